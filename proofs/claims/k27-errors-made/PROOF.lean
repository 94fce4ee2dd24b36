import PyProof.Rows.All
import Wide.All
import OpenK.AllK
import Wide.FinOn
import HandS.ForMost
import HandS.Flow
import HandS.IsInst
import HandS.RaiseMore
import KE.SortData
import KE.KDictCopyH
import KE.KDictSum
import HandS.More
import HandS.Star
import HandS.DictComp
import HandS.Property
import HandS.SetKeys
import PyProof.DictMoreH
import HandS.Walk
import HandS.DictTup
import KE.KeyNested
import HandS.ForExc
import HandS.Deep
import HandS.TupLe
import HandS.Iter
import HandS.TryOnly
import HandS.Style
import HandS.Strs
import HandS.Conv
import HandS.Dict
import HandS.Codes
import HandS.SlotsOwn
import KE.KExcSuper
import HandS.ExcInit
import HandS.ExcSuper
import HandS.ExcField
import HandS.Flt
import KE.KDictPairs
import KE.KDictDisplayH
import HandS.FStr
import HandS.ClsMeth
import KE.GoesEnum
import KE.GoesEnumKw
import KE.DataMinMax
import HandS.TupLen
import HandS.SetBool
import HandS.SetTxt0
import HandS.Comp
import HandS.Zip
import KE.DataCmp
import HandS.ListItems
import KE.KMinKey
import KE.KSuperObj
import HandS.Head0
import HandS.Head1
import HandS.Head2
import HandS.HeadEnd
import HandS.HeadHook1
import HandS.HeadHook2
import HandS.OwnEq
import PyProof.EqAt
import PyProof.EqKinds
import PyProof.TupleCall
import KE.KDictZip
import HandS.MakeKwOnly
import KE.GoesMore
import KE.GoesZip
import PyProof.CollectStr
import HandS.TupAny
import KE.KExcIs
import PySem.Challenge.RW_enoughpaid_k27_errors_made
set_option Elab.async false
set_option linter.all false
set_option maxRecDepth 100000
set_option maxHeartbeats 4000000
/-! Wx: the hand layer's judgements in one step each: goals of the form WE X e σ H Q, WS X st D σ H. -/
namespace Wx
open PySem PySem.Spec PyProof.Rows L2


section
variable {X : Cx} {σ : L2.St} {H : Hp}

@[irreducible] def WE (X : Cx) (e : Expr) : TE := fun σ H Q => ∀ pins s, Inv X pins σ H s → wpAny (model X.prog X.w) X.A (eval e X.env) (EP X pins σ Q) X.xe s
@[irreducible] def WT (X : Cx) (e : Expr) : TT := fun σ H Q => ∀ pins s, Inv X pins σ H s → wpAny (model X.prog X.w) X.A (isTrue e X.env (eval e X.env)) (TP X pins σ Q) X.xe s
@[irreducible] def WW (X : Cx) (e : Expr) : TT := fun σ H Q => ∀ whole pins s, Inv X pins σ H s → wpAny (model X.prog X.w) X.A (isTrue e X.env whole) (TP X pins σ Q) X.xe s
@[irreducible] def WA (X : Cx) (es : List Expr) : TA := fun σ H Q => ∀ pos pins s, Inv X pins σ H s → wpAny (model X.prog X.w) X.A (spliced (backTo pos (starEach es X.env))) (AP X pins σ Q) X.xe s
@[irreducible] def WS (X : Cx) (st : Stmt) : TS := fun D σ H => ∀ pins s, Inv X pins σ H s → wpAny (model X.prog X.w) X.A (exec st X.env) (SP X pins D) X.xe s
@[irreducible] def WSs (X : Cx) (st : List Stmt) : TS := fun D σ H => ∀ pins s, Inv X pins σ H s → wpAny (model X.prog X.w) X.A (execs st X.env) (SP X pins D) X.xe s
@[irreducible] def WG (X : Cx) (tg : Expr) : TG := fun v σ H Q => ∀ pins s u, Inv X pins σ H s → RelV v u → wpAny (model X.prog X.w) X.A (assign tg X.env u) (fun _ s' => ∃ σ' H', Inv X pins σ' H' s' ∧ Q σ' H') X.xe s
@[irreducible] def WI (X : Cx) (tg iter : Expr) : TI := fun σ H R => ∀ pins s, Inv X pins σ H s → wpAny (model X.prog X.w) X.A (eval iter X.env) (fun v s1 => wpAny (model X.prog X.w) X.A (pyIter v) (PIE X pins σ tg R) X.xe s1) X.xe s
/-- operations on values -/
@[irreducible] def WO (X : Cx) (f : Value → Value → Sem Value) : R2 := fun x y H Q => ∀ pins s σ v u, Inv X pins σ H s → RelV x v → RelV y u → wpAny (model X.prog X.w) X.A (f v u) (EP X pins σ Q) X.xe s
@[irreducible] def WU (X : Cx) (f : Value → Sem Value) : V → Hp → VK → Prop := fun x H Q => ∀ pins s σ v, Inv X pins σ H s → RelV x v → wpAny (model X.prog X.w) X.A (f v) (EP X pins σ Q) X.xe s
@[irreducible] def WC (X : Cx) (f : Value) : List V → Hp → VK → Prop := fun xs H Q => ∀ pins s σ us, Inv X pins σ H s → Vals xs us → wpAny (model X.prog X.w) X.A (call f us) (EP X pins σ Q) X.xe s
@[irreducible] def WM (X : Cx) (id : String) : V → List V → Hp → VK → Prop := fun x xs H Q => ∀ pins s σ v us, Inv X pins σ H s → RelV x v → Vals xs us → wpAny (model X.prog X.w) X.A (call (.builtin id) (v :: us)) (EP X pins σ Q) X.xe s
@[irreducible] def WIx (X : Cx) : R2 := fun x y H Q => ∀ value slice pins s σ v u, Inv X pins σ H s → RelV x v → RelV y u → subscripted slice false v u = operate [v, u] (getItem v u) → wpAny (model X.prog X.w) X.A (subscriptTail value slice v u) (EP X pins σ Q) X.xe s
@[irreducible] def WSl (X : Cx) : V → Option Int → Option Int → Hp → VK → Prop := fun x lo hi H Q => ∀ (pins : List (Addr × Obj)) (s : Shared) (σ : L2.St) (v vl vu : Value) (sl : Addr), Inv X pins σ H s → RelV x v → s.heap.IsSliceOf sl vl vu .none → IsPart vl lo → IsPart vu hi →
    ∃ T id, typeLookup (.type T) "__getitem__" = pure (some (.builtin id)) ∧ s.TypeIs v T ∧ wpAny (model X.prog X.w) X.A (getItem v (.ref sl)) (EP X pins σ Q) X.xe s
@[irreducible] def WSet (X : Cx) : TSet := fun o i v H Q => ∀ pins s σ ov iv u, Inv X pins σ H s → RelV o ov → RelV i iv → RelV v u → wpAny (model X.prog X.w) X.A (setItem ov iv u) (fun _ s' => ∃ H', Inv X pins σ H' s' ∧ Q H') X.xe s
@[irreducible] def WIp (X : Cx) (op : Operator) : TIp := fun x y H Q => ∀ pins s σ v u, Inv X pins σ H s → RelV x v → RelV y u → wpAny (model X.prog X.w) X.A (inplaceOp op v u) (EP X pins σ Q) X.xe s

theorem pe_w {e} : PE X e (WE X e) := by
  unfold WE; exact ⟨fun pins s _ _ _ I h => h pins s I⟩
theorem pt_w {e} : PT X e (WT X e) := by
  unfold WT; exact ⟨fun pins s _ _ _ I h => h pins s I⟩
theorem pw_w {e} : PW X e (WW X e) := by
  unfold WW; exact ⟨fun whole pins s _ _ _ I h => h whole pins s I⟩
theorem pa_w {e} : PA X e (WA X e) := by
  unfold WA; exact ⟨fun pos pins s _ _ _ I h => h pos pins s I⟩
theorem ps_w {e} : PS X e (WS X e) := by
  unfold WS; exact ⟨fun pins s _ _ _ I h => h pins s I⟩
theorem pss_w {e} : PSs X e (WSs X e) := by
  unfold WSs; exact ⟨fun pins s _ _ _ I h => h pins s I⟩
theorem pg_w {e} : PG X e (WG X e) := by
  unfold WG; exact ⟨fun pins s _ _ _ u _ I r h => h pins s u I r⟩
theorem pi_w {tg e} : PI X tg e (WI X tg e) := by
  unfold WI; exact ⟨fun pins s _ _ _ I h => h pins s I⟩
theorem op_w {f} : OpR X f (WO X f) := by
  unfold WO; exact fun pins s σ _ _ _ v u _ I r r' h => h pins s σ v u I r r'
theorem un_w {f} : UnR X f (WU X f) := by
  unfold WU; exact fun pins s σ _ _ v _ I r h => h pins s σ v I r
theorem call_w {f} : CallR X f (WC X f) := by
  unfold WC; exact fun pins s σ _ _ us _ I r h => h pins s σ us I r
theorem mt_w {f} : MtR X f (WM X f) := by
  unfold WM; exact fun pins s σ _ _ _ v us _ I r r' h => h pins s σ v us I r r'
theorem ix_w : IxR X (WIx X) := by
  unfold WIx; exact fun a b pins s σ _ _ _ v u _ I r r' h hs => h a b pins s σ v u I r r' hs
theorem sl_w : SlR X (WSl X) := by
  unfold WSl; exact fun pins s σ _ _ v vl vu _ _ sl _ I r h1 h2 h3 h => h pins s σ v vl vu sl I r h1 h2 h3
theorem set_w : PSet X (WSet X) := by
  unfold WSet; exact fun pins s σ _ _ _ _ ov iv u _ I r1 r2 r3 h => h pins s σ ov iv u I r1 r2 r3
theorem ip_w {op} : PIp X op (WIp X op) := by
  unfold WIp; exact fun pins s σ _ _ _ v u _ I r r' h => h pins s σ v u I r r'

theorem WE.of {e t Q} (h : PE X e t) (q : t σ H Q) : WE X e σ H Q := by
  unfold WE; exact fun pins s I => h.run pins s σ H Q I q
theorem WT.of {e t Q} (h : PT X e t) (q : t σ H Q) : WT X e σ H Q := by
  unfold WT; exact fun pins s I => h.run pins s σ H Q I q
theorem WW.of {e t Q} (h : PW X e t) (q : t σ H Q) : WW X e σ H Q := by
  unfold WW; exact fun whole pins s I => h.run whole pins s σ H Q I q
theorem WA.of {e t Q} (h : PA X e t) (q : t σ H Q) : WA X e σ H Q := by
  unfold WA; exact fun pos pins s I => h.run pos pins s σ H Q I q
theorem WS.of {e t D} (h : PS X e t) (q : t D σ H) : WS X e D σ H := by
  unfold WS; exact fun pins s I => h.run pins s σ H D I q
theorem WSs.of {e t D} (h : PSs X e t) (q : t D σ H) : WSs X e D σ H := by
  unfold WSs; exact fun pins s I => h.run pins s σ H D I q
theorem WG.of {e t v Q} (h : PG X e t) (q : t v σ H Q) : WG X e v σ H Q := by
  unfold WG; exact fun pins s u I r => h.run pins s σ H v u Q I r q
theorem WI.of {tg e t Q} (h : PI X tg e t) (q : t σ H Q) : WI X tg e σ H Q := by
  unfold WI; exact fun pins s I => h.run pins s σ H Q I q
theorem WO.of {f r x y Q} (h : OpR X f r) (q : r x y H Q) : WO X f x y H Q := by
  unfold WO; exact fun pins s σ v u I r r' => h pins s σ H x y v u Q I r r' q
theorem WU.of {f r x Q} (h : UnR X f r) (q : r x H Q) : WU X f x H Q := by
  unfold WU; exact fun pins s σ v I r => h pins s σ H x v Q I r q
theorem WC.of {f r x Q} (h : CallR X f r) (q : r x H Q) : WC X f x H Q := by
  unfold WC; exact fun pins s σ us I r => h pins s σ H x us Q I r q
theorem WM.of {f r x xs Q} (h : MtR X f r) (q : r x xs H Q) : WM X f x xs H Q := by
  unfold WM; exact fun pins s σ v us I r r' => h pins s σ H x xs v us Q I r r' q
theorem WIx.of {r x y Q} (h : IxR X r) (q : r x y H Q) : WIx X x y H Q := by
  unfold WIx; exact fun a b pins s σ v u I r r' hs => h a b pins s σ H x y v u Q I r r' q hs
theorem WSl.of {r x lo hi Q} (h : SlR X r) (q : r x lo hi H Q) : WSl X x lo hi H Q := by
  unfold WSl; exact fun pins s σ v vl vu sl I r h1 h2 h3 => h pins s σ H x v vl vu lo hi sl Q I r h1 h2 h3 q
theorem WSet.of {r o i v Q} (h : PSet X r) (q : r o i v H Q) : WSet X o i v H Q := by
  unfold WSet; exact fun pins s σ ov iv u I r1 r2 r3 => h pins s σ H o i v ov iv u Q I r1 r2 r3 q
theorem WIp.of {op r x y Q} (h : PIp X op r) (q : r x y H Q) : WIp X op x y H Q := by
  unfold WIp; exact fun pins s σ v u I r r' => h pins s σ H x y v u Q I r r' q

theorem WE.mono {e Q Q'} (h : ∀ v H, Q v H → Q' v H) (q : WE X e σ H Q) : WE X e σ H Q' := by
  unfold WE at *; exact fun pins s I =>
  thn (q pins s I) fun _ _ ⟨v, H', I', r, q⟩ => ⟨v, H', I', r, h _ _ q⟩
theorem WT.mono {e Q Q'} (h : ∀ v H, Q v H → Q' v H) (q : WT X e σ H Q) : WT X e σ H Q' := by
  unfold WT at *; exact fun pins s I =>
  thn (q pins s I) fun _ _ ⟨H', I', q⟩ => ⟨H', I', h _ _ q⟩

/-! ### names -/
def lookN : List Str → List (Option V) → Str → Option V
  | n :: ns, v :: vs, x => if n = x then v else lookN ns vs x
  | _, _, _ => none
def idxN : List Str → Str → Option Nat
  | [], _ => none
  | n :: ns, x => if n = x then some 0 else (idxN ns x).map (· + 1)
theorem lookN_at : ∀ {N : List Str} {σ : List (Option V)} {x : Str} {v : V}, lookN N σ x = some v → ∃ i : Nat, N[i]? = some x ∧ σ[i]? = some (some v)
  | [], _, _, _, h => nomatch h
  | _ :: _, [], _, _, h => nomatch h
  | n :: ns, w :: ws, x, v, h => by
    unfold lookN at h
    split at h
    · rename_i e
      subst e
      exact ⟨0, rfl, congrArg some h⟩
    · obtain ⟨i, a, b⟩ := lookN_at h
      exact ⟨i + 1, a, b⟩
theorem idxN_at : ∀ {N : List Str} {x : Str} {i : Nat}, idxN N x = some i → N[i]? = some x
  | [], _, _, h => nomatch h
  | n :: ns, x, i, h => by
    unfold idxN at h
    split at h
    · rename_i e
      subst e
      cases h
      rfl
    · cases e : idxN ns x with
      | none => rw [e] at h; cases h
      | some j =>
        rw [e] at h
        cases h
        rw [List.getElem?_cons_succ]
        exact idxN_at e
theorem we_nm {x : Str} {pos : Pos} {v : V} {Q : VK} (hl : lookN X.N σ x = some v) (q : Q v H) (hv : Vis X.env.scope x := by first | exact Or.inl rfl | exact Or.inr (Or.inl rfl) | exact Or.inr (Or.inr rfl)) (hd : (x == ("__debug__" : Str)) = false := by decide)
    (hcd : (x == ("__classdict__" : Str)) = false := by decide) : WE X (.Name x pos) σ H Q := by
  obtain ⟨i, a, b⟩ := lookN_at hl
  exact WE.of (pe_var a hv hd hcd) ⟨v, b, q⟩
theorem wg_nm {x : Str} {pos : Pos} {v : V} {i : Nat} {Q : L2.St → Hp → Prop} (hN : X.N.Nodup) (hi : idxN X.N x = some i) (q : Q (σ.set i (some v)) H) (hx : Loc X.env.scope x := by first | exact Or.inl rfl | exact Or.inr rfl)
    (hf : X.fn x = true ∨ X.env.scope.names.lookup x = some .local := by first | exact .inl rfl | exact .inr rfl) : WG X (.Name x pos) v σ H Q :=
  WG.of (pg_name hN (idxN_at hi) hx hf) q

/-! ### constants -/
variable {Q : VK} {pos : Pos}
theorem we_int {i j} (q : Q (.int i) H) : WE X (.Constant (.int i) j pos) σ H Q := WE.of pe_int q
theorem we_str {x j} (q : Q (.str x) H) : WE X (.Constant (.str x) j pos) σ H Q := WE.of pe_str q
theorem we_bl {b j} (q : Q (.bl b) H) : WE X (.Constant (.bool b) j pos) σ H Q := WE.of pe_bl q
theorem we_non {j} (q : Q .non H) : WE X (.Constant .none j pos) σ H Q := WE.of pe_non q
theorem we_glob {x : Str} {v : V} {u : Value} (hg : Gl X x) (hm : X.mg x = some u) (r : RelV v u) (q : Q v H) (hd : (x == ("__debug__" : Str)) = false := by decide) : WE X (.Name x pos) σ H Q := WE.of (pe_glob hg hm r hd) q

/-! ### operators -/
theorem we_op {a b : Expr} {op} (q : WE X a σ H fun x H1 => WE X b σ H1 fun y H2 => WO X (binaryOp op) x y H2 Q) : WE X (.BinOp a op b pos) σ H Q := WE.of (pe_op op_w pe_w pe_w) q
theorem we_un {a : Expr} {op} (q : WE X a σ H fun x H1 => WU X (unaryOp op) x H1 Q) : WE X (.UnaryOp op a pos) σ H Q := WE.of (pe_un un_w pe_w) q
theorem we_cmp {a b : Expr} {op} (q : WE X a σ H fun x H1 => WE X b σ H1 fun y H2 => WO X (compareOp op) x y H2 Q) (hm : behindInMarks op b = false := by first | exact nobehind _ (by decide) (by decide) | rfl) : WE X (.Compare a [op] [b] pos) σ H Q := WE.of (pe_cmpR op_w pe_w pe_w hm) q
theorem wt_cmp {a b : Expr} {op} {Q : Bool → Hp → Prop} (q : WE X a σ H fun x H1 => WE X b σ H1 fun y H2 => WO X (compareOp op) x y H2 fun z H3 => ∃ k, z = .bl k ∧ Q k H3) (hm : behindInMarks op b = false := by first | exact nobehind _ (by decide) (by decide) | rfl) : WT X (.Compare a [op] [b] pos) σ H Q := WT.of (pt_cmpR op_w pe_w pe_w hm) q
theorem we_chain {a b c : Expr} {op op'} (q : WE X a σ H fun x H1 => WE X b σ H1 fun y H2 => WO X (compareOp op) x y H2 fun z H3 => ∃ k, z = .bl k ∧ (if k = true then WE X c σ H3 fun w' H4 => WO X (compareOp op') y w' H4 Q else Q (.bl false) H3))
    (hm : lastMarks [op, op'] [b, c] = false := by with_unfolding_all rfl) : WE X (.Compare a [op, op'] [b, c] pos) σ H Q := WE.of (pe_chain op_w op_w pe_w pe_w pe_w hm) q
theorem wt_chain {a b c : Expr} {op op'} {Q : Bool → Hp → Prop} (q : WE X a σ H fun x H1 => WE X b σ H1 fun y H2 => WO X (compareOp op) x y H2 fun z H3 => ∃ k, z = .bl k ∧ (if k = true then WE X c σ H3 fun w' H4 => WO X (compareOp op') y w' H4 fun z H5 => ∃ k, z = .bl k ∧ Q k H5 else ∃ k, V.bl false = .bl k ∧ Q k H3))
    (hm : lastMarks [op, op'] [b, c] = false := by with_unfolding_all rfl) : WT X (.Compare a [op, op'] [b, c] pos) σ H Q := WT.of (pt_chain op_w op_w pe_w pe_w pe_w hm) q
/-! ### tests -/
theorem wt_val {e : Expr} {Q : Bool → Hp → Prop} (q : WE X e σ H fun x H1 => ∃ c, x = .bl c ∧ Q c H1) (he : ∀ whole, isTrue e X.env whole = (do let v ← whole; standAt e.pos; holding [v] (truthy v)) := by intro _; rfl) : WT X e σ H Q := WT.of (pt_val pe_w he) q
theorem wt_not {a : Expr} {Q : Bool → Hp → Prop} (q : WT X a σ H fun c H1 => Q (!c) H1) : WT X (.UnaryOp .Not a pos) σ H Q := WT.of (pt_not pt_w) q
theorem wt_bop {op es} {Q : Bool → Hp → Prop} (q : WW X (.BoolOp op es pos) σ H Q) : WT X (.BoolOp op es pos) σ H Q := WT.of (PW.pt pw_w) q
theorem ww_and {a b : Expr} {rest} {Q : Bool → Hp → Prop} (q : WT X a σ H fun c H1 => if c = true then WW X (.BoolOp .And (b :: rest) pos) σ H1 Q else Q false H1) : WW X (.BoolOp .And (a :: b :: rest) pos) σ H Q := WW.of (pw_and pt_w pw_w) q
theorem ww_and1 {a : Expr} {Q : Bool → Hp → Prop} (q : WT X a σ H Q) : WW X (.BoolOp .And [a] pos) σ H Q := WW.of (pw_and1 pt_w) q
theorem ww_or {a b : Expr} {rest} {Q : Bool → Hp → Prop} (q : WT X a σ H fun c H1 => if c = true then Q true H1 else WW X (.BoolOp .Or (b :: rest) pos) σ H1 Q) : WW X (.BoolOp .Or (a :: b :: rest) pos) σ H Q := WW.of (pw_or pt_w pw_w) q
theorem ww_or1 {a : Expr} {Q : Bool → Hp → Prop} (q : WT X a σ H Q) : WW X (.BoolOp .Or [a] pos) σ H Q := WW.of (pw_or1 pt_w) q
theorem we_and {a b : Expr} {rest} (q : WE X a σ H fun x H1 => ∃ c, x = .bl c ∧ if c = true then WE X (.BoolOp .And (b :: rest) pos) σ H1 Q else Q (.bl false) H1) : WE X (.BoolOp .And (a :: b :: rest) pos) σ H Q := WE.of (pe_and pe_w pe_w) q
theorem we_or {a b : Expr} {rest} (q : WE X a σ H fun x H1 => ∃ c, x = .bl c ∧ if c = true then Q (.bl true) H1 else WE X (.BoolOp .Or (b :: rest) pos) σ H1 Q) : WE X (.BoolOp .Or (a :: b :: rest) pos) σ H Q := WE.of (pe_or pe_w pe_w) q
theorem we_one {a : Expr} {op} (q : WE X a σ H Q) : WE X (.BoolOp op [a] pos) σ H Q := WE.of (pe_one pe_w) q
theorem we_not {a : Expr} (q : WE X a σ H fun x H1 => ∃ c, x = .bl c ∧ Q (.bl (!c)) H1) : WE X (.UnaryOp .Not a pos) σ H Q := WE.of (pe_not pe_w) q
theorem we_if {a b c : Expr} (q : WT X c σ H fun k H1 => if k = true then WE X a σ H1 Q else WE X b σ H1 Q) : WE X (.IfExp c a b pos) σ H Q := WE.of (pe_ifExp pt_w pe_w pe_w) q
/-! ### displays, subscripts -/
theorem we_tup {es x1} (q : WA X es σ H fun xs H1 => xs.length ≤ sizeLine ∧ ∀ p, H1 p = none → Q (.ref p) (upd H1 p (.tup xs))) : WE X (.Tuple es x1 pos) σ H Q := WE.of (pe_tup pa_w) q
theorem we_lst {es} (q : WA X es σ H fun xs H1 => xs.length ≤ sizeLine ∧ ∀ p, H1 p = none → Q (.ref p) (upd H1 p (.lst xs))) : WE X (.List es pos) σ H Q := WE.of (pe_lst pa_w) q
theorem wa_nil {Q : List V → Hp → Prop} (q : Q [] H) : WA X [] σ H Q := WA.of pa_nil q
theorem wa_cons {e es} {Q : List V → Hp → Prop} (q : WE X e σ H fun x H1 => WA X es σ H1 fun xs H2 => Q (x :: xs) H2) (hs : starEach (e :: es) X.env = (false, eval e X.env) :: starEach es X.env := by rfl) : WA X (e :: es) σ H Q := WA.of (pa_cons pe_w pa_w hs) q
theorem we_ix {a b : Expr} (q : WE X a σ H fun x H1 => WE X b σ H1 fun y H2 => WIx X x y H2 Q) (hs : PlainIx b := by exact fun _ _ => rfl) : WE X (.Subscript a b pos) σ H Q := WE.of (pe_ix ix_w pe_w pe_w hs) q
theorem we_sl00 {e : Expr} {p2} (q : WE X e σ H fun x H1 => WSl X x none none H1 Q) : WE X (.Subscript e (.Slice none none none p2) pos) σ H Q := WE.of (pe_slice sl_w pe_w po_none po_none) q
theorem we_sl10 {e l : Expr} {p2} (q : WE X e σ H fun x H1 => WE X l σ H1 fun y H2 => ∃ i, y = .int i ∧ WSl X x (some i) none H2 Q) : WE X (.Subscript e (.Slice (some l) none none p2) pos) σ H Q := WE.of (pe_slice sl_w pe_w (po_some pe_w) po_none) q
theorem we_sl01 {e u : Expr} {p2} (q : WE X e σ H fun x H1 => WE X u σ H1 fun y H2 => ∃ i, y = .int i ∧ WSl X x none (some i) H2 Q) : WE X (.Subscript e (.Slice none (some u) none p2) pos) σ H Q := WE.of (pe_slice sl_w pe_w po_none (po_some pe_w)) q
theorem we_sl11 {e l u : Expr} {p2} (q : WE X e σ H fun x H1 => WE X l σ H1 fun y H2 => ∃ i, y = .int i ∧ WE X u σ H2 fun z H3 => ∃ j, z = .int j ∧ WSl X x (some i) (some j) H3 Q) : WE X (.Subscript e (.Slice (some l) (some u) none p2) pos) σ H Q := WE.of (pe_slice sl_w pe_w (po_some pe_w) (po_some pe_w)) q
/-! ### calls of built-ins -/
theorem we_callB {x : Str} {p : Pos} {e es id} (hg : Gl X x) (hm : X.mg x = none) (hv : bootBuiltins x = some (.builtin id)) (q : WA X (e :: es) σ H fun xs H1 => WC X (.builtin id) xs H1 Q) (hn : x ≠ "__name__" := by decide) (hdb : (x == ("__debug__" : Str)) = false := by decide)
    (he : starEach (e :: es) X.env = (false, eval e X.env) :: starEach es X.env := by rfl) (hpl : (backTo pos (starEach es X.env)).any (·.1) = false := by rfl) : WE X (.Call (.Name x p) (e :: es) [] pos) σ H Q :=
  WE.of (pe_callB call_w hg hm hv pa_w hn hdb he hpl) q
theorem we_callTy {x : Str} {p : Pos} {e es T} (hg : Gl X x) (hm : X.mg x = none) (hv : bootBuiltins x = some (.type T)) (q : WA X (e :: es) σ H fun xs H1 => WC X (.type T) xs H1 Q) (hn : x ≠ "__name__" := by decide) (hdb : (x == ("__debug__" : Str)) = false := by decide)
    (he : starEach (e :: es) X.env = (false, eval e X.env) :: starEach es X.env := by rfl) (hpl : (backTo pos (starEach es X.env)).any (·.1) = false := by rfl) : WE X (.Call (.Name x p) (e :: es) [] pos) σ H Q :=
  WE.of (pe_callTy call_w hg hm hv pa_w hn hdb he hpl) q
theorem we_call {CX k f fd ps sp dvs ds E} {x : Str} {p : Pos} {e es} (F : FnOk X.prog X.w X.K X.mg X.base CX k f fd ps sp) (hr : Room k X.A) (hg : Gl X x) (hm : X.mg x = some (.ref f)) (hk : PySem.W.keepIn X.K (.ref f) = true) (hb : Binds X.K fd ps ds) (hd : Vals dvs ds) (hx : Passes CX X E)
    (q : WA X (e :: es) σ H fun vs H1 => sp (vs ++ dvs) H1 Q E) (hdb : (x == ("__debug__" : Str)) = false := by decide) (he : starEach (e :: es) X.env = (false, eval e X.env) :: starEach es X.env := by rfl) (hpl : (backTo pos (starEach es X.env)).any (·.1) = false := by rfl) :
    WE X (.Call (.Name x p) (e :: es) [] pos) σ H Q := WE.of (pe_call F hr hg hm hk hb hd hx pa_w hdb he hpl) q
theorem we_bm0 {T name id o apos} (pa : PlainAttrs T) (slot : Slot T name id) (hty : typeOf (.builtin id) = pure (.type "method_descriptor")) (q : WE X o σ H fun x H1 => tyV X.K T x H1 ∧ WM X id x [] H1 Q)
    (hbase : attributeBase o name X.env (eval o X.env) = eval o X.env := by rfl) (hline : (apos.endLine == pos.line) = true := by rfl) : WE X (.Call (.Attribute o name apos) [] [] pos) σ H Q := WE.of (pe_bm0 pa slot hty mt_w pe_w hbase hline) q
theorem we_bm {T name id o apos e es} (pa : PlainAttrs T) (slot : Slot T name id) (hty : typeOf (.builtin id) = pure (.type "method_descriptor")) (q : WE X o σ H fun x H1 => tyV X.K T x H1 ∧ WA X (e :: es) σ H1 fun vs H2 => WM X id x vs H2 Q)
    (hbase : attributeBase o name X.env (eval o X.env) = eval o X.env := by rfl)
    (hfew : ((backTo pos (starEach (e :: es) X.env)).all (fun x => !x.1) && (backToKw pos (keywordEach [] X.env)).all (fun x => x.1.isSome)
      && decide ((e :: es).length + ([] : List Keyword).length + (if ([] : List Keyword).isEmpty then 0 else 1) < 30)) = true := by rfl)
    (hline : (apos.endLine == pos.line) = true := by rfl) (hs : starEach (e :: es) X.env = (false, eval e X.env) :: starEach es X.env := by rfl) (hplain : (backTo pos (starEach es X.env)).any (·.1) = false := by rfl) :
    WE X (.Call (.Attribute o name apos) (e :: es) [] pos) σ H Q := WE.of (pe_bm pa slot hty mt_w pe_w pa_w hbase hfew hline hs hplain) q
/-! ### statements -/
variable {D : Ends}
theorem ws_cons {st rest} {nx : L2.St → Hp → Prop} {rt : VK} {bk ct : L2.St → Hp → Prop} (q : WS X st ⟨WSs X rest ⟨nx, rt, bk, ct⟩, rt, bk, ct⟩ σ H) : WSs X (st :: rest) ⟨nx, rt, bk, ct⟩ σ H := WSs.of (pss_cons ps_w pss_w) q
theorem ws_one {st} (q : WS X st D σ H) : WSs X [st] D σ H := WSs.of (pss_one ps_w) q
theorem ws_nil (q : D.nx σ H) : WSs X [] D σ H := WSs.of pss_nil q
theorem ws_expr {e} (q : WE X e σ H fun _ H1 => D.nx σ H1) (hs : swapsWith e none pos.line X.env = pure false := by rfl) : WS X (.Expr e pos) D σ H := WS.of (ps_expr pe_w hs) q
theorem ws_ret {e} (q : WE X e σ H D.rt) : WS X (.Return (some e) pos) D σ H := WS.of (ps_ret pe_w) q
theorem ws_if {c a b} (q : WT X c σ H fun k H1 => if k = true then WSs X a D σ H1 else WSs X b D σ H1) : WS X (.If c a b pos) D σ H := WS.of (ps_if pt_w pss_w pss_w) q
theorem ws_asg {tg e} (q : WE X e σ H fun x H1 => WG X tg x σ H1 D.nx) (hs : swapsWithSole [tg] e pos.line X.env = pure false := by rfl) (hw : swappedStores [tg] e X.env = pure none := by rfl)
    (h1 : (assignEach [tg] X.env).map (·.2) = [assign tg X.env] := by rfl) : WS X (.Assign [tg] e pos) D σ H := WS.of (ps_asg pe_w pg_w hs hw h1) q
theorem ws_set {x : Str} {e : Expr} {pos' : Pos} {i : Nat} (hN : X.N.Nodup) (hi : idxN X.N x = some i) (q : WE X e σ H fun v H1 => D.nx (σ.set i (some v)) H1) (hx : Loc X.env.scope x := by first | exact Or.inl rfl | exact Or.inr rfl)
    (hs : swapsWith e (some (.Name x pos')) pos.line X.env = pure false := by rfl) (hf : X.fn x = true ∨ X.env.scope.names.lookup x = some .local := by first | exact .inl rfl | exact .inr rfl) : WS X (.Assign [.Name x pos'] e pos) D σ H :=
  WS.of (ps_set hN (idxN_at hi) hx pe_w hs hf) q
theorem ws_aug {x : Str} {e : Expr} {pos' : Pos} {op : Operator} {i : Nat} {v : V} (hN : X.N.Nodup) (hi : idxN X.N x = some i) (hv : σ[i]? = some (some v)) (q : WE X e σ H fun y H1 => WIp X op v y H1 fun z H2 => D.nx (σ.set i (some z)) H2) (hx : Loc X.env.scope x := by first | exact Or.inl rfl | exact Or.inr rfl)
    (hf : X.fn x = true ∨ X.env.scope.names.lookup x = some .local := by first | exact .inl rfl | exact .inr rfl) : WS X (.AugAssign (.Name x pos') op e pos) D σ H :=
  WS.of (ps_aug hN (idxN_at hi) hx pe_w ip_w hf) ⟨v, hv, q⟩
theorem wg_sub {o i : Expr} {v : V} {Q : L2.St → Hp → Prop} (q : WE X o σ H fun a H1 => WE X i σ H1 fun b H2 => WSet X a b v H2 fun H3 => Q σ H3)
    (ha : ∀ v, assign (.Subscript o i pos) X.env v = (do
      let ov ← holding [v] (eval o X.env)
      let iv ← holding [v, ov] (eval i X.env)
      standAt pos
      holding [v, ov, iv] (setItem ov iv v)
      release [v, ov, iv] []) := by intro _; rfl) : WG X (.Subscript o i pos) v σ H Q := WG.of (pg_sub pe_w pe_w set_w ha) q
theorem ws_for {tg iter body} (hp : PassesOwn (model X.prog X.w) X.A X.env X.xe) (hc : X.calm = true) (q : tFor (WI X tg iter) (WG X tg) (WSs X body) D σ H) (hs : ∀ x, foldedSetIterable iter X.env x = pure x := by intro _; rfl) : WS X (.For tg iter body [] pos) D σ H :=
  WS.of (ps_for hp hc pi_w pg_w pss_w hs) q
end
end Wx

namespace Wx
open PySem PySem.Spec PyProof.Rows L2

/-! ### heaps -/
def Ex (H H' : Hp) : Prop := ∀ a o, H a = some o → H' a = some o
theorem Ex.refl (H : Hp) : Ex H H := fun _ _ h => h
theorem Ex.trans {H H1 H2 : Hp} (a : Ex H H1) (b : Ex H1 H2) : Ex H H2 := fun x o h => b x o (a x o h)
theorem Ex.new {H : Hp} {p : Addr} {o : HO} (h : H p = none) : Ex H (upd H p o) := fun a u e => by
  rw [upd_ne (ne_of_none e h)]
  exact e
theorem Ex.fresh {H H' : Hp} {p : Addr} (e : Ex H H') (h : H' p = none) : H p = none := by
  cases h1 : H p with
  | none => rfl
  | some o =>
    rw [e p o h1] at h
    cases h
theorem Ex.rd {H H' : Hp} {a : Addr} {u : HO} (e : Ex H H') (h : Rd H a u) : Rd H' a u := by
  rcases h with h | ⟨o, h⟩
  · exact Or.inl (e a _ h)
  · exact Or.inr ⟨o, e a _ h⟩
theorem Ex.l {K : PySem.W.Frag} {H H' : Hp} {a : Addr} {xs : List V} (e : Ex H H') (h : SqL K H a xs) : SqL K H' a xs := by
  rcases h with h | h
  · exact Or.inl (e.rd h)
  · exact Or.inr h
theorem Ex.t {K : PySem.W.Frag} {H H' : Hp} {a : Addr} {xs : List V} (e : Ex H H') (h : SqT K H a xs) : SqT K H' a xs := by
  rcases h with h | h
  · exact Or.inl (e.rd h)
  · exact Or.inr h
theorem sq_of {K : PySem.W.Frag} {H : Hp} {a : Addr} {xs : List V} (h : H a = some (.lst xs)) : SqL K H a xs := Or.inl (Or.inl h)
theorem st_of {K : PySem.W.Frag} {H : Hp} {a : Addr} {xs : List V} (h : H a = some (.tup xs)) : SqT K H a xs := Or.inl (Or.inl h)
theorem sz_le {n : Nat} (h : n ≤ 16000000) : n ≤ sizeLine := Nat.le_trans h (by decide)
theorem sz_lt {n : Nat} (h : n < 16000000) : n < sizeLine := Nat.lt_of_lt_of_le h (by decide)

section
variable {X : Cx} {σ : L2.St} {H : Hp} {Q : VK} {i j : Int} {pos : Pos}
/-! ### ints -/
theorem wo_add (q : Q (.int (i + j)) H) : WO X (binaryOp .Add) (.int i) (.int j) H Q := WO.of op_add ⟨i, j, rfl, rfl, q⟩
theorem wo_sub (q : Q (.int (i - j)) H) : WO X (binaryOp .Sub) (.int i) (.int j) H Q := WO.of op_sub ⟨i, j, rfl, rfl, q⟩
theorem wo_mul (h : CMul i j) (q : Q (.int (i * j)) H) : WO X (binaryOp .Mult) (.int i) (.int j) H Q := WO.of op_mul ⟨i, j, rfl, rfl, h, q⟩
theorem wo_fdiv (h : CDiv i j) (q : Q (.int (i / j)) H) : WO X (binaryOp .FloorDiv) (.int i) (.int j) H Q := WO.of op_fdiv ⟨i, j, rfl, rfl, h, q⟩
theorem wo_mod (h : 0 < j) (q : Q (.int (i % j)) H) : WO X (binaryOp .Mod) (.int i) (.int j) H Q := WO.of op_mod ⟨i, j, rfl, rfl, h, q⟩
theorem wo_pow (h : CPow i j) (q : Q (.int (i ^ j.toNat)) H) : WO X (binaryOp .Pow) (.int i) (.int j) H Q := WO.of op_pow ⟨i, j, rfl, rfl, h, q⟩
theorem wo_lt (q : Q (.bl (decide (i < j))) H) : WO X (compareOp .Lt) (.int i) (.int j) H Q := WO.of op_lt ⟨i, j, rfl, rfl, q⟩
theorem wo_le (q : Q (.bl (decide (i ≤ j))) H) : WO X (compareOp .LtE) (.int i) (.int j) H Q := WO.of op_le ⟨i, j, rfl, rfl, q⟩
theorem wo_gt (q : Q (.bl (decide (j < i))) H) : WO X (compareOp .Gt) (.int i) (.int j) H Q := WO.of op_gt ⟨i, j, rfl, rfl, q⟩
theorem wo_ge (q : Q (.bl (decide (j ≤ i))) H) : WO X (compareOp .GtE) (.int i) (.int j) H Q := WO.of op_ge ⟨i, j, rfl, rfl, q⟩
theorem decI {i j : Int} : decide (V.int i = V.int j) = decide (i = j) := by
  by_cases h : i = j
  · subst h; simp
  · rw [decide_eq_false h, decide_eq_false (fun e => h (V.int.inj e))]
theorem decS {i j : Str} : decide (V.str i = V.str j) = decide (i = j) := by
  by_cases h : i = j
  · subst h; simp
  · rw [decide_eq_false h, decide_eq_false (fun e => h (V.str.inj e))]
theorem wo_eq (q : Q (.bl (decide (i = j))) H) : WO X (compareOp .Eq) (.int i) (.int j) H Q := WO.of op_eq ⟨rfl, by rw [decI]; exact q⟩
theorem wo_ne (q : Q (.bl (!decide (i = j))) H) : WO X (compareOp .NotEq) (.int i) (.int j) H Q := WO.of op_ne ⟨rfl, by rw [decI]; exact q⟩
theorem wo_eqS {x y : Str} (q : Q (.bl (decide (x = y))) H) : WO X (compareOp .Eq) (.str x) (.str y) H Q := WO.of op_eq ⟨rfl, by rw [decS]; exact q⟩
theorem wo_neS {x y : Str} (q : Q (.bl (!decide (x = y))) H) : WO X (compareOp .NotEq) (.str x) (.str y) H Q := WO.of op_ne ⟨rfl, by rw [decS]; exact q⟩
theorem wo_addS {x y : Str} (h : x.length + y.length ≤ 16000000) (q : Q (.str (x ++ y)) H) : WO X (binaryOp .Add) (.str x) (.str y) H Q := WO.of op_add_str ⟨x, y, rfl, rfl, sz_le h, q⟩
theorem wu_neg (q : Q (.int (-i)) H) : WU X (unaryOp .USub) (.int i) H Q := WU.of un_neg ⟨i, rfl, q⟩
/-! ### lists and tuples -/
theorem wix_l {p : Addr} {xs : List V} {v : V} (h : SqL X.K H p xs) (ha : atI xs i = some v) (q : Q v H) : WIx X (.ref p) (.int i) H Q := WIx.of ix_list ⟨p, xs, i, v, rfl, rfl, h, ha, q⟩
theorem wix_t {p : Addr} {xs : List V} {v : V} (h : SqT X.K H p xs) (ha : atI xs i = some v) (q : Q v H) : WIx X (.ref p) (.int i) H Q := WIx.of ix_tup ⟨p, xs, i, v, rfl, rfl, h, ha, q⟩
theorem wix_s {z : Str} {c : Nat} (h : z.length ≤ 16000000) (ha : atI z.cps.toList i = some c) (q : Q (.str ⟨#[c]⟩) H) : WIx X (.str z) (.int i) H Q := WIx.of ix_str ⟨z, i, c, rfl, rfl, sz_le h, ha, q⟩
theorem wset_l {p : Addr} {xs : List V} {v : V} {k : Nat} {Q : Hp → Prop} (h : H p = some (.lst xs)) (hi : ixN xs.length i = some k) (q : Q (upd H p (.lst (xs.set k v)))) : WSet X (.ref p) (.int i) v H Q := WSet.of set_list ⟨p, xs, i, k, rfl, rfl, h, hi, q⟩
theorem wip_add (q : Q (.int (i + j)) H) : WIp X .Add (.int i) (.int j) H Q := WIp.of ip_add ⟨i, j, rfl, rfl, q⟩
theorem wip_sub (q : Q (.int (i - j)) H) : WIp X .Sub (.int i) (.int j) H Q := WIp.of ip_sub ⟨i, j, rfl, rfl, q⟩
/-! ### built-ins by name -/
theorem we_len {p : Pos} {e es} (hm : X.mg "len" = none) (q : WA X (e :: es) σ H fun xs H1 => WC X (.builtin "len") xs H1 Q) (hg : Gl X "len" := by rfl)
    (he : starEach (e :: es) X.env = (false, eval e X.env) :: starEach es X.env := by rfl) (hpl : (backTo pos (starEach es X.env)).any (·.1) = false := by rfl) : WE X (.Call (.Name "len" p) (e :: es) [] pos) σ H Q := we_callB hg hm PySem.boot_len q (by decide) (by decide) he hpl
theorem boot_int : bootBuiltins "int" = some (.type "int") := by decide +kernel
theorem we_intT {p : Pos} {e es} (hm : X.mg "int" = none) (q : WA X (e :: es) σ H fun xs H1 => WC X (.type "int") xs H1 Q) (hg : Gl X "int" := by rfl)
    (he : starEach (e :: es) X.env = (false, eval e X.env) :: starEach es X.env := by rfl) (hpl : (backTo pos (starEach es X.env)).any (·.1) = false := by rfl) : WE X (.Call (.Name "int" p) (e :: es) [] pos) σ H Q := we_callTy hg hm boot_int q (by decide) (by decide) he hpl
theorem wc_int (q : Q (.int i) H) : WC X (.type "int") [.int i] H Q := WC.of call_int1 (.inl ⟨i, rfl, q⟩)
theorem wc_lenL {p : Addr} {xs : List V} (h : SqL X.K H p xs) (q : Q (.int xs.length) H) : WC X (.builtin "len") [.ref p] H Q := WC.of call_len_seq ⟨p, xs, rfl, .inl h, q⟩
theorem wc_lenT {p : Addr} {xs : List V} (h : SqT X.K H p xs) (q : Q (.int xs.length) H) : WC X (.builtin "len") [.ref p] H Q := WC.of call_len_seq ⟨p, xs, rfl, .inr h, q⟩
theorem wc_lenS {z : Str} (h : z.length ≤ 16000000) (q : Q (.int z.length) H) : WC X (.builtin "len") [.str z] H Q := WC.of call_len_str ⟨z, rfl, sz_le h, q⟩
/-! ### loops -/
variable {D : Ends}
theorem ws_forL {nx : L2.St → Hp → Prop} {rt : VK} {bk ct : L2.St → Hp → Prop} {tg iter body} (hp : PassesOwn (model X.prog X.w) X.A X.env X.xe) (hc : X.calm = true) (q : WE X iter σ H fun x H1 => ∃ a xs, x = .ref a ∧ SqL X.K H1 a xs ∧ ∃ Pv : Nat → L2.St → Hp → Prop, Pv 0 σ H1 ∧ (∀ i σ H, i ≤ xs.length → Pv i σ H → SqL X.K H a xs) ∧
      (∀ i x σ H, xs[i]? = some x → Pv i σ H → WG X tg x σ H fun σ2 H2 => WSs X body ⟨Pv (i + 1), rt, nx, Pv (i + 1)⟩ σ2 H2) ∧ ∀ σ H, Pv xs.length σ H → nx σ H)
    (hs : ∀ x, foldedSetIterable iter X.env x = pure x := by intro _; rfl) : WS X (.For tg iter body [] pos) ⟨nx, rt, bk, ct⟩ σ H :=
  WS.of (ps_for hp hc (pi_list pe_w) pg_w pss_w hs) (WE.mono (fun _ _ ⟨a, xs, e, h, Pv, h0, hl, ht, hd⟩ => ⟨a, e, ⟨xs, h⟩, for_list (xs := xs) Pv h0 hl ht hd⟩) q)
end
/-! ### callees -/
structure Cal (P : Program) (w : World) (K : PySem.W.Frag) (mg : Str → Option Value) (base : Heap) (CX : CXT) (k : Nat) (x : Str) (sp : Sp) : Prop where
  ex : ∃ f fd ps, FnOk P w K mg base CX k f fd ps sp ∧ mg x = some (.ref f) ∧ PySem.W.keepIn K (.ref f) = true ∧ Binds K fd ps []
theorem we_cal {X : Cx} {σ : L2.St} {H : Hp} {Q : VK} {k x p e es pos sp CX E} (C : Cal X.prog X.w X.K X.mg X.base CX k x sp) (hr : Room k X.A) (hx : Passes CX X E) (q : WA X (e :: es) σ H fun vs H1 => sp vs H1 Q E) (hg : Gl X x := by rfl) (hdb : (x == ("__debug__" : Str)) = false := by decide) (he : starEach (e :: es) X.env = (false, eval e X.env) :: starEach es X.env := by rfl)
    (hpl : (backTo pos (starEach es X.env)).any (·.1) = false := by rfl) : WE X (.Call (.Name x p) (e :: es) [] pos) σ H Q := by
  obtain ⟨f, fd, ps, F, hm, hk, hb⟩ := C.ex
  refine we_call F hr hg hm hk hb .nil hx ?_ hdb he hpl
  have e0 : ∀ vs : List V, vs ++ [] = vs := fun vs => List.append_nil vs
  simp only [e0]
  exact q
end Wx
namespace Wx
open PySem PySem.Spec PyProof.Rows L2
theorem upd_get {H : Hp} {a b : Addr} {o u : HO} (h : b ≠ a) (g : H b = some o) : upd H a u b = some o := (upd_ne h).trans g
theorem Ex.get {H H' : Hp} {a : Addr} {o : HO} (e : Ex H H') (g : H a = some o) : H' a = some o := e a o g
/-! ### the drawn numbers: the list at p may change, the rest stays -/
def pub (p : Addr) (H : Hp) : Hp := fun a => if a = p then none else H a
theorem pub_ex {p : Addr} {H : Hp} : Ex (pub p H) H := fun a o h => by
  unfold pub at h
  split at h
  · cases h
  · exact h
theorem pub_get {p a : Addr} {H : Hp} {o : HO} (hne : a ≠ p) (h : H a = some o) : pub p H a = some o := by
  unfold pub
  rw [if_neg hne]
  exact h
theorem pub_upd {p : Addr} {H : Hp} {o : HO} : pub p (upd H p o) = pub p H := by
  funext a
  unfold pub upd
  split
  · rfl
  · rfl
def Src (H : Hp) (p : Addr) (n : Nat) : Prop := ∃ (g s c : Int), H p = some (.lst [.int g, .int s, .int c]) ∧ 0 ≤ s ∧ s < 2147483647 ∧ 0 ≤ c ∧ c ≤ n
theorem Src.mono {H : Hp} {p : Addr} {n m : Nat} (h : Src H p n) (e : n ≤ m) : Src H p m := by
  obtain ⟨g, s, c, a, b, d, f, i⟩ := h
  exact ⟨g, s, c, a, b, d, f, by omega⟩
theorem Src.ex {H H' : Hp} {p : Addr} {n : Nat} (e : Ex H H') (h : Src H p n) : Src H' p n := by
  obtain ⟨g, s, c, a, b⟩ := h
  exact ⟨g, s, c, e p _ a, b⟩
theorem Src.ne {H : Hp} {p q : Addr} {n : Nat} (h : Src H p n) (hq : H q = none) : q ≠ p := by
  obtain ⟨g, s, c, a, _⟩ := h
  exact (ne_of_none a hq).symm
def spDraw : Sp := fun vs H Q _ => ∃ p n m, vs = [.ref p, .int m] ∧ Src H p n ∧ n < 1000000 ∧ 0 < m ∧ m < 1073741824 ∧ ∀ H' d, Ex (pub p H) (pub p H') → Src H' p (n + 1) → 0 ≤ d → d < m → Q (.int d) H'
def spSource (K : PySem.W.Frag) : Sp := fun vs H Q _ => ∃ (a : Addr) (ns : List Int), vs = [.ref a] ∧ SqL K H a (ns.map V.int) ∧ ∀ H' p, Ex H H' → H p = none → Src H' p 0 → Q (.ref p) H'
theorem wss_of {X : Cx} {D : Ends} {σ : L2.St} {H : Hp} {sts : List Stmt} {st : Stmt} {rest : List Stmt} (h : sts = st :: rest) (q : WSs X (st :: rest) D σ H) : ∃ t, PSs X sts t ∧ t D σ H := ⟨_, pss_w, h ▸ q⟩
end Wx

/-! texts as lists of code points -/
namespace Wx
open PySem PySem.Spec PyProof.Rows L2
def S (l : List Nat) : Str := ⟨l.toArray⟩
theorem S_inj {a b : List Nat} (h : S a = S b) : a = b := by
  have := congrArg (fun s : Str => s.cps.toList) h
  simpa [S] using this
theorem S_len (l : List Nat) : (S l).length = l.length := by simp [S, Str.length]
theorem S_app (a b : List Nat) : S a ++ S b = S (a ++ b) := by
  show (⟨(S a).cps ++ (S b).cps⟩ : Str) = S (a ++ b)
  simp [S]
theorem S_list (l : List Nat) : (S l).cps.toList = l := by simp [S]
theorem S_eq (x : Str) : x = S x.cps.toList := by
  cases x with | mk c => simp [S]
theorem S_dec {a b : List Nat} : decide (S a = S b) = decide (a = b) := by
  by_cases h : a = b
  · subst h; simp
  · rw [decide_eq_false h, decide_eq_false (fun e => h (S_inj e))]
/-! ### how often a sign stands in a text -/
theorem subAt_one (l : List Nat) (c i : Nat) (hi : i < l.length) : Builtin.Str.subAt (S l) (S [c]) i = decide (l[i]? = some c) := by
  unfold Builtin.Str.subAt
  have e : ((S l).cps.extract i (i + (S [c]).length)) = #[l[i]] := by
    apply Array.ext'
    simp [S, Str.length]
    rw [List.drop_eq_getElem_cons hi, List.take_succ_cons, List.take_zero]
  rw [e, List.getElem?_eq_getElem hi]
  by_cases h : l[i] = c
  · simp [h, S]
  · have h2 : ¬ (#[l[i]] : Array Nat) = (S [c]).cps := fun q => h (by
      have := congrArg Array.toList q
      simpa [S] using this)
    have h3 : ¬ (some l[i] = some c) := fun q => h (Option.some.inj q)
    rw [decide_eq_false h3]
    exact beq_eq_false_iff_ne.mpr h2
theorem occ_sign (l : List Nat) (c limit : Nat) : ∀ (m a : Nat) (st : Array Nat × Nat), a + m = l.length + 1 → st.snd ≤ a → st.fst.size + (l.length - a) < limit →
    (forIn (List.range' a m) st (StrLaws.occBody (S l) (S [c]) (S l).length limit)).run.fst.size = st.fst.size + (l.drop a).count c
  | 0, a, st, h, _, _ => by
    rw [List.drop_of_length_le (by omega)]
    simp
  | m + 1, a, st, h, h2, h3 => by
    rw [List.range'_succ, List.forIn_cons]
    unfold StrLaws.occBody
    by_cases ha : a < l.length
    · have hd : l.drop a = l[a] :: l.drop (a + 1) := List.drop_eq_getElem_cons ha
      rw [subAt_one l c a ha, List.getElem?_eq_getElem ha, hd]
      by_cases hc : l[a] = c
      · have cond : ((st.fst.size < limit ∧ st.snd ≤ a) ∧ a + (S [c]).length ≤ (S l).length) ∧ decide (some l[a] = some c) = true := by
          refine ⟨⟨⟨by omega, h2⟩, ?_⟩, by simp [hc]⟩
          rw [S_len, S_len]
          simp
          omega
        rw [if_pos cond]
        have ih := occ_sign l c limit m (a + 1) (st.fst.push a, a + (S [c]).length) (by omega) (by rw [S_len]; simp) (by show (st.fst.push a).size + (l.length - (a + 1)) < limit; rw [Array.size_push]; omega)
        refine Eq.trans ih ?_
        rw [List.count_cons]
        simp [hc]
        omega
      · have cond : ¬ (((st.fst.size < limit ∧ st.snd ≤ a) ∧ a + (S [c]).length ≤ (S l).length) ∧ decide (some l[a] = some c) = true) := by
          rintro ⟨_, q⟩
          exact hc (by simpa using q)
        rw [if_neg cond]
        have ih := occ_sign l c limit m (a + 1) (st.fst, st.snd) (by omega) (by show st.snd ≤ a + 1; omega) (by show st.fst.size + (l.length - (a + 1)) < limit; omega)
        refine Eq.trans ih ?_
        rw [List.count_cons]
        simp [hc]
    · have cond : ¬ (((st.fst.size < limit ∧ st.snd ≤ a) ∧ a + (S [c]).length ≤ (S l).length) ∧ Builtin.Str.subAt (S l) (S [c]) a = true) := by
        rintro ⟨⟨_, q⟩, _⟩
        rw [S_len, S_len] at q
        simp at q
        omega
      rw [if_neg cond]
      have ih := occ_sign l c limit m (a + 1) (st.fst, st.snd) (by omega) (by show st.snd ≤ a + 1; omega) (by show st.fst.size + (l.length - (a + 1)) < limit; omega)
      refine Eq.trans ih ?_
      rw [List.drop_of_length_le (show l.length ≤ a by omega), List.drop_of_length_le (show l.length ≤ a + 1 by omega)]
theorem count_sign (l : List Nat) (c : Nat) : Txt.count (S l) (S [c]) = ((l.count c : Nat) : Int) := by
  unfold Txt.count
  have e := StrLaws.occ_eq (S l) (S [c]) 0 (S l).length ((S l).length + 1)
  rw [e, Array.length_toList, S_len]
  have q := occ_sign l c (l.length + 1) (l.length + 1) 0 (#[], 0) (by omega) (Nat.le_refl 0) (by show 0 + (l.length - 0) < l.length + 1; omega)
  rw [S_len] at q
  show ((_ : Nat) : Int) = _
  have q2 : (forIn (List.range' 0 (l.length + 1 - 0)) ((#[] : Array Nat), 0) (StrLaws.occBody (S l) (S [c]) l.length (l.length + 1))).run.fst.size = List.count c l := by
    rw [Nat.sub_zero]
    refine q.trans ?_
    simp
  rw [q2]
end Wx
namespace Wx
open PySem PySem.Spec PyProof.Rows L2
end Wx

namespace Wx
open PySem PySem.Spec PyProof.Rows L2

/-! ### data that never changes: None, bools, ints, texts, tuples of such -/
mutual
inductive Im (H : Hp) : V → PyData → Prop
  | non : Im H .non .none
  | bl (b : Bool) : Im H (.bl b) (.bool b)
  | int (i : Int) : Im H (.int i) (.int i)
  | str (x : Str) : Im H (.str x) (.str x)
  | tup {a : Addr} {xs : List V} {ds : List PyData} : H a = some (.tup xs) → ImAll H xs ds → Im H (.ref a) (.tuple ds)
inductive ImAll (H : Hp) : List V → List PyData → Prop
  | nil : ImAll H [] []
  | cons {v : V} {vs : List V} {d : PyData} {ds : List PyData} : Im H v d → ImAll H vs ds → ImAll H (v :: vs) (d :: ds)
end
def TEx (H H' : Hp) : Prop := ∀ a xs, H a = some (.tup xs) → H' a = some (.tup xs)
theorem TEx.refl (H : Hp) : TEx H H := fun _ _ h => h
theorem TEx.trans {H H1 H2 : Hp} (a : TEx H H1) (b : TEx H1 H2) : TEx H H2 := fun x o h => b x o (a x o h)
theorem Ex.tex {H H' : Hp} (e : Ex H H') : TEx H H' := fun a xs h => e a _ h
theorem tex_new {H : Hp} {p : Addr} {o : HO} (h : H p = none) : TEx H (upd H p o) := (Ex.new h).tex
mutual
theorem Im.mono {H H' : Hp} (e : TEx H H') : ∀ {v : V} {d : PyData}, Im H v d → Im H' v d
  | _, _, .non => .non
  | _, _, .bl b => .bl b
  | _, _, .int i => .int i
  | _, _, .str x => .str x
  | _, _, .tup h hs => .tup (e _ _ h) (ImAll.mono e hs)
theorem ImAll.mono {H H' : Hp} (e : TEx H H') : ∀ {vs : List V} {ds : List PyData}, ImAll H vs ds → ImAll H' vs ds
  | _, _, .nil => .nil
  | _, _, .cons h hs => .cons (Im.mono e h) (ImAll.mono e hs)
end
mutual
theorem Im.dp {K : PySem.W.Frag} {H : Hp} : ∀ {v : V} {d : PyData}, Im H v d → Dp K H v d
  | _, _, .non => .non
  | _, _, .bl b => .bl b
  | _, _, .int i => .int i
  | _, _, .str x => .str x
  | _, _, .tup h hs => .tup (st_of h) (ImAll.dp hs)
theorem ImAll.dp {K : PySem.W.Frag} {H : Hp} : ∀ {vs : List V} {ds : List PyData}, ImAll H vs ds → DpAll K H vs ds
  | _, _, .nil => .nil
  | _, _, .cons h hs => .cons (Im.dp h) (ImAll.dp hs)
end
theorem ImAll.length {H : Hp} : ∀ {vs : List V} {ds : List PyData}, ImAll H vs ds → vs.length = ds.length
  | _, _, .nil => rfl
  | _, _, .cons _ hs => by rw [List.length_cons, List.length_cons, hs.length]
theorem ImAll.get {H : Hp} : ∀ {vs : List V} {ds : List PyData} {i : Nat} {v : V}, ImAll H vs ds → vs[i]? = some v → ∃ d, ds[i]? = some d ∧ Im H v d
  | _, _, _, _, .nil, h => by simp at h
  | _, _, 0, _, .cons h _, e => by simp at e; subst e; exact ⟨_, rfl, h⟩
  | _, _, i + 1, v, .cons _ hs, e => by
    obtain ⟨d, a, b⟩ := ImAll.get (i := i) (v := v) hs (by simpa using e)
    exact ⟨d, by simpa using a, b⟩
theorem ImAll.get' {H : Hp} : ∀ {vs : List V} {ds : List PyData} {i : Nat} {d : PyData}, ImAll H vs ds → ds[i]? = some d → ∃ v, vs[i]? = some v ∧ Im H v d
  | _, _, _, _, .nil, h => by simp at h
  | _, _, 0, _, .cons h _, e => by simp at e; subst e; exact ⟨_, rfl, h⟩
  | _, _, i + 1, v, .cons _ hs, e => by
    obtain ⟨d, a, b⟩ := ImAll.get' (i := i) (d := v) hs (by simpa using e)
    exact ⟨d, by simpa using a, b⟩
theorem ImAll.app {H : Hp} : ∀ {vs ws : List V} {ds es : List PyData}, ImAll H vs ds → ImAll H ws es → ImAll H (vs ++ ws) (ds ++ es)
  | _, _, _, _, .nil, h => h
  | _, _, _, _, .cons a b, h => .cons a (ImAll.app b h)
theorem ImAll.strs_eq {H : Hp} : ∀ {ns : List Str} {vs : List V}, ImAll H vs (ns.map PyData.str) → vs = ns.map V.str
  | [], _, .nil => rfl
  | n :: ns, _, .cons h hs => by
    cases h
    rw [ImAll.strs_eq hs] <;> rfl
section
variable {X : Cx} {σ : L2.St} {H : Hp} {Q : VK} {i j : Int} {pos : Pos}
/-! ### texts -/
theorem op_mulIS : OpR X (binaryOp .Mult) (fun x y H Q => ∃ (n : Int) (z : Str), x = .int n ∧ y = .str z ∧ MulOk z n ∧ Q (.str (Txt.mul z n)) H) := by
  intro pins s σ H x y v u Q I rx ry h
  obtain ⟨n, z, rfl, rfl, hok, q⟩ := h
  obtain ⟨t, rfl⟩ := rx
  obtain ⟨t', rfl⟩ := ry
  refine lm_binaryOp_repeat_right (T := "str") (U := "int") (by decide) (fun s' => typeIs_int s' n t) (typeIs_str s z t') F.fills_int_mul noFill_str_mul F.slot_int_mul lm_noRepeat_int repeat_str F.slot_int_index.lookup
    (call_gives F.slot_int_mul (typeIs_int s n t) F.entry_int_mul (F.args_int_mul_2 _ _) (AutoIntG3.int___mul___int_str_0 n t z t')
      ⟨rfl, typeIs_str s z t', call_gives F.slot_str_mul (typeIs_str s z t') F.entry_str_mul (F.args_str_mul_2 _ _) (gives_str_mul z n t' t hok.1 hok.2.1 hok.2.2) ?_⟩)
  have fin : ∀ tt k, EP X pins σ Q (.str (Txt.mul z n) tt) { s with toks := k } := fun tt k => ⟨.str (Txt.mul z n), H, I.tok k, ⟨tt, rfl⟩, q⟩
  unfold Txt.mul at fin
  by_cases h1 : n < 1
  · rw [if_pos h1]; have h' := fin s.toks (s.toks + 1); rw [if_pos h1] at h'; exact ⟨by decide, h'⟩
  · rw [if_neg h1]; refine post_val_or_made (fun hc => fits_reps (hok.2.2 h1 (by simpa using hc))) fun tt k => ?_
    have h' := fin tt k; rw [if_neg h1] at h'; exact h'
theorem op_mulSI : OpR X (binaryOp .Mult) (fun x y H Q => ∃ (n : Int) (z : Str), x = .str z ∧ y = .int n ∧ MulOk z n ∧ Q (.str (Txt.mul z n)) H) := by
  intro pins s σ H x y v u Q I rx ry h
  obtain ⟨n, z, rfl, rfl, hok, q⟩ := h
  obtain ⟨t, rfl⟩ := rx
  obtain ⟨t', rfl⟩ := ry
  exact SB.mul hok fun tt k => ⟨.str (Txt.mul z n), H, I.tok k, ⟨tt, rfl⟩, q⟩
def rep (n : Nat) (l : List Nat) : List Nat := (List.replicate n l).flatten
theorem foldl_rep (l : List Nat) : ∀ (n : Nat) (a : Array Nat), ((List.replicate n l.toArray).foldl (· ++ ·) a).toList = a.toList ++ rep n l
  | 0, a => by simp [rep]
  | n + 1, a => by
    rw [List.replicate_succ, List.foldl_cons, foldl_rep l n]
    simp [rep, List.replicate_succ]
theorem mul_S (l : List Nat) (n : Nat) : Txt.mul (S l) (n : Int) = S (rep n l) := by
  unfold Txt.mul
  by_cases h : (n : Int) < 1
  · rw [if_pos h]
    have : n = 0 := by omega
    subst this
    rfl
  · rw [if_neg h]
    by_cases h2 : ((n : Int) == 1 || (S l).length == 0) = true
    · rw [if_pos h2]
      rw [Bool.or_eq_true] at h2
      rcases h2 with h2 | h2
      · have : n = 1 := by have := eq_of_beq h2; omega
        subst this
        simp [rep]
      · have e : l = [] := by
          have := eq_of_beq h2
          rw [S_len] at this
          exact List.length_eq_zero_iff.mp this
        subst e
        have : rep n [] = [] := by
          unfold rep
          induction n with
          | zero => rfl
          | succ n ih => simp
        rw [this]
    · rw [if_neg h2]
      have e := foldl_rep l n #[]
      have e2 : (List.replicate (n : Int).toNat (S l).cps).foldl (· ++ ·) #[] = (rep n l).toArray := by
        apply Array.ext'
        rw [Int.toNat_natCast]
        show ((List.replicate n l.toArray).foldl (· ++ ·) #[]).toList = _
        rw [e]
        simp
      rw [e2]
      rfl
theorem mulOk {l : List Nat} {n : Nat} (h : n * l.length ≤ 16000000) (hn : n ≤ 16000000) (hl : l.length ≤ 16000000) : MulOk (S l) (n : Int) := by
  refine ⟨?_, fun h1 _ hc => ?_, fun h1 _ => ?_⟩
  · rw [Bool.or_eq_false_iff]
    exact ⟨decide_eq_false (by omega), decide_eq_false (by omega)⟩
  · rw [S_len] at hc
    have h2 : 1 ≤ n := by omega
    have h3 : (16000000 : Int) ≤ (2 ^ 63 - 1) / (n : Int) := by
      rw [Int.le_ediv_iff_mul_le (by omega)]
      omega
    omega
  · unfold Builtin.Str.tooLong
    rw [S_len, Int.toNat_natCast]
    have : l.length * n ≤ 16000000 := by rw [Nat.mul_comm]; exact h
    first
      | (simp [sizeLine]; omega)
      | (simp; omega)
theorem wo_mulSI {l : List Nat} {n : Nat} (h : n * l.length ≤ 16000000) (hn : n ≤ 16000000) (hl : l.length ≤ 16000000) (q : Q (.str (S (rep n l))) H) : WO X (binaryOp .Mult) (.str (S l)) (.int (n : Int)) H Q :=
  WO.of op_mulSI ⟨n, S l, rfl, rfl, mulOk h hn hl, by rw [mul_S]; exact q⟩
theorem wo_mulIS {l : List Nat} {n : Nat} (h : n * l.length ≤ 16000000) (hn : n ≤ 16000000) (hl : l.length ≤ 16000000) (q : Q (.str (S (rep n l))) H) : WO X (binaryOp .Mult) (.int (n : Int)) (.str (S l)) H Q :=
  WO.of op_mulIS ⟨n, S l, rfl, rfl, mulOk h hn hl, by rw [mul_S]; exact q⟩
theorem wo_addSS {a b : List Nat} (h : a.length + b.length ≤ 16000000) (q : Q (.str (S (a ++ b))) H) : WO X (binaryOp .Add) (.str (S a)) (.str (S b)) H Q :=
  wo_addS (by rw [S_len, S_len]; exact h) (by rw [S_app]; exact q)
/-- one sign between two others -/
theorem one_lt {a b : Nat} : decide ([a] < [b]) = decide (a < b) := by
  have : ([a] < [b]) ↔ a < b := by
    constructor
    · intro h
      rcases List.cons_lt_cons_iff.mp h with h | ⟨_, h⟩
      · exact h
      · exact absurd h (List.not_lt_nil _)
    · intro h
      exact List.cons_lt_cons_iff.mpr (.inl h)
  by_cases h : a < b
  · rw [decide_eq_true h, decide_eq_true (this.mpr h)]
  · rw [decide_eq_false h, decide_eq_false (fun q => h (this.mp q))]
theorem wo_leS {a b : List Nat} (q : Q (.bl (!decide (b < a))) H) : WO X (compareOp .LtE) (.str (S a)) (.str (S b)) H Q := WO.of op_le_str ⟨_, _, rfl, rfl, by rw [S_list, S_list]; exact q⟩
theorem wo_ltS {a b : List Nat} (q : Q (.bl (decide (a < b))) H) : WO X (compareOp .Lt) (.str (S a)) (.str (S b)) H Q := WO.of op_lt_str ⟨_, _, rfl, rfl, by rw [S_list, S_list]; exact q⟩
theorem wo_inS {c : Nat} {l : List Nat} (q : Q (.bl (decide (c ∈ l))) H) : WO X (compareOp .In) (.str (S [c])) (.str (S l)) H Q := WO.of op_in_sign ⟨c, S l, rfl, rfl, by rw [S_list]; exact q⟩
theorem wc_lenSS {l : List Nat} (h : l.length ≤ 16000000) (q : Q (.int (l.length : Int)) H) : WC X (.builtin "len") [.str (S l)] H Q := wc_lenS (by rw [S_len]; exact h) (by rw [S_len]; exact q)

/-! ### methods of lists and texts -/
theorem we_append {o e : Expr} {apos : Pos} (q : WE X o σ H fun x H1 => ∃ l xs, x = .ref l ∧ H1 l = some (.lst xs) ∧ WE X e σ H1 fun y H2 => ∃ ys, H2 l = some (.lst ys) ∧ ys.length < 16000000 ∧ Q .non (upd H2 l (.lst (ys ++ [y]))))
    (hbase : attributeBase o "append" X.env (eval o X.env) = eval o X.env := by rfl)
    (hfew : ((backTo pos (starEach [e] X.env)).all (fun x => !x.1) && (backToKw pos (keywordEach [] X.env)).all (fun x => x.1.isSome)
      && decide (([e] : List Expr).length + ([] : List Keyword).length + (if ([] : List Keyword).isEmpty then 0 else 1) < 30)) = true := by rfl)
    (hline : (apos.endLine == pos.line) = true := by rfl) (hs : starEach [e] X.env = (false, eval e X.env) :: starEach [] X.env := by rfl) (hplain : (backTo pos (starEach [] X.env)).any (·.1) = false := by rfl) :
    WE X (.Call (.Attribute o "append" apos) [e] [] pos) σ H Q :=
  we_bm PySem.F.plainAttrs_list PySem.F.slot_list_append PySem.F.type_list_append (WE.mono (fun x H1 ⟨l, xs, ex, hx, q⟩ => ⟨by rw [ex]; exact .inl ⟨rfl, _, sq_of hx⟩, wa_cons (WE.mono (fun y H2 ⟨ys, hy, hl, q⟩ => wa_nil (WM.of mt_append ⟨l, ys, y, ex, rfl, hy, sz_lt hl, q⟩)) q) hs⟩) q) hbase hfew hline hs hplain
theorem we_pop {o : Expr} {apos : Pos} (q : WE X o σ H fun x H1 => ∃ l xs y, x = .ref l ∧ H1 l = some (.lst xs) ∧ xs[xs.length - 1]? = some y ∧ Q y (upd H1 l (.lst xs.dropLast)))
    (hbase : attributeBase o "pop" X.env (eval o X.env) = eval o X.env := by rfl) (hline : (apos.endLine == pos.line) = true := by rfl) : WE X (.Call (.Attribute o "pop" apos) [] [] pos) σ H Q :=
  we_bm0 PySem.F.plainAttrs_list PySem.F.slot_list_pop PySem.F.type_list_pop (WE.mono (fun x H1 ⟨l, xs, y, ex, hx, hy, q⟩ => ⟨by rw [ex]; exact .inl ⟨rfl, _, sq_of hx⟩, WM.of mt_pop ⟨l, xs, y, ex, rfl, hx, hy, q⟩⟩) q) hbase hline
theorem we_count {o e : Expr} {apos : Pos} (q : WE X o σ H fun x H1 => ∃ l, x = .str (S l) ∧ WE X e σ H1 fun y H2 => ∃ c, y = .str (S [c]) ∧ Q (.int ((l.count c : Nat) : Int)) H2)
    (hbase : attributeBase o "count" X.env (eval o X.env) = eval o X.env := by rfl)
    (hfew : ((backTo pos (starEach [e] X.env)).all (fun x => !x.1) && (backToKw pos (keywordEach [] X.env)).all (fun x => x.1.isSome)
      && decide (([e] : List Expr).length + ([] : List Keyword).length + (if ([] : List Keyword).isEmpty then 0 else 1) < 30)) = true := by rfl)
    (hline : (apos.endLine == pos.line) = true := by rfl) (hs : starEach [e] X.env = (false, eval e X.env) :: starEach [] X.env := by rfl) (hplain : (backTo pos (starEach [] X.env)).any (·.1) = false := by rfl) :
    WE X (.Call (.Attribute o "count" apos) [e] [] pos) σ H Q :=
  we_bm PySem.F.plainAttrs_str PySem.F.slot_str_count PySem.F.type_str_count (WE.mono (fun x H1 ⟨l, ex, q⟩ => ⟨by rw [ex]; exact (rfl : "str" = "str"), wa_cons (WE.mono (fun y H2 ⟨c, ey, q⟩ => wa_nil (WM.of mt_count ⟨S l, S [c], ex, by rw [ey], by rw [count_sign]; exact q⟩)) q) hs⟩) q) hbase hfew hline hs hplain
theorem we_join {o e : Expr} {apos : Pos} (q : WE X o σ H fun x H1 => ∃ a, x = .str a ∧ WE X e σ H1 fun y H2 => ∃ (p : Addr) (ys : List Str), y = .ref p ∧ (SqL X.K H2 p (ys.map V.str) ∨ SqT X.K H2 p (ys.map V.str)) ∧ (ys.map (·.length)).sum + ys.length * a.length ≤ 16777216 ∧ Q (.str (Txt.join a ys)) H2)
    (hbase : attributeBase o "join" X.env (eval o X.env) = eval o X.env := by rfl)
    (hfew : ((backTo pos (starEach [e] X.env)).all (fun x => !x.1) && (backToKw pos (keywordEach [] X.env)).all (fun x => x.1.isSome)
      && decide (([e] : List Expr).length + ([] : List Keyword).length + (if ([] : List Keyword).isEmpty then 0 else 1) < 30)) = true := by rfl)
    (hline : (apos.endLine == pos.line) = true := by rfl) (hs : starEach [e] X.env = (false, eval e X.env) :: starEach [] X.env := by rfl) (hplain : (backTo pos (starEach [] X.env)).any (·.1) = false := by rfl) :
    WE X (.Call (.Attribute o "join" apos) [e] [] pos) σ H Q :=
  we_bm PySem.F.plainAttrs_str PySem.F.slot_str_join PySem.F.type_str_join (WE.mono (fun x H1 ⟨a, ex, q⟩ => ⟨by rw [ex]; exact (rfl : "str" = "str"), wa_cons (WE.mono (fun y H2 ⟨p, ys, ey, hp, hz, q⟩ => wa_nil (WM.of mt_join ⟨a, p, ys, ex, by rw [ey], hp, hz, q⟩)) q) hs⟩) q) hbase hfew hline hs hplain

/-! ### tuple(..), isinstance -/
theorem boot_tuple : bootBuiltins "tuple" = some (.type "tuple") := by decide +kernel
theorem boot_str : bootBuiltins "str" = some (.type "str") := by decide +kernel
theorem boot_list : bootBuiltins "list" = some (.type "list") := by decide +kernel
theorem boot_bool : bootBuiltins "bool" = some (.type "bool") := by decide +kernel
theorem boot_isinstance : bootBuiltins "isinstance" = some (.builtin "isinstance") := by decide +kernel
theorem we_tupleT {p : Pos} {e es} (hm : X.mg "tuple" = none) (q : WA X (e :: es) σ H fun xs H1 => WC X (.type "tuple") xs H1 Q) (hg : Gl X "tuple" := by rfl)
    (he : starEach (e :: es) X.env = (false, eval e X.env) :: starEach es X.env := by rfl) (hpl : (backTo pos (starEach es X.env)).any (·.1) = false := by rfl) : WE X (.Call (.Name "tuple" p) (e :: es) [] pos) σ H Q := we_callTy hg hm boot_tuple q (by decide) (by decide) he hpl
theorem we_isi {p : Pos} {e es} (hm : X.mg "isinstance" = none) (q : WA X (e :: es) σ H fun xs H1 => WC X (.builtin "isinstance") xs H1 Q) (hg : Gl X "isinstance" := by rfl)
    (he : starEach (e :: es) X.env = (false, eval e X.env) :: starEach es X.env := by rfl) (hpl : (backTo pos (starEach es X.env)).any (·.1) = false := by rfl) : WE X (.Call (.Name "isinstance" p) (e :: es) [] pos) σ H Q := we_callB hg hm boot_isinstance q (by decide) (by decide) he hpl
theorem we_tyStr (hm : X.mg "str" = none) (q : Q (.ty "str") H) (hg : Gl X "str" := by rfl) : WE X (.Name "str" pos) σ H Q := WE.of (pe_bltn (v := .ty "str") hg hm boot_str rfl) q
theorem we_tyInt (hm : X.mg "int" = none) (q : Q (.ty "int") H) (hg : Gl X "int" := by rfl) : WE X (.Name "int" pos) σ H Q := WE.of (pe_bltn (v := .ty "int") hg hm boot_int rfl) q
theorem we_tyBool (hm : X.mg "bool" = none) (q : Q (.ty "bool") H) (hg : Gl X "bool" := by rfl) : WE X (.Name "bool" pos) σ H Q := WE.of (pe_bltn (v := .ty "bool") hg hm boot_bool rfl) q
theorem we_tyList (hm : X.mg "list" = none) (q : Q (.ty "list") H) (hg : Gl X "list" := by rfl) : WE X (.Name "list" pos) σ H Q := WE.of (pe_bltn (v := .ty "list") hg hm boot_list rfl) q
theorem we_tyTuple (hm : X.mg "tuple" = none) (q : Q (.ty "tuple") H) (hg : Gl X "tuple" := by rfl) : WE X (.Name "tuple" pos) σ H Q := WE.of (pe_bltn (v := .ty "tuple") hg hm boot_tuple rfl) q
theorem kb_str_str : kitB "str" "str" = some true := by decide +kernel
theorem kb_int_int : kitB "int" "int" = some true := by decide +kernel
theorem kb_int_bool : kitB "int" "bool" = some false := by decide +kernel
theorem wc_isi {x : V} {t T : String} {b : Bool} (ty : TyX X.K H x (.type t)) (k : kitB t T = some b) (q : Q (.bl b) H) : WC X (.builtin "isinstance") [x, .ty T] H Q := WC.of call_isi ⟨x, .ty T, .type t, .type T, b, rfl, .ty T, ty, kit_ty k, q⟩
theorem wc_isi_str {z : Str} (q : Q (.bl true) H) : WC X (.builtin "isinstance") [.str z, .ty "str"] H Q := wc_isi (.base (.str z)) kb_str_str q
theorem wc_isi_int {i : Int} (q : Q (.bl true) H) : WC X (.builtin "isinstance") [.int i, .ty "int"] H Q := wc_isi (.base (.int i)) kb_int_int q
theorem wc_isi_intB {i : Int} (q : Q (.bl false) H) : WC X (.builtin "isinstance") [.int i, .ty "bool"] H Q := wc_isi (.base (.int i)) kb_int_bool q

/-! ### a loop over a text -/
variable {D : Ends}
end

/-! ### comprehensions -/
section
variable {X : Cx} {σ : L2.St} {H : Hp} {Q : VK} {pos : Pos}
/-- the block of a comprehension -/
abbrev Bk (X : Cx) (scope : Scope) (s : Shared) (H0 : Hp) (C : Addr) (cl : List (Str × Addr)) (fp : List Addr) : Cx := X.blk s H0 scope (compEnvC scope cl C X.env) fp
def gB (X : Cx) (scope : Scope) (tg : Expr) : TG := fun v σ H Q => ∀ s H0 C cl fp, WG (Bk X scope s H0 C cl fp) tg v σ H Q
def eB (X : Cx) (scope : Scope) (e : Expr) : TE := fun σ H Q => ∀ s H0 C cl fp, WE (Bk X scope s H0 C cl fp) e σ H Q
def nofold (iter : Expr) (env : Env) : Prop := ∀ x, foldedSetIterable iter env x = pure x
/-- [elt for tg in iter], iter a list -/
theorem pe_lcB {elt tg iter : Expr} {scope : Scope} {own : List (Str × Nat)} {wi : TI} (hc : X.calm = true) (hN : X.N.Nodup) (hi : PI X tg iter wi) (ok : BlkOk X.N X.env.scope scope own) (hs : nofold iter X.env) :
    PE X (.ListComp elt [⟨tg, iter, [], 0⟩] scope pos) (tLc wi (gB X scope tg) tYes (eB X scope elt) (own.map (·.2))) :=
  pe_lc hc hN hi ok (fun s H0 C cl fp => ⟨fun pins s' σ H v u Q I r h => pg_w.run pins s' σ H v u Q I r (h s H0 C cl fp)⟩) (fun _ _ _ _ _ => pts_nil) (fun s H0 C cl fp => ⟨fun pins s' σ H Q I h => pe_w.run pins s' σ H Q I (h s H0 C cl fp)⟩) hs
end
end Wx
namespace Wx
open PySem PySem.Spec PyProof.Rows L2
section
variable {X : Cx} {σ : L2.St} {H : Hp} {Q : VK} {pos : Pos}
theorem we_strE {x : Str} {l : List Nat} {j} (h : x = S l) (q : Q (.str (S l)) H) : WE X (.Constant (.str x) j pos) σ H Q := we_str (h ▸ q)
theorem wo_eqSS {a b : List Nat} (q : Q (.bl (decide (a = b))) H) : WO X (compareOp .Eq) (.str (S a)) (.str (S b)) H Q := wo_eqS (by rw [S_dec]; exact q)
theorem wo_neSS {a b : List Nat} (q : Q (.bl (!decide (a = b))) H) : WO X (compareOp .NotEq) (.str (S a)) (.str (S b)) H Q := wo_neS (by rw [S_dec]; exact q)
theorem wo_le1 {a b : Nat} (q : Q (.bl (decide (a ≤ b))) H) : WO X (compareOp .LtE) (.str (S [a])) (.str (S [b])) H Q := wo_leS (by
  rw [one_lt]
  have e : (!decide (b < a)) = decide (a ≤ b) := by
    by_cases h : b < a
    · rw [decide_eq_true h, decide_eq_false (by omega)]; rfl
    · rw [decide_eq_false h, decide_eq_true (by omega)]; rfl
  rw [e]; exact q)
end
end Wx
namespace Wx
open PySem PySem.Spec PyProof.Rows L2
section
variable {X : Cx} {σ : L2.St} {H : Hp} {pos : Pos} {Q : L2.St → Hp → Prop}
@[irreducible] def WGs (X : Cx) (ts : List Expr) : TGs := fun vs σ H Q => ∀ pins s us, Inv X pins σ H s → Vals vs us → wpAny (model X.prog X.w) X.A (assignInOrder ((assignEach ts X.env).map (·.2)) us) (fun _ s' => ∃ σ' H', Inv X pins σ' H' s' ∧ Q σ' H') X.xe s
theorem pgs_w {ts} : PGs X ts (WGs X ts) := by
  unfold WGs; exact ⟨fun pins s _ _ _ us _ I r h => h pins s us I r⟩
theorem WGs.of {ts t vs} (h : PGs X ts t) (q : t vs σ H Q) : WGs X ts vs σ H Q := by
  unfold WGs; exact fun pins s us I r => h.run pins s σ H vs us Q I r q
theorem wgs_nil (q : Q σ H) : WGs X [] [] σ H Q := WGs.of pgs_nil ⟨rfl, q⟩
theorem wgs_cons {e es v vs} (q : WG X e v σ H fun σ' H' => WGs X es vs σ' H' Q) (hs : (assignEach (e :: es) X.env).map (·.2) = assign e X.env :: (assignEach es X.env).map (·.2) := by rfl) : WGs X (e :: es) (v :: vs) σ H Q := WGs.of (pgs_cons pg_w pgs_w hs) ⟨v, vs, rfl, q⟩
theorem wg_tup {es k a xs n} (hc : X.calm = true) (h : SqT X.K H a xs) (hl : xs.length = n) (q : WGs X es xs σ H Q) (hn : (assignEach es X.env).length = n := by rfl) (hst : (assignEach es X.env).findIdx? (·.1) = none := by rfl) : WG X (.Tuple es k pos) (.ref a) σ H Q :=
  WG.of (pg_tup hc pgs_w hn hst) ⟨a, xs, rfl, h, hl, q⟩
end
end Wx
namespace Wx
theorem iteN0 {A B : Prop} (h : B) : if (!true) = true then A else B := by
  rw [if_neg (by decide)]
  exact h
theorem iteN1 {A B : Prop} (h : A) : if (!false) = true then A else B := by
  rw [if_pos (by decide)]
  exact h
end Wx
namespace Wx
open L2
theorem atI_0 {α : Type} {a : α} {xs : List α} : atI (a :: xs) 0 = some a := atI_nat (j := 0) rfl
theorem atI_1 {α : Type} {a b : α} {xs : List α} : atI (a :: b :: xs) 1 = some b := atI_nat (j := 1) rfl
theorem atI_2 {α : Type} {a b c : α} {xs : List α} : atI (a :: b :: c :: xs) 2 = some c := atI_nat (j := 2) rfl
theorem atI_3 {α : Type} {a b c d : α} {xs : List α} : atI (a :: b :: c :: d :: xs) 3 = some d := atI_nat (j := 3) rfl
theorem ixN_0 {α : Type} {a : α} {xs : List α} : ixN (a :: xs).length 0 = some 0 := by
  unfold ixN
  rw [if_pos (by decide), if_pos (by rw [List.length_cons]; omega)]
  rfl
theorem ixN_1 {α : Type} {a b : α} {xs : List α} : ixN (a :: b :: xs).length 1 = some 1 := by
  unfold ixN
  rw [if_pos (by decide), if_pos (by rw [List.length_cons, List.length_cons]; omega)]
  rfl
theorem ixN_2 {α : Type} {a b c : α} {xs : List α} : ixN (a :: b :: c :: xs).length 2 = some 2 := by
  unfold ixN
  rw [if_pos (by decide), if_pos (by rw [List.length_cons, List.length_cons, List.length_cons]; omega)]
  rfl
end Wx
namespace Wx
open PySem L2
theorem wset_0 {X : Cx} {H : Hp} {p : Addr} {a v : V} {xs : List V} {Q : Hp → Prop} (h : H p = some (.lst (a :: xs))) (q : Q (upd H p (.lst (v :: xs)))) : WSet X (.ref p) (.int 0) v H Q := wset_l h ixN_0 q
theorem wset_1 {X : Cx} {H : Hp} {p : Addr} {a b v : V} {xs : List V} {Q : Hp → Prop} (h : H p = some (.lst (a :: b :: xs))) (q : Q (upd H p (.lst (a :: v :: xs)))) : WSet X (.ref p) (.int 1) v H Q := wset_l h ixN_1 q
theorem wset_2 {X : Cx} {H : Hp} {p : Addr} {a b c v : V} {xs : List V} {Q : Hp → Prop} (h : H p = some (.lst (a :: b :: c :: xs))) (q : Q (upd H p (.lst (a :: b :: v :: xs)))) : WSet X (.ref p) (.int 2) v H Q := wset_l h ixN_2 q
end Wx
namespace Wx
open PySem PySem.Spec PyProof.Rows L2
section
variable {X : Cx} {σ : L2.St} {H : Hp} {Q : VK}
theorem wo_neDp {x y : V} {d e : PyData} (hu : X.A.units + 64 < cLine) (hx : Dp X.K H x d) (hy : Dp X.K H y e) (sd : SeqAt.shaped d = true) (se : SeqAt.shaped e = true) (q : Q (.bl (!PyData.eqv d e)) H) : WO X (compareOp .NotEq) x y H Q := WO.of (op_neD hu) ⟨d, e, hx, hy, sd, se, q⟩
theorem wo_eqDp {x y : V} {d e : PyData} (hu : X.A.units + 64 < cLine) (hx : Dp X.K H x d) (hy : Dp X.K H y e) (sd : SeqAt.shaped d = true) (se : SeqAt.shaped e = true) (q : Q (.bl (PyData.eqv d e)) H) : WO X (compareOp .Eq) x y H Q := WO.of (op_eqD hu) ⟨d, e, hx, hy, sd, se, q⟩
end
end Wx
namespace Wx
open PySem L2
theorem ne_new {H : Hp} {a b : Addr} {o : HO} (h' : H b = none) (h : H a = some o) : a ≠ b := ne_of_none h h'
end Wx

/-! sorted of data that never changes; of a dict's tuple keys; setdefault with a tuple key -/
namespace Wx
open PySem PySem.Spec PyProof.Rows L2
section
variable {X : Cx}
end
end Wx
namespace Wx
open PySem PySem.Spec PyProof.Rows L2
section
variable {X : Cx} {σ : L2.St} {H : Hp}
variable {o e f : Expr} {apos pos : Pos} {Q : VK}
end
end Wx

/-! dicts, instances, stars, least and greatest -/
namespace Wx
open PySem PySem.Spec PyProof.Rows L2
section
variable {X : Cx} {σ : L2.St} {H : Hp} {Q : VK} {pos : Pos}
/-! ### dicts -/
/-! ### stars in displays -/
theorem wa_star {e es p} {Q : List V → Hp → Prop} (q : WE X e σ H fun x H1 => ∃ a xs, x = V.ref a ∧ (SqT X.K H1 a xs ∨ SqL X.K H1 a xs) ∧ WA X es σ H1 fun ys H2 => Q (xs ++ ys) H2)
    (hs : starEach (.Starred e p :: es) X.env = (true, eval e X.env) :: starEach es X.env := by rfl) : WA X (.Starred e p :: es) σ H Q := WA.of (StX.pa_star pe_w pa_w hs) q
/-! ### least, greatest, all -/
theorem boot_min : bootBuiltins "min" = some (.builtin "min") := by decide +kernel
theorem boot_max : bootBuiltins "max" = some (.builtin "max") := by decide +kernel
theorem boot_all : bootBuiltins "all" = some (.builtin "all") := by decide +kernel
theorem boot_any : bootBuiltins "any" = some (.builtin "any") := by decide +kernel
theorem boot_sorted : bootBuiltins "sorted" = some (.builtin "sorted") := by decide +kernel
theorem we_min {p : Pos} {e es} (hm : X.mg "min" = none) (q : WA X (e :: es) σ H fun xs H1 => WC X (.builtin "min") xs H1 Q) (hg : Gl X "min" := by rfl)
    (he : starEach (e :: es) X.env = (false, eval e X.env) :: starEach es X.env := by rfl) (hpl : (backTo pos (starEach es X.env)).any (·.1) = false := by rfl) : WE X (.Call (.Name "min" p) (e :: es) [] pos) σ H Q := we_callB hg hm boot_min q (by decide) (by decide) he hpl
theorem we_max {p : Pos} {e es} (hm : X.mg "max" = none) (q : WA X (e :: es) σ H fun xs H1 => WC X (.builtin "max") xs H1 Q) (hg : Gl X "max" := by rfl)
    (he : starEach (e :: es) X.env = (false, eval e X.env) :: starEach es X.env := by rfl) (hpl : (backTo pos (starEach es X.env)).any (·.1) = false := by rfl) : WE X (.Call (.Name "max" p) (e :: es) [] pos) σ H Q := we_callB hg hm boot_max q (by decide) (by decide) he hpl
theorem we_all {p : Pos} {e es} (hm : X.mg "all" = none) (q : WA X (e :: es) σ H fun xs H1 => WC X (.builtin "all") xs H1 Q) (hg : Gl X "all" := by rfl)
    (he : starEach (e :: es) X.env = (false, eval e X.env) :: starEach es X.env := by rfl) (hpl : (backTo pos (starEach es X.env)).any (·.1) = false := by rfl) : WE X (.Call (.Name "all" p) (e :: es) [] pos) σ H Q := we_callB hg hm boot_all q (by decide) (by decide) he hpl
theorem we_any {p : Pos} {e es} (hm : X.mg "any" = none) (q : WA X (e :: es) σ H fun xs H1 => WC X (.builtin "any") xs H1 Q) (hg : Gl X "any" := by rfl)
    (he : starEach (e :: es) X.env = (false, eval e X.env) :: starEach es X.env := by rfl) (hpl : (backTo pos (starEach es X.env)).any (·.1) = false := by rfl) : WE X (.Call (.Name "any" p) (e :: es) [] pos) σ H Q := we_callB hg hm boot_any q (by decide) (by decide) he hpl
theorem we_sorted {p : Pos} {e es} (hm : X.mg "sorted" = none) (q : WA X (e :: es) σ H fun xs H1 => WC X (.builtin "sorted") xs H1 Q) (hg : Gl X "sorted" := by rfl)
    (he : starEach (e :: es) X.env = (false, eval e X.env) :: starEach es X.env := by rfl) (hpl : (backTo pos (starEach es X.env)).any (·.1) = false := by rfl) : WE X (.Call (.Name "sorted" p) (e :: es) [] pos) σ H Q := we_callB hg hm boot_sorted q (by decide) (by decide) he hpl
theorem we_listT {p : Pos} {e es} (hm : X.mg "list" = none) (q : WA X (e :: es) σ H fun xs H1 => WC X (.type "list") xs H1 Q) (hg : Gl X "list" := by rfl)
    (he : starEach (e :: es) X.env = (false, eval e X.env) :: starEach es X.env := by rfl) (hpl : (backTo pos (starEach es X.env)).any (·.1) = false := by rfl) : WE X (.Call (.Name "list" p) (e :: es) [] pos) σ H Q := we_callTy hg hm boot_list q (by decide) (by decide) he hpl
theorem we_strT {p : Pos} {e es} (hm : X.mg "str" = none) (q : WA X (e :: es) σ H fun xs H1 => WC X (.type "str") xs H1 Q) (hg : Gl X "str" := by rfl)
    (he : starEach (e :: es) X.env = (false, eval e X.env) :: starEach es X.env := by rfl) (hpl : (backTo pos (starEach es X.env)).any (·.1) = false := by rfl) : WE X (.Call (.Name "str" p) (e :: es) [] pos) σ H Q := we_callTy hg hm boot_str q (by decide) (by decide) he hpl
theorem wc_strS {z : Str} (q : Q (.str z) H) : WC X (.type "str") [.str z] H Q := WC.of SkE.call_str_str ⟨z, rfl, q⟩
theorem wc_min2 {i j : Int} (hc : X.calm = true) (q : Q (.int (if j < i then j else i)) H) : WC X (.builtin "min") [.int i, .int j] H Q := WC.of (call_min2 hc) ⟨i, j, rfl, q⟩
theorem wc_max2 {i j : Int} (hc : X.calm = true) (q : Q (.int (if j > i then j else i)) H) : WC X (.builtin "max") [.int i, .int j] H Q := WC.of (call_max2 hc) ⟨i, j, rfl, q⟩
/-! ### instances -/
/-- a property of class C, by its getter's promise -/
structure Prp (P : Program) (w : World) (K : PySem.W.Frag) (mg : Str → Option Value) (base : Heap) (CX : CXT) (k : Nat) (C : Addr) (f : Str) (sp : Sp) : Prop where
  ex : ∃ p g fd ps, PropOf K C f p g ∧ FnOk P w K mg base CX k g fd ps sp ∧ Binds K fd ps []
/-- a method of class C -/
structure Mth (P : Program) (w : World) (K : PySem.W.Frag) (mg : Str → Option Value) (base : Heap) (CX : CXT) (k : Nat) (C : Addr) (m : Str) (sp : Sp) : Prop where
  ex : ∃ f fd ps, Meth K C m f ∧ FnOk P w K mg base CX k f fd ps sp ∧ Binds K fd ps []
/-- a class by its __init__ -/
structure Mkr (P : Program) (w : World) (K : PySem.W.Frag) (mg : Str → Option Value) (base : Heap) (CX : CXT) (k : Nat) (x : Str) (C : Addr) (sp : Sp) : Prop where
  ex : ∃ f fd ps, L2.Mk K C f ∧ FnOk P w K mg base CX k f fd ps sp ∧ Binds K fd ps [] ∧ mg x = some (.ref C)
end
end Wx
namespace Wx
open PySem PySem.Spec PyProof.Rows L2
def GStr (mg : Str → Option Value) (x : Str) (l : List Nat) : Prop := ∃ t, mg x = some (.str (S l) t)
def GInt (mg : Str → Option Value) (x : Str) (i : Int) : Prop := ∃ t, mg x = some (.int i t)
section
variable {X : Cx} {σ : L2.St} {H : Hp} {Q : VK} {pos : Pos}
theorem we_gS {x : Str} {l : List Nat} (h : GStr X.mg x l) (q : Q (.str (S l)) H) (hg : Gl X x := by rfl) (hd : (x == ("__debug__" : Str)) = false := by decide) : WE X (.Name x pos) σ H Q := by
  obtain ⟨t, e⟩ := h
  exact we_glob (v := .str (S l)) hg e ⟨t, rfl⟩ q hd
theorem we_gI {x : Str} {i : Int} (h : GInt X.mg x i) (q : Q (.int i) H) (hg : Gl X x := by rfl) (hd : (x == ("__debug__" : Str)) = false := by decide) : WE X (.Name x pos) σ H Q := by
  obtain ⟨t, e⟩ := h
  exact we_glob (v := .int i) hg e ⟨t, rfl⟩ q hd
end
end Wx
namespace Wx
open PySem PySem.Spec PyProof.Rows L2
/-! ### the keys of a dict -/
section
variable {κ : Type} [DecidableEq κ]
end
section
variable {X : Cx} {σ : L2.St} {H : Hp} {Q : VK} {pos : Pos}
end
end Wx
namespace Wx
open PySem PySem.Spec PyProof.Rows L2
section
variable {X : Cx} {σ : L2.St} {H : Hp} {Q : VK} {pos : Pos}
end
end Wx
namespace Wx
open PySem PySem.Spec PyProof.Rows L2
end Wx
namespace Wx
open PySem PySem.Spec PyProof.Rows L2
section
variable {X : Cx} {σ : L2.St} {H : Hp} {Q : VK} {pos : Pos}
theorem Ex.sq {K : PySem.W.Frag} {H H' : Hp} {a : Addr} {xs : List V} (e : Ex H H') (h : SqL K H a xs ∨ SqT K H a xs) : SqL K H' a xs ∨ SqT K H' a xs := h.elim (fun h => .inl (e.l h)) (fun h => .inr (e.t h))
/-- all but x stays -/
def Exo (x : Addr) (H H' : Hp) : Prop := ∀ a o, a ≠ x → H a = some o → H' a = some o
theorem Exo.of {x : Addr} {H H' : Hp} (e : Ex H H') : Exo x H H' := fun a o _ h => e a o h
theorem Exo.trans {x : Addr} {H H1 H2 : Hp} (a : Exo x H H1) (b : Exo x H1 H2) : Exo x H H2 := fun c o hc h => b c o hc (a c o hc h)
theorem Exo.self {x : Addr} {H : Hp} {o : HO} : Exo x H (upd H x o) := fun a u ha h => (upd_ne ha).trans h
theorem nodup_le {α : Type} [DecidableEq α] : ∀ {us L : List α}, us.Nodup → (∀ x ∈ us, x ∈ L) → us.length ≤ L.length
  | [], _, _, _ => Nat.zero_le _
  | u :: us, L, hn, hs => by
    have hm := hs u List.mem_cons_self
    have h2 := nodup_le (us := us) (L := L.erase u) (List.nodup_cons.mp hn).2 fun x hx => by
      have hne : x ≠ u := fun e => (List.nodup_cons.mp hn).1 (e ▸ hx)
      exact (List.mem_erase_of_ne hne).mpr (hs x (List.mem_cons_of_mem _ hx))
    rw [List.length_erase_of_mem hm] at h2
    have := List.length_pos_of_mem hm
    rw [List.length_cons]
    omega
end
end Wx

/-! loops over a dict's items -/
namespace Wx
open PySem PySem.Spec PyProof.Rows L2
section
variable {X : Cx} {σ : L2.St} {H : Hp} {Q : VK} {pos : Pos}
end
end Wx
namespace Wx
open PySem PySem.Spec PyProof.Rows L2
section
variable {X : Cx} {H : Hp} {Q : VK} {a : Addr} {y v : V} {r : Option V}
end
end Wx

/-! Ia: a small language of trees; wp, wps: what a text of it does (no model in sight). -/
namespace Ir
inductive Tr where
  | non | bl (b : Bool) | int (i : Int) | str (l : List Nat) | ty (n : String)
  | tup (ts : List Tr) | lst (ts : List Tr) | dic (b : Bool) (kvs : List (Tr × Tr))
  | obj (c : Nat) (fs : List (Nat × Tr)) | ptr (i : Nat) | ktup (ts : List Tr) | scr (ns : List Int) | cls (d : Nat)
/-- a field of an object with parts of its own: a value, or the part with a number -/
inductive Fc where
  | val (t : Tr) | at (j : Nat)
/-- .. the parts boxed: a value, a value that keeps its place, an own list, an own dict -/
inductive Fb where
  | val (t : Tr) | pv (t : Tr) | lst (ts : List Tr) | dic (kvs : List (Tr × Tr))
/-- a part: an own list, an own dict, a dict that a loop walks, a value -/
inductive Pk where
  | lst (ts : List Tr) | dic (kvs : List (Tr × Tr)) | fro (kvs : List (Tr × Tr)) | val (t : Tr)
inductive Cel where
  | gone | lst (ts : List Tr) | lst2 (tss : List (List Tr)) | dic (b : Bool) (kvs : List (Tr × Tr)) | obj (c : Nat) (fs : List (Nat × Tr)) | objW (c : Nat) (fs : List (Nat × Tr)) (kvs : List (Tr × List Tr)) | src (n : Nat) | objC (c : Nat) (fs : List (Nat × Fc)) | pin (n : Nat) (k : Pk) | box (c : Nat) (fs : List (Nat × Fb))
abbrev Mem := List Cel
abbrev Ev := List (Option Tr)
abbrev EK := Tr → Mem → Prop
abbrev SK := Ev → Mem → Prop
abbrev EX := Tr → Ev → Mem → Prop
abbrev Con := List Tr → Mem → EK → EK → Prop

/-! ### state, in the style of continuations -/
def setK : Ev → Nat → Tr → (Ev → Prop) → Prop
  | [], _, _, _ => False
  | _ :: r, 0, t, k => k (some t :: r)
  | a :: r, n + 1, t, k => setK r n t (fun r => k (a :: r))
def getK : Ev → Nat → (Tr → Prop) → Prop
  | [], _, _ => False
  | a :: _, 0, k => match a with | some t => k t | none => False
  | _ :: r, n + 1, k => getK r n k
def wipe1 : Ev → Nat → Ev
  | [], _ => []
  | _ :: r, 0 => none :: r
  | a :: r, n + 1 => a :: wipe1 r n
def wipeE (ρ : Ev) : List Nat → Ev
  | [] => ρ
  | v :: vs => wipe1 (wipeE ρ vs) v
def celK : Mem → Nat → (Cel → Prop) → Prop
  | [], _, _ => False
  | a :: _, 0, k => k a
  | _ :: r, n + 1, k => celK r n k
def cputK : Mem → Nat → Cel → (Mem → Prop) → Prop
  | [], _, _, _ => False
  | _ :: r, 0, c, k => k (c :: r)
  | a :: r, n + 1, c, k => cputK r n c (fun r => k (a :: r))
def snocK : Mem → Nat → Cel → (Nat → Mem → Prop) → Prop
  | [], n, c, k => k n [c]
  | a :: r, n, c, k => snocK r (n + 1) c (fun i r => k i (a :: r))
/-- a value looked at: what stands behind a pointer -/
def tv (μ : Mem) : Tr → (Tr → Prop) → Prop
  | .ptr i, k => celK μ i fun c => match c with
    | .lst ts => k (.lst ts)
    | .dic b kvs => k (.dic b kvs)
    | _ => False
  | t, k => k t
/-- no pointer stands in the list -/
@[irreducible] def noP : List Tr → Prop → Prop
  | [], P => P
  | t :: ts, P => match t with | .ptr _ => False | _ => noP ts P
/-! ### targets -/
inductive Tg where
  | nm (i : Nat) | nil | cons (a b : Tg)
mutual
def tgK : Tg → Tr → Ev → (Ev → Prop) → Prop
  | .nm i, t, ρ, k => setK ρ i t k
  | .nil, _, _, _ => False
  | .cons a b, t, ρ, k => match t with
    | .tup (x :: xs) => tgK a x ρ fun ρ => tgL b xs ρ k
    | .lst (x :: xs) => tgK a x ρ fun ρ => tgL b xs ρ k
    | .str (x :: xs) => tgK a (.str [x]) ρ fun ρ => tgL b (xs.map fun c => .str [c]) ρ k
    | _ => False
def tgL : Tg → List Tr → Ev → (Ev → Prop) → Prop
  | .nm _, _, _, _ => False
  | .nil, xs, ρ, k => match xs with | [] => k ρ | _ => False
  | .cons a b, xs, ρ, k => match xs with
    | x :: xs => tgK a x ρ fun ρ => tgL b xs ρ k
    | _ => False
end
/-! ### operations -/
inductive Op | add | sub | mul | fdiv | mod
  deriving DecidableEq
inductive Cm | eq | ne | lt | le | gt | ge | isin | notin | is | isnot
def szK (n : Nat) (P : Prop) : Prop := match Nat.ble n 16000000 with | true => P | false => False
def szF (n : Nat) (P : Prop) : Prop := match Nat.blt n 1000 with | true => P | false => False
theorem szK_og {n : Nat} {P : Prop} (h : n ≤ 16000000) (p : P) : szK n P := by
  unfold szK
  rw [Nat.ble_eq_true_of_le h]
  exact p
theorem szK_of {n : Nat} {P : Prop} (h : n ≤ 1000000) (p : P) : szK n P := szK_og (Nat.le_trans h (by decide)) p
theorem szK_le {n : Nat} {P : Prop} (h : szK n P) : n ≤ 16000000 ∧ P := by
  unfold szK at h
  cases e : Nat.ble n 16000000 with
  | true => rw [e] at h; exact ⟨Nat.le_of_ble_eq_true e, h⟩
  | false => rw [e] at h; exact h.elim
def repL (n : Nat) (l : List Nat) : List Nat := (List.replicate n l).flatten
def opK : Op → Tr → Tr → (Tr → Prop) → Prop
  | .add, .int i, .int j, k => k (.int (i + j))
  | .add, .str a, .str b, k => szK (a.length + b.length) (k (.str (a ++ b)))
  | .add, .tup (x :: a), .tup b, k => szK ((x :: a).length + b.length) (k (.tup ((x :: a) ++ b)))
  | .sub, .int i, .int j, k => k (.int (i - j))
  | .mul, .int i, .int j, k => (-(2 ^ 62) ≤ i ∧ i ≤ 2 ^ 62) ∧ k (.int (i * j))
  | .mul, .str a, .int j, k => 0 ≤ j ∧ szK j.toNat (szK a.length (szK (j.toNat * a.length) (k (.str (repL j.toNat a)))))
  | .mul, .int j, .str a, k => 0 ≤ j ∧ szK j.toNat (szK a.length (szK (j.toNat * a.length) (k (.str (repL j.toNat a)))))
  | .fdiv, .int i, .int j, k => (0 < j ∧ j < 1073741824) ∧ k (.int (i / j))
  | .mod, .int i, .int j, k => 0 < j ∧ k (.int (i % j))
  | _, _, _, _ => False
def okS (l : List Nat) : Bool := l.all fun c => Nat.blt c 55296
/-- flat -/
def isF : Tr → Bool
  | .non => true
  | .bl _ => true
  | .int _ => true
  | .str _ => true
  | _ => false
mutual
/-- data that == looks at, of a depth below n -/
def isD : Nat → Tr → Bool
  | _, .non => true
  | _, .bl _ => true
  | _, .int _ => true
  | _, .str l => okS l
  | n + 1, .tup ts => isDs n ts
  | n + 1, .lst ts => isDs n ts
  | n + 1, .ktup ts => isDs n ts
  | _, _ => false
def isDs : Nat → List Tr → Bool
  | _, [] => true
  | n, t :: ts => isD n t && isDs n ts
end
mutual
/-- == of data -/
def eqT : Tr → Tr → Bool
  | .non, .non => true
  | .bl a, .bl b => decide (a = b)
  | .bl a, .int j => decide ((if a then 1 else 0) = j)
  | .int i, .bl b => decide (i = (if b then 1 else 0))
  | .int i, .int j => decide (i = j)
  | .str a, .str b => decide (a = b)
  | .tup a, .tup b => eqTs a b
  | .ktup a, .ktup b => eqTs a b
  | .tup a, .ktup b => eqTs a b
  | .ktup a, .tup b => eqTs a b
  | .lst a, .lst b => eqTs a b
  | _, _ => false
def eqTs : List Tr → List Tr → Bool
  | [], [] => true
  | a :: as, b :: bs => eqT a b && eqTs as bs
  | _, _ => false
end
def eqK : Tr → Tr → (Bool → Prop) → Prop
  | .int i, .int j, k => k (decide (i = j))
  | .str a, .str b, k => k (decide (a = b))
  | a, b, k => (isD 60 a && isD 60 b) = true ∧ k (eqT a b)
/-! dicts -/
def getT : List (Tr × Tr) → Tr → Option Tr
  | [], _ => none
  | (k, v) :: r, x => if eqT k x = true then some v else getT r x
def putT (kvs : List (Tr × Tr)) (x y : Tr) : List (Tr × Tr) :=
  if (kvs.any fun p => eqT p.1 x) = true then kvs.map (fun p => if eqT p.1 x = true then (p.1, y) else p) else kvs ++ [(x, y)]
/-- a key: an int, a text, or a tuple of these -/
def isAt : Tr → Bool
  | .int _ => true
  | .str _ => true
  | _ => false
mutual
/-- part of a key, of a depth below n -/
def isNk : Nat → Tr → Bool
  | _, .non => true
  | _, .int _ => true
  | _, .str _ => true
  | n + 1, .tup ts => isNks n ts
  | n + 1, .ktup ts => isNks n ts
  | _, _ => false
def isNks : Nat → List Tr → Bool
  | _, [] => true
  | n, t :: ts => isNk n t && isNks n ts
end
def isKey : Bool → Tr → Bool
  | false, .int _ => true
  | false, .str _ => true
  | true, .tup ts => isNks 7 ts
  | true, .ktup ts => isNks 7 ts
  | _, _ => false
/-- one sign -/
def sgK : Tr → (Nat → Prop) → Prop
  | .str [c], k => k c
  | _, _ => False
/-- one tuple of texts is not ahead of another one -/
def geT : List (List Nat) → List (List Nat) → Bool
  | [], [] => true
  | [], _ :: _ => false
  | _ :: _, [] => true
  | a :: as, b :: bs => if a = b then geT as bs else !decide (a < b)
def cmpK : Cm → Tr → Tr → (Tr → Prop) → Prop
  | .eq, a, b, k => eqK a b fun r => k (.bl r)
  | .ne, a, b, k => eqK a b fun r => k (.bl (!r))
  | .lt, .int i, .int j, k => k (.bl (decide (i < j)))
  | .le, .int i, .int j, k => k (.bl (decide (i ≤ j)))
  | .gt, .int i, .int j, k => k (.bl (decide (j < i)))
  | .ge, .int i, .int j, k => k (.bl (decide (j ≤ i)))
  | .lt, .str a, .str b, k => k (.bl (decide (a < b)))
  | .ge, .tup as, .tup bs, k => ∃ ls ms : List (List Nat), as = ls.map .str ∧ bs = ms.map .str ∧ k (.bl (geT ls ms))
  | .le, .str a, .str b, k => k (.bl (!decide (b < a)))
  | .isin, x, .str l, k => sgK x fun c => k (.bl (decide (c ∈ l)))
  | .notin, x, .str l, k => sgK x fun c => k (.bl (!decide (c ∈ l)))
  | .isin, x, .lst ts, k => ((isF x && ts.all isF) || (isD 60 x && isDs 60 ts)) = true ∧ k (.bl (ts.any fun t => eqT t x))
  | .notin, x, .lst ts, k => ((isF x && ts.all isF) || (isD 60 x && isDs 60 ts)) = true ∧ k (.bl (!ts.any fun t => eqT t x))
  | .isin, x, .tup ts, k => ((isF x && ts.all isF) || (isD 60 x && isDs 60 ts)) = true ∧ k (.bl (ts.any fun t => eqT t x))
  | .notin, x, .tup ts, k => ((isF x && ts.all isF) || (isD 60 x && isDs 60 ts)) = true ∧ k (.bl (!ts.any fun t => eqT t x))
  | .isin, x, .ktup ts, k => (isF x && ts.all isF) = true ∧ k (.bl (ts.any fun t => eqT t x))
  | .notin, x, .ktup ts, k => (isF x && ts.all isF) = true ∧ k (.bl (!ts.any fun t => eqT t x))
  | .isin, x, .dic b kvs, k => isKey b x = true ∧ k (.bl (getT kvs x).isSome)
  | .notin, x, .dic b kvs, k => isKey b x = true ∧ k (.bl (!(getT kvs x).isSome))
  | .is, x, .non, k => match x with | .non => k (.bl true) | .ptr _ => False | _ => k (.bl false)
  | .isnot, x, .non, k => match x with | .non => k (.bl false) | .ptr _ => False | _ => k (.bl true)
  | _, _, _, _ => False
/-- xs[i] -/
def ixT (n : Nat) (i : Int) : Option Nat := if 0 ≤ i then (if i < n then some i.toNat else none) else if -(n : Int) ≤ i then some (i + n).toNat else none
def atT {α : Type} (xs : List α) (i : Int) : Option α := (ixT xs.length i).bind fun j => xs[j]?
def ixK : Tr → Tr → (Tr → Prop) → Prop
  | .lst ts, .int i, k => ∃ t, atT ts i = some t ∧ k t
  | .tup ts, .int i, k => ∃ t, atT ts i = some t ∧ k t
  | .ktup ts, .int i, k => ∃ t, atT ts i = some t ∧ k t
  | .str l, .int i, k => szK l.length (∃ c, atT l i = some c ∧ k (.str [c]))
  | .dic b kvs, x, k => isKey b x = true ∧ ∃ t, getT kvs x = some t ∧ k t
  | _, _, _ => False
/-- the part from lo to hi -/
def bnd (n d : Nat) : Option Int → Nat
  | none => d
  | some v => if v < 0 then (v + (n : Int)).toNat else min v.toNat n
def part {α : Type} (l : List α) (lo hi : Option Int) : List α := (l.drop (bnd l.length 0 lo)).take (bnd l.length l.length hi - bnd l.length 0 lo)
def slK (x : Tr) (l h : Option Int) (k : Tr → Prop) : Prop := match x with
  | .str s => szK s.length (k (.str (part s l h)))
  | .tup ts => ¬ (bnd ts.length 0 l = 0 ∧ bnd ts.length ts.length h = ts.length) ∧ k (.tup (part ts l h))
  | .lst ts => k (.lst (part ts l h))
  | _ => False
def lmin : List Int → Int
  | [] => 0
  | [a] => a
  | a :: b :: r => min a (lmin (b :: r))
def lmax : List Int → Int
  | [] => 0
  | [a] => a
  | a :: b :: r => max a (lmax (b :: r))
/-! ### the language -/
inductive Ty | str | int | bool | list | tuple
inductive Bl | tupleK | len | int | tuple | list | min2 | max2 | minL | maxL | all | any | str | dict | max3 | minK | minK2 | sumL
inductive I where
  | nm (i : Nat) | c (t : Tr) | nil | cons (a b : I) | star (a b : I)
  | tup (a : I) | lst (a : I) | ow (a : I) | mv (i : Nat)
  | op (o : Op) (a b : I) | addL (a b : I) | neg (a : I) | not (a : I)
  | cmp (o : Cm) (a b : I) | chain (o p : Cm) (a b c : I)
  | and (a b : I) | or (a b : I) | ife (c a b : I)
  | ix (a b : I) | sl00 (a : I) | sl10 (a lo : I) | sl01 (a hi : I) | sl11 (a lo hi : I) | rev (a : I) | revS (a : I)
  | call (c : Con) (a : I)
  | blt (f : Bl) (a : I)
  | isi (a : I) (ns : List Ty)
  | fld (d : Nat) (a : I) (f : Nat) | prp (d : Nat) (c : Con) (a : I) | mth (d : Nat) (c : Con) (a b : I) | new (d : Nat) (c : Con) (a : I) | sorted (a : I) | eqO (d : Nat) (c : Con) (neg : Bool) (a b : I)
  | join (a b : I)
  | get2 (d k v : I) | get1 (d k : I)
  | emp (b : Bool)
  | itS (a : I) | rng (a b : I) | enm (s : Int) (a : I) | zip (a b : I) | keys (a : I) | items (a : I)
  | comp (tg : Tg) (own : List Nat) (it c e : I)
  | dcomp (b : Bool) (tg : Tg) (own : List Nat) (it ke ve : I)
  | yes | src (y : Nat)
  | isO (d : Nat) (a : I) | enmS (a : I) | dictP (a : I) | lrng (a : I) | idx (a b : I) | idxT (a b : I) | repL (a : I) (k : Nat) | mulL (a b : I) | lenS (a : I) | minD (a d : I) | pop (x : Nat) | eqX (d : Nat) (c : Con) (neg : Bool) (a b : I) | fp (a : I) | fstr (a : I) | newL (d : Nat) (c : Con) (a : I) | split (a b : I) | intS (a : I) | strI (a : I) | newV (i d : Nat) (c : Con) (a : I) | cmeth (d : Nat) (c : Con) (a : I)
  | owL (tg : Tg) (own : List Nat) (it e : I) | ixx (x i j : Nat) | rep (f : Tr → List Nat) (ok : Tr → Bool) (a : I) | dsp (a b : I) | dictK (a : I) | popI (x : Nat) (a : I)
  | comp2 (tg : Tg) (own : List Nat) (it : I) (tg1 : Tg) (own1 : List Nat) (it1 c e : I)
  | ow22 | len2 (x : Nat) | lenX (x : Nat) | pop2 (x : Nat) | callV (x : Nat) (cs : List (Nat × Con)) (a : I)
  | newB (d : Nat) (c : Con) (a : I) | prpE (d : Nat) (c : Con) (r : I) | prpP (n d : Nat) (c : Con) | mthE (d : Nat) (c : Con) (r b : I) | fldB (x d f : Nat)
  | mthP (n d : Nat) (c : Con) (b : I) | fldP (x d f : Nat) | lenP (x d f : Nat) | ixP (x d f : Nat) (e : I) | inP (neg : Bool) (x d f : Nat) (e : I) | popP (x d f : Nat) | popKP (x d f : Nat) (e : I) | joinP (x d f : Nat) (s : I) | minP (c : Con) (x d f : Nat)
  | ltT (a b : I) | srtS (tg : Tg) (own : List Nat) (it : I) (tg1 : Tg) (own1 : List Nat) (it1 e : I) | cntS (a b : I)
  | compD (tg : Tg) (own : List Nat) (x : Nat) (c e : I)
  | primI (f : Ev → Mem → EK → EK → Prop)
  | lstD (x : Nat) | dictT (a : I) | cmpT (o : Cm) (a b : I) | eqLO (d : Nat) (c : Con) (neg : Bool) (a b : I) | lzip (a b : I)
def compK0 (f : Tr → Mem → (Option Tr → Mem → Prop) → Prop) : List Tr → Mem → (List Tr → Mem → Prop) → Prop
  | [], μ, φ => φ [] μ
  | t :: ts, μ, φ => f t μ fun r μ => match r with
    | some r => compK0 f ts μ fun rs μ => φ (r :: rs) μ
    | none => compK0 f ts μ φ
@[irreducible] def compK (f : Tr → Mem → (Option Tr → Mem → Prop) → Prop) (ts : List Tr) (μ : Mem) (φ : List Tr → Mem → Prop) : Prop := compK0 f ts μ φ
theorem compK_nil {f μ φ} : compK f [] μ φ = φ [] μ := by unfold compK; rfl
theorem compK_cons {f t ts μ φ} : compK f (t :: ts) μ φ = f t μ fun r μ => match r with
    | some r => compK f ts μ fun rs μ => φ (r :: rs) μ
    | none => compK f ts μ φ := by unfold compK; rfl
def dcompK0 (b : Bool) (f : Tr → Mem → (Tr → Tr → Mem → Prop) → Prop) : List Tr → List (Tr × Tr) → Mem → (List (Tr × Tr) → Mem → Prop) → Prop
  | [], kvs, μ, φ => φ kvs μ
  | t :: ts, kvs, μ, φ => f t μ fun x y μ => isKey b x = true ∧ dcompK0 b f ts (putT kvs x y) μ φ
@[irreducible] def dcompK (b : Bool) (f : Tr → Mem → (Tr → Tr → Mem → Prop) → Prop) (ts : List Tr) (kvs : List (Tr × Tr)) (μ : Mem) (φ : List (Tr × Tr) → Mem → Prop) : Prop := dcompK0 b f ts kvs μ φ
/-- two walks, one in the other -/
def comp2K0 (f : Tr → Mem → (List Tr → Mem → Prop) → Prop) : List Tr → Mem → (List Tr → Mem → Prop) → Prop
  | [], μ, φ => φ [] μ
  | t :: ts, μ, φ => f t μ fun r μ => comp2K0 f ts μ fun rs μ => φ (r ++ rs) μ
@[irreducible] def comp2K (f : Tr → Mem → (List Tr → Mem → Prop) → Prop) (ts : List Tr) (μ : Mem) (φ : List Tr → Mem → Prop) : Prop := comp2K0 f ts μ φ
/-- how many different ones -/
def dcnt : List (List Nat) → List (List Nat) → Nat
  | _, [] => 0
  | pre, x :: r => (if x ∈ pre then 0 else 1) + dcnt (pre ++ [x]) r
/-- where the first one stands -/
def idxK : Tr → Tr → (Tr → Prop) → Prop
  | .lst ts, y, k => (isF y && ts.all isF) = true ∧ ∃ j : Nat, ts.findIdx? (fun t => eqT t y) = some j ∧ k (.int j)
  | .tup ts, y, k => ∃ (ls : List (List Nat)) (l : List Nat), ts = ls.map Tr.str ∧ y = .str l ∧ ∃ j : Nat, ls.findIdx? (fun t => decide (t = l)) = some j ∧ k (.int j)
  | .ktup ts, y, k => ∃ (ls : List (List Nat)) (l : List Nat), ts = ls.map Tr.str ∧ y = .str l ∧ ∃ j : Nat, ls.findIdx? (fun t => decide (t = l)) = some j ∧ k (.int j)
  | _, _, _ => False
/-! calls: the cells that are handed over -/
def renum : List Tr → Nat → (List Tr → List Nat → Prop) → Prop
  | [], _, k => k [] []
  | .ptr i :: ts, n, k => renum ts (n + 1) fun us is => k (.ptr n :: us) (i :: is)
  | t :: ts, n, k => renum ts n fun us is => k (t :: us) is
def pickK (μ : Mem) : List Nat → (List Cel → Prop) → Prop
  | [], k => k []
  | i :: is, k => celK μ i fun c => pickK μ is fun cs => k (c :: cs)
/-- the cells come back; what is new comes behind -/
def backK : Mem → List Nat → List Cel → (Mem → Prop) → Prop
  | μ, i :: is, c :: cs, k => cputK μ i c fun μ => backK μ is cs k
  | μ, [], [], k => k μ
  | _, _, _, _ => False
def dupF : List Nat → Bool
  | [] => true
  | i :: is => !(is.contains i) && dupF is
@[irreducible] def callK (c : Con) (xs : List Tr) (μ : Mem) (φ ε : EK) : Prop :=
  renum xs 0 fun us is => match is with
    | [] => c us [] (fun t cs => match t, cs with | .ptr _, _ => False | t, [] => φ t μ | _, _ => False) (fun t cs => match t, cs with | .ptr _, _ => False | t, [] => ε t μ | _, _ => False)
    | i :: is => dupF (i :: is) = true ∧ pickK μ (i :: is) fun cs => c us cs (fun t cs => match t with | .ptr _ => False | t => backK μ (i :: is) cs fun μ => φ t μ) (fun t cs => match t with | .ptr _ => False | t => backK μ (i :: is) cs fun μ => ε t μ)
/-! ### objects with parts of their own -/
def fcK : List (Nat × Fc) → Nat → (Fc → Prop) → Prop
  | [], _, _ => False
  | (g, t) :: r, f, k => match Nat.beq g f with | true => k t | false => fcK r f k
def fcPut (f : Nat) (t : Fc) : List (Nat × Fc) → List (Nat × Fc)
  | [] => []
  | (g, u) :: r => match Nat.beq g f with | true => (g, t) :: r | false => (g, u) :: fcPut f t r
def fbK : List (Nat × Fb) → Nat → (Fb → Prop) → Prop
  | [], _, _ => False
  | (g, t) :: r, f, k => match Nat.beq g f with | true => k t | false => fbK r f k
def fbHas (f : Nat) : List (Nat × Fb) → Bool
  | [] => false
  | (g, _) :: r => match Nat.beq g f with | true => true | false => fbHas f r
/-- a box opened: the object, its parts -/
def unbF : Nat → List (Nat × Fb) → List (Nat × Fc)
  | _, [] => []
  | j, (f, .val t) :: r => (f, .val t) :: unbF j r
  | j, (f, .pv _) :: r => (f, .at j) :: unbF (j + 1) r
  | j, (f, .lst _) :: r => (f, .at j) :: unbF (j + 1) r
  | j, (f, .dic _) :: r => (f, .at j) :: unbF (j + 1) r
def unbP : Nat → List (Nat × Fb) → List Cel
  | _, [] => []
  | j, (_, .val _) :: r => unbP j r
  | j, (_, .pv t) :: r => .pin j (.val t) :: unbP (j + 1) r
  | j, (_, .lst ts) :: r => .pin j (.lst ts) :: unbP (j + 1) r
  | j, (_, .dic kvs) :: r => .pin j (.dic kvs) :: unbP (j + 1) r
def unb (c : Nat) (fs : List (Nat × Fb)) : List Cel := .objC c (unbF 1 fs) :: unbP 1 fs
/-- the field f of the object in the slot x -/
def fldP (ρ : Ev) (μ : Mem) (x d f : Nat) (k : Fc → Prop) : Prop := getK ρ x fun p => match p with
  | .ptr a => celK μ a fun c => match c with
    | .objC e fs => (match Nat.beq e d with | true => fcK fs f k | false => False)
    | _ => False
  | _ => False
/-- the part that this field names -/
def atK (ρ : Ev) (μ : Mem) (x d f : Nat) (k : Nat → Prop) : Prop := fldP ρ μ x d f fun o => match o with
  | .at j => k j
  | _ => False
def pinK (μ : Mem) (j : Nat) (k : Pk → Prop) : Prop := celK μ j fun c => match c with
  | .pin n q => (match Nat.beq n j with | true => k q | false => False)
  | _ => False
def prtP (ρ : Ev) (μ : Mem) (x d f : Nat) (k : Nat → Pk → Prop) : Prop := atK ρ μ x d f fun j => pinK μ j (k j)
/-- values that an address stands for -/
def isRf : Tr → Bool
  | .tup _ => true
  | .lst _ => true
  | .obj _ _ => true
  | _ => false
def delT (kvs : List (Tr × Tr)) (x : Tr) : List (Tr × Tr) := kvs.filter fun p => !eqT p.1 x
mutual
/-- plain values: no dict and no object in them -/
def plT : Tr → Bool
  | .non => true
  | .bl _ => true
  | .int _ => true
  | .str _ => true
  | .cls _ => true
  | .tup ts => plTs ts
  | .lst ts => plTs ts
  | _ => false
def plTs : List Tr → Bool
  | [] => true
  | t :: ts => plT t && plTs ts
end
def plF : Fc → Bool
  | .val t => plT t
  | .at _ => true
def plC : Cel → Bool
  | .gone => true
  | .lst ts => plTs ts
  | .objC _ fs => fs.all fun p => plF p.2
  | .pin _ (.lst ts) => plTs ts
  | .pin _ (.dic kvs) => kvs.all fun p => plT p.1 && plT p.2
  | _ => false
def plE : Ev → Bool
  | [] => true
  | none :: r => plE r
  | some t :: r => (match t with | .ptr _ => true | t => plT t) && plE r
def isPv : Cel → Bool
  | .pin _ (.val _) => true
  | _ => false
/-- cell by cell: plain, or a value that keeps its place as it was -/
def plM : Mem → Mem → Prop
  | _, [] => True
  | [], c :: r => plC c = true ∧ plM [] r
  | d :: s, c :: r => (plC c = true ∨ (isPv c = true ∧ d = c)) ∧ plM s r
mutual
/-- classes by small numbers -/
def smT : Tr → Bool
  | .cls d => Nat.blt d 200
  | .obj c fs => Nat.blt c 200 && smFs fs
  | .tup ts => smTs ts
  | .lst ts => smTs ts
  | .ktup ts => smTs ts
  | .dic _ kvs => smKs kvs
  | _ => true
def smTs : List Tr → Bool
  | [] => true
  | t :: ts => smT t && smTs ts
def smFs : List (Nat × Tr) → Bool
  | [] => true
  | (_, t) :: r => smT t && smFs r
def smKs : List (Tr × Tr) → Bool
  | [] => true
  | (k, t) :: r => smT k && smT t && smKs r
end
def smB : List (Nat × Fb) → Bool
  | [] => true
  | (_, .val t) :: r => smT t && smB r
  | (_, .pv t) :: r => smT t && smB r
  | (_, .lst ts) :: r => smTs ts && smB r
  | (_, .dic kvs) :: r => smKs kvs && smB r
/-- what min(.., key=..) goes by: two numbers and a text -/
abbrev Ky := Int × Int × List Nat
def kyT (q : Ky) : Tr := .tup [.int q.1, .int q.2.1, .str q.2.2]
def ltK (a b : Ky) : Bool := decide (a.1 < b.1) || (decide (a.1 = b.1) && (decide (a.2.1 < b.2.1) || (decide (a.2.1 = b.2.1) && decide (a.2.2 < b.2.2))))
/-- how two such keys are compared -/
def cmK : Cm → Ky → Ky → (Bool → Prop) → Prop
  | .lt, p, q, k => k (ltK p q)
  | .gt, p, q, k => k (ltK q p)
  | .le, p, q, k => k (!ltK q p)
  | .ge, p, q, k => k (!ltK p q)
  | _, _, _, _ => False
/-- what is equal to itself: plain values, own objects by their own ==, lists and tuples of these -/
def selfEq (d : Nat) (c : Con) : Nat → Tr → Prop
  | 0, _ => False
  | k + 1, t => match t with
    | .obj e _ => (match Nat.beq e d with | true => ∀ φ ε : EK, φ (.bl true) [] → c [t, t] [] φ ε | false => False)
    | .tup ts => ∀ t ∈ ts, selfEq d c k t
    | .lst ts => ∀ t ∈ ts, selfEq d c k t
    | .str _ => True
    | .int _ => True
    | .bl _ => True
    | .non => True
    | _ => False
/-- which promise a function has -/
def fnsK : List (Nat × Con) → Nat → (Con → Prop) → Prop
  | [], _, _ => False
  | (e, c) :: r, d, k => match Nat.beq e d with
    | true => k c
    | false => fnsK r d k
def bltK : Bl → List Tr → (Tr → Prop) → Prop
  | .len, [.lst ts], k => k (.int ts.length)
  | .len, [.tup ts], k => k (.int ts.length)
  | .len, [.ktup ts], k => k (.int ts.length)
  | .len, [.str l], k => szK l.length (k (.int l.length))
  | .int, [.int i], k => k (.int i)
  | .int, [.bl b], k => k (.int (if b then 1 else 0))
  | .str, [.str l], k => k (.str l)
  | .tuple, [.lst ts], k => k (.tup ts)
  | .tuple, [.tup ts], k => k (.tup ts)
  | .tuple, [.ktup ts], k => k (.ktup ts)
  | .tupleK, [.lst ts], k => k (.ktup ts)
  | .list, [.lst ts], k => k (.lst ts)
  | .list, [.tup ts], k => k (.lst ts)
  | .list, [.ktup ts], k => k (.lst ts)
  | .min2, [.int i, .int j], k => k (.int (min i j))
  | .max2, [.int i, .int j], k => k (.int (max i j))
  | .max3, [.int i, .int j, .int l], k => k (.int (max (max i j) l))
  | .minL, [.lst ts], k => ∃ ns : List Int, ts = ns.map Tr.int ∧ 0 < ns.length ∧ k (.int (lmin ns))
  | .maxL, [.lst ts], k => ∃ ns : List Int, ts = ns.map Tr.int ∧ 0 < ns.length ∧ k (.int (lmax ns))
  | .sumL, [.lst ts], k => ∃ ns : List Int, ts = ns.map Tr.int ∧ k (.int ns.sum)
  | .minK, [.lst ts], k => ∃ ks : List Ky, ts = ks.map kyT ∧ ∃ q ∈ ks, (∀ j ∈ ks, ltK j q = false) ∧ k (kyT q)
  | .minK2, [x, y], k => ∃ p q : Ky, x = kyT p ∧ y = kyT q ∧ k (kyT (if ltK q p then q else p))
  | .all, [.lst ts], k => ∃ bs : List Bool, ts = bs.map Tr.bl ∧ k (.bl (bs.all id))
  | .any, [.lst ts], k => ∃ bs : List Bool, ts = bs.map Tr.bl ∧ k (.bl (bs.any id))
  | _, _, _ => False
def Ty.has : Ty → Tr → Bool
  | .str, .str _ => true
  | .int, .int _ => true
  | .int, .bl _ => true
  | .bool, .bl _ => true
  | .list, .lst _ => true
  | .tuple, .tup _ => true
  | .tuple, .ktup _ => true
  | _, _ => false
def isiK (t : Tr) (ns : List Ty) (k : Bool → Prop) : Prop := match t with
  | .dic true _ => False
  | .obj _ _ => False
  | .ty _ => False
  | .ptr _ => False
  | .scr _ => False
  | .cls _ => False
  | t => k (ns.any fun y => y.has t)
def fldK : List (Nat × Tr) → Nat → (Tr → Prop) → Prop
  | [], _, _ => False
  | (g, t) :: r, f, k => match Nat.beq g f with | true => k t | false => fldK r f k
/-- an object of the class d, by its fields -/
def clsK (μ : Mem) (d : Nat) : Tr → (List (Nat × Tr) → Prop) → Prop
  | .obj e fs, k => (match Nat.beq e d with | true => k fs | false => False)
  | .ptr i, k => celK μ i fun c => match c with | .obj e fs => (match Nat.beq e d with | true => k fs | false => False) | _ => False
  | _, _ => False
/-- .. by its fields alone -/
def clsF (μ : Mem) (d : Nat) : Tr → (List (Nat × Tr) → Prop) → Prop
  | .obj e fs, k => (match Nat.beq e d with | true => k fs | false => False)
  | .ptr i, k => celK μ i fun c => match c with
    | .obj e fs => (match Nat.beq e d with | true => k fs | false => False)
    | .objW e fs _ => (match Nat.beq e d with | true => k fs | false => False)
    | _ => False
  | _, _ => False
/-- no object -/
def isNo : Tr → Bool
  | .non => true
  | .bl _ => true
  | .int _ => true
  | .str _ => true
  | .tup _ => true
  | .ktup _ => true
  | _ => false
def isOK (μ : Mem) (d : Nat) (x : Tr) (k : Bool → Prop) : Prop := match isNo x with
  | true => k false
  | false => clsK μ d x fun _ => k true
/-- a number as it is written -/
@[irreducible] def decT (i : Int) : List Nat := (toString i).toList.map Char.toNat
/-- texts, one behind the other -/
def fsK : List Tr → (List Nat → Prop) → Prop
  | [], k => k []
  | t :: ts, k => match t with | .str l => fsK ts fun m => k (l ++ m) | _ => False
mutual
/-- no list stands in it -/
def noL : Tr → Bool
  | .non => true
  | .bl _ => true
  | .int _ => true
  | .str _ => true
  | .ty _ => true
  | .tup ts => noLs ts
  | .ktup ts => noLs ts
  | _ => false
def noLs : List Tr → Bool
  | [] => true
  | t :: ts => noL t && noLs ts
end
def noLC : Cel → Bool
  | .obj _ fs => noLs (fs.map Prod.snd)
  | .objW _ fs kvs => noLs (fs.map Prod.snd) && kvs.all fun p => noLs p.2
  | _ => false
/-- lists that are lent -/
def lendK : List Tr → Mem → (List Tr → Prop) → Prop
  | [], _, k => k []
  | t :: ts, μ, k => match t with
    | .ptr i => celK μ i fun c => match c with
      | .lst us => lendK ts μ fun ys => k (.lst us :: ys)
      | .lst2 uss => lendK ts μ fun ys => k (.lst (uss.map .lst) :: ys)
      | _ => False
    | t => lendK ts μ fun ys => k (t :: ys)
/-- an object that was made: its dict of lists, if it has one, comes last -/
def newK : Tr → List Cel → (Tr → Prop) → Prop
  | .non, [.obj e fs], k => k (.obj e fs)
  | .non, [.objW e fs kvs], k => k (.obj e (fs ++ [(4, .dic true (kvs.map fun p => (p.1, .lst p.2)))]))
  | _, _, _ => False
/-- atoms -/
def atmT : Int ⊕ List Nat → Tr
  | .inl i => .int i
  | .inr l => .str l
def lexA : List (Int ⊕ List Nat) → List (Int ⊕ List Nat) → Bool
  | [], _ => true
  | _ :: _, [] => false
  | a :: as, b :: bs => match a, b with
    | .inl i, .inl j => decide (i < j) || (decide (i = j) && lexA as bs)
    | .inr l, .inr m => decide (l < m) || (decide (l = m) && lexA as bs)
    | _, _ => false
/-- sorted: texts, or tuples of one kind -/
def sortL (ts : List Tr) (k : Tr → Prop) : Prop :=
  (∃ ls : List (List Nat), ts = ls.map Tr.str ∧ ∀ rs : List (List Nat), rs.Perm ls → rs.Pairwise (fun a b => ¬ b < a) → k (.lst (rs.map Tr.str))) ∨
  (∃ (ks : List (List (Int ⊕ List Nat))) (pat : List Bool), ts = ks.map (fun k => Tr.tup (k.map atmT)) ∧ pat ≠ [] ∧ (∀ k ∈ ks, k.map Sum.isLeft = pat) ∧ ∀ rs : List (List (Int ⊕ List Nat)), rs.Perm ks → rs.Pairwise (fun a b => lexA a b = true) → k (.lst (rs.map fun k => Tr.tup (k.map atmT))))
def sortK : Tr → (Tr → Prop) → Prop
  | .lst ts, k => sortL ts k
  | .dic b kvs, k => (b = false → kvs.length < 64) ∧ sortL (kvs.map Prod.fst) k
  | _, _ => False
def strsK (ts : List Tr) (k : List (List Nat) → Prop) : Prop := ∃ ls : List (List Nat), ts = ls.map Tr.str ∧ k ls
def sqLT : Tr → (List Tr → Prop) → Prop
  | .lst ts, k => k ts
  | .tup ts, k => k ts
  | .ktup ts, k => k ts
  | _, _ => False
/-- the items that a walk gives out -/
def seqK : Tr → (List Tr → Prop) → Prop
  | .lst ts, k => k ts
  | .tup ts, k => k ts
  | .ktup ts, k => k ts
  | .str l, k => k (l.map fun c => .str [c])
  | _, _ => False
def rngL (lo hi : Int) : List Tr := (List.range (hi - lo).toNat).map fun i => Tr.int (lo + (i : Nat))
def enmL : Int → List Tr → List Tr
  | _, [] => []
  | n, t :: ts => .tup [.int n, t] :: enmL (n + 1) ts
def zipL : List Tr → List Tr → List Tr
  | a :: as, b :: bs => .tup [a, b] :: zipL as bs
  | _, _ => []
def joinL (s : List Nat) : List (List Nat) → List Nat
  | [] => []
  | [a] => a
  | a :: b :: r => a ++ s ++ joinL s (b :: r)
/-- the number that one or two digits tell -/
def digK : List Nat → (Int → Prop) → Prop
  | [c], k => (48 ≤ c ∧ c ≤ 57) ∧ k ((c : Int) - 48)
  | [c, d], k => ((48 ≤ c ∧ c ≤ 57) ∧ (48 ≤ d ∧ d ≤ 57)) ∧ k (10 * ((c : Int) - 48) + ((d : Int) - 48))
  | _, _ => False
/-- the parts between the signs s -/
def splitL (s : Nat) : List Nat → List (List Nat)
  | [] => [[]]
  | c :: l => if c = s then [] :: splitL s l else match splitL s l with
    | [] => [[c]]
    | p :: ps => (c :: p) :: ps
/-- a method of an object whose parts are opened -/
@[irreducible] def boxK (d : Nat) (c : Con) (i : Nat) (xs : List Tr) (μ : Mem) (φ ε : EK) : Prop := celK μ i fun q => match q with
  | .box e fs => (match Nat.beq e d with
    | true => (smTs xs && smB fs && Nat.blt d 200) = true ∧ noP xs (c (.ptr 0 :: xs) (unb e fs) (fun t cs => match t with | .ptr _ => False | t => ∃ fs', cs = unb e fs' ∧ (smT t && smB fs') = true ∧ cputK μ i (.box e fs') fun μ => φ t μ) (fun t cs => match t with | .ptr _ => False | t => ∃ fs', cs = unb e fs' ∧ (smT t && smB fs') = true ∧ cputK μ i (.box e fs') fun μ => ε t μ))
    | false => False)
  | _ => False
def wp : I → Ev → Mem → EK → EK → Prop
  | .nm i, ρ, μ, φ, _ => getK ρ i fun t => φ t μ
  | .c t, _, μ, φ, _ => φ t μ
  | .yes, _, μ, φ, _ => φ (.bl true) μ
  | .nil, _, μ, φ, _ => φ (.tup []) μ
  | .src y, ρ, μ, φ, _ => getK ρ y fun t => match t with
    | .scr _ => snocK μ 0 (.src 0) fun i μ => φ (.ptr i) μ
    | _ => False
  | .cons a b, ρ, μ, φ, ε => wp a ρ μ (fun x μ => wp b ρ μ (fun y μ => match y with | .tup xs => φ (.tup (x :: xs)) μ | _ => False) ε) ε
  | .star a b, ρ, μ, φ, ε => wp a ρ μ (fun x μ => tv μ x fun x => sqLT x fun zs => wp b ρ μ (fun y μ => match y with | .tup xs => szK (zs.length + xs.length) (φ (.tup (zs ++ xs)) μ) | _ => False) ε) ε
  | .tup a, ρ, μ, φ, ε => wp a ρ μ (fun y μ => match y with | .tup xs => szK xs.length (noP xs (φ (.tup xs) μ)) | _ => False) ε
  | .lst a, ρ, μ, φ, ε => wp a ρ μ (fun y μ => match y with | .tup xs => szK xs.length (noP xs (φ (.lst xs) μ)) | _ => False) ε
  | .ow a, ρ, μ, φ, ε => wp a ρ μ (fun y μ => match y with
    | .lst ts => snocK μ 0 (.lst ts) fun i μ => φ (.ptr i) μ
    | .dic b kvs => snocK μ 0 (.dic b kvs) fun i μ => φ (.ptr i) μ
    | _ => False) ε
  | .mv i, ρ, μ, φ, _ => getK ρ i fun t => match t with
    | .ptr a => celK μ a fun c => match c with
      | .lst ts => cputK μ a .gone fun μ => φ (.lst ts) μ
      | .lst2 tss => cputK μ a .gone fun μ => φ (.lst (tss.map .lst)) μ
      | .dic b kvs => cputK μ a .gone fun μ => φ (.dic b kvs) μ
      | .obj c fs => cputK μ a .gone fun μ => φ (.obj c fs) μ
      | _ => False
    | _ => False
  | .op o a b, ρ, μ, φ, ε => wp a ρ μ (fun x μ => wp b ρ μ (fun y μ => opK o x y fun t => φ t μ) ε) ε
  | .addL a b, ρ, μ, φ, ε => wp a ρ μ (fun x μ => wp b ρ μ (fun y μ => tv μ x fun x => tv μ y fun y => match x, y with | .lst a, .lst b => szK (a.length + b.length) (φ (.lst (a ++ b)) μ) | _, _ => False) ε) ε
  | .neg a, ρ, μ, φ, ε => wp a ρ μ (fun x μ => match x with | .int i => φ (.int (-i)) μ | _ => False) ε
  | .not a, ρ, μ, φ, ε => wp a ρ μ (fun x μ => match x with | .bl b => φ (.bl (!b)) μ | _ => False) ε
  | .cmp o a b, ρ, μ, φ, ε => wp a ρ μ (fun x μ => wp b ρ μ (fun y μ => tv μ x fun x => tv μ y fun y => cmpK o x y fun t => φ t μ) ε) ε
  | .chain o p a b c, ρ, μ, φ, ε => wp a ρ μ (fun x μ => wp b ρ μ (fun y μ => cmpK o x y fun t => match t with
      | .bl true => wp c ρ μ (fun z μ => cmpK p y z fun t => φ t μ) ε
      | .bl false => φ (.bl false) μ
      | _ => False) ε) ε
  | .and a b, ρ, μ, φ, ε => wp a ρ μ (fun x μ => match x with | .bl true => wp b ρ μ φ ε | .bl false => φ (.bl false) μ | _ => False) ε
  | .or a b, ρ, μ, φ, ε => wp a ρ μ (fun x μ => match x with | .bl true => φ (.bl true) μ | .bl false => wp b ρ μ φ ε | _ => False) ε
  | .ife c a b, ρ, μ, φ, ε => wp c ρ μ (fun x μ => match x with | .bl true => wp a ρ μ φ ε | .bl false => wp b ρ μ φ ε | _ => False) ε
  | .ix a b, ρ, μ, φ, ε => wp a ρ μ (fun x μ => wp b ρ μ (fun y μ => tv μ x fun x => ixK x y fun t => φ t μ) ε) ε
  | .sl00 a, ρ, μ, φ, ε => wp a ρ μ (fun x μ => tv μ x fun x => slK x none none fun t => φ t μ) ε
  | .sl10 a lo, ρ, μ, φ, ε => wp a ρ μ (fun x μ => wp lo ρ μ (fun l μ => match l with | .int i => tv μ x fun x => slK x (some i) none fun t => φ t μ | _ => False) ε) ε
  | .sl01 a hi, ρ, μ, φ, ε => wp a ρ μ (fun x μ => wp hi ρ μ (fun l μ => match l with | .int i => tv μ x fun x => slK x none (some i) fun t => φ t μ | _ => False) ε) ε
  | .sl11 a lo hi, ρ, μ, φ, ε => wp a ρ μ (fun x μ => wp lo ρ μ (fun l μ => match l with | .int i => wp hi ρ μ (fun h μ => match h with | .int j => tv μ x fun x => slK x (some i) (some j) fun t => φ t μ | _ => False) ε | _ => False) ε) ε
  | .rev a, ρ, μ, φ, ε => wp a ρ μ (fun x μ => tv μ x fun x => match x with
      | .lst ts => φ (.lst ts.reverse) μ
      | _ => False) ε
  | .revS a, ρ, μ, φ, ε => wp a ρ μ (fun x μ => match x with
      | .str s => szK s.length (φ (.str s.reverse) μ)
      | _ => False) ε
  | .call c a, ρ, μ, φ, ε => wp a ρ μ (fun y μ => match y with | .tup xs => callK c xs μ φ ε | _ => False) ε
  | .blt f a, ρ, μ, φ, ε => wp a ρ μ (fun y μ => match y with
      | .tup [x] => tv μ x fun x => bltK f [x] fun t => φ t μ
      | .tup xs => bltK f xs fun t => φ t μ
      | _ => False) ε
  | .isi a ns, ρ, μ, φ, ε => wp a ρ μ (fun x μ => tv μ x fun x => isiK x ns fun b => φ (.bl b) μ) ε
  | .fld d a f, ρ, μ, φ, ε => wp a ρ μ (fun x μ => clsF μ d x fun fs => fldK fs f fun t => φ t μ) ε
  | .prp d c a, ρ, μ, φ, ε => wp a ρ μ (fun x μ => clsK μ d x fun _ => callK c [x] μ φ (fun _ _ => False)) ε
  | .mth d c a b, ρ, μ, φ, ε => wp a ρ μ (fun x μ => clsK μ d x fun _ => wp b ρ μ (fun y μ => match y with | .tup xs => callK c (x :: xs) μ φ ε | _ => False) ε) ε
  | .new d c a, ρ, μ, φ, ε => wp a ρ μ (fun y μ => match y with | .tup xs => noP xs (c (.ptr 0 :: xs) [.obj d []] (fun t cs => newK t cs fun o => φ o μ) (fun t _ => ε t μ)) | _ => False) ε
  | .sorted a, ρ, μ, φ, ε => wp a ρ μ (fun x μ => tv μ x fun x => sortK x fun t => φ t μ) ε
  | .eqO d c neg a b, ρ, μ, φ, ε => wp a ρ μ (fun x μ => wp b ρ μ (fun y μ => clsK μ d x fun _ => clsK μ d y fun _ => callK c [x, y] μ (fun t μ => match t with | .bl r => φ (.bl (if neg then !r else r)) μ | _ => False) (fun _ _ => False)) ε) ε
  | .join a b, ρ, μ, φ, ε => wp a ρ μ (fun x μ => match x with
      | .str s => wp b ρ μ (fun y μ => tv μ y fun y => sqLT y fun ts => strsK ts fun ls => szK ((ls.map (·.length)).sum + ls.length * s.length) (φ (.str (joinL s ls)) μ)) ε
      | _ => False) ε
  | .get2 d k v, ρ, μ, φ, ε => wp d ρ μ (fun d μ => tv μ d fun d0 => match d0 with
      | .dic _ _ => wp k ρ μ (fun x μ => wp v ρ μ (fun y μ => tv μ d fun d => match d with
        | .dic b kvs => isKey b x = true ∧ φ ((getT kvs x).getD y) μ
        | _ => False) ε) ε
      | _ => False) ε
  | .get1 d k, ρ, μ, φ, ε => wp d ρ μ (fun d μ => tv μ d fun d0 => match d0 with
      | .dic _ _ => wp k ρ μ (fun x μ => tv μ d fun d => match d with
        | .dic b kvs => isKey b x = true ∧ φ ((getT kvs x).getD .non) μ
        | _ => False) ε
      | _ => False) ε
  | .emp b, _, μ, φ, _ => φ (.dic b []) μ
  | .itS a, ρ, μ, φ, ε => wp a ρ μ (fun x μ => seqK x fun ts => φ (.tup ts) μ) ε
  | .rng a b, ρ, μ, φ, ε => wp a ρ μ (fun x μ => wp b ρ μ (fun y μ => match x, y with
      | .int i, .int j => (-(2 ^ 62) ≤ i ∧ i < 2 ^ 62 ∧ -(2 ^ 62) ≤ j ∧ j < 2 ^ 62) ∧ φ (.tup (rngL i j)) μ
      | _, _ => False) ε) ε
  | .enm s a, ρ, μ, φ, ε => wp a ρ μ (fun x μ => match x with | .lst ts => φ (.tup (enmL s ts)) μ | _ => False) ε
  | .zip a b, ρ, μ, φ, ε => wp a ρ μ (fun x μ => wp b ρ μ (fun y μ => match x, y with | .lst ts, .lst us => φ (.tup (zipL ts us)) μ | .tup ts, .tup us => φ (.tup (zipL ts us)) μ | _, _ => False) ε) ε
  | .keys a, ρ, μ, φ, ε => wp a ρ μ (fun x μ => match x with | .dic b kvs => φ (.tup (kvs.map Prod.fst)) μ | _ => False) ε
  | .items a, ρ, μ, φ, ε => wp a ρ μ (fun x μ => match x with | .dic b kvs => φ (.tup (kvs.map fun p => .tup [p.1, p.2])) μ | _ => False) ε
  | .comp tg own it c e, ρ, μ, φ, ε => wp it ρ μ (fun y μ => match y with
      | .tup ts => szK ts.length (compK (fun t μ k => tgK tg t (wipeE ρ own) fun ρ => wp c ρ μ (fun b μ => match b with
          | .bl true => wp e ρ μ (fun r μ => match r with | .ptr _ => False | r => k (some r) μ) (fun _ _ => False)
          | .bl false => k none μ
          | _ => False) (fun _ _ => False)) ts μ fun rs μ => φ (.lst rs) μ)
      | _ => False) ε
  | .dcomp b tg own it ke ve, ρ, μ, φ, ε => wp it ρ μ (fun y μ => match y with
      | .tup ts => szK ts.length (dcompK b (fun t μ k => tgK tg t (wipeE ρ own) fun ρ => wp ke ρ μ (fun x μ => wp ve ρ μ (fun y μ => match y with | .ptr _ => False | y => k x y μ) (fun _ _ => False)) (fun _ _ => False)) ts [] μ fun kvs μ => φ (.dic b kvs) μ)
      | _ => False) ε
  | .isO d a, ρ, μ, φ, ε => wp a ρ μ (fun x μ => isOK μ d x fun b => φ (.bl b) μ) ε
  | .eqX d c neg a b, ρ, μ, φ, ε => wp a ρ μ (fun x μ => wp b ρ μ (fun y μ => clsK μ d x fun _ => isNo y = true ∧ callK c [x, y] μ (fun t μ => match t with | .bl r => φ (.bl (if neg then !r else r)) μ | _ => False) (fun _ _ => False)) ε) ε
  | .fp a, ρ, μ, φ, ε => wp a ρ μ (fun x μ => match x with
      | .str l => szF l.length (φ (.str l) μ)
      | .int i => (i.natAbs.log2 < 1920 ∧ (decT i).length < 1000) ∧ φ (.str (decT i)) μ
      | _ => False) ε
  | .fstr a, ρ, μ, φ, ε => wp a ρ μ (fun y μ => match y with | .tup xs => fsK xs fun l => φ (.str l) μ | _ => False) ε
  | .newL d c a, ρ, μ, φ, ε => wp a ρ μ (fun y μ => match y with | .tup xs => lendK xs μ fun ys => c (.ptr 0 :: ys) [.obj d []] (fun t cs => cs.all noLC = true ∧ newK t cs fun o => φ o μ) (fun _ _ => False) | _ => False) ε
  | .enmS a, ρ, μ, φ, ε => wp a ρ μ (fun x μ => match x with | .str l => φ (.tup (enmL 0 (l.map fun c => .str [c]))) μ | _ => False) ε
  | .dictP a, ρ, μ, φ, ε => wp a ρ μ (fun x μ => tv μ x fun x => match x with
      | .lst ts => ∃ kvs : List (Tr × Tr), ts = kvs.map (fun p => .tup [p.1, p.2]) ∧ (∀ p ∈ kvs, isKey false p.1 = true) ∧ φ (.dic false (kvs.foldl (fun d p => putT d p.1 p.2) [])) μ
      | _ => False) ε
  | .dsp a b, ρ, μ, φ, ε => wp a ρ μ (fun x μ => wp b ρ μ (fun y μ => match y with | .ptr _ => False | y => isKey true x = true ∧ φ (.dic true [(x, y)]) μ) ε) ε
  | .dictK a, ρ, μ, φ, ε => wp a ρ μ (fun x μ => match x with
      | .ktup ts => ∃ kvs : List (Tr × Tr), ts = kvs.map (fun p => .tup [p.1, p.2]) ∧ (∀ p ∈ kvs, isKey false p.1 = true) ∧ φ (.dic false (kvs.foldl (fun d p => putT d p.1 p.2) [])) μ
      | _ => False) ε
  | .lrng a, ρ, μ, φ, ε => wp a ρ μ (fun x μ => match x with | .int n => (0 ≤ n ∧ n ≤ 1000000) ∧ φ (.lst (rngL 0 n)) μ | _ => False) ε
  | .idx a b, ρ, μ, φ, ε => wp a ρ μ (fun x μ => tv μ x fun x0 => match x0 with
      | .lst _ => wp b ρ μ (fun y μ => tv μ x fun x => match x with | .lst ts => idxK (.lst ts) y fun t => φ t μ | _ => False) ε
      | _ => False) ε
  | .idxT a b, ρ, μ, φ, ε => wp a ρ μ (fun x μ => match x with
      | .ktup ts => wp b ρ μ (fun y μ => idxK (.ktup ts) y fun t => φ t μ) ε
      | _ => False) ε
  | .mulL a b, ρ, μ, φ, ε => wp a ρ μ (fun t μ => match t with | .lst ts => wp b ρ μ (fun y μ => match y with | .int k => (-(2 ^ 62) ≤ k ∧ k ≤ 2 ^ 62) ∧ szK (ts.length * k.toNat) (φ (.lst (List.replicate k.toNat ts).flatten) μ) | _ => False) ε | _ => False) ε
  | .repL a k, ρ, μ, φ, ε => wp a ρ μ (fun t μ => match t with | .lst ts => szK k (szK (ts.length * k) (φ (.lst (List.replicate k ts).flatten) μ)) | _ => False) ε
  | .lenS a, ρ, μ, φ, ε => wp a ρ μ (fun x μ => tv μ x fun x => sqLT x fun ts => strsK ts fun ls => szF ls.length (φ (.int (dcnt [] ls)) μ)) ε
  | .minD a d, ρ, μ, φ, ε => wp a ρ μ (fun x μ => wp d ρ μ (fun y μ => tv μ x fun x => match x with
      | .lst ts => ∃ ns : List Int, ts = ns.map Tr.int ∧ (match ns with | [] => φ y μ | n :: r => φ (.int (lmin (n :: r))) μ)
      | _ => False) ε) ε
  | .owL tg own it e, ρ, μ, φ, ε => wp it ρ μ (fun y μ => match y with
      | .tup ts => szK ts.length (compK (fun t μ k => tgK tg t (wipeE ρ own) fun ρ => wp e ρ μ (fun r μ => match r with | .lst us => k (some (.lst us)) μ | _ => False) (fun _ _ => False)) ts μ fun rs μ => ∃ tss : List (List Tr), rs = tss.map .lst ∧ snocK μ 0 (.lst2 tss) fun i μ => φ (.ptr i) μ)
      | _ => False) ε
  | .ixx x i j, ρ, μ, φ, _ => getK ρ x fun p => match p with
    | .ptr a => getK ρ i fun y => getK ρ j fun z => celK μ a fun c => match c, y, z with
      | .lst2 tss, .int m, .int n => ∃ ts t, atT tss m = some ts ∧ atT ts n = some t ∧ φ t μ
      | _, _, _ => False
    | _ => False
  | .rep f ok a, ρ, μ, φ, ε => wp a ρ μ (fun x μ => tv μ x fun x => ok x = true ∧ φ (.str (f x)) μ) ε
  | .strI a, ρ, μ, φ, ε => wp a ρ μ (fun x μ => match x with | .int i => (i.natAbs.log2 < 1920 ∧ (decT i).length < 1000) ∧ φ (.str (decT i)) μ | _ => False) ε
  | .intS a, ρ, μ, φ, ε => wp a ρ μ (fun x μ => match x with | .str l => digK l fun i => φ (.int i) μ | _ => False) ε
  | .split a b, ρ, μ, φ, ε => wp a ρ μ (fun x μ => match x with
      | .str l => wp b ρ μ (fun y μ => match y with | .str [s] => szF s (szK l.length (φ (.lst ((splitL s l).map .str)) μ)) | _ => False) ε
      | _ => False) ε
  | .newV i d c a, ρ, μ, φ, ε => getK ρ i fun t => match t with
    | .cls e => (match Nat.beq e d with
      | true => wp a ρ μ (fun y μ => match y with | .tup xs => noP xs (c (.ptr 0 :: xs) [.obj d []] (fun t cs => newK t cs fun o => φ o μ) (fun t _ => ε t μ)) | _ => False) ε
      | false => False)
    | _ => False
  | .cmeth d c a, ρ, μ, φ, ε => wp a ρ μ (fun y μ => match y with | .tup xs => callK c (.cls d :: xs) μ φ ε | _ => False) ε
  | .pop x, ρ, μ, φ, _ => getK ρ x fun t => match t with
    | .ptr a => celK μ a fun c => match c with
      | .lst ts => ∃ us u, ts = us ++ [u] ∧ cputK μ a (.lst us) fun μ => φ u μ
      | _ => False
    | _ => False
  | .popI x b, ρ, μ, φ, ε => getK ρ x fun t => match t with
    | .ptr a => celK μ a fun c0 => match c0 with
      | .lst _ => wp b ρ μ (fun y μ => match y with
        | .int k => (-(2 ^ 62) ≤ k ∧ k < 2 ^ 62) ∧ celK μ a fun c => match c with
          | .lst ts => ∃ (j : Nat) (u : Tr), ixT ts.length k = some j ∧ ts[j]? = some u ∧ cputK μ a (.lst (ts.eraseIdx j)) fun μ => φ u μ
          | _ => False
        | _ => False) ε
      | _ => False
    | _ => False
  | .ow22, ρ, μ, φ, _ => snocK μ 0 (.lst2 [[]]) fun i μ => φ (.ptr i) μ
  | .len2 x, ρ, μ, φ, _ => getK ρ x fun p => match p with
    | .ptr a => celK μ a fun c => match c with
      | .lst2 tss => φ (.int tss.length) μ
      | _ => False
    | _ => False
  | .lenX x, ρ, μ, φ, _ => getK ρ x fun p => match p with
    | .ptr a => celK μ a fun c => match c with
      | .lst2 tss => ∃ us u, tss = us ++ [u] ∧ φ (.int (List.length u)) μ
      | _ => False
    | _ => False
  | .pop2 x, ρ, μ, φ, _ => getK ρ x fun p => match p with
    | .ptr a => celK μ a fun c => match c with
      | .lst2 tss => ∃ us u, tss = us ++ [u] ∧ cputK μ a (.lst2 us) fun μ => φ (.lst u) μ
      | _ => False
    | _ => False
  | .callV x cs a, ρ, μ, φ, ε => getK ρ x fun t => match t with
      | .cls d => fnsK cs d fun c => wp a ρ μ (fun y μ => match y with
        | .tup xs => callK c xs μ φ ε
        | _ => False) ε
      | _ => False
  | .newB d c a, ρ, μ, φ, ε => wp a ρ μ (fun y μ => match y with
      | .tup xs => noP xs (c (.ptr 0 :: xs) [.obj d []] (fun t cs => match t, cs with
        | .non, [.box e fs] => (match Nat.beq e d with | true => snocK μ 0 (.box e fs) fun i μ => φ (.ptr i) μ | false => False)
        | _, _ => False) (fun t _ => match t with | .ptr _ => False | t => ε t μ))
      | _ => False) ε
  | .mthE d c r b, ρ, μ, φ, ε => wp r ρ μ (fun x μ => match x with
      | .ptr i => celK μ i fun q0 => match q0 with
        | .box e0 _ => (match Nat.beq e0 d with
          | true => wp b ρ μ (fun y μ => match y with
            | .tup xs => boxK d c i xs μ φ ε
            | _ => False) ε
          | false => False)
        | _ => False
      | _ => False) ε
  | .prpE d c r, ρ, μ, φ, ε => wp r ρ μ (fun x μ => match x with
      | .ptr i => boxK d c i [] μ φ (fun _ _ => False)
      | _ => False) ε
  | .prpP n d c, ρ, μ, φ, _ => getK ρ 0 fun p => match p with
      | .ptr 0 => celK μ 0 fun q0 => match q0 with
        | .objC e0 _ => (match Nat.beq e0 d with
          | true => n ≤ μ.length ∧ c [.ptr 0] (μ.take n) (fun t cs => match t with | .ptr _ => False | t => cs.length = n ∧ φ t (cs ++ μ.drop n)) (fun _ _ => False)
          | false => False)
        | _ => False
      | _ => False
  | .fldB x d f, ρ, μ, φ, _ => getK ρ x fun p => match p with
      | .ptr a => celK μ a fun c => match c with
        | .box e fs => (match Nat.beq e d with
          | true => fbK fs f fun o => match o with
            | .val t => φ t μ
            | .pv t => φ t μ
            | _ => False
          | false => False)
        | _ => False
      | _ => False
  | .mthP n d c b, ρ, μ, φ, ε => getK ρ 0 fun p => match p with
      | .ptr 0 => celK μ 0 fun q0 => match q0 with
        | .objC e0 _ => (match Nat.beq e0 d with
          | true => wp b ρ μ (fun y μ => match y with
            | .tup xs => n ≤ μ.length ∧ noP xs (c (.ptr 0 :: xs) (μ.take n) (fun t cs => match t with | .ptr _ => False | t => cs.length = n ∧ φ t (cs ++ μ.drop n)) (fun t cs => match t with | .ptr _ => False | t => cs.length = n ∧ ε t (cs ++ μ.drop n)))
            | _ => False) ε
          | false => False)
        | _ => False
      | _ => False
  | .fldP x d f, ρ, μ, φ, _ => fldP ρ μ x d f fun o => match o with
      | .val t => φ t μ
      | .at j => pinK μ j fun q => match q with
        | .val t => φ t μ
        | _ => False
  | .lenP x d f, ρ, μ, φ, _ => prtP ρ μ x d f fun _ q => match q with
      | .lst ts => φ (.int ts.length) μ
      | .dic kvs => φ (.int kvs.length) μ
      | _ => False
  | .ixP x d f e, ρ, μ, φ, ε => atK ρ μ x d f fun j => wp e ρ μ (fun y μ => pinK μ j fun q => match q with
      | .lst ts => (match y with | .int i => ∃ t, atT ts i = some t ∧ φ t μ | _ => False)
      | .dic kvs => isKey true y = true ∧ ∃ t, getT kvs y = some t ∧ φ t μ
      | .fro kvs => isKey true y = true ∧ ∃ t, getT kvs y = some t ∧ φ t μ
      | _ => False) ε
  | .inP neg x d f e, ρ, μ, φ, ε => wp e ρ μ (fun y μ => prtP ρ μ x d f fun _ q => match q with
      | .dic kvs => isKey true y = true ∧ φ (.bl (if neg then !(getT kvs y).isSome else (getT kvs y).isSome)) μ
      | .fro kvs => isKey true y = true ∧ φ (.bl (if neg then !(getT kvs y).isSome else (getT kvs y).isSome)) μ
      | _ => False) ε
  | .popP x d f, ρ, μ, φ, _ => prtP ρ μ x d f fun j q => match q with
      | .lst ts => ∃ us u, ts = us ++ [u] ∧ cputK μ j (.pin j (.lst us)) fun μ => φ u μ
      | _ => False
  | .popKP x d f e, ρ, μ, φ, ε => atK ρ μ x d f fun j => pinK μ j fun q => match q with
    | .dic _ => wp e ρ μ (fun y μ => pinK μ j fun q => match q with
      | .dic kvs => isKey true y = true ∧ ∃ t, getT kvs y = some t ∧ cputK μ j (.pin j (.dic (delT kvs y))) fun μ => φ t μ
      | _ => False) ε
    | _ => False
  | .joinP x d f a, ρ, μ, φ, ε => wp a ρ μ (fun y μ => match y with
      | .str s => prtP ρ μ x d f fun _ q => match q with
        | .lst ts => ∃ ls : List (List Nat), ts = ls.map .str ∧ szK ((ls.map (·.length)).sum + ls.length * s.length) (φ (.str (joinL s ls)) μ)
        | _ => False
      | _ => False) ε
  | .minP c x d f, ρ, μ, φ, _ => prtP ρ μ x d f fun _ q => match q with
      | .dic kvs => szK kvs.length (∃ key : Nat → Ky, (∀ i p, kvs[i]? = some p → ∀ φ' ε' : EK, φ' (kyT (key i)) [] → c [.tup [p.1, p.2]] [] φ' ε') ∧ ∃ i p, kvs[i]? = some p ∧ (∀ j < kvs.length, ltK (key j) (key i) = false) ∧ (∀ j < i, ltK (key i) (key j) = true) ∧ φ (.tup [p.1, p.2]) μ)
      | _ => False
  | .ltT a b, ρ, μ, φ, ε => wp a ρ μ (fun x μ => wp b ρ μ (fun y μ => ∃ p q : Ky, x = kyT p ∧ y = kyT q ∧ φ (.bl (ltK p q)) μ) ε) ε
  | .primI f, ρ, μ, φ, ε => f ρ μ φ ε
  | .lstD x, ρ, μ, φ, _ => getK ρ x fun t => match t with
      | .ptr i => celK μ i fun c => match c with
        | .dic true kvs => φ (.lst (kvs.map Prod.fst)) μ
        | _ => False
      | _ => False
  | .dictT a, ρ, μ, φ, ε => wp a ρ μ (fun x μ => tv μ x fun x => match x with
      | .lst ts => ∃ kvs : List (Tr × Tr), ts = kvs.map (fun p => .tup [p.1, p.2]) ∧ (∀ p ∈ kvs, isKey true p.1 = true) ∧ szK kvs.length (φ (.dic true (kvs.foldl (fun d p => putT d p.1 p.2) [])) μ)
      | _ => False) ε
  | .cmpT o a b, ρ, μ, φ, ε => wp a ρ μ (fun x μ => wp b ρ μ (fun y μ => ∃ p q : Ky, x = kyT p ∧ y = kyT q ∧ cmK o p q fun r => φ (.bl r) μ) ε) ε
  | .eqLO d c neg a b, ρ, μ, φ, ε => wp a ρ μ (fun x μ => wp b ρ μ (fun y μ => ∃ ts : List Tr, x = .lst ts ∧ y = .lst ts ∧ (∀ t ∈ ts, selfEq d c 4 t) ∧ φ (.bl (!neg)) μ) ε) ε
  | .lzip a b, ρ, μ, φ, ε => wp a ρ μ (fun x μ => wp b ρ μ (fun y μ => match x, y with | .lst ts, .lst us => szF ts.length (φ (.lst (zipL ts us)) μ) | _, _ => False) ε) ε
  | .cntS a b, ρ, μ, φ, ε => wp a ρ μ (fun x μ => match x with
      | .str l => wp b ρ μ (fun y μ => match y with | .str [s] => szK l.length (φ (.int (l.count s)) μ) | _ => False) ε
      | _ => False) ε
  | .compD tg own x c e, ρ, μ, φ, ε => getK ρ x fun y => match y with
      | .dic true kvs => szK kvs.length (compK (fun t μ k => tgK tg t (wipeE ρ own) fun ρ => wp c ρ μ (fun b μ => match b with
          | .bl true => wp e ρ μ (fun r μ => match r with | .ptr _ => False | r => k (some r) μ) (fun _ _ => False)
          | .bl false => k none μ
          | _ => False) (fun _ _ => False)) (kvs.map Prod.fst) μ fun rs μ => φ (.lst rs) μ)
      | _ => False
  | .srtS tg own it tg1 own1 it1 e, ρ, μ, φ, ε => wp it ρ μ (fun y μ => match y with
      | .tup ts => ts.length ≤ 3 ∧ (comp2K (fun t μ k => tgK tg t (wipeE ρ own) fun ρ => wp it1 ρ μ (fun y μ => match y with
          | .tup us => szF us.length (compK (fun u μ k => tgK tg1 u (wipeE ρ own1) fun ρ => wp e ρ μ (fun r μ => match r with | .str l => k (some (.str l)) μ | _ => False) (fun _ _ => False)) us μ fun rs μ => k rs μ)
          | _ => False) (fun _ _ => False)) ts μ fun rs μ => ∃ ls : List (List Nat), rs = ls.map .str ∧ ls.length < 1000 ∧ ∀ ms : List (List Nat), (∀ x, x ∈ ms ↔ x ∈ ls) → ms.Pairwise (fun a b => a < b) → φ (.lst (ms.map .str)) μ)
      | _ => False) ε
  | .comp2 tg own it tg1 own1 it1 c e, ρ, μ, φ, ε => wp it ρ μ (fun y μ => match y with
      | .tup ts => szF ts.length (comp2K (fun t μ k => tgK tg t (wipeE ρ own) fun ρ => wp it1 ρ μ (fun y μ => match y with
          | .tup us => szF us.length (compK (fun u μ k => tgK tg1 u (wipeE ρ own1) fun ρ => wp c ρ μ (fun b μ => match b with
            | .bl true => wp e ρ μ (fun r μ => match r with | .ptr _ => False | r => k (some r) μ) (fun _ _ => False)
            | .bl false => k none μ
            | _ => False) (fun _ _ => False)) us μ fun rs μ => k rs μ)
          | _ => False) (fun _ _ => False)) ts μ fun rs μ => φ (.lst rs) μ)
      | _ => False) ε
/-- a part of what an except clause gives a name -/
inductive El where
  | c (t : Tr) | f (i : Nat)
def elK : List El → List (Nat × Tr) → (List Tr → Prop) → Prop
  | [], _, k => k []
  | .c t :: r, fs, k => elK r fs fun ts => k (t :: ts)
  | .f i :: r, fs, k => fldK fs i fun x => elK r fs fun ts => k (x :: ts)
/-! ### statements -/
inductive Sm where
  | skip | seq (a b : Sm) | asg (tg : Tg) (e : I) | ex (e : I)
  | ite (c : I) (a b : Sm) | ret (e : I) | brk | cnt | bad
  | for (tg : Tg) (it : I) (b : Sm) | whl (c : I) (b : Sm)
  | app (x : Nat) (e : I) | ext (x : Nat) (e : I) | seti (x : Nat) (i e : I) | setf (x d f : Nat) (e : I) | ways0 (x d : Nat) | waysA (x d k1 k2 v1 v2 : Nat) | forI (g : Tg) (x : Nat) (b : Sm) | augI (x : Nat) (o : Op) (e : I) | par (is : List Nat) (a : I) | clr (x : Nat) | insr (x : Nat) (i e : I) | rvs (x : Nat) | setxx (x i j : Nat) (e : I) | unpO (i : Nat) (g : Tg) (c : Con) (a : I)
  | setall (x y k : Nat) (t : Tr) | clrI (x k : Nat) | push2 (x : Nat) | app2 (x y : Nat)
  | setO (x d f : Nat) (e : I) | setB (x d f : Nat) (e : I) | setP (x d f : Nat) (e : I) | putP (x d f : Nat) (i e : I) | appP (x d f : Nat) (e : I) | forP (y x d f : Nat) (b : Sm)
  | forD (g : Tg) (x : Nat) (b : Sm)
  | tryT (b : Sm) (i : Nat) (hs : List (Nat × Option Nat × List El))
  | rse (d f : Nat) (e : I) | rs0 (d : Nat) | tryX (b : Sm) (i : Nat) (hs : List (Nat × Tr × Option (Nat × Nat)))
  | tryR (b : Sm) (i d : Nat) (t : Tr) (j f : Nat) (rp : Tr → List Nat) (ok : Tr → Bool)
  | prim (f : SK → EK → SK → SK → EX → Ev → Mem → Prop)
def forK0 (f : Tr → Ev → Mem → SK → Prop) : List Tr → Ev → Mem → SK → Prop
  | [], ρ, μ, k => k ρ μ
  | t :: ts, ρ, μ, k => f t ρ μ fun ρ μ => forK0 f ts ρ μ k
@[irreducible] def forK (f : Tr → Ev → Mem → SK → Prop) (ts : List Tr) (ρ : Ev) (μ : Mem) (k : SK) : Prop := forK0 f ts ρ μ k
theorem forK_nil {f ρ μ k} : forK f [] ρ μ k = k ρ μ := by unfold forK; rfl
theorem forK_cons {f t ts ρ μ k} : forK f (t :: ts) ρ μ k = f t ρ μ fun ρ μ => forK f ts ρ μ k := by unfold forK; rfl
def setsK : Ev → List Nat → List Tr → (Ev → Prop) → Prop
  | ρ, [], [], k => k ρ
  | ρ, i :: is, t :: ts, k => setK ρ i t fun ρ => setsK ρ is ts k
  | _, _, _, _ => False
def putN (f : Nat) (t : Tr) : List (Nat × Tr) → List (Nat × Tr)
  | [] => [(f, t)]
  | (g, u) :: r => match Nat.beq g f with | true => (g, t) :: r | false => (g, u) :: putN f t r
def hasN (f : Nat) : List (Nat × Tr) → Bool
  | [] => false
  | (g, _) :: r => match Nat.beq g f with | true => true | false => hasN f r
def addW (kvs : List (Tr × List Tr)) (k v : Tr) : List (Tr × List Tr) :=
  if (kvs.any fun p => eqT p.1 k) = true then kvs.map (fun p => if eqT p.1 k = true then (p.1, p.2 ++ [v]) else p) else kvs ++ [(k, [v])]
/-- what the except clauses give a name for an error of the class c with the fields fs: a constant, or a pair of it and a field (the clause's name, in the slot j, is gone behind it) -/
def hdK : List (Nat × Tr × Option (Nat × Nat)) → Nat → List (Nat × Tr) → Ev → (Tr → Ev → Prop) → Prop
  | [], _, _, _, _ => False
  | (d, t, o) :: r, c, fs, ρ, k => match Nat.beq c d with
    | true => (match o with
      | none => k t ρ
      | some (j, f) => fldK fs f fun x => k (.tup [t, x]) (wipe1 ρ j))
    | false => hdK r c fs ρ k
def hdT : List (Nat × Option Nat × List El) → Nat → List (Nat × Tr) → Ev → (Tr → Ev → Prop) → Prop
  | [], _, _, _, _ => False
  | (d, o, es) :: r, c, fs, ρ, k => match Nat.beq c d with
    | true => elK es fs fun xs => k (.tup xs) (match o with
      | none => ρ
      | some j => wipe1 ρ j)
    | false => hdT r c fs ρ k
def wps : Sm → SK → EK → SK → SK → EX → Ev → Mem → Prop
  | .skip, nx, rt, bk, ct, ε, ρ, μ => nx ρ μ
  | .seq a b, nx, rt, bk, ct, ε, ρ, μ => wps a (fun ρ μ => wps b nx rt bk ct ε ρ μ) rt bk ct ε ρ μ
  | .asg tg e, nx, rt, bk, ct, ε, ρ, μ => wp e ρ μ (fun t μ => tgK tg t ρ fun ρ => nx ρ μ) (fun t μ => ε t ρ μ)
  | .ex e, nx, rt, bk, ct, ε, ρ, μ => wp e ρ μ (fun t μ => nx ρ μ) (fun t μ => ε t ρ μ)
  | .ite c a b, nx, rt, bk, ct, ε, ρ, μ => wp c ρ μ (fun x μ => match x with | .bl true => wps a nx rt bk ct ε ρ μ | .bl false => wps b nx rt bk ct ε ρ μ | _ => False) (fun t μ => ε t ρ μ)
  | .ret e, nx, rt, bk, ct, ε, ρ, μ => wp e ρ μ rt (fun t μ => ε t ρ μ)
  | .brk, nx, rt, bk, ct, ε, ρ, μ => bk ρ μ
  | .cnt, nx, rt, bk, ct, ε, ρ, μ => ct ρ μ
  | .bad, nx, rt, bk, ct, ε, ρ, μ => False
  | .for tg it b, nx, rt, bk, ct, ε, ρ, μ => wp it ρ μ (fun y μ => match y with
      | .tup ts => forK (fun t ρ μ k => tgK tg t ρ fun ρ => wps b k rt nx k ε ρ μ) ts ρ μ nx
      | _ => False) (fun t μ => ε t ρ μ)
  | .whl c b, nx, rt, bk, ct, ε, ρ, μ => ∃ (P : Ev → Mem → Prop) (m : Ev → Mem → Nat), P ρ μ ∧ ∀ ρ μ, P ρ μ → wp c ρ μ (fun x μ' => match x with
      | .bl true => wps b (fun ρ' μ'' => P ρ' μ'' ∧ m ρ' μ'' < m ρ μ) rt nx (fun ρ' μ'' => P ρ' μ'' ∧ m ρ' μ'' < m ρ μ) ε ρ μ'
      | .bl false => nx ρ μ'
      | _ => False) (fun t μ => ε t ρ μ)
  | .app x e, nx, rt, bk, ct, ε, ρ, μ => getK ρ x fun p => match p with
      | .ptr a => celK μ a fun c => match c with
        | .lst _ => wp e ρ μ (fun t μ => match t with | .ptr _ => False | t => celK μ a fun c => match c with
          | .lst ts => szK (ts.length + 1) (cputK μ a (.lst (ts ++ [t])) fun μ => nx ρ μ)
          | _ => False) (fun t μ => ε t ρ μ)
        | _ => False
      | _ => False
  | .insr x i e, nx, rt, bk, ct, ε, ρ, μ => getK ρ x fun p => match p with
      | .ptr a => celK μ a fun c => match c with
        | .lst _ => wp i ρ μ (fun y μ => match y with
          | .int k => 0 ≤ k ∧ wp e ρ μ (fun t μ => match t with | .ptr _ => False | t => celK μ a fun c => match c with
            | .lst ts => k ≤ (ts.length : Int) ∧ szK (ts.length + 1) (cputK μ a (.lst (ts.take k.toNat ++ [t] ++ ts.drop k.toNat)) fun μ => nx ρ μ)
            | _ => False) (fun t μ => ε t ρ μ)
          | _ => False) (fun t μ => ε t ρ μ)
        | _ => False
      | _ => False
  | .ext x e, nx, rt, bk, ct, ε, ρ, μ => getK ρ x fun p => match p with
      | .ptr a => celK μ a fun c => match c with
        | .lst _ => wp e ρ μ (fun t μ => match t with
          | .lst us => celK μ a fun c => match c with
            | .lst ts => szK (ts.length + us.length) (cputK μ a (.lst (ts ++ us)) fun μ => nx ρ μ)
            | _ => False
          | _ => False) (fun t μ => ε t ρ μ)
        | _ => False
      | _ => False
  | .seti x i e, nx, rt, bk, ct, ε, ρ, μ => wp e ρ μ (fun t μ => match t with | .ptr _ => False | t => getK ρ x fun p => match p with
      | .ptr a => wp i ρ μ (fun y μ => celK μ a fun c => match c with
        | .lst ts => (match y with | .int i => ∃ n, ixT ts.length i = some n ∧ cputK μ a (.lst (ts.set n t)) fun μ => nx ρ μ | _ => False)
        | .dic b kvs => isKey b y = true ∧ szK (kvs.length + 1) (cputK μ a (.dic b (putT kvs y t)) fun μ => nx ρ μ)
        | _ => False) (fun t μ => ε t ρ μ)
      | _ => False) (fun t μ => ε t ρ μ)
  | .setxx x i j e, nx, rt, bk, ct, ε, ρ, μ => wp e ρ μ (fun t μ => match t with | .ptr _ => False | t => getK ρ x fun p => match p with
      | .ptr a => getK ρ i fun y => getK ρ j fun z => celK μ a fun c => match c, y, z with
        | .lst2 tss, .int m, .int n => ∃ (p q : Nat) (ts : List Tr), ixT tss.length m = some p ∧ tss[p]? = some ts ∧ ixT ts.length n = some q ∧ cputK μ a (.lst2 (tss.set p (ts.set q t))) fun μ => nx ρ μ
        | _, _, _ => False
      | _ => False) (fun t μ => ε t ρ μ)
  | .setf x d f e, nx, rt, bk, ct, ε, ρ, μ => wp e ρ μ (fun t μ => match t with | .ptr _ => False | t => getK ρ x fun p => match p with
      | .ptr a => celK μ a fun c => match c with
        | .obj e fs => (match Nat.beq e d with | true => szF fs.length (cputK μ a (.obj e (putN f t fs)) fun μ => nx ρ μ) | false => False)
        | _ => False
      | _ => False) (fun t μ => ε t ρ μ)
  | .ways0 x d, nx, rt, bk, ct, ε, ρ, μ => getK ρ x fun p => match p with
      | .ptr a => celK μ a fun c => match c with
        | .obj e fs => (match Nat.beq e d with | true => (match hasN 4 fs with | false => szF fs.length (cputK μ a (.objW e fs []) fun μ => nx ρ μ) | true => False) | false => False)
        | _ => False
      | _ => False
  | .waysA x d k1 k2 v1 v2, nx, rt, bk, ct, ε, ρ, μ => getK ρ x fun p => match p with
      | .ptr a => celK μ a fun c => match c with
        | .objW e fs kvs => (match Nat.beq e d with
            | true => getK ρ k1 fun k1 => getK ρ k2 fun k2 => getK ρ v1 fun v1 => getK ρ v2 fun v2 =>
              (match [k1, k2].all isAt with
              | true => noP [v1, v2] (szK (kvs.length + 1) ((∀ ts, (Tr.tup [k1, k2], ts) ∈ kvs → ts.length < 1000000) ∧ cputK μ a (.objW e fs (addW kvs (.tup [k1, k2]) (.tup [v1, v2]))) fun μ => nx ρ μ))
              | false => False)
            | false => False)
        | _ => False
      | _ => False
  | .forI g x b, nx, rt, bk, ct, ε, ρ, μ => getK ρ x fun y => match y with
      | .dic false kvs => forK (fun t ρ μ k => tgK g t ρ fun ρ => wps b k rt nx k (fun _ _ _ => False) ρ μ) (kvs.map fun p => .tup [p.1, p.2]) ρ μ nx
      | _ => False
  | .forD g x b, nx, rt, bk, ct, ε, ρ, μ => getK ρ x fun y => match y with
      | .dic true kvs => forK (fun t ρ μ k => tgK g t ρ fun ρ => wps b k rt nx k (fun _ _ _ => False) ρ μ) (kvs.map Prod.fst) ρ μ nx
      | _ => False
  | .augI x o e, nx, rt, bk, ct, ε, ρ, μ => getK ρ x fun v => match v with
      | .int i => wp e ρ μ (fun y μ => match y with | .int j => setK ρ x (.int (if o = .add then i + j else i - j)) fun ρ => nx ρ μ | _ => False) (fun t μ => ε t ρ μ)
      | _ => False
  | .clr x, nx, rt, bk, ct, ε, ρ, μ => getK ρ x fun p => match p with
      | .ptr a => celK μ a fun c => match c with
        | .lst _ => cputK μ a (.lst []) fun μ => nx ρ μ
        | .lst2 _ => cputK μ a (.lst2 []) fun μ => nx ρ μ
        | _ => False
      | _ => False
  | .setall x y j t, nx, rt, bk, ct, ε, ρ, μ => getK ρ x fun p => match p with
      | .ptr a => celK μ a fun c => match c with
        | .lst2 tss => isF t = true ∧ (x ≠ y ∧ y < ρ.length) ∧ (∀ ts ∈ tss, j < ts.length) ∧ cputK μ a (.lst2 (tss.map fun ts => ts.set j t)) fun μ => nx (wipe1 ρ y) μ
        | _ => False
      | _ => False
  | .clrI x j, nx, rt, bk, ct, ε, ρ, μ => getK ρ x fun p => match p with
      | .ptr a => celK μ a fun c => match c with
        | .lst2 tss => j < tss.length ∧ cputK μ a (.lst2 (tss.set j [])) fun μ => nx ρ μ
        | _ => False
      | _ => False
  | .setO x d f e, nx, rt, bk, ct, ε, ρ, μ => wp e ρ μ (fun t μ => match t with
      | .ptr j => getK ρ x fun p => match p with
        | .ptr a => celK μ j fun q => (match q with
          | .lst ts => cputK μ j .gone fun μ => celK μ a fun c => match c with
            | .obj e fs => (match Nat.beq e d with | true => (fs.length < 500 ∧ hasN f fs = false ∧ fs.all (fun p => isRf p.2) = true) ∧ cputK μ a (.box e (fs.map (fun p => (p.1, .pv p.2)) ++ [(f, .lst ts)])) fun μ => nx ρ μ | false => False)
            | .box e fs => (match Nat.beq e d with | true => (fs.length < 500 ∧ fbHas f fs = false) ∧ cputK μ a (.box e (fs ++ [(f, .lst ts)])) fun μ => nx ρ μ | false => False)
            | _ => False
          | .dic true kvs => cputK μ j .gone fun μ => celK μ a fun c => match c with
            | .obj e fs => (match Nat.beq e d with | true => (fs.length < 500 ∧ hasN f fs = false ∧ fs.all (fun p => isRf p.2) = true) ∧ cputK μ a (.box e (fs.map (fun p => (p.1, .pv p.2)) ++ [(f, .dic kvs)])) fun μ => nx ρ μ | false => False)
            | .box e fs => (match Nat.beq e d with | true => (fs.length < 500 ∧ fbHas f fs = false) ∧ cputK μ a (.box e (fs ++ [(f, .dic kvs)])) fun μ => nx ρ μ | false => False)
            | _ => False
          | _ => False)
        | _ => False
      | _ => False) (fun t μ => ε t ρ μ)
  | .setB x d f e, nx, rt, bk, ct, ε, ρ, μ => wp e ρ μ (fun t μ => match t with | .ptr _ => False | t => getK ρ x fun p => match p with
      | .ptr a => celK μ a fun c => match c with
        | .box e fs => (match Nat.beq e d with | true => (fs.length < 500 ∧ fbHas f fs = false) ∧ cputK μ a (.box e (fs ++ [(f, .val t)])) fun μ => nx ρ μ | false => False)
        | _ => False
      | _ => False) (fun t μ => ε t ρ μ)
  | .setP x d f e, nx, rt, bk, ct, ε, ρ, μ => wp e ρ μ (fun t μ => match t with | .ptr _ => False | t => getK ρ x fun p => match p with
      | .ptr a => celK μ a fun c => match c with
        | .objC e fs => (match Nat.beq e d with | true => szF fs.length (fcK fs f (fun o => match o with | .val _ => cputK μ a (.objC e (fcPut f (.val t) fs)) (fun μ => nx ρ μ) | _ => False)) | false => False)
        | _ => False
      | _ => False) (fun t μ => ε t ρ μ)
  | .putP x d f ie e, nx, rt, bk, ct, ε, ρ, μ => wp e ρ μ (fun t μ => match t with
      | .ptr _ => False
      | t => atK ρ μ x d f fun j => wp ie ρ μ (fun y μ => pinK μ j fun q => match q with
        | .dic kvs => isKey true y = true ∧ szK (kvs.length + 1) (cputK μ j (.pin j (.dic (putT kvs y t))) fun μ => nx ρ μ)
        | _ => False) (fun t μ => ε t ρ μ)) (fun t μ => ε t ρ μ)
  | .appP x d f e, nx, rt, bk, ct, ε, ρ, μ => atK ρ μ x d f fun j => pinK μ j fun q => match q with
    | .lst _ => wp e ρ μ (fun t μ => match t with
      | .ptr _ => False
      | t => pinK μ j fun q => match q with
        | .lst ts => szK (ts.length + 1) (cputK μ j (.pin j (.lst (ts ++ [t]))) fun μ => nx ρ μ)
        | _ => False) (fun t μ => ε t ρ μ)
    | _ => False
  | .forP y x d f b, nx, rt, bk, ct, ε, ρ, μ => prtP ρ μ x d f fun j q => match q with
      | .dic kvs => cputK μ j (.pin j (.fro kvs)) fun μ1 => forK (fun t ρ μ k => setK ρ y t fun ρ => wps b (fun ρ μ => k ρ μ) (fun _ _ => False) (fun _ _ => False) (fun ρ μ => k ρ μ) (fun _ _ _ => False) ρ μ) (kvs.map Prod.fst) ρ μ1 (fun ρ μ2 => plE ρ = true ∧ celK μ2 j fun c => c = .pin j (.fro kvs) ∧ (cputK μ2 j .gone fun μ3 => plM μ μ3) ∧ cputK μ2 j (.pin j (.dic kvs)) fun μ => nx ρ μ)
      | _ => False
  | .push2 x, nx, rt, bk, ct, ε, ρ, μ => getK ρ x fun p => match p with
      | .ptr a => celK μ a fun c => match c with
        | .lst2 tss => szK (tss.length + 1) (cputK μ a (.lst2 (tss ++ [[]])) fun μ => nx ρ μ)
        | _ => False
      | _ => False
  | .app2 x y, nx, rt, bk, ct, ε, ρ, μ => getK ρ y fun t0 => match t0 with | .ptr _ => False | t0 => getK ρ x fun p => match p with
      | .ptr a => celK μ a fun c => match c with
        | .lst2 tss => ∃ us u, tss = us ++ [u] ∧ szK (u.length + 1) (cputK μ a (.lst2 (us ++ [u ++ [t0]])) fun μ => nx ρ μ)
        | _ => False
      | _ => False
  | .rvs x, nx, rt, bk, ct, ε, ρ, μ => getK ρ x fun p => match p with
      | .ptr a => celK μ a fun c => match c with
        | .lst ts => cputK μ a (.lst ts.reverse) fun μ => nx ρ μ
        | _ => False
      | _ => False
  | .unpO i g c a, nx, rt, bk, ct, ε, ρ, μ => wp a ρ μ (fun y μ => match y with
      | .tup xs => noP xs (c xs [] (fun t _ => match t with
        | .tup (.lst ts :: rest) => snocK μ 0 (.lst ts) fun p μ => setK ρ i (.ptr p) fun ρ => tgL g rest ρ fun ρ => nx ρ μ
        | _ => False) (fun _ _ => False))
      | _ => False) (fun t μ => ε t ρ μ)
  | .rse d f e, nx, rt, bk, ct, ε, ρ, μ => wp e ρ μ (fun t μ => match t with | .ptr _ => False | t => ε (.obj d [(f, t)]) ρ μ) (fun t μ => ε t ρ μ)
  | .rs0 d, nx, rt, bk, ct, ε, ρ, μ => ε (.obj d []) ρ μ
  | .tryX b i hs, nx, rt, bk, ct, ε, ρ, μ => wps b nx rt bk ct (fun t ρ μ => match t with
      | .obj c fs => hdK hs c fs ρ (fun r ρ => setK ρ i r fun ρ => nx ρ μ)
      | _ => False) ρ μ
  | .tryT b i hs, nx, rt, bk, ct, ε, ρ, μ => wps b nx rt bk ct (fun t ρ μ => match t with
      | .obj c fs => hdT hs c fs ρ (fun r ρ => setK ρ i r fun ρ => nx ρ μ)
      | _ => False) ρ μ
  | .tryR b i d t j f rp ok, nx, rt, bk, ct, ε, ρ, μ => wps b nx rt bk ct (fun e ρ μ => match e with
      | .obj c fs => (match Nat.beq c d with
        | true => fldK fs f fun x => ok x = true ∧ setK (wipe1 ρ j) i (.tup [t, .str (rp x)]) fun ρ => nx ρ μ
        | false => False)
      | _ => False) ρ μ
  | .prim f, nx, rt, bk, ct, ε, ρ, μ => f nx rt bk ct ε ρ μ
  | .par is a, nx, rt, bk, ct, ε, ρ, μ => wp a ρ μ (fun y μ => match y with | .tup xs => setsK ρ is xs fun ρ => nx ρ μ | _ => False) (fun t μ => ε t ρ μ)
/-- a def's body: the cells that were handed over are given back, its own ones are dropped -/
def wpB (b : Sm) (n : Nat) (ts : List Tr) (μ : Mem) (φ ε : EK) : Prop :=
  wps b (fun _ μ' => φ .non (μ'.take μ.length)) (fun t μ' => match t with | .ptr _ => False | t => φ t (μ'.take μ.length)) (fun _ _ => False) (fun _ _ => False) (fun t _ μ' => match t with | .ptr _ => False | t => ε t (μ'.take μ.length)) (ts.map some ++ List.replicate n none) μ
end Ir

/-! Wy: dicts of one's own: keys by their addresses, tuples of any depth. -/
namespace Wx
open PySem PySem.Spec PyProof.Rows L2
abbrev Ent := NestedKey × Addr × V
abbrev KX : List Ent → List (NestedKey × Addr × Value) → Prop := Paired fun p q => p.1 = q.1 ∧ p.2.1 = q.2.1 ∧ RelV p.2.2 q.2.2
abbrev KY : List (NestedKey × V) → List (NestedKey × Addr × Value) → Prop := Paired fun p q => p.1 = q.1 ∧ RelV p.2 q.2.2
def entX (w : World) (x : NestedKey × Addr × Value) : DictEntry := ⟨x.1.hash w, .ref x.2.1, x.2.2⟩
/-- such a dict -/
def DXO (w : World) (a : Addr) (us : List Ent) : HO := .ext fun h => us.length ≤ sizeLine ∧ (a == sysModules) = false ∧
  ∃ ys, KX us ys ∧ ∃ o es ep, h.get? a = some o ∧ o.ExactDict ∧ o.data = .dict es ep ∧ es.toList = ys.map (entX w) ∧ (ys.map (·.1)).Nodup
section
variable {X : Cx} {σ : L2.St} {H : Hp} {a b : Addr}
/-- a key stands at b -/
def NkAt (X : Cx) (H : Hp) (b : Addr) (k : NestedKey) : Prop := k.depth ≤ 8 ∧ ∀ (pins : List (Addr × Obj)) (σ : L2.St) (s : Shared), Inv X pins σ H s → NestedIs s.heap k (.ref b)
def KeysX (X : Cx) (H : Hp) (us : List Ent) : Prop := ∀ p ∈ us, NkAt X H p.2.1 p.1
/-- a dict that may be read -/
def DicR (X : Cx) (H : Hp) (a : Addr) (us : List (NestedKey × V)) : Prop := ∀ (pins : List (Addr × Obj)) (σ : L2.St) (s : Shared), Inv X pins σ H s → us.length ≤ sizeLine ∧ (a == sysModules) = false ∧
  ∃ ys, KY us ys ∧ s.heap.DictOfH (nestedKind X.prog X.w) a ys
theorem kx_mem {us : List Ent} {ys : List (NestedKey × Addr × Value)} (k : KX us ys) : ∀ y ∈ ys, ∃ u ∈ us, u.1 = y.1 ∧ u.2.1 = y.2.1 := by
  induction k with
  | nil => intro y h; cases h
  | @cons p q ps qs h t ih =>
    intro y hy
    rcases List.mem_cons.mp hy with rfl | hy
    · exact ⟨p, List.mem_cons_self, h.1, h.2.1⟩
    · obtain ⟨u, h1, h2⟩ := ih y hy
      exact ⟨u, List.mem_cons_of_mem _ h1, h2⟩
theorem dx_rd {pins : List (Addr × Obj)} {s : Shared} {us : List Ent} (I : Inv X pins σ H s) (e : Rd H a (DXO X.w a us)) (k : KeysX X H us) : us.length ≤ sizeLine ∧ (a == sysModules) = false ∧ ∃ ys, KX us ys ∧ s.heap.DictOfH (nestedKind X.prog X.w) a ys := by
  obtain ⟨⟨q1, q2, ys, q3, o, es, ep, q4, q5, q6, q7, q8⟩, _⟩ := (show ObjOk X.prog X.w H s.heap a (DXO X.w a us) from e.ok I.hok)
  refine ⟨q1, q2, ys, q3, o, es, ep, q4, q5, q6, q7, fun y hy => ?_, q8⟩
  obtain ⟨u, h1, h2, h3⟩ := kx_mem q3 y hy
  obtain ⟨k1, k2⟩ := k u h1
  rw [← h2, ← h3]
  exact ⟨k2 _ _ _ I, k1⟩
theorem kx_ky {us : List Ent} {ys : List (NestedKey × Addr × Value)} (k : KX us ys) : KY (us.map fun p => (p.1, p.2.2)) ys := by
  induction k with
  | nil => exact .nil
  | cons h t ih => exact .cons ⟨h.1, h.2.2⟩ ih
theorem dicR_x {us : List Ent} (e : Rd H a (DXO X.w a us)) (k : KeysX X H us) : DicR X H a (us.map fun p => (p.1, p.2.2)) := fun pins σ s I => by
  obtain ⟨h1, h2, ys, h3, h4⟩ := dx_rd I e k
  exact ⟨by rw [List.length_map]; exact h1, h2, ys, kx_ky h3, h4⟩
/-! the kit's own dicts with tuple keys -/
def nk1 : Key → NestedKey
  | .inl i => .num i
  | .inr x => .text x
def nkK (k : List Key) : NestedKey := .tup (k.map nk1)
theorem nk1_inj {x y : Key} (h : nk1 x = nk1 y) : x = y := by
  cases x <;> cases y <;> first | (injection h with h; rw [h]) | cases h
theorem nkK_inj {x y : List Key} (h : nkK x = nkK y) : x = y := by
  have h1 : x.map nk1 = y.map nk1 := by injection h
  clear h
  induction x generalizing y with
  | nil => cases y with
    | nil => rfl
    | cons => cases h1
  | cons a x ih => cases y with
    | nil => cases h1
    | cons b y =>
      rw [List.map_cons, List.map_cons] at h1
      injection h1 with e1 e2
      rw [nk1_inj e1, ih e2]
theorem nk_hash (P : Program) (w : World) (k : List Key) : (tupleKind (mixKind P w)).hash k = (nkK k).hash w := by
  have e : ∀ k : List Key, k.map (mixKind P w).hash = NestedKey.hashes w (k.map nk1) := fun k => by
    induction k with
    | nil => rfl
    | cons x k ih =>
      rw [List.map_cons, List.map_cons, ih]
      cases x <;> rfl
  show reduceHash (Builtin.Tuple.tupleHashOf (k.map (mixKind P w).hash)) = reduceHash (Builtin.Tuple.tupleHashOf (NestedKey.hashes w (k.map nk1)))
  rw [e]
theorem nk_depth (k : List Key) : (nkK k).depth ≤ 8 := by
  have : NestedKey.depthAll (k.map nk1) = 0 := by
    induction k with
    | nil => rfl
    | cons x k ih =>
      rw [List.map_cons]
      show max (nk1 x).depth _ = 0
      rw [ih]
      cases x <;> rfl
  show NestedKey.depthAll (k.map nk1) + 1 ≤ 8
  omega
theorem nk_items {h : Heap} : ∀ {k : List Key} {us : List Value}, Vals (k.map kV) us → NestedAll h (k.map nk1) us
  | [], _, .nil => .nil
  | x :: k, _, .cons r t => .cons (by
      cases x with
      | inl i => obtain ⟨t, e⟩ := (show ∃ t, _ = Value.int i t from r); subst e; exact .int i t
      | inr y => obtain ⟨t, e⟩ := (show ∃ t, _ = Value.str y t from r); subst e; exact .text y t) (nk_items t)
theorem nk_sq {k : List Key} (h : SqT X.K H b (k.map kV)) : NkAt X H b (nkK k) := ⟨nk_depth k, fun pins σ s I => by
  obtain ⟨its, rv, ⟨o, h1, h2, n, h3⟩, _⟩ := I.tuple h
  exact .tup h1 h2 h3 (by simpa using nk_items rv)⟩
theorem kt_ky {kvs : List (List Key × V)} {xs : List (List Key × Addr × Value)} (k : KT H kvs xs) : KY (kvs.map fun p => (nkK p.1, p.2)) (xs.map fun q => (nkK q.1, q.2)) := by
  induction k with
  | nil => exact .nil
  | cons h t ih => exact .cons ⟨congrArg nkK h.1, h.2.2⟩ ih
theorem kt_mem {kvs : List (List Key × V)} {xs : List (List Key × Addr × Value)} (k : KT H kvs xs) : ∀ q ∈ xs, H q.2.1 = some (.tup (q.1.map kV)) := by
  induction k with
  | nil => intro y h; cases h
  | @cons p q ps qs h t ih =>
    intro y hy
    rcases List.mem_cons.mp hy with rfl | hy
    · rw [← h.1]; exact h.2.1
    · exact ih y hy
theorem dicR_t {kvs : List (List Key × V)} (e : Rd H a (.dT kvs)) : DicR X H a (kvs.map fun p => (nkK p.1, p.2)) := fun pins σ s I => by
  obtain ⟨h1, h2, xs, h3, o, es, ep, h4, h5, h6, h7, h8, h9⟩ := dt_rd I.hok e
  refine ⟨by rw [List.length_map]; exact h1, h2, _, kt_ky h3, o, es, ep, h4, h5, h6, ?_, fun y hy => ?_, ?_⟩
  · rw [h7, List.map_map]
    refine List.map_congr_left fun q _ => ?_
    show (⟨(tupleKind (mixKind X.prog X.w)).hash q.1, .ref q.2.1, q.2.2⟩ : DictEntry) = ⟨(nkK q.1).hash X.w, .ref q.2.1, q.2.2⟩
    rw [nk_hash]
  · obtain ⟨q, hq, rfl⟩ := List.mem_map.mp hy
    obtain ⟨n1, n2⟩ := nk_sq (X := X) (st_of (kt_mem h3 q hq))
    exact ⟨n2 _ _ _ I, n1⟩
  · rw [List.map_map]
    have : ((fun x : NestedKey × Addr × Value => x.1) ∘ fun q : List Key × Addr × Value => (nkK q.1, q.2)) = nkK ∘ fun x => x.1 := rfl
    rw [this, ← List.map_map]
    exact List.Pairwise.map _ (fun x y h e => h (nkK_inj e)) h9
/-! reading -/
theorem ky_val {us : List (NestedKey × V)} {ys : List (NestedKey × Addr × Value)} (r : KY us ys) (k : NestedKey) : RelO (valV us k) ((atKey ys k).map (·.2)) := by
  induction r with
  | nil => exact True.intro
  | @cons p q ps qs h t ih =>
    obtain ⟨h1, h2⟩ := h
    by_cases e : p.1 = k
    · have e' : q.1 = k := h1.symm.trans e
      have b : atKey (q :: qs) k = some q.2 := by simp [atKey, List.find?_cons, e']
      rw [valV_pos e, b]; exact h2
    · have e' : ¬ q.1 = k := fun z => e (h1.trans z)
      have b : atKey (q :: qs) k = atKey qs k := by simp [atKey, List.find?_cons, e']
      rw [valV_neg e, b]; exact ih
/-- what a dict holds at a key -/
def DG (X : Cx) (H : Hp) (a : Addr) (y : V) (o : Option V) : Prop := DGet H a y o ∨ ∃ us b k, DicR X H a us ∧ y = .ref b ∧ NkAt X H b k ∧ o = valV us k
def IsDG (X : Cx) (H : Hp) (a : Addr) : Prop := IsD H a ∨ ∃ us, DicR X H a us
theorem isDG_at {pins : List (Addr × Obj)} {s : Shared} (I : Inv X pins σ H s) (d : IsDG X H a) : s.TypeIs (.ref a) "dict" ∧ (∀ b, Value.ref a = .ref b → ∃ ob, s.heap.get? b = some ob ∧ ob.dict = none) ∧ (a == sysModules) = false := by
  rcases d with d | ⟨us, d⟩
  · exact isD_at I d
  · obtain ⟨_, hd, ys, _, dd⟩ := d _ _ _ I
    refine ⟨dd.typeIs, fun b q => ?_, hd⟩
    cases q
    obtain ⟨o, es, ep, h1, h2, h3, _⟩ := dd
    exact ⟨o, h1, h2.2.1⟩
theorem DG.isDG {y : V} {o : Option V} (g : DG X H a y o) : IsDG X H a := by
  rcases g with g | ⟨us, _, _, d, _⟩
  · rcases g with ⟨kvs, k, e, _⟩ | ⟨kvs, k, b, e, _⟩
    · exact .inl (.inl ⟨kvs, e⟩)
    · exact .inl (.inr ⟨kvs, e⟩)
  · exact .inr ⟨us, d⟩
section
variable {pins : List (Addr × Obj)} {s : Shared} {y d : V} {u r : Value} {o : Option V} {A : Around} {E : Value → Shared → Prop}
theorem nroom {P : Program} {w : World} (hu : A.units + 64 < cLine) : (nestedKind P w).room A.in1 := by
  show A.in1.units + 8 < cLine
  have : A.in1.units = A.units + 1 := rfl
  omega
theorem g_getItem {v : V} {Q : Value → Shared → Prop} (hu : A.units + 64 < cLine) (I : Inv X pins σ H s) (g : DG X H a y (some v)) (ry : RelV y u) (h : ∀ w' s', Inv X pins σ H s' → RelV v w' → Q w' s') :
    wpAny (model X.prog X.w) A (getItem (.ref a) u) Q E s := by
  rcases g with g | ⟨us, b, k, dr, rfl, kk, l⟩
  · exact d_getItem (by omega) I g ry h
  · cases (show u = Value.ref b from ry)
    obtain ⟨z, hd, ys, rel, dd⟩ := dr _ _ _ I
    obtain ⟨w', hw, rw'⟩ := RelO.some_of (v := v) (o := (atKey ys k).map (·.2)) (by rw [l]; exact ky_val rel k)
    obtain ⟨p, hp, hp2⟩ := Option.map_eq_some_iff.mp hw
    refine wpAny_getItem_heap (nroom hu) ⟨kk.2 _ _ _ I, kk.1⟩ dd hp ?_
    rw [hp2]
    exact h w' _ (I.tok _) rw'
theorem g_in {Q : Value → Shared → Prop} (hu : A.units + 64 < cLine) (I : Inv X pins σ H s) (g : DG X H a y o) (ry : RelV y u) (h : ∀ s', Inv X pins σ H s' → Q (.bool o.isSome) s') :
    wpAny (model X.prog X.w) A (compareOp .In u (.ref a)) Q E s := by
  rcases g with g | ⟨us, b, k, dr, rfl, kk, l⟩
  · exact d_in (by omega) I g ry h
  · cases (show u = Value.ref b from ry)
    obtain ⟨z, hd, ys, rel, dd⟩ := dr _ _ _ I
    refine wpAny_in_heap (nroom hu) ⟨kk.2 _ _ _ I, kk.1⟩ hd dd ?_
    have q := (ky_val rel k).isSome_eq
    rw [Option.isSome_map] at q
    rw [← q, ← l]
    exact h _ (I.tok _)
theorem g_notIn {Q : Value → Shared → Prop} (hu : A.units + 64 < cLine) (I : Inv X pins σ H s) (g : DG X H a y o) (ry : RelV y u) (h : ∀ s', Inv X pins σ H s' → Q (.bool (!o.isSome)) s') :
    wpAny (model X.prog X.w) A (compareOp .NotIn u (.ref a)) Q E s := by
  rcases g with g | ⟨us, b, k, dr, rfl, kk, l⟩
  · exact d_notIn (by omega) I g ry h
  · cases (show u = Value.ref b from ry)
    obtain ⟨z, hd, ys, rel, dd⟩ := dr _ _ _ I
    refine wpAny_notIn_heap (nroom hu) ⟨kk.2 _ _ _ I, kk.1⟩ hd dd ?_
    have q := (ky_val rel k).isSome_eq
    rw [Option.isSome_map] at q
    rw [← q, ← l]
    exact h _ (I.tok _)
end
variable {Q : VK} {y v : V} {r : Option V}
theorem wo_gin (hu : X.A.units + 64 < cLine) (g : DG X H a y r) (q : Q (.bl r.isSome) H) : WO X (compareOp .In) y (.ref a) H Q := by
  refine WO.of (r := fun x z H Q => ∃ a r, z = .ref a ∧ DG X H a x r ∧ Q (.bl r.isSome) H) (fun pins s σ H x z vv u Q I rx rz h => ?_) ⟨a, r, rfl, g, q⟩
  obtain ⟨a, r, rfl, g, q⟩ := h
  obtain rfl : u = Value.ref a := rz
  exact g_in hu I g rx fun s3 I3 => ⟨.bl r.isSome, H, I3, rfl, q⟩
theorem wo_gnotin (hu : X.A.units + 64 < cLine) (g : DG X H a y r) (q : Q (.bl (!r.isSome)) H) : WO X (compareOp .NotIn) y (.ref a) H Q := by
  refine WO.of (r := fun x z H Q => ∃ a r, z = .ref a ∧ DG X H a x r ∧ Q (.bl (!r.isSome)) H) (fun pins s σ H x z vv u Q I rx rz h => ?_) ⟨a, r, rfl, g, q⟩
  obtain ⟨a, r, rfl, g, q⟩ := h
  obtain rfl : u = Value.ref a := rz
  exact g_notIn hu I g rx fun s3 I3 => ⟨.bl (!r.isSome), H, I3, rfl, q⟩
theorem wix_g (hu : X.A.units + 64 < cLine) (g : DG X H a y (some v)) (q : Q v H) : WIx X (.ref a) y H Q := by
  refine WIx.of (r := fun x y H Q => ∃ a v, x = .ref a ∧ DG X H a y (some v) ∧ Q v H) (fun value slice pins s σ H x y xv yv Q I rx ry h hs => ?_) ⟨a, v, rfl, g, q⟩
  obtain ⟨a, v, rfl, g, q⟩ := h
  obtain rfl : xv = Value.ref a := rx
  have hT := (isDG_at I g.isDG).1
  have h2 := g_getItem (A := X.A) (E := X.xe) hu I g ry (Q := EP X pins σ Q) fun w' s3 I3 rw' => ⟨v, H, I3, rw', q⟩
  unfold subscriptTail
  refine wpAny_bind ?_
  rw [getitemInPython_of_ne hT.not_modules]
  refine wpAny_bind (wpAny_specialOf hT PySem.F.slot_dict_getitem.lookup ?_)
  have fin : wpAny (model X.prog X.w) X.A (subscripted slice false (.ref a) yv) (fun r s₃ => wpAny (model X.prog X.w) X.A (letTemporaryGo value (.ref a) r >>= fun _ => pure r) (EP X pins σ Q) X.xe s₃) X.xe s := by
    rw [hs]
    exact wpAny_operating (wpAny_mono h2 (fun r s₃ h₃ => wpAny_bind (wpAny_letTemporaryGo (wpAny_pure h₃))) fun _ _ x => x)
  exact wpAny_pure (wpAny_bind fin)
variable {o e f : Expr} {apos cpos pos : Pos}
/-! writing -/
/-! a new one -/
/-! sorted(d): the keys by their data -/
mutual
def noL : PyData → Bool
  | .tuple ds => noLs ds
  | .none => true
  | .bool _ => true
  | .int _ => true
  | .str _ => true
  | _ => false
def noLs : List PyData → Bool
  | [] => true
  | d :: ds => noL d && noLs ds
end
end
end Wx

/-! Ib: trees and the heap. -/
namespace Is
open PySem PySem.Spec PyProof.Rows L2 Wx
open Ir (Tr Cel Mem Ev EK SK Con Tg Op Cm I Sm wp wps)

structure Bs where
  K : PySem.W.Frag
  cl : Nat → Addr
  w : World

def TupAt (K : PySem.W.Frag) (H : Hp) (a : Addr) (xs : List V) : Prop := H a = some (.tup xs) ∨
  ∃ (o : Obj) (its : Array Value) (n : Nat), K.lookup a = some o ∧ o.cls = .type "tuple" ∧ o.data = .seq its n ∧ its.size ≤ sizeLine ∧ Vals xs its.toList
/-- a tuple of which the whole object is known -/
def KupAt (K : PySem.W.Frag) (F : Hp) (a : Addr) (xs : List V) : Prop :=
  (∃ (o : Obj) (its : Array Value) (n : Nat), K.lookup a = some o ∧ o.cls = .type "tuple" ∧ o.dict = none ∧ o.data = .seq its n ∧ its.size ≤ sizeLine ∧ Vals xs its.toList) ∨
  ∃ o : Obj, F a = some (.frz o (.tup xs)) ∧ o.cls = .type "tuple" ∧ o.dict = none
def LstAt (K : PySem.W.Frag) (H : Hp) (a : Addr) (xs : List V) : Prop := H a = some (.lst xs)
def ScrAt (K : PySem.W.Frag) (F : Hp) (a : Addr) (xs : List V) : Prop := F a = some (.lst xs) ∨
    ∃ (o : Obj) (its : Array Value) (n : Nat), K.lookup a = some o ∧ o.cls = .type "list" ∧ o.dict = none ∧ o.data = .seq its n ∧ its.size ≤ sizeLine ∧ Vals xs its.toList
theorem ScrAt.mono {K : PySem.W.Frag} {F F' : Hp} {a : Addr} {xs : List V} (e : Ex F F') (h : ScrAt K F a xs) : ScrAt K F' a xs := by
  rcases h with h | h
  · exact .inl (e _ _ h)
  · exact .inr h
theorem TupAt.sq {K H a xs} (h : TupAt K H a xs) : SqT K H a xs := h.elim (fun h => .inl (.inl h)) .inr
theorem KupAt.mono {K : PySem.W.Frag} {F F' : Hp} {a : Addr} {xs : List V} (e : Ex F F') (h : KupAt K F a xs) : KupAt K F' a xs := h.elim .inl fun ⟨o, h1, h2⟩ => .inr ⟨o, e _ _ h1, h2⟩
theorem TupAt.mono {K H H' a xs} (e : TEx H H') (h : TupAt K H a xs) : TupAt K H' a xs := h.elim (fun h => .inl (e _ _ h)) .inr
theorem LstAt.mono {K F F' a xs} (e : Ex F F') (h : LstAt K F a xs) : LstAt K F' a xs := e _ _ h
def kTr : Key → Tr
  | .inl i => .int i
  | .inr x => .str x.cps.toList
def kTs (k : List Key) : Tr := .tup (k.map kTr)
def fname : Nat → Str
  | 0 => "own_arrows"
  | 1 => "own_starts"
  | 2 => "own_ends"
  | 3 => "own_states"
  | 4 => "ways"
  | 5 => "own_ranks"
  | 6 => "ranks"
  | 7 => "most"
  | 8 => "own_machine"
  | 9 => "letters_read"
  | 10 => "steps"
  | 11 => "machines"
  | 12 => "found"
  | 13 => "waiting"
  | 14 => "last_ones"
  | 15 => "line"
  | 16 => "state"
  | 17 => "count"
  | 18 => "row"
  | 19 => "arrow"
  | 20 => "number"
  | 21 => "place"
  | 22 => "part"
  | _ => ""
def fN (p : Nat × Tr) : Str := fname p.1
theorem fname_inj : ∀ a < 23, ∀ b < 23, fname a = fname b → a = b := by decide +kernel
theorem fname_big (a : Nat) (h : 23 ≤ a) : fname a = "" := by
  match a, h with
  | a + 23, _ => rfl
theorem fname_ne : ∀ a < 23, fname a ≠ "" := by decide +kernel
mutual
/-- a tree as a key -/
def nkT : Tr → NestedKey
  | .int i => .num i
  | .str l => .text (S l)
  | .tup ts => .tup (nkTs ts)
  | .ktup ts => .tup (nkTs ts)
  | _ => .none
def nkTs : List Tr → List NestedKey
  | [] => []
  | t :: ts => nkT t :: nkTs ts
end
mutual
inductive Rv (B : Bs) (H F : Hp) : V → Tr → Prop
  | non : Rv B H F .non .non
  | bl (b : Bool) : Rv B H F (.bl b) (.bl b)
  | int (i : Int) : Rv B H F (.int i) (.int i)
  | str (l : List Nat) : Rv B H F (.str (S l)) (.str l)
  | ty (n : String) : Rv B H F (.ty n) (.ty n)
  | cls (d : Nat) : Rv B H F (.ref (B.cl d)) (.cls d)
  | tup {a vs ts} : TupAt B.K H a vs → Rvs B H F vs ts → Rv B H F (.ref a) (.tup ts)
  | kup {a vs ts} : KupAt B.K F a vs → Rvs B H F vs ts → Rv B H F (.ref a) (.ktup ts)
  | scr {a} {ns : List Int} : ScrAt B.K F a (ns.map V.int) → Rv B H F (.ref a) (.scr ns)
  | lst {a vs ts} : LstAt B.K F a vs → Rvs B H F vs ts → Rv B H F (.ref a) (.lst ts)
  | dK {a us kvs} : F a = some (.dK us) → us.map (fun p => kTr p.1) = kvs.map Prod.fst → Rvs B H F (us.map Prod.snd) (kvs.map Prod.snd) → Rv B H F (.ref a) (.dic false kvs)
  | dT {a us kvs} : F a = some (.dT us) → us.map (fun p => kTs p.1) = kvs.map Prod.fst → Rvs B H F (us.map Prod.snd) (kvs.map Prod.snd) → Rv B H F (.ref a) (.dic true kvs)
  | dX {a us kvs} : F a = some (DXO B.w a us) → us.map (fun p => p.1) = kvs.map (fun p => nkT p.1) → (∀ p ∈ kvs, Ir.isKey true p.1 = true) → Rvs B H F (us.map fun p => V.ref p.2.1) (kvs.map Prod.fst) → Rvs B H F (us.map fun p => p.2.2) (kvs.map Prod.snd) → Rv B H F (.ref a) (.dic true kvs)
  | obj {a c dx fvs fs} : F a = some (.ins (B.cl c) dx fvs) → F dx = some (.own a) → fvs.map Prod.fst = fs.map fN → Rvs B H F (fvs.map Prod.snd) (fs.map Prod.snd) → Rv B H F (.ref a) (.obj c fs)
inductive Rvs (B : Bs) (H F : Hp) : List V → List Tr → Prop
  | nil : Rvs B H F [] []
  | cons {v vs t ts} : Rv B H F v t → Rvs B H F vs ts → Rvs B H F (v :: vs) (t :: ts)
end
mutual
theorem Rv.mono {B H F H' F'} (e : TEx H H') (f : Ex F F') : ∀ {v t}, Rv B H F v t → Rv B H' F' v t
  | _, _, .non => .non
  | _, _, .bl b => .bl b
  | _, _, .int i => .int i
  | _, _, .str l => .str l
  | _, _, .ty n => .ty n
  | _, _, .cls d => .cls d
  | _, _, .tup h hs => .tup (h.mono e) (Rvs.mono e f hs)
  | _, _, .kup h hs => .kup (h.mono f) (Rvs.mono e f hs)
  | _, _, .scr h => .scr (h.mono f)
  | _, _, .lst h hs => .lst (h.mono f) (Rvs.mono e f hs)
  | _, _, .dK h k hs => .dK (f _ _ h) k (Rvs.mono e f hs)
  | _, _, .dT h k hs => .dT (f _ _ h) k (Rvs.mono e f hs)
  | _, _, .dX h k n ks hs => .dX (f _ _ h) k n (Rvs.mono e f ks) (Rvs.mono e f hs)
  | _, _, .obj h h2 k hs => .obj (f _ _ h) (f _ _ h2) k (Rvs.mono e f hs)
theorem Rvs.mono {B H F H' F'} (e : TEx H H') (f : Ex F F') : ∀ {v t}, Rvs B H F v t → Rvs B H' F' v t
  | _, _, .nil => .nil
  | _, _, .cons h hs => .cons (Rv.mono e f h) (Rvs.mono e f hs)
end
section
variable {B : Bs} {H F : Hp}
theorem Rvs.length : ∀ {vs ts}, Rvs B H F vs ts → vs.length = ts.length
  | _, _, .nil => rfl
  | _, _, .cons _ hs => by rw [List.length_cons, List.length_cons, hs.length]
theorem Rvs.get : ∀ {vs ts} {i : Nat} {v : V}, Rvs B H F vs ts → vs[i]? = some v → ∃ t, ts[i]? = some t ∧ Rv B H F v t
  | _, _, _, _, .nil, h => by simp at h
  | _, _, 0, _, .cons h _, e => by simp at e; subst e; exact ⟨_, rfl, h⟩
  | _, _, i + 1, v, .cons _ hs, e => by
    obtain ⟨d, a, b⟩ := Rvs.get (i := i) (v := v) hs (by simpa using e)
    exact ⟨d, by simpa using a, b⟩
theorem Rvs.get' : ∀ {vs ts} {i : Nat} {t : Tr}, Rvs B H F vs ts → ts[i]? = some t → ∃ v, vs[i]? = some v ∧ Rv B H F v t
  | _, _, _, _, .nil, h => by simp at h
  | _, _, 0, _, .cons h _, e => by simp at e; subst e; exact ⟨_, rfl, h⟩
  | _, _, i + 1, v, .cons _ hs, e => by
    obtain ⟨d, a, b⟩ := Rvs.get' (i := i) (t := v) hs (by simpa using e)
    exact ⟨d, by simpa using a, b⟩
theorem Rvs.app : ∀ {vs ws ts us}, Rvs B H F vs ts → Rvs B H F ws us → Rvs B H F (vs ++ ws) (ts ++ us)
  | _, _, _, _, .nil, h => h
  | _, _, _, _, .cons a b, h => .cons a (Rvs.app b h)
theorem Rvs.set {v t} (h : Rv B H F v t) : ∀ {vs ts} (i : Nat), Rvs B H F vs ts → Rvs B H F (vs.set i v) (ts.set i t)
  | _, _, _, .nil => .nil
  | _, _, 0, .cons _ b => .cons h b
  | _, _, i + 1, .cons a b => .cons a (Rvs.set h i b)
theorem Rvs.take : ∀ {vs ts} (i : Nat), Rvs B H F vs ts → Rvs B H F (vs.take i) (ts.take i)
  | _, _, 0, _ => .nil
  | _, _, _ + 1, .nil => .nil
  | _, _, i + 1, .cons a b => .cons a (Rvs.take i b)
theorem Rvs.drop : ∀ {vs ts} (i : Nat), Rvs B H F vs ts → Rvs B H F (vs.drop i) (ts.drop i)
  | _, _, 0, h => h
  | _, _, _ + 1, .nil => .nil
  | _, _, i + 1, .cons a b => Rvs.drop i b
theorem Rvs.rev : ∀ {vs ts}, Rvs B H F vs ts → Rvs B H F vs.reverse ts.reverse
  | _, _, .nil => .nil
  | _, _, .cons a b => by
    rw [List.reverse_cons, List.reverse_cons]
    exact Rvs.app (Rvs.rev b) (.cons a .nil)
theorem Rvs.strs_eq : ∀ {ls : List (List Nat)} {vs}, Rvs B H F vs (ls.map Tr.str) → vs = ls.map fun l => V.str (S l)
  | [], _, .nil => rfl
  | l :: ls, _, .cons h hs => by
    cases h
    rw [Rvs.strs_eq hs] <;> rfl
theorem Rv.noptr {v : V} {i : Nat} (h : Rv B H F v (.ptr i)) : False := by cases h
end

/-- a dict of one's own by its trees -/
structure KvX (B : Bs) (H F : Hp) (us : List Ent) (kvs : List (Tr × Tr)) : Prop where
  k : us.map (fun p => p.1) = kvs.map (fun p => nkT p.1)
  n : ∀ p ∈ kvs, Ir.isKey true p.1 = true
  r : Rvs B H F (us.map fun p => V.ref p.2.1) (kvs.map Prod.fst)
  v : Rvs B H F (us.map fun p => p.2.2) (kvs.map Prod.snd)
theorem KvX.mono {H' F' : Hp} {us kvs} (h : KvX B H F us kvs) (e : TEx H H') (f : Ex F F') : KvX B H' F' us kvs := ⟨h.k, h.n, h.r.mono e f, h.v.mono e f⟩
theorem KvX.rv {a : Addr} {us kvs} (h : KvX B H F us kvs) (e : F a = some (DXO B.w a us)) : Rv B H F (.ref a) (.dic true kvs) := .dX e h.k h.n h.r h.v
theorem KvX.nil : KvX B H F [] [] := ⟨rfl, (fun p h => nomatch h), .nil, .nil⟩
theorem KvX.len {us kvs} (h : KvX B H F us kvs) : us.length = kvs.length := by have := congrArg List.length h.k; simpa using this
/-! ### the world -/
structure Wd where
  A : List Addr
  O : List (List Addr)
  G : Hp
  F : Hp
  H : Hp
/-- how the world goes on: G (what others own) stays; F (frozen) grows; what is G's alone is not frozen; the cells keep their places -/
structure Go (W W' : Wd) : Prop where
  g : Ex W.G W'.G
  f : Ex W.F W'.F
  t : TEx W.H W'.H
  n : ∀ a, W.G a ≠ none → W.F a = none → W'.F a = none
  p : ∀ (i : Nat) a, W.A[i]? = some a → W'.A[i]? = some a
theorem Go.refl {W : Wd} : Go W W := ⟨Ex.refl _, Ex.refl _, TEx.refl _, fun _ _ h => h, fun _ _ h => h⟩
theorem Ex.ne {H H' : Hp} {a : Addr} (e : Ex H H') (h : H a ≠ none) : H' a ≠ none := by
  cases q : H a with
  | none => exact absurd q h
  | some o => rw [e _ _ q]; exact fun z => nomatch z
theorem Go.trans {W W1 W2 : Wd} (a : Go W W1) (b : Go W1 W2) : Go W W2 :=
  ⟨a.g.trans b.g, a.f.trans b.f, a.t.trans b.t, fun x h h' => b.n x (Ex.ne a.g h) (a.n x h h'), fun i x h => b.p i x (a.p i x h)⟩
/-- a field of an object with parts of its own -/
def Rf (B : Bs) (H F : Hp) (v : V) : Ir.Fc → Prop
  | .val t => Rv B H F v t
  | .at j => v = .ref (B.cl (200 + j))
inductive Rfs (B : Bs) (H F : Hp) : List V → List Ir.Fc → Prop
  | nil : Rfs B H F [] []
  | cons {v vs t ts} : Rf B H F v t → Rfs B H F vs ts → Rfs B H F (v :: vs) (t :: ts)
theorem Rf.mono {B : Bs} {H F H' F' : Hp} (e : TEx H H') (f : Ex F F') {v : V} : ∀ {o : Ir.Fc}, Rf B H F v o → Rf B H' F' v o
  | .val t, h => Rv.mono e f h
  | .at j, h => h
theorem Rfs.mono {B : Bs} {H F H' F' : Hp} (e : TEx H H') (f : Ex F F') {vs : List V} {os : List Ir.Fc} (h : Rfs B H F vs os) : Rfs B H' F' vs os := by
  induction h with
  | nil => exact .nil
  | cons a _ ih => exact .cons (a.mono e f) ih
/-- .. boxed: with what it owns -/
def Rb (B : Bs) (H F : Hp) (v : V) (o : List Addr) : Ir.Fb → Prop
  | .val t => o = [] ∧ Rv B H F v t
  | .pv t => o = [] ∧ (∃ b, v = .ref b) ∧ Rv B H F v t
  | .lst ts => ∃ b vs, v = .ref b ∧ o = [b] ∧ H b = some (.lst vs) ∧ Rvs B H F vs ts
  | .dic kvs => ∃ b us, v = .ref b ∧ o = [b] ∧ H b = some (DXO B.w b us) ∧ KvX B H F us kvs
inductive Rbs (B : Bs) (H F : Hp) : List V → List (List Addr) → List Ir.Fb → Prop
  | nil : Rbs B H F [] [] []
  | cons {v vs o os t ts} : Rb B H F v o t → Rbs B H F vs os ts → Rbs B H F (v :: vs) (o :: os) (t :: ts)
theorem Rb.mono {B : Bs} {H F H' F' : Hp} (e : TEx H H') (f : Ex F F') {v : V} {o : List Addr} (h : ∀ x ∈ o, H' x = H x) : ∀ {q : Ir.Fb}, Rb B H F v o q → Rb B H' F' v o q
  | .val t, ⟨h1, h2⟩ => ⟨h1, Rv.mono e f h2⟩
  | .pv t, ⟨h1, h2, h3⟩ => ⟨h1, h2, Rv.mono e f h3⟩
  | .lst ts, ⟨b, vs, h1, h2, h3, h4⟩ => ⟨b, vs, h1, h2, (h b (by rw [h2]; simp)).trans h3, h4.mono e f⟩
  | .dic kvs, ⟨b, us, h1, h2, h3, h4⟩ => ⟨b, us, h1, h2, (h b (by rw [h2]; simp)).trans h3, h4.mono e f⟩
theorem Rbs.mono {B : Bs} {H F H' F' : Hp} (e : TEx H H') (f : Ex F F') {vs : List V} {os : List (List Addr)} {qs : List Ir.Fb} (h : Rbs B H F vs os qs) : (∀ x ∈ os.flatten, H' x = H x) → Rbs B H' F' vs os qs := by
  induction h with
  | nil => exact fun _ => .nil
  | @cons v vs o os t ts a _ ih =>
    intro hx
    rw [List.flatten_cons] at hx
    exact .cons (a.mono e f fun x h => hx x (List.mem_append_left _ h)) (ih fun x h => hx x (List.mem_append_right _ h))
/-- a part -/
def RpK (B : Bs) (H F : Hp) (a : Addr) (fp : List Addr) : Ir.Pk → Prop
  | .lst ts => fp = [a] ∧ ∃ vs, H a = some (.lst vs) ∧ Rvs B H F vs ts
  | .dic kvs => fp = [a] ∧ ∃ us, H a = some (DXO B.w a us) ∧ KvX B H F us kvs
  | .fro kvs => fp = [] ∧ ∃ us, F a = some (DXO B.w a us) ∧ KvX B H F us kvs
  | .val t => fp = [] ∧ Rv B H F (.ref a) t
theorem RpK.frame {B : Bs} {H F H' F' : Hp} {a : Addr} {fp : List Addr} (h : ∀ x ∈ fp, H' x = H x) (t : TEx H H') (f : Ex F F') : ∀ {q : Ir.Pk}, RpK B H F a fp q → RpK B H' F' a fp q
  | .lst ts, ⟨h1, vs, h2, h3⟩ => ⟨h1, vs, (h a (by rw [h1]; simp)).trans h2, h3.mono t f⟩
  | .dic kvs, ⟨h1, us, h2, h3⟩ => ⟨h1, us, (h a (by rw [h1]; simp)).trans h2, h3.mono t f⟩
  | .fro kvs, ⟨h1, us, h2, h3⟩ => ⟨h1, us, f _ _ h2, h3.mono t f⟩
  | .val u, ⟨h1, h2⟩ => ⟨h1, Rv.mono t f h2⟩
/-- a cell in memory: a its place, fp all that it owns -/
def Rc (B : Bs) (H F : Hp) (a : Addr) (fp : List Addr) : Cel → Prop
  | .gone => fp = []
  | .lst ts => fp = [a] ∧ ∃ vs, H a = some (.lst vs) ∧ Rvs B H F vs ts
  | .lst2 tss => ∃ bs : List Addr, fp = a :: bs ∧ H a = some (.lst (bs.map V.ref)) ∧ bs.length = tss.length ∧ ∀ (i : Nat) b ts, bs[i]? = some b → tss[i]? = some ts → ∃ vs, H b = some (.lst vs) ∧ Rvs B H F vs ts
  | .dic false kvs => fp = [a] ∧ ∃ us, H a = some (.dK us) ∧ us.map (fun p => kTr p.1) = kvs.map Prod.fst ∧ Rvs B H F (us.map Prod.snd) (kvs.map Prod.snd)
  | .dic true kvs => fp = [a] ∧ ∃ us, H a = some (DXO B.w a us) ∧ KvX B H F us kvs
  | .obj c fs => ∃ dx fvs, fp = [a, dx] ∧ H a = some (.ins (B.cl c) dx fvs) ∧ H dx = some (.own a) ∧ fvs.map Prod.fst = fs.map fN ∧ Rvs B H F (fvs.map Prod.snd) (fs.map Prod.snd)
  | .objW c fs kvs => ∃ (dx wd : Addr) (fvs : List (Str × V)) (us : List (List Key × V)) (bs : List Addr), fp = a :: dx :: wd :: bs ∧ H a = some (.ins (B.cl c) dx (fvs ++ [(fname 4, .ref wd)])) ∧ H dx = some (.own a) ∧ fvs.map Prod.fst = fs.map fN ∧ Rvs B H F (fvs.map Prod.snd) (fs.map Prod.snd) ∧
      H wd = some (.dT us) ∧ us.map (fun p => kTs p.1) = kvs.map Prod.fst ∧ us.map Prod.snd = bs.map V.ref ∧ Ir.hasN 4 fs = false ∧ (us.map Prod.fst).Nodup ∧ ∀ (i : Nat) b ts, bs[i]? = some b → (kvs.map Prod.snd)[i]? = some ts → ∃ vs, H b = some (.lst vs) ∧ Rvs B H F vs ts
  | .src n => fp = [a] ∧ Src H a n
  | .objC c fs => ∃ dx fvs, fp = [a, dx] ∧ H a = some (.ins (B.cl c) dx fvs) ∧ H dx = some (.own a) ∧ fvs.map Prod.fst = fs.map (fun p => fname p.1) ∧ Rfs B H F (fvs.map Prod.snd) (fs.map Prod.snd)
  | .pin n k => a = B.cl (200 + n) ∧ RpK B H F a fp k
  | .box c fs => ∃ dx fvs os, fp = a :: dx :: os.flatten ∧ H a = some (.ins (B.cl c) dx fvs) ∧ H dx = some (.own a) ∧ fvs.map Prod.fst = fs.map (fun p => fname p.1) ∧ Rbs B H F (fvs.map Prod.snd) os (fs.map Prod.snd)
/-- a value by its tree, at the top a pointer too -/
def Rp (B : Bs) (W : Wd) (v : V) (t : Tr) : Prop := Rv B W.H W.F v t ∨ ∃ i a, t = .ptr i ∧ v = .ref a ∧ W.A[i]? = some a
inductive Rps (B : Bs) (W : Wd) : List V → List Tr → Prop
  | nil : Rps B W [] []
  | cons {v vs t ts} : Rp B W v t → Rps B W vs ts → Rps B W (v :: vs) (t :: ts)
def frzb : HO → Bool
  | .ins .. => false
  | .own .. => false
  | .tup .. => false
  | .frz .. => false
  | _ => true
structure Sa (B : Bs) (W : Wd) (σ : L2.St) (ρ : Ev) (μ : Mem) : Prop where
  gh : Ex W.G W.H
  fg : ∀ a o, W.F a = some o → W.G a = some o ∨ ((∃ b, W.G a = some (.frz b o)) ∧ frzb o = true)
  env : ∀ (i : Nat) (t : Tr), ρ[i]? = some (some t) → ∃ v, σ[i]? = some (some v) ∧ Rp B W v t
  lA : W.A.length = μ.length
  lO : W.O.length = μ.length
  mem : ∀ (i : Nat) c, μ[i]? = some c → ∃ a fp, W.A[i]? = some a ∧ W.O[i]? = some fp ∧ Rc B W.H W.F a fp c
  nd : W.O.flatten.Nodup
  own : ∀ x ∈ W.O.flatten, W.G x = none ∧ W.H x ≠ none
  ln : ρ.length = σ.length
section
variable {B : Bs} {W W' : Wd} {σ σ' : L2.St} {ρ ρ' : Ev} {μ : Mem}
theorem Rp.go {v t} (g : Go W W') (r : Rp B W v t) : Rp B W' v t := by
  rcases r with r | ⟨i, a, h1, h2, h3⟩
  · exact .inl (r.mono g.t g.f)
  · exact .inr ⟨i, a, h1, h2, g.p i a h3⟩
/-- the same, whatever others do -/
structure GoF (W W' : Wd) : Prop where
  f : Ex W.F W'.F
  t : TEx W.H W'.H
  p : ∀ (i : Nat) a, W.A[i]? = some a → W'.A[i]? = some a
theorem Go.gf (g : Go W W') : GoF W W' := ⟨g.f, g.t, g.p⟩
theorem GoF.refl : GoF W W := Go.refl.gf
theorem GoF.trans {W1 W2 W3 : Wd} (a : GoF W1 W2) (b : GoF W2 W3) : GoF W1 W3 := ⟨a.f.trans b.f, a.t.trans b.t, fun i x h => b.p i x (a.p i x h)⟩
theorem Rps.go {vs ts} (g : Go W W') (r : Rps B W vs ts) : Rps B W' vs ts := by
  induction r with
  | nil => exact .nil
  | cons h _ ih => exact .cons (h.go g) ih
theorem Rp.rv {v t} (r : Rp B W v t) (h : ∀ i, t ≠ .ptr i) : Rv B W.H W.F v t := by
  rcases r with r | ⟨i, a, h1, _⟩
  · exact r
  · exact absurd h1 (h i)
theorem Rp.ptr {v i} (r : Rp B W v (.ptr i)) : ∃ a, v = .ref a ∧ W.A[i]? = some a := by
  rcases r with r | ⟨j, a, h1, h2, h3⟩
  · exact r.noptr.elim
  · cases h1; exact ⟨a, h2, h3⟩
theorem Rps.length {vs ts} (r : Rps B W vs ts) : vs.length = ts.length := by
  induction r with
  | nil => rfl
  | cons _ _ ih => rw [List.length_cons, List.length_cons, ih]
theorem Rps.of {vs ts} (r : Rvs B W.H W.F vs ts) : Rps B W vs ts := by
  induction ts generalizing vs with
  | nil => cases r; exact .nil
  | cons t ts ih => cases r with | cons a b => exact .cons (.inl a) (ih b)
theorem Rps.rvs {vs ts} (r : Rps B W vs ts) {P : Prop} (h : Ir.noP ts P) : Rvs B W.H W.F vs ts ∧ P := by
  induction r with
  | nil => unfold Ir.noP at h; exact ⟨.nil, h⟩
  | cons a b ih =>
    rename_i v vs t ts
    have hn : ∀ i, t ≠ .ptr i := fun i e => by subst e; unfold Ir.noP at h; exact h
    have h' : Ir.noP ts P := by
      unfold Ir.noP at h
      split at h
      · exact h.elim
      · exact h
    exact ⟨.cons (a.rv hn) (ih h').1, (ih h').2⟩
theorem Sa.fh {a o} (S : Sa B W σ ρ μ) (h : W.F a = some o) : Rd W.H a o := (S.fg a o h).elim (fun h => .inl (S.gh _ _ h)) (fun ⟨⟨b, h⟩, _⟩ => .inr ⟨b, S.gh _ _ h⟩)
theorem Sa.fx {a o} (S : Sa B W σ ρ μ) (h : W.F a = some o) (hb : frzb o = false) : W.H a = some o := (S.fg a o h).elim (fun h => S.gh _ _ h) (fun ⟨_, h⟩ => by rw [hb] at h; cases h)
theorem Sa.scr {a xs} (S : Sa B W σ ρ μ) (h : ScrAt B.K W.F a xs) : SqL B.K W.H a xs := by
  rcases h with h | h
  · exact .inl (S.fh h)
  · exact .inr h
theorem Sa.kup {a xs} (S : Sa B W σ ρ μ) (h : KupAt B.K W.F a xs) : SqT B.K W.H a xs := h.elim (fun ⟨o, its, n, h1, h2, _, h3⟩ => .inr ⟨o, its, n, h1, h2, h3⟩) fun ⟨o, h1, _⟩ => .inl (.inr ⟨o, S.fx h1 rfl⟩)
theorem Sa.lst {a xs} (S : Sa B W σ ρ μ) (h : LstAt B.K W.F a xs) : SqL B.K W.H a xs := .inl (S.fh h)
theorem Sa.sub (S : Sa B W σ ρ μ) (hl : ρ'.length = σ'.length) (h : ∀ (i : Nat) t, ρ'[i]? = some (some t) → ∃ v, σ'[i]? = some (some v) ∧ Rp B W v t) : Sa B W σ' ρ' μ := ⟨S.gh, S.fg, h, S.lA, S.lO, S.mem, S.nd, S.own, hl⟩
theorem Sa.nil (S : Sa B W σ ρ μ) : Sa B W [] [] μ := S.sub rfl fun i t h => by simp at h
theorem Sa.env' (S : Sa B W σ ρ μ) (S' : Sa B W' [] [] μ') (g : Go W W') : Sa B W' σ ρ μ' := S'.sub S.ln fun i t h => by
  obtain ⟨v, h1, h2⟩ := S.env i t h
  exact ⟨v, h1, h2.go g⟩
theorem Sa.gnone (S : Sa B W σ ρ μ) {a} (h : W.H a = none) : W.G a = none := S.gh.fresh h
theorem Sa.fnone (S : Sa B W σ ρ μ) {a} (h : W.G a = none) : W.F a = none := by
  cases q : W.F a with
  | none => rfl
  | some o => rcases S.fg a o q with h1 | ⟨⟨b, h1⟩, _⟩ <;> (rw [h] at h1; cases h1)
theorem Sa.onone (S : Sa B W σ ρ μ) {a} (h : W.H a = none) : a ∉ W.O.flatten := fun hm => (S.own a hm).2 h
/-- a cell leans on its own objects alone -/
theorem Rc.frame {H F H' F' : Hp} {a fp c} (r : Rc B H F a fp c) (h : ∀ x ∈ fp, H' x = H x) (t : TEx H H') (f : Ex F F') : Rc B H' F' a fp c := by
  cases c with
  | gone => exact r
  | lst ts =>
    obtain ⟨rfl, vs, h1, h2⟩ := r
    exact ⟨rfl, vs, (h a (by simp)).trans h1, h2.mono t f⟩
  | lst2 tss =>
    obtain ⟨bs, rfl, h1, h2, h3⟩ := r
    refine ⟨bs, rfl, (h a (by simp)).trans h1, h2, fun i b ts hb ht => ?_⟩
    obtain ⟨vs, h4, h5⟩ := h3 i b ts hb ht
    exact ⟨vs, (h b (List.mem_cons_of_mem _ (List.mem_of_getElem? hb))).trans h4, h5.mono t f⟩
  | dic b kvs =>
    cases b with
    | false =>
      obtain ⟨rfl, us, h1, h2, h3⟩ := r
      exact ⟨rfl, us, (h a (by simp)).trans h1, h2, h3.mono t f⟩
    | true =>
      obtain ⟨rfl, us, h1, h2⟩ := r
      exact ⟨rfl, us, (h a (by simp)).trans h1, h2.mono t f⟩
  | obj c fs =>
    obtain ⟨dx, fvs, rfl, h1, h2, h3, h4⟩ := r
    exact ⟨dx, fvs, rfl, (h a (by simp)).trans h1, (h dx (by simp)).trans h2, h3, h4.mono t f⟩
  | objW c fs kvs =>
    obtain ⟨dx, wd, fvs, us, bs, rfl, h1, h2, h3, h4, h5, h6, h7, h9, h10, h8⟩ := r
    refine ⟨dx, wd, fvs, us, bs, rfl, (h a (by simp)).trans h1, (h dx (by simp)).trans h2, h3, h4.mono t f, (h wd (by simp)).trans h5, h6, h7, h9, h10, fun i b ts hb ht => ?_⟩
    obtain ⟨vs, q1, q2⟩ := h8 i b ts hb ht
    exact ⟨vs, (h b (by simp [List.mem_of_getElem? hb])).trans q1, q2.mono t f⟩
  | src n =>
    obtain ⟨rfl, g, s, c, h1, h2⟩ := r
    exact ⟨rfl, g, s, c, (h a (by simp)).trans h1, h2⟩
  | objC c fs =>
    obtain ⟨dx, fvs, rfl, h1, h2, h3, h4⟩ := r
    exact ⟨dx, fvs, rfl, (h a (by simp)).trans h1, (h dx (by simp)).trans h2, h3, h4.mono t f⟩
  | pin n k =>
    obtain ⟨h1, h2⟩ := r
    exact ⟨h1, h2.frame h t f⟩
  | box c fs =>
    obtain ⟨dx, fvs, os, rfl, h1, h2, h3, h4⟩ := r
    exact ⟨dx, fvs, os, rfl, (h a (by simp)).trans h1, (h dx (by simp)).trans h2, h3, h4.mono t f fun x hx => h x (by simp only [List.mem_cons]; exact .inr (.inr hx))⟩
/-- the heap changes outside of all that is known -/
theorem Sa.heap (S : Sa B W σ ρ μ) {H' : Hp} (g : Ex W.G H') (o : ∀ x ∈ W.O.flatten, H' x = W.H x) (t : TEx W.H H') : Go W { W with H := H' } ∧ Sa B { W with H := H' } σ ρ μ := by
  have gg : Go W { W with H := H' } := ⟨Ex.refl _, Ex.refl _, t, fun _ _ h => h, fun _ _ h => h⟩
  refine ⟨gg, ⟨g, S.fg, fun i u hi => ?_, S.lA, S.lO, fun i c hc => ?_, S.nd, fun x hx => ?_, S.ln⟩⟩
  · obtain ⟨v, h1, h2⟩ := S.env i u hi
    exact ⟨v, h1, h2.go gg⟩
  · obtain ⟨a, fp, h1, h2, h3⟩ := S.mem i c hc
    exact ⟨a, fp, h1, h2, h3.frame (fun x hx => o x (List.mem_flatten.mpr ⟨fp, List.mem_of_getElem? h2, hx⟩)) t (Ex.refl _)⟩
  · exact ⟨(S.own x hx).1, by rw [show ({ W with H := H' } : Wd).H x = W.H x from o x hx]; exact (S.own x hx).2⟩
theorem Sa.fresh (S : Sa B W σ ρ μ) {a o} (h : W.H a = none) : Go W { W with H := upd W.H a o } ∧ Sa B { W with H := upd W.H a o } σ ρ μ :=
  S.heap (S.gh.trans (Ex.new h)) (fun x hx => upd_ne fun e => S.onone h (e ▸ hx)) (tex_new h)
/-- what stands outside becomes frozen -/
theorem Sa.newF (S : Sa B W σ ρ μ) {a o} (h : W.H a = none) : Go W { W with G := upd W.G a o, F := upd W.F a o, H := upd W.H a o } ∧ Sa B { W with G := upd W.G a o, F := upd W.F a o, H := upd W.H a o } σ ρ μ := by
  obtain ⟨g, S1⟩ := S.fresh (o := o) h
  have hg := S.gnone h
  have hf := S.fnone hg
  have eF : Ex W.F (upd W.F a o) := Ex.new hf
  have g2 : Go { W with H := upd W.H a o } { W with G := upd W.G a o, F := upd W.F a o, H := upd W.H a o } := ⟨Ex.new hg, eF, TEx.refl _, fun b h1 h2 => (upd_ne (fun e => by subst e; exact h1 hg)).trans h2, fun _ _ h => h⟩
  refine ⟨g.trans g2, ⟨fun b u hb => ?_, fun b u hb => ?_, fun i u hi => ?_, S.lA, S.lO, fun i c hc => ?_, S.nd, fun x hx => ?_, S.ln⟩⟩
  · by_cases e : b = a
    · subst e
      exact (upd_same.trans (upd_same.symm.trans hb))
    · exact S1.gh b u ((upd_ne e).symm.trans hb)
  · by_cases e : b = a
    · subst e
      exact .inl (upd_same.trans (upd_same.symm.trans hb))
    · have hb' : W.F b = some u := (upd_ne e).symm.trans hb
      rcases S.fg b u hb' with h1 | ⟨⟨d, h1⟩, h2⟩
      · exact .inl ((upd_ne e).trans h1)
      · exact .inr ⟨⟨d, (upd_ne e).trans h1⟩, h2⟩
  · obtain ⟨v, h1, h2⟩ := S1.env i u hi
    exact ⟨v, h1, h2.go g2⟩
  · obtain ⟨b, fp, h1, h2, h3⟩ := S1.mem i c hc
    exact ⟨b, fp, h1, h2, h3.frame (fun _ _ => rfl) (TEx.refl _) eF⟩
  · have hx' : x ≠ a := fun e => S.onone h (e ▸ hx)
    exact ⟨(upd_ne hx').trans (S.own x hx).1, (S1.own x hx).2⟩
end
end Is

/-! Ic: cells; views; judgements. -/
namespace Is
open PySem PySem.Spec PyProof.Rows L2 Wx
open Ir (Tr Cel Mem Ev EK SK Con Tg Op Cm I Sm wp wps)
section
variable {B : Bs} {W W' : Wd} {σ σ' : L2.St} {ρ ρ' : Ev} {μ : Mem}
theorem flat_get {O : List (List Addr)} {i : Nat} {fp : List Addr} (h : O[i]? = some fp) {x} (hx : x ∈ fp) : x ∈ O.flatten := List.mem_flatten.mpr ⟨fp, List.mem_of_getElem? h, hx⟩
/-- two cells stand apart -/
theorem nd_apart : ∀ {O : List (List Addr)} {i j : Nat} {fp fq : List Addr} {x : Addr}, O.flatten.Nodup → O[i]? = some fp → O[j]? = some fq → x ∈ fp → x ∈ fq → i = j
  | [], i, j, fp, fq, x, _, h, _, _, _ => by simp at h
  | o :: O, i, j, fp, fq, x, nd, hi, hj, hx, hy => by
    rw [List.flatten_cons, List.nodup_append] at nd
    obtain ⟨n1, n2, n3⟩ := nd
    match i, j with
    | 0, 0 => rfl
    | 0, j + 1 =>
      simp at hi hj; subst hi
      exact absurd rfl (n3 x hx x (flat_get hj hy))
    | i + 1, 0 =>
      simp at hi hj; subst hj
      exact absurd rfl (n3 x hy x (flat_get hi hx))
    | i + 1, j + 1 =>
      simp at hi hj
      rw [nd_apart n2 hi hj hx hy]
theorem mem_set_flat {O : List (List Addr)} {j : Nat} {fq : List Addr} {x : Addr} (h : x ∈ (O.set j fq).flatten) : x ∈ fq ∨ ∃ (i : Nat) (fp : List Addr), i ≠ j ∧ O[i]? = some fp ∧ x ∈ fp := by
  obtain ⟨l, hl, hx⟩ := List.mem_flatten.mp h
  obtain ⟨i, hi⟩ := List.mem_iff_getElem?.mp hl
  by_cases e : j = i
  · subst e
    have hlt : j < O.length := by
      have := (List.getElem?_eq_some_iff.mp hi).1
      rwa [List.length_set] at this
    rw [List.getElem?_set_self hlt] at hi
    cases hi
    exact .inl hx
  · rw [List.getElem?_set_ne e] at hi
    exact .inr ⟨i, l, fun z => e z.symm, hi, hx⟩
theorem nd_set : ∀ {O : List (List Addr)} {j : Nat} {fq : List Addr}, O.flatten.Nodup → fq.Nodup → (∀ (i : Nat) (fp : List Addr), i ≠ j → O[i]? = some fp → ∀ x ∈ fp, x ∉ fq) → (O.set j fq).flatten.Nodup
  | [], j, fq, nd, _, _ => by simp
  | o :: O, 0, fq, nd, nq, h => by
    rw [List.flatten_cons, List.nodup_append] at nd
    obtain ⟨n1, n2, n3⟩ := nd
    rw [List.set_cons_zero, List.flatten_cons, List.nodup_append]
    refine ⟨nq, n2, fun x hx y hy e => ?_⟩
    subst e
    obtain ⟨l, hl, hy⟩ := List.mem_flatten.mp hy
    obtain ⟨i, hi⟩ := List.mem_iff_getElem?.mp hl
    exact h (i + 1) l (by omega) (by simpa using hi) x hy hx
  | o :: O, j + 1, fq, nd, nq, h => by
    rw [List.flatten_cons, List.nodup_append] at nd
    obtain ⟨n1, n2, n3⟩ := nd
    rw [List.set_cons_succ, List.flatten_cons, List.nodup_append]
    refine ⟨n1, nd_set n2 nq fun i fp hi hf => h (i + 1) fp (by omega) (by simpa using hf), fun x hx y hy e => ?_⟩
    subst e
    rcases mem_set_flat hy with hq | ⟨i, fp, hi, hf, hxf⟩
    · exact h 0 o (by omega) (by simp) x hx hq
    · exact n3 x hx x (flat_get hf hxf) rfl
/-- the cell at j changes: the heap elsewhere stays; what it owns now was its own or is new -/
theorem Sa.cellU (S : Sa B W σ ρ μ) {j : Nat} {a fp fq c' H'} (ha : W.A[j]? = some a) (hO : W.O[j]? = some fp) (h : ∀ x, x ∉ fp → W.H x ≠ none → H' x = W.H x) (t : TEx W.H H')
    (hq : fq.Nodup) (hqn : ∀ x ∈ fq, (x ∈ fp ∨ W.H x = none) ∧ H' x ≠ none) (hc : Rc B H' W.F a fq c') :
    Go W { W with O := W.O.set j fq, H := H' } ∧ Sa B { W with O := W.O.set j fq, H := H' } σ ρ (μ.set j c') := by
  have gg : Go W { W with O := W.O.set j fq, H := H' } := ⟨Ex.refl _, Ex.refl _, t, fun _ _ h => h, fun _ _ h => h⟩
  have hlt : j < μ.length := by
    rw [← S.lA]
    exact (List.getElem?_eq_some_iff.mp ha).1
  have hltO : j < W.O.length := by rw [S.lO]; exact hlt
  have apart : ∀ (i : Nat) (fr : List Addr), i ≠ j → W.O[i]? = some fr → ∀ x ∈ fr, x ∉ fp ∧ x ∉ fq := fun i fr hi hf x hx => by
    have n1 : x ∉ fp := fun hp => hi (nd_apart S.nd hf hO hx hp)
    refine ⟨n1, fun hxq => ?_⟩
    rcases (hqn x hxq).1 with h1 | h1
    · exact n1 h1
    · exact (S.own x (flat_get hf hx)).2 h1
  refine ⟨gg, ⟨fun x o hx => ?_, S.fg, fun i u hi => ?_, by rw [List.length_set]; exact S.lA, by rw [List.length_set, List.length_set]; exact S.lO, fun i d hd => ?_, ?_, fun x hx => ?_, S.ln⟩⟩
  · have h1 := S.gh x o hx
    rw [show ({ W with O := W.O.set j fq, H := H' } : Wd).H x = W.H x from h x (fun hp => ?_) (by rw [h1]; exact fun z => nomatch z)]
    · exact h1
    · have := (S.own x (flat_get hO hp)).1
      rw [this] at hx
      cases hx
  · obtain ⟨v, h1, h2⟩ := S.env i u hi
    exact ⟨v, h1, h2.go gg⟩
  · by_cases e : j = i
    · subst e
      rw [List.getElem?_set_self hlt] at hd
      cases hd
      exact ⟨a, fq, ha, List.getElem?_set_self hltO, hc⟩
    · rw [List.getElem?_set_ne e] at hd
      obtain ⟨b, fr, h1, h2, h3⟩ := S.mem i d hd
      refine ⟨b, fr, h1, (List.getElem?_set_ne e).trans h2, h3.frame (fun x hx => h x (apart i fr (fun z => e z.symm) h2 x hx).1 (S.own x (flat_get h2 hx)).2) t (Ex.refl _)⟩
  · exact nd_set S.nd hq fun i fr hi hf x hx => (apart i fr hi hf x hx).2
  · rcases mem_set_flat hx with hx | ⟨i, fr, hi, hf, hx⟩
    · refine ⟨?_, (hqn x hx).2⟩
      rcases (hqn x hx).1 with h1 | h1
      · exact (S.own x (flat_get hO h1)).1
      · exact S.gnone h1
    · have h1 := S.own x (flat_get hf hx)
      refine ⟨h1.1, ?_⟩
      rw [show ({ W with O := W.O.set j fq, H := H' } : Wd).H x = W.H x from h x (apart i fr hi hf x hx).1 h1.2]
      exact h1.2
/-- a new cell -/
theorem Sa.newC (S : Sa B W σ ρ μ) {a fq c H'} (h : ∀ x, W.H x ≠ none → H' x = W.H x) (hq : fq.Nodup) (hqn : ∀ x ∈ fq, W.H x = none ∧ H' x ≠ none) (hc : Rc B H' W.F a fq c) :
    Go W { W with A := W.A ++ [a], O := W.O ++ [fq], H := H' } ∧ Sa B { W with A := W.A ++ [a], O := W.O ++ [fq], H := H' } σ ρ (μ ++ [c]) := by
  have t : TEx W.H H' := fun x xs hx => by rw [h x (by rw [hx]; exact fun z => nomatch z)]; exact hx
  have gg : Go W { W with A := W.A ++ [a], O := W.O ++ [fq], H := H' } := ⟨Ex.refl _, Ex.refl _, t, fun _ _ h => h, fun i x hx => by rw [show ({ W with A := W.A ++ [a], O := W.O ++ [fq], H := H' } : Wd).A = W.A ++ [a] from rfl, List.getElem?_append_left (List.getElem?_eq_some_iff.mp hx).1]; exact hx⟩
  refine ⟨gg, ⟨fun x o hx => ?_, S.fg, fun i u hi => ?_, by simp [S.lA], by simp [S.lO], fun i d hd => ?_, ?_, fun x hx => ?_, S.ln⟩⟩
  · have h1 := S.gh x o hx
    exact (h x (by rw [h1]; exact fun z => nomatch z)).trans h1
  · obtain ⟨v, h1, h2⟩ := S.env i u hi
    exact ⟨v, h1, h2.go gg⟩
  · by_cases hi : i < μ.length
    · rw [List.getElem?_append_left hi] at hd
      obtain ⟨b, fr, h1, h2, h3⟩ := S.mem i d hd
      exact ⟨b, fr, (List.getElem?_append_left (by rw [S.lA]; exact hi)).trans h1, (List.getElem?_append_left (by rw [S.lO]; exact hi)).trans h2, h3.frame (fun x hx => h x (S.own x (flat_get h2 hx)).2) t (Ex.refl _)⟩
    · have e : i = μ.length := by
        have := (List.getElem?_eq_some_iff.mp hd).1
        simp at this
        omega
      subst e
      rw [List.getElem?_append_right (Nat.le_refl _), Nat.sub_self] at hd
      cases hd
      refine ⟨a, fq, ?_, ?_, hc⟩
      · rw [show ({ W with A := W.A ++ [a], O := W.O ++ [fq], H := H' } : Wd).A = W.A ++ [a] from rfl, ← S.lA, List.getElem?_append_right (Nat.le_refl _), Nat.sub_self]; rfl
      · rw [show ({ W with A := W.A ++ [a], O := W.O ++ [fq], H := H' } : Wd).O = W.O ++ [fq] from rfl, ← S.lO, List.getElem?_append_right (Nat.le_refl _), Nat.sub_self]; rfl
  · show (W.O ++ [fq]).flatten.Nodup
    rw [List.flatten_append, List.flatten_singleton, List.nodup_append]
    exact ⟨S.nd, hq, fun x hx y hy e => by subst e; exact (S.own x hx).2 (hqn x hy).1⟩
  · have hx' : x ∈ (W.O ++ [fq]).flatten := hx
    rw [List.flatten_append, List.flatten_singleton, List.mem_append] at hx'
    rcases hx' with hx | hx
    · have h1 := S.own x hx
      exact ⟨h1.1, by rw [show ({ W with A := W.A ++ [a], O := W.O ++ [fq], H := H' } : Wd).H x = W.H x from h x h1.2]; exact h1.2⟩
    · exact ⟨S.gnone (hqn x hx).1, (hqn x hx).2⟩
/-- cells by continuations -/
theorem celK_at {μ : Mem} {i : Nat} {k : Cel → Prop} (h : Ir.celK μ i k) : ∃ c, μ[i]? = some c ∧ k c := by
  induction μ generalizing i with
  | nil => exact h.elim
  | cons c r ih =>
    cases i with
    | zero => exact ⟨c, rfl, h⟩
    | succ i => exact ih h
theorem cputK_at {μ : Mem} {i : Nat} {c : Cel} {k : Mem → Prop} (h : Ir.cputK μ i c k) : k (μ.set i c) := by
  induction μ generalizing i k with
  | nil => exact h.elim
  | cons d r ih =>
    cases i with
    | zero => exact h
    | succ i => exact ih h
theorem snocK_at {μ : Mem} {n : Nat} {c : Cel} {k : Nat → Mem → Prop} (h : Ir.snocK μ n c k) : k (n + μ.length) (μ ++ [c]) := by
  induction μ generalizing n k with
  | nil => exact h
  | cons d r ih =>
    have := ih h
    rw [List.length_cons, List.cons_append]
    rw [show n + (r.length + 1) = n + 1 + r.length by omega]
    exact this
theorem getK_at {ρ : Ev} {i : Nat} {k : Tr → Prop} (h : Ir.getK ρ i k) : ∃ t, ρ[i]? = some (some t) ∧ k t := by
  induction ρ generalizing i with
  | nil => exact h.elim
  | cons c r ih =>
    cases i with
    | zero =>
      cases c with
      | none => exact h.elim
      | some t => exact ⟨t, rfl, h⟩
    | succ i => exact ih h
theorem setK_at {ρ : Ev} {i : Nat} {t : Tr} {k : Ev → Prop} (h : Ir.setK ρ i t k) : k (ρ.set i (some t)) := by
  induction ρ generalizing i k with
  | nil => exact h.elim
  | cons d r ih =>
    cases i with
    | zero => exact h
    | succ i => exact ih h
theorem Sa.set (S : Sa B W σ ρ μ) {i : Nat} {v : V} {t : Tr} (r : Rp B W v t) : Sa B W (σ.set i (some v)) (ρ.set i (some t)) μ := S.sub (by rw [List.length_set, List.length_set]; exact S.ln) fun j u hj => by
  by_cases e : i = j
  · subst e
    have hlt : i < ρ.length := by
      have := (List.getElem?_eq_some_iff.mp hj).1
      rwa [List.length_set] at this
    rw [List.getElem?_set_self hlt] at hj
    cases hj
    exact ⟨v, List.getElem?_set_self (by rw [← S.ln]; exact hlt), r⟩
  · rw [List.getElem?_set_ne e] at hj
    obtain ⟨w, h1, h2⟩ := S.env j u hj
    exact ⟨w, (List.getElem?_set_ne e).trans h1, h2⟩
/-! ### views -/
/-- a value as it is just now -/
def Rw (B : Bs) (W : Wd) (v : V) : Tr → Prop
  | .lst ts => ∃ a vs, v = .ref a ∧ SqL B.K W.H a vs ∧ Rvs B W.H W.F vs ts
  | .dic false kvs => ∃ a us, v = .ref a ∧ Rd W.H a (.dK us) ∧ us.map (fun p => kTr p.1) = kvs.map Prod.fst ∧ Rvs B W.H W.F (us.map Prod.snd) (kvs.map Prod.snd)
  | .dic true kvs => ∃ a, v = .ref a ∧ ((∃ us, Rd W.H a (.dT us) ∧ us.map (fun p => kTs p.1) = kvs.map Prod.fst ∧ Rvs B W.H W.F (us.map Prod.snd) (kvs.map Prod.snd)) ∨ ∃ us, Rd W.H a (DXO B.w a us) ∧ KvX B W.H W.F us kvs)
  | t => Rv B W.H W.F v t
theorem Rv.rw {v t} (S : Sa B W σ ρ μ) (r : Rv B W.H W.F v t) : Rw B W v t := by
  cases t with
  | lst ts => cases r with | lst h hs => exact ⟨_, _, rfl, S.lst h, hs⟩
  | dic b kvs =>
    cases r with
    | dK h k hs => exact ⟨_, _, rfl, S.fh h, k, hs⟩
    | dT h k hs => exact ⟨_, rfl, .inl ⟨_, S.fh h, k, hs⟩⟩
    | dX h k n ks hs => exact ⟨_, rfl, .inr ⟨_, S.fh h, k, n, ks, hs⟩⟩
  | _ => exact r
theorem Rp.view {v t} {k : Tr → Prop} (S : Sa B W σ ρ μ) (r : Rp B W v t) (h : Ir.tv μ t k) : ∃ t', Rw B W v t' ∧ k t' := by
  rcases r with r | ⟨i, a, rfl, rfl, ha⟩
  · cases t with
    | ptr i => exact r.noptr.elim
    | _ => exact ⟨_, r.rw S, h⟩
  · obtain ⟨c, hc, h⟩ := celK_at h
    obtain ⟨b, fp, h1, h2, h3⟩ := S.mem i c hc
    rw [ha] at h1
    cases h1
    cases c with
    | lst ts =>
      obtain ⟨_, vs, h4, h5⟩ := h3
      exact ⟨.lst ts, ⟨a, vs, rfl, sq_of h4, h5⟩, h⟩
    | dic b kvs =>
      cases b with
      | false =>
        obtain ⟨_, us, h4, h5⟩ := h3
        exact ⟨.dic false kvs, ⟨a, us, rfl, .of h4, h5⟩, h⟩
      | true =>
        obtain ⟨_, us, h4, h5⟩ := h3
        exact ⟨.dic true kvs, ⟨a, rfl, .inr ⟨us, .of h4, h5⟩⟩, h⟩
    | _ => exact h.elim
end
end Is

/-! Id: judgements; expressions. -/
namespace Is
open PySem PySem.Spec PyProof.Rows L2 Wx
open Ir (Tr Cel Mem Ev EK SK Con Tg Op Cm I Sm wp wps)
abbrev XB (X : Cx) (c : Nat → Addr) : Bs := ⟨X.K, c, X.w⟩
structure Cf (X : Cx) (n : Nat) : Prop where
  calm : X.calm = true
  nd : X.N.Nodup
  r : Room n X.A
theorem Cf.hu {X n} (f : Cf X n) : X.A.units + 200 < cLine := by have := f.r.un; omega
theorem Cf.hu64 {X n} (f : Cf X n) : X.A.units + 64 < cLine := by have := f.hu; omega
/-- an exception by its tree -/
def Rx (B : Bs) (W : Wd) (cls : Value) (d : Option Addr) (t : Tr) : Prop := ∃ c fs, t = .obj c fs ∧ cls = .ref (B.cl c) ∧
  ((fs = [] ∧ d = none) ∨ ∃ dx fvs, d = some dx ∧ W.H dx = some (.xd fvs) ∧ fvs.map Prod.fst = fs.map fN ∧ Rvs B W.H W.F (fvs.map Prod.snd) (fs.map Prod.snd))
def xW (B : Bs) (W : Wd) (σ : L2.St) (ρ : Ev) (ε : EK) : WX := fun cls d σ' H' => σ' = σ ∧ ∃ W' t μ', W'.H = H' ∧ Go W W' ∧ Sa B W' σ ρ μ' ∧ Rx B W' cls d t ∧ ε t μ'
section
variable {X : Cx} {c : Nat → Addr}
theorem tk_go {W W1 : Wd} {σ ρ ε} (g : Go W W1) (t : Takes X (xW (XB X c) W σ ρ ε)) : Takes X (xW (XB X c) W1 σ ρ ε) :=
  t.imp fun cls d σ' H' ⟨e, W', u, μ', h1, h2, h3⟩ => ⟨e, W', u, μ', h1, g.trans h2, h3⟩
theorem tk_no {W : Wd} {σ ρ} : Takes X (xW (XB X c) W σ ρ (fun _ _ => False)) := fun u s' ⟨_, _, _, _, _, _, _, _, _, _, _, _, _, _, _, _, _, _, _, _, _, _, _, _, h⟩ => h.elim
/-! ### judgements -/
def JE (X : Cx) (c : Nat → Addr) (e : Expr) (ρ : Ev) (μ : Mem) (φ ε : EK) : Prop := ∀ W σ (Q : VK), Sa (XB X c) W σ ρ μ →
  (∀ W' v t μ', Go W W' → Sa (XB X c) W' σ ρ μ' → Rp (XB X c) W' v t → φ t μ' → Q v W'.H) → Takes X (xW (XB X c) W σ ρ ε) → WE X e σ W.H Q
def PJ (X : Cx) (c : Nat → Addr) (e : Expr) (i : I) : Prop := ∀ ρ μ φ ε, wp i ρ μ φ ε → JE X c e ρ μ φ ε
/-- a test -/
def PT (X : Cx) (c : Nat → Addr) (e : Expr) (i : I) : Prop := ∀ ρ μ φ ε, wp i ρ μ φ ε → (∀ t μ, φ t μ → ∃ b, t = .bl b) → ∀ W σ (Q : Bool → Hp → Prop), Sa (XB X c) W σ ρ μ →
  (∀ W' b μ', Go W W' → Sa (XB X c) W' σ ρ μ' → φ (.bl b) μ' → Q b W'.H) → Takes X (xW (XB X c) W σ ρ ε) → WT X e σ W.H Q
def PW (X : Cx) (c : Nat → Addr) (e : Expr) (i : I) : Prop := ∀ ρ μ φ ε, wp i ρ μ φ ε → (∀ t μ, φ t μ → ∃ b, t = .bl b) → ∀ W σ (Q : Bool → Hp → Prop), Sa (XB X c) W σ ρ μ →
  (∀ W' b μ', Go W W' → Sa (XB X c) W' σ ρ μ' → φ (.bl b) μ' → Q b W'.H) → Takes X (xW (XB X c) W σ ρ ε) → WW X e σ W.H Q
/-- arguments -/
def PA (X : Cx) (c : Nat → Addr) (es : List Expr) (i : I) : Prop := ∀ ρ μ (ψ : List Tr → Mem → Prop) ε, wp i ρ μ (fun y μ => match y with | .tup xs => ψ xs μ | _ => False) ε → ∀ W σ (Q : List V → Hp → Prop), Sa (XB X c) W σ ρ μ →
  (∀ W' vs ts μ', Go W W' → Sa (XB X c) W' σ ρ μ' → Rps (XB X c) W' vs ts → ψ ts μ' → Q vs W'.H) → Takes X (xW (XB X c) W σ ρ ε) → WA X es σ W.H Q
def PN (X : Cx) (c : Nat → Addr) (e : Expr) (i : I) : Prop := ∀ ρ μ φ ε, wp i ρ μ φ ε → ∀ W σ (Q : VK), Sa (XB X c) W σ ρ μ →
  (∀ W' p vs ts μ', Go W W' → Sa (XB X c) W' σ ρ μ' → W'.H p = none → Rvs (XB X c) W'.H W'.F vs ts → φ (.lst ts) μ' → Q (.ref p) (upd W'.H p (.lst vs))) →
  (∀ W' p us kvs μ', Go W W' → Sa (XB X c) W' σ ρ μ' → W'.H p = none → us.map (fun q => kTr q.1) = kvs.map Prod.fst → Rvs (XB X c) W'.H W'.F (us.map Prod.snd) (kvs.map Prod.snd) → φ (.dic false kvs) μ' → Q (.ref p) (upd W'.H p (.dK us))) →
  (∀ W' p us kvs μ', Go W W' → Sa (XB X c) W' σ ρ μ' → W'.H p = none → True → KvX (XB X c) W'.H W'.F us kvs → φ (.dic true kvs) μ' → Q (.ref p) (upd W'.H p (DXO X.w p us))) →
  Takes X (xW (XB X c) W σ ρ ε) → WE X e σ W.H Q
/-! ### names, constants -/
theorem pj_nm {x : Str} {pos : Pos} {i : Nat} (hi : X.N[i]? = some x) (hv : Vis X.env.scope x := by first | exact Or.inl rfl | exact Or.inr (Or.inl rfl) | exact Or.inr (Or.inr rfl)) (hd : (x == ("__debug__" : Str)) = false := by decide)
    (hcd : (x == ("__classdict__" : Str)) = false := by decide) : PJ X c (.Name x pos) (.nm i) := fun ρ μ φ ε h W σ Q S k tk => by
  obtain ⟨t, h1, h2⟩ := getK_at h
  obtain ⟨v, h3, h4⟩ := S.env i t h1
  exact WE.of (pe_var hi hv hd hcd) ⟨v, h3, k W v t μ Go.refl S h4 h2⟩
theorem pj_int {i j pos} : PJ X c (.Constant (.int i) j pos) (.c (.int i)) := fun ρ μ φ ε h W σ Q S k tk => we_int (k W _ _ μ Go.refl S (.inl (.int i)) h)
theorem pj_str {x l j pos} (e : x = S l) : PJ X c (.Constant (.str x) j pos) (.c (.str l)) := fun ρ μ φ ε h W σ Q S k tk => we_strE e (k W _ _ μ Go.refl S (.inl (.str l)) h)
theorem pj_bl {b j pos} : PJ X c (.Constant (.bool b) j pos) (.c (.bl b)) := fun ρ μ φ ε h W σ Q S k tk => we_bl (k W _ _ μ Go.refl S (.inl (.bl b)) h)
theorem pj_non {j pos} : PJ X c (.Constant .none j pos) (.c .non) := fun ρ μ φ ε h W σ Q S k tk => we_non (k W _ _ μ Go.refl S (.inl .non) h)
/-! ### arguments -/
theorem pa_nil : PA X c [] .nil := fun ρ μ ψ ε h W σ Q S k tk => wa_nil (k W _ _ μ Go.refl S .nil h)
theorem pa_cons {e es a b} (ha : PJ X c e a) (hb : PA X c es b) (hs : starEach (e :: es) X.env = (false, eval e X.env) :: starEach es X.env := by rfl) : PA X c (e :: es) (.cons a b) := fun ρ μ ψ ε h W σ Q S k tk => by
  refine wa_cons (ha ρ μ _ ε h W σ _ S (fun W1 v1 t1 μ1 g1 S1 r1 h1 => ?_) tk) hs
  refine hb ρ μ1 (fun xs μ => ψ (t1 :: xs) μ) ε ?_ W1 σ _ S1 (fun W2 vs ts μ2 g2 S2 r2 h2 => k W2 _ _ μ2 (g1.trans g2) S2 (.cons (r1.go g2) r2) h2) (tk_go g1 tk)
  refine cast (congrArg (fun z => wp b ρ μ1 z ε) ?_) h1
  funext y μ'
  cases y <;> rfl
/-! ### operators -/
def opOf : Op → Operator
  | .add => .Add
  | .sub => .Sub
  | .mul => .Mult
  | .fdiv => .FloorDiv
  | .mod => .Mod
theorem opK_ok {o t1 t2 k v1 v2 W σ ρ μ} {Q : VK} (S : Sa (XB X c) W σ ρ μ) (r1 : Rp (XB X c) W v1 t1) (r2 : Rp (XB X c) W v2 t2) (h : Ir.opK o t1 t2 k)
    (q : ∀ W' v t, Go W W' → Sa (XB X c) W' σ ρ μ → Rv (XB X c) W'.H W'.F v t → k t → Q v W'.H) : WO X (binaryOp (opOf o)) v1 v2 W.H Q := by
  unfold Ir.opK at h
  split at h
  · have r1 := r1.rv (by intro i e; cases e); have r2 := r2.rv (by intro i e; cases e)
    cases r1; cases r2
    exact wo_add (q W _ _ Go.refl S (.int _) h)
  · have r1 := r1.rv (by intro i e; cases e); have r2 := r2.rv (by intro i e; cases e)
    cases r1; cases r2
    obtain ⟨hz, h⟩ := Ir.szK_le h
    exact wo_addSS hz (q W _ _ Go.refl S (.str _) h)
  · have r1 := r1.rv (by intro i e; cases e); have r2 := r2.rv (by intro i e; cases e)
    cases r1 with
    | tup h1 s1 =>
      cases r2 with
      | tup h2 s2 =>
        obtain ⟨hz, h⟩ := Ir.szK_le h
        have l1 := s1.length
        have l2 := s2.length
        have e1 : ∀ {vs : List V} {t : Tr} {ts : List Tr}, Rvs (XB X c) W.H W.F vs (t :: ts) → vs ≠ [] := fun r e => by subst e; cases r
        refine WO.of op_catT ⟨_, _, _, _, rfl, rfl, h1.sq, h2.sq, e1 s1, sz_le (by rw [l1, l2]; exact hz), fun e => ?_, fun _ p hp => ?_⟩
        · subst e
          cases s2
          rw [List.append_nil] at h
          exact q W _ _ Go.refl S (.tup h1 s1) h
        · obtain ⟨g, S'⟩ := S.fresh (o := .tup _) hp
          exact q _ _ _ g S' (.tup (.inl upd_same) ((s1.app s2).mono g.t g.f)) h
  · have r1 := r1.rv (by intro i e; cases e); have r2 := r2.rv (by intro i e; cases e)
    cases r1; cases r2
    exact wo_sub (q W _ _ Go.refl S (.int _) h)
  · have r1 := r1.rv (by intro i e; cases e); have r2 := r2.rv (by intro i e; cases e)
    cases r1; cases r2
    refine wo_mul (.inl ⟨by omega, by omega⟩) (q W _ _ Go.refl S (.int _) h.2)
  · have r1 := r1.rv (by intro i e; cases e); have r2 := r2.rv (by intro i e; cases e)
    cases r1; cases r2
    obtain ⟨h0, h⟩ := h
    obtain ⟨z1, h⟩ := Ir.szK_le h
    obtain ⟨z2, h⟩ := Ir.szK_le h
    obtain ⟨z3, h⟩ := Ir.szK_le h
    have e := Int.toNat_of_nonneg h0
    rw [← e]
    exact wo_mulSI z3 z1 z2 (q W _ _ Go.refl S (.str _) h)
  · have r1 := r1.rv (by intro i e; cases e); have r2 := r2.rv (by intro i e; cases e)
    cases r1; cases r2
    obtain ⟨h0, h⟩ := h
    obtain ⟨z1, h⟩ := Ir.szK_le h
    obtain ⟨z2, h⟩ := Ir.szK_le h
    obtain ⟨z3, h⟩ := Ir.szK_le h
    have e := Int.toNat_of_nonneg h0
    rw [← e]
    exact wo_mulIS z3 z1 z2 (q W _ _ Go.refl S (.str _) h)
  · have r1 := r1.rv (by intro i e; cases e); have r2 := r2.rv (by intro i e; cases e)
    cases r1; cases r2
    exact wo_fdiv ⟨h.1.1, h.1.2⟩ (q W _ _ Go.refl S (.int _) h.2)
  · have r1 := r1.rv (by intro i e; cases e); have r2 := r2.rv (by intro i e; cases e)
    cases r1; cases r2
    exact wo_mod h.1 (q W _ _ Go.refl S (.int _) h.2)
  · exact h.elim
theorem pj_op {o a b x y pos} (ha : PJ X c a x) (hb : PJ X c b y) : PJ X c (.BinOp a (opOf o) b pos) (.op o x y) := fun ρ μ φ ε h W σ Q S k tk =>
  we_op (ha ρ μ _ ε h W σ _ S (fun W1 v1 t1 μ1 g1 S1 r1 h1 => hb ρ μ1 _ ε h1 W1 σ _ S1 (fun W2 v2 t2 μ2 g2 S2 r2 h2 =>
    opK_ok S2 (r1.go g2) r2 h2 fun W' v t g S' r h' => k W' v t μ2 ((g1.trans g2).trans g) S' (.inl r) h') (tk_go g1 tk)) tk)
end
end Is

/-! Ie: comparisons, subscripts. -/
namespace Is
open PySem PySem.Spec PyProof.Rows L2 Wx
open Ir (Tr Cel Mem Ev EK SK Con Tg Op Cm I Sm wp wps)
/-! ### data -/
mutual
def dat : Tr → PyData
  | .non => .none
  | .bl b => .bool b
  | .int i => .int i
  | .str l => .str (S l)
  | .tup ts => .tuple (dats ts)
  | .lst ts => .list (dats ts)
  | .ktup ts => .tuple (dats ts)
  | _ => .none
def dats : List Tr → List PyData
  | [] => []
  | t :: ts => dat t :: dats ts
end
section
variable {X : Cx} {c : Nat → Addr} {W : Wd} {σ : L2.St} {ρ : Ev} {μ : Mem}
theorem S_beq (l m : List Nat) : (S l == S m) = decide (l = m) := by
  rw [← SeqAt.str_beq, S_list, S_list, Bool.eq_iff_iff]
  simp
theorem okS_ok {l : List Nat} (h : Ir.okS l = true) : PyData.strOk (S l) = true := by
  unfold PyData.strOk S
  unfold Ir.okS at h
  rw [List.all_eq_true] at h
  rw [show (⟨l.toArray⟩ : Str).cps = l.toArray from rfl, List.all_toArray, List.all_eq_true]
  intro x hx
  have := h x hx
  have h2 : x < 55296 := Nat.le_of_ble_eq_true this
  exact decide_eq_true (Nat.lt_of_lt_of_le h2 (by decide))
mutual
theorem dat_shape : ∀ (n : Nat) (t : Tr), Ir.isD n t = true → (dat t).canLay0 = true ∧ (dat t).depth ≤ n
  | _, .non, _ => ⟨rfl, Nat.zero_le _⟩
  | _, .bl _, _ => ⟨rfl, Nat.zero_le _⟩
  | _, .int _, _ => ⟨rfl, Nat.zero_le _⟩
  | n, .str l, h => ⟨okS_ok (by unfold Ir.isD at h; exact h), Nat.zero_le _⟩
  | 0, .tup ts, h => by unfold Ir.isD at h; cases h
  | n + 1, .tup ts, h => by
    unfold Ir.isD at h
    have := dats_shape n ts h
    exact ⟨this.1, Nat.succ_le_succ this.2⟩
  | 0, .lst ts, h => by unfold Ir.isD at h; cases h
  | n + 1, .lst ts, h => by
    unfold Ir.isD at h
    have := dats_shape n ts h
    exact ⟨this.1, Nat.succ_le_succ this.2⟩
  | n, .ty _, h => by unfold Ir.isD at h; cases h
  | n, .dic _ _, h => by unfold Ir.isD at h; cases h
  | n, .obj _ _, h => by unfold Ir.isD at h; cases h
  | n, .ptr _, h => by unfold Ir.isD at h; cases h
  | 0, .ktup ts, h => by unfold Ir.isD at h; cases h
  | n + 1, .ktup ts, h => by
    unfold Ir.isD at h
    have := dats_shape n ts h
    exact ⟨this.1, Nat.succ_le_succ this.2⟩
  | n, .scr _, h => by unfold Ir.isD at h; cases h
  | n, .cls _, h => by unfold Ir.isD at h; cases h
theorem dats_shape : ∀ (n : Nat) (ts : List Tr), Ir.isDs n ts = true → PyData.canLayAll0 (dats ts) = true ∧ PyData.depthAll (dats ts) ≤ n
  | _, [], _ => ⟨rfl, Nat.zero_le _⟩
  | n, t :: ts, h => by
    unfold Ir.isDs at h
    rw [Bool.and_eq_true] at h
    have h1 := dat_shape n t h.1
    have h2 := dats_shape n ts h.2
    refine ⟨?_, ?_⟩
    · show (PyData.canLay0 (dat t) && PyData.canLayAll0 (dats ts)) = true
      rw [h1.1, h2.1]
      rfl
    · show max (dat t).depth (PyData.depthAll (dats ts)) ≤ n
      omega
end
theorem dat_shaped {n : Nat} {t : Tr} (h : Ir.isD n t = true) (hn : n ≤ 64) : SeqAt.shaped (dat t) = true := by
  have := dat_shape n t h
  unfold SeqAt.shaped
  rw [this.1, decide_eq_true (Nat.le_trans this.2 hn)]
  rfl
theorem dats_shapedL {n : Nat} {ts : List Tr} (h : Ir.isDs n ts = true) (hn : n < 64) : SeqAt.shaped (.list (dats ts)) = true := by
  have := dats_shape n ts h
  unfold SeqAt.shaped
  rw [show PyData.canLay0 (.list (dats ts)) = true from this.1, decide_eq_true (show PyData.depth (.list (dats ts)) ≤ 64 from Nat.le_trans (Nat.succ_le_succ this.2) hn)]
  rfl
mutual
theorem eqT_eqv : ∀ (n m : Nat) (a b : Tr), Ir.isD n a = true → Ir.isD m b = true → Ir.eqT a b = PyData.eqv (dat a) (dat b)
  | n, m, a, b, ha, hb => by
    cases a with
    | ty _ => unfold Ir.isD at ha; cases ha
    | dic _ _ => unfold Ir.isD at ha; cases ha
    | obj _ _ => unfold Ir.isD at ha; cases ha
    | ptr _ => unfold Ir.isD at ha; cases ha
    | scr _ => unfold Ir.isD at ha; cases ha
    | cls _ => unfold Ir.isD at ha; cases ha
    | tup as | ktup as =>
      cases b with
      | ty _ => unfold Ir.isD at hb; cases hb
      | dic _ _ => unfold Ir.isD at hb; cases hb
      | obj _ _ => unfold Ir.isD at hb; cases hb
      | ptr _ => unfold Ir.isD at hb; cases hb
      | scr _ => unfold Ir.isD at hb; cases hb
      | cls _ => unfold Ir.isD at hb; cases hb
      | tup bs | ktup bs =>
        cases n with
        | zero => unfold Ir.isD at ha; cases ha
        | succ n =>
          cases m with
          | zero => unfold Ir.isD at hb; cases hb
          | succ m =>
            unfold Ir.isD at ha hb
            have := eqTs_eqv n m as bs ha hb
            unfold Ir.eqT dat PyData.eqv
            exact this
      | _ => unfold Ir.eqT dat PyData.eqv; rfl
    | lst as =>
      cases b with
      | ty _ => unfold Ir.isD at hb; cases hb
      | dic _ _ => unfold Ir.isD at hb; cases hb
      | obj _ _ => unfold Ir.isD at hb; cases hb
      | ptr _ => unfold Ir.isD at hb; cases hb
      | scr _ => unfold Ir.isD at hb; cases hb
      | cls _ => unfold Ir.isD at hb; cases hb
      | lst bs =>
        cases n with
        | zero => unfold Ir.isD at ha; cases ha
        | succ n =>
          cases m with
          | zero => unfold Ir.isD at hb; cases hb
          | succ m =>
            unfold Ir.isD at ha hb
            have := eqTs_eqv n m as bs ha hb
            unfold Ir.eqT dat PyData.eqv
            exact this
      | _ => unfold Ir.eqT dat PyData.eqv; rfl
    | str l =>
      cases b with
      | ty _ => unfold Ir.isD at hb; cases hb
      | dic _ _ => unfold Ir.isD at hb; cases hb
      | obj _ _ => unfold Ir.isD at hb; cases hb
      | ptr _ => unfold Ir.isD at hb; cases hb
      | scr _ => unfold Ir.isD at hb; cases hb
      | cls _ => unfold Ir.isD at hb; cases hb
      | str m =>
        unfold Ir.eqT dat PyData.eqv
        show decide (l = m) = (S l == S m)
        exact (S_beq l m).symm
      | _ => unfold Ir.eqT dat PyData.eqv; rfl
    | _ =>
      cases b with
      | ty _ => unfold Ir.isD at hb; cases hb
      | dic _ _ => unfold Ir.isD at hb; cases hb
      | obj _ _ => unfold Ir.isD at hb; cases hb
      | ptr _ => unfold Ir.isD at hb; cases hb
      | scr _ => unfold Ir.isD at hb; cases hb
      | cls _ => unfold Ir.isD at hb; cases hb
      | _ => unfold Ir.eqT dat PyData.eqv; rfl
theorem eqTs_eqv : ∀ (n m : Nat) (a b : List Tr), Ir.isDs n a = true → Ir.isDs m b = true → Ir.eqTs a b = PyData.eqvAll (dats a) (dats b)
  | n, m, [], [], _, _ => rfl
  | n, m, [], b :: bs, _, _ => rfl
  | n, m, a :: as, [], _, _ => rfl
  | n, m, a :: as, b :: bs, ha, hb => by
    unfold Ir.isDs at ha hb
    rw [Bool.and_eq_true] at ha hb
    have h1 := eqT_eqv n m a b ha.1 hb.1
    have h2 := eqTs_eqv n m as bs ha.2 hb.2
    unfold Ir.eqTs dats PyData.eqvAll
    rw [h1, h2]
end
mutual
theorem Rv.dp (S : Sa (XB X c) W σ ρ μ) : ∀ {n : Nat} {v : V} {t : Tr}, Ir.isD n t = true → Rv (XB X c) W.H W.F v t → Dp X.K W.H v (dat t)
  | _, _, _, _, .non => .non
  | _, _, _, _, .bl b => .bl b
  | _, _, _, _, .int i => .int i
  | _, _, _, _, .str l => .str _
  | n, _, _, h, .ty _ => by unfold Ir.isD at h; cases h
  | 0, _, _, h, .tup _ _ => by unfold Ir.isD at h; cases h
  | n + 1, _, _, h, .tup ht hs => .tup ht.sq (Rvs.dp S (n := n) (by unfold Ir.isD at h; exact h) hs)
  | 0, _, _, h, .kup _ _ => by unfold Ir.isD at h; cases h
  | n + 1, _, _, h, .kup ht hs => .tup (S.kup ht) (Rvs.dp S (n := n) (by unfold Ir.isD at h; exact h) hs)
  | n, _, _, h, .scr _ => by unfold Ir.isD at h; cases h
  | n, _, _, h, .cls _ => by unfold Ir.isD at h; cases h
  | 0, _, _, h, .lst _ _ => by unfold Ir.isD at h; cases h
  | n + 1, _, _, h, .lst ht hs => .lst (S.lst ht) (Rvs.dp S (n := n) (by unfold Ir.isD at h; exact h) hs)
  | n, _, _, h, .dK _ _ _ => by unfold Ir.isD at h; cases h
  | n, _, _, h, .dT _ _ _ => by unfold Ir.isD at h; cases h
  | n, _, _, h, .dX _ _ _ _ _ => by unfold Ir.isD at h; cases h
  | n, _, _, h, .obj _ _ _ _ => by unfold Ir.isD at h; cases h
theorem Rvs.dp (S : Sa (XB X c) W σ ρ μ) : ∀ {n : Nat} {vs : List V} {ts : List Tr}, Ir.isDs n ts = true → Rvs (XB X c) W.H W.F vs ts → DpAll X.K W.H vs (dats ts)
  | _, _, _, _, .nil => .nil
  | n, _, _, h, .cons a b => .cons (Rv.dp S (n := n) (by unfold Ir.isDs at h; exact (Bool.and_eq_true_iff.mp h).1) a) (Rvs.dp S (n := n) (by unfold Ir.isDs at h; exact (Bool.and_eq_true_iff.mp h).2) b)
end
theorem Rw.dp (S : Sa (XB X c) W σ ρ μ) {n : Nat} {v : V} {t : Tr} (h : Ir.isD n t = true) (r : Rw (XB X c) W v t) : Dp X.K W.H v (dat t) := by
  cases t with
  | lst ts =>
    obtain ⟨a, vs, rfl, h1, h2⟩ := r
    cases n with
    | zero => unfold Ir.isD at h; cases h
    | succ n => exact .lst h1 (h2.dp S (n := n) (by unfold Ir.isD at h; exact h))
  | dic _ _ => unfold Ir.isD at h; cases h
  | _ => exact Rv.dp S h r
/-- flat ones -/
def flT : Tr → V
  | .non => .non
  | .bl b => .bl b
  | .int i => .int i
  | .str l => .str (S l)
  | _ => .non
theorem Rv.flat {H F : Hp} {B : Bs} {v : V} {t : Tr} (h : Ir.isF t = true) (r : Rv B H F v t) : v = flT t ∧ flatV v = true := by
  cases r <;> first | exact ⟨rfl, rfl⟩ | cases h
theorem Rvs.flat {H F : Hp} {B : Bs} : ∀ {vs : List V} {ts : List Tr}, ts.all Ir.isF = true → Rvs B H F vs ts → vs = ts.map flT ∧ vs.all flatV = true
  | _, _, _, .nil => ⟨rfl, rfl⟩
  | _, _, h, .cons a b => by
    rw [List.all_cons, Bool.and_eq_true] at h
    obtain ⟨e1, f1⟩ := a.flat h.1
    obtain ⟨e2, f2⟩ := Rvs.flat h.2 b
    refine ⟨by rw [e1, e2]; rfl, ?_⟩
    rw [List.all_cons, f1, f2]
    rfl
theorem eqV_eqT {a b : Tr} (ha : Ir.isF a = true) (hb : Ir.isF b = true) : eqV (flT a) (flT b) = Ir.eqT a b := by
  cases a <;> first | exact absurd ha Bool.false_ne_true | skip
  all_goals (cases b <;> first | exact absurd hb Bool.false_ne_true | skip)
  all_goals first | exact S_beq _ _ | (unfold flT eqV Ir.eqT; rfl)
theorem inV_any {x : Tr} {ts : List Tr} (hx : Ir.isF x = true) (h : ts.all Ir.isF = true) : inV (flT x) (ts.map flT) = ts.any fun t => Ir.eqT t x := by
  unfold inV
  rw [List.any_map]
  induction ts with
  | nil => rfl
  | cons t ts ih =>
    rw [List.all_cons, Bool.and_eq_true] at h
    rw [List.any_cons, List.any_cons, ih h.2]
    show (eqV (flT t) (flT x) || _) = _
    rw [eqV_eqT h.1 hx]
theorem any_dats {x : Tr} {n m : Nat} (hx : Ir.isD n x = true) : ∀ {ts : List Tr}, Ir.isDs m ts = true → ((dats ts).any fun z => PyData.eqv z (dat x)) = ts.any fun t => Ir.eqT t x
  | [], _ => rfl
  | t :: ts, h => by
    unfold Ir.isDs at h
    rw [Bool.and_eq_true] at h
    show (PyData.eqv (dat t) (dat x) || (dats ts).any fun z => PyData.eqv z (dat x)) = _
    rw [any_dats hx h.2, ← eqT_eqv m n t x h.1 hx]
    rfl
end
end Is

/-! If: comparisons, tests. -/
namespace Is
open PySem PySem.Spec PyProof.Rows L2 Wx
open Ir (Tr Cel Mem Ev EK SK Con Tg Op Cm I Sm wp wps)
section
variable {X : Cx} {c : Nat → Addr} {W : Wd} {σ : L2.St} {ρ : Ev} {μ : Mem} {n : Nat}
/-! in a tuple of data -/
theorem op_inTD {X : Cx} (hu : X.A.units + 65 < cLine) : OpR X (compareOp .In) (fun x y H Q => ∃ d ds, Dp X.K H x d ∧ Dp X.K H y (.tuple ds) ∧ SeqAt.shaped d = true ∧ SeqAt.shaped (.list ds) = true ∧ Q (.bl (ds.any fun z => PyData.eqv z d)) H) := by
  intro pins s σ H x y v u Q I rx ry h
  obtain ⟨d, ds, hd, he, sd, se, q⟩ := h
  obtain ⟨as, r1⟩ := Dp.reads I d x v hd rx
  obtain ⟨bs, r2⟩ := Dp.reads I (.tuple ds) y u he ry
  exact SeqAt.in_tuple_reads r2 r1 (SeqAt.canLay_of_shaped (d := .list ds) se) (SeqAt.canLay_of_shaped sd) (room_in_shaped sd hu) ⟨.bl _, H, I, rfl, q⟩
theorem op_notInTD {X : Cx} (hu : X.A.units + 65 < cLine) : OpR X (compareOp .NotIn) (fun x y H Q => ∃ d ds, Dp X.K H x d ∧ Dp X.K H y (.tuple ds) ∧ SeqAt.shaped d = true ∧ SeqAt.shaped (.list ds) = true ∧ Q (.bl (!ds.any fun z => PyData.eqv z d)) H) := by
  intro pins s σ H x y v u Q I rx ry h
  obtain ⟨d, ds, hd, he, sd, se, q⟩ := h
  obtain ⟨as, r1⟩ := Dp.reads I d x v hd rx
  obtain ⟨bs, r2⟩ := Dp.reads I (.tuple ds) y u he ry
  exact SeqAt.notIn_tuple_reads r2 r1 (SeqAt.canLay_of_shaped (d := .list ds) se) (SeqAt.canLay_of_shaped sd) (room_in_shaped sd hu) ⟨.bl _, H, I, rfl, q⟩
def cmOf : Cm → CmpOp
  | .eq => .Eq
  | .ne => .NotEq
  | .lt => .Lt
  | .le => .LtE
  | .gt => .Gt
  | .ge => .GtE
  | .isin => .In
  | .notin => .NotIn
  | .is => .Is
  | .isnot => .IsNot
/-! keys -/
def trK : Tr → Key
  | .int i => .inl i
  | .str l => .inr (S l)
  | _ => .inl 0
theorem kTr_trK {t : Tr} (h : Ir.isAt t = true) : kTr (trK t) = t := by
  cases t <;> first | exact absurd h Bool.false_ne_true | skip
  · rfl
  · show Tr.str (S _).cps.toList = _
    rw [S_list]
theorem kTr_eqT (a b : Key) : Ir.eqT (kTr a) (kTr b) = decide (a = b) := by
  cases a with
  | inl i => cases b with
    | inl j => show decide (i = j) = _; rw [Bool.eq_iff_iff]; simp
    | inr y => show false = _; simp
  | inr x => cases b with
    | inl j => show false = _; simp
    | inr y =>
      show decide (x.cps.toList = y.cps.toList) = _
      rw [Bool.eq_iff_iff]
      simp only [decide_eq_true_eq]
      exact ⟨fun h => by rw [S_eq x, S_eq y, h], fun h => by cases h; rfl⟩
theorem kV_rv {B : Bs} {H F : Hp} {v : V} {t : Tr} (h : Ir.isAt t = true) (r : Rv B H F v t) : v = kV (trK t) := by
  cases r <;> first | exact absurd h Bool.false_ne_true | rfl
/-- looked up in the tree and in the heap -/
theorem getT_val {κ : Type} [DecidableEq κ] {f : κ → Tr} (hf : ∀ a b, Ir.eqT (f a) (f b) = decide (a = b)) {B : Bs} {H F : Hp} : ∀ {us : List (κ × V)} {kvs : List (Tr × Tr)} (k : κ), us.map (fun p => f p.1) = kvs.map Prod.fst → Rvs B H F (us.map Prod.snd) (kvs.map Prod.snd) →
    (valV us k = none ∧ Ir.getT kvs (f k) = none) ∨ ∃ v t, valV us k = some v ∧ Ir.getT kvs (f k) = some t ∧ Rv B H F v t
  | [], [], k, _, _ => .inl ⟨rfl, rfl⟩
  | [], _ :: _, k, h, _ => by cases h
  | _ :: _, [], k, h, _ => by cases h
  | (k', v) :: us, (x, t) :: kvs, k, h, r => by
    rw [List.map_cons, List.map_cons] at h
    injection h with h1 h2
    simp only at h1
    subst h1
    cases r with
    | cons r1 r2 =>
      by_cases e : k' = k
      · subst e
        refine .inr ⟨v, t, ?_, ?_, r1⟩
        · simp [valV]
        · unfold Ir.getT
          rw [hf, decide_eq_true rfl, if_pos rfl]
      · have e1 : valV ((k', v) :: us) k = valV us k := by
          unfold valV
          rw [List.find?_cons_of_neg (by simpa using e)]
        have e2 : Ir.getT ((f k', t) :: kvs) (f k) = Ir.getT kvs (f k) := by
          show (if Ir.eqT (f k') (f k) = true then some t else Ir.getT kvs (f k)) = _
          rw [hf, decide_eq_false e, if_neg Bool.false_ne_true]
        rw [e1, e2]
        exact getT_val hf k h2 r2
/-! keys of any depth -/
mutual
theorem nkT_eq : ∀ (n m : Nat) (a b : Tr), Ir.isNk n a = true → Ir.isNk m b = true → Ir.eqT a b = NestedKey.beq (nkT a) (nkT b)
  | n, m, a, b, ha, hb => by
    cases a with
    | tup as | ktup as =>
      cases n with
      | zero => unfold Ir.isNk at ha; cases ha
      | succ n =>
        unfold Ir.isNk at ha
        cases b with
        | tup bs | ktup bs =>
          cases m with
          | zero => unfold Ir.isNk at hb; cases hb
          | succ m =>
            unfold Ir.isNk at hb
            have := nkTs_eq n m as bs ha hb
            unfold Ir.eqT nkT NestedKey.beq
            exact this
        | non | int _ | str _ => unfold Ir.eqT nkT NestedKey.beq; rfl
        | _ => unfold Ir.isNk at hb; cases hb
    | str l =>
      cases b with
      | str m =>
        unfold Ir.eqT nkT NestedKey.beq
        by_cases e : l = m
        · subst e; rw [decide_eq_true rfl, decide_eq_true rfl]
        · rw [decide_eq_false e, decide_eq_false fun z => e (by have := congrArg (fun x : Str => x.cps.toList) z; simpa [S_list] using this)]
      | non | int _ | tup _ | ktup _ => unfold Ir.eqT nkT NestedKey.beq; rfl
      | _ => unfold Ir.isNk at hb; cases hb
    | int i =>
      cases b with
      | non | int _ | str _ | tup _ | ktup _ => unfold Ir.eqT nkT NestedKey.beq; rfl
      | _ => unfold Ir.isNk at hb; cases hb
    | non =>
      cases b with
      | non | int _ | str _ | tup _ | ktup _ => unfold Ir.eqT nkT NestedKey.beq; rfl
      | _ => unfold Ir.isNk at hb; cases hb
    | _ => unfold Ir.isNk at ha; cases ha
theorem nkTs_eq : ∀ (n m : Nat) (a b : List Tr), Ir.isNks n a = true → Ir.isNks m b = true → Ir.eqTs a b = NestedKey.beqAll (nkTs a) (nkTs b)
  | n, m, [], [], _, _ => rfl
  | n, m, [], b :: bs, _, _ => rfl
  | n, m, a :: as, [], _, _ => rfl
  | n, m, a :: as, b :: bs, ha, hb => by
    unfold Ir.isNks at ha hb
    rw [Bool.and_eq_true] at ha hb
    have h1 := nkT_eq n m a b ha.1 hb.1
    have h2 := nkTs_eq n m as bs ha.2 hb.2
    unfold Ir.eqTs nkTs NestedKey.beqAll
    rw [h1, h2]
end
mutual
theorem nkT_depth : ∀ (n : Nat) (a : Tr), Ir.isNk n a = true → (nkT a).depth ≤ n
  | n, a, ha => by
    cases a with
    | tup as | ktup as =>
      cases n with
      | zero => unfold Ir.isNk at ha; cases ha
      | succ n =>
        unfold Ir.isNk at ha
        have := nkTs_depth n as ha
        unfold nkT NestedKey.depth
        omega
    | non | int _ | str _ => unfold nkT NestedKey.depth; omega
    | _ => unfold Ir.isNk at ha; cases ha
theorem nkTs_depth : ∀ (n : Nat) (a : List Tr), Ir.isNks n a = true → NestedKey.depthAll (nkTs a) ≤ n
  | n, [], _ => by unfold nkTs NestedKey.depthAll; omega
  | n, a :: as, ha => by
    unfold Ir.isNks at ha
    rw [Bool.and_eq_true] at ha
    have h1 := nkT_depth n a ha.1
    have h2 := nkTs_depth n as ha.2
    unfold nkTs NestedKey.depthAll
    omega
end
section
variable {W : Wd} {σ σ' : L2.St} {ρ : Ev} {μ : Mem} {pins : List (Addr × Obj)} {s : Shared}
mutual
theorem nk_is (Sx : Sa (XB X c) W σ ρ μ) (I : Inv X pins σ' W.H s) : ∀ {n : Nat} {v : V} {t : Tr} {u : Value}, Ir.isNk n t = true → Rv (XB X c) W.H W.F v t → RelV v u → NestedIs s.heap (nkT t) u
  | _, _, _, _, _, .non, r => by
    cases (show _ = Value.none from r)
    exact .none
  | _, _, _, _, h, .bl _, _ => by unfold Ir.isNk at h; cases h
  | _, _, _, _, _, .int i, r => by
    obtain ⟨t, e⟩ := (show ∃ t, _ = Value.int i t from r)
    subst e
    exact .int i t
  | _, _, _, _, _, .str l, r => by
    obtain ⟨t, e⟩ := (show ∃ t, _ = Value.str (S l) t from r)
    subst e
    exact .text _ t
  | _, _, _, _, h, .ty _, _ => by unfold Ir.isNk at h; cases h
  | 0, _, _, _, h, .tup _ _, _ => by unfold Ir.isNk at h; cases h
  | n + 1, _, _, _, h, .tup (a := a) ha hs, r => by
    cases (show _ = Value.ref a from r)
    obtain ⟨its, rv, ⟨o, h1, h2, m, h3⟩, _⟩ := I.tuple ha.sq
    exact .tup h1 h2 h3 (nks_is Sx I (n := n) (by unfold Ir.isNk at h; exact h) hs (by simpa using rv))
  | 0, _, _, _, h, .kup _ _, _ => by unfold Ir.isNk at h; cases h
  | n + 1, _, _, _, h, .kup (a := a) ha hs, r => by
    cases (show _ = Value.ref a from r)
    obtain ⟨its, rv, ⟨o, h1, h2, m, h3⟩, _⟩ := I.tuple (Sx.kup ha)
    exact .tup h1 h2 h3 (nks_is Sx I (n := n) (by unfold Ir.isNk at h; exact h) hs (by simpa using rv))
  | _, _, _, _, h, .scr _, _ => by unfold Ir.isNk at h; cases h
  | _, _, _, _, h, .cls _, _ => by unfold Ir.isNk at h; cases h
  | _, _, _, _, h, .lst _ _, _ => by unfold Ir.isNk at h; cases h
  | _, _, _, _, h, .dK _ _ _, _ => by unfold Ir.isNk at h; cases h
  | _, _, _, _, h, .dT _ _ _, _ => by unfold Ir.isNk at h; cases h
  | _, _, _, _, h, .dX _ _ _ _ _, _ => by unfold Ir.isNk at h; cases h
  | _, _, _, _, h, .obj _ _ _ _, _ => by unfold Ir.isNk at h; cases h
theorem nks_is (Sx : Sa (XB X c) W σ ρ μ) (I : Inv X pins σ' W.H s) : ∀ {n : Nat} {vs : List V} {ts : List Tr} {us : List Value}, Ir.isNks n ts = true → Rvs (XB X c) W.H W.F vs ts → Vals vs us → NestedAll s.heap (nkTs ts) us
  | _, _, _, _, _, .nil, .nil => .nil
  | n, _, _, _, h, .cons a b, .cons r t => by
    unfold Ir.isNks at h
    rw [Bool.and_eq_true] at h
    exact .cons (nk_is Sx I h.1 a r) (nks_is Sx I h.2 b t)
end
/-- a tree that is a key -/
theorem key_nk (Sx : Sa (XB X c) W σ ρ μ) {v : V} {t : Tr} (hk : Ir.isKey true t = true) (r : Rv (XB X c) W.H W.F v t) : ∃ b, v = .ref b ∧ NkAt X W.H b (nkT t) := by
  cases t with
  | tup ts =>
    have h8 : Ir.isNk 8 (.tup ts) = true := by
      have : Ir.isNks 7 ts = true := hk
      unfold Ir.isNk
      exact this
    cases r with
    | tup h1 h2 => exact ⟨_, rfl, nkT_depth 8 _ h8, fun pins σ' s I => nk_is Sx I h8 (.tup h1 h2) rfl⟩
  | ktup ts =>
    have h8 : Ir.isNk 8 (.ktup ts) = true := by
      have : Ir.isNks 7 ts = true := hk
      unfold Ir.isNk
      exact this
    cases r with
    | kup h1 h2 => exact ⟨_, rfl, nkT_depth 8 _ h8, fun pins σ' s I => nk_is Sx I h8 (.kup h1 h2) rfl⟩
  | _ => exact absurd hk Bool.false_ne_true
theorem isKey_nk {t : Tr} (hk : Ir.isKey true t = true) : Ir.isNk 8 t = true := by
  cases t with
  | tup ts => have : Ir.isNks 7 ts = true := hk; unfold Ir.isNk; exact this
  | ktup ts => have : Ir.isNks 7 ts = true := hk; unfold Ir.isNk; exact this
  | _ => exact absurd hk Bool.false_ne_true
theorem isKey_eq {x y : Tr} (hx : Ir.isKey true x = true) (hy : Ir.isKey true y = true) : Ir.eqT x y = decide (nkT x = nkT y) := by
  rw [NestedKey.decide_eq]
  exact nkT_eq 8 8 x y (isKey_nk hx) (isKey_nk hy)
theorem keys_x (Sx : Sa (XB X c) W σ ρ μ) {us : List Ent} {kvs : List (Tr × Tr)} (h : KvX (XB X c) W.H W.F us kvs) : KeysX X W.H us := by
  obtain ⟨h1, h2, h3, h4⟩ := h
  clear h4
  induction us generalizing kvs with
  | nil => intro p hp; cases hp
  | cons u us ih =>
    cases kvs with
    | nil => cases h1
    | cons q kvs =>
      rw [List.map_cons, List.map_cons] at h1 h3
      injection h1 with e1 e2
      cases h3 with
      | cons r rs =>
        intro p hp
        rcases List.mem_cons.mp hp with rfl | hp
        · obtain ⟨b, e, k⟩ := key_nk Sx (h2 q List.mem_cons_self) r
          cases e
          rw [e1]
          exact k
        · exact ih e2 (fun z hz => h2 z (List.mem_cons_of_mem _ hz)) rs p hp
theorem getX_val {B : Bs} {H F : Hp} {x : Tr} (hx : Ir.isKey true x = true) : ∀ {us : List (NestedKey × V)} {kvs : List (Tr × Tr)}, us.map Prod.fst = kvs.map (fun p => nkT p.1) → (∀ p ∈ kvs, Ir.isKey true p.1 = true) → Rvs B H F (us.map Prod.snd) (kvs.map Prod.snd) →
    ((valV us (nkT x) = none ∧ Ir.getT kvs x = none) ∨ ∃ u t, valV us (nkT x) = some u ∧ Ir.getT kvs x = some t ∧ Rv B H F u t)
  | [], [], _, _, _ => .inl ⟨rfl, rfl⟩
  | [], _ :: _, e, _, _ => by cases e
  | _ :: _, [], e, _, _ => by cases e
  | u :: us, (k, t) :: kvs, e, hk, r => by
    rw [List.map_cons, List.map_cons] at e
    injection e with e1 e2
    cases r with
    | cons r1 r2 =>
      have h1 := isKey_eq (hk _ List.mem_cons_self) hx
      have g : Ir.getT ((k, t) :: kvs) x = if Ir.eqT k x = true then some t else Ir.getT kvs x := rfl
      rw [g, h1]
      by_cases h : nkT k = nkT x
      · rw [decide_eq_true h, if_pos rfl]
        exact .inr ⟨u.2, t, valV_pos (e1.trans h), rfl, r1⟩
      · rw [decide_eq_false h, if_neg Bool.false_ne_true, valV_neg (fun z => h (e1.symm.trans z))]
        exact getX_val hx e2 (fun p hp => hk p (List.mem_cons_of_mem _ hp)) r2
end
theorem nkT_kTr : ∀ k : Key, nkT (kTr k) = nk1 k
  | .inl i => by unfold kTr nkT nk1; rfl
  | .inr x => by
    show nkT (.str x.cps.toList) = NestedKey.text x
    unfold nkT
    rw [← S_eq]
theorem nkTs_kTr : ∀ k : List Key, nkTs (k.map kTr) = k.map nk1
  | [] => rfl
  | a :: k => by
    show nkT (kTr a) :: nkTs (k.map kTr) = _
    rw [nkT_kTr, nkTs_kTr k]
    rfl
theorem nkT_kTs (k : List Key) : nkT (kTs k) = nkK k := by
  unfold kTs nkT nkK
  rw [nkTs_kTr]
theorem isKey_kTs (k : List Key) : Ir.isKey true (kTs k) = true := by
  show Ir.isNks 7 (k.map kTr) = true
  induction k with
  | nil => rfl
  | cons a k ih =>
    rw [List.map_cons]
    unfold Ir.isNks
    rw [ih]
    cases a <;> rfl
/-- a dict that is looked at, by a key -/
theorem dget_ok {W : Wd} {σ ρ μ} {v y : V} {b : Bool} {kvs : List (Tr × Tr)} {x : Tr} (Sx : Sa (XB X c) W σ ρ μ) (r : Rw (XB X c) W v (.dic b kvs)) (q : Rv (XB X c) W.H W.F y x) (hk : Ir.isKey b x = true) :
    ∃ a o, v = .ref a ∧ IsDG X W.H a ∧ DG X W.H a y o ∧ ((o = none ∧ Ir.getT kvs x = none) ∨ ∃ u t, o = some u ∧ Ir.getT kvs x = some t ∧ Rv (XB X c) W.H W.F u t) := by
  cases b with
  | false =>
    obtain ⟨a, us, rfl, h1, h2, h3⟩ := r
    have hx : Ir.isAt x = true := by cases x <;> first | rfl | exact absurd hk Bool.false_ne_true
    have e : y = kV (trK x) := kV_rv hx q
    have := getT_val kTr_eqT (trK x) h2 h3
    rw [kTr_trK hx] at this
    exact ⟨a, _, rfl, .inl (.inl ⟨us, h1⟩), .inl (.inl ⟨us, trK x, h1, e, rfl⟩), this⟩
  | true =>
    obtain ⟨bb, e, kk⟩ := key_nk Sx hk q
    obtain ⟨a, rfl, ⟨us, h1, h2, h3⟩ | ⟨us, h1, h2⟩⟩ := r
    · have hd := dicR_t (X := X) h1
      have := getX_val (B := XB X c) (H := W.H) (F := W.F) hk (us := us.map fun p => (nkK p.1, p.2)) (kvs := kvs) (by
        have := congrArg (List.map nkT) h2
        rw [List.map_map, List.map_map] at this
        rw [List.map_map]
        refine Eq.trans (List.map_congr_left fun p _ => ?_) this
        exact (nkT_kTs p.1).symm) (fun p hp => by
        have hm : p.1 ∈ us.map fun p => kTs p.1 := by rw [h2]; exact List.mem_map.mpr ⟨p, hp, rfl⟩
        obtain ⟨z, _, hz⟩ := List.mem_map.mp hm
        rw [← hz]
        exact isKey_kTs _) (by rw [List.map_map]; exact h3)
      exact ⟨a, _, rfl, .inr ⟨_, hd⟩, .inr ⟨_, bb, _, hd, e, kk, rfl⟩, this⟩
    · have hd := dicR_x h1 (keys_x Sx h2)
      have := getX_val (B := XB X c) (H := W.H) (F := W.F) hk (us := us.map fun p => (p.1, p.2.2)) (kvs := kvs) (by rw [List.map_map]; exact h2.k) h2.n (by rw [List.map_map]; exact h2.v)
      exact ⟨a, _, rfl, .inr ⟨_, hd⟩, .inr ⟨_, bb, _, hd, e, kk, rfl⟩, this⟩
end
end Is

/-! Ig: comparisons, tests, subscripts. -/
namespace L2
open PySem PySem.Spec PyProof.Rows Wx
theorem strS_at : ∀ {ls : List (List Nat)} {its : List Value}, Vals (ls.map fun l => V.str (S l)) its → its.length = ls.length ∧ ∀ (j : Nat) (h : j < its.length), ∃ t, its[j] = .str (S (ls.getD j [])) t
  | [], _, .nil => ⟨rfl, fun j h => by simp at h⟩
  | l :: ls, _, .cons h hs => by
    obtain ⟨h1, h2⟩ := strS_at hs
    refine ⟨by rw [List.length_cons, List.length_cons, h1], fun j hj => ?_⟩
    cases j with
    | zero => obtain ⟨t, e⟩ := h; exact ⟨t, e⟩
    | succ j => exact h2 j (by simpa using hj)
theorem geT_lex : ∀ (ls ms : List (List Nat)) (as bs : List (List Nat)) (i : Nat), as.drop i = ls → bs.drop i = ms → i ≤ as.length → i ≤ bs.length → Ob.lexAt (fun j => decide (as.getD j [] = bs.getD j [])) (fun j => !decide (as.getD j [] < bs.getD j [])) (decide (as.length ≥ bs.length)) i (min ls.length ms.length) = Ir.geT ls ms
  | [], [], as, bs, i, h1, h2, h3, h4 => by
    have q1 := congrArg List.length h1
    have q2 := congrArg List.length h2
    rw [List.length_drop] at q1 q2
    simp at q1 q2
    show decide (as.length ≥ bs.length) = true
    exact decide_eq_true (by omega)
  | [], m :: ms, as, bs, i, h1, h2, h3, h4 => by
    have q1 := congrArg List.length h1
    have q2 := congrArg List.length h2
    rw [List.length_drop] at q1 q2
    simp at q1 q2
    rw [show min ([] : List (List Nat)).length (m :: ms).length = 0 by simp]
    show decide (as.length ≥ bs.length) = false
    exact decide_eq_false (by omega)
  | l :: ls, [], as, bs, i, h1, h2, h3, h4 => by
    have q1 := congrArg List.length h1
    have q2 := congrArg List.length h2
    rw [List.length_drop] at q1 q2
    simp at q1 q2
    rw [show min (l :: ls).length ([] : List (List Nat)).length = 0 by simp]
    show decide (as.length ≥ bs.length) = true
    exact decide_eq_true (by omega)
  | l :: ls, m :: ms, as, bs, i, h1, h2, h3, h4 => by
    have q1 := congrArg List.length h1
    have q2 := congrArg List.length h2
    rw [List.length_drop] at q1 q2
    simp at q1 q2
    have l1 : i < as.length := by omega
    have l2 : i < bs.length := by omega
    rw [List.drop_eq_getElem_cons l1] at h1
    rw [List.drop_eq_getElem_cons l2] at h2
    injection h1 with e1 h1
    injection h2 with e2 h2
    have ih := geT_lex ls ms as bs (i + 1) h1 h2 (by omega) (by omega)
    rw [show min (l :: ls).length (m :: ms).length = min ls.length ms.length + 1 by simp, Ob.lexAt_succ, ih]
    have d1 : as.getD i [] = l := by rw [List.getD_eq_getElem?_getD, List.getElem?_eq_getElem l1, e1]; rfl
    have d2 : bs.getD i [] = m := by rw [List.getD_eq_getElem?_getD, List.getElem?_eq_getElem l2, e2]; rfl
    rw [d1, d2]
    show _ = if l = m then Ir.geT ls ms else !decide (l < m)
    by_cases e : l = m
    · rw [if_pos (decide_eq_true e), if_pos e]
    · rw [if_neg (by simpa using e), if_neg e]
theorem op_geTS {X : Cx} (hu : X.A.units < cLine) : OpR X (compareOp .GtE) (fun x y H Q => ∃ (a b : Addr) (ls ms : List (List Nat)), x = .ref a ∧ y = .ref b ∧ SqT X.K H a (ls.map fun l => V.str (S l)) ∧ SqT X.K H b (ms.map fun l => V.str (S l)) ∧ Q (.bl (Ir.geT ls ms)) H) := by
  intro pins s σ H x y v u Q I rx ry h
  obtain ⟨a, b, ns, ms, rfl, rfl, ha, hb, q⟩ := h
  cases rx
  cases ry
  obtain ⟨its, r1, p1, _⟩ := I.tuple ha
  obtain ⟨its2, r2, p2, _⟩ := I.tuple hb
  obtain ⟨e1, at1⟩ := strS_at r1
  obtain ⟨e2, at2⟩ := strS_at r2
  have R := Ob.RcOp.tuples_ge (A := X.A) (s := s) (e := fun j => decide (ns.getD j [] = ms.getD j [])) (r := fun j => !decide (ns.getD j [] < ms.getD j [])) p1 p2 hu (fun j h1 h2 => by
    obtain ⟨t, et⟩ := at1 j (by simpa using h1)
    obtain ⟨t', et'⟩ := at2 j (by simpa using h2)
    have et : its.toArray[j] = _ := et
    have et' : its2.toArray[j] = _ := et'
    rw [et, et']
    have z : (S (ns.getD j []) == S (ms.getD j [])) = decide (ns.getD j [] = ms.getD j []) := by
      rw [Bool.eq_iff_iff, beq_iff_eq, decide_eq_true_iff]
      exact ⟨fun h => S_inj h, fun h => by rw [h]⟩
    rw [← z]
    exact SeqAt.EqAt.str_str _ _ _ _) (fun j h1 h2 _ => by
    obtain ⟨t, et⟩ := at1 j (by simpa using h1)
    obtain ⟨t', et'⟩ := at2 j (by simpa using h2)
    have et : its.toArray[j] = _ := et
    have et' : its2.toArray[j] = _ := et'
    rw [et, et']
    intro prog w E Q h
    refine PySem.P.ge_str ?_
    rw [S_list, S_list]
    exact h)
  rw [show its.toArray.size = ns.length by simpa using e1, show its2.toArray.size = ms.length by simpa using e2, geT_lex ns ms ns ms 0 rfl rfl (Nat.zero_le _) (Nat.zero_le _)] at R
  have z : wpAny (model X.prog X.w) X.A (compareOp .GtE (.ref a) (.ref b)) (EP X pins σ Q) X.xe s := R X.prog X.w X.xe (EP X pins σ Q) ⟨.bl _, H, I, rfl, q⟩
  exact z
end L2
namespace Is
open PySem PySem.Spec PyProof.Rows L2 Wx
open Ir (Tr Cel Mem Ev EK SK Con Tg Op Cm I Sm wp wps)
section
variable {X : Cx} {c : Nat → Addr} {W : Wd} {σ : L2.St} {ρ : Ev} {μ : Mem} {n : Nat}
theorem Rw.rv {v t} (r : Rw (XB X c) W v t) (h1 : ∀ ts, t ≠ .lst ts) (h2 : ∀ b kvs, t ≠ .dic b kvs) : Rv (XB X c) W.H W.F v t := by
  cases t with
  | lst ts => exact absurd rfl (h1 ts)
  | dic b kvs => exact absurd rfl (h2 b kvs)
  | _ => exact r
theorem isKey_rv {b : Bool} {v x} (h : Ir.isKey b x = true) (r : Rw (XB X c) W v x) : Rv (XB X c) W.H W.F v x := by
  cases x with
  | lst ts => cases b <;> exact absurd h Bool.false_ne_true
  | dic d kvs => cases b <;> exact absurd h Bool.false_ne_true
  | _ => exact r
theorem inK_ok {neg : Bool} {x : Tr} {ts : List Tr} {v y : V} {Q : VK} (f : Cf X n) (Sx : Sa (XB X c) W σ ρ μ) (r1 : Rw (XB X c) W v x) (r2 : (Rw (XB X c) W y (.lst ts)) ∨ Rw (XB X c) W y (.tup ts)) (h : ((Ir.isF x && ts.all Ir.isF) || (Ir.isD 60 x && Ir.isDs 60 ts)) = true)
    (q : Q (.bl (if neg = true then !ts.any fun t => Ir.eqT t x else ts.any fun t => Ir.eqT t x)) W.H) : WO X (compareOp (if neg = true then .NotIn else .In)) v y W.H Q := by
  have hu : X.A.units + 65 < cLine := by have := f.hu; omega
  rw [Bool.or_eq_true, Bool.and_eq_true, Bool.and_eq_true] at h
  rcases h with h | h
  · have hs : ∃ p xs, y = .ref p ∧ (SqL X.K W.H p xs ∨ SqT X.K W.H p xs) ∧ Rvs (XB X c) W.H W.F xs ts := by
      rcases r2 with ⟨a, vs, rfl, h1, h2⟩ | r2
      · exact ⟨a, vs, rfl, .inl h1, h2⟩
      · cases r2 with | tup h1 h2 => exact ⟨_, _, rfl, .inr h1.sq, h2⟩
    obtain ⟨p, xs, rfl, hs, hr⟩ := hs
    have r1' : Rv (XB X c) W.H W.F v x := r1.rv (fun ts e => by subst e; exact absurd h.1 Bool.false_ne_true) (fun b kvs e => by subst e; exact absurd h.1 Bool.false_ne_true)
    obtain ⟨rfl, fx⟩ := r1'.flat h.1
    obtain ⟨rfl, fs⟩ := hr.flat h.2
    cases neg with
    | false => exact WO.of op_in_seq ⟨p, _, rfl, hs, fx, fs, by rw [inV_any h.1 h.2]; exact q⟩
    | true => exact WO.of op_notIn_seq ⟨p, _, rfl, hs, fx, fs, by rw [inV_any h.1 h.2]; exact q⟩
  · have d1 := r1.dp Sx h.1
    have s1 := dat_shaped h.1 (by decide)
    have s2 := dats_shapedL h.2 (by decide)
    rcases r2 with ⟨a, vs, rfl, h1, h2⟩ | r2
    · have d2 : Dp X.K W.H (.ref a) (.list (dats ts)) := .lst h1 (h2.dp Sx h.2)
      cases neg with
      | false => exact WO.of (op_inD hu) ⟨_, _, d1, d2, s1, s2, by rw [any_dats h.1 h.2]; exact q⟩
      | true => exact WO.of (op_notInD hu) ⟨_, _, d1, d2, s1, s2, by rw [any_dats h.1 h.2]; exact q⟩
    · cases r2 with
      | tup h1 h2 =>
        have d2 : Dp X.K W.H (.ref _) (.tuple (dats ts)) := .tup h1.sq (h2.dp Sx h.2)
        cases neg with
        | false => exact WO.of (op_inTD hu) ⟨_, _, d1, d2, s1, s2, by rw [any_dats h.1 h.2]; exact q⟩
        | true => exact WO.of (op_notInTD hu) ⟨_, _, d1, d2, s1, s2, by rw [any_dats h.1 h.2]; exact q⟩
theorem inKup_ok {neg : Bool} {x : Tr} {ts : List Tr} {v y : V} {Q : VK} (Sx : Sa (XB X c) W σ ρ μ) (r1 : Rw (XB X c) W v x) (r2 : Rw (XB X c) W y (.ktup ts)) (h : (Ir.isF x && ts.all Ir.isF) = true)
    (q : Q (.bl (if neg = true then !ts.any fun t => Ir.eqT t x else ts.any fun t => Ir.eqT t x)) W.H) : WO X (compareOp (if neg = true then .NotIn else .In)) v y W.H Q := by
  rw [Bool.and_eq_true] at h
  cases r2 with
  | kup h1 hr =>
    have r1' : Rv (XB X c) W.H W.F v x := r1.rv (fun ts e => by subst e; exact absurd h.1 Bool.false_ne_true) (fun b kvs e => by subst e; exact absurd h.1 Bool.false_ne_true)
    obtain ⟨rfl, fx⟩ := r1'.flat h.1
    obtain ⟨rfl, fs⟩ := hr.flat h.2
    cases neg with
    | false => exact WO.of op_in_seq ⟨_, _, rfl, .inr (Sx.kup h1), fx, fs, by rw [inV_any h.1 h.2]; exact q⟩
    | true => exact WO.of op_notIn_seq ⟨_, _, rfl, .inr (Sx.kup h1), fx, fs, by rw [inV_any h.1 h.2]; exact q⟩
theorem eqK_ok {x z : Tr} {v y : V} {k : Bool → Prop} (f : Cf X n) (Sx : Sa (XB X c) W σ ρ μ) (r1 : Rw (XB X c) W v x) (r2 : Rw (XB X c) W y z) (h : Ir.eqK x z k) : ∃ b, k b ∧ (∀ Q : VK, Q (.bl b) W.H → WO X (compareOp .Eq) v y W.H Q) ∧ (∀ Q : VK, Q (.bl (!b)) W.H → WO X (compareOp .NotEq) v y W.H Q) := by
  unfold Ir.eqK at h
  split at h
  · cases r1; cases r2
    exact ⟨_, h, fun Q q => wo_eq q, fun Q q => wo_ne q⟩
  · cases r1; cases r2
    exact ⟨_, h, fun Q q => wo_eqSS q, fun Q q => wo_neSS q⟩
  · obtain ⟨h0, h⟩ := h
    rw [Bool.and_eq_true] at h0
    have d1 := r1.dp Sx h0.1
    have d2 := r2.dp Sx h0.2
    have s1 := dat_shaped h0.1 (by decide)
    have s2 := dat_shaped h0.2 (by decide)
    have e := eqT_eqv 60 60 _ _ h0.1 h0.2
    exact ⟨_, h, fun Q q => wo_eqDp f.hu64 d1 d2 s1 s2 (by rw [← e]; exact q), fun Q q => wo_neDp f.hu64 d1 d2 s1 s2 (by rw [← e]; exact q)⟩
theorem rw_non {x : Tr} (r : Rw (XB X c) W .non x) (h : x = .non → False) : False := by
  cases x with
  | lst ts => obtain ⟨a, vs, e, _⟩ := r; cases e
  | dic b kvs =>
    cases b with
    | false => obtain ⟨a, vs, e, _⟩ := r; cases e
    | true => obtain ⟨a, e, _⟩ := r; cases e
  | non => exact h rfl
  | _ => cases r
theorem wo_in1 {c0 : Nat} {l : List Nat} {Q : VK} (q : Q (.bl (!decide (c0 ∈ l))) W.H) : WO X (compareOp .NotIn) (.str (S [c0])) (.str (S l)) W.H Q := by
  exact WO.of op_notIn_sign ⟨c0, S l, rfl, rfl, by rw [S_list]; exact q⟩
theorem cmpK_ok {o : Cm} {x z : Tr} {v y : V} {k : Tr → Prop} {Q : VK} (f : Cf X n) (Sx : Sa (XB X c) W σ ρ μ) (r1 : Rw (XB X c) W v x) (r2 : Rw (XB X c) W y z) (h : Ir.cmpK o x z k)
    (q : ∀ b, k (.bl b) → Q (.bl b) W.H) : WO X (compareOp (cmOf o)) v y W.H Q := by
  unfold Ir.cmpK at h
  split at h
  · obtain ⟨b, h1, h2, _⟩ := eqK_ok f Sx r1 r2 h
    exact h2 Q (q _ h1)
  · obtain ⟨b, h1, _, h2⟩ := eqK_ok f Sx r1 r2 h
    exact h2 Q (q _ h1)
  · cases r1; cases r2; exact wo_lt (q _ h)
  · cases r1; cases r2; exact wo_le (q _ h)
  · cases r1; cases r2; exact wo_gt (q _ h)
  · cases r1; cases r2; exact wo_ge (q _ h)
  · cases r1; cases r2; exact wo_ltS (q _ h)
  · obtain ⟨ls, ms, rfl, rfl, h⟩ := h
    cases r1 with | tup h1 h2 =>
    cases r2 with | tup h3 h4 =>
    refine WO.of (L2.op_geTS (by have := f.hu64; omega)) ⟨_, _, ls, ms, rfl, rfl, ?_, ?_, q _ h⟩
    · rw [← h2.strs_eq]; exact h1.sq
    · rw [← h4.strs_eq]; exact h3.sq
  · cases r1; cases r2; exact wo_leS (q _ h)
  · unfold Ir.sgK at h
    split at h
    · cases r1; cases r2; exact wo_inS (q _ h)
    · exact h.elim
  · unfold Ir.sgK at h
    split at h
    · cases r1; cases r2; exact wo_in1 (q _ h)
    · exact h.elim
  · exact inK_ok (neg := false) f Sx r1 (.inl r2) h.1 (q _ h.2)
  · exact inK_ok (neg := true) f Sx r1 (.inl r2) h.1 (q _ h.2)
  · exact inK_ok (neg := false) f Sx r1 (.inr r2) h.1 (q _ h.2)
  · exact inK_ok (neg := true) f Sx r1 (.inr r2) h.1 (q _ h.2)
  · exact inKup_ok (neg := false) Sx r1 r2 h.1 (q _ h.2)
  · exact inKup_ok (neg := true) Sx r1 r2 h.1 (q _ h.2)
  · have r1' : Rv (XB X c) W.H W.F v _ := isKey_rv h.1 r1
    obtain ⟨a, o, rfl, h1, h2, h3⟩ := dget_ok Sx r2 r1' h.1
    refine wo_gin f.hu64 h2 ?_
    rcases h3 with ⟨rfl, e⟩ | ⟨u, t, rfl, e, _⟩
    · have h := h.2; rw [e] at h; exact q _ h
    · have h := h.2; rw [e] at h; exact q _ h
  · have r1' : Rv (XB X c) W.H W.F v _ := isKey_rv h.1 r1
    obtain ⟨a, o, rfl, h1, h2, h3⟩ := dget_ok Sx r2 r1' h.1
    refine wo_gnotin f.hu64 h2 ?_
    rcases h3 with ⟨rfl, e⟩ | ⟨u, t, rfl, e, _⟩
    · have h := h.2; rw [e] at h; exact q _ h
    · have h := h.2; rw [e] at h; exact q _ h
  · cases r2
    refine WO.of op_isN ⟨rfl, ?_⟩
    split at h
    · cases r1
      exact q _ h
    · exact h.elim
    · rename_i hn _
      have : v ≠ .non := fun e => by subst e; exact rw_non r1 hn
      rw [decide_eq_false this]
      exact q _ h
  · cases r2
    refine WO.of op_notN ⟨rfl, ?_⟩
    split at h
    · cases r1
      exact q _ h
    · exact h.elim
    · rename_i hn _
      have : v ≠ .non := fun e => by subst e; exact rw_non r1 hn
      rw [decide_eq_false this]
      exact q _ h
  · exact h.elim
end
end Is

/-! Ih: expressions. -/
namespace Is
open PySem PySem.Spec PyProof.Rows L2 Wx
open Ir (Tr Cel Mem Ev EK SK Con Tg Op Cm I Sm wp wps)
section
variable {X : Cx} {c : Nat → Addr} {n : Nat} {pos : Pos}
/-! ### comparisons -/
theorem pj_cmp {o a b x y} (f : Cf X n) (ha : PJ X c a x) (hb : PJ X c b y) (hm : behindInMarks (cmOf o) b = false := by first | exact nobehind _ (by decide) (by decide) | rfl) : PJ X c (.Compare a [cmOf o] [b] pos) (.cmp o x y) := fun ρ μ φ ε h W σ Q Sx k tk =>
  we_cmp (ha ρ μ _ ε h W σ _ Sx (fun W1 v1 t1 μ1 g1 S1 r1 h1 => hb ρ μ1 _ ε h1 W1 σ _ S1 (fun W2 v2 t2 μ2 g2 S2 r2 h2 => by
    obtain ⟨t1', r1', h2⟩ := (r1.go g2).view S2 h2
    obtain ⟨t2', r2', h2⟩ := r2.view S2 h2
    exact cmpK_ok f S2 r1' r2' h2 fun b hb => k W2 _ _ μ2 (g1.trans g2) S2 (.inl (.bl b)) hb) (tk_go g1 tk)) tk) hm
theorem pt_cmp {o a b x y} (f : Cf X n) (ha : PJ X c a x) (hb : PJ X c b y) (hm : behindInMarks (cmOf o) b = false := by first | exact nobehind _ (by decide) (by decide) | rfl) : PT X c (.Compare a [cmOf o] [b] pos) (.cmp o x y) := fun ρ μ φ ε h hφ W σ Q Sx k tk =>
  wt_cmp (ha ρ μ _ ε h W σ _ Sx (fun W1 v1 t1 μ1 g1 S1 r1 h1 => hb ρ μ1 _ ε h1 W1 σ _ S1 (fun W2 v2 t2 μ2 g2 S2 r2 h2 => by
    obtain ⟨t1', r1', h2⟩ := (r1.go g2).view S2 h2
    obtain ⟨t2', r2', h2⟩ := r2.view S2 h2
    exact cmpK_ok f S2 r1' r2' h2 fun b hb => ⟨b, rfl, k W2 b μ2 (g1.trans g2) S2 hb⟩) (tk_go g1 tk)) tk) hm
/-- a chain of two: ints and texts -/
theorem chain_noptr {o : Cm} {x y : Tr} {k : Tr → Prop} (h : Ir.cmpK o x y k) (ho : o = .lt ∨ o = .le) : (∀ i, x ≠ .ptr i) ∧ ∀ i, y ≠ .ptr i := by
  refine ⟨fun i e => ?_, fun i e => ?_⟩
  · subst e
    rcases ho with rfl | rfl <;> (unfold Ir.cmpK at h; cases y <;> exact h)
  · subst e
    rcases ho with rfl | rfl <;> (unfold Ir.cmpK at h; cases x <;> exact h)
/-! ### tests -/
theorem pt_val {e x} (h : PJ X c e x) (he : ∀ whole, isTrue e X.env whole = (do let v ← whole; standAt e.pos; holding [v] (truthy v)) := by intro _; rfl) : PT X c e x := fun ρ μ φ ε hw hφ W σ Q Sx k tk =>
  wt_val (h ρ μ φ ε hw W σ _ Sx (fun W1 v1 t1 μ1 g1 S1 r1 h1 => by
    obtain ⟨b, rfl⟩ := hφ _ _ h1
    have r1 := r1.rv (by intro i e; cases e)
    cases r1
    exact ⟨b, rfl, k W1 b μ1 g1 S1 h1⟩) tk) he
theorem pt_not {a x} (h : PT X c a x) : PT X c (.UnaryOp .Not a pos) (.not x) := fun ρ μ φ ε hw hφ W σ Q Sx k tk =>
  wt_not (h ρ μ _ ε hw (fun t μ h => by cases t <;> first | exact ⟨_, rfl⟩ | exact h.elim) W σ _ Sx (fun W1 b μ1 g1 S1 h1 => k W1 _ μ1 g1 S1 h1) tk)
theorem pt_bop {op es x} (h : PW X c (.BoolOp op es pos) x) : PT X c (.BoolOp op es pos) x := fun ρ μ φ ε hw hφ W σ Q Sx k tk => wt_bop (h ρ μ φ ε hw hφ W σ Q Sx k tk)
theorem pw_one {op a x} (hop : op = .And ∨ op = .Or) (h : PT X c a x) : PW X c (.BoolOp op [a] pos) x := fun ρ μ φ ε hw hφ W σ Q Sx k tk => by
  rcases hop with rfl | rfl
  · exact ww_and1 (h ρ μ φ ε hw hφ W σ Q Sx k tk)
  · exact ww_or1 (h ρ μ φ ε hw hφ W σ Q Sx k tk)
theorem pw_and {a b rest x y} (ha : PT X c a x) (hb : PW X c (.BoolOp .And (b :: rest) pos) y) : PW X c (.BoolOp .And (a :: b :: rest) pos) (.and x y) := fun ρ μ φ ε hw hφ W σ Q Sx k tk =>
  ww_and (ha ρ μ _ ε hw (fun t μ h => by cases t <;> first | exact ⟨_, rfl⟩ | exact h.elim) W σ _ Sx (fun W1 b0 μ1 g1 S1 h1 => by
    cases b0 with
    | true => rw [if_pos rfl]; exact hb ρ μ1 φ ε h1 hφ W1 σ _ S1 (fun W2 b μ2 g2 S2 h2 => k W2 b μ2 (g1.trans g2) S2 h2) (tk_go g1 tk)
    | false => rw [if_neg Bool.false_ne_true]; exact k W1 false μ1 g1 S1 h1) tk)
theorem pw_or {a b rest x y} (ha : PT X c a x) (hb : PW X c (.BoolOp .Or (b :: rest) pos) y) : PW X c (.BoolOp .Or (a :: b :: rest) pos) (.or x y) := fun ρ μ φ ε hw hφ W σ Q Sx k tk =>
  ww_or (ha ρ μ _ ε hw (fun t μ h => by cases t <;> first | exact ⟨_, rfl⟩ | exact h.elim) W σ _ Sx (fun W1 b0 μ1 g1 S1 h1 => by
    cases b0 with
    | false => rw [if_neg Bool.false_ne_true]; exact hb ρ μ1 φ ε h1 hφ W1 σ _ S1 (fun W2 b μ2 g2 S2 h2 => k W2 b μ2 (g1.trans g2) S2 h2) (tk_go g1 tk)
    | true => rw [if_pos rfl]; exact k W1 true μ1 g1 S1 h1) tk)
/-! ### displays -/
theorem pj_tup {es x1 a} (h : PA X c es a) : PJ X c (.Tuple es x1 pos) (.tup a) := fun ρ μ φ ε hw W σ Q Sx k tk =>
  we_tup (h ρ μ _ ε hw W σ _ Sx (fun W1 vs ts μ1 g1 S1 r1 h1 => by
    obtain ⟨hz, h1⟩ := Ir.szK_le h1
    obtain ⟨r, h1⟩ := r1.rvs h1
    refine ⟨by rw [r.length]; exact sz_le hz, fun p hp => ?_⟩
    obtain ⟨g, S'⟩ := S1.fresh (o := .tup vs) hp
    exact k _ _ _ μ1 (g1.trans g) S' (.inl (.tup (.inl upd_same) (r.mono g.t g.f))) h1) tk)
theorem pn_lst {es a} (h : PA X c es a) : PN X c (.List es pos) (.lst a) := fun ρ μ φ ε hw W σ Q Sx k k2 k3 tk =>
  we_lst (h ρ μ _ ε hw W σ _ Sx (fun W1 vs ts μ1 g1 S1 r1 h1 => by
    obtain ⟨hz, h1⟩ := Ir.szK_le h1
    obtain ⟨r, h1⟩ := r1.rvs h1
    exact ⟨by rw [r.length]; exact sz_le hz, fun p hp => k W1 p vs ts μ1 g1 S1 hp r h1⟩) tk)
/-- a new thing, frozen at once -/
theorem pj_fz {e a} (h : PN X c e a) : PJ X c e a := fun ρ μ φ ε hw W σ Q Sx k tk =>
  h ρ μ φ ε hw W σ Q Sx (fun W1 p vs ts μ1 g1 S1 hp r h1 => by
      obtain ⟨g, S'⟩ := S1.newF (o := .lst vs) hp
      exact k _ _ _ μ1 (g1.trans g) S' (.inl (.lst upd_same (r.mono g.t g.f))) h1)
    (fun W1 p us kvs μ1 g1 S1 hp e r h1 => by
      obtain ⟨g, S'⟩ := S1.newF (o := .dK us) hp
      exact k _ _ _ μ1 (g1.trans g) S' (.inl (.dK upd_same e (r.mono g.t g.f))) h1)
    (fun W1 p us kvs μ1 g1 S1 hp e r h1 => by
      obtain ⟨g, S'⟩ := S1.newF (o := DXO X.w p us) hp
      exact k _ _ _ μ1 (g1.trans g) S' (.inl ((r.mono g.t g.f).rv upd_same)) h1) tk
theorem own1 {W : Wd} {p : Addr} {o : HO} (hp : W.H p = none) : (∀ x, W.H x ≠ none → upd W.H p o x = W.H x) ∧ (∀ x ∈ [p], W.H x = none ∧ upd W.H p o x ≠ none) :=
  ⟨fun x hx => upd_ne fun e => by subst e; exact hx hp, fun x hx => by
    have : x = p := by simpa using hx
    subst this
    exact ⟨hp, by rw [upd_same]; exact fun z => nomatch z⟩⟩
theorem len_get {α : Type} {l : List α} {a : α} {m : Nat} (h : l.length = m) : (l ++ [a])[0 + m]? = some a := by
  rw [← h, Nat.zero_add, List.getElem?_append_right (Nat.le_refl _), Nat.sub_self]
  rfl
end
end Is

/-! Ii: more expressions. -/
namespace Is
open PySem PySem.Spec PyProof.Rows L2 Wx
open Ir (Tr Cel Mem Ev EK SK Con Tg Op Cm I Sm wp wps)
section
variable {X : Cx} {c : Nat → Addr} {n : Nat} {pos : Pos} {W : Wd} {σ : L2.St} {ρ : Ev} {μ : Mem}
/-! ### a cell is given out, frozen -/
/-! ### subscripts -/
theorem at_get {vs : List V} {ts : List Tr} {B : Bs} {H F : Hp} {i : Int} {t : Tr} (r : Rvs B H F vs ts) (h : Ir.atT ts i = some t) : ∃ v, atI vs i = some v ∧ Rv B H F v t := by
  unfold Ir.atT at h
  obtain ⟨j, hj, h⟩ := Option.bind_eq_some_iff.mp h
  obtain ⟨v, hv, rv⟩ := r.get' h
  refine ⟨v, ?_, rv⟩
  unfold atI
  rw [r.length, show ixN ts.length i = some j from hj]
  exact hv
theorem ixK_ok {x z : Tr} {v y : V} {k : Tr → Prop} {Q : VK} (f : Cf X n) (Sx : Sa (XB X c) W σ ρ μ) (r1 : Rw (XB X c) W v x) (r2 : Rp (XB X c) W y z) (h : Ir.ixK x z k)
    (q : ∀ u t, Rv (XB X c) W.H W.F u t → k t → Q u W.H) : WIx X v y W.H Q := by
  unfold Ir.ixK at h
  split at h
  · have r2 := r2.rv (by intro i e; cases e)
    cases r2
    obtain ⟨a, vs, rfl, h1, h2⟩ := r1
    obtain ⟨t, ht, h⟩ := h
    obtain ⟨u, hu, ru⟩ := at_get h2 ht
    exact wix_l h1 hu (q u t ru h)
  · have r2 := r2.rv (by intro i e; cases e)
    cases r2
    cases r1 with
    | tup h1 h2 =>
      obtain ⟨t, ht, h⟩ := h
      obtain ⟨u, hu, ru⟩ := at_get h2 ht
      exact wix_t h1.sq hu (q u t ru h)
  · have r2 := r2.rv (by intro i e; cases e)
    cases r2
    cases r1 with
    | kup h1 h2 =>
      obtain ⟨t, ht, h⟩ := h
      obtain ⟨u, hu, ru⟩ := at_get h2 ht
      exact wix_t (Sx.kup h1) hu (q u t ru h)
  · have r2 := r2.rv (by intro i e; cases e)
    cases r2
    cases r1
    obtain ⟨hz, h⟩ := Ir.szK_le h
    obtain ⟨c0, hc, h⟩ := h
    exact wix_s (by rw [S_len]; exact hz) (by rw [S_list]; exact hc) (q _ _ (.str [c0]) h)
  · obtain ⟨hk, t, ht, h⟩ := h
    have r2' : Rv (XB X c) W.H W.F y z := by
      refine r2.rv fun i e => ?_
      subst e
      rename_i b kvs
      cases b <;> exact absurd hk Bool.false_ne_true
    obtain ⟨a, o, rfl, h1, h2, h3⟩ := dget_ok Sx r1 r2' hk
    rcases h3 with ⟨rfl, e⟩ | ⟨u, t', rfl, e, ru⟩
    · rw [e] at ht; cases ht
    · rw [e] at ht
      cases ht
      exact wix_g f.hu64 h2 (q u t ru h)
  · exact h.elim
theorem pj_ix {a b x y} (f : Cf X n) (ha : PJ X c a x) (hb : PJ X c b y) (hs : PlainIx b := by exact fun _ _ => rfl) : PJ X c (.Subscript a b pos) (.ix x y) := fun ρ μ φ ε h W σ Q Sx k tk =>
  we_ix (ha ρ μ _ ε h W σ _ Sx (fun W1 v1 t1 μ1 g1 S1 r1 h1 => hb ρ μ1 _ ε h1 W1 σ _ S1 (fun W2 v2 t2 μ2 g2 S2 r2 h2 => by
    obtain ⟨t1', r1', h2⟩ := (r1.go g2).view S2 h2
    exact ixK_ok f S2 r1' r2 h2 fun u t ru hk => k W2 u t μ2 (g1.trans g2) S2 (.inl ru) hk) (tk_go g1 tk)) tk) hs
/-! ### slices -/
theorem int_of {B : Bs} {W : Wd} {v : V} {i : Int} (r : Rp B W v (.int i)) : v = .int i := by
  have r := r.rv (by intro i e; cases e)
  cases r
  rfl
section
variable {e lo hi : Expr} {x l h : I} {p2 : Pos}
end
/-! ### star -/
theorem Rps.app {B : Bs} {W : Wd} {vs ws : List V} {ts us : List Tr} (a : Rps B W vs ts) (b : Rps B W ws us) : Rps B W (vs ++ ws) (ts ++ us) := by
  induction a with
  | nil => exact b
  | cons h _ ih => exact .cons h ih
theorem pa_star {e es p a b} (ha : PJ X c e a) (hb : PA X c es b) (hs : starEach (.Starred e p :: es) X.env = (true, eval e X.env) :: starEach es X.env := by rfl) : PA X c (.Starred e p :: es) (.star a b) := fun ρ μ ψ ε h W σ Q Sx k tk => by
  refine wa_star (ha ρ μ _ ε h W σ _ Sx (fun W1 v1 t1 μ1 g1 S1 r1 h1 => ?_) tk) hs
  obtain ⟨t', r', h1⟩ := r1.view S1 h1
  unfold Ir.sqLT at h1
  have go : ∀ (a0 : Addr) (vs : List V) (zs : List Tr), v1 = .ref a0 → (SqT X.K W1.H a0 vs ∨ SqL X.K W1.H a0 vs) → Rvs (XB X c) W1.H W1.F vs zs → wp b ρ μ1 (fun y μ => match y with | .tup xs => Ir.szK (zs.length + xs.length) (ψ (zs ++ xs) μ) | _ => False) ε → ∃ a xs, v1 = V.ref a ∧ (SqT X.K W1.H a xs ∨ SqL X.K W1.H a xs) ∧ WA X es σ W1.H fun ys H2 => Q (xs ++ ys) H2 := fun a0 vs zs e0 hsq r hw => by
    refine ⟨a0, vs, e0, hsq, hb ρ μ1 (fun xs μ => Ir.szK (zs.length + xs.length) (ψ (zs ++ xs) μ)) ε hw W1 σ _ S1 (fun W2 ws ts μ2 g2 S2 r2 h2 => ?_) (tk_go g1 tk)⟩
    obtain ⟨_, h2⟩ := Ir.szK_le h2
    refine k W2 _ _ μ2 (g1.trans g2) S2 ?_ h2
    exact (Rps.of (B := XB X c) (W := W2) (r.mono g2.t g2.f)).app r2
  split at h1
  · obtain ⟨a0, vs, e0, h3, h4⟩ := r'
    exact go a0 vs _ e0 (.inr h3) h4 h1
  · cases r' with
    | tup h3 h4 => exact go _ _ _ rfl (.inl h3.sq) h4 h1
  · cases r' with
    | kup h3 h4 => exact go _ _ _ rfl (.inl (S1.kup h3)) h4 h1
  · exact h1.elim
end
end Is

/-! Ij: built-ins. -/
namespace Is
open PySem PySem.Spec PyProof.Rows L2 Wx
open Ir (Tr Cel Mem Ev EK SK Con Tg Op Cm I Sm wp wps)
section
variable {X : Cx} {c : Nat → Addr} {n : Nat} {pos p0 : Pos} {W : Wd} {σ : L2.St} {ρ : Ev} {μ : Mem}
/-- the argument of a built-in of one argument -/
theorem call1 {e : Expr} {a : I} {f : Value} (ha : PJ X c e a) {ρ μ ε} {ψ : Tr → Mem → Prop} (h : wp a ρ μ (fun x μ => Ir.tv μ x fun x => ψ x μ) ε) {W : Wd} {σ} {Q : VK} (Sx : Sa (XB X c) W σ ρ μ)
    (k : ∀ W' v t μ', Go W W' → Sa (XB X c) W' σ ρ μ' → Rw (XB X c) W' v t → ψ t μ' → WC X f [v] W'.H Q) (tk : Takes X (xW (XB X c) W σ ρ ε)) (hs : starEach [e] X.env = (false, eval e X.env) :: starEach [] X.env := by rfl) : WA X [e] σ W.H fun xs H1 => WC X f xs H1 Q :=
  wa_cons (ha ρ μ _ ε h W σ _ Sx (fun W1 v1 t1 μ1 g1 S1 r1 h1 => by
    obtain ⟨t', r', h1⟩ := r1.view S1 h1
    exact wa_nil (k W1 v1 t' μ1 g1 S1 r' h1)) tk) hs
theorem wp1 {f : Ir.Bl} {a : I} {ρ μ φ ε} (h : wp (.blt f (.cons a .nil)) ρ μ φ ε) : wp a ρ μ (fun x μ => Ir.tv μ x fun x => Ir.bltK f [x] fun t => φ t μ) ε := h
theorem pj_len {e a} (hm : X.mg "len" = none) (ha : PJ X c e a) (hs : starEach [e] X.env = (false, eval e X.env) :: starEach [] X.env := by rfl) (hg : Gl X "len" := by rfl) : PJ X c (.Call (.Name "len" p0) [e] [] pos) (.blt .len (.cons a .nil)) := fun ρ μ φ ε h W σ Q Sx k tk =>
  we_len hm (call1 ha (wp1 h) Sx (fun W1 v t μ1 g1 S1 r1 h1 => by
    cases t with
    | lst ts =>
      obtain ⟨a0, vs, rfl, h3, h4⟩ := r1
      exact wc_lenL h3 (by rw [h4.length]; exact k W1 _ _ μ1 g1 S1 (.inl (.int _)) h1)
    | tup ts => cases r1 with | tup h3 h4 => exact wc_lenT h3.sq (by rw [h4.length]; exact k W1 _ _ μ1 g1 S1 (.inl (.int _)) h1)
    | ktup ts => cases r1 with | kup h3 h4 => exact wc_lenT (S1.kup h3) (by rw [h4.length]; exact k W1 _ _ μ1 g1 S1 (.inl (.int _)) h1)
    | str l =>
      cases r1
      obtain ⟨hz, h1⟩ := Ir.szK_le h1
      exact wc_lenSS hz (k W1 _ _ μ1 g1 S1 (.inl (.int _)) h1)
    | _ => exact h1.elim) tk hs) hg hs rfl
/-! ### isinstance -/
end
end Is

/-! Ik: isinstance, fields, texts, dicts. -/
namespace Is
open PySem PySem.Spec PyProof.Rows L2 Wx
open Ir (Tr Cel Mem Ev EK SK Con Tg Op Cm I Sm wp wps)
open Ir (Ty)
section
variable {X : Cx} {c : Nat → Addr} {n : Nat} {pos p0 p1 : Pos} {W : Wd} {σ : L2.St} {ρ : Ev} {μ : Mem}
/-! ### fields -/
/-! ### texts -/
/-! ### dicts -/
end
end Is

/-! Il: calls. -/
namespace Is
open PySem PySem.Spec PyProof.Rows L2 Wx
open Ir (Tr Cel Mem Ev EK SK Con Tg Op Cm I Sm wp wps)
/-! ### several places set -/
def setAll {α : Type} : List α → List Nat → List α → List α
  | l, i :: is, x :: xs => setAll (l.set i x) is xs
  | l, _, _ => l
theorem setAll_len {α : Type} : ∀ (l : List α) (is : List Nat) (xs : List α), (setAll l is xs).length = l.length
  | l, [], xs => by unfold setAll; rfl
  | l, i :: is, [] => by unfold setAll; rfl
  | l, i :: is, x :: xs => by unfold setAll; rw [setAll_len, List.length_set]
theorem setAll_out {α : Type} : ∀ (l : List α) (is : List Nat) (xs : List α) (j : Nat), j ∉ is → (setAll l is xs)[j]? = l[j]?
  | l, [], xs, j, _ => by unfold setAll; rfl
  | l, i :: is, [], j, _ => by unfold setAll; rfl
  | l, i :: is, x :: xs, j, h => by
    unfold setAll
    rw [setAll_out _ _ _ _ (fun e => h (List.mem_cons_of_mem _ e)), List.getElem?_set_ne (fun e => h (by rw [← e]; exact List.mem_cons_self))]
theorem setAll_in {α : Type} : ∀ (l : List α) (is : List Nat) (xs : List α) (k j : Nat), is.Nodup → is.length = xs.length → is[k]? = some j → j < l.length → (setAll l is xs)[j]? = xs[k]?
  | l, [], xs, k, j, _, _, h, _ => by simp at h
  | l, i :: is, [], k, j, _, hl, _, _ => by cases hl
  | l, i :: is, x :: xs, 0, j, nd, hl, h, hj => by
    simp at h
    subst h
    unfold setAll
    rw [setAll_out _ _ _ _ (List.nodup_cons.mp nd).1, List.getElem?_set_self hj]
    rfl
  | l, i :: is, x :: xs, k + 1, j, nd, hl, h, hj => by
    unfold setAll
    rw [setAll_in _ is xs k j (List.nodup_cons.mp nd).2 (by simpa using hl) (by simpa using h) (by rw [List.length_set]; exact hj)]
    rfl
theorem nd_each : ∀ {O : List (List Addr)} {i : Nat} {fp}, O.flatten.Nodup → O[i]? = some fp → fp.Nodup
  | [], i, fp, _, hi => by simp at hi
  | o :: O, 0, fp, h, hi => by
    simp at hi; subst hi
    rw [List.flatten_cons, List.nodup_append] at h
    exact h.1
  | o :: O, i + 1, fp, h, hi => by
    rw [List.flatten_cons, List.nodup_append] at h
    exact nd_each h.2.1 (by simpa using hi)
theorem nd_of : ∀ {O : List (List Addr)}, (∀ (i : Nat) fp, O[i]? = some fp → fp.Nodup) → (∀ (i j : Nat) fp fq x, O[i]? = some fp → O[j]? = some fq → x ∈ fp → x ∈ fq → i = j) → O.flatten.Nodup
  | [], _, _ => List.nodup_nil
  | o :: O, h1, h2 => by
    rw [List.flatten_cons, List.nodup_append]
    refine ⟨h1 0 o rfl, nd_of (fun i fp hi => h1 (i + 1) fp (by simpa using hi)) (fun i j fp fq x hi hj hx hy => ?_), fun x hx y hy e => ?_⟩
    · have := h2 (i + 1) (j + 1) fp fq x (by simpa using hi) (by simpa using hj) hx hy
      omega
    · subst e
      obtain ⟨l, hl, hy⟩ := List.mem_flatten.mp hy
      obtain ⟨i, hi⟩ := List.mem_iff_getElem?.mp hl
      have := h2 0 (i + 1) o l x rfl (by simpa using hi) hx hy
      omega
/-! ### the cells that are handed over -/
section
variable {B : Bs} {W : Wd} {σ : L2.St} {ρ : Ev} {μ : Mem}
def pickA {α : Type} (l : List α) (is : List Nat) : List α := is.filterMap fun i => l[i]?
theorem pickA_get {α : Type} {l : List α} : ∀ {is : List Nat}, (∀ i ∈ is, i < l.length) → (pickA l is).length = is.length ∧ ∀ (k j : Nat), is[k]? = some j → (pickA l is)[k]? = l[j]?
  | [], _ => ⟨rfl, fun k j h => by simp at h⟩
  | i :: is, h => by
    obtain ⟨h1, h2⟩ := pickA_get (l := l) (is := is) fun j hj => h j (List.mem_cons_of_mem _ hj)
    have hi := h i List.mem_cons_self
    have e : pickA l (i :: is) = l[i] :: pickA l is := by
      unfold pickA
      rw [List.filterMap_cons, List.getElem?_eq_getElem hi]
    rw [e]
    refine ⟨by rw [List.length_cons, List.length_cons, h1], fun k j hk => ?_⟩
    cases k with
    | zero => simp at hk; subst hk; rw [List.getElem?_eq_getElem hi]; rfl
    | succ k => simpa using h2 k j (by simpa using hk)
/-- what is not handed over -/
def restO (O : List (List Addr)) (is : List Nat) (x : Addr) : Prop := ∃ (i : Nat) (fp : List Addr), i ∉ is ∧ O[i]? = some fp ∧ x ∈ fp
open Classical in
noncomputable def calW (W : Wd) (is : List Nat) : Wd := ⟨pickA W.A is, pickA W.O is, fun x => if restO W.O is x then W.H x else W.G x, W.F, W.H⟩
open Classical in
noncomputable def retW (W W' : Wd) (is : List Nat) : Wd := ⟨W.A, setAll W.O is W'.O, fun x => if restO W.O is x then none else W'.G x, W'.F, W'.H⟩
open Classical in
theorem Sa.calW (S : Sa B W σ ρ μ) {is : List Nat} (hi : ∀ i ∈ is, i < μ.length) (nd : is.Nodup) : Sa B (calW W is) [] [] (pickA μ is) := by
  have hA : ∀ i ∈ is, i < W.A.length := fun i h => by rw [S.lA]; exact hi i h
  have hO : ∀ i ∈ is, i < W.O.length := fun i h => by rw [S.lO]; exact hi i h
  obtain ⟨a1, a2⟩ := pickA_get (l := W.A) hA
  obtain ⟨o1, o2⟩ := pickA_get (l := W.O) hO
  obtain ⟨m1, m2⟩ := pickA_get (l := μ) hi
  have hk : ∀ (k : Nat) {α : Type} (l : List α) (x : α), (pickA l is).length = is.length → (pickA l is)[k]? = some x → ∃ j, is[k]? = some j := fun k α l x hl h => by
    have : k < is.length := by rw [← hl]; exact (List.getElem?_eq_some_iff.mp h).1
    exact ⟨is[k], List.getElem?_eq_getElem this⟩
  have hin : ∀ x ∈ (pickA W.O is).flatten, ∃ (j : Nat) (fp : List Addr), j ∈ is ∧ W.O[j]? = some fp ∧ x ∈ fp := fun x hx => by
    obtain ⟨l, hl, hx⟩ := List.mem_flatten.mp hx
    obtain ⟨k, hk'⟩ := List.mem_iff_getElem?.mp hl
    obtain ⟨j, hj⟩ := hk k W.O l o1 hk'
    exact ⟨j, l, List.mem_of_getElem? hj, by rw [← o2 k j hj]; exact hk', hx⟩
  refine ⟨fun x o hx => ?_, fun x o hx => ?_, fun i t h => by simp at h, by rw [m1]; exact a1, by rw [m1]; exact o1, fun k cl hc => ?_, ?_, fun x hx => ?_, rfl⟩
  · have hx : (if restO W.O is x then W.H x else W.G x) = some o := hx
    split at hx
    · exact hx
    · exact S.gh x o hx
  · have hx : W.F x = some o := hx
    have hn : ¬ restO W.O is x := fun ⟨i, fp, _, h2, h3⟩ => by
      have := S.fnone (S.own x (flat_get h2 h3)).1
      rw [this] at hx; cases hx
    rcases S.fg x o hx with h1 | ⟨⟨b, h1⟩, h2⟩
    · exact .inl ((if_neg hn).trans h1)
    · exact .inr ⟨⟨b, (if_neg hn).trans h1⟩, h2⟩
  · obtain ⟨j, hj⟩ := hk k μ cl m1 hc
    rw [m2 k j hj] at hc
    obtain ⟨a, fp, h1, h2, h3⟩ := S.mem j cl hc
    exact ⟨a, fp, (a2 k j hj).trans h1, (o2 k j hj).trans h2, h3⟩
  · refine nd_of (fun k fp h => ?_) fun k l fp fq x h1 h2 hx hy => ?_
    · obtain ⟨j, hj⟩ := hk k W.O fp o1 h
      rw [show (Is.calW W is).O[k]? = W.O[j]? from o2 k j hj] at h
      exact nd_each S.nd h
    · obtain ⟨j, hj⟩ := hk k W.O fp o1 h1
      obtain ⟨i, hi'⟩ := hk l W.O fq o1 h2
      rw [show (Is.calW W is).O[k]? = W.O[j]? from o2 k j hj] at h1
      rw [show (Is.calW W is).O[l]? = W.O[i]? from o2 l i hi'] at h2
      have := nd_apart S.nd h1 h2 hx hy
      subst this
      exact (List.getElem?_inj (List.getElem?_eq_some_iff.mp hj).1 nd).mp (hj.trans hi'.symm)
  · obtain ⟨j, fp, h1, h2, h3⟩ := hin x hx
    have h4 := S.own x (flat_get h2 h3)
    refine ⟨?_, h4.2⟩
    show (if restO W.O is x then W.H x else W.G x) = none
    rw [if_neg]
    · exact h4.1
    · rintro ⟨i, fq, n1, n2, n3⟩
      have := nd_apart S.nd n2 h2 n3 h3
      subst this
      exact n1 h1
open Classical in
/-- back from the callee -/
theorem Sa.retW {W' : Wd} {cs : List Cel} (S : Sa B W σ ρ μ) {is : List Nat} (hi : ∀ i ∈ is, i < μ.length) (nd : is.Nodup) (g : Go (Is.calW W is) W') (S' : Sa B W' [] [] cs) (hl : cs.length = is.length) : Go W (retW W W' is) ∧ Sa B (retW W W' is) σ ρ (setAll μ is cs) := by
  have hO : ∀ i ∈ is, i < W.O.length := fun i h => by rw [S.lO]; exact hi i h
  have hA : ∀ i ∈ is, i < W.A.length := fun i h => by rw [S.lA]; exact hi i h
  obtain ⟨a1, a2⟩ := pickA_get (l := W.A) hA
  have rn : ∀ x, restO W.O is x → W.G x = none ∧ W.H x ≠ none ∧ W.F x = none := fun x ⟨i, fp, _, h2, h3⟩ => by
    have := S.own x (flat_get h2 h3)
    exact ⟨this.1, this.2, S.fnone this.1⟩
  have rk : ∀ x, restO W.O is x → W'.G x = W.H x := fun x hx => by
    cases e : W.H x with
    | none => exact absurd e (rn x hx).2.1
    | some o => exact g.g x o ((if_pos hx).trans e)
  have rh : ∀ x, restO W.O is x → W'.H x = W.H x := fun x hx => by
    cases e : W.H x with
    | none => exact absurd e (rn x hx).2.1
    | some o => exact S'.gh x o ((rk x hx).trans e)
  have gG : ∀ x o, W.G x = some o → W'.G x = some o ∧ ¬ restO W.O is x := fun x o hx => by
    have hn : ¬ restO W.O is x := fun h => by rw [(rn x h).1] at hx; cases hx
    exact ⟨g.g x o ((if_neg hn).trans hx), hn⟩
  have fr : ∀ x, restO W.O is x → W'.F x = none := fun x hx => g.n x (by
    show (if restO W.O is x then W.H x else W.G x) ≠ none
    rw [if_pos hx]; exact (rn x hx).2.1) (rn x hx).2.2
  have gg : Go W (Is.retW W W' is) := ⟨fun x o hx => (if_neg (gG x o hx).2).trans (gG x o hx).1, g.f, g.t, fun x h1 h2 => by
    cases e : W.G x with
    | none => exact absurd e h1
    | some o => exact g.n x (by
        show (if restO W.O is x then W.H x else W.G x) ≠ none
        rw [if_neg (gG x o e).2]; exact h1) h2, fun i a h => h⟩
  have hl2 : is.length = W'.O.length := by rw [S'.lO, hl]
  have opt : ∀ (i : Nat) fp, (setAll W.O is W'.O)[i]? = some fp → (i ∉ is ∧ W.O[i]? = some fp) ∨ ∃ k, is[k]? = some i ∧ W'.O[k]? = some fp := fun i fp h => by
    by_cases hm : i ∈ is
    · obtain ⟨k, hk⟩ := List.mem_iff_getElem?.mp hm
      rw [setAll_in W.O is W'.O k i nd hl2 hk (hO i hm)] at h
      exact .inr ⟨k, hk, h⟩
    · rw [setAll_out _ _ _ _ hm] at h
      exact .inl ⟨hm, h⟩
  have apart : ∀ (k : Nat) fq x, W'.O[k]? = some fq → x ∈ fq → ¬ restO W.O is x := fun k fq x hk hx hr => by
    have := (S'.own x (flat_get hk hx)).1
    rw [rk x hr] at this
    exact (rn x hr).2.1 this
  refine ⟨gg, ⟨fun x o hx => ?_, fun x o hx => ?_, fun i t h => ?_, by rw [setAll_len]; exact S.lA, by show (setAll W.O is W'.O).length = _; rw [setAll_len, setAll_len]; exact S.lO, fun i cl hc => ?_, ?_, fun x hx => ?_, S.ln⟩⟩
  · have hx : (if restO W.O is x then none else W'.G x) = some o := hx
    split at hx
    · cases hx
    · exact S'.gh x o hx
  · have hx : W'.F x = some o := hx
    have hn : ¬ restO W.O is x := fun h => by rw [fr x h] at hx; cases hx
    rcases S'.fg x o hx with h1 | ⟨⟨b, h1⟩, h2⟩
    · exact .inl ((if_neg hn).trans h1)
    · exact .inr ⟨⟨b, (if_neg hn).trans h1⟩, h2⟩
  · obtain ⟨v, h1, h2⟩ := S.env i t h
    exact ⟨v, h1, h2.go gg⟩
  · by_cases hm : i ∈ is
    · obtain ⟨k, hk⟩ := List.mem_iff_getElem?.mp hm
      rw [setAll_in μ is cs k i nd hl.symm hk (hi i hm)] at hc
      obtain ⟨a, fp, h1, h2, h3⟩ := S'.mem k cl hc
      obtain ⟨a0, ha0⟩ : ∃ a0, W.A[i]? = some a0 := ⟨W.A[i]'(hA i hm), List.getElem?_eq_getElem _⟩
      have := g.p k a0 ((a2 k i hk).trans ha0)
      rw [this] at h1
      cases h1
      exact ⟨a, fp, ha0, (setAll_in W.O is W'.O k i nd hl2 hk (hO i hm)).trans h2, h3⟩
    · rw [setAll_out _ _ _ _ hm] at hc
      obtain ⟨a, fp, h1, h2, h3⟩ := S.mem i cl hc
      exact ⟨a, fp, h1, (setAll_out _ _ _ _ hm).trans h2, h3.frame (fun x hx => rh x ⟨i, fp, hm, h2, hx⟩) g.t g.f⟩
  · refine nd_of (fun i fp h => ?_) fun i j fp fq x h1 h2 hx hy => ?_
    · rcases opt i fp h with ⟨_, h⟩ | ⟨k, _, h⟩
      · exact nd_each S.nd h
      · exact nd_each S'.nd h
    · rcases opt i fp h1 with ⟨n1, h1⟩ | ⟨k, k1, h1⟩
      · rcases opt j fq h2 with ⟨n2, h2⟩ | ⟨l, l1, h2⟩
        · exact nd_apart S.nd h1 h2 hx hy
        · exact absurd ⟨i, fp, n1, h1, hx⟩ (apart l fq x h2 hy)
      · rcases opt j fq h2 with ⟨n2, h2⟩ | ⟨l, l1, h2⟩
        · exact absurd ⟨j, fq, n2, h2, hy⟩ (apart k fp x h1 hx)
        · have := nd_apart S'.nd h1 h2 hx hy
          subst this
          rw [k1] at l1
          exact Option.some.inj l1
  · obtain ⟨l, hl', hx'⟩ := List.mem_flatten.mp hx
    obtain ⟨i, hi'⟩ := List.mem_iff_getElem?.mp hl'
    rcases opt i l hi' with ⟨n1, h1⟩ | ⟨k, k1, h1⟩
    · have hr : restO W.O is x := ⟨i, l, n1, h1, hx'⟩
      refine ⟨if_pos hr, ?_⟩
      show W'.H x ≠ none
      rw [rh x hr]; exact (rn x hr).2.1
    · have h2 := S'.own x (flat_get h1 hx')
      exact ⟨(if_neg (apart k l x h1 hx')).trans h2.1, h2.2⟩
/-! ### a call by the callee's contract -/
theorem renum_at {k : List Tr → List Nat → Prop} : ∀ {xs : List Tr} {n : Nat}, Ir.renum xs n k → ∃ us is, k us is ∧ ∀ {vs : List V} {W : Wd} {A' : List Addr}, Rps B W vs xs → (∀ (j i : Nat) a, is[j]? = some i → W.A[i]? = some a → A'[n + j]? = some a) → ∀ W' : Wd, W'.A = A' → W'.H = W.H → W'.F = W.F → Rps B W' vs us
  | [], n, h => ⟨[], [], h, fun r _ W' _ _ _ => by cases r; exact .nil⟩
  | t :: ts, n, h => by
    cases t with
    | ptr i =>
      obtain ⟨us, is, h1, h2⟩ := renum_at (k := fun us is => k (.ptr n :: us) (i :: is)) (xs := ts) h
      refine ⟨_, _, h1, fun r hA W' e1 e2 e3 => ?_⟩
      cases r with
      | cons a b =>
        obtain ⟨a0, rfl, ha⟩ := a.ptr
        refine .cons (.inr ⟨n, a0, rfl, rfl, ?_⟩) (h2 b (fun j i' a hj ha' => ?_) W' e1 e2 e3)
        · rw [e1]; exact hA 0 i a0 rfl ha
        · rw [show n + 1 + j = n + (j + 1) by omega]; exact hA (j + 1) i' a (by simpa using hj) ha'
    | _ =>
      obtain ⟨us, is, h1, h2⟩ := renum_at (k := fun us is => k (_ :: us) is) (xs := ts) h
      refine ⟨_, _, h1, fun r hA W' e1 e2 e3 => ?_⟩
      cases r with
      | cons a b =>
        refine .cons (.inl ?_) (h2 b hA W' e1 e2 e3)
        rw [e2, e3]
        exact a.rv (by intro i e; cases e)
theorem pickK_at {k : List Cel → Prop} : ∀ {is : List Nat}, Ir.pickK μ is k → (∀ i ∈ is, i < μ.length) ∧ k (pickA μ is)
  | [], h => ⟨fun i hi => by simp at hi, h⟩
  | i :: is, h => by
    obtain ⟨cl, hc, h⟩ := celK_at h
    obtain ⟨h1, h2⟩ := pickK_at (k := fun cs => k (cl :: cs)) h
    have hi := (List.getElem?_eq_some_iff.mp hc).1
    refine ⟨fun j hj => ?_, ?_⟩
    · rcases List.mem_cons.mp hj with rfl | hj
      · exact hi
      · exact h1 j hj
    · unfold pickA
      rw [List.filterMap_cons, hc]
      exact h2
theorem dupF_nd : ∀ {is : List Nat}, Ir.dupF is = true → is.Nodup
  | [], _ => List.nodup_nil
  | i :: is, h => by
    unfold Ir.dupF at h
    rw [Bool.and_eq_true] at h
    refine List.nodup_cons.mpr ⟨fun hm => ?_, dupF_nd h.2⟩
    have := h.1
    simp at this
    exact this hm
theorem backK_at {k : Mem → Prop} : ∀ {μ : Mem} {is : List Nat} {cs : List Cel}, Ir.backK μ is cs k → cs.length = is.length ∧ k (setAll μ is cs)
  | μ, [], [], h => ⟨rfl, h⟩
  | μ, [], _ :: _, h => h.elim
  | μ, _ :: _, [], h => h.elim
  | μ, i :: is, c :: cs, h => by
    have h := cputK_at h
    obtain ⟨h1, h2⟩ := backK_at h
    exact ⟨by rw [List.length_cons, List.length_cons, h1], h2⟩
def spOf (cl : Nat → Addr) (w : World) (K : PySem.W.Frag) (con : Con) : Sp := fun vs H Q E => ∃ W ts μ φ ε, W.H = H ∧ Sa ⟨K, cl, w⟩ W [] [] μ ∧ Rps ⟨K, cl, w⟩ W vs ts ∧ con ts μ φ ε ∧
  (∀ W' v t μ', Go W W' → Sa ⟨K, cl, w⟩ W' [] [] μ' → Rp ⟨K, cl, w⟩ W' v t → φ t μ' → Q v W'.H) ∧ (∀ W' cls d t μ', Go W W' → Sa ⟨K, cl, w⟩ W' [] [] μ' → Rx ⟨K, cl, w⟩ W' cls d t → ε t μ' → E cls d W'.H)
theorem call_frame {cl : Nat → Addr} {w : World} {K : PySem.W.Frag} {con : Con} {vs : List V} {ts : List Tr} {φ ε : EK} {Q : VK} {E : XK} (S1 : Sa ⟨K, cl, w⟩ W σ ρ μ) (r : Rps ⟨K, cl, w⟩ W vs ts) (h : Ir.callK con ts μ φ ε)
    (k : ∀ W' v t μ', Go W W' → Sa ⟨K, cl, w⟩ W' σ ρ μ' → Rp ⟨K, cl, w⟩ W' v t → φ t μ' → Q v W'.H) (kE : ∀ W' cls d t μ', Go W W' → Sa ⟨K, cl, w⟩ W' σ ρ μ' → Rx ⟨K, cl, w⟩ W' cls d t → ε t μ' → E cls d W'.H) : spOf cl w K con vs W.H Q E := by
  unfold Ir.callK at h
  obtain ⟨us, is, h1, h2⟩ := renum_at (B := ⟨K, cl, w⟩) h
  have main : ∀ (hi : ∀ i ∈ is, i < μ.length) (nd : is.Nodup) (φ' ε' : EK), con us (pickA μ is) φ' ε' → (∀ t cs, φ' t cs → (∀ i, t ≠ .ptr i) ∧ cs.length = is.length ∧ φ t (setAll μ is cs)) → (∀ t cs, ε' t cs → cs.length = is.length ∧ ε t (setAll μ is cs)) → spOf cl w K con vs W.H Q E := fun hi nd φ' ε' hc hφ hε => by
    have hA : ∀ i ∈ is, i < W.A.length := fun i h => by rw [S1.lA]; exact hi i h
    obtain ⟨a1, a2⟩ := pickA_get (l := W.A) hA
    refine ⟨calW W is, us, pickA μ is, φ', ε', rfl, S1.calW hi nd, h2 r (A' := pickA W.A is) (fun j i a hj ha => by rw [Nat.zero_add]; exact (a2 j i hj).trans ha) _ rfl rfl rfl, hc, fun W' v t cs g S' rv hh => ?_, fun W' cls d t cs g S' rx hh => ?_⟩
    · obtain ⟨n1, n2, n3⟩ := hφ t cs hh
      obtain ⟨g2, S2⟩ := S1.retW hi nd g S' n2
      exact k (retW W W' is) v t _ g2 S2 (.inl (rv.rv n1)) n3
    · obtain ⟨n2, n3⟩ := hε t cs hh
      obtain ⟨g2, S2⟩ := S1.retW hi nd g S' n2
      exact kE (retW W W' is) cls d t _ g2 S2 rx n3
  cases is with
  | nil =>
    refine main (fun i hi => by simp at hi) List.nodup_nil _ _ h1 (fun t cs ht => ?_) (fun t cs ht => ?_)
    · split at ht
      · exact ht.elim
      · rename_i hn
        exact ⟨fun i e => hn i e, rfl, ht⟩
      · exact ht.elim
    · split at ht
      · exact ht.elim
      · exact ⟨rfl, ht⟩
      · exact ht.elim
  | cons i is =>
    obtain ⟨hd, h1⟩ := h1
    obtain ⟨hi, h1⟩ := pickK_at h1
    refine main hi (dupF_nd hd) _ _ h1 (fun t cs ht => ?_) (fun t cs ht => ?_)
    · split at ht
      · exact ht.elim
      · rename_i hn
        obtain ⟨q1, q2⟩ := backK_at ht
        exact ⟨fun i e => hn i e, q1, q2⟩
    · split at ht
      · exact ht.elim
      · obtain ⟨q1, q2⟩ := backK_at ht
        exact ⟨q1, q2⟩
end
section
variable {X : Cx} {c : Nat → Addr} {pos p0 : Pos}
theorem pj_call {x : Str} {e es a con k} (C : Cal X.prog X.w X.K X.mg X.base (L2.CX X.prog X.w) k x (spOf c X.w X.K con)) (hr : Room k X.A) (ha : PA X c (e :: es) a) (hg : Gl X x := by rfl) (hdb : (x == ("__debug__" : Str)) = false := by decide) (he : starEach (e :: es) X.env = (false, eval e X.env) :: starEach es X.env := by rfl)
    (hpl : (backTo pos (starEach es X.env)).any (·.1) = false := by rfl) : PJ X c (.Call (.Name x p0) (e :: es) [] pos) (.call con a) := fun ρ μ φ ε h W σ Q Sx k tk => by
  obtain ⟨f, fd, ps, F, hm, hk, hb⟩ := C.ex
  refine WE.of (pe_callS F hr hg hm hk hb (fun σ' => passAt tk σ') pa_w hdb he hpl) ?_
  exact ha ρ μ (fun xs μ => Ir.callK con xs μ φ ε) ε h W σ _ Sx (fun W1 vs ts μ1 g1 S1 r1 h1 => call_frame S1 r1 h1 (fun W' v t μ' g S' r hh => k W' v t μ' (g1.trans g) S' r hh) fun W' cls d t μ' g S' rx hh => ⟨rfl, W', t, μ', rfl, g1.trans g, S', rx, hh⟩) tk
end
end Is

/-! Wz: a, b, c = text. -/
namespace L2
open PySem PySem.Spec PyProof.Rows
section
variable {prog : Program} {w : World} {A : Around} {E : Value → Shared → Prop}
theorem draw_walks {I : Addr} {fp : List Addr} {N : Nat} {P : Nat → Value → Prop} {St : Nat → Heap → Prop} (W : Walks prog w A I fp [I] N P St) : ∀ (n i : Nat) (s : Shared) (Q : List Value → Shared → Prop), St i s.heap → i + n ≤ N →
    (∀ items h' tk, items.length = n → (∀ (j : Nat) v, items[j]? = some v → P (i + j) v) → St (i + n) h' → (∀ b o, b ∉ [I] → s.heap.get? b = some o → h'.get? b = some o) → Q items { s with heap := h', toks := tk }) → wpAny (model prog w) A (draw (.ref I) n) Q E s
  | 0, i, s, Q, hit, _, hQ => by
    show wpAny _ _ (pure []) Q E s
    exact wpAny_pure (hQ [] s.heap s.toks rfl (fun j v h => by simp at h) hit fun _ _ _ e => e)
  | n + 1, i, s, Q, hit, hle, hQ => by
    show wpAny _ _ (pyNext (.ref I) >>= _) Q E s
    refine wpAny_bind (W.item i s _ _ (by omega) hit fun v h1 tk p st k1 => ?_)
    refine wpAny_bind (wpAny_holding (draw_walks W n (i + 1) _ _ st (by omega) fun items h2 tk2 hl hP st2 k2 => wpAny_pure ?_))
    refine hQ (v :: items) h2 tk2 (by simp [hl]) (fun j u hj => ?_) (by rw [show i + (n + 1) = i + 1 + n by omega]; exact st2) fun b o hb e => k2 b o hb (k1 b o hb e)
    cases j with
    | zero => simp at hj; subst hj; exact p
    | succ j => rw [show i + (j + 1) = i + 1 + j by omega]; exact hP j u (by simpa using hj)
theorem unpackItems_str {s : Shared} {x : Str} {t : Tok} {n : Nat} {Q : List Value → Shared → Prop} (hh : A.handled = none) (hn : x.cps.size = n)
    (hQ : ∀ items h' tk, items.length = n → (∀ (j : Nat) v, items[j]? = some v → SignAt x j v) → (∀ b o, b ∉ [s.heap.objs.size] → s.heap.get? b = some o → h'.get? b = some o) → Q items { s with heap := h', toks := tk }) : wpAny (model prog w) A (unpackItems (.str x t) n none) Q E s := by
  subst hn
  unfold unpackItems
  refine wpAny_bind ?_
  unfold notIterableAtAll
  refine wpAny_bind (wpAny_specialOf (typeIs_str s x t) F.slot_str_iter.lookup ?_)
  refine wpAny_pure ?_
  simp only [Bool.false_eq_true, if_false]
  refine wpAny_bind (wpAny_holding (wpAny_pyIter_str fun o St W hst => ?_))
  refine wpAny_bind (wpAny_holding (draw_walks (W A hh) x.cps.size 0 _ _ hst (by omega) fun items h1 tk1 hl hP st k1 => ?_))
  rw [if_neg (by rw [hl]; omega)]
  rw [Nat.zero_add] at st
  refine wpAny_bind (wpAny_holding ((W A hh).done _ _ _ st fun h2 tk2 k2 => ?_))
  simp only [Option.isSome_none, Bool.false_eq_true, if_false]
  refine wpAny_pure (hQ items h2 tk2 hl (fun j v hj => by have := hP j v hj; rwa [Nat.zero_add] at this) fun b o hb e => k2 b o hb (k1 b o hb (Heap.get?_push_of_some _ e)))
end
section
variable {X : Cx} {pos : Pos}
/-- a, b, .. = a text of that length -/
def gStr (n : Nat) (t : TGs) : TG := fun v σ H Q => ∃ l : List Nat, v = .str (Wx.S l) ∧ l.length = n ∧ t (l.map fun c => V.str (Wx.S [c])) σ H Q
theorem pg_str {es : List Expr} {k : Nat} {t : TGs} {n : Nat} (hc : X.calm = true) (h : PGs X es t)
    (hn : (assignEach es X.env).length = n := by rfl) (hst : (assignEach es X.env).findIdx? (·.1) = none := by rfl) : PG X (.Tuple es k pos) (gStr n t) := by
  refine ⟨fun pins s σ H v u Q I r hw => ?_⟩
  obtain ⟨l, e1, hl, hw⟩ := hw
  subst e1
  obtain ⟨tok, rfl⟩ : ∃ tok, u = .str (Wx.S l) tok := r
  rw [assign_Tuple]
  refine wpAny_bind (wpAny_standAt ?_)
  unfold unpack
  rw [hst, hn]
  refine wpAny_bind (wpAny_holding (unpackItems_str (I.ok.hd hc) (by rw [← hl]; simp [Wx.S]) fun items h' tk hi hP hk => ?_))
  have I1 : Inv X pins σ H { s with heap := h', toks := tk } := I.kept fun b o e => hk b o (by simpa using Nat.ne_of_lt (Heap.lt_size e)) e
  refine h.run pins _ σ H _ items Q I1 ?_ hw
  have : ∀ (l : List Nat) (items : List Value), items.length = l.length → (∀ (j : Nat) v, items[j]? = some v → ∃ c u, l[j]? = some c ∧ v = .str ⟨#[c]⟩ u) → Vals (l.map fun c => V.str (Wx.S [c])) items := by
    intro l
    induction l with
    | nil => intro items h1 h2; cases items with | nil => exact .nil | cons a b => simp at h1
    | cons c l ih =>
      intro items h1 h2
      cases items with
      | nil => simp at h1
      | cons a b =>
        obtain ⟨c2, u, e1, e2⟩ := h2 0 a rfl
        simp at e1
        subst e1 e2
        exact .cons ⟨_, rfl⟩ (ih b (by simpa using h1) fun j v hj => by have := h2 (j + 1) v (by simpa using hj); simpa using this)
  refine this l items (by omega) fun j v hj => ?_
  obtain ⟨c, u, e1, e2⟩ := hP j v hj
  exact ⟨c, u, by simpa [Wx.S] using e1, e2⟩
end
end L2

/-! Im: walks, targets, comprehensions. -/
namespace Is
open PySem PySem.Spec PyProof.Rows L2 Wx
open Ir (Tr Cel Mem Ev EK SK Con Tg Op Cm I Sm wp wps)
section
variable {X : Cx} {c : Nat → Addr} {n : Nat} {pos p0 : Pos}
/-- J gives out ts, whatever is done meanwhile -/
def Walk (B : Bs) (W0 : Wd) (J : It) (ts : List Tr) : Prop := ∀ W σ ρ μ, GoF W0 W → Sa B W σ ρ μ → (∀ i, i < ts.length → J.go i W.H) ∧ J.stop ts.length W.H ∧
  ∀ i x H', i < ts.length → J.yld i W.H x H' → ∃ t W', ts[i]? = some t ∧ W'.H = H' ∧ Go W W' ∧ Sa B W' σ ρ μ ∧ Rv B W'.H W'.F x t
def PIt (X : Cx) (c : Nat → Addr) (tg iter : Expr) (i : I) : Prop := ∀ ρ μ (ψ : List Tr → Mem → Prop) ε, wp i ρ μ (fun y μ => match y with | .tup ts => ψ ts μ | _ => False) ε → ∀ W σ (R : It → Hp → Prop), Sa (XB X c) W σ ρ μ →
  (∀ W' J ts μ', Go W W' → Sa (XB X c) W' σ ρ μ' → Walk (XB X c) W' J ts → ψ ts μ' → R J W'.H) → Takes X (xW (XB X c) W σ ρ ε) → WI X tg iter σ W.H R
theorem walk_r {W : Wd} {lo hi : Int} : Walk (XB X c) W (Itr lo (hi - lo).toNat) (Ir.rngL lo hi) := fun W1 σ ρ μ g Sx => by
  have hl : (Ir.rngL lo hi).length = (hi - lo).toNat := by simp [Ir.rngL]
  refine ⟨fun i hi' => by rw [hl] at hi'; exact hi', by rw [hl]; exact Nat.le_refl _, fun i x H' hi' hy => ?_⟩
  obtain ⟨rfl, rfl⟩ := hy
  rw [hl] at hi'
  refine ⟨.int (lo + (i : Nat)), W1, ?_, rfl, Go.refl, Sx, .int _⟩
  unfold Ir.rngL
  rw [List.getElem?_map, List.getElem?_range hi']
  rfl
theorem pit_rng1 {tg e a} (hm : X.mg "range" = none) (ha : PJ X c e a) (hg : Gl X "range" := by rfl) (hse : starEach [e] X.env = [(false, eval e X.env)] := by rfl) : PIt X c tg (.Call (.Name "range" p0) [e] [] pos) (.rng (.c (.int 0)) a) := fun ρ μ ψ ε h W σ R Sx k tk => by
  refine WI.of (pi_range1 hg hm (L2.pa_cons pe_w L2.pa_nil hse) hse) (ha ρ μ _ ε h W σ _ Sx (fun W1 v1 t1 μ1 g1 S1 r1 h1 => ?_) tk)
  cases t1 with
  | int j =>
    rw [int_of r1]
    obtain ⟨⟨_, _, q1, q2⟩, h1⟩ := h1
    refine ⟨j, rfl, q1, q2, ?_⟩
    have := k W1 _ _ μ1 g1 S1 (walk_r (lo := 0) (hi := j)) h1
    rw [Int.sub_zero] at this
    exact this
  | _ => exact h1.elim
/-! ### targets -/
mutual
def slots : Tg → List Nat
  | .nm i => [i]
  | .nil => []
  | .cons a b => slots a ++ slots b
end
def glen : Tg → Nat
  | .cons _ b => glen b + 1
  | _ => 0
def PGt (X : Cx) (c : Nat → Addr) (tg : Expr) (g : Tg) : Prop := ∀ ρ μ t (κ : Ev → Prop), Ir.tgK g t ρ κ → ∀ W σ v (Q : L2.St → Hp → Prop), Sa (XB X c) W σ ρ μ → Rp (XB X c) W v t →
  (∀ σ' ρ', Sa (XB X c) W σ' ρ' μ → (∀ i, i ∉ slots g → σ'[i]? = σ[i]?) → σ'.length = σ.length → κ ρ' → Q σ' W.H) → WG X tg v σ W.H Q
def PGl (X : Cx) (c : Nat → Addr) (tgs : List Expr) (g : Tg) : Prop := ∀ ρ μ ts (κ : Ev → Prop), Ir.tgL g ts ρ κ → ∀ W σ vs (Q : L2.St → Hp → Prop), Sa (XB X c) W σ ρ μ → Rvs (XB X c) W.H W.F vs ts →
  (∀ σ' ρ', Sa (XB X c) W σ' ρ' μ → (∀ i, i ∉ slots g → σ'[i]? = σ[i]?) → σ'.length = σ.length → κ ρ' → Q σ' W.H) → WGs X tgs vs σ W.H Q
theorem pg_nm {x : Str} {i : Nat} (f : Cf X n) (hi : X.N[i]? = some x) (hx : Loc X.env.scope x := by first | exact Or.inl rfl | exact Or.inr rfl) (hf : X.fn x = true ∨ X.env.scope.names.lookup x = some .local := by first | exact .inl rfl | exact .inr rfl) : PGt X c (.Name x pos) (.nm i) := fun ρ μ t κ h W σ v Q Sx r k =>
  WG.of (pg_name f.nd hi hx hf) (k _ _ (Sx.set r) (fun j hj => by
    have : i ≠ j := fun e => hj (by rw [e]; exact List.mem_singleton.mpr rfl)
    exact List.getElem?_set_ne this) (by rw [List.length_set]) (setK_at h))
theorem tgL_len : ∀ {g : Tg} {ts : List Tr} {ρ : Ev} {κ : Ev → Prop}, Ir.tgL g ts ρ κ → (∀ ρ κ t a, Ir.tgK a t ρ κ → ∃ ρ', κ ρ') → ts.length = glen g
  | .nm _, ts, ρ, κ, h, _ => by unfold Ir.tgL at h; exact h.elim
  | .nil, ts, ρ, κ, h, _ => by
    unfold Ir.tgL at h
    cases ts with
    | nil => rfl
    | cons => exact h.elim
  | .cons a b, ts, ρ, κ, h, ht => by
    unfold Ir.tgL at h
    cases ts with
    | nil => exact h.elim
    | cons t ts =>
      obtain ⟨ρ', h'⟩ := ht _ _ _ _ h
      show ts.length + 1 = glen b + 1
      rw [tgL_len h' ht]
mutual
theorem tgK_ex : ∀ (a : Tg) (ρ : Ev) (κ : Ev → Prop) (t : Tr), Ir.tgK a t ρ κ → ∃ ρ', κ ρ'
  | .nm i, ρ, κ, t, h => ⟨_, setK_at (by unfold Ir.tgK at h; exact h)⟩
  | .nil, ρ, κ, t, h => by unfold Ir.tgK at h; exact h.elim
  | .cons a b, ρ, κ, t, h => by
    unfold Ir.tgK at h
    split at h
    · obtain ⟨ρ1, h⟩ := tgK_ex a _ _ _ h
      exact tgL_ex b _ _ _ h
    · obtain ⟨ρ1, h⟩ := tgK_ex a _ _ _ h
      exact tgL_ex b _ _ _ h
    · obtain ⟨ρ1, h⟩ := tgK_ex a _ _ _ h
      exact tgL_ex b _ _ _ h
    · exact h.elim
theorem tgL_ex : ∀ (a : Tg) (ρ : Ev) (κ : Ev → Prop) (ts : List Tr), Ir.tgL a ts ρ κ → ∃ ρ', κ ρ'
  | .nm i, ρ, κ, t, h => by unfold Ir.tgL at h; exact h.elim
  | .nil, ρ, κ, t, h => by
    unfold Ir.tgL at h
    split at h
    · exact ⟨ρ, h⟩
    · exact h.elim
  | .cons a b, ρ, κ, t, h => by
    unfold Ir.tgL at h
    split at h
    · obtain ⟨ρ1, h⟩ := tgK_ex a _ _ _ h
      exact tgL_ex b _ _ _ h
    · exact h.elim
end
theorem pg_tup {es k g} (f : Cf X n) (h : PGl X c es g) (hg : ∃ a b, g = .cons a b) (hn : (assignEach es X.env).length = glen g := by rfl) (hst : (assignEach es X.env).findIdx? (·.1) = none := by rfl) : PGt X c (.Tuple es k pos) g := fun ρ μ t κ hk W σ v Q Sx r q => by
  obtain ⟨a, b, rfl⟩ := hg
  have hL : ∀ ts, Ir.tgL (.cons a b) ts ρ κ → ts.length = glen (.cons a b) := fun ts h => tgL_len h fun ρ κ t a h => tgK_ex a ρ κ t h
  unfold Ir.tgK at hk
  split at hk
  · rename_i x xs
    have r := r.rv (by intro i e; cases e)
    cases r with
    | tup h1 h2 =>
      have hk' : Ir.tgL (.cons a b) (x :: xs) ρ κ := by unfold Ir.tgL; exact hk
      exact WG.of (L2.pg_tup f.calm pgs_w hn hst) ⟨_, _, rfl, h1.sq, by rw [h2.length]; exact hL _ hk', h ρ μ _ κ hk' W σ _ Q Sx h2 q⟩
  · rename_i x xs
    have r := r.rv (by intro i e; cases e)
    cases r with
    | lst h1 h2 =>
      have hk' : Ir.tgL (.cons a b) (x :: xs) ρ κ := by unfold Ir.tgL; exact hk
      exact WG.of (pg_lst f.calm pgs_w hn hst) ⟨_, _, rfl, Sx.lst h1, by rw [h2.length]; exact hL _ hk', h ρ μ _ κ hk' W σ _ Q Sx h2 q⟩
  · rename_i x xs
    have r := r.rv (by intro i e; cases e)
    cases r
    have hk' : Ir.tgL (.cons a b) ((x :: xs).map fun c => Tr.str [c]) ρ κ := by rw [List.map_cons]; unfold Ir.tgL; exact hk
    have r2 : ∀ l : List Nat, Rvs (XB X c) W.H W.F (l.map fun c => V.str (S [c])) (l.map fun c => Tr.str [c]) := fun l => by
      induction l with
      | nil => exact .nil
      | cons c l ih => exact .cons (.str _) ih
    exact WG.of (pg_str f.calm pgs_w hn hst) ⟨x :: xs, rfl, by have := hL _ hk'; rwa [List.length_map] at this, h ρ μ _ κ hk' W σ _ Q Sx (r2 _) q⟩
  · exact hk.elim
end
end Is

/-! In: comprehensions. -/
namespace Is
open PySem PySem.Spec PyProof.Rows L2 Wx
open Ir (Tr Cel Mem Ev EK SK Con Tg Op Cm I Sm wp wps)
section
variable {B : Bs} {W W' : Wd} {σ σ' : L2.St} {ρ ρ' : Ev} {μ : Mem}
theorem wipe1_eq : ∀ (ρ : Ev) (v : Nat), Ir.wipe1 ρ v = ρ.set v none
  | [], v => rfl
  | _ :: _, 0 => rfl
  | a :: r, v + 1 => by show a :: Ir.wipe1 r v = _; rw [wipe1_eq r v]; rfl
theorem wipeE_len (ρ : Ev) : ∀ vs, (Ir.wipeE ρ vs).length = ρ.length
  | [] => rfl
  | v :: vs => by unfold Ir.wipeE; rw [wipe1_eq, List.length_set, wipeE_len ρ vs]
theorem wipeE_some {i : Nat} {t : Tr} : ∀ {vs : List Nat}, (Ir.wipeE ρ vs)[i]? = some (some t) → ρ[i]? = some (some t) ∧ i ∉ vs
  | [], h => ⟨h, by simp⟩
  | v :: vs, h => by
    unfold Ir.wipeE at h
    rw [wipe1_eq] at h
    by_cases e : v = i
    · subst e
      rw [List.getElem?_set_self' ] at h
      cases q : (Ir.wipeE ρ vs)[v]? with
      | none => rw [q] at h; cases h
      | some x => rw [q] at h; cases h
    · rw [List.getElem?_set_ne e] at h
      obtain ⟨h1, h2⟩ := wipeE_some h
      exact ⟨h1, fun hm => by rcases List.mem_cons.mp hm with rfl | hm; exact e rfl; exact h2 hm⟩
theorem wipe_out {i : Nat} : ∀ {vs : List Nat}, i ∉ vs → (wipe σ vs)[i]? = σ[i]?
  | [], _ => rfl
  | v :: vs, h => by
    unfold wipe
    rw [List.getElem?_set_ne (fun e => h (by rw [← e]; exact List.mem_cons_self)), wipe_out fun hm => h (List.mem_cons_of_mem _ hm)]
theorem wipe_in {i : Nat} : ∀ {vs : List Nat}, i ∈ vs → i < σ.length → (wipe σ vs)[i]? = some none
  | [], h, _ => by simp at h
  | v :: vs, h, hl => by
    unfold wipe
    by_cases e : v = i
    · subst e
      rw [List.getElem?_set_self (by rw [wipe_length]; exact hl)]
    · rw [List.getElem?_set_ne e]
      rcases List.mem_cons.mp h with rfl | h
      · exact absurd rfl e
      · exact wipe_in h hl
theorem wipe_eq {vs : List Nat} (hl : σ'.length = σ.length) (h : ∀ i, i ∉ vs → σ'[i]? = σ[i]?) : wipe σ' vs = wipe σ vs := by
  apply List.ext_getElem?
  intro i
  by_cases hi : i ∈ vs
  · by_cases hlt : i < σ.length
    · rw [wipe_in hi hlt, wipe_in hi (by rw [hl]; exact hlt)]
    · rw [List.getElem?_eq_none (by rw [wipe_length, hl]; omega), List.getElem?_eq_none (by rw [wipe_length]; omega)]
  · rw [wipe_out hi, wipe_out hi, h i hi]
theorem Sa.wiped (Sx : Sa B W σ ρ μ) (vs : List Nat) : Sa B W (wipe σ vs) (Ir.wipeE ρ vs) μ := Sx.sub (by rw [wipeE_len, wipe_length]; exact Sx.ln) fun i t h => by
  obtain ⟨h1, h2⟩ := wipeE_some h
  obtain ⟨v, h3, h4⟩ := Sx.env i t h1
  exact ⟨v, (wipe_out h2).trans h3, h4⟩
/-! a list that is being filled: known as somebody else's -/
structure Fill (W1 W : Wd) (D : Addr) (o : HO) : Prop where
  g : Go W1 W
  G : W.G D = some o
  F : W.F D = none
theorem Fill.go {W1 W W2 : Wd} {D : Addr} {o : HO} (f : Fill W1 W D o) (g : Go W W2) : Fill W1 W2 D o := ⟨f.g.trans g, g.g _ _ f.G, g.n D (by rw [f.G]; exact fun z => nomatch z) f.F⟩
def notTup : HO → Prop
  | .tup _ => False
  | _ => True
theorem tex_nt {H : Hp} {p : Addr} {o u : HO} (h : H p = some u) (hu : notTup u) : TEx H (upd H p o) := fun a xs e => by
  rw [upd_ne]
  · exact e
  · intro z
    subst z
    rw [h] at e
    cases e
    exact hu
/-- it begins -/
theorem Sa.fill0 (Sx : Sa B W σ ρ μ) {D : Addr} {o : HO} (h : W.H D = none) : Fill W { W with G := upd W.G D o, H := upd W.H D o } D o ∧ Sa B { W with G := upd W.G D o, H := upd W.H D o } σ ρ μ := by
  obtain ⟨g, S1⟩ := Sx.fresh (o := o) h
  have hg := Sx.gnone h
  have hf := Sx.fnone hg
  have g2 : Go { W with H := upd W.H D o } { W with G := upd W.G D o, H := upd W.H D o } := ⟨Ex.new hg, Ex.refl _, TEx.refl _, fun _ _ h => h, fun _ _ h => h⟩
  refine ⟨⟨g.trans g2, upd_same, hf⟩, ⟨fun b u hb => ?_, fun b u hb => ?_, fun i u hi => ?_, Sx.lA, Sx.lO, fun i c hc => ?_, Sx.nd, fun x hx => ?_, Sx.ln⟩⟩
  · by_cases e : b = D
    · subst e
      exact (upd_same.trans (upd_same.symm.trans hb))
    · exact S1.gh b u ((upd_ne e).symm.trans hb)
  · have hb' : W.F b = some u := hb
    have e : b ≠ D := fun e => by subst e; rw [hf] at hb'; cases hb'
    rcases Sx.fg b u hb' with h1 | ⟨⟨d, h1⟩, h2⟩
    · exact .inl ((upd_ne e).trans h1)
    · exact .inr ⟨⟨d, (upd_ne e).trans h1⟩, h2⟩
  · obtain ⟨v, h1, h2⟩ := S1.env i u hi
    exact ⟨v, h1, h2.go g2⟩
  · exact S1.mem i c hc
  · have hx' : x ≠ D := fun e => Sx.onone h (e ▸ hx)
    exact ⟨(upd_ne hx').trans (Sx.own x hx).1, (S1.own x hx).2⟩
/-- it is written -/
theorem Sa.fill1 {W1 : Wd} (Sx : Sa B W σ ρ μ) {D : Addr} {o u : HO} (f : Fill W1 W D o) (ho : notTup o) (h1 : W1.G D = none) : Fill W1 { W with G := upd W.G D u, H := upd W.H D u } D u ∧ TEx W.H (upd W.H D u) ∧ Sa B { W with G := upd W.G D u, H := upd W.H D u } [] [] μ := by
  have hD := Sx.gh D o f.G
  have t : TEx W.H (upd W.H D u) := tex_nt hD ho
  have nO : ∀ x ∈ W.O.flatten, x ≠ D := fun x hx e => by subst e; have := (Sx.own x hx).1; rw [f.G] at this; cases this
  refine ⟨⟨⟨fun x o' hx => ?_, f.g.f, f.g.t.trans t, f.g.n, f.g.p⟩, upd_same, f.F⟩, t, ⟨fun b v hb => ?_, fun b v hb => ?_, fun i v hi => by simp at hi, Sx.lA, Sx.lO, fun i c hc => ?_, Sx.nd, fun x hx => ?_, rfl⟩⟩
  · exact (upd_ne fun e => by subst e; rw [h1] at hx; cases hx).trans (f.g.g x o' hx)
  · by_cases e : b = D
    · subst e
      exact (upd_same.trans (upd_same.symm.trans hb))
    · exact (upd_ne e).trans (Sx.gh b v ((upd_ne e).symm.trans hb))
  · have hb' : W.F b = some v := hb
    have e : b ≠ D := fun e => by subst e; rw [f.F] at hb'; cases hb'
    rcases Sx.fg b v hb' with h1 | ⟨⟨d, h1⟩, h2⟩
    · exact .inl ((upd_ne e).trans h1)
    · exact .inr ⟨⟨d, (upd_ne e).trans h1⟩, h2⟩
  · obtain ⟨a, fp, h1, h2, h3⟩ := Sx.mem i c hc
    exact ⟨a, fp, h1, h2, h3.frame (fun x hx => upd_ne (nO x (flat_get h2 hx))) t (Ex.refl _)⟩
  · exact ⟨(upd_ne (nO x hx)).trans (Sx.own x hx).1, fun z => (Sx.own x hx).2 ((upd_ne (nO x hx)).symm.trans z)⟩
def delH (H : Hp) (D : Addr) : Hp := fun x => if x = D then none else H x
theorem delH_ne {H : Hp} {D x : Addr} (h : x ≠ D) : delH H D x = H x := if_neg h
theorem delH_same {H : Hp} {D : Addr} : delH H D D = none := if_pos rfl
theorem upd_del {H : Hp} {D : Addr} {o : HO} (h : H D = some o) : upd (delH H D) D o = H := by
  funext x
  by_cases e : x = D
  · subst e; rw [upd_same, h]
  · rw [upd_ne e, delH_ne e]
/-- it is done: nobody's -/
theorem Sa.fill2 {W1 : Wd} (Sx : Sa B W σ ρ μ) {D : Addr} {o : HO} (f : Fill W1 W D o) (ho : notTup o) (h1 : W1.G D = none) : Go W1 { W with G := delH W.G D, H := delH W.H D } ∧ TEx W.H (delH W.H D) ∧ Sa B { W with G := delH W.G D, H := delH W.H D } [] [] μ := by
  have hD := Sx.gh D o f.G
  have t : TEx W.H (delH W.H D) := fun a xs e => by
    rw [delH_ne]
    · exact e
    · intro z; subst z; rw [hD] at e; cases e; exact ho
  have nO : ∀ x ∈ W.O.flatten, x ≠ D := fun x hx e => by subst e; have := (Sx.own x hx).1; rw [f.G] at this; cases this
  refine ⟨⟨fun x o' hx => (delH_ne fun e => by subst e; rw [h1] at hx; cases hx).trans (f.g.g x o' hx), f.g.f, f.g.t.trans t, f.g.n, f.g.p⟩, t, ⟨fun b v hb => ?_, fun b v hb => ?_, fun i v hi => by simp at hi, Sx.lA, Sx.lO, fun i c hc => ?_, Sx.nd, fun x hx => ?_, rfl⟩⟩
  · have e : b ≠ D := fun e => by
      subst e
      rw [show ({ W with G := delH W.G b, H := delH W.H b } : Wd).G b = none from delH_same] at hb
      cases hb
    exact (delH_ne e).trans (Sx.gh b v ((delH_ne e).symm.trans hb))
  · have hb' : W.F b = some v := hb
    have e : b ≠ D := fun e => by subst e; rw [f.F] at hb'; cases hb'
    rcases Sx.fg b v hb' with h1 | ⟨⟨d, h1⟩, h2⟩
    · exact .inl ((delH_ne e).trans h1)
    · exact .inr ⟨⟨d, (delH_ne e).trans h1⟩, h2⟩
  · obtain ⟨a, fp, h1, h2, h3⟩ := Sx.mem i c hc
    exact ⟨a, fp, h1, h2, h3.frame (fun x hx => delH_ne (nO x (flat_get h2 hx))) t (Ex.refl _)⟩
  · exact ⟨(delH_ne (nO x hx)).trans (Sx.own x hx).1, fun z => (Sx.own x hx).2 ((delH_ne (nO x hx)).symm.trans z)⟩
end
section
variable {X : Cx} {c : Nat → Addr} {n : Nat} {pos : Pos}
/-- [elt for tg in iter if cond]: the turn's parts; tt is the test's reading -/
theorem lc_go {elt tg iter : Expr} {scope : Scope} {own : List (Str × Nat)} {g : Tg} {i ce e' : I} {tt : TT} (hi : PIt X c tg iter i)
    (hg : ∀ s H0 C cl fp, PGt (Bk X scope s H0 C cl fp) c tg g) (hgs : ∀ j ∈ slots g, j ∈ own.map (·.2)) (he : ∀ s H0 C cl fp, PJ (Bk X scope s H0 C cl fp) c elt e')
    (ht : ∀ ρ μ (φ : EK), wp ce ρ μ φ (fun _ _ => False) → (∀ t μ, φ t μ → ∃ b, t = .bl b) → ∀ W σ (Q : Bool → Hp → Prop), Sa (XB X c) W σ ρ μ → (∀ W' b μ', Go W W' → Sa (XB X c) W' σ ρ μ' → φ (.bl b) μ' → Q b W'.H) → tt σ W.H Q)
    {ρ μ φ ε} (hw : wp (.comp g (own.map (·.2)) i ce e') ρ μ φ ε) {W : Wd} {σ : L2.St} {Q : VK} (Sx : Sa (XB X c) W σ ρ μ)
    (k : ∀ W' p vs ts μ', Go W W' → Sa (XB X c) W' σ ρ μ' → W'.H p = none → Rvs (XB X c) W'.H W'.F vs ts → φ (.lst ts) μ' → Q (.ref p) (upd W'.H p (.lst vs))) (tk : Takes X (xW (XB X c) W σ ρ ε)) :
    tLc (WI X tg iter) (gB X scope tg) tt (eB X scope elt) (own.map (·.2)) σ W.H Q := by
  refine hi ρ μ (fun ts μ => Ir.szK ts.length (Ir.compK (fun t μ k => Ir.tgK g t (Ir.wipeE ρ (own.map (·.2))) fun ρ => wp ce ρ μ (fun b μ => match b with
          | .bl true => wp e' ρ μ (fun r μ => match r with | .ptr _ => False | r => k (some r) μ) (fun _ _ => False)
          | .bl false => k none μ
          | _ => False) (fun _ _ => False)) ts μ fun rs μ => φ (.lst rs) μ)) ε hw W σ _ Sx (fun W1 J ts μ1 g1 S1 wk h1 => ?_) tk
  obtain ⟨hz, h1⟩ := Ir.szK_le h1
  intro D hD
  have hG1 := S1.gnone hD
  obtain ⟨f0, S0⟩ := S1.fill0 (o := .lst []) hD
  refine ⟨fun i m H => ∃ W2 μ2 acc rs, W2.H = H ∧ Fill W1 W2 D (.lst acc) ∧ Sa (XB X c) W2 σ ρ μ2 ∧ Rvs (XB X c) W2.H W2.F acc rs ∧ acc.length ≤ i ∧ i + m = ts.length ∧ Ir.compK (fun t μ k => Ir.tgK g t (Ir.wipeE ρ (own.map (·.2))) fun ρ => wp ce ρ μ (fun b μ => match b with
          | .bl true => wp e' ρ μ (fun r μ => match r with | .ptr _ => False | r => k (some r) μ) (fun _ _ => False)
          | .bl false => k none μ
          | _ => False) (fun _ _ => False)) (ts.drop i) μ2 fun rs' μ => φ (.lst (rs ++ rs')) μ, ⟨ts.length, _, μ1, [], [], rfl, f0, S0, .nil, Nat.le_refl _, Nat.zero_add _, h1⟩, fun i m H hW => ?_⟩
  obtain ⟨W2, μ2, acc, rs, rfl, fl, S2, r2, hl2, hm, hk⟩ := hW
  obtain ⟨w1, w2, w3⟩ := wk W2 σ ρ μ2 fl.g.gf S2
  have hDl := S2.gh D _ fl.G
  by_cases hi' : i < ts.length
  · refine .inr ⟨w1 i hi', fun H' => ∃ W2 μ2 acc rs, W2.H = H' ∧ Fill W1 W2 D (.lst acc) ∧ Sa (XB X c) W2 σ ρ μ2 ∧ Rvs (XB X c) W2.H W2.F acc rs ∧ acc.length ≤ i + 1 ∧ Ir.compK (fun t μ k => Ir.tgK g t (Ir.wipeE ρ (own.map (·.2))) fun ρ => wp ce ρ μ (fun b μ => match b with
          | .bl true => wp e' ρ μ (fun r μ => match r with | .ptr _ => False | r => k (some r) μ) (fun _ _ => False)
          | .bl false => k none μ
          | _ => False) (fun _ _ => False)) (ts.drop (i + 1)) μ2 fun rs' μ => φ (.lst (rs ++ rs')) μ, fun H' ⟨W3, μ3, acc3, rs3, e1, e2, e3, e4, e5, e6⟩ => ⟨m - 1, by omega, W3, μ3, acc3, rs3, e1, e2, e3, e4, e5, by omega, e6⟩, fun x H' hy => ?_⟩
    obtain ⟨t, W3, htt, rfl, g3, S3, rt⟩ := w3 i x H' hi' hy
    rw [List.drop_eq_getElem_cons hi', show ts[i] = t from (List.getElem?_eq_some_iff.mp htt).2] at hk
    rw [Ir.compK_cons] at hk
    have fl3 := fl.go g3
    have r3 := r2.mono g3.t g3.f
    intro s H0 C cl fp
    refine hg s H0 C cl fp (Ir.wipeE ρ (own.map (·.2))) μ2 t _ hk W3 _ x _ (S3.wiped _) (.inl rt) fun σ4 ρ4 S4 e4 l4 h4 => ⟨?_, ?_⟩
    · rw [wipe_length] at l4
      exact wipe_eq l4 fun j hj => (e4 j fun hs => hj (hgs j hs)).trans (wipe_out hj)
    · refine ht ρ4 μ2 _ h4 (fun t μ h => by cases t <;> first | exact ⟨_, rfl⟩ | exact h.elim) W3 σ4 _ S4 fun W5 b μ5 g5 S5 h5 => ?_
      cases b with
      | true =>
        rw [if_pos rfl]
        intro s H0 C cl fp
        refine he s H0 C cl fp ρ4 μ5 _ _ h5 W5 σ4 _ S5 (fun W6 v6 t6 μ6 g6 S6 r6 h6 => ?_) tk_no
        have fl6 := (fl3.go g5).go g6
        have hn : ∀ j, t6 ≠ .ptr j := fun j e => by subst e; exact h6
        have h6' : Ir.compK (fun t μ k => Ir.tgK g t (Ir.wipeE ρ (own.map (·.2))) fun ρ => wp ce ρ μ (fun b μ => match b with
          | .bl true => wp e' ρ μ (fun r μ => match r with | .ptr _ => False | r => k (some r) μ) (fun _ _ => False)
          | .bl false => k none μ
          | _ => False) (fun _ _ => False)) (ts.drop (i + 1)) μ6 fun rs' μ => φ (.lst (rs ++ (t6 :: rs'))) μ := by
          cases t6 <;> first | exact h6 | exact h6.elim
        have rv6 := r6.rv hn
        refine ⟨acc, S6.gh D _ fl6.G, sz_lt (by omega), ?_⟩
        obtain ⟨f7, t7, S7⟩ := S6.fill1 (u := .lst (acc ++ [v6])) fl6 True.intro hG1
        have r6' := (r3.mono g5.t g5.f).mono g6.t g6.f
        refine ⟨_, μ6, acc ++ [v6], rs ++ [t6], rfl, f7, S1.env' S7 f7.g, ((r6'.app (.cons rv6 .nil)).mono t7 (Ex.refl _)), by rw [List.length_append]; simp; omega, ?_⟩
        simp only [List.append_assoc, List.singleton_append]
        exact h6'
      | false =>
        rw [if_neg Bool.false_ne_true]
        have fl5 := fl3.go g5
        exact ⟨W5, μ5, acc, rs, rfl, fl5, S1.env' S5.nil fl5.g, r3.mono g5.t g5.f, by omega, h5⟩
  · have e : i = ts.length := by omega
    subst e
    refine .inl ⟨w2, ?_⟩
    rw [List.drop_of_length_le (Nat.le_refl _)] at hk
    rw [Ir.compK_nil] at hk
    have hk : φ (.lst (rs ++ [])) μ2 := hk
    rw [List.append_nil] at hk
    obtain ⟨g3, t3, S3⟩ := S2.fill2 fl True.intro hG1
    have := k _ D acc rs μ2 (g1.trans g3) (S1.env' S3 g3) delH_same (r2.mono t3 (Ex.refl _)) hk
    rw [show upd ({ W2 with G := delH W2.G D, H := delH W2.H D } : Wd).H D (.lst acc) = W2.H from upd_del hDl] at this
    exact this
theorem pn_lc {elt tg iter : Expr} {scope : Scope} {own : List (Str × Nat)} {vs : List Nat} {g : Tg} {i e' : I} (f : Cf X n) (ok : BlkOk X.N X.env.scope scope own) (hvs : vs = own.map (·.2)) (hgs : ∀ j ∈ slots g, j ∈ vs) (hi : PIt X c tg iter i) (hg : ∀ s H0 C cl fp, PGt (Bk X scope s H0 C cl fp) c tg g)
    (he : ∀ s H0 C cl fp, PJ (Bk X scope s H0 C cl fp) c elt e') (hs : nofold iter X.env := by intro _; rfl) : PN X c (.ListComp elt [⟨tg, iter, [], 0⟩] scope pos) (.comp g vs i .yes e') := fun ρ μ φ ε hw W σ Q Sx k k2 k3 tk => by
  subst hvs
  refine WE.of (pe_lcB f.calm f.nd pi_w ok hs) (lc_go (ce := .yes) hi hg hgs he (fun ρ μ φ h hφ W σ Q Sx k => ?_) hw Sx k tk)
  exact k W true μ Go.refl Sx h
end
end Is

/-! Io: statements. -/
namespace Is
open PySem PySem.Spec PyProof.Rows L2 Wx
open Ir (Tr Cel Mem Ev EK SK EX Con Tg Op Cm I Sm wp wps)
def xWs (B : Bs) (W : Wd) (ε : EX) : WX := fun cls d σ' H' => ∃ W' ρ' t μ', W'.H = H' ∧ Go W W' ∧ Sa B W' σ' ρ' μ' ∧ Rx B W' cls d t ∧ ε t ρ' μ'
structure Lk (B : Bs) (W : Wd) (D : Ends) (nx : SK) (rt : EK) (bk ct : SK) : Prop where
  nx : ∀ W' σ' ρ' μ', Go W W' → Sa B W' σ' ρ' μ' → nx ρ' μ' → D.nx σ' W'.H
  rt : ∀ W' v t μ', Go W W' → Sa B W' [] [] μ' → Rp B W' v t → rt t μ' → D.rt v W'.H
  bk : ∀ W' σ' ρ' μ', Go W W' → Sa B W' σ' ρ' μ' → bk ρ' μ' → D.bk σ' W'.H
  ct : ∀ W' σ' ρ' μ', Go W W' → Sa B W' σ' ρ' μ' → ct ρ' μ' → D.ct σ' W'.H
theorem Lk.go {B W W1 D nx rt bk ct} (g : Go W W1) (l : Lk B W D nx rt bk ct) : Lk B W1 D nx rt bk ct :=
  ⟨fun W' σ' ρ' μ' g' => l.nx W' σ' ρ' μ' (g.trans g'), fun W' v t μ' g' => l.rt W' v t μ' (g.trans g'), fun W' σ' ρ' μ' g' => l.bk W' σ' ρ' μ' (g.trans g'), fun W' σ' ρ' μ' g' => l.ct W' σ' ρ' μ' (g.trans g')⟩
section
variable {X : Cx} {c : Nat → Addr} {n : Nat} {pos : Pos}
def PS (X : Cx) (c : Nat → Addr) (st : Stmt) (s : Sm) : Prop := ∀ nx rt bk ct ε ρ μ, wps s nx rt bk ct ε ρ μ → ∀ W σ D, Sa (XB X c) W σ ρ μ → Lk (XB X c) W D nx rt bk ct → Takes X (xWs (XB X c) W ε) → WS X st D σ W.H
def PSs (X : Cx) (c : Nat → Addr) (sts : List Stmt) (s : Sm) : Prop := ∀ nx rt bk ct ε ρ μ, wps s nx rt bk ct ε ρ μ → ∀ W σ D, Sa (XB X c) W σ ρ μ → Lk (XB X c) W D nx rt bk ct → Takes X (xWs (XB X c) W ε) → WSs X sts D σ W.H
theorem tks_go {W W1 : Wd} {ε : EX} (g : Go W W1) (t : Takes X (xWs (XB X c) W ε)) : Takes X (xWs (XB X c) W1 ε) :=
  t.imp fun cls d σ' H' ⟨W', ρ', u, μ', h1, h2, h3⟩ => ⟨W', ρ', u, μ', h1, g.trans h2, h3⟩
theorem tks_e {W : Wd} {σ ρ} {ε : EX} (t : Takes X (xWs (XB X c) W ε)) : Takes X (xW (XB X c) W σ ρ (fun t μ => ε t ρ μ)) :=
  t.imp fun cls d σ' H' ⟨e, W', u, μ', h1, h2, h3, h4, h5⟩ => by subst e; exact ⟨W', ρ, u, μ', h1, h2, h3, h4, h5⟩
theorem pss_nil : PSs X c [] .skip := fun nx rt bk ct ε ρ μ h W σ D Sx l tk => ws_nil (l.nx W σ ρ μ Go.refl Sx h)
theorem pss_one {st s} (h : PS X c st s) : PSs X c [st] s := fun nx rt bk ct ε ρ μ hw W σ D Sx l tk => ws_one (h nx rt bk ct ε ρ μ hw W σ D Sx l tk)
theorem pss_cons {st rest s t} (h : PS X c st s) (hr : PSs X c rest t) : PSs X c (st :: rest) (.seq s t) := fun nx rt bk ct ε ρ μ hw W σ D Sx l tk => by
  obtain ⟨n1, n2, n3, n4⟩ := D
  exact ws_cons (h _ rt bk ct ε ρ μ hw W σ _ Sx ⟨fun W' σ' ρ' μ' g S' h' => hr nx rt bk ct ε ρ' μ' h' W' σ' _ S' (l.go g) (tks_go g tk), l.rt, l.bk, l.ct⟩ tk)
theorem ps_ex {e a} (ha : PJ X c e a) (hs : swapsWith e none pos.line X.env = pure false := by rfl) : PS X c (.Expr e pos) (.ex a) := fun nx rt bk ct ε ρ μ h W σ D Sx l tk =>
  ws_expr (ha ρ μ _ _ h W σ _ Sx (fun W1 v t μ1 g1 S1 r1 h1 => l.nx W1 σ ρ μ1 g1 S1 h1) (tks_e tk)) hs
theorem ps_ret {e a} (ha : PJ X c e a) : PS X c (.Return (some e) pos) (.ret a) := fun nx rt bk ct ε ρ μ h W σ D Sx l tk =>
  ws_ret (ha ρ μ _ _ h W σ _ Sx (fun W1 v t μ1 g1 S1 r1 h1 => l.rt W1 v t μ1 g1 S1.nil r1 h1) (tks_e tk))
theorem ps_if {e a b x s t} (hc : PT X c e x) (ha : PSs X c a s) (hb : PSs X c b t) : PS X c (.If e a b pos) (.ite x s t) := fun nx rt bk ct ε ρ μ h W σ D Sx l tk =>
  ws_if (hc ρ μ _ _ h (fun t μ h => by cases t <;> first | exact ⟨_, rfl⟩ | exact h.elim) W σ _ Sx (fun W1 b0 μ1 g1 S1 h1 => by
    cases b0 with
    | true => rw [if_pos rfl]; exact ha nx rt bk ct ε ρ μ1 h1 W1 σ D S1 (l.go g1) (tks_go g1 tk)
    | false => rw [if_neg Bool.false_ne_true]; exact hb nx rt bk ct ε ρ μ1 h1 W1 σ D S1 (l.go g1) (tks_go g1 tk)) (tks_e tk))
theorem ps_asg {tg e g a} (hg : PGt X c tg g) (ha : PJ X c e a) (hs : swapsWithSole [tg] e pos.line X.env = pure false := by rfl) (hw : swappedStores [tg] e X.env = pure none := by rfl)
    (h1 : (assignEach [tg] X.env).map (·.2) = [assign tg X.env] := by rfl) : PS X c (.Assign [tg] e pos) (.asg g a) := fun nx rt bk ct ε ρ μ h W σ D Sx l tk =>
  ws_asg (ha ρ μ _ _ h W σ _ Sx (fun W1 v t μ1 g1 S1 r1 h1 => hg ρ μ1 t _ h1 W1 σ v _ S1 r1 fun σ' ρ' S' _ _ h2 => l.nx W1 σ' ρ' μ1 g1 S' h2) (tks_e tk)) hs hw h1
theorem ps_set {x : Str} {e a} {i : Nat} {pos'} (f : Cf X n) (hi : X.N[i]? = some x) (ha : PJ X c e a) (hx : Loc X.env.scope x := by first | exact Or.inl rfl | exact Or.inr rfl)
    (hs : swapsWith e (some (.Name x pos')) pos.line X.env = pure false := by rfl) (hf : X.fn x = true ∨ X.env.scope.names.lookup x = some .local := by first | exact .inl rfl | exact .inr rfl) : PS X c (.Assign [.Name x pos'] e pos) (.asg (.nm i) a) := fun nx rt bk ct ε ρ μ h W σ D Sx l tk =>
  WS.of (L2.ps_set f.nd hi hx pe_w hs hf) (ha ρ μ _ _ h W σ _ Sx (fun W1 v t μ1 g1 S1 r1 h1 => by
    unfold Ir.tgK at h1
    exact l.nx W1 _ _ μ1 g1 (S1.set r1) (setK_at h1)) (tks_e tk))
theorem opW : ∀ o : Op, (o = .add ∨ o = .sub) → ∀ {i j : Int} {H : Hp} {Q : VK}, (Q (.int (if o = .add then i + j else i - j)) H) → WIp X (opOf o) (.int i) (.int j) H Q := by
  intro o ho i j H Q q
  rcases ho with rfl | rfl
  · exact wip_add q
  · exact wip_sub q
theorem ps_aug {x : Str} {e a} {i : Nat} {o : Op} {pos'} (f : Cf X n) (ho : o = .add ∨ o = .sub) (hi : X.N[i]? = some x) (ha : PJ X c e a) (hx : Loc X.env.scope x := by first | exact Or.inl rfl | exact Or.inr rfl) (hf : X.fn x = true ∨ X.env.scope.names.lookup x = some .local := by first | exact .inl rfl | exact .inr rfl) :
    PS X c (.AugAssign (.Name x pos') (opOf o) e pos) (.augI i o a) := fun nx rt bk ct ε ρ μ h W σ D Sx l tk => by
  obtain ⟨t, h1, h2⟩ := getK_at h
  obtain ⟨v, h3, h4⟩ := Sx.env i t h1
  cases t with
  | int i0 =>
    rw [int_of h4] at h3
    refine WS.of (L2.ps_aug f.nd hi hx pe_w ip_w hf) ⟨_, h3, ha ρ μ _ _ h2 W σ _ Sx (fun W1 v t μ1 g1 S1 r1 h5 => ?_) (tks_e tk)⟩
    cases t with
    | int j0 =>
      rw [int_of r1]
      exact opW o ho (l.nx W1 _ _ μ1 g1 (S1.set (.inl (.int _))) (setK_at h5))
    | _ => exact h5.elim
  | _ => exact h2.elim
/-! ### loops -/
theorem ps_for {tg iter body g i b} (hp : PassesOwn (model X.prog X.w) X.A X.env X.xe) (f : Cf X n) (hi : PIt X c tg iter i) (hg : PGt X c tg g) (hb : PSs X c body b) (hs : ∀ x, foldedSetIterable iter X.env x = pure x := by intro _; rfl) : PS X c (.For tg iter body [] pos) (.for g i b) := fun nx rt bk ct ε ρ μ h W σ D Sx l tk => by
  refine ws_for hp f.calm ?_ hs
  refine hi ρ μ (fun ts μ => Ir.forK (fun t ρ μ k => Ir.tgK g t ρ fun ρ => wps b k rt nx k ε ρ μ) ts ρ μ nx) _ h W σ _ Sx (fun W1 J ts μ1 g1 S1 wk h1 => ?_) (tks_e tk)
  refine ⟨fun i m σ2 H2 => ∃ W2 ρ2 μ2, W2.H = H2 ∧ Go W1 W2 ∧ Sa (XB X c) W2 σ2 ρ2 μ2 ∧ i + m = ts.length ∧ Ir.forK (fun t ρ μ k => Ir.tgK g t ρ fun ρ => wps b k rt nx k ε ρ μ) (ts.drop i) ρ2 μ2 nx, ⟨ts.length, W1, ρ, μ1, rfl, Go.refl, S1, Nat.zero_add _, h1⟩, fun i m σ2 H2 hW => ?_⟩
  obtain ⟨W2, ρ2, μ2, rfl, g2, S2, hm, hk⟩ := hW
  obtain ⟨w1, w2, w3⟩ := wk W2 σ2 ρ2 μ2 g2.gf S2
  by_cases hi' : i < ts.length
  · refine .inr ⟨w1 i hi', fun σ' H' => ∃ W2 ρ2 μ2, W2.H = H' ∧ Go W1 W2 ∧ Sa (XB X c) W2 σ' ρ2 μ2 ∧ Ir.forK (fun t ρ μ k => Ir.tgK g t ρ fun ρ => wps b k rt nx k ε ρ μ) (ts.drop (i + 1)) ρ2 μ2 nx, fun σ' H' ⟨W3, ρ3, μ3, e1, e2, e3, e4⟩ => ⟨m - 1, by omega, W3, ρ3, μ3, e1, e2, e3, by omega, e4⟩, fun x H' hy => ?_⟩
    obtain ⟨t, W3, htt, rfl, g3, S3, rt3⟩ := w3 i x H' hi' hy
    rw [List.drop_eq_getElem_cons hi', show ts[i] = t from (List.getElem?_eq_some_iff.mp htt).2, Ir.forK_cons] at hk
    have gg := g1.trans (g2.trans g3)
    refine hg ρ2 μ2 t _ hk W3 σ2 x _ S3 (.inl rt3) fun σ4 ρ4 S4 _ _ h4 => ?_
    exact hb _ rt nx _ ε ρ4 μ2 h4 W3 σ4 _ S4 ⟨fun W5 σ5 ρ5 μ5 g5 S5 h5 => ⟨W5, ρ5, μ5, rfl, (g2.trans g3).trans g5, S5, h5⟩, fun W5 v t μ5 g5 => l.rt W5 v t μ5 (gg.trans g5), fun W5 σ5 ρ5 μ5 g5 => l.nx W5 σ5 ρ5 μ5 (gg.trans g5), fun W5 σ5 ρ5 μ5 g5 S5 h5 => ⟨W5, ρ5, μ5, rfl, (g2.trans g3).trans g5, S5, h5⟩⟩ (tks_go gg tk)
  · have e : i = ts.length := by omega
    subst e
    refine .inl ⟨w2, ?_⟩
    rw [List.drop_of_length_le (Nat.le_refl _), Ir.forK_nil] at hk
    exact l.nx W2 σ2 ρ2 μ2 (g1.trans g2) S2 hk
end
end Is

/-! Ip: stores; defs. -/
namespace Is
open PySem PySem.Spec PyProof.Rows L2 Wx
open Ir (Tr Cel Mem Ev EK SK EX Con Tg Op Cm I Sm wp wps)
section
variable {X : Cx} {c : Nat → Addr} {n : Nat} {pos : Pos}
theorem op_catR {X : Cx} : OpR X (binaryOp .Add) (fun x y H Q => ∃ l b xs zs, x = .ref l ∧ y = .ref b ∧ Rd H l (.lst xs) ∧ Rd H b (.lst zs) ∧ xs.length + zs.length ≤ sizeLine ∧ ∀ p, H p = none → Q (.ref p) (upd H p (.lst (xs ++ zs)))) := by
  intro pins s σ H x y v u Q I rx ry h
  obtain ⟨l, b, xs, zs, rfl, rfl, hH, hB, hz, q⟩ := h
  cases rx
  cases ry
  obtain ⟨z, its, n, r, e⟩ := (show ObjOk X.prog X.w H s.heap l (.lst xs) from hH.ok I.hok)
  obtain ⟨z2, its2, n2, r2, e2⟩ := (show ObjOk X.prog X.w H s.heap b (.lst zs) from hB.ok I.hok)
  have hl := r.length
  have hl2 := r2.length
  refine PySem.P.add_list e e2 ?_ (by rw [List.size_toArray, List.size_toArray]; omega)
  have ea : its.toArray ++ its2.toArray = (its ++ its2).toArray := by simp
  rw [ea]
  exact ⟨.ref _, _, I.lnew (t' := s.toks) (r.append r2) (by rw [List.length_append]; omega), rfl, q _ I.fresh⟩
/-- a list that may be looked at, as it lies -/
theorem rd_of {W : Wd} {σ ρ μ} {v : V} {t : Tr} {k : Tr → Prop} (Sx : Sa (XB X c) W σ ρ μ) (r : Rp (XB X c) W v t) (h : Ir.tv μ t k) : (∃ ts a vs, v = .ref a ∧ Rd W.H a (.lst vs) ∧ Rvs (XB X c) W.H W.F vs ts ∧ k (.lst ts)) ∨ (∃ t', k t' ∧ ∀ ts, t' ≠ .lst ts) := by
  rcases r with r | ⟨i, a, rfl, rfl, ha⟩
  · cases t with
    | ptr i => exact r.noptr.elim
    | lst ts => cases r with | lst h1 h2 => exact .inl ⟨ts, _, _, rfl, Sx.fh h1, h2, h⟩
    | _ => exact .inr ⟨_, h, fun ts e => by cases e⟩
  · obtain ⟨cl, hc, h⟩ := celK_at h
    obtain ⟨b, fp, h1, h2, h3⟩ := Sx.mem i cl hc
    rw [ha] at h1
    cases h1
    cases cl with
    | lst ts =>
      obtain ⟨_, vs, h4, h5⟩ := h3
      exact .inl ⟨ts, a, vs, rfl, .of h4, h5, h⟩
    | dic b kvs => exact .inr ⟨_, h, fun ts e => by cases e⟩
    | _ => exact h.elim
theorem pn_addL {a b x y} (ha : PJ X c a x) (hb : PJ X c b y) : PN X c (.BinOp a .Add b pos) (.addL x y) := fun ρ μ φ ε h W σ Q Sx k k2 k3 tk =>
  we_op (ha ρ μ _ ε h W σ _ Sx (fun W1 v1 t1 μ1 g1 S1 r1 h1 => hb ρ μ1 _ ε h1 W1 σ _ S1 (fun W2 v2 t2 μ2 g2 S2 r2 h2 => by
    rcases rd_of S2 (r1.go g2) h2 with ⟨ts, a1, vs, rfl, q1, q2, h2⟩ | ⟨t', h2, hn⟩
    · rcases rd_of S2 r2 h2 with ⟨us, a2, ws, rfl, q3, q4, h2⟩ | ⟨t', h2, hn⟩
      · obtain ⟨hz, h2⟩ := Ir.szK_le h2
        exact WO.of op_catR ⟨a1, a2, vs, ws, rfl, rfl, q1, q3, by rw [q2.length, q4.length]; exact sz_le hz, fun p hp => k W2 p _ _ μ2 (g1.trans g2) S2 hp (q2.app q4) h2⟩
      · cases t' <;> first | exact h2.elim | exact absurd rfl (hn _)
    · obtain ⟨t2', _, h2⟩ := r2.view S2 h2
      cases t' <;> first | exact h2.elim | exact absurd rfl (hn _)) (tk_go g1 tk)) tk)
/-- a cell of one object is written -/
theorem Sa.put1 {W : Wd} {σ ρ μ} {a : Addr} {i : Nat} {cl' : Cel} {o u : HO} (Sx : Sa (XB X c) W σ ρ μ) (ha : W.A[i]? = some a) (hO : W.O[i]? = some [a]) (ho : W.H a = some o) (hn : notTup o) (hr : Rc (XB X c) (upd W.H a u) W.F a [a] cl') :
    ∃ W', W'.H = upd W.H a u ∧ Go W W' ∧ Sa (XB X c) W' σ ρ (μ.set i cl') := by
  have t : TEx W.H (upd W.H a u) := tex_nt ho hn
  obtain ⟨g, S'⟩ := Sx.cellU (fq := [a]) (c' := cl') (H' := upd W.H a u) ha hO (fun x hx _ => upd_ne fun e => hx (by rw [e]; exact List.mem_singleton.mpr rfl)) t (by simp) (fun x hx => ⟨.inl hx, by
    have : x = a := by simpa using hx
    subst this
    rw [upd_same]; exact fun z => nomatch z⟩) hr
  exact ⟨_, rfl, g, S'⟩
end
/-! ### defs -/
theorem sa_take {B : Bs} {W : Wd} {μ : Mem} (n : Nat) (Sx : Sa B W [] [] μ) : ∃ W', W'.H = W.H ∧ W'.F = W.F ∧ (∀ W0, Go W0 W → W0.A.length ≤ n → Go W0 W') ∧ Sa B W' [] [] (μ.take n) := by
  refine ⟨{ W with A := W.A.take n, O := W.O.take n }, rfl, rfl, fun W0 g hl => ⟨g.g, g.f, g.t, g.n, fun i a h => ?_⟩, ⟨Sx.gh, Sx.fg, fun i t h => by simp at h, by simp [Sx.lA], by simp [Sx.lO], fun i cl h => ?_, ?_, fun x hx => ?_, rfl⟩⟩
  · have : i < n := Nat.lt_of_lt_of_le (List.getElem?_eq_some_iff.mp h).1 hl
    rw [show ({ W with A := W.A.take n, O := W.O.take n } : Wd).A = W.A.take n from rfl, List.getElem?_take_of_lt this]
    exact g.p i a h
  · have hi : i < n := by
      have := (List.getElem?_eq_some_iff.mp h).1
      rw [List.length_take] at this
      omega
    rw [List.getElem?_take_of_lt hi] at h
    obtain ⟨a, fp, h1, h2, h3⟩ := Sx.mem i cl h
    exact ⟨a, fp, (List.getElem?_take_of_lt hi).trans h1, (List.getElem?_take_of_lt hi).trans h2, h3⟩
  · have tk : ∀ (i : Nat) fp, (W.O.take n)[i]? = some fp → W.O[i]? = some fp := fun i fp h => by
      have hi : i < n := by
        have := (List.getElem?_eq_some_iff.mp h).1
        rw [List.length_take] at this
        omega
      rwa [List.getElem?_take_of_lt hi] at h
    exact nd_of (fun i fp h => nd_each Sx.nd (tk i fp h)) fun i j fp fq x h1 h2 hx hy => nd_apart Sx.nd (tk i fp h1) (tk j fq h2) hx hy
  · refine Sx.own x ?_
    obtain ⟨l, hl, hx⟩ := List.mem_flatten.mp hx
    exact List.mem_flatten.mpr ⟨l, List.mem_of_mem_take hl, hx⟩
theorem Rp.get {B : Bs} {W : Wd} {vs : List V} {ts : List Tr} (r : Rps B W vs ts) : ∀ (i : Nat) t, ts[i]? = some t → ∃ v, vs[i]? = some v ∧ Rp B W v t := by
  induction r with
  | nil => intro i t h; simp at h
  | cons a b ih =>
    intro i t h
    cases i with
    | zero => simp at h; subst h; exact ⟨_, rfl, a⟩
    | succ i => obtain ⟨v, h1, h2⟩ := ih i t (by simpa using h); exact ⟨v, by simpa using h1, h2⟩
theorem sa_start {B : Bs} {W : Wd} {μ : Mem} {N : List Str} {vs : List V} {ts : List Tr} (Sx : Sa B W [] [] μ) (r : Rps B W vs ts) : Sa B W (start N vs) (ts.map some ++ List.replicate (N.length - ts.length) none) μ := by
  have hl := r.length
  refine Sx.sub (by unfold L2.start; simp [hl]) fun i t h => ?_
  have hi : i < ts.length := by
    by_cases hi : i < ts.length
    · exact hi
    · rw [List.getElem?_append_right (by simpa using hi), List.getElem?_replicate] at h
      split at h <;> cases h
  rw [List.getElem?_append_left (by simpa using hi), List.getElem?_map] at h
  cases e : ts[i]? with
  | none => rw [e] at h; cases h
  | some u =>
    rw [e] at h
    cases h
    obtain ⟨v, h1, h2⟩ := Rp.get r i t e
    refine ⟨v, ?_, h2⟩
    unfold L2.start
    rw [List.getElem?_append_left (by simpa [hl] using hi), List.getElem?_map, h1]
    rfl
/-- a def by its text in the small language -/
theorem fn_ir {P : Program} {w : World} {K : PySem.W.Frag} {mg : Str → Option Value} {base : Heap} {cl : Nat → Addr} {x qual : Str} {st : Stmt} {f : Addr} {fd : FuncData} {N ps : List Str} {k : Nat} {con : Con} {body : Sm} (F : Fun K x qual st f fd) (S : FnScope N ps (defScope st))
    (hc : ∀ ts μ φ ε, con ts μ φ ε → ts.length = ps.length ∧ Ir.wpB body (N.length - ps.length) ts μ φ ε)
    (hj : ∀ (cdv : Value) (A : Around) (outer : List Env) (s : Shared) (H : Hp) (E : XK), Cf (cxOf (L2.CX P w) P w K mg base N qual (defScope st) f cdv A outer s H E) k → PassesOwn (model P w) (cxOf (L2.CX P w) P w K mg base N qual (defScope st) f cdv A outer s H E).A (cxOf (L2.CX P w) P w K mg base N qual (defScope st) f cdv A outer s H E).env (cxOf (L2.CX P w) P w K mg base N qual (defScope st) f cdv A outer s H E).xe →
      PSs (cxOf (L2.CX P w) P w K mg base N qual (defScope st) f cdv A outer s H E) cl (defBody st) body) : FnOk P w K mg base (L2.CX P w) (k + 1) f fd ps (spOf cl w K con) := by
  refine Fun.okX F S (fun vs H Q E h => ?_) fun cdv A outer s H vs Q E hr h => ?_
  · obtain ⟨W, ts, μ, φ, ε, rfl, Sx, r, hcon, _⟩ := h
    rw [r.length]
    exact (hc ts μ φ ε hcon).1
  · obtain ⟨W, ts, μ, φ, ε, rfl, Sx, r, hcon, kφ, kε⟩ := h
    obtain ⟨hl, hw⟩ := hc ts μ φ ε hcon
    have hlA : W.A.length ≤ μ.length := by rw [Sx.lA]; exact Nat.le_refl _
    refine ⟨_, pss_w, ?_⟩
    have S0 := sa_start (N := N) Sx r
    rw [hl] at S0
    refine hj cdv A outer s W.H E ⟨rfl, S.nd, hr⟩ (passes_of rfl) _ _ _ _ _ _ _ hw W (start N vs) _ S0 ⟨fun W' σ' ρ' μ' g S' h' => ?_, fun W' v t μ' g S' rv h' => ?_, fun W' σ' ρ' μ' g S' h' => h'.elim, fun W' σ' ρ' μ' g S' h' => h'.elim⟩ ?_
    · obtain ⟨W2, e1, e2, g2, S2⟩ := sa_take μ.length S'.nil
      show Q .non W'.H
      rw [← e1]
      exact kφ W2 .non .non _ (g2 W g hlA) S2 (.inl .non) h'
    · obtain ⟨W2, e1, e2, g2, S2⟩ := sa_take μ.length S'
      have hn : ∀ j, t ≠ .ptr j := fun j e => by subst e; exact h'
      have h2 : φ t (μ'.take μ.length) := by cases t <;> first | exact h' | exact h'.elim
      show Q v W'.H
      rw [← e1]
      exact kφ W2 v t _ (g2 W g hlA) S2 (.inl (by rw [e1, e2]; exact rv.rv hn)) h2
    · refine (takes_of (X := cxOf (L2.CX P w) P w K mg base N qual (defScope st) f cdv A outer s W.H E) (E := E) rfl rfl rfl rfl).imp fun cls d σ' H' ⟨W', ρ', t, μ', e0, g, S', rx, h'⟩ => ?_
      obtain ⟨W2, e1, e2, g2, S2⟩ := sa_take μ.length S'.nil
      have h2 : ε t (μ'.take μ.length) := by cases t <;> first | exact h' | exact h'.elim
      rw [← e0, ← e1]
      refine kε W2 cls d t _ (g2 W g hlA) S2 ?_ h2
      obtain ⟨c0, fs, q1, q2, q3⟩ := rx
      refine ⟨c0, fs, q1, q2, ?_⟩
      rw [e1, e2]
      exact q3
end Is

/-! Iq: more rules. -/
namespace Is
open PySem PySem.Spec PyProof.Rows L2 Wx
open Ir (Tr Cel Mem Ev EK SK EX Con Tg Op Cm I Sm wp wps)
section
variable {X : Cx} {c : Nat → Addr} {n : Nat} {pos : Pos}
theorem bk_cf {scope s H0 C cl fp} (f : Cf X n) : Cf (Bk X scope s H0 C cl fp) n := ⟨f.calm, f.nd, f.r⟩
theorem pss_of {sts : List Stmt} {st rest s} (h : sts = st :: rest) (p : PSs X c (st :: rest) s) : PSs X c sts s := h ▸ p
end
section
variable {X : Cx} {c : Nat → Addr} {n : Nat} {pos : Pos}
/-! ### blocks by a look -/
def blkB (N : List Str) (sc scope : Scope) (own : List (Str × Nat)) : Bool :=
  decide (scope.kind = .function) && scope.names.all (fun y => decide (scope.names.lookup y.1 = some y.2)) && own.all (fun p => decide (N[p.2]? = some p.1)) &&
  scope.names.all (fun y => decide (y.2 ≠ .free) || decide (sc.names.lookup y.1 = some .cell) || decide (sc.names.lookup y.1 = some .free)) &&
  scope.names.all (fun y => (decide (y.2 ≠ .local) && decide (y.2 ≠ .cell)) || decide (y.1 ∈ own.map (·.1)) || decide (y.1 ∉ N))
theorem blk_of {N : List Str} {sc scope : Scope} {own : List (Str × Nat)} (h : blkB N sc scope own = true) : BlkOk N sc scope own := by
  unfold blkB at h
  simp only [Bool.and_eq_true, List.all_eq_true, decide_eq_true_eq, Bool.or_eq_true] at h
  obtain ⟨⟨⟨⟨h1, h2⟩, h3⟩, h4⟩, h5⟩ := h
  refine ⟨h1, h2, h3, fun y hy hf => ?_, fun y hy hf => ?_⟩
  · rcases h4 y hy with (h | h) | h
    · exact absurd hf h
    · exact .inl h
    · exact .inr h
  · rcases h5 y hy with (h | h) | h
    · rcases hf with hf | hf
      · exact absurd hf h.1
      · exact absurd hf h.2
    · exact .inl h
    · exact .inr h
/-! ### a name is given a new thing -/
end
abbrev DX (P : Program) (w : World) (K : PySem.W.Frag) (mg : Str → Option Value) (base : Heap) (N : List Str) (qual : Str) (st : Stmt) (f : Addr) (cdv : Value) (A : Around) (outer : List Env) (s : Shared) (H : Hp) (E : XK) : Cx := cxOf (L2.CX P w) P w K mg base N qual (defScope st) f cdv A outer s H E
def DJ (P : Program) (w : World) (K : PySem.W.Frag) (mg : Str → Option Value) (base : Heap) (cl : Nat → Addr) (N : List Str) (qual : Str) (st : Stmt) (f : Addr) (k : Nat) (body : Sm) : Prop := ∀ (cdv : Value) (A : Around) (outer : List Env) (s : Shared) (H : Hp) (E : XK),
  Cf (DX P w K mg base N qual st f cdv A outer s H E) k → PassesOwn (model P w) (DX P w K mg base N qual st f cdv A outer s H E).A (DX P w K mg base N qual st f cdv A outer s H E).env (DX P w K mg base N qual st f cdv A outer s H E).xe → PSs (DX P w K mg base N qual st f cdv A outer s H E) cl (defBody st) body
theorem fn_dj {P : Program} {w : World} {K : PySem.W.Frag} {mg : Str → Option Value} {base : Heap} {cl : Nat → Addr} {x qual : Str} {st : Stmt} {f : Addr} {fd : FuncData} {N ps : List Str} {k : Nat} {con : Con} {body : Sm} (F : Fun K x qual st f fd) (S : FnScope N ps (defScope st))
    (hc : ∀ ts μ φ ε, con ts μ φ ε → ts.length = ps.length ∧ Ir.wpB body (N.length - ps.length) ts μ φ ε) (hj : DJ P w K mg base cl N qual st f k body) : FnOk P w K mg base (L2.CX P w) (k + 1) f fd ps (spOf cl w K con) := fn_ir F S hc hj
end Is

/-! Iv: properties, methods, objects. -/
namespace Is
open PySem PySem.Spec PyProof.Rows L2 Wx
open Ir (Tr Cel Mem Ev EK SK EX Con Tg Op Cm I Sm wp wps)
section
variable {X : Cx} {CX : CXT} {k : Nat} {f C : Addr} {fd : FuncData} {ps : List Str} {sp : Sp} {E : L2.St → XK} {x m : Str} {p pos apos : Pos} {e o : Expr} {es : List Expr} {ta : TE} {t : TA}
end
section
variable {X : Cx} {c : Nat → Addr} {n : Nat} {pos p0 apos : Pos}
/-! ### a new object -/
end
end Is

/-! Iw: fields stored, the dict of lists. -/
namespace Is
open PySem PySem.Spec PyProof.Rows L2 Wx
open Ir (Tr Cel Mem Ev EK SK EX Con Tg Op Cm I Sm wp wps)
section
variable {X : Cx} {c : Nat → Addr} {n : Nat} {pos p0 apos : Pos}
/-! ### a machine's dict of lists -/
end
end Is

/-! Ix: dict comprehensions. -/
namespace Is
open PySem PySem.Spec PyProof.Rows L2 Wx
open Ir (Tr Cel Mem Ev EK SK EX Con Tg Op Cm I Sm wp wps)
section
variable {X : Cx} {c : Nat → Addr} {n : Nat} {pos : Pos}
end
end Is

/-! Iy: sorted. -/
namespace Is
open PySem PySem.Spec PyProof.Rows L2 Wx
open Ir (Tr Cel Mem Ev EK SK EX Con Tg Op Cm I Sm wp wps)
section
variable {B : Bs} {H F : Hp}
end
/-! the order -/
end Is

/-! Iz: sorted as a rule; items; drawn numbers. -/
namespace Is
open PySem PySem.Spec PyProof.Rows L2 Wx
open Ir (Tr Cel Mem Ev EK SK EX Con Tg Op Cm I Sm wp wps)
section
variable {X : Cx} {c : Nat → Addr} {n : Nat} {pos p0 : Pos}
end
end Is

/-! Ja: loops and comprehensions of the small language. -/
namespace Ir
/-- a comprehension whose elements are pure -/
theorem compK_map {α : Type} {f : Tr → Mem → (Option Tr → Mem → Prop) → Prop} {enc g : α → Tr} {μ : Mem} : ∀ {xs : List α} {φ : List Tr → Mem → Prop}, (∀ x ∈ xs, ∀ k : Option Tr → Mem → Prop, k (some (g x)) μ → f (enc x) μ k) → φ (xs.map g) μ → compK f (xs.map enc) μ φ
  | [], φ, _, h => by rw [List.map_nil, compK_nil]; exact h
  | x :: xs, φ, hf, h => by rw [List.map_cons, compK_cons]; exact hf x List.mem_cons_self _ (compK_map (fun y hy => hf y (List.mem_cons_of_mem _ hy)) h)
/-- .. the items before and behind are known -/
theorem forK_at {α : Type} {enc : α → Tr} {f : Tr → Ev → Mem → SK → Prop} (P : List α → Ev → Mem → Prop) {all : List α} : ∀ {xs pre : List α} {ρ : Ev} {μ : Mem} {nx : SK}, pre ++ xs = all → P pre ρ μ →
    (∀ pre x post ρ μ, pre ++ x :: post = all → P pre ρ μ → ∀ k : SK, (∀ ρ' μ', P (pre ++ [x]) ρ' μ' → k ρ' μ') → f (enc x) ρ μ k) →
    (∀ ρ' μ', P all ρ' μ' → nx ρ' μ') → forK f (xs.map enc) ρ μ nx
  | [], pre, ρ, μ, nx, ha, h0, _, hd => by rw [List.map_nil, forK_nil]; exact hd ρ μ (by rw [← ha]; simpa using h0)
  | x :: xs, pre, ρ, μ, nx, ha, h0, hs, hd => by
    rw [List.map_cons, forK_cons]
    refine hs pre x xs ρ μ ha h0 _ fun ρ' μ' hr => ?_
    exact forK_at P (pre := pre ++ [x]) (by simpa using ha) hr hs hd
/-! equality of data -/
mutual
theorem eqT_refl : ∀ (n : Nat) (t : Tr), isD n t = true → eqT t t = true
  | n, .non, _ => rfl
  | n, .bl b, _ => by show decide (b = b) = true; simp
  | n, .int i, _ => by show decide (i = i) = true; simp
  | n, .str l, _ => by show decide (l = l) = true; simp
  | 0, .tup ts, h => by unfold isD at h; cases h
  | n + 1, .tup ts, h => by unfold isD at h; exact eqTs_refl n ts h
  | 0, .lst ts, h => by unfold isD at h; cases h
  | n + 1, .lst ts, h => by unfold isD at h; exact eqTs_refl n ts h
  | n, .ty _, h => by unfold isD at h; cases h
  | n, .dic _ _, h => by unfold isD at h; cases h
  | n, .obj _ _, h => by unfold isD at h; cases h
  | n, .ptr _, h => by unfold isD at h; cases h
  | 0, .ktup ts, h => by unfold isD at h; cases h
  | n + 1, .ktup ts, h => by unfold isD at h; exact eqTs_refl n ts h
  | n, .scr _, h => by unfold isD at h; cases h
  | n, .cls _, h => by unfold isD at h; cases h
theorem eqTs_refl : ∀ (n : Nat) (ts : List Tr), isDs n ts = true → eqTs ts ts = true
  | _, [], _ => rfl
  | n, t :: ts, h => by
    unfold isDs at h
    rw [Bool.and_eq_true] at h
    show (eqT t t && eqTs ts ts) = true
    rw [eqT_refl n t h.1, eqTs_refl n ts h.2]
    rfl
end
theorem atT_nat {α : Type} {xs : List α} {j : Nat} {v : α} (h : xs[j]? = some v) : atT xs (j : Int) = some v := by
  have hj : j < xs.length := (List.getElem?_eq_some_iff.mp h).1
  have e : ixT xs.length (j : Int) = some j := by
    unfold ixT
    rw [if_pos (by omega), if_pos (by omega)]; simp
  unfold atT; rw [e]; exact h
end Ir

/-! Ca: names, arrows, what is least; no program in sight. -/
namespace G
open Ir (Tr)
/-! ### names -/
def LET : List Nat := [97, 98, 99, 100, 101, 102, 103, 104, 105, 106, 107, 108, 109, 110, 111, 112, 113, 114, 115, 116, 117, 118, 119, 120, 121, 122]
def nameB (l : List Nat) : Bool := decide (1 ≤ (l.length : Int)) && (decide ((l.length : Int) ≤ 8) && l.all fun c => decide (c ∈ LET))
def letB : List Nat → Bool
  | [c] => decide (c ∈ LET)
  | _ => false
/-! ### arrows -/
structure Ar where
  s : List Nat
  l : List Nat
  a : List Nat
  p : Int
  deriving DecidableEq
def okAr (x : Ar) : Bool := nameB x.s && letB x.l && nameB x.a && (decide (0 ≤ x.p) && decide (x.p ≤ 99))
/-! ### in order, each once -/
section
variable {α : Type} [DecidableEq α]
/-- a strict order -/
structure Ord (lt : α → α → Bool) : Prop where
  ir : ∀ a, lt a a = false
  tr : ∀ a b c, lt a b = true → lt b c = true → lt a c = true
  to : ∀ a b, lt a b = false → lt b a = false → a = b
def insU (lt : α → α → Bool) (x : α) : List α → List α
  | [] => [x]
  | y :: r => if lt x y = true then x :: y :: r else if x = y then y :: r else y :: insU lt x r
def srtU (lt : α → α → Bool) (l : List α) : List α := l.foldr (insU lt) []
def Asc (lt : α → α → Bool) (l : List α) : Prop := l.Pairwise fun a b => lt a b = true
end
def ltN (a b : List Nat) : Bool := decide (a < b)
theorem ordN : Ord ltN := ⟨fun a => by simp [ltN, List.lt_irrefl], fun a b c h1 h2 => by
  simp only [ltN, decide_eq_true_eq] at *
  exact List.lt_trans h1 h2, fun a b h1 h2 => by
  simp only [ltN, decide_eq_false_iff_not] at *
  exact List.le_antisymm (List.not_lt.mp h2) (List.not_lt.mp h1)⟩
abbrev uniq (l : List (List Nat)) : List (List Nat) := srtU ltN l
/-! ### what is least -/
def IsMin (P : Int → Prop) (o : Option Int) : Prop := match o with | none => ∀ c, ¬ P c | some c => P c ∧ ∀ d, P d → c ≤ d
theorem IsMin.uniq {P : Int → Prop} {o o' : Option Int} (h : IsMin P o) (h' : IsMin P o') : o = o' := by
  cases o with
  | none =>
    cases o' with
    | none => rfl
    | some c => exact absurd h'.1 (h c)
  | some c =>
    cases o' with
    | none => exact absurd h.1 (h' c)
    | some c' =>
      have h1 := h.2 c' h'.1
      have h2 := h'.2 c h.1
      rw [show c = c' by omega]
theorem IsMin.congr {P P' : Int → Prop} {o : Option Int} (e : ∀ c, P c ↔ P' c) (h : IsMin P o) : IsMin P' o := by
  cases o with
  | none => exact fun c hc => h c ((e c).mpr hc)
  | some c => exact ⟨(e c).mp h.1, fun d hd => h.2 d ((e d).mpr hd)⟩
/-- a run along arrows -/
inductive Path (as : List Ar) : List Nat → List Nat → List Nat → Int → Prop
  | nil (s : List Nat) : Path as s [] s 0
  | snoc {s row t c} {x : Ar} {k : Nat} : Path as s row t c → x ∈ as → x.s = t → x.l = [k] → Path as s (row ++ [k]) x.a (c + x.p)
end G
namespace G
open Ir (Tr Con)
def c_law_draw : Con := fun ts μ φ ε => ∃ (n : Nat) (m : Int), ts = [.ptr 0, .int m] ∧ μ = [.src n] ∧ n < 1000000 ∧ 0 < m ∧ m < 1073741824 ∧ ∀ d : Int, 0 ≤ d → d < m → φ (.int d) [.src (n + 1)]
def c_law : Con := fun ts μ φ ε => ∃ ns : List Int, ts = [.scr ns] ∧ μ = [] ∧ φ (.bl true) []
end G

/-! Ka: for .. in d.items(); drawn numbers. -/
namespace Is
open PySem PySem.Spec PyProof.Rows L2 Wx
open Ir (Tr Cel Mem Ev EK SK EX Con Tg Op Cm I Sm wp wps)
section
variable {B : Bs} {W W' : Wd} {σ σ' : L2.St} {ρ ρ' : Ev} {μ : Mem}
end
section
variable {X : Cx} {c : Nat → Addr} {n : Nat} {pos : Pos}
end
end Is
namespace Is
open PySem PySem.Spec PyProof.Rows L2 Wx
open Ir (Tr Cel Mem Ev EK SK EX Con Tg Op Cm I Sm wp wps)
theorem FnOk.sub {P : Program} {w : World} {K : PySem.W.Frag} {mg : Str → Option Value} {base : Heap} {CX : CXT} {k : Nat} {f : Addr} {fd : FuncData} {ps : List Str} {sp sp' : Sp} (F : FnOk P w K mg base CX k f fd ps sp) (h : ∀ vs H Q E, sp' vs H Q E → sp vs H Q E) : FnOk P w K mg base CX k f fd ps sp' :=
  ⟨fun vs H Q E hs => F.len vs H Q E (h vs H Q E hs), fun A outer s H args us vs Q E hr he hb hv hs => F.run A outer s H args us vs Q E hr he hb hv (h vs H Q E hs)⟩
theorem sp_draw {cl : Nat → Addr} {w : World} {K : PySem.W.Frag} (vs : List V) (H : Hp) (Q : VK) (E : XK) (h : spOf cl w K G.c_law_draw vs H Q E) : spDraw vs H Q E := by
  obtain ⟨W, ts, μ, φ, ε, rfl, Sx, r, ⟨n, m, rfl, rfl, hn, h0, h1, hd⟩, kφ, kε⟩ := h
  cases r with
  | cons r1 r2 =>
    cases r2 with
    | cons r2 r3 =>
      cases r3
      obtain ⟨a, rfl, ha⟩ := r1.ptr
      have r2 := r2.rv fun i e => nomatch e
      cases r2
      obtain ⟨b, fp, e1, e2, e3⟩ := Sx.mem 0 (.src n) rfl
      rw [ha] at e1
      cases e1
      obtain ⟨rfl, hs⟩ := e3
      refine ⟨a, n, m, rfl, hs, hn, h0, h1, fun H' d ex hs' hd0 hd1 => ?_⟩
      have hne : W.H a ≠ none := by obtain ⟨_, _, _, z, _⟩ := hs; rw [z]; exact fun z => nomatch z
      have keep : ∀ x, x ≠ a → W.H x ≠ none → H' x = W.H x := fun x hx hx2 => by
        cases e : W.H x with
        | none => exact absurd e hx2
        | some o =>
          have := ex x o (pub_get hx e)
          exact pub_ex x o this
      have tx : TEx W.H H' := fun x xs hx => by
        have : x ≠ a := fun e => by
          subst e
          obtain ⟨_, _, _, z, _⟩ := hs
          rw [hx] at z
          cases z
        exact (keep x this (by rw [hx]; exact fun z => nomatch z)).trans hx
      obtain ⟨g, S'⟩ := Sx.cellU (fq := [a]) (c' := .src (n + 1)) (H' := H') ha e2 (fun x hx hxn => keep x (fun e => hx (by rw [e]; simp)) hxn) tx (by simp) (fun x hx => ⟨.inl hx, by
        have : x = a := by simpa using hx
        subst this
        obtain ⟨_, _, _, z, _⟩ := hs'
        rw [z]
        exact fun z => nomatch z⟩) ⟨rfl, hs'⟩
      exact kφ _ _ _ _ g S' (.inl (.int d)) (hd d hd0 hd1)
section
variable {X : Cx} {c : Nat → Addr} {n : Nat} {pos p0 p1 : Pos}
theorem pj_src {y : Str} {i k : Nat} (C : Cal X.prog X.w X.K X.mg X.base CX0 k "_law_source" (spSource X.K)) (hr : Room k X.A) (hi : X.N[i]? = some y) (hv : Vis X.env.scope y := by first | exact Or.inl rfl | exact Or.inr (Or.inl rfl) | exact Or.inr (Or.inr rfl)) (hd : (y == ("__debug__" : Str)) = false := by decide) (hcd : (y == ("__classdict__" : Str)) = false := by decide)
    (hg : Gl X "_law_source" := by rfl) (he : starEach [.Name y p1] X.env = (false, eval (.Name y p1) X.env) :: starEach [] X.env := by rfl) (hpl : (backTo pos (starEach [] X.env)).any (·.1) = false := by rfl) : PJ X c (.Call (.Name "_law_source" p0) [.Name y p1] [] pos) (.src i) := fun ρ μ φ ε h W σ Q Sx k tk => by
  obtain ⟨t, h2, h3⟩ := getK_at h
  obtain ⟨v, h4, h5⟩ := Sx.env i t h2
  cases t with
  | scr ns =>
    have r := h5.rv fun i e => nomatch e
    cases r with
    | scr hl =>
      refine we_cal (E := fun _ _ _ => False) C hr L2.pass0 (wa_cons (WE.of (pe_var hi hv hd hcd) ⟨_, h4, wa_nil ⟨_, ns, rfl, Sx.scr hl, fun H' p ex hp hs => ?_⟩⟩) he) hg (by decide) he hpl
      have h3 := snocK_at h3
      obtain ⟨g, S'⟩ := Sx.newC (a := p) (fq := [p]) (c := .src 0) (H' := H') (fun x hx => by
        cases e : W.H x with
        | none => exact absurd e hx
        | some o => exact ex x o e) (by simp) (fun x hx => by
        have : x = p := by simpa using hx
        subst this
        refine ⟨hp, ?_⟩
        obtain ⟨_, _, _, z, _⟩ := hs
        rw [z]
        exact fun z => nomatch z) ⟨rfl, hs⟩
      exact k _ _ _ _ g S' (.inr ⟨_, p, rfl, rfl, len_get Sx.lA⟩) h3
  | _ => exact h3.elim
theorem pt_chain {o p a b d x y z} (f : Cf X n) (ho : o = .lt ∨ o = .le) (hp : p = .lt ∨ p = .le) (ha : PJ X c a x) (hb : PJ X c b y) (hd : PJ X c d z) (hm : lastMarks [cmOf o, cmOf p] [b, d] = false := by with_unfolding_all rfl) : PT X c (.Compare a [cmOf o, cmOf p] [b, d] pos) (.chain o p x y z) := fun ρ μ φ ε h hφ W σ Q Sx k tk =>
  wt_chain (ha ρ μ _ ε h W σ _ Sx (fun W1 v1 t1 μ1 g1 S1 r1 h1 => hb ρ μ1 _ ε h1 W1 σ _ S1 (fun W2 v2 t2 μ2 g2 S2 r2 h2 => by
    obtain ⟨n1, n2⟩ := chain_noptr h2 ho
    refine cmpK_ok f S2 ((r1.go g2).rv n1 |>.rw S2) ((r2.rv n2).rw S2) h2 fun b0 hb0 => ⟨b0, rfl, ?_⟩
    cases b0 with
    | true =>
      rw [if_pos rfl]
      exact hd ρ μ2 _ ε hb0 W2 σ _ S2 (fun W3 v3 t3 μ3 g3 S3 r3 h3 => by
        obtain ⟨n3, n4⟩ := chain_noptr h3 hp
        exact cmpK_ok f S3 (((r2.go g3).rv n3).rw S3) ((r3.rv n4).rw S3) h3 fun b1 hb1 => ⟨b1, rfl, k W3 b1 μ3 ((g1.trans g2).trans g3) S3 hb1⟩) (tk_go (g1.trans g2) tk)
    | false =>
      rw [if_neg Bool.false_ne_true]
      exact ⟨false, rfl, k W2 false μ2 (g1.trans g2) S2 hb0⟩) (tk_go g1 tk)) tk) hm
end
end Is
namespace Is
open PySem PySem.Spec PyProof.Rows L2 Wx
open Ir (Tr Cel Mem Ev EK SK EX Con Tg Op Cm I Sm wp wps)
/-- what the head asks of the law -/
def spHead (K : PySem.W.Frag) : Sp := fun vs H Q _ => ∃ (a : Addr) (ns : List Int), vs = [.ref a] ∧ Only H ∧ SqL K H a (ns.map V.int) ∧ ∀ H', Q (.bl true) H'
theorem sp_law {cl : Nat → Addr} {w : World} {K : PySem.W.Frag} (vs : List V) (H : Hp) (Q : VK) (E : XK) (h : spHead K vs H Q E) : spOf cl w K G.c_law vs H Q E := by
  obtain ⟨a, ns, rfl, hO, hS, hQ⟩ := h
  have Sx0 : ∀ F : Hp, (∀ x o, F x = some o → (∃ b, H x = some (.frz b o)) ∧ frzb o = true) → Sa ⟨K, cl, w⟩ ⟨[], [], H, F, H⟩ [] [] [] := fun F hF =>
    ⟨Ex.refl _, (fun x o h => .inr (hF x o h)), (fun i t h => by simp at h), rfl, rfl, (fun i c h => by simp at h), List.nodup_nil, (fun x h => nomatch h), rfl⟩
  have fin : ∀ F : Hp, (∀ x o, F x = some o → (∃ b, H x = some (.frz b o)) ∧ frzb o = true) → ScrAt K F a (ns.map V.int) → spOf cl w K G.c_law [.ref a] H Q E := fun F hF hA =>
    ⟨⟨[], [], H, F, H⟩, [.scr ns], [], fun t _ => t = .bl true, fun _ _ => False, rfl, Sx0 F hF, .cons (.inl (.scr hA)) .nil, ⟨ns, rfl, rfl, rfl⟩, fun W' v t μ' g S' r e => by
      have e : t = .bl true := e
      subst e
      have r := r.rv fun i e => nomatch e
      cases r
      exact hQ _, fun _ _ _ _ _ _ _ _ h => h.elim⟩
  rcases hS with h | h
  · have h2 : ∃ o, H a = some (.frz o (.lst (ns.map V.int))) := by
      rcases h with h | h
      · rcases hO a with z | ⟨o, xs, z⟩
        · rw [z] at h; cases h
        · rw [z] at h; cases h
      · exact h
    obtain ⟨o, h2⟩ := h2
    refine fin (fun x => if x = a then some (.lst (ns.map V.int)) else none) (fun x u hx => ?_) (.inl (if_pos rfl))
    by_cases e : x = a
    · subst e
      have hx := (if_pos rfl).symm.trans hx
      cases hx
      exact ⟨⟨o, h2⟩, rfl⟩
    · have hx := (if_neg e).symm.trans hx
      cases hx
  · exact fin (fun _ => none) (fun x u hx => nomatch hx) (.inr h)
theorem FnOk.cx0 {P : Program} {w : World} {K : PySem.W.Frag} {mg : Str → Option Value} {base : Heap} {CX : CXT} {k : Nat} {f : Addr} {fd : FuncData} {ps : List Str} {sp : Sp} (F : FnOk P w K mg base CX0 k f fd ps sp) : FnOk P w K mg base CX k f fd ps sp :=
  ⟨F.len, fun A outer s H args us vs Q E hr he hb hv hs => codeAny_mono (F.run A outer s H args us vs Q E hr he hb hv hs) fun r s' h => by
    cases r with
    | error e => exact (show False from h).elim
    | ok fl => cases fl <;> exact h⟩
theorem cx_no {P : Program} {w : World} {outer : List Env} {H : Hp} {s s' : Shared} {e : Value} (h : L2.CX P w outer H s (fun _ _ _ => False) e s') : False := by
  obtain ⟨_, _, _, _, _, _, _, _, _, _, _, _, h⟩ := h
  exact h
end Is

/-! Kb: texts backwards, enumerate of a text. -/
namespace L2
open PySem PySem.Spec PyProof.Rows Wx
section
variable {X : Cx}
/-! ### enumerate(text) -/
end
end L2
namespace Is
open PySem PySem.Spec PyProof.Rows L2 Wx
open Ir (Tr Cel Mem Ev EK SK EX Con Tg Op Cm I Sm wp wps)
section
variable {X : Cx} {c : Nat → Addr} {n : Nat} {pos p0 p1 p2 p3 : Pos}
end
end Is

/-! Kc: list(range(..)), dict(pairs). -/
namespace Is
open PySem PySem.Spec PyProof.Rows L2 Wx
open Ir (Tr Cel Mem Ev EK SK EX Con Tg Op Cm I Sm wp wps)
section
variable {X : Cx} {c : Nat → Addr} {n : Nat} {pos p0 p1 p2 p3 : Pos}
end
end Is

/-! Kd: dict comprehensions whose keys are tuples. -/
namespace L2
open PySem PySem.Spec PyProof.Rows Wx
section
variable {X : Cx}
end
end L2
namespace L2
open PySem PySem.Spec PyProof.Rows Wx
end L2
namespace Is
open PySem PySem.Spec PyProof.Rows L2 Wx
open Ir (Tr Cel Mem Ev EK SK EX Con Tg Op Cm I Sm wp wps)
section
variable {X : Cx} {c : Nat → Addr} {n : Nat} {pos : Pos}
end
end Is

/-! Ke: isinstance and == of own classes. -/
namespace L2
open PySem PySem.Spec PyProof.Rows Wx
/-- == of two instances of the class C, whose def is at g -/
structure EqO (P : Program) (w : World) (K : PySem.W.Frag) (mg : Str → Option Value) (base : Heap) (CX : CXT) (k : Nat) (C : Addr) (sp : Sp) : Prop where
  ex : ∃ g fd ps, PySem.W.findIn K (.ref C) "__eq__" = some (some (.ref g)) ∧ PySem.W.isFn K (.ref g) = true ∧ PySem.W.notFirst K C (.ref C) = true ∧ FnOk P w K mg base CX k g fd ps sp ∧ Binds K fd ps []
section
variable {X : Cx}
end
end L2
namespace Is
open PySem PySem.Spec PyProof.Rows L2 Wx
open Ir (Tr Cel Mem Ev EK SK EX Con Tg Op Cm I Sm wp wps)
section
variable {X : Cx} {c : Nat → Addr} {n : Nat} {pos p0 p1 p2 p3 : Pos}
/-- what isinstance asks of an own class that stands under the name x -/
structure IsC (K : PySem.W.Frag) (mg : Str → Option Value) (x : Str) (C : Addr) : Prop where
  c : C8.InsC K C
  m : mg x = some (.ref C)
/-- what isinstance and == of no objects ask of an own class -/
def nots : List String := ["NoneType", "bool", "int", "str", "tuple"]
structure IsN (K : PySem.W.Frag) (C : Addr) : Prop where
  k : ∀ t ∈ nots, PySem.W.kitOne K (.type t) (.ref C) = some false ∧ PySem.W.notFirst K C (.type t) = true
theorem pass_noX {P w} (h1 : X.prog = P) (h2 : X.w = w) : Passes (L2.CX P w) X (fun _ _ _ => False) := by
  subst h1; subst h2
  intro pins σ H s e s' I ⟨_, _, _, _, _, _, _, _, _, _, _, _, h⟩
  exact h.elim
end
end Is

/-! Kf: list comprehensions of two walks. -/
namespace Is
open PySem PySem.Spec PyProof.Rows L2 Wx
open Ir (Tr Cel Mem Ev EK SK EX Con Tg Op Cm I Sm wp wps)
section
variable {X : Cx} {c : Nat → Addr} {n : Nat} {pos : Pos}
end
end Is
namespace Is
open PySem PySem.Spec PyProof.Rows L2 Wx
open Ir (Tr Cel Mem Ev EK SK EX Con Tg Op Cm I Sm wp wps)
section
variable {X : Cx} {c : Nat → Addr} {n : Nat} {pos : Pos}
end
end Is

/-! Kg: a list that a callee hands over as its own. -/
namespace Is
open PySem PySem.Spec PyProof.Rows L2 Wx
open Ir (Tr Cel Mem Ev EK SK EX Con Tg Op Cm I Sm wp wps)
section
variable {B : Bs} {W W' : Wd} {σ : L2.St} {ρ : Ev} {μ : Mem}
/-- a tuple whose first member is a list of its own -/
structure Ro (B : Bs) (W : Wd) (v : V) (ts rest : List Tr) : Prop where
  ex : ∃ (a b : Addr) (us vs : List V), v = .ref a ∧ W.H a = some (.tup (.ref b :: vs)) ∧ W.H b = some (.lst us) ∧ Rvs B W.H W.F us ts ∧ Rvs B W.H W.F vs rest ∧ W.G b = none ∧ b ∉ W.O.flatten
open Classical in
end
end Is

/-! Kh: x, y, z = f(..), the first one handed over. -/
namespace Is
open PySem PySem.Spec PyProof.Rows L2 Wx
open Ir (Tr Cel Mem Ev EK SK EX Con Tg Op Cm I Sm wp wps)
section
variable {X : Cx} {c : Nat → Addr} {n : Nat} {pos p0 p1 p2 pos' : Pos}
end
end Is

/-! Kj: an own error class over another own one over ValueError, whose __init__ says super().__init__("..") and keeps at most one field. -/
namespace Is
open PySem PySem.Spec PyProof.Rows L2 Wx
section
variable {P : Program} {w : World}
/-- what the written part says of the class at C, the cell __class__ at cc and the code at cda -/
structure SupC (P : Program) (K : PySem.W.Frag) (C cc cda : Addr) : Prop where
  oex : OexC K C
  cell : ∃ cl cld csl, K.lookup cc = some ⟨cl, cld, .cell (some (.ref C)), csl⟩
  code : ∃ ccl cdd vs ccs file tf, K.lookup cda = some ⟨ccl, cdd, .fields vs, ccs⟩ ∧ vs[2]? = some (.str file tf) ∧ ((P.main.file : Str) == file) = true
  sup : PySem.W.ks_superIn K C C "__init__" = some (some (.builtin "ValueError.__init__"))
  sub : PySem.W.subIn K (.ref C) (.type "ValueError") = some true
  mro : PySem.W.mroIn K C (.ref C) = some true
  opq : PySem.W.nsIn K cStatics "thirdparty.any" = some none
  top : (P.main.scope.names.lookup ("super" : Str)).isSome = false
/-- the built-in __init__ bound to the error, called -/
theorem call_bv {A : Around} {E : Value → Shared → Prop} {h : Heap} {g : Array GenState} {d : Drawn} {t : Nat} {os : OsState} {nm q : Str} {C N : Addr} {bs bm : List Value} {hdct : Bool} {sn : List Str} {sub : List Value} {ab : Bool} {col : Option Bool} {dd : Option Addr} {k0 k1 k2 k3 k5 : Option Value}
    {u e t0 : Addr} {rest : List Value} {Q : Value → Shared → Prop}
    (hC : h.get? C = some (excClassObj nm q C N bs bm hdct sn sub ab col dd k0 k1 k2 k3 k5 "ValueError.__new__")) (he : h.get? e = some (PySem.HandSPX.excO C t0)) (hu : h.get? u = some (PySem.W.kxs_mw "ValueError.__init__" e)) (hrest : rest.length ≤ sizeLine)
    (hq : ∀ h' t1, (∀ b o, b ≠ e → h.get? b = some o → h'.get? b = some o) → h'.get? e = some (PySem.HandSPX.excO C t1) → Q .none ⟨h', g, d, t, os⟩) :
    wpAny (model P w) A (call (.ref u) rest) Q E ⟨h, g, d, t, os⟩ := by
  refine wpAny_call (codeAny_of_tree ?_)
  show wpAny _ A.in1 (callAny (.ref u) ⟨rest, []⟩) _ _ _
  simp only [callAny]
  refine wpAny_bind (wpAny_load hu ?_)
  simp only [PySem.W.kxs_mw, show (Value.type "method-wrapper" == Value.type "method" || Value.type "method-wrapper" == Value.type "builtin_function_or_method" || Value.type "method-wrapper" == Value.type "method-wrapper") = true by decide, if_true]
  refine PySem.W.KFB.if_so (by decide) ?_
  refine wpAny_bind (PySem.W.check_bound_init F.excBase_ValueError.toExcCallFacts hC he rfl ?_)
  refine wpAny_bind (wpAny_pure (wpAny_pure ?_))
  refine ⟨Code.quiet_builtin _ (by decide +kernel), codeAny_builtin F.excBase_ValueError.initEntry ?_⟩
  rw [Around.under_plainId F.excBase_ValueError.init.plain _]
  wp_walk
  refine hq _ h.objs.size (fun b o hb ho => ?_) ?_
  · rw [Heap.get?_update_other _ _ (Ne.symm hb)]
    exact Heap.get?_push_of_some _ ho
  · rw [Heap.get?_update_self _ (Heap.get?_push_of_some _ he) rfl]
    rfl
theorem callWith_bv {M : Model} {A : Around} {E : Value → Shared → Prop} {s : Shared} {pos : Pos} {i : String} {u x : Addr} {env : Env} {e : Expr} {rest : List Expr} {Q : Value → Shared → Prop}
    (h : wpAny M A (spliced (backTo pos (starEach (e :: rest) env))) (fun vs s₁ => PySem.W.KxsAt i u x s₁.heap ∧ wpAny M A (call (.ref u) vs) Q E s₁) E s)
    (he : starEach (e :: rest) env = (false, eval e env) :: starEach rest env := by rfl) (hplain : (backTo pos (starEach rest env)).any (·.1) = false := by rfl) :
    wpAny M A (callWith pos (.ref u) [] (backTo pos (starEach (e :: rest) env)) []) Q E s := by
  rw [he] at h ⊢
  refine PySem.W.kxs_callWith (i := i) (x := x) (by show (false || (backTo pos (starEach rest env)).any (·.1)) = false; rw [hplain]; rfl) ?_
  exact Calls.evalArgs_plain h
/-- super().__init__("..") in such a def: the heap grows, the error's args are laid anew -/
theorem super_line {K : PySem.W.Frag} {mg : Str → Option Value} {base : Heap} {A : Around} {E : Value → Shared → Prop} {s : Shared} {env : Env} {C cc cda a f t0 : Addr} {m : Str → Option Value} {oF : Obj} {fd : FuncData} {ar : Arg} {body : List Stmt} {lit : Str} {j : Nat} {p0 p1 p2 p3 p4 p5 : Pos} {Q : Flow → Shared → Prop}
    (S : SupC P K C cc cda) (M : Mod K mg base) (kb : ∀ b o, base.get? b = some o → s.heap.get? b = some o) (hm : mg "super" = none)
    (hf : s.heap.get? f = some oF) (hfd : oF.data = .func fd) (hp : (fd.params.posonlyargs ++ fd.params.args).head? = some ar)
    (hns : s.heap.Ns env.locals m) (hv : m ar.arg = some (.ref a)) (ha : s.heap.get? a = some (PySem.HandSPX.excO C t0))
    (e1 : env.scope.kind = .function) (e2 : env.kindOf "super" = some .globalImplicit) (e3 : env.kindOf "__class__" = some .free) (e4 : env.kindOf ar.arg = some .local) (e5 : env.func = some f) (e6 : env.code = .ref cda) (e7 : env.cells.lookup ("__class__" : Str) = some cc) (e8 : env.globals = mainGlobals) (e9 : env.builtins = builtinsNs)
    (hi : interactive env = false) (hsw : swapsWith (.Call (.Attribute (.Call (.Name "super" p0) [] [] p1) "__init__" p2) [.Constant (.str lit) j p3] [] p4) none p5.line env = pure false)
    (hev : ∃ pl : Sem Bool, eval (.Call (.Attribute (.Call (.Name "super" p0) [] [] p1) "__init__" p2) [.Constant (.str lit) j p3] [] p4) env = (do
      let ov ← attributeBase (.Call (.Name "super" p0) [] [] p1) "__init__" env (eval (.Call (.Name "super" p0) [] [] p1) env)
      standAt p2.atName
      let (f, first) ← holding [ov] (getMethod ov "__init__" pl)
      callWith p4 f first (backTo p4 (starEach [.Constant (.str lit) j p3] env)) []))
    (h : ∀ h' t1 tk, (∀ b o, b ≠ a → s.heap.get? b = some o → h'.get? b = some o) → h'.get? a = some (PySem.HandSPX.excO C t1) → Q .next ⟨h', s.gens, s.drawn, tk, s.os⟩) :
    _root_.PySem.wpAt (model P w) A (.func body env) (exec (.Expr (.Call (.Attribute (.Call (.Name "super" p0) [] [] p1) "__init__" p2) [.Constant (.str lit) j p3] [] p4) p5) env) Q E s := by
  obtain ⟨pl, hev⟩ := hev
  obtain ⟨cl, cld, csl, hcell⟩ := S.cell
  obtain ⟨ccl, cdd, vs, ccs, file, tf, hcode, hvs, hfile⟩ := S.code
  obtain ⟨nm, q, N, bs, bm, sn, sub, ab, col, dd, k0, k1, k2, k3, k5, hC, hbm⟩ := S.oex.cls
  obtain ⟨hh, g, d, t, os⟩ := s
  dsimp only at *
  have X : K.In hh := M.kin.keeps kb
  obtain ⟨mb, b1, b2⟩ := M.blt
  refine ks_wpAt_Expr_any ?_ hi hsw
  refine ks_wpAt_MethodCall ?_ hev
  refine ks_wpAt_super_base (env := env) e2 e3 (by decide) e5 hf hfd hp e6 (X _ _ hcode) rfl hvs hfile S.top ?_
  refine PySem.W.ks_loadName_global e1 e2 (Calls.loadGlobal_builtin (by rw [e8]; exact M.glob.keeps kb) hm (by rw [e9]; exact b1.keeps kb) ((b2 "super" (by decide)).trans (by first | boot_by_name | rfl | kernel_rfl)) ⟨rfl, ?_⟩)
  refine wpAny_loadName_free e1 e3 e7 ⟨_, X _ _ hcell, rfl⟩ ?_
  refine wpAny_loadName_local e1 e4 hns hv ?_
  refine ks_wpAny_isType_cls (X _ _ hC) rfl ⟨rfl, ?_⟩
  refine ks_wpAny_call_super (X _ _ hC) rfl ha rfl (fun c e => by cases e) (PySem.W.looks_mroIn X S.mro) (fun h2 so2 kp2 => ?_)
  have X2 : K.In h2 := X.keeps kp2
  have ha2 := kp2 _ _ ha
  have hcl : PySem.W.clsIn K C = some { name := nm, bases := bs, mro := .ref C :: bm, ns := N, qualname := q, hasDict := true, slotNames := sn, subclasses := sub, abstract := ab, collection := col, hasDel := false } := by unfold PySem.W.clsIn; rw [hC] <;> rfl
  have hsup := S.sup
  unfold PySem.W.ks_superIn at hsup
  rw [hcl, Option.bind_some] at hsup
  have I2 : PySem.W.InstAt h2 a (PySem.HandSPX.excO C t0) C none := ⟨ha2, rfl, rfl, trivial⟩
  refine PySem.W.kxs_getMethod PySem.W.kxs_ValueError so2 (PySem.W.looks_opaque X2 S.opq) (l₀ := .ref C :: bm) ?_ rfl X2 hsup (I2.type.andThen (PySem.W.looks_subIn X2 S.sub)) (PySem.W.ks_ne X2 I2 hcl) (by decide) ?_
  · exact fun A Q E s k q => wpAny_bind ((PySem.W.looks_clsIn X2 hcl) A _ E s k (wpAny_pure q))
  · dsimp only
    refine callWith_bv (i := "ValueError.__init__") (x := a) (Calls.spliced_cons (Calls.Constant_str (k := j) (pos := p3) (Calls.spliced_nil ⟨Heap.get?_push_at rfl rfl, ?_⟩)))
    have kp3 : ∀ b o, h2.get? b = some o → (h2.push (PySem.W.kxs_mw "ValueError.__init__" a)).get? b = some o := fun b o e => Heap.get?_push_of_some _ e
    refine call_bv (kp3 _ _ (X2 _ _ hC)) (kp3 _ _ ha2) (Heap.get?_push_at rfl rfl) (by rw [sizeLine_eq]; simp) (fun h4 t1 k4 ha4 => ?_)
    exact h h4 t1 _ (fun b o hb e => k4 b o hb (kp3 b o (kp2 b o e))) ha4
/-- the error laid anew, no field kept -/
theorem exc_end0 {H : Hp} {h h' : Heap} {a C t1 : Addr} {fs : List Addr} (hok : HOk P w H h) (ha : H a = some (exo a C none)) (k : ∀ b o, b ≠ a → h.get? b = some o → h'.get? b = some o) (hx : h'.get? a = some (PySem.HandSPX.excO C t1)) : Un fs [] H H h h' ∧ HOk P w H h' := by
  have na : ∀ {b : Addr}, H b = none → b ≠ a := fun {b} n z => by
    rw [z, ha] at n
    cases n
  refine ⟨{
    keep := fun b o q n _ _ => k b o (na n) q
    slot := fun b o q n _ _ => ⟨o.slots, k b o (na n) q⟩
    free := fun b o q n _ => n
    there := fun b o q _ => by
      by_cases hb : b = a
      · exact ⟨_, by rw [hb]; exact hx⟩
      · exact ⟨o, k b o hb q⟩
    tups := fun b xs q => q
    frzs := fun b o v q => q
    tbls := fun b ps q => ⟨#[], by rw [q]; simp⟩ }, fun b o q => ?_⟩
  by_cases hb : b = a
  · subst hb
    rw [ha] at q
    cases q
    exact exo_ok hx
  · exact (hok b o q).stay (fun c v hc z => k c v (by
        rcases hc with hc | hc
        · rw [hc]
          exact hb
        · exact at_ne ha hc exo_own) z) (fun c hc => hc) (fun c xs hc => hc)
/-- one field kept -/
theorem exc_end1 {H : Hp} {h h' : Heap} {a C t1 dx : Addr} {fs : List Addr} {f : Str} {y : V} {u : Value} (hok : HOk P w H h) (e : H a = some (exo a C none)) (k : ∀ b o, b ≠ a → h.get? b = some o → h'.get? b = some o) (dn : h.objs.size ≤ dx) (dne : dx ≠ a)
    (hx : h'.get? a = some ({ cls := .ref C, dict := some dx, data := .fields #[.ref t1, .none, .none, .none, .bool false, .none] } : Obj)) (hn : h'.Ns1 dx (fun y => if y = f then some u else none)) (ry : RelV y u) :
    H dx = none ∧ Un fs [] H (upd (upd H dx (exd dx [(f, y)])) a (exo a C (some dx))) h h' ∧ HOk P w (upd (upd H dx (exd dx [(f, y)])) a (exo a C (some dx))) h' := by
  have hnd : H dx = none := hok.fresh dn
  have nd : ∀ {b : Addr} {o : Obj}, h.get? b = some o → b ≠ dx := fun {b o} q => Nat.ne_of_lt (Nat.lt_of_lt_of_le (Heap.lt_size q) dn)
  have na : ∀ {b : Addr}, H b = none → b ≠ a := fun {b} n z => by
    rw [z, e] at n
    cases n
  refine ⟨hnd, {
    keep := fun b o q n _ _ => k b o (na n) q
    slot := fun b o q n _ _ => ⟨o.slots, k b o (na n) q⟩
    free := fun b o q n _ => by rw [upd_ne (na n), upd_ne (nd q)]; exact n
    there := fun b o q _ => by
      by_cases hb : b = a
      · exact ⟨_, by rw [hb]; exact hx⟩
      · exact ⟨o, k b o hb q⟩
    tups := fun b xs q => by rw [upd_ne (at_ne e q exo_tup), upd_ne (ne_of_none q hnd)]; exact q
    frzs := fun b o v q => by rw [upd_ne (at_ne e q exo_frz), upd_ne (ne_of_none q hnd)]; exact q
    tbls := fun b ps q => ⟨#[], by rw [upd_ne (at_ne e q exo_tbl), upd_ne (ne_of_none q hnd), q]; simp⟩ }, fun b o q => ?_⟩
  by_cases hb : b = a
  · subst hb
    rw [upd_same] at q
    cases q
    exact exo_ok hx
  · rw [upd_ne hb] at q
    by_cases hd : b = dx
    · subst hd
      rw [upd_same] at q
      cases q
      exact exd_ok hn (relO_put (fs := []) ry fun g => True.intro)
    · rw [upd_ne hd] at q
      exact (hok b o q).stay (fun c v hc z => k c v (by
          rcases hc with hc | hc
          · rw [hc]
            exact hb
          · exact at_ne e hc exo_own) z)
        (fun c hc => by rw [upd_ne (at_ne e hc exo_own), upd_ne (ne_of_none hc hnd)]; exact hc) (fun c xs hc => by rw [upd_ne (at_ne e hc exo_tup), upd_ne (ne_of_none hc hnd)]; exact hc)
/-- the scope of such a def -/
structure SupS (sc : Scope) : Prop where
  k : sc.kind = .function
  co : sc.isCoroutine = false
  gen : sc.isGenerator = false
  s : sc.names.lookup ("super" : Str) = some .globalImplicit
  c : sc.names.lookup ("__class__" : Str) = some .free
  f : sc.names.lookup ("self" : Str) = some .local
  nc : ∀ x ∈ sc.names, x.2 ≠ .cell
def sp0 (C : Addr) : Sp := fun vs H Q _ => ∃ a, vs = [.ref a] ∧ H a = some (exo a C none) ∧ Q .non H
def sp1 (C : Addr) (f : Str) : Sp := fun vs H Q _ => ∃ a v, vs = [.ref a, v] ∧ H a = some (exo a C none) ∧ ∀ dx, H dx = none → dx ≠ a → Q .non (upd (upd H dx (exd dx [(f, v)])) a (exo a C (some dx)))
variable {K : PySem.W.Frag} {mg : Str → Option Value} {base : Heap} {C cc cda f : Addr} {nm qual : Str} {params : Arguments} {scope : Scope} {dV kV doc pm ct oc : Value} {an od : Option Addr} {osl : Array (Option Value)} {lit : Str} {j : Nat} {p0 p1 p2 p3 p4 p5 p6 p7 p8 p9 : Pos}
abbrev supE (p0 p1 p2 p3 p4 p5 : Pos) (lit : Str) (j : Nat) : Stmt := .Expr (.Call (.Attribute (.Call (.Name "super" p0) [] [] p1) "__init__" p2) [.Constant (.str lit) j p3] [] p4) p5
theorem fn_exc0 (S : SupC P K C cc cda) (hm : mg "super" = none) (lk : K.lookup f = some ⟨oc, od, .func (PySem.W.ksFn nm qual params [supE p0 p1 p2 p3 p4 p5 lit j] scope dV kV doc pm an (.ref cda) ct cc), osl⟩) (hcd : PySem.W.codeIn K (.ref cda) qual = true)
    (hp : ((params.posonlyargs ++ params.args).head?.map (·.arg)) = some "self") (Z : SupS scope)
    (hin : ∀ L : Addr, interactive (PySem.W.ksEnv qual scope L f (.ref cda) cc) = false) (hsx : ∀ L : Addr, swapsWith (.Call (.Attribute (.Call (.Name "super" p0) [] [] p1) "__init__" p2) [.Constant (.str lit) j p3] [] p4) none p5.line (PySem.W.ksEnv qual scope L f (.ref cda) cc) = pure false)
    (hev : ∀ L : Addr, ∃ pl : Sem Bool, eval (.Call (.Attribute (.Call (.Name "super" p0) [] [] p1) "__init__" p2) [.Constant (.str lit) j p3] [] p4) (PySem.W.ksEnv qual scope L f (.ref cda) cc) = (do
      let ov ← attributeBase (.Call (.Name "super" p0) [] [] p1) "__init__" (PySem.W.ksEnv qual scope L f (.ref cda) cc) (eval (.Call (.Name "super" p0) [] [] p1) (PySem.W.ksEnv qual scope L f (.ref cda) cc))
      standAt p2.atName
      let (f', first) ← holding [ov] (getMethod ov "__init__" pl)
      callWith p4 f' first (backTo p4 (starEach [.Constant (.str lit) j p3] (PySem.W.ksEnv qual scope L f (.ref cda) cc))) [])) :
    FnOk P w K mg base (L2.CX P w) 1 f (PySem.W.ksFn nm qual params [supE p0 p1 p2 p3 p4 p5 lit j] scope dV kV doc pm an (.ref cda) ct cc) ["self"] (sp0 C) := by
  refine ⟨fun vs H Q E ⟨a, e, _⟩ => by rw [e]; rfl, fun A outer s H args us vs Q E hr e0 hb r hsp => ?_⟩
  obtain ⟨a, rfl, ha, hq⟩ := hsp
  cases r with
  | cons ra r =>
    rename_i u0 us
    cases r
    obtain rfl : u0 = Value.ref a := ra
    have kb : ∀ b o, base.get? b = some o → s.heap.get? b = some o := fun b o e => (e0.bs b o e).1
    have KX : K.In s.heap := e0.mod.kin.keeps kb
    obtain ⟨t0, hoa⟩ := exo_at e0.hok ha
    obtain ⟨ar, har, hae⟩ := Option.map_eq_some_iff.mp hp
    refine ks_codeAny_call_defAt hr.depth (KX _ _ lk) rfl (e0.mod.nolimit.keeps kb) (PySem.W.codeRec_of KX hcd) rfl hb Z.nc (fun x hx => ?_) (fun h1 hns k1 => ?_) Z.co Z.gen Z.k
    · have hx : x ∈ [(("self" : Str), Value.ref a)] := hx
      cases List.mem_singleton.mp hx
      exact Z.f
    · refine ks_wpAt_execs_cons ?_
      refine super_line (mg := mg) (base := base) (t0 := t0) S e0.mod (fun b o e => k1 b o (kb b o e)) hm (k1 _ _ (KX _ _ lk)) rfl har hns ?_ (k1 _ _ hoa) Z.k Z.s Z.c ?_ rfl rfl rfl rfl rfl (hin _) (hsx _) (hev _) (fun h' t1 tk k2 hx => ?_)
      · rw [hae]; rfl
      · rw [hae]; exact Z.f
      · show _root_.PySem.wpAt _ _ _ (execs [] _) _ _ _
        refine wpAt_of_wpAny (wpAny_execs_nil ?_)
        obtain ⟨q1, q2⟩ := exc_end0 (fs := frs outer) e0.hok ha (fun b o hb e => k2 b o hb (k1 b o e)) hx
        exact ⟨.non, H, rfl, e0.bare, q1, q2, rfl, hq⟩
theorem fn_exc1 {fld : Str} (S : SupC P K C cc cda) (hm : mg "super" = none)
    (lk : K.lookup f = some ⟨oc, od, .func (PySem.W.ksFn nm qual params [supE p0 p1 p2 p3 p4 p5 lit j, .Assign [.Attribute (.Name "self" p6) fld p7] (.Name fld p8) p9] scope dV kV doc pm an (.ref cda) ct cc), osl⟩) (hcd : PySem.W.codeIn K (.ref cda) qual = true)
    (hp : ((params.posonlyargs ++ params.args).head?.map (·.arg)) = some "self") (Z : SupS scope) (hfl : scope.names.lookup fld = some .local) (hfs : fld ≠ "self") (hfd : (fld == ("__debug__" : Str)) = false) (hno : PySem.W.findIn K (.ref C) fld = some none)
    (hsw : ∀ L : Addr, swapsWith (.Name fld p8) (some (.Attribute (.Name "self" p6) fld p7)) p9.line (PySem.W.ksEnv qual scope L f (.ref cda) cc) = pure false)
    (hin : ∀ L : Addr, interactive (PySem.W.ksEnv qual scope L f (.ref cda) cc) = false) (hsx : ∀ L : Addr, swapsWith (.Call (.Attribute (.Call (.Name "super" p0) [] [] p1) "__init__" p2) [.Constant (.str lit) j p3] [] p4) none p5.line (PySem.W.ksEnv qual scope L f (.ref cda) cc) = pure false)
    (hev : ∀ L : Addr, ∃ pl : Sem Bool, eval (.Call (.Attribute (.Call (.Name "super" p0) [] [] p1) "__init__" p2) [.Constant (.str lit) j p3] [] p4) (PySem.W.ksEnv qual scope L f (.ref cda) cc) = (do
      let ov ← attributeBase (.Call (.Name "super" p0) [] [] p1) "__init__" (PySem.W.ksEnv qual scope L f (.ref cda) cc) (eval (.Call (.Name "super" p0) [] [] p1) (PySem.W.ksEnv qual scope L f (.ref cda) cc))
      standAt p2.atName
      let (f', first) ← holding [ov] (getMethod ov "__init__" pl)
      callWith p4 f' first (backTo p4 (starEach [.Constant (.str lit) j p3] (PySem.W.ksEnv qual scope L f (.ref cda) cc))) [])) :
    FnOk P w K mg base (L2.CX P w) 1 f (PySem.W.ksFn nm qual params [supE p0 p1 p2 p3 p4 p5 lit j, .Assign [.Attribute (.Name "self" p6) fld p7] (.Name fld p8) p9] scope dV kV doc pm an (.ref cda) ct cc) ["self", fld] (sp1 C fld) := by
  refine ⟨fun vs H Q E ⟨a, v, e, _⟩ => by rw [e]; rfl, fun A outer s H args us vs Q E hr e0 hb r hsp => ?_⟩
  obtain ⟨a, v, rfl, ha, hq⟩ := hsp
  cases r with
  | cons ra r =>
    rename_i u0 us
    cases r with
    | cons rv r =>
    rename_i u us
    cases r
    obtain rfl : u0 = Value.ref a := ra
    have kb : ∀ b o, base.get? b = some o → s.heap.get? b = some o := fun b o e => (e0.bs b o e).1
    have KX : K.In s.heap := e0.mod.kin.keeps kb
    obtain ⟨t0, hoa⟩ := exo_at e0.hok ha
    obtain ⟨ar, har, hae⟩ := Option.map_eq_some_iff.mp hp
    obtain ⟨nm', q, N, bs, bm, sn, sub, ab, col, dd, k0, k1', k2', k3', k5', hC, hbm⟩ := S.oex.cls
    have hcl : PySem.W.clsIn K C = some { name := nm', bases := bs, mro := .ref C :: bm, ns := N, qualname := q, hasDict := true, slotNames := sn, subclasses := sub, abstract := ab, collection := col, hasDel := false } := by unfold PySem.W.clsIn; rw [hC] <;> rfl
    refine ks_codeAny_call_defAt hr.depth (KX _ _ lk) rfl (e0.mod.nolimit.keeps kb) (PySem.W.codeRec_of KX hcd) rfl hb Z.nc (fun x hx => ?_) (fun h1 hns k1 => ?_) Z.co Z.gen Z.k
    · have hx : x ∈ [(("self" : Str), Value.ref a), (fld, u)] := hx
      rcases List.mem_cons.mp hx with rfl | hx
      · exact Z.f
      · cases List.mem_singleton.mp hx
        exact hfl
    · have l1 : (fun x => (List.zip [("self" : Str), fld] [Value.ref a, u]).reverse.lookup x) fld = some u := by
        show ([(fld, u), (("self" : Str), Value.ref a)] : List (Str × Value)).lookup fld = _
        simp [List.lookup]
      have l2 : (fun x => (List.zip [("self" : Str), fld] [Value.ref a, u]).reverse.lookup x) ("self" : Str) = some (.ref a) := by
        show ([(fld, u), (("self" : Str), Value.ref a)] : List (Str × Value)).lookup ("self" : Str) = _
        have : (("self" : Str) == fld) = false := by simpa using (Ne.symm hfs)
        simp [List.lookup, this]
      refine ks_wpAt_execs_cons ?_
      refine super_line (mg := mg) (base := base) (t0 := t0) S e0.mod (fun b o e => k1 b o (kb b o e)) hm (k1 _ _ (KX _ _ lk)) rfl har hns ?_ (k1 _ _ hoa) Z.k Z.s Z.c ?_ rfl rfl rfl rfl rfl (hin _) (hsx _) (hev _) (fun h' t1 tk k2 hx => ?_)
      · rw [hae]; exact l2
      · rw [hae]; exact Z.f
      · show _root_.PySem.wpAt _ _ _ (execs [_] _) _ _ _
        have hns2 : h'.Ns s.heap.objs.size (fun x => (List.zip [("self" : Str), fld] [Value.ref a, u]).reverse.lookup x) := by
          obtain ⟨o, es, ep, e1, e2⟩ := hns
          refine ⟨o, es, ep, k2 _ _ (fun z => ?_) e1, e2⟩
          have := Heap.lt_size hoa
          rw [← z] at this
          exact absurd this (Nat.lt_irrefl _)
        have KX2 : K.In h' := fun b o e => k2 b o (fun z => by
          have q0 := (e0.bs b o (e0.mod.kin b o e)).2
          rw [z, ha] at q0
          cases q0) (k1 b o (KX b o e))
        refine ks_wpAt_execs_cons (ks_wpAt_Assign_Attr ?_ (hsw _))
        refine wpAt_of_wpAny (PySem.ESX.ldL hns2 l1 ?_ Z.k hfl hfd)
        refine PySem.ESX.ldL hns2 l2 ?_ Z.k Z.f
        refine PySem.W.set_plain KX2 (ox := { cls := .ref C, dict := none, data := .fields #[.ref t1, .none, .none, .none, .bool false, .none] }) (od := none) ⟨hx, rfl, rfl, trivial⟩ S.oex.sa ?_
        refine PySem.HandSPX.exc_osa KX2 hx hcl (show PySem.HandSPX.refsVE (.ref C :: bm) = true from hbm) rfl hno (fun h3 tk' dx k3 dn dne hx3 hn3 => ?_)
        show _root_.PySem.wpAt _ _ _ (execs [] _) _ _ _
        refine wpAt_of_wpAny (wpAny_execs_nil ?_)
        have kk : ∀ b o, b ≠ a → s.heap.get? b = some o → h3.get? b = some o := fun b o hb e => k3 b o hb (k2 b o hb (k1 b o e))
        have dn2 : s.heap.objs.size ≤ dx := by
          obtain ⟨o, es, ep, e1, e2⟩ := hns2
          exact Nat.le_of_lt (Nat.lt_of_lt_of_le (Heap.lt_size e1) dn)
        obtain ⟨q0, q1, q2⟩ := exc_end1 (fs := frs outer) e0.hok ha kk dn2 dne hx3 hn3 rv
        exact ⟨.non, _, rfl, e0.bare, q1, q2, rfl, hq dx q0 dne⟩
end
end Is

/-! Kk: raise, try. -/
namespace Is
open PySem PySem.Spec PyProof.Rows L2 Wx
open Ir (Tr Cel Mem Ev EK SK EX Con Tg Op Cm I Sm wp wps)
section
variable {X : Cx}
/-- the end of C(): the error is let go -/
theorem mk_none {pins : List (Addr × Obj)} {σ : L2.St} {H1 : Hp} {Q : XK} {hp hp2 h2 : Heap} {g1 g2 : Array GenState} {d1 d2 : Drawn} {t1 t2 : Nat} {os1 os2 : OsState} {a C : Addr} (T : Raises X (.ref C)) (I1 : Inv X pins σ H1 ⟨hp, g1, d1, t1, os1⟩)
    (ha : hp.objs.size ≤ a) (k : ∀ b o, hp.get? b = some o → hp2.get? b = some o) (un : Un (frs X.stack) [] (upd H1 a (exo a C none)) (upd H1 a (exo a C none)) hp2 h2) (hok : HOk X.prog X.w (upd H1 a (exo a C none)) h2) (ho : os2 = os1) (hb : AllBare g2)
    (q : Q (.ref C) none H1) : MkP X pins σ Q (.ref a) ⟨h2, g2, d2, t2, os2⟩ := by
  obtain ⟨t0, hoe⟩ := exo_at hok upd_same
  have hn : H1 a = none := I1.hok.fresh ha
  obtain ⟨G, g1', g2'⟩ := restrict h2 fun b => decide (b ≠ a)
  have gk : ∀ b, b ≠ a → G.get? b = h2.get? b := fun b hb => g1' b (decide_eq_true hb)
  have ge : G.get? a = none := g2' a (by simp)
  have nha : ∀ {b : Addr} {o : Obj}, hp.get? b = some o → b ≠ a := fun {b o} z => Nat.ne_of_lt (Nat.lt_of_lt_of_le (Heap.lt_size z) ha)
  have up : ∀ {b : Addr}, b ≠ a → H1 b = none → upd H1 a (exo a C none) b = none := fun {b} hb n => by rw [upd_ne hb]; exact n
  have U : Un (frs X.stack) [] H1 H1 hp G := {
    keep := fun b o z n hf hx => by
      rw [gk b (nha z)]
      exact un.keep b o (k b o z) (up (nha z) n) hf hx
    slot := fun b o z n hf hx => by
      rw [gk b (nha z)]
      exact un.slot b o (k b o z) (up (nha z) n) hf hx
    free := fun b o z n hx => n
    there := fun b o z hx => by
      rw [gk b (nha z)]
      exact un.there b o (k b o z) hx
    tups := fun b xs z => z
    frzs := fun b o v z => z
    tbls := fun b ps z => ⟨#[], by rw [z]; simp⟩ }
  have hok3 : HOk X.prog X.w H1 G := fun b o z => by
    have hba : b ≠ a := fun e => by
      rw [e, hn] at z
      cases z
    have z2 : upd H1 a (exo a C none) b = some o := (upd_ne hba).trans z
    have noa : ∀ {c : Addr}, upd H1 a (exo a C none) c = some (.own b) → c ≠ a := fun {c} hc => at_ne upd_same hc exo_own
    have noT : ∀ {c : Addr} {xs : List V}, upd H1 a (exo a C none) c = some (.tup xs) → c ≠ a := fun {c xs} hc => at_ne upd_same hc exo_tup
    exact (hok b o z2).stay (fun c v hc y => by
        have hca : c ≠ a := by
          rcases hc with hc | hc
          · rw [hc]
            exact hba
          · exact noa hc
        rw [gk c hca]
        exact y)
      (fun c hc => by rw [← upd_ne (noa hc) (H := H1) (o := exo a C none)]; exact hc) (fun c xs hc => by rw [← upd_ne (noT hc) (H := H1) (o := exo a C none)]; exact hc)
  have J : Inv X pins σ H1 ⟨G, g2, d2, t2, os2⟩ := I1.call' (ch := []) ho U hok3 hb (fun b z => absurd z (by simp))
  refine ⟨a, _, _, ⟨G, g2, d2, t2, os2⟩, _, .ref C, none, rfl, J, fun b o z => ?_, ge, hoe, ⟨rfl, rfl⟩, rfl, rfl, hn, rfl, hb, T, q⟩
  by_cases hba : b = a
  · rw [hba, ge] at z
    cases z
  · exact (gk b hba).symm.trans z
/-- an error class: f its field, if it has one -/
structure ExC (P : Program) (w : World) (K : PySem.W.Frag) (mg : Str → Option Value) (base : Heap) (x : Str) (C : Addr) (ps : List Str) (sp : Sp) : Prop where
  oex : OexC K C
  ex : ∃ fI fd, PySem.W.findIn K (.ref C) "__init__" = some (some (.ref fI)) ∧ PySem.W.typeIn K (.ref fI) = some (.type "function") ∧ FnOk P w K mg base (L2.CX P w) 1 fI fd ps sp ∧ Binds K fd ps []
  g : mg x = some (.ref C)
theorem pmk_exc0 {x : Str} {C : Addr} {p pos : Pos} (T : ExC X.prog X.w X.K X.mg X.base x C ["self"] (sp0 C)) (hr : Room 2 X.A) (hx : Passes (L2.CX X.prog X.w) X (fun _ _ _ => False)) (hg : Gl X x) (hdb : (x == ("__debug__" : Str)) = false := by decide) :
    PMk X (.Call (.Name x p) [] [] pos) (fun _ H Q => Q (.ref C) none H) := by
  intro pins s σ H Q I q
  obtain ⟨fI, fd, iC, tI, F1, hb⟩ := T.ex
  obtain ⟨nm, qn, N, bs, bm, sn, sub, ab, col, dd, k0, k1, k2, k3, k5, hC, hbm⟩ := T.oex.cls
  refine wpAny_Call_Name_kw (ld_glob I hg T.g ?_ hdb)
  refine PySem.W.callWith_K0 I.kIn T.oex.kC ?_
  show wpAny _ _ (call (.ref C) []) _ _ _
  obtain ⟨hp, g, dr, tk, os⟩ := s
  have hsz : hp.objs.size ≤ hp.objs.size + 1 := Nat.le_succ _
  have hn : H (hp.objs.size + 1) = none := I.hok.fresh hsz
  have kk : ∀ b o, hp.get? b = some o → ((hp.push (PySem.W.kdv_tup [])).push (PySem.HandSPX.excO C hp.objs.size)).get? b = some o := fun b o e => Heap.get?_push_of_some _ (Heap.get?_push_of_some _ e)
  have hget : ((hp.push (PySem.W.kdv_tup [])).push (PySem.HandSPX.excO C hp.objs.size)).get? (hp.objs.size + 1) = some (PySem.HandSPX.excO C hp.objs.size) := by heap_get
  have I2 : Inv X pins σ (upd H (hp.objs.size + 1) (exo (hp.objs.size + 1) C none)) ⟨(hp.push (PySem.W.kdv_tup [])).push (PySem.HandSPX.excO C hp.objs.size), g, dr, tk, os⟩ :=
    I.laid (t' := tk) (a := hp.objs.size + 1) (o := exo (hp.objs.size + 1) C none) (h' := (hp.push (PySem.W.kdv_tup [])).push (PySem.HandSPX.excO C hp.objs.size)) kk hsz (exo_ok hget)
  refine wpAny_call (PySem.HandSPX.call_own F.excBase_ValueError (fun Y => PySem.HandSPX.refsVE_contains Y bm hbm) (I.kIn _ _ hC) (PySem.W.looks_findIn I.kIn iC) (fun self => PySem.W.bind_fn I.kIn self tI) (by rw [sizeLine_eq]; simp)
    (codeAny_mono (F1.run _ X.stack _ _ ⟨[Value.ref (hp.objs.size + 1)], []⟩ [Value.ref (hp.objs.size + 1)] [V.ref (hp.objs.size + 1)] (fun v H2 => v = .non ∧ H2 = upd H (hp.objs.size + 1) (exo (hp.objs.size + 1) C none)) (fun _ _ _ => False) (hr.make C [] []) (I2.env0.make C [] []) (hb _ [Value.ref (hp.objs.size + 1)] I2.kIn rfl) (.cons rfl .nil) ⟨_, rfl, upd_same, rfl, rfl⟩) fun r s' hq' => ?_))
  cases r with
  | error er => exact hx pins σ _ _ er s' I2 hq'
  | ok fl =>
    cases fl with
    | ret u =>
      obtain ⟨v, H2, os2, bare2, un2, hok2, rv, ev, e2⟩ := hq'
      subst ev
      subst e2
      obtain ⟨h2, g2, d2, t2, os'⟩ := s'
      exact ⟨rv, mk_none (raises_own T.oex.exC T.oex.tyC) I hsz kk un2 hok2 os2 bare2 q⟩
    | next => exact False.elim hq'
    | brk => exact False.elim hq'
    | cont => exact False.elim hq'
end
section
variable {X : Cx} {c : Nat → Addr} {n : Nat} {pos pos' : Pos}
theorem ps_rs0 {x : Str} {d : Nat} {p : Pos} (f : Cf X n) (T : ExC X.prog X.w X.K X.mg X.base x (c d) ["self"] (sp0 (c d))) (hr : Room 2 X.A) (hg : Gl X x := by rfl) (hdb : (x == ("__debug__" : Str)) = false := by decide) :
    PS X c (.Raise (some (.Call (.Name x p) [] [] pos)) none pos') (.rs0 d) := fun nx rt bk ct ε ρ μ h W σ D Sx l tk => by
  refine WS.of (L2.ps_raise f.calm tk (pmk_exc0 T hr (passes_call tk (fun _ _ _ _ z => z.elim)) hg hdb)) ?_
  exact ⟨W, ρ, _, μ, rfl, Go.refl, Sx, ⟨d, [], rfl, rfl, .inl ⟨rfl, rfl⟩⟩, h⟩
theorem ps_rse {x : Str} {d fi : Nat} {p : Pos} {e : Expr} {a : I} (f : Cf X n) (T : ExC X.prog X.w X.K X.mg X.base x (c d) ["self", fname fi] (sp1 (c d) (fname fi))) (hr : Room 2 X.A) (he : PJ X c e a) (hg : Gl X x := by rfl) (hdb : (x == ("__debug__" : Str)) = false := by decide)
    (hst : starEach [e] X.env = (false, eval e X.env) :: starEach [] X.env := by rfl) (hpl : (backTo pos (starEach [] X.env)).any (·.1) = false := by rfl) :
    PS X c (.Raise (some (.Call (.Name x p) [e] [] pos)) none pos') (.rse d fi a) := fun nx rt bk ct ε ρ μ h W σ D Sx l tk => by
  obtain ⟨fI, fd, iC, tI, F1, hb⟩ := T.ex
  refine WS.of (L2.ps_raise f.calm tk (pmk_oex (ds := []) (dvs := []) T.oex iC tI F1 hr hb .nil (passes_call tk (fun _ _ _ _ z => z.elim)) hg T.g (L2.pa_cons pe_w L2.pa_nil hst) hdb hst hpl)) ?_
  refine he ρ μ _ _ h W σ _ Sx (fun W1 v t μ1 g1 S1 r1 h1 => ?_) (tks_e tk)
  have hn : ∀ i, t ≠ .ptr i := fun i e => by subst e; exact h1
  have h2 : ε (.obj d [(fi, t)]) ρ μ1 := by cases t <;> first | exact h1 | exact h1.elim
  refine ⟨by simp, fun b hb0 => ⟨b, v, rfl, upd_same, fun dx hdx hne => ⟨rfl, dx, [(fname fi, v)], upd_same, (upd_ne hne).trans upd_same, (upd_ne hne).symm.trans hdx, ?_⟩⟩⟩
  have hdx1 : W1.H dx = none := (upd_ne hne).symm.trans hdx
  have e : upd (del (upd (upd (upd W1.H b (exo b (c d) none)) dx (exd dx [(fname fi, v)])) b (exo b (c d) (some dx))) b) dx (.xd [(fname fi, v)]) = upd W1.H dx (.xd [(fname fi, v)]) := by
    funext y
    by_cases h1 : y = dx
    · rw [h1, upd_same, upd_same]
    · rw [upd_ne h1, upd_ne h1]
      by_cases h2 : y = b
      · rw [h2, del_same, hb0]
      · rw [del_ne h2, upd_ne h2, upd_ne h1, upd_ne h2]
  obtain ⟨g3, S3⟩ := S1.fresh (o := .xd [(fname fi, v)]) hdx1
  exact ⟨{ W1 with H := upd W1.H dx (.xd [(fname fi, v)]) }, ρ, _, μ1, e.symm, g1.trans g3, S3, ⟨d, [(fi, t)], rfl, rfl, .inr ⟨dx, _, rfl, upd_same, rfl, .cons ((r1.rv hn).mono g3.t g3.f) .nil⟩⟩, h2⟩
end
end Is

/-! Kl: try: .. except C: name = constant; try: .. except C as e: name = (constant, e.f). -/
namespace Is
open PySem PySem.Spec PyProof.Rows L2 Wx
open Ir (Tr Cel Mem Ev EK SK EX Con Tg Op Cm I Sm wp wps)
theorem fldK_at {f : Nat} {k : Tr → Prop} : ∀ {fs : List (Nat × Tr)}, Ir.fldK fs f k → ∃ (pre : List (Nat × Tr)) (t : Tr) (post : List (Nat × Tr)), fs = pre ++ (f, t) :: post ∧ (∀ p ∈ pre, p.1 ≠ f) ∧ k t
  | [], h => h.elim
  | (g, t) :: r, h => by
    unfold Ir.fldK at h
    cases e : Nat.beq g f with
    | true =>
      rw [e] at h
      have := Nat.eq_of_beq_eq_true e
      subst this
      exact ⟨[], t, r, rfl, (fun p hp => by simp at hp), h⟩
    | false =>
      rw [e] at h
      obtain ⟨pre, u, post, e1, e2, e3⟩ := fldK_at h
      refine ⟨(g, t) :: pre, u, post, by rw [e1]; rfl, fun p hp => ?_, e3⟩
      rcases List.mem_cons.mp hp with rfl | hp
      · exact Nat.ne_of_beq_eq_false e
      · exact e2 p hp
theorem Sa.wipe {B : Bs} {W : Wd} {σ : L2.St} {ρ : Ev} {μ : Mem} (S : Sa B W σ ρ μ) (j : Nat) : Sa B W (σ.set j none) (Ir.wipe1 ρ j) μ := by
  rw [wipe1_eq]
  refine S.sub (by rw [List.length_set, List.length_set]; exact S.ln) fun i t h => ?_
  by_cases e : j = i
  · subst e
    by_cases hl : j < ρ.length
    · rw [List.getElem?_set_self hl] at h
      cases h
    · rw [List.getElem?_eq_none (by rw [List.length_set]; omega)] at h
      cases h
  · rw [List.getElem?_set_ne e] at h ⊢
    exact S.env i t h
section
variable {X : Cx} {c : Nat → Addr} {n : Nat} {pos pos' : Pos} {x y : Str} {d i : Nat} {body : List Stmt} {b : Sm} {np py ps p1 p2 p3 p4 : Pos} {lit : Str} {l : List Nat} {j x1 : Nat}
theorem wss_len {D : Ends} {σ : L2.St} {H : Hp} {st : List Stmt} (h : σ.length = X.N.length → WSs X st D σ H) : WSs X st D σ H := by
  unfold WSs at h ⊢
  exact fun pins s I => h I.len pins s I
end
end Is

/-! Km: len(set(texts)), max of three. -/
namespace Is
open PySem PySem.Spec PyProof.Rows L2 Wx
open Ir (Tr Cel Mem Ev EK SK EX Con Tg Op Cm I Sm wp wps)
/-- how many different ones stand among the first i -/
def cntS (xs : List Str) : Nat → Nat
  | 0 => 0
  | i + 1 => if ((xs.take i).any fun y => y == xs.getD i Str.empty) = true then cntS xs i else cntS xs i + 1
section
variable {prog : Program} {w : World} {A : Around}
end
end Is

/-! Kn: rules: len(set(texts)), xs.index(y), max of three, != of own objects. -/
namespace L2
open PySem PySem.Spec PyProof.Rows Wx
section
variable {X : Cx}
/-- what != asks of the class, beside == -/
structure NeO (K : PySem.W.Frag) (C : Addr) : Prop where
  ne : PySem.W.findIn K (.ref C) "__ne__" = some (some (.builtin "object.__ne__"))
  ob : PySem.W.mroIn K C (.type "object") = some true
end
end L2
namespace Is
open PySem PySem.Spec PyProof.Rows L2 Wx
open Ir (Tr Cel Mem Ev EK SK EX Con Tg Op Cm I Sm wp wps)
/-- an error of a class is what the class's own clause names -/
theorem exm_self {K : PySem.W.Frag} {C : Addr} (h1 : PySem.W.subIn K (.ref C) (.type "BaseException") = some true) (h2 : PySem.W.isClsIn K C = true) (h3 : PySem.W.typeIn K (.ref C) = some (.type "type")) (h4 : PySem.W.subIn K (.ref C) (.ref C) = some true) : PySem.W.exmOne K (.ref C) (.ref C) = some true := by
  have q : (PySem.W.clsIn K C).isSome = true := h2
  unfold PySem.W.exmOne PySem.W.kitCls
  simp [h1, h3, h4, q]
theorem fname_at {i : Nat} (h : i < 23) (g : Nat) (e : fname g = fname i) : g = i := by
  by_cases hg : g < 23
  · exact fname_inj g hg i h e
  · rw [fname_big g (by omega)] at e
    exact absurd e.symm (fname_ne i h)
section
variable {X : Cx} {c : Nat → Addr} {n : Nat} {pos p0 p1 p2 : Pos}
/-- a module's constant tuple of texts -/
structure GTup (K : PySem.W.Frag) (mg : Str → Option Value) (x : Str) (ls : List (List Nat)) : Prop where
  ex : ∃ (a : Addr) (o : Obj) (its : Array Value) (m : Nat), mg x = some (.ref a) ∧ K.lookup a = some o ∧ o.cls = .type "tuple" ∧ o.dict = none ∧ o.data = .seq its m ∧ its.size ≤ sizeLine ∧ Vals (ls.map fun l => V.str (S l)) its.toList
def atV : Int ⊕ List Nat → V
  | .inl i => .int i
  | .inr l => .str (S l)
/-- a module's constant tuple of ints and texts -/
structure GTupA (K : PySem.W.Frag) (mg : Str → Option Value) (x : Str) (ts : List (Int ⊕ List Nat)) : Prop where
  ex : ∃ (a : Addr) (o : Obj) (its : Array Value) (m : Nat), mg x = some (.ref a) ∧ K.lookup a = some o ∧ o.cls = .type "tuple" ∧ o.data = .seq its m ∧ its.size ≤ sizeLine ∧ Vals (ts.map atV) its.toList
end
end Is

/-! Ko: x, y = a, b by way of a tuple (one of the names stands in a cell). -/
namespace Is
open PySem PySem.Spec PyProof.Rows L2 Wx
open Ir (Tr Cel Mem Ev EK SK EX Con Tg Op Cm I Sm wp wps)
section
variable {X : Cx} {c : Nat → Addr} {n : Nat} {p1 p2 p3 pt pv pos' : Pos}
end
end Is

/-! Kp: try with several clauses, each one with the same name: `except C as e: y = ("..", e.f)`. -/
namespace L2
open PySem PySem.Spec PyProof.Rows
inductive HdN (X : Cx) (n : Str) : List ExceptHandler → List (Value × (Addr → Value → Option Addr → TS)) → Prop
  | nil : HdN X n [] []
  | cons {x : Str} {c : Value} {ts : Addr → Value → Option Addr → TS} {b₀ : Stmt} {suite : List Stmt} {np pos' : Pos} {hds : List ExceptHandler} {l : List (Value × (Addr → Value → Option Addr → TS))} (hc : Names X x c)
      (hsu : ∀ (a : Addr) (oe : Obj) (cls : Value) (d : Option Addr) (pn : List (Addr × Obj)), Zc cls d oe → (∃ vs, oe.data = .fields vs) → PSs (X.suite a ((a, oe) :: pn)) (b₀ :: suite) (ts a cls d)) (r : HdN X n hds l) :
      HdN X n (.ExceptHandler (some (.Name x np)) (some n) (b₀ :: suite) pos' :: hds) ((c, ts) :: l)
section
variable {X : Cx} {n : Str} {i : Nat} {body : List Stmt} {h₀ : ExceptHandler} {hds : List ExceptHandler} {l : List (Value × (Addr → Value → Option Addr → TS))} {pos : Pos} {tb : WX → TS}
end
end L2
namespace Is
open PySem PySem.Spec PyProof.Rows L2 Wx
open Ir (Tr Cel Mem Ev EK SK EX Con Tg Op Cm I Sm wp wps)
theorem exm_two {K : PySem.W.Frag} {C D : Addr} {b : Bool} (h1 : PySem.W.subIn K (.ref D) (.type "BaseException") = some true) (h2 : PySem.W.isClsIn K D = true) (h3 : PySem.W.typeIn K (.ref D) = some (.type "type")) (h4 : PySem.W.subIn K (.ref C) (.ref D) = some b) : PySem.W.exmOne K (.ref C) (.ref D) = some b := by
  have q : (PySem.W.clsIn K D).isSome = true := h2
  unfold PySem.W.exmOne PySem.W.kitCls
  simp [h1, h3, h4, q]
theorem all_cons {p : Nat → Prop} {a : Nat} {l : List Nat} (h : p a) (r : ∀ x ∈ l, p x) : ∀ x ∈ a :: l, p x := fun x hx => by
  rcases List.mem_cons.mp hx with rfl | hx
  · exact h
  · exact r x hx
theorem all_nil {p : Nat → Prop} : ∀ x ∈ ([] : List Nat), p x := fun _ h => by cases h
theorem xd_fld {R : V → Tr → Prop} {Rs : List V → List Tr → Prop} (hcons : ∀ {v vs t ts}, Rs (v :: vs) (t :: ts) → R v t ∧ Rs vs ts) {fi : Nat} (hinj : ∀ g, fname g = fname fi → g = fi) {t : Tr} {post : List (Nat × Tr)} :
    ∀ {pre : List (Nat × Tr)} {fvs : List (Str × V)}, (∀ p ∈ pre, p.1 ≠ fi) → fvs.map Prod.fst = (pre ++ (fi, t) :: post).map (fun p => fname p.1) → Rs (fvs.map Prod.snd) ((pre ++ (fi, t) :: post).map Prod.snd) → ∃ v, fvs.lookup (fname fi) = some v ∧ R v t
  | [], [], _, hn, _ => by simp at hn
  | [], (q1, q2) :: r, _, hn, hv => by
    have h1 : q1 = fname fi := (List.cons.inj hn).1
    have hv' : Rs (q2 :: r.map Prod.snd) (t :: post.map Prod.snd) := hv
    exact ⟨q2, by simp [List.lookup, h1], (hcons hv').1⟩
  | p :: pre, [], _, hn, _ => by simp at hn
  | p :: pre, (q1, q2) :: r, hpre, hn, hv => by
    have h1 : q1 = fname p.1 := (List.cons.inj hn).1
    have hv' : Rs (q2 :: r.map Prod.snd) (p.2 :: (pre ++ (fi, t) :: post).map Prod.snd) := hv
    obtain ⟨v, e1, e2⟩ := xd_fld hcons hinj (fun z hz => hpre z (List.mem_cons_of_mem _ hz)) (List.cons.inj hn).2 (hcons hv').2
    refine ⟨v, ?_, e2⟩
    have : (fname fi == q1) = false := by
      rw [h1]
      have := hpre p List.mem_cons_self
      simp only [beq_eq_false_iff_ne, ne_eq]
      exact fun z => this (hinj _ z.symm)
    simp [List.lookup, this, e1]
section
variable {X : Cx} {c : Nat → Addr} {n : Nat} {pos : Pos} {y : Str} {i : Nat} {body : List Stmt} {b : Sm}
/-- the clauses: except C as ev: y = ("..", ev.f) -/
inductive HdM (X : Cx) (c : Nat → Addr) (y : Str) (k : Nat) (ev : Str) : List ExceptHandler → List (Nat × Tr × Option (Nat × Nat)) → Prop
  | nil : HdM X c y k ev [] []
  | cons {x : Str} {d fi : Nat} {lit : Str} {l : List Nat} {np pos' py ps p1 p2 p3 p4 : Pos} {j x1 : Nat} {hds : List ExceptHandler} {cl : List (Nat × Tr × Option (Nat × Nat))} (hN : Names X x (.ref (c d))) (T : XfC X.K (c d))
    (hno : PySem.W.findIn X.K (.ref (c d)) (fname fi) = some none) (hl : lit = S l) (hinj : ∀ g, fname g = fname fi → g = fi) (r : HdM X c y k ev hds cl)
    (hsw : swapsWith (.Tuple [.Constant (.str lit) j p1, .Attribute (.Name ev p2) (fname fi) p3] x1 p4) (some (.Name y py)) ps.line X.env = pure false := by rfl)
    (hst : starEach [.Constant (.str lit) j p1, .Attribute (.Name ev p2) (fname fi) p3] X.env = (false, eval (.Constant (.str lit) j p1) X.env) :: starEach [.Attribute (.Name ev p2) (fname fi) p3] X.env := by rfl)
    (hst2 : starEach [.Attribute (.Name ev p2) (fname fi) p3] X.env = (false, eval (.Attribute (.Name ev p2) (fname fi) p3) X.env) :: starEach [] X.env := by rfl)
    (hat : attributeBase (.Name ev p2) (fname fi) X.env (eval (.Name ev p2) X.env) = eval (.Name ev p2) X.env := by rfl) :
    HdM X c y k ev (.ExceptHandler (some (.Name x np)) (some ev) [.Assign [.Name y py] (.Tuple [.Constant (.str lit) j p1, .Attribute (.Name ev p2) (fname fi) p3] x1 p4) ps] pos' :: hds) ((d, .str l, some (k, fi)) :: cl)
end
end Is

/-! Kq: xs.insert(i, y) of a list of one's own. -/
namespace Wx
open PySem PySem.Spec PyProof.Rows L2
section
variable {X : Cx} {σ : L2.St} {H : Hp} {Q : VK} {pos : Pos}
end
end Wx
namespace Is
open PySem PySem.Spec PyProof.Rows L2 Wx
open Ir (Tr Cel Mem Ev EK SK EX Con Tg Op Cm I Sm wp wps)
section
variable {X : Cx} {c : Nat → Addr} {n : Nat} {pos : Pos}
end
end Is
namespace Is
open PySem PySem.Spec PyProof.Rows L2 Wx
open Ir (Tr Cel Mem Ev EK SK EX Con Tg Op Cm I Sm wp wps)
section
variable {X : Cx} {c : Nat → Addr} {n : Nat} {pos : Pos}
end
end Is

/-! Kr: a tuple of which the whole object is known: tuple(list), t.index(text). -/
namespace L2
open PySem PySem.Spec PyProof.Rows
section
variable {X : Cx}
variable {id : String} {name : Str} {o e : Expr} {es : List Expr} {to : TE} {t : TA} {r : V → List V → Hp → VK → Prop} {apos cpos : Pos}
end
end L2
namespace Is
open PySem PySem.Spec PyProof.Rows L2 Wx
open Ir (Tr Cel Mem Ev EK SK EX Con Tg Op Cm I Sm wp wps)
section
variable {X : Cx} {c : Nat → Addr} {n : Nat} {pos p0 : Pos}
end
end Is

/-! Ks: a list of own lists: made by a comprehension, read and written by two places. -/
namespace Is
open PySem PySem.Spec PyProof.Rows L2 Wx
open Ir (Tr Cel Mem Ev EK SK EX Con Tg Op Cm I Sm wp wps)
section
variable {B : Bs} {W W' : Wd} {σ σ' : L2.St} {ρ ρ' : Ev} {μ : Mem}
/-- what was known as somebody else's becomes nobody's -/
theorem Sa.drop {W1 : Wd} : ∀ (bs : List Addr) (W : Wd), Go W1 W → Sa B W [] [] μ → bs.Nodup → (∀ b ∈ bs, ∃ o, W.G b = some o ∧ W.F b = none ∧ notTup o ∧ W1.G b = none) →
    ∃ W', Go W1 W' ∧ TEx W.H W'.H ∧ Sa B W' [] [] μ ∧ W'.F = W.F ∧ W'.A = W.A ∧ W'.O = W.O ∧ (∀ x, x ∈ bs → W'.H x = none) ∧ ∀ x, x ∉ bs → W'.H x = W.H x
  | [], W, g, S, _, _ => ⟨W, g, TEx.refl _, S, rfl, rfl, rfl, (fun x h => nomatch h), fun _ _ => rfl⟩
  | b :: bs, W, g, S, nd, h => by
    obtain ⟨n1, n2⟩ := List.nodup_cons.mp nd
    obtain ⟨o, h1, h2, h3, h4⟩ := h b List.mem_cons_self
    obtain ⟨g2, t2, S2⟩ := S.fill2 (W1 := W1) (D := b) (o := o) ⟨g, h1, h2⟩ h3 h4
    obtain ⟨W', g3, t3, S3, e1, e2, e3, q1, q2⟩ := Sa.drop bs _ g2 S2 n2 fun x hx => by
      obtain ⟨u, k1, k2, k3, k4⟩ := h x (List.mem_cons_of_mem _ hx)
      exact ⟨u, (delH_ne fun e => n1 (by rw [← e]; exact hx)).trans k1, k2, k3, k4⟩
    refine ⟨W', g3, t2.trans t3, S3, e1, e2, e3, fun x hx => ?_, fun x hx => ?_⟩
    · by_cases hx2 : x ∈ bs
      · exact q1 x hx2
      · rcases List.mem_cons.mp hx with rfl | hx
        · exact (q2 _ n1).trans delH_same
        · exact absurd hx hx2
    · exact (q2 x fun hm => hx (List.mem_cons_of_mem _ hm)).trans (delH_ne fun e => hx (by rw [e]; exact List.mem_cons_self))
end
section
variable {X : Cx} {c : Nat → Addr} {n : Nat} {pos : Pos}
/-- the lists so far -/
structure Rows (B : Bs) (W1 W : Wd) (D : Addr) (bs : List Addr) (tss : List (List Tr)) : Prop where
  f : Fill W1 W D (.lst (bs.map V.ref))
  l : bs.length = tss.length
  n : (D :: bs).Nodup
  o : ∀ b ∈ bs, W1.G b = none ∧ W.F b = none
  r : ∀ (i : Nat) b ts, bs[i]? = some b → tss[i]? = some ts → ∃ vs, W.G b = some (.lst vs) ∧ Rvs B W.H W.F vs ts
theorem Rows.go {B : Bs} {W1 W W2 : Wd} {D bs tss} (R : Rows B W1 W D bs tss) (g : Go W W2) : Rows B W1 W2 D bs tss := by
  refine ⟨R.f.go g, R.l, R.n, fun b hb => ?_, fun i b ts h1 h2 => ?_⟩
  · obtain ⟨h1, h2⟩ := R.o b hb
    refine ⟨h1, g.n b ?_ h2⟩
    obtain ⟨i, hi⟩ := List.mem_iff_getElem?.mp hb
    have hlt := (List.getElem?_eq_some_iff.mp hi).1
    obtain ⟨vs, h3, _⟩ := R.r i b (tss[i]'(by rw [← R.l]; exact hlt)) hi (List.getElem?_eq_getElem _)
    rw [h3]
    exact fun z => nomatch z
  · obtain ⟨vs, h3, h4⟩ := R.r i b ts h1 h2
    exact ⟨vs, g.g _ _ h3, h4.mono g.t g.f⟩
/-- one more -/
theorem Rows.snoc {W1 W : Wd} {σ ρ μ} {D p : Addr} {bs : List Addr} {tss : List (List Tr)} {vs : List V} {us : List Tr} (S1 : Sa (XB X c) W1 σ ρ μ) (R : Rows (XB X c) W1 W D bs tss) {σ' ρ' μ'} (S : Sa (XB X c) W σ' ρ' μ') (hD : W1.G D = none) (hp : W.H p = none) (r : Rvs (XB X c) W.H W.F vs us) :
    ∃ W2, W2.H = upd (upd W.H p (.lst vs)) D (.lst (bs.map V.ref ++ [.ref p])) ∧ Rows (XB X c) W1 W2 D (bs ++ [p]) (tss ++ [us]) ∧ Sa (XB X c) W2 [] [] μ' := by
  obtain ⟨fp, Sp⟩ := S.fill0 (o := .lst vs) hp
  have R2 := R.go fp.g
  obtain ⟨f3, t3, S3⟩ := Sp.fill1 (u := .lst (bs.map V.ref ++ [.ref p])) R2.f True.intro hD
  have hgp : W.G p = none := S.gnone hp
  have hpD : p ≠ D := fun e => by subst e; rw [R.f.G] at hgp; cases hgp
  have hpb : p ∉ bs := fun hb => by
    obtain ⟨i, hi⟩ := List.mem_iff_getElem?.mp hb
    have hlt := (List.getElem?_eq_some_iff.mp hi).1
    obtain ⟨vs, h3, _⟩ := R.r i p (tss[i]'(by rw [← R.l]; exact hlt)) hi (List.getElem?_eq_getElem _)
    rw [hgp] at h3
    cases h3
  have nD := (List.nodup_cons.mp R.n).1
  have nb := (List.nodup_cons.mp R.n).2
  have h1p : W1.G p = none := by
    cases q : W1.G p with
    | none => rfl
    | some o => have := R.f.g.g _ _ q; rw [hgp] at this; cases this
  refine ⟨_, rfl, ⟨by rw [List.map_append]; exact f3, by simp [R.l], ?_, fun b hb => ?_, fun i b ts h1 h2 => ?_⟩, S3⟩
  · rw [List.nodup_cons]
    refine ⟨fun h => ?_, ?_⟩
    · rcases List.mem_append.mp h with h | h
      · exact nD h
      · exact hpD (List.mem_singleton.mp h).symm
    · rw [List.nodup_append]
      exact ⟨nb, by simp, fun a ha b hb e => hpb (by rw [← List.mem_singleton.mp hb, ← e]; exact ha)⟩
  · rcases List.mem_append.mp hb with hb | hb
    · exact R2.o b hb
    · cases List.mem_singleton.mp hb
      exact ⟨h1p, fp.F⟩
  · by_cases hi : i < bs.length
    · rw [List.getElem?_append_left hi] at h1
      rw [List.getElem?_append_left (by rw [← R.l]; exact hi)] at h2
      obtain ⟨ws, h3, h4⟩ := R2.r i b ts h1 h2
      exact ⟨ws, (upd_ne fun e => nD (by rw [← e]; exact List.mem_of_getElem? h1)).trans h3, h4.mono t3 (Ex.refl _)⟩
    · have e : i = bs.length := by
        have := (List.getElem?_eq_some_iff.mp h1).1
        simp at this
        omega
      subst e
      rw [List.getElem?_append_right (Nat.le_refl _), Nat.sub_self] at h1
      rw [R.l, List.getElem?_append_right (Nat.le_refl _), Nat.sub_self] at h2
      cases h1
      cases h2
      exact ⟨vs, (upd_ne hpD).trans fp.G, (r.mono fp.g.t fp.g.f).mono t3 (Ex.refl _)⟩
/-! ### two places -/
end
end Is

/-! Kt: {k: v} with a tuple as its key; dict(pairs) of a tuple that is known. -/
namespace Wx
open PySem PySem.Spec PyProof.Rows L2
section
variable {X : Cx}
end
end Wx

namespace Is
open PySem PySem.Spec PyProof.Rows L2 Wx
open Ir (Tr Cel Mem Ev EK SK EX Con Tg Op Cm I Sm wp wps)
section
variable {X : Cx} {c : Nat → Addr} {n : Nat} {pos p0 : Pos}
end
end Is

/-! Ku: xs.pop(), xs.pop(i), xs.clear() of own lists. -/
namespace Is
open PySem PySem.Spec PyProof.Rows L2 Wx
open Ir (Tr Cel Mem Ev EK SK EX Con Tg Op Cm I Sm wp wps)
section
variable {X : Cx} {c : Nat → Addr} {n : Nat} {pos p0 : Pos}
theorem Rvs.eraseIdx {B : Bs} {H F : Hp} : ∀ {vs : List V} {ts : List Tr} (i : Nat), Rvs B H F vs ts → Rvs B H F (vs.eraseIdx i) (ts.eraseIdx i)
  | _, _, _, .nil => .nil
  | _, _, 0, .cons _ b => b
  | _, _, i + 1, .cons a b => .cons a (Rvs.eraseIdx i b)
end
end Is

/-! Kv: f-strings, == with no object, objects made of lists that are lent, rows written through a walk's name. -/
namespace L2
open PySem PySem.Spec PyProof.Rows Wx
section
variable {X : Cx}
end
end L2
namespace Is
open PySem PySem.Spec PyProof.Rows L2 Wx
open Ir (Tr Cel Mem Ev EK SK EX Con Tg Op Cm I Sm wp wps)
section
variable {X : Cx} {c : Nat → Addr} {n : Nat} {pos p0 p1 p2 p3 p4 p5 p6 p7 : Pos}
/-! ### == with no object -/
/-! ### f-strings -/
/-- parts of an f-string: a value, or a text of the law's own -/
inductive PF (X : Cx) (c : Nat → Addr) : List Expr → I → Prop where
  | nil : PF X c [] .nil
  | val {e : Expr} {q : Pos} {a : I} {es : List Expr} {b : I} (h : PJ X c e a) (r : PF X c es b) : PF X c (.FormattedValue e (-1) none q :: es) (.cons (.fp a) b)
  | con {e : Expr} {l : List Nat} {es : List Expr} {b : I} (h : PJ X c e (.c (.str l))) (s : l.length < 1000) (r : PF X c es b) : PF X c (e :: es) (.cons (.c (.str l)) b)
/-! ### lists that are lent -/
section
variable {B : Bs} {W W' : Wd} {σ : L2.St} {ρ : Ev} {μ : Mem} {cs : List Cel} {L : List Addr}
open Classical in
open Classical in
open Classical in
end
/-! ### for y in xs: y[k] = t, over a list of own lists -/
end
end Is

/-! Kw: text.split(sign), int of digits, str of a number, classes as values. -/
namespace Is
open PySem PySem.Spec PyProof.Rows L2 Wx
open Ir (Tr Cel Mem Ev EK SK EX Con Tg Op Cm I Sm wp wps)
/-! ### split -/
section
variable {X : Cx} {c : Nat → Addr} {n : Nat} {pos p0 p1 apos : Pos}
end
end Is

/-! Kx: enumerate(xs, start=k), classmethods, classes called by a local name, str of a number. -/
namespace L2
open PySem PySem.Spec PyProof.Rows Wx
section
variable {M : Model} {A : Around} {E : Value → Shared → Prop} {s : Shared} {env : Env}
end
end L2
namespace Is
open PySem PySem.Spec PyProof.Rows L2 Wx
open Ir (Tr Cel Mem Ev EK SK EX Con Tg Op Cm I Sm wp wps)
section
variable {X : Cx} {c : Nat → Addr} {n : Nat} {pos p0 p1 apos kp cp tpos : Pos}
/-! ### classes as values -/
section
variable {CX : CXT} {k : Nat} {f g C : Addr} {fd : FuncData} {ps : List Str} {sp : Sp} {E : L2.St → XK} {x m : Str} {p : Pos} {e o : Expr} {es : List Expr} {ta : TE} {t : TA} {i : Nat} {mc : Value} {pa : Addr}
/-- a classmethod of the class C -/
structure Cmt (P : Program) (w : World) (K : PySem.W.Frag) (mg : Str → Option Value) (base : Heap) (CX : CXT) (k : Nat) (C : Addr) (m : Str) (sp : Sp) : Prop where
  ex : ∃ mc pa g fd ps, ClX.CRead K C mc ∧ ClX.CMet K C mc m pa g ∧ FnOk P w K mg base CX k g fd ps sp ∧ Binds K fd ps []
end
end
end Is

/-! Ky: an own list, frozen between two statements. -/
namespace Is
open PySem PySem.Spec PyProof.Rows L2 Wx
open Ir (Tr Cel Mem Ev EK SK EX Con Tg Op Cm I Sm wp wps)
section
variable {X : Cx} {c : Nat → Addr} {n : Nat}
end
end Is

/-! Kz: min(xs, default=d); a list of own lists as a stack. -/
namespace L2
open PySem PySem.Spec PyProof.Rows Wx
end L2
namespace Is
open PySem PySem.Spec PyProof.Rows L2 Wx
open Ir (Tr Cel Mem Ev EK SK EX Con Tg Op Cm I Sm wp wps)
section
variable {X : Cx} {c : Nat → Addr} {n : Nat} {pos p0 p1 kp : Pos}
/-! ### a stack of own lists -/
end
end Is

/-! La: functions as values. -/
namespace L2
open PySem PySem.Spec PyProof.Rows Wx
section
variable {X : Cx} {pos : Pos}
section
variable {CX : CXT} {k : Nat} {f : Addr} {fd : FuncData} {ps : List Str} {sp : Sp} {E : L2.St → XK} {x : Str} {p : Pos} {e : Expr} {es : List Expr} {t : TA} {i : Nat}
end
end
end L2
namespace Is
open PySem PySem.Spec PyProof.Rows L2 Wx
open Ir (Tr Cel Mem Ev EK SK EX Con Tg Op Cm I Sm wp wps)
/-- a function at an address by its promise -/
structure CalA (P : Program) (w : World) (K : PySem.W.Frag) (mg : Str → Option Value) (base : Heap) (CX : CXT) (k : Nat) (f : Addr) (sp : Sp) : Prop where
  ex : ∃ fd ps, FnOk P w K mg base CX k f fd ps sp ∧ PySem.W.keepIn K (.ref f) = true ∧ Binds K fd ps []
section
variable {X : Cx} {c : Nat → Addr} {pos p0 : Pos}
/-- the promises of some functions -/
inductive FnsA (P : Program) (w : World) (K : PySem.W.Frag) (mg : Str → Option Value) (base : Heap) (CX : CXT) (k : Nat) (cl : Nat → Addr) : List (Nat × Con) → Prop
  | nil : FnsA P w K mg base CX k cl []
  | cons {d con r} : CalA P w K mg base CX k (cl d) (spOf cl w K con) → FnsA P w K mg base CX k cl r → FnsA P w K mg base CX k cl ((d, con) :: r)
theorem FnsA.get {P : Program} {w : World} {K : PySem.W.Frag} {mg : Str → Option Value} {base : Heap} {CX : CXT} {k : Nat} {cl : Nat → Addr} {cs : List (Nat × Con)} {d : Nat} {k2 : Con → Prop} (h : FnsA P w K mg base CX k cl cs) : Ir.fnsK cs d k2 → ∃ con, CalA P w K mg base CX k (cl d) (spOf cl w K con) ∧ k2 con := by
  induction h with
  | nil => exact fun h => h.elim
  | @cons e con r a b ih =>
    intro h
    have h : (match Nat.beq e d with | true => k2 con | false => Ir.fnsK r d k2) := h
    cases eb : Nat.beq e d with
    | true =>
      rw [eb] at h
      have := Nat.eq_of_beq_eq_true eb
      subst this
      exact ⟨con, a, h⟩
    | false =>
      rw [eb] at h
      exact ih h
end
end Is

/-! Lb: objects with parts of their own: fields, lengths, items. -/
namespace L2
open PySem PySem.Spec PyProof.Rows Wx
end L2
namespace Is
open PySem PySem.Spec PyProof.Rows L2 Wx
open Ir (Tr Cel Mem Ev EK SK EX Con Tg Op Cm I Sm wp wps)
section
variable {X : Cx} {c : Nat → Addr} {n : Nat} {pos p0 p1 pos' apos cpos ipos : Pos} {W : Wd} {σ : L2.St} {ρ : Ev} {μ : Mem}
end
end Is

/-! Lc: parts: items, membership, stores, what is taken out. -/
namespace Wx
open PySem PySem.Spec PyProof.Rows L2
section
variable {X : Cx} {σ : L2.St} {H : Hp} {Q : VK} {o e : Expr} {apos pos : Pos}
end
end Wx
namespace Is
open PySem PySem.Spec PyProof.Rows L2 Wx
open Ir (Tr Cel Mem Ev EK SK EX Con Tg Op Cm I Sm wp wps)
section
variable {X : Cx} {c : Nat → Addr} {n : Nat} {pos p0 p1 pos' apos cpos ipos : Pos} {W : Wd} {σ : L2.St} {ρ : Ev} {μ : Mem}
/-- a part of one object is written -/
theorem Sa.putP {j : Nat} {q : Ir.Pk} {o u : HO} (Sx : Sa (XB X c) W σ ρ μ) (ha : W.A[j]? = some (c (200 + j))) (hO : W.O[j]? = some [c (200 + j)]) (ho : W.H (c (200 + j)) = some o) (hn : notTup o) (hr : RpK (XB X c) (upd W.H (c (200 + j)) u) W.F (c (200 + j)) [c (200 + j)] q) :
    ∃ W', W'.H = upd W.H (c (200 + j)) u ∧ Go W W' ∧ Sa (XB X c) W' σ ρ (μ.set j (.pin j q)) := Sx.put1 (cl' := .pin j q) ha hO ho hn ⟨rfl, hr⟩
end
end Is

/-! Lt: sets of texts: one text more; sorted. -/
namespace L2
open PySem PySem.Spec PyProof.Rows
open PySem.Froz (SD sObj TxOk tailTx addTx is_str add_x add_ok)
/-- the set of texts at a, at its whole: what the walk over it leans on -/
def TxAt (P : Program) (w : World) (h : Heap) (a : Addr) (l : List Str) : Prop :=
  ∃ D : SD, h.get? a = some (sObj "set" D) ∧ TxOk P w D l ∧ Ris D.2.2.place.toList ∧ (w.params.followText "set-order" = true ∨ D.2.2.led = true) ∧ l.Nodup
section
variable {P : Program} {w : World} {A : Around} {E : Value → Shared → Prop} {s : Shared} {a : Addr} {l : List Str}
theorem TxAt.keep {h h' : Heap} (R : TxAt P w h a l) (k : ∀ o, h.get? a = some o → h'.get? a = some o) : TxAt P w h' a l := by
  obtain ⟨D, r1, r2⟩ := R
  exact ⟨D, k _ r1, r2⟩
end
/-! as an object of the heap that is known -/
section
variable {X : Cx} {pins : List (Addr × Obj)} {σ : L2.St} {H : Hp} {s : Shared} {E : Value → Shared → Prop} {D : Addr} {l : List Str}
end
end L2

/-! Lu: {x for a in b for x in c}: a set of texts of two walks. -/
namespace L2
open PySem PySem.Spec PyProof.Rows
section
variable {P : Program} {w : World} {A : Around} {R : Result → Shared → Prop} {s : Shared} {el ta ia tb ib : Expr} {sp : Scope} {ps : Pos} {u acc : Value} {ev : Env}
end
section
variable {X : Cx}
end
end L2

/-! Lv: walks over dicts of one's own; sorted sets of texts. -/
namespace L2
open PySem PySem.Spec PyProof.Rows Wx
section
variable {X : Cx} {pins : List (Addr × Obj)} {σ : L2.St} {H : Hp} {s : Shared} {d : Addr} {o : Obj} {us : List Ent}
end
/-! sorted -/
section
variable {X : Cx}
end
end L2

/-! Ld: sorted({x for .. for ..}), zip. -/
namespace Is
open PySem PySem.Spec PyProof.Rows L2 Wx
open Ir (Tr Cel Mem Ev EK SK EX Con Tg Op Cm I Sm wp wps)
section
variable {X : Cx} {c : Nat → Addr} {n : Nat} {pos p0 : Pos}
theorem S_inj {a b : List Nat} (h : S a = S b) : a = b := by rw [← S_list a, ← S_list b, h]
end
end Is

/-! Le: zip; walks over dicts of one's own. -/
namespace Is
open PySem PySem.Spec PyProof.Rows L2 Wx
open Ir (Tr Cel Mem Ev EK SK EX Con Tg Op Cm I Sm wp wps)
section
variable {X : Cx} {c : Nat → Addr} {n : Nat} {pos p0 : Pos}
/-- a dict of one's own under a lock: what it is, how it is walked -/
structure KW (X : Cx) (c : Nat → Addr) (W0 : Wd) (d : Addr) (u : HO) (J : Obj → It) (ts : List Tr) : Prop where
  nt : notTup u
  mu : Mut (some u)
  fz : frzb u = true
  it : ∀ (tg e : Expr), L2.PI X tg e fun σ H R => WE X e σ H fun x H1 => ∃ o, x = .ref d ∧ H1 d = some (.frz o u) ∧ R (J o) H1
  go : ∀ o i H, H d = some (.frz o u) → i < ts.length → (J o).go i H
  stop : ∀ o H, H d = some (.frz o u) → (J o).stop ts.length H
  yld : ∀ o i H x H', H d = some (.frz o u) → i < ts.length → (J o).yld i H x H' → H' = H ∧ ∃ t, ts[i]? = some t ∧ ∀ F, TEx W0.H H → Ex W0.F F → Rv (XB X c) H F x t
end
end Is

/-! Lf: list comprehensions over dicts of one's own. -/
namespace Is
open PySem PySem.Spec PyProof.Rows L2 Wx
open Ir (Tr Cel Mem Ev EK SK EX Con Tg Op Cm I Sm wp wps)
section
variable {X : Cx} {c : Nat → Addr} {n : Nat} {pos p0 : Pos}
end
end Is

/-! Lg: try with any number of clauses, with and without names: `except C as e: y = (.., e.f, ..)`. -/
namespace L2
open PySem PySem.Spec PyProof.Rows
abbrev ClX := Bool × Value × (Addr → Value → Option Addr → TS)
/-- what the clauses wish; nm: the clause has a name -/
def wClX (K : PySem.W.Frag) (i : Nat) (D : Ends) : List ClX → WX
  | [] => fun _ _ _ _ => False
  | (nm, c, ts) :: r => fun cls d σ H => ∃ b, PySem.W.exmOne K cls c = some b ∧
      (b = true → ∀ a, H a = none → (if nm = true then ts a cls d { nx := fun σ' H' => D.nx (σ'.set i none) H', rt := D.rt, bk := fun σ' H' => D.bk (σ'.set i none) H', ct := fun σ' H' => D.ct (σ'.set i none) H' } (σ.set i (some (.ref a))) H else ts a cls d D σ H)) ∧
      (b = false → wClX K i D r cls d σ H)
inductive HdX (X : Cx) (n : Str) : List ExceptHandler → List ClX → Prop
  | nil : HdX X n [] []
  | cons {x : Str} {c : Value} {ts : Addr → Value → Option Addr → TS} {nm : Bool} {b₀ : Stmt} {suite : List Stmt} {np pos' : Pos} {hds : List ExceptHandler} {l : List ClX} (hc : Names X x c)
      (hsu : ∀ (a : Addr) (oe : Obj) (cls : Value) (d : Option Addr) (pn : List (Addr × Obj)), Zc cls d oe → (∃ vs, oe.data = .fields vs) → PSs (X.suite a ((a, oe) :: pn)) (b₀ :: suite) (ts a cls d)) (r : HdX X n hds l) :
      HdX X n (.ExceptHandler (some (.Name x np)) (if nm = true then some n else none) (b₀ :: suite) pos' :: hds) ((nm, c, ts) :: l)
section
variable {X : Cx} {n : Str} {i : Nat} {body : List Stmt} {h₀ : ExceptHandler} {hds : List ExceptHandler} {l : List ClX} {pos : Pos} {tb : WX → TS}
theorem hdx_run {pins : List (Addr × Obj)} {D : Ends} {σ' : St} {H' : Hp} {sI s' : Shared} {B h3 : Heap} {a : Addr} {cls : Value} {d : Option Addr} (hN : X.N.Nodup) (hi : X.N[i]? = some n) (hln : X.env.kindOf n = some .local)
    (ok : X.Ok) (na : H' a = none) (nL : a ≠ X.env.locals) (nF : a ∉ X.fs) (J3 : Inv X pins σ' H' { s' with heap := h3 })
    (there : ∃ oe vs, h3.get? a = some oe ∧ Zc cls d oe ∧ oe.data = .fields vs)
    (again : ∀ {A : Around} {E : Value → Shared → Prop} {Q : Unit → Shared → Prop}, (∀ h4, Inv X pins σ' H' { s' with heap := h4 } → (∃ oe vs, h4.get? a = some oe ∧ Zc cls d oe ∧ oe.data = .fields vs) → Q () { s' with heap := h4 }) → wpAny (model X.prog X.w) A (setFlight (.ref a) none) Q E { s' with heap := h3 }) :
    ∀ {hds : List ExceptHandler} {l : List ClX}, HdX X n hds l → wClX X.K i D l cls d σ' H' → wpAny (model X.prog X.w) X.A (handleBy (.ref a) X.env hds) (SP X pins D) X.xe { s' with heap := h3 } := by
  obtain ⟨oe3, vs3, he3, hz3, hd3⟩ := there
  intro hds l hk
  induction hk with
  | nil => exact fun w => w.elim
  | @cons x c ts nm b₀ suite np pos' hds2 l2 hc hsu r ih =>
    intro w
    obtain ⟨b, hb1, hyes, hno⟩ := w
    have S3 := J3.suite he3 hd3 na nL nF
    have LT : PySem.W.Looks (model X.prog X.w) h3 (typeOf (.ref a)) cls := fun A Q E s k q => wpAny_typeOf_ref (k _ _ he3) (by rw [hz3.1]; exact q)
    have LM := PySem.W.exm_one (M := model X.prog X.w) J3.kIn LT hb1
    have test : ∀ {Q E : Value → Shared → Prop}, Q c { s' with heap := h3 } → wpAny (model X.prog X.w) (X.A.mark (some (.ref a))) (eval (.Name x np) X.env) Q E { s' with heap := h3 } := fun {Q E} q => by
      obtain ⟨hg, hdbg, hm | ⟨hm, hv, hnn⟩⟩ := hc
      · exact ld_glob (X := X.suite a ((a, oe3) :: (X.pn ++ pins))) S3 hg hm q hdbg
      · exact ld_blt (X := X.suite a ((a, oe3) :: (X.pn ++ pins))) S3 hg hm hv q hnn hdbg
    cases nm with
    | true =>
      refine wpAny_handleBy_cons (codeAny_handlers_test ?_) (by intro q; cases q)
      refine test (LM.here ?_)
      cases b with
      | false => exact ih (hno rfl)
      | true =>
        refine codeAny_handlers_suite_as (again fun h4 J4 ⟨oe4, vs4, he4, hz4, hd4⟩ => ?_)
        have S4 := J4.suite he4 hd4 na nL nF
        refine store_ok (X := X.suite a ((a, oe4) :: (X.pn ++ pins))) (v := .ref a) S4 hN hi (.inl hln) rfl (fun s5 S5 => ?_) (.inr hln)
        refine wpAny_mono ((hsu a oe4 cls d (X.pn ++ pins) hz4 ⟨_, hd4⟩).run [] s5 _ H' _ S5 (hyes rfl a na)) (fun f s6 hsp => ?_) (fun _ _ z => False.elim z)
        cases f with
        | ret u => obtain ⟨v6, σ6, H6, S6, r6, q6⟩ := hsp; exact gone_ok (S6.unsuite ok) hN hi hln fun s7 J7 => ⟨_, _, _, J7, r6, q6⟩
        | _ => obtain ⟨σ6, H6, S6, q6⟩ := hsp; exact gone_ok (S6.unsuite ok) hN hi hln fun s7 J7 => ⟨_, _, J7, q6⟩
    | false =>
      refine wpAny_handleBy_cons (codeAny_handlers_test ?_) (by intro q; cases q)
      refine test (LM.here ?_)
      cases b with
      | false => exact ih (hno rfl)
      | true =>
        refine codeAny_handlers_suite (again fun h4 J4 ⟨oe4, vs4, he4, hz4, hd4⟩ => ?_)
        have S4 := J4.suite he4 hd4 na nL nF
        refine wpAny_mono ((hsu a oe4 cls d (X.pn ++ pins) hz4 ⟨_, hd4⟩).run [] _ _ H' _ S4 (hyes rfl a na)) (fun f s6 hsp => ?_) (fun _ _ z => False.elim z)
        cases f with
        | ret u => obtain ⟨v6, σ6, H6, S6, r6, q6⟩ := hsp; exact ⟨_, _, _, S6.unsuite ok, r6, q6⟩
        | _ => obtain ⟨σ6, H6, S6, q6⟩ := hsp; exact ⟨_, _, S6.unsuite ok, q6⟩
theorem ps_try_mix (hs : X.stack = X.env :: X.outer) (hf : X.env.frame = some X.env.locals) (hN : X.N.Nodup) (hi : X.N[i]? = some n) (hln : X.env.kindOf n = some .local)
    (hb : ∀ (W : WX) (pn : List (Addr × Obj)) (xe : Value → Shared → Prop), Takes (X.tr pn xe) W → PassesOwn (model X.prog X.w) X.A X.env xe → PSs (X.tr pn xe) body (tb W)) (hh : HdX X n (h₀ :: hds) l) :
    PS X (.Try body (h₀ :: hds) [] [] pos) (fun D σ H => tb (wClX X.K i D l) D σ H) := by
  refine ⟨fun pins s σ H D I h => wpAny_Try_except ?_⟩
  have ok := I.ok
  refine wpAny_mono ((hb _ (X.pn ++ pins) (fun e s₁ => wpAny (model X.prog X.w) X.A (noteFrame e X.env) (fun _ s₂ => wpAny (model X.prog X.w) X.A (setFlight e none) (fun _ s₃ => wpAny (model X.prog X.w) X.A (handleBy e X.env (h₀ :: hds)) (SP X pins D) X.xe s₃) X.xe s₂) X.xe s₁) (fun u s' xx => ?_) PassesOwn.looking).run [] s σ H D (I.toTry _) h) (fun f s1 hsp => ?_) (fun e s1 he => he)
  · obtain ⟨a, B, sI, pins', σ', H', cls, d, rfl, J', nb, up, sky, na, os, ag, w⟩ := xx
    have J : Inv X pins σ' H' sI := J'.ofTry ok
    have sky' : Sky B (X.env :: X.outer) a (Zc cls d) X.env.locals s'.heap := by rw [← hs]; exact sky
    show wpAny (model X.prog X.w) X.A (noteFrame (.ref a) X.env) _ _ _
    refine Sky.land Zc.steady (by rw [ok.frames, hs]) hf sky' fun h3 fl3 up3 => ?_
    obtain ⟨oe3, vs3, he3, hz3, hd3⟩ := fl3.there
    have nfr : a ∉ frs (X.env :: X.outer) := fun hm => by
      obtain ⟨_, o', e', hnf⟩ := fl3.2.2.1.mem hm
      rw [he3] at e'
      cases e'
      exact hnf _ hd3
    refine hdx_run (sI := sI) (B := B) hN hi hln ok na (fun z => nfr (List.mem_filterMap.mpr ⟨X.env, List.mem_cons_self, by rw [hf, z]⟩)) (fun hm => ?_) (J.landed nb fl3.1 (up.trans up3) os ag) ⟨oe3, vs3, he3, hz3, hd3⟩ (fun {A E Q} hq => ?_) hh w
    · obtain ⟨e, he, q⟩ := List.mem_filterMap.mp hm
      exact nfr (List.mem_filterMap.mpr ⟨e, List.mem_cons_of_mem _ he, q⟩)
    · exact HandSPX.lands_againZ fl3 fun h4 fl4 up4 => hq h4 (J.landed nb fl4.1 ((up.trans up3).trans up4) os ag) fl4.there
  · cases f with
    | ret u => obtain ⟨v, σ', H', J', r, q⟩ := hsp; exact ⟨v, σ', H', J'.ofTry ok, r, q⟩
    | next => obtain ⟨σ', H', J', q⟩ := hsp; exact wpAny_execs_nil ⟨σ', H', J'.ofTry ok, q⟩
    | _ => obtain ⟨σ', H', J', q⟩ := hsp; exact ⟨σ', H', J'.ofTry ok, q⟩
end
end L2
namespace Is
open PySem PySem.Spec PyProof.Rows L2 Wx
open Ir (Tr Cel Mem Ev EK SK EX Con Tg Op Cm I Sm wp wps El)
section
variable {X : Cx} {c : Nat → Addr} {n : Nat} {pos : Pos} {y : Str} {i : Nat} {body : List Stmt} {b : Sm}
/-- the members of the tuple that a clause makes -/
inductive ElA (X : Cx) (c : Nat → Addr) (ev : Str) (d : Nat) : List Expr → List El → Prop
  | nil : ElA X c ev d [] []
  | str {x : Str} {l : List Nat} {j p1 es els} (hl : x = S l) (r : ElA X c ev d es els) (hs : starEach (.Constant (.str x) j p1 :: es) X.env = (false, eval (.Constant (.str x) j p1) X.env) :: starEach es X.env := by rfl) : ElA X c ev d (.Constant (.str x) j p1 :: es) (.c (.str l) :: els)
  | int {k : Int} {j p1 es els} (r : ElA X c ev d es els) (hs : starEach (.Constant (.int k) j p1 :: es) X.env = (false, eval (.Constant (.int k) j p1) X.env) :: starEach es X.env := by rfl) : ElA X c ev d (.Constant (.int k) j p1 :: es) (.c (.int k) :: els)
  | fld {fi : Nat} {p1 p2 es els} (T : XfC X.K (c d)) (hno : PySem.W.findIn X.K (.ref (c d)) (fname fi) = some none) (hinj : ∀ g, fname g = fname fi → g = fi) (r : ElA X c ev d es els)
      (hs : starEach (.Attribute (.Name ev p1) (fname fi) p2 :: es) X.env = (false, eval (.Attribute (.Name ev p1) (fname fi) p2) X.env) :: starEach es X.env := by rfl) (hat : attributeBase (.Name ev p1) (fname fi) X.env (eval (.Name ev p1) X.env) = eval (.Name ev p1) X.env := by rfl) : ElA X c ev d (.Attribute (.Name ev p1) (fname fi) p2 :: es) (.f fi :: els)
/-- no field is asked for -/
def noF : List El → Bool
  | [] => true
  | .c _ :: r => noF r
  | .f _ :: _ => false
end
end Is

/-! Lh: text.count(sign); try with any number of clauses (the small language's rule). -/
namespace Is
open PySem PySem.Spec PyProof.Rows L2 Wx
open Ir (Tr Cel Mem Ev EK SK EX Con Tg Op Cm I Sm wp wps El)
section
variable {X : Cx} {c : Nat → Addr} {n : Nat} {pos apos : Pos}
end
section
variable {X : Cx} {c : Nat → Addr} {n : Nat} {pos : Pos} {y : Str} {i : Nat} {body : List Stmt} {b : Sm}
/-- the clauses: except C (as ev): y = (.., ev.f, ..) -/
inductive HdT (X : Cx) (c : Nat → Addr) (y : Str) (k : Nat) (ev : Str) : List ExceptHandler → List (Nat × Option Nat × List El) → Prop
  | nil : HdT X c y k ev [] []
  | cons {x : Str} {d : Nat} {nm : Bool} {es : List Expr} {els : List El} {np pos' py ps p4 : Pos} {x1 : Nat} {hds : List ExceptHandler} {cl : List (Nat × Option Nat × List El)} (hN : Names X x (.ref (c d))) (he : ElA X c ev d es els)
    (hn : nm = false → noF els = true) (r : HdT X c y k ev hds cl) (hsw : swapsWith (.Tuple es x1 p4) (some (.Name y py)) ps.line X.env = pure false := by rfl) (hlen : els.length < 60 := by decide) :
    HdT X c y k ev (.ExceptHandler (some (.Name x np)) (if nm = true then some ev else none) [.Assign [.Name y py] (.Tuple es x1 p4) ps] pos' :: hds) ((d, (if nm = true then some k else none), els) :: cl)
end
end Is

/-! Li: objects with parts: opened, closed. -/
namespace Is
open PySem PySem.Spec PyProof.Rows L2 Wx
open Ir (Tr Cel Mem Ev EK SK EX Con Tg Op Cm I Sm wp wps)
/-- the same classes -/
def SmC (c c' : Nat → Addr) : Prop := ∀ d, d < 200 → c' d = c d
theorem SmC.symm {c c' : Nat → Addr} (h : SmC c c') : SmC c' c := fun d hd => (h d hd).symm
section
variable {K : PySem.W.Frag} {w : World} {c c' : Nat → Addr} {H F : Hp}
end
/-- the address of a value -/
def adr : V → Addr
  | .ref b => b
  | _ => 0
section
variable {K : PySem.W.Frag} {w : World} {c c' : Nat → Addr} {H F : Hp}
end
end Is

/-! Lj: methods of objects with parts, called from outside. -/
namespace Is
open PySem PySem.Spec PyProof.Rows L2 Wx
open Ir (Tr Cel Mem Ev EK SK EX Con Tg Op Cm I Sm wp wps)
theorem SmC.refl (c : Nat → Addr) : SmC c c := fun _ _ => rfl
theorem SmC.trans {a b c : Nat → Addr} (h : SmC a b) (k : SmC b c) : SmC a c := fun d hd => (k d hd).trans (h d hd)
section
variable {K : PySem.W.Frag} {w : World} {c : Nat → Addr} {W : Wd} {σ : L2.St} {ρ : Ev} {μ : Mem}
end
section
variable {X : Cx} {c : Nat → Addr} {n : Nat} {pos p0 apos : Pos}
end
end Is

/-! Lk: objects with parts: made, their fields while they are made. -/
namespace Is
open PySem PySem.Spec PyProof.Rows L2 Wx
open Ir (Tr Cel Mem Ev EK SK EX Con Tg Op Cm I Sm wp wps)
section
variable {B : Bs} {W W' : Wd} {σ σ' : L2.St} {ρ ρ' : Ev} {μ : Mem}
end
section
variable {X : Cx} {c : Nat → Addr} {n : Nat} {pos p0 p1 pos' apos : Pos}
end
end Is

/-! Ll: objects with parts: their methods from within; walks over a part. -/
namespace Is
open PySem PySem.Spec PyProof.Rows L2 Wx
open Ir (Tr Cel Mem Ev EK SK EX Con Tg Op Cm I Sm wp wps)
section
variable {X : Cx} {c : Nat → Addr} {n : Nat} {pos p0 p1 pos' apos : Pos}
end
end Is

/-! Lm: a walk over a part that is a dict, which is locked and freed again. -/
namespace Is
open PySem PySem.Spec PyProof.Rows L2 Wx
open Ir (Tr Cel Mem Ev EK SK EX Con Tg Op Cm I Sm wp wps)
section
variable {B : Bs} {H F F' : Hp}
end
section
variable {B : Bs} {W W' : Wd} {σ σ' : L2.St} {ρ ρ' : Ev} {μ μ' : Mem}
end
section
variable {X : Cx} {c : Nat → Addr} {n : Nat} {pos p0 p1 pos' apos : Pos}
end
end Is

/-! Ln: tuple < tuple, of two numbers and a text. -/
namespace L2
open PySem PySem.Spec PyProof.Rows Wx
end L2
namespace Is
open PySem PySem.Spec PyProof.Rows L2 Wx
open Ir (Tr Cel Mem Ev EK SK EX Con Tg Op Cm I Sm wp wps)
section
variable {X : Cx} {c : Nat → Addr} {n : Nat} {pos p0 p1 kp : Pos}
end
end Is

/-! Lo: list(d.items()) of an own dict whose keys are tuples. -/
namespace DT
open PySem PySem.W PySem.Calls PyProof.Rows PyProof.V PySem.Spec
section
variable {prog : Program} {w : World} {A : Around} {E : Value → Shared → Prop} {s : Shared} {r d : Addr} {es : Array DictEntry} {ep : Nat}
end
end DT
namespace L2
open PySem PySem.Spec PyProof.Rows Wx
section
variable {X : Cx}
end
end L2

/-! Lp: min(xs, key=f) of tuples, by keys of two numbers and a text. -/
namespace L2
open PySem PySem.Spec PyProof.Rows Wx
section
variable {X : Cx} {σ : L2.St} {q l I S : Addr} {ts : List Addr} {kf : Nat → Ir.Ky} {G : Hp → Prop}
end
end L2

/-! Lq: min(list(self.f.items()), key=g). -/
namespace L2
open PySem PySem.Spec PyProof.Rows Wx
section
variable {X : Cx} {σ : L2.St} {q l : Addr} {ts : List Addr} {kf : Nat → Ir.Ky} {G : Hp → Prop}
end
end L2
namespace Is
open PySem PySem.Spec PyProof.Rows L2 Wx
open Ir (Tr Cel Mem Ev EK SK EX Con Tg Op Cm I Sm wp wps)
section
variable {X : Cx} {c : Nat → Addr} {n : Nat} {pos p0 p1 p2 p3 p4 p5 p6 p7 kp : Pos}
end
end Is

/-! Lr: the end by one run of the top: what is asked of the heap is computed, nothing is written out. -/
namespace Hx
open PySem PySem.Spec PyProof.Rows L2
/-! ### addresses -/
def adr : Option (Option Value) → Addr
  | some (some (.ref a)) => a
  | _ => 0
def nsA (K : PySem.W.Frag) (x : Str) : Addr := adr (PySem.W.nsIn K mainGlobals x)
def fiA (K : PySem.W.Frag) (C : Addr) (x : Str) : Addr := adr (PySem.W.findIn K (.ref C) x)
theorem ba {a b : Bool} (h : (a && b) = true) : a = true ∧ b = true := Bool.and_eq_true_iff.mp h
/-! ### constants -/
/-! ### functions -/
abbrev FnV : Type := Option (Str × Str × Arguments × FuncBody × Scope × Addr × Value × Addr)
def fnV (K : PySem.W.Frag) (f : Addr) : FnV := match K.lookup f with
  | some ⟨_, _, .func fd, _⟩ => some (fd.name, fd.qualname, fd.params, fd.body, fd.scope, fd.globals, fd.defaults, fd.builtins)
  | _ => none
def fnE (name qual : Str) (st : Stmt) : FnV := some (name, qual, defArgs st, .stmts (defBody st), defScope st, mainGlobals, .none, builtinsNs)
def codeB (K : PySem.W.Frag) (f : Addr) (qual : Str) : Bool := match K.lookup f with
  | some ⟨_, _, .func fd, _⟩ => PySem.W.codeIn K fd.code qual && fd.closure.isEmpty
  | _ => false
theorem fn_ok {K : PySem.W.Frag} {f : Addr} {name qual : Str} {st : Stmt} (e : fnV K f = fnE name qual st) (h : codeB K f qual = true) : ∃ (oc : Value) (od : Option Addr) (kV dc pm : Value) (an : Option Addr) (cd ct : Value) (sl : Array (Option Value)),
    K.lookup f = some ⟨oc, od, .func (PySem.W.fnOf name qual (defArgs st) (defBody st) (defScope st) .none kV dc pm an cd ct), sl⟩ ∧ PySem.W.codeIn K cd qual = true := by
  unfold codeB at h
  unfold fnV fnE at e
  split at h
  · rename_i oc od fd sl q
    obtain ⟨h1, h2⟩ := ba h
    rw [q] at e
    obtain ⟨n, ql, pa, bo, sc, gl, cl, df, kw, dc, pm, an, co, ct, bu⟩ := fd
    have e := Option.some.inj e
    simp only [Prod.mk.injEq] at e
    obtain ⟨e1, e2, e3, e4, e5, e6, e7, e8⟩ := e
    subst e1 e2 e3 e4 e5 e6 e7 e8
    have h2 : cl = [] := by
      cases cl with
      | nil => rfl
      | cons a b => cases h2
    subst h2
    exact ⟨oc, od, kw, dc, pm, an, co, ct, sl, q, h1⟩
  · cases h
/-- the __init__ of an error class: its closure holds the class, its code tells the file -/
def cellB (K : PySem.W.Frag) (cc A : Addr) : Bool := match K.lookup cc with
  | some ⟨_, _, .cell (some (.ref B)), _⟩ => decide (B = A)
  | _ => false
theorem cell_ok {K : PySem.W.Frag} {cc A : Addr} (h : cellB K cc A = true) : ∃ cl cld csl, K.lookup cc = some ⟨cl, cld, .cell (some (.ref A)), csl⟩ := by
  unfold cellB at h
  split at h
  · rename_i e
    have := of_decide_eq_true h
    subst this
    exact ⟨_, _, _, e⟩
  · cases h
def isFile (file : Str) : Option Value → Bool
  | some (.str z _) => (file == z)
  | _ => false
theorem isFile_ok {file : Str} {o : Option Value} (h : isFile file o = true) : ∃ z t, o = some (.str z t) ∧ (file == z) = true := by
  cases o with
  | none => cases h
  | some v => cases v <;> first | cases h | exact ⟨_, _, rfl, h⟩
def fileB (K : PySem.W.Frag) (cda : Addr) (file : Str) : Bool := match K.lookup cda with
  | some ⟨_, _, .fields vs, _⟩ => isFile file vs[2]?
  | _ => false
theorem file_ok {K : PySem.W.Frag} {cda : Addr} {file : Str} (h : fileB K cda file = true) : ∃ ccl cdd vs ccs z tf, K.lookup cda = some ⟨ccl, cdd, .fields vs, ccs⟩ ∧ vs[2]? = some (.str z tf) ∧ (file == z) = true := by
  unfold fileB at h
  split at h
  · rename_i e
    obtain ⟨z, t, e1, e2⟩ := isFile_ok h
    exact ⟨_, _, _, _, z, t, e, e1, e2⟩
  · cases h
def closB (K : PySem.W.Frag) (A : Addr) (qual file : Str) : List (Str × Addr) → Value → Bool
  | [(x, cc)], .ref cda => decide (x = "__class__") && (PySem.W.codeIn K (.ref cda) qual && (cellB K cc A && fileB K cda file))
  | _, _ => false
theorem clos_ok {K : PySem.W.Frag} {A : Addr} {qual file : Str} {cl : List (Str × Addr)} {co : Value} (h : closB K A qual file cl co = true) : ∃ (cc cda : Addr), cl = [(("__class__" : Str), cc)] ∧ co = .ref cda ∧ PySem.W.codeIn K (.ref cda) qual = true ∧ cellB K cc A = true ∧ fileB K cda file = true := by
  unfold closB at h
  split at h
  · obtain ⟨h1, h⟩ := ba h
    obtain ⟨h2, h⟩ := ba h
    obtain ⟨h3, h4⟩ := ba h
    have := of_decide_eq_true h1
    subst this
    exact ⟨_, _, rfl, rfl, h2, h3, h4⟩
  · cases h
def initB (K : PySem.W.Frag) (f A : Addr) (qual file : Str) : Bool := match K.lookup f with
  | some ⟨_, _, .func fd, _⟩ => closB K A qual file fd.closure fd.code
  | _ => false
theorem init_ok {K : PySem.W.Frag} {f A : Addr} {name qual file : Str} {st : Stmt} (e : fnV K f = fnE name qual st) (h : initB K f A qual file = true) : ∃ (oc : Value) (od : Option Addr) (kV dc pm : Value) (an : Option Addr) (cda : Addr) (ct : Value) (cc : Addr) (sl : Array (Option Value)),
    K.lookup f = some ⟨oc, od, .func (PySem.W.ksFn name qual (defArgs st) (defBody st) (defScope st) .none kV dc pm an (.ref cda) ct cc), sl⟩ ∧ PySem.W.codeIn K (.ref cda) qual = true ∧
    (∃ cl cld csl, K.lookup cc = some ⟨cl, cld, .cell (some (.ref A)), csl⟩) ∧ ∃ ccl cdd vs ccs z tf, K.lookup cda = some ⟨ccl, cdd, .fields vs, ccs⟩ ∧ vs[2]? = some (.str z tf) ∧ (file == z) = true := by
  unfold initB at h
  unfold fnV fnE at e
  split at h
  · rename_i oc od fd sl q
    rw [q] at e
    obtain ⟨n, ql, pa, bo, sc, gl, cl, df, kw, dc, pm, an, co, ct, bu⟩ := fd
    have e := Option.some.inj e
    simp only [Prod.mk.injEq] at e
    obtain ⟨e1, e2, e3, e4, e5, e6, e7, e8⟩ := e
    subst e1 e2 e3 e4 e5 e6 e7 e8
    obtain ⟨cc, cda, h1, h2, h3, h4, h5⟩ := clos_ok h
    have h1 : cl = [(("__class__" : Str), cc)] := h1
    have h2 : co = .ref cda := h2
    subst h1 h2
    exact ⟨oc, od, kw, dc, pm, an, cda, ct, cc, sl, q, h3, cell_ok h4, file_ok h5⟩
  · cases h
/-! ### error classes -/
def mroB (A : Addr) : List Value → Bool
  | .ref B :: bm => decide (B = A) && PySem.HandSPX.refsVE bm
  | _ => false
theorem mro_ok {A : Addr} {l : List Value} (h : mroB A l = true) : ∃ bm, l = .ref A :: bm ∧ PySem.HandSPX.refsVE bm = true := by
  unfold mroB at h
  split at h
  · obtain ⟨h1, h2⟩ := ba h
    have := of_decide_eq_true h1
    subst this
    exact ⟨_, rfl, h2⟩
  · cases h
def newB : List (Option Value) → Bool
  | [_, _, _, _, some (.builtin m), _] => (m == "ValueError.__new__")
  | _ => false
theorem new_ok {l : List (Option Value)} (h : newB l = true) : ∃ k0 k1 k2 k3 k5, l = [k0, k1, k2, k3, some (.builtin "ValueError.__new__"), k5] := by
  unfold newB at h
  split at h
  · rw [← beq_iff_eq.mp h]
    exact ⟨_, _, _, _, _, rfl⟩
  · cases h
def clsB (A : Addr) (c : ClassData) : Bool := mroB A c.mro && (c.hasDict && !c.hasDel)
theorem cls_ok {A : Addr} {c : ClassData} (h : clsB A c = true) : ∃ nm bs N q sn sub ab col bm, c = { name := nm, bases := bs, mro := .ref A :: bm, ns := N, qualname := q, hasDict := true, slotNames := sn, subclasses := sub, abstract := ab, collection := col, hasDel := false } ∧ PySem.HandSPX.refsVE bm = true := by
  obtain ⟨nm, bs, mro, N, q, hd, sn, sub, ab, col, hdel⟩ := c
  obtain ⟨h1, h⟩ := ba h
  obtain ⟨h2, h3⟩ := ba h
  obtain ⟨bm, e, hv⟩ := mro_ok h1
  have e : mro = _ := e
  have h2 : hd = true := h2
  have h9 : hdel = false := by cases hdel <;> first | rfl | cases h3
  subst h9
  subst h2
  subst e
  exact ⟨nm, bs, N, q, sn, sub, ab, col, bm, rfl, hv⟩
def excB (K : PySem.W.Frag) (A : Addr) : Bool := match K.lookup A with
  | some ⟨.type n, _, .cls c, sl⟩ => (n == "type") && (clsB A c && newB sl.toList)
  | _ => false
theorem exc_ok {K : PySem.W.Frag} {A : Addr} (h : excB K A = true) : ∃ (nm q : Str) (N : Addr) (bs bm : List Value) (sn : List Str) (sub : List Value) (ab : Bool) (col : Option Bool) (dd : Option Addr) (k0 k1 k2 k3 k5 : Option Value),
    K.lookup A = some (excClassObj nm q A N bs bm true sn sub ab col dd k0 k1 k2 k3 k5 "ValueError.__new__") ∧ PySem.HandSPX.refsVE bm = true := by
  unfold excB at h
  split at h
  · rename_i n dd c sl e
    obtain ⟨h1, h⟩ := ba h
    obtain ⟨h2, h3⟩ := ba h
    rw [beq_iff_eq.mp h1] at e
    obtain ⟨nm, bs, N, q, sn, sub, ab, col, bm, rfl, hv⟩ := cls_ok h2
    obtain ⟨k0, k1, k2, k3, k5, es⟩ := new_ok h3
    have e2 : sl = #[k0, k1, k2, k3, some (.builtin "ValueError.__new__"), k5] := by rw [← Array.toArray_toList (xs := sl), es]
    subst e2
    exact ⟨nm, q, N, bs, bm, sn, sub, ab, col, dd, k0, k1, k2, k3, k5, e, hv⟩
  · cases h
/-! ### the Hook -/
/-- what an object names that is looked at -/
def rX (o : Obj) : List Addr := match o.data with
  | .dict es _ => es.toList.flatMap fun e => He.refV e.val
  | .func fd => He.refV fd.code ++ fd.closure.map (·.2)
  | .cls cd => [cd.ns]
  | .fields vs => (match o.cls with
    | .type n => (match (n == "property") with
      | true => vs.toList.flatMap He.refV
      | false => [])
    | _ => [])
  | _ => []
def lvX (g : Addr → Option Obj) : Nat → List Addr → List Addr
  | 0, _ => []
  | n + 1, as => (fun bs => bs ++ lvX g n bs) (as.flatMap fun a => match g a with
    | some o => rX o
    | none => [])
def asX (g : Addr → Option Obj) (n : Nat) : List Addr := mainGlobals :: cStatics :: lvX g n [mainGlobals]
def hookX {α : Type} (n : Nat) (ob : PySem.W.Frag → α) (v : α) : PySem.W.Hook where
  α := α
  obs := fun s => ob (He.frG s.heap.get? (asX s.heap.get? n))
  val := fun _ => v
  says := fun _ h => ∃ K : PySem.W.Frag, K.In h ∧ ob K = v
  of := fun _ _ e => ⟨_, He.frG_in, e⟩
  keeps := fun _ _ _ ⟨K, hK, c⟩ k => ⟨K, PySem.W.Frag.In.keeps hK k, c⟩
def obX {α : Type} (n : Nat) (ob : PySem.W.Frag → α) (s : PySem.W.SharedT) : α := ob (He.frG (HandSHeadRun.getT s) (asX (HandSHeadRun.getT s) n))
theorem obX_eq {α : Type} {n : Nat} {ob : PySem.W.Frag → α} {v : α} (s : PySem.W.SharedT) : obX n ob s = (hookX n ob v).obs s.abs := by
  have e : HandSHeadRun.getT s = s.abs.heap.get? := funext (HandSHeadRun.getT_eq s)
  unfold obX
  rw [e]
  rfl
theorem walk_ofX {l : PySem.W.OpenLaw} {n k : Nat} {q : Program} {loose : List Str} {XP : (Str → Option Value) → Heap → Prop} {YP : World → Heap → Prop} {d : DefRec} {CX : World → CXT} {x : Str}
    (hn : l.most = some n) (hn2 : n ≤ sizeLine) (hdf : d.params.defaults = []) (hr : Room k callerA)
    (F : ∀ (w : World) (mg : Str → Option Value) (fa : Addr) (h : Heap), YP w h → h.Ns mainGlobals mg → mg d.name = some (.ref fa) →
      ∃ (K : PySem.W.Frag) (fd : FuncData) (sp : Sp), K.In h ∧ (∀ (s : Shared) (u : Value), BindsTo s fd ⟨[u], []⟩ [(x, u)]) ∧
        (∀ (H : Hp) (a : Addr) (ns : List Int), ns.length ≤ n → Only H → SqL K H a (ns.map V.int) → sp [.ref a] H (fun v _ => v = .bl true) fun _ _ _ => False) ∧
        ∀ base : Heap, K.In base → base.Ns mainGlobals mg → FnOk l.prog w K mg base (CX w) k fa fd [x] sp)
    (hCX : ∀ (w : World) (H : Hp) (s : Shared) (e : Value) (s' : Shared), CX w [] H s (fun _ _ _ => False) e s' → False) :
    PySem.W.WalkO q loose XP YP l.row.toRowW d [] (fun f vs => PySem.call f vs) :=
  Att.attach_call hn hdf fun w s₀ s₁ mg mb fa o pm cd doc a vs ns G Y ho hd hcd hmg hobj hints hlen hg => by
    obtain ⟨K, fd, sp, KX, hb, hsp, hF⟩ := F w mg fa _ Y G.T.g hmg
    exact law_call KX G.T.g G.T.b G.T.builtins G.T.nolimit hg hobj hints (Nat.le_trans hlen hn2) hr hF hb (fun H hO hS => hsp H a ns hlen hO hS) fun H e s' => hCX w H s₁ e s'
end Hx

/-! Ls: keys of two numbers and a text: the least of a list, compared. -/
namespace L2
open PySem PySem.Spec PyProof.Rows Wx
section
variable {X : Cx} {σ : L2.St} {l I S : Addr} {ts : List Addr} {kf : Nat → Ir.Ky}
end
end L2
namespace Is
open PySem PySem.Spec PyProof.Rows L2 Wx
open Ir (Tr Cel Mem Ev EK SK EX Con Tg Op Cm I Sm wp wps)
section
variable {X : Cx} {c : Nat → Addr} {n : Nat} {pos p0 p1 kp : Pos}
end
end Is

/-! Lw: list(d) of an own dict whose keys are tuples; sum of whole numbers. -/
namespace L2
open PySem PySem.Spec PyProof.Rows Wx
section
variable {X : Cx}
end
end L2
namespace Is
open PySem PySem.Spec PyProof.Rows L2 Wx
open Ir (Tr Cel Mem Ev EK SK EX Con Tg Op Cm I Sm wp wps)
section
variable {X : Cx} {c : Nat → Addr} {n : Nat} {pos p0 p1 kp : Pos}
end
end Is

/-! Lx: comparisons with parts and of keys, as tests. -/
namespace Is
open PySem PySem.Spec PyProof.Rows L2 Wx
open Ir (Tr Cel Mem Ev EK SK EX Con Tg Op Cm I Sm wp wps)
section
variable {X : Cx} {c : Nat → Addr} {n : Nat} {p1 pos' pos : Pos}
end
end Is

/-! Ly: lists with own objects: == and != of what is equal, item by item. -/
namespace GQ
open PySem PySem.SeqAt
open AutoSeq1 (wpAny_loadPart')
open MeetsSeq MeetsSeq2 MeetsSeq3 SeqRoads2
section
variable {prog : Program} {w : World} {A : Around} {R : Result → Shared → Prop}
end
end GQ
namespace L2
open PySem PySem.Spec PyProof.Rows
section
variable {X : Cx} {n m : Nat} {D D' : Eqv}
end
end L2
namespace Is
open PySem PySem.Spec PyProof.Rows L2 Wx
open Ir (Tr Cel Mem Ev EK SK EX Con Tg Op Cm I Sm wp wps)
section
variable {X : Cx} {c : Nat → Addr} {n : Nat} {W : Wd} {σ : L2.St} {ρ : Ev} {μ : Mem}
def FrH (H F : Hp) : Prop := ∀ a o, F a = some o → H a = some o ∨ ((∃ b, H a = some (.frz b o)) ∧ frzb o = true)
theorem FrH.ext {H H' F : Hp} (h : FrH H F) (e : Ext H H') : FrH H' F := fun a o ha => (h a o ha).elim (fun g => .inl (e _ _ g)) fun ⟨⟨b, g⟩, z⟩ => .inr ⟨⟨b, e _ _ g⟩, z⟩
end
end Is

/-! Za: the least of two keys; dict(list of pairs) with tuples as its keys. -/
namespace L2
open PySem PySem.Spec PyProof.Rows Wx
end L2
namespace Wx
open PySem PySem.Spec PyProof.Rows L2
section
variable {X : Cx}
end
end Wx
namespace Is
open PySem PySem.Spec PyProof.Rows L2 Wx
open Ir (Tr Cel Mem Ev EK SK EX Con Tg Op Cm I Sm wp wps)
section
variable {X : Cx} {c : Nat → Addr} {n : Nat} {pos p0 : Pos}
end
end Is

/-! Zb: list(zip(a, b)). -/
namespace DZ
open PySem PySem.W PySem.Calls PyProof.Rows PyProof.V PySem.Spec
/-- the tuples that came of it, at as -/
structure Made (xs ys : Array Value) (B : Nat) (h : Heap) (as : List Addr) : Prop where
  rise : as.Pairwise (· < ·)
  above : ∀ a ∈ as, B < a
  lt : ∀ a ∈ as, a < h.objs.size
  pairs : ∀ (j : Nat) a, as[j]? = some a → ∃ x y, xs[j]? = some x ∧ ys[j]? = some y ∧ IsPair h a x y
theorem Made.keep {xs ys : Array Value} {B : Nat} {h h' : Heap} {as : List Addr} (m : Made xs ys B h as) (hs : h.objs.size ≤ h'.objs.size) (k : ∀ b o, B < b → h.get? b = some o → h'.get? b = some o) : Made xs ys B h' as :=
  ⟨m.rise, m.above, fun a ha => Nat.lt_of_lt_of_le (m.lt a ha) hs, fun j a e => by
    obtain ⟨x, y, h1, h2, h3⟩ := m.pairs j a e
    exact ⟨x, y, h1, h2, k a _ (m.above a (List.mem_of_getElem? e)) h3⟩⟩
theorem Made.push {xs ys : Array Value} {B : Nat} {h : Heap} {as : List Addr} {T : Addr} {x y : Value} (m : Made xs ys B h as) (hB : B < T) (hT : ∀ a ∈ as, a < T) (hl : T < h.objs.size) (hx : xs[as.length]? = some x) (hy : ys[as.length]? = some y) (hp : IsPair h T x y) : Made xs ys B h (as ++ [T]) := by
  refine ⟨?_, fun a ha => ?_, fun a ha => ?_, fun j a e => ?_⟩
  · rw [List.pairwise_append]
    exact ⟨m.rise, List.pairwise_singleton _ _, fun a ha b hb => by rw [List.mem_singleton.mp hb]; exact hT a ha⟩
  · rcases List.mem_append.mp ha with ha | ha
    · exact m.above a ha
    · rw [List.mem_singleton.mp ha]; exact hB
  · rcases List.mem_append.mp ha with ha | ha
    · exact m.lt a ha
    · rw [List.mem_singleton.mp ha]; exact hl
  · rcases Nat.lt_or_ge j as.length with g | g
    · rw [List.getElem?_append_left g] at e
      exact m.pairs j a e
    · rw [List.getElem?_append_right g] at e
      rcases Nat.eq_zero_or_pos (j - as.length) with z | z
      · rw [z] at e
        have e : T = a := Option.some.inj e
        subst e
        have : j = as.length := by omega
        subst this
        exact ⟨x, y, hx, hy, hp⟩
      · rw [List.getElem?_eq_none (by simp; omega)] at e
        cases e
section
variable {prog : Program} {w : World} {A : Around}
end
end DZ

/-! Zc: list(zip(a, b)), as a new list. -/
namespace L2
open PySem PySem.Spec PyProof.Rows Wx
section
variable {X : Cx}
end
end L2
namespace Is
open PySem PySem.Spec PyProof.Rows L2 Wx
open Ir (Tr Cel Mem Ev EK SK EX Con Tg Op Cm I Sm wp wps)
section
variable {X : Cx} {c : Nat → Addr} {n : Nat} {pos zpos p0 p1 : Pos}
end
end Is

/-! Zd: {"a": "b", "c": "d"}. -/
namespace Is
open PySem PySem.Spec PyProof.Rows L2 Wx
open Ir (Tr Cel Mem Ev EK SK EX Con Tg Op Cm I Sm wp wps)
section
variable {X : Cx} {c : Nat → Addr} {n : Nat} {pos : Pos}
end
end Is

/-! Ze: calls by the names of the parameters alone, written from the last to the first. -/
namespace Wx
open PySem PySem.Spec PyProof.Rows L2
abbrev gR (us ws : List Value) : List Value := us ++ ws.reverse
abbrev gRV (vs zs : List V) : List V := vs ++ zs.reverse
theorem vals_rev {vs : List V} {us : List Value} (h : Vals vs us) : Vals vs.reverse us.reverse := by
  induction h with
  | nil => exact .nil
  | @cons a b as bs h t ih =>
    rw [List.reverse_cons, List.reverse_cons]
    have app : ∀ {xs : List V} {ys : List Value} {xs' : List V} {ys' : List Value}, Vals xs ys → Vals xs' ys' → Vals (xs ++ xs') (ys ++ ys') := fun {xs ys xs' ys'} h1 h2 => by
      induction h1 with
      | nil => exact h2
      | cons a _ ih => exact .cons a ih
    exact app ih (.cons h .nil)
theorem vals_app {xs : List V} {ys : List Value} {xs' : List V} {ys' : List Value} (h1 : Vals xs ys) (h2 : Vals xs' ys') : Vals (xs ++ xs') (ys ++ ys') := by
  induction h1 with
  | nil => exact h2
  | cons a _ ih => exact .cons a ih
/-- a callee that may be called so -/
structure CalR (P : Program) (w : World) (K : PySem.W.Frag) (mg : Str → Option Value) (base : Heap) (CX : CXT) (k : Nat) (x : Str) (sp : Sp) (ks : List Str) : Prop where
  ex : ∃ f fd ps, FnOk P w K mg base CX k f fd ps sp ∧ mg x = some (.ref f) ∧ PySem.W.keepIn K (.ref f) = true ∧ KBn K fd ps 0 ks gR gRV
structure MthR (P : Program) (w : World) (K : PySem.W.Frag) (mg : Str → Option Value) (base : Heap) (CX : CXT) (k : Nat) (C : Addr) (m : Str) (sp : Sp) (ks : List Str) : Prop where
  ex : ∃ f fd ps, Meth K C m f ∧ FnOk P w K mg base CX k f fd ps sp ∧ KBn K fd ps 1 ks gR gRV
structure MkrR (P : Program) (w : World) (K : PySem.W.Frag) (mg : Str → Option Value) (base : Heap) (CX : CXT) (k : Nat) (x : Str) (C : Addr) (sp : Sp) (ks : List Str) : Prop where
  ex : ∃ f fd ps, L2.Mk K C f ∧ FnOk P w K mg base CX k f fd ps sp ∧ KBn K fd ps 1 ks gR gRV ∧ mg x = some (.ref C)
section
variable {X : Cx} {σ : L2.St} {H : Hp}
@[irreducible] def WK (X : Cx) (kws : List Keyword) : TA := fun σ H Q => ∀ pos pins s, Inv X pins σ H s → wpAny (model X.prog X.w) X.A (evalAll ((backToKw pos (keywordEach kws X.env)).map (·.2))) (AP X pins σ Q) X.xe s
theorem pk_w {kws : List Keyword} : PK X kws (WK X kws) := ⟨fun pos pins s σ H Q I h => by unfold WK at h; exact h pos pins s I⟩
theorem WK.of {kws : List Keyword} {t : TA} {Q} (h : PK X kws t) (q : t σ H Q) : WK X kws σ H Q := by
  unfold WK; exact fun pos pins s I => h.run pos pins s σ H Q I q
theorem wk_nil {Q : List V → Hp → Prop} (q : Q [] H) : WK X [] σ H Q := WK.of pk_nil q
theorem wk_cons {nm : Option Str} {e : Expr} {kpos : Pos} {kws : List Keyword} {Q : List V → Hp → Prop} (q : WE X e σ H fun x H1 => WK X kws σ H1 fun xs H2 => Q (x :: xs) H2) : WK X (⟨nm, e, kpos⟩ :: kws) σ H Q := WK.of (pk_cons pe_w pk_w) q
end
section
variable {X : Cx} {CX : CXT} {k n : Nat} {f C : Addr} {fd : FuncData} {ps ks : List Str} {sp : Sp} {E : L2.St → XK} {x m : Str} {p pos apos : Pos} {o : Expr} {kws : List Keyword} {ta : TE} {tk : TA}
end
end Wx
namespace Ir
end Ir
namespace Is
open PySem PySem.Spec PyProof.Rows L2 Wx
open Ir (Tr Cel Mem Ev EK SK EX Con Tg Op Cm I Sm wp wps)
section
variable {X : Cx} {c : Nat → Addr} {n : Nat} {pos p0 apos : Pos}
end
end Is

/-! Zf: == and != of lists of own objects, or of None twice. -/
namespace Ir
end Ir
namespace Is
open PySem PySem.Spec PyProof.Rows L2 Wx
open Ir (Tr Cel Mem Ev EK SK EX Con Tg Op Cm I Sm wp wps)
section
variable {X : Cx} {c : Nat → Addr} {n : Nat} {b : Bool} {D : V → V → Hp → Prop}
end
section
variable {X : Cx} {c : Nat → Addr}
end
end Is

/-! Zg: enumerate(tuple). -/
namespace PySem
open Sem (wp)
open AutoSeq1 (wpAny_loadPart')
end PySem
namespace L2
open PySem PySem.Spec PyProof.Rows Wx
section
variable {X : Cx}
end
end L2
namespace Ir
end Ir
namespace Is
open PySem PySem.Spec PyProof.Rows L2 Wx
open Ir (Tr Cel Mem Ev EK SK EX Con Tg Op Cm I Sm wp wps)
section
variable {X : Cx} {c : Nat → Addr} {n : Nat} {pos p0 : Pos}
end
end Is

/-! Zh: zip(text, list); a call that is lent an own list. -/
namespace L2
open PySem PySem.Spec PyProof.Rows Wx
section
variable {X : Cx}
end
end L2
namespace Ir
end Ir
namespace Is
open PySem PySem.Spec PyProof.Rows L2 Wx
open Ir (Tr Cel Mem Ev EK SK EX Con Tg Op Cm I Sm wp wps)
theorem renum_np : ∀ {ts : List Tr} {n : Nat} {k : List Tr → List Nat → Prop}, Ir.renum ts n k → (∀ us is, k us is → ∀ j, Tr.ptr j ∉ us) → k ts [] ∧ ∀ j, Tr.ptr j ∉ ts
  | [], n, k, h, hk => ⟨h, fun j hj => by simp at hj⟩
  | t :: ts, n, k, h, hk => by
    cases t with
    | ptr i =>
      have h : Ir.renum ts (n + 1) fun us is => k (.ptr n :: us) (i :: is) := h
      obtain ⟨h1, _⟩ := renum_np h fun us is q j hj => hk _ _ q j (List.mem_cons_of_mem _ hj)
      exact absurd List.mem_cons_self (hk _ _ h1 n)
    | _ =>
      obtain ⟨h1, h2⟩ := renum_np (k := fun us is => k (_ :: us) is) h fun us is q j hj => hk _ _ q j (List.mem_cons_of_mem _ hj)
      exact ⟨h1, fun j hj => by
        rcases List.mem_cons.mp hj with e | e
        · cases e
        · exact h2 j e⟩
section
variable {X : Cx} {c : Nat → Addr} {n : Nat} {pos p0 : Pos}
end
end Is

/-! Zi: min(text). -/
namespace L2
open PySem PySem.Spec PyProof.Rows Wx
end L2
namespace Ir
end Ir
namespace Is
open PySem PySem.Spec PyProof.Rows L2 Wx
open Ir (Tr Cel Mem Ev EK SK EX Con Tg Op Cm I Sm wp wps)
section
variable {X : Cx} {c : Nat → Addr} {n : Nat} {pos p0 p1 kp : Pos}
end
end Is

/-! Zj: sorted(text). -/
namespace L2
open PySem PySem.Spec PyProof.Rows Wx
end L2
namespace Ir
end Ir
namespace Is
open PySem PySem.Spec PyProof.Rows L2 Wx
open Ir (Tr Cel Mem Ev EK SK EX Con Tg Op Cm I Sm wp wps)
section
variable {X : Cx} {c : Nat → Addr} {n : Nat} {pos p0 p1 kp : Pos}
end
end Is

/-! Zk: list comprehensions over an own list: it is lent while they run. -/
namespace Ir
end Ir
namespace Is
open PySem PySem.Spec PyProof.Rows L2 Wx
open Ir (Tr Cel Mem Ev EK SK EX Con Tg Op Cm I Sm wp wps)
section
variable {X : Cx} {c : Nat → Addr} {n : Nat} {pos p0 : Pos}
end
end Is

/-! Zl: tuple < tuple, data within one another. -/
namespace Ir
end Ir
namespace L2
open PySem PySem.Spec PyProof.Rows Wx
open Ir (Tr)
end L2
namespace Is
open PySem PySem.Spec PyProof.Rows L2 Wx
open Ir (Tr Cel Mem Ev EK SK EX Con Tg Op Cm I Sm wp wps)
section
variable {X : Cx} {c : Nat → Addr} {n : Nat} {pos p0 : Pos}
end
end Is

/-! Zm: tuple + tuple, also where the first is empty. -/
namespace Ir
end Ir
namespace Is
open PySem PySem.Spec PyProof.Rows L2 Wx
open Ir (Tr Cel Mem Ev EK SK EX Con Tg Op Cm I Sm wp wps)
section
variable {X : Cx} {c : Nat → Addr} {n : Nat} {pos p0 : Pos}
end
end Is

/-! Zn: "..".join(self.f), f an own list of the object. -/
namespace Is
open PySem PySem.Spec PyProof.Rows L2 Wx
open Ir (Tr Cel Mem Ev EK SK EX Con Tg Op Cm I Sm wp wps)
section
variable {X : Cx} {c : Nat → Addr} {n : Nat} {pos p1 pos' apos : Pos}
end
end Is

/-! Zo: errors made by keyword. -/
namespace PySem
namespace HandSPX
open Builtin Builtin.ObjectAttr
section
variable {M : Model} {A : Around} {E : Value → Shared → Prop} {h : Heap} {g : Array GenState} {d : Drawn} {t : Nat} {os : OsState}
variable {nm q : Str} {C N : Addr} {bs bm bmB : List Value} {hdct : Bool} {sn : List Str} {sub : List Value} {ab : Bool} {col : Option Bool} {dd : Option Addr} {k0 k1 k2 k3 k5 : Option Value} {B newId initId : String}
theorem check_new_kwe (F : ExcBaseFacts B newId initId bmB) (hT : ∀ X : String, bm.contains (.type X) = bmB.contains (.type X)) {f : Str} {v : Value} {Q : Unit → Shared → Prop}
    (hC : h.get? C = some (excClassObj nm q C N bs bm hdct sn sub ab col dd k0 k1 k2 k3 k5 newId)) (hq : Q () ⟨h, g, d, t, os⟩) : wpAny M A (checkBuiltinCall newId ⟨[.ref C], [(f, v)]⟩) Q E ⟨h, g, d, t, os⟩ := by
  have hcont : (Value.ref C :: bm).contains (.type B) = true := by rw [List.contains_cons, hT, F.hasB, Bool.or_true]
  have hstar := F.noStar
  simp only [checkBuiltinCall, F.newKind, F.newSplit, F.newRow]
  repeat (first | refine wpAny_loadPart_at hC ?_ | (refine wpAny_isSubtype_exc hC ?_; rw [hcont]) | refine wpAny_staticBase_exc hC ?_ | refine wpAny_madeBy_exc hC ?_ | simp only [bne_self_eq_false, Bool.false_eq_true, if_false] | wp_step)
  exact hq
end
section
variable {prog : Program} {w : World} {A : Around} {E : Value → Shared → Prop} {R : Result → Shared → Prop} {h : Heap} {g : Array GenState} {d : Drawn} {t : Nat} {os : OsState}
variable {nm q : Str} {C N : Addr} {bs bm bmB : List Value} {hdct : Bool} {sn : List Str} {sub : List Value} {ab : Bool} {col : Option Bool} {dd : Option Addr} {k0 k1 k2 k3 k5 : Option Value} {B newId initId : String}
theorem new_kwe (F : ExcBaseFacts B newId initId bmB) (hT : ∀ X : String, bm.contains (.type X) = bmB.contains (.type X)) {f : Str} {v : Value}
    (hC : h.get? C = some (excClassObj nm q C N bs bm hdct sn sub ab col dd k0 k1 k2 k3 k5 newId))
    (hq : R (.ok (.ret (.ref (h.objs.size + 1)))) ⟨(h.push { cls := .type "tuple", data := .seq #[] }).push
      { cls := .ref C, data := .fields #[.ref h.objs.size, .none, .none, .none, .bool false, .none] }, g, d, t, os⟩) :
    codeAny (model prog w) A (.builtin newId ⟨[.ref C], [(f, v)]⟩) R ⟨h, g, d, t, os⟩ := by
  have hends := F.ends
  have hcB : (Value.ref C :: bm).contains (.type B) = true := by rw [List.contains_cons, hT, F.hasB, Bool.or_true]
  have hcA : (Value.ref C :: bm).contains (.type "AttributeError") = false := by rw [List.contains_cons, hT, F.noAttr]; rfl
  have hcN : (Value.ref C :: bm).contains (.type "NameError") = false := by rw [List.contains_cons, hT, F.noName]; rfl
  refine codeAny_builtinAt F.entry ?_
  unfold Builtin.«BaseException.__new__»
  refine wpAt_bind ?_
  show wpAt _ _ _ (stack >>= _) _ _ _
  refine wpAt_bind (wpAt_stack fun p below => wpAt_of_wpAny ?_)
  wp_walk
  refine wpAt_of_wpAny ?_
  rw [F.owner]
  repeat (first | with_reducible refine wpAny_madeHere_exc F.canon hC ?_ | with_reducible refine wpAny_loadPart_at hC ?_ | (with_reducible refine wpAny_isSubtype_exc hC ?_; first | rw [hcB] | rw [hcA] | rw [hcN]) | wp_step)
  show R _ _
  rw [Heap.size_push]
  exact hq

theorem type_call_kwe (F : ExcBaseFacts B newId initId bmB) (hT : ∀ X : String, bm.contains (.type X) = bmB.contains (.type X)) {f : Str} {v : Value} {fI : Addr} {Q : Fin → Shared → Prop}
    (hC : h.get? C = some (excClassObj nm q C N bs bm hdct sn sub ab col dd k0 k1 k2 k3 k5 newId))
    (hi : W.Looks (model prog w) h (typeLookup (.ref C) "__init__") (some (.ref fI))) (hb : ∀ self, W.Looks (model prog w) h (bindSpecial (.ref fI) self) (.ref fI, [self]))
    (hq : codeAny (model prog w) A (.call (.ref fI) ⟨[.ref (h.objs.size + 1)], [(f, v)]⟩)
      (fun r s' => match r with | .ok (.ret v) => v = .none ∧ Q (.done (.ret (.ref (h.objs.size + 1)))) s' | .ok _ => False | .error e => E e s')
      ⟨(h.push (W.kdv_tup [])).push (excO C h.objs.size), g, d, t, os⟩) :
    wpAny (model prog w) A (Builtin.«type.__call__» ⟨[.ref C], [(f, v)]⟩) Q E ⟨h, g, d, t, os⟩ := by
  repeat (first | with_reducible refine wpAny_loadPart_at hC ?_ | with_reducible refine wpAny_madeBy_exc hC ?_ | wp_step)
  refine codeAny_call_builtin_code (Code.quiet_builtin _ F.quiet) (check_new_kwe F hT hC ?_)
  refine new_kwe F hT hC ?_
  show wpAny _ _ _ _ _ _
  have k : ∀ b o, h.get? b = some o → ((h.push (W.kdv_tup [])).push (excO C h.objs.size)).get? b = some o := fun b o e => Heap.get?_push_of_some _ (Heap.get?_push_of_some _ e)
  have hC₁ := k _ _ hC
  have hget : ((h.push (W.kdv_tup [])).push (excO C h.objs.size)).get? (h.objs.size + 1) = some (excO C h.objs.size) := by heap_get
  have hcC : (Value.ref C :: bm).contains (.ref C) = true := by simp
  have i1 := hi.keeps k
  have b1 := (hb (.ref (h.objs.size + 1))).keeps k
  unfold isInstance
  repeat (first | with_reducible refine wpAny_loadPart_at hget ?_ | (with_reducible refine wpAny_isSubtype_exc hC₁ ?_; rw [hcC]) | wp_step)
  show wpAny _ _ (typeLookup (.ref C) _) _ _ _
  refine i1.at ?_
  refine wpAny_holding (wpAny_bind (b1.at ?_))
  refine wpAny_bind (wpAny_call (codeAny_mono hq fun r s' z => ?_))
  rcases r with e | (v | _ | _ | _) <;> first | exact z | exact z.elim | skip
  obtain ⟨rfl, z⟩ := z
  first
    | exact wpAny_pure (wpAny_pure z)
    | (wp_walk; exact z)

theorem call_kwe (F : ExcBaseFacts B newId initId bmB) (hT : ∀ X : String, bm.contains (.type X) = bmB.contains (.type X)) {f : Str} {v : Value} {fI : Addr}
    (hC : h.get? C = some (excClassObj nm q C N bs bm hdct sn sub ab col dd k0 k1 k2 k3 k5 newId))
    (hi : W.Looks (model prog w) h (typeLookup (.ref C) "__init__") (some (.ref fI))) (hb : ∀ self, W.Looks (model prog w) h (bindSpecial (.ref fI) self) (.ref fI, [self]))
    (hq : codeAny (model prog w) (A.under (.builtin "type.__call__" ⟨[.ref C], [(f, v)]⟩)) (.call (.ref fI) ⟨[.ref (h.objs.size + 1)], [(f, v)]⟩) (W.InitBack (h.objs.size + 1) R)
      ⟨(h.push (W.kdv_tup [])).push (excO C h.objs.size), g, d, t, os⟩) :
    codeAny (model prog w) A (.call (.ref C) ⟨[], [(f, v)]⟩) R ⟨h, g, d, t, os⟩ := by
  have f1 := tc_lookup
  have f2 := tc_bind (.ref C)
  have hTy : (⟨h, g, d, t, os⟩ : Shared).TypeIs (.ref C) "type" := ⟨_, hC, rfl⟩
  refine codeAny_of_tree ?_
  show wpAny _ _ (callAny (.ref C) _) _ _ _
  repeat (any_goals (first | assumption | with_reducible refine wpAny_loadPart_at hC ?_ | wp_step))
  refine ⟨rfl, ?_⟩
  refine codeAny_call_builtin_at (Code.quiet_builtin _ (by decide +kernel)) entry_typeCall (wpAny_check_type_call_sub hC (type_call_kwe F hT hC hi hb ?_))
  refine codeAny_mono hq fun r s' z => ?_
  rcases r with e | (v | _ | _ | _) <;> exact z

end
end HandSPX
end PySem
namespace L2
open PySem PySem.Spec PyProof.Rows Wx
/-- the part that is known is a part of the heap -/
theorem Inv.whole {X : Cx} {pins : List (Addr × Obj)} {σ : St} {H : Hp} {G h2 : Heap} {g : Array GenState} {d : Drawn} {t : Nat} {os : OsState} (J : Inv X pins σ H ⟨G, g, d, t, os⟩) (k : ∀ b o, G.get? b = some o → h2.get? b = some o) : Inv X pins σ H ⟨h2, g, d, t, os⟩ :=
  Inv.landed (s' := ⟨h2, g, d, t, os⟩) (B := G) J (fun b o e _ => e) k (Heap.UpToSlots.of_keeps k) rfl J.bare
/-- an error class whose errors are made by the name of the field -/
structure ExK (P : Program) (w : World) (K : PySem.W.Frag) (mg : Str → Option Value) (base : Heap) (x : Str) (C : Addr) (f : Str) : Prop where
  oex : OexC K C
  ex : ∃ fI fd, PySem.W.findIn K (.ref C) "__init__" = some (some (.ref fI)) ∧ PySem.W.typeIn K (.ref fI) = some (.type "function") ∧ FnOk P w K mg base (L2.CX P w) 1 fI fd ["self", f] (Is.sp1 C f) ∧ KBn K fd ["self", f] 1 [f] gR gRV
  g : mg x = some (.ref C)
/-- C(f = e).f -/
theorem pe_exKF {X : Cx} {x f : Str} {C : Addr} {e : Expr} {tk : TA} {p pos apos kpos : Pos} (T : ExK X.prog X.w X.K X.mg X.base x C f) (XF : XfC X.K C) (hno : PySem.W.findIn X.K (.ref C) f = some none) (hr : Room 2 X.A) (hx : Passes (L2.CX X.prog X.w) X (fun _ _ _ => False)) (hg : Gl X x)
    (hkw : PK X [⟨some f, e, kpos⟩] tk) (hall : (backToKw pos (keywordEach [⟨some f, e, kpos⟩] X.env)).all (·.1.isSome) = true) (hks : (backToKw pos (keywordEach [⟨some f, e, kpos⟩] X.env)).filterMap (·.1) = [f]) (hdb : (x == ("__debug__" : Str)) = false)
    (hpl : ((backTo pos (starEach [] X.env)).any (·.1) || (backToKw pos (keywordEach [⟨some f, e, kpos⟩] X.env)).any (·.1.isNone)) = false)
    (hat : attributeBase (.Call (.Name x p) [] [⟨some f, e, kpos⟩] pos) f X.env (eval (.Call (.Name x p) [] [⟨some f, e, kpos⟩] pos) X.env) = eval (.Call (.Name x p) [] [⟨some f, e, kpos⟩] pos) X.env) :
    PE X (.Attribute (.Call (.Name x p) [] [⟨some f, e, kpos⟩] pos) f apos) (fun σ H Q => tk σ H fun zs H1 => ∃ v, zs = [v] ∧ ∀ dx, H1 dx = none → Q v (upd H1 dx (.xd [(f, v)]))) := by
  refine ⟨fun pins s σ H Q I h => ?_⟩
  refine attr_of hat ?_
  obtain ⟨fI, fd, iC, tI, F1, hb⟩ := T.ex
  obtain ⟨nm, q, N, bs, bm, sn, sub, ab, col, dd, k0, k1, k2, k3, k5, hC, hbm⟩ := T.oex.cls
  refine wpAny_Call_Name_kw (ld_glob I hg T.g ?_ hdb)
  refine PySem.W.callWith_KW0 (first := []) (h₀ := X.base) I.ok.mod.kin T.oex.kC hall ?_ hpl
  refine thn (hkw.run pos pins s σ H _ I h) fun ws s2 ⟨zs, H1, I1, rz, v, ev, q1⟩ => ⟨I1.kIn, ?_⟩
  subst ev
  rw [hks]
  obtain ⟨u, rfl, ru⟩ := rz.one
  show wpAny _ _ (call (.ref C) [] [(f, u)]) _ _ _
  obtain ⟨hp, g, dr, tk, os⟩ := s2
  have hsz : hp.objs.size ≤ hp.objs.size + 1 := Nat.le_succ _
  have hn : H1 (hp.objs.size + 1) = none := I1.hok.fresh hsz
  have kk : ∀ b o, hp.get? b = some o → ((hp.push (PySem.W.kdv_tup [])).push (PySem.HandSPX.excO C hp.objs.size)).get? b = some o := fun b o e => Heap.get?_push_of_some _ (Heap.get?_push_of_some _ e)
  have hget : ((hp.push (PySem.W.kdv_tup [])).push (PySem.HandSPX.excO C hp.objs.size)).get? (hp.objs.size + 1) = some (PySem.HandSPX.excO C hp.objs.size) := by heap_get
  have I2 : Inv X pins σ (upd H1 (hp.objs.size + 1) (exo (hp.objs.size + 1) C none)) ⟨(hp.push (PySem.W.kdv_tup [])).push (PySem.HandSPX.excO C hp.objs.size), g, dr, tk, os⟩ :=
    I1.laid (t' := tk) (a := hp.objs.size + 1) (o := exo (hp.objs.size + 1) C none) (h' := (hp.push (PySem.W.kdv_tup [])).push (PySem.HandSPX.excO C hp.objs.size)) kk hsz (exo_ok hget)
  refine wpAny_call (PySem.HandSPX.call_kwe F.excBase_ValueError (fun Y => PySem.HandSPX.refsVE_contains Y bm hbm) (I1.kIn _ _ hC) (PySem.W.looks_findIn I1.kIn iC) (fun self => PySem.W.bind_fn I1.kIn self tI)
    (codeAny_mono (F1.run _ X.stack _ _ ⟨[Value.ref (hp.objs.size + 1)], [(f, u)]⟩ [Value.ref (hp.objs.size + 1), u] [V.ref (hp.objs.size + 1), v]
      (fun v' H2 => v' = .non ∧ ∃ dx, H1 dx = none ∧ dx ≠ hp.objs.size + 1 ∧ H2 = upd (upd (upd H1 (hp.objs.size + 1) (exo (hp.objs.size + 1) C none)) dx (exd dx [(f, v)])) (hp.objs.size + 1) (exo (hp.objs.size + 1) C (some dx))) (fun _ _ _ => False)
      (hr.make C [] [(f, u)]) (I2.env0.make C [] [(f, u)]) (hb.to _ [Value.ref (hp.objs.size + 1)] [u] I2.kIn rfl rfl) (.cons rfl (.cons ru .nil)) ⟨_, _, rfl, upd_same, fun dx hd hne => ⟨rfl, dx, (upd_ne hne).symm.trans hd, hne, rfl⟩⟩) fun r s' hq' => ?_))
  cases r with
  | error er => exact hx pins σ _ _ er s' I2 hq'
  | ok fl =>
    cases fl with
    | ret u' =>
      obtain ⟨v', H2, os2, bare2, un2, hok2, rv, ev, dx, hd1, hne, rfl⟩ := hq'
      subst ev
      obtain ⟨h2, g2, d2, t2, os'⟩ := s'
      refine ⟨rv, ?_⟩
      obtain ⟨t0, G, J, kG, ge, hoe, na⟩ := mk_end0 (d2 := d2) (t2 := t2) I1 hsz kk un2 hok2 os2 bare2 upd_same ((upd_ne hne).trans upd_same) hd1
      have eH : upd (del (upd (upd (upd H1 (hp.objs.size + 1) (exo (hp.objs.size + 1) C none)) dx (exd dx [(f, v)])) (hp.objs.size + 1) (exo (hp.objs.size + 1) C (some dx))) (hp.objs.size + 1)) dx (.xd [(f, v)]) = upd H1 dx (.xd [(f, v)]) := by
        funext y
        by_cases h1 : y = dx
        · rw [h1, upd_same, upd_same]
        · rw [upd_ne h1, upd_ne h1]
          by_cases h2 : y = hp.objs.size + 1
          · rw [h2, del_same, hn]
          · rw [del_ne h2, upd_ne h2, upd_ne h1, upd_ne h2]
      rw [eH] at J
      have J2 := J.whole kG
      obtain ⟨mA, hns, hrel⟩ := (show ObjOk X.prog X.w (upd H1 dx (.xd [(f, v)])) h2 dx (.xd [(f, v)]) from J2.hok dx _ upd_same)
      obtain ⟨od, ho, hl⟩ := lookIn_ns hns
      obtain ⟨u2, hu, ru2⟩ := RelO.some_of (v := v) (o := mA f) (by have := hrel f; rwa [lookup_put, if_pos rfl] at this)
      have JI : PySem.W.InstAt h2 (hp.objs.size + 1) _ C (some od) := ⟨hoe, rfl, rfl, ho⟩
      exact PySem.HandSPX.exc_get J2.kIn JI XF.ga XF.gg XF.exC (PySem.W.findObj_own XF.hdC hno rfl (by rw [hl, hu])) (handed_of ru2) ⟨v, _, J2.tok _, ru2, q1 dx hd1⟩
    | next => exact False.elim hq'
    | brk => exact False.elim hq'
    | cont => exact False.elim hq'
end L2
namespace Is
open PySem PySem.Spec PyProof.Rows L2 Wx
open Ir (Tr Cel Mem Ev EK SK EX Con Tg Op Cm I Sm wp wps)
section
variable {X : Cx} {c : Nat → Addr} {n : Nat} {p pos apos kpos : Pos}
theorem pj_exKF {x f : Str} {d : Nat} {e : Expr} {a : I} (T : ExK X.prog X.w X.K X.mg X.base x (c d) f) (XF : XfC X.K (c d)) (hno : PySem.W.findIn X.K (.ref (c d)) f = some none) (cf : Cf X n) (hr : 2 ≤ n) (he : PJ X c e a) (hg : Gl X x := by rfl)
    (hall : (backToKw pos (keywordEach [⟨some f, e, kpos⟩] X.env)).all (·.1.isSome) = true := by rfl) (hks : (backToKw pos (keywordEach [⟨some f, e, kpos⟩] X.env)).filterMap (·.1) = [f] := by rfl) (hdb : (x == ("__debug__" : Str)) = false := by decide)
    (hpl : ((backTo pos (starEach [] X.env)).any (·.1) || (backToKw pos (keywordEach [⟨some f, e, kpos⟩] X.env)).any (·.1.isNone)) = false := by rfl)
    (hat : attributeBase (.Call (.Name x p) [] [⟨some f, e, kpos⟩] pos) f X.env (eval (.Call (.Name x p) [] [⟨some f, e, kpos⟩] pos) X.env) = eval (.Call (.Name x p) [] [⟨some f, e, kpos⟩] pos) X.env := by rfl) :
    PJ X c (.Attribute (.Call (.Name x p) [] [⟨some f, e, kpos⟩] pos) f apos) a := fun ρ μ φ ε h W σ Q Sx k tk => by
  refine WE.of (pe_exKF T XF hno (cf.r.mono hr) (pass_noX rfl rfl) hg pk_w hall hks hdb hpl hat) (wk_cons (he ρ μ φ ε h W σ _ Sx (fun W1 v t μ1 g1 S1 r1 h1 => wk_nil ⟨v, rfl, fun dx hdx => ?_⟩) tk))
  obtain ⟨g2, S2⟩ := S1.fresh (o := .xd [(f, v)]) hdx
  exact k _ v t μ1 (g1.trans g2) S2 (r1.go g2) h1
end
end Is

/-! Zp: clauses that keep a list of two: except C as e: y = [k, e.f]; except C: y = [k, x]. -/
namespace Ir
/-- clauses: the class, the first of the list, the second: a field of the error, or a name's value -/
def hdL (kk : Nat) : List (Nat × Int × (Nat ⊕ Nat)) → Nat → List (Nat × Tr) → Ev → (Tr → Ev → Prop) → Prop
  | [], _, _, _, _ => False
  | (d, z, q) :: r, c, fs, ρ, k => match Nat.beq c d with
    | true => (match q with
      | .inl f => fldK fs f fun x => k (.lst [.int z, x]) (wipe1 ρ kk)
      | .inr j => j ≠ kk ∧ ∃ t, ρ[j]? = some (some t) ∧ (∀ i, t ≠ .ptr i) ∧ k (.lst [.int z, t]) ρ)
    | false => hdL kk r c fs ρ k
def tryL (b : Sm) (i kk : Nat) (cl : List (Nat × Int × (Nat ⊕ Nat))) : Sm := .prim fun nx rt bk ct ε ρ μ => wps b nx rt bk ct (fun t ρ μ => match t with
  | .obj c fs => hdL kk cl c fs ρ fun r ρ => setK ρ i r fun ρ => nx ρ μ
  | _ => False) ρ μ
end Ir
namespace Is
open PySem PySem.Spec PyProof.Rows L2 Wx
open Ir (Tr Cel Mem Ev EK SK EX Con Tg Op Cm I Sm wp wps)
section
variable {X : Cx} {c : Nat → Addr} {n : Nat} {pos : Pos} {y : Str} {i : Nat} {body : List Stmt} {b : Sm}
theorem hdL_mem {kk cc : Nat} {fs : List (Nat × Tr)} {ρ : Ev} {k : Tr → Ev → Prop} : ∀ {hs : List (Nat × Int × (Nat ⊕ Nat))}, Ir.hdL kk hs cc fs ρ k → cc ∈ hs.map (·.1)
  | [], h => h.elim
  | (d, z, q) :: r, h => by
    unfold Ir.hdL at h
    cases e : Nat.beq cc d with
    | true => exact List.mem_cons.mpr (.inl (Nat.eq_of_beq_eq_true e))
    | false => rw [e] at h; exact List.mem_cons_of_mem _ (hdL_mem h)
inductive HdL (X : Cx) (c : Nat → Addr) (y : Str) (ev : Str) : List ExceptHandler → List (Nat × Int × (Nat ⊕ Nat)) → Prop
  | nil : HdL X c y ev [] []
  | fld {x : Str} {d fi : Nat} {z : Int} {np pos' py ps p1 p2 p3 p4 : Pos} {j1 : _} {hds cl} (hN : Names X x (.ref (c d))) (T : XfC X.K (c d)) (hno : PySem.W.findIn X.K (.ref (c d)) (fname fi) = some none) (hinj : ∀ g, fname g = fname fi → g = fi) (r : HdL X c y ev hds cl)
      (hsw : swapsWith (.List [.Constant (.int z) j1 p1, .Attribute (.Name ev p2) (fname fi) p3] p4) (some (.Name y py)) ps.line X.env = pure false := by rfl)
      (hs : starEach [.Constant (.int z) j1 p1, .Attribute (.Name ev p2) (fname fi) p3] X.env = (false, eval (.Constant (.int z) j1 p1) X.env) :: starEach [.Attribute (.Name ev p2) (fname fi) p3] X.env := by rfl)
      (hs2 : starEach [.Attribute (.Name ev p2) (fname fi) p3] X.env = (false, eval (.Attribute (.Name ev p2) (fname fi) p3) X.env) :: starEach [] X.env := by rfl) (hat : attributeBase (.Name ev p2) (fname fi) X.env (eval (.Name ev p2) X.env) = eval (.Name ev p2) X.env := by rfl) :
      HdL X c y ev (.ExceptHandler (some (.Name x np)) (some ev) [.Assign [.Name y py] (.List [.Constant (.int z) j1 p1, .Attribute (.Name ev p2) (fname fi) p3] p4) ps] pos' :: hds) ((d, z, .inl fi) :: cl)
  | var {x w : Str} {d j : Nat} {z : Int} {np pos' py ps p1 p2 p4 : Pos} {j1 : _} {hds cl} (hN : Names X x (.ref (c d))) (hj : X.N[j]? = some w) (hv : Vis X.env.scope w) (hw1 : (w == ("__debug__" : Str)) = false) (hw2 : (w == ("__classdict__" : Str)) = false) (r : HdL X c y ev hds cl)
      (hsw : swapsWith (.List [.Constant (.int z) j1 p1, .Name w p2] p4) (some (.Name y py)) ps.line X.env = pure false := by rfl)
      (hs : starEach [.Constant (.int z) j1 p1, .Name w p2] X.env = (false, eval (.Constant (.int z) j1 p1) X.env) :: starEach [.Name w p2] X.env := by rfl)
      (hs2 : starEach [.Name w p2] X.env = (false, eval (.Name w p2) X.env) :: starEach [] X.env := by rfl) :
      HdL X c y ev (.ExceptHandler (some (.Name x np)) none [.Assign [.Name y py] (.List [.Constant (.int z) j1 p1, .Name w p2] p4) ps] pos' :: hds) ((d, z, .inr j) :: cl)
theorem hdL_ok {ev : Str} {k : Nat} (f : Cf X n) {ds : List Nat} (hm : ∀ cc ∈ ds, ∀ d ∈ ds, PySem.W.exmOne X.K (.ref (c cc)) (.ref (c d)) = some (Nat.beq cc d)) (hi : X.N[i]? = some y) (hk : X.N[k]? = some ev) (hki : k ≠ i)
    (hx : Loc X.env.scope y) (hln : X.env.kindOf ev = some .local) (hfn : X.fn y = true ∨ X.env.scope.names.lookup y = some .local) (hd1 : (ev == ("__debug__" : Str)) = false) (hd2 : (ev == ("__classdict__" : Str)) = false) :
    ∀ {hds : List ExceptHandler} {cl : List (Nat × Int × (Nat ⊕ Nat))}, HdL X c y ev hds cl → (∀ d ∈ cl.map (·.1), d ∈ ds) → ∃ l, HdX X ev hds l ∧ ∀ (D : Ends) (W' : Wd) (σ' : L2.St) (ρ' : Ev) (μ' : Mem) (nx : SK) (cc : Nat) (fs : List (Nat × Tr)) (d' : Option Addr), cc ∈ ds →
      Sa (XB X c) W' σ' ρ' μ' → Rx (XB X c) W' (.ref (c cc)) d' (.obj cc fs) → (∀ W'' σ'' ρ'' , Go W' W'' → Sa (XB X c) W'' σ'' ρ'' μ' → nx ρ'' μ' → D.nx σ'' W''.H) →
      Ir.hdL k cl cc fs ρ' (fun r ρ => Ir.setK ρ i r fun ρ => nx ρ μ') → wClX X.K k D l (.ref (c cc)) d' σ' W'.H := by
  intro hds cl h
  induction h with
  | nil => exact fun _ => ⟨[], .nil, fun _ _ _ _ _ _ _ _ _ _ _ _ _ h => h.elim⟩
  | @fld x d fi z np pos' py ps p1 p2 p3 p4 j1 hds cl hN T hno hinj r hsw hs hs2 hat ih =>
    intro hsub
    obtain ⟨ls, h1, h2⟩ := ih (fun d hd => hsub d (List.mem_cons_of_mem _ hd))
    refine ⟨(true, .ref (c d), fun a cls d' D σ H => ∀ oe pn, Zc cls d' oe → (∃ vs, oe.data = .fields vs) → WSs (X.suite a ((a, oe) :: pn)) [.Assign [.Name y py] (.List [.Constant (.int z) j1 p1, .Attribute (.Name ev p2) (fname fi) p3] p4) ps] D σ H) :: ls,
      .cons (nm := true) hN (fun a oe cls d' pn hz hd => ⟨fun pins s σ H D I h => pss_w.run pins s σ H D I (h oe pn hz hd)⟩) h1, fun D W' σ' ρ' μ' nx cc fs d' hcc S' hfs lk hε => ?_⟩
    unfold Ir.hdL at hε
    refine ⟨Nat.beq cc d, hm cc hcc d (hsub d List.mem_cons_self), fun e a ha => ?_, fun e => ?_⟩
    · rw [e] at hε
      have := Nat.eq_of_beq_eq_true e
      subst this
      show ∀ oe pn, _ → _ → WSs _ _ _ _ _
      intro oe pn hz hd
      refine wss_len fun hlen' => ws_one (WS.of (L2.ps_set (X := X.suite a ((a, oe) :: pn)) f.nd hi hx pe_w hsw hfn) ?_)
      have hkσ : k < σ'.length := by
        have hlen' : (σ'.set k (some (.ref a))).length = X.N.length := hlen'
        rw [List.length_set] at hlen'
        have := (List.getElem?_eq_some_iff.mp hk).1
        omega
      obtain ⟨pre, t, post, e1, hpre, hE⟩ := fldK_at hε
      obtain ⟨_, _, hz1, hz2, hfs2⟩ := hfs
      cases hz1
      cases hz2
      rcases hfs2 with ⟨z0, _⟩ | ⟨dx, fvs, rfl, hdx, hn, hv⟩
      · rw [e1] at z0; exact absurd z0 (by simp)
      rw [e1] at hn hv
      obtain ⟨v, hv1, hv2⟩ := xd_fld (R := Rv (XB X c) W'.H W'.F) (Rs := Rvs (XB X c) W'.H W'.F) (fun h => by cases h with | cons a b => exact ⟨a, b⟩) hinj hpre hn hv
      refine we_lst (X := X.suite a ((a, oe) :: pn)) (wa_cons (X := X.suite a ((a, oe) :: pn)) (we_int (wa_cons (X := X.suite a ((a, oe) :: pn)) (WE.of (pe_xf T hno hz hd (pe_var hk (.inl hln) hd1 hd2) hat) ⟨.ref a, List.getElem?_set_self hkσ, rfl, rfl, dx, fvs, v, rfl, hdx, hv1, wa_nil ⟨by rw [sizeLine_eq]; exact Nat.le_of_ble_eq_true rfl, fun p hp0 => ?_⟩⟩) hs2)) hs)
      obtain ⟨g3, S3⟩ := (S'.wipe k).newF (o := .lst [.int z, v]) hp0
      have e9 : ((σ'.set k (some (.ref a))).set i (some (.ref p))).set k none = (σ'.set k none).set i (some (.ref p)) := by
        rw [List.set_comm _ _ (Ne.symm hki), List.set_set]
      show D.nx (((σ'.set k (some (.ref a))).set i (some (.ref p))).set k none) _
      rw [e9]
      exact lk { W' with G := upd W'.G p (.lst [.int z, v]), F := upd W'.F p (.lst [.int z, v]), H := upd W'.H p (.lst [.int z, v]) } _ _ g3 (S3.set (.inl (.lst upd_same ((Rvs.cons (.int z) (.cons hv2 .nil)).mono g3.t g3.f)))) (setK_at hE)
    · rw [e] at hε
      exact h2 D W' σ' ρ' μ' nx cc fs d' hcc S' hfs lk hε
  | @var x w d j z np pos' py ps p1 p2 p4 j1 hds cl hN hj hv hw1 hw2 r hsw hs hs2 ih =>
    intro hsub
    obtain ⟨ls, h1, h2⟩ := ih (fun d hd => hsub d (List.mem_cons_of_mem _ hd))
    refine ⟨(false, .ref (c d), fun a cls d' D σ H => ∀ oe pn, Zc cls d' oe → (∃ vs, oe.data = .fields vs) → WSs (X.suite a ((a, oe) :: pn)) [.Assign [.Name y py] (.List [.Constant (.int z) j1 p1, .Name w p2] p4) ps] D σ H) :: ls,
      .cons (nm := false) hN (fun a oe cls d' pn hz hd => ⟨fun pins s σ H D I h => pss_w.run pins s σ H D I (h oe pn hz hd)⟩) h1, fun D W' σ' ρ' μ' nx cc fs d' hcc S' hfs lk hε => ?_⟩
    unfold Ir.hdL at hε
    refine ⟨Nat.beq cc d, hm cc hcc d (hsub d List.mem_cons_self), fun e a ha => ?_, fun e => ?_⟩
    · rw [e] at hε
      show ∀ oe pn, _ → _ → WSs _ _ _ _ _
      intro oe pn hz hd
      obtain ⟨_, t, ht, htn, hE⟩ := hε
      obtain ⟨v, hv1, hv2⟩ := S'.env j t ht
      refine wss_len fun hlen' => ws_one (WS.of (L2.ps_set (X := X.suite a ((a, oe) :: pn)) f.nd hi hx pe_w hsw hfn) ?_)
      refine we_lst (X := X.suite a ((a, oe) :: pn)) (wa_cons (X := X.suite a ((a, oe) :: pn)) (we_int (wa_cons (X := X.suite a ((a, oe) :: pn)) (WE.of (pe_var (X := X.suite a ((a, oe) :: pn)) hj hv hw1 hw2) ⟨v, hv1, wa_nil ⟨by rw [sizeLine_eq]; exact Nat.le_of_ble_eq_true rfl, fun p hp0 => ?_⟩⟩) hs2)) hs)
      obtain ⟨g3, S3⟩ := S'.newF (o := .lst [.int z, v]) hp0
      exact lk { W' with G := upd W'.G p (.lst [.int z, v]), F := upd W'.F p (.lst [.int z, v]), H := upd W'.H p (.lst [.int z, v]) } _ _ g3 (S3.set (.inl (.lst upd_same ((Rvs.cons (.int z) (.cons (hv2.rv htn) .nil)).mono g3.t g3.f)))) (setK_at hE)
    · rw [e] at hε
      exact h2 D W' σ' ρ' μ' nx cc fs d' hcc S' hfs lk hε
theorem ps_tryL {ev : Str} {k : Nat} {h₀ : ExceptHandler} {hds : List ExceptHandler} {cl : List (Nat × Int × (Nat ⊕ Nat))} (f : Cf X n) (hm : ∀ cc ∈ cl.map (·.1), ∀ d ∈ cl.map (·.1), PySem.W.exmOne X.K (.ref (c cc)) (.ref (c d)) = some (Nat.beq cc d))
    (hb : ∀ pn xe, PassesOwn (model X.prog X.w) X.A X.env xe → Cf (X.tr pn xe) n → PSs (X.tr pn xe) c body b) (hh : HdL X c y ev (h₀ :: hds) cl) (hi : X.N[i]? = some y) (hk : X.N[k]? = some ev) (hki : k ≠ i)
    (hs : X.stack = X.env :: X.outer := by rfl) (hf : X.env.frame = some X.env.locals := by rfl) (hx : Loc X.env.scope y := by first | exact Or.inl rfl | exact Or.inr rfl) (hln : X.env.kindOf ev = some .local := by rfl)
    (hfn : X.fn y = true ∨ X.env.scope.names.lookup y = some .local := by first | exact .inl rfl | exact .inr rfl) (hd1 : (ev == ("__debug__" : Str)) = false := by decide) (hd2 : (ev == ("__classdict__" : Str)) = false := by decide) :
    PS X c (.Try body (h₀ :: hds) [] [] pos) (Ir.tryL b i k cl) := fun nx rt bk ct ε ρ μ h W σ D Sx lk tk => by
  have h : wps b nx rt bk ct (fun t ρ μ => match t with
    | .obj c fs => Ir.hdL k cl c fs ρ fun r ρ => Ir.setK ρ i r fun ρ => nx ρ μ
    | _ => False) ρ μ := h
  obtain ⟨l, h1, h2⟩ := hdL_ok f hm hi hk hki hx hln hfn hd1 hd2 hh (fun _ h => h)
  refine WS.of (L2.ps_try_mix (i := k) (tb := fun Wz D σ H => ∀ pn xe, Takes (X.tr pn xe) Wz → PassesOwn (model X.prog X.w) X.A X.env xe → WSs (X.tr pn xe) body D σ H) hs hf f.nd hk hln
    (fun Wz pn xe tk' hp => ⟨fun pins s σ H D I h => pss_w.run pins s σ H D I (h pn xe tk' hp)⟩) h1) ?_
  intro pn xe tk' hp
  refine hb pn xe hp ⟨f.calm, f.nd, f.r⟩ _ _ _ _ _ _ _ h W σ D Sx lk (tk'.imp fun cls d' σ' H' hz => ?_)
  obtain ⟨W', ρ', t', μ', rfl, g, S', hr, hε⟩ := hz
  obtain ⟨cc, fs, rfl, rfl, hfs⟩ := id hr
  exact h2 D W' σ' ρ' μ' nx cc fs d' (hdL_mem (show Ir.hdL k cl cc fs ρ' (fun r ρ => Ir.setK ρ i r fun ρ => nx ρ μ') from hε)) S' hr (fun W'' σ'' ρ'' g' S'' hnx => lk.nx W'' σ'' ρ'' μ' (g.trans g') S'' hnx) hε
end
end Is

/-! Zq: isinstance of a caught error; a clause over a base class whose suite lists what it is. -/
namespace L2
open PySem PySem.Spec PyProof.Rows Wx
/-- what isinstance asks of an error's class -/
structure EcK (K : PySem.W.Frag) (C : Addr) : Prop where
  x : XfC K C
  i : (PySem.W.clsIn K C).isSome = true
  cl : PySem.W.findIn K (.ref C) "__class__" = some (some (.builtin "object.__class__"))
  sp : PySem.W.specialIn K (.builtin "object.__class__") "__get__" = some (some (.builtin "getset_descriptor.__get__"))
  tk : PySem.W.takesIn K (.builtin "object.__class__") = some true
  mo : PySem.W.mroIn K C (.type "object") = some true
  ve : PySem.W.kitOne K (.ref C) (.type "ValueError") = some true
theorem kit_exm {K : PySem.W.Frag} {t c : Value} {b : Bool} (h : PySem.W.exmOne K t c = some b) (hb : (t == c) = true → b = true) : PySem.W.kitOne K t c = some b := by
  unfold PySem.W.exmOne at h
  split at h
  · unfold PySem.W.kitOne
    split
    · rename_i h2; rw [hb h2]
    · exact h
  · cases h
/-- the error's fields, as far as they are known -/
def DxE (d' : Option Addr) (H : Hp) : Prop := d' = none ∨ ∃ dd fs, d' = some dd ∧ H dd = some (.xd fs)
theorem DxE.upd {d' : Option Addr} {H : Hp} {p : Addr} {o : HO} (h : DxE d' H) (hp : H p = none) : DxE d' (upd H p o) := by
  rcases h with rfl | ⟨dd, fs, rfl, h⟩
  · exact .inl rfl
  · exact .inr ⟨dd, fs, rfl, (upd_ne (fun e => by rw [e, hp] at h; cases h)).trans h⟩
theorem call_isiE {X : Cx} {a C : Addr} {oe : Obj} {d' : Option Addr} {pn : List (Addr × Obj)} (hz : Zc (.ref C) d' oe) (hd : ∃ vs, oe.data = .fields vs) (E : EcK X.K C) :
    CallR (X.suite a ((a, oe) :: pn)) (.builtin "isinstance") (fun xs H Q => ∃ cv u b, xs = [.ref a, cv] ∧ ClsV cv u ∧ PySem.W.kitOne X.K (.ref C) u = some b ∧ DxE d' H ∧ Q (.bl b) H) := by
  intro pins s σ H xs us Q I r h
  obtain ⟨cv, u, b, rfl, kc, e, dx, q⟩ := h
  obtain ⟨u1, u2, rfl, r1, r2⟩ := vals2 r
  have e2 := kc.eq r2
  subst e2
  obtain rfl : u1 = Value.ref a := r1
  obtain ⟨ha, _⟩ := I.pin (a, oe) (List.mem_append_left _ List.mem_cons_self)
  have no : PySem.W.notCls oe = true := by
    obtain ⟨vs, hd⟩ := hd
    unfold PySem.W.notCls
    rw [hd] <;> rfl
  have J : ∃ od, PySem.W.InstAt s.heap a oe C od := by
    rcases dx with rfl | ⟨dd, fs, rfl, hx⟩
    · exact ⟨none, ha, hz.1, no, by rw [hz.2]; trivial⟩
    · obtain ⟨mA, hns, hr⟩ := (show ObjOk X.prog X.w H s.heap dd (.xd fs) from I.hok dd _ hx)
      obtain ⟨od, ho, _⟩ := lookIn_ns hns
      exact ⟨some od, ha, hz.1, no, by rw [hz.2]; exact ho⟩
  obtain ⟨od, J⟩ := J
  exact PySem.W.kia_one (PySem.W.kitx_exc E.i E.x.ga E.x.gg E.x.exC E.cl E.sp E.tk E.mo) I.kIn J e (fun z => nomatch z) fun tk => ⟨.bl b, H, I.tok tk, rfl, q⟩
end L2
namespace Ir
/-- what isinstance says of an error of the class cc: the class d, or ValueError -/
def isB (cc : Nat) : Option Nat → Bool
  | some d => Nat.beq cc d
  | none => true
def tryK (b : Sm) (i k : Nat) (ds : List Nat) (os : List (Option Nat)) : Sm := .prim fun nx rt bk ct ε ρ μ => wps b nx rt bk ct (fun t ρ μ => match t with
  | .obj cc _ => cc ∈ ds ∧ setK (wipe1 ρ k) i (.lst (os.map fun o => .bl (isB cc o))) fun ρ => nx ρ μ
  | _ => False) ρ μ
end Ir
namespace Is
open PySem PySem.Spec PyProof.Rows L2 Wx
open Ir (Tr Cel Mem Ev EK SK EX Con Tg Op Cm I Sm wp wps isB)
section
variable {X : Cx} {c : Nat → Addr} {n : Nat} {pos : Pos} {y : Str} {i : Nat} {body : List Stmt} {b : Sm}
inductive IsA (X : Cx) (c : Nat → Addr) (ev : Str) : List Expr → List (Option Nat) → Prop
  | nil : IsA X c ev [] []
  | own {x : Str} {p1 p2 p3 p4 : Pos} {d : Nat} {es os} (hm : X.mg x = some (.ref (c d))) (hg : Gl X x) (hd : (x == ("__debug__" : Str)) = false) (r : IsA X c ev es os)
      (hs : starEach (.Call (.Name "isinstance" p1) [.Name ev p2, .Name x p3] [] p4 :: es) X.env = (false, eval (.Call (.Name "isinstance" p1) [.Name ev p2, .Name x p3] [] p4) X.env) :: starEach es X.env := by rfl)
      (hs1 : starEach [.Name ev p2, .Name x p3] X.env = (false, eval (.Name ev p2) X.env) :: starEach [.Name x p3] X.env := by rfl) (hs2 : starEach [.Name x p3] X.env = (false, eval (.Name x p3) X.env) :: starEach [] X.env := by rfl)
      (hpl : (backTo p4 (starEach [.Name x p3] X.env)).any (·.1) = false := by rfl) : IsA X c ev (.Call (.Name "isinstance" p1) [.Name ev p2, .Name x p3] [] p4 :: es) (some d :: os)
  | ve {p1 p2 p3 p4 : Pos} {es os} (hm : X.mg "ValueError" = none) (hg : Gl X "ValueError") (r : IsA X c ev es os)
      (hs : starEach (.Call (.Name "isinstance" p1) [.Name ev p2, .Name "ValueError" p3] [] p4 :: es) X.env = (false, eval (.Call (.Name "isinstance" p1) [.Name ev p2, .Name "ValueError" p3] [] p4) X.env) :: starEach es X.env := by rfl)
      (hs1 : starEach [.Name ev p2, .Name "ValueError" p3] X.env = (false, eval (.Name ev p2) X.env) :: starEach [.Name "ValueError" p3] X.env := by rfl) (hs2 : starEach [.Name "ValueError" p3] X.env = (false, eval (.Name "ValueError" p3) X.env) :: starEach [] X.env := by rfl)
      (hpl : (backTo p4 (starEach [.Name "ValueError" p3] X.env)).any (·.1) = false := by rfl) : IsA X c ev (.Call (.Name "isinstance" p1) [.Name ev p2, .Name "ValueError" p3] [] p4 :: es) (none :: os)
theorem isa_ok {ev : Str} {k : Nat} {a : Addr} {oe : Obj} {d' : Option Addr} {pn : List (Addr × Obj)} {cc : Nat} {ds : List Nat} {σ : L2.St} (hz : Zc (.ref (c cc)) d' oe) (hd : ∃ vs, oe.data = .fields vs) (E : EcK X.K (c cc)) (hk : X.N[k]? = some ev) (hσ : σ[k]? = some (some (.ref a)))
    (hln : X.env.kindOf ev = some .local) (hd1 : (ev == ("__debug__" : Str)) = false) (hd2 : (ev == ("__classdict__" : Str)) = false) (him : X.mg "isinstance" = none) (hgi : Gl X "isinstance") (hkk : ∀ d ∈ ds, PySem.W.kitOne X.K (.ref (c cc)) (.ref (c d)) = some (Nat.beq cc d)) :
    ∀ {es os}, IsA X c ev es os → (∀ d, some d ∈ os → d ∈ ds) → ∀ {H : Hp} {Q : List V → Hp → Prop}, DxE d' H → Q (os.map fun o => V.bl (isB cc o)) H → WA (X.suite a ((a, oe) :: pn)) es σ H Q := by
  intro es os h
  induction h with
  | nil => exact fun _ {H Q} _ q => wa_nil q
  | @own x p1 p2 p3 p4 d es os hm hg hdx r hs hs1 hs2 hpl ih =>
    intro hsub H Q hD q
    refine wa_cons (X := X.suite a ((a, oe) :: pn)) (we_isi (X := X.suite a ((a, oe) :: pn)) him (wa_cons (X := X.suite a ((a, oe) :: pn)) (WE.of (pe_var (X := X.suite a ((a, oe) :: pn)) hk (.inl hln) hd1 hd2) ⟨.ref a, hσ,
      wa_cons (X := X.suite a ((a, oe) :: pn)) (we_glob (X := X.suite a ((a, oe) :: pn)) (v := .ref (c d)) hg hm rfl (wa_nil (WC.of (call_isiE hz hd E) ⟨.ref (c d), .ref (c d), _, rfl, .own _, hkk d (hsub d List.mem_cons_self), hD, ?_⟩)) hdx) hs2⟩) hs1) hgi hs1 hpl) hs
    exact ih (fun d hd => hsub d (List.mem_cons_of_mem _ hd)) hD q
  | @ve p1 p2 p3 p4 es os hm hg r hs hs1 hs2 hpl ih =>
    intro hsub H Q hD q
    refine wa_cons (X := X.suite a ((a, oe) :: pn)) (we_isi (X := X.suite a ((a, oe) :: pn)) him (wa_cons (X := X.suite a ((a, oe) :: pn)) (WE.of (pe_var (X := X.suite a ((a, oe) :: pn)) hk (.inl hln) hd1 hd2) ⟨.ref a, hσ,
      wa_cons (X := X.suite a ((a, oe) :: pn)) (WE.of (pe_bltn (X := X.suite a ((a, oe) :: pn)) (v := .ty "ValueError") hg hm PyProof.Rows.Boot.«ValueError» rfl) (wa_nil (WC.of (call_isiE hz hd E) ⟨.ty "ValueError", .type "ValueError", _, rfl, .ty _, E.ve, hD, ?_⟩))) hs2⟩) hs1) hgi hs1 hpl) hs
    exact ih (fun d hd => hsub d (List.mem_cons_of_mem _ hd)) hD q
theorem rvs_bl {B : Bs} {H F : Hp} : ∀ (bs : List Bool), Rvs B H F (bs.map V.bl) (bs.map Tr.bl)
  | [] => .nil
  | b :: r => .cons (.bl b) (rvs_bl r)
theorem ps_tryK {x ev : Str} {k dP : Nat} {ds : List Nat} {os1 os2 os3 os4 os : List (Option Nat)} {es1 es2 es3 es4 : List Expr} {np pos' q1 s1 q2 r2 b2 l2 s2 q3 r3 b3 l3 s3 q4 r4 b4 l4 s4 : Pos} {l1 : Pos} (f : Cf X n) (hos : os1 ++ os2 ++ os3 ++ os4 = os)
    (hP : ∀ cc ∈ ds, PySem.W.exmOne X.K (.ref (c cc)) (.ref (c dP)) = some true) (hE : ∀ cc ∈ ds, EcK X.K (c cc)) (hkk : ∀ cc ∈ ds, ∀ d ∈ ds, PySem.W.kitOne X.K (.ref (c cc)) (.ref (c d)) = some (Nat.beq cc d)) (him : X.mg "isinstance" = none) (hN : Names X x (.ref (c dP)))
    (hb : ∀ pn xe, PassesOwn (model X.prog X.w) X.A X.env xe → Cf (X.tr pn xe) n → PSs (X.tr pn xe) c body b) (h1 : IsA X c ev es1 os1) (h2 : IsA X c ev es2 os2) (h3 : IsA X c ev es3 os3) (h4 : IsA X c ev es4 os4) (hB : (os.all fun o => match o with | some d => decide (d ∈ ds) | none => true) = true) (hi : X.N[i]? = some y) (hk : X.N[k]? = some ev) (hki : k ≠ i) (hlen : os.length < 60)
    (hs : X.stack = X.env :: X.outer := by rfl) (hf : X.env.frame = some X.env.locals := by rfl) (hgi : Gl X "isinstance" := by rfl) (hx : Loc X.env.scope y := by first | exact Or.inl rfl | exact Or.inr rfl) (hv : Vis X.env.scope y := by first | exact Or.inl rfl | exact Or.inr (Or.inl rfl)) (hln : X.env.kindOf ev = some .local := by rfl)
    (hfn : X.fn y = true ∨ X.env.scope.names.lookup y = some .local := by first | exact .inl rfl | exact .inr rfl) (hd1 : (ev == ("__debug__" : Str)) = false := by decide) (hd2 : (ev == ("__classdict__" : Str)) = false := by decide) (hy1 : (y == ("__debug__" : Str)) = false := by decide) (hy2 : (y == ("__classdict__" : Str)) = false := by decide)
    (w1 : swapsWith (.List es1 l1) (some (.Name y q1)) s1.line X.env = pure false := by rfl) (w2 : swapsWith (.BinOp (.Name y r2) .Add (.List es2 l2) b2) (some (.Name y q2)) s2.line X.env = pure false := by rfl) (w3 : swapsWith (.BinOp (.Name y r3) .Add (.List es3 l3) b3) (some (.Name y q3)) s3.line X.env = pure false := by rfl) (w4 : swapsWith (.BinOp (.Name y r4) .Add (.List es4 l4) b4) (some (.Name y q4)) s4.line X.env = pure false := by rfl) :
    PS X c (.Try body [.ExceptHandler (some (.Name x np)) (some ev) [.Assign [.Name y q1] (.List es1 l1) s1, .Assign [.Name y q2] (.BinOp (.Name y r2) .Add (.List es2 l2) b2) s2, .Assign [.Name y q3] (.BinOp (.Name y r3) .Add (.List es3 l3) b3) s3, .Assign [.Name y q4] (.BinOp (.Name y r4) .Add (.List es4 l4) b4) s4] pos'] [] [] pos) (Ir.tryK b i k ds os) := fun nx rt bk ct ε ρ μ h W σ D Sx lk tk => by
  have h : wps b nx rt bk ct (fun t ρ μ => match t with
    | .obj cc _ => cc ∈ ds ∧ Ir.setK (Ir.wipe1 ρ k) i (.lst (os.map fun o => .bl (isB cc o))) fun ρ => nx ρ μ
    | _ => False) ρ μ := h
  refine WS.of (L2.ps_try_mix (i := k) (l := [(true, .ref (c dP), fun a cls d' D σ H => ∀ oe pn, Zc cls d' oe → (∃ vs, oe.data = .fields vs) → WSs (X.suite a ((a, oe) :: pn)) [.Assign [.Name y q1] (.List es1 l1) s1, .Assign [.Name y q2] (.BinOp (.Name y r2) .Add (.List es2 l2) b2) s2, .Assign [.Name y q3] (.BinOp (.Name y r3) .Add (.List es3 l3) b3) s3, .Assign [.Name y q4] (.BinOp (.Name y r4) .Add (.List es4 l4) b4) s4] D σ H)])
    (tb := fun Wz D σ H => ∀ pn xe, Takes (X.tr pn xe) Wz → PassesOwn (model X.prog X.w) X.A X.env xe → WSs (X.tr pn xe) body D σ H) hs hf f.nd hk hln
    (fun Wz pn xe tk' hp => ⟨fun pins s σ H D I h => pss_w.run pins s σ H D I (h pn xe tk' hp)⟩) (.cons (nm := true) hN (fun a oe cls d' pn hz hd => ⟨fun pins s σ H D I h => pss_w.run pins s σ H D I (h oe pn hz hd)⟩) .nil)) ?_
  have hsub : ∀ d, some d ∈ os → d ∈ ds := fun d hd => of_decide_eq_true (List.all_eq_true.mp hB (some d) hd)
  intro pn xe tk' hp
  refine hb pn xe hp ⟨f.calm, f.nd, f.r⟩ _ _ _ _ _ _ _ h W σ D Sx lk (tk'.imp fun cls d' σ' H' hz => ?_)
  obtain ⟨W', ρ', t', μ', rfl, g, S', hr, hε⟩ := hz
  obtain ⟨cc, fs, rfl, rfl, hfs⟩ := id hr
  obtain ⟨hcc, hε⟩ := (show cc ∈ ds ∧ Ir.setK (Ir.wipe1 ρ' k) i (.lst (os.map fun o => .bl (isB cc o))) fun ρ => nx ρ μ' from hε)
  refine ⟨true, hP cc hcc, fun _ a ha => ?_, fun e => nomatch e⟩
  show ∀ oe pn, _ → _ → WSs _ _ _ _ _
  intro oe pn hz hd
  have hD : DxE d' W'.H := by
    rcases hfs with ⟨_, rfl⟩ | ⟨dx, fvs, rfl, hdx, _⟩
    · exact .inl rfl
    · exact .inr ⟨dx, fvs, rfl, hdx⟩
  subst hos
  have sub1 : ∀ d, some d ∈ os1 → d ∈ ds := fun d hd => hsub d (List.mem_append_left _ (List.mem_append_left _ (List.mem_append_left _ hd)))
  have sub2 : ∀ d, some d ∈ os2 → d ∈ ds := fun d hd => hsub d (List.mem_append_left _ (List.mem_append_left _ (List.mem_append_right _ hd)))
  have sub3 : ∀ d, some d ∈ os3 → d ∈ ds := fun d hd => hsub d (List.mem_append_left _ (List.mem_append_right _ hd))
  have sub4 : ∀ d, some d ∈ os4 → d ∈ ds := fun d hd => hsub d (List.mem_append_right _ hd)
  rw [List.length_append, List.length_append, List.length_append] at hlen
  refine wss_len fun hlen' => ?_
  have hlen' : (σ'.set k (some (.ref a))).length = X.N.length := hlen'
  rw [List.length_set] at hlen'
  have hkσ : k < σ'.length := by
    have := (List.getElem?_eq_some_iff.mp hk).1
    omega
  have hiσ : i < σ'.length := by
    have := (List.getElem?_eq_some_iff.mp hi).1
    omega
  have k0 : (σ'.set k (some (V.ref a)))[k]? = some (some (V.ref a)) := List.getElem?_set_self hkσ
  have kI : ∀ (σ : L2.St) (u : Option V), σ[k]? = some (some (V.ref a)) → (σ.set i u)[k]? = some (some (V.ref a)) := fun σ u e => (List.getElem?_set_ne (Ne.symm hki)).trans e
  have sz : ∀ m : Nat, m < 100 → m ≤ sizeLine := fun m hm => by rw [sizeLine_eq]; omega
  refine ws_cons (WS.of (L2.ps_set (X := X.suite a ((a, oe) :: pn)) f.nd hi hx pe_w w1 hfn) ?_)
  refine we_lst (X := X.suite a ((a, oe) :: pn)) (isa_ok hz hd (hE cc hcc) hk k0 hln hd1 hd2 him hgi (hkk cc hcc) h1 sub1 hD ⟨sz _ (by rw [List.length_map]; omega), fun p1 hp1 => ?_⟩)
  refine ws_cons (WS.of (L2.ps_set (X := X.suite a ((a, oe) :: pn)) f.nd hi hx pe_w w2 hfn) ?_)
  refine we_op (X := X.suite a ((a, oe) :: pn)) (WE.of (pe_var (X := X.suite a ((a, oe) :: pn)) hi hv hy1 hy2) ⟨.ref p1, List.getElem?_set_self (by rw [List.length_set]; exact hiσ), ?_⟩)
  refine we_lst (X := X.suite a ((a, oe) :: pn)) (isa_ok hz hd (hE cc hcc) hk (kI _ _ k0) hln hd1 hd2 him hgi (hkk cc hcc) h2 sub2 (hD.upd hp1) ⟨sz _ (by rw [List.length_map]; omega), fun p2 hp2 => ?_⟩)
  have n12 : p1 ≠ p2 := fun e => by rw [← e, upd_same] at hp2; cases hp2
  refine WO.of op_catR ⟨p1, p2, _, _, rfl, rfl, .of ((upd_ne n12).trans upd_same), .of upd_same, sz _ (by rw [List.length_map, List.length_map]; omega), fun p3 hp3 => ?_⟩
  refine ws_cons (WS.of (L2.ps_set (X := X.suite a ((a, oe) :: pn)) f.nd hi hx pe_w w3 hfn) ?_)
  refine we_op (X := X.suite a ((a, oe) :: pn)) (WE.of (pe_var (X := X.suite a ((a, oe) :: pn)) hi hv hy1 hy2) ⟨.ref p3, List.getElem?_set_self (by rw [List.length_set, List.length_set]; exact hiσ), ?_⟩)
  refine we_lst (X := X.suite a ((a, oe) :: pn)) (isa_ok hz hd (hE cc hcc) hk (kI _ _ (kI _ _ k0)) hln hd1 hd2 him hgi (hkk cc hcc) h3 sub3 (((hD.upd hp1).upd hp2).upd hp3) ⟨sz _ (by rw [List.length_map]; omega), fun p4 hp4 => ?_⟩)
  have n34 : p3 ≠ p4 := fun e => by rw [← e, upd_same] at hp4; cases hp4
  refine WO.of op_catR ⟨p3, p4, _, _, rfl, rfl, .of ((upd_ne n34).trans upd_same), .of upd_same, sz _ (by rw [List.length_append, List.length_map, List.length_map, List.length_map]; omega), fun p5 hp5 => ?_⟩
  refine ws_one (WS.of (L2.ps_set (X := X.suite a ((a, oe) :: pn)) f.nd hi hx pe_w w4 hfn) ?_)
  refine we_op (X := X.suite a ((a, oe) :: pn)) (WE.of (pe_var (X := X.suite a ((a, oe) :: pn)) hi hv hy1 hy2) ⟨.ref p5, List.getElem?_set_self (by rw [List.length_set, List.length_set, List.length_set]; exact hiσ), ?_⟩)
  refine we_lst (X := X.suite a ((a, oe) :: pn)) (isa_ok hz hd (hE cc hcc) hk (kI _ _ (kI _ _ (kI _ _ k0))) hln hd1 hd2 him hgi (hkk cc hcc) h4 sub4 (((((hD.upd hp1).upd hp2).upd hp3).upd hp4).upd hp5) ⟨sz _ (by rw [List.length_map]; omega), fun p6 hp6 => ?_⟩)
  have n56 : p5 ≠ p6 := fun e => by rw [← e, upd_same] at hp6; cases hp6
  refine WO.of op_catR ⟨p5, p6, _, _, rfl, rfl, .of ((upd_ne n56).trans upd_same), .of upd_same, sz _ (by rw [List.length_append, List.length_append, List.length_map, List.length_map, List.length_map, List.length_map]; omega), fun p7 hp7 => ?_⟩
  obtain ⟨g1, S1⟩ := (S'.wipe k).fresh (o := .lst (os1.map fun o => V.bl (isB cc o))) hp1
  obtain ⟨g2, S2⟩ := S1.fresh (o := .lst (os2.map fun o => V.bl (isB cc o))) hp2
  obtain ⟨g3, S3⟩ := S2.fresh (o := .lst ((os1.map fun o => V.bl (isB cc o)) ++ (os2.map fun o => V.bl (isB cc o)))) hp3
  obtain ⟨g4, S4⟩ := S3.fresh (o := .lst (os3.map fun o => V.bl (isB cc o))) hp4
  obtain ⟨g5, S5⟩ := S4.fresh (o := .lst ((os1.map fun o => V.bl (isB cc o)) ++ (os2.map fun o => V.bl (isB cc o)) ++ (os3.map fun o => V.bl (isB cc o)))) hp5
  obtain ⟨g6, S6⟩ := S5.fresh (o := .lst (os4.map fun o => V.bl (isB cc o))) hp6
  obtain ⟨g7, S7⟩ := S6.newF (o := .lst ((os1.map fun o => V.bl (isB cc o)) ++ (os2.map fun o => V.bl (isB cc o)) ++ (os3.map fun o => V.bl (isB cc o)) ++ (os4.map fun o => V.bl (isB cc o)))) hp7
  show D.nx ((((((σ'.set k (some (.ref a))).set i (some (.ref p1))).set i (some (.ref p3))).set i (some (.ref p5))).set i (some (.ref p7))).set k none) _
  have e9 : (((((σ'.set k (some (.ref a))).set i (some (.ref p1))).set i (some (.ref p3))).set i (some (.ref p5))).set i (some (.ref p7))).set k none = (σ'.set k none).set i (some (V.ref p7)) := by
    rw [List.set_set, List.set_set, List.set_set, List.set_comm _ _ (Ne.symm hki), List.set_set]
  rw [e9]
  have rv : ∀ H F, Rvs (XB X c) H F ((os1.map fun o => V.bl (isB cc o)) ++ (os2.map fun o => V.bl (isB cc o)) ++ (os3.map fun o => V.bl (isB cc o)) ++ (os4.map fun o => V.bl (isB cc o))) ((os1 ++ os2 ++ os3 ++ os4).map fun o => Tr.bl (isB cc o)) := fun H F => by
    have rv := rvs_bl (B := XB X c) ((os1 ++ os2 ++ os3 ++ os4).map (isB cc)) (H := H) (F := F)
    simp only [List.map_append, List.map_map] at rv ⊢
    exact rv
  exact lk.nx _ _ _ μ' (((((((g.trans g1).trans g2).trans g3).trans g4).trans g5).trans g6).trans g7) (S7.set (t := .lst ((os1 ++ os2 ++ os3 ++ os4).map fun o => .bl (isB cc o))) (.inl (.lst upd_same (rv _ _)))) (setK_at hε)
end
end Is

/-! Zr: powers of constants; facts of error classes. -/
namespace L2
open PySem PySem.Spec PyProof.Rows Wx
theorem kk_of {K : PySem.W.Frag} {c : Nat → Addr} {ds : List Nat} (h : ∀ cc ∈ ds, ∀ d ∈ ds, PySem.W.exmOne K (.ref (c cc)) (.ref (c d)) = some (Nat.beq cc d)) : ∀ cc ∈ ds, ∀ d ∈ ds, PySem.W.kitOne K (.ref (c cc)) (.ref (c d)) = some (Nat.beq cc d) := fun cc hc d hd =>
  kit_exm (h cc hc d hd) fun e => by
    have e2 : Value.ref (c cc) = Value.ref (c d) := eq_of_beq e
    have h1 := h cc hc d hd
    have h2 := h d hd d hd
    rw [e2, h2] at h1
    have h3 := Option.some.inj h1
    rw [← h3]
    exact Nat.beq_refl d
theorem kit_ve {K : PySem.W.Frag} {C : Addr} (h : PySem.W.subIn K (.ref C) (.type "ValueError") = some true) : PySem.W.kitOne K (.ref C) (.type "ValueError") = some true := by
  unfold PySem.W.kitOne PySem.W.kitCls
  have h1 : (Value.ref C == Value.type "ValueError") = false := rfl
  have h2 : PySem.W.kitMeta "ValueError" = true := by decide +kernel
  rw [if_neg (by rw [h1]; exact Bool.false_ne_true)]
  show (if PySem.W.kitMeta "ValueError" = true then PySem.W.subIn K (.ref C) (.type "ValueError") else none) = some true
  rw [if_pos h2, h]
end L2
namespace Is
open PySem PySem.Spec PyProof.Rows L2 Wx
open Ir (Tr Cel Mem Ev EK SK EX Con Tg Op Cm I Sm wp wps)
theorem pj_powC {X : Cx} {c : Nat → Addr} {a k v : Int} {j1 j2 : _} {p1 p2 pos : Pos} (hc : CPow a k) (hv : a ^ k.toNat = v) : PJ X c (.BinOp (.Constant (.int a) j1 p1) .Pow (.Constant (.int k) j2 p2) pos) (.c (.int v)) := fun ρ μ φ ε h W σ Q Sx kk tk => by
  subst hv
  exact we_op (we_int (we_int (wo_pow hc (kk W _ _ μ Go.refl Sx (.inl (.int _)) h))))
end Is

namespace G
open Ir
/-! Cb: machines: promises, texts. -/
def nP : Tr → Bool
  | .ptr _ => false
  | _ => true
theorem noP_of : ∀ {xs : List Tr} {P : Prop}, xs.all nP = true → P → noP xs P
  | [], P, _, h => by unfold noP; exact h
  | x :: xs, P, hx, h => by
    rw [List.all_cons, Bool.and_eq_true] at hx
    have ih := noP_of (xs := xs) hx.2 h
    unfold noP
    cases x <;> first | exact ih | exact absurd hx.1 Bool.false_ne_true
theorem renum_np : ∀ {xs : List Tr} {n : Nat} {k : List Tr → List Nat → Prop}, xs.all nP = true → k xs [] → renum xs n k
  | [], _, _, _, h => h
  | x :: xs, n, k, hx, h => by
    rw [List.all_cons, Bool.and_eq_true] at hx
    have ih := renum_np (xs := xs) (n := n) (k := fun us is => k (x :: us) is) hx.2 h
    cases x <;> first | exact ih | exact absurd hx.1 Bool.false_ne_true
/-- a call without cells -/
theorem callP {c : Con} {xs : List Tr} {μ : Mem} {φ ε : EK} (hx : xs.all nP = true) (h : ∀ φ' ε' : EK, (∀ t, nP t = true → φ t μ → φ' t []) → (∀ t, nP t = true → ε t μ → ε' t []) → c xs [] φ' ε') : callK c xs μ φ ε := by
  unfold callK
  refine renum_np hx ?_
  refine h _ _ (fun t ht q => ?_) (fun t ht q => ?_)
  · cases t <;> first | exact q | exact absurd ht Bool.false_ne_true
  · cases t <;> first | exact q | exact absurd ht Bool.false_ne_true
end G

/-! Cc: dicts by their entries; orders; the cheapest arrows. -/
namespace G
open Ir (Tr eqT getT putT)
section
variable {κ α : Type} [DecidableEq κ]
def putD (kvs : List (κ × α)) (k : κ) (v : α) : List (κ × α) := if k ∈ kvs.map Prod.fst then kvs.map (fun p => if p.1 = k then (p.1, v) else p) else kvs ++ [(k, v)]
def valD : List (κ × α) → κ → Option α
  | [], _ => none
  | (a, v) :: r, k => if a = k then some v else valD r k
theorem valD_cons (a k : κ) (v : α) (r : List (κ × α)) : valD ((a, v) :: r) k = if a = k then some v else valD r k := rfl
def dE (e : κ → Tr) (g : α → Tr) (kvs : List (κ × α)) : List (Tr × Tr) := kvs.map fun p => (e p.1, g p.2)
variable {e : κ → Tr} {g : α → Tr} (he : ∀ a b, eqT (e a) (e b) = decide (a = b))
include he
end
section
variable {κ α : Type} [DecidableEq κ]
theorem keys_putD (kvs : List (κ × α)) (k : κ) (v : α) : (putD kvs k v).map Prod.fst = if k ∈ kvs.map Prod.fst then kvs.map Prod.fst else kvs.map Prod.fst ++ [k] := by
  unfold putD
  split
  · rw [List.map_map]
    refine List.map_congr_left fun p _ => ?_
    show (if p.1 = k then (p.1, v) else p).1 = p.1
    split <;> rfl
  · rw [List.map_append]; rfl
theorem putD_nodup {kvs : List (κ × α)} (k : κ) (v : α) (h : (kvs.map Prod.fst).Nodup) : ((putD kvs k v).map Prod.fst).Nodup := by
  rw [keys_putD]
  split
  · exact h
  · rename_i hk
    rw [List.nodup_append]
    exact ⟨h, by simp, fun x hx y hy e => hk (by
      have : y = k := by simpa using hy
      rw [← this, ← e]; exact hx)⟩
theorem putD_mem {kvs : List (κ × α)} {k j : κ} {v : α} : j ∈ (putD kvs k v).map Prod.fst ↔ j ∈ kvs.map Prod.fst ∨ j = k := by
  rw [keys_putD]
  split
  · rename_i hk
    exact ⟨.inl, fun h => h.elim id fun e => by rw [e]; exact hk⟩
  · rw [List.mem_append, List.mem_singleton]
theorem valD_none {kvs : List (κ × α)} {k : κ} : valD kvs k = none ↔ k ∉ kvs.map Prod.fst := by
  induction kvs with
  | nil => simp [valD]
  | cons p r ih =>
    obtain ⟨a, v⟩ := p
    simp only [valD_cons]
    by_cases h : a = k
    · rw [if_pos h]; simp [h]
    · rw [if_neg h, ih]
      simp [Ne.symm h]
theorem mem_valD {kvs : List (κ × α)} {k : κ} {v : α} (nd : (kvs.map Prod.fst).Nodup) (h : (k, v) ∈ kvs) : valD kvs k = some v := by
  induction kvs with
  | nil => cases h
  | cons p r ih =>
    obtain ⟨a, w⟩ := p
    rw [List.map_cons, List.nodup_cons] at nd
    simp only [valD_cons]
    rcases List.mem_cons.mp h with h | h
    · cases h; rw [if_pos rfl]
    · rw [if_neg fun e => nd.1 (by
        show a ∈ _
        rw [e]; exact List.mem_map.mpr ⟨_, h, rfl⟩)]
      exact ih nd.2 h
theorem valD_append {l m : List (κ × α)} {k : κ} : valD (l ++ m) k = (valD l k).or (valD m k) := by
  induction l with
  | nil => rfl
  | cons p r ih =>
    obtain ⟨a, w⟩ := p
    rw [List.cons_append]
    simp only [valD_cons]
    split
    · rfl
    · exact ih
theorem valD_put (kvs : List (κ × α)) (k j : κ) (v : α) : valD (putD kvs k v) j = if j = k then some v else valD kvs j := by
  unfold putD
  split
  · rename_i hk
    induction kvs with
    | nil => cases hk
    | cons p r ih =>
      obtain ⟨a, w⟩ := p
      rw [List.map_cons]
      by_cases ha : a = k
      · subst ha
        rw [if_pos rfl]
        simp only [valD_cons]
        by_cases hj : a = j
        · subst hj; rw [if_pos rfl, if_pos rfl]
        · rw [if_neg hj, if_neg (Ne.symm hj), if_neg hj]
          by_cases hr : a ∈ r.map Prod.fst
          · rw [ih hr, if_neg (Ne.symm hj)]
          · have : r.map (fun p => if p.1 = a then (p.1, v) else p) = r := by
              refine (List.map_congr_left fun p hp => ?_).trans (List.map_id r)
              rw [if_neg fun e => hr (List.mem_map.mpr ⟨p, hp, e⟩)]; rfl
            rw [this]
      · rw [if_neg ha]
        have hr : k ∈ r.map Prod.fst := by
          rcases List.mem_cons.mp hk with h | h
          · exact absurd h.symm ha
          · exact h
        simp only [valD_cons]
        rw [ih hr]
        by_cases hj : a = j
        · subst hj; rw [if_pos rfl, if_pos rfl, if_neg ha]
        · rw [if_neg hj, if_neg hj]
  · rename_i hk
    rw [valD_append]
    by_cases hj : j = k
    · subst hj
      rw [valD_none.mpr hk, if_pos rfl]
      simp [valD]
    · rw [if_neg hj]
      simp [valD, Ne.symm hj]
theorem putD_len (kvs : List (κ × α)) (k : κ) (v : α) : (putD kvs k v).length ≤ kvs.length + 1 := by
  unfold putD
  split
  · rw [List.length_map]; omega
  · simp
end
/-! ### two lists with the same items -/
/-! ### pairs in order -/
def ltP {α β : Type} [DecidableEq α] (l1 : α → α → Bool) (l2 : β → β → Bool) (a b : α × β) : Bool := l1 a.1 b.1 || (decide (a.1 = b.1) && l2 a.2 b.2)
theorem ordP {α β : Type} [DecidableEq α] [DecidableEq β] {l1 : α → α → Bool} {l2 : β → β → Bool} (o1 : Ord l1) (o2 : Ord l2) : Ord (ltP l1 l2) := by
  refine ⟨fun a => by simp [ltP, o1.ir, o2.ir], fun a b c h1 h2 => ?_, fun a b h1 h2 => ?_⟩
  · simp only [ltP, Bool.or_eq_true, Bool.and_eq_true, decide_eq_true_eq] at *
    rcases h1 with h1 | ⟨e1, h1⟩
    · rcases h2 with h2 | ⟨e2, h2⟩
      · exact .inl (o1.tr _ _ _ h1 h2)
      · exact .inl (e2 ▸ h1)
    · rcases h2 with h2 | ⟨e2, h2⟩
      · exact .inl (e1 ▸ h2)
      · exact .inr ⟨e1.trans e2, o2.tr _ _ _ h1 h2⟩
  · simp only [ltP, Bool.or_eq_false_iff] at h1 h2
    have e : a.1 = b.1 := o1.to _ _ h1.1 h2.1
    have h3 := h1.2
    have h4 := h2.2
    rw [decide_eq_true e, Bool.true_and] at h3
    rw [decide_eq_true e.symm, Bool.true_and] at h4
    exact Prod.ext e (o2.to _ _ h3 h4)
/-! ### arrows by their keys -/
abbrev K3 := List Nat × List Nat × List Nat
def k3 (x : Ar) : K3 := (x.s, x.l, x.a)
def lt3 : K3 → K3 → Bool := ltP ltN (ltP ltN ltN)
theorem ord3 : Ord lt3 := ordP ordN (ordP ordN ordN)
def leastP (as : List Ar) (k : K3) : Int := Ir.lmin ((as.filter fun y => decide (k3 y = k)).map Ar.p)
def chp (as : List Ar) : List Ar := (srtU lt3 (as.map k3)).map fun k => ⟨k.1, k.2.1, k.2.2, leastP as k⟩
end G

namespace G
open Ir
/-! Cd: each_once, cheapest. -/
/-- names put into a dict -/
theorem putAll_names {α : Type} (v : α) : ∀ (ns : List (List Nat)) (D : List (List Nat × α)), (D.map Prod.fst).Nodup → ((ns.foldl (fun D x => putD D x v) D).map Prod.fst).Nodup ∧ ∀ x, x ∈ (ns.foldl (fun D x => putD D x v) D).map Prod.fst ↔ x ∈ D.map Prod.fst ∨ x ∈ ns
  | [], D, h => ⟨h, fun x => by simp⟩
  | n :: ns, D, h => by
    obtain ⟨h1, h2⟩ := putAll_names v ns (putD D n v) (putD_nodup n v h)
    refine ⟨h1, fun x => ?_⟩
    rw [List.foldl_cons, h2, putD_mem, List.mem_cons]
    constructor
    · rintro ((h | h) | h) <;> simp [h]
    · rintro (h | h | h) <;> simp [h]
/-! ### the cheapest arrows -/
structure ChI (D : List (K3 × Int)) (as : List Ar) : Prop where
  nd : (D.map Prod.fst).Nodup
  mn : ∀ k, IsMin (fun c => ∃ y ∈ as, k3 y = k ∧ y.p = c) (valD D k)
  ln : D.length ≤ as.length
theorem ChI.nil : ChI [] [] := ⟨List.nodup_nil, (fun k c ⟨y, hy, _⟩ => nomatch hy), Nat.le_refl _⟩
theorem ChI.snoc {D as} (h : ChI D as) (x : Ar) (hx : x.p ≤ 99) (ha : ∀ y ∈ as, y.p ≤ 99) : ChI (putD D (k3 x) (min x.p ((valD D (k3 x)).getD 99))) (as ++ [x]) := by
  refine ⟨putD_nodup _ _ h.nd, fun k => ?_, by rw [List.length_append]; have := putD_len D (k3 x) (min x.p ((valD D (k3 x)).getD 99)); have := h.ln; simp; omega⟩
  rw [valD_put]
  have hm := h.mn k
  by_cases hk : k = k3 x
  · subst hk
    rw [if_pos rfl]
    cases e : valD D (k3 x) with
    | none =>
      rw [e] at hm
      have hmin : min x.p ((none : Option Int).getD 99) = x.p := by simp; omega
      rw [hmin]
      refine ⟨⟨x, by simp, rfl, rfl⟩, fun d ⟨y, hy, ey, ed⟩ => ?_⟩
      rcases List.mem_append.mp hy with hy | hy
      · exact absurd ⟨y, hy, ey, ed⟩ (hm d)
      · cases List.mem_singleton.mp hy; omega
    | some c =>
      rw [e] at hm
      obtain ⟨⟨y, hy, ey, ec⟩, hle⟩ := hm
      show IsMin _ (some (min x.p c))
      refine ⟨?_, fun d ⟨z, hz, ez, ed⟩ => ?_⟩
      · by_cases hc : x.p ≤ c
        · exact ⟨x, by simp, rfl, by omega⟩
        · exact ⟨y, by simp [hy], ey, by omega⟩
      · rcases List.mem_append.mp hz with hz | hz
        · have := hle d ⟨z, hz, ez, ed⟩; omega
        · cases List.mem_singleton.mp hz; omega
  · rw [if_neg hk]
    refine IsMin.congr (fun c => ?_) hm
    constructor
    · rintro ⟨y, hy, e⟩; exact ⟨y, by simp [hy], e⟩
    · rintro ⟨y, hy, e1, e2⟩
      rcases List.mem_append.mp hy with hy | hy
      · exact ⟨y, hy, e1, e2⟩
      · cases List.mem_singleton.mp hy; exact absurd e1.symm hk
end G

namespace G
open Ir
/-! Ce: Machine. -/
/-- arrows by state and letter -/
def wK (x : Ar) : Tr := .tup [.str x.s, .str x.l]
def wV (x : Ar) : Tr := .tup [.str x.a, .int x.p]
def ways (as : List Ar) : List (Tr × List Tr) := as.foldl (fun w x => addW w (wK x) (wV x)) []
structure Mc where
  as : List Ar
  ss : List (List Nat)
  es : List (List Nat)
def ends2 (as : List Ar) : List (List Nat) := as.flatMap fun x => [x.s, x.a]
def Mc.st (m : Mc) : List (List Nat) := uniq (m.ss ++ m.es ++ ends2 m.as)
def mkM (as : List Ar) (ss es : List (List Nat)) : Mc := ⟨chp as, uniq ss, uniq es⟩
structure OkM (as : List Ar) (ss es : List (List Nat)) : Prop where
  la : as.length ≤ 400
  ls : ss.length ≤ 1000
  le : es.length ≤ 1000
  oa : ∀ x ∈ as, okAr x = true
  os : ∀ s ∈ ss, nameB s = true
  oe : ∀ s ∈ es, nameB s = true
  fw : (mkM as ss es).st.length ≤ 40
theorem nodup_le {α : Type} [DecidableEq α] : ∀ {l m : List α}, l.Nodup → (∀ x ∈ l, x ∈ m) → l.length ≤ m.length
  | [], _, _, _ => Nat.zero_le _
  | x :: l, m, nd, h => by
    have nd' := List.nodup_cons.mp nd
    have hx := h x List.mem_cons_self
    have := nodup_le (l := l) (m := m.erase x) nd'.2 fun y hy => (List.mem_erase_of_ne fun e => nd'.1 (by rw [← e]; exact hy)).mpr (h y (List.mem_cons_of_mem _ hy))
    rw [List.length_erase_of_mem hx] at this
    have := List.length_pos_of_mem hx
    rw [List.length_cons]
    omega
end G

namespace G
open Ir
/-! Cf: what a machine tells; prices. -/
def wk (k : List Nat × List Nat) : Tr := .tup [.str k.1, .str k.2]
end G

namespace G
open Ir
/-! Cg: what a machine tells; prices. -/
/-! ### one step -/
/-- the least of what was found so far -/
structure Fnd (F : List (List Nat × Int)) (C : List (List Nat × Int)) : Prop where
  nd : (F.map Prod.fst).Nodup
  mn : ∀ t, IsMin (fun c => (t, c) ∈ C) (valD F t)
theorem Fnd.nil : Fnd [] [] := ⟨List.nodup_nil, fun _ _ h => nomatch h⟩
theorem Fnd.skip {F C} (h : Fnd F C) {a : List Nat} {c d : Int} (hp : valD F a = some d) (hc : d ≤ c) : Fnd F (C ++ [(a, c)]) := by
  refine ⟨h.nd, fun t => ?_⟩
  have hm := h.mn t
  by_cases e : t = a
  · subst e
    rw [hp] at hm ⊢
    refine ⟨List.mem_append_left _ hm.1, fun x hx => ?_⟩
    rcases List.mem_append.mp hx with hx | hx
    · exact hm.2 x hx
    · cases List.mem_singleton.mp hx
      exact hc
  · refine IsMin.congr (fun d => ?_) hm
    constructor
    · exact fun z => List.mem_append_left _ z
    · intro z
      rcases List.mem_append.mp z with z | z
      · exact z
      · cases List.mem_singleton.mp z
        exact absurd rfl e
theorem Fnd.keys {F C} (h : Fnd F C) {x : List Nat} (hx : x ∈ F.map Prod.fst) : ∃ c, (x, c) ∈ C := by
  obtain ⟨p, hp, rfl⟩ := List.mem_map.mp hx
  have hm := h.mn p.1
  rw [mem_valD h.nd (show (p.1, p.2) ∈ F from hp)] at hm
  exact ⟨_, hm.1⟩
abbrev dP (D : List (List Nat × Int)) : Tr := .dic false (dE Tr.str Tr.int D)
end G

namespace G
open Ir
/-! Ch: prices of rows. -/
theorem IsMin.to {Q P : Int → Prop} {o : Option Int} (h : IsMin Q o) (h1 : ∀ c, Q c → P c) (h2 : ∀ c, P c → ∃ d, d ≤ c ∧ Q d) : IsMin P o := by
  cases o with
  | none =>
    intro c hc
    obtain ⟨d, _, hd⟩ := h2 c hc
    exact h d hd
  | some c =>
    refine ⟨h1 c h.1, fun e he => ?_⟩
    obtain ⟨d, hd, hq⟩ := h2 e he
    have := h.2 d hq
    omega
theorem Path.nil_inv {as : List Ar} {s r t : List Nat} {c : Int} (h : Path as s r t c) (e : r = []) : t = s ∧ c = 0 := by
  cases h with
  | nil => exact ⟨rfl, rfl⟩
  | snoc hp hx e1 e2 => simp at e
structure Beh (as : List Ar) (ss : List (List Nat)) (row : List Nat) (D : List (List Nat × Int)) : Prop where
  nd : (D.map Prod.fst).Nodup
  mn : ∀ t, IsMin (fun c => ∃ s ∈ ss, Path as s row t c) (valD D t)
theorem foldv {α : Type} (v : α) (t : List Nat) : ∀ (ns : List (List Nat)) (D : List (List Nat × α)), valD (ns.foldl (fun D x => putD D x v) D) t = if t ∈ ns then some v else valD D t
  | [], D => by simp
  | n :: ns, D => by
    rw [List.foldl_cons, foldv v t ns, valD_put]
    by_cases h : t ∈ ns
    · rw [if_pos h, if_pos (by simp [h])]
    · rw [if_neg h]
      by_cases e : t = n
      · rw [if_pos e, if_pos (by simp [e])]
      · rw [if_neg e, if_neg (by simp [e, h])]
theorem Beh.start (as : List Ar) (ss : List (List Nat)) : Beh as ss [] (ss.foldl (fun D x => putD D x 0) []) := by
  refine ⟨(putAll_names 0 ss [] List.nodup_nil).1, fun t => ?_⟩
  rw [foldv]
  by_cases h : t ∈ ss
  · rw [if_pos h]
    refine ⟨⟨t, h, .nil t⟩, fun d ⟨s, _, hp⟩ => ?_⟩
    rw [(hp.nil_inv rfl).2]
    omega
  · rw [if_neg h]
    rintro c ⟨s, hs, hp⟩
    exact h ((hp.nil_inv rfl).1 ▸ hs)
/-! ### the least at some states -/
end G

namespace G
open Ir
/-! Ci: the law's own drawing. -/
/-- the drawn numbers' list goes along -/
theorem callS1 {c : Con} {xs : List Tr} {μ : Mem} {n : Nat} {φ ε : EK} (hx : xs.all nP = true) (hμ : celK μ 0 fun c => c = .src n) (h : ∀ φ' ε' : EK, (∀ t n', nP t = true → φ t (μ.set 0 (.src n')) → φ' t [.src n']) → c (.ptr 0 :: xs) [.src n] φ' ε') : callK c (.ptr 0 :: xs) μ φ ε := by
  unfold callK
  show renum xs 1 fun us is => _
  refine renum_np hx ?_
  refine ⟨rfl, ?_⟩
  match μ, hμ with
  | [], hμ => exact hμ.elim
  | c0 :: μ, hμ =>
    have hμ : c0 = .src n := hμ
    subst hμ
    show c (.ptr 0 :: xs) [.src n] _ _
    refine h _ _ fun t n' ht q => ?_
    cases t <;> first | exact q | exact absurd ht Bool.false_ne_true
theorem atT_of {α : Type} {xs : List α} {d : Int} (h0 : 0 ≤ d) (h1 : d < (xs.length : Int)) : ∃ t, atT xs d = some t ∧ t ∈ xs ∧ xs[d.toNat]? = some t := by
  have hd : d.toNat < xs.length := by omega
  have e : xs[d.toNat]? = some xs[d.toNat] := List.getElem?_eq_getElem hd
  refine ⟨xs[d.toNat], ?_, List.getElem_mem hd, e⟩
  have := atT_nat e
  rwa [show ((d.toNat : Nat) : Int) = d by omega] at this
theorem app_len {α : Type} {pre post all : List α} {x : α} (h : pre ++ x :: post = all) : pre.length < all.length := by
  rw [← h, List.length_append, List.length_cons]
  omega
theorem app_mem {α : Type} {pre post all : List α} {x : α} (h : pre ++ x :: post = all) : x ∈ all := by rw [← h]; simp
def c_law_pick : Con := fun ts μ φ ε => ∃ (n : Nat) (xs : List Tr), ts = [.ptr 0, .lst xs] ∧ μ = [.src n] ∧ n < 1000000 ∧ 0 < xs.length ∧ xs.length < 1000 ∧ xs.all nP = true ∧ ∀ t ∈ xs, φ t [.src (n + 1)]
def ir_law_pick : Sm := (.ret (.ix (.nm 1) (.call c_law_draw (.cons (.nm 0) (.cons (.blt .len (.cons (.nm 1) .nil)) .nil)))))
theorem wp_law_pick : ∀ ts μ φ ε, c_law_pick ts μ φ ε → ts.length = 2 ∧ wpB ir_law_pick 0 ts μ φ ε := by
  rintro ts μ φ ε ⟨n, xs, rfl, rfl, hn, h0, h1, hp, h⟩
  refine ⟨rfl, ?_⟩
  (conv => whnf)
  refine callS1 (n := n) rfl rfl fun φ1 ε1 k1 => ⟨n, xs.length, rfl, rfl, hn, by omega, by omega, fun d hd0 hd1 => k1 _ _ rfl ?_⟩
  (conv => whnf)
  obtain ⟨t, e, hm, _⟩ := atT_of hd0 hd1
  refine ⟨t, e, ?_⟩
  have h2 := h _ hm
  have h3 := List.all_eq_true.mp hp _ hm
  cases t <;> first | exact h2 | exact absurd h3 Bool.false_ne_true
end G

namespace G
open Ir
/-! Cj: drawn names. -/
def NOB : List Nat := [110, 111, 98, 111, 100, 121]
end G

namespace G
open Ir
/-! Ck: drawn machines. -/
structure DrA (ns sg : List (List Nat)) (as : List Ar) : Prop where
  m : ∀ x ∈ as, x.s ∈ ns ∧ x.l ∈ sg ∧ x.a ∈ ns ∧ 0 ≤ x.p ∧ x.p ≤ 9
end G

namespace G
open Ir
/-! Cl: the law's own machine, lists each once. -/
def ABCD : List (List Nat) := [[97], [98], [99], [100]]
structure Drawn (a b c : Nat) (as : List Ar) (ss es : List (List Nat)) : Prop where
  ex : ∃ ns : List (List Nat), ns.length ≤ a ∧ (∀ x ∈ ns, nameB x = true) ∧ DrA ns (ABCD.take b) as ∧ (∀ x ∈ ss, x ∈ ns) ∧ (∀ x ∈ es, x ∈ ns)
  la : 1 ≤ as.length
  lc : as.length ≤ c
  s1 : 1 ≤ ss.length
  s2 : ss.length ≤ a + 1
  e1 : 1 ≤ es.length
  e2 : es.length ≤ a + 1
  nb : ∀ x ∈ ss ++ es ++ ends2 as, x ≠ NOB
/-! ### each once, ascending -/
end G

namespace G
open Ir
/-! Cm: the law's own cheapest arrows, rows, letters, states. -/
structure LcI (l pre : List Ar) : Prop where
  asc : Asc lt3 (l.map k3)
  m1 : ∀ x ∈ l, x ∈ pre ∧ ∀ y ∈ pre, k3 y = k3 x → x.p ≤ y.p
  m2 : ∀ y ∈ pre, ∃ x ∈ l, k3 x = k3 y
theorem LcI.push {l pre : List Ar} (h : LcI l pre) {x : Ar} (hs : ∀ y ∈ pre, lt3 (k3 y) (k3 x) = true ∨ (k3 y = k3 x ∧ y.p ≤ x.p)) (hn : ∀ y ∈ l, k3 y ≠ k3 x) : LcI (l ++ [x]) (pre ++ [x]) := by
  refine ⟨?_, fun y hy => ?_, fun y hy => ?_⟩
  · unfold Asc
    rw [List.map_append, List.pairwise_append]
    refine ⟨h.asc, by simp, fun k hk k' hk' => ?_⟩
    obtain ⟨y, hy, rfl⟩ := List.mem_map.mp hk
    have : k' = k3 x := by simpa using hk'
    subst this
    rcases hs y (h.m1 y hy).1 with e | e
    · exact e
    · exact absurd e.1 (hn y hy)
  · rcases List.mem_append.mp hy with hy | hy
    · obtain ⟨q1, q2⟩ := h.m1 y hy
      refine ⟨List.mem_append_left _ q1, fun z hz ez => ?_⟩
      rcases List.mem_append.mp hz with hz | hz
      · exact q2 z hz ez
      · cases List.mem_singleton.mp hz; exact absurd ez.symm (hn y hy)
    · cases List.mem_singleton.mp hy
      refine ⟨by simp, fun z hz ez => ?_⟩
      rcases List.mem_append.mp hz with hz | hz
      · obtain ⟨w, hw, ew⟩ := h.m2 z hz
        exact absurd (ew.trans ez) (hn w hw)
      · cases List.mem_singleton.mp hz; exact Int.le_refl _
  · rcases List.mem_append.mp hy with hy | hy
    · obtain ⟨w, hw, ew⟩ := h.m2 y hy
      exact ⟨w, List.mem_append_left _ hw, ew⟩
    · cases List.mem_singleton.mp hy; exact ⟨_, by simp, rfl⟩
theorem LcI.skip {l pre : List Ar} (h : LcI l pre) {x z : Ar} (hs : ∀ y ∈ pre, lt3 (k3 y) (k3 x) = true ∨ (k3 y = k3 x ∧ y.p ≤ x.p)) (hz : z ∈ l) (e : k3 z = k3 x) : LcI l (pre ++ [x]) := by
  refine ⟨h.asc, fun y hy => ?_, fun y hy => ?_⟩
  · obtain ⟨q1, q2⟩ := h.m1 y hy
    refine ⟨List.mem_append_left _ q1, fun w hw ew => ?_⟩
    rcases List.mem_append.mp hw with hw | hw
    · exact q2 w hw ew
    · cases List.mem_singleton.mp hw
      rcases hs y q1 with e1 | e1
      · rw [ew, ord3.ir] at e1; cases e1
      · exact e1.2
  · rcases List.mem_append.mp hy with hy | hy
    · exact h.m2 y hy
    · cases List.mem_singleton.mp hy; exact ⟨z, hz, e⟩
end G

namespace G
open Ir
/-! Cn: rows, letters, states, sums. -/
end G

namespace G
open Ir
/-! Co: letters, states, sums, the least. -/
/-! ### sums along all ways -/
end G

namespace G
open Ir
/-! Cp: the law's own sums and the least. -/
end G

namespace G
open Ir
/-! Cq: the law's own least. -/
end G

namespace G
open Ir
/-! Cr: drawn machines are right; the law k05. -/
theorem letB_abcd : ∀ l ∈ ABCD, letB l = true := by decide
theorem Drawn.okAr {a b c as ss es} (h : Drawn a b c as ss es) : ∀ x ∈ as, okAr x = true := fun x hx => by
  obtain ⟨ns, _, hn, hA, _, _⟩ := h.ex
  obtain ⟨q1, q2, q3, q4, q5⟩ := hA.m x hx
  unfold G.okAr
  rw [hn _ q1, letB_abcd _ (List.mem_of_mem_take q2), hn _ q3, decide_eq_true q4, decide_eq_true (show x.p ≤ 99 by omega)]
  rfl
/-- a call without cells, no error looked at -/
theorem callQ {c : Con} {xs : List Tr} {μ : Mem} {φ ε : EK} (hx : xs.all nP = true) (h : ∀ φ' ε' : EK, (∀ t, nP t = true → φ t μ → φ' t []) → c xs [] φ' ε') : callK c xs μ φ ε := callP hx fun φ' ε' k _ => h φ' ε' k
end G

namespace G
open Ir
/-! Ct: paths by their first step; prices by the law's own way backwards. -/
theorem Path.cons {as : List Ar} {x : Ar} {k : Nat} {s row t : List Nat} {c : Int} (hx : x ∈ as) (hs : x.s = s) (hl : x.l = [k]) (h : Path as x.a row t c) : Path as s (k :: row) t (x.p + c) := by
  induction h with
  | nil =>
    have := Path.snoc (Path.nil (as := as) s) hx hs hl
    rw [show x.p + 0 = 0 + x.p by omega]
    exact this
  | snoc hp hy e1 e2 ih =>
    have := Path.snoc ih hy e1 e2
    rw [← Int.add_assoc]
    exact this
/-- the least price of the rest of a row from each state to an end -/
structure Ahd (as : List Ar) (es : List (List Nat)) (row : List Nat) (D : List (List Nat × Int)) : Prop where
  nd : (D.map Prod.fst).Nodup
  mn : ∀ s, IsMin (fun c => ∃ e ∈ es, Path as s row e c) (valD D s)
theorem fold0_val (ns : List (List Nat)) (t : List Nat) : valD (ns.foldl (fun D x => putD D x (0 : Int)) []) t = if t ∈ ns then some 0 else none := by
  rw [foldv]
  rfl
theorem Ahd.start (as : List Ar) (es : List (List Nat)) : Ahd as es [] (es.foldl (fun D x => putD D x 0) []) := by
  refine ⟨(putAll_names 0 es [] List.nodup_nil).1, fun t => ?_⟩
  rw [fold0_val]
  by_cases h : t ∈ es
  · rw [if_pos h]
    refine ⟨⟨t, h, .nil t⟩, fun d ⟨s, _, hp⟩ => ?_⟩
    rw [(hp.nil_inv rfl).2]
    omega
  · rw [if_neg h]
    rintro c ⟨s, hs, hp⟩
    exact h ((hp.nil_inv rfl).1 ▸ hs)
theorem Fnd.len {F C} (h : Fnd F C) {as : List Ar} (hC : ∀ x c, (x, c) ∈ C → x ∈ as.map Ar.s) : F.length ≤ as.length := by
  have h1 := nodup_le h.nd (m := as.map Ar.s) fun x hx => by
    obtain ⟨c, hc⟩ := h.keys hx
    exact hC x c hc
  rw [List.length_map, List.length_map] at h1
  exact h1
end G

namespace G
open Ir
/-! Cu: the law's own price, rows with stretches that come again. -/
/-! ### rows -/
def Signs (sg : List (List Nat)) (row : List Nat) : Prop := ∀ c ∈ row, [c] ∈ sg
theorem Signs.app {sg a b} (h : Signs sg a) (h' : Signs sg b) : Signs sg (a ++ b) := fun c hc => (List.mem_append.mp hc).elim (h c) (h' c)
theorem Signs.rep {sg a} (h : Signs sg a) (n : Nat) : Signs sg (repL n a) := fun c hc => by
  unfold repL at hc
  obtain ⟨l, hl, hc⟩ := List.mem_flatten.mp hc
  rw [(List.mem_replicate.mp hl).2] at hc
  exact h c hc
/-! ### the cheapest arrows are enough -/
end G

namespace G
open Ir
/-! Cv: machines that are right, turned machines. -/
structure Good (m : Mc) : Prop where
  ok : OkM m.as m.ss m.es
  c : chp m.as = m.as
  s : uniq m.ss = m.ss
  e : uniq m.es = m.es
end G

namespace G
open Ir
/-! L27: law k27. -/
def fE : List (Option Nat) := [some 15, some 16, some 17, some 15, some 18, some 16, some 19, some 20, some 21, some 22, none, none]
def eE (k : Nat) (a : Tr) : Tr := .obj (10 + k) (match fE[k]? with
  | some (some f) => [(f, a)]
  | _ => [])
def c_law_raised_2 : Con := fun ts μ φ ε => ∃ (k : Nat) (a : Tr), ts = [.int (k : Int), a] ∧ μ = [] ∧ k < 12 ∧ nP a = true ∧ ε (eE k a) []
def ir_law_raised_2 : Sm := (.seq (.ite (.cmp .eq (.nm 0) (.c (.int 0))) (.rse 10 15 (.nm 1)) .skip) (.seq (.ite (.cmp .eq (.nm 0) (.c (.int 1))) (.rse 11 16 (.nm 1)) .skip) (.seq (.ite (.cmp .eq (.nm 0) (.c (.int 2))) (.rse 12 17 (.nm 1)) .skip) (.seq (.ite (.cmp .eq (.nm 0) (.c (.int 3))) (.rse 13 15 (.nm 1)) .skip) (.seq (.ite (.cmp .eq (.nm 0) (.c (.int 4))) (.rse 14 18 (.nm 1)) .skip) (.seq (.ite (.cmp .eq (.nm 0) (.c (.int 5))) (.rse 15 16 (.nm 1)) .skip) (.seq (.ite (.cmp .eq (.nm 0) (.c (.int 6))) (.rse 16 19 (.nm 1)) .skip) (.seq (.ite (.cmp .eq (.nm 0) (.c (.int 7))) (.rse 17 20 (.nm 1)) .skip) (.seq (.ite (.cmp .eq (.nm 0) (.c (.int 8))) (.rse 18 21 (.nm 1)) .skip) (.seq (.ite (.cmp .eq (.nm 0) (.c (.int 9))) (.rse 19 22 (.nm 1)) .skip) (.seq (.ite (.cmp .eq (.nm 0) (.c (.int 10))) (.rs0 20) .skip) (.rs0 21))))))))))))
theorem wp_law_raised_2 : ∀ ts μ φ ε, c_law_raised_2 ts μ φ ε → ts.length = 2 ∧ wpB ir_law_raised_2 0 ts μ φ ε := by
  rintro ts μ φ ε ⟨k, a, rfl, rfl, hk, ha, h⟩
  refine ⟨rfl, ?_⟩
  have hc : k = 0 ∨ k = 1 ∨ k = 2 ∨ k = 3 ∨ k = 4 ∨ k = 5 ∨ k = 6 ∨ k = 7 ∨ k = 8 ∨ k = 9 ∨ k = 10 ∨ k = 11 := by omega
  cases a with
  | ptr i => exact absurd ha Bool.false_ne_true
  | _ => rcases hc with rfl | rfl | rfl | rfl | rfl | rfl | rfl | rfl | rfl | rfl | rfl | rfl <;> exact h
def c_law_fields_2 : Con := fun ts μ φ ε => ∃ (k : Nat) (a : Tr), ts = [.int (k : Int), a] ∧ μ = [] ∧ k < 12 ∧ nP a = true ∧ φ (.lst [.int (k : Int), a]) []
def ir_law_fields_2 : Sm := (.seq (.asg (.nm 2) (.lst .nil)) (.seq (Ir.tryL (.ex (.call c_law_raised_2 (.cons (.nm 0) (.cons (.nm 1) .nil)))) 2 3 [(10, 0, .inl 15), (11, 1, .inl 16), (12, 2, .inl 17), (13, 3, .inl 15), (14, 4, .inl 18), (15, 5, .inl 16), (16, 6, .inl 19), (17, 7, .inl 20), (18, 8, .inl 21), (19, 9, .inl 22), (20, 10, .inr 1), (21, 11, .inr 1)]) (.ret (.nm 2))))
theorem wp_law_fields_2 : ∀ ts μ φ ε, c_law_fields_2 ts μ φ ε → ts.length = 2 ∧ wpB ir_law_fields_2 2 ts μ φ ε := by
  rintro ts μ φ ε ⟨k, a, rfl, rfl, hk, ha, h⟩
  refine ⟨rfl, ?_⟩
  have hc : k = 0 ∨ k = 1 ∨ k = 2 ∨ k = 3 ∨ k = 4 ∨ k = 5 ∨ k = 6 ∨ k = 7 ∨ k = 8 ∨ k = 9 ∨ k = 10 ∨ k = 11 := by omega
  have hn : ∀ i, a ≠ .ptr i := fun i e => by subst e; exact absurd ha Bool.false_ne_true
  (conv => whnf)
  refine noP_of rfl ?_
  (conv => whnf)
  refine callP (by show (true && (nP a && true)) = true; rw [ha]; rfl) fun φ1 ε1 k1 k2 => ⟨k, a, rfl, rfl, hk, ha, k2 _ rfl ?_⟩
  clear k1 k2
  rcases hc with rfl | rfl | rfl | rfl | rfl | rfl | rfl | rfl | rfl | rfl | rfl | rfl
  iterate 10
    (conv => whnf)
    exact h
  all_goals
    refine ⟨by decide, a, rfl, hn, ?_⟩
    exact h
def c_law_kinds_2 : Con := fun ts μ φ ε => ∃ (k : Nat) (a : Tr), ts = [.int (k : Int), a] ∧ μ = [] ∧ k < 12 ∧ nP a = true ∧ φ (.lst ((List.range 12).map (fun i => .bl (decide (i = k))) ++ [.bl true])) []
def ir_law_kinds_2 : Sm := (.seq (.asg (.nm 2) (.lst .nil)) (.seq (Ir.tryK (.ex (.call c_law_raised_2 (.cons (.nm 0) (.cons (.nm 1) .nil)))) 2 3 [10, 11, 12, 13, 14, 15, 16, 17, 18, 19, 20, 21] [some 10, some 11, some 12, some 13, some 14, some 15, some 16, some 17, some 18, some 19, some 20, some 21, none]) (.ret (.nm 2))))
theorem wp_law_kinds_2 : ∀ ts μ φ ε, c_law_kinds_2 ts μ φ ε → ts.length = 2 ∧ wpB ir_law_kinds_2 2 ts μ φ ε := by
  rintro ts μ φ ε ⟨k, a, rfl, rfl, hk, ha, h⟩
  refine ⟨rfl, ?_⟩
  have hc : k = 0 ∨ k = 1 ∨ k = 2 ∨ k = 3 ∨ k = 4 ∨ k = 5 ∨ k = 6 ∨ k = 7 ∨ k = 8 ∨ k = 9 ∨ k = 10 ∨ k = 11 := by omega
  (conv => whnf)
  refine noP_of rfl ?_
  (conv => whnf)
  refine callP (by show (true && (nP a && true)) = true; rw [ha]; rfl) fun φ1 ε1 k1 k2 => ⟨k, a, rfl, rfl, hk, ha, k2 _ rfl ?_⟩
  clear k1 k2
  rcases hc with rfl | rfl | rfl | rfl | rfl | rfl | rfl | rfl | rfl | rfl | rfl | rfl <;> exact ⟨by decide, h⟩
def th27 (w : Int) : List Tr := [.int (w - 50), .str [97, 32, 98], .str [], .tup [.int 1, .int 2], .non, .bl true, .int 10000000000000000000000000000000000000000, .tup []]
theorem th27_ok {w : Int} {t : Tr} (h : t ∈ th27 w) : nP t = true ∧ isD 59 t = true := by
  simp only [th27, List.mem_cons, List.not_mem_nil, or_false] at h
  rcases h with rfl | rfl | rfl | rfl | rfl | rfl | rfl | rfl <;> exact ⟨rfl, rfl⟩
def ir_law_k27 : Sm := (.seq (.asg (.nm 1) (.src 0)) (.seq (.asg (.nm 2) (.lst (.cons (.op .sub (.call c_law_draw (.cons (.nm 1) (.cons (.c (.int 100)) .nil))) (.c (.int 50))) (.cons (.c (.str [97, 32, 98])) (.cons (.c (.str [])) (.cons (.tup (.cons (.c (.int 1)) (.cons (.c (.int 2)) .nil))) (.cons (.c .non) (.cons (.c (.bl true)) (.cons (.c (.int 10000000000000000000000000000000000000000)) (.cons (.tup .nil) .nil)))))))))) (.seq (.for (.nm 3) (.rng (.c (.int 0)) (.c (.int 12))) (.seq (.asg (.nm 4) (.call c_law_pick (.cons (.nm 1) (.cons (.nm 2) .nil)))) (.ite (.or (.cmp .ne (.call c_law_fields_2 (.cons (.nm 3) (.cons (.nm 4) .nil))) (.lst (.cons (.nm 3) (.cons (.nm 4) .nil)))) (.cmp .ne (.call c_law_kinds_2 (.cons (.nm 3) (.cons (.nm 4) .nil))) (.addL (.comp (.nm 6) [6] (.rng (.c (.int 0)) (.c (.int 12))) .yes (.cmp .eq (.nm 6) (.nm 3))) (.lst (.cons (.c (.bl true)) .nil))))) (.ret (.c (.bl false))) .skip))) (.seq (.asg (.nm 5) (.lst (.cons (.c (.int 5)) (.cons (.c (.str [120])) (.cons (.c (.int 1)) (.cons (.c (.int 2)) .nil)))))) (.seq (.asg (.nm 5) (.addL (.nm 5) (.lst (.cons (.c (.int 3)) (.cons (.c (.int 4)) (.cons (.c (.int 6)) .nil)))))) (.seq (.asg (.nm 5) (.addL (.nm 5) (.lst (.cons (.c (.int 7)) (.cons (.c (.int 8)) (.cons (.c (.int 9)) .nil)))))) (.ret (.cmp .eq (.nm 5) (.lst (.cons (.c (.int 5)) (.cons (.c (.str [120])) (.cons (.c (.int 1)) (.cons (.c (.int 2)) (.cons (.c (.int 3)) (.cons (.c (.int 4)) (.cons (.c (.int 6)) (.cons (.c (.int 7)) (.cons (.c (.int 8)) (.cons (.c (.int 9)) .nil)))))))))))))))))))
theorem wp_law_k27 : ∀ ts μ φ ε, c_law ts μ φ ε → ts.length = 1 ∧ wpB ir_law_k27 6 ts μ φ ε := by
  rintro ts μ φ ε ⟨sc, rfl, rfl, h⟩
  refine ⟨rfl, ?_⟩
  (conv => whnf)
  refine callS1 (n := 0) rfl rfl fun φ1 ε1 k1 => ⟨0, 100, rfl, rfl, by decide, by decide, by decide, fun w hw0 hw1 => k1 _ _ rfl ?_⟩
  clear k1
  ((conv => whnf); repeat (first | (refine noP_of rfl ?_; conv => whnf) | (refine Exists.intro _ (And.intro rfl ?_); conv => whnf)))
  refine ⟨by decide, ?_⟩
  refine forK_at (enc := fun (i : Nat) => Tr.int (i : Int)) (all := List.range 12) (xs := List.range 12) (fun pre ρ μ => ∃ o3 o4, ρ = [some (.scr sc), some (.ptr 0), some (.lst (th27 w)), o3, o4, none, none] ∧ μ = [.src (1 + pre.length)]) (pre := []) rfl ⟨none, none, rfl, rfl⟩ ?_ ?_
  · rintro pre k post ρ μ hall ⟨o3, o4, rfl, rfl⟩ kk hkk
    have hlp := app_len hall
    have hk : k < 12 := List.mem_range.mp (app_mem hall)
    have hlp : pre.length < 12 := by rwa [List.length_range] at hlp
    (conv => whnf)
    refine callS1 (n := 1 + pre.length) rfl rfl fun φ1 ε1 k1 => ⟨_, th27 w, rfl, rfl, by omega, by show 0 < 8; decide, by show 8 < 1000; decide, rfl, fun t ht => ?_⟩
    obtain ⟨hp, hd⟩ := th27_ok ht
    refine k1 _ _ hp ?_
    clear k1
    (conv => whnf)
    refine callQ (by show (true && (nP t && true)) = true; rw [hp]; rfl) fun φ1 ε1 k1 => ⟨k, t, rfl, rfl, hk, hp, k1 _ rfl ?_⟩
    clear k1
    have hq : isD 60 (.lst [.int (k : Int), t]) = true := by show (true && (isD 59 t && true)) = true; rw [hd]; rfl
    (conv => whnf)
    refine noP_of (by show (true && (nP t && true)) = true; rw [hp]; rfl) ?_
    (conv => whnf)
    refine ⟨by rw [hq]; rfl, ?_⟩
    rw [eqT_refl 60 _ hq]
    (conv => whnf)
    refine callQ (by show (true && (nP t && true)) = true; rw [hp]; rfl) fun φ1 ε1 k1 => ⟨k, t, rfl, rfl, hk, hp, k1 _ rfl ?_⟩
    clear k1
    (conv => whnf)
    refine ⟨by decide, ?_⟩
    refine szK_of (by show 12 ≤ 1000000; decide) ?_
    refine compK_map (enc := fun (i : Nat) => Tr.int (i : Int)) (g := fun i => .bl (decide (i = k))) (xs := List.range 12) (fun i _ k2 hk2 => ?_) ?_
    · rw [← show decide ((i : Int) = (k : Int)) = decide (i = k) from decide_eq_decide.mpr Int.natCast_inj] at hk2
      (conv => whnf)
      exact hk2
    (conv => whnf)
    refine noP_of rfl ?_
    (conv => whnf)
    refine szK_of (by show ((List.range 12).map fun i => Tr.bl (decide (i = k))).length + 1 ≤ 1000000; rw [List.length_map, List.length_range]; decide) ?_
    have hq : isD 60 (.lst ((List.range 12).map (fun i => Tr.bl (decide (i = k))) ++ [.bl true])) = true := rfl
    (conv => whnf)
    refine ⟨by rw [hq]; rfl, ?_⟩
    rw [eqT_refl 60 _ hq]
    (conv => whnf)
    refine hkk _ _ ⟨_, _, rfl, ?_⟩
    rw [List.length_append]
    rfl
  rintro ρ μ ⟨o3, o4, rfl, rfl⟩
  ((conv => whnf); repeat (first | (refine noP_of rfl ?_; conv => whnf) | (refine Exists.intro _ (And.intro rfl ?_); conv => whnf)))
  refine ⟨rfl, ?_⟩
  exact h
end G

namespace G
section
open PySem PySem.Spec PyProof.Rows L2 Wx
def topS (i : Nat) : Stmt := PySem.Challenge.pw_enoughpaid_k27_errors_made.main.body.getD i (.Pass ⟨0, 0, 0, 0⟩)
abbrev s_law_source : Stmt := topS 15
abbrev N_law_source : List Str := ["_law_script", "_law_great", "_law_seed", "_law_cell"]
theorem sc_law_source : FnScope N_law_source ["_law_script"] (defScope s_law_source) := ⟨rfl, rfl, rfl, by decide +kernel, rfl, by decide +kernel, by decide +kernel⟩
abbrev s_law_draw : Stmt := topS 16
abbrev N_law_draw : List Str := ["_law_source_here", "_law_many", "_law_digit", "_law_mixed"]
theorem sc_law_draw : FnScope N_law_draw ["_law_source_here", "_law_many"] (defScope s_law_draw) := ⟨rfl, rfl, rfl, by decide +kernel, rfl, by decide +kernel, by decide +kernel⟩
abbrev s_law_pick : Stmt := topS 17
abbrev N_law_pick : List Str := ["_law_source_here", "_law_things"]
theorem sc_law_pick : FnScope N_law_pick ["_law_source_here", "_law_things"] (defScope s_law_pick) := ⟨rfl, rfl, rfl, by decide +kernel, rfl, by decide +kernel, by decide +kernel⟩
abbrev s_law_raised : Stmt := topS 18
abbrev N_law_raised : List Str := ["_law_how", "_law_a"]
theorem sc_law_raised : FnScope N_law_raised ["_law_how", "_law_a"] (defScope s_law_raised) := ⟨rfl, rfl, rfl, by decide +kernel, rfl, by decide +kernel, by decide +kernel⟩
abbrev s_law_fields : Stmt := topS 19
abbrev N_law_fields : List Str := ["_law_how", "_law_a", "_law_found", "e"]
theorem sc_law_fields : FnScope N_law_fields ["_law_how", "_law_a"] (defScope s_law_fields) := ⟨rfl, rfl, rfl, by decide +kernel, rfl, by decide +kernel, by decide +kernel⟩
abbrev s_law_kinds : Stmt := topS 20
abbrev N_law_kinds : List Str := ["_law_how", "_law_a", "_law_found", "e"]
theorem sc_law_kinds : FnScope N_law_kinds ["_law_how", "_law_a"] (defScope s_law_kinds) := ⟨rfl, rfl, rfl, by decide +kernel, rfl, by decide +kernel, by decide +kernel⟩
abbrev s_law : Stmt := topS 21
abbrev N_law : List Str := ["_law_script", "_law_source_here", "_law_things", "_law_how", "_law_a", "_law_named", "_law_k"]
theorem sc_law : FnScope N_law ["_law_script"] (defScope s_law) := ⟨rfl, rfl, rfl, by decide +kernel, rfl, by decide +kernel, by decide +kernel⟩
abbrev s_BadArrow_init : Stmt := inClass (topS 2) 0
abbrev s_BadExpression_init : Stmt := inClass (topS 10) 0
abbrev s_BadNumber_init : Stmt := inClass (topS 9) 0
abbrev s_BadRow_init : Stmt := inClass (topS 6) 0
abbrev s_BadState_init : Stmt := inClass (topS 3) 0
abbrev s_BadTally_init : Stmt := inClass (topS 12) 0
abbrev s_BadText_init : Stmt := inClass (topS 5) 0
abbrev s_NotSettled_init : Stmt := inClass (topS 11) 0
abbrev s_TooMany_init : Stmt := inClass (topS 4) 0
abbrev s_Unbounded_init : Stmt := inClass (topS 13) 0
abbrev s_UnknownArrow_init : Stmt := inClass (topS 8) 0
abbrev s_UnknownState_init : Stmt := inClass (topS 7) 0
theorem lit_2 : Str.ofString "a b" = S [97, 32, 98] := by decide +kernel
theorem lit_3 : Str.ofString "" = S [] := by decide +kernel
theorem lit_4 : Str.ofString "an arrow does not have the form of an arrow" = S [97, 110, 32, 97, 114, 114, 111, 119, 32, 100, 111, 101, 115, 32, 110, 111, 116, 32, 104, 97, 118, 101, 32, 116, 104, 101, 32, 102, 111, 114, 109, 32, 111, 102, 32, 97, 110, 32, 97, 114, 114, 111, 119] := by decide +kernel
theorem lit_5 : Str.ofString "not a state" = S [110, 111, 116, 32, 97, 32, 115, 116, 97, 116, 101] := by decide +kernel
theorem lit_6 : Str.ofString "too many states" = S [116, 111, 111, 32, 109, 97, 110, 121, 32, 115, 116, 97, 116, 101, 115] := by decide +kernel
theorem lit_7 : Str.ofString "a line does not have the form of a line of a machine" = S [97, 32, 108, 105, 110, 101, 32, 100, 111, 101, 115, 32, 110, 111, 116, 32, 104, 97, 118, 101, 32, 116, 104, 101, 32, 102, 111, 114, 109, 32, 111, 102, 32, 97, 32, 108, 105, 110, 101, 32, 111, 102, 32, 97, 32, 109, 97, 99, 104, 105, 110, 101] := by decide +kernel
theorem lit_8 : Str.ofString "not a row" = S [110, 111, 116, 32, 97, 32, 114, 111, 119] := by decide +kernel
theorem lit_9 : Str.ofString "not a state of the machine" = S [110, 111, 116, 32, 97, 32, 115, 116, 97, 116, 101, 32, 111, 102, 32, 116, 104, 101, 32, 109, 97, 99, 104, 105, 110, 101] := by decide +kernel
theorem lit_10 : Str.ofString "not an arrow of the machine" = S [110, 111, 116, 32, 97, 110, 32, 97, 114, 114, 111, 119, 32, 111, 102, 32, 116, 104, 101, 32, 109, 97, 99, 104, 105, 110, 101] := by decide +kernel
theorem lit_11 : Str.ofString "not a number in the stated range" = S [110, 111, 116, 32, 97, 32, 110, 117, 109, 98, 101, 114, 32, 105, 110, 32, 116, 104, 101, 32, 115, 116, 97, 116, 101, 100, 32, 114, 97, 110, 103, 101] := by decide +kernel
theorem lit_12 : Str.ofString "no expression goes on so at" = S [110, 111, 32, 101, 120, 112, 114, 101, 115, 115, 105, 111, 110, 32, 103, 111, 101, 115, 32, 111, 110, 32, 115, 111, 32, 97, 116] := by decide +kernel
theorem lit_13 : Str.ofString "the tally of a repeated part is not settled" = S [116, 104, 101, 32, 116, 97, 108, 108, 121, 32, 111, 102, 32, 97, 32, 114, 101, 112, 101, 97, 116, 101, 100, 32, 112, 97, 114, 116, 32, 105, 115, 32, 110, 111, 116, 32, 115, 101, 116, 116, 108, 101, 100] := by decide +kernel
theorem lit_14 : Str.ofString "not a tally that fits" = S [110, 111, 116, 32, 97, 32, 116, 97, 108, 108, 121, 32, 116, 104, 97, 116, 32, 102, 105, 116, 115] := by decide +kernel
theorem lit_15 : Str.ofString "the machine is not bounded" = S [116, 104, 101, 32, 109, 97, 99, 104, 105, 110, 101, 32, 105, 115, 32, 110, 111, 116, 32, 98, 111, 117, 110, 100, 101, 100] := by decide +kernel
theorem lit_16 : Str.ofString "x" = S [120] := by decide +kernel
local macro_rules | `(tactic| walk_at "lit") => `(tactic| with_reducible first | refine we_strE lit_2 ?_ | refine we_strE lit_3 ?_ | refine we_strE lit_4 ?_ | refine we_strE lit_5 ?_ | refine we_strE lit_6 ?_ | refine we_strE lit_7 ?_ | refine we_strE lit_8 ?_ | refine we_strE lit_9 ?_ | refine we_strE lit_10 ?_ | refine we_strE lit_11 ?_ | refine we_strE lit_12 ?_ | refine we_strE lit_13 ?_ | refine we_strE lit_14 ?_ | refine we_strE lit_15 ?_ | refine we_strE lit_16 ?_)
local macro_rules | `(tactic| walk_at "at") => `(tactic| with_reducible first | exact atI_0 | exact atI_1 | exact atI_2 | exact atI_3)
local macro_rules | `(tactic| walk_at "ixn") => `(tactic| with_reducible first | exact ixN_0 | exact ixN_1 | exact ixN_2)
local macro_rules | `(tactic| walk_at "ne") => `(tactic| first | assumption | exact Ne.symm (by assumption) | exact ne_new (by assumption) (by walk_at "h") | exact Ne.symm (ne_new (by assumption) (by walk_at "h")))
local macro_rules | `(tactic| walk_at "h") => `(tactic| first | assumption | (with_reducible exact upd_same) | ((with_reducible show upd _ _ _ _ = some _); exact upd_get (by walk_at "ne") (by walk_at "h")) | exact Ex.get (by assumption) (by walk_at "h"))
local macro_rules | `(tactic| walk_at "wa") => `(tactic| with_reducible first
  | refine ws_one ?_ | refine ws_cons ?_ | refine ws_nil ?_ | refine ws_ret ?_ | refine ws_if ?_
  | refine we_int ?_ | walk_at "lit" | refine we_bl ?_ | refine we_non ?_ | refine we_op ?_ | refine we_not ?_ | refine we_un ?_
  | refine wa_nil ?_ | refine wgs_nil ?_ | refine we_tup ?_ | refine we_lst ?_
  | refine wo_add ?_ | refine wo_sub ?_ | refine wo_lt ?_ | refine wo_le ?_ | refine wo_gt ?_ | refine wo_ge ?_ | refine wo_eq ?_ | refine wo_ne ?_ | refine wo_le1 ?_ | refine wo_eqSS ?_ | refine wo_neSS ?_
  | refine wc_int ?_ | refine wu_neg ?_ | refine wip_add ?_ | refine wip_sub ?_ | refine wc_isi_str ?_ | refine wc_isi_int ?_ | refine wc_isi_intB ?_
  | refine wc_strS ?_ | refine wc_min2 rfl ?_ | refine wc_max2 rfl ?_ | refine wo_inS ?_
  | refine wt_bop ?_ | refine ww_and ?_ | refine ww_and1 ?_ | refine ww_or ?_ | refine ww_or1 ?_ | refine wt_not ?_
  | refine we_and ?_ | refine we_or ?_ | refine we_one ?_ | refine we_if ?_ | refine we_count ?_
  | refine ⟨_, rfl, ?_⟩ | refine iteT ?_ | refine iteF ?_ | refine iteN0 ?_ | refine iteN1 ?_)
local macro_rules | `(tactic| walk_at "wb") => `(tactic| first
  | ((with_reducible show WE _ (Expr.Name _ _) _ _ _); first | refine we_nm rfl ?_ | refine we_tyStr (by assumption) ?_ | refine we_tyInt (by assumption) ?_ | refine we_gI (by assumption) ?_ | refine we_gS (by assumption) ?_ | refine we_tyBool (by assumption) ?_ | refine we_tyList (by assumption) ?_ | refine we_tyTuple (by assumption) ?_)
  | ((with_reducible show WA _ (Expr.Starred _ _ :: _) _ _ _); refine wa_star ?_)
  | ((with_reducible show WA _ (_ :: _) _ _ _); refine wa_cons ?_)
  | ((with_reducible show WS _ (Stmt.Assign [Expr.Name _ _] _ _) _ _ _); refine ws_set (by assumption) rfl ?_)
  | ((with_reducible show WS _ (Stmt.Assign [_] _ _) _ _ _); refine ws_asg ?_)
  | ((with_reducible show WS _ (Stmt.AugAssign (Expr.Name _ _) _ _ _) _ _ _); refine ws_aug (by assumption) rfl rfl ?_)
  | ((with_reducible show WS _ (Stmt.Expr _ _) _ _ _); refine ws_expr ?_)
  | ((with_reducible show WE _ (Expr.Compare _ [_] _ _) _ _ _); refine we_cmp ?_)
  | ((with_reducible show WT _ (Expr.Compare _ [_] _ _) _ _ _); refine wt_cmp ?_)
  | ((with_reducible show WE _ (Expr.Compare _ [_, _] _ _) _ _ _); refine we_chain ?_)
  | ((with_reducible show WT _ (Expr.Compare _ [_, _] _ _) _ _ _); refine wt_chain ?_)
  | ((with_reducible show WE _ (Expr.Subscript _ _ _) _ _ _); first | refine we_sl00 ?_ | refine we_sl10 ?_ | refine we_sl01 ?_ | refine we_sl11 ?_ | refine we_ix ?_)
  | ((with_reducible show WG _ (Expr.Name _ _) _ _ _ _); refine wg_nm (by assumption) rfl ?_)
  | ((with_reducible show WG _ (Expr.Subscript _ _ _) _ _ _ _); refine wg_sub ?_)
  | ((with_reducible show WG _ (Expr.Tuple _ _ _) _ _ _ _); refine wg_tup rfl (st_of (by walk_at "h")) rfl ?_)
  | ((with_reducible show WGs _ (_ :: _) _ _ _ _); refine wgs_cons ?_)
  | ((with_reducible show WE _ (Expr.Call (Expr.Attribute _ (Str.ofString "append") _) _ [] _) _ _ _); refine we_append ?_)
  | ((with_reducible show WE _ (Expr.Call (Expr.Attribute _ (Str.ofString "pop") _) _ [] _) _ _ _); refine we_pop ?_)
  | ((with_reducible show WE _ (Expr.Call (Expr.Attribute _ (Str.ofString "count") _) _ [] _) _ _ _); refine we_count ?_)
  | ((with_reducible show WE _ (Expr.Call (Expr.Attribute _ (Str.ofString "join") _) _ [] _) _ _ _); refine we_join ?_)
  | ((with_reducible show WE _ (Expr.Call (Expr.Name (Str.ofString "len") _) _ [] _) _ _ _); refine we_len (by assumption) ?_)
  | ((with_reducible show WE _ (Expr.Call (Expr.Name (Str.ofString "int") _) _ [] _) _ _ _); refine we_intT (by assumption) ?_)
  | ((with_reducible show WE _ (Expr.Call (Expr.Name (Str.ofString "tuple") _) _ [] _) _ _ _); refine we_tupleT (by assumption) ?_)
  | ((with_reducible show WE _ (Expr.Call (Expr.Name (Str.ofString "min") _) _ [] _) _ _ _); refine we_min (by assumption) ?_)
  | ((with_reducible show WE _ (Expr.Call (Expr.Name (Str.ofString "max") _) _ [] _) _ _ _); refine we_max (by assumption) ?_)
  | ((with_reducible show WE _ (Expr.Call (Expr.Name (Str.ofString "all") _) _ [] _) _ _ _); refine we_all (by assumption) ?_)
  | ((with_reducible show WE _ (Expr.Call (Expr.Name (Str.ofString "any") _) _ [] _) _ _ _); refine we_any (by assumption) ?_)
  | ((with_reducible show WE _ (Expr.Call (Expr.Name (Str.ofString "sorted") _) _ [] _) _ _ _); refine we_sorted (by assumption) ?_)
  | ((with_reducible show WE _ (Expr.Call (Expr.Name (Str.ofString "list") _) _ [] _) _ _ _); refine we_listT (by assumption) ?_)
  | ((with_reducible show WE _ (Expr.Call (Expr.Name (Str.ofString "str") _) _ [] _) _ _ _); refine we_strT (by assumption) ?_)
  | ((with_reducible show WE _ (Expr.Call (Expr.Name (Str.ofString "isinstance") _) _ [] _) _ _ _); refine we_isi (by assumption) ?_)
  | ((with_reducible show WO _ (binaryOp Operator.Mult) (V.int _) (V.int _) _ _); first | refine wo_mul (.inl ⟨by omega, by omega⟩) ?_ | refine wo_mul (.inr ⟨by omega, by omega⟩) ?_)
  | ((with_reducible show WO _ (binaryOp Operator.Mod) (V.int _) (V.int _) _ _); refine wo_mod (by omega) ?_)
  | ((with_reducible show WO _ (binaryOp Operator.FloorDiv) (V.int _) (V.int _) _ _); refine wo_fdiv ⟨by omega, by omega⟩ ?_)
  | ((with_reducible show WIx _ (V.ref _) (V.int _) _ _); first | refine wix_l (sq_of (by walk_at "h")) (by walk_at "at") ?_ | refine wix_t (st_of (by walk_at "h")) (by walk_at "at") ?_)
  | ((with_reducible show WSet _ (V.ref _) (V.int _) _ _ _); first | refine wset_0 (by walk_at "h") ?_ | refine wset_1 (by walk_at "h") ?_ | refine wset_2 (by walk_at "h") ?_)
  | ((with_reducible show WC _ (Value.builtin "len") [V.str (S _)] _ _); refine wc_lenSS (by assumption) ?_)
  | ((with_reducible show WT _ _ _ _ _); refine wt_val ?_))
local macro_rules | `(tactic| walk_at "w1") => `(tactic| first | walk_at "wa" | walk_at "wb")
local macro_rules | `(tactic| walk_at "w") => `(tactic| repeat walk_at "w1")
section
variable {P : Program} {w : World} {K : PySem.W.Frag} {mg : Str → Option Value} {base : Heap}
/-! ### the drawn numbers -/
theorem ok_source {f : Addr} {fd : FuncData} {k : Nat} (F : Fun K "_law_source" "_law_source" s_law_source f fd) (mi : mg "int" = none) : FnOk P w K mg base CX0 (k + 1) f fd ["_law_script"] (spSource K) := by
  refine F.ok sc_law_source (fun vs H Q E h => ?_) (fun cdv A outer s H vs Q E hr h => ?_)
  · obtain ⟨a, ns, rfl, _⟩ := h
    rfl
  · obtain ⟨a, ns, rfl, hS, q⟩ := h
    have nd := sc_law_source.nd
    refine wss_of rfl ?_
    walk_at "w"
    refine ⟨sz_le (by simp), fun t ht => ?_⟩
    walk_at "w"
    refine ws_forL PassesOwn.never rfl ?_
    walk_at "w"
    refine ⟨a, _, rfl, (Ex.new ht).l hS, fun i σ H' => Ex H H' ∧ ∃ g sd y, σ = [some (.ref a), some (.int g), some (.int sd), y] ∧ 0 ≤ sd ∧ sd < 2147483647, ⟨Ex.new ht, 0, 17, none, rfl, by decide, by decide⟩, ?_, ?_, ?_⟩
    · rintro i σ H' _ ⟨ex, _⟩
      exact ex.l hS
    · rintro i x σ H' hx ⟨ex, g, sd, y, rfl, h1, h2⟩
      obtain ⟨c, rfl⟩ : ∃ c, x = .int c := by
        rw [List.getElem?_map] at hx
        cases hn : ns[i]? with
        | none => rw [hn] at hx; cases hx
        | some c => rw [hn] at hx; cases hx; exact ⟨c, rfl⟩
      walk_at "w"
      refine ite2 (fun hb => ?_) (fun hb => ?_)
      · walk_at "w"
        refine wo_pow ⟨by decide, by decide, by decide⟩ ?_
        walk_at "w"
        refine ite2 (fun hb => ?_) (fun hb => ?_)
        · walk_at "w"
          exact ⟨ex, _, _, _, rfl, Int.emod_nonneg _ (by decide), Int.emod_lt_of_pos _ (by decide)⟩
        · walk_at "w"
          exact ⟨ex, _, _, _, rfl, Int.emod_nonneg _ (by decide), Int.emod_lt_of_pos _ (by decide)⟩
      · walk_at "w"
        exact ⟨ex, _, _, _, rfl, Int.emod_nonneg _ (by decide), Int.emod_lt_of_pos _ (by decide)⟩
    · rintro σ H' ⟨ex, g, sd, y, rfl, h1, h2⟩
      walk_at "w"
      refine ⟨sz_le (by simp), fun p hp => ?_⟩
      exact q _ _ (ex.trans (Ex.new hp)) (ex.fresh hp) ⟨g, sd, 0, upd_same, h1, h2, by decide, by decide⟩
theorem ok_draw {f : Addr} {fd : FuncData} {k : Nat} (F : Fun K "_law_draw" "_law_draw" s_law_draw f fd) (mi : mg "int" = none) : FnOk P w K mg base CX0 (k + 1) f fd ["_law_source_here", "_law_many"] spDraw := by
  refine F.ok sc_law_draw (fun vs H Q E h => ?_) (fun cdv A outer s H vs Q E hr h => ?_)
  · obtain ⟨p, n, m, rfl, _⟩ := h
    rfl
  · obtain ⟨p, n, m, rfl, ⟨g, sd, c, hp, h1, h2, h3, h4⟩, hn, hm0, hm1, q⟩ := h
    have nd := sc_law_draw.nd
    refine wss_of rfl ?_
    walk_at "w"
    refine ite2 (fun hb => ?_) (fun hb => ?_)
    · walk_at "w"
      refine q _ _ ?_ ?_ (Int.emod_nonneg _ (by omega)) (Int.emod_lt_of_pos _ hm0)
      · rw [pub_upd, pub_upd]
        exact Ex.refl _
      · exact ⟨_, _, _, upd_same, h1, h2, by omega, by omega⟩
    · walk_at "w"
      refine wo_pow ⟨by decide, by decide, by omega⟩ ?_
      walk_at "w"
      have b1 := Int.emod_nonneg ((sd + 7919 * (c + 1)) ^ Int.toNat 5) (show (2147483629 : Int) ≠ 0 by decide)
      have b2 := Int.emod_lt_of_pos ((sd + 7919 * (c + 1)) ^ Int.toNat 5) (show (0 : Int) < 2147483629 by decide)
      have c1 : (16807 * (c + 1)) * (c + 1) ≤ 16807000000 * 1000000 := Int.mul_le_mul (by omega) (by omega) (by omega) (by omega)
      have c2 : 0 ≤ (16807 * (c + 1)) * (c + 1) := Int.mul_nonneg (by omega) (by omega)
      refine wo_pow ⟨by decide, by decide, by omega⟩ ?_
      walk_at "w"
      refine q _ _ ?_ ?_ (Int.emod_nonneg _ (by omega)) (Int.emod_lt_of_pos _ hm0)
      · rw [pub_upd]
        exact Ex.refl _
      · exact ⟨_, _, _, upd_same, h1, h2, by omega, by omega⟩
end
end
section
open PySem PySem.Spec Is
open Ir (Tr Cel Mem Ev EK SK EX Con Tg Op Cm I Sm wp wps Ty)
theorem dj_law_raised_2 {P : Program} {w : World} {K : PySem.W.Frag} {mg : Str → Option Value} {base : Heap} {cl : Nat → Addr} {f : Addr} (x_BadArrow : ExC P w K mg base "BadArrow" (cl 10) ["self", fname 15] (sp1 (cl 10) (fname 15))) (x_BadExpression : ExC P w K mg base "BadExpression" (cl 18) ["self", fname 21] (sp1 (cl 18) (fname 21))) (x_BadNumber : ExC P w K mg base "BadNumber" (cl 17) ["self", fname 20] (sp1 (cl 17) (fname 20))) (x_BadRow : ExC P w K mg base "BadRow" (cl 14) ["self", fname 18] (sp1 (cl 14) (fname 18))) (x_BadState : ExC P w K mg base "BadState" (cl 11) ["self", fname 16] (sp1 (cl 11) (fname 16))) (x_BadTally : ExC P w K mg base "BadTally" (cl 20) ["self"] (sp0 (cl 20))) (x_BadText : ExC P w K mg base "BadText" (cl 13) ["self", fname 15] (sp1 (cl 13) (fname 15))) (x_NotSettled : ExC P w K mg base "NotSettled" (cl 19) ["self", fname 22] (sp1 (cl 19) (fname 22))) (x_TooMany : ExC P w K mg base "TooMany" (cl 12) ["self", fname 17] (sp1 (cl 12) (fname 17))) (x_Unbounded : ExC P w K mg base "Unbounded" (cl 21) ["self"] (sp0 (cl 21))) (x_UnknownArrow : ExC P w K mg base "UnknownArrow" (cl 16) ["self", fname 19] (sp1 (cl 16) (fname 19))) (x_UnknownState : ExC P w K mg base "UnknownState" (cl 15) ["self", fname 16] (sp1 (cl 15) (fname 16))) : DJ P w K mg base cl N_law_raised "_law_raised" s_law_raised f 2 ir_law_raised_2 :=
  fun cdv A outer s H E cf hp => pss_of rfl (pss_cons (ps_if (pt_cmp (o := .eq) cf (pj_nm (i := 0) rfl) pj_int) (pss_one (ps_rse (d := 10) (fi := 15) cf x_BadArrow (cf.r.mono (by decide)) (pj_nm (i := 1) rfl))) pss_nil) (pss_cons (ps_if (pt_cmp (o := .eq) cf (pj_nm (i := 0) rfl) pj_int) (pss_one (ps_rse (d := 11) (fi := 16) cf x_BadState (cf.r.mono (by decide)) (pj_nm (i := 1) rfl))) pss_nil) (pss_cons (ps_if (pt_cmp (o := .eq) cf (pj_nm (i := 0) rfl) pj_int) (pss_one (ps_rse (d := 12) (fi := 17) cf x_TooMany (cf.r.mono (by decide)) (pj_nm (i := 1) rfl))) pss_nil) (pss_cons (ps_if (pt_cmp (o := .eq) cf (pj_nm (i := 0) rfl) pj_int) (pss_one (ps_rse (d := 13) (fi := 15) cf x_BadText (cf.r.mono (by decide)) (pj_nm (i := 1) rfl))) pss_nil) (pss_cons (ps_if (pt_cmp (o := .eq) cf (pj_nm (i := 0) rfl) pj_int) (pss_one (ps_rse (d := 14) (fi := 18) cf x_BadRow (cf.r.mono (by decide)) (pj_nm (i := 1) rfl))) pss_nil) (pss_cons (ps_if (pt_cmp (o := .eq) cf (pj_nm (i := 0) rfl) pj_int) (pss_one (ps_rse (d := 15) (fi := 16) cf x_UnknownState (cf.r.mono (by decide)) (pj_nm (i := 1) rfl))) pss_nil) (pss_cons (ps_if (pt_cmp (o := .eq) cf (pj_nm (i := 0) rfl) pj_int) (pss_one (ps_rse (d := 16) (fi := 19) cf x_UnknownArrow (cf.r.mono (by decide)) (pj_nm (i := 1) rfl))) pss_nil) (pss_cons (ps_if (pt_cmp (o := .eq) cf (pj_nm (i := 0) rfl) pj_int) (pss_one (ps_rse (d := 17) (fi := 20) cf x_BadNumber (cf.r.mono (by decide)) (pj_nm (i := 1) rfl))) pss_nil) (pss_cons (ps_if (pt_cmp (o := .eq) cf (pj_nm (i := 0) rfl) pj_int) (pss_one (ps_rse (d := 18) (fi := 21) cf x_BadExpression (cf.r.mono (by decide)) (pj_nm (i := 1) rfl))) pss_nil) (pss_cons (ps_if (pt_cmp (o := .eq) cf (pj_nm (i := 0) rfl) pj_int) (pss_one (ps_rse (d := 19) (fi := 22) cf x_NotSettled (cf.r.mono (by decide)) (pj_nm (i := 1) rfl))) pss_nil) (pss_cons (ps_if (pt_cmp (o := .eq) cf (pj_nm (i := 0) rfl) pj_int) (pss_one (ps_rs0 (d := 20) cf x_BadTally (cf.r.mono (by decide)))) pss_nil) (pss_one (ps_rs0 (d := 21) cf x_Unbounded (cf.r.mono (by decide)))))))))))))))
theorem dj_law_fields_2 {P : Program} {w : World} {K : PySem.W.Frag} {mg : Str → Option Value} {base : Heap} {cl : Nat → Addr} {f : Addr} (C_law_raised_2 : Wx.Cal P w K mg base (L2.CX P w) 3 "_law_raised" (spOf cl w K c_law_raised_2)) (F_BadArrow : PySem.W.findIn K (.ref (cl 10)) (fname 15) = some none) (F_BadExpression : PySem.W.findIn K (.ref (cl 18)) (fname 21) = some none) (F_BadNumber : PySem.W.findIn K (.ref (cl 17)) (fname 20) = some none) (F_BadRow : PySem.W.findIn K (.ref (cl 14)) (fname 18) = some none) (F_BadState : PySem.W.findIn K (.ref (cl 11)) (fname 16) = some none) (F_BadText : PySem.W.findIn K (.ref (cl 13)) (fname 15) = some none) (F_NotSettled : PySem.W.findIn K (.ref (cl 19)) (fname 22) = some none) (F_TooMany : PySem.W.findIn K (.ref (cl 12)) (fname 17) = some none) (F_UnknownArrow : PySem.W.findIn K (.ref (cl 16)) (fname 19) = some none) (F_UnknownState : PySem.W.findIn K (.ref (cl 15)) (fname 16) = some none) (MM_BadArrow_BadState_TooMany_BadText_BadRow_UnknownState_UnknownArrow_BadNumber_BadExpression_NotSettled_BadTally_Unbounded : ∀ cc ∈ ([10, 11, 12, 13, 14, 15, 16, 17, 18, 19, 20, 21] : List Nat), ∀ d ∈ ([10, 11, 12, 13, 14, 15, 16, 17, 18, 19, 20, 21] : List Nat), PySem.W.exmOne K (.ref (cl cc)) (.ref (cl d)) = some (Nat.beq cc d)) (T_BadArrow : L2.XfC K (cl 10)) (T_BadExpression : L2.XfC K (cl 18)) (T_BadNumber : L2.XfC K (cl 17)) (T_BadRow : L2.XfC K (cl 14)) (T_BadState : L2.XfC K (cl 11)) (T_BadText : L2.XfC K (cl 13)) (T_NotSettled : L2.XfC K (cl 19)) (T_TooMany : L2.XfC K (cl 12)) (T_UnknownArrow : L2.XfC K (cl 16)) (T_UnknownState : L2.XfC K (cl 15)) (x_BadArrow : ExC P w K mg base "BadArrow" (cl 10) ["self", fname 15] (sp1 (cl 10) (fname 15))) (x_BadExpression : ExC P w K mg base "BadExpression" (cl 18) ["self", fname 21] (sp1 (cl 18) (fname 21))) (x_BadNumber : ExC P w K mg base "BadNumber" (cl 17) ["self", fname 20] (sp1 (cl 17) (fname 20))) (x_BadRow : ExC P w K mg base "BadRow" (cl 14) ["self", fname 18] (sp1 (cl 14) (fname 18))) (x_BadState : ExC P w K mg base "BadState" (cl 11) ["self", fname 16] (sp1 (cl 11) (fname 16))) (x_BadTally : ExC P w K mg base "BadTally" (cl 20) ["self"] (sp0 (cl 20))) (x_BadText : ExC P w K mg base "BadText" (cl 13) ["self", fname 15] (sp1 (cl 13) (fname 15))) (x_NotSettled : ExC P w K mg base "NotSettled" (cl 19) ["self", fname 22] (sp1 (cl 19) (fname 22))) (x_TooMany : ExC P w K mg base "TooMany" (cl 12) ["self", fname 17] (sp1 (cl 12) (fname 17))) (x_Unbounded : ExC P w K mg base "Unbounded" (cl 21) ["self"] (sp0 (cl 21))) (x_UnknownArrow : ExC P w K mg base "UnknownArrow" (cl 16) ["self", fname 19] (sp1 (cl 16) (fname 19))) (x_UnknownState : ExC P w K mg base "UnknownState" (cl 15) ["self", fname 16] (sp1 (cl 15) (fname 16))) : DJ P w K mg base cl N_law_fields "_law_fields" s_law_fields f 3 ir_law_fields_2 :=
  fun cdv A outer s H E cf hp => pss_of rfl (pss_cons (ps_set (i := 2) cf rfl (pj_fz (pn_lst Is.pa_nil))) (pss_cons (ps_tryL (i := 2) (k := 3) cf MM_BadArrow_BadState_TooMany_BadText_BadRow_UnknownState_UnknownArrow_BadNumber_BadExpression_NotSettled_BadTally_Unbounded (fun pn xe hp cf => (pss_one (ps_ex (pj_call C_law_raised_2 (cf.r.mono (by decide)) (Is.pa_cons (pj_nm (i := 0) rfl) (Is.pa_cons (pj_nm (i := 1) rfl) Is.pa_nil)))))) (.fld (d := 10) (fi := 15) ⟨rfl, by decide, .inl x_BadArrow.g⟩ T_BadArrow F_BadArrow (fname_at (by decide)) (.fld (d := 11) (fi := 16) ⟨rfl, by decide, .inl x_BadState.g⟩ T_BadState F_BadState (fname_at (by decide)) (.fld (d := 12) (fi := 17) ⟨rfl, by decide, .inl x_TooMany.g⟩ T_TooMany F_TooMany (fname_at (by decide)) (.fld (d := 13) (fi := 15) ⟨rfl, by decide, .inl x_BadText.g⟩ T_BadText F_BadText (fname_at (by decide)) (.fld (d := 14) (fi := 18) ⟨rfl, by decide, .inl x_BadRow.g⟩ T_BadRow F_BadRow (fname_at (by decide)) (.fld (d := 15) (fi := 16) ⟨rfl, by decide, .inl x_UnknownState.g⟩ T_UnknownState F_UnknownState (fname_at (by decide)) (.fld (d := 16) (fi := 19) ⟨rfl, by decide, .inl x_UnknownArrow.g⟩ T_UnknownArrow F_UnknownArrow (fname_at (by decide)) (.fld (d := 17) (fi := 20) ⟨rfl, by decide, .inl x_BadNumber.g⟩ T_BadNumber F_BadNumber (fname_at (by decide)) (.fld (d := 18) (fi := 21) ⟨rfl, by decide, .inl x_BadExpression.g⟩ T_BadExpression F_BadExpression (fname_at (by decide)) (.fld (d := 19) (fi := 22) ⟨rfl, by decide, .inl x_NotSettled.g⟩ T_NotSettled F_NotSettled (fname_at (by decide)) (.var (d := 20) (j := 1) ⟨rfl, by decide, .inl x_BadTally.g⟩ rfl (.inl rfl) (by decide) (by decide) (.var (d := 21) (j := 1) ⟨rfl, by decide, .inl x_Unbounded.g⟩ rfl (.inl rfl) (by decide) (by decide) .nil)))))))))))) rfl rfl (by decide)) (pss_one (ps_ret (pj_nm (i := 2) rfl)))))
theorem dj_law_kinds_2 {P : Program} {w : World} {K : PySem.W.Frag} {mg : Str → Option Value} {base : Heap} {cl : Nat → Addr} {f : Addr} (z_ValueError : mg "ValueError" = none) (z_isinstance : mg "isinstance" = none) (C_law_raised_2 : Wx.Cal P w K mg base (L2.CX P w) 3 "_law_raised" (spOf cl w K c_law_raised_2)) (EK_PaidError : ∀ cc ∈ ([10, 11, 12, 13, 14, 15, 16, 17, 18, 19, 20, 21] : List Nat), L2.EcK K (cl cc)) (F_BadArrow : PySem.W.findIn K (.ref (cl 10)) (fname 15) = some none) (F_BadExpression : PySem.W.findIn K (.ref (cl 18)) (fname 21) = some none) (F_BadNumber : PySem.W.findIn K (.ref (cl 17)) (fname 20) = some none) (F_BadRow : PySem.W.findIn K (.ref (cl 14)) (fname 18) = some none) (F_BadState : PySem.W.findIn K (.ref (cl 11)) (fname 16) = some none) (F_BadText : PySem.W.findIn K (.ref (cl 13)) (fname 15) = some none) (F_NotSettled : PySem.W.findIn K (.ref (cl 19)) (fname 22) = some none) (F_TooMany : PySem.W.findIn K (.ref (cl 12)) (fname 17) = some none) (F_UnknownArrow : PySem.W.findIn K (.ref (cl 16)) (fname 19) = some none) (F_UnknownState : PySem.W.findIn K (.ref (cl 15)) (fname 16) = some none) (MM_BadArrow_BadState_TooMany_BadText_BadRow_UnknownState_UnknownArrow_BadNumber_BadExpression_NotSettled_BadTally_Unbounded : ∀ cc ∈ ([10, 11, 12, 13, 14, 15, 16, 17, 18, 19, 20, 21] : List Nat), ∀ d ∈ ([10, 11, 12, 13, 14, 15, 16, 17, 18, 19, 20, 21] : List Nat), PySem.W.exmOne K (.ref (cl cc)) (.ref (cl d)) = some (Nat.beq cc d)) (PG_PaidError : mg "PaidError" = some (.ref (cl 22))) (PM_PaidError : ∀ cc ∈ ([10, 11, 12, 13, 14, 15, 16, 17, 18, 19, 20, 21] : List Nat), PySem.W.exmOne K (.ref (cl cc)) (.ref (cl 22)) = some true) (T_BadArrow : L2.XfC K (cl 10)) (T_BadExpression : L2.XfC K (cl 18)) (T_BadNumber : L2.XfC K (cl 17)) (T_BadRow : L2.XfC K (cl 14)) (T_BadState : L2.XfC K (cl 11)) (T_BadTally : L2.XfC K (cl 20)) (T_BadText : L2.XfC K (cl 13)) (T_NotSettled : L2.XfC K (cl 19)) (T_TooMany : L2.XfC K (cl 12)) (T_Unbounded : L2.XfC K (cl 21)) (T_UnknownArrow : L2.XfC K (cl 16)) (T_UnknownState : L2.XfC K (cl 15)) (x_BadArrow : ExC P w K mg base "BadArrow" (cl 10) ["self", fname 15] (sp1 (cl 10) (fname 15))) (x_BadExpression : ExC P w K mg base "BadExpression" (cl 18) ["self", fname 21] (sp1 (cl 18) (fname 21))) (x_BadNumber : ExC P w K mg base "BadNumber" (cl 17) ["self", fname 20] (sp1 (cl 17) (fname 20))) (x_BadRow : ExC P w K mg base "BadRow" (cl 14) ["self", fname 18] (sp1 (cl 14) (fname 18))) (x_BadState : ExC P w K mg base "BadState" (cl 11) ["self", fname 16] (sp1 (cl 11) (fname 16))) (x_BadTally : ExC P w K mg base "BadTally" (cl 20) ["self"] (sp0 (cl 20))) (x_BadText : ExC P w K mg base "BadText" (cl 13) ["self", fname 15] (sp1 (cl 13) (fname 15))) (x_NotSettled : ExC P w K mg base "NotSettled" (cl 19) ["self", fname 22] (sp1 (cl 19) (fname 22))) (x_TooMany : ExC P w K mg base "TooMany" (cl 12) ["self", fname 17] (sp1 (cl 12) (fname 17))) (x_Unbounded : ExC P w K mg base "Unbounded" (cl 21) ["self"] (sp0 (cl 21))) (x_UnknownArrow : ExC P w K mg base "UnknownArrow" (cl 16) ["self", fname 19] (sp1 (cl 16) (fname 19))) (x_UnknownState : ExC P w K mg base "UnknownState" (cl 15) ["self", fname 16] (sp1 (cl 15) (fname 16))) : DJ P w K mg base cl N_law_kinds "_law_kinds" s_law_kinds f 3 ir_law_kinds_2 :=
  fun cdv A outer s H E cf hp => pss_of rfl (pss_cons (ps_set (i := 2) cf rfl (pj_fz (pn_lst Is.pa_nil))) (pss_cons (ps_tryK (i := 2) (k := 3) (dP := 22) (ds := [10, 11, 12, 13, 14, 15, 16, 17, 18, 19, 20, 21]) (os1 := [some 10, some 11, some 12, some 13]) (os2 := [some 14, some 15, some 16]) (os3 := [some 17, some 18, some 19]) (os4 := [some 20, some 21, none]) cf rfl PM_PaidError EK_PaidError (L2.kk_of MM_BadArrow_BadState_TooMany_BadText_BadRow_UnknownState_UnknownArrow_BadNumber_BadExpression_NotSettled_BadTally_Unbounded) z_isinstance ⟨rfl, by decide, .inl PG_PaidError⟩ (fun pn xe hp cf => (pss_one (ps_ex (pj_call C_law_raised_2 (cf.r.mono (by decide)) (Is.pa_cons (pj_nm (i := 0) rfl) (Is.pa_cons (pj_nm (i := 1) rfl) Is.pa_nil)))))) (.own (d := 10) x_BadArrow.g rfl (by decide) (.own (d := 11) x_BadState.g rfl (by decide) (.own (d := 12) x_TooMany.g rfl (by decide) (.own (d := 13) x_BadText.g rfl (by decide) .nil)))) (.own (d := 14) x_BadRow.g rfl (by decide) (.own (d := 15) x_UnknownState.g rfl (by decide) (.own (d := 16) x_UnknownArrow.g rfl (by decide) .nil))) (.own (d := 17) x_BadNumber.g rfl (by decide) (.own (d := 18) x_BadExpression.g rfl (by decide) (.own (d := 19) x_NotSettled.g rfl (by decide) .nil))) (.own (d := 20) x_BadTally.g rfl (by decide) (.own (d := 21) x_Unbounded.g rfl (by decide) (.ve z_ValueError rfl .nil))) rfl rfl rfl (by decide) (by decide)) (pss_one (ps_ret (pj_nm (i := 2) rfl)))))
theorem dj_law_pick {P : Program} {w : World} {K : PySem.W.Frag} {mg : Str → Option Value} {base : Heap} {cl : Nat → Addr} {f : Addr} (z_len : mg "len" = none) (C_law_draw : Wx.Cal P w K mg base (L2.CX P w) 1 "_law_draw" (spOf cl w K c_law_draw)) : DJ P w K mg base cl N_law_pick "_law_pick" s_law_pick f 1 ir_law_pick :=
  fun cdv A outer s H E cf hp => pss_of rfl (pss_one (ps_ret (pj_ix cf (pj_nm (i := 1) rfl) (pj_call C_law_draw (cf.r.mono (by decide)) (Is.pa_cons (pj_nm (i := 0) rfl) (Is.pa_cons (pj_len z_len (pj_nm (i := 1) rfl)) Is.pa_nil))))))
theorem dj_law_k27 {P : Program} {w : World} {K : PySem.W.Frag} {mg : Str → Option Value} {base : Heap} {cl : Nat → Addr} {f : Addr} (z_range : mg "range" = none) (C_law_draw : Wx.Cal P w K mg base (L2.CX P w) 1 "_law_draw" (spOf cl w K c_law_draw)) (C_law_fields_2 : Wx.Cal P w K mg base (L2.CX P w) 4 "_law_fields" (spOf cl w K c_law_fields_2)) (C_law_kinds_2 : Wx.Cal P w K mg base (L2.CX P w) 4 "_law_kinds" (spOf cl w K c_law_kinds_2)) (C_law_pick : Wx.Cal P w K mg base (L2.CX P w) 2 "_law_pick" (spOf cl w K c_law_pick)) (F_BadArrow : PySem.W.findIn K (.ref (cl 10)) (fname 15) = some none) (F_BadExpression : PySem.W.findIn K (.ref (cl 18)) (fname 21) = some none) (F_BadNumber : PySem.W.findIn K (.ref (cl 17)) (fname 20) = some none) (F_BadRow : PySem.W.findIn K (.ref (cl 14)) (fname 18) = some none) (F_BadState : PySem.W.findIn K (.ref (cl 11)) (fname 16) = some none) (F_BadText : PySem.W.findIn K (.ref (cl 13)) (fname 15) = some none) (F_NotSettled : PySem.W.findIn K (.ref (cl 19)) (fname 22) = some none) (F_TooMany : PySem.W.findIn K (.ref (cl 12)) (fname 17) = some none) (F_UnknownArrow : PySem.W.findIn K (.ref (cl 16)) (fname 19) = some none) (F_UnknownState : PySem.W.findIn K (.ref (cl 15)) (fname 16) = some none) (S_law_source : Wx.Cal P w K mg base L2.CX0 1 "_law_source" (Wx.spSource K)) (T_BadArrow : L2.XfC K (cl 10)) (T_BadExpression : L2.XfC K (cl 18)) (T_BadNumber : L2.XfC K (cl 17)) (T_BadRow : L2.XfC K (cl 14)) (T_BadState : L2.XfC K (cl 11)) (T_BadText : L2.XfC K (cl 13)) (T_NotSettled : L2.XfC K (cl 19)) (T_TooMany : L2.XfC K (cl 12)) (T_UnknownArrow : L2.XfC K (cl 16)) (T_UnknownState : L2.XfC K (cl 15)) (x_BadArrow : ExC P w K mg base "BadArrow" (cl 10) ["self", fname 15] (sp1 (cl 10) (fname 15))) (x_BadExpression : ExC P w K mg base "BadExpression" (cl 18) ["self", fname 21] (sp1 (cl 18) (fname 21))) (x_BadNumber : ExC P w K mg base "BadNumber" (cl 17) ["self", fname 20] (sp1 (cl 17) (fname 20))) (x_BadRow : ExC P w K mg base "BadRow" (cl 14) ["self", fname 18] (sp1 (cl 14) (fname 18))) (x_BadState : ExC P w K mg base "BadState" (cl 11) ["self", fname 16] (sp1 (cl 11) (fname 16))) (x_BadText : ExC P w K mg base "BadText" (cl 13) ["self", fname 15] (sp1 (cl 13) (fname 15))) (x_NotSettled : ExC P w K mg base "NotSettled" (cl 19) ["self", fname 22] (sp1 (cl 19) (fname 22))) (x_TooMany : ExC P w K mg base "TooMany" (cl 12) ["self", fname 17] (sp1 (cl 12) (fname 17))) (x_UnknownArrow : ExC P w K mg base "UnknownArrow" (cl 16) ["self", fname 19] (sp1 (cl 16) (fname 19))) (x_UnknownState : ExC P w K mg base "UnknownState" (cl 15) ["self", fname 16] (sp1 (cl 15) (fname 16))) (xk_BadArrow : L2.ExK P w K mg base "BadArrow" (cl 10) (fname 15)) (xk_BadExpression : L2.ExK P w K mg base "BadExpression" (cl 18) (fname 21)) (xk_BadNumber : L2.ExK P w K mg base "BadNumber" (cl 17) (fname 20)) (xk_BadRow : L2.ExK P w K mg base "BadRow" (cl 14) (fname 18)) (xk_BadState : L2.ExK P w K mg base "BadState" (cl 11) (fname 16)) (xk_BadText : L2.ExK P w K mg base "BadText" (cl 13) (fname 15)) (xk_NotSettled : L2.ExK P w K mg base "NotSettled" (cl 19) (fname 22)) (xk_TooMany : L2.ExK P w K mg base "TooMany" (cl 12) (fname 17)) (xk_UnknownArrow : L2.ExK P w K mg base "UnknownArrow" (cl 16) (fname 19)) (xk_UnknownState : L2.ExK P w K mg base "UnknownState" (cl 15) (fname 16)) : DJ P w K mg base cl N_law "law" s_law f 4 ir_law_k27 :=
  fun cdv A outer s H E cf hp => pss_of rfl (pss_cons (ps_set (i := 1) cf rfl (pj_src (i := 0) S_law_source (cf.r.mono (by decide)) rfl)) (pss_cons (ps_set (i := 2) cf rfl (pj_fz (pn_lst (Is.pa_cons (pj_op (o := .sub) (pj_call C_law_draw (cf.r.mono (by decide)) (Is.pa_cons (pj_nm (i := 1) rfl) (Is.pa_cons pj_int Is.pa_nil))) pj_int) (Is.pa_cons (pj_str lit_2) (Is.pa_cons (pj_str lit_3) (Is.pa_cons (pj_tup (Is.pa_cons pj_int (Is.pa_cons pj_int Is.pa_nil))) (Is.pa_cons pj_non (Is.pa_cons pj_bl (Is.pa_cons (pj_powC (v := 10000000000000000000000000000000000000000) ⟨by decide, by decide, by decide⟩ (by decide +kernel)) (Is.pa_cons (pj_tup Is.pa_nil) Is.pa_nil))))))))))) (pss_cons (ps_for hp cf (pit_rng1 z_range pj_int) (pg_nm (i := 3) cf rfl) (pss_cons (ps_set (i := 4) cf rfl (pj_call C_law_pick (cf.r.mono (by decide)) (Is.pa_cons (pj_nm (i := 1) rfl) (Is.pa_cons (pj_nm (i := 2) rfl) Is.pa_nil)))) (pss_one (ps_if (pt_bop (pw_or (pt_cmp (o := .ne) cf (pj_call C_law_fields_2 (cf.r.mono (by decide)) (Is.pa_cons (pj_nm (i := 3) rfl) (Is.pa_cons (pj_nm (i := 4) rfl) Is.pa_nil))) (pj_fz (pn_lst (Is.pa_cons (pj_nm (i := 3) rfl) (Is.pa_cons (pj_nm (i := 4) rfl) Is.pa_nil))))) (pw_one (.inr rfl) (pt_cmp (o := .ne) cf (pj_call C_law_kinds_2 (cf.r.mono (by decide)) (Is.pa_cons (pj_nm (i := 3) rfl) (Is.pa_cons (pj_nm (i := 4) rfl) Is.pa_nil))) (pj_fz (pn_addL (pj_fz (pn_lc (own := [("_law_k", 6)]) cf (blk_of rfl) rfl (by decide) (pit_rng1 z_range pj_int) (fun _ _ _ _ _ => (pg_nm (i := 6) (bk_cf cf) rfl)) (fun _ _ _ _ _ => (pj_cmp (o := .eq) (bk_cf cf) (pj_nm (i := 6) rfl) (pj_nm (i := 3) rfl))))) (pj_fz (pn_lst (Is.pa_cons pj_bl Is.pa_nil))))))))) (pss_one (ps_ret pj_bl)) pss_nil)))) (pss_cons (ps_set (i := 5) cf rfl (pj_fz (pn_lst (Is.pa_cons (pj_exKF (d := 10) xk_BadArrow T_BadArrow F_BadArrow cf (by decide) pj_int) (Is.pa_cons (pj_exKF (d := 11) xk_BadState T_BadState F_BadState cf (by decide) (pj_str lit_16)) (Is.pa_cons (pj_exKF (d := 12) xk_TooMany T_TooMany F_TooMany cf (by decide) pj_int) (Is.pa_cons (pj_exKF (d := 13) xk_BadText T_BadText F_BadText cf (by decide) pj_int) Is.pa_nil))))))) (pss_cons (ps_set (i := 5) cf rfl (pj_fz (pn_addL (pj_nm (i := 5) rfl) (pj_fz (pn_lst (Is.pa_cons (pj_exKF (d := 14) xk_BadRow T_BadRow F_BadRow cf (by decide) pj_int) (Is.pa_cons (pj_exKF (d := 15) xk_UnknownState T_UnknownState F_UnknownState cf (by decide) pj_int) (Is.pa_cons (pj_exKF (d := 16) xk_UnknownArrow T_UnknownArrow F_UnknownArrow cf (by decide) pj_int) Is.pa_nil)))))))) (pss_cons (ps_set (i := 5) cf rfl (pj_fz (pn_addL (pj_nm (i := 5) rfl) (pj_fz (pn_lst (Is.pa_cons (pj_exKF (d := 17) xk_BadNumber T_BadNumber F_BadNumber cf (by decide) pj_int) (Is.pa_cons (pj_exKF (d := 18) xk_BadExpression T_BadExpression F_BadExpression cf (by decide) pj_int) (Is.pa_cons (pj_exKF (d := 19) xk_NotSettled T_NotSettled F_NotSettled cf (by decide) pj_int) Is.pa_nil)))))))) (pss_one (ps_ret (pj_cmp (o := .eq) cf (pj_nm (i := 5) rfl) (pj_fz (pn_lst (Is.pa_cons pj_int (Is.pa_cons (pj_str lit_16) (Is.pa_cons pj_int (Is.pa_cons pj_int (Is.pa_cons pj_int (Is.pa_cons pj_int (Is.pa_cons pj_int (Is.pa_cons pj_int (Is.pa_cons pj_int (Is.pa_cons pj_int Is.pa_nil)))))))))))))))))))))
theorem fk_BadArrow {K : PySem.W.Frag} {cc cda : Addr} {kV dc pm ct : Value} {an : Option Addr} : L2.KBn K (PySem.W.ksFn "__init__" "BadArrow.__init__" (L2.defArgs s_BadArrow_init) (L2.defBody s_BadArrow_init) (L2.defScope s_BadArrow_init) .none kV dc pm an (.ref cda) ct cc) ["self", fname 15] 1 [fname 15] Wx.gR Wx.gRV :=
  ⟨fun s us ws _ l1 l2 => match us, ws, l1, l2 with | [_], [_], _, _ => .of_eq rfl, fun r1 r2 => Wx.vals_app r1 (Wx.vals_rev r2)⟩
theorem fx_BadArrow {P : Program} {w : World} {K : PySem.W.Frag} {mg : Str → Option Value} {base : Heap} {C cc cda f : Addr} {kV dc pm ct oc : Value} {an od : Option Addr} {sl : Array (Option Value)} (S : SupC P K C cc cda) (hm : mg "super" = none) (lk : K.lookup f = some ⟨oc, od, .func (PySem.W.ksFn "__init__" "BadArrow.__init__" (L2.defArgs s_BadArrow_init) (L2.defBody s_BadArrow_init) (L2.defScope s_BadArrow_init) .none kV dc pm an (.ref cda) ct cc), sl⟩) (hcd : PySem.W.codeIn K (.ref cda) "BadArrow.__init__" = true) (hno : PySem.W.findIn K (.ref C) (fname 15) = some none) : L2.FnOk P w K mg base (L2.CX P w) 1 f (PySem.W.ksFn "__init__" "BadArrow.__init__" (L2.defArgs s_BadArrow_init) (L2.defBody s_BadArrow_init) (L2.defScope s_BadArrow_init) .none kV dc pm an (.ref cda) ct cc) ["self", fname 15] (sp1 C (fname 15)) ∧ L2.Binds K (PySem.W.ksFn "__init__" "BadArrow.__init__" (L2.defArgs s_BadArrow_init) (L2.defBody s_BadArrow_init) (L2.defScope s_BadArrow_init) .none kV dc pm an (.ref cda) ct cc) ["self", fname 15] [] :=
  ⟨fn_exc1 (fld := fname 15) S hm lk hcd rfl ⟨rfl, rfl, rfl, rfl, rfl, rfl, by decide⟩ rfl (by decide) (by decide) hno (fun _ => rfl) (fun _ => rfl) (fun _ => rfl) (fun _ => ⟨_, rfl⟩), L2.Binds.all fun us hl => match us, hl with | [_, _], _ => rfl⟩
theorem fk_BadExpression {K : PySem.W.Frag} {cc cda : Addr} {kV dc pm ct : Value} {an : Option Addr} : L2.KBn K (PySem.W.ksFn "__init__" "BadExpression.__init__" (L2.defArgs s_BadExpression_init) (L2.defBody s_BadExpression_init) (L2.defScope s_BadExpression_init) .none kV dc pm an (.ref cda) ct cc) ["self", fname 21] 1 [fname 21] Wx.gR Wx.gRV :=
  ⟨fun s us ws _ l1 l2 => match us, ws, l1, l2 with | [_], [_], _, _ => .of_eq rfl, fun r1 r2 => Wx.vals_app r1 (Wx.vals_rev r2)⟩
theorem fx_BadExpression {P : Program} {w : World} {K : PySem.W.Frag} {mg : Str → Option Value} {base : Heap} {C cc cda f : Addr} {kV dc pm ct oc : Value} {an od : Option Addr} {sl : Array (Option Value)} (S : SupC P K C cc cda) (hm : mg "super" = none) (lk : K.lookup f = some ⟨oc, od, .func (PySem.W.ksFn "__init__" "BadExpression.__init__" (L2.defArgs s_BadExpression_init) (L2.defBody s_BadExpression_init) (L2.defScope s_BadExpression_init) .none kV dc pm an (.ref cda) ct cc), sl⟩) (hcd : PySem.W.codeIn K (.ref cda) "BadExpression.__init__" = true) (hno : PySem.W.findIn K (.ref C) (fname 21) = some none) : L2.FnOk P w K mg base (L2.CX P w) 1 f (PySem.W.ksFn "__init__" "BadExpression.__init__" (L2.defArgs s_BadExpression_init) (L2.defBody s_BadExpression_init) (L2.defScope s_BadExpression_init) .none kV dc pm an (.ref cda) ct cc) ["self", fname 21] (sp1 C (fname 21)) ∧ L2.Binds K (PySem.W.ksFn "__init__" "BadExpression.__init__" (L2.defArgs s_BadExpression_init) (L2.defBody s_BadExpression_init) (L2.defScope s_BadExpression_init) .none kV dc pm an (.ref cda) ct cc) ["self", fname 21] [] :=
  ⟨fn_exc1 (fld := fname 21) S hm lk hcd rfl ⟨rfl, rfl, rfl, rfl, rfl, rfl, by decide⟩ rfl (by decide) (by decide) hno (fun _ => rfl) (fun _ => rfl) (fun _ => rfl) (fun _ => ⟨_, rfl⟩), L2.Binds.all fun us hl => match us, hl with | [_, _], _ => rfl⟩
theorem fk_BadNumber {K : PySem.W.Frag} {cc cda : Addr} {kV dc pm ct : Value} {an : Option Addr} : L2.KBn K (PySem.W.ksFn "__init__" "BadNumber.__init__" (L2.defArgs s_BadNumber_init) (L2.defBody s_BadNumber_init) (L2.defScope s_BadNumber_init) .none kV dc pm an (.ref cda) ct cc) ["self", fname 20] 1 [fname 20] Wx.gR Wx.gRV :=
  ⟨fun s us ws _ l1 l2 => match us, ws, l1, l2 with | [_], [_], _, _ => .of_eq rfl, fun r1 r2 => Wx.vals_app r1 (Wx.vals_rev r2)⟩
theorem fx_BadNumber {P : Program} {w : World} {K : PySem.W.Frag} {mg : Str → Option Value} {base : Heap} {C cc cda f : Addr} {kV dc pm ct oc : Value} {an od : Option Addr} {sl : Array (Option Value)} (S : SupC P K C cc cda) (hm : mg "super" = none) (lk : K.lookup f = some ⟨oc, od, .func (PySem.W.ksFn "__init__" "BadNumber.__init__" (L2.defArgs s_BadNumber_init) (L2.defBody s_BadNumber_init) (L2.defScope s_BadNumber_init) .none kV dc pm an (.ref cda) ct cc), sl⟩) (hcd : PySem.W.codeIn K (.ref cda) "BadNumber.__init__" = true) (hno : PySem.W.findIn K (.ref C) (fname 20) = some none) : L2.FnOk P w K mg base (L2.CX P w) 1 f (PySem.W.ksFn "__init__" "BadNumber.__init__" (L2.defArgs s_BadNumber_init) (L2.defBody s_BadNumber_init) (L2.defScope s_BadNumber_init) .none kV dc pm an (.ref cda) ct cc) ["self", fname 20] (sp1 C (fname 20)) ∧ L2.Binds K (PySem.W.ksFn "__init__" "BadNumber.__init__" (L2.defArgs s_BadNumber_init) (L2.defBody s_BadNumber_init) (L2.defScope s_BadNumber_init) .none kV dc pm an (.ref cda) ct cc) ["self", fname 20] [] :=
  ⟨fn_exc1 (fld := fname 20) S hm lk hcd rfl ⟨rfl, rfl, rfl, rfl, rfl, rfl, by decide⟩ rfl (by decide) (by decide) hno (fun _ => rfl) (fun _ => rfl) (fun _ => rfl) (fun _ => ⟨_, rfl⟩), L2.Binds.all fun us hl => match us, hl with | [_, _], _ => rfl⟩
theorem fk_BadRow {K : PySem.W.Frag} {cc cda : Addr} {kV dc pm ct : Value} {an : Option Addr} : L2.KBn K (PySem.W.ksFn "__init__" "BadRow.__init__" (L2.defArgs s_BadRow_init) (L2.defBody s_BadRow_init) (L2.defScope s_BadRow_init) .none kV dc pm an (.ref cda) ct cc) ["self", fname 18] 1 [fname 18] Wx.gR Wx.gRV :=
  ⟨fun s us ws _ l1 l2 => match us, ws, l1, l2 with | [_], [_], _, _ => .of_eq rfl, fun r1 r2 => Wx.vals_app r1 (Wx.vals_rev r2)⟩
theorem fx_BadRow {P : Program} {w : World} {K : PySem.W.Frag} {mg : Str → Option Value} {base : Heap} {C cc cda f : Addr} {kV dc pm ct oc : Value} {an od : Option Addr} {sl : Array (Option Value)} (S : SupC P K C cc cda) (hm : mg "super" = none) (lk : K.lookup f = some ⟨oc, od, .func (PySem.W.ksFn "__init__" "BadRow.__init__" (L2.defArgs s_BadRow_init) (L2.defBody s_BadRow_init) (L2.defScope s_BadRow_init) .none kV dc pm an (.ref cda) ct cc), sl⟩) (hcd : PySem.W.codeIn K (.ref cda) "BadRow.__init__" = true) (hno : PySem.W.findIn K (.ref C) (fname 18) = some none) : L2.FnOk P w K mg base (L2.CX P w) 1 f (PySem.W.ksFn "__init__" "BadRow.__init__" (L2.defArgs s_BadRow_init) (L2.defBody s_BadRow_init) (L2.defScope s_BadRow_init) .none kV dc pm an (.ref cda) ct cc) ["self", fname 18] (sp1 C (fname 18)) ∧ L2.Binds K (PySem.W.ksFn "__init__" "BadRow.__init__" (L2.defArgs s_BadRow_init) (L2.defBody s_BadRow_init) (L2.defScope s_BadRow_init) .none kV dc pm an (.ref cda) ct cc) ["self", fname 18] [] :=
  ⟨fn_exc1 (fld := fname 18) S hm lk hcd rfl ⟨rfl, rfl, rfl, rfl, rfl, rfl, by decide⟩ rfl (by decide) (by decide) hno (fun _ => rfl) (fun _ => rfl) (fun _ => rfl) (fun _ => ⟨_, rfl⟩), L2.Binds.all fun us hl => match us, hl with | [_, _], _ => rfl⟩
theorem fk_BadState {K : PySem.W.Frag} {cc cda : Addr} {kV dc pm ct : Value} {an : Option Addr} : L2.KBn K (PySem.W.ksFn "__init__" "BadState.__init__" (L2.defArgs s_BadState_init) (L2.defBody s_BadState_init) (L2.defScope s_BadState_init) .none kV dc pm an (.ref cda) ct cc) ["self", fname 16] 1 [fname 16] Wx.gR Wx.gRV :=
  ⟨fun s us ws _ l1 l2 => match us, ws, l1, l2 with | [_], [_], _, _ => .of_eq rfl, fun r1 r2 => Wx.vals_app r1 (Wx.vals_rev r2)⟩
theorem fx_BadState {P : Program} {w : World} {K : PySem.W.Frag} {mg : Str → Option Value} {base : Heap} {C cc cda f : Addr} {kV dc pm ct oc : Value} {an od : Option Addr} {sl : Array (Option Value)} (S : SupC P K C cc cda) (hm : mg "super" = none) (lk : K.lookup f = some ⟨oc, od, .func (PySem.W.ksFn "__init__" "BadState.__init__" (L2.defArgs s_BadState_init) (L2.defBody s_BadState_init) (L2.defScope s_BadState_init) .none kV dc pm an (.ref cda) ct cc), sl⟩) (hcd : PySem.W.codeIn K (.ref cda) "BadState.__init__" = true) (hno : PySem.W.findIn K (.ref C) (fname 16) = some none) : L2.FnOk P w K mg base (L2.CX P w) 1 f (PySem.W.ksFn "__init__" "BadState.__init__" (L2.defArgs s_BadState_init) (L2.defBody s_BadState_init) (L2.defScope s_BadState_init) .none kV dc pm an (.ref cda) ct cc) ["self", fname 16] (sp1 C (fname 16)) ∧ L2.Binds K (PySem.W.ksFn "__init__" "BadState.__init__" (L2.defArgs s_BadState_init) (L2.defBody s_BadState_init) (L2.defScope s_BadState_init) .none kV dc pm an (.ref cda) ct cc) ["self", fname 16] [] :=
  ⟨fn_exc1 (fld := fname 16) S hm lk hcd rfl ⟨rfl, rfl, rfl, rfl, rfl, rfl, by decide⟩ rfl (by decide) (by decide) hno (fun _ => rfl) (fun _ => rfl) (fun _ => rfl) (fun _ => ⟨_, rfl⟩), L2.Binds.all fun us hl => match us, hl with | [_, _], _ => rfl⟩
theorem fx_BadTally {P : Program} {w : World} {K : PySem.W.Frag} {mg : Str → Option Value} {base : Heap} {C cc cda f : Addr} {kV dc pm ct oc : Value} {an od : Option Addr} {sl : Array (Option Value)} (S : SupC P K C cc cda) (hm : mg "super" = none) (lk : K.lookup f = some ⟨oc, od, .func (PySem.W.ksFn "__init__" "BadTally.__init__" (L2.defArgs s_BadTally_init) (L2.defBody s_BadTally_init) (L2.defScope s_BadTally_init) .none kV dc pm an (.ref cda) ct cc), sl⟩) (hcd : PySem.W.codeIn K (.ref cda) "BadTally.__init__" = true) : L2.FnOk P w K mg base (L2.CX P w) 1 f (PySem.W.ksFn "__init__" "BadTally.__init__" (L2.defArgs s_BadTally_init) (L2.defBody s_BadTally_init) (L2.defScope s_BadTally_init) .none kV dc pm an (.ref cda) ct cc) ["self"] (sp0 C) ∧ L2.Binds K (PySem.W.ksFn "__init__" "BadTally.__init__" (L2.defArgs s_BadTally_init) (L2.defBody s_BadTally_init) (L2.defScope s_BadTally_init) .none kV dc pm an (.ref cda) ct cc) ["self"] [] :=
  ⟨fn_exc0 S hm lk hcd rfl ⟨rfl, rfl, rfl, rfl, rfl, rfl, by decide⟩ (fun _ => rfl) (fun _ => rfl) (fun _ => ⟨_, rfl⟩), L2.Binds.all fun us hl => match us, hl with | [_], _ => rfl⟩
theorem fk_BadText {K : PySem.W.Frag} {cc cda : Addr} {kV dc pm ct : Value} {an : Option Addr} : L2.KBn K (PySem.W.ksFn "__init__" "BadText.__init__" (L2.defArgs s_BadText_init) (L2.defBody s_BadText_init) (L2.defScope s_BadText_init) .none kV dc pm an (.ref cda) ct cc) ["self", fname 15] 1 [fname 15] Wx.gR Wx.gRV :=
  ⟨fun s us ws _ l1 l2 => match us, ws, l1, l2 with | [_], [_], _, _ => .of_eq rfl, fun r1 r2 => Wx.vals_app r1 (Wx.vals_rev r2)⟩
theorem fx_BadText {P : Program} {w : World} {K : PySem.W.Frag} {mg : Str → Option Value} {base : Heap} {C cc cda f : Addr} {kV dc pm ct oc : Value} {an od : Option Addr} {sl : Array (Option Value)} (S : SupC P K C cc cda) (hm : mg "super" = none) (lk : K.lookup f = some ⟨oc, od, .func (PySem.W.ksFn "__init__" "BadText.__init__" (L2.defArgs s_BadText_init) (L2.defBody s_BadText_init) (L2.defScope s_BadText_init) .none kV dc pm an (.ref cda) ct cc), sl⟩) (hcd : PySem.W.codeIn K (.ref cda) "BadText.__init__" = true) (hno : PySem.W.findIn K (.ref C) (fname 15) = some none) : L2.FnOk P w K mg base (L2.CX P w) 1 f (PySem.W.ksFn "__init__" "BadText.__init__" (L2.defArgs s_BadText_init) (L2.defBody s_BadText_init) (L2.defScope s_BadText_init) .none kV dc pm an (.ref cda) ct cc) ["self", fname 15] (sp1 C (fname 15)) ∧ L2.Binds K (PySem.W.ksFn "__init__" "BadText.__init__" (L2.defArgs s_BadText_init) (L2.defBody s_BadText_init) (L2.defScope s_BadText_init) .none kV dc pm an (.ref cda) ct cc) ["self", fname 15] [] :=
  ⟨fn_exc1 (fld := fname 15) S hm lk hcd rfl ⟨rfl, rfl, rfl, rfl, rfl, rfl, by decide⟩ rfl (by decide) (by decide) hno (fun _ => rfl) (fun _ => rfl) (fun _ => rfl) (fun _ => ⟨_, rfl⟩), L2.Binds.all fun us hl => match us, hl with | [_, _], _ => rfl⟩
theorem fk_NotSettled {K : PySem.W.Frag} {cc cda : Addr} {kV dc pm ct : Value} {an : Option Addr} : L2.KBn K (PySem.W.ksFn "__init__" "NotSettled.__init__" (L2.defArgs s_NotSettled_init) (L2.defBody s_NotSettled_init) (L2.defScope s_NotSettled_init) .none kV dc pm an (.ref cda) ct cc) ["self", fname 22] 1 [fname 22] Wx.gR Wx.gRV :=
  ⟨fun s us ws _ l1 l2 => match us, ws, l1, l2 with | [_], [_], _, _ => .of_eq rfl, fun r1 r2 => Wx.vals_app r1 (Wx.vals_rev r2)⟩
theorem fx_NotSettled {P : Program} {w : World} {K : PySem.W.Frag} {mg : Str → Option Value} {base : Heap} {C cc cda f : Addr} {kV dc pm ct oc : Value} {an od : Option Addr} {sl : Array (Option Value)} (S : SupC P K C cc cda) (hm : mg "super" = none) (lk : K.lookup f = some ⟨oc, od, .func (PySem.W.ksFn "__init__" "NotSettled.__init__" (L2.defArgs s_NotSettled_init) (L2.defBody s_NotSettled_init) (L2.defScope s_NotSettled_init) .none kV dc pm an (.ref cda) ct cc), sl⟩) (hcd : PySem.W.codeIn K (.ref cda) "NotSettled.__init__" = true) (hno : PySem.W.findIn K (.ref C) (fname 22) = some none) : L2.FnOk P w K mg base (L2.CX P w) 1 f (PySem.W.ksFn "__init__" "NotSettled.__init__" (L2.defArgs s_NotSettled_init) (L2.defBody s_NotSettled_init) (L2.defScope s_NotSettled_init) .none kV dc pm an (.ref cda) ct cc) ["self", fname 22] (sp1 C (fname 22)) ∧ L2.Binds K (PySem.W.ksFn "__init__" "NotSettled.__init__" (L2.defArgs s_NotSettled_init) (L2.defBody s_NotSettled_init) (L2.defScope s_NotSettled_init) .none kV dc pm an (.ref cda) ct cc) ["self", fname 22] [] :=
  ⟨fn_exc1 (fld := fname 22) S hm lk hcd rfl ⟨rfl, rfl, rfl, rfl, rfl, rfl, by decide⟩ rfl (by decide) (by decide) hno (fun _ => rfl) (fun _ => rfl) (fun _ => rfl) (fun _ => ⟨_, rfl⟩), L2.Binds.all fun us hl => match us, hl with | [_, _], _ => rfl⟩
theorem fk_TooMany {K : PySem.W.Frag} {cc cda : Addr} {kV dc pm ct : Value} {an : Option Addr} : L2.KBn K (PySem.W.ksFn "__init__" "TooMany.__init__" (L2.defArgs s_TooMany_init) (L2.defBody s_TooMany_init) (L2.defScope s_TooMany_init) .none kV dc pm an (.ref cda) ct cc) ["self", fname 17] 1 [fname 17] Wx.gR Wx.gRV :=
  ⟨fun s us ws _ l1 l2 => match us, ws, l1, l2 with | [_], [_], _, _ => .of_eq rfl, fun r1 r2 => Wx.vals_app r1 (Wx.vals_rev r2)⟩
theorem fx_TooMany {P : Program} {w : World} {K : PySem.W.Frag} {mg : Str → Option Value} {base : Heap} {C cc cda f : Addr} {kV dc pm ct oc : Value} {an od : Option Addr} {sl : Array (Option Value)} (S : SupC P K C cc cda) (hm : mg "super" = none) (lk : K.lookup f = some ⟨oc, od, .func (PySem.W.ksFn "__init__" "TooMany.__init__" (L2.defArgs s_TooMany_init) (L2.defBody s_TooMany_init) (L2.defScope s_TooMany_init) .none kV dc pm an (.ref cda) ct cc), sl⟩) (hcd : PySem.W.codeIn K (.ref cda) "TooMany.__init__" = true) (hno : PySem.W.findIn K (.ref C) (fname 17) = some none) : L2.FnOk P w K mg base (L2.CX P w) 1 f (PySem.W.ksFn "__init__" "TooMany.__init__" (L2.defArgs s_TooMany_init) (L2.defBody s_TooMany_init) (L2.defScope s_TooMany_init) .none kV dc pm an (.ref cda) ct cc) ["self", fname 17] (sp1 C (fname 17)) ∧ L2.Binds K (PySem.W.ksFn "__init__" "TooMany.__init__" (L2.defArgs s_TooMany_init) (L2.defBody s_TooMany_init) (L2.defScope s_TooMany_init) .none kV dc pm an (.ref cda) ct cc) ["self", fname 17] [] :=
  ⟨fn_exc1 (fld := fname 17) S hm lk hcd rfl ⟨rfl, rfl, rfl, rfl, rfl, rfl, by decide⟩ rfl (by decide) (by decide) hno (fun _ => rfl) (fun _ => rfl) (fun _ => rfl) (fun _ => ⟨_, rfl⟩), L2.Binds.all fun us hl => match us, hl with | [_, _], _ => rfl⟩
theorem fx_Unbounded {P : Program} {w : World} {K : PySem.W.Frag} {mg : Str → Option Value} {base : Heap} {C cc cda f : Addr} {kV dc pm ct oc : Value} {an od : Option Addr} {sl : Array (Option Value)} (S : SupC P K C cc cda) (hm : mg "super" = none) (lk : K.lookup f = some ⟨oc, od, .func (PySem.W.ksFn "__init__" "Unbounded.__init__" (L2.defArgs s_Unbounded_init) (L2.defBody s_Unbounded_init) (L2.defScope s_Unbounded_init) .none kV dc pm an (.ref cda) ct cc), sl⟩) (hcd : PySem.W.codeIn K (.ref cda) "Unbounded.__init__" = true) : L2.FnOk P w K mg base (L2.CX P w) 1 f (PySem.W.ksFn "__init__" "Unbounded.__init__" (L2.defArgs s_Unbounded_init) (L2.defBody s_Unbounded_init) (L2.defScope s_Unbounded_init) .none kV dc pm an (.ref cda) ct cc) ["self"] (sp0 C) ∧ L2.Binds K (PySem.W.ksFn "__init__" "Unbounded.__init__" (L2.defArgs s_Unbounded_init) (L2.defBody s_Unbounded_init) (L2.defScope s_Unbounded_init) .none kV dc pm an (.ref cda) ct cc) ["self"] [] :=
  ⟨fn_exc0 S hm lk hcd rfl ⟨rfl, rfl, rfl, rfl, rfl, rfl, by decide⟩ (fun _ => rfl) (fun _ => rfl) (fun _ => ⟨_, rfl⟩), L2.Binds.all fun us hl => match us, hl with | [_], _ => rfl⟩
theorem fk_UnknownArrow {K : PySem.W.Frag} {cc cda : Addr} {kV dc pm ct : Value} {an : Option Addr} : L2.KBn K (PySem.W.ksFn "__init__" "UnknownArrow.__init__" (L2.defArgs s_UnknownArrow_init) (L2.defBody s_UnknownArrow_init) (L2.defScope s_UnknownArrow_init) .none kV dc pm an (.ref cda) ct cc) ["self", fname 19] 1 [fname 19] Wx.gR Wx.gRV :=
  ⟨fun s us ws _ l1 l2 => match us, ws, l1, l2 with | [_], [_], _, _ => .of_eq rfl, fun r1 r2 => Wx.vals_app r1 (Wx.vals_rev r2)⟩
theorem fx_UnknownArrow {P : Program} {w : World} {K : PySem.W.Frag} {mg : Str → Option Value} {base : Heap} {C cc cda f : Addr} {kV dc pm ct oc : Value} {an od : Option Addr} {sl : Array (Option Value)} (S : SupC P K C cc cda) (hm : mg "super" = none) (lk : K.lookup f = some ⟨oc, od, .func (PySem.W.ksFn "__init__" "UnknownArrow.__init__" (L2.defArgs s_UnknownArrow_init) (L2.defBody s_UnknownArrow_init) (L2.defScope s_UnknownArrow_init) .none kV dc pm an (.ref cda) ct cc), sl⟩) (hcd : PySem.W.codeIn K (.ref cda) "UnknownArrow.__init__" = true) (hno : PySem.W.findIn K (.ref C) (fname 19) = some none) : L2.FnOk P w K mg base (L2.CX P w) 1 f (PySem.W.ksFn "__init__" "UnknownArrow.__init__" (L2.defArgs s_UnknownArrow_init) (L2.defBody s_UnknownArrow_init) (L2.defScope s_UnknownArrow_init) .none kV dc pm an (.ref cda) ct cc) ["self", fname 19] (sp1 C (fname 19)) ∧ L2.Binds K (PySem.W.ksFn "__init__" "UnknownArrow.__init__" (L2.defArgs s_UnknownArrow_init) (L2.defBody s_UnknownArrow_init) (L2.defScope s_UnknownArrow_init) .none kV dc pm an (.ref cda) ct cc) ["self", fname 19] [] :=
  ⟨fn_exc1 (fld := fname 19) S hm lk hcd rfl ⟨rfl, rfl, rfl, rfl, rfl, rfl, by decide⟩ rfl (by decide) (by decide) hno (fun _ => rfl) (fun _ => rfl) (fun _ => rfl) (fun _ => ⟨_, rfl⟩), L2.Binds.all fun us hl => match us, hl with | [_, _], _ => rfl⟩
theorem fk_UnknownState {K : PySem.W.Frag} {cc cda : Addr} {kV dc pm ct : Value} {an : Option Addr} : L2.KBn K (PySem.W.ksFn "__init__" "UnknownState.__init__" (L2.defArgs s_UnknownState_init) (L2.defBody s_UnknownState_init) (L2.defScope s_UnknownState_init) .none kV dc pm an (.ref cda) ct cc) ["self", fname 16] 1 [fname 16] Wx.gR Wx.gRV :=
  ⟨fun s us ws _ l1 l2 => match us, ws, l1, l2 with | [_], [_], _, _ => .of_eq rfl, fun r1 r2 => Wx.vals_app r1 (Wx.vals_rev r2)⟩
theorem fx_UnknownState {P : Program} {w : World} {K : PySem.W.Frag} {mg : Str → Option Value} {base : Heap} {C cc cda f : Addr} {kV dc pm ct oc : Value} {an od : Option Addr} {sl : Array (Option Value)} (S : SupC P K C cc cda) (hm : mg "super" = none) (lk : K.lookup f = some ⟨oc, od, .func (PySem.W.ksFn "__init__" "UnknownState.__init__" (L2.defArgs s_UnknownState_init) (L2.defBody s_UnknownState_init) (L2.defScope s_UnknownState_init) .none kV dc pm an (.ref cda) ct cc), sl⟩) (hcd : PySem.W.codeIn K (.ref cda) "UnknownState.__init__" = true) (hno : PySem.W.findIn K (.ref C) (fname 16) = some none) : L2.FnOk P w K mg base (L2.CX P w) 1 f (PySem.W.ksFn "__init__" "UnknownState.__init__" (L2.defArgs s_UnknownState_init) (L2.defBody s_UnknownState_init) (L2.defScope s_UnknownState_init) .none kV dc pm an (.ref cda) ct cc) ["self", fname 16] (sp1 C (fname 16)) ∧ L2.Binds K (PySem.W.ksFn "__init__" "UnknownState.__init__" (L2.defArgs s_UnknownState_init) (L2.defBody s_UnknownState_init) (L2.defScope s_UnknownState_init) .none kV dc pm an (.ref cda) ct cc) ["self", fname 16] [] :=
  ⟨fn_exc1 (fld := fname 16) S hm lk hcd rfl ⟨rfl, rfl, rfl, rfl, rfl, rfl, by decide⟩ rfl (by decide) (by decide) hno (fun _ => rfl) (fun _ => rfl) (fun _ => rfl) (fun _ => ⟨_, rfl⟩), L2.Binds.all fun us hl => match us, hl with | [_, _], _ => rfl⟩
end
open PySem PySem.Spec PyProof.Rows L2 Wx Is
theorem all_mk {l : PySem.W.OpenLaw} {w : World} {K : PySem.W.Frag} {h : Heap} {mg : Str → Option Value} {fa : Addr} (X : K.In h) (G : h.Ns mainGlobals mg) (hfa : mg "law" = some (.ref fa))
    {A_PaidError : Addr}
    {A_BadArrow f_BadArrow cc_BadArrow cda_BadArrow N_BadArrow : Addr} {nm_BadArrow q_BadArrow : Str} {bs_BadArrow bm_BadArrow sub_BadArrow : List Value} {sn_BadArrow : List Str} {ab_BadArrow : Bool} {col_BadArrow : Option Bool} {dd_BadArrow od_BadArrow an_BadArrow cld_BadArrow cdd_BadArrow : Option Addr} {k0_BadArrow k1_BadArrow k2_BadArrow k3_BadArrow k5_BadArrow : Option Value} {oc_BadArrow kV_BadArrow dc_BadArrow pm_BadArrow ct_BadArrow ccl_BadArrow cl_BadArrow : Value} {sl_BadArrow csl_BadArrow ccs_BadArrow : Array (Option Value)} {vs_BadArrow : Array Value} {file_BadArrow : Str} {tf_BadArrow : Tok}
    {A_BadExpression f_BadExpression cc_BadExpression cda_BadExpression N_BadExpression : Addr} {nm_BadExpression q_BadExpression : Str} {bs_BadExpression bm_BadExpression sub_BadExpression : List Value} {sn_BadExpression : List Str} {ab_BadExpression : Bool} {col_BadExpression : Option Bool} {dd_BadExpression od_BadExpression an_BadExpression cld_BadExpression cdd_BadExpression : Option Addr} {k0_BadExpression k1_BadExpression k2_BadExpression k3_BadExpression k5_BadExpression : Option Value} {oc_BadExpression kV_BadExpression dc_BadExpression pm_BadExpression ct_BadExpression ccl_BadExpression cl_BadExpression : Value} {sl_BadExpression csl_BadExpression ccs_BadExpression : Array (Option Value)} {vs_BadExpression : Array Value} {file_BadExpression : Str} {tf_BadExpression : Tok}
    {A_BadNumber f_BadNumber cc_BadNumber cda_BadNumber N_BadNumber : Addr} {nm_BadNumber q_BadNumber : Str} {bs_BadNumber bm_BadNumber sub_BadNumber : List Value} {sn_BadNumber : List Str} {ab_BadNumber : Bool} {col_BadNumber : Option Bool} {dd_BadNumber od_BadNumber an_BadNumber cld_BadNumber cdd_BadNumber : Option Addr} {k0_BadNumber k1_BadNumber k2_BadNumber k3_BadNumber k5_BadNumber : Option Value} {oc_BadNumber kV_BadNumber dc_BadNumber pm_BadNumber ct_BadNumber ccl_BadNumber cl_BadNumber : Value} {sl_BadNumber csl_BadNumber ccs_BadNumber : Array (Option Value)} {vs_BadNumber : Array Value} {file_BadNumber : Str} {tf_BadNumber : Tok}
    {A_BadRow f_BadRow cc_BadRow cda_BadRow N_BadRow : Addr} {nm_BadRow q_BadRow : Str} {bs_BadRow bm_BadRow sub_BadRow : List Value} {sn_BadRow : List Str} {ab_BadRow : Bool} {col_BadRow : Option Bool} {dd_BadRow od_BadRow an_BadRow cld_BadRow cdd_BadRow : Option Addr} {k0_BadRow k1_BadRow k2_BadRow k3_BadRow k5_BadRow : Option Value} {oc_BadRow kV_BadRow dc_BadRow pm_BadRow ct_BadRow ccl_BadRow cl_BadRow : Value} {sl_BadRow csl_BadRow ccs_BadRow : Array (Option Value)} {vs_BadRow : Array Value} {file_BadRow : Str} {tf_BadRow : Tok}
    {A_BadState f_BadState cc_BadState cda_BadState N_BadState : Addr} {nm_BadState q_BadState : Str} {bs_BadState bm_BadState sub_BadState : List Value} {sn_BadState : List Str} {ab_BadState : Bool} {col_BadState : Option Bool} {dd_BadState od_BadState an_BadState cld_BadState cdd_BadState : Option Addr} {k0_BadState k1_BadState k2_BadState k3_BadState k5_BadState : Option Value} {oc_BadState kV_BadState dc_BadState pm_BadState ct_BadState ccl_BadState cl_BadState : Value} {sl_BadState csl_BadState ccs_BadState : Array (Option Value)} {vs_BadState : Array Value} {file_BadState : Str} {tf_BadState : Tok}
    {A_BadTally f_BadTally cc_BadTally cda_BadTally N_BadTally : Addr} {nm_BadTally q_BadTally : Str} {bs_BadTally bm_BadTally sub_BadTally : List Value} {sn_BadTally : List Str} {ab_BadTally : Bool} {col_BadTally : Option Bool} {dd_BadTally od_BadTally an_BadTally cld_BadTally cdd_BadTally : Option Addr} {k0_BadTally k1_BadTally k2_BadTally k3_BadTally k5_BadTally : Option Value} {oc_BadTally kV_BadTally dc_BadTally pm_BadTally ct_BadTally ccl_BadTally cl_BadTally : Value} {sl_BadTally csl_BadTally ccs_BadTally : Array (Option Value)} {vs_BadTally : Array Value} {file_BadTally : Str} {tf_BadTally : Tok}
    {A_BadText f_BadText cc_BadText cda_BadText N_BadText : Addr} {nm_BadText q_BadText : Str} {bs_BadText bm_BadText sub_BadText : List Value} {sn_BadText : List Str} {ab_BadText : Bool} {col_BadText : Option Bool} {dd_BadText od_BadText an_BadText cld_BadText cdd_BadText : Option Addr} {k0_BadText k1_BadText k2_BadText k3_BadText k5_BadText : Option Value} {oc_BadText kV_BadText dc_BadText pm_BadText ct_BadText ccl_BadText cl_BadText : Value} {sl_BadText csl_BadText ccs_BadText : Array (Option Value)} {vs_BadText : Array Value} {file_BadText : Str} {tf_BadText : Tok}
    {A_NotSettled f_NotSettled cc_NotSettled cda_NotSettled N_NotSettled : Addr} {nm_NotSettled q_NotSettled : Str} {bs_NotSettled bm_NotSettled sub_NotSettled : List Value} {sn_NotSettled : List Str} {ab_NotSettled : Bool} {col_NotSettled : Option Bool} {dd_NotSettled od_NotSettled an_NotSettled cld_NotSettled cdd_NotSettled : Option Addr} {k0_NotSettled k1_NotSettled k2_NotSettled k3_NotSettled k5_NotSettled : Option Value} {oc_NotSettled kV_NotSettled dc_NotSettled pm_NotSettled ct_NotSettled ccl_NotSettled cl_NotSettled : Value} {sl_NotSettled csl_NotSettled ccs_NotSettled : Array (Option Value)} {vs_NotSettled : Array Value} {file_NotSettled : Str} {tf_NotSettled : Tok}
    {A_TooMany f_TooMany cc_TooMany cda_TooMany N_TooMany : Addr} {nm_TooMany q_TooMany : Str} {bs_TooMany bm_TooMany sub_TooMany : List Value} {sn_TooMany : List Str} {ab_TooMany : Bool} {col_TooMany : Option Bool} {dd_TooMany od_TooMany an_TooMany cld_TooMany cdd_TooMany : Option Addr} {k0_TooMany k1_TooMany k2_TooMany k3_TooMany k5_TooMany : Option Value} {oc_TooMany kV_TooMany dc_TooMany pm_TooMany ct_TooMany ccl_TooMany cl_TooMany : Value} {sl_TooMany csl_TooMany ccs_TooMany : Array (Option Value)} {vs_TooMany : Array Value} {file_TooMany : Str} {tf_TooMany : Tok}
    {A_Unbounded f_Unbounded cc_Unbounded cda_Unbounded N_Unbounded : Addr} {nm_Unbounded q_Unbounded : Str} {bs_Unbounded bm_Unbounded sub_Unbounded : List Value} {sn_Unbounded : List Str} {ab_Unbounded : Bool} {col_Unbounded : Option Bool} {dd_Unbounded od_Unbounded an_Unbounded cld_Unbounded cdd_Unbounded : Option Addr} {k0_Unbounded k1_Unbounded k2_Unbounded k3_Unbounded k5_Unbounded : Option Value} {oc_Unbounded kV_Unbounded dc_Unbounded pm_Unbounded ct_Unbounded ccl_Unbounded cl_Unbounded : Value} {sl_Unbounded csl_Unbounded ccs_Unbounded : Array (Option Value)} {vs_Unbounded : Array Value} {file_Unbounded : Str} {tf_Unbounded : Tok}
    {A_UnknownArrow f_UnknownArrow cc_UnknownArrow cda_UnknownArrow N_UnknownArrow : Addr} {nm_UnknownArrow q_UnknownArrow : Str} {bs_UnknownArrow bm_UnknownArrow sub_UnknownArrow : List Value} {sn_UnknownArrow : List Str} {ab_UnknownArrow : Bool} {col_UnknownArrow : Option Bool} {dd_UnknownArrow od_UnknownArrow an_UnknownArrow cld_UnknownArrow cdd_UnknownArrow : Option Addr} {k0_UnknownArrow k1_UnknownArrow k2_UnknownArrow k3_UnknownArrow k5_UnknownArrow : Option Value} {oc_UnknownArrow kV_UnknownArrow dc_UnknownArrow pm_UnknownArrow ct_UnknownArrow ccl_UnknownArrow cl_UnknownArrow : Value} {sl_UnknownArrow csl_UnknownArrow ccs_UnknownArrow : Array (Option Value)} {vs_UnknownArrow : Array Value} {file_UnknownArrow : Str} {tf_UnknownArrow : Tok}
    {A_UnknownState f_UnknownState cc_UnknownState cda_UnknownState N_UnknownState : Addr} {nm_UnknownState q_UnknownState : Str} {bs_UnknownState bm_UnknownState sub_UnknownState : List Value} {sn_UnknownState : List Str} {ab_UnknownState : Bool} {col_UnknownState : Option Bool} {dd_UnknownState od_UnknownState an_UnknownState cld_UnknownState cdd_UnknownState : Option Addr} {k0_UnknownState k1_UnknownState k2_UnknownState k3_UnknownState k5_UnknownState : Option Value} {oc_UnknownState kV_UnknownState dc_UnknownState pm_UnknownState ct_UnknownState ccl_UnknownState cl_UnknownState : Value} {sl_UnknownState csl_UnknownState ccs_UnknownState : Array (Option Value)} {vs_UnknownState : Array Value} {file_UnknownState : Str} {tf_UnknownState : Tok}
    {f0 : Addr} {od0 an0 : Option Addr} {sl0 : Array (Option Value)} {oc0 kV0 dc0 pm0 cd0 ct0 : Value}
    {f1 : Addr} {od1 an1 : Option Addr} {sl1 : Array (Option Value)} {oc1 kV1 dc1 pm1 cd1 ct1 : Value}
    {f2 : Addr} {od2 an2 : Option Addr} {sl2 : Array (Option Value)} {oc2 kV2 dc2 pm2 cd2 ct2 : Value}
    {f3 : Addr} {od3 an3 : Option Addr} {sl3 : Array (Option Value)} {oc3 kV3 dc3 pm3 cd3 ct3 : Value}
    {f4 : Addr} {od4 an4 : Option Addr} {sl4 : Array (Option Value)} {oc4 kV4 dc4 pm4 cd4 ct4 : Value}
    {f5 : Addr} {od5 an5 : Option Addr} {sl5 : Array (Option Value)} {oc5 kV5 dc5 pm5 cd5 ct5 : Value}
    {f6 : Addr} {od6 an6 : Option Addr} {sl6 : Array (Option Value)} {oc6 kV6 dc6 pm6 cd6 ct6 : Value}
    (aC_PaidError : PySem.W.nsIn K mainGlobals "PaidError" = some (some (.ref A_PaidError)))
    (eC_PaidError : PySem.W.subIn K (.ref A_PaidError) (.type "BaseException") = some true)
    (tC_PaidError : PySem.W.typeIn K (.ref A_PaidError) = some (.type "type"))
    (iC_PaidError : PySem.W.isClsIn K A_PaidError = true)
    (sp_exc : PySem.W.specialIn K (.builtin "object.__class__") "__get__" = some (some (.builtin "getset_descriptor.__get__")))
    (tk_exc : PySem.W.takesIn K (.builtin "object.__class__") = some true)
    (sp_BadArrow : PySem.W.subIn K (.ref A_BadArrow) (.ref A_PaidError) = some true)
    (sp_BadExpression : PySem.W.subIn K (.ref A_BadExpression) (.ref A_PaidError) = some true)
    (sp_BadNumber : PySem.W.subIn K (.ref A_BadNumber) (.ref A_PaidError) = some true)
    (sp_BadRow : PySem.W.subIn K (.ref A_BadRow) (.ref A_PaidError) = some true)
    (sp_BadState : PySem.W.subIn K (.ref A_BadState) (.ref A_PaidError) = some true)
    (sp_BadTally : PySem.W.subIn K (.ref A_BadTally) (.ref A_PaidError) = some true)
    (sp_BadText : PySem.W.subIn K (.ref A_BadText) (.ref A_PaidError) = some true)
    (sp_NotSettled : PySem.W.subIn K (.ref A_NotSettled) (.ref A_PaidError) = some true)
    (sp_TooMany : PySem.W.subIn K (.ref A_TooMany) (.ref A_PaidError) = some true)
    (sp_Unbounded : PySem.W.subIn K (.ref A_Unbounded) (.ref A_PaidError) = some true)
    (sp_UnknownArrow : PySem.W.subIn K (.ref A_UnknownArrow) (.ref A_PaidError) = some true)
    (sp_UnknownState : PySem.W.subIn K (.ref A_UnknownState) (.ref A_PaidError) = some true)
    (aC_BadArrow : PySem.W.nsIn K mainGlobals "BadArrow" = some (some (.ref A_BadArrow)))
    (xL_BadArrow : K.lookup A_BadArrow = some (excClassObj nm_BadArrow q_BadArrow A_BadArrow N_BadArrow bs_BadArrow bm_BadArrow true sn_BadArrow sub_BadArrow ab_BadArrow col_BadArrow dd_BadArrow k0_BadArrow k1_BadArrow k2_BadArrow k3_BadArrow k5_BadArrow "ValueError.__new__"))
    (rv_BadArrow : PySem.HandSPX.refsVE bm_BadArrow = true)
    (sa_BadArrow : PySem.W.findIn K (.ref A_BadArrow) "__setattr__" = some (some (.builtin "object.__setattr__")))
    (eC_BadArrow : PySem.W.subIn K (.ref A_BadArrow) (.type "BaseException") = some true)
    (tC_BadArrow : PySem.W.typeIn K (.ref A_BadArrow) = some (.type "type"))
    (kC_BadArrow : PySem.W.keepIn K (.ref A_BadArrow) = true)
    (iC_BadArrow : PySem.W.isClsIn K A_BadArrow = true)
    (sC_BadArrow : PySem.W.subIn K (.ref A_BadArrow) (.ref A_BadArrow) = some true)
    (ai_BadArrow : PySem.W.findIn K (.ref A_BadArrow) "__init__" = some (some (.ref f_BadArrow)))
    (ti_BadArrow : PySem.W.typeIn K (.ref f_BadArrow) = some (.type "function"))
    (li_BadArrow : K.lookup f_BadArrow = some ⟨oc_BadArrow, od_BadArrow, .func (PySem.W.ksFn "__init__" "BadArrow.__init__" (defArgs s_BadArrow_init) (defBody s_BadArrow_init) (defScope s_BadArrow_init) .none kV_BadArrow dc_BadArrow pm_BadArrow an_BadArrow (.ref cda_BadArrow) ct_BadArrow cc_BadArrow), sl_BadArrow⟩)
    (ci_BadArrow : PySem.W.codeIn K (.ref cda_BadArrow) "BadArrow.__init__" = true)
    (ce_BadArrow : K.lookup cc_BadArrow = some ⟨cl_BadArrow, cld_BadArrow, .cell (some (.ref A_BadArrow)), csl_BadArrow⟩)
    (co_BadArrow : K.lookup cda_BadArrow = some ⟨ccl_BadArrow, cdd_BadArrow, .fields vs_BadArrow, ccs_BadArrow⟩)
    (vf_BadArrow : vs_BadArrow[2]? = some (.str file_BadArrow tf_BadArrow))
    (pf_BadArrow : ((l.prog.main.file : Str) == file_BadArrow) = true)
    (su_BadArrow : PySem.W.ks_superIn K A_BadArrow A_BadArrow "__init__" = some (some (.builtin "ValueError.__init__")))
    (sv_BadArrow : PySem.W.subIn K (.ref A_BadArrow) (.type "ValueError") = some true)
    (mr_BadArrow : PySem.W.mroIn K A_BadArrow (.ref A_BadArrow) = some true)
    (nf_BadArrow : PySem.W.findIn K (.ref A_BadArrow) (fname 15) = some none)
    (ga_BadArrow : PySem.W.findIn K (.ref A_BadArrow) "__getattribute__" = some (some (.builtin "BaseException.__getattribute__")))
    (gg_BadArrow : PySem.W.findIn K (.ref A_BadArrow) "__getattr__" = some none)
    (hc_BadArrow : PySem.W.hasDictIn K A_BadArrow = true)
    (ck_BadArrow : PySem.W.findIn K (.ref A_BadArrow) "__class__" = some (some (.builtin "object.__class__")))
    (mo_BadArrow : PySem.W.mroIn K A_BadArrow (.type "object") = some true)
    (aC_BadExpression : PySem.W.nsIn K mainGlobals "BadExpression" = some (some (.ref A_BadExpression)))
    (xL_BadExpression : K.lookup A_BadExpression = some (excClassObj nm_BadExpression q_BadExpression A_BadExpression N_BadExpression bs_BadExpression bm_BadExpression true sn_BadExpression sub_BadExpression ab_BadExpression col_BadExpression dd_BadExpression k0_BadExpression k1_BadExpression k2_BadExpression k3_BadExpression k5_BadExpression "ValueError.__new__"))
    (rv_BadExpression : PySem.HandSPX.refsVE bm_BadExpression = true)
    (sa_BadExpression : PySem.W.findIn K (.ref A_BadExpression) "__setattr__" = some (some (.builtin "object.__setattr__")))
    (eC_BadExpression : PySem.W.subIn K (.ref A_BadExpression) (.type "BaseException") = some true)
    (tC_BadExpression : PySem.W.typeIn K (.ref A_BadExpression) = some (.type "type"))
    (kC_BadExpression : PySem.W.keepIn K (.ref A_BadExpression) = true)
    (iC_BadExpression : PySem.W.isClsIn K A_BadExpression = true)
    (sC_BadExpression : PySem.W.subIn K (.ref A_BadExpression) (.ref A_BadExpression) = some true)
    (ai_BadExpression : PySem.W.findIn K (.ref A_BadExpression) "__init__" = some (some (.ref f_BadExpression)))
    (ti_BadExpression : PySem.W.typeIn K (.ref f_BadExpression) = some (.type "function"))
    (li_BadExpression : K.lookup f_BadExpression = some ⟨oc_BadExpression, od_BadExpression, .func (PySem.W.ksFn "__init__" "BadExpression.__init__" (defArgs s_BadExpression_init) (defBody s_BadExpression_init) (defScope s_BadExpression_init) .none kV_BadExpression dc_BadExpression pm_BadExpression an_BadExpression (.ref cda_BadExpression) ct_BadExpression cc_BadExpression), sl_BadExpression⟩)
    (ci_BadExpression : PySem.W.codeIn K (.ref cda_BadExpression) "BadExpression.__init__" = true)
    (ce_BadExpression : K.lookup cc_BadExpression = some ⟨cl_BadExpression, cld_BadExpression, .cell (some (.ref A_BadExpression)), csl_BadExpression⟩)
    (co_BadExpression : K.lookup cda_BadExpression = some ⟨ccl_BadExpression, cdd_BadExpression, .fields vs_BadExpression, ccs_BadExpression⟩)
    (vf_BadExpression : vs_BadExpression[2]? = some (.str file_BadExpression tf_BadExpression))
    (pf_BadExpression : ((l.prog.main.file : Str) == file_BadExpression) = true)
    (su_BadExpression : PySem.W.ks_superIn K A_BadExpression A_BadExpression "__init__" = some (some (.builtin "ValueError.__init__")))
    (sv_BadExpression : PySem.W.subIn K (.ref A_BadExpression) (.type "ValueError") = some true)
    (mr_BadExpression : PySem.W.mroIn K A_BadExpression (.ref A_BadExpression) = some true)
    (nf_BadExpression : PySem.W.findIn K (.ref A_BadExpression) (fname 21) = some none)
    (ga_BadExpression : PySem.W.findIn K (.ref A_BadExpression) "__getattribute__" = some (some (.builtin "BaseException.__getattribute__")))
    (gg_BadExpression : PySem.W.findIn K (.ref A_BadExpression) "__getattr__" = some none)
    (hc_BadExpression : PySem.W.hasDictIn K A_BadExpression = true)
    (ck_BadExpression : PySem.W.findIn K (.ref A_BadExpression) "__class__" = some (some (.builtin "object.__class__")))
    (mo_BadExpression : PySem.W.mroIn K A_BadExpression (.type "object") = some true)
    (aC_BadNumber : PySem.W.nsIn K mainGlobals "BadNumber" = some (some (.ref A_BadNumber)))
    (xL_BadNumber : K.lookup A_BadNumber = some (excClassObj nm_BadNumber q_BadNumber A_BadNumber N_BadNumber bs_BadNumber bm_BadNumber true sn_BadNumber sub_BadNumber ab_BadNumber col_BadNumber dd_BadNumber k0_BadNumber k1_BadNumber k2_BadNumber k3_BadNumber k5_BadNumber "ValueError.__new__"))
    (rv_BadNumber : PySem.HandSPX.refsVE bm_BadNumber = true)
    (sa_BadNumber : PySem.W.findIn K (.ref A_BadNumber) "__setattr__" = some (some (.builtin "object.__setattr__")))
    (eC_BadNumber : PySem.W.subIn K (.ref A_BadNumber) (.type "BaseException") = some true)
    (tC_BadNumber : PySem.W.typeIn K (.ref A_BadNumber) = some (.type "type"))
    (kC_BadNumber : PySem.W.keepIn K (.ref A_BadNumber) = true)
    (iC_BadNumber : PySem.W.isClsIn K A_BadNumber = true)
    (sC_BadNumber : PySem.W.subIn K (.ref A_BadNumber) (.ref A_BadNumber) = some true)
    (ai_BadNumber : PySem.W.findIn K (.ref A_BadNumber) "__init__" = some (some (.ref f_BadNumber)))
    (ti_BadNumber : PySem.W.typeIn K (.ref f_BadNumber) = some (.type "function"))
    (li_BadNumber : K.lookup f_BadNumber = some ⟨oc_BadNumber, od_BadNumber, .func (PySem.W.ksFn "__init__" "BadNumber.__init__" (defArgs s_BadNumber_init) (defBody s_BadNumber_init) (defScope s_BadNumber_init) .none kV_BadNumber dc_BadNumber pm_BadNumber an_BadNumber (.ref cda_BadNumber) ct_BadNumber cc_BadNumber), sl_BadNumber⟩)
    (ci_BadNumber : PySem.W.codeIn K (.ref cda_BadNumber) "BadNumber.__init__" = true)
    (ce_BadNumber : K.lookup cc_BadNumber = some ⟨cl_BadNumber, cld_BadNumber, .cell (some (.ref A_BadNumber)), csl_BadNumber⟩)
    (co_BadNumber : K.lookup cda_BadNumber = some ⟨ccl_BadNumber, cdd_BadNumber, .fields vs_BadNumber, ccs_BadNumber⟩)
    (vf_BadNumber : vs_BadNumber[2]? = some (.str file_BadNumber tf_BadNumber))
    (pf_BadNumber : ((l.prog.main.file : Str) == file_BadNumber) = true)
    (su_BadNumber : PySem.W.ks_superIn K A_BadNumber A_BadNumber "__init__" = some (some (.builtin "ValueError.__init__")))
    (sv_BadNumber : PySem.W.subIn K (.ref A_BadNumber) (.type "ValueError") = some true)
    (mr_BadNumber : PySem.W.mroIn K A_BadNumber (.ref A_BadNumber) = some true)
    (nf_BadNumber : PySem.W.findIn K (.ref A_BadNumber) (fname 20) = some none)
    (ga_BadNumber : PySem.W.findIn K (.ref A_BadNumber) "__getattribute__" = some (some (.builtin "BaseException.__getattribute__")))
    (gg_BadNumber : PySem.W.findIn K (.ref A_BadNumber) "__getattr__" = some none)
    (hc_BadNumber : PySem.W.hasDictIn K A_BadNumber = true)
    (ck_BadNumber : PySem.W.findIn K (.ref A_BadNumber) "__class__" = some (some (.builtin "object.__class__")))
    (mo_BadNumber : PySem.W.mroIn K A_BadNumber (.type "object") = some true)
    (aC_BadRow : PySem.W.nsIn K mainGlobals "BadRow" = some (some (.ref A_BadRow)))
    (xL_BadRow : K.lookup A_BadRow = some (excClassObj nm_BadRow q_BadRow A_BadRow N_BadRow bs_BadRow bm_BadRow true sn_BadRow sub_BadRow ab_BadRow col_BadRow dd_BadRow k0_BadRow k1_BadRow k2_BadRow k3_BadRow k5_BadRow "ValueError.__new__"))
    (rv_BadRow : PySem.HandSPX.refsVE bm_BadRow = true)
    (sa_BadRow : PySem.W.findIn K (.ref A_BadRow) "__setattr__" = some (some (.builtin "object.__setattr__")))
    (eC_BadRow : PySem.W.subIn K (.ref A_BadRow) (.type "BaseException") = some true)
    (tC_BadRow : PySem.W.typeIn K (.ref A_BadRow) = some (.type "type"))
    (kC_BadRow : PySem.W.keepIn K (.ref A_BadRow) = true)
    (iC_BadRow : PySem.W.isClsIn K A_BadRow = true)
    (sC_BadRow : PySem.W.subIn K (.ref A_BadRow) (.ref A_BadRow) = some true)
    (ai_BadRow : PySem.W.findIn K (.ref A_BadRow) "__init__" = some (some (.ref f_BadRow)))
    (ti_BadRow : PySem.W.typeIn K (.ref f_BadRow) = some (.type "function"))
    (li_BadRow : K.lookup f_BadRow = some ⟨oc_BadRow, od_BadRow, .func (PySem.W.ksFn "__init__" "BadRow.__init__" (defArgs s_BadRow_init) (defBody s_BadRow_init) (defScope s_BadRow_init) .none kV_BadRow dc_BadRow pm_BadRow an_BadRow (.ref cda_BadRow) ct_BadRow cc_BadRow), sl_BadRow⟩)
    (ci_BadRow : PySem.W.codeIn K (.ref cda_BadRow) "BadRow.__init__" = true)
    (ce_BadRow : K.lookup cc_BadRow = some ⟨cl_BadRow, cld_BadRow, .cell (some (.ref A_BadRow)), csl_BadRow⟩)
    (co_BadRow : K.lookup cda_BadRow = some ⟨ccl_BadRow, cdd_BadRow, .fields vs_BadRow, ccs_BadRow⟩)
    (vf_BadRow : vs_BadRow[2]? = some (.str file_BadRow tf_BadRow))
    (pf_BadRow : ((l.prog.main.file : Str) == file_BadRow) = true)
    (su_BadRow : PySem.W.ks_superIn K A_BadRow A_BadRow "__init__" = some (some (.builtin "ValueError.__init__")))
    (sv_BadRow : PySem.W.subIn K (.ref A_BadRow) (.type "ValueError") = some true)
    (mr_BadRow : PySem.W.mroIn K A_BadRow (.ref A_BadRow) = some true)
    (nf_BadRow : PySem.W.findIn K (.ref A_BadRow) (fname 18) = some none)
    (ga_BadRow : PySem.W.findIn K (.ref A_BadRow) "__getattribute__" = some (some (.builtin "BaseException.__getattribute__")))
    (gg_BadRow : PySem.W.findIn K (.ref A_BadRow) "__getattr__" = some none)
    (hc_BadRow : PySem.W.hasDictIn K A_BadRow = true)
    (ck_BadRow : PySem.W.findIn K (.ref A_BadRow) "__class__" = some (some (.builtin "object.__class__")))
    (mo_BadRow : PySem.W.mroIn K A_BadRow (.type "object") = some true)
    (aC_BadState : PySem.W.nsIn K mainGlobals "BadState" = some (some (.ref A_BadState)))
    (xL_BadState : K.lookup A_BadState = some (excClassObj nm_BadState q_BadState A_BadState N_BadState bs_BadState bm_BadState true sn_BadState sub_BadState ab_BadState col_BadState dd_BadState k0_BadState k1_BadState k2_BadState k3_BadState k5_BadState "ValueError.__new__"))
    (rv_BadState : PySem.HandSPX.refsVE bm_BadState = true)
    (sa_BadState : PySem.W.findIn K (.ref A_BadState) "__setattr__" = some (some (.builtin "object.__setattr__")))
    (eC_BadState : PySem.W.subIn K (.ref A_BadState) (.type "BaseException") = some true)
    (tC_BadState : PySem.W.typeIn K (.ref A_BadState) = some (.type "type"))
    (kC_BadState : PySem.W.keepIn K (.ref A_BadState) = true)
    (iC_BadState : PySem.W.isClsIn K A_BadState = true)
    (sC_BadState : PySem.W.subIn K (.ref A_BadState) (.ref A_BadState) = some true)
    (ai_BadState : PySem.W.findIn K (.ref A_BadState) "__init__" = some (some (.ref f_BadState)))
    (ti_BadState : PySem.W.typeIn K (.ref f_BadState) = some (.type "function"))
    (li_BadState : K.lookup f_BadState = some ⟨oc_BadState, od_BadState, .func (PySem.W.ksFn "__init__" "BadState.__init__" (defArgs s_BadState_init) (defBody s_BadState_init) (defScope s_BadState_init) .none kV_BadState dc_BadState pm_BadState an_BadState (.ref cda_BadState) ct_BadState cc_BadState), sl_BadState⟩)
    (ci_BadState : PySem.W.codeIn K (.ref cda_BadState) "BadState.__init__" = true)
    (ce_BadState : K.lookup cc_BadState = some ⟨cl_BadState, cld_BadState, .cell (some (.ref A_BadState)), csl_BadState⟩)
    (co_BadState : K.lookup cda_BadState = some ⟨ccl_BadState, cdd_BadState, .fields vs_BadState, ccs_BadState⟩)
    (vf_BadState : vs_BadState[2]? = some (.str file_BadState tf_BadState))
    (pf_BadState : ((l.prog.main.file : Str) == file_BadState) = true)
    (su_BadState : PySem.W.ks_superIn K A_BadState A_BadState "__init__" = some (some (.builtin "ValueError.__init__")))
    (sv_BadState : PySem.W.subIn K (.ref A_BadState) (.type "ValueError") = some true)
    (mr_BadState : PySem.W.mroIn K A_BadState (.ref A_BadState) = some true)
    (nf_BadState : PySem.W.findIn K (.ref A_BadState) (fname 16) = some none)
    (ga_BadState : PySem.W.findIn K (.ref A_BadState) "__getattribute__" = some (some (.builtin "BaseException.__getattribute__")))
    (gg_BadState : PySem.W.findIn K (.ref A_BadState) "__getattr__" = some none)
    (hc_BadState : PySem.W.hasDictIn K A_BadState = true)
    (ck_BadState : PySem.W.findIn K (.ref A_BadState) "__class__" = some (some (.builtin "object.__class__")))
    (mo_BadState : PySem.W.mroIn K A_BadState (.type "object") = some true)
    (aC_BadTally : PySem.W.nsIn K mainGlobals "BadTally" = some (some (.ref A_BadTally)))
    (xL_BadTally : K.lookup A_BadTally = some (excClassObj nm_BadTally q_BadTally A_BadTally N_BadTally bs_BadTally bm_BadTally true sn_BadTally sub_BadTally ab_BadTally col_BadTally dd_BadTally k0_BadTally k1_BadTally k2_BadTally k3_BadTally k5_BadTally "ValueError.__new__"))
    (rv_BadTally : PySem.HandSPX.refsVE bm_BadTally = true)
    (sa_BadTally : PySem.W.findIn K (.ref A_BadTally) "__setattr__" = some (some (.builtin "object.__setattr__")))
    (eC_BadTally : PySem.W.subIn K (.ref A_BadTally) (.type "BaseException") = some true)
    (tC_BadTally : PySem.W.typeIn K (.ref A_BadTally) = some (.type "type"))
    (kC_BadTally : PySem.W.keepIn K (.ref A_BadTally) = true)
    (iC_BadTally : PySem.W.isClsIn K A_BadTally = true)
    (sC_BadTally : PySem.W.subIn K (.ref A_BadTally) (.ref A_BadTally) = some true)
    (ai_BadTally : PySem.W.findIn K (.ref A_BadTally) "__init__" = some (some (.ref f_BadTally)))
    (ti_BadTally : PySem.W.typeIn K (.ref f_BadTally) = some (.type "function"))
    (li_BadTally : K.lookup f_BadTally = some ⟨oc_BadTally, od_BadTally, .func (PySem.W.ksFn "__init__" "BadTally.__init__" (defArgs s_BadTally_init) (defBody s_BadTally_init) (defScope s_BadTally_init) .none kV_BadTally dc_BadTally pm_BadTally an_BadTally (.ref cda_BadTally) ct_BadTally cc_BadTally), sl_BadTally⟩)
    (ci_BadTally : PySem.W.codeIn K (.ref cda_BadTally) "BadTally.__init__" = true)
    (ce_BadTally : K.lookup cc_BadTally = some ⟨cl_BadTally, cld_BadTally, .cell (some (.ref A_BadTally)), csl_BadTally⟩)
    (co_BadTally : K.lookup cda_BadTally = some ⟨ccl_BadTally, cdd_BadTally, .fields vs_BadTally, ccs_BadTally⟩)
    (vf_BadTally : vs_BadTally[2]? = some (.str file_BadTally tf_BadTally))
    (pf_BadTally : ((l.prog.main.file : Str) == file_BadTally) = true)
    (su_BadTally : PySem.W.ks_superIn K A_BadTally A_BadTally "__init__" = some (some (.builtin "ValueError.__init__")))
    (sv_BadTally : PySem.W.subIn K (.ref A_BadTally) (.type "ValueError") = some true)
    (mr_BadTally : PySem.W.mroIn K A_BadTally (.ref A_BadTally) = some true)
    (ga_BadTally : PySem.W.findIn K (.ref A_BadTally) "__getattribute__" = some (some (.builtin "BaseException.__getattribute__")))
    (gg_BadTally : PySem.W.findIn K (.ref A_BadTally) "__getattr__" = some none)
    (hc_BadTally : PySem.W.hasDictIn K A_BadTally = true)
    (ck_BadTally : PySem.W.findIn K (.ref A_BadTally) "__class__" = some (some (.builtin "object.__class__")))
    (mo_BadTally : PySem.W.mroIn K A_BadTally (.type "object") = some true)
    (aC_BadText : PySem.W.nsIn K mainGlobals "BadText" = some (some (.ref A_BadText)))
    (xL_BadText : K.lookup A_BadText = some (excClassObj nm_BadText q_BadText A_BadText N_BadText bs_BadText bm_BadText true sn_BadText sub_BadText ab_BadText col_BadText dd_BadText k0_BadText k1_BadText k2_BadText k3_BadText k5_BadText "ValueError.__new__"))
    (rv_BadText : PySem.HandSPX.refsVE bm_BadText = true)
    (sa_BadText : PySem.W.findIn K (.ref A_BadText) "__setattr__" = some (some (.builtin "object.__setattr__")))
    (eC_BadText : PySem.W.subIn K (.ref A_BadText) (.type "BaseException") = some true)
    (tC_BadText : PySem.W.typeIn K (.ref A_BadText) = some (.type "type"))
    (kC_BadText : PySem.W.keepIn K (.ref A_BadText) = true)
    (iC_BadText : PySem.W.isClsIn K A_BadText = true)
    (sC_BadText : PySem.W.subIn K (.ref A_BadText) (.ref A_BadText) = some true)
    (ai_BadText : PySem.W.findIn K (.ref A_BadText) "__init__" = some (some (.ref f_BadText)))
    (ti_BadText : PySem.W.typeIn K (.ref f_BadText) = some (.type "function"))
    (li_BadText : K.lookup f_BadText = some ⟨oc_BadText, od_BadText, .func (PySem.W.ksFn "__init__" "BadText.__init__" (defArgs s_BadText_init) (defBody s_BadText_init) (defScope s_BadText_init) .none kV_BadText dc_BadText pm_BadText an_BadText (.ref cda_BadText) ct_BadText cc_BadText), sl_BadText⟩)
    (ci_BadText : PySem.W.codeIn K (.ref cda_BadText) "BadText.__init__" = true)
    (ce_BadText : K.lookup cc_BadText = some ⟨cl_BadText, cld_BadText, .cell (some (.ref A_BadText)), csl_BadText⟩)
    (co_BadText : K.lookup cda_BadText = some ⟨ccl_BadText, cdd_BadText, .fields vs_BadText, ccs_BadText⟩)
    (vf_BadText : vs_BadText[2]? = some (.str file_BadText tf_BadText))
    (pf_BadText : ((l.prog.main.file : Str) == file_BadText) = true)
    (su_BadText : PySem.W.ks_superIn K A_BadText A_BadText "__init__" = some (some (.builtin "ValueError.__init__")))
    (sv_BadText : PySem.W.subIn K (.ref A_BadText) (.type "ValueError") = some true)
    (mr_BadText : PySem.W.mroIn K A_BadText (.ref A_BadText) = some true)
    (nf_BadText : PySem.W.findIn K (.ref A_BadText) (fname 15) = some none)
    (ga_BadText : PySem.W.findIn K (.ref A_BadText) "__getattribute__" = some (some (.builtin "BaseException.__getattribute__")))
    (gg_BadText : PySem.W.findIn K (.ref A_BadText) "__getattr__" = some none)
    (hc_BadText : PySem.W.hasDictIn K A_BadText = true)
    (ck_BadText : PySem.W.findIn K (.ref A_BadText) "__class__" = some (some (.builtin "object.__class__")))
    (mo_BadText : PySem.W.mroIn K A_BadText (.type "object") = some true)
    (aC_NotSettled : PySem.W.nsIn K mainGlobals "NotSettled" = some (some (.ref A_NotSettled)))
    (xL_NotSettled : K.lookup A_NotSettled = some (excClassObj nm_NotSettled q_NotSettled A_NotSettled N_NotSettled bs_NotSettled bm_NotSettled true sn_NotSettled sub_NotSettled ab_NotSettled col_NotSettled dd_NotSettled k0_NotSettled k1_NotSettled k2_NotSettled k3_NotSettled k5_NotSettled "ValueError.__new__"))
    (rv_NotSettled : PySem.HandSPX.refsVE bm_NotSettled = true)
    (sa_NotSettled : PySem.W.findIn K (.ref A_NotSettled) "__setattr__" = some (some (.builtin "object.__setattr__")))
    (eC_NotSettled : PySem.W.subIn K (.ref A_NotSettled) (.type "BaseException") = some true)
    (tC_NotSettled : PySem.W.typeIn K (.ref A_NotSettled) = some (.type "type"))
    (kC_NotSettled : PySem.W.keepIn K (.ref A_NotSettled) = true)
    (iC_NotSettled : PySem.W.isClsIn K A_NotSettled = true)
    (sC_NotSettled : PySem.W.subIn K (.ref A_NotSettled) (.ref A_NotSettled) = some true)
    (ai_NotSettled : PySem.W.findIn K (.ref A_NotSettled) "__init__" = some (some (.ref f_NotSettled)))
    (ti_NotSettled : PySem.W.typeIn K (.ref f_NotSettled) = some (.type "function"))
    (li_NotSettled : K.lookup f_NotSettled = some ⟨oc_NotSettled, od_NotSettled, .func (PySem.W.ksFn "__init__" "NotSettled.__init__" (defArgs s_NotSettled_init) (defBody s_NotSettled_init) (defScope s_NotSettled_init) .none kV_NotSettled dc_NotSettled pm_NotSettled an_NotSettled (.ref cda_NotSettled) ct_NotSettled cc_NotSettled), sl_NotSettled⟩)
    (ci_NotSettled : PySem.W.codeIn K (.ref cda_NotSettled) "NotSettled.__init__" = true)
    (ce_NotSettled : K.lookup cc_NotSettled = some ⟨cl_NotSettled, cld_NotSettled, .cell (some (.ref A_NotSettled)), csl_NotSettled⟩)
    (co_NotSettled : K.lookup cda_NotSettled = some ⟨ccl_NotSettled, cdd_NotSettled, .fields vs_NotSettled, ccs_NotSettled⟩)
    (vf_NotSettled : vs_NotSettled[2]? = some (.str file_NotSettled tf_NotSettled))
    (pf_NotSettled : ((l.prog.main.file : Str) == file_NotSettled) = true)
    (su_NotSettled : PySem.W.ks_superIn K A_NotSettled A_NotSettled "__init__" = some (some (.builtin "ValueError.__init__")))
    (sv_NotSettled : PySem.W.subIn K (.ref A_NotSettled) (.type "ValueError") = some true)
    (mr_NotSettled : PySem.W.mroIn K A_NotSettled (.ref A_NotSettled) = some true)
    (nf_NotSettled : PySem.W.findIn K (.ref A_NotSettled) (fname 22) = some none)
    (ga_NotSettled : PySem.W.findIn K (.ref A_NotSettled) "__getattribute__" = some (some (.builtin "BaseException.__getattribute__")))
    (gg_NotSettled : PySem.W.findIn K (.ref A_NotSettled) "__getattr__" = some none)
    (hc_NotSettled : PySem.W.hasDictIn K A_NotSettled = true)
    (ck_NotSettled : PySem.W.findIn K (.ref A_NotSettled) "__class__" = some (some (.builtin "object.__class__")))
    (mo_NotSettled : PySem.W.mroIn K A_NotSettled (.type "object") = some true)
    (aC_TooMany : PySem.W.nsIn K mainGlobals "TooMany" = some (some (.ref A_TooMany)))
    (xL_TooMany : K.lookup A_TooMany = some (excClassObj nm_TooMany q_TooMany A_TooMany N_TooMany bs_TooMany bm_TooMany true sn_TooMany sub_TooMany ab_TooMany col_TooMany dd_TooMany k0_TooMany k1_TooMany k2_TooMany k3_TooMany k5_TooMany "ValueError.__new__"))
    (rv_TooMany : PySem.HandSPX.refsVE bm_TooMany = true)
    (sa_TooMany : PySem.W.findIn K (.ref A_TooMany) "__setattr__" = some (some (.builtin "object.__setattr__")))
    (eC_TooMany : PySem.W.subIn K (.ref A_TooMany) (.type "BaseException") = some true)
    (tC_TooMany : PySem.W.typeIn K (.ref A_TooMany) = some (.type "type"))
    (kC_TooMany : PySem.W.keepIn K (.ref A_TooMany) = true)
    (iC_TooMany : PySem.W.isClsIn K A_TooMany = true)
    (sC_TooMany : PySem.W.subIn K (.ref A_TooMany) (.ref A_TooMany) = some true)
    (ai_TooMany : PySem.W.findIn K (.ref A_TooMany) "__init__" = some (some (.ref f_TooMany)))
    (ti_TooMany : PySem.W.typeIn K (.ref f_TooMany) = some (.type "function"))
    (li_TooMany : K.lookup f_TooMany = some ⟨oc_TooMany, od_TooMany, .func (PySem.W.ksFn "__init__" "TooMany.__init__" (defArgs s_TooMany_init) (defBody s_TooMany_init) (defScope s_TooMany_init) .none kV_TooMany dc_TooMany pm_TooMany an_TooMany (.ref cda_TooMany) ct_TooMany cc_TooMany), sl_TooMany⟩)
    (ci_TooMany : PySem.W.codeIn K (.ref cda_TooMany) "TooMany.__init__" = true)
    (ce_TooMany : K.lookup cc_TooMany = some ⟨cl_TooMany, cld_TooMany, .cell (some (.ref A_TooMany)), csl_TooMany⟩)
    (co_TooMany : K.lookup cda_TooMany = some ⟨ccl_TooMany, cdd_TooMany, .fields vs_TooMany, ccs_TooMany⟩)
    (vf_TooMany : vs_TooMany[2]? = some (.str file_TooMany tf_TooMany))
    (pf_TooMany : ((l.prog.main.file : Str) == file_TooMany) = true)
    (su_TooMany : PySem.W.ks_superIn K A_TooMany A_TooMany "__init__" = some (some (.builtin "ValueError.__init__")))
    (sv_TooMany : PySem.W.subIn K (.ref A_TooMany) (.type "ValueError") = some true)
    (mr_TooMany : PySem.W.mroIn K A_TooMany (.ref A_TooMany) = some true)
    (nf_TooMany : PySem.W.findIn K (.ref A_TooMany) (fname 17) = some none)
    (ga_TooMany : PySem.W.findIn K (.ref A_TooMany) "__getattribute__" = some (some (.builtin "BaseException.__getattribute__")))
    (gg_TooMany : PySem.W.findIn K (.ref A_TooMany) "__getattr__" = some none)
    (hc_TooMany : PySem.W.hasDictIn K A_TooMany = true)
    (ck_TooMany : PySem.W.findIn K (.ref A_TooMany) "__class__" = some (some (.builtin "object.__class__")))
    (mo_TooMany : PySem.W.mroIn K A_TooMany (.type "object") = some true)
    (aC_Unbounded : PySem.W.nsIn K mainGlobals "Unbounded" = some (some (.ref A_Unbounded)))
    (xL_Unbounded : K.lookup A_Unbounded = some (excClassObj nm_Unbounded q_Unbounded A_Unbounded N_Unbounded bs_Unbounded bm_Unbounded true sn_Unbounded sub_Unbounded ab_Unbounded col_Unbounded dd_Unbounded k0_Unbounded k1_Unbounded k2_Unbounded k3_Unbounded k5_Unbounded "ValueError.__new__"))
    (rv_Unbounded : PySem.HandSPX.refsVE bm_Unbounded = true)
    (sa_Unbounded : PySem.W.findIn K (.ref A_Unbounded) "__setattr__" = some (some (.builtin "object.__setattr__")))
    (eC_Unbounded : PySem.W.subIn K (.ref A_Unbounded) (.type "BaseException") = some true)
    (tC_Unbounded : PySem.W.typeIn K (.ref A_Unbounded) = some (.type "type"))
    (kC_Unbounded : PySem.W.keepIn K (.ref A_Unbounded) = true)
    (iC_Unbounded : PySem.W.isClsIn K A_Unbounded = true)
    (sC_Unbounded : PySem.W.subIn K (.ref A_Unbounded) (.ref A_Unbounded) = some true)
    (ai_Unbounded : PySem.W.findIn K (.ref A_Unbounded) "__init__" = some (some (.ref f_Unbounded)))
    (ti_Unbounded : PySem.W.typeIn K (.ref f_Unbounded) = some (.type "function"))
    (li_Unbounded : K.lookup f_Unbounded = some ⟨oc_Unbounded, od_Unbounded, .func (PySem.W.ksFn "__init__" "Unbounded.__init__" (defArgs s_Unbounded_init) (defBody s_Unbounded_init) (defScope s_Unbounded_init) .none kV_Unbounded dc_Unbounded pm_Unbounded an_Unbounded (.ref cda_Unbounded) ct_Unbounded cc_Unbounded), sl_Unbounded⟩)
    (ci_Unbounded : PySem.W.codeIn K (.ref cda_Unbounded) "Unbounded.__init__" = true)
    (ce_Unbounded : K.lookup cc_Unbounded = some ⟨cl_Unbounded, cld_Unbounded, .cell (some (.ref A_Unbounded)), csl_Unbounded⟩)
    (co_Unbounded : K.lookup cda_Unbounded = some ⟨ccl_Unbounded, cdd_Unbounded, .fields vs_Unbounded, ccs_Unbounded⟩)
    (vf_Unbounded : vs_Unbounded[2]? = some (.str file_Unbounded tf_Unbounded))
    (pf_Unbounded : ((l.prog.main.file : Str) == file_Unbounded) = true)
    (su_Unbounded : PySem.W.ks_superIn K A_Unbounded A_Unbounded "__init__" = some (some (.builtin "ValueError.__init__")))
    (sv_Unbounded : PySem.W.subIn K (.ref A_Unbounded) (.type "ValueError") = some true)
    (mr_Unbounded : PySem.W.mroIn K A_Unbounded (.ref A_Unbounded) = some true)
    (ga_Unbounded : PySem.W.findIn K (.ref A_Unbounded) "__getattribute__" = some (some (.builtin "BaseException.__getattribute__")))
    (gg_Unbounded : PySem.W.findIn K (.ref A_Unbounded) "__getattr__" = some none)
    (hc_Unbounded : PySem.W.hasDictIn K A_Unbounded = true)
    (ck_Unbounded : PySem.W.findIn K (.ref A_Unbounded) "__class__" = some (some (.builtin "object.__class__")))
    (mo_Unbounded : PySem.W.mroIn K A_Unbounded (.type "object") = some true)
    (aC_UnknownArrow : PySem.W.nsIn K mainGlobals "UnknownArrow" = some (some (.ref A_UnknownArrow)))
    (xL_UnknownArrow : K.lookup A_UnknownArrow = some (excClassObj nm_UnknownArrow q_UnknownArrow A_UnknownArrow N_UnknownArrow bs_UnknownArrow bm_UnknownArrow true sn_UnknownArrow sub_UnknownArrow ab_UnknownArrow col_UnknownArrow dd_UnknownArrow k0_UnknownArrow k1_UnknownArrow k2_UnknownArrow k3_UnknownArrow k5_UnknownArrow "ValueError.__new__"))
    (rv_UnknownArrow : PySem.HandSPX.refsVE bm_UnknownArrow = true)
    (sa_UnknownArrow : PySem.W.findIn K (.ref A_UnknownArrow) "__setattr__" = some (some (.builtin "object.__setattr__")))
    (eC_UnknownArrow : PySem.W.subIn K (.ref A_UnknownArrow) (.type "BaseException") = some true)
    (tC_UnknownArrow : PySem.W.typeIn K (.ref A_UnknownArrow) = some (.type "type"))
    (kC_UnknownArrow : PySem.W.keepIn K (.ref A_UnknownArrow) = true)
    (iC_UnknownArrow : PySem.W.isClsIn K A_UnknownArrow = true)
    (sC_UnknownArrow : PySem.W.subIn K (.ref A_UnknownArrow) (.ref A_UnknownArrow) = some true)
    (ai_UnknownArrow : PySem.W.findIn K (.ref A_UnknownArrow) "__init__" = some (some (.ref f_UnknownArrow)))
    (ti_UnknownArrow : PySem.W.typeIn K (.ref f_UnknownArrow) = some (.type "function"))
    (li_UnknownArrow : K.lookup f_UnknownArrow = some ⟨oc_UnknownArrow, od_UnknownArrow, .func (PySem.W.ksFn "__init__" "UnknownArrow.__init__" (defArgs s_UnknownArrow_init) (defBody s_UnknownArrow_init) (defScope s_UnknownArrow_init) .none kV_UnknownArrow dc_UnknownArrow pm_UnknownArrow an_UnknownArrow (.ref cda_UnknownArrow) ct_UnknownArrow cc_UnknownArrow), sl_UnknownArrow⟩)
    (ci_UnknownArrow : PySem.W.codeIn K (.ref cda_UnknownArrow) "UnknownArrow.__init__" = true)
    (ce_UnknownArrow : K.lookup cc_UnknownArrow = some ⟨cl_UnknownArrow, cld_UnknownArrow, .cell (some (.ref A_UnknownArrow)), csl_UnknownArrow⟩)
    (co_UnknownArrow : K.lookup cda_UnknownArrow = some ⟨ccl_UnknownArrow, cdd_UnknownArrow, .fields vs_UnknownArrow, ccs_UnknownArrow⟩)
    (vf_UnknownArrow : vs_UnknownArrow[2]? = some (.str file_UnknownArrow tf_UnknownArrow))
    (pf_UnknownArrow : ((l.prog.main.file : Str) == file_UnknownArrow) = true)
    (su_UnknownArrow : PySem.W.ks_superIn K A_UnknownArrow A_UnknownArrow "__init__" = some (some (.builtin "ValueError.__init__")))
    (sv_UnknownArrow : PySem.W.subIn K (.ref A_UnknownArrow) (.type "ValueError") = some true)
    (mr_UnknownArrow : PySem.W.mroIn K A_UnknownArrow (.ref A_UnknownArrow) = some true)
    (nf_UnknownArrow : PySem.W.findIn K (.ref A_UnknownArrow) (fname 19) = some none)
    (ga_UnknownArrow : PySem.W.findIn K (.ref A_UnknownArrow) "__getattribute__" = some (some (.builtin "BaseException.__getattribute__")))
    (gg_UnknownArrow : PySem.W.findIn K (.ref A_UnknownArrow) "__getattr__" = some none)
    (hc_UnknownArrow : PySem.W.hasDictIn K A_UnknownArrow = true)
    (ck_UnknownArrow : PySem.W.findIn K (.ref A_UnknownArrow) "__class__" = some (some (.builtin "object.__class__")))
    (mo_UnknownArrow : PySem.W.mroIn K A_UnknownArrow (.type "object") = some true)
    (aC_UnknownState : PySem.W.nsIn K mainGlobals "UnknownState" = some (some (.ref A_UnknownState)))
    (xL_UnknownState : K.lookup A_UnknownState = some (excClassObj nm_UnknownState q_UnknownState A_UnknownState N_UnknownState bs_UnknownState bm_UnknownState true sn_UnknownState sub_UnknownState ab_UnknownState col_UnknownState dd_UnknownState k0_UnknownState k1_UnknownState k2_UnknownState k3_UnknownState k5_UnknownState "ValueError.__new__"))
    (rv_UnknownState : PySem.HandSPX.refsVE bm_UnknownState = true)
    (sa_UnknownState : PySem.W.findIn K (.ref A_UnknownState) "__setattr__" = some (some (.builtin "object.__setattr__")))
    (eC_UnknownState : PySem.W.subIn K (.ref A_UnknownState) (.type "BaseException") = some true)
    (tC_UnknownState : PySem.W.typeIn K (.ref A_UnknownState) = some (.type "type"))
    (kC_UnknownState : PySem.W.keepIn K (.ref A_UnknownState) = true)
    (iC_UnknownState : PySem.W.isClsIn K A_UnknownState = true)
    (sC_UnknownState : PySem.W.subIn K (.ref A_UnknownState) (.ref A_UnknownState) = some true)
    (ai_UnknownState : PySem.W.findIn K (.ref A_UnknownState) "__init__" = some (some (.ref f_UnknownState)))
    (ti_UnknownState : PySem.W.typeIn K (.ref f_UnknownState) = some (.type "function"))
    (li_UnknownState : K.lookup f_UnknownState = some ⟨oc_UnknownState, od_UnknownState, .func (PySem.W.ksFn "__init__" "UnknownState.__init__" (defArgs s_UnknownState_init) (defBody s_UnknownState_init) (defScope s_UnknownState_init) .none kV_UnknownState dc_UnknownState pm_UnknownState an_UnknownState (.ref cda_UnknownState) ct_UnknownState cc_UnknownState), sl_UnknownState⟩)
    (ci_UnknownState : PySem.W.codeIn K (.ref cda_UnknownState) "UnknownState.__init__" = true)
    (ce_UnknownState : K.lookup cc_UnknownState = some ⟨cl_UnknownState, cld_UnknownState, .cell (some (.ref A_UnknownState)), csl_UnknownState⟩)
    (co_UnknownState : K.lookup cda_UnknownState = some ⟨ccl_UnknownState, cdd_UnknownState, .fields vs_UnknownState, ccs_UnknownState⟩)
    (vf_UnknownState : vs_UnknownState[2]? = some (.str file_UnknownState tf_UnknownState))
    (pf_UnknownState : ((l.prog.main.file : Str) == file_UnknownState) = true)
    (su_UnknownState : PySem.W.ks_superIn K A_UnknownState A_UnknownState "__init__" = some (some (.builtin "ValueError.__init__")))
    (sv_UnknownState : PySem.W.subIn K (.ref A_UnknownState) (.type "ValueError") = some true)
    (mr_UnknownState : PySem.W.mroIn K A_UnknownState (.ref A_UnknownState) = some true)
    (nf_UnknownState : PySem.W.findIn K (.ref A_UnknownState) (fname 16) = some none)
    (ga_UnknownState : PySem.W.findIn K (.ref A_UnknownState) "__getattribute__" = some (some (.builtin "BaseException.__getattribute__")))
    (gg_UnknownState : PySem.W.findIn K (.ref A_UnknownState) "__getattr__" = some none)
    (hc_UnknownState : PySem.W.hasDictIn K A_UnknownState = true)
    (ck_UnknownState : PySem.W.findIn K (.ref A_UnknownState) "__class__" = some (some (.builtin "object.__class__")))
    (mo_UnknownState : PySem.W.mroIn K A_UnknownState (.type "object") = some true)
    (sb_BadArrow_BadExpression : PySem.W.subIn K (.ref A_BadArrow) (.ref A_BadExpression) = some false)
    (sb_BadArrow_BadNumber : PySem.W.subIn K (.ref A_BadArrow) (.ref A_BadNumber) = some false)
    (sb_BadArrow_BadRow : PySem.W.subIn K (.ref A_BadArrow) (.ref A_BadRow) = some false)
    (sb_BadArrow_BadState : PySem.W.subIn K (.ref A_BadArrow) (.ref A_BadState) = some false)
    (sb_BadArrow_BadTally : PySem.W.subIn K (.ref A_BadArrow) (.ref A_BadTally) = some false)
    (sb_BadArrow_BadText : PySem.W.subIn K (.ref A_BadArrow) (.ref A_BadText) = some false)
    (sb_BadArrow_NotSettled : PySem.W.subIn K (.ref A_BadArrow) (.ref A_NotSettled) = some false)
    (sb_BadArrow_TooMany : PySem.W.subIn K (.ref A_BadArrow) (.ref A_TooMany) = some false)
    (sb_BadArrow_Unbounded : PySem.W.subIn K (.ref A_BadArrow) (.ref A_Unbounded) = some false)
    (sb_BadArrow_UnknownArrow : PySem.W.subIn K (.ref A_BadArrow) (.ref A_UnknownArrow) = some false)
    (sb_BadArrow_UnknownState : PySem.W.subIn K (.ref A_BadArrow) (.ref A_UnknownState) = some false)
    (sb_BadExpression_BadArrow : PySem.W.subIn K (.ref A_BadExpression) (.ref A_BadArrow) = some false)
    (sb_BadExpression_BadNumber : PySem.W.subIn K (.ref A_BadExpression) (.ref A_BadNumber) = some false)
    (sb_BadExpression_BadRow : PySem.W.subIn K (.ref A_BadExpression) (.ref A_BadRow) = some false)
    (sb_BadExpression_BadState : PySem.W.subIn K (.ref A_BadExpression) (.ref A_BadState) = some false)
    (sb_BadExpression_BadTally : PySem.W.subIn K (.ref A_BadExpression) (.ref A_BadTally) = some false)
    (sb_BadExpression_BadText : PySem.W.subIn K (.ref A_BadExpression) (.ref A_BadText) = some false)
    (sb_BadExpression_NotSettled : PySem.W.subIn K (.ref A_BadExpression) (.ref A_NotSettled) = some false)
    (sb_BadExpression_TooMany : PySem.W.subIn K (.ref A_BadExpression) (.ref A_TooMany) = some false)
    (sb_BadExpression_Unbounded : PySem.W.subIn K (.ref A_BadExpression) (.ref A_Unbounded) = some false)
    (sb_BadExpression_UnknownArrow : PySem.W.subIn K (.ref A_BadExpression) (.ref A_UnknownArrow) = some false)
    (sb_BadExpression_UnknownState : PySem.W.subIn K (.ref A_BadExpression) (.ref A_UnknownState) = some false)
    (sb_BadNumber_BadArrow : PySem.W.subIn K (.ref A_BadNumber) (.ref A_BadArrow) = some false)
    (sb_BadNumber_BadExpression : PySem.W.subIn K (.ref A_BadNumber) (.ref A_BadExpression) = some false)
    (sb_BadNumber_BadRow : PySem.W.subIn K (.ref A_BadNumber) (.ref A_BadRow) = some false)
    (sb_BadNumber_BadState : PySem.W.subIn K (.ref A_BadNumber) (.ref A_BadState) = some false)
    (sb_BadNumber_BadTally : PySem.W.subIn K (.ref A_BadNumber) (.ref A_BadTally) = some false)
    (sb_BadNumber_BadText : PySem.W.subIn K (.ref A_BadNumber) (.ref A_BadText) = some false)
    (sb_BadNumber_NotSettled : PySem.W.subIn K (.ref A_BadNumber) (.ref A_NotSettled) = some false)
    (sb_BadNumber_TooMany : PySem.W.subIn K (.ref A_BadNumber) (.ref A_TooMany) = some false)
    (sb_BadNumber_Unbounded : PySem.W.subIn K (.ref A_BadNumber) (.ref A_Unbounded) = some false)
    (sb_BadNumber_UnknownArrow : PySem.W.subIn K (.ref A_BadNumber) (.ref A_UnknownArrow) = some false)
    (sb_BadNumber_UnknownState : PySem.W.subIn K (.ref A_BadNumber) (.ref A_UnknownState) = some false)
    (sb_BadRow_BadArrow : PySem.W.subIn K (.ref A_BadRow) (.ref A_BadArrow) = some false)
    (sb_BadRow_BadExpression : PySem.W.subIn K (.ref A_BadRow) (.ref A_BadExpression) = some false)
    (sb_BadRow_BadNumber : PySem.W.subIn K (.ref A_BadRow) (.ref A_BadNumber) = some false)
    (sb_BadRow_BadState : PySem.W.subIn K (.ref A_BadRow) (.ref A_BadState) = some false)
    (sb_BadRow_BadTally : PySem.W.subIn K (.ref A_BadRow) (.ref A_BadTally) = some false)
    (sb_BadRow_BadText : PySem.W.subIn K (.ref A_BadRow) (.ref A_BadText) = some false)
    (sb_BadRow_NotSettled : PySem.W.subIn K (.ref A_BadRow) (.ref A_NotSettled) = some false)
    (sb_BadRow_TooMany : PySem.W.subIn K (.ref A_BadRow) (.ref A_TooMany) = some false)
    (sb_BadRow_Unbounded : PySem.W.subIn K (.ref A_BadRow) (.ref A_Unbounded) = some false)
    (sb_BadRow_UnknownArrow : PySem.W.subIn K (.ref A_BadRow) (.ref A_UnknownArrow) = some false)
    (sb_BadRow_UnknownState : PySem.W.subIn K (.ref A_BadRow) (.ref A_UnknownState) = some false)
    (sb_BadState_BadArrow : PySem.W.subIn K (.ref A_BadState) (.ref A_BadArrow) = some false)
    (sb_BadState_BadExpression : PySem.W.subIn K (.ref A_BadState) (.ref A_BadExpression) = some false)
    (sb_BadState_BadNumber : PySem.W.subIn K (.ref A_BadState) (.ref A_BadNumber) = some false)
    (sb_BadState_BadRow : PySem.W.subIn K (.ref A_BadState) (.ref A_BadRow) = some false)
    (sb_BadState_BadTally : PySem.W.subIn K (.ref A_BadState) (.ref A_BadTally) = some false)
    (sb_BadState_BadText : PySem.W.subIn K (.ref A_BadState) (.ref A_BadText) = some false)
    (sb_BadState_NotSettled : PySem.W.subIn K (.ref A_BadState) (.ref A_NotSettled) = some false)
    (sb_BadState_TooMany : PySem.W.subIn K (.ref A_BadState) (.ref A_TooMany) = some false)
    (sb_BadState_Unbounded : PySem.W.subIn K (.ref A_BadState) (.ref A_Unbounded) = some false)
    (sb_BadState_UnknownArrow : PySem.W.subIn K (.ref A_BadState) (.ref A_UnknownArrow) = some false)
    (sb_BadState_UnknownState : PySem.W.subIn K (.ref A_BadState) (.ref A_UnknownState) = some false)
    (sb_BadTally_BadArrow : PySem.W.subIn K (.ref A_BadTally) (.ref A_BadArrow) = some false)
    (sb_BadTally_BadExpression : PySem.W.subIn K (.ref A_BadTally) (.ref A_BadExpression) = some false)
    (sb_BadTally_BadNumber : PySem.W.subIn K (.ref A_BadTally) (.ref A_BadNumber) = some false)
    (sb_BadTally_BadRow : PySem.W.subIn K (.ref A_BadTally) (.ref A_BadRow) = some false)
    (sb_BadTally_BadState : PySem.W.subIn K (.ref A_BadTally) (.ref A_BadState) = some false)
    (sb_BadTally_BadText : PySem.W.subIn K (.ref A_BadTally) (.ref A_BadText) = some false)
    (sb_BadTally_NotSettled : PySem.W.subIn K (.ref A_BadTally) (.ref A_NotSettled) = some false)
    (sb_BadTally_TooMany : PySem.W.subIn K (.ref A_BadTally) (.ref A_TooMany) = some false)
    (sb_BadTally_Unbounded : PySem.W.subIn K (.ref A_BadTally) (.ref A_Unbounded) = some false)
    (sb_BadTally_UnknownArrow : PySem.W.subIn K (.ref A_BadTally) (.ref A_UnknownArrow) = some false)
    (sb_BadTally_UnknownState : PySem.W.subIn K (.ref A_BadTally) (.ref A_UnknownState) = some false)
    (sb_BadText_BadArrow : PySem.W.subIn K (.ref A_BadText) (.ref A_BadArrow) = some false)
    (sb_BadText_BadExpression : PySem.W.subIn K (.ref A_BadText) (.ref A_BadExpression) = some false)
    (sb_BadText_BadNumber : PySem.W.subIn K (.ref A_BadText) (.ref A_BadNumber) = some false)
    (sb_BadText_BadRow : PySem.W.subIn K (.ref A_BadText) (.ref A_BadRow) = some false)
    (sb_BadText_BadState : PySem.W.subIn K (.ref A_BadText) (.ref A_BadState) = some false)
    (sb_BadText_BadTally : PySem.W.subIn K (.ref A_BadText) (.ref A_BadTally) = some false)
    (sb_BadText_NotSettled : PySem.W.subIn K (.ref A_BadText) (.ref A_NotSettled) = some false)
    (sb_BadText_TooMany : PySem.W.subIn K (.ref A_BadText) (.ref A_TooMany) = some false)
    (sb_BadText_Unbounded : PySem.W.subIn K (.ref A_BadText) (.ref A_Unbounded) = some false)
    (sb_BadText_UnknownArrow : PySem.W.subIn K (.ref A_BadText) (.ref A_UnknownArrow) = some false)
    (sb_BadText_UnknownState : PySem.W.subIn K (.ref A_BadText) (.ref A_UnknownState) = some false)
    (sb_NotSettled_BadArrow : PySem.W.subIn K (.ref A_NotSettled) (.ref A_BadArrow) = some false)
    (sb_NotSettled_BadExpression : PySem.W.subIn K (.ref A_NotSettled) (.ref A_BadExpression) = some false)
    (sb_NotSettled_BadNumber : PySem.W.subIn K (.ref A_NotSettled) (.ref A_BadNumber) = some false)
    (sb_NotSettled_BadRow : PySem.W.subIn K (.ref A_NotSettled) (.ref A_BadRow) = some false)
    (sb_NotSettled_BadState : PySem.W.subIn K (.ref A_NotSettled) (.ref A_BadState) = some false)
    (sb_NotSettled_BadTally : PySem.W.subIn K (.ref A_NotSettled) (.ref A_BadTally) = some false)
    (sb_NotSettled_BadText : PySem.W.subIn K (.ref A_NotSettled) (.ref A_BadText) = some false)
    (sb_NotSettled_TooMany : PySem.W.subIn K (.ref A_NotSettled) (.ref A_TooMany) = some false)
    (sb_NotSettled_Unbounded : PySem.W.subIn K (.ref A_NotSettled) (.ref A_Unbounded) = some false)
    (sb_NotSettled_UnknownArrow : PySem.W.subIn K (.ref A_NotSettled) (.ref A_UnknownArrow) = some false)
    (sb_NotSettled_UnknownState : PySem.W.subIn K (.ref A_NotSettled) (.ref A_UnknownState) = some false)
    (sb_TooMany_BadArrow : PySem.W.subIn K (.ref A_TooMany) (.ref A_BadArrow) = some false)
    (sb_TooMany_BadExpression : PySem.W.subIn K (.ref A_TooMany) (.ref A_BadExpression) = some false)
    (sb_TooMany_BadNumber : PySem.W.subIn K (.ref A_TooMany) (.ref A_BadNumber) = some false)
    (sb_TooMany_BadRow : PySem.W.subIn K (.ref A_TooMany) (.ref A_BadRow) = some false)
    (sb_TooMany_BadState : PySem.W.subIn K (.ref A_TooMany) (.ref A_BadState) = some false)
    (sb_TooMany_BadTally : PySem.W.subIn K (.ref A_TooMany) (.ref A_BadTally) = some false)
    (sb_TooMany_BadText : PySem.W.subIn K (.ref A_TooMany) (.ref A_BadText) = some false)
    (sb_TooMany_NotSettled : PySem.W.subIn K (.ref A_TooMany) (.ref A_NotSettled) = some false)
    (sb_TooMany_Unbounded : PySem.W.subIn K (.ref A_TooMany) (.ref A_Unbounded) = some false)
    (sb_TooMany_UnknownArrow : PySem.W.subIn K (.ref A_TooMany) (.ref A_UnknownArrow) = some false)
    (sb_TooMany_UnknownState : PySem.W.subIn K (.ref A_TooMany) (.ref A_UnknownState) = some false)
    (sb_Unbounded_BadArrow : PySem.W.subIn K (.ref A_Unbounded) (.ref A_BadArrow) = some false)
    (sb_Unbounded_BadExpression : PySem.W.subIn K (.ref A_Unbounded) (.ref A_BadExpression) = some false)
    (sb_Unbounded_BadNumber : PySem.W.subIn K (.ref A_Unbounded) (.ref A_BadNumber) = some false)
    (sb_Unbounded_BadRow : PySem.W.subIn K (.ref A_Unbounded) (.ref A_BadRow) = some false)
    (sb_Unbounded_BadState : PySem.W.subIn K (.ref A_Unbounded) (.ref A_BadState) = some false)
    (sb_Unbounded_BadTally : PySem.W.subIn K (.ref A_Unbounded) (.ref A_BadTally) = some false)
    (sb_Unbounded_BadText : PySem.W.subIn K (.ref A_Unbounded) (.ref A_BadText) = some false)
    (sb_Unbounded_NotSettled : PySem.W.subIn K (.ref A_Unbounded) (.ref A_NotSettled) = some false)
    (sb_Unbounded_TooMany : PySem.W.subIn K (.ref A_Unbounded) (.ref A_TooMany) = some false)
    (sb_Unbounded_UnknownArrow : PySem.W.subIn K (.ref A_Unbounded) (.ref A_UnknownArrow) = some false)
    (sb_Unbounded_UnknownState : PySem.W.subIn K (.ref A_Unbounded) (.ref A_UnknownState) = some false)
    (sb_UnknownArrow_BadArrow : PySem.W.subIn K (.ref A_UnknownArrow) (.ref A_BadArrow) = some false)
    (sb_UnknownArrow_BadExpression : PySem.W.subIn K (.ref A_UnknownArrow) (.ref A_BadExpression) = some false)
    (sb_UnknownArrow_BadNumber : PySem.W.subIn K (.ref A_UnknownArrow) (.ref A_BadNumber) = some false)
    (sb_UnknownArrow_BadRow : PySem.W.subIn K (.ref A_UnknownArrow) (.ref A_BadRow) = some false)
    (sb_UnknownArrow_BadState : PySem.W.subIn K (.ref A_UnknownArrow) (.ref A_BadState) = some false)
    (sb_UnknownArrow_BadTally : PySem.W.subIn K (.ref A_UnknownArrow) (.ref A_BadTally) = some false)
    (sb_UnknownArrow_BadText : PySem.W.subIn K (.ref A_UnknownArrow) (.ref A_BadText) = some false)
    (sb_UnknownArrow_NotSettled : PySem.W.subIn K (.ref A_UnknownArrow) (.ref A_NotSettled) = some false)
    (sb_UnknownArrow_TooMany : PySem.W.subIn K (.ref A_UnknownArrow) (.ref A_TooMany) = some false)
    (sb_UnknownArrow_Unbounded : PySem.W.subIn K (.ref A_UnknownArrow) (.ref A_Unbounded) = some false)
    (sb_UnknownArrow_UnknownState : PySem.W.subIn K (.ref A_UnknownArrow) (.ref A_UnknownState) = some false)
    (sb_UnknownState_BadArrow : PySem.W.subIn K (.ref A_UnknownState) (.ref A_BadArrow) = some false)
    (sb_UnknownState_BadExpression : PySem.W.subIn K (.ref A_UnknownState) (.ref A_BadExpression) = some false)
    (sb_UnknownState_BadNumber : PySem.W.subIn K (.ref A_UnknownState) (.ref A_BadNumber) = some false)
    (sb_UnknownState_BadRow : PySem.W.subIn K (.ref A_UnknownState) (.ref A_BadRow) = some false)
    (sb_UnknownState_BadState : PySem.W.subIn K (.ref A_UnknownState) (.ref A_BadState) = some false)
    (sb_UnknownState_BadTally : PySem.W.subIn K (.ref A_UnknownState) (.ref A_BadTally) = some false)
    (sb_UnknownState_BadText : PySem.W.subIn K (.ref A_UnknownState) (.ref A_BadText) = some false)
    (sb_UnknownState_NotSettled : PySem.W.subIn K (.ref A_UnknownState) (.ref A_NotSettled) = some false)
    (sb_UnknownState_TooMany : PySem.W.subIn K (.ref A_UnknownState) (.ref A_TooMany) = some false)
    (sb_UnknownState_Unbounded : PySem.W.subIn K (.ref A_UnknownState) (.ref A_Unbounded) = some false)
    (sb_UnknownState_UnknownArrow : PySem.W.subIn K (.ref A_UnknownState) (.ref A_UnknownArrow) = some false)
    (z_super : PySem.W.nsIn K mainGlobals "super" = some none) (opq : PySem.W.nsIn K cStatics "thirdparty.any" = some none) (top : (l.prog.main.scope.names.lookup ("super" : Str)).isSome = false)
    (a0 : PySem.W.nsIn K mainGlobals "_law_draw" = some (some (.ref f0)))
    (l0 : K.lookup f0 = some ⟨oc0, od0, .func (PySem.W.fnOf "_law_draw" "_law_draw" (defArgs s_law_draw) (defBody s_law_draw) (defScope s_law_draw) .none kV0 dc0 pm0 an0 cd0 ct0), sl0⟩) (c0 : PySem.W.codeIn K cd0 "_law_draw" = true) (k0 : PySem.W.keepIn K (.ref f0) = true)
    (a1 : PySem.W.nsIn K mainGlobals "_law_raised" = some (some (.ref f1)))
    (l1 : K.lookup f1 = some ⟨oc1, od1, .func (PySem.W.fnOf "_law_raised" "_law_raised" (defArgs s_law_raised) (defBody s_law_raised) (defScope s_law_raised) .none kV1 dc1 pm1 an1 cd1 ct1), sl1⟩) (c1 : PySem.W.codeIn K cd1 "_law_raised" = true) (k1 : PySem.W.keepIn K (.ref f1) = true)
    (a2 : PySem.W.nsIn K mainGlobals "_law_fields" = some (some (.ref f2)))
    (l2 : K.lookup f2 = some ⟨oc2, od2, .func (PySem.W.fnOf "_law_fields" "_law_fields" (defArgs s_law_fields) (defBody s_law_fields) (defScope s_law_fields) .none kV2 dc2 pm2 an2 cd2 ct2), sl2⟩) (c2 : PySem.W.codeIn K cd2 "_law_fields" = true) (k2 : PySem.W.keepIn K (.ref f2) = true)
    (a3 : PySem.W.nsIn K mainGlobals "_law_kinds" = some (some (.ref f3)))
    (l3 : K.lookup f3 = some ⟨oc3, od3, .func (PySem.W.fnOf "_law_kinds" "_law_kinds" (defArgs s_law_kinds) (defBody s_law_kinds) (defScope s_law_kinds) .none kV3 dc3 pm3 an3 cd3 ct3), sl3⟩) (c3 : PySem.W.codeIn K cd3 "_law_kinds" = true) (k3 : PySem.W.keepIn K (.ref f3) = true)
    (a4 : PySem.W.nsIn K mainGlobals "_law_pick" = some (some (.ref f4)))
    (l4 : K.lookup f4 = some ⟨oc4, od4, .func (PySem.W.fnOf "_law_pick" "_law_pick" (defArgs s_law_pick) (defBody s_law_pick) (defScope s_law_pick) .none kV4 dc4 pm4 an4 cd4 ct4), sl4⟩) (c4 : PySem.W.codeIn K cd4 "_law_pick" = true) (k4 : PySem.W.keepIn K (.ref f4) = true)
    (a5 : PySem.W.nsIn K mainGlobals "_law_source" = some (some (.ref f5)))
    (l5 : K.lookup f5 = some ⟨oc5, od5, .func (PySem.W.fnOf "_law_source" "_law_source" (defArgs s_law_source) (defBody s_law_source) (defScope s_law_source) .none kV5 dc5 pm5 an5 cd5 ct5), sl5⟩) (c5 : PySem.W.codeIn K cd5 "_law_source" = true) (k5 : PySem.W.keepIn K (.ref f5) = true)
    (a6 : PySem.W.nsIn K mainGlobals "law" = some (some (.ref f6)))
    (l6 : K.lookup f6 = some ⟨oc6, od6, .func (PySem.W.fnOf "law" "law" (defArgs s_law) (defBody s_law) (defScope s_law) .none kV6 dc6 pm6 an6 cd6 ct6), sl6⟩) (c6 : PySem.W.codeIn K cd6 "law" = true) (k6 : PySem.W.keepIn K (.ref f6) = true)
    (z_ValueError : PySem.W.nsIn K mainGlobals "ValueError" = some none)
    (z_int : PySem.W.nsIn K mainGlobals "int" = some none)
    (z_isinstance : PySem.W.nsIn K mainGlobals "isinstance" = some none)
    (z_len : PySem.W.nsIn K mainGlobals "len" = some none)
    (z_range : PySem.W.nsIn K mainGlobals "range" = some none) :
    ∃ fd : FuncData, (∀ (s : Shared) (v : Value), BindsTo s fd ⟨[v], []⟩ [("_law_script", v)]) ∧ ∀ base : Heap, K.In base → base.Ns mainGlobals mg → FnOk l.prog w K mg base (L2.CX l.prog w) 5 fa fd ["_law_script"] (spHead K) := by
  have e := hfa.symm.trans (PySem.W.mg_of X G a6)
  cases e
  have m_super := PySem.W.mg_none_of X G z_super
  have F_law_draw := fun_mk (st := s_law_draw) l0 c0 k0
  have g_law_draw := PySem.W.mg_of X G a0
  have b_law_draw := F_law_draw.binds (ps := ["_law_source_here", "_law_many"]) fun _ _ _ _ _ _ us hl => match us, hl with | [_, _], _ => rfl
  have F_law_raised := fun_mk (st := s_law_raised) l1 c1 k1
  have g_law_raised := PySem.W.mg_of X G a1
  have b_law_raised := F_law_raised.binds (ps := ["_law_how", "_law_a"]) fun _ _ _ _ _ _ us hl => match us, hl with | [_, _], _ => rfl
  have F_law_fields := fun_mk (st := s_law_fields) l2 c2 k2
  have g_law_fields := PySem.W.mg_of X G a2
  have b_law_fields := F_law_fields.binds (ps := ["_law_how", "_law_a"]) fun _ _ _ _ _ _ us hl => match us, hl with | [_, _], _ => rfl
  have F_law_kinds := fun_mk (st := s_law_kinds) l3 c3 k3
  have g_law_kinds := PySem.W.mg_of X G a3
  have b_law_kinds := F_law_kinds.binds (ps := ["_law_how", "_law_a"]) fun _ _ _ _ _ _ us hl => match us, hl with | [_, _], _ => rfl
  have F_law_pick := fun_mk (st := s_law_pick) l4 c4 k4
  have g_law_pick := PySem.W.mg_of X G a4
  have b_law_pick := F_law_pick.binds (ps := ["_law_source_here", "_law_things"]) fun _ _ _ _ _ _ us hl => match us, hl with | [_, _], _ => rfl
  have F_law_source := fun_mk (st := s_law_source) l5 c5 k5
  have g_law_source := PySem.W.mg_of X G a5
  have b_law_source := F_law_source.binds (ps := ["_law_script"]) fun _ _ _ _ _ _ us hl => match us, hl with | [_], _ => rfl
  have F_law := fun_mk (st := s_law) l6 c6 k6
  have g_law := PySem.W.mg_of X G a6
  have b_law := F_law.binds (ps := ["_law_script"]) fun _ _ _ _ _ _ us hl => match us, hl with | [_], _ => rfl
  have m_ValueError := PySem.W.mg_none_of X G z_ValueError
  have m_int := PySem.W.mg_none_of X G z_int
  have m_isinstance := PySem.W.mg_none_of X G z_isinstance
  have m_len := PySem.W.mg_none_of X G z_len
  have m_range := PySem.W.mg_none_of X G z_range
  refine ⟨PySem.W.fnOf "law" "law" (defArgs s_law) (defBody s_law) (defScope s_law) .none kV6 dc6 pm6 an6 cd6 ct6, fun s v => .of_eq rfl, fun base _ _ => ?_⟩
  have ex_cl : ∃ cl : Nat → Addr, cl = fun d => match d with | 10 => A_BadArrow | 18 => A_BadExpression | 17 => A_BadNumber | 14 => A_BadRow | 11 => A_BadState | 20 => A_BadTally | 13 => A_BadText | 19 => A_NotSettled | 12 => A_TooMany | 21 => A_Unbounded | 16 => A_UnknownArrow | 15 => A_UnknownState | 22 => A_PaidError | _ => A_BadArrow := ⟨_, rfl⟩
  obtain ⟨cl, hcl⟩ := ex_cl
  have ecl_BadArrow : cl 10 = A_BadArrow := congrFun hcl 10
  have ecl_BadExpression : cl 18 = A_BadExpression := congrFun hcl 18
  have ecl_BadNumber : cl 17 = A_BadNumber := congrFun hcl 17
  have ecl_BadRow : cl 14 = A_BadRow := congrFun hcl 14
  have ecl_BadState : cl 11 = A_BadState := congrFun hcl 11
  have ecl_BadTally : cl 20 = A_BadTally := congrFun hcl 20
  have ecl_BadText : cl 13 = A_BadText := congrFun hcl 13
  have ecl_NotSettled : cl 19 = A_NotSettled := congrFun hcl 19
  have ecl_TooMany : cl 12 = A_TooMany := congrFun hcl 12
  have ecl_Unbounded : cl 21 = A_Unbounded := congrFun hcl 21
  have ecl_UnknownArrow : cl 16 = A_UnknownArrow := congrFun hcl 16
  have ecl_UnknownState : cl 15 = A_UnknownState := congrFun hcl 15
  have ecl_PaidError : cl 22 = A_PaidError := congrFun hcl 22
  have PG_PaidError : mg "PaidError" = some (.ref (cl 22)) := by rw [ecl_PaidError]; exact PySem.W.mg_of X G aC_PaidError
  have ox_BadArrow : L2.OexC K A_BadArrow := ⟨⟨_, _, _, _, _, _, _, _, _, _, _, _, _, _, _, xL_BadArrow, rv_BadArrow⟩, sa_BadArrow, eC_BadArrow, tC_BadArrow, kC_BadArrow⟩
  have sx_BadArrow : SupC l.prog K A_BadArrow cc_BadArrow cda_BadArrow := ⟨ox_BadArrow, ⟨_, _, _, ce_BadArrow⟩, ⟨_, _, _, _, _, _, co_BadArrow, vf_BadArrow, pf_BadArrow⟩, su_BadArrow, sv_BadArrow, mr_BadArrow, opq, top⟩
  have wx_BadArrow := fx_BadArrow (w := w) (base := base) sx_BadArrow m_super li_BadArrow ci_BadArrow nf_BadArrow
  have x_BadArrow : ExC l.prog w K mg base "BadArrow" (cl 10) ["self", fname 15] (sp1 (cl 10) (fname 15)) := by rw [ecl_BadArrow]; exact ⟨ox_BadArrow, ⟨_, _, ai_BadArrow, ti_BadArrow, wx_BadArrow.1, wx_BadArrow.2⟩, PySem.W.mg_of X G aC_BadArrow⟩
  have M_BadArrow : PySem.W.exmOne K (.ref (cl 10)) (.ref (cl 10)) = some true := by rw [ecl_BadArrow]; exact exm_self eC_BadArrow iC_BadArrow tC_BadArrow sC_BadArrow
  have T_BadArrow : L2.XfC K (cl 10) := by rw [ecl_BadArrow]; exact ⟨ga_BadArrow, gg_BadArrow, eC_BadArrow, hc_BadArrow⟩
  have F_BadArrow : PySem.W.findIn K (.ref (cl 10)) (fname 15) = some none := by rw [ecl_BadArrow]; exact nf_BadArrow
  have xk_BadArrow : L2.ExK l.prog w K mg base "BadArrow" (cl 10) (fname 15) := by rw [ecl_BadArrow]; exact ⟨ox_BadArrow, ⟨_, _, ai_BadArrow, ti_BadArrow, wx_BadArrow.1, fk_BadArrow⟩, PySem.W.mg_of X G aC_BadArrow⟩
  have ox_BadExpression : L2.OexC K A_BadExpression := ⟨⟨_, _, _, _, _, _, _, _, _, _, _, _, _, _, _, xL_BadExpression, rv_BadExpression⟩, sa_BadExpression, eC_BadExpression, tC_BadExpression, kC_BadExpression⟩
  have sx_BadExpression : SupC l.prog K A_BadExpression cc_BadExpression cda_BadExpression := ⟨ox_BadExpression, ⟨_, _, _, ce_BadExpression⟩, ⟨_, _, _, _, _, _, co_BadExpression, vf_BadExpression, pf_BadExpression⟩, su_BadExpression, sv_BadExpression, mr_BadExpression, opq, top⟩
  have wx_BadExpression := fx_BadExpression (w := w) (base := base) sx_BadExpression m_super li_BadExpression ci_BadExpression nf_BadExpression
  have x_BadExpression : ExC l.prog w K mg base "BadExpression" (cl 18) ["self", fname 21] (sp1 (cl 18) (fname 21)) := by rw [ecl_BadExpression]; exact ⟨ox_BadExpression, ⟨_, _, ai_BadExpression, ti_BadExpression, wx_BadExpression.1, wx_BadExpression.2⟩, PySem.W.mg_of X G aC_BadExpression⟩
  have M_BadExpression : PySem.W.exmOne K (.ref (cl 18)) (.ref (cl 18)) = some true := by rw [ecl_BadExpression]; exact exm_self eC_BadExpression iC_BadExpression tC_BadExpression sC_BadExpression
  have T_BadExpression : L2.XfC K (cl 18) := by rw [ecl_BadExpression]; exact ⟨ga_BadExpression, gg_BadExpression, eC_BadExpression, hc_BadExpression⟩
  have F_BadExpression : PySem.W.findIn K (.ref (cl 18)) (fname 21) = some none := by rw [ecl_BadExpression]; exact nf_BadExpression
  have xk_BadExpression : L2.ExK l.prog w K mg base "BadExpression" (cl 18) (fname 21) := by rw [ecl_BadExpression]; exact ⟨ox_BadExpression, ⟨_, _, ai_BadExpression, ti_BadExpression, wx_BadExpression.1, fk_BadExpression⟩, PySem.W.mg_of X G aC_BadExpression⟩
  have ox_BadNumber : L2.OexC K A_BadNumber := ⟨⟨_, _, _, _, _, _, _, _, _, _, _, _, _, _, _, xL_BadNumber, rv_BadNumber⟩, sa_BadNumber, eC_BadNumber, tC_BadNumber, kC_BadNumber⟩
  have sx_BadNumber : SupC l.prog K A_BadNumber cc_BadNumber cda_BadNumber := ⟨ox_BadNumber, ⟨_, _, _, ce_BadNumber⟩, ⟨_, _, _, _, _, _, co_BadNumber, vf_BadNumber, pf_BadNumber⟩, su_BadNumber, sv_BadNumber, mr_BadNumber, opq, top⟩
  have wx_BadNumber := fx_BadNumber (w := w) (base := base) sx_BadNumber m_super li_BadNumber ci_BadNumber nf_BadNumber
  have x_BadNumber : ExC l.prog w K mg base "BadNumber" (cl 17) ["self", fname 20] (sp1 (cl 17) (fname 20)) := by rw [ecl_BadNumber]; exact ⟨ox_BadNumber, ⟨_, _, ai_BadNumber, ti_BadNumber, wx_BadNumber.1, wx_BadNumber.2⟩, PySem.W.mg_of X G aC_BadNumber⟩
  have M_BadNumber : PySem.W.exmOne K (.ref (cl 17)) (.ref (cl 17)) = some true := by rw [ecl_BadNumber]; exact exm_self eC_BadNumber iC_BadNumber tC_BadNumber sC_BadNumber
  have T_BadNumber : L2.XfC K (cl 17) := by rw [ecl_BadNumber]; exact ⟨ga_BadNumber, gg_BadNumber, eC_BadNumber, hc_BadNumber⟩
  have F_BadNumber : PySem.W.findIn K (.ref (cl 17)) (fname 20) = some none := by rw [ecl_BadNumber]; exact nf_BadNumber
  have xk_BadNumber : L2.ExK l.prog w K mg base "BadNumber" (cl 17) (fname 20) := by rw [ecl_BadNumber]; exact ⟨ox_BadNumber, ⟨_, _, ai_BadNumber, ti_BadNumber, wx_BadNumber.1, fk_BadNumber⟩, PySem.W.mg_of X G aC_BadNumber⟩
  have ox_BadRow : L2.OexC K A_BadRow := ⟨⟨_, _, _, _, _, _, _, _, _, _, _, _, _, _, _, xL_BadRow, rv_BadRow⟩, sa_BadRow, eC_BadRow, tC_BadRow, kC_BadRow⟩
  have sx_BadRow : SupC l.prog K A_BadRow cc_BadRow cda_BadRow := ⟨ox_BadRow, ⟨_, _, _, ce_BadRow⟩, ⟨_, _, _, _, _, _, co_BadRow, vf_BadRow, pf_BadRow⟩, su_BadRow, sv_BadRow, mr_BadRow, opq, top⟩
  have wx_BadRow := fx_BadRow (w := w) (base := base) sx_BadRow m_super li_BadRow ci_BadRow nf_BadRow
  have x_BadRow : ExC l.prog w K mg base "BadRow" (cl 14) ["self", fname 18] (sp1 (cl 14) (fname 18)) := by rw [ecl_BadRow]; exact ⟨ox_BadRow, ⟨_, _, ai_BadRow, ti_BadRow, wx_BadRow.1, wx_BadRow.2⟩, PySem.W.mg_of X G aC_BadRow⟩
  have M_BadRow : PySem.W.exmOne K (.ref (cl 14)) (.ref (cl 14)) = some true := by rw [ecl_BadRow]; exact exm_self eC_BadRow iC_BadRow tC_BadRow sC_BadRow
  have T_BadRow : L2.XfC K (cl 14) := by rw [ecl_BadRow]; exact ⟨ga_BadRow, gg_BadRow, eC_BadRow, hc_BadRow⟩
  have F_BadRow : PySem.W.findIn K (.ref (cl 14)) (fname 18) = some none := by rw [ecl_BadRow]; exact nf_BadRow
  have xk_BadRow : L2.ExK l.prog w K mg base "BadRow" (cl 14) (fname 18) := by rw [ecl_BadRow]; exact ⟨ox_BadRow, ⟨_, _, ai_BadRow, ti_BadRow, wx_BadRow.1, fk_BadRow⟩, PySem.W.mg_of X G aC_BadRow⟩
  have ox_BadState : L2.OexC K A_BadState := ⟨⟨_, _, _, _, _, _, _, _, _, _, _, _, _, _, _, xL_BadState, rv_BadState⟩, sa_BadState, eC_BadState, tC_BadState, kC_BadState⟩
  have sx_BadState : SupC l.prog K A_BadState cc_BadState cda_BadState := ⟨ox_BadState, ⟨_, _, _, ce_BadState⟩, ⟨_, _, _, _, _, _, co_BadState, vf_BadState, pf_BadState⟩, su_BadState, sv_BadState, mr_BadState, opq, top⟩
  have wx_BadState := fx_BadState (w := w) (base := base) sx_BadState m_super li_BadState ci_BadState nf_BadState
  have x_BadState : ExC l.prog w K mg base "BadState" (cl 11) ["self", fname 16] (sp1 (cl 11) (fname 16)) := by rw [ecl_BadState]; exact ⟨ox_BadState, ⟨_, _, ai_BadState, ti_BadState, wx_BadState.1, wx_BadState.2⟩, PySem.W.mg_of X G aC_BadState⟩
  have M_BadState : PySem.W.exmOne K (.ref (cl 11)) (.ref (cl 11)) = some true := by rw [ecl_BadState]; exact exm_self eC_BadState iC_BadState tC_BadState sC_BadState
  have T_BadState : L2.XfC K (cl 11) := by rw [ecl_BadState]; exact ⟨ga_BadState, gg_BadState, eC_BadState, hc_BadState⟩
  have F_BadState : PySem.W.findIn K (.ref (cl 11)) (fname 16) = some none := by rw [ecl_BadState]; exact nf_BadState
  have xk_BadState : L2.ExK l.prog w K mg base "BadState" (cl 11) (fname 16) := by rw [ecl_BadState]; exact ⟨ox_BadState, ⟨_, _, ai_BadState, ti_BadState, wx_BadState.1, fk_BadState⟩, PySem.W.mg_of X G aC_BadState⟩
  have ox_BadTally : L2.OexC K A_BadTally := ⟨⟨_, _, _, _, _, _, _, _, _, _, _, _, _, _, _, xL_BadTally, rv_BadTally⟩, sa_BadTally, eC_BadTally, tC_BadTally, kC_BadTally⟩
  have sx_BadTally : SupC l.prog K A_BadTally cc_BadTally cda_BadTally := ⟨ox_BadTally, ⟨_, _, _, ce_BadTally⟩, ⟨_, _, _, _, _, _, co_BadTally, vf_BadTally, pf_BadTally⟩, su_BadTally, sv_BadTally, mr_BadTally, opq, top⟩
  have wx_BadTally := fx_BadTally (w := w) (base := base) sx_BadTally m_super li_BadTally ci_BadTally
  have x_BadTally : ExC l.prog w K mg base "BadTally" (cl 20) ["self"] (sp0 (cl 20)) := by rw [ecl_BadTally]; exact ⟨ox_BadTally, ⟨_, _, ai_BadTally, ti_BadTally, wx_BadTally.1, wx_BadTally.2⟩, PySem.W.mg_of X G aC_BadTally⟩
  have M_BadTally : PySem.W.exmOne K (.ref (cl 20)) (.ref (cl 20)) = some true := by rw [ecl_BadTally]; exact exm_self eC_BadTally iC_BadTally tC_BadTally sC_BadTally
  have T_BadTally : L2.XfC K (cl 20) := by rw [ecl_BadTally]; exact ⟨ga_BadTally, gg_BadTally, eC_BadTally, hc_BadTally⟩
  have ox_BadText : L2.OexC K A_BadText := ⟨⟨_, _, _, _, _, _, _, _, _, _, _, _, _, _, _, xL_BadText, rv_BadText⟩, sa_BadText, eC_BadText, tC_BadText, kC_BadText⟩
  have sx_BadText : SupC l.prog K A_BadText cc_BadText cda_BadText := ⟨ox_BadText, ⟨_, _, _, ce_BadText⟩, ⟨_, _, _, _, _, _, co_BadText, vf_BadText, pf_BadText⟩, su_BadText, sv_BadText, mr_BadText, opq, top⟩
  have wx_BadText := fx_BadText (w := w) (base := base) sx_BadText m_super li_BadText ci_BadText nf_BadText
  have x_BadText : ExC l.prog w K mg base "BadText" (cl 13) ["self", fname 15] (sp1 (cl 13) (fname 15)) := by rw [ecl_BadText]; exact ⟨ox_BadText, ⟨_, _, ai_BadText, ti_BadText, wx_BadText.1, wx_BadText.2⟩, PySem.W.mg_of X G aC_BadText⟩
  have M_BadText : PySem.W.exmOne K (.ref (cl 13)) (.ref (cl 13)) = some true := by rw [ecl_BadText]; exact exm_self eC_BadText iC_BadText tC_BadText sC_BadText
  have T_BadText : L2.XfC K (cl 13) := by rw [ecl_BadText]; exact ⟨ga_BadText, gg_BadText, eC_BadText, hc_BadText⟩
  have F_BadText : PySem.W.findIn K (.ref (cl 13)) (fname 15) = some none := by rw [ecl_BadText]; exact nf_BadText
  have xk_BadText : L2.ExK l.prog w K mg base "BadText" (cl 13) (fname 15) := by rw [ecl_BadText]; exact ⟨ox_BadText, ⟨_, _, ai_BadText, ti_BadText, wx_BadText.1, fk_BadText⟩, PySem.W.mg_of X G aC_BadText⟩
  have ox_NotSettled : L2.OexC K A_NotSettled := ⟨⟨_, _, _, _, _, _, _, _, _, _, _, _, _, _, _, xL_NotSettled, rv_NotSettled⟩, sa_NotSettled, eC_NotSettled, tC_NotSettled, kC_NotSettled⟩
  have sx_NotSettled : SupC l.prog K A_NotSettled cc_NotSettled cda_NotSettled := ⟨ox_NotSettled, ⟨_, _, _, ce_NotSettled⟩, ⟨_, _, _, _, _, _, co_NotSettled, vf_NotSettled, pf_NotSettled⟩, su_NotSettled, sv_NotSettled, mr_NotSettled, opq, top⟩
  have wx_NotSettled := fx_NotSettled (w := w) (base := base) sx_NotSettled m_super li_NotSettled ci_NotSettled nf_NotSettled
  have x_NotSettled : ExC l.prog w K mg base "NotSettled" (cl 19) ["self", fname 22] (sp1 (cl 19) (fname 22)) := by rw [ecl_NotSettled]; exact ⟨ox_NotSettled, ⟨_, _, ai_NotSettled, ti_NotSettled, wx_NotSettled.1, wx_NotSettled.2⟩, PySem.W.mg_of X G aC_NotSettled⟩
  have M_NotSettled : PySem.W.exmOne K (.ref (cl 19)) (.ref (cl 19)) = some true := by rw [ecl_NotSettled]; exact exm_self eC_NotSettled iC_NotSettled tC_NotSettled sC_NotSettled
  have T_NotSettled : L2.XfC K (cl 19) := by rw [ecl_NotSettled]; exact ⟨ga_NotSettled, gg_NotSettled, eC_NotSettled, hc_NotSettled⟩
  have F_NotSettled : PySem.W.findIn K (.ref (cl 19)) (fname 22) = some none := by rw [ecl_NotSettled]; exact nf_NotSettled
  have xk_NotSettled : L2.ExK l.prog w K mg base "NotSettled" (cl 19) (fname 22) := by rw [ecl_NotSettled]; exact ⟨ox_NotSettled, ⟨_, _, ai_NotSettled, ti_NotSettled, wx_NotSettled.1, fk_NotSettled⟩, PySem.W.mg_of X G aC_NotSettled⟩
  have ox_TooMany : L2.OexC K A_TooMany := ⟨⟨_, _, _, _, _, _, _, _, _, _, _, _, _, _, _, xL_TooMany, rv_TooMany⟩, sa_TooMany, eC_TooMany, tC_TooMany, kC_TooMany⟩
  have sx_TooMany : SupC l.prog K A_TooMany cc_TooMany cda_TooMany := ⟨ox_TooMany, ⟨_, _, _, ce_TooMany⟩, ⟨_, _, _, _, _, _, co_TooMany, vf_TooMany, pf_TooMany⟩, su_TooMany, sv_TooMany, mr_TooMany, opq, top⟩
  have wx_TooMany := fx_TooMany (w := w) (base := base) sx_TooMany m_super li_TooMany ci_TooMany nf_TooMany
  have x_TooMany : ExC l.prog w K mg base "TooMany" (cl 12) ["self", fname 17] (sp1 (cl 12) (fname 17)) := by rw [ecl_TooMany]; exact ⟨ox_TooMany, ⟨_, _, ai_TooMany, ti_TooMany, wx_TooMany.1, wx_TooMany.2⟩, PySem.W.mg_of X G aC_TooMany⟩
  have M_TooMany : PySem.W.exmOne K (.ref (cl 12)) (.ref (cl 12)) = some true := by rw [ecl_TooMany]; exact exm_self eC_TooMany iC_TooMany tC_TooMany sC_TooMany
  have T_TooMany : L2.XfC K (cl 12) := by rw [ecl_TooMany]; exact ⟨ga_TooMany, gg_TooMany, eC_TooMany, hc_TooMany⟩
  have F_TooMany : PySem.W.findIn K (.ref (cl 12)) (fname 17) = some none := by rw [ecl_TooMany]; exact nf_TooMany
  have xk_TooMany : L2.ExK l.prog w K mg base "TooMany" (cl 12) (fname 17) := by rw [ecl_TooMany]; exact ⟨ox_TooMany, ⟨_, _, ai_TooMany, ti_TooMany, wx_TooMany.1, fk_TooMany⟩, PySem.W.mg_of X G aC_TooMany⟩
  have ox_Unbounded : L2.OexC K A_Unbounded := ⟨⟨_, _, _, _, _, _, _, _, _, _, _, _, _, _, _, xL_Unbounded, rv_Unbounded⟩, sa_Unbounded, eC_Unbounded, tC_Unbounded, kC_Unbounded⟩
  have sx_Unbounded : SupC l.prog K A_Unbounded cc_Unbounded cda_Unbounded := ⟨ox_Unbounded, ⟨_, _, _, ce_Unbounded⟩, ⟨_, _, _, _, _, _, co_Unbounded, vf_Unbounded, pf_Unbounded⟩, su_Unbounded, sv_Unbounded, mr_Unbounded, opq, top⟩
  have wx_Unbounded := fx_Unbounded (w := w) (base := base) sx_Unbounded m_super li_Unbounded ci_Unbounded
  have x_Unbounded : ExC l.prog w K mg base "Unbounded" (cl 21) ["self"] (sp0 (cl 21)) := by rw [ecl_Unbounded]; exact ⟨ox_Unbounded, ⟨_, _, ai_Unbounded, ti_Unbounded, wx_Unbounded.1, wx_Unbounded.2⟩, PySem.W.mg_of X G aC_Unbounded⟩
  have M_Unbounded : PySem.W.exmOne K (.ref (cl 21)) (.ref (cl 21)) = some true := by rw [ecl_Unbounded]; exact exm_self eC_Unbounded iC_Unbounded tC_Unbounded sC_Unbounded
  have T_Unbounded : L2.XfC K (cl 21) := by rw [ecl_Unbounded]; exact ⟨ga_Unbounded, gg_Unbounded, eC_Unbounded, hc_Unbounded⟩
  have ox_UnknownArrow : L2.OexC K A_UnknownArrow := ⟨⟨_, _, _, _, _, _, _, _, _, _, _, _, _, _, _, xL_UnknownArrow, rv_UnknownArrow⟩, sa_UnknownArrow, eC_UnknownArrow, tC_UnknownArrow, kC_UnknownArrow⟩
  have sx_UnknownArrow : SupC l.prog K A_UnknownArrow cc_UnknownArrow cda_UnknownArrow := ⟨ox_UnknownArrow, ⟨_, _, _, ce_UnknownArrow⟩, ⟨_, _, _, _, _, _, co_UnknownArrow, vf_UnknownArrow, pf_UnknownArrow⟩, su_UnknownArrow, sv_UnknownArrow, mr_UnknownArrow, opq, top⟩
  have wx_UnknownArrow := fx_UnknownArrow (w := w) (base := base) sx_UnknownArrow m_super li_UnknownArrow ci_UnknownArrow nf_UnknownArrow
  have x_UnknownArrow : ExC l.prog w K mg base "UnknownArrow" (cl 16) ["self", fname 19] (sp1 (cl 16) (fname 19)) := by rw [ecl_UnknownArrow]; exact ⟨ox_UnknownArrow, ⟨_, _, ai_UnknownArrow, ti_UnknownArrow, wx_UnknownArrow.1, wx_UnknownArrow.2⟩, PySem.W.mg_of X G aC_UnknownArrow⟩
  have M_UnknownArrow : PySem.W.exmOne K (.ref (cl 16)) (.ref (cl 16)) = some true := by rw [ecl_UnknownArrow]; exact exm_self eC_UnknownArrow iC_UnknownArrow tC_UnknownArrow sC_UnknownArrow
  have T_UnknownArrow : L2.XfC K (cl 16) := by rw [ecl_UnknownArrow]; exact ⟨ga_UnknownArrow, gg_UnknownArrow, eC_UnknownArrow, hc_UnknownArrow⟩
  have F_UnknownArrow : PySem.W.findIn K (.ref (cl 16)) (fname 19) = some none := by rw [ecl_UnknownArrow]; exact nf_UnknownArrow
  have xk_UnknownArrow : L2.ExK l.prog w K mg base "UnknownArrow" (cl 16) (fname 19) := by rw [ecl_UnknownArrow]; exact ⟨ox_UnknownArrow, ⟨_, _, ai_UnknownArrow, ti_UnknownArrow, wx_UnknownArrow.1, fk_UnknownArrow⟩, PySem.W.mg_of X G aC_UnknownArrow⟩
  have ox_UnknownState : L2.OexC K A_UnknownState := ⟨⟨_, _, _, _, _, _, _, _, _, _, _, _, _, _, _, xL_UnknownState, rv_UnknownState⟩, sa_UnknownState, eC_UnknownState, tC_UnknownState, kC_UnknownState⟩
  have sx_UnknownState : SupC l.prog K A_UnknownState cc_UnknownState cda_UnknownState := ⟨ox_UnknownState, ⟨_, _, _, ce_UnknownState⟩, ⟨_, _, _, _, _, _, co_UnknownState, vf_UnknownState, pf_UnknownState⟩, su_UnknownState, sv_UnknownState, mr_UnknownState, opq, top⟩
  have wx_UnknownState := fx_UnknownState (w := w) (base := base) sx_UnknownState m_super li_UnknownState ci_UnknownState nf_UnknownState
  have x_UnknownState : ExC l.prog w K mg base "UnknownState" (cl 15) ["self", fname 16] (sp1 (cl 15) (fname 16)) := by rw [ecl_UnknownState]; exact ⟨ox_UnknownState, ⟨_, _, ai_UnknownState, ti_UnknownState, wx_UnknownState.1, wx_UnknownState.2⟩, PySem.W.mg_of X G aC_UnknownState⟩
  have M_UnknownState : PySem.W.exmOne K (.ref (cl 15)) (.ref (cl 15)) = some true := by rw [ecl_UnknownState]; exact exm_self eC_UnknownState iC_UnknownState tC_UnknownState sC_UnknownState
  have T_UnknownState : L2.XfC K (cl 15) := by rw [ecl_UnknownState]; exact ⟨ga_UnknownState, gg_UnknownState, eC_UnknownState, hc_UnknownState⟩
  have F_UnknownState : PySem.W.findIn K (.ref (cl 15)) (fname 16) = some none := by rw [ecl_UnknownState]; exact nf_UnknownState
  have xk_UnknownState : L2.ExK l.prog w K mg base "UnknownState" (cl 15) (fname 16) := by rw [ecl_UnknownState]; exact ⟨ox_UnknownState, ⟨_, _, ai_UnknownState, ti_UnknownState, wx_UnknownState.1, fk_UnknownState⟩, PySem.W.mg_of X G aC_UnknownState⟩
  have PM_PaidError : ∀ cc ∈ ([10, 11, 12, 13, 14, 15, 16, 17, 18, 19, 20, 21] : List Nat), PySem.W.exmOne K (.ref (cl cc)) (.ref (cl 22)) = some true := (all_cons (by rw [ecl_BadArrow, ecl_PaidError]; exact exm_two eC_PaidError iC_PaidError tC_PaidError sp_BadArrow) (all_cons (by rw [ecl_BadState, ecl_PaidError]; exact exm_two eC_PaidError iC_PaidError tC_PaidError sp_BadState) (all_cons (by rw [ecl_TooMany, ecl_PaidError]; exact exm_two eC_PaidError iC_PaidError tC_PaidError sp_TooMany) (all_cons (by rw [ecl_BadText, ecl_PaidError]; exact exm_two eC_PaidError iC_PaidError tC_PaidError sp_BadText) (all_cons (by rw [ecl_BadRow, ecl_PaidError]; exact exm_two eC_PaidError iC_PaidError tC_PaidError sp_BadRow) (all_cons (by rw [ecl_UnknownState, ecl_PaidError]; exact exm_two eC_PaidError iC_PaidError tC_PaidError sp_UnknownState) (all_cons (by rw [ecl_UnknownArrow, ecl_PaidError]; exact exm_two eC_PaidError iC_PaidError tC_PaidError sp_UnknownArrow) (all_cons (by rw [ecl_BadNumber, ecl_PaidError]; exact exm_two eC_PaidError iC_PaidError tC_PaidError sp_BadNumber) (all_cons (by rw [ecl_BadExpression, ecl_PaidError]; exact exm_two eC_PaidError iC_PaidError tC_PaidError sp_BadExpression) (all_cons (by rw [ecl_NotSettled, ecl_PaidError]; exact exm_two eC_PaidError iC_PaidError tC_PaidError sp_NotSettled) (all_cons (by rw [ecl_BadTally, ecl_PaidError]; exact exm_two eC_PaidError iC_PaidError tC_PaidError sp_BadTally) (all_cons (by rw [ecl_Unbounded, ecl_PaidError]; exact exm_two eC_PaidError iC_PaidError tC_PaidError sp_Unbounded) all_nil))))))))))))
  have EK_PaidError : ∀ cc ∈ ([10, 11, 12, 13, 14, 15, 16, 17, 18, 19, 20, 21] : List Nat), L2.EcK K (cl cc) := (all_cons (by rw [ecl_BadArrow]; exact ⟨⟨ga_BadArrow, gg_BadArrow, eC_BadArrow, hc_BadArrow⟩, iC_BadArrow, ck_BadArrow, sp_exc, tk_exc, mo_BadArrow, L2.kit_ve sv_BadArrow⟩) (all_cons (by rw [ecl_BadState]; exact ⟨⟨ga_BadState, gg_BadState, eC_BadState, hc_BadState⟩, iC_BadState, ck_BadState, sp_exc, tk_exc, mo_BadState, L2.kit_ve sv_BadState⟩) (all_cons (by rw [ecl_TooMany]; exact ⟨⟨ga_TooMany, gg_TooMany, eC_TooMany, hc_TooMany⟩, iC_TooMany, ck_TooMany, sp_exc, tk_exc, mo_TooMany, L2.kit_ve sv_TooMany⟩) (all_cons (by rw [ecl_BadText]; exact ⟨⟨ga_BadText, gg_BadText, eC_BadText, hc_BadText⟩, iC_BadText, ck_BadText, sp_exc, tk_exc, mo_BadText, L2.kit_ve sv_BadText⟩) (all_cons (by rw [ecl_BadRow]; exact ⟨⟨ga_BadRow, gg_BadRow, eC_BadRow, hc_BadRow⟩, iC_BadRow, ck_BadRow, sp_exc, tk_exc, mo_BadRow, L2.kit_ve sv_BadRow⟩) (all_cons (by rw [ecl_UnknownState]; exact ⟨⟨ga_UnknownState, gg_UnknownState, eC_UnknownState, hc_UnknownState⟩, iC_UnknownState, ck_UnknownState, sp_exc, tk_exc, mo_UnknownState, L2.kit_ve sv_UnknownState⟩) (all_cons (by rw [ecl_UnknownArrow]; exact ⟨⟨ga_UnknownArrow, gg_UnknownArrow, eC_UnknownArrow, hc_UnknownArrow⟩, iC_UnknownArrow, ck_UnknownArrow, sp_exc, tk_exc, mo_UnknownArrow, L2.kit_ve sv_UnknownArrow⟩) (all_cons (by rw [ecl_BadNumber]; exact ⟨⟨ga_BadNumber, gg_BadNumber, eC_BadNumber, hc_BadNumber⟩, iC_BadNumber, ck_BadNumber, sp_exc, tk_exc, mo_BadNumber, L2.kit_ve sv_BadNumber⟩) (all_cons (by rw [ecl_BadExpression]; exact ⟨⟨ga_BadExpression, gg_BadExpression, eC_BadExpression, hc_BadExpression⟩, iC_BadExpression, ck_BadExpression, sp_exc, tk_exc, mo_BadExpression, L2.kit_ve sv_BadExpression⟩) (all_cons (by rw [ecl_NotSettled]; exact ⟨⟨ga_NotSettled, gg_NotSettled, eC_NotSettled, hc_NotSettled⟩, iC_NotSettled, ck_NotSettled, sp_exc, tk_exc, mo_NotSettled, L2.kit_ve sv_NotSettled⟩) (all_cons (by rw [ecl_BadTally]; exact ⟨⟨ga_BadTally, gg_BadTally, eC_BadTally, hc_BadTally⟩, iC_BadTally, ck_BadTally, sp_exc, tk_exc, mo_BadTally, L2.kit_ve sv_BadTally⟩) (all_cons (by rw [ecl_Unbounded]; exact ⟨⟨ga_Unbounded, gg_Unbounded, eC_Unbounded, hc_Unbounded⟩, iC_Unbounded, ck_Unbounded, sp_exc, tk_exc, mo_Unbounded, L2.kit_ve sv_Unbounded⟩) all_nil))))))))))))
  have MM_BadArrow_BadState_TooMany_BadText_BadRow_UnknownState_UnknownArrow_BadNumber_BadExpression_NotSettled_BadTally_Unbounded : ∀ cc ∈ ([10, 11, 12, 13, 14, 15, 16, 17, 18, 19, 20, 21] : List Nat), ∀ d ∈ ([10, 11, 12, 13, 14, 15, 16, 17, 18, 19, 20, 21] : List Nat), PySem.W.exmOne K (.ref (cl cc)) (.ref (cl d)) = some (Nat.beq cc d) := (all_cons (all_cons (by rw [ecl_BadArrow]; exact exm_two eC_BadArrow iC_BadArrow tC_BadArrow sC_BadArrow) (all_cons (by rw [ecl_BadArrow, ecl_BadState]; exact exm_two eC_BadState iC_BadState tC_BadState sb_BadArrow_BadState) (all_cons (by rw [ecl_BadArrow, ecl_TooMany]; exact exm_two eC_TooMany iC_TooMany tC_TooMany sb_BadArrow_TooMany) (all_cons (by rw [ecl_BadArrow, ecl_BadText]; exact exm_two eC_BadText iC_BadText tC_BadText sb_BadArrow_BadText) (all_cons (by rw [ecl_BadArrow, ecl_BadRow]; exact exm_two eC_BadRow iC_BadRow tC_BadRow sb_BadArrow_BadRow) (all_cons (by rw [ecl_BadArrow, ecl_UnknownState]; exact exm_two eC_UnknownState iC_UnknownState tC_UnknownState sb_BadArrow_UnknownState) (all_cons (by rw [ecl_BadArrow, ecl_UnknownArrow]; exact exm_two eC_UnknownArrow iC_UnknownArrow tC_UnknownArrow sb_BadArrow_UnknownArrow) (all_cons (by rw [ecl_BadArrow, ecl_BadNumber]; exact exm_two eC_BadNumber iC_BadNumber tC_BadNumber sb_BadArrow_BadNumber) (all_cons (by rw [ecl_BadArrow, ecl_BadExpression]; exact exm_two eC_BadExpression iC_BadExpression tC_BadExpression sb_BadArrow_BadExpression) (all_cons (by rw [ecl_BadArrow, ecl_NotSettled]; exact exm_two eC_NotSettled iC_NotSettled tC_NotSettled sb_BadArrow_NotSettled) (all_cons (by rw [ecl_BadArrow, ecl_BadTally]; exact exm_two eC_BadTally iC_BadTally tC_BadTally sb_BadArrow_BadTally) (all_cons (by rw [ecl_BadArrow, ecl_Unbounded]; exact exm_two eC_Unbounded iC_Unbounded tC_Unbounded sb_BadArrow_Unbounded) all_nil)))))))))))) (all_cons (all_cons (by rw [ecl_BadState, ecl_BadArrow]; exact exm_two eC_BadArrow iC_BadArrow tC_BadArrow sb_BadState_BadArrow) (all_cons (by rw [ecl_BadState]; exact exm_two eC_BadState iC_BadState tC_BadState sC_BadState) (all_cons (by rw [ecl_BadState, ecl_TooMany]; exact exm_two eC_TooMany iC_TooMany tC_TooMany sb_BadState_TooMany) (all_cons (by rw [ecl_BadState, ecl_BadText]; exact exm_two eC_BadText iC_BadText tC_BadText sb_BadState_BadText) (all_cons (by rw [ecl_BadState, ecl_BadRow]; exact exm_two eC_BadRow iC_BadRow tC_BadRow sb_BadState_BadRow) (all_cons (by rw [ecl_BadState, ecl_UnknownState]; exact exm_two eC_UnknownState iC_UnknownState tC_UnknownState sb_BadState_UnknownState) (all_cons (by rw [ecl_BadState, ecl_UnknownArrow]; exact exm_two eC_UnknownArrow iC_UnknownArrow tC_UnknownArrow sb_BadState_UnknownArrow) (all_cons (by rw [ecl_BadState, ecl_BadNumber]; exact exm_two eC_BadNumber iC_BadNumber tC_BadNumber sb_BadState_BadNumber) (all_cons (by rw [ecl_BadState, ecl_BadExpression]; exact exm_two eC_BadExpression iC_BadExpression tC_BadExpression sb_BadState_BadExpression) (all_cons (by rw [ecl_BadState, ecl_NotSettled]; exact exm_two eC_NotSettled iC_NotSettled tC_NotSettled sb_BadState_NotSettled) (all_cons (by rw [ecl_BadState, ecl_BadTally]; exact exm_two eC_BadTally iC_BadTally tC_BadTally sb_BadState_BadTally) (all_cons (by rw [ecl_BadState, ecl_Unbounded]; exact exm_two eC_Unbounded iC_Unbounded tC_Unbounded sb_BadState_Unbounded) all_nil)))))))))))) (all_cons (all_cons (by rw [ecl_TooMany, ecl_BadArrow]; exact exm_two eC_BadArrow iC_BadArrow tC_BadArrow sb_TooMany_BadArrow) (all_cons (by rw [ecl_TooMany, ecl_BadState]; exact exm_two eC_BadState iC_BadState tC_BadState sb_TooMany_BadState) (all_cons (by rw [ecl_TooMany]; exact exm_two eC_TooMany iC_TooMany tC_TooMany sC_TooMany) (all_cons (by rw [ecl_TooMany, ecl_BadText]; exact exm_two eC_BadText iC_BadText tC_BadText sb_TooMany_BadText) (all_cons (by rw [ecl_TooMany, ecl_BadRow]; exact exm_two eC_BadRow iC_BadRow tC_BadRow sb_TooMany_BadRow) (all_cons (by rw [ecl_TooMany, ecl_UnknownState]; exact exm_two eC_UnknownState iC_UnknownState tC_UnknownState sb_TooMany_UnknownState) (all_cons (by rw [ecl_TooMany, ecl_UnknownArrow]; exact exm_two eC_UnknownArrow iC_UnknownArrow tC_UnknownArrow sb_TooMany_UnknownArrow) (all_cons (by rw [ecl_TooMany, ecl_BadNumber]; exact exm_two eC_BadNumber iC_BadNumber tC_BadNumber sb_TooMany_BadNumber) (all_cons (by rw [ecl_TooMany, ecl_BadExpression]; exact exm_two eC_BadExpression iC_BadExpression tC_BadExpression sb_TooMany_BadExpression) (all_cons (by rw [ecl_TooMany, ecl_NotSettled]; exact exm_two eC_NotSettled iC_NotSettled tC_NotSettled sb_TooMany_NotSettled) (all_cons (by rw [ecl_TooMany, ecl_BadTally]; exact exm_two eC_BadTally iC_BadTally tC_BadTally sb_TooMany_BadTally) (all_cons (by rw [ecl_TooMany, ecl_Unbounded]; exact exm_two eC_Unbounded iC_Unbounded tC_Unbounded sb_TooMany_Unbounded) all_nil)))))))))))) (all_cons (all_cons (by rw [ecl_BadText, ecl_BadArrow]; exact exm_two eC_BadArrow iC_BadArrow tC_BadArrow sb_BadText_BadArrow) (all_cons (by rw [ecl_BadText, ecl_BadState]; exact exm_two eC_BadState iC_BadState tC_BadState sb_BadText_BadState) (all_cons (by rw [ecl_BadText, ecl_TooMany]; exact exm_two eC_TooMany iC_TooMany tC_TooMany sb_BadText_TooMany) (all_cons (by rw [ecl_BadText]; exact exm_two eC_BadText iC_BadText tC_BadText sC_BadText) (all_cons (by rw [ecl_BadText, ecl_BadRow]; exact exm_two eC_BadRow iC_BadRow tC_BadRow sb_BadText_BadRow) (all_cons (by rw [ecl_BadText, ecl_UnknownState]; exact exm_two eC_UnknownState iC_UnknownState tC_UnknownState sb_BadText_UnknownState) (all_cons (by rw [ecl_BadText, ecl_UnknownArrow]; exact exm_two eC_UnknownArrow iC_UnknownArrow tC_UnknownArrow sb_BadText_UnknownArrow) (all_cons (by rw [ecl_BadText, ecl_BadNumber]; exact exm_two eC_BadNumber iC_BadNumber tC_BadNumber sb_BadText_BadNumber) (all_cons (by rw [ecl_BadText, ecl_BadExpression]; exact exm_two eC_BadExpression iC_BadExpression tC_BadExpression sb_BadText_BadExpression) (all_cons (by rw [ecl_BadText, ecl_NotSettled]; exact exm_two eC_NotSettled iC_NotSettled tC_NotSettled sb_BadText_NotSettled) (all_cons (by rw [ecl_BadText, ecl_BadTally]; exact exm_two eC_BadTally iC_BadTally tC_BadTally sb_BadText_BadTally) (all_cons (by rw [ecl_BadText, ecl_Unbounded]; exact exm_two eC_Unbounded iC_Unbounded tC_Unbounded sb_BadText_Unbounded) all_nil)))))))))))) (all_cons (all_cons (by rw [ecl_BadRow, ecl_BadArrow]; exact exm_two eC_BadArrow iC_BadArrow tC_BadArrow sb_BadRow_BadArrow) (all_cons (by rw [ecl_BadRow, ecl_BadState]; exact exm_two eC_BadState iC_BadState tC_BadState sb_BadRow_BadState) (all_cons (by rw [ecl_BadRow, ecl_TooMany]; exact exm_two eC_TooMany iC_TooMany tC_TooMany sb_BadRow_TooMany) (all_cons (by rw [ecl_BadRow, ecl_BadText]; exact exm_two eC_BadText iC_BadText tC_BadText sb_BadRow_BadText) (all_cons (by rw [ecl_BadRow]; exact exm_two eC_BadRow iC_BadRow tC_BadRow sC_BadRow) (all_cons (by rw [ecl_BadRow, ecl_UnknownState]; exact exm_two eC_UnknownState iC_UnknownState tC_UnknownState sb_BadRow_UnknownState) (all_cons (by rw [ecl_BadRow, ecl_UnknownArrow]; exact exm_two eC_UnknownArrow iC_UnknownArrow tC_UnknownArrow sb_BadRow_UnknownArrow) (all_cons (by rw [ecl_BadRow, ecl_BadNumber]; exact exm_two eC_BadNumber iC_BadNumber tC_BadNumber sb_BadRow_BadNumber) (all_cons (by rw [ecl_BadRow, ecl_BadExpression]; exact exm_two eC_BadExpression iC_BadExpression tC_BadExpression sb_BadRow_BadExpression) (all_cons (by rw [ecl_BadRow, ecl_NotSettled]; exact exm_two eC_NotSettled iC_NotSettled tC_NotSettled sb_BadRow_NotSettled) (all_cons (by rw [ecl_BadRow, ecl_BadTally]; exact exm_two eC_BadTally iC_BadTally tC_BadTally sb_BadRow_BadTally) (all_cons (by rw [ecl_BadRow, ecl_Unbounded]; exact exm_two eC_Unbounded iC_Unbounded tC_Unbounded sb_BadRow_Unbounded) all_nil)))))))))))) (all_cons (all_cons (by rw [ecl_UnknownState, ecl_BadArrow]; exact exm_two eC_BadArrow iC_BadArrow tC_BadArrow sb_UnknownState_BadArrow) (all_cons (by rw [ecl_UnknownState, ecl_BadState]; exact exm_two eC_BadState iC_BadState tC_BadState sb_UnknownState_BadState) (all_cons (by rw [ecl_UnknownState, ecl_TooMany]; exact exm_two eC_TooMany iC_TooMany tC_TooMany sb_UnknownState_TooMany) (all_cons (by rw [ecl_UnknownState, ecl_BadText]; exact exm_two eC_BadText iC_BadText tC_BadText sb_UnknownState_BadText) (all_cons (by rw [ecl_UnknownState, ecl_BadRow]; exact exm_two eC_BadRow iC_BadRow tC_BadRow sb_UnknownState_BadRow) (all_cons (by rw [ecl_UnknownState]; exact exm_two eC_UnknownState iC_UnknownState tC_UnknownState sC_UnknownState) (all_cons (by rw [ecl_UnknownState, ecl_UnknownArrow]; exact exm_two eC_UnknownArrow iC_UnknownArrow tC_UnknownArrow sb_UnknownState_UnknownArrow) (all_cons (by rw [ecl_UnknownState, ecl_BadNumber]; exact exm_two eC_BadNumber iC_BadNumber tC_BadNumber sb_UnknownState_BadNumber) (all_cons (by rw [ecl_UnknownState, ecl_BadExpression]; exact exm_two eC_BadExpression iC_BadExpression tC_BadExpression sb_UnknownState_BadExpression) (all_cons (by rw [ecl_UnknownState, ecl_NotSettled]; exact exm_two eC_NotSettled iC_NotSettled tC_NotSettled sb_UnknownState_NotSettled) (all_cons (by rw [ecl_UnknownState, ecl_BadTally]; exact exm_two eC_BadTally iC_BadTally tC_BadTally sb_UnknownState_BadTally) (all_cons (by rw [ecl_UnknownState, ecl_Unbounded]; exact exm_two eC_Unbounded iC_Unbounded tC_Unbounded sb_UnknownState_Unbounded) all_nil)))))))))))) (all_cons (all_cons (by rw [ecl_UnknownArrow, ecl_BadArrow]; exact exm_two eC_BadArrow iC_BadArrow tC_BadArrow sb_UnknownArrow_BadArrow) (all_cons (by rw [ecl_UnknownArrow, ecl_BadState]; exact exm_two eC_BadState iC_BadState tC_BadState sb_UnknownArrow_BadState) (all_cons (by rw [ecl_UnknownArrow, ecl_TooMany]; exact exm_two eC_TooMany iC_TooMany tC_TooMany sb_UnknownArrow_TooMany) (all_cons (by rw [ecl_UnknownArrow, ecl_BadText]; exact exm_two eC_BadText iC_BadText tC_BadText sb_UnknownArrow_BadText) (all_cons (by rw [ecl_UnknownArrow, ecl_BadRow]; exact exm_two eC_BadRow iC_BadRow tC_BadRow sb_UnknownArrow_BadRow) (all_cons (by rw [ecl_UnknownArrow, ecl_UnknownState]; exact exm_two eC_UnknownState iC_UnknownState tC_UnknownState sb_UnknownArrow_UnknownState) (all_cons (by rw [ecl_UnknownArrow]; exact exm_two eC_UnknownArrow iC_UnknownArrow tC_UnknownArrow sC_UnknownArrow) (all_cons (by rw [ecl_UnknownArrow, ecl_BadNumber]; exact exm_two eC_BadNumber iC_BadNumber tC_BadNumber sb_UnknownArrow_BadNumber) (all_cons (by rw [ecl_UnknownArrow, ecl_BadExpression]; exact exm_two eC_BadExpression iC_BadExpression tC_BadExpression sb_UnknownArrow_BadExpression) (all_cons (by rw [ecl_UnknownArrow, ecl_NotSettled]; exact exm_two eC_NotSettled iC_NotSettled tC_NotSettled sb_UnknownArrow_NotSettled) (all_cons (by rw [ecl_UnknownArrow, ecl_BadTally]; exact exm_two eC_BadTally iC_BadTally tC_BadTally sb_UnknownArrow_BadTally) (all_cons (by rw [ecl_UnknownArrow, ecl_Unbounded]; exact exm_two eC_Unbounded iC_Unbounded tC_Unbounded sb_UnknownArrow_Unbounded) all_nil)))))))))))) (all_cons (all_cons (by rw [ecl_BadNumber, ecl_BadArrow]; exact exm_two eC_BadArrow iC_BadArrow tC_BadArrow sb_BadNumber_BadArrow) (all_cons (by rw [ecl_BadNumber, ecl_BadState]; exact exm_two eC_BadState iC_BadState tC_BadState sb_BadNumber_BadState) (all_cons (by rw [ecl_BadNumber, ecl_TooMany]; exact exm_two eC_TooMany iC_TooMany tC_TooMany sb_BadNumber_TooMany) (all_cons (by rw [ecl_BadNumber, ecl_BadText]; exact exm_two eC_BadText iC_BadText tC_BadText sb_BadNumber_BadText) (all_cons (by rw [ecl_BadNumber, ecl_BadRow]; exact exm_two eC_BadRow iC_BadRow tC_BadRow sb_BadNumber_BadRow) (all_cons (by rw [ecl_BadNumber, ecl_UnknownState]; exact exm_two eC_UnknownState iC_UnknownState tC_UnknownState sb_BadNumber_UnknownState) (all_cons (by rw [ecl_BadNumber, ecl_UnknownArrow]; exact exm_two eC_UnknownArrow iC_UnknownArrow tC_UnknownArrow sb_BadNumber_UnknownArrow) (all_cons (by rw [ecl_BadNumber]; exact exm_two eC_BadNumber iC_BadNumber tC_BadNumber sC_BadNumber) (all_cons (by rw [ecl_BadNumber, ecl_BadExpression]; exact exm_two eC_BadExpression iC_BadExpression tC_BadExpression sb_BadNumber_BadExpression) (all_cons (by rw [ecl_BadNumber, ecl_NotSettled]; exact exm_two eC_NotSettled iC_NotSettled tC_NotSettled sb_BadNumber_NotSettled) (all_cons (by rw [ecl_BadNumber, ecl_BadTally]; exact exm_two eC_BadTally iC_BadTally tC_BadTally sb_BadNumber_BadTally) (all_cons (by rw [ecl_BadNumber, ecl_Unbounded]; exact exm_two eC_Unbounded iC_Unbounded tC_Unbounded sb_BadNumber_Unbounded) all_nil)))))))))))) (all_cons (all_cons (by rw [ecl_BadExpression, ecl_BadArrow]; exact exm_two eC_BadArrow iC_BadArrow tC_BadArrow sb_BadExpression_BadArrow) (all_cons (by rw [ecl_BadExpression, ecl_BadState]; exact exm_two eC_BadState iC_BadState tC_BadState sb_BadExpression_BadState) (all_cons (by rw [ecl_BadExpression, ecl_TooMany]; exact exm_two eC_TooMany iC_TooMany tC_TooMany sb_BadExpression_TooMany) (all_cons (by rw [ecl_BadExpression, ecl_BadText]; exact exm_two eC_BadText iC_BadText tC_BadText sb_BadExpression_BadText) (all_cons (by rw [ecl_BadExpression, ecl_BadRow]; exact exm_two eC_BadRow iC_BadRow tC_BadRow sb_BadExpression_BadRow) (all_cons (by rw [ecl_BadExpression, ecl_UnknownState]; exact exm_two eC_UnknownState iC_UnknownState tC_UnknownState sb_BadExpression_UnknownState) (all_cons (by rw [ecl_BadExpression, ecl_UnknownArrow]; exact exm_two eC_UnknownArrow iC_UnknownArrow tC_UnknownArrow sb_BadExpression_UnknownArrow) (all_cons (by rw [ecl_BadExpression, ecl_BadNumber]; exact exm_two eC_BadNumber iC_BadNumber tC_BadNumber sb_BadExpression_BadNumber) (all_cons (by rw [ecl_BadExpression]; exact exm_two eC_BadExpression iC_BadExpression tC_BadExpression sC_BadExpression) (all_cons (by rw [ecl_BadExpression, ecl_NotSettled]; exact exm_two eC_NotSettled iC_NotSettled tC_NotSettled sb_BadExpression_NotSettled) (all_cons (by rw [ecl_BadExpression, ecl_BadTally]; exact exm_two eC_BadTally iC_BadTally tC_BadTally sb_BadExpression_BadTally) (all_cons (by rw [ecl_BadExpression, ecl_Unbounded]; exact exm_two eC_Unbounded iC_Unbounded tC_Unbounded sb_BadExpression_Unbounded) all_nil)))))))))))) (all_cons (all_cons (by rw [ecl_NotSettled, ecl_BadArrow]; exact exm_two eC_BadArrow iC_BadArrow tC_BadArrow sb_NotSettled_BadArrow) (all_cons (by rw [ecl_NotSettled, ecl_BadState]; exact exm_two eC_BadState iC_BadState tC_BadState sb_NotSettled_BadState) (all_cons (by rw [ecl_NotSettled, ecl_TooMany]; exact exm_two eC_TooMany iC_TooMany tC_TooMany sb_NotSettled_TooMany) (all_cons (by rw [ecl_NotSettled, ecl_BadText]; exact exm_two eC_BadText iC_BadText tC_BadText sb_NotSettled_BadText) (all_cons (by rw [ecl_NotSettled, ecl_BadRow]; exact exm_two eC_BadRow iC_BadRow tC_BadRow sb_NotSettled_BadRow) (all_cons (by rw [ecl_NotSettled, ecl_UnknownState]; exact exm_two eC_UnknownState iC_UnknownState tC_UnknownState sb_NotSettled_UnknownState) (all_cons (by rw [ecl_NotSettled, ecl_UnknownArrow]; exact exm_two eC_UnknownArrow iC_UnknownArrow tC_UnknownArrow sb_NotSettled_UnknownArrow) (all_cons (by rw [ecl_NotSettled, ecl_BadNumber]; exact exm_two eC_BadNumber iC_BadNumber tC_BadNumber sb_NotSettled_BadNumber) (all_cons (by rw [ecl_NotSettled, ecl_BadExpression]; exact exm_two eC_BadExpression iC_BadExpression tC_BadExpression sb_NotSettled_BadExpression) (all_cons (by rw [ecl_NotSettled]; exact exm_two eC_NotSettled iC_NotSettled tC_NotSettled sC_NotSettled) (all_cons (by rw [ecl_NotSettled, ecl_BadTally]; exact exm_two eC_BadTally iC_BadTally tC_BadTally sb_NotSettled_BadTally) (all_cons (by rw [ecl_NotSettled, ecl_Unbounded]; exact exm_two eC_Unbounded iC_Unbounded tC_Unbounded sb_NotSettled_Unbounded) all_nil)))))))))))) (all_cons (all_cons (by rw [ecl_BadTally, ecl_BadArrow]; exact exm_two eC_BadArrow iC_BadArrow tC_BadArrow sb_BadTally_BadArrow) (all_cons (by rw [ecl_BadTally, ecl_BadState]; exact exm_two eC_BadState iC_BadState tC_BadState sb_BadTally_BadState) (all_cons (by rw [ecl_BadTally, ecl_TooMany]; exact exm_two eC_TooMany iC_TooMany tC_TooMany sb_BadTally_TooMany) (all_cons (by rw [ecl_BadTally, ecl_BadText]; exact exm_two eC_BadText iC_BadText tC_BadText sb_BadTally_BadText) (all_cons (by rw [ecl_BadTally, ecl_BadRow]; exact exm_two eC_BadRow iC_BadRow tC_BadRow sb_BadTally_BadRow) (all_cons (by rw [ecl_BadTally, ecl_UnknownState]; exact exm_two eC_UnknownState iC_UnknownState tC_UnknownState sb_BadTally_UnknownState) (all_cons (by rw [ecl_BadTally, ecl_UnknownArrow]; exact exm_two eC_UnknownArrow iC_UnknownArrow tC_UnknownArrow sb_BadTally_UnknownArrow) (all_cons (by rw [ecl_BadTally, ecl_BadNumber]; exact exm_two eC_BadNumber iC_BadNumber tC_BadNumber sb_BadTally_BadNumber) (all_cons (by rw [ecl_BadTally, ecl_BadExpression]; exact exm_two eC_BadExpression iC_BadExpression tC_BadExpression sb_BadTally_BadExpression) (all_cons (by rw [ecl_BadTally, ecl_NotSettled]; exact exm_two eC_NotSettled iC_NotSettled tC_NotSettled sb_BadTally_NotSettled) (all_cons (by rw [ecl_BadTally]; exact exm_two eC_BadTally iC_BadTally tC_BadTally sC_BadTally) (all_cons (by rw [ecl_BadTally, ecl_Unbounded]; exact exm_two eC_Unbounded iC_Unbounded tC_Unbounded sb_BadTally_Unbounded) all_nil)))))))))))) (all_cons (all_cons (by rw [ecl_Unbounded, ecl_BadArrow]; exact exm_two eC_BadArrow iC_BadArrow tC_BadArrow sb_Unbounded_BadArrow) (all_cons (by rw [ecl_Unbounded, ecl_BadState]; exact exm_two eC_BadState iC_BadState tC_BadState sb_Unbounded_BadState) (all_cons (by rw [ecl_Unbounded, ecl_TooMany]; exact exm_two eC_TooMany iC_TooMany tC_TooMany sb_Unbounded_TooMany) (all_cons (by rw [ecl_Unbounded, ecl_BadText]; exact exm_two eC_BadText iC_BadText tC_BadText sb_Unbounded_BadText) (all_cons (by rw [ecl_Unbounded, ecl_BadRow]; exact exm_two eC_BadRow iC_BadRow tC_BadRow sb_Unbounded_BadRow) (all_cons (by rw [ecl_Unbounded, ecl_UnknownState]; exact exm_two eC_UnknownState iC_UnknownState tC_UnknownState sb_Unbounded_UnknownState) (all_cons (by rw [ecl_Unbounded, ecl_UnknownArrow]; exact exm_two eC_UnknownArrow iC_UnknownArrow tC_UnknownArrow sb_Unbounded_UnknownArrow) (all_cons (by rw [ecl_Unbounded, ecl_BadNumber]; exact exm_two eC_BadNumber iC_BadNumber tC_BadNumber sb_Unbounded_BadNumber) (all_cons (by rw [ecl_Unbounded, ecl_BadExpression]; exact exm_two eC_BadExpression iC_BadExpression tC_BadExpression sb_Unbounded_BadExpression) (all_cons (by rw [ecl_Unbounded, ecl_NotSettled]; exact exm_two eC_NotSettled iC_NotSettled tC_NotSettled sb_Unbounded_NotSettled) (all_cons (by rw [ecl_Unbounded, ecl_BadTally]; exact exm_two eC_BadTally iC_BadTally tC_BadTally sb_Unbounded_BadTally) (all_cons (by rw [ecl_Unbounded]; exact exm_two eC_Unbounded iC_Unbounded tC_Unbounded sC_Unbounded) all_nil)))))))))))) all_nil))))))))))))
  have C_law_draw : Cal l.prog w K mg base (L2.CX l.prog w) 1 "_law_draw" (spOf cl w K c_law_draw) := ⟨_, _, _, FnOk.sub (FnOk.cx0 (ok_draw F_law_draw m_int)) sp_draw, g_law_draw, F_law_draw.kp, b_law_draw⟩
  have ok_law_raised_2 := fn_dj (con := c_law_raised_2) F_law_raised sc_law_raised wp_law_raised_2 (dj_law_raised_2 (P := l.prog) (w := w) (K := K) (mg := mg) (base := base) (cl := cl) (x_BadArrow := x_BadArrow) (x_BadExpression := x_BadExpression) (x_BadNumber := x_BadNumber) (x_BadRow := x_BadRow) (x_BadState := x_BadState) (x_BadTally := x_BadTally) (x_BadText := x_BadText) (x_NotSettled := x_NotSettled) (x_TooMany := x_TooMany) (x_Unbounded := x_Unbounded) (x_UnknownArrow := x_UnknownArrow) (x_UnknownState := x_UnknownState) )
  have C_law_raised_2 : Cal l.prog w K mg base (L2.CX l.prog w) 3 "_law_raised" (spOf cl w K c_law_raised_2) := ⟨_, _, _, ok_law_raised_2, g_law_raised, F_law_raised.kp, b_law_raised⟩
  have ok_law_fields_2 := fn_dj (con := c_law_fields_2) F_law_fields sc_law_fields wp_law_fields_2 (dj_law_fields_2 (P := l.prog) (w := w) (K := K) (mg := mg) (base := base) (cl := cl) (C_law_raised_2 := C_law_raised_2) (F_BadArrow := F_BadArrow) (F_BadExpression := F_BadExpression) (F_BadNumber := F_BadNumber) (F_BadRow := F_BadRow) (F_BadState := F_BadState) (F_BadText := F_BadText) (F_NotSettled := F_NotSettled) (F_TooMany := F_TooMany) (F_UnknownArrow := F_UnknownArrow) (F_UnknownState := F_UnknownState) (MM_BadArrow_BadState_TooMany_BadText_BadRow_UnknownState_UnknownArrow_BadNumber_BadExpression_NotSettled_BadTally_Unbounded := MM_BadArrow_BadState_TooMany_BadText_BadRow_UnknownState_UnknownArrow_BadNumber_BadExpression_NotSettled_BadTally_Unbounded) (T_BadArrow := T_BadArrow) (T_BadExpression := T_BadExpression) (T_BadNumber := T_BadNumber) (T_BadRow := T_BadRow) (T_BadState := T_BadState) (T_BadText := T_BadText) (T_NotSettled := T_NotSettled) (T_TooMany := T_TooMany) (T_UnknownArrow := T_UnknownArrow) (T_UnknownState := T_UnknownState) (x_BadArrow := x_BadArrow) (x_BadExpression := x_BadExpression) (x_BadNumber := x_BadNumber) (x_BadRow := x_BadRow) (x_BadState := x_BadState) (x_BadTally := x_BadTally) (x_BadText := x_BadText) (x_NotSettled := x_NotSettled) (x_TooMany := x_TooMany) (x_Unbounded := x_Unbounded) (x_UnknownArrow := x_UnknownArrow) (x_UnknownState := x_UnknownState) )
  have C_law_fields_2 : Cal l.prog w K mg base (L2.CX l.prog w) 4 "_law_fields" (spOf cl w K c_law_fields_2) := ⟨_, _, _, ok_law_fields_2, g_law_fields, F_law_fields.kp, b_law_fields⟩
  have ok_law_kinds_2 := fn_dj (con := c_law_kinds_2) F_law_kinds sc_law_kinds wp_law_kinds_2 (dj_law_kinds_2 (P := l.prog) (w := w) (K := K) (mg := mg) (base := base) (cl := cl) (z_ValueError := m_ValueError) (z_isinstance := m_isinstance) (C_law_raised_2 := C_law_raised_2) (EK_PaidError := EK_PaidError) (F_BadArrow := F_BadArrow) (F_BadExpression := F_BadExpression) (F_BadNumber := F_BadNumber) (F_BadRow := F_BadRow) (F_BadState := F_BadState) (F_BadText := F_BadText) (F_NotSettled := F_NotSettled) (F_TooMany := F_TooMany) (F_UnknownArrow := F_UnknownArrow) (F_UnknownState := F_UnknownState) (MM_BadArrow_BadState_TooMany_BadText_BadRow_UnknownState_UnknownArrow_BadNumber_BadExpression_NotSettled_BadTally_Unbounded := MM_BadArrow_BadState_TooMany_BadText_BadRow_UnknownState_UnknownArrow_BadNumber_BadExpression_NotSettled_BadTally_Unbounded) (PG_PaidError := PG_PaidError) (PM_PaidError := PM_PaidError) (T_BadArrow := T_BadArrow) (T_BadExpression := T_BadExpression) (T_BadNumber := T_BadNumber) (T_BadRow := T_BadRow) (T_BadState := T_BadState) (T_BadTally := T_BadTally) (T_BadText := T_BadText) (T_NotSettled := T_NotSettled) (T_TooMany := T_TooMany) (T_Unbounded := T_Unbounded) (T_UnknownArrow := T_UnknownArrow) (T_UnknownState := T_UnknownState) (x_BadArrow := x_BadArrow) (x_BadExpression := x_BadExpression) (x_BadNumber := x_BadNumber) (x_BadRow := x_BadRow) (x_BadState := x_BadState) (x_BadTally := x_BadTally) (x_BadText := x_BadText) (x_NotSettled := x_NotSettled) (x_TooMany := x_TooMany) (x_Unbounded := x_Unbounded) (x_UnknownArrow := x_UnknownArrow) (x_UnknownState := x_UnknownState) )
  have C_law_kinds_2 : Cal l.prog w K mg base (L2.CX l.prog w) 4 "_law_kinds" (spOf cl w K c_law_kinds_2) := ⟨_, _, _, ok_law_kinds_2, g_law_kinds, F_law_kinds.kp, b_law_kinds⟩
  have ok_law_pick := fn_dj (con := c_law_pick) F_law_pick sc_law_pick wp_law_pick (dj_law_pick (P := l.prog) (w := w) (K := K) (mg := mg) (base := base) (cl := cl) (z_len := m_len) (C_law_draw := C_law_draw) )
  have C_law_pick : Cal l.prog w K mg base (L2.CX l.prog w) 2 "_law_pick" (spOf cl w K c_law_pick) := ⟨_, _, _, ok_law_pick, g_law_pick, F_law_pick.kp, b_law_pick⟩
  have S_law_source : Cal l.prog w K mg base CX0 1 "_law_source" (spSource K) := ⟨_, _, _, ok_source F_law_source m_int, g_law_source, F_law_source.kp, b_law_source⟩
  have ok_law_k27 := fn_dj (con := c_law) F_law sc_law wp_law_k27 (dj_law_k27 (P := l.prog) (w := w) (K := K) (mg := mg) (base := base) (cl := cl) (z_range := m_range) (C_law_draw := C_law_draw) (C_law_fields_2 := C_law_fields_2) (C_law_kinds_2 := C_law_kinds_2) (C_law_pick := C_law_pick) (F_BadArrow := F_BadArrow) (F_BadExpression := F_BadExpression) (F_BadNumber := F_BadNumber) (F_BadRow := F_BadRow) (F_BadState := F_BadState) (F_BadText := F_BadText) (F_NotSettled := F_NotSettled) (F_TooMany := F_TooMany) (F_UnknownArrow := F_UnknownArrow) (F_UnknownState := F_UnknownState) (S_law_source := S_law_source) (T_BadArrow := T_BadArrow) (T_BadExpression := T_BadExpression) (T_BadNumber := T_BadNumber) (T_BadRow := T_BadRow) (T_BadState := T_BadState) (T_BadText := T_BadText) (T_NotSettled := T_NotSettled) (T_TooMany := T_TooMany) (T_UnknownArrow := T_UnknownArrow) (T_UnknownState := T_UnknownState) (x_BadArrow := x_BadArrow) (x_BadExpression := x_BadExpression) (x_BadNumber := x_BadNumber) (x_BadRow := x_BadRow) (x_BadState := x_BadState) (x_BadText := x_BadText) (x_NotSettled := x_NotSettled) (x_TooMany := x_TooMany) (x_UnknownArrow := x_UnknownArrow) (x_UnknownState := x_UnknownState) (xk_BadArrow := xk_BadArrow) (xk_BadExpression := xk_BadExpression) (xk_BadNumber := xk_BadNumber) (xk_BadRow := xk_BadRow) (xk_BadState := xk_BadState) (xk_BadText := xk_BadText) (xk_NotSettled := xk_NotSettled) (xk_TooMany := xk_TooMany) (xk_UnknownArrow := xk_UnknownArrow) (xk_UnknownState := xk_UnknownState) )
  exact FnOk.sub ok_law_k27 sp_law
open PySem PySem.W PyProof.Rows L2 Is
def chk0 (K : PySem.W.Frag) (r : Bool) : Bool := decide (PySem.W.nsIn K mainGlobals "PaidError" = some (some (.ref (Hx.nsA K "PaidError")))) && (decide (PySem.W.subIn K (.ref (Hx.nsA K "PaidError")) (.type "BaseException") = some true) && (decide (PySem.W.typeIn K (.ref (Hx.nsA K "PaidError")) = some (.type "type")) && (decide (PySem.W.isClsIn K (Hx.nsA K "PaidError") = true) && (decide (PySem.W.specialIn K (.builtin "object.__class__") "__get__" = some (some (.builtin "getset_descriptor.__get__"))) && (decide (PySem.W.takesIn K (.builtin "object.__class__") = some true) && (decide (PySem.W.subIn K (.ref (Hx.nsA K "BadArrow")) (.ref (Hx.nsA K "PaidError")) = some true) && (decide (PySem.W.subIn K (.ref (Hx.nsA K "BadExpression")) (.ref (Hx.nsA K "PaidError")) = some true) && (decide (PySem.W.subIn K (.ref (Hx.nsA K "BadNumber")) (.ref (Hx.nsA K "PaidError")) = some true) && (decide (PySem.W.subIn K (.ref (Hx.nsA K "BadRow")) (.ref (Hx.nsA K "PaidError")) = some true) && (decide (PySem.W.subIn K (.ref (Hx.nsA K "BadState")) (.ref (Hx.nsA K "PaidError")) = some true) && (decide (PySem.W.subIn K (.ref (Hx.nsA K "BadTally")) (.ref (Hx.nsA K "PaidError")) = some true) && (decide (PySem.W.subIn K (.ref (Hx.nsA K "BadText")) (.ref (Hx.nsA K "PaidError")) = some true) && (decide (PySem.W.subIn K (.ref (Hx.nsA K "NotSettled")) (.ref (Hx.nsA K "PaidError")) = some true) && (decide (PySem.W.subIn K (.ref (Hx.nsA K "TooMany")) (.ref (Hx.nsA K "PaidError")) = some true) && (decide (PySem.W.subIn K (.ref (Hx.nsA K "Unbounded")) (.ref (Hx.nsA K "PaidError")) = some true) && (decide (PySem.W.subIn K (.ref (Hx.nsA K "UnknownArrow")) (.ref (Hx.nsA K "PaidError")) = some true) && (decide (PySem.W.subIn K (.ref (Hx.nsA K "UnknownState")) (.ref (Hx.nsA K "PaidError")) = some true) && (decide (PySem.W.nsIn K mainGlobals "BadArrow" = some (some (.ref (Hx.nsA K "BadArrow")))) && (Hx.excB K (Hx.nsA K "BadArrow") && (decide (PySem.W.findIn K (.ref (Hx.nsA K "BadArrow")) "__setattr__" = some (some (.builtin "object.__setattr__"))) && (decide (PySem.W.subIn K (.ref (Hx.nsA K "BadArrow")) (.type "BaseException") = some true) && (decide (PySem.W.typeIn K (.ref (Hx.nsA K "BadArrow")) = some (.type "type")) && (decide (PySem.W.keepIn K (.ref (Hx.nsA K "BadArrow")) = true) && (decide (PySem.W.isClsIn K (Hx.nsA K "BadArrow") = true) && (decide (PySem.W.subIn K (.ref (Hx.nsA K "BadArrow")) (.ref (Hx.nsA K "BadArrow")) = some true) && (decide (PySem.W.findIn K (.ref (Hx.nsA K "BadArrow")) "__init__" = some (some (.ref (Hx.fiA K (Hx.nsA K "BadArrow") "__init__")))) && (decide (PySem.W.typeIn K (.ref (Hx.fiA K (Hx.nsA K "BadArrow") "__init__")) = some (.type "function")) && (Hx.initB K (Hx.fiA K (Hx.nsA K "BadArrow") "__init__") (Hx.nsA K "BadArrow") "BadArrow.__init__" PySem.Challenge.rw_enoughpaid_k27_errors_made.prog.main.file && (decide (PySem.W.ks_superIn K (Hx.nsA K "BadArrow") (Hx.nsA K "BadArrow") "__init__" = some (some (.builtin "ValueError.__init__"))) && r)))))))))))))))))))))))))))))
def chk1 (K : PySem.W.Frag) (r : Bool) : Bool := decide (PySem.W.subIn K (.ref (Hx.nsA K "BadArrow")) (.type "ValueError") = some true) && (decide (PySem.W.mroIn K (Hx.nsA K "BadArrow") (.ref (Hx.nsA K "BadArrow")) = some true) && (decide (PySem.W.findIn K (.ref (Hx.nsA K "BadArrow")) (fname 15) = some none) && (decide (PySem.W.findIn K (.ref (Hx.nsA K "BadArrow")) "__getattribute__" = some (some (.builtin "BaseException.__getattribute__"))) && (decide (PySem.W.findIn K (.ref (Hx.nsA K "BadArrow")) "__getattr__" = some none) && (decide (PySem.W.hasDictIn K (Hx.nsA K "BadArrow") = true) && (decide (PySem.W.findIn K (.ref (Hx.nsA K "BadArrow")) "__class__" = some (some (.builtin "object.__class__"))) && (decide (PySem.W.mroIn K (Hx.nsA K "BadArrow") (.type "object") = some true) && (decide (PySem.W.nsIn K mainGlobals "BadExpression" = some (some (.ref (Hx.nsA K "BadExpression")))) && (Hx.excB K (Hx.nsA K "BadExpression") && (decide (PySem.W.findIn K (.ref (Hx.nsA K "BadExpression")) "__setattr__" = some (some (.builtin "object.__setattr__"))) && (decide (PySem.W.subIn K (.ref (Hx.nsA K "BadExpression")) (.type "BaseException") = some true) && (decide (PySem.W.typeIn K (.ref (Hx.nsA K "BadExpression")) = some (.type "type")) && (decide (PySem.W.keepIn K (.ref (Hx.nsA K "BadExpression")) = true) && (decide (PySem.W.isClsIn K (Hx.nsA K "BadExpression") = true) && (decide (PySem.W.subIn K (.ref (Hx.nsA K "BadExpression")) (.ref (Hx.nsA K "BadExpression")) = some true) && (decide (PySem.W.findIn K (.ref (Hx.nsA K "BadExpression")) "__init__" = some (some (.ref (Hx.fiA K (Hx.nsA K "BadExpression") "__init__")))) && (decide (PySem.W.typeIn K (.ref (Hx.fiA K (Hx.nsA K "BadExpression") "__init__")) = some (.type "function")) && (Hx.initB K (Hx.fiA K (Hx.nsA K "BadExpression") "__init__") (Hx.nsA K "BadExpression") "BadExpression.__init__" PySem.Challenge.rw_enoughpaid_k27_errors_made.prog.main.file && (decide (PySem.W.ks_superIn K (Hx.nsA K "BadExpression") (Hx.nsA K "BadExpression") "__init__" = some (some (.builtin "ValueError.__init__"))) && (decide (PySem.W.subIn K (.ref (Hx.nsA K "BadExpression")) (.type "ValueError") = some true) && (decide (PySem.W.mroIn K (Hx.nsA K "BadExpression") (.ref (Hx.nsA K "BadExpression")) = some true) && (decide (PySem.W.findIn K (.ref (Hx.nsA K "BadExpression")) (fname 21) = some none) && (decide (PySem.W.findIn K (.ref (Hx.nsA K "BadExpression")) "__getattribute__" = some (some (.builtin "BaseException.__getattribute__"))) && (decide (PySem.W.findIn K (.ref (Hx.nsA K "BadExpression")) "__getattr__" = some none) && (decide (PySem.W.hasDictIn K (Hx.nsA K "BadExpression") = true) && (decide (PySem.W.findIn K (.ref (Hx.nsA K "BadExpression")) "__class__" = some (some (.builtin "object.__class__"))) && (decide (PySem.W.mroIn K (Hx.nsA K "BadExpression") (.type "object") = some true) && (decide (PySem.W.nsIn K mainGlobals "BadNumber" = some (some (.ref (Hx.nsA K "BadNumber")))) && (Hx.excB K (Hx.nsA K "BadNumber") && r)))))))))))))))))))))))))))))
def chk2 (K : PySem.W.Frag) (r : Bool) : Bool := decide (PySem.W.findIn K (.ref (Hx.nsA K "BadNumber")) "__setattr__" = some (some (.builtin "object.__setattr__"))) && (decide (PySem.W.subIn K (.ref (Hx.nsA K "BadNumber")) (.type "BaseException") = some true) && (decide (PySem.W.typeIn K (.ref (Hx.nsA K "BadNumber")) = some (.type "type")) && (decide (PySem.W.keepIn K (.ref (Hx.nsA K "BadNumber")) = true) && (decide (PySem.W.isClsIn K (Hx.nsA K "BadNumber") = true) && (decide (PySem.W.subIn K (.ref (Hx.nsA K "BadNumber")) (.ref (Hx.nsA K "BadNumber")) = some true) && (decide (PySem.W.findIn K (.ref (Hx.nsA K "BadNumber")) "__init__" = some (some (.ref (Hx.fiA K (Hx.nsA K "BadNumber") "__init__")))) && (decide (PySem.W.typeIn K (.ref (Hx.fiA K (Hx.nsA K "BadNumber") "__init__")) = some (.type "function")) && (Hx.initB K (Hx.fiA K (Hx.nsA K "BadNumber") "__init__") (Hx.nsA K "BadNumber") "BadNumber.__init__" PySem.Challenge.rw_enoughpaid_k27_errors_made.prog.main.file && (decide (PySem.W.ks_superIn K (Hx.nsA K "BadNumber") (Hx.nsA K "BadNumber") "__init__" = some (some (.builtin "ValueError.__init__"))) && (decide (PySem.W.subIn K (.ref (Hx.nsA K "BadNumber")) (.type "ValueError") = some true) && (decide (PySem.W.mroIn K (Hx.nsA K "BadNumber") (.ref (Hx.nsA K "BadNumber")) = some true) && (decide (PySem.W.findIn K (.ref (Hx.nsA K "BadNumber")) (fname 20) = some none) && (decide (PySem.W.findIn K (.ref (Hx.nsA K "BadNumber")) "__getattribute__" = some (some (.builtin "BaseException.__getattribute__"))) && (decide (PySem.W.findIn K (.ref (Hx.nsA K "BadNumber")) "__getattr__" = some none) && (decide (PySem.W.hasDictIn K (Hx.nsA K "BadNumber") = true) && (decide (PySem.W.findIn K (.ref (Hx.nsA K "BadNumber")) "__class__" = some (some (.builtin "object.__class__"))) && (decide (PySem.W.mroIn K (Hx.nsA K "BadNumber") (.type "object") = some true) && (decide (PySem.W.nsIn K mainGlobals "BadRow" = some (some (.ref (Hx.nsA K "BadRow")))) && (Hx.excB K (Hx.nsA K "BadRow") && (decide (PySem.W.findIn K (.ref (Hx.nsA K "BadRow")) "__setattr__" = some (some (.builtin "object.__setattr__"))) && (decide (PySem.W.subIn K (.ref (Hx.nsA K "BadRow")) (.type "BaseException") = some true) && (decide (PySem.W.typeIn K (.ref (Hx.nsA K "BadRow")) = some (.type "type")) && (decide (PySem.W.keepIn K (.ref (Hx.nsA K "BadRow")) = true) && (decide (PySem.W.isClsIn K (Hx.nsA K "BadRow") = true) && (decide (PySem.W.subIn K (.ref (Hx.nsA K "BadRow")) (.ref (Hx.nsA K "BadRow")) = some true) && (decide (PySem.W.findIn K (.ref (Hx.nsA K "BadRow")) "__init__" = some (some (.ref (Hx.fiA K (Hx.nsA K "BadRow") "__init__")))) && (decide (PySem.W.typeIn K (.ref (Hx.fiA K (Hx.nsA K "BadRow") "__init__")) = some (.type "function")) && (Hx.initB K (Hx.fiA K (Hx.nsA K "BadRow") "__init__") (Hx.nsA K "BadRow") "BadRow.__init__" PySem.Challenge.rw_enoughpaid_k27_errors_made.prog.main.file && (decide (PySem.W.ks_superIn K (Hx.nsA K "BadRow") (Hx.nsA K "BadRow") "__init__" = some (some (.builtin "ValueError.__init__"))) && r)))))))))))))))))))))))))))))
def chk3 (K : PySem.W.Frag) (r : Bool) : Bool := decide (PySem.W.subIn K (.ref (Hx.nsA K "BadRow")) (.type "ValueError") = some true) && (decide (PySem.W.mroIn K (Hx.nsA K "BadRow") (.ref (Hx.nsA K "BadRow")) = some true) && (decide (PySem.W.findIn K (.ref (Hx.nsA K "BadRow")) (fname 18) = some none) && (decide (PySem.W.findIn K (.ref (Hx.nsA K "BadRow")) "__getattribute__" = some (some (.builtin "BaseException.__getattribute__"))) && (decide (PySem.W.findIn K (.ref (Hx.nsA K "BadRow")) "__getattr__" = some none) && (decide (PySem.W.hasDictIn K (Hx.nsA K "BadRow") = true) && (decide (PySem.W.findIn K (.ref (Hx.nsA K "BadRow")) "__class__" = some (some (.builtin "object.__class__"))) && (decide (PySem.W.mroIn K (Hx.nsA K "BadRow") (.type "object") = some true) && (decide (PySem.W.nsIn K mainGlobals "BadState" = some (some (.ref (Hx.nsA K "BadState")))) && (Hx.excB K (Hx.nsA K "BadState") && (decide (PySem.W.findIn K (.ref (Hx.nsA K "BadState")) "__setattr__" = some (some (.builtin "object.__setattr__"))) && (decide (PySem.W.subIn K (.ref (Hx.nsA K "BadState")) (.type "BaseException") = some true) && (decide (PySem.W.typeIn K (.ref (Hx.nsA K "BadState")) = some (.type "type")) && (decide (PySem.W.keepIn K (.ref (Hx.nsA K "BadState")) = true) && (decide (PySem.W.isClsIn K (Hx.nsA K "BadState") = true) && (decide (PySem.W.subIn K (.ref (Hx.nsA K "BadState")) (.ref (Hx.nsA K "BadState")) = some true) && (decide (PySem.W.findIn K (.ref (Hx.nsA K "BadState")) "__init__" = some (some (.ref (Hx.fiA K (Hx.nsA K "BadState") "__init__")))) && (decide (PySem.W.typeIn K (.ref (Hx.fiA K (Hx.nsA K "BadState") "__init__")) = some (.type "function")) && (Hx.initB K (Hx.fiA K (Hx.nsA K "BadState") "__init__") (Hx.nsA K "BadState") "BadState.__init__" PySem.Challenge.rw_enoughpaid_k27_errors_made.prog.main.file && (decide (PySem.W.ks_superIn K (Hx.nsA K "BadState") (Hx.nsA K "BadState") "__init__" = some (some (.builtin "ValueError.__init__"))) && (decide (PySem.W.subIn K (.ref (Hx.nsA K "BadState")) (.type "ValueError") = some true) && (decide (PySem.W.mroIn K (Hx.nsA K "BadState") (.ref (Hx.nsA K "BadState")) = some true) && (decide (PySem.W.findIn K (.ref (Hx.nsA K "BadState")) (fname 16) = some none) && (decide (PySem.W.findIn K (.ref (Hx.nsA K "BadState")) "__getattribute__" = some (some (.builtin "BaseException.__getattribute__"))) && (decide (PySem.W.findIn K (.ref (Hx.nsA K "BadState")) "__getattr__" = some none) && (decide (PySem.W.hasDictIn K (Hx.nsA K "BadState") = true) && (decide (PySem.W.findIn K (.ref (Hx.nsA K "BadState")) "__class__" = some (some (.builtin "object.__class__"))) && (decide (PySem.W.mroIn K (Hx.nsA K "BadState") (.type "object") = some true) && (decide (PySem.W.nsIn K mainGlobals "BadTally" = some (some (.ref (Hx.nsA K "BadTally")))) && (Hx.excB K (Hx.nsA K "BadTally") && r)))))))))))))))))))))))))))))
def chk4 (K : PySem.W.Frag) (r : Bool) : Bool := decide (PySem.W.findIn K (.ref (Hx.nsA K "BadTally")) "__setattr__" = some (some (.builtin "object.__setattr__"))) && (decide (PySem.W.subIn K (.ref (Hx.nsA K "BadTally")) (.type "BaseException") = some true) && (decide (PySem.W.typeIn K (.ref (Hx.nsA K "BadTally")) = some (.type "type")) && (decide (PySem.W.keepIn K (.ref (Hx.nsA K "BadTally")) = true) && (decide (PySem.W.isClsIn K (Hx.nsA K "BadTally") = true) && (decide (PySem.W.subIn K (.ref (Hx.nsA K "BadTally")) (.ref (Hx.nsA K "BadTally")) = some true) && (decide (PySem.W.findIn K (.ref (Hx.nsA K "BadTally")) "__init__" = some (some (.ref (Hx.fiA K (Hx.nsA K "BadTally") "__init__")))) && (decide (PySem.W.typeIn K (.ref (Hx.fiA K (Hx.nsA K "BadTally") "__init__")) = some (.type "function")) && (Hx.initB K (Hx.fiA K (Hx.nsA K "BadTally") "__init__") (Hx.nsA K "BadTally") "BadTally.__init__" PySem.Challenge.rw_enoughpaid_k27_errors_made.prog.main.file && (decide (PySem.W.ks_superIn K (Hx.nsA K "BadTally") (Hx.nsA K "BadTally") "__init__" = some (some (.builtin "ValueError.__init__"))) && (decide (PySem.W.subIn K (.ref (Hx.nsA K "BadTally")) (.type "ValueError") = some true) && (decide (PySem.W.mroIn K (Hx.nsA K "BadTally") (.ref (Hx.nsA K "BadTally")) = some true) && (decide (PySem.W.findIn K (.ref (Hx.nsA K "BadTally")) "__getattribute__" = some (some (.builtin "BaseException.__getattribute__"))) && (decide (PySem.W.findIn K (.ref (Hx.nsA K "BadTally")) "__getattr__" = some none) && (decide (PySem.W.hasDictIn K (Hx.nsA K "BadTally") = true) && (decide (PySem.W.findIn K (.ref (Hx.nsA K "BadTally")) "__class__" = some (some (.builtin "object.__class__"))) && (decide (PySem.W.mroIn K (Hx.nsA K "BadTally") (.type "object") = some true) && (decide (PySem.W.nsIn K mainGlobals "BadText" = some (some (.ref (Hx.nsA K "BadText")))) && (Hx.excB K (Hx.nsA K "BadText") && (decide (PySem.W.findIn K (.ref (Hx.nsA K "BadText")) "__setattr__" = some (some (.builtin "object.__setattr__"))) && (decide (PySem.W.subIn K (.ref (Hx.nsA K "BadText")) (.type "BaseException") = some true) && (decide (PySem.W.typeIn K (.ref (Hx.nsA K "BadText")) = some (.type "type")) && (decide (PySem.W.keepIn K (.ref (Hx.nsA K "BadText")) = true) && (decide (PySem.W.isClsIn K (Hx.nsA K "BadText") = true) && (decide (PySem.W.subIn K (.ref (Hx.nsA K "BadText")) (.ref (Hx.nsA K "BadText")) = some true) && (decide (PySem.W.findIn K (.ref (Hx.nsA K "BadText")) "__init__" = some (some (.ref (Hx.fiA K (Hx.nsA K "BadText") "__init__")))) && (decide (PySem.W.typeIn K (.ref (Hx.fiA K (Hx.nsA K "BadText") "__init__")) = some (.type "function")) && (Hx.initB K (Hx.fiA K (Hx.nsA K "BadText") "__init__") (Hx.nsA K "BadText") "BadText.__init__" PySem.Challenge.rw_enoughpaid_k27_errors_made.prog.main.file && (decide (PySem.W.ks_superIn K (Hx.nsA K "BadText") (Hx.nsA K "BadText") "__init__" = some (some (.builtin "ValueError.__init__"))) && (decide (PySem.W.subIn K (.ref (Hx.nsA K "BadText")) (.type "ValueError") = some true) && r)))))))))))))))))))))))))))))
def chk5 (K : PySem.W.Frag) (r : Bool) : Bool := decide (PySem.W.mroIn K (Hx.nsA K "BadText") (.ref (Hx.nsA K "BadText")) = some true) && (decide (PySem.W.findIn K (.ref (Hx.nsA K "BadText")) (fname 15) = some none) && (decide (PySem.W.findIn K (.ref (Hx.nsA K "BadText")) "__getattribute__" = some (some (.builtin "BaseException.__getattribute__"))) && (decide (PySem.W.findIn K (.ref (Hx.nsA K "BadText")) "__getattr__" = some none) && (decide (PySem.W.hasDictIn K (Hx.nsA K "BadText") = true) && (decide (PySem.W.findIn K (.ref (Hx.nsA K "BadText")) "__class__" = some (some (.builtin "object.__class__"))) && (decide (PySem.W.mroIn K (Hx.nsA K "BadText") (.type "object") = some true) && (decide (PySem.W.nsIn K mainGlobals "NotSettled" = some (some (.ref (Hx.nsA K "NotSettled")))) && (Hx.excB K (Hx.nsA K "NotSettled") && (decide (PySem.W.findIn K (.ref (Hx.nsA K "NotSettled")) "__setattr__" = some (some (.builtin "object.__setattr__"))) && (decide (PySem.W.subIn K (.ref (Hx.nsA K "NotSettled")) (.type "BaseException") = some true) && (decide (PySem.W.typeIn K (.ref (Hx.nsA K "NotSettled")) = some (.type "type")) && (decide (PySem.W.keepIn K (.ref (Hx.nsA K "NotSettled")) = true) && (decide (PySem.W.isClsIn K (Hx.nsA K "NotSettled") = true) && (decide (PySem.W.subIn K (.ref (Hx.nsA K "NotSettled")) (.ref (Hx.nsA K "NotSettled")) = some true) && (decide (PySem.W.findIn K (.ref (Hx.nsA K "NotSettled")) "__init__" = some (some (.ref (Hx.fiA K (Hx.nsA K "NotSettled") "__init__")))) && (decide (PySem.W.typeIn K (.ref (Hx.fiA K (Hx.nsA K "NotSettled") "__init__")) = some (.type "function")) && (Hx.initB K (Hx.fiA K (Hx.nsA K "NotSettled") "__init__") (Hx.nsA K "NotSettled") "NotSettled.__init__" PySem.Challenge.rw_enoughpaid_k27_errors_made.prog.main.file && (decide (PySem.W.ks_superIn K (Hx.nsA K "NotSettled") (Hx.nsA K "NotSettled") "__init__" = some (some (.builtin "ValueError.__init__"))) && (decide (PySem.W.subIn K (.ref (Hx.nsA K "NotSettled")) (.type "ValueError") = some true) && (decide (PySem.W.mroIn K (Hx.nsA K "NotSettled") (.ref (Hx.nsA K "NotSettled")) = some true) && (decide (PySem.W.findIn K (.ref (Hx.nsA K "NotSettled")) (fname 22) = some none) && (decide (PySem.W.findIn K (.ref (Hx.nsA K "NotSettled")) "__getattribute__" = some (some (.builtin "BaseException.__getattribute__"))) && (decide (PySem.W.findIn K (.ref (Hx.nsA K "NotSettled")) "__getattr__" = some none) && (decide (PySem.W.hasDictIn K (Hx.nsA K "NotSettled") = true) && (decide (PySem.W.findIn K (.ref (Hx.nsA K "NotSettled")) "__class__" = some (some (.builtin "object.__class__"))) && (decide (PySem.W.mroIn K (Hx.nsA K "NotSettled") (.type "object") = some true) && (decide (PySem.W.nsIn K mainGlobals "TooMany" = some (some (.ref (Hx.nsA K "TooMany")))) && (Hx.excB K (Hx.nsA K "TooMany") && (decide (PySem.W.findIn K (.ref (Hx.nsA K "TooMany")) "__setattr__" = some (some (.builtin "object.__setattr__"))) && r)))))))))))))))))))))))))))))
def chk6 (K : PySem.W.Frag) (r : Bool) : Bool := decide (PySem.W.subIn K (.ref (Hx.nsA K "TooMany")) (.type "BaseException") = some true) && (decide (PySem.W.typeIn K (.ref (Hx.nsA K "TooMany")) = some (.type "type")) && (decide (PySem.W.keepIn K (.ref (Hx.nsA K "TooMany")) = true) && (decide (PySem.W.isClsIn K (Hx.nsA K "TooMany") = true) && (decide (PySem.W.subIn K (.ref (Hx.nsA K "TooMany")) (.ref (Hx.nsA K "TooMany")) = some true) && (decide (PySem.W.findIn K (.ref (Hx.nsA K "TooMany")) "__init__" = some (some (.ref (Hx.fiA K (Hx.nsA K "TooMany") "__init__")))) && (decide (PySem.W.typeIn K (.ref (Hx.fiA K (Hx.nsA K "TooMany") "__init__")) = some (.type "function")) && (Hx.initB K (Hx.fiA K (Hx.nsA K "TooMany") "__init__") (Hx.nsA K "TooMany") "TooMany.__init__" PySem.Challenge.rw_enoughpaid_k27_errors_made.prog.main.file && (decide (PySem.W.ks_superIn K (Hx.nsA K "TooMany") (Hx.nsA K "TooMany") "__init__" = some (some (.builtin "ValueError.__init__"))) && (decide (PySem.W.subIn K (.ref (Hx.nsA K "TooMany")) (.type "ValueError") = some true) && (decide (PySem.W.mroIn K (Hx.nsA K "TooMany") (.ref (Hx.nsA K "TooMany")) = some true) && (decide (PySem.W.findIn K (.ref (Hx.nsA K "TooMany")) (fname 17) = some none) && (decide (PySem.W.findIn K (.ref (Hx.nsA K "TooMany")) "__getattribute__" = some (some (.builtin "BaseException.__getattribute__"))) && (decide (PySem.W.findIn K (.ref (Hx.nsA K "TooMany")) "__getattr__" = some none) && (decide (PySem.W.hasDictIn K (Hx.nsA K "TooMany") = true) && (decide (PySem.W.findIn K (.ref (Hx.nsA K "TooMany")) "__class__" = some (some (.builtin "object.__class__"))) && (decide (PySem.W.mroIn K (Hx.nsA K "TooMany") (.type "object") = some true) && (decide (PySem.W.nsIn K mainGlobals "Unbounded" = some (some (.ref (Hx.nsA K "Unbounded")))) && (Hx.excB K (Hx.nsA K "Unbounded") && (decide (PySem.W.findIn K (.ref (Hx.nsA K "Unbounded")) "__setattr__" = some (some (.builtin "object.__setattr__"))) && (decide (PySem.W.subIn K (.ref (Hx.nsA K "Unbounded")) (.type "BaseException") = some true) && (decide (PySem.W.typeIn K (.ref (Hx.nsA K "Unbounded")) = some (.type "type")) && (decide (PySem.W.keepIn K (.ref (Hx.nsA K "Unbounded")) = true) && (decide (PySem.W.isClsIn K (Hx.nsA K "Unbounded") = true) && (decide (PySem.W.subIn K (.ref (Hx.nsA K "Unbounded")) (.ref (Hx.nsA K "Unbounded")) = some true) && (decide (PySem.W.findIn K (.ref (Hx.nsA K "Unbounded")) "__init__" = some (some (.ref (Hx.fiA K (Hx.nsA K "Unbounded") "__init__")))) && (decide (PySem.W.typeIn K (.ref (Hx.fiA K (Hx.nsA K "Unbounded") "__init__")) = some (.type "function")) && (Hx.initB K (Hx.fiA K (Hx.nsA K "Unbounded") "__init__") (Hx.nsA K "Unbounded") "Unbounded.__init__" PySem.Challenge.rw_enoughpaid_k27_errors_made.prog.main.file && (decide (PySem.W.ks_superIn K (Hx.nsA K "Unbounded") (Hx.nsA K "Unbounded") "__init__" = some (some (.builtin "ValueError.__init__"))) && (decide (PySem.W.subIn K (.ref (Hx.nsA K "Unbounded")) (.type "ValueError") = some true) && r)))))))))))))))))))))))))))))
def chk7 (K : PySem.W.Frag) (r : Bool) : Bool := decide (PySem.W.mroIn K (Hx.nsA K "Unbounded") (.ref (Hx.nsA K "Unbounded")) = some true) && (decide (PySem.W.findIn K (.ref (Hx.nsA K "Unbounded")) "__getattribute__" = some (some (.builtin "BaseException.__getattribute__"))) && (decide (PySem.W.findIn K (.ref (Hx.nsA K "Unbounded")) "__getattr__" = some none) && (decide (PySem.W.hasDictIn K (Hx.nsA K "Unbounded") = true) && (decide (PySem.W.findIn K (.ref (Hx.nsA K "Unbounded")) "__class__" = some (some (.builtin "object.__class__"))) && (decide (PySem.W.mroIn K (Hx.nsA K "Unbounded") (.type "object") = some true) && (decide (PySem.W.nsIn K mainGlobals "UnknownArrow" = some (some (.ref (Hx.nsA K "UnknownArrow")))) && (Hx.excB K (Hx.nsA K "UnknownArrow") && (decide (PySem.W.findIn K (.ref (Hx.nsA K "UnknownArrow")) "__setattr__" = some (some (.builtin "object.__setattr__"))) && (decide (PySem.W.subIn K (.ref (Hx.nsA K "UnknownArrow")) (.type "BaseException") = some true) && (decide (PySem.W.typeIn K (.ref (Hx.nsA K "UnknownArrow")) = some (.type "type")) && (decide (PySem.W.keepIn K (.ref (Hx.nsA K "UnknownArrow")) = true) && (decide (PySem.W.isClsIn K (Hx.nsA K "UnknownArrow") = true) && (decide (PySem.W.subIn K (.ref (Hx.nsA K "UnknownArrow")) (.ref (Hx.nsA K "UnknownArrow")) = some true) && (decide (PySem.W.findIn K (.ref (Hx.nsA K "UnknownArrow")) "__init__" = some (some (.ref (Hx.fiA K (Hx.nsA K "UnknownArrow") "__init__")))) && (decide (PySem.W.typeIn K (.ref (Hx.fiA K (Hx.nsA K "UnknownArrow") "__init__")) = some (.type "function")) && (Hx.initB K (Hx.fiA K (Hx.nsA K "UnknownArrow") "__init__") (Hx.nsA K "UnknownArrow") "UnknownArrow.__init__" PySem.Challenge.rw_enoughpaid_k27_errors_made.prog.main.file && (decide (PySem.W.ks_superIn K (Hx.nsA K "UnknownArrow") (Hx.nsA K "UnknownArrow") "__init__" = some (some (.builtin "ValueError.__init__"))) && (decide (PySem.W.subIn K (.ref (Hx.nsA K "UnknownArrow")) (.type "ValueError") = some true) && (decide (PySem.W.mroIn K (Hx.nsA K "UnknownArrow") (.ref (Hx.nsA K "UnknownArrow")) = some true) && (decide (PySem.W.findIn K (.ref (Hx.nsA K "UnknownArrow")) (fname 19) = some none) && (decide (PySem.W.findIn K (.ref (Hx.nsA K "UnknownArrow")) "__getattribute__" = some (some (.builtin "BaseException.__getattribute__"))) && (decide (PySem.W.findIn K (.ref (Hx.nsA K "UnknownArrow")) "__getattr__" = some none) && (decide (PySem.W.hasDictIn K (Hx.nsA K "UnknownArrow") = true) && (decide (PySem.W.findIn K (.ref (Hx.nsA K "UnknownArrow")) "__class__" = some (some (.builtin "object.__class__"))) && (decide (PySem.W.mroIn K (Hx.nsA K "UnknownArrow") (.type "object") = some true) && (decide (PySem.W.nsIn K mainGlobals "UnknownState" = some (some (.ref (Hx.nsA K "UnknownState")))) && (Hx.excB K (Hx.nsA K "UnknownState") && (decide (PySem.W.findIn K (.ref (Hx.nsA K "UnknownState")) "__setattr__" = some (some (.builtin "object.__setattr__"))) && (decide (PySem.W.subIn K (.ref (Hx.nsA K "UnknownState")) (.type "BaseException") = some true) && r)))))))))))))))))))))))))))))
def chk8 (K : PySem.W.Frag) (r : Bool) : Bool := decide (PySem.W.typeIn K (.ref (Hx.nsA K "UnknownState")) = some (.type "type")) && (decide (PySem.W.keepIn K (.ref (Hx.nsA K "UnknownState")) = true) && (decide (PySem.W.isClsIn K (Hx.nsA K "UnknownState") = true) && (decide (PySem.W.subIn K (.ref (Hx.nsA K "UnknownState")) (.ref (Hx.nsA K "UnknownState")) = some true) && (decide (PySem.W.findIn K (.ref (Hx.nsA K "UnknownState")) "__init__" = some (some (.ref (Hx.fiA K (Hx.nsA K "UnknownState") "__init__")))) && (decide (PySem.W.typeIn K (.ref (Hx.fiA K (Hx.nsA K "UnknownState") "__init__")) = some (.type "function")) && (Hx.initB K (Hx.fiA K (Hx.nsA K "UnknownState") "__init__") (Hx.nsA K "UnknownState") "UnknownState.__init__" PySem.Challenge.rw_enoughpaid_k27_errors_made.prog.main.file && (decide (PySem.W.ks_superIn K (Hx.nsA K "UnknownState") (Hx.nsA K "UnknownState") "__init__" = some (some (.builtin "ValueError.__init__"))) && (decide (PySem.W.subIn K (.ref (Hx.nsA K "UnknownState")) (.type "ValueError") = some true) && (decide (PySem.W.mroIn K (Hx.nsA K "UnknownState") (.ref (Hx.nsA K "UnknownState")) = some true) && (decide (PySem.W.findIn K (.ref (Hx.nsA K "UnknownState")) (fname 16) = some none) && (decide (PySem.W.findIn K (.ref (Hx.nsA K "UnknownState")) "__getattribute__" = some (some (.builtin "BaseException.__getattribute__"))) && (decide (PySem.W.findIn K (.ref (Hx.nsA K "UnknownState")) "__getattr__" = some none) && (decide (PySem.W.hasDictIn K (Hx.nsA K "UnknownState") = true) && (decide (PySem.W.findIn K (.ref (Hx.nsA K "UnknownState")) "__class__" = some (some (.builtin "object.__class__"))) && (decide (PySem.W.mroIn K (Hx.nsA K "UnknownState") (.type "object") = some true) && (decide (PySem.W.subIn K (.ref (Hx.nsA K "BadArrow")) (.ref (Hx.nsA K "BadExpression")) = some false) && (decide (PySem.W.subIn K (.ref (Hx.nsA K "BadArrow")) (.ref (Hx.nsA K "BadNumber")) = some false) && (decide (PySem.W.subIn K (.ref (Hx.nsA K "BadArrow")) (.ref (Hx.nsA K "BadRow")) = some false) && (decide (PySem.W.subIn K (.ref (Hx.nsA K "BadArrow")) (.ref (Hx.nsA K "BadState")) = some false) && (decide (PySem.W.subIn K (.ref (Hx.nsA K "BadArrow")) (.ref (Hx.nsA K "BadTally")) = some false) && (decide (PySem.W.subIn K (.ref (Hx.nsA K "BadArrow")) (.ref (Hx.nsA K "BadText")) = some false) && (decide (PySem.W.subIn K (.ref (Hx.nsA K "BadArrow")) (.ref (Hx.nsA K "NotSettled")) = some false) && (decide (PySem.W.subIn K (.ref (Hx.nsA K "BadArrow")) (.ref (Hx.nsA K "TooMany")) = some false) && (decide (PySem.W.subIn K (.ref (Hx.nsA K "BadArrow")) (.ref (Hx.nsA K "Unbounded")) = some false) && (decide (PySem.W.subIn K (.ref (Hx.nsA K "BadArrow")) (.ref (Hx.nsA K "UnknownArrow")) = some false) && (decide (PySem.W.subIn K (.ref (Hx.nsA K "BadArrow")) (.ref (Hx.nsA K "UnknownState")) = some false) && (decide (PySem.W.subIn K (.ref (Hx.nsA K "BadExpression")) (.ref (Hx.nsA K "BadArrow")) = some false) && (decide (PySem.W.subIn K (.ref (Hx.nsA K "BadExpression")) (.ref (Hx.nsA K "BadNumber")) = some false) && (decide (PySem.W.subIn K (.ref (Hx.nsA K "BadExpression")) (.ref (Hx.nsA K "BadRow")) = some false) && r)))))))))))))))))))))))))))))
def chk9 (K : PySem.W.Frag) (r : Bool) : Bool := decide (PySem.W.subIn K (.ref (Hx.nsA K "BadExpression")) (.ref (Hx.nsA K "BadState")) = some false) && (decide (PySem.W.subIn K (.ref (Hx.nsA K "BadExpression")) (.ref (Hx.nsA K "BadTally")) = some false) && (decide (PySem.W.subIn K (.ref (Hx.nsA K "BadExpression")) (.ref (Hx.nsA K "BadText")) = some false) && (decide (PySem.W.subIn K (.ref (Hx.nsA K "BadExpression")) (.ref (Hx.nsA K "NotSettled")) = some false) && (decide (PySem.W.subIn K (.ref (Hx.nsA K "BadExpression")) (.ref (Hx.nsA K "TooMany")) = some false) && (decide (PySem.W.subIn K (.ref (Hx.nsA K "BadExpression")) (.ref (Hx.nsA K "Unbounded")) = some false) && (decide (PySem.W.subIn K (.ref (Hx.nsA K "BadExpression")) (.ref (Hx.nsA K "UnknownArrow")) = some false) && (decide (PySem.W.subIn K (.ref (Hx.nsA K "BadExpression")) (.ref (Hx.nsA K "UnknownState")) = some false) && (decide (PySem.W.subIn K (.ref (Hx.nsA K "BadNumber")) (.ref (Hx.nsA K "BadArrow")) = some false) && (decide (PySem.W.subIn K (.ref (Hx.nsA K "BadNumber")) (.ref (Hx.nsA K "BadExpression")) = some false) && (decide (PySem.W.subIn K (.ref (Hx.nsA K "BadNumber")) (.ref (Hx.nsA K "BadRow")) = some false) && (decide (PySem.W.subIn K (.ref (Hx.nsA K "BadNumber")) (.ref (Hx.nsA K "BadState")) = some false) && (decide (PySem.W.subIn K (.ref (Hx.nsA K "BadNumber")) (.ref (Hx.nsA K "BadTally")) = some false) && (decide (PySem.W.subIn K (.ref (Hx.nsA K "BadNumber")) (.ref (Hx.nsA K "BadText")) = some false) && (decide (PySem.W.subIn K (.ref (Hx.nsA K "BadNumber")) (.ref (Hx.nsA K "NotSettled")) = some false) && (decide (PySem.W.subIn K (.ref (Hx.nsA K "BadNumber")) (.ref (Hx.nsA K "TooMany")) = some false) && (decide (PySem.W.subIn K (.ref (Hx.nsA K "BadNumber")) (.ref (Hx.nsA K "Unbounded")) = some false) && (decide (PySem.W.subIn K (.ref (Hx.nsA K "BadNumber")) (.ref (Hx.nsA K "UnknownArrow")) = some false) && (decide (PySem.W.subIn K (.ref (Hx.nsA K "BadNumber")) (.ref (Hx.nsA K "UnknownState")) = some false) && (decide (PySem.W.subIn K (.ref (Hx.nsA K "BadRow")) (.ref (Hx.nsA K "BadArrow")) = some false) && (decide (PySem.W.subIn K (.ref (Hx.nsA K "BadRow")) (.ref (Hx.nsA K "BadExpression")) = some false) && (decide (PySem.W.subIn K (.ref (Hx.nsA K "BadRow")) (.ref (Hx.nsA K "BadNumber")) = some false) && (decide (PySem.W.subIn K (.ref (Hx.nsA K "BadRow")) (.ref (Hx.nsA K "BadState")) = some false) && (decide (PySem.W.subIn K (.ref (Hx.nsA K "BadRow")) (.ref (Hx.nsA K "BadTally")) = some false) && (decide (PySem.W.subIn K (.ref (Hx.nsA K "BadRow")) (.ref (Hx.nsA K "BadText")) = some false) && (decide (PySem.W.subIn K (.ref (Hx.nsA K "BadRow")) (.ref (Hx.nsA K "NotSettled")) = some false) && (decide (PySem.W.subIn K (.ref (Hx.nsA K "BadRow")) (.ref (Hx.nsA K "TooMany")) = some false) && (decide (PySem.W.subIn K (.ref (Hx.nsA K "BadRow")) (.ref (Hx.nsA K "Unbounded")) = some false) && (decide (PySem.W.subIn K (.ref (Hx.nsA K "BadRow")) (.ref (Hx.nsA K "UnknownArrow")) = some false) && (decide (PySem.W.subIn K (.ref (Hx.nsA K "BadRow")) (.ref (Hx.nsA K "UnknownState")) = some false) && r)))))))))))))))))))))))))))))
def chk10 (K : PySem.W.Frag) (r : Bool) : Bool := decide (PySem.W.subIn K (.ref (Hx.nsA K "BadState")) (.ref (Hx.nsA K "BadArrow")) = some false) && (decide (PySem.W.subIn K (.ref (Hx.nsA K "BadState")) (.ref (Hx.nsA K "BadExpression")) = some false) && (decide (PySem.W.subIn K (.ref (Hx.nsA K "BadState")) (.ref (Hx.nsA K "BadNumber")) = some false) && (decide (PySem.W.subIn K (.ref (Hx.nsA K "BadState")) (.ref (Hx.nsA K "BadRow")) = some false) && (decide (PySem.W.subIn K (.ref (Hx.nsA K "BadState")) (.ref (Hx.nsA K "BadTally")) = some false) && (decide (PySem.W.subIn K (.ref (Hx.nsA K "BadState")) (.ref (Hx.nsA K "BadText")) = some false) && (decide (PySem.W.subIn K (.ref (Hx.nsA K "BadState")) (.ref (Hx.nsA K "NotSettled")) = some false) && (decide (PySem.W.subIn K (.ref (Hx.nsA K "BadState")) (.ref (Hx.nsA K "TooMany")) = some false) && (decide (PySem.W.subIn K (.ref (Hx.nsA K "BadState")) (.ref (Hx.nsA K "Unbounded")) = some false) && (decide (PySem.W.subIn K (.ref (Hx.nsA K "BadState")) (.ref (Hx.nsA K "UnknownArrow")) = some false) && (decide (PySem.W.subIn K (.ref (Hx.nsA K "BadState")) (.ref (Hx.nsA K "UnknownState")) = some false) && (decide (PySem.W.subIn K (.ref (Hx.nsA K "BadTally")) (.ref (Hx.nsA K "BadArrow")) = some false) && (decide (PySem.W.subIn K (.ref (Hx.nsA K "BadTally")) (.ref (Hx.nsA K "BadExpression")) = some false) && (decide (PySem.W.subIn K (.ref (Hx.nsA K "BadTally")) (.ref (Hx.nsA K "BadNumber")) = some false) && (decide (PySem.W.subIn K (.ref (Hx.nsA K "BadTally")) (.ref (Hx.nsA K "BadRow")) = some false) && (decide (PySem.W.subIn K (.ref (Hx.nsA K "BadTally")) (.ref (Hx.nsA K "BadState")) = some false) && (decide (PySem.W.subIn K (.ref (Hx.nsA K "BadTally")) (.ref (Hx.nsA K "BadText")) = some false) && (decide (PySem.W.subIn K (.ref (Hx.nsA K "BadTally")) (.ref (Hx.nsA K "NotSettled")) = some false) && (decide (PySem.W.subIn K (.ref (Hx.nsA K "BadTally")) (.ref (Hx.nsA K "TooMany")) = some false) && (decide (PySem.W.subIn K (.ref (Hx.nsA K "BadTally")) (.ref (Hx.nsA K "Unbounded")) = some false) && (decide (PySem.W.subIn K (.ref (Hx.nsA K "BadTally")) (.ref (Hx.nsA K "UnknownArrow")) = some false) && (decide (PySem.W.subIn K (.ref (Hx.nsA K "BadTally")) (.ref (Hx.nsA K "UnknownState")) = some false) && (decide (PySem.W.subIn K (.ref (Hx.nsA K "BadText")) (.ref (Hx.nsA K "BadArrow")) = some false) && (decide (PySem.W.subIn K (.ref (Hx.nsA K "BadText")) (.ref (Hx.nsA K "BadExpression")) = some false) && (decide (PySem.W.subIn K (.ref (Hx.nsA K "BadText")) (.ref (Hx.nsA K "BadNumber")) = some false) && (decide (PySem.W.subIn K (.ref (Hx.nsA K "BadText")) (.ref (Hx.nsA K "BadRow")) = some false) && (decide (PySem.W.subIn K (.ref (Hx.nsA K "BadText")) (.ref (Hx.nsA K "BadState")) = some false) && (decide (PySem.W.subIn K (.ref (Hx.nsA K "BadText")) (.ref (Hx.nsA K "BadTally")) = some false) && (decide (PySem.W.subIn K (.ref (Hx.nsA K "BadText")) (.ref (Hx.nsA K "NotSettled")) = some false) && (decide (PySem.W.subIn K (.ref (Hx.nsA K "BadText")) (.ref (Hx.nsA K "TooMany")) = some false) && r)))))))))))))))))))))))))))))
def chk11 (K : PySem.W.Frag) (r : Bool) : Bool := decide (PySem.W.subIn K (.ref (Hx.nsA K "BadText")) (.ref (Hx.nsA K "Unbounded")) = some false) && (decide (PySem.W.subIn K (.ref (Hx.nsA K "BadText")) (.ref (Hx.nsA K "UnknownArrow")) = some false) && (decide (PySem.W.subIn K (.ref (Hx.nsA K "BadText")) (.ref (Hx.nsA K "UnknownState")) = some false) && (decide (PySem.W.subIn K (.ref (Hx.nsA K "NotSettled")) (.ref (Hx.nsA K "BadArrow")) = some false) && (decide (PySem.W.subIn K (.ref (Hx.nsA K "NotSettled")) (.ref (Hx.nsA K "BadExpression")) = some false) && (decide (PySem.W.subIn K (.ref (Hx.nsA K "NotSettled")) (.ref (Hx.nsA K "BadNumber")) = some false) && (decide (PySem.W.subIn K (.ref (Hx.nsA K "NotSettled")) (.ref (Hx.nsA K "BadRow")) = some false) && (decide (PySem.W.subIn K (.ref (Hx.nsA K "NotSettled")) (.ref (Hx.nsA K "BadState")) = some false) && (decide (PySem.W.subIn K (.ref (Hx.nsA K "NotSettled")) (.ref (Hx.nsA K "BadTally")) = some false) && (decide (PySem.W.subIn K (.ref (Hx.nsA K "NotSettled")) (.ref (Hx.nsA K "BadText")) = some false) && (decide (PySem.W.subIn K (.ref (Hx.nsA K "NotSettled")) (.ref (Hx.nsA K "TooMany")) = some false) && (decide (PySem.W.subIn K (.ref (Hx.nsA K "NotSettled")) (.ref (Hx.nsA K "Unbounded")) = some false) && (decide (PySem.W.subIn K (.ref (Hx.nsA K "NotSettled")) (.ref (Hx.nsA K "UnknownArrow")) = some false) && (decide (PySem.W.subIn K (.ref (Hx.nsA K "NotSettled")) (.ref (Hx.nsA K "UnknownState")) = some false) && (decide (PySem.W.subIn K (.ref (Hx.nsA K "TooMany")) (.ref (Hx.nsA K "BadArrow")) = some false) && (decide (PySem.W.subIn K (.ref (Hx.nsA K "TooMany")) (.ref (Hx.nsA K "BadExpression")) = some false) && (decide (PySem.W.subIn K (.ref (Hx.nsA K "TooMany")) (.ref (Hx.nsA K "BadNumber")) = some false) && (decide (PySem.W.subIn K (.ref (Hx.nsA K "TooMany")) (.ref (Hx.nsA K "BadRow")) = some false) && (decide (PySem.W.subIn K (.ref (Hx.nsA K "TooMany")) (.ref (Hx.nsA K "BadState")) = some false) && (decide (PySem.W.subIn K (.ref (Hx.nsA K "TooMany")) (.ref (Hx.nsA K "BadTally")) = some false) && (decide (PySem.W.subIn K (.ref (Hx.nsA K "TooMany")) (.ref (Hx.nsA K "BadText")) = some false) && (decide (PySem.W.subIn K (.ref (Hx.nsA K "TooMany")) (.ref (Hx.nsA K "NotSettled")) = some false) && (decide (PySem.W.subIn K (.ref (Hx.nsA K "TooMany")) (.ref (Hx.nsA K "Unbounded")) = some false) && (decide (PySem.W.subIn K (.ref (Hx.nsA K "TooMany")) (.ref (Hx.nsA K "UnknownArrow")) = some false) && (decide (PySem.W.subIn K (.ref (Hx.nsA K "TooMany")) (.ref (Hx.nsA K "UnknownState")) = some false) && (decide (PySem.W.subIn K (.ref (Hx.nsA K "Unbounded")) (.ref (Hx.nsA K "BadArrow")) = some false) && (decide (PySem.W.subIn K (.ref (Hx.nsA K "Unbounded")) (.ref (Hx.nsA K "BadExpression")) = some false) && (decide (PySem.W.subIn K (.ref (Hx.nsA K "Unbounded")) (.ref (Hx.nsA K "BadNumber")) = some false) && (decide (PySem.W.subIn K (.ref (Hx.nsA K "Unbounded")) (.ref (Hx.nsA K "BadRow")) = some false) && (decide (PySem.W.subIn K (.ref (Hx.nsA K "Unbounded")) (.ref (Hx.nsA K "BadState")) = some false) && r)))))))))))))))))))))))))))))
def chk12 (K : PySem.W.Frag) (r : Bool) : Bool := decide (PySem.W.subIn K (.ref (Hx.nsA K "Unbounded")) (.ref (Hx.nsA K "BadTally")) = some false) && (decide (PySem.W.subIn K (.ref (Hx.nsA K "Unbounded")) (.ref (Hx.nsA K "BadText")) = some false) && (decide (PySem.W.subIn K (.ref (Hx.nsA K "Unbounded")) (.ref (Hx.nsA K "NotSettled")) = some false) && (decide (PySem.W.subIn K (.ref (Hx.nsA K "Unbounded")) (.ref (Hx.nsA K "TooMany")) = some false) && (decide (PySem.W.subIn K (.ref (Hx.nsA K "Unbounded")) (.ref (Hx.nsA K "UnknownArrow")) = some false) && (decide (PySem.W.subIn K (.ref (Hx.nsA K "Unbounded")) (.ref (Hx.nsA K "UnknownState")) = some false) && (decide (PySem.W.subIn K (.ref (Hx.nsA K "UnknownArrow")) (.ref (Hx.nsA K "BadArrow")) = some false) && (decide (PySem.W.subIn K (.ref (Hx.nsA K "UnknownArrow")) (.ref (Hx.nsA K "BadExpression")) = some false) && (decide (PySem.W.subIn K (.ref (Hx.nsA K "UnknownArrow")) (.ref (Hx.nsA K "BadNumber")) = some false) && (decide (PySem.W.subIn K (.ref (Hx.nsA K "UnknownArrow")) (.ref (Hx.nsA K "BadRow")) = some false) && (decide (PySem.W.subIn K (.ref (Hx.nsA K "UnknownArrow")) (.ref (Hx.nsA K "BadState")) = some false) && (decide (PySem.W.subIn K (.ref (Hx.nsA K "UnknownArrow")) (.ref (Hx.nsA K "BadTally")) = some false) && (decide (PySem.W.subIn K (.ref (Hx.nsA K "UnknownArrow")) (.ref (Hx.nsA K "BadText")) = some false) && (decide (PySem.W.subIn K (.ref (Hx.nsA K "UnknownArrow")) (.ref (Hx.nsA K "NotSettled")) = some false) && (decide (PySem.W.subIn K (.ref (Hx.nsA K "UnknownArrow")) (.ref (Hx.nsA K "TooMany")) = some false) && (decide (PySem.W.subIn K (.ref (Hx.nsA K "UnknownArrow")) (.ref (Hx.nsA K "Unbounded")) = some false) && (decide (PySem.W.subIn K (.ref (Hx.nsA K "UnknownArrow")) (.ref (Hx.nsA K "UnknownState")) = some false) && (decide (PySem.W.subIn K (.ref (Hx.nsA K "UnknownState")) (.ref (Hx.nsA K "BadArrow")) = some false) && (decide (PySem.W.subIn K (.ref (Hx.nsA K "UnknownState")) (.ref (Hx.nsA K "BadExpression")) = some false) && (decide (PySem.W.subIn K (.ref (Hx.nsA K "UnknownState")) (.ref (Hx.nsA K "BadNumber")) = some false) && (decide (PySem.W.subIn K (.ref (Hx.nsA K "UnknownState")) (.ref (Hx.nsA K "BadRow")) = some false) && (decide (PySem.W.subIn K (.ref (Hx.nsA K "UnknownState")) (.ref (Hx.nsA K "BadState")) = some false) && (decide (PySem.W.subIn K (.ref (Hx.nsA K "UnknownState")) (.ref (Hx.nsA K "BadTally")) = some false) && (decide (PySem.W.subIn K (.ref (Hx.nsA K "UnknownState")) (.ref (Hx.nsA K "BadText")) = some false) && (decide (PySem.W.subIn K (.ref (Hx.nsA K "UnknownState")) (.ref (Hx.nsA K "NotSettled")) = some false) && (decide (PySem.W.subIn K (.ref (Hx.nsA K "UnknownState")) (.ref (Hx.nsA K "TooMany")) = some false) && (decide (PySem.W.subIn K (.ref (Hx.nsA K "UnknownState")) (.ref (Hx.nsA K "Unbounded")) = some false) && (decide (PySem.W.subIn K (.ref (Hx.nsA K "UnknownState")) (.ref (Hx.nsA K "UnknownArrow")) = some false) && (decide (PySem.W.nsIn K mainGlobals "super" = some none) && (decide (PySem.W.nsIn K cStatics "thirdparty.any" = some none) && r)))))))))))))))))))))))))))))
def chk13 (K : PySem.W.Frag) (r : Bool) : Bool := decide (PySem.W.nsIn K mainGlobals "_law_draw" = some (some (.ref (Hx.nsA K "_law_draw")))) && (Hx.codeB K (Hx.nsA K "_law_draw") "_law_draw" && (decide (PySem.W.keepIn K (.ref (Hx.nsA K "_law_draw")) = true) && (decide (PySem.W.nsIn K mainGlobals "_law_raised" = some (some (.ref (Hx.nsA K "_law_raised")))) && (Hx.codeB K (Hx.nsA K "_law_raised") "_law_raised" && (decide (PySem.W.keepIn K (.ref (Hx.nsA K "_law_raised")) = true) && (decide (PySem.W.nsIn K mainGlobals "_law_fields" = some (some (.ref (Hx.nsA K "_law_fields")))) && (Hx.codeB K (Hx.nsA K "_law_fields") "_law_fields" && (decide (PySem.W.keepIn K (.ref (Hx.nsA K "_law_fields")) = true) && (decide (PySem.W.nsIn K mainGlobals "_law_kinds" = some (some (.ref (Hx.nsA K "_law_kinds")))) && (Hx.codeB K (Hx.nsA K "_law_kinds") "_law_kinds" && (decide (PySem.W.keepIn K (.ref (Hx.nsA K "_law_kinds")) = true) && (decide (PySem.W.nsIn K mainGlobals "_law_pick" = some (some (.ref (Hx.nsA K "_law_pick")))) && (Hx.codeB K (Hx.nsA K "_law_pick") "_law_pick" && (decide (PySem.W.keepIn K (.ref (Hx.nsA K "_law_pick")) = true) && (decide (PySem.W.nsIn K mainGlobals "_law_source" = some (some (.ref (Hx.nsA K "_law_source")))) && (Hx.codeB K (Hx.nsA K "_law_source") "_law_source" && (decide (PySem.W.keepIn K (.ref (Hx.nsA K "_law_source")) = true) && (decide (PySem.W.nsIn K mainGlobals "law" = some (some (.ref (Hx.nsA K "law")))) && (Hx.codeB K (Hx.nsA K "law") "law" && (decide (PySem.W.keepIn K (.ref (Hx.nsA K "law")) = true) && (decide (PySem.W.nsIn K mainGlobals "ValueError" = some none) && (decide (PySem.W.nsIn K mainGlobals "int" = some none) && (decide (PySem.W.nsIn K mainGlobals "isinstance" = some none) && (decide (PySem.W.nsIn K mainGlobals "len" = some none) && (decide (PySem.W.nsIn K mainGlobals "range" = some none) && r)))))))))))))))))))))))))
def chk (K : PySem.W.Frag) : Bool := chk0 K (chk1 K (chk2 K (chk3 K (chk4 K (chk5 K (chk6 K (chk7 K (chk8 K (chk9 K (chk10 K (chk11 K (chk12 K (chk13 K (true))))))))))))))
def fns (K : PySem.W.Frag) : List Hx.FnV := [Hx.fnV K (Hx.fiA K (Hx.nsA K "BadArrow") "__init__"), Hx.fnV K (Hx.fiA K (Hx.nsA K "BadExpression") "__init__"), Hx.fnV K (Hx.fiA K (Hx.nsA K "BadNumber") "__init__"), Hx.fnV K (Hx.fiA K (Hx.nsA K "BadRow") "__init__"), Hx.fnV K (Hx.fiA K (Hx.nsA K "BadState") "__init__"), Hx.fnV K (Hx.fiA K (Hx.nsA K "BadTally") "__init__"), Hx.fnV K (Hx.fiA K (Hx.nsA K "BadText") "__init__"), Hx.fnV K (Hx.fiA K (Hx.nsA K "NotSettled") "__init__"), Hx.fnV K (Hx.fiA K (Hx.nsA K "TooMany") "__init__"), Hx.fnV K (Hx.fiA K (Hx.nsA K "Unbounded") "__init__"), Hx.fnV K (Hx.fiA K (Hx.nsA K "UnknownArrow") "__init__"), Hx.fnV K (Hx.fiA K (Hx.nsA K "UnknownState") "__init__"), Hx.fnV K (Hx.nsA K "_law_draw"), Hx.fnV K (Hx.nsA K "_law_raised"), Hx.fnV K (Hx.nsA K "_law_fields"), Hx.fnV K (Hx.nsA K "_law_kinds"), Hx.fnV K (Hx.nsA K "_law_pick"), Hx.fnV K (Hx.nsA K "_law_source"), Hx.fnV K (Hx.nsA K "law")]
def fvs : List Hx.FnV := [Hx.fnE "__init__" "BadArrow.__init__" s_BadArrow_init, Hx.fnE "__init__" "BadExpression.__init__" s_BadExpression_init, Hx.fnE "__init__" "BadNumber.__init__" s_BadNumber_init, Hx.fnE "__init__" "BadRow.__init__" s_BadRow_init, Hx.fnE "__init__" "BadState.__init__" s_BadState_init, Hx.fnE "__init__" "BadTally.__init__" s_BadTally_init, Hx.fnE "__init__" "BadText.__init__" s_BadText_init, Hx.fnE "__init__" "NotSettled.__init__" s_NotSettled_init, Hx.fnE "__init__" "TooMany.__init__" s_TooMany_init, Hx.fnE "__init__" "Unbounded.__init__" s_Unbounded_init, Hx.fnE "__init__" "UnknownArrow.__init__" s_UnknownArrow_init, Hx.fnE "__init__" "UnknownState.__init__" s_UnknownState_init, Hx.fnE "_law_draw" "_law_draw" s_law_draw, Hx.fnE "_law_raised" "_law_raised" s_law_raised, Hx.fnE "_law_fields" "_law_fields" s_law_fields, Hx.fnE "_law_kinds" "_law_kinds" s_law_kinds, Hx.fnE "_law_pick" "_law_pick" s_law_pick, Hx.fnE "_law_source" "_law_source" s_law_source, Hx.fnE "law" "law" s_law]
def obF (K : PySem.W.Frag) : Bool × List Hx.FnV := (chk K, fns K)
theorem all_h {w : World} {K : PySem.W.Frag} {h : Heap} {mg : Str → Option Value} {fa : Addr} (X : K.In h) (G0 : h.Ns mainGlobals mg) (hfa : mg "law" = some (.ref fa)) (c : obF K = (true, fvs)) :
    ∃ fd : FuncData, (∀ (s : Shared) (v : Value), BindsTo s fd ⟨[v], []⟩ [("_law_script", v)]) ∧ ∀ base : Heap, K.In base → base.Ns mainGlobals mg → FnOk PySem.Challenge.rw_enoughpaid_k27_errors_made.prog w K mg base (L2.CX PySem.Challenge.rw_enoughpaid_k27_errors_made.prog w) 5 fa fd ["_law_script"] (Is.spHead K) := by
  have zc : chk K = true := congrArg Prod.fst c
  have zf : fns K = fvs := congrArg Prod.snd c
  obtain ⟨zd, zc⟩ := Hx.ba zc
  have aC_PaidError := of_decide_eq_true zd
  obtain ⟨zd, zc⟩ := Hx.ba zc
  have eC_PaidError := of_decide_eq_true zd
  obtain ⟨zd, zc⟩ := Hx.ba zc
  have tC_PaidError := of_decide_eq_true zd
  obtain ⟨zd, zc⟩ := Hx.ba zc
  have iC_PaidError := of_decide_eq_true zd
  obtain ⟨zd, zc⟩ := Hx.ba zc
  have sp_exc := of_decide_eq_true zd
  obtain ⟨zd, zc⟩ := Hx.ba zc
  have tk_exc := of_decide_eq_true zd
  obtain ⟨zd, zc⟩ := Hx.ba zc
  have sp_BadArrow := of_decide_eq_true zd
  obtain ⟨zd, zc⟩ := Hx.ba zc
  have sp_BadExpression := of_decide_eq_true zd
  obtain ⟨zd, zc⟩ := Hx.ba zc
  have sp_BadNumber := of_decide_eq_true zd
  obtain ⟨zd, zc⟩ := Hx.ba zc
  have sp_BadRow := of_decide_eq_true zd
  obtain ⟨zd, zc⟩ := Hx.ba zc
  have sp_BadState := of_decide_eq_true zd
  obtain ⟨zd, zc⟩ := Hx.ba zc
  have sp_BadTally := of_decide_eq_true zd
  obtain ⟨zd, zc⟩ := Hx.ba zc
  have sp_BadText := of_decide_eq_true zd
  obtain ⟨zd, zc⟩ := Hx.ba zc
  have sp_NotSettled := of_decide_eq_true zd
  obtain ⟨zd, zc⟩ := Hx.ba zc
  have sp_TooMany := of_decide_eq_true zd
  obtain ⟨zd, zc⟩ := Hx.ba zc
  have sp_Unbounded := of_decide_eq_true zd
  obtain ⟨zd, zc⟩ := Hx.ba zc
  have sp_UnknownArrow := of_decide_eq_true zd
  obtain ⟨zd, zc⟩ := Hx.ba zc
  have sp_UnknownState := of_decide_eq_true zd
  obtain ⟨zd, zc⟩ := Hx.ba zc
  have aC_BadArrow := of_decide_eq_true zd
  obtain ⟨zd, zc⟩ := Hx.ba zc
  obtain ⟨_, _, _, _, _, _, _, _, _, _, _, _, _, _, _, xL_BadArrow, rv_BadArrow⟩ := Hx.exc_ok zd
  obtain ⟨zd, zc⟩ := Hx.ba zc
  have sa_BadArrow := of_decide_eq_true zd
  obtain ⟨zd, zc⟩ := Hx.ba zc
  have eC_BadArrow := of_decide_eq_true zd
  obtain ⟨zd, zc⟩ := Hx.ba zc
  have tC_BadArrow := of_decide_eq_true zd
  obtain ⟨zd, zc⟩ := Hx.ba zc
  have kC_BadArrow := of_decide_eq_true zd
  obtain ⟨zd, zc⟩ := Hx.ba zc
  have iC_BadArrow := of_decide_eq_true zd
  obtain ⟨zd, zc⟩ := Hx.ba zc
  have sC_BadArrow := of_decide_eq_true zd
  obtain ⟨zd, zc⟩ := Hx.ba zc
  have ai_BadArrow := of_decide_eq_true zd
  obtain ⟨zd, zc⟩ := Hx.ba zc
  have ti_BadArrow := of_decide_eq_true zd
  obtain ⟨zd, zc⟩ := Hx.ba zc
  obtain ⟨ze, zf⟩ := List.cons.inj zf
  obtain ⟨_, _, _, _, _, _, _, _, _, _, li_BadArrow, ci_BadArrow, ⟨_, _, _, ce_BadArrow⟩, _, _, _, _, _, _, co_BadArrow, vf_BadArrow, pf_BadArrow⟩ := Hx.init_ok ze zd
  obtain ⟨zd, zc⟩ := Hx.ba zc
  have su_BadArrow := of_decide_eq_true zd
  obtain ⟨zd, zc⟩ := Hx.ba zc
  have sv_BadArrow := of_decide_eq_true zd
  obtain ⟨zd, zc⟩ := Hx.ba zc
  have mr_BadArrow := of_decide_eq_true zd
  obtain ⟨zd, zc⟩ := Hx.ba zc
  have nf_BadArrow := of_decide_eq_true zd
  obtain ⟨zd, zc⟩ := Hx.ba zc
  have ga_BadArrow := of_decide_eq_true zd
  obtain ⟨zd, zc⟩ := Hx.ba zc
  have gg_BadArrow := of_decide_eq_true zd
  obtain ⟨zd, zc⟩ := Hx.ba zc
  have hc_BadArrow := of_decide_eq_true zd
  obtain ⟨zd, zc⟩ := Hx.ba zc
  have ck_BadArrow := of_decide_eq_true zd
  obtain ⟨zd, zc⟩ := Hx.ba zc
  have mo_BadArrow := of_decide_eq_true zd
  obtain ⟨zd, zc⟩ := Hx.ba zc
  have aC_BadExpression := of_decide_eq_true zd
  obtain ⟨zd, zc⟩ := Hx.ba zc
  obtain ⟨_, _, _, _, _, _, _, _, _, _, _, _, _, _, _, xL_BadExpression, rv_BadExpression⟩ := Hx.exc_ok zd
  obtain ⟨zd, zc⟩ := Hx.ba zc
  have sa_BadExpression := of_decide_eq_true zd
  obtain ⟨zd, zc⟩ := Hx.ba zc
  have eC_BadExpression := of_decide_eq_true zd
  obtain ⟨zd, zc⟩ := Hx.ba zc
  have tC_BadExpression := of_decide_eq_true zd
  obtain ⟨zd, zc⟩ := Hx.ba zc
  have kC_BadExpression := of_decide_eq_true zd
  obtain ⟨zd, zc⟩ := Hx.ba zc
  have iC_BadExpression := of_decide_eq_true zd
  obtain ⟨zd, zc⟩ := Hx.ba zc
  have sC_BadExpression := of_decide_eq_true zd
  obtain ⟨zd, zc⟩ := Hx.ba zc
  have ai_BadExpression := of_decide_eq_true zd
  obtain ⟨zd, zc⟩ := Hx.ba zc
  have ti_BadExpression := of_decide_eq_true zd
  obtain ⟨zd, zc⟩ := Hx.ba zc
  obtain ⟨ze, zf⟩ := List.cons.inj zf
  obtain ⟨_, _, _, _, _, _, _, _, _, _, li_BadExpression, ci_BadExpression, ⟨_, _, _, ce_BadExpression⟩, _, _, _, _, _, _, co_BadExpression, vf_BadExpression, pf_BadExpression⟩ := Hx.init_ok ze zd
  obtain ⟨zd, zc⟩ := Hx.ba zc
  have su_BadExpression := of_decide_eq_true zd
  obtain ⟨zd, zc⟩ := Hx.ba zc
  have sv_BadExpression := of_decide_eq_true zd
  obtain ⟨zd, zc⟩ := Hx.ba zc
  have mr_BadExpression := of_decide_eq_true zd
  obtain ⟨zd, zc⟩ := Hx.ba zc
  have nf_BadExpression := of_decide_eq_true zd
  obtain ⟨zd, zc⟩ := Hx.ba zc
  have ga_BadExpression := of_decide_eq_true zd
  obtain ⟨zd, zc⟩ := Hx.ba zc
  have gg_BadExpression := of_decide_eq_true zd
  obtain ⟨zd, zc⟩ := Hx.ba zc
  have hc_BadExpression := of_decide_eq_true zd
  obtain ⟨zd, zc⟩ := Hx.ba zc
  have ck_BadExpression := of_decide_eq_true zd
  obtain ⟨zd, zc⟩ := Hx.ba zc
  have mo_BadExpression := of_decide_eq_true zd
  obtain ⟨zd, zc⟩ := Hx.ba zc
  have aC_BadNumber := of_decide_eq_true zd
  obtain ⟨zd, zc⟩ := Hx.ba zc
  obtain ⟨_, _, _, _, _, _, _, _, _, _, _, _, _, _, _, xL_BadNumber, rv_BadNumber⟩ := Hx.exc_ok zd
  obtain ⟨zd, zc⟩ := Hx.ba zc
  have sa_BadNumber := of_decide_eq_true zd
  obtain ⟨zd, zc⟩ := Hx.ba zc
  have eC_BadNumber := of_decide_eq_true zd
  obtain ⟨zd, zc⟩ := Hx.ba zc
  have tC_BadNumber := of_decide_eq_true zd
  obtain ⟨zd, zc⟩ := Hx.ba zc
  have kC_BadNumber := of_decide_eq_true zd
  obtain ⟨zd, zc⟩ := Hx.ba zc
  have iC_BadNumber := of_decide_eq_true zd
  obtain ⟨zd, zc⟩ := Hx.ba zc
  have sC_BadNumber := of_decide_eq_true zd
  obtain ⟨zd, zc⟩ := Hx.ba zc
  have ai_BadNumber := of_decide_eq_true zd
  obtain ⟨zd, zc⟩ := Hx.ba zc
  have ti_BadNumber := of_decide_eq_true zd
  obtain ⟨zd, zc⟩ := Hx.ba zc
  obtain ⟨ze, zf⟩ := List.cons.inj zf
  obtain ⟨_, _, _, _, _, _, _, _, _, _, li_BadNumber, ci_BadNumber, ⟨_, _, _, ce_BadNumber⟩, _, _, _, _, _, _, co_BadNumber, vf_BadNumber, pf_BadNumber⟩ := Hx.init_ok ze zd
  obtain ⟨zd, zc⟩ := Hx.ba zc
  have su_BadNumber := of_decide_eq_true zd
  obtain ⟨zd, zc⟩ := Hx.ba zc
  have sv_BadNumber := of_decide_eq_true zd
  obtain ⟨zd, zc⟩ := Hx.ba zc
  have mr_BadNumber := of_decide_eq_true zd
  obtain ⟨zd, zc⟩ := Hx.ba zc
  have nf_BadNumber := of_decide_eq_true zd
  obtain ⟨zd, zc⟩ := Hx.ba zc
  have ga_BadNumber := of_decide_eq_true zd
  obtain ⟨zd, zc⟩ := Hx.ba zc
  have gg_BadNumber := of_decide_eq_true zd
  obtain ⟨zd, zc⟩ := Hx.ba zc
  have hc_BadNumber := of_decide_eq_true zd
  obtain ⟨zd, zc⟩ := Hx.ba zc
  have ck_BadNumber := of_decide_eq_true zd
  obtain ⟨zd, zc⟩ := Hx.ba zc
  have mo_BadNumber := of_decide_eq_true zd
  obtain ⟨zd, zc⟩ := Hx.ba zc
  have aC_BadRow := of_decide_eq_true zd
  obtain ⟨zd, zc⟩ := Hx.ba zc
  obtain ⟨_, _, _, _, _, _, _, _, _, _, _, _, _, _, _, xL_BadRow, rv_BadRow⟩ := Hx.exc_ok zd
  obtain ⟨zd, zc⟩ := Hx.ba zc
  have sa_BadRow := of_decide_eq_true zd
  obtain ⟨zd, zc⟩ := Hx.ba zc
  have eC_BadRow := of_decide_eq_true zd
  obtain ⟨zd, zc⟩ := Hx.ba zc
  have tC_BadRow := of_decide_eq_true zd
  obtain ⟨zd, zc⟩ := Hx.ba zc
  have kC_BadRow := of_decide_eq_true zd
  obtain ⟨zd, zc⟩ := Hx.ba zc
  have iC_BadRow := of_decide_eq_true zd
  obtain ⟨zd, zc⟩ := Hx.ba zc
  have sC_BadRow := of_decide_eq_true zd
  obtain ⟨zd, zc⟩ := Hx.ba zc
  have ai_BadRow := of_decide_eq_true zd
  obtain ⟨zd, zc⟩ := Hx.ba zc
  have ti_BadRow := of_decide_eq_true zd
  obtain ⟨zd, zc⟩ := Hx.ba zc
  obtain ⟨ze, zf⟩ := List.cons.inj zf
  obtain ⟨_, _, _, _, _, _, _, _, _, _, li_BadRow, ci_BadRow, ⟨_, _, _, ce_BadRow⟩, _, _, _, _, _, _, co_BadRow, vf_BadRow, pf_BadRow⟩ := Hx.init_ok ze zd
  obtain ⟨zd, zc⟩ := Hx.ba zc
  have su_BadRow := of_decide_eq_true zd
  obtain ⟨zd, zc⟩ := Hx.ba zc
  have sv_BadRow := of_decide_eq_true zd
  obtain ⟨zd, zc⟩ := Hx.ba zc
  have mr_BadRow := of_decide_eq_true zd
  obtain ⟨zd, zc⟩ := Hx.ba zc
  have nf_BadRow := of_decide_eq_true zd
  obtain ⟨zd, zc⟩ := Hx.ba zc
  have ga_BadRow := of_decide_eq_true zd
  obtain ⟨zd, zc⟩ := Hx.ba zc
  have gg_BadRow := of_decide_eq_true zd
  obtain ⟨zd, zc⟩ := Hx.ba zc
  have hc_BadRow := of_decide_eq_true zd
  obtain ⟨zd, zc⟩ := Hx.ba zc
  have ck_BadRow := of_decide_eq_true zd
  obtain ⟨zd, zc⟩ := Hx.ba zc
  have mo_BadRow := of_decide_eq_true zd
  obtain ⟨zd, zc⟩ := Hx.ba zc
  have aC_BadState := of_decide_eq_true zd
  obtain ⟨zd, zc⟩ := Hx.ba zc
  obtain ⟨_, _, _, _, _, _, _, _, _, _, _, _, _, _, _, xL_BadState, rv_BadState⟩ := Hx.exc_ok zd
  obtain ⟨zd, zc⟩ := Hx.ba zc
  have sa_BadState := of_decide_eq_true zd
  obtain ⟨zd, zc⟩ := Hx.ba zc
  have eC_BadState := of_decide_eq_true zd
  obtain ⟨zd, zc⟩ := Hx.ba zc
  have tC_BadState := of_decide_eq_true zd
  obtain ⟨zd, zc⟩ := Hx.ba zc
  have kC_BadState := of_decide_eq_true zd
  obtain ⟨zd, zc⟩ := Hx.ba zc
  have iC_BadState := of_decide_eq_true zd
  obtain ⟨zd, zc⟩ := Hx.ba zc
  have sC_BadState := of_decide_eq_true zd
  obtain ⟨zd, zc⟩ := Hx.ba zc
  have ai_BadState := of_decide_eq_true zd
  obtain ⟨zd, zc⟩ := Hx.ba zc
  have ti_BadState := of_decide_eq_true zd
  obtain ⟨zd, zc⟩ := Hx.ba zc
  obtain ⟨ze, zf⟩ := List.cons.inj zf
  obtain ⟨_, _, _, _, _, _, _, _, _, _, li_BadState, ci_BadState, ⟨_, _, _, ce_BadState⟩, _, _, _, _, _, _, co_BadState, vf_BadState, pf_BadState⟩ := Hx.init_ok ze zd
  obtain ⟨zd, zc⟩ := Hx.ba zc
  have su_BadState := of_decide_eq_true zd
  obtain ⟨zd, zc⟩ := Hx.ba zc
  have sv_BadState := of_decide_eq_true zd
  obtain ⟨zd, zc⟩ := Hx.ba zc
  have mr_BadState := of_decide_eq_true zd
  obtain ⟨zd, zc⟩ := Hx.ba zc
  have nf_BadState := of_decide_eq_true zd
  obtain ⟨zd, zc⟩ := Hx.ba zc
  have ga_BadState := of_decide_eq_true zd
  obtain ⟨zd, zc⟩ := Hx.ba zc
  have gg_BadState := of_decide_eq_true zd
  obtain ⟨zd, zc⟩ := Hx.ba zc
  have hc_BadState := of_decide_eq_true zd
  obtain ⟨zd, zc⟩ := Hx.ba zc
  have ck_BadState := of_decide_eq_true zd
  obtain ⟨zd, zc⟩ := Hx.ba zc
  have mo_BadState := of_decide_eq_true zd
  obtain ⟨zd, zc⟩ := Hx.ba zc
  have aC_BadTally := of_decide_eq_true zd
  obtain ⟨zd, zc⟩ := Hx.ba zc
  obtain ⟨_, _, _, _, _, _, _, _, _, _, _, _, _, _, _, xL_BadTally, rv_BadTally⟩ := Hx.exc_ok zd
  obtain ⟨zd, zc⟩ := Hx.ba zc
  have sa_BadTally := of_decide_eq_true zd
  obtain ⟨zd, zc⟩ := Hx.ba zc
  have eC_BadTally := of_decide_eq_true zd
  obtain ⟨zd, zc⟩ := Hx.ba zc
  have tC_BadTally := of_decide_eq_true zd
  obtain ⟨zd, zc⟩ := Hx.ba zc
  have kC_BadTally := of_decide_eq_true zd
  obtain ⟨zd, zc⟩ := Hx.ba zc
  have iC_BadTally := of_decide_eq_true zd
  obtain ⟨zd, zc⟩ := Hx.ba zc
  have sC_BadTally := of_decide_eq_true zd
  obtain ⟨zd, zc⟩ := Hx.ba zc
  have ai_BadTally := of_decide_eq_true zd
  obtain ⟨zd, zc⟩ := Hx.ba zc
  have ti_BadTally := of_decide_eq_true zd
  obtain ⟨zd, zc⟩ := Hx.ba zc
  obtain ⟨ze, zf⟩ := List.cons.inj zf
  obtain ⟨_, _, _, _, _, _, _, _, _, _, li_BadTally, ci_BadTally, ⟨_, _, _, ce_BadTally⟩, _, _, _, _, _, _, co_BadTally, vf_BadTally, pf_BadTally⟩ := Hx.init_ok ze zd
  obtain ⟨zd, zc⟩ := Hx.ba zc
  have su_BadTally := of_decide_eq_true zd
  obtain ⟨zd, zc⟩ := Hx.ba zc
  have sv_BadTally := of_decide_eq_true zd
  obtain ⟨zd, zc⟩ := Hx.ba zc
  have mr_BadTally := of_decide_eq_true zd
  obtain ⟨zd, zc⟩ := Hx.ba zc
  have ga_BadTally := of_decide_eq_true zd
  obtain ⟨zd, zc⟩ := Hx.ba zc
  have gg_BadTally := of_decide_eq_true zd
  obtain ⟨zd, zc⟩ := Hx.ba zc
  have hc_BadTally := of_decide_eq_true zd
  obtain ⟨zd, zc⟩ := Hx.ba zc
  have ck_BadTally := of_decide_eq_true zd
  obtain ⟨zd, zc⟩ := Hx.ba zc
  have mo_BadTally := of_decide_eq_true zd
  obtain ⟨zd, zc⟩ := Hx.ba zc
  have aC_BadText := of_decide_eq_true zd
  obtain ⟨zd, zc⟩ := Hx.ba zc
  obtain ⟨_, _, _, _, _, _, _, _, _, _, _, _, _, _, _, xL_BadText, rv_BadText⟩ := Hx.exc_ok zd
  obtain ⟨zd, zc⟩ := Hx.ba zc
  have sa_BadText := of_decide_eq_true zd
  obtain ⟨zd, zc⟩ := Hx.ba zc
  have eC_BadText := of_decide_eq_true zd
  obtain ⟨zd, zc⟩ := Hx.ba zc
  have tC_BadText := of_decide_eq_true zd
  obtain ⟨zd, zc⟩ := Hx.ba zc
  have kC_BadText := of_decide_eq_true zd
  obtain ⟨zd, zc⟩ := Hx.ba zc
  have iC_BadText := of_decide_eq_true zd
  obtain ⟨zd, zc⟩ := Hx.ba zc
  have sC_BadText := of_decide_eq_true zd
  obtain ⟨zd, zc⟩ := Hx.ba zc
  have ai_BadText := of_decide_eq_true zd
  obtain ⟨zd, zc⟩ := Hx.ba zc
  have ti_BadText := of_decide_eq_true zd
  obtain ⟨zd, zc⟩ := Hx.ba zc
  obtain ⟨ze, zf⟩ := List.cons.inj zf
  obtain ⟨_, _, _, _, _, _, _, _, _, _, li_BadText, ci_BadText, ⟨_, _, _, ce_BadText⟩, _, _, _, _, _, _, co_BadText, vf_BadText, pf_BadText⟩ := Hx.init_ok ze zd
  obtain ⟨zd, zc⟩ := Hx.ba zc
  have su_BadText := of_decide_eq_true zd
  obtain ⟨zd, zc⟩ := Hx.ba zc
  have sv_BadText := of_decide_eq_true zd
  obtain ⟨zd, zc⟩ := Hx.ba zc
  have mr_BadText := of_decide_eq_true zd
  obtain ⟨zd, zc⟩ := Hx.ba zc
  have nf_BadText := of_decide_eq_true zd
  obtain ⟨zd, zc⟩ := Hx.ba zc
  have ga_BadText := of_decide_eq_true zd
  obtain ⟨zd, zc⟩ := Hx.ba zc
  have gg_BadText := of_decide_eq_true zd
  obtain ⟨zd, zc⟩ := Hx.ba zc
  have hc_BadText := of_decide_eq_true zd
  obtain ⟨zd, zc⟩ := Hx.ba zc
  have ck_BadText := of_decide_eq_true zd
  obtain ⟨zd, zc⟩ := Hx.ba zc
  have mo_BadText := of_decide_eq_true zd
  obtain ⟨zd, zc⟩ := Hx.ba zc
  have aC_NotSettled := of_decide_eq_true zd
  obtain ⟨zd, zc⟩ := Hx.ba zc
  obtain ⟨_, _, _, _, _, _, _, _, _, _, _, _, _, _, _, xL_NotSettled, rv_NotSettled⟩ := Hx.exc_ok zd
  obtain ⟨zd, zc⟩ := Hx.ba zc
  have sa_NotSettled := of_decide_eq_true zd
  obtain ⟨zd, zc⟩ := Hx.ba zc
  have eC_NotSettled := of_decide_eq_true zd
  obtain ⟨zd, zc⟩ := Hx.ba zc
  have tC_NotSettled := of_decide_eq_true zd
  obtain ⟨zd, zc⟩ := Hx.ba zc
  have kC_NotSettled := of_decide_eq_true zd
  obtain ⟨zd, zc⟩ := Hx.ba zc
  have iC_NotSettled := of_decide_eq_true zd
  obtain ⟨zd, zc⟩ := Hx.ba zc
  have sC_NotSettled := of_decide_eq_true zd
  obtain ⟨zd, zc⟩ := Hx.ba zc
  have ai_NotSettled := of_decide_eq_true zd
  obtain ⟨zd, zc⟩ := Hx.ba zc
  have ti_NotSettled := of_decide_eq_true zd
  obtain ⟨zd, zc⟩ := Hx.ba zc
  obtain ⟨ze, zf⟩ := List.cons.inj zf
  obtain ⟨_, _, _, _, _, _, _, _, _, _, li_NotSettled, ci_NotSettled, ⟨_, _, _, ce_NotSettled⟩, _, _, _, _, _, _, co_NotSettled, vf_NotSettled, pf_NotSettled⟩ := Hx.init_ok ze zd
  obtain ⟨zd, zc⟩ := Hx.ba zc
  have su_NotSettled := of_decide_eq_true zd
  obtain ⟨zd, zc⟩ := Hx.ba zc
  have sv_NotSettled := of_decide_eq_true zd
  obtain ⟨zd, zc⟩ := Hx.ba zc
  have mr_NotSettled := of_decide_eq_true zd
  obtain ⟨zd, zc⟩ := Hx.ba zc
  have nf_NotSettled := of_decide_eq_true zd
  obtain ⟨zd, zc⟩ := Hx.ba zc
  have ga_NotSettled := of_decide_eq_true zd
  obtain ⟨zd, zc⟩ := Hx.ba zc
  have gg_NotSettled := of_decide_eq_true zd
  obtain ⟨zd, zc⟩ := Hx.ba zc
  have hc_NotSettled := of_decide_eq_true zd
  obtain ⟨zd, zc⟩ := Hx.ba zc
  have ck_NotSettled := of_decide_eq_true zd
  obtain ⟨zd, zc⟩ := Hx.ba zc
  have mo_NotSettled := of_decide_eq_true zd
  obtain ⟨zd, zc⟩ := Hx.ba zc
  have aC_TooMany := of_decide_eq_true zd
  obtain ⟨zd, zc⟩ := Hx.ba zc
  obtain ⟨_, _, _, _, _, _, _, _, _, _, _, _, _, _, _, xL_TooMany, rv_TooMany⟩ := Hx.exc_ok zd
  obtain ⟨zd, zc⟩ := Hx.ba zc
  have sa_TooMany := of_decide_eq_true zd
  obtain ⟨zd, zc⟩ := Hx.ba zc
  have eC_TooMany := of_decide_eq_true zd
  obtain ⟨zd, zc⟩ := Hx.ba zc
  have tC_TooMany := of_decide_eq_true zd
  obtain ⟨zd, zc⟩ := Hx.ba zc
  have kC_TooMany := of_decide_eq_true zd
  obtain ⟨zd, zc⟩ := Hx.ba zc
  have iC_TooMany := of_decide_eq_true zd
  obtain ⟨zd, zc⟩ := Hx.ba zc
  have sC_TooMany := of_decide_eq_true zd
  obtain ⟨zd, zc⟩ := Hx.ba zc
  have ai_TooMany := of_decide_eq_true zd
  obtain ⟨zd, zc⟩ := Hx.ba zc
  have ti_TooMany := of_decide_eq_true zd
  obtain ⟨zd, zc⟩ := Hx.ba zc
  obtain ⟨ze, zf⟩ := List.cons.inj zf
  obtain ⟨_, _, _, _, _, _, _, _, _, _, li_TooMany, ci_TooMany, ⟨_, _, _, ce_TooMany⟩, _, _, _, _, _, _, co_TooMany, vf_TooMany, pf_TooMany⟩ := Hx.init_ok ze zd
  obtain ⟨zd, zc⟩ := Hx.ba zc
  have su_TooMany := of_decide_eq_true zd
  obtain ⟨zd, zc⟩ := Hx.ba zc
  have sv_TooMany := of_decide_eq_true zd
  obtain ⟨zd, zc⟩ := Hx.ba zc
  have mr_TooMany := of_decide_eq_true zd
  obtain ⟨zd, zc⟩ := Hx.ba zc
  have nf_TooMany := of_decide_eq_true zd
  obtain ⟨zd, zc⟩ := Hx.ba zc
  have ga_TooMany := of_decide_eq_true zd
  obtain ⟨zd, zc⟩ := Hx.ba zc
  have gg_TooMany := of_decide_eq_true zd
  obtain ⟨zd, zc⟩ := Hx.ba zc
  have hc_TooMany := of_decide_eq_true zd
  obtain ⟨zd, zc⟩ := Hx.ba zc
  have ck_TooMany := of_decide_eq_true zd
  obtain ⟨zd, zc⟩ := Hx.ba zc
  have mo_TooMany := of_decide_eq_true zd
  obtain ⟨zd, zc⟩ := Hx.ba zc
  have aC_Unbounded := of_decide_eq_true zd
  obtain ⟨zd, zc⟩ := Hx.ba zc
  obtain ⟨_, _, _, _, _, _, _, _, _, _, _, _, _, _, _, xL_Unbounded, rv_Unbounded⟩ := Hx.exc_ok zd
  obtain ⟨zd, zc⟩ := Hx.ba zc
  have sa_Unbounded := of_decide_eq_true zd
  obtain ⟨zd, zc⟩ := Hx.ba zc
  have eC_Unbounded := of_decide_eq_true zd
  obtain ⟨zd, zc⟩ := Hx.ba zc
  have tC_Unbounded := of_decide_eq_true zd
  obtain ⟨zd, zc⟩ := Hx.ba zc
  have kC_Unbounded := of_decide_eq_true zd
  obtain ⟨zd, zc⟩ := Hx.ba zc
  have iC_Unbounded := of_decide_eq_true zd
  obtain ⟨zd, zc⟩ := Hx.ba zc
  have sC_Unbounded := of_decide_eq_true zd
  obtain ⟨zd, zc⟩ := Hx.ba zc
  have ai_Unbounded := of_decide_eq_true zd
  obtain ⟨zd, zc⟩ := Hx.ba zc
  have ti_Unbounded := of_decide_eq_true zd
  obtain ⟨zd, zc⟩ := Hx.ba zc
  obtain ⟨ze, zf⟩ := List.cons.inj zf
  obtain ⟨_, _, _, _, _, _, _, _, _, _, li_Unbounded, ci_Unbounded, ⟨_, _, _, ce_Unbounded⟩, _, _, _, _, _, _, co_Unbounded, vf_Unbounded, pf_Unbounded⟩ := Hx.init_ok ze zd
  obtain ⟨zd, zc⟩ := Hx.ba zc
  have su_Unbounded := of_decide_eq_true zd
  obtain ⟨zd, zc⟩ := Hx.ba zc
  have sv_Unbounded := of_decide_eq_true zd
  obtain ⟨zd, zc⟩ := Hx.ba zc
  have mr_Unbounded := of_decide_eq_true zd
  obtain ⟨zd, zc⟩ := Hx.ba zc
  have ga_Unbounded := of_decide_eq_true zd
  obtain ⟨zd, zc⟩ := Hx.ba zc
  have gg_Unbounded := of_decide_eq_true zd
  obtain ⟨zd, zc⟩ := Hx.ba zc
  have hc_Unbounded := of_decide_eq_true zd
  obtain ⟨zd, zc⟩ := Hx.ba zc
  have ck_Unbounded := of_decide_eq_true zd
  obtain ⟨zd, zc⟩ := Hx.ba zc
  have mo_Unbounded := of_decide_eq_true zd
  obtain ⟨zd, zc⟩ := Hx.ba zc
  have aC_UnknownArrow := of_decide_eq_true zd
  obtain ⟨zd, zc⟩ := Hx.ba zc
  obtain ⟨_, _, _, _, _, _, _, _, _, _, _, _, _, _, _, xL_UnknownArrow, rv_UnknownArrow⟩ := Hx.exc_ok zd
  obtain ⟨zd, zc⟩ := Hx.ba zc
  have sa_UnknownArrow := of_decide_eq_true zd
  obtain ⟨zd, zc⟩ := Hx.ba zc
  have eC_UnknownArrow := of_decide_eq_true zd
  obtain ⟨zd, zc⟩ := Hx.ba zc
  have tC_UnknownArrow := of_decide_eq_true zd
  obtain ⟨zd, zc⟩ := Hx.ba zc
  have kC_UnknownArrow := of_decide_eq_true zd
  obtain ⟨zd, zc⟩ := Hx.ba zc
  have iC_UnknownArrow := of_decide_eq_true zd
  obtain ⟨zd, zc⟩ := Hx.ba zc
  have sC_UnknownArrow := of_decide_eq_true zd
  obtain ⟨zd, zc⟩ := Hx.ba zc
  have ai_UnknownArrow := of_decide_eq_true zd
  obtain ⟨zd, zc⟩ := Hx.ba zc
  have ti_UnknownArrow := of_decide_eq_true zd
  obtain ⟨zd, zc⟩ := Hx.ba zc
  obtain ⟨ze, zf⟩ := List.cons.inj zf
  obtain ⟨_, _, _, _, _, _, _, _, _, _, li_UnknownArrow, ci_UnknownArrow, ⟨_, _, _, ce_UnknownArrow⟩, _, _, _, _, _, _, co_UnknownArrow, vf_UnknownArrow, pf_UnknownArrow⟩ := Hx.init_ok ze zd
  obtain ⟨zd, zc⟩ := Hx.ba zc
  have su_UnknownArrow := of_decide_eq_true zd
  obtain ⟨zd, zc⟩ := Hx.ba zc
  have sv_UnknownArrow := of_decide_eq_true zd
  obtain ⟨zd, zc⟩ := Hx.ba zc
  have mr_UnknownArrow := of_decide_eq_true zd
  obtain ⟨zd, zc⟩ := Hx.ba zc
  have nf_UnknownArrow := of_decide_eq_true zd
  obtain ⟨zd, zc⟩ := Hx.ba zc
  have ga_UnknownArrow := of_decide_eq_true zd
  obtain ⟨zd, zc⟩ := Hx.ba zc
  have gg_UnknownArrow := of_decide_eq_true zd
  obtain ⟨zd, zc⟩ := Hx.ba zc
  have hc_UnknownArrow := of_decide_eq_true zd
  obtain ⟨zd, zc⟩ := Hx.ba zc
  have ck_UnknownArrow := of_decide_eq_true zd
  obtain ⟨zd, zc⟩ := Hx.ba zc
  have mo_UnknownArrow := of_decide_eq_true zd
  obtain ⟨zd, zc⟩ := Hx.ba zc
  have aC_UnknownState := of_decide_eq_true zd
  obtain ⟨zd, zc⟩ := Hx.ba zc
  obtain ⟨_, _, _, _, _, _, _, _, _, _, _, _, _, _, _, xL_UnknownState, rv_UnknownState⟩ := Hx.exc_ok zd
  obtain ⟨zd, zc⟩ := Hx.ba zc
  have sa_UnknownState := of_decide_eq_true zd
  obtain ⟨zd, zc⟩ := Hx.ba zc
  have eC_UnknownState := of_decide_eq_true zd
  obtain ⟨zd, zc⟩ := Hx.ba zc
  have tC_UnknownState := of_decide_eq_true zd
  obtain ⟨zd, zc⟩ := Hx.ba zc
  have kC_UnknownState := of_decide_eq_true zd
  obtain ⟨zd, zc⟩ := Hx.ba zc
  have iC_UnknownState := of_decide_eq_true zd
  obtain ⟨zd, zc⟩ := Hx.ba zc
  have sC_UnknownState := of_decide_eq_true zd
  obtain ⟨zd, zc⟩ := Hx.ba zc
  have ai_UnknownState := of_decide_eq_true zd
  obtain ⟨zd, zc⟩ := Hx.ba zc
  have ti_UnknownState := of_decide_eq_true zd
  obtain ⟨zd, zc⟩ := Hx.ba zc
  obtain ⟨ze, zf⟩ := List.cons.inj zf
  obtain ⟨_, _, _, _, _, _, _, _, _, _, li_UnknownState, ci_UnknownState, ⟨_, _, _, ce_UnknownState⟩, _, _, _, _, _, _, co_UnknownState, vf_UnknownState, pf_UnknownState⟩ := Hx.init_ok ze zd
  obtain ⟨zd, zc⟩ := Hx.ba zc
  have su_UnknownState := of_decide_eq_true zd
  obtain ⟨zd, zc⟩ := Hx.ba zc
  have sv_UnknownState := of_decide_eq_true zd
  obtain ⟨zd, zc⟩ := Hx.ba zc
  have mr_UnknownState := of_decide_eq_true zd
  obtain ⟨zd, zc⟩ := Hx.ba zc
  have nf_UnknownState := of_decide_eq_true zd
  obtain ⟨zd, zc⟩ := Hx.ba zc
  have ga_UnknownState := of_decide_eq_true zd
  obtain ⟨zd, zc⟩ := Hx.ba zc
  have gg_UnknownState := of_decide_eq_true zd
  obtain ⟨zd, zc⟩ := Hx.ba zc
  have hc_UnknownState := of_decide_eq_true zd
  obtain ⟨zd, zc⟩ := Hx.ba zc
  have ck_UnknownState := of_decide_eq_true zd
  obtain ⟨zd, zc⟩ := Hx.ba zc
  have mo_UnknownState := of_decide_eq_true zd
  obtain ⟨zd, zc⟩ := Hx.ba zc
  have sb_BadArrow_BadExpression := of_decide_eq_true zd
  obtain ⟨zd, zc⟩ := Hx.ba zc
  have sb_BadArrow_BadNumber := of_decide_eq_true zd
  obtain ⟨zd, zc⟩ := Hx.ba zc
  have sb_BadArrow_BadRow := of_decide_eq_true zd
  obtain ⟨zd, zc⟩ := Hx.ba zc
  have sb_BadArrow_BadState := of_decide_eq_true zd
  obtain ⟨zd, zc⟩ := Hx.ba zc
  have sb_BadArrow_BadTally := of_decide_eq_true zd
  obtain ⟨zd, zc⟩ := Hx.ba zc
  have sb_BadArrow_BadText := of_decide_eq_true zd
  obtain ⟨zd, zc⟩ := Hx.ba zc
  have sb_BadArrow_NotSettled := of_decide_eq_true zd
  obtain ⟨zd, zc⟩ := Hx.ba zc
  have sb_BadArrow_TooMany := of_decide_eq_true zd
  obtain ⟨zd, zc⟩ := Hx.ba zc
  have sb_BadArrow_Unbounded := of_decide_eq_true zd
  obtain ⟨zd, zc⟩ := Hx.ba zc
  have sb_BadArrow_UnknownArrow := of_decide_eq_true zd
  obtain ⟨zd, zc⟩ := Hx.ba zc
  have sb_BadArrow_UnknownState := of_decide_eq_true zd
  obtain ⟨zd, zc⟩ := Hx.ba zc
  have sb_BadExpression_BadArrow := of_decide_eq_true zd
  obtain ⟨zd, zc⟩ := Hx.ba zc
  have sb_BadExpression_BadNumber := of_decide_eq_true zd
  obtain ⟨zd, zc⟩ := Hx.ba zc
  have sb_BadExpression_BadRow := of_decide_eq_true zd
  obtain ⟨zd, zc⟩ := Hx.ba zc
  have sb_BadExpression_BadState := of_decide_eq_true zd
  obtain ⟨zd, zc⟩ := Hx.ba zc
  have sb_BadExpression_BadTally := of_decide_eq_true zd
  obtain ⟨zd, zc⟩ := Hx.ba zc
  have sb_BadExpression_BadText := of_decide_eq_true zd
  obtain ⟨zd, zc⟩ := Hx.ba zc
  have sb_BadExpression_NotSettled := of_decide_eq_true zd
  obtain ⟨zd, zc⟩ := Hx.ba zc
  have sb_BadExpression_TooMany := of_decide_eq_true zd
  obtain ⟨zd, zc⟩ := Hx.ba zc
  have sb_BadExpression_Unbounded := of_decide_eq_true zd
  obtain ⟨zd, zc⟩ := Hx.ba zc
  have sb_BadExpression_UnknownArrow := of_decide_eq_true zd
  obtain ⟨zd, zc⟩ := Hx.ba zc
  have sb_BadExpression_UnknownState := of_decide_eq_true zd
  obtain ⟨zd, zc⟩ := Hx.ba zc
  have sb_BadNumber_BadArrow := of_decide_eq_true zd
  obtain ⟨zd, zc⟩ := Hx.ba zc
  have sb_BadNumber_BadExpression := of_decide_eq_true zd
  obtain ⟨zd, zc⟩ := Hx.ba zc
  have sb_BadNumber_BadRow := of_decide_eq_true zd
  obtain ⟨zd, zc⟩ := Hx.ba zc
  have sb_BadNumber_BadState := of_decide_eq_true zd
  obtain ⟨zd, zc⟩ := Hx.ba zc
  have sb_BadNumber_BadTally := of_decide_eq_true zd
  obtain ⟨zd, zc⟩ := Hx.ba zc
  have sb_BadNumber_BadText := of_decide_eq_true zd
  obtain ⟨zd, zc⟩ := Hx.ba zc
  have sb_BadNumber_NotSettled := of_decide_eq_true zd
  obtain ⟨zd, zc⟩ := Hx.ba zc
  have sb_BadNumber_TooMany := of_decide_eq_true zd
  obtain ⟨zd, zc⟩ := Hx.ba zc
  have sb_BadNumber_Unbounded := of_decide_eq_true zd
  obtain ⟨zd, zc⟩ := Hx.ba zc
  have sb_BadNumber_UnknownArrow := of_decide_eq_true zd
  obtain ⟨zd, zc⟩ := Hx.ba zc
  have sb_BadNumber_UnknownState := of_decide_eq_true zd
  obtain ⟨zd, zc⟩ := Hx.ba zc
  have sb_BadRow_BadArrow := of_decide_eq_true zd
  obtain ⟨zd, zc⟩ := Hx.ba zc
  have sb_BadRow_BadExpression := of_decide_eq_true zd
  obtain ⟨zd, zc⟩ := Hx.ba zc
  have sb_BadRow_BadNumber := of_decide_eq_true zd
  obtain ⟨zd, zc⟩ := Hx.ba zc
  have sb_BadRow_BadState := of_decide_eq_true zd
  obtain ⟨zd, zc⟩ := Hx.ba zc
  have sb_BadRow_BadTally := of_decide_eq_true zd
  obtain ⟨zd, zc⟩ := Hx.ba zc
  have sb_BadRow_BadText := of_decide_eq_true zd
  obtain ⟨zd, zc⟩ := Hx.ba zc
  have sb_BadRow_NotSettled := of_decide_eq_true zd
  obtain ⟨zd, zc⟩ := Hx.ba zc
  have sb_BadRow_TooMany := of_decide_eq_true zd
  obtain ⟨zd, zc⟩ := Hx.ba zc
  have sb_BadRow_Unbounded := of_decide_eq_true zd
  obtain ⟨zd, zc⟩ := Hx.ba zc
  have sb_BadRow_UnknownArrow := of_decide_eq_true zd
  obtain ⟨zd, zc⟩ := Hx.ba zc
  have sb_BadRow_UnknownState := of_decide_eq_true zd
  obtain ⟨zd, zc⟩ := Hx.ba zc
  have sb_BadState_BadArrow := of_decide_eq_true zd
  obtain ⟨zd, zc⟩ := Hx.ba zc
  have sb_BadState_BadExpression := of_decide_eq_true zd
  obtain ⟨zd, zc⟩ := Hx.ba zc
  have sb_BadState_BadNumber := of_decide_eq_true zd
  obtain ⟨zd, zc⟩ := Hx.ba zc
  have sb_BadState_BadRow := of_decide_eq_true zd
  obtain ⟨zd, zc⟩ := Hx.ba zc
  have sb_BadState_BadTally := of_decide_eq_true zd
  obtain ⟨zd, zc⟩ := Hx.ba zc
  have sb_BadState_BadText := of_decide_eq_true zd
  obtain ⟨zd, zc⟩ := Hx.ba zc
  have sb_BadState_NotSettled := of_decide_eq_true zd
  obtain ⟨zd, zc⟩ := Hx.ba zc
  have sb_BadState_TooMany := of_decide_eq_true zd
  obtain ⟨zd, zc⟩ := Hx.ba zc
  have sb_BadState_Unbounded := of_decide_eq_true zd
  obtain ⟨zd, zc⟩ := Hx.ba zc
  have sb_BadState_UnknownArrow := of_decide_eq_true zd
  obtain ⟨zd, zc⟩ := Hx.ba zc
  have sb_BadState_UnknownState := of_decide_eq_true zd
  obtain ⟨zd, zc⟩ := Hx.ba zc
  have sb_BadTally_BadArrow := of_decide_eq_true zd
  obtain ⟨zd, zc⟩ := Hx.ba zc
  have sb_BadTally_BadExpression := of_decide_eq_true zd
  obtain ⟨zd, zc⟩ := Hx.ba zc
  have sb_BadTally_BadNumber := of_decide_eq_true zd
  obtain ⟨zd, zc⟩ := Hx.ba zc
  have sb_BadTally_BadRow := of_decide_eq_true zd
  obtain ⟨zd, zc⟩ := Hx.ba zc
  have sb_BadTally_BadState := of_decide_eq_true zd
  obtain ⟨zd, zc⟩ := Hx.ba zc
  have sb_BadTally_BadText := of_decide_eq_true zd
  obtain ⟨zd, zc⟩ := Hx.ba zc
  have sb_BadTally_NotSettled := of_decide_eq_true zd
  obtain ⟨zd, zc⟩ := Hx.ba zc
  have sb_BadTally_TooMany := of_decide_eq_true zd
  obtain ⟨zd, zc⟩ := Hx.ba zc
  have sb_BadTally_Unbounded := of_decide_eq_true zd
  obtain ⟨zd, zc⟩ := Hx.ba zc
  have sb_BadTally_UnknownArrow := of_decide_eq_true zd
  obtain ⟨zd, zc⟩ := Hx.ba zc
  have sb_BadTally_UnknownState := of_decide_eq_true zd
  obtain ⟨zd, zc⟩ := Hx.ba zc
  have sb_BadText_BadArrow := of_decide_eq_true zd
  obtain ⟨zd, zc⟩ := Hx.ba zc
  have sb_BadText_BadExpression := of_decide_eq_true zd
  obtain ⟨zd, zc⟩ := Hx.ba zc
  have sb_BadText_BadNumber := of_decide_eq_true zd
  obtain ⟨zd, zc⟩ := Hx.ba zc
  have sb_BadText_BadRow := of_decide_eq_true zd
  obtain ⟨zd, zc⟩ := Hx.ba zc
  have sb_BadText_BadState := of_decide_eq_true zd
  obtain ⟨zd, zc⟩ := Hx.ba zc
  have sb_BadText_BadTally := of_decide_eq_true zd
  obtain ⟨zd, zc⟩ := Hx.ba zc
  have sb_BadText_NotSettled := of_decide_eq_true zd
  obtain ⟨zd, zc⟩ := Hx.ba zc
  have sb_BadText_TooMany := of_decide_eq_true zd
  obtain ⟨zd, zc⟩ := Hx.ba zc
  have sb_BadText_Unbounded := of_decide_eq_true zd
  obtain ⟨zd, zc⟩ := Hx.ba zc
  have sb_BadText_UnknownArrow := of_decide_eq_true zd
  obtain ⟨zd, zc⟩ := Hx.ba zc
  have sb_BadText_UnknownState := of_decide_eq_true zd
  obtain ⟨zd, zc⟩ := Hx.ba zc
  have sb_NotSettled_BadArrow := of_decide_eq_true zd
  obtain ⟨zd, zc⟩ := Hx.ba zc
  have sb_NotSettled_BadExpression := of_decide_eq_true zd
  obtain ⟨zd, zc⟩ := Hx.ba zc
  have sb_NotSettled_BadNumber := of_decide_eq_true zd
  obtain ⟨zd, zc⟩ := Hx.ba zc
  have sb_NotSettled_BadRow := of_decide_eq_true zd
  obtain ⟨zd, zc⟩ := Hx.ba zc
  have sb_NotSettled_BadState := of_decide_eq_true zd
  obtain ⟨zd, zc⟩ := Hx.ba zc
  have sb_NotSettled_BadTally := of_decide_eq_true zd
  obtain ⟨zd, zc⟩ := Hx.ba zc
  have sb_NotSettled_BadText := of_decide_eq_true zd
  obtain ⟨zd, zc⟩ := Hx.ba zc
  have sb_NotSettled_TooMany := of_decide_eq_true zd
  obtain ⟨zd, zc⟩ := Hx.ba zc
  have sb_NotSettled_Unbounded := of_decide_eq_true zd
  obtain ⟨zd, zc⟩ := Hx.ba zc
  have sb_NotSettled_UnknownArrow := of_decide_eq_true zd
  obtain ⟨zd, zc⟩ := Hx.ba zc
  have sb_NotSettled_UnknownState := of_decide_eq_true zd
  obtain ⟨zd, zc⟩ := Hx.ba zc
  have sb_TooMany_BadArrow := of_decide_eq_true zd
  obtain ⟨zd, zc⟩ := Hx.ba zc
  have sb_TooMany_BadExpression := of_decide_eq_true zd
  obtain ⟨zd, zc⟩ := Hx.ba zc
  have sb_TooMany_BadNumber := of_decide_eq_true zd
  obtain ⟨zd, zc⟩ := Hx.ba zc
  have sb_TooMany_BadRow := of_decide_eq_true zd
  obtain ⟨zd, zc⟩ := Hx.ba zc
  have sb_TooMany_BadState := of_decide_eq_true zd
  obtain ⟨zd, zc⟩ := Hx.ba zc
  have sb_TooMany_BadTally := of_decide_eq_true zd
  obtain ⟨zd, zc⟩ := Hx.ba zc
  have sb_TooMany_BadText := of_decide_eq_true zd
  obtain ⟨zd, zc⟩ := Hx.ba zc
  have sb_TooMany_NotSettled := of_decide_eq_true zd
  obtain ⟨zd, zc⟩ := Hx.ba zc
  have sb_TooMany_Unbounded := of_decide_eq_true zd
  obtain ⟨zd, zc⟩ := Hx.ba zc
  have sb_TooMany_UnknownArrow := of_decide_eq_true zd
  obtain ⟨zd, zc⟩ := Hx.ba zc
  have sb_TooMany_UnknownState := of_decide_eq_true zd
  obtain ⟨zd, zc⟩ := Hx.ba zc
  have sb_Unbounded_BadArrow := of_decide_eq_true zd
  obtain ⟨zd, zc⟩ := Hx.ba zc
  have sb_Unbounded_BadExpression := of_decide_eq_true zd
  obtain ⟨zd, zc⟩ := Hx.ba zc
  have sb_Unbounded_BadNumber := of_decide_eq_true zd
  obtain ⟨zd, zc⟩ := Hx.ba zc
  have sb_Unbounded_BadRow := of_decide_eq_true zd
  obtain ⟨zd, zc⟩ := Hx.ba zc
  have sb_Unbounded_BadState := of_decide_eq_true zd
  obtain ⟨zd, zc⟩ := Hx.ba zc
  have sb_Unbounded_BadTally := of_decide_eq_true zd
  obtain ⟨zd, zc⟩ := Hx.ba zc
  have sb_Unbounded_BadText := of_decide_eq_true zd
  obtain ⟨zd, zc⟩ := Hx.ba zc
  have sb_Unbounded_NotSettled := of_decide_eq_true zd
  obtain ⟨zd, zc⟩ := Hx.ba zc
  have sb_Unbounded_TooMany := of_decide_eq_true zd
  obtain ⟨zd, zc⟩ := Hx.ba zc
  have sb_Unbounded_UnknownArrow := of_decide_eq_true zd
  obtain ⟨zd, zc⟩ := Hx.ba zc
  have sb_Unbounded_UnknownState := of_decide_eq_true zd
  obtain ⟨zd, zc⟩ := Hx.ba zc
  have sb_UnknownArrow_BadArrow := of_decide_eq_true zd
  obtain ⟨zd, zc⟩ := Hx.ba zc
  have sb_UnknownArrow_BadExpression := of_decide_eq_true zd
  obtain ⟨zd, zc⟩ := Hx.ba zc
  have sb_UnknownArrow_BadNumber := of_decide_eq_true zd
  obtain ⟨zd, zc⟩ := Hx.ba zc
  have sb_UnknownArrow_BadRow := of_decide_eq_true zd
  obtain ⟨zd, zc⟩ := Hx.ba zc
  have sb_UnknownArrow_BadState := of_decide_eq_true zd
  obtain ⟨zd, zc⟩ := Hx.ba zc
  have sb_UnknownArrow_BadTally := of_decide_eq_true zd
  obtain ⟨zd, zc⟩ := Hx.ba zc
  have sb_UnknownArrow_BadText := of_decide_eq_true zd
  obtain ⟨zd, zc⟩ := Hx.ba zc
  have sb_UnknownArrow_NotSettled := of_decide_eq_true zd
  obtain ⟨zd, zc⟩ := Hx.ba zc
  have sb_UnknownArrow_TooMany := of_decide_eq_true zd
  obtain ⟨zd, zc⟩ := Hx.ba zc
  have sb_UnknownArrow_Unbounded := of_decide_eq_true zd
  obtain ⟨zd, zc⟩ := Hx.ba zc
  have sb_UnknownArrow_UnknownState := of_decide_eq_true zd
  obtain ⟨zd, zc⟩ := Hx.ba zc
  have sb_UnknownState_BadArrow := of_decide_eq_true zd
  obtain ⟨zd, zc⟩ := Hx.ba zc
  have sb_UnknownState_BadExpression := of_decide_eq_true zd
  obtain ⟨zd, zc⟩ := Hx.ba zc
  have sb_UnknownState_BadNumber := of_decide_eq_true zd
  obtain ⟨zd, zc⟩ := Hx.ba zc
  have sb_UnknownState_BadRow := of_decide_eq_true zd
  obtain ⟨zd, zc⟩ := Hx.ba zc
  have sb_UnknownState_BadState := of_decide_eq_true zd
  obtain ⟨zd, zc⟩ := Hx.ba zc
  have sb_UnknownState_BadTally := of_decide_eq_true zd
  obtain ⟨zd, zc⟩ := Hx.ba zc
  have sb_UnknownState_BadText := of_decide_eq_true zd
  obtain ⟨zd, zc⟩ := Hx.ba zc
  have sb_UnknownState_NotSettled := of_decide_eq_true zd
  obtain ⟨zd, zc⟩ := Hx.ba zc
  have sb_UnknownState_TooMany := of_decide_eq_true zd
  obtain ⟨zd, zc⟩ := Hx.ba zc
  have sb_UnknownState_Unbounded := of_decide_eq_true zd
  obtain ⟨zd, zc⟩ := Hx.ba zc
  have sb_UnknownState_UnknownArrow := of_decide_eq_true zd
  obtain ⟨zd, zc⟩ := Hx.ba zc
  have z_super := of_decide_eq_true zd
  obtain ⟨zd, zc⟩ := Hx.ba zc
  have opq := of_decide_eq_true zd
  have top : (PySem.Challenge.rw_enoughpaid_k27_errors_made.prog.main.scope.names.lookup ("super" : Str)).isSome = false := by first | rfl | decide +kernel
  obtain ⟨zd, zc⟩ := Hx.ba zc
  have a0 := of_decide_eq_true zd
  obtain ⟨zd, zc⟩ := Hx.ba zc
  obtain ⟨ze, zf⟩ := List.cons.inj zf
  obtain ⟨_, _, _, _, _, _, _, _, _, l0, c0⟩ := Hx.fn_ok ze zd
  obtain ⟨zd, zc⟩ := Hx.ba zc
  have k0 := of_decide_eq_true zd
  obtain ⟨zd, zc⟩ := Hx.ba zc
  have a1 := of_decide_eq_true zd
  obtain ⟨zd, zc⟩ := Hx.ba zc
  obtain ⟨ze, zf⟩ := List.cons.inj zf
  obtain ⟨_, _, _, _, _, _, _, _, _, l1, c1⟩ := Hx.fn_ok ze zd
  obtain ⟨zd, zc⟩ := Hx.ba zc
  have k1 := of_decide_eq_true zd
  obtain ⟨zd, zc⟩ := Hx.ba zc
  have a2 := of_decide_eq_true zd
  obtain ⟨zd, zc⟩ := Hx.ba zc
  obtain ⟨ze, zf⟩ := List.cons.inj zf
  obtain ⟨_, _, _, _, _, _, _, _, _, l2, c2⟩ := Hx.fn_ok ze zd
  obtain ⟨zd, zc⟩ := Hx.ba zc
  have k2 := of_decide_eq_true zd
  obtain ⟨zd, zc⟩ := Hx.ba zc
  have a3 := of_decide_eq_true zd
  obtain ⟨zd, zc⟩ := Hx.ba zc
  obtain ⟨ze, zf⟩ := List.cons.inj zf
  obtain ⟨_, _, _, _, _, _, _, _, _, l3, c3⟩ := Hx.fn_ok ze zd
  obtain ⟨zd, zc⟩ := Hx.ba zc
  have k3 := of_decide_eq_true zd
  obtain ⟨zd, zc⟩ := Hx.ba zc
  have a4 := of_decide_eq_true zd
  obtain ⟨zd, zc⟩ := Hx.ba zc
  obtain ⟨ze, zf⟩ := List.cons.inj zf
  obtain ⟨_, _, _, _, _, _, _, _, _, l4, c4⟩ := Hx.fn_ok ze zd
  obtain ⟨zd, zc⟩ := Hx.ba zc
  have k4 := of_decide_eq_true zd
  obtain ⟨zd, zc⟩ := Hx.ba zc
  have a5 := of_decide_eq_true zd
  obtain ⟨zd, zc⟩ := Hx.ba zc
  obtain ⟨ze, zf⟩ := List.cons.inj zf
  obtain ⟨_, _, _, _, _, _, _, _, _, l5, c5⟩ := Hx.fn_ok ze zd
  obtain ⟨zd, zc⟩ := Hx.ba zc
  have k5 := of_decide_eq_true zd
  obtain ⟨zd, zc⟩ := Hx.ba zc
  have a6 := of_decide_eq_true zd
  obtain ⟨zd, zc⟩ := Hx.ba zc
  obtain ⟨ze, zf⟩ := List.cons.inj zf
  obtain ⟨_, _, _, _, _, _, _, _, _, l6, c6⟩ := Hx.fn_ok ze zd
  obtain ⟨zd, zc⟩ := Hx.ba zc
  have k6 := of_decide_eq_true zd
  obtain ⟨zd, zc⟩ := Hx.ba zc
  have z_ValueError := of_decide_eq_true zd
  obtain ⟨zd, zc⟩ := Hx.ba zc
  have z_int := of_decide_eq_true zd
  obtain ⟨zd, zc⟩ := Hx.ba zc
  have z_isinstance := of_decide_eq_true zd
  obtain ⟨zd, zc⟩ := Hx.ba zc
  have z_len := of_decide_eq_true zd
  obtain ⟨zd, zc⟩ := Hx.ba zc
  have z_range := of_decide_eq_true zd
  exact all_mk (l := PySem.Challenge.rw_enoughpaid_k27_errors_made) X G0 hfa aC_PaidError eC_PaidError tC_PaidError iC_PaidError sp_exc tk_exc sp_BadArrow sp_BadExpression sp_BadNumber sp_BadRow sp_BadState sp_BadTally sp_BadText sp_NotSettled sp_TooMany sp_Unbounded sp_UnknownArrow sp_UnknownState aC_BadArrow xL_BadArrow rv_BadArrow sa_BadArrow eC_BadArrow tC_BadArrow kC_BadArrow iC_BadArrow sC_BadArrow ai_BadArrow ti_BadArrow li_BadArrow ci_BadArrow ce_BadArrow co_BadArrow vf_BadArrow pf_BadArrow su_BadArrow sv_BadArrow mr_BadArrow nf_BadArrow ga_BadArrow gg_BadArrow hc_BadArrow ck_BadArrow mo_BadArrow aC_BadExpression xL_BadExpression rv_BadExpression sa_BadExpression eC_BadExpression tC_BadExpression kC_BadExpression iC_BadExpression sC_BadExpression ai_BadExpression ti_BadExpression li_BadExpression ci_BadExpression ce_BadExpression co_BadExpression vf_BadExpression pf_BadExpression su_BadExpression sv_BadExpression mr_BadExpression nf_BadExpression ga_BadExpression gg_BadExpression hc_BadExpression ck_BadExpression mo_BadExpression aC_BadNumber xL_BadNumber rv_BadNumber sa_BadNumber eC_BadNumber tC_BadNumber kC_BadNumber iC_BadNumber sC_BadNumber ai_BadNumber ti_BadNumber li_BadNumber ci_BadNumber ce_BadNumber co_BadNumber vf_BadNumber pf_BadNumber su_BadNumber sv_BadNumber mr_BadNumber nf_BadNumber ga_BadNumber gg_BadNumber hc_BadNumber ck_BadNumber mo_BadNumber aC_BadRow xL_BadRow rv_BadRow sa_BadRow eC_BadRow tC_BadRow kC_BadRow iC_BadRow sC_BadRow ai_BadRow ti_BadRow li_BadRow ci_BadRow ce_BadRow co_BadRow vf_BadRow pf_BadRow su_BadRow sv_BadRow mr_BadRow nf_BadRow ga_BadRow gg_BadRow hc_BadRow ck_BadRow mo_BadRow aC_BadState xL_BadState rv_BadState sa_BadState eC_BadState tC_BadState kC_BadState iC_BadState sC_BadState ai_BadState ti_BadState li_BadState ci_BadState ce_BadState co_BadState vf_BadState pf_BadState su_BadState sv_BadState mr_BadState nf_BadState ga_BadState gg_BadState hc_BadState ck_BadState mo_BadState aC_BadTally xL_BadTally rv_BadTally sa_BadTally eC_BadTally tC_BadTally kC_BadTally iC_BadTally sC_BadTally ai_BadTally ti_BadTally li_BadTally ci_BadTally ce_BadTally co_BadTally vf_BadTally pf_BadTally su_BadTally sv_BadTally mr_BadTally ga_BadTally gg_BadTally hc_BadTally ck_BadTally mo_BadTally aC_BadText xL_BadText rv_BadText sa_BadText eC_BadText tC_BadText kC_BadText iC_BadText sC_BadText ai_BadText ti_BadText li_BadText ci_BadText ce_BadText co_BadText vf_BadText pf_BadText su_BadText sv_BadText mr_BadText nf_BadText ga_BadText gg_BadText hc_BadText ck_BadText mo_BadText aC_NotSettled xL_NotSettled rv_NotSettled sa_NotSettled eC_NotSettled tC_NotSettled kC_NotSettled iC_NotSettled sC_NotSettled ai_NotSettled ti_NotSettled li_NotSettled ci_NotSettled ce_NotSettled co_NotSettled vf_NotSettled pf_NotSettled su_NotSettled sv_NotSettled mr_NotSettled nf_NotSettled ga_NotSettled gg_NotSettled hc_NotSettled ck_NotSettled mo_NotSettled aC_TooMany xL_TooMany rv_TooMany sa_TooMany eC_TooMany tC_TooMany kC_TooMany iC_TooMany sC_TooMany ai_TooMany ti_TooMany li_TooMany ci_TooMany ce_TooMany co_TooMany vf_TooMany pf_TooMany su_TooMany sv_TooMany mr_TooMany nf_TooMany ga_TooMany gg_TooMany hc_TooMany ck_TooMany mo_TooMany aC_Unbounded xL_Unbounded rv_Unbounded sa_Unbounded eC_Unbounded tC_Unbounded kC_Unbounded iC_Unbounded sC_Unbounded ai_Unbounded ti_Unbounded li_Unbounded ci_Unbounded ce_Unbounded co_Unbounded vf_Unbounded pf_Unbounded su_Unbounded sv_Unbounded mr_Unbounded ga_Unbounded gg_Unbounded hc_Unbounded ck_Unbounded mo_Unbounded aC_UnknownArrow xL_UnknownArrow rv_UnknownArrow sa_UnknownArrow eC_UnknownArrow tC_UnknownArrow kC_UnknownArrow iC_UnknownArrow sC_UnknownArrow ai_UnknownArrow ti_UnknownArrow li_UnknownArrow ci_UnknownArrow ce_UnknownArrow co_UnknownArrow vf_UnknownArrow pf_UnknownArrow su_UnknownArrow sv_UnknownArrow mr_UnknownArrow nf_UnknownArrow ga_UnknownArrow gg_UnknownArrow hc_UnknownArrow ck_UnknownArrow mo_UnknownArrow aC_UnknownState xL_UnknownState rv_UnknownState sa_UnknownState eC_UnknownState tC_UnknownState kC_UnknownState iC_UnknownState sC_UnknownState ai_UnknownState ti_UnknownState li_UnknownState ci_UnknownState ce_UnknownState co_UnknownState vf_UnknownState pf_UnknownState su_UnknownState sv_UnknownState mr_UnknownState nf_UnknownState ga_UnknownState gg_UnknownState hc_UnknownState ck_UnknownState mo_UnknownState sb_BadArrow_BadExpression sb_BadArrow_BadNumber sb_BadArrow_BadRow sb_BadArrow_BadState sb_BadArrow_BadTally sb_BadArrow_BadText sb_BadArrow_NotSettled sb_BadArrow_TooMany sb_BadArrow_Unbounded sb_BadArrow_UnknownArrow sb_BadArrow_UnknownState sb_BadExpression_BadArrow sb_BadExpression_BadNumber sb_BadExpression_BadRow sb_BadExpression_BadState sb_BadExpression_BadTally sb_BadExpression_BadText sb_BadExpression_NotSettled sb_BadExpression_TooMany sb_BadExpression_Unbounded sb_BadExpression_UnknownArrow sb_BadExpression_UnknownState sb_BadNumber_BadArrow sb_BadNumber_BadExpression sb_BadNumber_BadRow sb_BadNumber_BadState sb_BadNumber_BadTally sb_BadNumber_BadText sb_BadNumber_NotSettled sb_BadNumber_TooMany sb_BadNumber_Unbounded sb_BadNumber_UnknownArrow sb_BadNumber_UnknownState sb_BadRow_BadArrow sb_BadRow_BadExpression sb_BadRow_BadNumber sb_BadRow_BadState sb_BadRow_BadTally sb_BadRow_BadText sb_BadRow_NotSettled sb_BadRow_TooMany sb_BadRow_Unbounded sb_BadRow_UnknownArrow sb_BadRow_UnknownState sb_BadState_BadArrow sb_BadState_BadExpression sb_BadState_BadNumber sb_BadState_BadRow sb_BadState_BadTally sb_BadState_BadText sb_BadState_NotSettled sb_BadState_TooMany sb_BadState_Unbounded sb_BadState_UnknownArrow sb_BadState_UnknownState sb_BadTally_BadArrow sb_BadTally_BadExpression sb_BadTally_BadNumber sb_BadTally_BadRow sb_BadTally_BadState sb_BadTally_BadText sb_BadTally_NotSettled sb_BadTally_TooMany sb_BadTally_Unbounded sb_BadTally_UnknownArrow sb_BadTally_UnknownState sb_BadText_BadArrow sb_BadText_BadExpression sb_BadText_BadNumber sb_BadText_BadRow sb_BadText_BadState sb_BadText_BadTally sb_BadText_NotSettled sb_BadText_TooMany sb_BadText_Unbounded sb_BadText_UnknownArrow sb_BadText_UnknownState sb_NotSettled_BadArrow sb_NotSettled_BadExpression sb_NotSettled_BadNumber sb_NotSettled_BadRow sb_NotSettled_BadState sb_NotSettled_BadTally sb_NotSettled_BadText sb_NotSettled_TooMany sb_NotSettled_Unbounded sb_NotSettled_UnknownArrow sb_NotSettled_UnknownState sb_TooMany_BadArrow sb_TooMany_BadExpression sb_TooMany_BadNumber sb_TooMany_BadRow sb_TooMany_BadState sb_TooMany_BadTally sb_TooMany_BadText sb_TooMany_NotSettled sb_TooMany_Unbounded sb_TooMany_UnknownArrow sb_TooMany_UnknownState sb_Unbounded_BadArrow sb_Unbounded_BadExpression sb_Unbounded_BadNumber sb_Unbounded_BadRow sb_Unbounded_BadState sb_Unbounded_BadTally sb_Unbounded_BadText sb_Unbounded_NotSettled sb_Unbounded_TooMany sb_Unbounded_UnknownArrow sb_Unbounded_UnknownState sb_UnknownArrow_BadArrow sb_UnknownArrow_BadExpression sb_UnknownArrow_BadNumber sb_UnknownArrow_BadRow sb_UnknownArrow_BadState sb_UnknownArrow_BadTally sb_UnknownArrow_BadText sb_UnknownArrow_NotSettled sb_UnknownArrow_TooMany sb_UnknownArrow_Unbounded sb_UnknownArrow_UnknownState sb_UnknownState_BadArrow sb_UnknownState_BadExpression sb_UnknownState_BadNumber sb_UnknownState_BadRow sb_UnknownState_BadState sb_UnknownState_BadTally sb_UnknownState_BadText sb_UnknownState_NotSettled sb_UnknownState_TooMany sb_UnknownState_Unbounded sb_UnknownState_UnknownArrow z_super opq top a0 l0 c0 k0 a1 l1 c1 k1 a2 l2 c2 k2 a3 l3 c3 k3 a4 l4 c4 k4 a5 l5 c5 k5 a6 l6 c6 k6 z_ValueError z_int z_isinstance z_len z_range
def nms0 : List PySem.Str := ["__name__", "PaidError", "BadArrow", "BadState", "TooMany", "BadText", "BadRow", "UnknownState", "UnknownArrow", "BadNumber", "BadExpression", "NotSettled", "BadTally", "Unbounded", "__name__", "_law_source", "_law_draw", "_law_pick", "_law_raised", "_law_fields", "_law_kinds"]
def nms : List PySem.Str := nms0
abbrev RR : OpenRow := OpenLaw.row PySem.Challenge.rw_enoughpaid_k27_errors_made
abbrev hk : PySem.W.Hook := Hx.hookX 5 obF (true, fvs)
theorem run (w : World) : HandSHeadRun.RunEq RR (view RR.prog [21]) hk (Hx.obX 5 obF) 15000 nms w := by
  intro os
  kernel_rfl
end G
open PySem PySem.W PySem.Calls PyProof.Rows
set_option maxRecDepth 100000 in
set_option maxHeartbeats 0 in
theorem PySem.Challenge.cw_enoughpaid_k27_errors_made_holds : PySem.Challenge.rw_enoughpaid_k27_errors_made.Holds := by
  w_on; o_law
  refine HandSHeadRun.head_any (r := OpenLaw.row PySem.Challenge.rw_enoughpaid_k27_errors_made) (q := view (OpenLaw.row PySem.Challenge.rw_enoughpaid_k27_errors_made).prog [21]) (H := G.hk) (ob := Hx.obX 5 G.obF) (M := 15000) (loose := G.nms) (d := HandSHeadRun.topDef (OpenLaw.row PySem.Challenge.rw_enoughpaid_k27_errors_made).prog 21) (kwd := []) Hx.obX_eq (by kernel_rfl) (fun s => by kernel_rfl) G.run (by kernel_rfl) (by kernel_rfl) (by kernel_rfl) (by rfl) (by first | assumption | decide +kernel) (by decide +kernel) ⟨rfl, rfl, rfl, rfl, rfl, by decide +kernel⟩ ?hw ?hc
  case hw => w_witness2
  case hc =>
    refine Hx.walk_ofX (l := PySem.Challenge.rw_enoughpaid_k27_errors_made) (n := 63) (k := 5) (x := "_law_script") (CX := fun w => L2.CX PySem.Challenge.rw_enoughpaid_k27_errors_made.prog w) rfl (by decide) (by kernel_rfl) ⟨rfl, by decide, by decide⟩ ?F (fun _ _ _ _ _ h => Is.cx_no h)
    intro w mg fa h Y Gn hmg0
    obtain ⟨K, KX, c⟩ := Y
    have hmg : mg ("law" : PySem.Str) = some (.ref fa) := by
      have e : (HandSHeadRun.topDef (OpenLaw.row PySem.Challenge.rw_enoughpaid_k27_errors_made).prog 21).name = ("law" : PySem.Str) := by kernel_rfl
      rw [← e]
      exact hmg0
    obtain ⟨fd, hb, hF⟩ := G.all_h (w := w) KX Gn hmg c
    exact ⟨K, fd, Is.spHead K, KX, hb, fun H a ns hl hO hS => ⟨a, ns, rfl, hO, hS, fun _ => rfl⟩, hF⟩
