import PyProof.Rows.All
import HandS.EndTab
import HandS.HeadWalk
import PyProof.P3Eq
import HandS.More
import HandS.Zip
import HandS.Conv
import HandS.Nested
import HandS.RaiseMore
import Wide.All
import OpenK.AllK
import Wide.FinOn
import HandS.ForMost
import HandS.Codes
import HandS.Defaults
import HandS.IsInst
import HandS.SetKeys
import HandS.Wide
import HandS.Lambda
import HandS.Sort
import HandS.HeadHook1
import HandS.HeadHook2
import HandS.HeadHook3
import HandS.HeadHook4
import KE.SortKeyHeap
import HandS.SortKw
import PyProof.Rows.StrMeet
import PyProof.Rows.Exc
import HandS.TupSets
import KE.SortData
import HandS.SetFor
import PyProof.CallType
import KE.KStateDown
import Lean
import HandS.Head0
import HandS.Head1
import HandS.Head2
import PySem.Challenge.RW_unsaybook_k94_whole_texts_answered_at_ev
set_option Elab.async false
set_option linter.all false
set_option maxRecDepth 100000
/-! ### text U0 -/
set_option maxHeartbeats 4000000
namespace U
open PySem PySem.Spec PyProof.Rows L2

/-! ### what a walk stands in -/
structure Bs where
  P : Program
  w : World
  K : PySem.W.Frag
  mg : Str → Option Value
  base : Heap
  T : List (Addr × Str)
structure Gd (B : Bs) (lv : Nat) (sc : Scope) (N : List Str) (vm sm : List Bool) (gs : List Str) (X : Cx) : Prop where
  eP : X.prog = B.P
  ew : X.w = B.w
  eK : X.K = B.K
  eg : X.mg = B.mg
  eb : X.base = B.base
  eN : X.N = N
  es : X.env.scope = sc
  nd : N.Nodup
  vis : ∀ (i : Nat) x, N[i]? = some x → vm[i]? = some true → Vis sc x ∧ (x == ("__debug__" : Str)) = false ∧ (x == ("__classdict__" : Str)) = false
  st : ∀ (i : Nat) x, N[i]? = some x → sm[i]? = some true → L2.Loc sc x ∧ (X.fn x = true ∨ sc.names.lookup x = some .local)
  gl : ∀ x ∈ gs, sc.names.lookup x = some .globalImplicit ∧ (x == ("__debug__" : Str)) = false ∧ x ≠ "__name__"
  calm : X.calm = true
  room : Room lv X.A
  xe : X.xe = fun _ _ => False

def visB (sc : Scope) (x : Str) : Bool := (match sc.names.lookup x with | some .local => true | some .cell => true | some .free => true | _ => false) && (!(x == ("__debug__" : Str)) && !(x == ("__classdict__" : Str)))
def locB (sc : Scope) (x : Str) : Bool := match sc.names.lookup x with | some .local => true | some .cell => true | _ => false
def ownB (sc : Scope) (x : Str) : Bool := match sc.names.lookup x with | some .local => true | _ => false
def gloB (sc : Scope) (x : Str) : Bool := (match sc.names.lookup x with | some .globalImplicit => true | _ => false) && (!(x == ("__debug__" : Str)) && !(x == ("__name__" : Str)))
theorem visB_ok {sc : Scope} {x : Str} (h : visB sc x = true) : Vis sc x ∧ (x == ("__debug__" : Str)) = false ∧ (x == ("__classdict__" : Str)) = false := by
  unfold visB at h
  rw [Bool.and_eq_true, Bool.and_eq_true, Bool.not_eq_true', Bool.not_eq_true'] at h
  obtain ⟨h1, h2, h3⟩ := h
  refine ⟨?_, h2, h3⟩
  cases e : sc.names.lookup x with
  | none => rw [e] at h1; cases h1
  | some z =>
    rw [e] at h1
    cases z with
    | «local» => exact .inl e
    | cell => exact .inr (.inl e)
    | free => exact .inr (.inr e)
    | _ => cases h1
theorem locB_ok {sc : Scope} {x : Str} (h : locB sc x = true) : L2.Loc sc x := by
  unfold locB at h
  cases e : sc.names.lookup x with
  | none => rw [e] at h; cases h
  | some z =>
    rw [e] at h
    cases z with
    | «local» => exact .inl e
    | cell => exact .inr e
    | _ => cases h
theorem ownB_ok {sc : Scope} {x : Str} (h : ownB sc x = true) : sc.names.lookup x = some .local := by
  unfold ownB at h
  cases e : sc.names.lookup x with
  | none => rw [e] at h; cases h
  | some z =>
    rw [e] at h
    cases z with
    | «local» => rfl
    | _ => cases h
theorem gloB_ok {sc : Scope} {x : Str} (h : gloB sc x = true) : sc.names.lookup x = some .globalImplicit ∧ (x == ("__debug__" : Str)) = false ∧ x ≠ "__name__" := by
  unfold gloB at h
  rw [Bool.and_eq_true, Bool.and_eq_true, Bool.not_eq_true', Bool.not_eq_true'] at h
  obtain ⟨h1, h2, h3⟩ := h
  refine ⟨?_, h2, fun z => ?_⟩
  · cases e : sc.names.lookup x with
    | none => rw [e] at h1; cases h1
    | some z =>
      rw [e] at h1
      cases z with
      | globalImplicit => rfl
      | _ => cases h1
  · rw [z, beq_self_eq_true] at h3
    cases h3
theorem Gd.glo {B : Bs} {lv : Nat} {sc : Scope} {vm sm : List Bool} {gs : List Str} {N : List Str} {X : Cx} (g : Gd B lv sc N vm sm gs X) {x : Str} (h : x ∈ gs) : Gl X x := by
  show X.env.scope.names.lookup x = _
  rw [g.es]
  exact (g.gl x h).1
theorem Gd.hu {B : Bs} {lv : Nat} {sc : Scope} {vm sm : List Bool} {gs : List Str} {N : List Str} {X : Cx} (g : Gd B lv sc N vm sm gs X) : X.A.units + 1 < cLine := hu_of g.room
theorem Gd.pass {B : Bs} {lv : Nat} {sc : Scope} {vm sm : List Bool} {gs : List Str} {N : List Str} {X : Cx} (g : Gd B lv sc N vm sm gs X) : PassesOwn (model X.prog X.w) X.A X.env X.xe := by
  rw [g.xe]
  exact PassesOwn.never

/-! ### what is wanted, whatever the derivation -/
structure WE (X : Cx) (e : Expr) (σ : L2.St) (H : Hp) (Q : VK) : Prop where
  ex : ∃ t, PE X e t ∧ t σ H Q
structure WT (X : Cx) (e : Expr) (σ : L2.St) (H : Hp) (Q : Bool → Hp → Prop) : Prop where
  ex : ∃ t, PT X e t ∧ t σ H Q
structure WW (X : Cx) (e : Expr) (σ : L2.St) (H : Hp) (Q : Bool → Hp → Prop) : Prop where
  ex : ∃ t, PW X e t ∧ t σ H Q
structure WA (X : Cx) (es : List Expr) (σ : L2.St) (H : Hp) (Q : List V → Hp → Prop) : Prop where
  ex : ∃ t, PA X es t ∧ t σ H Q
structure WO (X : Cx) (e : Option Expr) (σ : L2.St) (H : Hp) (Q : Option Int → Hp → Prop) : Prop where
  ex : ∃ t, PO X e t ∧ t σ H Q
structure WS (X : Cx) (st : Stmt) (D : Ends) (σ : L2.St) (H : Hp) : Prop where
  ex : ∃ t, PS X st t ∧ t D σ H
structure WSs (X : Cx) (st : List Stmt) (D : Ends) (σ : L2.St) (H : Hp) : Prop where
  ex : ∃ t, PSs X st t ∧ t D σ H
structure WG (X : Cx) (tg : Expr) (v : V) (σ : L2.St) (H : Hp) (Q : L2.St → Hp → Prop) : Prop where
  ex : ∃ t, PG X tg t ∧ t v σ H Q
structure WGs (X : Cx) (ts : List Expr) (vs : List V) (σ : L2.St) (H : Hp) (Q : L2.St → Hp → Prop) : Prop where
  ex : ∃ t, PGs X ts t ∧ t vs σ H Q
structure WI (X : Cx) (tg it : Expr) (σ : L2.St) (H : Hp) (R : It → Hp → Prop) : Prop where
  ex : ∃ t, PI X tg it t ∧ t σ H R
/-- operators, comparisons, subscripts, stores, slices, truth, calls of values, by values -/
structure WB (X : Cx) (op : Operator) (x y : V) (H : Hp) (Q : VK) : Prop where
  ex : ∃ r, OpR X (binaryOp op) r ∧ r x y H Q
structure WC (X : Cx) (op : CmpOp) (x y : V) (H : Hp) (Q : VK) : Prop where
  ex : ∃ r, OpR X (compareOp op) r ∧ r x y H Q
structure WIp (X : Cx) (op : Operator) (x y : V) (H : Hp) (Q : VK) : Prop where
  ex : ∃ r, PIp X op r ∧ r x y H Q
structure WIn (X : Cx) (op : Operator) (x y : V) (H : Hp) (Q : VK) : Prop where
  ex : ∃ r, InOp X op r ∧ r x y H Q
structure WX (X : Cx) (x y : V) (H : Hp) (Q : VK) : Prop where
  ex : ∃ r, IxR X r ∧ r x y H Q
structure WSt (X : Cx) (o i v : V) (H : Hp) (Q : Hp → Prop) : Prop where
  ex : ∃ r, PSet X r ∧ r o i v H Q
structure WSl (X : Cx) (x : V) (lo hi : Option Int) (H : Hp) (Q : VK) : Prop where
  ex : ∃ r, SlR X r ∧ r x lo hi H Q
def WTr (X : Cx) (x : V) (H : Hp) (Q : Bool → Hp → Prop) : Prop := ∃ k, TruV X.K x H k ∧ Q k H
structure WCl (X : Cx) (f : Value) (vs : List V) (H : Hp) (Q : VK) : Prop where
  ex : ∃ r, CallR X f r ∧ r vs H Q

section
variable {X : Cx} {B : Bs} {lv : Nat} {sc : Scope} {vm sm : List Bool} {gs : List Str} {N : List Str} {σ : L2.St} {H : Hp} {Q : VK} {QB : Bool → Hp → Prop} {QA : List V → Hp → Prop} {D : Ends} {a b c e : Expr} {es : List Expr} {pos pos' : Pos}
theorem p_e : PE X e (WE X e) := ⟨fun pins s σ H Q I ⟨t, h, q⟩ => h.run pins s σ H Q I q⟩
theorem p_t : PT X e (WT X e) := ⟨fun pins s σ H Q I ⟨t, h, q⟩ => h.run pins s σ H Q I q⟩
theorem p_w : PW X e (WW X e) := ⟨fun wh pins s σ H Q I ⟨t, h, q⟩ => h.run wh pins s σ H Q I q⟩
theorem p_a : PA X es (WA X es) := ⟨fun pos pins s σ H Q I ⟨t, h, q⟩ => h.run pos pins s σ H Q I q⟩
theorem p_o {e : Option Expr} : PO X e (WO X e) := ⟨fun pins s σ H Q I ⟨t, h, q⟩ => h.run pins s σ H Q I q⟩
theorem p_s {st : Stmt} : PS X st (WS X st) := ⟨fun pins s σ H D I ⟨t, h, q⟩ => h.run pins s σ H D I q⟩
theorem p_ss {st : List Stmt} : PSs X st (WSs X st) := ⟨fun pins s σ H D I ⟨t, h, q⟩ => h.run pins s σ H D I q⟩
theorem p_g : PG X e (WG X e) := ⟨fun pins s σ H v u Q I r ⟨t, h, q⟩ => h.run pins s σ H v u Q I r q⟩
theorem p_gs : PGs X es (WGs X es) := ⟨fun pins s σ H vs us Q I r ⟨t, h, q⟩ => h.run pins s σ H vs us Q I r q⟩
theorem p_i : PI X a b (WI X a b) := ⟨fun pins s σ H R I ⟨t, h, q⟩ => h.run pins s σ H R I q⟩
theorem l_b {op : Operator} : OpR X (binaryOp op) (WB X op) := fun pins s σ H x y v u Q I rx ry ⟨r, h, q⟩ => h pins s σ H x y v u Q I rx ry q
theorem l_c {op : CmpOp} : OpR X (compareOp op) (WC X op) := fun pins s σ H x y v u Q I rx ry ⟨r, h, q⟩ => h pins s σ H x y v u Q I rx ry q
theorem l_ip {op : Operator} : PIp X op (WIp X op) := fun pins s σ H x y v u Q I rx ry ⟨r, h, q⟩ => h pins s σ H x y v u Q I rx ry q
theorem l_in {op : Operator} : InOp X op (WIn X op) := fun pins s σ H x y v u Q I rx ry ⟨r, h, q⟩ => h pins s σ H x y v u Q I rx ry q
theorem l_x : IxR X (WX X) := fun va sl pins s σ H x y v u Q I rx ry ⟨r, h, q⟩ hs => h va sl pins s σ H x y v u Q I rx ry q hs
theorem l_st : PSet X (WSt X) := fun pins s σ H o i v ov iv u Q I ro ri rv ⟨r, h, q⟩ => h pins s σ H o i v ov iv u Q I ro ri rv q
theorem l_sl : SlR X (WSl X) := fun pins s σ H x v vl vu lo hi sl Q I rx hs pl pu ⟨r, h, q⟩ => h pins s σ H x v vl vu lo hi sl Q I rx hs pl pu q
theorem l_cl {f : Value} : CallR X f (WCl X f) := fun pins s σ H xs us Q I r ⟨t, h, q⟩ => h pins s σ H xs us Q I r q

/-! ### expressions -/
theorem we_int {i : Int} {j : Nat} (h : Q (.int i) H) : WE X (.Constant (.int i) j pos) σ H Q := ⟨_, pe_int, h⟩
theorem we_str {x : Str} {j : Nat} (h : Q (.str x) H) : WE X (.Constant (.str x) j pos) σ H Q := ⟨_, pe_str, h⟩
theorem we_bl {x : Bool} {j : Nat} (h : Q (.bl x) H) : WE X (.Constant (.bool x) j pos) σ H Q := ⟨_, pe_bl, h⟩
theorem we_non {j : Nat} (h : Q .non H) : WE X (.Constant .none j pos) σ H Q := ⟨_, pe_non, h⟩
theorem we_nm (g : Gd B lv sc N vm sm gs X) (i : Nat) {x : Str} {v : V} (hN : N[i]? = some x) (hv : vm[i]? = some true) (hs : σ[i]? = some (some v)) (h : Q v H) : WE X (.Name x pos) σ H Q := by
  obtain ⟨h1, h2, h3⟩ := g.vis i x hN hv
  exact ⟨_, pe_var (i := i) (by rw [g.eN]; exact hN) (by rw [g.es]; exact h1) h2 h3, v, hs, h⟩
/-- a name of the module, a value -/
def GV (B : Bs) (x : Str) (v : V) : Prop := ∃ u, B.mg x = some u ∧ RelV v u
theorem we_gl (g : Gd B lv sc N vm sm gs X) {x : Str} {v : V} (hx : x ∈ gs) (hv : GV B x v) (h : Q v H) : WE X (.Name x pos) σ H Q := by
  obtain ⟨u, hu, r⟩ := hv
  exact ⟨_, pe_glob (g.glo hx) (by rw [g.eg]; exact hu) r (g.gl _ hx).2.1, h⟩
theorem we_bt (g : Gd B lv sc N vm sm gs X) {x : Str} {v : V} {u : Value} (hx : x ∈ gs) (hm : B.mg x = none) (hb : bootBuiltins x = some u) (r : RelV v u) (h : Q v H) : WE X (.Name x pos) σ H Q :=
  ⟨_, pe_bltn (g.glo hx) (by rw [g.eg]; exact hm) hb r (g.gl _ hx).2.2 (g.gl _ hx).2.1, h⟩
theorem we_bin {op : Operator} (h : WE X a σ H fun x H1 => WE X b σ H1 fun y H2 => WB X op x y H2 Q) : WE X (.BinOp a op b pos) σ H Q := ⟨_, pe_op l_b p_e p_e, h⟩
theorem we_cmp {op : CmpOp} (h : WE X a σ H fun x H1 => WE X b σ H1 fun y H2 => WC X op x y H2 Q) (hm : behindInMarks op b = false := by first | exact nomark _ | rfl) : WE X (.Compare a [op] [b] pos) σ H Q := ⟨_, pe_cmpR l_c p_e p_e hm, h⟩
theorem we_chain {op op' : CmpOp} (h : WE X a σ H fun x H1 => WE X b σ H1 fun y H2 => WC X op x y H2 fun z H3 => ∃ k, z = .bl k ∧ (if k = true then WE X c σ H3 fun w' H4 => WC X op' y w' H4 Q else Q (.bl false) H3)) (hl : lastMarks [op, op'] [b, c] = false := by rfl) :
    WE X (.Compare a [op, op'] [b, c] pos) σ H Q := ⟨_, pe_chain l_c l_c p_e p_e p_e hl, h⟩
theorem we_and1 {op : BoolOp} (h : WE X a σ H Q) : WE X (.BoolOp op [a] pos) σ H Q := ⟨_, pe_one p_e, h⟩
theorem we_and {rest : List Expr} (h : WE X a σ H fun x H1 => ∃ c, x = .bl c ∧ if c = true then WE X (.BoolOp .And (b :: rest) pos) σ H1 Q else Q (.bl false) H1) : WE X (.BoolOp .And (a :: b :: rest) pos) σ H Q := ⟨_, pe_and p_e p_e, h⟩
theorem we_or {rest : List Expr} (h : WE X a σ H fun x H1 => ∃ c, x = .bl c ∧ if c = true then Q (.bl true) H1 else WE X (.BoolOp .Or (b :: rest) pos) σ H1 Q) : WE X (.BoolOp .Or (a :: b :: rest) pos) σ H Q := ⟨_, pe_or p_e p_e, h⟩
theorem we_not (h : WE X a σ H fun x H1 => ∃ c, x = .bl c ∧ Q (.bl (!c)) H1) : WE X (.UnaryOp .Not a pos) σ H Q := ⟨_, pe_not p_e, h⟩
theorem we_neg (h : WE X a σ H fun x H1 => ∃ i, x = .int i ∧ Q (.int (-i)) H1) : WE X (.UnaryOp .USub a pos) σ H Q := ⟨_, pe_un un_neg p_e, h⟩
theorem we_if (h : WT X c σ H fun k H1 => if k = true then WE X a σ H1 Q else WE X b σ H1 Q) : WE X (.IfExp c a b pos) σ H Q := ⟨_, pe_ifExp p_t p_e p_e, h⟩
theorem we_ix (h : WE X a σ H fun x H1 => WE X b σ H1 fun y H2 => WX X x y H2 Q) (hs : PlainIx b := by exact fun _ _ => rfl) : WE X (.Subscript a b pos) σ H Q := ⟨_, pe_ix l_x p_e p_e hs, h⟩
theorem we_sl {lo hi : Option Expr} (h : WE X e σ H fun x H1 => WO X lo σ H1 fun l H2 => WO X hi σ H2 fun u H3 => WSl X x l u H3 Q) : WE X (.Subscript e (.Slice lo hi none pos') pos) σ H Q := ⟨_, pe_slice l_sl p_e p_o p_o, h⟩
theorem wo_no (h : Q' none H) : WO X none σ H Q' := ⟨_, po_none, h⟩
theorem wo_yes (h : WE X e σ H fun x H1 => ∃ i, x = .int i ∧ Q' (some i) H1) : WO X (some e) σ H Q' := ⟨_, po_some p_e, h⟩
theorem we_fld {f : Str} (h : WE X e σ H fun x H1 => ∃ a C dx fs v, x = .ref a ∧ H1 a = some (.ins C dx fs) ∧ Cls X.K C ∧ NoAttr X.K C f ∧ fs.lookup f = some v ∧ Q v H1) (hb : attributeBase e f X.env (eval e X.env) = eval e X.env := by rfl) : WE X (.Attribute e f pos) σ H Q := ⟨_, pe_fld p_e hb, h⟩
theorem wa_nil (h : QA [] H) : WA X [] σ H QA := ⟨_, pa_nil, h⟩
theorem wa_cons (h : WE X e σ H fun x H1 => WA X es σ H1 fun xs H2 => QA (x :: xs) H2) (hs : starEach (e :: es) X.env = (false, eval e X.env) :: starEach es X.env := by rfl) : WA X (e :: es) σ H QA := ⟨_, pa_cons p_e p_a hs, h⟩
/-- new lists, tuples, dicts -/
def NewL (vs : List V) (H : Hp) (Q : VK) : Prop := vs.length ≤ sizeLine ∧ ∀ p, H p = none → Q (.ref p) (upd H p (.lst vs))
def NewT (vs : List V) (H : Hp) (Q : VK) : Prop := vs.length ≤ sizeLine ∧ ∀ p, H p = none → Q (.ref p) (upd H p (.tup vs))
def NewD (H : Hp) (Q : VK) : Prop := ∀ p, H p = none → Q (.ref p) (upd H p (.dK []))
def NewDT (H : Hp) (Q : VK) : Prop := ∀ p, H p = none → Q (.ref p) (upd H p (.dT []))
theorem we_lst (h : WA X es σ H fun vs H1 => NewL vs H1 Q) : WE X (.List es pos) σ H Q := ⟨_, pe_lst p_a, h⟩
theorem we_tup {k : Nat} (h : WA X es σ H fun vs H1 => NewT vs H1 Q) : WE X (.Tuple es k pos) σ H Q := ⟨_, pe_tup p_a, h⟩
theorem we_dK (h : NewD H Q) : WE X (.Dict [] [] pos) σ H Q := ⟨_, pe_dnewK, h⟩
theorem we_dT (h : NewDT H Q) : WE X (.Dict [] [] pos) σ H Q := ⟨_, pe_dnewT, h⟩


/-! ### tests -/
theorem wt_tr (g : Gd B lv sc N vm sm gs X) (h : WE X e σ H fun x H1 => ∃ k, TruV B.K x H1 k ∧ QB k H1) (he : ∀ whole, isTrue e X.env whole = (do let v ← whole; standAt e.pos; holding [v] (truthy v)) := by exact fun _ => rfl) : WT X e σ H QB := by
  refine ⟨_, pt_truth p_e he, ?_⟩
  rw [g.eK]
  exact h
theorem wt_cmp {op : CmpOp} (h : WE X a σ H fun x H1 => WE X b σ H1 fun y H2 => WC X op x y H2 fun z H3 => ∃ k, z = .bl k ∧ QB k H3) (hm : behindInMarks op b = false := by first | exact nomark _ | rfl) : WT X (.Compare a [op] [b] pos) σ H QB := ⟨_, pt_cmpR l_c p_e p_e hm, h⟩
theorem wt_chain {op op' : CmpOp} (h : WE X a σ H fun x H1 => WE X b σ H1 fun y H2 => WC X op x y H2 fun z H3 => ∃ k, z = .bl k ∧ (if k = true then WE X c σ H3 fun w' H4 => WC X op' y w' H4 fun z H5 => ∃ k, z = .bl k ∧ QB k H5 else ∃ k', V.bl false = .bl k' ∧ QB k' H3)) (hl : lastMarks [op, op'] [b, c] = false := by rfl) :
    WT X (.Compare a [op, op'] [b, c] pos) σ H QB := ⟨_, pt_chain l_c l_c p_e p_e p_e hl, h⟩
theorem wt_not (h : WT X a σ H fun c H1 => QB (!c) H1) : WT X (.UnaryOp .Not a pos) σ H QB := ⟨_, pt_not p_t, h⟩
theorem wt_bo {op : BoolOp} (h : WW X (.BoolOp op es pos) σ H QB) : WT X (.BoolOp op es pos) σ H QB := ⟨_, p_w.pt, h⟩
theorem ww_and1 (h : WT X a σ H QB) : WW X (.BoolOp .And [a] pos) σ H QB := ⟨_, pw_and1 p_t, h⟩
theorem ww_or1 (h : WT X a σ H QB) : WW X (.BoolOp .Or [a] pos) σ H QB := ⟨_, pw_or1 p_t, h⟩
theorem ww_and {rest : List Expr} (h : WT X a σ H fun c H1 => if c = true then WW X (.BoolOp .And (b :: rest) pos) σ H1 QB else QB false H1) : WW X (.BoolOp .And (a :: b :: rest) pos) σ H QB := ⟨_, pw_and p_t p_w, h⟩
theorem ww_or {rest : List Expr} (h : WT X a σ H fun c H1 => if c = true then QB true H1 else WW X (.BoolOp .Or (b :: rest) pos) σ H1 QB) : WW X (.BoolOp .Or (a :: b :: rest) pos) σ H QB := ⟨_, pw_or p_t p_w, h⟩

/-! ### calls -/
def Fn (B : Bs) (j : Nat) (x : Str) (sp : Sp) (dvs : List V) : Prop :=
  ∃ (f : Addr) (fd : FuncData) (ps : List Str) (ds : List Value), FnOk B.P B.w B.K B.mg B.base CX0 j f fd ps sp ∧ B.mg x = some (.ref f) ∧ PySem.W.keepIn B.K (.ref f) = true ∧ Binds B.K fd ps ds ∧ Vals dvs ds
def Mt (B : Bs) (j : Nat) (K : Addr) (m : Str) (sp : Sp) (dvs : List V) : Prop :=
  ∃ (f : Addr) (fd : FuncData) (ps : List Str) (ds : List Value), Cls B.K K ∧ Meth B.K K m f ∧ FnOk B.P B.w B.K B.mg B.base CX0 j f fd ps sp ∧ Binds B.K fd ps ds ∧ Vals dvs ds
def Mkr (B : Bs) (j : Nat) (x : Str) (K : Addr) (sp : Sp) (dvs : List V) : Prop :=
  ∃ (f : Addr) (fd : FuncData) (ps : List Str) (ds : List Value), Mk B.K K f ∧ FnOk B.P B.w B.K B.mg B.base CX0 j f fd ps sp ∧ B.mg x = some (.ref K) ∧ Binds B.K fd ps ds ∧ Vals dvs ds
theorem we_fn (g : Gd B lv sc N vm sm gs X) {x : Str} {j : Nat} {sp : Sp} {dvs : List V} {p : Pos} (c : Fn B j x sp dvs) (hx : x ∈ gs) (hk : j ≤ lv) (h : WA X (e :: es) σ H fun vs H1 => sp (vs ++ dvs) H1 Q E0)
    (he : starEach (e :: es) X.env = (false, eval e X.env) :: starEach es X.env := by rfl) (hpl : (backTo pos (starEach es X.env)).any (·.1) = false := by rfl) : WE X (.Call (.Name x p) (e :: es) [] pos) σ H Q := by
  obtain ⟨f, fd, ps, ds, F, hm, kp, b, d⟩ := c
  rw [← g.eP, ← g.ew, ← g.eK, ← g.eg, ← g.eb] at F
  rw [← g.eg] at hm
  rw [← g.eK] at kp b
  exact ⟨_, pe_call F (g.room.mono hk) (g.glo hx) hm kp b d pass0 p_a (g.gl _ hx).2.1 he hpl, h⟩
theorem we_mk (g : Gd B lv sc N vm sm gs X) {x : Str} {j : Nat} {K : Addr} {sp : Sp} {dvs : List V} {p : Pos} (c : Mkr B j x K sp dvs) (hx : x ∈ gs) (hk : j + 1 ≤ lv)
    (h : WA X (e :: es) σ H fun vs H1 => ∀ x dx, H1 x = none → H1 dx = none → dx ≠ x → sp (.ref x :: (vs ++ dvs)) (upd (upd H1 dx (.own x)) x (.ins K dx [])) (fun v H2 => v = .non ∧ Q (.ref x) H2) E0)
    (he : starEach (e :: es) X.env = (false, eval e X.env) :: starEach es X.env := by rfl) (hpl : (backTo pos (starEach es X.env)).any (·.1) = false := by rfl) : WE X (.Call (.Name x p) (e :: es) [] pos) σ H Q := by
  obtain ⟨f, fd, ps, ds, M, F, hm, b, d⟩ := c
  rw [← g.eP, ← g.ew, ← g.eK, ← g.eg, ← g.eb] at F
  rw [← g.eg] at hm
  rw [← g.eK] at M b
  exact ⟨_, pe_make M F (g.room.mono hk) (g.glo hx) hm b d pass0 p_a (g.gl _ hx).2.1 he hpl, h⟩
theorem we_cb (g : Gd B lv sc N vm sm gs X) {x : Str} {id : String} {p : Pos} (hx : x ∈ gs) (hm : B.mg x = none) (hb : bootBuiltins x = some (.builtin id)) (h : WA X (e :: es) σ H fun vs H1 => WCl X (.builtin id) vs H1 Q)
    (he : starEach (e :: es) X.env = (false, eval e X.env) :: starEach es X.env := by rfl) (hpl : (backTo pos (starEach es X.env)).any (·.1) = false := by rfl) : WE X (.Call (.Name x p) (e :: es) [] pos) σ H Q :=
  ⟨_, pe_callB l_cl (g.glo hx) (by rw [g.eg]; exact hm) hb p_a (g.gl _ hx).2.2 (g.gl _ hx).2.1 he hpl, h⟩
theorem we_ct (g : Gd B lv sc N vm sm gs X) {x : Str} {T : String} {p : Pos} (hx : x ∈ gs) (hm : B.mg x = none) (hb : bootBuiltins x = some (.type T)) (h : WA X (e :: es) σ H fun vs H1 => WCl X (.type T) vs H1 Q)
    (he : starEach (e :: es) X.env = (false, eval e X.env) :: starEach es X.env := by rfl) (hpl : (backTo pos (starEach es X.env)).any (·.1) = false := by rfl) : WE X (.Call (.Name x p) (e :: es) [] pos) σ H Q :=
  ⟨_, pe_callTy l_cl (g.glo hx) (by rw [g.eg]; exact hm) hb p_a (g.gl _ hx).2.2 (g.gl _ hx).2.1 he hpl, h⟩
theorem Gd.mt (g : Gd B lv sc N vm sm gs X) {j : Nat} {K : Addr} {m : Str} {sp : Sp} {dvs : List V} (M : Mt B j K m sp dvs) :
    ∃ (f : Addr) (fd : FuncData) (ps : List Str) (ds : List Value), Cls X.K K ∧ Meth X.K K m f ∧ FnOk X.prog X.w X.K X.mg X.base CX0 j f fd ps sp ∧ Binds X.K fd ps ds ∧ Vals dvs ds := by
  rw [g.eP, g.ew, g.eK, g.eg, g.eb]
  exact M
/-- an own method: which class is told by the receiver -/
theorem we_mt (g : Gd B lv sc N vm sm gs X) {o : Expr} {m : Str} {apos : Pos} {pl : Sem Bool} (h : WE X o σ H fun x H1 => ∃ a K dx fs, x = .ref a ∧ H1 a = some (.ins K dx fs) ∧ fs.lookup m = none ∧ ∃ j sp dvs, Mt B j K m sp dvs ∧ j ≤ lv ∧ WA X (e :: es) σ H1 fun vs H2 => sp (.ref a :: (vs ++ dvs)) H2 Q E0)
    (hst : starEach (e :: es) X.env = (false, eval e X.env) :: starEach es X.env := by rfl) (hpl : (backTo pos (starEach es X.env)).any (·.1) = false := by rfl)
    (ht : eval (.Call (.Attribute o m apos) (e :: es) [] pos) X.env = (do
      let ov ← eval o X.env
      standAt apos.atName
      let (f, first) ← holding [ov] (getMethod ov m pl)
      callWith pos f first (backTo pos (starEach (e :: es) X.env)) (backToKw pos (keywordEach [] X.env))) := by rfl) : WE X (.Call (.Attribute o m apos) (e :: es) [] pos) σ H Q := by
  refine ⟨fun σ H Q => WE X o σ H fun x H1 => ∃ a K dx fs, x = .ref a ∧ H1 a = some (.ins K dx fs) ∧ fs.lookup m = none ∧ ∃ j sp dvs, Mt B j K m sp dvs ∧ j ≤ lv ∧ WA X (e :: es) σ H1 fun vs H2 => sp (.ref a :: (vs ++ dvs)) H2 Q E0, ⟨fun pins s σ H Q I hw => ?_⟩, h⟩
  refine PySem.W.methodCall_KW (pl := pl) (thn (p_e.run pins s σ H _ I hw) fun u s1 hu => ?_) ht
  obtain ⟨x, H1, I1, rx, a, K, dx, fs, ex, ea, l, j, sp, dvs, M, hk, q⟩ := hu
  subst ex
  obtain rfl : u = Value.ref a := rx
  obtain ⟨f, fd, ps, ds, hc, hm, F, hb, hd⟩ := g.mt M
  refine getmeth_ok I1 ea hc hm l ?_
  refine PySem.W.callWith_K (first := [.ref a]) (h₀ := X.base) I1.ok.mod.kin hm.kp (thn (p_a.run pos pins s1 σ H1 _ I1 q) fun us s2 h2 => ?_) hst hpl
  obtain ⟨vs, H2, I2, r, q2⟩ := h2
  exact ⟨I2.kIn, run_fn (us := .ref a :: us) (vs := .ref a :: vs) F (g.room.mono hk) hb hd pass0 I2 (.cons rfl r) q2⟩
theorem we_mt0 (g : Gd B lv sc N vm sm gs X) {o : Expr} {m : Str} {apos : Pos} {pl : Sem Bool} (h : WE X o σ H fun x H1 => ∃ a K dx fs, x = .ref a ∧ H1 a = some (.ins K dx fs) ∧ fs.lookup m = none ∧ ∃ j sp dvs, Mt B j K m sp dvs ∧ j ≤ lv ∧ sp (.ref a :: dvs) H1 Q E0)
    (ht : eval (.Call (.Attribute o m apos) [] [] pos) X.env = (do
      let ov ← eval o X.env
      standAt apos.atName
      let (f, first) ← holding [ov] (getMethod ov m pl)
      callWith pos f first (backTo pos (starEach [] X.env)) (backToKw pos (keywordEach [] X.env))) := by rfl) : WE X (.Call (.Attribute o m apos) [] [] pos) σ H Q := by
  refine ⟨fun σ H Q => WE X o σ H fun x H1 => ∃ a K dx fs, x = .ref a ∧ H1 a = some (.ins K dx fs) ∧ fs.lookup m = none ∧ ∃ j sp dvs, Mt B j K m sp dvs ∧ j ≤ lv ∧ sp (.ref a :: dvs) H1 Q E0, ⟨fun pins s σ H Q I hw => ?_⟩, h⟩
  refine PySem.W.methodCall_KW (pl := pl) (thn (p_e.run pins s σ H _ I hw) fun u s1 hu => ?_) ht
  obtain ⟨x, H1, I1, rx, a, K, dx, fs, ex, ea, l, j, sp, dvs, M, hk, q⟩ := hu
  subst ex
  obtain rfl : u = Value.ref a := rx
  obtain ⟨f, fd, ps, ds, hc, hm, F, hb, hd⟩ := g.mt M
  refine getmeth_ok I1 ea hc hm l ?_
  exact PySem.W.callWith_K0 (first := [.ref a]) I1.kIn hm.kp (run_fn (us := [.ref a]) (vs := [.ref a]) F (g.room.mono hk) hb hd pass0 I1 (.cons rfl .nil) q)
/-- a method of a built-in type -/
structure WM (X : Cx) (id : String) (x : V) (vs : List V) (H : Hp) (Q : VK) : Prop where
  ex : ∃ r, MtR X id r ∧ r x vs H Q
theorem l_m {id : String} : MtR X id (WM X id) := fun pins s σ H x xs v us Q I rx r ⟨t, h, q⟩ => h pins s σ H x xs v us Q I rx r q
theorem we_bm (g : Gd B lv sc N vm sm gs X) {o : Expr} {name : Str} {id T : String} {apos : Pos} (pa : PlainAttrs T) (slot : Slot T name id) (hty : typeOf (.builtin id) = pure (.type "method_descriptor"))
    (h : WE X o σ H fun x H1 => tyV B.K T x H1 ∧ WA X (e :: es) σ H1 fun xs H2 => WM X id x xs H2 Q)
    (hbase : attributeBase o name X.env (eval o X.env) = eval o X.env := by rfl)
    (hfew : ((backTo pos (starEach (e :: es) X.env)).all (fun x => !x.1) && (backToKw pos (keywordEach [] X.env)).all (fun x => x.1.isSome)
      && decide ((e :: es).length + ([] : List Keyword).length + (if ([] : List Keyword).isEmpty then 0 else 1) < 30)) = true := by rfl)
    (hline : (apos.endLine == pos.line) = true := by rfl) (hs : starEach (e :: es) X.env = (false, eval e X.env) :: starEach es X.env := by rfl) (hplain : (backTo pos (starEach es X.env)).any (·.1) = false := by rfl) :
    WE X (.Call (.Attribute o name apos) (e :: es) [] pos) σ H Q := by
  refine ⟨_, pe_bm pa slot hty l_m p_e p_a hbase hfew hline hs hplain, ?_⟩
  rw [g.eK]
  exact h

/-! ### statements -/
variable {st : Stmt} {sts body : List Stmt} {tg it o : Expr} {QS : L2.St → Hp → Prop} {v : V}
theorem wss_nil (h : D.nx σ H) : WSs X [] D σ H := ⟨_, pss_nil, h⟩
theorem wss_cons (h : WS X st { D with nx := WSs X sts D } σ H) : WSs X (st :: sts) D σ H := ⟨_, pss_cons p_s p_ss, h⟩
theorem wss_one (h : WS X st D σ H) : WSs X [st] D σ H := ⟨_, pss_one p_s, h⟩
theorem ws_pass (h : D.nx σ H) : WS X (.Pass pos) D σ H := ⟨_, ps_pass, h⟩
theorem ws_brk (h : D.bk σ H) : WS X (.Break pos) D σ H := ⟨_, ps_break, h⟩
theorem ws_cont (h : D.ct σ H) : WS X (.Continue pos) D σ H := ⟨_, ps_continue, h⟩
theorem ws_expr (h : WE X e σ H fun _ H1 => D.nx σ H1) (hs : swapsWith e none pos.line X.env = pure false := by rfl) : WS X (.Expr e pos) D σ H := ⟨_, ps_expr p_e hs, h⟩
theorem ws_ret (h : WE X e σ H D.rt) : WS X (.Return (some e) pos) D σ H := ⟨_, ps_ret p_e, h⟩
theorem ws_retN (h : D.rt .non H) : WS X (.Return none pos) D σ H := ⟨_, ps_retN, h⟩
theorem ws_if {as bs : List Stmt} (h : WT X c σ H fun k H1 => if k = true then WSs X as D σ H1 else WSs X bs D σ H1) : WS X (.If c as bs pos) D σ H := ⟨_, ps_if p_t p_ss p_ss, h⟩
theorem ws_asg (h : WE X e σ H fun x H1 => WG X tg x σ H1 D.nx) (hs : swapsWithSole [tg] e pos.line X.env = pure false := by rfl) (hw : swappedStores [tg] e X.env = pure none := by rfl)
    (h1 : (assignEach [tg] X.env).map (·.2) = [assign tg X.env] := by rfl) : WS X (.Assign [tg] e pos) D σ H := ⟨_, ps_asg p_e p_g hs hw h1, h⟩
theorem wg_nm (g : Gd B lv sc N vm sm gs X) (i : Nat) {x : Str} (hN : N[i]? = some x) (hl : sm[i]? = some true) (h : QS (σ.set i (some v)) H) : WG X (.Name x pos) v σ H QS := by
  obtain ⟨h1, h2⟩ := g.st i x hN hl
  exact ⟨_, pg_name (i := i) (by rw [g.eN]; exact g.nd) (by rw [g.eN]; exact hN) (by rw [g.es]; exact h1) (by rw [g.es]; exact h2), h⟩
theorem wg_sub {i : Expr} (h : WE X o σ H fun ov H1 => WE X i σ H1 fun iv H2 => WSt X ov iv v H2 fun H3 => QS σ H3)
    (ha : ∀ v, assign (.Subscript o i pos) X.env v = (do
      let ov ← holding [v] (eval o X.env)
      let iv ← holding [v, ov] (eval i X.env)
      standAt pos
      holding [v, ov, iv] (setItem ov iv v)
      release [v, ov, iv] []) := by exact fun _ => rfl) : WG X (.Subscript o i pos) v σ H QS := ⟨_, pg_sub p_e p_e l_st ha, h⟩
theorem wg_tup (g : Gd B lv sc N vm sm gs X) {k n : Nat} {a : Addr} {xs : List V} (hx : SqT B.K H a xs) (hl : xs.length = n) (h : WGs X es xs σ H QS) (hn : (assignEach es X.env).length = n := by rfl) (hst : (assignEach es X.env).findIdx? (·.1) = none := by rfl) :
    WG X (.Tuple es k pos) (.ref a) σ H QS := ⟨_, pg_tup g.calm p_gs hn hst, a, xs, rfl, by rw [g.eK]; exact hx, hl, h⟩
theorem wgs_nil (h : QS σ H) : WGs X [] [] σ H QS := ⟨_, pgs_nil, rfl, h⟩
theorem ws_fld {f : Str} (g : Gd B lv sc N vm sm gs X) (h : WE X e σ H fun y H1 => WE X o σ H1 fun x H2 => ∃ a K dx fs, x = .ref a ∧ H2 a = some (.ins K dx fs) ∧ Cls B.K K ∧ NoAttr B.K K f ∧ fs.length < 1000 ∧ D.nx σ (upd H2 a (.ins K dx (putF f y fs))))
    (hs : swapsWith e (some (.Attribute o f pos')) pos.line X.env = pure false := by rfl) : WS X (.Assign [.Attribute o f pos'] e pos) D σ H := by
  refine ⟨_, ps_fld p_e p_e hs, ?_⟩
  unfold sFld
  rw [g.eK]
  exact h
theorem ws_fldaug {f : Str} {op : Operator} (g : Gd B lv sc N vm sm gs X) (h : WE X o σ H fun x H1 => ∃ a K dx fs v, x = .ref a ∧ H1 a = some (.ins K dx fs) ∧ Cls B.K K ∧ NoAttr B.K K f ∧ fs.lookup f = some v ∧
      WE X e σ H1 fun y H2 => WIn X op v y H2 fun z H3 => ∃ dx' fs', H3 a = some (.ins K dx' fs') ∧ fs'.length < 1000 ∧ D.nx σ (upd H3 a (.ins K dx' (putF f z fs')))) : WS X (.AugAssign (.Attribute o f pos') op e pos) D σ H := by
  refine ⟨_, ps_fldaug p_e p_e l_in, ?_⟩
  unfold sFldAug
  rw [g.eK]
  exact h
theorem ws_aug (g : Gd B lv sc N vm sm gs X) {op : Operator} (i : Nat) {x : Str} (hN : N[i]? = some x) (hl : sm[i]? = some true) {w : V} (hs : σ[i]? = some (some w)) (h : WE X e σ H fun y H1 => WIp X op w y H1 fun z H2 => D.nx (σ.set i (some z)) H2) : WS X (.AugAssign (.Name x pos') op e pos) D σ H := by
  obtain ⟨h1, h2⟩ := g.st i x hN hl
  exact ⟨_, ps_aug (i := i) (by rw [g.eN]; exact g.nd) (by rw [g.eN]; exact hN) (by rw [g.es]; exact h1) p_e l_ip (by rw [g.es]; exact h2), w, hs, h⟩
theorem ws_for (g : Gd B lv sc N vm sm gs X) (h : WI X tg it σ H fun J H1 => ∃ W : Nat → Nat → L2.St → Hp → Prop, (∃ m, W 0 m σ H1) ∧ ∀ i m σ H, W i m σ H →
      (J.stop i H ∧ D.nx σ H) ∨ (J.go i H ∧ ∃ N : L2.St → Hp → Prop, (∀ σ' H', N σ' H' → ∃ m', m' < m ∧ W (i + 1) m' σ' H') ∧ ∀ x H', J.yld i H x H' → WG X tg x σ H' fun σ2 H2 => WSs X body { D with nx := N, ct := N, bk := D.nx } σ2 H2))
    (hs : ∀ x, foldedSetIterable it X.env x = pure x := by exact fun _ => rfl) : WS X (.For tg it body [] pos) D σ H := ⟨_, ps_for g.pass g.calm p_i p_g p_ss hs, h⟩
theorem we_mono {Q' : VK} (h : WE X e σ H Q) (k : ∀ x H1, Q x H1 → Q' x H1) : WE X e σ H Q' := by
  obtain ⟨t, ht, hq⟩ := h
  refine ⟨fun σ H Q' => ∃ Q : VK, t σ H Q ∧ ∀ x H1, Q x H1 → Q' x H1, ⟨fun pins s σ H Q' I hw => ?_⟩, Q, hq, k⟩
  obtain ⟨Q, hw, k⟩ := hw
  exact thn (ht.run pins s σ H Q I hw) fun v s1 hv => let ⟨x, H1, I1, r1, q1⟩ := hv; ⟨x, H1, I1, r1, k x H1 q1⟩
theorem wa_mono {QA' : List V → Hp → Prop} (h : WA X es σ H QA) (k : ∀ x H1, QA x H1 → QA' x H1) : WA X es σ H QA' := by
  obtain ⟨t, ht, hq⟩ := h
  refine ⟨fun σ H Q' => ∃ Q : List V → Hp → Prop, t σ H Q ∧ ∀ x H1, Q x H1 → Q' x H1, ⟨fun pos pins s σ H Q' I hw => ?_⟩, QA, hq, k⟩
  obtain ⟨Q, hw, k⟩ := hw
  exact thn (ht.run pos pins s σ H Q I hw) fun v s1 hv => let ⟨x, H1, I1, r1, q1⟩ := hv; ⟨x, H1, I1, r1, k x H1 q1⟩
theorem wt_mono {QB' : Bool → Hp → Prop} (h : WT X e σ H QB) (k : ∀ x H1, QB x H1 → QB' x H1) : WT X e σ H QB' := by
  obtain ⟨t, ht, hq⟩ := h
  refine ⟨fun σ H Q' => ∃ Q : Bool → Hp → Prop, t σ H Q ∧ ∀ x H1, Q x H1 → Q' x H1, ⟨fun pins s σ H Q' I hw => ?_⟩, QB, hq, k⟩
  obtain ⟨Q, hw, k⟩ := hw
  exact thn (ht.run pins s σ H Q I hw) fun v s1 hv => let ⟨H1, I1, q1⟩ := hv; ⟨H1, I1, k v H1 q1⟩
/-- for over a list that stands still -/
theorem ws_forL (g : Gd B lv sc N vm sm gs X) (h : WE X it σ H fun x H1 => ∃ a xs, x = .ref a ∧ SqL B.K H1 a xs ∧ ∃ I : Nat → L2.St → Hp → Prop, I 0 σ H1 ∧ (∀ i σ' H', I i σ' H' → SqL B.K H' a xs) ∧
      (∀ i x σ' H', xs[i]? = some x → I i σ' H' → WG X tg x σ' H' fun σ2 H2 => WSs X body { D with nx := I (i + 1), ct := I (i + 1), bk := D.nx } σ2 H2) ∧ ∀ σ' H', I xs.length σ' H' → D.nx σ' H')
    (hs : ∀ x, foldedSetIterable it X.env x = pure x := by exact fun _ => rfl) : WS X (.For tg it body [] pos) D σ H := by
  refine ws_for g ⟨_, pi_list p_e, we_mono h fun x H1 hq => ?_⟩ hs
  obtain ⟨a, xs, rfl, hx, I, h0, hl, hst, hd⟩ := hq
  rw [← g.eK] at hx hl
  exact ⟨a, rfl, ⟨xs, hx⟩, for_list I h0 (fun i σ' H' _ => hl i σ' H') hst hd⟩
/-- while: a word, a measure -/
theorem ws_while (g : Gd B lv sc N vm sm gs X) (h : ∃ W : Nat → L2.St → Hp → Prop, (∃ m, W m σ H) ∧ ∀ m σ H, W m σ H → WT X c σ H fun b H1 => if b = true then ∃ Nx : L2.St → Hp → Prop, (∀ σ' H', Nx σ' H' → ∃ m', m' < m ∧ W m' σ' H') ∧ WSs X body { D with nx := Nx, ct := Nx, bk := D.nx } σ H1 else D.nx σ H1) : WS X (.While c body [] pos) D σ H :=
  ⟨_, ps_while g.pass p_t p_ss, h⟩
end

/-! ### the heap: a frozen part G, changing points m -/
def tabO : HO → Bool
  | .tbl _ => true
  | _ => false
def oddO : HO → Bool
  | .tbl _ => true
  | .ext _ => true
  | _ => false
theorem tab_odd {o : HO} (h : oddO o = false) : tabO o = false := by
  cases o with
  | tbl ps => cases h
  | _ => rfl
structure Hs (B : Bs) (m : List (Addr × HO)) (G H : Hp) : Prop where
  g : Same G H
  o : ∀ p ∈ m, H p.1 = some p.2 ∧ G p.1 = none ∧ oddO p.2 = false
  nd : (m.map (·.1)).Nodup
  tb : LamX.Tabs B.T H
  gt : ∀ b o, G b = some o → tabO o = false
section
variable {B : Bs} {m m' r : List (Addr × HO)} {G G' H H' : Hp} {a p : Addr} {u u' : HO} {xs : List V} {K : PySem.W.Frag}
theorem Hs.at (h : Hs B m G H) {q : Addr × HO} (hq : q ∈ m) : H q.1 = some q.2 := (h.o q hq).1
theorem Hs.a0 (h : Hs B ((a, u) :: m) G H) : H a = some u := h.at List.mem_cons_self
theorem Hs.a1 {x1 : Addr × HO} (h : Hs B (x1 :: (a, u) :: m) G H) : H a = some u := h.at (List.mem_cons_of_mem _ List.mem_cons_self)
theorem Hs.a2 {x1 x2 : Addr × HO} (h : Hs B (x1 :: x2 :: (a, u) :: m) G H) : H a = some u := h.at (List.mem_cons_of_mem _ (List.mem_cons_of_mem _ List.mem_cons_self))
theorem Hs.a3 {x1 x2 x3 : Addr × HO} (h : Hs B (x1 :: x2 :: x3 :: (a, u) :: m) G H) : H a = some u := h.at (List.mem_cons_of_mem _ (List.mem_cons_of_mem _ (List.mem_cons_of_mem _ List.mem_cons_self)))
theorem Hs.a4 {x1 x2 x3 x4 : Addr × HO} (h : Hs B (x1 :: x2 :: x3 :: x4 :: (a, u) :: m) G H) : H a = some u := h.at (List.mem_cons_of_mem _ (List.mem_cons_of_mem _ (List.mem_cons_of_mem _ (List.mem_cons_of_mem _ List.mem_cons_self))))
theorem Hs.a5 {x1 x2 x3 x4 x5 : Addr × HO} (h : Hs B (x1 :: x2 :: x3 :: x4 :: x5 :: (a, u) :: m) G H) : H a = some u := h.at (List.mem_cons_of_mem _ (List.mem_cons_of_mem _ (List.mem_cons_of_mem _ (List.mem_cons_of_mem _ (List.mem_cons_of_mem _ List.mem_cons_self)))))
theorem tabs_upd {T : List (Addr × Str)} {H : Hp} {a : Addr} {u : HO} (t : LamX.Tabs T H) (h : ∀ ps, H a ≠ some (.tbl ps)) (h2 : ∀ c q, H a = some (LamX.CodeO c q) → False) : LamX.Tabs T (upd H a u) := fun p hp => by
  obtain ⟨ps, h1, h3, h4⟩ := t p hp
  refine ⟨ps, ?_, h3, fun pos cv hc => ?_⟩
  · rw [upd_ne (fun z => h ps (by rw [← z]; exact h1))]
    exact h1
  · obtain ⟨c, e1, e2⟩ := h4 pos cv hc
    refine ⟨c, e1, ?_⟩
    rw [upd_ne (fun z => h2 c _ (by rw [← z]; exact e2))]
    exact e2
theorem Hs.new (h : Hs B m G H) (hp : H p = none) (ht : oddO u = false) : Hs B ((p, u) :: m) G (upd H p u) := by
  have gp : G p = none := h.g.free hp
  refine ⟨fun b o e => ?_, fun q hq => ?_, ?_, h.tb.ext fun b o e => ?_, h.gt⟩
  · rw [upd_ne (ne_of_none e gp)]
    exact h.g b o e
  · rcases List.mem_cons.mp hq with e | hq
    · rw [e]
      exact ⟨upd_same, gp, ht⟩
    · obtain ⟨h1, h2, h3⟩ := h.o q hq
      refine ⟨?_, h2, h3⟩
      rw [upd_ne (ne_of_none h1 hp)]
      exact h1
  · show (p :: m.map (·.1)).Nodup
    refine List.nodup_cons.mpr ⟨fun hm => ?_, h.nd⟩
    obtain ⟨q, hq, e⟩ := List.mem_map.mp hm
    have := h.at hq
    rw [e, hp] at this
    cases this
  · rw [upd_ne (ne_of_none e hp)]
    exact e
theorem Hs.freeze (h : Hs B ((p, u) :: m) G H) : Hs B m (upd G p u) H ∧ Same G (upd G p u) := by
  obtain ⟨h1, h2, h3⟩ := h.o (p, u) List.mem_cons_self
  have nd : (p :: m.map (·.1)).Nodup := h.nd
  obtain ⟨n1, n2⟩ := List.nodup_cons.mp nd
  refine ⟨⟨fun b o e => ?_, fun q hq => ?_, n2, h.tb, fun b o e => ?_⟩, fun b o e => ?_⟩
  · by_cases hb : b = p
    · rw [hb, upd_same] at e
      cases e
      rw [hb]
      exact h1
    · rw [upd_ne hb] at e
      exact h.g b o e
  · obtain ⟨q1, q2, q3⟩ := h.o q (List.mem_cons_of_mem _ hq)
    refine ⟨q1, ?_, q3⟩
    rw [upd_ne (fun z => n1 (List.mem_map.mpr ⟨q, hq, z⟩))]
    exact q2
  · by_cases hb : b = p
    · rw [hb, upd_same] at e
      cases e
      exact tab_odd h3
    · rw [upd_ne hb] at e
      exact h.gt b o e
  · rw [upd_ne (ne_of_none e h2)]
    exact e
theorem Hs.drop (h : Hs B ((p, u) :: m) G H) : Hs B m G H :=
  ⟨h.g, fun q hq => h.o q (List.mem_cons_of_mem _ hq), (List.nodup_cons.mp (show (p :: m.map (·.1)).Nodup from h.nd)).2, h.tb, h.gt⟩
theorem Hs.perm (h : Hs B m G H) (hp : m.Perm m') : Hs B m' G H :=
  ⟨h.g, fun q hq => h.o q (hp.mem_iff.mpr hq), (hp.map (·.1)).nodup_iff.mp h.nd, h.tb, h.gt⟩
theorem Hs.swap {x y : Addr × HO} (h : Hs B (x :: y :: m) G H) : Hs B (y :: x :: m) G H := h.perm (List.Perm.swap _ _ _)
theorem Hs.rot2 {x y z : Addr × HO} (h : Hs B (x :: y :: z :: m) G H) : Hs B (z :: x :: y :: m) G H := h.perm (((List.Perm.swap z y m).cons x).trans (List.Perm.swap z x (y :: m)))
theorem Hs.app (h : Hs B (m ++ r) G H) : Hs B (r ++ m) G H := h.perm List.perm_append_comm
theorem Hs.set (h : Hs B ((a, u) :: m) G H) (ht : oddO u' = false) : Hs B ((a, u') :: m) G (upd H a u') := by
  obtain ⟨h1, h2, h3⟩ := h.o (a, u) List.mem_cons_self
  have nd : (a :: m.map (·.1)).Nodup := h.nd
  obtain ⟨n1, n2⟩ := List.nodup_cons.mp nd
  refine ⟨fun b o e => ?_, fun q hq => ?_, nd, tabs_upd h.tb (fun ps z => ?_) (fun c q z => ?_), h.gt⟩
  · rw [upd_ne (ne_of_none e h2)]
    exact h.g b o e
  · rcases List.mem_cons.mp hq with e | hq
    · rw [e]
      exact ⟨upd_same, h2, ht⟩
    · obtain ⟨q1, q2, q3⟩ := h.o q (List.mem_cons_of_mem _ hq)
      refine ⟨?_, q2, q3⟩
      rw [upd_ne (fun z => n1 (List.mem_map.mpr ⟨q, hq, z⟩))]
      exact q1
  · rw [h1] at z
    cases z
    cases h3
  · rw [h1] at z
    cases z
    cases h3
theorem Hs.set1 {x1 : Addr × HO} (h : Hs B (x1 :: (a, u) :: m) G H) (ht : oddO u' = false) : Hs B (x1 :: (a, u') :: m) G (upd H a u') := (h.swap.set ht).swap
theorem Hs.set2 {x1 x2 : Addr × HO} (h : Hs B (x1 :: x2 :: (a, u) :: m) G H) (ht : oddO u' = false) : Hs B (x1 :: x2 :: (a, u') :: m) G (upd H a u') := by
  refine ((h.rot2).set ht).perm ?_
  exact (List.Perm.swap _ _ _).trans ((List.Perm.swap _ _ _).cons _)
/-- facts about the frozen part -/
theorem Hs.l (h : Hs B m G H) (x : SqL K G a xs) : SqL K H a xs := h.g.seq x
theorem _root_.L2.Same.tup (e : Same G H) (h : SqT K G a xs) : SqT K H a xs := by
  rcases h with (h | ⟨o, h⟩) | h
  · exact .inl (.inl (e _ _ h))
  · exact .inl (.inr ⟨o, e _ _ h⟩)
  · exact .inr h
theorem Hs.t (h : Hs B m G H) (x : SqT K G a xs) : SqT K H a xs := h.g.tup x
theorem Hs.ne (h : Hs B ((a, u) :: m) G H) {b : Addr} {o : HO} (e : G b = some o) : b ≠ a := ne_of_none e (h.o _ List.mem_cons_self).2.1
end
mutual
theorem dp_up {K : PySem.W.Frag} {G H : Hp} (e : Same G H) : ∀ {d : PyData} {v : V}, Dp K G v d → Dp K H v d
  | _, _, .non => .non
  | _, _, .bl b => .bl b
  | _, _, .int i => .int i
  | _, _, .str x => .str x
  | _, _, .lst h a => .lst (e.seq h) (dpa_up e a)
  | _, _, .tup h a => .tup (e.tup h) (dpa_up e a)
theorem dpa_up {K : PySem.W.Frag} {G H : Hp} (e : Same G H) : ∀ {ds : List PyData} {vs : List V}, DpAll K G vs ds → DpAll K H vs ds
  | _, _, .nil => .nil
  | _, _, .cons h t => .cons (dp_up e h) (dpa_up e t)
end
/-! ### rules over that heap -/
section
variable {B : Bs} {m : List (Addr × HO)} {G H : Hp} {Q : VK} {vs : List V}
/-- a new list that will change; a new list, tuple that will not -/
theorem nl_m (h : Hs B m G H) (hl : vs.length ≤ sizeLine) (k : ∀ p H', Hs B ((p, .lst vs) :: m) G H' → Q (.ref p) H') : NewL vs H Q := ⟨hl, fun p hp => k p _ (h.new hp rfl)⟩
theorem nl_f (h : Hs B m G H) (hl : vs.length ≤ sizeLine) (k : ∀ p G' H', Hs B m G' H' → Same G G' → G' p = some (.lst vs) → Q (.ref p) H') : NewL vs H Q :=
  ⟨hl, fun p hp => let q := (h.new (u := .lst vs) hp rfl).freeze; k p _ _ q.1 q.2 upd_same⟩
theorem nt_f (h : Hs B m G H) (hl : vs.length ≤ sizeLine) (k : ∀ p G' H', Hs B m G' H' → Same G G' → G' p = some (.tup vs) → Q (.ref p) H') : NewT vs H Q :=
  ⟨hl, fun p hp => let q := (h.new (u := .tup vs) hp rfl).freeze; k p _ _ q.1 q.2 upd_same⟩
theorem nd_m (h : Hs B m G H) (k : ∀ p H', Hs B ((p, .dK []) :: m) G H' → Q (.ref p) H') : NewD H Q := fun p hp => k p _ (h.new hp rfl)
theorem ndt_m (h : Hs B m G H) (k : ∀ p H', Hs B ((p, .dT []) :: m) G H' → Q (.ref p) H') : NewDT H Q := fun p hp => k p _ (h.new hp rfl)
end
end U
/-! ### text U1 -/
set_option maxHeartbeats 4000000
namespace U
open PySem PySem.Spec PyProof.Rows L2
section
variable {X : Cx} {B : Bs} {lv : Nat} {sc : Scope} {vm sm : List Bool} {gs : List Str} {N : List Str} {σ : L2.St} {H : Hp} {Q : VK} {i j : Int} {x y v : V} {a b : Addr} {xs ys vs : List V}
/-! ### operators -/
theorem wb_add (h : Q (.int (i + j)) H) : WB X .Add (.int i) (.int j) H Q := ⟨_, op_add, i, j, rfl, rfl, h⟩
theorem wb_sub (h : Q (.int (i - j)) H) : WB X .Sub (.int i) (.int j) H Q := ⟨_, op_sub, i, j, rfl, rfl, h⟩
theorem wb_mul (hc : (-(2 ^ 64) < i ∧ i < 2 ^ 64) ∨ (-(2 ^ 64) < j ∧ j < 2 ^ 64)) (h : Q (.int (i * j)) H) : WB X .Mult (.int i) (.int j) H Q := ⟨_, op_mul, i, j, rfl, rfl, hc, h⟩
theorem wb_mod (hc : 0 < j) (h : Q (.int (i % j)) H) : WB X .Mod (.int i) (.int j) H Q := ⟨_, op_mod, i, j, rfl, rfl, hc, h⟩
theorem wb_div (hc : 0 < j) (hb : j.natAbs < 2 ^ 40) (h : Q (.int (i / j)) H) : WB X .FloorDiv (.int i) (.int j) H Q := ⟨_, op_fdivW, i, j, rfl, rfl, wide_div hc hb (by decide) (by decide), h⟩
theorem wb_pow (hc : 0 ≤ j ∧ j ≤ 1000000 ∧ i.natAbs < 2 ^ 64) (h : Q (.int (i ^ j.toNat)) H) : WB X .Pow (.int i) (.int j) H Q := ⟨_, op_pow, i, j, rfl, rfl, hc, h⟩
theorem wb_cat (ha : H a = some (.lst xs)) (hb : H b = some (.lst ys)) (hl : (xs ++ ys).length ≤ sizeLine) (h : NewL (xs ++ ys) H Q) : WB X .Add (.ref a) (.ref b) H Q :=
  ⟨_, op_cat, a, b, xs, ys, rfl, rfl, ha, hb, by rw [← List.length_append]; exact hl, h.2⟩
theorem wb_catT (g : Gd B lv sc N vm sm gs X) (ha : SqT B.K H a xs) (hb : SqT B.K H b ys) (hx : xs ≠ []) (hy : ys ≠ []) (hl : xs.length + ys.length ≤ sizeLine) (h : NewT (xs ++ ys) H Q) : WB X .Add (.ref a) (.ref b) H Q := by
  rw [← g.eK] at ha hb
  exact ⟨_, op_catT, a, b, xs, ys, rfl, rfl, ha, hb, hx, hl, fun z => absurd z hy, fun _ => h.2⟩
/-! ### comparisons -/
theorem wc_lt (h : Q (.bl (decide (i < j))) H) : WC X .Lt (.int i) (.int j) H Q := ⟨_, op_lt, i, j, rfl, rfl, h⟩
theorem wc_le (h : Q (.bl (decide (i ≤ j))) H) : WC X .LtE (.int i) (.int j) H Q := ⟨_, op_le, i, j, rfl, rfl, h⟩
theorem wc_gt (h : Q (.bl (decide (j < i))) H) : WC X .Gt (.int i) (.int j) H Q := ⟨_, op_gt, i, j, rfl, rfl, h⟩
theorem wc_ge (h : Q (.bl (decide (j ≤ i))) H) : WC X .GtE (.int i) (.int j) H Q := ⟨_, op_ge, i, j, rfl, rfl, h⟩
theorem wc_eq (hs : scal x y = true) (h : Q (.bl (decide (x = y))) H) : WC X .Eq x y H Q := ⟨_, op_eq, hs, h⟩
theorem wc_ne (hs : scal x y = true) (h : Q (.bl (!decide (x = y))) H) : WC X .NotEq x y H Q := ⟨_, op_ne, hs, h⟩
theorem wc_eqI (h : Q (.bl (decide (i = j))) H) : WC X .Eq (.int i) (.int j) H Q := wc_eq rfl (by
  rw [show decide (V.int i = V.int j) = decide (i = j) from by simp]
  exact h)
theorem wc_neI (h : Q (.bl (!decide (i = j))) H) : WC X .NotEq (.int i) (.int j) H Q := wc_ne rfl (by
  rw [show decide (V.int i = V.int j) = decide (i = j) from by simp]
  exact h)
theorem wc_eqS {s t : Str} (h : Q (.bl (decide (s = t))) H) : WC X .Eq (.str s) (.str t) H Q := wc_eq rfl (by
  rw [show decide (V.str s = V.str t) = decide (s = t) from by simp]
  exact h)
theorem wc_neS {s t : Str} (h : Q (.bl (!decide (s = t))) H) : WC X .NotEq (.str s) (.str t) H Q := wc_ne rfl (by
  rw [show decide (V.str s = V.str t) = decide (s = t) from by simp]
  exact h)
theorem wc_isN (h : Q (.bl (decide (x = .non))) H) : WC X .Is x .non H Q := ⟨_, op_isN, rfl, h⟩
theorem wc_notN (h : Q (.bl (!decide (x = .non))) H) : WC X .IsNot x .non H Q := ⟨_, op_notN, rfl, h⟩
theorem wc_eqD (g : Gd B lv sc N vm sm gs X) {d e : PyData} (hd : Dp B.K H x d) (he : Dp B.K H y e) (sd : SeqAt.shaped d = true) (se : SeqAt.shaped e = true) (h : Q (.bl (PyData.eqv d e)) H) : WC X .Eq x y H Q := by
  rw [← g.eK] at hd he
  exact ⟨_, op_eqD (by have := g.room.un; omega), d, e, hd, he, sd, se, h⟩
theorem wc_neD (g : Gd B lv sc N vm sm gs X) {d e : PyData} (hd : Dp B.K H x d) (he : Dp B.K H y e) (sd : SeqAt.shaped d = true) (se : SeqAt.shaped e = true) (h : Q (.bl (!PyData.eqv d e)) H) : WC X .NotEq x y H Q := by
  rw [← g.eK] at hd he
  exact ⟨_, op_neD (by have := g.room.un; omega), d, e, hd, he, sd, se, h⟩
theorem wc_inS {c : Nat} {z : Str} (h : Q (.bl (decide (c ∈ z.cps.toList))) H) : WC X .In (.str ⟨#[c]⟩) (.str z) H Q := ⟨_, op_in_sign, c, z, rfl, rfl, h⟩
theorem wc_in (g : Gd B lv sc N vm sm gs X) (hq : SqL B.K H a xs ∨ SqT B.K H a xs) (hx : flatV x = true) (hf : xs.all flatV = true) (h : Q (.bl (inV x xs)) H) : WC X .In x (.ref a) H Q := by
  rw [← g.eK] at hq
  exact ⟨_, op_in_seq, a, xs, rfl, hq, hx, hf, h⟩
theorem wc_ni (g : Gd B lv sc N vm sm gs X) (hq : SqL B.K H a xs ∨ SqT B.K H a xs) (hx : flatV x = true) (hf : xs.all flatV = true) (h : Q (.bl (!inV x xs)) H) : WC X .NotIn x (.ref a) H Q := by
  rw [← g.eK] at hq
  exact ⟨_, op_notIn_seq, a, xs, rfl, hq, hx, hf, h⟩
theorem wc_din (g : Gd B lv sc N vm sm gs X) {o : Option V} (hd : DGet H a y o) (h : Q (.bl o.isSome) H) : WC X .In y (.ref a) H Q := by
  refine ⟨fun y x H Q => ∃ a o, x = .ref a ∧ DGet H a y o ∧ Q (.bl o.isSome) H, fun pins s σ H x y v u Q I rx ry hq => ?_, a, o, rfl, hd, h⟩
  obtain ⟨a, o, rfl, hd, q⟩ := hq
  obtain rfl : u = Value.ref a := ry
  exact d_in g.hu I hd rx fun s3 I3 => ⟨.bl o.isSome, H, I3, rfl, q⟩
theorem wc_dni (g : Gd B lv sc N vm sm gs X) {o : Option V} (hd : DGet H a y o) (h : Q (.bl (!o.isSome)) H) : WC X .NotIn y (.ref a) H Q := by
  refine ⟨fun y x H Q => ∃ a o, x = .ref a ∧ DGet H a y o ∧ Q (.bl (!o.isSome)) H, fun pins s σ H x y v u Q I rx ry hq => ?_, a, o, rfl, hd, h⟩
  obtain ⟨a, o, rfl, hd, q⟩ := hq
  obtain rfl : u = Value.ref a := ry
  exact d_notIn g.hu I hd rx fun s3 I3 => ⟨.bl (!o.isSome), H, I3, rfl, q⟩
/-! ### subscripts, slices, stores -/
theorem wx_l (g : Gd B lv sc N vm sm gs X) (hx : SqL B.K H a xs) (hi : atI xs i = some v) (h : Q v H) : WX X (.ref a) (.int i) H Q := by
  rw [← g.eK] at hx
  exact ⟨_, ix_list, a, xs, i, v, rfl, rfl, hx, hi, h⟩
theorem wx_t (g : Gd B lv sc N vm sm gs X) (hx : SqT B.K H a xs) (hi : atI xs i = some v) (h : Q v H) : WX X (.ref a) (.int i) H Q := by
  rw [← g.eK] at hx
  exact ⟨_, ix_tup, a, xs, i, v, rfl, rfl, hx, hi, h⟩
theorem wx_s {z : Str} {c : Nat} (hl : z.length ≤ sizeLine) (hi : atI z.cps.toList i = some c) (h : Q (.str ⟨#[c]⟩) H) : WX X (.str z) (.int i) H Q := ⟨_, ix_str, z, i, c, rfl, rfl, hl, hi, h⟩
theorem wx_d (g : Gd B lv sc N vm sm gs X) (hd : DGet H a y (some v)) (h : Q v H) : WX X (.ref a) y H Q := by
  refine ⟨fun x y H Q => ∃ a v, x = .ref a ∧ DGet H a y (some v) ∧ Q v H, fun va sl pins s σ H x y v u Q I rx ry hq hs => ?_, a, v, rfl, hd, h⟩
  obtain ⟨a, w, rfl, hd, q⟩ := hq
  obtain rfl : v = Value.ref a := rx
  unfold subscriptTail
  exact tail_any (dict_typeIs I hd) PySem.F.slot_dict_getitem.lookup (d_getItem g.hu I hd ry fun w' s3 I3 rw' => ⟨w, H, I3, rw', q⟩) hs
theorem wst_l {k : Nat} (hl : H a = some (.lst xs)) (hk : ixN xs.length i = some k) (h : QH (upd H a (.lst (xs.set k v)))) : WSt X (.ref a) (.int i) v H QH := ⟨_, set_list, a, xs, i, k, rfl, rfl, hl, hk, h⟩
theorem wst_d (g : Gd B lv sc N vm sm gs X) {H' : Hp} (hd : DPut H a y v H') (h : QH H') : WSt X (.ref a) y v H QH := by
  refine ⟨fun o i v H Q => ∃ a H', o = .ref a ∧ DPut H a i v H' ∧ Q H', fun pins s σ H o i v ov iv u Q I ro ri rv hq => ?_, a, H', rfl, hd, h⟩
  obtain ⟨a, H', rfl, hd, q⟩ := hq
  obtain rfl : ov = Value.ref a := ro
  exact d_setItem g.hu I hd ri rv fun s3 I3 => ⟨H', I3, q⟩
theorem wsl_l (g : Gd B lv sc N vm sm gs X) {lo hi : Option Int} (hx : SqL B.K H a xs) (h : NewL (cutV xs lo hi) H Q) : WSl X (.ref a) lo hi H Q := by
  rw [← g.eK] at hx
  exact ⟨_, sl_list, a, xs, rfl, hx, h.2⟩
theorem wsl_t (g : Gd B lv sc N vm sm gs X) {lo hi : Option Int} (hx : SqT B.K H a xs) (hw : ¬ (HT.sIx xs.length 0 lo = 0 ∧ HT.sIx xs.length xs.length hi = xs.length)) (h : NewT (cutV xs lo hi) H Q) : WSl X (.ref a) lo hi H Q := by
  rw [← g.eK] at hx
  exact ⟨_, sl_tup, a, xs, rfl, hx, hw, h.2⟩
theorem wsl_s {z : Str} {lo hi : Option Int} (hl : z.length ≤ sizeLine) (h : Q (.str (cutS z lo hi)) H) : WSl X (.str z) lo hi H Q := ⟨_, sl_str, z, rfl, hl, h⟩
/-! ### calls of builtins -/
theorem wcl_lenS {z : Str} (hl : z.length ≤ sizeLine) (h : Q (.int z.length) H) : WCl X (.builtin "len") [.str z] H Q := ⟨_, call_len_str, z, rfl, hl, h⟩
theorem wcl_lenL (g : Gd B lv sc N vm sm gs X) (hx : SqL B.K H a xs) (h : Q (.int xs.length) H) : WCl X (.builtin "len") [.ref a] H Q := by
  rw [← g.eK] at hx
  exact ⟨_, call_len_seq, a, xs, rfl, .inl hx, h⟩
theorem wcl_lenT (g : Gd B lv sc N vm sm gs X) (hx : SqT B.K H a xs) (h : Q (.int xs.length) H) : WCl X (.builtin "len") [.ref a] H Q := by
  rw [← g.eK] at hx
  exact ⟨_, call_len_seq, a, xs, rfl, .inr hx, h⟩
theorem wcl_isi (g : Gd B lv sc N vm sm gs X) {c : V} {t u : Value} {k : Bool} (hc : ClsV c u) (ht : TyX B.K H x t) (hk : PySem.W.kitOne B.K t u = some k) (h : Q (.bl k) H) : WCl X (.builtin "isinstance") [x, c] H Q := by
  rw [← g.eK] at ht hk
  exact ⟨_, call_isi, x, c, t, u, k, rfl, hc, ht, hk, h⟩
theorem wcl_all (g : Gd B lv sc N vm sm gs X) {bs : List Bool} (hx : SqL B.K H a (bs.map V.bl)) (h : Q (.bl (bs.all id)) H) : WCl X (.builtin "all") [.ref a] H Q := by
  rw [← g.eK] at hx
  exact ⟨_, cr_all g.calm, a, bs, rfl, hx, h⟩
theorem wcl_sum (g : Gd B lv sc N vm sm gs X) {ns : List Int} (hx : SqL B.K H a (ns.map V.int)) (h : Q (.int ns.sum) H) : WCl X (.builtin "sum") [.ref a] H Q := by
  rw [← g.eK] at hx
  exact ⟨_, cr_sum g.calm, a, ns, rfl, hx, h⟩
theorem wcl_max (g : Gd B lv sc N vm sm gs X) {ns : List Int} (hx : SqL B.K H a (ns.map V.int)) (hn : 0 < ns.length) (h : ∀ m, m ∈ ns → (∀ y, y ∈ ns → y ≤ m) → Q (.int m) H) : WCl X (.builtin "max") [.ref a] H Q := by
  rw [← g.eK] at hx
  exact ⟨_, cr_max g.calm, a, ns, rfl, hx, hn, h⟩
theorem wcl_min (g : Gd B lv sc N vm sm gs X) {ns : List Int} (hx : SqL B.K H a (ns.map V.int)) (hn : 0 < ns.length) (h : ∀ m, m ∈ ns → (∀ y, y ∈ ns → m ≤ y) → Q (.int m) H) : WCl X (.builtin "min") [.ref a] H Q := by
  rw [← g.eK] at hx
  exact ⟨_, cr_min g.calm, a, ns, rfl, hx, hn, h⟩
theorem wcl_max2 (g : Gd B lv sc N vm sm gs X) (h : Q (.int (if j > i then j else i)) H) : WCl X (.builtin "max") [.int i, .int j] H Q := ⟨_, call_max2 g.calm, i, j, rfl, h⟩
theorem wcl_min2 (g : Gd B lv sc N vm sm gs X) (h : Q (.int (if j < i then j else i)) H) : WCl X (.builtin "min") [.int i, .int j] H Q := ⟨_, call_min2 g.calm, i, j, rfl, h⟩
theorem wcl_intS {z : Str} {n : Int} (hn : PySem.intText? z = some n) (hl : z.length ≤ 640) (h : Q (.int n) H) : WCl X (.type "int") [.str z] H Q := ⟨_, call_int_str, z, n, rfl, hn, hl, h⟩
theorem wcl_intB {k : Bool} (h : Q (.int (if k then 1 else 0)) H) : WCl X (.type "int") [.bl k] H Q := ⟨_, call_int1, .inr ⟨k, rfl, h⟩⟩
theorem wcl_strI (hl : i.natAbs.log2 < 1920) (h : Q (.str (toString i)) H) : WCl X (.type "str") [.int i] H Q := ⟨_, call_str_int, i, rfl, hl, h⟩
theorem wcl_listL (g : Gd B lv sc N vm sm gs X) (hx : SqL B.K H a xs) (hl : xs.length ≤ sizeLine) (h : NewL xs H Q) : WCl X (.type "list") [.ref a] H Q := by
  rw [← g.eK] at hx
  exact ⟨_, call_list_of, a, xs, rfl, .inl hx, h.2⟩
/-! ### methods of built-in types -/
theorem wm_append (hl : H a = some (.lst xs)) (hz : xs.length < sizeLine) (h : Q .non (upd H a (.lst (xs ++ [v])))) : WM X "list.append" (.ref a) [v] H Q := ⟨_, mt_append, a, xs, v, rfl, rfl, hl, hz, h⟩
theorem wm_extend (hl : H a = some (.lst xs)) (hb : H b = some (.lst ys)) (hz : xs.length + ys.length ≤ sizeLine) (h : Q .non (upd H a (.lst (xs ++ ys)))) : WM X "list.extend" (.ref a) [.ref b] H Q := ⟨_, mt_extend, a, b, xs, ys, rfl, rfl, hl, hb, hz, h⟩
theorem wm_pop {k : Nat} (hl : H a = some (.lst xs)) (hi : -(2 ^ 63) ≤ i ∧ i < 2 ^ 63) (hk : seqIndex? i xs.length = some k) (hv : xs[k]? = some v) (h : Q v (upd H a (.lst (xs.eraseIdx k)))) : WM X "list.pop" (.ref a) [.int i] H Q := ⟨_, mt_popAt, a, xs, i, k, v, rfl, rfl, hl, hi.1, hi.2, hk, hv, h⟩
theorem wm_split {s t : Str} (ht : (t.length == 0) = false) (hl : s.length + 2 ≤ sizeLine) (h : NewL ((Txt.split s t).map V.str) H Q) : WM X "str.split" (.str s) [.str t] H Q := ⟨_, mt_split, s, t, rfl, rfl, ht, hl, h.2⟩
theorem wm_join (g : Gd B lv sc N vm sm gs X) {s : Str} {zs : List Str} (hx : SqL B.K H a (zs.map V.str)) (hl : (zs.map (·.length)).sum + zs.length * s.length ≤ 16777216) (h : Q (.str (Txt.join s zs)) H) : WM X "str.join" (.str s) [.ref a] H Q := by
  rw [← g.eK] at hx
  exact ⟨_, mt_join, s, a, zs, rfl, rfl, .inl hx, hl, h⟩
end
section
variable {X : Cx} {B : Bs} {lv : Nat} {sc : Scope} {vm sm : List Bool} {gs : List Str} {N : List Str} {σ : L2.St} {H : Hp} {Q : VK} {o e f : Expr} {es : List Expr} {apos pos : Pos}
theorem we_append (g : Gd B lv sc N vm sm gs X) (h : WE X o σ H fun x H1 => tyV B.K "list" x H1 ∧ WA X [e] σ H1 fun xs H2 => WM X "list.append" x xs H2 Q)
    (hbase : attributeBase o "append" X.env (eval o X.env) = eval o X.env := by rfl)
    (hfew : ((backTo pos (starEach [e] X.env)).all (fun x => !x.1) && (backToKw pos (keywordEach [] X.env)).all (fun x => x.1.isSome) && decide (([e] : List Expr).length + ([] : List Keyword).length + (if ([] : List Keyword).isEmpty then 0 else 1) < 30)) = true := by rfl)
    (hline : (apos.endLine == pos.line) = true := by rfl) (hs : starEach [e] X.env = (false, eval e X.env) :: starEach [] X.env := by rfl) (hplain : (backTo pos (starEach [] X.env)).any (·.1) = false := by rfl) :
    WE X (.Call (.Attribute o "append" apos) [e] [] pos) σ H Q := we_bm g PySem.F.plainAttrs_list PySem.F.slot_list_append PySem.F.type_list_append h hbase hfew hline hs hplain
theorem we_extend (g : Gd B lv sc N vm sm gs X) (h : WE X o σ H fun x H1 => tyV B.K "list" x H1 ∧ WA X [e] σ H1 fun xs H2 => WM X "list.extend" x xs H2 Q)
    (hbase : attributeBase o "extend" X.env (eval o X.env) = eval o X.env := by rfl)
    (hfew : ((backTo pos (starEach [e] X.env)).all (fun x => !x.1) && (backToKw pos (keywordEach [] X.env)).all (fun x => x.1.isSome) && decide (([e] : List Expr).length + ([] : List Keyword).length + (if ([] : List Keyword).isEmpty then 0 else 1) < 30)) = true := by rfl)
    (hline : (apos.endLine == pos.line) = true := by rfl) (hs : starEach [e] X.env = (false, eval e X.env) :: starEach [] X.env := by rfl) (hplain : (backTo pos (starEach [] X.env)).any (·.1) = false := by rfl) :
    WE X (.Call (.Attribute o "extend" apos) [e] [] pos) σ H Q := we_bm g PySem.F.plainAttrs_list PySem.F.slot_list_extend PySem.F.type_list_extend h hbase hfew hline hs hplain
theorem we_pop (g : Gd B lv sc N vm sm gs X) (h : WE X o σ H fun x H1 => tyV B.K "list" x H1 ∧ WA X [e] σ H1 fun xs H2 => WM X "list.pop" x xs H2 Q)
    (hbase : attributeBase o "pop" X.env (eval o X.env) = eval o X.env := by rfl)
    (hfew : ((backTo pos (starEach [e] X.env)).all (fun x => !x.1) && (backToKw pos (keywordEach [] X.env)).all (fun x => x.1.isSome) && decide (([e] : List Expr).length + ([] : List Keyword).length + (if ([] : List Keyword).isEmpty then 0 else 1) < 30)) = true := by rfl)
    (hline : (apos.endLine == pos.line) = true := by rfl) (hs : starEach [e] X.env = (false, eval e X.env) :: starEach [] X.env := by rfl) (hplain : (backTo pos (starEach [] X.env)).any (·.1) = false := by rfl) :
    WE X (.Call (.Attribute o "pop" apos) [e] [] pos) σ H Q := we_bm g PySem.F.plainAttrs_list PySem.F.slot_list_pop PySem.F.type_list_pop h hbase hfew hline hs hplain
theorem we_split (g : Gd B lv sc N vm sm gs X) (h : WE X o σ H fun x H1 => tyV B.K "str" x H1 ∧ WA X [e] σ H1 fun xs H2 => WM X "str.split" x xs H2 Q)
    (hbase : attributeBase o "split" X.env (eval o X.env) = eval o X.env := by rfl)
    (hfew : ((backTo pos (starEach [e] X.env)).all (fun x => !x.1) && (backToKw pos (keywordEach [] X.env)).all (fun x => x.1.isSome) && decide (([e] : List Expr).length + ([] : List Keyword).length + (if ([] : List Keyword).isEmpty then 0 else 1) < 30)) = true := by rfl)
    (hline : (apos.endLine == pos.line) = true := by rfl) (hs : starEach [e] X.env = (false, eval e X.env) :: starEach [] X.env := by rfl) (hplain : (backTo pos (starEach [] X.env)).any (·.1) = false := by rfl) :
    WE X (.Call (.Attribute o "split" apos) [e] [] pos) σ H Q := we_bm g PySem.F.plainAttrs_str PySem.F.slot_str_split PySem.F.type_str_split h hbase hfew hline hs hplain
theorem we_join (g : Gd B lv sc N vm sm gs X) (h : WE X o σ H fun x H1 => tyV B.K "str" x H1 ∧ WA X [e] σ H1 fun xs H2 => WM X "str.join" x xs H2 Q)
    (hbase : attributeBase o "join" X.env (eval o X.env) = eval o X.env := by rfl)
    (hfew : ((backTo pos (starEach [e] X.env)).all (fun x => !x.1) && (backToKw pos (keywordEach [] X.env)).all (fun x => x.1.isSome) && decide (([e] : List Expr).length + ([] : List Keyword).length + (if ([] : List Keyword).isEmpty then 0 else 1) < 30)) = true := by rfl)
    (hline : (apos.endLine == pos.line) = true := by rfl) (hs : starEach [e] X.env = (false, eval e X.env) :: starEach [] X.env := by rfl) (hplain : (backTo pos (starEach [] X.env)).any (·.1) = false := by rfl) :
    WE X (.Call (.Attribute o "join" apos) [e] [] pos) σ H Q := we_bm g PySem.F.plainAttrs_str PySem.F.slot_str_join PySem.F.type_str_join h hbase hfew hline hs hplain
/-- d.get(k), d.setdefault(k, x) -/
theorem we_dget (g : Gd B lv sc N vm sm gs X) (h : WE X o σ H fun x H1 => ∃ a, x = .ref a ∧ IsD H1 a ∧ WE X e σ H1 fun y H2 => ∃ r, DGet H2 a y r ∧ Q (r.getD .non) H2)
    (m : M1 X o "get" apos e pos := by exact ⟨rfl, rfl, rfl, rfl⟩) : WE X (.Call (.Attribute o "get" apos) [e] [] pos) σ H Q := ⟨_, pe_dget1 g.hu p_e p_e m, h⟩
theorem we_dsetd (h : WE X o σ H fun x H1 => ∃ a, x = .ref a ∧ IsD H1 a ∧ WE X e σ H1 fun y H2 => WE X f σ H2 fun z H3 => ∃ (kvs : List (Key × V)) (k : Key), H3 a = some (.dK kvs) ∧ y = kV k ∧ kvs.length < sizeLine ∧
      (∀ v, valV kvs k = some v → Q v H3) ∧ (valV kvs k = none → Q z (upd H3 a (.dK (putK kvs k z)))))
    (m : M2 X o "setdefault" apos e f pos := by exact ⟨rfl, rfl, rfl, rfl⟩) : WE X (.Call (.Attribute o "setdefault" apos) [e, f] [] pos) σ H Q := ⟨_, pe_dsetd p_e p_e p_e m, h⟩
end
end U
/-! ### text U2 -/
set_option maxHeartbeats 4000000
namespace U
open PySem PySem.Spec PyProof.Rows L2
section
variable {X : Cx} {B : Bs} {lv : Nat} {sc : Scope} {vm sm : List Bool} {gs : List Str} {N : List Str} {σ : L2.St} {H : Hp} {Q : VK} {v : V} {x : Str} {pos pos' : Pos} {QS : L2.St → Hp → Prop} {D : Ends} {e : Expr}
theorem nm0 (g : Gd B lv sc (x :: N) vm sm gs X) (hv : vm[0]? = some true) (h : Q v H) : WE X (.Name x pos) (some v :: σ) H Q := we_nm g 0 rfl hv rfl h
theorem sn0 {o : Option V} (g : Gd B lv sc (x :: N) vm sm gs X) (hl : sm[0]? = some true) (h : QS (some v :: σ) H) : WG X (.Name x pos) v (o :: σ) H QS := wg_nm g 0 rfl hl h
theorem au0 {w : V} {op : Operator} (g : Gd B lv sc (x :: N) vm sm gs X) (hl : sm[0]? = some true) (h : WE X e (some w :: σ) H fun y H1 => WIp X op w y H1 fun z H2 => D.nx (some z :: σ) H2) : WS X (.AugAssign (.Name x pos') op e pos) D (some w :: σ) H := ws_aug g 0 rfl hl rfl h
theorem nm1 {n0 : Str} {s0 : Option V} (g : Gd B lv sc (n0 :: x :: N) vm sm gs X) (hv : vm[1]? = some true) (h : Q v H) : WE X (.Name x pos) (s0 :: some v :: σ) H Q := we_nm g 1 rfl hv rfl h
theorem sn1 {n0 : Str} {s0 : Option V} {o : Option V} (g : Gd B lv sc (n0 :: x :: N) vm sm gs X) (hl : sm[1]? = some true) (h : QS (s0 :: some v :: σ) H) : WG X (.Name x pos) v (s0 :: o :: σ) H QS := wg_nm g 1 rfl hl h
theorem au1 {n0 : Str} {s0 : Option V} {w : V} {op : Operator} (g : Gd B lv sc (n0 :: x :: N) vm sm gs X) (hl : sm[1]? = some true) (h : WE X e (s0 :: some w :: σ) H fun y H1 => WIp X op w y H1 fun z H2 => D.nx (s0 :: some z :: σ) H2) : WS X (.AugAssign (.Name x pos') op e pos) D (s0 :: some w :: σ) H := ws_aug g 1 rfl hl rfl h
theorem nm2 {n0 n1 : Str} {s0 s1 : Option V} (g : Gd B lv sc (n0 :: n1 :: x :: N) vm sm gs X) (hv : vm[2]? = some true) (h : Q v H) : WE X (.Name x pos) (s0 :: s1 :: some v :: σ) H Q := we_nm g 2 rfl hv rfl h
theorem sn2 {n0 n1 : Str} {s0 s1 : Option V} {o : Option V} (g : Gd B lv sc (n0 :: n1 :: x :: N) vm sm gs X) (hl : sm[2]? = some true) (h : QS (s0 :: s1 :: some v :: σ) H) : WG X (.Name x pos) v (s0 :: s1 :: o :: σ) H QS := wg_nm g 2 rfl hl h
theorem au2 {n0 n1 : Str} {s0 s1 : Option V} {w : V} {op : Operator} (g : Gd B lv sc (n0 :: n1 :: x :: N) vm sm gs X) (hl : sm[2]? = some true) (h : WE X e (s0 :: s1 :: some w :: σ) H fun y H1 => WIp X op w y H1 fun z H2 => D.nx (s0 :: s1 :: some z :: σ) H2) : WS X (.AugAssign (.Name x pos') op e pos) D (s0 :: s1 :: some w :: σ) H := ws_aug g 2 rfl hl rfl h
theorem nm3 {n0 n1 n2 : Str} {s0 s1 s2 : Option V} (g : Gd B lv sc (n0 :: n1 :: n2 :: x :: N) vm sm gs X) (hv : vm[3]? = some true) (h : Q v H) : WE X (.Name x pos) (s0 :: s1 :: s2 :: some v :: σ) H Q := we_nm g 3 rfl hv rfl h
theorem sn3 {n0 n1 n2 : Str} {s0 s1 s2 : Option V} {o : Option V} (g : Gd B lv sc (n0 :: n1 :: n2 :: x :: N) vm sm gs X) (hl : sm[3]? = some true) (h : QS (s0 :: s1 :: s2 :: some v :: σ) H) : WG X (.Name x pos) v (s0 :: s1 :: s2 :: o :: σ) H QS := wg_nm g 3 rfl hl h
theorem au3 {n0 n1 n2 : Str} {s0 s1 s2 : Option V} {w : V} {op : Operator} (g : Gd B lv sc (n0 :: n1 :: n2 :: x :: N) vm sm gs X) (hl : sm[3]? = some true) (h : WE X e (s0 :: s1 :: s2 :: some w :: σ) H fun y H1 => WIp X op w y H1 fun z H2 => D.nx (s0 :: s1 :: s2 :: some z :: σ) H2) : WS X (.AugAssign (.Name x pos') op e pos) D (s0 :: s1 :: s2 :: some w :: σ) H := ws_aug g 3 rfl hl rfl h
theorem nm4 {n0 n1 n2 n3 : Str} {s0 s1 s2 s3 : Option V} (g : Gd B lv sc (n0 :: n1 :: n2 :: n3 :: x :: N) vm sm gs X) (hv : vm[4]? = some true) (h : Q v H) : WE X (.Name x pos) (s0 :: s1 :: s2 :: s3 :: some v :: σ) H Q := we_nm g 4 rfl hv rfl h
theorem sn4 {n0 n1 n2 n3 : Str} {s0 s1 s2 s3 : Option V} {o : Option V} (g : Gd B lv sc (n0 :: n1 :: n2 :: n3 :: x :: N) vm sm gs X) (hl : sm[4]? = some true) (h : QS (s0 :: s1 :: s2 :: s3 :: some v :: σ) H) : WG X (.Name x pos) v (s0 :: s1 :: s2 :: s3 :: o :: σ) H QS := wg_nm g 4 rfl hl h
theorem au4 {n0 n1 n2 n3 : Str} {s0 s1 s2 s3 : Option V} {w : V} {op : Operator} (g : Gd B lv sc (n0 :: n1 :: n2 :: n3 :: x :: N) vm sm gs X) (hl : sm[4]? = some true) (h : WE X e (s0 :: s1 :: s2 :: s3 :: some w :: σ) H fun y H1 => WIp X op w y H1 fun z H2 => D.nx (s0 :: s1 :: s2 :: s3 :: some z :: σ) H2) : WS X (.AugAssign (.Name x pos') op e pos) D (s0 :: s1 :: s2 :: s3 :: some w :: σ) H := ws_aug g 4 rfl hl rfl h
theorem nm5 {n0 n1 n2 n3 n4 : Str} {s0 s1 s2 s3 s4 : Option V} (g : Gd B lv sc (n0 :: n1 :: n2 :: n3 :: n4 :: x :: N) vm sm gs X) (hv : vm[5]? = some true) (h : Q v H) : WE X (.Name x pos) (s0 :: s1 :: s2 :: s3 :: s4 :: some v :: σ) H Q := we_nm g 5 rfl hv rfl h
theorem sn5 {n0 n1 n2 n3 n4 : Str} {s0 s1 s2 s3 s4 : Option V} {o : Option V} (g : Gd B lv sc (n0 :: n1 :: n2 :: n3 :: n4 :: x :: N) vm sm gs X) (hl : sm[5]? = some true) (h : QS (s0 :: s1 :: s2 :: s3 :: s4 :: some v :: σ) H) : WG X (.Name x pos) v (s0 :: s1 :: s2 :: s3 :: s4 :: o :: σ) H QS := wg_nm g 5 rfl hl h
theorem au5 {n0 n1 n2 n3 n4 : Str} {s0 s1 s2 s3 s4 : Option V} {w : V} {op : Operator} (g : Gd B lv sc (n0 :: n1 :: n2 :: n3 :: n4 :: x :: N) vm sm gs X) (hl : sm[5]? = some true) (h : WE X e (s0 :: s1 :: s2 :: s3 :: s4 :: some w :: σ) H fun y H1 => WIp X op w y H1 fun z H2 => D.nx (s0 :: s1 :: s2 :: s3 :: s4 :: some z :: σ) H2) : WS X (.AugAssign (.Name x pos') op e pos) D (s0 :: s1 :: s2 :: s3 :: s4 :: some w :: σ) H := ws_aug g 5 rfl hl rfl h
theorem nm6 {n0 n1 n2 n3 n4 n5 : Str} {s0 s1 s2 s3 s4 s5 : Option V} (g : Gd B lv sc (n0 :: n1 :: n2 :: n3 :: n4 :: n5 :: x :: N) vm sm gs X) (hv : vm[6]? = some true) (h : Q v H) : WE X (.Name x pos) (s0 :: s1 :: s2 :: s3 :: s4 :: s5 :: some v :: σ) H Q := we_nm g 6 rfl hv rfl h
theorem sn6 {n0 n1 n2 n3 n4 n5 : Str} {s0 s1 s2 s3 s4 s5 : Option V} {o : Option V} (g : Gd B lv sc (n0 :: n1 :: n2 :: n3 :: n4 :: n5 :: x :: N) vm sm gs X) (hl : sm[6]? = some true) (h : QS (s0 :: s1 :: s2 :: s3 :: s4 :: s5 :: some v :: σ) H) : WG X (.Name x pos) v (s0 :: s1 :: s2 :: s3 :: s4 :: s5 :: o :: σ) H QS := wg_nm g 6 rfl hl h
theorem au6 {n0 n1 n2 n3 n4 n5 : Str} {s0 s1 s2 s3 s4 s5 : Option V} {w : V} {op : Operator} (g : Gd B lv sc (n0 :: n1 :: n2 :: n3 :: n4 :: n5 :: x :: N) vm sm gs X) (hl : sm[6]? = some true) (h : WE X e (s0 :: s1 :: s2 :: s3 :: s4 :: s5 :: some w :: σ) H fun y H1 => WIp X op w y H1 fun z H2 => D.nx (s0 :: s1 :: s2 :: s3 :: s4 :: s5 :: some z :: σ) H2) : WS X (.AugAssign (.Name x pos') op e pos) D (s0 :: s1 :: s2 :: s3 :: s4 :: s5 :: some w :: σ) H := ws_aug g 6 rfl hl rfl h
theorem nm7 {n0 n1 n2 n3 n4 n5 n6 : Str} {s0 s1 s2 s3 s4 s5 s6 : Option V} (g : Gd B lv sc (n0 :: n1 :: n2 :: n3 :: n4 :: n5 :: n6 :: x :: N) vm sm gs X) (hv : vm[7]? = some true) (h : Q v H) : WE X (.Name x pos) (s0 :: s1 :: s2 :: s3 :: s4 :: s5 :: s6 :: some v :: σ) H Q := we_nm g 7 rfl hv rfl h
theorem sn7 {n0 n1 n2 n3 n4 n5 n6 : Str} {s0 s1 s2 s3 s4 s5 s6 : Option V} {o : Option V} (g : Gd B lv sc (n0 :: n1 :: n2 :: n3 :: n4 :: n5 :: n6 :: x :: N) vm sm gs X) (hl : sm[7]? = some true) (h : QS (s0 :: s1 :: s2 :: s3 :: s4 :: s5 :: s6 :: some v :: σ) H) : WG X (.Name x pos) v (s0 :: s1 :: s2 :: s3 :: s4 :: s5 :: s6 :: o :: σ) H QS := wg_nm g 7 rfl hl h
theorem au7 {n0 n1 n2 n3 n4 n5 n6 : Str} {s0 s1 s2 s3 s4 s5 s6 : Option V} {w : V} {op : Operator} (g : Gd B lv sc (n0 :: n1 :: n2 :: n3 :: n4 :: n5 :: n6 :: x :: N) vm sm gs X) (hl : sm[7]? = some true) (h : WE X e (s0 :: s1 :: s2 :: s3 :: s4 :: s5 :: s6 :: some w :: σ) H fun y H1 => WIp X op w y H1 fun z H2 => D.nx (s0 :: s1 :: s2 :: s3 :: s4 :: s5 :: s6 :: some z :: σ) H2) : WS X (.AugAssign (.Name x pos') op e pos) D (s0 :: s1 :: s2 :: s3 :: s4 :: s5 :: s6 :: some w :: σ) H := ws_aug g 7 rfl hl rfl h
theorem nm8 {n0 n1 n2 n3 n4 n5 n6 n7 : Str} {s0 s1 s2 s3 s4 s5 s6 s7 : Option V} (g : Gd B lv sc (n0 :: n1 :: n2 :: n3 :: n4 :: n5 :: n6 :: n7 :: x :: N) vm sm gs X) (hv : vm[8]? = some true) (h : Q v H) : WE X (.Name x pos) (s0 :: s1 :: s2 :: s3 :: s4 :: s5 :: s6 :: s7 :: some v :: σ) H Q := we_nm g 8 rfl hv rfl h
theorem sn8 {n0 n1 n2 n3 n4 n5 n6 n7 : Str} {s0 s1 s2 s3 s4 s5 s6 s7 : Option V} {o : Option V} (g : Gd B lv sc (n0 :: n1 :: n2 :: n3 :: n4 :: n5 :: n6 :: n7 :: x :: N) vm sm gs X) (hl : sm[8]? = some true) (h : QS (s0 :: s1 :: s2 :: s3 :: s4 :: s5 :: s6 :: s7 :: some v :: σ) H) : WG X (.Name x pos) v (s0 :: s1 :: s2 :: s3 :: s4 :: s5 :: s6 :: s7 :: o :: σ) H QS := wg_nm g 8 rfl hl h
theorem au8 {n0 n1 n2 n3 n4 n5 n6 n7 : Str} {s0 s1 s2 s3 s4 s5 s6 s7 : Option V} {w : V} {op : Operator} (g : Gd B lv sc (n0 :: n1 :: n2 :: n3 :: n4 :: n5 :: n6 :: n7 :: x :: N) vm sm gs X) (hl : sm[8]? = some true) (h : WE X e (s0 :: s1 :: s2 :: s3 :: s4 :: s5 :: s6 :: s7 :: some w :: σ) H fun y H1 => WIp X op w y H1 fun z H2 => D.nx (s0 :: s1 :: s2 :: s3 :: s4 :: s5 :: s6 :: s7 :: some z :: σ) H2) : WS X (.AugAssign (.Name x pos') op e pos) D (s0 :: s1 :: s2 :: s3 :: s4 :: s5 :: s6 :: s7 :: some w :: σ) H := ws_aug g 8 rfl hl rfl h
theorem nm9 {n0 n1 n2 n3 n4 n5 n6 n7 n8 : Str} {s0 s1 s2 s3 s4 s5 s6 s7 s8 : Option V} (g : Gd B lv sc (n0 :: n1 :: n2 :: n3 :: n4 :: n5 :: n6 :: n7 :: n8 :: x :: N) vm sm gs X) (hv : vm[9]? = some true) (h : Q v H) : WE X (.Name x pos) (s0 :: s1 :: s2 :: s3 :: s4 :: s5 :: s6 :: s7 :: s8 :: some v :: σ) H Q := we_nm g 9 rfl hv rfl h
theorem sn9 {n0 n1 n2 n3 n4 n5 n6 n7 n8 : Str} {s0 s1 s2 s3 s4 s5 s6 s7 s8 : Option V} {o : Option V} (g : Gd B lv sc (n0 :: n1 :: n2 :: n3 :: n4 :: n5 :: n6 :: n7 :: n8 :: x :: N) vm sm gs X) (hl : sm[9]? = some true) (h : QS (s0 :: s1 :: s2 :: s3 :: s4 :: s5 :: s6 :: s7 :: s8 :: some v :: σ) H) : WG X (.Name x pos) v (s0 :: s1 :: s2 :: s3 :: s4 :: s5 :: s6 :: s7 :: s8 :: o :: σ) H QS := wg_nm g 9 rfl hl h
theorem au9 {n0 n1 n2 n3 n4 n5 n6 n7 n8 : Str} {s0 s1 s2 s3 s4 s5 s6 s7 s8 : Option V} {w : V} {op : Operator} (g : Gd B lv sc (n0 :: n1 :: n2 :: n3 :: n4 :: n5 :: n6 :: n7 :: n8 :: x :: N) vm sm gs X) (hl : sm[9]? = some true) (h : WE X e (s0 :: s1 :: s2 :: s3 :: s4 :: s5 :: s6 :: s7 :: s8 :: some w :: σ) H fun y H1 => WIp X op w y H1 fun z H2 => D.nx (s0 :: s1 :: s2 :: s3 :: s4 :: s5 :: s6 :: s7 :: s8 :: some z :: σ) H2) : WS X (.AugAssign (.Name x pos') op e pos) D (s0 :: s1 :: s2 :: s3 :: s4 :: s5 :: s6 :: s7 :: s8 :: some w :: σ) H := ws_aug g 9 rfl hl rfl h
theorem nm10 {n0 n1 n2 n3 n4 n5 n6 n7 n8 n9 : Str} {s0 s1 s2 s3 s4 s5 s6 s7 s8 s9 : Option V} (g : Gd B lv sc (n0 :: n1 :: n2 :: n3 :: n4 :: n5 :: n6 :: n7 :: n8 :: n9 :: x :: N) vm sm gs X) (hv : vm[10]? = some true) (h : Q v H) : WE X (.Name x pos) (s0 :: s1 :: s2 :: s3 :: s4 :: s5 :: s6 :: s7 :: s8 :: s9 :: some v :: σ) H Q := we_nm g 10 rfl hv rfl h
theorem sn10 {n0 n1 n2 n3 n4 n5 n6 n7 n8 n9 : Str} {s0 s1 s2 s3 s4 s5 s6 s7 s8 s9 : Option V} {o : Option V} (g : Gd B lv sc (n0 :: n1 :: n2 :: n3 :: n4 :: n5 :: n6 :: n7 :: n8 :: n9 :: x :: N) vm sm gs X) (hl : sm[10]? = some true) (h : QS (s0 :: s1 :: s2 :: s3 :: s4 :: s5 :: s6 :: s7 :: s8 :: s9 :: some v :: σ) H) : WG X (.Name x pos) v (s0 :: s1 :: s2 :: s3 :: s4 :: s5 :: s6 :: s7 :: s8 :: s9 :: o :: σ) H QS := wg_nm g 10 rfl hl h
theorem au10 {n0 n1 n2 n3 n4 n5 n6 n7 n8 n9 : Str} {s0 s1 s2 s3 s4 s5 s6 s7 s8 s9 : Option V} {w : V} {op : Operator} (g : Gd B lv sc (n0 :: n1 :: n2 :: n3 :: n4 :: n5 :: n6 :: n7 :: n8 :: n9 :: x :: N) vm sm gs X) (hl : sm[10]? = some true) (h : WE X e (s0 :: s1 :: s2 :: s3 :: s4 :: s5 :: s6 :: s7 :: s8 :: s9 :: some w :: σ) H fun y H1 => WIp X op w y H1 fun z H2 => D.nx (s0 :: s1 :: s2 :: s3 :: s4 :: s5 :: s6 :: s7 :: s8 :: s9 :: some z :: σ) H2) : WS X (.AugAssign (.Name x pos') op e pos) D (s0 :: s1 :: s2 :: s3 :: s4 :: s5 :: s6 :: s7 :: s8 :: s9 :: some w :: σ) H := ws_aug g 10 rfl hl rfl h
theorem nm11 {n0 n1 n2 n3 n4 n5 n6 n7 n8 n9 n10 : Str} {s0 s1 s2 s3 s4 s5 s6 s7 s8 s9 s10 : Option V} (g : Gd B lv sc (n0 :: n1 :: n2 :: n3 :: n4 :: n5 :: n6 :: n7 :: n8 :: n9 :: n10 :: x :: N) vm sm gs X) (hv : vm[11]? = some true) (h : Q v H) : WE X (.Name x pos) (s0 :: s1 :: s2 :: s3 :: s4 :: s5 :: s6 :: s7 :: s8 :: s9 :: s10 :: some v :: σ) H Q := we_nm g 11 rfl hv rfl h
theorem sn11 {n0 n1 n2 n3 n4 n5 n6 n7 n8 n9 n10 : Str} {s0 s1 s2 s3 s4 s5 s6 s7 s8 s9 s10 : Option V} {o : Option V} (g : Gd B lv sc (n0 :: n1 :: n2 :: n3 :: n4 :: n5 :: n6 :: n7 :: n8 :: n9 :: n10 :: x :: N) vm sm gs X) (hl : sm[11]? = some true) (h : QS (s0 :: s1 :: s2 :: s3 :: s4 :: s5 :: s6 :: s7 :: s8 :: s9 :: s10 :: some v :: σ) H) : WG X (.Name x pos) v (s0 :: s1 :: s2 :: s3 :: s4 :: s5 :: s6 :: s7 :: s8 :: s9 :: s10 :: o :: σ) H QS := wg_nm g 11 rfl hl h
theorem au11 {n0 n1 n2 n3 n4 n5 n6 n7 n8 n9 n10 : Str} {s0 s1 s2 s3 s4 s5 s6 s7 s8 s9 s10 : Option V} {w : V} {op : Operator} (g : Gd B lv sc (n0 :: n1 :: n2 :: n3 :: n4 :: n5 :: n6 :: n7 :: n8 :: n9 :: n10 :: x :: N) vm sm gs X) (hl : sm[11]? = some true) (h : WE X e (s0 :: s1 :: s2 :: s3 :: s4 :: s5 :: s6 :: s7 :: s8 :: s9 :: s10 :: some w :: σ) H fun y H1 => WIp X op w y H1 fun z H2 => D.nx (s0 :: s1 :: s2 :: s3 :: s4 :: s5 :: s6 :: s7 :: s8 :: s9 :: s10 :: some z :: σ) H2) : WS X (.AugAssign (.Name x pos') op e pos) D (s0 :: s1 :: s2 :: s3 :: s4 :: s5 :: s6 :: s7 :: s8 :: s9 :: s10 :: some w :: σ) H := ws_aug g 11 rfl hl rfl h
theorem nm12 {n0 n1 n2 n3 n4 n5 n6 n7 n8 n9 n10 n11 : Str} {s0 s1 s2 s3 s4 s5 s6 s7 s8 s9 s10 s11 : Option V} (g : Gd B lv sc (n0 :: n1 :: n2 :: n3 :: n4 :: n5 :: n6 :: n7 :: n8 :: n9 :: n10 :: n11 :: x :: N) vm sm gs X) (hv : vm[12]? = some true) (h : Q v H) : WE X (.Name x pos) (s0 :: s1 :: s2 :: s3 :: s4 :: s5 :: s6 :: s7 :: s8 :: s9 :: s10 :: s11 :: some v :: σ) H Q := we_nm g 12 rfl hv rfl h
theorem sn12 {n0 n1 n2 n3 n4 n5 n6 n7 n8 n9 n10 n11 : Str} {s0 s1 s2 s3 s4 s5 s6 s7 s8 s9 s10 s11 : Option V} {o : Option V} (g : Gd B lv sc (n0 :: n1 :: n2 :: n3 :: n4 :: n5 :: n6 :: n7 :: n8 :: n9 :: n10 :: n11 :: x :: N) vm sm gs X) (hl : sm[12]? = some true) (h : QS (s0 :: s1 :: s2 :: s3 :: s4 :: s5 :: s6 :: s7 :: s8 :: s9 :: s10 :: s11 :: some v :: σ) H) : WG X (.Name x pos) v (s0 :: s1 :: s2 :: s3 :: s4 :: s5 :: s6 :: s7 :: s8 :: s9 :: s10 :: s11 :: o :: σ) H QS := wg_nm g 12 rfl hl h
theorem au12 {n0 n1 n2 n3 n4 n5 n6 n7 n8 n9 n10 n11 : Str} {s0 s1 s2 s3 s4 s5 s6 s7 s8 s9 s10 s11 : Option V} {w : V} {op : Operator} (g : Gd B lv sc (n0 :: n1 :: n2 :: n3 :: n4 :: n5 :: n6 :: n7 :: n8 :: n9 :: n10 :: n11 :: x :: N) vm sm gs X) (hl : sm[12]? = some true) (h : WE X e (s0 :: s1 :: s2 :: s3 :: s4 :: s5 :: s6 :: s7 :: s8 :: s9 :: s10 :: s11 :: some w :: σ) H fun y H1 => WIp X op w y H1 fun z H2 => D.nx (s0 :: s1 :: s2 :: s3 :: s4 :: s5 :: s6 :: s7 :: s8 :: s9 :: s10 :: s11 :: some z :: σ) H2) : WS X (.AugAssign (.Name x pos') op e pos) D (s0 :: s1 :: s2 :: s3 :: s4 :: s5 :: s6 :: s7 :: s8 :: s9 :: s10 :: s11 :: some w :: σ) H := ws_aug g 12 rfl hl rfl h
theorem nm13 {n0 n1 n2 n3 n4 n5 n6 n7 n8 n9 n10 n11 n12 : Str} {s0 s1 s2 s3 s4 s5 s6 s7 s8 s9 s10 s11 s12 : Option V} (g : Gd B lv sc (n0 :: n1 :: n2 :: n3 :: n4 :: n5 :: n6 :: n7 :: n8 :: n9 :: n10 :: n11 :: n12 :: x :: N) vm sm gs X) (hv : vm[13]? = some true) (h : Q v H) : WE X (.Name x pos) (s0 :: s1 :: s2 :: s3 :: s4 :: s5 :: s6 :: s7 :: s8 :: s9 :: s10 :: s11 :: s12 :: some v :: σ) H Q := we_nm g 13 rfl hv rfl h
theorem sn13 {n0 n1 n2 n3 n4 n5 n6 n7 n8 n9 n10 n11 n12 : Str} {s0 s1 s2 s3 s4 s5 s6 s7 s8 s9 s10 s11 s12 : Option V} {o : Option V} (g : Gd B lv sc (n0 :: n1 :: n2 :: n3 :: n4 :: n5 :: n6 :: n7 :: n8 :: n9 :: n10 :: n11 :: n12 :: x :: N) vm sm gs X) (hl : sm[13]? = some true) (h : QS (s0 :: s1 :: s2 :: s3 :: s4 :: s5 :: s6 :: s7 :: s8 :: s9 :: s10 :: s11 :: s12 :: some v :: σ) H) : WG X (.Name x pos) v (s0 :: s1 :: s2 :: s3 :: s4 :: s5 :: s6 :: s7 :: s8 :: s9 :: s10 :: s11 :: s12 :: o :: σ) H QS := wg_nm g 13 rfl hl h
theorem au13 {n0 n1 n2 n3 n4 n5 n6 n7 n8 n9 n10 n11 n12 : Str} {s0 s1 s2 s3 s4 s5 s6 s7 s8 s9 s10 s11 s12 : Option V} {w : V} {op : Operator} (g : Gd B lv sc (n0 :: n1 :: n2 :: n3 :: n4 :: n5 :: n6 :: n7 :: n8 :: n9 :: n10 :: n11 :: n12 :: x :: N) vm sm gs X) (hl : sm[13]? = some true) (h : WE X e (s0 :: s1 :: s2 :: s3 :: s4 :: s5 :: s6 :: s7 :: s8 :: s9 :: s10 :: s11 :: s12 :: some w :: σ) H fun y H1 => WIp X op w y H1 fun z H2 => D.nx (s0 :: s1 :: s2 :: s3 :: s4 :: s5 :: s6 :: s7 :: s8 :: s9 :: s10 :: s11 :: s12 :: some z :: σ) H2) : WS X (.AugAssign (.Name x pos') op e pos) D (s0 :: s1 :: s2 :: s3 :: s4 :: s5 :: s6 :: s7 :: s8 :: s9 :: s10 :: s11 :: s12 :: some w :: σ) H := ws_aug g 13 rfl hl rfl h
theorem nm14 {n0 n1 n2 n3 n4 n5 n6 n7 n8 n9 n10 n11 n12 n13 : Str} {s0 s1 s2 s3 s4 s5 s6 s7 s8 s9 s10 s11 s12 s13 : Option V} (g : Gd B lv sc (n0 :: n1 :: n2 :: n3 :: n4 :: n5 :: n6 :: n7 :: n8 :: n9 :: n10 :: n11 :: n12 :: n13 :: x :: N) vm sm gs X) (hv : vm[14]? = some true) (h : Q v H) : WE X (.Name x pos) (s0 :: s1 :: s2 :: s3 :: s4 :: s5 :: s6 :: s7 :: s8 :: s9 :: s10 :: s11 :: s12 :: s13 :: some v :: σ) H Q := we_nm g 14 rfl hv rfl h
theorem sn14 {n0 n1 n2 n3 n4 n5 n6 n7 n8 n9 n10 n11 n12 n13 : Str} {s0 s1 s2 s3 s4 s5 s6 s7 s8 s9 s10 s11 s12 s13 : Option V} {o : Option V} (g : Gd B lv sc (n0 :: n1 :: n2 :: n3 :: n4 :: n5 :: n6 :: n7 :: n8 :: n9 :: n10 :: n11 :: n12 :: n13 :: x :: N) vm sm gs X) (hl : sm[14]? = some true) (h : QS (s0 :: s1 :: s2 :: s3 :: s4 :: s5 :: s6 :: s7 :: s8 :: s9 :: s10 :: s11 :: s12 :: s13 :: some v :: σ) H) : WG X (.Name x pos) v (s0 :: s1 :: s2 :: s3 :: s4 :: s5 :: s6 :: s7 :: s8 :: s9 :: s10 :: s11 :: s12 :: s13 :: o :: σ) H QS := wg_nm g 14 rfl hl h
theorem au14 {n0 n1 n2 n3 n4 n5 n6 n7 n8 n9 n10 n11 n12 n13 : Str} {s0 s1 s2 s3 s4 s5 s6 s7 s8 s9 s10 s11 s12 s13 : Option V} {w : V} {op : Operator} (g : Gd B lv sc (n0 :: n1 :: n2 :: n3 :: n4 :: n5 :: n6 :: n7 :: n8 :: n9 :: n10 :: n11 :: n12 :: n13 :: x :: N) vm sm gs X) (hl : sm[14]? = some true) (h : WE X e (s0 :: s1 :: s2 :: s3 :: s4 :: s5 :: s6 :: s7 :: s8 :: s9 :: s10 :: s11 :: s12 :: s13 :: some w :: σ) H fun y H1 => WIp X op w y H1 fun z H2 => D.nx (s0 :: s1 :: s2 :: s3 :: s4 :: s5 :: s6 :: s7 :: s8 :: s9 :: s10 :: s11 :: s12 :: s13 :: some z :: σ) H2) : WS X (.AugAssign (.Name x pos') op e pos) D (s0 :: s1 :: s2 :: s3 :: s4 :: s5 :: s6 :: s7 :: s8 :: s9 :: s10 :: s11 :: s12 :: s13 :: some w :: σ) H := ws_aug g 14 rfl hl rfl h
theorem nm15 {n0 n1 n2 n3 n4 n5 n6 n7 n8 n9 n10 n11 n12 n13 n14 : Str} {s0 s1 s2 s3 s4 s5 s6 s7 s8 s9 s10 s11 s12 s13 s14 : Option V} (g : Gd B lv sc (n0 :: n1 :: n2 :: n3 :: n4 :: n5 :: n6 :: n7 :: n8 :: n9 :: n10 :: n11 :: n12 :: n13 :: n14 :: x :: N) vm sm gs X) (hv : vm[15]? = some true) (h : Q v H) : WE X (.Name x pos) (s0 :: s1 :: s2 :: s3 :: s4 :: s5 :: s6 :: s7 :: s8 :: s9 :: s10 :: s11 :: s12 :: s13 :: s14 :: some v :: σ) H Q := we_nm g 15 rfl hv rfl h
theorem sn15 {n0 n1 n2 n3 n4 n5 n6 n7 n8 n9 n10 n11 n12 n13 n14 : Str} {s0 s1 s2 s3 s4 s5 s6 s7 s8 s9 s10 s11 s12 s13 s14 : Option V} {o : Option V} (g : Gd B lv sc (n0 :: n1 :: n2 :: n3 :: n4 :: n5 :: n6 :: n7 :: n8 :: n9 :: n10 :: n11 :: n12 :: n13 :: n14 :: x :: N) vm sm gs X) (hl : sm[15]? = some true) (h : QS (s0 :: s1 :: s2 :: s3 :: s4 :: s5 :: s6 :: s7 :: s8 :: s9 :: s10 :: s11 :: s12 :: s13 :: s14 :: some v :: σ) H) : WG X (.Name x pos) v (s0 :: s1 :: s2 :: s3 :: s4 :: s5 :: s6 :: s7 :: s8 :: s9 :: s10 :: s11 :: s12 :: s13 :: s14 :: o :: σ) H QS := wg_nm g 15 rfl hl h
theorem au15 {n0 n1 n2 n3 n4 n5 n6 n7 n8 n9 n10 n11 n12 n13 n14 : Str} {s0 s1 s2 s3 s4 s5 s6 s7 s8 s9 s10 s11 s12 s13 s14 : Option V} {w : V} {op : Operator} (g : Gd B lv sc (n0 :: n1 :: n2 :: n3 :: n4 :: n5 :: n6 :: n7 :: n8 :: n9 :: n10 :: n11 :: n12 :: n13 :: n14 :: x :: N) vm sm gs X) (hl : sm[15]? = some true) (h : WE X e (s0 :: s1 :: s2 :: s3 :: s4 :: s5 :: s6 :: s7 :: s8 :: s9 :: s10 :: s11 :: s12 :: s13 :: s14 :: some w :: σ) H fun y H1 => WIp X op w y H1 fun z H2 => D.nx (s0 :: s1 :: s2 :: s3 :: s4 :: s5 :: s6 :: s7 :: s8 :: s9 :: s10 :: s11 :: s12 :: s13 :: s14 :: some z :: σ) H2) : WS X (.AugAssign (.Name x pos') op e pos) D (s0 :: s1 :: s2 :: s3 :: s4 :: s5 :: s6 :: s7 :: s8 :: s9 :: s10 :: s11 :: s12 :: s13 :: s14 :: some w :: σ) H := ws_aug g 15 rfl hl rfl h
theorem nm16 {n0 n1 n2 n3 n4 n5 n6 n7 n8 n9 n10 n11 n12 n13 n14 n15 : Str} {s0 s1 s2 s3 s4 s5 s6 s7 s8 s9 s10 s11 s12 s13 s14 s15 : Option V} (g : Gd B lv sc (n0 :: n1 :: n2 :: n3 :: n4 :: n5 :: n6 :: n7 :: n8 :: n9 :: n10 :: n11 :: n12 :: n13 :: n14 :: n15 :: x :: N) vm sm gs X) (hv : vm[16]? = some true) (h : Q v H) : WE X (.Name x pos) (s0 :: s1 :: s2 :: s3 :: s4 :: s5 :: s6 :: s7 :: s8 :: s9 :: s10 :: s11 :: s12 :: s13 :: s14 :: s15 :: some v :: σ) H Q := we_nm g 16 rfl hv rfl h
theorem sn16 {n0 n1 n2 n3 n4 n5 n6 n7 n8 n9 n10 n11 n12 n13 n14 n15 : Str} {s0 s1 s2 s3 s4 s5 s6 s7 s8 s9 s10 s11 s12 s13 s14 s15 : Option V} {o : Option V} (g : Gd B lv sc (n0 :: n1 :: n2 :: n3 :: n4 :: n5 :: n6 :: n7 :: n8 :: n9 :: n10 :: n11 :: n12 :: n13 :: n14 :: n15 :: x :: N) vm sm gs X) (hl : sm[16]? = some true) (h : QS (s0 :: s1 :: s2 :: s3 :: s4 :: s5 :: s6 :: s7 :: s8 :: s9 :: s10 :: s11 :: s12 :: s13 :: s14 :: s15 :: some v :: σ) H) : WG X (.Name x pos) v (s0 :: s1 :: s2 :: s3 :: s4 :: s5 :: s6 :: s7 :: s8 :: s9 :: s10 :: s11 :: s12 :: s13 :: s14 :: s15 :: o :: σ) H QS := wg_nm g 16 rfl hl h
theorem au16 {n0 n1 n2 n3 n4 n5 n6 n7 n8 n9 n10 n11 n12 n13 n14 n15 : Str} {s0 s1 s2 s3 s4 s5 s6 s7 s8 s9 s10 s11 s12 s13 s14 s15 : Option V} {w : V} {op : Operator} (g : Gd B lv sc (n0 :: n1 :: n2 :: n3 :: n4 :: n5 :: n6 :: n7 :: n8 :: n9 :: n10 :: n11 :: n12 :: n13 :: n14 :: n15 :: x :: N) vm sm gs X) (hl : sm[16]? = some true) (h : WE X e (s0 :: s1 :: s2 :: s3 :: s4 :: s5 :: s6 :: s7 :: s8 :: s9 :: s10 :: s11 :: s12 :: s13 :: s14 :: s15 :: some w :: σ) H fun y H1 => WIp X op w y H1 fun z H2 => D.nx (s0 :: s1 :: s2 :: s3 :: s4 :: s5 :: s6 :: s7 :: s8 :: s9 :: s10 :: s11 :: s12 :: s13 :: s14 :: s15 :: some z :: σ) H2) : WS X (.AugAssign (.Name x pos') op e pos) D (s0 :: s1 :: s2 :: s3 :: s4 :: s5 :: s6 :: s7 :: s8 :: s9 :: s10 :: s11 :: s12 :: s13 :: s14 :: s15 :: some w :: σ) H := ws_aug g 16 rfl hl rfl h
theorem nm17 {n0 n1 n2 n3 n4 n5 n6 n7 n8 n9 n10 n11 n12 n13 n14 n15 n16 : Str} {s0 s1 s2 s3 s4 s5 s6 s7 s8 s9 s10 s11 s12 s13 s14 s15 s16 : Option V} (g : Gd B lv sc (n0 :: n1 :: n2 :: n3 :: n4 :: n5 :: n6 :: n7 :: n8 :: n9 :: n10 :: n11 :: n12 :: n13 :: n14 :: n15 :: n16 :: x :: N) vm sm gs X) (hv : vm[17]? = some true) (h : Q v H) : WE X (.Name x pos) (s0 :: s1 :: s2 :: s3 :: s4 :: s5 :: s6 :: s7 :: s8 :: s9 :: s10 :: s11 :: s12 :: s13 :: s14 :: s15 :: s16 :: some v :: σ) H Q := we_nm g 17 rfl hv rfl h
theorem sn17 {n0 n1 n2 n3 n4 n5 n6 n7 n8 n9 n10 n11 n12 n13 n14 n15 n16 : Str} {s0 s1 s2 s3 s4 s5 s6 s7 s8 s9 s10 s11 s12 s13 s14 s15 s16 : Option V} {o : Option V} (g : Gd B lv sc (n0 :: n1 :: n2 :: n3 :: n4 :: n5 :: n6 :: n7 :: n8 :: n9 :: n10 :: n11 :: n12 :: n13 :: n14 :: n15 :: n16 :: x :: N) vm sm gs X) (hl : sm[17]? = some true) (h : QS (s0 :: s1 :: s2 :: s3 :: s4 :: s5 :: s6 :: s7 :: s8 :: s9 :: s10 :: s11 :: s12 :: s13 :: s14 :: s15 :: s16 :: some v :: σ) H) : WG X (.Name x pos) v (s0 :: s1 :: s2 :: s3 :: s4 :: s5 :: s6 :: s7 :: s8 :: s9 :: s10 :: s11 :: s12 :: s13 :: s14 :: s15 :: s16 :: o :: σ) H QS := wg_nm g 17 rfl hl h
theorem au17 {n0 n1 n2 n3 n4 n5 n6 n7 n8 n9 n10 n11 n12 n13 n14 n15 n16 : Str} {s0 s1 s2 s3 s4 s5 s6 s7 s8 s9 s10 s11 s12 s13 s14 s15 s16 : Option V} {w : V} {op : Operator} (g : Gd B lv sc (n0 :: n1 :: n2 :: n3 :: n4 :: n5 :: n6 :: n7 :: n8 :: n9 :: n10 :: n11 :: n12 :: n13 :: n14 :: n15 :: n16 :: x :: N) vm sm gs X) (hl : sm[17]? = some true) (h : WE X e (s0 :: s1 :: s2 :: s3 :: s4 :: s5 :: s6 :: s7 :: s8 :: s9 :: s10 :: s11 :: s12 :: s13 :: s14 :: s15 :: s16 :: some w :: σ) H fun y H1 => WIp X op w y H1 fun z H2 => D.nx (s0 :: s1 :: s2 :: s3 :: s4 :: s5 :: s6 :: s7 :: s8 :: s9 :: s10 :: s11 :: s12 :: s13 :: s14 :: s15 :: s16 :: some z :: σ) H2) : WS X (.AugAssign (.Name x pos') op e pos) D (s0 :: s1 :: s2 :: s3 :: s4 :: s5 :: s6 :: s7 :: s8 :: s9 :: s10 :: s11 :: s12 :: s13 :: s14 :: s15 :: s16 :: some w :: σ) H := ws_aug g 17 rfl hl rfl h
end
section
variable {X : Cx} {B : Bs} {lv : Nat} {sc : Scope} {vm sm : List Bool} {gs : List Str} {N : List Str} {σ : L2.St} {H : Hp} {Q : VK} {e : Expr} {es : List Expr} {p pos : Pos}
theorem cb_len (g : Gd B lv sc N vm sm gs X) (hx : ("len" : Str) ∈ gs) (hm : B.mg "len" = none) (h : WA X (e :: es) σ H fun vs H1 => WCl X (.builtin "len") vs H1 Q)
    (he : starEach (e :: es) X.env = (false, eval e X.env) :: starEach es X.env := by rfl) (hpl : (backTo pos (starEach es X.env)).any (·.1) = false := by rfl) : WE X (.Call (.Name "len" p) (e :: es) [] pos) σ H Q := we_cb g hx hm (by decide +kernel) h he hpl
theorem cb_isinstance (g : Gd B lv sc N vm sm gs X) (hx : ("isinstance" : Str) ∈ gs) (hm : B.mg "isinstance" = none) (h : WA X (e :: es) σ H fun vs H1 => WCl X (.builtin "isinstance") vs H1 Q)
    (he : starEach (e :: es) X.env = (false, eval e X.env) :: starEach es X.env := by rfl) (hpl : (backTo pos (starEach es X.env)).any (·.1) = false := by rfl) : WE X (.Call (.Name "isinstance" p) (e :: es) [] pos) σ H Q := we_cb g hx hm (by decide +kernel) h he hpl
theorem cb_all (g : Gd B lv sc N vm sm gs X) (hx : ("all" : Str) ∈ gs) (hm : B.mg "all" = none) (h : WA X (e :: es) σ H fun vs H1 => WCl X (.builtin "all") vs H1 Q)
    (he : starEach (e :: es) X.env = (false, eval e X.env) :: starEach es X.env := by rfl) (hpl : (backTo pos (starEach es X.env)).any (·.1) = false := by rfl) : WE X (.Call (.Name "all" p) (e :: es) [] pos) σ H Q := we_cb g hx hm (by decide +kernel) h he hpl
theorem cb_sum (g : Gd B lv sc N vm sm gs X) (hx : ("sum" : Str) ∈ gs) (hm : B.mg "sum" = none) (h : WA X (e :: es) σ H fun vs H1 => WCl X (.builtin "sum") vs H1 Q)
    (he : starEach (e :: es) X.env = (false, eval e X.env) :: starEach es X.env := by rfl) (hpl : (backTo pos (starEach es X.env)).any (·.1) = false := by rfl) : WE X (.Call (.Name "sum" p) (e :: es) [] pos) σ H Q := we_cb g hx hm (by decide +kernel) h he hpl
theorem cb_min (g : Gd B lv sc N vm sm gs X) (hx : ("min" : Str) ∈ gs) (hm : B.mg "min" = none) (h : WA X (e :: es) σ H fun vs H1 => WCl X (.builtin "min") vs H1 Q)
    (he : starEach (e :: es) X.env = (false, eval e X.env) :: starEach es X.env := by rfl) (hpl : (backTo pos (starEach es X.env)).any (·.1) = false := by rfl) : WE X (.Call (.Name "min" p) (e :: es) [] pos) σ H Q := we_cb g hx hm (by decide +kernel) h he hpl
theorem cb_max (g : Gd B lv sc N vm sm gs X) (hx : ("max" : Str) ∈ gs) (hm : B.mg "max" = none) (h : WA X (e :: es) σ H fun vs H1 => WCl X (.builtin "max") vs H1 Q)
    (he : starEach (e :: es) X.env = (false, eval e X.env) :: starEach es X.env := by rfl) (hpl : (backTo pos (starEach es X.env)).any (·.1) = false := by rfl) : WE X (.Call (.Name "max" p) (e :: es) [] pos) σ H Q := we_cb g hx hm (by decide +kernel) h he hpl
theorem cb_sorted (g : Gd B lv sc N vm sm gs X) (hx : ("sorted" : Str) ∈ gs) (hm : B.mg "sorted" = none) (h : WA X (e :: es) σ H fun vs H1 => WCl X (.builtin "sorted") vs H1 Q)
    (he : starEach (e :: es) X.env = (false, eval e X.env) :: starEach es X.env := by rfl) (hpl : (backTo pos (starEach es X.env)).any (·.1) = false := by rfl) : WE X (.Call (.Name "sorted" p) (e :: es) [] pos) σ H Q := we_cb g hx hm (by decide +kernel) h he hpl
theorem cb_int (g : Gd B lv sc N vm sm gs X) (hx : ("int" : Str) ∈ gs) (hm : B.mg "int" = none) (h : WA X (e :: es) σ H fun vs H1 => WCl X (.type "int") vs H1 Q)
    (he : starEach (e :: es) X.env = (false, eval e X.env) :: starEach es X.env := by rfl) (hpl : (backTo pos (starEach es X.env)).any (·.1) = false := by rfl) : WE X (.Call (.Name "int" p) (e :: es) [] pos) σ H Q := we_ct g hx hm (by decide +kernel) h he hpl
theorem cb_str (g : Gd B lv sc N vm sm gs X) (hx : ("str" : Str) ∈ gs) (hm : B.mg "str" = none) (h : WA X (e :: es) σ H fun vs H1 => WCl X (.type "str") vs H1 Q)
    (he : starEach (e :: es) X.env = (false, eval e X.env) :: starEach es X.env := by rfl) (hpl : (backTo pos (starEach es X.env)).any (·.1) = false := by rfl) : WE X (.Call (.Name "str" p) (e :: es) [] pos) σ H Q := we_ct g hx hm (by decide +kernel) h he hpl
theorem cb_list (g : Gd B lv sc N vm sm gs X) (hx : ("list" : Str) ∈ gs) (hm : B.mg "list" = none) (h : WA X (e :: es) σ H fun vs H1 => WCl X (.type "list") vs H1 Q)
    (he : starEach (e :: es) X.env = (false, eval e X.env) :: starEach es X.env := by rfl) (hpl : (backTo pos (starEach es X.env)).any (·.1) = false := by rfl) : WE X (.Call (.Name "list" p) (e :: es) [] pos) σ H Q := we_ct g hx hm (by decide +kernel) h he hpl
theorem cb_set (g : Gd B lv sc N vm sm gs X) (hx : ("set" : Str) ∈ gs) (hm : B.mg "set" = none) (h : WA X (e :: es) σ H fun vs H1 => WCl X (.type "set") vs H1 Q)
    (he : starEach (e :: es) X.env = (false, eval e X.env) :: starEach es X.env := by rfl) (hpl : (backTo pos (starEach es X.env)).any (·.1) = false := by rfl) : WE X (.Call (.Name "set" p) (e :: es) [] pos) σ H Q := we_ct g hx hm (by decide +kernel) h he hpl
theorem ty_int (g : Gd B lv sc N vm sm gs X) (hx : ("int" : Str) ∈ gs) (hm : B.mg "int" = none) (h : Q (.ty "int") H) : WE X (.Name "int" p) σ H Q := we_bt g hx hm (v := .ty "int") (u := .type "int") (by decide +kernel) rfl h
theorem ty_bool (g : Gd B lv sc N vm sm gs X) (hx : ("bool" : Str) ∈ gs) (hm : B.mg "bool" = none) (h : Q (.ty "bool") H) : WE X (.Name "bool" p) σ H Q := we_bt g hx hm (v := .ty "bool") (u := .type "bool") (by decide +kernel) rfl h
theorem ty_str (g : Gd B lv sc N vm sm gs X) (hx : ("str" : Str) ∈ gs) (hm : B.mg "str" = none) (h : Q (.ty "str") H) : WE X (.Name "str" p) σ H Q := we_bt g hx hm (v := .ty "str") (u := .type "str") (by decide +kernel) rfl h
theorem ty_list (g : Gd B lv sc N vm sm gs X) (hx : ("list" : Str) ∈ gs) (hm : B.mg "list" = none) (h : Q (.ty "list") H) : WE X (.Name "list" p) σ H Q := we_bt g hx hm (v := .ty "list") (u := .type "list") (by decide +kernel) rfl h
theorem ty_tuple (g : Gd B lv sc N vm sm gs X) (hx : ("tuple" : Str) ∈ gs) (hm : B.mg "tuple" = none) (h : Q (.ty "tuple") H) : WE X (.Name "tuple" p) σ H Q := we_bt g hx hm (v := .ty "tuple") (u := .type "tuple") (by decide +kernel) rfl h
theorem isi_ty (g : Gd B lv sc N vm sm gs X) {x : V} {a b : String} {k : Bool} (ht : TyX B.K H x (.type a)) (hk : kitB a b = some k) (h : Q (.bl k) H) : WCl X (.builtin "isinstance") [x, .ty b] H Q := wcl_isi g (.ty b) ht (kit_ty hk) h
theorem isi_i_int (g : Gd B lv sc N vm sm gs X) {i : Int} (h : Q (.bl true) H) : WCl X (.builtin "isinstance") [.int i, .ty "int"] H Q := isi_ty (a := "int") g (.base (.int _)) (by decide +kernel) h
theorem isi_i_bool (g : Gd B lv sc N vm sm gs X) {i : Int} (h : Q (.bl false) H) : WCl X (.builtin "isinstance") [.int i, .ty "bool"] H Q := isi_ty (a := "int") g (.base (.int _)) (by decide +kernel) h
theorem isi_i_str (g : Gd B lv sc N vm sm gs X) {i : Int} (h : Q (.bl false) H) : WCl X (.builtin "isinstance") [.int i, .ty "str"] H Q := isi_ty (a := "int") g (.base (.int _)) (by decide +kernel) h
theorem isi_i_list (g : Gd B lv sc N vm sm gs X) {i : Int} (h : Q (.bl false) H) : WCl X (.builtin "isinstance") [.int i, .ty "list"] H Q := isi_ty (a := "int") g (.base (.int _)) (by decide +kernel) h
theorem isi_i_tuple (g : Gd B lv sc N vm sm gs X) {i : Int} (h : Q (.bl false) H) : WCl X (.builtin "isinstance") [.int i, .ty "tuple"] H Q := isi_ty (a := "int") g (.base (.int _)) (by decide +kernel) h
theorem isi_s_int (g : Gd B lv sc N vm sm gs X) {z : Str} (h : Q (.bl false) H) : WCl X (.builtin "isinstance") [.str z, .ty "int"] H Q := isi_ty (a := "str") g (.base (.str _)) (by decide +kernel) h
theorem isi_s_bool (g : Gd B lv sc N vm sm gs X) {z : Str} (h : Q (.bl false) H) : WCl X (.builtin "isinstance") [.str z, .ty "bool"] H Q := isi_ty (a := "str") g (.base (.str _)) (by decide +kernel) h
theorem isi_s_str (g : Gd B lv sc N vm sm gs X) {z : Str} (h : Q (.bl true) H) : WCl X (.builtin "isinstance") [.str z, .ty "str"] H Q := isi_ty (a := "str") g (.base (.str _)) (by decide +kernel) h
theorem isi_s_list (g : Gd B lv sc N vm sm gs X) {z : Str} (h : Q (.bl false) H) : WCl X (.builtin "isinstance") [.str z, .ty "list"] H Q := isi_ty (a := "str") g (.base (.str _)) (by decide +kernel) h
theorem isi_s_tuple (g : Gd B lv sc N vm sm gs X) {z : Str} (h : Q (.bl false) H) : WCl X (.builtin "isinstance") [.str z, .ty "tuple"] H Q := isi_ty (a := "str") g (.base (.str _)) (by decide +kernel) h
theorem isi_n_int (g : Gd B lv sc N vm sm gs X) (h : Q (.bl false) H) : WCl X (.builtin "isinstance") [.non, .ty "int"] H Q := isi_ty (a := "NoneType") g (.base .non) (by decide +kernel) h
theorem isi_n_bool (g : Gd B lv sc N vm sm gs X) (h : Q (.bl false) H) : WCl X (.builtin "isinstance") [.non, .ty "bool"] H Q := isi_ty (a := "NoneType") g (.base .non) (by decide +kernel) h
theorem isi_n_str (g : Gd B lv sc N vm sm gs X) (h : Q (.bl false) H) : WCl X (.builtin "isinstance") [.non, .ty "str"] H Q := isi_ty (a := "NoneType") g (.base .non) (by decide +kernel) h
theorem isi_n_list (g : Gd B lv sc N vm sm gs X) (h : Q (.bl false) H) : WCl X (.builtin "isinstance") [.non, .ty "list"] H Q := isi_ty (a := "NoneType") g (.base .non) (by decide +kernel) h
theorem isi_n_tuple (g : Gd B lv sc N vm sm gs X) (h : Q (.bl false) H) : WCl X (.builtin "isinstance") [.non, .ty "tuple"] H Q := isi_ty (a := "NoneType") g (.base .non) (by decide +kernel) h
theorem isi_l_int (g : Gd B lv sc N vm sm gs X) {a : Addr} {xs : List V} (e : H a = some (.lst xs)) (h : Q (.bl false) H) : WCl X (.builtin "isinstance") [.ref a, .ty "int"] H Q := isi_ty g (.base (.lst e)) (by decide +kernel : kitB "list" "int" = some false) h
theorem isi_l_bool (g : Gd B lv sc N vm sm gs X) {a : Addr} {xs : List V} (e : H a = some (.lst xs)) (h : Q (.bl false) H) : WCl X (.builtin "isinstance") [.ref a, .ty "bool"] H Q := isi_ty g (.base (.lst e)) (by decide +kernel : kitB "list" "bool" = some false) h
theorem isi_l_str (g : Gd B lv sc N vm sm gs X) {a : Addr} {xs : List V} (e : H a = some (.lst xs)) (h : Q (.bl false) H) : WCl X (.builtin "isinstance") [.ref a, .ty "str"] H Q := isi_ty g (.base (.lst e)) (by decide +kernel : kitB "list" "str" = some false) h
theorem isi_l_list (g : Gd B lv sc N vm sm gs X) {a : Addr} {xs : List V} (e : H a = some (.lst xs)) (h : Q (.bl true) H) : WCl X (.builtin "isinstance") [.ref a, .ty "list"] H Q := isi_ty g (.base (.lst e)) (by decide +kernel : kitB "list" "list" = some true) h
theorem isi_l_tuple (g : Gd B lv sc N vm sm gs X) {a : Addr} {xs : List V} (e : H a = some (.lst xs)) (h : Q (.bl false) H) : WCl X (.builtin "isinstance") [.ref a, .ty "tuple"] H Q := isi_ty g (.base (.lst e)) (by decide +kernel : kitB "list" "tuple" = some false) h
theorem isi_t_int (g : Gd B lv sc N vm sm gs X) {a : Addr} {xs : List V} (e : H a = some (.tup xs)) (h : Q (.bl false) H) : WCl X (.builtin "isinstance") [.ref a, .ty "int"] H Q := isi_ty g (.base (.tup e)) (by decide +kernel : kitB "tuple" "int" = some false) h
theorem isi_t_bool (g : Gd B lv sc N vm sm gs X) {a : Addr} {xs : List V} (e : H a = some (.tup xs)) (h : Q (.bl false) H) : WCl X (.builtin "isinstance") [.ref a, .ty "bool"] H Q := isi_ty g (.base (.tup e)) (by decide +kernel : kitB "tuple" "bool" = some false) h
theorem isi_t_str (g : Gd B lv sc N vm sm gs X) {a : Addr} {xs : List V} (e : H a = some (.tup xs)) (h : Q (.bl false) H) : WCl X (.builtin "isinstance") [.ref a, .ty "str"] H Q := isi_ty g (.base (.tup e)) (by decide +kernel : kitB "tuple" "str" = some false) h
theorem isi_t_list (g : Gd B lv sc N vm sm gs X) {a : Addr} {xs : List V} (e : H a = some (.tup xs)) (h : Q (.bl false) H) : WCl X (.builtin "isinstance") [.ref a, .ty "list"] H Q := isi_ty g (.base (.tup e)) (by decide +kernel : kitB "tuple" "list" = some false) h
theorem isi_t_tuple (g : Gd B lv sc N vm sm gs X) {a : Addr} {xs : List V} (e : H a = some (.tup xs)) (h : Q (.bl true) H) : WCl X (.builtin "isinstance") [.ref a, .ty "tuple"] H Q := isi_ty g (.base (.tup e)) (by decide +kernel : kitB "tuple" "tuple" = some true) h
end
section
variable {A B' : Prop} {p : Prop} [Decidable p]
theorem iteNF (h : A) : if (!false) = true then A else B' := iteT h
theorem iteNT (h : B') : if (!true) = true then A else B' := iteF h
theorem iteD (h1 : p → A) (h2 : ¬ p → B') : if decide p = true then A else B' := by
  by_cases h : p
  · rw [decide_eq_true h]
    exact iteT (h1 h)
  · rw [decide_eq_false h]
    exact iteF (h2 h)
theorem iteDT (hp : p) (h : A) : if decide p = true then A else B' := by
  rw [decide_eq_true hp]
  exact iteT h
theorem iteDF (hp : ¬ p) (h : B') : if decide p = true then A else B' := by
  rw [decide_eq_false hp]
  exact iteF h
theorem iteND (h1 : ¬ p → A) (h2 : p → B') : if (!decide p) = true then A else B' := by
  by_cases h : p
  · rw [decide_eq_true h]
    exact iteF (h2 h)
  · rw [decide_eq_false h]
    exact iteT (h1 h)
theorem iteNDT (hp : ¬ p) (h : A) : if (!decide p) = true then A else B' := by
  rw [decide_eq_false hp]
  exact iteT h
theorem iteNDF (hp : p) (h : B') : if (!decide p) = true then A else B' := by
  rw [decide_eq_true hp]
  exact iteF h
theorem iteB {b : Bool} (h1 : b = true → A) (h2 : b = false → B') : if b = true then A else B' := by
  cases b with
  | true => exact iteT (h1 rfl)
  | false => exact iteF (h2 rfl)
theorem iteBT {b : Bool} (hb : b = true) (h : A) : if b = true then A else B' := by rw [hb]; exact iteT h
theorem iteBF {b : Bool} (hb : b = false) (h : B') : if b = true then A else B' := by rw [hb]; exact iteF h
end

/-! ### a def of the text -/
abbrev PK := V → Hp → VK → Prop
def Sp0 (P : Hp → VK → Prop) : Sp := fun vs H Q _ => vs = [] ∧ P H Q
def Sp1 (P : V → Hp → VK → Prop) : Sp := fun vs H Q _ => ∃ a, vs = [a] ∧ P a H Q
def Sp2 (P : V → V → Hp → VK → Prop) : Sp := fun vs H Q _ => ∃ a b, vs = [a, b] ∧ P a b H Q
def Sp3 (P : V → V → V → Hp → VK → Prop) : Sp := fun vs H Q _ => ∃ a b c, vs = [a, b, c] ∧ P a b c H Q
def Sp4 (P : V → V → V → V → Hp → VK → Prop) : Sp := fun vs H Q _ => ∃ a b c d, vs = [a, b, c, d] ∧ P a b c d H Q
def Sp5 (P : V → V → V → V → V → Hp → VK → Prop) : Sp := fun vs H Q _ => ∃ a b c d e, vs = [a, b, c, d, e] ∧ P a b c d e H Q
def tt (n : Nat) : List Bool := List.replicate n true
theorem of_tt {n i : Nat} (h : (tt n)[i]? = some true) : i < n := by
  have := (List.getElem?_eq_some_iff.mp h).1
  rw [show (tt n).length = n from List.length_replicate] at this
  exact this
/-- the names of a def: N its slots (the first n its own), ps its parameters, gs the module's names that it uses -/
def chkD (N : List Str) (n : Nat) (ps gs : List Str) (sc : Scope) : Bool :=
  (match sc.kind with | .function => true | _ => false) && (!sc.isCoroutine && (!sc.isGenerator && (decide N.Nodup && (decide (N.take ps.length = ps) && ((N.take n).all (fun x => visB sc x && locB sc x) && ((sc.names.all fun y => match y.2 with | .free => false | _ => true) && (gs.all (gloB sc) && decide (ps.length ≤ n))))))))
theorem chkD_sc {N : List Str} {n : Nat} {ps gs : List Str} {sc : Scope} (h : chkD N n ps gs sc = true) : FnScope N ps sc ∧ (∀ i x, i < n → N[i]? = some x → visB sc x = true ∧ locB sc x = true) ∧ ∀ x ∈ gs, gloB sc x = true := by
  unfold chkD at h
  simp only [Bool.and_eq_true, Bool.not_eq_true', decide_eq_true_eq, List.all_eq_true] at h
  obtain ⟨h1, h2, h3, h4, h5, h6, h7, h8, h9⟩ := h
  refine ⟨⟨?_, h2, h3, h4, h5, fun x hx => ?_, fun y hy e => ?_⟩, fun i x hi hx => h6 x (List.mem_of_getElem? (i := i) (by rw [List.getElem?_take_of_lt hi]; exact hx)), h8⟩
  · cases e : sc.kind with
    | function => rfl
    | _ => rw [e] at h1; cases h1
  · have hm : x ∈ N.take n := by
      rw [← h5] at hx
      exact (List.take_subset_take_left N h9) hx
    exact locB_ok (h6 x hm).2
  · have := h7 y hy
    rw [e] at this
    cases this
theorem gd_of {B : Bs} {k n : Nat} {N ps gs : List Str} {qual : Str} {scope : Scope} {f : Addr} {cdv : Value} {A : Around} {outer : List Env} {s : Shared} {H : Hp} {E : XK} (h : chkD N n ps gs scope = true) (hr : Room k (A.deeper (envOfC qual scope s.heap.objs.size f cdv))) :
    Gd B k scope N (tt n) (tt n) gs (cxOf CX0 B.P B.w B.K B.mg B.base N qual scope f cdv A outer s H E).nox := by
  obtain ⟨S, hv, hg⟩ := chkD_sc h
  exact ⟨rfl, rfl, rfl, rfl, rfl, rfl, rfl, S.nd, fun i x hi ht => visB_ok (hv i x (of_tt ht) hi).1, fun i x hi ht => ⟨locB_ok (hv i x (of_tt ht) hi).2, .inl rfl⟩, fun x hx => gloB_ok (hg x hx), rfl, hr, rfl⟩
/-- what a maker of lambdas knows of its frame -/
structure Cd (X : Cx) (qual : Str) (fd : FuncData) : Prop where
  code : X.env.code = fd.code
  qual : X.env.qual = qual ++ ".<locals>."
  fn : ∀ y, X.fn y = true
/-- a def's promise from its body, walked in any context -/
theorem ok_ofC {B : Bs} {x qual : Str} {params : Arguments} {body : List Stmt} {scope : Scope} {dvs : List V} {f : Addr} {fd : FuncData} {N ps gs : List Str} {k n : Nat} {sp : Sp} (F : FunD B.K x qual params body scope dvs [] f fd) (hc : chkD N n ps gs scope = true) (len : ∀ vs H Q E, sp vs H Q E → vs.length = ps.length)
    (hb : ∀ (X : Cx) (vs : List V) (H : Hp) (Q : VK) (E : XK), Gd B k scope N (tt n) (tt n) gs X → Cd X qual fd → sp vs H Q E → WSs X body { nx := fun _ H' => Q .non H', rt := Q } (start N vs) H) : FnOk B.P B.w B.K B.mg B.base CX0 (k + 1) f fd ps sp := by
  obtain ⟨oc, od, dV, kV, doc, pm, an, cdv, ct, osl, rfl, lk, hcd, _, _⟩ := F.ex
  refine fn_of lk hcd (chkD_sc hc).1 len fun A outer s H vs Q E hr h => ?_
  obtain ⟨t, ht, hq⟩ := hb _ vs H Q E (gd_of (qual := qual) (f := f) (cdv := cdv) (A := A) (outer := outer) (s := s) (H := H) (E := E) hc hr) ⟨rfl, rfl, fun _ => rfl⟩ h
  exact ⟨t, ht.nox, hq⟩
theorem ok_of {B : Bs} {x qual : Str} {params : Arguments} {body : List Stmt} {scope : Scope} {dvs : List V} {f : Addr} {fd : FuncData} {N ps gs : List Str} {k n : Nat} {sp : Sp} (F : FunD B.K x qual params body scope dvs [] f fd) (hc : chkD N n ps gs scope = true) (len : ∀ vs H Q E, sp vs H Q E → vs.length = ps.length)
    (hb : ∀ (X : Cx) (vs : List V) (H : Hp) (Q : VK) (E : XK), Gd B k scope N (tt n) (tt n) gs X → sp vs H Q E → WSs X body { nx := fun _ H' => Q .non H', rt := Q } (start N vs) H) : FnOk B.P B.w B.K B.mg B.base CX0 (k + 1) f fd ps sp :=
  ok_ofC F hc len fun X vs H Q E g _ h => hb X vs H Q E g h
theorem len0 {P : Hp → VK → Prop} : ∀ vs H Q E, Sp0 P vs H Q E → vs.length = 0 := fun vs H Q E h => by rw [h.1] <;> rfl
theorem len1 {P : V → Hp → VK → Prop} : ∀ vs H Q E, Sp1 P vs H Q E → vs.length = 1 := fun vs H Q E ⟨_, h, _⟩ => by rw [h] <;> rfl
theorem len2 {P : V → V → Hp → VK → Prop} : ∀ vs H Q E, Sp2 P vs H Q E → vs.length = 2 := fun vs H Q E ⟨_, _, h, _⟩ => by rw [h] <;> rfl
theorem len3 {P : V → V → V → Hp → VK → Prop} : ∀ vs H Q E, Sp3 P vs H Q E → vs.length = 3 := fun vs H Q E ⟨_, _, _, h, _⟩ => by rw [h] <;> rfl
theorem len4 {P : V → V → V → V → Hp → VK → Prop} : ∀ vs H Q E, Sp4 P vs H Q E → vs.length = 4 := fun vs H Q E ⟨_, _, _, _, h, _⟩ => by rw [h] <;> rfl
theorem len5 {P : V → V → V → V → V → Hp → VK → Prop} : ∀ vs H Q E, Sp5 P vs H Q E → vs.length = 5 := fun vs H Q E ⟨_, _, _, _, _, h, _⟩ => by rw [h] <;> rfl
end U
/-! ### text Dat -/
set_option maxHeartbeats 4000000
namespace U
open PySem PySem.Spec PyProof.Rows L2
/-! ### the text by places -/
def top (i : Nat) : Stmt := PySem.Challenge.pw_unsaybook_k94_whole_texts_answered_at_ev.main.body.getD i (.Pass ⟨0, 0, 0, 0⟩)
def mkF (i : Nat) (x : Str) (dv : List He.Dv) : He.DefD := ⟨(x, none), x, x, defArgs (top i), defBody (top i), defScope (top i), dv, []⟩
def mkM (i j : Nat) (c m : Str) (dv : List He.Dv) : He.DefD := ⟨(c, some m), m, c ++ "." ++ m, defArgs (inClass (top i) j), defBody (inClass (top i) j), defScope (inClass (top i) j), dv, []⟩
def d_Question_all_names : He.DefD := mkM 13 2 "Question" "all_names" []
def d_Question_asked_keys : He.DefD := mkM 13 3 "Question" "asked_keys" []
def d_Question_read : He.DefD := mkM 13 6 "Question" "read" []
def d_Number___init__ : He.DefD := mkM 14 0 "Number" "__init__" []
def d_Number_plain : He.DefD := mkM 14 2 "Number" "plain" []
def d_OnDay___init__ : He.DefD := mkM 15 0 "OnDay" "__init__" []
def d_OnDay_all_names : He.DefD := mkM 15 2 "OnDay" "all_names" []
def d_OnDay_plain : He.DefD := mkM 15 3 "OnDay" "plain" []
def d_Over___init__ : He.DefD := mkM 16 0 "Over" "__init__" []
def d_Over_all_names : He.DefD := mkM 16 4 "Over" "all_names" []
def d_Over_plain : He.DefD := mkM 16 5 "Over" "plain" []
def d_Sum_outcome : He.DefD := mkM 17 1 "Sum" "outcome" []
def d_Count_outcome : He.DefD := mkM 18 1 "Count" "outcome" []
def d_Least_outcome : He.DefD := mkM 19 1 "Least" "outcome" []
def d_Greatest_outcome : He.DefD := mkM 20 1 "Greatest" "outcome" []
def d_Since___init__ : He.DefD := mkM 21 0 "Since" "__init__" []
def d_Since_all_names : He.DefD := mkM 21 2 "Since" "all_names" []
def d_Since_is_enough : He.DefD := mkM 21 3 "Since" "is_enough" []
def d_Since_plain : He.DefD := mkM 21 4 "Since" "plain" []
def d_Since_read : He.DefD := mkM 21 5 "Since" "read" []
def d_Part___init__ : He.DefD := mkM 22 0 "Part" "__init__" []
def d_Part_all_names : He.DefD := mkM 22 2 "Part" "all_names" []
def d_Part_plain : He.DefD := mkM 22 3 "Part" "plain" []
def d_Change___init__ : He.DefD := mkM 23 0 "Change" "__init__" []
def d_Change_all_names : He.DefD := mkM 23 2 "Change" "all_names" []
def d_Change_plain : He.DefD := mkM 23 3 "Change" "plain" []
def d_Change_read : He.DefD := mkM 23 4 "Change" "read" []
def d_Nested___init__ : He.DefD := mkM 24 0 "Nested" "__init__" []
def d_Nested_all_names : He.DefD := mkM 24 3 "Nested" "all_names" []
def d_Nested_plain : He.DefD := mkM 24 6 "Nested" "plain" []
def d_Nested_read : He.DefD := mkM 24 7 "Nested" "read" []
def d_Plus_outcome : He.DefD := mkM 25 1 "Plus" "outcome" []
def d_Minus_outcome : He.DefD := mkM 26 1 "Minus" "outcome" []
def d_Choice_plain : He.DefD := mkM 27 1 "Choice" "plain" []
def d_Choice_read : He.DefD := mkM 27 2 "Choice" "read" []
def d_Less_chooses_third : He.DefD := mkM 28 1 "Less" "chooses_third" []
def d_Same_chooses_third : He.DefD := mkM 29 1 "Same" "chooses_third" []
def d_is_whole : He.DefD := mkF 33 "is_whole" []
def d_is_name : He.DefD := mkF 34 "is_name" []
def d_plain_figures : He.DefD := mkF 35 "plain_figures" []
def d_number_of : He.DefD := mkF 36 "number_of" []
def d_Words___init__ : He.DefD := mkM 43 0 "Words" "__init__" []
def d_Words_next_word : He.DefD := mkM 43 1 "Words" "next_word" []
def d_Words_past : He.DefD := mkM 43 2 "Words" "past" []
def d_Words_one_name : He.DefD := mkM 43 3 "Words" "one_name" []
def d_Words_some_names : He.DefD := mkM 43 4 "Words" "some_names" []
def d_Words_one_number : He.DefD := mkM 43 5 "Words" "one_number" []
def d_Words_stretch : He.DefD := mkM 43 6 "Words" "stretch" []
def d_Words_in_brackets : He.DefD := mkM 43 7 "Words" "in_brackets" []
def d_Words_question : He.DefD := mkM 43 8 "Words" "question" []
def d_Words_nested : He.DefD := mkM 43 9 "Words" "nested" []
def d_Words_over : He.DefD := mkM 43 10 "Words" "over" []
def d_Words_alone : He.DefD := mkM 43 11 "Words" "alone" []
def d_question_of : He.DefD := mkF 44 "question_of" []
def d_put_behind : He.DefD := mkF 46 "put_behind" []
def d_joined : He.DefD := mkF 47 "joined" []
def d_laid : He.DefD := mkF 49 "laid" []
def d_Reading___init__ : He.DefD := mkM 51 0 "Reading" "__init__" []
def d_Reading_speaker : He.DefD := mkM 51 1 "Reading" "speaker" []
def d_Reading_telling : He.DefD := mkM 51 2 "Reading" "telling" []
def d_Reading_told_grounds : He.DefD := mkM 51 3 "Reading" "told_grounds" []
def d_asked_as : He.DefD := mkF 52 "asked_as" []
def d_answered : He.DefD := mkF 53 "answered" [.non]
def d_plainly : He.DefD := mkF 54 "plainly" [.non]
def d_need_keys : He.DefD := mkF 60 "need_keys" []
def d_Book___init__ : He.DefD := mkM 61 0 "Book" "__init__" []
def d_Book_all_keys : He.DefD := mkM 61 1 "Book" "all_keys" []
def d_Book_now : He.DefD := mkM 61 2 "Book" "now" []
def d_Book_need_key : He.DefD := mkM 61 3 "Book" "need_key" []
def d_Book_need_room : He.DefD := mkM 61 4 "Book" "need_room" []
def d_Book_turn_for : He.DefD := mkM 61 5 "Book" "turn_for" []
def d_Book_note : He.DefD := mkM 61 6 "Book" "note" []
def d_Book_find : He.DefD := mkM 61 7 "Book" "find" []
def d_Book_need_finding : He.DefD := mkM 61 8 "Book" "need_finding" []
def d_Book_withdraw : He.DefD := mkM 61 9 "Book" "withdraw" []
def d_Book_found : He.DefD := mkM 61 11 "Book" "found" []
def d_Book_strip_at : He.DefD := mkM 61 12 "Book" "strip_at" []
def d_Book_table : He.DefD := mkM 61 15 "Book" "table" [.non]
def d__law_cell : He.DefD := mkF 63 "_law_cell" []
def d__law_mix : He.DefD := mkF 64 "_law_mix" []
def d__law_begun : He.DefD := mkF 65 "_law_begun" []
def d__law_pull : He.DefD := mkF 66 "_law_pull" []
def d__law_names : He.DefD := mkF 67 "_law_names" []
def d__law_window : He.DefD := mkF 68 "_law_window" []
def d__law_days : He.DefD := mkF 69 "_law_days" []
def d__law_amount : He.DefD := mkF 70 "_law_amount" []
def d__law_some : He.DefD := mkF 71 "_law_some" []
def d__law_leaf : He.DefD := mkF 72 "_law_leaf" []
def d__law_question : He.DefD := mkF 73 "_law_question" []
def d__law_words : He.DefD := mkF 74 "_law_words" []
def d__law_fitting : He.DefD := mkF 75 "_law_fitting" []
def d__law_over : He.DefD := mkF 76 "_law_over" []
def d__law_row : He.DefD := mkF 77 "_law_row" []
def d__law_simple : He.DefD := mkF 78 "_law_simple" []
def d__law_due : He.DefD := mkF 79 "_law_due" []
def d__law_like : He.DefD := mkF 80 "_law_like" []
def d__law_deed : He.DefD := mkF 81 "_law_deed" []
def d__law_known : He.DefD := mkF 82 "_law_known" []
def d__law_boxes : He.DefD := mkF 83 "_law_boxes" []
def d__law_told_right : He.DefD := mkF 84 "_law_told_right" []
def d__law_spoken : He.DefD := mkF 85 "_law_spoken" []
def d__law_now_right : He.DefD := mkF 86 "_law_now_right" []
def d__law_asked : He.DefD := mkF 87 "_law_asked" []
def d_law : He.DefD := mkF 88 "law" []
def fnL : List He.DefD := ([d_Question_all_names, d_Question_asked_keys, d_Question_read, d_Number___init__, d_Number_plain, d_OnDay___init__, d_OnDay_all_names, d_OnDay_plain, d_Over___init__, d_Over_all_names, d_Over_plain, d_Sum_outcome, d_Count_outcome, d_Least_outcome, d_Greatest_outcome, d_Since___init__, d_Since_all_names, d_Since_is_enough, d_Since_plain, d_Since_read, d_Part___init__, d_Part_all_names, d_Part_plain, d_Change___init__, d_Change_all_names, d_Change_plain, d_Change_read, d_Nested___init__, d_Nested_all_names, d_Nested_plain] : List He.DefD) ++ ([d_Nested_read, d_Plus_outcome, d_Minus_outcome, d_Choice_plain, d_Choice_read, d_Less_chooses_third, d_Same_chooses_third, d_is_whole, d_is_name, d_plain_figures, d_number_of, d_Words___init__, d_Words_next_word, d_Words_past, d_Words_one_name, d_Words_some_names, d_Words_one_number, d_Words_stretch, d_Words_in_brackets, d_Words_question, d_Words_nested, d_Words_over, d_Words_alone, d_question_of, d_put_behind, d_joined, d_laid, d_Reading___init__, d_Reading_speaker, d_Reading_telling] : List He.DefD) ++ ([d_Reading_told_grounds, d_asked_as, d_answered, d_plainly, d_need_keys, d_Book___init__, d_Book_all_keys, d_Book_now, d_Book_need_key, d_Book_need_room, d_Book_turn_for, d_Book_note, d_Book_find, d_Book_need_finding, d_Book_withdraw, d_Book_found, d_Book_strip_at, d_Book_table, d__law_cell, d__law_mix, d__law_begun, d__law_pull, d__law_names, d__law_window, d__law_days, d__law_amount, d__law_some, d__law_leaf, d__law_question, d__law_words] : List He.DefD) ++ ([d__law_fitting, d__law_over, d__law_row, d__law_simple, d__law_due, d__law_like, d__law_deed, d__law_known, d__law_boxes, d__law_told_right, d__law_spoken, d__law_now_right, d__law_asked, d_law] : List He.DefD)
def clsL : List Str := (["Question", "Number", "OnDay", "Over", "Sum", "Count", "Least", "Greatest", "Since", "Part", "Change", "Nested", "Plus", "Minus", "Choice", "Less", "Same", "Words", "Reading", "Book"] : List Str)
def noatL : List (Str × Str) := ([("Number", "amount"), ("OnDay", "name"), ("OnDay", "day"), ("Over", "names"), ("Over", "first"), ("Over", "last"), ("Sum", "names"), ("Sum", "first"), ("Sum", "last"), ("Count", "names"), ("Count", "first"), ("Count", "last"), ("Least", "names"), ("Least", "first"), ("Least", "last"), ("Greatest", "names"), ("Greatest", "first"), ("Greatest", "last"), ("Since", "name"), ("Since", "amount"), ("Since", "first"), ("Since", "last"), ("Part", "name"), ("Part", "other"), ("Part", "first")] : List (Str × Str)) ++ ([("Part", "last"), ("Change", "amount"), ("Change", "name"), ("Change", "first"), ("Change", "last"), ("Nested", "parts"), ("Plus", "parts"), ("Minus", "parts"), ("Choice", "parts"), ("Less", "parts"), ("Same", "parts"), ("Words", "left"), ("Words", "place"), ("Reading", "book"), ("Reading", "turn"), ("Reading", "speakers"), ("Reading", "seen"), ("Book", "names"), ("Book", "entered"), ("Book", "gone"), ("Book", "deeds"), ("Book", "strips")] : List (Str × Str))
def methL : List (Str × Str) := ([("Question", "all_names"), ("Question", "asked_keys"), ("Question", "read"), ("Number", "__init__"), ("Number", "plain"), ("Number", "all_names"), ("Number", "asked_keys"), ("Number", "read"), ("OnDay", "__init__"), ("OnDay", "all_names"), ("OnDay", "plain"), ("OnDay", "asked_keys"), ("OnDay", "read"), ("Over", "__init__"), ("Over", "all_names"), ("Over", "plain"), ("Over", "asked_keys"), ("Over", "read"), ("Sum", "outcome"), ("Sum", "__init__"), ("Sum", "all_names"), ("Sum", "plain"), ("Sum", "asked_keys"), ("Sum", "read"), ("Count", "outcome")] : List (Str × Str)) ++ ([("Count", "__init__"), ("Count", "all_names"), ("Count", "plain"), ("Count", "asked_keys"), ("Count", "read"), ("Least", "outcome"), ("Least", "__init__"), ("Least", "all_names"), ("Least", "plain"), ("Least", "asked_keys"), ("Least", "read"), ("Greatest", "outcome"), ("Greatest", "__init__"), ("Greatest", "all_names"), ("Greatest", "plain"), ("Greatest", "asked_keys"), ("Greatest", "read"), ("Since", "__init__"), ("Since", "all_names"), ("Since", "is_enough"), ("Since", "plain"), ("Since", "read"), ("Since", "asked_keys"), ("Part", "__init__"), ("Part", "all_names")] : List (Str × Str)) ++ ([("Part", "plain"), ("Part", "asked_keys"), ("Part", "read"), ("Change", "__init__"), ("Change", "all_names"), ("Change", "plain"), ("Change", "read"), ("Change", "asked_keys"), ("Nested", "__init__"), ("Nested", "all_names"), ("Nested", "plain"), ("Nested", "read"), ("Nested", "asked_keys"), ("Plus", "outcome"), ("Plus", "__init__"), ("Plus", "all_names"), ("Plus", "plain"), ("Plus", "read"), ("Plus", "asked_keys"), ("Minus", "outcome"), ("Minus", "__init__"), ("Minus", "all_names"), ("Minus", "plain"), ("Minus", "read"), ("Minus", "asked_keys")] : List (Str × Str)) ++ ([("Choice", "plain"), ("Choice", "read"), ("Choice", "__init__"), ("Choice", "all_names"), ("Choice", "asked_keys"), ("Less", "chooses_third"), ("Less", "plain"), ("Less", "read"), ("Less", "__init__"), ("Less", "all_names"), ("Less", "asked_keys"), ("Same", "chooses_third"), ("Same", "plain"), ("Same", "read"), ("Same", "__init__"), ("Same", "all_names"), ("Same", "asked_keys"), ("Words", "__init__"), ("Words", "next_word"), ("Words", "past"), ("Words", "one_name"), ("Words", "some_names"), ("Words", "one_number"), ("Words", "stretch"), ("Words", "in_brackets")] : List (Str × Str)) ++ ([("Words", "question"), ("Words", "nested"), ("Words", "over"), ("Words", "alone"), ("Reading", "__init__"), ("Reading", "speaker"), ("Reading", "telling"), ("Reading", "told_grounds"), ("Book", "__init__"), ("Book", "all_keys"), ("Book", "now"), ("Book", "need_key"), ("Book", "need_room"), ("Book", "turn_for"), ("Book", "note"), ("Book", "find"), ("Book", "need_finding"), ("Book", "withdraw"), ("Book", "found"), ("Book", "strip_at"), ("Book", "table")] : List (Str × Str))
def inhL : List (Str × Str × Str) := ([("Number", "Question", "all_names"), ("Number", "Question", "asked_keys"), ("Number", "Question", "read"), ("OnDay", "Question", "asked_keys"), ("OnDay", "Question", "read"), ("Over", "Question", "asked_keys"), ("Over", "Question", "read"), ("Sum", "Over", "__init__"), ("Sum", "Over", "all_names"), ("Sum", "Over", "plain"), ("Sum", "Question", "asked_keys"), ("Sum", "Question", "read"), ("Count", "Over", "__init__"), ("Count", "Over", "all_names"), ("Count", "Over", "plain"), ("Count", "Question", "asked_keys"), ("Count", "Question", "read"), ("Least", "Over", "__init__"), ("Least", "Over", "all_names"), ("Least", "Over", "plain"), ("Least", "Question", "asked_keys"), ("Least", "Question", "read"), ("Greatest", "Over", "__init__"), ("Greatest", "Over", "all_names"), ("Greatest", "Over", "plain")] : List (Str × Str × Str)) ++ ([("Greatest", "Question", "asked_keys"), ("Greatest", "Question", "read"), ("Since", "Question", "asked_keys"), ("Part", "Question", "asked_keys"), ("Part", "Question", "read"), ("Change", "Question", "asked_keys"), ("Nested", "Question", "asked_keys"), ("Plus", "Nested", "__init__"), ("Plus", "Nested", "all_names"), ("Plus", "Nested", "plain"), ("Plus", "Nested", "read"), ("Plus", "Question", "asked_keys"), ("Minus", "Nested", "__init__"), ("Minus", "Nested", "all_names"), ("Minus", "Nested", "plain"), ("Minus", "Nested", "read"), ("Minus", "Question", "asked_keys"), ("Choice", "Nested", "__init__"), ("Choice", "Nested", "all_names"), ("Choice", "Question", "asked_keys"), ("Less", "Choice", "plain"), ("Less", "Choice", "read"), ("Less", "Nested", "__init__"), ("Less", "Nested", "all_names"), ("Less", "Question", "asked_keys")] : List (Str × Str × Str)) ++ ([("Same", "Choice", "plain"), ("Same", "Choice", "read"), ("Same", "Nested", "__init__"), ("Same", "Nested", "all_names"), ("Same", "Question", "asked_keys")] : List (Str × Str × Str))
def mkrL : List Str := (["Number", "OnDay", "Over", "Sum", "Count", "Least", "Greatest", "Since", "Part", "Change", "Nested", "Plus", "Minus", "Choice", "Less", "Same", "Words", "Reading", "Book"] : List Str)
def lamL : List He.DefD := [d_joined, d_answered, d_plainly]
def qcL : List Str := ["Number", "OnDay", "Sum", "Count", "Least", "Greatest", "Since", "Part", "Change", "Plus", "Minus", "Less", "Same"]

/-! ### what the top has left, of names -/
structure Ev (B : Bs) : Prop where
  fns : ∀ (i : Nat) (d : He.DefD), fnL[i]? = some d → ∃ fd, FunD B.K d.name d.qual d.params d.body d.scope (d.dvs B.K) (d.kws B.K) (He.fAd B.K d.at_) fd
  fgl : ∀ (i : Nat) (d : He.DefD) x, fnL[i]? = some d → d.at_ = (x, none) → B.mg x = some (.ref (He.ga B.K x))
  glo : ∀ (i : Nat) x, clsL[i]? = some x → B.mg x = some (.ref (He.ga B.K x))
  cls : ∀ (i : Nat) x, clsL[i]? = some x → Cls B.K (He.ga B.K x)
  noat : ∀ (i : Nat) p, noatL[i]? = some p → NoAttr B.K (He.ga B.K p.1) p.2
  meth : ∀ (i : Nat) p, methL[i]? = some p → Meth B.K (He.ga B.K p.1) p.2 (He.ma B.K (He.ga B.K p.1) p.2)
  inh : ∀ (i : Nat) p, inhL[i]? = some p → He.ma B.K (He.ga B.K p.1) p.2.2 = He.ma B.K (He.ga B.K p.2.1) p.2.2
  mkr : ∀ (i : Nat) x, mkrL[i]? = some x → Mk B.K (He.ga B.K x) (He.ma B.K (He.ga B.K x) "__init__")
  lam : ∀ (i : Nat) (d : He.DefD), lamL[i]? = some d → ∃ fd c P, FunD B.K d.name d.qual d.params d.body d.scope (d.dvs B.K) (d.kws B.K) (He.fAd B.K d.at_) fd ∧ fd.code = .ref c ∧ LamX.TabB B.base B.mg c P ∧ (P, d.qual ++ ".<locals>." ++ "<lambda>") ∈ B.T ∧ ∀ p ∈ B.T, p.1 = P → p.2 = d.qual ++ ".<locals>." ++ "<lambda>"
  lgl : ∀ (i : Nat) (d : He.DefD) x, lamL[i]? = some d → d.at_ = (x, none) → B.mg x = some (.ref (He.ga B.K x))
  f_all : B.mg "all" = none
  f_bool : B.mg "bool" = none
  f_enumerate : B.mg "enumerate" = none
  f_int : B.mg "int" = none
  f_isinstance : B.mg "isinstance" = none
  f_len : B.mg "len" = none
  f_list : B.mg "list" = none
  f_max : B.mg "max" = none
  f_min : B.mg "min" = none
  f_range : B.mg "range" = none
  f_set : B.mg "set" = none
  f_sorted : B.mg "sorted" = none
  f_str : B.mg "str" = none
  f_sum : B.mg "sum" = none
  f_tuple : B.mg "tuple" = none
  f_zip : B.mg "zip" = none
  i_LAST_DAY_questiontexts : GV B "LAST_DAY_questiontexts" (.int 399)
  i_FAR : GV B "FAR" (.int 1000000000)
  i_MOST_NAMES : GV B "MOST_NAMES" (.int 8)
  i_MOST_OPEN : GV B "MOST_OPEN" (.int 3)
  i_MOST_CHANGES : GV B "MOST_CHANGES" (.int 400)
  i_LAST_DAY_findings : GV B "LAST_DAY_findings" (.int 399)
  i_MOST_VALUE : GV B "MOST_VALUE" (.int 1000000000)
  i_MOST_KEYS : GV B "MOST_KEYS" (.int 8)
  i_MOST_DEEDS : GV B "MOST_DEEDS" (.int 60)
  s_LETTERS : GV B "LETTERS" (.str "abcdefghijklmnopqrstuvwxyz")
  s_FIGURES : GV B "FIGURES" (.str "0123456789")
section
variable {B : Bs}
/-- a def, by its body -/
theorem Ev.fn (E : Ev B) (i : Nat) {x : Str} {d : He.DefD} (hi : fnL[i]? = some d) (hat : d.at_ = (x, none)) (hd : d.dfl = []) (hk : d.kwd = []) {N ps gs : List Str} {k n : Nat} {sp : Sp} (hc : chkD N n ps gs d.scope = true)
    (len : ∀ vs H Q E, sp vs H Q E → vs.length = ps.length)
    (h : ∀ (kV doc pm : Value) (an : Option Addr) (cdv ct : Value) (us : List Value), us.length = ps.length → bindArgs (PySem.W.fnOf d.name d.qual d.params d.body d.scope .none kV doc pm an cdv ct) ⟨us, []⟩ = pure (ps.zip us))
    (hb : ∀ (X : Cx) (vs : List V) (H : Hp) (Q : VK) (E : XK), Gd B k d.scope N (tt n) (tt n) gs X → sp vs H Q E → WSs X d.body { nx := fun _ H' => Q .non H', rt := Q } (start N vs) H) : Fn B (k + 1) x sp [] := by
  obtain ⟨fd, F⟩ := E.fns i d hi
  have e1 : d.dvs B.K = [] := by unfold He.DefD.dvs; rw [hd]; rfl
  have e2 : d.kws B.K = [] := by unfold He.DefD.kws; rw [hk]; rfl
  rw [e1, e2] at F
  refine ⟨_, fd, ps, [], ok_of F hc len hb, ?_, F.kp, F.bindsN h, .nil⟩
  rw [E.fgl i d x hi hat, hat] <;> rfl
theorem fn_dfl (E : Ev B) {x : Str} {d : He.DefD} {fd : FuncData} {dvs : List V} {f : Addr} {ps : List Str} {k : Nat} {sp : Sp} (F : FunD B.K d.name d.qual d.params d.body d.scope dvs [] f fd) (ok : FnOk B.P B.w B.K B.mg B.base CX0 k f fd ps sp) (hg : B.mg x = some (.ref f)) (n j : Nat) (hd : dvs ≠ []) (hn : n + (dvs.length - j) = ps.length)
    (h : ∀ (T : Addr) (kV doc pm : Value) (an : Option Addr) (cdv ct : Value) (us its : List Value), us.length = n → its.length = dvs.length →
      ∃ k, bindArgs (PySem.W.fnOf d.name d.qual d.params d.body d.scope (.ref T) kV doc pm an cdv ct) ⟨us, []⟩ = seqItems? (.ref T) >>= k ∧ k (some its.toArray) = pure (ps.zip (us ++ its.drop j))) : Fn B k x sp (dvs.drop j) := by
  obtain ⟨ds, v, b⟩ := F.binds1 n j hd hn h
  exact ⟨f, fd, ps, ds, ok, hg, F.kp, b, v⟩
/-- what a maker of lambdas has -/
structure MkL (B : Bs) (X : Cx) (c P : Addr) (q : Str) : Prop where
  TB : LamX.TabB B.base B.mg c P
  code : X.env.code = .ref c
  qual : X.env.qual ++ "<lambda>" = q
  mem : (P, q) ∈ B.T
  uniq : ∀ p ∈ B.T, p.1 = P → p.2 = q
  fn : ∀ y, X.fn y = true
theorem Ev.lamF (E : Ev B) (i : Nat) {x : Str} {d : He.DefD} (hi : lamL[i]? = some d) (hat : d.at_ = (x, none)) (hk : d.kwd = []) {N ps gs : List Str} {k n : Nat} {sp : Sp} (hc : chkD N n ps gs d.scope = true)
    (len : ∀ vs H Q E, sp vs H Q E → vs.length = ps.length)
    (hb : ∀ (X : Cx) (vs : List V) (H : Hp) (Q : VK) (E : XK), Gd B k d.scope N (tt n) (tt n) gs X → (∃ c P, MkL B X c P (d.qual ++ ".<locals>." ++ "<lambda>")) → sp vs H Q E → WSs X d.body { nx := fun _ H' => Q .non H', rt := Q } (start N vs) H) :
    ∃ fd f, FunD B.K d.name d.qual d.params d.body d.scope (d.dvs B.K) [] f fd ∧ FnOk B.P B.w B.K B.mg B.base CX0 (k + 1) f fd ps sp ∧ B.mg x = some (.ref f) := by
  obtain ⟨fd, c, P, F, hcd, TB, hm, hu⟩ := E.lam i d hi
  have e2 : d.kws B.K = [] := by unfold He.DefD.kws; rw [hk]; rfl
  rw [e2] at F
  refine ⟨fd, _, F, ok_ofC F hc len fun X vs H Q E g cd h => hb X vs H Q E g ⟨c, P, TB, by rw [cd.code, hcd], by rw [cd.qual], hm, hu, cd.fn⟩ h, ?_⟩
  rw [E.lgl i d x hi hat, hat] <;> rfl
/-- a method's def -/
def MFn (B : Bs) (k : Nat) (c m : Str) (ps : List Str) (sp : Sp) : Prop := ∃ f fd, f = He.ma B.K (He.ga B.K c) m ∧ FnOk B.P B.w B.K B.mg B.base CX0 k f fd ps sp ∧ Binds B.K fd ps []
theorem Ev.mt (E : Ev B) (i : Nat) {c m : Str} {d : He.DefD} (hi : fnL[i]? = some d) (hat : d.at_ = (c, some m)) (hd : d.dfl = []) (hk : d.kwd = []) {N ps gs : List Str} {k n : Nat} {sp : Sp} (hc : chkD N n ps gs d.scope = true)
    (len : ∀ vs H Q E, sp vs H Q E → vs.length = ps.length)
    (h : ∀ (kV doc pm : Value) (an : Option Addr) (cdv ct : Value) (us : List Value), us.length = ps.length → bindArgs (PySem.W.fnOf d.name d.qual d.params d.body d.scope .none kV doc pm an cdv ct) ⟨us, []⟩ = pure (ps.zip us))
    (hb : ∀ (X : Cx) (vs : List V) (H : Hp) (Q : VK) (E : XK), Gd B k d.scope N (tt n) (tt n) gs X → sp vs H Q E → WSs X d.body { nx := fun _ H' => Q .non H', rt := Q } (start N vs) H) : MFn B (k + 1) c m ps sp := by
  obtain ⟨fd, F⟩ := E.fns i d hi
  have e1 : d.dvs B.K = [] := by unfold He.DefD.dvs; rw [hd]; rfl
  have e2 : d.kws B.K = [] := by unfold He.DefD.kws; rw [hk]; rfl
  rw [e1, e2] at F
  refine ⟨_, fd, ?_, ok_of F hc len hb, F.bindsN h⟩
  rw [hat] <;> rfl
theorem Ev.mtD (E : Ev B) (i : Nat) {c m : Str} {d : He.DefD} (hi : fnL[i]? = some d) (hat : d.at_ = (c, some m)) (hd : d.dvs B.K = [.non]) (hk : d.kwd = []) {N ps gs : List Str} {k n : Nat} {sp : Sp} (hc : chkD N n ps gs d.scope = true)
    (len : ∀ vs H Q E, sp vs H Q E → vs.length = ps.length)
    (h : ∀ (T : Addr) (kV doc pm : Value) (an : Option Addr) (cdv ct : Value) (us its : List Value), us.length = ps.length → its.length = 1 →
      ∃ k, bindArgs (PySem.W.fnOf d.name d.qual d.params d.body d.scope (.ref T) kV doc pm an cdv ct) ⟨us, []⟩ = seqItems? (.ref T) >>= k ∧ k (some its.toArray) = pure (ps.zip (us ++ its.drop 1)))
    (hb : ∀ (X : Cx) (vs : List V) (H : Hp) (Q : VK) (E : XK), Gd B k d.scope N (tt n) (tt n) gs X → sp vs H Q E → WSs X d.body { nx := fun _ H' => Q .non H', rt := Q } (start N vs) H) : MFn B (k + 1) c m ps sp := by
  obtain ⟨fd, F⟩ := E.fns i d hi
  have e2 : d.kws B.K = [] := by unfold He.DefD.kws; rw [hk]; rfl
  rw [hd, e2] at F
  obtain ⟨ds, v, b⟩ := F.binds1 ps.length 1 (by simp) rfl h
  cases v
  refine ⟨_, fd, ?_, ok_of F hc len hb, b⟩
  rw [hat] <;> rfl
theorem MFn.mt {c m : Str} {k : Nat} {sp : Sp} {ps : List Str} (h : MFn B k c m ps sp) (hc : Cls B.K (He.ga B.K c)) (hm : Meth B.K (He.ga B.K c) m (He.ma B.K (He.ga B.K c) m)) : Mt B k (He.ga B.K c) m sp [] := by
  obtain ⟨f, fd, rfl, F, b⟩ := h
  exact ⟨_, fd, ps, [], hc, hm, F, b, .nil⟩
theorem MFn.inh {c c0 m : Str} {k : Nat} {sp : Sp} {ps : List Str} (h : MFn B k c0 m ps sp) (e : He.ma B.K (He.ga B.K c) m = He.ma B.K (He.ga B.K c0) m) : MFn B k c m ps sp := by
  obtain ⟨f, fd, rfl, F, b⟩ := h
  exact ⟨_, fd, e.symm, F, b⟩
theorem MFn.mk {c : Str} {k : Nat} {sp : Sp} {ps : List Str} (h : MFn B k c "__init__" ps sp) (hm : Mk B.K (He.ga B.K c) (He.ma B.K (He.ga B.K c) "__init__")) (hg : B.mg c = some (.ref (He.ga B.K c))) : Mkr B k c (He.ga B.K c) sp [] := by
  obtain ⟨f, fd, rfl, F, b⟩ := h
  exact ⟨_, fd, ps, [], hm, F, hg, b, .nil⟩
theorem Ev.c_Question (E : Ev B) : Cls B.K (He.ga B.K "Question") := E.cls 0 _ rfl
theorem Ev.g_Question (E : Ev B) : B.mg "Question" = some (.ref (He.ga B.K "Question")) := E.glo 0 _ rfl
theorem Ev.c_Number (E : Ev B) : Cls B.K (He.ga B.K "Number") := E.cls 1 _ rfl
theorem Ev.g_Number (E : Ev B) : B.mg "Number" = some (.ref (He.ga B.K "Number")) := E.glo 1 _ rfl
theorem Ev.c_OnDay (E : Ev B) : Cls B.K (He.ga B.K "OnDay") := E.cls 2 _ rfl
theorem Ev.g_OnDay (E : Ev B) : B.mg "OnDay" = some (.ref (He.ga B.K "OnDay")) := E.glo 2 _ rfl
theorem Ev.c_Over (E : Ev B) : Cls B.K (He.ga B.K "Over") := E.cls 3 _ rfl
theorem Ev.g_Over (E : Ev B) : B.mg "Over" = some (.ref (He.ga B.K "Over")) := E.glo 3 _ rfl
theorem Ev.c_Sum (E : Ev B) : Cls B.K (He.ga B.K "Sum") := E.cls 4 _ rfl
theorem Ev.g_Sum (E : Ev B) : B.mg "Sum" = some (.ref (He.ga B.K "Sum")) := E.glo 4 _ rfl
theorem Ev.c_Count (E : Ev B) : Cls B.K (He.ga B.K "Count") := E.cls 5 _ rfl
theorem Ev.g_Count (E : Ev B) : B.mg "Count" = some (.ref (He.ga B.K "Count")) := E.glo 5 _ rfl
theorem Ev.c_Least (E : Ev B) : Cls B.K (He.ga B.K "Least") := E.cls 6 _ rfl
theorem Ev.g_Least (E : Ev B) : B.mg "Least" = some (.ref (He.ga B.K "Least")) := E.glo 6 _ rfl
theorem Ev.c_Greatest (E : Ev B) : Cls B.K (He.ga B.K "Greatest") := E.cls 7 _ rfl
theorem Ev.g_Greatest (E : Ev B) : B.mg "Greatest" = some (.ref (He.ga B.K "Greatest")) := E.glo 7 _ rfl
theorem Ev.c_Since (E : Ev B) : Cls B.K (He.ga B.K "Since") := E.cls 8 _ rfl
theorem Ev.g_Since (E : Ev B) : B.mg "Since" = some (.ref (He.ga B.K "Since")) := E.glo 8 _ rfl
theorem Ev.c_Part (E : Ev B) : Cls B.K (He.ga B.K "Part") := E.cls 9 _ rfl
theorem Ev.g_Part (E : Ev B) : B.mg "Part" = some (.ref (He.ga B.K "Part")) := E.glo 9 _ rfl
theorem Ev.c_Change (E : Ev B) : Cls B.K (He.ga B.K "Change") := E.cls 10 _ rfl
theorem Ev.g_Change (E : Ev B) : B.mg "Change" = some (.ref (He.ga B.K "Change")) := E.glo 10 _ rfl
theorem Ev.c_Nested (E : Ev B) : Cls B.K (He.ga B.K "Nested") := E.cls 11 _ rfl
theorem Ev.g_Nested (E : Ev B) : B.mg "Nested" = some (.ref (He.ga B.K "Nested")) := E.glo 11 _ rfl
theorem Ev.c_Plus (E : Ev B) : Cls B.K (He.ga B.K "Plus") := E.cls 12 _ rfl
theorem Ev.g_Plus (E : Ev B) : B.mg "Plus" = some (.ref (He.ga B.K "Plus")) := E.glo 12 _ rfl
theorem Ev.c_Minus (E : Ev B) : Cls B.K (He.ga B.K "Minus") := E.cls 13 _ rfl
theorem Ev.g_Minus (E : Ev B) : B.mg "Minus" = some (.ref (He.ga B.K "Minus")) := E.glo 13 _ rfl
theorem Ev.c_Choice (E : Ev B) : Cls B.K (He.ga B.K "Choice") := E.cls 14 _ rfl
theorem Ev.g_Choice (E : Ev B) : B.mg "Choice" = some (.ref (He.ga B.K "Choice")) := E.glo 14 _ rfl
theorem Ev.c_Less (E : Ev B) : Cls B.K (He.ga B.K "Less") := E.cls 15 _ rfl
theorem Ev.g_Less (E : Ev B) : B.mg "Less" = some (.ref (He.ga B.K "Less")) := E.glo 15 _ rfl
theorem Ev.c_Same (E : Ev B) : Cls B.K (He.ga B.K "Same") := E.cls 16 _ rfl
theorem Ev.g_Same (E : Ev B) : B.mg "Same" = some (.ref (He.ga B.K "Same")) := E.glo 16 _ rfl
theorem Ev.c_Words (E : Ev B) : Cls B.K (He.ga B.K "Words") := E.cls 17 _ rfl
theorem Ev.g_Words (E : Ev B) : B.mg "Words" = some (.ref (He.ga B.K "Words")) := E.glo 17 _ rfl
theorem Ev.c_Reading (E : Ev B) : Cls B.K (He.ga B.K "Reading") := E.cls 18 _ rfl
theorem Ev.g_Reading (E : Ev B) : B.mg "Reading" = some (.ref (He.ga B.K "Reading")) := E.glo 18 _ rfl
theorem Ev.c_Book (E : Ev B) : Cls B.K (He.ga B.K "Book") := E.cls 19 _ rfl
theorem Ev.g_Book (E : Ev B) : B.mg "Book" = some (.ref (He.ga B.K "Book")) := E.glo 19 _ rfl
theorem Ev.na_Number_amount (E : Ev B) : NoAttr B.K (He.ga B.K "Number") "amount" := E.noat 0 ("Number", "amount") rfl
theorem Ev.na_OnDay_name (E : Ev B) : NoAttr B.K (He.ga B.K "OnDay") "name" := E.noat 1 ("OnDay", "name") rfl
theorem Ev.na_OnDay_day (E : Ev B) : NoAttr B.K (He.ga B.K "OnDay") "day" := E.noat 2 ("OnDay", "day") rfl
theorem Ev.na_Over_names (E : Ev B) : NoAttr B.K (He.ga B.K "Over") "names" := E.noat 3 ("Over", "names") rfl
theorem Ev.na_Over_first (E : Ev B) : NoAttr B.K (He.ga B.K "Over") "first" := E.noat 4 ("Over", "first") rfl
theorem Ev.na_Over_last (E : Ev B) : NoAttr B.K (He.ga B.K "Over") "last" := E.noat 5 ("Over", "last") rfl
theorem Ev.na_Sum_names (E : Ev B) : NoAttr B.K (He.ga B.K "Sum") "names" := E.noat 6 ("Sum", "names") rfl
theorem Ev.na_Sum_first (E : Ev B) : NoAttr B.K (He.ga B.K "Sum") "first" := E.noat 7 ("Sum", "first") rfl
theorem Ev.na_Sum_last (E : Ev B) : NoAttr B.K (He.ga B.K "Sum") "last" := E.noat 8 ("Sum", "last") rfl
theorem Ev.na_Count_names (E : Ev B) : NoAttr B.K (He.ga B.K "Count") "names" := E.noat 9 ("Count", "names") rfl
theorem Ev.na_Count_first (E : Ev B) : NoAttr B.K (He.ga B.K "Count") "first" := E.noat 10 ("Count", "first") rfl
theorem Ev.na_Count_last (E : Ev B) : NoAttr B.K (He.ga B.K "Count") "last" := E.noat 11 ("Count", "last") rfl
theorem Ev.na_Least_names (E : Ev B) : NoAttr B.K (He.ga B.K "Least") "names" := E.noat 12 ("Least", "names") rfl
theorem Ev.na_Least_first (E : Ev B) : NoAttr B.K (He.ga B.K "Least") "first" := E.noat 13 ("Least", "first") rfl
theorem Ev.na_Least_last (E : Ev B) : NoAttr B.K (He.ga B.K "Least") "last" := E.noat 14 ("Least", "last") rfl
theorem Ev.na_Greatest_names (E : Ev B) : NoAttr B.K (He.ga B.K "Greatest") "names" := E.noat 15 ("Greatest", "names") rfl
theorem Ev.na_Greatest_first (E : Ev B) : NoAttr B.K (He.ga B.K "Greatest") "first" := E.noat 16 ("Greatest", "first") rfl
theorem Ev.na_Greatest_last (E : Ev B) : NoAttr B.K (He.ga B.K "Greatest") "last" := E.noat 17 ("Greatest", "last") rfl
theorem Ev.na_Since_name (E : Ev B) : NoAttr B.K (He.ga B.K "Since") "name" := E.noat 18 ("Since", "name") rfl
theorem Ev.na_Since_amount (E : Ev B) : NoAttr B.K (He.ga B.K "Since") "amount" := E.noat 19 ("Since", "amount") rfl
theorem Ev.na_Since_first (E : Ev B) : NoAttr B.K (He.ga B.K "Since") "first" := E.noat 20 ("Since", "first") rfl
theorem Ev.na_Since_last (E : Ev B) : NoAttr B.K (He.ga B.K "Since") "last" := E.noat 21 ("Since", "last") rfl
theorem Ev.na_Part_name (E : Ev B) : NoAttr B.K (He.ga B.K "Part") "name" := E.noat 22 ("Part", "name") rfl
theorem Ev.na_Part_other (E : Ev B) : NoAttr B.K (He.ga B.K "Part") "other" := E.noat 23 ("Part", "other") rfl
theorem Ev.na_Part_first (E : Ev B) : NoAttr B.K (He.ga B.K "Part") "first" := E.noat 24 ("Part", "first") rfl
theorem Ev.na_Part_last (E : Ev B) : NoAttr B.K (He.ga B.K "Part") "last" := E.noat 25 ("Part", "last") rfl
theorem Ev.na_Change_amount (E : Ev B) : NoAttr B.K (He.ga B.K "Change") "amount" := E.noat 26 ("Change", "amount") rfl
theorem Ev.na_Change_name (E : Ev B) : NoAttr B.K (He.ga B.K "Change") "name" := E.noat 27 ("Change", "name") rfl
theorem Ev.na_Change_first (E : Ev B) : NoAttr B.K (He.ga B.K "Change") "first" := E.noat 28 ("Change", "first") rfl
theorem Ev.na_Change_last (E : Ev B) : NoAttr B.K (He.ga B.K "Change") "last" := E.noat 29 ("Change", "last") rfl
theorem Ev.na_Nested_parts (E : Ev B) : NoAttr B.K (He.ga B.K "Nested") "parts" := E.noat 30 ("Nested", "parts") rfl
theorem Ev.na_Plus_parts (E : Ev B) : NoAttr B.K (He.ga B.K "Plus") "parts" := E.noat 31 ("Plus", "parts") rfl
theorem Ev.na_Minus_parts (E : Ev B) : NoAttr B.K (He.ga B.K "Minus") "parts" := E.noat 32 ("Minus", "parts") rfl
theorem Ev.na_Choice_parts (E : Ev B) : NoAttr B.K (He.ga B.K "Choice") "parts" := E.noat 33 ("Choice", "parts") rfl
theorem Ev.na_Less_parts (E : Ev B) : NoAttr B.K (He.ga B.K "Less") "parts" := E.noat 34 ("Less", "parts") rfl
theorem Ev.na_Same_parts (E : Ev B) : NoAttr B.K (He.ga B.K "Same") "parts" := E.noat 35 ("Same", "parts") rfl
theorem Ev.na_Words_left (E : Ev B) : NoAttr B.K (He.ga B.K "Words") "left" := E.noat 36 ("Words", "left") rfl
theorem Ev.na_Words_place (E : Ev B) : NoAttr B.K (He.ga B.K "Words") "place" := E.noat 37 ("Words", "place") rfl
theorem Ev.na_Reading_book (E : Ev B) : NoAttr B.K (He.ga B.K "Reading") "book" := E.noat 38 ("Reading", "book") rfl
theorem Ev.na_Reading_turn (E : Ev B) : NoAttr B.K (He.ga B.K "Reading") "turn" := E.noat 39 ("Reading", "turn") rfl
theorem Ev.na_Reading_speakers (E : Ev B) : NoAttr B.K (He.ga B.K "Reading") "speakers" := E.noat 40 ("Reading", "speakers") rfl
theorem Ev.na_Reading_seen (E : Ev B) : NoAttr B.K (He.ga B.K "Reading") "seen" := E.noat 41 ("Reading", "seen") rfl
theorem Ev.na_Book_names (E : Ev B) : NoAttr B.K (He.ga B.K "Book") "names" := E.noat 42 ("Book", "names") rfl
theorem Ev.na_Book_entered (E : Ev B) : NoAttr B.K (He.ga B.K "Book") "entered" := E.noat 43 ("Book", "entered") rfl
theorem Ev.na_Book_gone (E : Ev B) : NoAttr B.K (He.ga B.K "Book") "gone" := E.noat 44 ("Book", "gone") rfl
theorem Ev.na_Book_deeds (E : Ev B) : NoAttr B.K (He.ga B.K "Book") "deeds" := E.noat 45 ("Book", "deeds") rfl
theorem Ev.na_Book_strips (E : Ev B) : NoAttr B.K (He.ga B.K "Book") "strips" := E.noat 46 ("Book", "strips") rfl
theorem Ev.m_Question_all_names (E : Ev B) : Meth B.K (He.ga B.K "Question") "all_names" (He.ma B.K (He.ga B.K "Question") "all_names") := E.meth 0 ("Question", "all_names") rfl
theorem Ev.m_Question_asked_keys (E : Ev B) : Meth B.K (He.ga B.K "Question") "asked_keys" (He.ma B.K (He.ga B.K "Question") "asked_keys") := E.meth 1 ("Question", "asked_keys") rfl
theorem Ev.m_Question_read (E : Ev B) : Meth B.K (He.ga B.K "Question") "read" (He.ma B.K (He.ga B.K "Question") "read") := E.meth 2 ("Question", "read") rfl
theorem Ev.m_Number___init__ (E : Ev B) : Meth B.K (He.ga B.K "Number") "__init__" (He.ma B.K (He.ga B.K "Number") "__init__") := E.meth 3 ("Number", "__init__") rfl
theorem Ev.m_Number_plain (E : Ev B) : Meth B.K (He.ga B.K "Number") "plain" (He.ma B.K (He.ga B.K "Number") "plain") := E.meth 4 ("Number", "plain") rfl
theorem Ev.m_Number_all_names (E : Ev B) : Meth B.K (He.ga B.K "Number") "all_names" (He.ma B.K (He.ga B.K "Number") "all_names") := E.meth 5 ("Number", "all_names") rfl
theorem Ev.m_Number_asked_keys (E : Ev B) : Meth B.K (He.ga B.K "Number") "asked_keys" (He.ma B.K (He.ga B.K "Number") "asked_keys") := E.meth 6 ("Number", "asked_keys") rfl
theorem Ev.m_Number_read (E : Ev B) : Meth B.K (He.ga B.K "Number") "read" (He.ma B.K (He.ga B.K "Number") "read") := E.meth 7 ("Number", "read") rfl
theorem Ev.m_OnDay___init__ (E : Ev B) : Meth B.K (He.ga B.K "OnDay") "__init__" (He.ma B.K (He.ga B.K "OnDay") "__init__") := E.meth 8 ("OnDay", "__init__") rfl
theorem Ev.m_OnDay_all_names (E : Ev B) : Meth B.K (He.ga B.K "OnDay") "all_names" (He.ma B.K (He.ga B.K "OnDay") "all_names") := E.meth 9 ("OnDay", "all_names") rfl
theorem Ev.m_OnDay_plain (E : Ev B) : Meth B.K (He.ga B.K "OnDay") "plain" (He.ma B.K (He.ga B.K "OnDay") "plain") := E.meth 10 ("OnDay", "plain") rfl
theorem Ev.m_OnDay_asked_keys (E : Ev B) : Meth B.K (He.ga B.K "OnDay") "asked_keys" (He.ma B.K (He.ga B.K "OnDay") "asked_keys") := E.meth 11 ("OnDay", "asked_keys") rfl
theorem Ev.m_OnDay_read (E : Ev B) : Meth B.K (He.ga B.K "OnDay") "read" (He.ma B.K (He.ga B.K "OnDay") "read") := E.meth 12 ("OnDay", "read") rfl
theorem Ev.m_Over___init__ (E : Ev B) : Meth B.K (He.ga B.K "Over") "__init__" (He.ma B.K (He.ga B.K "Over") "__init__") := E.meth 13 ("Over", "__init__") rfl
theorem Ev.m_Over_all_names (E : Ev B) : Meth B.K (He.ga B.K "Over") "all_names" (He.ma B.K (He.ga B.K "Over") "all_names") := E.meth 14 ("Over", "all_names") rfl
theorem Ev.m_Over_plain (E : Ev B) : Meth B.K (He.ga B.K "Over") "plain" (He.ma B.K (He.ga B.K "Over") "plain") := E.meth 15 ("Over", "plain") rfl
theorem Ev.m_Over_asked_keys (E : Ev B) : Meth B.K (He.ga B.K "Over") "asked_keys" (He.ma B.K (He.ga B.K "Over") "asked_keys") := E.meth 16 ("Over", "asked_keys") rfl
theorem Ev.m_Over_read (E : Ev B) : Meth B.K (He.ga B.K "Over") "read" (He.ma B.K (He.ga B.K "Over") "read") := E.meth 17 ("Over", "read") rfl
theorem Ev.m_Sum_outcome (E : Ev B) : Meth B.K (He.ga B.K "Sum") "outcome" (He.ma B.K (He.ga B.K "Sum") "outcome") := E.meth 18 ("Sum", "outcome") rfl
theorem Ev.m_Sum___init__ (E : Ev B) : Meth B.K (He.ga B.K "Sum") "__init__" (He.ma B.K (He.ga B.K "Sum") "__init__") := E.meth 19 ("Sum", "__init__") rfl
theorem Ev.m_Sum_all_names (E : Ev B) : Meth B.K (He.ga B.K "Sum") "all_names" (He.ma B.K (He.ga B.K "Sum") "all_names") := E.meth 20 ("Sum", "all_names") rfl
theorem Ev.m_Sum_plain (E : Ev B) : Meth B.K (He.ga B.K "Sum") "plain" (He.ma B.K (He.ga B.K "Sum") "plain") := E.meth 21 ("Sum", "plain") rfl
theorem Ev.m_Sum_asked_keys (E : Ev B) : Meth B.K (He.ga B.K "Sum") "asked_keys" (He.ma B.K (He.ga B.K "Sum") "asked_keys") := E.meth 22 ("Sum", "asked_keys") rfl
theorem Ev.m_Sum_read (E : Ev B) : Meth B.K (He.ga B.K "Sum") "read" (He.ma B.K (He.ga B.K "Sum") "read") := E.meth 23 ("Sum", "read") rfl
theorem Ev.m_Count_outcome (E : Ev B) : Meth B.K (He.ga B.K "Count") "outcome" (He.ma B.K (He.ga B.K "Count") "outcome") := E.meth 24 ("Count", "outcome") rfl
theorem Ev.m_Count___init__ (E : Ev B) : Meth B.K (He.ga B.K "Count") "__init__" (He.ma B.K (He.ga B.K "Count") "__init__") := E.meth 25 ("Count", "__init__") rfl
theorem Ev.m_Count_all_names (E : Ev B) : Meth B.K (He.ga B.K "Count") "all_names" (He.ma B.K (He.ga B.K "Count") "all_names") := E.meth 26 ("Count", "all_names") rfl
theorem Ev.m_Count_plain (E : Ev B) : Meth B.K (He.ga B.K "Count") "plain" (He.ma B.K (He.ga B.K "Count") "plain") := E.meth 27 ("Count", "plain") rfl
theorem Ev.m_Count_asked_keys (E : Ev B) : Meth B.K (He.ga B.K "Count") "asked_keys" (He.ma B.K (He.ga B.K "Count") "asked_keys") := E.meth 28 ("Count", "asked_keys") rfl
theorem Ev.m_Count_read (E : Ev B) : Meth B.K (He.ga B.K "Count") "read" (He.ma B.K (He.ga B.K "Count") "read") := E.meth 29 ("Count", "read") rfl
theorem Ev.m_Least_outcome (E : Ev B) : Meth B.K (He.ga B.K "Least") "outcome" (He.ma B.K (He.ga B.K "Least") "outcome") := E.meth 30 ("Least", "outcome") rfl
theorem Ev.m_Least___init__ (E : Ev B) : Meth B.K (He.ga B.K "Least") "__init__" (He.ma B.K (He.ga B.K "Least") "__init__") := E.meth 31 ("Least", "__init__") rfl
theorem Ev.m_Least_all_names (E : Ev B) : Meth B.K (He.ga B.K "Least") "all_names" (He.ma B.K (He.ga B.K "Least") "all_names") := E.meth 32 ("Least", "all_names") rfl
theorem Ev.m_Least_plain (E : Ev B) : Meth B.K (He.ga B.K "Least") "plain" (He.ma B.K (He.ga B.K "Least") "plain") := E.meth 33 ("Least", "plain") rfl
theorem Ev.m_Least_asked_keys (E : Ev B) : Meth B.K (He.ga B.K "Least") "asked_keys" (He.ma B.K (He.ga B.K "Least") "asked_keys") := E.meth 34 ("Least", "asked_keys") rfl
theorem Ev.m_Least_read (E : Ev B) : Meth B.K (He.ga B.K "Least") "read" (He.ma B.K (He.ga B.K "Least") "read") := E.meth 35 ("Least", "read") rfl
theorem Ev.m_Greatest_outcome (E : Ev B) : Meth B.K (He.ga B.K "Greatest") "outcome" (He.ma B.K (He.ga B.K "Greatest") "outcome") := E.meth 36 ("Greatest", "outcome") rfl
theorem Ev.m_Greatest___init__ (E : Ev B) : Meth B.K (He.ga B.K "Greatest") "__init__" (He.ma B.K (He.ga B.K "Greatest") "__init__") := E.meth 37 ("Greatest", "__init__") rfl
theorem Ev.m_Greatest_all_names (E : Ev B) : Meth B.K (He.ga B.K "Greatest") "all_names" (He.ma B.K (He.ga B.K "Greatest") "all_names") := E.meth 38 ("Greatest", "all_names") rfl
theorem Ev.m_Greatest_plain (E : Ev B) : Meth B.K (He.ga B.K "Greatest") "plain" (He.ma B.K (He.ga B.K "Greatest") "plain") := E.meth 39 ("Greatest", "plain") rfl
theorem Ev.m_Greatest_asked_keys (E : Ev B) : Meth B.K (He.ga B.K "Greatest") "asked_keys" (He.ma B.K (He.ga B.K "Greatest") "asked_keys") := E.meth 40 ("Greatest", "asked_keys") rfl
theorem Ev.m_Greatest_read (E : Ev B) : Meth B.K (He.ga B.K "Greatest") "read" (He.ma B.K (He.ga B.K "Greatest") "read") := E.meth 41 ("Greatest", "read") rfl
theorem Ev.m_Since___init__ (E : Ev B) : Meth B.K (He.ga B.K "Since") "__init__" (He.ma B.K (He.ga B.K "Since") "__init__") := E.meth 42 ("Since", "__init__") rfl
theorem Ev.m_Since_all_names (E : Ev B) : Meth B.K (He.ga B.K "Since") "all_names" (He.ma B.K (He.ga B.K "Since") "all_names") := E.meth 43 ("Since", "all_names") rfl
theorem Ev.m_Since_is_enough (E : Ev B) : Meth B.K (He.ga B.K "Since") "is_enough" (He.ma B.K (He.ga B.K "Since") "is_enough") := E.meth 44 ("Since", "is_enough") rfl
theorem Ev.m_Since_plain (E : Ev B) : Meth B.K (He.ga B.K "Since") "plain" (He.ma B.K (He.ga B.K "Since") "plain") := E.meth 45 ("Since", "plain") rfl
theorem Ev.m_Since_read (E : Ev B) : Meth B.K (He.ga B.K "Since") "read" (He.ma B.K (He.ga B.K "Since") "read") := E.meth 46 ("Since", "read") rfl
theorem Ev.m_Since_asked_keys (E : Ev B) : Meth B.K (He.ga B.K "Since") "asked_keys" (He.ma B.K (He.ga B.K "Since") "asked_keys") := E.meth 47 ("Since", "asked_keys") rfl
theorem Ev.m_Part___init__ (E : Ev B) : Meth B.K (He.ga B.K "Part") "__init__" (He.ma B.K (He.ga B.K "Part") "__init__") := E.meth 48 ("Part", "__init__") rfl
theorem Ev.m_Part_all_names (E : Ev B) : Meth B.K (He.ga B.K "Part") "all_names" (He.ma B.K (He.ga B.K "Part") "all_names") := E.meth 49 ("Part", "all_names") rfl
theorem Ev.m_Part_plain (E : Ev B) : Meth B.K (He.ga B.K "Part") "plain" (He.ma B.K (He.ga B.K "Part") "plain") := E.meth 50 ("Part", "plain") rfl
theorem Ev.m_Part_asked_keys (E : Ev B) : Meth B.K (He.ga B.K "Part") "asked_keys" (He.ma B.K (He.ga B.K "Part") "asked_keys") := E.meth 51 ("Part", "asked_keys") rfl
theorem Ev.m_Part_read (E : Ev B) : Meth B.K (He.ga B.K "Part") "read" (He.ma B.K (He.ga B.K "Part") "read") := E.meth 52 ("Part", "read") rfl
theorem Ev.m_Change___init__ (E : Ev B) : Meth B.K (He.ga B.K "Change") "__init__" (He.ma B.K (He.ga B.K "Change") "__init__") := E.meth 53 ("Change", "__init__") rfl
theorem Ev.m_Change_all_names (E : Ev B) : Meth B.K (He.ga B.K "Change") "all_names" (He.ma B.K (He.ga B.K "Change") "all_names") := E.meth 54 ("Change", "all_names") rfl
theorem Ev.m_Change_plain (E : Ev B) : Meth B.K (He.ga B.K "Change") "plain" (He.ma B.K (He.ga B.K "Change") "plain") := E.meth 55 ("Change", "plain") rfl
theorem Ev.m_Change_read (E : Ev B) : Meth B.K (He.ga B.K "Change") "read" (He.ma B.K (He.ga B.K "Change") "read") := E.meth 56 ("Change", "read") rfl
theorem Ev.m_Change_asked_keys (E : Ev B) : Meth B.K (He.ga B.K "Change") "asked_keys" (He.ma B.K (He.ga B.K "Change") "asked_keys") := E.meth 57 ("Change", "asked_keys") rfl
theorem Ev.m_Nested___init__ (E : Ev B) : Meth B.K (He.ga B.K "Nested") "__init__" (He.ma B.K (He.ga B.K "Nested") "__init__") := E.meth 58 ("Nested", "__init__") rfl
theorem Ev.m_Nested_all_names (E : Ev B) : Meth B.K (He.ga B.K "Nested") "all_names" (He.ma B.K (He.ga B.K "Nested") "all_names") := E.meth 59 ("Nested", "all_names") rfl
theorem Ev.m_Nested_plain (E : Ev B) : Meth B.K (He.ga B.K "Nested") "plain" (He.ma B.K (He.ga B.K "Nested") "plain") := E.meth 60 ("Nested", "plain") rfl
theorem Ev.m_Nested_read (E : Ev B) : Meth B.K (He.ga B.K "Nested") "read" (He.ma B.K (He.ga B.K "Nested") "read") := E.meth 61 ("Nested", "read") rfl
theorem Ev.m_Nested_asked_keys (E : Ev B) : Meth B.K (He.ga B.K "Nested") "asked_keys" (He.ma B.K (He.ga B.K "Nested") "asked_keys") := E.meth 62 ("Nested", "asked_keys") rfl
theorem Ev.m_Plus_outcome (E : Ev B) : Meth B.K (He.ga B.K "Plus") "outcome" (He.ma B.K (He.ga B.K "Plus") "outcome") := E.meth 63 ("Plus", "outcome") rfl
theorem Ev.m_Plus___init__ (E : Ev B) : Meth B.K (He.ga B.K "Plus") "__init__" (He.ma B.K (He.ga B.K "Plus") "__init__") := E.meth 64 ("Plus", "__init__") rfl
theorem Ev.m_Plus_all_names (E : Ev B) : Meth B.K (He.ga B.K "Plus") "all_names" (He.ma B.K (He.ga B.K "Plus") "all_names") := E.meth 65 ("Plus", "all_names") rfl
theorem Ev.m_Plus_plain (E : Ev B) : Meth B.K (He.ga B.K "Plus") "plain" (He.ma B.K (He.ga B.K "Plus") "plain") := E.meth 66 ("Plus", "plain") rfl
theorem Ev.m_Plus_read (E : Ev B) : Meth B.K (He.ga B.K "Plus") "read" (He.ma B.K (He.ga B.K "Plus") "read") := E.meth 67 ("Plus", "read") rfl
theorem Ev.m_Plus_asked_keys (E : Ev B) : Meth B.K (He.ga B.K "Plus") "asked_keys" (He.ma B.K (He.ga B.K "Plus") "asked_keys") := E.meth 68 ("Plus", "asked_keys") rfl
theorem Ev.m_Minus_outcome (E : Ev B) : Meth B.K (He.ga B.K "Minus") "outcome" (He.ma B.K (He.ga B.K "Minus") "outcome") := E.meth 69 ("Minus", "outcome") rfl
theorem Ev.m_Minus___init__ (E : Ev B) : Meth B.K (He.ga B.K "Minus") "__init__" (He.ma B.K (He.ga B.K "Minus") "__init__") := E.meth 70 ("Minus", "__init__") rfl
theorem Ev.m_Minus_all_names (E : Ev B) : Meth B.K (He.ga B.K "Minus") "all_names" (He.ma B.K (He.ga B.K "Minus") "all_names") := E.meth 71 ("Minus", "all_names") rfl
theorem Ev.m_Minus_plain (E : Ev B) : Meth B.K (He.ga B.K "Minus") "plain" (He.ma B.K (He.ga B.K "Minus") "plain") := E.meth 72 ("Minus", "plain") rfl
theorem Ev.m_Minus_read (E : Ev B) : Meth B.K (He.ga B.K "Minus") "read" (He.ma B.K (He.ga B.K "Minus") "read") := E.meth 73 ("Minus", "read") rfl
theorem Ev.m_Minus_asked_keys (E : Ev B) : Meth B.K (He.ga B.K "Minus") "asked_keys" (He.ma B.K (He.ga B.K "Minus") "asked_keys") := E.meth 74 ("Minus", "asked_keys") rfl
theorem Ev.m_Choice_plain (E : Ev B) : Meth B.K (He.ga B.K "Choice") "plain" (He.ma B.K (He.ga B.K "Choice") "plain") := E.meth 75 ("Choice", "plain") rfl
theorem Ev.m_Choice_read (E : Ev B) : Meth B.K (He.ga B.K "Choice") "read" (He.ma B.K (He.ga B.K "Choice") "read") := E.meth 76 ("Choice", "read") rfl
theorem Ev.m_Choice___init__ (E : Ev B) : Meth B.K (He.ga B.K "Choice") "__init__" (He.ma B.K (He.ga B.K "Choice") "__init__") := E.meth 77 ("Choice", "__init__") rfl
theorem Ev.m_Choice_all_names (E : Ev B) : Meth B.K (He.ga B.K "Choice") "all_names" (He.ma B.K (He.ga B.K "Choice") "all_names") := E.meth 78 ("Choice", "all_names") rfl
theorem Ev.m_Choice_asked_keys (E : Ev B) : Meth B.K (He.ga B.K "Choice") "asked_keys" (He.ma B.K (He.ga B.K "Choice") "asked_keys") := E.meth 79 ("Choice", "asked_keys") rfl
theorem Ev.m_Less_chooses_third (E : Ev B) : Meth B.K (He.ga B.K "Less") "chooses_third" (He.ma B.K (He.ga B.K "Less") "chooses_third") := E.meth 80 ("Less", "chooses_third") rfl
theorem Ev.m_Less_plain (E : Ev B) : Meth B.K (He.ga B.K "Less") "plain" (He.ma B.K (He.ga B.K "Less") "plain") := E.meth 81 ("Less", "plain") rfl
theorem Ev.m_Less_read (E : Ev B) : Meth B.K (He.ga B.K "Less") "read" (He.ma B.K (He.ga B.K "Less") "read") := E.meth 82 ("Less", "read") rfl
theorem Ev.m_Less___init__ (E : Ev B) : Meth B.K (He.ga B.K "Less") "__init__" (He.ma B.K (He.ga B.K "Less") "__init__") := E.meth 83 ("Less", "__init__") rfl
theorem Ev.m_Less_all_names (E : Ev B) : Meth B.K (He.ga B.K "Less") "all_names" (He.ma B.K (He.ga B.K "Less") "all_names") := E.meth 84 ("Less", "all_names") rfl
theorem Ev.m_Less_asked_keys (E : Ev B) : Meth B.K (He.ga B.K "Less") "asked_keys" (He.ma B.K (He.ga B.K "Less") "asked_keys") := E.meth 85 ("Less", "asked_keys") rfl
theorem Ev.m_Same_chooses_third (E : Ev B) : Meth B.K (He.ga B.K "Same") "chooses_third" (He.ma B.K (He.ga B.K "Same") "chooses_third") := E.meth 86 ("Same", "chooses_third") rfl
theorem Ev.m_Same_plain (E : Ev B) : Meth B.K (He.ga B.K "Same") "plain" (He.ma B.K (He.ga B.K "Same") "plain") := E.meth 87 ("Same", "plain") rfl
theorem Ev.m_Same_read (E : Ev B) : Meth B.K (He.ga B.K "Same") "read" (He.ma B.K (He.ga B.K "Same") "read") := E.meth 88 ("Same", "read") rfl
theorem Ev.m_Same___init__ (E : Ev B) : Meth B.K (He.ga B.K "Same") "__init__" (He.ma B.K (He.ga B.K "Same") "__init__") := E.meth 89 ("Same", "__init__") rfl
theorem Ev.m_Same_all_names (E : Ev B) : Meth B.K (He.ga B.K "Same") "all_names" (He.ma B.K (He.ga B.K "Same") "all_names") := E.meth 90 ("Same", "all_names") rfl
theorem Ev.m_Same_asked_keys (E : Ev B) : Meth B.K (He.ga B.K "Same") "asked_keys" (He.ma B.K (He.ga B.K "Same") "asked_keys") := E.meth 91 ("Same", "asked_keys") rfl
theorem Ev.m_Words___init__ (E : Ev B) : Meth B.K (He.ga B.K "Words") "__init__" (He.ma B.K (He.ga B.K "Words") "__init__") := E.meth 92 ("Words", "__init__") rfl
theorem Ev.m_Words_next_word (E : Ev B) : Meth B.K (He.ga B.K "Words") "next_word" (He.ma B.K (He.ga B.K "Words") "next_word") := E.meth 93 ("Words", "next_word") rfl
theorem Ev.m_Words_past (E : Ev B) : Meth B.K (He.ga B.K "Words") "past" (He.ma B.K (He.ga B.K "Words") "past") := E.meth 94 ("Words", "past") rfl
theorem Ev.m_Words_one_name (E : Ev B) : Meth B.K (He.ga B.K "Words") "one_name" (He.ma B.K (He.ga B.K "Words") "one_name") := E.meth 95 ("Words", "one_name") rfl
theorem Ev.m_Words_some_names (E : Ev B) : Meth B.K (He.ga B.K "Words") "some_names" (He.ma B.K (He.ga B.K "Words") "some_names") := E.meth 96 ("Words", "some_names") rfl
theorem Ev.m_Words_one_number (E : Ev B) : Meth B.K (He.ga B.K "Words") "one_number" (He.ma B.K (He.ga B.K "Words") "one_number") := E.meth 97 ("Words", "one_number") rfl
theorem Ev.m_Words_stretch (E : Ev B) : Meth B.K (He.ga B.K "Words") "stretch" (He.ma B.K (He.ga B.K "Words") "stretch") := E.meth 98 ("Words", "stretch") rfl
theorem Ev.m_Words_in_brackets (E : Ev B) : Meth B.K (He.ga B.K "Words") "in_brackets" (He.ma B.K (He.ga B.K "Words") "in_brackets") := E.meth 99 ("Words", "in_brackets") rfl
theorem Ev.m_Words_question (E : Ev B) : Meth B.K (He.ga B.K "Words") "question" (He.ma B.K (He.ga B.K "Words") "question") := E.meth 100 ("Words", "question") rfl
theorem Ev.m_Words_nested (E : Ev B) : Meth B.K (He.ga B.K "Words") "nested" (He.ma B.K (He.ga B.K "Words") "nested") := E.meth 101 ("Words", "nested") rfl
theorem Ev.m_Words_over (E : Ev B) : Meth B.K (He.ga B.K "Words") "over" (He.ma B.K (He.ga B.K "Words") "over") := E.meth 102 ("Words", "over") rfl
theorem Ev.m_Words_alone (E : Ev B) : Meth B.K (He.ga B.K "Words") "alone" (He.ma B.K (He.ga B.K "Words") "alone") := E.meth 103 ("Words", "alone") rfl
theorem Ev.m_Reading___init__ (E : Ev B) : Meth B.K (He.ga B.K "Reading") "__init__" (He.ma B.K (He.ga B.K "Reading") "__init__") := E.meth 104 ("Reading", "__init__") rfl
theorem Ev.m_Reading_speaker (E : Ev B) : Meth B.K (He.ga B.K "Reading") "speaker" (He.ma B.K (He.ga B.K "Reading") "speaker") := E.meth 105 ("Reading", "speaker") rfl
theorem Ev.m_Reading_telling (E : Ev B) : Meth B.K (He.ga B.K "Reading") "telling" (He.ma B.K (He.ga B.K "Reading") "telling") := E.meth 106 ("Reading", "telling") rfl
theorem Ev.m_Reading_told_grounds (E : Ev B) : Meth B.K (He.ga B.K "Reading") "told_grounds" (He.ma B.K (He.ga B.K "Reading") "told_grounds") := E.meth 107 ("Reading", "told_grounds") rfl
theorem Ev.m_Book___init__ (E : Ev B) : Meth B.K (He.ga B.K "Book") "__init__" (He.ma B.K (He.ga B.K "Book") "__init__") := E.meth 108 ("Book", "__init__") rfl
theorem Ev.m_Book_all_keys (E : Ev B) : Meth B.K (He.ga B.K "Book") "all_keys" (He.ma B.K (He.ga B.K "Book") "all_keys") := E.meth 109 ("Book", "all_keys") rfl
theorem Ev.m_Book_now (E : Ev B) : Meth B.K (He.ga B.K "Book") "now" (He.ma B.K (He.ga B.K "Book") "now") := E.meth 110 ("Book", "now") rfl
theorem Ev.m_Book_need_key (E : Ev B) : Meth B.K (He.ga B.K "Book") "need_key" (He.ma B.K (He.ga B.K "Book") "need_key") := E.meth 111 ("Book", "need_key") rfl
theorem Ev.m_Book_need_room (E : Ev B) : Meth B.K (He.ga B.K "Book") "need_room" (He.ma B.K (He.ga B.K "Book") "need_room") := E.meth 112 ("Book", "need_room") rfl
theorem Ev.m_Book_turn_for (E : Ev B) : Meth B.K (He.ga B.K "Book") "turn_for" (He.ma B.K (He.ga B.K "Book") "turn_for") := E.meth 113 ("Book", "turn_for") rfl
theorem Ev.m_Book_note (E : Ev B) : Meth B.K (He.ga B.K "Book") "note" (He.ma B.K (He.ga B.K "Book") "note") := E.meth 114 ("Book", "note") rfl
theorem Ev.m_Book_find (E : Ev B) : Meth B.K (He.ga B.K "Book") "find" (He.ma B.K (He.ga B.K "Book") "find") := E.meth 115 ("Book", "find") rfl
theorem Ev.m_Book_need_finding (E : Ev B) : Meth B.K (He.ga B.K "Book") "need_finding" (He.ma B.K (He.ga B.K "Book") "need_finding") := E.meth 116 ("Book", "need_finding") rfl
theorem Ev.m_Book_withdraw (E : Ev B) : Meth B.K (He.ga B.K "Book") "withdraw" (He.ma B.K (He.ga B.K "Book") "withdraw") := E.meth 117 ("Book", "withdraw") rfl
theorem Ev.m_Book_found (E : Ev B) : Meth B.K (He.ga B.K "Book") "found" (He.ma B.K (He.ga B.K "Book") "found") := E.meth 118 ("Book", "found") rfl
theorem Ev.m_Book_strip_at (E : Ev B) : Meth B.K (He.ga B.K "Book") "strip_at" (He.ma B.K (He.ga B.K "Book") "strip_at") := E.meth 119 ("Book", "strip_at") rfl
theorem Ev.m_Book_table (E : Ev B) : Meth B.K (He.ga B.K "Book") "table" (He.ma B.K (He.ga B.K "Book") "table") := E.meth 120 ("Book", "table") rfl
theorem Ev.in_Number_all_names (E : Ev B) : He.ma B.K (He.ga B.K "Number") "all_names" = He.ma B.K (He.ga B.K "Question") "all_names" := E.inh 0 ("Number", "Question", "all_names") rfl
theorem Ev.in_Number_asked_keys (E : Ev B) : He.ma B.K (He.ga B.K "Number") "asked_keys" = He.ma B.K (He.ga B.K "Question") "asked_keys" := E.inh 1 ("Number", "Question", "asked_keys") rfl
theorem Ev.in_Number_read (E : Ev B) : He.ma B.K (He.ga B.K "Number") "read" = He.ma B.K (He.ga B.K "Question") "read" := E.inh 2 ("Number", "Question", "read") rfl
theorem Ev.in_OnDay_asked_keys (E : Ev B) : He.ma B.K (He.ga B.K "OnDay") "asked_keys" = He.ma B.K (He.ga B.K "Question") "asked_keys" := E.inh 3 ("OnDay", "Question", "asked_keys") rfl
theorem Ev.in_OnDay_read (E : Ev B) : He.ma B.K (He.ga B.K "OnDay") "read" = He.ma B.K (He.ga B.K "Question") "read" := E.inh 4 ("OnDay", "Question", "read") rfl
theorem Ev.in_Over_asked_keys (E : Ev B) : He.ma B.K (He.ga B.K "Over") "asked_keys" = He.ma B.K (He.ga B.K "Question") "asked_keys" := E.inh 5 ("Over", "Question", "asked_keys") rfl
theorem Ev.in_Over_read (E : Ev B) : He.ma B.K (He.ga B.K "Over") "read" = He.ma B.K (He.ga B.K "Question") "read" := E.inh 6 ("Over", "Question", "read") rfl
theorem Ev.in_Sum___init__ (E : Ev B) : He.ma B.K (He.ga B.K "Sum") "__init__" = He.ma B.K (He.ga B.K "Over") "__init__" := E.inh 7 ("Sum", "Over", "__init__") rfl
theorem Ev.in_Sum_all_names (E : Ev B) : He.ma B.K (He.ga B.K "Sum") "all_names" = He.ma B.K (He.ga B.K "Over") "all_names" := E.inh 8 ("Sum", "Over", "all_names") rfl
theorem Ev.in_Sum_plain (E : Ev B) : He.ma B.K (He.ga B.K "Sum") "plain" = He.ma B.K (He.ga B.K "Over") "plain" := E.inh 9 ("Sum", "Over", "plain") rfl
theorem Ev.in_Sum_asked_keys (E : Ev B) : He.ma B.K (He.ga B.K "Sum") "asked_keys" = He.ma B.K (He.ga B.K "Question") "asked_keys" := E.inh 10 ("Sum", "Question", "asked_keys") rfl
theorem Ev.in_Sum_read (E : Ev B) : He.ma B.K (He.ga B.K "Sum") "read" = He.ma B.K (He.ga B.K "Question") "read" := E.inh 11 ("Sum", "Question", "read") rfl
theorem Ev.in_Count___init__ (E : Ev B) : He.ma B.K (He.ga B.K "Count") "__init__" = He.ma B.K (He.ga B.K "Over") "__init__" := E.inh 12 ("Count", "Over", "__init__") rfl
theorem Ev.in_Count_all_names (E : Ev B) : He.ma B.K (He.ga B.K "Count") "all_names" = He.ma B.K (He.ga B.K "Over") "all_names" := E.inh 13 ("Count", "Over", "all_names") rfl
theorem Ev.in_Count_plain (E : Ev B) : He.ma B.K (He.ga B.K "Count") "plain" = He.ma B.K (He.ga B.K "Over") "plain" := E.inh 14 ("Count", "Over", "plain") rfl
theorem Ev.in_Count_asked_keys (E : Ev B) : He.ma B.K (He.ga B.K "Count") "asked_keys" = He.ma B.K (He.ga B.K "Question") "asked_keys" := E.inh 15 ("Count", "Question", "asked_keys") rfl
theorem Ev.in_Count_read (E : Ev B) : He.ma B.K (He.ga B.K "Count") "read" = He.ma B.K (He.ga B.K "Question") "read" := E.inh 16 ("Count", "Question", "read") rfl
theorem Ev.in_Least___init__ (E : Ev B) : He.ma B.K (He.ga B.K "Least") "__init__" = He.ma B.K (He.ga B.K "Over") "__init__" := E.inh 17 ("Least", "Over", "__init__") rfl
theorem Ev.in_Least_all_names (E : Ev B) : He.ma B.K (He.ga B.K "Least") "all_names" = He.ma B.K (He.ga B.K "Over") "all_names" := E.inh 18 ("Least", "Over", "all_names") rfl
theorem Ev.in_Least_plain (E : Ev B) : He.ma B.K (He.ga B.K "Least") "plain" = He.ma B.K (He.ga B.K "Over") "plain" := E.inh 19 ("Least", "Over", "plain") rfl
theorem Ev.in_Least_asked_keys (E : Ev B) : He.ma B.K (He.ga B.K "Least") "asked_keys" = He.ma B.K (He.ga B.K "Question") "asked_keys" := E.inh 20 ("Least", "Question", "asked_keys") rfl
theorem Ev.in_Least_read (E : Ev B) : He.ma B.K (He.ga B.K "Least") "read" = He.ma B.K (He.ga B.K "Question") "read" := E.inh 21 ("Least", "Question", "read") rfl
theorem Ev.in_Greatest___init__ (E : Ev B) : He.ma B.K (He.ga B.K "Greatest") "__init__" = He.ma B.K (He.ga B.K "Over") "__init__" := E.inh 22 ("Greatest", "Over", "__init__") rfl
theorem Ev.in_Greatest_all_names (E : Ev B) : He.ma B.K (He.ga B.K "Greatest") "all_names" = He.ma B.K (He.ga B.K "Over") "all_names" := E.inh 23 ("Greatest", "Over", "all_names") rfl
theorem Ev.in_Greatest_plain (E : Ev B) : He.ma B.K (He.ga B.K "Greatest") "plain" = He.ma B.K (He.ga B.K "Over") "plain" := E.inh 24 ("Greatest", "Over", "plain") rfl
theorem Ev.in_Greatest_asked_keys (E : Ev B) : He.ma B.K (He.ga B.K "Greatest") "asked_keys" = He.ma B.K (He.ga B.K "Question") "asked_keys" := E.inh 25 ("Greatest", "Question", "asked_keys") rfl
theorem Ev.in_Greatest_read (E : Ev B) : He.ma B.K (He.ga B.K "Greatest") "read" = He.ma B.K (He.ga B.K "Question") "read" := E.inh 26 ("Greatest", "Question", "read") rfl
theorem Ev.in_Since_asked_keys (E : Ev B) : He.ma B.K (He.ga B.K "Since") "asked_keys" = He.ma B.K (He.ga B.K "Question") "asked_keys" := E.inh 27 ("Since", "Question", "asked_keys") rfl
theorem Ev.in_Part_asked_keys (E : Ev B) : He.ma B.K (He.ga B.K "Part") "asked_keys" = He.ma B.K (He.ga B.K "Question") "asked_keys" := E.inh 28 ("Part", "Question", "asked_keys") rfl
theorem Ev.in_Part_read (E : Ev B) : He.ma B.K (He.ga B.K "Part") "read" = He.ma B.K (He.ga B.K "Question") "read" := E.inh 29 ("Part", "Question", "read") rfl
theorem Ev.in_Change_asked_keys (E : Ev B) : He.ma B.K (He.ga B.K "Change") "asked_keys" = He.ma B.K (He.ga B.K "Question") "asked_keys" := E.inh 30 ("Change", "Question", "asked_keys") rfl
theorem Ev.in_Nested_asked_keys (E : Ev B) : He.ma B.K (He.ga B.K "Nested") "asked_keys" = He.ma B.K (He.ga B.K "Question") "asked_keys" := E.inh 31 ("Nested", "Question", "asked_keys") rfl
theorem Ev.in_Plus___init__ (E : Ev B) : He.ma B.K (He.ga B.K "Plus") "__init__" = He.ma B.K (He.ga B.K "Nested") "__init__" := E.inh 32 ("Plus", "Nested", "__init__") rfl
theorem Ev.in_Plus_all_names (E : Ev B) : He.ma B.K (He.ga B.K "Plus") "all_names" = He.ma B.K (He.ga B.K "Nested") "all_names" := E.inh 33 ("Plus", "Nested", "all_names") rfl
theorem Ev.in_Plus_plain (E : Ev B) : He.ma B.K (He.ga B.K "Plus") "plain" = He.ma B.K (He.ga B.K "Nested") "plain" := E.inh 34 ("Plus", "Nested", "plain") rfl
theorem Ev.in_Plus_read (E : Ev B) : He.ma B.K (He.ga B.K "Plus") "read" = He.ma B.K (He.ga B.K "Nested") "read" := E.inh 35 ("Plus", "Nested", "read") rfl
theorem Ev.in_Plus_asked_keys (E : Ev B) : He.ma B.K (He.ga B.K "Plus") "asked_keys" = He.ma B.K (He.ga B.K "Question") "asked_keys" := E.inh 36 ("Plus", "Question", "asked_keys") rfl
theorem Ev.in_Minus___init__ (E : Ev B) : He.ma B.K (He.ga B.K "Minus") "__init__" = He.ma B.K (He.ga B.K "Nested") "__init__" := E.inh 37 ("Minus", "Nested", "__init__") rfl
theorem Ev.in_Minus_all_names (E : Ev B) : He.ma B.K (He.ga B.K "Minus") "all_names" = He.ma B.K (He.ga B.K "Nested") "all_names" := E.inh 38 ("Minus", "Nested", "all_names") rfl
theorem Ev.in_Minus_plain (E : Ev B) : He.ma B.K (He.ga B.K "Minus") "plain" = He.ma B.K (He.ga B.K "Nested") "plain" := E.inh 39 ("Minus", "Nested", "plain") rfl
theorem Ev.in_Minus_read (E : Ev B) : He.ma B.K (He.ga B.K "Minus") "read" = He.ma B.K (He.ga B.K "Nested") "read" := E.inh 40 ("Minus", "Nested", "read") rfl
theorem Ev.in_Minus_asked_keys (E : Ev B) : He.ma B.K (He.ga B.K "Minus") "asked_keys" = He.ma B.K (He.ga B.K "Question") "asked_keys" := E.inh 41 ("Minus", "Question", "asked_keys") rfl
theorem Ev.in_Choice___init__ (E : Ev B) : He.ma B.K (He.ga B.K "Choice") "__init__" = He.ma B.K (He.ga B.K "Nested") "__init__" := E.inh 42 ("Choice", "Nested", "__init__") rfl
theorem Ev.in_Choice_all_names (E : Ev B) : He.ma B.K (He.ga B.K "Choice") "all_names" = He.ma B.K (He.ga B.K "Nested") "all_names" := E.inh 43 ("Choice", "Nested", "all_names") rfl
theorem Ev.in_Choice_asked_keys (E : Ev B) : He.ma B.K (He.ga B.K "Choice") "asked_keys" = He.ma B.K (He.ga B.K "Question") "asked_keys" := E.inh 44 ("Choice", "Question", "asked_keys") rfl
theorem Ev.in_Less_plain (E : Ev B) : He.ma B.K (He.ga B.K "Less") "plain" = He.ma B.K (He.ga B.K "Choice") "plain" := E.inh 45 ("Less", "Choice", "plain") rfl
theorem Ev.in_Less_read (E : Ev B) : He.ma B.K (He.ga B.K "Less") "read" = He.ma B.K (He.ga B.K "Choice") "read" := E.inh 46 ("Less", "Choice", "read") rfl
theorem Ev.in_Less___init__ (E : Ev B) : He.ma B.K (He.ga B.K "Less") "__init__" = He.ma B.K (He.ga B.K "Nested") "__init__" := E.inh 47 ("Less", "Nested", "__init__") rfl
theorem Ev.in_Less_all_names (E : Ev B) : He.ma B.K (He.ga B.K "Less") "all_names" = He.ma B.K (He.ga B.K "Nested") "all_names" := E.inh 48 ("Less", "Nested", "all_names") rfl
theorem Ev.in_Less_asked_keys (E : Ev B) : He.ma B.K (He.ga B.K "Less") "asked_keys" = He.ma B.K (He.ga B.K "Question") "asked_keys" := E.inh 49 ("Less", "Question", "asked_keys") rfl
theorem Ev.in_Same_plain (E : Ev B) : He.ma B.K (He.ga B.K "Same") "plain" = He.ma B.K (He.ga B.K "Choice") "plain" := E.inh 50 ("Same", "Choice", "plain") rfl
theorem Ev.in_Same_read (E : Ev B) : He.ma B.K (He.ga B.K "Same") "read" = He.ma B.K (He.ga B.K "Choice") "read" := E.inh 51 ("Same", "Choice", "read") rfl
theorem Ev.in_Same___init__ (E : Ev B) : He.ma B.K (He.ga B.K "Same") "__init__" = He.ma B.K (He.ga B.K "Nested") "__init__" := E.inh 52 ("Same", "Nested", "__init__") rfl
theorem Ev.in_Same_all_names (E : Ev B) : He.ma B.K (He.ga B.K "Same") "all_names" = He.ma B.K (He.ga B.K "Nested") "all_names" := E.inh 53 ("Same", "Nested", "all_names") rfl
theorem Ev.in_Same_asked_keys (E : Ev B) : He.ma B.K (He.ga B.K "Same") "asked_keys" = He.ma B.K (He.ga B.K "Question") "asked_keys" := E.inh 54 ("Same", "Question", "asked_keys") rfl
theorem Ev.mk_Number (E : Ev B) : Mk B.K (He.ga B.K "Number") (He.ma B.K (He.ga B.K "Number") "__init__") := E.mkr 0 "Number" rfl
theorem Ev.mk_OnDay (E : Ev B) : Mk B.K (He.ga B.K "OnDay") (He.ma B.K (He.ga B.K "OnDay") "__init__") := E.mkr 1 "OnDay" rfl
theorem Ev.mk_Over (E : Ev B) : Mk B.K (He.ga B.K "Over") (He.ma B.K (He.ga B.K "Over") "__init__") := E.mkr 2 "Over" rfl
theorem Ev.mk_Sum (E : Ev B) : Mk B.K (He.ga B.K "Sum") (He.ma B.K (He.ga B.K "Sum") "__init__") := E.mkr 3 "Sum" rfl
theorem Ev.mk_Count (E : Ev B) : Mk B.K (He.ga B.K "Count") (He.ma B.K (He.ga B.K "Count") "__init__") := E.mkr 4 "Count" rfl
theorem Ev.mk_Least (E : Ev B) : Mk B.K (He.ga B.K "Least") (He.ma B.K (He.ga B.K "Least") "__init__") := E.mkr 5 "Least" rfl
theorem Ev.mk_Greatest (E : Ev B) : Mk B.K (He.ga B.K "Greatest") (He.ma B.K (He.ga B.K "Greatest") "__init__") := E.mkr 6 "Greatest" rfl
theorem Ev.mk_Since (E : Ev B) : Mk B.K (He.ga B.K "Since") (He.ma B.K (He.ga B.K "Since") "__init__") := E.mkr 7 "Since" rfl
theorem Ev.mk_Part (E : Ev B) : Mk B.K (He.ga B.K "Part") (He.ma B.K (He.ga B.K "Part") "__init__") := E.mkr 8 "Part" rfl
theorem Ev.mk_Change (E : Ev B) : Mk B.K (He.ga B.K "Change") (He.ma B.K (He.ga B.K "Change") "__init__") := E.mkr 9 "Change" rfl
theorem Ev.mk_Nested (E : Ev B) : Mk B.K (He.ga B.K "Nested") (He.ma B.K (He.ga B.K "Nested") "__init__") := E.mkr 10 "Nested" rfl
theorem Ev.mk_Plus (E : Ev B) : Mk B.K (He.ga B.K "Plus") (He.ma B.K (He.ga B.K "Plus") "__init__") := E.mkr 11 "Plus" rfl
theorem Ev.mk_Minus (E : Ev B) : Mk B.K (He.ga B.K "Minus") (He.ma B.K (He.ga B.K "Minus") "__init__") := E.mkr 12 "Minus" rfl
theorem Ev.mk_Choice (E : Ev B) : Mk B.K (He.ga B.K "Choice") (He.ma B.K (He.ga B.K "Choice") "__init__") := E.mkr 13 "Choice" rfl
theorem Ev.mk_Less (E : Ev B) : Mk B.K (He.ga B.K "Less") (He.ma B.K (He.ga B.K "Less") "__init__") := E.mkr 14 "Less" rfl
theorem Ev.mk_Same (E : Ev B) : Mk B.K (He.ga B.K "Same") (He.ma B.K (He.ga B.K "Same") "__init__") := E.mkr 15 "Same" rfl
theorem Ev.mk_Words (E : Ev B) : Mk B.K (He.ga B.K "Words") (He.ma B.K (He.ga B.K "Words") "__init__") := E.mkr 16 "Words" rfl
theorem Ev.mk_Reading (E : Ev B) : Mk B.K (He.ga B.K "Reading") (He.ma B.K (He.ga B.K "Reading") "__init__") := E.mkr 17 "Reading" rfl
theorem Ev.mk_Book (E : Ev B) : Mk B.K (He.ga B.K "Book") (He.ma B.K (He.ga B.K "Book") "__init__") := E.mkr 18 "Book" rfl
end
end U
/-! ### text Hd -/
set_option maxHeartbeats 0
namespace U
open PySem PySem.Spec PyProof.Rows L2
/-! ### the head -/
def freeL : List Str := ["all", "bool", "enumerate", "int", "isinstance", "len", "list", "max", "min", "range", "set", "sorted", "str", "sum", "tuple", "zip"]
def intT : List (Str × Int) := [("LAST_DAY_questiontexts", 399), ("FAR", 1000000000), ("MOST_NAMES", 8), ("MOST_OPEN", 3), ("MOST_CHANGES", 400), ("LAST_DAY_findings", 399), ("MOST_VALUE", 1000000000), ("MOST_KEYS", 8), ("MOST_DEEDS", 60)]
def strT : List (Str × Str) := [("LETTERS", "abcdefghijklmnopqrstuvwxyz"), ("FIGURES", "0123456789")]
def faL : List He.Fa := clsL.map He.Fa.glo ++ (fnL.filterMap (fun d => match d.at_.2 with | none => some (He.Fa.glo d.at_.1) | some _ => none) ++ (clsL.map He.Fa.cls ++ (noatL.map (fun p => He.Fa.noat p.1 p.2) ++ (methL.map (fun p => He.Fa.meth p.1 p.2) ++ (mkrL.map He.Fa.mkr ++ (freeL.map He.Fa.free ++ (intT.map (fun p => He.Fa.int p.1 p.2) ++ strT.map fun p => He.Fa.str p.1 p.2)))))))
def tfL : List He.Defn := lamL.map (·.at_)
def exB (K : PySem.W.Frag) : Bool := (inhL.all fun p => decide (He.ma K (He.ga K p.1) p.2.2 = He.ma K (He.ga K p.2.1) p.2.2)) && (decide (PySem.W.kitOne K (.type "str") (.ref (He.ga K "Question")) = some false) && (He.eqO (PySem.W.specialIn K (.builtin "object.__class__") "__get__") (some (some (.builtin "getset_descriptor.__get__"))) && (decide (PySem.W.takesIn K (.builtin "object.__class__") = some true) &&
  ((qcL.all fun x => He.eqO (PySem.W.findIn K (.ref (He.ga K x)) "__class__") (some (some (.builtin "object.__class__"))) && (decide (PySem.W.mroIn K (He.ga K x) (.type "object") = some true) && decide (PySem.W.kitOne K (.ref (He.ga K x)) (.ref (He.ga K "Question")) = some true))) &&
  decide ((tfL.map fun p => (He.cT K p).2).Nodup)))))
abbrev RowR0 : PySem.W.OpenRow := PySem.W.OpenLaw.row PySem.Challenge.rw_unsaybook_k94_whole_texts_answered_at_ev
abbrev qv0 : Program := PySem.W.view RowR0.prog [88]
def names0 : List PySem.Str := ["_wall", "UnsayError", "NoKeys", "NoKey", "NoDay", "NoValue", "NoFinding", "Gone", "NoTurn", "Full", "BadQuestion", "Question", "Number", "OnDay", "Over", "Sum", "Count", "Least", "Greatest", "Since", "Part", "Change", "Nested", "Plus", "Minus", "Choice", "Less", "Same", "LETTERS", "FIGURES"]
def names1 : List PySem.Str := ["is_whole", "is_name", "plain_figures", "number_of", "LAST_DAY_questiontexts", "FAR", "MOST_NAMES", "MOST_OPEN", "MOST_CHANGES", "Words", "question_of", "put_behind", "joined", "mark_on", "laid", "Reading", "asked_as", "answered", "plainly", "LAST_DAY_findings", "MOST_VALUE", "MOST_KEYS", "MOST_DEEDS", "need_keys", "Book", "_law_cell", "_law_mix", "_law_begun", "_law_pull", "_law_names"]
def names2 : List PySem.Str := ["_law_window", "_law_days", "_law_amount", "_law_some", "_law_leaf", "_law_question", "_law_words", "_law_fitting", "_law_over", "_law_row", "_law_simple", "_law_due", "_law_like", "_law_deed", "_law_known", "_law_boxes", "_law_told_right", "_law_spoken", "_law_now_right", "_law_asked"]
def names : List PySem.Str := names0 ++ names1 ++ names2
/-- where the head's objects lie -/
def asL : List Addr := [3, 250, 285, 325, 377, 403, 429, 455, 481, 535, 575, 620, 688, 714, 740, 771, 797, 823, 832, 837, 842, 849, 943, 954, 961, 968, 982, 1018, 1029, 1037, 1045, 1052, 1177, 1188, 1195, 1202, 1209, 1214, 1221, 1228,
  1235, 1242, 1249, 1254, 1259, 1266, 1273, 1278, 1283, 1290, 1297, 1302, 1309, 1316, 1321, 1326, 1331, 1338, 1345, 249, 284, 324, 376, 402, 428, 454, 480, 534, 574, 619, 687, 713, 739, 770, 796, 822, 831, 836, 841, 848,
  942, 953, 960, 967, 981, 1017, 1028, 1036, 1030, 1044, 1038, 1051, 1176, 1187, 1194, 1201, 1208, 1213, 1220, 1227, 1234, 1241, 1248, 1253, 1258, 1265, 1272, 1277, 1282, 1289, 1296, 1301, 1308, 1315, 1320, 1325, 1330, 1337, 1344, 219,
  226, 247, 268, 282, 301, 315, 322, 341, 369, 374, 400, 426, 452, 478, 497, 511, 518, 525, 532, 551, 565, 572, 591, 605, 610, 617, 636, 657, 678, 685, 711, 737, 761, 768, 794, 820, 863, 870, 877, 884,
  891, 898, 905, 912, 919, 926, 933, 940, 996, 1003, 1010, 1015, 1066, 1073, 1080, 1087, 1094, 1101, 1108, 1115, 1122, 1129, 1143, 1150, 1174, 218, 225, 246, 267, 281, 300, 314, 321, 340, 368, 373, 399, 425, 451, 477,
  496, 510, 517, 524, 531, 550, 564, 571, 590, 604, 609, 616, 635, 656, 677, 684, 710, 736, 760, 767, 793, 819, 862, 869, 876, 883, 890, 897, 904, 911, 918, 925, 932, 939, 995, 1002, 1009, 1014, 1065, 1072,
  1079, 1086, 1093, 1100, 1107, 1114, 1121, 1128, 1142, 1149, 1173, 1167]
abbrev frA (g : Addr → Option Obj) : PySem.W.Frag := He.frT g asL
def obsA (g : Addr → Option Obj) : He.AlX := (He.obsT faL fnL [] (frA g), exB (frA g) && He.tabsB g tfL (frA g))
theorem saysA {w : World} {h : Heap} (e : obsA h.get? = He.valX fnL [] w) : He.SaysX faL fnL [] tfL exB w h (frA h.get?) := by
  have e1 : He.obsT faL fnL [] (frA h.get?) = He.valT fnL [] w := congrArg Prod.fst e
  have e2 : (exB (frA h.get?) && He.tabsB h.get? tfL (frA h.get?)) = true := congrArg Prod.snd e
  rw [Bool.and_eq_true] at e2
  have each : ∀ p ∈ tfL, PySem.W.codeHdIn (frA h.get?) (He.cT (frA h.get?) p).1 (He.cT (frA h.get?) p).2 = true ∧ ∃ o, h.get? (He.cT (frA h.get?) p).2 = some o ∧ He.emptyTab o = true := fun p hp => by
    have q := List.all_eq_true.mp e2.2 p hp
    rw [Bool.and_eq_true] at q
    refine ⟨q.1, ?_⟩
    have q2 := q.2
    split at q2
    · rename_i o ho
      exact ⟨o, ho, q2⟩
    · exact absurd q2 Bool.false_ne_true
  exact {
    t := e1
    more := e2.1
    hd := fun p hp => (each p hp).1
    out := fun p hp => by
      obtain ⟨_, o, ho, em⟩ := each p hp
      exact He.frT_none ho em
    empty := fun p hp => by
      obtain ⟨_, o, ho, em⟩ := each p hp
      rw [ho, He.emptyTab_eq em] }
def hk0 : PySem.W.Hook where
  α := He.AlX
  obs := fun s => obsA s.heap.get?
  val := fun w => He.valX fnL [] w
  says := fun w h => ∃ K : PySem.W.Frag, K.In h ∧ He.SaysX faL fnL [] tfL exB w h K
  of := fun w s e => ⟨_, He.frT_in, saysA e⟩
  keeps := fun w h h' c k => by
    obtain ⟨K, a, b⟩ := c
    exact ⟨K, PySem.W.Frag.In.keeps a k, { t := b.t, more := b.more, hd := b.hd, out := b.out, empty := fun p hp => k _ _ (b.empty p hp) }⟩
def ob0 (s : PySem.W.SharedT) : He.AlX := obsA (HandSHeadRun.getT s)
theorem ob0_eq (s : PySem.W.SharedT) : ob0 s = hk0.obs s.abs := by
  have e : HandSHeadRun.getT s = s.abs.heap.get? := funext (HandSHeadRun.getT_eq s)
  show obsA _ = obsA _
  rw [e]
/-- the top's end -/
noncomputable abbrev topEnd (w : World) (os : OsState) : Option PySem.W.SharedT := HandSHeadRun.endF (HandSHeadRun.stepQ (HandSHeadRun.denQ HandSHeadRun.tabQ) RowR0.prog w) 11200 RowR0.prog w os
open PySem.W PySem.Calls in
theorem runA (w : World) (os : OsState) : (topEnd w os).map (fun s => (HandSHeadRun.looksF RowR0.prog (boot_heap w.params) s.abs, HandSHeadRun.seenQ qv0 names (importedModules RowR0.prog.main.body) (fun s => PySem.W.xlAt qv0 [] s && PySem.W.recOk RowR0.toRowW.records s) s.abs, exB (frA (HandSHeadRun.getT s)) && He.tabsB (HandSHeadRun.getT s) tfL (frA (HandSHeadRun.getT s)))) = some (true, PySem.W.openGood qv0 names, true) := by
  kernel_rfl
theorem runB (w : World) (os : OsState) : (topEnd w os).map (fun s => faL.all fun f => f.ok (frA (HandSHeadRun.getT s))) = some true := by
  kernel_rfl
theorem runC (w : World) (os : OsState) : (topEnd w os).map (fun s => (fnL.all fun d => d.ok (frA (HandSHeadRun.getT s)), fnL.map fun d => He.fnW (frA (HandSHeadRun.getT s)) d.at_)) = some (true, fnL.map He.DefD.val) := by
  kernel_rfl
theorem run0 (w : World) : HandSHeadRun.RunEq RowR0 qv0 hk0 ob0 11200 names w := by
  intro os
  have a := runA w os
  have b := runB w os
  have c := runC w os
  show (topEnd w os).map _ = _
  cases e : topEnd w os with
  | none =>
    rw [e] at b
    cases b
  | some s =>
    rw [e, Option.map_some] at a b c
    obtain ⟨a1, a2⟩ := Prod.mk.inj (Option.some.inj a)
    obtain ⟨a2, a3⟩ := Prod.mk.inj a2
    obtain ⟨c1, c2⟩ := Prod.mk.inj (Option.some.inj c)
    have b1 := Option.some.inj b
    rw [Option.map_some]
    refine congrArg some (Prod.ext a1 (Prod.ext a2 ?_))
    show (((_ && _, _), _), _) = (((true, _), _), true)
    refine Prod.ext (Prod.ext (Prod.ext ?_ c2) rfl) a3
    show ((faL.all fun f => f.ok (frA (HandSHeadRun.getT s))) && fnL.all fun d => d.ok (frA (HandSHeadRun.getT s))) = true
    rw [b1, c1] <;> rfl
end U
/-! ### text L0 -/
set_option maxHeartbeats 4000000
namespace U
open PySem PySem.Spec PyProof.Rows L2 LamX NdefX
/-! ### a lambda's function object, a cell, as tracked things -/
abbrev lfd (F : NF) (b : Expr) (pm ctv : Value) : FuncData := PySem.W.kla_fn "<lambda>" F.qual F.params b F.scope F.cl pm (.ref F.c) ctv
def LfO (f : Addr) (F : NF) (b : Expr) : HO := .ext fun h => ∃ (od : Option Addr) (sl : Array (Option Value)) (pm ctv : Value), h.get? f = some (⟨.type "function", od, .func (lfd F b pm ctv), sl⟩ : Obj)
def CelO (c : Addr) (o : Obj) : HO := .ext fun h => h.get? c = some o
theorem lfO_at {P : Program} {w : World} {H : Hp} {h : Heap} {f : Addr} {F : NF} {b : Expr} (hok : HOk P w H h) (e : H f = some (LfO f F b)) : ∃ (od : Option Addr) (sl : Array (Option Value)) (pm ctv : Value), h.get? f = some (⟨.type "function", od, .func (lfd F b pm ctv), sl⟩ : Obj) := (hok f _ e).1
theorem celO_at {P : Program} {w : World} {H : Hp} {h : Heap} {c : Addr} {o : Obj} (hok : HOk P w H h) (e : H c = some (CelO c o)) : h.get? c = some o := (hok c _ e).1
/-- the abstract heap without the thing at c -/
def outH (H : Hp) (c : Addr) : Hp := fun b => if b = c then none else H b
theorem outH_same {H : Hp} {c : Addr} : outH H c c = none := if_pos rfl
theorem outH_ne {H : Hp} {b c : Addr} (h : b ≠ c) : outH H c b = H b := if_neg h
theorem outH_some {H : Hp} {b c : Addr} {o : HO} (h : outH H c b = some o) : b ≠ c ∧ H b = some o := by
  by_cases e : b = c
  · rw [e, outH_same] at h
    cases h
  · rw [outH_ne e] at h
    exact ⟨e, h⟩
theorem outH_upd {H : Hp} {c : Addr} {o : HO} (h : H c = some o) : upd (outH H c) c o = H := by
  funext b
  by_cases e : b = c
  · rw [e, upd_same, h]
  · rw [upd_ne e, outH_ne e]
section
variable {P : Program} {w : World} {K : PySem.W.Frag} {mg : Str → Option Value} {base : Heap} {A : Around} {outer : List Env} {s s' : Shared} {H H' : Hp} {h h' : Heap} {c : Addr} {o : Obj} {Q Q' : VK} {E : XK}
theorem hok_out (x : HOk P w H h) (e : H c = some (CelO c o)) : HOk P w (outH H c) h := fun a u q => by
  obtain ⟨ne, q⟩ := outH_some q
  refine (x a u q).stay (fun b v _ z => z) (fun b z => ?_) fun b xs z => ?_
  · rw [outH_ne (ne_of z e (fun y => by unfold CelO at y; cases y))]
    exact z
  · rw [outH_ne (ne_of z e (fun y => by unfold CelO at y; cases y))]
    exact z
theorem hok_in (x : HOk P w H h) (n : H c = none) (e : h.get? c = some o) : HOk P w (upd H c (CelO c o)) h := fun a u q => by
  by_cases ha : a = c
  · rw [ha, upd_same] at q
    cases q
    rw [ha]
    exact ⟨e, ⟨o, e⟩, fun h1 h2 p k => k _ p⟩
  · rw [upd_ne ha] at q
    exact (x a u q).stay (fun b v _ z => z) (fun b z => by rw [upd_ne (ne_of_none z n)]; exact z) fun b xs z => by rw [upd_ne (ne_of_none z n)]; exact z
/-- a call for which the tracked cell at c is let go -/
theorem env_out (e0 : Env0 P w K mg base A outer s H) (e : H c = some (CelO c o)) : Env0 P w K mg base A outer s (outH H c) := by
  refine ⟨e0.frames, e0.mod, fun b u q => ?_, e0.bsz, e0.funs, fun b hb => ?_, hok_out e0.hok e, e0.bare⟩
  · obtain ⟨h1, h2⟩ := e0.bs b u q
    refine ⟨h1, ?_⟩
    by_cases hc : b = c
    · rw [hc]
      exact outH_same
    · rw [outH_ne hc]
      exact h2
  · by_cases hc : b = c
    · rw [hc]
      exact outH_same
    · rw [outH_ne hc]
      exact e0.frf b hb
theorem ce_out {u : Value} (e0 : Env0 P w K mg base A outer s H) (e : H c = some (CelO c o)) (r : CE outer P w (outH H c) s Q' u s') (k : ∀ v H', Q' v H' → Q v (upd H' c (CelO c o))) : CE outer P w H s Q u s' := by
  obtain ⟨v, H', os, bare, un, hok, rv, q⟩ := r
  have hc : s.heap.get? c = some o := celO_at e0.hok e
  have nfr : c ∉ frs outer := fun z => by
    have := e0.frf c z
    rw [e] at this
    cases this
  have nH : H' c = none := un.free c o hc outH_same (by simp)
  have hc' : s'.heap.get? c = some o := un.keep c o hc outH_same nfr (by simp)
  have ne : ∀ b, H b = none → b ≠ c := fun b n z => by rw [z, e] at n; cases n
  have ne2 : ∀ b u, H b = some u → (∀ φ, u ≠ .ext φ) → b ≠ c := fun b u n d z => by
    rw [z, e] at n
    unfold CelO at n
    exact d _ (Option.some.inj n).symm
  refine ⟨v, _, os, bare, ⟨fun b ob q n hb hx => ?_, fun b ob q n hb hx => ?_, fun b ob q n hx => ?_, fun b ob q hx => un.there b ob q hx, fun b xs n => ?_, fun b ob u n => ?_, fun b ps n => ?_⟩, hok_in hok nH hc', rv, k v H' q⟩
  · exact un.keep b ob q (by rw [outH_ne (ne b n)]; exact n) hb hx
  · exact un.slot b ob q (by rw [outH_ne (ne b n)]; exact n) hb hx
  · rw [upd_ne (ne b n)]
    exact un.free b ob q (by rw [outH_ne (ne b n)]; exact n) hx
  · have h1 := ne2 b _ n (fun φ z => by cases z)
    rw [upd_ne h1]
    exact un.tups b xs (by rw [outH_ne h1]; exact n)
  · have h1 := ne2 b _ n (fun φ z => by cases z)
    rw [upd_ne h1]
    exact un.frzs b ob u (by rw [outH_ne h1]; exact n)
  · have h1 := ne2 b _ n (fun φ z => by cases z)
    obtain ⟨more, z⟩ := un.tbls b ps (by rw [outH_ne h1]; exact n)
    exact ⟨more, by rw [upd_ne h1]; exact z⟩
/-- a call for which the untracked cell at c is told of -/
theorem env_in (e0 : Env0 P w K mg base A outer s H) (n : H c = none) (e : s.heap.get? c = some o) (nb : base.get? c = none) (nf : c ∉ frs outer) : Env0 P w K mg base A outer s (upd H c (CelO c o)) := by
  refine ⟨e0.frames, e0.mod, fun b u q => ?_, e0.bsz, e0.funs, fun b hb => ?_, hok_in e0.hok n e, e0.bare⟩
  · obtain ⟨h1, h2⟩ := e0.bs b u q
    refine ⟨h1, ?_⟩
    rw [upd_ne (fun z => by rw [z, nb] at q; cases q)]
    exact h2
  · rw [upd_ne (fun z => nf (by rw [← z]; exact hb))]
    exact e0.frf b hb
theorem ce_in {u : Value} (n : H c = none) (e : s.heap.get? c = some o) (r : CE outer P w (upd H c (CelO c o)) s Q' u s') (k : ∀ v H', Q' v H' → H' c = some (CelO c o) ∧ Q v (outH H' c)) : CE outer P w H s Q u s' := by
  obtain ⟨v, H', os, bare, un, hok, rv, q⟩ := r
  obtain ⟨hc', q⟩ := k v H' q
  have hs' : s'.heap.get? c = some o := celO_at hok hc'
  have up : ∀ {b u}, H b = some u → upd H c (CelO c o) b = some u := fun {b u} z => by rw [upd_ne (ne_of_none z n)]; exact z
  refine ⟨v, _, os, bare, ⟨fun b ob q z hb hx => ?_, fun b ob q z hb hx => ?_, fun b ob q z hx => ?_, fun b ob q hx => un.there b ob q hx, fun b xs z => ?_, fun b ob u z => ?_, fun b ps z => ?_⟩, hok_out hok hc', rv, q⟩
  · by_cases hb2 : b = c
    · rw [hb2] at q ⊢
      rw [e] at q
      rw [hs', ← q]
    · exact un.keep b ob q (by rw [upd_ne hb2]; exact z) hb hx
  · by_cases hb2 : b = c
    · rw [hb2] at q ⊢
      rw [e] at q
      cases q
      exact ⟨o.slots, hs'⟩
    · exact un.slot b ob q (by rw [upd_ne hb2]; exact z) hb hx
  · by_cases hb2 : b = c
    · rw [hb2]
      exact outH_same
    · rw [outH_ne hb2]
      exact un.free b ob q (by rw [upd_ne hb2]; exact z) hx
  · rw [outH_ne (ne_of_none z n)]
    exact un.tups b xs (up z)
  · rw [outH_ne (ne_of_none z n)]
    exact un.frzs b ob u (up z)
  · obtain ⟨more, y⟩ := un.tbls b ps (up z)
    exact ⟨more, by rw [outH_ne (ne_of_none z n)]; exact y⟩
end
/-! ### running a lambda -/
section
variable {P : Program} {w : World} {K : PySem.W.Frag} {mg : Str → Option Value} {base : Heap} {N ps fr : List Str} {F : NF} {b : Expr} {f : Addr} {k : Nat}
theorem lam_run (S : NScope N ps fr F.scope) (hb : ∀ (pm ctv : Value) (us : List Value), us.length = ps.length → bindArgs (lfd F b pm ctv) ⟨us, []⟩ = pure (ps.zip us)) {A : Around} {outer : List Env} {s : Shared} {H : Hp} {us : List Value} {vs : List V} {ws : List (Option V)} {Q : VK} {E : XK}
    (hr : Room (k + 1) A) (e0 : Env0 P w K mg base A outer s H) (hf : H f = some (LfO f F b)) (hc : H F.c = some (CodeO F.c F.qual)) (C : CellsAt F.cl fr ws s.heap H) (r : Vals vs us) (hl : vs.length = ps.length)
    (hbody : Room k (A.deeper (envF F f s.heap.objs.size)) → WE (ncx CX0 P w K mg base N F f A outer s H E).nox b (startF N vs ws) H Q) : codeAny (model P w) A (.call (.ref f) ⟨us, []⟩) (CR CX0 outer P w H s Q E) s := by
  have lim : s.heap.NoLimit := e0.mod.nolimit.keeps fun b o e => (e0.bs b o e).1
  obtain ⟨od, sl, pm, ctv, ho⟩ := lfO_at e0.hok hf
  refine PySem.W.kla_callFunE hr.depth ho rfl S.co S.gen rfl (codeO_at e0.hok hc) ?_
  rw [hb pm ctv us (by rw [← r.length]; exact hl)]
  refine wpAny_pure (wpAny_newFunctionEnv S.nocell (fun ⟨n, _⟩ hy => S.par n (List.of_mem_zip hy).1) (fun h₁ hns hsb => ⟨lim.fresh _ hsb, ?_⟩) S.kind)
  show codeAny _ _ (.expr b (envF F f s.heap.objs.size)) _ _
  have kp : ∀ b o, s.heap.get? b = some o → h₁.get? b = some o := fun b o e => hsb.extBut b o (Nat.ne_of_lt (Heap.lt_size e)) (Heap.get?_push_of_some _ e)
  have I : L2.Inv (ncx CX0 P w K mg base N F f A outer s H E) [] (startF N vs ws) H { s with heap := h₁, toks := s.toks + (ps.zip us).length } := inv_startN S hr.hd e0 hl r C hns kp
  obtain ⟨t, ht, hq⟩ := hbody (hr.deeper _)
  refine PySem.W.kla_codeExpr (wpAny_mono (ht.nox.run [] _ _ H Q I hq) (fun v s' hs => ?_) fun e s' hs => hs)
  obtain ⟨x, H', J, rv, q⟩ := hs
  exact ⟨x, H', J.os, J.bare, J.base, J.hok, rv, q⟩
/-- how a lambda's names stand in its context -/
theorem gd_lam {B : Bs} {gs : List Str} {A : Around} {outer : List Env} {s : Shared} {H : Hp} {E : XK} (S : NScope N ps fr F.scope) (hv : (N.all fun x => visB F.scope x) = true) (hg : gs.all (gloB F.scope) = true) (hd : A.handled = none) (hr : Room k (A.deeper (envF F f s.heap.objs.size))) :
    Gd B k F.scope N (tt N.length) [] gs (ncx CX0 B.P B.w B.K B.mg B.base N F f A outer s H E).nox :=
  ⟨rfl, rfl, rfl, rfl, rfl, rfl, rfl, S.nd, fun i x hi _ => visB_ok (List.all_eq_true.mp hv x (List.mem_of_getElem? hi)), fun i x hi h => by simp at h, fun x hx => gloB_ok (List.all_eq_true.mp hg x hx), rfl, hr, rfl⟩
end
end U
/-! ### text L1 -/
set_option maxHeartbeats 4000000
namespace U
open PySem PySem.Spec PyProof.Rows L2 LamX NdefX
section
variable {X : Cx} {pins : List (Addr × Obj)} {σ : L2.St} {H : Hp} {s : Shared}
theorem lfO_new {F : NF} {b : Expr} {t' : Nat} {o : Obj} {pm ctv : Value} (I : L2.Inv X pins σ H s) (ho : o = { cls := .type "function", data := .func (lfd F b pm ctv) }) :
    L2.Inv X pins σ (upd H s.heap.objs.size (LfO s.heap.objs.size F b)) { s with heap := s.heap.push o, toks := t' } := by
  subst ho
  refine I.laid (a := s.heap.objs.size) (fun b u e => Heap.get?_push_of_some _ e) (Nat.le_refl _) ?_
  have e : (s.heap.push ({ cls := .type "function", data := .func (lfd F b pm ctv) } : Obj)).get? s.heap.objs.size = some ({ cls := .type "function", data := .func (lfd F b pm ctv) } : Obj) := Heap.get?_push_size _ rfl
  exact ⟨⟨_, _, pm, ctv, e⟩, ⟨_, e⟩, fun h1 h2 hz st => let ⟨od, sl, p, t, z⟩ := hz; ⟨od, sl, p, t, st _ z⟩⟩
/-- a lambda is made -/
theorem lam_made {T : List (Addr × Str)} {c P : Addr} {params : Arguments} {body : Expr} {scope : Scope} {pos : Pos} {E : Value → Shared → Prop} {Q : Value → Shared → Prop} (I : L2.Inv X pins σ H s) (TB : TabB X.base X.mg c P) (hcode : X.env.code = .ref c)
    (hm : (P, X.env.qual ++ "<lambda>") ∈ T) (hu : ∀ p ∈ T, p.1 = P → p.2 = X.env.qual ++ "<lambda>") (hT : Tabs T H) (hdef : defaultsOf params X.env = ([], [])) (hfree : ∀ y ∈ scope.names, y.2 = .free → ∃ c, X.env.cells.lookup y.1 = some c)
    (h : ∀ (f c' : Addr) (H1 : Hp) (s' : Shared), L2.Inv X pins σ H1 s' → ExtN H H1 → (∀ b o, H1 b = some o → H b = none → oddO o = true) → Tabs T H1 → H f = none → c' ≠ f → H1 f = some (LfO f ⟨"<lambda>", X.env.qual ++ "<lambda>", params, [], scope, cloFrom X.env.cells scope.names [], c'⟩ body) → H1 c' = some (CodeO c' (X.env.qual ++ "<lambda>")) → Q (.ref f) s') :
    wpAny (model X.prog X.w) X.A (eval (.Lambda params body scope pos) X.env) Q E s := by
  obtain ⟨ps, hP, ht, ha⟩ := hT _ hm
  refine PySem.W.kla_eval hdef ?_
  have bP : s.heap.BuiltinsAt X.mg P := TB.bm.keeps I.bk
  have hP' : s.heap.get? P = some { cls := .none, data := .fields ps } := I.hok P _ hP
  cases hc : codeAmong pos ps.toList with
  | none =>
    refine PySem.W.kla_makeFunction (mg := X.mg) (c := c) (P := P) (ps := ps) (closure_ok hfree) I.ok.glob (I.mod.glob.keeps I.bk) hcode (TB.code.keeps I.bk) hP' ht hc TB.gP bP fun c' ctv h' tk hx hge hlt hrec htb => ?_
    obtain ⟨c2, oc, vs, t, e2, hoc, hd, hv⟩ := hrec
    cases e2
    have nC : H c' = none := I.hok.fresh hge
    have I1 := inv_table (t' := tk) (more := #[rawInt pos.line, rawInt pos.col, .ref c']) (h' := h') I hP (fun b o hb e => hx b o hb e) htb hge ⟨oc, vs, t, hoc, hd, hv⟩
    have hE : ExtN H (upd (upd H P (.tbl (ps ++ #[rawInt pos.line, rawInt pos.col, .ref c']))) c' (CodeO c' (X.env.qual ++ "<lambda>"))) := fun b o e n => by
      rw [upd_ne (ne_of_none e nC), upd_ne (fun z => n ps (Option.some.inj (e.symm.trans (by rw [z]; exact hP))))]
      exact e
    have eL : (ps ++ #[rawInt pos.line, rawInt pos.col, .ref c']).toList = ps.toList ++ [rawInt pos.line, rawInt pos.col, .ref c'] := by simp
    have T1 : Tabs T (upd (upd H P (.tbl (ps ++ #[rawInt pos.line, rawInt pos.col, .ref c']))) c' (CodeO c' (X.env.qual ++ "<lambda>"))) := fun p hp => by
      by_cases hb : p.1 = P
      · rw [hu p hp hb, hb]
        refine ⟨_, by rw [upd_ne (ne_of_none hP nC), upd_same], by rw [eL]; exact PySem.TriplesOk_snoc _ _ _ _ ht, fun p' cv hcv => ?_⟩
        rw [eL] at hcv
        rcases among_app _ ht hcv with z | z
        · obtain ⟨c0, e1, e2⟩ := ha p' cv z
          exact ⟨c0, e1, hE _ _ e2 codeO_ne⟩
        · exact ⟨c', z, upd_same⟩
      · obtain ⟨ps', a1, a2, a3⟩ := hT p hp
        refine ⟨ps', by rw [upd_ne (ne_of_none a1 nC), upd_ne hb]; exact a1, a2, fun p' cv hcv => ?_⟩
        obtain ⟨c0, e1, e2⟩ := a3 p' cv hcv
        exact ⟨c0, e1, hE _ _ e2 codeO_ne⟩
    have nF := I1.hok.fresh (Nat.le_refl _)
    have I2 := lfO_new (F := ⟨"<lambda>", X.env.qual ++ "<lambda>", params, [], scope, cloFrom X.env.cells scope.names [], c'⟩) (b := body) (t' := tk) (pm := (X.mg "__name__").getD .none) (ctv := ctv) I1 rfl
    refine h h'.objs.size c' _ _ I2 (fun b o e n => ?_) (fun b o e n => ?_) (T1.ext fun b o e => ?_) (I.hok.fresh (Nat.le_trans hge (Nat.le_of_lt hlt))) (Nat.ne_of_lt hlt) upd_same ?_
    · have e1 := hE b o e n
      exact (upd_ne (ne_of_none e1 nF)).trans e1
    · by_cases h1 : b = h'.objs.size
      · rw [h1] at e
        have e' := upd_same.symm.trans e
        cases e'
        rfl
      · have e1 := (upd_ne h1).symm.trans e
        by_cases h2 : b = c'
        · rw [h2, upd_same] at e1
          cases e1
          rfl
        · rw [upd_ne h2] at e1
          by_cases h3 : b = P
          · rw [h3, upd_same] at e1
            cases e1
            rfl
          · rw [upd_ne h3, n] at e1
            cases e1
    · exact (upd_ne (ne_of_none e nF)).trans e
    · exact (upd_ne (Nat.ne_of_lt hlt)).trans upd_same
  | some cv =>
    obtain ⟨c', e, hco⟩ := ha pos cv hc
    subst e
    refine PySem.W.kla_makeFunctionHit (mg := X.mg) (c := c) (P := P) (ps := ps) (closure_ok hfree) I.ok.glob (I.mod.glob.keeps I.bk) hcode (TB.code.keeps I.bk) hP' ht hc bP fun ctv h' tk hx hsz => ?_
    have I1 : L2.Inv X pins σ H { s with heap := h', toks := tk } := I.kept hx
    have nF : H h'.objs.size = none := I1.hok.fresh (Nat.le_refl _)
    have I2 := lfO_new (F := ⟨"<lambda>", X.env.qual ++ "<lambda>", params, [], scope, cloFrom X.env.cells scope.names [], c'⟩) (b := body) (t' := tk) (pm := (X.mg "__name__").getD .none) (ctv := ctv) I1 rfl
    refine h h'.objs.size c' _ _ I2 (fun b o e n => ?_) (fun b o e n => ?_) (hT.ext fun b o e => ?_) nF (ne_of_none hco nF) upd_same ?_
    · exact (upd_ne (ne_of_none e nF)).trans e
    · by_cases h1 : b = h'.objs.size
      · rw [h1] at e
        have e' := upd_same.symm.trans e
        cases e'
        rfl
      · have e1 := (upd_ne h1).symm.trans e
        rw [n] at e1
        cases e1
    · exact (upd_ne (ne_of_none e nF)).trans e
    · exact (upd_ne (ne_of_none hco nF)).trans hco
end
theorem CodeO_odd {c : Addr} {q : Str} : oddO (CodeO c q) = true := rfl
/-- the heap behind the making -/
theorem Hs.lam {B : Bs} {m : List (Addr × HO)} {G H H1 : Hp} {f c' : Addr} {F : NF} {b : Expr} {q : Str} (h : Hs B m G H) (e : ExtN H H1) (t : Tabs B.T H1) (nf : H f = none) (hne : c' ≠ f) (h1 : H1 f = some (LfO f F b)) (h2 : H1 c' = some (CodeO c' q)) :
    Hs B m (upd (upd G c' (CodeO c' q)) f (LfO f F b)) H1 ∧ Same G (upd (upd G c' (CodeO c' q)) f (LfO f F b)) := by
  have gf : G f = none := h.g.free nf
  have ext : ∀ {b o}, H b = some o → tabO o = false → H1 b = some o := fun {b o} z n => e b o z fun ps y => by rw [y] at n; cases n
  have g1 : ∀ b o, G b = some o → H1 b = some o := fun b o z => ext (h.g b o z) (h.gt b o z)
  have sm : Same G (upd (upd G c' (CodeO c' q)) f (LfO f F b)) := fun b o z => by
    rw [upd_ne (ne_of_none z gf)]
    by_cases hb : b = c'
    · rw [hb, upd_same]
      rw [hb] at z
      exact h2.symm.trans (g1 c' o z)
    · rw [upd_ne hb]
      exact z
  refine ⟨⟨fun b o z => ?_, fun p hp => ?_, h.nd, t, fun b o z => ?_⟩, sm⟩
  · by_cases hb : b = f
    · rw [hb, upd_same] at z
      rw [hb, ← z]
      exact h1
    · rw [upd_ne hb] at z
      by_cases hb2 : b = c'
      · rw [hb2, upd_same] at z
        rw [hb2, ← z]
        exact h2
      · rw [upd_ne hb2] at z
        exact g1 b o z
  · obtain ⟨q1, q2, q3⟩ := h.o p hp
    have q4 := ext q1 (tab_odd q3)
    refine ⟨q4, ?_, q3⟩
    have n1 : p.1 ≠ f := ne_of_none q1 nf
    have n2 : p.1 ≠ c' := fun z => by
      rw [z, h2] at q4
      have := Option.some.inj q4
      rw [← this] at q3
      cases q3
    rw [upd_ne n1, upd_ne n2]
    exact q2
  · by_cases hb : b = f
    · rw [hb, upd_same] at z
      cases z
      rfl
    · rw [upd_ne hb] at z
      by_cases hb2 : b = c'
      · rw [hb2, upd_same] at z
        cases z
        rfl
      · rw [upd_ne hb2] at z
        exact h.gt b o z
/-- what makes lambdas: its code object, its table -/
structure Mkl (B : Bs) (X : Cx) (c P : Addr) : Prop where
  TB : TabB B.base B.mg c P
  code : X.env.code = .ref c
  mem : (P, X.env.qual ++ "<lambda>") ∈ B.T
  uniq : ∀ p ∈ B.T, p.1 = P → p.2 = X.env.qual ++ "<lambda>"
section
variable {X : Cx} {B : Bs} {lv : Nat} {sc : Scope} {vm sm : List Bool} {gs : List Str} {N : List Str} {σ : L2.St} {H G : Hp} {m : List (Addr × HO)} {Q : VK} {pos p : Pos}
theorem we_lam (g : Gd B lv sc N vm sm gs X) {c P : Addr} {params : Arguments} {body : Expr} {scope : Scope} (M : Mkl B X c P) (hfr : ∀ y ∈ scope.names, y.2 = .free → sc.names.lookup y.1 = some .cell ∨ sc.names.lookup y.1 = some .free) (hS : Hs B m G H)
    (h : ∀ f c' G' H', Hs B m G' H' → Same G G' → G' f = some (LfO f ⟨"<lambda>", X.env.qual ++ "<lambda>", params, [], scope, cloFrom X.env.cells scope.names [], c'⟩ body) → G' c' = some (CodeO c' (X.env.qual ++ "<lambda>")) → Q (.ref f) H')
    (hdef : defaultsOf params X.env = ([], []) := by rfl) : WE X (.Lambda params body scope pos) σ H Q := by
  refine ⟨fun σ H Q => ∃ m G, Hs B m G H ∧ ∀ f c' G' H', Hs B m G' H' → Same G G' → G' f = some (LfO f ⟨"<lambda>", X.env.qual ++ "<lambda>", params, [], scope, cloFrom X.env.cells scope.names [], c'⟩ body) → G' c' = some (CodeO c' (X.env.qual ++ "<lambda>")) → Q (.ref f) H', ⟨fun pins s σ H Q I hw => ?_⟩, m, G, hS, h⟩
  obtain ⟨m, G, hS, h⟩ := hw
  have TB : TabB X.base X.mg c P := by rw [g.eb, g.eg]; exact M.TB
  refine lam_made I TB M.code M.mem M.uniq hS.tb hdef (fun y hy e => ?_) fun f c' H1 s' I1 eN _ T1 nf hne h1 h2 => ?_
  · rcases hfr y hy e with z | z
    · exact I.ok.has _ (.inl (by show X.env.scope.names.lookup _ = _; rw [g.es]; exact z))
    · exact I.ok.has _ (.inr (by show X.env.scope.names.lookup _ = _; rw [g.es]; exact z))
  · obtain ⟨q1, q2⟩ := hS.lam eN T1 nf hne h1 h2
    exact ⟨.ref f, H1, I1, rfl, h f c' _ H1 q1 q2 upd_same ((upd_ne hne).trans upd_same)⟩
/-- a call of what a name holds -/
def FnH (H : Hp) (f : Addr) : Prop := ∃ F b, H f = some (LfO f F b)
theorem fnH_at {pins : List (Addr × Obj)} {s : Shared} {f : Addr} (I : L2.Inv X pins σ H s) (e : FnH H f) : PySem.W.FnAt f s.heap := by
  obtain ⟨F, b, e⟩ := e
  obtain ⟨od, sl, pm, ctv, ho⟩ := lfO_at I.hok e
  exact ⟨_, od, _, sl, ho⟩
theorem we_lv {x : Str} {e : Expr} {es : List Expr} (h : WE X (.Name x p) σ H fun v H1 => ∃ f, v = .ref f ∧ FnH H1 f ∧ WA X (e :: es) σ H1 fun vs H2 => FnH H2 f ∧ WCl X (.ref f) vs H2 Q)
    (he : starEach (e :: es) X.env = (false, eval e X.env) :: starEach es X.env := by rfl) (hpl : (backTo pos (starEach es X.env)).any (·.1) = false := by rfl) : WE X (.Call (.Name x p) (e :: es) [] pos) σ H Q := by
  refine ⟨fun σ H Q => WE X (.Name x p) σ H fun v H1 => ∃ f, v = .ref f ∧ FnH H1 f ∧ WA X (e :: es) σ H1 fun vs H2 => FnH H2 f ∧ WCl X (.ref f) vs H2 Q, ⟨fun pins s σ H Q I hw => ?_⟩, h⟩
  refine wpAny_Call_Name_kw (thn (p_e.run pins s σ H _ I hw) fun u s1 hu => ?_)
  obtain ⟨v, H1, I1, rv, f, ev, hf, q⟩ := hu
  subst ev
  obtain rfl : u = Value.ref f := rv
  refine PySem.W.callWith_F (first := []) (fnH_at I1 hf) (thn (p_a.run pos pins s1 σ H1 _ I1 q) fun us s2 h2 => ?_) he hpl
  obtain ⟨vs, H2, I2, r, hf2, q2⟩ := h2
  exact ⟨fnH_at I2 hf2, l_cl pins s2 σ H2 vs us Q I2 r q2⟩
/-- the cell of a name that the frame holds: told of in a method's call, taken back behind it -/
theorem we_mtL (g : Gd B lv sc N vm sm gs X) {o e : Expr} {es : List Expr} {mt : Str} {apos : Pos} {pl : Sem Bool} {y : Str} (j : Nat) (hj : N[j]? = some y) (hy : sc.names.lookup y = some .cell) (hfn : X.fn y = true)
    (h : WE X o σ H fun x H1 => ∃ a K dx fs, x = .ref a ∧ H1 a = some (.ins K dx fs) ∧ fs.lookup mt = none ∧ ∃ lj sp dvs, Mt B lj K mt sp dvs ∧ lj ≤ lv ∧ WA X (e :: es) σ H1 fun vs H2 => ∃ w, σ[j]? = some (some w) ∧
      ∀ (c : Addr) (ob : Obj) (u : Value), X.env.cells.lookup y = some c → ob.data = .cell (some u) → RelV w u → H2 c = none → sp (.ref a :: (vs ++ dvs)) (upd H2 c (CelO c ob)) (fun v H3 => H3 c = some (CelO c ob) ∧ Q v (outH H3 c)) E0)
    (hst : starEach (e :: es) X.env = (false, eval e X.env) :: starEach es X.env := by rfl) (hpl : (backTo pos (starEach es X.env)).any (·.1) = false := by rfl)
    (ht : eval (.Call (.Attribute o mt apos) (e :: es) [] pos) X.env = (do
      let ov ← eval o X.env
      standAt apos.atName
      let (f, first) ← holding [ov] (getMethod ov mt pl)
      callWith pos f first (backTo pos (starEach (e :: es) X.env)) (backToKw pos (keywordEach [] X.env))) := by rfl) : WE X (.Call (.Attribute o mt apos) (e :: es) [] pos) σ H Q := by
  refine ⟨fun σ H Q => WE X o σ H fun x H1 => ∃ a K dx fs, x = .ref a ∧ H1 a = some (.ins K dx fs) ∧ fs.lookup mt = none ∧ ∃ lj sp dvs, Mt B lj K mt sp dvs ∧ lj ≤ lv ∧ WA X (e :: es) σ H1 fun vs H2 => ∃ w, σ[j]? = some (some w) ∧
      ∀ (c : Addr) (ob : Obj) (u : Value), X.env.cells.lookup y = some c → ob.data = .cell (some u) → RelV w u → H2 c = none → sp (.ref a :: (vs ++ dvs)) (upd H2 c (CelO c ob)) (fun v H3 => H3 c = some (CelO c ob) ∧ Q v (outH H3 c)) E0, ⟨fun pins s σ H Q I hw => ?_⟩, h⟩
  refine PySem.W.methodCall_KW (pl := pl) (thn (p_e.run pins s σ H _ I hw) fun u s1 hu => ?_) ht
  obtain ⟨x, H1, I1, rx, a, K, dx, fs, ex, ea, l, lj, sp, dvs, M, hk, q⟩ := hu
  subst ex
  obtain rfl : u = Value.ref a := rx
  obtain ⟨f, fd, ps, ds, hc, hm, F, hb, hd⟩ := g.mt M
  refine getmeth_ok I1 ea hc hm l ?_
  refine PySem.W.callWith_K (first := [.ref a]) (h₀ := X.base) I1.ok.mod.kin hm.kp (thn (p_a.run pos pins s1 σ H1 _ I1 q) fun us s2 h2 => ?_) hst hpl
  obtain ⟨vs, H2, I2, r, w, hw, q2⟩ := h2
  refine ⟨I2.kIn, ?_⟩
  -- the cell
  obtain ⟨mm, hn, hl⟩ := I2.loc
  have hlk : X.env.scope.names.lookup y = some .cell := by rw [g.es]; exact hy
  obtain ⟨u, ru, lk⟩ := hl j y w (by rw [g.eN]; exact hj) hw (.inr (.inl hlk))
  obtain ⟨c, hcl, ob, hob, hdt⟩ : ∃ c, X.env.cells.lookup y = some c ∧ s2.heap.IsCell c (some u) := by
    rcases lk with ⟨z, _⟩ | ⟨_, c, e1, e2⟩
    · have z' : X.env.scope.names.lookup y = some .local := z
      rw [hlk] at z'
      cases z'
    · exact ⟨c, e1, e2⟩
  have nc : H2 c = none := I2.freeC y c hcl
  have above : X.s_0.heap.objs.size ≤ c := I2.ok.cab y c hfn hcl
  have nb : X.base.get? c = none := by
    cases e : X.base.get? c with
    | none => rfl
    | some o =>
      have h1 := (I2.ok.bs c o e).1
      exact absurd (Nat.lt_of_lt_of_le (Heap.lt_size h1) above) (Nat.lt_irrefl _)
  have nf : c ∉ frs X.stack := fun z => by
    rcases List.mem_cons.mp (I2.stkSub c z) with e | z
    · exact I2.cne y c hcl e
    · obtain ⟨_, o, ho, _⟩ := I2.ok.funs.mem z
      exact absurd (Nat.lt_of_lt_of_le (Heap.lt_size ho) above) (Nat.lt_irrefl _)
  have e0 := env_in I2.env0 nc hob nb nf
  have q3 := q2 c ob u hcl hdt ru nc
  have r2 : Vals (.ref a :: (vs ++ dvs)) (.ref a :: (us ++ ds)) := .cons rfl (r.append hd)
  have hlen : (Value.ref a :: us ++ ds).length = ps.length := by
    rw [← F.len _ _ _ _ q3]
    exact r2.length.symm
  refine wpAny_call (codeAny_mono (F.run X.A X.stack s2 _ ⟨.ref a :: us, []⟩ (.ref a :: (us ++ ds)) (.ref a :: (vs ++ dvs)) _ E0 (g.room.mono hk) e0 (hb s2 (.ref a :: us) I2.kIn hlen) r2 q3) fun r s' hq => ?_)
  cases r with
  | error e => exact (pass0 (X := X) pins σ H2 s2 e s' I2 hq)
  | ok fl =>
    cases fl with
    | ret u => exact I2.after (ce_in nc hob hq fun v H' z => z)
    | next => exact False.elim hq
    | brk => exact False.elim hq
    | cont => exact False.elim hq
end
end U
/-! ### text U3 -/
set_option maxHeartbeats 4000000
namespace U
open PySem PySem.Spec PyProof.Rows L2
theorem sql {K : PySem.W.Frag} {H : Hp} {a : Addr} {xs : List V} (h : H a = some (.lst xs)) : SqL K H a xs := .inl (.inl h)
theorem sqt {K : PySem.W.Frag} {H : Hp} {a : Addr} {xs : List V} (h : H a = some (.tup xs)) : SqT K H a xs := .inl (.inl h)
theorem Hs.base {B : Bs} {m : List (Addr × HO)} {G G' H : Hp} (h : Hs B m G' H) (e : Same G G') : Hs B m G H :=
  ⟨e.trans h.g, fun p hp => ⟨(h.o p hp).1, e.free (h.o p hp).2.1, (h.o p hp).2.2⟩, h.nd, h.tb, fun b o z => h.gt b o (e b o z)⟩
theorem at_nat {α : Type} {xs : List α} {i : Int} (j : Nat) {v : α} (e : i = (j : Int)) (h : xs[j]? = some v) : atI xs i = some v := by
  have hj := (List.getElem?_eq_some_iff.mp h).1
  subst e
  unfold atI ixN
  rw [if_pos (by omega), if_pos (by omega)]
  exact h
/-- counted from the end -/
theorem at_end {α : Type} {xs : List α} {i : Int} (j : Nat) {v : α} (e : i + (xs.length : Int) = (j : Int)) (hi : i < 0) (h : xs[j]? = some v) : atI xs i = some v := by
  have hj := (List.getElem?_eq_some_iff.mp h).1
  unfold atI ixN
  rw [if_neg (by omega), if_pos (by omega), show (i + (xs.length : Int)).toNat = j from by omega]
  exact h
theorem Hs.mk_i {B : Bs} {m : List (Addr × HO)} {G H : Hp} {x dx K : Addr} (h : Hs B m G H) (hx : H x = none) (hd : H dx = none) (hn : dx ≠ x) : Hs B ((x, .ins K dx []) :: m) G (upd (upd H dx (.own x)) x (.ins K dx [])) := by
  have h1 := h.new (u := .own x) hd rfl
  exact ((h1.new (u := .ins K dx []) (by rw [upd_ne (fun z => hn z.symm)]; exact hx) rfl).swap).drop
section
variable {a b c d e : V} {H : Hp} {Q : VK} {E : XK}
theorem sp1_i {P : V → Hp → VK → Prop} (h : P a H Q) : Sp1 P [a] H Q E := ⟨a, rfl, h⟩
theorem sp2_i {P : V → V → Hp → VK → Prop} (h : P a b H Q) : Sp2 P [a, b] H Q E := ⟨a, b, rfl, h⟩
theorem sp3_i {P : V → V → V → Hp → VK → Prop} (h : P a b c H Q) : Sp3 P [a, b, c] H Q E := ⟨a, b, c, rfl, h⟩
theorem sp4_i {P : V → V → V → V → Hp → VK → Prop} (h : P a b c d H Q) : Sp4 P [a, b, c, d] H Q E := ⟨a, b, c, d, rfl, h⟩
theorem sp5_i {P : V → V → V → V → V → Hp → VK → Prop} (h : P a b c d e H Q) : Sp5 P [a, b, c, d, e] H Q E := ⟨a, b, c, d, e, rfl, h⟩
end
/-! ### what loops walk -/
/-- n turns; the heaps it can be read in; what turn i yields -/
structure Src (J : It) (n : Nat) (ok : Hp → Prop) (Y : Nat → Hp → V → Hp → Prop) : Prop where
  go : ∀ i H, i < n → ok H → J.go i H
  y : ∀ i H x H', i < n → ok H → J.yld i H x H' → Y i H x H'
  stop : ∀ H, ok H → J.stop n H
def yL (xs : List V) : Nat → Hp → V → Hp → Prop := fun i H x H' => H' = H ∧ xs[i]? = some x
def yR (lo c : Int) : Nat → Hp → V → Hp → Prop := fun i H x H' => H' = H ∧ x = .int (lo + i * c)
def yE (xs : List V) : Nat → Hp → V → Hp → Prop := fun i H v H' => ∃ T x, v = .ref T ∧ H T = none ∧ H' = upd H T (.tup [.int i, x]) ∧ xs[i]? = some x
def yZ (xs ys : List V) : Nat → Hp → V → Hp → Prop := fun i H v H' => ∃ T x y, v = .ref T ∧ H T = none ∧ H' = upd H T (.tup [x, y]) ∧ xs[i]? = some x ∧ ys[i]? = some y
def yS (z : Str) : Nat → Hp → V → Hp → Prop := fun i H v H' => H' = H ∧ ∃ c, z.cps[i]? = some c ∧ v = .str ⟨#[c]⟩
def okT : Hp → Prop := fun _ => True
/-- an iterable, by its turns -/
structure WIS (X : Cx) (tg it : Expr) (σ : L2.St) (H : Hp) (R : Nat → (Hp → Prop) → (Nat → Hp → V → Hp → Prop) → Hp → Prop) : Prop where
  ex : WI X tg it σ H fun J H1 => ∃ n ok Y, Src J n ok Y ∧ R n ok Y H1
section
variable {X : Cx} {B : Bs} {lv : Nat} {sc : Scope} {vm sm : List Bool} {gs : List Str} {N : List Str} {σ : L2.St} {H : Hp} {Q : VK} {R : Nat → (Hp → Prop) → (Nat → Hp → V → Hp → Prop) → Hp → Prop} {tg e e2 : Expr} {p pos tpos : Pos} {elts : List Expr} {kk : Nat}
theorem src_l {K : PySem.W.Frag} {a : Addr} {xs : List V} : Src (Itl K a) xs.length (fun H => SqL K H a xs) (yL xs) :=
  ⟨fun i H hi hq => ⟨xs, xs[i], hq, List.getElem?_eq_getElem hi⟩, fun i H x H' hi hq hy => ⟨hy.1, hy.2 xs hq⟩, fun H hq => ⟨xs, hq, Nat.le_refl _⟩⟩
theorem src_t {K : PySem.W.Frag} {a : Addr} {xs : List V} : Src (Itt K a) xs.length (fun H => SqT K H a xs) (yL xs) :=
  ⟨fun i H hi hq => ⟨xs, xs[i], hq, List.getElem?_eq_getElem hi⟩, fun i H x H' hi hq hy => ⟨hy.1, hy.2 xs hq⟩, fun H hq => ⟨xs, hq, Nat.le_refl _⟩⟩
theorem src_r {lo : Int} {n : Nat} : Src (Itr lo n) n okT (yR lo 1) :=
  ⟨fun i H hi _ => hi, fun i H x H' hi _ hy => ⟨hy.1, by rw [hy.2, Int.mul_one]⟩, fun H _ => Nat.le_refl _⟩
theorem src_c {lo c : Int} {n : Nat} : Src (Itc lo c n) n okT (yR lo c) :=
  ⟨fun i H hi _ => hi, fun i H x H' hi _ hy => ⟨hy.1, hy.2⟩, fun H _ => Nat.le_refl _⟩
theorem src_e {K : PySem.W.Frag} {a : Addr} {xs : List V} : Src (Ite K a) xs.length (fun H => SqL K H a xs) (yE xs) :=
  ⟨fun i H hi hq => ⟨xs, xs[i], hq, List.getElem?_eq_getElem hi⟩, fun i H x H' hi hq hy => let ⟨T, y, e1, e2, e3, e4⟩ := hy; ⟨T, y, e1, e2, e3, e4 xs hq⟩, fun H hq => ⟨xs, hq, Nat.le_refl _⟩⟩
theorem src_z {K : PySem.W.Frag} {a b : Addr} {xs ys : List V} (hl : xs.length = ys.length) : Src (Itz K a b) xs.length (fun H => SqL K H a xs ∧ SqL K H b ys) (yZ xs ys) :=
  ⟨fun i H hi hq => ⟨xs, ys, xs[i], ys[i]'(hl ▸ hi), hq.1, hq.2, List.getElem?_eq_getElem hi, List.getElem?_eq_getElem (hl ▸ hi)⟩, fun i H x H' hi hq hy => let ⟨T, y, z, e1, e2, e3, e4, e5⟩ := hy; ⟨T, y, z, e1, e2, e3, e4 xs hq.1, e5 ys hq.2⟩, fun H hq => ⟨xs, ys, hq.1, hq.2, .inl (Nat.le_refl _)⟩⟩
theorem src_s {z : Str} : Src (Its z) z.cps.size okT (yS z) :=
  ⟨fun i H hi _ => hi, fun i H x H' hi _ hy => hy, fun H _ => Nat.le_refl _⟩
theorem src_k {d : Addr} {o : Obj} {kvs : List (Key × V)} : Src (Itk d o kvs) kvs.length (fun H => H d = some (.frz o (.dK kvs))) (yL (kvs.map fun p => kV p.1)) :=
  ⟨fun i H hi hq => ⟨hq, hi⟩, fun i H x H' hi hq hy => by
    obtain ⟨e, k, v, e1, e2⟩ := hy
    exact ⟨e, by rw [List.getElem?_map, e1, e2] <;> rfl⟩, fun H hq => ⟨hq, Nat.le_refl _⟩⟩
theorem wi_l (g : Gd B lv sc N vm sm gs X) (h : WE X e σ H fun x H1 => ∃ a xs, x = .ref a ∧ SqL B.K H1 a xs ∧ R xs.length (fun H => SqL B.K H a xs) (yL xs) H1) : WIS X tg e σ H R := by
  refine ⟨⟨_, pi_list p_e, we_mono h fun x H1 hq => ?_⟩⟩
  obtain ⟨a, xs, rfl, hx, q⟩ := hq
  rw [← g.eK] at hx q
  exact ⟨a, rfl, ⟨xs, hx⟩, _, _, _, src_l, q⟩
theorem wi_t (g : Gd B lv sc N vm sm gs X) (h : WE X e σ H fun x H1 => ∃ a xs, x = .ref a ∧ SqT B.K H1 a xs ∧ R xs.length (fun H => SqT B.K H a xs) (yL xs) H1) : WIS X tg e σ H R := by
  refine ⟨⟨_, pi_tup p_e, we_mono h fun x H1 hq => ?_⟩⟩
  obtain ⟨a, xs, rfl, hx, q⟩ := hq
  rw [← g.eK] at hx q
  exact ⟨a, rfl, ⟨xs, hx⟩, _, _, _, src_t, q⟩
theorem wi_s (h : WE X e σ H fun x H1 => ∃ z, x = .str z ∧ R z.cps.size okT (yS z) H1) : WIS X tg e σ H R := by
  refine ⟨⟨_, pi_str p_e, we_mono h fun x H1 hq => ?_⟩⟩
  obtain ⟨z, rfl, q⟩ := hq
  exact ⟨z, rfl, _, _, _, src_s, q⟩
theorem wi_k (h : WE X e σ H fun x H1 => ∃ d o kvs, x = .ref d ∧ H1 d = some (.frz o (.dK kvs)) ∧ R kvs.length (fun H => H d = some (.frz o (.dK kvs))) (yL (kvs.map fun p => kV p.1)) H1) : WIS X tg e σ H R := by
  refine ⟨⟨_, pi_keys p_e, we_mono h fun x H1 hq => ?_⟩⟩
  obtain ⟨d, o, kvs, rfl, hd, q⟩ := hq
  exact ⟨d, o, rfl, .inl ⟨kvs, hd, _, _, _, src_k, q⟩⟩
theorem wi_r1 (g : Gd B lv sc N vm sm gs X) (hx : ("range" : Str) ∈ gs) (hm : B.mg "range" = none) (h : WE X e σ H fun x H1 => ∃ j : Int, x = .int j ∧ -(2 ^ 62) ≤ j ∧ j < 2 ^ 62 ∧ R j.toNat okT (yR 0 1) H1) (hs : starEach [e] X.env = [(false, eval e X.env)] := by rfl) : WIS X tg (.Call (.Name "range" p) [e] [] pos) σ H R := by
  refine ⟨⟨_, pi_range1 (g.glo hx) (by rw [g.eg]; exact hm) p_a hs, wa_cons (we_mono h fun x H1 hq => wa_nil ?_) hs⟩⟩
  obtain ⟨j, rfl, h1, h2, q⟩ := hq
  exact ⟨j, rfl, h1, h2, _, _, _, src_r, q⟩
theorem wi_r2 (g : Gd B lv sc N vm sm gs X) (hx : ("range" : Str) ∈ gs) (hm : B.mg "range" = none) (h : WE X e σ H fun x H1 => WE X e2 σ H1 fun y H2 => ∃ i j : Int, x = .int i ∧ y = .int j ∧ (-(2 ^ 62) ≤ i ∧ i < 2 ^ 62 ∧ -(2 ^ 62) ≤ j ∧ j < 2 ^ 62) ∧ R (j - i).toNat okT (yR i 1) H2)
    (hs : starEach [e, e2] X.env = [(false, eval e X.env), (false, eval e2 X.env)] := by rfl) (hs2 : starEach [e2] X.env = [(false, eval e2 X.env)] := by rfl) : WIS X tg (.Call (.Name "range" p) [e, e2] [] pos) σ H R := by
  refine ⟨⟨_, pi_range2 (g.glo hx) (by rw [g.eg]; exact hm) p_a hs hs2, wa_cons (we_mono h fun x H1 hq => wa_cons (we_mono hq fun y H2 hq => wa_nil ?_) hs2) (by rw [hs, hs2])⟩⟩
  obtain ⟨i, j, rfl, rfl, h1, q⟩ := hq
  exact ⟨i, j, rfl, h1, _, _, _, src_r, q⟩
theorem wi_r3 (g : Gd B lv sc N vm sm gs X) {e3 : Expr} (hx : ("range" : Str) ∈ gs) (hm : B.mg "range" = none) (h : WA X [e, e2, e3] σ H fun vs H1 => ∃ i j : Int, vs = [.int i, .int j, .int (-1)] ∧ (-(2 ^ 62) ≤ i ∧ i < 2 ^ 62 ∧ -(2 ^ 62) ≤ j ∧ j < 2 ^ 62) ∧ R (i - j).toNat okT (yR i (-1)) H1)
    (hs : starEach [e, e2, e3] X.env = (false, eval e X.env) :: starEach [e2, e3] X.env := by rfl) (hpl : (backTo pos (starEach [e2, e3] X.env)).any (·.1) = false := by rfl) : WIS X tg (.Call (.Name "range" p) [e, e2, e3] [] pos) σ H R := by
  refine ⟨⟨_, pi_range3 (g.glo hx) (by rw [g.eg]; exact hm) p_a hs hpl, wa_mono h fun vs H1 hq => ?_⟩⟩
  obtain ⟨i, j, rfl, ⟨h1, h2, h3, h4⟩, q⟩ := hq
  exact ⟨i, j, -1, (i - j).toNat, rfl, RgC.neg h1 h2 h3 h4, _, _, _, src_c, q⟩
theorem wi_e (g : Gd B lv sc N vm sm gs X) (hx : ("enumerate" : Str) ∈ gs) (hm : B.mg "enumerate" = none) (h : WE X e σ H fun x H1 => ∃ a xs, x = .ref a ∧ SqL B.K H1 a xs ∧ R xs.length (fun H => SqL B.K H a xs) (yE xs) H1)
    (hs : starEach [e] X.env = [(false, eval e X.env)] := by rfl) : WIS X (.Tuple elts kk tpos) (.Call (.Name "enumerate" p) [e] [] pos) σ H R := by
  refine ⟨⟨_, pi_enum (g.glo hx) (by rw [g.eg]; exact hm) p_a hs, wa_cons (we_mono h fun x H1 hq => wa_nil ?_) hs⟩⟩
  obtain ⟨a, xs, rfl, h1, q⟩ := hq
  rw [← g.eK] at h1 q
  exact ⟨a, xs, rfl, h1, _, _, _, src_e, q⟩
theorem wi_z (g : Gd B lv sc N vm sm gs X) (hx : ("zip" : Str) ∈ gs) (hm : B.mg "zip" = none) (h : WA X [e, e2] σ H fun vs H1 => ∃ a b xs ys, vs = [.ref a, .ref b] ∧ SqL B.K H1 a xs ∧ SqL B.K H1 b ys ∧ xs.length = ys.length ∧ R xs.length (fun H => SqL B.K H a xs ∧ SqL B.K H b ys) (yZ xs ys) H1)
    (hs : starEach [e, e2] X.env = (false, eval e X.env) :: starEach [e2] X.env := by rfl) (hpl : (backTo pos (starEach [e2] X.env)).any (·.1) = false := by rfl) : WIS X (.Tuple elts kk tpos) (.Call (.Name "zip" p) [e, e2] [] pos) σ H R := by
  refine ⟨⟨_, pi_zip (g.glo hx) (by rw [g.eg]; exact hm) p_a hs hpl, wa_mono h fun vs H1 hq => ?_⟩⟩
  obtain ⟨a, b, xs, ys, rfl, h1, h2, hl, q⟩ := hq
  rw [← g.eK] at h1 h2 q
  exact ⟨a, b, xs, ys, rfl, h1, h2, _, _, _, src_z hl, q⟩
theorem we_fldB (g : Gd B lv sc N vm sm gs X) {f : Str} (h : WE X e σ H fun x H1 => ∃ a C dx fs v, x = .ref a ∧ H1 a = some (.ins C dx fs) ∧ Cls B.K C ∧ NoAttr B.K C f ∧ fs.lookup f = some v ∧ Q v H1) (hb : attributeBase e f X.env (eval e X.env) = eval e X.env := by rfl) : WE X (.Attribute e f pos) σ H Q := by
  refine we_fld ?_ hb
  rw [g.eK]
  exact h
theorem ws_fldS (g : Gd B lv sc N vm sm gs X) {f : Str} {o : Expr} {D : Ends} {pos' : Pos} (h : WE X e σ H fun y H1 => ∃ x K dx fs m G, (WE X o σ H1 fun z H2 => z = .ref x ∧ H1 = H2) ∧ Hs B ((x, .ins K dx fs) :: m) G H1 ∧ Cls B.K K ∧ NoAttr B.K K f ∧ fs.length < 1000 ∧ ∀ H', Hs B ((x, .ins K dx (putF f y fs)) :: m) G H' → D.nx σ H')
    (hs : swapsWith e (some (.Attribute o f pos')) pos.line X.env = pure false := by rfl) : WS X (.Assign [.Attribute o f pos'] e pos) D σ H := by
  refine ws_fld g (we_mono h fun y H1 hq => ?_) hs
  obtain ⟨x, K, dx, fs, m, G, hw, hS, hc, hn, hl, k⟩ := hq
  refine we_mono hw fun z H2 e12 => ?_
  obtain ⟨e1, e2⟩ := e12
  subst e1 e2
  exact ⟨x, K, dx, fs, rfl, hS.a0, hc, hn, hl, k _ (hS.set rfl)⟩
theorem ws_ifV {c : Expr} {as bs : List Stmt} {D : Ends} (b : Bool) (P : Hp → Prop) (h : WT X c σ H fun k H1 => k = b ∧ P H1) (hT : b = true → ∀ H1, P H1 → WSs X as D σ H1) (hF : b = false → ∀ H1, P H1 → WSs X bs D σ H1) : WS X (.If c as bs pos) D σ H := by
  refine ws_if (wt_mono h fun k H1 hk => ?_)
  obtain ⟨e, p⟩ := hk
  subst e
  cases k with
  | true => exact iteT (hT rfl H1 p)
  | false => exact iteF (hF rfl H1 p)
theorem ws_ifF {c : Expr} {as bs : List Stmt} {D : Ends} (P : Hp → Prop) (h : WT X c σ H fun k H1 => k = false ∧ P H1) (hF : ∀ H1, P H1 → WSs X bs D σ H1) : WS X (.If c as bs pos) D σ H :=
  ws_ifV false P h (fun e => by cases e) fun _ => hF
theorem ws_ifT {c : Expr} {as bs : List Stmt} {D : Ends} (P : Hp → Prop) (h : WT X c σ H fun k H1 => k = true ∧ P H1) (hT : ∀ H1, P H1 → WSs X as D σ H1) : WS X (.If c as bs pos) D σ H :=
  ws_ifV true P h (fun _ => hT) fun e => by cases e
theorem ws_mono {st : Stmt} {D D' : Ends} (h : WS X st D σ H) (k1 : ∀ σ' H', D.nx σ' H' → D'.nx σ' H') (k2 : ∀ v H', D.rt v H' → D'.rt v H') (k3 : ∀ σ' H', D.bk σ' H' → D'.bk σ' H') (k4 : ∀ σ' H', D.ct σ' H' → D'.ct σ' H') : WS X st D' σ H := by
  obtain ⟨t, ht, q⟩ := h
  refine ⟨fun D' σ H => ∃ D : Ends, t D σ H ∧ (∀ σ' H', D.nx σ' H' → D'.nx σ' H') ∧ (∀ v H', D.rt v H' → D'.rt v H') ∧ (∀ σ' H', D.bk σ' H' → D'.bk σ' H') ∧ ∀ σ' H', D.ct σ' H' → D'.ct σ' H', ⟨fun pins s σ H D' I hw => ?_⟩, D, q, k1, k2, k3, k4⟩
  obtain ⟨D, hw, k1, k2, k3, k4⟩ := hw
  refine thn (ht.run pins s σ H D I hw) fun f s1 hf => ?_
  cases f with
  | next => exact let ⟨σ', H', I1, q⟩ := hf; ⟨σ', H', I1, k1 _ _ q⟩
  | brk => exact let ⟨σ', H', I1, q⟩ := hf; ⟨σ', H', I1, k3 _ _ q⟩
  | cont => exact let ⟨σ', H', I1, q⟩ := hf; ⟨σ', H', I1, k4 _ _ q⟩
  | ret u => exact let ⟨v, σ', H', I1, r, q⟩ := hf; ⟨v, σ', H', I1, r, k2 _ _ q⟩
/-- first what stands behind the statement -/
theorem wss_cut {st : Stmt} {sts : List Stmt} {D : Ends} (P : L2.St → Hp → Prop) (h : WS X st { D with nx := P } σ H) (k : ∀ σ' H', P σ' H' → WSs X sts D σ' H') : WSs X (st :: sts) D σ H :=
  wss_cons (ws_mono h k (fun _ _ q => q) (fun _ _ q => q) fun _ _ q => q)
/-! ### for -/
/-- I: what stands ahead of turn i -/
def ForB (X : Cx) (tg : Expr) (body : List Stmt) (D : Ends) (σ : L2.St) (n : Nat) (ok : Hp → Prop) (Y : Nat → Hp → V → Hp → Prop) (H1 : Hp) : Prop :=
  ∃ I : Nat → L2.St → Hp → Prop, I 0 σ H1 ∧ (∀ i σ' H', i ≤ n → I i σ' H' → ok H') ∧
    (∀ i x σ' H' H'', i < n → I i σ' H' → Y i H' x H'' → WG X tg x σ' H'' fun σ2 H2 => WSs X body { D with nx := I (i + 1), ct := I (i + 1), bk := D.nx } σ2 H2) ∧ ∀ σ' H', I n σ' H' → D.nx σ' H'
theorem ws_forS (g : Gd B lv sc N vm sm gs X) {body : List Stmt} {D : Ends} (h : WIS X tg e σ H (ForB X tg body D σ))
    (hs : ∀ x, foldedSetIterable e X.env x = pure x := by exact fun _ => rfl) : WS X (.For tg e body [] pos) D σ H := by
  refine ws_for g ?_ hs
  obtain ⟨t, ht, q⟩ := h.ex
  refine ⟨fun σ H R => ∃ R' : It → Hp → Prop, t σ H R' ∧ ∀ J H1, R' J H1 → R J H1, ⟨fun pins s σ H R I hw => ?_⟩, _, q, fun J H1 hq => ?_⟩
  · obtain ⟨R', hw, k⟩ := hw
    refine thn (ht.run pins s σ H R' I hw) fun v s1 hv => thn hv fun itv s2 h2 => ?_
    obtain ⟨it, fp, tn, J, H', e1, e2, e3, e4, e5, e6⟩ := h2
    exact ⟨it, fp, tn, J, H', e1, e2, e3, e4, e5, k J H' e6⟩
  obtain ⟨n, ok, Y, S, I, h0, hok, hst, hend⟩ := hq
  refine ⟨fun i m σ H => m = n - i ∧ i ≤ n ∧ I i σ H, ⟨n, rfl, Nat.zero_le _, h0⟩, ?_⟩
  rintro i m σ' H' ⟨rfl, hi, p⟩
  have q := hok i σ' H' hi p
  by_cases hlt : i < n
  · refine .inr ⟨S.go i H' hlt q, I (i + 1), fun σ2 H2 p' => ⟨n - (i + 1), by omega, rfl, hlt, p'⟩, fun x H2 hy => hst i x σ' H' H2 hlt p (S.y i H' x H2 hlt q hy)⟩
  · have e : i = n := by omega
    rw [e] at p ⊢
    exact .inl ⟨S.stop H' q, hend σ' H' p⟩
end
/-! ### list comprehensions -/
inductive Fa {T : Type} (R : V → T → Prop) : List V → List T → Prop
  | nil : Fa R [] []
  | cons {x t xs ts} : R x t → Fa R xs ts → Fa R (x :: xs) (t :: ts)
namespace Fa
variable {T : Type} {R R' : V → T → Prop} {xs ys : List V} {ts us : List T}
theorem length (h : Fa R xs ts) : xs.length = ts.length := by
  induction h with
  | nil => rfl
  | cons _ _ ih => simp [ih]
theorem append (h : Fa R xs ts) (h2 : Fa R ys us) : Fa R (xs ++ ys) (ts ++ us) := by
  induction h with
  | nil => exact h2
  | cons a _ ih => exact .cons a ih
theorem mono (h : Fa R xs ts) (k : ∀ x t, R x t → R' x t) : Fa R' xs ts := by
  induction h with
  | nil => exact .nil
  | cons a _ ih => exact .cons (k _ _ a) ih
theorem get (h : Fa R xs ts) : ∀ {i : Nat} {t : T}, ts[i]? = some t → ∃ x, xs[i]? = some x ∧ R x t := by
  induction h with
  | nil => intro i t e; cases e
  | cons a _ ih =>
    intro i t e
    cases i with
    | zero => simp at e; subst e; exact ⟨_, rfl, a⟩
    | succ i => simp only [List.getElem?_cons_succ] at e ⊢; exact ih e
theorem get' (h : Fa R xs ts) {i : Nat} {x : V} (e : xs[i]? = some x) : ∃ t, ts[i]? = some t ∧ R x t := by
  have hi : i < ts.length := by rw [← h.length]; exact (List.getElem?_eq_some_iff.mp e).1
  obtain ⟨y, e', r⟩ := h.get (List.getElem?_eq_getElem hi)
  rw [e] at e'; cases e'
  exact ⟨_, List.getElem?_eq_getElem hi, r⟩
theorem map {f : T → V} (h : Fa (fun v t => v = f t) xs ts) : xs = ts.map f := by
  induction h with
  | nil => rfl
  | cons a _ ih => rw [a, ih]; rfl
theorem eqs {us : List V} (h : Fa (fun v t => v = t) xs us) : xs = us := by
  rw [h.map (f := fun t => t), List.map_id']
theorem of_map {f : T → V} : ∀ ts : List T, Fa (fun v t => v = f t) (ts.map f) ts
  | [] => .nil
  | t :: ts => .cons rfl (of_map ts)
end Fa
def chkB (N : List Str) (vm sm : List Bool) (gs : List Str) (own : List (Str × Nat)) (sc scope : Scope) : Bool :=
  blkC N sc scope own && (((N.zip vm).all fun p => !p.2 || visB (relS scope sc) p.1) && (((N.zip sm).all fun p => !p.2 || ownB (relS scope sc) p.1) && gs.all (gloB (relS scope sc))))
theorem zip_at {N : List Str} {vm : List Bool} {f : Str → Bool} (h : ((N.zip vm).all fun p => !p.2 || f p.1) = true) {i : Nat} {x : Str} (hi : N[i]? = some x) (hv : vm[i]? = some true) : f x = true := by
  have hz : (N.zip vm)[i]? = some (x, true) := by
    rw [List.getElem?_zip_eq_some]
    exact ⟨hi, hv⟩
  have := List.all_eq_true.mp h _ (List.mem_of_getElem? hz)
  simpa using this
section
variable {X : Cx} {B : Bs} {lv : Nat} {sc : Scope} {vm sm : List Bool} {gs : List Str} {N : List Str} {σ : L2.St} {H : Hp} {Q : VK} {D : Ends} {tg e elt : Expr} {ifs : List Expr} {pos py spos : Pos} {scope : Scope} {y : Str}
theorem gd_blk (g : Gd B lv sc N vm sm gs X) {own : List (Str × Nat)} {vm' sm' : List Bool} {gs' : List Str} (hb : chkB N vm' sm' gs' own sc scope = true) (s : Shared) (H : Hp) (C : Addr) (cl : List (Str × Addr)) (fp : List Addr) :
    Gd B lv (relS scope sc) N vm' sm' gs' (X.blk s H scope (compEnvC scope cl C X.env) fp) := by
  unfold chkB at hb
  rw [Bool.and_eq_true, Bool.and_eq_true, Bool.and_eq_true] at hb
  obtain ⟨_, h1, h2, h3⟩ := hb
  refine ⟨g.eP, g.ew, g.eK, g.eg, g.eb, g.eN, ?_, g.nd, fun i x hi hv => visB_ok (zip_at h1 hi hv), fun i x hi hv => ?_, fun x hx => gloB_ok (List.all_eq_true.mp h3 x hx), g.calm, g.room, rfl⟩
  · show relS scope X.env.scope = _
    rw [g.es]
  · have := ownB_ok (zip_at h2 hi hv)
    exact ⟨.inl this, .inr this⟩
def LcT (Z : Cx) (ifs : List Expr) (σ : L2.St) (H : Hp) (K : Bool → Hp → Prop) : Prop :=
  match ifs with
  | [] => K true H
  | [c] => WT Z c σ H K
  | _ => False
theorem tr_bl {K : PySem.W.Frag} {b : Bool} {H : Hp} {QB : Bool → Prop} (h : QB b) : ∃ k, TruV K (.bl b) H k ∧ QB k := ⟨b, rfl, h⟩
theorem lct_nil {Z : Cx} {σ : L2.St} {H : Hp} {K : Bool → Hp → Prop} (h : K true H) : LcT Z [] σ H K := h
theorem lct_one {Z : Cx} {c : Expr} {σ : L2.St} {H : Hp} {K : Bool → Hp → Prop} (h : WT Z c σ H K) : LcT Z [c] σ H K := h
/-- what the block does at each turn -/
def LcB (B : Bs) (lv : Nat) (sc : Scope) (N : List Str) (vm sm : List Bool) (gs : List Str) (tg elt : Expr) (ifs : List Expr) (ws : List Nat) (σ : L2.St) (Q : VK) (n : Nat) (ok : Hp → Prop) (Y : Nat → Hp → V → Hp → Prop) (H1 : Hp) : Prop :=
  ∃ (S T : Type) (src : List S) (f : S → Option T) (R : Hp → V → T → Prop) (M : Nat → List (Addr × HO) → Prop) (m : List (Addr × HO)) (G : Hp),
    (∀ G G' v t, Same G G' → R G v t → R G' v t) ∧ src.length = n ∧ n ≤ sizeLine ∧ Hs B m G H1 ∧ M 0 m ∧
    (∀ i D m' G' vs H', i ≤ n → Same G G' → M i m' → Hs B ((D, .lst vs) :: m') G' H' → ok H') ∧
    (∀ i s D m' G' vs H' x H'', src[i]? = some s → Same G G' → M i m' → Hs B ((D, .lst vs) :: m') G' H' → Y i H' x H'' →
      ∀ Z, Gd B lv sc N vm sm gs Z → WG Z tg x (wipe σ ws) H'' fun σ2 H2 => wipe σ2 ws = wipe σ ws ∧ ∀ Z, Gd B lv sc N vm sm gs Z →
        LcT Z ifs σ2 H2 fun b H3 => if b = true then ∀ Z, Gd B lv sc N vm sm gs Z → WE Z elt σ2 H3 fun y H4 => ∃ t m'' G'', f s = some t ∧ Same G' G'' ∧ M (i + 1) m'' ∧ Hs B ((D, .lst vs) :: m'') G'' H4 ∧ R G'' y t
          else f s = none ∧ ∃ m'' G'', Same G' G'' ∧ M (i + 1) m'' ∧ Hs B ((D, .lst vs) :: m'') G'' H3) ∧
    ∀ D m' G' vs H', Same G G' → M n m' → Hs B ((D, .lst vs) :: m') G' H' → Fa (R G') vs (src.filterMap f) → Q (.ref D) H'
theorem filt_len {S T : Type} (f : S → Option T) : ∀ (l : List S) (i : Nat), ((l.take i).filterMap f).length ≤ i
  | _, 0 => by simp
  | [], i + 1 => by simp
  | a :: l, i + 1 => by
    rw [List.take_succ_cons, List.filterMap_cons]
    have := filt_len f l i
    cases f a with
    | none => exact Nat.le_succ_of_le this
    | some b => exact Nat.succ_le_succ this
theorem filt_succ {S T : Type} (f : S → Option T) {l : List S} {i : Nat} {s : S} (h : l[i]? = some s) : (l.take (i + 1)).filterMap f = (l.take i).filterMap f ++ (f s).toList := by
  rw [List.take_add_one, h, List.filterMap_append]
  cases hf : f s with
  | none => simp [hf]
  | some t => simp [hf]
theorem lc_tt (J : It) {n : Nat} {ok : Hp → Prop} {Y : Nat → Hp → V → Hp → Prop} {sc' : Scope} {vm' sm' : List Bool} {gs' : List Str} {ws : List Nat} {H1 : Hp} {tt : TT} (S : Src J n ok Y) (h : LcB B lv sc' N vm' sm' gs' tg elt ifs ws σ Q n ok Y H1)
    (htt : (ifs = [] ∧ tt = tYes) ∨ ∃ c, ifs = [c] ∧ tt = fun σ H Q => ∀ Z, Gd B lv sc' N vm' sm' gs' Z → WT Z c σ H Q) (hz : ∃ Z, Gd B lv sc' N vm' sm' gs' Z) :
    ∀ D, H1 D = none → ∃ W : Nat → Nat → Hp → Prop, (∃ m, W 0 m (upd H1 D (.lst []))) ∧ ∀ i m H, W i m H →
      (J.stop i H ∧ Q (.ref D) H) ∨ (J.go i H ∧ ∃ Nx : Hp → Prop, (∀ H', Nx H' → ∃ m', m' < m ∧ W (i + 1) m' H') ∧ ∀ x H', J.yld i H x H' → (∀ Z, Gd B lv sc' N vm' sm' gs' Z → WG Z tg x (wipe σ ws) H' fun σ2 H2 => wipe σ2 ws = wipe σ ws ∧ tt σ2 H2 fun b H3 =>
        if b = true then ∀ Z, Gd B lv sc' N vm' sm' gs' Z → WE Z elt σ2 H3 fun y H4 => ∃ acc, H4 D = some (.lst acc) ∧ acc.length < sizeLine ∧ Nx (upd H4 D (.lst (acc ++ [y]))) else Nx H3)) := by
  intro D hD
  obtain ⟨S0, T0, src, f, R, M, m, G, hR, hn, hsz, hS, hM, hok, hst, hend⟩ := h
  refine ⟨fun i k H => k = n - i ∧ i ≤ n ∧ ∃ m' G' vs, Same G G' ∧ M i m' ∧ Hs B ((D, .lst vs) :: m') G' H ∧ Fa (R G') vs ((src.take i).filterMap f), ⟨n, rfl, Nat.zero_le _, m, G, [], Same.refl _, hM, hS.new hD rfl, .nil⟩, ?_⟩
  rintro i k H2 ⟨rfl, hi, m', G', vs, e1, e2, e3, e4⟩
  have hq := hok i D m' G' vs H2 hi e1 e2 e3
  by_cases hlt : i < n
  · obtain ⟨s, hs⟩ : ∃ s, src[i]? = some s := ⟨src[i]'(hn ▸ hlt), List.getElem?_eq_getElem (hn ▸ hlt)⟩
    refine .inr ⟨S.go i H2 hlt hq, fun H => i + 1 ≤ n ∧ ∃ m' G' vs, Same G G' ∧ M (i + 1) m' ∧ Hs B ((D, .lst vs) :: m') G' H ∧ Fa (R G') vs ((src.take (i + 1)).filterMap f), fun H' nx => ⟨n - (i + 1), by omega, rfl, nx⟩, fun x H' hy Z gZ => ?_⟩
    obtain ⟨t, ht, q⟩ := hst i s D m' G' vs H2 x H' hs e1 e2 e3 (S.y i H2 x H' hlt hq hy) Z gZ
    refine ⟨fun v σ H Q' => ∃ Q'' : L2.St → Hp → Prop, t v σ H Q'' ∧ ∀ σ2 H2, Q'' σ2 H2 → Q' σ2 H2, ⟨fun pins s σ H v u Q' I r hw => ?_⟩, _, q, fun σ2 H3 hq2 => ?_⟩
    · obtain ⟨Q'', hw, kk⟩ := hw
      exact thn (ht.run pins s σ H v u Q'' I r hw) fun _ s1 hv => let ⟨σ2, H3, I1, q1⟩ := hv; ⟨σ2, H3, I1, kk σ2 H3 q1⟩
    obtain ⟨hw, hq3⟩ := hq2
    refine ⟨hw, ?_⟩
    have step : ∀ b H4, (if b = true then ∀ Z, Gd B lv sc' N vm' sm' gs' Z → WE Z elt σ2 H4 fun y H5 => ∃ t m'' G'', f s = some t ∧ Same G' G'' ∧ M (i + 1) m'' ∧ Hs B ((D, .lst vs) :: m'') G'' H5 ∧ R G'' y t
          else f s = none ∧ ∃ m'' G'', Same G' G'' ∧ M (i + 1) m'' ∧ Hs B ((D, .lst vs) :: m'') G'' H4) → if b = true then ∀ Z, Gd B lv sc' N vm' sm' gs' Z → WE Z elt σ2 H4 fun y H5 => ∃ acc, H5 D = some (.lst acc) ∧ acc.length < sizeLine ∧ (i + 1 ≤ n ∧ ∃ m' G' vs, Same G G' ∧ M (i + 1) m' ∧ Hs B ((D, .lst vs) :: m') G' (upd H5 D (.lst (acc ++ [y]))) ∧ Fa (R G') vs ((src.take (i + 1)).filterMap f))
          else i + 1 ≤ n ∧ ∃ m' G' vs, Same G G' ∧ M (i + 1) m' ∧ Hs B ((D, .lst vs) :: m') G' H4 ∧ Fa (R G') vs ((src.take (i + 1)).filterMap f) := by
      intro b H4 hb
      cases b with
      | true =>
        simp only [if_true] at hb ⊢
        intro Z gZ
        refine we_mono (hb Z gZ) fun yv H5 hy5 => ?_
        obtain ⟨t5, m5, G5, hf, k1, k2, k3, k4⟩ := hy5
        refine ⟨vs, k3.a0, ?_, hlt, m5, G5, vs ++ [yv], e1.trans k1, k2, k3.set rfl, ?_⟩
        · rw [e4.length]
          exact Nat.lt_of_le_of_lt (filt_len f src i) (Nat.lt_of_lt_of_le hlt hsz)
        · rw [filt_succ f hs, hf]
          exact (e4.mono fun v t r => hR _ _ v t k1 r).append (.cons k4 .nil)
      | false =>
        simp only [Bool.false_eq_true, if_false] at hb ⊢
        obtain ⟨hf, m5, G5, k1, k2, k3⟩ := hb
        refine ⟨hlt, m5, G5, vs, e1.trans k1, k2, k3, ?_⟩
        rw [filt_succ f hs, hf]
        simpa using e4.mono fun v t r => hR _ _ v t k1 r
    rcases htt with ⟨ei, et⟩ | ⟨c, ei, et⟩
    · subst ei et
      obtain ⟨Z0, gZ0⟩ := hz
      exact step true H3 (hq3 Z0 gZ0)
    · subst ei et
      intro Z gZ
      exact wt_mono (hq3 Z gZ) step
  · have e : i = n := by omega
    subst e
    refine .inl ⟨S.stop H2 hq, hend D m' G' vs H2 e1 e2 e3 ?_⟩
    rw [List.take_of_length_le (by omega)] at e4
    exact e4
theorem we_lc (g : Gd B lv sc N vm sm gs X) (own : List (Str × Nat)) (vm' sm' : List Bool) (gs' : List Str) (hb : chkB N vm' sm' gs' own sc scope = true) (hif : ifs.length ≤ 1) (h : WIS X tg e σ H (LcB B lv (relS scope sc) N vm' sm' gs' tg elt ifs (own.map (·.2)) σ Q))
    (hs : ∀ x, foldedSetIterable e X.env x = pure x := by exact fun _ => rfl) : WE X (.ListComp elt [⟨tg, e, ifs, 0⟩] scope pos) σ H Q := by
  have ok : BlkOk X.N X.env.scope scope own := by
    rw [g.eN, g.es]
    exact blkOk_by (by unfold chkB at hb; rw [Bool.and_eq_true] at hb; exact hb.1)
  have gB := gd_blk g hb
  obtain ⟨tt, htt, pt⟩ : ∃ tt : TT, ((ifs = [] ∧ tt = tYes) ∨ ∃ c, ifs = [c] ∧ tt = fun σ H Q => ∀ Z, Gd B lv (relS scope sc) N vm' sm' gs' Z → WT Z c σ H Q) ∧ ∀ (s : Shared) (H : Hp) (C : Addr) (cl : List (Str × Addr)) (fp : List Addr), PTs (X.blk s H scope (compEnvC scope cl C X.env) fp) ifs tt := by
    match ifs, hif with
    | [], _ => exact ⟨_, .inl ⟨rfl, rfl⟩, fun _ _ _ _ _ => pts_nil⟩
    | [c], _ => exact ⟨_, .inr ⟨c, rfl, rfl⟩, fun s H C cl fp => pts_one ⟨fun pins s' σ H Q I hw => p_t.run pins s' σ H Q I (hw _ (gB s _ C cl fp))⟩⟩
  refine ⟨_, pe_lc (wi := fun σ H R => WI X tg e σ H R) (g := fun v σ H Q => ∀ Z, Gd B lv (relS scope sc) N vm' sm' gs' Z → WG Z tg v σ H Q) (tt := tt) (te := fun σ H Q => ∀ Z, Gd B lv (relS scope sc) N vm' sm' gs' Z → WE Z elt σ H Q) g.calm (by rw [g.eN]; exact g.nd) p_i ok
    (fun s H C cl fp => ⟨fun pins s' σ H v u Q I r hw => p_g.run pins s' σ H v u Q I r (hw _ (gB s _ C cl fp))⟩) pt (fun s H C cl fp => ⟨fun pins s' σ H Q I hw => p_e.run pins s' σ H Q I (hw _ (gB s _ C cl fp))⟩) hs, ?_⟩
  obtain ⟨t, ht, q⟩ := h.ex
  refine ⟨fun σ H R => ∃ R' : It → Hp → Prop, t σ H R' ∧ ∀ J H1, R' J H1 → R J H1, ⟨fun pins s σ H R I hw => ?_⟩, _, q, fun J H1 hq => ?_⟩
  · obtain ⟨R', hw, k⟩ := hw
    refine thn (ht.run pins s σ H R' I hw) fun v s1 hv => thn hv fun itv s2 h2 => ?_
    obtain ⟨it, fp, tn, J, H', e1, e2, e3, e4, e5, e6⟩ := h2
    exact ⟨it, fp, tn, J, H', e1, e2, e3, e4, e5, k J H' e6⟩
  · obtain ⟨n, ok', Y, S, hq⟩ := hq
    exact lc_tt J S hq htt ⟨_, gB X.s_0 H 0 [] []⟩
theorem ws_lc (g : Gd B lv sc N vm sm gs X) (i : Nat) (own : List (Str × Nat)) (vm' sm' : List Bool) (gs' : List Str) (hN : N[i]? = some y) (hsw : swapsWith (.ListComp elt [⟨tg, e, ifs, 0⟩] scope pos) (some (.Name y py)) spos.line X.env = pure true) (hyl : ownB sc y = true) (hb : chkB N vm' sm' gs' own sc scope = true) (hif : ifs.length ≤ 1)
    (h : WIS X tg e σ H (LcB B lv (relS scope sc) N vm' sm' gs' tg elt ifs (own.map (·.2)) σ fun x H1 => D.nx (σ.set i (some x)) H1))
    (hs : ∀ x, foldedSetIterable e X.env x = pure x := by exact fun _ => rfl) : WS X (.Assign [.Name y py] (.ListComp elt [⟨tg, e, ifs, 0⟩] scope pos) spos) D σ H := by
  have ok : BlkOk X.N X.env.scope scope own := by
    rw [g.eN, g.es]
    exact blkOk_by (by unfold chkB at hb; rw [Bool.and_eq_true] at hb; exact hb.1)
  have gB := gd_blk g hb
  obtain ⟨tt, htt, pt⟩ : ∃ tt : TT, ((ifs = [] ∧ tt = tYes) ∨ ∃ c, ifs = [c] ∧ tt = fun σ H Q => ∀ Z, Gd B lv (relS scope sc) N vm' sm' gs' Z → WT Z c σ H Q) ∧ ∀ (s : Shared) (H : Hp) (C : Addr) (cl : List (Str × Addr)) (fp : List Addr), PTs (X.blk s H scope (compEnvC scope cl C X.env) fp) ifs tt := by
    match ifs, hif with
    | [], _ => exact ⟨_, .inl ⟨rfl, rfl⟩, fun _ _ _ _ _ => pts_nil⟩
    | [c], _ => exact ⟨_, .inr ⟨c, rfl, rfl⟩, fun s H C cl fp => pts_one ⟨fun pins s' σ H Q I hw => p_t.run pins s' σ H Q I (hw _ (gB s _ C cl fp))⟩⟩
  refine ⟨_, ps_setLc (i := i) (wi := fun σ H R => WI X tg e σ H R) (g := fun v σ H Q => ∀ Z, Gd B lv (relS scope sc) N vm' sm' gs' Z → WG Z tg v σ H Q) (tt := tt) (te := fun σ H Q => ∀ Z, Gd B lv (relS scope sc) N vm' sm' gs' Z → WE Z elt σ H Q) g.calm (by rw [g.eN]; exact g.nd) (by rw [g.eN]; exact hN) (by rw [g.es]; exact ownB_ok hyl) hsw p_i ok
    (fun s H C cl fp => ⟨fun pins s' σ H v u Q I r hw => p_g.run pins s' σ H v u Q I r (hw _ (gB s _ C cl fp))⟩) pt (fun s H C cl fp => ⟨fun pins s' σ H Q I hw => p_e.run pins s' σ H Q I (hw _ (gB s _ C cl fp))⟩) hs, ?_⟩
  show WI X tg e σ H _
  obtain ⟨t, ht, q⟩ := h.ex
  refine ⟨fun σ H R => ∃ R' : It → Hp → Prop, t σ H R' ∧ ∀ J H1, R' J H1 → R J H1, ⟨fun pins s σ H R I hw => ?_⟩, _, q, fun J H1 hq => ?_⟩
  · obtain ⟨R', hw, k⟩ := hw
    refine thn (ht.run pins s σ H R' I hw) fun v s1 hv => thn hv fun itv s2 h2 => ?_
    obtain ⟨it, fp, tn, J, H', e1, e2, e3, e4, e5, e6⟩ := h2
    exact ⟨it, fp, tn, J, H', e1, e2, e3, e4, e5, k J H' e6⟩
  · obtain ⟨n, ok', Y, S, hq⟩ := hq
    exact lc_tt J S hq htt ⟨_, gB X.s_0 H 0 [] []⟩
/-- elements that need no heap -/
theorem lcb_v {lv : Nat} {sc : Scope} {N : List Str} {vm sm : List Bool} {gs : List Str} {ws : List Nat} {n : Nat} {ok : Hp → Prop} {Y : Nat → Hp → V → Hp → Prop} {H1 G : Hp} {m : List (Addr × HO)} {S : Type} (src : List S) (f : S → Option V) (hS : Hs B m G H1) (hn : src.length = n) (hsz : n ≤ sizeLine)
    (hok : ∀ D G' vs H', Same G G' → Hs B ((D, .lst vs) :: m) G' H' → ok H')
    (hst : ∀ i s D G' vs H' x H'', src[i]? = some s → Same G G' → Hs B ((D, .lst vs) :: m) G' H' → Y i H' x H'' → ∀ Z, Gd B lv sc N vm sm gs Z → WG Z tg x (wipe σ ws) H'' fun σ2 H2 => wipe σ2 ws = wipe σ ws ∧ ∀ Z, Gd B lv sc N vm sm gs Z →
      LcT Z ifs σ2 H2 fun b H3 => if b = true then ∀ Z, Gd B lv sc N vm sm gs Z → WE Z elt σ2 H3 fun y H4 => f s = some y ∧ ∃ G'', Same G' G'' ∧ Hs B ((D, .lst vs) :: m) G'' H4 else f s = none ∧ ∃ G'', Same G' G'' ∧ Hs B ((D, .lst vs) :: m) G'' H3)
    (hend : ∀ D G' H', Same G G' → Hs B ((D, .lst (src.filterMap f)) :: m) G' H' → Q (.ref D) H') : LcB B lv sc N vm sm gs tg elt ifs ws σ Q n ok Y H1 := by
  refine ⟨S, V, src, f, fun _ v t => v = t, fun _ m' => m' = m, m, G, fun _ _ _ _ _ h => h, hn, hsz, hS, rfl, fun i D m' G' vs H' _ e1 e2 e3 => ?_, fun i s D m' G' vs H' x H'' hs e1 e2 e3 hy Z gZ => ?_, fun D m' G' vs H' e1 e2 e3 e4 => ?_⟩
  · subst e2
    exact hok D G' vs H' e1 e3
  · subst e2
    obtain ⟨t, ht, q⟩ := hst i s D G' vs H' x H'' hs e1 e3 hy Z gZ
    refine ⟨fun v σ H Q' => ∃ Q'' : L2.St → Hp → Prop, t v σ H Q'' ∧ ∀ σ2 H2, Q'' σ2 H2 → Q' σ2 H2, ⟨fun pins s σ H v u Q' I r hw => ?_⟩, _, q, fun σ2 H3 hq2 => ⟨hq2.1, fun Z gZ => ?_⟩⟩
    · obtain ⟨Q'', hw, kk⟩ := hw
      exact thn (ht.run pins s σ H v u Q'' I r hw) fun _ s1 hv => let ⟨σ2, H3, I1, q1⟩ := hv; ⟨σ2, H3, I1, kk σ2 H3 q1⟩
    · have q3 := hq2.2 Z gZ
      have conv : ∀ b H4, (if b = true then ∀ Z, Gd B lv sc N vm sm gs Z → WE Z elt σ2 H4 fun y H5 => f s = some y ∧ ∃ G'', Same G' G'' ∧ Hs B ((D, .lst vs) :: m') G'' H5 else f s = none ∧ ∃ G'', Same G' G'' ∧ Hs B ((D, .lst vs) :: m') G'' H4) →
          if b = true then ∀ Z, Gd B lv sc N vm sm gs Z → WE Z elt σ2 H4 fun y H5 => ∃ t m'' G'', f s = some t ∧ Same G' G'' ∧ m'' = m' ∧ Hs B ((D, .lst vs) :: m'') G'' H5 ∧ y = t else f s = none ∧ ∃ m'' G'', Same G' G'' ∧ m'' = m' ∧ Hs B ((D, .lst vs) :: m'') G'' H4 := by
        intro b H4 hb
        cases b with
        | true =>
          simp only [if_true] at hb ⊢
          exact fun Z gZ => we_mono (hb Z gZ) fun y H5 ⟨h1, G5, h2, h3⟩ => ⟨y, m', G5, h1, h2, rfl, h3, rfl⟩
        | false =>
          simp only [Bool.false_eq_true, if_false] at hb ⊢
          obtain ⟨h1, G5, h2, h3⟩ := hb
          exact ⟨h1, m', G5, h2, rfl, h3⟩
      match ifs, q3 with
      | [], q3 => exact conv true H3 q3
      | [c], q3 => exact wt_mono q3 conv
  · subst e2
    rw [e4.eqs] at e3
    exact hend D G' H' e1 e3
end
end U
/-! ### text U4 -/
set_option maxHeartbeats 4000000
namespace U
open PySem PySem.Spec PyProof.Rows L2
section
variable {X : Cx} {B : Bs} {lv : Nat} {sc : Scope} {vm sm : List Bool} {gs : List Str} {N : List Str} {σ : L2.St} {H G : Hp} {Q : VK} {D : Ends} {e e2 a b : Expr} {p p2 pos : Pos} {m : List (Addr × HO)}
theorem tyl {K : PySem.W.Frag} {q : Addr} {xs : List V} (h : H q = some (.lst xs)) : tyV K "list" (.ref q) H := .inl ⟨rfl, xs, sql h⟩
theorem tys {K : PySem.W.Frag} {z : Str} : tyV K "str" (.str z) H := rfl
theorem wcl_listD (g : Gd B lv sc N vm sm gs X) {d : Addr} {kvs : List (Key × V)} (hd : H d = some (.dK kvs)) (h : ∀ q, H q = none → Q (.ref q) (upd H q (.lst (kvs.map fun kv => kV kv.1)))) : WCl X (.type "list") [.ref d] H Q := ⟨_, call_list_dK g.calm, d, kvs, rfl, hd, h⟩
/-- list(range(a, b)) -/
theorem we_listRg (g : Gd B lv sc N vm sm gs X) (hx : ("list" : Str) ∈ gs) (hr : ("range" : Str) ∈ gs) (hm : B.mg "list" = none) (hm2 : B.mg "range" = none)
    (h : WE X a σ H fun x H1 => WE X b σ H1 fun y H2 => ∃ i j, x = .int i ∧ y = .int j ∧ RgOk i j ∧ ∀ q, H2 q = none → Q (.ref q) (upd H2 q (.lst (rgV i j))))
    (na : starEach [a, b] X.env = (false, eval a X.env) :: starEach [b] X.env := by rfl) (nb : starEach [b] X.env = (false, eval b X.env) :: starEach [] X.env := by rfl) (np : (backTo pos (starEach [b] X.env)).any (·.1) = false := by rfl)
    (nc : starEach [Expr.Call (.Name "range" p2) [a, b] [] pos] X.env = (false, eval (Expr.Call (.Name "range" p2) [a, b] [] pos) X.env) :: starEach [] X.env := by rfl) {pos' : Pos} :
    WE X (.Call (.Name "list" p) [.Call (.Name "range" p2) [a, b] [] pos] [] pos') σ H Q := by
  refine ⟨_, pe_listRg g.calm (g.glo hx) (by rw [g.eg]; exact hm) (prg_2 (g.glo hr) (by rw [g.eg]; exact hm2) p_e p_e na nb np) nc, ?_⟩
  refine we_mono h fun x H1 hq => we_mono hq fun y H2 hq => ?_
  obtain ⟨i, j, e1, e2, h1, h2⟩ := hq
  exact ⟨i, j, e1, e2, h1, h2⟩
/-- an expression during which the dict at d is locked -/
theorem we_lock {t : Addr × HO} {d : Addr} {kvs : List (Key × V)} (hd : H d = some (.dK kvs)) (h : ∀ od, WE X e σ (upd H d (.frz od (.dK kvs))) fun x H' => H' d = some (.frz od (.dK kvs)) ∧ Q x (upd H' d (.dK kvs))) : WE X e σ H Q :=
  ⟨_, pe_lock p_e, d, .dK kvs, hd, trivial, h⟩
theorem isN_i {i : Int} (h : Q (.bl false) H) : WC X .Is (.int i) .non H Q := wc_isN h
theorem isN_n (h : Q (.bl true) H) : WC X .Is .non .non H Q := wc_isN h
theorem isN_s {i : Str} (h : Q (.bl false) H) : WC X .Is (.str i) .non H Q := wc_isN h
theorem isN_r {i : Addr} (h : Q (.bl false) H) : WC X .Is (.ref i) .non H Q := wc_isN h
theorem notN_i {i : Int} (h : Q (.bl true) H) : WC X .IsNot (.int i) .non H Q := wc_notN h
theorem notN_n (h : Q (.bl false) H) : WC X .IsNot .non .non H Q := wc_notN h
theorem notN_s {i : Str} (h : Q (.bl true) H) : WC X .IsNot (.str i) .non H Q := wc_notN h
theorem notN_r {i : Addr} (h : Q (.bl true) H) : WC X .IsNot (.ref i) .non H Q := wc_notN h
/-- elements by values, the changing points by turns -/
theorem lcb_m {tg elt : Expr} {ifs : List Expr} {ws : List Nat} {n : Nat} {ok : Hp → Prop} {Y : Nat → Hp → V → Hp → Prop} {H1 : Hp} {S T : Type} (src : List S) (f : S → Option T) (val : T → V) (M : Nat → List (Addr × HO) → Prop) (hS : Hs B m G H1) (hM : M 0 m) (hn : src.length = n) (hsz : n ≤ sizeLine)
    (hok : ∀ i D m' vs H', i ≤ n → M i m' → Hs B ((D, .lst vs) :: m') G H' → ok H')
    (hst : ∀ i s D m' G' vs H' x H'', src[i]? = some s → Same G G' → M i m' → Hs B ((D, .lst vs) :: m') G' H' → Y i H' x H'' → ∀ Z, Gd B lv sc N vm sm gs Z → WG Z tg x (wipe σ ws) H'' fun σ2 H2 => wipe σ2 ws = wipe σ ws ∧ ∀ Z, Gd B lv sc N vm sm gs Z →
      LcT Z ifs σ2 H2 fun b H3 => if b = true then ∀ Z, Gd B lv sc N vm sm gs Z → WE Z elt σ2 H3 fun y H4 => ∃ t m'', f s = some t ∧ y = val t ∧ M (i + 1) m'' ∧ Hs B ((D, .lst vs) :: m'') G' H4 else f s = none ∧ ∃ m'', M (i + 1) m'' ∧ Hs B ((D, .lst vs) :: m'') G' H3)
    (hend : ∀ D m' H', M n m' → Hs B ((D, .lst ((src.filterMap f).map val)) :: m') G H' → Q (.ref D) H') : LcB B lv sc N vm sm gs tg elt ifs ws σ Q n ok Y H1 := by
  refine ⟨S, T, src, f, fun _ v t => v = val t, M, m, G, fun _ _ _ _ _ h => h, hn, hsz, hS, hM, fun i D m' G' vs H' hi e1 e2 e3 => hok i D m' vs H' hi e2 (e3.base e1), fun i s D m' G' vs H' x H'' hs e1 e2 e3 hy Z gZ => ?_, fun D m' G' vs H' e1 e2 e3 e4 => ?_⟩
  · obtain ⟨t, ht, q⟩ := hst i s D m' G' vs H' x H'' hs e1 e2 e3 hy Z gZ
    refine ⟨fun v σ H Q' => ∃ Q'' : L2.St → Hp → Prop, t v σ H Q'' ∧ ∀ σ2 H2, Q'' σ2 H2 → Q' σ2 H2, ⟨fun pins s σ H v u Q' I r hw => ?_⟩, _, q, fun σ2 H3 hq2 => ⟨hq2.1, fun Z gZ => ?_⟩⟩
    · obtain ⟨Q'', hw, kk⟩ := hw
      exact thn (ht.run pins s σ H v u Q'' I r hw) fun _ s1 hv => let ⟨σ2, H3, I1, q1⟩ := hv; ⟨σ2, H3, I1, kk σ2 H3 q1⟩
    · have q3 := hq2.2 Z gZ
      have conv : ∀ b H4, (if b = true then ∀ Z, Gd B lv sc N vm sm gs Z → WE Z elt σ2 H4 fun y H5 => ∃ t m'', f s = some t ∧ y = val t ∧ M (i + 1) m'' ∧ Hs B ((D, .lst vs) :: m'') G' H5 else f s = none ∧ ∃ m'', M (i + 1) m'' ∧ Hs B ((D, .lst vs) :: m'') G' H4) →
          if b = true then ∀ Z, Gd B lv sc N vm sm gs Z → WE Z elt σ2 H4 fun y H5 => ∃ t m'' G'', f s = some t ∧ Same G' G'' ∧ M (i + 1) m'' ∧ Hs B ((D, .lst vs) :: m'') G'' H5 ∧ y = val t else f s = none ∧ ∃ m'' G'', Same G' G'' ∧ M (i + 1) m'' ∧ Hs B ((D, .lst vs) :: m'') G'' H4 := by
        intro b H4 hb
        cases b with
        | true =>
          simp only [if_true] at hb ⊢
          exact fun Z gZ => we_mono (hb Z gZ) fun y H5 ⟨t, m5, h1, h2, h3, h4⟩ => ⟨t, m5, G', h1, Same.refl _, h3, h4, h2⟩
        | false =>
          simp only [Bool.false_eq_true, if_false] at hb ⊢
          obtain ⟨h1, m5, h2, h3⟩ := hb
          exact ⟨h1, m5, G', Same.refl _, h2, h3⟩
      match ifs, q3 with
      | [], q3 => exact conv true H3 q3
      | [c], q3 => exact wt_mono q3 conv
  · rw [e4.map] at e3
    exact hend D m' H' e2 (e3.base e1)
end
section
variable {X : Cx} {B : Bs} {lv : Nat} {sc : Scope} {vm sm : List Bool} {gs : List Str} {N : List Str} {σ : L2.St} {H : Hp} {D : Ends} {tg e elt : Expr} {ifs : List Expr} {pos py spos : Pos} {scope : Scope} {y : Str}
def chkL (N : List Str) (vm sm : List Bool) (gs : List Str) (own : List (Str × Nat)) (sc scope : Scope) (y : Str) : Bool :=
  chkB N vm sm gs own sc scope && ((match sc.kind with | .function => true | _ => false) && (ownB sc y && !(scope.names.any fun (n, k) => n == y && (k == .local || k == .cell))))
/-- y = [..] begun on one line, y a local -/
theorem ws_lcL (g : Gd B lv sc N vm sm gs X) (i : Nat) (own : List (Str × Nat)) (vm' sm' : List Bool) (gs' : List Str) (hN : N[i]? = some y) (hb : chkL N vm' sm' gs' own sc scope y = true) (hif : ifs.length ≤ 1) (hl : (py.line == pos.line) = true)
    (h : WIS X tg e σ H (LcB B lv (relS scope sc) N vm' sm' gs' tg elt ifs (own.map (·.2)) σ fun x H1 => D.nx (σ.set i (some x)) H1))
    (hs : ∀ x, foldedSetIterable e X.env x = pure x := by exact fun _ => rfl) : WS X (.Assign [.Name y py] (.ListComp elt [⟨tg, e, ifs, 0⟩] scope pos) spos) D σ H := by
  unfold chkL at hb
  rw [Bool.and_eq_true, Bool.and_eq_true, Bool.and_eq_true, Bool.not_eq_true'] at hb
  obtain ⟨h1, h2, h3, h4⟩ := hb
  refine ws_lc g i own vm' sm' gs' hN (sw_true ?_ ?_ hl h4) h3 h1 hif h hs
  · rw [g.es]
    cases hk : sc.kind with
    | function => rfl
    | _ => rw [hk] at h2; cases h2
  · rw [g.es]; exact ownB_ok h3
/-- y = [..], y a cell -/
theorem ws_asgC (g : Gd B lv sc N vm sm gs X) {gens : List Comprehension} (hy : (match sc.names.lookup y with | some .cell => true | _ => false) = true) (h : WE X (.ListComp elt gens scope pos) σ H fun x H1 => WG X (.Name y py) x σ H1 D.nx) : WS X (.Assign [.Name y py] (.ListComp elt gens scope pos) spos) D σ H := by
  have hk : X.env.kindOf y = some .cell := by
    show X.env.scope.names.lookup y = _
    rw [g.es]
    cases e : sc.names.lookup y with
    | none => rw [e] at hy; cases hy
    | some z => rw [e] at hy; cases z <;> first | rfl | cases hy
  refine ws_asg h ?_
  show (pure (X.env.blockKind == .function && X.env.kindOf y == some .local && py.line == (Expr.ListComp elt gens scope pos).pos.line
      && !(scope.names.any fun (n, k) => n == y && (k == .local || k == .cell))) : Sem Bool) = pure false
  rw [hk]
  have : (some NameKind.cell == some NameKind.local) = false := rfl
  rw [this, Bool.and_false, Bool.false_and, Bool.false_and]
theorem wgs_cons {t : Expr} {ts : List Expr} {v : V} {vs : List V} {QS : L2.St → Hp → Prop} (h : WG X t v σ H fun σ1 H1 => WGs X ts vs σ1 H1 QS)
    (hs : (assignEach (t :: ts) X.env).map (·.2) = assign t X.env :: (assignEach ts X.env).map (·.2) := by rfl) : WGs X (t :: ts) (v :: vs) σ H QS := ⟨_, pgs_cons p_g p_gs hs, v, vs, rfl, h⟩
/-- a tuple taken apart -/
theorem wg_tupS (g : Gd B lv sc N vm sm gs X) {es : List Expr} {k n : Nat} {a : Addr} {xs : List V} {QS : L2.St → Hp → Prop} (hx : H a = some (.tup xs)) (hl : xs.length = n) (h : WGs X es xs σ H QS) (hn : (assignEach es X.env).length = n := by rfl) (hst : (assignEach es X.env).findIdx? (·.1) = none := by rfl) :
    WG X (.Tuple es k pos) (.ref a) σ H QS := wg_tup g (sqt hx) hl h hn hst
theorem inV_str {z : Str} {ns : List Str} : inV (.str z) (ns.map V.str) = decide (z ∈ ns) := by
  unfold inV
  rw [List.any_map, Bool.eq_iff_iff, List.any_eq_true, decide_eq_true_eq]
  constructor
  · rintro ⟨y, hy, e⟩
    have : y = z := by simpa [eqV] using e
    exact this ▸ hy
  · intro h
    exact ⟨z, h, by simp [eqV]⟩
theorem flat_strs (ns : List Str) : (ns.map V.str).all flatV = true := by
  rw [List.all_map, List.all_eq_true]
  intro x _; rfl
theorem cut_take (xs : List V) (i : Nat) : cutV xs none (some (i : Int)) = xs.take i := by
  unfold cutV
  rw [HT.sIx_none, HT.sIx_nat, List.drop_zero, Nat.sub_zero]
  by_cases h : i ≤ xs.length
  · rw [Nat.min_eq_left h]
  · rw [Nat.min_eq_right (by omega), List.take_of_length_le (Nat.le_refl _), List.take_of_length_le (by omega)]
theorem cut_drop (xs : List V) (i : Nat) : cutV xs (some (i : Int)) none = xs.drop i := by
  unfold cutV
  rw [HT.sIx_none, HT.sIx_nat]
  by_cases h : i ≤ xs.length
  · rw [Nat.min_eq_left h, List.take_of_length_le (by rw [List.length_drop]; exact Nat.le_refl _)]
  · rw [Nat.min_eq_right (by omega), List.drop_of_length_le (Nat.le_refl _), List.drop_of_length_le (by omega)]; simp
end
end U
/-! ### text M0 -/
set_option maxHeartbeats 4000000
namespace U
open PySem PySem.Spec PyProof.Rows L2 TL
/-! ### texts -/
def iS (i : Int) : Str := Str.ofString (toString i)
def intL (i : Int) : List Nat := if i < 0 then 45 :: numL i.natAbs else numL i.natAbs
theorem tl_iS (i : Int) : tl (iS i) = intL i := by
  unfold iS intL
  by_cases h : i < 0
  · rw [if_pos h, PyProof.Rows.toString_neg h, tl_ofString, String.toList_append, List.map_append, ← tl_ofString (toString (0 - i))]
    have e : (0 - i) = ((i.natAbs : Nat) : Int) := by omega
    rw [e, tl_num] <;> rfl
  · rw [if_neg h]
    have e : i = ((i.natAbs : Nat) : Int) := by omega
    rw [e, tl_num] <;> simp
def NameOk (z : Str) : Prop := 1 ≤ z.length ∧ z.length ≤ 8 ∧ ∀ c ∈ tl z, 97 ≤ c ∧ c ≤ 122
theorem tl_len (z : Str) : z.length = (tl z).length := len_tl z
theorem letters_mem {c : Nat} (h : 97 ≤ c ∧ c ≤ 122) : c ∈ ("abcdefghijklmnopqrstuvwxyz" : Str).cps.toList := by
  have e : ("abcdefghijklmnopqrstuvwxyz" : Str).cps.toList = (List.range 26).map (· + 97) := by decide +kernel
  rw [e]
  exact List.mem_map.mpr ⟨c - 97, List.mem_range.mpr (by omega), by omega⟩
theorem figures_mem (c : Nat) : c ∈ ("0123456789" : Str).cps.toList ↔ (48 ≤ c ∧ c ≤ 57) := by
  have e : ("0123456789" : Str).cps.toList = (List.range 10).map (· + 48) := by decide +kernel
  rw [e, List.mem_map]
  constructor
  · rintro ⟨a, ha, rfl⟩
    have := List.mem_range.mp ha
    omega
  · rintro h
    exact ⟨c - 48, List.mem_range.mpr (by omega), by omega⟩
theorem numL_head : ∀ (n : Nat), (numL n).head? = some 48 → (numL n).length = 1 := by
  intro n
  induction n using Nat.strongRecOn with
  | _ n ih =>
    intro h
    by_cases hn : n < 10
    · rw [numL_lt hn]; rfl
    · exfalso
      have key : ∀ m : Nat, 0 < m → (numL m).head? ≠ some 48 := by
        intro m
        induction m using Nat.strongRecOn with
        | _ m ih2 =>
          intro hm e
          by_cases hm2 : m < 10
          · rw [numL_lt hm2] at e
            simp at e
            omega
          · rw [numL_step (by omega), List.head?_append] at e
            cases q : (numL (m / 10)).head? with
            | none => rw [List.head?_eq_none_iff] at q; exact numL_ne _ q
            | some c =>
              rw [q] at e
              exact ih2 (m / 10) (by omega) (by omega) (by rw [q]; exact e)
      exact key n (by omega) h
theorem one_eq {c d : Nat} : ((⟨#[c]⟩ : Str) = ⟨#[d]⟩) ↔ c = d := ⟨fun h => by cases h; rfl, fun h => by rw [h]⟩
theorem ch0 : Str.ofString "0" = ⟨#[48]⟩ := by decide +kernel
theorem chm : Str.ofString "-" = ⟨#[45]⟩ := by decide +kernel
theorem iS_nat {i : Int} (h : 0 ≤ i) : tl (iS i) = numL i.natAbs := by rw [tl_iS]; unfold intL; rw [if_neg (by omega)]
theorem iS_neg {i : Int} (h : i < 0) : tl (iS i) = 45 :: numL i.natAbs := by rw [tl_iS]; unfold intL; rw [if_pos h]
theorem numL_pos (n : Nat) : 1 ≤ (numL n).length := by
  have := numL_ne n
  cases h : numL n with
  | nil => exact absurd h this
  | cons => simp
theorem iS_len {i : Int} (h : -(10 ^ 9) ≤ i ∧ i ≤ 10 ^ 9) : 1 ≤ (iS i).length ∧ (iS i).length ≤ 11 := by
  have h2 : (numL i.natAbs).length ≤ 10 := numL_len (by decide) (by omega)
  have h3 := numL_pos i.natAbs
  rw [tl_len, tl_iS]
  unfold intL
  split
  · simp; omega
  · omega
theorem int_iS {i : Int} (h0 : 0 ≤ i) (h : i ≤ 10 ^ 9) : intText? (iS i) = some i := by
  have e : i = ((i.natAbs : Nat) : Int) := by omega
  have h2 : (numL i.natAbs).length ≤ 10 := numL_len (by decide) (by omega)
  have := int_num (n := i.natAbs) (by omega)
  rw [← e] at this
  exact this
theorem cut_from {z : Str} (h : 1 ≤ z.length) : tl (cutS z (some 1) none) = (tl z).drop 1 := by
  show ((z.cps.toList.drop (HT.sIx z.length 0 (some 1))).take (HT.sIx z.length z.length none - HT.sIx z.length 0 (some 1))) = _
  have e1 : HT.sIx z.length 0 (some 1) = min 1 z.length := HT.sIx_nat _ _ 1
  rw [e1, HT.sIx_none, Nat.min_eq_left h, List.take_of_length_le] <;> first | rfl | skip
  rw [List.length_drop]
  show z.cps.toList.length - 1 ≤ z.cps.size - 1
  simp
theorem cut_one {z : Str} (h : 1 ≤ z.length) : tl (cutS z none (some 1)) = (tl z).take 1 := by
  show ((z.cps.toList.drop (HT.sIx z.length 0 none)).take (HT.sIx z.length z.length (some 1) - HT.sIx z.length 0 none)) = _
  have e1 : HT.sIx z.length z.length (some 1) = min 1 z.length := HT.sIx_nat _ _ 1
  rw [e1, HT.sIx_none, Nat.min_eq_left h] <;> rfl
end U
/-! ### text M1 -/
set_option maxHeartbeats 4000000
namespace U
open PySem PySem.Spec PyProof.Rows L2 TL
/-! ### questions -/
inductive Ov | sum | count | least | greatest
  deriving DecidableEq
def Ov.c : Ov → Str
  | .sum => "Sum" | .count => "Count" | .least => "Least" | .greatest => "Greatest"
def Ov.w : Ov → Str
  | .sum => "sum" | .count => "count" | .least => "least" | .greatest => "greatest"
inductive Nd where
  | num (i : Int)
  | val (n : Str) (d : Int)
  | ov (k : Ov) (ns : List Str) (f l : Int)
  | since (n : Str) (a f l : Int)
  | part (n o : Str) (f l : Int)
  | chg (k : Int) (n : Str) (f l : Int)
  | two (minus : Bool) (a b : Nd)
  | four (same : Bool) (a b c d : Nd)
namespace Nd
def cls : Nd → Str
  | .num _ => "Number" | .val .. => "OnDay" | .ov k .. => k.c | .since .. => "Since" | .part .. => "Part" | .chg .. => "Change"
  | .two m .. => if m then "Minus" else "Plus" | .four s .. => if s then "Same" else "Less"
def names : Nd → List Str
  | .num _ => [] | .val n _ => [n] | .ov _ ns _ _ => ns | .since n _ _ _ => [n] | .part n o _ _ => [n, o] | .chg _ n _ _ => [n]
  | .two _ a b => a.names ++ b.names | .four _ a b c d => a.names ++ (b.names ++ (c.names ++ d.names))
def depth : Nd → Nat
  | .two _ a b => max a.depth b.depth + 1
  | .four _ a b c d => max (max a.depth b.depth) (max c.depth d.depth) + 1
  | _ => 0
/-- its numbers lie in their bounds -/
def ok : Nd → Prop
  | .num i => -(10 ^ 9) ≤ i ∧ i ≤ 10 ^ 9
  | .val _ d => 0 ≤ d ∧ d ≤ 399
  | .ov _ ns f l => (0 ≤ f ∧ f ≤ l ∧ l ≤ 399) ∧ 1 ≤ ns.length ∧ ns.length ≤ 8 ∧ ns.Nodup
  | .since _ a f l => (0 ≤ f ∧ f ≤ l ∧ l ≤ 399) ∧ -(10 ^ 9) ≤ a ∧ a ≤ 10 ^ 9
  | .part _ _ f l => 0 ≤ f ∧ f ≤ l ∧ l ≤ 399
  | .chg k _ f l => (0 ≤ f ∧ f ≤ l ∧ l ≤ 399) ∧ 1 ≤ k ∧ k ≤ 400
  | .two _ a b => a.ok ∧ b.ok
  | .four _ a b c d => a.ok ∧ b.ok ∧ c.ok ∧ d.ok
def leaf : Nd → Bool
  | .two .. => false | .four .. => false | _ => true
end Nd
def oV : Option Int → V
  | none => .non
  | some i => .int i
theorem oV_scal (x y : Option Int) : scal (oV x) (oV y) = true := by cases x <;> cases y <;> rfl
theorem oV_inj {x y : Option Int} : oV x = oV y ↔ x = y := by
  cases x <;> cases y <;> simp [oV]
abbrev Tell := Str → Int → Option Int
abbrev Log := List (Str × Int)
/-- the days from f to l -/
def rng (f l : Int) : List Int := (List.range (l + 1 - f).toNat).map fun i => f + (i : Nat)
def dys (n : Str) (f l : Int) : Log := (rng f l).map fun d => (n, d)
theorem rng_len (f l : Int) : (rng f l).length = (l + 1 - f).toNat := by simp [rng]
theorem rng_get {f l : Int} {i : Nat} (h : i < (l + 1 - f).toNat) : (rng f l)[i]? = some (f + (i : Nat)) := by simp [rng, h]
theorem mem_rng {f l d : Int} : d ∈ rng f l ↔ f ≤ d ∧ d ≤ l := by
  unfold rng
  rw [List.mem_map]
  constructor
  · rintro ⟨i, hi, rfl⟩
    have := List.mem_range.mp hi
    omega
  · rintro ⟨h1, h2⟩
    exact ⟨(d - f).toNat, List.mem_range.mpr (by omega), by omega⟩
theorem mem_dys {n : Str} {f l : Int} {p : Str × Int} : p ∈ dys n f l ↔ p.1 = n ∧ f ≤ p.2 ∧ p.2 ≤ l := by
  unfold dys
  rw [List.mem_map]
  constructor
  · rintro ⟨d, hd, rfl⟩
    exact ⟨rfl, mem_rng.mp hd⟩
  · rintro ⟨rfl, h⟩
    exact ⟨p.2, mem_rng.mpr h, rfl⟩
def ovOut : Ov → List Int → Option Int
  | .sum, xs => some xs.sum
  | .count, xs => some (xs.length : Int)
  | .least, xs => xs.min?
  | .greatest, xs => xs.max?
def isGood (t : Option Int) (a : Int) : Bool := match t with
  | some x => decide (a ≤ x)
  | none => false
/-- how many of the last k days up to l are good, from the back -/
def goodN (good : Int → Bool) (l : Int) : Nat → Nat
  | 0 => 0
  | k + 1 => if good l then goodN good (l - 1) k + 1 else 0
theorem goodN_le (good : Int → Bool) : ∀ (k : Nat) (l : Int), goodN good l k ≤ k
  | 0, _ => Nat.le_refl _
  | k + 1, l => by
    unfold goodN
    split
    · exact Nat.succ_le_succ (goodN_le good k (l - 1))
    · exact Nat.zero_le _
/-- from this day on the days to l are good -/
def startD (good : Int → Bool) (f l : Int) : Int := l + 1 - goodN good l (l + 1 - f).toNat
theorem startD_spec (good : Int → Bool) {f l : Int} (h : f ≤ l + 1) : f ≤ startD good f l ∧ startD good f l ≤ l + 1 ∧ (∀ d, startD good f l ≤ d → d ≤ l → good d = true) ∧ (startD good f l = f ∨ good (startD good f l - 1) = false) := by
  unfold startD
  generalize hk : (l + 1 - f).toNat = k
  induction k generalizing l with
  | zero =>
    have : f = l + 1 := by omega
    refine ⟨by simp [goodN]; omega, by simp [goodN], fun d h1 h2 => by simp [goodN] at h1; omega, .inl (by simp [goodN]; omega)⟩
  | succ k ih =>
    unfold goodN
    by_cases hg : good l = true
    · rw [if_pos hg]
      obtain ⟨h1, h2, h3, h4⟩ := ih (l := l - 1) (by omega) (by omega)
      have e : l + 1 - ((goodN good (l - 1) k + 1 : Nat) : Int) = l - 1 + 1 - (goodN good (l - 1) k : Nat) := by omega
      rw [e]
      refine ⟨h1, by omega, fun d k1 k2 => ?_, h4⟩
      by_cases hd : d = l
      · rw [hd]; exact hg
      · exact h3 d k1 (by omega)
    · rw [if_neg hg]
      refine ⟨by omega, by omega, fun d k1 k2 => by omega, .inr ?_⟩
      have : l + 1 - ((0 : Nat) : Int) - 1 = l := by omega
      rw [this]
      simpa using hg
theorem startD_uniq (good : Int → Bool) {f l s t : Int} (hs : f ≤ s ∧ s ≤ l + 1 ∧ (∀ d, s ≤ d → d ≤ l → good d = true) ∧ (s = f ∨ good (s - 1) = false)) (ht : f ≤ t ∧ t ≤ l + 1 ∧ (∀ d, t ≤ d → d ≤ l → good d = true) ∧ (t = f ∨ good (t - 1) = false)) : s = t := by
  obtain ⟨a1, a2, a3, a4⟩ := hs
  obtain ⟨b1, b2, b3, b4⟩ := ht
  rcases Int.lt_trichotomy s t with h | h | h
  · rcases b4 with e | e
    · omega
    · have := a3 (t - 1) (by omega) (by omega)
      rw [e] at this; cases this
  · exact h
  · rcases a4 with e | e
    · omega
    · have := b3 (s - 1) (by omega) (by omega)
      rw [e] at this; cases this
def afterD (l s : Int) : Option Int := if l < s then none else some s
/-- the days on which something else is told than on the day ahead -/
def chgL (t : Int → Option Int) (f l : Int) : List Int := (rng (f + 1) l).filter fun d => decide (t d ≠ t (d - 1))
def evalM (tell : Tell) : Nd → Option Int
  | .num i => some i
  | .val n d => tell n d
  | .ov k ns f l => ovOut k (ns.flatMap fun n => (rng f l).filterMap (tell n))
  | .since n a f l => afterD l (startD (fun d => isGood (tell n d) a) f l)
  | .part n o f l => some (((rng f l).filter fun d => decide (tell n d ≠ tell o d)).length : Int)
  | .chg k n f l => (chgL (tell n) f l)[(k - 1).toNat]?
  | .two m a b => match evalM tell a, evalM tell b with
    | some x, some y => some (if m then x - y else x + y)
    | _, _ => none
  | .four s a b c d => if (if s then decide (evalM tell a = evalM tell b) else match evalM tell a, evalM tell b with
    | some x, some y => decide (x < y)
    | _, _ => false) then evalM tell c else evalM tell d
def third (tell : Tell) (s : Bool) (a b : Nd) : Bool := if s then decide (evalM tell a = evalM tell b) else match evalM tell a, evalM tell b with
  | some x, some y => decide (x < y)
  | _, _ => false
theorem evalM_four (tell : Tell) (s : Bool) (a b c d : Nd) : evalM tell (.four s a b c d) = if third tell s a b then evalM tell c else evalM tell d := rfl
/-- the days that are read -/
def daysM (tell : Tell) : Nd → Log
  | .num _ => []
  | .val n d => [(n, d)]
  | .ov _ ns f l => ns.flatMap fun n => dys n f l
  | .since n a f l => dys n (max f (startD (fun d => isGood (tell n d) a) f l - 1)) l
  | .part n o f l => dys n f l ++ dys o f l
  | .chg k n f l => dys n f (((chgL (tell n) f l)[(k - 1).toNat]?).getD l)
  | .two _ a b => daysM tell a ++ daysM tell b
  | .four s a b c d => daysM tell a ++ daysM tell b ++ if third tell s a b then daysM tell c else daysM tell d
/-! ### questions as objects; as the law's nodes -/
section
variable (B : Bs) (G : Hp)
def QO : V → Nd → Prop
  | v, .num i => ∃ a dx, v = .ref a ∧ G a = some (.ins (He.ga B.K "Number") dx [("amount", .int i)])
  | v, .val n d => ∃ a dx, v = .ref a ∧ G a = some (.ins (He.ga B.K "OnDay") dx [("name", .str n), ("day", .int d)])
  | v, .ov k ns f l => ∃ a dx p, v = .ref a ∧ G a = some (.ins (He.ga B.K k.c) dx [("names", .ref p), ("first", .int f), ("last", .int l)]) ∧ G p = some (.lst (ns.map V.str))
  | v, .since n x f l => ∃ a dx, v = .ref a ∧ G a = some (.ins (He.ga B.K "Since") dx [("name", .str n), ("amount", .int x), ("first", .int f), ("last", .int l)])
  | v, .part n o f l => ∃ a dx, v = .ref a ∧ G a = some (.ins (He.ga B.K "Part") dx [("name", .str n), ("other", .str o), ("first", .int f), ("last", .int l)])
  | v, .chg k n f l => ∃ a dx, v = .ref a ∧ G a = some (.ins (He.ga B.K "Change") dx [("amount", .int k), ("name", .str n), ("first", .int f), ("last", .int l)])
  | v, .two m x y => ∃ a dx p u w, v = .ref a ∧ G a = some (.ins (He.ga B.K (if m then "Minus" else "Plus")) dx [("parts", .ref p)]) ∧ G p = some (.lst [u, w]) ∧ QO u x ∧ QO w y
  | v, .four s x y z t => ∃ a dx p u1 u2 u3 u4, v = .ref a ∧ G a = some (.ins (He.ga B.K (if s then "Same" else "Less")) dx [("parts", .ref p)]) ∧ G p = some (.lst [u1, u2, u3, u4]) ∧ QO u1 x ∧ QO u2 y ∧ QO u3 z ∧ QO u4 t
def NR : V → Nd → Prop
  | v, .num i => ∃ a, v = .ref a ∧ G a = some (.tup [.str "number", .int i])
  | v, .val n d => ∃ a, v = .ref a ∧ G a = some (.tup [.str "value", .str n, .int d])
  | v, .ov k ns f l => ∃ a p, v = .ref a ∧ G a = some (.tup [.str k.w, .ref p, .int f, .int l]) ∧ G p = some (.lst (ns.map V.str))
  | v, .since n x f l => ∃ a, v = .ref a ∧ G a = some (.tup [.str "since", .str n, .int x, .int f, .int l])
  | v, .part n o f l => ∃ a, v = .ref a ∧ G a = some (.tup [.str "part", .str n, .str o, .int f, .int l])
  | v, .chg k n f l => ∃ a, v = .ref a ∧ G a = some (.tup [.str "change", .int k, .str n, .int f, .int l])
  | v, .two m x y => ∃ a p u w, v = .ref a ∧ G a = some (.tup [.str (if m then "minus" else "plus"), .ref p]) ∧ G p = some (.lst [u, w]) ∧ NR u x ∧ NR w y
  | v, .four s x y z t => ∃ a p u1 u2 u3 u4, v = .ref a ∧ G a = some (.tup [.str (if s then "same" else "less"), .ref p]) ∧ G p = some (.lst [u1, u2, u3, u4]) ∧ NR u1 x ∧ NR u2 y ∧ NR u3 z ∧ NR u4 t
end
theorem QO.up {B : Bs} {G G' : Hp} (e : Same G G') : ∀ {nd : Nd} {v : V}, QO B G v nd → QO B G' v nd
  | .num i, v, ⟨a, dx, h1, h2⟩ => ⟨a, dx, h1, e _ _ h2⟩
  | .val n d, v, ⟨a, dx, h1, h2⟩ => ⟨a, dx, h1, e _ _ h2⟩
  | .ov k ns f l, v, ⟨a, dx, p, h1, h2, h3⟩ => ⟨a, dx, p, h1, e _ _ h2, e _ _ h3⟩
  | .since n x f l, v, ⟨a, dx, h1, h2⟩ => ⟨a, dx, h1, e _ _ h2⟩
  | .part n o f l, v, ⟨a, dx, h1, h2⟩ => ⟨a, dx, h1, e _ _ h2⟩
  | .chg k n f l, v, ⟨a, dx, h1, h2⟩ => ⟨a, dx, h1, e _ _ h2⟩
  | .two m x y, v, ⟨a, dx, p, u, w, h1, h2, h3, h4, h5⟩ => ⟨a, dx, p, u, w, h1, e _ _ h2, e _ _ h3, QO.up e h4, QO.up e h5⟩
  | .four s x y z t, v, ⟨a, dx, p, u1, u2, u3, u4, h1, h2, h3, h4, h5, h6, h7⟩ => ⟨a, dx, p, u1, u2, u3, u4, h1, e _ _ h2, e _ _ h3, QO.up e h4, QO.up e h5, QO.up e h6, QO.up e h7⟩
theorem NR.up {B : Bs} {G G' : Hp} (e : Same G G') : ∀ {nd : Nd} {v : V}, NR G v nd → NR G' v nd
  | .num i, v, ⟨a, h1, h2⟩ => ⟨a, h1, e _ _ h2⟩
  | .val n d, v, ⟨a, h1, h2⟩ => ⟨a, h1, e _ _ h2⟩
  | .ov k ns f l, v, ⟨a, p, h1, h2, h3⟩ => ⟨a, p, h1, e _ _ h2, e _ _ h3⟩
  | .since n x f l, v, ⟨a, h1, h2⟩ => ⟨a, h1, e _ _ h2⟩
  | .part n o f l, v, ⟨a, h1, h2⟩ => ⟨a, h1, e _ _ h2⟩
  | .chg k n f l, v, ⟨a, h1, h2⟩ => ⟨a, h1, e _ _ h2⟩
  | .two m x y, v, ⟨a, p, u, w, h1, h2, h3, h4, h5⟩ => ⟨a, p, u, w, h1, e _ _ h2, e _ _ h3, NR.up (B := B) e h4, NR.up (B := B) e h5⟩
  | .four s x y z t, v, ⟨a, p, u1, u2, u3, u4, h1, h2, h3, h4, h5, h6, h7⟩ => ⟨a, p, u1, u2, u3, u4, h1, e _ _ h2, e _ _ h3, NR.up (B := B) e h4, NR.up (B := B) e h5, NR.up (B := B) e h6, NR.up (B := B) e h7⟩
def qflds : List Str := ["amount", "name", "day", "names", "first", "last", "other", "parts"]
theorem lookup_out {fs : List (Str × V)} {m : Str} (h : ∀ p ∈ fs, p.1 ∈ qflds) (hm : m ∉ qflds) : fs.lookup m = none := by
  refine List.lookup_eq_none_iff.mpr fun p hp => ?_
  have := h p hp
  by_cases e : m = p.1
  · exact absurd (e ▸ this) hm
  · simp [e]
theorem QO.cls {B : Bs} {G : Hp} : ∀ {nd : Nd} {v : V}, QO B G v nd → ∃ a dx fs, v = .ref a ∧ G a = some (.ins (He.ga B.K nd.cls) dx fs) ∧ ∀ p ∈ fs, p.1 ∈ qflds
  | .num i, v, ⟨a, dx, h1, h2⟩ => ⟨a, dx, _, h1, h2, by simp [qflds]⟩
  | .val n d, v, ⟨a, dx, h1, h2⟩ => ⟨a, dx, _, h1, h2, by simp [qflds]⟩
  | .ov k ns f l, v, ⟨a, dx, p, h1, h2, h3⟩ => ⟨a, dx, _, h1, h2, by simp [qflds]⟩
  | .since n x f l, v, ⟨a, dx, h1, h2⟩ => ⟨a, dx, _, h1, h2, by simp [qflds]⟩
  | .part n o f l, v, ⟨a, dx, h1, h2⟩ => ⟨a, dx, _, h1, h2, by simp [qflds]⟩
  | .chg k n f l, v, ⟨a, dx, h1, h2⟩ => ⟨a, dx, _, h1, h2, by simp [qflds]⟩
  | .two m x y, v, ⟨a, dx, p, u, w, h1, h2, h3, h4, h5⟩ => ⟨a, dx, _, h1, h2, by simp [qflds]⟩
  | .four s x y z t, v, ⟨a, dx, p, u1, u2, u3, u4, h1, h2, h3, h4, h5, h6, h7⟩ => ⟨a, dx, _, h1, h2, by simp [qflds]⟩
/-! ### what tells -/
def TellOk (B : Bs) (j : Nat) (f : Addr) (tell : Tell) (keys : List Str) (G0 : Hp) (P : Log → List (Addr × HO) → Prop) : Prop :=
  FnH G0 f ∧ ∀ {X : Cx} {lv : Nat} {sc : Scope} {N : List Str} {vm sm : List Bool} {gs : List Str}, Gd B lv sc N vm sm gs X → j ≤ lv → ∀ (log : Log) (pts m : List (Addr × HO)) (G H : Hp) (name : Str) (day : Int) (Q : VK),
    name ∈ keys → 0 ≤ day ∧ day ≤ 399 → P log pts → Same G0 G → Hs B (m ++ pts) G H → (∀ pts' H', P (log ++ [(name, day)]) pts' → Hs B (m ++ pts') G H' → Q (oV (tell name day)) H') → WCl X (.ref f) [.str name, .int day] H Q
section
variable {X : Cx} {B : Bs} {lv : Nat} {sc : Scope} {vm sm : List Bool} {gs : List Str} {N : List Str} {σ : L2.St} {H : Hp} {Q : VK} {a b : Expr} {p pos : Pos} {x : Str}
theorem FnH.up {G H : Hp} {f : Addr} (e : Same G H) (h : FnH G f) : FnH H f := let ⟨F, b, h⟩ := h; ⟨F, b, e _ _ h⟩
theorem we_told (g : Gd B lv sc N vm sm gs X) {j : Nat} {f : Addr} {tell : Tell} {keys : List Str} {G0 : Hp} {P : Log → List (Addr × HO) → Prop} (T : TellOk B j f tell keys G0 P) (hj : j ≤ lv)
    {log : Log} {pts m : List (Addr × HO)} {G : Hp} (name : Str) (day : Int) (hn : name ∈ keys) (hd : 0 ≤ day ∧ day ≤ 399) (hP : P log pts) (hG : Same G0 G) (hS : Hs B (m ++ pts) G H)
    (h0 : WE X (.Name x p) σ H fun v H1 => v = .ref f ∧ H = H1) (h1 : WE X a σ H fun v H1 => v = .str name ∧ H = H1) (h2 : WE X b σ H fun v H1 => v = .int day ∧ H = H1)
    (k : ∀ pts' H', P (log ++ [(name, day)]) pts' → Hs B (m ++ pts') G H' → Q (oV (tell name day)) H')
    (he : starEach (a :: [b]) X.env = (false, eval a X.env) :: starEach [b] X.env := by rfl) (he2 : starEach [b] X.env = (false, eval b X.env) :: starEach [] X.env := by rfl) (hpl : (backTo pos (starEach [b] X.env)).any (·.1) = false := by rfl) : WE X (.Call (.Name x p) [a, b] [] pos) σ H Q := by
  refine we_lv (we_mono h0 fun v H1 ⟨e1, e2⟩ => ?_) he hpl
  subst e1 e2
  have fh : FnH H f := FnH.up (hG.trans hS.g) T.1
  refine ⟨f, rfl, fh, wa_cons (we_mono h1 fun v H1 ⟨e1, e2⟩ => ?_) he⟩
  subst e1 e2
  refine wa_cons (we_mono h2 fun v H1 ⟨e1, e2⟩ => wa_nil ?_) he2
  subst e1 e2
  exact ⟨fh, T.2 g hj log pts m G H name day Q hn hd hP hG hS k⟩
end
structure Tl (B : Bs) where
  f : Addr
  tell : Tell
  keys : List Str
  G0 : Hp
  P : Log → List (Addr × HO) → Prop
  ok : TellOk B 6 f tell keys G0 P
end U
/-! ### text M2 -/
set_option maxHeartbeats 4000000
namespace U
open PySem PySem.Spec PyProof.Rows L2 TL
/-! ### data to compare -/
theorem lay_all {k : Nat} : ∀ {ds : List PyData}, (∀ d ∈ ds, d.canLay0 = true ∧ d.depth ≤ k) → PyData.canLayAll0 ds = true ∧ PyData.depthAll ds ≤ k
  | [], _ => ⟨rfl, Nat.zero_le _⟩
  | d :: ds, h => by
    obtain ⟨h1, h2⟩ := h d List.mem_cons_self
    obtain ⟨h3, h4⟩ := lay_all (ds := ds) fun x hx => h x (List.mem_cons_of_mem _ hx)
    refine ⟨by rw [PyData.canLayAll0, h1, h3]; rfl, ?_⟩
    rw [PyData.depthAll]
    exact Nat.max_le.mpr ⟨h2, h4⟩
theorem shaped_mk {d : PyData} (h1 : d.canLay0 = true) (h2 : d.depth ≤ 64) : SeqAt.shaped d = true := by
  unfold SeqAt.shaped
  rw [h1, decide_eq_true h2]; rfl
theorem shaped_list {k : Nat} (hk : k < 64) {ds : List PyData} (h : ∀ d ∈ ds, d.canLay0 = true ∧ d.depth ≤ k) : SeqAt.shaped (.list ds) = true := by
  obtain ⟨h1, h2⟩ := lay_all h
  exact shaped_mk (by rw [PyData.canLay0]; exact h1) (by rw [PyData.depth]; omega)
theorem eqv_nil (ds : List PyData) : PyData.eqv (.list ds) (.list []) = ds.isEmpty := by
  cases ds <;> simp [PyData.eqv, PyData.eqvAll]
theorem dpa_ints {K : PySem.W.Frag} {H : Hp} : ∀ ns : List Int, DpAll K H (ns.map V.int) (ns.map PyData.int)
  | [] => .nil
  | n :: ns => .cons (.int n) (dpa_ints ns)
theorem shaped_ints (ns : List Int) : SeqAt.shaped (.list (ns.map PyData.int)) = true := shaped_list (k := 0) (by decide) fun d hd => by
  obtain ⟨i, _, rfl⟩ := List.mem_map.mp hd
  exact ⟨by simp [PyData.canLay0], by simp [PyData.depth]⟩
theorem shaped_nil : SeqAt.shaped (.list []) = true := by decide +kernel
section
variable {X : Cx} {B : Bs} {lv : Nat} {sc : Scope} {vm sm : List Bool} {gs : List Str} {N : List Str} {H : Hp} {Q : VK} {a b : Addr}
theorem wc_eqNil (g : Gd B lv sc N vm sm gs X) {xs : List V} {ds : List PyData} (h1 : SqL B.K H a xs) (h2 : DpAll B.K H xs ds) (h3 : SeqAt.shaped (.list ds) = true) (h4 : SqL B.K H b []) (h : Q (.bl xs.isEmpty) H) : WC X .Eq (.ref a) (.ref b) H Q := by
  refine wc_eqD g (.lst h1 h2) (.lst h4 .nil) h3 shaped_nil ?_
  rw [eqv_nil]
  have : ds.isEmpty = xs.isEmpty := by cases h2 <;> rfl
  rw [this]; exact h
theorem wc_neNil (g : Gd B lv sc N vm sm gs X) {xs : List V} {ds : List PyData} (h1 : SqL B.K H a xs) (h2 : DpAll B.K H xs ds) (h3 : SeqAt.shaped (.list ds) = true) (h4 : SqL B.K H b []) (h : Q (.bl (!xs.isEmpty)) H) : WC X .NotEq (.ref a) (.ref b) H Q := by
  refine wc_neD g (.lst h1 h2) (.lst h4 .nil) h3 shaped_nil ?_
  rw [eqv_nil]
  have : ds.isEmpty = xs.isEmpty := by cases h2 <;> rfl
  rw [this]; exact h
end
/-! ### dicts -/
section
variable {κ : Type} [DecidableEq κ]
theorem mem_putK {kvs : List (κ × V)} {k : κ} {v : V} {p : κ × V} (h : p ∈ putK kvs k v) : p.1 = k ∨ p ∈ kvs := by
  unfold putK at h
  split at h
  · obtain ⟨q, hq, rfl⟩ := List.mem_map.mp h
    by_cases e : q.1 = k
    · left; simp [e]
    · right; simpa [e] using hq
  · rcases List.mem_append.mp h with h | h
    · exact .inr h
    · left; simp at h; simp [h]
theorem valV_mem {kvs : List (κ × V)} {k : κ} {v : V} (h : valV kvs k = some v) : (k, v) ∈ kvs := by
  unfold valV at h
  obtain ⟨p, hp, e⟩ := Option.map_eq_some_iff.mp h
  have h1 := List.find?_some hp
  have h2 := List.mem_of_find?_eq_some hp
  simp at h1
  subst h1 e
  exact h2
end
theorem min?_of {ns : List Int} {m : Int} (h1 : m ∈ ns) (h2 : ∀ y, y ∈ ns → m ≤ y) : ns.min? = some m := by
  rw [List.min?_eq_some_iff]
  exact ⟨h1, h2⟩
theorem max?_of {ns : List Int} {m : Int} (h1 : m ∈ ns) (h2 : ∀ y, y ∈ ns → y ≤ m) : ns.max? = some m := by
  rw [List.max?_eq_some_iff]
  exact ⟨h1, h2⟩
end U
/-! ### text M3 -/
set_option maxHeartbeats 4000000
namespace U
open PySem PySem.Spec PyProof.Rows L2 TL
section
variable {X : Cx} {H : Hp} {Q : VK} {i j : Int}
theorem wip_add (h : Q (.int (i + j)) H) : WIp X .Add (.int i) (.int j) H Q := ⟨_, ip_add, i, j, rfl, rfl, h⟩
theorem wip_sub (h : Q (.int (i - j)) H) : WIp X .Sub (.int i) (.int j) H Q := ⟨_, ip_sub, i, j, rfl, rfl, h⟩
theorem win_add (h : Q (.int (i + j)) H) : WIn X .Add (.int i) (.int j) H Q := ⟨_, in_add, i, j, rfl, rfl, h⟩
end
/-! ### since, from the front -/
def plainF (good : Int → Bool) (f : Int) : Nat → Option Int
  | 0 => none
  | i + 1 => if good (f + (i : Nat)) then some ((plainF good f i).getD (f + (i : Nat))) else none
theorem plainF_spec (good : Int → Bool) (f : Int) : ∀ i : Nat, (plainF good f i = none ∧ (i = 0 ∨ good (f + (i : Nat) - 1) = false)) ∨
    ∃ s, plainF good f i = some s ∧ f ≤ s ∧ s < f + (i : Nat) ∧ (∀ d, s ≤ d → d < f + (i : Nat) → good d = true) ∧ (s = f ∨ good (s - 1) = false)
  | 0 => .inl ⟨rfl, .inl rfl⟩
  | i + 1 => by
    unfold plainF
    by_cases hg : good (f + (i : Nat)) = true
    · rw [if_pos hg]
      right
      rcases plainF_spec good f i with ⟨h1, h2⟩ | ⟨s, h1, h2, h3, h4, h5⟩
      · rw [h1]
        refine ⟨f + (i : Nat), rfl, by omega, by omega, fun d k1 k2 => ?_, ?_⟩
        · have : d = f + (i : Nat) := by omega
          rw [this]; exact hg
        · rcases h2 with e | e
          · left; subst e; simp
          · exact .inr e
      · rw [h1]
        refine ⟨s, rfl, h2, by omega, fun d k1 k2 => ?_, h5⟩
        by_cases hd : d = f + (i : Nat)
        · rw [hd]; exact hg
        · exact h4 d k1 (by omega)
    · rw [if_neg hg]
      left
      refine ⟨rfl, .inr ?_⟩
      have : f + ((i + 1 : Nat) : Int) - 1 = f + (i : Nat) := by omega
      rw [this]
      simpa using hg
theorem plainF_end (good : Int → Bool) {f l : Int} (h : f ≤ l + 1) : plainF good f (l + 1 - f).toNat = afterD l (startD good f l) := by
  have hs := startD_spec good h
  have e : f + (((l + 1 - f).toNat : Nat) : Int) = l + 1 := by omega
  unfold afterD
  rcases plainF_spec good f (l + 1 - f).toNat with ⟨h1, h2⟩ | ⟨s, h1, h2, h3, h4, h5⟩
  · rw [h1, if_pos]
    rcases h2 with z | z
    · omega
    · rw [e] at z
      by_cases hl : l < startD good f l
      · exact hl
      · have := hs.2.2.1 l (by omega) (Int.le_refl _)
        rw [show l + 1 - 1 = l from by omega, this] at z
        cases z
  · rw [h1]
    rw [e] at h3 h4
    have : s = startD good f l := startD_uniq good ⟨h2, by omega, fun d k1 k2 => h4 d k1 (by omega), h5⟩ hs
    rw [if_neg (by omega), this]
/-! ### since, from the back -/
theorem goodN_step (good : Int → Bool) : ∀ (k i : Nat) (l : Int), i < k → (∀ j : Nat, j < i → good (l - j) = true) → good (l - i) = false → goodN good l k = i
  | 0, _, _, h, _, _ => by omega
  | k + 1, 0, l, _, _, h2 => by
    unfold goodN
    rw [if_neg]
    simpa using h2
  | k + 1, i + 1, l, h, h1, h2 => by
    unfold goodN
    have h0 := h1 0 (by omega)
    rw [if_pos (by simpa using h0), goodN_step good k i (l - 1) (by omega) (fun j hj => by
      have := h1 (j + 1) (by omega)
      rw [show l - ((j + 1 : Nat) : Int) = l - 1 - (j : Nat) from by omega] at this
      exact this) (by rw [show l - 1 - (i : Nat) = l - ((i + 1 : Nat) : Int) from by omega]; exact h2)]
theorem goodN_all (good : Int → Bool) : ∀ (k : Nat) (l : Int), (∀ j : Nat, j < k → good (l - j) = true) → goodN good l k = k
  | 0, _, _ => rfl
  | k + 1, l, h => by
    unfold goodN
    have h0 := h 0 (by omega)
    rw [if_pos (by simpa using h0), goodN_all good k (l - 1) fun j hj => by
      have := h (j + 1) (by omega)
      rw [show l - ((j + 1 : Nat) : Int) = l - 1 - (j : Nat) from by omega] at this
      exact this]
/-! ### changes -/
theorem chgL_take {t : Int → Option Int} {f l : Int} {i : Nat} (h : i < (l - f).toNat) : ((rng (f + 1) l).take (i + 1)).filter (fun d => decide (t d ≠ t (d - 1))) = ((rng (f + 1) l).take i).filter (fun d => decide (t d ≠ t (d - 1))) ++ (if t (f + 1 + (i : Nat)) ≠ t (f + (i : Nat)) then [f + 1 + (i : Nat)] else []) := by
  have e : (rng (f + 1) l)[i]? = some (f + 1 + (i : Nat)) := rng_get (by omega)
  rw [List.take_add_one, e, List.filter_append]
  have e2 : f + 1 + (i : Nat) - 1 = f + (i : Nat) := by omega
  simp [List.filter_cons, e2]
theorem fm_ite {α β : Type} (P : α → Prop) [DecidablePred P] (g : α → β) : ∀ r : List α, (r.filterMap fun d => if P d then some (g d) else none) = (r.filter fun d => decide (P d)).map g
  | [] => rfl
  | a :: r => by
    by_cases h : P a
    · simp [List.filterMap_cons, List.filter_cons, h, fm_ite P g r]
    · simp [List.filterMap_cons, List.filter_cons, h, fm_ite P g r]
end U
/-! ### text M4 -/
set_option maxHeartbeats 4000000
namespace U
open PySem PySem.Spec PyProof.Rows L2 TL
def cm (ns : List Str) : Str := Txt.join "," ns
/-! ### a question's words -/
def wordsM : Nd → List Str
  | .num i => ["number", iS i]
  | .val n d => ["value", n, iS d]
  | .ov k ns f l => [k.w, cm ns, iS f, iS l]
  | .since n a f l => ["since", n, iS a, iS f, iS l]
  | .part n o f l => ["part", n, o, iS f, iS l]
  | .chg k n f l => ["change", iS k, n, iS f, iS l]
  | .two m a b => (if m then "minus" else "plus") :: ((Str.ofString "(" :: (wordsM a ++ [Str.ofString ")"])) ++ (Str.ofString "(" :: (wordsM b ++ [Str.ofString ")"])))
  | .four s a b c d => (if s then "same" else "less") :: ((Str.ofString "(" :: (wordsM a ++ [Str.ofString ")"])) ++ ((Str.ofString "(" :: (wordsM b ++ [Str.ofString ")"])) ++ ((Str.ofString "(" :: (wordsM c ++ [Str.ofString ")"])) ++ (Str.ofString "(" :: (wordsM d ++ [Str.ofString ")"])))))
def Nd.w : Nd → Str
  | .num _ => "number" | .val .. => "value" | .ov k .. => k.w | .since .. => "since" | .part .. => "part" | .chg .. => "change"
  | .two m .. => if m then "minus" else "plus" | .four s .. => if s then "same" else "less"
def brk (k : Nd) : List Str := "(" :: (wordsM k ++ [Str.ofString ")"])
def Nd.tlW (nd : Nd) : List Str := (wordsM nd).drop 1
theorem wordsM_cons : ∀ nd : Nd, wordsM nd = nd.w :: nd.tlW
  | .num _ => rfl | .val .. => rfl | .ov .. => rfl | .since .. => rfl | .part .. => rfl | .chg .. => rfl | .two .. => rfl | .four .. => rfl
/-- from p on these words stand -/
def At (ws : List Str) (p : Nat) (l : List Str) : Prop := ∃ rest, ws.drop p = l ++ rest
theorem At.get {ws : List Str} {p : Nat} {z : Str} {l : List Str} (h : At ws p (z :: l)) : ws[p]? = some z ∧ At ws (p + 1) l := by
  obtain ⟨rest, e⟩ := h
  refine ⟨?_, rest, ?_⟩
  · have : (ws.drop p)[0]? = some z := by rw [e]; rfl
    rw [List.getElem?_drop] at this
    exact this
  · rw [← List.drop_drop, e]; rfl
theorem At.left {ws : List Str} {p : Nat} {l r : List Str} (h : At ws p (l ++ r)) : At ws p l := let ⟨rest, e⟩ := h; ⟨r ++ rest, by rw [e, List.append_assoc]⟩
theorem At.right {ws : List Str} {p : Nat} {l r : List Str} (h : At ws p (l ++ r)) : At ws (p + l.length) r := by
  obtain ⟨rest, e⟩ := h
  refine ⟨rest, ?_⟩
  rw [← List.drop_drop, e, List.append_assoc, List.drop_left]
def Nd.nok (nd : Nd) : Prop := ∀ n ∈ nd.names, NameOk n
end U
/-! ### text L2k -/
set_option maxHeartbeats 4000000
namespace U
open PySem PySem.Spec PyProof.Rows L2 LamX NdefX
/-! ### sorted(rows, key=lambda row: row[0]) -/
section
variable {P : Program} {w : World} {A : Around} {s : Shared}
theorem lam_key {f c t : Addr} {od : Option Addr} {sl : Array (Option Value)} {qual x : Str} {params : Arguments} {scope : Scope} {cl : List (Str × Addr)} {pm ctv : Value} {p1 p2 p3 : Pos} {kd : Nat} {its : Array Value} {n : Int} {tk : Tok}
    (hd : A.depth < recursionLimit) (ho : s.heap.get? f = some (⟨.type "function", od, .func (PySem.W.kla_fn "<lambda>" qual params (.Subscript (.Name x p1) (.Constant (.int 0) kd p2) p3) scope cl pm (.ref c) ctv), sl⟩ : Obj)) (hcd : s.heap.CodeRec (.ref c) qual)
    (hb : bindArgs (PySem.W.kla_fn "<lambda>" qual params (.Subscript (.Name x p1) (.Constant (.int 0) kd p2) p3) scope cl pm (.ref c) ctv) ⟨[.ref t], []⟩ = pure [(x, .ref t)])
    (hco : scope.isCoroutine = false) (hgen : scope.isGenerator = false) (hk : scope.kind = .function) (hcell : ∀ y ∈ scope.names, y.2 ≠ .cell) (hx : scope.names.lookup x = some .local) (hdb : (x == ("__debug__" : Str)) = false)
    (lim : s.heap.NoLimit) (ht : IsTup s.heap t its) (h0 : its[0]? = some (.int n tk)) :
    wpAny (model P w) A (call (.ref f) [.ref t]) (PySem.W.KeyPure (.int n) s) (fun _ _ => False) s := by
  refine wpAny_call ?_
  refine PySem.W.kla_callFunE hd ho rfl hco hgen rfl hcd ?_
  rw [hb]
  refine wpAny_pure (wpAny_newFunctionEnv hcell (fun y hy => ?_) (fun h₁ hns hsb => ⟨lim.fresh _ hsb, ?_⟩) hk)
  · obtain rfl := List.mem_singleton.mp hy
    exact hx
  have hk₁ : ∀ b o, s.heap.get? b = some o → h₁.get? b = some o := fun b o e => hsb.extBut b o (Nat.ne_of_lt (Heap.lt_size e)) (Heap.get?_push_of_some _ e)
  refine PySem.W.kla_codeExpr ?_
  refine wpAny_Subscript_Constant_late ?_
  refine wpAny_Name (wpAny_loadName_local hk hx hns (by simp : (List.lookup x [(x, Value.ref t)].reverse) = some (.ref t)) ?_) hdb
  refine wpAny_Constant_int ?_
  have ht1 : IsTup h₁ t its := ht.keeps hk₁
  refine ⟨_, _, slot_tuple_getitem.lookup, ht1.typeIs, ?_⟩
  have hsz : 0 < its.size := (Array.getElem?_eq_some_iff.mp h0).1
  refine getItem_tuple (j := 0) ht1 (by omega) (by omega) ?_ h0 ?_
  · unfold seqIndex?
    simp [hsz]
  · exact ⟨h₁, _, rfl, hk₁, .int _ _⟩
end
/-- what a key lambda is: the first item of its argument -/
structure KeyLam (F : NF) (b : Expr) (x : Str) : Prop where
  nm : F.name = "<lambda>"
  sh : ∃ p1 kd p2 p3, b = .Subscript (.Name x p1) (.Constant (.int 0) kd p2) p3
  bd : ∀ (pm ctv : Value) (u : Value), bindArgs (lfd F b pm ctv) ⟨[u], []⟩ = pure [(x, u)]
  co : F.scope.isCoroutine = false
  gen : F.scope.isGenerator = false
  kind : F.scope.kind = .function
  cell : ∀ y ∈ F.scope.names, y.2 ≠ .cell
  loc : F.scope.names.lookup x = some .local
  db : (x == ("__debug__" : Str)) = false
theorem each_of : ∀ {xs : List V} {us : List Value}, Vals xs us → PySem.W.EachIs (fun v x => RelV x v) us xs
  | _, _, .nil => .nil
  | _, _, .cons r t => .cons r (each_of t)
theorem vals_each : ∀ {us : List Value} {xs : List V}, PySem.W.EachIs (fun v x => RelV x v) us xs → Vals xs us
  | _, _, .nil => .nil
  | _, _, .cons r t => .cons r (vals_each t)
def rSortK (K : PySem.W.Frag) : List V → List V → Hp → VK → Prop := fun vs zs H Q => ∃ (a f : Addr) (xs : List V) (F : NF) (b : Expr) (x : Str) (k : V → Int), vs = [V.ref a] ∧ zs = [.ref f] ∧ SqL K H a xs ∧ H f = some (LfO f F b) ∧ H F.c = some (CodeO F.c F.qual) ∧ KeyLam F b x ∧
  (∀ y ∈ xs, ∃ t r, y = V.ref t ∧ SqT K H t (.int (k y) :: r)) ∧ ∀ p, H p = none → Q (.ref p) (upd H p (.lst (xs.mergeSort fun p q => decide (k p ≤ k q))))
section
variable {X : Cx}
theorem cr_sortK (k0 : Nat) (hr : Room k0 X.A) : CallRK X (.builtin "sorted") [Str.ofString "key"] (rSortK X.K) := by
  intro pins s σ H vs zs us ws Q I r rz h
  obtain ⟨a, f, xs, F, b, x, k, rfl, rfl, hs, hf, hc, KL, hk, q⟩ := h
  obtain rfl := Vals.ref1 r
  obtain ⟨w1, rfl, e1⟩ := vals1 rz
  obtain rfl : w1 = Value.ref f := e1
  obtain ⟨its, rv, hl, hz⟩ := I.list hs
  obtain ⟨od, sl, pm, ctv, ho⟩ := lfO_at I.hok hf
  have hcr := codeO_at I.hok hc
  obtain ⟨nm, ⟨p1, kd, p2, p3, rfl⟩, bd, co, gen, kind, cell, loc, db⟩ := KL
  have lim : s.heap.NoLimit := I.ok.mod.nolimit.keeps I.bk
  refine PySem.W.sorted_key_data (b := false) (β := V) (fun y => PyData.int (k y)) hl.isList (each_of rv) (PySem.W.AllAlike.of fun _ _ => by simp [PySem.W.alike]) (.inr fun d hd => ?_) hz (fun y _ => ?_) (PyProof.Rows.ksk_s1 _ _) (fun _ => PyProof.Rows.ksk_l1 _ _) (fun _ => PyProof.Rows.ksk_t1 _ _) (fun v y ry hy h tk kp => ?_) fun out c h' tk kp hn hD hlen eo => ?_
  · obtain ⟨y, _, rfl⟩ := List.mem_map.mp hd
    exact ⟨fun e => (by cases e), fun _ e => (by cases e)⟩
  · have := hr.un
    have hd : (PyData.int (k y)).depth = 0 := by simp [PyData.depth]
    omega
  · obtain ⟨t, rr, rfl, ht⟩ := hk y hy
    obtain rfl : v = Value.ref t := ry
    obtain ⟨its2, r2, p2', _⟩ := I.tuple ht
    cases r2 with
    | cons r0 r2 =>
      obtain ⟨tk0, rfl⟩ := r0
      have ho' := kp _ _ ho
      have hnm : lfd F (.Subscript (.Name x p1) (.Constant (.int 0) kd p2) p3) pm ctv = PySem.W.kla_fn "<lambda>" F.qual F.params (.Subscript (.Name x p1) (.Constant (.int 0) kd p2) p3) F.scope F.cl pm (.ref F.c) ctv := rfl
      obtain ⟨c', oc, cvs, tq, e1, e2, e3, e4⟩ := hcr
      exact lam_key (s := { s with heap := h, toks := tk }) (P := X.prog) (w := X.w) (A := X.A.in1.in1) (by have := hr.dp; show X.A.depth < _; omega) ho' ⟨c', oc, cvs, tq, e1, kp _ _ e2, e3, e4⟩ (bd pm ctv _) co gen kind cell loc db (lim.keeps kp) (p2'.keeps kp) rfl
  · rw [PySem.W.dataLe_int] at eo
    have hlen2 : (xs.mergeSort fun p q => decide (k p ≤ k q)).length ≤ sizeLine := by rw [List.length_mergeSort]; exact hz
    have hf2 : H (s.heap.objs.size + 1) = none := I.hok.fresh (Nat.le_succ _)
    exact ⟨.ref _, upd H (s.heap.objs.size + 1) (.lst (xs.mergeSort fun p q => decide (k p ≤ k q))), I.laid (t' := tk) kp (Nat.le_succ _) ⟨hlen2, out, c, vals_each eo, hD⟩, rfl, q _ hf2⟩
end
section
variable {X : Cx} {B : Bs} {lv : Nat} {sc : Scope} {vm sm : List Bool} {gs : List Str} {N : List Str} {σ : L2.St} {H : Hp} {Q : VK} {p pos kpos : Pos} {e lam : Expr}
/-- sorted(e, key=lam) -/
theorem we_sortK (g : Gd B lv sc N vm sm gs X) (hx : ("sorted" : Str) ∈ gs) (hm : B.mg "sorted" = none) (h : WE X e σ H fun v H1 => WE X lam σ H1 fun z H2 => rSortK B.K [v] [z] H2 Q)
    (he : backTo pos (starEach [e] X.env) = (false, eval e X.env) :: backTo pos (starEach [] X.env) := by rfl) (hpl : (backTo pos (starEach [e] X.env)).any (·.1) = false := by rfl)
    (hall : (backToKw pos (keywordEach [⟨some (Str.ofString "key"), lam, kpos⟩] X.env)).all (·.1.isSome) = true := by rfl) (hnone : (backToKw pos (keywordEach [⟨some (Str.ofString "key"), lam, kpos⟩] X.env)).any (·.1.isNone) = false := by rfl) (hks : (backToKw pos (keywordEach [⟨some (Str.ofString "key"), lam, kpos⟩] X.env)).filterMap (·.1) = [Str.ofString "key"] := by rfl)
    (he2 : starEach [e] X.env = (false, eval e X.env) :: starEach [] X.env := by rfl) : WE X (.Call (.Name "sorted" p) [e] [⟨some (Str.ofString "key"), lam, kpos⟩] pos) σ H Q := by
  refine ⟨_, pe_callBK (cr_sortK lv g.room) (g.glo hx) (by rw [g.eg]; exact hm) (by decide +kernel) p_a (pk_cons p_e pk_nil) (by decide +kernel) (by decide +kernel) he hpl hall hnone hks, ?_⟩
  refine wa_cons (we_mono h fun v H1 hq => wa_nil ?_) he2
  refine we_mono hq fun z H2 hq2 => ?_
  show rSortK X.K [v] (z :: []) H2 Q
  rw [g.eK]
  exact hq2
end
end U
/-! ### text M5 -/
set_option maxHeartbeats 4000000
namespace U
open PySem PySem.Spec PyProof.Rows L2 TL
/-! ### rows of days -/
abbrev Row := Int × Int × Option Int
def RowR (G : Hp) (v : V) (r : Row) : Prop := ∃ t, v = .ref t ∧ G t = some (.tup [.int r.1, .int r.2.1, oV r.2.2])
theorem RowR.up {G G' : Hp} (e : Same G G') {v : V} {r : Row} (h : RowR G v r) : RowR G' v r := let ⟨t, h1, h2⟩ := h; ⟨t, h1, e _ _ h2⟩
def putB (rows : List Row) (f l : Int) (mk : Option Int) : List Row := match rows.getLast? with
  | some (a, b, c) => if b + 1 = f ∧ c = mk then rows.dropLast ++ [(a, l, mk)] else rows ++ [(f, l, mk)]
  | none => [(f, l, mk)]
theorem putB_nil (f l : Int) (mk : Option Int) : putB [] f l mk = [(f, l, mk)] := rfl
theorem putB_snoc (L : List Row) (a b : Int) (c : Option Int) (f l : Int) (mk : Option Int) : putB (L ++ [(a, b, c)]) f l mk = if b + 1 = f ∧ c = mk then L ++ [(a, l, mk)] else L ++ [(a, b, c)] ++ [(f, l, mk)] := by
  unfold putB
  rw [List.getLast?_concat, List.dropLast_concat]
theorem putB_len (rows : List Row) (f l : Int) (mk : Option Int) : (putB rows f l mk).length ≤ rows.length + 1 := by
  rcases List.eq_nil_or_concat rows with e | ⟨L, ⟨a, b, c⟩, e⟩
  · rw [e]; simp [putB_nil]
  · rw [e, List.concat_eq_append, putB_snoc]
    split <;> simp
def sortR (rows : List Row) : List Row := rows.mergeSort fun a b => decide (a.1 ≤ b.1)
def joinR (rows : List Row) : List Row := (sortR rows).foldl (fun acc r => putB acc r.1 r.2.1 r.2.2) []
theorem Fa.snoc {T : Type} {R : V → T → Prop} {vs : List V} {L : List T} {b : T} (h : Fa R vs (L ++ [b])) : ∃ us v, vs = us ++ [v] ∧ Fa R us L ∧ R v b := by
  induction L generalizing vs with
  | nil =>
    cases h with
    | cons r h => cases h; exact ⟨[], _, rfl, .nil, r⟩
  | cons a L ih =>
    cases h with
    | cons r h =>
      obtain ⟨us, v, rfl, h1, h2⟩ := ih h
      exact ⟨_ :: us, v, rfl, .cons r h1, h2⟩
theorem Fa.each {T : Type} {R : V → T → Prop} {vs : List V} {ts : List T} (h : Fa R vs ts) : PySem.W.EachIs R vs ts := by
  induction h with
  | nil => exact .nil
  | cons r _ ih => exact .cons r ih
theorem each_fa {T : Type} {R : V → T → Prop} {vs : List V} {ts : List T} (h : PySem.W.EachIs R vs ts) : Fa R vs ts := by
  induction h with
  | nil => exact .nil
  | cons r _ ih => exact .cons r ih
def keyV (G : Hp) : V → Int
  | .ref t => match G t with
    | some (.tup (.int n :: _)) => n
    | _ => 0
  | _ => 0
theorem keyV_row {G : Hp} {v : V} {r : Row} (h : RowR G v r) : keyV G v = r.1 := by
  obtain ⟨t, rfl, h⟩ := h
  unfold keyV
  simp only [h]
theorem sort_rows {G : Hp} {vs : List V} {rows : List Row} (h : Fa (RowR G) vs rows) : Fa (RowR G) (vs.mergeSort fun p q => decide (keyV G p ≤ keyV G q)) (sortR rows) := by
  refine each_fa (PySem.W.sort_each h.each fun p hp q hq => ?_)
  rw [keyV_row (h.each.zip p hp), keyV_row (h.each.zip q hq)]
/-- rows as data -/
def rowD (r : Row) : PyData := .tuple [.int r.1, .int r.2.1, match r.2.2 with | none => .none | some i => .int i]
theorem row_dp {K : PySem.W.Frag} {G : Hp} {v : V} {r : Row} (h : RowR G v r) : Dp K G v (rowD r) := by
  obtain ⟨t, rfl, h⟩ := h
  obtain ⟨a, b, c⟩ := r
  refine .tup (sqt h) (.cons (.int a) (.cons (.int b) (.cons ?_ .nil)))
  cases c with
  | none => exact .non
  | some i => exact .int i
theorem rows_dp {K : PySem.W.Frag} {G : Hp} {vs : List V} {rows : List Row} (h : Fa (RowR G) vs rows) : DpAll K G vs (rows.map rowD) := by
  induction h with
  | nil => exact .nil
  | cons r _ ih => exact .cons (row_dp r) ih
theorem shaped_rows (rows : List Row) : SeqAt.shaped (.list (rows.map rowD)) = true := shaped_list (k := 1) (by decide) fun d hd => by
  obtain ⟨⟨a, b, c⟩, _, rfl⟩ := List.mem_map.mp hd
  cases c <;> simp [rowD, PyData.canLay0, PyData.canLayAll0, PyData.depth, PyData.depthAll]
def canJ (rows : List Row) (f : Int) (mk : Option Int) : Bool := match rows.getLast? with
  | some (_, b, c) => decide (b + 1 = f) && decide (c = mk)
  | none => false
theorem canJ_snoc (L : List Row) (a b : Int) (c : Option Int) (f : Int) (mk : Option Int) : canJ (L ++ [(a, b, c)]) f mk = (decide (b + 1 = f) && decide (c = mk)) := by
  unfold canJ
  rw [List.getLast?_concat]
theorem putB_no {rows : List Row} {f : Int} {mk : Option Int} (l : Int) (h : canJ rows f mk = false) : putB rows f l mk = rows ++ [(f, l, mk)] := by
  rcases List.eq_nil_or_concat rows with e | ⟨L, ⟨a, b, c⟩, e⟩
  · rw [e]; rfl
  · rw [List.concat_eq_append] at e
    subst e
    rw [canJ_snoc] at h
    rw [putB_snoc, if_neg]
    rintro ⟨h1, h2⟩
    simp [h1, h2] at h
end U
/-! ### text M6 -/
set_option maxHeartbeats 4000000
namespace U
open PySem PySem.Spec PyProof.Rows L2 TL
/-! ### the book -/
structure Ent where
  key : Str
  f : Int
  l : Int
  v : Int
  turn : Nat
structure Bk where
  ns : List Str
  ent : List Ent
  gone : List (Nat × Nat)
  nd : Nat
  hist : Str → List (Nat × List Row)
def EntR (G : Hp) (v : V) (e : Ent) : Prop := ∃ t, v = .ref t ∧ G t = some (.tup [.str e.key, .int e.f, .int e.l, .int e.v, .int e.turn])
theorem EntR.up {G G' : Hp} (e : Same G G') {v : V} {r : Ent} (h : EntR G v r) : EntR G' v r := let ⟨t, h1, h2⟩ := h; ⟨t, h1, e _ _ h2⟩
def HistR (G : Hp) (v : V) (p : Nat × List Row) : Prop := ∃ t s svs, v = .ref t ∧ G t = some (.tup [.int p.1, .ref s]) ∧ G s = some (.lst svs) ∧ Fa (RowR G) svs p.2
theorem HistR.up {G G' : Hp} (e : Same G G') {v : V} {r : Nat × List Row} (h : HistR G v r) : HistR G' v r := let ⟨t, s, svs, h1, h2, h3, h4⟩ := h; ⟨t, s, svs, h1, e _ _ h2, e _ _ h3, h4.mono fun _ _ z => z.up e⟩
abbrev gkv (gone : List (Nat × Nat)) : List (Key × V) := gone.map fun p => (.inl (p.1 : Int), .int p.2)
abbrev skv (ns : List Str) (hs : List (Addr × List V)) : List (Key × V) := (ns.zip hs).map fun p => (.inr p.1, .ref p.2.1)
/-- where the book's parts stand -/
structure Bp where
  b : Addr
  dx : Addr
  an : Addr
  ae : Addr
  ag : Addr
  ad : Addr
  as_ : Addr
  evs : List V
  dvs : List V
  hs : List (Addr × List V)
abbrev bkO (B : Bs) (p : Bp) : HO := .ins (He.ga B.K "Book") p.dx [("names", .ref p.an), ("entered", .ref p.ae), ("gone", .ref p.ag), ("deeds", .ref p.ad), ("strips", .ref p.as_)]
/-- its changing points -/
def Bp.pts (B : Bs) (p : Bp) (S : Bk) : List (Addr × HO) := (p.b, bkO B p) :: (p.as_, .dK (skv S.ns p.hs)) :: (p.ad, .lst p.dvs) :: (p.ag, .dK (gkv S.gone)) :: (p.ae, .lst p.evs) :: p.hs.map fun q => (q.1, .lst q.2)
/-- what they tell -/
structure BkR (p : Bp) (S : Bk) (G : Hp) : Prop where
  an : G p.an = some (.lst (S.ns.map V.str))
  ev : Fa (EntR G) p.evs S.ent
  dv : p.dvs.length = S.nd
  hl : p.hs.length = S.ns.length
  hr : ∀ (i : Nat) (n : Str) (q : Addr × List V), S.ns[i]? = some n → p.hs[i]? = some q → Fa (HistR G) q.2 (S.hist n)
  nd : S.ns.Nodup
  sz : S.ns.length ≤ 8 ∧ S.ent.length ≤ 60 ∧ S.gone.length ≤ 60 ∧ S.nd ≤ 60 ∧ ∀ n, (S.hist n).length ≤ 61
  st : ∀ n, ∀ q ∈ S.hist n, q.2.length ≤ 400
theorem BkR.up {p : Bp} {S : Bk} {G G' : Hp} (e : Same G G') (h : BkR p S G) : BkR p S G' :=
  ⟨e _ _ h.an, h.ev.mono fun _ _ z => z.up e, h.dv, h.hl, fun i n q h1 h2 => (h.hr i n q h1 h2).mono fun _ _ z => z.up e, h.nd, h.sz, h.st⟩
/-- the book stands among the points -/
structure BkM (B : Bs) (p : Bp) (S : Bk) (m : List (Addr × HO)) (G : Hp) : Prop where
  r : BkR p S G
  m : ∀ q ∈ p.pts B S, q ∈ m
theorem BkM.up {B : Bs} {p : Bp} {S : Bk} {m m' : List (Addr × HO)} {G G' : Hp} (h : BkM B p S m G) (e : Same G G') (k : ∀ q ∈ m, q ∈ m') : BkM B p S m' G' := ⟨h.r.up e, fun q hq => k q (h.m q hq)⟩
section
variable {B : Bs} {p : Bp} {S : Bk} {m : List (Addr × HO)} {G H : Hp}
theorem BkM.ob (h : BkM B p S m G) (hS : Hs B m G H) : H p.b = some (bkO B p) := hS.at (h.m (p.b, bkO B p) (by simp [Bp.pts]))
theorem BkM.en (h : BkM B p S m G) (hS : Hs B m G H) : H p.ae = some (.lst p.evs) := hS.at (h.m (p.ae, .lst p.evs) (by simp [Bp.pts]))
theorem BkM.go (h : BkM B p S m G) (hS : Hs B m G H) : H p.ag = some (.dK (gkv S.gone)) := hS.at (h.m (p.ag, .dK (gkv S.gone)) (by simp [Bp.pts]))
theorem BkM.de (h : BkM B p S m G) (hS : Hs B m G H) : H p.ad = some (.lst p.dvs) := hS.at (h.m (p.ad, .lst p.dvs) (by simp [Bp.pts]))
theorem BkM.sd (h : BkM B p S m G) (hS : Hs B m G H) : H p.as_ = some (.dK (skv S.ns p.hs)) := hS.at (h.m (p.as_, .dK (skv S.ns p.hs)) (by simp [Bp.pts]))
theorem BkM.nm (h : BkM B p S m G) (hS : Hs B m G H) : H p.an = some (.lst (S.ns.map V.str)) := hS.g _ _ h.r.an
theorem BkM.ht (h : BkM B p S m G) (hS : Hs B m G H) {i : Nat} {a : Addr} {vs : List V} (hq : p.hs[i]? = some (a, vs)) : H a = some (.lst vs) := by
  refine hS.at (q := (a, .lst vs)) (h.m _ ?_)
  unfold Bp.pts
  iterate 5 refine List.mem_cons_of_mem _ ?_
  exact List.mem_map.mpr ⟨(a, vs), List.mem_of_getElem? hq, rfl⟩
/-- a key's place -/
theorem skv_at : ∀ {ns : List Str} {hs : List (Addr × List V)} {n : Str}, ns.Nodup → hs.length = ns.length → n ∈ ns → ∃ (i : Nat) (q : Addr × List V), ns[i]? = some n ∧ hs[i]? = some q ∧ valV (skv ns hs) (.inr n) = some (.ref q.1)
  | [], _, _, _, _, h => by cases h
  | a :: ns, [], _, _, h, _ => by simp at h
  | a :: ns, q :: hs, n, nd, hl, h => by
    by_cases e : a = n
    · subst e
      exact ⟨0, q, rfl, rfl, valV_pos rfl⟩
    · have hm : n ∈ ns := by
        rcases List.mem_cons.mp h with z | z
        · exact absurd z.symm e
        · exact z
      obtain ⟨i, q', h1, h2, h3⟩ := skv_at (hs := hs) (List.nodup_cons.mp nd).2 (by simpa using hl) hm
      refine ⟨i + 1, q', h1, h2, ?_⟩
      show valV ((.inr a, .ref q.1) :: skv ns hs) (.inr n) = _
      rw [valV_neg (by intro z; cases z; exact e rfl)]
      exact h3
end
def stripAt (h : List (Nat × List Row)) (t : Nat) : List Row := h.foldl (fun acc p => if p.1 ≤ t then p.2 else acc) []
theorem Hs.setI {B : Bs} {m : List (Addr × HO)} {G H : Hp} {i : Nat} {a : Addr} {u u' : HO} (h : Hs B m G H) (hi : m[i]? = some (a, u)) (ho : oddO u' = false) : Hs B (m.set i (a, u')) G (upd H a u') := by
  have hlt := (List.getElem?_eq_some_iff.mp hi).1
  have e1 : m = m.take i ++ (a, u) :: m.drop (i + 1) := by
    have := List.drop_eq_getElem_cons hlt
    rw [List.getElem?_eq_getElem hlt] at hi
    rw [Option.some.inj hi] at this
    rw [← this, List.take_append_drop]
  have e2 : m.set i (a, u') = m.take i ++ (a, u') :: m.drop (i + 1) := by
    rw [List.set_eq_take_append_cons_drop, if_pos hlt]
  rw [e1] at h
  rw [e2]
  exact ((h.perm List.perm_middle).set ho).perm List.perm_middle.symm
/-- a turn that is asked for: told, or the last -/
def turnV (nd : Nat) (t : Option Nat) : Nat := t.getD nd
def tV : Option Nat → V
  | none => .non
  | some i => .int i
end U
/-! ### text M7 -/
set_option maxHeartbeats 4000000
namespace U
open PySem PySem.Spec PyProof.Rows L2 TL
/-! ### who speaks -/
def markF (rows : List Row) (d : Int) : Option Int := rows.foldl (fun acc r => if r.1 ≤ d ∧ d ≤ r.2.1 then r.2.2 else acc) none
theorem markF_snoc (rows : List Row) (r : Row) (d : Int) : markF (rows ++ [r]) d = if r.1 ≤ d ∧ d ≤ r.2.1 then r.2.2 else markF rows d := by
  unfold markF
  rw [List.foldl_append]; rfl
def spkS (S : Bk) (t : Option Nat) (n : Str) (d : Int) : Option Int := markF (stripAt (S.hist n) (turnV S.nd t)) d
def tellS (S : Bk) (t : Option Nat) : Tell := fun n d => (spkS S t n d).bind fun i => (S.ent[i.toNat]?).map (·.v)
/-- the rows lie in the days; the marks are findings -/
def DayB (rows : List Row) : Prop := ∀ r ∈ rows, 0 ≤ r.1 ∧ r.1 ≤ 399 ∧ r.2.1 ≤ 399 ∧ -1 ≤ r.2.1
structure BkG (S : Bk) : Prop where
  day : ∀ n, ∀ q ∈ S.hist n, DayB q.2
  mark : ∀ n, ∀ q ∈ S.hist n, ∀ r ∈ q.2, ∃ k : Nat, r.2.2 = some (k : Int) ∧ k < S.ent.length
theorem stripAt_mem {h : List (Nat × List Row)} {t : Nat} {r : Row} (hr : r ∈ stripAt h t) : ∃ q ∈ h, r ∈ q.2 := by
  unfold stripAt at hr
  have : ∀ (l : List (Nat × List Row)) (acc : List Row), r ∈ l.foldl (fun acc p => if p.1 ≤ t then p.2 else acc) acc → r ∈ acc ∨ ∃ q ∈ l, r ∈ q.2 := by
    intro l
    induction l with
    | nil => intro acc h; exact .inl h
    | cons a l ih =>
      intro acc h
      rcases ih _ h with h | ⟨q, hq, h⟩
      · dsimp only at h
        split at h
        · exact .inr ⟨a, List.mem_cons_self, h⟩
        · exact .inl h
      · exact .inr ⟨q, List.mem_cons_of_mem _ hq, h⟩
  rcases this h [] hr with h | h
  · cases h
  · exact h
theorem markF_mem : ∀ {rows : List Row} {d i : Int}, markF rows d = some i → ∃ r ∈ rows, r.1 ≤ d ∧ d ≤ r.2.1 ∧ r.2.2 = some i := by
  intro rows d i h
  unfold markF at h
  have : ∀ (l : List Row) (acc : Option Int), l.foldl (fun acc r => if r.1 ≤ d ∧ d ≤ r.2.1 then r.2.2 else acc) acc = some i → acc = some i ∨ ∃ r ∈ l, r.1 ≤ d ∧ d ≤ r.2.1 ∧ r.2.2 = some i := by
    intro l
    induction l with
    | nil => intro acc h; exact .inl h
    | cons a l ih =>
      intro acc h
      rcases ih _ h with h | ⟨q, hq, h⟩
      · dsimp only at h
        split at h
        · rename_i hc; exact .inr ⟨a, List.mem_cons_self, hc.1, hc.2, h⟩
        · exact .inl h
      · exact .inr ⟨q, List.mem_cons_of_mem _ hq, h⟩
  rcases this rows none h with h | h
  · cases h
  · exact h
theorem BkG.spk {S : Bk} (g : BkG S) {t : Option Nat} {n : Str} {d i : Int} (h : spkS S t n d = some i) : ∃ (k : Nat) (e : Ent), i = (k : Int) ∧ S.ent[k]? = some e ∧ tellS S t n d = some e.v := by
  obtain ⟨r, hr, _, _, hm⟩ := markF_mem h
  obtain ⟨q, hq, hrq⟩ := stripAt_mem hr
  obtain ⟨k, hk, hlt⟩ := g.mark n q hq r hrq
  rw [hm] at hk
  obtain rfl := Option.some.inj hk
  refine ⟨k, S.ent[k], rfl, List.getElem?_eq_getElem hlt, ?_⟩
  unfold tellS
  rw [h]
  simp [List.getElem?_eq_getElem hlt]
theorem nodup_le {α : Type} [DecidableEq α] : ∀ {l m : List α}, l.Nodup → (∀ x ∈ l, x ∈ m) → l.length ≤ m.length
  | [], _, _, _ => Nat.zero_le _
  | a :: l, m, nd, h => by
    have ha := h a List.mem_cons_self
    have := nodup_le (l := l) (m := m.erase a) (List.nodup_cons.mp nd).2 fun x hx => by
      have hne : x ≠ a := fun e => (List.nodup_cons.mp nd).1 (e ▸ hx)
      exact (List.mem_erase_of_ne hne).mpr (h x (List.mem_cons_of_mem _ hx))
    rw [List.length_erase_of_mem ha] at this
    have hp : 0 < m.length := List.length_pos_of_mem ha
    simp only [List.length_cons]
    omega
/-! ### a reading -/
structure Rg where
  r : Addr
  dx : Addr
  sp : Addr
  se : Addr
  spl : List (Str × Addr × List (Key × V))
  sel : List (Str × Addr × List Int)
abbrev dayD (ds : List Int) : List (Key × V) := ds.map fun d => (.inl d, .bl true)
abbrev spD (l : List (Str × Addr × List (Key × V))) : List (Key × V) := l.map fun x => (.inr x.1, .ref x.2.1)
abbrev seD (l : List (Str × Addr × List Int)) : List (Key × V) := l.map fun x => (.inr x.1, .ref x.2.1)
abbrev rdO (B : Bs) (R : Rg) (b : Addr) (t : Option Nat) : HO := .ins (He.ga B.K "Reading") R.dx [("book", .ref b), ("turn", tV t), ("speakers", .ref R.sp), ("seen", .ref R.se)]
def Rg.pts (B : Bs) (R : Rg) (b : Addr) (t : Option Nat) : List (Addr × HO) := [(R.r, rdO B R b t), (R.sp, .dK (spD R.spl)), (R.se, .dK (seD R.sel))]
/-- its dicts by names -/
def Rg.spd (R : Rg) : List (Addr × HO) := R.spl.map fun x => (x.2.1, HO.dK x.2.2)
def Rg.sed (R : Rg) : List (Addr × HO) := R.sel.map fun x => (x.2.1, HO.dK (dayD x.2.2))
def Rg.dps (R : Rg) : List (Addr × HO) := R.spd ++ R.sed
structure SpOk (S : Bk) (t : Option Nat) (R : Rg) : Prop where
  sp : ∀ x ∈ R.spl, x.1 ∈ S.ns ∧ ∀ d : Int, (valV x.2.2 (.inl d)).getD .non = oV (spkS S t x.1 d)
  spn : (R.spl.map (·.1)).Nodup
structure RgOk (S : Bk) (t : Option Nat) (R : Rg) (log : Log) : Prop where
  sp : ∀ x ∈ R.spl, x.1 ∈ S.ns ∧ ∀ d : Int, (valV x.2.2 (.inl d)).getD .non = oV (spkS S t x.1 d)
  se : ∀ x ∈ R.sel, x.1 ∈ S.ns ∧ x.2.2.Nodup ∧ ∀ d : Int, d ∈ x.2.2 ↔ (x.1, d) ∈ log
  spn : (R.spl.map (·.1)).Nodup
  sen : (R.sel.map (·.1)).Nodup
  lg : ∀ p ∈ log, p.1 ∈ R.sel.map (·.1) ∧ 0 ≤ p.2 ∧ p.2 ≤ 399
  ne : ∀ x ∈ R.sel, x.2.2 ≠ []
/-- a reading's state -/
def RdP (B : Bs) (p : Bp) (S : Bk) (t : Option Nat) (r : Addr) (log : Log) (pts : List (Addr × HO)) : Prop :=
  ∃ R : Rg, R.r = r ∧ pts = R.pts B p.b t ++ (R.dps ++ p.pts B S) ∧ RgOk S t R log
theorem dk_at {α : Type} {l : List (Str × Addr × α)} {n : Str} : (n ∉ l.map (·.1) ∧ valV (l.map fun x => ((.inr x.1 : Key), V.ref x.2.1)) (.inr n) = none) ∨ ∃ (i : Nat) (x : Str × Addr × α), l[i]? = some x ∧ x.1 = n ∧ valV (l.map fun x => ((.inr x.1 : Key), V.ref x.2.1)) (.inr n) = some (.ref x.2.1) := by
  induction l with
  | nil => exact .inl ⟨by simp, rfl⟩
  | cons y l ih =>
    by_cases e : y.1 = n
    · exact .inr ⟨0, y, rfl, e, valV_pos (by show (Sum.inr y.1 : Key) = _; rw [e])⟩
    · rcases ih with ⟨h1, h2⟩ | ⟨i, x, h1, h2, h3⟩
      · refine .inl ⟨by simp only [List.map_cons, List.mem_cons, not_or]; exact ⟨fun z => e z.symm, h1⟩, ?_⟩
        rw [List.map_cons, valV_neg (by intro z; cases z; exact e rfl)]
        exact h2
      · refine .inr ⟨i + 1, x, h1, h2, ?_⟩
        rw [List.map_cons, valV_neg (by intro z; cases z; exact e rfl)]
        exact h3
theorem putK_day (ds : List Int) (d : Int) : putK (dayD ds) (.inl d) (.bl true) = dayD (if d ∈ ds then ds else ds ++ [d]) := by
  have hv : (valV (dayD ds) (.inl d)).isSome = decide (d ∈ ds) := by
    rw [← valV_any]
    unfold dayD
    rw [List.any_map, Bool.eq_iff_iff, List.any_eq_true, decide_eq_true_eq]
    constructor
    · rintro ⟨z, hz, e⟩
      have : ((Sum.inl z : Key) = .inl d) := by simpa using e
      injection this with h
      exact h ▸ hz
    · intro h
      exact ⟨d, h, by simp⟩
  by_cases h : d ∈ ds
  · rw [if_pos h]
    unfold putK
    rw [valV_any, hv, if_pos (by simpa using h)]
    unfold dayD
    rw [List.map_map]
    refine List.map_congr_left fun z _ => ?_
    show (if (Sum.inl z : Key) = .inl d then ((Sum.inl z : Key), V.bl true) else (.inl z, .bl true)) = _
    split <;> rfl
  · rw [if_neg h, putK_new]
    · unfold dayD; rw [List.map_append]; rfl
    · rw [decide_eq_false h] at hv
      exact Option.isSome_eq_false_iff.mp hv |> Option.isNone_iff_eq_none.mp
end U
/-! ### text U5 -/
set_option maxHeartbeats 4000000
namespace U
open PySem PySem.Spec PyProof.Rows L2 TL
section
variable {X : Cx} {B : Bs} {lv : Nat} {sc : Scope} {vm sm : List Bool} {gs : List Str} {N : List Str} {σ : L2.St} {H G : Hp} {Q : VK} {D : Ends} {m : List (Addr × HO)}
/-- a statement during which the dict at d is locked -/
theorem ws_lock {st : Stmt} {d : Addr} {kvs : List (Key × V)} (hd : H d = some (.dK kvs))
    (h : ∀ od, WS X st ⟨fun σ' H' => H' d = some (.frz od (.dK kvs)) ∧ D.nx σ' (upd H' d (.dK kvs)), fun v H' => H' d = some (.frz od (.dK kvs)) ∧ D.rt v (upd H' d (.dK kvs)), fun σ' H' => H' d = some (.frz od (.dK kvs)) ∧ D.bk σ' (upd H' d (.dK kvs)), fun σ' H' => H' d = some (.frz od (.dK kvs)) ∧ D.ct σ' (upd H' d (.dK kvs))⟩ σ (upd H d (.frz od (.dK kvs)))) : WS X st D σ H :=
  ⟨_, ps_lock p_s, d, .dK kvs, hd, trivial, h⟩
theorem wcl_sortedD (g : Gd B lv sc N vm sm gs X) {a : Addr} {kvs : List (Key × V)} {ks : List Str} (hd : H a = some (.dK kvs)) (hk : kvs.map (·.1) = ks.map Sum.inr) (hl : ks.length < 64)
    (h : ∀ ys p, ys.Perm ks → sortedS ys = true → H p = none → Q (.ref p) (upd H p (.lst (ys.map V.str)))) : WCl X (.builtin "sorted") [.ref a] H Q :=
  ⟨_, call_sortedD g.calm, a, kvs, ks, rfl, .inl hd, hk, hl, h⟩
end
theorem Hs.dropL {B : Bs} {G H : Hp} : ∀ {x y : List (Addr × HO)}, Hs B (x ++ y) G H → Hs B y G H
  | [], _, h => h
  | _ :: x, _, h => Hs.dropL (x := x) h.drop
theorem Hs.mid {B : Bs} {G H : Hp} {a x y : List (Addr × HO)} (h : Hs B (a ++ (x ++ y)) G H) : Hs B (a ++ y) G H := by
  refine Hs.dropL (x := x) (h.perm ?_)
  rw [← List.append_assoc, ← List.append_assoc]
  exact List.Perm.append_right y List.perm_append_comm
/-! ### boxes -/
abbrev Box := Str × Row
def BoxR (G : Hp) (v : V) (b : Box) : Prop := ∃ t, v = .ref t ∧ G t = some (.tup [.str b.1, .int b.2.1, .int b.2.2.1, oV b.2.2.2])
theorem BoxR.up {G G' : Hp} (e : Same G G') {v : V} {r : Box} (h : BoxR G v r) : BoxR G' v r := let ⟨t, h1, h2⟩ := h; ⟨t, h1, e _ _ h2⟩
def blkR (f : Int → Option Int) (ds : List Int) : List Row := (ds.map fun d => (d, d, f d)).foldl (fun acc r => putB acc r.1 r.2.1 r.2.2) []
def bxR (spk : Str → Int → Option Int) (ns : List Str) (days : Str → List Int) : List Box := ns.flatMap fun n => (blkR (spk n) (days n)).map fun r => (n, r)
theorem joinR_days (f : Int → Option Int) (ds : List Int) : joinR (ds.map fun d => (d, d, f d)) = blkR f (ds.mergeSort fun a b => decide (a ≤ b)) := by
  unfold joinR blkR sortR
  rw [PySem.W.sort_maps (s := fun a b : Row => decide (a.1 ≤ b.1)) (fun d : Int => ((d, d, f d) : Row)) fun a _ b _ => rfl]
/-- the days that were seen, by names -/
structure SeenD (log : Log) (ns : List Str) (days : Str → List Int) : Prop where
  nd : ns.Nodup
  srt : sortedS ns = true
  mem : ∀ n, n ∈ ns ↔ ∃ d, (n, d) ∈ log
  day : ∀ n ∈ ns, (days n).Pairwise (· < ·) ∧ ∀ d, d ∈ days n ↔ (n, d) ∈ log
theorem sort_strict {ds : List Int} (h : ds.Nodup) : (ds.mergeSort fun a b => decide (a ≤ b)).Pairwise (· < ·) := by
  have h1 : (ds.mergeSort fun a b => decide (a ≤ b)).Pairwise (fun a b => decide (a ≤ b) = true) := List.pairwise_mergeSort (le := fun a b : Int => decide (a ≤ b)) (fun a b c h1 h2 => by simp at *; omega) (fun a b => by simp; omega) ds
  have h2 : (ds.mergeSort fun a b => decide (a ≤ b)).Pairwise (· ≠ ·) := ((List.mergeSort_perm ds fun a b => decide (a ≤ b)).nodup_iff).mpr h
  exact List.Pairwise.imp₂ (fun a b h3 h4 => by simp at h3; omega) h1 h2
end U
/-! ### text U6 -/
set_option maxHeartbeats 4000000
namespace U
open PySem PySem.Spec PyProof.Rows L2 TL
/-! ### whether a thing is a question -/
structure EvQ (B : Bs) : Prop where
  e : Ev B
  qs : PySem.W.kitOne B.K (.type "str") (.ref (He.ga B.K "Question")) = some false
  g1 : PySem.W.specialIn B.K (.builtin "object.__class__") "__get__" = some (some (.builtin "getset_descriptor.__get__"))
  g2 : PySem.W.takesIn B.K (.builtin "object.__class__") = some true
  qc : ∀ (i : Nat) x, qcL[i]? = some x → Cls B.K (He.ga B.K x) ∧ PySem.W.findIn B.K (.ref (He.ga B.K x)) "__class__" = some (some (.builtin "object.__class__")) ∧ PySem.W.mroIn B.K (He.ga B.K x) (.type "object") = some true ∧ PySem.W.kitOne B.K (.ref (He.ga B.K x)) (.ref (He.ga B.K "Question")) = some true
theorem qcL_of (nd : Nd) : ∃ i : Nat, qcL[i]? = some nd.cls := by
  have h : nd.cls ∈ qcL := by
    have hc : ∀ x : Str, qcL.contains x = true → x ∈ qcL := fun x hx => List.contains_iff_mem.mp hx
    cases nd with
    | num _ => exact hc "Number" (by decide +kernel)
    | val _ _ => exact hc "OnDay" (by decide +kernel)
    | ov k _ _ _ => exact hc k.c (by cases k <;> decide +kernel)
    | since _ _ _ _ => exact hc "Since" (by decide +kernel)
    | part _ _ _ _ => exact hc "Part" (by decide +kernel)
    | chg k _ _ _ => exact hc "Change" (by decide +kernel)
    | two m _ _ => cases m <;> first | exact hc "Minus" (by decide +kernel) | exact hc "Plus" (by decide +kernel)
    | four s _ _ _ _ => cases s <;> first | exact hc "Same" (by decide +kernel) | exact hc "Less" (by decide +kernel)
  exact List.mem_iff_getElem?.mp h
section
variable {X : Cx} {B : Bs} {lv : Nat} {sc : Scope} {vm sm : List Bool} {gs : List Str} {N : List Str} {H : Hp} {Q : VK}
theorem isi_qs (E : EvQ B) (g : Gd B lv sc N vm sm gs X) {z : Str} (h : Q (.bl false) H) : WCl X (.builtin "isinstance") [.str z, .ref (He.ga B.K "Question")] H Q := wcl_isi g (.own _) (.base (.str _)) E.qs h
theorem isi_qo (E : EvQ B) (g : Gd B lv sc N vm sm gs X) {nd : Nd} {a dx : Addr} {fs : List (Str × V)} (e : H a = some (.ins (He.ga B.K nd.cls) dx fs)) (h : Q (.bl true) H) : WCl X (.builtin "isinstance") [.ref a, .ref (He.ga B.K "Question")] H Q := by
  obtain ⟨i, hi⟩ := qcL_of nd
  obtain ⟨h1, h2, h3, h4⟩ := E.qc i _ hi
  exact wcl_isi g (.own _) (.base (.ins e h1 h2 E.g1 E.g2 h3)) h4 h
end
end U
namespace U

set_option hygiene false in
local macro_rules | `(tactic| ktf_call "nm") => `(tactic| first | ((with_reducible refine nm0 (by assumption) ?hv ?_); (case hv => rfl)) | ((with_reducible refine nm1 (by assumption) ?hv ?_); (case hv => rfl)) | ((with_reducible refine nm2 (by assumption) ?hv ?_); (case hv => rfl)) | ((with_reducible refine nm3 (by assumption) ?hv ?_); (case hv => rfl)) | ((with_reducible refine nm4 (by assumption) ?hv ?_); (case hv => rfl)) | ((with_reducible refine nm5 (by assumption) ?hv ?_); (case hv => rfl)) | ((with_reducible refine nm6 (by assumption) ?hv ?_); (case hv => rfl)) | ((with_reducible refine nm7 (by assumption) ?hv ?_); (case hv => rfl)) | ((with_reducible refine nm8 (by assumption) ?hv ?_); (case hv => rfl)) | ((with_reducible refine nm9 (by assumption) ?hv ?_); (case hv => rfl)) | ((with_reducible refine nm10 (by assumption) ?hv ?_); (case hv => rfl)) | ((with_reducible refine nm11 (by assumption) ?hv ?_); (case hv => rfl)) | ((with_reducible refine nm12 (by assumption) ?hv ?_); (case hv => rfl)) | ((with_reducible refine nm13 (by assumption) ?hv ?_); (case hv => rfl)))
set_option hygiene false in
local macro_rules | `(tactic| ktf_call "sn") => `(tactic| first | ((with_reducible refine sn0 (by assumption) ?hv ?_); (case hv => rfl)) | ((with_reducible refine sn1 (by assumption) ?hv ?_); (case hv => rfl)) | ((with_reducible refine sn2 (by assumption) ?hv ?_); (case hv => rfl)) | ((with_reducible refine sn3 (by assumption) ?hv ?_); (case hv => rfl)) | ((with_reducible refine sn4 (by assumption) ?hv ?_); (case hv => rfl)) | ((with_reducible refine sn5 (by assumption) ?hv ?_); (case hv => rfl)) | ((with_reducible refine sn6 (by assumption) ?hv ?_); (case hv => rfl)) | ((with_reducible refine sn7 (by assumption) ?hv ?_); (case hv => rfl)) | ((with_reducible refine sn8 (by assumption) ?hv ?_); (case hv => rfl)) | ((with_reducible refine sn9 (by assumption) ?hv ?_); (case hv => rfl)) | ((with_reducible refine sn10 (by assumption) ?hv ?_); (case hv => rfl)) | ((with_reducible refine sn11 (by assumption) ?hv ?_); (case hv => rfl)) | ((with_reducible refine sn12 (by assumption) ?hv ?_); (case hv => rfl)) | ((with_reducible refine sn13 (by assumption) ?hv ?_); (case hv => rfl)))
set_option hygiene false in
local macro_rules | `(tactic| ktf_call "au") => `(tactic| first | ((with_reducible refine au0 (by assumption) ?hv ?_); (case hv => rfl)) | ((with_reducible refine au1 (by assumption) ?hv ?_); (case hv => rfl)) | ((with_reducible refine au2 (by assumption) ?hv ?_); (case hv => rfl)) | ((with_reducible refine au3 (by assumption) ?hv ?_); (case hv => rfl)) | ((with_reducible refine au4 (by assumption) ?hv ?_); (case hv => rfl)) | ((with_reducible refine au5 (by assumption) ?hv ?_); (case hv => rfl)) | ((with_reducible refine au6 (by assumption) ?hv ?_); (case hv => rfl)) | ((with_reducible refine au7 (by assumption) ?hv ?_); (case hv => rfl)) | ((with_reducible refine au8 (by assumption) ?hv ?_); (case hv => rfl)) | ((with_reducible refine au9 (by assumption) ?hv ?_); (case hv => rfl)) | ((with_reducible refine au10 (by assumption) ?hv ?_); (case hv => rfl)) | ((with_reducible refine au11 (by assumption) ?hv ?_); (case hv => rfl)) | ((with_reducible refine au12 (by assumption) ?hv ?_); (case hv => rfl)) | ((with_reducible refine au13 (by assumption) ?hv ?_); (case hv => rfl)))
set_option hygiene false in
local macro_rules | `(tactic| ktf_call "gm") => `(tactic| with_reducible first | exact List.mem_cons_self | exact List.mem_cons_of_mem _ (List.mem_cons_self) | exact List.mem_cons_of_mem _ (List.mem_cons_of_mem _ (List.mem_cons_self)) | exact List.mem_cons_of_mem _ (List.mem_cons_of_mem _ (List.mem_cons_of_mem _ (List.mem_cons_self))) | exact List.mem_cons_of_mem _ (List.mem_cons_of_mem _ (List.mem_cons_of_mem _ (List.mem_cons_of_mem _ (List.mem_cons_self)))) | exact List.mem_cons_of_mem _ (List.mem_cons_of_mem _ (List.mem_cons_of_mem _ (List.mem_cons_of_mem _ (List.mem_cons_of_mem _ (List.mem_cons_self))))) | exact List.mem_cons_of_mem _ (List.mem_cons_of_mem _ (List.mem_cons_of_mem _ (List.mem_cons_of_mem _ (List.mem_cons_of_mem _ (List.mem_cons_of_mem _ (List.mem_cons_self)))))) | exact List.mem_cons_of_mem _ (List.mem_cons_of_mem _ (List.mem_cons_of_mem _ (List.mem_cons_of_mem _ (List.mem_cons_of_mem _ (List.mem_cons_of_mem _ (List.mem_cons_of_mem _ (List.mem_cons_self))))))) | exact List.mem_cons_of_mem _ (List.mem_cons_of_mem _ (List.mem_cons_of_mem _ (List.mem_cons_of_mem _ (List.mem_cons_of_mem _ (List.mem_cons_of_mem _ (List.mem_cons_of_mem _ (List.mem_cons_of_mem _ (List.mem_cons_self)))))))) | exact List.mem_cons_of_mem _ (List.mem_cons_of_mem _ (List.mem_cons_of_mem _ (List.mem_cons_of_mem _ (List.mem_cons_of_mem _ (List.mem_cons_of_mem _ (List.mem_cons_of_mem _ (List.mem_cons_of_mem _ (List.mem_cons_of_mem _ (List.mem_cons_self))))))))))
set_option hygiene false in
local macro_rules | `(tactic| ktf_call "gn") => `(tactic| ((with_reducible show WE _ (Expr.Name _ _) _ _ _); first
    | ((with_reducible show WE _ (Expr.Name "LAST_DAY_questiontexts" _) _ _ _); refine we_gl (by assumption) (by ktf_call "gm") E.i_LAST_DAY_questiontexts ?_)
    | ((with_reducible show WE _ (Expr.Name "FAR" _) _ _ _); refine we_gl (by assumption) (by ktf_call "gm") E.i_FAR ?_)
    | ((with_reducible show WE _ (Expr.Name "MOST_NAMES" _) _ _ _); refine we_gl (by assumption) (by ktf_call "gm") E.i_MOST_NAMES ?_)
    | ((with_reducible show WE _ (Expr.Name "MOST_OPEN" _) _ _ _); refine we_gl (by assumption) (by ktf_call "gm") E.i_MOST_OPEN ?_)
    | ((with_reducible show WE _ (Expr.Name "MOST_CHANGES" _) _ _ _); refine we_gl (by assumption) (by ktf_call "gm") E.i_MOST_CHANGES ?_)
    | ((with_reducible show WE _ (Expr.Name "LAST_DAY_findings" _) _ _ _); refine we_gl (by assumption) (by ktf_call "gm") E.i_LAST_DAY_findings ?_)
    | ((with_reducible show WE _ (Expr.Name "MOST_VALUE" _) _ _ _); refine we_gl (by assumption) (by ktf_call "gm") E.i_MOST_VALUE ?_)
    | ((with_reducible show WE _ (Expr.Name "MOST_KEYS" _) _ _ _); refine we_gl (by assumption) (by ktf_call "gm") E.i_MOST_KEYS ?_)
    | ((with_reducible show WE _ (Expr.Name "MOST_DEEDS" _) _ _ _); refine we_gl (by assumption) (by ktf_call "gm") E.i_MOST_DEEDS ?_)
    | ((with_reducible show WE _ (Expr.Name "LETTERS" _) _ _ _); refine we_gl (by assumption) (by ktf_call "gm") E.s_LETTERS ?_)
    | ((with_reducible show WE _ (Expr.Name "FIGURES" _) _ _ _); refine we_gl (by assumption) (by ktf_call "gm") E.s_FIGURES ?_)
    | ((with_reducible show WE _ (Expr.Name "int" _) _ _ _); refine ty_int (by assumption) (by ktf_call "gm") E.f_int ?_)
    | ((with_reducible show WE _ (Expr.Name "bool" _) _ _ _); refine ty_bool (by assumption) (by ktf_call "gm") E.f_bool ?_)
    | ((with_reducible show WE _ (Expr.Name "str" _) _ _ _); refine ty_str (by assumption) (by ktf_call "gm") E.f_str ?_)
    | ((with_reducible show WE _ (Expr.Name "list" _) _ _ _); refine ty_list (by assumption) (by ktf_call "gm") E.f_list ?_)
    | ((with_reducible show WE _ (Expr.Name "tuple" _) _ _ _); refine ty_tuple (by assumption) (by ktf_call "gm") E.f_tuple ?_)))
set_option hygiene false in
local macro_rules | `(tactic| ktf_call "cn") => `(tactic| ((with_reducible show WE _ (Expr.Call (Expr.Name _ _) _ _ _) _ _ _); first
    | refine we_fn (by assumption) (by with_reducible assumption) (by ktf_call "gm") (by decide) ?_
    | refine we_mk (by assumption) (by with_reducible assumption) (by ktf_call "gm") (by decide) ?_
    | ((with_reducible show WE _ (Expr.Call (Expr.Name "len" _) _ _ _) _ _ _); refine cb_len (by assumption) (by ktf_call "gm") E.f_len ?_)
    | ((with_reducible show WE _ (Expr.Call (Expr.Name "isinstance" _) _ _ _) _ _ _); refine cb_isinstance (by assumption) (by ktf_call "gm") E.f_isinstance ?_)
    | ((with_reducible show WE _ (Expr.Call (Expr.Name "all" _) _ _ _) _ _ _); refine cb_all (by assumption) (by ktf_call "gm") E.f_all ?_)
    | ((with_reducible show WE _ (Expr.Call (Expr.Name "sum" _) _ _ _) _ _ _); refine cb_sum (by assumption) (by ktf_call "gm") E.f_sum ?_)
    | ((with_reducible show WE _ (Expr.Call (Expr.Name "min" _) _ _ _) _ _ _); refine cb_min (by assumption) (by ktf_call "gm") E.f_min ?_)
    | ((with_reducible show WE _ (Expr.Call (Expr.Name "max" _) _ _ _) _ _ _); refine cb_max (by assumption) (by ktf_call "gm") E.f_max ?_)
    | ((with_reducible show WE _ (Expr.Call (Expr.Name "sorted" _) _ _ _) _ _ _); refine cb_sorted (by assumption) (by ktf_call "gm") E.f_sorted ?_)
    | ((with_reducible show WE _ (Expr.Call (Expr.Name "int" _) _ _ _) _ _ _); refine cb_int (by assumption) (by ktf_call "gm") E.f_int ?_)
    | ((with_reducible show WE _ (Expr.Call (Expr.Name "str" _) _ _ _) _ _ _); refine cb_str (by assumption) (by ktf_call "gm") E.f_str ?_)
    | ((with_reducible show WE _ (Expr.Call (Expr.Name "list" _) _ _ _) _ _ _); refine cb_list (by assumption) (by ktf_call "gm") E.f_list ?_)
    | ((with_reducible show WE _ (Expr.Call (Expr.Name "set" _) _ _ _) _ _ _); refine cb_set (by assumption) (by ktf_call "gm") E.f_set ?_)))
set_option hygiene false in
local macro_rules | `(tactic| ktf_call "ca") => `(tactic| ((with_reducible show WE _ (Expr.Call (Expr.Attribute _ _ _) _ _ _) _ _ _); first
    | ((with_reducible show WE _ (Expr.Call (Expr.Attribute _ "append" _) _ _ _) _ _ _); refine we_append (by assumption) ?_)
    | ((with_reducible show WE _ (Expr.Call (Expr.Attribute _ "extend" _) _ _ _) _ _ _); refine we_extend (by assumption) ?_)
    | ((with_reducible show WE _ (Expr.Call (Expr.Attribute _ "pop" _) _ _ _) _ _ _); refine we_pop (by assumption) ?_)
    | ((with_reducible show WE _ (Expr.Call (Expr.Attribute _ "split" _) _ _ _) _ _ _); refine we_split (by assumption) ?_)
    | ((with_reducible show WE _ (Expr.Call (Expr.Attribute _ "join" _) _ _ _) _ _ _); refine we_join (by assumption) ?_)
    | ((with_reducible show WE _ (Expr.Call (Expr.Attribute _ "get" _) _ _ _) _ _ _); refine we_dget (by assumption) ?_)
    | ((with_reducible show WE _ (Expr.Call (Expr.Attribute _ "setdefault" _) _ _ _) _ _ _); refine we_dsetd ?_)
    | refine we_mt (by assumption) ?_ | refine we_mt0 (by assumption) ?_))
set_option hygiene false in
local macro_rules | `(tactic| ktf_call "e") => `(tactic| ((with_reducible show WE _ _ _ _ _); first
  | ktf_call "nm"
  | refine we_int ?_ | refine we_str ?_ | refine we_non ?_ | refine we_bl ?_
  | refine we_bin ?_ | refine we_cmp ?_ | refine we_chain ?_
  | refine we_ix ?_ | refine we_sl ?_
  | ((with_reducible show WE _ (Expr.Attribute _ _ _) _ _ _); refine we_fldB (by assumption) ?_)
  | ktf_call "cn"
  | ktf_call "ca"
  | ktf_call "gn"
  | refine we_and ?_ | refine we_or ?_ | refine we_and1 ?_ | refine we_not ?_ | refine we_if ?_ | refine we_neg ?_
  | refine we_tup ?_ | refine we_lst ?_))
set_option hygiene false in
local macro_rules | `(tactic| ktf_call "s") => `(tactic| first
  | ((with_reducible show WSs _ _ _ _ _); first | refine wss_nil ?_ | ((fail_if_success (with_reducible show WSs _ (Stmt.If _ _ _ _ :: _) _ _ _)); (fail_if_success (with_reducible show WSs _ (Stmt.For _ _ _ _ _ :: _) _ _ _)); (fail_if_success (with_reducible show WSs _ (Stmt.While _ _ _ _ :: _) _ _ _)); (fail_if_success (with_reducible show WSs _ (Stmt.Assign _ (Expr.ListComp _ _ _ _) _ :: _) _ _ _)); first | refine wss_one ?_ | refine wss_cons ?_))
  | ((with_reducible show WS _ _ _ _ _); first | ktf_call "au" | ((with_reducible show WS _ (Stmt.Assign [Expr.Attribute _ _ _] _ _) _ _ _); refine ws_fldS (by assumption) ?_) | refine ws_ret ?_ | refine ws_asg ?_ | refine ws_expr ?_ | refine ws_retN ?_ | refine ws_pass ?_ | refine ws_brk ?_ | refine ws_cont ?_)
  | ktf_call "sn"
  | ((with_reducible show WG _ (Expr.Subscript _ _ _) _ _ _ _); refine wg_sub ?_)
  | ((with_reducible show WG _ (Expr.Tuple _ _ _) _ _ _ _); refine wg_tupS (by assumption) (by assumption) rfl ?_)
  | ((with_reducible show WGs _ _ _ _ _ _); first | refine wgs_cons ?_ | refine wgs_nil ?_))
set_option hygiene false in
local macro_rules | `(tactic| ktf_call "t") => `(tactic| first
  | ((with_reducible show WT _ _ _ _ _); first
    | refine wt_cmp ?_ | refine wt_chain ?_ | refine wt_not ?_ | refine wt_bo ?_ | refine wt_tr (by assumption) ?_)
  | ((with_reducible show WW _ _ _ _ _); first | refine ww_and ?_ | refine ww_or ?_ | refine ww_and1 ?_ | refine ww_or1 ?_)
  | ((with_reducible show LcT _ _ _ _ _); first | refine lct_nil ?_ | refine lct_one ?_))
set_option hygiene false in
local macro_rules | `(tactic| ktf_call "o") => `(tactic| first
  | ((with_reducible show WB _ _ _ _ _ _); first | refine wb_add ?_ | refine wb_sub ?_)
  | ((with_reducible show WIp _ _ _ _ _ _); first | refine wip_add ?_ | refine wip_sub ?_)
  | ((with_reducible show WIn _ _ _ _ _ _); refine win_add ?_)
  | ((with_reducible show WC _ _ _ _ _ _); first | (with_reducible first | refine isN_i ?_ | refine isN_n ?_ | refine isN_s ?_ | refine isN_r ?_ | refine notN_i ?_ | refine notN_n ?_ | refine notN_s ?_ | refine notN_r ?_) | refine wc_isN ?_ | refine wc_notN ?_ | refine wc_lt ?_ | refine wc_le ?_ | refine wc_gt ?_ | refine wc_ge ?_ | refine wc_eqI ?_ | refine wc_eqS ?_ | refine wc_neI ?_ | refine wc_neS ?_)
  | ((with_reducible show WCl _ (Value.builtin "isinstance") _ _ _); with_reducible first | refine isi_i_int (by assumption) ?_ | refine isi_i_bool (by assumption) ?_ | refine isi_i_str (by assumption) ?_ | refine isi_i_list (by assumption) ?_ | refine isi_i_tuple (by assumption) ?_ | refine isi_s_int (by assumption) ?_ | refine isi_s_bool (by assumption) ?_ | refine isi_s_str (by assumption) ?_ | refine isi_s_list (by assumption) ?_ | refine isi_s_tuple (by assumption) ?_ | refine isi_n_int (by assumption) ?_ | refine isi_n_bool (by assumption) ?_ | refine isi_n_str (by assumption) ?_ | refine isi_n_list (by assumption) ?_ | refine isi_n_tuple (by assumption) ?_ | refine isi_l_int (by assumption) (by assumption) ?_ | refine isi_l_bool (by assumption) (by assumption) ?_ | refine isi_l_str (by assumption) (by assumption) ?_ | refine isi_l_list (by assumption) (by assumption) ?_ | refine isi_l_tuple (by assumption) (by assumption) ?_ | refine isi_t_int (by assumption) (by assumption) ?_ | refine isi_t_bool (by assumption) (by assumption) ?_ | refine isi_t_str (by assumption) (by assumption) ?_ | refine isi_t_list (by assumption) (by assumption) ?_ | refine isi_t_tuple (by assumption) (by assumption) ?_)
  | with_reducible first | refine iteT ?_ | refine iteF ?_ | refine iteNF ?_ | refine iteNT ?_)
set_option hygiene false in
local macro_rules | `(tactic| ktf_call "x") => `(tactic| first
  | with_reducible refine ⟨_, rfl, ?_⟩
  | with_reducible refine ⟨tyl (by assumption), ?_⟩
  | with_reducible refine ⟨tys, ?_⟩
  | with_reducible refine tr_bl ?_
  | ((with_reducible show Sp1 _ _ _ _ _); refine sp1_i ?_)
  | ((with_reducible show Sp2 _ _ _ _ _); refine sp2_i ?_)
  | ((with_reducible show Sp3 _ _ _ _ _); refine sp3_i ?_)
  | ((with_reducible show Sp4 _ _ _ _ _); refine sp4_i ?_)
  | ((with_reducible show Sp5 _ _ _ _ _); refine sp5_i ?_)
  | ((with_reducible show ∀ (Z : Cx), Gd _ _ _ _ _ _ _ Z → _); intro Z gZ))
set_option hygiene false in
local macro_rules | `(tactic| ktf_call "u") => `(tactic| first
  | ((with_reducible show WA _ _ _ _ _); first | refine wa_nil ?_ | refine wa_cons ?_)
  | ((with_reducible show WO _ _ _ _ _); first | refine wo_no ?_ | refine wo_yes ?_)
  | ktf_call "e" | ktf_call "s" | ktf_call "t" | ktf_call "o" | ktf_call "x")
set_option hygiene false in
local macro_rules | `(tactic| ktf_call "w") => `(tactic| simp only [L2.wipe, List.set_cons_zero, List.set_cons_succ, List.map_cons, List.map_nil])
set_option hygiene false in
local macro_rules | `(tactic| ktf_call "sv") => `(tactic| (ktf_call "e"; exact ⟨rfl, rfl⟩))
set_option hygiene false in
local macro_rules | `(tactic| ktf_call "f") => `(tactic| refine ⟨_, _, _, _, _, rfl, by assumption, by assumption, by assumption, by rfl, ?_⟩)
set_option hygiene false in
local macro_rules | `(tactic| ktf_call "fs") => `(tactic| repeat (first | ktf_call "u" | ktf_call "f"))
set_option hygiene false in
local macro_rules | `(tactic| ktf_call "i") => `(tactic| first | refine ws_if ?_ | refine wss_one (ws_if ?_) | refine wss_cons (ws_if ?_))
set_option hygiene false in
local macro_rules | `(tactic| ktf_call "us") => `(tactic| repeat (ktf_call "u"))
set_option hygiene false in
local macro_rules | `(tactic| ktf_call "b1") => `(tactic| exact fun _ _ _ _ _ _ us hl => match us, hl with | [_], _ => by kernel_rfl)
set_option hygiene false in
local macro_rules | `(tactic| ktf_call "b2") => `(tactic| exact fun _ _ _ _ _ _ us hl => match us, hl with | [_, _], _ => by kernel_rfl)
set_option hygiene false in
local macro_rules | `(tactic| ktf_call "b3") => `(tactic| exact fun _ _ _ _ _ _ us hl => match us, hl with | [_, _, _], _ => by kernel_rfl)
set_option hygiene false in
local macro_rules | `(tactic| ktf_call "b4") => `(tactic| exact fun _ _ _ _ _ _ us hl => match us, hl with | [_, _, _, _], _ => by kernel_rfl)
set_option hygiene false in
local macro_rules | `(tactic| ktf_call "b5") => `(tactic| exact fun _ _ _ _ _ _ us hl => match us, hl with | [_, _, _, _, _], _ => by kernel_rfl)
/-! ### text E1 -/
set_option maxHeartbeats 4000000
section
open PySem PySem.Spec PyProof.Rows L2 TL
variable {B : Bs}
/-! ### drawing -/
def pCell (B : Bs) : V → V → Hp → VK → Prop := fun a b H Q => ∃ (r : Addr) (sc : List Int) (k : Nat), a = .ref r ∧ b = .int k ∧ SqL B.K H r (sc.map V.int) ∧ ∀ i : Int, Q (.int i) H
theorem law_cell (E : Ev B) : Fn B 1 "_law_cell" (Sp2 (pCell B)) [] := by
  refine E.fn 78 rfl rfl rfl rfl (N := ["_law_script", "_law_k"]) (n := 2) (ps := ["_law_script", "_law_k"]) (gs := ["len"]) (by decide +kernel) len2 (by ktf_call "b2") ?_
  intro X vs H Q E1 g h
  obtain ⟨_, _, rfl, r, sc, k, rfl, rfl, hr, kk⟩ := h
  show WSs X _ _ [some (.ref r), some (.int k)] H
  ktf_call "i"
  ktf_call "us"
  refine wcl_lenL g hr ?_
  rw [List.length_map]
  ktf_call "us"
  refine iteD (fun hlt => ?_) (fun hge => ?_)
  · ktf_call "us"
    have hk : k < sc.length := by omega
    refine wx_l g hr (at_nat k rfl (v := .int sc[k]) (by rw [List.getElem?_map, List.getElem?_eq_getElem hk]; rfl)) (kk _)
  · ktf_call "us"
    refine wb_mul (.inl (by decide)) ?_
    ktf_call "us"
    exact kk _
theorem law_mix (E : Ev B) : Fn B 1 "_law_mix" (Sp2 fun a b H Q => ∃ (c k : Int), a = .int c ∧ b = .int k ∧ ∀ i : Int, Q (.int i) H) [] := by
  refine E.fn 79 rfl rfl rfl rfl (N := ["_law_cell_here", "_law_k", "_law_number"]) (n := 3) (ps := ["_law_cell_here", "_law_k"]) (gs := []) (by decide +kernel) len2 (by ktf_call "b2") ?_
  intro X vs H Q E1 g h
  obtain ⟨_, _, rfl, c, k, rfl, rfl, kk⟩ := h
  show WSs X _ _ [some (.int c), some (.int k), none] H
  have key : ∀ (z n : Int), 0 < n → n < 2 ^ 32 → -(2 ^ 64) < z % n ∧ z % n < 2 ^ 64 := fun z n h0 h1 => by
    have a1 := Int.emod_nonneg z (show n ≠ 0 by omega)
    have a2 := Int.emod_lt_of_pos z h0
    omega
  ktf_call "us"
  refine wb_mod (by decide) ?_
  ktf_call "us"
  refine wb_mul (.inl (by decide)) ?_
  ktf_call "us"
  refine wb_mul (.inr (by decide)) ?_
  ktf_call "us"
  refine wb_mod (by decide) ?_
  have k1 := key ((c % 2147483629 + 7919 * k + 17) * 48271) 2147483647 (by decide) (by decide)
  generalize (c % 2147483629 + 7919 * k + 17) * 48271 % 2147483647 = z1 at k1 ⊢
  ktf_call "us"
  refine wb_mul (.inl k1) ?_
  ktf_call "us"
  refine wb_mul (.inl (by decide)) ?_
  ktf_call "us"
  refine wb_mod (by decide) ?_
  have k2 := key (z1 * z1 + 3 * k) 2147483629 (by decide) (by decide)
  generalize (z1 * z1 + 3 * k) % 2147483629 = z2 at k2 ⊢
  ktf_call "us"
  refine wb_mul (.inl k2) ?_
  ktf_call "us"
  refine wb_mod (by decide) ?_
  exact kk _
abbrev stO (x y z : Int) : HO := .lst [.int x, .int y, .int z]
/-- a drawing state stands at st -/
def DrS (B : Bs) (st : Addr) (m : List (Addr × HO)) (G H : Hp) : Prop := ∃ x y z, Hs B ((st, stO x y z) :: m) G H
theorem law_begun (E : Ev B) : Fn B 1 "_law_begun" (Sp1 fun a H Q => ∃ (c : Int) (m : List (Addr × HO)) (G : Hp), a = .int c ∧ Hs B m G H ∧ ∀ st H', DrS B st m G H' → Q (.ref st) H') [] := by
  refine E.fn 80 rfl rfl rfl rfl (N := ["_law_cell_here"]) (n := 1) (ps := ["_law_cell_here"]) (gs := []) (by decide +kernel) len1 (by ktf_call "b1") ?_
  intro X vs H Q E1 g h
  obtain ⟨_, rfl, c, m, G, rfl, hS, k⟩ := h
  show WSs X _ _ [some (.int c)] H
  ktf_call "i"
  ktf_call "us"
  refine wb_pow (by decide) ?_
  ktf_call "us"
  refine iteD (fun _ => ?_) (fun _ => ?_)
  · ktf_call "us"
    exact nl_m hS (by show 3 ≤ sizeLine; decide) fun p H' h => k p H' ⟨_, _, _, h⟩
  · ktf_call "us"
    exact nl_m hS (by show 3 ≤ sizeLine; decide) fun p H' h => k p H' ⟨_, _, _, h⟩
def pPull (B : Bs) : V → V → Hp → VK → Prop := fun a b H Q => ∃ (st : Addr) (n : Int) (m : List (Addr × HO)) (G : Hp), a = .ref st ∧ b = .int n ∧ 0 < n ∧ n < 2 ^ 39 ∧ DrS B st m G H ∧ ∀ (r : Int) H', 0 ≤ r → r < n → DrS B st m G H' → Q (.int r) H'
theorem law_pull (E : Ev B) : Fn B 2 "_law_pull" (Sp2 (pPull B)) [] := by
  have f1 := law_mix E
  refine E.fn 81 rfl rfl rfl rfl (N := ["_law_state", "_law_many", "_law_number"]) (n := 3) (ps := ["_law_state", "_law_many"]) (gs := ["_law_mix"]) (by decide +kernel) len2 (by ktf_call "b2") ?_
  intro X vs H Q E1 g h
  obtain ⟨_, _, rfl, st, n, m, G, rfl, rfl, h0, h1, ⟨x, y, z, hS⟩, k⟩ := h
  show WSs X _ _ [some (.ref st), some (.int n), none] H
  have hm : ∀ i : Int, 0 ≤ i % n ∧ i % n < n := fun i => ⟨Int.emod_nonneg i (by omega), Int.emod_lt_of_pos i h0⟩
  ktf_call "i"
  ktf_call "us"
  refine wx_l g (sql hS.a0) (at_nat 0 rfl rfl) ?_
  ktf_call "us"
  refine iteD (fun _ => ?_) (fun _ => ?_)
  · ktf_call "us"
    refine wx_l g (sql hS.a0) (at_nat 0 rfl rfl) ?_
    ktf_call "us"
    refine wb_mod h0 ?_
    ktf_call "us"
    refine wx_l g (sql hS.a0) (at_nat 0 rfl rfl) ?_
    ktf_call "us"
    refine wb_div h0 (by omega) ?_
    ktf_call "us"
    refine wst_l (k := 0) hS.a0 rfl ?_
    ktf_call "us"
    exact k _ _ (hm x).1 (hm x).2 ⟨_, _, _, hS.set rfl⟩
  · ktf_call "us"
    refine wx_l g (sql hS.a0) (at_nat 2 rfl rfl) ?_
    ktf_call "us"
    refine wst_l (k := 2) hS.a0 rfl ?_
    have hS2 : Hs B ((st, stO x y (z + 1)) :: m) G (upd H st (stO x y (z + 1))) := hS.set rfl
    ktf_call "us"
    refine wx_l g (sql hS2.a0) (at_nat 1 rfl rfl) ?_
    ktf_call "us"
    refine wx_l g (sql hS2.a0) (at_nat 2 rfl rfl) ?_
    ktf_call "us"
    refine ⟨_, _, rfl, rfl, fun i => ?_⟩
    ktf_call "us"
    refine wb_mod h0 ?_
    ktf_call "us"
    exact k _ _ (hm i).1 (hm i).2 ⟨_, _, _, hS2⟩
end
/-! ### text E2 -/
set_option maxHeartbeats 4000000
section
open PySem PySem.Spec PyProof.Rows L2 TL
variable {B : Bs}
theorem DrS.swap {st p : Addr} {u : HO} {m : List (Addr × HO)} {G H : Hp} (h : DrS B st ((p, u) :: m) G H) : ∃ x y z, Hs B ((p, u) :: (st, stO x y z) :: m) G H := let ⟨x, y, z, h⟩ := h; ⟨x, y, z, h.swap⟩
/-! ### names -/
def NsOk (ns : List Str) : Prop := ns.length = 8 ∧ ns.Nodup ∧ ∀ n ∈ ns, NameOk n
def nameB (z : Str) : Bool := decide (1 ≤ (tl z).length) && (decide ((tl z).length ≤ 8) && (tl z).all fun c => decide (97 ≤ c) && decide (c ≤ 122))
def nsB (ns : List Str) : Bool := decide (ns.length = 8) && (decide ns.Nodup && ns.all nameB)
theorem nameB_ok {z : Str} (h : nameB z = true) : NameOk z := by
  unfold nameB at h
  simp only [Bool.and_eq_true, decide_eq_true_eq, List.all_eq_true] at h
  obtain ⟨h1, h2, h3⟩ := h
  exact ⟨by rw [tl_len]; exact h1, by rw [tl_len]; exact h2, h3⟩
theorem nsB_ok {ns : List Str} (h : nsB ns = true) : NsOk ns := by
  unfold nsB at h
  simp only [Bool.and_eq_true, decide_eq_true_eq, List.all_eq_true] at h
  exact ⟨h.1, h.2.1, fun n hn => nameB_ok (h.2.2 n hn)⟩
def twelve : List Str := ["number", "value", "sum", "count", "least", "since", "part", "change", "plus", "less", "same", "minus"]
theorem twelve_ok (i : Nat) (h : i < 12) : NsOk ((twelve.drop i ++ twelve.take i).take 8) := by
  have : ∀ i ∈ List.range 12, nsB ((twelve.drop i ++ twelve.take i).take 8) = true := by decide +kernel
  exact nsB_ok (this i (List.mem_range.mpr h))
/-- the k-th name over a base -/
def sgnL (bs : List Int) (at_ : Int) (k : Nat) : List Int := (List.range bs.length).map fun j => bs.getD j 0 + 3 * (k : Int) * (if decide ((j : Int) = at_) = true then 1 else 0)
def sgn (i : Int) : Nat := 97 + (i % 26).toNat
def oneS (c : Nat) : Str := ⟨#[c]⟩
def nameK (bs : List Int) (at_ : Int) (k : Nat) : Str := Txt.join "" ((sgnL bs at_ k).map fun i => oneS (sgn i))
theorem joinL_nil : ∀ ps : List (List Nat), joinL [] ps = ps.flatten
  | [] => rfl
  | [a] => by simp [joinL]
  | a :: b :: r => by
    have := joinL_nil (b :: r)
    simp only [joinL] at this ⊢
    rw [this]
    simp
theorem tl_nameK (bs : List Int) (at_ : Int) (k : Nat) : tl (nameK bs at_ k) = (sgnL bs at_ k).map sgn := by
  unfold nameK
  rw [join_eq, tl_join, show tl "" = [] from by decide +kernel, joinL_nil, List.map_map]
  generalize sgnL bs at_ k = L
  induction L with
  | nil => rfl
  | cons a L ih =>
    rw [List.map_cons, List.flatten_cons, ih, List.map_cons]
    rfl
theorem sgn_b (i : Int) : 97 ≤ sgn i ∧ sgn i ≤ 122 := by
  unfold sgn
  have h1 := Int.emod_nonneg i (show (26 : Int) ≠ 0 by decide)
  have h2 := Int.emod_lt_of_pos i (show (0 : Int) < 26 by decide)
  omega
theorem names_ok (bs : List Int) (a : Nat) (h0 : 1 ≤ bs.length) (h1 : bs.length ≤ 8) (ha : a < bs.length) : NsOk ((List.range 8).map (nameK bs a)) := by
  refine ⟨by simp, ?_, fun n hn => ?_⟩
  · refine List.pairwise_map.mpr (List.nodup_range.imp_of_mem fun {i j} hi hj hne e => hne ?_)
    have hi := List.mem_range.mp hi
    have hj := List.mem_range.mp hj
    have e2 := congrArg (fun z => (tl z)[a]?) e
    simp only [tl_nameK, sgnL, List.map_map, List.getElem?_map, List.getElem?_range ha, Option.map_some, Function.comp_apply, decide_true, if_true, Option.some.injEq] at e2
    unfold sgn at e2
    omega
  · obtain ⟨k, hk, rfl⟩ := List.mem_map.mp hn
    have hl : (tl (nameK bs a k)).length = bs.length := by rw [tl_nameK]; simp [sgnL]
    refine ⟨by rw [tl_len, hl]; exact h0, by rw [tl_len, hl]; exact h1, fun c hc => ?_⟩
    rw [tl_nameK] at hc
    obtain ⟨i, _, rfl⟩ := List.mem_map.mp hc
    exact sgn_b i
theorem fa_ints {P : Int → Prop} : ∀ {vs : List V} {us : List Unit}, Fa (fun v _ => ∃ i : Int, v = .int i ∧ P i) vs us → ∃ is : List Int, vs = is.map V.int ∧ is.length = us.length ∧ ∀ i ∈ is, P i
  | _, _, .nil => ⟨[], rfl, rfl, fun i h => by cases h⟩
  | _, _, .cons ⟨i, e, h⟩ t => by
    obtain ⟨is, e2, e3, e4⟩ := fa_ints t
    exact ⟨i :: is, by rw [e, e2]; rfl, by simp [e3], fun j hj => (List.mem_cons.mp hj).elim (fun z => z ▸ h) (e4 j)⟩
def pNamesL (B : Bs) : V → Hp → VK → Prop := fun a H Q => ∃ (c : Int) (m : List (Addr × HO)) (G : Hp), a = .int c ∧ Hs B m G H ∧ ∀ q ns H', NsOk ns → Hs B ((q, .lst (ns.map V.str)) :: m) G H' → Q (.ref q) H'
theorem law_names (E : Ev B) : Fn B 3 "_law_names" (Sp1 (pNamesL B)) [] := by
  have f1 := law_begun E
  have f2 := law_pull E
  refine E.fn 82 rfl rfl rfl rfl (N := ["_law_cell_here", "_law_some_here", "_law_state", "_law_at", "_law_size", "_law_base", "_law_names_here", "_law_k", "_law_signs", "_law_j", "_law_sign"]) (n := 9) (ps := ["_law_cell_here"]) (gs := ["_law_begun", "_law_pull", "range"]) (by decide +kernel) len1 (by ktf_call "b1") ?_
  intro X vs0 H Q E1 g h
  obtain ⟨_, rfl, c, m, G, rfl, hS, k⟩ := h
  show WSs X _ _ [some (.int c), none, none, none, none, none, none, none, none, none, none] H
  ktf_call "us"
  refine nl_f hS (by show 12 ≤ sizeLine; decide) fun q0 G1 H1 hS1 e1 hq0 => ?_
  ktf_call "us"
  refine ⟨c, m, G1, rfl, hS1, fun st H2 D2 => ?_⟩
  ktf_call "us"
  ktf_call "i"
  ktf_call "us"
  refine ⟨st, 4, m, G1, rfl, rfl, by decide, by decide, D2, fun r0 H3 _ _ D3 => ?_⟩
  ktf_call "us"
  refine iteD (fun _ => ?_) (fun _ => ?_)
  · ktf_call "us"
    refine ⟨st, 12, m, G1, rfl, rfl, by decide, by decide, D3, fun a H4 ha0 ha D4 => ?_⟩
    ktf_call "us"
    obtain ⟨x, y, z, hS4⟩ := D4
    obtain ⟨i, rfl⟩ : ∃ i : Nat, a = (i : Int) := ⟨a.toNat, by omega⟩
    refine wsl_l g (sql (hS4.g _ _ hq0)) ?_
    rw [cut_drop]
    have dl : ∀ n : Nat, (([.str "number", .str "value", .str "sum", .str "count", .str "least", .str "since", .str "part", .str "change", .str "plus", .str "less", .str "same", .str "minus"] : List V).drop n).length ≤ 12 := fun n => by rw [List.length_drop]; exact Nat.sub_le _ _
    have tl' : ∀ n : Nat, (([.str "number", .str "value", .str "sum", .str "count", .str "least", .str "since", .str "part", .str "change", .str "plus", .str "less", .str "same", .str "minus"] : List V).take n).length ≤ 12 := fun n => by rw [List.length_take]; exact Nat.min_le_right _ _
    refine nl_f hS4 (Nat.le_trans (dl i) (by decide)) fun q1 G5 H5 hS5 e5 hq1 => ?_
    ktf_call "us"
    refine wsl_l g (sql (hS5.g _ _ (e5 _ _ hq0))) ?_
    rw [cut_take]
    refine nl_f hS5 (Nat.le_trans (tl' i) (by decide)) fun q2 G6 H6 hS6 e6 hq2 => ?_
    refine wb_cat (hS6.g _ _ (e6 _ _ hq1)) (hS6.g _ _ hq2) ?_ ?_
    · rw [List.length_append]
      exact Nat.le_trans (Nat.add_le_add (dl i) (tl' i)) (by decide)
    refine nl_f hS6 (by rw [List.length_append]; exact Nat.le_trans (Nat.add_le_add (dl i) (tl' i)) (by decide)) fun q3 G7 H7 hS7 e7 hq3 => ?_
    ktf_call "us"
    refine wsl_l g (sql (hS7.g _ _ hq3)) ?_
    rw [show (8 : Int) = ((8 : Nat) : Int) from rfl, cut_take]
    have e8 : ∀ n : Nat, ((([.str "number", .str "value", .str "sum", .str "count", .str "least", .str "since", .str "part", .str "change", .str "plus", .str "less", .str "same", .str "minus"] : List V).drop n) ++ (([.str "number", .str "value", .str "sum", .str "count", .str "least", .str "since", .str "part", .str "change", .str "plus", .str "less", .str "same", .str "minus"] : List V).take n)).take 8 = ((twelve.drop n ++ twelve.take n).take 8).map V.str := fun n => by
      rw [List.map_take, List.map_append, List.map_drop, List.map_take]; rfl
    rw [e8 i]
    refine nl_m hS7 (by rw [List.length_map, List.length_take]; exact Nat.le_trans (Nat.min_le_left _ _) (by decide)) fun q4 H8 hS8 => ?_
    exact k q4 _ H8 (twelve_ok i (by omega)) (hS8.drop.drop.base (((e1.trans e5).trans e6).trans e7) |> fun _ => (Hs.base (by exact hS8.swap.drop) (((e1.trans e5).trans e6).trans e7)))
  · ktf_call "us"
    refine ⟨st, 8, m, G1, rfl, rfl, by decide, by decide, D3, fun a H4 ha0 ha D4 => ?_⟩
    ktf_call "us"
    obtain ⟨sz, rfl⟩ : ∃ i : Nat, a = (i : Int) := ⟨a.toNat, by omega⟩
    refine ⟨st, 1 + (sz : Int), m, G1, rfl, rfl, by omega, by omega, D4, fun a H5 hb0 hb D5 => ?_⟩
    obtain ⟨p, rfl⟩ : ∃ i : Nat, a = (i : Int) := ⟨a.toNat, by omega⟩
    ktf_call "us"
    refine wss_cons (ws_asgC g (by decide +kernel) (we_lc g [("_law_k", 7)] [false, false, true, false, false, false, false, true, false, false, false] [false, false, false, false, false, false, false, true, false, false, false] ["_law_pull"] (by decide +kernel) (by decide) (wi_r1 g (by ktf_call "gm") E.f_range ?_)))
    ktf_call "us"
    refine ⟨by omega, by omega, ?_⟩
    rw [show (1 + (sz : Int)).toNat = sz + 1 from by omega]
    obtain ⟨x0, y0, z0, hS5⟩ := D5
    refine ⟨Nat, Unit, List.range (sz + 1), fun _ => some (), fun _ v _ => ∃ i : Int, v = .int i ∧ (0 ≤ i ∧ i < 26), fun _ m' => ∃ x y z, m' = (st, stO x y z) :: m, _, G1, fun _ _ _ _ _ h => h, by simp, Nat.le_trans (by omega : sz + 1 ≤ 8) (by decide), hS5, ⟨_, _, _, rfl⟩, fun _ _ _ _ _ _ _ _ _ _ => True.intro, ?_, ?_⟩
    · rintro j s D m' G' vs H' v H'' hs e2 ⟨x, y, z, rfl⟩ hS6 ⟨rfl, rfl⟩ Z gZ
      ktf_call "w"
      ktf_call "us"
      refine ⟨rfl, fun Z gZ => ?_⟩
      ktf_call "t"
      refine iteT fun Z gZ => ?_
      ktf_call "us"
      refine ⟨st, 26, (D, .lst vs) :: m, G', rfl, rfl, by decide, by decide, ⟨_, _, _, hS6.swap⟩, fun r H7 hr0 hr D7 => ?_⟩
      obtain ⟨x', y', z', hS7⟩ := D7.swap
      exact ⟨(), _, G', trivial, Same.refl _, ⟨x', y', z', rfl⟩, hS7, r, rfl, hr0, hr⟩
    · rintro D m' G' vs H6 e2 ⟨x, y, z, rfl⟩ hS6 hF
      obtain ⟨bs, rfl, hbl, hb26⟩ := fa_ints hF
      have hbl : bs.length = sz + 1 := by simpa using hbl
      obtain ⟨hS7, e3⟩ := hS6.freeze
      generalize hG7 : upd G' D (.lst (bs.map V.int)) = G7 at hS7 e3
      have hD : G7 D = some (.lst (bs.map V.int)) := by rw [← hG7]; exact upd_same
      ktf_call "w"
      ktf_call "us"
      refine nl_m hS7 (by decide) fun q1 H8 hS8 => ?_
      ktf_call "us"
      refine wss_cons (ws_forS g (wi_r1 g (by ktf_call "gm") E.f_range ?_))
      ktf_call "us"
      refine ⟨by decide, by decide, fun i σ' H' => ∃ o7 o8 G', σ' = [some (.int c), some (.ref q0), some (.ref st), some (.int p), some (.int (1 + (sz : Int))), some (.ref D), some (.ref q1), o7, o8, none, none] ∧ Same G7 G' ∧ Hs B ((q1, .lst (((List.range i).map (nameK bs p)).map V.str)) :: (st, stO x y z) :: m) G' H', ⟨_, _, G7, rfl, Same.refl _, hS8⟩, fun _ _ _ _ _ => True.intro, ?_, ?_⟩
      · rintro i v σ' H' H'' hi ⟨o7, o8, G9, rfl, e9, hS9⟩ ⟨rfl, hv⟩
        have hi : i < 8 := hi
        obtain rfl : v = .int i := by rw [hv]; congr 1; omega
        ktf_call "us"
        refine wss_cons (ws_lcL g 8 [("_law_j", 9)] [false, false, false, true, false, true, false, true, false, true, false] [false, false, false, false, false, false, false, false, false, true, false] ["int"] rfl (by decide +kernel) (by decide) rfl (wi_r1 g (by ktf_call "gm") E.f_range ?_))
        ktf_call "us"
        refine ⟨by omega, by omega, ?_⟩
        rw [show (1 + (sz : Int)).toNat = bs.length from by omega]
        refine lcb_v (List.range bs.length) (fun j => some (.int (bs.getD j 0 + 3 * (i : Int) * (if decide ((j : Int) = (p : Int)) = true then 1 else 0)))) hS9 (by simp) (Nat.le_trans (by omega : bs.length ≤ 8) (by decide)) (fun _ _ _ _ _ _ => True.intro) ?_ ?_
        · rintro j s D2 G' vs H2 v H3 hs e10 hS10 ⟨rfl, hv⟩ Z gZ
          have hj : j < bs.length := by simpa using (List.getElem?_eq_some_iff.mp hs).1
          rw [List.getElem?_range hj] at hs
          obtain rfl := Option.some.inj hs
          obtain rfl : v = .int j := by rw [hv]; congr 1; omega
          ktf_call "w"
          ktf_call "us"
          refine ⟨rfl, fun Z gZ => ?_⟩
          ktf_call "t"
          refine iteT fun Z gZ => ?_
          ktf_call "us"
          refine wx_l gZ (sql (hS10.g _ _ (e10 _ _ (e9 _ _ hD)))) (at_nat j rfl (v := .int bs[j]) (by rw [List.getElem?_map, List.getElem?_eq_getElem hj]; rfl)) ?_
          ktf_call "us"
          refine wb_mul (.inl (by decide)) ?_
          ktf_call "us"
          refine wcl_intB ?_
          refine wb_mul (.inr (by split <;> decide)) ?_
          ktf_call "us"
          refine ⟨?_, G', Same.refl _, hS10⟩
          simp [List.getD, List.getElem?_eq_getElem hj]
        · rintro D2 G' H2 e10 hS10
          have es : ((List.range bs.length).filterMap fun j => some (V.int (bs.getD j 0 + 3 * (i : Int) * (if decide ((j : Int) = (p : Int)) = true then 1 else 0)))) = (sgnL bs p i).map V.int := by
            rw [List.filterMap_eq_map']
            unfold sgnL
            rw [List.map_map]; rfl
          rw [es] at hS10
          ktf_call "w"
          ktf_call "us"
          refine ⟨tyl hS10.a1, ?_⟩
          ktf_call "us"
          refine we_lc g [("_law_sign", 10)] [false, false, false, false, false, false, false, false, false, false, true] [false, false, false, false, false, false, false, false, false, false, true] [] (by decide +kernel) (by decide) (wi_l g ?_)
          ktf_call "us"
          refine ⟨D2, _, rfl, sql hS10.a0, ?_⟩
          have hsl : (sgnL bs p i).length = bs.length := by simp [sgnL]
          refine lcb_v (sgnL bs p i) (fun s => some (.str (oneS (sgn s)))) hS10 (by simp) (by rw [List.length_map, hsl]; exact Nat.le_trans (by omega : bs.length ≤ 8) (by decide)) (fun _ _ _ _ _ h => sql h.a1) ?_ ?_
          · rintro j s D3 G2 vs H3 v H4 hs e11 hS11 ⟨rfl, hv⟩ Z gZ
            rw [List.getElem?_map, hs] at hv
            obtain rfl := Option.some.inj hv
            ktf_call "w"
            ktf_call "us"
            refine ⟨rfl, fun Z gZ => ?_⟩
            ktf_call "t"
            refine iteT fun Z gZ => ?_
            ktf_call "us"
            refine wb_mod (by decide) ?_
            have b1 := Int.emod_nonneg s (show (26 : Int) ≠ 0 by decide)
            have b2 := Int.emod_lt_of_pos s (show (0 : Int) < 26 by decide)
            refine wx_s (c := sgn s) (by decide +kernel) (at_nat (s % 26).toNat (by omega) ?_) ⟨rfl, G2, Same.refl _, hS11⟩
            have e : ("abcdefghijklmnopqrstuvwxyz" : Str).cps.toList = (List.range 26).map (97 + ·) := by decide +kernel
            rw [e, List.getElem?_map, List.getElem?_range (by omega)]
            rfl
          · rintro D3 G2 H3 e11 hS11
            have es2 : ((sgnL bs p i).filterMap fun s => some (V.str (oneS (sgn s)))) = ((sgnL bs p i).map fun s => oneS (sgn s)).map V.str := by
              rw [List.filterMap_eq_map', List.map_map]; rfl
            rw [es2] at hS11
            ktf_call "us"
            refine wm_join g (sql hS11.a0) ?_ ?_
            · rw [List.map_map, show ((fun x : Str => x.length) ∘ fun i => oneS (sgn i)) = fun _ => 1 from rfl]
              have e : ((sgnL bs p i).map fun _ => 1).sum = (sgnL bs p i).length := by
                generalize sgnL bs p i = L
                induction L with
                | nil => rfl
                | cons a L ih => simp [ih]; omega
              rw [e, List.length_map, hsl]
              show bs.length + bs.length * 0 ≤ 16777216
              omega
            ktf_call "us"
            refine wm_append hS11.a2 (by rw [List.length_map, List.length_map, List.length_range]; exact Nat.lt_trans hi (by decide)) ?_
            ktf_call "us"
            refine ⟨_, _, G2, rfl, (e9.trans e10).trans e11, ?_⟩
            have hS12 := hS11.set2 (u' := .lst (((List.range i).map (nameK bs p)).map V.str ++ [V.str (Txt.join "" ((sgnL bs p i).map fun s => oneS (sgn s)))])) rfl
            have e : ((List.range (i + 1)).map (nameK bs p)).map V.str = ((List.range i).map (nameK bs p)).map V.str ++ [V.str (Txt.join "" ((sgnL bs p i).map fun s => oneS (sgn s)))] := by
              rw [List.range_succ, List.map_append, List.map_append]; rfl
            rw [e]
            exact hS12.drop.drop
      · rintro σ' H' ⟨o7, o8, G9, rfl, e9, hS9⟩
        ktf_call "us"
        refine k q1 _ H' (names_ok bs p (by omega) (by omega) (by omega)) ?_
        exact (hS9.swap.drop).base (((e1.trans e2).trans e3).trans e9)
end
/-! ### text D1 -/
set_option maxHeartbeats 4000000
section
open PySem PySem.Spec PyProof.Rows L2 TL
variable {B : Bs}
def pIsWhole : V → V → V → Hp → VK → Prop := fun a b c H Q => ∃ t l h : Int, a = .int t ∧ b = .int l ∧ c = .int h ∧ Q (.bl (decide (l ≤ t ∧ t ≤ h))) H
theorem o_is_whole (E : Ev B) : Fn B 1 "is_whole" (Sp3 pIsWhole) [] := by
  refine E.fn 37 rfl rfl rfl rfl (N := ["thing", "low", "high"]) (n := 3) (ps := ["thing", "low", "high"]) (gs := ["isinstance", "int", "bool"]) (by decide +kernel) len3 (by ktf_call "b3") ?_
  intro X vs H Q E1 g h
  obtain ⟨_, _, _, rfl, t, l, hh, rfl, rfl, rfl, k⟩ := h
  show WSs X _ _ [some (.int t), some (.int l), some (.int hh)] H
  ktf_call "us"
  refine iteD (fun h => ?_) (fun h => ?_)
  · ktf_call "us"
    simpa [h] using k
  · simpa [h] using k
/-- is_name of a name -/
def pIsName (B : Bs) : V → Hp → VK → Prop := fun a H Q => ∃ m G z, a = .str z ∧ Hs B m G H ∧ NameOk z ∧ ∀ H', Hs B m G H' → Q (.bl true) H'
theorem o_is_name (E : Ev B) : Fn B 1 "is_name" (Sp1 (pIsName B)) [] := by
  refine E.fn 38 rfl rfl rfl rfl (N := ["thing", "sign"]) (n := 1) (ps := ["thing"]) (gs := ["isinstance", "str", "len", "all"]) (by decide +kernel) len1 (by ktf_call "b1") ?_
  intro X vs H Q E1 g h
  obtain ⟨_, rfl, m, G, z, rfl, hS, ⟨h1, h2, h3⟩, k⟩ := h
  have hz : z.length ≤ sizeLine := Nat.le_trans h2 (by decide)
  show WSs X _ _ [some (.str z), none] H
  ktf_call "i"
  ktf_call "us"
  refine wcl_lenS hz ?_
  ktf_call "us"
  refine iteDF (by omega) ?_
  ktf_call "us"
  refine wcl_lenS hz ?_
  ktf_call "us"
  refine iteDF (by omega) ?_
  ktf_call "us"
  refine we_lc g [("sign", 1)] [false, true] [false, true] ["LETTERS"] (by decide +kernel) (by decide) (wi_s ?_)
  ktf_call "us"
  refine lcb_v (tl z) (fun _ => some (.bl true)) hS (by simp [tl]) hz (fun _ _ _ _ _ _ => True.intro) ?_ ?_
  · rintro i s D G' vs H' x H'' hs e1 e2 ⟨rfl, c, hc, rfl⟩ Z gZ
    ktf_call "w"
    ktf_call "us"
    refine ⟨rfl, fun Z gZ => ?_⟩
    ktf_call "us"
    refine wc_inS ?_
    have e : s = c := by
      have : (tl z)[i]? = some c := by unfold tl; rw [Array.getElem?_toList]; exact hc
      rw [this] at hs
      exact (Option.some.inj hs).symm
    subst e
    exact ⟨by rw [decide_eq_true (letters_mem (h3 s (List.mem_of_getElem? hs)))], G', Same.refl _, e2⟩
  · intro D G' H' e1 e2
    ktf_call "us"
    refine wcl_all g (bs := (tl z).map fun _ => true) (sql ?_) ?_
    · rw [e2.a0]
      simp [List.filterMap_eq_map', Function.comp_def]
    · rw [show (((tl z).map fun _ => true).all id) = true from by simp]
      exact k _ (e2.drop.base e1)
/-- plain_figures -/
def figB (z : Str) : Bool := (tl z).all fun c => decide (48 ≤ c ∧ c ≤ 57)
def pFig (B : Bs) : V → Hp → VK → Prop := fun a H Q => ∃ m G z, a = .str z ∧ Hs B m G H ∧ (1 ≤ z.length ∧ z.length ≤ 12 ∧ ((tl z).head? = some 48 → z.length = 1)) ∧ ∀ H', Hs B m G H' → Q (.bl (figB z)) H'
theorem o_plain_figures (E : Ev B) : Fn B 1 "plain_figures" (Sp1 (pFig B)) [] := by
  refine E.fn 39 rfl rfl rfl rfl (N := ["text", "sign"]) (n := 1) (ps := ["text"]) (gs := ["len", "all"]) (by decide +kernel) len1 (by ktf_call "b1") ?_
  intro X vs H Q E1 g h
  obtain ⟨_, rfl, m, G, z, rfl, hS, ⟨h1, h2, h3⟩, k⟩ := h
  have hz : z.length ≤ sizeLine := Nat.le_trans h2 (by decide)
  obtain ⟨c0, hc0⟩ : ∃ c, (tl z)[0]? = some c := ⟨_, List.getElem?_eq_getElem (by rw [← tl_len]; omega)⟩
  show WSs X _ _ [some (.str z), none] H
  refine wss_cons (ws_ifF (fun H1 => H = H1) ?_ ?_)
  · ktf_call "us"
    refine wcl_lenS hz ?_
    ktf_call "us"
    refine iteDF (by omega) ?_
    ktf_call "us"
    refine wcl_lenS hz ?_
    ktf_call "us"
    exact ⟨decide_eq_false (by omega), rfl⟩
  rintro _ rfl
  ktf_call "us"
  refine wss_cons (ws_ifF (fun H1 => H = H1) ?_ ?_)
  · ktf_call "us"
    refine wx_s (c := c0) hz (at_nat 0 rfl hc0) ?_
    ktf_call "us"
    rw [ch0]
    refine iteD (fun e => ?_) (fun e => ⟨rfl, rfl⟩)
    ktf_call "us"
    refine wcl_lenS hz ?_
    ktf_call "us"
    refine ⟨decide_eq_false ?_, rfl⟩
    have := h3 (by rw [List.head?_eq_getElem?, hc0, one_eq.mp e])
    omega
  rintro _ rfl
  ktf_call "us"
  refine we_lc g [("sign", 1)] [false, true] [false, true] ["FIGURES"] (by decide +kernel) (by decide) (wi_s ?_)
  ktf_call "us"
  refine lcb_v (tl z) (fun c => some (.bl (decide (48 ≤ c ∧ c ≤ 57)))) hS (by simp [tl]) hz (fun _ _ _ _ _ _ => True.intro) ?_ ?_
  · rintro i s D G' vs H' x H'' hs e1 e2 ⟨rfl, c, hc, rfl⟩ Z gZ
    ktf_call "w"
    ktf_call "us"
    refine ⟨rfl, fun Z gZ => ?_⟩
    ktf_call "us"
    refine wc_inS ?_
    have e : s = c := by
      have : (tl z)[i]? = some c := by unfold tl; rw [Array.getElem?_toList]; exact hc
      rw [this] at hs
      exact (Option.some.inj hs).symm
    subst e
    exact ⟨by simp only [figures_mem], G', Same.refl _, e2⟩
  · intro D G' H' e1 e2
    ktf_call "us"
    refine wcl_all g (bs := (tl z).map fun c => decide (48 ≤ c ∧ c ≤ 57)) (sql ?_) ?_
    · rw [e2.a0]
      simp [List.filterMap_eq_map', Function.comp_def]
    · rw [show (((tl z).map fun c => decide (48 ≤ c ∧ c ≤ 57)).all id) = figB z from by simp [figB, List.all_map, Function.comp_def]]
      exact k _ (e2.drop.base e1)
theorem figB_num {z : Str} {n : Nat} (h : tl z = numL n) : figB z = true := by
  unfold figB
  rw [h, List.all_eq_true]
  exact fun c hc => decide_eq_true (numL_digits n c hc)
/-- number_of a number's text -/
def pNumOf (B : Bs) : V → V → V → Hp → VK → Prop := fun a b c H Q => ∃ (m : List (Addr × HO)) (G : Hp) (i l h : Int), a = .str (iS i) ∧ b = .int l ∧ c = .int h ∧ Hs B m G H ∧ (-(10 ^ 9) ≤ i ∧ i ≤ 10 ^ 9) ∧ (l ≤ i ∧ i ≤ h) ∧ ∀ H', Hs B m G H' → Q (.int i) H'
theorem o_number_of (E : Ev B) : Fn B 2 "number_of" (Sp3 (pNumOf B)) [] := by
  have f1 := o_plain_figures E
  refine E.fn 40 rfl rfl rfl rfl (N := ["text", "low", "high", "number"]) (n := 4) (ps := ["text", "low", "high"]) (gs := ["plain_figures", "int"]) (by decide +kernel) len3 (by ktf_call "b3") ?_
  intro X vs H Q E1 g h
  obtain ⟨_, _, _, rfl, m, G, i, lo, hi, rfl, rfl, rfl, hS, hb, ⟨hlo, hhi⟩, k⟩ := h
  obtain ⟨l1, l2⟩ := iS_len hb
  have hz : (iS i).length ≤ sizeLine := Nat.le_trans l2 (by decide)
  show WSs X _ _ [some (.str (iS i)), some (.int lo), some (.int hi), none] H
  ktf_call "us"
  refine wss_cut (fun σ' H1 => σ' = [some (.str (iS i)), some (.int lo), some (.int hi), some (.int i)] ∧ Hs B m G H1) ?_ ?_
  rotate_left
  · rintro _ H' ⟨rfl, hS'⟩
    refine wss_cons (ws_ifF (fun H1 => H' = H1) ?_ ?_)
    rotate_left
    · rintro _ rfl
      ktf_call "us"
      exact k H' hS'
    · ktf_call "us"
      refine iteDT hlo ?_
      ktf_call "us"
      simp [hhi]
  refine ws_ifV (decide (0 ≤ i)) (fun H1 => Hs B m G H1) ?_ ?_ ?_
  · ktf_call "us"
    refine ⟨m, G, iS i, rfl, hS, ⟨l1, by omega, fun e => ?_⟩, fun H' hS' => ?_⟩
    · rw [tl_iS] at e
      unfold intL at e
      rw [tl_len, tl_iS]
      unfold intL
      split at e
      · simp at e
      · rename_i hneg
        rw [if_neg hneg]
        exact numL_head _ e
    · ktf_call "us"
      refine ⟨?_, hS'⟩
      by_cases h0 : 0 ≤ i
      · rw [figB_num (iS_nat h0), decide_eq_true h0]
      · rw [decide_eq_false h0]
        unfold figB
        rw [iS_neg (by omega)]
        simp
  · intro h0 H1 hS1
    have h0 := of_decide_eq_true h0
    ktf_call "us"
    refine wcl_intS (int_iS h0 hb.2) (by omega) ?_
    ktf_call "us"
    exact ⟨rfl, hS1⟩
  · intro h0 H1 hS1
    have h0 := of_decide_eq_false h0
    have hn : i < 0 := by omega
    have e1 : cutS (iS i) none (some 1) = ⟨#[45]⟩ := ext_tl (by rw [cut_one l1, iS_neg hn]; rfl)
    have e2 : cutS (iS i) (some 1) none = iS (0 - i) := ext_tl (by rw [cut_from l1, iS_neg hn, iS_nat (by omega), show (0 - i).natAbs = i.natAbs from by omega]; rfl)
    refine wss_one (ws_ifT (fun H2 => Hs B m G H2) ?_ ?_)
    · ktf_call "us"
      refine wsl_s hz ?_
      rw [e1, chm]
      ktf_call "us"
      refine iteDT rfl ?_
      ktf_call "us"
      refine iteNDT (fun e => ?_) ?_
      · have : tl (iS i) = [45, 48] := by rw [e]; decide +kernel
        rw [iS_neg hn] at this
        have q : numL i.natAbs = [48] := by simpa using this
        have v := numL_val i.natAbs
        rw [q] at v
        have : (0 : Nat) = i.natAbs := v
        omega
      · ktf_call "us"
        refine wsl_s hz ?_
        rw [e2]
        ktf_call "us"
        have hb2 : -(10 ^ 9) ≤ 0 - i ∧ 0 - i ≤ 10 ^ 9 := by omega
        obtain ⟨l3, l4⟩ := iS_len hb2
        refine ⟨m, G, iS (0 - i), rfl, hS1, ⟨l3, by omega, fun e => ?_⟩, fun H' hS' => ?_⟩
        · rw [iS_nat (by omega)] at e
          rw [tl_len, iS_nat (by omega)]
          exact numL_head _ e
        · ktf_call "us"
          exact ⟨figB_num (iS_nat (by omega)), hS'⟩
    · intro H2 hS2
      ktf_call "us"
      refine wsl_s hz ?_
      rw [e2]
      ktf_call "us"
      refine wcl_intS (int_iS (by omega) (by omega)) (by have := iS_len (i := 0 - i) (by omega); omega) ?_
      ktf_call "us"
      rw [show 0 - (0 - i) = i from by omega]
      exact ⟨rfl, hS2⟩
end
/-! ### text D18 -/
set_option maxHeartbeats 4000000
section
open PySem PySem.Spec PyProof.Rows L2 TL
variable {B : Bs}
def pPut (B : Bs) : V → V → V → V → Hp → VK → Prop := fun a b c d H Q => ∃ (r : Addr) (f l : Int) (mk : Option Int) (vs : List V) (rows : List Row) (m : List (Addr × HO)) (G : Hp), a = .ref r ∧ b = .int f ∧ c = .int l ∧ d = oV mk ∧ rows.length < sizeLine ∧ Fa (RowR G) vs rows ∧ Hs B ((r, .lst vs) :: m) G H ∧
  ∀ vs' G' H', Same G G' → Fa (RowR G') vs' (putB rows f l mk) → Hs B ((r, .lst vs') :: m) G' H' → Q .non H'
theorem put_behind (E : Ev B) : Fn B 1 "put_behind" (Sp4 (pPut B)) [] := by
  refine E.fn 54 rfl rfl rfl rfl (N := ["strip", "first", "last", "mark"]) (n := 4) (ps := ["strip", "first", "last", "mark"]) (gs := []) (by decide +kernel) len4 (by ktf_call "b4") ?_
  intro X vs0 H Q E1 g h
  obtain ⟨_, _, _, _, rfl, r, f, l, mk, vs, rows, m, G, rfl, rfl, rfl, rfl, hlen, hF, hS, k⟩ := h
  show WSs X _ _ [some (.ref r), some (.int f), some (.int l), some (oV mk)] H
  refine wss_one ?_
  refine ws_ifV (canJ rows f mk) (fun H1 => Hs B ((r, .lst vs) :: m) G H1) ?_ ?_ ?_
  · ktf_call "us"
    refine nl_m hS (by decide) fun q H1 hS1 => ?_
    have hd1 : DpAll B.K H1 vs (rows.map rowD) := dpa_up hS1.g (rows_dp hF)
    refine wc_neNil g (sql hS1.a1) hd1 (shaped_rows rows) (sql hS1.a0) ?_
    have hS2 := hS1.drop
    have hr1 := hS2.a0
    ktf_call "us"
    rcases List.eq_nil_or_concat rows with e | ⟨L, ⟨a, b, c⟩, e⟩
    · subst e
      cases hF
      refine iteBF rfl ?_
      exact ⟨rfl, hS2⟩
    · rw [List.concat_eq_append] at e
      subst e
      rw [canJ_snoc]
      obtain ⟨us, v, rfl, hF1, ⟨t, rfl, ht⟩⟩ := hF.snoc
      have ht1 := hS2.g _ _ ht
      refine iteBT (by simp) ?_
      have hget : atI (us ++ [V.ref t]) (-1) = some (V.ref t) := at_end us.length (by simp only [List.length_append, List.length_cons, List.length_nil]; omega) (by decide) (by simp)
      ktf_call "us"
      refine wx_l g (sql hr1) hget ?_
      ktf_call "us"
      refine wx_t g (sqt ht1) (at_nat 1 rfl rfl) ?_
      ktf_call "us"
      refine iteD (fun e1 => ?_) (fun e1 => ⟨by simp [e1], hS2⟩)
      ktf_call "us"
      refine wx_l g (sql hr1) hget ?_
      ktf_call "us"
      refine wx_t g (sqt ht1) (at_nat 2 rfl rfl) ?_
      ktf_call "us"
      refine wc_eq (oV_scal _ _) ?_
      ktf_call "us"
      exact ⟨by simp [e1, oV_inj], hS2⟩
  · intro hj H1 hS1
    rcases List.eq_nil_or_concat rows with e | ⟨L, ⟨a, b, c⟩, e⟩
    · subst e; cases hj
    · rw [List.concat_eq_append] at e
      subst e
      rw [canJ_snoc, Bool.and_eq_true, decide_eq_true_eq, decide_eq_true_eq] at hj
      obtain ⟨us, v, rfl, hF1, ⟨t, rfl, ht⟩⟩ := hF.snoc
      have ht1 := hS1.g _ _ ht
      have hr1 := hS1.a0
      have hget : atI (us ++ [V.ref t]) (-1) = some (V.ref t) := at_end us.length (by simp only [List.length_append, List.length_cons, List.length_nil]; omega) (by decide) (by simp)
      ktf_call "us"
      refine wx_l g (sql hr1) hget ?_
      ktf_call "us"
      refine wx_t g (sqt ht1) (at_nat 0 rfl rfl) ?_
      ktf_call "us"
      refine nt_f hS1 (by show 3 ≤ sizeLine; decide) fun q G2 H2 hS2 e2 hq => ?_
      ktf_call "us"
      have hix : ixN (us ++ [V.ref t]).length (-1) = some us.length := by
        unfold ixN
        rw [if_neg (by decide), if_pos (by simp; omega)]
        simp
        omega
      refine wst_l hS2.a0 hix ?_
      ktf_call "us"
      refine k (us ++ [.ref q]) G2 _ e2 ?_ ?_
      · rw [putB_snoc, if_pos hj]
        exact (hF1.mono fun x y z => z.up e2).append (.cons ⟨q, rfl, hq⟩ .nil)
      · have := hS2.set (u' := .lst ((us ++ [V.ref t]).set us.length (.ref q))) rfl
        rw [show (us ++ [V.ref t]).set us.length (.ref q) = us ++ [.ref q] from by simp] at this ⊢
        exact this
  · intro hj H1 hS1
    have hr := hS1.a0
    ktf_call "us"
    refine nt_f hS1 (by show 3 ≤ sizeLine; decide) fun t G2 H2 hS2 e2 ht => ?_
    ktf_call "us"
    refine wm_append hS2.a0 (by rw [hF.length]; exact hlen) ?_
    ktf_call "us"
    refine k (vs ++ [.ref t]) G2 _ e2 ?_ (hS2.set rfl)
    rw [putB_no l hj]
    exact (hF.mono fun x y z => z.up e2).append (.cons ⟨t, rfl, ht⟩ .nil)
end
/-! ### text D19 -/
set_option maxHeartbeats 4000000
section
open PySem PySem.Spec PyProof.Rows L2 TL
variable {B : Bs}
theorem MkL.to {X : Cx} {c P : Addr} {q : Str} (M : MkL B X c P q) : Mkl B X c P := ⟨M.TB, M.code, by rw [M.qual]; exact M.mem, fun p hp e => by rw [M.qual]; exact M.uniq p hp e⟩
abbrev foldR (acc : List Row) (rows : List Row) : List Row := rows.foldl (fun acc r => putB acc r.1 r.2.1 r.2.2) acc
theorem foldR_len : ∀ (rows : List Row) (acc : List Row), (foldR acc rows).length ≤ acc.length + rows.length
  | [], _ => Nat.le_refl _
  | r :: rows, acc => by
    show (foldR (putB acc r.1 r.2.1 r.2.2) rows).length ≤ _
    refine Nat.le_trans (foldR_len rows _) ?_
    have := putB_len acc r.1 r.2.1 r.2.2
    simp only [List.length_cons]
    omega
def pJoined (B : Bs) : V → Hp → VK → Prop := fun a H Q => ∃ (r : Addr) (vs : List V) (rows : List Row) (m : List (Addr × HO)) (G : Hp), a = .ref r ∧ rows.length ≤ 1000 ∧ Fa (RowR G) vs rows ∧ Hs B ((r, .lst vs) :: m) G H ∧
  ∀ q vs' G' H', Same G G' → Fa (RowR G') vs' (joinR rows) → Hs B ((q, .lst vs') :: (r, .lst vs) :: m) G' H' → Q (.ref q) H'
theorem joined (E : Ev B) : Fn B 2 "joined" (Sp1 (pJoined B)) [] := by
  have f1 := put_behind E
  have L := E.lamF 0 (x := "joined") rfl rfl rfl (N := ["rows", "found", "first", "last", "mark", "row"]) (n := 5) (ps := ["rows"]) (gs := ["sorted", "put_behind"]) (k := 1) (sp := Sp1 (pJoined B)) (by decide +kernel) len1 ?_
  · obtain ⟨fd, f, F, ok, hg⟩ := L
    exact ⟨f, fd, _, [], ok, hg, F.kp, F.bindsN (by ktf_call "b1"), .nil⟩
  intro X vs0 H Q E1 g ⟨c, P, M⟩ h
  obtain ⟨_, rfl, r, vs, rows, m, G, rfl, hlen, hF, hS, k⟩ := h
  show WSs X _ _ [some (.ref r), none, none, none, none, none] H
  ktf_call "us"
  refine nl_m hS (by decide) fun q H1 hS1 => ?_
  ktf_call "us"
  refine wss_cons (ws_forS g (wi_l g (we_sortK g (by ktf_call "gm") E.f_sorted ?_)))
  ktf_call "us"
  refine we_lam g M.to (by decide +kernel) hS1 fun f c' G2 H2 hS2 e2 hf hc => ?_
  refine ⟨r, f, vs, _, _, "row", keyV G, rfl, rfl, sql hS2.a1, hS2.g _ _ hf, hS2.g _ _ hc, ⟨rfl, ⟨_, _, _, _, rfl⟩, fun _ _ _ => by kernel_rfl, rfl, rfl, rfl, fun y hy => by have hy' : y ∈ [((Str.ofString "row"), NameKind.local)] := hy; rw [List.mem_singleton.mp hy']; decide, (show List.lookup (Str.ofString "row") [(Str.ofString "row", NameKind.local)] = some NameKind.local from by decide +kernel), by decide +kernel⟩, fun y hy => ?_, fun p hp => ?_⟩
  · obtain ⟨i, hi⟩ := List.mem_iff_getElem?.mp hy
    obtain ⟨row, hr, hR⟩ := hF.get' hi
    rw [keyV_row hR]
    obtain ⟨t, rfl, ht⟩ := hR
    exact ⟨t, _, rfl, sqt (hS2.g _ _ (e2 _ _ ht))⟩
  have hS3 := hS2.new (u := .lst (vs.mergeSort fun p q => decide (keyV G p ≤ keyV G q))) hp rfl
  have hsr := sort_rows hF
  have hl2 : (sortR rows).length ≤ 1000 := by unfold sortR; rw [List.length_mergeSort]; exact hlen
  refine ⟨p, _, rfl, sql hS3.a0, fun i σ' H' => ∃ o2 o3 o4 vs' G', σ' = [some (.ref r), some (.ref q), o2, o3, o4, none] ∧ Same G2 G' ∧ Fa (RowR G') vs' (foldR [] ((sortR rows).take i)) ∧
    Hs B ((q, .lst vs') :: (p, .lst (vs.mergeSort fun p q => decide (keyV G p ≤ keyV G q))) :: (r, .lst vs) :: m) G' H', ⟨_, _, _, [], G2, rfl, Same.refl _, .nil, hS3.swap⟩, fun i σ' H' _ ⟨_, _, _, _, _, _, _, _, h⟩ => sql h.a1, ?_, ?_⟩
  · rintro i x σ' H' _ hi ⟨o2, o3, o4, vs', G', rfl, e3, hF', hS'⟩ ⟨rfl, hx⟩
    obtain ⟨row, hrow, hR⟩ := hsr.get' hx
    obtain ⟨t, rfl, ht⟩ := hR
    have ht' := hS'.g _ _ (e3 _ _ (e2 _ _ ht))
    ktf_call "us"
    refine ⟨q, row.1, row.2.1, row.2.2, vs', _, _, G', rfl, rfl, rfl, rfl, ?_, hF', hS', fun vs2 G4 H4 e4 hF4 hS4 => ?_⟩
    · refine Nat.lt_of_le_of_lt (foldR_len _ _) ?_
      rw [List.length_take]
      exact Nat.lt_of_le_of_lt (Nat.le_trans (by simp; omega) hl2) (by decide)
    ktf_call "us"
    refine ⟨_, _, _, vs2, G4, rfl, e3.trans e4, ?_, hS4⟩
    rw [List.take_add_one, hrow]
    unfold foldR at hF4 ⊢
    rw [List.foldl_append]
    exact hF4
  · rintro σ' H' ⟨o2, o3, o4, vs', G', rfl, e3, hF', hS'⟩
    rw [hsr.length, List.take_length] at hF'
    ktf_call "us"
    exact k q vs' G' H' (e2.trans e3) hF' (hS'.swap.drop)
/-! ### laid -/
def sideR (f l : Int) (r : Row) : List Row := (if r.1 < f then [(r.1, min r.2.1 (f - 1), r.2.2)] else []) ++ (if l < r.2.1 then [(max r.1 (l + 1), r.2.1, r.2.2)] else [])
def laidR (strip : List Row) (f l : Int) (n : Int) : List Row := joinR ((f, l, some n) :: strip.flatMap (sideR f l))
def pLaid (B : Bs) : V → V → V → V → Hp → VK → Prop := fun a b c d H Q => ∃ (s : Addr) (f l n : Int) (svs : List V) (strip : List Row) (m : List (Addr × HO)) (G : Hp), a = .ref s ∧ b = .int f ∧ c = .int l ∧ d = .int n ∧ G s = some (.lst svs) ∧ Fa (RowR G) svs strip ∧ strip.length ≤ 400 ∧ Hs B m G H ∧
  ∀ q vs' G' H', Same G G' → G' q = some (.lst vs') → Fa (RowR G') vs' (laidR strip f l n) → Hs B m G' H' → Q (.ref q) H'
theorem sideR_len (f l : Int) : ∀ strip : List Row, (strip.flatMap (sideR f l)).length ≤ 2 * strip.length
  | [] => by simp
  | r :: rs => by
    have := sideR_len f l rs
    rw [List.flatMap_cons, List.length_append, List.length_cons]
    have : (sideR f l r).length ≤ 2 := by
      unfold sideR
      split <;> split <;> simp
    omega
theorem min_if (i j : Int) : (if j < i then j else i) = min i j := by
  rw [Int.min_def]
  split <;> split <;> omega
theorem max_if (i j : Int) : (if j > i then j else i) = max i j := by
  rw [Int.max_def]
  split <;> split <;> omega
theorem laid (E : Ev B) : Fn B 3 "laid" (Sp4 (pLaid B)) [] := by
  have f1 := joined E
  refine E.fn 56 rfl rfl rfl rfl (N := ["strip", "first", "last", "mark", "rows", "begin", "end", "old"]) (n := 8) (ps := ["strip", "first", "last", "mark"]) (gs := ["min", "max", "joined"]) (by decide +kernel) len4 (by ktf_call "b4") ?_
  intro X vs0 H Q E1 g h
  obtain ⟨_, _, _, _, rfl, s, f, l, n, svs, strip, m, G, rfl, rfl, rfl, rfl, hs, hF, hlen, hS, k⟩ := h
  show WSs X _ _ [some (.ref s), some (.int f), some (.int l), some (.int n), none, none, none, none] H
  ktf_call "us"
  refine nt_f hS (by show 3 ≤ sizeLine; decide) fun t G1 H1 hS1 e1 ht => ?_
  ktf_call "us"
  refine nl_m hS1 (by show 1 ≤ sizeLine; decide) fun r H2 hS2 => ?_
  ktf_call "us"
  refine wss_cons (ws_forS g (wi_l g ?_))
  ktf_call "us"
  refine ⟨s, svs, rfl, sql (hS2.g _ _ (e1 _ _ hs)), fun i σ' H' => ∃ o5 o6 o7 vs' G', σ' = [some (.ref s), some (.int f), some (.int l), some (.int n), some (.ref r), o5, o6, o7] ∧ Same G1 G' ∧ Fa (RowR G') vs' ((f, l, some n) :: (strip.take i).flatMap (sideR f l)) ∧ Hs B ((r, .lst vs') :: m) G' H', ⟨_, _, _, _, G1, rfl, Same.refl _, .cons ⟨t, rfl, ht⟩ .nil, hS2⟩, fun i σ' H' _ ⟨_, _, _, _, _, _, e, _, h⟩ => sql (h.g _ _ (e _ _ (e1 _ _ hs))), ?_, ?_⟩
  · rintro i x σ' H' _ hi ⟨o5, o6, o7, vs', G', rfl, e3, hF', hS'⟩ ⟨rfl, hx⟩
    obtain ⟨row, hrow, hR⟩ := hF.get' hx
    obtain ⟨u, rfl, hu⟩ := hR
    have hu' := hS'.g _ _ (e3 _ _ (e1 _ _ hu))
    have hlenI : ((f, l, some n) :: (strip.take i).flatMap (sideR f l)).length + 2 ≤ 1000 := by
      have := sideR_len f l (strip.take i)
      have h2 : (strip.take i).length ≤ 400 := Nat.le_trans (List.length_take_le ..) (by have := (List.getElem?_eq_some_iff.mp hrow).1; omega)
      rw [List.length_cons]
      omega
    ktf_call "us"
    refine wss_cut (fun σ2 H2 => ∃ vs2 G2, σ2 = [some (.ref s), some (.int f), some (.int l), some (.int n), some (.ref r), some (.int row.1), some (.int row.2.1), some (oV row.2.2)] ∧ Same G' G2 ∧ Fa (RowR G2) vs2 (((f, l, some n) :: (strip.take i).flatMap (sideR f l)) ++ (if row.1 < f then [(row.1, min row.2.1 (f - 1), row.2.2)] else [])) ∧ Hs B ((r, .lst vs2) :: m) G2 H2) ?_ ?_
    · ktf_call "i"
      ktf_call "us"
      refine iteD (fun hlt => ?_) (fun hge => ?_)
      · have hr := hS'.a0
        ktf_call "us"
        refine wcl_min2 g ?_
        rw [min_if]
        ktf_call "us"
        refine nt_f hS' (by show 3 ≤ sizeLine; decide) fun t2 G2 H2 hS2 e2 ht2 => ?_
        ktf_call "us"
        refine wm_append hS2.a0 (by rw [hF'.length]; exact Nat.lt_of_le_of_lt (by omega : _ ≤ 1000) (by decide)) ?_
        ktf_call "us"
        refine ⟨_, G2, rfl, e2, ?_, hS2.set rfl⟩
        rw [if_pos hlt]
        refine (hF'.mono fun x y z => z.up e2).append (.cons ⟨t2, rfl, ht2⟩ .nil)
      · ktf_call "us"
        refine ⟨vs', G', rfl, Same.refl _, ?_, hS'⟩
        rw [if_neg hge, List.append_nil]
        exact hF'
    · rintro _ H2 ⟨vs2, G2, rfl, e2, hF2, hS2⟩
      have e4 : (strip.take (i + 1)).flatMap (sideR f l) = (strip.take i).flatMap (sideR f l) ++ sideR f l row := by
        rw [List.take_add_one, hrow, List.flatMap_append]; simp
      ktf_call "i"
      ktf_call "us"
      refine iteD (fun hlt => ?_) (fun hge => ?_)
      · have hr := hS2.a0
        ktf_call "us"
        refine wcl_max2 g ?_
        rw [max_if]
        ktf_call "us"
        refine nt_f hS2 (by show 3 ≤ sizeLine; decide) fun t2 G3 H3 hS3 e3' ht2 => ?_
        ktf_call "us"
        refine wm_append hS3.a0 (by
          rw [hF2.length, List.length_append]
          refine Nat.lt_of_le_of_lt (show _ ≤ 1000 from ?_) (by decide)
          split <;> simp at hlenI ⊢ <;> omega) ?_
        ktf_call "us"
        refine ⟨_, _, _, _, G3, rfl, (e3.trans e2).trans e3', ?_, hS3.set rfl⟩
        rw [e4, ← List.cons_append]
        unfold sideR
        rw [if_pos hlt, ← List.append_assoc]
        refine (hF2.mono fun x y z => z.up e3').append (.cons ⟨t2, rfl, ht2⟩ .nil)
      · ktf_call "us"
        refine ⟨_, _, _, vs2, G2, rfl, e3.trans e2, ?_, hS2⟩
        rw [e4, ← List.cons_append]
        unfold sideR
        rw [if_neg hge, List.append_nil]
        exact hF2
  · rintro σ' H' ⟨o5, o6, o7, vs', G', rfl, e3, hF', hS'⟩
    rw [hF.length, List.take_length] at hF'
    ktf_call "us"
    refine ⟨r, vs', _, m, G', rfl, ?_, hF', hS', fun q vs2 G2 H2 e2 hF2 hS2 => ?_⟩
    · have := sideR_len f l strip
      rw [List.length_cons]
      omega
    have := hS2.freeze
    ktf_call "us"
    exact k q vs2 _ H2 ((e1.trans e3).trans (e2.trans this.2)) upd_same (hF2.mono fun x y z => z.up this.2) this.1.drop
end
/-! ### text E3 -/
set_option maxHeartbeats 4000000
section
open PySem PySem.Spec PyProof.Rows L2 TL
variable {B : Bs}
theorem DrS.mk {st : Addr} {x y z : Int} {m : List (Addr × HO)} {G H : Hp} (h : Hs B ((st, stO x y z) :: m) G H) : DrS B st m G H := ⟨_, _, _, h⟩
theorem DrS.base {st : Addr} {m : List (Addr × HO)} {G G' H : Hp} (h : DrS B st m G' H) (e : Same G G') : DrS B st m G H := let ⟨x, y, z, h⟩ := h; ⟨x, y, z, h.base e⟩
/-! ### windows, days, amounts -/
def WinOk (w0 wd : Int) : Prop := 0 ≤ w0 ∧ 1 ≤ wd ∧ wd ≤ 40 ∧ w0 + wd ≤ 400
def pWin (B : Bs) : V → Hp → VK → Prop := fun a H Q => ∃ (st : Addr) (m : List (Addr × HO)) (G : Hp), a = .ref st ∧ DrS B st m G H ∧ ∀ v w0 wd G' H', Same G G' → G' v = some (.tup [.int w0, .int wd]) → WinOk w0 wd → DrS B st m G' H' → Q (.ref v) H'
theorem law_window (E : Ev B) : Fn B 3 "_law_window" (Sp1 (pWin B)) [] := by
  have f2 := law_pull E
  refine E.fn 83 rfl rfl rfl rfl (N := ["_law_state", "_law_wide"]) (n := 2) (ps := ["_law_state"]) (gs := ["_law_pull"]) (by decide +kernel) len1 (by ktf_call "b1") ?_
  intro X vs0 H Q E1 g h
  obtain ⟨_, rfl, st, m, G, rfl, ⟨x, y, z, hS⟩, k⟩ := h
  show WSs X _ _ [some (.ref st), none] H
  ktf_call "us"
  refine nl_f hS (by show 3 ≤ sizeLine; decide) fun q0 G1 H1 hS1 e1 hq0 => ?_
  ktf_call "us"
  refine ⟨st, 3, m, G1, rfl, rfl, by decide, by decide, .mk hS1, fun r H2 hr0 hr ⟨x2, y2, z2, hS2⟩ => ?_⟩
  obtain ⟨i, rfl⟩ : ∃ i : Nat, r = (i : Int) := ⟨r.toNat, by omega⟩
  obtain ⟨wd, hwd, h1, h2⟩ : ∃ wd : Int, ([.int 1, .int 12, .int 40] : List V)[i]? = some (.int wd) ∧ 1 ≤ wd ∧ wd ≤ 40 := by
    have : i = 0 ∨ i = 1 ∨ i = 2 := by omega
    rcases this with rfl | rfl | rfl
    · exact ⟨1, rfl, by decide, by decide⟩
    · exact ⟨12, rfl, by decide, by decide⟩
    · exact ⟨40, rfl, by decide, by decide⟩
  refine wx_l g (sql (hS2.g _ _ hq0)) (at_nat i rfl hwd) ?_
  ktf_call "us"
  refine ⟨st, 401 - wd, m, G1, rfl, rfl, by omega, by omega, .mk hS2, fun w0 H3 hw0 hw ⟨x3, y3, z3, hS3⟩ => ?_⟩
  ktf_call "us"
  refine nt_f hS3 (by show 2 ≤ sizeLine; decide) fun q G4 H4 hS4 e4 hq => ?_
  exact k q w0 wd G4 H4 (e1.trans e4) hq ⟨hw0, h1, h2, by omega⟩ (.mk hS4)
def pDays (B : Bs) : V → V → Hp → VK → Prop := fun a b H Q => ∃ (st wa : Addr) (w0 wd : Int) (m : List (Addr × HO)) (G : Hp), a = .ref st ∧ b = .ref wa ∧ G wa = some (.tup [.int w0, .int wd]) ∧ WinOk w0 wd ∧ DrS B st m G H ∧
  ∀ v f l G' H', Same G G' → G' v = some (.tup [.int f, .int l]) → w0 ≤ f → f ≤ l → l ≤ w0 + wd - 1 → DrS B st m G' H' → Q (.ref v) H'
theorem law_days (E : Ev B) : Fn B 3 "_law_days" (Sp2 (pDays B)) [] := by
  have f2 := law_pull E
  refine E.fn 84 rfl rfl rfl rfl (N := ["_law_state", "_law_window_here", "_law_first"]) (n := 3) (ps := ["_law_state", "_law_window_here"]) (gs := ["_law_pull"]) (by decide +kernel) len2 (by ktf_call "b2") ?_
  intro X vs0 H Q E1 g h
  obtain ⟨_, _, rfl, st, wa, w0, wd, m, G, rfl, rfl, hw, ⟨hw0, hw1, hw2, hw3⟩, ⟨x, y, z, hS⟩, k⟩ := h
  show WSs X _ _ [some (.ref st), some (.ref wa), none] H
  ktf_call "us"
  refine wx_t g (sqt (hS.g _ _ hw)) (at_nat 0 rfl rfl) ?_
  ktf_call "us"
  refine wx_t g (sqt (hS.g _ _ hw)) (at_nat 1 rfl rfl) ?_
  ktf_call "us"
  refine ⟨st, wd, m, G, rfl, rfl, by omega, by omega, .mk hS, fun r H2 hr0 hr ⟨x2, y2, z2, hS2⟩ => ?_⟩
  ktf_call "us"
  refine wx_t g (sqt (hS2.g _ _ hw)) (at_nat 0 rfl rfl) ?_
  ktf_call "us"
  refine wx_t g (sqt (hS2.g _ _ hw)) (at_nat 1 rfl rfl) ?_
  ktf_call "us"
  refine ⟨st, _, m, G, rfl, rfl, by omega, by omega, .mk hS2, fun r2 H3 hr20 hr2 ⟨x3, y3, z3, hS3⟩ => ?_⟩
  ktf_call "us"
  refine nt_f hS3 (by show 2 ≤ sizeLine; decide) fun q G4 H4 hS4 e4 hq => ?_
  exact k q _ _ G4 H4 e4 hq (by omega) (by omega) (by omega) (.mk hS4)
def pAmount (B : Bs) : V → Hp → VK → Prop := fun a H Q => ∃ (st : Addr) (m : List (Addr × HO)) (G : Hp), a = .ref st ∧ DrS B st m G H ∧ ∀ (i : Int) H', -(10 ^ 9) ≤ i → i ≤ 10 ^ 9 → DrS B st m G H' → Q (.int i) H'
theorem law_amount (E : Ev B) : Fn B 3 "_law_amount" (Sp1 (pAmount B)) [] := by
  have f2 := law_pull E
  refine E.fn 85 rfl rfl rfl rfl (N := ["_law_state", "_law_way"]) (n := 2) (ps := ["_law_state"]) (gs := ["_law_pull"]) (by decide +kernel) len1 (by ktf_call "b1") ?_
  intro X vs0 H Q E1 g h
  obtain ⟨_, rfl, st, m, G, rfl, D, k⟩ := h
  show WSs X _ _ [some (.ref st), none] H
  ktf_call "us"
  refine ⟨st, 4, m, G, rfl, rfl, by decide, by decide, D, fun r H2 hr0 hr D2 => ?_⟩
  ktf_call "us"
  ktf_call "i"
  ktf_call "us"
  refine iteD (fun _ => ?_) (fun _ => ?_)
  · ktf_call "us"
    refine ⟨st, 4, m, G, rfl, rfl, by decide, by decide, D2, fun i H3 hi0 hi D3 => ?_⟩
    exact k i H3 (by omega) (by omega) D3
  · ktf_call "us"
    ktf_call "i"
    ktf_call "us"
    refine iteD (fun _ => ?_) (fun _ => ?_)
    · ktf_call "us"
      refine ⟨st, 41, m, G, rfl, rfl, by decide, by decide, D2, fun i H3 hi0 hi D3 => ?_⟩
      ktf_call "us"
      exact k _ H3 (by omega) (by omega) D3
    · ktf_call "us"
      refine wb_pow (by decide) ?_
      refine wb_mul (.inl (by decide)) ?_
      ktf_call "us"
      refine ⟨st, _, m, G, rfl, rfl, by decide, by decide, D2, fun i H3 hi0 hi D3 => ?_⟩
      ktf_call "us"
      refine wb_pow (by decide) ?_
      ktf_call "us"
      have e : (10 : Int) ^ (Int.toNat 9) = 1000000000 := by decide
      rw [e] at hi ⊢
      exact k _ H3 (by omega) (by omega) D3
/-! ### some names -/
theorem seqIx_nat {j n : Nat} (h : j < n) : seqIndex? (j : Int) n = some j := by
  unfold seqIndex?
  simp only [show ¬ ((j : Int) < 0) by omega, if_false]
  rw [if_pos (by simp; omega)]
  simp
theorem erase_perm {α : Type} : ∀ {l : List α} {i : Nat} (h : i < l.length), (l[i] :: l.eraseIdx i).Perm l
  | [], _, h => by simp at h
  | a :: l, 0, _ => by simp
  | a :: l, i + 1, h => by
    have := erase_perm (l := l) (i := i) (by simpa using h)
    simp only [List.getElem_cons_succ, List.eraseIdx_cons_succ]
    exact (List.Perm.swap _ _ _).trans (this.cons a)
theorem erase_map {α β : Type} (f : α → β) : ∀ (l : List α) (i : Nat), (l.eraseIdx i).map f = (l.map f).eraseIdx i
  | [], _ => rfl
  | a :: l, 0 => rfl
  | a :: l, i + 1 => by simp [erase_map f l i]
theorem pick_perm {ls fs ns : List Str} (h : (ls ++ fs).Perm ns) {i : Nat} (hi : i < ls.length) : (ls.eraseIdx i ++ (fs ++ [ls[i]])).Perm ns := by
  have h1 : (ls[i] :: ls.eraseIdx i).Perm ls := erase_perm hi
  have h2 : (ls.eraseIdx i ++ (fs ++ [ls[i]])).Perm ((ls[i] :: ls.eraseIdx i) ++ fs) := by
    rw [← List.append_assoc]
    exact List.perm_append_comm
  exact (h2.trans (List.Perm.append_right fs h1)).trans h
def pSomeN (B : Bs) : V → V → V → Hp → VK → Prop := fun a b c H Q => ∃ (st na : Addr) (ns : List Str) (most : Int) (m : List (Addr × HO)) (G : Hp), a = .ref st ∧ b = .ref na ∧ c = .int most ∧ G na = some (.lst (ns.map V.str)) ∧ 1 ≤ ns.length ∧ ns.length ≤ 8 ∧ 1 ≤ most ∧ DrS B st m G H ∧
  ∀ q (fs : List Str) G' H', Same G G' → G' q = some (.lst (fs.map V.str)) → 1 ≤ fs.length → fs.length ≤ 8 → (∃ ls, (ls ++ fs).Perm ns) → DrS B st m G' H' → Q (.ref q) H'
theorem law_some (E : Ev B) : Fn B 3 "_law_some" (Sp3 (pSomeN B)) [] := by
  have f2 := law_pull E
  refine E.fn 86 rfl rfl rfl rfl (N := ["_law_state", "_law_names_here", "_law_most", "_law_left", "_law_found", "_law_k"]) (n := 6) (ps := ["_law_state", "_law_names_here", "_law_most"]) (gs := ["list", "range", "_law_pull", "min", "len"]) (by decide +kernel) len3 (by ktf_call "b3") ?_
  intro X vs0 H Q E1 g h
  obtain ⟨_, _, _, rfl, st, na, ns, most, m, G, rfl, rfl, rfl, hn, hn1, hn8, hmo, ⟨x, y, z, hS⟩, k⟩ := h
  have hnz : (ns.map V.str).length ≤ sizeLine := by rw [List.length_map]; exact Nat.le_trans hn8 (by decide)
  show WSs X _ _ [some (.ref st), some (.ref na), some (.int most), none, none, none] H
  ktf_call "us"
  refine wcl_listL g (sql (hS.g _ _ hn)) hnz (nl_m hS hnz fun lq H1 hS1 => ?_)
  ktf_call "us"
  refine nl_m hS1 (by decide) fun fq H2 hS2 => ?_
  ktf_call "us"
  refine wss_cons (ws_forS g (wi_r1 g (by ktf_call "gm") E.f_range ?_))
  ktf_call "us"
  refine wcl_lenL g (sql (hS2.g _ _ hn)) ?_
  ktf_call "us"
  refine wcl_min2 g ?_
  rw [min_if, List.length_map]
  ktf_call "us"
  refine ⟨st, _, (fq, .lst []) :: (lq, .lst (ns.map V.str)) :: m, G, rfl, rfl, by omega, by omega, .mk hS2.rot2, fun r H3 hr0 hr ⟨x3, y3, z3, hS3⟩ => ?_⟩
  ktf_call "us"
  refine ⟨by omega, by omega, ?_⟩
  obtain ⟨c, rfl⟩ : ∃ i : Nat, r = (i : Int) := ⟨r.toNat, by omega⟩
  rw [show (1 + (c : Int)).toNat = c + 1 from by omega]
  refine ⟨fun i σ' H' => ∃ o5, ∃ ls fs : List Str, ∃ x y z, σ' = [some (.ref st), some (.ref na), some (.int most), some (.ref lq), some (.ref fq), o5] ∧ (ls ++ fs).Perm ns ∧ fs.length = i ∧ Hs B ((fq, .lst (fs.map V.str)) :: (lq, .lst (ls.map V.str)) :: (st, stO x y z) :: m) G H', ⟨_, ns, [], _, _, _, rfl, by simp, rfl, hS3.perm ((List.Perm.swap _ _ _).trans ((List.Perm.swap _ _ _).cons _))⟩, fun _ _ _ _ _ => True.intro, ?_, ?_⟩
  · rintro i v σ' H' H'' hi ⟨o5, ls, fs, x4, y4, z4, rfl, hp, hfl, hS4⟩ ⟨rfl, hv⟩
    have hl := hp.length_eq
    rw [List.length_append] at hl
    have h1 := hS4.a0
    have h2 := hS4.a1
    ktf_call "us"
    refine wcl_lenL g (sql hS4.a1) ?_
    rw [List.length_map]
    ktf_call "us"
    refine ⟨st, _, (fq, .lst (fs.map V.str)) :: (lq, .lst (ls.map V.str)) :: m, G, rfl, rfl, by omega, by omega, .mk hS4.rot2, fun r H5 hr0 hr ⟨x5, y5, z5, hS5⟩ => ?_⟩
    obtain ⟨j, rfl⟩ : ∃ i : Nat, r = (i : Int) := ⟨r.toNat, by omega⟩
    have hj : j < ls.length := by omega
    ktf_call "us"
    refine wm_pop (k := j) (v := .str ls[j]) hS5.a2 (by omega) ?_ (by rw [List.getElem?_map, List.getElem?_eq_getElem hj]; rfl) ?_
    · rw [List.length_map]
      exact seqIx_nat hj
    have hS6 := hS5.set2 (u' := .lst ((ls.map V.str).eraseIdx j)) rfl
    ktf_call "us"
    refine wm_append hS6.a1 (by rw [List.length_map]; exact Nat.lt_of_le_of_lt (by omega : fs.length ≤ 8) (by decide)) ?_
    have hS7 := hS6.set1 (u' := .lst (fs.map V.str ++ [V.str ls[j]])) rfl
    ktf_call "us"
    refine ⟨_, ls.eraseIdx j, fs ++ [ls[j]], x5, y5, z5, rfl, pick_perm hp hj, by simp [hfl], ?_⟩
    rw [List.map_append, erase_map]
    exact hS7.perm ((List.Perm.swap _ _ _).trans ((List.Perm.swap _ _ _).cons _))
  · rintro σ' H' ⟨o5, ls, fs, x4, y4, z4, rfl, hp, hfl, hS4⟩
    have hl := hp.length_eq
    rw [List.length_append] at hl
    obtain ⟨hS5, e5⟩ := hS4.freeze
    ktf_call "us"
    exact k fq fs _ H' e5 upd_same (by omega) (by omega) ⟨ls, hp⟩ (.mk hS5.drop)
end
/-! ### text E4 -/
set_option maxHeartbeats 4000000
section
open PySem PySem.Spec PyProof.Rows L2 TL
variable {B : Bs}
/-! ### a question drawn -/
def Nd.inW (a b : Int) : Nd → Prop
  | .num _ => True
  | .val _ d => a ≤ d ∧ d ≤ b
  | .ov _ _ f l => a ≤ f ∧ l ≤ b
  | .since _ _ f l => a ≤ f ∧ l ≤ b
  | .part _ _ f l => a ≤ f ∧ l ≤ b
  | .chg _ _ f l => a ≤ f ∧ l ≤ b
  | .two _ x y => x.inW a b ∧ y.inW a b
  | .four _ x y z t => x.inW a b ∧ y.inW a b ∧ z.inW a b ∧ t.inW a b
structure NdG (ns : List Str) (w0 wd : Int) (nd : Nd) : Prop where
  ok : nd.ok
  nm : ∀ n ∈ nd.names, n ∈ ns
  win : nd.inW w0 (w0 + wd - 1)
def ws9 : List Str := ["value", "sum", "count", "least", "greatest", "since", "part", "change", "number"]
/-- what a drawer of questions is given -/
structure DrA (B : Bs) (st na wa : Addr) (ns : List Str) (w0 wd : Int) (m : List (Addr × HO)) (G H : Hp) : Prop where
  n : G na = some (.lst (ns.map V.str))
  n1 : 1 ≤ ns.length
  n8 : ns.length ≤ 8
  nd : ns.Nodup
  w : G wa = some (.tup [.int w0, .int wd])
  wo : WinOk w0 wd
  d : DrS B st m G H
theorem DrA.up {st na wa : Addr} {ns : List Str} {w0 wd : Int} {m m' : List (Addr × HO)} {G G' H H' : Hp} (A : DrA B st na wa ns w0 wd m G H) (e : Same G G') (D : DrS B st m' G' H') : DrA B st na wa ns w0 wd m' G' H' :=
  ⟨e _ _ A.n, A.n1, A.n8, A.nd, e _ _ A.w, A.wo, D⟩
def pLeaf (B : Bs) : V → V → V → V → Hp → VK → Prop := fun a b c d H Q => ∃ (st na wa : Addr) (ns : List Str) (w0 wd most : Int) (m : List (Addr × HO)) (G : Hp), a = .ref st ∧ b = .ref na ∧ c = .ref wa ∧ d = .int most ∧ 1 ≤ most ∧ DrA B st na wa ns w0 wd m G H ∧
  ∀ v nd G' H', Same G G' → NR G' v nd → NdG ns w0 wd nd → nd.depth = 0 → DrS B st m G' H' → Q v H'
theorem law_leaf (E : Ev B) : Fn B 4 "_law_leaf" (Sp4 (pLeaf B)) [] := by
  have f1 := law_pull E
  have f2 := law_amount E
  have f3 := law_days E
  have f4 := law_some E
  refine E.fn 87 rfl rfl rfl rfl (N := ["_law_state", "_law_names_here", "_law_window_here", "_law_most", "_law_word", "_law_first", "_law_last", "_law_name"]) (n := 8) (ps := ["_law_state", "_law_names_here", "_law_window_here", "_law_most"]) (gs := ["_law_pull", "_law_amount", "_law_days", "len", "_law_some"]) (by decide +kernel) len4 (by ktf_call "b4") ?_
  intro X vs0 H Q E1 g h
  obtain ⟨_, _, _, _, rfl, st, na, wa, ns, w0, wd, most, m, G, rfl, rfl, rfl, rfl, hm, ⟨hn, hn1, hn8, hnd, hw, hwo, x, y, z, hS⟩, k⟩ := h
  have hwo' := hwo
  obtain ⟨hw0, hw1, hw2, hw3⟩ := hwo'
  show WSs X _ _ [some (.ref st), some (.ref na), some (.ref wa), some (.int most), none, none, none, none] H
  ktf_call "us"
  refine nl_f hS (by show 9 ≤ sizeLine; decide) fun q0 G1 H1 hS1 e1 hq0 => ?_
  ktf_call "us"
  refine ⟨st, 9, m, G1, rfl, rfl, by decide, by decide, .mk hS1, fun r H2 hr0 hr ⟨x2, y2, z2, hS2⟩ => ?_⟩
  obtain ⟨i, rfl⟩ : ∃ i : Nat, r = (i : Int) := ⟨r.toNat, by omega⟩
  have hi : i < ws9.length := by show i < 9; omega
  have hwm : ws9[i] ∈ ws9 := List.getElem_mem hi
  refine wx_l g (sql (hS2.g _ _ hq0)) (v := .str ws9[i]) (at_nat i rfl (by
    show (ws9.map V.str)[i]? = _
    rw [List.getElem?_map, List.getElem?_eq_getElem hi]; rfl)) ?_
  generalize ws9[i] = w at hwm
  ktf_call "us"
  refine wss_cons (ws_ifV (decide (w = "number")) (fun H3 => H2 = H3) ?_ ?_ ?_)
  · ktf_call "us"
    exact ⟨rfl, rfl⟩
  · rintro hd _ rfl
    obtain rfl := of_decide_eq_true hd
    ktf_call "us"
    refine ⟨st, m, G1, rfl, .mk hS2, fun j H4 hj0 hj ⟨x4, y4, z4, hS4⟩ => ?_⟩
    ktf_call "us"
    refine nt_f hS4 (by show 2 ≤ sizeLine; decide) fun q G5 H5 hS5 e5 hq => ?_
    exact k _ (.num j) G5 H5 (e1.trans e5) ⟨q, rfl, hq⟩ ⟨⟨hj0, hj⟩, fun n hn => (by cases hn), trivial⟩ rfl (.mk hS5)
  rintro hd1 _ rfl
  have hd1 := of_decide_eq_false hd1
  have hw' := e1 _ _ hw
  ktf_call "us"
  refine ⟨st, wa, w0, wd, m, G1, rfl, rfl, hw', hwo, .mk hS2, fun v f l G3 H3 e3 hv hf hfl hl ⟨x3, y3, z3, hS3⟩ => ?_⟩
  have hv3 := hS3.g _ _ hv
  ktf_call "us"
  refine wcl_lenL g (sql (hS3.g _ _ (e3 _ _ (e1 _ _ hn)))) ?_
  rw [List.length_map]
  ktf_call "us"
  refine ⟨st, _, m, G3, rfl, rfl, by omega, by omega, .mk hS3, fun r H4 hr0 hr ⟨x4, y4, z4, hS4⟩ => ?_⟩
  obtain ⟨j, rfl⟩ : ∃ i : Nat, r = (i : Int) := ⟨r.toNat, by omega⟩
  have hj : j < ns.length := by omega
  have e13 := e1.trans e3
  refine wx_l g (sql (hS4.g _ _ (e13 _ _ hn))) (v := .str ns[j]) (at_nat j rfl (by rw [List.getElem?_map, List.getElem?_eq_getElem hj]; rfl)) ?_
  have hnm : ns[j] ∈ ns := List.getElem_mem hj
  generalize ns[j] = n at hnm
  ktf_call "us"
  refine wss_cons (ws_ifV (decide (w = "value")) (fun H5 => H4 = H5) ?_ ?_ ?_)
  · ktf_call "us"
    exact ⟨rfl, rfl⟩
  · rintro hd _ rfl
    obtain rfl := of_decide_eq_true hd
    ktf_call "us"
    refine nt_f hS4 (by show 3 ≤ sizeLine; decide) fun q G5 H5 hS5 e5 hq => ?_
    exact k _ (.val n l) G5 H5 (e13.trans e5) ⟨q, rfl, hq⟩ ⟨⟨by omega, by omega⟩, fun n' hn' => by rw [List.mem_singleton.mp hn']; exact hnm, ⟨by omega, by omega⟩⟩ rfl (.mk hS5)
  rintro hd2 _ rfl
  have hd2 := of_decide_eq_false hd2
  ktf_call "us"
  refine wss_cons (ws_ifV (decide (w = "since")) (fun H5 => H4 = H5) ?_ ?_ ?_)
  · ktf_call "us"
    exact ⟨rfl, rfl⟩
  · rintro hd _ rfl
    obtain rfl := of_decide_eq_true hd
    ktf_call "us"
    refine ⟨st, m, G3, rfl, .mk hS4, fun a H5 ha0 ha ⟨x5, y5, z5, hS5⟩ => ?_⟩
    ktf_call "us"
    refine nt_f hS5 (by show 5 ≤ sizeLine; decide) fun q G5 H5 hS5 e5 hq => ?_
    exact k _ (.since n a f l) G5 H5 (e13.trans e5) ⟨q, rfl, hq⟩ ⟨⟨⟨by omega, by omega, by omega⟩, ha0, ha⟩, fun n' hn' => by rw [List.mem_singleton.mp hn']; exact hnm, ⟨by omega, by omega⟩⟩ rfl (.mk hS5)
  rintro hd3 _ rfl
  have hd3 := of_decide_eq_false hd3
  ktf_call "us"
  refine wss_cons (ws_ifV (decide (w = "part")) (fun H5 => H4 = H5) ?_ ?_ ?_)
  · ktf_call "us"
    exact ⟨rfl, rfl⟩
  · rintro hd _ rfl
    obtain rfl := of_decide_eq_true hd
    ktf_call "us"
    refine wcl_lenL g (sql (hS4.g _ _ (e13 _ _ hn))) ?_
    rw [List.length_map]
    ktf_call "us"
    refine ⟨st, _, m, G3, rfl, rfl, by omega, by omega, .mk hS4, fun r H5 hr0 hr ⟨x5, y5, z5, hS5⟩ => ?_⟩
    obtain ⟨j2, rfl⟩ : ∃ i : Nat, r = (i : Int) := ⟨r.toNat, by omega⟩
    have hj2 : j2 < ns.length := by omega
    refine wx_l g (sql (hS5.g _ _ (e13 _ _ hn))) (v := .str ns[j2]) (at_nat j2 rfl (by rw [List.getElem?_map, List.getElem?_eq_getElem hj2]; rfl)) ?_
    have hnm2 : ns[j2] ∈ ns := List.getElem_mem hj2
    generalize ns[j2] = n2 at hnm2
    ktf_call "us"
    refine nt_f hS5 (by show 5 ≤ sizeLine; decide) fun q G5 H5 hS5 e5 hq => ?_
    exact k _ (.part n n2 f l) G5 H5 (e13.trans e5) ⟨q, rfl, hq⟩ ⟨⟨by omega, by omega, by omega⟩, fun n' hn' => (List.mem_cons.mp hn').elim (fun e => by rw [e]; exact hnm) fun e => by rw [List.mem_singleton.mp e]; exact hnm2, ⟨by omega, by omega⟩⟩ rfl (.mk hS5)
  rintro hd4 _ rfl
  have hd4 := of_decide_eq_false hd4
  ktf_call "us"
  refine wss_cons (ws_ifV (decide (w = "change")) (fun H5 => H4 = H5) ?_ ?_ ?_)
  · ktf_call "us"
    exact ⟨rfl, rfl⟩
  · rintro hd _ rfl
    obtain rfl := of_decide_eq_true hd
    ktf_call "us"
    refine nl_f hS4 (by show 2 ≤ sizeLine; decide) fun q1 G5 H5 hS5 e5 hq1 => ?_
    ktf_call "us"
    refine ⟨st, 2, m, G5, rfl, rfl, by decide, by decide, .mk hS5, fun r H6 hr0 hr ⟨x6, y6, z6, hS6⟩ => ?_⟩
    obtain ⟨i2, rfl⟩ : ∃ i : Nat, r = (i : Int) := ⟨r.toNat, by omega⟩
    obtain ⟨t, ht, ht1, ht2⟩ : ∃ t : Int, ([.int 3, .int 400] : List V)[i2]? = some (.int t) ∧ 1 ≤ t ∧ t ≤ 400 := by
      have : i2 = 0 ∨ i2 = 1 := by omega
      rcases this with rfl | rfl
      · exact ⟨3, rfl, by decide, by decide⟩
      · exact ⟨400, rfl, by decide, by decide⟩
    refine wx_l g (sql (hS6.g _ _ hq1)) (at_nat i2 rfl ht) ?_
    ktf_call "us"
    refine ⟨st, t, m, G5, rfl, rfl, by omega, by omega, .mk hS6, fun c H7 hc0 hc ⟨x7, y7, z7, hS7⟩ => ?_⟩
    ktf_call "us"
    refine nt_f hS7 (by show 5 ≤ sizeLine; decide) fun q G8 H8 hS8 e8 hq => ?_
    exact k _ (.chg (1 + c) n f l) G8 H8 ((e13.trans e5).trans e8) ⟨q, rfl, hq⟩ ⟨⟨⟨by omega, by omega, by omega⟩, by omega, by omega⟩, fun n' hn' => by rw [List.mem_singleton.mp hn']; exact hnm, ⟨by omega, by omega⟩⟩ rfl (.mk hS8)
  rintro hd5 _ rfl
  have hd5 := of_decide_eq_false hd5
  obtain ⟨o, rfl⟩ : ∃ o : Ov, w = o.w := by
    have : w = "sum" ∨ w = "count" ∨ w = "least" ∨ w = "greatest" := by
      unfold ws9 at hwm
      simp only [List.mem_cons, List.not_mem_nil, or_false] at hwm
      rcases hwm with h | h | h | h | h | h | h | h | h
      · exact absurd h hd2
      · exact .inl h
      · exact .inr (.inl h)
      · exact .inr (.inr (.inl h))
      · exact .inr (.inr (.inr h))
      · exact absurd h hd3
      · exact absurd h hd4
      · exact absurd h hd5
      · exact absurd h hd1
    rcases this with h | h | h | h
    · exact ⟨.sum, h⟩
    · exact ⟨.count, h⟩
    · exact ⟨.least, h⟩
    · exact ⟨.greatest, h⟩
  ktf_call "us"
  refine ⟨st, na, ns, most, m, G3, rfl, rfl, rfl, e13 _ _ hn, hn1, hn8, hm, .mk hS4, fun q fs G5 H5 e5 hq hf1 hf8 ⟨ls, hp⟩ ⟨x5, y5, z5, hS5⟩ => ?_⟩
  ktf_call "us"
  refine nt_f hS5 (by show 4 ≤ sizeLine; decide) fun q2 G6 H6 hS6 e6 hq2 => ?_
  have hpn : (ls ++ fs).Nodup := hp.nodup_iff.mpr hnd
  exact k _ (.ov o fs f l) G6 H6 ((e13.trans e5).trans e6) ⟨q2, q, rfl, hq2, e6 _ _ hq⟩ ⟨⟨⟨by omega, by omega, by omega⟩, hf1, hf8, (List.nodup_append.mp hpn).2.1⟩, fun n' hn' => hp.mem_iff.mp (List.mem_append_right _ hn'), ⟨by omega, by omega⟩⟩ rfl (.mk hS6)
/-! ### and nested -/
def pQuest (B : Bs) (j : Nat) : V → V → V → V → Hp → VK → Prop := fun a b c d H Q => ∃ (st na wa : Addr) (ns : List Str) (w0 wd : Int) (m : List (Addr × HO)) (G : Hp), a = .ref st ∧ b = .ref na ∧ c = .ref wa ∧ d = .int j ∧ DrA B st na wa ns w0 wd m G H ∧
  ∀ v nd G' H', Same G G' → NR G' v nd → NdG ns w0 wd nd → nd.depth ≤ j → DrS B st m G' H' → Q v H'
theorem fa_one {T : Type} {R : V → T → Prop} {vs : List V} {a : T} (h : Fa R vs [a]) : ∃ x, vs = [x] ∧ R x a := by
  cases h with
  | cons r h => cases h; exact ⟨_, rfl, r⟩
theorem fa_two {T : Type} {R : V → T → Prop} {vs : List V} {a b : T} (h : Fa R vs [a, b]) : ∃ x y, vs = [x, y] ∧ R x a ∧ R y b := by
  cases h with
  | cons r h => obtain ⟨y, rfl, r2⟩ := fa_one h; exact ⟨_, _, rfl, r, r2⟩
theorem fa_four {T : Type} {R : V → T → Prop} {vs : List V} {a b c d : T} (h : Fa R vs [a, b, c, d]) : ∃ x y z t, vs = [x, y, z, t] ∧ R x a ∧ R y b ∧ R z c ∧ R t d := by
  cases h with
  | cons r h => cases h with
    | cons r2 h => obtain ⟨z, t, rfl, r3, r4⟩ := fa_two h; exact ⟨_, _, _, _, rfl, r, r2, r3, r4⟩
theorem quest_step (E : Ev B) (j k : Nat) (hj : j ≤ 3) (hk : 4 ≤ k) (ih : ∀ i, j = i + 1 → Fn B k "_law_question" (Sp4 (pQuest B i)) []) : Fn B (k + 1) "_law_question" (Sp4 (pQuest B j)) [] := by
  have f1 := law_pull E
  have f2 := law_leaf E
  refine E.fn 88 rfl rfl rfl rfl (N := ["_law_state", "_law_names_here", "_law_window_here", "_law_deep", "_law_way", "_law_word", "_law_k"]) (n := 6) (ps := ["_law_state", "_law_names_here", "_law_window_here", "_law_deep"]) (gs := ["_law_pull", "_law_leaf", "range"]) (by decide +kernel) len4 (by ktf_call "b4") ?_
  intro X vs0 H Q E1 g h
  obtain ⟨_, _, _, _, rfl, st, na, wa, ns, w0, wd, m, G, rfl, rfl, rfl, rfl, A, kk⟩ := h
  show WSs X _ _ [some (.ref st), some (.ref na), some (.ref wa), some (.int j), none, none, none] H
  ktf_call "us"
  refine we_fn (by assumption) f1 (by ktf_call "gm") (by omega) ?_
  ktf_call "us"
  refine ⟨st, 8, m, G, rfl, rfl, by decide, by decide, A.d, fun r H1 hr0 hr D1 => ?_⟩
  have A1 := A.up (Same.refl _) D1
  ktf_call "us"
  refine wss_cons (ws_ifV (decide (j = 0 ∨ r < 4)) (fun H2 => H1 = H2) ?_ ?_ ?_)
  · ktf_call "us"
    refine iteD (fun h => ⟨by simp; left; omega, rfl⟩) (fun h => ?_)
    ktf_call "us"
    refine ⟨?_, rfl⟩
    have : ¬ j = 0 := by omega
    simp [this]
  · rintro _ _ rfl
    obtain ⟨x, y, z, hS⟩ := D1
    ktf_call "us"
    refine we_fn (by assumption) f2 (by ktf_call "gm") (by omega) ?_
    ktf_call "us"
    refine nl_f hS (by show 4 ≤ sizeLine; decide) fun q1 G2 H2 hS2 e2 hq1 => ?_
    obtain ⟨mo, hmo, h1⟩ : ∃ mo : Int, ([.int 8, .int 3, .int 2, .int 2] : List V)[j]? = some (.int mo) ∧ 1 ≤ mo := by
      have : j = 0 ∨ j = 1 ∨ j = 2 ∨ j = 3 := by omega
      rcases this with rfl | rfl | rfl | rfl
      · exact ⟨8, rfl, by decide⟩
      · exact ⟨3, rfl, by decide⟩
      · exact ⟨2, rfl, by decide⟩
      · exact ⟨2, rfl, by decide⟩
    ktf_call "us"
    refine wx_l g (sql (hS2.g _ _ hq1)) (at_nat j rfl hmo) ?_
    ktf_call "us"
    refine ⟨st, na, wa, ns, w0, wd, mo, m, G2, rfl, rfl, rfl, rfl, h1, A1.up e2 (.mk hS2), fun v nd G' H' e3 hv hg hd D3 => ?_⟩
    exact kk v nd G' H' (e2.trans e3) hv hg (by omega) D3
  · rintro hd _ rfl
    have hd := of_decide_eq_false hd
    obtain ⟨i, rfl⟩ : ∃ i, j = i + 1 := ⟨j - 1, by omega⟩
    have f3 := ih i rfl
    obtain ⟨c, rfl⟩ : ∃ c : Nat, r = ((c + 4 : Nat) : Int) := ⟨(r - 4).toNat, by omega⟩
    obtain ⟨w, n, hw, hn, hc⟩ : ∃ (w : Str) (n : Nat), ([.str "plus", .str "minus", .str "less", .str "same"] : List V)[c]? = some (.str w) ∧ ([.int 2, .int 2, .int 4, .int 4] : List V)[c]? = some (.int n) ∧ ((∃ b : Bool, n = 2 ∧ w = if b then Str.ofString "minus" else Str.ofString "plus") ∨ ∃ b : Bool, n = 4 ∧ w = if b then Str.ofString "same" else Str.ofString "less") := by
      have : c = 0 ∨ c = 1 ∨ c = 2 ∨ c = 3 := by omega
      rcases this with rfl | rfl | rfl | rfl
      · exact ⟨_, 2, rfl, rfl, .inl ⟨false, rfl, rfl⟩⟩
      · exact ⟨_, 2, rfl, rfl, .inl ⟨true, rfl, rfl⟩⟩
      · exact ⟨_, 4, rfl, rfl, .inr ⟨false, rfl, rfl⟩⟩
      · exact ⟨_, 4, rfl, rfl, .inr ⟨true, rfl, rfl⟩⟩
    have hn4 : n ≤ 4 := by rcases hc with ⟨_, h, _⟩ | ⟨_, h, _⟩ <;> omega
    obtain ⟨x, y, z, hS⟩ := D1
    ktf_call "us"
    refine nl_f hS (by show 4 ≤ sizeLine; decide) fun q1 G2 H2 hS2 e2 hq1 => ?_
    ktf_call "us"
    refine wx_l g (sql (hS2.g _ _ hq1)) (at_nat c (by omega) hw) ?_
    ktf_call "us"
    refine we_lc g [("_law_k", 6)] [true, true, true, true, false, false, true] [false, false, false, false, false, false, true] ["_law_question"] (by decide +kernel) (by decide) (wi_r1 g (by ktf_call "gm") E.f_range ?_)
    ktf_call "us"
    refine nl_f hS2 (by show 4 ≤ sizeLine; decide) fun q2 G3 H3 hS3 e3 hq2 => ?_
    ktf_call "us"
    refine wx_l g (sql (hS3.g _ _ hq2)) (at_nat c (by omega) hn) ?_
    ktf_call "us"
    refine ⟨by omega, by omega, ?_⟩
    rw [show ((n : Nat) : Int).toNat = n from by omega]
    refine ⟨Nat, Unit, List.range n, fun _ => some (), fun G v _ => ∃ nd, NR G v nd ∧ NdG ns w0 wd nd ∧ nd.depth ≤ i, fun _ m' => ∃ x y z, m' = (st, stO x y z) :: m, _, G3, fun _ _ _ _ e ⟨nd, h1, h2, h3⟩ => ⟨nd, NR.up (B := B) e h1, h2, h3⟩, by simp, Nat.le_trans hn4 (by decide), hS3, ⟨_, _, _, rfl⟩, fun _ _ _ _ _ _ _ _ _ _ => True.intro, ?_, ?_⟩
    · rintro a s D m' G' vs H' v H'' hs e4 ⟨x, y, z, rfl⟩ hS6 ⟨rfl, rfl⟩ Z gZ
      ktf_call "w"
      ktf_call "us"
      refine ⟨rfl, fun Z gZ => ?_⟩
      ktf_call "t"
      refine iteT fun Z gZ => ?_
      ktf_call "us"
      refine we_fn (by assumption) f3 (by ktf_call "gm") (Nat.le_refl _) ?_
      ktf_call "us"
      refine ⟨st, na, wa, ns, w0, wd, (D, .lst vs) :: m, G', rfl, rfl, rfl, by congr 1; omega, A1.up ((e2.trans e3).trans e4) (.mk hS6.swap), fun v nd G7 H7 e7 hv hg hd D7 => ?_⟩
      obtain ⟨x', y', z', hS7⟩ := D7.swap
      exact ⟨(), _, G7, trivial, e7, ⟨x', y', z', rfl⟩, hS7, nd, hv, hg, hd⟩
    · rintro D m' G' vs H6 e4 ⟨x, y, z, rfl⟩ hS6 hF
      obtain ⟨hS7, e5⟩ := hS6.freeze
      generalize hG7 : upd G' D (.lst vs) = G7 at hS7 e5
      have hD : G7 D = some (.lst vs) := by rw [← hG7]; exact upd_same
      ktf_call "us"
      refine nt_f hS7 (by show 2 ≤ sizeLine; decide) fun q G8 H8 hS8 e8 hq => ?_
      have eA := e2.trans (e3.trans (e4.trans (e5.trans e8)))
      rcases hc with ⟨b, rfl, rfl⟩ | ⟨b, rfl, rfl⟩
      · obtain ⟨u1, u2, rfl, ⟨n1, r1, g1, d1⟩, ⟨n2, r2, g2, d2⟩⟩ := fa_two (a := ()) (b := ()) hF
        refine kk _ (.two b n1 n2) G8 H8 eA ⟨q, D, u1, u2, rfl, hq, e8 _ _ hD, NR.up (B := B) (e5.trans e8) r1, NR.up (B := B) (e5.trans e8) r2⟩ ⟨⟨g1.ok, g2.ok⟩, fun n hn => (List.mem_append.mp hn).elim (g1.nm n) (g2.nm n), g1.win, g2.win⟩ ?_ (.mk hS8)
        show max n1.depth n2.depth + 1 ≤ i + 1
        omega
      · obtain ⟨u1, u2, u3, u4, rfl, ⟨n1, r1, g1, d1⟩, ⟨n2, r2, g2, d2⟩, ⟨n3, r3, g3, d3⟩, ⟨n4, r4, g4, d4⟩⟩ := fa_four (a := ()) (b := ()) (c := ()) (d := ()) hF
        refine kk _ (.four b n1 n2 n3 n4) G8 H8 eA ⟨q, D, u1, u2, u3, u4, rfl, hq, e8 _ _ hD, NR.up (B := B) (e5.trans e8) r1, NR.up (B := B) (e5.trans e8) r2, NR.up (B := B) (e5.trans e8) r3, NR.up (B := B) (e5.trans e8) r4⟩ ⟨⟨g1.ok, g2.ok, g3.ok, g4.ok⟩, fun n hn => (List.mem_append.mp hn).elim (g1.nm n) fun h => (List.mem_append.mp h).elim (g2.nm n) fun h => (List.mem_append.mp h).elim (g3.nm n) (g4.nm n), g1.win, g2.win, g3.win, g4.win⟩ ?_ (.mk hS8)
        show max (max n1.depth n2.depth) (max n3.depth n4.depth) + 1 ≤ i + 1
        omega
theorem law_question (E : Ev B) : ∀ j : Nat, j ≤ 3 → Fn B (5 + j) "_law_question" (Sp4 (pQuest B j)) []
  | 0, h => quest_step E 0 4 h (by decide) fun i e => by cases e
  | j + 1, h => quest_step E (j + 1) (5 + j) h (by omega) fun i e => by
    obtain rfl : j = i := by omega
    exact law_question E j (by omega)
end
/-! ### text D20 -/
set_option maxHeartbeats 4000000
section
open PySem PySem.Spec PyProof.Rows L2 TL
variable {B : Bs}
/-! ### the book: reading -/
theorem all_keys (E : Ev B) : Mt B 1 (He.ga B.K "Book") "all_keys" (Sp1 fun a H Q => ∃ p S m G, a = .ref p.b ∧ BkM B p S m G ∧ Hs B m G H ∧ ∀ q H', Hs B ((q, .lst (S.ns.map V.str)) :: m) G H' → Q (.ref q) H') [] := by
  refine (MFn.mt (c := "Book") (ps := ["self"]) ?_ E.c_Book E.m_Book_all_keys)
  refine E.mt 66 rfl rfl rfl rfl (N := ["self"]) (n := 1) (gs := ["list"]) (by decide +kernel) len1 (by ktf_call "b1") ?_
  intro X vs H Q E1 g h
  obtain ⟨_, rfl, p, S, m, G, rfl, A, hS, k⟩ := h
  have c1 := E.c_Book
  have n1 := E.na_Book_names
  have ho := A.ob hS
  have hz : (S.ns.map V.str).length ≤ sizeLine := by rw [List.length_map]; exact Nat.le_trans A.r.sz.1 (by decide)
  show WSs X _ _ [some (.ref p.b)] H
  ktf_call "fs"
  exact wcl_listL g (sql (A.nm hS)) hz (nl_m hS hz k)
theorem now_ (E : Ev B) : Mt B 1 (He.ga B.K "Book") "now" (Sp1 fun a H Q => ∃ p S m G, a = .ref p.b ∧ BkM B p S m G ∧ Hs B m G H ∧ Q (.int S.nd) H) [] := by
  refine (MFn.mt (c := "Book") (ps := ["self"]) ?_ E.c_Book E.m_Book_now)
  refine E.mt 67 rfl rfl rfl rfl (N := ["self"]) (n := 1) (gs := ["len"]) (by decide +kernel) len1 (by ktf_call "b1") ?_
  intro X vs H Q E1 g h
  obtain ⟨_, rfl, p, S, m, G, rfl, A, hS, k⟩ := h
  have c1 := E.c_Book
  have n1 := E.na_Book_deeds
  have ho := A.ob hS
  show WSs X _ _ [some (.ref p.b)] H
  ktf_call "fs"
  refine wcl_lenL g (sql (A.de hS)) ?_
  rw [A.r.dv]
  exact k
def pNeedKey (B : Bs) : V → V → Hp → VK → Prop := fun a b H Q => ∃ p S m G z, a = .ref p.b ∧ b = .str z ∧ z ∈ S.ns ∧ BkM B p S m G ∧ Hs B m G H ∧ Q .non H
theorem need_key (E : Ev B) : Mt B 1 (He.ga B.K "Book") "need_key" (Sp2 (pNeedKey B)) [] := by
  refine (MFn.mt (c := "Book") (ps := ["self", "key"]) ?_ E.c_Book E.m_Book_need_key)
  refine E.mt 68 rfl rfl rfl rfl (N := ["self", "key"]) (n := 2) (gs := ["isinstance", "str", "NoKey"]) (by decide +kernel) len2 (by ktf_call "b2") ?_
  intro X vs H Q E1 g h
  obtain ⟨_, _, rfl, p, S, m, G, z, rfl, rfl, hz, A, hS, k⟩ := h
  have c1 := E.c_Book
  have n1 := E.na_Book_names
  have ho := A.ob hS
  show WSs X _ _ [some (.ref p.b), some (.str z)] H
  ktf_call "i"
  ktf_call "fs"
  refine wc_ni g (.inl (sql (A.nm hS))) rfl (flat_strs _) ?_
  rw [inV_str, decide_eq_true hz]
  ktf_call "us"
  exact k
theorem need_room (E : Ev B) : Mt B 1 (He.ga B.K "Book") "need_room" (Sp1 fun a H Q => ∃ p S m G, a = .ref p.b ∧ S.nd < 60 ∧ BkM B p S m G ∧ Hs B m G H ∧ Q .non H) [] := by
  refine (MFn.mt (c := "Book") (ps := ["self"]) ?_ E.c_Book E.m_Book_need_room)
  refine E.mt 69 rfl rfl rfl rfl (N := ["self"]) (n := 1) (gs := ["len", "MOST_DEEDS", "Full"]) (by decide +kernel) len1 (by ktf_call "b1") ?_
  intro X vs H Q E1 g h
  obtain ⟨_, rfl, p, S, m, G, rfl, hn, A, hS, k⟩ := h
  have c1 := E.c_Book
  have n1 := E.na_Book_deeds
  have ho := A.ob hS
  show WSs X _ _ [some (.ref p.b)] H
  ktf_call "i"
  ktf_call "fs"
  refine wcl_lenL g (sql (A.de hS)) ?_
  rw [A.r.dv]
  ktf_call "us"
  refine iteDF (by omega) ?_
  ktf_call "us"
  exact k
theorem turn_for (E : Ev B) : Mt B 2 (He.ga B.K "Book") "turn_for" (Sp2 fun a b H Q => ∃ p S m G t, a = .ref p.b ∧ b = tV t ∧ turnV S.nd t ≤ S.nd ∧ BkM B p S m G ∧ Hs B m G H ∧ Q (.int (turnV S.nd t : Nat)) H) [] := by
  have f1 := o_is_whole E
  refine (MFn.mt (c := "Book") (ps := ["self", "turn"]) ?_ E.c_Book E.m_Book_turn_for)
  refine E.mt 70 rfl rfl rfl rfl (N := ["self", "turn"]) (n := 2) (gs := ["len", "is_whole", "NoTurn"]) (by decide +kernel) len2 (by ktf_call "b2") ?_
  intro X vs H Q E1 g h
  obtain ⟨_, _, rfl, p, S, m, G, t, rfl, rfl, ht, A, hS, k⟩ := h
  have c1 := E.c_Book
  have n1 := E.na_Book_deeds
  have ho := A.ob hS
  cases t with
  | none =>
    show WSs X _ _ [some (.ref p.b), some .non] H
    ktf_call "i"
    ktf_call "fs"
    refine wcl_lenL g (sql (A.de hS)) ?_
    rw [A.r.dv]
    exact k
  | some i =>
    have ht : i ≤ S.nd := ht
    show WSs X _ _ [some (.ref p.b), some (.int (i : Nat))] H
    ktf_call "i"
    ktf_call "us"
    ktf_call "i"
    ktf_call "fs"
    refine wcl_lenL g (sql (A.de hS)) ?_
    rw [A.r.dv]
    ktf_call "us"
    refine ⟨_, _, _, rfl, rfl, rfl, ?_⟩
    rw [decide_eq_true (by omega)]
    ktf_call "us"
    exact k
def pNeedFind (B : Bs) : V → V → Hp → VK → Prop := fun a b H Q => ∃ p S m G n, a = .ref p.b ∧ b = .int (n : Nat) ∧ n < S.ent.length ∧ BkM B p S m G ∧ Hs B m G H ∧ Q .non H
theorem need_finding (E : Ev B) : Mt B 2 (He.ga B.K "Book") "need_finding" (Sp2 (pNeedFind B)) [] := by
  have f1 := o_is_whole E
  refine (MFn.mt (c := "Book") (ps := ["self", "number"]) ?_ E.c_Book E.m_Book_need_finding)
  refine E.mt 73 rfl rfl rfl rfl (N := ["self", "number"]) (n := 2) (gs := ["is_whole", "len", "NoFinding"]) (by decide +kernel) len2 (by ktf_call "b2") ?_
  intro X vs H Q E1 g h
  obtain ⟨_, _, rfl, p, S, m, G, n, rfl, rfl, hn, A, hS, k⟩ := h
  have c1 := E.c_Book
  have n1 := E.na_Book_entered
  have ho := A.ob hS
  show WSs X _ _ [some (.ref p.b), some (.int (n : Nat))] H
  ktf_call "i"
  ktf_call "fs"
  refine wcl_lenL g (sql (A.en hS)) ?_
  rw [A.r.ev.length]
  ktf_call "us"
  refine ⟨_, _, _, rfl, rfl, rfl, ?_⟩
  rw [decide_eq_true (by omega)]
  ktf_call "us"
  exact k
/-- found: the finding's tuple; its fourth item is the value -/
def pFound (B : Bs) : V → V → Hp → VK → Prop := fun a b H Q => ∃ p S m G n e, a = .ref p.b ∧ b = .int (n : Nat) ∧ S.ent[n]? = some e ∧ BkM B p S m G ∧ Hs B m G H ∧ ∀ t x y z w r G' H', Same G G' → Hs B m G' H' → G' t = some (.tup (x :: y :: z :: .int e.v :: w :: r)) → Q (.ref t) H'
theorem found_ (E : Ev B) : Mt B 3 (He.ga B.K "Book") "found" (Sp2 (pFound B)) [] := by
  refine (MFn.mt (c := "Book") (ps := ["self", "number"]) ?_ E.c_Book E.m_Book_found)
  refine E.mt 75 rfl rfl rfl rfl (N := ["self", "number"]) (n := 2) (gs := []) (by decide +kernel) len2 (by ktf_call "b2") ?_
  intro X vs H Q E1 g h
  obtain ⟨_, _, rfl, p, S, m, G, n, e, rfl, rfl, he, A, hS, k⟩ := h
  have c1 := E.c_Book
  have n1 := E.na_Book_entered
  have n2 := E.na_Book_gone
  have ho := A.ob hS
  have hn := (List.getElem?_eq_some_iff.mp he).1
  obtain ⟨v, hv, t, rfl, ht⟩ := A.r.ev.get he
  show WSs X _ _ [some (.ref p.b), some (.int (n : Nat))] H
  ktf_call "us"
  refine ⟨p.b, _, p.dx, _, rfl, ho, by rfl, 2, _, [], need_finding E, by decide, ?_⟩
  ktf_call "us"
  refine ⟨p, S, m, G, n, rfl, rfl, hn, A, hS, ?_⟩
  ktf_call "fs"
  refine wx_l g (sql (A.en hS)) (at_nat n rfl hv) ?_
  ktf_call "fs"
  refine ⟨.inl ⟨_, .inl (A.go hS)⟩, ?_⟩
  ktf_call "us"
  refine ⟨_, DGet.k (k := .inl (n : Int)) (A.go hS), ?_⟩
  ktf_call "us"
  refine nt_f hS (by show 1 ≤ sizeLine; decide) fun t2 G2 H2 hS2 e2 ht2 => ?_
  refine wb_catT g (sqt (hS2.g _ _ (e2 _ _ ht))) (sqt (hS2.g _ _ ht2)) (by simp) (by simp) (by show 6 ≤ sizeLine; decide) ?_
  exact nt_f hS2 (by show 6 ≤ sizeLine; decide) fun t3 G3 H3 hS3 e3 ht3 => k t3 _ _ _ _ _ G3 H3 (e2.trans e3) hS3 ht3
/-- a key's table at a turn, as it is kept -/
def pStripAt (B : Bs) : V → V → V → Hp → VK → Prop := fun a b c H Q => ∃ p S m G z t, a = .ref p.b ∧ b = .str z ∧ c = .int (t : Nat) ∧ z ∈ S.ns ∧ BkM B p S m G ∧ Hs B m G H ∧
  ∀ s vs G' H', Same G G' → G' s = some (.lst vs) → Fa (RowR G') vs (stripAt (S.hist z) t) → Hs B m G' H' → Q (.ref s) H'
theorem strip_at (E : Ev B) : Mt B 1 (He.ga B.K "Book") "strip_at" (Sp3 (pStripAt B)) [] := by
  refine (MFn.mt (c := "Book") (ps := ["self", "key", "turn"]) ?_ E.c_Book E.m_Book_strip_at)
  refine E.mt 76 rfl rfl rfl rfl (N := ["self", "key", "turn", "found", "since", "strip"]) (n := 6) (gs := []) (by decide +kernel) len3 (by ktf_call "b3") ?_
  intro X vs H Q E1 g h
  obtain ⟨_, _, _, rfl, p, S, m, G, z, t, rfl, rfl, rfl, hz, A, hS, k⟩ := h
  obtain ⟨i, ⟨qa, qv⟩, hi1, hi2, hv⟩ := skv_at A.r.nd A.r.hl hz
  have hF := A.r.hr i z _ hi1 hi2
  have c1 := E.c_Book
  have n1 := E.na_Book_strips
  show WSs X _ _ [some (.ref p.b), some (.str z), some (.int (t : Nat)), none, none, none] H
  ktf_call "us"
  refine nl_f hS (by decide) fun q G1 H1 hS1 e1 hq => ?_
  have A1 := A.up e1 fun _ h => h
  have ho := A1.ob hS1
  ktf_call "us"
  refine wss_cons (ws_forS g (wi_l g ?_))
  ktf_call "fs"
  refine wx_d g (y := .str z) (v := .ref qa) (by rw [← hv]; exact DGet.k (k := .inr z) (A1.sd hS1)) ?_
  refine ⟨qa, qv, rfl, sql (A1.ht hS1 hi2), fun j σ' H' => ∃ o4 o5 s vs', σ' = [some (.ref p.b), some (.str z), some (.int (t : Nat)), some (.ref s), o4, o5] ∧ G1 s = some (.lst vs') ∧ Fa (RowR G1) vs' (stripAt ((S.hist z).take j) t) ∧ Hs B m G1 H', ⟨_, _, q, [], rfl, hq, .nil, hS1⟩, fun j σ' H' _ ⟨_, _, _, _, _, _, _, h⟩ => sql (A1.ht h hi2), ?_, ?_⟩
  · rintro j x σ' H' _ hj ⟨o4, o5, s, vs', rfl, hs, hF', hS'⟩ ⟨rfl, hx⟩
    obtain ⟨hrow, hh, hR⟩ := hF.get' hx
    obtain ⟨u, s2, svs, rfl, hu, hs2, hF2⟩ := hR
    have hu' := hS'.g _ _ (e1 _ _ hu)
    have e4 : stripAt ((S.hist z).take (j + 1)) t = if hrow.1 ≤ t then hrow.2 else stripAt ((S.hist z).take j) t := by
      unfold stripAt
      rw [List.take_add_one, hh, List.foldl_append]
      simp
    ktf_call "us"
    ktf_call "i"
    ktf_call "us"
    refine iteD (fun hle => ?_) (fun hle => ?_)
    · ktf_call "us"
      refine ⟨_, _, s2, svs, rfl, e1 _ _ hs2, ?_, hS'⟩
      rw [e4, if_pos (by omega)]
      exact hF2.mono fun _ _ z => z.up e1
    · ktf_call "us"
      refine ⟨_, _, s, vs', rfl, hs, ?_, hS'⟩
      rw [e4, if_neg (by omega)]
      exact hF'
  · rintro σ' H' ⟨o4, o5, s, vs', rfl, hs, hF', hS'⟩
    rw [hF.length, List.take_length] at hF'
    ktf_call "us"
    exact k s vs' G1 H' e1 hs hF' hS'
theorem stripAt_len {h : List (Nat × List Row)} {t n : Nat} (hh : ∀ q ∈ h, q.2.length ≤ n) : (stripAt h t).length ≤ n := by
  unfold stripAt
  have : ∀ (l : List (Nat × List Row)) (acc : List Row), acc.length ≤ n → (∀ q ∈ l, q.2.length ≤ n) → (l.foldl (fun acc p => if p.1 ≤ t then p.2 else acc) acc).length ≤ n := by
    intro l
    induction l with
    | nil => intro acc h _; exact h
    | cons a l ih =>
      intro acc h1 h2
      rw [List.foldl_cons]
      refine ih _ ?_ fun q hq => h2 q (List.mem_cons_of_mem _ hq)
      split
      · exact h2 a List.mem_cons_self
      · exact h1
  exact this h [] (Nat.zero_le _) hh
/-- who speaks on which days -/
def pTable (B : Bs) : V → V → V → Hp → VK → Prop := fun a b c H Q => ∃ p S m G z t, a = .ref p.b ∧ b = .str z ∧ c = tV t ∧ z ∈ S.ns ∧ turnV S.nd t ≤ S.nd ∧ BkM B p S m G ∧ Hs B m G H ∧
  ∀ q vs G' H', Same G G' → Fa (RowR G') vs (stripAt (S.hist z) (turnV S.nd t)) → Hs B ((q, .lst vs) :: m) G' H' → Q (.ref q) H'
theorem table_ (E : Ev B) : Mt B 3 (He.ga B.K "Book") "table" (Sp3 (pTable B)) [] := by
  refine (MFn.mt (c := "Book") (ps := ["self", "key", "turn"]) ?_ E.c_Book E.m_Book_table)
  refine E.mtD 77 rfl rfl rfl rfl (N := ["self", "key", "turn"]) (n := 3) (gs := ["list"]) (by decide +kernel) len3 (fun _ _ _ _ _ _ _ us its hl hi => match us, its, hl, hi with | [_, _, _], [_], _, _ => ⟨_, rfl, rfl⟩) ?_
  intro X vs H Q E1 g h
  obtain ⟨_, _, _, rfl, p, S, m, G, z, t, rfl, rfl, rfl, hz, ht, A, hS, k⟩ := h
  have ho := A.ob hS
  show WSs X _ _ [some (.ref p.b), some (.str z), some (tV t)] H
  ktf_call "us"
  refine ⟨p.b, _, p.dx, _, rfl, ho, by rfl, 1, _, [], need_key E, by decide, ?_⟩
  ktf_call "us"
  refine ⟨p, S, m, G, z, rfl, rfl, hz, A, hS, ?_⟩
  ktf_call "us"
  refine ⟨p.b, _, p.dx, _, rfl, ho, by rfl, 1, _, [], strip_at E, by decide, ?_⟩
  ktf_call "us"
  refine ⟨p.b, _, p.dx, _, rfl, ho, by rfl, 2, _, [], turn_for E, by decide, ?_⟩
  ktf_call "us"
  refine ⟨p, S, m, G, t, rfl, rfl, ht, A, hS, ?_⟩
  ktf_call "us"
  refine ⟨p, S, m, G, z, _, rfl, rfl, rfl, hz, A, hS, fun s vs G1 H1 e1 hs hF hS1 => ?_⟩
  ktf_call "us"
  have hlen : vs.length ≤ sizeLine := by
    rw [hF.length]
    exact Nat.le_trans (stripAt_len fun q hq => A.r.st z q hq) (by decide)
  exact wcl_listL g (sql (hS1.g _ _ hs)) hlen (nl_m hS1 hlen fun q H2 hS2 => k q vs G1 H2 e1 hF hS2)
end
/-! ### text D21 -/
set_option maxHeartbeats 4000000
section
open PySem PySem.Spec PyProof.Rows L2 TL
variable {B : Bs}
/-! ### the book: made -/
def pNeedKeys (B : Bs) : V → Hp → VK → Prop := fun a H Q => ∃ (r : Addr) (ns : List Str) (m : List (Addr × HO)) (G : Hp), a = .ref r ∧ (1 ≤ ns.length ∧ ns.length ≤ 8 ∧ ns.Nodup ∧ ∀ n ∈ ns, NameOk n) ∧ Hs B ((r, .lst (ns.map V.str)) :: m) G H ∧ ∀ H', Hs B ((r, .lst (ns.map V.str)) :: m) G H' → Q .non H'
theorem need_keys (E : Ev B) : Fn B 2 "need_keys" (Sp1 (pNeedKeys B)) [] := by
  have f1 := o_is_name E
  refine E.fn 64 rfl rfl rfl rfl (N := ["thing", "place", "key"]) (n := 3) (ps := ["thing"]) (gs := ["isinstance", "list", "len", "MOST_KEYS", "NoKeys", "enumerate", "is_name"]) (by decide +kernel) len1 (by ktf_call "b1") ?_
  intro X vs0 H Q E1 g h
  obtain ⟨_, rfl, r, ns, m, G, rfl, ⟨hn1, hn8, hnd, hok⟩, hS, k⟩ := h
  have hr := hS.a0
  show WSs X _ _ [some (.ref r), none, none] H
  refine wss_cons (ws_ifF (fun H1 => H = H1) ?_ ?_)
  · ktf_call "us"
    refine wcl_lenL g (sql hr) ?_
    rw [List.length_map]
    ktf_call "us"
    refine iteDT (by omega) ?_
    ktf_call "us"
    rw [decide_eq_true (by omega)]
    exact ⟨rfl, rfl⟩
  rintro _ rfl
  ktf_call "us"
  refine wss_one (ws_forS g (wi_e g (by ktf_call "gm") E.f_enumerate ?_))
  ktf_call "us"
  refine ⟨r, _, rfl, sql hr, fun i σ' H' => ∃ o1 o2, σ' = [some (.ref r), o1, o2] ∧ Hs B ((r, .lst (ns.map V.str)) :: m) G H', ⟨_, _, rfl, hS⟩, fun i σ' H' _ ⟨_, _, _, h⟩ => sql h.a0, ?_, ?_⟩
  · rintro i x σ' H' _ hi ⟨o1, o2, rfl, hS'⟩ ⟨T, y, rfl, hT, rfl, hy⟩
    rw [List.getElem?_map] at hy
    obtain ⟨n, hni, rfl⟩ := Option.map_eq_some_iff.mp hy
    have hS2 := (hS'.new (u := .tup [.int i, .str n]) hT rfl)
    have hT2 := hS2.a0
    ktf_call "us"
    refine wss_one (ws_ifF (fun H2 => Hs B ((r, .lst (ns.map V.str)) :: m) G H2) ?_ ?_)
    · ktf_call "us"
      refine ⟨_, G, n, rfl, hS2, hok n (List.mem_of_getElem? hni), fun H3 hS3 => ?_⟩
      ktf_call "us"
      refine wsl_l g (sql hS3.a1) ?_
      rw [cut_take, ← List.map_take]
      refine nl_m hS3 (by rw [List.length_map, List.length_take]; exact Nat.le_trans (Nat.min_le_right _ _) (Nat.le_trans hn8 (by decide))) fun t H4 hS4 => ?_
      refine wc_in g (.inl (sql hS4.a0)) rfl (flat_strs _) ?_
      rw [inV_str, decide_eq_false (fun hm => ?_)]
      · ktf_call "us"
        exact ⟨rfl, hS4.drop.drop⟩
      · obtain ⟨j, hj, e⟩ := List.mem_take_iff_getElem.mp hm
        have h1 : ns[j]? = some n := by rw [← e]; exact List.getElem?_eq_getElem _
        have := nd_ix hnd h1 hni
        omega
    · intro H2 hS3
      ktf_call "us"
      exact ⟨_, _, rfl, hS3⟩
  · rintro σ' H' ⟨o1, o2, rfl, hS'⟩
    exact k H' hS'
def bk0 (ns : List Str) : Bk := ⟨ns, [], [], 0, fun _ => [(0, [])]⟩
def spBook (B : Bs) : Sp := fun vs H Q _ => ∃ x dx r m G ns, vs = [.ref x, .ref r] ∧ (1 ≤ ns.length ∧ ns.length ≤ 8 ∧ ns.Nodup ∧ ∀ n ∈ ns, NameOk n) ∧ Hs B ((x, .ins (He.ga B.K "Book") dx []) :: (r, .lst (ns.map V.str)) :: m) G H ∧
  ∀ p G' H', p.b = x → Same G G' → BkR p (bk0 ns) G' → Hs B (p.pts B (bk0 ns) ++ (r, .lst (ns.map V.str)) :: m) G' H' → Q .non H'
theorem putK_skv {ns : List Str} {hs : List (Addr × List V)} {n : Str} {i : Nat} {a : Addr} {l : List V} (hl : hs.length = (ns.take i).length) (hi : ns[i]? = some n) (nd : ns.Nodup) : putK (skv (ns.take i) hs) (.inr n) (.ref a) = skv (ns.take (i + 1)) (hs ++ [(a, l)]) := by
  have hnot : n ∉ ns.take i := fun hm => by
    obtain ⟨j, hj, e⟩ := List.mem_take_iff_getElem.mp hm
    have h1 : ns[j]? = some n := by rw [← e]; exact List.getElem?_eq_getElem _
    have := nd_ix nd h1 hi
    omega
  rw [putK_new]
  · rw [List.take_add_one, hi]
    unfold skv
    rw [List.zip_append (by rw [hl]), List.map_append]; rfl
  · have key : ∀ (as : List Str) (bs : List (Addr × List V)), n ∉ as → valV (skv as bs) (.inr n) = none := by
      intro as
      induction as with
      | nil => intro bs _; rfl
      | cons z zs ih =>
        intro bs h
        cases bs with
        | nil => rfl
        | cons b bs =>
          show valV ((.inr z, .ref b.1) :: skv zs bs) (.inr n) = none
          rw [valV_neg (by intro e; cases e; exact h List.mem_cons_self)]
          exact ih bs fun hm => h (List.mem_cons_of_mem _ hm)
    exact key _ _ hnot
theorem k_Book (E : Ev B) : Mkr B 3 "Book" (He.ga B.K "Book") (spBook B) [] := by
  have f1 := need_keys E
  refine MFn.mk (ps := ["self", "keys"]) ?_ E.mk_Book E.g_Book
  refine E.mt 65 rfl rfl rfl rfl (N := ["self", "keys", "key"]) (n := 3) (gs := ["need_keys", "list"]) (by decide +kernel) (fun vs H Q E h => by obtain ⟨x, dx, r, m, G, ns, rfl, _⟩ := h; rfl) (by ktf_call "b2") ?_
  intro X vs H Q E1 g h
  obtain ⟨x, dx, r, m, G, ns, rfl, hns, hS, k⟩ := h
  obtain ⟨hn1, hn8, hnd, hok⟩ := id hns
  have hz : (ns.map V.str).length ≤ sizeLine := by rw [List.length_map]; exact Nat.le_trans hn8 (by decide)
  show WSs X _ _ [some (.ref x), some (.ref r), none] H
  ktf_call "us"
  refine ⟨r, ns, _, G, rfl, hns, hS.swap, fun H1 hS1 => ?_⟩
  have hS1 := hS1.swap
  ktf_call "us"
  refine wcl_listL g (sql hS1.a1) hz (nl_f hS1 hz fun an G2 H2 hS2 e2 han => ?_)
  refine ⟨x, _, dx, [], _, G2, by ktf_call "sv", hS2, E.c_Book, E.na_Book_names, by simp, fun H3 hS3 => ?_⟩
  ktf_call "us"
  refine nl_m hS3 (by decide) fun ae H4 hS4 => ?_
  refine ⟨x, _, dx, _, _, G2, by ktf_call "sv", hS4.swap, E.c_Book, E.na_Book_entered, by show 1 < 1000; decide, fun H5 hS5 => ?_⟩
  ktf_call "us"
  refine we_dK (nd_m hS5 fun ag H6 hS6 => ?_)
  refine ⟨x, _, dx, _, _, G2, by ktf_call "sv", hS6.swap, E.c_Book, E.na_Book_gone, by show 2 < 1000; decide, fun H7 hS7 => ?_⟩
  ktf_call "us"
  refine nl_m hS7 (by decide) fun ad H8 hS8 => ?_
  refine ⟨x, _, dx, _, _, G2, by ktf_call "sv", hS8.swap, E.c_Book, E.na_Book_deeds, by show 3 < 1000; decide, fun H9 hS9 => ?_⟩
  ktf_call "us"
  refine we_dK (nd_m hS9 fun as_ Ha hSa => ?_)
  refine ⟨x, _, dx, _, _, G2, by ktf_call "sv", hSa.swap, E.c_Book, E.na_Book_strips, by show 4 < 1000; decide, fun Hb hSb => ?_⟩
  ktf_call "us"
  let P : List (Addr × List V) → Bp := fun hs => ⟨x, dx, an, ae, ag, ad, as_, [], [], hs⟩
  have c1 := E.c_Book
  have n1 := E.na_Book_strips
  have hr0 : Hb r = some (.lst (ns.map V.str)) := hSb.at (q := (r, .lst (ns.map V.str))) (by simp)
  refine wss_one (ws_forS g (wi_l g ?_))
  ktf_call "us"
  refine ⟨r, _, rfl, sql hr0, fun i σ' H' => ∃ o2 hs G', σ' = [some (.ref x), some (.ref r), o2] ∧ Same G2 G' ∧ hs.length = (ns.take i).length ∧ (∀ q ∈ hs, Fa (HistR G') q.2 [(0, [])]) ∧
    Hs B ((P hs).pts B ⟨ns.take i, [], [], 0, fun _ => [(0, [])]⟩ ++ (r, .lst (ns.map V.str)) :: m) G' H', ⟨_, [], G2, rfl, Same.refl _, rfl, by simp, hSb⟩, fun i σ' H' _ ⟨_, _, _, _, _, _, _, h⟩ => sql (h.at (q := (r, .lst (ns.map V.str))) (by simp)), ?_, ?_⟩
  · rintro i y σ' H' _ hi ⟨o2, hs, G', rfl, e3, hhl, hhs, hS'⟩ ⟨rfl, hy⟩
    rw [List.getElem?_map] at hy
    obtain ⟨n, hni, rfl⟩ := Option.map_eq_some_iff.mp hy
    ktf_call "us"
    refine nl_f hS' (by decide) fun s0 G4 H4 hS4 e4 hs0 => ?_
    ktf_call "us"
    refine nt_f hS4 (by show 2 ≤ sizeLine; decide) fun t0 G5 H5 hS5 e5 ht0 => ?_
    ktf_call "us"
    refine nl_m hS5 (by show 1 ≤ sizeLine; decide) fun a0 H6 hS6 => ?_
    have hx6 := hS6.a1
    ktf_call "fs"
    refine wst_d g (DPut.k (k := .inr n) hS6.a2 ?_) ?_
    · rw [List.length_map, List.length_zip, List.length_take]
      exact Nat.lt_of_le_of_lt (show _ ≤ 8 by omega) (by decide)
    ktf_call "us"
    refine ⟨_, hs ++ [(a0, [.ref t0])], G5, rfl, e3.trans (e4.trans e5), ?_, ?_, ?_⟩
    · rw [List.length_append, hhl, List.take_add_one, hni]; simp
    · intro q hq
      rcases List.mem_append.mp hq with hq | hq
      · exact (hhs q hq).mono fun _ _ z => z.up (e4.trans e5)
      · rw [List.mem_singleton.mp hq]
        exact .cons ⟨t0, s0, [], rfl, ht0, e5 _ _ hs0, .nil⟩ .nil
    · have h7 := hS6.set2 (u' := .dK (putK (skv (ns.take i) hs) (.inr n) (.ref a0))) rfl
      rw [putK_skv (l := [.ref t0]) hhl hni hnd] at h7 ⊢
      refine h7.perm ?_
      unfold Bp.pts
      rw [List.map_append]
      have : ∀ (b1 b2 b3 b4 b5 z : Addr × HO) (l r : List (Addr × HO)), (z :: b1 :: b2 :: (b3 :: b4 :: b5 :: (l ++ r))).Perm (b1 :: b2 :: b3 :: b4 :: b5 :: (l ++ [z]) ++ r) := by
        intro b1 b2 b3 b4 b5 z l r
        have := List.perm_middle (a := z) (l₁ := b1 :: b2 :: b3 :: b4 :: b5 :: l) (l₂ := r)
        simpa using this.symm
      exact this _ _ _ _ _ _ _ _
  · rintro σ' H' ⟨o2, hs, G', rfl, e3, hhl, hhs, hS'⟩
    rw [List.length_map, List.take_length] at hhl hS'
    refine k (P hs) G' H' rfl (e2.trans e3) ⟨e3 _ _ han, .nil, rfl, hhl, fun i n q _ hq => hhs q (List.mem_of_getElem? hq), hnd, ⟨hn8, by simp [bk0], by simp [bk0], by simp [bk0], fun n => by simp [bk0]⟩, fun n q hq => ?_⟩ hS'
    simp only [bk0, List.mem_singleton] at hq
    rw [hq]; simp
end
/-! ### text D22 -/
set_option maxHeartbeats 4000000
section
open PySem PySem.Spec PyProof.Rows L2 TL
variable {B : Bs}
/-! ### the book: deeds -/
def Bk.noted (S : Bk) (key : Str) (strip : List Row) : Bk := { S with hist := fun n => if n = key then S.hist n ++ [(S.nd, strip)] else S.hist n }
def Bk.deed (S : Bk) : Bk := { S with nd := S.nd + 1 }
def Bk.enter (S : Bk) (e : Ent) : Bk := { S with ent := S.ent ++ [e] }
def Bk.drop (S : Bk) (n t : Nat) : Bk := { S with gone := S.gone ++ [(n, t)] }
theorem BkM.of {p : Bp} {S : Bk} {m : List (Addr × HO)} {G : Hp} (R : BkR p S G) : BkM B p S (p.pts B S ++ m) G := ⟨R, fun q hq => List.mem_append_left _ hq⟩
def pNote (B : Bs) : V → V → V → Hp → VK → Prop := fun a b c H Q => ∃ p S m G key s svs strip, a = .ref p.b ∧ b = .str key ∧ c = .ref s ∧ key ∈ S.ns ∧ G s = some (.lst svs) ∧ Fa (RowR G) svs strip ∧ strip.length ≤ 400 ∧ (S.hist key).length ≤ 60 ∧ BkR p S G ∧ Hs B (p.pts B S ++ m) G H ∧
  ∀ p' G' H', p'.b = p.b → Same G G' → BkR p' (S.noted key strip) G' → Hs B (p'.pts B (S.noted key strip) ++ m) G' H' → Q .non H'
theorem skv_set : ∀ {ns : List Str} {hs : List (Addr × List V)} {i : Nat} {a : Addr} {l l' : List V}, hs[i]? = some (a, l) → skv ns (hs.set i (a, l')) = skv ns hs
  | [], _, _, _, _, _, _ => by simp [skv]
  | _ :: _, [], _, _, _, _, h => by simp at h
  | n :: ns, q :: hs, 0, a, l, l', h => by
    simp at h
    subst h
    rfl
  | n :: ns, q :: hs, i + 1, a, l, l', h => by
    show (.inr n, .ref q.1) :: skv ns (hs.set i (a, l')) = (.inr n, .ref q.1) :: skv ns hs
    rw [skv_set (by simpa using h)]
theorem note_ (E : Ev B) : Mt B 1 (He.ga B.K "Book") "note" (Sp3 (pNote B)) [] := by
  refine (MFn.mt (c := "Book") (ps := ["self", "key", "strip"]) ?_ E.c_Book E.m_Book_note)
  refine E.mt 71 rfl rfl rfl rfl (N := ["self", "key", "strip"]) (n := 3) (gs := ["len"]) (by decide +kernel) len3 (by ktf_call "b3") ?_
  intro X vs H Q E1 g h
  obtain ⟨_, _, _, rfl, p, S, m, G, key, s, svs, strip, rfl, rfl, rfl, hz, hs, hF, hlen, hhl, R, hS, k⟩ := h
  have A := BkM.of (B := B) (m := m) R
  obtain ⟨i, ⟨qa, qv⟩, hi1, hi2, hv⟩ := skv_at R.nd R.hl hz
  have hHF := R.hr i key _ hi1 hi2
  have c1 := E.c_Book
  have n1 := E.na_Book_strips
  have n2 := E.na_Book_deeds
  have ho := A.ob hS
  have hq := A.ht hS hi2
  show WSs X _ _ [some (.ref p.b), some (.str key), some (.ref s)] H
  ktf_call "fs"
  refine wx_d g (y := .str key) (v := .ref qa) (by rw [← hv]; exact DGet.k (k := .inr key) (A.sd hS)) ?_
  refine ⟨tyl hq, ?_⟩
  ktf_call "fs"
  refine wcl_lenL g (sql (A.de hS)) ?_
  rw [R.dv]
  ktf_call "us"
  refine nt_f hS (by show 2 ≤ sizeLine; decide) fun t G1 H1 hS1 e1 ht => ?_
  have A1 := A.up e1 fun _ h => h
  ktf_call "us"
  refine wm_append (A1.ht hS1 hi2) (by rw [hHF.length]; exact Nat.lt_of_le_of_lt hhl (by decide)) ?_
  ktf_call "us"
  let p' : Bp := { p with hs := p.hs.set i (qa, qv ++ [.ref t]) }
  have hpi : (p.pts B S ++ m)[5 + i]? = some (qa, .lst qv) := by
    unfold Bp.pts
    rw [Nat.add_comm]
    show (((p.hs.map fun q => (q.1, HO.lst q.2)) ++ m))[i]? = _
    rw [List.getElem?_append_left (by rw [List.length_map]; exact (List.getElem?_eq_some_iff.mp hi2).1), List.getElem?_map, hi2]; rfl
  have h2 := hS1.setI hpi (u' := .lst (qv ++ [.ref t])) rfl
  have ep : (p.pts B S ++ m).set (5 + i) (qa, .lst (qv ++ [.ref t])) = p'.pts B (S.noted key strip) ++ m := by
    have hl : i < (p.hs.map fun q => (q.1, HO.lst q.2)).length := by rw [List.length_map]; exact (List.getElem?_eq_some_iff.mp hi2).1
    unfold Bp.pts
    rw [Nat.add_comm]
    show _ :: _ :: _ :: _ :: _ :: (((p.hs.map fun q => (q.1, HO.lst q.2)) ++ m).set i (qa, .lst (qv ++ [.ref t]))) = _
    rw [List.set_append_left _ _ hl]
    have e1 : (p.hs.map fun q => (q.1, HO.lst q.2)).set i (qa, .lst (qv ++ [.ref t])) = p'.hs.map fun q => (q.1, HO.lst q.2) := by
      show _ = (p.hs.set i (qa, qv ++ [.ref t])).map _
      rw [List.map_set]
    rw [e1]
    have e2 : skv S.ns p'.hs = skv S.ns p.hs := skv_set hi2
    show _ = (p.b, bkO B p) :: (p.as_, .dK (skv S.ns p'.hs)) :: _
    rw [e2]; rfl
  rw [ep] at h2
  refine k p' G1 _ rfl e1 ?_ h2
  have R1 := R.up e1
  refine ⟨R1.an, R1.ev, R1.dv, by show (p.hs.set i _).length = _; rw [List.length_set]; exact R1.hl, fun j n q hj hq => ?_, R1.nd, ⟨R1.sz.1, R1.sz.2.1, R1.sz.2.2.1, R1.sz.2.2.2.1, fun n => ?_⟩, fun n q hq => ?_⟩
  · have hq : (p.hs.set i (qa, qv ++ [.ref t]))[j]? = some q := hq
    by_cases hij : i = j
    · subst hij
      have hj : S.ns[i]? = some n := hj
      rw [hi1] at hj
      obtain rfl := Option.some.inj hj
      rw [List.getElem?_set_self (List.getElem?_eq_some_iff.mp hi2).1] at hq
      obtain rfl := Option.some.inj hq
      show Fa (HistR G1) (qv ++ [.ref t]) (if key = key then S.hist key ++ [(S.nd, strip)] else S.hist key)
      rw [if_pos rfl]
      exact (hHF.mono fun _ _ z => z.up e1).append (.cons ⟨t, s, svs, rfl, ht, e1 _ _ hs, hF.mono fun _ _ z => z.up e1⟩ .nil)
    · rw [List.getElem?_set_ne hij] at hq
      have hne : n ≠ key := fun e => hij (nd_ix R.nd hi1 (e ▸ hj))
      show Fa (HistR G1) q.2 (if n = key then S.hist n ++ [(S.nd, strip)] else S.hist n)
      rw [if_neg hne]
      exact R1.hr j n q hj hq
  · show (if n = key then S.hist n ++ [(S.nd, strip)] else S.hist n).length ≤ 61
    split
    · rename_i e; rw [e, List.length_append]; simp; omega
    · exact R1.sz.2.2.2.2 n
  · have hq : q ∈ (if n = key then S.hist n ++ [(S.nd, strip)] else S.hist n) := hq
    split at hq
    · rcases List.mem_append.mp hq with hq | hq
      · exact R1.st n q hq
      · rw [List.mem_singleton.mp hq]; exact hlen
    · exact R1.st n q hq
end
/-! ### text D23 -/
set_option maxHeartbeats 4000000
section
open PySem PySem.Spec PyProof.Rows L2 TL
variable {B : Bs}
theorem BkR.deed {p : Bp} {S : Bk} {G : Hp} (R : BkR p S G) (h : S.nd < 60) (v : V) : BkR { p with dvs := p.dvs ++ [v] } S.deed G :=
  ⟨R.an, R.ev, by show (p.dvs ++ [v]).length = S.nd + 1; rw [List.length_append, R.dv]; rfl, R.hl, R.hr, R.nd, ⟨R.sz.1, R.sz.2.1, R.sz.2.2.1, h, R.sz.2.2.2.2⟩, R.st⟩
theorem BkR.enter {p : Bp} {S : Bk} {G : Hp} (R : BkR p S G) (h : S.ent.length < 60) {v : V} {e : Ent} (hv : EntR G v e) : BkR { p with evs := p.evs ++ [v] } (S.enter e) G :=
  ⟨R.an, R.ev.append (.cons hv .nil), R.dv, R.hl, R.hr, R.nd, ⟨R.sz.1, by show (S.ent ++ [e]).length ≤ 60; rw [List.length_append]; exact h, R.sz.2.2.1, R.sz.2.2.2.1, R.sz.2.2.2.2⟩, R.st⟩
def findS (S : Bk) (key : Str) (f l v : Int) (strip : List Row) : Bk := ((S.deed).enter ⟨key, f, l, v, S.nd + 1⟩).noted key (laidR strip f l S.ent.length)
def pFind (B : Bs) : V → V → V → V → V → Hp → VK → Prop := fun a b c d e H Q => ∃ p S m G key, ∃ f l v : Int, ∃ h0 t0 strip, a = .ref p.b ∧ b = .str key ∧ c = .int f ∧ d = .int l ∧ e = .int v ∧ key ∈ S.ns ∧ (0 ≤ f ∧ f ≤ l ∧ l ≤ 399) ∧ (-(10 ^ 9) ≤ v ∧ v ≤ 10 ^ 9) ∧ S.nd < 60 ∧ S.ent.length < 60 ∧
  S.hist key = h0 ++ [(t0, strip)] ∧ h0.length < 60 ∧ (laidR strip f l S.ent.length).length ≤ 400 ∧ BkR p S G ∧ Hs B (p.pts B S ++ m) G H ∧
  ∀ p' G' H', p'.b = p.b → Same G G' → BkR p' (findS S key f l v strip) G' → Hs B (p'.pts B (findS S key f l v strip) ++ m) G' H' → Q (.int S.ent.length) H'
theorem find_ (E : Ev B) : Mt B 4 (He.ga B.K "Book") "find" (Sp5 (pFind B)) [] := by
  have f1 := o_is_whole E
  have f2 := laid E
  refine (MFn.mt (c := "Book") (ps := ["self", "key", "first", "last", "value"]) ?_ E.c_Book E.m_Book_find)
  refine E.mt 72 rfl rfl rfl rfl (N := ["self", "key", "first", "last", "value", "number"]) (n := 6) (gs := ["is_whole", "LAST_DAY_findings", "NoDay", "MOST_VALUE", "NoValue", "len", "laid"]) (by decide +kernel) len5 (by ktf_call "b5") ?_
  intro X vs0 H Q E1 g h
  obtain ⟨_, _, _, _, _, rfl, p, S, m, G, key, f, l, v, h0, t0, strip, rfl, rfl, rfl, rfl, rfl, hz, hb, hv9, hnd, hen, hh, hh0, hlr, R, hS, k⟩ := h
  have A := BkM.of (B := B) (m := m) R
  have c1 := E.c_Book
  have n1 := E.na_Book_strips
  have n2 := E.na_Book_deeds
  have n3 := E.na_Book_entered
  have ho := A.ob hS
  show WSs X _ _ [some (.ref p.b), some (.str key), some (.int f), some (.int l), some (.int v), none] H
  ktf_call "us"
  refine ⟨p.b, _, p.dx, _, rfl, ho, by rfl, 1, _, [], need_key E, by decide, ?_⟩
  ktf_call "us"
  refine ⟨p, S, _, G, key, rfl, rfl, hz, A, hS, ?_⟩
  ktf_call "us"
  ktf_call "i"
  ktf_call "us"
  refine ⟨_, _, _, rfl, rfl, rfl, ?_⟩
  rw [decide_eq_true (by omega)]
  ktf_call "us"
  ktf_call "i"
  ktf_call "us"
  refine ⟨_, _, _, rfl, rfl, rfl, ?_⟩
  rw [decide_eq_true (by omega)]
  ktf_call "us"
  ktf_call "i"
  ktf_call "us"
  refine ⟨_, _, _, rfl, rfl, rfl, ?_⟩
  rw [decide_eq_true (by omega)]
  ktf_call "us"
  refine ⟨p.b, _, p.dx, _, rfl, ho, by rfl, 1, _, [], need_room E, by decide, ?_⟩
  ktf_call "us"
  refine ⟨p, S, _, G, rfl, hnd, A, hS, ?_⟩
  ktf_call "fs"
  refine wcl_lenL g (sql (A.en hS)) ?_
  rw [R.ev.length]
  ktf_call "fs"
  refine ⟨tyl (A.de hS), ?_⟩
  ktf_call "us"
  refine nt_f hS (by show 2 ≤ sizeLine; decide) fun t1 G1 H1 hS1 e1 ht1 => ?_
  have R1 := R.up e1
  have A1 := BkM.of (B := B) (m := m) R1
  ktf_call "us"
  refine wm_append (A1.de hS1) (by rw [R.dv]; exact Nat.lt_trans hnd (by decide)) ?_
  have hS2 : Hs B (({ p with dvs := p.dvs ++ [V.ref t1] } : Bp).pts B S.deed ++ m) G1 (upd H1 p.ad (.lst (p.dvs ++ [V.ref t1]))) := hS1.setI (i := 2) (a := p.ad) (u := .lst p.dvs) (u' := .lst (p.dvs ++ [V.ref t1])) rfl rfl
  have R2 := R1.deed hnd (V.ref t1)
  generalize upd H1 p.ad (.lst (p.dvs ++ [V.ref t1])) = H2 at hS2 ⊢
  generalize hp1 : ({ p with dvs := p.dvs ++ [V.ref t1] } : Bp) = p1 at hS2 R2
  have eb1 : p1.b = p.b := by rw [← hp1]
  have A2 := BkM.of (B := B) (m := m) R2
  have ho2 : H2 p.b = some (bkO B p1) := by rw [← eb1]; exact A2.ob hS2
  ktf_call "fs"
  refine ⟨tyl (A2.en hS2), ?_⟩
  ktf_call "fs"
  refine wcl_lenL g (sql (A2.de hS2)) ?_
  rw [R2.dv]
  ktf_call "us"
  refine nt_f hS2 (by show 5 ≤ sizeLine; decide) fun t2 G3 H3 hS3 e3 ht2 => ?_
  have R3 := R2.up e3
  have A3 := BkM.of (B := B) (m := m) R3
  ktf_call "us"
  refine wm_append (A3.en hS3) (by rw [R3.ev.length]; exact Nat.lt_trans hen (by decide)) ?_
  have hS4 : Hs B (({ p1 with evs := p1.evs ++ [V.ref t2] } : Bp).pts B (S.deed.enter ⟨key, f, l, v, S.nd + 1⟩) ++ m) G3 (upd H3 p1.ae (.lst (p1.evs ++ [V.ref t2]))) := hS3.setI (i := 4) (a := p1.ae) (u := .lst p1.evs) (u' := .lst (p1.evs ++ [V.ref t2])) rfl rfl
  have R4 : BkR ({ p1 with evs := p1.evs ++ [V.ref t2] } : Bp) (S.deed.enter ⟨key, f, l, v, S.nd + 1⟩) G3 := R3.enter hen ⟨t2, rfl, ht2⟩
  generalize upd H3 p1.ae (.lst (p1.evs ++ [V.ref t2])) = H4 at hS4 ⊢
  generalize hp2 : ({ p1 with evs := p1.evs ++ [V.ref t2] } : Bp) = p2 at hS4 R4
  have eb2 : p2.b = p.b := by rw [← hp2, ← eb1]
  have A4 := BkM.of (B := B) (m := m) R4
  have ho4 : H4 p.b = some (bkO B p2) := by rw [← eb2]; exact A4.ob hS4
  obtain ⟨i, ⟨qa, qv⟩, hi1, hi2, hv⟩ := skv_at (n := key) R4.nd R4.hl hz
  have hHF := R4.hr i key _ hi1 hi2
  have hh' : (S.deed.enter ⟨key, f, l, v, S.nd + 1⟩).hist key = h0 ++ [(t0, strip)] := hh
  rw [hh'] at hHF
  obtain ⟨us, uv, hqe, hF0, ⟨tt0, s0, svs, rfl, htt, hs0, hFs⟩⟩ := hHF.snoc
  have hqe : qv = us ++ [V.ref tt0] := hqe
  subst hqe
  have hst : strip.length ≤ 400 := R4.st key (t0, strip) (by rw [hh']; simp)
  ktf_call "us"
  refine ⟨p.b, _, p2.dx, _, rfl, ho4, by rfl, 1, _, [], note_ E, by decide, ?_⟩
  ktf_call "fs"
  refine wx_d g (y := .str key) (v := .ref qa) (by rw [← hv]; exact DGet.k (k := .inr key) (A4.sd hS4)) ?_
  ktf_call "us"
  refine wx_l g (sql (A4.ht hS4 hi2)) (at_end us.length (by simp only [List.length_append, List.length_cons, List.length_nil]; omega) (by decide) (List.getElem?_concat_length ..)) ?_
  ktf_call "us"
  refine wx_t g (sqt (hS4.g _ _ htt)) (at_nat 1 rfl rfl) ?_
  ktf_call "us"
  refine ⟨s0, f, l, S.ent.length, svs, strip, _, G3, rfl, rfl, rfl, rfl, hs0, hFs, hst, hS4, fun q vs' G5 H5 e5 hq hF5 hS5 => ?_⟩
  ktf_call "us"
  refine ⟨p2, S.deed.enter ⟨key, f, l, v, S.nd + 1⟩, m, G5, key, q, vs', _, by rw [eb2], rfl, rfl, hz, hq, hF5, hlr, ?_, R4.up e5, hS5, fun p' G6 H6 eb6 e6 R6 hS6 => ?_⟩
  · rw [hh', List.length_append]; simp; omega
  ktf_call "us"
  exact k p' G6 H6 (by rw [eb6, eb2]) (e1.trans (e3.trans (e5.trans e6))) R6 hS6
/-! ### withdrawn -/
/-- the findings of a key that are not withdrawn, laid one over another -/
def relay (ents : List Ent) (gone : List Nat) (key : Str) : List Row := ents.zipIdx.foldl (fun acc q => if q.1.key = key ∧ q.2 ∉ gone then laidR acc q.1.f q.1.l q.2 else acc) []
def relayN (ents : List Ent) (gone : List Nat) (key : Str) (i : Nat) : List Row := (ents.zipIdx.take i).foldl (fun acc q => if q.1.key = key ∧ q.2 ∉ gone then laidR acc q.1.f q.1.l q.2 else acc) []
theorem relayN_succ {ents : List Ent} {gone : List Nat} {key : Str} {i : Nat} {e : Ent} (h : ents[i]? = some e) : relayN ents gone key (i + 1) = if e.key = key ∧ i ∉ gone then laidR (relayN ents gone key i) e.f e.l i else relayN ents gone key i := by
  unfold relayN
  have : ents.zipIdx[i]? = some (e, i) := by rw [List.getElem?_zipIdx, h]; simp
  rw [List.take_add_one, this, List.foldl_append]
  rfl
theorem relayN_all {ents : List Ent} {gone : List Nat} {key : Str} : relayN ents gone key ents.length = relay ents gone key := by
  unfold relayN relay
  rw [List.take_of_length_le (by simp)]
theorem BkR.drop {p : Bp} {S : Bk} {G : Hp} (R : BkR p S G) (h : S.gone.length < 60) (n t : Nat) : BkR p (S.drop n t) G :=
  ⟨R.an, R.ev, R.dv, R.hl, R.hr, R.nd, ⟨R.sz.1, R.sz.2.1, by show (S.gone ++ [(n, t)]).length ≤ 60; rw [List.length_append]; exact h, R.sz.2.2.2.1, R.sz.2.2.2.2⟩, R.st⟩
theorem gkv_get (gone : List (Nat × Nat)) (n : Nat) : (valV (gkv gone) (.inl (n : Int))).isSome = decide (n ∈ gone.map (·.1)) := by
  rw [← valV_any]
  unfold gkv
  rw [List.any_map, Bool.eq_iff_iff, List.any_eq_true, decide_eq_true_eq, List.mem_map]
  constructor
  · rintro ⟨q, hq, e⟩
    have : ((Sum.inl (q.1 : Int) : Key) = .inl (n : Int)) := by simpa using e
    injection this with h
    exact ⟨q, hq, by omega⟩
  · rintro ⟨q, hq, e⟩
    exact ⟨q, hq, by simp [e]⟩
theorem gkv_put {gone : List (Nat × Nat)} {n : Nat} (h : n ∉ gone.map (·.1)) (t : Nat) : putK (gkv gone) (.inl (n : Int)) (.int t) = gkv (gone ++ [(n, t)]) := by
  rw [putK_new]
  · unfold gkv; rw [List.map_append]; rfl
  · have := gkv_get gone n
    rw [decide_eq_false h] at this
    exact Option.isSome_eq_false_iff.mp this |> Option.isNone_iff_eq_none.mp
def dropS (S : Bk) (n : Nat) (e : Ent) : Bk := ((S.deed).drop n (S.nd + 1)).noted e.key (relay S.ent (S.gone.map (·.1) ++ [n]) e.key)
def pWith (B : Bs) : V → V → Hp → VK → Prop := fun a b H Q => ∃ p S m G, ∃ n : Nat, ∃ e, a = .ref p.b ∧ b = .int n ∧ S.ent[n]? = some e ∧ e.key ∈ S.ns ∧ n ∉ S.gone.map (·.1) ∧ S.nd < 60 ∧ S.gone.length < 60 ∧ (S.hist e.key).length ≤ 60 ∧
  (∀ i, (relayN S.ent (S.gone.map (·.1) ++ [n]) e.key i).length ≤ 400) ∧ BkR p S G ∧ Hs B (p.pts B S ++ m) G H ∧
  ∀ p' G' H', p'.b = p.b → Same G G' → BkR p' (dropS S n e) G' → Hs B (p'.pts B (dropS S n e) ++ m) G' H' → Q .non H'
theorem withdraw_ (E : Ev B) : Mt B 4 (He.ga B.K "Book") "withdraw" (Sp2 (pWith B)) [] := by
  have f2 := laid E
  refine (MFn.mt (c := "Book") (ps := ["self", "number"]) ?_ E.c_Book E.m_Book_withdraw)
  refine E.mt 74 rfl rfl rfl rfl (N := ["self", "number", "key", "strip", "other", "entry"]) (n := 6) (gs := ["Gone", "len", "enumerate", "laid"]) (by decide +kernel) len2 (by ktf_call "b2") ?_
  intro X vs0 H Q E1 g h
  obtain ⟨_, _, rfl, p, S, m, G, n, e, rfl, rfl, he, hek, hng, hnd, hgl, hhl, hrl, R, hS, k⟩ := h
  have A := BkM.of (B := B) (m := m) R
  have c1 := E.c_Book
  have n2 := E.na_Book_deeds
  have n3 := E.na_Book_entered
  have n4 := E.na_Book_gone
  have ho := A.ob hS
  have hnl := (List.getElem?_eq_some_iff.mp he).1
  show WSs X _ _ [some (.ref p.b), some (.int (n : Nat)), none, none, none, none] H
  ktf_call "us"
  refine ⟨p.b, _, p.dx, _, rfl, ho, by rfl, 2, _, [], need_finding E, by decide, ?_⟩
  ktf_call "us"
  refine ⟨p, S, _, G, n, rfl, rfl, hnl, A, hS, ?_⟩
  ktf_call "us"
  ktf_call "i"
  ktf_call "fs"
  refine wc_din g (DGet.k (k := .inl (n : Int)) (A.go hS)) ?_
  rw [gkv_get, decide_eq_false hng]
  ktf_call "us"
  refine ⟨p.b, _, p.dx, _, rfl, ho, by rfl, 1, _, [], need_room E, by decide, ?_⟩
  ktf_call "us"
  refine ⟨p, S, _, G, rfl, hnd, A, hS, ?_⟩
  ktf_call "fs"
  refine ⟨tyl (A.de hS), ?_⟩
  ktf_call "us"
  refine nt_f hS (by show 2 ≤ sizeLine; decide) fun t1 G1 H1 hS1 e1 ht1 => ?_
  have R1 := R.up e1
  have A1 := BkM.of (B := B) (m := m) R1
  ktf_call "us"
  refine wm_append (A1.de hS1) (by rw [R.dv]; exact Nat.lt_trans hnd (by decide)) ?_
  have hS2 : Hs B (({ p with dvs := p.dvs ++ [V.ref t1] } : Bp).pts B S.deed ++ m) G1 (upd H1 p.ad (.lst (p.dvs ++ [V.ref t1]))) := hS1.setI (i := 2) (a := p.ad) (u := .lst p.dvs) (u' := .lst (p.dvs ++ [V.ref t1])) rfl rfl
  have R2 := R1.deed hnd (V.ref t1)
  generalize upd H1 p.ad (.lst (p.dvs ++ [V.ref t1])) = H2 at hS2 ⊢
  generalize hp1 : ({ p with dvs := p.dvs ++ [V.ref t1] } : Bp) = p1 at hS2 R2
  have eb1 : p1.b = p.b := by rw [← hp1]
  have A2 := BkM.of (B := B) (m := m) R2
  have ho2 : H2 p.b = some (bkO B p1) := by rw [← eb1]; exact A2.ob hS2
  ktf_call "fs"
  refine wcl_lenL g (sql (A2.de hS2)) ?_
  rw [R2.dv]
  ktf_call "fs"
  refine wst_d g (H' := upd H2 p1.ag (.dK (putK (gkv S.gone) (.inl (n : Int)) (.int ((S.nd + 1 : Nat) : Int))))) (DPut.k (k := .inl (n : Int)) (A2.go hS2) (by rw [List.length_map]; exact Nat.lt_trans hgl (by decide))) ?_
  have hput : putK (gkv S.gone) (.inl (n : Int)) (.int ((S.nd + 1 : Nat) : Int)) = gkv (S.gone ++ [(n, S.nd + 1)]) := gkv_put hng (S.nd + 1)
  have hS4 : Hs B (p1.pts B (S.deed.drop n (S.nd + 1)) ++ m) G1 (upd H2 p1.ag (.dK (putK (gkv S.gone) (.inl (n : Int)) (.int ((S.nd + 1 : Nat) : Int))))) := by
    have := hS2.setI (i := 3) (a := p1.ag) (u := .dK (gkv S.gone)) (u' := .dK (putK (gkv S.gone) (.inl (n : Int)) (.int ((S.nd + 1 : Nat) : Int)))) rfl rfl
    rw [hput] at this ⊢
    exact this
  have R4 := R2.drop (show S.deed.gone.length < 60 from hgl) n (S.nd + 1)
  have A4 := BkM.of (B := B) (m := m) R4
  generalize upd H2 p1.ag (.dK (putK (gkv S.gone) (.inl (n : Int)) (.int ((S.nd + 1 : Nat) : Int)))) = H4 at hS4 ⊢
  have ho4 : H4 p.b = some (bkO B p1) := by rw [← eb1]; exact A4.ob hS4
  obtain ⟨ve, hve, t, rfl, ht⟩ := R4.ev.get (show (S.deed.drop n (S.nd + 1)).ent[n]? = some e from he)
  ktf_call "fs"
  refine wx_l g (sql (A4.en hS4)) (at_nat n rfl hve) ?_
  ktf_call "us"
  refine wx_t g (sqt (hS4.g _ _ ht)) (at_nat 0 rfl rfl) ?_
  ktf_call "us"
  refine nl_f hS4 (by decide) fun q0 G5 H5 hS5 e5 hq0 => ?_
  have R5 := R4.up e5
  have A5 := BkM.of (B := B) (m := m) R5
  have ho5 : H5 p.b = some (bkO B p1) := by rw [← eb1]; exact A5.ob hS5
  ktf_call "us"
  refine wss_cons (ws_forS g (wi_e g (by ktf_call "gm") E.f_enumerate ?_))
  ktf_call "fs"
  refine ⟨p1.ae, p1.evs, rfl, sql (A5.en hS5), fun i σ' H' => ∃ o4 o5 s svs G', σ' = [some (.ref p.b), some (.int (n : Nat)), some (.str e.key), some (.ref s), o4, o5] ∧ Same G5 G' ∧ G' s = some (.lst svs) ∧ Fa (RowR G') svs (relayN S.ent (S.gone.map (·.1) ++ [n]) e.key i) ∧ Hs B (p1.pts B (S.deed.drop n (S.nd + 1)) ++ m) G' H', ⟨_, _, q0, [], G5, rfl, Same.refl _, hq0, .nil, hS5⟩, fun i σ' H' _ ⟨_, _, _, _, G', _, e6, _, _, h⟩ => sql ((BkM.of (B := B) (m := m) (R5.up e6)).en h), ?_, ?_⟩
  · rintro i x σ' H' _ hi ⟨o4, o5, s, svs, G', rfl, e6, hs, hF, hS'⟩ ⟨T, y, rfl, hT, rfl, hy⟩
    have R6 := R5.up e6
    obtain ⟨ei, hei, tu, rfl, htu⟩ := R6.ev.get' hy
    have hei : S.ent[i]? = some ei := hei
    have hf := (hS'.new (u := .tup [.int i, .ref tu]) hT rfl).freeze
    obtain ⟨hS6, e7⟩ := hf
    have hT6 := hS6.g T _ upd_same
    have R7 := R6.up e7
    have A7 := BkM.of (B := B) (m := m) R7
    have ho7 := A7.ob hS6
    rw [eb1] at ho7
    have htu6 := hS6.g _ _ (e7 _ _ htu)
    have eg : ∀ z : Nat, (valV (gkv (S.gone ++ [(n, S.nd + 1)])) (.inl (z : Int))).isSome = decide (z ∈ S.gone.map (·.1) ++ [n]) := fun z => by
      rw [gkv_get, List.map_append]; rfl
    ktf_call "us"
    refine wss_one (ws_ifV (decide (ei.key = e.key ∧ i ∉ S.gone.map (·.1) ++ [n])) (fun H7 => upd H' T (.tup [.int i, .ref tu]) = H7) ?_ ?_ ?_)
    · ktf_call "us"
      refine wx_t g (sqt htu6) (at_nat 0 rfl rfl) ?_
      ktf_call "us"
      refine iteD (fun e1 => ?_) (fun e1 => ⟨by simp [e1], rfl⟩)
      ktf_call "fs"
      refine wc_dni g (DGet.k (k := .inl (i : Int)) (A7.go hS6)) ?_
      rw [show (S.deed.drop n (S.nd + 1)).gone = S.gone ++ [(n, S.nd + 1)] from rfl, eg]
      ktf_call "us"
      exact ⟨by simp [e1], rfl⟩
    · rintro hd _ rfl
      have hd := of_decide_eq_true hd
      ktf_call "us"
      refine wx_t g (sqt htu6) (at_nat 1 rfl rfl) ?_
      ktf_call "us"
      refine wx_t g (sqt htu6) (at_nat 2 rfl rfl) ?_
      ktf_call "us"
      refine ⟨s, ei.f, ei.l, i, svs, _, _, _, rfl, rfl, rfl, rfl, e7 _ _ hs, hF.mono fun _ _ z => z.up e7, hrl i, hS6, fun q vs' G8 H8 e8 hq hF8 hS8 => ?_⟩
      ktf_call "us"
      refine ⟨_, _, q, vs', G8, rfl, e6.trans (e7.trans e8), hq, ?_, hS8⟩
      rw [relayN_succ hei, if_pos hd]
      exact hF8
    · rintro hd _ rfl
      have hd := of_decide_eq_false hd
      ktf_call "us"
      refine ⟨_, _, s, svs, _, rfl, e6.trans e7, e7 _ _ hs, ?_, hS6⟩
      rw [relayN_succ hei, if_neg hd]
      exact hF.mono fun _ _ z => z.up e7
  · rintro σ' H' ⟨o4, o5, s, svs, G', rfl, e6, hs, hF, hS'⟩
    have R6 := R5.up e6
    have A6 := BkM.of (B := B) (m := m) R6
    have ho6 : H' p.b = some (bkO B p1) := by rw [← eb1]; exact A6.ob hS'
    rw [R5.ev.length, show (S.deed.drop n (S.nd + 1)).ent.length = S.ent.length from rfl, relayN_all] at hF
    ktf_call "us"
    refine ⟨p.b, _, p1.dx, _, rfl, ho6, by rfl, 1, _, [], note_ E, by decide, ?_⟩
    ktf_call "us"
    refine ⟨p1, S.deed.drop n (S.nd + 1), m, G', e.key, s, svs, _, by rw [eb1], rfl, rfl, hek, hs, hF, by rw [← relayN_all]; exact hrl _, hhl, R6, hS', fun p' G7 H7 eb7 e7 R7 hS7 => ?_⟩
    ktf_call "us"
    exact k p' G7 H7 (by rw [eb7, eb1]) (e1.trans (e5.trans (e6.trans e7))) R7 hS7
end
/-! ### text D24 -/
set_option maxHeartbeats 4000000
section
open PySem PySem.Spec PyProof.Rows L2 TL
variable {B : Bs}
theorem Hs.pull3 {m z : List (Addr × HO)} {y0 y1 y2 : Addr × HO} {G H : Hp} (h : Hs B (m ++ (y0 :: y1 :: y2 :: z)) G H) : Hs B (y0 :: y1 :: y2 :: (m ++ z)) G H :=
  h.perm ((List.perm_append_comm (l₁ := m) (l₂ := y0 :: y1 :: y2 :: z)).trans (((List.perm_append_comm (l₁ := z) (l₂ := m)).cons y2).cons y1 |>.cons y0))
theorem Hs.push3 {m z : List (Addr × HO)} {y0 y1 y2 : Addr × HO} {G H : Hp} (h : Hs B (y0 :: y1 :: y2 :: (m ++ z)) G H) : Hs B (m ++ (y0 :: y1 :: y2 :: z)) G H :=
  h.perm (((List.perm_append_comm (l₁ := m) (l₂ := y0 :: y1 :: y2 :: z)).trans (((List.perm_append_comm (l₁ := z) (l₂ := m)).cons y2).cons y1 |>.cons y0)).symm)
def spRead0 (B : Bs) : Sp := fun vs H Q _ => ∃ x dx b t m G, vs = [.ref x, .ref b, tV t] ∧ Hs B ((x, .ins (He.ga B.K "Reading") dx []) :: m) G H ∧
  ∀ sp se H', Hs B (Rg.pts B ⟨x, dx, sp, se, [], []⟩ b t ++ m) G H' → Q .non H'
theorem k_Reading (E : Ev B) : Mkr B 1 "Reading" (He.ga B.K "Reading") (spRead0 B) [] := by
  refine MFn.mk (ps := ["self", "book", "turn"]) ?_ E.mk_Reading E.g_Reading
  refine E.mt 57 rfl rfl rfl rfl (N := ["self", "book", "turn"]) (n := 3) (gs := []) (by decide +kernel) (fun vs H Q E h => by obtain ⟨x, dx, b, t, m, G, rfl, _⟩ := h; rfl) (by ktf_call "b3") ?_
  intro X vs H Q E1 g h
  obtain ⟨x, dx, b, t, m, G, rfl, hS, k⟩ := h
  show WSs X _ _ [some (.ref x), some (.ref b), some (tV t)] H
  ktf_call "us"
  refine ⟨x, _, dx, [], m, G, by ktf_call "sv", hS, E.c_Reading, E.na_Reading_book, by simp, fun H1 hS1 => ?_⟩
  ktf_call "us"
  refine ⟨x, _, dx, _, m, G, by ktf_call "sv", hS1, E.c_Reading, E.na_Reading_turn, by show 1 < 1000; decide, fun H2 hS2 => ?_⟩
  ktf_call "us"
  refine we_dK (nd_m hS2 fun sp H3 hS3 => ?_)
  refine ⟨x, _, dx, _, _, G, by ktf_call "sv", hS3.swap, E.c_Reading, E.na_Reading_speakers, by show 2 < 1000; decide, fun H4 hS4 => ?_⟩
  ktf_call "us"
  refine we_dK (nd_m hS4 fun se H5 hS5 => ?_)
  refine ⟨x, _, dx, _, _, G, by ktf_call "sv", hS5.swap, E.c_Reading, E.na_Reading_seen, by show 3 < 1000; decide, fun H6 hS6 => ?_⟩
  ktf_call "us"
  exact k sp se H6 (hS6.perm ((List.Perm.swap _ _ _).cons _))
/-- where a reading stands -/
structure RdA (B : Bs) (p : Bp) (S : Bk) (t : Option Nat) (r : Addr) (log : Log) (pts m : List (Addr × HO)) (G H : Hp) : Prop where
  bk : BkR p S G
  bg : BkG S
  tn : turnV S.nd t ≤ S.nd
  p : RdP B p S t r log pts
  h : Hs B (m ++ pts) G H
/-- a reading, its seen dicts left open -/
structure SpA (B : Bs) (p : Bp) (S : Bk) (t : Option Nat) (R : Rg) (Y m : List (Addr × HO)) (G H : Hp) : Prop where
  bk : BkR p S G
  bg : BkG S
  tn : turnV S.nd t ≤ S.nd
  ok : SpOk S t R
  h : Hs B (m ++ (R.pts B p.b t ++ ((R.spd ++ Y) ++ p.pts B S))) G H
def pSpeaker (B : Bs) : V → V → V → Hp → VK → Prop := fun a b c H Q => ∃ p S t R Y m G n d, a = .ref R.r ∧ b = .str n ∧ c = .int d ∧ n ∈ S.ns ∧ SpA B p S t R Y m G H ∧
  ∀ spl' H', SpA B p S t { R with spl := spl' } Y m G H' → Q (oV (spkS S t n d)) H'
theorem speaker (E : Ev B) : Mt B 4 (He.ga B.K "Reading") "speaker" (Sp3 (pSpeaker B)) [] := by
  refine (MFn.mt (c := "Reading") (ps := ["self", "name", "day"]) ?_ E.c_Reading E.m_Reading_speaker)
  refine E.mt 58 rfl rfl rfl rfl (N := ["self", "name", "day", "days", "first", "last", "number", "each"]) (n := 8) (gs := ["range"]) (by decide +kernel) len3 (by ktf_call "b3") ?_
  intro X vs0 H Q E1 g h
  obtain ⟨_, _, _, rfl, p, S, t, R, Y, m, G, n, d, rfl, rfl, rfl, hn, A, k⟩ := h
  obtain ⟨bk, bg, tn, rok, hS⟩ := A
  have c1 := E.c_Reading
  have n1 := E.na_Reading_speakers
  have n2 := E.na_Reading_turn
  have n3 := E.na_Reading_book
  have facts : ∀ {R' : Rg} {m' : List (Addr × HO)} {G' H' : Hp}, Hs B (m' ++ (R'.pts B p.b t ++ ((R'.spd ++ Y) ++ p.pts B S))) G' H' → H' R'.r = some (rdO B R' p.b t) ∧ H' R'.sp = some (.dK (spD R'.spl)) := by
    intro R' m' G' H' h
    exact ⟨h.at (q := (R'.r, rdO B R' p.b t)) (by simp [Rg.pts]), h.at (q := (R'.sp, .dK (spD R'.spl))) (by simp [Rg.pts])⟩
  obtain ⟨ho, hsp⟩ := facts hS
  show WSs X _ _ [some (.ref R.r), some (.str n), some (.int d), none, none, none, none, none] H
  refine wss_cut (fun σ' H' => ∃ o3 o4 o5 o6 o7 spl', σ' = [some (.ref R.r), some (.str n), some (.int d), o3, o4, o5, o6, o7] ∧ n ∈ spl'.map (·.1) ∧ SpOk S t { R with spl := spl' } ∧ Hs B (m ++ (({ R with spl := spl' } : Rg).pts B p.b t ++ ((({ R with spl := spl' } : Rg).spd ++ Y) ++ p.pts B S))) G H') ?_ ?_
  · ktf_call "i"
    ktf_call "fs"
    refine wc_dni g (DGet.k (k := .inr n) hsp) ?_
    rcases dk_at (l := R.spl) (n := n) with ⟨hno, hv⟩ | ⟨i, x, hi, rfl, hv⟩
    · rw [hv]
      ktf_call "us"
      refine iteNF ?_
      ktf_call "us"
      refine we_dK (nd_m hS fun dd H1 hS1 => ?_)
      have hS1' : Hs B (((dd, .dK []) :: m) ++ (R.pts B p.b t ++ ((R.spd ++ Y) ++ p.pts B S))) G H1 := hS1
      obtain ⟨ho1, _⟩ := facts hS1'
      ktf_call "us"
      refine wss_cut (fun σ' H' => ∃ o4 o5 o6 o7 kv, σ' = [some (.ref R.r), some (.str n), some (.int d), some (.ref dd), o4, o5, o6, o7] ∧ (∀ d : Int, (valV kv (.inl d)).getD .non = oV (spkS S t n d)) ∧ Hs B (((dd, .dK kv) :: m) ++ (R.pts B p.b t ++ ((R.spd ++ Y) ++ p.pts B S))) G H') ?_ ?_
      · refine ws_forS g (wi_l g ?_)
        ktf_call "fs"
        have hm : BkM B p S ((dd, .dK []) :: (m ++ (R.pts B p.b t ++ ((R.spd ++ Y) ++ p.pts B S)))) G := ⟨bk, fun q hq => by
          refine List.mem_cons_of_mem _ (List.mem_append_right _ (List.mem_append_right _ (List.mem_append_right _ hq)))⟩
        refine ⟨p.b, _, p.dx, _, rfl, hm.ob hS1, by rfl, 3, _, [], table_ E, by decide, ?_⟩
        ktf_call "fs"
        refine ⟨p, S, _, G, n, t, rfl, rfl, rfl, hn, tn, hm, hS1, fun q vs G2 H2 e2 hF hS2 => ?_⟩
        have hrows : DayB (stripAt (S.hist n) (turnV S.nd t)) := fun r hr => by
          obtain ⟨q, hq, hrq⟩ := stripAt_mem hr
          exact bg.day n q hq r hrq
        have hlen : (stripAt (S.hist n) (turnV S.nd t)).length ≤ 400 := stripAt_len fun q hq => bk.st n q hq
        have hspk : ∀ d, spkS S t n d = markF (stripAt (S.hist n) (turnV S.nd t)) d := fun _ => rfl
        generalize stripAt (S.hist n) (turnV S.nd t) = rows at hF hrows hlen hspk
        refine ⟨q, vs, rfl, sql hS2.a0, fun i σ' H' => ∃ o4 o5 o6 o7 kv, σ' = [some (.ref R.r), some (.str n), some (.int d), some (.ref dd), o4, o5, o6, o7] ∧ kv.length ≤ 400 * i ∧ (∀ d : Int, (valV kv (.inl d)).getD .non = oV (markF (rows.take i) d)) ∧ Hs B ((q, .lst vs) :: (dd, .dK kv) :: (m ++ (R.pts B p.b t ++ ((R.spd ++ Y) ++ p.pts B S)))) G2 H', ⟨_, _, _, _, [], rfl, by simp, fun d => rfl, hS2⟩, fun i σ' H' _ ⟨_, _, _, _, _, _, _, _, h⟩ => sql h.a0, ?_, ?_⟩
        · rintro i y σ' H' _ hi ⟨o4, o5, o6, o7, kv, rfl, hkl, hkv, hS'⟩ ⟨rfl, hy⟩
          obtain ⟨row, hrow, tu, rfl, htu⟩ := hF.get' hy
          have htu' := hS'.g _ _ htu
          obtain ⟨b1, b2, b3, b4⟩ := hrows row (List.mem_of_getElem? hrow)
          have hil : i < rows.length := (List.getElem?_eq_some_iff.mp hrow).1
          ktf_call "us"
          refine wss_one (ws_forS g (wi_r2 g (by ktf_call "gm") E.f_range ?_))
          ktf_call "us"
          refine ⟨row.1, row.2.1 + 1, rfl, rfl, by omega, ?_⟩
          refine ⟨fun j σ' H' => ∃ o7 kv, σ' = [some (.ref R.r), some (.str n), some (.int d), some (.ref dd), some (.int row.1), some (.int row.2.1), some (oV row.2.2), o7] ∧ kv.length ≤ 400 * i + j ∧ (∀ d : Int, (valV kv (.inl d)).getD .non = if row.1 ≤ d ∧ d < row.1 + (j : Nat) then oV row.2.2 else oV (markF (rows.take i) d)) ∧ Hs B ((q, .lst vs) :: (dd, .dK kv) :: (m ++ (R.pts B p.b t ++ ((R.spd ++ Y) ++ p.pts B S)))) G2 H', ⟨_, kv, rfl, by omega, fun d => by rw [hkv, if_neg (by omega)], hS'⟩, fun _ _ _ _ _ => True.intro, ?_, ?_⟩
          · rintro j y σ' H2 _ hj ⟨o7, kv2, rfl, hkl2, hkv2, hS2'⟩ ⟨rfl, hyy⟩
            obtain rfl : y = .int (row.1 + (j : Nat)) := by rw [hyy, Int.mul_one]
            ktf_call "us"
            refine wst_d g (DPut.k (k := .inl (row.1 + (j : Nat))) hS2'.a1 (Nat.lt_of_le_of_lt hkl2 ?_)) ?_
            · rw [sizeLine_eq]; omega
            ktf_call "us"
            refine ⟨_, _, rfl, Nat.le_trans (length_putK _ _ _) (by omega), fun d => ?_, hS2'.set1 rfl⟩
            rw [valV_put]
            by_cases hd : d = row.1 + (j : Nat)
            · rw [if_pos (by rw [hd]), if_pos (by omega)]; rfl
            · rw [if_neg (by intro z; injection z with z; exact hd z), hkv2]
              by_cases hc : row.1 ≤ d ∧ d < row.1 + (j : Nat)
              · rw [if_pos hc, if_pos (by omega)]
              · rw [if_neg hc, if_neg (by omega)]
          · rintro σ' H2 ⟨o7, kv2, rfl, hkl2, hkv2, hS2'⟩
            refine ⟨_, _, _, _, kv2, rfl, Nat.le_trans hkl2 (by omega), fun d => ?_, hS2'⟩
            rw [hkv2, List.take_add_one, hrow]
            show _ = oV (markF (rows.take i ++ [row]) d)
            rw [markF_snoc]
            by_cases hc : row.1 ≤ d ∧ d ≤ row.2.1
            · rw [if_pos hc, if_pos (by omega)]
            · rw [if_neg hc, if_neg (by omega)]
        · rintro σ' H' ⟨o4, o5, o6, o7, kv, rfl, hkl, hkv, hS'⟩
          rw [hF.length, List.take_length] at hkv
          exact ⟨_, _, _, _, kv, rfl, fun d => by rw [hkv, hspk], (hS'.drop.base e2)⟩
      · rintro σ' H' ⟨o4, o5, o6, o7, kv, rfl, hkv, hS'⟩
        obtain ⟨ho', hsp'⟩ := facts hS'
        have hspl : R.spl.length ≤ 8 := by
          have := nodup_le rok.spn (m := S.ns) fun x hx => by
            obtain ⟨z, hz, rfl⟩ := List.mem_map.mp hx
            exact (rok.sp z hz).1
          rw [List.length_map] at this
          exact Nat.le_trans this bk.sz.1
        ktf_call "fs"
        refine wst_d g (DPut.k (k := .inr n) hsp' (by rw [List.length_map]; exact Nat.lt_of_le_of_lt hspl (by decide))) ?_
        ktf_call "us"
        have hp3 := (Hs.pull3 (z := (R.spd ++ Y) ++ p.pts B S) hS').set1 (u' := .dK (putK (spD R.spl) (.inr n) (.ref dd))) rfl
        have hput : putK (spD R.spl) (.inr n) (.ref dd) = spD (R.spl ++ [(n, dd, kv)]) := by
          rw [putK_new _ hv]
          unfold spD
          rw [List.map_append]; rfl
        rw [hput] at hp3 ⊢
        refine ⟨_, _, _, _, _, R.spl ++ [(n, dd, kv)], rfl, by simp, ⟨fun x hx => ?_, ?_⟩, ?_⟩
        · rcases List.mem_append.mp hx with hx | hx
          · exact rok.sp x hx
          · rw [List.mem_singleton.mp hx]
            exact ⟨hn, hkv⟩
        · rw [List.map_append, List.nodup_append]
          exact ⟨rok.spn, by simp, fun a ha b hb => by
            simp at hb
            subst hb
            exact fun e => hno (e ▸ ha)⟩
        · refine Hs.push3 (m := m) (z := (({ R with spl := R.spl ++ [(n, dd, kv)] } : Rg).spd ++ Y) ++ p.pts B S) (hp3.perm ?_)
          refine ((List.Perm.cons _ (List.Perm.cons _ (List.Perm.cons _ ?_))))
          refine (List.perm_middle (l₁ := m) (l₂ := (R.spd ++ Y) ++ p.pts B S)).symm.trans (List.Perm.append_left m ?_)
          have := (List.perm_middle (a := (dd, HO.dK kv)) (l₁ := R.spl.map fun x => (x.2.1, HO.dK x.2.2)) (l₂ := Y ++ p.pts B S)).symm
          unfold Rg.spd
          simpa [List.append_assoc] using this
    · rw [hv]
      ktf_call "us"
      refine iteNT ?_
      ktf_call "us"
      refine ⟨_, _, _, _, _, R.spl, rfl, List.mem_map.mpr ⟨x, List.mem_of_getElem? hi, rfl⟩, rok, hS⟩
  · rintro σ' H' ⟨o3, o4, o5, o6, o7, spl', rfl, hin, rok', hS'⟩
    obtain ⟨ho', hsp'⟩ := facts hS'
    rcases dk_at (l := spl') (n := n) with ⟨hno, _⟩ | ⟨i, x, hi, rfl, hv⟩
    · exact absurd hin hno
    obtain ⟨h2, h3⟩ := rok'.sp x (List.mem_of_getElem? hi)
    have hx : H' x.2.1 = some (.dK x.2.2) := hS'.at (q := (x.2.1, .dK x.2.2)) (List.mem_append_right _ (List.mem_append_right _ (List.mem_append_left _ (List.mem_append_left _ (List.mem_map.mpr ⟨x, List.mem_of_getElem? hi, rfl⟩)))))
    ktf_call "fs"
    refine wx_d g (y := .str x.1) (v := .ref x.2.1) (by rw [← hv]; exact DGet.k (k := .inr x.1) hsp') ?_
    ktf_call "us"
    refine ⟨.inl ⟨_, .inl hx⟩, ?_⟩
    ktf_call "us"
    refine ⟨_, DGet.k (k := .inl d) hx, ?_⟩
    rw [h3]
    exact k spl' H' ⟨bk, bg, tn, rok', hS'⟩
end
/-! ### text D25 -/
set_option maxHeartbeats 4000000
section
open PySem PySem.Spec PyProof.Rows L2 TL
variable {B : Bs}
def pTelling (B : Bs) : V → V → V → Hp → VK → Prop := fun a b c H Q => ∃ p S t r log pts m G n d, a = .ref r ∧ b = .str n ∧ c = .int d ∧ n ∈ S.ns ∧ (0 ≤ d ∧ d ≤ 399) ∧ RdA B p S t r log pts m G H ∧
  ∀ pts' H', RdA B p S t r (log ++ [(n, d)]) pts' m G H' → Q (oV (tellS S t n d)) H'
theorem telling (E : Ev B) : Mt B 5 (He.ga B.K "Reading") "telling" (Sp3 (pTelling B)) [] := by
  refine (MFn.mt (c := "Reading") (ps := ["self", "name", "day"]) ?_ E.c_Reading E.m_Reading_telling)
  refine E.mt 59 rfl rfl rfl rfl (N := ["self", "name", "day", "number"]) (n := 4) (gs := []) (by decide +kernel) len3 (by ktf_call "b3") ?_
  intro X vs0 H Q E1 g h
  obtain ⟨_, _, _, rfl, p, S, t, r, log, pts, m, G, n, d, rfl, rfl, rfl, hn, hd, A, k⟩ := h
  have c1 := E.c_Reading
  have n1 := E.na_Reading_seen
  have n2 := E.na_Reading_book
  show WSs X _ _ [some (.ref r), some (.str n), some (.int d), none] H
  refine wss_cut (fun σ' H' => σ' = [some (.ref r), some (.str n), some (.int d), none] ∧ ∃ pts', RdA B p S t r (log ++ [(n, d)]) pts' m G H') ?_ ?_
  · obtain ⟨bk, bg, tn, ⟨R, rfl, rfl, rok⟩, hS⟩ := A
    have ho : H R.r = some (rdO B R p.b t) := hS.at (q := (R.r, rdO B R p.b t)) (by simp [Rg.pts])
    have hse : H R.se = some (.dK (seD R.sel)) := hS.at (q := (R.se, .dK (seD R.sel))) (by simp [Rg.pts])
    have hsl : R.sel.length ≤ 8 := by
      have := nodup_le rok.sen (m := S.ns) fun x hx => by
        obtain ⟨z, hz, rfl⟩ := List.mem_map.mp hx
        exact (rok.se z hz).1
      rw [List.length_map] at this
      exact Nat.le_trans this bk.sz.1
    ktf_call "fs"
    refine ⟨.inl ⟨_, .inl hse⟩, ?_⟩
    ktf_call "us"
    refine we_dK (nd_m hS fun dd H1 hS1 => ?_)
    have hse1 : H1 R.se = some (.dK (seD R.sel)) := hS1.at (q := (R.se, .dK (seD R.sel))) (by simp [Rg.pts])
    refine ⟨seD R.sel, .inr n, hse1, rfl, by rw [List.length_map]; exact Nat.lt_of_le_of_lt hsl (by decide), fun v hv => ?_, fun hv => ?_⟩
    · rcases dk_at (l := R.sel) (n := n) with ⟨_, hv2⟩ | ⟨i, ⟨xn, xa, ds⟩, hi, rfl, hv2⟩
      · rw [hv2] at hv; cases hv
      rw [hv2] at hv
      obtain rfl := Option.some.inj hv
      have hS2 := hS1.drop
      obtain ⟨hxn, hnd, hds⟩ := rok.se _ (List.mem_of_getElem? hi)
      have hxl := (List.getElem?_eq_some_iff.mp hi).1
      have hx : H1 xa = some (.dK (dayD ds)) := hS2.at (q := (xa, .dK (dayD ds))) (List.mem_append_right _ (List.mem_append_right _ (List.mem_append_left _ (List.mem_append_right _ (List.mem_map.mpr ⟨_, List.mem_of_getElem? hi, rfl⟩)))))
      have hdl : ds.length ≤ 400 := by
        have := nodup_le hnd (m := rng 0 399) fun z hz => by
          have := rok.lg _ ((hds z).mp hz)
          exact mem_rng.mpr ⟨this.2.1, this.2.2⟩
        rw [rng_len] at this
        exact this
      ktf_call "us"
      refine wst_d g (DPut.k (k := .inl d) hx (by rw [List.length_map]; exact Nat.lt_of_le_of_lt hdl (by decide))) ?_
      rw [putK_day]
      generalize hds' : (if d ∈ ds then ds else ds ++ [d]) = ds'
      have hidx : (m ++ (R.pts B p.b t ++ (R.dps ++ p.pts B S)))[m.length + (3 + (R.spl.length + i))]? = some (xa, .dK (dayD ds)) := by
        rw [List.getElem?_append_right (by omega), Nat.add_sub_cancel_left, List.getElem?_append_right (by simp [Rg.pts])]
        rw [show 3 + (R.spl.length + i) - (R.pts B p.b t).length = R.spl.length + i from by simp [Rg.pts]]
        unfold Rg.dps Rg.spd Rg.sed
        rw [List.append_assoc, List.getElem?_append_right (by simp), List.length_map, Nat.add_sub_cancel_left, List.getElem?_append_left (by simpa using hxl), List.getElem?_map, hi]; rfl
      have hS3 := hS2.setI hidx (u' := .dK (dayD ds')) rfl
      have es : (m ++ (R.pts B p.b t ++ (R.dps ++ p.pts B S))).set (m.length + (3 + (R.spl.length + i))) (xa, .dK (dayD ds')) = m ++ (({ R with sel := R.sel.set i (xn, xa, ds') } : Rg).pts B p.b t ++ (({ R with sel := R.sel.set i (xn, xa, ds') } : Rg).dps ++ p.pts B S)) := by
        rw [List.set_append_right _ _ (by omega), Nat.add_sub_cancel_left, List.set_append_right _ _ (by simp [Rg.pts])]
        rw [show 3 + (R.spl.length + i) - (R.pts B p.b t).length = R.spl.length + i from by simp [Rg.pts]]
        have e1 : ({ R with sel := R.sel.set i (xn, xa, ds') } : Rg).pts B p.b t = R.pts B p.b t := by
          unfold Rg.pts
          have : seD (R.sel.set i (xn, xa, ds')) = seD R.sel := by
            unfold seD
            rw [List.map_set]
            refine List.ext_getElem? fun j => ?_
            by_cases hj : i = j
            · subst hj
              rw [List.getElem?_set_self (by simpa using hxl), List.getElem?_map, hi]; rfl
            · rw [List.getElem?_set_ne hj]
          show [_, _, (R.se, HO.dK (seD (R.sel.set i (xn, xa, ds'))))] = _
          rw [this]
        rw [e1]
        congr 2
        unfold Rg.dps Rg.spd Rg.sed
        rw [List.append_assoc, List.set_append_right _ _ (by simp), List.length_map, Nat.add_sub_cancel_left, List.set_append_left _ _ (by simpa using hxl), List.append_assoc]
        congr 2
        show _ = (R.sel.set i (xn, xa, ds')).map _
        rw [List.map_set]
      rw [es] at hS3
      ktf_call "us"
      refine ⟨rfl, _, bk, bg, tn, ⟨{ R with sel := R.sel.set i (xn, xa, ds') }, rfl, rfl, ⟨rok.sp, fun y hy => ?_, rok.spn, ?_, fun q hq => ?_, fun y hy => ?_⟩⟩, hS3⟩
      · have hnames : (R.sel.map (·.1)).Nodup := rok.sen
        obtain ⟨j, hj⟩ := List.mem_iff_getElem?.mp hy
        have hj : (R.sel.set i (xn, xa, ds'))[j]? = some y := hj
        by_cases hij : i = j
        · subst hij
          rw [List.getElem?_set_self hxl] at hj
          obtain rfl := Option.some.inj hj
          refine ⟨hxn, ?_, fun z => ?_⟩
          · show ds'.Nodup
            rw [← hds']
            split
            · exact hnd
            · rename_i hnot
              rw [List.nodup_append]
              exact ⟨hnd, by simp, fun a ha b hb => by
                simp at hb; subst hb
                exact fun e => hnot (e ▸ ha)⟩
          · show z ∈ ds' ↔ _
            rw [List.mem_append, ← hds z, ← hds']
            simp only [List.mem_singleton, Prod.mk.injEq, true_and]
            split
            · rename_i hin
              exact ⟨fun h => .inl h, fun h => h.elim id fun h => h ▸ hin⟩
            · rw [List.mem_append, List.mem_singleton]
        · rw [List.getElem?_set_ne hij] at hj
          obtain ⟨h1, h2, h3⟩ := rok.se y (List.mem_of_getElem? hj)
          refine ⟨h1, h2, fun z => ?_⟩
          rw [h3, List.mem_append]
          refine ⟨fun h => .inl h, fun h => h.elim id fun h => ?_⟩
          have e : y.1 = xn := (Prod.mk.injEq _ _ _ _ ▸ List.mem_singleton.mp h : _ ∧ _).1
          have g1 : (R.sel.map (·.1))[j]? = some y.1 := by rw [List.getElem?_map, hj]; rfl
          have g2 : (R.sel.map (·.1))[i]? = some xn := by rw [List.getElem?_map, hi]; rfl
          exact absurd (nd_ix hnames g2 (by rw [← e]; exact g1)) hij
      · show ((R.sel.set i (xn, xa, ds')).map (·.1)).Nodup
        have : (R.sel.set i (xn, xa, ds')).map (·.1) = R.sel.map (·.1) := by
          rw [List.map_set]
          refine List.ext_getElem? fun j => ?_
          by_cases hj : i = j
          · subst hj
            rw [List.getElem?_set_self (by simpa using hxl), List.getElem?_map, hi]; rfl
          · rw [List.getElem?_set_ne hj]
        rw [this]; exact rok.sen
      · have this : (R.sel.set i (xn, xa, ds')).map (·.1) = R.sel.map (·.1) := by
          rw [List.map_set]
          refine List.ext_getElem? fun j => ?_
          by_cases hj : i = j
          · subst hj
            rw [List.getElem?_set_self (by simpa using hxl), List.getElem?_map, hi]; rfl
          · rw [List.getElem?_set_ne hj]
        show q.1 ∈ (R.sel.set i (xn, xa, ds')).map (·.1) ∧ _
        rw [this]
        rcases List.mem_append.mp hq with hq | hq
        · exact rok.lg q hq
        · rw [List.mem_singleton.mp hq]
          exact ⟨List.mem_map.mpr ⟨_, List.mem_of_getElem? hi, rfl⟩, hd⟩
      · obtain ⟨j, hj⟩ := List.mem_iff_getElem?.mp hy
        have hj : (R.sel.set i (xn, xa, ds'))[j]? = some y := hj
        by_cases hij : i = j
        · subst hij
          rw [List.getElem?_set_self hxl] at hj
          obtain rfl := Option.some.inj hj
          show ds' ≠ []
          rw [← hds']
          split
          · rename_i hin; intro e; rw [e] at hin; cases hin
          · simp
        · rw [List.getElem?_set_ne hij] at hj
          exact rok.ne y (List.mem_of_getElem? hj)
    · rcases dk_at (l := R.sel) (n := n) with ⟨hno, hv2⟩ | ⟨i, x, hi, rfl, hv2⟩
      rotate_left
      · rw [hv2] at hv; cases hv
      have hput : putK (seD R.sel) (.inr n) (.ref dd) = seD (R.sel ++ [(n, dd, [])]) := by
        rw [putK_new _ hv2]
        unfold seD
        rw [List.map_append]; rfl
      have hS1' : Hs B (((dd, .dK []) :: m) ++ (R.pts B p.b t ++ (R.dps ++ p.pts B S))) G H1 := hS1
      have hp3 := (Hs.pull3 (z := R.dps ++ p.pts B S) hS1').set2 (u' := .dK (putK (seD R.sel) (.inr n) (.ref dd))) rfl
      generalize upd H1 R.se (.dK (putK (seD R.sel) (.inr n) (.ref dd))) = H2 at hp3 ⊢
      rw [hput] at hp3
      have hdd : H2 dd = some (.dK (dayD [])) := hp3.at (q := (dd, .dK [])) (by simp)
      ktf_call "us"
      refine wst_d g (DPut.k (k := .inl d) hdd (by decide)) ?_
      have h4 : Hs B ((dd, .dK []) :: ((R.r, rdO B R p.b t) :: (R.sp, .dK (spD R.spl)) :: (R.se, .dK (seD (R.sel ++ [(n, dd, [])]))) :: (m ++ (R.dps ++ p.pts B S)))) G H2 := hp3.perm (by
        exact (List.perm_middle (a := (dd, HO.dK [])) (l₁ := [(R.r, rdO B R p.b t), (R.sp, .dK (spD R.spl)), (R.se, .dK (seD (R.sel ++ [(n, dd, [])])))]) (l₂ := m ++ (R.dps ++ p.pts B S))))
      have h5 := h4.set (u' := .dK (dayD [d])) rfl
      ktf_call "us"
      refine ⟨rfl, _, bk, bg, tn, ⟨{ R with sel := R.sel ++ [(n, dd, [d])] }, rfl, rfl, ⟨rok.sp, fun y hy => ?_, rok.spn, ?_, fun q hq => ?_, fun y hy => ?_⟩⟩, ?_⟩
      · rcases List.mem_append.mp hy with hy | hy
        · obtain ⟨h1, h2, h3⟩ := rok.se y hy
          refine ⟨h1, h2, fun z => ?_⟩
          rw [h3, List.mem_append]
          refine ⟨fun h => .inl h, fun h => h.elim id fun h => ?_⟩
          have e := (Prod.mk.injEq _ _ _ _ ▸ List.mem_singleton.mp h : _ ∧ _).1
          exact absurd (e ▸ List.mem_map.mpr ⟨y, hy, rfl⟩) hno
        · rw [List.mem_singleton.mp hy]
          refine ⟨hn, by simp, fun z => ?_⟩
          rw [List.mem_append]
          simp only [List.mem_singleton, Prod.mk.injEq, true_and]
          refine ⟨fun h => .inr h, fun h => h.elim (fun h => absurd (rok.lg _ h).1 hno) id⟩
      · show ((R.sel ++ [(n, dd, [d])]).map (·.1)).Nodup
        rw [List.map_append, List.nodup_append]
        exact ⟨rok.sen, by simp, fun a ha b hb => by
          simp at hb; subst hb
          exact fun e => hno (e ▸ ha)⟩
      · show q.1 ∈ (R.sel ++ [(n, dd, [d])]).map (·.1) ∧ _
        rw [List.map_append, List.mem_append]
        rcases List.mem_append.mp hq with hq | hq
        · exact ⟨.inl (rok.lg q hq).1, (rok.lg q hq).2⟩
        · rw [List.mem_singleton.mp hq]
          exact ⟨.inr (by simp), hd⟩
      · rcases List.mem_append.mp hy with hy | hy
        · exact rok.ne y hy
        · rw [List.mem_singleton.mp hy]; simp
      · refine Hs.push3 (m := m) (z := ({ R with sel := R.sel ++ [(n, dd, [d])] } : Rg).dps ++ p.pts B S) ?_
        have e2 : seD (R.sel ++ [(n, dd, [])]) = seD (R.sel ++ [(n, dd, [d])]) := by unfold seD; rw [List.map_append, List.map_append]; rfl
        rw [e2] at h5
        refine h5.perm ?_
        refine (List.perm_middle (a := (dd, HO.dK (dayD [d]))) (l₁ := [(R.r, rdO B R p.b t), (R.sp, .dK (spD R.spl)), (R.se, .dK (seD (R.sel ++ [(n, dd, [d])])))]) (l₂ := m ++ (R.dps ++ p.pts B S))).symm.trans ?_
        refine ((List.Perm.cons _ (List.Perm.cons _ (List.Perm.cons _ ?_))))
        refine (List.perm_middle (l₁ := m) (l₂ := R.dps ++ p.pts B S)).symm.trans (List.Perm.append_left m ?_)
        have := (List.perm_middle (a := (dd, HO.dK (dayD [d]))) (l₁ := (R.spl.map fun x => (x.2.1, HO.dK x.2.2)) ++ (R.sel.map fun x => (x.2.1, HO.dK (dayD x.2.2)))) (l₂ := p.pts B S)).symm
        unfold Rg.dps Rg.spd Rg.sed
        simpa [List.append_assoc] using this
  · rintro _ H' ⟨rfl, pts', A'⟩
    have A0 := A'
    obtain ⟨bk, bg, tn, ⟨R, rfl, rfl, rok⟩, hS⟩ := A'
    have ho : H' R.r = some (rdO B R p.b t) := hS.at (q := (R.r, rdO B R p.b t)) (by simp [Rg.pts])
    ktf_call "us"
    refine ⟨R.r, _, R.dx, _, rfl, ho, by rfl, 4, _, [], speaker E, by decide, ?_⟩
    ktf_call "us"
    refine ⟨p, S, t, R, R.sed, m, G, n, d, rfl, rfl, rfl, hn, ⟨bk, bg, tn, ⟨rok.sp, rok.spn⟩, hS⟩, fun spl' H2 A2 => ?_⟩
    have hS2 := A2.h
    have rok2 : RgOk S t { R with spl := spl' } (log ++ [(n, d)]) := ⟨A2.ok.sp, rok.se, A2.ok.spn, rok.sen, rok.lg, rok.ne⟩
    have A3 : ∀ {H'}, Hs B (m ++ (({ R with spl := spl' } : Rg).pts B p.b t ++ ((({ R with spl := spl' } : Rg).spd ++ R.sed) ++ p.pts B S))) G H' → RdA B p S t R.r (log ++ [(n, d)]) (({ R with spl := spl' } : Rg).pts B p.b t ++ (({ R with spl := spl' } : Rg).dps ++ p.pts B S)) m G H' := fun h => ⟨bk, bg, tn, ⟨{ R with spl := spl' }, rfl, rfl, rok2⟩, h⟩
    have k2 := fun H' h => k _ H' (A3 (H' := H') h)
    have ho2 : H2 R.r = some (rdO B R p.b t) := hS2.at (q := (R.r, rdO B R p.b t)) (by simp [Rg.pts])
    ktf_call "us"
    cases hs : spkS S t n d with
    | none =>
      have hk := k2 H2 hS2
      rw [show tellS S t n d = none from by unfold tellS; rw [hs]; rfl] at hk
      unfold oV
      ktf_call "i"
      ktf_call "us"
      exact hk
    | some i =>
      obtain ⟨j, e, rfl, hj, ht⟩ := bg.spk hs
      unfold oV
      ktf_call "i"
      ktf_call "fs"
      have hm : BkM B p S (m ++ (({ R with spl := spl' } : Rg).pts B p.b t ++ ((({ R with spl := spl' } : Rg).spd ++ R.sed) ++ p.pts B S))) G := ⟨bk, fun q hq => List.mem_append_right _ (List.mem_append_right _ (List.mem_append_right _ hq))⟩
      refine ⟨p.b, _, p.dx, _, rfl, hm.ob hS2, by rfl, 3, _, [], found_ E, by decide, ?_⟩
      ktf_call "us"
      refine ⟨p, S, _, G, j, e, rfl, rfl, hj, hm, hS2, fun tt x y z w rr G3 H3 e3 hS3 htt => ?_⟩
      ktf_call "us"
      refine wx_t g (sqt (hS3.g _ _ htt)) (at_nat 3 rfl rfl) ?_
      have hk := k2 H3 (hS3.base e3)
      rw [ht] at hk
      exact hk
end
/-! ### text D26 -/
set_option maxHeartbeats 4000000
section
open PySem PySem.Spec PyProof.Rows L2 TL
variable {B : Bs}
def pGrounds (B : Bs) : V → Hp → VK → Prop := fun a H Q => ∃ p S t r log pts m G, a = .ref r ∧ RdA B p S t r log pts m G H ∧
  ∀ q vs' G' H' ns days, Same G G' → SeenD log ns days → Fa (BoxR G') vs' (bxR (spkS S t) ns days) → Hs B ((q, .lst vs') :: (m ++ p.pts B S)) G' H' → Q (.ref q) H'
theorem blkR_len (f : Int → Option Int) (ds : List Int) : (blkR f ds).length ≤ ds.length := by
  unfold blkR
  have := foldR_len (ds.map fun d => ((d, d, f d) : Row)) []
  simpa using this
/-- the days of a name -/
def dysOf (sel : List (Str × Addr × List Int)) (n : Str) : List Int := ((sel.find? fun x => decide (x.1 = n)).map fun x => x.2.2.mergeSort fun a b => decide (a ≤ b)).getD []
theorem dysOf_at : ∀ {sel : List (Str × Addr × List Int)} {i : Nat} {x : Str × Addr × List Int}, (sel.map (·.1)).Nodup → sel[i]? = some x → dysOf sel x.1 = x.2.2.mergeSort fun a b => decide (a ≤ b)
  | [], _, _, _, h => by simp at h
  | y :: sel, 0, x, _, h => by
    simp at h; subst h
    simp [dysOf]
  | y :: sel, i + 1, x, nd, h => by
    have h' : sel[i]? = some x := by simpa using h
    have nd' : (y.1 :: sel.map (·.1)).Nodup := nd
    have hne : y.1 ≠ x.1 := fun e => (List.nodup_cons.mp nd').1 (e ▸ List.mem_map.mpr ⟨x, List.mem_of_getElem? h', rfl⟩)
    have := dysOf_at (List.nodup_cons.mp nd').2 h'
    unfold dysOf at this ⊢
    rw [List.find?_cons, decide_eq_false hne]
    exact this
theorem bxR_len (spk : Str → Int → Option Int) (days : Str → List Int) : ∀ ns : List Str, (∀ n ∈ ns, (days n).length ≤ 400) → (bxR spk ns days).length ≤ 400 * ns.length
  | [], _ => by simp [bxR]
  | n :: ns, h => by
    have h1 := bxR_len spk days ns fun n hn => h n (List.mem_cons_of_mem _ hn)
    have h2 := blkR_len (spk n) (days n)
    have h3 := h n List.mem_cons_self
    unfold bxR at h1 ⊢
    rw [List.flatMap_cons, List.length_append, List.length_map, List.length_cons]
    omega
theorem list_set_self {α : Type} : ∀ {l : List α} {i : Nat} {a : α}, l[i]? = some a → l.set i a = l
  | [], _, _, h => by simp at h
  | b :: l, 0, a, h => by simp at h; simp [h]
  | b :: l, i + 1, a, h => by
    have h' : l[i]? = some a := by simpa using h
    simp [list_set_self h']
theorem told_grounds (E : Ev B) : Mt B 5 (He.ga B.K "Reading") "told_grounds" (Sp1 (pGrounds B)) [] := by
  have f1 := joined E
  refine (MFn.mt (c := "Reading") (ps := ["self"]) ?_ E.c_Reading E.m_Reading_told_grounds)
  refine E.mt 60 rfl rfl rfl rfl (N := ["self", "found", "name", "rows", "day", "first", "last", "number"]) (n := 4) (gs := ["sorted", "joined"]) (by decide +kernel) len1 (by ktf_call "b1") ?_
  intro X vs0 H Q E1 g h
  obtain ⟨_, rfl, p, S, t, r, log, pts, m, G, rfl, ⟨bk, bg, tn, ⟨R, rfl, rfl, rok⟩, hS⟩, k⟩ := h
  have c1 := E.c_Reading
  have n1 := E.na_Reading_seen
  have hsl : R.sel.length ≤ 8 := by
    have := nodup_le rok.sen (m := S.ns) fun x hx => by
      obtain ⟨z, hz, rfl⟩ := List.mem_map.mp hx
      exact (rok.se z hz).1
    rw [List.length_map] at this
    exact Nat.le_trans this bk.sz.1
  show WSs X _ _ [some (.ref R.r), none, none, none, none, none, none, none] H
  ktf_call "us"
  refine nl_m hS (by decide) fun q H1 hS1 => ?_
  have ho1 : H1 R.r = some (rdO B R p.b t) := hS1.at (q := (R.r, rdO B R p.b t)) (by simp [Rg.pts])
  have hse1 : H1 R.se = some (.dK (seD R.sel)) := hS1.at (q := (R.se, .dK (seD R.sel))) (by simp [Rg.pts])
  ktf_call "us"
  refine wss_cons (ws_forS g (wi_l g ?_))
  ktf_call "fs"
  refine wcl_sortedD g (ks := R.sel.map (·.1)) hse1 (by unfold seD; rw [List.map_map, List.map_map]; rfl) (by rw [List.length_map]; omega) fun ys p0 hperm hsrt hp0 => ?_
  have hS2 := hS1.new (u := .lst (ys.map V.str)) hp0 rfl
  have hynd : ys.Nodup := hperm.nodup_iff.mpr rok.sen
  have hSeen : SeenD log ys (dysOf R.sel) := by
    refine ⟨hynd, hsrt, fun n => ?_, fun n hn => ?_⟩
    · rw [hperm.mem_iff, List.mem_map]
      constructor
      · rintro ⟨x, hx, rfl⟩
        obtain ⟨_, _, hd⟩ := rok.se x hx
        cases hds : x.2.2 with
        | nil => exact absurd hds (rok.ne x hx)
        | cons d ds => exact ⟨d, (hd d).mp (by rw [hds]; exact List.mem_cons_self)⟩
      · rintro ⟨d, hd⟩
        exact List.mem_map.mp (rok.lg _ hd).1
    · obtain ⟨x, hx, rfl⟩ := List.mem_map.mp (hperm.mem_iff.mp hn)
      obtain ⟨i, hi⟩ := List.mem_iff_getElem?.mp hx
      obtain ⟨_, h2, h3⟩ := rok.se x hx
      rw [dysOf_at rok.sen hi]
      exact ⟨sort_strict h2, fun d => by rw [(List.mergeSort_perm _ _).mem_iff]; exact h3 d⟩
  refine ⟨p0, _, rfl, sql hS2.a0, fun i σ' H' => ∃ o2 o3 spl' vs' G', σ' = [some (.ref R.r), some (.ref q), o2, o3, none, none, none, none] ∧ Same G G' ∧ SpOk S t { R with spl := spl' } ∧ Fa (BoxR G') vs' (bxR (spkS S t) (ys.take i) (dysOf R.sel)) ∧
    Hs B ((p0, .lst (ys.map V.str)) :: (q, .lst vs') :: (m ++ (({ R with spl := spl' } : Rg).pts B p.b t ++ ((({ R with spl := spl' } : Rg).spd ++ R.sed) ++ p.pts B S)))) G' H', ⟨_, _, R.spl, [], G, rfl, Same.refl _, ⟨rok.sp, rok.spn⟩, .nil, hS2⟩, fun i σ' H' _ ⟨_, _, _, _, _, _, _, _, _, h⟩ => sql h.a0, ?_, ?_⟩
  · rintro i y σ' _ H' hi ⟨o2, o3, spl', vs', G', rfl, e1, sok, hF, hS'⟩ ⟨rfl, hy⟩
    rw [List.getElem?_map] at hy
    obtain ⟨n, hni, rfl⟩ := Option.map_eq_some_iff.mp hy
    obtain ⟨⟨xn, xa, ds⟩, hx, rfl⟩ := List.mem_map.mp (hperm.mem_iff.mp (List.mem_of_getElem? hni))
    obtain ⟨ix, hix⟩ := List.mem_iff_getElem?.mp hx
    have hxl := (List.getElem?_eq_some_iff.mp hix).1
    obtain ⟨hxn, hnd, hds⟩ := rok.se _ hx
    have hxn : xn ∈ S.ns := hxn
    have hdl : ds.length ≤ 400 := by
      have := nodup_le hnd (m := rng 0 399) fun z hz => by
        have := rok.lg _ ((hds z).mp hz)
        exact mem_rng.mpr ⟨this.2.1, this.2.2⟩
      rw [rng_len] at this
      exact this
    have hdz : ds.length ≤ sizeLine := Nat.le_trans hdl (by decide)
    -- the dict's place
    let L : List (Addr × HO) → List (Str × Addr × List (Key × V)) → List (Addr × HO) := fun Y spl' => (p0, .lst (ys.map V.str)) :: (q, .lst vs') :: (m ++ (({ R with spl := spl' } : Rg).pts B p.b t ++ ((({ R with spl := spl' } : Rg).spd ++ Y) ++ p.pts B S)))
    have hidx : ∀ (Y : List (Addr × HO)) (spl' : List (Str × Addr × List (Key × V))) (u : HO), Y[ix]? = some (xa, u) → (L Y spl')[2 + (m.length + (3 + (spl'.length + ix)))]? = some (xa, u) := by
      intro Y spl' u hY
      have hYl := (List.getElem?_eq_some_iff.mp hY).1
      rw [Nat.add_comm 2]
      show (m ++ (({ R with spl := spl' } : Rg).pts B p.b t ++ ((({ R with spl := spl' } : Rg).spd ++ Y) ++ p.pts B S)))[m.length + (3 + (spl'.length + ix))]? = _
      rw [List.getElem?_append_right (by omega), Nat.add_sub_cancel_left, List.getElem?_append_right (by simp [Rg.pts])]
      rw [show 3 + (spl'.length + ix) - (({ R with spl := spl' } : Rg).pts B p.b t).length = spl'.length + ix from by simp [Rg.pts]]
      unfold Rg.spd
      rw [List.append_assoc, List.getElem?_append_right (by simp), List.length_map, Nat.add_sub_cancel_left, List.getElem?_append_left hYl, hY]
    have hset : ∀ (Y : List (Addr × HO)) (spl' : List (Str × Addr × List (Key × V))) (u : HO), ix < Y.length → (L Y spl').set (2 + (m.length + (3 + (spl'.length + ix)))) (xa, u) = L (Y.set ix (xa, u)) spl' := by
      intro Y spl' u hYl
      rw [Nat.add_comm 2]
      show _ :: _ :: ((m ++ (({ R with spl := spl' } : Rg).pts B p.b t ++ ((({ R with spl := spl' } : Rg).spd ++ Y) ++ p.pts B S))).set (m.length + (3 + (spl'.length + ix))) (xa, u)) = _
      rw [List.set_append_right _ _ (by omega), Nat.add_sub_cancel_left, List.set_append_right _ _ (by simp [Rg.pts])]
      rw [show 3 + (spl'.length + ix) - (({ R with spl := spl' } : Rg).pts B p.b t).length = spl'.length + ix from by simp [Rg.pts]]
      show _ = (p0, HO.lst (ys.map V.str)) :: (q, HO.lst vs') :: (m ++ (({ R with spl := spl' } : Rg).pts B p.b t ++ ((({ R with spl := spl' } : Rg).spd ++ Y.set ix (xa, u)) ++ p.pts B S)))
      congr 4
      have es : (({ R with spl := spl' } : Rg).spd).length = spl'.length := by unfold Rg.spd; rw [List.length_map]
      rw [List.append_assoc, List.set_append_right _ _ (by omega), es, Nat.add_sub_cancel_left, List.set_append_left _ _ hYl, List.append_assoc]
    have hsed : R.sed[ix]? = some (xa, .dK (dayD ds)) := by unfold Rg.sed; rw [List.getElem?_map, hix]; rfl
    have hsedl : ix < R.sed.length := (List.getElem?_eq_some_iff.mp hsed).1
    have hxd : H' xa = some (.dK (dayD ds)) := hS'.at (q := (xa, .dK (dayD ds))) (List.mem_of_getElem? (hidx R.sed spl' _ hsed))
    ktf_call "us"
    refine wss_cons (ws_lock hxd fun od => ?_)
    have hSl := hS'.setI (hidx R.sed spl' _ hsed) (u' := .frz od (.dK (dayD ds))) rfl
    rw [hset _ _ _ hsedl] at hSl
    generalize hH2 : upd H' xa (.frz od (.dK (dayD ds))) = H2 at hSl ⊢
    have hYl : ix < (R.sed.set ix (xa, .frz od (.dK (dayD ds)))).length := by rw [List.length_set]; exact hsedl
    have hYx : (R.sed.set ix (xa, .frz od (.dK (dayD ds))))[ix]? = some (xa, .frz od (.dK (dayD ds))) := List.getElem?_set_self hsedl
    have hYs : (R.sed.set ix (xa, .frz od (.dK (dayD ds)))).set ix (xa, .dK (dayD ds)) = R.sed := by
      rw [List.set_set]
      exact list_set_self hsed
    generalize R.sed.set ix (xa, .frz od (.dK (dayD ds))) = Y at hSl hYl hYx hYs
    refine ws_lcL g 3 [("day", 4)] [true, false, true, false, true, false, false, false] [false, false, false, false, true, false, false, false] [] rfl (by decide +kernel) (by decide) rfl (wi_k ?_)
    have ho2 : H2 R.r = some (rdO B R p.b t) := hSl.at (q := (R.r, rdO B R p.b t)) (by simp [L, Rg.pts])
    have hse2 : H2 R.se = some (.dK (seD R.sel)) := hSl.at (q := (R.se, .dK (seD R.sel))) (by simp [L, Rg.pts])
    have hvx : valV (seD R.sel) (.inr xn) = some (.ref xa) := by
      rcases dk_at (l := R.sel) (n := xn) with ⟨hno, _⟩ | ⟨j, x, hj, e, hv⟩
      · exact absurd (List.mem_map.mpr ⟨_, hx, rfl⟩) hno
      · have g1 : (R.sel.map (·.1))[j]? = some xn := by rw [List.getElem?_map, hj, ← e]; rfl
        have g2 : (R.sel.map (·.1))[ix]? = some xn := by rw [List.getElem?_map, hix]; rfl
        obtain rfl := nd_ix rok.sen g1 g2
        rw [hix] at hj
        obtain rfl := Option.some.inj hj
        exact hv
    ktf_call "fs"
    refine wx_d g (y := .str xn) (v := .ref xa) (by rw [← hvx]; exact DGet.k (k := .inr xn) hse2) ?_
    refine ⟨xa, od, dayD ds, rfl, hSl.at (q := (xa, .frz od (.dK (dayD ds)))) (List.mem_of_getElem? (hidx Y spl' _ hYx)), ?_⟩
    refine ⟨Int, Row, ds, fun d => some (d, d, spkS S t xn d), RowR, fun _ m' => ∃ spl', SpOk S t { R with spl := spl' } ∧ m' = L Y spl', L Y spl', G', fun _ _ _ _ e z => z.up e, by simp, by rw [List.length_map]; exact hdz, hSl, ⟨spl', sok, rfl⟩, ?_, ?_, ?_⟩
    · rintro j D m' G2 vs2 H3 hj e2 ⟨spl2, _, rfl⟩ hS3
      exact hS3.at (q := (xa, .frz od (.dK (dayD ds)))) (List.mem_cons_of_mem _ (List.mem_of_getElem? (hidx Y spl2 _ hYx)))
    · rintro j d D m' G2 vs2 _ x H3 hd e2 ⟨spl2, sok2, rfl⟩ hS3 ⟨rfl, hx2⟩ Z gZ
      have ex : x = .int d := by
        rw [List.getElem?_map, List.getElem?_map, hd] at hx2
        exact (Option.some.inj hx2).symm
      subst ex
      ktf_call "w"
      ktf_call "us"
      refine ⟨rfl, fun Z gZ => ?_⟩
      ktf_call "t"
      refine iteT fun Z gZ => ?_
      have ho3 : H3 R.r = some (rdO B { R with spl := spl2 } p.b t) := hS3.at (q := (R.r, rdO B { R with spl := spl2 } p.b t)) (by simp [L, Rg.pts])
      ktf_call "us"
      refine ⟨R.r, _, R.dx, _, rfl, ho3, by rfl, 4, _, [], speaker E, by decide, ?_⟩
      ktf_call "us"
      refine ⟨p, S, t, { R with spl := spl2 }, Y, (D, .lst vs2) :: (p0, .lst (ys.map V.str)) :: (q, .lst vs') :: m, G2, xn, d, rfl, rfl, rfl, hxn, ⟨bk.up (e1.trans e2), bg, tn, sok2, hS3⟩, fun spl3 H5 A5 => ?_⟩
      ktf_call "us"
      refine nt_f A5.h (by show 3 ≤ sizeLine; decide) fun tt G6 H6 hS6 e6 htt => ?_
      exact ⟨_, L Y spl3, G6, rfl, e6, ⟨spl3, A5.ok, rfl⟩, hS6, tt, rfl, htt⟩
    · rintro D m' G2 vs2 H3 e2 ⟨spl2, sok2, rfl⟩ hS3 hF2
      refine ⟨hS3.at (q := (xa, .frz od (.dK (dayD ds)))) (List.mem_cons_of_mem _ (List.mem_of_getElem? (hidx Y spl2 _ hYx))), ?_⟩
      have hS4 := hS3.setI (i := (2 + (m.length + (3 + (spl2.length + ix)))) + 1) (by exact hidx Y spl2 _ hYx) (u' := .dK (dayD ds)) rfl
      have es4 : ((D, HO.lst vs2) :: L Y spl2).set ((2 + (m.length + (3 + (spl2.length + ix)))) + 1) (xa, .dK (dayD ds)) = (D, .lst vs2) :: L R.sed spl2 := by
        show (D, HO.lst vs2) :: (L Y spl2).set (2 + (m.length + (3 + (spl2.length + ix)))) (xa, .dK (dayD ds)) = _
        rw [hset _ _ _ hYl, hYs]
      rw [es4] at hS4
      generalize upd H3 xa (.dK (dayD ds)) = H4 at hS4 ⊢
      ktf_call "w"
      have hqz : H4 q = some (.lst vs') := hS4.at (q := (q, .lst vs')) (by simp [L])
      ktf_call "us"
      refine we_lc g [("first", 5), ("last", 6), ("number", 7)] [false, false, true, false, false, true, true, true] [false, false, false, false, false, true, true, true] [] (by decide +kernel) (by decide) (wi_l g ?_)
      ktf_call "us"
      rw [List.filterMap_eq_map'] at hF2
      refine ⟨D, vs2, _, _, G2, rfl, by rw [List.length_map]; omega, hF2, hS4, fun q5 vs5 G5 H5 e5 hF5 hS5 => ?_⟩
      rw [joinR_days] at hF5
      have hdy := dysOf_at rok.sen hix
      refine ⟨q5, _, rfl, sql hS5.a0, ?_⟩
      have hbl : (blkR (spkS S t xn) (ds.mergeSort fun a b => decide (a ≤ b))).length ≤ 400 := Nat.le_trans (blkR_len _ _) (by rw [List.length_mergeSort]; exact hdl)
      refine ⟨Row, Box, blkR (spkS S t xn) (ds.mergeSort fun a b => decide (a ≤ b)), fun b => some (xn, b), BoxR, fun _ m' => m' = (q5, .lst vs5) :: (D, .lst vs2) :: L R.sed spl2, _, G5, fun _ _ _ _ e z => z.up e, by rw [hF5.length], (by rw [hF5.length]; exact Nat.le_trans hbl (show 400 ≤ sizeLine by decide)), hS5, rfl, ?_, ?_, ?_⟩
      · rintro j D2 m' G6 vs6 H6 hj e6 rfl hS6
        exact sql hS6.a1
      · rintro j b D2 m' G6 vs6 _ x H6 hd e6 rfl hS6 ⟨rfl, hx2⟩ Z gZ
        obtain ⟨row, hrow, hR⟩ := hF5.get' hx2
        rw [hd] at hrow
        obtain rfl := Option.some.inj hrow
        obtain ⟨t5, rfl, ht5⟩ := hR
        have ht6 := hS6.g _ _ (e6 _ _ ht5)
        ktf_call "w"
        ktf_call "us"
        refine ⟨rfl, fun Z gZ => ?_⟩
        ktf_call "t"
        refine iteT fun Z gZ => ?_
        ktf_call "us"
        refine nt_f hS6 (by show 4 ≤ sizeLine; decide) fun tt G7 H7 hS7 e7 htt => ?_
        exact ⟨_, _, G7, rfl, e7, rfl, hS7, tt, rfl, htt⟩
      · rintro D2 m' G6 vs6 H6 e6 rfl hS6 hF6
        ktf_call "us"
        rw [List.filterMap_eq_map'] at hF6
        have e16 := ((e1.trans e2).trans e5).trans e6
        refine wm_extend (hS6.at (q := (q, .lst vs')) (by simp [L])) hS6.a0 ?_ ?_
        · have h1 := hF.length
          have h2 := hF6.length
          have h3 := bxR_len (spkS S t) (dysOf R.sel) (ys.take i) fun n hn => by
            obtain ⟨x, hx, rfl⟩ := List.mem_map.mp (hperm.mem_iff.mp (List.mem_of_mem_take hn))
            obtain ⟨j, hj⟩ := List.mem_iff_getElem?.mp hx
            rw [dysOf_at rok.sen hj, List.length_mergeSort]
            have := nodup_le (rok.se _ hx).2.1 (m := rng 0 399) fun z hz => by
              have := rok.lg _ (((rok.se _ hx).2.2 z).mp hz)
              exact mem_rng.mpr ⟨this.2.1, this.2.2⟩
            rw [rng_len] at this
            exact this
          have h4 : (ys.take i).length ≤ 8 := by
            rw [List.length_take]
            have := hperm.length_eq
            rw [List.length_map] at this
            omega
          rw [h1, h2, List.length_map]
          refine Nat.le_trans (Nat.add_le_add (Nat.le_trans h3 (Nat.mul_le_mul_left 400 h4)) hbl) ?_
          decide
        ktf_call "us"
        have hS7 := hS6.setI (i := 4) (a := q) (u := .lst vs') (u' := .lst (vs' ++ vs6)) rfl rfl
        have hS8 : Hs B (L R.sed spl2 |>.set 1 (q, .lst (vs' ++ vs6))) G6 (upd H6 q (.lst (vs' ++ vs6))) := hS7.drop.drop.drop
        refine ⟨_, _, spl2, vs' ++ vs6, G6, rfl, e16, sok2, ?_, hS8⟩
        rw [List.take_add_one, hni]
        unfold bxR
        rw [List.flatMap_append]
        refine (hF.mono fun x y z => z.up ((e2.trans e5).trans e6)).append ?_
        have e9 : (some (xn, xa, ds).fst).toList.flatMap (fun n => (blkR (spkS S t n) (dysOf R.sel n)).map fun r => (n, r)) = (blkR (spkS S t xn) (ds.mergeSort fun a b => decide (a ≤ b))).map fun r => (xn, r) := by
          show ((blkR (spkS S t xn) (dysOf R.sel xn)).map fun r => (xn, r)) ++ [] = _
          rw [List.append_nil, hdy]
        exact e9 ▸ hF6
  · rintro σ' H' ⟨o2, o3, spl', vs', G', rfl, e1, sok, hF, hS'⟩
    rw [List.length_map, List.take_length] at hF
    ktf_call "us"
    refine k q vs' G' H' ys _ e1 hSeen hF ?_
    exact Hs.mid (a := (q, .lst vs') :: m) (Hs.mid (a := (q, .lst vs') :: m) hS'.drop)
end
/-! ### text D2 -/
set_option maxHeartbeats 4000000
section
open PySem PySem.Spec PyProof.Rows L2 TL
variable {B : Bs}
/-- an __init__ that lays its arguments down -/
def spInit (B : Bs) (K : Addr) (nm : List Str) : Sp := fun vs H Q _ => ∃ x dx m G us, vs = .ref x :: us ∧ us.length = nm.length ∧ Hs B ((x, .ins K dx []) :: m) G H ∧ ∀ H', Hs B ((x, .ins K dx (nm.zip us)) :: m) G H' → Q .non H'
theorem spInit_len {B : Bs} {K : Addr} {nm : List Str} : ∀ vs H Q E, spInit B K nm vs H Q E → vs.length = nm.length + 1 := fun vs H Q E ⟨x, dx, m, G, us, h, hl, _⟩ => by rw [h, ← hl] <;> rfl
theorem i_Number (E : Ev B) {K : Addr} (hc : Cls B.K K) (h0 : NoAttr B.K K "amount") : MFn B 1 "Number" "__init__" ["self", "amount"] (spInit B K ["amount"]) := by
  refine E.mt 3 rfl rfl rfl rfl (N := ["self", "amount"]) (n := 2) (gs := []) (by decide +kernel) spInit_len (by ktf_call "b2") ?_
  intro X vs H Q E1 g h
  obtain ⟨x, dx, m, G, us, rfl, hl, hS, k⟩ := h
  match us, hl with
  | [v0], _ =>
  show WSs X _ _ [some (.ref x), some v0] H
  ktf_call "us"
  refine ⟨x, K, dx, [], m, G, by ktf_call "sv", hS, hc, h0, by simp, fun H1 hS1 => ?_⟩
  ktf_call "us"
  exact k _ hS1
theorem i_OnDay (E : Ev B) {K : Addr} (hc : Cls B.K K) (h0 : NoAttr B.K K "name") (h1 : NoAttr B.K K "day") : MFn B 1 "OnDay" "__init__" ["self", "name", "day"] (spInit B K ["name", "day"]) := by
  refine E.mt 5 rfl rfl rfl rfl (N := ["self", "name", "day"]) (n := 3) (gs := []) (by decide +kernel) spInit_len (by ktf_call "b3") ?_
  intro X vs H Q E1 g h
  obtain ⟨x, dx, m, G, us, rfl, hl, hS, k⟩ := h
  match us, hl with
  | [v0, v1], _ =>
  show WSs X _ _ [some (.ref x), some v0, some v1] H
  ktf_call "us"
  refine ⟨x, K, dx, [], m, G, by ktf_call "sv", hS, hc, h0, by simp, fun H1 hS1 => ?_⟩
  ktf_call "us"
  refine ⟨x, K, dx, [("name", v0)], m, G, by ktf_call "sv", hS1, hc, h1, by simp, fun H2 hS2 => ?_⟩
  ktf_call "us"
  exact k _ hS2
theorem i_Over (E : Ev B) {K : Addr} (hc : Cls B.K K) (h0 : NoAttr B.K K "names") (h1 : NoAttr B.K K "first") (h2 : NoAttr B.K K "last") : MFn B 1 "Over" "__init__" ["self", "names", "first", "last"] (spInit B K ["names", "first", "last"]) := by
  refine E.mt 8 rfl rfl rfl rfl (N := ["self", "names", "first", "last"]) (n := 4) (gs := []) (by decide +kernel) spInit_len (by ktf_call "b4") ?_
  intro X vs H Q E1 g h
  obtain ⟨x, dx, m, G, us, rfl, hl, hS, k⟩ := h
  match us, hl with
  | [v0, v1, v2], _ =>
  show WSs X _ _ [some (.ref x), some v0, some v1, some v2] H
  ktf_call "us"
  refine ⟨x, K, dx, [], m, G, by ktf_call "sv", hS, hc, h0, by simp, fun H1 hS1 => ?_⟩
  ktf_call "us"
  refine ⟨x, K, dx, [("names", v0)], m, G, by ktf_call "sv", hS1, hc, h1, by simp, fun H2 hS2 => ?_⟩
  ktf_call "us"
  refine ⟨x, K, dx, [("names", v0), ("first", v1)], m, G, by ktf_call "sv", hS2, hc, h2, by simp, fun H3 hS3 => ?_⟩
  ktf_call "us"
  exact k _ hS3
theorem i_Since (E : Ev B) {K : Addr} (hc : Cls B.K K) (h0 : NoAttr B.K K "name") (h1 : NoAttr B.K K "amount") (h2 : NoAttr B.K K "first") (h3 : NoAttr B.K K "last") : MFn B 1 "Since" "__init__" ["self", "name", "amount", "first", "last"] (spInit B K ["name", "amount", "first", "last"]) := by
  refine E.mt 15 rfl rfl rfl rfl (N := ["self", "name", "amount", "first", "last"]) (n := 5) (gs := []) (by decide +kernel) spInit_len (by ktf_call "b5") ?_
  intro X vs H Q E1 g h
  obtain ⟨x, dx, m, G, us, rfl, hl, hS, k⟩ := h
  match us, hl with
  | [v0, v1, v2, v3], _ =>
  show WSs X _ _ [some (.ref x), some v0, some v1, some v2, some v3] H
  ktf_call "us"
  refine ⟨x, K, dx, [], m, G, by ktf_call "sv", hS, hc, h0, by simp, fun H1 hS1 => ?_⟩
  ktf_call "us"
  refine ⟨x, K, dx, [("name", v0)], m, G, by ktf_call "sv", hS1, hc, h1, by simp, fun H2 hS2 => ?_⟩
  ktf_call "us"
  refine ⟨x, K, dx, [("name", v0), ("amount", v1)], m, G, by ktf_call "sv", hS2, hc, h2, by simp, fun H3 hS3 => ?_⟩
  ktf_call "us"
  refine ⟨x, K, dx, [("name", v0), ("amount", v1), ("first", v2)], m, G, by ktf_call "sv", hS3, hc, h3, by simp, fun H4 hS4 => ?_⟩
  ktf_call "us"
  exact k _ hS4
theorem i_Part (E : Ev B) {K : Addr} (hc : Cls B.K K) (h0 : NoAttr B.K K "name") (h1 : NoAttr B.K K "other") (h2 : NoAttr B.K K "first") (h3 : NoAttr B.K K "last") : MFn B 1 "Part" "__init__" ["self", "name", "other", "first", "last"] (spInit B K ["name", "other", "first", "last"]) := by
  refine E.mt 20 rfl rfl rfl rfl (N := ["self", "name", "other", "first", "last"]) (n := 5) (gs := []) (by decide +kernel) spInit_len (by ktf_call "b5") ?_
  intro X vs H Q E1 g h
  obtain ⟨x, dx, m, G, us, rfl, hl, hS, k⟩ := h
  match us, hl with
  | [v0, v1, v2, v3], _ =>
  show WSs X _ _ [some (.ref x), some v0, some v1, some v2, some v3] H
  ktf_call "us"
  refine ⟨x, K, dx, [], m, G, by ktf_call "sv", hS, hc, h0, by simp, fun H1 hS1 => ?_⟩
  ktf_call "us"
  refine ⟨x, K, dx, [("name", v0)], m, G, by ktf_call "sv", hS1, hc, h1, by simp, fun H2 hS2 => ?_⟩
  ktf_call "us"
  refine ⟨x, K, dx, [("name", v0), ("other", v1)], m, G, by ktf_call "sv", hS2, hc, h2, by simp, fun H3 hS3 => ?_⟩
  ktf_call "us"
  refine ⟨x, K, dx, [("name", v0), ("other", v1), ("first", v2)], m, G, by ktf_call "sv", hS3, hc, h3, by simp, fun H4 hS4 => ?_⟩
  ktf_call "us"
  exact k _ hS4
theorem i_Change (E : Ev B) {K : Addr} (hc : Cls B.K K) (h0 : NoAttr B.K K "amount") (h1 : NoAttr B.K K "name") (h2 : NoAttr B.K K "first") (h3 : NoAttr B.K K "last") : MFn B 1 "Change" "__init__" ["self", "amount", "name", "first", "last"] (spInit B K ["amount", "name", "first", "last"]) := by
  refine E.mt 23 rfl rfl rfl rfl (N := ["self", "amount", "name", "first", "last"]) (n := 5) (gs := []) (by decide +kernel) spInit_len (by ktf_call "b5") ?_
  intro X vs H Q E1 g h
  obtain ⟨x, dx, m, G, us, rfl, hl, hS, k⟩ := h
  match us, hl with
  | [v0, v1, v2, v3], _ =>
  show WSs X _ _ [some (.ref x), some v0, some v1, some v2, some v3] H
  ktf_call "us"
  refine ⟨x, K, dx, [], m, G, by ktf_call "sv", hS, hc, h0, by simp, fun H1 hS1 => ?_⟩
  ktf_call "us"
  refine ⟨x, K, dx, [("amount", v0)], m, G, by ktf_call "sv", hS1, hc, h1, by simp, fun H2 hS2 => ?_⟩
  ktf_call "us"
  refine ⟨x, K, dx, [("amount", v0), ("name", v1)], m, G, by ktf_call "sv", hS2, hc, h2, by simp, fun H3 hS3 => ?_⟩
  ktf_call "us"
  refine ⟨x, K, dx, [("amount", v0), ("name", v1), ("first", v2)], m, G, by ktf_call "sv", hS3, hc, h3, by simp, fun H4 hS4 => ?_⟩
  ktf_call "us"
  exact k _ hS4
theorem i_Nested (E : Ev B) {K : Addr} (hc : Cls B.K K) (h0 : NoAttr B.K K "parts") : MFn B 1 "Nested" "__init__" ["self", "parts"] (spInit B K ["parts"]) := by
  refine E.mt 27 rfl rfl rfl rfl (N := ["self", "parts"]) (n := 2) (gs := []) (by decide +kernel) spInit_len (by ktf_call "b2") ?_
  intro X vs H Q E1 g h
  obtain ⟨x, dx, m, G, us, rfl, hl, hS, k⟩ := h
  match us, hl with
  | [v0], _ =>
  show WSs X _ _ [some (.ref x), some v0] H
  ktf_call "us"
  refine ⟨x, K, dx, [], m, G, by ktf_call "sv", hS, hc, h0, by simp, fun H1 hS1 => ?_⟩
  ktf_call "us"
  exact k _ hS1
/-- all_names -/
def pNames (B : Bs) (nd : Nd) : V → Hp → VK → Prop := fun a H Q => ∃ (m : List (Addr × HO)) (G : Hp), QO B G a nd ∧ Hs B m G H ∧ ∀ p H', Hs B ((p, .lst (nd.names.map V.str)) :: m) G H' → Q (.ref p) H'
theorem n_num (E : Ev B) (i : Int) : MFn B 1 "Question" "all_names" ["self"] (Sp1 (pNames B (.num i))) := by
  refine E.mt 0 rfl rfl rfl rfl (N := ["self"]) (n := 1) (gs := []) (by decide +kernel) len1 (by ktf_call "b1") ?_
  intro X vs H Q E1 g h
  obtain ⟨_, rfl, m, G, hq, hS, k⟩ := h
  show WSs X _ _ [some _] H
  ktf_call "us"
  exact nl_m hS (by decide) k
theorem n_ov (E : Ev B) (o : Ov) (ns : List Str) (f l : Int) (hl : ns.length ≤ 8) (hc : Cls B.K (He.ga B.K o.c)) (hn : NoAttr B.K (He.ga B.K o.c) "names") : MFn B 1 "Over" "all_names" ["self"] (Sp1 (pNames B (.ov o ns f l))) := by
  refine E.mt 9 rfl rfl rfl rfl (N := ["self"]) (n := 1) (gs := ["list"]) (by decide +kernel) len1 (by ktf_call "b1") ?_
  intro X vs H Q E1 g h
  obtain ⟨_, rfl, m, G, ⟨a, dx, p, rfl, h1, h2⟩, hS, k⟩ := h
  have ha := hS.g _ _ h1
  have hp := hS.g _ _ h2
  show WSs X _ _ [some _] H
  ktf_call "fs"
  have hz : (ns.map V.str).length ≤ sizeLine := by rw [List.length_map]; exact Nat.le_trans hl (by decide)
  exact wcl_listL g (sql hp) hz (nl_m hS hz k)
theorem n_val (E : Ev B) (n : Str) (d : Int) : MFn B 1 "OnDay" "all_names" ["self"] (Sp1 (pNames B (.val n d))) := by
  refine E.mt 6 rfl rfl rfl rfl (N := ["self"]) (n := 1) (gs := []) (by decide +kernel) len1 (by ktf_call "b1") ?_
  intro X vs H Q E1 g h
  obtain ⟨_, rfl, m, G, ⟨a, dx, rfl, h1⟩, hS, k⟩ := h
  have ha := hS.g _ _ h1
  have c1 := E.c_OnDay
  have n_name := E.na_OnDay_name
  show WSs X _ _ [some _] H
  ktf_call "fs"
  exact nl_m hS (by show 1 ≤ sizeLine; decide) k
theorem n_since (E : Ev B) (n : Str) (x f l : Int) : MFn B 1 "Since" "all_names" ["self"] (Sp1 (pNames B (.since n x f l))) := by
  refine E.mt 16 rfl rfl rfl rfl (N := ["self"]) (n := 1) (gs := []) (by decide +kernel) len1 (by ktf_call "b1") ?_
  intro X vs H Q E1 g h
  obtain ⟨_, rfl, m, G, ⟨a, dx, rfl, h1⟩, hS, k⟩ := h
  have ha := hS.g _ _ h1
  have c1 := E.c_Since
  have n_name := E.na_Since_name
  show WSs X _ _ [some _] H
  ktf_call "fs"
  exact nl_m hS (by show 1 ≤ sizeLine; decide) k
theorem n_part (E : Ev B) (n o : Str) (f l : Int) : MFn B 1 "Part" "all_names" ["self"] (Sp1 (pNames B (.part n o f l))) := by
  refine E.mt 21 rfl rfl rfl rfl (N := ["self"]) (n := 1) (gs := []) (by decide +kernel) len1 (by ktf_call "b1") ?_
  intro X vs H Q E1 g h
  obtain ⟨_, rfl, m, G, ⟨a, dx, rfl, h1⟩, hS, k⟩ := h
  have ha := hS.g _ _ h1
  have c1 := E.c_Part
  have n_name := E.na_Part_name
  have n_other := E.na_Part_other
  show WSs X _ _ [some _] H
  ktf_call "fs"
  exact nl_m hS (by show 2 ≤ sizeLine; decide) k
theorem n_chg (E : Ev B) (c : Int) (n : Str) (f l : Int) : MFn B 1 "Change" "all_names" ["self"] (Sp1 (pNames B (.chg c n f l))) := by
  refine E.mt 24 rfl rfl rfl rfl (N := ["self"]) (n := 1) (gs := []) (by decide +kernel) len1 (by ktf_call "b1") ?_
  intro X vs H Q E1 g h
  obtain ⟨_, rfl, m, G, ⟨a, dx, rfl, h1⟩, hS, k⟩ := h
  have ha := hS.g _ _ h1
  have c1 := E.c_Change
  have n_name := E.na_Change_name
  show WSs X _ _ [some _] H
  ktf_call "fs"
  exact nl_m hS (by show 1 ≤ sizeLine; decide) k
end
/-! ### text D3 -/
set_option maxHeartbeats 4000000
section
open PySem PySem.Spec PyProof.Rows L2 TL
variable {B : Bs}
def Nd.kids : Nd → List Nd
  | .two _ a b => [a, b]
  | .four _ a b c d => [a, b, c, d]
  | _ => []
theorem QO.kids {G : Hp} : ∀ {nd : Nd} {v : V}, nd.leaf = false → QO B G v nd → ∃ a dx p us, v = .ref a ∧ G a = some (.ins (He.ga B.K nd.cls) dx [("parts", .ref p)]) ∧ G p = some (.lst us) ∧ Fa (QO B G) us nd.kids
  | .two m x y, v, _, ⟨a, dx, p, u, w, h1, h2, h3, h4, h5⟩ => ⟨a, dx, p, _, h1, h2, h3, .cons h4 (.cons h5 .nil)⟩
  | .four s x y z t, v, _, ⟨a, dx, p, u1, u2, u3, u4, h1, h2, h3, h4, h5, h6, h7⟩ => ⟨a, dx, p, _, h1, h2, h3, .cons h4 (.cons h5 (.cons h6 (.cons h7 .nil)))⟩
theorem Nd.names_kids : ∀ {nd : Nd}, nd.leaf = false → nd.names = nd.kids.flatMap Nd.names
  | .two _ a b, _ => by simp [Nd.names, Nd.kids]
  | .four _ a b c d, _ => by simp [Nd.names, Nd.kids]
theorem n_nested (E : Ev B) {nd : Nd} (hl : nd.leaf = false) (hz : nd.names.length ≤ sizeLine) (j : Nat) (ih : ∀ k ∈ nd.kids, Mt B j (He.ga B.K k.cls) "all_names" (Sp1 (pNames B k)) []) (hc : Cls B.K (He.ga B.K nd.cls)) (hn : NoAttr B.K (He.ga B.K nd.cls) "parts") :
    MFn B (j + 1) "Nested" "all_names" ["self"] (Sp1 (pNames B nd)) := by
  refine E.mt 28 rfl rfl rfl rfl (N := ["self", "found", "part"]) (n := 3) (gs := []) (by decide +kernel) len1 (by ktf_call "b1") ?_
  intro X vs H Q E1 g h
  obtain ⟨_, rfl, m, G, hq, hS, k⟩ := h
  obtain ⟨a, dx, p, us, rfl, h1, h2, hF⟩ := hq.kids hl
  have ha := hS.g _ _ h1
  rw [Nd.names_kids hl] at k hz
  show WSs X _ _ [some (.ref a), none, none] H
  ktf_call "us"
  refine nl_m hS (by decide) fun q H1 hS1 => ?_
  have ha1 := hS1.g _ _ h1
  have hp1 := hS1.g _ _ h2
  ktf_call "us"
  refine wss_cons (ws_forS g (wi_l g ?_))
  ktf_call "fs"
  refine ⟨p, us, rfl, sql hp1, fun i σ' H' => (∃ o, σ' = [some (.ref a), some (.ref q), o]) ∧ Hs B ((q, .lst (((nd.kids.take i).flatMap Nd.names).map V.str)) :: m) G H', ⟨⟨_, rfl⟩, hS1⟩, fun i σ' H' _ h => sql (h.2.g _ _ h2), ?_, ?_⟩
  · rintro i x σ' H' _ hi ⟨⟨o, rfl⟩, hS'⟩ ⟨rfl, hx⟩
    obtain ⟨kd, hk, hqk⟩ := hF.get' hx
    obtain ⟨b, db, fs, rfl, hb, hfs⟩ := hqk.cls
    have hb' := hS'.g _ _ hb
    have hq' := hS'.a0
    ktf_call "us"
    refine ⟨b, _, db, fs, rfl, hb', lookup_out hfs (by decide +kernel), j, _, [], ih kd (List.mem_of_getElem? hk), Nat.le_refl _, ?_⟩
    ktf_call "us"
    refine ⟨_, G, hqk, hS', fun r H2 hS2 => ?_⟩
    ktf_call "us"
    have e : (nd.kids.take (i + 1)).flatMap Nd.names = (nd.kids.take i).flatMap Nd.names ++ kd.names := by
      rw [List.take_add_one, hk, List.flatMap_append]; simp
    have el : ((nd.kids.take (i + 1)).flatMap Nd.names).length ≤ sizeLine := by
      refine Nat.le_trans ?_ hz
      conv => rhs; rw [← List.take_append_drop (i + 1) nd.kids, List.flatMap_append, List.length_append]
      exact Nat.le_add_right _ _
    refine wm_extend hS2.a1 hS2.a0 (by rw [e] at el; simpa using el) ?_
    ktf_call "us"
    refine ⟨⟨_, rfl⟩, ?_⟩
    have := (hS2.set1 (u' := .lst (((nd.kids.take (i + 1)).flatMap Nd.names).map V.str)) rfl).drop
    rw [e] at this ⊢
    rwa [List.map_append] at this ⊢
  · rintro σ' H' ⟨⟨o, rfl⟩, hS'⟩
    ktf_call "us"
    rw [List.take_of_length_le (by rw [hF.length]; exact Nat.le_refl _)] at hS'
    exact k _ _ hS'
end
/-! ### text D4 -/
set_option maxHeartbeats 4000000
section
open PySem PySem.Spec PyProof.Rows L2 TL
variable {B : Bs}
/-! ### asked_keys -/
def pAsked (B : Bs) (nd : Nd) : V → Hp → VK → Prop := fun a H Q => ∃ (m : List (Addr × HO)) (G : Hp), QO B G a nd ∧ Hs B m G H ∧ ∀ (p : Addr) (ks : List Str) (H' : Hp), (∀ k ∈ ks, k ∈ nd.names) → Hs B ((p, .lst (ks.map V.str)) :: m) G H' → Q (.ref p) H'
theorem asked_keys (E : Ev B) (nd : Nd) (hz : nd.names.length < sizeLine) (j : Nat) (h0 : Mt B j (He.ga B.K nd.cls) "all_names" (Sp1 (pNames B nd)) []) : MFn B (j + 1) "Question" "asked_keys" ["self"] (Sp1 (pAsked B nd)) := by
  refine E.mt 1 rfl rfl rfl rfl (N := ["self", "found", "name"]) (n := 3) (gs := ["list"]) (by decide +kernel) len1 (by ktf_call "b1") ?_
  intro X vs H Q E1 g h
  obtain ⟨_, rfl, m, G, hq, hS, k⟩ := h
  obtain ⟨a, dx, fs, rfl, ha, hfs⟩ := hq.cls
  show WSs X _ _ [some (.ref a), none, none] H
  ktf_call "us"
  refine we_dK (nd_m hS fun d H1 hS1 => ?_)
  have ha1 := hS1.g _ _ ha
  ktf_call "us"
  refine wss_cons (ws_forS g (wi_l g ?_))
  ktf_call "us"
  refine ⟨a, _, dx, fs, rfl, ha1, lookup_out hfs (by decide +kernel), j, _, [], h0, Nat.le_refl _, ?_⟩
  ktf_call "us"
  refine ⟨_, G, hq, hS1, fun r H2 hS2 => ?_⟩
  refine ⟨r, _, rfl, sql hS2.a0, fun i σ' H' => ∃ o kvs, σ' = [some (.ref a), some (.ref d), o] ∧ kvs.length ≤ i ∧ (∀ p ∈ kvs, ∃ n ∈ nd.names, p.1 = .inr n) ∧ Hs B ((r, .lst (nd.names.map V.str)) :: (d, .dK kvs) :: m) G H', ⟨_, [], rfl, Nat.zero_le _, by simp, hS2⟩, fun i σ' H' _ ⟨_, _, _, _, _, h⟩ => sql h.a0, ?_, ?_⟩
  · rintro i x σ' H' _ hi ⟨o, kvs, rfl, hl, hk, hS'⟩ ⟨rfl, hx⟩
    rw [List.getElem?_map] at hx
    obtain ⟨n, hn, rfl⟩ := Option.map_eq_some_iff.mp hx
    ktf_call "us"
    rw [List.length_map] at hi
    refine wst_d g (DPut.k (k := .inr n) hS'.a1 (by omega)) ?_
    ktf_call "us"
    refine ⟨_, _, rfl, Nat.le_trans (length_putK _ _ _) (by omega), fun p hp => ?_, hS'.set1 rfl⟩
    rcases mem_putK hp with e | e
    · exact ⟨n, List.mem_of_getElem? hn, e⟩
    · exact hk p e
  · rintro σ' H' ⟨o, kvs, rfl, hl, hk, hS'⟩
    rw [List.length_map] at hl
    ktf_call "us"
    have hS2 := hS'.drop
    refine wcl_listD g hS2.a0 ?_
    have e : ∃ ks : List Str, (kvs.map fun kv => kV kv.1) = ks.map V.str ∧ ∀ k ∈ ks, k ∈ nd.names := by
      refine ⟨kvs.map fun kv => match kv.1 with | .inr n => n | _ => "", ?_, fun z hz => ?_⟩
      · rw [List.map_map]
        refine List.map_congr_left fun p hp => ?_
        obtain ⟨n, _, e⟩ := hk p hp
        rw [Function.comp_apply, e]; rfl
      · obtain ⟨p, hp, rfl⟩ := List.mem_map.mp hz
        obtain ⟨n, hn, e⟩ := hk p hp
        rw [e]; exact hn
    obtain ⟨ks, e1, e2⟩ := e
    rw [e1]
    intro q hq
    exact k q ks _ e2 ((hS2.new hq rfl).swap.drop)
/-! ### outcomes -/
def pOut (B : Bs) (o : Ov) : V → V → Hp → VK → Prop := fun a b H Q => ∃ (m : List (Addr × HO)) (G : Hp) (q : Addr) (ns : List Int), b = .ref q ∧ Hs B m G H ∧ SqL B.K H q (ns.map V.int) ∧ ∀ H', Hs B m G H' → Q (oV (ovOut o ns)) H'
theorem out_sum (E : Ev B) : MFn B 1 "Sum" "outcome" ["self", "amounts"] (Sp2 (pOut B .sum)) := by
  refine E.mt 11 rfl rfl rfl rfl (N := ["self", "amounts"]) (n := 2) (gs := ["sum"]) (by decide +kernel) len2 (by ktf_call "b2") ?_
  intro X vs H Q E1 g h
  obtain ⟨a, _, rfl, m, G, q, ns, rfl, hS, hq, k⟩ := h
  show WSs X _ _ [some a, some (.ref q)] H
  ktf_call "us"
  exact wcl_sum g hq (k H hS)
theorem out_count (E : Ev B) : MFn B 1 "Count" "outcome" ["self", "amounts"] (Sp2 (pOut B .count)) := by
  refine E.mt 12 rfl rfl rfl rfl (N := ["self", "amounts"]) (n := 2) (gs := ["len"]) (by decide +kernel) len2 (by ktf_call "b2") ?_
  intro X vs H Q E1 g h
  obtain ⟨a, _, rfl, m, G, q, ns, rfl, hS, hq, k⟩ := h
  show WSs X _ _ [some a, some (.ref q)] H
  ktf_call "us"
  refine wcl_lenL g hq ?_
  rw [List.length_map]
  exact k H hS
theorem out_least (E : Ev B) : MFn B 1 "Least" "outcome" ["self", "amounts"] (Sp2 (pOut B .least)) := by
  refine E.mt 13 rfl rfl rfl rfl (N := ["self", "amounts"]) (n := 2) (gs := ["min"]) (by decide +kernel) len2 (by ktf_call "b2") ?_
  intro X vs H Q E1 g h
  obtain ⟨a, _, rfl, m, G, q, ns, rfl, hS, hq, k⟩ := h
  show WSs X _ _ [some a, some (.ref q)] H
  ktf_call "i"
  ktf_call "us"
  refine ⟨Nat.zero_le _, fun p hp => ?_⟩
  have hS1 := hS.new (u := .lst []) hp rfl
  have hq1 : SqL B.K (upd H p (.lst [])) q (ns.map V.int) := by
    refine L2.Same.seq (fun b o e => ?_) hq
    rw [upd_ne (ne_of_none e hp)]; exact e
  refine wc_eqNil g hq1 (dpa_ints ns) (shaped_ints ns) (sql hS1.a0) ?_
  ktf_call "us"
  cases ns with
  | nil =>
    refine iteBT rfl ?_
    ktf_call "us"
    exact k _ hS1.drop
  | cons n0 ns =>
    refine iteBF rfl ?_
    ktf_call "us"
    refine wcl_min g hq1 (by simp) fun r h1 h2 => ?_
    have := k _ hS1.drop
    rw [show ovOut .least (n0 :: ns) = some r from min?_of h1 h2] at this
    exact this
theorem out_greatest (E : Ev B) : MFn B 1 "Greatest" "outcome" ["self", "amounts"] (Sp2 (pOut B .greatest)) := by
  refine E.mt 14 rfl rfl rfl rfl (N := ["self", "amounts"]) (n := 2) (gs := ["max"]) (by decide +kernel) len2 (by ktf_call "b2") ?_
  intro X vs H Q E1 g h
  obtain ⟨a, _, rfl, m, G, q, ns, rfl, hS, hq, k⟩ := h
  show WSs X _ _ [some a, some (.ref q)] H
  ktf_call "i"
  ktf_call "us"
  refine ⟨Nat.zero_le _, fun p hp => ?_⟩
  have hS1 := hS.new (u := .lst []) hp rfl
  have hq1 : SqL B.K (upd H p (.lst [])) q (ns.map V.int) := by
    refine L2.Same.seq (fun b o e => ?_) hq
    rw [upd_ne (ne_of_none e hp)]; exact e
  refine wc_eqNil g hq1 (dpa_ints ns) (shaped_ints ns) (sql hS1.a0) ?_
  ktf_call "us"
  cases ns with
  | nil =>
    refine iteBT rfl ?_
    ktf_call "us"
    exact k _ hS1.drop
  | cons n0 ns =>
    refine iteBF rfl ?_
    ktf_call "us"
    refine wcl_max g hq1 (by simp) fun r h1 h2 => ?_
    have := k _ hS1.drop
    rw [show ovOut .greatest (n0 :: ns) = some r from max?_of h1 h2] at this
    exact this
end
/-! ### text D5 -/
set_option maxHeartbeats 4000000
section
open PySem PySem.Spec PyProof.Rows L2 TL
variable {B : Bs}
def twoM (m : Bool) (x y : Option Int) : Option Int := match x, y with
  | some x, some y => some (if m then x - y else x + y)
  | _, _ => none
def thirdM (s : Bool) (x y : Option Int) : Bool := if s then decide (x = y) else match x, y with
  | some x, some y => decide (x < y)
  | _, _ => false
def pTwo (m : Bool) : V → V → V → Hp → VK → Prop := fun a b c H Q => ∃ x y, b = oV x ∧ c = oV y ∧ Q (oV (twoM m x y)) H
theorem out_plus (E : Ev B) : MFn B 1 "Plus" "outcome" ["self", "one", "other"] (Sp3 (pTwo false)) := by
  refine E.mt 31 rfl rfl rfl rfl (N := ["self", "one", "other"]) (n := 3) (gs := []) (by decide +kernel) len3 (by ktf_call "b3") ?_
  intro X vs H Q E1 g h
  obtain ⟨a, _, _, rfl, x, y, rfl, rfl, k⟩ := h
  show WSs X _ _ [some a, some (oV x), some (oV y)] H
  cases x <;> cases y <;> (ktf_call "i"; unfold oV; ktf_call "us"; exact k)
theorem out_minus (E : Ev B) : MFn B 1 "Minus" "outcome" ["self", "one", "other"] (Sp3 (pTwo true)) := by
  refine E.mt 32 rfl rfl rfl rfl (N := ["self", "one", "other"]) (n := 3) (gs := []) (by decide +kernel) len3 (by ktf_call "b3") ?_
  intro X vs H Q E1 g h
  obtain ⟨a, _, _, rfl, x, y, rfl, rfl, k⟩ := h
  show WSs X _ _ [some a, some (oV x), some (oV y)] H
  cases x <;> cases y <;> (ktf_call "i"; unfold oV; ktf_call "us"; exact k)
def pThird (s : Bool) : V → V → V → Hp → VK → Prop := fun a b c H Q => ∃ x y, b = oV x ∧ c = oV y ∧ Q (.bl (thirdM s x y)) H
theorem ch_less (E : Ev B) : MFn B 1 "Less" "chooses_third" ["self", "one", "other"] (Sp3 (pThird false)) := by
  refine E.mt 35 rfl rfl rfl rfl (N := ["self", "one", "other"]) (n := 3) (gs := []) (by decide +kernel) len3 (by ktf_call "b3") ?_
  intro X vs H Q E1 g h
  obtain ⟨a, _, _, rfl, x, y, rfl, rfl, k⟩ := h
  show WSs X _ _ [some a, some (oV x), some (oV y)] H
  cases x <;> cases y <;> (unfold oV; ktf_call "us"; exact k)
theorem ch_same (E : Ev B) : MFn B 1 "Same" "chooses_third" ["self", "one", "other"] (Sp3 (pThird true)) := by
  refine E.mt 36 rfl rfl rfl rfl (N := ["self", "one", "other"]) (n := 3) (gs := []) (by decide +kernel) len3 (by ktf_call "b3") ?_
  intro X vs H Q E1 g h
  obtain ⟨a, _, _, rfl, x, y, rfl, rfl, k⟩ := h
  show WSs X _ _ [some a, some (oV x), some (oV y)] H
  ktf_call "us"
  refine wc_eq (oV_scal x y) ?_
  have e : decide (oV x = oV y) = thirdM true x y := by simp [thirdM, oV_inj]
  rw [e]; exact k
/-! ### plain -/
def Nd.exact : Nd → Bool
  | .num _ => true | .val .. => true | .ov .. => true | .part .. => true | _ => false
/-- the receiver, what tells, where it stands -/
structure Ask (B : Bs) (nd : Nd) (a b : V) (T : Tl B) (log : Log) (pts m : List (Addr × HO)) (G H : Hp) : Prop where
  q : QO B G a nd
  b : b = .ref T.f
  nm : ∀ n ∈ nd.names, n ∈ T.keys
  s : Same T.G0 G
  p : T.P log pts
  h : Hs B (m ++ pts) G H
def pPlain (B : Bs) (nd : Nd) : V → V → Hp → VK → Prop := fun a b H Q => ∃ (T : Tl B) (log : Log) (pts m : List (Addr × HO)) (G : Hp), Ask B nd a b T log pts m G H ∧
  ∀ log' pts' H', T.P log' pts' → (nd.exact = true → ∀ p, p ∈ log' ↔ p ∈ log ∨ p ∈ daysM T.tell nd) → Hs B (m ++ pts') G H' → Q (oV (evalM T.tell nd)) H'
def pRead (B : Bs) (nd : Nd) : V → V → Hp → VK → Prop := fun a b H Q => ∃ (T : Tl B) (log : Log) (pts m : List (Addr × HO)) (G : Hp), Ask B nd a b T log pts m G H ∧
  ∀ log' pts' H', T.P log' pts' → (∀ p, p ∈ log' ↔ p ∈ log ∨ p ∈ daysM T.tell nd) → Hs B (m ++ pts') G H' → Q (oV (evalM T.tell nd)) H'
theorem pl_num (E : Ev B) (i : Int) : MFn B 7 "Number" "plain" ["self", "told"] (Sp2 (pPlain B (.num i))) := by
  refine E.mt 4 rfl rfl rfl rfl (N := ["self", "told"]) (n := 2) (gs := []) (by decide +kernel) len2 (by ktf_call "b2") ?_
  intro X vs H Q E1 g h
  obtain ⟨_, _, rfl, T, log, pts, m, G, ⟨⟨a, dx, rfl, h1⟩, rfl, hn, hG, hP, hS⟩, k⟩ := h
  have ha := hS.g _ _ h1
  have c1 := E.c_Number
  have n1 := E.na_Number_amount
  show WSs X _ _ [some _, some _] H
  ktf_call "fs"
  exact k log pts H hP (fun _ p => by simp [daysM]) hS
theorem pl_val (E : Ev B) (n : Str) (d : Int) (hb : 0 ≤ d ∧ d ≤ 399) : MFn B 7 "OnDay" "plain" ["self", "told"] (Sp2 (pPlain B (.val n d))) := by
  refine E.mt 7 rfl rfl rfl rfl (N := ["self", "told"]) (n := 2) (gs := []) (by decide +kernel) len2 (by ktf_call "b2") ?_
  intro X vs H Q E1 g h
  obtain ⟨_, _, rfl, T, log, pts, m, G, ⟨⟨a, dx, rfl, h1⟩, rfl, hn, hG, hP, hS⟩, k⟩ := h
  have ha := hS.g _ _ h1
  have c1 := E.c_OnDay
  have n1 := E.na_OnDay_name
  have n2 := E.na_OnDay_day
  show WSs X _ _ [some _, some _] H
  ktf_call "s"
  ktf_call "s"
  refine we_told g T.ok (Nat.le_refl _) n d (hn n (by simp [Nd.names])) (by omega) hP hG hS (by ktf_call "sv") ?_ ?_ fun pts' H' hP' hS' => ?_
  · ktf_call "fs"; exact ⟨rfl, rfl⟩
  · ktf_call "fs"; exact ⟨rfl, rfl⟩
  · exact k _ _ _ hP' (fun _ p => by simp [daysM]) hS'
def pEnough (B : Bs) (n : Str) (x f l : Int) : V → V → V → Hp → VK → Prop := fun a b c H Q => ∃ (T : Tl B) (log : Log) (pts m : List (Addr × HO)) (G : Hp) (d : Int), c = .int d ∧ (0 ≤ d ∧ d ≤ 399) ∧ Ask B (.since n x f l) a b T log pts m G H ∧
  ∀ pts' H', T.P (log ++ [(n, d)]) pts' → Hs B (m ++ pts') G H' → Q (.bl (isGood (T.tell n d) x)) H'
theorem is_enough (E : Ev B) (n : Str) (x f l : Int) : MFn B 7 "Since" "is_enough" ["self", "told", "day"] (Sp3 (pEnough B n x f l)) := by
  refine E.mt 17 rfl rfl rfl rfl (N := ["self", "told", "day", "amount"]) (n := 4) (gs := []) (by decide +kernel) len3 (by ktf_call "b3") ?_
  intro X vs H Q E1 g h
  obtain ⟨_, _, _, rfl, T, log, pts, m, G, d, rfl, hb, ⟨⟨a, dx, rfl, h1⟩, rfl, hn, hG, hP, hS⟩, k⟩ := h
  have ha := hS.g _ _ h1
  have c1 := E.c_Since
  have n1 := E.na_Since_name
  have n2 := E.na_Since_amount
  show WSs X _ _ [some _, some _, some _, none] H
  ktf_call "s"
  ktf_call "s"
  refine we_told g T.ok (Nat.le_refl _) n d (hn n (by simp [Nd.names])) (by omega) hP hG hS (by ktf_call "sv") ?_ (by ktf_call "sv") fun pts' H' hP' hS' => ?_
  · ktf_call "fs"; exact ⟨rfl, rfl⟩
  · have ha' := hS'.g _ _ h1
    have := k _ _ hP' hS'
    cases ht : T.tell n d with
    | none =>
      rw [ht] at this
      unfold oV
      ktf_call "us"
      exact this
    | some z =>
      rw [ht] at this
      unfold oV
      ktf_call "fs"
      exact this
end
/-! ### text D6 -/
set_option maxHeartbeats 4000000
section
open PySem PySem.Spec PyProof.Rows L2 TL
variable {B : Bs}
theorem pl_ov (E : Ev B) (o : Ov) (ns : List Str) (f l : Int) (hb : 0 ≤ f ∧ f ≤ l ∧ l ≤ 399) (hns : ns.length ≤ 8) (hc : Cls B.K (He.ga B.K o.c)) (n1 : NoAttr B.K (He.ga B.K o.c) "names") (n2 : NoAttr B.K (He.ga B.K o.c) "first") (n3 : NoAttr B.K (He.ga B.K o.c) "last")
    (ho : Mt B 1 (He.ga B.K o.c) "outcome" (Sp2 (pOut B o)) []) : MFn B 7 "Over" "plain" ["self", "told"] (Sp2 (pPlain B (.ov o ns f l))) := by
  refine E.mt 10 rfl rfl rfl rfl (N := ["self", "told", "amounts", "name", "some", "day", "amount"]) (n := 5) (gs := ["range"]) (by decide +kernel) len2 (by ktf_call "b2") ?_
  intro X vs H Q E1 g h
  obtain ⟨_, _, rfl, T, log, pts, m, G, ⟨⟨a, dx, p, rfl, h1, h2⟩, rfl, hn, hG, hP, hS⟩, k⟩ := h
  have hlen : (rng f l).length ≤ sizeLine := by rw [rng_len]; exact Nat.le_trans (by omega : (l + 1 - f).toNat ≤ 400) (by decide)
  have ha := hS.g _ _ h1
  show WSs X _ _ [some (.ref a), some (.ref T.f), none, none, none, none, none] H
  ktf_call "us"
  refine nl_m hS (by decide) fun q H1 hS1 => ?_
  have ha1 := hS1.g _ _ h1
  have hp1 := hS1.g _ _ h2
  ktf_call "us"
  refine wss_cons (ws_forS g (wi_l g ?_))
  ktf_call "fs"
  refine ⟨p, _, rfl, sql hp1, fun i σ' H' => ∃ o3 o4 pts', σ' = [some (.ref a), some (.ref T.f), some (.ref q), o3, o4, none, none] ∧ T.P (log ++ (ns.take i).flatMap fun n => dys n f l) pts' ∧
    Hs B (((q, .lst (((ns.take i).flatMap fun n => (rng f l).filterMap (T.tell n)).map V.int)) :: m) ++ pts') G H', ⟨_, _, pts, rfl, by simpa using hP, hS1⟩, fun i σ' H' _ ⟨_, _, _, _, _, h⟩ => sql (h.g _ _ h2), ?_, ?_⟩
  · rintro i x σ' H' _ hi ⟨o3, o4, pts', rfl, hP', hS'⟩ ⟨rfl, hx⟩
    rw [List.getElem?_map] at hx
    obtain ⟨n, hni, rfl⟩ := Option.map_eq_some_iff.mp hx
    have ha' := hS'.g _ _ h1
    have hlenI : ((((ns.take i).flatMap fun n => (rng f l).filterMap (T.tell n)).map V.int)).length + (l + 1 - f).toNat ≤ 4000 := by
      have key : ∀ ms : List Str, (ms.flatMap fun n => (rng f l).filterMap (T.tell n)).length ≤ ms.length * 400 := by
        intro ms
        induction ms with
        | nil => simp
        | cons z zs ih =>
          rw [List.flatMap_cons, List.length_append, List.length_cons]
          have := List.length_filterMap_le (T.tell z) (rng f l)
          rw [rng_len] at this
          have : (l + 1 - f).toNat ≤ 400 := by omega
          omega
      have := key (ns.take i)
      have h8 : (ns.take i).length ≤ 8 := Nat.le_trans (List.length_take_le ..) (Nat.le_trans (by rw [List.length_map] at hi; omega) hns)
      rw [List.length_map]
      have : (l + 1 - f).toNat ≤ 400 := by omega
      omega
    ktf_call "s"
    refine wss_cons (ws_lcL g 4 [("day", 5)] [false, true, false, true, false, true, false] [false, false, false, false, false, true, false] [] rfl (by decide +kernel) (by decide) rfl (wi_r2 g (by ktf_call "gm") E.f_range ?_))
    ktf_call "fs"
    refine ⟨f, l + 1, rfl, rfl, by omega, ?_⟩
    refine lcb_m (G := G) (m := ((q, .lst (((ns.take i).flatMap fun n => (rng f l).filterMap (T.tell n)).map V.int)) :: m) ++ pts') (rng f l) (fun d => some (T.tell n d)) oV (fun j m' => ∃ pts', m' = ((q, .lst (((ns.take i).flatMap fun n => (rng f l).filterMap (T.tell n)).map V.int)) :: m) ++ pts' ∧ T.P ((log ++ (ns.take i).flatMap fun n => dys n f l) ++ (dys n f l).take j) pts') hS' ⟨pts', rfl, by simpa using hP'⟩ (rng_len f l) (by rw [← rng_len]; exact hlen) (fun _ _ _ _ _ _ _ _ => True.intro) ?_ ?_
    · rintro j s D m' G' vs H' x H'' hs e1 ⟨pts2, rfl, hP2⟩ hS2 ⟨rfl, rfl⟩ Z gZ
      have hj : j < (l + 1 - f).toNat := by rw [← rng_len]; exact (List.getElem?_eq_some_iff.mp hs).1
      have hs' := hs
      rw [rng_get hj] at hs'
      have es := Option.some.inj hs'
      ktf_call "w"
      ktf_call "us"
      refine ⟨rfl, fun Z gZ => ?_⟩
      ktf_call "t"
      refine iteT fun Z gZ => ?_
      refine we_told (m := (D, .lst vs) :: (q, .lst (((ns.take i).flatMap fun n => (rng f l).filterMap (T.tell n)).map V.int)) :: m) gZ T.ok (Nat.le_refl _) n (f + j * 1) (hn n (by simp [Nd.names]; exact List.mem_of_getElem? hni)) (by omega) hP2 (hG.trans e1) hS2 (by ktf_call "sv") (by ktf_call "sv") (by ktf_call "sv") fun pts3 H3 hP3 hS3 => ?_
      rw [Int.mul_one, es] at hP3 ⊢
      refine ⟨_, _, rfl, rfl, ⟨pts3, rfl, ?_⟩, hS3⟩
      have : (dys n f l).take (j + 1) = (dys n f l).take j ++ [(n, s)] := by
        rw [List.take_add_one]
        unfold dys
        rw [List.getElem?_map, hs]; rfl
      rw [this, ← List.append_assoc]
      exact hP3
    · rintro D m' H2 ⟨pts2, rfl, hP2⟩ hS2
      have et : (dys n f l).take (l + 1 - f).toNat = dys n f l := List.take_of_length_le (by unfold dys; rw [List.length_map, rng_len]; exact Nat.le_refl _)
      rw [et] at hP2
      ktf_call "w"
      have hq2 := hS2.a1
      have hD2 := hS2.a0
      ktf_call "us"
      refine we_lc g [("amount", 6)] [false, false, false, false, false, false, true] [false, false, false, false, false, false, true] [] (by decide +kernel) (by decide) (wi_l g ?_)
      ktf_call "us"
      refine ⟨D, _, rfl, sql hD2, ?_⟩
      refine lcb_v (((rng f l).map (T.tell n))) (fun t => t.map V.int) hS2 (by simp) (by simpa using hlen) (fun D' G' vs H' e1 h => sql h.a1) ?_ ?_
      · rintro j s D' G' vs H' x H'' hs e1 hS3 ⟨rfl, hx⟩ Z gZ
        have ex : x = oV s := by
          rw [List.getElem?_map] at hx hs
          obtain ⟨d, hd, rfl⟩ := Option.map_eq_some_iff.mp hs
          simp [hd] at hx
          exact hx.symm
        subst ex
        ktf_call "w"
        ktf_call "us"
        refine ⟨rfl, fun Z gZ => ?_⟩
        cases s with
        | none =>
          unfold oV
          ktf_call "us"
          exact ⟨rfl, G', Same.refl _, hS3⟩
        | some z =>
          unfold oV
          ktf_call "us"
          exact ⟨rfl, G', Same.refl _, hS3⟩
      · intro D' G' H3 e1 hS3
        ktf_call "us"
        have el : (((rng f l).map (T.tell n)).filterMap fun t => t.map V.int) = ((rng f l).filterMap (T.tell n)).map V.int := by
          rw [List.filterMap_map, List.map_filterMap]; rfl
        rw [el] at hS3
        refine wm_extend hS3.a2 hS3.a0 ?_ ?_
        · have := List.length_filterMap_le (T.tell n) (rng f l)
          rw [rng_len] at this
          simp only [List.length_map] at hlenI ⊢
          exact Nat.le_trans (Nat.le_trans (by omega) hlenI) (by decide)
        ktf_call "us"
        have hS4 := ((hS3.base e1).set2 (u' := .lst ((((ns.take i).flatMap fun n => (rng f l).filterMap (T.tell n)).map V.int) ++ ((rng f l).filterMap (T.tell n)).map V.int)) rfl).drop.drop
        refine ⟨_, _, pts2, rfl, ?_, ?_⟩
        · rw [List.take_add_one, hni, List.flatMap_append, ← List.append_assoc]
          simpa using hP2
        · have : ((ns.take (i + 1)).flatMap fun n => (rng f l).filterMap (T.tell n)).map V.int = (((ns.take i).flatMap fun n => (rng f l).filterMap (T.tell n)).map V.int) ++ ((rng f l).filterMap (T.tell n)).map V.int := by
            rw [List.take_add_one, hni, List.flatMap_append, List.map_append]; simp
          rw [this]
          exact hS4
  · rintro σ' H' ⟨o3, o4, pts', rfl, hP', hS'⟩
    rw [List.length_map, List.take_length] at hP' hS'
    have ha' := hS'.g _ _ h1
    ktf_call "us"
    refine ⟨a, _, dx, _, rfl, ha', by rfl, 1, _, [], ho, by decide, ?_⟩
    ktf_call "us"
    refine ⟨_, G, q, _, rfl, hS', sql hS'.a0, fun H2 hS2 => ?_⟩
    refine k _ pts' H2 hP' (fun _ p => ?_) hS2.drop
    rw [List.mem_append]; rfl
end
/-! ### text D7 -/
set_option maxHeartbeats 4000000
section
open PySem PySem.Spec PyProof.Rows L2 TL
variable {B : Bs}
theorem yR1 {lo : Int} {i : Nat} {x : V} (h : x = .int (lo + i * 1)) : x = .int (lo + i) := by rw [h, Int.mul_one]
theorem pl_since (E : Ev B) (n : Str) (x f l : Int) (hb : 0 ≤ f ∧ f ≤ l ∧ l ≤ 399) : MFn B 8 "Since" "plain" ["self", "told"] (Sp2 (pPlain B (.since n x f l))) := by
  have M := (is_enough E n x f l).mt E.c_Since E.m_Since_is_enough
  refine E.mt 18 rfl rfl rfl rfl (N := ["self", "told", "found", "day"]) (n := 4) (gs := ["range"]) (by decide +kernel) len2 (by ktf_call "b2") ?_
  intro X vs H Q E1 g h
  obtain ⟨_, _, rfl, T, log, pts, m, G, ⟨⟨a, dx, rfl, h1⟩, rfl, hn, hG, hP, hS⟩, k⟩ := h
  have ha := hS.g _ _ h1
  have c1 := E.c_Since
  have n1 := E.na_Since_first
  have n2 := E.na_Since_last
  show WSs X _ _ [some (.ref a), some (.ref T.f), none, none] H
  ktf_call "us"
  refine wss_cons (ws_forS g (wi_r2 g (by ktf_call "gm") E.f_range ?_))
  ktf_call "fs"
  refine ⟨f, l + 1, rfl, rfl, by omega, fun i σ' H' => ∃ o3 log' pts', σ' = [some (.ref a), some (.ref T.f), some (oV (plainF (fun d => isGood (T.tell n d) x) f i)), o3] ∧ T.P log' pts' ∧ Hs B (m ++ pts') G H', ⟨_, log, pts, rfl, hP, hS⟩, fun _ _ _ _ _ => True.intro, ?_, ?_⟩
  · rintro i y σ' H' _ hi ⟨o3, log', pts', rfl, hP', hS'⟩ ⟨rfl, hy⟩
    obtain rfl := yR1 hy
    have ha' := hS'.g _ _ h1
    ktf_call "us"
    ktf_call "i"
    ktf_call "us"
    refine ⟨a, _, dx, _, rfl, ha', by rfl, 7, _, [], M, by decide, ?_⟩
    ktf_call "us"
    refine ⟨T, log', pts', m, G, f + (i : Nat), rfl, by omega, ⟨⟨a, dx, rfl, h1⟩, rfl, hn, hG, hP', hS'⟩, fun pts2 H2 hP2 hS2 => ?_⟩
    ktf_call "us"
    cases hg : isGood (T.tell n (f + (i : Nat))) x with
    | false =>
      ktf_call "us"
      refine ⟨some (.int (f + (i : Nat))), _, pts2, ?_, hP2, hS2⟩
      rw [show plainF (fun d => isGood (T.tell n d) x) f (i + 1) = none from by unfold plainF; rw [hg]; rfl]
      rfl
    | true =>
      ktf_call "o"
      have e : plainF (fun d => isGood (T.tell n d) x) f (i + 1) = some ((plainF (fun d => isGood (T.tell n d) x) f i).getD (f + (i : Nat))) := by
        conv => lhs; unfold plainF
        rw [hg]; rfl
      cases hF : plainF (fun d => isGood (T.tell n d) x) f i with
      | none =>
        unfold oV
        ktf_call "i"
        ktf_call "us"
        refine ⟨some (.int (f + (i : Nat))), _, pts2, ?_, hP2, hS2⟩
        rw [e, hF]; rfl
      | some s =>
        unfold oV
        ktf_call "i"
        ktf_call "us"
        refine ⟨some (.int (f + (i : Nat))), _, pts2, ?_, hP2, hS2⟩
        rw [e, hF]; rfl
  · rintro σ' H' ⟨o3, log', pts', rfl, hP', hS'⟩
    ktf_call "us"
    rw [plainF_end _ (by omega)]
    exact k log' pts' H' hP' (fun e => by cases e) hS'
theorem pl_part (E : Ev B) (n o : Str) (f l : Int) (hb : 0 ≤ f ∧ f ≤ l ∧ l ≤ 399) : MFn B 7 "Part" "plain" ["self", "told"] (Sp2 (pPlain B (.part n o f l))) := by
  refine E.mt 22 rfl rfl rfl rfl (N := ["self", "told", "unlike", "day"]) (n := 4) (gs := ["range"]) (by decide +kernel) len2 (by ktf_call "b2") ?_
  intro X vs H Q E1 g h
  obtain ⟨_, _, rfl, T, log, pts, m, G, ⟨⟨a, dx, rfl, h1⟩, rfl, hn, hG, hP, hS⟩, k⟩ := h
  have ha := hS.g _ _ h1
  have c1 := E.c_Part
  have n1 := E.na_Part_first
  have n2 := E.na_Part_last
  have n3 := E.na_Part_name
  have n4 := E.na_Part_other
  show WSs X _ _ [some (.ref a), some (.ref T.f), none, none] H
  ktf_call "us"
  refine wss_cons (ws_forS g (wi_r2 g (by ktf_call "gm") E.f_range ?_))
  ktf_call "fs"
  refine ⟨f, l + 1, rfl, rfl, by omega, fun i σ' H' => ∃ o3 log' pts', σ' = [some (.ref a), some (.ref T.f), some (.int ((((rng f l).take i).filter fun d => decide (T.tell n d ≠ T.tell o d)).length : Nat)), o3] ∧ T.P log' pts' ∧ (∀ p, p ∈ log' ↔ p ∈ log ∨ ((p.1 = n ∨ p.1 = o) ∧ f ≤ p.2 ∧ p.2 < f + i)) ∧ Hs B (m ++ pts') G H', ⟨_, log, pts, rfl, hP, fun p => by simp; omega, hS⟩, fun _ _ _ _ _ => True.intro, ?_, ?_⟩
  · rintro i y σ' H' _ hi ⟨o3, log', pts', rfl, hP', hl', hS'⟩ ⟨rfl, hy⟩
    obtain rfl := yR1 hy
    have ha' := hS'.g _ _ h1
    ktf_call "us"
    refine wss_one (ws_if (wt_cmp ?_))
    refine we_told g T.ok (Nat.le_refl _) n (f + (i : Nat)) (hn n (by simp [Nd.names])) (by omega) hP' hG hS' (by ktf_call "sv") (by ktf_call "fs"; exact ⟨rfl, rfl⟩) (by ktf_call "sv") fun pts2 H2 hP2 hS2 => ?_
    have ha2 := hS2.g _ _ h1
    refine we_told g T.ok (Nat.le_refl _) o (f + (i : Nat)) (hn o (by simp [Nd.names])) (by omega) hP2 hG hS2 (by ktf_call "sv") (by ktf_call "fs"; exact ⟨rfl, rfl⟩) (by ktf_call "sv") fun pts3 H3 hP3 hS3 => ?_
    refine wc_ne (oV_scal _ _) ⟨_, rfl, ?_⟩
    have hr : (rng f l)[i]? = some (f + (i : Nat)) := rng_get (by omega)
    have hl3 : ∀ p, p ∈ log' ++ [(n, f + (i : Nat))] ++ [(o, f + (i : Nat))] ↔ p ∈ log ∨ ((p.1 = n ∨ p.1 = o) ∧ f ≤ p.2 ∧ p.2 < f + ((i + 1 : Nat) : Int)) := by
      rintro ⟨p1, p2⟩
      rw [List.mem_append, List.mem_append, hl']
      simp only [List.mem_singleton, Prod.mk.injEq]
      constructor
      · rintro (((h | ⟨h1, h2⟩) | h) | h)
        · exact .inl h
        · exact .inr ⟨h1, by omega⟩
        · exact .inr ⟨.inl h.1, by omega, by omega⟩
        · exact .inr ⟨.inr h.1, by omega, by omega⟩
      · rintro (h | ⟨h1, h2, h3⟩)
        · exact .inl (.inl (.inl h))
        · by_cases hp : p2 = f + (i : Nat)
          · rcases h1 with e | e
            · exact .inl (.inr ⟨e, hp⟩)
            · exact .inr ⟨e, hp⟩
          · exact .inl (.inl (.inr ⟨h1, h2, by omega⟩))
    by_cases e : T.tell n (f + (i : Nat)) = T.tell o (f + (i : Nat))
    · rw [e]
      refine iteNDF rfl ?_
      ktf_call "us"
      refine ⟨some (.int (f + (i : Nat))), _, pts3, ?_, hP3, hl3, hS3⟩
      rw [List.take_add_one, hr, List.filter_append]
      simp [e]
    · refine iteNDT (fun z => e (oV_inj.mp z)) ?_
      ktf_call "us"
      refine ⟨some (.int (f + (i : Nat))), _, pts3, ?_, hP3, hl3, hS3⟩
      rw [List.take_add_one, hr, List.filter_append]
      simp [e]
  · rintro σ' H' ⟨o3, log', pts', rfl, hP', hl', hS'⟩
    rw [List.take_of_length_le (by rw [rng_len]; exact Nat.le_refl _)]
    ktf_call "us"
    refine k log' pts' H' hP' (fun _ p => ?_) hS'
    rw [hl']
    unfold daysM
    rw [List.mem_append, mem_dys, mem_dys]
    have e : f + (((l + 1 - f).toNat : Nat) : Int) = l + 1 := by omega
    rw [e]
    constructor
    · rintro (h | ⟨h | h, h2⟩)
      · exact .inl h
      · exact .inr (.inl ⟨h, by omega⟩)
      · exact .inr (.inr ⟨h, by omega⟩)
    · rintro (h | h | h)
      · exact .inl h
      · exact .inr ⟨.inl h.1, by omega⟩
      · exact .inr ⟨.inr h.1, by omega⟩
end
/-! ### text D8 -/
set_option maxHeartbeats 4000000
section
open PySem PySem.Spec PyProof.Rows L2 TL
variable {B : Bs}
theorem pl_chg (E : Ev B) (c : Int) (n : Str) (f l : Int) (hb : 0 ≤ f ∧ f ≤ l ∧ l ≤ 399) (hc : 1 ≤ c ∧ c ≤ 400) : MFn B 7 "Change" "plain" ["self", "told"] (Sp2 (pPlain B (.chg c n f l))) := by
  refine E.mt 25 rfl rfl rfl rfl (N := ["self", "told", "amounts", "found", "day", "at"]) (n := 4) (gs := ["range", "len"]) (by decide +kernel) len2 (by ktf_call "b2") ?_
  intro X vs H Q E1 g h
  obtain ⟨_, _, rfl, T, log, pts, m, G, ⟨⟨a, dx, rfl, h1⟩, rfl, hn, hG, hP, hS⟩, k⟩ := h
  have ha := hS.g _ _ h1
  have c1 := E.c_Change
  have n1 := E.na_Change_first
  have n2 := E.na_Change_last
  have n3 := E.na_Change_name
  have n4 := E.na_Change_amount
  have hlen : (l + 1 - f).toNat ≤ sizeLine := Nat.le_trans (by omega : (l + 1 - f).toNat ≤ 400) (by decide)
  show WSs X _ _ [some (.ref a), some (.ref T.f), none, none, none, none] H
  ktf_call "us"
  refine ws_asgC g (by decide +kernel) (we_lc g [("day", 4)] [true, true, false, false, true, false] [false, false, false, false, true, false] [] (by decide +kernel) (by decide) (wi_r2 g (by ktf_call "gm") E.f_range ?_))
  ktf_call "fs"
  refine ⟨f, l + 1, rfl, rfl, by omega, ?_⟩
  refine lcb_m (G := G) (m := m ++ pts) (rng f l) (fun d => some (T.tell n d)) oV (fun j m' => ∃ log' pts', m' = m ++ pts' ∧ T.P log' pts') hS ⟨log, pts, rfl, hP⟩ (rng_len f l) hlen (fun _ _ _ _ _ _ _ _ => True.intro) ?_ ?_
  · rintro j s D m' G' vs H' x H'' hs e1 ⟨log2, pts2, rfl, hP2⟩ hS2 ⟨rfl, hy⟩ Z gZ
    obtain rfl := yR1 hy
    have ha' := hS2.g _ _ (e1 _ _ h1)
    have hj : j < (l + 1 - f).toNat := by rw [← rng_len]; exact (List.getElem?_eq_some_iff.mp hs).1
    have hs' := hs
    rw [rng_get hj] at hs'
    have es := Option.some.inj hs'
    ktf_call "w"
    ktf_call "us"
    refine ⟨rfl, fun Z gZ => ?_⟩
    ktf_call "t"
    refine iteT fun Z gZ => ?_
    refine we_told (m := (D, .lst vs) :: m) gZ T.ok (Nat.le_refl _) n (f + (j : Nat)) (hn n (by simp [Nd.names])) (by omega) hP2 (hG.trans e1) hS2 (by ktf_call "sv") (by ktf_call "fs"; exact ⟨rfl, rfl⟩) (by ktf_call "sv") fun pts3 H3 hP3 hS3 => ?_
    rw [es] at hP3 ⊢
    exact ⟨_, _, rfl, rfl, ⟨_, pts3, rfl, hP3⟩, hS3⟩
  · rintro D m' H2 ⟨log2, pts2, rfl, hP2⟩ hS2
    have el : ((rng f l).filterMap fun d => some (T.tell n d)) = (rng f l).map (T.tell n) := by rw [List.filterMap_eq_map']
    rw [el, List.map_map] at hS2
    have hD2 := hS2.a0
    have ha' := hS2.g _ _ h1
    ktf_call "us"
    refine wss_cons (ws_lcL g 3 [("at", 5)] [true, false, true, false, false, true] [false, false, false, false, false, true] [] rfl (by decide +kernel) (by decide) rfl (wi_r2 g (by ktf_call "gm") E.f_range ?_))
    ktf_call "fs"
    refine wcl_lenL g (sql hD2) ⟨1, _, rfl, rfl, ?_, ?_⟩
    · simp only [List.length_map, rng_len]; omega
    have en : ((((rng f l).map (oV ∘ T.tell n)).length : Int) - 1).toNat = (rng (f + 1) l).length := by
      simp only [List.length_map, rng_len]; omega
    rw [en]
    refine lcb_v (rng (f + 1) l) (fun d => if T.tell n d ≠ T.tell n (d - 1) then some (V.int d) else none) hS2 rfl (by rw [rng_len]; omega) (fun _ _ _ _ _ _ => True.intro) ?_ ?_
    · rintro j s D' G' vs H' x H'' hs e1 hS3 ⟨rfl, hy⟩ Z gZ
      obtain rfl := yR1 hy
      have ha3 := hS3.g _ _ (e1 _ _ h1)
      have hD3 := hS3.a1
      have hj : j < (l - f).toNat := by
        have := (List.getElem?_eq_some_iff.mp hs).1
        rw [rng_len] at this; omega
      rw [rng_get (by omega)] at hs
      obtain rfl := Option.some.inj hs
      ktf_call "w"
      ktf_call "us"
      refine ⟨rfl, fun Z gZ => ?_⟩
      ktf_call "us"
      have g1 : ((rng f l).map (oV ∘ T.tell n))[j + 1]? = some (oV (T.tell n (f + 1 + (j : Nat)))) := by
        rw [List.getElem?_map, rng_get (by omega)]
        simp only [Option.map_some, Function.comp_apply]
        rw [show f + ((j + 1 : Nat) : Int) = f + 1 + (j : Nat) from by omega]
      have g2 : ((rng f l).map (oV ∘ T.tell n))[j]? = some (oV (T.tell n (f + 1 + (j : Nat) - 1))) := by
        rw [List.getElem?_map, rng_get (by omega)]
        simp only [Option.map_some, Function.comp_apply]
        rw [show f + (j : Int) = f + 1 + (j : Nat) - 1 from by omega]
      refine wx_l gZ (sql hD3) (at_nat (j + 1) (by omega) g1) ?_
      ktf_call "us"
      refine wx_l gZ (sql hD3) (at_nat j (by omega) g2) ?_
      refine wc_ne (oV_scal _ _) ⟨_, rfl, ?_⟩
      by_cases e : T.tell n (f + 1 + (j : Nat)) = T.tell n (f + 1 + (j : Nat) - 1)
      · refine iteNDF (by rw [e]) ⟨by simp [e], G', Same.refl _, hS3⟩
      · refine iteNDT (fun z => e (oV_inj.mp z)) fun Z gZ => ?_
        ktf_call "fs"
        refine ⟨?_, G', Same.refl _, hS3⟩
        rw [if_pos e, show f + (1 + (j : Int)) = f + 1 + (j : Nat) from by omega]
    · intro D' G' H3 e1 hS3
      have el2 : ((rng (f + 1) l).filterMap fun d => if T.tell n d ≠ T.tell n (d - 1) then some (V.int d) else none) = (chgL (T.tell n) f l).map V.int := by
        exact fm_ite (fun d => T.tell n d ≠ T.tell n (d - 1)) V.int _
      rw [el2] at hS3
      have hD3 := hS3.a0
      have ha3 := hS3.g _ _ (e1 _ _ h1)
      have hR := (hS3.base e1).drop.drop
      have kk := k log2 pts2 H3 hP2 (fun e => by cases e) hR
      ktf_call "w"
      ktf_call "i"
      ktf_call "fs"
      refine wcl_lenL g (sql hD3) ?_
      ktf_call "fs"
      rw [List.length_map]
      have ev : evalM T.tell (.chg c n f l) = (chgL (T.tell n) f l)[(c - 1).toNat]? := rfl
      rw [ev] at kk
      refine iteD (fun hlt => ?_) (fun hge => ?_)
      · ktf_call "us"
        rw [List.getElem?_eq_none (by omega)] at kk
        exact kk
      · ktf_call "fs"
        obtain ⟨d, hd⟩ : ∃ d, (chgL (T.tell n) f l)[(c - 1).toNat]? = some d := ⟨_, List.getElem?_eq_getElem (by omega)⟩
        rw [hd] at kk
        exact wx_l g (sql hD3) (at_nat (c - 1).toNat (by omega) (by rw [List.getElem?_map, hd]; rfl)) kk
/-- Question.read: the plain answer -/
theorem rd_plain (E : Ev B) (nd : Nd) (he : nd.exact = true) (j : Nat) (hp : Mt B j (He.ga B.K nd.cls) "plain" (Sp2 (pPlain B nd)) []) : MFn B (j + 1) "Question" "read" ["self", "told"] (Sp2 (pRead B nd)) := by
  refine E.mt 2 rfl rfl rfl rfl (N := ["self", "told"]) (n := 2) (gs := []) (by decide +kernel) len2 (by ktf_call "b2") ?_
  intro X vs H Q E1 g h
  obtain ⟨_, _, rfl, T, log, pts, m, G, A, k⟩ := h
  obtain ⟨a, dx, fs, rfl, ha, hfs⟩ := A.q.cls
  have ha' := A.h.g _ _ ha
  show WSs X _ _ [some _, some _] H
  ktf_call "us"
  refine ⟨a, _, dx, fs, rfl, ha', lookup_out hfs (by decide +kernel), j, _, [], hp, Nat.le_refl _, ?_⟩
  ktf_call "us"
  exact ⟨T, log, pts, m, G, A, fun log' pts' H' hP hl hS => k log' pts' H' hP (hl he) hS⟩
end
/-! ### text D9 -/
set_option maxHeartbeats 4000000
section
open PySem PySem.Spec PyProof.Rows L2 TL
variable {B : Bs}
theorem rd_since (E : Ev B) (n : Str) (x f l : Int) (hb : 0 ≤ f ∧ f ≤ l ∧ l ≤ 399) : MFn B 8 "Since" "read" ["self", "told"] (Sp2 (pRead B (.since n x f l))) := by
  have M := (is_enough E n x f l).mt E.c_Since E.m_Since_is_enough
  refine E.mt 19 rfl rfl rfl rfl (N := ["self", "told", "found", "day"]) (n := 4) (gs := ["range"]) (by decide +kernel) len2 (by ktf_call "b2") ?_
  intro X vs H Q E1 g h
  obtain ⟨_, _, rfl, T, log, pts, m, G, ⟨⟨a, dx, rfl, h1⟩, rfl, hn, hG, hP, hS⟩, k⟩ := h
  have ha := hS.g _ _ h1
  have c1 := E.c_Since
  have n1 := E.na_Since_first
  have n2 := E.na_Since_last
  have hle := goodN_le (fun d => isGood (T.tell n d) x) (l + 1 - f).toNat l
  show WSs X _ _ [some (.ref a), some (.ref T.f), none, none] H
  ktf_call "us"
  refine wss_cut (fun σ' H' => ∃ o3 log' pts', σ' = [some (.ref a), some (.ref T.f), some (oV (evalM T.tell (.since n x f l))), o3] ∧ T.P log' pts' ∧ (∀ p, p ∈ log' ↔ p ∈ log ∨ p ∈ daysM T.tell (.since n x f l)) ∧ Hs B (m ++ pts') G H') ?_ ?_
  rotate_left
  · rintro σ' H' ⟨o3, log', pts', rfl, hP', hl', hS'⟩
    ktf_call "us"
    exact k log' pts' H' hP' hl' hS'
  have fin : ∀ (i : Nat) (log' : Log), goodN (fun d => isGood (T.tell n d) x) l (l + 1 - f).toNat = i → (∀ p, p ∈ log' ↔ p ∈ log ∨ (p.1 = n ∧ max f (l - i) ≤ p.2 ∧ p.2 ≤ l)) → (∀ p, p ∈ log' ↔ p ∈ log ∨ p ∈ daysM T.tell (.since n x f l)) := by
    intro i log' hi hl p
    rw [hl]
    unfold daysM
    rw [mem_dys]
    unfold startD
    rw [hi, show l + 1 - (i : Int) - 1 = l - i from by omega]
  have val : ∀ i : Nat, goodN (fun d => isGood (T.tell n d) x) l (l + 1 - f).toNat = i → evalM T.tell (.since n x f l) = if i = 0 then none else some (l - i + 1) := by
    intro i hi
    unfold evalM afterD startD
    rw [hi]
    by_cases h0 : i = 0
    · rw [if_pos h0, if_pos (by omega)]
    · rw [if_neg h0, if_neg (by omega), show l + 1 - (i : Int) = l - i + 1 from by omega]
  refine ws_forS g (wi_r3 g (by ktf_call "gm") E.f_range ?_)
  ktf_call "fs"
  refine ⟨l, f - 1, rfl, by omega, ?_⟩
  rw [show (l - (f - 1)).toNat = (l + 1 - f).toNat from by omega]
  refine ⟨fun i σ' H' => ∃ o3 log' pts', σ' = [some (.ref a), some (.ref T.f), some (oV (if i = 0 then none else some (l - i + 1))), o3] ∧ T.P log' pts' ∧ (∀ j : Nat, j < i → isGood (T.tell n (l - j)) x = true) ∧ (∀ p, p ∈ log' ↔ p ∈ log ∨ (p.1 = n ∧ l - i < p.2 ∧ p.2 ≤ l)) ∧ Hs B (m ++ pts') G H', ⟨_, log, pts, rfl, hP, fun j hj => by omega, fun p => by simp; omega, hS⟩, fun _ _ _ _ _ => True.intro, ?_, ?_⟩
  · rintro i y σ' H' _ hi ⟨o3, log', pts', rfl, hP', hg', hl', hS'⟩ ⟨rfl, hy⟩
    obtain rfl : y = .int (l - i) := by rw [hy]; congr 1; omega
    have ha' := hS'.g _ _ h1
    ktf_call "us"
    ktf_call "i"
    ktf_call "us"
    refine ⟨a, _, dx, _, rfl, ha', by rfl, 7, _, [], M, by decide, ?_⟩
    ktf_call "us"
    refine ⟨T, log', pts', m, G, l - (i : Nat), rfl, by omega, ⟨⟨a, dx, rfl, h1⟩, rfl, hn, hG, hP', hS'⟩, fun pts2 H2 hP2 hS2 => ?_⟩
    have hl2 : ∀ p, p ∈ log' ++ [(n, l - (i : Nat))] ↔ p ∈ log ∨ (p.1 = n ∧ l - ((i + 1 : Nat) : Int) < p.2 ∧ p.2 ≤ l) := by
      rintro ⟨p1, p2⟩
      rw [List.mem_append, hl']
      simp only [List.mem_singleton, Prod.mk.injEq]
      constructor
      · rintro ((h | h) | h)
        · exact .inl h
        · exact .inr ⟨h.1, by omega, by omega⟩
        · exact .inr ⟨h.1, by omega, by omega⟩
      · rintro (h | h)
        · exact .inl (.inl h)
        · by_cases e : p2 = l - (i : Nat)
          · exact .inr ⟨h.1, e⟩
          · exact .inl (.inr ⟨h.1, by omega, by omega⟩)
    ktf_call "us"
    cases hg : isGood (T.tell n (l - (i : Nat))) x with
    | false =>
      have hi2 := goodN_step (fun d => isGood (T.tell n d) x) (l + 1 - f).toNat i l hi hg' hg
      ktf_call "us"
      refine ⟨some (.int (l - i)), _, pts2, ?_, hP2, fin i _ hi2 (fun p => ?_), hS2⟩
      · rw [val i hi2]
      · rw [hl2, show max f (l - (i : Int)) = l - i from by omega, show l - ((i + 1 : Nat) : Int) = l - i - 1 from by omega]
        constructor
        · rintro (h | h)
          · exact .inl h
          · exact .inr ⟨h.1, by omega, h.2.2⟩
        · rintro (h | h)
          · exact .inl h
          · exact .inr ⟨h.1, by omega, h.2.2⟩
    | true =>
      ktf_call "us"
      refine ⟨some (.int (l - i)), _, pts2, ?_, hP2, fun j hj => ?_, hl2, hS2⟩
      · rw [if_neg (by omega), show l - ((i + 1 : Nat) : Int) + 1 = l - i from by omega]; rfl
      · by_cases e : j = i
        · rw [e]; exact hg
        · exact hg' j (by omega)
  · rintro σ' H' ⟨o3, log', pts', rfl, hP', hg', hl', hS'⟩
    have hi2 := goodN_all (fun d => isGood (T.tell n d) x) (l + 1 - f).toNat l hg'
    refine ⟨o3, log', pts', ?_, hP', fin _ _ hi2 (fun p => ?_), hS'⟩
    · rw [val _ hi2]
    · rw [hl', show max f (l - (((l + 1 - f).toNat : Nat) : Int)) = f from by omega, show l - (((l + 1 - f).toNat : Nat) : Int) = f - 1 from by omega]
      constructor
      · rintro (h | h)
        · exact .inl h
        · exact .inr ⟨h.1, by omega, h.2.2⟩
      · rintro (h | h)
        · exact .inl h
        · exact .inr ⟨h.1, by omega, h.2.2⟩
theorem rd_chg (E : Ev B) (c : Int) (n : Str) (f l : Int) (hb : 0 ≤ f ∧ f ≤ l ∧ l ≤ 399) (hc : 1 ≤ c ∧ c ≤ 400) : MFn B 8 "Change" "read" ["self", "told"] (Sp2 (pRead B (.chg c n f l))) := by
  refine E.mt 26 rfl rfl rfl rfl (N := ["self", "told", "before", "left", "day", "here"]) (n := 6) (gs := ["range"]) (by decide +kernel) len2 (by ktf_call "b2") ?_
  intro X vs H Q E1 g h
  obtain ⟨_, _, rfl, T, log, pts, m, G, ⟨⟨a, dx, rfl, h1⟩, rfl, hn, hG, hP, hS⟩, k⟩ := h
  have ha := hS.g _ _ h1
  have c1 := E.c_Change
  have n1 := E.na_Change_first
  have n2 := E.na_Change_last
  have n3 := E.na_Change_name
  have n4 := E.na_Change_amount
  have hnn := hn n (by simp [Nd.names])
  show WSs X _ _ [some (.ref a), some (.ref T.f), none, none, none, none] H
  ktf_call "s"
  ktf_call "s"
  refine we_told g T.ok (by decide) n f hnn (by omega) hP hG hS (by ktf_call "sv") (by ktf_call "fs"; exact ⟨rfl, rfl⟩) (by ktf_call "fs"; exact ⟨rfl, rfl⟩) fun pts1 H1 hP1 hS1 => ?_
  have ha1 := hS1.g _ _ h1
  ktf_call "fs"
  refine wss_cons (ws_forS g (wi_r2 g (by ktf_call "gm") E.f_range ?_))
  ktf_call "fs"
  have el : (l + 1 - (f + 1)).toNat = (l - f).toNat := by omega
  refine ⟨f + 1, l + 1, rfl, rfl, by omega, ?_⟩
  rw [el]
  refine ⟨fun i σ' H' => ∃ o4 o5 log' pts', σ' = [some (.ref a), some (.ref T.f), some (oV (T.tell n (f + (i : Nat)))), some (.int (c - ((((rng (f + 1) l).take i).filter fun d => decide (T.tell n d ≠ T.tell n (d - 1))).length : Nat))), o4, o5] ∧ T.P log' pts' ∧
    ((((rng (f + 1) l).take i).filter fun d => decide (T.tell n d ≠ T.tell n (d - 1))).length : Int) < c ∧ (∀ p, p ∈ log' ↔ p ∈ log ∨ (p.1 = n ∧ f ≤ p.2 ∧ p.2 ≤ f + (i : Nat))) ∧ Hs B (m ++ pts') G H', ⟨none, none, _, pts1, by simp, hP1, by simp; omega, fun p => ?_, hS1⟩, fun _ _ _ _ _ => True.intro, ?_, ?_⟩
  · obtain ⟨p1, p2⟩ := p
    rw [List.mem_append]
    simp only [List.mem_singleton, Prod.mk.injEq]
    constructor
    · rintro (h | h)
      · exact .inl h
      · exact .inr ⟨h.1, by omega, by omega⟩
    · rintro (h | h)
      · exact .inl h
      · exact .inr ⟨h.1, by omega⟩
  · rintro i y σ' H' _ hi ⟨o4, o5, log', pts', rfl, hP', hc', hl', hS'⟩ ⟨rfl, hy⟩
    obtain rfl := yR1 hy
    have ha' := hS'.g _ _ h1
    ktf_call "s"
    ktf_call "s"
    ktf_call "s"
    refine we_told g T.ok (by decide) n (f + 1 + (i : Nat)) hnn (by omega) hP' hG hS' (by ktf_call "sv") (by ktf_call "fs"; exact ⟨rfl, rfl⟩) (by ktf_call "sv") fun pts2 H2 hP2 hS2 => ?_
    have hl2 : ∀ p, p ∈ log' ++ [(n, f + 1 + (i : Nat))] ↔ p ∈ log ∨ (p.1 = n ∧ f ≤ p.2 ∧ p.2 ≤ f + ((i + 1 : Nat) : Int)) := by
      rintro ⟨p1, p2⟩
      rw [List.mem_append, hl']
      simp only [List.mem_singleton, Prod.mk.injEq]
      constructor
      · rintro ((h | h) | h)
        · exact .inl h
        · exact .inr ⟨h.1, by omega, by omega⟩
        · exact .inr ⟨h.1, by omega, by omega⟩
      · rintro (h | h)
        · exact .inl (.inl h)
        · by_cases e : p2 = f + 1 + (i : Nat)
          · exact .inr ⟨h.1, e⟩
          · exact .inl (.inr ⟨h.1, by omega, by omega⟩)
    have ht := chgL_take (t := T.tell n) hi
    ktf_call "us"
    refine wss_cut (fun σ' H' => H' = H2 ∧ σ' = [some (.ref a), some (.ref T.f), some (oV (T.tell n (f + (i : Nat)))), some (.int (c - ((((rng (f + 1) l).take (i + 1)).filter fun d => decide (T.tell n d ≠ T.tell n (d - 1))).length : Nat))), some (.int (f + 1 + (i : Nat))), some (oV (T.tell n (f + 1 + (i : Nat))))]) ?_ ?_
    · refine ws_if (wt_cmp ?_)
      ktf_call "us"
      refine wc_ne (oV_scal _ _) ⟨_, rfl, ?_⟩
      rw [ht, List.length_append]
      by_cases e : T.tell n (f + 1 + (i : Nat)) = T.tell n (f + (i : Nat))
      · refine iteNDF (by rw [e]) ?_
        ktf_call "us"
        refine ⟨rfl, ?_⟩
        simp [e]
      · refine iteNDT (fun z => e (oV_inj.mp z)) ?_
        ktf_call "us"
        refine ⟨rfl, ?_⟩
        rw [if_pos e]
        simp
        omega
    rintro σ' H' ⟨rfl, rfl⟩
    have hlen : (((rng (f + 1) l).take (i + 1)).filter fun d => decide (T.tell n d ≠ T.tell n (d - 1))).length ≤ (((rng (f + 1) l).take i).filter fun d => decide (T.tell n d ≠ T.tell n (d - 1))).length + 1 := by
      rw [ht, List.length_append]
      split <;> simp
    ktf_call "i"
    ktf_call "us"
    refine iteD (fun hz => ?_) (fun hz => ?_)
    · ktf_call "us"
      have e1 : T.tell n (f + 1 + (i : Nat)) ≠ T.tell n (f + (i : Nat)) := fun e => by
        rw [ht, if_neg (fun z => z e), List.append_nil] at hz
        omega
      have ev : (chgL (T.tell n) f l)[(c - 1).toNat]? = some (f + 1 + (i : Nat)) := by
        unfold chgL
        rw [← List.take_append_drop (i + 1) (rng (f + 1) l), List.filter_append, ht, if_pos e1, List.append_assoc]
        rw [ht, if_pos e1, List.length_append] at hz
        rw [List.getElem?_append_right (by simp at hz ⊢; omega)]
        have : (c - 1).toNat - (((rng (f + 1) l).take i).filter fun d => decide (T.tell n d ≠ T.tell n (d - 1))).length = 0 := by
          simp at hz ⊢; omega
        rw [this]; rfl
      have kk := k _ pts2 H' hP2 (fun p => ?_) hS2
      · have : evalM T.tell (.chg c n f l) = some (f + 1 + (i : Nat)) := ev
        rw [this] at kk
        exact kk
      · rw [hl2]
        unfold daysM
        rw [ev, mem_dys]
        simp only [Option.getD_some]
        rw [show f + ((i + 1 : Nat) : Int) = f + 1 + (i : Nat) from by omega]
    · ktf_call "us"
      exact ⟨_, _, _, pts2, by rw [show f + ((i + 1 : Nat) : Int) = f + 1 + (i : Nat) from by omega], hP2, by omega, hl2, hS2⟩
  · rintro σ' H' ⟨o4, o5, log', pts', rfl, hP', hc', hl', hS'⟩
    rw [List.take_of_length_le (by rw [rng_len]; omega)] at hc'
    have ev : (chgL (T.tell n) f l)[(c - 1).toNat]? = none := List.getElem?_eq_none (by unfold chgL; omega)
    ktf_call "us"
    have kk := k log' pts' H' hP' (fun p => ?_) hS'
    · have : evalM T.tell (.chg c n f l) = none := ev
      rw [this] at kk
      exact kk
    · rw [hl']
      unfold daysM
      rw [ev, mem_dys]
      simp only [Option.getD_none]
      rw [show f + (((l - f).toNat : Nat) : Int) = l from by omega]
end
/-! ### text D10 -/
set_option maxHeartbeats 4000000
section
open PySem PySem.Spec PyProof.Rows L2 TL
variable {B : Bs}
theorem Mt.up {B : Bs} {j k : Nat} {K : Addr} {m : Str} {sp : Sp} {dvs : List V} (h : Mt B j K m sp dvs) (hk : j ≤ k) : Mt B k K m sp dvs := let ⟨f, fd, ps, ds, h1, h2, h3, h4, h5⟩ := h; ⟨f, fd, ps, ds, h1, h2, h3.mono hk, h4, h5⟩
theorem MFn.up {B : Bs} {j k : Nat} {c m : Str} {ps : List Str} {sp : Sp} (h : MFn B j c m ps sp) (hk : j ≤ k) : MFn B k c m ps sp := let ⟨f, fd, h1, h2, h3⟩ := h; ⟨f, fd, h1, h2.mono hk, h3⟩
theorem Ask.kid {nd kd : Nd} {a b : V} {T : Tl B} {log : Log} {pts m : List (Addr × HO)} {G H : Hp} (A : Ask B nd a b T log pts m G H) (hn : ∀ n ∈ kd.names, n ∈ nd.names) {u : V} (hu : QO B G u kd) {log' : Log} {pts' m' : List (Addr × HO)} {G' H' : Hp} (hs : Same G G') (hP : T.P log' pts') (hS : Hs B (m' ++ pts') G' H') :
    Ask B kd u b T log' pts' m' G' H' := ⟨hu.up hs, A.b, fun n h => A.nm n (hn n h), A.s.trans hs, hP, hS⟩
theorem pl_nested (E : Ev B) (mi : Bool) (x y : Nd) (j : Nat) (hj : 1 ≤ j) (hc : Cls B.K (He.ga B.K (Nd.two mi x y).cls)) (hn : NoAttr B.K (He.ga B.K (Nd.two mi x y).cls) "parts") (ho : Mt B 1 (He.ga B.K (Nd.two mi x y).cls) "outcome" (Sp3 (pTwo mi)) [])
    (hx : Mt B j (He.ga B.K x.cls) "plain" (Sp2 (pPlain B x)) []) (hy : Mt B j (He.ga B.K y.cls) "plain" (Sp2 (pPlain B y)) []) : MFn B (j + 1) "Nested" "plain" ["self", "told"] (Sp2 (pPlain B (.two mi x y))) := by
  refine E.mt 29 rfl rfl rfl rfl (N := ["self", "told"]) (n := 2) (gs := []) (by decide +kernel) len2 (by ktf_call "b2") ?_
  intro X vs H Q E1 g h
  obtain ⟨_, _, rfl, T, log, pts, m, G, A, k⟩ := h
  obtain ⟨a, dx, p, u, w, rfl, h1, h2, hu, hw⟩ := A.q
  obtain ⟨au, du, fu, rfl, hau, hfu⟩ := hu.cls
  obtain ⟨aw, dw, fw, rfl, haw, hfw⟩ := hw.cls
  have ha := A.h.g _ _ h1
  have hp := A.h.g _ _ h2
  have hau' := A.h.g _ _ hau
  show WSs X _ _ [some (.ref a), some _] H
  ktf_call "us"
  refine ⟨a, _, dx, _, rfl, ha, by rfl, 1, _, [], ho, hj, ?_⟩
  ktf_call "fs"
  refine wx_l g (sql hp) (at_nat 0 rfl rfl) ⟨au, _, du, fu, rfl, hau', lookup_out hfu (by decide +kernel), j, _, [], hx, Nat.le_refl _, ?_⟩
  ktf_call "us"
  refine ⟨T, log, pts, m, G, A.kid (by simp [Nd.names]; exact fun n h => .inl h) hu (Same.refl _) A.p A.h, fun log2 pts2 H2 hP2 _ hS2 => ?_⟩
  have ha2 := hS2.g _ _ h1
  have hp2 := hS2.g _ _ h2
  have haw' := hS2.g _ _ haw
  ktf_call "fs"
  refine wx_l g (sql hp2) (at_nat 1 rfl rfl) ⟨aw, _, dw, fw, rfl, haw', lookup_out hfw (by decide +kernel), j, _, [], hy, Nat.le_refl _, ?_⟩
  ktf_call "us"
  refine ⟨T, log2, pts2, m, G, A.kid (by simp [Nd.names]; exact fun n h => .inr h) hw (Same.refl _) hP2 hS2, fun log3 pts3 H3 hP3 _ hS3 => ?_⟩
  ktf_call "us"
  exact ⟨_, _, rfl, rfl, k log3 pts3 H3 hP3 (fun e => by cases e) hS3⟩
theorem rd_nested (E : Ev B) (mi : Bool) (x y : Nd) (j : Nat) (hj : 1 ≤ j) (hc : Cls B.K (He.ga B.K (Nd.two mi x y).cls)) (hn : NoAttr B.K (He.ga B.K (Nd.two mi x y).cls) "parts") (ho : Mt B 1 (He.ga B.K (Nd.two mi x y).cls) "outcome" (Sp3 (pTwo mi)) [])
    (hx : Mt B j (He.ga B.K x.cls) "read" (Sp2 (pRead B x)) []) (hy : Mt B j (He.ga B.K y.cls) "read" (Sp2 (pRead B y)) []) : MFn B (j + 1) "Nested" "read" ["self", "told"] (Sp2 (pRead B (.two mi x y))) := by
  refine E.mt 30 rfl rfl rfl rfl (N := ["self", "told"]) (n := 2) (gs := []) (by decide +kernel) len2 (by ktf_call "b2") ?_
  intro X vs H Q E1 g h
  obtain ⟨_, _, rfl, T, log, pts, m, G, A, k⟩ := h
  obtain ⟨a, dx, p, u, w, rfl, h1, h2, hu, hw⟩ := A.q
  obtain ⟨au, du, fu, rfl, hau, hfu⟩ := hu.cls
  obtain ⟨aw, dw, fw, rfl, haw, hfw⟩ := hw.cls
  have ha := A.h.g _ _ h1
  have hp := A.h.g _ _ h2
  have hau' := A.h.g _ _ hau
  show WSs X _ _ [some (.ref a), some _] H
  ktf_call "us"
  refine ⟨a, _, dx, _, rfl, ha, by rfl, 1, _, [], ho, hj, ?_⟩
  ktf_call "fs"
  refine wx_l g (sql hp) (at_nat 0 rfl rfl) ⟨au, _, du, fu, rfl, hau', lookup_out hfu (by decide +kernel), j, _, [], hx, Nat.le_refl _, ?_⟩
  ktf_call "us"
  refine ⟨T, log, pts, m, G, A.kid (by simp [Nd.names]; exact fun n h => .inl h) hu (Same.refl _) A.p A.h, fun log2 pts2 H2 hP2 hl2 hS2 => ?_⟩
  have ha2 := hS2.g _ _ h1
  have hp2 := hS2.g _ _ h2
  have haw' := hS2.g _ _ haw
  ktf_call "fs"
  refine wx_l g (sql hp2) (at_nat 1 rfl rfl) ⟨aw, _, dw, fw, rfl, haw', lookup_out hfw (by decide +kernel), j, _, [], hy, Nat.le_refl _, ?_⟩
  ktf_call "us"
  refine ⟨T, log2, pts2, m, G, A.kid (by simp [Nd.names]; exact fun n h => .inr h) hw (Same.refl _) hP2 hS2, fun log3 pts3 H3 hP3 hl3 hS3 => ?_⟩
  ktf_call "us"
  refine ⟨_, _, rfl, rfl, k log3 pts3 H3 hP3 (fun p => ?_) hS3⟩
  rw [hl3, hl2, show daysM T.tell (.two mi x y) = daysM T.tell x ++ daysM T.tell y from rfl, List.mem_append, or_assoc]
theorem pl_choice (E : Ev B) (s : Bool) (x y z t : Nd) (j : Nat) (hj : 1 ≤ j) (hc : Cls B.K (He.ga B.K (Nd.four s x y z t).cls)) (hn : NoAttr B.K (He.ga B.K (Nd.four s x y z t).cls) "parts") (ho : Mt B 1 (He.ga B.K (Nd.four s x y z t).cls) "chooses_third" (Sp3 (pThird s)) [])
    (hk : ∀ kd ∈ (Nd.four s x y z t).kids, Mt B j (He.ga B.K kd.cls) "plain" (Sp2 (pPlain B kd)) []) : MFn B (j + 1) "Choice" "plain" ["self", "told"] (Sp2 (pPlain B (.four s x y z t))) := by
  refine E.mt 33 rfl rfl rfl rfl (N := ["self", "told", "answers", "part"]) (n := 3) (gs := []) (by decide +kernel) len2 (by ktf_call "b2") ?_
  intro X vs H Q E1 g h
  obtain ⟨_, _, rfl, T, log, pts, m, G, A, k⟩ := h
  obtain ⟨a, dx, p, us, rfl, h1, h2, hF⟩ := A.q.kids rfl
  have ha := A.h.g _ _ h1
  have hp := A.h.g _ _ h2
  show WSs X _ _ [some (.ref a), some _, none, none] H
  ktf_call "us"
  refine ws_lcL g 2 [("part", 3)] [false, true, false, true] [false, false, false, true] [] rfl (by decide +kernel) (by decide) rfl (wi_l g ?_)
  ktf_call "fs"
  refine ⟨p, us, rfl, sql hp, ?_⟩
  refine lcb_m (G := G) (m := m ++ pts) (Nd.four s x y z t).kids (fun kd => some (evalM T.tell kd)) oV (fun j m' => ∃ log' pts', m' = m ++ pts' ∧ T.P log' pts') A.h ⟨log, pts, rfl, A.p⟩ hF.length.symm (by rw [hF.length]; show 4 ≤ sizeLine; decide) (fun i D m' vs H' _ _ h => sql (h.g _ _ h2)) ?_ ?_
  · rintro i kd D m' G' vs H' xx H'' hs e1 ⟨log2, pts2, rfl, hP2⟩ hS2 ⟨rfl, hx⟩ Z gZ
    obtain ⟨kd', hk', hq⟩ := hF.get' hx
    rw [hs] at hk'
    obtain rfl := Option.some.inj hk'
    obtain ⟨b, db, fb, rfl, hb, hfb⟩ := hq.cls
    have hb' := hS2.g _ _ (e1 _ _ hb)
    ktf_call "w"
    ktf_call "us"
    refine ⟨rfl, fun Z gZ => ?_⟩
    ktf_call "t"
    refine iteT fun Z gZ => ?_
    ktf_call "us"
    refine ⟨b, _, db, fb, rfl, hb', lookup_out hfb (by decide +kernel), j, _, [], hk kd (List.mem_of_getElem? hs), Nat.le_refl _, ?_⟩
    ktf_call "us"
    refine ⟨T, log2, pts2, (D, .lst vs) :: m, G', A.kid (fun n hn => ?_) hq e1 hP2 hS2, fun log3 pts3 H3 hP3 _ hS3 => ⟨_, _, rfl, rfl, ⟨log3, pts3, rfl, hP3⟩, hS3⟩⟩
    rw [Nd.names_kids rfl]
    exact List.mem_flatMap.mpr ⟨kd, List.mem_of_getElem? hs, hn⟩
  · rintro D m' H2 ⟨log2, pts2, rfl, hP2⟩ hS2
    have hD := hS2.a0
    have ha2 := hS2.g _ _ h1
    have hR := k log2 pts2 H2 hP2 (fun e => by cases e) hS2.drop
    rw [evalM_four] at hR
    ktf_call "w"
    refine wss_cons (ws_ifV (third T.tell s x y) (fun H3 => H2 = H3) ?_ ?_ ?_)
    · ktf_call "us"
      refine ⟨a, _, dx, _, rfl, ha2, by rfl, 1, _, [], ho, hj, ?_⟩
      ktf_call "us"
      refine wx_l g (sql hD) (at_nat 0 rfl rfl) ?_
      ktf_call "us"
      refine wx_l g (sql hD) (at_nat 1 rfl rfl) ?_
      ktf_call "us"
      refine ⟨_, _, rfl, rfl, ?_⟩
      ktf_call "us"
      exact ⟨rfl, rfl⟩
    · rintro e _ rfl
      rw [if_pos e] at hR
      ktf_call "us"
      exact wx_l g (sql hD) (at_nat 2 rfl rfl) hR
    · rintro e _ rfl
      rw [if_neg (by rw [e]; decide)] at hR
      ktf_call "us"
      exact wx_l g (sql hD) (at_nat 3 rfl rfl) hR
theorem rd_choice (E : Ev B) (s : Bool) (x y z t : Nd) (j : Nat) (hj : 1 ≤ j) (hc : Cls B.K (He.ga B.K (Nd.four s x y z t).cls)) (hn : NoAttr B.K (He.ga B.K (Nd.four s x y z t).cls) "parts") (ho : Mt B 1 (He.ga B.K (Nd.four s x y z t).cls) "chooses_third" (Sp3 (pThird s)) [])
    (hx : Mt B j (He.ga B.K x.cls) "read" (Sp2 (pRead B x)) []) (hy : Mt B j (He.ga B.K y.cls) "read" (Sp2 (pRead B y)) []) (hz : Mt B j (He.ga B.K z.cls) "read" (Sp2 (pRead B z)) []) (ht : Mt B j (He.ga B.K t.cls) "read" (Sp2 (pRead B t)) []) :
    MFn B (j + 1) "Choice" "read" ["self", "told"] (Sp2 (pRead B (.four s x y z t))) := by
  refine E.mt 34 rfl rfl rfl rfl (N := ["self", "told", "one"]) (n := 3) (gs := []) (by decide +kernel) len2 (by ktf_call "b2") ?_
  intro X vs H Q E1 g h
  obtain ⟨_, _, rfl, T, log, pts, m, G, A, k⟩ := h
  obtain ⟨a, dx, p, u1, u2, u3, u4, rfl, h1, h2, q1, q2, q3, q4⟩ := A.q
  obtain ⟨a1, d1, f1, rfl, ha1, hf1⟩ := q1.cls
  obtain ⟨a2, d2, f2, rfl, ha2, hf2⟩ := q2.cls
  obtain ⟨a3, d3, f3, rfl, ha3, hf3⟩ := q3.cls
  obtain ⟨a4, d4, f4, rfl, ha4, hf4⟩ := q4.cls
  have ha := A.h.g _ _ h1
  have hp := A.h.g _ _ h2
  have hb1 := A.h.g _ _ ha1
  show WSs X _ _ [some (.ref a), some _, none] H
  ktf_call "fs"
  refine wx_l g (sql hp) (at_nat 0 rfl rfl) ⟨a1, _, d1, f1, rfl, hb1, lookup_out hf1 (by decide +kernel), j, _, [], hx, Nat.le_refl _, ?_⟩
  ktf_call "us"
  refine ⟨T, log, pts, m, G, A.kid (by simp [Nd.names]; exact fun n h => .inl h) q1 (Same.refl _) A.p A.h, fun log2 pts2 H2 hP2 hl2 hS2 => ?_⟩
  have hA2 := hS2.g _ _ h1
  ktf_call "us"
  refine wss_cons (ws_ifV (third T.tell s x y) (fun H3 => ∃ log3 pts3, T.P log3 pts3 ∧ (∀ p, p ∈ log3 ↔ p ∈ log ∨ p ∈ daysM T.tell x ++ daysM T.tell y) ∧ Hs B (m ++ pts3) G H3) ?_ ?_ ?_)
  · ktf_call "us"
    refine ⟨a, _, dx, _, rfl, hA2, by rfl, 1, _, [], ho, hj, ?_⟩
    have hp2 := hS2.g _ _ h2
    have hb2 := hS2.g _ _ ha2
    ktf_call "fs"
    refine wx_l g (sql hp2) (at_nat 1 rfl rfl) ⟨a2, _, d2, f2, rfl, hb2, lookup_out hf2 (by decide +kernel), j, _, [], hy, Nat.le_refl _, ?_⟩
    ktf_call "us"
    refine ⟨T, log2, pts2, m, G, A.kid (by simp [Nd.names]; exact fun n h => .inr (.inl h)) q2 (Same.refl _) hP2 hS2, fun log3 pts3 H3 hP3 hl3 hS3 => ?_⟩
    ktf_call "us"
    refine ⟨_, _, rfl, rfl, ?_⟩
    ktf_call "us"
    refine ⟨rfl, log3, pts3, hP3, fun p => ?_, hS3⟩
    rw [hl3, hl2, List.mem_append, or_assoc]
  · rintro e H3 ⟨log3, pts3, hP3, hl3, hS3⟩
    have hA3 := hS3.g _ _ h1
    have hp3 := hS3.g _ _ h2
    have hb3 := hS3.g _ _ ha3
    ktf_call "fs"
    refine wx_l g (sql hp3) (at_nat 2 rfl rfl) ⟨a3, _, d3, f3, rfl, hb3, lookup_out hf3 (by decide +kernel), j, _, [], hz, Nat.le_refl _, ?_⟩
    ktf_call "us"
    refine ⟨T, log3, pts3, m, G, A.kid (by simp [Nd.names]; exact fun n h => .inr (.inr (.inl h))) q3 (Same.refl _) hP3 hS3, fun log4 pts4 H4 hP4 hl4 hS4 => ?_⟩
    have hR := k log4 pts4 H4 hP4 (fun p => ?_) hS4
    · rw [evalM_four, if_pos e] at hR
      exact hR
    · rw [hl4, hl3, show daysM T.tell (.four s x y z t) = daysM T.tell x ++ daysM T.tell y ++ (if third T.tell s x y then daysM T.tell z else daysM T.tell t) from rfl, if_pos e, List.mem_append (s := daysM T.tell x ++ daysM T.tell y), or_assoc]
  · rintro e H3 ⟨log3, pts3, hP3, hl3, hS3⟩
    have hA3 := hS3.g _ _ h1
    have hp3 := hS3.g _ _ h2
    have hb4 := hS3.g _ _ ha4
    ktf_call "fs"
    refine wx_l g (sql hp3) (at_nat 3 rfl rfl) ⟨a4, _, d4, f4, rfl, hb4, lookup_out hf4 (by decide +kernel), j, _, [], ht, Nat.le_refl _, ?_⟩
    ktf_call "us"
    refine ⟨T, log3, pts3, m, G, A.kid (by simp [Nd.names]; exact fun n h => .inr (.inr (.inr h))) q4 (Same.refl _) hP3 hS3, fun log4 pts4 H4 hP4 hl4 hS4 => ?_⟩
    have hR := k log4 pts4 H4 hP4 (fun p => ?_) hS4
    · rw [evalM_four, if_neg (by rw [e]; decide)] at hR
      exact hR
    · rw [hl4, hl3, show daysM T.tell (.four s x y z t) = daysM T.tell x ++ daysM T.tell y ++ (if third T.tell s x y then daysM T.tell z else daysM T.tell t) from rfl, if_neg (by rw [e]; decide), List.mem_append (s := daysM T.tell x ++ daysM T.tell y), or_assoc]
end
/-! ### text D11 -/
set_option maxHeartbeats 4000000
section
open PySem PySem.Spec PyProof.Rows L2 TL
variable {B : Bs}
theorem Nd.names_len : ∀ {nd : Nd}, nd.ok → nd.names.length ≤ 8 * 4 ^ nd.depth
  | .num _, _ => by simp [names]
  | .val .., _ => by simp [names, depth]
  | .ov _ ns _ _, h => by simpa [names, depth] using h.2.2.1
  | .since .., _ => by simp [names, depth]
  | .part .., _ => by simp [names, depth]
  | .chg .., _ => by simp [names, depth]
  | .two _ a b, h => by
    have h1 := Nd.names_len h.1
    have h2 := Nd.names_len h.2
    have e1 : 4 ^ a.depth ≤ 4 ^ (max a.depth b.depth) := Nat.pow_le_pow_right (by decide) (Nat.le_max_left ..)
    have e2 : 4 ^ b.depth ≤ 4 ^ (max a.depth b.depth) := Nat.pow_le_pow_right (by decide) (Nat.le_max_right ..)
    simp only [names, depth, List.length_append, Nat.pow_succ]
    omega
  | .four _ a b c d, h => by
    have h1 := Nd.names_len h.1
    have h2 := Nd.names_len h.2.1
    have h3 := Nd.names_len h.2.2.1
    have h4 := Nd.names_len h.2.2.2
    have e1 : 4 ^ a.depth ≤ 4 ^ (max (max a.depth b.depth) (max c.depth d.depth)) := Nat.pow_le_pow_right (by decide) (by omega)
    have e2 : 4 ^ b.depth ≤ 4 ^ (max (max a.depth b.depth) (max c.depth d.depth)) := Nat.pow_le_pow_right (by decide) (by omega)
    have e3 : 4 ^ c.depth ≤ 4 ^ (max (max a.depth b.depth) (max c.depth d.depth)) := Nat.pow_le_pow_right (by decide) (by omega)
    have e4 : 4 ^ d.depth ≤ 4 ^ (max (max a.depth b.depth) (max c.depth d.depth)) := Nat.pow_le_pow_right (by decide) (by omega)
    simp only [names, depth, List.length_append, Nat.pow_succ]
    omega
theorem Nd.names_small {nd : Nd} (h : nd.ok) (hd : nd.depth ≤ 3) : nd.names.length ≤ 512 := by
  have := Nd.names_len h
  have e : 4 ^ nd.depth ≤ 4 ^ 3 := Nat.pow_le_pow_right (by decide) hd
  omega
theorem sz512 {n : Nat} (h : n ≤ 512) : n < sizeLine := Nat.lt_of_le_of_lt h (by decide)
theorem all_names (E : Ev B) : ∀ {nd : Nd}, nd.ok → nd.depth ≤ 3 → Mt B (1 + nd.depth) (He.ga B.K nd.cls) "all_names" (Sp1 (pNames B nd)) []
  | .num i, _, _ => (((n_num E i).inh E.in_Number_all_names).mt E.c_Number E.m_Number_all_names)
  | .val n d, _, _ => ((n_val E n d).mt E.c_OnDay E.m_OnDay_all_names)
  | .ov .sum ns f l, h, _ => (((n_ov E .sum ns f l h.2.2.1 E.c_Sum E.na_Sum_names).inh E.in_Sum_all_names).mt E.c_Sum E.m_Sum_all_names)
  | .ov .count ns f l, h, _ => (((n_ov E .count ns f l h.2.2.1 E.c_Count E.na_Count_names).inh E.in_Count_all_names).mt E.c_Count E.m_Count_all_names)
  | .ov .least ns f l, h, _ => (((n_ov E .least ns f l h.2.2.1 E.c_Least E.na_Least_names).inh E.in_Least_all_names).mt E.c_Least E.m_Least_all_names)
  | .ov .greatest ns f l, h, _ => (((n_ov E .greatest ns f l h.2.2.1 E.c_Greatest E.na_Greatest_names).inh E.in_Greatest_all_names).mt E.c_Greatest E.m_Greatest_all_names)
  | .since n x f l, _, _ => ((n_since E n x f l).mt E.c_Since E.m_Since_all_names)
  | .part n o f l, _, _ => ((n_part E n o f l).mt E.c_Part E.m_Part_all_names)
  | .chg c n f l, _, _ => ((n_chg E c n f l).mt E.c_Change E.m_Change_all_names)
  | .two m a b, h, hd => by
    have hm : max a.depth b.depth + 1 ≤ 3 := hd
    have i1 := (all_names E h.1 (by omega)).up (show 1 + a.depth ≤ 1 + max a.depth b.depth by omega)
    have i2 := (all_names E h.2 (by omega)).up (show 1 + b.depth ≤ 1 + max a.depth b.depth by omega)
    have ih : ∀ k ∈ (Nd.two m a b).kids, Mt B (1 + max a.depth b.depth) (He.ga B.K k.cls) "all_names" (Sp1 (pNames B k)) [] := fun k hk => by
      rcases List.mem_cons.mp hk with e | hk
      · rw [e]; exact i1
      · rw [List.mem_singleton.mp hk]; exact i2
    have hz := Nat.le_of_lt (sz512 (Nd.names_small h hd))
    cases m with
    | true => exact ((n_nested E rfl hz _ ih E.c_Minus E.na_Minus_parts).inh E.in_Minus_all_names).mt E.c_Minus E.m_Minus_all_names
    | false => exact ((n_nested E rfl hz _ ih E.c_Plus E.na_Plus_parts).inh E.in_Plus_all_names).mt E.c_Plus E.m_Plus_all_names
  | .four s a b c d, h, hd => by
    have hm : max (max a.depth b.depth) (max c.depth d.depth) + 1 ≤ 3 := hd
    have i1 := (all_names E h.1 (by omega)).up (show 1 + a.depth ≤ 1 + max (max a.depth b.depth) (max c.depth d.depth) by omega)
    have i2 := (all_names E h.2.1 (by omega)).up (show 1 + b.depth ≤ 1 + max (max a.depth b.depth) (max c.depth d.depth) by omega)
    have i3 := (all_names E h.2.2.1 (by omega)).up (show 1 + c.depth ≤ 1 + max (max a.depth b.depth) (max c.depth d.depth) by omega)
    have i4 := (all_names E h.2.2.2 (by omega)).up (show 1 + d.depth ≤ 1 + max (max a.depth b.depth) (max c.depth d.depth) by omega)
    have ih : ∀ k ∈ (Nd.four s a b c d).kids, Mt B (1 + max (max a.depth b.depth) (max c.depth d.depth)) (He.ga B.K k.cls) "all_names" (Sp1 (pNames B k)) [] := fun k hk => by
      rcases List.mem_cons.mp hk with e | hk
      · rw [e]; exact i1
      rcases List.mem_cons.mp hk with e | hk
      · rw [e]; exact i2
      rcases List.mem_cons.mp hk with e | hk
      · rw [e]; exact i3
      · rw [List.mem_singleton.mp hk]; exact i4
    have hz := Nat.le_of_lt (sz512 (Nd.names_small h hd))
    cases s with
    | true => exact ((n_nested E rfl hz _ ih E.c_Same E.na_Same_parts).inh E.in_Same_all_names).mt E.c_Same E.m_Same_all_names
    | false => exact ((n_nested E rfl hz _ ih E.c_Less E.na_Less_parts).inh E.in_Less_all_names).mt E.c_Less E.m_Less_all_names
theorem all_asked (E : Ev B) {nd : Nd} (h : nd.ok) (hd : nd.depth ≤ 3) : Mt B (2 + nd.depth) (He.ga B.K nd.cls) "asked_keys" (Sp1 (pAsked B nd)) [] := by
  have F := asked_keys E nd (sz512 (Nd.names_small h hd)) _ (all_names E h hd)
  rw [show 1 + nd.depth + 1 = 2 + nd.depth from by omega] at F
  cases nd with
  | num i => exact (F.inh E.in_Number_asked_keys).mt E.c_Number E.m_Number_asked_keys
  | val n d => exact (F.inh E.in_OnDay_asked_keys).mt E.c_OnDay E.m_OnDay_asked_keys
  | since n x f l => exact (F.inh E.in_Since_asked_keys).mt E.c_Since E.m_Since_asked_keys
  | part n o f l => exact (F.inh E.in_Part_asked_keys).mt E.c_Part E.m_Part_asked_keys
  | chg c n f l => exact (F.inh E.in_Change_asked_keys).mt E.c_Change E.m_Change_asked_keys
  | ov k ns f l =>
    cases k with
    | sum => exact (F.inh E.in_Sum_asked_keys).mt E.c_Sum E.m_Sum_asked_keys
    | count => exact (F.inh E.in_Count_asked_keys).mt E.c_Count E.m_Count_asked_keys
    | least => exact (F.inh E.in_Least_asked_keys).mt E.c_Least E.m_Least_asked_keys
    | greatest => exact (F.inh E.in_Greatest_asked_keys).mt E.c_Greatest E.m_Greatest_asked_keys
  | two m a b =>
    cases m with
    | true => exact (F.inh E.in_Minus_asked_keys).mt E.c_Minus E.m_Minus_asked_keys
    | false => exact (F.inh E.in_Plus_asked_keys).mt E.c_Plus E.m_Plus_asked_keys
  | four s a b c d =>
    cases s with
    | true => exact (F.inh E.in_Same_asked_keys).mt E.c_Same E.m_Same_asked_keys
    | false => exact (F.inh E.in_Less_asked_keys).mt E.c_Less E.m_Less_asked_keys
theorem all_plain (E : Ev B) : ∀ {nd : Nd}, nd.ok → nd.depth ≤ 3 → Mt B (8 + nd.depth) (He.ga B.K nd.cls) "plain" (Sp2 (pPlain B nd)) []
  | .num i, _, _ => (((pl_num E i).mt E.c_Number E.m_Number_plain).up (by omega))
  | .val n d, h, _ => (((pl_val E n d h).mt E.c_OnDay E.m_OnDay_plain).up (by omega))
  | .ov .sum ns f l, h, _ => ((((pl_ov E .sum ns f l h.1 h.2.2.1 E.c_Sum E.na_Sum_names E.na_Sum_first E.na_Sum_last ((out_sum E).mt E.c_Sum E.m_Sum_outcome)).inh E.in_Sum_plain).mt E.c_Sum E.m_Sum_plain).up (by omega))
  | .ov .count ns f l, h, _ => ((((pl_ov E .count ns f l h.1 h.2.2.1 E.c_Count E.na_Count_names E.na_Count_first E.na_Count_last ((out_count E).mt E.c_Count E.m_Count_outcome)).inh E.in_Count_plain).mt E.c_Count E.m_Count_plain).up (by omega))
  | .ov .least ns f l, h, _ => ((((pl_ov E .least ns f l h.1 h.2.2.1 E.c_Least E.na_Least_names E.na_Least_first E.na_Least_last ((out_least E).mt E.c_Least E.m_Least_outcome)).inh E.in_Least_plain).mt E.c_Least E.m_Least_plain).up (by omega))
  | .ov .greatest ns f l, h, _ => ((((pl_ov E .greatest ns f l h.1 h.2.2.1 E.c_Greatest E.na_Greatest_names E.na_Greatest_first E.na_Greatest_last ((out_greatest E).mt E.c_Greatest E.m_Greatest_outcome)).inh E.in_Greatest_plain).mt E.c_Greatest E.m_Greatest_plain).up (by omega))
  | .since n x f l, h, _ => (((pl_since E n x f l h.1).mt E.c_Since E.m_Since_plain).up (by omega))
  | .part n o f l, h, _ => (((pl_part E n o f l h).mt E.c_Part E.m_Part_plain).up (by omega))
  | .chg c n f l, h, _ => (((pl_chg E c n f l h.1 h.2).mt E.c_Change E.m_Change_plain).up (by omega))
  | .two m a b, h, hd => by
    have hm : max a.depth b.depth + 1 ≤ 3 := hd
    have i1 := (all_plain E h.1 (by omega)).up (show 8 + a.depth ≤ 8 + max a.depth b.depth by omega)
    have i2 := (all_plain E h.2 (by omega)).up (show 8 + b.depth ≤ 8 + max a.depth b.depth by omega)
    cases m with
    | true => exact ((pl_nested E true a b _ (by omega) E.c_Minus E.na_Minus_parts ((out_minus E).mt E.c_Minus E.m_Minus_outcome) i1 i2).inh E.in_Minus_plain).mt E.c_Minus E.m_Minus_plain
    | false => exact ((pl_nested E false a b _ (by omega) E.c_Plus E.na_Plus_parts ((out_plus E).mt E.c_Plus E.m_Plus_outcome) i1 i2).inh E.in_Plus_plain).mt E.c_Plus E.m_Plus_plain
  | .four s a b c d, h, hd => by
    have hm : max (max a.depth b.depth) (max c.depth d.depth) + 1 ≤ 3 := hd
    have i1 := (all_plain E h.1 (by omega)).up (show 8 + a.depth ≤ 8 + max (max a.depth b.depth) (max c.depth d.depth) by omega)
    have i2 := (all_plain E h.2.1 (by omega)).up (show 8 + b.depth ≤ 8 + max (max a.depth b.depth) (max c.depth d.depth) by omega)
    have i3 := (all_plain E h.2.2.1 (by omega)).up (show 8 + c.depth ≤ 8 + max (max a.depth b.depth) (max c.depth d.depth) by omega)
    have i4 := (all_plain E h.2.2.2 (by omega)).up (show 8 + d.depth ≤ 8 + max (max a.depth b.depth) (max c.depth d.depth) by omega)
    have ih : ∀ k ∈ (Nd.four s a b c d).kids, Mt B (8 + max (max a.depth b.depth) (max c.depth d.depth)) (He.ga B.K k.cls) "plain" (Sp2 (pPlain B k)) [] := fun k hk => by
      rcases List.mem_cons.mp hk with e | hk
      · rw [e]; exact i1
      rcases List.mem_cons.mp hk with e | hk
      · rw [e]; exact i2
      rcases List.mem_cons.mp hk with e | hk
      · rw [e]; exact i3
      · rw [List.mem_singleton.mp hk]; exact i4
    cases s with
    | true => exact ((pl_choice E true a b c d _ (by omega) E.c_Same E.na_Same_parts ((ch_same E).mt E.c_Same E.m_Same_chooses_third) ih).inh E.in_Same_plain).mt E.c_Same E.m_Same_plain
    | false => exact ((pl_choice E false a b c d _ (by omega) E.c_Less E.na_Less_parts ((ch_less E).mt E.c_Less E.m_Less_chooses_third) ih).inh E.in_Less_plain).mt E.c_Less E.m_Less_plain
theorem all_read (E : Ev B) : ∀ {nd : Nd}, nd.ok → nd.depth ≤ 3 → Mt B (9 + nd.depth) (He.ga B.K nd.cls) "read" (Sp2 (pRead B nd)) []
  | .num i, h, hd => (((rd_plain E (.num i) rfl _ (all_plain E h hd)).inh E.in_Number_read).mt E.c_Number E.m_Number_read)
  | .val n d, h, hd => (((rd_plain E (.val n d) rfl _ (all_plain E h hd)).inh E.in_OnDay_read).mt E.c_OnDay E.m_OnDay_read)
  | .ov .sum ns f l, h, hd => (((rd_plain E (.ov .sum ns f l) rfl _ (all_plain E h hd)).inh E.in_Sum_read).mt E.c_Sum E.m_Sum_read)
  | .ov .count ns f l, h, hd => (((rd_plain E (.ov .count ns f l) rfl _ (all_plain E h hd)).inh E.in_Count_read).mt E.c_Count E.m_Count_read)
  | .ov .least ns f l, h, hd => (((rd_plain E (.ov .least ns f l) rfl _ (all_plain E h hd)).inh E.in_Least_read).mt E.c_Least E.m_Least_read)
  | .ov .greatest ns f l, h, hd => (((rd_plain E (.ov .greatest ns f l) rfl _ (all_plain E h hd)).inh E.in_Greatest_read).mt E.c_Greatest E.m_Greatest_read)
  | .since n x f l, h, _ => (((rd_since E n x f l h.1).mt E.c_Since E.m_Since_read).up (by omega))
  | .part n o f l, h, hd => (((rd_plain E (.part n o f l) rfl _ (all_plain E h hd)).inh E.in_Part_read).mt E.c_Part E.m_Part_read)
  | .chg c n f l, h, _ => (((rd_chg E c n f l h.1 h.2).mt E.c_Change E.m_Change_read).up (by omega))
  | .two m a b, h, hd => by
    have hm : max a.depth b.depth + 1 ≤ 3 := hd
    have i1 := (all_read E h.1 (by omega)).up (show 9 + a.depth ≤ 9 + max a.depth b.depth by omega)
    have i2 := (all_read E h.2 (by omega)).up (show 9 + b.depth ≤ 9 + max a.depth b.depth by omega)
    cases m with
    | true => exact ((rd_nested E true a b _ (by omega) E.c_Minus E.na_Minus_parts ((out_minus E).mt E.c_Minus E.m_Minus_outcome) i1 i2).inh E.in_Minus_read).mt E.c_Minus E.m_Minus_read
    | false => exact ((rd_nested E false a b _ (by omega) E.c_Plus E.na_Plus_parts ((out_plus E).mt E.c_Plus E.m_Plus_outcome) i1 i2).inh E.in_Plus_read).mt E.c_Plus E.m_Plus_read
  | .four s a b c d, h, hd => by
    have hm : max (max a.depth b.depth) (max c.depth d.depth) + 1 ≤ 3 := hd
    have i1 := (all_read E h.1 (by omega)).up (show 9 + a.depth ≤ 9 + max (max a.depth b.depth) (max c.depth d.depth) by omega)
    have i2 := (all_read E h.2.1 (by omega)).up (show 9 + b.depth ≤ 9 + max (max a.depth b.depth) (max c.depth d.depth) by omega)
    have i3 := (all_read E h.2.2.1 (by omega)).up (show 9 + c.depth ≤ 9 + max (max a.depth b.depth) (max c.depth d.depth) by omega)
    have i4 := (all_read E h.2.2.2 (by omega)).up (show 9 + d.depth ≤ 9 + max (max a.depth b.depth) (max c.depth d.depth) by omega)
    cases s with
    | true => exact ((rd_choice E true a b c d _ (by omega) E.c_Same E.na_Same_parts ((ch_same E).mt E.c_Same E.m_Same_chooses_third) i1 i2 i3 i4).inh E.in_Same_read).mt E.c_Same E.m_Same_read
    | false => exact ((rd_choice E false a b c d _ (by omega) E.c_Less E.na_Less_parts ((ch_less E).mt E.c_Less E.m_Less_chooses_third) i1 i2 i3 i4).inh E.in_Less_read).mt E.c_Less E.m_Less_read
end
/-! ### text D12 -/
set_option maxHeartbeats 4000000
section
open PySem PySem.Spec PyProof.Rows L2 TL
variable {B : Bs}
/-! ### texts read: the words -/
abbrev wO (B : Bs) (dx q : Addr) (p : Int) : HO := .ins (He.ga B.K "Words") dx [("left", .ref q), ("place", .int p)]
/-- the words stand at w, p of them passed -/
structure WAt (B : Bs) (a : V) (w dx q : Addr) (ws : List Str) (p : Nat) (m : List (Addr × HO)) (G H : Hp) : Prop where
  e : a = .ref w
  gq : G q = some (.lst (ws.map V.str))
  h : Hs B ((w, wO B dx q p) :: m) G H
def pNext (B : Bs) : V → Hp → VK → Prop := fun a H Q => ∃ w dx q ws p m G z, WAt B a w dx q ws p m G H ∧ ws[p]? = some z ∧ Q (.str z) H
theorem next_word (E : Ev B) : Mt B 1 (He.ga B.K "Words") "next_word" (Sp1 (pNext B)) [] := by
  refine (MFn.mt (c := "Words") (ps := ["self"]) ?_ E.c_Words E.m_Words_next_word)
  refine E.mt 42 rfl rfl rfl rfl (N := ["self"]) (n := 1) (gs := ["len"]) (by decide +kernel) len1 (by ktf_call "b1") ?_
  intro X vs H Q E1 g h
  obtain ⟨_, rfl, w, dx, q, ws, p, m, G, z, ⟨rfl, hq, hS⟩, hz, k⟩ := h
  have c1 := E.c_Words
  have n1 := E.na_Words_place
  have n2 := E.na_Words_left
  have ha := hS.a0
  have hq' := hS.g _ _ hq
  have hp := (List.getElem?_eq_some_iff.mp hz).1
  show WSs X _ _ [some (.ref w)] H
  ktf_call "i"
  ktf_call "fs"
  refine wcl_lenL g (sql hq') ?_
  ktf_call "us"
  refine iteDF (by rw [List.length_map]; omega) ?_
  ktf_call "fs"
  exact wx_l g (sql hq') (at_nat p rfl (by rw [List.getElem?_map, hz]; rfl)) k
def pPast (B : Bs) : V → V → Hp → VK → Prop := fun a b H Q => ∃ w dx q ws p m G, WAt B a w dx q ws p m G H ∧ b = .bl true ∧ ∀ H', WAt B a w dx q ws (p + 1) m G H' → Q .non H'
theorem past (E : Ev B) : Mt B 1 (He.ga B.K "Words") "past" (Sp2 (pPast B)) [] := by
  refine (MFn.mt (c := "Words") (ps := ["self", "holds"]) ?_ E.c_Words E.m_Words_past)
  refine E.mt 43 rfl rfl rfl rfl (N := ["self", "holds"]) (n := 2) (gs := ["BadQuestion"]) (by decide +kernel) len2 (by ktf_call "b2") ?_
  intro X vs H Q E1 g h
  obtain ⟨_, _, rfl, w, dx, q, ws, p, m, G, ⟨rfl, hq, hS⟩, rfl, k⟩ := h
  have ha := hS.a0
  show WSs X _ _ [some (.ref w), some (.bl true)] H
  ktf_call "i"
  ktf_call "us"
  refine ws_fldaug g ?_
  ktf_call "us"
  refine ⟨w, _, dx, _, _, rfl, ha, E.c_Words, E.na_Words_place, rfl, ?_⟩
  ktf_call "us"
  refine ⟨dx, _, ha, by simp, ?_⟩
  exact k _ ⟨rfl, hq, hS.set rfl⟩
/-- a word is passed -/
structure Rd1 (B : Bs) (a : V) (w dx q : Addr) (ws : List Str) (p : Nat) (z : Str) (m : List (Addr × HO)) (G H : Hp) : Prop where
  at_ : WAt B a w dx q ws p m G H
  z : ws[p]? = some z
def pOneName (B : Bs) : V → Hp → VK → Prop := fun a H Q => ∃ w dx q ws p m G z, Rd1 B a w dx q ws p z m G H ∧ NameOk z ∧ ∀ H', WAt B a w dx q ws (p + 1) m G H' → Q (.str z) H'
theorem one_name (E : Ev B) : Mt B 2 (He.ga B.K "Words") "one_name" (Sp1 (pOneName B)) [] := by
  have f1 := o_is_name E
  refine (MFn.mt (c := "Words") (ps := ["self"]) ?_ E.c_Words E.m_Words_one_name)
  refine E.mt 44 rfl rfl rfl rfl (N := ["self", "word"]) (n := 2) (gs := ["is_name"]) (by decide +kernel) len1 (by ktf_call "b1") ?_
  intro X vs H Q E1 g h
  obtain ⟨_, rfl, w, dx, q, ws, p, m, G, z, ⟨A, hz⟩, hn, k⟩ := h
  obtain rfl := A.e
  show WSs X _ _ [some (.ref w), none] H
  ktf_call "us"
  refine ⟨w, _, dx, _, rfl, A.h.a0, by rfl, 1, _, [], next_word E, by decide, ?_⟩
  ktf_call "us"
  refine ⟨w, dx, q, ws, p, m, G, z, A, hz, ?_⟩
  ktf_call "us"
  refine ⟨w, _, dx, _, rfl, A.h.a0, by rfl, 1, _, [], past E, by decide, ?_⟩
  ktf_call "us"
  refine ⟨_, G, z, rfl, A.h, hn, fun H1 hS1 => ?_⟩
  ktf_call "us"
  refine ⟨w, dx, q, ws, p, m, G, ⟨rfl, A.gq, hS1⟩, rfl, fun H2 A2 => ?_⟩
  ktf_call "us"
  exact k H2 A2
def pOneNum (B : Bs) : V → V → V → Hp → VK → Prop := fun a b c H Q => ∃ w dx q ws p m G, ∃ i l h : Int, Rd1 B a w dx q ws p (iS i) m G H ∧ b = .int l ∧ c = .int h ∧ (-(10 ^ 9) ≤ i ∧ i ≤ 10 ^ 9) ∧ (l ≤ i ∧ i ≤ h) ∧ ∀ H', WAt B a w dx q ws (p + 1) m G H' → Q (.int i) H'
theorem one_number (E : Ev B) : Mt B 3 (He.ga B.K "Words") "one_number" (Sp3 (pOneNum B)) [] := by
  have f1 := o_number_of E
  refine (MFn.mt (c := "Words") (ps := ["self", "low", "high"]) ?_ E.c_Words E.m_Words_one_number)
  refine E.mt 46 rfl rfl rfl rfl (N := ["self", "low", "high", "found"]) (n := 4) (gs := ["number_of"]) (by decide +kernel) len3 (by ktf_call "b3") ?_
  intro X vs H Q E1 g h
  obtain ⟨_, _, _, rfl, w, dx, q, ws, p, m, G, i, lo, hi, ⟨A, hz⟩, rfl, rfl, hb, hl, k⟩ := h
  obtain rfl := A.e
  show WSs X _ _ [some (.ref w), some (.int lo), some (.int hi), none] H
  ktf_call "us"
  refine ⟨w, _, dx, _, rfl, A.h.a0, by rfl, 1, _, [], next_word E, by decide, ?_⟩
  ktf_call "us"
  refine ⟨w, dx, q, ws, p, m, G, _, A, hz, ?_⟩
  ktf_call "us"
  refine ⟨_, G, i, lo, hi, rfl, rfl, rfl, A.h, hb, hl, fun H1 hS1 => ?_⟩
  ktf_call "us"
  refine ⟨w, _, dx, _, rfl, hS1.a0, by rfl, 1, _, [], past E, by decide, ?_⟩
  ktf_call "us"
  refine ⟨w, dx, q, ws, p, m, G, ⟨rfl, A.gq, hS1⟩, rfl, fun H2 A2 => ?_⟩
  ktf_call "us"
  exact k H2 A2
def pStretch (B : Bs) : V → Hp → VK → Prop := fun a H Q => ∃ w dx q ws p m G, ∃ f l : Int, Rd1 B a w dx q ws p (iS f) m G H ∧ ws[p + 1]? = some (iS l) ∧ (0 ≤ f ∧ f ≤ l ∧ l ≤ 399) ∧ ∀ r G' H', Same G G' → G' r = some (.tup [.int f, .int l]) → WAt B a w dx q ws (p + 2) m G' H' → Q (.ref r) H'
theorem stretch (E : Ev B) : Mt B 4 (He.ga B.K "Words") "stretch" (Sp1 (pStretch B)) [] := by
  refine (MFn.mt (c := "Words") (ps := ["self"]) ?_ E.c_Words E.m_Words_stretch)
  refine E.mt 47 rfl rfl rfl rfl (N := ["self", "first"]) (n := 2) (gs := ["LAST_DAY_questiontexts"]) (by decide +kernel) len1 (by ktf_call "b1") ?_
  intro X vs H Q E1 g h
  obtain ⟨_, rfl, w, dx, q, ws, p, m, G, f, l, ⟨A, hz⟩, hz2, hb, k⟩ := h
  obtain rfl := A.e
  show WSs X _ _ [some (.ref w), none] H
  ktf_call "us"
  refine ⟨w, _, dx, _, rfl, A.h.a0, by rfl, 3, _, [], one_number E, by decide, ?_⟩
  ktf_call "us"
  refine ⟨w, dx, q, ws, p, m, G, f, 0, 399, ⟨A, hz⟩, rfl, rfl, by omega, by omega, fun H1 A1 => ?_⟩
  ktf_call "us"
  refine ⟨w, _, dx, _, rfl, A1.h.a0, by rfl, 3, _, [], one_number E, by decide, ?_⟩
  ktf_call "us"
  refine ⟨w, dx, q, ws, p + 1, m, G, l, f, 399, ⟨A1, hz2⟩, rfl, rfl, by omega, by omega, fun H2 A2 => ?_⟩
  ktf_call "us"
  exact nt_f A2.h (by show 2 ≤ sizeLine; decide) fun r G' H' hS e hr => k r G' H' e hr ⟨rfl, e _ _ A2.gq, hS⟩
end
/-! ### text D13 -/
set_option maxHeartbeats 4000000
section
open PySem PySem.Spec PyProof.Rows L2 TL
variable {B : Bs}
theorem name_no {z : Str} (h : NameOk z) {c : Nat} (hc : c < 97) : c ∉ tl z := fun hm => by have := h.2.2 c hm; omega
theorem cm_split {ns : List Str} (h0 : ns ≠ []) (h : ∀ n ∈ ns, NameOk n) : Txt.split (cm ns) "," = ns := split_join (s := 44) (S := []) (by decide +kernel) (by decide +kernel) h0 fun p hp => name_no (h p hp) (by decide)
theorem joinL_len : ∀ (ns : List (List Nat)) (s : List Nat), (joinL s ns).length ≤ (ns.map List.length).sum + ns.length * s.length
  | [], _ => by simp [joinL]
  | [a], _ => by simp [joinL]
  | a :: b :: r, s => by
    have := joinL_len (b :: r) s
    simp only [joinL, List.length_append, List.map_cons, List.sum_cons, List.length_cons] at this ⊢
    have e1 : (r.length + 1 + 1) * s.length = (r.length + 1) * s.length + s.length := Nat.succ_mul _ _
    omega
theorem cm_len {ns : List Str} (hl : ns.length ≤ 8) (h : ∀ n ∈ ns, NameOk n) : (cm ns).length ≤ 72 := by
  unfold cm
  rw [tl_len, join_eq, tl_join]
  refine Nat.le_trans (joinL_len _ _) ?_
  have e : (tl ",").length = 1 := by decide +kernel
  rw [e, List.length_map, List.map_map]
  have : ∀ ms : List Str, (∀ n ∈ ms, NameOk n) → (ms.map (List.length ∘ tl)).sum ≤ ms.length * 8 := by
    intro ms
    induction ms with
    | nil => intro _; simp
    | cons a r ih =>
      intro hh
      have h1 := ih fun n hn => hh n (List.mem_cons_of_mem _ hn)
      have h2 := (hh a List.mem_cons_self).2.1
      rw [tl_len] at h2
      simp only [List.map_cons, List.sum_cons, List.length_cons, Function.comp_apply]
      omega
  have := this ns h
  omega
def pSome (B : Bs) : V → Hp → VK → Prop := fun a H Q => ∃ w dx q ws p m G ns, Rd1 B a w dx q ws p (cm ns) m G H ∧ (1 ≤ ns.length ∧ ns.length ≤ 8 ∧ ns.Nodup ∧ ∀ n ∈ ns, NameOk n) ∧ ∀ r G' H', Same G G' → G' r = some (.lst (ns.map V.str)) → WAt B a w dx q ws (p + 1) m G' H' → Q (.ref r) H'
theorem some_names (E : Ev B) : Mt B 2 (He.ga B.K "Words") "some_names" (Sp1 (pSome B)) [] := by
  have f1 := o_is_name E
  refine (MFn.mt (c := "Words") (ps := ["self"]) ?_ E.c_Words E.m_Words_some_names)
  refine E.mt 45 rfl rfl rfl rfl (N := ["self", "some", "good", "at", "name"]) (n := 5) (gs := ["len", "MOST_NAMES", "enumerate", "is_name"]) (by decide +kernel) len1 (by ktf_call "b1") ?_
  intro X vs H Q E1 g h
  obtain ⟨_, rfl, w, dx, q, ws, p, m, G, ns, ⟨A, hz⟩, ⟨hn1, hn8, hnd, hok⟩, k⟩ := h
  obtain rfl := A.e
  show WSs X _ _ [some (.ref w), none, none, none, none] H
  ktf_call "us"
  refine ⟨w, _, dx, _, rfl, A.h.a0, by rfl, 1, _, [], next_word E, by decide, ?_⟩
  ktf_call "us"
  refine ⟨w, dx, q, ws, p, m, G, _, A, hz, ?_⟩
  ktf_call "us"
  have hc := cm_len hn8 hok
  refine wm_split (by decide +kernel) (Nat.le_trans (Nat.add_le_add_right hc 2) (by decide)) ?_
  rw [cm_split (by intro e; rw [e] at hn1; simp at hn1) hok]
  refine nl_f A.h (by rw [List.length_map]; exact Nat.le_trans hn8 (by decide)) fun r G1 H1 hS1 e1 hr => ?_
  have hr1 := hS1.g _ _ hr
  ktf_call "us"
  refine wcl_lenL g (sql hr1) ?_
  ktf_call "us"
  rw [decide_eq_true (show (((ns.map V.str).length : Nat) : Int) ≤ 8 by rw [List.length_map]; omega)]
  refine wss_cons (ws_forS g (wi_e g (by ktf_call "gm") E.f_enumerate ?_))
  ktf_call "us"
  refine ⟨r, _, rfl, sql hr1, fun i σ' H' => ∃ o3 o4, σ' = [some (.ref w), some (.ref r), some (.bl true), o3, o4] ∧ Hs B ((w, wO B dx q p) :: m) G1 H', ⟨_, _, rfl, hS1⟩, fun i σ' H' _ ⟨_, _, _, h⟩ => sql (h.g _ _ hr), ?_, ?_⟩
  · rintro i x σ' H' _ hi ⟨o3, o4, rfl, hS'⟩ ⟨T, y, rfl, hT, rfl, hy⟩
    rw [List.getElem?_map] at hy
    obtain ⟨n, hni, rfl⟩ := Option.map_eq_some_iff.mp hy
    have hS2 := (hS'.new (u := .tup [.int i, .str n]) hT rfl)
    have hT2 := hS2.a0
    ktf_call "us"
    refine wss_one (ws_ifF (fun H2 => Hs B ((w, wO B dx q p) :: m) G1 H2) ?_ ?_)
    · ktf_call "us"
      refine ⟨_, G1, n, rfl, hS2, hok n (List.mem_of_getElem? hni), fun H3 hS3 => ?_⟩
      ktf_call "us"
      refine wsl_l g (sql (hS3.g _ _ hr)) ?_
      rw [cut_take, ← List.map_take]
      refine nl_m hS3 (by rw [List.length_map, List.length_take]; exact Nat.le_trans (Nat.min_le_right _ _) (Nat.le_trans hn8 (by decide))) fun t H4 hS4 => ?_
      refine wc_in g (.inl (sql hS4.a0)) rfl (flat_strs _) ?_
      rw [inV_str, decide_eq_false (fun hm => ?_)]
      · ktf_call "us"
        exact ⟨rfl, hS4.drop.drop⟩
      · obtain ⟨j, hj, e⟩ := List.mem_take_iff_getElem.mp hm
        have h1 : ns[j]? = some n := by rw [← e]; exact List.getElem?_eq_getElem _
        have := nd_ix hnd h1 hni
        omega
    · intro H2 hS3
      ktf_call "us"
      exact ⟨_, _, rfl, hS3⟩
  · rintro σ' H' ⟨o3, o4, rfl, hS'⟩
    ktf_call "us"
    refine ⟨w, _, dx, _, rfl, hS'.a0, by rfl, 1, _, [], past E, by decide, ?_⟩
    ktf_call "us"
    refine ⟨w, dx, q, ws, p, m, G1, ⟨rfl, e1 _ _ A.gq, hS'⟩, rfl, fun H2 A2 => ?_⟩
    ktf_call "us"
    exact k r G1 H2 e1 hr A2
end
/-! ### text D14 -/
set_option maxHeartbeats 4000000
section
open PySem PySem.Spec PyProof.Rows L2 TL
variable {B : Bs}
theorem mk_frozen {m : List (Addr × HO)} {G H : Hp} {K : Addr} {nm : List Str} {us : List V} {Q : VK} (hS : Hs B m G H) (hl : us.length = nm.length) (k : ∀ x dx G' H', Same G G' → Hs B m G' H' → G' x = some (.ins K dx (nm.zip us)) → Q (.ref x) H') :
    ∀ x dx, H x = none → H dx = none → dx ≠ x → spInit B K nm (.ref x :: us) (upd (upd H dx (.own x)) x (.ins K dx [])) (fun v H2 => v = .non ∧ Q (.ref x) H2) E0 := by
  intro x dx hx hd hn
  refine ⟨x, dx, m, G, us, rfl, hl, hS.mk_i hx hd hn, fun H2 hS2 => ⟨rfl, ?_⟩⟩
  have := hS2.freeze
  exact k x dx _ _ this.2 this.1 upd_same
theorem k_Number (E : Ev B) : Mkr B 1 "Number" (He.ga B.K "Number") (spInit B (He.ga B.K "Number") ["amount"]) [] := (i_Number E E.c_Number E.na_Number_amount).mk E.mk_Number E.g_Number
theorem k_OnDay (E : Ev B) : Mkr B 1 "OnDay" (He.ga B.K "OnDay") (spInit B (He.ga B.K "OnDay") ["name", "day"]) [] := (i_OnDay E E.c_OnDay E.na_OnDay_name E.na_OnDay_day).mk E.mk_OnDay E.g_OnDay
theorem k_Since (E : Ev B) : Mkr B 1 "Since" (He.ga B.K "Since") (spInit B (He.ga B.K "Since") ["name", "amount", "first", "last"]) [] := (i_Since E E.c_Since E.na_Since_name E.na_Since_amount E.na_Since_first E.na_Since_last).mk E.mk_Since E.g_Since
theorem k_Part (E : Ev B) : Mkr B 1 "Part" (He.ga B.K "Part") (spInit B (He.ga B.K "Part") ["name", "other", "first", "last"]) [] := (i_Part E E.c_Part E.na_Part_name E.na_Part_other E.na_Part_first E.na_Part_last).mk E.mk_Part E.g_Part
theorem k_Change (E : Ev B) : Mkr B 1 "Change" (He.ga B.K "Change") (spInit B (He.ga B.K "Change") ["amount", "name", "first", "last"]) [] := (i_Change E E.c_Change E.na_Change_amount E.na_Change_name E.na_Change_first E.na_Change_last).mk E.mk_Change E.g_Change
theorem k_Sum (E : Ev B) : Mkr B 1 "Sum" (He.ga B.K "Sum") (spInit B (He.ga B.K "Sum") ["names", "first", "last"]) [] := ((i_Over E E.c_Sum E.na_Sum_names E.na_Sum_first E.na_Sum_last).inh E.in_Sum___init__).mk E.mk_Sum E.g_Sum
theorem k_Count (E : Ev B) : Mkr B 1 "Count" (He.ga B.K "Count") (spInit B (He.ga B.K "Count") ["names", "first", "last"]) [] := ((i_Over E E.c_Count E.na_Count_names E.na_Count_first E.na_Count_last).inh E.in_Count___init__).mk E.mk_Count E.g_Count
theorem k_Least (E : Ev B) : Mkr B 1 "Least" (He.ga B.K "Least") (spInit B (He.ga B.K "Least") ["names", "first", "last"]) [] := ((i_Over E E.c_Least E.na_Least_names E.na_Least_first E.na_Least_last).inh E.in_Least___init__).mk E.mk_Least E.g_Least
theorem k_Greatest (E : Ev B) : Mkr B 1 "Greatest" (He.ga B.K "Greatest") (spInit B (He.ga B.K "Greatest") ["names", "first", "last"]) [] := ((i_Over E E.c_Greatest E.na_Greatest_names E.na_Greatest_first E.na_Greatest_last).inh E.in_Greatest___init__).mk E.mk_Greatest E.g_Greatest
theorem k_Plus (E : Ev B) : Mkr B 1 "Plus" (He.ga B.K "Plus") (spInit B (He.ga B.K "Plus") ["parts"]) [] := ((i_Nested E E.c_Plus E.na_Plus_parts).inh E.in_Plus___init__).mk E.mk_Plus E.g_Plus
theorem k_Minus (E : Ev B) : Mkr B 1 "Minus" (He.ga B.K "Minus") (spInit B (He.ga B.K "Minus") ["parts"]) [] := ((i_Nested E E.c_Minus E.na_Minus_parts).inh E.in_Minus___init__).mk E.mk_Minus E.g_Minus
theorem k_Less (E : Ev B) : Mkr B 1 "Less" (He.ga B.K "Less") (spInit B (He.ga B.K "Less") ["parts"]) [] := ((i_Nested E E.c_Less E.na_Less_parts).inh E.in_Less___init__).mk E.mk_Less E.g_Less
theorem k_Same (E : Ev B) : Mkr B 1 "Same" (He.ga B.K "Same") (spInit B (He.ga B.K "Same") ["parts"]) [] := ((i_Nested E E.c_Same E.na_Same_parts).inh E.in_Same___init__).mk E.mk_Same E.g_Same
/-- a question's words behind the first, read -/
def pBody (B : Bs) (nd : Nd) : V → V → Hp → VK → Prop := fun a b H Q => ∃ w dx q ws p m G, WAt B a w dx q ws p m G H ∧ b = .str nd.w ∧ At ws p nd.tlW ∧ ∀ v G' H', Same G G' → QO B G' v nd → WAt B a w dx q ws (p + nd.tlW.length) m G' H' → Q v H'
theorem over_ (E : Ev B) (o : Ov) (ns : List Str) (f l : Int) (hok : (Nd.ov o ns f l).ok) (hnk : (Nd.ov o ns f l).nok) : Mt B 5 (He.ga B.K "Words") "over" (Sp2 (pBody B (.ov o ns f l))) [] := by
  have k1 := k_Sum E
  have k2 := k_Count E
  have k3 := k_Least E
  have k4 := k_Greatest E
  refine (MFn.mt (c := "Words") (ps := ["self", "word"]) ?_ E.c_Words E.m_Words_over)
  refine E.mt 51 rfl rfl rfl rfl (N := ["self", "word", "names", "first", "last"]) (n := 5) (gs := ["Sum", "Count", "Least", "Greatest"]) (by decide +kernel) len2 (by ktf_call "b2") ?_
  intro X vs H Q E1 g h
  obtain ⟨_, _, rfl, w, dx, q, ws, p, m, G, A, rfl, hA, k⟩ := h
  obtain rfl := A.e
  obtain ⟨z1, hA⟩ := hA.get
  obtain ⟨z2, hA⟩ := hA.get
  obtain ⟨z3, hA⟩ := hA.get
  show WSs X _ _ [some (.ref w), some (.str o.w), none, none, none] H
  ktf_call "us"
  refine ⟨w, _, dx, _, rfl, A.h.a0, by rfl, 2, _, [], some_names E, by decide, ?_⟩
  ktf_call "us"
  refine ⟨w, dx, q, ws, p, m, G, ns, ⟨A, z1⟩, ⟨hok.2.1, hok.2.2.1, hok.2.2.2, hnk⟩, fun r G1 H1 e1 hr A1 => ?_⟩
  ktf_call "us"
  refine ⟨w, _, dx, _, rfl, A1.h.a0, by rfl, 4, _, [], stretch E, by decide, ?_⟩
  ktf_call "us"
  refine ⟨w, dx, q, ws, p + 1, m, G1, f, l, ⟨A1, z2⟩, z3, hok.1, fun t G2 H2 e2 ht A2 => ?_⟩
  have ht2 := A2.h.g _ _ ht
  ktf_call "us"
  have fin : ∀ x dx' G' H', Same G2 G' → Hs B ((w, wO B dx q ((p + 1 + 2 : Nat) : Int)) :: m) G' H' → G' x = some (.ins (He.ga B.K o.c) dx' [("names", .ref r), ("first", .int f), ("last", .int l)]) → Q (.ref x) H' := by
    intro x dx' G' H' e3 hS hx
    exact k _ G' H' ((e1.trans e2).trans e3) ⟨x, dx', r, rfl, hx, e3 _ _ (e2 _ _ hr)⟩ ⟨rfl, ((e1.trans e2).trans e3) _ _ A.gq, hS⟩
  cases o with
  | sum =>
    ktf_call "i"
    ktf_call "us"
    refine iteDT rfl ?_
    ktf_call "us"
    exact mk_frozen (us := [_, _, _]) A2.h rfl fin
  | count =>
    ktf_call "i"
    ktf_call "us"
    refine iteDF (by decide +kernel) ?_
    ktf_call "us"
    ktf_call "i"
    ktf_call "us"
    refine iteDT rfl ?_
    ktf_call "us"
    exact mk_frozen (us := [_, _, _]) A2.h rfl fin
  | least =>
    ktf_call "i"
    ktf_call "us"
    refine iteDF (by decide +kernel) ?_
    ktf_call "us"
    ktf_call "i"
    ktf_call "us"
    refine iteDF (by decide +kernel) ?_
    ktf_call "us"
    ktf_call "i"
    ktf_call "us"
    refine iteDT rfl ?_
    ktf_call "us"
    exact mk_frozen (us := [_, _, _]) A2.h rfl fin
  | greatest =>
    ktf_call "i"
    ktf_call "us"
    refine iteDF (by decide +kernel) ?_
    ktf_call "us"
    ktf_call "i"
    ktf_call "us"
    refine iteDF (by decide +kernel) ?_
    ktf_call "us"
    ktf_call "i"
    ktf_call "us"
    refine iteDF (by decide +kernel) ?_
    ktf_call "us"
    exact mk_frozen (us := [_, _, _]) A2.h rfl fin
end
/-! ### text D15 -/
set_option maxHeartbeats 4000000
section
open PySem PySem.Spec PyProof.Rows L2 TL
variable {B : Bs}
theorem alone (E : Ev B) (nd : Nd) (hl : nd.leaf = true) (hov : ∀ o ns f l, nd ≠ .ov o ns f l) (hok : nd.ok) (hnk : nd.nok) : Mt B 5 (He.ga B.K "Words") "alone" (Sp2 (pBody B nd)) [] := by
  have k1 := k_Number E
  have k2 := k_OnDay E
  have k3 := k_Since E
  have k4 := k_Part E
  have k5 := k_Change E
  refine (MFn.mt (c := "Words") (ps := ["self", "word"]) ?_ E.c_Words E.m_Words_alone)
  refine E.mt 52 rfl rfl rfl rfl (N := ["self", "word", "amount", "name", "first", "last", "other"]) (n := 7) (gs := ["Number", "FAR", "MOST_CHANGES", "Change", "OnDay", "LAST_DAY_questiontexts", "Since", "Part"]) (by decide +kernel) len2 (by ktf_call "b2") ?_
  intro X vs H Q E1 g h
  obtain ⟨_, _, rfl, w, dx, q, ws, p, m, G, A, rfl, hA, k⟩ := h
  obtain rfl := A.e
  show WSs X _ _ [some (.ref w), some (.str nd.w), none, none, none, none, none] H
  cases nd with
  | ov o ns f l => exact absurd rfl (hov o ns f l)
  | two m a b => cases hl
  | four s a b c d => cases hl
  | num i =>
    show WSs X _ _ [some (.ref w), some (.str (Str.ofString "number")), none, none, none, none, none] H
    obtain ⟨z1, hA⟩ := hA.get
    ktf_call "i"
    ktf_call "us"
    refine iteDT rfl ?_
    ktf_call "us"
    refine ⟨w, _, dx, _, rfl, A.h.a0, by rfl, 3, _, [], one_number E, by decide, ?_⟩
    ktf_call "us"
    refine ⟨w, dx, q, ws, p, m, G, i, _, _, ⟨A, z1⟩, rfl, rfl, hok, by have := hok.1; have := hok.2; omega, fun H1 A1 => ?_⟩
    ktf_call "us"
    exact mk_frozen (us := [_]) A1.h rfl fun x dx' G' H' e hS hx => k _ G' H' e ⟨x, dx', rfl, hx⟩ ⟨rfl, e _ _ A.gq, hS⟩
  | chg c n f l =>
    show WSs X _ _ [some (.ref w), some (.str (Str.ofString "change")), none, none, none, none, none] H
    obtain ⟨z1, hA⟩ := hA.get
    obtain ⟨z2, hA⟩ := hA.get
    obtain ⟨z3, hA⟩ := hA.get
    obtain ⟨z4, hA⟩ := hA.get
    ktf_call "i"
    ktf_call "us"
    refine iteDF (by decide +kernel) ?_
    ktf_call "us"
    ktf_call "i"
    ktf_call "us"
    refine iteDT rfl ?_
    ktf_call "us"
    refine ⟨w, _, dx, _, rfl, A.h.a0, by rfl, 3, _, [], one_number E, by decide, ?_⟩
    ktf_call "us"
    refine ⟨w, dx, q, ws, p, m, G, c, _, _, ⟨A, z1⟩, rfl, rfl, by have := hok.2; omega, hok.2, fun H1 A1 => ?_⟩
    ktf_call "us"
    refine ⟨w, _, dx, _, rfl, A1.h.a0, by rfl, 2, _, [], one_name E, by decide, ?_⟩
    ktf_call "us"
    refine ⟨w, dx, q, ws, p + 1, m, G, n, ⟨A1, z2⟩, hnk n (by simp [Nd.names]), fun H2 A2 => ?_⟩
    ktf_call "us"
    refine ⟨w, _, dx, _, rfl, A2.h.a0, by rfl, 4, _, [], stretch E, by decide, ?_⟩
    ktf_call "us"
    refine ⟨w, dx, q, ws, p + 1 + 1, m, G, f, l, ⟨A2, z3⟩, z4, hok.1, fun t G3 H3 e3 ht A3 => ?_⟩
    have ht3 := A3.h.g _ _ ht
    ktf_call "us"
    exact mk_frozen (us := [_, _, _, _]) A3.h rfl fun x dx' G' H' e hS hx => k _ G' H' (e3.trans e) ⟨x, dx', rfl, hx⟩ ⟨rfl, e _ _ (e3 _ _ A.gq), hS⟩
  | val n d =>
    show WSs X _ _ [some (.ref w), some (.str (Str.ofString "value")), none, none, none, none, none] H
    obtain ⟨z1, hA⟩ := hA.get
    obtain ⟨z2, hA⟩ := hA.get
    ktf_call "i"
    ktf_call "us"
    refine iteDF (by decide +kernel) ?_
    ktf_call "us"
    ktf_call "i"
    ktf_call "us"
    refine iteDF (by decide +kernel) ?_
    ktf_call "us"
    refine ⟨w, _, dx, _, rfl, A.h.a0, by rfl, 2, _, [], one_name E, by decide, ?_⟩
    ktf_call "us"
    refine ⟨w, dx, q, ws, p, m, G, n, ⟨A, z1⟩, hnk n (by simp [Nd.names]), fun H2 A2 => ?_⟩
    ktf_call "us"
    ktf_call "i"
    ktf_call "us"
    refine iteDT rfl ?_
    ktf_call "us"
    refine ⟨w, _, dx, _, rfl, A2.h.a0, by rfl, 3, _, [], one_number E, by decide, ?_⟩
    ktf_call "us"
    refine ⟨w, dx, q, ws, p + 1, m, G, d, _, _, ⟨A2, z2⟩, rfl, rfl, by have := hok.1; have := hok.2; omega, hok, fun H1 A1 => ?_⟩
    ktf_call "us"
    exact mk_frozen (us := [_, _]) A1.h rfl fun x dx' G' H' e hS hx => k _ G' H' e ⟨x, dx', rfl, hx⟩ ⟨rfl, e _ _ A.gq, hS⟩
  | since n x f l =>
    show WSs X _ _ [some (.ref w), some (.str (Str.ofString "since")), none, none, none, none, none] H
    obtain ⟨z1, hA⟩ := hA.get
    obtain ⟨z2, hA⟩ := hA.get
    obtain ⟨z3, hA⟩ := hA.get
    obtain ⟨z4, hA⟩ := hA.get
    ktf_call "i"
    ktf_call "us"
    refine iteDF (by decide +kernel) ?_
    ktf_call "us"
    ktf_call "i"
    ktf_call "us"
    refine iteDF (by decide +kernel) ?_
    ktf_call "us"
    refine ⟨w, _, dx, _, rfl, A.h.a0, by rfl, 2, _, [], one_name E, by decide, ?_⟩
    ktf_call "us"
    refine ⟨w, dx, q, ws, p, m, G, n, ⟨A, z1⟩, hnk n (by simp [Nd.names]), fun H2 A2 => ?_⟩
    ktf_call "us"
    ktf_call "i"
    ktf_call "us"
    refine iteDF (by decide +kernel) ?_
    ktf_call "us"
    ktf_call "i"
    ktf_call "us"
    refine iteDT rfl ?_
    ktf_call "us"
    refine ⟨w, _, dx, _, rfl, A2.h.a0, by rfl, 3, _, [], one_number E, by decide, ?_⟩
    ktf_call "us"
    refine ⟨w, dx, q, ws, p + 1, m, G, x, _, _, ⟨A2, z2⟩, rfl, rfl, hok.2, by have := hok.2.1; have := hok.2.2; omega, fun H1 A1 => ?_⟩
    ktf_call "us"
    refine ⟨w, _, dx, _, rfl, A1.h.a0, by rfl, 4, _, [], stretch E, by decide, ?_⟩
    ktf_call "us"
    refine ⟨w, dx, q, ws, p + 1 + 1, m, G, f, l, ⟨A1, z3⟩, z4, hok.1, fun t G3 H3 e3 ht A3 => ?_⟩
    have ht3 := A3.h.g _ _ ht
    ktf_call "us"
    exact mk_frozen (us := [_, _, _, _]) A3.h rfl fun x dx' G' H' e hS hx => k _ G' H' (e3.trans e) ⟨x, dx', rfl, hx⟩ ⟨rfl, e _ _ (e3 _ _ A.gq), hS⟩
  | part n o f l =>
    show WSs X _ _ [some (.ref w), some (.str (Str.ofString "part")), none, none, none, none, none] H
    obtain ⟨z1, hA⟩ := hA.get
    obtain ⟨z2, hA⟩ := hA.get
    obtain ⟨z3, hA⟩ := hA.get
    obtain ⟨z4, hA⟩ := hA.get
    ktf_call "i"
    ktf_call "us"
    refine iteDF (by decide +kernel) ?_
    ktf_call "us"
    ktf_call "i"
    ktf_call "us"
    refine iteDF (by decide +kernel) ?_
    ktf_call "us"
    refine ⟨w, _, dx, _, rfl, A.h.a0, by rfl, 2, _, [], one_name E, by decide, ?_⟩
    ktf_call "us"
    refine ⟨w, dx, q, ws, p, m, G, n, ⟨A, z1⟩, hnk n (by simp [Nd.names]), fun H2 A2 => ?_⟩
    ktf_call "us"
    ktf_call "i"
    ktf_call "us"
    refine iteDF (by decide +kernel) ?_
    ktf_call "us"
    ktf_call "i"
    ktf_call "us"
    refine iteDF (by decide +kernel) ?_
    ktf_call "us"
    refine ⟨w, _, dx, _, rfl, A2.h.a0, by rfl, 2, _, [], one_name E, by decide, ?_⟩
    ktf_call "us"
    refine ⟨w, dx, q, ws, p + 1, m, G, o, ⟨A2, z2⟩, hnk o (by simp [Nd.names]), fun H1 A1 => ?_⟩
    ktf_call "us"
    refine ⟨w, _, dx, _, rfl, A1.h.a0, by rfl, 4, _, [], stretch E, by decide, ?_⟩
    ktf_call "us"
    refine ⟨w, dx, q, ws, p + 1 + 1, m, G, f, l, ⟨A1, z3⟩, z4, hok, fun t G3 H3 e3 ht A3 => ?_⟩
    have ht3 := A3.h.g _ _ ht
    ktf_call "us"
    exact mk_frozen (us := [_, _, _, _]) A3.h rfl fun x dx' G' H' e hS hx => k _ G' H' (e3.trans e) ⟨x, dx', rfl, hx⟩ ⟨rfl, e _ _ (e3 _ _ A.gq), hS⟩
/-- a question, so many brackets open -/
def pQn (B : Bs) (nd : Nd) (o : Int) : V → V → Hp → VK → Prop := fun a b H Q => ∃ w dx q ws p m G, WAt B a w dx q ws p m G H ∧ b = .int o ∧ At ws p (wordsM nd) ∧ ∀ v G' H', Same G G' → QO B G' v nd → WAt B a w dx q ws (p + (wordsM nd).length) m G' H' → Q v H'
def pBrk (B : Bs) (ks : List Nd) (o : Int) : V → V → V → Hp → VK → Prop := fun a b c H Q => ∃ w dx q ws p m G, WAt B a w dx q ws p m G H ∧ b = .int ks.length ∧ c = .int o ∧ At ws p (ks.flatMap brk) ∧
  ∀ r vs G' H', Same G G' → G' r = some (.lst vs) → Fa (QO B G') vs ks → WAt B a w dx q ws (p + (ks.flatMap brk).length) m G' H' → Q (.ref r) H'
theorem in_brackets (E : Ev B) (ks : List Nd) (o : Int) (ho : o < 3) (hk : ks.length ≤ 4) (j : Nat) (hj : 1 ≤ j) (hq : ∀ k ∈ ks, Mt B j (He.ga B.K "Words") "question" (Sp2 (pQn B k (o + 1))) []) : Mt B (j + 1) (He.ga B.K "Words") "in_brackets" (Sp3 (pBrk B ks o)) [] := by
  refine (MFn.mt (c := "Words") (ps := ["self", "many", "open_now"]) ?_ E.c_Words E.m_Words_in_brackets)
  refine E.mt 48 rfl rfl rfl rfl (N := ["self", "many", "open_now", "found", "part"]) (n := 5) (gs := ["range", "MOST_OPEN"]) (by decide +kernel) len3 (by ktf_call "b3") ?_
  intro X vs H Q E1 g h
  obtain ⟨_, _, _, rfl, w, dx, q, ws, p, m, G, A, rfl, rfl, hA, k⟩ := h
  obtain rfl := A.e
  show WSs X _ _ [some (.ref w), some (.int ks.length), some (.int o), none, none] H
  ktf_call "us"
  refine nl_m A.h (by decide) fun r H1 hS1 => ?_
  ktf_call "us"
  refine wss_cons (ws_forS g (wi_r1 g (by ktf_call "gm") E.f_range ?_))
  ktf_call "us"
  refine ⟨by omega, by omega, ?_⟩
  rw [Int.toNat_natCast]
  refine ⟨fun i σ' H' => ∃ o4 vs G', σ' = [some (.ref w), some (.int ks.length), some (.int o), some (.ref r), o4] ∧ Same G G' ∧ Fa (QO B G') vs (ks.take i) ∧ Hs B ((r, .lst vs) :: (w, wO B dx q ((p + ((ks.take i).flatMap brk).length : Nat) : Int)) :: m) G' H', ⟨none, [], G, rfl, Same.refl _, .nil, hS1⟩, fun _ _ _ _ _ => True.intro, ?_, ?_⟩
  · rintro i y σ' H' _ hi ⟨o4, us, G1, rfl, e1, hF, hS'⟩ ⟨rfl, rfl⟩
    obtain ⟨kd, hkd⟩ : ∃ kd, ks[i]? = some kd := ⟨ks[i], List.getElem?_eq_getElem hi⟩
    have hA' : At ws (p + ((ks.take i).flatMap brk).length) (brk kd) := by
      have e : ks = ks.take i ++ (kd :: ks.drop (i + 1)) := by
        have := List.drop_eq_getElem_cons hi
        rw [List.getElem?_eq_getElem hi] at hkd
        rw [Option.some.inj hkd] at this
        rw [← this, List.take_append_drop]
      rw [e, List.flatMap_append, List.flatMap_cons] at hA
      exact hA.right.left
    have er : (ks.take (i + 1)).flatMap brk = (ks.take i).flatMap brk ++ brk kd := by
      rw [List.take_add_one, hkd, List.flatMap_append]; simp
    generalize hc : ((ks.take i).flatMap brk).length = c at hA' hS'
    obtain ⟨z1, hA'⟩ := hA'.get
    have z2 := hA'.right.get.1
    ktf_call "us"
    refine ⟨w, _, dx, _, rfl, hS'.a1, by rfl, 1, _, [], past E, hj, ?_⟩
    ktf_call "us"
    refine ⟨w, _, dx, _, rfl, hS'.a1, by rfl, 1, _, [], next_word E, hj, ?_⟩
    ktf_call "us"
    refine ⟨w, dx, q, ws, p + c, _, G1, _, ⟨rfl, e1 _ _ A.gq, hS'.swap⟩, z1, ?_⟩
    ktf_call "us"
    refine iteDT rfl ?_
    ktf_call "us"
    rw [decide_eq_true ho]
    refine ⟨w, dx, q, ws, p + c, _, G1, ⟨rfl, e1 _ _ A.gq, hS'.swap⟩, rfl, fun H2 A2 => ?_⟩
    have hr2 := A2.h.a1
    ktf_call "us"
    refine ⟨w, _, dx, _, rfl, A2.h.a0, by rfl, j, _, [], hq kd (List.mem_of_getElem? hkd), Nat.le_refl _, ?_⟩
    ktf_call "us"
    refine ⟨w, dx, q, ws, p + c + 1, _, G1, A2, rfl, hA'.left, fun v G3 H3 e3 hv A3 => ?_⟩
    ktf_call "us"
    refine wm_append A3.h.a1 (by rw [hF.length, List.length_take]; exact Nat.lt_of_le_of_lt (Nat.le_trans (Nat.min_le_right _ _) hk) (by decide)) ?_
    have hS4 := A3.h.set1 (u' := .lst (us ++ [v])) rfl
    ktf_call "us"
    refine ⟨w, _, dx, _, rfl, hS4.a0, by rfl, 1, _, [], past E, hj, ?_⟩
    ktf_call "us"
    refine ⟨w, _, dx, _, rfl, hS4.a0, by rfl, 1, _, [], next_word E, hj, ?_⟩
    ktf_call "us"
    refine ⟨w, dx, q, ws, _, _, G3, _, ⟨rfl, e3 _ _ (e1 _ _ A.gq), hS4⟩, z2, ?_⟩
    ktf_call "us"
    rw [decide_eq_true rfl]
    refine ⟨w, dx, q, ws, _, _, G3, ⟨rfl, e3 _ _ (e1 _ _ A.gq), hS4⟩, rfl, fun H5 A5 => ?_⟩
    ktf_call "us"
    refine ⟨_, us ++ [v], G3, rfl, e1.trans e3, ?_, ?_⟩
    · rw [List.take_add_one, hkd]
      exact (hF.mono fun x t h => h.up e3).append (.cons hv .nil)
    · rw [er, List.length_append, hc]
      have en : p + (c + (brk kd).length) = p + c + 1 + (wordsM kd).length + 1 := by unfold brk; simp; omega
      rw [en]
      exact A5.h.swap
  · rintro σ' H' ⟨o4, us, G1, rfl, e1, hF, hS'⟩
    rw [List.take_length] at hF hS'
    ktf_call "us"
    have hf := hS'.freeze
    exact k r us _ H' (e1.trans hf.2) upd_same (hF.mono fun x t h => h.up hf.2) ⟨rfl, hf.2 _ _ (e1 _ _ A.gq), hf.1⟩
end
/-! ### text D16 -/
set_option maxHeartbeats 4000000
section
open PySem PySem.Spec PyProof.Rows L2 TL
variable {B : Bs}
def pNest (B : Bs) (nd : Nd) (o : Int) : V → V → V → Hp → VK → Prop := fun a b c H Q => ∃ w dx q ws p m G, WAt B a w dx q ws p m G H ∧ b = .str nd.w ∧ c = .int o ∧ At ws p nd.tlW ∧ ∀ v G' H', Same G G' → QO B G' v nd → WAt B a w dx q ws (p + nd.tlW.length) m G' H' → Q v H'
theorem tlW_two (mi : Bool) (x y : Nd) : (Nd.two mi x y).tlW = [x, y].flatMap brk := by simp [Nd.tlW, wordsM, brk]
theorem tlW_four (s : Bool) (x y z t : Nd) : (Nd.four s x y z t).tlW = [x, y, z, t].flatMap brk := by simp [Nd.tlW, wordsM, brk]
theorem nest_two (E : Ev B) (mi : Bool) (x y : Nd) (o : Int) (ho : o < 3) (j : Nat) (hj : 1 ≤ j) (hq : ∀ k ∈ [x, y], Mt B j (He.ga B.K "Words") "question" (Sp2 (pQn B k (o + 1))) []) : Mt B (j + 2) (He.ga B.K "Words") "nested" (Sp3 (pNest B (.two mi x y) o)) [] := by
  have hb := in_brackets E [x, y] o ho (by decide : 2 ≤ 4) j hj hq
  have k1 := k_Plus E
  have k2 := k_Minus E
  refine (MFn.mt (c := "Words") (ps := ["self", "word", "open_now"]) ?_ E.c_Words E.m_Words_nested)
  refine E.mt 50 rfl rfl rfl rfl (N := ["self", "word", "open_now"]) (n := 3) (gs := ["Plus", "Minus", "Less", "Same"]) (by decide +kernel) len3 (by ktf_call "b3") ?_
  intro X vs H Q E1 g h
  obtain ⟨_, _, _, rfl, w, dx, q, ws, p, m, G, A, rfl, rfl, hA, k⟩ := h
  obtain rfl := A.e
  rw [tlW_two] at hA k
  have fin : ∀ (K : Addr), K = He.ga B.K (if mi then "Minus" else "Plus") → ∀ r us G1 H1, Same G G1 → G1 r = some (.lst us) → Fa (QO B G1) us [x, y] → WAt B (.ref w) w dx q ws (p + ([x, y].flatMap brk).length) m G1 H1 → ∀ x' dx', H1 x' = none → H1 dx' = none → dx' ≠ x' → spInit B K ["parts"] (.ref x' :: [.ref r]) (upd (upd H1 dx' (.own x')) x' (.ins K dx' [])) (fun v H2 => v = .non ∧ Q (.ref x') H2) E0 := by
    rintro K rfl r us G1 H1 e1 hr hF A1
    cases hF with
    | cons q1 hF =>
      cases hF with
      | cons q2 hF =>
        cases hF
        exact mk_frozen (us := [_]) A1.h rfl fun x' dx' G' H' e hS hx => k _ G' H' (e1.trans e) ⟨x', dx', r, _, _, rfl, hx, e _ _ hr, q1.up e, q2.up e⟩ ⟨rfl, e _ _ A1.gq, hS⟩
  cases mi with
  | false =>
    show WSs X _ _ [some (.ref w), some (.str (Str.ofString "plus")), some (.int o)] H
    ktf_call "i"
    ktf_call "us"
    refine iteDT rfl ?_
    ktf_call "s"
    ktf_call "s"
    refine we_mk g k1 (by ktf_call "gm") (Nat.succ_le_succ hj) ?_
    ktf_call "us"
    refine ⟨w, _, dx, _, rfl, A.h.a0, by rfl, j + 1, _, [], hb, Nat.le_refl _, ?_⟩
    ktf_call "us"
    refine ⟨w, dx, q, ws, p, m, G, A, rfl, rfl, hA, fun r us G1 H1 e1 hr hF A1 => ?_⟩
    ktf_call "us"
    exact fin _ rfl r us G1 H1 e1 hr hF A1
  | true =>
    show WSs X _ _ [some (.ref w), some (.str (Str.ofString "minus")), some (.int o)] H
    ktf_call "i"
    ktf_call "us"
    refine iteDF (by decide +kernel) ?_
    ktf_call "us"
    ktf_call "i"
    ktf_call "us"
    refine iteDT rfl ?_
    ktf_call "s"
    ktf_call "s"
    refine we_mk g k2 (by ktf_call "gm") (Nat.succ_le_succ hj) ?_
    ktf_call "us"
    refine ⟨w, _, dx, _, rfl, A.h.a0, by rfl, j + 1, _, [], hb, Nat.le_refl _, ?_⟩
    ktf_call "us"
    refine ⟨w, dx, q, ws, p, m, G, A, rfl, rfl, hA, fun r us G1 H1 e1 hr hF A1 => ?_⟩
    ktf_call "us"
    exact fin _ rfl r us G1 H1 e1 hr hF A1
theorem nest_four (E : Ev B) (s : Bool) (x y z t : Nd) (o : Int) (ho : o < 3) (j : Nat) (hj : 1 ≤ j) (hq : ∀ k ∈ [x, y, z, t], Mt B j (He.ga B.K "Words") "question" (Sp2 (pQn B k (o + 1))) []) : Mt B (j + 2) (He.ga B.K "Words") "nested" (Sp3 (pNest B (.four s x y z t) o)) [] := by
  have hb := in_brackets E [x, y, z, t] o ho (by decide : 4 ≤ 4) j hj hq
  have k1 := k_Less E
  have k2 := k_Same E
  refine (MFn.mt (c := "Words") (ps := ["self", "word", "open_now"]) ?_ E.c_Words E.m_Words_nested)
  refine E.mt 50 rfl rfl rfl rfl (N := ["self", "word", "open_now"]) (n := 3) (gs := ["Plus", "Minus", "Less", "Same"]) (by decide +kernel) len3 (by ktf_call "b3") ?_
  intro X vs H Q E1 g h
  obtain ⟨_, _, _, rfl, w, dx, q, ws, p, m, G, A, rfl, rfl, hA, k⟩ := h
  obtain rfl := A.e
  rw [tlW_four] at hA k
  have fin : ∀ (K : Addr), K = He.ga B.K (if s then "Same" else "Less") → ∀ r us G1 H1, Same G G1 → G1 r = some (.lst us) → Fa (QO B G1) us [x, y, z, t] → WAt B (.ref w) w dx q ws (p + ([x, y, z, t].flatMap brk).length) m G1 H1 → ∀ x' dx', H1 x' = none → H1 dx' = none → dx' ≠ x' → spInit B K ["parts"] (.ref x' :: [.ref r]) (upd (upd H1 dx' (.own x')) x' (.ins K dx' [])) (fun v H2 => v = .non ∧ Q (.ref x') H2) E0 := by
    rintro K rfl r us G1 H1 e1 hr hF A1
    cases hF with
    | cons q1 hF =>
      cases hF with
      | cons q2 hF =>
        cases hF with
        | cons q3 hF =>
          cases hF with
          | cons q4 hF =>
            cases hF
            exact mk_frozen (us := [_]) A1.h rfl fun x' dx' G' H' e hS hx => k _ G' H' (e1.trans e) ⟨x', dx', r, _, _, _, _, rfl, hx, e _ _ hr, q1.up e, q2.up e, q3.up e, q4.up e⟩ ⟨rfl, e _ _ A1.gq, hS⟩
  cases s with
  | false =>
    show WSs X _ _ [some (.ref w), some (.str (Str.ofString "less")), some (.int o)] H
    ktf_call "i"
    ktf_call "us"
    refine iteDF (by decide +kernel) ?_
    ktf_call "us"
    ktf_call "i"
    ktf_call "us"
    refine iteDF (by decide +kernel) ?_
    ktf_call "us"
    ktf_call "i"
    ktf_call "us"
    refine iteDT rfl ?_
    ktf_call "s"
    ktf_call "s"
    refine we_mk g k1 (by ktf_call "gm") (Nat.succ_le_succ hj) ?_
    ktf_call "us"
    refine ⟨w, _, dx, _, rfl, A.h.a0, by rfl, j + 1, _, [], hb, Nat.le_refl _, ?_⟩
    ktf_call "us"
    refine ⟨w, dx, q, ws, p, m, G, A, rfl, rfl, hA, fun r us G1 H1 e1 hr hF A1 => ?_⟩
    ktf_call "us"
    exact fin _ rfl r us G1 H1 e1 hr hF A1
  | true =>
    show WSs X _ _ [some (.ref w), some (.str (Str.ofString "same")), some (.int o)] H
    ktf_call "i"
    ktf_call "us"
    refine iteDF (by decide +kernel) ?_
    ktf_call "us"
    ktf_call "i"
    ktf_call "us"
    refine iteDF (by decide +kernel) ?_
    ktf_call "us"
    ktf_call "i"
    ktf_call "us"
    refine iteDF (by decide +kernel) ?_
    ktf_call "s"
    ktf_call "s"
    ktf_call "s"
    refine we_mk g k2 (by ktf_call "gm") (Nat.succ_le_succ hj) ?_
    ktf_call "us"
    refine ⟨w, _, dx, _, rfl, A.h.a0, by rfl, j + 1, _, [], hb, Nat.le_refl _, ?_⟩
    ktf_call "us"
    refine ⟨w, dx, q, ws, p, m, G, A, rfl, rfl, hA, fun r us G1 H1 e1 hr hF A1 => ?_⟩
    ktf_call "us"
    exact fin _ rfl r us G1 H1 e1 hr hF A1
/-! ### a question -/
def Nd.isOv : Nd → Bool
  | .ov .. => true | _ => false
theorem inW1 (nd : Nd) : inV (.str nd.w) [.str "plus", .str "minus", .str "less", .str "same"] = !nd.leaf := by
  cases nd with
  | ov k => cases k <;> (show inV (.str (Str.ofString _)) _ = false; decide +kernel)
  | two b => cases b <;> (show inV (.str (Str.ofString _)) _ = true; decide +kernel)
  | four b => cases b <;> (show inV (.str (Str.ofString _)) _ = true; decide +kernel)
  | _ => show inV (.str (Str.ofString _)) _ = false; decide +kernel
theorem inW2 (nd : Nd) : inV (.str nd.w) [.str "sum", .str "count", .str "least", .str "greatest"] = nd.isOv := by
  cases nd with
  | ov k => cases k <;> (show inV (.str (Str.ofString _)) _ = true; decide +kernel)
  | two b => cases b <;> (show inV (.str (Str.ofString _)) _ = false; decide +kernel)
  | four b => cases b <;> (show inV (.str (Str.ofString _)) _ = false; decide +kernel)
  | _ => show inV (.str (Str.ofString _)) _ = false; decide +kernel
theorem inW3 (nd : Nd) (h1 : nd.leaf = true) (h2 : nd.isOv = false) : inV (.str nd.w) [.str "number", .str "value", .str "since", .str "part", .str "change"] = true := by
  cases nd with
  | ov k => cases h2
  | two b => cases h1
  | four b => cases h1
  | _ => show inV (.str (Str.ofString _)) _ = true; decide +kernel
theorem qn_step (E : Ev B) (nd : Nd) (o : Int) (j : Nat) (hj : 5 ≤ j) (h1 : nd.leaf = false → Mt B j (He.ga B.K "Words") "nested" (Sp3 (pNest B nd o)) []) (h2 : nd.isOv = true → Mt B j (He.ga B.K "Words") "over" (Sp2 (pBody B nd)) []) (h3 : nd.leaf = true → nd.isOv = false → Mt B j (He.ga B.K "Words") "alone" (Sp2 (pBody B nd)) []) :
    Mt B (j + 1) (He.ga B.K "Words") "question" (Sp2 (pQn B nd o)) [] := by
  refine (MFn.mt (c := "Words") (ps := ["self", "open_now"]) ?_ E.c_Words E.m_Words_question)
  refine E.mt 49 rfl rfl rfl rfl (N := ["self", "open_now", "word"]) (n := 3) (gs := []) (by decide +kernel) len2 (by ktf_call "b2") ?_
  intro X vs H Q E1 g h
  obtain ⟨_, _, rfl, w, dx, q, ws, p, m, G, A, rfl, hA, k⟩ := h
  obtain rfl := A.e
  rw [wordsM_cons] at hA k
  obtain ⟨z1, hA⟩ := hA.get
  rw [List.length_cons, show p + (nd.tlW.length + 1) = p + 1 + nd.tlW.length from by omega] at k
  have hj1 : 1 ≤ j := by omega
  show WSs X _ _ [some (.ref w), some (.int o), none] H
  ktf_call "us"
  refine ⟨w, _, dx, _, rfl, A.h.a0, by rfl, 1, _, [], next_word E, hj1, ?_⟩
  ktf_call "us"
  refine ⟨w, dx, q, ws, p, m, G, _, A, z1, ?_⟩
  ktf_call "us"
  refine wss_cons (ws_ifV (!nd.leaf) (fun H1 => Hs B ((w, wO B dx q p) :: m) G H1) ?_ ?_ ?_)
  · ktf_call "us"
    refine nt_f A.h (by show 4 ≤ sizeLine; decide) fun t G1 H1 hS1 e1 ht => ?_
    refine wc_in g (.inr (sqt (hS1.g _ _ ht))) rfl rfl ?_
    rw [inW1]
    exact ⟨_, rfl, rfl, hS1.base e1⟩
  · intro hl H1 hS1
    have hl : nd.leaf = false := by simpa using hl
    ktf_call "us"
    refine ⟨w, _, dx, _, rfl, hS1.a0, by rfl, 1, _, [], past E, hj1, ?_⟩
    ktf_call "us"
    refine ⟨w, dx, q, ws, p, m, G, ⟨rfl, A.gq, hS1⟩, rfl, fun H2 A2 => ?_⟩
    ktf_call "us"
    refine ⟨w, _, dx, _, rfl, A2.h.a0, by rfl, j, _, [], h1 hl, Nat.le_refl _, ?_⟩
    ktf_call "us"
    exact ⟨w, dx, q, ws, p + 1, m, G, A2, rfl, rfl, hA, k⟩
  · intro hl H1 hS1
    have hl : nd.leaf = true := by simpa using hl
    ktf_call "us"
    refine wss_cons (ws_ifV nd.isOv (fun H2 => Hs B ((w, wO B dx q p) :: m) G H2) ?_ ?_ ?_)
    · ktf_call "us"
      refine nt_f hS1 (by show 4 ≤ sizeLine; decide) fun t G2 H2 hS2 e2 ht => ?_
      refine wc_in g (.inr (sqt (hS2.g _ _ ht))) rfl rfl ?_
      rw [inW2]
      exact ⟨_, rfl, rfl, hS2.base e2⟩
    · intro ho H2 hS2
      ktf_call "us"
      refine ⟨w, _, dx, _, rfl, hS2.a0, by rfl, 1, _, [], past E, hj1, ?_⟩
      ktf_call "us"
      refine ⟨w, dx, q, ws, p, m, G, ⟨rfl, A.gq, hS2⟩, rfl, fun H3 A3 => ?_⟩
      ktf_call "us"
      refine ⟨w, _, dx, _, rfl, A3.h.a0, by rfl, j, _, [], h2 ho, Nat.le_refl _, ?_⟩
      ktf_call "us"
      exact ⟨w, dx, q, ws, p + 1, m, G, A3, rfl, hA, k⟩
    · intro ho H2 hS2
      ktf_call "us"
      refine ⟨w, _, dx, _, rfl, hS2.a0, by rfl, 1, _, [], past E, hj1, ?_⟩
      ktf_call "us"
      refine nt_f hS2 (by show 5 ≤ sizeLine; decide) fun t G3 H3 hS3 e3 ht => ?_
      refine wc_in g (.inr (sqt (hS3.g _ _ ht))) rfl rfl ?_
      rw [inW3 nd hl ho]
      ktf_call "us"
      refine ⟨w, dx, q, ws, p, m, G, ⟨rfl, A.gq, hS3.base e3⟩, rfl, fun H4 A4 => ?_⟩
      ktf_call "us"
      refine ⟨w, _, dx, _, rfl, A4.h.a0, by rfl, j, _, [], h3 hl ho, Nat.le_refl _, ?_⟩
      ktf_call "us"
      exact ⟨w, dx, q, ws, p + 1, m, G, A4, rfl, hA, k⟩
theorem all_qn (E : Ev B) : ∀ {nd : Nd} {o : Int}, nd.ok → nd.nok → o + nd.depth ≤ 3 → Mt B (6 + 3 * nd.depth) (He.ga B.K "Words") "question" (Sp2 (pQn B nd o)) []
  | .num i, o, h, hn, _ => qn_step E _ o 5 (by decide) (fun e => by cases e) (fun e => by cases e) fun _ _ => alone E _ rfl (fun _ _ _ _ e => by cases e) h hn
  | .val n d, o, h, hn, _ => qn_step E _ o 5 (by decide) (fun e => by cases e) (fun e => by cases e) fun _ _ => alone E _ rfl (fun _ _ _ _ e => by cases e) h hn
  | .ov k ns f l, o, h, hn, _ => qn_step E _ o 5 (by decide) (fun e => by cases e) (fun _ => over_ E k ns f l h hn) fun _ e => by cases e
  | .since n x f l, o, h, hn, _ => qn_step E _ o 5 (by decide) (fun e => by cases e) (fun e => by cases e) fun _ _ => alone E _ rfl (fun _ _ _ _ e => by cases e) h hn
  | .part n p f l, o, h, hn, _ => qn_step E _ o 5 (by decide) (fun e => by cases e) (fun e => by cases e) fun _ _ => alone E _ rfl (fun _ _ _ _ e => by cases e) h hn
  | .chg c n f l, o, h, hn, _ => qn_step E _ o 5 (by decide) (fun e => by cases e) (fun e => by cases e) fun _ _ => alone E _ rfl (fun _ _ _ _ e => by cases e) h hn
  | .two m a b, o, h, hn, hd => by
    have hd : o + ((max a.depth b.depth + 1 : Nat) : Int) ≤ 3 := hd
    have i1 := (all_qn E (o := o + 1) h.1 (fun n z => hn n (by simp [Nd.names, z])) (by omega)).up (show 6 + 3 * a.depth ≤ 6 + 3 * max a.depth b.depth by omega)
    have i2 := (all_qn E (o := o + 1) h.2 (fun n z => hn n (by simp [Nd.names, z])) (by omega)).up (show 6 + 3 * b.depth ≤ 6 + 3 * max a.depth b.depth by omega)
    have ih : ∀ k ∈ [a, b], Mt B (6 + 3 * max a.depth b.depth) (He.ga B.K "Words") "question" (Sp2 (pQn B k (o + 1))) [] := fun k hk => by
      rcases List.mem_cons.mp hk with e | hk
      · rw [e]; exact i1
      · rw [List.mem_singleton.mp hk]; exact i2
    have := qn_step E (.two m a b) o (6 + 3 * max a.depth b.depth + 2) (by omega) (fun _ => nest_two E m a b o (by omega) _ (by omega) ih) (fun e => by cases e) (fun e => by cases e)
    rw [show 6 + 3 * max a.depth b.depth + 2 + 1 = 6 + 3 * (Nd.two m a b).depth from by show _ = 6 + 3 * (max a.depth b.depth + 1); omega] at this
    exact this
  | .four s a b c d, o, h, hn, hd => by
    have hd : o + ((max (max a.depth b.depth) (max c.depth d.depth) + 1 : Nat) : Int) ≤ 3 := hd
    have i1 := (all_qn E (o := o + 1) h.1 (fun n z => hn n (by simp [Nd.names, z])) (by omega)).up (show 6 + 3 * a.depth ≤ 6 + 3 * max (max a.depth b.depth) (max c.depth d.depth) by omega)
    have i2 := (all_qn E (o := o + 1) h.2.1 (fun n z => hn n (by simp [Nd.names, z])) (by omega)).up (show 6 + 3 * b.depth ≤ 6 + 3 * max (max a.depth b.depth) (max c.depth d.depth) by omega)
    have i3 := (all_qn E (o := o + 1) h.2.2.1 (fun n z => hn n (by simp [Nd.names, z])) (by omega)).up (show 6 + 3 * c.depth ≤ 6 + 3 * max (max a.depth b.depth) (max c.depth d.depth) by omega)
    have i4 := (all_qn E (o := o + 1) h.2.2.2 (fun n z => hn n (by simp [Nd.names, z])) (by omega)).up (show 6 + 3 * d.depth ≤ 6 + 3 * max (max a.depth b.depth) (max c.depth d.depth) by omega)
    have ih : ∀ k ∈ [a, b, c, d], Mt B (6 + 3 * max (max a.depth b.depth) (max c.depth d.depth)) (He.ga B.K "Words") "question" (Sp2 (pQn B k (o + 1))) [] := fun k hk => by
      rcases List.mem_cons.mp hk with e | hk
      · rw [e]; exact i1
      rcases List.mem_cons.mp hk with e | hk
      · rw [e]; exact i2
      rcases List.mem_cons.mp hk with e | hk
      · rw [e]; exact i3
      · rw [List.mem_singleton.mp hk]; exact i4
    have := qn_step E (.four s a b c d) o (6 + 3 * max (max a.depth b.depth) (max c.depth d.depth) + 2) (by omega) (fun _ => nest_four E s a b c d o (by omega) _ (by omega) ih) (fun e => by cases e) (fun e => by cases e)
    rw [show 6 + 3 * max (max a.depth b.depth) (max c.depth d.depth) + 2 + 1 = 6 + 3 * (Nd.four s a b c d).depth from by show _ = 6 + 3 * (max (max a.depth b.depth) (max c.depth d.depth) + 1); omega] at this
    exact this
end
/-! ### text D17 -/
set_option maxHeartbeats 4000000
section
open PySem PySem.Spec PyProof.Rows L2 TL
variable {B : Bs}
def textM (nd : Nd) : Str := Txt.join " " (wordsM nd)
theorem joinL_ge (c : Nat) : ∀ ws : List (List Nat), ws.length ≤ (joinL [c] ws).length + 1
  | [] => by simp
  | [a] => by simp
  | a :: b :: r => by
    have := joinL_ge c (b :: r)
    simp only [joinL, List.length_append, List.length_cons] at this ⊢
    omega
theorem sp_tl : tl (Str.ofString " ") = [32] := by decide +kernel
theorem join_ge (ws : List Str) : ws.length ≤ (Txt.join " " ws).length + 1 := by
  rw [tl_len, join_eq, tl_join, sp_tl]
  have := joinL_ge 32 (ws.map tl)
  rw [List.length_map] at this
  exact this
theorem nosp_iS (i : Int) : 32 ∉ tl (iS i) := by
  rw [tl_iS]
  unfold intL
  split
  · intro h
    rcases List.mem_cons.mp h with h | h
    · cases h
    · exact numL_free (by decide) h
  · exact numL_free (by decide)
theorem joinL_mem {c : Nat} {s : List Nat} : ∀ {ws : List (List Nat)}, c ∈ joinL s ws → c ∈ s ∨ ∃ w ∈ ws, c ∈ w
  | [], h => by simp [joinL] at h
  | [a], h => .inr ⟨a, by simp, by simpa [joinL] using h⟩
  | a :: b :: r, h => by
    simp only [joinL, List.mem_append] at h
    rcases h with h | h | h
    · exact .inr ⟨a, by simp, h⟩
    · exact .inl h
    · rcases joinL_mem h with h | ⟨w, hw, h⟩
      · exact .inl h
      · exact .inr ⟨w, List.mem_cons_of_mem _ hw, h⟩
theorem nosp_cm {ns : List Str} (h : ∀ n ∈ ns, NameOk n) : 32 ∉ tl (cm ns) := by
  unfold cm
  rw [join_eq, tl_join]
  intro hm
  rcases joinL_mem hm with h1 | ⟨w, hw, h1⟩
  · revert h1; decide +kernel
  · obtain ⟨n, hn, rfl⟩ := List.mem_map.mp hw
    exact name_no (h n hn) (by decide) h1
theorem nosp_words : ∀ {nd : Nd}, nd.nok → ∀ z ∈ wordsM nd, 32 ∉ tl z := by
  have lit : ∀ s : String, 32 ∉ tl (Str.ofString s) → 32 ∉ tl (Str.ofString s) := fun _ h => h
  have b1 : 32 ∉ tl (Str.ofString "(") := by decide +kernel
  have b2 : 32 ∉ tl (Str.ofString ")") := by decide +kernel
  intro nd
  induction nd with
  | num i =>
    intro hn z hz
    simp only [wordsM, List.mem_cons, List.not_mem_nil, or_false] at hz
    rcases hz with rfl | rfl
    · decide +kernel
    · exact nosp_iS _
  | val n d =>
    intro hn z hz
    simp only [wordsM, List.mem_cons, List.not_mem_nil, or_false] at hz
    rcases hz with rfl | rfl | rfl
    · decide +kernel
    · exact name_no (hn _ (by simp [Nd.names])) (by decide)
    · exact nosp_iS _
  | ov k ns f l =>
    intro hn z hz
    simp only [wordsM, List.mem_cons, List.not_mem_nil, or_false] at hz
    rcases hz with rfl | rfl | rfl | rfl
    · cases k <;> decide +kernel
    · exact nosp_cm hn
    · exact nosp_iS _
    · exact nosp_iS _
  | since n a f l =>
    intro hn z hz
    simp only [wordsM, List.mem_cons, List.not_mem_nil, or_false] at hz
    rcases hz with rfl | rfl | rfl | rfl | rfl
    · decide +kernel
    · exact name_no (hn _ (by simp [Nd.names])) (by decide)
    · exact nosp_iS _
    · exact nosp_iS _
    · exact nosp_iS _
  | part n o f l =>
    intro hn z hz
    simp only [wordsM, List.mem_cons, List.not_mem_nil, or_false] at hz
    rcases hz with rfl | rfl | rfl | rfl | rfl
    · decide +kernel
    · exact name_no (hn _ (by simp [Nd.names])) (by decide)
    · exact name_no (hn _ (by simp [Nd.names])) (by decide)
    · exact nosp_iS _
    · exact nosp_iS _
  | chg k n f l =>
    intro hn z hz
    simp only [wordsM, List.mem_cons, List.not_mem_nil, or_false] at hz
    rcases hz with rfl | rfl | rfl | rfl | rfl
    · decide +kernel
    · exact nosp_iS _
    · exact name_no (hn _ (by simp [Nd.names])) (by decide)
    · exact nosp_iS _
    · exact nosp_iS _
  | two m a b i1 i2 =>
    intro hn z hz
    have h1 := i1 fun n h => hn n (by simp [Nd.names, h])
    have h2 := i2 fun n h => hn n (by simp [Nd.names, h])
    simp only [wordsM, List.mem_cons, List.mem_append, List.not_mem_nil, or_false] at hz
    rcases hz with rfl | (rfl | hz | rfl) | rfl | hz | rfl
    · cases m <;> decide +kernel
    · exact b1
    · exact h1 z hz
    · exact b2
    · exact b1
    · exact h2 z hz
    · exact b2
  | four s a b c d i1 i2 i3 i4 =>
    intro hn z hz
    have h1 := i1 fun n h => hn n (by simp [Nd.names, h])
    have h2 := i2 fun n h => hn n (by simp [Nd.names, h])
    have h3 := i3 fun n h => hn n (by simp [Nd.names, h])
    have h4 := i4 fun n h => hn n (by simp [Nd.names, h])
    simp only [wordsM, List.mem_cons, List.mem_append, List.not_mem_nil, or_false] at hz
    rcases hz with rfl | (rfl | hz | rfl) | (rfl | hz | rfl) | (rfl | hz | rfl) | rfl | hz | rfl
    · cases s <;> decide +kernel
    · exact b1
    · exact h1 z hz
    · exact b2
    · exact b1
    · exact h2 z hz
    · exact b2
    · exact b1
    · exact h3 z hz
    · exact b2
    · exact b1
    · exact h4 z hz
    · exact b2
theorem text_split {nd : Nd} (h : nd.nok) : Txt.split (textM nd) " " = wordsM nd := split_join (s := 32) (S := []) sp_tl (by decide +kernel) (by rw [wordsM_cons]; simp) (nosp_words h)
def spWords (B : Bs) : Sp := fun vs H Q _ => ∃ x dx m G nd, vs = [.ref x, .str (textM nd)] ∧ nd.nok ∧ (textM nd).length ≤ 400 ∧ Hs B ((x, .ins (He.ga B.K "Words") dx []) :: m) G H ∧
  ∀ q G' H', Same G G' → G' q = some (.lst ((wordsM nd).map V.str)) → Hs B ((x, wO B dx q 0) :: m) G' H' → Q .non H'
theorem k_Words (E : Ev B) : Mkr B 1 "Words" (He.ga B.K "Words") (spWords B) [] := by
  refine MFn.mk (ps := ["self", "line"]) ?_ E.mk_Words E.g_Words
  refine E.mt 41 rfl rfl rfl rfl (N := ["self", "line"]) (n := 2) (gs := []) (by decide +kernel) (fun vs H Q E h => by obtain ⟨x, dx, m, G, nd, rfl, _⟩ := h; rfl) (by ktf_call "b2") ?_
  intro X vs H Q E1 g h
  obtain ⟨x, dx, m, G, nd, rfl, hn, hl, hS, k⟩ := h
  show WSs X _ _ [some (.ref x), some (.str (textM nd))] H
  ktf_call "us"
  refine wm_split (by decide +kernel) (Nat.le_trans (Nat.add_le_add_right hl 2) (by decide)) ?_
  rw [text_split hn]
  have hw := join_ge (wordsM nd)
  refine nl_f hS (by rw [List.length_map]; exact Nat.le_trans (Nat.le_trans hw (Nat.succ_le_succ hl)) (by decide)) fun q G1 H1 hS1 e1 hq => ?_
  refine ⟨x, _, dx, [], m, G1, by ktf_call "sv", hS1, E.c_Words, E.na_Words_left, by simp, fun H2 hS2 => ?_⟩
  ktf_call "us"
  refine ⟨x, _, dx, [("left", .ref q)], m, G1, by ktf_call "sv", hS2, E.c_Words, E.na_Words_place, by simp, fun H3 hS3 => ?_⟩
  ktf_call "us"
  exact k q G1 H3 e1 hq hS3
def pQof (B : Bs) (nd : Nd) : V → Hp → VK → Prop := fun a H Q => ∃ (m : List (Addr × HO)) (G : Hp), a = .str (textM nd) ∧ Hs B m G H ∧ ∀ v G' H', Same G G' → Hs B m G' H' → QO B G' v nd → Q v H'
theorem question_of (E : Ev B) (nd : Nd) (h1 : nd.ok) (h2 : nd.nok) (h3 : nd.depth ≤ 3) (h4 : (textM nd).length ≤ 400) : Fn B 16 "question_of" (Sp1 (pQof B nd)) [] := by
  have k1 := k_Words E
  have hq := all_qn E (o := 0) h1 h2 (by omega)
  refine E.fn 53 rfl rfl rfl rfl (N := ["text", "words", "question"]) (n := 3) (ps := ["text"]) (gs := ["isinstance", "str", "BadQuestion", "Words", "len"]) (by decide +kernel) len1 (by ktf_call "b1") ?_
  intro X vs H Q E1 g h
  obtain ⟨_, rfl, m, G, rfl, hS, k⟩ := h
  show WSs X _ _ [some (.str (textM nd)), none, none] H
  ktf_call "i"
  ktf_call "us"
  intro x dx hx hd hne
  refine ⟨x, dx, m, G, nd, rfl, h2, h4, hS.mk_i hx hd hne, fun q G1 H1 e1 hq1 hS1 => ⟨rfl, ?_⟩⟩
  have A : WAt B (.ref x) x dx q (wordsM nd) 0 m G1 H1 := ⟨rfl, hq1, hS1⟩
  ktf_call "us"
  refine ⟨x, _, dx, _, rfl, hS1.a0, by rfl, _, _, [], hq, by omega, ?_⟩
  ktf_call "us"
  refine ⟨x, dx, q, wordsM nd, 0, m, G1, A, rfl, ⟨[], by simp⟩, fun v G2 H2 e2 hv A2 => ?_⟩
  have c1 := E.c_Words
  have n1 := E.na_Words_place
  have n2 := E.na_Words_left
  have hw := A2.h.a0
  have hqq := A2.h.g _ _ A2.gq
  ktf_call "us"
  ktf_call "i"
  ktf_call "fs"
  refine wcl_lenL g (sql hqq) ?_
  ktf_call "us"
  refine iteDF (by rw [List.length_map]; omega) ?_
  ktf_call "us"
  exact k v G2 H2 (e1.trans e2) A2.h.drop hv
end
/-! ### text D27 -/
set_option maxHeartbeats 4000000
section
open PySem PySem.Spec PyProof.Rows L2 TL
variable {B : Bs}
def pAskedAs (B : Bs) (nd : Nd) : V → V → V → Hp → VK → Prop := fun a b c H Q => ∃ p S t m G, a = .ref p.b ∧ (b = .str (textM nd) ∨ QO B G b nd) ∧ c = tV t ∧ (∀ n ∈ nd.names, n ∈ S.ns) ∧ S.ns ≠ [] ∧ turnV S.nd t ≤ S.nd ∧ BkM B p S m G ∧ Hs B m G H ∧
  ∀ v G' H', Same G G' → QO B G' v nd → Hs B m G' H' → Q v H'
theorem asked_as (E : EvQ B) (nd : Nd) (h1 : nd.ok) (h2 : nd.nok) (h3 : nd.depth ≤ 3) (h4 : (textM nd).length ≤ 400) : Fn B 17 "asked_as" (Sp3 (pAskedAs B nd)) [] := by
  have f1 := question_of E.e nd h1 h2 h3 h4
  have q1 := E
  have E := E.e
  refine E.fn 61 rfl rfl rfl rfl (N := ["book", "question", "turn", "names", "name"]) (n := 5) (ps := ["book", "question", "turn"]) (gs := ["isinstance", "Question", "question_of", "NoKey"]) (by decide +kernel) len3 (by ktf_call "b3") ?_
  intro X vs0 H Q E1 g h
  obtain ⟨_, _, _, rfl, p, S, t, m, G, rfl, hb, rfl, hn, hne, ht, A, hS, k⟩ := h
  show WSs X _ _ [some (.ref p.b), some _, some (tV t), none, none] H
  refine wss_cut (fun σ' H' => ∃ v G', σ' = [some (.ref p.b), some v, some (tV t), none, none] ∧ Same G G' ∧ QO B G' v nd ∧ Hs B m G' H') ?_ ?_
  · rcases hb with rfl | hq
    · ktf_call "i"
      ktf_call "us"
      refine we_gl g (v := .ref (He.ga B.K "Question")) (by ktf_call "gm") ⟨_, E.g_Question, rfl⟩ ?_
      ktf_call "us"
      refine isi_qs q1 g ?_
      ktf_call "us"
      refine ⟨m, G, rfl, hS, fun v G' H' e1 hS' hv => ?_⟩
      ktf_call "us"
      exact ⟨v, G', rfl, e1, hv, hS'⟩
    · obtain ⟨a, dx, fs, rfl, ha, hfs⟩ := hq.cls
      ktf_call "i"
      ktf_call "us"
      refine we_gl g (v := .ref (He.ga B.K "Question")) (by ktf_call "gm") ⟨_, E.g_Question, rfl⟩ ?_
      ktf_call "us"
      refine isi_qo q1 g (hS.g _ _ ha) ?_
      ktf_call "us"
      exact ⟨.ref a, G, rfl, Same.refl _, hq, hS⟩
  · rintro σ' H' ⟨v, G', rfl, e1, hq, hS'⟩
    have A' := A.up e1 (fun q h => h)
    have ho := A'.ob hS'
    ktf_call "us"
    refine ⟨p.b, _, p.dx, _, rfl, ho, by rfl, 1, _, [], all_keys E, by decide, ?_⟩
    ktf_call "us"
    refine ⟨p, S, m, G', rfl, A', hS', fun qn H1 hS1 => ?_⟩
    ktf_call "us"
    obtain ⟨a, dx, fs, rfl, ha, hfs⟩ := hq.cls
    refine wss_cons (ws_forS g (wi_l g ?_))
    ktf_call "us"
    refine ⟨a, _, dx, _, rfl, hS1.g _ _ ha, lookup_out hfs (by decide), 5, _, [], (all_asked E h1 h3).up (by omega), by decide, ?_⟩
    ktf_call "us"
    refine ⟨_, G', hq, hS1, fun q2 ks H2 hks hS2 => ?_⟩
    refine ⟨q2, _, rfl, sql hS2.a0, fun i σ' H' => ∃ o, σ' = [some (.ref p.b), some (.ref a), some (tV t), some (.ref qn), o] ∧ H' = H2, ⟨_, rfl, rfl⟩, fun i σ' H' _ ⟨_, _, e⟩ => by rw [e]; exact sql hS2.a0, ?_, ?_⟩
    · rintro i x σ' H' _ hi ⟨o, rfl, rfl⟩ ⟨rfl, hx⟩
      rw [List.getElem?_map] at hx
      obtain ⟨n, hni, rfl⟩ := Option.map_eq_some_iff.mp hx
      have hnn := hn _ (hks _ (List.mem_of_getElem? hni))
      ktf_call "us"
      ktf_call "i"
      ktf_call "us"
      refine wc_ni g (.inl (sql hS2.a1)) rfl (flat_strs _) ?_
      rw [inV_str, decide_eq_true hnn]
      ktf_call "us"
      exact rfl
    · rintro σ' H' ⟨o, rfl, rfl⟩
      have A2 := A'.up (Same.refl _) (m' := (q2, .lst (ks.map V.str)) :: (qn, .lst (S.ns.map V.str)) :: m) (fun q h => List.mem_cons_of_mem _ (List.mem_cons_of_mem _ h))
      have ho2 := A2.ob hS2
      obtain ⟨z, zs, hzs⟩ := List.exists_cons_of_ne_nil hne
      have hn2 := hS2.a1
      ktf_call "us"
      refine ⟨p.b, _, p.dx, _, rfl, ho2, by rfl, 3, _, [], table_ E, by decide, ?_⟩
      ktf_call "us"
      refine wx_l g (sql hn2) (at_nat 0 rfl (by rw [hzs]; rfl : (S.ns.map V.str)[0]? = some (.str z))) ?_
      ktf_call "us"
      refine ⟨p, S, _, G', z, t, rfl, rfl, rfl, by rw [hzs]; exact List.mem_cons_self, ht, A2, hS2, fun q3 vs3 G3 H3 e3 hF3 hS3 => ?_⟩
      ktf_call "us"
      exact k _ _ _ (e1.trans e3) (hq.up e3) hS3.drop.drop.drop
end
/-! ### text E5 -/
set_option maxHeartbeats 4000000
section
open PySem PySem.Spec PyProof.Rows L2 TL
variable {B : Bs}
theorem wcl_strS {X : Cx} {H : Hp} {Q : VK} {z : Str} (h : Q (.str z) H) : WCl X (.type "str") [.str z] H Q := ⟨_, SkE.call_str_str, z, rfl, h⟩
/-! ### how long -/
def wtL (ws : List Str) : Nat := (ws.map (·.length)).sum + ws.length
theorem wtL_app (a b : List Str) : wtL (a ++ b) = wtL a + wtL b := by
  unfold wtL
  rw [List.map_append, List.sum_append, List.length_append]
  omega
theorem wtL_cons (a : Str) (b : List Str) : wtL (a :: b) = a.length + 1 + wtL b := by
  unfold wtL
  simp only [List.map_cons, List.sum_cons, List.length_cons]
  omega
theorem wtL_nil : wtL [] = 0 := rfl
theorem brk_w (k : Nd) : wtL (brk k) = wtL (wordsM k) + 4 := by
  unfold brk
  rw [wtL_cons, wtL_app, wtL_cons, wtL_nil, show (Str.ofString "(").length = 1 from by decide +kernel, show (Str.ofString ")").length = 1 from by decide +kernel]
  omega
theorem w_len : ∀ nd : Nd, nd.w.length ≤ 8
  | .num _ => (show (Str.ofString "number").length ≤ 8 from by decide +kernel)
  | .val .. => (show (Str.ofString "value").length ≤ 8 from by decide +kernel)
  | .since .. => (show (Str.ofString "since").length ≤ 8 from by decide +kernel)
  | .part .. => (show (Str.ofString "part").length ≤ 8 from by decide +kernel)
  | .chg .. => (show (Str.ofString "change").length ≤ 8 from by decide +kernel)
  | .ov k .. => by
    have : ∀ k : Ov, k.w.length ≤ 8 := by intro k; cases k <;> decide +kernel
    exact this k
  | .two m .. => by
    have : ∀ m : Bool, (if m then Str.ofString "minus" else Str.ofString "plus").length ≤ 8 := by intro k; cases k <;> decide +kernel
    exact this m
  | .four s .. => by
    have : ∀ m : Bool, (if m then Str.ofString "same" else Str.ofString "less").length ≤ 8 := by intro k; cases k <;> decide +kernel
    exact this s
theorem leaf_w {nd : Nd} (hl : nd.leaf = true) (h1 : nd.ok) (h2 : nd.nok) : wtL (wordsM nd) ≤ 110 := by
  have hw := w_len nd
  rw [wordsM_cons, wtL_cons]
  cases nd with
  | num i =>
    have a1 := iS_len (i := i) h1
    show _ + wtL [iS i] ≤ _
    simp only [wtL_cons, wtL_nil]; omega
  | val n d =>
    have h1 : 0 ≤ d ∧ d ≤ 399 := h1
    have a1 := iS_len (i := d) (by omega)
    have a2 := (h2 n (by simp [Nd.names])).2.1
    show _ + wtL [n, iS d] ≤ _
    simp only [wtL_cons, wtL_nil]; omega
  | ov k ns f l =>
    obtain ⟨hb, h3, h4, h5⟩ := h1
    have a1 := iS_len (i := f) (by omega)
    have a2 := iS_len (i := l) (by omega)
    have a3 := cm_len h4 (fun n hn => h2 n hn)
    show _ + wtL [cm ns, iS f, iS l] ≤ _
    simp only [wtL_cons, wtL_nil]; omega
  | since n a f l =>
    obtain ⟨hb, h3, h4⟩ := h1
    have a1 := iS_len (i := f) (by omega)
    have a2 := iS_len (i := l) (by omega)
    have a3 := iS_len (i := a) (by omega)
    have a4 := (h2 n (by simp [Nd.names])).2.1
    show _ + wtL [n, iS a, iS f, iS l] ≤ _
    simp only [wtL_cons, wtL_nil]; omega
  | part n o f l =>
    have hb : 0 ≤ f ∧ f ≤ l ∧ l ≤ 399 := h1
    have a1 := iS_len (i := f) (by omega)
    have a2 := iS_len (i := l) (by omega)
    have a3 := (h2 n (by simp [Nd.names])).2.1
    have a4 := (h2 o (by simp [Nd.names])).2.1
    show _ + wtL [n, o, iS f, iS l] ≤ _
    simp only [wtL_cons, wtL_nil]; omega
  | chg k n f l =>
    obtain ⟨hb, h3, h4⟩ := h1
    have a1 := iS_len (i := f) (by omega)
    have a2 := iS_len (i := l) (by omega)
    have a3 := iS_len (i := k) (by omega)
    have a4 := (h2 n (by simp [Nd.names])).2.1
    show _ + wtL [iS k, n, iS f, iS l] ≤ _
    simp only [wtL_cons, wtL_nil]; omega
  | two m a b => cases hl
  | four s a b c d => cases hl
theorem words_two (m : Bool) (a b : Nd) : wordsM (.two m a b) = (Nd.two m a b).w :: [a, b].flatMap brk := by
  show _ :: (brk a ++ brk b) = _
  simp [List.flatMap_cons]
  rfl
theorem words_four (s : Bool) (a b c d : Nd) : wordsM (.four s a b c d) = (Nd.four s a b c d).w :: [a, b, c, d].flatMap brk := by
  show _ :: (brk a ++ (brk b ++ (brk c ++ brk d))) = _
  simp [List.flatMap_cons]
  rfl
theorem words_w : ∀ (nd : Nd), nd.ok → nd.nok → wtL (wordsM nd) ≤ 110 * 5 ^ nd.depth
  | .num i, h1, h2 => Nat.le_trans (leaf_w rfl h1 h2) (by simp [Nd.depth])
  | .val n d, h1, h2 => Nat.le_trans (leaf_w rfl h1 h2) (by simp [Nd.depth])
  | .ov k ns f l, h1, h2 => Nat.le_trans (leaf_w rfl h1 h2) (by simp [Nd.depth])
  | .since n a f l, h1, h2 => Nat.le_trans (leaf_w rfl h1 h2) (by simp [Nd.depth])
  | .part n o f l, h1, h2 => Nat.le_trans (leaf_w rfl h1 h2) (by simp [Nd.depth])
  | .chg k n f l, h1, h2 => Nat.le_trans (leaf_w rfl h1 h2) (by simp [Nd.depth])
  | .two m a b, h1, h2 => by
    have i1 := words_w a h1.1 fun n z => h2 n (by simp [Nd.names, z])
    have i2 := words_w b h1.2 fun n z => h2 n (by simp [Nd.names, z])
    have hw := w_len (.two m a b)
    have p1 : 5 ^ a.depth ≤ 5 ^ (max a.depth b.depth) := Nat.pow_le_pow_right (by decide) (by omega)
    have p2 : 5 ^ b.depth ≤ 5 ^ (max a.depth b.depth) := Nat.pow_le_pow_right (by decide) (by omega)
    have p3 : 0 < 5 ^ (max a.depth b.depth) := Nat.pow_pos (by decide)
    rw [words_two, wtL_cons]
    show _ ≤ 110 * 5 ^ (max a.depth b.depth + 1)
    rw [Nat.pow_succ]
    simp only [List.flatMap_cons, List.flatMap_nil, wtL_app, brk_w, wtL_nil]
    omega
  | .four s a b c d, h1, h2 => by
    have i1 := words_w a h1.1 fun n z => h2 n (by simp [Nd.names, z])
    have i2 := words_w b h1.2.1 fun n z => h2 n (by simp [Nd.names, z])
    have i3 := words_w c h1.2.2.1 fun n z => h2 n (by simp [Nd.names, z])
    have i4 := words_w d h1.2.2.2 fun n z => h2 n (by simp [Nd.names, z])
    have hw := w_len (.four s a b c d)
    have p1 : 5 ^ a.depth ≤ 5 ^ (max (max a.depth b.depth) (max c.depth d.depth)) := Nat.pow_le_pow_right (by decide) (by omega)
    have p2 : 5 ^ b.depth ≤ 5 ^ (max (max a.depth b.depth) (max c.depth d.depth)) := Nat.pow_le_pow_right (by decide) (by omega)
    have p4 : 5 ^ c.depth ≤ 5 ^ (max (max a.depth b.depth) (max c.depth d.depth)) := Nat.pow_le_pow_right (by decide) (by omega)
    have p5 : 5 ^ d.depth ≤ 5 ^ (max (max a.depth b.depth) (max c.depth d.depth)) := Nat.pow_le_pow_right (by decide) (by omega)
    have p3 : 0 < 5 ^ (max (max a.depth b.depth) (max c.depth d.depth)) := Nat.pow_pos (by decide)
    rw [words_four, wtL_cons]
    show _ ≤ 110 * 5 ^ (max (max a.depth b.depth) (max c.depth d.depth) + 1)
    rw [Nat.pow_succ]
    simp only [List.flatMap_cons, List.flatMap_nil, wtL_app, brk_w, wtL_nil]
    omega
theorem words_few {nd : Nd} (h1 : nd.ok) (h2 : nd.nok) (h3 : nd.depth ≤ 3) : wtL (wordsM nd) ≤ 13750 := by
  refine Nat.le_trans (words_w nd h1 h2) ?_
  have : 5 ^ nd.depth ≤ 5 ^ 3 := Nat.pow_le_pow_right (by decide) h3
  omega
theorem text_len (nd : Nd) : (textM nd).length ≤ wtL (wordsM nd) := by
  unfold textM
  rw [tl_len, join_eq, tl_join]
  refine Nat.le_trans (joinL_len _ _) ?_
  rw [show (tl " ").length = 1 from by decide +kernel, List.length_map, List.map_map]
  unfold wtL
  have : ((wordsM nd).map (List.length ∘ tl)).sum = ((wordsM nd).map (·.length)).sum := by
    congr 1
  omega
/-! ### a node's words -/
/-- an item and its word -/
def ItW (G : Hp) (x : V) (z : Str) : Prop := x = .str z ∨ (∃ i : Int, x = .int i ∧ z = iS i ∧ -(10 ^ 9) ≤ i ∧ i ≤ 10 ^ 9) ∨ ∃ (p : Addr) (ns : List Str), x = .ref p ∧ G p = some (.lst (ns.map V.str)) ∧ z = cm ns ∧ ns.length ≤ 8 ∧ ∀ n ∈ ns, NameOk n
theorem ItW.up {G G' : Hp} (e : Same G G') {x : V} {z : Str} (h : ItW G x z) : ItW G' x z := by
  rcases h with h | h | ⟨p, ns, h1, h2, h3⟩
  · exact .inl h
  · exact .inr (.inl h)
  · exact .inr (.inr ⟨p, ns, h1, e _ _ h2, h3⟩)
theorem itI {G : Hp} {i : Int} (h : -(10 ^ 9) ≤ i ∧ i ≤ 10 ^ 9) : ItW G (.int i) (iS i) := .inr (.inl ⟨i, rfl, rfl, h⟩)
theorem NR.leaf {G : Hp} {v : V} {nd : Nd} (h : NR G v nd) (hl : nd.leaf = true) (h1 : nd.ok) (h2 : nd.nok) : ∃ a xs, v = .ref a ∧ G a = some (.tup (.str nd.w :: xs)) ∧ Fa (ItW G) xs nd.tlW := by
  cases nd with
  | num i => obtain ⟨a, e, h⟩ := h; exact ⟨a, _, e, h, .cons (itI h1) .nil⟩
  | val n d =>
    have hb : 0 ≤ d ∧ d ≤ 399 := h1
    obtain ⟨a, e, h⟩ := h; exact ⟨a, _, e, h, .cons (.inl rfl) (.cons (itI (by omega)) .nil)⟩
  | ov k ns f l =>
    obtain ⟨hb, h3, h4, h5⟩ := h1
    obtain ⟨a, p, e, h, hp⟩ := h
    exact ⟨a, _, e, h, .cons (.inr (.inr ⟨p, ns, rfl, hp, rfl, h4, h2⟩)) (.cons (itI (by omega)) (.cons (itI (by omega)) .nil))⟩
  | since n x f l =>
    obtain ⟨hb, h3, h4⟩ := h1
    obtain ⟨a, e, h⟩ := h; exact ⟨a, _, e, h, .cons (.inl rfl) (.cons (itI (by omega)) (.cons (itI (by omega)) (.cons (itI (by omega)) .nil)))⟩
  | part n o f l =>
    have hb : 0 ≤ f ∧ f ≤ l ∧ l ≤ 399 := h1
    obtain ⟨a, e, h⟩ := h; exact ⟨a, _, e, h, .cons (.inl rfl) (.cons (.inl rfl) (.cons (itI (by omega)) (.cons (itI (by omega)) .nil)))⟩
  | chg k n f l =>
    obtain ⟨hb, h3, h4⟩ := h1
    obtain ⟨a, e, h⟩ := h; exact ⟨a, _, e, h, .cons (itI (by omega)) (.cons (.inl rfl) (.cons (itI (by omega)) (.cons (itI (by omega)) .nil)))⟩
  | two m x y => cases hl
  | four s x y z t => cases hl
def pWords (B : Bs) (nd : Nd) : V → Hp → VK → Prop := fun a H Q => ∃ (m : List (Addr × HO)) (G : Hp), NR G a nd ∧ Hs B m G H ∧ ∀ q G' H', Same G G' → G' q = some (.lst ((wordsM nd).map V.str)) → Hs B m G' H' → Q (.ref q) H'
theorem words_leaf (E : Ev B) (nd : Nd) (hl : nd.leaf = true) (h1 : nd.ok) (h2 : nd.nok) : Fn B 1 "_law_words" (Sp1 (pWords B nd)) [] := by
  refine E.fn 89 rfl rfl rfl rfl (N := ["_law_node", "_law_found", "_law_part", "_law_one"]) (n := 3) (ps := ["_law_node"]) (gs := ["_law_words"]) (by decide +kernel) len1 (by ktf_call "b1") ?_
  intro X vs0 H Q E1 g h
  obtain ⟨_, rfl, m, G, hr, hS, k⟩ := h
  obtain ⟨a, xs, rfl, ha, hF⟩ := hr.leaf hl h1 h2
  have hxl := hF.length
  have hfew := leaf_w hl h1 h2
  have htl : nd.tlW.length ≤ 110 := by
    rw [wordsM_cons, wtL_cons] at hfew
    unfold wtL at hfew
    omega
  show WSs X _ _ [some (.ref a), none, none, none] H
  refine wss_cons (ws_ifF (fun H1 => Hs B m G H1) ?_ ?_)
  · ktf_call "us"
    refine wx_t g (sqt (hS.g _ _ ha)) (at_nat 0 rfl rfl) ?_
    ktf_call "us"
    refine nt_f hS (by show 4 ≤ sizeLine; decide) fun t G1 H1 hS1 e1 ht => ?_
    refine wc_in g (.inr (sqt (hS1.g _ _ ht))) rfl rfl ?_
    rw [inW1, hl]
    exact ⟨_, rfl, rfl, hS1.base e1⟩
  intro H1 hS1
  ktf_call "us"
  refine wx_t g (sqt (hS1.g _ _ ha)) (at_nat 0 rfl rfl) ?_
  ktf_call "us"
  refine nl_f hS1 (by show 1 ≤ sizeLine; decide) fun q1 G2 H2 hS2 e2 hq1 => ?_
  refine we_lc g [("_law_one", 3)] [false, false, false, true] [false, false, false, true] ["isinstance", "list", "str"] (by decide +kernel) (by decide) (wi_t g ?_)
  ktf_call "us"
  refine wsl_t g (sqt (hS2.g _ _ (e2 _ _ ha))) ?_ ?_
  · rintro ⟨h, _⟩
    have : HT.sIx (V.str nd.w :: xs).length 0 (some 1) = min 1 (V.str nd.w :: xs).length := HT.sIx_nat _ _ 1
    rw [this] at h
    simp only [List.length_cons] at h
    omega
  rw [show (1 : Int) = ((1 : Nat) : Int) from rfl, cut_drop, List.drop_one, List.tail_cons]
  refine nt_f hS2 (by rw [hxl]; exact Nat.le_trans htl (by decide)) fun q2 G3 H3 hS3 e3 hq2 => ?_
  have hF3 : Fa (ItW G3) xs nd.tlW := hF.mono fun x z h => (h.up e2).up e3
  refine ⟨q2, _, rfl, sqt (hS3.g _ _ hq2), ?_⟩
  refine lcb_v nd.tlW (fun z => some (.str z)) hS3 hxl.symm (by rw [hxl]; exact Nat.le_trans htl (by decide)) (fun _ G' _ _ e h => sqt (h.g _ _ (e _ _ hq2))) ?_ ?_
  · rintro i s D G' vs H' x H'' hs e4 hS4 ⟨rfl, hx⟩ Z gZ
    obtain ⟨x', hx', hI⟩ := hF3.get hs
    rw [hx] at hx'
    obtain rfl := Option.some.inj hx'
    ktf_call "w"
    ktf_call "us"
    refine ⟨rfl, fun Z gZ => ?_⟩
    ktf_call "t"
    refine iteT fun Z gZ => ?_
    rcases hI with rfl | ⟨j, rfl, rfl, hj⟩ | ⟨p, ns, rfl, hp, rfl, h8, hok⟩
    · ktf_call "us"
      refine wcl_strS ⟨rfl, G', Same.refl _, hS4⟩
    · ktf_call "us"
      refine wcl_strI ?_ ⟨rfl, G', Same.refl _, hS4⟩
      by_cases h0 : j.natAbs = 0
      · rw [h0]; decide
      · exact Nat.lt_of_lt_of_le ((Nat.log2_lt h0).mpr (by omega : j.natAbs < 2 ^ 64)) (by decide)
    · have hp4 := hS4.g _ _ (e4 _ _ hp)
      ktf_call "us"
      refine wm_join gZ (sql hp4) ?_ ⟨rfl, G', Same.refl _, hS4⟩
      have : ∀ ms : List Str, (∀ n ∈ ms, NameOk n) → (ms.map (·.length)).sum ≤ ms.length * 8 := by
        intro ms
        induction ms with
        | nil => intro _; simp
        | cons a r ih =>
          intro hh
          have h1 := ih fun n hn => hh n (List.mem_cons_of_mem _ hn)
          have h2 := (hh a List.mem_cons_self).2.1
          simp only [List.map_cons, List.sum_cons, List.length_cons]
          omega
      have := this ns hok
      rw [show (Str.ofString ",").length = 1 from by decide +kernel]
      omega
  · intro D G' H' e4 hS4
    rw [List.filterMap_eq_map'] at hS4
    refine wb_cat (hS4.g _ _ (e4 _ _ (e3 _ _ hq1))) hS4.a0 ?_ ?_
    · rw [List.length_append, List.length_map]
      exact Nat.le_trans (Nat.add_le_add (Nat.le_refl _) htl) (by show 1 + 110 ≤ sizeLine; decide)
    refine nl_f hS4 ?_ fun q3 G5 H5 hS5 e5 hq3 => ?_
    · rw [List.length_append, List.length_map]
      exact Nat.le_trans (Nat.add_le_add (Nat.le_refl _) htl) (by show 1 + 110 ≤ sizeLine; decide)
    refine k q3 G5 H5 (e2.trans (e3.trans (e4.trans e5))) ?_ hS5.drop
    rw [hq3, wordsM_cons]
    rfl
theorem take_flat {α β : Type} {f : α → List β} {l : List α} {i : Nat} {a : α} (h : l[i]? = some a) : (l.take (i + 1)).flatMap f = (l.take i).flatMap f ++ f a := by
  rw [List.take_add_one, h, List.flatMap_append]; simp
theorem flat_le {f : Nd → List Str} : ∀ (l : List Nd) (i : Nat), ((l.take i).flatMap f).length ≤ (l.flatMap f).length
  | [], i => by simp
  | a :: l, 0 => by simp
  | a :: l, i + 1 => by
    have := flat_le (f := f) l i
    simp only [List.take_succ_cons, List.flatMap_cons, List.length_append]
    omega
theorem words_nest (E : Ev B) (nd : Nd) (nds : List Nd) (hl : nd.leaf = false) (hw : wordsM nd = nd.w :: nds.flatMap brk) (hz : wtL (wordsM nd) ≤ 13750) (j : Nat)
    (hr : ∀ G v, NR G v nd → ∃ a p vs, v = .ref a ∧ G a = some (.tup [.str nd.w, .ref p]) ∧ G p = some (.lst vs) ∧ Fa (NR G) vs nds) (ih : ∀ k ∈ nds, Fn B j "_law_words" (Sp1 (pWords B k)) []) : Fn B (j + 1) "_law_words" (Sp1 (pWords B nd)) [] := by
  refine E.fn 89 rfl rfl rfl rfl (N := ["_law_node", "_law_found", "_law_part", "_law_one"]) (n := 3) (ps := ["_law_node"]) (gs := ["_law_words"]) (by decide +kernel) len1 (by ktf_call "b1") ?_
  intro X vs0 H Q E1 g h
  obtain ⟨_, rfl, m, G, hr0, hS, k⟩ := h
  obtain ⟨a, p, vs, rfl, ha, hp, hF⟩ := hr G _ hr0
  have hlen : (nd.w :: nds.flatMap brk).length ≤ 13750 := by
    rw [← hw]
    unfold wtL at hz
    omega
  show WSs X _ _ [some (.ref a), none, none, none] H
  refine wss_cons (ws_ifT (fun H1 => Hs B m G H1) ?_ ?_)
  · ktf_call "us"
    refine wx_t g (sqt (hS.g _ _ ha)) (at_nat 0 rfl rfl) ?_
    ktf_call "us"
    refine nt_f hS (by show 4 ≤ sizeLine; decide) fun t G1 H1 hS1 e1 ht => ?_
    refine wc_in g (.inr (sqt (hS1.g _ _ ht))) rfl rfl ?_
    rw [inW1, hl]
    exact ⟨_, rfl, rfl, hS1.base e1⟩
  intro H1 hS1
  ktf_call "us"
  refine wx_t g (sqt (hS1.g _ _ ha)) (at_nat 0 rfl rfl) ?_
  ktf_call "us"
  refine nl_f hS1 (by show 1 ≤ sizeLine; decide) fun q1 G2 H2 hS2 e2 hq1 => ?_
  ktf_call "us"
  refine wss_cons (ws_forS g (wi_l g ?_))
  ktf_call "us"
  refine wx_t g (sqt (hS2.g _ _ (e2 _ _ ha))) (at_nat 1 rfl rfl) ?_
  refine ⟨p, vs, rfl, sql (hS2.g _ _ (e2 _ _ hp)), fun i σ' H' => ∃ q o G', σ' = [some (.ref a), some (.ref q), o, none] ∧ Same G2 G' ∧ G' q = some (.lst ((nd.w :: (nds.take i).flatMap brk).map V.str)) ∧ Hs B m G' H', ⟨q1, _, G2, rfl, Same.refl _, hq1, hS2⟩, fun i σ' H' _ ⟨_, _, _, _, e, _, h⟩ => sql (h.g _ _ (e _ _ (e2 _ _ hp))), ?_, ?_⟩
  · rintro i x σ' H' _ hi ⟨q, o, G', rfl, e3, hq, hS3⟩ ⟨rfl, hx⟩
    obtain ⟨nk, hnk, hnr⟩ := hF.get' hx
    have f1 := ih nk (List.mem_of_getElem? hnk)
    have e23 := e2.trans e3
    have hlt := flat_le (f := brk) nds (i + 1)
    rw [take_flat hnk] at hlt
    have hbk : (brk nk).length = (wordsM nk).length + 2 := by unfold brk; simp
    simp only [List.length_append, List.length_cons] at hlt hlen
    have hsz : ∀ n : Nat, n ≤ 13750 → n ≤ sizeLine := fun n h => Nat.le_trans h (by decide)
    ktf_call "us"
    refine nl_f hS3 (by show 1 ≤ sizeLine; decide) fun q2 G4 H4 hS4 e4 hq2 => ?_
    refine wb_cat (hS4.g _ _ (e4 _ _ hq)) (hS4.g _ _ hq2) (hsz _ (by simp only [List.length_append, List.length_map, List.length_cons, List.length_nil]; omega)) ?_
    refine nl_f hS4 (hsz _ (by simp only [List.length_append, List.length_map, List.length_cons, List.length_nil]; omega)) fun q3 G5 H5 hS5 e5 hq3 => ?_
    refine we_fn (by assumption) f1 (by ktf_call "gm") (Nat.le_refl _) ?_
    ktf_call "us"
    have e35 := e4.trans e5
    refine ⟨m, G5, NR.up (B := B) (e23.trans e35) hnr, hS5, fun q4 G6 H6 e6 hq4 hS6 => ?_⟩
    refine wb_cat (hS6.g _ _ (e6 _ _ hq3)) (hS6.g _ _ hq4) (hsz _ (by simp only [List.length_append, List.length_map, List.length_cons, List.length_nil]; omega)) ?_
    refine nl_f hS6 (hsz _ (by simp only [List.length_append, List.length_map, List.length_cons, List.length_nil]; omega)) fun q5 G7 H7 hS7 e7 hq5 => ?_
    ktf_call "us"
    refine nl_f hS7 (by show 1 ≤ sizeLine; decide) fun q6 G8 H8 hS8 e8 hq6 => ?_
    refine wb_cat (hS8.g _ _ (e8 _ _ hq5)) (hS8.g _ _ hq6) (hsz _ (by simp only [List.length_append, List.length_map, List.length_cons, List.length_nil]; omega)) ?_
    refine nl_f hS8 (hsz _ (by simp only [List.length_append, List.length_map, List.length_cons, List.length_nil]; omega)) fun q7 G9 H9 hS9 e9 hq7 => ?_
    ktf_call "us"
    refine ⟨q7, _, G9, rfl, e3.trans (e35.trans (e6.trans (e7.trans (e8.trans e9)))), ?_, hS9⟩
    rw [hq7, take_flat hnk]
    congr 2
    unfold brk
    simp
  · rintro σ' H' ⟨q, o, G', rfl, e3, hq, hS3⟩
    rw [hF.length, List.take_length, ← hw] at hq
    ktf_call "us"
    exact k q G' H' (e2.trans e3) hq hS3
theorem Fn.up {j k : Nat} {x : Str} {sp : Sp} {d : List V} (h : Fn B j x sp d) (e : j ≤ k) : Fn B k x sp d := by
  obtain ⟨f, fd, ps, ds, F, h2⟩ := h
  exact ⟨f, fd, ps, ds, F.mono e, h2⟩
theorem law_words (E : Ev B) : ∀ (nd : Nd), nd.ok → nd.nok → nd.depth ≤ 3 → Fn B (1 + nd.depth) "_law_words" (Sp1 (pWords B nd)) []
  | .num i, h1, h2, _ => words_leaf E _ rfl h1 h2
  | .val n d, h1, h2, _ => words_leaf E _ rfl h1 h2
  | .ov k ns f l, h1, h2, _ => words_leaf E _ rfl h1 h2
  | .since n a f l, h1, h2, _ => words_leaf E _ rfl h1 h2
  | .part n o f l, h1, h2, _ => words_leaf E _ rfl h1 h2
  | .chg k n f l, h1, h2, _ => words_leaf E _ rfl h1 h2
  | .two s a b, h1, h2, h3 => by
    have hd : max a.depth b.depth + 1 ≤ 3 := h3
    have i1 := (law_words E a h1.1 (fun n z => h2 n (by simp [Nd.names, z])) (by omega)).up (show 1 + a.depth ≤ 1 + max a.depth b.depth by omega)
    have i2 := (law_words E b h1.2 (fun n z => h2 n (by simp [Nd.names, z])) (by omega)).up (show 1 + b.depth ≤ 1 + max a.depth b.depth by omega)
    refine words_nest E (.two s a b) [a, b] rfl (words_two s a b) (words_few h1 h2 h3) (1 + max a.depth b.depth) (fun G v h => ?_) fun k hk => ?_
    · obtain ⟨q, p, u, w, e, h4, h5, h6, h7⟩ := h
      exact ⟨q, p, _, e, h4, h5, .cons h6 (.cons h7 .nil)⟩
    · rcases List.mem_cons.mp hk with e | hk
      · rw [e]; exact i1
      · rw [List.mem_singleton.mp hk]; exact i2
  | .four s a b c d, h1, h2, h3 => by
    have hd : max (max a.depth b.depth) (max c.depth d.depth) + 1 ≤ 3 := h3
    have i1 := (law_words E a h1.1 (fun n z => h2 n (by simp [Nd.names, z])) (by omega)).up (show 1 + a.depth ≤ 1 + max (max a.depth b.depth) (max c.depth d.depth) by omega)
    have i2 := (law_words E b h1.2.1 (fun n z => h2 n (by simp [Nd.names, z])) (by omega)).up (show 1 + b.depth ≤ 1 + max (max a.depth b.depth) (max c.depth d.depth) by omega)
    have i3 := (law_words E c h1.2.2.1 (fun n z => h2 n (by simp [Nd.names, z])) (by omega)).up (show 1 + c.depth ≤ 1 + max (max a.depth b.depth) (max c.depth d.depth) by omega)
    have i4 := (law_words E d h1.2.2.2 (fun n z => h2 n (by simp [Nd.names, z])) (by omega)).up (show 1 + d.depth ≤ 1 + max (max a.depth b.depth) (max c.depth d.depth) by omega)
    refine words_nest E (.four s a b c d) [a, b, c, d] rfl (words_four s a b c d) (words_few h1 h2 h3) (1 + max (max a.depth b.depth) (max c.depth d.depth)) (fun G v h => ?_) fun k hk => ?_
    · obtain ⟨q, p, u1, u2, u3, u4, e, h4, h5, h6, h7, h8, h9⟩ := h
      exact ⟨q, p, _, e, h4, h5, .cons h6 (.cons h7 (.cons h8 (.cons h9 .nil)))⟩
    · rcases List.mem_cons.mp hk with e | hk
      · rw [e]; exact i1
      rcases List.mem_cons.mp hk with e | hk
      · rw [e]; exact i2
      rcases List.mem_cons.mp hk with e | hk
      · rw [e]; exact i3
      · rw [List.mem_singleton.mp hk]; exact i4
/-! ### a text of at most 400 signs -/
theorem NR.first {G : Hp} {v : V} {nd : Nd} {ns : List Str} {w0 wd : Int} (h : NR G v nd) (hl : nd.leaf = false) : ∃ a p u vs w k, v = .ref a ∧ G a = some (.tup [w, .ref p]) ∧ G p = some (.lst (u :: vs)) ∧ NR G u k ∧ k.depth < nd.depth ∧ (NdG ns w0 wd nd → NdG ns w0 wd k) := by
  cases nd with
  | two m x y =>
    obtain ⟨a, p, u, w, e, h1, h2, h3, h4⟩ := h
    exact ⟨a, p, u, _, _, x, e, h1, h2, h3, by show x.depth < max x.depth y.depth + 1; omega, fun g => ⟨g.ok.1, fun n hn => g.nm n (by simp [Nd.names, hn]), g.win.1⟩⟩
  | four s x y z t =>
    obtain ⟨a, p, u, u2, u3, u4, e, h1, h2, h3, h4⟩ := h
    exact ⟨a, p, u, _, _, x, e, h1, h2, h3, by show x.depth < max (max x.depth y.depth) (max z.depth t.depth) + 1; omega, fun g => ⟨g.ok.1, fun n hn => g.nm n (by simp [Nd.names, hn]), g.win.1⟩⟩
  | _ => cases hl
def pFit (B : Bs) : V → Hp → VK → Prop := fun a H Q => ∃ (nd : Nd) (ns : List Str) (w0 wd : Int) (m : List (Addr × HO)) (G : Hp), NR G a nd ∧ NdG ns w0 wd nd ∧ (∀ n ∈ ns, NameOk n) ∧ nd.depth ≤ 3 ∧ Hs B m G H ∧
  ∀ v nd G' H', Same G G' → NR G' v nd → NdG ns w0 wd nd → nd.depth ≤ 3 → (textM nd).length ≤ 400 → Hs B m G' H' → Q v H'
theorem law_fitting (E : Ev B) : Fn B 6 "_law_fitting" (Sp1 (pFit B)) [] := by
  refine E.fn 90 rfl rfl rfl rfl (N := ["_law_node"]) (n := 1) (ps := ["_law_node"]) (gs := ["len", "_law_words"]) (by decide +kernel) len1 (by ktf_call "b1") ?_
  intro X vs0 H Q E1 g h
  obtain ⟨v0, rfl, nd0, ns, w0, wd, m, G, hr0, hg0, hns, hd0, hS0, k⟩ := h
  show WSs X _ _ [some v0] H
  refine wss_cons (ws_while g ⟨fun d σ H => ∃ v nd G', σ = [some v] ∧ Same G G' ∧ NR G' v nd ∧ NdG ns w0 wd nd ∧ nd.depth ≤ 3 ∧ nd.depth = d ∧ Hs B m G' H, ⟨_, v0, nd0, G, rfl, Same.refl _, hr0, hg0, hd0, rfl, hS0⟩, ?_⟩)
  rintro _ _ H ⟨v, nd, G1, rfl, e1, hr, hg, hd, rfl, hS⟩
  have hnk : nd.nok := fun n hn => hns n (hg.nm n hn)
  have f1 := (law_words E nd hg.ok hnk hd).up (show 1 + nd.depth ≤ 5 by omega)
  have hw := words_few hg.ok hnk hd
  have ht := text_len nd
  ktf_call "us"
  refine ⟨m, G1, hr, hS, fun q G2 H2 e2 hq hS2 => ?_⟩
  ktf_call "us"
  refine wm_join g (sql (hS2.g _ _ hq)) ?_ ?_
  · rw [show (Str.ofString " ").length = 1 from by decide +kernel]
    unfold wtL at hw
    omega
  ktf_call "us"
  refine wcl_lenS (z := textM nd) (Nat.le_trans (Nat.le_trans ht hw) (by decide)) ?_
  ktf_call "us"
  refine iteD (fun hlt => ?_) (fun hge => ?_)
  · have hl : nd.leaf = false := by
      cases hlf : nd.leaf with
      | false => rfl
      | true =>
        have := leaf_w hlf hg.ok hnk
        omega
    obtain ⟨a, p, u, vs, w, kd, rfl, ha, hp, hku, hkd, hkg⟩ := hr.first hl
    refine ⟨fun σ' H' => ∃ v nd' G', σ' = [some v] ∧ Same G G' ∧ NR G' v nd' ∧ NdG ns w0 wd nd' ∧ nd'.depth ≤ 3 ∧ nd'.depth < nd.depth ∧ Hs B m G' H', fun σ' H' ⟨v, nd', G', z1, z2, z3, z4, z5, z6, z7⟩ => ⟨_, z6, v, nd', G', z1, z2, z3, z4, z5, rfl, z7⟩, ?_⟩
    ktf_call "us"
    refine wx_t g (sqt (hS2.g _ _ (e2 _ _ ha))) (at_nat 1 rfl rfl) ?_
    ktf_call "us"
    refine wx_l g (sql (hS2.g _ _ (e2 _ _ hp))) (at_nat 0 rfl rfl) ?_
    ktf_call "us"
    exact ⟨u, kd, G2, rfl, e1.trans e2, NR.up (B := B) e2 hku, hkg hg, by omega, hkd, hS2⟩
  · ktf_call "us"
    exact k v nd G2 H2 (e1.trans e2) (NR.up (B := B) e2 hr) hg hd (by omega) hS2
end
/-! ### text E6 -/
set_option maxHeartbeats 4000000
section
open PySem PySem.Spec PyProof.Rows L2 TL
set_option hygiene false in
local macro_rules | `(tactic| ktf_call "nm") => `(tactic| first | ((with_reducible refine nm14 (by assumption) ?hv ?_); (case hv => rfl)) | ((with_reducible refine nm15 (by assumption) ?hv ?_); (case hv => rfl)) | ((with_reducible refine nm16 (by assumption) ?hv ?_); (case hv => rfl)) | ((with_reducible refine nm17 (by assumption) ?hv ?_); (case hv => rfl)))
set_option hygiene false in
local macro_rules | `(tactic| ktf_call "sn") => `(tactic| first | ((with_reducible refine sn14 (by assumption) ?hv ?_); (case hv => rfl)) | ((with_reducible refine sn15 (by assumption) ?hv ?_); (case hv => rfl)) | ((with_reducible refine sn16 (by assumption) ?hv ?_); (case hv => rfl)) | ((with_reducible refine sn17 (by assumption) ?hv ?_); (case hv => rfl)))
variable {B : Bs}
/-! ### what is due -/
def pOver (B : Bs) : V → V → Hp → VK → Prop := fun a b H Q => ∃ (k : Ov) (xs : List Int) (p : Addr) (m : List (Addr × HO)) (G : Hp), a = .str k.w ∧ b = .ref p ∧ G p = some (.lst (xs.map V.int)) ∧ Hs B m G H ∧ ∀ H', Hs B m G H' → Q (oV (ovOut k xs)) H'
theorem law_over (E : Ev B) : Fn B 1 "_law_over" (Sp2 (pOver B)) [] := by
  refine E.fn 91 rfl rfl rfl rfl (N := ["_law_word", "_law_amounts"]) (n := 2) (ps := ["_law_word", "_law_amounts"]) (gs := ["sum", "len", "min", "max"]) (by decide +kernel) len2 (by ktf_call "b2") ?_
  intro X vs0 H Q E1 g h
  obtain ⟨_, _, rfl, k, xs, p, m, G, rfl, rfl, hp, hS, kk⟩ := h
  show WSs X _ _ [some (.str k.w), some (.ref p)] H
  have hp0 := hS.g _ _ hp
  refine wss_cons (ws_ifV (decide (k = .sum)) (fun H1 => H = H1) ?_ ?_ ?_)
  · ktf_call "us"
    exact ⟨by cases k <;> decide +kernel, rfl⟩
  · rintro hd _ rfl
    obtain rfl := of_decide_eq_true hd
    ktf_call "us"
    exact wcl_sum g (sql hp0) (kk H hS)
  rintro hd1 _ rfl
  ktf_call "us"
  refine wss_cons (ws_ifV (decide (k = .count)) (fun H1 => H = H1) ?_ ?_ ?_)
  · ktf_call "us"
    exact ⟨by cases k <;> decide +kernel, rfl⟩
  · rintro hd _ rfl
    obtain rfl := of_decide_eq_true hd
    ktf_call "us"
    refine wcl_lenL g (sql hp0) ?_
    rw [List.length_map]
    exact kk H hS
  rintro hd2 _ rfl
  have hd1 := of_decide_eq_false hd1
  have hd2 := of_decide_eq_false hd2
  ktf_call "us"
  refine wss_cons (ws_ifV xs.isEmpty (fun H1 => Hs B m G H1) ?_ ?_ ?_)
  · ktf_call "us"
    refine nl_f hS (by decide) fun q G1 H1 hS1 e1 hq => ?_
    refine wc_eqNil g (sql (hS1.g _ _ (e1 _ _ hp))) (dpa_ints xs) (shaped_ints xs) (sql (hS1.g _ _ hq)) ?_
    ktf_call "us"
    exact ⟨by cases xs <;> rfl, hS1.base e1⟩
  · intro hx H1 hS1
    ktf_call "us"
    have : xs = [] := by simpa using hx
    subst this
    have h0 := kk H1 hS1
    cases k with
    | sum => exact absurd rfl hd1
    | count => exact absurd rfl hd2
    | least => exact h0
    | greatest => exact h0
  intro hx H1 hS1
  have hp1 := hS1.g _ _ hp
  have hl : 0 < xs.length := by
    cases xs with
    | nil => cases hx
    | cons a r => simp
  ktf_call "us"
  refine wss_cons (ws_ifV (decide (k = .least)) (fun H2 => H1 = H2) ?_ ?_ ?_)
  · ktf_call "us"
    exact ⟨by cases k <;> decide +kernel, rfl⟩
  · rintro hd _ rfl
    obtain rfl := of_decide_eq_true hd
    ktf_call "us"
    refine wcl_min g (sql hp1) hl fun y h1 h2 => ?_
    have := kk H1 hS1
    rw [show ovOut .least xs = some y from min?_of h1 h2] at this
    exact this
  rintro hd3 _ rfl
  have hd3 := of_decide_eq_false hd3
  have hk : k = .greatest := by
    cases k with
    | sum => exact absurd rfl hd1
    | count => exact absurd rfl hd2
    | least => exact absurd rfl hd3
    | greatest => rfl
  subst hk
  ktf_call "us"
  refine wcl_max g (sql hp1) hl fun y h1 h2 => ?_
  have := kk H1 hS1
  rw [show ovOut .greatest xs = some y from max?_of h1 h2] at this
  exact this
def pLike (B : Bs) : V → V → Hp → VK → Prop := fun a b H Q => ∃ (x y : Option Int), a = oV x ∧ b = oV y ∧ Q (.bl (decide (x = y))) H
theorem law_like (E : Ev B) : Fn B 1 "_law_like" (Sp2 (pLike B)) [] := by
  refine E.fn 95 rfl rfl rfl rfl (N := ["_law_found", "_law_due_here"]) (n := 2) (ps := ["_law_found", "_law_due_here"]) (gs := ["isinstance", "int", "bool"]) (by decide +kernel) len2 (by ktf_call "b2") ?_
  intro X vs0 H Q E1 g h
  obtain ⟨_, _, rfl, x, y, rfl, rfl, k⟩ := h
  show WSs X _ _ [some (oV x), some (oV y)] H
  cases x with
  | none =>
    cases y with
    | none =>
      unfold oV
      ktf_call "i"
      ktf_call "us"
      exact k
    | some j =>
      unfold oV
      ktf_call "i"
      ktf_call "us"
      exact k
  | some i =>
    cases y with
    | none =>
      unfold oV
      ktf_call "i"
      ktf_call "us"
      exact k
    | some j =>
      unfold oV
      ktf_call "i"
      ktf_call "us"
      rw [show decide (i = j) = decide (some i = some j) from by simp]
      exact k
/-- the table of what is told -/
def TabR (kvs : List (List Key × V)) (tell : Tell) : Prop := ∀ (n : Str) (d : Int), valV kvs [.inr n, .inl d] = (tell n d).map V.int
theorem getD_oV (x : Option Int) : (x.map V.int).getD .non = oV x := by cases x <;> rfl
def PrR (G : Hp) (v : V) (p : Str × Int) : Prop := ∃ t, v = .ref t ∧ G t = some (.tup [.str p.1, .int p.2])
theorem PrR.up {G G' : Hp} (e : Same G G') {v : V} {p : Str × Int} (h : PrR G v p) : PrR G' v p := let ⟨t, h1, h2⟩ := h; ⟨t, h1, e _ _ h2⟩
def pDue (B : Bs) (tell : Tell) (nd : Nd) : V → V → Hp → VK → Prop := fun a b H Q => ∃ (ta : Addr) (kvs : List (List Key × V)) (m : List (Addr × HO)) (G : Hp), NR G a nd ∧ b = .ref ta ∧ G ta = some (.dT kvs) ∧ TabR kvs tell ∧ Hs B m G H ∧
  ∀ v q vs G' H', Same G G' → G' v = some (.tup [oV (evalM tell nd), .ref q]) → G' q = some (.lst vs) → Fa (PrR G') vs (daysM tell nd) → Hs B m G' H' → Q (.ref v) H'
/-- table.get((name, day)) -/
theorem tab_get {kvs : List (List Key × V)} {tell : Tell} (hT : TabR kvs tell) {H : Hp} {ta t : Addr} (h1 : H ta = some (.dT kvs)) {n : Str} {d : Int} (h2 : H t = some (.tup [.str n, .int d])) : DGet H ta (.ref t) ((tell n d).map V.int) := by
  rw [← hT n d]
  exact DGet.t (k := [.inr n, .inl d]) h1 h2
theorem dys_len (n : Str) (f l : Int) : (dys n f l).length = (l + 1 - f).toNat := by unfold dys; rw [List.length_map, rng_len]
theorem dys_get {n : Str} {f l : Int} {i : Nat} (h : i < (l + 1 - f).toNat) : (dys n f l)[i]? = some (n, f + (i : Nat)) := by unfold dys; rw [List.getElem?_map, rng_get h]; rfl
theorem row_since (E : Ev B) (tell : Tell) (n : Str) (c f l : Int) (hb : 0 ≤ f ∧ f ≤ l ∧ l ≤ 399) : Fn B 1 "_law_row" (Sp2 (pDue B tell (.since n c f l))) [] := by
  refine E.fn 92 rfl rfl rfl rfl (N := ["_law_node", "_law_table", "_law_word", "_law_name", "_law_least", "_law_first", "_law_last", "_law_good", "_law_start", "_law_other", "_law_days_here", "_law_many", "_law_turn", "_law_some_here", "_law_day"]) (n := 14) (ps := ["_law_node", "_law_table"]) (gs := ["range", "max", "int", "list", "len"]) (by decide +kernel) len2 (by ktf_call "b2") ?_
  intro X vs0 H Q E1 g h
  obtain ⟨_, _, rfl, ta, kvs, m, G, ⟨a, rfl, ha⟩, rfl, hta, hT, hS, kk⟩ := h
  have hz : (l + 1 - f).toNat ≤ sizeLine := Nat.le_trans (by omega : (l + 1 - f).toNat ≤ 400) (by decide)
  show WSs X _ _ [some (.ref a), some (.ref ta), none, none, none, none, none, none, none, none, none, none, none, none, none] H
  ktf_call "us"
  refine wx_t g (sqt (hS.g _ _ ha)) (at_nat 0 rfl rfl) ?_
  ktf_call "us"
  refine wss_cons (ws_ifT (fun H1 => H = H1) ?_ ?_)
  · ktf_call "us"
    exact ⟨by decide +kernel, rfl⟩
  rintro _ rfl
  have ha0 := hS.g _ _ ha
  ktf_call "us"
  refine wss_cons (ws_lcL g 7 [("_law_day", 14)] [false, true, false, true, true, false, false, false, false, false, false, false, false, false, true] [false, false, false, false, false, false, false, false, false, false, false, false, false, false, true] [] rfl (by decide +kernel) (by decide) rfl (wi_r2 g (by ktf_call "gm") E.f_range ?_))
  ktf_call "us"
  refine ⟨f, l + 1, rfl, rfl, by omega, ?_⟩
  refine lcb_v (rng f l) (fun d => if isGood (tell n d) c then none else some (V.int d)) hS (rng_len f l) hz (fun _ _ _ _ _ _ => True.intro) ?_ ?_
  · rintro i s D G' vs H' x H'' hs e1 hS1 ⟨rfl, hy⟩ Z gZ
    obtain rfl := yR1 hy
    have hj : i < (l + 1 - f).toNat := by rw [← rng_len]; exact (List.getElem?_eq_some_iff.mp hs).1
    rw [rng_get hj] at hs
    obtain rfl := Option.some.inj hs
    have hta1 := e1 _ _ hta
    ktf_call "w"
    ktf_call "us"
    refine ⟨rfl, fun Z gZ => ?_⟩
    ktf_call "us"
    refine ⟨.inr ⟨kvs, .inl (hS1.g _ _ hta1)⟩, ?_⟩
    ktf_call "us"
    refine nt_f hS1 (by show 2 ≤ sizeLine; decide) fun t G2 H2 hS2 e2 ht => ?_
    refine ⟨_, tab_get hT (hS2.g _ _ (e2 _ _ hta1)) (hS2.g _ _ ht), ?_⟩
    rw [getD_oV]
    cases hv : tell n (f + (i : Nat)) with
    | none =>
      unfold oV
      ktf_call "us"
      exact ⟨by rw [show isGood none c = false from rfl]; rfl, _, e2, hS2⟩
    | some v =>
      unfold oV
      ktf_call "us"
      refine nt_f hS2 (by show 2 ≤ sizeLine; decide) fun t2 G3 H3 hS3 e3 ht2 => ?_
      refine wx_d gZ (v := .int v) ?_ ?_
      · have := tab_get hT (hS3.g _ _ (e3 _ _ (e2 _ _ hta1))) (hS3.g _ _ ht2)
        rw [hv] at this
        exact this
      ktf_call "us"
      have eg : isGood (some v) c = decide (c ≤ v) := rfl
      refine iteD (fun hlt => ?_) (fun hge => ?_)
      · intro Z gZ
        ktf_call "us"
        refine ⟨?_, G3, e2.trans e3, hS3⟩
        rw [if_neg]
        simp only [eg, decide_eq_true_eq]; omega
      · refine ⟨?_, G3, e2.trans e3, hS3⟩
        rw [if_pos]
        simp only [eg, decide_eq_true_eq]; omega
  · intro D G' H' e1 hS1
    have el : ((rng f l).filterMap fun d => if isGood (tell n d) c then none else some (V.int d)) = ((rng f l).filter fun d => !isGood (tell n d) c).map V.int := by
      generalize rng f l = L
      induction L with
      | nil => rfl
      | cons d L ih =>
        rw [List.filterMap_cons, List.filter_cons]
        cases isGood (tell n d) c with
        | true => simp [ih]
        | false => simp [ih]
    rw [el] at hS1
    have hgl : ((rng f l).filter fun d => !isGood (tell n d) c).length ≤ 400 := Nat.le_trans (List.length_filter_le _ _) (by rw [rng_len]; omega)
    have hgm : ∀ d, d ∈ ((rng f l).filter fun d => !isGood (tell n d) c) ↔ (f ≤ d ∧ d ≤ l) ∧ isGood (tell n d) c = false := fun d => by
      rw [List.mem_filter, mem_rng]; simp
    generalize ((rng f l).filter fun d => !isGood (tell n d) c) = gl at hS1 hgl hgm
    ktf_call "w"
    ktf_call "us"
    refine nl_m hS1 (by show 1 ≤ sizeLine; decide) fun q1 H2 hS2 => ?_
    ktf_call "us"
    refine wb_cat hS2.a0 hS2.a1 ?_ ?_
    · rw [List.length_append, List.length_map]
      exact Nat.le_trans (by show 1 + gl.length ≤ 401; omega) (show 401 ≤ sizeLine by decide)
    refine nl_m hS2 ?_ fun q2 H3 hS3 => ?_
    · rw [List.length_append, List.length_map]
      exact Nat.le_trans (by show 1 + gl.length ≤ 401; omega) (show 401 ≤ sizeLine by decide)
    ktf_call "us"
    refine wcl_max g (ns := (f - 1) :: gl) (sql hS3.a0) (by simp) fun mx hm1 hm2 => ?_
    have hst : mx + 1 = startD (fun d => isGood (tell n d) c) f l := by
      have hf1 := hm2 (f - 1) List.mem_cons_self
      refine startD_uniq _ ⟨by omega, ?_, fun d h1 h2 => ?_, ?_⟩ (startD_spec _ (by omega))
      · rcases List.mem_cons.mp hm1 with e | h
        · omega
        · have := (hgm mx).mp h; omega
      · cases hg : isGood (tell n d) c with
        | true => rfl
        | false =>
          have := hm2 d (List.mem_cons_of_mem _ ((hgm d).mpr ⟨⟨by omega, h2⟩, hg⟩))
          omega
      · rcases List.mem_cons.mp hm1 with e | h
        · left; omega
        · right
          rw [show mx + 1 - 1 = mx from by omega]
          exact ((hgm mx).mp h).2
    have hsp := startD_spec (fun d => isGood (tell n d) c) (f := f) (l := l) (by omega)
    rw [← hst] at hsp
    have hev : evalM tell (.since n c f l) = afterD l (mx + 1) := by
      show afterD l (startD _ f l) = _
      rw [← hst]
    have hdy : daysM tell (.since n c f l) = dys n (max f (mx + 1 - 1)) l := by
      show dys n (max f (startD _ f l - 1)) l = _
      rw [← hst]
    rw [hev, hdy] at kk
    have hS4 := hS3.drop.drop.drop
    ktf_call "us"
    refine nl_f hS4 (by show 2 ≤ sizeLine; decide) fun q3 G5 H5 hS5 e5 hq3 => ?_
    ktf_call "us"
    refine wcl_intB ?_
    refine wx_l g (v := oV (afterD l (mx + 1))) (sql (hS5.g _ _ hq3)) (by
      unfold afterD
      by_cases hl : l < mx + 1
      · rw [decide_eq_true hl, if_pos hl]; exact at_nat 1 rfl rfl
      · rw [decide_eq_false hl, if_neg hl]; exact at_nat 0 rfl rfl) ?_
    ktf_call "us"
    refine we_lc g [("_law_day", 14)] [false, false, false, true, false, false, false, false, false, false, false, false, false, false, true] [false, false, false, false, false, false, false, false, false, false, false, false, false, false, true] [] (by decide +kernel) (by decide) (wi_r2 g (by ktf_call "gm") E.f_range ?_)
    ktf_call "us"
    refine wcl_max2 g ?_
    rw [max_if]
    ktf_call "us"
    refine ⟨max f (mx + 1 - 1), l + 1, rfl, rfl, by omega, ?_⟩
    refine ⟨Str × Int, Str × Int, dys n (max f (mx + 1 - 1)) l, some, PrR, fun _ m' => m' = m, m, G5, fun _ _ _ _ e h => h.up e, dys_len .., Nat.le_trans (by omega : _ ≤ 401) (show 401 ≤ sizeLine by decide), hS5, rfl, fun _ _ _ _ _ _ _ _ _ _ => True.intro, ?_, ?_⟩
    · rintro i p D2 m' G' vs H' x H'' hs e6 rfl hS6 ⟨rfl, hy⟩ Z gZ
      obtain rfl := yR1 hy
      have hj : i < (l + 1 - max f (mx + 1 - 1)).toNat := by rw [← dys_len n]; exact (List.getElem?_eq_some_iff.mp hs).1
      rw [dys_get hj] at hs
      obtain rfl := Option.some.inj hs
      ktf_call "w"
      ktf_call "us"
      refine ⟨rfl, fun Z gZ => ?_⟩
      ktf_call "t"
      refine iteT fun Z gZ => ?_
      ktf_call "us"
      refine nt_f hS6 (by show 2 ≤ sizeLine; decide) fun t G7 H7 hS7 e7 ht => ?_
      exact ⟨_, _, G7, rfl, e7, rfl, hS7, t, rfl, ht⟩
    · rintro D2 m' G' vs H' e6 rfl hS6 hF
      obtain ⟨hS7, e7⟩ := hS6.freeze
      rw [List.filterMap_some] at hF
      ktf_call "us"
      refine nt_f hS7 (by show 2 ≤ sizeLine; decide) fun q G8 H8 hS8 e8 hq => ?_
      exact kk q D2 vs G8 H8 ((((((Same.refl _).trans e1).trans e5).trans e6).trans e7).trans e8) hq (e8 _ _ upd_same) (hF.mono fun x y h => (h.up e7).up e8) hS8
end
/-! ### text E7 -/
set_option maxHeartbeats 4000000
section
open PySem PySem.Spec PyProof.Rows L2 TL
set_option hygiene false in
local macro_rules | `(tactic| ktf_call "nm") => `(tactic| first | ((with_reducible refine nm14 (by assumption) ?hv ?_); (case hv => rfl)) | ((with_reducible refine nm15 (by assumption) ?hv ?_); (case hv => rfl)) | ((with_reducible refine nm16 (by assumption) ?hv ?_); (case hv => rfl)) | ((with_reducible refine nm17 (by assumption) ?hv ?_); (case hv => rfl)))
set_option hygiene false in
local macro_rules | `(tactic| ktf_call "sn") => `(tactic| first | ((with_reducible refine sn14 (by assumption) ?hv ?_); (case hv => rfl)) | ((with_reducible refine sn15 (by assumption) ?hv ?_); (case hv => rfl)) | ((with_reducible refine sn16 (by assumption) ?hv ?_); (case hv => rfl)) | ((with_reducible refine sn17 (by assumption) ?hv ?_); (case hv => rfl)))
variable {B : Bs}
theorem rgV_rng (f l : Int) : rgV f (l + 1) = (rng f l).map V.int := by
  unfold rgV rng
  rw [List.map_map]; rfl
theorem row_part (E : Ev B) (tell : Tell) (n o : Str) (f l : Int) (hb : 0 ≤ f ∧ f ≤ l ∧ l ≤ 399) : Fn B 1 "_law_row" (Sp2 (pDue B tell (.part n o f l))) [] := by
  refine E.fn 92 rfl rfl rfl rfl (N := ["_law_node", "_law_table", "_law_word", "_law_name", "_law_least", "_law_first", "_law_last", "_law_good", "_law_start", "_law_other", "_law_days_here", "_law_many", "_law_turn", "_law_some_here", "_law_day"]) (n := 14) (ps := ["_law_node", "_law_table"]) (gs := ["range", "max", "int", "list", "len"]) (by decide +kernel) len2 (by ktf_call "b2") ?_
  intro X vs0 H Q E1 g h
  obtain ⟨_, _, rfl, ta, kvs, m, G, ⟨a, rfl, ha⟩, rfl, hta, hT, hS, kk⟩ := h
  have hz : (l + 1 - f).toNat ≤ sizeLine := Nat.le_trans (by omega : (l + 1 - f).toNat ≤ 400) (by decide)
  show WSs X _ _ [some (.ref a), some (.ref ta), none, none, none, none, none, none, none, none, none, none, none, none, none] H
  ktf_call "us"
  refine wx_t g (sqt (hS.g _ _ ha)) (at_nat 0 rfl rfl) ?_
  ktf_call "us"
  refine wss_cons (ws_ifF (fun H1 => H = H1) ?_ ?_)
  · ktf_call "us"
    exact ⟨by decide +kernel, rfl⟩
  rintro _ rfl
  ktf_call "us"
  refine wss_cons (ws_ifT (fun H1 => H = H1) ?_ ?_)
  · ktf_call "us"
    exact ⟨by decide +kernel, rfl⟩
  rintro _ rfl
  have ha0 := hS.g _ _ ha
  refine wss_cut (fun σ' H' => σ' = [some (.ref a), some (.ref ta), some (.str "part"), some (.str n), none, some (.int f), some (.int l), none, none, some (.str o), none, none, none, none, none] ∧ H = H') ?_ ?_
  · ktf_call "us"
    exact ⟨rfl, rfl⟩
  rintro _ _ ⟨rfl, rfl⟩
  refine wss_cons (ws_asg (we_listRg g (by ktf_call "gm") (by ktf_call "gm") E.f_list E.f_range ?_))
  ktf_call "us"
  refine ⟨f, l + 1, rfl, rfl, ⟨by omega, by omega, by omega, by omega, by omega⟩, fun dl hdl => ?_⟩
  rw [rgV_rng]
  obtain ⟨hS1, e1⟩ := (hS.new (u := .lst ((rng f l).map V.int)) hdl rfl).freeze
  generalize hG1 : upd G dl (.lst ((rng f l).map V.int)) = G1 at hS1 e1
  have hd : G1 dl = some (.lst ((rng f l).map V.int)) := by rw [← hG1]; exact upd_same
  generalize upd H dl (.lst ((rng f l).map V.int)) = H1 at hS1 ⊢
  have hta1 := e1 _ _ hta
  ktf_call "us"
  refine we_lc g [("_law_day", 14)] [false, true, false, true, false, false, false, false, false, true, false, false, false, false, true] [false, false, false, false, false, false, false, false, false, false, false, false, false, false, true] [] (by decide +kernel) (by decide) (wi_l g ?_)
  ktf_call "us"
  refine ⟨_, _, rfl, sql (hS1.g _ _ hd), ?_⟩
  refine lcb_v (rng f l) (fun d => if tell n d ≠ tell o d then some (V.int d) else none) hS1 (by simp) (by rw [List.length_map, rng_len]; exact hz) (fun _ _ _ _ e h => sql (h.g _ _ (e _ _ hd))) ?_ ?_
  · rintro i d D G' vs H' x H'' hs e2 hS2 ⟨rfl, hy⟩ Z gZ
    obtain rfl : x = .int d := by
      rw [List.getElem?_map, hs] at hy
      exact (Option.some.inj hy).symm
    have hta2 := e2 _ _ hta1
    ktf_call "w"
    ktf_call "us"
    refine ⟨rfl, fun Z gZ => ?_⟩
    ktf_call "us"
    refine ⟨.inr ⟨kvs, .inl (hS2.g _ _ hta2)⟩, ?_⟩
    ktf_call "us"
    refine nt_f hS2 (by show 2 ≤ sizeLine; decide) fun t3 G3 H3 hS3 e3 ht3 => ?_
    refine ⟨_, tab_get hT (hS3.g _ _ (e3 _ _ hta2)) (hS3.g _ _ ht3), ?_⟩
    rw [getD_oV]
    ktf_call "us"
    refine ⟨.inr ⟨kvs, .inl (hS3.g _ _ (e3 _ _ hta2))⟩, ?_⟩
    ktf_call "us"
    refine nt_f hS3 (by show 2 ≤ sizeLine; decide) fun t4 G4 H4 hS4 e4 ht4 => ?_
    refine ⟨_, tab_get hT (hS4.g _ _ (e4 _ _ (e3 _ _ hta2))) (hS4.g _ _ ht4), ?_⟩
    rw [getD_oV]
    refine wc_ne (oV_scal _ _) ⟨_, rfl, ?_⟩
    by_cases e : tell n d = tell o d
    · refine iteNDF (by rw [e]) ⟨by simp [e], G4, e3.trans e4, hS4⟩
    · refine iteNDT (fun z => e (oV_inj.mp z)) fun Z gZ => ?_
      ktf_call "us"
      exact ⟨by rw [if_pos e], G4, e3.trans e4, hS4⟩
  · intro D G' H' e2 hS2
    have el : ((rng f l).filterMap fun d => if tell n d ≠ tell o d then some (V.int d) else none) = ((rng f l).filter fun d => decide (tell n d ≠ tell o d)).map V.int := fm_ite (fun d => tell n d ≠ tell o d) V.int _
    rw [el] at hS2
    have hd2 := e2 _ _ hd
    ktf_call "us"
    refine wcl_lenL g (sql hS2.a0) ?_
    rw [List.length_map]
    have hS3 := hS2.drop
    ktf_call "us"
    refine we_lc g [("_law_day", 14)] [false, false, false, true, false, false, false, false, false, false, false, false, false, false, true] [false, false, false, false, false, false, false, false, false, false, false, false, false, false, true] [] (by decide +kernel) (by decide) (wi_l g ?_)
    ktf_call "us"
    refine ⟨_, _, rfl, sql (hS3.g _ _ hd2), ?_⟩
    refine ⟨Int, Str × Int, rng f l, fun d => some (n, d), PrR, fun _ m' => m = m', m, G', fun _ _ _ _ e h => h.up e, by simp, by rw [List.length_map, rng_len]; exact hz, hS3, rfl, fun _ _ _ _ _ _ _ e e2 h => sql (h.g _ _ (e _ _ hd2)), ?_, ?_⟩
    · rintro i d D2 m' G' vs H' x H'' hs e6 rfl hS6 ⟨rfl, hy⟩ Z gZ
      obtain rfl : x = .int d := by
        rw [List.getElem?_map, hs] at hy
        exact (Option.some.inj hy).symm
      ktf_call "w"
      ktf_call "us"
      refine ⟨rfl, fun Z gZ => ?_⟩
      ktf_call "t"
      refine iteT fun Z gZ => ?_
      ktf_call "us"
      refine nt_f hS6 (by show 2 ≤ sizeLine; decide) fun t G7 H7 hS7 e7 ht => ?_
      exact ⟨_, _, G7, rfl, e7, rfl, hS7, t, rfl, ht⟩
    rintro D4 m' G4 vs4 H4 e4 rfl hS4 hF4
    have hF4 : Fa (PrR G4) vs4 (dys n f l) := by rw [List.filterMap_eq_map'] at hF4; exact hF4
    have hS4' := hS4
    ktf_call "us"
    refine we_lc g [("_law_day", 14)] [false, false, false, false, false, false, false, false, false, true, false, false, false, false, true] [false, false, false, false, false, false, false, false, false, false, false, false, false, false, true] [] (by decide +kernel) (by decide) (wi_l g ?_)
    ktf_call "us"
    refine ⟨_, _, rfl, sql (hS4.g _ _ (e4 _ _ hd2)), ?_⟩
    refine ⟨Int, Str × Int, rng f l, fun d => some (o, d), PrR, fun _ m' => ((D4, HO.lst vs4) :: m) = m', ((D4, HO.lst vs4) :: m), G4, fun _ _ _ _ e h => h.up e, by simp, by rw [List.length_map, rng_len]; exact hz, hS4, rfl, fun _ _ _ _ _ _ _ e e2 h => sql (h.g _ _ (e _ _ (e4 _ _ hd2))), ?_, ?_⟩
    · rintro i d D2 m' G' vs H' x H'' hs e6 rfl hS6 ⟨rfl, hy⟩ Z gZ
      obtain rfl : x = .int d := by
        rw [List.getElem?_map, hs] at hy
        exact (Option.some.inj hy).symm
      ktf_call "w"
      ktf_call "us"
      refine ⟨rfl, fun Z gZ => ?_⟩
      ktf_call "t"
      refine iteT fun Z gZ => ?_
      ktf_call "us"
      refine nt_f hS6 (by show 2 ≤ sizeLine; decide) fun t G7 H7 hS7 e7 ht => ?_
      exact ⟨_, _, G7, rfl, e7, rfl, hS7, t, rfl, ht⟩
    rintro D5 m' G5 vs5 H5 e5 rfl hS5 hF5
    have hF5 : Fa (PrR G5) vs5 (dys o f l) := by rw [List.filterMap_eq_map'] at hF5; exact hF5
    have hl4 := hF4.length
    have hl5 := hF5.length
    rw [dys_len] at hl4 hl5
    have hsz : (vs4 ++ vs5).length ≤ sizeLine := by
      rw [List.length_append]
      exact Nat.le_trans (by omega : _ ≤ 800) (show 800 ≤ sizeLine by decide)
    refine wb_cat hS5.a1 hS5.a0 hsz ?_
    refine nl_f hS5 hsz fun q G6 H6 hS6 e6 hq => ?_
    ktf_call "us"
    refine nt_f hS6 (by show 2 ≤ sizeLine; decide) fun q2 G7 H7 hS7 e7 hq2 => ?_
    refine kk q2 q _ G7 H7 (e1.trans (e2.trans (e4.trans (e5.trans (e6.trans e7))))) hq2 (e7 _ _ hq) ?_ hS7.drop.drop
    exact (hF4.mono fun x y h => ((h.up e5).up e6).up e7).append (hF5.mono fun x y h => (h.up e6).up e7)
theorem row_chg (E : Ev B) (tell : Tell) (c : Int) (n : Str) (f l : Int) (hb : 0 ≤ f ∧ f ≤ l ∧ l ≤ 399) (hc : 1 ≤ c ∧ c ≤ 400) : Fn B 1 "_law_row" (Sp2 (pDue B tell (.chg c n f l))) [] := by
  refine E.fn 92 rfl rfl rfl rfl (N := ["_law_node", "_law_table", "_law_word", "_law_name", "_law_least", "_law_first", "_law_last", "_law_good", "_law_start", "_law_other", "_law_days_here", "_law_many", "_law_turn", "_law_some_here", "_law_day"]) (n := 14) (ps := ["_law_node", "_law_table"]) (gs := ["range", "max", "int", "list", "len"]) (by decide +kernel) len2 (by ktf_call "b2") ?_
  intro X vs0 H Q E1 g h
  obtain ⟨_, _, rfl, ta, kvs, m, G, ⟨a, rfl, ha⟩, rfl, hta, hT, hS, kk⟩ := h
  have hz : (l + 1 - f).toNat ≤ sizeLine := Nat.le_trans (by omega : (l + 1 - f).toNat ≤ 400) (by decide)
  show WSs X _ _ [some (.ref a), some (.ref ta), none, none, none, none, none, none, none, none, none, none, none, none, none] H
  ktf_call "us"
  refine wx_t g (sqt (hS.g _ _ ha)) (at_nat 0 rfl rfl) ?_
  ktf_call "us"
  refine wss_cons (ws_ifF (fun H1 => H = H1) ?_ ?_)
  · ktf_call "us"
    exact ⟨by decide +kernel, rfl⟩
  rintro _ rfl
  ktf_call "us"
  refine wss_cons (ws_ifF (fun H1 => H = H1) ?_ ?_)
  · ktf_call "us"
    exact ⟨by decide +kernel, rfl⟩
  rintro _ rfl
  have ha0 := hS.g _ _ ha
  ktf_call "us"
  refine wss_cons (ws_lcL g 13 [("_law_day", 14)] [false, true, false, true, false, false, false, false, false, false, false, false, false, false, true] [false, false, false, false, false, false, false, false, false, false, false, false, false, false, true] [] rfl (by decide +kernel) (by decide) rfl (wi_r2 g (by ktf_call "gm") E.f_range ?_))
  ktf_call "us"
  refine ⟨f + 1, l + 1, rfl, rfl, by omega, ?_⟩
  refine lcb_v (rng (f + 1) l) (fun d => if tell n d ≠ tell n (d - 1) then some (V.int d) else none) hS (rng_len ..) (by omega) (fun _ _ _ _ _ _ => True.intro) ?_ ?_
  · rintro i s D G' vs H' x H'' hs e2 hS2 ⟨rfl, hy⟩ Z gZ
    obtain rfl := yR1 hy
    have hj : i < (l + 1 - (f + 1)).toNat := by rw [← rng_len]; exact (List.getElem?_eq_some_iff.mp hs).1
    rw [rng_get hj] at hs
    obtain rfl := Option.some.inj hs
    have hta2 := e2 _ _ hta
    ktf_call "w"
    ktf_call "us"
    refine ⟨rfl, fun Z gZ => ?_⟩
    ktf_call "us"
    refine ⟨.inr ⟨kvs, .inl (hS2.g _ _ hta2)⟩, ?_⟩
    ktf_call "us"
    refine nt_f hS2 (by show 2 ≤ sizeLine; decide) fun t3 G3 H3 hS3 e3 ht3 => ?_
    refine ⟨_, tab_get hT (hS3.g _ _ (e3 _ _ hta2)) (hS3.g _ _ ht3), ?_⟩
    rw [getD_oV]
    ktf_call "us"
    refine ⟨.inr ⟨kvs, .inl (hS3.g _ _ (e3 _ _ hta2))⟩, ?_⟩
    ktf_call "us"
    refine nt_f hS3 (by show 2 ≤ sizeLine; decide) fun t4 G4 H4 hS4 e4 ht4 => ?_
    refine ⟨_, tab_get hT (hS4.g _ _ (e4 _ _ (e3 _ _ hta2))) (hS4.g _ _ ht4), ?_⟩
    rw [getD_oV]
    generalize f + 1 + (i : Int) = d
    refine wc_ne (oV_scal _ _) ⟨_, rfl, ?_⟩
    by_cases e : tell n d = tell n (d - 1)
    · refine iteNDF (by rw [e]) ⟨by simp [e], G4, e3.trans e4, hS4⟩
    · refine iteNDT (fun z => e (oV_inj.mp z)) fun Z gZ => ?_
      ktf_call "us"
      exact ⟨by rw [if_pos e], G4, e3.trans e4, hS4⟩
  · intro D G' H' e2 hS2
    have el : ((rng (f + 1) l).filterMap fun d => if tell n d ≠ tell n (d - 1) then some (V.int d) else none) = (chgL (tell n) f l).map V.int := fm_ite (fun d => tell n d ≠ tell n (d - 1)) V.int _
    rw [el] at hS2
    have hcm : ∀ d ∈ chgL (tell n) f l, f + 1 ≤ d ∧ d ≤ l := fun d hd => mem_rng.mp (List.mem_filter.mp hd).1
    have hev : evalM tell (.chg c n f l) = (chgL (tell n) f l)[(c - 1).toNat]? := rfl
    have hdy : daysM tell (.chg c n f l) = dys n f (((chgL (tell n) f l)[(c - 1).toNat]?).getD l) := rfl
    rw [hev, hdy] at kk
    generalize chgL (tell n) f l = cl at hS2 hcm kk
    obtain ⟨hS3, e3⟩ := hS2.freeze
    generalize hG3 : upd G' D (.lst (cl.map V.int)) = G3 at hS3 e3
    have hD : G3 D = some (.lst (cl.map V.int)) := by rw [← hG3]; exact upd_same
    have e13 := e2.trans e3
    ktf_call "w"
    ktf_call "i"
    ktf_call "us"
    refine wcl_lenL g (sql (hS3.g _ _ hD)) ?_
    rw [List.length_map]
    ktf_call "us"
    refine iteD (fun hlt => ?_) (fun hge => ?_)
    · rw [List.getElem?_eq_none (by omega)] at kk
      ktf_call "us"
      refine we_lc g [("_law_day", 14)] [false, false, false, true, false, false, false, false, false, false, false, false, false, false, true] [false, false, false, false, false, false, false, false, false, false, false, false, false, false, true] [] (by decide +kernel) (by decide) (wi_r2 g (by ktf_call "gm") E.f_range ?_)
      ktf_call "us"
      refine ⟨f, l + 1, rfl, rfl, by omega, ?_⟩
      refine ⟨Str × Int, Str × Int, dys n (f) (l), some, PrR, fun _ m' => m = m', m, G3, fun _ _ _ _ e h => h.up e, dys_len .., Nat.le_trans (by omega : _ ≤ 401) (show 401 ≤ sizeLine by decide), hS3, rfl, fun _ _ _ _ _ _ _ _ _ _ => True.intro, ?_, ?_⟩
      · rintro i p D2 m' G' vs H' x H'' hs e6 rfl hS6 ⟨rfl, hy⟩ Z gZ
        obtain rfl := yR1 hy
        have hj : i < (l + 1 - (f)).toNat := by rw [← dys_len n]; exact (List.getElem?_eq_some_iff.mp hs).1
        rw [dys_get hj] at hs
        obtain rfl := Option.some.inj hs
        ktf_call "w"
        ktf_call "us"
        refine ⟨rfl, fun Z gZ => ?_⟩
        ktf_call "t"
        refine iteT fun Z gZ => ?_
        ktf_call "us"
        refine nt_f hS6 (by show 2 ≤ sizeLine; decide) fun t G7 H7 hS7 e7 ht => ?_
        exact ⟨_, _, G7, rfl, e7, rfl, hS7, t, rfl, ht⟩
      · rintro D2 m' G' vs H' e6 rfl hS6 hF
        rw [List.filterMap_some] at hF
        obtain ⟨hS7, e7⟩ := hS6.freeze
        ktf_call "us"
        refine nt_f hS7 (by show 2 ≤ sizeLine; decide) fun q G8 H8 hS8 e8 hq => ?_
        exact kk q D2 vs G8 H8 (((e13.trans e6).trans e7).trans e8) hq (e8 _ _ upd_same) (hF.mono fun x y h => (h.up e7).up e8) hS8
    · obtain ⟨d, hd⟩ : ∃ d, cl[(c - 1).toNat]? = some d := ⟨_, List.getElem?_eq_getElem (by omega)⟩
      have hdb := hcm d (List.mem_of_getElem? hd)
      have hdv : atI (cl.map V.int) (c - 1) = some (.int d) := at_nat (c - 1).toNat (by omega) (by rw [List.getElem?_map, hd]; rfl)
      rw [hd] at kk
      ktf_call "us"
      refine wx_l g (sql (hS3.g _ _ hD)) hdv ?_
      ktf_call "us"
      refine we_lc g [("_law_day", 14)] [false, false, false, true, false, false, false, false, false, false, false, false, false, false, true] [false, false, false, false, false, false, false, false, false, false, false, false, false, false, true] [] (by decide +kernel) (by decide) (wi_r2 g (by ktf_call "gm") E.f_range ?_)
      ktf_call "us"
      refine wx_l g (sql (hS3.g _ _ hD)) hdv ?_
      ktf_call "us"
      refine ⟨f, d + 1, rfl, rfl, by omega, ?_⟩
      refine ⟨Str × Int, Str × Int, dys n (f) (d), some, PrR, fun _ m' => m = m', m, G3, fun _ _ _ _ e h => h.up e, dys_len .., Nat.le_trans (by omega : _ ≤ 401) (show 401 ≤ sizeLine by decide), hS3, rfl, fun _ _ _ _ _ _ _ _ _ _ => True.intro, ?_, ?_⟩
      · rintro i p D2 m' G' vs H' x H'' hs e6 rfl hS6 ⟨rfl, hy⟩ Z gZ
        obtain rfl := yR1 hy
        have hj : i < (d + 1 - (f)).toNat := by rw [← dys_len n]; exact (List.getElem?_eq_some_iff.mp hs).1
        rw [dys_get hj] at hs
        obtain rfl := Option.some.inj hs
        ktf_call "w"
        ktf_call "us"
        refine ⟨rfl, fun Z gZ => ?_⟩
        ktf_call "t"
        refine iteT fun Z gZ => ?_
        ktf_call "us"
        refine nt_f hS6 (by show 2 ≤ sizeLine; decide) fun t G7 H7 hS7 e7 ht => ?_
        exact ⟨_, _, G7, rfl, e7, rfl, hS7, t, rfl, ht⟩
      · rintro D2 m' G' vs H' e6 rfl hS6 hF
        rw [List.filterMap_some] at hF
        obtain ⟨hS7, e7⟩ := hS6.freeze
        ktf_call "us"
        refine nt_f hS7 (by show 2 ≤ sizeLine; decide) fun q G8 H8 hS8 e8 hq => ?_
        exact kk q D2 vs G8 H8 (((e13.trans e6).trans e7).trans e8) hq (e8 _ _ upd_same) (hF.mono fun x y h => (h.up e7).up e8) hS8
end
/-! ### text E8 -/
set_option maxHeartbeats 4000000
section
open PySem PySem.Spec PyProof.Rows L2 TL
variable {B : Bs}
theorem smp_num (E : Ev B) (tell : Tell) (i : Int) : Fn B 2 "_law_simple" (Sp2 (pDue B tell (.num i))) [] := by
  refine E.fn 93 rfl rfl rfl rfl (N := ["_law_node", "_law_table", "_law_word", "_law_names_here", "_law_first", "_law_last", "_law_days_here", "_law_name", "_law_day"]) (n := 8) (ps := ["_law_node", "_law_table"]) (gs := ["_law_row", "range", "_law_over"]) (by decide +kernel) len2 (by ktf_call "b2") ?_
  intro X vs0 H Q E1 g h
  obtain ⟨_, _, rfl, ta, kvs, m, G, ⟨a, rfl, ha⟩, rfl, hta, hT, hS, kk⟩ := h
  show WSs X _ _ [some (.ref a), some (.ref ta), none, none, none, none, none, none, none] H
  refine wss_cons (ws_ifT (fun H1 => H = H1) ?_ ?_)
  · ktf_call "us"
    refine wx_t g (sqt (hS.g _ _ ha)) (at_nat 0 rfl rfl) ?_
    ktf_call "us"
    exact ⟨by decide +kernel, rfl⟩
  rintro _ rfl
  ktf_call "us"
  refine wx_t g (sqt (hS.g _ _ ha)) (at_nat 1 rfl rfl) ?_
  ktf_call "us"
  refine nl_f hS (by decide) fun q1 G1 H1 hS1 e1 hq1 => ?_
  ktf_call "us"
  refine nt_f hS1 (by show 2 ≤ sizeLine; decide) fun q G2 H2 hS2 e2 hq => ?_
  exact kk q q1 [] G2 H2 (e1.trans e2) hq (e2 _ _ hq1) .nil hS2
theorem smp_val (E : Ev B) (tell : Tell) (n : Str) (d : Int) : Fn B 2 "_law_simple" (Sp2 (pDue B tell (.val n d))) [] := by
  refine E.fn 93 rfl rfl rfl rfl (N := ["_law_node", "_law_table", "_law_word", "_law_names_here", "_law_first", "_law_last", "_law_days_here", "_law_name", "_law_day"]) (n := 8) (ps := ["_law_node", "_law_table"]) (gs := ["_law_row", "range", "_law_over"]) (by decide +kernel) len2 (by ktf_call "b2") ?_
  intro X vs0 H Q E1 g h
  obtain ⟨_, _, rfl, ta, kvs, m, G, ⟨a, rfl, ha⟩, rfl, hta, hT, hS, kk⟩ := h
  show WSs X _ _ [some (.ref a), some (.ref ta), none, none, none, none, none, none, none] H
  refine wss_cons (ws_ifF (fun H1 => H = H1) ?_ ?_)
  · ktf_call "us"
    refine wx_t g (sqt (hS.g _ _ ha)) (at_nat 0 rfl rfl) ?_
    ktf_call "us"
    exact ⟨by decide +kernel, rfl⟩
  rintro _ rfl
  ktf_call "us"
  refine wss_cons (ws_ifT (fun H1 => H = H1) ?_ ?_)
  · ktf_call "us"
    refine wx_t g (sqt (hS.g _ _ ha)) (at_nat 0 rfl rfl) ?_
    ktf_call "us"
    exact ⟨by decide +kernel, rfl⟩
  rintro _ rfl
  ktf_call "us"
  refine ⟨.inr ⟨kvs, .inl (hS.g _ _ hta)⟩, ?_⟩
  ktf_call "us"
  refine wx_t g (sqt (hS.g _ _ ha)) (at_nat 1 rfl rfl) ?_
  ktf_call "us"
  refine wx_t g (sqt (hS.g _ _ ha)) (at_nat 2 rfl rfl) ?_
  ktf_call "us"
  refine nt_f hS (by show 2 ≤ sizeLine; decide) fun t G1 H1 hS1 e1 ht => ?_
  refine ⟨_, tab_get hT (hS1.g _ _ (e1 _ _ hta)) (hS1.g _ _ ht), ?_⟩
  rw [getD_oV]
  have ha1 := e1 _ _ ha
  ktf_call "us"
  refine wx_t g (sqt (hS1.g _ _ ha1)) (at_nat 1 rfl rfl) ?_
  ktf_call "us"
  refine wx_t g (sqt (hS1.g _ _ ha1)) (at_nat 2 rfl rfl) ?_
  ktf_call "us"
  refine nt_f hS1 (by show 2 ≤ sizeLine; decide) fun t2 G2 H2 hS2 e2 ht2 => ?_
  ktf_call "us"
  refine nl_f hS2 (by show 1 ≤ sizeLine; decide) fun q1 G3 H3 hS3 e3 hq1 => ?_
  ktf_call "us"
  refine nt_f hS3 (by show 2 ≤ sizeLine; decide) fun q G4 H4 hS4 e4 hq => ?_
  exact kk q q1 [.ref t2] G4 H4 (e1.trans (e2.trans (e3.trans e4))) hq (e4 _ _ hq1) (.cons ⟨t2, rfl, e4 _ _ (e3 _ _ ht2)⟩ .nil) hS4
theorem smp_row (E : Ev B) (tell : Tell) (nd : Nd) (xs : List V) (hw : nd.w = "since" ∨ nd.w = "part" ∨ nd.w = "change") (hx : ∀ G v, NR G v nd → ∃ a xs, v = .ref a ∧ G a = some (.tup (.str nd.w :: xs))) (f1 : Fn B 1 "_law_row" (Sp2 (pDue B tell nd)) []) : Fn B 2 "_law_simple" (Sp2 (pDue B tell nd)) [] := by
  refine E.fn 93 rfl rfl rfl rfl (N := ["_law_node", "_law_table", "_law_word", "_law_names_here", "_law_first", "_law_last", "_law_days_here", "_law_name", "_law_day"]) (n := 8) (ps := ["_law_node", "_law_table"]) (gs := ["_law_row", "range", "_law_over"]) (by decide +kernel) len2 (by ktf_call "b2") ?_
  intro X vs0 H Q E1 g h
  obtain ⟨_, _, rfl, ta, kvs, m, G, hr, rfl, hta, hT, hS, kk⟩ := h
  obtain ⟨a, xs, rfl, ha⟩ := hx G _ hr
  show WSs X _ _ [some (.ref a), some (.ref ta), none, none, none, none, none, none, none] H
  generalize hw0 : nd.w = w at ha hw
  refine wss_cons (ws_ifF (fun H1 => H = H1) ?_ ?_)
  · ktf_call "us"
    refine wx_t g (sqt (hS.g _ _ ha)) (at_nat 0 rfl rfl) ?_
    ktf_call "us"
    exact ⟨by rcases hw with e | e | e <;> rw [e] <;> decide +kernel, rfl⟩
  rintro _ rfl
  ktf_call "us"
  refine wss_cons (ws_ifF (fun H1 => H = H1) ?_ ?_)
  · ktf_call "us"
    refine wx_t g (sqt (hS.g _ _ ha)) (at_nat 0 rfl rfl) ?_
    ktf_call "us"
    exact ⟨by rcases hw with e | e | e <;> rw [e] <;> decide +kernel, rfl⟩
  rintro _ rfl
  ktf_call "us"
  refine wss_cons (ws_ifT (fun H1 => Hs B m G H1) ?_ ?_)
  · ktf_call "us"
    refine wx_t g (sqt (hS.g _ _ ha)) (at_nat 0 rfl rfl) ?_
    ktf_call "us"
    refine nt_f hS (by show 3 ≤ sizeLine; decide) fun t G1 H1 hS1 e1 ht => ?_
    refine wc_in g (.inr (sqt (hS1.g _ _ ht))) rfl rfl ?_
    exact ⟨_, rfl, by rcases hw with e | e | e <;> rw [e] <;> decide +kernel, hS1.base e1⟩
  intro H hS
  ktf_call "us"
  exact ⟨ta, kvs, m, G, hr, rfl, hta, hT, hS, kk⟩
theorem fm_flat {tell : Tell} {f l : Int} : ∀ ns : List Str, (ns.flatMap fun n => dys n f l).filterMap (fun p => tell p.1 p.2) = ns.flatMap fun n => (rng f l).filterMap (tell n)
  | [] => rfl
  | n :: ns => by
    rw [List.flatMap_cons, List.flatMap_cons, List.filterMap_append, fm_flat ns]
    congr 1
    unfold dys
    rw [List.filterMap_map]
    rfl
theorem flat_dys_len (f l : Int) : ∀ ns : List Str, (ns.flatMap fun n => dys n f l).length = ns.length * (l + 1 - f).toNat
  | [] => by simp
  | n :: ns => by
    rw [List.flatMap_cons, List.length_append, flat_dys_len f l ns, dys_len, List.length_cons, Nat.succ_mul]
    omega
theorem smp_ov (E : Ev B) (tell : Tell) (k : Ov) (ns : List Str) (f l : Int) (hb : 0 ≤ f ∧ f ≤ l ∧ l ≤ 399) (hn : ns.length ≤ 8) : Fn B 2 "_law_simple" (Sp2 (pDue B tell (.ov k ns f l))) [] := by
  have f2 := law_over E
  refine E.fn 93 rfl rfl rfl rfl (N := ["_law_node", "_law_table", "_law_word", "_law_names_here", "_law_first", "_law_last", "_law_days_here", "_law_name", "_law_day"]) (n := 8) (ps := ["_law_node", "_law_table"]) (gs := ["_law_row", "range", "_law_over"]) (by decide +kernel) len2 (by ktf_call "b2") ?_
  intro X vs0 H Q E1 g h
  obtain ⟨_, _, rfl, ta, kvs, m, G, ⟨a, p, rfl, ha, hp⟩, rfl, hta, hT, hS, kk⟩ := h
  have hz : (l + 1 - f).toNat ≤ 400 := by omega
  have hll : ∀ i, ((ns.take i).flatMap fun n => dys n f l).length ≤ 3200 := fun i => by
    rw [flat_dys_len, List.length_take]
    exact Nat.le_trans (Nat.mul_le_mul (Nat.le_trans (Nat.min_le_right _ _) hn) hz) (by decide)
  show WSs X _ _ [some (.ref a), some (.ref ta), none, none, none, none, none, none, none] H
  refine wss_cons (ws_ifF (fun H1 => H = H1) ?_ ?_)
  · ktf_call "us"
    refine wx_t g (sqt (hS.g _ _ ha)) (at_nat 0 rfl rfl) ?_
    ktf_call "us"
    exact ⟨by cases k <;> decide +kernel, rfl⟩
  rintro _ rfl
  ktf_call "us"
  refine wss_cons (ws_ifF (fun H1 => H = H1) ?_ ?_)
  · ktf_call "us"
    refine wx_t g (sqt (hS.g _ _ ha)) (at_nat 0 rfl rfl) ?_
    ktf_call "us"
    exact ⟨by cases k <;> decide +kernel, rfl⟩
  rintro _ rfl
  ktf_call "us"
  refine wss_cons (ws_ifF (fun H1 => Hs B m G H1) ?_ ?_)
  · ktf_call "us"
    refine wx_t g (sqt (hS.g _ _ ha)) (at_nat 0 rfl rfl) ?_
    ktf_call "us"
    refine nt_f hS (by show 3 ≤ sizeLine; decide) fun t G1 H1 hS1 e1 ht => ?_
    refine wc_in g (.inr (sqt (hS1.g _ _ ht))) rfl rfl ?_
    exact ⟨_, rfl, by cases k <;> decide +kernel, hS1.base e1⟩
  intro H hS
  ktf_call "us"
  have ha0 := hS.g _ _ ha
  ktf_call "us"
  refine nl_m hS (by decide) fun dq H1 hS1 => ?_
  ktf_call "us"
  refine wss_cons (ws_forS g (wi_l g ?_))
  ktf_call "us"
  refine ⟨p, _, rfl, sql (hS1.g _ _ hp), fun i σ' H' => ∃ o7 vs' G', σ' = [some (.ref a), some (.ref ta), some (.str k.w), some (.ref p), some (.int f), some (.int l), some (.ref dq), o7, none] ∧ Same G G' ∧ Fa (PrR G') vs' ((ns.take i).flatMap fun n => dys n f l) ∧ Hs B ((dq, .lst vs') :: m) G' H', ⟨_, [], G, rfl, Same.refl _, .nil, hS1⟩, fun i σ' H' _ ⟨_, _, _, _, e, _, h⟩ => sql (h.g _ _ (e _ _ hp)), ?_, ?_⟩
  · rintro i x σ' H' _ hi ⟨o7, vs', G', rfl, e2, hF, hS2⟩ ⟨rfl, hx⟩
    rw [List.getElem?_map] at hx
    obtain ⟨n, hni, rfl⟩ := Option.map_eq_some_iff.mp hx
    have hdq := hS2.a0
    ktf_call "us"
    refine we_lc g [("_law_day", 8)] [false, false, false, false, false, false, false, true, true] [false, false, false, false, false, false, false, false, true] [] (by decide +kernel) (by decide) (wi_r2 g (by ktf_call "gm") E.f_range ?_)
    ktf_call "us"
    refine ⟨f, l + 1, rfl, rfl, by omega, ?_⟩
    refine ⟨Str × Int, Str × Int, dys n (f) (l), some, PrR, fun _ m' => ((dq, HO.lst vs') :: m) = m', ((dq, HO.lst vs') :: m), G', fun _ _ _ _ e h => h.up e, dys_len .., Nat.le_trans (by omega : _ ≤ 401) (show 401 ≤ sizeLine by decide), hS2, rfl, fun _ _ _ _ _ _ _ _ _ _ => True.intro, ?_, ?_⟩
    · rintro i p D2 m' G' vs H' x H'' hs e6 rfl hS6 ⟨rfl, hy⟩ Z gZ
      obtain rfl := yR1 hy
      have hj : i < (l + 1 - (f)).toNat := by rw [← dys_len n]; exact (List.getElem?_eq_some_iff.mp hs).1
      rw [dys_get hj] at hs
      obtain rfl := Option.some.inj hs
      ktf_call "w"
      ktf_call "us"
      refine ⟨rfl, fun Z gZ => ?_⟩
      ktf_call "t"
      refine iteT fun Z gZ => ?_
      ktf_call "us"
      refine nt_f hS6 (by show 2 ≤ sizeLine; decide) fun t G7 H7 hS7 e7 ht => ?_
      exact ⟨_, _, G7, rfl, e7, rfl, hS7, t, rfl, ht⟩
    · rintro D2 m' G6 vs H' e6 rfl hS6 hF_
      rw [List.filterMap_some] at hF_
      ktf_call "w"
      ktf_call "us"
      refine wm_extend hS6.a1 hS6.a0 ?_ ?_
      · rw [hF.length, hF_.length, dys_len]
        exact Nat.le_trans (Nat.add_le_add (hll i) hz) (by decide)
      have hS7 := hS6.set1 (u' := .lst (vs' ++ vs)) rfl
      ktf_call "us"
      refine ⟨_, vs' ++ vs, _, rfl, e2.trans e6, ?_, hS7.drop⟩
      rw [take_flat hni]
      exact (hF.mono fun x y h => h.up e6).append hF_
  · rintro σ' H' ⟨o7, vs', G', rfl, e2, hF, hS2⟩
    rw [List.length_map, List.take_length] at hF
    have hll0 := hll ns.length
    rw [List.take_length] at hll0
    have hev : evalM tell (.ov k ns f l) = ovOut k ((ns.flatMap fun n => dys n f l).filterMap fun p => tell p.1 p.2) := by
      rw [fm_flat]; rfl
    have hdy : daysM tell (.ov k ns f l) = ns.flatMap fun n => dys n f l := rfl
    rw [hev, hdy] at kk
    generalize (ns.flatMap fun n => dys n f l) = L at hF hll0 kk
    have hta2 := e2 _ _ hta
    ktf_call "us"
    refine we_lc g [("_law_day", 8)] [false, true, false, false, false, false, false, false, true] [false, false, false, false, false, false, false, false, true] [] (by decide +kernel) (by decide) (wi_l g ?_)
    ktf_call "us"
    refine ⟨dq, vs', rfl, sql hS2.a0, ?_⟩
    refine lcb_v L (fun p => (tell p.1 p.2).map V.int) hS2 hF.length.symm (by rw [hF.length]; exact Nat.le_trans hll0 (by decide)) (fun _ _ _ _ _ h => sql h.a1) ?_ ?_
    · rintro i pr D G3 vs H3 x H4 hs e3 hS3 ⟨rfl, hy⟩ Z gZ
      obtain ⟨x', hx', t, rfl, ht⟩ := hF.get hs
      rw [hy] at hx'
      obtain rfl := Option.some.inj hx'
      have hta3 := e3 _ _ hta2
      have hgt := tab_get hT (hS3.g _ _ hta3) (hS3.g _ _ (e3 _ _ ht))
      ktf_call "w"
      ktf_call "us"
      refine ⟨rfl, fun Z gZ => ?_⟩
      ktf_call "us"
      refine ⟨.inr ⟨kvs, .inl (hS3.g _ _ hta3)⟩, ?_⟩
      ktf_call "us"
      refine ⟨_, hgt, ?_⟩
      rw [getD_oV]
      cases hv : tell pr.1 pr.2 with
      | none =>
        unfold oV
        ktf_call "us"
        exact ⟨rfl, _, Same.refl _, hS3⟩
      | some v =>
        unfold oV
        ktf_call "us"
        rw [hv] at hgt
        exact wx_d gZ (v := .int v) hgt ⟨rfl, _, Same.refl _, hS3⟩
    · intro D G3 H3 e3 hS3
      have el : (L.filterMap fun p => (tell p.1 p.2).map V.int) = (L.filterMap fun p => tell p.1 p.2).map V.int := by
        rw [List.map_filterMap]
      rw [el] at hS3
      obtain ⟨hS4, e4⟩ := hS3.freeze
      ktf_call "us"
      refine ⟨k, _, D, _, _, rfl, rfl, upd_same, hS4, fun H5 hS5 => ?_⟩
      obtain ⟨hS6, e6⟩ := hS5.freeze
      ktf_call "us"
      refine nt_f hS6 (by show 2 ≤ sizeLine; decide) fun q G8 H8 hS8 e8 hq => ?_
      exact kk q dq vs' G8 H8 ((((e2.trans e3).trans e4).trans e6).trans e8) hq (e8 _ _ upd_same) (hF.mono fun x y h => (((h.up e3).up e4).up e6).up e8) hS8
theorem law_simple (E : Ev B) (tell : Tell) : ∀ (nd : Nd), nd.leaf = true → nd.ok → Fn B 2 "_law_simple" (Sp2 (pDue B tell nd)) []
  | .num i, _, _ => smp_num E tell i
  | .val n d, _, _ => smp_val E tell n d
  | .ov k ns f l, _, h => smp_ov E tell k ns f l h.1 h.2.2.1
  | .since n c f l, _, h => smp_row E tell _ [] (.inl rfl) (fun G v ⟨a, e, h⟩ => ⟨a, _, e, h⟩) (row_since E tell n c f l h.1)
  | .part n o f l, _, h => smp_row E tell _ [] (.inr (.inl rfl)) (fun G v ⟨a, e, h⟩ => ⟨a, _, e, h⟩) (row_part E tell n o f l h)
  | .chg k n f l, _, h => smp_row E tell _ [] (.inr (.inr rfl)) (fun G v ⟨a, e, h⟩ => ⟨a, _, e, h⟩) (row_chg E tell k n f l h.1 h.2)
end
/-! ### text E9 -/
set_option maxHeartbeats 4000000
section
open PySem PySem.Spec PyProof.Rows L2 TL
variable {B : Bs}
theorem days_len (tell : Tell) : ∀ nd : Nd, nd.ok → (daysM tell nd).length ≤ 3200 * 4 ^ nd.depth
  | .num i, _ => by simp [daysM]
  | .val n d, _ => by simp [daysM, Nd.depth]
  | .ov k ns f l, h => by
    have h0 : 0 ≤ f ∧ f ≤ l ∧ l ≤ 399 := h.1
    show (ns.flatMap fun n => dys n f l).length ≤ 3200 * 4 ^ 0
    rw [flat_dys_len]
    exact Nat.le_trans (Nat.mul_le_mul h.2.2.1 (by omega : (l + 1 - f).toNat ≤ 400)) (by decide)
  | .since n c f l, h => by
    have h0 : 0 ≤ f ∧ f ≤ l ∧ l ≤ 399 := h.1
    show (dys n _ l).length ≤ 3200 * 4 ^ 0
    rw [dys_len]; omega
  | .part n o f l, h => by
    have h0 : 0 ≤ f ∧ f ≤ l ∧ l ≤ 399 := h
    show (dys n f l ++ dys o f l).length ≤ 3200 * 4 ^ 0
    rw [List.length_append, dys_len, dys_len]; omega
  | .chg k n f l, h => by
    have h0 : 0 ≤ f ∧ f ≤ l ∧ l ≤ 399 := h.1
    show (dys n f (((chgL (tell n) f l)[(k - 1).toNat]?).getD l)).length ≤ 3200 * 4 ^ 0
    rw [dys_len]
    cases hd : (chgL (tell n) f l)[(k - 1).toNat]? with
    | none => simp only [Option.getD_none]; omega
    | some d =>
      have := mem_rng.mp (List.mem_filter.mp (List.mem_of_getElem? hd)).1
      simp only [Option.getD_some]; omega
  | .two m a b, h => by
    have i1 := days_len tell a h.1
    have i2 := days_len tell b h.2
    have p1 : 4 ^ a.depth ≤ 4 ^ (max a.depth b.depth) := Nat.pow_le_pow_right (by decide) (by omega)
    have p2 : 4 ^ b.depth ≤ 4 ^ (max a.depth b.depth) := Nat.pow_le_pow_right (by decide) (by omega)
    show (daysM tell a ++ daysM tell b).length ≤ 3200 * 4 ^ (max a.depth b.depth + 1)
    rw [List.length_append, Nat.pow_succ]
    omega
  | .four s a b c d, h => by
    have i1 := days_len tell a h.1
    have i2 := days_len tell b h.2.1
    have i3 := days_len tell c h.2.2.1
    have i4 := days_len tell d h.2.2.2
    have p1 : 4 ^ a.depth ≤ 4 ^ (max (max a.depth b.depth) (max c.depth d.depth)) := Nat.pow_le_pow_right (by decide) (by omega)
    have p2 : 4 ^ b.depth ≤ 4 ^ (max (max a.depth b.depth) (max c.depth d.depth)) := Nat.pow_le_pow_right (by decide) (by omega)
    have p3 : 4 ^ c.depth ≤ 4 ^ (max (max a.depth b.depth) (max c.depth d.depth)) := Nat.pow_le_pow_right (by decide) (by omega)
    have p4 : 4 ^ d.depth ≤ 4 ^ (max (max a.depth b.depth) (max c.depth d.depth)) := Nat.pow_le_pow_right (by decide) (by omega)
    show (daysM tell a ++ daysM tell b ++ if third tell s a b then daysM tell c else daysM tell d).length ≤ 3200 * 4 ^ (max (max a.depth b.depth) (max c.depth d.depth) + 1)
    rw [List.length_append, List.length_append, Nat.pow_succ]
    split <;> omega
theorem days_few {tell : Tell} {nd : Nd} (h : nd.ok) (h3 : nd.depth ≤ 3) : (daysM tell nd).length ≤ 204800 := by
  refine Nat.le_trans (days_len tell nd h) ?_
  have : 4 ^ nd.depth ≤ 4 ^ 3 := Nat.pow_le_pow_right (by decide) h3
  omega
theorem due_leaf (E : Ev B) (tell : Tell) (nd : Nd) (hl : nd.leaf = true) (h : nd.ok) : Fn B 3 "_law_due" (Sp2 (pDue B tell nd)) [] := by
  have f1 := law_simple E tell nd hl h
  refine E.fn 94 rfl rfl rfl rfl (N := ["_law_node", "_law_table", "_law_one", "_law_days_here", "_law_other", "_law_more", "_law_third", "_law_answer"]) (n := 8) (ps := ["_law_node", "_law_table"]) (gs := ["_law_simple", "_law_due", "int"]) (by decide +kernel) len2 (by ktf_call "b2") ?_
  intro X vs0 H Q E1 g hh
  obtain ⟨_, _, rfl, ta, kvs, m, G, hr, rfl, hta, hT, hS, kk⟩ := hh
  obtain ⟨a, xs, rfl, ha⟩ : ∃ a xs, _ = V.ref a ∧ G a = some (.tup (.str nd.w :: xs)) := by
    cases nd with
    | num i => obtain ⟨a, e, h⟩ := hr; exact ⟨a, _, e, h⟩
    | val n d => obtain ⟨a, e, h⟩ := hr; exact ⟨a, _, e, h⟩
    | ov k ns f l => obtain ⟨a, p, e, h, _⟩ := hr; exact ⟨a, _, e, h⟩
    | since n c f l => obtain ⟨a, e, h⟩ := hr; exact ⟨a, _, e, h⟩
    | part n o f l => obtain ⟨a, e, h⟩ := hr; exact ⟨a, _, e, h⟩
    | chg k n f l => obtain ⟨a, e, h⟩ := hr; exact ⟨a, _, e, h⟩
    | two m a b => cases hl
    | four s a b c d => cases hl
  show WSs X _ _ [some (.ref a), some (.ref ta), none, none, none, none, none, none] H
  refine wss_cons (ws_ifT (fun H1 => Hs B m G H1) ?_ ?_)
  · ktf_call "us"
    refine wx_t g (sqt (hS.g _ _ ha)) (at_nat 0 rfl rfl) ?_
    ktf_call "us"
    refine nt_f hS (by show 4 ≤ sizeLine; decide) fun t G1 H1 hS1 e1 ht => ?_
    refine wc_ni g (.inr (sqt (hS1.g _ _ ht))) rfl rfl ?_
    rw [inW1, hl]
    exact ⟨_, rfl, rfl, hS1.base e1⟩
  intro H hS
  ktf_call "us"
  exact ⟨ta, kvs, m, G, hr, rfl, hta, hT, hS, kk⟩
/-- the beginning of a nested one: both answers, both lists joined -/
theorem due_two (E : Ev B) (tell : Tell) (mi : Bool) (a b : Nd) (j : Nat) (h : (Nd.two mi a b).ok) (h3 : (Nd.two mi a b).depth ≤ 3) (fa : Fn B j "_law_due" (Sp2 (pDue B tell a)) []) (fb : Fn B j "_law_due" (Sp2 (pDue B tell b)) []) : Fn B (j + 1) "_law_due" (Sp2 (pDue B tell (.two mi a b))) [] := by
  have hlen := days_few (tell := tell) h h3
  refine E.fn 94 rfl rfl rfl rfl (N := ["_law_node", "_law_table", "_law_one", "_law_days_here", "_law_other", "_law_more", "_law_third", "_law_answer"]) (n := 8) (ps := ["_law_node", "_law_table"]) (gs := ["_law_simple", "_law_due", "int"]) (by decide +kernel) len2 (by ktf_call "b2") ?_
  intro X vs0 H Q E1 g hh
  obtain ⟨_, _, rfl, ta, kvs, m, G, ⟨q, p, u, w, rfl, hq, hp, hu, hw⟩, rfl, hta, hT, hS, kk⟩ := hh
  show WSs X _ _ [some (.ref q), some (.ref ta), none, none, none, none, none, none] H
  refine wss_cons (ws_ifF (fun H1 => Hs B m G H1) ?_ ?_)
  · ktf_call "us"
    refine wx_t g (sqt (hS.g _ _ hq)) (at_nat 0 rfl rfl) ?_
    ktf_call "us"
    refine nt_f hS (by show 4 ≤ sizeLine; decide) fun t G1 H1 hS1 e1 ht => ?_
    refine wc_ni g (.inr (sqt (hS1.g _ _ ht))) rfl rfl ?_
    rw [show (if mi = true then Str.ofString "minus" else Str.ofString "plus") = (Nd.two mi a b).w from rfl, inW1]
    exact ⟨_, rfl, rfl, hS1.base e1⟩
  clear hS
  intro H hS
  ktf_call "us"
  refine we_fn (by assumption) fa (by ktf_call "gm") (Nat.le_refl _) ?_
  ktf_call "us"
  refine wx_t g (sqt (hS.g _ _ hq)) (at_nat 1 rfl rfl) ?_
  ktf_call "us"
  refine wx_l g (sql (hS.g _ _ hp)) (at_nat 0 rfl rfl) ?_
  ktf_call "us"
  refine ⟨ta, kvs, m, G, hu, rfl, hta, hT, hS, fun v1 q1 vs1 G1 H1 e1 hv1 hq1 hF1 hS1 => ?_⟩
  have hv1' := hS1.g _ _ hv1
  ktf_call "us"
  refine we_fn (by assumption) fb (by ktf_call "gm") (Nat.le_refl _) ?_
  ktf_call "us"
  refine wx_t g (sqt (hS1.g _ _ (e1 _ _ hq))) (at_nat 1 rfl rfl) ?_
  ktf_call "us"
  refine wx_l g (sql (hS1.g _ _ (e1 _ _ hp))) (at_nat 1 rfl rfl) ?_
  ktf_call "us"
  refine ⟨ta, kvs, m, G1, NR.up (B := B) e1 hw, rfl, e1 _ _ hta, hT, hS1, fun v2 q2 vs2 G2 H2 e2 hv2 hq2 hF2 hS2 => ?_⟩
  have hv2' := hS2.g _ _ hv2
  have hsz : (vs1 ++ vs2).length ≤ sizeLine := by
    rw [List.length_append, hF1.length, hF2.length, ← List.length_append]
    exact Nat.le_trans hlen (by decide)
  ktf_call "us"
  refine wb_cat (hS2.g _ _ (e2 _ _ hq1)) (hS2.g _ _ hq2) hsz ?_
  refine nl_f hS2 hsz fun q3 G3 H3 hS3 e3 hq3 => ?_
  have hF : Fa (PrR G3) (vs1 ++ vs2) (daysM tell (.two mi a b)) := (hF1.mono fun x y h => (h.up e2).up e3).append (hF2.mono fun x y h => h.up e3)
  have e13 := e1.trans (e2.trans e3)
  have hq0 := e13 _ _ hq
  ktf_call "us"
  refine wss_cons (ws_ifT (fun H4 => Hs B m G3 H4) ?_ ?_)
  · ktf_call "us"
    refine wx_t g (sqt (hS3.g _ _ hq0)) (at_nat 0 rfl rfl) ?_
    ktf_call "us"
    refine nt_f hS3 (by show 2 ≤ sizeLine; decide) fun t G4 H4 hS4 e4 ht => ?_
    refine wc_in g (.inr (sqt (hS4.g _ _ ht))) rfl rfl ?_
    exact ⟨_, rfl, by cases mi <;> decide +kernel, hS4.base e4⟩
  intro H4 hS4
  have fin : ∀ q H5 G5, Same G3 G5 → G5 q = some (.tup [oV (evalM tell (.two mi a b)), .ref q3]) → Hs B m G5 H5 → Q (.ref q) H5 := fun q H5 G5 e5 hq5 hS5 => kk q q3 _ G5 H5 (e13.trans e5) hq5 (e5 _ _ hq3) (hF.mono fun x y h => h.up e5) hS5
  cases hx : evalM tell a with
  | none =>
    unfold oV
    ktf_call "i"
    ktf_call "us"
    refine nt_f hS4 (by show 2 ≤ sizeLine; decide) fun q5 G5 H5 hS5 e5 hq5 => ?_
    exact fin q5 H5 G5 e5 (by rw [hq5, show evalM tell (.two mi a b) = none from by simp only [evalM, hx]]; rfl) hS5
  | some i =>
    cases hy : evalM tell b with
    | none =>
      unfold oV
      ktf_call "i"
      ktf_call "us"
      refine nt_f hS4 (by show 2 ≤ sizeLine; decide) fun q5 G5 H5 hS5 e5 hq5 => ?_
      exact fin q5 H5 G5 e5 (by rw [hq5, show evalM tell (.two mi a b) = none from by simp only [evalM, hx, hy]]; rfl) hS5
    | some k =>
      unfold oV
      ktf_call "i"
      ktf_call "us"
      refine nl_f hS4 (by show 2 ≤ sizeLine; decide) fun q5 G5 H5 hS5 e5 hq5 => ?_
      ktf_call "us"
      refine wx_t g (sqt (hS5.g _ _ (e5 _ _ hq0))) (at_nat 0 rfl rfl) ?_
      ktf_call "us"
      refine wcl_intB ?_
      refine wx_l g (v := .int (if mi then -1 else 1)) (sql (hS5.g _ _ hq5)) (by
        cases mi with
        | true => exact at_nat 1 (by decide +kernel) rfl
        | false => exact at_nat 0 (by decide +kernel) rfl) ?_
      refine wb_mul (.inr (by cases mi <;> decide)) ?_
      ktf_call "us"
      refine nt_f hS5 (by show 2 ≤ sizeLine; decide) fun q6 G6 H6 hS6 e6 hq6 => ?_
      refine fin q6 H6 G6 (e5.trans e6) ?_ hS6
      have ev : evalM tell (.two mi a b) = some (if mi then i - k else i + k) := by simp only [evalM, hx, hy]
      rw [hq6, ev]
      cases mi with
      | true => show some (HO.tup [.int (i + k * -1), _]) = some (HO.tup [.int (i - k), _]); rw [show i + k * -1 = i - k from by omega]
      | false => show some (HO.tup [.int (i + k * 1), _]) = some (HO.tup [.int (i + k), _]); rw [Int.mul_one]
theorem due_four (E : Ev B) (tell : Tell) (s : Bool) (a b c d : Nd) (j : Nat) (h : (Nd.four s a b c d).ok) (h3 : (Nd.four s a b c d).depth ≤ 3) (fa : Fn B j "_law_due" (Sp2 (pDue B tell a)) []) (fb : Fn B j "_law_due" (Sp2 (pDue B tell b)) [])
    (fc : Fn B j "_law_due" (Sp2 (pDue B tell c)) []) (fd : Fn B j "_law_due" (Sp2 (pDue B tell d)) []) : Fn B (j + 1) "_law_due" (Sp2 (pDue B tell (.four s a b c d))) [] := by
  have hlen := days_few (tell := tell) h h3
  rw [show daysM tell (.four s a b c d) = daysM tell a ++ daysM tell b ++ (if third tell s a b then daysM tell c else daysM tell d) from rfl, List.length_append, List.length_append] at hlen
  refine E.fn 94 rfl rfl rfl rfl (N := ["_law_node", "_law_table", "_law_one", "_law_days_here", "_law_other", "_law_more", "_law_third", "_law_answer"]) (n := 8) (ps := ["_law_node", "_law_table"]) (gs := ["_law_simple", "_law_due", "int"]) (by decide +kernel) len2 (by ktf_call "b2") ?_
  intro X vs0 H Q E1 g hh
  obtain ⟨_, _, rfl, ta, kvs, m, G, ⟨q, p, u, w, u3, u4, rfl, hq, hp, hu, hw, hu3, hu4⟩, rfl, hta, hT, hS, kk⟩ := hh
  show WSs X _ _ [some (.ref q), some (.ref ta), none, none, none, none, none, none] H
  refine wss_cons (ws_ifF (fun H1 => Hs B m G H1) ?_ ?_)
  · ktf_call "us"
    refine wx_t g (sqt (hS.g _ _ hq)) (at_nat 0 rfl rfl) ?_
    ktf_call "us"
    refine nt_f hS (by show 4 ≤ sizeLine; decide) fun t G1 H1 hS1 e1 ht => ?_
    refine wc_ni g (.inr (sqt (hS1.g _ _ ht))) rfl rfl ?_
    rw [show (if s = true then Str.ofString "same" else Str.ofString "less") = (Nd.four s a b c d).w from rfl, inW1]
    exact ⟨_, rfl, rfl, hS1.base e1⟩
  clear hS
  intro H hS
  ktf_call "us"
  refine we_fn (by assumption) fa (by ktf_call "gm") (Nat.le_refl _) ?_
  ktf_call "us"
  refine wx_t g (sqt (hS.g _ _ hq)) (at_nat 1 rfl rfl) ?_
  ktf_call "us"
  refine wx_l g (sql (hS.g _ _ hp)) (at_nat 0 rfl rfl) ?_
  ktf_call "us"
  refine ⟨ta, kvs, m, G, hu, rfl, hta, hT, hS, fun v1 q1 vs1 G1 H1 e1 hv1 hq1 hF1 hS1 => ?_⟩
  have hv1' := hS1.g _ _ hv1
  ktf_call "us"
  refine we_fn (by assumption) fb (by ktf_call "gm") (Nat.le_refl _) ?_
  ktf_call "us"
  refine wx_t g (sqt (hS1.g _ _ (e1 _ _ hq))) (at_nat 1 rfl rfl) ?_
  ktf_call "us"
  refine wx_l g (sql (hS1.g _ _ (e1 _ _ hp))) (at_nat 1 rfl rfl) ?_
  ktf_call "us"
  refine ⟨ta, kvs, m, G1, NR.up (B := B) e1 hw, rfl, e1 _ _ hta, hT, hS1, fun v2 q2 vs2 G2 H2 e2 hv2 hq2 hF2 hS2 => ?_⟩
  have hv2' := hS2.g _ _ hv2
  have hsz : (vs1 ++ vs2).length ≤ sizeLine := by
    rw [List.length_append, hF1.length, hF2.length]
    exact Nat.le_trans (by omega : _ ≤ 204800) (by decide)
  ktf_call "us"
  refine wb_cat (hS2.g _ _ (e2 _ _ hq1)) (hS2.g _ _ hq2) hsz ?_
  refine nl_f hS2 hsz fun q3 G3 H3 hS3 e3 hq3 => ?_
  have hF : Fa (PrR G3) (vs1 ++ vs2) (daysM tell a ++ daysM tell b) := (hF1.mono fun x y h => (h.up e2).up e3).append (hF2.mono fun x y h => h.up e3)
  have e13 := e1.trans (e2.trans e3)
  have hq0 := e13 _ _ hq
  ktf_call "us"
  refine wss_cons (ws_ifF (fun H4 => Hs B m G3 H4) ?_ ?_)
  · ktf_call "us"
    refine wx_t g (sqt (hS3.g _ _ hq0)) (at_nat 0 rfl rfl) ?_
    ktf_call "us"
    refine nt_f hS3 (by show 2 ≤ sizeLine; decide) fun t G4 H4 hS4 e4 ht => ?_
    refine wc_in g (.inr (sqt (hS4.g _ _ ht))) rfl rfl ?_
    exact ⟨_, rfl, by cases s <;> decide +kernel, hS4.base e4⟩
  intro H4 hS4
  have hq4 := hS4.g _ _ hq0
  have hs1 : decide ((if s = true then Str.ofString "same" else Str.ofString "less") = Str.ofString "same") = s := by cases s <;> decide +kernel
  have hs2 : decide ((if s = true then Str.ofString "same" else Str.ofString "less") = Str.ofString "less") = !s := by cases s <;> decide +kernel
  refine wss_nil (wss_cut (fun σ' H' => σ' = [some (.ref q), some (.ref ta), some (oV (evalM tell a)), some (.ref q3), some (oV (evalM tell b)), some (.ref q2), some (.bl (s && decide (evalM tell a = evalM tell b))), none] ∧ H4 = H') ?_ ?_)
  · ktf_call "us"
    refine wx_t g (sqt hq4) (at_nat 0 rfl rfl) ?_
    ktf_call "us"
    rw [hs1]
    refine iteB (fun hs => ?_) (fun hs => ?_)
    · ktf_call "us"
      refine wc_eq (oV_scal _ _) ?_
      ktf_call "us"
      refine ⟨?_, rfl⟩
      rw [hs, show decide (oV (evalM tell a) = oV (evalM tell b)) = decide (evalM tell a = evalM tell b) from by rw [decide_eq_decide]; exact oV_inj]
      rfl
    · ktf_call "us"
      exact ⟨by rw [hs]; rfl, rfl⟩
  rintro _ _ ⟨rfl, rfl⟩
  refine wss_cut (fun σ' H' => σ' = [some (.ref q), some (.ref ta), some (oV (evalM tell a)), some (.ref q3), some (oV (evalM tell b)), some (.ref q2), some (.bl (third tell s a b)), none] ∧ H4 = H') ?_ ?_
  · refine ws_ifV (!s && ((evalM tell a).isSome && (evalM tell b).isSome)) (fun H5 => H4 = H5) ?_ ?_ ?_
    · ktf_call "us"
      refine wx_t g (sqt hq4) (at_nat 0 rfl rfl) ?_
      ktf_call "us"
      rw [hs2]
      refine iteB (fun hs => ?_) (fun hs => ?_)
      · rw [hs]
        cases hx : evalM tell a with
        | none =>
          unfold oV
          ktf_call "us"
          exact ⟨rfl, rfl⟩
        | some i =>
          cases hy : evalM tell b with
          | none =>
            unfold oV
            ktf_call "us"
            exact ⟨rfl, rfl⟩
          | some k =>
            unfold oV
            ktf_call "us"
            exact ⟨rfl, rfl⟩
      · exact ⟨by rw [hs]; rfl, rfl⟩
    · rintro hb _ rfl
      cases hx : evalM tell a with
      | none => rw [hx] at hb; simp at hb
      | some i =>
        cases hy : evalM tell b with
        | none => rw [hy] at hb; simp at hb
        | some k =>
          have hs : s = false := by cases s <;> simp_all
          unfold oV
          ktf_call "us"
          refine ⟨?_, rfl⟩
          unfold third
          rw [hx, hy, hs]
          rfl
    · rintro hb _ rfl
      ktf_call "us"
      refine ⟨?_, rfl⟩
      unfold third
      cases s with
      | true => simp
      | false =>
        cases hx : evalM tell a with
        | none => simp
        | some i =>
          cases hy : evalM tell b with
          | none => simp
          | some k => rw [hx, hy] at hb; simp at hb
  rintro _ _ ⟨rfl, rfl⟩
  cases ht : third tell s a b with
  | true =>
    ktf_call "us"
    refine we_fn (by assumption) fc (by ktf_call "gm") (Nat.le_refl _) ?_
    ktf_call "us"
    refine wx_t g (sqt hq4) (at_nat 1 rfl rfl) ?_
    ktf_call "us"
    refine wcl_intB ?_
    ktf_call "us"
    refine wx_l g (sql (hS4.g _ _ (e13 _ _ hp))) (at_nat 2 rfl rfl) ?_
    ktf_call "us"
    refine ⟨ta, kvs, m, G3, NR.up (B := B) e13 hu3, rfl, e13 _ _ hta, hT, hS4, fun v5 q5 vs5 G5 H5 e5 hv5 hq5 hF5 hS5 => ?_⟩
    have hv5' := hS5.g _ _ hv5
    rw [ht, if_pos rfl] at hlen
    have hsz2 : ((vs1 ++ vs2) ++ vs5).length ≤ sizeLine := by
      rw [List.length_append, List.length_append, hF1.length, hF2.length, hF5.length]
      exact Nat.le_trans hlen (by decide)
    ktf_call "us"
    refine wb_cat (hS5.g _ _ (e5 _ _ hq3)) (hS5.g _ _ hq5) hsz2 ?_
    refine nl_f hS5 hsz2 fun q6 G6 H6 hS6 e6 hq6 => ?_
    ktf_call "us"
    refine nt_f hS6 (by show 2 ≤ sizeLine; decide) fun q7 G7 H7 hS7 e7 hq7 => ?_
    refine kk q7 q6 _ G7 H7 (e13.trans (e5.trans (e6.trans e7))) ?_ (e7 _ _ hq6) ?_ hS7
    · rw [hq7, evalM_four, ht, if_pos rfl]
    · rw [show daysM tell (.four s a b c d) = daysM tell a ++ daysM tell b ++ (if third tell s a b then daysM tell c else daysM tell d) from rfl, ht, if_pos rfl]
      exact (hF.mono fun x y h => ((h.up e5).up e6).up e7).append (hF5.mono fun x y h => (h.up e6).up e7)
  | false =>
    ktf_call "us"
    refine we_fn (by assumption) fd (by ktf_call "gm") (Nat.le_refl _) ?_
    ktf_call "us"
    refine wx_t g (sqt hq4) (at_nat 1 rfl rfl) ?_
    ktf_call "us"
    refine wcl_intB ?_
    ktf_call "us"
    refine wx_l g (sql (hS4.g _ _ (e13 _ _ hp))) (at_nat 3 rfl rfl) ?_
    ktf_call "us"
    refine ⟨ta, kvs, m, G3, NR.up (B := B) e13 hu4, rfl, e13 _ _ hta, hT, hS4, fun v5 q5 vs5 G5 H5 e5 hv5 hq5 hF5 hS5 => ?_⟩
    have hv5' := hS5.g _ _ hv5
    rw [ht, if_neg (by decide)] at hlen
    have hsz2 : ((vs1 ++ vs2) ++ vs5).length ≤ sizeLine := by
      rw [List.length_append, List.length_append, hF1.length, hF2.length, hF5.length]
      exact Nat.le_trans hlen (by decide)
    ktf_call "us"
    refine wb_cat (hS5.g _ _ (e5 _ _ hq3)) (hS5.g _ _ hq5) hsz2 ?_
    refine nl_f hS5 hsz2 fun q6 G6 H6 hS6 e6 hq6 => ?_
    ktf_call "us"
    refine nt_f hS6 (by show 2 ≤ sizeLine; decide) fun q7 G7 H7 hS7 e7 hq7 => ?_
    refine kk q7 q6 _ G7 H7 (e13.trans (e5.trans (e6.trans e7))) ?_ (e7 _ _ hq6) ?_ hS7
    · rw [hq7, evalM_four, ht, if_neg (by decide)]
    · rw [show daysM tell (.four s a b c d) = daysM tell a ++ daysM tell b ++ (if third tell s a b then daysM tell c else daysM tell d) from rfl, ht, if_neg (by decide)]
      exact (hF.mono fun x y h => ((h.up e5).up e6).up e7).append (hF5.mono fun x y h => (h.up e6).up e7)
theorem law_due (E : Ev B) (tell : Tell) : ∀ (nd : Nd), nd.ok → nd.depth ≤ 3 → Fn B (3 + nd.depth) "_law_due" (Sp2 (pDue B tell nd)) []
  | .num i, h, _ => due_leaf E tell _ rfl h
  | .val n d, h, _ => due_leaf E tell _ rfl h
  | .ov k ns f l, h, _ => due_leaf E tell _ rfl h
  | .since n c f l, h, _ => due_leaf E tell _ rfl h
  | .part n o f l, h, _ => due_leaf E tell _ rfl h
  | .chg k n f l, h, _ => due_leaf E tell _ rfl h
  | .two s a b, h1, h3 => by
    have hd : max a.depth b.depth + 1 ≤ 3 := h3
    have i1 := (law_due E tell a h1.1 (by omega)).up (show 3 + a.depth ≤ 3 + max a.depth b.depth by omega)
    have i2 := (law_due E tell b h1.2 (by omega)).up (show 3 + b.depth ≤ 3 + max a.depth b.depth by omega)
    exact due_two E tell s a b _ h1 h3 i1 i2
  | .four s a b c d, h1, h3 => by
    have hd : max (max a.depth b.depth) (max c.depth d.depth) + 1 ≤ 3 := h3
    have i1 := (law_due E tell a h1.1 (by omega)).up (show 3 + a.depth ≤ 3 + max (max a.depth b.depth) (max c.depth d.depth) by omega)
    have i2 := (law_due E tell b h1.2.1 (by omega)).up (show 3 + b.depth ≤ 3 + max (max a.depth b.depth) (max c.depth d.depth) by omega)
    have i3 := (law_due E tell c h1.2.2.1 (by omega)).up (show 3 + c.depth ≤ 3 + max (max a.depth b.depth) (max c.depth d.depth) by omega)
    have i4 := (law_due E tell d h1.2.2.2 (by omega)).up (show 3 + d.depth ≤ 3 + max (max a.depth b.depth) (max c.depth d.depth) by omega)
    exact due_four E tell s a b c d _ h1 h3 i1 i2 i3 i4
end
/-! ### text P1 -/
set_option maxHeartbeats 4000000
section
open PySem PySem.Spec PyProof.Rows L2 TL
/-! ### strips: what they tell -/
def Cov (r : Row) (d : Int) : Prop := r.1 ≤ d ∧ d ≤ r.2.1
instance (r : Row) (d : Int) : Decidable (Cov r d) := inferInstanceAs (Decidable (_ ∧ _))
/-- no day in two rows, in any order -/
def Dj (rows : List Row) : Prop := rows.Pairwise fun a b => a.2.1 < b.1 ∨ b.2.1 < a.1
def Ne (rows : List Row) : Prop := ∀ r ∈ rows, r.1 ≤ r.2.1
def Asc (rows : List Row) : Prop := rows.Pairwise fun a b => a.2.1 < b.1
theorem mark_acc (rows : List Row) (d : Int) (x : Option Int) (h : ∀ s ∈ rows, ¬ Cov s d) : rows.foldl (fun acc r => if r.1 ≤ d ∧ d ≤ r.2.1 then r.2.2 else acc) x = x := by
  induction rows generalizing x with
  | nil => rfl
  | cons r rows ih =>
    rw [List.foldl_cons, if_neg (show ¬ (r.1 ≤ d ∧ d ≤ r.2.1) from h r List.mem_cons_self)]
    exact ih _ fun s hs => h s (List.mem_cons_of_mem _ hs)
theorem mark_none {rows : List Row} {d : Int} (h : ∀ s ∈ rows, ¬ Cov s d) : markF rows d = none := mark_acc rows d none h
theorem mark_some {rows : List Row} {d : Int} {r : Row} (hd : Dj rows) (hr : r ∈ rows) (hc : Cov r d) : markF rows d = r.2.2 := by
  unfold markF
  generalize (none : Option Int) = x
  induction rows generalizing x with
  | nil => cases hr
  | cons a rows ih =>
    obtain ⟨h1, h2⟩ := List.pairwise_cons.mp hd
    rw [List.foldl_cons]
    rcases List.mem_cons.mp hr with e | hr
    · subst e
      rw [if_pos (show r.1 ≤ d ∧ d ≤ r.2.1 from hc)]
      refine mark_acc rows d _ fun s hs z => ?_
      have := h1 s hs
      unfold Cov at hc z
      omega
    · exact ih h2 hr _
theorem Dj.perm {a b : List Row} (h : Dj a) (p : a.Perm b) : Dj b := List.Pairwise.perm h p fun h => h.symm
theorem mark_perm {a b : List Row} (h : Dj a) (p : a.Perm b) (d : Int) : markF a d = markF b d := by
  by_cases c : ∃ r ∈ a, Cov r d
  · obtain ⟨r, hr, hc⟩ := c
    rw [mark_some h hr hc, mark_some (h.perm p) (p.mem_iff.mp hr) hc]
  · rw [mark_none fun s hs z => c ⟨s, hs, z⟩, mark_none fun s hs z => c ⟨s, p.mem_iff.mpr hs, z⟩]
theorem asc_sort {rows : List Row} (h : Dj rows) (hn : Ne rows) : Asc (sortR rows) := by
  have p : (sortR rows).Perm rows := List.mergeSort_perm _ _
  have h1 : (sortR rows).Pairwise (fun a b => decide (a.1 ≤ b.1) = true) := List.pairwise_mergeSort (le := fun a b : Row => decide (a.1 ≤ b.1)) (fun a b c h1 h2 => by simp at *; omega) (fun a b => by simp; omega) rows
  have h2 : Dj (sortR rows) := h.perm p.symm
  refine (h1.and h2).imp_of_mem fun {a b} ha hb z => ?_
  obtain ⟨z1, z2⟩ := z
  have z1 := of_decide_eq_true z1
  have := hn a (p.mem_iff.mp ha)
  have := hn b (p.mem_iff.mp hb)
  omega
/-- rows that may stand in a strip -/
structure RowsG (lo hi : Int) (mk : Option Int → Prop) (rows : List Row) : Prop where
  a : ∀ r ∈ rows, lo ≤ r.1 ∧ r.1 ≤ r.2.1 ∧ r.2.1 ≤ hi
  m : ∀ r ∈ rows, mk r.2.2
theorem RowsG.app {lo hi : Int} {mk : Option Int → Prop} {a b : List Row} : RowsG lo hi mk (a ++ b) ↔ RowsG lo hi mk a ∧ RowsG lo hi mk b := by
  constructor
  · exact fun h => ⟨⟨fun r hr => h.a r (List.mem_append_left _ hr), fun r hr => h.m r (List.mem_append_left _ hr)⟩, ⟨fun r hr => h.a r (List.mem_append_right _ hr), fun r hr => h.m r (List.mem_append_right _ hr)⟩⟩
  · rintro ⟨h1, h2⟩
    exact ⟨fun r hr => (List.mem_append.mp hr).elim (h1.a r) (h2.a r), fun r hr => (List.mem_append.mp hr).elim (h1.m r) (h2.m r)⟩
theorem RowsG.one {lo hi : Int} {mk : Option Int → Prop} {r : Row} (h1 : lo ≤ r.1 ∧ r.1 ≤ r.2.1 ∧ r.2.1 ≤ hi) (h2 : mk r.2.2) : RowsG lo hi mk [r] :=
  ⟨fun s hs => by rw [List.mem_singleton.mp hs]; exact h1, fun s hs => by rw [List.mem_singleton.mp hs]; exact h2⟩
theorem asc_app {a b : List Row} : Asc (a ++ b) ↔ Asc a ∧ Asc b ∧ ∀ x ∈ a, ∀ y ∈ b, x.2.1 < y.1 := List.pairwise_append
theorem putB_asc {lo hi : Int} {mk : Option Int → Prop} (acc : List Row) (r : Row) (rest : List Row) (h : Asc (acc ++ r :: rest)) (g : RowsG lo hi mk (acc ++ r :: rest)) :
    Asc (putB acc r.1 r.2.1 r.2.2 ++ rest) ∧ RowsG lo hi mk (putB acc r.1 r.2.1 r.2.2 ++ rest) ∧ ∀ d, markF (putB acc r.1 r.2.1 r.2.2) d = markF (acc ++ [r]) d := by
  obtain ⟨f, l, m⟩ := r
  have e0 : acc ++ (f, l, m) :: rest = acc ++ [(f, l, m)] ++ rest := by simp
  rw [e0] at h g
  rcases List.eq_nil_or_concat acc with e | ⟨L, ⟨a, b, c⟩, e⟩
  · subst e
    exact ⟨h, g, fun d => rfl⟩
  · rw [List.concat_eq_append] at e
    subst e
    show Asc (putB (L ++ [(a, b, c)]) f l m ++ rest) ∧ RowsG lo hi mk (putB (L ++ [(a, b, c)]) f l m ++ rest) ∧ _
    rw [putB_snoc]
    split
    · rename_i hc
      obtain ⟨rfl, rfl⟩ := hc
      obtain ⟨g1, g2⟩ := RowsG.app.mp g
      obtain ⟨g3, g4⟩ := RowsG.app.mp g1
      obtain ⟨g5, g6⟩ := RowsG.app.mp g3
      have q1 := g6.a (a, b, c) (by simp)
      have q2 := g4.a (b + 1, l, c) (by simp)
      have q3 := g6.m (a, b, c) (by simp)
      obtain ⟨h1, h2, h3⟩ := asc_app.mp h
      obtain ⟨h4, h5, h6⟩ := asc_app.mp h1
      obtain ⟨h7, h8, h9⟩ := asc_app.mp h4
      dsimp only at q1 q2 q3
      refine ⟨asc_app.mpr ⟨asc_app.mpr ⟨h7, List.pairwise_singleton _ _, fun x hx y hy => ?_⟩, h2, fun x hx y hy => ?_⟩, RowsG.app.mpr ⟨RowsG.app.mpr ⟨g5, RowsG.one (by dsimp only; omega) q3⟩, g2⟩, fun d => ?_⟩
      · rw [List.mem_singleton.mp hy]
        have := h9 x hx (a, b, c) (by simp)
        exact this
      · rcases List.mem_append.mp hx with hx | hx
        · exact h3 x (by simp [hx]) y hy
        · rw [List.mem_singleton.mp hx]
          exact h3 (b + 1, l, c) (by simp) y hy
      · rw [markF_snoc, markF_snoc, markF_snoc]
        dsimp only
        by_cases c1 : b + 1 ≤ d ∧ d ≤ l
        · rw [if_pos c1, if_pos (by omega)]
        · rw [if_neg c1]
          by_cases c2 : a ≤ d ∧ d ≤ b
          · rw [if_pos c2, if_pos (by omega)]
          · rw [if_neg c2, if_neg (by omega)]
    · exact ⟨h, g, fun d => rfl⟩
theorem fold_asc {lo hi : Int} {mk : Option Int → Prop} : ∀ (rows acc : List Row), Asc (acc ++ rows) → RowsG lo hi mk (acc ++ rows) →
    Asc (foldR acc rows) ∧ RowsG lo hi mk (foldR acc rows) ∧ ∀ d, markF (foldR acc rows) d = markF (acc ++ rows) d
  | [], acc, h, g => by
    rw [List.append_nil] at *
    exact ⟨h, g, fun d => rfl⟩
  | r :: rows, acc, h, g => by
    obtain ⟨h1, h2, h3⟩ := putB_asc acc r rows h g
    obtain ⟨k1, k2, k3⟩ := fold_asc rows _ h1 h2
    refine ⟨k1, k2, fun d => ?_⟩
    show markF (foldR (putB acc r.1 r.2.1 r.2.2) rows) d = _
    rw [k3 d]
    have e : acc ++ r :: rows = acc ++ [r] ++ rows := by simp
    rw [e]
    unfold markF at h3 ⊢
    rw [List.foldl_append, List.foldl_append (l := acc ++ [r]), h3 d]
theorem join_ok {lo hi : Int} {mk : Option Int → Prop} {rows : List Row} (h : Dj rows) (g : RowsG lo hi mk rows) : Asc (joinR rows) ∧ RowsG lo hi mk (joinR rows) ∧ ∀ d, markF (joinR rows) d = markF rows d := by
  have p : (sortR rows).Perm rows := List.mergeSort_perm _ _
  have h1 := asc_sort h fun r hr => (g.a r hr).2.1
  obtain ⟨k1, k2, k3⟩ := fold_asc (lo := lo) (hi := hi) (mk := mk) (sortR rows) [] h1 ⟨fun r hr => g.a r (p.mem_iff.mp hr), fun r hr => g.m r (p.mem_iff.mp hr)⟩
  refine ⟨k1, k2, fun d => ?_⟩
  rw [show joinR rows = foldR [] (sortR rows) from rfl, k3 d]
  exact mark_perm (h.perm p.symm) p d
/-- a strip of the book -/
structure StG (mk : Option Int → Prop) (rows : List Row) : Prop where
  asc : Asc rows
  g : RowsG 0 399 mk rows
theorem asc_len {hi : Int} {mk : Option Int → Prop} : ∀ {rows : List Row} {lo : Int}, lo ≤ hi + 1 → Asc rows → RowsG lo hi mk rows → (rows.length : Int) ≤ hi + 1 - lo
  | [], lo, h, _, _ => by simp; omega
  | r :: rows, lo, h, ha, hg => by
    obtain ⟨h1, h2⟩ := List.pairwise_cons.mp ha
    have q := hg.a r List.mem_cons_self
    have g2 : RowsG (r.2.1 + 1) hi mk rows := by
      refine ⟨fun s hs => ?_, fun s hs => hg.m s (List.mem_cons_of_mem _ hs)⟩
      have := hg.a s (List.mem_cons_of_mem _ hs)
      have := h1 s hs
      omega
    have := asc_len (by omega) h2 g2
    rw [List.length_cons]
    omega
theorem StG.len {mk : Option Int → Prop} {rows : List Row} (h : StG mk rows) : rows.length ≤ 400 := by
  have := asc_len (lo := 0) (by omega) h.asc h.g
  omega
theorem side_mem {f l : Int} {r s : Row} (hs : s ∈ sideR f l r) : (s.1 = r.1 ∧ s.2.1 = min r.2.1 (f - 1) ∧ r.1 < f ∧ s.2.2 = r.2.2) ∨ (s.1 = max r.1 (l + 1) ∧ s.2.1 = r.2.1 ∧ l < r.2.1 ∧ s.2.2 = r.2.2) := by
  unfold sideR at hs
  rcases List.mem_append.mp hs with h | h
  · left
    split at h
    · rename_i c
      rw [List.mem_singleton.mp h]
      exact ⟨rfl, rfl, c, rfl⟩
    · cases h
  · right
    split at h
    · rename_i c
      rw [List.mem_singleton.mp h]
      exact ⟨rfl, rfl, c, rfl⟩
    · cases h
theorem laid_ok {mk : Option Int → Prop} {strip : List Row} {f l n : Int} (h : StG mk strip) (hb : 0 ≤ f ∧ f ≤ l ∧ l ≤ 399) (hm : mk (some n)) : StG mk (laidR strip f l n) ∧ ∀ d, markF (laidR strip f l n) d = if f ≤ d ∧ d ≤ l then some n else markF strip d := by
  have dj : Dj strip := h.asc.imp fun h => .inl h
  have g : RowsG 0 399 mk ((f, l, some n) :: strip.flatMap (sideR f l)) := by
    refine ⟨fun s hs => ?_, fun s hs => ?_⟩
    · rcases List.mem_cons.mp hs with e | hs
      · rw [e]; exact hb
      · obtain ⟨r, hr, hs⟩ := List.mem_flatMap.mp hs
        have := h.g.a r hr
        have := side_mem hs
        omega
    · rcases List.mem_cons.mp hs with e | hs
      · rw [e]; exact hm
      · obtain ⟨r, hr, hs⟩ := List.mem_flatMap.mp hs
        have q := h.g.m r hr
        rcases side_mem hs with c | c
        · rw [c.2.2.2]; exact q
        · rw [c.2.2.2]; exact q
  have d : Dj ((f, l, some n) :: strip.flatMap (sideR f l)) := by
    refine List.pairwise_cons.mpr ⟨fun s hs => ?_, ?_⟩
    · obtain ⟨r, hr, hs⟩ := List.mem_flatMap.mp hs
      have := h.g.a r hr
      have := side_mem hs
      dsimp only
      omega
    · rw [List.pairwise_flatMap]
      refine ⟨fun r hr => ?_, dj.imp_of_mem fun {a b} ha hb z s hs t ht => ?_⟩
      · unfold sideR
        have := h.g.a r hr
        split <;> split <;> simp <;> omega
      · have := h.g.a a ha
        have := h.g.a b hb
        have := side_mem hs
        have := side_mem ht
        omega
  obtain ⟨k1, k2, k3⟩ := join_ok d g
  refine ⟨⟨k1, k2⟩, fun x => ?_⟩
  show markF (joinR _) x = _
  rw [k3 x]
  by_cases c : f ≤ x ∧ x ≤ l
  · rw [if_pos c]
    exact mark_some (r := (f, l, some n)) d List.mem_cons_self c
  · rw [if_neg c]
    by_cases c2 : ∃ r ∈ strip, Cov r x
    · obtain ⟨r, hr, hc⟩ := c2
      rw [mark_some dj hr hc]
      have hc' : r.1 ≤ x ∧ x ≤ r.2.1 := hc
      by_cases hx : x < f
      · refine mark_some (r := (r.1, min r.2.1 (f - 1), r.2.2)) d (List.mem_cons_of_mem _ (List.mem_flatMap.mpr ⟨r, hr, ?_⟩)) ⟨hc'.1, by dsimp only; omega⟩
        unfold sideR
        rw [if_pos (show r.1 < f by omega)]
        exact List.mem_append_left _ (by simp)
      · refine mark_some (r := (max r.1 (l + 1), r.2.1, r.2.2)) d (List.mem_cons_of_mem _ (List.mem_flatMap.mpr ⟨r, hr, ?_⟩)) ⟨by dsimp only; omega, hc'.2⟩
        unfold sideR
        rw [if_pos (show l < r.2.1 by omega)]
        exact List.mem_append_right _ (by simp)
    · rw [mark_none fun s hs z => c2 ⟨s, hs, z⟩]
      refine mark_none fun s hs z => ?_
      rcases List.mem_cons.mp hs with e | hs
      · rw [e] at z
        exact c z
      · obtain ⟨r, hr, hs⟩ := List.mem_flatMap.mp hs
        refine c2 ⟨r, hr, ?_⟩
        have := side_mem hs
        unfold Cov at z ⊢
        omega
theorem StG.nil {mk : Option Int → Prop} : StG mk [] := ⟨List.Pairwise.nil, ⟨fun r hr => (by cases hr), fun r hr => (by cases hr)⟩⟩
theorem StG.mono {mk mk' : Option Int → Prop} {rows : List Row} (h : StG mk rows) (k : ∀ x, mk x → mk' x) : StG mk' rows := ⟨h.asc, h.g.a, fun r hr => k _ (h.g.m r hr)⟩
end
/-! ### text P2 -/
set_option maxHeartbeats 4000000
section
open PySem PySem.Spec PyProof.Rows L2 TL
/-! ### what was found, as the law keeps it -/
structure Fr where
  key : Str
  f : Int
  l : Int
  v : Int
  turn : Nat
  gone : Option Nat
def Fr.kn (r : Fr) (t : Nat) : Bool := decide (r.turn ≤ t) && (match r.gone with | none => true | some g => decide (t < g))
def Fr.ok (r : Fr) : Prop := 0 ≤ r.f ∧ r.f ≤ r.l ∧ r.l ≤ 399
/-- the row speaks of this day -/
def Fr.on (r : Fr) (t : Nat) (n : Str) (d : Int) : Prop := r.kn t = true ∧ r.key = n ∧ r.f ≤ d ∧ d ≤ r.l
instance (r : Fr) (t : Nat) (n : Str) (d : Int) : Decidable (r.on t n d) := inferInstanceAs (Decidable (_ ∧ _))
/-- who speaks, of the first i rows -/
def spkN (fs : List Fr) (t : Nat) (i : Nat) (n : Str) (d : Int) : Option Int := (fs.zipIdx.take i).foldl (fun acc q => if q.1.on t n d then some (q.2 : Int) else acc) none
def spkF (fs : List Fr) (t : Nat) : Str → Int → Option Int := spkN fs t fs.length
def valN (fs : List Fr) (t : Nat) (i : Nat) : Tell := fun n d => (spkN fs t i n d).bind fun k => (fs[k.toNat]?).map (·.v)
def valF (fs : List Fr) (t : Nat) : Tell := valN fs t fs.length
theorem spkN_zero (fs : List Fr) (t : Nat) (n : Str) (d : Int) : spkN fs t 0 n d = none := by unfold spkN; simp
theorem spkN_succ {fs : List Fr} {i : Nat} {r : Fr} (h : fs[i]? = some r) (t : Nat) (n : Str) (d : Int) : spkN fs t (i + 1) n d = if r.on t n d then some (i : Int) else spkN fs t i n d := by
  unfold spkN
  have : fs.zipIdx[i]? = some (r, i) := by rw [List.getElem?_zipIdx, h]; simp
  rw [List.take_add_one, this, List.foldl_append]
  rfl
theorem valN_succ {fs : List Fr} {i : Nat} {r : Fr} (h : fs[i]? = some r) (t : Nat) (n : Str) (d : Int) : valN fs t (i + 1) n d = if r.on t n d then some r.v else valN fs t i n d := by
  unfold valN
  rw [spkN_succ h]
  split
  · simp [h]
  · rfl
/-- who speaks is one of the rows -/
theorem spkN_some {fs : List Fr} {t : Nat} : ∀ {i : Nat} {n : Str} {d k : Int}, i ≤ fs.length → spkN fs t i n d = some k → ∃ (j : Nat) (r : Fr), k = (j : Int) ∧ j < i ∧ fs[j]? = some r ∧ r.on t n d
  | 0, n, d, k, _, h => by rw [spkN_zero] at h; cases h
  | i + 1, n, d, k, hi, h => by
    have hr : fs[i]? = some fs[i] := List.getElem?_eq_getElem hi
    rw [spkN_succ hr] at h
    split at h
    · rename_i c
      exact ⟨i, fs[i], (Option.some.inj h).symm, Nat.lt_succ_self i, hr, c⟩
    · obtain ⟨j, r, h1, h2, h3⟩ := spkN_some (Nat.le_of_succ_le hi) h
      exact ⟨j, r, h1, by omega, h3⟩
end
/-! ### text E10 -/
set_option maxHeartbeats 4000000
section
open PySem PySem.Spec PyProof.Rows L2 TL
variable {B : Bs}
abbrev frO (r : Fr) : HO := .lst [.str r.key, .int r.f, .int r.l, .int r.v, .int r.turn, tV r.gone]
/-- the law's list of findings, its rows -/
def fpts (fa : Addr) (rs : List (Addr × Fr)) : List (Addr × HO) := (fa, .lst (rs.map fun q => .ref q.1)) :: rs.map fun q => (q.1, frO q.2)
theorem fpts_fa {fa : Addr} {rs : List (Addr × Fr)} {m : List (Addr × HO)} {G H : Hp} (hm : ∀ q ∈ fpts fa rs, q ∈ m) (hS : Hs B m G H) : H fa = some (.lst (rs.map fun q => .ref q.1)) := hS.at (q := (fa, .lst (rs.map fun q => .ref q.1))) (hm _ List.mem_cons_self)
theorem fpts_at {fa : Addr} {rs : List (Addr × Fr)} {m : List (Addr × HO)} {G H : Hp} (hm : ∀ q ∈ fpts fa rs, q ∈ m) (hS : Hs B m G H) {i : Nat} {a : Addr} {r : Fr} (h : rs[i]? = some (a, r)) : H a = some (frO r) := hS.at (q := (a, frO r)) (hm _ (List.mem_cons_of_mem _ (List.mem_map.mpr ⟨(a, r), List.mem_of_getElem? h, rfl⟩)))
theorem TabR.put {kvs : List (List Key × V)} {tell : Tell} (h : TabR kvs tell) (n : Str) (d v : Int) : TabR (putK kvs [.inr n, .inl d] (.int v)) fun n' d' => if n' = n ∧ d' = d then some v else tell n' d' := by
  intro n' d'
  rw [valV_put]
  show _ = ((if n' = n ∧ d' = d then some v else tell n' d') : Option Int).map V.int
  by_cases e : n' = n ∧ d' = d
  · rw [if_pos e, if_pos (by rw [e.1, e.2])]; rfl
  · rw [if_neg e, if_neg (by intro z; simp at z; exact e z)]
    exact h n' d'
theorem TabR.congr {kvs : List (List Key × V)} {tell tell' : Tell} (h : TabR kvs tell) (e : ∀ n d, tell n d = tell' n d) : TabR kvs tell' := fun n d => by rw [← e]; exact h n d
theorem TabR.nil : TabR [] fun _ _ => none := fun n d => rfl
def pKnown (B : Bs) : V → V → Hp → VK → Prop := fun a b H Q => ∃ (fa : Addr) (rs : List (Addr × Fr)) (t : Nat) (m : List (Addr × HO)) (G : Hp), a = .ref fa ∧ b = .int t ∧ rs.length ≤ 20 ∧ (∀ q ∈ rs, q.2.ok) ∧ (∀ q ∈ fpts fa rs, q ∈ m) ∧ Hs B m G H ∧
  ∀ v sa va ks kv G' H', Same G G' → G' v = some (.tup [.ref sa, .ref va]) → G' sa = some (.dT ks) → G' va = some (.dT kv) → TabR ks (spkF (rs.map (·.2)) t) → TabR kv (valF (rs.map (·.2)) t) → Hs B m G' H' → Q (.ref v) H'
theorem law_known (E : Ev B) : Fn B 1 "_law_known" (Sp2 (pKnown B)) [] := by
  refine E.fn 97 rfl rfl rfl rfl (N := ["_law_found", "_law_turn", "_law_speakers", "_law_values", "_law_number", "_law_row_here", "_law_day"]) (n := 7) (ps := ["_law_found", "_law_turn"]) (gs := ["enumerate", "range"]) (by decide +kernel) len2 (by ktf_call "b2") ?_
  intro X vs0 H Q E1 g h
  obtain ⟨_, _, rfl, fa, rs, t, m, G, rfl, rfl, hr20, hok, hm, hS, k⟩ := h
  show WSs X _ _ [some (.ref fa), some (.int t), none, none, none, none, none] H
  ktf_call "us"
  refine we_dT (ndt_m hS fun sa H1 hS1 => ?_)
  ktf_call "us"
  refine we_dT (ndt_m hS1 fun va H2 hS2 => ?_)
  ktf_call "us"
  refine wss_cons (ws_forS g (wi_e g (by ktf_call "gm") E.f_enumerate ?_))
  ktf_call "us"
  have hm2 : ∀ (x y : Addr × HO) q, q ∈ fpts fa rs → q ∈ x :: y :: m := fun x y q hq => List.mem_cons_of_mem _ (List.mem_cons_of_mem _ (hm q hq))
  refine ⟨fa, _, rfl, sql (fpts_fa (hm2 _ _) hS2), fun i σ' H' => ∃ o4 o5 o6 ks kv G', σ' = [some (.ref fa), some (.int t), some (.ref sa), some (.ref va), o4, o5, o6] ∧ Same G G' ∧ TabR ks (spkN (rs.map (·.2)) t i) ∧ TabR kv (valN (rs.map (·.2)) t i) ∧ ks.length ≤ 400 * i ∧ kv.length ≤ 400 * i ∧
    Hs B ((va, .dT kv) :: (sa, .dT ks) :: m) G' H', ⟨_, _, _, [], [], G, rfl, Same.refl _, TabR.nil.congr fun n d => (spkN_zero _ _ _ _).symm, TabR.nil.congr fun n d => by unfold valN; rw [spkN_zero]; rfl, by simp, by simp, hS2⟩, fun i σ' H' _ ⟨_, _, _, _, _, _, _, _, _, _, _, _, h⟩ => sql (fpts_fa (hm2 _ _) h), ?_, ?_⟩
  · rintro i x σ' H' _ hi ⟨o4, o5, o6, ks, kv, G', rfl, e1, hks, hkv, hl1, hl2, hS'⟩ ⟨T, y, rfl, hT, rfl, hy⟩
    rw [List.getElem?_map] at hy
    obtain ⟨⟨ra, r⟩, hri, rfl⟩ := Option.map_eq_some_iff.mp hy
    have hrf : (rs.map (·.2))[i]? = some r := by rw [List.getElem?_map, hri]; rfl
    obtain ⟨h0, h1, h2⟩ := hok _ (List.mem_of_getElem? hri)
    dsimp only at h0 h1 h2
    have hi20 : i < 20 := by rw [List.length_map] at hi; omega
    obtain ⟨hS3, e3⟩ := (hS'.new (u := .tup [.int i, .ref ra]) hT rfl).freeze
    have hT3 := hS3.g T _ upd_same
    generalize upd G' T (.tup [.int i, .ref ra]) = G3 at hS3 e3
    generalize upd H' T (.tup [.int i, .ref ra]) = H3 at hS3 hT3 ⊢
    have hra := fpts_at (hm2 _ _) hS3 hri
    ktf_call "us"
    refine wss_one (ws_ifV (r.kn t) (fun H4 => H3 = H4) ?_ ?_ ?_)
    · ktf_call "us"
      refine wx_l g (sql hra) (at_nat 4 rfl rfl) ?_
      ktf_call "us"
      refine iteD (fun ht => ?_) (fun ht => ⟨by unfold Fr.kn; rw [decide_eq_false (by omega)]; rfl, rfl⟩)
      ktf_call "us"
      refine wx_l g (sql hra) (at_nat 5 rfl rfl) ?_
      have hkn : r.kn t = (match r.gone with | none => true | some g => decide (t < g)) := by
        unfold Fr.kn
        rw [decide_eq_true (by omega)]; rfl
      rw [hkn]
      cases hg : r.gone with
      | none =>
        unfold tV
        ktf_call "us"
        exact ⟨rfl, rfl⟩
      | some gn =>
        unfold tV
        ktf_call "us"
        refine wx_l g (sql hra) (v := .int gn) (at_nat 5 rfl (by show some (tV r.gone) = _; rw [hg]; rfl)) ?_
        ktf_call "us"
        exact ⟨by simp, rfl⟩
    · rintro hkn _ rfl
      ktf_call "us"
      refine wss_one (ws_forS g (wi_r2 g (by ktf_call "gm") E.f_range ?_))
      ktf_call "us"
      refine wx_l g (sql hra) (at_nat 1 rfl rfl) ?_
      ktf_call "us"
      refine wx_l g (sql hra) (at_nat 2 rfl rfl) ?_
      ktf_call "us"
      refine ⟨r.f, r.l + 1, rfl, rfl, by omega, ?_⟩
      refine ⟨fun j σ' H' => ∃ o6 ks' kv' G', σ' = [some (.ref fa), some (.int t), some (.ref sa), some (.ref va), some (.int i), some (.ref ra), o6] ∧ Same G3 G' ∧ TabR ks' (fun n d => if n = r.key ∧ r.f ≤ d ∧ d < r.f + j then some (i : Int) else spkN (rs.map (·.2)) t i n d) ∧ TabR kv' (fun n d => if n = r.key ∧ r.f ≤ d ∧ d < r.f + j then some r.v else valN (rs.map (·.2)) t i n d) ∧
        ks'.length ≤ 400 * i + j ∧ kv'.length ≤ 400 * i + j ∧ Hs B ((va, .dT kv') :: (sa, .dT ks') :: m) G' H', ⟨_, ks, kv, G3, rfl, Same.refl _, hks.congr fun n d => by rw [if_neg]; omega, hkv.congr fun n d => by rw [if_neg]; omega, hl1, hl2, hS3⟩, fun _ _ _ _ _ => True.intro, ?_, ?_⟩
      · rintro j x σ' H5 H6 hj ⟨o6, ks', kv', G5, rfl, e5, hks', hkv', hl3, hl4, hS5⟩ ⟨rfl, hx⟩
        obtain rfl := yR1 hx
        have hj4 : j < 400 := by omega
        have hra5 := fpts_at (hm2 _ _) hS5 hri
        ktf_call "us"
        refine wx_l g (sql hra5) (at_nat 0 rfl rfl) ?_
        ktf_call "us"
        refine nt_f hS5 (by show 2 ≤ sizeLine; decide) fun t1 G6 H6 hS6 e6 ht1 => ?_
        refine wst_d g (DPut.t (k := [.inr r.key, .inl (r.f + (j : Nat))]) hS6.a1 (hS6.g _ _ ht1) (Nat.lt_of_le_of_lt hl3 (Nat.lt_of_lt_of_le (by omega : _ < 8401) (by decide)))) ?_
        have hS7 := hS6.set1 (u' := .dT (putK ks' [.inr r.key, .inl (r.f + (j : Nat))] (.int i))) rfl
        generalize upd H6 sa (.dT (putK ks' [.inr r.key, .inl (r.f + (j : Nat))] (.int i))) = H7 at hS7 ⊢
        have hra7 := fpts_at (hm2 _ _) hS7 hri
        ktf_call "us"
        refine wx_l g (sql hra7) (at_nat 3 rfl rfl) ?_
        ktf_call "us"
        refine wx_l g (sql hra7) (at_nat 0 rfl rfl) ?_
        ktf_call "us"
        refine nt_f hS7 (by show 2 ≤ sizeLine; decide) fun t2 G8 H8 hS8 e8 ht2 => ?_
        refine wst_d g (DPut.t (k := [.inr r.key, .inl (r.f + (j : Nat))]) hS8.a0 (hS8.g _ _ ht2) (Nat.lt_of_le_of_lt hl4 (Nat.lt_of_lt_of_le (by omega : _ < 8401) (by decide)))) ?_
        have hS9 := hS8.set (u' := .dT (putK kv' [.inr r.key, .inl (r.f + (j : Nat))] (.int r.v))) rfl
        ktf_call "us"
        refine ⟨_, _, _, G8, rfl, e5.trans (e6.trans e8), (hks'.put r.key (r.f + (j : Nat)) i).congr fun n d => ?_, (hkv'.put r.key (r.f + (j : Nat)) r.v).congr fun n d => ?_, ?_, ?_, hS9⟩
        · by_cases c1 : n = r.key ∧ d = r.f + (j : Nat)
          · rw [if_pos c1, if_pos ⟨c1.1, by omega, by omega⟩]
          · rw [if_neg c1]
            by_cases c2 : n = r.key ∧ r.f ≤ d ∧ d < r.f + (j : Nat)
            · rw [if_pos c2, if_pos ⟨c2.1, c2.2.1, by omega⟩]
            · rw [if_neg c2, if_neg]
              rintro ⟨z1, z2, z3⟩
              exact c2 ⟨z1, z2, by
                have : d ≠ r.f + (j : Nat) := fun z => c1 ⟨z1, z⟩
                omega⟩
        · by_cases c1 : n = r.key ∧ d = r.f + (j : Nat)
          · rw [if_pos c1, if_pos ⟨c1.1, by omega, by omega⟩]
          · rw [if_neg c1]
            by_cases c2 : n = r.key ∧ r.f ≤ d ∧ d < r.f + (j : Nat)
            · rw [if_pos c2, if_pos ⟨c2.1, c2.2.1, by omega⟩]
            · rw [if_neg c2, if_neg]
              rintro ⟨z1, z2, z3⟩
              exact c2 ⟨z1, z2, by
                have : d ≠ r.f + (j : Nat) := fun z => c1 ⟨z1, z⟩
                omega⟩
        · have := length_putK ks' [.inr r.key, .inl (r.f + (j : Nat))] (.int i)
          omega
        · have := length_putK kv' [.inr r.key, .inl (r.f + (j : Nat))] (.int r.v)
          omega
      · rintro σ' H5 ⟨o6, ks', kv', G5, rfl, e5, hks', hkv', hl3, hl4, hS5⟩
        have hon : ∀ n d, (n = r.key ∧ r.f ≤ d ∧ d < r.f + (((r.l + 1 - r.f).toNat : Nat) : Int)) ↔ r.on t n d := fun n d => by
          unfold Fr.on
          constructor
          · rintro ⟨z1, z2, z3⟩; exact ⟨hkn, z1.symm, z2, by omega⟩
          · rintro ⟨_, z1, z2, z3⟩; exact ⟨z1.symm, z2, by omega⟩
        refine ⟨_, _, _, ks', kv', G5, rfl, e1.trans (e3.trans e5), hks'.congr fun n d => ?_, hkv'.congr fun n d => ?_, by omega, by omega, hS5⟩
        · rw [spkN_succ hrf]
          by_cases c : r.on t n d
          · rw [if_pos c, if_pos ((hon n d).mpr c)]
          · rw [if_neg c, if_neg fun z => c ((hon n d).mp z)]
        · rw [valN_succ hrf]
          by_cases c : r.on t n d
          · rw [if_pos c, if_pos ((hon n d).mpr c)]
          · rw [if_neg c, if_neg fun z => c ((hon n d).mp z)]
    · rintro hkn _ rfl
      have hon : ∀ n d, ¬ r.on t n d := fun n d z => by have := z.1; rw [hkn] at this; cases this
      ktf_call "us"
      refine ⟨_, _, _, ks, kv, G3, rfl, e1.trans e3, hks.congr fun n d => ?_, hkv.congr fun n d => ?_, by omega, by omega, hS3⟩
      · rw [spkN_succ hrf, if_neg (hon n d)]
      · rw [valN_succ hrf, if_neg (hon n d)]
  · rintro σ' H' ⟨o4, o5, o6, ks, kv, G', rfl, e1, hks, hkv, hl1, hl2, hS'⟩
    obtain ⟨hS4, e4⟩ := hS'.freeze
    obtain ⟨hS5, e5⟩ := hS4.freeze
    ktf_call "us"
    refine nt_f hS5 (by show 2 ≤ sizeLine; decide) fun v G6 H6 hS6 e6 hv => ?_
    have el : (rs.map fun q => V.ref q.1).length = (rs.map (·.2)).length := by simp
    rw [el] at hks hkv
    exact k v sa va ks kv G6 H6 (e1.trans (e4.trans (e5.trans e6))) hv (e6 _ _ upd_same) (e6 _ _ (e5 _ _ upd_same)) hks hkv hS6
end
/-! ### text P3 -/
set_option maxHeartbeats 4000000
section
open PySem PySem.Spec PyProof.Rows L2 TL
/-! ### days of names in their order -/
abbrev NDay := Str × Int
def ltP (a b : NDay) : Prop := tl a.1 < tl b.1 ∨ (a.1 = b.1 ∧ a.2 < b.2)
theorem str_tl {a b : Str} (h : tl a = tl b) : a = b := by
  obtain ⟨⟨l1⟩⟩ := a
  obtain ⟨⟨l2⟩⟩ := b
  have : l1 = l2 := h
  rw [this]
theorem ltP_asymm {a b : NDay} (h : ltP a b) : ¬ ltP b a := by
  rintro h2
  rcases h with h | ⟨h, h'⟩
  · rcases h2 with h2 | ⟨h2, _⟩
    · exact List.lt_asymm h h2
    · rw [h2] at h
      exact List.lt_irrefl _ h
  · rcases h2 with h2 | ⟨_, h2⟩
    · rw [h] at h2
      exact List.lt_irrefl _ h2
    · omega
structure SrtP (log ps : List NDay) : Prop where
  lt : ps.Pairwise ltP
  mem : ∀ x, x ∈ ps ↔ x ∈ log
theorem srt_uniq {α : Type} {R : α → α → Prop} (hR : ∀ a b, R a b → ¬ R b a) : ∀ {l m : List α}, l.Pairwise R → m.Pairwise R → (∀ x, x ∈ l ↔ x ∈ m) → l = m
  | [], [], _, _, _ => rfl
  | [], b :: m, _, _, h => by have := (h b).mpr List.mem_cons_self; cases this
  | a :: l, [], _, _, h => by have := (h a).mp List.mem_cons_self; cases this
  | a :: l, b :: m, h1, h2, h => by
    obtain ⟨a1, a2⟩ := List.pairwise_cons.mp h1
    obtain ⟨b1, b2⟩ := List.pairwise_cons.mp h2
    have e : a = b := by
      rcases List.mem_cons.mp ((h a).mp List.mem_cons_self) with e | ha
      · exact e
      rcases List.mem_cons.mp ((h b).mpr List.mem_cons_self) with e | hb
      · exact e.symm
      exact absurd (a1 b hb) (hR _ _ (b1 a ha))
    subst e
    rw [srt_uniq hR a2 b2 fun x => ?_]
    constructor
    · intro hx
      rcases List.mem_cons.mp ((h x).mp (List.mem_cons_of_mem _ hx)) with e | h'
      · subst e; exact absurd (a1 _ hx) (hR _ _ (a1 _ hx))
      · exact h'
    · intro hx
      rcases List.mem_cons.mp ((h x).mpr (List.mem_cons_of_mem _ hx)) with e | h'
      · subst e; exact absurd (b1 _ hx) (hR _ _ (b1 _ hx))
      · exact h'
theorem SrtP.uniq {log log' ps ps' : List NDay} (h : SrtP log ps) (h' : SrtP log' ps') (e : ∀ x, x ∈ log ↔ x ∈ log') : ps = ps' :=
  srt_uniq (fun _ _ => ltP_asymm) h.lt h'.lt fun x => by rw [h.mem, h'.mem, e]
/-! ### boxes, grown day by day -/
def putX (rows : List Box) (n : Str) (d : Int) (mk : Option Int) : List Box := match rows.getLast? with
  | some (n', a, b, c) => if n' = n ∧ b = d - 1 ∧ c = mk then rows.dropLast ++ [(n, a, d, mk)] else rows ++ [(n, d, d, mk)]
  | none => [(n, d, d, mk)]
def LBa (spk : Str → Int → Option Int) (acc : List Box) (ps : List NDay) : List Box := ps.foldl (fun acc p => putX acc p.1 p.2 (spk p.1 p.2)) acc
def LB (spk : Str → Int → Option Int) (ps : List NDay) : List Box := LBa spk [] ps
theorem putX_snoc (L : List Box) (n' : Str) (a b : Int) (c : Option Int) (n : Str) (d : Int) (mk : Option Int) : putX (L ++ [(n', a, b, c)]) n d mk = if n' = n ∧ b = d - 1 ∧ c = mk then L ++ [(n, a, d, mk)] else L ++ [(n', a, b, c)] ++ [(n, d, d, mk)] := by
  unfold putX
  rw [List.getLast?_concat, List.dropLast_concat]
theorem putX_new {acc : List Box} {n : Str} {d : Int} {mk : Option Int} (h : ∀ b ∈ acc, b.1 ≠ n) : putX acc n d mk = acc ++ [(n, d, d, mk)] := by
  rcases List.eq_nil_or_concat acc with e | ⟨L, ⟨n', a, b, c⟩, e⟩
  · rw [e]; rfl
  · rw [List.concat_eq_append] at e
    subst e
    rw [putX_snoc, if_neg]
    rintro ⟨h1, _⟩
    exact h (n', a, b, c) (by simp) h1
theorem putX_same (acc : List Box) (rows : List Row) (n : Str) (d : Int) (mk : Option Int) (h : ∀ b ∈ acc, b.1 ≠ n) : putX (acc ++ rows.map fun r => (n, r)) n d mk = acc ++ (putB rows d d mk).map fun r => (n, r) := by
  rcases List.eq_nil_or_concat rows with e | ⟨L, ⟨a, b, c⟩, e⟩
  · subst e
    rw [List.map_nil, List.append_nil, putX_new h]
    rfl
  · rw [List.concat_eq_append] at e
    subst e
    rw [List.map_append, ← List.append_assoc]
    show putX (acc ++ L.map (fun r => (n, r)) ++ [(n, a, b, c)]) n d mk = _
    rw [putX_snoc, putB_snoc]
    by_cases hc : b + 1 = d ∧ c = mk
    · rw [if_pos hc, if_pos ⟨rfl, by omega, hc.2⟩, List.map_append, List.append_assoc]; rfl
    · rw [if_neg hc, if_neg (by rintro ⟨_, h1, h2⟩; exact hc ⟨by omega, h2⟩), List.map_append, List.map_append]
      simp
theorem LBa_same (spk : Str → Int → Option Int) (n : Str) : ∀ (ds : List Int) (acc : List Box) (rows : List Row), (∀ b ∈ acc, b.1 ≠ n) → LBa spk (acc ++ rows.map fun r => (n, r)) (ds.map fun d => (n, d)) = acc ++ ((ds.map fun d => (d, d, spk n d)).foldl (fun a r => putB a r.1 r.2.1 r.2.2) rows).map fun r => (n, r)
  | [], acc, rows, h => rfl
  | d :: ds, acc, rows, h => by
    show LBa spk (putX (acc ++ rows.map fun r => (n, r)) n d (spk n d)) (ds.map fun d => (n, d)) = _
    rw [putX_same acc rows n d (spk n d) h, LBa_same spk n ds acc _ h]
    rfl
theorem LBa_app (spk : Str → Int → Option Int) (acc : List Box) (a b : List NDay) : LBa spk acc (a ++ b) = LBa spk (LBa spk acc a) b := List.foldl_append
theorem bxR_LB (spk : Str → Int → Option Int) (days : Str → List Int) : ∀ (ns : List Str) (acc : List Box), ns.Nodup → (∀ b ∈ acc, b.1 ∉ ns) → acc ++ bxR spk ns days = LBa spk acc (ns.flatMap fun n => (days n).map fun d => (n, d))
  | [], acc, _, _ => by simp [bxR, LBa]
  | n :: ns, acc, nd, h => by
    obtain ⟨h1, h2⟩ := List.nodup_cons.mp nd
    have e1 := LBa_same spk n (days n) acc [] fun b hb e => h b hb (by rw [e]; exact List.mem_cons_self)
    rw [List.map_nil, List.append_nil] at e1
    rw [List.flatMap_cons, LBa_app, e1]
    have e2 := bxR_LB spk days ns (acc ++ (blkR (spk n) (days n)).map fun r => (n, r)) h2 fun b hb hm => by
      rcases List.mem_append.mp hb with hb | hb
      · exact h b hb (List.mem_cons_of_mem _ hm)
      · obtain ⟨r, _, rfl⟩ := List.mem_map.mp hb
        exact h1 hm
    unfold bxR at e2 ⊢
    rw [List.flatMap_cons, ← List.append_assoc]
    exact e2
theorem rise_pair : ∀ (p : Str) (l : List Str), risingS p l = true → (p :: l).Pairwise fun a b => tl a ≤ tl b
  | p, [], _ => List.pairwise_singleton _ _
  | p, x :: l, h => by
    unfold risingS at h
    rw [Bool.and_eq_true, Bool.not_eq_true'] at h
    have h1 : tl p ≤ tl x := by
      have := h.1
      rw [ltCps_eq, decide_eq_false_iff_not] at this
      exact this
    have ih := rise_pair x l h.2
    refine List.pairwise_cons.mpr ⟨fun y hy => ?_, ih⟩
    rcases List.mem_cons.mp hy with e | hy
    · rw [e]; exact h1
    · exact List.le_trans h1 ((List.pairwise_cons.mp ih).1 y hy)
theorem sorted_pair {l : List Str} (h : sortedS l = true) : l.Pairwise fun a b => tl a ≤ tl b := by
  cases l with
  | nil => exact List.Pairwise.nil
  | cons x r => exact rise_pair x r h
theorem SeenD.srtP {log : Log} {ns : List Str} {days : Str → List Int} (h : SeenD log ns days) : SrtP log (ns.flatMap fun n => (days n).map fun d => (n, d)) := by
  refine ⟨?_, fun x => ?_⟩
  · rw [List.pairwise_flatMap]
    refine ⟨fun n hn => ?_, ?_⟩
    · rw [List.pairwise_map]
      exact (h.day n hn).1.imp fun {a b} hab => .inr ⟨rfl, hab⟩
    · refine ((sorted_pair h.srt).and h.nd).imp fun {a b} hab x hx y hy => ?_
      obtain ⟨d, _, rfl⟩ := List.mem_map.mp hx
      obtain ⟨e, _, rfl⟩ := List.mem_map.mp hy
      left
      rcases List.le_iff_lt_or_eq.mp hab.1 with z | z
      · exact z
      · exact absurd (str_tl z) hab.2
  · rw [List.mem_flatMap]
    constructor
    · rintro ⟨n, hn, hx⟩
      obtain ⟨d, hd, rfl⟩ := List.mem_map.mp hx
      exact ((h.day n hn).2 d).mp hd
    · intro hx
      have hn := (h.mem x.1).mpr ⟨x.2, hx⟩
      exact ⟨x.1, hn, List.mem_map.mpr ⟨x.2, ((h.day x.1 hn).2 x.2).mpr hx, rfl⟩⟩
theorem SeenD.box {log : Log} {ns : List Str} {days : Str → List Int} (h : SeenD log ns days) (spk : Str → Int → Option Int) {log' ps : List NDay} (hp : SrtP log' ps) (e : ∀ x, x ∈ log ↔ x ∈ log') : bxR spk ns days = LB spk ps := by
  rw [hp.uniq h.srtP fun x => (e x).symm]
  have := bxR_LB spk days ns [] h.nd (fun b hb => by cases hb)
  exact this
/-- what a box says -/
structure BoxG (spk : Str → Int → Option Int) (ps : List NDay) (b : Box) : Prop where
  d : ∀ d, b.2.1 ≤ d → d ≤ b.2.2.1 → (b.1, d) ∈ ps ∧ spk b.1 d = b.2.2.2
  le : b.2.1 ≤ b.2.2.1
theorem LBa_ok (spk : Str → Int → Option Int) (all : List NDay) : ∀ (ps : List NDay) (acc : List Box), (∀ p ∈ ps, p ∈ all) → (∀ b ∈ acc, BoxG spk all b) → ∀ b ∈ LBa spk acc ps, BoxG spk all b
  | [], acc, _, h => h
  | p :: ps, acc, hp, h => by
    refine LBa_ok spk all ps _ (fun q hq => hp q (List.mem_cons_of_mem _ hq)) fun b hb => ?_
    have hp0 := hp p List.mem_cons_self
    have hnew : BoxG spk all (p.1, p.2, p.2, spk p.1 p.2) := ⟨fun d h1 h2 => by
      have : d = p.2 := by dsimp only at h1 h2; omega
      subst this; exact ⟨hp0, rfl⟩, Int.le_refl _⟩
    rcases List.eq_nil_or_concat acc with e | ⟨L, ⟨n', a, b', c⟩, e⟩
    · subst e
      rw [List.mem_singleton.mp hb]
      exact hnew
    · rw [List.concat_eq_append] at e
      subst e
      dsimp only at hb
      rw [putX_snoc] at hb
      split at hb
      · rename_i hc
        obtain ⟨rfl, rfl, rfl⟩ := hc
        rcases List.mem_append.mp hb with hb | hb
        · exact h b (List.mem_append_left _ hb)
        · rw [List.mem_singleton.mp hb]
          have h0 := h (p.1, a, p.2 - 1, spk p.1 p.2) (by simp)
          have hle := h0.le
          dsimp only at hle
          refine ⟨fun d h1 h2 => ?_, by dsimp only; omega⟩
          by_cases hd : d = p.2
          · subst hd; exact ⟨hp0, rfl⟩
          · dsimp only at h1 h2
            exact h0.d d h1 (by dsimp only; omega)
      · rcases List.mem_append.mp hb with hb | hb
        · exact h b hb
        · rw [List.mem_singleton.mp hb]
          exact hnew
theorem LB_ok (spk : Str → Int → Option Int) (ps : List NDay) : ∀ b ∈ LB spk ps, BoxG spk ps b := LBa_ok spk ps ps [] (fun _ h => h) (fun b hb => by cases hb)
theorem putX_len (acc : List Box) (n : Str) (d : Int) (mk : Option Int) : (putX acc n d mk).length ≤ acc.length + 1 := by
  rcases List.eq_nil_or_concat acc with e | ⟨L, ⟨n', a, b', c⟩, e⟩
  · subst e; exact Nat.le_refl _
  · rw [List.concat_eq_append] at e
    subst e
    rw [putX_snoc]
    split <;> simp
theorem LBa_len (spk : Str → Int → Option Int) : ∀ (ps : List NDay) (acc : List Box), (LBa spk acc ps).length ≤ acc.length + ps.length
  | [], _ => Nat.le_refl _
  | p :: ps, acc => by
    have h1 := LBa_len spk ps (putX acc p.1 p.2 (spk p.1 p.2))
    have h2 := putX_len acc p.1 p.2 (spk p.1 p.2)
    show (LBa spk (putX acc p.1 p.2 (spk p.1 p.2)) ps).length ≤ _
    rw [List.length_cons]
    omega
def canX (rows : List Box) (n : Str) (d : Int) (mk : Option Int) : Bool := match rows.getLast? with
  | some (n', _, b, c) => decide (n' = n) && (decide (b = d - 1) && decide (c = mk))
  | none => false
theorem canX_snoc (L : List Box) (n' : Str) (a b : Int) (c : Option Int) (n : Str) (d : Int) (mk : Option Int) : canX (L ++ [(n', a, b, c)]) n d mk = (decide (n' = n) && (decide (b = d - 1) && decide (c = mk))) := by
  unfold canX
  rw [List.getLast?_concat]
theorem putX_no {rows : List Box} {n : Str} {d : Int} {mk : Option Int} (h : canX rows n d mk = false) : putX rows n d mk = rows ++ [(n, d, d, mk)] := by
  rcases List.eq_nil_or_concat rows with e | ⟨L, ⟨n', a, b, c⟩, e⟩
  · rw [e]; rfl
  · rw [List.concat_eq_append] at e
    subst e
    rw [canX_snoc] at h
    rw [putX_snoc, if_neg]
    rintro ⟨h1, h2, h3⟩
    simp [h1, h2, h3] at h
theorem name_strOk {z : Str} (h : NameOk z) : PyData.strOk z = true := by
  unfold PyData.strOk
  rw [Array.all_eq_true_iff_forall_mem]
  intro c hc
  have := h.2.2 c (Array.mem_toList_iff.mpr hc)
  rw [decide_eq_true_eq]
  omega
/-- boxes as data -/
def boxD (b : Box) : PyData := .tuple [.str b.1, .int b.2.1, .int b.2.2.1, match b.2.2.2 with | none => .none | some i => .int i]
theorem box_dp {K : PySem.W.Frag} {G : Hp} {v : V} {b : Box} (h : BoxR G v b) : Dp K G v (boxD b) := by
  obtain ⟨t, rfl, h⟩ := h
  obtain ⟨n, a, b, c⟩ := b
  refine .tup (sqt h) (.cons (.str n) (.cons (.int a) (.cons (.int b) (.cons ?_ .nil))))
  cases c with
  | none => exact .non
  | some i => exact .int i
theorem boxes_dp {K : PySem.W.Frag} {G : Hp} {vs : List V} {bs : List Box} (h : Fa (BoxR G) vs bs) : DpAll K G vs (bs.map boxD) := by
  induction h with
  | nil => exact .nil
  | cons r _ ih => exact .cons (box_dp r) ih
theorem lay_boxes (bs : List Box) (h : ∀ b ∈ bs, NameOk b.1) : ∀ d ∈ bs.map boxD, d.canLay0 = true ∧ d.depth ≤ 1 := fun d hd => by
  obtain ⟨⟨n, a, b, c⟩, hb, rfl⟩ := List.mem_map.mp hd
  have hn := name_strOk (h _ hb)
  cases c <;> simp [hn, boxD, PyData.canLay0, PyData.canLayAll0, PyData.depth, PyData.depthAll]
theorem shaped_boxes (bs : List Box) (h : ∀ b ∈ bs, NameOk b.1) : SeqAt.shaped (.list (bs.map boxD)) = true := shaped_list (k := 1) (by decide) (lay_boxes bs h)
end
/-! ### text E11 -/
set_option maxHeartbeats 4000000
section
open PySem PySem.Spec PyProof.Rows L2 TL
variable {B : Bs}
/-! ### boxes of days -/
/-- sorted(set(e)) of days of names: the rule (proved elsewhere) -/
def SortSet (B : Bs) : Prop := ∀ {X : Cx} {lv : Nat} {sc : Scope} {N : List Str} {vm sm : List Bool} {gs : List Str} {σ : L2.St} {H : Hp} {Q : VK} {e : Expr} {p p2 pos pos2 : Pos}, Gd B lv sc N vm sm gs X → ("sorted" : Str) ∈ gs → ("set" : Str) ∈ gs →
  (WE X e σ H fun x H1 => ∃ a vs log m G, x = .ref a ∧ G a = some (.lst vs) ∧ Fa (PrR G) vs log ∧ Hs B m G H1 ∧ log.length ≤ 204800 ∧ (∀ l : List NDay, l.Nodup → (∀ x ∈ l, x ∈ log) → l.length ≤ 400) ∧
    ∀ q vs' ps H', SrtP log ps → Fa (PrR G) vs' ps → Hs B ((q, .lst vs') :: m) G H' → Q (.ref q) H') →
  starEach [e] X.env = [(false, eval e X.env)] → WE X (.Call (.Name "sorted" p) [.Call (.Name "set" p2) [e] [] pos2] [] pos) σ H Q
def pBoxes (B : Bs) : V → V → Hp → VK → Prop := fun a b H Q => ∃ (la sa : Addr) (vs : List V) (log : List NDay) (ks : List (List Key × V)) (spk : Tell) (m : List (Addr × HO)) (G : Hp), a = .ref la ∧ b = .ref sa ∧ G la = some (.lst vs) ∧ Fa (PrR G) vs log ∧ log.length ≤ 204800 ∧ (∀ l : List NDay, l.Nodup → (∀ x ∈ l, x ∈ log) → l.length ≤ 400) ∧ (∀ x ∈ log, NameOk x.1) ∧
  G sa = some (.dT ks) ∧ TabR ks spk ∧ Hs B m G H ∧ ∀ q vs' ps G' H', Same G G' → SrtP log ps → G' q = some (.lst vs') → Fa (BoxR G') vs' (LB spk ps) → Hs B m G' H' → Q (.ref q) H'
theorem LB_snoc (spk : Str → Int → Option Int) {ps : List NDay} {i : Nat} {p : NDay} (h : ps[i]? = some p) : LB spk (ps.take (i + 1)) = putX (LB spk (ps.take i)) p.1 p.2 (spk p.1 p.2) := by
  unfold LB
  rw [List.take_add_one, h, LBa_app]
  rfl
theorem law_boxes (E : Ev B) (R3 : SortSet B) : Fn B 1 "_law_boxes" (Sp2 (pBoxes B)) [] := by
  refine E.fn 98 rfl rfl rfl rfl (N := ["_law_days_here", "_law_speakers", "_law_rows", "_law_name", "_law_day", "_law_number"]) (n := 6) (ps := ["_law_days_here", "_law_speakers"]) (gs := ["sorted", "set"]) (by decide +kernel) len2 (by ktf_call "b2") ?_
  intro X vs0 H Q E1 g h
  obtain ⟨_, _, rfl, la, sa, vs, log, ks, spk, m, G, rfl, rfl, hla, hF, hlen, hfew, hnm, hsa, hT, hS, k⟩ := h
  show WSs X _ _ [some (.ref la), some (.ref sa), none, none, none, none] H
  ktf_call "us"
  refine nl_m hS (by decide) fun rq H1 hS1 => ?_
  ktf_call "us"
  refine wss_cons (ws_forS g (wi_l g (R3 g (by ktf_call "gm") (by ktf_call "gm") ?_ (by rfl))))
  ktf_call "us"
  refine ⟨la, vs, log, _, G, rfl, hla, hF, hS1, hlen, hfew, fun pq pvs ps H2 hps hFp hS2 => ?_⟩
  have hpl : ps.length ≤ 400 := hfew ps (hps.lt.imp fun {a b} h e => by subst e; exact ltP_asymm h h) fun x hx => (hps.mem x).mp hx
  have hpn : ∀ i, ∀ b ∈ LB spk (ps.take i), NameOk b.1 := fun i b hb => by
    have hg := LB_ok spk (ps.take i) b hb
    have := (hg.d b.2.1 (Int.le_refl _) hg.le).1
    exact hnm _ ((hps.mem _).mp (List.mem_of_mem_take this))
  refine ⟨pq, pvs, rfl, sql hS2.a0, fun i σ' H' => ∃ o3 o4 o5 vs' G', σ' = [some (.ref la), some (.ref sa), some (.ref rq), o3, o4, o5] ∧ Same G G' ∧ Fa (BoxR G') vs' (LB spk (ps.take i)) ∧ Hs B ((pq, .lst pvs) :: (rq, .lst vs') :: m) G' H', ⟨_, _, _, [], G, rfl, Same.refl _, .nil, hS2⟩, fun i σ' H' _ ⟨_, _, _, _, _, _, _, _, h⟩ => sql h.a0, ?_, ?_⟩
  · rintro i x σ' H' _ hi ⟨o3, o4, o5, vs', G', rfl, e1, hF', hS'⟩ ⟨rfl, hx⟩
    obtain ⟨pr, hpr, t, rfl, ht⟩ := hFp.get' hx
    have htH := hS'.g _ _ (e1 _ _ ht)
    have hll := LBa_len spk (ps.take i) []
    have hrl : (LB spk (ps.take i)).length ≤ 400 := Nat.le_trans hll (by rw [List.length_nil, List.length_take]; omega)
    have hsnoc := LB_snoc spk hpr
    have hnmi := hpn i
    generalize LB spk (ps.take i) = rows at hF' hrl hsnoc hnmi
    have hvl : vs'.length < sizeLine := by rw [hF'.length]; exact Nat.lt_of_le_of_lt hrl (by decide)
    obtain ⟨n, d⟩ := pr
    dsimp only at htH hsnoc
    ktf_call "us"
    refine ⟨.inr ⟨ks, .inl (hS'.g _ _ (e1 _ _ hsa))⟩, ?_⟩
    ktf_call "us"
    refine nt_f hS' (by show 2 ≤ sizeLine; decide) fun t2 G2 H2 hS2 e2 ht2 => ?_
    refine ⟨_, tab_get hT (hS2.g _ _ (e2 _ _ (e1 _ _ hsa))) (hS2.g _ _ ht2), ?_⟩
    rw [getD_oV]
    have hF2 := hF'.mono fun x y z => z.up e2
    generalize spk n d = mk at hsnoc
    ktf_call "us"
    refine wss_one (ws_ifV (canX rows n d mk) (fun H3 => Hs B ((pq, .lst pvs) :: (rq, .lst vs') :: m) G2 H3) ?_ ?_ ?_)
    · ktf_call "us"
      refine nl_m hS2 (by decide) fun q H3 hS3 => ?_
      have hd1 : DpAll B.K H3 vs' (rows.map boxD) := dpa_up hS3.g (boxes_dp hF2)
      refine wc_neNil g (sql hS3.a2) hd1 (shaped_boxes rows hnmi) (sql hS3.a0) ?_
      have hS4 := hS3.drop
      have hr1 := hS4.a1
      ktf_call "us"
      rcases List.eq_nil_or_concat rows with e | ⟨L, ⟨n', a, b, c⟩, e⟩
      · subst e
        cases hF2
        refine iteBF rfl ?_
        exact ⟨rfl, hS4⟩
      · rw [List.concat_eq_append] at e
        subst e
        rw [canX_snoc]
        obtain ⟨us, v, rfl, hF1, ⟨t3, rfl, ht3⟩⟩ := hF2.snoc
        have ht1 := hS4.g _ _ ht3
        refine iteBT (by simp) ?_
        have hget : atI (us ++ [V.ref t3]) (-1) = some (V.ref t3) := at_end us.length (by simp only [List.length_append, List.length_cons, List.length_nil]; omega) (by decide) (by simp)
        ktf_call "us"
        refine wx_l g (sql hr1) hget ?_
        ktf_call "us"
        refine wx_t g (sqt ht1) (at_nat 0 rfl rfl) ?_
        ktf_call "us"
        refine iteD (fun e1 => ?_) (fun e1 => ⟨by simp [e1], hS4⟩)
        ktf_call "us"
        refine wx_l g (sql hr1) hget ?_
        ktf_call "us"
        refine wx_t g (sqt ht1) (at_nat 2 rfl rfl) ?_
        ktf_call "us"
        refine iteD (fun e2 => ?_) (fun e2 => ⟨by simp [e2], hS4⟩)
        ktf_call "us"
        refine wx_l g (sql hr1) hget ?_
        ktf_call "us"
        refine wx_t g (sqt ht1) (at_nat 3 rfl rfl) ?_
        ktf_call "us"
        refine wc_eq (oV_scal _ _) ?_
        ktf_call "us"
        refine ⟨?_, hS4⟩
        rw [decide_eq_true e1, decide_eq_true e2, Bool.true_and, Bool.true_and, decide_eq_decide]
        exact oV_inj
    · intro hj H3 hS3
      rcases List.eq_nil_or_concat rows with e | ⟨L, ⟨n', a, b, c⟩, e⟩
      · subst e; cases hj
      · rw [List.concat_eq_append] at e
        subst e
        rw [canX_snoc, Bool.and_eq_true, Bool.and_eq_true, decide_eq_true_eq, decide_eq_true_eq, decide_eq_true_eq] at hj
        obtain ⟨us, v, rfl, hF1, ⟨t3, rfl, ht3⟩⟩ := hF2.snoc
        have ht1 := hS3.g _ _ ht3
        have hr1 := hS3.a1
        have hget : atI (us ++ [V.ref t3]) (-1) = some (V.ref t3) := at_end us.length (by simp only [List.length_append, List.length_cons, List.length_nil]; omega) (by decide) (by simp)
        ktf_call "us"
        refine wx_l g (sql hr1) hget ?_
        ktf_call "us"
        refine wx_t g (sqt ht1) (at_nat 1 rfl rfl) ?_
        ktf_call "us"
        refine nt_f hS3 (by show 4 ≤ sizeLine; decide) fun q G4 H4 hS4 e4 hq => ?_
        ktf_call "us"
        have hix : ixN (us ++ [V.ref t3]).length (-1) = some us.length := by
          unfold ixN
          rw [if_neg (by decide), if_pos (by simp; omega)]
          simp
          omega
        refine wst_l hS4.a1 hix ?_
        ktf_call "us"
        refine ⟨_, _, _, us ++ [.ref q], G4, rfl, e1.trans (e2.trans e4), ?_, ?_⟩
        · rw [hsnoc, putX_snoc, if_pos hj]
          exact (hF1.mono fun x y z => z.up e4).append (.cons ⟨q, rfl, hq⟩ .nil)
        · have := hS4.set1 (u' := .lst ((us ++ [V.ref t3]).set us.length (.ref q))) rfl
          rw [show (us ++ [V.ref t3]).set us.length (.ref q) = us ++ [.ref q] from by simp] at this ⊢
          exact this
    · intro hj H3 hS3
      have hr := hS3.a1
      ktf_call "us"
      refine nt_f hS3 (by show 4 ≤ sizeLine; decide) fun t4 G4 H4 hS4 e4 ht4 => ?_
      ktf_call "us"
      refine wm_append hS4.a1 hvl ?_
      ktf_call "us"
      refine ⟨_, _, _, vs' ++ [.ref t4], G4, rfl, e1.trans (e2.trans e4), ?_, hS4.set1 rfl⟩
      rw [hsnoc, putX_no hj]
      exact (hF2.mono fun x y z => z.up e4).append (.cons ⟨t4, rfl, ht4⟩ .nil)
  · rintro σ' H' ⟨o3, o4, o5, vs', G', rfl, e1, hF', hS'⟩
    rw [hFp.length, List.take_length] at hF'
    obtain ⟨hS5, e5⟩ := hS'.drop.freeze
    ktf_call "us"
    exact k rq vs' ps _ H' (e1.trans e5) hps upd_same (hF'.mono fun x y z => z.up e5) hS5
end
/-! ### text E12 -/
set_option maxHeartbeats 4000000
section
open PySem PySem.Spec PyProof.Rows L2 TL
variable {B : Bs}
/-! ### what was told, held against what is due -/
def pRight (B : Bs) : V → V → V → Hp → VK → Prop := fun a b c H Q => ∃ (v q bq : Addr) (x : Option Int) (vs ws : List V) (bs : List Box) (m : List (Addr × HO)) (G : Hp), a = .ref v ∧ b = oV x ∧ c = .ref bq ∧ G v = some (.tup [oV x, .ref q]) ∧ G q = some (.lst vs) ∧ G bq = some (.lst ws) ∧ Fa (BoxR G) vs bs ∧ Fa (BoxR G) ws bs ∧ (∀ b ∈ bs, NameOk b.1) ∧ bs.length ≤ 400 ∧ Hs B m G H ∧
  ∀ H', Hs B m G H' → Q (.bl true) H'
theorem law_told_right (E : Ev B) : Fn B 2 "_law_told_right" (Sp3 (pRight B)) [] := by
  have f1 := law_like E
  refine E.fn 99 rfl rfl rfl rfl (N := ["_law_told", "_law_due_here", "_law_boxes_here", "_law_box", "_law_one"]) (n := 4) (ps := ["_law_told", "_law_due_here", "_law_boxes_here"]) (gs := ["isinstance", "tuple", "len", "_law_like", "list"]) (by decide +kernel) len3 (by ktf_call "b3") ?_
  intro X vs0 H Q E1 g h
  obtain ⟨_, _, _, rfl, v, q, bq, x, vs, ws, bs, m, G, rfl, rfl, rfl, hv, hq, hbq, hF, hW, hnm, hbl, hS, k⟩ := h
  have hv0 := hS.g _ _ hv
  have hq0 := hS.g _ _ hq
  show WSs X _ _ [some (.ref v), some (oV x), some (.ref bq), none, none] H
  refine wss_cons (ws_ifF (fun H1 => H = H1) ?_ ?_)
  · ktf_call "us"
    refine wcl_lenT g (sqt hv0) ?_
    ktf_call "us"
    refine iteNDF (by rfl) ?_
    ktf_call "us"
    refine wx_t g (sqt hv0) (at_nat 0 rfl rfl) ?_
    ktf_call "us"
    refine ⟨x, x, rfl, rfl, ?_⟩
    rw [decide_eq_true rfl]
    ktf_call "us"
    refine wx_t g (sqt hv0) (at_nat 1 rfl rfl) ?_
    ktf_call "us"
    exact ⟨rfl, rfl⟩
  rintro _ rfl
  ktf_call "us"
  refine wss_cons (ws_forS g (wi_l g ?_))
  ktf_call "us"
  refine wx_t g (sqt hv0) (at_nat 1 rfl rfl) ?_
  refine ⟨q, vs, rfl, sql hq0, fun i σ' H' => ∃ o3 G', σ' = [some (.ref v), some (oV x), some (.ref bq), o3, none] ∧ Same G G' ∧ Hs B m G' H', ⟨_, G, rfl, Same.refl _, hS⟩, fun i σ' H' _ ⟨_, _, _, e, h⟩ => sql (h.g _ _ (e _ _ hq)), ?_, ?_⟩
  · rintro i y σ' H' _ hi ⟨o3, G', rfl, e1, hS1⟩ ⟨rfl, hy⟩
    obtain ⟨⟨n, a, b, c⟩, hb, t, rfl, ht⟩ := hF.get' hy
    dsimp only at ht
    have ht1 := hS1.g _ _ (e1 _ _ ht)
    ktf_call "us"
    refine wss_one (ws_ifF (fun H2 => ∃ G2, Same G' G2 ∧ Hs B m G2 H2) ?_ ?_)
    · ktf_call "us"
      refine we_lc g [("_law_one", 4)] [false, false, false, false, true] [false, false, false, false, true] ["isinstance", "bool"] (by decide +kernel) (by decide) (wi_t g ?_)
      ktf_call "us"
      refine wsl_t g (sqt ht1) ?_ ?_
      · rintro ⟨h, _⟩
        have : HT.sIx ([V.str n, .int a, .int b, oV c] : List V).length 0 (some 1) = min 1 ([V.str n, .int a, .int b, oV c] : List V).length := HT.sIx_nat _ _ 1
        rw [this] at h
        simp at h
      rw [show (1 : Int) = ((1 : Nat) : Int) from rfl, cut_drop, List.drop_one, List.tail_cons]
      refine nt_f hS1 (by show 3 ≤ sizeLine; decide) fun q2 G2 H2 hS2 e2 hq2 => ?_
      refine ⟨q2, _, rfl, sqt (hS2.g _ _ hq2), ?_⟩
      refine lcb_v ([.int a, .int b, oV c] : List V) (fun _ => none) hS2 rfl (by show 3 ≤ sizeLine; decide) (fun _ G' _ _ e h => sqt (h.g _ _ (e _ _ hq2))) ?_ ?_
      · rintro j s D G3 us H3 z H4 hs e3 hS3 ⟨rfl, hz⟩ Z gZ
        rw [hs] at hz
        obtain rfl := Option.some.inj hz
        have hk : (∃ i : Int, s = .int i) ∨ s = .non := by
          have := List.mem_of_getElem? hs
          simp only [List.mem_cons, List.not_mem_nil, or_false] at this
          rcases this with h | h | h
          · exact .inl ⟨_, h⟩
          · exact .inl ⟨_, h⟩
          · cases c with
            | none => exact .inr h
            | some i => exact .inl ⟨i, h⟩
        ktf_call "w"
        ktf_call "us"
        refine ⟨rfl, fun Z gZ => ?_⟩
        rcases hk with ⟨i, rfl⟩ | rfl
        · ktf_call "us"
          exact ⟨trivial, G3, Same.refl _, hS3⟩
        · ktf_call "us"
          exact ⟨trivial, G3, Same.refl _, hS3⟩
      · intro D G3 H3 e3 hS3
        have el : (([.int a, .int b, oV c] : List V).filterMap fun _ => (none : Option V)) = [] := by simp
        rw [el] at hS3
        ktf_call "us"
        refine nl_m hS3 (by decide) fun q3 H5 hS5 => ?_
        refine wc_neNil g (sql hS5.a1) .nil shaped_nil (sql hS5.a0) ?_
        ktf_call "us"
        exact ⟨rfl, G3, e2.trans e3, hS5.drop.drop⟩
    · rintro H2 ⟨G2, e2, hS2⟩
      ktf_call "us"
      exact ⟨_, G2, rfl, e1.trans e2, hS2⟩
  · rintro σ' H' ⟨o3, G', rfl, e1, hS1⟩
    ktf_call "us"
    refine wx_t g (sqt (hS1.g _ _ (e1 _ _ hv))) (at_nat 1 rfl rfl) ?_
    ktf_call "us"
    have es := e1.trans hS1.g
    refine wc_eqD g (.lst (sql (es _ _ hq)) (dpa_up es (boxes_dp hF))) (.lst (sql (es _ _ hbq)) (dpa_up es (boxes_dp hW))) (shaped_boxes bs hnm) (shaped_boxes bs hnm) ?_
    have hl := (lay_all (lay_boxes bs hnm)).1
    rw [PySem.SeqAt.eqv_refl _ (show PyData.canLay0 (.list (bs.map boxD)) = true by rw [PyData.canLay0]; exact hl)]
    exact k H' (hS1.base e1)
end
/-! ### text P4 -/
set_option maxHeartbeats 4000000
section
open PySem PySem.Spec PyProof.Rows L2 TL
/-! ### the days that are read lie in the window -/
theorem days_win (tell : Tell) {a b : Int} : ∀ {nd : Nd}, nd.ok → nd.inW a b → ∀ x ∈ daysM tell nd, x.1 ∈ nd.names ∧ a ≤ x.2 ∧ x.2 ≤ b
  | .num i, _, _, x, hx => by cases hx
  | .val n d, _, h, x, hx => by
    rw [List.mem_singleton.mp hx]
    exact ⟨by simp [Nd.names], h.1, h.2⟩
  | .ov k ns f l, _, h, x, hx => by
    obtain ⟨n, hn, hx⟩ := List.mem_flatMap.mp hx
    have := mem_dys.mp hx
    have h1 : a ≤ f := h.1
    have h2 : l ≤ b := h.2
    exact ⟨by rw [this.1]; exact hn, by omega, by omega⟩
  | .since n c f l, hk, h, x, hx => by
    have := mem_dys.mp hx
    have h1 : a ≤ f := h.1
    have h2 : l ≤ b := h.2
    exact ⟨by rw [this.1]; simp [Nd.names], by omega, by omega⟩
  | .part n o f l, _, h, x, hx => by
    have h1 : a ≤ f := h.1
    have h2 : l ≤ b := h.2
    rcases List.mem_append.mp hx with hx | hx
    · have := mem_dys.mp hx
      exact ⟨by rw [this.1]; simp [Nd.names], by omega, by omega⟩
    · have := mem_dys.mp hx
      exact ⟨by rw [this.1]; simp [Nd.names], by omega, by omega⟩
  | .chg k n f l, hk, h, x, hx => by
    have h1 : a ≤ f := h.1
    have h2 : l ≤ b := h.2
    have h3 : 0 ≤ f ∧ f ≤ l ∧ l ≤ 399 := hk.1
    have := mem_dys.mp hx
    refine ⟨by rw [this.1]; simp [Nd.names], by omega, ?_⟩
    cases hd : (chgL (tell n) f l)[(k - 1).toNat]? with
    | none => rw [hd, Option.getD_none] at this; omega
    | some d =>
      have hm := mem_rng.mp (List.mem_filter.mp (List.mem_of_getElem? hd)).1
      rw [hd, Option.getD_some] at this; omega
  | .two m p q, hk, h, x, hx => by
    rcases List.mem_append.mp hx with hx | hx
    · have := days_win tell hk.1 h.1 x hx
      exact ⟨List.mem_append_left _ this.1, this.2⟩
    · have := days_win tell hk.2 h.2 x hx
      exact ⟨List.mem_append_right _ this.1, this.2⟩
  | .four s p q r t, hk, h, x, hx => by
    have hx : x ∈ daysM tell p ++ daysM tell q ++ (if third tell s p q then daysM tell r else daysM tell t) := hx
    rcases List.mem_append.mp hx with hx | hx
    · rcases List.mem_append.mp hx with hx | hx
      · have := days_win tell hk.1 h.1 x hx
        exact ⟨by simp [Nd.names, this.1], this.2⟩
      · have := days_win tell hk.2.1 h.2.1 x hx
        exact ⟨by simp [Nd.names, this.1], this.2⟩
    · split at hx
      · have := days_win tell hk.2.2.1 h.2.2.1 x hx
        exact ⟨by simp [Nd.names, this.1], this.2⟩
      · have := days_win tell hk.2.2.2 h.2.2.2 x hx
        exact ⟨by simp [Nd.names, this.1], this.2⟩
theorem win_few {ns : List Str} {w0 wd : Int} {nd : Nd} (g : NdG ns w0 wd nd) (hn : ns.length ≤ 8) (hw : WinOk w0 wd) (tell : Tell) (l : List NDay) (hl : l.Nodup) (hm : ∀ x ∈ l, x ∈ daysM tell nd) : l.length ≤ 400 := by
  have h1 := nodup_le hl (m := ns.flatMap fun n => dys n w0 (w0 + wd - 1)) fun x hx => by
    have := days_win tell g.ok g.win x (hm x hx)
    exact List.mem_flatMap.mpr ⟨x.1, g.nm _ this.1, mem_dys.mpr ⟨rfl, this.2⟩⟩
  have h2 : ∀ ms : List Str, (ms.flatMap fun n => dys n w0 (w0 + wd - 1)).length = ms.length * wd.toNat := by
    intro ms
    induction ms with
    | nil => simp
    | cons n ms ih =>
      rw [List.flatMap_cons, List.length_append, ih, List.length_cons, Nat.succ_mul]
      unfold dys
      rw [List.length_map, rng_len, show w0 + wd - 1 + 1 - w0 = wd from by omega]
      omega
  rw [h2] at h1
  obtain ⟨a1, a2, a3, a4⟩ := hw
  have := Nat.mul_le_mul hn (show wd.toNat ≤ 40 by omega)
  omega
end
/-! ### text L3 -/
set_option maxHeartbeats 4000000
section
open PySem PySem.Spec PyProof.Rows L2 LamX NdefX
section
variable {P : Program} {w : World} {K : PySem.W.Frag} {mg : Str → Option Value} {base : Heap} {A : Around} {outer : List Env} {s s' : Shared} {H H' : Hp} {h h' : Heap} {c : Addr} {o : Obj} {Q Q' : VK} {E : XK}
theorem ce_out2 {u : Value} (e0 : Env0 P w K mg base A outer s H) (e : H c = some (CelO c o)) (r : CE outer P w (outH H c) s Q' u s') (k : ∀ v H', H' c = none → Q' v H' → Q v (upd H' c (CelO c o))) : CE outer P w H s Q u s' := by
  obtain ⟨v, H', os, bare, un, hok, rv, q⟩ := r
  have hc : s.heap.get? c = some o := celO_at e0.hok e
  have nfr : c ∉ frs outer := fun z => by
    have := e0.frf c z
    rw [e] at this
    cases this
  have nH : H' c = none := un.free c o hc outH_same (by simp)
  have hc' : s'.heap.get? c = some o := un.keep c o hc outH_same nfr (by simp)
  have ne : ∀ b, H b = none → b ≠ c := fun b n z => by rw [z, e] at n; cases n
  have ne2 : ∀ b u, H b = some u → (∀ φ, u ≠ .ext φ) → b ≠ c := fun b u n d z => by
    rw [z, e] at n
    unfold CelO at n
    exact d _ (Option.some.inj n).symm
  refine ⟨v, _, os, bare, ⟨fun b ob q n hb hx => ?_, fun b ob q n hb hx => ?_, fun b ob q n hx => ?_, fun b ob q hx => un.there b ob q hx, fun b xs n => ?_, fun b ob u n => ?_, fun b ps n => ?_⟩, hok_in hok nH hc', rv, k v H' nH q⟩
  · exact un.keep b ob q (by rw [outH_ne (ne b n)]; exact n) hb hx
  · exact un.slot b ob q (by rw [outH_ne (ne b n)]; exact n) hb hx
  · rw [upd_ne (ne b n)]
    exact un.free b ob q (by rw [outH_ne (ne b n)]; exact n) hx
  · have h1 := ne2 b _ n (fun φ z => by cases z)
    rw [upd_ne h1]
    exact un.tups b xs (by rw [outH_ne h1]; exact n)
  · have h1 := ne2 b _ n (fun φ z => by cases z)
    rw [upd_ne h1]
    exact un.frzs b ob u (by rw [outH_ne h1]; exact n)
  · have h1 := ne2 b _ n (fun φ z => by cases z)
    obtain ⟨more, z⟩ := un.tbls b ps (by rw [outH_ne h1]; exact n)
    exact ⟨more, by rw [upd_ne h1]; exact z⟩
end
/-! ### a cell in the frozen part, taken out and put back -/
section
variable {B : Bs} {m : List (Addr × HO)} {G H : Hp} {c : Addr} {o : Obj}
theorem Hs.outG (h : Hs B m G H) (e : G c = some (CelO c o)) (hn : ∀ q, H c ≠ some (LamX.CodeO c q)) : Hs B m (outH G c) (outH H c) := by
  have hc := h.g _ _ e
  refine ⟨fun b u z => ?_, fun p hp => ?_, h.nd, fun p hp => ?_, fun b u z => h.gt b u (outH_some z).2⟩
  · obtain ⟨n, z⟩ := outH_some z
    rw [outH_ne n]
    exact h.g b u z
  · obtain ⟨h1, h2, h3⟩ := h.o p hp
    have n : p.1 ≠ c := fun n => by rw [n, e] at h2; cases h2
    rw [outH_ne n, outH_ne n]
    exact ⟨h1, h2, h3⟩
  · obtain ⟨ps, h1, h2, h3⟩ := h.tb p hp
    refine ⟨ps, ?_, h2, fun pos cv hcv => ?_⟩
    · rw [outH_ne (fun n => by rw [n, hc] at h1; unfold CelO at h1; cases h1)]
      exact h1
    · obtain ⟨c1, e1, e2⟩ := h3 pos cv hcv
      refine ⟨c1, e1, ?_⟩
      rw [outH_ne (fun n => by rw [n] at e2; exact hn _ e2)]
      exact e2
theorem Hs.inG (h : Hs B m G H) (n : H c = none) : Hs B m (upd G c (CelO c o)) (upd H c (CelO c o)) := by
  have gn : G c = none := h.g.free n
  refine ⟨fun b u z => ?_, fun p hp => ?_, h.nd, h.tb.ext fun b u z => ?_, fun b u z => ?_⟩
  · by_cases hb : b = c
    · rw [hb, upd_same] at z ⊢
      exact z
    · rw [upd_ne hb] at z ⊢
      exact h.g b u z
  · obtain ⟨h1, h2, h3⟩ := h.o p hp
    have hne : p.1 ≠ c := fun z => by rw [z, n] at h1; cases h1
    rw [upd_ne hne, upd_ne hne]
    exact ⟨h1, h2, h3⟩
  · rw [upd_ne (ne_of_none z n)]
    exact z
  · by_cases hb : b = c
    · rw [hb, upd_same] at z
      cases z
      rfl
    · rw [upd_ne hb] at z
      exact h.gt b u z
end
theorem look1 {x y : Str} {c c' : Addr} (h : List.lookup x [(y, c)] = some c') : x = y ∧ c' = c := by
  rw [List.lookup_cons] at h
  cases e : x == y with
  | true => rw [e] at h; exact ⟨eq_of_beq e, (Option.some.inj h).symm⟩
  | false => rw [e] at h; cases h
/-! ### a call of a lambda with one captured cell that is told of -/
section
variable {X : Cx} {B : Bs} {lv : Nat} {sc : Scope} {vm sm : List Bool} {gs : List Str} {N : List Str} {H : Hp} {Q : VK}
theorem wcl_lam (g : Gd B lv sc N vm sm gs X) {f c : Addr} {F : NF} {b : Expr} {ob : Obj} {u : Value} {w : V} {vs : List V} {k : Nat} {N' ps gs' : List Str} {y : Str} (S : NScope N' ps [y] F.scope) (hv : (N'.all fun x => visB F.scope x) = true) (hg : gs'.all (gloB F.scope) = true)
    (hb : ∀ (pm ctv : Value) (us : List Value), us.length = ps.length → bindArgs (lfd F b pm ctv) ⟨us, []⟩ = pure (ps.zip us)) (hk : k + 1 ≤ lv)
    (hf : H f = some (LfO f F b)) (hcode : H F.c = some (LamX.CodeO F.c F.qual)) (hcl : F.cl = [(y, c)]) (hcell : H c = some (CelO c ob)) (hdt : ob.data = .cell (some u)) (ru : RelV w u) (hl : vs.length = ps.length)
    (body : ∀ Y, Gd B k F.scope N' (tt N'.length) [] gs' Y → (∀ q, H c ≠ some (LamX.CodeO c q)) → WE Y b (startF N' vs [some w]) (outH H c) fun v H' => H' c = none → Q v (upd H' c (CelO c ob))) : WCl X (.ref f) vs H Q := by
  refine ⟨fun vs' H' Q' => vs' = vs ∧ H' = H ∧ Q' = Q, fun pins s σ H1 xs us Q1 I r ⟨e1, e2, e3⟩ => ?_, rfl, rfl, rfl⟩
  subst e1 e2 e3
  have e0' := I.env0
  have e0 := env_out I.env0 hcell
  have hs : s.heap.get? c = some ob := celO_at I.hok hcell
  have nco : ∀ q, H1 c ≠ some (LamX.CodeO c q) := fun q z => by
    obtain ⟨oc, vs, t, h1, h2, _⟩ := (I.hok c _ z).1
    rw [hs] at h1
    obtain rfl := Option.some.inj h1
    rw [hdt] at h2
    cases h2
  have hne : ∀ {b o}, H1 b = some o → o ≠ CelO c ob → b ≠ c := fun {b o} z n e => by rw [e, hcell] at z; exact n (Option.some.inj z).symm
  have hfc : f ≠ c := fun e => by
    rw [e] at hf
    obtain ⟨od, sl, pm, ctv, h1⟩ := (I.hok c _ hf).1
    rw [hs] at h1
    obtain rfl := Option.some.inj h1
    cases hdt
  have hcc : F.c ≠ c := fun e => by
    rw [e] at hcode
    exact nco _ hcode
  have C : CellsAt F.cl [y] [some w] s.heap (outH H1 c) := by
    rw [hcl]
    refine ⟨rfl, fun z c' h => ?_, fun x z c' h1 h2 => ?_, fun i z h => ?_⟩
    · rw [(look1 h).2]
      exact ⟨outH_same, _, ob, hs, hdt⟩
    · rw [(look1 h1).1, (look1 h2).1]
    · have hz : i = 0 ∧ z = y := by
        cases i with
        | zero => simp at h; exact ⟨rfl, h.symm⟩
        | succ i => simp at h
      obtain ⟨rfl, rfl⟩ := hz
      refine ⟨c, by simp, fun v hv => ?_⟩
      simp at hv
      subst hv
      exact ⟨u, ru, ob, hs, hdt⟩
  obtain ⟨Y, hY⟩ : ∃ Y, Y = X := ⟨X, rfl⟩
  have hrm : Room (k + 1) X.A := g.room.mono hk
  have hgd := fun (hr : Room k (X.A.deeper (envF F f s.heap.objs.size))) => gd_lam (B := B) (gs := gs') (A := X.A) (outer := X.stack) (s := s) (H := outH H1 c) (E := E0) (f := f) (k := k) S hv hg g.room.hd hr
  have hrun := lam_run (P := X.prog) (w := X.w) (K := X.K) (mg := X.mg) (base := X.base) (E := E0) (Q := fun v H' => H' c = none → Q1 v (upd H' c (CelO c ob))) S hb hrm e0 (by rw [outH_ne hfc]; exact hf) (by rw [outH_ne hcc]; exact hcode) C r hl fun hr => by
    rw [g.eP, g.ew, g.eK, g.eg, g.eb]
    exact body _ (hgd hr) nco
  refine wpAny_call (codeAny_mono hrun fun r s' hq => ?_)
  cases r with
  | error e => exact False.elim hq
  | ok fl =>
    cases fl with
    | ret u => exact I.after (ce_out2 e0' hcell hq fun v H' n z => z n)
    | next => exact False.elim hq
    | brk => exact False.elim hq
    | cont => exact False.elim hq
end
end
/-! ### text D28 -/
set_option maxHeartbeats 4000000
section
open PySem PySem.Spec PyProof.Rows L2 TL
variable {B : Bs}
def pAnswered (B : Bs) (nd : Nd) : V → V → V → Hp → VK → Prop := fun a b c H Q => ∃ p S t m G, a = .ref p.b ∧ (b = .str (textM nd) ∨ QO B G b nd) ∧ c = tV t ∧ (∀ n ∈ nd.names, n ∈ S.ns) ∧ S.ns ≠ [] ∧ turnV S.nd t ≤ S.nd ∧ BkR p S G ∧ BkG S ∧ Hs B (m ++ p.pts B S) G H ∧
  ∀ v q vs' G' H' log ns days, Same G G' → (∀ x, x ∈ log ↔ x ∈ daysM (tellS S t) nd) → SeenD log ns days → G' v = some (.tup [oV (evalM (tellS S t) nd), .ref q]) → Fa (BoxR G') vs' (bxR (spkS S t) ns days) → Hs B ((q, .lst vs') :: (m ++ p.pts B S)) G' H' → Q (.ref v) H'
theorem cel_code {c : Addr} {o : Obj} {u : Option Value} {q : Str} (hd : o.data = .cell u) : CelO c o ≠ LamX.CodeO c q := fun e => by
  obtain ⟨h, hh⟩ : ∃ h : Heap, h.get? c = some o := by
    refine ⟨{ objs := Array.replicate (c + 1) o }, ?_⟩
    have h1 : (Array.replicate (c + 1) o)[c]? = some o := by simp
    unfold Heap.get?
    rw [show ({ objs := Array.replicate (c + 1) o } : Heap).objs[c]? = some o from h1]
    obtain ⟨o1, o2, o3, o4⟩ := o
    have hd : o3 = .cell u := hd
    subst hd
    rfl
  unfold CelO LamX.CodeO at e
  have := congrFun (HO.ext.inj e) h
  obtain ⟨oc, vs, t, h1, h2, _⟩ := this.mp hh
  rw [hh] at h1
  obtain rfl := Option.some.inj h1
  rw [hd] at h2
  cases h2
theorem answered (E : EvQ B) (nd : Nd) (h1 : nd.ok) (h2 : nd.nok) (h3 : nd.depth ≤ 3) (h4 : (textM nd).length ≤ 400) (j : Nat) : Fn B 18 "answered" (Sp3 (pAnswered B nd)) ([V.non].drop j) := by
  have f1 := asked_as E nd h1 h2 h3 h4
  have E := E.e
  have k1 := k_Reading E
  have L := E.lamF 1 (x := "answered") rfl rfl rfl (N := ["book", "question", "turn", "asked", "reading", "answer", "name", "day"]) (n := 6) (ps := ["book", "question", "turn"]) (gs := ["asked_as", "Reading"]) (k := 17) (sp := Sp3 (pAnswered B nd)) (by decide +kernel) len3 ?_
  · obtain ⟨fd, f, F, ok, hg⟩ := L
    cases j with
    | zero => exact fn_dfl E F ok hg 2 0 (by simp [He.DefD.dvs, d_answered, mkF]) rfl (fun _ _ _ _ _ _ _ us its hl hi => match us, its, hl, hi with | [_, _], [_], _, _ => ⟨_, rfl, rfl⟩)
    | succ j => 
      have e : [V.non].drop (j + 1) = [V.non].drop 1 := by simp
      rw [e]
      exact fn_dfl E F ok hg 3 1 (by simp [He.DefD.dvs, d_answered, mkF]) rfl (fun _ _ _ _ _ _ _ us its hl hi => match us, its, hl, hi with | [_, _, _], [_], _, _ => ⟨_, rfl, rfl⟩)
  intro X vs0 H Q E1 g ⟨c, P, M⟩ h
  obtain ⟨_, _, _, rfl, p, S, t, m, G, rfl, hb, rfl, hn, hne, ht, bk, bg, hS, k⟩ := h
  show WSs X _ _ [some (.ref p.b), some _, some (tV t), none, none, none, none, none] H
  ktf_call "us"
  refine ⟨p, S, t, _, G, rfl, hb, rfl, hn, hne, ht, (BkM.of (m := m) bk).up (Same.refl _) (fun q h => List.perm_append_comm.mem_iff.mp h), hS, fun v G' H' e1 hq hS' => ?_⟩
  ktf_call "us"
  intro x dx hx hd hnx
  refine ⟨x, dx, p.b, t, m ++ p.pts B S, G', rfl, hS'.mk_i hx hd hnx, fun sp se H1 hS1 => ⟨rfl, ?_⟩⟩
  refine wg_nm g 4 rfl rfl ?_
  show WSs X _ _ [some (.ref p.b), some _, some (tV t), some v, some (.ref x), none, none, none] H1
  obtain ⟨a, dq, fs, rfl, ha, hfs⟩ := hq.cls
  refine wss_cons (ws_asg (we_mtL g 4 rfl (by decide +kernel) (M.fn _) ?_))
  ktf_call "us"
  refine ⟨a, _, dq, _, rfl, hS1.g _ _ ha, lookup_out hfs (by decide), 9 + nd.depth, _, [], all_read E h1 h3, by omega, ?_⟩
  ktf_call "us"
  refine we_lam g M.to (by decide +kernel) hS1 fun f c' G2 H2 hS2 e2 hf hc => ?_
  ktf_call "us"
  intro cc ob u hlk hdt hru hc0
  have hcl : cloFrom X.env.cells [(Str.ofString "name", NameKind.local), (Str.ofString "day", NameKind.local), (Str.ofString "reading", NameKind.free)] [] = ([("reading", cc)] : List (Str × Addr)) := by
    simp only [cloFrom]
    rw [hlk]
    rfl
  rw [hcl] at hf
  have hg0 : G2 cc = none := hS2.g.free hc0
  have hS3 := hS2.inG (o := ob) hc0
  have eG : Same G2 (upd G2 cc (CelO cc ob)) := fun b o z => by rw [upd_ne (ne_of_none z hg0)]; exact z
  have ok : TellOk B 6 f (tellS S t) S.ns (upd G2 cc (CelO cc ob)) (fun log pts => RdP B p S t x log pts) := by
    refine ⟨⟨_, _, eG _ _ hf⟩, fun {Y lv sc N vm sm gs} g2 hj log pts m2 G3 H3 n d Q3 hn hd hP hGs hS3 k3 => ?_⟩
    refine wcl_lam g2 (k := 5) (N' := ["name", "day", "reading"]) (ps := ["name", "day"]) (gs' := []) (NdefX.nscope_by (by kernel_rfl)) (by kernel_rfl) (by kernel_rfl) (fun pm ctv us hl => match us, hl with | [_, _], _ => by kernel_rfl) hj (hS3.g _ _ (hGs _ _ (eG _ _ hf))) (hS3.g _ _ (hGs _ _ (eG _ _ hc))) rfl (hS3.g _ _ (hGs _ _ upd_same)) hdt hru rfl fun Z gZ nco => ?_
    show WE Z _ [some (.str n), some (.int d), some (.ref x)] (outH H3 cc) _
    have hS4 := hS3.outG (hGs _ _ upd_same) nco
    obtain ⟨R, hRr, hpts, rok⟩ := hP
    have ho : outH H3 cc x = some (rdO B R p.b t) := by
      rw [← hRr]
      exact hS4.at (q := (R.r, rdO B R p.b t)) (by rw [hpts]; simp [Rg.pts])
    ktf_call "us"
    refine ⟨x, _, R.dx, _, rfl, ho, by rfl, 5, _, [], telling E, by decide, ?_⟩
    ktf_call "us"
    refine ⟨p, S, t, x, log, pts, m2, outH G3 cc, n, d, rfl, rfl, rfl, hn, hd, ⟨?_, bg, ht, ⟨R, hRr, hpts, rok⟩, hS4⟩, fun pts' H' A' => ?_⟩
    · exact bk.up fun b o z => by
        have z2 := e2 _ _ (e1 _ _ z)
        rw [outH_ne (ne_of_none z2 hg0)]
        exact hGs _ _ (eG _ _ z2)
    · intro hn'
      have hS5 := A'.h.inG (o := ob) hn'
      rw [outH_upd (hGs _ _ upd_same)] at hS5
      exact k3 pts' _ A'.p hS5
  have hS3' : Hs B (m ++ ((⟨x, dx, sp, se, [], []⟩ : Rg).pts B p.b t ++ ([] ++ p.pts B S))) (upd G2 cc (CelO cc ob)) (upd H2 cc (CelO cc ob)) := hS3.perm (by
    show ((⟨x, dx, sp, se, [], []⟩ : Rg).pts B p.b t ++ (m ++ p.pts B S)).Perm (m ++ ((⟨x, dx, sp, se, [], []⟩ : Rg).pts B p.b t ++ p.pts B S))
    rw [← List.append_assoc, ← List.append_assoc]
    exact List.Perm.append_right _ List.perm_append_comm)
  refine ⟨_, _, rfl, ⟨f, tellS S t, S.ns, _, _, ok⟩, [], ((⟨x, dx, sp, se, [], []⟩ : Rg).pts B p.b t ++ ([] ++ p.pts B S)), m, upd G2 cc (CelO cc ob), ?_, fun log' pts' H4 hP hlog hS4 => ?_⟩
  · exact ⟨hq.up (e2.trans eG), rfl, hn, Same.refl _, ⟨⟨x, dx, sp, se, [], []⟩, rfl, rfl, ⟨by simp, by simp, List.nodup_nil, List.nodup_nil, by simp, by simp⟩⟩, hS3'⟩
  · have nco : ∀ q, H4 cc ≠ some (LamX.CodeO cc q) := fun q z => by
      rw [hS4.g _ _ upd_same] at z
      exact cel_code hdt (Option.some.inj z)
    refine ⟨hS4.g _ _ upd_same, ?_⟩
    have hS5 := hS4.outG upd_same nco
    refine wg_nm g 5 rfl rfl ?_
    show WSs X _ _ [some (.ref p.b), some _, some (tV t), some (.ref a), some (.ref x), some (oV (evalM (tellS S t) nd)), none, none] (outH H4 cc)
    obtain ⟨R, hRr, hpts, rok⟩ := hP
    have ho : outH H4 cc x = some (rdO B R p.b t) := by
      rw [← hRr]
      exact hS5.at (q := (R.r, rdO B R p.b t)) (by rw [hpts]; simp [Rg.pts])
    ktf_call "us"
    have eO : Same G (outH (upd G2 cc (CelO cc ob)) cc) := fun b o z => by
      have z2 := e2 _ _ (e1 _ _ z)
      rw [outH_ne (ne_of_none z2 hg0)]
      exact eG _ _ z2
    refine ⟨x, _, R.dx, _, rfl, ho, by rfl, 5, _, [], told_grounds E, by decide, ?_⟩
    refine ⟨_, rfl, p, S, t, x, log', pts', m, _, rfl, ⟨bk.up eO, bg, ht, ⟨R, hRr, hpts, rok⟩, hS5⟩, fun q vs' G6 H6 ns days e6 hSeen hF hS6 => ?_⟩
    refine wa_nil ?_
    refine nt_f hS6 (by show 2 ≤ sizeLine; decide) fun tt G7 H7 hS7 e7 htt => ?_
    exact k tt q vs' G7 H7 log' ns days ((eO.trans e6).trans e7) (fun z => by have := hlog z; simpa using this) hSeen htt (hF.mono fun x y z => z.up e7) hS7
end
/-! ### text D29 -/
set_option maxHeartbeats 4000000
section
open PySem PySem.Spec PyProof.Rows L2 TL
variable {B : Bs}
def pPlainly (B : Bs) (nd : Nd) : V → V → V → Hp → VK → Prop := fun a b c H Q => ∃ p S t m G, a = .ref p.b ∧ (b = .str (textM nd) ∨ QO B G b nd) ∧ c = tV t ∧ (∀ n ∈ nd.names, n ∈ S.ns) ∧ S.ns ≠ [] ∧ turnV S.nd t ≤ S.nd ∧ BkR p S G ∧ BkG S ∧ Hs B (m ++ p.pts B S) G H ∧
  ∀ G' H', Same G G' → Hs B (m ++ p.pts B S) G' H' → Q (oV (evalM (tellS S t) nd)) H'
theorem plainly (E : EvQ B) (nd : Nd) (h1 : nd.ok) (h2 : nd.nok) (h3 : nd.depth ≤ 3) (h4 : (textM nd).length ≤ 400) (j : Nat) : Fn B 18 "plainly" (Sp3 (pPlainly B nd)) ([V.non].drop j) := by
  have f1 := asked_as E nd h1 h2 h3 h4
  have E := E.e
  have k1 := k_Reading E
  have L := E.lamF 2 (x := "plainly") rfl rfl rfl (N := ["book", "question", "turn", "asked", "reading", "name", "day"]) (n := 5) (ps := ["book", "question", "turn"]) (gs := ["asked_as", "Reading"]) (k := 17) (sp := Sp3 (pPlainly B nd)) (by decide +kernel) len3 ?_
  · obtain ⟨fd, f, F, ok, hg⟩ := L
    cases j with
    | zero => exact fn_dfl E F ok hg 2 0 (by simp [He.DefD.dvs, d_plainly, mkF]) rfl (fun _ _ _ _ _ _ _ us its hl hi => match us, its, hl, hi with | [_, _], [_], _, _ => ⟨_, rfl, rfl⟩)
    | succ j => 
      have e : [V.non].drop (j + 1) = [V.non].drop 1 := by simp
      rw [e]
      exact fn_dfl E F ok hg 3 1 (by simp [He.DefD.dvs, d_plainly, mkF]) rfl (fun _ _ _ _ _ _ _ us its hl hi => match us, its, hl, hi with | [_, _, _], [_], _, _ => ⟨_, rfl, rfl⟩)
  intro X vs0 H Q E1 g ⟨c, P, M⟩ h
  obtain ⟨_, _, _, rfl, p, S, t, m, G, rfl, hb, rfl, hn, hne, ht, bk, bg, hS, k⟩ := h
  show WSs X _ _ [some (.ref p.b), some _, some (tV t), none, none, none, none] H
  ktf_call "us"
  refine ⟨p, S, t, _, G, rfl, hb, rfl, hn, hne, ht, (BkM.of (m := m) bk).up (Same.refl _) (fun q h => List.perm_append_comm.mem_iff.mp h), hS, fun v G' H' e1 hq hS' => ?_⟩
  ktf_call "us"
  intro x dx hx hd hnx
  refine ⟨x, dx, p.b, t, m ++ p.pts B S, G', rfl, hS'.mk_i hx hd hnx, fun sp se H1 hS1 => ⟨rfl, ?_⟩⟩
  refine wg_nm g 4 rfl rfl ?_
  show WSs X _ _ [some (.ref p.b), some _, some (tV t), some v, some (.ref x), none, none] H1
  obtain ⟨a, dq, fs, rfl, ha, hfs⟩ := hq.cls
  refine wss_one (ws_ret (we_mtL g 4 rfl (by decide +kernel) (M.fn _) ?_))
  ktf_call "us"
  refine ⟨a, _, dq, _, rfl, hS1.g _ _ ha, lookup_out hfs (by decide), 8 + nd.depth, _, [], all_plain E h1 h3, by omega, ?_⟩
  ktf_call "us"
  refine we_lam g M.to (by decide +kernel) hS1 fun f c' G2 H2 hS2 e2 hf hc => ?_
  ktf_call "us"
  intro cc ob u hlk hdt hru hc0
  have hcl : cloFrom X.env.cells [(Str.ofString "name", NameKind.local), (Str.ofString "day", NameKind.local), (Str.ofString "reading", NameKind.free)] [] = ([("reading", cc)] : List (Str × Addr)) := by
    simp only [cloFrom]
    rw [hlk]
    rfl
  rw [hcl] at hf
  have hg0 : G2 cc = none := hS2.g.free hc0
  have hS3 := hS2.inG (o := ob) hc0
  have eG : Same G2 (upd G2 cc (CelO cc ob)) := fun b o z => by rw [upd_ne (ne_of_none z hg0)]; exact z
  have ok : TellOk B 6 f (tellS S t) S.ns (upd G2 cc (CelO cc ob)) (fun log pts => RdP B p S t x log pts) := by
    refine ⟨⟨_, _, eG _ _ hf⟩, fun {Y lv sc N vm sm gs} g2 hj log pts m2 G3 H3 n d Q3 hn hd hP hGs hS3 k3 => ?_⟩
    refine wcl_lam g2 (k := 5) (N' := ["name", "day", "reading"]) (ps := ["name", "day"]) (gs' := []) (NdefX.nscope_by (by kernel_rfl)) (by kernel_rfl) (by kernel_rfl) (fun pm ctv us hl => match us, hl with | [_, _], _ => by kernel_rfl) hj (hS3.g _ _ (hGs _ _ (eG _ _ hf))) (hS3.g _ _ (hGs _ _ (eG _ _ hc))) rfl (hS3.g _ _ (hGs _ _ upd_same)) hdt hru rfl fun Z gZ nco => ?_
    show WE Z _ [some (.str n), some (.int d), some (.ref x)] (outH H3 cc) _
    have hS4 := hS3.outG (hGs _ _ upd_same) nco
    obtain ⟨R, hRr, hpts, rok⟩ := hP
    have ho : outH H3 cc x = some (rdO B R p.b t) := by
      rw [← hRr]
      exact hS4.at (q := (R.r, rdO B R p.b t)) (by rw [hpts]; simp [Rg.pts])
    ktf_call "us"
    refine ⟨x, _, R.dx, _, rfl, ho, by rfl, 5, _, [], telling E, by decide, ?_⟩
    ktf_call "us"
    refine ⟨p, S, t, x, log, pts, m2, outH G3 cc, n, d, rfl, rfl, rfl, hn, hd, ⟨?_, bg, ht, ⟨R, hRr, hpts, rok⟩, hS4⟩, fun pts' H' A' => ?_⟩
    · exact bk.up fun b o z => by
        have z2 := e2 _ _ (e1 _ _ z)
        rw [outH_ne (ne_of_none z2 hg0)]
        exact hGs _ _ (eG _ _ z2)
    · intro hn'
      have hS5 := A'.h.inG (o := ob) hn'
      rw [outH_upd (hGs _ _ upd_same)] at hS5
      exact k3 pts' _ A'.p hS5
  have hS3' : Hs B (m ++ ((⟨x, dx, sp, se, [], []⟩ : Rg).pts B p.b t ++ ([] ++ p.pts B S))) (upd G2 cc (CelO cc ob)) (upd H2 cc (CelO cc ob)) := hS3.perm (by
    show ((⟨x, dx, sp, se, [], []⟩ : Rg).pts B p.b t ++ (m ++ p.pts B S)).Perm (m ++ ((⟨x, dx, sp, se, [], []⟩ : Rg).pts B p.b t ++ p.pts B S))
    rw [← List.append_assoc, ← List.append_assoc]
    exact List.Perm.append_right _ List.perm_append_comm)
  refine ⟨_, _, rfl, ⟨f, tellS S t, S.ns, _, _, ok⟩, [], ((⟨x, dx, sp, se, [], []⟩ : Rg).pts B p.b t ++ ([] ++ p.pts B S)), m, upd G2 cc (CelO cc ob), ?_, fun log' pts' H4 hP hlog hS4 => ?_⟩
  · exact ⟨hq.up (e2.trans eG), rfl, hn, Same.refl _, ⟨⟨x, dx, sp, se, [], []⟩, rfl, rfl, ⟨by simp, by simp, List.nodup_nil, List.nodup_nil, by simp, by simp⟩⟩, hS3'⟩
  · have nco : ∀ q, H4 cc ≠ some (LamX.CodeO cc q) := fun q z => by
      rw [hS4.g _ _ upd_same] at z
      exact cel_code hdt (Option.some.inj z)
    refine ⟨hS4.g _ _ upd_same, ?_⟩
    have hS5 := hS4.outG upd_same nco
    obtain ⟨R, hRr, hpts, rok⟩ := hP
    have eO : Same G (outH (upd G2 cc (CelO cc ob)) cc) := fun b o z => by
      have z2 := e2 _ _ (e1 _ _ z)
      rw [outH_ne (ne_of_none z2 hg0)]
      exact eG _ _ z2
    rw [hpts] at hS5
    exact k _ _ eO (Hs.mid (a := m) (Hs.mid (a := m) hS5))
end
/-! ### text E13 -/
set_option maxHeartbeats 4000000
section
open PySem PySem.Spec PyProof.Rows L2 TL
variable {B : Bs}
/-- the turn that the law's rows tell -/
def turnF (fs : List Fr) : Nat := fs.length + (fs.filter fun r => r.gone.isSome).length
def pNowRight (B : Bs) : V → V → V → Hp → VK → Prop := fun a b c H Q => ∃ (fa v q : Addr) (rs : List (Addr × Fr)) (nd : Nd) (ns : List Str) (w0 wd : Int) (vs : List V) (bs : List Box) (m : List (Addr × HO)) (G : Hp), a = .ref fa ∧ NR G b nd ∧ c = .ref v ∧ rs.length ≤ 20 ∧ (∀ q ∈ rs, q.2.ok) ∧ (∀ q ∈ fpts fa rs, q ∈ m) ∧ NdG ns w0 wd nd ∧ ns.length ≤ 8 ∧ WinOk w0 wd ∧ (∀ n ∈ ns, NameOk n) ∧ nd.depth ≤ 3 ∧
  G v = some (.tup [oV (evalM (valF (rs.map (·.2)) (turnF (rs.map (·.2)))) nd), .ref q]) ∧ G q = some (.lst vs) ∧ Fa (BoxR G) vs bs ∧ (∀ ps, SrtP (daysM (valF (rs.map (·.2)) (turnF (rs.map (·.2)))) nd) ps → bs = LB (spkF (rs.map (·.2)) (turnF (rs.map (·.2)))) ps) ∧ Hs B m G H ∧ ∀ H', Hs B m G H' → Q (.bl true) H'
theorem law_now_right (E : Ev B) (R3 : SortSet B) : Fn B 7 "_law_now_right" (Sp3 (pNowRight B)) [] := by
  have f1 := law_known E
  have f3 := law_told_right E
  have f4 := law_boxes E R3
  refine E.fn 101 rfl rfl rfl rfl (N := ["_law_found", "_law_node", "_law_answer", "_law_now", "_law_speakers", "_law_values", "_law_due_here", "_law_days_here", "_law_row_here"]) (n := 8) (ps := ["_law_found", "_law_node", "_law_answer"]) (gs := ["len", "_law_known", "_law_due", "_law_told_right", "_law_boxes"]) (by decide +kernel) len3 (by ktf_call "b3") ?_
  intro X vs0 H Q E1 g h
  obtain ⟨_, nv, _, rfl, fa, v, q, rs, nd, ns, w0, wd, vs, bs, m, G, rfl, hnr, rfl, hr20, hok, hm, hg, hns8, hw, hnm, hd3, hv, hq, hF, hbs, hS, k⟩ := h
  have f2 := (law_due E (valF (rs.map (·.2)) (turnF (rs.map (·.2)))) nd hg.ok hd3).up (show 3 + nd.depth ≤ 6 by omega)
  show WSs X _ _ [some (.ref fa), some nv, some (.ref v), none, none, none, none, none, none] H
  have hfa := fpts_fa hm hS
  ktf_call "us"
  refine wcl_lenL g (sql hfa) ?_
  ktf_call "us"
  refine we_lc g [("_law_row_here", 8)] [false, false, false, false, false, false, false, false, true] [false, false, false, false, false, false, false, false, true] [] (by decide +kernel) (by decide) (wi_l g ?_)
  ktf_call "us"
  refine ⟨fa, _, rfl, sql hfa, ?_⟩
  have hm2 : ∀ (x : Addr × HO) q, q ∈ fpts fa rs → q ∈ x :: m := fun x q hq => List.mem_cons_of_mem _ (hm q hq)
  refine lcb_v rs (fun q => if q.2.gone.isSome then some (.ref q.1) else none) hS (by simp) (by rw [List.length_map]; exact Nat.le_trans hr20 (by decide)) (fun _ _ _ _ e h => sql (fpts_fa (hm2 _) h)) ?_ ?_
  · rintro i q D G' vs' H' x H'' hs e1 hS1 ⟨rfl, hx⟩ Z gZ
    rw [List.getElem?_map, hs] at hx
    obtain rfl := Option.some.inj hx
    obtain ⟨ra, r⟩ := q
    have hra := fpts_at (hm2 _) hS1 hs
    ktf_call "w"
    ktf_call "us"
    refine ⟨rfl, fun Z gZ => ?_⟩
    ktf_call "us"
    refine wx_l gZ (sql hra) (at_nat 5 rfl rfl) ?_
    cases hgn : r.gone with
    | none =>
      unfold tV
      ktf_call "us"
      exact ⟨by simp [hgn], G', Same.refl _, hS1⟩
    | some gn =>
      unfold tV
      ktf_call "us"
      exact ⟨by simp [hgn], G', Same.refl _, hS1⟩
  intro D G' H' e1 hS1
  have el : ((rs.filterMap fun q => if q.2.gone.isSome then some (V.ref q.1) else none)).length = ((rs.map (·.2)).filter fun r => r.gone.isSome).length := by
    clear hm2 hbs hv hok hm hfa f2 hr20 hS1
    induction rs with
    | nil => rfl
    | cons a rs ih =>
      rw [List.filterMap_cons, List.map_cons, List.filter_cons]
      cases a.2.gone with
      | none => simpa using ih
      | some x => simpa using ih
  ktf_call "us"
  refine wcl_lenL g (sql hS1.a0) ?_
  rw [el]
  have hS2 := hS1.drop
  have hT : ((rs.map fun q => V.ref q.1).length : Int) + (((rs.map (·.2)).filter fun r => r.gone.isSome).length : Int) = ((turnF (rs.map (·.2)) : Nat) : Int) := by
    unfold turnF
    simp
  ktf_call "us"
  rw [hT]
  ktf_call "us"
  refine ⟨fa, rs, turnF (rs.map (·.2)), m, G', rfl, rfl, hr20, hok, hm, hS2, fun v1 sa va ks kv G1 H1 e2 hv1 hsa hva hks hkv hS3 => ?_⟩
  have hv1' := hS3.g _ _ hv1
  ktf_call "us"
  refine ⟨va, kv, m, G1, NR.up (B := B) (e1.trans e2) hnr, rfl, hva, hkv, hS3, fun v2 q2 ls G2 H2 e3 hv2 hq2 hL hS4 => ?_⟩
  have hv2' := hS4.g _ _ hv2
  ktf_call "us"
  refine ⟨q2, sa, ls, _, ks, spkF (rs.map (·.2)) (turnF (rs.map (·.2))), m, G2, rfl, rfl, hq2, hL, days_few hg.ok hd3, fun l hl1 hl2 => win_few hg hns8 hw _ l hl1 hl2, fun x hx => hnm _ (hg.nm _ (days_win _ hg.ok hg.win x hx).1), e3 _ _ hsa, hks, hS4, fun bq ws ps G3 H3 e4 hps hbq hW hS5 => ?_⟩
  have e14 := e1.trans (e2.trans (e3.trans e4))
  rw [← hbs ps hps] at hW
  have hfew := win_few hg hns8 hw (valF (rs.map (·.2)) (turnF (rs.map (·.2)))) ps (hps.lt.imp fun {a b} h e => by subst e; exact ltP_asymm h h) fun x hx => (hps.mem x).mp hx
  ktf_call "us"
  refine ⟨v, q, bq, _, vs, ws, bs, m, G3, rfl, rfl, rfl, e14 _ _ hv, e14 _ _ hq, hbq, hF.mono fun x y z => z.up e14, hW, fun b hb => ?_, ?_, hS5, fun H4 hS6 => k H4 (hS6.base e14)⟩
  · rw [hbs ps hps] at hb
    have hg' := LB_ok _ ps b hb
    have := (hg'.d b.2.1 (Int.le_refl _) hg'.le).1
    exact hnm _ (hg.nm _ (days_win _ hg.ok hg.win _ ((hps.mem _).mp this)).1)
  · rw [hbs ps hps]
    have := LBa_len (spkF (rs.map (·.2)) (turnF (rs.map (·.2)))) ps []
    exact Nat.le_trans this (by rw [List.length_nil]; omega)
end
/-! ### text E14 -/
set_option maxHeartbeats 4000000
section
open PySem PySem.Spec PyProof.Rows L2 TL
variable {B : Bs}
/-! ### who speaks on the days of the grounds -/
def pSpoken (B : Bs) : V → V → V → Hp → VK → Prop := fun a b c H Q => ∃ (p : Bp) (S : Bk) (ga : Addr) (vs : List V) (bs : List Box) (t : Nat) (m : List (Addr × HO)) (G : Hp), a = .ref p.b ∧ b = .ref ga ∧ c = .int t ∧ G ga = some (.lst vs) ∧ Fa (BoxR G) vs bs ∧ t ≤ S.nd ∧ BkG S ∧ BkM B p S m G ∧ Hs B m G H ∧
  (∀ b ∈ bs, b.1 ∈ S.ns ∧ (0 ≤ b.2.1 ∧ b.2.1 ≤ 399 ∧ -1 ≤ b.2.2.1 ∧ b.2.2.1 ≤ 399) ∧ ∀ d, b.2.1 ≤ d → d ≤ b.2.2.1 → spkS S (some t) b.1 d = b.2.2.2) ∧ ∀ H', Hs B m G H' → Q (.bl true) H'
theorem law_spoken (E : Ev B) : Fn B 4 "_law_spoken" (Sp3 (pSpoken B)) [] := by
  refine E.fn 100 rfl rfl rfl rfl (N := ["_law_book", "_law_grounds", "_law_turn", "_law_key", "_law_first", "_law_last", "_law_number", "_law_told", "_law_begin", "_law_end", "_law_other", "_law_day"]) (n := 12) (ps := ["_law_book", "_law_grounds", "_law_turn"]) (gs := ["range"]) (by decide +kernel) len3 (by ktf_call "b3") ?_
  intro X vs0 H Q E1 g h
  obtain ⟨_, _, _, rfl, p, S, ga, vs, bs, t, m, G, rfl, rfl, rfl, hga, hF, ht, bg, A, hS, hbs, k⟩ := h
  show WSs X _ _ [some (.ref p.b), some (.ref ga), some (.int t), none, none, none, none, none, none, none, none, none] H
  refine wss_cons (ws_forS g (wi_l g ?_))
  ktf_call "us"
  refine ⟨ga, vs, rfl, sql (hS.g _ _ hga), fun i σ' H' => ∃ o3 o4 o5 o6 o7 o8 o9 o10 o11 G', σ' = [some (.ref p.b), some (.ref ga), some (.int t), o3, o4, o5, o6, o7, o8, o9, o10, o11] ∧ Same G G' ∧ Hs B m G' H', ⟨_, _, _, _, _, _, _, _, _, G, rfl, Same.refl _, hS⟩, fun i σ' H' _ ⟨_, _, _, _, _, _, _, _, _, _, _, e, h⟩ => sql (h.g _ _ (e _ _ hga)), ?_, ?_⟩
  · rintro i y σ' H' _ hi ⟨o3, o4, o5, o6, o7, o8, o9, o10, o11, G', rfl, e1, hS1⟩ ⟨rfl, hy⟩
    obtain ⟨⟨n, a, b, c⟩, hb, tt, rfl, htt⟩ := hF.get' hy
    dsimp only at htt
    obtain ⟨hn, ⟨b1, b2, b3, b4⟩, hsp⟩ := hbs _ (List.mem_of_getElem? hb)
    dsimp only at hn b1 b2 b3 b4 hsp
    have ht1 := hS1.g _ _ (e1 _ _ htt)
    have A1 := A.up e1 (fun q h => h)
    ktf_call "us"
    refine we_dK (nd_m hS1 fun dd H2 hS2 => ?_)
    have A2 := A1.up (Same.refl _) (m' := (dd, .dK []) :: m) fun q h => List.mem_cons_of_mem _ h
    ktf_call "us"
    refine wss_cut (fun σ' H' => ∃ o8 o9 o10 o11 kv, σ' = [some (.ref p.b), some (.ref ga), some (.int t), some (.str n), some (.int a), some (.int b), some (oV c), some (.ref dd), o8, o9, o10, o11] ∧ (∀ d : Int, (valV kv (.inl d)).getD .non = oV (spkS S (some t) n d)) ∧ Hs B ((dd, .dK kv) :: m) G' H') ?_ ?_
    · refine ws_forS g (wi_l g ?_)
      ktf_call "us"
      refine ⟨p.b, _, p.dx, _, rfl, A2.ob hS2, by rfl, 3, _, [], table_ E, by decide, ?_⟩
      ktf_call "us"
      refine ⟨p, S, _, G', n, some t, rfl, rfl, rfl, hn, ht, A2, hS2, fun q rvs G2 H3 e2 hR hS3 => ?_⟩
      have hrows : DayB (stripAt (S.hist n) (turnV S.nd (some t))) := fun r hr => by
        obtain ⟨q, hq, hrq⟩ := stripAt_mem hr
        exact bg.day n q hq r hrq
      have hlen : (stripAt (S.hist n) (turnV S.nd (some t))).length ≤ 400 := stripAt_len fun q hq => A.r.st n q hq
      have hspk : ∀ d, spkS S (some t) n d = markF (stripAt (S.hist n) (turnV S.nd (some t))) d := fun _ => rfl
      generalize stripAt (S.hist n) (turnV S.nd (some t)) = rows at hR hrows hlen hspk
      refine ⟨q, rvs, rfl, sql hS3.a0, fun i σ' H' => ∃ o8 o9 o10 o11 kv, σ' = [some (.ref p.b), some (.ref ga), some (.int t), some (.str n), some (.int a), some (.int b), some (oV c), some (.ref dd), o8, o9, o10, o11] ∧ kv.length ≤ 400 * i ∧ (∀ d : Int, (valV kv (.inl d)).getD .non = oV (markF (rows.take i) d)) ∧ Hs B ((q, .lst rvs) :: (dd, .dK kv) :: m) G2 H', ⟨_, _, _, _, [], rfl, by simp, fun d => rfl, hS3⟩, fun i σ' H' _ ⟨_, _, _, _, _, _, _, _, h⟩ => sql h.a0, ?_, ?_⟩
      · rintro i y σ' H' _ hi ⟨o8, o9, o10, o11, kv, rfl, hkl, hkv, hS'⟩ ⟨rfl, hy⟩
        obtain ⟨row, hrow, tu, rfl, htu⟩ := hR.get' hy
        have htu' := hS'.g _ _ htu
        obtain ⟨c1, c2, c3, c4⟩ := hrows row (List.mem_of_getElem? hrow)
        have hil : i < rows.length := (List.getElem?_eq_some_iff.mp hrow).1
        ktf_call "us"
        refine wss_one (ws_forS g (wi_r2 g (by ktf_call "gm") E.f_range ?_))
        ktf_call "us"
        refine ⟨row.1, row.2.1 + 1, rfl, rfl, by omega, ?_⟩
        refine ⟨fun j σ' H' => ∃ o11 kv, σ' = [some (.ref p.b), some (.ref ga), some (.int t), some (.str n), some (.int a), some (.int b), some (oV c), some (.ref dd), some (.int row.1), some (.int row.2.1), some (oV row.2.2), o11] ∧ kv.length ≤ 400 * i + j ∧ (∀ d : Int, (valV kv (.inl d)).getD .non = if row.1 ≤ d ∧ d < row.1 + (j : Nat) then oV row.2.2 else oV (markF (rows.take i) d)) ∧ Hs B ((q, .lst rvs) :: (dd, .dK kv) :: m) G2 H', ⟨_, kv, rfl, by omega, fun d => by rw [hkv, if_neg (by omega)], hS'⟩, fun _ _ _ _ _ => True.intro, ?_, ?_⟩
        · rintro j y σ' H2 _ hj ⟨o11, kv2, rfl, hkl2, hkv2, hS2'⟩ ⟨rfl, hyy⟩
          obtain rfl : y = .int (row.1 + (j : Nat)) := by rw [hyy, Int.mul_one]
          ktf_call "us"
          refine wst_d g (DPut.k (k := .inl (row.1 + (j : Nat))) hS2'.a1 (Nat.lt_of_le_of_lt hkl2 ?_)) ?_
          · rw [sizeLine_eq]; omega
          ktf_call "us"
          refine ⟨_, _, rfl, Nat.le_trans (length_putK _ _ _) (by omega), fun d => ?_, hS2'.set1 rfl⟩
          rw [valV_put]
          by_cases hd : d = row.1 + (j : Nat)
          · rw [if_pos (by rw [hd]), if_pos (by omega)]; rfl
          · rw [if_neg (by intro z; injection z with z; exact hd z), hkv2]
            by_cases hc : row.1 ≤ d ∧ d < row.1 + (j : Nat)
            · rw [if_pos hc, if_pos (by omega)]
            · rw [if_neg hc, if_neg (by omega)]
        · rintro σ' H2 ⟨o11, kv2, rfl, hkl2, hkv2, hS2'⟩
          refine ⟨_, _, _, _, kv2, rfl, Nat.le_trans hkl2 (by omega), fun d => ?_, hS2'⟩
          rw [hkv2, List.take_add_one, hrow]
          show _ = oV (markF (rows.take i ++ [row]) d)
          rw [markF_snoc]
          by_cases hc : row.1 ≤ d ∧ d ≤ row.2.1
          · rw [if_pos hc, if_pos (by omega)]
          · rw [if_neg hc, if_neg (by omega)]
      · rintro σ' H' ⟨o8, o9, o10, o11, kv, rfl, hkl, hkv, hS'⟩
        rw [hR.length, List.take_length] at hkv
        exact ⟨_, _, _, _, kv, rfl, fun d => by rw [hkv, hspk], hS'.drop.base e2⟩
    · rintro σ' H' ⟨o8, o9, o10, o11, kv, rfl, hkv, hS'⟩
      have hz : (b + 1 - a).toNat ≤ sizeLine := Nat.le_trans (by omega : (b + 1 - a).toNat ≤ 400) (by decide)
      refine wss_one (ws_ifF (fun H2 => ∃ G2, Same G' G2 ∧ Hs B m G2 H2) ?_ ?_)
      · ktf_call "us"
        refine we_lc g [("_law_day", 11)] [false, false, false, false, false, false, true, true, false, false, false, true] [false, false, false, false, false, false, false, false, false, false, false, true] [] (by decide +kernel) (by decide) (wi_r2 g (by ktf_call "gm") E.f_range ?_)
        ktf_call "us"
        refine ⟨a, b + 1, rfl, rfl, by omega, ?_⟩
        refine lcb_v (rng a b) (fun _ => none) hS' (rng_len a b) hz (fun _ _ _ _ _ _ => True.intro) ?_ ?_
        · rintro j s D G3 us H3 z H4 hs e3 hS3 ⟨rfl, hz⟩ Z gZ
          obtain rfl := yR1 hz
          have hj : j < (b + 1 - a).toNat := by rw [← rng_len]; exact (List.getElem?_eq_some_iff.mp hs).1
          ktf_call "w"
          ktf_call "us"
          refine ⟨rfl, fun Z gZ => ?_⟩
          ktf_call "us"
          refine ⟨.inl ⟨kv, .inl hS3.a1⟩, ?_⟩
          ktf_call "us"
          refine ⟨_, DGet.k (k := .inl (a + (j : Nat))) hS3.a1, ?_⟩
          rw [hkv, hsp _ (by omega) (by omega)]
          ktf_call "us"
          refine wc_ne (oV_scal _ _) ⟨_, rfl, ?_⟩
          rw [decide_eq_true rfl]
          exact iteNT ⟨trivial, G3, Same.refl _, hS3⟩
        · intro D G3 H3 e3 hS3
          have el : ((rng a b).filterMap fun _ => (none : Option V)) = [] := by simp
          rw [el] at hS3
          ktf_call "us"
          refine nl_m hS3 (by decide) fun q3 H5 hS5 => ?_
          refine wc_neNil g (sql hS5.a1) .nil shaped_nil (sql hS5.a0) ?_
          ktf_call "us"
          exact ⟨rfl, G3, e3, hS5.drop.drop.drop⟩
      · rintro H2 ⟨G2, e2, hS2⟩
        ktf_call "us"
        exact ⟨_, _, _, _, _, _, _, _, _, G2, rfl, e1.trans e2, hS2⟩
  · rintro σ' H' ⟨o3, o4, o5, o6, o7, o8, o9, o10, o11, G', rfl, e1, hS1⟩
    ktf_call "us"
    exact k H' (hS1.base e1)
end
/-! ### text P5 -/
set_option maxHeartbeats 4000000
section
open PySem PySem.Spec PyProof.Rows L2 TL
/-! ### the book's history against the law's rows -/
def mkB (n : Nat) (x : Option Int) : Prop := ∃ k : Nat, x = some (k : Int) ∧ k < n
structure BI (S : Bk) (fs : List Fr) : Prop where
  el : S.ent.length = fs.length
  en : ∀ (i : Nat) r, fs[i]? = some r → ∃ e, S.ent[i]? = some e ∧ e.key = r.key ∧ e.f = r.f ∧ e.l = r.l ∧ e.v = r.v
  go : ∀ i : Nat, i ∈ S.gone.map (·.1) ↔ ∃ r, fs[i]? = some r ∧ r.gone.isSome = true
  gl : S.gone.length ≤ S.nd
  nd : S.nd = turnF fs
  tn : ∀ r ∈ fs, r.turn ≤ S.nd ∧ ∀ g, r.gone = some g → g ≤ S.nd
  ky : ∀ r ∈ fs, r.key ∈ S.ns ∧ r.ok
  hi : ∀ n, ∃ h0 t0 strip, S.hist n = h0 ++ [(t0, strip)] ∧ h0.length ≤ S.nd
  hg : ∀ n, ∀ q ∈ S.hist n, StG (mkB S.ent.length) q.2 ∧ q.1 ≤ S.nd
  sp : ∀ n (t : Nat), t ≤ S.nd → ∀ d, markF (stripAt (S.hist n) t) d = spkF fs t n d
theorem BI0 (ns : List Str) : BI (bk0 ns) [] where
  el := rfl
  en := fun i r h => by simp at h
  go := fun i => by simp [bk0]
  gl := Nat.le_refl _
  nd := rfl
  tn := fun r h => by cases h
  ky := fun r h => by cases h
  hi := fun n => ⟨[], 0, [], rfl, Nat.le_refl _⟩
  hg := fun n q hq => by rw [List.mem_singleton.mp hq]; exact ⟨StG.nil, Nat.le_refl _⟩
  sp := fun n t _ d => rfl
theorem spkN_congr {fs fs' : List Fr} {t t' : Nat} {n : Str} {d : Int} : ∀ (i : Nat), i ≤ fs.length → i ≤ fs'.length → (∀ (j : Nat) r r', j < i → fs[j]? = some r → fs'[j]? = some r' → (r.on t n d ↔ r'.on t' n d)) → spkN fs t i n d = spkN fs' t' i n d
  | 0, _, _, _ => by rw [spkN_zero, spkN_zero]
  | i + 1, h1, h2, h => by
    have e1 : fs[i]? = some fs[i] := List.getElem?_eq_getElem h1
    have e2 : fs'[i]? = some fs'[i] := List.getElem?_eq_getElem h2
    rw [spkN_succ e1, spkN_succ e2, spkN_congr i (Nat.le_of_succ_le h1) (Nat.le_of_succ_le h2) fun j r r' hj => h j r r' (by omega)]
    have := h i _ _ (Nat.lt_succ_self i) e1 e2
    by_cases c : (fs[i]).on t n d
    · rw [if_pos c, if_pos (this.mp c)]
    · rw [if_neg c, if_neg fun z => c (this.mpr z)]
theorem stripAt_snoc (h : List (Nat × List Row)) (k : Nat) (s : List Row) (t : Nat) : stripAt (h ++ [(k, s)]) t = if k ≤ t then s else stripAt h t := by
  unfold stripAt
  rw [List.foldl_append]; rfl
theorem stripAt_late {h : List (Nat × List Row)} {t t' : Nat} (h1 : ∀ q ∈ h, q.1 ≤ t) (h2 : t ≤ t') : stripAt h t' = stripAt h t := by
  unfold stripAt
  generalize ([] : List Row) = acc
  induction h generalizing acc with
  | nil => rfl
  | cons a h ih =>
    have := h1 a List.mem_cons_self
    rw [List.foldl_cons, List.foldl_cons, if_pos this, if_pos (by omega)]
    exact ih (fun q hq => h1 q (List.mem_cons_of_mem _ hq)) _
/-- a row that the book knew already tells the same a turn later -/
theorem Fr.kn_next {r : Fr} {T : Nat} (h : r.turn ≤ T ∧ ∀ g, r.gone = some g → g ≤ T) : r.kn (T + 1) = r.kn T := by
  unfold Fr.kn
  rw [decide_eq_true (show r.turn ≤ T + 1 by omega), decide_eq_true h.1]
  cases hg : r.gone with
  | none => rfl
  | some g =>
    have := h.2 g hg
    show (true && decide (T + 1 < g)) = (true && decide (T < g))
    rw [decide_eq_false (by omega), decide_eq_false (by omega)]
theorem spkF_next {S : Bk} {fs : List Fr} (b : BI S fs) (n : Str) (d : Int) : spkF fs (S.nd + 1) n d = spkF fs S.nd n d := by
  refine spkN_congr _ (Nat.le_refl _) (Nat.le_refl _) fun j r r' _ e1 e2 => ?_
  rw [e1] at e2
  obtain rfl := Option.some.inj e2
  unfold Fr.on
  rw [Fr.kn_next (b.tn r (List.mem_of_getElem? e1))]
theorem BI.last {S : Bk} {fs : List Fr} (b : BI S fs) {n : Str} {h0 : List (Nat × List Row)} {t0 : Nat} {strip : List Row} (h : S.hist n = h0 ++ [(t0, strip)]) : stripAt (S.hist n) S.nd = strip ∧ StG (mkB S.ent.length) strip := by
  have hq := b.hg n (t0, strip) (by rw [h]; simp)
  rw [h, stripAt_snoc, if_pos hq.2]
  exact ⟨rfl, hq.1⟩
theorem turnF_app (fs : List Fr) (r : Fr) (h : r.gone = none) : turnF (fs ++ [r]) = turnF fs + 1 := by
  unfold turnF
  rw [List.filter_append, List.length_append, List.length_append]
  simp [h]
  omega
theorem BI.find {S : Bk} {fs : List Fr} (b : BI S fs) {key : Str} {f l v : Int} (hk : key ∈ S.ns) (hb : 0 ≤ f ∧ f ≤ l ∧ l ≤ 399) {h0 : List (Nat × List Row)} {t0 : Nat} {strip : List Row} (hh : S.hist key = h0 ++ [(t0, strip)]) :
    (laidR strip f l S.ent.length).length ≤ 400 ∧ BI (findS S key f l v strip) (fs ++ [⟨key, f, l, v, S.nd + 1, none⟩]) := by
  obtain ⟨hs1, hs2⟩ := b.last hh
  have hmono : ∀ x, mkB S.ent.length x → mkB (S.ent.length + 1) x := fun x ⟨k, e, h⟩ => ⟨k, e, by omega⟩
  obtain ⟨g1, g2⟩ := laid_ok (n := (S.ent.length : Int)) (hs2.mono hmono) hb ⟨S.ent.length, rfl, by omega⟩
  refine ⟨g1.len, ?_⟩
  have hel : (findS S key f l v strip).ent.length = S.ent.length + 1 := by show (S.ent ++ [_]).length = _; simp
  have hnd : (findS S key f l v strip).nd = S.nd + 1 := rfl
  have hhist : ∀ n, (findS S key f l v strip).hist n = if n = key then S.hist n ++ [(S.nd + 1, laidR strip f l S.ent.length)] else S.hist n := fun n => rfl
  have pre : ∀ n t d, spkN (fs ++ [⟨key, f, l, v, S.nd + 1, none⟩]) t fs.length n d = spkF fs t n d := fun n t d => by
    refine spkN_congr _ (by simp) (Nat.le_refl _) fun j r r' hj e1 e2 => ?_
    rw [List.getElem?_append_left hj, e2] at e1
    rw [Option.some.inj e1]
  have full : ∀ n t d, spkF (fs ++ [⟨key, f, l, v, S.nd + 1, none⟩]) t n d = if (⟨key, f, l, v, S.nd + 1, none⟩ : Fr).on t n d then some (fs.length : Int) else spkF fs t n d := fun n t d => by
    show spkN _ t (fs ++ [_]).length n d = _
    rw [List.length_append]
    show spkN _ t (fs.length + 1) n d = _
    rw [spkN_succ (r := ⟨key, f, l, v, S.nd + 1, none⟩) (by simp), pre]
  refine ⟨by rw [hel, b.el]; simp, fun i r h => ?_, fun i => ?_, by rw [hnd]; exact Nat.le_succ_of_le b.gl, by rw [hnd, turnF_app _ _ rfl, b.nd], fun r hr => ?_, fun r hr => ?_, fun n => ?_, fun n q hq => ?_, fun n t ht d => ?_⟩
  · show ∃ e, (S.ent ++ [_])[i]? = some e ∧ _
    by_cases hi : i < fs.length
    · rw [List.getElem?_append_left hi] at h
      obtain ⟨e, h1, h2⟩ := b.en i r h
      exact ⟨e, by rw [List.getElem?_append_left (by rw [b.el]; exact hi)]; exact h1, h2⟩
    · have hlt := (List.getElem?_eq_some_iff.mp h).1
      rw [List.length_append] at hlt
      have : i = fs.length := by simp at hlt; omega
      subst this
      rw [List.getElem?_concat_length] at h
      obtain rfl := Option.some.inj h
      exact ⟨_, by rw [← b.el, List.getElem?_concat_length], rfl, rfl, rfl, rfl⟩
  · show i ∈ S.gone.map (·.1) ↔ _
    rw [b.go i]
    constructor
    · rintro ⟨r, h1, h2⟩
      exact ⟨r, by rw [List.getElem?_append_left (List.getElem?_eq_some_iff.mp h1).1]; exact h1, h2⟩
    · rintro ⟨r, h1, h2⟩
      by_cases hi : i < fs.length
      · rw [List.getElem?_append_left hi] at h1
        exact ⟨r, h1, h2⟩
      · have hlt := (List.getElem?_eq_some_iff.mp h1).1
        rw [List.length_append] at hlt
        have : i = fs.length := by simp at hlt; omega
        subst this
        rw [List.getElem?_concat_length] at h1
        obtain rfl := Option.some.inj h1
        cases h2
  · rw [hnd]
    rcases List.mem_append.mp hr with hr | hr
    · have := b.tn r hr
      exact ⟨by omega, fun g hg => by have := this.2 g hg; omega⟩
    · rw [List.mem_singleton.mp hr]
      exact ⟨Nat.le_refl _, fun g hg => by cases hg⟩
  · rcases List.mem_append.mp hr with hr | hr
    · exact b.ky r hr
    · rw [List.mem_singleton.mp hr]
      exact ⟨hk, hb⟩
  · rw [hhist, hnd]
    split
    · exact ⟨S.hist n, _, _, rfl, by
        obtain ⟨a, b', c, e, h⟩ := b.hi n
        rw [e, List.length_append]; simp; omega⟩
    · obtain ⟨a, b', c, e, h⟩ := b.hi n
      exact ⟨a, b', c, e, by omega⟩
  · rw [hhist] at hq
    rw [hel, hnd]
    split at hq
    · rcases List.mem_append.mp hq with hq | hq
      · have := b.hg n q hq
        exact ⟨this.1.mono hmono, by omega⟩
      · rw [List.mem_singleton.mp hq]
        exact ⟨g1, Nat.le_refl _⟩
    · have := b.hg n q hq
      exact ⟨this.1.mono hmono, by omega⟩
  · rw [hnd] at ht
    rw [full, hhist]
    by_cases hn : n = key
    · subst hn
      rw [if_pos rfl, stripAt_snoc]
      by_cases ht1 : S.nd + 1 ≤ t
      · have : t = S.nd + 1 := by omega
        subst this
        rw [if_pos (Nat.le_refl _), g2 d, ← hs1, b.sp n S.nd (Nat.le_refl _) d, spkF_next b]
        have hon : (⟨n, f, l, v, S.nd + 1, none⟩ : Fr).on (S.nd + 1) n d ↔ (f ≤ d ∧ d ≤ l) := by
          unfold Fr.on Fr.kn
          simp
        by_cases c : f ≤ d ∧ d ≤ l
        · rw [if_pos c, if_pos (hon.mpr c), b.el]
        · rw [if_neg c, if_neg fun z => c (hon.mp z)]
      · rw [if_neg ht1, b.sp n t (by omega) d, if_neg]
        intro z
        have := z.1
        unfold Fr.kn at this
        rw [decide_eq_false (by dsimp only; omega)] at this
        cases this
    · rw [if_neg hn, if_neg fun z => hn z.2.1.symm]
      by_cases ht1 : S.nd + 1 ≤ t
      · have : t = S.nd + 1 := by omega
        subst this
        rw [stripAt_late (fun q hq => (b.hg n q hq).2) (Nat.le_succ _), b.sp n S.nd (Nat.le_refl _) d, spkF_next b]
      · exact b.sp n t (by omega) d
/-! ### withdrawn -/
def Fr.off (r : Fr) (t : Nat) : Fr := { r with gone := some t }
theorem turnF_set : ∀ {fs : List Fr} {i : Nat} {r : Fr} (t : Nat), fs[i]? = some r → r.gone = none → turnF (fs.set i (r.off t)) = turnF fs + 1 := by
  intro fs i r t h hg
  unfold turnF
  rw [List.length_set]
  have : ∀ {fs : List Fr} {i : Nat}, fs[i]? = some r → ((fs.set i (r.off t)).filter fun r => r.gone.isSome).length = (fs.filter fun r => r.gone.isSome).length + 1 := by
    intro fs
    induction fs with
    | nil => intro i h; simp at h
    | cons a fs ih =>
      intro i h
      cases i with
      | zero =>
        simp at h
        subst h
        rw [List.set_cons_zero, List.filter_cons, List.filter_cons]
        simp [Fr.off, hg]
      | succ i =>
        have := ih (i := i) (by simpa using h)
        rw [List.set_cons_succ, List.filter_cons, List.filter_cons]
        split
        · simp [this]
        · exact this
  rw [this h]
  omega
theorem relay_ok {S : Bk} {fs : List Fr} (b : BI S fs) {i : Nat} {r : Fr} (hi : fs[i]? = some r) (hg : r.gone = none) (key : Str) : ∀ j : Nat, j ≤ fs.length → StG (mkB S.ent.length) (relayN S.ent (S.gone.map (·.1) ++ [i]) key j) ∧ ∀ d, markF (relayN S.ent (S.gone.map (·.1) ++ [i]) key j) d = spkN (fs.set i (r.off (S.nd + 1))) (S.nd + 1) j key d
  | 0, _ => by
    have e : relayN S.ent (S.gone.map (·.1) ++ [i]) key 0 = [] := by unfold relayN; simp
    rw [e]
    exact ⟨StG.nil, fun d => by rw [spkN_zero]; rfl⟩
  | j + 1, h => by
    obtain ⟨ih1, ih2⟩ := relay_ok b hi hg key j (by omega)
    have hrj : fs[j]? = some fs[j] := List.getElem?_eq_getElem h
    obtain ⟨e, he, k1, k2, k3, k4⟩ := b.en j _ hrj
    obtain ⟨t1, t2⟩ := b.tn _ (List.getElem_mem h)
    obtain ⟨_, o1, o2, o3⟩ := b.ky _ (List.getElem_mem h)
    have hgo := b.go j
    rw [relayN_succ he]
    obtain ⟨r', hr', hkey, hf, hl, hkn⟩ : ∃ r', (fs.set i (r.off (S.nd + 1)))[j]? = some r' ∧ r'.key = (fs[j]).key ∧ r'.f = (fs[j]).f ∧ r'.l = (fs[j]).l ∧ (r'.kn (S.nd + 1) = true ↔ j ∉ S.gone.map (·.1) ++ [i]) := by
      by_cases hij : i = j
      · subst hij
        have e2 : r = fs[i] := by rw [hi] at hrj; exact Option.some.inj hrj
        refine ⟨r.off (S.nd + 1), List.getElem?_set_self h, by rw [e2]; rfl, by rw [e2]; rfl, by rw [e2]; rfl, ?_⟩
        constructor
        · intro z
          unfold Fr.kn Fr.off at z
          simp at z
        · intro z
          exact absurd (by simp) z
      · refine ⟨fs[j], by rw [List.getElem?_set_ne hij]; exact hrj, rfl, rfl, rfl, ?_⟩
        rw [List.mem_append, hgo]
        have hne : ¬ j ∈ [i] := by simp; omega
        unfold Fr.kn
        rw [decide_eq_true (show (fs[j]).turn ≤ S.nd + 1 by omega)]
        cases hgj : (fs[j]).gone with
        | none =>
          simp only [Bool.true_and]
          constructor
          · rintro _ (⟨r2, h2, h3⟩ | z)
            · rw [hrj] at h2
              rw [← Option.some.inj h2, hgj] at h3
              cases h3
            · exact hne z
          · intro _; first | rfl | trivial | simp
        | some g =>
          have := t2 g hgj
          constructor
          · intro z
            simp at z
            omega
          · intro z
            exact absurd (.inl ⟨_, hrj, by rw [hgj]; rfl⟩) z
    by_cases c : e.key = key ∧ j ∉ S.gone.map (·.1) ++ [i]
    · rw [if_pos c]
      have hjl : j < S.ent.length := by rw [b.el]; exact h
      obtain ⟨g1, g2⟩ := laid_ok (n := (j : Int)) (f := e.f) (l := e.l) ih1 (by rw [k2, k3]; exact ⟨o1, o2, o3⟩) ⟨j, rfl, hjl⟩
      refine ⟨g1, fun d => ?_⟩
      rw [g2 d, spkN_succ hr', ih2 d]
      have hon : r'.on (S.nd + 1) key d ↔ (e.f ≤ d ∧ d ≤ e.l) := by
        unfold Fr.on
        rw [hkn, hkey, hf, hl, ← k1, ← k2, ← k3]
        exact ⟨fun z => z.2.2, fun z => ⟨c.2, c.1, z⟩⟩
      by_cases c2 : e.f ≤ d ∧ d ≤ e.l
      · rw [if_pos c2, if_pos (hon.mpr c2)]
      · rw [if_neg c2, if_neg fun z => c2 (hon.mp z)]
    · rw [if_neg c]
      refine ⟨ih1, fun d => ?_⟩
      rw [spkN_succ hr', ih2 d, if_neg]
      rintro ⟨z1, z2, z3⟩
      exact c ⟨by rw [k1, ← hkey]; exact z2, hkn.mp z1⟩
theorem BI.drop {S : Bk} {fs : List Fr} (b : BI S fs) {i : Nat} {r : Fr} {e : Ent} (hi : fs[i]? = some r) (hg : r.gone = none) (he : S.ent[i]? = some e) : BI (dropS S i e) (fs.set i (r.off (S.nd + 1))) := by
  have hlt : i < fs.length := (List.getElem?_eq_some_iff.mp hi).1
  have hnd : (dropS S i e).nd = S.nd + 1 := rfl
  have hent : (dropS S i e).ent = S.ent := rfl
  have hhist : ∀ n, (dropS S i e).hist n = if n = e.key then S.hist n ++ [(S.nd + 1, relay S.ent (S.gone.map (·.1) ++ [i]) e.key)] else S.hist n := fun n => rfl
  have hgone : (dropS S i e).gone.map (·.1) = S.gone.map (·.1) ++ [i] := by show (S.gone ++ [(i, S.nd + 1)]).map (·.1) = _; rw [List.map_append]; rfl
  obtain ⟨e', he', k1, k2, k3, k4⟩ := b.en i r hi
  obtain rfl : e = e' := by rw [he] at he'; exact Option.some.inj he'
  have rel := relay_ok b hi hg e.key fs.length (Nat.le_refl _)
  rw [← b.el, relayN_all] at rel
  obtain ⟨g1, g2⟩ := rel
  have at_ : ∀ j r', (fs.set i (r.off (S.nd + 1)))[j]? = some r' → (j = i ∧ r' = r.off (S.nd + 1)) ∨ (j ≠ i ∧ fs[j]? = some r') := fun j r' h => by
    by_cases hj : i = j
    · subst hj
      rw [List.getElem?_set_self hlt] at h
      exact .inl ⟨rfl, (Option.some.inj h).symm⟩
    · rw [List.getElem?_set_ne hj] at h
      exact .inr ⟨fun z => hj z.symm, h⟩
  obtain ⟨rt1, rt2⟩ := b.tn r (List.mem_of_getElem? hi)
  have old : ∀ n t d, t ≤ S.nd → spkF (fs.set i (r.off (S.nd + 1))) t n d = spkF fs t n d := fun n t d ht => by
    show spkN _ t (fs.set i _).length n d = _
    rw [List.length_set]
    refine spkN_congr _ (by simp) (Nat.le_refl _) fun j r1 r2 hj e1 e2 => ?_
    rcases at_ j r1 e1 with ⟨rfl, rfl⟩ | ⟨hne, h3⟩
    · rw [hi] at e2
      obtain rfl := Option.some.inj e2
      have : (r.off (S.nd + 1)).kn t = r.kn t := by
        unfold Fr.kn Fr.off
        rw [hg]
        simp
        omega
      unfold Fr.on
      rw [this]
      exact Iff.rfl
    · rw [h3] at e2
      rw [Option.some.inj e2]
  refine ⟨by rw [hent, b.el]; simp, fun j r' h => ?_, fun j => ?_, by rw [hnd]; show (S.gone ++ [_]).length ≤ _; rw [List.length_append]; exact Nat.succ_le_succ b.gl, by rw [hnd, turnF_set _ hi hg, b.nd], fun r' hr => ?_, fun r' hr => ?_, fun n => ?_, fun n q hq => ?_, fun n t ht d => ?_⟩
  · rw [hent]
    rcases at_ j r' h with ⟨rfl, rfl⟩ | ⟨_, h⟩
    · exact ⟨e, he, k1, k2, k3, k4⟩
    · exact b.en j r' h
  · rw [hgone, List.mem_append, b.go j, List.mem_singleton]
    constructor
    · rintro (⟨r2, h1, h2⟩ | rfl)
      · by_cases hj : i = j
        · subst hj
          exact ⟨_, List.getElem?_set_self hlt, rfl⟩
        · exact ⟨r2, by rw [List.getElem?_set_ne hj]; exact h1, h2⟩
      · exact ⟨_, List.getElem?_set_self hlt, rfl⟩
    · rintro ⟨r2, h1, h2⟩
      rcases at_ j r2 h1 with ⟨rfl, rfl⟩ | ⟨_, h⟩
      · exact .inr rfl
      · exact .inl ⟨r2, h, h2⟩
  · rw [hnd]
    obtain ⟨j, hj⟩ := List.mem_iff_getElem?.mp hr
    rcases at_ j r' hj with ⟨rfl, rfl⟩ | ⟨_, h⟩
    · exact ⟨Nat.le_succ_of_le rt1, fun g hg => by
        have : some (S.nd + 1) = some g := hg
        have := Option.some.inj this
        omega⟩
    · have := b.tn r' (List.mem_of_getElem? h)
      exact ⟨by omega, fun g hg => by have := this.2 g hg; omega⟩
  · obtain ⟨j, hj⟩ := List.mem_iff_getElem?.mp hr
    rcases at_ j r' hj with ⟨rfl, rfl⟩ | ⟨_, h⟩
    · exact b.ky r (List.mem_of_getElem? hi)
    · exact b.ky r' (List.mem_of_getElem? h)
  · rw [hhist, hnd]
    split
    · exact ⟨S.hist n, _, _, rfl, by
        obtain ⟨a, b', c, e, h⟩ := b.hi n
        rw [e, List.length_append]; simp; omega⟩
    · obtain ⟨a, b', c, e, h⟩ := b.hi n
      exact ⟨a, b', c, e, by omega⟩
  · rw [hhist] at hq
    rw [hent, hnd]
    split at hq
    · rcases List.mem_append.mp hq with hq | hq
      · have := b.hg n q hq
        exact ⟨this.1, by omega⟩
      · rw [List.mem_singleton.mp hq]
        exact ⟨g1, Nat.le_refl _⟩
    · have := b.hg n q hq
      exact ⟨this.1, by omega⟩
  · rw [hnd] at ht
    rw [hhist]
    by_cases ht1 : S.nd + 1 ≤ t
    · have : t = S.nd + 1 := by omega
      subst this
      by_cases hn : n = e.key
      · subst hn
        rw [if_pos rfl, stripAt_snoc, if_pos (Nat.le_refl _), g2 d, b.el]
        show _ = spkN _ _ (fs.set i _).length _ _
        rw [List.length_set]
      · rw [if_neg hn, stripAt_late (fun q hq => (b.hg n q hq).2) (Nat.le_succ _), b.sp n S.nd (Nat.le_refl _) d, ← spkF_next b]
        show _ = spkN _ _ (fs.set i _).length _ _
        rw [List.length_set]
        refine spkN_congr _ (Nat.le_refl _) (by simp) fun j r1 r2 hj e1 e2 => ?_
        rcases at_ j r2 e2 with ⟨rfl, rfl⟩ | ⟨hne, h3⟩
        · rw [hi] at e1
          obtain rfl := Option.some.inj e1
          constructor
          · rintro ⟨_, z, _⟩
            exact absurd (z.symm.trans k1.symm) hn
          · rintro ⟨_, z, _⟩
            have z : r.key = n := z
            exact absurd (z.symm.trans k1.symm) hn
        · rw [h3] at e1
          rw [Option.some.inj e1]
    · rw [old n t d (by omega), ← b.sp n t (by omega) d]
      split
      · rw [stripAt_snoc, if_neg ht1]
      · rfl
theorem BI.drop_len {S : Bk} {fs : List Fr} (b : BI S fs) {i : Nat} {r : Fr} {e : Ent} (hi : fs[i]? = some r) (hg : r.gone = none) (key : Str) (j : Nat) : (relayN S.ent (S.gone.map (·.1) ++ [i]) key j).length ≤ 400 := by
  by_cases h : j ≤ fs.length
  · exact (relay_ok b hi hg key j h).1.len
  · have e : relayN S.ent (S.gone.map (·.1) ++ [i]) key j = relayN S.ent (S.gone.map (·.1) ++ [i]) key fs.length := by
      unfold relayN
      rw [List.take_of_length_le (by rw [List.length_zipIdx, b.el]; omega), List.take_of_length_le (by rw [List.length_zipIdx, b.el]; omega)]
    rw [e]
    exact (relay_ok b hi hg key fs.length (Nat.le_refl _)).1.len
/-! ### and what is told -/
theorem BI.spk {S : Bk} {fs : List Fr} (b : BI S fs) {t : Option Nat} (ht : turnV S.nd t ≤ S.nd) : spkS S t = spkF fs (turnV S.nd t) := by
  funext n d
  exact b.sp n _ ht d
theorem BI.tell {S : Bk} {fs : List Fr} (b : BI S fs) {t : Option Nat} (ht : turnV S.nd t ≤ S.nd) : tellS S t = valF fs (turnV S.nd t) := by
  funext n d
  unfold tellS valF valN
  rw [b.spk ht]
  show (spkF fs _ n d).bind _ = (spkF fs _ n d).bind _
  cases hs : spkF fs (turnV S.nd t) n d with
  | none => rfl
  | some k =>
    obtain ⟨j, r, rfl, hj, hr, _⟩ := spkN_some (Nat.le_refl _) hs
    obtain ⟨e, he, _, _, _, hv⟩ := b.en j r hr
    simp only [Option.bind_some, Int.toNat_natCast, hr, he, Option.map_some, hv]
theorem BI.bkg {S : Bk} {fs : List Fr} (b : BI S fs) : BkG S := by
  refine ⟨fun n q hq r hr => ?_, fun n q hq r hr => ?_⟩
  · have := (b.hg n q hq).1.g.a r hr
    omega
  · exact (b.hg n q hq).1.g.m r hr
end
/-! ### text P6 -/
set_option maxHeartbeats 4000000
section
open PySem PySem.Spec PyProof.Rows L2 TL
/-! ### what was known at earlier turns stays -/
theorem spk_lt {fs : List Fr} {t : Nat} {n : Str} {d k : Int} (h : spkF fs t n d = some k) : ∃ (j : Nat) (r : Fr), k = (j : Int) ∧ fs[j]? = some r := by
  obtain ⟨j, r, h1, h2, h3, h4⟩ := spkN_some (Nat.le_refl _) h
  exact ⟨j, r, h1, h3⟩
theorem val_of_spk {fs fs' : List Fr} {t : Nat} (h : spkF fs' t = spkF fs t) (hv : ∀ (j : Nat) r, fs[j]? = some r → ∃ r', fs'[j]? = some r' ∧ r'.v = r.v) : valF fs' t = valF fs t := by
  funext n d
  show (spkF fs' t n d).bind _ = (spkF fs t n d).bind _
  rw [h]
  cases hs : spkF fs t n d with
  | none => rfl
  | some k =>
    obtain ⟨j, r, rfl, hr⟩ := spk_lt hs
    obtain ⟨r', hr', e⟩ := hv j r hr
    simp only [Option.bind_some, Int.toNat_natCast, hr, hr', Option.map_some, e]
theorem old_app {fs : List Fr} {r : Fr} {t : Nat} (h : t < r.turn) : spkF (fs ++ [r]) t = spkF fs t ∧ valF (fs ++ [r]) t = valF fs t := by
  have h1 : spkF (fs ++ [r]) t = spkF fs t := by
    funext n d
    show spkN _ t (fs ++ [r]).length n d = _
    rw [List.length_append]
    show spkN _ t (fs.length + 1) n d = _
    rw [spkN_succ (r := r) (by simp), if_neg]
    · refine spkN_congr _ (by simp) (Nat.le_refl _) fun j r1 r2 hj e1 e2 => ?_
      rw [List.getElem?_append_left hj, e2] at e1
      rw [Option.some.inj e1]
    · intro z
      have := z.1
      unfold Fr.kn at this
      rw [decide_eq_false (by omega)] at this
      cases this
  exact ⟨h1, val_of_spk h1 fun j r' hr => ⟨r', by rw [List.getElem?_append_left (List.getElem?_eq_some_iff.mp hr).1]; exact hr, rfl⟩⟩
theorem old_set {fs : List Fr} {i : Nat} {r : Fr} {t T : Nat} (hi : fs[i]? = some r) (hg : r.gone = none) (ht : t < T) : spkF (fs.set i (r.off T)) t = spkF fs t ∧ valF (fs.set i (r.off T)) t = valF fs t := by
  have hlt : i < fs.length := (List.getElem?_eq_some_iff.mp hi).1
  have h1 : spkF (fs.set i (r.off T)) t = spkF fs t := by
    funext n d
    show spkN _ t (fs.set i _).length n d = _
    rw [List.length_set]
    refine spkN_congr _ (by simp) (Nat.le_refl _) fun j r1 r2 hj e1 e2 => ?_
    by_cases hij : i = j
    · subst hij
      rw [List.getElem?_set_self hlt] at e1
      rw [hi] at e2
      obtain rfl := Option.some.inj e1
      obtain rfl := Option.some.inj e2
      have : (r.off T).kn t = r.kn t := by
        unfold Fr.kn Fr.off
        rw [hg]
        simp
        omega
      unfold Fr.on
      rw [this]
      exact Iff.rfl
    · rw [List.getElem?_set_ne hij, e2] at e1
      rw [Option.some.inj e1]
  refine ⟨h1, val_of_spk h1 fun j r' hr => ?_⟩
  by_cases hij : i = j
  · subst hij
    rw [hi] at hr
    obtain rfl := Option.some.inj hr
    exact ⟨_, List.getElem?_set_self hlt, rfl⟩
  · exact ⟨r', by rw [List.getElem?_set_ne hij]; exact hr, rfl⟩
/-- the rows that are not withdrawn -/
def leftF (fs : List Fr) : List Nat := (List.range fs.length).filter fun i => match fs[i]? with | some r => r.gone.isNone | none => false
theorem leftF_mem {fs : List Fr} {i : Nat} (h : i ∈ leftF fs) : ∃ r, fs[i]? = some r ∧ r.gone = none := by
  unfold leftF at h
  obtain ⟨h1, h2⟩ := List.mem_filter.mp h
  have hi := List.mem_range.mp h1
  rw [List.getElem?_eq_getElem hi] at h2
  exact ⟨fs[i], List.getElem?_eq_getElem hi, Option.isNone_iff_eq_none.mp h2⟩
end
/-! ### text E15 -/
set_option maxHeartbeats 4000000
section
open PySem PySem.Spec PyProof.Rows L2 TL
variable {B : Bs}
theorem perm_in {α : Type} (a b : α) (P R : List α) : (a :: (P ++ b :: R)).Perm (b :: a :: (P ++ R)) := (List.perm_middle.cons a).trans (List.Perm.swap _ _ _)
theorem fpts_snoc (fa : Addr) (rs : List (Addr × Fr)) (ra : Addr) (r : Fr) (P m : List (Addr × HO)) :
    ((fa, HO.lst ((rs ++ [(ra, r)]).map fun q => .ref q.1)) :: (ra, frO r) :: (P ++ ((rs.map fun q => (q.1, frO q.2)) ++ m))).Perm (P ++ (fpts fa (rs ++ [(ra, r)]) ++ m)) := by
  have h1 : ((ra, frO r) :: (P ++ ((rs.map fun q => (q.1, frO q.2)) ++ m))).Perm (P ++ (((rs ++ [(ra, r)]).map fun q => (q.1, frO q.2)) ++ m)) := by
    rw [List.map_append, List.append_assoc, ← List.append_assoc P, ← List.append_assoc P]
    exact List.perm_middle.symm
  refine (h1.cons _).trans ?_
  exact List.perm_middle.symm
theorem gone_len : ∀ rs : List (Addr × Fr), ((rs.filterMap fun q => if q.2.gone.isSome then some (V.ref q.1) else none)).length = ((rs.map (·.2)).filter fun r => r.gone.isSome).length
  | [] => rfl
  | a :: rs => by
    have ih := gone_len rs
    rw [List.filterMap_cons, List.map_cons, List.filter_cons]
    cases a.2.gone with
    | none => simpa using ih
    | some x => simpa using ih
structure DeedOk (B : Bs) (p : Bp) (S : Bk) (fa : Addr) (rs : List (Addr × Fr)) (m : List (Addr × HO)) (G H : Hp) : Prop where
  bi : BI S (rs.map (·.2))
  bk : BkR p S G
  h : Hs B (p.pts B S ++ (fpts fa rs ++ m)) G H
def pDeed (B : Bs) : V → V → V → V → V → Hp → VK → Prop := fun a b c d e H Q => ∃ (p : Bp) (S : Bk) (fa : Addr) (rs : List (Addr × Fr)) (cc : Int) (na wa : Addr) (w0 wd : Int) (m : List (Addr × HO)) (G : Hp), a = .ref p.b ∧ b = .ref fa ∧ c = .int cc ∧ d = .ref na ∧ e = .ref wa ∧ G na = some (.lst (S.ns.map V.str)) ∧ 1 ≤ S.ns.length ∧ S.ns.length ≤ 8 ∧ G wa = some (.tup [.int w0, .int wd]) ∧ WinOk w0 wd ∧ S.nd ≤ 15 ∧ DeedOk B p S fa rs m G H ∧
  ∀ p' S' rs' G' H', p'.b = p.b → S'.ns = S.ns → Same G G' → S'.nd = S.nd + 1 → (∀ t, t ≤ S.nd → spkF (rs'.map (·.2)) t = spkF (rs.map (·.2)) t ∧ valF (rs'.map (·.2)) t = valF (rs.map (·.2)) t) → DeedOk B p' S' fa rs' m G' H' → Q .non H'
theorem law_deed (E : Ev B) : Fn B 5 "_law_deed" (Sp5 (pDeed B)) [] := by
  have f1 := law_begun E
  have f2 := law_pull E
  have f3 := law_days E
  have f4 := law_amount E
  refine E.fn 96 rfl rfl rfl rfl (N := ["_law_book", "_law_found", "_law_cell_here", "_law_names_here", "_law_window_here", "_law_state", "_law_turn", "_law_left", "_law_number", "_law_key", "_law_first", "_law_last", "_law_amount_here", "_law_row_here"]) (n := 13) (ps := ["_law_book", "_law_found", "_law_cell_here", "_law_names_here", "_law_window_here"]) (gs := ["_law_begun", "len", "enumerate", "_law_pull", "min", "_law_days", "_law_amount"]) (by decide +kernel) len5 (by ktf_call "b5") ?_
  intro X vs0 H Q E1 g h
  obtain ⟨_, _, _, _, _, rfl, p, S, fa, rs, cc, na, wa, w0, wd, m, G, rfl, rfl, rfl, rfl, rfl, hna, hn1, hn8, hwa, hwo, hnd, ⟨bi, bk, hS0⟩, k⟩ := h
  have hfs : (rs.map (·.2)).length ≤ 15 := by
    have := bi.nd
    unfold turnF at this
    omega
  have hrs : rs.length ≤ 15 := by rw [List.length_map] at hfs; exact hfs
  have hm : ∀ q ∈ fpts fa rs, q ∈ p.pts B S ++ (fpts fa rs ++ m) := fun q hq => List.mem_append_right _ (List.mem_append_left _ hq)
  show WSs X _ _ [some (.ref p.b), some (.ref fa), some (.int cc), some (.ref na), some (.ref wa), none, none, none, none, none, none, none, none, none] H
  ktf_call "us"
  refine ⟨cc, _, G, rfl, hS0, fun st H1 ⟨x, y, z, hS⟩ => ?_⟩
  have hm1 : ∀ (u : Addr × HO) q, q ∈ fpts fa rs → q ∈ u :: (p.pts B S ++ (fpts fa rs ++ m)) := fun u q hq => List.mem_cons_of_mem _ (hm q hq)
  have hm2 : ∀ (u w : Addr × HO) q, q ∈ fpts fa rs → q ∈ u :: w :: (p.pts B S ++ (fpts fa rs ++ m)) := fun u w q hq => List.mem_cons_of_mem _ (hm1 w q hq)
  have hfa := fpts_fa (hm1 _) hS
  ktf_call "us"
  refine wcl_lenL g (sql hfa) ?_
  ktf_call "us"
  refine we_lc g [("_law_row_here", 13)] [false, false, false, false, false, false, false, false, false, false, false, false, false, true] [false, false, false, false, false, false, false, false, false, false, false, false, false, true] [] (by decide +kernel) (by decide) (wi_l g ?_)
  ktf_call "us"
  refine ⟨fa, _, rfl, sql hfa, ?_⟩
  refine lcb_v rs (fun q => if q.2.gone.isSome then some (.ref q.1) else none) hS (by simp) (by rw [List.length_map]; exact Nat.le_trans hrs (by decide)) (fun _ _ _ _ e h => sql (fpts_fa (hm2 _ _) h)) ?_ ?_
  · rintro i q D G' vs' H' x H'' hs e1 hS1 ⟨rfl, hx⟩ Z gZ
    rw [List.getElem?_map, hs] at hx
    obtain rfl := Option.some.inj hx
    obtain ⟨ra, r⟩ := q
    have hra := fpts_at (hm2 _ _) hS1 hs
    ktf_call "w"
    ktf_call "us"
    refine ⟨rfl, fun Z gZ => ?_⟩
    ktf_call "us"
    refine wx_l gZ (sql hra) (at_nat 5 rfl rfl) ?_
    cases hgn : r.gone with
    | none =>
      unfold tV
      ktf_call "us"
      exact ⟨by simp [hgn], G', Same.refl _, hS1⟩
    | some gn =>
      unfold tV
      ktf_call "us"
      exact ⟨by simp [hgn], G', Same.refl _, hS1⟩
  intro D G1 H2 e1 hS1
  ktf_call "us"
  refine wcl_lenL g (sql hS1.a0) ?_
  rw [gone_len]
  have hS2 := hS1.drop
  have hT : ((rs.map fun q => V.ref q.1).length : Int) + (((rs.map (·.2)).filter fun r => r.gone.isSome).length : Int) + 1 = ((S.nd + 1 : Nat) : Int) := by
    rw [bi.nd]
    unfold turnF
    simp
  ktf_call "us"
  rw [hT]
  ktf_call "us"
  refine wss_cons (ws_lcL g 7 [("_law_number", 8), ("_law_row_here", 13)] [false, false, false, false, false, false, false, false, true, false, false, false, false, true] [false, false, false, false, false, false, false, false, true, false, false, false, false, true] [] rfl (by decide +kernel) (by decide) rfl (wi_e g (by ktf_call "gm") E.f_enumerate ?_))
  ktf_call "us"
  refine ⟨fa, _, rfl, sql (fpts_fa (hm1 _) hS2), ?_⟩
  refine lcb_v (List.range rs.length) (fun i : Nat => if (match (rs.map (·.2))[i]? with | some r => r.gone.isNone | none => false) = true then some (V.int i) else none) hS2 (by simp) (by rw [List.length_map]; exact Nat.le_trans hrs (by decide)) (fun _ _ _ _ e h => sql (fpts_fa (hm2 _ _) h)) ?_ ?_
  · rintro i j D G' vs' H' v H'' hs e2 hS3 ⟨T, y', rfl, hT', rfl, hy⟩ Z gZ
    have hi : i < rs.length := by simpa using (List.getElem?_eq_some_iff.mp hs).1
    rw [List.getElem?_range hi] at hs
    obtain rfl := Option.some.inj hs
    obtain ⟨⟨ra, r⟩, hri⟩ : ∃ q, rs[i]? = some q := ⟨_, List.getElem?_eq_getElem hi⟩
    rw [List.getElem?_map, hri] at hy
    obtain rfl := Option.some.inj hy
    obtain ⟨hS4, e4⟩ := (hS3.new (u := .tup [.int i, .ref ra]) hT' rfl).freeze
    have hT3 := hS4.g T _ upd_same
    generalize upd G' T (.tup [.int i, .ref ra]) = G4 at hS4 e4
    generalize upd H' T (.tup [.int i, .ref ra]) = H4 at hS4 hT3 ⊢
    have hra := fpts_at (hm2 _ _) hS4 hri
    have hmt : (rs.map (·.2))[i]? = some r := by rw [List.getElem?_map, hri]; rfl
    ktf_call "w"
    ktf_call "us"
    refine ⟨rfl, fun Z gZ => ?_⟩
    ktf_call "us"
    refine wx_l gZ (sql hra) (at_nat 5 rfl rfl) ?_
    cases hgn : r.gone with
    | none =>
      unfold tV
      ktf_call "us"
      exact ⟨by rw [hmt]; simp [hgn], G4, e4, hS4⟩
    | some gn =>
      unfold tV
      ktf_call "us"
      exact ⟨by rw [hmt]; simp [hgn], G4, e4, hS4⟩
  intro D2 G2 H3 e2 hS3
  have el2 : ((List.range rs.length).filterMap fun i : Nat => if (match (rs.map (·.2))[i]? with | some r => r.gone.isNone | none => false) = true then some (V.int i) else none) = ((leftF (rs.map (·.2))).map fun i : Nat => (i : Int)).map V.int := by
    refine (fm_ite (fun i : Nat => (match (rs.map (·.2))[i]? with | some r => r.gone.isNone | none => false) = true) (fun i : Nat => V.int i) _).trans ?_
    unfold leftF
    rw [List.length_map, List.map_map]
    simp only [Bool.decide_eq_true]
    rfl
  rw [el2] at hS3
  obtain ⟨hS4, e4⟩ := hS3.freeze
  have hD2 : upd G2 D2 (.lst (((leftF (rs.map (·.2))).map fun i : Nat => (i : Int)).map V.int)) D2 = some (.lst (((leftF (rs.map (·.2))).map fun i : Nat => (i : Int)).map V.int)) := upd_same
  generalize upd G2 D2 (.lst (((leftF (rs.map (·.2))).map fun i : Nat => (i : Int)).map V.int)) = G3 at hS4 e4 hD2
  have e03 : Same G G3 := e1.trans (e2.trans e4)
  have hll : (leftF (rs.map (·.2))).length ≤ 15 := Nat.le_trans (List.length_filter_le _ _) (by rw [List.length_range]; exact hfs)
  have hlm : ∀ i ∈ leftF (rs.map (·.2)), ∃ r, (rs.map (·.2))[i]? = some r ∧ r.gone = none := fun i hi => leftF_mem hi
  generalize leftF (rs.map (·.2)) = lf at hD2 hll hlm
  have bk3 := bk.up e03
  ktf_call "w"
  ktf_call "us"
  refine wss_cut (fun σ' H' => σ' = [some (.ref p.b), some (.ref fa), some (.int cc), some (.ref na), some (.ref wa), some (.ref st), some (.int ((S.nd + 1 : Nat) : Int)), some (.ref D2), none, none, none, none, none, none] ∧ DrS B st (p.pts B S ++ (fpts fa rs ++ m)) G3 H') ?_ ?_
  · refine ws_if ?_
    ktf_call "us"
    refine nl_m hS4 (by decide) fun q5 H5 hS5 => ?_
    refine wc_neNil g (sql (hS5.g _ _ hD2)) (dpa_ints _) (shaped_ints _) (sql hS5.a0) ?_
    have hS6 := hS5.drop
    ktf_call "us"
    cases hlf : lf with
    | nil =>
      refine iteBF rfl ?_
      ktf_call "us"
      exact ⟨rfl, x, y, z, hS6⟩
    | cons l0 lt =>
      refine iteBT rfl ?_
      have hD2' : G3 D2 = some (.lst ((lf.map fun i : Nat => (i : Int)).map V.int)) := hD2
      have hl0 : 0 < lf.length := by rw [hlf]; simp
      clear hlf hD2
      ktf_call "us"
      refine ⟨st, 4, _, G3, rfl, rfl, by decide, by decide, .mk hS6, fun r H7 hr0 hr ⟨x7, y7, z7, hS7⟩ => ?_⟩
      ktf_call "us"
      refine iteD (fun _ => ?_) (fun _ => ?_)
      rotate_left
      · ktf_call "us"
        exact ⟨rfl, x7, y7, z7, hS7⟩
      ktf_call "us"
      refine wcl_lenL g (sql (hS7.g _ _ hD2')) ?_
      rw [List.length_map, List.length_map]
      ktf_call "us"
      refine ⟨st, _, _, G3, rfl, rfl, by omega, by omega, .mk hS7, fun r8 H8 hr80 hr8 ⟨x8, y8, z8, hS8⟩ => ?_⟩
      obtain ⟨j, rfl⟩ : ∃ i : Nat, r8 = (i : Int) := ⟨r8.toNat, by omega⟩
      have hj : j < lf.length := by omega
      refine wx_l g (sql (hS8.g _ _ hD2')) (v := .int (lf[j] : Nat)) (at_nat j rfl (by rw [List.getElem?_map, List.getElem?_map, List.getElem?_eq_getElem hj]; rfl)) ?_
      obtain ⟨rr, hrr, hgn⟩ := hlm lf[j] (List.getElem_mem hj)
      generalize lf[j] = i0 at hrr
      obtain ⟨⟨ra, rr'⟩, hri, e0⟩ := Option.map_eq_some_iff.mp (by rw [List.getElem?_map] at hrr; exact hrr)
      obtain rfl : rr' = rr := e0
      obtain ⟨e, he, k1, k2, k3, k4⟩ := bi.en i0 _ hrr
      obtain ⟨hky, hrok⟩ := bi.ky _ (List.mem_of_getElem? hrr)
      have hS9 := hS8.perm (List.perm_middle (l₁ := p.pts B S) (l₂ := fpts fa rs ++ m)).symm
      have ho9 : H8 p.b = some (bkO B p) := hS9.at (q := (p.b, bkO B p)) (by simp [Bp.pts])
      ktf_call "us"
      refine ⟨p.b, _, p.dx, _, rfl, ho9, by rfl, 4, _, [], withdraw_ E, by decide, ?_⟩
      ktf_call "us"
      refine ⟨p, S, _, G3, i0, e, rfl, rfl, he, by rw [k1]; exact hky, fun hgo => ?_, by omega, Nat.lt_of_le_of_lt bi.gl (by omega), ?_, fun jj => bi.drop_len (e := e) hrr hgn _ jj, bk3, hS9, fun p' G10 H10 eb e10 bk10 hS10 => ?_⟩
      · obtain ⟨r2, h1, h2⟩ := (bi.go i0).mp hgo
        rw [hrr] at h1
        rw [← Option.some.inj h1, hgn] at h2
        cases h2
      · obtain ⟨h0, t0, sp, e1, e2⟩ := bi.hi e.key
        rw [e1, List.length_append]
        simp
        omega
      have hmm : ∀ q ∈ fpts fa rs, q ∈ p'.pts B (dropS S i0 e) ++ (st, stO x8 y8 z8) :: (fpts fa rs ++ m) := fun q hq => List.mem_append_right _ (List.mem_cons_of_mem _ (List.mem_append_left _ hq))
      have hfa10 := fpts_fa hmm hS10
      have hra10 := fpts_at hmm hS10 hri
      ktf_call "us"
      refine wx_l g (sql hfa10) (v := .ref ra) (at_nat i0 rfl (by rw [List.getElem?_map, hri]; rfl)) ?_
      ktf_call "us"
      refine wst_l (k := 5) hra10 rfl ?_
      have hidx : (p'.pts B (dropS S i0 e) ++ (st, stO x8 y8 z8) :: (fpts fa rs ++ m))[(p'.pts B (dropS S i0 e)).length + (i0 + 2)]? = some (ra, frO rr') := by
        rw [List.getElem?_append_right (by omega), Nat.add_sub_cancel_left]
        show (((rs.map fun q => (q.1, frO q.2)) ++ m))[i0]? = _
        rw [List.getElem?_append_left (by rw [List.length_map]; exact (List.getElem?_eq_some_iff.mp hri).1), List.getElem?_map, hri]
        rfl
      have hS11 := hS10.setI hidx (u' := frO (rr'.off (S.nd + 1))) rfl
      have hset : (p'.pts B (dropS S i0 e) ++ (st, stO x8 y8 z8) :: (fpts fa rs ++ m)).set ((p'.pts B (dropS S i0 e)).length + (i0 + 2)) (ra, frO (rr'.off (S.nd + 1))) = p'.pts B (dropS S i0 e) ++ (st, stO x8 y8 z8) :: (fpts fa (rs.set i0 (ra, rr'.off (S.nd + 1))) ++ m) := by
        rw [List.set_append_right _ _ (by omega), Nat.add_sub_cancel_left]
        congr 1
        show (st, stO x8 y8 z8) :: (fa, HO.lst (rs.map fun q => V.ref q.1)) :: ((rs.map fun q => (q.1, frO q.2)) ++ m).set i0 (ra, frO (rr'.off (S.nd + 1))) = _
        rw [List.set_append_left _ _ (by rw [List.length_map]; exact (List.getElem?_eq_some_iff.mp hri).1)]
        unfold fpts
        rw [List.map_set, List.map_set]
        congr 2
        rw [list_set_self]
        rw [List.getElem?_map, hri]; rfl
      rw [hset] at hS11
      have hS12 := (hS11.perm (List.perm_middle (l₁ := p'.pts B (dropS S i0 e)))).drop
      have hmap : (rs.set i0 (ra, rr'.off (S.nd + 1))).map (·.2) = (rs.map (·.2)).set i0 (rr'.off (S.nd + 1)) := List.map_set
      ktf_call "us"
      refine k p' (dropS S i0 e) (rs.set i0 (ra, rr'.off (S.nd + 1))) G10 _ eb rfl (e03.trans e10) rfl (fun t ht => ?_) ⟨?_, bk10, hS12⟩
      · rw [hmap]
        exact old_set hrr hgn (by omega)
      · rw [hmap]
        exact bi.drop hrr hgn he
  · rintro _ H5 ⟨rfl, x5, y5, z5, hS5⟩
    have hna3 := e03 _ _ hna
    have hwa3 := e03 _ _ hwa
    have hnl : (S.ns.map V.str).length = S.ns.length := List.length_map _
    ktf_call "us"
    refine wcl_lenL g (sql (hS5.g _ _ hna3)) ?_
    ktf_call "us"
    refine wcl_lenL g (sql (hS5.g _ _ hna3)) ?_
    ktf_call "us"
    refine wcl_min2 g ?_
    rw [min_if, hnl]
    ktf_call "us"
    refine nl_f hS5 (by show 2 ≤ sizeLine; decide) fun q6 G6 H6 hS6 e6 hq6 => ?_
    ktf_call "us"
    refine ⟨st, 2, _, G6, rfl, rfl, by decide, by decide, .mk hS6, fun r H7 hr0 hr ⟨x7, y7, z7, hS7⟩ => ?_⟩
    obtain ⟨c2, rfl⟩ : ∃ i : Nat, r = (i : Int) := ⟨r.toNat, by omega⟩
    obtain ⟨mx, hmx, hm1', hm2'⟩ : ∃ mx : Int, ([.int S.ns.length, .int (min 2 (S.ns.length : Int))] : List V)[c2]? = some (.int mx) ∧ 1 ≤ mx ∧ mx ≤ S.ns.length := by
      have : c2 = 0 ∨ c2 = 1 := by omega
      rcases this with rfl | rfl
      · exact ⟨_, rfl, by omega, by omega⟩
      · exact ⟨_, rfl, by omega, by omega⟩
    refine wx_l g (sql (hS7.g _ _ hq6)) (at_nat c2 rfl hmx) ?_
    ktf_call "us"
    refine ⟨st, mx, _, G6, rfl, rfl, by omega, by omega, .mk hS7, fun r8 H8 hr80 hr8 ⟨x8, y8, z8, hS8⟩ => ?_⟩
    obtain ⟨j, rfl⟩ : ∃ i : Nat, r8 = (i : Int) := ⟨r8.toNat, by omega⟩
    have hj : j < S.ns.length := by omega
    refine wx_l g (sql (hS8.g _ _ (e6 _ _ hna3))) (v := .str S.ns[j]) (at_nat j rfl (by rw [List.getElem?_map, List.getElem?_eq_getElem hj]; rfl)) ?_
    have hkm : S.ns[j] ∈ S.ns := List.getElem_mem hj
    generalize S.ns[j] = key at hkm
    ktf_call "us"
    refine ⟨st, wa, w0, wd, _, G6, rfl, rfl, e6 _ _ hwa3, hwo, .mk hS8, fun v f l G9 H9 e9 hv hf hfl hl ⟨x9, y9, z9, hS9⟩ => ?_⟩
    have hv9 := hS9.g _ _ hv
    obtain ⟨w1, w2, w3, w4⟩ := hwo
    ktf_call "us"
    refine ⟨st, _, G9, rfl, .mk hS9, fun am H10 ha1 ha2 ⟨x10, y10, z10, hS10⟩ => ?_⟩
    have hS11 := hS10.perm (List.perm_middle (l₁ := p.pts B S) (l₂ := fpts fa rs ++ m)).symm
    have ho11 : H10 p.b = some (bkO B p) := hS11.at (q := (p.b, bkO B p)) (by simp [Bp.pts])
    have e39 : Same G G9 := e03.trans (e6.trans e9)
    obtain ⟨h0, t0, strip, hh, hh0⟩ := bi.hi key
    obtain ⟨hlr, bi'⟩ := bi.find (v := am) hkm (show 0 ≤ f ∧ f ≤ l ∧ l ≤ 399 by omega) hh
    ktf_call "us"
    refine ⟨p.b, _, p.dx, _, rfl, ho11, by rfl, 4, _, [], find_ E, by decide, ?_⟩
    ktf_call "us"
    refine ⟨p, S, _, G9, key, f, l, am, h0, t0, strip, rfl, rfl, rfl, rfl, rfl, hkm, by omega, ⟨ha1, ha2⟩, by omega, by rw [bi.el]; omega, hh, by omega, hlr, bk.up e39, hS11, fun p' G12 H12 eb e12 bk12 hS12 => ?_⟩
    have hfa12 : H12 fa = some (.lst (rs.map fun q => V.ref q.1)) := fpts_fa (m := p'.pts B (findS S key f l am strip) ++ (st, stO x10 y10 z10) :: (fpts fa rs ++ m)) (fun q hq => List.mem_append_right _ (List.mem_cons_of_mem _ (List.mem_append_left _ hq))) hS12
    ktf_call "us"
    refine nl_m hS12 (by show 6 ≤ sizeLine; decide) fun ra H13 hS13 => ?_
    have hS14 := (hS13.perm (perm_in _ _ _ _)).drop
    have hS15 := hS14.perm (perm_in _ _ _ _)
    ktf_call "us"
    refine wm_append hS15.a0 (by rw [List.length_map]; exact Nat.lt_of_le_of_lt hrs (by decide)) ?_
    have hS16 := hS15.set (u' := .lst (rs.map (fun q => V.ref q.1) ++ [V.ref ra])) rfl
    ktf_call "us"
    have hlst : (rs.map (fun q => V.ref q.1) ++ [V.ref ra]) = (rs ++ [(ra, (⟨key, f, l, am, S.nd + 1, none⟩ : Fr))]).map fun q => V.ref q.1 := by rw [List.map_append]; rfl
    have hS17 := hS16
    rw [hlst] at hS17 ⊢
    have hS18 := hS17.perm (fpts_snoc fa rs ra ⟨key, f, l, am, S.nd + 1, none⟩ (p'.pts B (findS S key f l am strip)) m)
    have hmap : (rs ++ [(ra, (⟨key, f, l, am, S.nd + 1, none⟩ : Fr))]).map (·.2) = rs.map (·.2) ++ [⟨key, f, l, am, S.nd + 1, none⟩] := by rw [List.map_append]; rfl
    refine k p' (findS S key f l am strip) _ G12 _ eb rfl (e39.trans e12) rfl (fun t ht => ?_) ⟨?_, bk12, hS18⟩
    · rw [hmap]
      exact old_app (by show t < S.nd + 1; omega)
    · rw [hmap]
      exact bi'
end
/-! ### text E16 -/
set_option maxHeartbeats 4000000
section
open PySem PySem.Spec PyProof.Rows L2 TL
variable {B : Bs}
/-! ### the answers that are due -/
noncomputable def srtOf (log : List NDay) : List NDay := open Classical in if h : ∃ ps, SrtP log ps then h.choose else []
theorem srtOf_eq {log log' ps : List NDay} (h : SrtP log' ps) (e : ∀ x, x ∈ log ↔ x ∈ log') : srtOf log = ps := by
  have h' : SrtP log ps := ⟨h.lt, fun x => by rw [h.mem, e]⟩
  have hex : ∃ ps, SrtP log ps := ⟨ps, h'⟩
  unfold srtOf
  rw [dif_pos hex]
  exact hex.choose_spec.uniq h' fun _ => Iff.rfl
noncomputable def ansF (fs : List Fr) (T : Nat) (nd : Nd) : Option Int × List Box := (evalM (valF fs T) nd, LB (spkF fs T) (srtOf (daysM (valF fs T) nd)))
def AnsR (G : Hp) (v : V) (a : Option Int × List Box) : Prop := ∃ t q ws, v = .ref t ∧ G t = some (.tup [oV a.1, .ref q]) ∧ G q = some (.lst ws) ∧ Fa (BoxR G) ws a.2
theorem AnsR.up {G G' : Hp} (e : Same G G') {v : V} {a : Option Int × List Box} (h : AnsR G v a) : AnsR G' v a := let ⟨t, q, ws, h1, h2, h3, h4⟩ := h; ⟨t, q, ws, h1, e _ _ h2, e _ _ h3, h4.mono fun _ _ z => z.up e⟩
/-- the questions -/
structure QsOk (ns : List Str) (w0 wd : Int) (nds : List Nd) : Prop where
  n1 : 1 ≤ ns.length
  n8 : ns.length ≤ 8
  nd : ns.Nodup
  nm : ∀ n ∈ ns, NameOk n
  w : WinOk w0 wd
  q : ∀ nd ∈ nds, NdG ns w0 wd nd ∧ nd.depth ≤ 3 ∧ (textM nd).length ≤ 400
  l : nds.length ≤ 3
theorem QsOk.nok {ns : List Str} {w0 wd : Int} {nds : List Nd} (h : QsOk ns w0 wd nds) {nd : Nd} (hm : nd ∈ nds) : nd.nok := fun n hn => h.nm n ((h.q nd hm).1.nm n hn)
def pLawAsked (B : Bs) : V → V → V → V → Hp → VK → Prop := fun a b c d H Q => ∃ (p : Bp) (S : Bk) (fa na ta : Addr) (rs : List (Addr × Fr)) (w0 wd : Int) (nvs : List V) (nds : List Nd) (tvs : List V) (m : List (Addr × HO)) (G : Hp), a = .ref p.b ∧ b = .ref fa ∧ c = .ref na ∧ d = .ref ta ∧ G na = some (.lst nvs) ∧ Fa (NR G) nvs nds ∧ QsOk S.ns w0 wd nds ∧ S.nd ≤ 15 ∧ tvs.length ≤ 16 ∧ DeedOk B p S fa rs ((ta, .lst tvs) :: m) G H ∧
  ∀ tl avs G' H', Same G G' → G' tl = some (.lst avs) → Fa (AnsR G') avs (nds.map (ansF (rs.map (·.2)) S.nd)) → DeedOk B p S fa rs ((ta, .lst (tvs ++ [.ref tl])) :: m) G' H' → Q (.bl true) H'
theorem law_asked (E : EvQ B) (R3 : SortSet B) : Fn B 19 "_law_asked" (Sp4 (pLawAsked B)) [] := by
  have f3 := (law_now_right E.e R3).up (show 7 ≤ 18 by decide)
  have EQ := E
  have E := E.e
  refine E.fn 102 rfl rfl rfl rfl (N := ["_law_book", "_law_found", "_law_nodes", "_law_told", "_law_node", "_law_answer"]) (n := 6) (ps := ["_law_book", "_law_found", "_law_nodes", "_law_told"]) (gs := ["answered", "_law_words", "_law_now_right", "list"]) (by decide +kernel) len4 (by ktf_call "b4") ?_
  intro X vs0 H Q E1 g h
  obtain ⟨_, _, _, _, rfl, p, S, fa, na, ta, rs, w0, wd, nvs, nds, tvs, m, G, rfl, rfl, rfl, rfl, hna, hN, hq, hnd, htl, ⟨bi, bk, hS⟩, k⟩ := h
  have hfs : (rs.map (·.2)).length ≤ 15 := by
    have := bi.nd
    unfold turnF at this
    omega
  have hrs : rs.length ≤ 15 := by rw [List.length_map] at hfs; exact hfs
  have hT : turnF (rs.map (·.2)) = S.nd := bi.nd.symm
  have hspk : spkS S none = spkF (rs.map (·.2)) S.nd := bi.spk (t := none) (Nat.le_refl _)
  have htell : tellS S none = valF (rs.map (·.2)) S.nd := bi.tell (t := none) (Nat.le_refl _)
  have pta : ∀ (P : List (Addr × HO)) (u : Addr × HO), (P ++ (fpts fa rs ++ (u :: m))).Perm (u :: (P ++ (fpts fa rs ++ m))) := fun P u => by
    rw [← List.append_assoc, ← List.append_assoc]
    exact List.perm_middle
  show WSs X _ _ [some (.ref p.b), some (.ref fa), some (.ref na), some (.ref ta), none, none] H
  have hS0 := hS.perm (pta _ _)
  have hta := hS0.a0
  ktf_call "us"
  refine nl_m hS0 (by decide) fun tl H1 hS1 => ?_
  ktf_call "us"
  refine wm_append hS1.a1 (Nat.lt_of_le_of_lt htl (by decide)) ?_
  have hS2 := hS1.set1 (u' := .lst (tvs ++ [.ref tl])) rfl
  ktf_call "us"
  refine wss_cons (ws_forS g (wi_l g ?_))
  ktf_call "us"
  refine ⟨na, nvs, rfl, sql (hS2.g _ _ hna), fun i σ' H' => ∃ o4 o5 avs G', σ' = [some (.ref p.b), some (.ref fa), some (.ref na), some (.ref ta), o4, o5] ∧ Same G G' ∧ Fa (AnsR G') avs ((nds.take i).map (ansF (rs.map (·.2)) S.nd)) ∧ Hs B ((tl, .lst avs) :: (ta, .lst (tvs ++ [.ref tl])) :: (p.pts B S ++ (fpts fa rs ++ m))) G' H', ⟨_, _, [], G, rfl, Same.refl _, .nil, hS2⟩, fun i σ' H' _ ⟨_, _, _, _, _, e, _, h⟩ => sql (h.g _ _ (e _ _ hna)), ?_, ?_⟩
  · rintro i x σ' H' _ hi ⟨o4, o5, avs, G1, rfl, e1, hA, hS3⟩ ⟨rfl, hx⟩
    obtain ⟨nd, hni, hnr⟩ := hN.get' hx
    have hmem := List.mem_of_getElem? hni
    obtain ⟨hg, hd3, ht4⟩ := hq.q nd hmem
    have hnk := hq.nok hmem
    have hne : S.ns ≠ [] := fun e => by have := hq.n1; rw [e] at this; simp at this
    have f1 := answered EQ nd hg.ok hnk hd3 ht4 0
    have f2 := (law_words E nd hg.ok hnk hd3).up (show 1 + nd.depth ≤ 18 by omega)
    have hw := words_few hg.ok hnk hd3
    have hal : avs.length ≤ 3 := by rw [hA.length, List.length_map]; exact Nat.le_trans (List.length_take_le' _ _) hq.l
    ktf_call "us"
    refine ⟨_, G1, NR.up (B := B) e1 hnr, hS3, fun q G2 H2 e2 hqw hS4 => ?_⟩
    ktf_call "us"
    refine wm_join g (sql (hS4.g _ _ hqw)) ?_ ?_
    · rw [show (Str.ofString " ").length = 1 from by decide +kernel]
      unfold wtL at hw
      omega
    ktf_call "us"
    have hS5 := hS4.perm (show ((tl, HO.lst avs) :: (ta, HO.lst (tvs ++ [.ref tl])) :: (p.pts B S ++ (fpts fa rs ++ m))).Perm (((tl, HO.lst avs) :: (ta, HO.lst (tvs ++ [.ref tl])) :: (fpts fa rs ++ m)) ++ p.pts B S) from (List.perm_append_comm.cons _).cons _)
    refine ⟨p, S, none, _, G2, rfl, .inl rfl, rfl, fun n hn => hg.nm n hn, hne, Nat.le_refl _, bk.up (e1.trans e2), bi.bkg, hS5, fun v q3 ws G3 H3 log sns days e3 hlog hSeen hv hF hS6 => ?_⟩
    obtain ⟨hS7, e4⟩ := hS6.freeze
    have hq4 : upd G3 q3 (.lst ws) q3 = some (.lst ws) := upd_same
    generalize upd G3 q3 (.lst ws) = G4 at hS7 e4 hq4
    have hv4 := e4 _ _ hv
    have hF4 := hF.mono fun x y z => z.up e4
    rw [htell] at hv4 hlog
    rw [hspk] at hF4
    have hbs : ∀ ps, SrtP (daysM (valF (rs.map (·.2)) S.nd) nd) ps → bxR (spkF (rs.map (·.2)) S.nd) sns days = LB (spkF (rs.map (·.2)) S.nd) ps := fun ps hps => hSeen.box _ hps hlog
    have hsrt : srtOf (daysM (valF (rs.map (·.2)) S.nd) nd) = (sns.flatMap fun n => (days n).map fun d => (n, d)) := srtOf_eq hSeen.srtP fun x => (hlog x).symm
    have hans : bxR (spkF (rs.map (·.2)) S.nd) sns days = (ansF (rs.map (·.2)) S.nd nd).2 := hSeen.box _ (ps := srtOf (daysM (valF (rs.map (·.2)) S.nd) nd)) (log' := log) (by rw [hsrt]; exact hSeen.srtP) fun x => Iff.rfl
    have e14 := e1.trans (e2.trans (e3.trans e4))
    have hm4 : ∀ q ∈ fpts fa rs, q ∈ ((tl, HO.lst avs) :: (ta, HO.lst (tvs ++ [.ref tl])) :: (fpts fa rs ++ m)) ++ p.pts B S := fun q hq => List.mem_append_left _ (List.mem_cons_of_mem _ (List.mem_cons_of_mem _ (List.mem_append_left _ hq)))
    ktf_call "us"
    refine wss_cons (ws_ifF (fun H5 => Hs B (((tl, HO.lst avs) :: (ta, HO.lst (tvs ++ [.ref tl])) :: (fpts fa rs ++ m)) ++ p.pts B S) G4 H5) ?_ ?_)
    · ktf_call "us"
      refine ⟨fa, v, q3, rs, nd, S.ns, w0, wd, ws, bxR (spkF (rs.map (·.2)) S.nd) sns days, _, G4, rfl, NR.up (B := B) e14 hnr, rfl, by omega, fun q hq => ?_, hm4, hg, hq.n8, hq.w, hq.nm, hd3, by rw [hT]; exact hv4, hq4, hF4, by rw [hT]; exact hbs, hS7, fun H5 hS8 => ?_⟩
      · exact (bi.ky q.2 (List.mem_map.mpr ⟨q, hq, rfl⟩)).2
      ktf_call "us"
      exact ⟨rfl, hS8⟩
    · intro H5 hS8
      have htl5 : H5 tl = some (.lst avs) := hS8.at (q := (tl, .lst avs)) (by simp)
      have hta5 : H5 ta = some (.lst (tvs ++ [.ref tl])) := hS8.at (q := (ta, .lst (tvs ++ [.ref tl]))) (by simp)
      ktf_call "us"
      refine wx_l g (sql hta5) (v := .ref tl) (at_end tvs.length (by simp only [List.length_append, List.length_cons, List.length_nil]; omega) (by decide) (List.getElem?_concat_length ..)) ?_
      ktf_call "us"
      refine wx_t g (sqt (hS8.g _ _ hv4)) (at_nat 0 rfl rfl) ?_
      ktf_call "us"
      refine wx_t g (sqt (hS8.g _ _ hv4)) (at_nat 1 rfl rfl) ?_
      ktf_call "us"
      have hwl : ws.length ≤ sizeLine := by
        rw [hF4.length, hans]
        refine Nat.le_trans (LBa_len _ _ _) ?_
        rw [List.length_nil, hsrt]
        have := win_few hg hq.n8 hq.w (valF (rs.map (·.2)) S.nd) (sns.flatMap fun n => (days n).map fun d => (n, d)) (hSeen.srtP.lt.imp fun {a b} h e => by subst e; exact ltP_asymm h h) fun x hx => (hlog x).mp ((hSeen.srtP.mem x).mp hx)
        exact Nat.le_trans (by omega : _ ≤ 400) (by decide)
      refine wcl_listL g (sql (hS8.g _ _ hq4)) hwl (nl_f hS8 hwl fun q6 G6 H6 hS9 e6 hq6 => ?_)
      ktf_call "us"
      refine nt_f hS9 (by show 2 ≤ sizeLine; decide) fun t7 G7 H7 hS10 e7 ht7 => ?_
      ktf_call "us"
      refine wm_append (hS10.at (q := (tl, .lst avs)) (by simp)) (Nat.lt_of_le_of_lt hal (by decide)) ?_
      have hS11 := (show Hs B ((tl, HO.lst avs) :: (((ta, HO.lst (tvs ++ [.ref tl])) :: (fpts fa rs ++ m)) ++ p.pts B S)) G7 H7 from hS10).set (u' := .lst (avs ++ [.ref t7])) rfl
      ktf_call "us"
      refine ⟨_, _, avs ++ [.ref t7], G7, rfl, e14.trans (e6.trans e7), ?_, hS11.perm ((List.perm_append_comm.cons _).cons _)⟩
      rw [List.take_add_one, hni, List.map_append]
      refine (hA.mono fun x y z => ((((z.up e2).up e3).up e4).up e6).up e7).append (.cons ⟨t7, q6, ws, rfl, ht7, e7 _ _ hq6, ?_⟩ .nil)
      rw [← hans]
      exact hF4.mono fun x y z => (z.up e6).up e7
  · rintro σ' H' ⟨o4, o5, avs, G1, rfl, e1, hA, hS3⟩
    rw [hN.length, List.take_length] at hA
    obtain ⟨hS4, e4⟩ := hS3.freeze
    ktf_call "us"
    exact k tl avs _ H' (e1.trans e4) upd_same (hA.mono fun x y z => z.up e4) ⟨bi, bk.up (e1.trans e4), hS4.perm (pta _ _).symm⟩
end
/-! ### text E17 -/
set_option maxHeartbeats 8000000
section
open PySem PySem.Spec PyProof.Rows L2 TL
set_option hygiene false in
local macro_rules | `(tactic| ktf_call "gm") => `(tactic| with_reducible first | exact List.mem_cons_of_mem _ (List.mem_cons_of_mem _ (List.mem_cons_of_mem _ (List.mem_cons_of_mem _ (List.mem_cons_of_mem _ (List.mem_cons_of_mem _ (List.mem_cons_of_mem _ (List.mem_cons_of_mem _ (List.mem_cons_of_mem _ (List.mem_cons_of_mem _ (List.mem_cons_self)))))))))) | exact List.mem_cons_of_mem _ (List.mem_cons_of_mem _ (List.mem_cons_of_mem _ (List.mem_cons_of_mem _ (List.mem_cons_of_mem _ (List.mem_cons_of_mem _ (List.mem_cons_of_mem _ (List.mem_cons_of_mem _ (List.mem_cons_of_mem _ (List.mem_cons_of_mem _ (List.mem_cons_of_mem _ (List.mem_cons_self))))))))))) | exact List.mem_cons_of_mem _ (List.mem_cons_of_mem _ (List.mem_cons_of_mem _ (List.mem_cons_of_mem _ (List.mem_cons_of_mem _ (List.mem_cons_of_mem _ (List.mem_cons_of_mem _ (List.mem_cons_of_mem _ (List.mem_cons_of_mem _ (List.mem_cons_of_mem _ (List.mem_cons_of_mem _ (List.mem_cons_of_mem _ (List.mem_cons_self)))))))))))) | exact List.mem_cons_of_mem _ (List.mem_cons_of_mem _ (List.mem_cons_of_mem _ (List.mem_cons_of_mem _ (List.mem_cons_of_mem _ (List.mem_cons_of_mem _ (List.mem_cons_of_mem _ (List.mem_cons_of_mem _ (List.mem_cons_of_mem _ (List.mem_cons_of_mem _ (List.mem_cons_of_mem _ (List.mem_cons_of_mem _ (List.mem_cons_of_mem _ (List.mem_cons_self))))))))))))) | exact List.mem_cons_of_mem _ (List.mem_cons_of_mem _ (List.mem_cons_of_mem _ (List.mem_cons_of_mem _ (List.mem_cons_of_mem _ (List.mem_cons_of_mem _ (List.mem_cons_of_mem _ (List.mem_cons_of_mem _ (List.mem_cons_of_mem _ (List.mem_cons_of_mem _ (List.mem_cons_of_mem _ (List.mem_cons_of_mem _ (List.mem_cons_of_mem _ (List.mem_cons_of_mem _ (List.mem_cons_self)))))))))))))) | exact List.mem_cons_of_mem _ (List.mem_cons_of_mem _ (List.mem_cons_of_mem _ (List.mem_cons_of_mem _ (List.mem_cons_of_mem _ (List.mem_cons_of_mem _ (List.mem_cons_of_mem _ (List.mem_cons_of_mem _ (List.mem_cons_of_mem _ (List.mem_cons_of_mem _ (List.mem_cons_of_mem _ (List.mem_cons_of_mem _ (List.mem_cons_of_mem _ (List.mem_cons_of_mem _ (List.mem_cons_of_mem _ (List.mem_cons_self))))))))))))))) | exact List.mem_cons_of_mem _ (List.mem_cons_of_mem _ (List.mem_cons_of_mem _ (List.mem_cons_of_mem _ (List.mem_cons_of_mem _ (List.mem_cons_of_mem _ (List.mem_cons_of_mem _ (List.mem_cons_of_mem _ (List.mem_cons_of_mem _ (List.mem_cons_of_mem _ (List.mem_cons_of_mem _ (List.mem_cons_of_mem _ (List.mem_cons_of_mem _ (List.mem_cons_of_mem _ (List.mem_cons_of_mem _ (List.mem_cons_of_mem _ (List.mem_cons_self)))))))))))))))) | exact List.mem_cons_of_mem _ (List.mem_cons_of_mem _ (List.mem_cons_of_mem _ (List.mem_cons_of_mem _ (List.mem_cons_of_mem _ (List.mem_cons_of_mem _ (List.mem_cons_of_mem _ (List.mem_cons_of_mem _ (List.mem_cons_of_mem _ (List.mem_cons_of_mem _ (List.mem_cons_of_mem _ (List.mem_cons_of_mem _ (List.mem_cons_of_mem _ (List.mem_cons_of_mem _ (List.mem_cons_of_mem _ (List.mem_cons_of_mem _ (List.mem_cons_of_mem _ (List.mem_cons_self))))))))))))))))) | exact List.mem_cons_of_mem _ (List.mem_cons_of_mem _ (List.mem_cons_of_mem _ (List.mem_cons_of_mem _ (List.mem_cons_of_mem _ (List.mem_cons_of_mem _ (List.mem_cons_of_mem _ (List.mem_cons_of_mem _ (List.mem_cons_of_mem _ (List.mem_cons_of_mem _ (List.mem_cons_of_mem _ (List.mem_cons_of_mem _ (List.mem_cons_of_mem _ (List.mem_cons_of_mem _ (List.mem_cons_of_mem _ (List.mem_cons_of_mem _ (List.mem_cons_of_mem _ (List.mem_cons_of_mem _ (List.mem_cons_self)))))))))))))))))) | exact List.mem_cons_of_mem _ (List.mem_cons_of_mem _ (List.mem_cons_of_mem _ (List.mem_cons_of_mem _ (List.mem_cons_of_mem _ (List.mem_cons_of_mem _ (List.mem_cons_of_mem _ (List.mem_cons_of_mem _ (List.mem_cons_of_mem _ (List.mem_cons_of_mem _ (List.mem_cons_of_mem _ (List.mem_cons_of_mem _ (List.mem_cons_of_mem _ (List.mem_cons_of_mem _ (List.mem_cons_of_mem _ (List.mem_cons_of_mem _ (List.mem_cons_of_mem _ (List.mem_cons_of_mem _ (List.mem_cons_of_mem _ (List.mem_cons_self))))))))))))))))))) | exact List.mem_cons_of_mem _ (List.mem_cons_of_mem _ (List.mem_cons_of_mem _ (List.mem_cons_of_mem _ (List.mem_cons_of_mem _ (List.mem_cons_of_mem _ (List.mem_cons_of_mem _ (List.mem_cons_of_mem _ (List.mem_cons_of_mem _ (List.mem_cons_of_mem _ (List.mem_cons_of_mem _ (List.mem_cons_of_mem _ (List.mem_cons_of_mem _ (List.mem_cons_of_mem _ (List.mem_cons_of_mem _ (List.mem_cons_of_mem _ (List.mem_cons_of_mem _ (List.mem_cons_of_mem _ (List.mem_cons_of_mem _ (List.mem_cons_of_mem _ (List.mem_cons_self)))))))))))))))))))) | exact List.mem_cons_of_mem _ (List.mem_cons_of_mem _ (List.mem_cons_of_mem _ (List.mem_cons_of_mem _ (List.mem_cons_of_mem _ (List.mem_cons_of_mem _ (List.mem_cons_of_mem _ (List.mem_cons_of_mem _ (List.mem_cons_of_mem _ (List.mem_cons_of_mem _ (List.mem_cons_of_mem _ (List.mem_cons_of_mem _ (List.mem_cons_of_mem _ (List.mem_cons_of_mem _ (List.mem_cons_of_mem _ (List.mem_cons_of_mem _ (List.mem_cons_of_mem _ (List.mem_cons_of_mem _ (List.mem_cons_of_mem _ (List.mem_cons_of_mem _ (List.mem_cons_of_mem _ (List.mem_cons_self))))))))))))))))))))))
variable {B : Bs}
/-! ### the law -/
def ToldR (G : Hp) (v : V) (rec : List (Option Int × List Box)) : Prop := ∃ tl avs, v = .ref tl ∧ G tl = some (.lst avs) ∧ Fa (AnsR G) avs rec
theorem ToldR.up {G G' : Hp} (e : Same G G') {v : V} {r : List (Option Int × List Box)} (h : ToldR G v r) : ToldR G' v r := let ⟨tl, avs, h1, h2, h3⟩ := h; ⟨tl, avs, h1, e _ _ h2, h3.mono fun _ _ z => z.up e⟩
/-- what was told up to a turn -/
noncomputable def toldF (fs : List Fr) (nds : List Nd) (k : Nat) : List (List (Option Int × List Box)) := (List.range k).map fun t => nds.map (ansF fs t)
theorem toldF_succ (fs : List Fr) (nds : List Nd) (k : Nat) : toldF fs nds (k + 1) = toldF fs nds k ++ [nds.map (ansF fs k)] := by
  unfold toldF
  rw [List.range_succ, List.map_append]; rfl
theorem toldF_old {fs fs' : List Fr} {nds : List Nd} {k : Nat} (h : ∀ t, t < k → spkF fs' t = spkF fs t ∧ valF fs' t = valF fs t) : toldF fs' nds k = toldF fs nds k := by
  unfold toldF
  refine List.map_congr_left fun t ht => ?_
  have := h t (List.mem_range.mp ht)
  refine List.map_congr_left fun nd _ => ?_
  unfold ansF
  rw [this.1, this.2]
theorem cut_few (xs : List Int) : ∃ cs : List Int, cutV (xs.map V.int) (some 5) (some 17) = cs.map V.int ∧ cs.length ≤ 12 := by
  refine ⟨(xs.drop (min 5 xs.length)).take (min 17 xs.length - min 5 xs.length), ?_, ?_⟩
  · unfold cutV
    rw [show (5 : Int) = ((5 : Nat) : Int) from rfl, show (17 : Int) = ((17 : Nat) : Int) from rfl, HT.sIx_nat, HT.sIx_nat, List.length_map, List.map_take, List.map_drop]
  · rw [List.length_take]; omega
/-- how the book, the findings and what was told stand after k deeds -/
structure LawOk (B : Bs) (b : Addr) (ns : List Str) (nds : List Nd) (fa ta : Addr) (k : Nat) (p : Bp) (S : Bk) (rs : List (Addr × Fr)) (tvs : List V) (G H : Hp) (m : List (Addr × HO)) : Prop where
  b : p.b = b
  ns : S.ns = ns
  tk : S.nd = k
  t : Fa (ToldR G) tvs (toldF (rs.map (·.2)) nds (k + 1))
  d : DeedOk B p S fa rs ((ta, .lst tvs) :: m) G H
def spLawU (B : Bs) : V → Hp → VK → Prop := fun a H Q => ∃ (r : Addr) (sc : List Int) (G : Hp), a = .ref r ∧ SqL B.K G r (sc.map V.int) ∧ sc.length ≤ 63 ∧ Hs B [] G H ∧ ∀ H', Q (.bl true) H'
theorem qs_mk {ns8 : List Str} (h : NsOk ns8) (c : Nat) : 1 ≤ (ns8.take (c + 1)).length ∧ (ns8.take (c + 1)).length ≤ 8 ∧ (ns8.take (c + 1)).Nodup ∧ ∀ n ∈ ns8.take (c + 1), NameOk n := by
  obtain ⟨h1, h2, h3⟩ := h
  refine ⟨by rw [List.length_take]; omega, by rw [List.length_take]; omega, h2.sublist (List.take_sublist _ _), fun n hn => h3 n (List.mem_of_mem_take hn)⟩
theorem law_ (E : EvQ B) (R3 : SortSet B) {f : Addr} {fd : FuncData} (F : FunD B.K d_law.name d_law.qual d_law.params d_law.body d_law.scope [] [] f fd) : FnOk B.P B.w B.K B.mg B.base CX0 20 f fd ["_law_script"] (Sp1 (spLawU B)) := by
  have a1 := law_names E.e
  have a2 := law_cell E.e
  have a3 := law_window E.e
  have a4 := law_begun E.e
  have a5 := law_fitting E.e
  have a6 := law_question E.e 3 (Nat.le_refl _)
  have a7 := k_Book E.e
  have a8 := law_asked E R3
  have a9 := law_deed E.e
  have a10 := law_like E.e
  have a11 := law_spoken E.e
  have EQ := E
  have E := E.e
  refine ok_of F (k := 19) (N := ["_law_script", "_law_names_here", "_law_window_here", "_law_nodes", "_law_k", "_law_book", "_law_found", "_law_told", "_law_cell_here", "_law_turn", "_law_node", "_law_due_here", "_law_text"]) (n := 13) (ps := ["_law_script"]) (gs := ["_law_names", "_law_cell", "_law_window", "_law_begun", "range", "_law_fitting", "_law_question", "Book", "list", "_law_asked", "_law_deed", "len", "zip", "_law_words", "answered", "question_of", "_law_like", "plainly", "_law_spoken"]) (by decide +kernel) len1 ?_
  intro X vs0 H Q E1 g h
  obtain ⟨_, rfl, r, sc, G0, rfl, hsc, hsl, hS0, hQ⟩ := h
  have scat : ∀ {m : List (Addr × HO)} {G H : Hp}, Same G0 G → Hs B m G H → SqL B.K H r (sc.map V.int) := fun e h => h.l (e.seq hsc)
  show WSs X _ _ [some (.ref r), none, none, none, none, none, none, none, none, none, none, none, none] H
  ktf_call "us"
  refine ⟨r, sc, 0, rfl, rfl, scat (Same.refl _) hS0, fun c0 => ?_⟩
  ktf_call "us"
  refine ⟨c0, [], G0, rfl, hS0, fun q8 ns8 H1 hns8 hS1 => ?_⟩
  ktf_call "us"
  refine ⟨r, sc, 1, rfl, rfl, scat (Same.refl _) hS1, fun c1 => ?_⟩
  ktf_call "us"
  refine wb_mod (by decide) ?_
  have b1 := Int.emod_nonneg c1 (show (8 : Int) ≠ 0 by decide)
  have b2 := Int.emod_lt_of_pos c1 (show (0 : Int) < 8 by decide)
  obtain ⟨cn, hcn⟩ : ∃ i : Nat, c1 % 8 = (i : Int) := ⟨(c1 % 8).toNat, by omega⟩
  rw [hcn]
  ktf_call "us"
  refine wsl_l g (sql hS1.a0) ?_
  rw [show (1 + (cn : Int)) = ((cn + 1 : Nat) : Int) from by omega, cut_take, ← List.map_take]
  obtain ⟨q1, q2, q3, q4⟩ := qs_mk hns8 cn
  generalize ns8.take (cn + 1) = ns at q1 q2 q3 q4
  have hnz : (ns.map V.str).length ≤ sizeLine := by rw [List.length_map]; exact Nat.le_trans q2 (by decide)
  refine nl_f hS1 hnz fun na G2 H2 hS2 e2 hna => ?_
  have hS2 := hS2.drop
  ktf_call "us"
  refine ⟨r, sc, 1, rfl, rfl, scat e2 hS2, fun c2 => ?_⟩
  ktf_call "us"
  refine ⟨c2, [], G2, rfl, hS2, fun st H3 D3 => ?_⟩
  ktf_call "us"
  refine ⟨st, [], G2, rfl, D3, fun wa w0 wd G4 H4 e4 hwa hwo ⟨_, _, _, hS4⟩ => ?_⟩
  have hS4 := hS4.drop
  ktf_call "us"
  refine nl_m hS4 (by decide) fun nq H5 hS5 => ?_
  have e04 : Same G0 G4 := e2.trans e4
  have hna4 := e4 _ _ hna
  ktf_call "us"
  refine wss_cut (fun σ' H' => ∃ o4 nvs nds G5, σ' = [some (.ref r), some (.ref na), some (.ref wa), some (.ref nq), o4, none, none, none, none, none, none, none, none] ∧ Same G4 G5 ∧ Fa (NR G5) nvs nds ∧ QsOk ns w0 wd nds ∧ Hs B ((nq, .lst nvs) :: []) G5 H') ?_ ?_
  · refine ws_forS g (wi_r2 g (by ktf_call "gm") E.f_range ?_)
    ktf_call "us"
    refine ⟨2, 5, rfl, rfl, by decide, fun i σ' H' => ∃ o4 nvs nds G5, σ' = [some (.ref r), some (.ref na), some (.ref wa), some (.ref nq), o4, none, none, none, none, none, none, none, none] ∧ Same G4 G5 ∧ Fa (NR G5) nvs nds ∧ nds.length = i ∧ (∀ nd ∈ nds, NdG ns w0 wd nd ∧ nd.depth ≤ 3 ∧ (textM nd).length ≤ 400) ∧ Hs B ((nq, .lst nvs) :: []) G5 H', ⟨_, [], [], G4, rfl, Same.refl _, .nil, rfl, fun nd h => (by cases h), hS5⟩, fun _ _ _ _ _ => True.intro, ?_, ?_⟩
    · rintro i x σ' H' _ hi ⟨o4, nvs, nds, G5, rfl, e5, hN, hnl, hnd, hS⟩ ⟨rfl, hx⟩
      have hi : i < 3 := hi
      obtain rfl : x = .int ((2 + i : Nat) : Int) := by rw [hx]; congr 1; omega
      have hnqa := hS.a0
      ktf_call "us"
      refine ⟨r, sc, 2 + i, rfl, rfl, scat (e04.trans e5) hS, fun c3 => ?_⟩
      ktf_call "us"
      refine ⟨c3, _, G5, rfl, hS, fun st2 H6 D6 => ?_⟩
      ktf_call "us"
      refine ⟨st2, na, wa, ns, w0, wd, _, G5, rfl, rfl, rfl, rfl, ⟨e5 _ _ hna4, q1, q2, q3, e5 _ _ hwa, hwo, D6⟩, fun v nd G6 H7 e6 hv hg hd ⟨_, _, _, hS7⟩ => ?_⟩
      have hS7 := hS7.drop
      ktf_call "us"
      refine ⟨nd, ns, w0, wd, _, G6, hv, hg, q4, hd, hS7, fun v2 nd2 G8 H8 e8 hv2 hg2 hd2 ht2 hS8 => ?_⟩
      ktf_call "us"
      refine wm_append hS8.a0 (by rw [hN.length, hnl]; exact Nat.lt_trans hi (by decide)) ?_
      ktf_call "us"
      refine ⟨_, nvs ++ [v2], nds ++ [nd2], G8, rfl, e5.trans (e6.trans e8), (hN.mono fun x y z => NR.up (B := B) (e6.trans e8) z).append (.cons hv2 .nil), by simp [hnl], fun nd hm => ?_, hS8.set rfl⟩
      rcases List.mem_append.mp hm with hm | hm
      · exact hnd nd hm
      · rw [List.mem_singleton.mp hm]
        exact ⟨hg2, hd2, ht2⟩
    · rintro σ' H' ⟨o4, nvs, nds, G5, rfl, e5, hN, hnl, hnd, hS⟩
      exact ⟨o4, nvs, nds, G5, rfl, e5, hN, ⟨q1, q2, q3, q4, hwo, hnd, by rw [hnl]; decide⟩, hS⟩
  rintro _ H6 ⟨o4, nvs, nds, G5, rfl, e5, hN, hqs, hS6⟩
  obtain ⟨hS7, e6⟩ := hS6.freeze
  have hnq : upd G5 nq (.lst nvs) nq = some (.lst nvs) := upd_same
  generalize upd G5 nq (.lst nvs) = G6 at hS7 e6 hnq
  have hN := hN.mono fun x y z => NR.up (B := B) e6 z
  have e06 : Same G0 G6 := e04.trans (e5.trans e6)
  have hna6 := e6 _ _ (e5 _ _ hna4)
  have hwa6 := e6 _ _ (e5 _ _ hwa)
  ktf_call "us"
  refine wcl_listL g (sql (hS7.g _ _ hna6)) hnz (nl_m hS7 hnz fun bl H8 hS8 => ?_)
  ktf_call "us"
  intro x dx hx hdx hnx
  refine ⟨x, dx, bl, [], G6, ns, rfl, ⟨q1, q2, q3, q4⟩, hS8.mk_i hx hdx hnx, fun p0 G9 H9 eb e9 bk9 hS9 => ⟨rfl, ?_⟩⟩
  ktf_call "us"
  refine nl_m hS9 (by decide) fun fa H10 hS10 => ?_
  ktf_call "us"
  refine nl_m hS10 (by decide) fun ta H11 hS11 => ?_
  have hS12 : Hs B (p0.pts B (bk0 ns) ++ (fpts fa [] ++ ((ta, .lst []) :: [(bl, .lst (ns.map V.str))]))) G9 H11 := hS11.perm (by
    refine (List.Perm.swap _ _ _).trans ?_
    refine ((List.perm_middle (l₁ := p0.pts B (bk0 ns)) (a := (ta, HO.lst [])) (l₂ := [(bl, HO.lst (ns.map V.str))])).symm.cons (fa, HO.lst [])).trans ?_
    exact (List.perm_middle (l₁ := p0.pts B (bk0 ns)) (a := (fa, HO.lst [])) (l₂ := [(ta, HO.lst []), (bl, HO.lst (ns.map V.str))])).symm)
  have hN := hN.mono fun x y z => NR.up (B := B) e9 z
  have hnq9 := e9 _ _ hnq
  have e09 : Same G0 G9 := e06.trans e9
  subst eb
  ktf_call "us"
  refine wss_cons (ws_ifF (fun H12 => ∃ tvs G12, Same G9 G12 ∧ LawOk B p0.b ns nds fa ta 0 p0 (bk0 ns) [] tvs G12 H12 [(bl, .lst (ns.map V.str))]) ?_ ?_)
  · ktf_call "us"
    refine ⟨p0, bk0 ns, fa, nq, ta, [], w0, wd, nvs, nds, [], _, G9, rfl, rfl, rfl, rfl, hnq9, hN, hqs, by show 0 ≤ 15; decide, by simp, ⟨BI0 ns, bk9, hS12⟩, fun tl avs G13 H13 e13 htl hA D13 => ?_⟩
    ktf_call "us"
    exact ⟨rfl, _, G13, e13, ⟨rfl, rfl, rfl, .cons ⟨tl, avs, rfl, htl, hA⟩ .nil, D13⟩⟩
  rintro H12 ⟨tvs0, G12, e12, L0⟩
  have e012 : Same G0 G12 := e09.trans e12
  ktf_call "us"
  refine wss_cut (fun σ' H' => ∃ o4 o8 kk p S rs tvs G', kk ≤ 12 ∧ σ' = [some (.ref r), some (.ref na), some (.ref wa), some (.ref nq), o4, some (.ref p0.b), some (.ref fa), some (.ref ta), o8, none, none, none, none] ∧ Same G12 G' ∧ LawOk B p0.b ns nds fa ta kk p S rs tvs G' H' [(bl, .lst (ns.map V.str))]) ?_ ?_
  · refine ws_forS g (wi_l g ?_)
    ktf_call "us"
    refine wsl_l g (scat e012 L0.d.h) ?_
    obtain ⟨cs, hcs, hcl⟩ := cut_few sc
    rw [hcs]
    refine nl_f L0.d.h (by rw [List.length_map]; exact Nat.le_trans hcl (by decide)) fun cq G13 H13 hS13 e13 hcq => ?_
    have L1 : LawOk B p0.b ns nds fa ta 0 p0 (bk0 ns) [] tvs0 G13 H13 [(bl, .lst (ns.map V.str))] := ⟨rfl, rfl, rfl, L0.t.mono fun x y z => z.up e13, ⟨L0.d.bi, L0.d.bk.up e13, hS13⟩⟩
    refine ⟨cq, _, rfl, sql (hS13.g _ _ hcq), fun i σ' H' => ∃ o4 o8 p S rs tvs G', σ' = [some (.ref r), some (.ref na), some (.ref wa), some (.ref nq), o4, some (.ref p0.b), some (.ref fa), some (.ref ta), o8, none, none, none, none] ∧ Same G13 G' ∧ LawOk B p0.b ns nds fa ta i p S rs tvs G' H' [(bl, .lst (ns.map V.str))], ⟨_, _, p0, _, [], tvs0, G13, rfl, Same.refl _, L1⟩, fun i σ' H' _ ⟨_, _, _, _, _, _, _, _, e, L⟩ => sql (L.d.h.g _ _ (e _ _ hcq)), ?_, ?_⟩
    · rintro i x σ' H' _ hi ⟨o4, o8, p, S, rs, tvs, G14, rfl, e14, L⟩ ⟨rfl, hx⟩
      rw [List.length_map] at hi
      rw [List.getElem?_map] at hx
      obtain ⟨cc, hcc, rfl⟩ := Option.map_eq_some_iff.mp hx
      obtain ⟨hpb, hpn, hpk, hpt, D⟩ := L
      have e914 : Same G9 G14 := e12.trans (e13.trans e14)
      have e614 : Same G6 G14 := e9.trans e914
      rw [← hpb]
      subst hpn
      ktf_call "us"
      refine ⟨p, S, fa, rs, cc, na, wa, w0, wd, _, G14, rfl, rfl, rfl, rfl, rfl, e614 _ _ hna6, q1, q2, e614 _ _ hwa6, hwo, by omega, D, fun p' S' rs' G15 H15 eb ens e15 hnd' hold D' => ?_⟩
      have hN15 := hN.mono fun x y z => NR.up (B := B) (e914.trans e15) z
      have htl : tvs.length = i + 1 := by rw [hpt.length]; unfold toldF; simp
      rw [← eb]
      ktf_call "us"
      refine wss_one (ws_ifF (fun H16 => ∃ tvs' G16, Same G15 G16 ∧ LawOk B p'.b S.ns nds fa ta (i + 1) p' S' rs' tvs' G16 H16 [(bl, .lst (S.ns.map V.str))]) ?_ ?_)
      · ktf_call "us"
        refine ⟨p', S', fa, nq, ta, rs', w0, wd, nvs, nds, tvs, _, G15, rfl, rfl, rfl, rfl, (e914.trans e15) _ _ hnq9, hN15, by rw [ens]; exact hqs, by omega, by omega, D', fun tl avs G16 H16 e16 htl2 hA D16 => ?_⟩
        ktf_call "us"
        refine ⟨rfl, _, G16, e16, ⟨rfl, ens, by omega, ?_, D16⟩⟩
        rw [toldF_succ, toldF_old (fs' := rs'.map (·.2)) (fs := rs.map (·.2)) fun t ht => hold t (by omega)]
        refine (hpt.mono fun x y z => (z.up e15).up e16).append (.cons ⟨tl, avs, rfl, htl2, ?_⟩ .nil)
        rw [show S'.nd = i + 1 from by omega] at hA
        exact hA
      · rintro H16 ⟨tvs', G16, e16, L'⟩
        ktf_call "us"
        exact ⟨o4, some (.int cc), p', S', rs', tvs', G16, rfl, e14.trans (e15.trans e16), L'⟩
    · rintro σ' H' ⟨o4, o8, p, S, rs, tvs, G14, rfl, e14, L⟩
      exact ⟨o4, o8, _, p, S, rs, tvs, G14, by rw [List.length_map]; exact hcl, rfl, e13.trans e14, L⟩
  rintro _ H13 ⟨o4, o8, kk, p, S, rs, tvs, G13, hk12, rfl, e13, L⟩
  obtain ⟨hpb, hpn, hpk, hpt, D⟩ := L
  have e913 : Same G9 G13 := e12.trans e13
  have hN13 := hN.mono fun x y z => NR.up (B := B) e913 z
  have hnq13 := e913 _ _ hnq9
  have htl : tvs.length = kk + 1 := by rw [hpt.length]; unfold toldF; simp
  rw [← hpb]
  subst hpn
  have hqs' := hqs
  obtain ⟨bi, bk, hSD⟩ := D
  have hM := hSD.perm (List.perm_append_comm (l₁ := p.pts B S) (l₂ := fpts fa rs ++ ((ta, .lst tvs) :: [(bl, .lst (S.ns.map V.str))])))
  have hmta : (ta, HO.lst tvs) ∈ (fpts fa rs ++ ((ta, .lst tvs) :: [(bl, .lst (S.ns.map V.str))])) ++ p.pts B S := List.mem_append_left _ (List.mem_append_right _ List.mem_cons_self)
  generalize (fpts fa rs ++ ((ta, .lst tvs) :: [(bl, .lst (S.ns.map V.str))])) = Z at hM hmta
  have hmb : ∀ q ∈ p.pts B S, q ∈ Z ++ p.pts B S := fun q hq => List.mem_append_right _ hq
  have hne : S.ns ≠ [] := fun e => by have := hqs.n1; rw [e] at this; simp at this
  clear hSD
  refine wss_cons (ws_forS g (wi_r1 g (by ktf_call "gm") E.f_range ?_))
  ktf_call "us"
  refine wcl_lenL g (sql (hM.at hmta)) ?_
  rw [htl]
  ktf_call "us"
  refine ⟨by omega, by omega, ?_⟩
  rw [show ((kk + 1 : Nat) : Int).toNat = kk + 1 from by omega]
  refine ⟨fun t σ' H' => ∃ o9 o10 o11 o12 G', σ' = [some (.ref r), some (.ref na), some (.ref wa), some (.ref nq), o4, some (.ref p.b), some (.ref fa), some (.ref ta), o8, o9, o10, o11, o12] ∧ Same G13 G' ∧ Hs B (Z ++ p.pts B S) G' H', ⟨_, _, _, _, G13, rfl, Same.refl _, hM⟩, fun _ _ _ _ _ => True.intro, ?_, ?_⟩
  · rintro t x σ' H' H'' hi ⟨o9, o10, o11, o12, G14, rfl, e14, hM14⟩ ⟨rfl, hx⟩
    obtain rfl : x = .int t := by rw [hx]; congr 1; omega
    have ht : turnV S.nd (some t) ≤ S.nd := by show t ≤ S.nd; omega
    have hspk : spkS S (some t) = spkF (rs.map (·.2)) t := bi.spk (t := some t) ht
    have htell : tellS S (some t) = valF (rs.map (·.2)) t := bi.tell (t := some t) ht
    obtain ⟨tv, htv, tl, avs, rfl, hav, hA⟩ := hpt.get (i := t) (t := nds.map (ansF (rs.map (·.2)) t)) (by
      unfold toldF
      rw [List.getElem?_map, List.getElem?_range hi]; rfl)
    have hal : avs.length = nvs.length := by rw [hA.length, List.length_map, hN13.length]
    ktf_call "us"
    refine wss_one (ws_forS g (wi_z g (by ktf_call "gm") E.f_zip ?_))
    ktf_call "us"
    refine wx_l g (sql (hM14.at hmta)) (at_nat t rfl htv) ?_
    ktf_call "us"
    refine ⟨nq, tl, nvs, avs, rfl, sql (hM14.g _ _ (e14 _ _ hnq13)), sql (hM14.g _ _ (e14 _ _ hav)), hal.symm, fun j σ' H' => ∃ o10 o11 o12 G', σ' = [some (.ref r), some (.ref na), some (.ref wa), some (.ref nq), o4, some (.ref p.b), some (.ref fa), some (.ref ta), o8, some (.int t), o10, o11, o12] ∧ Same G13 G' ∧ Hs B (Z ++ p.pts B S) G' H', ⟨_, _, _, G14, rfl, e14, hM14⟩, fun j σ' H' _ ⟨_, _, _, _, _, e, h⟩ => ⟨sql (h.g _ _ (e _ _ hnq13)), sql (h.g _ _ (e _ _ hav))⟩, ?_, ?_⟩
    · rintro j z σ' H1 H2 hj ⟨o10, o11, o12, G15, rfl, e15, hM15⟩ ⟨T, x, y, rfl, hT, rfl, hx, hy⟩
      obtain ⟨nd, hnd, hnr⟩ := hN13.get' hx
      obtain ⟨an, han, td, qd, wd', rfl, htd, hqd, hFd⟩ := hA.get' hy
      rw [List.getElem?_map, hnd] at han
      have han : ansF (rs.map (·.2)) t nd = an := Option.some.inj han
      have hmem := List.mem_of_getElem? hnd
      obtain ⟨hg, hd3, ht4⟩ := hqs.q nd hmem
      have hnk := hqs.nok hmem
      have f1 : Fn B 18 "answered" (Sp3 (pAnswered B nd)) [] := answered EQ nd hg.ok hnk hd3 ht4 1
      have f2 := (law_words E nd hg.ok hnk hd3).up (show 1 + nd.depth ≤ 18 by omega)
      have f3 := question_of E nd hg.ok hnk hd3 ht4
      have f4 : Fn B 18 "plainly" (Sp3 (pPlainly B nd)) [] := plainly EQ nd hg.ok hnk hd3 ht4 1
      have hw := words_few hg.ok hnk hd3
      obtain ⟨hS3, e16⟩ := (hM15.new (u := .tup [x, .ref td]) hT rfl).freeze
      have hT3 := hS3.g T _ upd_same
      generalize upd G15 T (.tup [x, .ref td]) = G16 at hS3 e16
      generalize upd H1 T (.tup [x, .ref td]) = H3 at hS3 hT3 ⊢
      have e016 : Same G13 G16 := e15.trans e16
      ktf_call "us"
      refine ⟨_, G16, NR.up (B := B) e016 hnr, hS3, fun qw G17 H4 e17 hqw hS4 => ?_⟩
      ktf_call "us"
      refine wm_join g (sql (hS4.g _ _ hqw)) ?_ ?_
      · rw [show (Str.ofString " ").length = 1 from by decide +kernel]
        unfold wtL at hw
        omega
      have e017 := e016.trans e17
      ktf_call "us"
      refine wss_cut (fun σ' H' => ∃ G', σ' = [some (.ref r), some (.ref na), some (.ref wa), some (.ref nq), o4, some (.ref p.b), some (.ref fa), some (.ref ta), o8, some (.int t), some x, some (.ref td), some (.str (textM nd))] ∧ Same G13 G' ∧ Hs B (Z ++ p.pts B S) G' H' ∧ SrtP (daysM (valF (rs.map (·.2)) t) nd) (srtOf (daysM (valF (rs.map (·.2)) t) nd))) ?_ ?_
      · refine ws_ifF (fun H' => ∃ G', Same G13 G' ∧ Hs B (Z ++ p.pts B S) G' H' ∧ SrtP (daysM (valF (rs.map (·.2)) t) nd) (srtOf (daysM (valF (rs.map (·.2)) t) nd))) ?_ ?_
        · ktf_call "us"
          refine ⟨_, G17, rfl, hS4, fun qv G18 H5 e18 hS5 hqo => ?_⟩
          ktf_call "us"
          have e018 := e017.trans e18
          refine ⟨p, S, some t, Z, G18, rfl, .inr hqo, rfl, fun n hn => hg.nm n hn, hne, ht, bk.up e018, bi.bkg, hS5, fun v q3 ws G19 H6 log sns days e19 hlog hSeen hv hF hS6 => ?_⟩
          obtain ⟨hS7, e20⟩ := hS6.freeze
          have hq4 : upd G19 q3 (.lst ws) q3 = some (.lst ws) := upd_same
          generalize upd G19 q3 (.lst ws) = G20 at hS7 e20 hq4
          have hv4 := e20 _ _ hv
          have hF4 := hF.mono fun x y z => z.up e20
          rw [htell] at hv4 hlog
          rw [hspk] at hF4
          have hsrt : srtOf (daysM (valF (rs.map (·.2)) t) nd) = (sns.flatMap fun n => (days n).map fun d => (n, d)) := srtOf_eq hSeen.srtP fun x => (hlog x).symm
          have hsp : SrtP (daysM (valF (rs.map (·.2)) t) nd) (srtOf (daysM (valF (rs.map (·.2)) t) nd)) := by
            rw [hsrt]
            exact ⟨hSeen.srtP.lt, fun x => by rw [hSeen.srtP.mem, hlog]⟩
          have hans : bxR (spkF (rs.map (·.2)) t) sns days = an.2 := by
            rw [← han]
            exact hSeen.box _ hsp hlog
          have hans1 : evalM (valF (rs.map (·.2)) t) nd = an.1 := by rw [← han]; rfl
          rw [hans] at hF4
          rw [hans1] at hv4
          have e020 := e018.trans (e19.trans e20)
          have hbn : ∀ b ∈ an.2, NameOk b.1 := fun b hb => by
            rw [← han] at hb
            have hg' := LB_ok _ _ b hb
            have := (hg'.d b.2.1 (Int.le_refl _) hg'.le).1
            exact hqs.nm _ (hg.nm _ (days_win _ hg.ok hg.win _ ((hsp.mem _).mp this)).1)
          have hlay := (lay_all (lay_boxes an.2 hbn))
          have hc1 : (PyData.tuple [(match an.1 with | none => .none | some i => .int i), .list (an.2.map boxD)]).canLay0 = true := by
            cases an.1 <;> simp [PyData.canLay0, PyData.canLayAll0, hlay.1]
          have hc2 : (PyData.tuple [(match an.1 with | none => .none | some i => .int i), .list (an.2.map boxD)]).depth ≤ 64 := by
            have := hlay.2
            cases an.1 <;> simp [PyData.depth, PyData.depthAll] <;> omega
          have hdo : ∀ (K : PySem.W.Frag) (H : Hp), Dp K H (oV an.1) (match an.1 with | none => .none | some i => .int i) := fun K H => by
            cases an.1 with
            | none => exact .non
            | some i => exact .int i
          have htd20 := e020 _ _ htd
          ktf_call "us"
          refine wc_neD g (d := .tuple [(match an.1 with | none => .none | some i => .int i), .list (an.2.map boxD)]) (e := .tuple [(match an.1 with | none => .none | some i => .int i), .list (an.2.map boxD)]) (.tup (sqt (hS7.g _ _ hv4)) (.cons (hdo _ _) (.cons (.lst (sql (hS7.g _ _ hq4)) (dpa_up hS7.g (boxes_dp hF4))) .nil)))
            (.tup (sqt (hS7.g _ _ htd20)) (.cons (hdo _ _) (.cons (.lst (sql (hS7.g _ _ (e020 _ _ hqd))) (dpa_up (e020.trans hS7.g) (boxes_dp hFd))) .nil))) (shaped_mk hc1 hc2) (shaped_mk hc1 hc2) ?_
          rw [PySem.SeqAt.eqv_refl _ hc1]
          ktf_call "us"
          refine ⟨p, S, some t, Z, G20, rfl, .inl rfl, rfl, fun n hn => hg.nm n hn, hne, ht, bk.up e020, bi.bkg, hS7, fun G21 H8 e21 hS8 => ?_⟩
          rw [htell, hans1]
          ktf_call "us"
          refine wx_t g (sqt (hS8.g _ _ (e21 _ _ htd20))) (at_nat 0 rfl rfl) ?_
          ktf_call "us"
          refine ⟨an.1, an.1, rfl, rfl, ?_⟩
          rw [decide_eq_true rfl]
          ktf_call "us"
          exact ⟨rfl, G21, e020.trans e21, hS8, hsp⟩
        · rintro H5 ⟨G18, e18, hS5, hsp⟩
          ktf_call "us"
          exact ⟨G18, rfl, e18, hS5, hsp⟩
      · rintro _ H5 ⟨G18, rfl, e18, hS5, hsp⟩
        ktf_call "us"
        refine wss_one (ws_ifF (fun H' => Hs B (Z ++ p.pts B S) G18 H') ?_ ?_)
        · ktf_call "us"
          refine wx_t g (sqt (hS5.g _ _ (e18 _ _ htd))) (at_nat 1 rfl rfl) ?_
          ktf_call "us"
          refine ⟨p, S, qd, wd', an.2, t, _, G18, rfl, rfl, rfl, e18 _ _ hqd, hFd.mono fun x y z => z.up e18, ht, bi.bkg, ⟨bk.up e18, hmb⟩, hS5, fun b hb => ?_, fun H6 hS6 => ?_⟩
          · rw [← han] at hb
            have hg' := LB_ok _ _ b hb
            have m1 := (hsp.mem _).mp (hg'.d b.2.1 (Int.le_refl _) hg'.le).1
            have m2 := (hsp.mem _).mp (hg'.d b.2.2.1 hg'.le (Int.le_refl _)).1
            have n1 := days_win _ hg.ok hg.win _ m1
            have n2 := days_win _ hg.ok hg.win _ m2
            obtain ⟨w1, w2, w3, w4⟩ := hqs.w
            dsimp only at n1 n2
            refine ⟨hg.nm _ n1.1, by omega, fun d h1 h2 => ?_⟩
            rw [hspk]
            exact (hg'.d d h1 h2).2
          ktf_call "us"
          exact ⟨rfl, hS6⟩
        · intro H6 hS6
          ktf_call "us"
          exact ⟨_, _, _, G18, rfl, e18, hS6⟩
    · rintro σ' H1 ⟨o10, o11, o12, G15, rfl, e15, hM15⟩
      exact ⟨_, _, _, _, G15, rfl, e15, hM15⟩
  · rintro σ' H1 ⟨o9, o10, o11, o12, G14, rfl, e14, hM14⟩
    have A : BkM B p S (Z ++ p.pts B S) G14 := ⟨bk.up e14, hmb⟩
    ktf_call "us"
    refine ⟨p.b, _, p.dx, _, rfl, A.ob hM14, by rfl, 1, _, [], now_ E, by decide, ?_⟩
    ktf_call "us"
    refine ⟨p, S, _, G14, rfl, A, hM14, ?_⟩
    ktf_call "us"
    refine wcl_lenL g (sql (hM14.at hmta)) ?_
    ktf_call "us"
    rw [htl, hpk, decide_eq_true (by omega)]
    exact hQ H1
end
/-! ### text R1 -/
set_option maxHeartbeats 400000
section
open PySem PySem.Spec PyProof.Rows L2
/-! ### tables of up to 2048 slots -/
/-- the slots that x -> 5 x + 1 meets, as bits; each step's numbers are forced -/
def sweepK (m : Nat) : Nat → Nat → Nat → Nat
  | 0, _, acc => acc
  | n + 1, x, acc => match (x * 5 + 1) % (m + 1), acc ||| 2 ^ x with
    | 0, 0 => sweepK m n 0 0
    | 0, b + 1 => sweepK m n 0 (b + 1)
    | a + 1, 0 => sweepK m n (a + 1) 0
    | a + 1, b + 1 => sweepK m n (a + 1) (b + 1)
theorem sweepK_succ (m n x acc : Nat) : sweepK m (n + 1) x acc = sweepK m n ((x * 5 + 1) % (m + 1)) (acc ||| 2 ^ x) := by
  show (match (x * 5 + 1) % (m + 1), acc ||| 2 ^ x with
    | 0, 0 => sweepK m n 0 0
    | 0, b + 1 => sweepK m n 0 (b + 1)
    | a + 1, 0 => sweepK m n (a + 1) 0
    | a + 1, b + 1 => sweepK m n (a + 1) (b + 1)) = _
  cases (x * 5 + 1) % (m + 1) <;> cases (acc ||| 2 ^ x) <;> rfl
theorem sweepK_bit (m j : Nat) : ∀ n a acc, (sweepK m n (lcgN m a) acc).testBit j = true → acc.testBit j = true ∨ ∃ b, b < a + n ∧ lcgN m b = j
  | 0, a, acc, h => .inl h
  | n + 1, a, acc, h => by
    rw [sweepK_succ] at h
    rcases sweepK_bit m j n (a + 1) (acc ||| 2 ^ lcgN m a) h with k | ⟨b, hb, e⟩
    · rw [Nat.testBit_or, Bool.or_eq_true] at k
      rcases k with k | k
      · exact .inl k
      · rw [Nat.testBit_two_pow, decide_eq_true_eq] at k
        exact .inr ⟨a, by omega, k⟩
    · exact .inr ⟨b, by omega, e⟩
/-- where n steps from x lead -/
def leadK (m : Nat) : Nat → Nat → Nat
  | 0, x => x
  | n + 1, x => match (x * 5 + 1) % (m + 1) with
    | 0 => leadK m n 0
    | a + 1 => leadK m n (a + 1)
theorem leadK_eq (m : Nat) : ∀ n a, leadK m n (lcgN m a) = lcgN m (a + n)
  | 0, a => rfl
  | n + 1, a => by
    have e : leadK m (n + 1) (lcgN m a) = leadK m n (lcgN m (a + 1)) := by
      show (match (lcgN m a * 5 + 1) % (m + 1) with
        | 0 => leadK m n 0
        | c + 1 => leadK m n (c + 1)) = leadK m n ((lcgN m a * 5 + 1) % (m + 1))
      cases (lcgN m a * 5 + 1) % (m + 1) <;> rfl
    rw [e, leadK_eq m n (a + 1), show a + 1 + n = a + (n + 1) by omega]
/-- a mask under which the round is full -/
structure Mok (m : Nat) : Prop where
  odd : m % 2 = 1
  le : m ≤ 2047
  all : ∀ j, j ≤ m → ∃ b, b ≤ m ∧ lcgN m b = j
  rnd : lcgN m (m + 1) = 0
theorem mok_of {m : Nat} (h1 : m % 2 = 1) (h2 : m ≤ 2047) (h3 : sweepK m (m + 1) 0 0 = 2 ^ (m + 1) - 1) (h4 : leadK m (m + 1) 0 = 0) : Mok m := by
  refine ⟨h1, h2, fun j hj => ?_, ?_⟩
  · have k : (sweepK m (m + 1) (lcgN m 0) 0).testBit j = true := by
      show (sweepK m (m + 1) 0 0).testBit j = true
      rw [h3, Nat.testBit_two_pow_sub_one, decide_eq_true_eq]
      omega
    rcases sweepK_bit m j (m + 1) 0 0 k with z | ⟨b, hb, e⟩
    · rw [Nat.zero_testBit] at z
      exact absurd z (by decide)
    · exact ⟨b, by omega, e⟩
  · have k := leadK_eq m (m + 1) 0
    rw [Nat.zero_add] at k
    rw [← k]
    exact h4
theorem mok7 : Mok 7 := mok_of (by decide) (by decide) (by decide +kernel) (by decide +kernel)
theorem mok31 : Mok 31 := mok_of (by decide) (by decide) (by decide +kernel) (by decide +kernel)
theorem mok127 : Mok 127 := mok_of (by decide) (by decide) (by decide +kernel) (by decide +kernel)
theorem mok511 : Mok 511 := mok_of (by decide) (by decide) (by decide +kernel) (by decide +kernel)
theorem mok2047 : Mok 2047 := mok_of (by decide) (by decide) (by decide +kernel) (by decide +kernel)
variable {m : Nat}
theorem Mok.again (g : Mok m) (k : Nat) : lcgN m (m + 1 + k) = lcgN m k := by
  induction k with
  | zero => exact g.rnd
  | succ k ih =>
    show (lcgN m (m + 1 + k) * 5 + 1) % (m + 1) = _
    rw [ih] <;> rfl
/-- each slot begins one of the runs -/
theorem Mok.starts (g : Mok m) (h : Int) {j : Nat} (hj : j ≤ m) : ∃ n, n ≤ m + 12 ∧ runI m (SetTable.bits h) n = j := by
  obtain ⟨a, ha, ea⟩ := g.all _ (runI_le m (SetTable.bits h) 12)
  obtain ⟨b, hb, eb⟩ := g.all j hj
  have key : ∀ c, a ≤ c → c ≤ a + m → lcgN m c = j → ∃ n, n ≤ m + 12 ∧ runI m (SetTable.bits h) n = j := fun c h1 h2 e => by
    refine ⟨12 + (c - a), by omega, ?_⟩
    rw [runI_tail (bits_lt h), ← ea, lcgN_add, show a + (c - a) = c by omega, e]
  rcases Nat.lt_or_ge b a with c | c
  · exact key (m + 1 + b) (by omega) (by omega) (by rw [g.again, eb])
  · exact key b c (by omega) eb
theorem Mok.meets (g : Mok m) (h : Int) {j : Nat} (hj : j ≤ m) : ∃ k, k < 10 * SetTable.turns m ∧ way m h k = j := by
  obtain ⟨n, hn, e⟩ := g.starts h hj
  obtain ⟨k, hk, e2⟩ := run_nth m (SetTable.bits h) n
  have ht : SetTable.turns m = m + 15 := rfl
  refine ⟨k, by omega, ?_⟩
  show (nth m _ k).j = j
  rw [e2, ← e] <;> rfl
/-- the first place on the way of which p is true -/
theorem way_first {p : Nat → Prop} {h : Int} {n : Nat} (hp : p (way m h n)) : ∃ K, K ≤ n ∧ p (way m h K) ∧ ∀ k, k < K → ¬ p (way m h k) :=
  st_least (p := fun k => p (way m h k)) n hp
theorem way_in (h : Int) (k : Nat) : way m h k ≤ m := by
  have r := runEnd_ge m (SetTable.bits h % (m + 1))
  have hi := Nat.mod_lt (SetTable.bits h) (Nat.succ_pos m)
  have b := runEnd_bd (Nat.le_of_lt_succ hi)
  rw [Nat.succ_eq_add_one] at hi b
  have q := nth_in (m := m) k (runAt m (SetTable.bits h % (m + 1)) (SetTable.bits h)) (show SetTable.bits h % (m + 1) + (SetTable.runEnd m (SetTable.bits h % (m + 1)) - SetTable.bits h % (m + 1)) ≤ m by omega)
  exact Nat.le_trans (Nat.le_add_right _ _) q
/-- some place of a short list's complement is on the way, early -/
theorem Mok.free (g : Mok m) (h : Int) {l : List Nat} (hl : l.length ≤ m) : ∃ K, K < 10 * SetTable.turns m ∧ way m h K ∉ l ∧ ∀ k, k < K → way m h k ∈ l := by
  obtain ⟨j, hj, hn⟩ := st_missing l (m + 1) (Nat.lt_succ_of_le hl)
  obtain ⟨n, hn2, e⟩ := g.meets h (Nat.le_of_lt_succ hj)
  obtain ⟨K, a, b, c⟩ := way_first (m := m) (p := (· ∉ l)) (h := h) (n := n) (e ▸ hn)
  exact ⟨K, Nat.lt_of_le_of_lt a hn2, b, fun k hk => Classical.byContradiction (c k hk)⟩
end
/-! ### text R2 -/
set_option maxHeartbeats 400000
section
open PySem PySem.Spec PyProof.Rows L2
section
variable {α : Type} {hs : α → Int} {m : Nat}
/-- the table's rows: slot and member; each is met on its way -/
structure Tb (hs : α → Int) (t : SetTable) (Z : List (Nat × α)) : Prop where
  pl : t.place.toList = Z.map (·.1)
  ris : Ris (Z.map (·.1))
  dm : t.dummies = #[]
  gd : Mok t.mask
  rch : ∀ z ∈ Z, ∃ k, way t.mask (hs z.2) k = z.1 ∧ ∀ c, c < k → way t.mask (hs z.2) c ∈ Z.map (·.1)
variable {t : SetTable} {Z : List (Nat × α)}
theorem Tb.size (T : Tb hs t Z) : t.place.size = Z.length := by
  have e := congrArg List.length T.pl
  rwa [List.length_map, Array.length_toList] at e
theorem Tb.at_ (T : Tb hs t Z) {i j : Nat} (h : t.place.toList[i]? = some j) : ∃ z, Z[i]? = some z ∧ z.1 = j := by
  rw [T.pl, List.getElem?_map] at h
  exact Option.map_eq_some_iff.mp h
theorem Tb.before (T : Tb hs t Z) {z : Nat × α} (hz : z ∈ Z) {K : Nat} (hK : way t.mask (hs z.2) K ∉ Z.map (·.1)) : ∃ k, k < K ∧ way t.mask (hs z.2) k = z.1 := by
  obtain ⟨k, e, b⟩ := T.rch z hz
  have hm : z.1 ∈ Z.map (·.1) := List.mem_map.mpr ⟨z, hz, rfl⟩
  refine ⟨k, ?_, e⟩
  rcases Nat.lt_trichotomy k K with c | c | c
  · exact c
  · rw [← c, e] at hK
    exact absurd hm hK
  · exact absurd (b K c) hK
/-- one more row -/
theorem Tb.put (T : Tb hs t Z) {x : α} {K : Nat} (hK : way t.mask (hs x) K ∉ Z.map (·.1)) (hb : ∀ c, c < K → way t.mask (hs x) c ∈ Z.map (·.1)) :
    ∃ p, p ≤ Z.length ∧ (t.put (way t.mask (hs x) K)).2 = p ∧ Tb hs (t.put (way t.mask (hs x) K)).1 (Z.take p ++ (way t.mask (hs x) K, x) :: Z.drop p) := by
  generalize hj : way t.mask (hs x) K = j at hK
  have ris : Ris t.place.toList := by rw [T.pl]; exact T.ris
  have cut := below_cut ris j
  have hp : SetTable.below t.place j ≤ Z.length := by
    rw [← T.size]
    exact cut.1
  have no : t.place[SetTable.below t.place j]? ≠ some j := fun e => by
    rw [← Array.getElem?_toList, T.pl] at e
    exact hK (List.mem_of_getElem? e)
  have pl : (t.put j).1.place.toList = (Z.take (SetTable.below t.place j) ++ (j, x) :: Z.drop (SetTable.below t.place j)).map (·.1) := by
    rw [put_place, T.pl, List.map_append, List.map_cons, List.map_take, List.map_drop]
  have r2 : Ris (t.put j).1.place.toList := ris_insert ris no
  refine ⟨_, hp, rfl, pl, pl ▸ r2, put_dm T.dm j, T.gd, fun z hz => ?_⟩
  have up : ∀ {y : Nat}, y ∈ Z.map (·.1) → y ∈ (Z.take (SetTable.below t.place j) ++ (j, x) :: Z.drop (SetTable.below t.place j)).map (·.1) := fun {y} hy => by
    obtain ⟨q, hq, e⟩ := List.mem_map.mp hy
    exact List.mem_map.mpr ⟨q, mem_ins.2 (.inr hq), e⟩
  rcases mem_ins.1 hz with e | e
  · rw [e]
    exact ⟨K, hj, fun c hc => up (hb c hc)⟩
  · obtain ⟨k, a, b⟩ := T.rch z e
    exact ⟨k, a, fun c hc => up (b c hc)⟩

/-! ### laid anew -/
theorem Mok.find (g : Mok m) (owner : Array (Option Nat)) (h : Int) {j : Nat} (hj : j ≤ m) (hf : oAt owner j = none) :
    ∃ K, SetTable.layClean.free m owner (SetTable.turns m) (SetTable.bits h % (m + 1)) (SetTable.bits h) = some (way m h K) ∧ oAt owner (way m h K) = none ∧ ∀ k, k < K → ¬ oAt owner (way m h k) = none := by
  obtain ⟨n, hn, e⟩ := g.starts h hj
  have hw : way m h (off m (SetTable.bits h % (m + 1)) (SetTable.bits h) n) = j := by
    show (nth m _ _).j = j
    rw [nth_off, itL_run, ← e] <;> rfl
  obtain ⟨K, a, b, c⟩ := way_first (m := m) (p := fun i => oAt owner i = none) (h := h) (n := off m (SetTable.bits h % (m + 1)) (SetTable.bits h) n) (hw.symm ▸ hf)
  have ht : SetTable.turns m = m + 15 := rfl
  refine ⟨K, free_spec m owner _ n _ _ K (by omega) a (fun k hk => ?_) ?_, b, c⟩
  · exact Bool.eq_false_iff.mpr fun z => c k hk (Option.isNone_iff_eq_none.mp z)
  · exact Option.isNone_iff_eq_none.mpr b
theorem Mok.own (g : Mok m) {done : List Int} {owner : Array (Option Nat)} (W : Own m done owner) (hl : done.length ≤ m) (h : Int) :
    ∃ j, SetTable.layClean.free m owner (SetTable.turns m) (SetTable.bits h % (m + 1)) (SetTable.bits h) = some j ∧ Own m (done ++ [h]) (owner.setIfInBounds j (some done.length)) := by
  obtain ⟨ps, e1, e2⟩ := W.ps
  have ⟨j0, hj0, hf⟩ : ∃ j, j ≤ m ∧ oAt owner j = none := Classical.byContradiction fun no => by
    have q := nat_nodup_len (List.range (m + 1)) ps List.nodup_range fun x hx => e2 x (Nat.le_of_lt_succ (List.mem_range.mp hx)) fun z => no ⟨x, Nat.le_of_lt_succ (List.mem_range.mp hx), z⟩
    rw [List.length_range] at q
    omega
  obtain ⟨K, a, b, c⟩ := g.find owner h hj0 hf
  have hjm := way_in (m := m) h K
  generalize hj : way m h K = j at a b hjm
  have self : oAt (owner.setIfInBounds j (some done.length)) j = some done.length := oAt_set_self _ (W.sz ▸ Nat.lt_succ_of_le hjm)
  have other : ∀ i, i ≠ j → oAt (owner.setIfInBounds j (some done.length)) i = oAt owner i := fun i hi => oAt_set_ne _ hi
  have stays : ∀ i, oAt owner i ≠ none → oAt (owner.setIfInBounds j (some done.length)) i ≠ none := fun i hi => by
    rw [other i fun z => hi (z ▸ b)]
    exact hi
  have hlen : (done ++ [h]).length = done.length + 1 := List.length_append
  refine ⟨j, a, { sz := by rw [Array.size_setIfInBounds, W.sz], at_ := fun i k hi e => ?_, all := fun k hk => ?_, ps := ⟨j :: ps, by rw [List.length_cons, hlen, e1], fun i hi e => ?_⟩ }⟩
  · rcases Classical.em (i = j) with z | z
    · subst z
      rw [self] at e
      cases e
      exact ⟨h, K, by rw [List.getElem?_append_right (Nat.le_refl _), Nat.sub_self] <;> rfl, hj, fun k hk => stays _ (c k hk)⟩
    · rw [other i z] at e
      obtain ⟨x, K2, q1, q2, q3⟩ := W.at_ i k hi e
      exact ⟨x, K2, by rw [List.getElem?_append_left (List.getElem?_eq_some_iff.mp q1).1, q1], q2, fun k hk => stays _ (q3 k hk)⟩
  · rcases Nat.lt_or_ge k done.length with z | z
    · obtain ⟨i, q1, q2⟩ := W.all k z
      refine ⟨i, q1, ?_⟩
      have ne : i ≠ j := fun y => by
        rw [y, b] at q2
        cases q2
      rw [other i ne]
      exact q2
    · exact ⟨j, hjm, by rw [self, show done.length = k by omega]⟩
  · rcases Classical.em (i = j) with z | z
    · exact z ▸ List.mem_cons_self
    · rw [other i z] at e
      exact List.mem_cons_of_mem _ (e2 i hi e)
theorem Mok.owns (g : Mok m) (rest : List Int) : ∀ (done : List Int) (owner : Array (Option Nat)), Own m done owner → done.length + rest.length ≤ m →
    ∃ o, rest.foldl (stepF m) (some (owner, done.length)) = some (o, (done ++ rest).length) ∧ Own m (done ++ rest) o := by
  induction rest with
  | nil => intro done owner W _; exact ⟨owner, by rw [List.append_nil] <;> rfl, by rw [List.append_nil]; exact W⟩
  | cons h rest ih =>
    intro done owner W hl
    rw [List.length_cons] at hl
    obtain ⟨j, e, W2⟩ := g.own W (by omega) h
    have hd : (done ++ [h]).length = done.length + 1 := List.length_append
    have q := ih (done ++ [h]) _ W2 (by omega)
    rw [List.append_assoc, hd, ← stepF_some e] at q
    exact q
theorem range_get {β : Type} : ∀ l : List β, (List.range l.length).filterMap (fun i => l[i]?) = l
  | [] => rfl
  | x :: l => by
    rw [List.length_cons, List.range_succ_eq_map, List.filterMap_cons_some (f := fun i => (x :: l)[i]?) (a := 0) (b := x) rfl, List.filterMap_map]
    exact congrArg (x :: ·) (range_get l)
theorem get_rows {β : Type} {f : α → β} {xs : List α} {es : List β} (he : es = xs.map f) : ∀ l : List (Nat × Nat), (∀ q ∈ l, q.2 < xs.length) →
    ∃ Z : List (Nat × α), Z.map (·.1) = l.map (·.1) ∧ Z.map (·.2) = (l.map (·.2)).filterMap (fun i => xs[i]?) ∧ (l.map (·.2)).filterMap (fun i => es[i]?) = Z.map (fun z => f z.2) ∧ ∀ z ∈ Z, ∃ q ∈ l, q.1 = z.1 ∧ xs[q.2]? = some z.2
  | [], _ => ⟨[], rfl, rfl, rfl, fun z h => nomatch h⟩
  | q :: l, h => by
    obtain ⟨Z, a, b, c, d⟩ := get_rows he l fun r hr => h r (List.mem_cons_of_mem _ hr)
    have e := List.getElem?_eq_getElem (h q List.mem_cons_self)
    have e2 : es[q.2]? = some (f (xs[q.2]'(h q List.mem_cons_self))) := by rw [he, List.getElem?_map, e] <;> rfl
    refine ⟨(q.1, xs[q.2]'(h q List.mem_cons_self)) :: Z, ?_, ?_, ?_, fun z hz => ?_⟩
    · rw [List.map_cons, List.map_cons, a]
    · rw [List.map_cons, List.map_cons, List.filterMap_cons_some e, b]
    · rw [List.map_cons, List.map_cons, List.filterMap_cons_some e2, c]
    · rcases List.mem_cons.mp hz with k | k
      · exact ⟨q, List.mem_cons_self, by rw [k], by rw [k]; exact e⟩
      · obtain ⟨r, hr, k2⟩ := d z k
        exact ⟨r, List.mem_cons_of_mem _ hr, k2⟩
theorem relaid_tb {val : α → Value} {xs : List α} {es : Array (Int × Value)} (he : es.toList = xs.map fun x => (hs x, val x)) {wanted M : Nat} (hM : SetTable.sizeAbove wanted - 1 = M) (g : Mok M) (hl : xs.length ≤ M) (t : SetTable) :
    ∃ t' order Z, t.relaid (es.map (·.1)) wanted = some (t', order) ∧ Tb hs t' Z ∧ (Z.map (·.2)).Perm xs ∧ (order.filterMap (es[·]?)).toList = Z.map (fun z => (hs z.2, val z.2)) ∧ t'.mask = M ∧ t'.led = t.led := by
  have hh : (es.map (·.1)).toList = xs.map hs := by
    rw [Array.toList_map, he, List.map_map] <;> rfl
  obtain ⟨o, f, W⟩ := g.owns (xs.map hs) [] _ (Own.init M) (by rw [List.length_map]; show 0 + _ ≤ _; omega)
  rw [List.nil_append] at W f
  have lay : SetTable.layClean M (es.map (·.1)) = some o := by
    rw [layClean_eq, hh, show (some (Array.replicate (M + 1) none, 0) : Option (Array (Option Nat) × Nat)) = some (Array.replicate (M + 1) none, ([] : List Int).length) from rfl, f] <;> rfl
  have hr : t.relaid (es.map (·.1)) wanted = some (tabOf t M o, ((liveOf M o).map (·.2)).toArray) := by
    rw [relaid_eq, hM, lay] <;> rfl
  have ml : ∀ {j k : Nat}, (j, k) ∈ liveOf M o ↔ j ≤ M ∧ oAt o j = some k := mem_live W.sz
  have r1 : Ris ((liveOf M o).map (·.1)) := (ris_live (fun j => o.getD j none) (List.range (M + 1)) List.pairwise_lt_range).1
  have hk : ∀ q ∈ liveOf M o, q.2 < xs.length := fun q hq => by
    obtain ⟨a, b⟩ := ml.1 (show (q.1, q.2) ∈ liveOf M o from hq)
    obtain ⟨x, K, c, _⟩ := W.at_ _ _ a b
    have d := (List.getElem?_eq_some_iff.mp c).1
    rwa [List.length_map] at d
  have pr : ((liveOf M o).map (·.2)).Perm (List.range xs.length) := by
    obtain ⟨ps, p1, p2⟩ := W.ps
    rw [List.length_map] at p1
    have nd : ((liveOf M o).map (fun x => x.1)).Nodup := List.Pairwise.imp (fun h => Nat.ne_of_lt h) r1
    have n1 := nat_nodup_len ((liveOf M o).map (fun x => x.1)) ps nd fun x hx => by
      obtain ⟨⟨j, k⟩, hq, rfl⟩ := List.mem_map.mp hx
      obtain ⟨a, b⟩ := ml.1 hq
      exact p2 j a (by rw [b]; exact fun z => nomatch z)
    have all : ∀ k, k < xs.length → k ∈ (liveOf M o).map (·.2) := fun k hk => by
      obtain ⟨j, a, b⟩ := W.all k (by rw [List.length_map]; exact hk)
      exact List.mem_map.mpr ⟨(j, k), ml.2 ⟨a, b⟩, rfl⟩
    have n2 := nat_nodup_len (List.range xs.length) ((liveOf M o).map (·.2)) List.nodup_range fun k hk => all k (List.mem_range.mp hk)
    rw [List.length_map] at n1 n2
    rw [List.length_range] at n2
    exact perm_range _ _ (by rw [List.length_map]; omega) all
  obtain ⟨Z, a, b, c, d⟩ := get_rows he (liveOf M o) hk
  have oc : ∀ i, oAt o i ≠ none → i ≤ M → i ∈ Z.map (·.1) := fun i hi hm => by
    rw [a]
    cases z : oAt o i with
    | none => exact absurd z hi
    | some k => exact List.mem_map.mpr ⟨(i, k), ml.2 ⟨hm, z⟩, rfl⟩
  refine ⟨_, _, Z, hr, ⟨?_, a ▸ r1, rfl, g, fun z hz => ?_⟩, ?_, ?_, rfl, rfl⟩
  · rw [a] <;> rfl
  · obtain ⟨⟨j, k⟩, hq, e1, e2⟩ := d z hz
    obtain ⟨q1, q2⟩ := ml.1 hq
    obtain ⟨x, K, w1, w2, w3⟩ := W.at_ j k q1 q2
    rw [List.getElem?_map, e2] at w1
    cases w1
    exact ⟨K, w2.trans e1, fun c hc => oc _ (w3 c hc) (way_in _ _)⟩
  · rw [b]
    have q := pr.filterMap fun i => xs[i]?
    rwa [range_get] at q
  · rw [← c, Array.toList_filterMap]
    simp only [Array.getElem?_toList]
end
end
/-! ### text R3 -/
set_option maxHeartbeats 400000
section
open PySem PySem.Spec PyProof.Rows L2
section
variable {P : Program} {w : World} {A : Around} {E : Value → Shared → Prop} {s : Shared} {κ : Type} [DecidableEq κ] {kn : KeyKind P w κ}
/-! ### small questions -/
theorem ofA_val (n : Nat) {v : Value} (h : carriedByValue v = true) : ofAClassStatement n v = pure false := by
  cases v with
  | ref a => exact absurd h (by simp [carriedByValue])
  | _ => cases n <;> rfl
theorem hashBy_val (n : Nat) {v : Value} (h : carriedByValue v = true) : ∃ b, hashByValue n v = pure b := by
  cases v with
  | ref a => exact absurd h (by simp [carriedByValue])
  | _ => cases n <;> exact ⟨_, rfl⟩
theorem ofA_tup {k : List κ} {b : Addr} {Q : Bool → Shared → Prop} (hk : IsTupleKey kn s.heap k b) (h : Q false s) : wpAny (model P w) A (ofAClassStatement 8 (.ref b)) Q E s := by
  have hT := hk.typeIs
  obtain ⟨o, its, n, ho, hc, hd, hi⟩ := hk
  unfold ofAClassStatement
  refine wpAny_bind (wpAny_typeOf hT ?_)
  have yes : (("tuple" : String) == "tuple") = true := by decide
  simp only [yes, ↓reduceIte]
  refine wpAny_bind (wpAny_pure ?_)
  simp only [Bool.not_true, Bool.false_eq_true, ↓reduceIte]
  refine wpAny_bind (wpAny_seqItems ho hd ?_)
  dsimp only
  refine wpAny_bind ?_
  rw [← Array.forIn_toList]
  refine wpAny_forIn_list _ (fun l r s' => (r.1 = none ∧ s' = s) ∧ ∀ v ∈ l, carriedByValue v = true) _ (fun v l r s' I => ?_) (fun r s' I => ?_) _ _ ⟨⟨rfl, rfl⟩, hi.byValue⟩
  · obtain ⟨⟨e1, e2⟩, al⟩ := I
    subst e2
    rw [ofA_val _ (al v List.mem_cons_self)]
    refine wpAny_bind (wpAny_pure ?_)
    simp only [Bool.false_eq_true, ↓reduceIte]
    exact wpAny_pure ⟨⟨rfl, rfl⟩, fun u hu => al u (List.mem_cons_of_mem _ hu)⟩
  · obtain ⟨r1, r2⟩ := r
    obtain ⟨⟨e1, e2⟩, _⟩ := I
    subst e2
    dsimp only at e1
    subst e1
    exact wpAny_pure h
theorem hashBy_tupK {k : List κ} {b : Addr} {Q : Bool → Shared → Prop} (hk : IsTupleKey kn s.heap k b) (h : ∀ y, Q y s) : wpAny (model P w) A (hashByValue 8 (.ref b)) Q E s := by
  have hT := hk.typeIs
  obtain ⟨o, its, n, ho, hc, hd, hi⟩ := hk
  unfold hashByValue
  refine wpAny_bind (wpAny_specialOf hT F.slot_tuple_hash.lookup ?_)
  refine wpAny_bind (m := seqItems? (.ref b)) (wpAny_seqItems ho hd ?_)
  dsimp only [Option.getD]
  refine wpAny_bind ?_
  rw [← Array.forIn_toList]
  refine wpAny_forIn_list _ (fun l r s' => s' = s ∧ r.1 = none ∧ ∀ v ∈ l, carriedByValue v = true) _ (fun v l r s' I => ?_) (fun r s' I => ?_) _ _ ⟨rfl, rfl, hi.byValue⟩
  · obtain ⟨e2, e1, al⟩ := I
    subst e2
    obtain ⟨y, hy⟩ := hashBy_val 7 (al v List.mem_cons_self)
    rw [hy]
    refine wpAny_bind (wpAny_pure ?_)
    cases y with
    | true =>
      simp only [Bool.not_true, Bool.false_eq_true, ↓reduceIte]
      exact wpAny_pure ⟨rfl, rfl, fun u hu => al u (List.mem_cons_of_mem _ hu)⟩
    | false =>
      simp only [Bool.not_false, ↓reduceIte]
      exact wpAny_pure (wpAny_pure (h false))
  · obtain ⟨r1, r2⟩ := r
    obtain ⟨e2, e1, _⟩ := I
    subst e2
    dsimp only at e1
    subst e1
    exact wpAny_pure (h true)
theorem seen_tupK {k : List κ} {b : Addr} {Q : Bool → Shared → Prop} (hk : IsTupleKey kn s.heap k b) {ys : List Value} (hy : ∀ y ∈ ys, ∃ k' c, y = Value.ref c ∧ IsTupleKey kn s.heap k' c) (h : Q false s) :
    wpAny (model P w) A (searchCouldBeSeen (.ref b) ys) Q E s := by
  unfold searchCouldBeSeen
  refine wpAny_bind (wpAny_forIn_list _ (fun l r s' => (r.1 = none ∧ s' = s) ∧ ∀ y ∈ l, ∃ k' c, y = Value.ref c ∧ IsTupleKey kn s.heap k' c) _ (fun v l r s' I => ?_) (fun r s' I => ?_) _ _ ⟨⟨rfl, rfl⟩, hy⟩)
  · obtain ⟨⟨e1, e2⟩, al⟩ := I
    subst e2
    obtain ⟨k', c, e, hc⟩ := al v List.mem_cons_self
    subst e
    have more : ∀ y ∈ l, ∃ k' c, y = Value.ref c ∧ IsTupleKey kn s'.heap k' c := fun u hu => al u (List.mem_cons_of_mem _ hu)
    dsimp only
    cases hv : (b == c || (carriedByValue (.ref b) && carriedByValue (.ref c))) with
    | true =>
      simp only [↓reduceIte]
      exact wpAny_pure ⟨⟨rfl, rfl⟩, more⟩
    | false =>
      simp only [Bool.false_eq_true, ↓reduceIte]
      refine wpAny_bind (wpAny_eqIsQuiet_tuple hk ?_)
      simp only [Bool.not_true, Bool.false_eq_true, ↓reduceIte]
      refine wpAny_bind (wpAny_eqIsQuiet_tuple hc ?_)
      simp only [Bool.not_true, Bool.false_eq_true, ↓reduceIte]
      refine wpAny_bind (ofA_tup hk ?_)
      simp only [Bool.false_eq_true, ↓reduceIte]
      refine wpAny_bind (ofA_tup hc ?_)
      simp only [Bool.false_eq_true, ↓reduceIte]
      exact wpAny_pure ⟨⟨rfl, rfl⟩, more⟩
  · obtain ⟨r1, r2⟩ := r
    obtain ⟨⟨e1, e2⟩, _⟩ := I
    subst e2
    dsimp only at e1
    subst e1
    exact wpAny_pure h

/-! ### the set at its address -/
abbrev keyH (kn : KeyKind P w κ) (p : Addr × List κ) : Int := tupleKeyHash kn p.2
/-- Z: slot, tuple's address, key, in the table's order -/
structure SetK (kn : KeyKind P w κ) (h : Heap) (a : Addr) (es : Array (Int × Value)) (ep : Nat) (t : SetTable) (Z : List (Nat × Addr × List κ)) : Prop where
  ob : ∃ o, h.get? a = some o ∧ o.ExactSet ∧ o.data = .set es ep t
  rows : es.toList = Z.map fun z => (keyH kn z.2, Value.ref z.2.1)
  tab : Tb (keyH kn) t Z
  nd : (Z.map (·.2.2)).Nodup
  tup : ∀ z ∈ Z, IsTupleKey kn h z.2.2 z.2.1
  led : w.params.followText "set-order" = true ∨ t.led = true
  room : Z.length * 5 < t.mask * 3
variable {a : Addr} {es : Array (Int × Value)} {ep : Nat} {t : SetTable} {Z : List (Nat × Addr × List κ)}
theorem SetK.size (R : SetK kn s.heap a es ep t Z) : es.size = Z.length := by
  rw [← Array.length_toList, R.rows, List.length_map]
theorem fits_of (T : Tb (keyH kn) t Z) (hz : es.size = Z.length) (hr : Z.length ≤ t.mask) : t.fits es.size = true := by
  have e := T.size
  unfold SetTable.fits SetTable.fill
  rw [T.dm]
  simp only [Bool.and_eq_true, beq_iff_eq, decide_eq_true_eq, List.size_toArray, List.length_nil]
  omega
theorem SetK.fits (R : SetK kn s.heap a es ep t Z) : t.fits es.size = true := fits_of R.tab R.size (by have := R.room; omega)
theorem SetK.ent (R : SetK kn s.heap a es ep t Z) {i : Nat} {z : Nat × Addr × List κ} (h : Z[i]? = some z) : es[i]? = some (keyH kn z.2, Value.ref z.2.1) := by
  rw [← Array.getElem?_toList, R.rows, List.getElem?_map, h] <;> rfl
theorem SetK.notGw (R : SetK kn s.heap a es ep t Z) : t.gaveWay = false := by
  unfold SetTable.gaveWay
  rw [R.tab.gd.odd] <;> rfl
theorem SetK.ris (R : SetK kn s.heap a es ep t Z) : Ris t.place.toList := by
  rw [R.tab.pl]
  exact R.tab.ris
/-- the probe after c steps -/
abbrev stK (m : Nat) (h : Int) (c : Nat) : SetTable.Probe := nth m (runAt m (SetTable.bits h % (m + 1)) (SetTable.bits h)) c
theorem stK_dummy (m : Nat) : ∀ (n : Nat) (p : SetTable.Probe), p.dummy = none → (nth m p n).dummy = none
  | 0, _, e => e
  | n + 1, p, e => stK_dummy m n (adv m p) (by
    unfold adv
    split
    · exact e
    · exact e)
/-- the search for a key, from the c-th step on -/
theorem seekK (R : SetK kn s.heap a es ep t Z) {x : Addr} {k : List κ} (hx : IsTupleKey kn s.heap k x) (hu : A.units < cLine) {H : Int} (hH : H = tupleKeyHash kn k) {K : Nat} (hKf : K < 10 * SetTable.turns t.mask)
    (hK : way t.mask H K ∉ Z.map (·.1)) (hb : ∀ c, c < K → way t.mask H c ∈ Z.map (·.1)) {Q : SetFound → Shared → Prop}
    (hin : k ∈ Z.map (·.2.2) → Q (.there none) s) (hout : k ∉ Z.map (·.2.2) → Q (.free (way t.mask H K) false) s) (f : Nat) :
    ∀ (c : Nat) (stand : Option SetTable.Probe), stand.getD (t.probeStart H) = stK t.mask H c → c ≤ K → K - c < f → (∀ z ∈ Z, z.2.2 = k → ∃ c', c ≤ c' ∧ c' < K ∧ way t.mask H c' = z.1) →
      wpAny (model P w) A (setSearchFrom a (.ref x) H true f stand) Q E s := by
  induction f with
  | zero => intro c stand _ _ hf _; exact absurd hf (Nat.not_lt_zero _)
  | succ f ih =>
    intro c stand hst hc hf hre
    obtain ⟨o, ho, hex, hd⟩ := R.ob
    have pl := R.tab.pl
    rw [setSearchFrom_succ]
    refine wpAny_bind (wpAny_setState_of ho hd R.fits ?_)
    dsimp only
    rw [R.notGw]
    simp only [Bool.false_eq_true, ↓reduceIte]
    have wy : ∀ q, (nth t.mask (stK t.mask H c) q).j = way t.mask H (c + q) := fun q => congrArg SetTable.Probe.j (nth_add t.mask c _ q).symm
    have sp := go_spec t R.ris R.tab.dm (fun i => (es[i]?.map (·.1)).getD 0) H (10 * SetTable.turns t.mask) (K - c) (stK t.mask H c) (stK_dummy _ _ _ rfl) (by omega)
      (fun q hq => by rw [wy, pl]; exact hb _ (by omega)) (by rw [wy, pl, show c + (K - c) = K by omega]; exact hK)
    rw [show t.probe (fun i => (es[i]?.map (·.1)).getD 0) H (stand.getD (t.probeStart H)) = SetTable.probe.go t (fun i => (es[i]?.map (·.1)).getD 0) H (10 * SetTable.turns t.mask) (stK t.mask H c) from by rw [hst] <;> rfl]
    -- a row of the key wasn't met before, unless it is met here
    have pass : ∀ n, (∀ q i, q < n → t.place.toList[i]? = some (nth t.mask (stK t.mask H c) q).j → (es[i]?.map (fun e : Int × Value => e.1)).getD 0 ≠ H) → ∀ z ∈ Z, z.2.2 = k → ∃ c', c + n ≤ c' ∧ c' < K ∧ way t.mask H c' = z.1 := fun n no z hz hk => by
      obtain ⟨c', h1, h2, h3⟩ := hre z hz hk
      refine ⟨c', ?_, h2, h3⟩
      rcases Nat.lt_or_ge c' (c + n) with y | y
      · exfalso
        obtain ⟨i, hi⟩ := List.mem_iff_getElem?.mp hz
        refine no (c' - c) i (by omega) ?_ ?_
        · rw [wy, show c + (c' - c) = c' by omega, pl, List.getElem?_map, hi, h3] <;> rfl
        · show (es[i]?.map (·.1)).getD 0 = H
          rw [R.ent hi, hH, ← hk] <;> rfl
      · exact y
    rcases sp with ⟨q, i, hq, hi, hh, hno, hpr⟩ | ⟨hno, hpr⟩
    · rw [hpr]
      dsimp only
      rw [wy] at hi ⊢
      obtain ⟨z, hz, hzj⟩ := R.tab.at_ hi
      have mem : z ∈ Z := List.mem_of_getElem? hz
      have hzt := R.tup z mem
      have go : wpAny (model P w) A (searchRest a (.ref x) H true f es t (way t.mask H (c + q)) i (nth t.mask (stK t.mask H c) (q + 1))) Q E s := by
        unfold searchRest
        rw [R.ent hz]
        dsimp only
        refine wpAny_bind (wpAny_holding (wpAny_eqBool_tuple hu hzt hx ?_))
        refine wpAny_bind (wpAny_setState_of ho hd R.fits ?_)
        dsimp only
        rcases Classical.em (z.2.2 = k) with y | y
        · rw [decide_eq_true y]
          exact wpAny_pure (hin (List.mem_map.mpr ⟨z, mem, y⟩))
        · rw [decide_eq_false y, sameMem]
          have live : t.slot (way t.mask H (c + q)) = .live i := slot_live R.ris hi
          simp only [Bool.and_false, Bool.false_eq_true, ↓reduceIte, live, R.ent hz]
          refine wpAny_bind (wpAny_isSame_ref_self (wpAny_bind (wpAny_pure ?_)))
          simp only [↓reduceIte, Bool.false_eq_true]
          refine ih (c + (q + 1)) _ (nth_add t.mask c _ (q + 1)).symm (by omega) (by omega) fun z' hz' hk' => ?_
          obtain ⟨c', h1, h2, h3⟩ := pass q hno z' hz' hk'
          refine ⟨c', ?_, h2, h3⟩
          rcases Nat.lt_or_ge (c + q) c' with e | e
          · omega
          · exfalso
            have e' : c' = c + q := by omega
            rw [e', ← hzj] at h3
            obtain ⟨i', hi'⟩ := List.mem_iff_getElem?.mp hz'
            have live' : t.slot z'.1 = .live i' := slot_live R.ris (by rw [pl, List.getElem?_map, hi'] <;> rfl)
            rw [← h3, hzj, live] at live'
            injection live' with ei
            rw [← ei, hz] at hi'
            exact y (by rw [Option.some.inj hi']; exact hk')
      cases hl : t.led with
      | true =>
        simp only [Bool.not_true, Bool.false_eq_true, ↓reduceIte]
        exact go
      | false =>
        simp only [Bool.not_false, ↓reduceIte]
        refine wpAny_bind (seen_tupK hx (fun y hy => ?_) ?_)
        · obtain ⟨e, he, ee⟩ := List.mem_map.mp hy
          have he2 : e ∈ es.toList := by
            have q1 : e ∈ es ∧ e.1 = H := by simpa using he
            simpa using q1.1
          rw [R.rows] at he2
          obtain ⟨z2, hz2, e2⟩ := List.mem_map.mp he2
          exact ⟨_, z2.2.1, by rw [← ee, ← e2], R.tup z2 hz2⟩
        · simp only [Bool.false_eq_true, ↓reduceIte]
          exact go
    · rw [hpr]
      dsimp only
      rw [wy, show c + (K - c) = K by omega]
      refine wpAny_pure (hout fun hm => ?_)
      obtain ⟨z, hz, hk⟩ := List.mem_map.mp hm
      obtain ⟨c', h1, h2, _⟩ := pass (K - c) hno z hz hk
      omega
theorem searchK (R : SetK kn s.heap a es ep t Z) {x : Addr} {k : List κ} (hx : IsTupleKey kn s.heap k x) (hu : A.units < cLine) {Q : SetFound → Shared → Prop} (hin : k ∈ Z.map (·.2.2) → Q (.there none) s)
    (hout : ∀ K, k ∉ Z.map (·.2.2) → way t.mask (tupleKeyHash kn k) K ∉ Z.map (·.1) → (∀ c, c < K → way t.mask (tupleKeyHash kn k) c ∈ Z.map (·.1)) → Q (.free (way t.mask (tupleKeyHash kn k) K) false) s) :
    wpAny (model P w) A (setSearch a (.ref x) (tupleKeyHash kn k) true) Q E s := by
  have hr := R.room
  obtain ⟨K, h1, h2, h3⟩ := R.tab.gd.free (tupleKeyHash kn k) (l := Z.map (fun z => z.1)) (by rw [List.length_map]; omega)
  have ht : SetTable.turns t.mask = t.mask + 15 := rfl
  have hm := R.tab.gd.le
  unfold setSearch
  refine seekK R hx hu rfl h1 h2 h3 hin (fun n => hout K n h2 h3) 100000 0 none rfl (Nat.zero_le _) (by omega) fun z hz hk => ?_
  have e : keyH kn z.2 = tupleKeyHash kn k := congrArg (tupleKeyHash kn) hk
  obtain ⟨c, h4, h5⟩ := R.tab.before hz (K := K) (by rw [e]; exact h2)
  exact ⟨c, Nat.zero_le _, h4, by rw [← e]; exact h5⟩
end
end
/-! ### text R4 -/
set_option maxHeartbeats 400000
section
open PySem PySem.Spec PyProof.Rows L2
/-- the masks that come up to 1228 members -/
def MskK (m : Nat) : Prop := m = 7 ∨ m = 31 ∨ m = 127 ∨ m = 511 ∨ m = 2047
theorem size5 : SetTable.sizeAbove (SetTable.grown 5) = 32 := by decide +kernel
theorem size19 : SetTable.sizeAbove (SetTable.grown 19) = 128 := by decide +kernel
theorem size77 : SetTable.sizeAbove (SetTable.grown 77) = 512 := by decide +kernel
theorem size307 : SetTable.sizeAbove (SetTable.grown 307) = 2048 := by decide +kernel
/-- full once more: the next size -/
theorem msk_next {m n : Nat} (hm : MskK m) (h1 : (n - 1) * 5 < m * 3) (h2 : n * 5 ≥ m * 3) (h3 : n < 1228) :
    ∃ M, SetTable.sizeAbove (SetTable.grown n) = M + 1 ∧ Mok M ∧ MskK M ∧ n * 5 < M * 3 ∧ M ≤ 2047 ∧ n ≤ m := by
  rcases hm with e | e | e | e | e <;> subst e
  · have e : n = 5 := by omega
    subst e
    exact ⟨31, size5, mok31, by unfold MskK; omega, by omega, by omega, by omega⟩
  · have e : n = 19 := by omega
    subst e
    exact ⟨127, size19, mok127, by unfold MskK; omega, by omega, by omega, by omega⟩
  · have e : n = 77 := by omega
    subst e
    exact ⟨511, size77, mok511, by unfold MskK; omega, by omega, by omega, by omega⟩
  · have e : n = 307 := by omega
    subst e
    exact ⟨2047, size307, mok2047, by unfold MskK; omega, by omega, by omega, by omega⟩
  · omega
section
variable {P : Program} {w : World} {A : Around} {E : Value → Shared → Prop} {s : Shared} {κ : Type} [DecidableEq κ] {kn : KeyKind P w κ}
theorem tup_but {h h' : Heap} {k : List κ} {a b : Addr} {o : Obj} {es : Array (Int × Value)} {ep : Nat} {t : SetTable} (hb : IsTupleKey kn h k b) (ho : h.get? a = some o) (hd : o.data = .set es ep t) (sb : Heap.SameBut a h h') : IsTupleKey kn h' k b := by
  obtain ⟨p, its, n, hp, hc, hdp, hi⟩ := hb
  have ne : b ≠ a := fun e => by
    rw [e, ho] at hp
    rw [← Option.some.inj hp, hd] at hdp
    cases hdp
  exact ⟨p, its, n, by rw [sb.2 b ne, hp], hc, hdp, hi⟩
variable {a : Addr} {es : Array (Int × Value)} {ep : Nat} {t : SetTable} {Z : List (Nat × Addr × List κ)}
theorem relayK {o : Obj} (ho : s.heap.get? a = some o) (hex : o.ExactSet) (hd : o.data = .set es ep t) (rows : es.toList = Z.map fun z => (keyH kn z.2, Value.ref z.2.1)) (tab : Tb (keyH kn) t Z) (nd : (Z.map (·.2.2)).Nodup)
    (tup : ∀ z ∈ Z, IsTupleKey kn s.heap z.2.2 z.2.1) (led : w.params.followText "set-order" = true ∨ t.led = true) (hl : Z.length ≤ t.mask) {wanted M : Nat} (hM : SetTable.sizeAbove wanted = M + 1) (g : Mok M) (hr : Z.length * 5 < M * 3) {Q : Unit → Shared → Prop}
    (hQ : ∀ h' es' ep' t' Z', Heap.SameBut a s.heap h' → SetK kn h' a es' ep' t' Z' → t'.mask = M → (Z'.map (·.2)).Perm (Z.map (·.2)) → Q () { s with heap := h' }) : wpAny (model P w) A (setRelay a wanted) Q E s := by
  have sz : es.size = Z.length := by rw [← Array.length_toList, rows, List.length_map]
  have fit := fits_of tab sz hl
  have he : es.toList = (Z.map (·.2)).map fun x => (keyH kn x, Value.ref x.1) := by
    rw [rows, List.map_map] <;> rfl
  obtain ⟨t', order, Z', e1, T, pm, e2, em, el⟩ := relaid_tb (hs := keyH kn) (val := fun x => Value.ref x.1) he (wanted := wanted) (M := M) (by omega) g (by rw [List.length_map]; omega) t
  have lz : Z'.length = Z.length := by
    have q := pm.length_eq
    rwa [List.length_map, List.length_map] at q
  have s2 : (order.filterMap (es[·]?)).size = es.size := by
    rw [← Array.length_toList, e2, List.length_map, lz, sz]
  have hz : ∀ z' ∈ Z', ∃ z ∈ Z, z.2 = z'.2 := fun z' h => List.mem_map.mp (pm.mem_iff.mp (List.mem_map.mpr ⟨z', h, rfl⟩))
  have gm := g.le
  rw [setRelay_eq]
  refine wpAny_bind (wpAny_setState_of ho hd fit ?_)
  dsimp only
  rw [if_neg (by rw [hM, sizeLine_eq]; omega), e1]
  dsimp only
  refine wpAny_bind ?_
  have ns : ((order.filterMap (es[·]?)).size != es.size) = false := by rw [s2]; exact bne_self_eq_false _
  simp only [ns, Bool.false_eq_true, ↓reduceIte]
  refine wpAny_pure ?_
  dsimp only
  have sb : Heap.SameBut a s.heap (s.heap.update a (Obj.putSet (order.filterMap (es[·]?)) t')) := Heap.SameBut.update ..
  refine wpAny_storeSet_of ho hd (hQ _ _ (ep + 1) t' Z' sb ⟨⟨_, store_at ho hd, hex, rfl⟩, e2, T, ?_, fun z' h => ?_, by rw [el]; exact led, by rw [lz, em]; exact hr⟩ em pm) (by rw [s2, sz, sizeLine_eq]; omega)
  · have q := pm.map fun x => x.2
    rw [List.map_map, List.map_map] at q
    exact q.nodup_iff.mpr nd
  · obtain ⟨z, hz1, hz2⟩ := hz z' h
    rw [← hz2]
    exact tup_but (tup z hz1) ho hd sb
/-- adding one -/
theorem addK (R : SetK kn s.heap a es ep t Z) (hm : MskK t.mask) {x : Addr} {k : List κ} (hx : IsTupleKey kn s.heap k x) (hu : A.units < cLine) (few : Z.length + 1 < 1228) {Q : Bool → Shared → Prop}
    (hQ : ∀ b h' es' ep' t' Z', Heap.SameBut a s.heap h' → SetK kn h' a es' ep' t' Z' → MskK t'.mask → (k ∈ Z.map (·.2.2) → Z' = Z) → (k ∉ Z.map (·.2.2) → (Z'.map (·.2)).Perm ((x, k) :: Z.map (·.2))) → Q b { s with heap := h' }) :
    wpAny (model P w) A (setAddHashed a (.ref x) (tupleKeyHash kn k)) Q E s := by
  obtain ⟨o, ho, hex, hd⟩ := R.ob
  have sz := R.size
  have room := R.room
  unfold setAddHashed
  refine wpAny_holding ?_
  rw [show (100000 : Nat) = 99999 + 1 from rfl, setAddHashedIn_succ]
  refine wpAny_bind (wpAny_setState_of ho hd R.fits ?_)
  dsimp only
  have ns : byScan (.ref x) es = false := rfl
  simp only [ns, Bool.false_eq_true, ↓reduceIte]
  refine wpAny_bind (searchK R hx hu (fun hin => ?_) fun K hout hK hb => ?_)
  · dsimp only
    exact wpAny_pure (hQ false s.heap es ep t Z (Heap.SameBut.refl a s.heap) R hm (fun _ => rfl) fun z => absurd hin z)
  · dsimp only
    refine wpAny_bind (wpAny_setState_of ho hd R.fits ?_)
    dsimp only
    obtain ⟨p, hp, q1, T1⟩ := R.tab.put (x := (x, k)) hK hb
    have m1 : (t.put (way t.mask (tupleKeyHash kn k) K)).1.mask = t.mask := rfl
    have l1 : (t.put (way t.mask (tupleKeyHash kn k) K)).1.led = t.led := rfl
    change (t.put (way t.mask (tupleKeyHash kn k) K)).2 = p at q1
    change Tb (keyH kn) (t.put (way t.mask (tupleKeyHash kn k) K)).1 (Z.take p ++ (way t.mask (tupleKeyHash kn k) K, (x, k)) :: Z.drop p) at T1
    generalize way t.mask (tupleKeyHash kn k) K = j at q1 T1 m1 l1 ⊢
    generalize hpt : t.put j = pt at q1 T1 m1 l1 ⊢
    obtain ⟨t1, p1⟩ := pt
    dsimp only at q1 T1 m1 l1 ⊢
    subst q1
    have hr1 : (SetTable.insertAt es p1 (tupleKeyHash kn k, Value.ref x)).toList = (Z.take p1 ++ (j, (x, k)) :: Z.drop p1).map fun z => (keyH kn z.2, Value.ref z.2.1) := by
      rw [SetTable.toList_insertAt, R.rows, List.map_append, List.map_cons, List.map_take, List.map_drop]
    have pm1 : ((Z.take p1 ++ (j, (x, k)) :: Z.drop p1).map (·.2)).Perm ((x, k) :: Z.map (·.2)) := by
      have q := (put_perm Z p1 (j, (x, k))).map (·.2)
      exact q
    generalize Z.take p1 ++ (j, (x, k)) :: Z.drop p1 = Z1 at T1 hr1 pm1
    generalize SetTable.insertAt es p1 (tupleKeyHash kn k, Value.ref x) = es1 at hr1 ⊢
    have len1 : Z1.length = Z.length + 1 := by
      have q := pm1.length_eq
      rwa [List.length_map, List.length_cons, List.length_map] at q
    have sz1 : es1.size = Z.length + 1 := by rw [← Array.length_toList, hr1, List.length_map, len1]
    have nd1 : (Z1.map (·.2.2)).Nodup := by
      have q := pm1.map fun x => x.2
      rw [List.map_map, List.map_cons, List.map_map] at q
      exact q.nodup_iff.mpr (List.nodup_cons.mpr ⟨hout, R.nd⟩)
    have mem1 : ∀ z ∈ Z1, z.2 = (x, k) ∨ ∃ y ∈ Z, y.2 = z.2 := fun z hz => by
      rcases List.mem_cons.mp (pm1.mem_iff.mp (List.mem_map.mpr ⟨z, hz, rfl⟩)) with e | e
      · exact .inl e
      · exact .inr (List.mem_map.mp e)
    -- behind the mark
    have tail : ∀ t2 : SetTable, t2.place = t1.place → t2.dummies = t1.dummies → t2.mask = t1.mask → t2.led = t1.led →
        wpAny (model P w) A (do
          storeSet a es1 t2
          if (!false && t2.tooFull) = true then setRelay a (SetTable.grown (es.size + 1))
          return true) Q E s := fun t2 e1 e2 e3 e4 => by
      have T2 : Tb (keyH kn) t2 Z1 := ⟨by rw [e1]; exact T1.pl, T1.ris, by rw [e2]; exact T1.dm, by rw [e3]; exact T1.gd, by rw [e3]; exact T1.rch⟩
      have sb : Heap.SameBut a s.heap (s.heap.update a (Obj.putSet es1 t2)) := Heap.SameBut.update ..
      have ho2 := store_at (es' := es1) (t' := t2) ho hd
      refine wpAny_bind (wpAny_storeSet_of ho hd ?_ (by rw [sz1, sizeLine_eq]; omega))
      generalize s.heap.update a (Obj.putSet es1 t2) = h2 at sb ho2 ⊢
      have tup2 : ∀ z ∈ Z1, IsTupleKey kn h2 z.2.2 z.2.1 := fun z hz => by
        rcases mem1 z hz with e | ⟨y, hy, e⟩
        · rw [e]; exact tup_but hx ho hd sb
        · rw [← e]; exact tup_but (R.tup y hy) ho hd sb
      have led2 : w.params.followText "set-order" = true ∨ t2.led = true := by rw [e4, l1]; exact R.led
      have fill : t2.fill = Z.length + 1 := by
        unfold SetTable.fill
        rw [T2.size, T2.dm, len1] <;> rfl
      have mk2 : t2.mask = t.mask := e3.trans m1
      cases hf : t2.tooFull with
      | false =>
        simp only [Bool.not_false, Bool.and_false, Bool.false_eq_true, ↓reduceIte]
        refine wpAny_pure (hQ true h2 es1 (ep + 1) t2 Z1 sb ⟨⟨_, ho2, hex, rfl⟩, hr1, T2, nd1, tup2, led2, ?_⟩ (by rw [mk2]; exact hm) (fun z => absurd z hout) fun _ => pm1)
        unfold SetTable.tooFull at hf
        rw [decide_eq_false_iff_not, fill, mk2] at hf
        rw [len1, mk2]
        omega
      | true =>
        simp only [Bool.not_false, Bool.and_true, ↓reduceIte]
        unfold SetTable.tooFull at hf
        rw [decide_eq_true_eq, fill, mk2] at hf
        obtain ⟨M, hM, g, gm, r2, _, r3⟩ := msk_next (n := Z.length + 1) hm (by omega) hf few
        rw [sz]
        refine wpAny_bind (relayK (s := { s with heap := h2 }) ho2 hex rfl hr1 T2 nd1 tup2 led2 (by rw [len1, mk2]; exact r3) hM g (by rw [len1]; exact r2) fun h3 es3 ep3 t3 Z3 sb3 R3 em pm3 => ?_)
        exact wpAny_pure (hQ true h3 es3 ep3 t3 Z3 (sb.trans sb3) R3 (by rw [em]; exact gm) (fun z => absurd z hout) fun _ => pm3.trans pm1)
    cases hp : t1.plain with
    | false =>
      simp only [Bool.false_eq_true, ↓reduceIte]
      refine wpAny_bind (wpAny_pure ?_)
      simp only [↓reduceIte]
      exact tail t1 rfl rfl rfl rfl
    | true =>
      simp only [↓reduceIte]
      refine wpAny_bind (hashBy_tupK hx fun y => ?_)
      cases y with
      | true =>
        simp only [↓reduceIte]
        exact tail t1 rfl rfl rfl rfl
      | false =>
        simp only [Bool.false_eq_true, ↓reduceIte]
        exact tail _ rfl rfl rfl rfl
end
end
/-! ### text R5 -/
set_option maxHeartbeats 400000
section
open PySem PySem.Spec PyProof.Rows L2
section
variable {P : Program} {w : World} {A : Around} {E : Value → Shared → Prop} {s : Shared} {κ : Type} [DecidableEq κ] {kn : KeyKind P w κ}
/-- what the set has of the first i -/
structure GotK (ks : List (Addr × List κ)) (i : Nat) (Z : List (Nat × Addr × List κ)) : Prop where
  sub : ∀ z ∈ Z, z.2 ∈ ks.take i
  all : ∀ p ∈ ks.take i, p.2 ∈ Z.map (·.2.2)
theorem GotK.nil (ks : List (Addr × List κ)) : GotK ks 0 [] := ⟨fun z h => (nomatch h), fun p h => (by simp at h)⟩
theorem take_more {α : Type} {l : List α} {i : Nat} {x : α} (h : l[i]? = some x) : l.take (i + 1) = l.take i ++ [x] := by
  rw [List.take_add_one, h] <;> rfl
theorem GotK.next {ks : List (Addr × List κ)} {i : Nat} {Z Z' : List (Nat × Addr × List κ)} {x : Addr} {k : List κ} (g : GotK ks i Z) (h : ks[i]? = some (x, k)) (h1 : k ∈ Z.map (·.2.2) → Z' = Z) (h2 : k ∉ Z.map (·.2.2) → (Z'.map (·.2)).Perm ((x, k) :: Z.map (·.2))) :
    GotK ks (i + 1) Z' := by
  have e := take_more h
  rcases Classical.em (k ∈ Z.map (·.2.2)) with c | c
  · rw [h1 c]
    refine ⟨fun z hz => by rw [e]; exact List.mem_append_left _ (g.sub z hz), fun p hp => ?_⟩
    rw [e] at hp
    rcases List.mem_append.mp hp with q | q
    · exact g.all p q
    · rw [List.mem_singleton.mp q]
      exact c
  · have pm := h2 c
    have pk : (Z'.map (·.2.2)).Perm (k :: Z.map (·.2.2)) := by
      have q := pm.map fun p => p.2
      rw [List.map_map, List.map_cons, List.map_map] at q
      exact q
    refine ⟨fun z hz => ?_, fun p hp => ?_⟩
    · rw [e]
      rcases List.mem_cons.mp (pm.mem_iff.mp (List.mem_map.mpr ⟨z, hz, rfl⟩)) with q | q
      · exact List.mem_append_right _ (List.mem_singleton.mpr q)
      · obtain ⟨y, hy, ey⟩ := List.mem_map.mp q
        rw [← ey]
        exact List.mem_append_left _ (g.sub y hy)
    · rw [e] at hp
      rw [pk.mem_iff]
      rcases List.mem_append.mp hp with q | q
      · exact List.mem_cons_of_mem _ (g.all p q)
      · rw [List.mem_singleton.mp q]
        exact List.mem_cons_self
theorem tup_keep {h h' : Heap} {k : List κ} {b : Addr} (x : IsTupleKey kn h k b) (hk : ∀ c o, h.get? c = some o → h'.get? c = some o) : IsTupleKey kn h' k b := by
  obtain ⟨o, its, n, ho, q⟩ := x
  exact ⟨o, its, n, hk b o ho, q⟩
theorem SetK.move {h h' : Heap} {a : Addr} {es : Array (Int × Value)} {ep : Nat} {t : SetTable} {Z : List (Nat × Addr × List κ)} (R : SetK kn h a es ep t Z) (ha : ∀ o, h.get? a = some o → h'.get? a = some o) (ht : ∀ z ∈ Z, IsTupleKey kn h' z.2.2 z.2.1) : SetK kn h' a es ep t Z := by
  obtain ⟨o, ho, q⟩ := R.ob
  exact { ob := ⟨o, ha o ho, q⟩, rows := R.rows, tab := R.tab, nd := R.nd, tup := ht, led := R.led, room := R.room }
abbrev newSet (w : World) : Obj := { cls := .type "set", dict := none, data := .set #[] 0 (.fresh 0 0 (!w.params.followText "set-order")) }
theorem setK_new {h : Heap} {a : Addr} (ho : h.get? a = some (newSet w)) : SetK kn h a #[] 0 (.fresh 0 0 (!w.params.followText "set-order")) [] where
  ob := ⟨_, ho, ⟨rfl, rfl, rfl⟩, rfl⟩
  rows := rfl
  tab := ⟨rfl, List.Pairwise.nil, rfl, mok7, fun z h => nomatch h⟩
  nd := List.nodup_nil
  tup := fun z h => nomatch h
  led := by
    cases e : w.params.followText "set-order"
    · exact .inr rfl
    · exact .inl rfl
  room := by
    show 0 * 5 < 7 * 3
    decide
/-- no more members than there are keys unlike -/
theorem few_of {ks : List (Addr × List κ)} {i N : Nat} {Z : List (Nat × Addr × List κ)} (g : GotK ks i Z) (nd : (Z.map (·.2.2)).Nodup) (few : ∀ l : List (List κ), l.Nodup → (∀ x ∈ l, x ∈ ks.map (·.2)) → l.length ≤ N) : Z.length ≤ N := by
  have q := few _ nd fun x hx => by
    obtain ⟨z, hz, e⟩ := List.mem_map.mp hx
    exact List.mem_map.mpr ⟨z.2, List.mem_of_mem_take (g.sub z hz), e⟩
  rwa [List.length_map] at q
/-- the loop behind set(xs) -/
theorem loopK {I : Addr} {fp wr : List Addr} {G : Array GenState → Array GenState → Prop} {n : Nat} {Pv : Nat → Value → Prop} {St : Nat → Shared → Prop} {R : Result → Shared → Prop} (W : WalksS P w A.in1 I fp wr G n Pv St) (S : Addr) (hSf : S ∉ fp)
    (ks : List (Addr × List κ)) (hn : n = ks.length) (few : ∀ l : List (List κ), l.Nodup → (∀ x ∈ l, x ∈ ks.map (·.2)) → l.length ≤ 400) (hval : ∀ i v, Pv i v → ∃ p, ks[i]? = some p ∧ v = .ref p.1) (h0 : Heap) (hk : ∀ p ∈ ks, IsTupleKey kn h0 p.2 p.1)
    (hS0 : h0.get? S = none) (hw0 : ∀ b ∈ wr, h0.get? b = none) (hu : A.in1.units < cLine) (d : Nat) :
    ∀ (i : Nat) (s : Shared), n - i = d → i ≤ n → St i s → (∀ b o, h0.get? b = some o → s.heap.get? b = some o) → (∃ es ep t Z, SetK kn s.heap S es ep t Z ∧ MskK t.mask ∧ GotK ks i Z) →
      (∀ s' es ep t Z, Moved (S :: wr) G s s' → SetK kn s'.heap S es ep t Z → GotK ks n Z → (∀ b o, h0.get? b = some o → s'.heap.get? b = some o) → R (.ok (.ret .none)) s') →
      codeAny (model P w) A (.builtin "set.update.loop" ⟨[.ref S, .ref I], []⟩) R s := by
  have hSw : S ∉ wr := fun h => hSf (W.sub _ h)
  have up : ∀ b ∈ wr, b ∈ S :: wr := fun b hb => List.mem_cons_of_mem _ hb
  have held : ∀ {s1 s2 : Shared}, Moved wr G s1 s2 → (∀ b o, h0.get? b = some o → s1.heap.get? b = some o) → ∀ b o, h0.get? b = some o → s2.heap.get? b = some o := fun m k b o e => by
    refine m.heap b o (fun hb => ?_) (k b o e)
    rw [hw0 b hb] at e
    cases e
  have tups : ∀ {h : Heap} {i : Nat} {Z : List (Nat × Addr × List κ)}, GotK ks i Z → (∀ b o, h0.get? b = some o → h.get? b = some o) → ∀ z ∈ Z, IsTupleKey kn h z.2.2 z.2.1 := fun g k z hz => tup_keep (hk z.2 (List.mem_of_mem_take (g.sub z hz))) k
  induction d with
  | zero =>
    intro i s hd hi st kp ⟨es, ep, t, Z, hS, hm, g⟩ hR
    have e : i = n := by omega
    rw [e] at st g
    refine codeAny_builtin F.entry_set_update_loop ?_
    rw [Around.under_plainId F.plain_set_update_loop _]
    refine wpAny_bind (m := pyNext (.ref I)) (W.done s _ _ st fun s' m => ?_)
    have kp' := held m kp
    exact wpAny_pure (hR s' es ep t Z (m.mono up) (hS.move (fun o ho => m.heap S o hSw ho) (tups g kp')) g kp')
  | succ d ih =>
    intro i s hd hi st kp ⟨es, ep, t, Z, hS, hm, g⟩ hR
    have lt : i < n := by omega
    refine codeAny_builtin F.entry_set_update_loop ?_
    rw [Around.under_plainId F.plain_set_update_loop _]
    refine wpAny_bind (m := pyNext (.ref I)) (W.item i s _ _ lt st fun v s' pv st' m => ?_)
    obtain ⟨⟨x, k⟩, hp, e⟩ := hval i v pv
    subst e
    have kp' := held m kp
    have hS' := hS.move (fun o ho => m.heap S o hSw ho) (tups g kp')
    have hx : IsTupleKey kn s'.heap k x := tup_keep (hk (x, k) (List.mem_of_getElem? hp)) kp'
    have lz := few_of g hS.nd few
    refine wpAny_bind (m := holding [Value.ref x] (setAdd S (.ref x))) (wpAny_holding ?_)
    unfold setAdd
    refine wpAny_holding ?_
    refine wpAny_bind (wpAny_pyHash_tuple hu hx ?_)
    refine addK (s := { s' with toks := s'.toks + (k.length + 1) }) hS' hm hx hu (by omega) fun y h2 es2 ep2 t2 Z2 sb hS2 hm2 c1 c2 => ?_
    have kp2 : ∀ b o, h0.get? b = some o → h2.get? b = some o := fun b o e => by
      rw [sb.2 b fun z => by rw [z, hS0] at e; cases e]
      exact kp' b o e
    refine wpAny_pure ⟨plainId_quiet F.plain_set_update_loop _, ih (i + 1) _ (by omega) lt (W.frame _ s' _ _ st' (Nat.le_add_right _ _) fun b hb o ho => ?_) kp2 ⟨es2, ep2, t2, Z2, hS2, hm2, g.next hp c1 c2⟩ fun s3 es3 ep3 t3 Z3 m3 hS3 g3 kp3 => ?_⟩
    · rw [sb.2 b fun z => hSf (z ▸ hb)]
      exact ho
    · refine hR s3 es3 ep3 t3 Z3 (Moved.trans W.gtrans ((m.mono up).then_heap (Nat.le_add_right _ _) fun b o hb ho => ?_) m3) hS3 g3 kp3
      rw [sb.2 b fun z => hb (z ▸ List.mem_cons_self)]
      exact ho
end
end
/-! ### text R6 -/
set_option maxHeartbeats 400000
section
open PySem PySem.Spec PyProof.Rows L2
section
variable {P : Program} {w : World} {A : Around} {E : Value → Shared → Prop} {s : Shared} {κ : Type} [DecidableEq κ] {kn : KeyKind P w κ}
theorem no_obj {h : Heap} {b : Addr} (hb : h.objs.size ≤ b) : h.get? b = none := by
  cases q : h.get? b with
  | none => rfl
  | some o => exact absurd (Heap.lt_size q) (Nat.not_lt.mpr hb)
set_option maxHeartbeats 3200000 in
/-- set(xs) -/
theorem callK {l : Addr} {its : Array Value} (ks : List (Addr × List κ)) {Q : Value → Shared → Prop} (hh : A.handled = none) (hl : s.heap.IsList l its) (hit : its.toList = ks.map fun p => Value.ref p.1) (hk : ∀ p ∈ ks, IsTupleKey kn s.heap p.2 p.1)
    (few : ∀ l : List (List κ), l.Nodup → (∀ x ∈ l, x ∈ ks.map (·.2)) → l.length ≤ 400) (hu : A.units + 3 < cLine)
    (h : ∀ (h' : Heap) (tk : Nat) es ep t Z, SetK kn h' s.heap.objs.size es ep t Z → GotK ks ks.length Z → (∀ b o, s.heap.get? b = some o → h'.get? b = some o) → Q (.ref s.heap.objs.size) { s with heap := h', toks := tk }) :
    wpAny (model P w) A (call (.type "set") [.ref l]) Q E s := by
  obtain ⟨cm, tm, mro⟩ := F.called_set.mro
  have mk := F.called_set.made
  have sub := F.called_set.sub
  refine wpAny_call (codeAny_of_tree ?_)
  change wpAny _ _ (callAny (.type "set") _) _ _ _
  refine wpAny_pure ⟨Code.quiet_builtin _ (by decide +kernel), codeAny_builtin F.entry_type_call ?_⟩
  rw [Around.under_plain (weight_type_call_type "set" [.ref l] []) rfl]
  have nt := F.called_set.notType
  have cc := F.called_set.canCreate
  have tc := F.typeCall_set_1 (.ref l)
  repeat (any_goals (first | assumption | wp_step))
  refine codeAny_mono (code_set_led1 (.ref l) (E := E) (Q₁ := fun x t => x = .ref s.heap.objs.size ∧ t = { s with heap := s.heap.push (newSet w) }) ⟨rfl, rfl⟩) fun r t hr => ?_
  cases r with
  | error e => exact hr
  | ok fl => cases fl with
    | ret x =>
      obtain ⟨e1, e2⟩ := hr
      subst e1 e2
      have gS : (s.heap.push (newSet w)).get? s.heap.objs.size = some (newSet w) := Heap.get?_push_size _ rfl
      have tS : Shared.TypeIs { s with heap := s.heap.push (newSet w) } (.ref s.heap.objs.size) "set" := ⟨_, gS, rfl⟩
      have il := F.called_set.init.lookup
      have ib := F.called_set.init.bind (.ref s.heap.objs.size)
      repeat (any_goals (first | assumption | wp_step))
      refine codeAny_mono (codeAny_call_builtin (R := wants (fun v t => v = .none ∧ Q (.ref s.heap.objs.size) t) E) F.called_set.init.plain F.entry_set_init (check_set_init_1 tS ?_)) fun r2 t2 hr2 => ?_
      · have sz : its.size = ks.length := by rw [← Array.length_toList, hit, List.length_map]
        have lt : l < s.heap.objs.size := by
          obtain ⟨o, ho, _⟩ := hl
          exact Heap.lt_size ho
        have l1 : (s.heap.push (newSet w)).IsList l its := hl.push _
        have z1 : (s.heap.push (newSet w)).objs.size = s.heap.objs.size + 1 := Heap.size_push ..
        obtain ⟨⟨oc, od, odt, osl⟩, ho, hc, nl, hd⟩ := id l1
        dsimp only at hc hd
        subst hc hd
        have b1 := F.sub_list_set
        have b2 := F.sub_list_frozenset
        have nd : (Value.type "list" == Value.type "dict") = false := by decide
        unfold Builtin.«set.__init__» noKeywords Builtin.Frozenset.updateFrom
        generalize hp : pyIter = pi
        wp_walk
        subst hp
        refine wpAny_pyIter_list l1 ?_
        refine wpAny_bind (wpAny_runValue ?_)
        have h3 : A.in1.in1.in1.handled = none := by simp [hh]
        have ne : l ≠ (s.heap.push (newSet w)).objs.size := by
          rw [z1]
          exact Nat.ne_of_lt (Nat.lt_succ_of_lt lt)
        refine loopK (kn := kn) ((Walks.list h3 _ l ne its).toS) s.heap.objs.size ?_ ks sz few (fun i v hv => ?_) s.heap hk (no_obj (Nat.le_refl _)) (fun b hb => no_obj ?_) hu (its.size - 0) 0 _ rfl (Nat.zero_le _) ⟨⟨_, Heap.get?_push_size _ rfl, rfl, rfl⟩, l1.push _⟩
          (fun b o e => Heap.get?_push_of_some _ (Heap.get?_push_of_some _ e)) ⟨_, _, _, [], setK_new (Heap.get?_push_of_some _ gS), .inl rfl, GotK.nil ks⟩ fun s' es ep t Z m R g k => ?_
        · rw [z1]
          simp only [List.mem_cons, List.not_mem_nil, or_false, not_or]
          exact ⟨Nat.ne_of_lt (Nat.lt_succ_self _), Nat.ne_of_gt lt⟩
        · have q : its.toList[i]? = some v := by rw [Array.getElem?_toList, hv]
          rw [hit, List.getElem?_map] at q
          obtain ⟨p, h1, h2⟩ := Option.map_eq_some_iff.mp q
          exact ⟨p, h1, h2.symm⟩
        · rw [List.mem_singleton.mp hb, z1]
          exact Nat.le_succ _
        · obtain ⟨hp', g2, d2, tk, os2⟩ := s'
          have e1 : g2 = s.gens := m.gens
          have e2 : d2 = s.drawn := m.drawn
          have e3 : os2 = s.os := m.os
          subst e1 e2 e3
          rw [sz] at g
          exact wpAny_pure (wpAny_pure ⟨rfl, h hp' tk es ep t Z R g k⟩)
      · cases r2 with
        | error e => exact hr2
        | ok f2 => cases f2 with
          | ret v =>
            obtain ⟨e, q⟩ := hr2
            subst e
            repeat (any_goals (first | assumption | wp_step))
          | _ => exact hr2.elim
    | _ => exact hr.elim
end
end
/-! ### text R7 -/
set_option maxHeartbeats 1000000
section
open PySem PySem.Spec PyProof.Rows L2 TL
/-! ### pairs in their order -/
/-- the pair as a dict key -/
def klD (x : NDay) : List Key := [.inr x.1, .inl x.2]
theorem klD_inj {x y : NDay} (h : klD x = klD y) : x = y := by
  obtain ⟨a, b⟩ := x
  obtain ⟨c, d⟩ := y
  unfold klD at h
  simp only [List.cons.injEq, Sum.inr.injEq, Sum.inl.injEq, and_true] at h
  rw [h.1, h.2]
abbrev encD (q : Addr × NDay) : PyData := .tuple [.str q.2.1, .int q.2.2]
instance ltP_dec (a b : NDay) : Decidable (ltP a b) := by
  unfold ltP
  infer_instance
theorem leD_eq (p q : Addr × NDay) : PySem.W.dataLe false encD p q = !decide (ltP q.2 p.2) := by
  show (!PySem.W.dataLt (.tuple [.str q.2.1, .int q.2.2]) (.tuple [.str p.2.1, .int p.2.2])) = _
  rw [PySem.W.dataLt_pair (by simp [PySem.W.alike]) (by simp [PySem.W.alike]), PySem.W.dataLt_str, PySem.W.dataLt_int]
  congr 1
  simp only [PyData.eqv, beq_iff_eq]
  have e : tl q.2.1 < tl p.2.1 ↔ q.2.1.cps.toList < p.2.1.cps.toList := Iff.rfl
  rcases Classical.em (q.2.1 = p.2.1) with h | h
  · rw [if_pos (by simpa using h)]
    have irr : ¬ tl q.2.1 < tl p.2.1 := by rw [h]; exact List.lt_irrefl _
    rcases Classical.em (q.2.2 = p.2.2) with k | k
    · rw [if_pos (by simpa using k)]
      refine (decide_eq_false fun z => ?_).symm
      rcases z with z | ⟨_, z⟩
      · exact irr z
      · omega
    · rw [if_neg (by simpa using k)]
      unfold ltP
      simp [h, irr, List.lt_irrefl]
  · rw [if_neg (by simpa using h)]
    unfold ltP
    simp [h, e]
theorem ltP_tot {a b : NDay} (h1 : ¬ ltP a b) (h2 : ¬ ltP b a) : a = b := by
  unfold ltP at h1 h2
  rw [not_or] at h1 h2
  have e : a.1 = b.1 := str_tl (List.le_antisymm (List.not_lt.mp h2.1) (List.not_lt.mp h1.1))
  have k1 : ¬ a.2 < b.2 := fun z => h1.2 ⟨e, z⟩
  have k2 : ¬ b.2 < a.2 := fun z => h2.2 ⟨e.symm, z⟩
  exact Prod.ext e (by omega)
theorem ltP_trans {a b c : NDay} (h1 : ltP a b) (h2 : ltP b c) : ltP a c := by
  rcases h1 with h1 | ⟨e1, h1⟩
  · rcases h2 with h2 | ⟨e2, h2⟩
    · exact .inl (List.lt_trans h1 h2)
    · exact .inl (e2 ▸ h1)
  · rcases h2 with h2 | ⟨e2, h2⟩
    · exact .inl (by rw [e1]; exact h2)
    · exact .inr ⟨e1.trans e2, by omega⟩
/-- the sorted pairs, if no two are alike -/
theorem sortD {l : List (Addr × NDay)} (nd : (l.map (·.2)).Nodup) : ((l.mergeSort (PySem.W.dataLe false encD)).map (·.2)).Pairwise ltP := by
  have pm := List.mergeSort_perm l (PySem.W.dataLe false encD)
  have nd2 : ((l.mergeSort (PySem.W.dataLe false encD)).map (·.2)).Nodup := (pm.map (·.2)).nodup_iff.mpr nd
  have pw := List.pairwise_mergeSort (le := PySem.W.dataLe false encD) (fun a b c h1 h2 => by
    rw [leD_eq, Bool.not_eq_true', decide_eq_false_iff_not] at h1 h2 ⊢
    intro z
    rcases Classical.em (ltP a.2 b.2) with k | k
    · exact h2 (ltP_trans z k)
    · rw [ltP_tot k h1] at z
      exact h2 z) (fun a b => by
    rw [leD_eq, leD_eq, Bool.or_eq_true, Bool.not_eq_true', Bool.not_eq_true', decide_eq_false_iff_not, decide_eq_false_iff_not]
    rcases Classical.em (ltP b.2 a.2) with k | k
    · exact .inr (ltP_asymm k)
    · exact .inl k) l
  refine List.pairwise_map.mpr ((pw.and (List.pairwise_map.mp nd2)).imp fun {a b} h => ?_)
  obtain ⟨h, ne⟩ := h
  rw [leD_eq, Bool.not_eq_true', decide_eq_false_iff_not] at h
  rcases Classical.em (ltP a.2 b.2) with k | k
  · exact k
  · exact absurd (ltP_tot k h) ne
theorem perm_lift {α β : Type} {f : α → β} {vs ws : List β} (h : vs.Perm ws) : ∀ l : List α, ws = l.map f → ∃ l' : List α, l'.Perm l ∧ vs = l'.map f := by
  induction h with
  | nil => intro l e; exact ⟨l, List.Perm.refl _, e⟩
  | cons x _ ih =>
    intro l e
    cases l with
    | nil => cases e
    | cons a l =>
      rw [List.map_cons] at e
      injection e with e1 e2
      obtain ⟨l', p, q⟩ := ih l e2
      exact ⟨a :: l', p.cons a, by rw [List.map_cons, ← q, e1]⟩
  | swap x y r =>
    intro l e
    match l, e with
    | a :: b :: l, e =>
      rw [List.map_cons, List.map_cons] at e
      injection e with e1 e2
      injection e2 with e2 e3
      exact ⟨b :: a :: l, List.Perm.swap _ _ _, by rw [List.map_cons, List.map_cons, e1, e2, e3]⟩
  | trans _ _ i1 i2 =>
    intro l e
    obtain ⟨l1, p1, q1⟩ := i2 l e
    obtain ⟨l2, p2, q2⟩ := i1 l1 q1
    exact ⟨l2, p2.trans p1, q2⟩
theorem each_map_eq {α β : Type} {f : β → α} : ∀ {vs : List α} {bs : List β}, PySem.W.EachIs (fun v b => v = f b) vs bs → vs = bs.map f
  | _, _, .nil => rfl
  | _, _, .cons h t => by rw [List.map_cons, h, each_map_eq t]
theorem each_of_map_eq {α β : Type} {R : α → β → Prop} {f : β → α} : ∀ {bs : List β}, (∀ b ∈ bs, R (f b) b) → PySem.W.EachIs R (bs.map f) bs
  | [], _ => .nil
  | b :: bs, h => .cons (h b List.mem_cons_self) (each_of_map_eq fun c hc => h c (List.mem_cons_of_mem _ hc))
section
variable {P : Program} {w : World} {A : Around} {E : Value → Shared → Prop} {s : Shared}
theorem reads_pair {h : Heap} {q : Addr × NDay} (x : IsTupleKey (mixKind P w) h (klD q.2) q.1) : Reads h (.ref q.1) (encD q) [] := by
  obtain ⟨o, its, n, ho, hc, hd, hi⟩ := x
  have e : ∃ t u, its.toList = [.str q.2.1 t, .int q.2.2 u] := by
    unfold klD at hi
    generalize its.toList = l at hi
    cases hi with
    | cons h1 hi =>
      cases hi with
      | cons h2 hi =>
        cases hi
        obtain ⟨t, e1⟩ := Value.isStrOf_shape (show Value.isStrOf q.2.1 _ = true from h1)
        obtain ⟨u, e2⟩ := Value.isInt_shape (show Value.isInt q.2.2 _ = true from h2)
        exact ⟨t, u, by rw [e1, e2]⟩
  obtain ⟨t, u, e⟩ := e
  exact .tuple ho hc hd (by rw [e]; exact .cons (as := []) (bs := []) (.str _ _) (.cons (as := []) (bs := []) (.int _ _) .nil))
/-- sorted(set of pairs) -/
theorem sortedK {a : Addr} {es : Array (Int × Value)} {ep : Nat} {t : SetTable} {Z : List (Nat × Addr × List Key)} (R : SetK (mixKind P w) s.heap a es ep t Z) (hh : A.handled = none) (hu : A.units + 16 < cLine) (few : Z.length ≤ 400)
    (L0 : List (Addr × NDay)) (hL : Z.map (·.2) = L0.map fun q => (q.1, klD q.2)) {Q : Value → Shared → Prop}
    (hQ : ∀ s' p (out : Array Value) (c : Nat) (L : List (Addr × NDay)), (∀ b o, s.heap.get? b = some o → s'.heap.get? b = some o) → s'.gens = s.gens → s'.os = s.os → s.heap.objs.size ≤ p → s'.heap.get? p = some (seqObj "list" out c) →
      out.toList = L.map (fun q => Value.ref q.1) → L.Perm L0 → (L.map (·.2)).Pairwise ltP → Q (.ref p) s') : wpAny (model P w) A (call (.builtin "sorted") [.ref a]) Q E s := by
  obtain ⟨o, ho, hex, hd⟩ := R.ob
  have sz := R.size
  have len0 : L0.length = Z.length := by
    have q := congrArg List.length hL
    rw [List.length_map, List.length_map] at q
    exact q.symm
  have ev : es.toList.map (·.2) = L0.map fun q => Value.ref q.1 := by
    rw [R.rows, List.map_map]
    have q := congrArg (List.map fun y : Addr × List Key => Value.ref y.1) hL
    rw [List.map_map, List.map_map] at q
    exact q
  have tup0 : ∀ q ∈ L0, IsTupleKey (mixKind P w) s.heap (klD q.2) q.1 := fun q hq => by
    have m : (q.1, klD q.2) ∈ Z.map (·.2) := by rw [hL]; exact List.mem_map.mpr ⟨q, hq, rfl⟩
    obtain ⟨z, hz, e⟩ := List.mem_map.mp m
    have k := R.tup z hz
    rw [e] at k
    exact k
  have nd0 : (L0.map (·.2)).Nodup := by
    have k := R.nd
    have e : Z.map (·.2.2) = (L0.map (·.2)).map klD := by
      have q := congrArg (List.map fun y : Addr × List Key => y.2) hL
      rw [List.map_map, List.map_map] at q
      rw [List.map_map]
      exact q
    rw [e] at k
    exact List.Pairwise.of_map klD (fun _ _ h e => h (congrArg klD e)) k
  refine Calls.call_function_entry kind_sorted plain_sorted entry_sorted (args_sorted1 _) ?_
  unfold Builtin.«sorted»
  refine wpAny_bind (m := checkCount "sorted" 1 1 _) (wpAny_pure ?_)
  refine wpAny_bind (collect_set (A := A.in1) hh ⟨o, ho, hex.1, hd⟩ R.fits (by unfold scanBound; omega) R.ris R.led fun s1 vs k1 hz g1 o1 pm => ?_)
  rw [ev] at pm
  obtain ⟨L1, p1, e1⟩ := perm_lift pm L0 rfl
  subst e1
  have l1 : L1.length ≤ 400 := by rw [p1.length_eq, len0]; exact few
  refine wpAny_bind (wpAny_newList ?_ (by rw [List.length_map, sizeLine_eq]; omega))
  have gL : (s1.heap.push (seqObj "list" (L1.map fun q => Value.ref q.1).toArray 0)).get? s1.heap.objs.size = some (seqObj "list" (L1.map fun q => Value.ref q.1).toArray 0) := Heap.get?_push_size _ rfl
  have k2 : ∀ b u, s.heap.get? b = some u → (s1.heap.push (seqObj "list" (L1.map fun q => Value.ref q.1).toArray 0)).get? b = some u := fun b u e => Heap.get?_push_of_some _ (k1 b u e)
  have rd : ∀ q ∈ L1, Reads (s1.heap.push (seqObj "list" (L1.map fun q => Value.ref q.1).toArray 0)) (.ref q.1) (encD q) [] := fun q hq => reads_pair (tup_keep (tup0 q (p1.mem_iff.mp hq)) k2)
  refine wpAny_bind (wpAny_holding (PySem.W.list_sort_data (s := { s1 with heap := s1.heap.push (seqObj "list" (L1.map fun q => Value.ref q.1).toArray 0) }) (enc := encD) (bs := L1) (R := fun v b => v = Value.ref b.1) gL
    (each_of_map_eq fun _ _ => rfl) (each_of_map_eq fun q hq => ⟨[], rd q hq, by simp⟩) (PySem.W.AllAlike.of fun b b' => by simp [PySem.W.alike, PySem.W.alikeAll]) (PySem.W.Sortable.tuples fun b => ⟨_, _, rfl⟩) (by rw [sizeLine_eq]; omega)
    (fun b _ => by
      have e : (encD b).depth ≤ 2 := by simp [encD, PyData.depth, PyData.depthAll]
      show A.in1.units + 1 + (encD b).depth < cLine
      have e2 : A.in1.units ≤ A.units + 1 := by first | exact Nat.le_refl _ | exact Nat.le_succ _
      omega) fun out lo ea => ?_))
  have eo := each_map_eq ea
  obtain ⟨c, hc⟩ := sortedHeap_at (vs := L1.map fun q => Value.ref q.1) (out := List.toArray out) gL
  refine wpAny_pure ⟨_, rfl, hQ _ s1.heap.objs.size (List.toArray out) c (L1.mergeSort (PySem.W.dataLe false encD)) (fun b u e => ?_) g1 o1 hz hc eo ((List.mergeSort_perm _ _).trans p1) (sortD ((p1.map (·.2)).nodup_iff.mpr nd0))⟩
  have lt := Heap.lt_size (k1 b u e)
  show (sortedHeap _ _ _ _).get? b = some u
  rw [sortedHeap_old (Nat.ne_of_lt lt) (by rw [size_push']; exact Nat.lt_succ_of_lt lt)]
  exact k2 b u e
end
end
/-! ### text R8 -/
set_option maxHeartbeats 1000000
section
open PySem PySem.Spec PyProof.Rows L2 TL
/-! ### sorted(set(xs)) -/
theorem lift_mem {α β : Type} {f : α → β} {L : List α} : ∀ l : List β, (∀ x ∈ l, x ∈ L.map f) → ∃ l' : List α, l = l'.map f ∧ ∀ y ∈ l', y ∈ L
  | [], _ => ⟨[], rfl, fun y h => nomatch h⟩
  | x :: l, h => by
    obtain ⟨y, hy, e⟩ := List.mem_map.mp (h x List.mem_cons_self)
    obtain ⟨l', e2, h2⟩ := lift_mem l fun z hz => h z (List.mem_cons_of_mem _ hz)
    refine ⟨y :: l', by rw [List.map_cons, e, e2], fun z hz => ?_⟩
    rcases List.mem_cons.mp hz with k | k
    · rw [k]; exact hy
    · exact h2 z k
theorem vals_ref {α : Type} {f : α → Addr} : ∀ {l : List α} {us : List Value}, Vals (l.map fun q => V.ref (f q)) us → us = l.map fun q => Value.ref (f q)
  | [], _, .nil => rfl
  | q :: l, _, .cons r t => by
    have e : _ = Value.ref (f q) := r
    rw [e, vals_ref t] <;> rfl
theorem ref_vals {α : Type} {f : α → Addr} : ∀ l : List α, Vals (l.map fun q => V.ref (f q)) (l.map fun q => Value.ref (f q))
  | [] => .nil
  | q :: l => .cons rfl (ref_vals l)
theorem fa_pairs {G : Hp} : ∀ {vs : List V} {log : List NDay}, Fa (PrR G) vs log → ∃ ks : List (Addr × NDay), vs = ks.map (fun q => V.ref q.1) ∧ log = ks.map (·.2) ∧ ∀ q ∈ ks, G q.1 = some (.tup ((klD q.2).map kV))
  | _, _, .nil => ⟨[], rfl, rfl, fun q h => nomatch h⟩
  | _, _, .cons (t := d) h t => by
    obtain ⟨a, e, g⟩ := h
    obtain ⟨ks, e1, e2, e3⟩ := fa_pairs t
    refine ⟨(a, d) :: ks, by rw [e, e1] <;> rfl, by rw [e2] <;> rfl, fun q hq => ?_⟩
    rcases List.mem_cons.mp hq with k | k
    · rw [k]; exact g
    · exact e3 q k
theorem pairs_fa {G : Hp} : ∀ {ks : List (Addr × NDay)}, (∀ q ∈ ks, G q.1 = some (.tup ((klD q.2).map kV))) → Fa (PrR G) (ks.map fun q => V.ref q.1) (ks.map (·.2))
  | [], _ => .nil
  | q :: ks, h => .cons ⟨q.1, rfl, h q List.mem_cons_self⟩ (pairs_fa fun r hr => h r (List.mem_cons_of_mem _ hr))
theorem sortSet_ {B : Bs} (h1 : B.mg "sorted" = none) (h2 : B.mg "set" = none) : SortSet B := by
  intro X lv sc N vm sm gs σ H Q e p p2 pos pos2 g g1 g2 we na
  refine ⟨fun σ H Q => WE X e σ H fun x H1 => ∃ a vs log m G, x = .ref a ∧ G a = some (.lst vs) ∧ Fa (PrR G) vs log ∧ Hs B m G H1 ∧ log.length ≤ 204800 ∧ (∀ l : List NDay, l.Nodup → (∀ x ∈ l, x ∈ log) → l.length ≤ 400) ∧
    ∀ q vs' ps H', SrtP log ps → Fa (PrR G) vs' ps → Hs B ((q, .lst vs') :: m) G H' → Q (.ref q) H', ?_, we⟩
  clear we
  clear Q H σ
  refine ⟨fun pins s σ H Q I we => ?_⟩
  have un := g.room.units
  have hm1 : X.mg "sorted" = none := by rw [g.eg]; exact h1
  have hm2 : X.mg "set" = none := by rw [g.eg]; exact h2
  refine Call_ (ld_blt I (g.glo g1) hm1 PyProof.Rows.boot_sorted ?_)
  refine PyProof.Rows.callWith_builtin1 (PyProof.Rows.args_cons ?_ rfl) rfl rfl
  refine Call_ (ld_blt I (g.glo g2) hm2 PyProof.Rows.boot_set ?_)
  refine PyProof.Rows.callWith_type1 (PyProof.Rows.args_cons (thn (p_e.run pins s σ H _ I we) fun v s1 hv => PyProof.Rows.args_nil ?_) na) na (by rfl)
  obtain ⟨x, H1, I1, r1, a, vs, log, m, G, ex, ga, fa, hs, _, few, q⟩ := hv
  subst ex
  cases r1
  obtain ⟨ks, e1, e2, e3⟩ := fa_pairs fa
  subst e1 e2
  have hL : SqL X.K H1 a (ks.map fun q => V.ref q.1) := SqL.of (hs.g _ _ ga)
  obtain ⟨its, rv, pl, hz⟩ := I1.list hL
  have ei := vals_ref rv
  have tk : ∀ p ∈ ks.map (fun q => (q.1, klD q.2)), IsTupleKey (mixKind X.prog X.w) s1.heap p.2 p.1 := fun p hp => by
    obtain ⟨r, hr, e⟩ := List.mem_map.mp hp
    rw [← e]
    exact key_of I1.hok (hs.g _ _ (e3 r hr))
  have fewK : ∀ l : List (List Key), l.Nodup → (∀ x ∈ l, x ∈ (ks.map (fun q => (q.1, klD q.2))).map (·.2)) → l.length ≤ 400 := fun l nd hl => by
    obtain ⟨l', el, hl'⟩ := lift_mem (f := klD) (L := ks.map (·.2)) l fun x hx => by
      have k := hl x hx
      rw [List.map_map] at k ⊢
      exact k
    subst el
    have k := few l' (List.Pairwise.of_map klD (fun _ _ h e => h (congrArg klD e)) nd) hl'
    rwa [List.length_map]
  refine callK (P := X.prog) (w := X.w) (kn := mixKind X.prog X.w) (ks.map fun q => (q.1, klD q.2)) (I1.ok.hd g.calm) pl.isList (by rw [List.map_map, show its.toArray.toList = its from rfl, ei] <;> rfl) tk fewK (by omega) fun h' t es ep tb Z R gt k => ?_
  refine PyProof.Rows.args_nil ?_
  obtain ⟨L0, hL0, m0⟩ := lift_mem (f := fun q : Addr × NDay => (q.1, klD q.2)) (L := ks) (Z.map (·.2)) fun y hy => by
    obtain ⟨z, hz, e⟩ := List.mem_map.mp hy
    rw [← e]
    exact List.mem_of_mem_take (gt.sub z hz)
  have lz := few_of gt R.nd fewK
  refine sortedK (s := { s1 with heap := h', toks := t }) R (I1.ok.hd g.calm) (by omega) lz L0 hL0 fun s' pa out c Lr kp gn os sp ho eo pm pw => ?_
  have sz1 : s1.heap.objs.size ≤ pa := by
    obtain ⟨o, ho, _⟩ := R.ob
    exact Nat.le_trans (Nat.le_of_lt (Heap.lt_size ho)) sp
  have hn : H1 pa = none := I1.hok.fresh sz1
  have kk : ∀ b o, s1.heap.get? b = some o → s'.heap.get? b = some o := fun b o e => kp b o (k b o e)
  have mem : ∀ r ∈ Lr, r ∈ ks := fun r hr => m0 r (pm.mem_iff.mp hr)
  have vl : Vals (Lr.map fun q => V.ref q.1) out.toList := by rw [eo]; exact ref_vals Lr
  have len : (Lr.map fun q => V.ref q.1).length ≤ sizeLine := by
    have e := congrArg List.length hL0
    rw [List.length_map, List.length_map] at e
    rw [List.length_map, pm.length_eq, ← e, sizeLine_eq]
    omega
  have gn' : s'.gens = s1.gens := gn
  have os' : s'.os = s1.os := os
  have J : Inv X pins σ (upd H1 pa (.lst (Lr.map fun q => V.ref q.1))) { s1 with heap := s'.heap, gens := s'.gens, drawn := s'.drawn, toks := s'.toks } :=
    I1.call (ch := []) (Un.laid kk sz1 hn) (I1.hok.laid kk sz1 ⟨len, out.toList, c, vl, ho⟩) (by rw [gn']; exact I1.bare) (fun _ z => nomatch z)
  have es' : s' = { s1 with heap := s'.heap, gens := s'.gens, drawn := s'.drawn, toks := s'.toks } := by
    rw [← os']
  rw [es']
  refine ⟨.ref pa, _, J, rfl, q pa _ (Lr.map (·.2)) _ ⟨pw, fun x => ⟨fun hx => ?_, fun hx => ?_⟩⟩ (pairs_fa fun r hr => e3 r (mem r hr)) (hs.new hn rfl)⟩
  · obtain ⟨r, hr, e⟩ := List.mem_map.mp hx
    exact List.mem_map.mpr ⟨r, mem r hr, e⟩
  · obtain ⟨r, hr, e⟩ := List.mem_map.mp hx
    have k1 := gt.all (r.1, klD r.2) (by rw [List.take_length]; exact List.mem_map.mpr ⟨r, hr, rfl⟩)
    obtain ⟨z, hz, e4⟩ := List.mem_map.mp k1
    have k2 : z.2 ∈ L0.map fun q => (q.1, klD q.2) := by rw [← hL0]; exact List.mem_map.mpr ⟨z, hz, rfl⟩
    obtain ⟨y, hy, e5⟩ := List.mem_map.mp k2
    have e6 : klD y.2 = klD r.2 := (congrArg Prod.snd e5).trans e4
    exact List.mem_map.mpr ⟨y, pm.mem_iff.mpr hy, (klD_inj e6).trans e⟩
end
/-! ### text End -/
set_option maxHeartbeats 4000000
section
open PySem PySem.Spec PyProof.Rows L2
/-! ### the end -/
abbrev lawP : Program := PySem.W.OpenLaw.prog PySem.Challenge.rw_unsaybook_k94_whole_texts_answered_at_ev
def csL (K : PySem.W.Frag) : List (Addr × Addr) := tfL.map (He.cT K)
def tsL (K : PySem.W.Frag) : List (Addr × Str) := lamL.map fun d => ((He.cT K d.at_).2, d.qual ++ ".<locals>." ++ "<lambda>")
abbrev bsL (w : World) (K : PySem.W.Frag) (mg : Str → Option Value) (base : Heap) : Bs := ⟨lawP, w, K, mg, base, tsL K⟩
theorem fa_glo {x : Str} (h : x ∈ clsL) : He.Fa.glo x ∈ faL := List.mem_append_left _ (List.mem_map.mpr ⟨x, h, rfl⟩)
theorem fa_fn {d : He.DefD} {x : Str} (h : d ∈ fnL) (e : d.at_ = (x, none)) : He.Fa.glo x ∈ faL := List.mem_append_right _ (List.mem_append_left _ (List.mem_filterMap.mpr ⟨d, h, by rw [e]⟩))
theorem fa_cls {x : Str} (h : x ∈ clsL) : He.Fa.cls x ∈ faL := List.mem_append_right _ (List.mem_append_right _ (List.mem_append_left _ (List.mem_map.mpr ⟨x, h, rfl⟩)))
theorem fa_noat {p : Str × Str} (h : p ∈ noatL) : He.Fa.noat p.1 p.2 ∈ faL := List.mem_append_right _ (List.mem_append_right _ (List.mem_append_right _ (List.mem_append_left _ (List.mem_map.mpr ⟨p, h, rfl⟩))))
theorem fa_meth {p : Str × Str} (h : p ∈ methL) : He.Fa.meth p.1 p.2 ∈ faL := List.mem_append_right _ (List.mem_append_right _ (List.mem_append_right _ (List.mem_append_right _ (List.mem_append_left _ (List.mem_map.mpr ⟨p, h, rfl⟩)))))
theorem fa_mkr {x : Str} (h : x ∈ mkrL) : He.Fa.mkr x ∈ faL := List.mem_append_right _ (List.mem_append_right _ (List.mem_append_right _ (List.mem_append_right _ (List.mem_append_right _ (List.mem_append_left _ (List.mem_map.mpr ⟨x, h, rfl⟩))))))
theorem fa_free (x : Str) (h : freeL.contains x = true) : He.Fa.free x ∈ faL := List.mem_append_right _ (List.mem_append_right _ (List.mem_append_right _ (List.mem_append_right _ (List.mem_append_right _ (List.mem_append_right _ (List.mem_append_left _ (List.mem_map.mpr ⟨x, List.contains_iff_mem.mp h, rfl⟩)))))))
theorem fa_int (x : Str) (i : Int) (h : intT.contains (x, i) = true) : He.Fa.int x i ∈ faL := List.mem_append_right _ (List.mem_append_right _ (List.mem_append_right _ (List.mem_append_right _ (List.mem_append_right _ (List.mem_append_right _ (List.mem_append_right _ (List.mem_append_left _ (List.mem_map.mpr ⟨(x, i), List.contains_iff_mem.mp h, rfl⟩))))))))
theorem fa_str (x z : Str) (h : strT.contains (x, z) = true) : He.Fa.str x z ∈ faL := List.mem_append_right _ (List.mem_append_right _ (List.mem_append_right _ (List.mem_append_right _ (List.mem_append_right _ (List.mem_append_right _ (List.mem_append_right _ (List.mem_append_right _ (List.mem_map.mpr ⟨(x, z), List.contains_iff_mem.mp h, rfl⟩))))))))
section
variable {w : World} {h : Heap} {K : PySem.W.Frag} {mg : Str → Option Value} {base : Heap}
theorem gv_int (KB : K.In base) (G : base.Ns mainGlobals mg) {x : Str} {i : Int} (c : (He.Fa.int x i).ok K = true) : GV (bsL w K mg base) x (.int i) := by
  obtain ⟨t, e⟩ := He.int_ok KB G c
  exact ⟨_, e, t, rfl⟩
theorem gv_str (KB : K.In base) (G : base.Ns mainGlobals mg) {x z : Str} (c : (He.Fa.str x z).ok K = true) : GV (bsL w K mg base) x (.str z) := by
  obtain ⟨t, e⟩ := He.str_ok KB G c
  exact ⟨_, e, t, rfl⟩
theorem lam_fn {d : He.DefD} (hd : d ∈ lamL) : d ∈ fnL := by
  rcases List.mem_cons.mp hd with e | hd
  · rw [e]; exact List.mem_of_getElem? (i := 55) rfl
  rcases List.mem_cons.mp hd with e | hd
  · rw [e]; exact List.mem_of_getElem? (i := 62) rfl
  rw [List.mem_singleton.mp hd]
  exact List.mem_of_getElem? (i := 63) rfl
theorem lam_one (nd : (tfL.map fun p => (He.cT K p).2).Nodup) {d d' : He.DefD} (h : d ∈ lamL) (h' : d' ∈ lamL) (e : (He.cT K d.at_).2 = (He.cT K d'.at_).2) : d = d' := by
  have n2 : (lamL.map fun d => (He.cT K d.at_).2).Nodup := by
    have q := nd
    unfold tfL at q
    rw [List.map_map] at q
    exact q
  have k := List.pairwise_map.mp n2
  have key : ∀ {l : List He.DefD}, l.Pairwise (fun a b => (He.cT K a.at_).2 ≠ (He.cT K b.at_).2) → ∀ {d d' : He.DefD}, d ∈ l → d' ∈ l → (He.cT K d.at_).2 = (He.cT K d'.at_).2 → d = d' := by
    intro l hl
    induction l with
    | nil => intro d d' h; cases h
    | cons a l ih =>
      intro d d' h h' e
      obtain ⟨p1, p2⟩ := List.pairwise_cons.mp hl
      rcases List.mem_cons.mp h with q | q
      · rcases List.mem_cons.mp h' with q' | q'
        · rw [q, q']
        · rw [q] at e
          exact absurd e (p1 d' q')
      · rcases List.mem_cons.mp h' with q' | q'
        · rw [q'] at e
          exact absurd e.symm (p1 d q)
        · exact ih p2 q q' e
  exact key k h h' e
theorem evq (c : He.SaysX faL fnL [] tfL exB w h K) (KB : K.In base) (G : base.Ns mainGlobals mg) (TB : ∀ p ∈ csL K, LamX.TabB base mg p.1 p.2) : EvQ (bsL w K mg base) := by
  have fact : ∀ {f : He.Fa}, f ∈ faL → f.ok K = true := fun hf => He.SaysD.facts c.t.d hf
  have m0 : exB K = true := c.more
  unfold exB at m0
  obtain ⟨x1, m1⟩ := He.ba m0
  obtain ⟨x2, m2⟩ := He.ba m1
  obtain ⟨x3, m3⟩ := He.ba m2
  obtain ⟨x4, m4⟩ := He.ba m3
  obtain ⟨x5, x6⟩ := He.ba m4
  have free : ∀ x : Str, freeL.contains x = true → mg x = none := fun x hx => He.free_ok KB G (fact (fa_free x hx))
  exact {
    e := {
      fns := fun i d hi => He.SaysD.defs c.t.d (List.mem_of_getElem? hi)
      fgl := fun i d x hi e => He.glo_ok KB G (fact (fa_fn (List.mem_of_getElem? hi) e))
      glo := fun i x hi => He.glo_ok KB G (fact (fa_glo (List.mem_of_getElem? hi)))
      cls := fun i x hi => He.cls_ok (fact (fa_cls (List.mem_of_getElem? hi)))
      noat := fun i p hi => He.noat_ok (fact (fa_noat (List.mem_of_getElem? hi)))
      meth := fun i p hi => He.meth_ok (fact (fa_meth (List.mem_of_getElem? hi)))
      inh := fun i p hi => of_decide_eq_true (List.all_eq_true.mp x1 p (List.mem_of_getElem? hi))
      mkr := fun i x hi => He.mkr_ok (fact (fa_mkr (List.mem_of_getElem? hi)))
      lam := fun i d hi => by
        have hm : d ∈ lamL := List.mem_of_getElem? hi
        obtain ⟨fd, F⟩ := He.SaysD.defs c.t.d (lam_fn hm)
        obtain ⟨oc, od, dV, kV, doc, pm, an, cdv, ct, osl, ef, lk, hcd, _, _⟩ := F.ex
        obtain ⟨cc, ec⟩ := He.codeIn_ref hcd
        have hc : fd.code = .ref cc := by rw [ef]; exact ec
        have e1 : (He.cT K d.at_).1 = cc := He.codeOf_eq lk hc
        refine ⟨fd, cc, (He.cT K d.at_).2, F, hc, ?_, List.mem_map.mpr ⟨d, hm, rfl⟩, fun p hp e => ?_⟩
        · rw [← e1]
          exact TB (He.cT K d.at_) (List.mem_map.mpr ⟨d.at_, List.mem_map.mpr ⟨d, hm, rfl⟩, rfl⟩)
        · obtain ⟨d', hd', e2⟩ := List.mem_map.mp hp
          rw [← e2] at e ⊢
          rw [lam_one (of_decide_eq_true x6) hd' hm e]
      lgl := fun i d x hi e => He.glo_ok KB G (fact (fa_fn (lam_fn (List.mem_of_getElem? hi)) e))
      f_all := free "all" (by decide +kernel)
      f_bool := free "bool" (by decide +kernel)
      f_enumerate := free "enumerate" (by decide +kernel)
      f_int := free "int" (by decide +kernel)
      f_isinstance := free "isinstance" (by decide +kernel)
      f_len := free "len" (by decide +kernel)
      f_list := free "list" (by decide +kernel)
      f_max := free "max" (by decide +kernel)
      f_min := free "min" (by decide +kernel)
      f_range := free "range" (by decide +kernel)
      f_set := free "set" (by decide +kernel)
      f_sorted := free "sorted" (by decide +kernel)
      f_str := free "str" (by decide +kernel)
      f_sum := free "sum" (by decide +kernel)
      f_tuple := free "tuple" (by decide +kernel)
      f_zip := free "zip" (by decide +kernel)
      i_LAST_DAY_questiontexts := gv_int KB G (fact (fa_int _ _ (by decide +kernel)))
      i_FAR := gv_int KB G (fact (fa_int _ _ (by decide +kernel)))
      i_MOST_NAMES := gv_int KB G (fact (fa_int _ _ (by decide +kernel)))
      i_MOST_OPEN := gv_int KB G (fact (fa_int _ _ (by decide +kernel)))
      i_MOST_CHANGES := gv_int KB G (fact (fa_int _ _ (by decide +kernel)))
      i_LAST_DAY_findings := gv_int KB G (fact (fa_int _ _ (by decide +kernel)))
      i_MOST_VALUE := gv_int KB G (fact (fa_int _ _ (by decide +kernel)))
      i_MOST_KEYS := gv_int KB G (fact (fa_int _ _ (by decide +kernel)))
      i_MOST_DEEDS := gv_int KB G (fact (fa_int _ _ (by decide +kernel)))
      s_LETTERS := gv_str KB G (fact (fa_str _ _ (by decide +kernel)))
      s_FIGURES := gv_str KB G (fact (fa_str _ _ (by decide +kernel))) }
    qs := of_decide_eq_true x2
    g1 := He.eqO_ok x3
    g2 := of_decide_eq_true x4
    qc := fun i x hi => by
      have hx := List.mem_of_getElem? hi
      obtain ⟨y1, y⟩ := He.ba (List.all_eq_true.mp x5 x hx)
      obtain ⟨y2, y3⟩ := He.ba y
      have hc : ∀ x ∈ qcL, clsL.contains x = true := fun x hx => List.all_eq_true.mp (show (qcL.all fun x => clsL.contains x) = true by decide +kernel) x hx
      exact ⟨He.cls_ok (fact (fa_cls (List.contains_iff_mem.mp (hc x hx)))), He.eqO_ok y1, of_decide_eq_true y2, of_decide_eq_true y3⟩ }
/-- the law's promise, the base out of sight -/
def spEnd (K : PySem.W.Frag) : Sp := fun vs H Q _ => ∃ (r : Addr) (sc : List Int), vs = [.ref r] ∧ SqL K H r (sc.map V.int) ∧ sc.length ≤ 63 ∧ (∀ p ∈ csL K, H p.2 = some (.tbl #[])) ∧ ∀ H', Q (.bl true) H'
def noTab (H : Hp) : Hp := fun b => match H b with
  | some o => cond (tabO o) none (some o)
  | none => none
theorem noTab_of {H : Hp} {b : Addr} {o : HO} (h : noTab H b = some o) : H b = some o ∧ tabO o = false := by
  unfold noTab at h
  cases e : H b with
  | none =>
    rw [e] at h
    cases h
  | some u =>
    rw [e] at h
    cases t : tabO u with
    | true =>
      have h2 : cond (tabO u) none (some u) = some o := h
      rw [t] at h2
      cases h2
    | false =>
      have h2 : cond (tabO u) none (some u) = some o := h
      rw [t] at h2
      cases h2
      exact ⟨rfl, t⟩
theorem noTab_at {H : Hp} {b : Addr} {o : HO} (h : H b = some o) (t : tabO o = false) : noTab H b = some o := by
  unfold noTab
  rw [h]
  show cond (tabO o) none (some o) = some o
  rw [t] <;> rfl
theorem noTab_list {H : Hp} {a : Addr} {xs : List V} (h : SqL K H a xs) : SqL K (noTab H) a xs := by
  rcases h with (h | ⟨o, h⟩) | h
  · exact .inl (.inl (noTab_at h rfl))
  · exact .inl (.inr ⟨o, noTab_at h rfl⟩)
  · exact .inr h
theorem spEnd_ok {vs : List V} {H : Hp} {Q : VK} {E : XK} (h : spEnd K vs H Q E) : Sp1 (spLawU (bsL w K mg base)) vs H Q E := by
  obtain ⟨r, sc, e, hs, hl, ht, hq⟩ := h
  refine ⟨_, e, r, sc, noTab H, rfl, noTab_list hs, hl, { g := fun b o e => (noTab_of e).1, o := fun p hp => (nomatch hp), nd := List.nodup_nil, tb := fun p hp => ?_, gt := fun b o e => (noTab_of e).2 }, hq⟩
  obtain ⟨d, hd, e2⟩ := List.mem_map.mp hp
  rw [← e2]
  exact LamX.TabS.nil (ht (He.cT K d.at_) (List.mem_map.mpr ⟨d.at_, List.mem_map.mpr ⟨d, hd, rfl⟩, rfl⟩))
theorem atEnd {f : Addr} (KH : K.In h) (G : h.Ns mainGlobals mg) (hf : mg ("law" : Str) = some (.ref f)) (c : He.SaysX faL fnL [] tfL exB w h K) : LamX.LawAtS PySem.Challenge.rw_unsaybook_k94_whole_texts_answered_at_ev w K CX0 20 63 "_law_script" mg f h := by
  obtain ⟨fd, F⟩ := He.SaysD.def_ c.t.d 103 (d := d_law) rfl
  have eg : mg ("law" : Str) = some (.ref (He.fAd K d_law.at_)) := He.glo_ok KH G (He.SaysD.facts c.t.d (fa_fn (d := d_law) (List.mem_of_getElem? (i := 103) rfl) rfl))
  rw [hf] at eg
  cases eg
  have b := FunD.bindsA (ps := ["_law_script"]) F fun _ _ _ _ _ _ us hl => match us, hl with | [_], _ => rfl
  refine ⟨fd, csL K, spEnd K, fun p hp => ?_, fun p hp => ?_, fun p hp => ?_, fun s v => b s [v] rfl, fun H a ns hl _ ht hs => ⟨a, ns, rfl, hs, hl, ht, fun _ => rfl⟩, fun base KB GB TB => ?_⟩
  · obtain ⟨q, hq, e⟩ := List.mem_map.mp hp
    rw [← e]
    exact c.empty q hq
  · obtain ⟨q, hq, e⟩ := List.mem_map.mp hp
    rw [← e]
    exact c.out q hq
  · obtain ⟨q, hq, e⟩ := List.mem_map.mp hp
    rw [← e]
    exact PySem.W.codeHd_of_K KH (c.hd q hq)
  · have E := evq c KB GB TB
    exact (law_ E (sortSet_ E.e.f_sorted E.e.f_set) F).imp fun vs H Q E h => spEnd_ok h
end
end
end U
open PySem PySem.W PySem.Calls PyProof.Rows
theorem PySem.Challenge.cw_unsaybook_k94_whole_texts_answered_at_ev_holds : PySem.Challenge.rw_unsaybook_k94_whole_texts_answered_at_ev.Holds := by
  w_on; o_law
  refine HandSHeadRun.head_any (r := OpenLaw.row PySem.Challenge.rw_unsaybook_k94_whole_texts_answered_at_ev) (q := U.qv0) (H := U.hk0) (ob := U.ob0) (M := 11200) (loose := U.names) (d := HandSHeadRun.topDef (OpenLaw.row PySem.Challenge.rw_unsaybook_k94_whole_texts_answered_at_ev).prog 88) (kwd := []) U.ob0_eq
    (by kernel_rfl) (fun s => by kernel_rfl) U.run0 (by kernel_rfl) (by kernel_rfl) (by kernel_rfl) (by rfl) (by first | assumption | decide +kernel) (by decide +kernel) ⟨rfl, rfl, rfl, rfl, rfl, by decide +kernel⟩ ?hw ?hc
  case hw => w_witness2
  case hc =>
    refine LamX.walk_ofTsE (l := PySem.Challenge.rw_unsaybook_k94_whole_texts_answered_at_ev) (n := 63) (k := 20) (x := "_law_script") (CX := fun _ => L2.CX0) rfl (by decide) (by kernel_rfl) ⟨rfl, by decide, by decide⟩ ?F (fun _ _ _ _ _ z => z)
    intro w mg fa h Y G hmg
    obtain ⟨K, KH, c⟩ := Y
    have nm : (HandSHeadRun.topDef (OpenLaw.row PySem.Challenge.rw_unsaybook_k94_whole_texts_answered_at_ev).prog 88).name = ("law" : PySem.Str) := by kernel_rfl
    rw [nm] at hmg
    exact ⟨K, KH, U.atEnd KH G hmg c⟩
