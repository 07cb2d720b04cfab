import PyProof.Rows.All
import Wide.All
import OpenK.AllK
import Wide.FinOn
import HandS.ForMost
import HandS.Evl
import HandS.Property
import HandS.IsInst
import HandS.Defaults
import HandS.HeadHook1
import HandS.HeadHook2
import HandS.Walk
import HandS.TupAny
import HandS.Strs
import HandS.Style
import KE.GoesMore
import HandS.Zip
import HandS.SetFor
import KE.KDictKeyed
import KE.KeyNested
import KE.KEqDict
import HandS.DictTup
import HandS.DictComp
import HandS.Words
import HandS.Small
import HandS.More
import HandS.Text
import HandS.Codes
import HandS.FStr
import HandS.New
import KE.KStateDown
import HandS.WordsExc
import HandS.Head0
import HandS.Head1
import HandS.Head2
import HandS.HeadEnd
import PySem.Challenge.RW_settlesfirst_k33_whole_any_values_as_blo
set_option Elab.async false
set_option linter.all false
set_option maxRecDepth 100000
set_option maxHeartbeats 0
namespace SF
open PySem PySem.Spec PyProof.Rows L2
/-! ### the text, by places -/
def topS (i : Nat) : Stmt := PySem.Challenge.pw_settlesfirst_k33_whole_any_values_as_blo.main.body.getD i (.Pass ⟨0, 0, 0, 0⟩)
/-- a def of the top stands where its name says -/
structure Df (K : PySem.W.Frag) (mg : Str → Option Value) (x : Str) (st : Stmt) : Prop where
  fn : ∃ fd, Fun K x x st (He.ga K x) fd
  g : mg x = some (.ref (He.ga K x))
/-- the address of a property's getter -/
def pgA (K : PySem.W.Frag) (C f : Str) : Addr := match PySem.W.findIn K (.ref (He.ga K C)) f with
  | some (some (.ref p)) => (match PySem.W.recIn K p "property" with
    | some (.ref g :: _) => g
    | _ => 0)
  | _ => 0
structure Pr (K : PySem.W.Frag) (C f qual : Str) (st : Stmt) : Prop where
  at_ : ∃ p, PropOf K (He.ga K C) f p (pgA K C f)
  fn : ∃ fd, Fun K f qual st (pgA K C f) fd
structure Txt (K : PySem.W.Frag) (mg : Str → Option Value) : Prop where
  f_is_integer : Df K mg "is_integer" (topS 21)
  f_is_count : Df K mg "is_count" (topS 22)
  f_is_below : Df K mg "is_below" (topS 23)
  f_is_answer : Df K mg "is_answer" (topS 24)
  f_is_name : Df K mg "is_name" (topS 25)
  f_is_list : Df K mg "is_list" (topS 26)
  f_is_entry : Df K mg "is_entry" (topS 27)
  f_is_row : Df K mg "is_row" (topS 28)
  f_want_names_of_deeds : Df K mg "want_names_of_deeds" (topS 29)
  f_want_few_deeds : Df K mg "want_few_deeds" (topS 30)
  f_want_parts : Df K mg "want_parts" (topS 31)
  f_is_state : Df K mg "is_state" (topS 35)
  f_is_deed : Df K mg "is_deed" (topS 36)
  f_want_state : Df K mg "want_state" (topS 37)
  f_place_of : Df K mg "place_of" (topS 39)
  f_step_at : Df K mg "step_at" (topS 40)
  f_run_of : Df K mg "run_of" (topS 41)
  f_want_team_of : Df K mg "want_team_of" (topS 45)
  f_places_of : Df K mg "places_of" (topS 49)
  f_team_of : Df K mg "team_of" (topS 50)
  f_answers_and_end : Df K mg "answers_and_end" (topS 54)
  f_mark_in : Df K mg "mark_in" (topS 55)
  f_kinds_of : Df K mg "kinds_of" (topS 57)
  f_steps_from : Df K mg "steps_from" (topS 58)
  f_first_spots : Df K mg "first_spots" (topS 59)
  f_next_spots : Df K mg "next_spots" (topS 60)
  f_begun_by : Df K mg "begun_by" (topS 61)
  f_order_of : Df K mg "order_of" (topS 62)
  f_shared_marks : Df K mg "shared_marks" (topS 63)
  f_blot : Df K mg "blot" (topS 64)
  f_is_order : Df K mg "is_order" (topS 65)
  f_is_blot : Df K mg "is_blot" (topS 66)
  f_law_pot : Df K mg "_law_pot" (topS 68)
  f_law_draw : Df K mg "_law_draw" (topS 69)
  f_law_pick : Df K mg "_law_pick" (topS 70)
  f_law_names : Df K mg "_law_names" (topS 71)
  f_law_any_rows : Df K mg "_law_any_rows" (topS 72)
  f_law_known_rows : Df K mg "_law_known_rows" (topS 73)
  f_law_model : Df K mg "_law_model" (topS 74)
  f_law_made : Df K mg "_law_made" (topS 75)
  f_law_run : Df K mg "_law_run" (topS 76)
  f_law_lot : Df K mg "_law_lot" (topS 77)
  f_law_named : Df K mg "_law_named" (topS 78)
  f_law_plan : Df K mg "_law_plan" (topS 79)
  f_law_rows : Df K mg "_law_rows" (topS 80)
  f_law_is_row : Df K mg "_law_is_row" (topS 81)
  f_law_sign : Df K mg "_law_sign" (topS 82)
  f_law_is_blot : Df K mg "_law_is_blot" (topS 83)
  f_law_values : Df K mg "_law_values" (topS 84)
  f_law_bent : Df K mg "_law_bent" (topS 85)
  f_law_judged : Df K mg "_law_judged" (topS 86)
  f_law_right : Df K mg "_law_right" (topS 87)
  f_law : Df K mg "law" (topS 88)
  g_Parts : mg "Parts" = some (.ref (He.ga K "Parts"))
  c_Parts : Cls K (He.ga K "Parts")
  m_Parts : Mk K (He.ga K "Parts") (He.ma K (He.ga K "Parts") "__init__")
  g_Thing : mg "Thing" = some (.ref (He.ga K "Thing"))
  c_Thing : Cls K (He.ga K "Thing")
  m_Thing : Mk K (He.ga K "Thing") (He.ma K (He.ga K "Thing") "__init__")
  g_Teams : mg "Teams" = some (.ref (He.ga K "Teams"))
  c_Teams : Cls K (He.ga K "Teams")
  m_Teams : Mk K (He.ga K "Teams") (He.ma K (He.ga K "Teams") "__init__")
  g_Layout : mg "Layout" = some (.ref (He.ga K "Layout"))
  c_Layout : Cls K (He.ga K "Layout")
  m_Layout : Mk K (He.ga K "Layout") (He.ma K (He.ga K "Layout") "__init__")
  i_Parts_init : ∃ fd, Fun K "__init__" "Parts.__init__" (inClass (topS 32) 0) (He.ma K (He.ga K "Parts") "__init__") fd
  i_Thing_init : ∃ fd, Fun K "__init__" "Thing.__init__" (inClass (topS 33) 0) (He.ma K (He.ga K "Thing") "__init__") fd
  i_Teams_init : ∃ fd, Fun K "__init__" "Teams.__init__" (inClass (topS 46) 0) (He.ma K (He.ga K "Teams") "__init__") fd
  i_Layout_init : ∃ fd, Fun K "__init__" "Layout.__init__" (inClass (topS 47) 0) (He.ma K (He.ga K "Layout") "__init__") fd
  i_Thing_rows : ∃ fd, Fun K "rows" "Thing.rows" (inClass (topS 33) 3) (He.ma K (He.ga K "Thing") "rows") fd
  i_Thing_repr : ∃ fd, Fun K "__repr__" "Thing.__repr__" (inClass (topS 33) 15) (He.ma K (He.ga K "Thing") "__repr__") fd
  i_Layout_repr : ∃ fd, Fun K "__repr__" "Layout.__repr__" (inClass (topS 47) 23) (He.ma K (He.ga K "Layout") "__repr__") fd
  i_Layout_len : ∃ fd, Fun K "__len__" "Layout.__len__" (inClass (topS 47) 21) (He.ma K (He.ga K "Layout") "__len__") fd
  t_Thing_rows : Meth K (He.ga K "Thing") "rows" (He.ma K (He.ga K "Thing") "rows")
  t_Thing_repr : Meth K (He.ga K "Thing") "__repr__" (He.ma K (He.ga K "Thing") "__repr__")
  t_Layout_repr : Meth K (He.ga K "Layout") "__repr__" (He.ma K (He.ga K "Layout") "__repr__")
  t_Layout_len : Meth K (He.ga K "Layout") "__len__" (He.ma K (He.ga K "Layout") "__len__")
  p_Thing_deeds : Pr K "Thing" "deeds" "Thing.deeds" (inClass (topS 33) 1)
  p_Layout_first : Pr K "Layout" "first" "Layout.first" (inClass (topS 47) 4)
  p_Layout_second : Pr K "Layout" "second" "Layout.second" (inClass (topS 47) 5)
  n_Parts_own_deeds : NoAttr K (He.ga K "Parts") "own_deeds"
  n_Parts_own_rows : NoAttr K (He.ga K "Parts") "own_rows"
  n_Thing_own_deeds : NoAttr K (He.ga K "Thing") "own_deeds"
  n_Thing_own_rows : NoAttr K (He.ga K "Thing") "own_rows"
  n_Teams_own_first : NoAttr K (He.ga K "Teams") "own_first"
  n_Teams_own_second : NoAttr K (He.ga K "Teams") "own_second"
  n_Layout_own_thing : NoAttr K (He.ga K "Layout") "own_thing"
  n_Layout_own_state : NoAttr K (He.ga K "Layout") "own_state"
  n_Layout_own_first : NoAttr K (He.ga K "Layout") "own_first"
  n_Layout_own_second : NoAttr K (He.ga K "Layout") "own_second"
  n_Layout_own_places : NoAttr K (He.ga K "Layout") "own_places"
  z_isinstance : mg "isinstance" = none
  z_len : mg "len" = none
  z_all : mg "all" = none
  z_enumerate : mg "enumerate" = none
  z_tuple : mg "tuple" = none
  z_list : mg "list" = none
  z_sorted : mg "sorted" = none
  z_repr : mg "repr" = none
  z_set : mg "set" = none
  z_int : mg "int" = none
  z_max : mg "max" = none
  z_min : mg "min" = none
  z_abs : mg "abs" = none
  z_divmod : mg "divmod" = none
  z_range : mg "range" = none
  z_bool : mg "bool" = none
  z_str : mg "str" = none
  v_LONGEST_NAME : ∃ t, mg "LONGEST_NAME" = some (.int 8 t)
  v_GREATEST_ANSWER : ∃ t, mg "GREATEST_ANSWER" = some (.int 9 t)
  v_MOST_DEEDS : ∃ t, mg "MOST_DEEDS" = some (.int 4 t)
  v_MOST_STATES : ∃ t, mg "MOST_STATES" = some (.int 8 t)
  v_MOST_HANDS : ∃ t, mg "MOST_HANDS" = some (.int 5 t)
  v_LETTERS : ∃ t, mg "LETTERS" = some (.str "abcdefghijklmnopqrstuvwxyz" t)
  k_list_Parts : PySem.W.kitOne K (.type "list") (.ref (He.ga K "Parts")) = some false
  k_Parts_Parts : PySem.W.kitOne K (.ref (He.ga K "Parts")) (.ref (He.ga K "Parts")) = some true
  k_list_Teams : PySem.W.kitOne K (.type "list") (.ref (He.ga K "Teams")) = some false
  k_Layout_tuple : PySem.W.kitOne K (.ref (He.ga K "Layout")) (.type "tuple") = some false
  k_Layout_list : PySem.W.kitOne K (.ref (He.ga K "Layout")) (.type "list") = some false
  k_Layout_int : PySem.W.kitOne K (.ref (He.ga K "Layout")) (.type "int") = some false
  k_Layout_bool : PySem.W.kitOne K (.ref (He.ga K "Layout")) (.type "bool") = some false
  o_class : PySem.W.findIn K (.ref (He.ga K "Layout")) "__class__" = some (some (.builtin "object.__class__"))
  o_get : PySem.W.specialIn K (.builtin "object.__class__") "__get__" = some (some (.builtin "getset_descriptor.__get__"))
  o_tak : PySem.W.takesIn K (.builtin "object.__class__") = some true
  o_mro : PySem.W.mroIn K (He.ga K "Layout") (.type "object") = some true
end SF
set_option Elab.async false
set_option linter.all false
set_option maxRecDepth 100000
set_option maxHeartbeats 2000000
namespace SF
open PySem PySem.Spec PyProof.Rows L2 Evl
/-! ### a def that keeps its promise, by its name -/
structure Dn (P : Program) (w : World) (K : PySem.W.Frag) (mg : Str → Option Value) (base : Heap) (k : Nat) (x : Str) (ps : List Str) (sp : Sp) : Prop where
  ex : ∃ f fd, FnOk P w K mg base CX0 k f fd ps sp ∧ mg x = some (.ref f) ∧ PySem.W.keepIn K (.ref f) = true ∧ Binds K fd ps []
theorem pe_fn {X : Cx} {k j : Nat} {x : Str} {ps : List Str} {sp : Sp} {p pos : Pos} {e : Expr} {es : List Expr} {t : TA} (D : Dn X.prog X.w X.K X.mg X.base k x ps sp) (hr : Room j X.A) (hk : k ≤ j) (hg : Gl X x) (ha : PA X (e :: es) t)
    (hdb : (x == ("__debug__" : Str)) = false := by decide) (he : starEach (e :: es) X.env = (false, eval e X.env) :: starEach es X.env := by rfl) (hpl : (backTo pos (starEach es X.env)).any (·.1) = false := by rfl) :
    PE X (.Call (.Name x p) (e :: es) [] pos) (tCall sp [] E0 t) := by
  obtain ⟨f, fd, F, hm, kp, b⟩ := D.ex
  exact pe_call F (hr.mono hk) hg hm kp b .nil pass0 ha hdb he hpl
section
variable {P : Program} {w : World} {K : PySem.W.Frag} {mg : Str → Option Value} {base : Heap}
theorem dn_of {k : Nat} {x : Str} {st : Stmt} {N ps : List Str} {sp : Sp} (F : Df K mg x st) (S : FnScope N ps (defScope st))
    (hb : ∀ (kV doc pm : Value) (an : Option Addr) (cdv ct : Value) (us : List Value), us.length = ps.length → bindArgs (PySem.W.fnOf x x (defArgs st) (defBody st) (defScope st) .none kV doc pm an cdv ct) ⟨us, []⟩ = pure (ps.zip us))
    (len : ∀ vs H Q E, sp vs H Q E → vs.length = ps.length)
    (body : ∀ (f : Addr) (cdv : Value) (A : Around) (outer : List Env) (s : Shared) (H : Hp) (vs : List V) (Q : VK) (E : XK), Room k (A.deeper (envOfC x (defScope st) s.heap.objs.size f cdv)) → sp vs H Q E →
      ∃ t, PSs (cxOf CX0 P w K mg base N x (defScope st) f cdv A outer s H E).nox (defBody st) t ∧ t { nx := fun _ H' => Q .non H', rt := Q } (start N vs) H) : Dn P w K mg base (k + 1) x ps sp := by
  obtain ⟨fd, G⟩ := F.fn
  exact ⟨⟨_, fd, G.ok S len fun cdv A outer s H vs Q E hr h => body _ cdv A outer s H vs Q E hr h, F.g, G.kp, G.binds hb⟩⟩
end
/-- a method of a class of the top that keeps its promise -/
structure Mn (P : Program) (w : World) (K : PySem.W.Frag) (mg : Str → Option Value) (base : Heap) (k : Nat) (C m : Str) (ps : List Str) (sp : Sp) : Prop where
  ex : ∃ fd, FnOk P w K mg base CX0 k (He.ma K (He.ga K C) m) fd ps sp ∧ Binds K fd ps []
section
variable {P : Program} {w : World} {K : PySem.W.Frag} {mg : Str → Option Value} {base : Heap}
theorem mn_of {k : Nat} {C m qual : Str} {st : Stmt} {N ps : List Str} {sp : Sp} (F : ∃ fd, Fun K m qual st (He.ma K (He.ga K C) m) fd) (S : FnScope N ps (defScope st))
    (hb : ∀ (kV doc pm : Value) (an : Option Addr) (cdv ct : Value) (us : List Value), us.length = ps.length → bindArgs (PySem.W.fnOf m qual (defArgs st) (defBody st) (defScope st) .none kV doc pm an cdv ct) ⟨us, []⟩ = pure (ps.zip us))
    (len : ∀ vs H Q E, sp vs H Q E → vs.length = ps.length)
    (body : ∀ (f : Addr) (cdv : Value) (A : Around) (outer : List Env) (s : Shared) (H : Hp) (vs : List V) (Q : VK) (E : XK), Room k (A.deeper (envOfC qual (defScope st) s.heap.objs.size f cdv)) → sp vs H Q E →
      ∃ t, PSs (cxOf CX0 P w K mg base N qual (defScope st) f cdv A outer s H E).nox (defBody st) t ∧ t { nx := fun _ H' => Q .non H', rt := Q } (start N vs) H) : Mn P w K mg base (k + 1) C m ps sp := by
  obtain ⟨fd, G⟩ := F
  exact ⟨⟨fd, G.ok S len fun cdv A outer s H vs Q E hr h => body _ cdv A outer s H vs Q E hr h, G.binds hb⟩⟩
end
/-- C(e, ..) -/
theorem pe_mk {X : Cx} {k j : Nat} {C : Str} {ps : List Str} {sp : Sp} {p pos : Pos} {e : Expr} {es : List Expr} {t : TA} (D : Mn X.prog X.w X.K X.mg X.base k C "__init__" ps sp) (M : Mk X.K (He.ga X.K C) (He.ma X.K (He.ga X.K C) "__init__")) (hm : X.mg C = some (.ref (He.ga X.K C))) (hr : Room j X.A) (hk : k + 1 ≤ j) (hg : Gl X C) (ha : PA X (e :: es) t)
    (hdb : (C == ("__debug__" : Str)) = false := by decide) (he : starEach (e :: es) X.env = (false, eval e X.env) :: starEach es X.env := by rfl) (hpl : (backTo pos (starEach es X.env)).any (·.1) = false := by rfl) :
    PE X (.Call (.Name C p) (e :: es) [] pos) (tMake (He.ga X.K C) sp [] E0 t) := by
  obtain ⟨fd, F, b⟩ := D.ex
  exact pe_make M F (hr.mono hk) hg hm b .nil pass0 ha hdb he hpl
/-- a built-in class as a value -/
theorem pe_ty {X : Cx} {x : Str} {pos : Pos} (n : String) (hg : Gl X x) (hm : X.mg x = none) (hv : bootBuiltins x = some (.type n)) (hn : x ≠ "__name__" := by decide) (hd : (x == ("__debug__" : Str)) = false := by decide) : PE X (.Name x pos) (tC (.ty n)) :=
  pe_bltn (v := .ty n) hg hm hv rfl hn hd
/-- a module's int, text -/
theorem pe_gint {X : Cx} {x : Str} {pos : Pos} {i : Int} {t : Tok} (hg : Gl X x) (hm : X.mg x = some (.int i t)) (hd : (x == ("__debug__" : Str)) = false := by decide) : PE X (.Name x pos) (tC (.int i)) := pe_glob (v := .int i) hg hm ⟨t, rfl⟩ hd
theorem pe_gstr {X : Cx} {x : Str} {pos : Pos} {i : Str} {t : Tok} (hg : Gl X x) (hm : X.mg x = some (.str i t)) (hd : (x == ("__debug__" : Str)) = false := by decide) : PE X (.Name x pos) (tC (.str i)) := pe_glob (v := .str i) hg hm ⟨t, rfl⟩ hd
/-- a module's class -/
theorem pe_gcls {X : Cx} {x : Str} {pos : Pos} {C : Addr} (hg : Gl X x) (hm : X.mg x = some (.ref C)) (hd : (x == ("__debug__" : Str)) = false := by decide) : PE X (.Name x pos) (tC (.ref C)) := pe_glob (v := .ref C) hg hm rfl hd
/-! ### rules that name the written part -/
section
variable {X : Cx} {pos : Pos}
def rListOf (K : PySem.W.Frag) : List V → Hp → VK → Prop := fun xs H Q => ∃ p ys, xs = [.ref p] ∧ (SqL K H p ys ∨ SqT K H p ys) ∧ ∀ l, H l = none → Q (.ref l) (upd H l (.lst ys))
def rTupOf (K : PySem.W.Frag) : List V → Hp → VK → Prop := fun xs H Q => ∃ p ys, xs = [.ref p] ∧ ((SqL K H p ys ∧ ∀ l, H l = none → Q (.ref l) (upd H l (.tup ys))) ∨ (SqT K H p ys ∧ Q (.ref p) H))
theorem ix_listK (K : PySem.W.Frag) (h : X.K = K) : IxR X (rIxL K) := h ▸ ix_list
theorem ix_tupK (K : PySem.W.Frag) (h : X.K = K) : IxR X (rIxT K) := h ▸ ix_tup
theorem call_isiK' (K : PySem.W.Frag) (h : X.K = K) : CallR X (.builtin "isinstance") (rIsi K) := h ▸ call_isi
theorem call_isiTK (K : PySem.W.Frag) (h : X.K = K) : CallR X (.builtin "isinstance") (rIsiT K) := h ▸ call_isiT
theorem op_inK (K : PySem.W.Frag) (h : X.K = K) : OpR X (compareOp .In) (rIn K false) := h ▸ op_in_seq
theorem op_ninK (K : PySem.W.Frag) (h : X.K = K) : OpR X (compareOp .NotIn) (rIn K true) := h ▸ op_notIn_seq
theorem call_lenK (K : PySem.W.Frag) (h : X.K = K) : CallR X (.builtin "len") (rLenS K) := h ▸ call_len_seq
theorem call_listK (K : PySem.W.Frag) (h : X.K = K) : CallR X (.type "list") (rListOf K) := h ▸ call_list_of
theorem call_tupleK (K : PySem.W.Frag) (h : X.K = K) : CallR X (.type "tuple") (rTupOf K) := h ▸ call_tuple_of
theorem call_allK (K : PySem.W.Frag) (h : X.K = K) (hc : X.calm = true) : CallR X (.builtin "all") (rAll K) := h ▸ cr_all hc
theorem call_sortedK (K : PySem.W.Frag) (h : X.K = K) : CallR X (.builtin "sorted") (rSorted K) := h ▸ cr_sorted
theorem sl_listK (K : PySem.W.Frag) (h : X.K = K) : SlR X (rSlL K) := h ▸ sl_list
theorem sl_tupK (K : PySem.W.Frag) (h : X.K = K) : SlR X (rSlA K) := h ▸ sl_tupA
theorem op_catTK (K : PySem.W.Frag) (h : X.K = K) : OpR X (binaryOp .Add) (rCatA K) := h ▸ op_catA
theorem op_eqDK (K : PySem.W.Frag) (h : X.K = K) {j : Nat} (hr : Room j X.A) : OpR X (compareOp .Eq) (rEqD K) := h ▸ op_eqD hr.units
theorem mt_indexK (K : PySem.W.Frag) (h : X.K = K) : MtR X "list.index" (rIndex K) := h ▸ mt_index
def rTupIx (K : PySem.W.Frag) : V → List V → Hp → VK → Prop := fun x xs H Q => ∃ p, ∃ ys : List Str, ∃ z j, x = .ref p ∧ xs = [.str z] ∧ SqT K H p (ys.map V.str) ∧ ys[j]? = some z ∧ (∀ m, m < j → ys[m]? ≠ some z) ∧ Q (.int (j : Nat)) H
theorem mt_tupixK (K : PySem.W.Frag) (h : X.K = K) : MtR X "tuple.index" (rTupIx K) := h ▸ mt_tup_index
theorem pi_listK (K : PySem.W.Frag) (h : X.K = K) {l tg : Expr} {tl : TE} (hl : PE X l tl) : PI X tg l (iList K tl) := h ▸ pi_list hl
theorem pi_tupK (K : PySem.W.Frag) (h : X.K = K) {l tg : Expr} {tl : TE} (hl : PE X l tl) : PI X tg l (iTup K tl) := h ▸ pi_tup hl
theorem pi_enumK (K : PySem.W.Frag) (h : X.K = K) {e : Expr} {ta : TA} {p pos tpos : Pos} {elts : List Expr} {kk : Nat} (hg : Gl X "enumerate") (hm : X.mg "enumerate" = none) (ha : PA X [e] ta) (hs : starEach [e] X.env = [(false, eval e X.env)] := by rfl) :
    PI X (.Tuple elts kk tpos) (.Call (.Name "enumerate" p) [e] [] pos) (iEnum K ta) := h ▸ pi_enum hg hm ha hs
theorem pg_tupK (K : PySem.W.Frag) (h : X.K = K) (n : Nat) {es : List Expr} {k : Nat} {t : TGs} (hc : X.calm = true) (hp : PGs X es t)
    (hn : (assignEach es X.env).length = n := by rfl) (hst : (assignEach es X.env).findIdx? (·.1) = none := by rfl) : PG X (.Tuple es k pos) (gTup K n t) := h ▸ pg_tup hc hp hn hst
theorem pe_fldK (K : PySem.W.Frag) (h : X.K = K) {e : Expr} {ta : TE} {f : Str} (he : PE X e ta) (hb : attributeBase e f X.env (eval e X.env) = eval e X.env) : PE X (.Attribute e f pos) (tFld K ta f) := h ▸ pe_fld he hb
theorem pe_bmK (K : PySem.W.Frag) (h : X.K = K) {o e : Expr} {es : List Expr} {to : TE} {t : TA} {name : Str} {apos cpos : Pos} {T id : String} {r : V → List V → Hp → VK → Prop}
    (pa : PlainAttrs T) (slot : Slot T name id) (hty : typeOf (.builtin id) = pure (.type "method_descriptor")) (hm : MtR X id r) (ho : PE X o to) (ha : PA X (e :: es) t)
    (hbase : attributeBase o name X.env (eval o X.env) = eval o X.env := by rfl)
    (hfew : ((backTo cpos (starEach (e :: es) X.env)).all (fun x => !x.1) && (backToKw cpos (keywordEach [] X.env)).all (fun x => x.1.isSome)
      && decide ((e :: es).length + ([] : List Keyword).length + (if ([] : List Keyword).isEmpty then 0 else 1) < 30)) = true := by rfl)
    (hline : (apos.endLine == cpos.line) = true := by rfl) (hs : starEach (e :: es) X.env = (false, eval e X.env) :: starEach es X.env := by rfl) (hplain : (backTo cpos (starEach es X.env)).any (·.1) = false := by rfl) :
    PE X (.Call (.Attribute o name apos) (e :: es) [] cpos) (tBM K T r to t) := h ▸ pe_bm pa slot hty hm ho ha hbase hfew hline hs hplain
end
/-! ### a tuple that is known to its object -/
/-- tuple(xs) of a list: the new tuple has no dict -/
def rTupFz (K : PySem.W.Frag) : List V → Hp → VK → Prop := fun xs H Q => ∃ p ys, xs = [.ref p] ∧ SqL K H p ys ∧ ∀ l o, H l = none → o.cls = .type "tuple" → o.dict = none → Q (.ref l) (upd H l (.frz o (.tup ys)))
theorem call_tupleFz {X : Cx} (K : PySem.W.Frag) (hK : X.K = K) : CallR X (.type "tuple") (rTupFz K) := by
  subst hK
  intro pins s σ H xs us Q I r h
  obtain ⟨p, ys, rfl, hl, q⟩ := h
  obtain ⟨_, rfl, rx⟩ := vals1 r
  cases rx
  obtain ⟨vals, rv, pl, big⟩ := I.list hl
  have same := rv.length
  refine call_tuple_list pl.isList (fun g kp => ?_) (by rw [List.size_toArray]; omega)
  have I1 : Inv X pins σ H { s with heap := g } := I.kept (t' := s.toks) kp
  have fresh := I1.hok.fresh (Nat.le_refl _)
  have I2 : Inv X pins σ (upd H g.objs.size (.frz { cls := .type "tuple", data := .seq vals.toArray } (.tup ys))) { s with heap := g.push { cls := .type "tuple", data := .seq vals.toArray } } :=
    I1.laid (t' := s.toks) (fun b o e => Heap.get?_push_of_some _ e) (Nat.le_refl _) ⟨Heap.get?_push_size _ rfl, big, vals, rv, IsTup.new _ _⟩
  exact ⟨.ref g.objs.size, _, I2, rfl, q _ _ fresh rfl rfl⟩
/-- o.m(e, ..) of such a tuple -/
def tyF (T : String) (x : V) (H : Hp) : Prop := ∃ a o u, x = .ref a ∧ H a = some (.frz o u) ∧ o.cls = .type T ∧ o.dict = none
def tBMF (T : String) (r : V → List V → Hp → VK → Prop) (to : TE) (t : TA) : TE := fun σ H Q => to σ H fun x H1 => tyF T x H1 ∧ t σ H1 fun xs H2 => r x xs H2 Q
theorem pe_bmF {X : Cx} {o e : Expr} {es : List Expr} {to : TE} {t : TA} {name : Str} {apos cpos : Pos} {T id : String} {r : V → List V → Hp → VK → Prop} (pa : PlainAttrs T) (slot : Slot T name id) (hty : typeOf (.builtin id) = pure (.type "method_descriptor")) (hm : MtR X id r) (ho : PE X o to) (ha : PA X (e :: es) t)
    (hbase : attributeBase o name X.env (eval o X.env) = eval o X.env := by rfl) (hfew : ((backTo cpos (starEach (e :: es) X.env)).all (fun x => !x.1) && (backToKw cpos (keywordEach [] X.env)).all (fun x => x.1.isSome) && decide ((e :: es).length + ([] : List Keyword).length + (if ([] : List Keyword).isEmpty then 0 else 1) < 30)) = true := by rfl)
    (hline : (apos.endLine == cpos.line) = true := by rfl) (hs : starEach (e :: es) X.env = (false, eval e X.env) :: starEach es X.env := by rfl) (hplain : (backTo cpos (starEach es X.env)).any (·.1) = false := by rfl) : PE X (.Call (.Attribute o name apos) (e :: es) [] cpos) (tBMF T r to t) := by
  refine ⟨fun pins s σ H Q I h => wpAny_Call_method_late hbase hfew hline rfl (thn (ho.run pins s σ H _ I h) fun v s1 ⟨x, H1, I1, r1, ty, q1⟩ => ?_)⟩
  obtain ⟨a, ob, u, rfl, hf, hc, hd⟩ := ty
  obtain rfl : v = Value.ref a := r1
  have hob := (I1.hok a _ hf).1
  refine ⟨T, id, pa, slot, hty, ⟨ob, hob, hc⟩, fun b eb => (by cases eb; exact ⟨ob, hob, hd⟩), ?_⟩
  have run := ha.run cpos pins s1 σ H1 _ I1 q1
  rw [hs] at run ⊢
  refine Calls.callWith_builtin (show (false || (backTo cpos (starEach es X.env)).any (·.1)) = false by rw [hplain] <;> rfl) (Calls.evalArgs_plain (thn run fun us s2 ⟨vs, H2, I2, r2, q2⟩ => ?_))
  exact hm pins s2 σ H2 (.ref a) vs (.ref a) us Q I2 rfl r2 q2
/-- len(o) of an instance whose class has __len__ -/
def rLenI (C : Addr) (sp : Sp) : List V → Hp → VK → Prop := fun xs H Q => ∃ a dx fs, xs = [.ref a] ∧ H a = some (.ins C dx fs) ∧ sp [.ref a] H (fun v H' => ∃ n : Int, v = .int n ∧ 0 ≤ n ∧ n < 2 ^ 63 ∧ Q (.int n) H') E0
theorem call_lenI {X : Cx} {k j : Nat} {C : Str} {ps : List Str} {sp : Sp} (K : PySem.W.Frag) (hK : X.K = K) (D : Mn X.prog X.w K X.mg X.base k C "__len__" ps sp) (M : Meth K (He.ga K C) "__len__" (He.ma K (He.ga K C) "__len__")) (hr : Room j X.A) (hk : k + 1 ≤ j) :
    CallR X (.builtin "len") (rLenI (He.ga K C) sp) := by
  subst hK
  intro pins s σ H xs us Q I r h
  obtain ⟨a, dx, fs, rfl, ea, h⟩ := h
  obtain ⟨u, rfl, ru⟩ := vals1 r
  obtain rfl : u = Value.ref a := ru
  obtain ⟨fd, F, b⟩ := D.ex
  obtain ⟨mA, O, _, _, _, _⟩ := ins_get I.hok ea
  obtain ⟨od, J, _⟩ := O.look
  obtain ⟨m, Fm⟩ := I.fr
  have hl : ([Value.ref a] ++ ([] : List Value)).length = ps.length := by
    rw [← F.len _ _ _ _ h] <;> rfl
  refine PySem.W.len_K Fm I.ok.mod.kin J M.at_ M.fn (wpAny_call (codeAny_mono (F.run X.A.in1 X.stack s H ⟨[.ref a], []⟩ [.ref a] [.ref a] _ _ (hr.mono hk).in1 I.env0.in1 (b s [.ref a] I.kIn hl) (.cons rfl .nil) h) fun r s' hq => ?_))
  cases r with
  | error er => exact False.elim hq
  | ok fl =>
    cases fl with
    | ret u =>
      obtain ⟨v, H', I3, rv, n, rfl, h0, h1, q3⟩ := I.after hq
      obtain ⟨t, rfl⟩ := rv
      exact ⟨⟨h0, h1⟩, .int n, H', I3.tok _, ⟨_, rfl⟩, q3⟩
    | next => exact False.elim hq
    | brk => exact False.elim hq
    | cont => exact False.elim hq
/-- a comprehension within a comprehension -/
theorem blkOk_in {X : Cx} {s : Shared} {H : Hp} {scope0 scope : Scope} {C : Addr} {cl : List (Str × Addr)} {fp : List Addr} {own : List (Str × Nat)} (N : List Str) (sc0 : Scope) (hN : X.N = N) (h0 : X.env.scope = sc0) (h : blkC N (relS scope0 sc0) scope own = true) :
    BlkOk (X.blk s H scope0 (compEnvC scope0 cl C X.env) fp).N (X.blk s H scope0 (compEnvC scope0 cl C X.env) fp).env.scope scope own := by
  subst hN h0
  exact blkOk_by h
/-! ### data -/
mutual
/-- the value is that datum: lists, tuples, dicts stand by themselves -/
inductive Dx (H : Hp) : V → PyData → Prop
  | non : Dx H .non .none
  | bl (b : Bool) : Dx H (.bl b) (.bool b)
  | int (i : Int) : Dx H (.int i) (.int i)
  | str (x : Str) : Dx H (.str x) (.str x)
  | lst {a : Addr} {xs : List V} {ds : List PyData} : H a = some (.lst xs) → DxAll H xs ds → Dx H (.ref a) (.list ds)
  | tup {a : Addr} {xs : List V} {ds : List PyData} : H a = some (.tup xs) → DxAll H xs ds → Dx H (.ref a) (.tuple ds)
  | dic {a : Addr} {kvs : List (Key × V)} {ds : List (PyData × PyData)} : H a = some (.dK kvs) → DxKv H kvs ds → Dx H (.ref a) (.dict ds)
inductive DxAll (H : Hp) : List V → List PyData → Prop
  | nil : DxAll H [] []
  | cons {v : V} {vs : List V} {d : PyData} {ds : List PyData} : Dx H v d → DxAll H vs ds → DxAll H (v :: vs) (d :: ds)
inductive DxKv (H : Hp) : List (Key × V) → List (PyData × PyData) → Prop
  | nil : DxKv H [] []
  | cons {k : Key} {v : V} {r : List (Key × V)} {c d : PyData} {ds : List (PyData × PyData)} : Dx H (kV k) c → Dx H v d → DxKv H r ds → DxKv H ((k, v) :: r) ((c, d) :: ds)
end
mutual
theorem Dx.ex {H H' : Hp} (e : Ex H H') : ∀ {v : V} {d : PyData}, Dx H v d → Dx H' v d
  | _, _, .non => .non
  | _, _, .bl b => .bl b
  | _, _, .int i => .int i
  | _, _, .str x => .str x
  | _, _, .lst h a => .lst (e _ _ h) (DxAll.ex e a)
  | _, _, .tup h a => .tup (e _ _ h) (DxAll.ex e a)
  | _, _, .dic h a => .dic (e _ _ h) (DxKv.ex e a)
theorem DxAll.ex {H H' : Hp} (e : Ex H H') : ∀ {vs : List V} {ds : List PyData}, DxAll H vs ds → DxAll H' vs ds
  | _, _, .nil => .nil
  | _, _, .cons h r => .cons (Dx.ex e h) (DxAll.ex e r)
theorem DxKv.ex {H H' : Hp} (e : Ex H H') : ∀ {vs : List (Key × V)} {ds : List (PyData × PyData)}, DxKv H vs ds → DxKv H' vs ds
  | _, _, .nil => .nil
  | _, _, .cons k h r => .cons (Dx.ex e k) (Dx.ex e h) (DxKv.ex e r)
end
section
variable {H H' : Hp} {v : V} {d : PyData} {vs : List V} {ds : List PyData}
theorem DxAll.length (h : DxAll H vs ds) : vs.length = ds.length := by
  induction h using DxAll.rec (motive_1 := fun _ _ _ => True) (motive_3 := fun _ _ _ => True) <;> simp_all
theorem DxAll.at : ∀ {vs : List V} {ds : List PyData} {i : Nat} {d : PyData}, DxAll H vs ds → ds[i]? = some d → ∃ v, vs[i]? = some v ∧ Dx H v d
  | _, _, _, _, .nil, e => by simp at e
  | _, _, 0, _, .cons h _, e => by
    have e' := Option.some.inj e
    subst e'
    exact ⟨_, rfl, h⟩
  | _, _, i + 1, _, .cons _ r, e => by
    obtain ⟨v, h1, h2⟩ := DxAll.at (i := i) r (by simpa using e)
    exact ⟨v, by simpa using h1, h2⟩
theorem DxAll.at' : ∀ {vs : List V} {ds : List PyData} {i : Nat} {v : V}, DxAll H vs ds → vs[i]? = some v → ∃ d, ds[i]? = some d ∧ Dx H v d
  | _, _, _, _, .nil, e => by simp at e
  | _, _, 0, _, .cons h _, e => by
    have e' := Option.some.inj e
    subst e'
    exact ⟨_, rfl, h⟩
  | _, _, i + 1, _, .cons _ r, e => by
    obtain ⟨v, h1, h2⟩ := DxAll.at' (i := i) r (by simpa using e)
    exact ⟨v, by simpa using h1, h2⟩
theorem DxAll.append : ∀ {xs ys : List V} {cs ds : List PyData}, DxAll H xs cs → DxAll H ys ds → DxAll H (xs ++ ys) (cs ++ ds)
  | _, _, _, _, .nil, b => b
  | _, _, _, _, .cons h r, b => .cons h (DxAll.append r b)
theorem DxAll.of_get : ∀ {xs : List V} {ds : List PyData}, xs.length = ds.length → (∀ (i : Nat) (x : V) (d : PyData), xs[i]? = some x → ds[i]? = some d → Dx H x d) → DxAll H xs ds
  | [], [], _, _ => .nil
  | [], _ :: _, h, _ => by simp at h
  | _ :: _, [], h, _ => by simp at h
  | x :: xs, d :: ds, h, f => .cons (f 0 x d rfl rfl) (DxAll.of_get (by simpa using h) fun i y c e1 e2 => f (i + 1) y c (by simpa using e1) (by simpa using e2))
theorem dx_int {i : Int} (h : Dx H v (.int i)) : v = .int i := by cases h; rfl
theorem dx_bl {b : Bool} (h : Dx H v (.bool b)) : v = .bl b := by cases h; rfl
theorem dx_str {x : Str} (h : Dx H v (.str x)) : v = .str x := by cases h; rfl
theorem dx_ints : ∀ {ns : List Int} {vs : List V}, DxAll H vs (ns.map .int) → vs = ns.map V.int
  | [], _, h => by cases h; rfl
  | n :: r, _, h => by
    cases h with
    | cons h t => rw [dx_int h, dx_ints t]; rfl
theorem dx_strs : ∀ {ns : List Str} {vs : List V}, DxAll H vs (ns.map .str) → vs = ns.map V.str
  | [], _, h => by cases h; rfl
  | n :: r, _, h => by
    cases h with
    | cons h t => rw [dx_str h, dx_strs t]; rfl
theorem ints_dx : ∀ ns : List Int, DxAll H (ns.map V.int) (ns.map .int)
  | [] => .nil
  | n :: r => .cons (.int n) (ints_dx r)
theorem strs_dx : ∀ ns : List Str, DxAll H (ns.map V.str) (ns.map .str)
  | [] => .nil
  | n :: r => .cons (.str n) (strs_dx r)
theorem dx_lst (h : Dx H v (.list ds)) : ∃ a xs, v = .ref a ∧ H a = some (.lst xs) ∧ DxAll H xs ds := by
  cases h with
  | lst h a => exact ⟨_, _, rfl, h, a⟩
theorem dx_tup (h : Dx H v (.tuple ds)) : ∃ a xs, v = .ref a ∧ H a = some (.tup xs) ∧ DxAll H xs ds := by
  cases h with
  | tup h a => exact ⟨_, _, rfl, h, a⟩
/-- the name of its class -/
def tyD : PyData → String
  | .none => "NoneType"
  | .bool _ => "bool"
  | .int _ => "int"
  | .str _ => "str"
  | .list _ => "list"
  | .tuple _ => "tuple"
  | .dict _ => "dict"
theorem Dx.ty {K : PySem.W.Frag} (h : Dx H v d) : TyX K H v (.type (tyD d)) := by
  cases h with
  | non => exact .base .non
  | bl b => exact .base (.bl b)
  | int i => exact .base (.int i)
  | str x => exact .base (.str x)
  | lst h _ => exact .base (.lst h)
  | tup h _ => exact .base (.tup h)
  | dic h _ => exact .base (.dK h)
end
/-! ### a heap without what stands in a frame -/
/-- H2 without what H1 has beyond G -/
def Nw (G H1 H2 : Hp) : Hp := fun b => if (G b).isNone = true ∧ (H1 b).isSome = true then none else H2 b
/-- H without b -/
def hide (H : Hp) (a : Addr) : Hp := fun b => if b = a then none else H b
section
variable {G G' H H1 H2 H3 : Hp} {a p : Addr} {o : HO}
theorem nw_none (h : G a = none) (h1 : H1 a = some o) : Nw G H1 H2 a = none := by
  unfold Nw
  rw [if_pos ⟨by rw [h]; rfl, by rw [h1]; rfl⟩]
theorem nw_old (h : G a = some o) : Nw G H1 H2 a = H2 a := by
  unfold Nw
  rw [if_neg]
  intro z
  rw [h] at z
  exact Bool.noConfusion z.1
theorem nw_free (h : H1 a = none) : Nw G H1 H2 a = H2 a := by
  unfold Nw
  rw [if_neg]
  intro z
  rw [h] at z
  exact Bool.noConfusion z.2
theorem nw_cases (G H1 H2 : Hp) (a : Addr) : Nw G H1 H2 a = none ∨ (Nw G H1 H2 a = H2 a ∧ ((∃ o, G a = some o) ∨ H1 a = none)) := by
  cases h : G a with
  | some o => exact .inr ⟨nw_old h, .inl ⟨o, rfl⟩⟩
  | none =>
    cases h1 : H1 a with
    | none => exact .inr ⟨nw_free h1, .inr rfl⟩
    | some o => exact .inl (nw_none h h1)
theorem nw_base (e : Ex G H2) : Ex G (Nw G H1 H2) := fun b o h => by
  rw [nw_old h]
  exact e b o h
theorem nw_sub : Ex (Nw G H1 H2) H2 := fun b o h => by
  rcases nw_cases G H1 H2 b with z | ⟨z, _⟩
  · rw [z] at h; cases h
  · rw [z] at h; exact h
theorem nw_up (e : Ex H2 H3) : Ex (Nw G H1 H2) (Nw G H1 H3) := fun b o h => by
  rcases nw_cases G H1 H2 b with z | ⟨z, y⟩
  · rw [z] at h; cases h
  · rw [z] at h
    rcases y with ⟨u, y⟩ | y
    · rw [nw_old y]; exact e b o h
    · rw [nw_free y]; exact e b o h
theorem nw_chain (e : Ex H1 H2) : Ex (Nw G H2 H3) (Nw G H1 H3) := fun b o h => by
  rcases nw_cases G H2 H3 b with z | ⟨z, y⟩
  · rw [z] at h; cases h
  · rw [z] at h
    rcases y with ⟨u, y⟩ | y
    · rw [nw_old y]; exact h
    · rw [nw_free (fresh_back e y)]; exact h
theorem nw_wide (e : Ex G G') : Ex (Nw G H1 H2) (Nw G' H1 H2) := fun b o h => by
  rcases nw_cases G H1 H2 b with z | ⟨z, y⟩
  · rw [z] at h; cases h
  · rw [z] at h
    rcases y with ⟨u, y⟩ | y
    · rw [nw_old (e b u y)]; exact h
    · rw [nw_free y]; exact h
theorem nw_self : Ex H2 (Nw H H H2) := fun b o h => by
  rcases nw_cases H H H2 b with z | ⟨z, _⟩
  · cases y : H b with
    | some u => rw [nw_old y]; exact h
    | none => rw [nw_free y]; exact h
  · rw [z]; exact h
/-- what a call whose base is G with the new things gives back -/
theorem nw_call (e : Ex H1 H2) : Ex (Nw (Nw G H1 H2) H2 H3) (Nw G H1 H3) := fun b o h => by
  rcases nw_cases (Nw G H1 H2) H2 H3 b with z | ⟨z, y⟩
  · rw [z] at h; cases h
  · rw [z] at h
    rcases y with ⟨u, y⟩ | y
    · rcases nw_cases G H1 H2 b with z2 | ⟨_, y2⟩
      · rw [z2] at y; cases y
      · rcases y2 with ⟨u2, y2⟩ | y2
        · rw [nw_old y2]; exact h
        · rw [nw_free y2]; exact h
    · rw [nw_free (fresh_back e y)]; exact h
theorem hide_self : hide H a a = none := by unfold hide; rw [if_pos rfl]
theorem hide_ne {b : Addr} (h : b ≠ a) : hide H a b = H b := by unfold hide; rw [if_neg h]
theorem hide_sub : Ex (hide H a) H := fun b o h => by
  by_cases e : b = a
  · rw [e, hide_self] at h; cases h
  · rw [hide_ne e] at h; exact h
theorem hide_ex (e : Ex H1 H2) : Ex (hide H1 a) (hide H2 a) := fun b o h => by
  by_cases z : b = a
  · rw [z, hide_self] at h; cases h
  · rw [hide_ne z] at h ⊢; exact e b o h
theorem hide_upd : Ex (hide H a) (hide (upd H a o) a) := fun b u h => by
  by_cases z : b = a
  · rw [z, hide_self] at h; cases h
  · rw [hide_ne z] at h ⊢; rw [upd_ne z]; exact h
theorem hide_to (h : H a = none) : Ex H (hide H a) := fun b u q => by
  by_cases z : b = a
  · rw [z, h] at q; cases q
  · rw [hide_ne z]; exact q
/-- an element made while the list at a is known -/
theorem nw_hide (e : Ex H1 H2) (hG : G a = none) (ha : H2 a = some o) : Ex (Nw G H2 H3) (hide (Nw G H1 H3) a) := fun b u h => by
  by_cases z : b = a
  · rw [z, nw_none hG ha] at h; cases h
  · rw [hide_ne z]; exact nw_chain e b u h
end
/-! ### what an expression comes to, further -/
abbrev PV := V → Hp → Prop
/-- it stays while the heap grows -/
def Up (P : PV) : Prop := ∀ v H H', Ex H H' → P v H → P v H'
theorem up_dx {d : PyData} : Up (fun v H => Dx H v d) := fun _ _ _ e h => h.ex e
theorem up_s {S : V → Prop} : Up (fun v _ => S v) := fun _ _ _ _ h => h
/-- from the base G: a value of which P is true, of the base and of what is new -/
def EvP (te : TE) (σ : L2.St) (G : Hp) (P : PV) : Prop := ∀ H1, Ex G H1 → ∀ Q : VK, (∀ v H2, Ex H1 H2 → P v (Nw G H1 H2) → Q v H2) → te σ H1 Q
abbrev EvD (te : TE) (σ : L2.St) (G : Hp) (d : PyData) : Prop := EvP te σ G fun v H => Dx H v d
def EvDA (ta : TA) (σ : L2.St) (G : Hp) (ds : List PyData) : Prop := ∀ H1, Ex G H1 → ∀ Q : List V → Hp → Prop, (∀ vs H2, Ex H1 H2 → DxAll (Nw G H1 H2) vs ds → Q vs H2) → ta σ H1 Q
/-- a new list of which P is true -/
def EvLP (te : TE) (σ : L2.St) (G : Hp) (P : List V → Hp → Prop) : Prop := ∀ H1, Ex G H1 → ∀ Q : VK, (∀ p ys H2, H1 p = none → Ex H1 H2 → H2 p = some (.lst ys) → P ys (hide (Nw G H1 H2) p) → Q (.ref p) H2) → te σ H1 Q
/-- a promise's ways -/
def RetP (P : PV) (G H : Hp) (Q : VK) : Prop := ∀ v H2, Ex H H2 → P v (Nw G H H2) → Q v H2
abbrev RetD (d : PyData) (G H : Hp) (Q : VK) : Prop := RetP (fun v H => Dx H v d) G H Q
section
variable {K : PySem.W.Frag} {σ : L2.St} {G G' H H' : Hp} {ta tb te : TE} {v x y : V} {d c : PyData} {ds : List PyData} {i : Nat} {T U : String} {b : Bool} {P : PV}
theorem EvP.mono (u : Up P) (e : Ex G G') (h : EvP te σ G P) : EvP te σ G' P := fun H1 a Q q => h H1 (e.trans a) Q fun v H2 e2 p => q v H2 e2 (u _ _ _ (nw_wide e) p)
theorem EvP.imp {R : PV} (h : EvP te σ G P) (f : ∀ v H, P v H → R v H) : EvP te σ G R := fun H1 a Q q => h H1 a Q fun v H2 e2 p => q v H2 e2 (f v _ p)
theorem ep_ev (h : Ev te σ G v) (hp : ∀ H, Ex G H → P v H) : EvP te σ G P := fun H1 e Q q => h H1 e Q fun H2 e2 => q v H2 e2 (hp _ (nw_base (e.trans e2)))
theorem ed_ev (h : Ev te σ G v) (hd : Dx G v d) : EvD te σ G d := ep_ev h fun _ e => hd.ex e
theorem ev_ed {n : Int} (h : EvD te σ H (.int n)) : Ev te σ H (.int n) := fun H1 e Q q => h H1 e Q fun v H2 e2 hd => by
  rw [dx_int hd]
  exact q H2 e2
theorem ev_edB {n : Bool} (h : EvD te σ H (.bool n)) : Ev te σ H (.bl n) := fun H1 e Q q => h H1 e Q fun v H2 e2 hd => by
  rw [dx_bl hd]
  exact q H2 e2
theorem ev_edS {x : Str} (h : EvD te σ H (.str x)) : Ev te σ H (.str x) := fun H1 e Q q => h H1 e Q fun v H2 e2 hd => by
  rw [dx_str hd]
  exact q H2 e2
theorem ed_nil : EvDA tNil σ H [] := fun H1 _ _ q => q [] H1 (Ex.refl H1) .nil
theorem ed_cons {tr : TA} (h : EvD te σ H d) (hr : EvDA tr σ H ds) : EvDA (tCons te tr) σ H (d :: ds) := fun H1 e _ q =>
  h H1 e _ fun v H2 e2 hv => hr H2 (e.trans e2) _ fun vs H3 e3 hvs => q _ H3 (e2.trans e3) (.cons (hv.ex (nw_up e3)) (hvs.ex (nw_chain e2)))
theorem nw_new {H1 H2 : Hp} {p : Addr} {o : HO} (e : Ex H1 H2) (hp : H2 p = none) : Nw G H1 (upd H2 p o) p = some o := by
  rw [nw_free (fresh_back e hp)]
  exact upd_same
theorem ed_tup {ta : TA} (h : EvDA ta σ H ds) (hl : ds.length ≤ 100000) : EvD (tTup ta) σ H (.tuple ds) := fun H1 e Q q =>
  h H1 e _ fun vs H2 e2 hv => ⟨sz_of (by rw [hv.length]; exact hl), fun p hp => q _ _ (e2.trans (Ex.new hp)) (.tup (nw_new e2 hp) (hv.ex (nw_up (Ex.new hp))))⟩
theorem ed_lst {ta : TA} (h : EvDA ta σ H ds) (hl : ds.length ≤ 100000) : EvD (tLst ta) σ H (.list ds) := fun H1 e Q q =>
  h H1 e _ fun vs H2 e2 hv => ⟨sz_of (by rw [hv.length]; exact hl), fun p hp => q _ _ (e2.trans (Ex.new hp)) (.lst (nw_new e2 hp) (hv.ex (nw_up (Ex.new hp))))⟩
/-- a call with arguments known in the base -/
theorem ep_call {sp : Sp} {vs : List V} {E : XK} {ta : TA} (u : Up P) (h : EvA ta σ G vs) (hs : ∀ H1, Ex G H1 → ∀ Q, RetP P G H1 Q → sp (vs ++ []) H1 Q E) : EvP (tCall sp [] E ta) σ G P := fun H1 e Q q =>
  h H1 e _ fun H2 e2 => hs H2 (e.trans e2) Q fun v H3 e3 hv => q v H3 (e2.trans e3) (u _ _ _ (nw_chain e2) hv)
/-- a call with arguments some of which are made for it -/
theorem ep_callD {sp : Sp} {ds : List PyData} {E : XK} {ta : TA} (u : Up P) (h : EvDA ta σ G ds) (hs : ∀ G' H1 vs, Ex G G' → Ex G' H1 → DxAll G' vs ds → ∀ Q, RetP P G' H1 Q → sp (vs ++ []) H1 Q E) : EvP (tCall sp [] E ta) σ G P := fun H1 e Q q =>
  h H1 e _ fun vs H2 e2 hd => hs (Nw G H1 H2) H2 vs (nw_base (e.trans e2)) nw_sub hd Q fun v H3 e3 hv => q v H3 (e2.trans e3) (u _ _ _ (nw_call e2) hv)
/-- a call that hands back one value, by its promise -/
theorem ev_fn {sp : Sp} {vs : List V} {E : XK} {ta : TA} {z : V} (h : EvA ta σ H vs) (hs : ∀ H1, Ex H H1 → ∀ Q E, RetV z H1 Q → sp (vs ++ []) H1 Q E) : Ev (tCall sp [] E ta) σ H z :=
  ev_call h fun H1 e Q q E => hs H1 e Q E q
theorem ev_fnD {sp : Sp} {ds : List PyData} {E : XK} {ta : TA} {z : V} (h : EvDA ta σ G ds) (hs : ∀ G' H1 vs, Ex G G' → Ex G' H1 → DxAll G' vs ds → ∀ Q, RetV z H1 Q → sp (vs ++ []) H1 Q E) : Ev (tCall sp [] E ta) σ G z := fun H1 e Q q =>
  h H1 e _ fun vs H2 e2 hd => hs (Nw G H1 H2) H2 vs (nw_base (e.trans e2)) nw_sub hd Q fun H3 e3 => q H3 (e2.trans e3)
theorem ev_isi (h : Ev ta σ H x) (hd : Dx H x d) (hk : kitB (tyD d) T = some b) : Ev (tCB (rIsi K) (tCons ta (tCons (tC (.ty T)) tNil))) σ H (.bl b) := fun H1 e Q q =>
  h H1 e _ fun H2 e2 => ⟨x, .ty T, _, .type T, b, rfl, .ty T, (hd.ex (e.trans e2)).ty, kit_ty hk, q H2 e2⟩
end
/-! ### the classes asked -/
def isIB : PyData → Bool
  | .int _ => true
  | .bool _ => true
  | _ => false
def isBo : PyData → Bool
  | .bool _ => true
  | _ => false
def isSt : PyData → Bool
  | .str _ => true
  | _ => false
def isTu : PyData → Bool
  | .tuple _ => true
  | _ => false
def isLi : PyData → Bool
  | .list _ => true
  | _ => false
theorem kit_int (d : PyData) : kitB (tyD d) "int" = some (isIB d) := by
  cases d with
  | none => exact (by decide +kernel : kitB "NoneType" "int" = some false)
  | bool b => exact (by decide +kernel : kitB "bool" "int" = some true)
  | int b => exact (by decide +kernel : kitB "int" "int" = some true)
  | str b => exact (by decide +kernel : kitB "str" "int" = some false)
  | list b => exact (by decide +kernel : kitB "list" "int" = some false)
  | tuple b => exact (by decide +kernel : kitB "tuple" "int" = some false)
  | dict b => exact (by decide +kernel : kitB "dict" "int" = some false)
theorem kit_bool (d : PyData) : kitB (tyD d) "bool" = some (isBo d) := by
  cases d with
  | none => exact (by decide +kernel : kitB "NoneType" "bool" = some false)
  | bool b => exact (by decide +kernel : kitB "bool" "bool" = some true)
  | int b => exact (by decide +kernel : kitB "int" "bool" = some false)
  | str b => exact (by decide +kernel : kitB "str" "bool" = some false)
  | list b => exact (by decide +kernel : kitB "list" "bool" = some false)
  | tuple b => exact (by decide +kernel : kitB "tuple" "bool" = some false)
  | dict b => exact (by decide +kernel : kitB "dict" "bool" = some false)
theorem kit_str (d : PyData) : kitB (tyD d) "str" = some (isSt d) := by
  cases d with
  | none => exact (by decide +kernel : kitB "NoneType" "str" = some false)
  | bool b => exact (by decide +kernel : kitB "bool" "str" = some false)
  | int b => exact (by decide +kernel : kitB "int" "str" = some false)
  | str b => exact (by decide +kernel : kitB "str" "str" = some true)
  | list b => exact (by decide +kernel : kitB "list" "str" = some false)
  | tuple b => exact (by decide +kernel : kitB "tuple" "str" = some false)
  | dict b => exact (by decide +kernel : kitB "dict" "str" = some false)
theorem kit_tuple (d : PyData) : kitB (tyD d) "tuple" = some (isTu d) := by
  cases d with
  | none => exact (by decide +kernel : kitB "NoneType" "tuple" = some false)
  | bool b => exact (by decide +kernel : kitB "bool" "tuple" = some false)
  | int b => exact (by decide +kernel : kitB "int" "tuple" = some false)
  | str b => exact (by decide +kernel : kitB "str" "tuple" = some false)
  | list b => exact (by decide +kernel : kitB "list" "tuple" = some false)
  | tuple b => exact (by decide +kernel : kitB "tuple" "tuple" = some true)
  | dict b => exact (by decide +kernel : kitB "dict" "tuple" = some false)
theorem kit_list (d : PyData) : kitB (tyD d) "list" = some (isLi d) := by
  cases d with
  | none => exact (by decide +kernel : kitB "NoneType" "list" = some false)
  | bool b => exact (by decide +kernel : kitB "bool" "list" = some false)
  | int b => exact (by decide +kernel : kitB "int" "list" = some false)
  | str b => exact (by decide +kernel : kitB "str" "list" = some false)
  | list b => exact (by decide +kernel : kitB "list" "list" = some true)
  | tuple b => exact (by decide +kernel : kitB "tuple" "list" = some false)
  | dict b => exact (by decide +kernel : kitB "dict" "list" = some false)
/-- of an int or a bool alone: the int -/
def isIntD : PyData → Bool
  | .int _ => true
  | _ => false
def isCountD : PyData → Bool
  | .int i => decide (0 ≤ i)
  | _ => false
def belowD (n : Int) : PyData → Bool
  | .int i => decide (0 ≤ i) && decide (i < n)
  | _ => false
def isSeqD : PyData → Bool
  | .list _ => true
  | .tuple _ => true
  | _ => false
section
variable {K : PySem.W.Frag} {σ : L2.St} {H H' : Hp} {ta tb te : TE} {v x y : V} {d c : PyData}
theorem ev_int (h : Ev ta σ H x) (hd : Dx H x d) : Ev (tCB (rIsi K) (tCons ta (tCons (tC (.ty "int")) tNil))) σ H (.bl (isIB d)) := ev_isi h hd (kit_int d)
theorem ev_bool (h : Ev ta σ H x) (hd : Dx H x d) : Ev (tCB (rIsi K) (tCons ta (tCons (tC (.ty "bool")) tNil))) σ H (.bl (isBo d)) := ev_isi h hd (kit_bool d)
theorem ev_str (h : Ev ta σ H x) (hd : Dx H x d) : Ev (tCB (rIsi K) (tCons ta (tCons (tC (.ty "str")) tNil))) σ H (.bl (isSt d)) := ev_isi h hd (kit_str d)
theorem ev_tuple (h : Ev ta σ H x) (hd : Dx H x d) : Ev (tCB (rIsi K) (tCons ta (tCons (tC (.ty "tuple")) tNil))) σ H (.bl (isTu d)) := ev_isi h hd (kit_tuple d)
theorem ev_seq (h : Ev ta σ H x) (hd : Dx H x d) : Ev (tCB (rIsiT K) (tCons ta (tCons (tTup (tCons (tC (.ty "list")) (tCons (tC (.ty "tuple")) tNil))) tNil))) σ H (.bl (isSeqD d)) := fun H1 e Q q =>
  h H1 e _ fun H2 e2 => by
    refine ⟨sz_of (by show 2 ≤ 100000; decide), fun p hp => ?_⟩
    refine ⟨x, p, [.ty "list", .ty "tuple"], _, [.type "list", .type "tuple"], isSeqD d, rfl, upd_same, .cons (.ty _) (.cons (.ty _) .nil), (hd.ex ((e.trans e2).trans (Ex.new hp))).ty, ?_, q _ (e2.trans (Ex.new hp))⟩
    refine kitAny_cons (kit_ty (kit_list d)) (fun hf => kitAny_cons (kit_ty (kit_tuple d)) (fun hg => ?_) fun hg => ?_) fun hg => ?_
    · rw [kitAny_nil]
      cases d with
      | list _ => exact Bool.noConfusion (show true = false from hf)
      | tuple _ => exact Bool.noConfusion (show true = false from hg)
      | _ => rfl
    · cases d with
      | tuple _ => rfl
      | _ => exact Bool.noConfusion (show false = true from hg)
    · cases d with
      | list _ => rfl
      | _ => exact Bool.noConfusion (show false = true from hg)
theorem ex_all {H H' : Hp} {P : V → Hp → Prop} (up : ∀ v H H', Ex H H' → P v H → P v H') (e : Ex H H') {xs : List V} (h : ∀ x ∈ xs, P x H) : ∀ x ∈ xs, P x H' := fun x hx => up x H H' e (h x hx)
end
end SF
set_option Elab.async false
set_option linter.all false
set_option maxRecDepth 100000
set_option maxHeartbeats 2000000
namespace SF
open PySem PySem.Spec PyProof.Rows L2 Evl
/-! ### comprehensions -/
/-- the items, one for each number -/
inductive Al (P : Nat → PV) (h : Hp) : List Nat → List V → Prop
  | nil : Al P h [] []
  | cons {k : Nat} {y : V} {ks : List Nat} {ys : List V} : P k y h → Al P h ks ys → Al P h (k :: ks) (y :: ys)
section
variable {P : Nat → PV} {h h' : Hp}
theorem Al.snoc {k : Nat} {y : V} (p : P k y h) : ∀ {ks : List Nat} {ys : List V}, Al P h ks ys → Al P h (ks ++ [k]) (ys ++ [y])
  | _, _, .nil => .cons p .nil
  | _, _, .cons q r => .cons q (Al.snoc p r)
theorem Al.up (u : ∀ i, Up (P i)) (e : Ex h h') : ∀ {ks : List Nat} {ys : List V}, Al P h ks ys → Al P h' ks ys
  | _, _, .nil => .nil
  | _, _, .cons q r => .cons (u _ _ _ _ e q) (Al.up u e r)
theorem Al.length : ∀ {ks : List Nat} {ys : List V}, Al P h ks ys → ys.length = ks.length
  | _, _, .nil => rfl
  | _, _, .cons _ r => by rw [List.length_cons, List.length_cons, Al.length r]
theorem Al.at : ∀ {ks : List Nat} {ys : List V} {j : Nat} {y : V}, Al P h ks ys → ys[j]? = some y → ∃ k, ks[j]? = some k ∧ P k y h
  | _, _, _, _, .nil, e => by simp at e
  | _, _, 0, _, .cons q _, e => by
    have e' := Option.some.inj e
    subst e'
    exact ⟨_, rfl, q⟩
  | _, _, j + 1, _, .cons _ r, e => by
    obtain ⟨k, h1, h2⟩ := Al.at (j := j) r (by simpa using e)
    exact ⟨k, by simpa using h1, h2⟩
theorem Al.dx {ds : Nat → PyData} : ∀ {ks : List Nat} {ys : List V}, Al (fun k y h => Dx h y (ds k)) h ks ys → DxAll h ys (ks.map ds)
  | _, _, .nil => .nil
  | _, _, .cons q r => .cons q (Al.dx r)
theorem Al.imp {R : Nat → PV} (f : ∀ k y, P k y h → R k y h') : ∀ {ks : List Nat} {ys : List V}, Al P h ks ys → Al R h' ks ys
  | _, _, .nil => .nil
  | _, _, .cons q r => .cons (f _ _ q) (Al.imp f r)
theorem Al.eq {v : Nat → V} : ∀ {ks : List Nat} {ys : List V}, Al (fun k y _ => y = v k) h ks ys → ys = ks.map v
  | _, _, .nil => rfl
  | _, _, .cons q r => by rw [q, Al.eq r, List.map_cons]
end
def ixs (n : Nat) (f : Nat → Bool) : List Nat := (List.range n).filter f
theorem ixs_yes {n : Nat} {f : Nat → Bool} (h : f n = true) : ixs (n + 1) f = ixs n f ++ [n] := by
  unfold ixs
  rw [List.range_succ, List.filter_append, List.filter_cons, if_pos h] <;> rfl
theorem ixs_no {n : Nat} {f : Nat → Bool} (h : f n = false) : ixs (n + 1) f = ixs n f := by
  unfold ixs
  rw [List.range_succ, List.filter_append, List.filter_cons, if_neg (by rw [h]; decide)]
  show _ ++ [] = _
  rw [List.append_nil]
theorem ixs_len (n : Nat) (f : Nat → Bool) : (ixs n f).length ≤ n := by
  unfold ixs
  have h := List.length_filter_le f (List.range n)
  rw [List.length_range] at h
  exact h
theorem ixs_all (n : Nat) : ixs n (fun _ => true) = List.range n := by
  unfold ixs
  exact List.filter_eq_self.mpr fun _ _ => rfl
/-- one turn: the target's store, the test, the element -/
def TurnP (g : TG) (tt : TT) (te : TE) (σ : L2.St) (vs : List Nat) (x : V) (G : Hp) (b : Bool) (P : PV) : Prop :=
  ∀ H1, Ex G H1 → ∀ (R : VK) (R0 : Hp → Prop), (b = true → ∀ y H2, Ex H1 H2 → P y (Nw G H1 H2) → R y H2) → (b = false → ∀ H2, Ex H1 H2 → R0 H2) →
    g x (wipe σ vs) H1 fun σ2 H2 => wipe σ2 vs = wipe σ vs ∧ tt σ2 H2 fun c H3 => if c = true then te σ2 H3 R else R0 H3
theorem walk_lcP {J : It} {n : Nat} {Xs : Nat → V → Prop} {g : TG} {tt : TT} {te : TE} {vs : List Nat} {σ : L2.St} {G H1 : Hp} {D : Addr} {Qd : Hp → Prop} (f : Nat → Bool) (P : Nat → PV) (u : ∀ i, Up (P i)) (hn : n ≤ 50000)
    (wk : Walk J n (fun H => Ex H1 H) fun i H x H' => H' = H ∧ Xs i x) (eG : Ex G H1) (hD : H1 D = none)
    (hs : ∀ i x, i < n → Xs i x → TurnP g tt te σ vs x G (f i) (P i)) (hd : ∀ ys H2, Ex H1 H2 → H2 D = some (.lst ys) → Al P (hide (Nw G H1 H2) D) (ixs n f) ys → Qd H2) :
    ∃ W : Nat → Nat → Hp → Prop, (∃ m, W 0 m (upd H1 D (.lst []))) ∧ ∀ i m H, W i m H →
      (J.stop i H ∧ Qd H) ∨ (J.go i H ∧ ∃ Nx : Hp → Prop, (∀ H', Nx H' → ∃ m', m' < m ∧ W (i + 1) m' H') ∧ ∀ x H', J.yld i H x H' → g x (wipe σ vs) H' fun σ2 H2 => wipe σ2 vs = wipe σ vs ∧ tt σ2 H2 fun b H3 =>
        if b = true then te σ2 H3 fun y H4 => ∃ acc, H4 D = some (.lst acc) ∧ acc.length < sizeLine ∧ Nx (upd H4 D (.lst (acc ++ [y]))) else Nx H3) := by
  have hG : G D = none := fresh_back eG hD
  refine ⟨fun i m H => m = n - i ∧ i ≤ n ∧ Ex H1 H ∧ ∃ ys, H D = some (.lst ys) ∧ Al P (hide (Nw G H1 H) D) (ixs i f) ys, ⟨n, by simp, Nat.zero_le _, Ex.new hD, [], upd_same, .nil⟩, ?_⟩
  rintro i m H ⟨rfl, hi, e1, ys, hl, al⟩
  by_cases hlt : i < n
  · refine .inr ⟨wk.goes i H hlt e1, fun H' => Ex H1 H' ∧ ∃ ys, H' D = some (.lst ys) ∧ Al P (hide (Nw G H1 H') D) (ixs (i + 1) f) ys, fun H' p => ⟨n - (i + 1), by omega, rfl, hlt, p⟩, fun x H' y => ?_⟩
    obtain ⟨rfl, hx⟩ := wk.yields i H x H' hlt e1 y
    refine hs i x hlt hx H' (eG.trans e1) _ _ (fun hf y H4 e4 p => ?_) (fun hf H3 e3 => ?_)
    · refine ⟨ys, e4 D _ hl, sz_lt (by have := al.length; have := ixs_len i f; omega), Ex.mut (e1.trans e4) hD, ys ++ [y], upd_same, ?_⟩
      rw [ixs_yes hf]
      have sub : Ex (hide (Nw G H1 H4) D) (hide (Nw G H1 (upd H4 D (.lst (ys ++ [y])))) D) := fun b o q => by
        by_cases z : b = D
        · rw [z, hide_self] at q; cases q
        · rw [hide_ne z] at q ⊢
          rcases nw_cases G H1 H4 b with w | ⟨w, w2⟩
          · rw [w] at q; cases q
          · rw [w] at q
            rcases w2 with ⟨o2, w2⟩ | w2
            · rw [nw_old w2, upd_ne z]; exact q
            · rw [nw_free w2, upd_ne z]; exact q
      exact .snoc (u i _ _ _ sub (u i _ _ _ (nw_hide e1 hG hl) p)) (al.up u (fun b o q => sub b o (hide_ex (nw_up e4) b o q)))
    · refine ⟨e1.trans e3, ys, e3 D _ hl, ?_⟩
      rw [ixs_no hf]
      exact al.up u (hide_ex (nw_up e3))
  · have e : i = n := by omega
    subst e
    exact .inl ⟨wk.stops H e1, hd ys H e1 hl al⟩
section
variable {K : PySem.W.Frag} {σ : L2.St} {G : Hp} {g : TG} {tt : TT} {te tl : TE} {ta : TA} {vs : List Nat} {x : V} {b : Bool} {P : PV}
/-- a turn whose target is a name -/
theorem turn_name {j : Nat} (hw : ∀ x, wipe ((wipe σ vs).set j (some x)) vs = wipe σ vs) (he : EvP te ((wipe σ vs).set j (some x)) G P) : TurnP (gName j) tYes te σ vs x G true P := fun H1 e R R0 r _ =>
  ⟨hw x, he H1 e R fun y H2 e2 p => r rfl y H2 e2 p⟩
theorem turn_nameT {j : Nat} (hw : ∀ x, wipe ((wipe σ vs).set j (some x)) vs = wipe σ vs) (ht : EvT tt ((wipe σ vs).set j (some x)) G b) (u : Up P) (he : b = true → EvP te ((wipe σ vs).set j (some x)) G P) : TurnP (gName j) tt te σ vs x G b P := fun H1 e R R0 r r0 =>
  ⟨hw x, ht H1 e _ fun H2 e2 => by
    cases b with
    | true =>
      show te _ H2 R
      exact he rfl H2 (e.trans e2) R fun y H3 e3 p => r rfl y H3 (e2.trans e3) (u _ _ _ (nw_chain e2) p)
    | false =>
      show R0 H2
      exact r0 rfl H2 e2⟩
/-- over a list -/
theorem lp_list {a : Addr} {xs : List V} (f : Nat → Bool) (P : Nat → PV) (u : ∀ i, Up (P i)) (h : Ev tl σ G (.ref a)) (hx : G a = some (.lst xs)) (hz : xs.length ≤ 50000)
    (hs : ∀ (i : Nat) (x : V), xs[i]? = some x → TurnP g tt te σ vs x G (f i) (P i)) : EvLP (tLc (iList K tl) g tt te vs) σ G (fun ys h => Al P h (ixs xs.length f) ys) := fun H1 e Q q =>
  h H1 e _ fun H2 e2 => ⟨a, rfl, ⟨xs, sq_of ((e.trans e2) a _ hx)⟩, fun D hD =>
    walk_lcP f P u hz (walk_list.mono (fun H e3 => sq_of (e3 a _ ((e.trans e2) a _ hx))) fun i H x H' _ _ y => y) (e.trans e2) hD (fun i x _ hi => hs i x hi)
      fun ys H3 e3 hl al => q D ys H3 (fresh_back e2 hD) (e2.trans e3) hl (al.up u (hide_ex (nw_chain e2)))⟩
/-- over a tuple, the walk a list's or a tuple's: not here. Over range(n) -/
theorem lp_range {n : Int} (f : Nat → Bool) (P : Nat → PV) (u : ∀ i, Up (P i)) (h : EvA ta σ G [.int n]) (hn : 0 ≤ n) (hz : n.toNat ≤ 50000)
    (hs : ∀ (i : Nat), i < n.toNat → TurnP g tt te σ vs (.int (i : Int)) G (f i) (P i)) : EvLP (tLc (iRng1 ta) g tt te vs) σ G (fun ys h => Al P h (ixs n.toNat f) ys) := fun H1 e Q q =>
  h H1 e _ fun H2 e2 => ⟨n, rfl, by omega, by omega, fun D hD =>
    walk_lcP (Xs := fun i x => x = .int (i : Int)) f P u hz (walk_range.mono (fun _ _ => trivial) fun i H x H' _ _ y => ⟨y.1, y.2.trans (by show V.int (0 + (i : Int)) = V.int (i : Int); rw [Int.zero_add])⟩) (e.trans e2) hD (fun i x hi hx => by rw [hx]; exact hs i hi)
      fun ys H3 e3 hl al => q D ys H3 (fresh_back e2 hD) (e2.trans e3) hl (al.up u (hide_ex (nw_chain e2)))⟩
/-- over a text -/
theorem lp_str {z : Str} (f : Nat → Bool) (P : Nat → PV) (u : ∀ i, Up (P i)) (h : Ev tl σ G (.str z)) (hz : z.cps.size ≤ 50000)
    (hs : ∀ (i : Nat) (c : Nat), z.cps[i]? = some c → TurnP g tt te σ vs (.str ⟨#[c]⟩) G (f i) (P i)) : EvLP (tLc (iStr tl) g tt te vs) σ G (fun ys h => Al P h (ixs z.cps.size f) ys) := fun H1 e Q q =>
  h H1 e _ fun H2 e2 => ⟨z, rfl, fun D hD =>
    walk_lcP (Xs := fun i x => ∃ c, z.cps[i]? = some c ∧ x = .str ⟨#[c]⟩) f P u hz (walk_str.mono (fun _ _ => trivial) fun i H x H' _ _ y => y) (e.trans e2) hD (fun i x hi ⟨c, hc, hx⟩ => by rw [hx]; exact hs i c hc)
      fun ys H3 e3 hl al => q D ys H3 (fresh_back e2 hD) (e2.trans e3) hl (al.up u (hide_ex (nw_chain e2)))⟩
theorem rv_b {g : Int → Int → V} {i j : Int} {z : V} (h : g i j = z) : RV (rI0 g) (.int i) (.int j) G z := fun H1 _ Q q => ⟨i, j, rfl, rfl, by rw [h]; exact q H1 (Ex.refl H1)⟩
theorem rv_bt {p : Int → Int → Prop} [∀ i j, Decidable (p i j)] {i j : Int} (h : p i j) : RV (rI0 fun i j => V.bl (decide (p i j))) (.int i) (.int j) G (.bl true) := rv_b (congrArg V.bl (decide_eq_true h))
/-- all(..) of a new list -/
theorem ev_all {bs : List Bool} {R : List V → Hp → Prop} (h : EvLP te σ G R) (f : ∀ ys h, R ys h → ys = bs.map V.bl) : Ev (tCB (rAll K) (tCons te tNil)) σ G (.bl (bs.all id)) := fun H1 e Q q =>
  h H1 e _ fun p ys H2 hp e2 hl r => ⟨p, bs, rfl, sq_of (by rw [← f _ _ r]; exact hl), q H2 e2⟩
theorem ev_chain {r r' : R2} {ta tb tc : TE} {x y z : V} {k b : Bool} (ha : Ev ta σ G x) (hb : Ev tb σ G y) (hr : RV r x y G (.bl k)) (hc : k = true → Ev tc σ G z ∧ RV r' y z G (.bl b)) : Ev (tChain r r' ta tb tc) σ G (.bl (k && b)) := fun H1 e Q q =>
  ha H1 e _ fun H2 e2 => hb H2 (e.trans e2) _ fun H3 e3 => hr H3 ((e.trans e2).trans e3) _ fun H4 e4 => ⟨k, rfl, by
    have e14 := (e2.trans e3).trans e4
    cases k with
    | true =>
      show tc σ H4 fun w' H5 => r' y w' H5 Q
      obtain ⟨h1, h2⟩ := hc rfl
      refine h1 H4 (e.trans e14) _ fun H5 e5 => h2 H5 ((e.trans e14).trans e5) _ fun H6 e6 => ?_
      exact q H6 ((e14.trans e5).trans e6)
    | false =>
      show Q (.bl false) H4
      exact q H4 e14⟩
theorem et_or' {t u : TT} {a b c : Bool} (h1 : EvT t σ G a) (h2 : a = false → EvT u σ G b) (e : (a || b) = c) : EvT (tOr t u) σ G c := et_is (et_or h1 h2) e
theorem ev_lenL {a : Addr} {xs : List V} (h : Ev tl σ G (.ref a)) (hx : G a = some (.lst xs)) : Ev (tCB (rLenS K) (tCons tl tNil)) σ G (.int xs.length) := ev_len h (sq_of hx)
theorem ev_lenT {a : Addr} {xs : List V} (h : Ev tl σ G (.ref a)) (hx : G a = some (.tup xs)) : Ev (tCB (rLenS K) (tCons tl tNil)) σ G (.int xs.length) := fun H1 e Q q =>
  h H1 e _ fun H2 e2 => ⟨a, xs, rfl, .inr (st_of ((e.trans e2) a _ hx)), q H2 e2⟩
theorem ev_lenD {ds : List PyData} (h : EvD tl σ G (.list ds)) : Ev (tCB (rLenS K) (tCons tl tNil)) σ G (.int ds.length) := fun H1 e Q q =>
  h H1 e _ fun v H2 e2 hd => by
    obtain ⟨a, xs, rfl, hl, al⟩ := dx_lst hd
    refine ⟨a, xs, rfl, .inl (sq_of (nw_sub a _ hl)), ?_⟩
    rw [al.length]
    exact q H2 e2
theorem ev_lenDT {ds : List PyData} (h : EvD tl σ G (.tuple ds)) : Ev (tCB (rLenS K) (tCons tl tNil)) σ G (.int ds.length) := fun H1 e Q q =>
  h H1 e _ fun v H2 e2 hd => by
    obtain ⟨a, xs, rfl, hl, al⟩ := dx_tup hd
    refine ⟨a, xs, rfl, .inr (st_of (nw_sub a _ hl)), ?_⟩
    rw [al.length]
    exact q H2 e2
/-- a datum's item -/
theorem ed_ixL {ds : List PyData} {d : PyData} {i : Nat} {ti : TE} (h : EvD tl σ G (.list ds)) (hi : Ev ti σ G (.int (i : Int))) (hd : ds[i]? = some d) : EvD (tOp (rIxL K) tl ti) σ G d := fun H1 e Q q =>
  h H1 e _ fun v H2 e2 hv => hi H2 (e.trans e2) _ fun H3 e3 => by
    obtain ⟨a, xs, rfl, hl, al⟩ := dx_lst hv
    obtain ⟨x, hx, hxd⟩ := al.at hd
    exact ⟨a, xs, i, x, rfl, rfl, sq_of (e3 a _ (nw_sub a _ hl)), atI_nat hx, q x H3 (e2.trans e3) (hxd.ex (nw_up e3))⟩
theorem ed_ixT {ds : List PyData} {d : PyData} {i : Nat} {ti : TE} (h : EvD tl σ G (.tuple ds)) (hi : Ev ti σ G (.int (i : Int))) (hd : ds[i]? = some d) : EvD (tOp (rIxT K) tl ti) σ G d := fun H1 e Q q =>
  h H1 e _ fun v H2 e2 hv => hi H2 (e.trans e2) _ fun H3 e3 => by
    obtain ⟨a, xs, rfl, hl, al⟩ := dx_tup hv
    obtain ⟨x, hx, hxd⟩ := al.at hd
    exact ⟨a, xs, i, x, rfl, rfl, st_of (e3 a _ (nw_sub a _ hl)), atI_nat hx, q x H3 (e2.trans e3) (hxd.ex (nw_up e3))⟩
/-- == of data -/
theorem ev_eqD {c d : PyData} {ta tb : TE} (h : EvD ta σ G c) (h2 : EvD tb σ G d) (dp : ∀ H v, Dx H v c → Dp K H v c) (dp2 : ∀ H v, Dx H v d → Dp K H v d) (s1 : SeqAt.shaped c = true) (s2 : SeqAt.shaped d = true) : Ev (tOp (rEqD K) ta tb) σ G (.bl (PyData.eqv c d)) := fun H1 e Q q =>
  h H1 e _ fun v H2 e2 hv => h2 H2 (e.trans e2) _ fun u H3 e3 hu => ⟨c, d, dp H3 v ((hv.ex nw_sub).ex e3), dp2 H3 u (hu.ex nw_sub), s1, s2, q H3 (e2.trans e3)⟩
/-! ### a for over enumerate -/
theorem s_forE {D : Ends} {tu : TS} {H : Hp} {a : Addr} {xs : List V} (h : EvA ta σ H [.ref a]) (hx : SqL K H a xs) (Pv : Nat → L2.St → Hp → Prop) (h0 : ∀ H1, Ex H H1 → Pv 0 σ H1) (hl : ∀ i σ' H', i ≤ xs.length → Pv i σ' H' → SqL K H' a xs)
    (hs : ∀ i x σ' H' Tp, xs[i]? = some x → Pv i σ' H' → H' Tp = none → g (.ref Tp) σ' (upd H' Tp (.tup [.int (i : Nat), x])) fun σ2 H2 => tu { D with nx := Pv (i + 1), ct := Pv (i + 1), bk := D.nx } σ2 H2) (hd : ∀ σ' H', Pv xs.length σ' H' → D.nx σ' H') : tFor (iEnum K ta) g tu D σ H :=
  h H (Ex.refl H) _ fun H1 e => ⟨a, xs, rfl, ex_l e hx, for_it walk_enum Pv (h0 H1 e) hl (fun i x σ' H' H'' hi p y => by
    obtain ⟨T, c, d, rfl, hT, rfl, hc, hd⟩ := y
    have hc' := Option.some.inj hc
    subst hc'
    exact hs i d σ' H' T hd p hT) hd⟩
theorem q_forE {D : Ends} {tu tz : TS} {H : Hp} {a : Addr} {xs : List V} (h : EvA ta σ H [.ref a]) (hx : SqL K H a xs) (Pv : Nat → L2.St → Hp → Prop) (h0 : ∀ H1, Ex H H1 → Pv 0 σ H1) (hl : ∀ i σ' H', i ≤ xs.length → Pv i σ' H' → SqL K H' a xs)
    (hs : ∀ i x σ' H' Tp, xs[i]? = some x → Pv i σ' H' → H' Tp = none → g (.ref Tp) σ' (upd H' Tp (.tup [.int (i : Nat), x])) fun σ2 H2 => tu { D with nx := Pv (i + 1), ct := Pv (i + 1), bk := tz D } σ2 H2) (hd : ∀ σ' H', Pv xs.length σ' H' → tz D σ' H') : tSeq (tFor (iEnum K ta) g tu) tz D σ H :=
  s_forE (D := { D with nx := tz D }) h hx Pv h0 hl hs hd
theorem ev_isiC {C : Addr} {d : PyData} (h : Ev tl σ G x) (hd : Dx G x d) (hk : PySem.W.kitOne K (.type (tyD d)) (.ref C) = some b) : Ev (tCB (rIsi K) (tCons tl (tCons (tC (.ref C)) tNil))) σ G (.bl b) := fun H1 e Q q =>
  h H1 e _ fun H2 e2 => ⟨x, .ref C, _, .ref C, b, rfl, .own C, (hd.ex (e.trans e2)).ty, hk, q H2 e2⟩
theorem ev_fld {a C dx : Addr} {fs : List (Str × V)} {f : Str} {v : V} (h : Ev tl σ G (.ref a)) (ha : G a = some (.ins C dx fs)) (c : Cls K C) (n : NoAttr K C f) (hl : fs.lookup f = some v) : Ev (tFld K tl f) σ G v := fun H1 e Q q =>
  h H1 e _ fun H2 e2 => ⟨a, C, dx, fs, v, rfl, (e.trans e2) a _ ha, c, n, hl, q H2 e2⟩
/-- all but a stays -/
def Eb (a : Addr) (H H' : Hp) : Prop := ∀ b o, b ≠ a → H b = some o → H' b = some o
theorem Eb.of {H H' : Hp} {a : Addr} (e : Ex H H') : Eb a H H' := fun b o _ h => e b o h
theorem Eb.trans {H1 H2 H3 : Hp} {a : Addr} (e : Eb a H1 H2) (e2 : Eb a H2 H3) : Eb a H1 H3 := fun b o n h => e2 b o n (e b o n h)
theorem Eb.upd {H : Hp} {a : Addr} {o : HO} : Eb a H (upd H a o) := fun b u n h => by rw [upd_ne n]; exact h
theorem Eb.base {H H' G : Hp} {a : Addr} (e : Eb a H H') (eG : Ex G H) (hG : G a = none) : Ex G H' := fun b u h => by
  have n : b ≠ a := fun z => by rw [z, hG] at h; cases h
  exact e b u n (eG b u h)
theorem nw_dom {G H1 H2 H3 : Hp} (d : ∀ b, H2 b = none → H1 b = none) : Ex (Nw G H2 H3) (Nw G H1 H3) := fun b o h => by
  rcases nw_cases G H2 H3 b with z | ⟨z, y⟩
  · rw [z] at h; cases h
  · rw [z] at h
    rcases y with ⟨u, y⟩ | y
    · rw [nw_old y]; exact h
    · rw [nw_free (d b y)]; exact h
theorem nw_eb {G H H1 H2 : Hp} {a : Addr} {o : HO} (e : Eb a H1 H2) (hG : G a = none) (ha : H a = some o) : Ex (Nw G H H1) (Nw G H H2) := fun b u h => by
  rcases nw_cases G H H1 b with z | ⟨z, y⟩
  · rw [z] at h; cases h
  · rw [z] at h
    have n : b ≠ a := fun q => by
      rcases y with ⟨w, y⟩ | y
      · rw [q, hG] at y; cases y
      · rw [q, ha] at y; cases y
    rcases y with ⟨w, y⟩ | y
    · rw [nw_old y]; exact e b u n h
    · rw [nw_free y]; exact e b u n h
theorem dom_eb {H H' : Hp} {a : Addr} {o : HO} (e : Eb a H H') (ha : H' a = some o) : ∀ b, H' b = none → H b = none := fun b h => by
  cases q : H b with
  | none => rfl
  | some u =>
    by_cases n : b = a
    · rw [n, ha] at h; cases h
    · rw [e b u n q] at h; cases h
/-- o.f = e, the object is known -/
theorem s_fld {D : Ends} {H : Hp} {to tv : TE} {a C dx : Addr} {fs : List (Str × V)} {f : Str} (u : Up P) (hv : EvP tv σ G P) (eG : Ex G H) (ho : Ev to σ H (.ref a)) (ha : H a = some (.ins C dx fs)) (c : Cls K C) (n : NoAttr K C f) (hl : fs.length < 1000)
    (k : ∀ y H1, Ex H H1 → P y (Nw G H H1) → D.nx σ (upd H1 a (.ins C dx (putF f y fs)))) : sFld K to tv f D σ H :=
  hv H eG _ fun y H1 e1 p => ho H1 e1 _ fun H2 e2 => ⟨a, C, dx, fs, rfl, (e1.trans e2) a _ ha, c, n, hl, k y H2 (e1.trans e2) (u _ _ _ (nw_up e2) p)⟩
theorem q_fld {D : Ends} {tz : TS} {H : Hp} {to tv : TE} {a C dx : Addr} {fs : List (Str × V)} {f : Str} (u : Up P) (hv : EvP tv σ G P) (eG : Ex G H) (ho : Ev to σ H (.ref a)) (ha : H a = some (.ins C dx fs)) (c : Cls K C) (n : NoAttr K C f) (hl : fs.length < 1000)
    (k : ∀ y H1, Ex H H1 → P y (Nw G H H1) → tz D σ (upd H1 a (.ins C dx (putF f y fs)))) : tSeq (sFld K to tv f) tz D σ H := s_fld (D := { D with nx := tz D }) u hv eG ho ha c n hl k
/-- tuple(..) of a datum -/
theorem ed_tupleL {ds : List PyData} (h : EvD tl σ G (.list ds)) : EvD (tCB (rTupOf K) (tCons tl tNil)) σ G (.tuple ds) := fun H1 e Q q =>
  h H1 e _ fun v H2 e2 hd => by
    obtain ⟨a, xs, rfl, hl, al⟩ := dx_lst hd
    exact ⟨a, xs, rfl, .inl ⟨sq_of (nw_sub a _ hl), fun p hp => q _ _ (e2.trans (Ex.new hp)) (.tup (nw_new e2 hp) (al.ex (nw_up (Ex.new hp))))⟩⟩
/-- a built-in's method that changes nothing, of a tuple known to its object -/
theorem ev_bmF {r : V → List V → Hp → VK → Prop} {to : TE} {xs : List V} {z : V} {T : String} (ho : Ev to σ G x) (ty : ∀ H, Ex G H → tyF T x H) (ha : EvA ta σ G xs) (hr : ∀ H, Ex G H → ∀ Q : VK, Q z H → r x xs H Q) : Ev (tBMF T r to ta) σ G z := fun H1 e Q q =>
  ho H1 e _ fun H2 e2 => ⟨ty H2 (e.trans e2), ha H2 (e.trans e2) _ fun H3 e3 => hr H3 ((e.trans e2).trans e3) Q (q H3 (e2.trans e3))⟩
/-- the instance with two attributes -/
def TwoP (C : Addr) (f g : Str) (P1 P2 : PV) (a : Addr) (H : Hp) : Prop := ∃ dx x y, H a = some (.ins C dx [(f, x), (g, y)]) ∧ P1 x H ∧ P2 y H
theorem TwoP.ex {C : Addr} {f g : Str} {P1 P2 : PV} (u1 : Up P1) (u2 : Up P2) {a : Addr} {H H' : Hp} (t : TwoP C f g P1 P2 a H) (e : Ex H H') : TwoP C f g P1 P2 a H' := let ⟨dx, x, y, h, h1, h2⟩ := t; ⟨dx, x, y, e _ _ h, u1 _ _ _ e h1, u2 _ _ _ e h2⟩
/-- __init__ of a new instance at x: what is behind it -/
def RetInit (C : Addr) (f g : Str) (P1 P2 : PV) (G H : Hp) (x dx : Addr) (Q : VK) : Prop :=
  ∀ H' u v, Eb x H H' → H' x = some (.ins C dx [(f, u), (g, v)]) → P1 u (Nw G H H') → P2 v (Nw G H H') → Q .non H'
/-- the tuple of these names, known to its object -/
def DeedsAt (ns : List Str) : PV := fun v H => ∃ a o, v = .ref a ∧ H a = some (.frz o (.tup (ns.map V.str))) ∧ o.cls = .type "tuple" ∧ o.dict = none
theorem up_deeds {ns : List Str} : Up (DeedsAt ns) := fun _ _ _ e ⟨a, o, h, h1, h2, h3⟩ => ⟨a, o, h, e _ _ h1, h2, h3⟩
theorem DeedsAt.sq {ns : List Str} {a : Addr} {H : Hp} (h : DeedsAt ns (.ref a) H) : SqT K H a (ns.map V.str) := by
  obtain ⟨b, o, e, h1, _⟩ := h
  cases e
  exact .inl (.inr ⟨o, h1⟩)
theorem ed_tupleFz {ns : List Str} (h : EvD tl σ G (.list (ns.map .str))) : EvP (tCB (rTupFz K) (tCons tl tNil)) σ G (DeedsAt ns) := fun H1 e Q q =>
  h H1 e _ fun v H2 e2 hd => by
    obtain ⟨a, xs, rfl, hl, al⟩ := dx_lst hd
    rw [dx_strs al] at hl
    exact ⟨a, _, rfl, sq_of (nw_sub a _ hl), fun p o hp hc ho => q _ _ (e2.trans (Ex.new hp)) ⟨p, o, rfl, nw_new e2 hp, hc, ho⟩⟩
theorem ep_makeTwo {C : Addr} {f g : Str} {P1 P2 : PV} (u1 : Up P1) (u2 : Up P2) {vs : List V} {sp : Sp} (h : EvA ta σ G vs)
    (hs : ∀ H1 x dx Q, Ex G H1 → G x = none → H1 x = some (.ins C dx []) → RetInit C f g P1 P2 G H1 x dx Q → sp (.ref x :: (vs ++ [])) H1 Q E0) : EvP (tMake C sp [] E0 ta) σ G (fun v H => ∃ a, v = .ref a ∧ TwoP C f g P1 P2 a H) := fun H1 e Q q =>
  h H1 e _ fun H2 e2 x dx hx hdx ne => by
    have hx1 : H1 x = none := fresh_back e2 hx
    have eH : Ex H2 (upd (upd H2 dx (.own x)) x (.ins C dx [])) := (Ex.new hdx).trans (Ex.new (by rw [upd_ne (Ne.symm ne)]; exact hx))
    refine hs _ x dx _ ((e.trans e2).trans eH) (fresh_back e hx1) upd_same fun H' u v eb hx' p1 p2 => ⟨rfl, ?_⟩
    have e3 : Ex H2 H' := fun b o hb => by
      have n : b ≠ x := fun z => by rw [z, hx] at hb; cases hb
      exact eb b o n (eH b o hb)
    have dm : ∀ b, upd (upd H2 dx (.own x)) x (.ins C dx []) b = none → H1 b = none := fun b hb => fresh_back (e2.trans eH) hb
    exact q (.ref x) H' (e2.trans e3) ⟨x, rfl, dx, u, v, by rw [nw_free hx1]; exact hx', u1 _ _ _ (nw_dom dm) p1, u2 _ _ _ (nw_dom dm) p2⟩
theorem ep_ifF {t : TT} {ta tb : TE} (h : EvT t σ G false) (u : Up P) (h2 : EvP tb σ G P) : EvP (tIf t ta tb) σ G P := fun H1 e Q q => h H1 e _ fun H2 e2 => h2 H2 (e.trans e2) Q fun v H3 e3 p => q v H3 (e2.trans e3) (u _ _ _ (nw_chain e2) p)
theorem ep_ifT {t : TT} {ta tb : TE} (h : EvT t σ G true) (u : Up P) (h2 : EvP ta σ G P) : EvP (tIf t ta tb) σ G P := fun H1 e Q q => h H1 e _ fun H2 e2 => h2 H2 (e.trans e2) Q fun v H3 e3 p => q v H3 (e2.trans e3) (u _ _ _ (nw_chain e2) p)
/-- a tuple handed out by a call, taken apart -/
theorem ed_pair {D : Ends} {H : Hp} {te : TE} {i j : Nat} {c d : PyData} (hv : EvD te σ G (.tuple [c, d])) (eG : Ex G H) (k : ∀ x y H1, Ex H H1 → Dx (Nw G H H1) x c → Dx (Nw G H H1) y d → D.nx ((σ.set i (some x)).set j (some y)) H1) : tAsg te (gTup K 2 (gCons (gName i) (gCons (gName j) gNil))) D σ H :=
  hv H eG _ fun v H1 e1 hd => by
    obtain ⟨a, xs, rfl, hl, al⟩ := dx_tup hd
    cases al with
    | cons h1 t1 =>
      cases t1 with
      | cons h2 t2 =>
        cases t2
        exact ⟨a, _, rfl, st_of (nw_sub a _ hl), rfl, _, _, rfl, _, _, rfl, rfl, k _ _ H1 e1 h1 h2⟩
theorem q_pair {D : Ends} {tz : TS} {H : Hp} {te : TE} {i j : Nat} {c d : PyData} (hv : EvD te σ G (.tuple [c, d])) (eG : Ex G H) (k : ∀ x y H1, Ex H H1 → Dx (Nw G H H1) x c → Dx (Nw G H H1) y d → tz D ((σ.set i (some x)).set j (some y)) H1) : tSeq (tAsg te (gTup K 2 (gCons (gName i) (gCons (gName j) gNil)))) tz D σ H :=
  ed_pair (D := { D with nx := tz D }) hv eG k
/-- name = e, a value of which P is true -/
theorem s_asgP {D : Ends} {H : Hp} {te : TE} {i : Nat} (hv : EvP te σ G P) (eG : Ex G H) (k : ∀ y H1, Ex H H1 → P y (Nw G H H1) → D.nx (σ.set i (some y)) H1) : tAsg te (gName i) D σ H := hv H eG _ k
theorem q_asgP {D : Ends} {tz : TS} {H : Hp} {te : TE} {i : Nat} (hv : EvP te σ G P) (eG : Ex G H) (k : ∀ y H1, Ex H H1 → P y (Nw G H H1) → tz D (σ.set i (some y)) H1) : tSeq (tAsg te (gName i)) tz D σ H := hv H eG _ k
theorem s_retP {D : Ends} {H : Hp} {te : TE} (hv : EvP te σ G P) (eG : Ex G H) (k : RetP P G H D.rt) : tRet te D σ H := hv H eG _ k
/-- a new list as a datum -/
theorem ed_lp {ds : List PyData} {R : List V → Hp → Prop} (h : EvLP te σ G R) (f : ∀ ys h, R ys h → DxAll h ys ds) : EvD te σ G (.list ds) := fun H1 e Q q =>
  h H1 e Q fun p ys H2 hp e2 hl r => q _ H2 e2 (.lst (by rw [nw_free hp]; exact hl) ((f _ _ r).ex hide_sub))
end
end SF
set_option Elab.async false
set_option linter.all false
set_option maxRecDepth 100000
set_option maxHeartbeats 4000000
/-! ### enumerate over a tuple -/
namespace PySem
open Sem (wp)
open AutoSeq1 (wpAny_loadPart')
theorem sf_enum_mk (a : Addr) (vs : Array Value) (n : Nat) (dd : Option Addr) (sl : Array (Option Value)) :
    Meets (Builtin.«enumerate.__new__» ⟨[.type "enumerate", .ref a], []⟩) (fun _ R s => s.heap.get? a = some { cls := .type "tuple", dict := dd, data := .seq vs n, slots := sl } ∧
      R (.ok (.ret (.ref (s.heap.push { cls := .type "tuple_iterator", data := .fields #[.ref a, .int 0 0] }).objs.size)))
        { s with heap := (s.heap.push { cls := .type "tuple_iterator", data := .fields #[.ref a, .int 0 0] }).push { cls := .type "enumerate", data := .fields #[.none, .bool false, .ref s.heap.objs.size, rawInt 0, .none, .none] } }) :=
  .of_wp fun pg w A R s hh => by
    obtain ⟨hp, g, d, tk, os⟩ := s
    obtain ⟨ha, hh⟩ := hh
    have sub := sub_enumerate
    have isT : Heap.IsTuple (Shared.heap ⟨hp, g, d, tk, os⟩) a vs := ⟨_, ha, rfl, n, rfl⟩
    wp_walk using wpAny_loadPart' ha
    refine wpAny_stack_any fun _ => wpAny_pure ?_
    split
    · rename_i c _ _ _ _ _
      cases (c == Value.type "enumerate") with
      | _ =>
        wp_walk using wpAny_loadPart' ha, wpAny_pyIter_tuple isT
        exact ⟨_, rfl, hh⟩
    · wp_walk using wpAny_loadPart' ha, wpAny_pyIter_tuple isT
      exact ⟨_, rfl, hh⟩
theorem sf_call_enum {P : Program} {w : World} {A : Around} {E : Value → Shared → Prop} {s : Shared} {a : Addr} {vs : Array Value} {Q : Value → Shared → Prop} (ht : s.heap.IsTuple a vs)
    (q : ∀ h', IsEnum h' (s.heap.objs.size + 1) s.heap.objs.size 0 .none → h'.IsTupleIter s.heap.objs.size a 0 → h'.objs.size = s.heap.objs.size + 2 → (∀ b o, s.heap.get? b = some o → h'.get? b = some o) → Q (.ref (s.heap.objs.size + 1)) { s with heap := h' }) :
    wpAny (model P w) A (call (.type "enumerate") [.ref a]) Q E s := by
  obtain ⟨⟨c, dd, dt, sl⟩, ho, hc, n, hd⟩ := ht
  obtain rfl : c = Value.type "tuple" := hc
  obtain rfl : dt = Data.seq vs n := hd
  have one : (s.heap.push { cls := .type "tuple_iterator", data := .fields #[.ref a, .int 0 0] }).objs.size = s.heap.objs.size + 1 := Heap.size_push ..
  refine callType_new F.called_enumerate (by decide) (F.typeCall_enumerate_1 (.ref a)) (F.newCall_enumerate_1 (.ref a)) (fun o => F.args_object_init_2 o (.ref a)) F.entry_enumerate_new (sf_enum_mk a vs n dd sl) ⟨ho, ?_⟩
  show _ ∧ _
  have en : IsEnum ((s.heap.push { cls := .type "tuple_iterator", data := .fields #[.ref a, .int 0 0] }).push { cls := .type "enumerate", data := .fields #[.none, .bool false, .ref s.heap.objs.size, rawInt 0, .none, .none] })
      (s.heap.objs.size + 1) s.heap.objs.size 0 .none := by
    have z := Heap.get?_push_size (s.heap.push { cls := .type "tuple_iterator", data := .fields #[.ref a, .int 0 0] }) (o := { cls := .type "enumerate", data := .fields #[.none, .bool false, .ref s.heap.objs.size, rawInt 0, .none, .none] }) rfl
    rw [one] at z
    exact z
  rw [one]
  exact ⟨⟨_, en, rfl⟩, q _ en ⟨_, Heap.get?_push_of_some _ (Heap.get?_push_size _ rfl), rfl, rfl⟩ (by rw [Heap.size_push, one]) fun b o x => Heap.get?_push_of_some _ (Heap.get?_push_of_some _ x)⟩
end PySem
namespace SF
open PySem PySem.Spec PyProof.Rows L2 Evl
/-- enumerate's turns over the tuple at a -/
def ItET (K : PySem.W.Frag) (a : Addr) : It where
  go := fun i H => ∃ (xs : List V) (x : V), SqT K H a xs ∧ xs[i]? = some x
  yld := fun i H v H' => ∃ T x, v = .ref T ∧ H T = none ∧ H' = upd H T (.tup [.int (i : Nat), x]) ∧ ∀ xs, SqT K H a xs → xs[i]? = some x
  stop := fun i H => ∃ xs : List V, SqT K H a xs ∧ xs.length ≤ i
theorem turn_et {P : Program} {w : World} {K : PySem.W.Frag} {es : List Expr} {kk : Nat} {tpos : Pos} (a e it : Addr) :
    Turn P w K (.Tuple es kk tpos) (ItET K a) [e, it] e (fun i h => (∃ old, IsEnum h e it ((i : Nat) : Int) old) ∧ h.IsTupleIter it a i ∧ e ≠ it) where
  mem := by simp
  obj := fun i h st b hb => by
    obtain ⟨⟨old, he⟩, ⟨o, ho, hc, hd⟩, _⟩ := st
    rcases (by simpa using hb : b = e ∨ b = it) with z | z
    · subst z
      exact ⟨_, he, fun w q => nomatch q⟩
    · subst z
      exact ⟨o, ho, fun w q => by rw [hd] at q; cases q⟩
  keep := fun i h h' st k => ⟨st.1.imp fun _ he => k e (by simp) _ he, st.2.1.at fun o q => k it (by simp) o q, st.2.2⟩
  item := by
    intro X hP hw hK hc i pins s σ H E I hf st hg
    subst hP hw hK
    obtain ⟨⟨old, he⟩, hit, hne⟩ := st
    obtain ⟨xs, x, hq, hx⟩ := hg
    obtain ⟨its, rv, p, hz⟩ := I.tuple hq
    obtain ⟨u, hu, ru⟩ := rv.get hx
    have pt : s.heap.IsTuple a its.toArray := p
    have hai : a ≠ it := fun z => by
      obtain ⟨o1, h1, c1, _⟩ := id pt
      obtain ⟨o2, h2, c2, _⟩ := id hit
      rw [z, h2] at h1
      cases h1
      rw [c2] at c1
      exact absurd c1 (by decide)
    have hae : a ≠ e := fun z => by
      obtain ⟨o1, h1, c1, _⟩ := id pt
      rw [z, he] at h1
      cases h1
      have c2 : Value.type "enumerate" = Value.type "tuple" := c1
      exact absurd c2 (by decide)
    have hel : e < s.heap.objs.size := Heap.lt_size he
    have hil : it < s.heap.objs.size := by
      obtain ⟨_, q, _⟩ := id hit
      exact Heap.lt_size q
    have hd1 : X.A.in1.handled = none := by simp [I.ok.hd hc]
    have hlt : i < its.toArray.size := by
      rw [List.size_toArray]
      exact (List.getElem?_eq_some_iff.mp hu).1
    refine wpAny_pyNext_enum_itemD (Draws.tuple hd1 it a hai its.toArray) he ⟨hit, pt⟩ hlt hne (by simp [hne, Ne.symm hae]) fun y h' tk hP ho hst hT hsz hk => ?_
    have ey : y = u := by
      have q : its.toArray[i]? = some u := by simpa using hu
      have hP' : its.toArray[i]? = some y := hP
      rw [q] at hP'
      exact (Option.some.inj hP').symm
    subst ey
    refine ⟨_, rfl, wpAny_letOwnedTupleGo_enum (s := { s with heap := h', toks := tk + 1 }) ho fun h'' he' sb => ?_⟩
    have hT2 : h''.get? s.heap.objs.size = some { cls := .type "tuple", data := .seq #[.int i tk, y] } := (sb.2 _ (Nat.ne_of_gt hel)).trans hT
    have new : ObjOk X.prog X.w (upd H s.heap.objs.size (.tup [.int (i : Nat), x])) h'' s.heap.objs.size (.tup [.int (i : Nat), x]) := ⟨by show 2 ≤ sizeLine; decide, [.int i tk, y], .cons ⟨_, rfl⟩ (.cons ru .nil), ⟨_, hT2, rfl, _, rfl⟩⟩
    have I1 : Inv X pins σ (upd H s.heap.objs.size (.tup [.int (i : Nat), x])) { s with heap := h'', toks := tk + 1 } :=
      I.turnedNew (ch := [e, it]) (fun b ob hb q => (sb.2 b (fun z => hb (by simp [z]))).trans (hk b ob (fun z => hb (by simp [z])) (fun z => hb (by simp [z])) q)) hf (Nat.le_refl _) new
    refine ⟨.ref s.heap.objs.size, _, I1, rfl, ⟨_, x, rfl, I.hok.fresh (Nat.le_refl _), rfl, fun ys hy => by rw [I.tuple_inj hy hq]; exact hx⟩, ⟨⟨y, ?_⟩, hst.1.at fun o q => (sb.2 it (Ne.symm hne)).trans q, hne⟩, fun b hb => ?_⟩
    · have e1 : ((i + 1 : Nat) : Int) = (i : Int) + 1 := by omega
      rw [e1]
      exact he'
    · have hb' : b < s.heap.objs.size := by
        rcases (by simpa using hb : b = e ∨ b = it) with z | z
        · rw [z]; exact hel
        · rw [z]; exact hil
      rw [upd_ne (Nat.ne_of_lt hb')]
      exact (hf b hb).1
  done := by
    intro X hP hw hK hc i pins s σ H E I hf st hg
    subst hP hw hK
    obtain ⟨⟨old, he⟩, hit, hne⟩ := st
    obtain ⟨xs, hq, hx⟩ := hg
    obtain ⟨its, rv, p, hz⟩ := I.tuple hq
    obtain ⟨f0, f1, f2, f3, f4, f5⟩ := hf it (by simp)
    have pt : s.heap.IsTuple a its.toArray := p
    have hd1 : X.A.in1.handled = none := by simp [I.ok.hd hc]
    refine wpAny_bind (wpAny_attempt ?_)
    have hT : s.TypeIs (.ref e) "enumerate" := ⟨_, he, rfl⟩
    refine wpAny_callSpecial?_slot (name := Str.ofString "__next__") hT PySem.F.slot_enumerate_next (wpAny_call_entry PySem.F.slot_enumerate_next hT PySem.F.entry_enumerate_next ?_ (PySem.F.args_enumerate_next_1 _))
    show wpAny _ _ (field (.ref e) 2 >>= _) _ _ _
    refine wpAny_bind (wpAny_field he rfl (x := .ref it) rfl ?_)
    have hl := rv.length
    refine wpAny_bind (wpAny_nextOf_tuple_end hd1 hit pt (by simp; omega) fun h' x eb hx' => ?_)
    obtain ⟨o, ho, hc⟩ := hx'
    refine wpAny_bind (wpAny_isInstance (T := "StopIteration") (b := true) ⟨o, ho, hc⟩ isSubtype_stop ?_)
    exact wpAny_pure ⟨rfl, I.turned (t' := s.toks) (fun b o hb q => eb b o hb q) f0 f1 f3 f4 f5⟩
  self := fun A i s Q E st h => let ⟨⟨_, he⟩, _⟩ := st; wpAny_pyIter_enum he h
/-- the items of a list or of a tuple -/
def SqB (K : PySem.W.Frag) (H : Hp) (a : Addr) (xs : List V) : Prop := SqL K H a xs ∨ SqT K H a xs
def iEnS (K : PySem.W.Frag) (ta : TA) : TI := fun σ H R => ta σ H fun vs H1 => ∃ a xs, vs = [.ref a] ∧ ((SqL K H1 a xs ∧ R (Ite K a) H1) ∨ (SqT K H1 a xs ∧ R (ItET K a) H1))
def iSeq (K : PySem.W.Frag) (tl : TE) : TI := fun σ H R => tl σ H fun x H1 => ∃ a xs, x = .ref a ∧ ((SqL K H1 a xs ∧ R (Itl K a) H1) ∨ (SqT K H1 a xs ∧ R (Itt K a) H1))
theorem pi_enS {X : Cx} (K : PySem.W.Frag) (hK : X.K = K) {e : Expr} {ta : TA} {p pos tpos : Pos} {es : List Expr} {kk : Nat} (hg : Gl X "enumerate") (hm : X.mg "enumerate" = none) (ha : PA X [e] ta) (hs : starEach [e] X.env = [(false, eval e X.env)] := by rfl) :
    PI X (.Tuple es kk tpos) (.Call (.Name "enumerate" p) [e] [] pos) (iEnS K ta) := by
  subst hK
  refine ⟨fun pins s σ H R I h => Call_ (ld_blt I hg hm boot_enumerate (PyProof.Rows.callWith_type1 (thn (ha.run pos pins s σ H _ I h) fun us s1 ⟨vs, H1, I1, r1, q1⟩ => ?_) hs rfl))⟩
  obtain ⟨a, xs, rfl, q⟩ := q1
  cases r1 with
  | cons r rr =>
    cases rr
    cases r
    have fp : ∀ b ∈ [s1.heap.objs.size + 1, s1.heap.objs.size], FpOk X pins H1 b := fun b hb => by
      have hle : s1.heap.objs.size ≤ b := by
        rcases (by simpa using hb : b = s1.heap.objs.size + 1 ∨ b = s1.heap.objs.size) with z | z
        · rw [z]; exact Nat.le_add_right _ _
        · exact Nat.le_of_eq z.symm
      exact I1.fpOk hle (I1.hok.fresh hle)
    rcases q with ⟨hq, q⟩ | ⟨hq, q⟩
    · obtain ⟨its, rv, pl, hz⟩ := I1.list hq
      exact call_enumerate_list pl.isList fun h' he hit hsz hk => wpAny_pyIter_enum he ⟨s1.heap.objs.size + 1, [s1.heap.objs.size + 1, s1.heap.objs.size], _, _, H1, rfl, I1.kept (t' := s1.toks) hk, turn_enum a _ _, ⟨⟨.none, he⟩, hit, Nat.succ_ne_self _⟩, fp, q⟩
    · obtain ⟨its, rv, pt, hz⟩ := I1.tuple hq
      exact sf_call_enum (show s1.heap.IsTuple a its.toArray from pt) fun h' he hit hsz hk => wpAny_pyIter_enum he ⟨s1.heap.objs.size + 1, [s1.heap.objs.size + 1, s1.heap.objs.size], _, _, H1, rfl, I1.kept (t' := s1.toks) hk, turn_et a _ _, ⟨⟨.none, he⟩, hit, Nat.succ_ne_self _⟩, fp, q⟩
theorem pi_seqK {X : Cx} {tg l : Expr} {tl : TE} (K : PySem.W.Frag) (hK : X.K = K) (hl : PE X l tl) : PI X tg l (iSeq K tl) := by
  subst hK
  refine ⟨fun pins s σ H R I h => ?_⟩
  have all := hl.run pins s σ H _ I h
  refine thn all fun v s1 ⟨x, H1, I1, r1, q1⟩ => ?_
  obtain ⟨a, xs, rfl, q⟩ := q1
  have fp : ∀ b ∈ [s1.heap.objs.size], FpOk X pins H1 b := fun b hb => by
    obtain rfl : b = s1.heap.objs.size := by simpa using hb
    exact I1.fpOk (Nat.le_refl _) (I1.hok.fresh (Nat.le_refl _))
  obtain rfl : v = Value.ref a := r1
  rcases q with ⟨hq, q⟩ | ⟨hq, q⟩
  · obtain ⟨its, rv, p, hz⟩ := I1.list hq
    exact wpAny_pyIter_list p.isList ⟨_, [s1.heap.objs.size], _, _, H1, rfl, I1.kept (t' := s1.toks) fun b o e => Heap.get?_push_of_some _ e, turn_list a _, ⟨_, Heap.get?_push_size _ rfl, rfl, rfl⟩, fp, q⟩
  · obtain ⟨its, rv, p, hz⟩ := I1.tuple hq
    exact wpAny_pyIter_tuple (show s1.heap.IsTuple a its.toArray from p) ⟨_, [s1.heap.objs.size], _, _, H1, rfl, I1.kept (t' := s1.toks) fun b o e => Heap.get?_push_of_some _ e, turn_tuple a _, ⟨_, Heap.get?_push_size _ rfl, rfl, rfl⟩, fp, q⟩
/-! ### len(set(xs)): as many as xs has just when nothing is twice in it -/
theorem met_all {ns : List Int} : ∀ i, i ≤ ns.length → (firstMet (fun i => ns.getD i 0) i).length = i → firstMet (fun i => ns.getD i 0) i = ns.take i ∧ (ns.take i).Nodup
  | 0, _, _ => ⟨rfl, by simp⟩
  | i + 1, hi, h => by
    have hlt : i < ns.length := hi
    have le := firstMet_length_le (fun i => ns.getD i 0) i
    have ei : ns.getD i 0 = ns[i] := by rw [List.getD_eq_getElem?_getD, List.getElem?_eq_getElem hlt, Option.getD_some]
    have et : ns.take (i + 1) = ns.take i ++ [ns[i]] := by rw [List.take_add_one, List.getElem?_eq_getElem hlt, Option.toList_some]
    rw [firstMet_succ] at h ⊢
    unfold step_dedup at h ⊢
    split at h
    · omega
    · rename_i no
      rw [List.length_append, List.length_singleton] at h
      obtain ⟨e1, nd⟩ := met_all i (Nat.le_of_lt hlt) (by omega)
      rw [if_neg no, et, e1, ei]
      refine ⟨rfl, List.nodup_append.mpr ⟨nd, by simp, fun a ha b hb => ?_⟩⟩
      obtain rfl : b = ns[i] := by simpa using hb
      rintro rfl
      exact no (List.any_eq_true.mpr ⟨ns[i], by rw [e1]; exact ha, by show (ns[i] == ns.getD i 0) = true; rw [ei]; exact beq_self_eq_true _⟩)
theorem met_iff {ns : List Int} : (firstMet (fun i => ns.getD i 0) ns.length).length = ns.length ↔ ns.Nodup := by
  constructor
  · intro h
    have z := (met_all ns.length (Nat.le_refl _) h).2
    rwa [List.take_length] at z
  · intro h
    rw [RZ.firstMet_nodup h _ (Nat.le_refl _), List.take_length]
theorem kept_iff {ns ks : List Int} (nd : ks.Nodup) (h : ∀ k, k ∈ ks ↔ k ∈ ns) : (ks.length = ns.length ↔ ns.Nodup) := by
  have sub : ks ⊆ ns := fun k hk => (h k).mp hk
  have sub2 : ns ⊆ ks := fun k hk => (h k).mpr hk
  constructor
  · intro e
    rw [List.nodup_iff_count]
    intro x
    rcases Nat.lt_or_ge 1 (ns.count x) with c | c
    · exfalso
      have hin : x ∈ ns := List.count_pos_iff.mp (by omega)
      have sub3 : ks ⊆ ns.erase x := fun k hk => by
        by_cases z : k = x
        · subst z
          exact List.count_pos_iff.mp (by rw [List.count_erase_self]; omega)
        · exact (List.mem_erase_of_ne z).mpr (sub hk)
      have le := List.Nodup.length_le_of_subset nd sub3
      have len := List.length_erase_of_mem hin
      have pos : 0 < ns.length := List.length_pos_of_mem hin
      omega
    · exact c
  · intro nd2
    exact ((List.perm_ext_iff_of_nodup nd nd2).mpr h).length_eq
def tLenSet (K : PySem.W.Frag) (ta : TE) : TE := fun σ H Q => ta σ H fun x H1 => ∃ (a : Addr) (ns : List Int), x = .ref a ∧ SqB K H1 a (ns.map V.int) ∧ ns.length ≤ 1000 ∧ ∀ c : Nat, c ≤ ns.length → (c = ns.length ↔ ns.Nodup) → Q (.int (c : Int)) H1
theorem pe_lenSetK {X : Cx} (K : PySem.W.Frag) (hK : X.K = K) {e : Expr} {ta : TE} {p p2 q pos : Pos} (hc : X.calm = true) (hg : Gl X "len") (hm : X.mg "len" = none) (hg2 : Gl X "set") (hm2 : X.mg "set" = none) (ha : PE X e ta)
    (na : starEach [e] X.env = (false, eval e X.env) :: starEach [] X.env := by rfl) : PE X (.Call (.Name "len" p) [.Call (.Name "set" p2) [e] [] q] [] pos) (tLenSet K ta) := by
  subst hK
  refine ⟨fun pins s σ H Q I h => Call_ (ld_blt I hg hm PySem.boot_len (PyProof.Rows.callWith_builtin1 (PyProof.Rows.args_cons ?_ rfl) rfl rfl))⟩
  refine Call_ (ld_blt I hg2 hm2 PyProof.Rows.boot_set (PyProof.Rows.callWith_type1 (PyProof.Rows.args_cons ?_ na) na rfl))
  refine thn (ha.run pins s σ H _ I h) fun v s1 ⟨x, H1, I1, r1, q1⟩ => PyProof.Rows.args_nil ?_
  obtain ⟨a, ns, rfl, hq, hl, k⟩ := q1
  obtain rfl : v = Value.ref a := r1
  have hd := I1.ok.hd hc
  rcases hq with hq | hq
  · obtain ⟨its, rv, pl, hz⟩ := I1.list hq
    have len : its.toArray.size = ns.length := by rw [List.size_toArray, ← rv.length, List.length_map]
    refine call_set_list hd pl.isList (ns := ns) (by simpa using RZ.intsAre_vals rv) (by rw [len]; unfold scanBound; omega) fun h' tk hS hk => PyProof.Rows.args_nil ?_
    rw [len] at hS
    obtain ⟨o, es, ep, t, ho, hex, hdt, _, _, _, hf, hn⟩ := hS
    have le : (firstMet (fun i => ns.getD i 0) ns.length).length ≤ ns.length := firstMet_length_le _ _
    have I2 : Inv X pins σ H1 { s1 with heap := h', toks := tk } := I1.kept fun b o e => hk b o (Heap.lt_size e) e
    exact call_len_set ho hex hdt hf (by rw [hn]; omega) ⟨.int _, H1, I2.tok _, ⟨_, by rw [hn]⟩, k _ le met_iff⟩
  · obtain ⟨its, rv, pt, hz⟩ := I1.tuple hq
    have allI : IntsAre its.toArray.toList ns := by simpa using RZ.intsAre_vals rv
    refine call_set_tupI ns hd (show s1.heap.IsTuple a its.toArray from pt) allI (by unfold scanBound; omega) fun h' tk c R1 hcn kk => PyProof.Rows.args_nil ?_
    obtain ⟨o, es, ep, t, ho, hex, hdt, g, nd, hm3, hb, hf, hn, _, _⟩ := R1
    have I2 : Inv X pins σ H1 { s1 with heap := h', toks := tk } := I1.kept fun b o e => kk b o e
    have hlk : (es.toList.map keyOf).length = c := by rw [List.length_map, Array.length_toList, hn]
    refine call_len_set ho hex hdt hf (by rw [hn]; omega) ⟨.int c, H1, I2.tok _, ⟨_, by rw [hn]⟩, k c hcn ?_⟩
    rw [← hlk]
    exact kept_iff nd fun j => by rw [← hm3 j, decide_eq_true_eq]
/-! ### a datum that is a list or a tuple -/
def seqD (b : Bool) (ds : List PyData) : PyData := if b then .list ds else .tuple ds
section
variable {K : PySem.W.Frag} {σ : L2.St} {G H : Hp} {tl te ti : TE} {ta : TA} {g : TG} {tt : TT} {vs : List Nat} {ds : List PyData} {b : Bool} {v : V}
theorem dx_seq (h : Dx H v (seqD b ds)) : ∃ a xs, v = .ref a ∧ SqB K H a xs ∧ DxAll H xs ds := by
  cases b with
  | true =>
    obtain ⟨a, xs, rfl, h1, h2⟩ := dx_lst h
    exact ⟨a, xs, rfl, .inl (sq_of h1), h2⟩
  | false =>
    obtain ⟨a, xs, rfl, h1, h2⟩ := dx_tup h
    exact ⟨a, xs, rfl, .inr (st_of h1), h2⟩
theorem sqb_ex {H H' : Hp} {a : Addr} {xs : List V} (e : Ex H H') (h : SqB K H a xs) : SqB K H' a xs := h.imp (ex_l e) (ex_t e)
theorem is_seqD : ∀ d : PyData, isSeqD d = true → ∃ b ds, d = seqD b ds
  | .list ds, _ => ⟨true, ds, rfl⟩
  | .tuple ds, _ => ⟨false, ds, rfl⟩
  | .none, h => Bool.noConfusion h
  | .bool _, h => Bool.noConfusion h
  | .int _, h => Bool.noConfusion h
  | .str _, h => Bool.noConfusion h
  | .dict _, h => Bool.noConfusion h
theorem ev_lenS {a : Addr} {xs : List V} (h : Ev tl σ G (.ref a)) (hx : SqB K G a xs) : Ev (tCB (rLenS K) (tCons tl tNil)) σ G (.int xs.length) := fun H1 e Q q =>
  h H1 e _ fun H2 e2 => ⟨a, xs, rfl, sqb_ex (e.trans e2) hx, q H2 e2⟩
theorem ev_lenSet {a : Addr} {ns : List Int} (h : Ev tl σ G (.ref a)) (hx : SqB K G a (ns.map V.int)) (hz : ns.length ≤ 1000) : ∀ H1, Ex G H1 → ∀ Q : VK, (∀ (c : Nat) H2, Ex H1 H2 → (c = ns.length ↔ ns.Nodup) → Q (.int (c : Int)) H2) → tLenSet K tl σ H1 Q := fun H1 e Q q =>
  h H1 e _ fun H2 e2 => ⟨a, ns, rfl, sqb_ex (e.trans e2) hx, hz, fun c _ hc => q c H2 e2 hc⟩
/-- [.. for x in xs], xs a list or a tuple -/
theorem lp_seq {a : Addr} {xs : List V} (f : Nat → Bool) (P : Nat → PV) (u : ∀ i, Up (P i)) (h : Ev tl σ G (.ref a)) (hx : SqB K G a xs) (hz : xs.length ≤ 50000)
    (hs : ∀ (i : Nat) (x : V), xs[i]? = some x → TurnP g tt te σ vs x G (f i) (P i)) : EvLP (tLc (iSeq K tl) g tt te vs) σ G (fun ys h => Al P h (ixs xs.length f) ys) := fun H1 e Q q =>
  h H1 e _ fun H2 e2 => by
    have g2 := e.trans e2
    refine ⟨a, xs, rfl, ?_⟩
    rcases hx with hx | hx
    · exact .inl ⟨ex_l g2 hx, fun D hD => walk_lcP f P u hz (walk_list.mono (fun H e3 => ex_l e3 (ex_l g2 hx)) fun i H x H' _ _ y => y) g2 hD (fun i x _ hi => hs i x hi)
        fun ys H3 e3 hl al => q D ys H3 (fresh_back e2 hD) (e2.trans e3) hl (al.up u (hide_ex (nw_chain e2)))⟩
    · exact .inr ⟨ex_t g2 hx, fun D hD => walk_lcP f P u hz (walk_tup.mono (fun H e3 => ex_t e3 (ex_t g2 hx)) fun i H x H' _ _ y => y) g2 hD (fun i x _ hi => hs i x hi)
        fun ys H3 e3 hl al => q D ys H3 (fresh_back e2 hD) (e2.trans e3) hl (al.up u (hide_ex (nw_chain e2)))⟩
theorem walk_et {a : Addr} {xs : List V} : L2.Walk (ItET K a) xs.length (fun H => SqT K H a xs) (YPair (fun i => some (.int (i : Nat))) (fun i => xs[i]?)) := by
  refine ⟨fun i _ hi q => ⟨xs, xs[i], q, by simp [hi]⟩, fun _ q => ⟨xs, q, Nat.le_refl _⟩, fun i H v H' _ q y => ?_⟩
  obtain ⟨T, x, rfl, h2, h3, h4⟩ := y
  exact ⟨T, .int (i : Nat), x, rfl, h2, h3, rfl, h4 xs q⟩
theorem s_forES {D : Ends} {tu : TS} {H : Hp} {a : Addr} {xs : List V} (h : EvA ta σ H [.ref a]) (hx : SqB K H a xs) (Pv : Nat → L2.St → Hp → Prop) (h0 : ∀ H1, Ex H H1 → Pv 0 σ H1) (hl : ∀ i σ' H', i ≤ xs.length → Pv i σ' H' → Ex H H')
    (hs : ∀ i x σ' H' Tp, xs[i]? = some x → Pv i σ' H' → H' Tp = none → g (.ref Tp) σ' (upd H' Tp (.tup [.int (i : Nat), x])) fun σ2 H2 => tu { D with nx := Pv (i + 1), ct := Pv (i + 1), bk := D.nx } σ2 H2) (hd : ∀ σ' H', Pv xs.length σ' H' → D.nx σ' H') : tFor (iEnS K ta) g tu D σ H :=
  h H (Ex.refl H) _ fun H1 e => by
    refine ⟨a, xs, rfl, ?_⟩
    rcases hx with hx | hx
    · exact .inl ⟨ex_l e hx, for_it walk_enum Pv (h0 H1 e) (fun i σ' H' hi p => ex_l (hl i σ' H' hi p) hx) (fun i x σ' H' H'' hi p y => by
        obtain ⟨T, c, d, rfl, hT, rfl, hc, hd⟩ := y
        cases Option.some.inj hc
        exact hs i d σ' H' T hd p hT) hd⟩
    · exact .inr ⟨ex_t e hx, for_it walk_et Pv (h0 H1 e) (fun i σ' H' hi p => ex_t (hl i σ' H' hi p) hx) (fun i x σ' H' H'' hi p y => by
        obtain ⟨T, c, d, rfl, hT, rfl, hc, hd⟩ := y
        cases Option.some.inj hc
        exact hs i d σ' H' T hd p hT) hd⟩
theorem q_forES {D : Ends} {tu tz : TS} {H : Hp} {a : Addr} {xs : List V} (h : EvA ta σ H [.ref a]) (hx : SqB K H a xs) (Pv : Nat → L2.St → Hp → Prop) (h0 : ∀ H1, Ex H H1 → Pv 0 σ H1) (hl : ∀ i σ' H', i ≤ xs.length → Pv i σ' H' → Ex H H')
    (hs : ∀ i x σ' H' Tp, xs[i]? = some x → Pv i σ' H' → H' Tp = none → g (.ref Tp) σ' (upd H' Tp (.tup [.int (i : Nat), x])) fun σ2 H2 => tu { D with nx := Pv (i + 1), ct := Pv (i + 1), bk := tz D } σ2 H2) (hd : ∀ σ' H', Pv xs.length σ' H' → tz D σ' H') : tSeq (tFor (iEnS K ta) g tu) tz D σ H :=
  s_forES (D := { D with nx := tz D }) h hx Pv h0 hl hs hd
/-- an item, a slice, list(..) of a list or a tuple -/
def rIxB (K : PySem.W.Frag) : R2 := fun x y H Q => rIxL K x y H Q ∨ rIxT K x y H Q
def rSlB (K : PySem.W.Frag) : V → Option Int → Option Int → Hp → VK → Prop := fun x lo hi H Q => rSlL K x lo hi H Q ∨ rSlA K x lo hi H Q
theorem ix_seqK {X : Cx} (K : PySem.W.Frag) (hK : X.K = K) : IxR X (rIxB K) := (ix_listK K hK).or (ix_tupK K hK)
theorem sl_seqK {X : Cx} (K : PySem.W.Frag) (hK : X.K = K) : SlR X (rSlB K) := (sl_listK K hK).or (sl_tupK K hK)
theorem ed_ixS {d : PyData} {i : Nat} (h : EvD tl σ G (seqD b ds)) (hi : Ev ti σ G (.int (i : Int))) (hd : ds[i]? = some d) : EvD (tOp (rIxB K) tl ti) σ G d := fun H1 e Q q =>
  h H1 e _ fun v H2 e2 hv => hi H2 (e.trans e2) _ fun H3 e3 => by
    cases b with
    | true =>
      obtain ⟨a, xs, rfl, hl, al⟩ := dx_lst hv
      obtain ⟨x, hx, hxd⟩ := al.at hd
      exact .inl ⟨a, xs, i, x, rfl, rfl, sq_of (e3 a _ (nw_sub a _ hl)), atI_nat hx, q x H3 (e2.trans e3) (hxd.ex (nw_up e3))⟩
    | false =>
      obtain ⟨a, xs, rfl, hl, al⟩ := dx_tup hv
      obtain ⟨x, hx, hxd⟩ := al.at hd
      exact .inr ⟨a, xs, i, x, rfl, rfl, st_of (e3 a _ (nw_sub a _ hl)), atI_nat hx, q x H3 (e2.trans e3) (hxd.ex (nw_up e3))⟩
theorem ed_listS (h : EvD tl σ G (seqD b ds)) : EvD (tCB (rListOf K) (tCons tl tNil)) σ G (.list ds) := fun H1 e Q q =>
  h H1 e _ fun v H2 e2 hd => by
    obtain ⟨a, xs, rfl, hl, al⟩ := dx_seq (K := K) hd
    exact ⟨a, xs, rfl, sqb_ex nw_sub hl, fun p hp => q _ _ (e2.trans (Ex.new hp)) (.lst (nw_new e2 hp) (al.ex (nw_up (Ex.new hp))))⟩
end
end SF
set_option Elab.async false
set_option linter.all false
set_option maxRecDepth 100000
set_option maxHeartbeats 4000000
/-! ### dicts whose keys are nested tuples -/
namespace SF
open PySem PySem.Spec PyProof.Rows L2 Evl
abbrev NEnt := NestedKey × Addr × V
abbrev NVal := NestedKey × Addr × Value
mutual
def nkD : PyData → NestedKey
  | .none => .none
  | .bool b => .num (if b then 1 else 0)
  | .int i => .num i
  | .str x => .text x
  | .tuple ds => .tup (nkDs ds)
  | .list _ => .none
  | .dict _ => .none
def nkDs : List PyData → List NestedKey
  | [] => []
  | d :: ds => nkD d :: nkDs ds
end
mutual
def keyed : PyData → Bool
  | .none => true
  | .bool _ => true
  | .int _ => true
  | .str _ => true
  | .tuple ds => keyedAll ds
  | .list _ => false
  | .dict _ => false
def keyedAll : List PyData → Bool
  | [] => true
  | d :: ds => keyed d && keyedAll ds
end
section
variable {X : Cx} {pins : List (Addr × Obj)} {σ : L2.St} {H : Hp} {s : Shared}
mutual
theorem dx_is (I : Inv X pins σ H s) : ∀ {v : V} {d : PyData} {u : Value}, Dx H v d → keyed d = true → RelV v u → NestedIs s.heap (nkD d) u
  | _, _, _, .non, _, r => by
    cases r
    exact NestedIs.none
  | _, _, _, .bl b, _, r => by
    cases r
    exact NestedIs.bool (by cases b <;> rfl)
  | _, _, _, .int i, _, r => by
    obtain ⟨t, rfl⟩ := r
    exact NestedIs.int i t
  | _, _, _, .str x, _, r => by
    obtain ⟨t, rfl⟩ := r
    exact NestedIs.text x t
  | _, _, _, .lst _ _, k, _ => Bool.noConfusion k
  | _, _, _, .dic _ _, k, _ => Bool.noConfusion k
  | _, _, _, .tup h al, k, r => by
    cases r
    obtain ⟨_, its, rv, o, ho, hc, n, hd⟩ := (show ObjOk X.prog X.w H s.heap _ (.tup _) from I.hok _ _ h)
    exact NestedIs.tup ho hc hd (by simpa using dx_are I al k rv)
theorem dx_are (I : Inv X pins σ H s) : ∀ {vs : List V} {ds : List PyData} {us : List Value}, DxAll H vs ds → keyedAll ds = true → Vals vs us → NestedAll s.heap (nkDs ds) us
  | _, _, _, .nil, _, .nil => NestedAll.nil
  | _, _, _, .cons h t, k, .cons r rt => by
    have k2 : (keyed _ && keyedAll _) = true := k
    rw [Bool.and_eq_true] at k2
    exact NestedAll.cons (dx_is I h k2.1 r) (dx_are I t k2.2 rt)
end
end
/-- the tuple at b is the key k -/
def KeyAt (H : Hp) (k : NestedKey) (b : Addr) : Prop := ∃ d, keyed d = true ∧ (nkD d).depth ≤ 8 ∧ k = nkD d ∧ Dx H (.ref b) d
theorem KeyAt.ex {H H' : Hp} {k : NestedKey} {b : Addr} (h : KeyAt H k b) (e : Ex H H') : KeyAt H' k b := let ⟨d, h1, h2, h3, h4⟩ := h; ⟨d, h1, h2, h3, h4.ex e⟩
def KeysAt (H : Hp) (xs : List NEnt) : Prop := ∀ x ∈ xs, KeyAt H x.1 x.2.1
/-- the dict at a, its entries -/
def NR (P : Program) (w : World) (h : Heap) (a : Addr) (xs : List NEnt) : Prop := (a == sysModules) = false ∧ xs.length ≤ sizeLine ∧
  ∃ (ys : List NVal) (o : Obj) (es : Array DictEntry) (ep : Nat), Paired (fun (p : NEnt) (q : NVal) => p.1 = q.1 ∧ p.2.1 = q.2.1 ∧ RelV p.2.2 q.2.2) xs ys ∧ h.get? a = some o ∧ o.ExactDict ∧ o.data = .dict es ep ∧ es.toList = ys.map (entryOfKey (nestedKind P w)) ∧ (ys.map (·.1)).Nodup
def NdO (P : Program) (w : World) (a : Addr) (xs : List NEnt) : HO := .ext fun h => NR P w h a xs
theorem NR.at {P : Program} {w : World} {h h' : Heap} {a : Addr} {xs : List NEnt} (R : NR P w h a xs) (k : ∀ o, h.get? a = some o → h'.get? a = some o) : NR P w h' a xs :=
  let ⟨h1, h2, ys, o, es, ep, r, ho, rest⟩ := R; ⟨h1, h2, ys, o, es, ep, r, k o ho, rest⟩
theorem ndO_ok {P : Program} {w : World} {H : Hp} {h : Heap} {a : Addr} {xs : List NEnt} (R : NR P w h a xs) : ObjOk P w H h a (NdO P w a xs) := by
  have ⟨_, _, _, o, _, _, _, ho, _⟩ := R
  exact ⟨R, ⟨o, ho⟩, fun h1 h2 p k => NR.at p k⟩
def valN (xs : List NEnt) (k : NestedKey) : Option V := (xs.find? fun x => decide (x.1 = k)).map (·.2.2)
theorem pn_at {xs : List NEnt} {ys : List NVal} (r : Paired (fun (p : NEnt) (q : NVal) => p.1 = q.1 ∧ p.2.1 = q.2.1 ∧ RelV p.2.2 q.2.2) xs ys) (k : NestedKey) : RelO (valN xs k) ((atKey ys k).map (·.2)) := by
  induction r with
  | nil => exact trivial
  | cons h t ih =>
    rename_i x y xs ys
    obtain ⟨h1, h2, h3⟩ := h
    unfold valN atKey at ih ⊢
    rw [List.find?_cons, List.find?_cons]
    rw [h1]
    by_cases e : y.1 = k
    · rw [decide_eq_true e]
      exact h3
    · rw [decide_eq_false e]
      exact ih
section
variable {X : Cx} {pins : List (Addr × Obj)} {σ : L2.St} {H : Hp} {s : Shared} {a : Addr} {xs : List NEnt}
theorem nd_get (I : Inv X pins σ H s) (ha : H a = some (NdO X.prog X.w a xs)) : NR X.prog X.w s.heap a xs := (I.hok a _ ha).1
theorem key_is (I : Inv X pins σ H s) {k : NestedKey} {b : Addr} (h : KeyAt H k b) : (nestedKind X.prog X.w).is s.heap k b := by
  obtain ⟨d, h1, h2, rfl, h4⟩ := h
  exact ⟨dx_is I h4 h1 rfl, h2⟩
theorem nr_dict (I : Inv X pins σ H s) (R : NR X.prog X.w s.heap a xs) (ks : KeysAt H xs) : ∃ ys : List NVal, Paired (fun (p : NEnt) (q : NVal) => p.1 = q.1 ∧ p.2.1 = q.2.1 ∧ RelV p.2.2 q.2.2) xs ys ∧ s.heap.DictOfH (nestedKind X.prog X.w) a ys ∧ ys.length ≤ sizeLine := by
  obtain ⟨_, z, ys, o, es, ep, r, ho, hx, hd, he, nd⟩ := R
  refine ⟨ys, r, ⟨o, es, ep, ho, hx, hd, he, fun y hy => ?_, nd⟩, by rw [← r.length]; exact z⟩
  have all : ∀ {xs : List NEnt} {ys : List NVal}, Paired (fun (p : NEnt) (q : NVal) => p.1 = q.1 ∧ p.2.1 = q.2.1 ∧ RelV p.2.2 q.2.2) xs ys → KeysAt H xs → ∀ y ∈ ys, (nestedKind X.prog X.w).is s.heap y.1 y.2.1 := by
    intro xs ys r
    induction r with
    | nil => intro _ y hy; cases hy
    | cons h t ih =>
      intro ks y hy
      rcases List.mem_cons.mp hy with e | e
      · subst e
        obtain ⟨h1, h2, _⟩ := h
        rw [← h1, ← h2]
        exact key_is I (ks _ List.mem_cons_self)
      · exact ih (fun x hx => ks x (List.mem_cons_of_mem _ hx)) y e
  exact all r ks y hy
/-- {} -/
def tNewN (P : Program) (w : World) : TE := fun _ H Q => ∀ p, H p = none → Q (.ref p) (upd H p (NdO P w p []))
theorem pe_dnewN (P : Program) (w : World) (hP : X.prog = P) (hw : X.w = w) {pos : Pos} : PE X (.Dict [] [] pos) (tNewN P w) := ⟨fun pins s σ H Q I h => by
  subst hP hw
  have new : NR X.prog X.w (s.heap.push { cls := .type "dict", data := .dict #[] }) s.heap.objs.size [] :=
    ⟨beq_eq_false_iff_ne.mpr (Ne.symm (Nat.ne_of_lt I.big)), Nat.zero_le _, [], _, #[], 0, .nil, Heap.get?_push_size _ rfl, ⟨rfl, rfl, rfl⟩, rfl, rfl, List.nodup_nil⟩
  exact wpAny_Dict_empty ⟨.ref s.heap.objs.size, _, I.laid (a := s.heap.objs.size) (o := NdO X.prog X.w s.heap.objs.size []) (t' := s.toks) (fun _ _ q => Heap.get?_push_of_some _ q) (Nat.le_refl _) (ndO_ok new), rfl, h _ (I.hok.fresh (Nat.le_refl _))⟩⟩
/-- d.setdefault(k, x) -/
def rSdefN (P : Program) (w : World) : V → List V → Hp → VK → Prop := fun x as H Q => ∃ a xs k b v, x = .ref a ∧ as = [.ref b, v] ∧ H a = some (NdO P w a xs) ∧ KeyAt H k b ∧ KeysAt H xs ∧ xs.length < sizeLine ∧
  (∀ v', valN xs k = some v' → Q v' H) ∧ (valN xs k = none → Q v (upd H a (NdO P w a (xs ++ [(k, b, v)]))))
theorem mt_sdefN (P : Program) (w : World) (hP : X.prog = P) (hw : X.w = w) (hu : X.A.units + 64 < cLine) : MtR X "dict.setdefault" (rSdefN P w) := by
  subst hP hw
  intro pins s σ H x as v us Q I rx rs h
  obtain ⟨a, xs, k, b, v', rfl, rfl, ha, kb, ks, hz, q1, q2⟩ := h
  obtain rfl : v = Value.ref a := rx
  cases rs with
  | cons r1 rt =>
    cases rt with
    | cons r2 rt =>
      cases rt
      rename_i u1 u2
      obtain rfl : u1 = Value.ref b := r1
      have R := nd_get I ha
      have hsys := R.1
      obtain ⟨ys, pr, dd, z⟩ := nr_dict I R ks
      have rel := pn_at pr k
      refine call_setdefault_heap (hsz := z) (show (nestedKind X.prog X.w).room X.A.in1 from by show X.A.in1.units + 8 < cLine; rw [Around.in1_units]; omega) (key_is I kb) hsys dd (fun p hp => ?_) fun hn h' dd' sb => ?_
      · rw [hp] at rel
        cases hv : valN xs k with
        | none => rw [hv] at rel; exact False.elim rel
        | some v'' =>
          rw [hv] at rel
          exact ⟨v'', H, I.tok _, rel, q1 v'' hv⟩
      · rw [hn] at rel
        cases hv : valN xs k with
        | some v'' => rw [hv] at rel; exact False.elim rel
        | none =>
          rw [storedH_new hn] at dd'
          obtain ⟨o, es, ep, ho, hx, hd, he, _, nd⟩ := dd'
          have snoc : ∀ {xs : List NEnt} {ys : List NVal}, Paired (fun (p : NEnt) (q : NVal) => p.1 = q.1 ∧ p.2.1 = q.2.1 ∧ RelV p.2.2 q.2.2) xs ys → Paired (fun (p : NEnt) (q : NVal) => p.1 = q.1 ∧ p.2.1 = q.2.1 ∧ RelV p.2.2 q.2.2) (xs ++ [(k, b, v')]) (ys ++ [(k, b, u2)]) := by
            intro xs ys r
            induction r with
            | nil => exact .cons ⟨rfl, rfl, r2⟩ .nil
            | cons h t ih => exact .cons h ih
          have new : NR X.prog X.w h' a (xs ++ [(k, b, v')]) := ⟨hsys, by rw [List.length_append, List.length_singleton]; omega, _, o, es, ep, snoc pr, ho, hx, hd, he, nd⟩
          exact ⟨v', upd H a (NdO X.prog X.w a (xs ++ [(k, b, v')])), I.write (e := a) (t' := _) (by rw [ha]; trivial) (.inl rfl) (fun b u hb hu => (sb.2 b hb).trans hu) ⟨o, ho⟩ (ndO_ok new), r2, q2 hv⟩
/-- a method of such a dict -/
def tBMN (P : Program) (w : World) (r : V → List V → Hp → VK → Prop) (to : TE) (t : TA) : TE := fun σ H Q => to σ H fun x H1 => (∃ a xs, x = .ref a ∧ H1 a = some (NdO P w a xs)) ∧ t σ H1 fun xs H2 => r x xs H2 Q
theorem pe_bmN {o e : Expr} {es : List Expr} {to : TE} {t : TA} {name : Str} {apos cpos : Pos} {id : String} {r : V → List V → Hp → VK → Prop} (P : Program) (w : World) (hP : X.prog = P) (hw : X.w = w) (pa : PlainAttrs "dict") (slot : Slot "dict" name id) (hty : typeOf (.builtin id) = pure (.type "method_descriptor")) (hm : MtR X id r) (ho : PE X o to) (ha : PA X (e :: es) t)
    (hbase : attributeBase o name X.env (eval o X.env) = eval o X.env := by rfl) (hfew : ((backTo cpos (starEach (e :: es) X.env)).all (fun x => !x.1) && (backToKw cpos (keywordEach [] X.env)).all (fun x => x.1.isSome) && decide ((e :: es).length + ([] : List Keyword).length + (if ([] : List Keyword).isEmpty then 0 else 1) < 30)) = true := by rfl)
    (hline : (apos.endLine == cpos.line) = true := by rfl) (hs : starEach (e :: es) X.env = (false, eval e X.env) :: starEach es X.env := by rfl) (hplain : (backTo cpos (starEach es X.env)).any (·.1) = false := by rfl) : PE X (.Call (.Attribute o name apos) (e :: es) [] cpos) (tBMN P w r to t) := by
  subst hP hw
  refine ⟨fun pins s σ H Q I h => wpAny_Call_method_late hbase hfew hline rfl (thn (ho.run pins s σ H _ I h) fun v s1 ⟨x, H1, I1, r1, ty, q1⟩ => ?_)⟩
  obtain ⟨a, xs, rfl, hf⟩ := ty
  obtain rfl : v = Value.ref a := r1
  obtain ⟨_, _, _, ob, _, _, _, hob, hx, _⟩ := nd_get I1 hf
  refine ⟨"dict", id, pa, slot, hty, ⟨ob, hob, hx.1⟩, fun b eb => (by cases eb; exact ⟨ob, hob, hx.2.1⟩), ?_⟩
  have run := ha.run cpos pins s1 σ H1 _ I1 q1
  rw [hs] at run ⊢
  exact Calls.callWith_builtin (show (false || (backTo cpos (starEach es X.env)).any (·.1)) = false by rw [hplain] <;> rfl) (Calls.evalArgs_plain (thn run fun us s2 ⟨vs, H2, I2, r2, q2⟩ => hm pins s2 σ H2 (.ref a) vs (.ref a) us Q I2 rfl r2 q2))
/-- k in d -/
def rInN (P : Program) (w : World) : R2 := fun x y H Q => ∃ a xs k b, x = .ref b ∧ y = .ref a ∧ H a = some (NdO P w a xs) ∧ KeyAt H k b ∧ KeysAt H xs ∧ Q (.bl (valN xs k).isSome) H
theorem op_inN (P : Program) (w : World) (hP : X.prog = P) (hw : X.w = w) (hu : X.A.units + 64 < cLine) : OpR X (compareOp .In) (rInN P w) := by
  subst hP hw
  intro pins s σ H x y v u Q I rx ry h
  obtain ⟨a, xs, k, b, rfl, rfl, ha, kb, ks, q⟩ := h
  obtain rfl : v = Value.ref b := rx
  obtain rfl : u = Value.ref a := ry
  have R := nd_get I ha
  obtain ⟨ys, pr, dd, z⟩ := nr_dict I R ks
  have rel := pn_at pr k
  refine in_keyed (knd := nestedKind X.prog X.w) (k := k) (kvs := pairsH ys) (show X.A.in1.units + 8 < cLine by rw [Around.in1_units]; omega) (key_is I kb) R.1 ⟨ys, dd, rfl⟩ ?_
  have e : (valueAt (pairsH ys) k).isSome = (valN xs k).isSome := by
    rw [valueAt_pairsH]
    cases h1 : valN xs k <;> cases h2 : (atKey ys k).map (·.2) <;> rw [h1, h2] at rel <;> first | rfl | exact False.elim rel
  rw [e]
  exact ⟨.bl _, H, I.tok _, rfl, q⟩
/-- d[k], the key there -/
def tGetN (P : Program) (w : World) (td ty : TE) : TE := fun σ H Q => td σ H fun x H1 => ty σ H1 fun y H2 => ∃ a xs k b v, x = .ref a ∧ y = .ref b ∧ H2 a = some (NdO P w a xs) ∧ KeyAt H2 k b ∧ KeysAt H2 xs ∧ valN xs k = some v ∧ Q v H2
theorem pe_getN {o i : Expr} {td ty : TE} {pos : Pos} (P : Program) (w : World) (hP : X.prog = P) (hw : X.w = w) (hu : X.A.units + 64 < cLine) (ho : PE X o td) (hi : PE X i ty) (hs : NoSl i) : PE X (.Subscript o i pos) (tGetN P w td ty) := by
  subst hP hw
  refine ⟨fun pins s σ H Q I h => subD_of PySem.F.slot_dict_getitem.lookup hs (thn (ho.run pins s σ H _ I h) fun u s1 ⟨x, H1, I1, rx, q1⟩ => thn (hi.run pins s1 σ H1 _ I1 q1) fun iv s2 ⟨y, H2, I2, ry, g⟩ => ?_)⟩
  obtain ⟨a, xs, k, b, v, rfl, rfl, ha, kb, ks, hv, q2⟩ := g
  obtain rfl : u = Value.ref a := rx
  obtain rfl : iv = Value.ref b := ry
  have R := nd_get I2 ha
  obtain ⟨ys, pr, dd, z⟩ := nr_dict I2 R ks
  have rel := pn_at pr k
  rw [hv] at rel
  refine ⟨dd.typeIs, ?_⟩
  cases h2 : (atKey ys k).map (·.2) with
  | none => rw [h2] at rel; exact False.elim rel
  | some w' =>
    rw [h2] at rel
    refine getItem_keyed (knd := nestedKind X.prog X.w) (k := k) (kvs := pairsH ys) (v := w') (show X.A.in1.units + 8 < cLine by rw [Around.in1_units]; omega) (key_is I2 kb) ⟨ys, dd, rfl⟩ (by rw [valueAt_pairsH]; exact h2) ⟨v, H2, I2.tok _, rel, q2⟩
end
/-! ### d != {} -/
theorem sf_pairs0 {P : Program} {w : World} {A : Around} {E : Value → Shared → Prop} {s : Shared} {nm : String} {a b : Addr} {es : Array DictEntry} {ep ep2 : Nat} {Q : Bool → Shared → Prop} (ha : (a == sysModules) = false) (hb : (b == sysModules) = false)
    (ra : DT.Raw s.heap a es ep) (rb : DT.Raw s.heap b #[] ep2) (h : Q (decide (es.size = 0)) s) : wpAny (model P w) A (Builtin.Dict.samePairs nm a b) Q E s := by
  obtain ⟨oa, hoa, _, hda⟩ := ra
  obtain ⟨ob, hob, _, hdb⟩ := rb
  unfold Builtin.Dict.samePairs Builtin.Dict.showsAll
  rw [if_neg (fun z => by rw [ha] at z; cases z), if_neg (fun z => by rw [hb] at z; cases z)]
  refine wpAny_bind (wpAny_pure (wpAny_bind (wpAny_pure (wpAny_bind (wpAny_dictEntries hoa hda ?_)))))
  dsimp only
  refine wpAny_bind (wpAny_dictEntries hob hdb ?_)
  by_cases hz : es.size = 0
  · rw [decide_eq_true hz] at h
    rw [if_neg (by simp [hz])]
    refine wpAny_bind (wpAny_dictEpoch hoa hda (wpAny_bind ?_))
    rw [Std.Legacy.Range.forIn_eq_forIn_range']
    simp only [Std.Legacy.Range.size, Nat.sub_zero, Nat.add_sub_cancel, Nat.div_one, hz, List.range'_zero, List.forIn_nil]
    exact wpAny_pure (wpAny_pure h)
  · rw [decide_eq_false hz] at h
    rw [if_pos (by simpa using hz)]
    exact wpAny_bind (wpAny_rule (wpAny_pure h))
theorem sf_ne0 {P : Program} {w : World} {A : Around} {E : Value → Shared → Prop} {s : Shared} {a b : Addr} {es : Array DictEntry} {ep ep2 : Nat} {Q : Value → Shared → Prop} (ha : (a == sysModules) = false) (hb : (b == sysModules) = false)
    (ra : DT.Raw s.heap a es ep) (rb : DT.Raw s.heap b #[] ep2) (hu : A.units < cLine) (h : Q (.bool (!decide (es.size = 0))) s) : wpAny (model P w) A (compareOp .NotEq (.ref a) (.ref b)) Q E s := by
  have ta := ra.typeIs
  have tb := rb.typeIs
  refine wpAny_richCompare_same_room (op := .NotEq) ta tb PySem.F.slot_dict_ne (wpAny_call_entry PySem.F.slot_dict_ne ta PySem.F.entry_dict_ne ?_ (PySem.F.args_dict_ne_2 (.ref a) (.ref b))) hu
  show wpAny _ _ (Builtin.Dict.dictSlotArgs "__ne__" ⟨[.ref a, .ref b], []⟩ >>= fun _ => _) _ _ s
  unfold Builtin.Dict.dictSlotArgs
  refine wpAny_bind (wpAny_bind (wpAny_notOrdered_dict ta ?_))
  refine wpAny_pure (wpAny_bind (wpAny_isInstance (T := "dict") tb PySem.F.sub_dict_dict ?_))
  simp only [Bool.not_true, Bool.false_eq_true, if_false]
  refine wpAny_bind (wpAny_pure (wpAny_bind (wpAny_pure (wpAny_bind (sf_pairs0 ha hb ra rb (wpAny_pure ⟨_, rfl, (fun x => nomatch x), ?_⟩))))))
  simpa using h
def rNeN (P : Program) (w : World) : R2 := fun x y H Q => ∃ a b xs, x = .ref a ∧ y = .ref b ∧ H a = some (NdO P w a xs) ∧ H b = some (NdO P w b []) ∧ Q (.bl (!decide (xs.length = 0))) H
section
variable {X : Cx} {pins : List (Addr × Obj)} {σ : L2.St} {H : Hp} {s : Shared} {a : Addr} {xs : List NEnt}
theorem NR.raw {P : Program} {w : World} {h : Heap} (R : NR P w h a xs) : ∃ es ep, DT.Raw h a es ep ∧ es.size = xs.length := by
  obtain ⟨_, _, ys, o, es, ep, r, ho, hx, hd, he, _⟩ := R
  refine ⟨es, ep, ⟨o, ho, hx, hd⟩, ?_⟩
  have h1 := congrArg List.length he
  rw [Array.length_toList, List.length_map, ← r.length] at h1
  exact h1
theorem op_neN (P : Program) (w : World) (hP : X.prog = P) (hw : X.w = w) (hu : X.A.units + 64 < cLine) : OpR X (compareOp .NotEq) (rNeN P w) := by
  subst hP hw
  intro pins s σ H x y v u Q I rx ry h
  obtain ⟨a, b, xs, rfl, rfl, ha, hb, q⟩ := h
  obtain rfl : v = Value.ref a := rx
  obtain rfl : u = Value.ref b := ry
  have R := nd_get I ha
  have R2 := nd_get I hb
  obtain ⟨es, ep, ra, z⟩ := R.raw
  obtain ⟨es2, ep2, rb, z2⟩ := R2.raw
  have e2 : es2 = #[] := Array.eq_empty_of_size_eq_zero z2
  subst e2
  refine sf_ne0 R.1 R2.1 ra rb (by omega) ?_
  rw [z]
  exact ⟨.bl _, H, I, rfl, q⟩
/-! ### for .. in d.items() -/
def ItN (P : Program) (w : World) (d : Addr) (o : Obj) (xs : List NEnt) : It where
  go := fun i H => H d = some (.frz o (NdO P w d xs)) ∧ i < xs.length
  yld := fun i H x H' => ∃ T k b v, xs[i]? = some (k, b, v) ∧ x = .ref T ∧ H T = none ∧ H' = upd H T (.tup [.ref b, v])
  stop := fun i H => H d = some (.frz o (NdO P w d xs)) ∧ xs.length ≤ i
theorem nd_frz {d : Addr} {o : Obj} (I : Inv X pins σ H s) (h : H d = some (.frz o (NdO X.prog X.w d xs))) : (d == sysModules) = false ∧ ∃ (ys : List NVal) (es : Array DictEntry) (ep : Nat), o.data = .dict es ep ∧ DT.Raw s.heap d es ep ∧ es.size = xs.length ∧
    Paired (fun (p : NEnt) (q : NVal) => p.1 = q.1 ∧ p.2.1 = q.2.1 ∧ RelV p.2.2 q.2.2) xs ys ∧ es.toList = ys.map (entryOfKey (nestedKind X.prog X.w)) := by
  obtain ⟨hd, R, _⟩ := I.hok d _ h
  obtain ⟨hs, _, ys, o', es, ep, r, ho, hx, hdt, he, _⟩ := id R
  rw [hd] at ho
  cases ho
  refine ⟨hs, ys, es, ep, hdt, ⟨o, hd, hx, hdt⟩, ?_, r, he⟩
  have h1 := congrArg List.length he
  rw [Array.length_toList, List.length_map, ← r.length] at h1
  exact h1
theorem pn_get : ∀ {xs : List NEnt} {ys : List NVal} {i : Nat} {x : NEnt}, Paired (fun (p : NEnt) (q : NVal) => p.1 = q.1 ∧ p.2.1 = q.2.1 ∧ RelV p.2.2 q.2.2) xs ys → xs[i]? = some x → ∃ y, ys[i]? = some y ∧ x.1 = y.1 ∧ x.2.1 = y.2.1 ∧ RelV x.2.2 y.2.2
  | _, _, _, _, .nil, h => by simp at h
  | _, _, 0, _, .cons r _, h => by
    cases h
    exact ⟨_, rfl, r⟩
  | _, _, i + 1, _, .cons _ t, h => by
    obtain ⟨y, h1, h2⟩ := pn_get (i := i) t (by simpa using h)
    exact ⟨y, by simpa using h1, h2⟩
theorem turn_itN {P : Program} {w : World} {K : PySem.W.Frag} {d : Addr} {o : Obj} {ep : Nat} {es : Array DictEntry} {els : List Expr} {kk : Nat} {tpos : Pos} (it : Addr) (hod : o.data = .dict es ep) :
    Turn P w K (.Tuple els kk tpos) (ItN P w d o xs) [it] it (fun i h => ∃ ok ov, IsItemIter h it d i xs.length ep ok ov) where
  mem := List.mem_singleton.mpr rfl
  obj := fun i h st b hb => by
    obtain rfl : b = it := List.mem_singleton.mp hb
    obtain ⟨ok, ov, e⟩ := st
    exact ⟨_, e, fun v z => nomatch z⟩
  keep := fun i h h' st k => st.imp fun ok z => z.imp fun ov e => k it (List.mem_singleton.mpr rfl) _ e
  item := by
    intro X hP hw hK hc i pins s σ H E I hf st hg
    subst hP hw hK
    obtain ⟨hd, hi⟩ := hg
    obtain ⟨hs, ys, es', ep', hdt, raw, hsz, rel, he⟩ := nd_frz I hd
    obtain ⟨rfl, rfl⟩ := dict_ep hod hdt
    obtain ⟨⟨k, b, v⟩, hkv⟩ : ∃ p, xs[i]? = some p := ⟨xs[i], List.getElem?_eq_getElem hi⟩
    obtain ⟨⟨k', b', u⟩, hy, e1, e2, ru⟩ := pn_get rel hkv
    obtain rfl : k = k' := e1
    obtain rfl : b = b' := e2
    obtain ⟨ok, ov, hit⟩ := st
    rw [← hsz] at hit
    have hi2 : i < es'.size := by omega
    have ee : es'[i] = entryOfKey (nestedKind X.prog X.w) (k, b, u) := by
      have h1 : es'.toList[i]? = some (entryOfKey (nestedKind X.prog X.w) (k, b, u)) := by rw [he, List.getElem?_map, hy] <;> rfl
      rw [Array.getElem?_toList, Array.getElem?_eq_getElem hi2] at h1
      exact Option.some.inj h1
    have ek : es'[i].key = Value.ref b := by rw [ee] <;> rfl
    have ev : es'[i].val = u := by rw [ee] <;> rfl
    have hlt : it < s.heap.objs.size := Heap.lt_size hit
    refine DT.nextI hit raw hi2 fun h' ho hT hz hk => ⟨_, rfl, wpAny_letOwnedTupleGo_items (s := { s with heap := h' }) ho fun h'' he' sb => ?_⟩
    have hT2 : h''.get? s.heap.objs.size = some { cls := .type "tuple", data := .seq #[.ref b, u] } := by
      rw [← ek, ← ev]
      exact (sb.2 _ (Nat.ne_of_gt hlt)).trans hT
    have new : ObjOk X.prog X.w (upd H s.heap.objs.size (.tup [.ref b, v])) h'' s.heap.objs.size (.tup [.ref b, v]) := ⟨by show 2 ≤ sizeLine; decide, [.ref b, u], .cons rfl (.cons ru .nil), ⟨_, hT2, rfl, _, rfl⟩⟩
    have I1 : Inv X pins σ (upd H s.heap.objs.size (.tup [.ref b, v])) { s with heap := h'' } :=
      I.turnedNew (t' := s.toks) (ch := [it]) (fun c ob hb e => (sb.2 c (fun z => hb (List.mem_singleton.mpr z))).trans (hk c ob (fun z => hb (List.mem_singleton.mpr z)) e)) hf (Nat.le_refl _) new
    refine ⟨.ref s.heap.objs.size, _, I1, rfl, ⟨_, k, b, v, hkv, rfl, I.hok.fresh (Nat.le_refl _), rfl⟩, ⟨es'[i].key, es'[i].val, ?_⟩, fun c hb => ?_⟩
    · rw [← hsz]
      exact he'
    · obtain rfl : c = it := List.mem_singleton.mp hb
      rw [upd_ne (Nat.ne_of_lt hlt)]
      exact (hf c hb).1
  done := by
    intro X hP hw hK hc i pins s σ H E I hf st hg
    subst hP hw hK
    obtain ⟨hd, hi⟩ := hg
    obtain ⟨f0, f1, f2, f3, f4, f5⟩ := hf it (List.mem_singleton.mpr rfl)
    obtain ⟨hs, ys, es', ep', hdt, raw, hsz, rel, he⟩ := nd_frz I hd
    obtain ⟨rfl, rfl⟩ := dict_ep hod hdt
    obtain ⟨ok, ov, hit⟩ := st
    rw [← hsz] at hit
    exact DT.endI (I.ok.hd hc) hit raw (by omega) fun h' eb => ⟨rfl, I.turned (t' := s.toks) (fun b ob hb e => eb b ob hb e) f0 f1 f3 f4 f5⟩
  self := fun A i s Q E st h => let ⟨_, _, e⟩ := st; PySem.W.kcp_self e h
/-- the dict is locked -/
def iItemsN (P : Program) (w : World) (td : TE) : TI := fun σ H R => td σ H fun x H1 => ∃ d o xs, x = .ref d ∧ H1 d = some (.frz o (NdO P w d xs)) ∧ R (ItN P w d o xs) H1
theorem pi_itemsN {e : Expr} {td : TE} {apos cpos : Pos} {els : List Expr} {kk : Nat} {tpos : Pos} (P : Program) (w : World) (hP : X.prog = P) (hw : X.w = w) (he : PE X e td) (hbase : attributeBase e "items" X.env (eval e X.env) = eval e X.env := by rfl) (hline : (apos.endLine == cpos.line) = true := by rfl) :
    PI X (.Tuple els kk tpos) (.Call (.Attribute e "items" apos) [] [] cpos) (iItemsN P w td) := by
  subst hP hw
  refine ⟨fun pins s σ H R I h => ?_⟩
  refine wpAny_Call_method (T := "dict") (id := "dict.items") hbase rfl hline PySem.F.plainAttrs_dict PySem.F.slot_dict_items PySem.F.type_dict_items (thn (he.run pins s σ H _ I h) fun u s1 ⟨x, H1, I1, rx, d, o, xs, ex, hd, q⟩ => ?_)
  subst ex
  obtain rfl : u = Value.ref d := rx
  obtain ⟨hs, ys, es, ep, hdt, raw, hsz, rel, hel⟩ := nd_frz I1 hd
  obtain ⟨ob, hob, hx, hdt2⟩ := id raw
  refine ⟨raw.typeIs, fun b eb => by cases eb; exact ⟨ob, hob, hx.2.1⟩, ?_⟩
  have I2 : Inv X pins σ H1 { s1 with heap := s1.heap.push { cls := .type "dict_items", data := .fields #[.ref d] } } := I1.kept (t' := s1.toks) fun b ob q => Heap.get?_push_of_some _ q
  have fin : wpAny (model X.prog X.w) X.A (pyIter (.ref s1.heap.objs.size)) (PIE X pins σ (.Tuple els kk tpos) R) X.xe { s1 with heap := s1.heap.push { cls := .type "dict_items", data := .fields #[.ref d] } } := by
    refine DT.iterI (d := d) ⟨_, Heap.get?_push_size _ rfl, rfl, rfl⟩ (raw.push _) (pi_one (tk := s1.toks) I2 _ (turn_itN _ hdt) ⟨.none, .none, ?_⟩ q)
    rw [← hsz]
    exact Heap.get?_push_size _ rfl
  show wpAny _ _ (callWith cpos (.builtin "dict.items") [.ref d] [] []) _ X.xe s1
  exact method_meetsIn PySem.F.slot_dict_items PySem.F.entry_dict_items rfl (PySem.evalArgs_none ⟨rfl, raw.typeIs, PySem.F.args_dict_items_1 _, _, DT.meetsItems (es := es) (ep := ep) hs, raw, fin⟩)
end
end SF
set_option Elab.async false
set_option linter.all false
set_option maxRecDepth 100000
set_option maxHeartbeats 4000000
/-! ### {k: v for .. in .. if ..}, the keys nested tuples -/
namespace SF
open PySem PySem.Spec PyProof.Rows L2 Evl
def putN (xs : List NEnt) (k : NestedKey) (b : Addr) (v : V) : List NEnt := if (valN xs k).isSome then xs.map (fun x => if x.1 = k then (x.1, x.2.1, v) else x) else xs ++ [(k, b, v)]
theorem putN_len (xs : List NEnt) (k : NestedKey) (b : Addr) (v : V) : (putN xs k b v).length ≤ xs.length + 1 := by
  unfold putN
  split
  · rw [List.length_map]; omega
  · rw [List.length_append, List.length_singleton]
    exact Nat.le_refl _
theorem putN_mem {xs : List NEnt} {k : NestedKey} {b : Addr} {v : V} {x : NEnt} (h : x ∈ putN xs k b v) : x ∈ xs ∨ x = (k, b, v) ∨ ∃ y ∈ xs, y.1 = k ∧ x = (k, y.2.1, v) := by
  unfold putN at h
  split at h
  · obtain ⟨y, hy, e⟩ := List.mem_map.mp h
    by_cases c : y.1 = k
    · rw [if_pos c] at e
      exact .inr (.inr ⟨y, hy, c, by rw [← e, c]⟩)
    · rw [if_neg c] at e
      exact .inl (e ▸ hy)
  · rcases List.mem_append.mp h with z | z
    · exact .inl z
    · exact .inr (.inl (List.mem_singleton.mp z))
theorem pn_puts {k : NestedKey} {v : V} {r : Value} (rv : RelV v r) : ∀ {xs : List NEnt} {ys : List NVal}, Paired (fun (p : NEnt) (q : NVal) => p.1 = q.1 ∧ p.2.1 = q.2.1 ∧ RelV p.2.2 q.2.2) xs ys →
    Paired (fun (p : NEnt) (q : NVal) => p.1 = q.1 ∧ p.2.1 = q.2.1 ∧ RelV p.2.2 q.2.2) (xs.map (fun x => if x.1 = k then (x.1, x.2.1, v) else x)) (ys.map (putAt k r))
  | _, _, .nil => .nil
  | _, _, .cons (a := x) (b := y) h t => by
    refine .cons ?_ (pn_puts rv t)
    unfold putAt
    dsimp only
    obtain ⟨h1, h2, h3⟩ := h
    by_cases c : y.1 = k
    · rw [if_pos (h1.trans c), if_pos c]
      exact ⟨h1, h2, rv⟩
    · rw [if_neg (fun z => c (h1.symm.trans z)), if_neg c]
      exact ⟨h1, h2, h3⟩
theorem pn_snoc {k : NestedKey} {b : Addr} {v : V} {r : Value} (rv : RelV v r) : ∀ {xs : List NEnt} {ys : List NVal}, Paired (fun (p : NEnt) (q : NVal) => p.1 = q.1 ∧ p.2.1 = q.2.1 ∧ RelV p.2.2 q.2.2) xs ys →
    Paired (fun (p : NEnt) (q : NVal) => p.1 = q.1 ∧ p.2.1 = q.2.1 ∧ RelV p.2.2 q.2.2) (xs ++ [(k, b, v)]) (ys ++ [(k, b, r)])
  | _, _, .nil => .cons ⟨rfl, rfl, rv⟩ .nil
  | _, _, .cons h t => .cons h (pn_snoc rv t)
theorem pn_put {k : NestedKey} {b : Addr} {v : V} {r : Value} (rv : RelV v r) {xs : List NEnt} {ys : List NVal} (pr : Paired (fun (p : NEnt) (q : NVal) => p.1 = q.1 ∧ p.2.1 = q.2.1 ∧ RelV p.2.2 q.2.2) xs ys) (rel : RelO (valN xs k) ((atKey ys k).map (·.2))) :
    Paired (fun (p : NEnt) (q : NVal) => p.1 = q.1 ∧ p.2.1 = q.2.1 ∧ RelV p.2.2 q.2.2) (putN xs k b v) (storedH ys k b r) := by
  unfold putN storedH
  have same : (valN xs k).isSome = (atKey ys k).isSome := by
    cases h1 : valN xs k <;> cases h2 : atKey ys k <;> rw [h1, h2] at rel <;> first | rfl | exact False.elim rel
  rw [same]
  split
  · exact pn_puts rv pr
  · exact pn_snoc rv pr
section
variable {X : Cx}
theorem nd_store {pins : List (Addr × Obj)} {σ : L2.St} {H : Hp} {s : Shared} {E : Value → Shared → Prop} {D b : Addr} {xs : List NEnt} {k : NestedKey} {v : V} {u r : Value} {Q : Unit → Shared → Prop} (hu : X.A.units + 64 < cLine) (I : Inv X pins σ H s) (hD : H D = some (NdO X.prog X.w D xs)) (hz : xs.length < sizeLine)
    (kb : KeyAt H k b) (ks : KeysAt H xs) (ru : RelV (.ref b) u) (rv : RelV v r) (q : ∀ s', Inv X pins σ (upd H D (NdO X.prog X.w D (putN xs k b v))) s' → Q () s') : wpAny (model X.prog X.w) X.A (dictSet D u r) Q E s := by
  obtain rfl : u = Value.ref b := ru
  have R := nd_get I hD
  have hsys := R.1
  obtain ⟨ys, pr, dd, z⟩ := nr_dict I R ks
  have rel := pn_at pr k
  refine wpAny_dictSet_heap (hsz := z) (knd := nestedKind X.prog X.w) (show X.A.units + 8 < cLine by omega) (key_is I kb) dd fun h' dd' sb => q _ ?_
  obtain ⟨o, es, ep, ho, hx, hd, he, _, nd⟩ := dd'
  have pr2 := pn_put (b := b) rv pr rel
  have new : NR X.prog X.w h' D (putN xs k b v) := ⟨hsys, by have := putN_len xs k b v; omega, _, o, es, ep, pr2, ho, hx, hd, he, nd⟩
  exact I.write (e := D) (t' := _) (by rw [hD]; trivial) (.inl rfl) (fun c u hb hu => (sb.2 c hb).trans hu) ⟨o, ho⟩ (ndO_ok new)
/-- the comprehension's reading -/
def tDcN (P : Program) (w : World) (wi : TI) (g : TG) (tt : TT) (tk tv : TE) (vs : List Nat) : TE := fun σ H Q => wi σ H fun J H1 => ∀ D, H1 D = none → ∃ W : Nat → Nat → Hp → Prop, (∃ m, W 0 m (upd H1 D (NdO P w D []))) ∧ ∀ i m H, W i m H →
  (J.stop i H ∧ Q (.ref D) H) ∨ (J.go i H ∧ ∃ Nx : Hp → Prop, (∀ H', Nx H' → ∃ m', m' < m ∧ W (i + 1) m' H') ∧ ∀ x H', J.yld i H x H' → g x (wipe σ vs) H' fun σ2 H2 => wipe σ2 vs = wipe σ vs ∧ tt σ2 H2 fun b H3 =>
    if b = true then tk σ2 H3 fun y H4 => tv σ2 H4 fun z H5 => ∃ xs k b, y = .ref b ∧ H5 D = some (NdO P w D xs) ∧ xs.length < sizeLine ∧ KeyAt H5 k b ∧ KeysAt H5 xs ∧ Nx (upd H5 D (NdO P w D (putN xs k b z))) else Nx H3)
theorem pe_dcN {kx vx tg iter : Expr} {ifs : List Expr} {scope : Scope} {own : List (Str × Nat)} {pos : Pos} {wi : TI} {g : TG} {tt : TT} {tk tv : TE} (P : Program) (w : World) (hP : X.prog = P) (hw : X.w = w) (hu : X.A.units + 64 < cLine) (calm : X.calm = true) (nd : X.N.Nodup) (hi : PI X tg iter wi) (blk : BlkOk X.N X.env.scope scope own)
    (hg : ∀ (s : Shared) (H : Hp) (C : Addr) (cl : List (Str × Addr)) (fp : List Addr), PG (X.blk s H scope (compEnvC scope cl C X.env) fp) tg g)
    (ht : ∀ (s : Shared) (H : Hp) (C : Addr) (cl : List (Str × Addr)) (fp : List Addr), PTs (X.blk s H scope (compEnvC scope cl C X.env) fp) ifs tt)
    (hk : ∀ (s : Shared) (H : Hp) (C : Addr) (cl : List (Str × Addr)) (fp : List Addr), PE (X.blk s H scope (compEnvC scope cl C X.env) fp) kx tk)
    (hv : ∀ (s : Shared) (H : Hp) (C : Addr) (cl : List (Str × Addr)) (fp : List Addr), PE (X.blk s H scope (compEnvC scope cl C X.env) fp) vx tv) (hfold : ∀ x, foldedSetIterable iter X.env x = pure x := by intro _; rfl) :
    PE X (.DictComp kx vx [⟨tg, iter, ifs, 0⟩] scope pos) (tDcN P w wi g tt tk tv (own.map (·.2))) := by
  subst hP hw
  refine ⟨fun pins s σ H Q I h => ?_⟩
  rw [arm_eval_DictComp]
  have clos : ∀ y ∈ scope.names, y.2 = .free → ∃ c, X.env.cells.lookup y.1 = some c := fun y hy e => I.ok.has _ ((blk.free y hy e).imp id id)
  refine wpAny_comprehension_free rfl hfold (closure_ok clos) blk.kind (fun y hy e => (blk.uniq y hy).trans (by rw [e])) (thn (hi.run pins s σ H _ I h) fun xv s1 hx => thn hx fun itv sB hB => ?_)
  obtain ⟨it, fp, tn, J, HB, rfl, IB, T, tnB, okB, q⟩ := hB
  refine wpAny_newObj_type (newEnv_comp ?_)
  generalize hD : sB.heap.objs.size = D
  have freeD : HB D = none := IB.hok.fresh (Nat.le_of_eq hD)
  obtain ⟨W, ⟨m0, w0⟩, turn⟩ := q D freeD
  generalize hsC : ({ sB with heap := sB.heap.push { cls := .type "dict", data := .dict #[] } } : Shared) = sC
  have emp : NR X.prog X.w (sB.heap.push { cls := .type "dict", data := .dict #[] }) sB.heap.objs.size [] :=
    ⟨beq_eq_false_iff_ne.mpr (Ne.symm (Nat.ne_of_lt IB.big)), Nat.zero_le _, [], _, #[], 0, .nil, Heap.get?_push_size _ rfl, ⟨rfl, rfl, rfl⟩, rfl, rfl, List.nodup_nil⟩
  have IC : Inv X pins σ (upd HB D (NdO X.prog X.w D [])) sC := by
    rw [← hsC]
    refine IB.laid (t' := sB.toks) (fun b o e => Heap.get?_push_of_some _ e) (Nat.le_of_eq hD) ?_
    rw [← hD]
    exact ndO_ok emp
  have heapC : sC.heap = sB.heap.push { cls := .type "dict", data := .dict #[] } := by rw [← hsC]
  have below : ∀ b ∈ fp, b < sB.heap.objs.size := fun b hb => let ⟨o, e, _⟩ := T.obj _ _ tnB b hb; Heap.lt_size e
  have okC : ∀ b ∈ fp, FpOk X pins (upd HB D (NdO X.prog X.w D [])) b ∧ b < sC.heap.objs.size := fun b hb => by
    have lt := below b hb
    have ne : b ≠ D := by rw [← hD]; exact Nat.ne_of_lt lt
    exact ⟨⟨by rw [upd_ne ne]; exact (okB b hb).1, (okB b hb).2⟩, by rw [heapC, Heap.size_push]; exact Nat.lt_succ_of_lt lt⟩
  have tnC : tn 0 sC.heap := T.keep _ _ _ tnB fun b _ o e => by rw [heapC]; exact Heap.get?_push_of_some _ e
  have ID := block_start IC blk nd okC
  generalize hHC : upd HB D (NdO X.prog X.w D []) = HC at IC ID w0 okC
  have noneC : ∀ b ∈ fp, HC b = none := fun b hb => (okC b hb).1.1
  generalize hcl : cellsFrom (sC.heap.objs.size + 1) scope.names (cloFrom X.env.cells scope.names []) = cl at ID
  have pG := hg sC HC sC.heap.objs.size cl fp
  have pT := ht sC HC sC.heap.objs.size cl fp
  have pK := hk sC HC sC.heap.objs.size cl fp
  have pV := hv sC HC sC.heap.objs.size cl fp
  show codeAny _ _ (.compStart (.DictComp kx vx [⟨tg, iter, ifs, 0⟩] scope pos) 0 (.ref it) (.ref D) (compEnvC scope cl sC.heap.objs.size X.env)) (compPost (model X.prog X.w) X.A X.xe none _ (.ref D) sC.heap.objs.size) { sC with heap := pushCells (sC.heap.push { cls := .type "dict", data := .dict #[] }) scope.names }
  generalize hce : compEnvC scope cl sC.heap.objs.size X.env = ce at ID pG pT pK pV ⊢
  have loc : ce.locals = sC.heap.objs.size := by subst hce; rfl
  generalize hsD : ({ sC with heap := pushCells (sC.heap.push { cls := .type "dict", data := .dict #[] }) scope.names } : Shared) = sD at ID ⊢
  have tnD : tn 0 sD.heap := T.keep _ _ _ tnC fun b _ o e => by rw [← hsD]; exact pushCells_keeps _ _ _ _ (Heap.get?_push_of_some _ e)
  have okY : ∀ {σ' : L2.St} {H' : Hp} {s' : Shared}, Inv (X.blk sC HC scope ce fp) [] σ' H' s' → (∀ b ∈ fp, H' b = none) → ∀ b ∈ fp, FpOk (X.blk sC HC scope ce fp) [] H' b := fun {σ' H' s'} J' none b hb =>
    ⟨none b hb, (J'.ok.exf b hb).1, J'.ok.exfs b hb, .inl hb, fun x c e => (J'.ok.exf b hb).2 x c e, fun p hp => absurd (show p ∈ ([] : List (Addr × Obj)) ++ [] from hp) (by simp)⟩
  have loop : codeAny (model X.prog X.w) X.A (.compLoop (.DictComp kx vx [⟨tg, iter, ifs, 0⟩] scope pos) 0 (.ref it) (.ref D) ce) (compPost (model X.prog X.w) X.A X.xe none (EP X pins σ Q) (.ref D) sC.heap.objs.size) sD := by
    refine compLoop_anyD (fun n s' => ∃ i H', Inv (X.blk sC HC scope ce fp) [] (wipe σ (own.map (·.2))) H' s' ∧ tn i s'.heap ∧ (∀ b ∈ fp, H' b = none) ∧ W i n H') ?_ m0 ⟨0, HC, ID, tnD, noneC, w0⟩
    rintro n sE ⟨i, HE, IE, tnE, noneE, wE⟩
    rcases turn i n HE wE with ⟨stop, over⟩ | ⟨go, Nx, less, step⟩
    · refine thnF (T.done (X.blk sC HC scope ce fp) rfl rfl rfl calm i [] sE _ HE (fun _ _ => False) IE (okY IE noneE) tnE stop) fun r sF ⟨hr, IF⟩ => ?_
      subst hr
      have back : Inv X pins σ HE sF := IC.call' (ch := fp) IF.os IF.base IF.hok IF.bare fun b hb => let z := (okC b hb).1.2; ⟨z.2.2.1, z.1, z.2.2.2.1, z.2.2.2.2⟩
      have freeC : HE sC.heap.objs.size = none := loc ▸ (show HE ce.locals = none from IF.free)
      obtain ⟨m, ns, _⟩ := IF.loc
      have ns2 : sF.heap.Ns sC.heap.objs.size m := loc ▸ (show sF.heap.Ns ce.locals m from ns)
      obtain ⟨f0, f1, f2, f3, f4, f5⟩ := IC.fpOk (Nat.le_refl _) freeC
      exact ⟨m, ns2, fun h'' sb => ⟨.ref D, HE, back.turned (t' := sF.toks) (fun b o hb e => (sb.2 b hb).trans e) f0 f1 f3 f4 f5, rfl, over⟩⟩
    · refine thnF (T.item (X.blk sC HC scope ce fp) rfl rfl rfl calm i [] sE _ HE (fun _ _ => False) IE (okY IE noneE) tnE go) fun r sF ⟨u, hr, hF⟩ => ?_
      subst hr
      refine thnF hF fun _ sG ⟨x, HG, IG, rG, yG, tnG, noneG⟩ => ?_
      have IG' := IG.pinned (okY IG noneG) (T.obj _ _ tnG)
      refine thnF (pG.run _ sG _ HG x u _ IG' rG (step x HG yG)) fun _ sH ⟨σH, HH, IH, keepH, qH⟩ => ?_
      refine thnF (pT.run _ sH σH HH _ IH qH) fun b sI ⟨HI, II, qI⟩ => ?_
      have next : ∀ {s' : Shared} {H' : Hp}, Inv (X.blk sC HC scope ce fp) ([] ++ pinsAt fp sG.heap) σH H' s' → Nx H' → ∃ m, m < n ∧ ∃ i H', Inv (X.blk sC HC scope ce fp) [] (wipe σ (own.map (·.2))) H' s' ∧ tn i s'.heap ∧ (∀ b ∈ fp, H' b = none) ∧ W i m H' := fun {s' H'} J' nx => by
        obtain ⟨m', lt, w'⟩ := less H' nx
        have pinned : ∀ b ∈ fp, ∀ o, sG.heap.get? b = some o → s'.heap.get? b = some o ∧ H' b = none := fun b hb o e => let z := J'.pin (b, o) (List.mem_append_right _ (List.mem_append_right _ (mem_pinsAt hb e))); ⟨z.1, z.2.1⟩
        refine ⟨m', lt, i + 1, H', (J'.unpinned (pins := [])).weak (by rw [← keepH, wipe_length]) (fun j v e => (wipe_some (keepH ▸ e)).1), T.keep _ _ _ tnG fun b hb o e => (pinned b hb o e).1, fun b hb => ?_, w'⟩
        obtain ⟨o, e, _⟩ := T.obj _ _ tnG b hb
        exact (pinned b hb o e).2
      cases b with
      | false => exact next II qI
      | true =>
        simp only [if_true] at qI ⊢
        refine thnF (pK.run _ sI σH HI _ II qI) fun z1 sJ ⟨y1, HJ, IJ, rJ, qJ⟩ => thnF (pV.run _ sJ σH HJ _ IJ qJ) fun z2 sK ⟨y2, HK, IK, rK, xs, k, kb, ek, hDK, room, keyK, keysK, nx⟩ => ?_
        subst ek
        exact nd_store (X := X.blk sC HC scope ce fp) hu IK hDK room keyK keysK rJ rK fun sL IL => next IL nx
  exact codeAny_compStart_dict loop (T.self X.A 0 _ _ _ tnD loop)
end
end SF
set_option Elab.async false
set_option linter.all false
set_option maxRecDepth 100000
set_option maxHeartbeats 2000000
namespace SF
open PySem PySem.Spec PyProof.Rows L2 Evl
/-! ### what Nw shows -/
section
variable {G H H1 H2 H3 H' B : Hp} {b : Addr} {o : HO}
theorem nw_val (h : Nw G H1 H2 b = some o) : H2 b = some o := nw_sub _ _ h
theorem nw_vis (h : Nw G H1 H2 b = some o) : (∃ u, G b = some u) ∨ H1 b = none := by
  cases g : G b with
  | some u => exact .inl ⟨u, rfl⟩
  | none =>
    refine .inr ?_
    cases q : H1 b with
    | none => rfl
    | some u => rw [nw_none g q] at h; cases h
theorem ex_into (v : ∀ b o, B b = some o → H' b = some o) (s : ∀ b o, B b = some o → (∃ u, G b = some u) ∨ H b = none) : Ex B (Nw G H H') := fun b o h => by
  rcases s b o h with ⟨u, z⟩ | z
  · rw [nw_old z]; exact v b o h
  · rw [nw_free z]; exact v b o h
theorem nw_callD {J : Hp} (d : ∀ b, J b = none → H1 b = none) : Ex (Nw (Nw G H1 H2) J H3) (Nw G H1 H3) :=
  ex_into (fun b o h => nw_val h) fun b o h => (nw_vis h).elim (fun ⟨u, z⟩ => nw_vis z) fun z => .inr (d b z)
end
/-! ### arguments that are known by what holds of them -/
abbrev PL := List V → Hp → Prop
def UpL (R : PL) : Prop := ∀ vs H H', Ex H H' → R vs H → R vs H'
def nilP : PL := fun vs _ => vs = []
def consP (P : PV) (R : PL) : PL := fun vs H => ∃ v r, vs = v :: r ∧ P v H ∧ R r H
theorem up_nilP : UpL nilP := fun _ _ _ _ h => h
theorem up_consP {P : PV} {R : PL} (u : Up P) (ur : UpL R) : UpL (consP P R) := fun _ _ _ e ⟨v, r, h, p, q⟩ => ⟨v, r, h, u _ _ _ e p, ur _ _ _ e q⟩
section
variable {K : PySem.W.Frag} {σ : L2.St} {G : Hp} {te tb : TE} {ta : TA} {P : PV} {R : PL}
def EvAs (ta : TA) (σ : L2.St) (G : Hp) (R : PL) : Prop := ∀ H1, Ex G H1 → ∀ Q : List V → Hp → Prop, (∀ vs H2, Ex H1 H2 → R vs (Nw G H1 H2) → Q vs H2) → ta σ H1 Q
theorem eas_nil : EvAs tNil σ G nilP := fun H1 _ _ q => q [] H1 (Ex.refl H1) rfl
theorem eas_cons (u : Up P) (ur : UpL R) (h : EvP te σ G P) (hr : EvAs ta σ G R) : EvAs (tCons te ta) σ G (consP P R) := fun H1 e _ q =>
  h H1 e _ fun v H2 e2 hv => hr H2 (e.trans e2) _ fun vs H3 e3 hvs => q _ H3 (e2.trans e3) ⟨v, vs, rfl, u _ _ _ (nw_up e3) hv, ur _ _ _ (nw_chain e2) hvs⟩
theorem ep_callAs {sp : Sp} {E : XK} (u : Up P) (h : EvAs ta σ G R) (hs : ∀ G' H1 vs, Ex G G' → Ex G' H1 → R vs G' → ∀ Q, RetP P G' H1 Q → sp (vs ++ []) H1 Q E) : EvP (tCall sp [] E ta) σ G P := fun H1 e Q q =>
  h H1 e _ fun vs H2 e2 hd => hs (Nw G H1 H2) H2 vs (nw_base (e.trans e2)) nw_sub hd Q fun v H3 e3 hv => q v H3 (e2.trans e3) (u _ _ _ (nw_call e2) hv)
theorem ep_makeTwoD {C : Addr} {f g : Str} {P1 P2 : PV} (u1 : Up P1) (u2 : Up P2) {sp : Sp} (h : EvAs ta σ G R)
    (hs : ∀ G' H1 x dx Q vs, Ex G G' → Ex G' H1 → G' x = none → H1 x = some (.ins C dx []) → R vs G' → RetInit C f g P1 P2 G' H1 x dx Q → sp (.ref x :: (vs ++ [])) H1 Q E0) : EvP (tMake C sp [] E0 ta) σ G (fun v H => ∃ a, v = .ref a ∧ TwoP C f g P1 P2 a H) := fun H1 e Q q =>
  h H1 e _ fun vs H2 e2 hd x dx hx hdx ne => by
    have hx1 : H1 x = none := fresh_back e2 hx
    have eN : Ex H2 (upd (upd H2 dx (.own x)) x (.ins C dx [])) := (Ex.new hdx).trans (Ex.new (by rw [upd_ne (Ne.symm ne)]; exact hx))
    have hN : Nw G H1 H2 x = none := by
      cases z : Nw G H1 H2 x with
      | none => rfl
      | some o => rw [nw_val z] at hx; cases hx
    refine hs (Nw G H1 H2) _ x dx _ vs (nw_base (e.trans e2)) (nw_sub.trans eN) hN upd_same hd fun H' u v eb hx' p1 p2 => ⟨rfl, ?_⟩
    have e3 : Ex H2 H' := fun b o hb => eb b o (fun z => by rw [z, hx] at hb; cases hb) (eN b o hb)
    have into : Ex (Nw (Nw G H1 H2) (upd (upd H2 dx (.own x)) x (.ins C dx [])) H') (Nw G H1 H') := nw_callD fun b hb => fresh_back (e2.trans eN) hb
    exact q (.ref x) H' (e2.trans e3) ⟨x, rfl, dx, u, v, by rw [nw_free hx1]; exact hx', u1 _ _ _ into p1, u2 _ _ _ into p2⟩
theorem ed_catT {cs ds : List PyData} (h : EvD te σ G (.tuple cs)) (h2 : EvD tb σ G (.tuple ds)) (hz : cs.length + ds.length ≤ 100000) : EvD (tOp (rCatA K) te tb) σ G (.tuple (cs ++ ds)) := fun H1 e Q q =>
  h H1 e _ fun v H2 e2 hd => h2 H2 (e.trans e2) _ fun w H3 e3 hd2 => by
    obtain ⟨a, xs, rfl, ha, al⟩ := dx_tup hd
    obtain ⟨b, ys, rfl, hb, al2⟩ := dx_tup hd2
    have m1 : DxAll (Nw G H1 H3) xs cs := al.ex (nw_up e3)
    have m2 : DxAll (Nw G H1 H3) ys ds := al2.ex (nw_chain e2)
    have ha3 : Nw G H1 H3 a = some (.tup xs) := nw_up e3 _ _ ha
    have hb3 : Nw G H1 H3 b = some (.tup ys) := nw_chain e2 _ _ hb
    refine ⟨a, b, xs, ys, rfl, rfl, st_of (nw_val ha3), st_of (nw_val hb3), sz_of (by rw [al.length, al2.length]; exact hz), ?_⟩
    refine ⟨fun hx => ?_, fun _ hy => ?_, fun _ _ p hp => ?_⟩
    · subst hx
      cases m1
      exact q _ H3 (e2.trans e3) (.tup hb3 m2)
    · subst hy
      cases m2
      exact q _ H3 (e2.trans e3) (by rw [List.append_nil]; exact .tup ha3 m1)
    · exact q _ _ ((e2.trans e3).trans (Ex.new hp)) (.tup (nw_new (e2.trans e3) hp) ((m1.append m2).ex (nw_up (Ex.new hp))))
end
end SF
set_option Elab.async false
set_option linter.all false
set_option maxRecDepth 100000
set_option maxHeartbeats 4000000
/-! ### comprehensions over pairs that are made on the way; a dict that is locked meanwhile -/
namespace SF
open PySem PySem.Spec PyProof.Rows L2 Evl
theorem walk_lcG {J : It} {n : Nat} {Xs : Nat → V → Addr → HO → Prop} {g : TG} {tt : TT} {te : TE} {vs : List Nat} {σ : L2.St} {G H1 : Hp} {D : Addr} {Qd : Hp → Prop} (f : Nat → Bool) (P : Nat → PV) (u : ∀ i, Up (P i)) (hn : n ≤ 5000000)
    (wk : Walk J n (fun H => Ex H1 H) fun i H x H' => ∃ T o, H T = none ∧ H' = upd H T o ∧ Xs i x T o) (eG : Ex G H1) (hD : H1 D = none)
    (hs : ∀ i x T o G1, i < n → Xs i x T o → Ex G G1 → G1 T = some o → TurnP g tt te σ vs x G1 (f i) (P i)) (hd : ∀ ys H2, Ex H1 H2 → H2 D = some (.lst ys) → Al P (hide (Nw G H1 H2) D) (ixs n f) ys → Qd H2) :
    ∃ W : Nat → Nat → Hp → Prop, (∃ m, W 0 m (upd H1 D (.lst []))) ∧ ∀ i m H, W i m H →
      (J.stop i H ∧ Qd H) ∨ (J.go i H ∧ ∃ Nx : Hp → Prop, (∀ H', Nx H' → ∃ m', m' < m ∧ W (i + 1) m' H') ∧ ∀ x H', J.yld i H x H' → g x (wipe σ vs) H' fun σ2 H2 => wipe σ2 vs = wipe σ vs ∧ tt σ2 H2 fun b H3 =>
        if b = true then te σ2 H3 fun y H4 => ∃ acc, H4 D = some (.lst acc) ∧ acc.length < sizeLine ∧ Nx (upd H4 D (.lst (acc ++ [y]))) else Nx H3) := by
  have hG : G D = none := fresh_back eG hD
  refine ⟨fun i m H => m = n - i ∧ i ≤ n ∧ Ex H1 H ∧ ∃ ys, H D = some (.lst ys) ∧ Al P (hide (Nw G H1 H) D) (ixs i f) ys, ⟨n, by simp, Nat.zero_le _, Ex.new hD, [], upd_same, .nil⟩, ?_⟩
  rintro i m H ⟨rfl, hi, e1, ys, hl, al⟩
  by_cases hlt : i < n
  · refine .inr ⟨wk.goes i H hlt e1, fun H' => Ex H1 H' ∧ ∃ ys, H' D = some (.lst ys) ∧ Al P (hide (Nw G H1 H') D) (ixs (i + 1) f) ys, fun H' p => ⟨n - (i + 1), by omega, rfl, hlt, p⟩, fun x H' y => ?_⟩
    obtain ⟨T, o, hT, rfl, hx⟩ := wk.yields i H x H' hlt e1 y
    have eT : Ex H (upd H T o) := Ex.new hT
    have nTD : D ≠ T := fun z => by rw [← z, hl] at hT; cases hT
    have hT1 : H1 T = none := fresh_back e1 hT
    have g1 : Ex (upd G T o) (upd H T o) := fun b v h => by
      by_cases z : b = T
      · rw [z, upd_same] at h ⊢; exact h
      · rw [upd_ne z] at h ⊢; exact e1 _ _ (eG _ _ h)
    refine hs i x T o (upd G T o) hlt hx (Ex.new (fresh_back eG hT1)) upd_same (upd H T o) g1 _ _ (fun hf y H4 e4 p => ?_) (fun hf H3 e3 => ?_)
    · refine ⟨ys, e4 D _ (eT D _ hl), (by have := al.length; have := ixs_len i f; rw [sizeLine_eq]; omega), Ex.mut ((e1.trans eT).trans e4) hD, ys ++ [y], upd_same, ?_⟩
      rw [ixs_yes hf]
      have sub : Ex (hide (Nw G H1 H4) D) (hide (Nw G H1 (upd H4 D (.lst (ys ++ [y])))) D) := fun b v q => by
        by_cases z : b = D
        · rw [z, hide_self] at q; cases q
        · rw [hide_ne z] at q ⊢
          rcases nw_cases G H1 H4 b with w | ⟨w, w2⟩
          · rw [w] at q; cases q
          · rw [w] at q
            rcases w2 with ⟨o2, w2⟩ | w2
            · rw [nw_old w2, upd_ne z]; exact q
            · rw [nw_free w2, upd_ne z]; exact q
      have new : Ex (Nw (upd G T o) (upd H T o) H4) (hide (Nw G H1 H4) D) := fun b v q => by
        have nb : b ≠ D := fun z => by
          rw [z, nw_none (by rw [upd_ne nTD]; exact hG) (eT D _ hl)] at q
          cases q
        rw [hide_ne nb]
        refine ex_into (fun b o h => nw_val h) (fun b v h => ?_) b v q
        rcases nw_vis h with ⟨w, z⟩ | z
        · by_cases c : b = T
          · exact .inr (by rw [c]; exact hT1)
          · rw [upd_ne c] at z; exact .inl ⟨_, z⟩
        · exact .inr (fresh_back (e1.trans eT) z)
      exact .snoc (u i _ _ _ (new.trans sub) p) (al.up u ((hide_ex (nw_up (eT.trans e4))).trans sub))
    · refine ⟨(e1.trans eT).trans e3, ys, e3 D _ (eT D _ hl), ?_⟩
      rw [ixs_no hf]
      exact al.up u (hide_ex (nw_up (eT.trans e3)))
  · have e : i = n := by omega
    subst e
    exact .inl ⟨wk.stops H e1, hd ys H e1 hl al⟩
section
variable {P : Program} {w : World} {K : PySem.W.Frag} {σ : L2.St} {G : Hp} {g : TG} {tt : TT} {te tl : TE} {ta : TA} {vs : List Nat} {f : Addr} {xs : List NEnt}
theorem walk_itN {d : Addr} {o : Obj} {H1 : Hp} (h : H1 d = some (.frz o (NdO P w d xs))) : L2.Walk (ItN P w d o xs) xs.length (fun H => Ex H1 H) fun i H x H' => ∃ T ob, H T = none ∧ H' = upd H T ob ∧ ∃ k b v, xs[i]? = some (k, b, v) ∧ x = .ref T ∧ ob = .tup [.ref b, v] :=
  ⟨fun i H hi e => ⟨e _ _ h, hi⟩, fun H e => ⟨e _ _ h, Nat.le_refl _⟩, fun i H x H' hi e y => by
    obtain ⟨T, k, b, v, h1, h2, h3, h4⟩ := y
    exact ⟨T, _, h3, h4, k, b, v, h1, h2, rfl⟩⟩
/-- what is seen of the locked heap is seen of the other -/
theorem lock_sub {H1 H2 : Hp} {u : HO} (hG : G f = some u) (od : Obj) : Ex (Nw (hide G f) (upd H1 f (.frz od u)) H2) (Nw G H1 (upd H2 f u)) := fun b v h => by
  have nb : b ≠ f := fun z => by
    rw [z, nw_none hide_self upd_same] at h
    cases h
  refine ex_into (fun b v h => ?_) (fun b v h => ?_) b v (show Nw (hide G f) (upd H1 f (.frz od u)) (upd H2 f u) b = some v from ?_)
  · exact nw_val h
  · rcases nw_vis h with ⟨w, z⟩ | z
    · exact .inl ⟨w, hide_sub _ _ z⟩
    · refine .inr ?_
      by_cases c : b = f
      · rw [c, upd_same] at z; cases z
      · rw [upd_ne c] at z; exact z
  · rcases nw_cases (hide G f) (upd H1 f (.frz od u)) H2 b with z | ⟨z, y⟩
    · rw [z] at h; cases h
    · rw [z] at h
      rcases y with ⟨w, y⟩ | y
      · rw [nw_old y, upd_ne nb]; exact h
      · rw [nw_free y, upd_ne nb]; exact h
theorem lock_ex {H1 H2 : Hp} {u : HO} {od : Obj} (h1 : H1 f = some u) (e : Ex (upd H1 f (.frz od u)) H2) : Ex H1 (upd H2 f u) := fun b v h => by
  by_cases c : b = f
  · rw [c] at h ⊢
    rw [upd_same, ← h1]; exact h
  · rw [upd_ne c]
    exact e b v (by rw [upd_ne c]; exact h)
theorem hide_lock {H1 : Hp} {u : HO} (e : Ex G H1) : Ex (hide G f) (upd H1 f u) := fun b v h => by
  have nb : b ≠ f := fun z => by rw [z, hide_self] at h; cases h
  rw [hide_ne nb] at h
  rw [upd_ne nb]
  exact e _ _ h
/-- [.. for (..), .. in d.items() if ..] -/
theorem lp_itemsN (fl : Nat → Bool) (R : Nat → PV) (u : ∀ i, Up (R i)) (h : Ev tl σ (hide G f) (.ref f)) (hf : G f = some (NdO P w f xs)) (hz : xs.length ≤ 5000000)
    (hs : ∀ i k b v T G1, xs[i]? = some (k, b, v) → Ex (hide G f) G1 → G1 T = some (.tup [.ref b, v]) → TurnP g tt te σ vs (.ref T) G1 (fl i) (R i)) : EvLP (tLockE (tLc (iItemsN P w tl) g tt te vs)) σ G (fun ys h => Al R h (ixs xs.length fl) ys) := fun H1 e Q q =>
  ⟨f, _, e _ _ hf, trivial, fun od => h _ (hide_lock e) _ fun H2 e2 => by
    have hf2 : H2 f = some (.frz od (NdO P w f xs)) := e2 _ _ upd_same
    refine ⟨f, od, xs, rfl, hf2, fun D hD => ?_⟩
    have hD1 : (upd H1 f (.frz od (NdO P w f xs))) D = none := fresh_back e2 hD
    have nDf : D ≠ f := fun z => by rw [z, upd_same] at hD1; cases hD1
    refine walk_lcG (G := hide G f) fl R u hz (walk_itN hf2) ((hide_lock e).trans e2) hD (fun i x T o G1 hi hx eg hT => ?_) fun ys H3 e3 hl al => ⟨e3 _ _ hf2, ?_⟩
    · obtain ⟨k, b, v, h1, rfl, rfl⟩ := hx
      exact hs i k b v T G1 h1 eg hT
    · have e4 := e2.trans e3
      refine q D ys _ (by rw [upd_ne nDf] at hD1; exact hD1) (lock_ex (e _ _ hf) e4) (by rw [upd_ne nDf]; exact hl) (al.up u ?_)
      exact hide_ex ((nw_chain e2).trans (lock_sub hf od))⟩
end
end SF
set_option Elab.async false
set_option linter.all false
set_option maxRecDepth 100000
set_option maxHeartbeats 4000000
namespace SF
open PySem PySem.Spec PyProof.Rows L2 Evl
section
variable {P : Program} {w : World} {K : PySem.W.Frag} {mg : Str → Option Value} {base : Heap}
def spIsInteger : Sp := fun vs H Q _ => ∃ x d, vs = [x] ∧ Dx H x d ∧ RetV (.bl (isIntD d)) H Q
abbrev N_is_integer : List Str := ["value"]
theorem sc_is_integer : FnScope N_is_integer ["value"] (defScope (topS 21)) := ⟨rfl, rfl, rfl, by decide +kernel, rfl, by decide +kernel, by decide +kernel⟩
theorem dn_is_integer (T : Txt K mg) : Dn P w K mg base 1 "is_integer" ["value"] spIsInteger := by
  refine dn_of T.f_is_integer sc_is_integer (fun _ _ _ _ _ _ us hl => match us, hl with | [_], _ => rfl) (by rintro vs H Q E ⟨x, d, rfl, _⟩; rfl) (fun f cdv A outer s H vs Q E hr h => ?_)
  have nd := sc_is_integer.nd
  refine ⟨_, (pss_one (ps_ret (pe_and (pe_callB (call_isiK' K rfl) (by rfl) T.z_isinstance (by decide +kernel) (pa_cons (pv 0) (pa_cons (pe_ty "int" (by rfl) T.z_int (by decide +kernel)) pa_nil))) (pe_one (pe_not (pe_callB (call_isiK' K rfl) (by rfl) T.z_isinstance (by decide +kernel) (pa_cons (pv 0) (pa_cons (pe_ty "bool" (by rfl) T.z_bool (by decide +kernel)) pa_nil)))))))), ?_⟩
  obtain ⟨x, d, rfl, hd, q⟩ := h
  refine s_ret (ev_is (ev_andV (ev_int (ev_var rfl) hd) fun _ => ev_notV (ev_bool (ev_var rfl) hd)) ?_) fun H1 e => q H1 e
  cases d <;> rfl
def spIsCount : Sp := fun vs H Q _ => ∃ x d, vs = [x] ∧ Dx H x d ∧ RetV (.bl (isCountD d)) H Q
abbrev N_is_count : List Str := ["value"]
theorem sc_is_count : FnScope N_is_count ["value"] (defScope (topS 22)) := ⟨rfl, rfl, rfl, by decide +kernel, rfl, by decide +kernel, by decide +kernel⟩
theorem dn_is_count (T : Txt K mg) (D_is_integer : Dn P w K mg base 1 "is_integer" ["value"] spIsInteger) : Dn P w K mg base 2 "is_count" ["value"] spIsCount := by
  refine dn_of T.f_is_count sc_is_count (fun _ _ _ _ _ _ us hl => match us, hl with | [_], _ => rfl) (by rintro vs H Q E ⟨x, d, rfl, _⟩; rfl) (fun f cdv A outer s H vs Q E hr h => ?_)
  have nd := sc_is_count.nd
  refine ⟨_, (pss_one (ps_ret (pe_and (pe_fn D_is_integer hr (by decide) (by rfl) (pa_cons (pv 0) pa_nil)) (pe_one (pe_cmpR op_ge (pv 0) pe_int (nomark _)))))), ?_⟩
  obtain ⟨x, d, rfl, hd, q⟩ := h
  refine s_ret (ev_is (ev_andV (b := isCountD d) (ev_fn (ea_cons (ev_var rfl) ea_nil) fun H1 e Q E r => ⟨x, d, rfl, hd.ex e, r⟩) fun hb => ?_) ?_) fun H1 e => q H1 e
  · cases d with
    | int i =>
      cases dx_int hd
      exact ev_op (ev_var rfl) ev_c rv_I0
    | _ => exact Bool.noConfusion (show false = true from hb)
  · cases d <;> rfl
def spIsBelow : Sp := fun vs H Q _ => ∃ x d n, vs = [x, .int n] ∧ Dx H x d ∧ RetV (.bl (belowD n d)) H Q
abbrev N_is_below : List Str := ["value", "limit"]
theorem sc_is_below : FnScope N_is_below ["value", "limit"] (defScope (topS 23)) := ⟨rfl, rfl, rfl, by decide +kernel, rfl, by decide +kernel, by decide +kernel⟩
theorem dn_is_below (T : Txt K mg) (D_is_count : Dn P w K mg base 2 "is_count" ["value"] spIsCount) : Dn P w K mg base 3 "is_below" ["value", "limit"] spIsBelow := by
  refine dn_of T.f_is_below sc_is_below (fun _ _ _ _ _ _ us hl => match us, hl with | [_, _], _ => rfl) (by rintro vs H Q E ⟨x, d, n, rfl, _⟩; rfl) (fun f cdv A outer s H vs Q E hr h => ?_)
  have nd := sc_is_below.nd
  refine ⟨_, (pss_one (ps_ret (pe_and (pe_fn D_is_count hr (by decide) (by rfl) (pa_cons (pv 0) pa_nil)) (pe_one (pe_cmpR op_lt (pv 0) (pv 1) (nomark _)))))), ?_⟩
  obtain ⟨x, d, n, rfl, hd, q⟩ := h
  refine s_ret (ev_is (ev_andV (b := belowD n d) (ev_fn (ea_cons (ev_var rfl) ea_nil) fun H1 e Q E r => ⟨x, d, rfl, hd.ex e, r⟩) fun hb => ?_) ?_) fun H1 e => q H1 e
  · cases d with
    | int i =>
      cases dx_int hd
      refine ev_is (ev_op (ev_var rfl) (ev_var rfl) rv_I0) ?_
      have hi : decide (0 ≤ i) = true := hb
      show V.bl (decide (i < n)) = V.bl (decide (0 ≤ i) && decide (i < n))
      rw [hi, Bool.true_and]
    | _ => exact Bool.noConfusion (show false = true from hb)
  · cases d with
    | int i =>
      show V.bl (decide (0 ≤ i) && (decide (0 ≤ i) && decide (i < n))) = V.bl (decide (0 ≤ i) && decide (i < n))
      rw [← Bool.and_assoc, Bool.and_self]
    | _ => rfl
def spIsAnswer : Sp := fun vs H Q _ => ∃ x d, vs = [x] ∧ Dx H x d ∧ RetV (.bl (belowD 10 d)) H Q
abbrev N_is_answer : List Str := ["value"]
theorem sc_is_answer : FnScope N_is_answer ["value"] (defScope (topS 24)) := ⟨rfl, rfl, rfl, by decide +kernel, rfl, by decide +kernel, by decide +kernel⟩
theorem dn_is_answer (T : Txt K mg) (D_is_below : Dn P w K mg base 3 "is_below" ["value", "limit"] spIsBelow) : Dn P w K mg base 4 "is_answer" ["value"] spIsAnswer := by
  refine dn_of T.f_is_answer sc_is_answer (fun _ _ _ _ _ _ us hl => match us, hl with | [_], _ => rfl) (by rintro vs H Q E ⟨x, d, rfl, _⟩; rfl) (fun f cdv A outer s H vs Q E hr h => ?_)
  have nd := sc_is_answer.nd
  obtain ⟨_, h_GREATEST_ANSWER⟩ := T.v_GREATEST_ANSWER
  refine ⟨_, (pss_one (ps_ret (pe_fn D_is_below hr (by decide) (by rfl) (pa_cons (pv 0) (pa_cons (pe_op op_add (pe_gint (by rfl) h_GREATEST_ANSWER) pe_int) pa_nil))))), ?_⟩
  obtain ⟨x, d, rfl, hd, q⟩ := h
  exact s_ret (ev_fn (ea_cons (ev_var rfl) (ea_cons (ev_op ev_c ev_c rv_I0) ea_nil)) fun H1 e Q E r => ⟨x, d, 10, rfl, hd.ex e, r⟩) fun H1 e => q H1 e
def spIsList : Sp := fun vs H Q _ => ∃ x d, vs = [x] ∧ Dx H x d ∧ RetV (.bl (isSeqD d)) H Q
abbrev N_is_list : List Str := ["value"]
theorem sc_is_list : FnScope N_is_list ["value"] (defScope (topS 26)) := ⟨rfl, rfl, rfl, by decide +kernel, rfl, by decide +kernel, by decide +kernel⟩
theorem dn_is_list (T : Txt K mg) : Dn P w K mg base 1 "is_list" ["value"] spIsList := by
  refine dn_of T.f_is_list sc_is_list (fun _ _ _ _ _ _ us hl => match us, hl with | [_], _ => rfl) (by rintro vs H Q E ⟨x, d, rfl, _⟩; rfl) (fun f cdv A outer s H vs Q E hr h => ?_)
  have nd := sc_is_list.nd
  refine ⟨_, (pss_one (ps_ret (pe_callB (call_isiTK K rfl) (by rfl) T.z_isinstance (by decide +kernel) (pa_cons (pv 0) (pa_cons (pe_tup (pa_cons (pe_ty "list" (by rfl) T.z_list (by decide +kernel)) (pa_cons (pe_ty "tuple" (by rfl) T.z_tuple (by decide +kernel)) pa_nil))) pa_nil))))), ?_⟩
  obtain ⟨x, d, rfl, hd, q⟩ := h
  exact s_ret (ev_seq (ev_var rfl) hd) fun H1 e => q H1 e
end
end SF
set_option Elab.async false
set_option linter.all false
set_option maxRecDepth 100000
set_option maxHeartbeats 4000000
namespace SF
open PySem PySem.Spec PyProof.Rows L2 Evl
section
variable {P : Program} {w : World} {K : PySem.W.Frag} {mg : Str → Option Value} {base : Heap}

/-! ### names, entries, rows that are right -/
def letters : Str := "abcdefghijklmnopqrstuvwxyz"
structure NameOk (z : Str) : Prop where
  lo : 1 ≤ z.length
  hi : z.length ≤ 8
  all : ∀ c ∈ z.cps.toList, c ∈ letters.cps.toList
def entD (p : Int × Int) : PyData := .tuple [.int p.1, .int p.2]
def rowL (r : List (Int × Int)) : PyData := .list (r.map entD)
def rowT (r : List (Int × Int)) : PyData := .tuple (r.map entD)
structure EntOk (n : Int) (p : Int × Int) : Prop where
  a0 : 0 ≤ p.1
  a9 : p.1 ≤ 9
  l0 : 0 ≤ p.2
  ln : p.2 < n
def spIsName : Sp := fun vs H Q _ => ∃ z, vs = [.str z] ∧ NameOk z ∧ RetV (.bl true) H Q
abbrev N_is_name : List Str := ["value", "sign"]
theorem sc_is_name : FnScope N_is_name ["value"] (defScope (topS 25)) := ⟨rfl, rfl, rfl, by decide +kernel, rfl, by decide +kernel, by decide +kernel⟩
theorem dn_is_name (T : Txt K mg) : Dn P w K mg base 1 "is_name" ["value"] spIsName := by
  refine dn_of T.f_is_name sc_is_name (fun _ _ _ _ _ _ us hl => match us, hl with | [_], _ => rfl) (by rintro vs H Q E ⟨x, rfl, _⟩; rfl) (fun f cdv A outer s H vs Q E hr h => ?_)
  have nd := sc_is_name.nd
  obtain ⟨_, h_LONGEST_NAME⟩ := T.v_LONGEST_NAME
  obtain ⟨_, h_LETTERS⟩ := T.v_LETTERS
  refine ⟨_, (pss_cons (ps_if (PW.pt (pw_or (pt_not (pt_val (pe_callB (call_isiK' K rfl) (by rfl) T.z_isinstance (by decide +kernel) (pa_cons (pv 0) (pa_cons (pe_ty "str" (by rfl) T.z_str (by decide +kernel)) pa_nil))))) (pw_or1 (pt_not (pt_chain op_le op_le pe_int (pe_callB call_len_str (by rfl) T.z_len (by decide +kernel) (pa_cons (pv 0) pa_nil)) (pe_gint (by rfl) h_LONGEST_NAME)))))) (pss_one (ps_ret pe_bl)) pss_nil)
      (pss_one (ps_ret (pe_callB (call_allK K rfl rfl) (by rfl) T.z_all (by decide +kernel) (pa_cons (pe_lc (own := [("sign", 1)]) (by rfl) nd (pi_str (pv 0)) (blkOk_by (own := [("sign", 1)]) (N := N_is_name) (sc := (defScope (topS 25))) (by decide +kernel)) (fun _ _ _ _ _ => (pg_name (i := 1) nd rfl (by first | exact Or.inl rfl | exact Or.inr rfl))) (fun _ _ _ _ _ => pts_nil) (fun _ _ _ _ _ => (pe_cmpR op_in_sign (pv 1) (pe_gstr (by rfl) h_LETTERS) (by rfl)))) pa_nil))))), ?_⟩
  obtain ⟨z, rfl, ok, q⟩ := h
  have hz : (z.length : Int) = z.length := rfl
  refine q_when (b := false) (et_or' (a := false) (et_is (et_not (et_B (ev_str (d := .str z) (ev_var rfl) (.str z)))) rfl) (fun _ => et_is (et_not (et_test (ev_chain (k := true) (b := true) (y := .int z.length) (z := .int 8) ev_c
      (ev_cb (ea_cons (ev_var rfl) ea_nil) fun H1 _ Q q => ⟨z, rfl, sz_of (by have := ok.hi; omega), q H1 (Ex.refl H1)⟩) ?_ fun _ => ⟨ev_c, ?_⟩))) rfl) rfl) (fun hf => Bool.noConfusion hf) fun _ H1 e1 => ?_
  · exact rv_bt (by have := ok.lo; omega)
  · exact rv_bt (by have := ok.hi; omega)
  · refine s_ret (ev_is (ev_all (bs := List.replicate z.cps.size true) (lp_str (z := z) (fun _ => true) (fun _ v _ => v = .bl true) (fun _ => up_s) (ev_var rfl) (by have := ok.hi; have : z.length = z.cps.size := rfl; omega) fun i c hc => turn_name (fun _ => rfl) (ep_ev (v := .bl true) ?_ fun _ _ => rfl)) fun ys h al => ?_) ?_) fun H2 e2 => q H2 (e1.trans e2)
    · refine ev_op (ev_var rfl) ev_c fun H1 _ Q q => ⟨c, letters, rfl, rfl, ?_⟩
      have hc' : c ∈ z.cps.toList := by
        have := Array.mem_of_getElem? hc
        simpa using this
      rw [decide_eq_true (ok.all c hc')]
      exact q H1 (Ex.refl H1)
    · rw [Al.eq (v := fun _ => V.bl true) al, ixs_all]
      apply List.ext_getElem?
      intro i
      simp [List.getElem?_map, List.getElem?_replicate, List.getElem?_range]
      split <;> simp_all
    · rw [List.all_replicate]
      simp
def spIsEntry : Sp := fun vs H Q _ => ∃ n v p, vs = [.int n, v] ∧ Dx H v (entD p) ∧ EntOk n p ∧ RetV (.bl true) H Q
abbrev N_is_entry : List Str := ["states", "value"]
theorem sc_is_entry : FnScope N_is_entry ["states", "value"] (defScope (topS 27)) := ⟨rfl, rfl, rfl, by decide +kernel, rfl, by decide +kernel, by decide +kernel⟩
theorem dn_is_entry (T : Txt K mg) (D_is_answer : Dn P w K mg base 4 "is_answer" ["value"] spIsAnswer) (D_is_below : Dn P w K mg base 3 "is_below" ["value", "limit"] spIsBelow) : Dn P w K mg base 5 "is_entry" ["states", "value"] spIsEntry := by
  refine dn_of T.f_is_entry sc_is_entry (fun _ _ _ _ _ _ us hl => match us, hl with | [_, _], _ => rfl) (by rintro vs H Q E ⟨x, y, z, rfl, _⟩; rfl) (fun f cdv A outer s H vs Q E hr h => ?_)
  have nd := sc_is_entry.nd
  refine ⟨_, (pss_one (ps_ret (pe_and (pe_callB (call_isiK' K rfl) (by rfl) T.z_isinstance (by decide +kernel) (pa_cons (pv 1) (pa_cons (pe_ty "tuple" (by rfl) T.z_tuple (by decide +kernel)) pa_nil))) (pe_and (pe_cmpR op_eq (pe_callB (call_lenK K rfl) (by rfl) T.z_len (by decide +kernel) (pa_cons (pv 1) pa_nil)) pe_int (nomark _)) (pe_and (pe_fn D_is_answer hr (by decide) (by rfl) (pa_cons (pe_ix (ix_tupK K rfl) (pv 1) pe_int (fun _ _ => rfl)) pa_nil)) (pe_one (pe_fn D_is_below hr (by decide) (by rfl) (pa_cons (pe_ix (ix_tupK K rfl) (pv 1) pe_int (fun _ _ => rfl)) (pa_cons (pv 0) pa_nil))))))))), ?_⟩
  obtain ⟨n, v, p, rfl, hd, ok, q⟩ := h
  have h0 : EvD (tOp (rIxT K) (tVar 1) (tC (.int 0))) (start N_is_entry [.int n, v]) H (.int p.1) := ed_ixT (i := 0) (ed_ev (ev_var rfl) hd) ev_c rfl
  have h1 : EvD (tOp (rIxT K) (tVar 1) (tC (.int 1))) (start N_is_entry [.int n, v]) H (.int p.2) := ed_ixT (i := 1) (ed_ev (ev_var rfl) hd) ev_c rfl
  refine s_ret (ev_is (ev_andV (b := true) (ev_tuple (ev_var rfl) hd) fun _ => ev_is (ev_andV (b := true) (ev_op (ev_lenDT (ed_ev (ev_var rfl) hd)) ev_c (rv_eq rfl)) fun _ => ev_is (ev_andV (a := true) (b := true)
    (ev_is (ev_fn (ea_cons (ev_ed h0) ea_nil) fun H1 e Q E r => ⟨_, .int p.1, rfl, .int _, r⟩) ?_) fun _ =>
    ev_is (ev_fn (ea_cons (ev_ed h1) (ea_cons (ev_var rfl) ea_nil)) fun H1 e Q E r => ⟨_, .int p.2, n, rfl, .int _, r⟩) ?_) rfl) rfl) rfl) fun H1 e => q H1 e
  · show V.bl (decide (0 ≤ p.1) && decide (p.1 < 10)) = .bl true
    rw [decide_eq_true ok.a0, decide_eq_true (by have := ok.a9; omega)] <;> rfl
  · show V.bl (decide (0 ≤ p.2) && decide (p.2 < n)) = .bl true
    rw [decide_eq_true ok.l0, decide_eq_true ok.ln] <;> rfl
def spIsRow : Sp := fun vs H Q _ => ∃ a n v ds r, vs = [a, .int n, v] ∧ Dx H a (.list ds) ∧ Dx H v (rowL r) ∧ r.length = ds.length ∧ r.length ≤ 1000 ∧ (∀ p ∈ r, EntOk n p) ∧ RetV (.bl true) H Q
abbrev N_is_row : List Str := ["deeds", "states", "value", "entry"]
theorem sc_is_row : FnScope N_is_row ["deeds", "states", "value"] (defScope (topS 28)) := ⟨rfl, rfl, rfl, by decide +kernel, rfl, by decide +kernel, by decide +kernel⟩
theorem dn_is_row (T : Txt K mg) (D_is_list : Dn P w K mg base 1 "is_list" ["value"] spIsList) (D_is_entry : Dn P w K mg base 5 "is_entry" ["states", "value"] spIsEntry) : Dn P w K mg base 6 "is_row" ["deeds", "states", "value"] spIsRow := by
  refine dn_of T.f_is_row sc_is_row (fun _ _ _ _ _ _ us hl => match us, hl with | [_, _, _], _ => rfl) (by rintro vs H Q E ⟨a, n, v, ds, r, rfl, _⟩; rfl) (fun f cdv A outer s H vs Q E hr h => ?_)
  have nd := sc_is_row.nd
  refine ⟨_, (pss_one (ps_ret (pe_and (pe_fn D_is_list hr (by decide) (by rfl) (pa_cons (pv 2) pa_nil)) (pe_and (pe_cmpR op_eq (pe_callB (call_lenK K rfl) (by rfl) T.z_len (by decide +kernel) (pa_cons (pv 2) pa_nil)) (pe_callB (call_lenK K rfl) (by rfl) T.z_len (by decide +kernel) (pa_cons (pv 0) pa_nil)) (nomark _)) (pe_one (pe_callB (call_allK K rfl rfl) (by rfl) T.z_all (by decide +kernel) (pa_cons (pe_lc (own := [("entry", 3)]) (by rfl) nd (pi_listK K rfl (pv 2)) (blkOk_by (own := [("entry", 3)]) (N := N_is_row) (sc := (defScope (topS 28))) (by decide +kernel)) (fun _ _ _ _ _ => (pg_name (i := 3) nd rfl (by first | exact Or.inl rfl | exact Or.inr rfl))) (fun _ _ _ _ _ => pts_nil) (fun _ _ _ _ _ => (pe_fn D_is_entry hr (by decide) (by rfl) (pa_cons (pv 1) (pa_cons (pv 3) pa_nil))))) pa_nil))))))), ?_⟩
  obtain ⟨a, n, v, ds, r, rfl, ha, hd, hl, hz, ok, q⟩ := h
  obtain ⟨l, xs, rfl, hx, al⟩ := dx_lst hd
  refine s_ret (ev_is (ev_andV (b := true) (ev_fn (ea_cons (ev_var rfl) ea_nil) fun H1 e Q E r => ⟨_, _, rfl, hd.ex e, r⟩) fun _ => ev_is (ev_andV (a := true) (b := true)
    (ev_is (ev_op (ev_lenD (ed_ev (ev_var rfl) hd)) (ev_lenD (ed_ev (ev_var rfl) ha)) (rv_eq rfl)) ?_) fun _ => ev_is
    (ev_all (bs := List.replicate xs.length true) (lp_list (fun _ => true) (fun _ v _ => v = .bl true) (fun _ => up_s) (ev_var rfl) hx ?_ fun i x hi => turn_name (fun _ => rfl) (ep_ev (v := .bl true) ?_ fun _ _ => rfl)) fun ys h al => ?_) ?_) rfl) rfl) fun H1 e => q H1 e
  · rw [List.length_map, hl]
    exact congrArg V.bl (decide_eq_true rfl)
  · rw [al.length, List.length_map]
    omega
  · obtain ⟨d, hi2, hxd⟩ := al.at' hi
    rw [List.getElem?_map] at hi2
    obtain ⟨p, hp, rfl⟩ := Option.map_eq_some_iff.mp hi2
    exact ev_fn (ea_cons (ev_var rfl) (ea_cons (ev_var rfl) ea_nil)) fun H1 e Q E r => ⟨n, x, p, rfl, hxd.ex e, ok p (List.mem_of_getElem? hp), r⟩
  · rw [Al.eq (v := fun _ => V.bl true) al, ixs_all]
    apply List.ext_getElem?
    intro i
    simp [List.getElem?_map, List.getElem?_replicate, List.getElem?_range]
    split <;> simp_all
  · rw [List.all_replicate]
    simp
end
end SF
set_option Elab.async false
set_option linter.all false
set_option maxRecDepth 100000
set_option maxHeartbeats 4000000
namespace SF
open PySem PySem.Spec PyProof.Rows L2 Evl
section
variable {P : Program} {w : World} {K : PySem.W.Frag} {mg : Str → Option Value} {base : Heap}

/-! ### a thing's parts that are right -/
structure NamesOk (ns : List Str) : Prop where
  ne : ns ≠ []
  nd : ns.Nodup
  ok : ∀ z ∈ ns, NameOk z
  hi : ns.length ≤ 4
structure RowsOk (n : Nat) (rs : List (List (Int × Int))) : Prop where
  ne : rs ≠ []
  hi : rs.length ≤ 8
  len : ∀ r ∈ rs, r.length = n
  ent : ∀ r ∈ rs, ∀ p ∈ r, EntOk rs.length p
def namesD (ns : List Str) : List PyData := ns.map .str
def rowsL (rs : List (List (Int × Int))) : PyData := .list (rs.map rowL)
def rowsT (rs : List (List (Int × Int))) : PyData := .tuple (rs.map rowT)
theorem eqV_str (a b : Str) : eqV (.str a) (.str b) = decide (a = b) := by
  show (a == b) = decide (a = b)
  by_cases h : a = b
  · rw [h, decide_eq_true rfl]
    simp
  · rw [decide_eq_false h]
    simpa using h
theorem inV_strs (a : Str) (xs : List Str) : inV (.str a) (xs.map V.str) = decide (a ∈ xs) := by
  unfold inV
  rw [List.any_map]
  by_cases h : a ∈ xs
  · rw [decide_eq_true h, List.any_eq_true]
    exact ⟨a, h, by show eqV (.str a) (.str a) = true; rw [eqV_str, decide_eq_true rfl]⟩
  · rw [decide_eq_false h, List.any_eq_false]
    intro y hy
    show ¬ eqV (.str y) (.str a) = true
    rw [eqV_str]
    intro q
    rw [of_decide_eq_true q] at hy
    exact h hy
theorem flat_strs (xs : List Str) : (xs.map V.str).all flatV = true := by
  rw [List.all_map, List.all_eq_true]
  intro x _
  rfl
theorem cut_to (xs : List V) (i : Nat) (h : i ≤ xs.length) : cutV xs none (some (i : Int)) = xs.take i := by
  unfold cutV
  rw [show HT.sIx xs.length 0 none = 0 from rfl, HT.sIx_nat, List.drop_zero, Nat.sub_zero, Nat.min_eq_left h]
def spWantNames : Sp := fun vs H Q _ => ∃ v ns, vs = [v] ∧ Dx H v (.list (namesD ns)) ∧ NamesOk ns ∧ RetV .non H Q
abbrev N_want_names_of_deeds : List Str := ["deeds", "position", "deed"]
theorem sc_want_names_of_deeds : FnScope N_want_names_of_deeds ["deeds"] (defScope (topS 29)) := ⟨rfl, rfl, rfl, by decide +kernel, rfl, by decide +kernel, by decide +kernel⟩
theorem dn_want_names_of_deeds (T : Txt K mg) (D_is_list : Dn P w K mg base 1 "is_list" ["value"] spIsList) (D_is_name : Dn P w K mg base 1 "is_name" ["value"] spIsName) : Dn P w K mg base 2 "want_names_of_deeds" ["deeds"] spWantNames := by
  refine dn_of T.f_want_names_of_deeds sc_want_names_of_deeds (fun _ _ _ _ _ _ us hl => match us, hl with | [_], _ => rfl) (by rintro vs H Q E ⟨x, y, rfl, _⟩; rfl) (fun f cdv A outer s H vs Q E hr h => ?_)
  have nd := sc_want_names_of_deeds.nd
  refine ⟨_, (pss_cons (ps_if (PW.pt (pw_or (pt_not (pt_val (pe_fn D_is_list hr (by decide) (by rfl) (pa_cons (pv 0) pa_nil)))) (pw_or1 (pt_cmpR op_eq (pe_callB (call_lenK K rfl) (by rfl) T.z_len (by decide +kernel) (pa_cons (pv 0) pa_nil)) pe_int (nomark _))))) (pss_one ps_never) pss_nil)
      (pss_one (ps_for PassesOwn.never rfl (pi_enumK K rfl (by rfl) T.z_enumerate (pa_cons (pv 0) pa_nil)) (pg_tupK K rfl 2 (by rfl) (pgs_cons (pg_name (i := 1) nd rfl (by first | exact Or.inl rfl | exact Or.inr rfl)) (pgs_cons (pg_name (i := 2) nd rfl (by first | exact Or.inl rfl | exact Or.inr rfl)) pgs_nil))) (pss_one (ps_if (PW.pt (pw_or (pt_not (pt_val (pe_fn D_is_name hr (by decide) (by rfl) (pa_cons (pv 2) pa_nil)))) (pw_or1 (pt_cmpR (op_inK K rfl) (pv 2) (pe_slice (sl_listK K rfl) (pv 0) po_none (po_some (pv 1))) (by rfl))))) (pss_one ps_never) pss_nil))))), ?_⟩
  obtain ⟨v, ns, rfl, hd, ok, q⟩ := h
  obtain ⟨l, xs, rfl, hx, al⟩ := dx_lst hd
  have exs : xs = ns.map V.str := dx_strs al
  refine q_when (b := false) (et_or' (a := false) (et_is (et_not (et_B (ev_fn (ea_cons (ev_var rfl) ea_nil) fun H1 e Q E r => ⟨_, _, rfl, hd.ex e, r⟩))) rfl) (fun _ => et_is (et_test (ev_op (ev_lenL (ev_var rfl) hx) ev_c (rv_eq rfl))) (b := false) ?_) rfl) (fun hf => Bool.noConfusion hf) fun _ H1 e1 => ?_
  · rw [exs, List.length_map]
    refine decide_eq_false fun z => ?_
    have : (ns.length : Int) = 0 := V.int.inj z
    exact ok.ne (List.length_eq_zero_iff.mp (by omega))
  · refine s_forE (ea_cons (ev_var rfl) ea_nil) (sq_of (e1 l _ hx)) (fun i σ' H' => ∃ y1 y2, σ' = [some (.ref l), y1, y2] ∧ Ex H H') (fun H2 e2 => ⟨_, _, rfl, e1.trans e2⟩) (fun i σ' H' _ p => let ⟨_, _, _, e⟩ := p; sq_of (e l _ hx)) (fun i x σ' H' Tp hi p hT => ?_) (fun σ' H' p => let ⟨_, _, _, e⟩ := p; q H' e)
    obtain ⟨y1, y2, rfl, e2⟩ := p
    refine ⟨Tp, _, rfl, st_of upd_same, rfl, _, _, rfl, _, _, rfl, rfl, ?_⟩
    have e3 : Ex H (upd H' Tp (.tup [.int (i : Nat), x])) := e2.trans (Ex.new hT)
    rw [exs, List.getElem?_map] at hi
    obtain ⟨z, hz, rfl⟩ := Option.map_eq_some_iff.mp hi
    have hlt : i < ns.length := (List.getElem?_eq_some_iff.mp hz).1
    refine s_when (b := false) (et_or' (a := false) (et_is (et_not (et_B (ev_fn (ea_cons (ev_var rfl) ea_nil) fun H1 e Q E r => ⟨z, rfl, ok.ok z (List.mem_of_getElem? hz), r⟩))) rfl) (fun _ => et_is (et_test (ev_opL (ev_var rfl) (el_sl (ev_var rfl) eo_none (eo_some (ev_var rfl)) (sq_of (e3 l _ hx))) fun p H1 hp _ => rv_isL (sq_of hp) rfl ?_)) (b := false) ?_) rfl) (fun hf => Bool.noConfusion hf) fun _ H4 e4 => ⟨_, _, rfl, e3.trans e4⟩
    · rw [exs, cut_to _ _ (by rw [List.length_map]; omega), ← List.map_take]
      exact flat_strs _
    · rw [exs, cut_to _ _ (by rw [List.length_map]; omega), ← List.map_take, inV_strs]
      refine decide_eq_false fun hm => ?_
      obtain ⟨j, hj⟩ := List.mem_iff_getElem?.mp hm
      rw [List.getElem?_take] at hj
      split at hj
      · rename_i hji
        have := nd_ix ok.nd hj hz
        omega
      · cases hj
def spWantFew : Sp := fun vs H Q _ => ∃ v ns, vs = [v] ∧ Dx H v (.list (namesD ns)) ∧ ns.length ≤ 4 ∧ RetV .non H Q
abbrev N_want_few_deeds : List Str := ["deeds"]
theorem sc_want_few_deeds : FnScope N_want_few_deeds ["deeds"] (defScope (topS 30)) := ⟨rfl, rfl, rfl, by decide +kernel, rfl, by decide +kernel, by decide +kernel⟩
theorem dn_want_few_deeds (T : Txt K mg) : Dn P w K mg base 1 "want_few_deeds" ["deeds"] spWantFew := by
  refine dn_of T.f_want_few_deeds sc_want_few_deeds (fun _ _ _ _ _ _ us hl => match us, hl with | [_], _ => rfl) (by rintro vs H Q E ⟨x, y, rfl, _⟩; rfl) (fun f cdv A outer s H vs Q E hr h => ?_)
  have nd := sc_want_few_deeds.nd
  obtain ⟨_, h_MOST_DEEDS⟩ := T.v_MOST_DEEDS
  refine ⟨_, (pss_one (ps_if (pt_cmpR op_gt (pe_callB (call_lenK K rfl) (by rfl) T.z_len (by decide +kernel) (pa_cons (pv 0) pa_nil)) (pe_gint (by rfl) h_MOST_DEEDS) (nomark _)) (pss_one ps_never) pss_nil)), ?_⟩
  obtain ⟨v, ns, rfl, hd, ok, q⟩ := h
  refine s_when (b := false) (et_is (et_test (ev_op (ev_lenD (ed_ev (ev_var rfl) hd)) ev_c (rv_b (z := .bl false) ?_))) rfl) (fun hf => Bool.noConfusion hf) fun _ H1 e1 => q H1 e1
  exact congrArg V.bl (decide_eq_false (by unfold namesD; rw [List.length_map]; omega))
def spWantParts : Sp := fun vs H Q _ => ∃ v r ns rs, vs = [v, r] ∧ Dx H v (.list (namesD ns)) ∧ Dx H r (rowsL rs) ∧ NamesOk ns ∧ RowsOk ns.length rs ∧ RetV .non H Q
abbrev N_want_parts : List Str := ["deeds", "rows", "position", "row"]
theorem sc_want_parts : FnScope N_want_parts ["deeds", "rows"] (defScope (topS 31)) := ⟨rfl, rfl, rfl, by decide +kernel, rfl, by decide +kernel, by decide +kernel⟩
theorem dn_want_parts (T : Txt K mg) (D_want_names_of_deeds : Dn P w K mg base 2 "want_names_of_deeds" ["deeds"] spWantNames) (D_is_list : Dn P w K mg base 1 "is_list" ["value"] spIsList) (D_is_row : Dn P w K mg base 6 "is_row" ["deeds", "states", "value"] spIsRow) (D_want_few_deeds : Dn P w K mg base 1 "want_few_deeds" ["deeds"] spWantFew) : Dn P w K mg base 7 "want_parts" ["deeds", "rows"] spWantParts := by
  refine dn_of T.f_want_parts sc_want_parts (fun _ _ _ _ _ _ us hl => match us, hl with | [_, _], _ => rfl) (by rintro vs H Q E ⟨x, y, a, b, rfl, _⟩; rfl) (fun f cdv A outer s H vs Q E hr h => ?_)
  have nd := sc_want_parts.nd
  obtain ⟨_, h_MOST_STATES⟩ := T.v_MOST_STATES
  refine ⟨_, (pss_cons (ps_expr (pe_fn D_want_names_of_deeds hr (by decide) (by rfl) (pa_cons (pv 0) pa_nil)))
      (pss_cons (ps_if (PW.pt (pw_or (pt_not (pt_val (pe_fn D_is_list hr (by decide) (by rfl) (pa_cons (pv 1) pa_nil)))) (pw_or1 (pt_cmpR op_eq (pe_callB (call_lenK K rfl) (by rfl) T.z_len (by decide +kernel) (pa_cons (pv 1) pa_nil)) pe_int (nomark _))))) (pss_one ps_never) pss_nil)
      (pss_cons (ps_for PassesOwn.never rfl (pi_enumK K rfl (by rfl) T.z_enumerate (pa_cons (pv 1) pa_nil)) (pg_tupK K rfl 2 (by rfl) (pgs_cons (pg_name (i := 2) nd rfl (by first | exact Or.inl rfl | exact Or.inr rfl)) (pgs_cons (pg_name (i := 3) nd rfl (by first | exact Or.inl rfl | exact Or.inr rfl)) pgs_nil))) (pss_one (ps_if (pt_not (pt_val (pe_fn D_is_row hr (by decide) (by rfl) (pa_cons (pv 0) (pa_cons (pe_callB (call_lenK K rfl) (by rfl) T.z_len (by decide +kernel) (pa_cons (pv 1) pa_nil)) (pa_cons (pv 3) pa_nil)))))) (pss_one ps_never) pss_nil)))
      (pss_cons (ps_expr (pe_fn D_want_few_deeds hr (by decide) (by rfl) (pa_cons (pv 0) pa_nil)))
      (pss_one (ps_if (pt_cmpR op_gt (pe_callB (call_lenK K rfl) (by rfl) T.z_len (by decide +kernel) (pa_cons (pv 1) pa_nil)) (pe_gint (by rfl) h_MOST_STATES) (nomark _)) (pss_one ps_never) pss_nil)))))), ?_⟩
  obtain ⟨v, r, ns, rs, rfl, hv, hr0, ok, rok, q⟩ := h
  obtain ⟨l, xs, rfl, hx, al⟩ := dx_lst hr0
  have hlen : xs.length = rs.length := by rw [al.length, List.length_map]
  refine q_drop (ev_fn (ea_cons (ev_var rfl) ea_nil) fun H1 e Q E r => ⟨_, ns, rfl, hv.ex e, ok, r⟩) fun H1 e1 => ?_
  refine q_when (b := false) (et_or' (a := false) (et_is (et_not (et_B (ev_fn (ea_cons (ev_var rfl) ea_nil) fun H2 e Q E r => ⟨_, _, rfl, (hr0.ex e1).ex e, r⟩))) rfl) (fun _ => et_is (et_test (ev_op (ev_lenL (ev_var rfl) (e1 l _ hx)) ev_c (rv_eq rfl))) (b := false) ?_) rfl) (fun hf => Bool.noConfusion hf) fun _ H2 e2 => ?_
  · refine decide_eq_false fun z => ?_
    have : (xs.length : Int) = 0 := V.int.inj z
    exact rok.ne (List.length_eq_zero_iff.mp (by omega))
  · refine q_forE (ea_cons (ev_var rfl) ea_nil) (sq_of ((e1.trans e2) l _ hx)) (fun i σ' H' => ∃ y1 y2, σ' = [some v, some (.ref l), y1, y2] ∧ Ex H H') (fun H3 e3 => ⟨_, _, rfl, (e1.trans e2).trans e3⟩) (fun i σ' H' _ p => let ⟨_, _, _, e⟩ := p; sq_of (e l _ hx)) (fun i x σ' H' Tp hi p hT => ?_) (fun σ' H' p => ?_)
    · obtain ⟨y1, y2, rfl, e3⟩ := p
      refine ⟨Tp, _, rfl, st_of upd_same, rfl, _, _, rfl, _, _, rfl, rfl, ?_⟩
      have e4 : Ex H (upd H' Tp (.tup [.int (i : Nat), x])) := e3.trans (Ex.new hT)
      obtain ⟨d, hd1, hd2⟩ := al.at' hi
      rw [List.getElem?_map] at hd1
      obtain ⟨row, hrow, rfl⟩ := Option.map_eq_some_iff.mp hd1
      have hm := List.mem_of_getElem? hrow
      refine s_when (b := false) (et_is (et_not (et_B (ev_fn (ea_cons (ev_var rfl) (ea_cons (ev_lenL (ev_var rfl) (e4 l _ hx)) (ea_cons (ev_var rfl) ea_nil))) fun H5 e Q E r => ⟨v, xs.length, x, namesD ns, row, rfl, (hv.ex e4).ex e, (hd2.ex e4).ex e, ?_, ?_, ?_, r⟩))) rfl) (fun hf => Bool.noConfusion hf) fun _ H5 e5 => ⟨_, _, rfl, e4.trans e5⟩
      · unfold namesD
        rw [List.length_map]
        exact rok.len row hm
      · rw [rok.len row hm]
        have := ok.hi
        omega
      · intro p hp
        rw [hlen]
        exact rok.ent row hm p hp
    · obtain ⟨y1, y2, rfl, e3⟩ := p
      refine q_drop (ev_fn (ea_cons (ev_var rfl) ea_nil) fun H4 e Q E r => ⟨_, ns, rfl, (hv.ex e3).ex e, ok.hi, r⟩) fun H4 e4 => ?_
      refine s_when (b := false) (et_is (et_test (ev_op (ev_lenL (ev_var rfl) ((e3.trans e4) l _ hx)) ev_c (rv_b (z := .bl false) ?_))) rfl) (fun hf => Bool.noConfusion hf) fun _ H5 e5 => q H5 ((e3.trans e4).trans e5)
      exact congrArg V.bl (decide_eq_false (by have := rok.hi; omega))
end
end SF
set_option Elab.async false
set_option linter.all false
set_option maxRecDepth 100000
set_option maxHeartbeats 4000000
namespace SF
open PySem PySem.Spec PyProof.Rows L2 Evl
section
variable {P : Program} {w : World} {K : PySem.W.Frag} {mg : Str → Option Value} {base : Heap}

/-! ### Parts, Thing -/
def spPartsInit (K : PySem.W.Frag) : Sp := fun vs H Q _ => ∃ G x dx dv rv ns rs, vs = [.ref x, dv, rv] ∧ Ex G H ∧ G x = none ∧ H x = some (.ins (He.ga K "Parts") dx []) ∧ Dx G dv (.list (namesD ns)) ∧ Dx G rv (rowsL rs) ∧ ns.length ≤ 4 ∧ rs.length ≤ 8 ∧ (∀ r ∈ rs, r.length ≤ 4) ∧
  RetInit (He.ga K "Parts") "own_deeds" "own_rows" (DeedsAt ns) (fun v H => Dx H v (rowsT rs)) G H x dx Q
theorem ex_nw {G H H1 : Hp} (e : Ex G H) (e1 : Ex H H1) : Ex G (Nw G H H1) := nw_base (e.trans e1)
abbrev N_Parts__init : List Str := ["self", "deeds", "rows", "answer", "later", "row"]
theorem sc_Parts__init : FnScope N_Parts__init ["self", "deeds", "rows"] (defScope (inClass (topS 32) 0)) := ⟨rfl, rfl, rfl, by decide +kernel, rfl, by decide +kernel, by decide +kernel⟩
theorem mn_Parts__init (T : Txt K mg) : Mn P w K mg base 1 "Parts" "__init__" ["self", "deeds", "rows"] (spPartsInit K) := by
  refine mn_of T.i_Parts_init sc_Parts__init (fun _ _ _ _ _ _ us hl => match us, hl with | [_, _, _], _ => rfl) (by rintro vs H Q E ⟨G, x, dx, dv, rv, ns, rs, rfl, _⟩; rfl) (fun f cdv A outer s H vs Q E hr h => ?_)
  have nd := sc_Parts__init.nd
  refine ⟨_, (pss_cons (ps_fld (pv 0) (pe_callTy (call_tupleFz K rfl) (by rfl) T.z_tuple (by decide +kernel) (pa_cons (pv 1) pa_nil)) (by rfl))
      (pss_one (ps_fld (pv 0) (pe_callTy (call_tupleK K rfl) (by rfl) T.z_tuple (by decide +kernel) (pa_cons (pe_lc (own := [("row", 5)]) (by rfl) nd (pi_listK K rfl (pv 2)) (blkOk_by (own := [("row", 5)]) (N := N_Parts__init) (sc := (defScope (inClass (topS 32) 0))) (by decide +kernel)) (fun _ _ _ _ _ => (pg_name (i := 5) nd rfl (by first | exact Or.inl rfl | exact Or.inr rfl))) (fun _ _ _ _ _ => pts_nil) (fun _ _ _ _ _ => (pe_callTy (call_tupleK K rfl) (by rfl) T.z_tuple (by decide +kernel) (pa_cons (pe_lc (own := [("answer", 3), ("later", 4)]) (by rfl) nd (pi_listK K rfl (pv 5)) (blkOk_in (own := [("answer", 3), ("later", 4)]) N_Parts__init (defScope (inClass (topS 32) 0)) rfl rfl (by decide +kernel)) (fun _ _ _ _ _ => (pg_tupK K rfl 2 (by rfl) (pgs_cons (pg_name (i := 3) nd rfl (by first | exact Or.inl rfl | exact Or.inr rfl)) (pgs_cons (pg_name (i := 4) nd rfl (by first | exact Or.inl rfl | exact Or.inr rfl)) pgs_nil)))) (fun _ _ _ _ _ => pts_nil) (fun _ _ _ _ _ => (pe_tup (pa_cons (pv 3) (pa_cons (pv 4) pa_nil))))) pa_nil)))) pa_nil)) (by rfl)))), ?_⟩
  obtain ⟨G, x, dx, dv, rv, ns, rs, rfl, eG, hG, hx, hd, hr0, hn, hm, hm2, q⟩ := h
  obtain ⟨l, xs, rfl, hl, al⟩ := dx_lst hr0
  have hxs : xs.length = rs.length := by rw [al.length, List.length_map]
  refine q_fld (P := DeedsAt ns) up_deeds (ed_tupleFz (ed_ev (ev_var rfl) hd)) eG (ev_var rfl) hx T.c_Parts T.n_Parts_own_deeds (by show 0 < 1000; omega) fun u H1 e1 p1 => ?_
  have b1 : Eb x H (upd H1 x (.ins (He.ga K "Parts") dx [("own_deeds", u)])) := (Eb.of e1).trans Eb.upd
  have eG1 : Ex G (upd H1 x (.ins (He.ga K "Parts") dx [("own_deeds", u)])) := b1.base eG hG
  refine s_fld (P := fun v H => Dx H v (rowsT rs)) up_dx (ed_tupleL (ed_lp (lp_list (fun _ => true) (fun i v H => Dx H v (rowT (rs.getD i []))) (fun _ => up_dx) (ev_var rfl) hl (by omega) fun i y hi => turn_name (fun _ => rfl) ?_) fun ys h a => ?_)) eG1 (ev_var rfl) upd_same T.c_Parts T.n_Parts_own_rows (by show 1 < 1000; omega) fun v H2 e2 p2 => ?_
  · obtain ⟨d, hd1, hd2⟩ := al.at' hi
    rw [List.getElem?_map] at hd1
    obtain ⟨row, hrow, rfl⟩ := Option.map_eq_some_iff.mp hd1
    have eg : rs.getD i [] = row := by rw [List.getD_eq_getElem?_getD, hrow]; rfl
    rw [eg]
    obtain ⟨l2, ys, rfl, hl2, al2⟩ := dx_lst hd2
    refine ed_tupleL (ed_lp (lp_list (fun _ => true) (fun i v H => Dx H v (entD (row.getD i (0, 0)))) (fun _ => up_dx) (ev_var rfl) hl2 ?_ fun j y hj => ?_) fun zs h a => ?_)
    · rw [al2.length, List.length_map]
      have := hm2 row (List.mem_of_getElem? hrow)
      omega
    · obtain ⟨d2, hd3, hd4⟩ := al2.at' hj
      rw [List.getElem?_map] at hd3
      obtain ⟨en, hen, rfl⟩ := Option.map_eq_some_iff.mp hd3
      have eg2 : row.getD j (0, 0) = en := by rw [List.getD_eq_getElem?_getD, hen]; rfl
      rw [eg2]
      obtain ⟨l3, zs, rfl, hl3, al3⟩ := dx_tup hd4
      cases al3 with
      | cons h1 t1 =>
        cases t1 with
        | cons h2 t2 =>
          cases t2
          intro H3 e3 R R0 r _
          refine ⟨l3, _, rfl, st_of (e3 l3 _ hl3), rfl, _, _, rfl, _, _, rfl, rfl, rfl, ?_⟩
          exact ed_tup (ed_cons (ed_ev (ev_var rfl) h1) (ed_cons (ed_ev (ev_var rfl) h2) ed_nil)) (by show 2 ≤ 100000; decide) H3 e3 R fun y H4 e4 p => r rfl y H4 e4 p
    · have z := a.dx (ds := fun i => entD (row.getD i (0, 0)))
      rw [ixs_all, al2.length, List.length_map] at z
      have e5 : (List.range row.length).map (fun i => entD (row.getD i (0, 0))) = row.map entD := by
        apply List.ext_getElem?
        intro i
        rw [List.getElem?_map, List.getElem?_map]
        by_cases h : i < row.length
        · rw [List.getElem?_range h, List.getElem?_eq_getElem h]
          simp [List.getD_eq_getElem?_getD, List.getElem?_eq_getElem h]
        · rw [List.getElem?_eq_none (by simp; omega), List.getElem?_eq_none (by omega)] <;> rfl
      rw [e5] at z
      exact z
  · have z := a.dx (ds := fun i => rowT (rs.getD i []))
    rw [ixs_all, hxs] at z
    have e5 : (List.range rs.length).map (fun i => rowT (rs.getD i [])) = rs.map rowT := by
      apply List.ext_getElem?
      intro i
      rw [List.getElem?_map, List.getElem?_map]
      by_cases h : i < rs.length
      · rw [List.getElem?_range h, List.getElem?_eq_getElem h]
        simp [List.getD_eq_getElem?_getD, List.getElem?_eq_getElem h]
      · rw [List.getElem?_eq_none (by simp; omega), List.getElem?_eq_none (by omega)] <;> rfl
    rw [e5] at z
    exact z
  · refine q _ u v (b1.trans ((Eb.of e2).trans Eb.upd)) upd_same ?_ ?_
    · exact up_deeds _ _ _ (nw_eb ((Eb.upd.trans (Eb.of e2)).trans Eb.upd) hG hx) p1
    · have p3 := p2.ex (nw_eb (a := x) (Eb.upd (o := .ins (He.ga K "Parts") dx [("own_deeds", u), ("own_rows", v)])) hG upd_same)
      exact p3.ex (nw_dom (dom_eb b1 upd_same))

def spThingInit (K : PySem.W.Frag) : Sp := fun vs H Q _ => ∃ G x dx dv rv ns rs, vs = [.ref x, dv, rv] ∧ Ex G H ∧ G x = none ∧ H x = some (.ins (He.ga K "Thing") dx []) ∧ Dx G dv (.list (namesD ns)) ∧ Dx G rv (rowsL rs) ∧ NamesOk ns ∧ RowsOk ns.length rs ∧
  RetInit (He.ga K "Thing") "own_deeds" "own_rows" (DeedsAt ns) (fun v H => Dx H v (rowsT rs)) G H x dx Q
abbrev N_Thing__init : List Str := ["self", "deeds", "rows", "parts"]
theorem sc_Thing__init : FnScope N_Thing__init ["self", "deeds", "rows"] (defScope (inClass (topS 33) 0)) := ⟨rfl, rfl, rfl, by decide +kernel, rfl, by decide +kernel, by decide +kernel⟩
theorem mn_Thing__init (T : Txt K mg) (D_want_parts : Dn P w K mg base 7 "want_parts" ["deeds", "rows"] spWantParts) (D_Parts : Mn P w K mg base 1 "Parts" "__init__" ["self", "deeds", "rows"] (spPartsInit K)) : Mn P w K mg base 8 "Thing" "__init__" ["self", "deeds", "rows"] (spThingInit K) := by
  refine mn_of T.i_Thing_init sc_Thing__init (fun _ _ _ _ _ _ us hl => match us, hl with | [_, _, _], _ => rfl) (by rintro vs H Q E ⟨G, x, dx, dv, rv, ns, rs, rfl, _⟩; rfl) (fun f cdv A outer s H vs Q E hr h => ?_)
  have nd := sc_Thing__init.nd
  refine ⟨_, (pss_cons (ps_if (pt_not (pt_val (pe_callB (call_isiK' K rfl) (by rfl) T.z_isinstance (by decide +kernel) (pa_cons (pv 1) (pa_cons (pe_gcls (by rfl) T.g_Parts) pa_nil))))) (pss_one (ps_expr (pe_fn D_want_parts hr (by decide) (by rfl) (pa_cons (pv 1) (pa_cons (pv 2) pa_nil))))) pss_nil)
      (pss_cons (ps_set (i := 3) nd rfl (.inl rfl) (pe_ifExp (pt_val (pe_callB (call_isiK' K rfl) (by rfl) T.z_isinstance (by decide +kernel) (pa_cons (pv 1) (pa_cons (pe_gcls (by rfl) T.g_Parts) pa_nil)))) (pv 1) (pe_mk D_Parts T.m_Parts T.g_Parts hr (by decide) (by rfl) (pa_cons (pv 1) (pa_cons (pv 2) pa_nil)))))
      (pss_cons (ps_fld (pv 0) (pe_fldK K rfl (pv 3) rfl) (by rfl))
      (pss_one (ps_fld (pv 0) (pe_fldK K rfl (pv 3) rfl) (by rfl)))))), ?_⟩
  obtain ⟨G, x, dx, dv, rv, ns, rs, rfl, eG, hG, hx, hd, hr0, ok, rok, q⟩ := h
  refine q_when (b := true) (et_is (et_not (et_B (ev_isiC (ev_var rfl) (hd.ex eG) T.k_list_Parts))) rfl) (fun _ H1 e1 => ?_) (fun hf => Bool.noConfusion hf)
  refine s_drop (ev_fn (ea_cons (ev_var rfl) (ea_cons (ev_var rfl) ea_nil)) fun H2 e Q E r => ⟨_, _, ns, rs, rfl, ((hd.ex eG).ex e1).ex e, ((hr0.ex eG).ex e1).ex e, ok, rok, r⟩) fun H2 e2 => ?_
  have e3 := eG.trans (e1.trans e2)
  refine q_asgP (G := G) (P := fun v H => ∃ a, v = .ref a ∧ TwoP (He.ga K "Parts") "own_deeds" "own_rows" (DeedsAt ns) (fun v H => Dx H v (rowsT rs)) a H) (ep_ifF (et_B (ev_isiC (ev_var rfl) hd T.k_list_Parts)) (fun v H H' e p => let ⟨a, h1, h2⟩ := p; ⟨a, h1, h2.ex up_deeds up_dx e⟩)
    (ep_makeTwo up_deeds up_dx (ea_cons (ev_var rfl) (ea_cons (ev_var rfl) ea_nil)) fun H3 y dy Q e hy hy2 r => ⟨G, y, dy, dv, rv, ns, rs, rfl, e, hy, hy2, hd, hr0, ok.hi, rok.hi, fun r hr => by rw [rok.len r hr]; exact ok.hi, r⟩)) e3 fun y H3 e4 p => ?_
  obtain ⟨a, rfl, dy, u, v, ha, hu, hv⟩ := p
  have hx3 : H3 x = some (.ins (He.ga K "Thing") dx []) := e4 _ _ ((e1.trans e2) _ _ hx)
  have G3 : Ex G H3 := e3.trans e4
  -- the base: what the Parts have
  have eN : Ex (Nw G H2 H3) H3 := nw_sub
  have hN : Nw G H2 H3 x = none := nw_none hG ((e1.trans e2) _ _ hx)
  have eGN : Ex G (Nw G H2 H3) := nw_base G3
  refine q_fld (G := Nw G H2 H3) (P := DeedsAt ns) up_deeds (ep_ev (ev_fld (ev_var rfl) ha T.c_Parts T.n_Parts_own_deeds rfl) fun _ e => up_deeds _ _ _ e hu) eN (ev_var rfl) hx3 T.c_Thing T.n_Thing_own_deeds (by show 0 < 1000; omega) fun u2 H4 e5 p1 => ?_
  have b1 : Eb x H3 (upd H4 x (.ins (He.ga K "Thing") dx [("own_deeds", u2)])) := (Eb.of e5).trans Eb.upd
  refine s_fld (G := Nw G H2 H3) (P := fun v H => Dx H v (rowsT rs)) up_dx (ed_ev (ev_fld (ev_var rfl) ha T.c_Parts T.n_Parts_own_rows rfl) hv) (b1.base eN hN) (ev_var rfl) upd_same T.c_Thing T.n_Thing_own_rows (by show 1 < 1000; omega) fun v2 H5 e6 p2 => ?_
  have e13 : Ex H H3 := (e1.trans e2).trans e4
  have dm : ∀ b, H3 b = none → H b = none := fun b hb => fresh_back e13 hb
  have key : ∀ H6, Ex (Nw (Nw G H2 H3) H3 H6) (Nw G H H6) := fun H6 => fun b o hb => by
    rcases nw_cases (Nw G H2 H3) H3 H6 b with z | ⟨z, y⟩
    · rw [z] at hb; cases hb
    · rw [z] at hb
      rcases y with ⟨w, y⟩ | y
      · rcases nw_cases G H2 H3 b with z2 | ⟨_, y2⟩
        · rw [z2] at y; cases y
        · rcases y2 with ⟨w2, y2⟩ | y2
          · rw [nw_old y2]; exact hb
          · rw [nw_free (fresh_back (e1.trans e2) y2)]; exact hb
      · rw [nw_free (dm b y)]; exact hb
  refine q _ u2 v2 (((Eb.of e13).trans b1).trans ((Eb.of e6).trans Eb.upd)) upd_same ?_ ?_
  · exact up_deeds _ _ _ (key _) (up_deeds _ _ _ (nw_eb ((Eb.upd.trans (Eb.of e6)).trans Eb.upd) hN hx3) p1)
  · have p3 := p2.ex (nw_eb (a := x) (Eb.upd (o := .ins (He.ga K "Thing") dx [("own_deeds", u2), ("own_rows", v2)])) hN upd_same)
    exact (p3.ex (nw_dom (dom_eb b1 upd_same))).ex (key _)
end
end SF
set_option Elab.async false
set_option linter.all false
set_option maxRecDepth 100000
set_option maxHeartbeats 4000000
namespace SF
open PySem PySem.Spec PyProof.Rows L2 Evl
section
variable {P : Program} {w : World} {K : PySem.W.Frag} {mg : Str → Option Value} {base : Heap}

/-! ### what a run of deeds is -/
def natsD (ns : List Nat) : List PyData := ns.map fun n : Nat => .int (n : Int)
def natsV (ns : List Nat) : List V := ns.map fun n : Nat => .int (n : Int)
def stepF (rs : List (List (Int × Int))) (s p : Nat) : Int × Int := (rs.getD s []).getD p (0, 0)
def runF (rs : List (List (Int × Int))) : Nat → List Nat → List Int × Nat
  | s, [] => ([], s)
  | s, p :: ps => ((stepF rs s p).1 :: (runF rs (stepF rs s p).2.toNat ps).1, (runF rs (stepF rs s p).2.toNat ps).2)
def runD (r : List Int × Nat) : PyData := .tuple [.list (r.1.map .int), .int (r.2 : Int)]
theorem natsV_dx (H : Hp) : ∀ ns : List Nat, DxAll H (natsV ns) (natsD ns)
  | [] => .nil
  | n :: r => .cons (.int _) (natsV_dx H r)
theorem dx_nats {H : Hp} : ∀ {ns : List Nat} {vs : List V}, DxAll H vs (natsD ns) → vs = natsV ns
  | [], _, h => by cases h; rfl
  | n :: r, _, h => by
    cases h with
    | cons h t => rw [dx_int h, dx_nats t]; rfl
theorem natsV_at {ns : List Nat} {i n : Nat} (h : ns[i]? = some n) : (natsV ns)[i]? = some (.int (n : Int)) := by
  unfold natsV
  rw [List.getElem?_map, h]
  rfl
theorem at_natsV {ns : List Nat} {i : Nat} {x : V} (h : (natsV ns)[i]? = some x) : ∃ n, ns[i]? = some n ∧ x = .int (n : Int) := by
  unfold natsV at h
  rw [List.getElem?_map] at h
  obtain ⟨n, h1, h2⟩ := Option.map_eq_some_iff.mp h
  exact ⟨n, h1, h2.symm⟩
theorem natsV_len (ns : List Nat) : (natsV ns).length = ns.length := List.length_map _
theorem natsD_len (ns : List Nat) : (natsD ns).length = ns.length := List.length_map _
theorem runF_snoc (rs : List (List (Int × Int))) (p : Nat) : ∀ (ps : List Nat) (s : Nat), runF rs s (ps ++ [p]) = ((runF rs s ps).1 ++ [(stepF rs (runF rs s ps).2 p).1], (stepF rs (runF rs s ps).2 p).2.toNat)
  | [], s => rfl
  | q :: ps, s => by
    show ((stepF rs s q).1 :: (runF rs (stepF rs s q).2.toNat (ps ++ [p])).1, (runF rs (stepF rs s q).2.toNat (ps ++ [p])).2) = _
    rw [runF_snoc rs p ps]
    rfl
theorem runF_len (rs : List (List (Int × Int))) : ∀ (ps : List Nat) (s : Nat), (runF rs s ps).1.length = ps.length
  | [], s => rfl
  | q :: ps, s => by
    show (runF rs (stepF rs s q).2.toNat ps).1.length + 1 = ps.length + 1
    rw [runF_len rs ps]
theorem step_at_ok {n : Nat} {rs : List (List (Int × Int))} (ok : RowsOk n rs) {s p : Nat} (hs : s < rs.length) (hp : p < n) : ∃ row, rs[s]? = some row ∧ row[p]? = some (stepF rs s p) ∧ 0 ≤ (stepF rs s p).2 ∧ (stepF rs s p).2.toNat < rs.length := by
  have h1 : rs[s]? = some rs[s] := List.getElem?_eq_getElem hs
  have hm : rs[s] ∈ rs := List.getElem_mem hs
  have hl : p < rs[s].length := by rw [ok.len _ hm]; exact hp
  have h2 : rs[s][p]? = some rs[s][p] := List.getElem?_eq_getElem hl
  have e : stepF rs s p = rs[s][p] := by
    have e1 : rs.getD s [] = rs[s] := by rw [List.getD_eq_getElem?_getD, h1, Option.getD_some]
    unfold stepF
    rw [e1, List.getD_eq_getElem?_getD, h2, Option.getD_some]
  have en := ok.ent _ hm _ (List.getElem_mem hl)
  refine ⟨_, h1, by rw [h2, e], ?_, ?_⟩
  · rw [e]; exact en.l0
  · rw [e]; have := en.l0; have := en.ln; omega
theorem runF_ok {n : Nat} {rs : List (List (Int × Int))} (ok : RowsOk n rs) : ∀ (ps : List Nat) (s : Nat), s < rs.length → (∀ p ∈ ps, p < n) → (runF rs s ps).2 < rs.length
  | [], s, hs, _ => hs
  | q :: ps, s, hs, hp => by
    obtain ⟨_, _, _, _, h⟩ := step_at_ok ok hs (hp q List.mem_cons_self)
    exact runF_ok ok ps _ h fun p h => hp p (List.mem_cons_of_mem _ h)
/-! ### things -/
abbrev ThAt (K : PySem.W.Frag) (t : Addr) (ns : List Str) (rs : List (List (Int × Int))) (H : Hp) : Prop := TwoP (He.ga K "Thing") "own_deeds" "own_rows" (DeedsAt ns) (fun v H => Dx H v (rowsT rs)) t H
def spIsState (K : PySem.W.Frag) : Sp := fun vs H Q _ => ∃ t, ∃ s : Nat, ∃ ns rs, vs = [.ref t, .int s] ∧ ThAt K t ns rs H ∧ s < rs.length ∧ RetV (.bl true) H Q
abbrev N_is_state : List Str := ["thing", "value"]
theorem sc_is_state : FnScope N_is_state ["thing", "value"] (defScope (topS 35)) := ⟨rfl, rfl, rfl, by decide +kernel, rfl, by decide +kernel, by decide +kernel⟩
theorem dn_is_state (T : Txt K mg) (D_is_below : Dn P w K mg base 3 "is_below" ["value", "limit"] spIsBelow) : Dn P w K mg base 4 "is_state" ["thing", "value"] (spIsState K) := by
  refine dn_of T.f_is_state sc_is_state (fun _ _ _ _ _ _ us hl => match us, hl with | [_, _], _ => rfl) (by rintro vs H Q E ⟨a, b, c, d, rfl, _⟩; rfl) (fun f cdv A outer s H vs Q E hr h => ?_)
  have nd := sc_is_state.nd
  refine ⟨_, (pss_one (ps_ret (pe_fn D_is_below hr (by decide) (by rfl) (pa_cons (pv 1) (pa_cons (pe_callB (call_lenK K rfl) (by rfl) T.z_len (by decide +kernel) (pa_cons (pe_fldK K rfl (pv 0) rfl) pa_nil)) pa_nil))))), ?_⟩
  obtain ⟨t, s', ns, rs, rfl, ht, hs, q⟩ := h
  obtain ⟨dx, u, v, ha, hu, hv⟩ := id ht
  obtain ⟨a, xs, rfl, hx, al⟩ := dx_tup hv
  refine s_ret (ev_is (ev_fn (ea_cons (ev_var rfl) (ea_cons (ev_lenT (ev_fld (ev_var rfl) ha T.c_Thing T.n_Thing_own_rows rfl) hx) ea_nil)) fun H1 e Q E r => ⟨_, .int s', xs.length, rfl, .int _, r⟩) ?_) fun H1 e => q H1 e
  show V.bl (decide (0 ≤ (s' : Int)) && decide ((s' : Int) < xs.length)) = .bl true
  rw [decide_eq_true (by omega), decide_eq_true (by rw [al.length, List.length_map]; omega)] <;> rfl
def spIsDeed (K : PySem.W.Frag) : Sp := fun vs H Q _ => ∃ t z ns rs, vs = [.ref t, .str z] ∧ ThAt K t ns rs H ∧ z ∈ ns ∧ RetV (.bl true) H Q
abbrev N_is_deed : List Str := ["thing", "value"]
theorem sc_is_deed : FnScope N_is_deed ["thing", "value"] (defScope (topS 36)) := ⟨rfl, rfl, rfl, by decide +kernel, rfl, by decide +kernel, by decide +kernel⟩
theorem dn_is_deed (T : Txt K mg) : Dn P w K mg base 1 "is_deed" ["thing", "value"] (spIsDeed K) := by
  refine dn_of T.f_is_deed sc_is_deed (fun _ _ _ _ _ _ us hl => match us, hl with | [_, _], _ => rfl) (by rintro vs H Q E ⟨a, b, c, d, rfl, _⟩; rfl) (fun f cdv A outer s H vs Q E hr h => ?_)
  have nd := sc_is_deed.nd
  refine ⟨_, (pss_one (ps_ret (pe_and (pe_callB (call_isiK' K rfl) (by rfl) T.z_isinstance (by decide +kernel) (pa_cons (pv 1) (pa_cons (pe_ty "str" (by rfl) T.z_str (by decide +kernel)) pa_nil))) (pe_one (pe_cmpR (op_inK K rfl) (pv 1) (pe_fldK K rfl (pv 0) rfl) (by rfl)))))), ?_⟩
  obtain ⟨t, z, ns, rs, rfl, ht, hz, q⟩ := h
  obtain ⟨dx, u, v, ha, hu, hv⟩ := id ht
  obtain ⟨a, o, rfl, hx, _, _⟩ := id hu
  refine s_ret (ev_is (ev_andV (b := true) (ev_str (d := .str z) (ev_var rfl) (.str z)) fun _ => ev_is (ev_op (ev_var rfl) (ev_fld (ev_var rfl) ha T.c_Thing T.n_Thing_own_deeds rfl) (rv_isT hu.sq rfl (flat_strs _))) ?_) rfl) fun H1 e => q H1 e
  rw [inV_strs, decide_eq_true hz]
def spWantState (K : PySem.W.Frag) : Sp := fun vs H Q _ => ∃ t, ∃ s : Nat, ∃ ns rs, vs = [.ref t, .int s] ∧ ThAt K t ns rs H ∧ s < rs.length ∧ RetV .non H Q
abbrev N_want_state : List Str := ["thing", "value"]
theorem sc_want_state : FnScope N_want_state ["thing", "value"] (defScope (topS 37)) := ⟨rfl, rfl, rfl, by decide +kernel, rfl, by decide +kernel, by decide +kernel⟩
theorem dn_want_state (T : Txt K mg) (D_is_state : Dn P w K mg base 4 "is_state" ["thing", "value"] (spIsState K)) : Dn P w K mg base 5 "want_state" ["thing", "value"] (spWantState K) := by
  refine dn_of T.f_want_state sc_want_state (fun _ _ _ _ _ _ us hl => match us, hl with | [_, _], _ => rfl) (by rintro vs H Q E ⟨a, b, c, d, rfl, _⟩; rfl) (fun f cdv A outer s H vs Q E hr h => ?_)
  have nd := sc_want_state.nd
  refine ⟨_, (pss_one (ps_if (pt_not (pt_val (pe_fn D_is_state hr (by decide) (by rfl) (pa_cons (pv 0) (pa_cons (pv 1) pa_nil))))) (pss_one ps_never) pss_nil)), ?_⟩
  obtain ⟨t, s', ns, rs, rfl, ht, hs, q⟩ := h
  exact s_when (b := false) (et_is (et_not (et_B (ev_fn (ea_cons (ev_var rfl) (ea_cons (ev_var rfl) ea_nil)) fun H1 e Q E r => ⟨_, s', ns, rs, rfl, ht.ex up_deeds up_dx e, hs, r⟩))) rfl) (fun hf => Bool.noConfusion hf) fun _ H1 e1 => q H1 e1
def spPlaceOf (K : PySem.W.Frag) : Sp := fun vs H Q _ => ∃ t z ns rs, ∃ j : Nat, vs = [.ref t, .str z] ∧ ThAt K t ns rs H ∧ ns.Nodup ∧ ns[j]? = some z ∧ RetV (.int j) H Q
abbrev N_place_of : List Str := ["thing", "deed"]
theorem sc_place_of : FnScope N_place_of ["thing", "deed"] (defScope (topS 39)) := ⟨rfl, rfl, rfl, by decide +kernel, rfl, by decide +kernel, by decide +kernel⟩
theorem dn_place_of (T : Txt K mg) : Dn P w K mg base 1 "place_of" ["thing", "deed"] (spPlaceOf K) := by
  refine dn_of T.f_place_of sc_place_of (fun _ _ _ _ _ _ us hl => match us, hl with | [_, _], _ => rfl) (by rintro vs H Q E ⟨a, b, c, d, e, rfl, _⟩; rfl) (fun f cdv A outer s H vs Q E hr h => ?_)
  have nd := sc_place_of.nd
  refine ⟨_, (pss_one (ps_ret (pe_bmF PySem.F.plainAttrs_tuple PySem.F.slot_tuple_index PySem.F.type_tuple_index (mt_tupixK K rfl) (pe_fldK K rfl (pv 0) rfl) (pa_cons (pv 1) pa_nil)))), ?_⟩
  obtain ⟨t, z, ns, rs, j, rfl, ht, nd, hz, q⟩ := h
  obtain ⟨dx, u, v, ha, hu, hv⟩ := id ht
  obtain ⟨a, o, rfl, hx, hc, hd⟩ := id hu
  refine s_ret (ev_bmF (ev_fld (ev_var rfl) ha T.c_Thing T.n_Thing_own_deeds rfl) (fun H1 e1 => ⟨a, o, _, rfl, e1 _ _ hx, hc, hd⟩) (ea_cons (ev_var rfl) ea_nil) fun H1 e1 Q q => ⟨a, ns, z, j, rfl, rfl, (up_deeds _ _ _ e1 hu).sq, hz, fun m hm hq => ?_, q⟩) fun H1 e1 => q H1 e1
  have := nd_ix nd hq hz
  omega
def spStepAt (K : PySem.W.Frag) : Sp := fun vs H Q _ => ∃ G t, ∃ s p : Nat, ∃ ns rs, vs = [.ref t, .int s, .int p] ∧ Ex G H ∧ ThAt K t ns rs G ∧ RowsOk ns.length rs ∧ s < rs.length ∧ p < ns.length ∧ RetD (entD (stepF rs s p)) G H Q
abbrev N_step_at : List Str := ["thing", "state", "place"]
theorem sc_step_at : FnScope N_step_at ["thing", "state", "place"] (defScope (topS 40)) := ⟨rfl, rfl, rfl, by decide +kernel, rfl, by decide +kernel, by decide +kernel⟩
theorem dn_step_at (T : Txt K mg) : Dn P w K mg base 1 "step_at" ["thing", "state", "place"] (spStepAt K) := by
  refine dn_of T.f_step_at sc_step_at (fun _ _ _ _ _ _ us hl => match us, hl with | [_, _, _], _ => rfl) (by rintro vs H Q E ⟨a, b, c, d, e, f, rfl, _⟩; rfl) (fun f cdv A outer s H vs Q E hr h => ?_)
  have nd := sc_step_at.nd
  refine ⟨_, (pss_one (ps_ret (pe_ix (ix_tupK K rfl) (pe_ix (ix_tupK K rfl) (pe_fldK K rfl (pv 0) rfl) (pv 1) (fun _ _ => rfl)) (pv 2) (fun _ _ => rfl)))), ?_⟩
  obtain ⟨G, t, s', p, ns, rs, rfl, eG, ht, ok, hs, hp, q⟩ := h
  obtain ⟨dx, u, v, ha, hu, hv⟩ := id ht
  obtain ⟨row, h1, h2, _, _⟩ := step_at_ok ok hs hp
  refine s_retP (P := fun v H => Dx H v (entD (stepF rs s' p))) (ed_ixT (ds := row.map entD) (ed_ixT (ds := rs.map rowT) (d := rowT row) (ed_ev (ev_fld (ev_var rfl) ha T.c_Thing T.n_Thing_own_rows rfl) hv) (ev_var rfl) ?_) (ev_var rfl) ?_) eG q
  · rw [List.getElem?_map, h1] <;> rfl
  · rw [List.getElem?_map, h2] <;> rfl
def spRunOf (K : PySem.W.Frag) : Sp := fun vs H Q _ => ∃ G t, ∃ s : Nat, ∃ pv ps ns rs, vs = [.ref t, .int s, pv] ∧ Ex G H ∧ ThAt K t ns rs G ∧ Dx G pv (.list (natsD ps)) ∧ ps.length ≤ 1000 ∧ RowsOk ns.length rs ∧ s < rs.length ∧ (∀ p ∈ ps, p < ns.length) ∧ RetD (runD (runF rs s ps)) G H Q
abbrev N_run_of : List Str := ["thing", "state", "places", "here", "answers", "place", "answer"]
theorem sc_run_of : FnScope N_run_of ["thing", "state", "places"] (defScope (topS 41)) := ⟨rfl, rfl, rfl, by decide +kernel, rfl, by decide +kernel, by decide +kernel⟩
theorem dn_run_of (T : Txt K mg) (D_step_at : Dn P w K mg base 1 "step_at" ["thing", "state", "place"] (spStepAt K)) : Dn P w K mg base 2 "run_of" ["thing", "state", "places"] (spRunOf K) := by
  refine dn_of T.f_run_of sc_run_of (fun _ _ _ _ _ _ us hl => match us, hl with | [_, _, _], _ => rfl) (by rintro vs H Q E ⟨a, b, c, d, e, f, g, rfl, _⟩; rfl) (fun f cdv A outer s H vs Q E hr h => ?_)
  have nd := sc_run_of.nd
  refine ⟨_, (pss_cons (ps_par (i := 3) (j := 4) (by rfl) nd rfl rfl (by decide) rfl rfl (pa_cons (pv 1) (pa_cons (pe_lst pa_nil) pa_nil)) (by rfl))
      (pss_cons (ps_for PassesOwn.never rfl (pi_listK K rfl (pv 2)) (pg_name (i := 5) nd rfl (by first | exact Or.inl rfl | exact Or.inr rfl)) (pss_cons (ps_asg (pe_fn D_step_at hr (by decide) (by rfl) (pa_cons (pv 0) (pa_cons (pv 3) (pa_cons (pv 5) pa_nil)))) (pg_tupK K rfl 2 (by rfl) (pgs_cons (pg_name (i := 6) nd rfl (by first | exact Or.inl rfl | exact Or.inr rfl)) (pgs_cons (pg_name (i := 3) nd rfl (by first | exact Or.inl rfl | exact Or.inr rfl)) pgs_nil))))
      (pss_one (ps_expr (pe_bmK K rfl PySem.F.plainAttrs_list PySem.F.slot_list_append PySem.F.type_list_append mt_append (pv 4) (pa_cons (pv 6) pa_nil))))))
      (pss_one (ps_ret (pe_tup (pa_cons (pv 4) (pa_cons (pv 3) pa_nil))))))), ?_⟩
  obtain ⟨G, t, s', pv, ps, ns, rs, rfl, eG, ht, hp, hz, ok, hs, hps, q⟩ := h
  obtain ⟨l0, xs, rfl, hx, al⟩ := dx_lst hp
  have exs : xs = natsV ps := dx_nats al
  subst exs
  refine ⟨_, rfl, Nat.zero_le _, fun l hl => ⟨_, _, rfl, ?_⟩⟩
  have e1 : Ex H (upd H l (.lst [])) := Ex.new hl
  refine q_forLn (ev_var rfl) (sq_of (e1 _ _ (eG _ _ hx))) (fun i σ' H' => ∃ y5 y6, σ' = [some (.ref t), some (.int s'), some (.ref l0), some (.int ((runF rs s' (ps.take i)).2 : Nat)), some (.ref l), y5, y6] ∧ Ex H H' ∧ H' l = some (.lst ((runF rs s' (ps.take i)).1.map V.int)))
    (fun H2 e2 => ⟨_, _, rfl, e1.trans e2, e2 _ _ upd_same⟩) (fun i σ' H' _ p => let ⟨_, _, _, e, _⟩ := p; sq_of (e _ _ (eG _ _ hx))) (fun i x σ' H' hi p => ?_) (fun σ' H' p => ?_)
  · obtain ⟨y5, y6, rfl, e2, hl2⟩ := p
    obtain ⟨n, hn, rfl⟩ := at_natsV hi
    have hlt : i < ps.length := (List.getElem?_eq_some_iff.mp hn).1
    have hn2 : n < ns.length := hps n (List.mem_of_getElem? hn)
    have hst : (runF rs s' (ps.take i)).2 < rs.length := runF_ok ok _ _ hs fun p h => hps p (List.mem_of_mem_take h)
    obtain ⟨row, h1, h2, h3, h4⟩ := step_at_ok ok hst hn2
    have etake : ps.take (i + 1) = ps.take i ++ [n] := by rw [List.take_add_one, hn] <;> rfl
    refine q_pair (G := G) (ep_call up_dx (ea_cons (ev_var rfl) (ea_cons (ev_var rfl) (ea_cons (ev_var rfl) ea_nil))) fun H3 e Q r => ⟨G, t, _, n, ns, rs, rfl, e, ht, ok, hst, hn2, r⟩) (eG.trans e2) fun x y H3 e3 hx3 hy3 => ?_
    cases dx_int hx3
    cases dx_int hy3
    refine s_app (hl := e3 _ _ hl2) (ev_var rfl) (ev_var rfl) ?_ fun H4 e4 => ⟨some (.int n), some (.int (stepF rs (runF rs s' (ps.take i)).2 n).1), ?_, Ex.mut ((e2.trans e3).trans e4) hl, ?_⟩
    · rw [List.length_map, runF_len, List.length_take]
      omega
    · rw [etake, runF_snoc]
      show [some (V.ref t), some (.int s'), some (.ref l0), some (.int (stepF rs (runF rs s' (ps.take i)).2 n).2), some (.ref l), _, _] = [some (V.ref t), some (.int s'), some (.ref l0), some (.int ((stepF rs (runF rs s' (ps.take i)).2 n).2.toNat : Nat)), some (.ref l), _, _]
      rw [Int.toNat_of_nonneg h3]
    · rw [upd_same, etake, runF_snoc, List.map_append]
      rfl
  · obtain ⟨y5, y6, rfl, e2, hl2⟩ := p
    have et : ps.take (natsV ps).length = ps := by rw [natsV_len, List.take_length]
    rw [et] at hl2 ⊢
    -- the list is new: it stands in the base of what is handed back
    have hb : Nw G H H' l = some (.lst ((runF rs s' ps).1.map V.int)) := by rw [nw_free hl]; exact hl2
    refine s_retP (G := Nw G H H') (P := fun v H => Dx H v (runD (runF rs s' ps))) (ed_tup (ed_cons (ed_ev (ev_var rfl) (.lst hb (ints_dx _))) (ed_cons (ed_ev (ev_var rfl) (.int _)) ed_nil)) (by show 2 ≤ 100000; decide)) nw_sub fun v H3 e3 hv => ?_
    exact q v H3 (e2.trans e3) (hv.ex (nw_call e2))
end
end SF
set_option Elab.async false
set_option linter.all false
set_option maxRecDepth 100000
set_option maxHeartbeats 4000000
namespace SF
open PySem PySem.Spec PyProof.Rows L2 Evl
section
variable {P : Program} {w : World} {K : PySem.W.Frag} {mg : Str → Option Value} {base : Heap}

/-! ### layouts -/
structure Plan where
  ns : List Str
  rs : List (List (Int × Int))
  s : Nat
  near : List Nat
  far : List Nat
structure PlanOk (p : Plan) : Prop where
  names : NamesOk p.ns
  rows : RowsOk p.ns.length p.rs
  st : p.s < p.rs.length
  ne1 : p.near ≠ []
  ne2 : p.far ≠ []
  lt1 : ∀ x ∈ p.near, x < p.ns.length
  lt2 : ∀ x ∈ p.far, x < p.ns.length
  le : p.near.length + p.far.length ≤ 5
  so1 : p.near.Pairwise (· ≤ ·)
  so2 : p.far.Pairwise (· ≤ ·)
def nameF (ns : List Str) (x : Nat) : Str := ns.getD x Str.empty
theorem nameF_at {ns : List Str} {x : Nat} (h : x < ns.length) : ns[x]? = some (nameF ns x) := by
  unfold nameF
  rw [List.getD_eq_getElem?_getD, List.getElem?_eq_getElem h] <;> rfl
def namesOf (ns : List Str) (xs : List Nat) : List Str := xs.map (nameF ns)
theorem nats_pw {ns : List Nat} (h : ns.Pairwise (· ≤ ·)) : (ns.map fun n : Nat => (n : Int)).Pairwise (· ≤ ·) := by
  rw [List.pairwise_map]
  exact h.imp fun {a b} z => by omega
theorem sorted_same {xs ys : List Int} (p : xs.Perm ys) (h1 : xs.Pairwise (· ≤ ·)) (h2 : ys.Pairwise (· ≤ ·)) : xs = ys := p.eq_of_pairwise (fun a b _ _ x y => Int.le_antisymm x y) h1 h2
theorem natsD_map (ns : List Nat) : natsD ns = (ns.map fun n : Nat => (n : Int)).map .int := by
  unfold natsD
  rw [List.map_map]
  rfl
section
variable {K : PySem.W.Frag} {σ : L2.St} {G : Hp} {tl : TE}
theorem ed_sorted {ns : List Nat} (h : EvD tl σ G (.list (natsD ns))) (so : ns.Pairwise (· ≤ ·)) (hz : ns.length < 64) : EvD (tCB (rSorted K) (tCons tl tNil)) σ G (.list (natsD ns)) := fun H1 e Q q =>
  h H1 e _ fun v H2 e2 hd => by
    obtain ⟨a, xs, rfl, hl, al⟩ := dx_lst hd
    rw [natsD_map] at al
    rw [dx_ints al] at hl
    refine ⟨a, _, rfl, sq_of (nw_sub a _ hl), by rw [List.length_map]; exact hz, fun ns' p pm ps hp => ?_⟩
    rw [sorted_same pm ps (nats_pw so)]
    refine q _ _ (e2.trans (Ex.new hp)) (.lst (nw_new e2 hp) ?_)
    rw [natsD_map]
    exact ints_dx _
end
def spWantTeam (K : PySem.W.Frag) : Sp := fun vs H Q _ => ∃ t v zs ns rs, vs = [.ref t, v] ∧ ThAt K t ns rs H ∧ Dx H v (.list (namesD zs)) ∧ zs ≠ [] ∧ (∀ z ∈ zs, z ∈ ns) ∧ zs.length ≤ 1000 ∧ RetV .non H Q
abbrev N_want_team_of : List Str := ["thing", "value", "deed"]
theorem sc_want_team_of : FnScope N_want_team_of ["thing", "value"] (defScope (topS 45)) := ⟨rfl, rfl, rfl, by decide +kernel, rfl, by decide +kernel, by decide +kernel⟩
theorem dn_want_team_of (T : Txt K mg) (D_is_list : Dn P w K mg base 1 "is_list" ["value"] spIsList) (D_is_deed : Dn P w K mg base 1 "is_deed" ["thing", "value"] (spIsDeed K)) : Dn P w K mg base 2 "want_team_of" ["thing", "value"] (spWantTeam K) := by
  refine dn_of T.f_want_team_of sc_want_team_of (fun _ _ _ _ _ _ us hl => match us, hl with | [_, _], _ => rfl) (by rintro vs H Q E ⟨a, b, c, d, e, rfl, _⟩; rfl) (fun f cdv A outer s H vs Q E hr h => ?_)
  have nd := sc_want_team_of.nd
  refine ⟨_, (pss_one (ps_if (PW.pt (pw_or (pt_not (pt_val (pe_fn D_is_list hr (by decide) (by rfl) (pa_cons (pv 1) pa_nil)))) (pw_or (pt_cmpR op_eq (pe_callB (call_lenK K rfl) (by rfl) T.z_len (by decide +kernel) (pa_cons (pv 1) pa_nil)) pe_int (nomark _)) (pw_or1 (pt_not (pt_val (pe_callB (call_allK K rfl rfl) (by rfl) T.z_all (by decide +kernel) (pa_cons (pe_lc (own := [("deed", 2)]) (by rfl) nd (pi_listK K rfl (pv 1)) (blkOk_by (own := [("deed", 2)]) (N := N_want_team_of) (sc := (defScope (topS 45))) (by decide +kernel)) (fun _ _ _ _ _ => (pg_name (i := 2) nd rfl (by first | exact Or.inl rfl | exact Or.inr rfl))) (fun _ _ _ _ _ => pts_nil) (fun _ _ _ _ _ => (pe_fn D_is_deed hr (by decide) (by rfl) (pa_cons (pv 0) (pa_cons (pv 2) pa_nil))))) pa_nil)))))))) (pss_one ps_never) pss_nil)), ?_⟩
  obtain ⟨t, v, zs, ns, rs, rfl, ht, hd, ne, hm, hz, q⟩ := h
  obtain ⟨l, xs, rfl, hx, al⟩ := dx_lst hd
  have exs : xs = zs.map V.str := dx_strs al
  refine s_when (b := false) (et_or' (a := false) (et_is (et_not (et_B (ev_fn (ea_cons (ev_var rfl) ea_nil) fun H1 e Q E r => ⟨_, _, rfl, hd.ex e, r⟩))) rfl) (fun _ => et_or' (a := false) (et_is (et_test (ev_op (ev_lenL (ev_var rfl) hx) ev_c (rv_eq rfl))) (b := false) ?_)
    (fun _ => et_is (et_not (et_B (ev_all (bs := List.replicate xs.length true) (lp_list (fun _ => true) (fun _ v _ => v = .bl true) (fun _ => up_s) (ev_var rfl) hx ?_ fun i x hi => turn_name (fun _ => rfl) (ep_ev (v := .bl true) ?_ fun _ _ => rfl)) fun ys h al => ?_))) (b := false) ?_) rfl) rfl) (fun hf => Bool.noConfusion hf) fun _ H1 e1 => q H1 e1
  · rw [exs, List.length_map]
    refine decide_eq_false fun z => ?_
    have : (zs.length : Int) = 0 := V.int.inj z
    exact ne (List.length_eq_zero_iff.mp (by omega))
  · rw [exs, List.length_map]
    omega
  · rw [exs, List.getElem?_map] at hi
    obtain ⟨z, hz, rfl⟩ := Option.map_eq_some_iff.mp hi
    exact ev_fn (ea_cons (ev_var rfl) (ea_cons (ev_var rfl) ea_nil)) fun H1 e Q E r => ⟨t, z, ns, rs, rfl, ht.ex up_deeds up_dx e, hm z (List.mem_of_getElem? hz), r⟩
  · rw [Al.eq (v := fun _ => V.bl true) al, ixs_all]
    apply List.ext_getElem?
    intro i
    simp [List.getElem?_map, List.getElem?_replicate, List.getElem?_range]
    split <;> simp_all
  · rw [List.all_replicate]
    simp

abbrev natsT (ns : List Nat) : PV := fun v H => Dx H v (.tuple (natsD ns))
def spTeamsInit (K : PySem.W.Frag) : Sp := fun vs H Q _ => ∃ G x dx av bv near far, vs = [.ref x, av, bv] ∧ Ex G H ∧ G x = none ∧ H x = some (.ins (He.ga K "Teams") dx []) ∧ Dx G av (.list (natsD near)) ∧ Dx G bv (.list (natsD far)) ∧
  near.Pairwise (· ≤ ·) ∧ far.Pairwise (· ≤ ·) ∧ near.length < 64 ∧ far.length < 64 ∧ RetInit (He.ga K "Teams") "own_first" "own_second" (natsT near) (natsT far) G H x dx Q
abbrev N_Teams__init : List Str := ["self", "first", "second"]
theorem sc_Teams__init : FnScope N_Teams__init ["self", "first", "second"] (defScope (inClass (topS 46) 0)) := ⟨rfl, rfl, rfl, by decide +kernel, rfl, by decide +kernel, by decide +kernel⟩
theorem mn_Teams__init (T : Txt K mg) : Mn P w K mg base 1 "Teams" "__init__" ["self", "first", "second"] (spTeamsInit K) := by
  refine mn_of T.i_Teams_init sc_Teams__init (fun _ _ _ _ _ _ us hl => match us, hl with | [_, _, _], _ => rfl) (by rintro vs H Q E ⟨G, x, dx, a, b, c, d, rfl, _⟩; rfl) (fun f cdv A outer s H vs Q E hr h => ?_)
  have nd := sc_Teams__init.nd
  refine ⟨_, (pss_cons (ps_fld (pv 0) (pe_callTy (call_tupleK K rfl) (by rfl) T.z_tuple (by decide +kernel) (pa_cons (pe_callB (call_sortedK K rfl) (by rfl) T.z_sorted (by decide +kernel) (pa_cons (pv 1) pa_nil)) pa_nil)) (by rfl))
      (pss_one (ps_fld (pv 0) (pe_callTy (call_tupleK K rfl) (by rfl) T.z_tuple (by decide +kernel) (pa_cons (pe_callB (call_sortedK K rfl) (by rfl) T.z_sorted (by decide +kernel) (pa_cons (pv 2) pa_nil)) pa_nil)) (by rfl)))), ?_⟩
  obtain ⟨G, x, dx, av, bv, near, far, rfl, eG, hG, hx, ha, hb, s1, s2, z1, z2, q⟩ := h
  refine q_fld (P := natsT near) up_dx (ed_tupleL (ed_sorted (ed_ev (ev_var rfl) ha) s1 z1)) eG (ev_var rfl) hx T.c_Teams T.n_Teams_own_first (by show 0 < 1000; omega) fun u H1 e1 p1 => ?_
  have b1 : Eb x H (upd H1 x (.ins (He.ga K "Teams") dx [("own_first", u)])) := (Eb.of e1).trans Eb.upd
  refine s_fld (P := natsT far) up_dx (ed_tupleL (ed_sorted (ed_ev (ev_var rfl) hb) s2 z2)) (b1.base eG hG) (ev_var rfl) upd_same T.c_Teams T.n_Teams_own_second (by show 1 < 1000; omega) fun v H2 e2 p2 => ?_
  refine q _ u v (b1.trans ((Eb.of e2).trans Eb.upd)) upd_same ?_ ?_
  · exact p1.ex (nw_eb ((Eb.upd.trans (Eb.of e2)).trans Eb.upd) hG hx)
  · have p3 := p2.ex (nw_eb (a := x) (Eb.upd (o := .ins (He.ga K "Teams") dx [("own_first", u), ("own_second", v)])) hG upd_same)
    exact p3.ex (nw_dom (dom_eb b1 upd_same))

def LayAt (K : PySem.W.Frag) (a : Addr) (p : Plan) (H : Hp) : Prop := ∃ dx t f g q, H a = some (.ins (He.ga K "Layout") dx [("own_thing", .ref t), ("own_state", .int p.s), ("own_first", f), ("own_second", g), ("own_places", q)]) ∧
  ThAt K t p.ns p.rs H ∧ natsT p.near f H ∧ natsT p.far g H ∧ natsT (p.near ++ p.far) q H
theorem LayAt.ex {K : PySem.W.Frag} {a : Addr} {p : Plan} {H H' : Hp} (l : LayAt K a p H) (e : Ex H H') : LayAt K a p H' :=
  let ⟨dx, t, f, g, q, h, h1, h2, h3, h4⟩ := l; ⟨dx, t, f, g, q, e _ _ h, h1.ex up_deeds up_dx e, h2.ex e, h3.ex e, h4.ex e⟩
def spLayoutInit (K : PySem.W.Frag) : Sp := fun vs H Q _ => ∃ G x dx t av bv, ∃ p : Plan, vs = [.ref x, .ref t, .int p.s, av, bv] ∧ Ex G H ∧ G x = none ∧ H x = some (.ins (He.ga K "Layout") dx []) ∧ ThAt K t p.ns p.rs G ∧ Dx G av (.list (namesD (namesOf p.ns p.near))) ∧ Dx G bv (.list (namesD (namesOf p.ns p.far))) ∧
  PlanOk p ∧ ∀ H' f g q, Eb x H H' → H' x = some (.ins (He.ga K "Layout") dx [("own_thing", .ref t), ("own_state", .int p.s), ("own_first", f), ("own_second", g), ("own_places", q)]) → natsT p.near f (Nw G H H') → natsT p.far g (Nw G H H') → natsT (p.near ++ p.far) q (Nw G H H') → Q .non H'
theorem names_mem {ns : List Str} {xs : List Nat} (h : ∀ x ∈ xs, x < ns.length) : ∀ z ∈ namesOf ns xs, z ∈ ns := fun z hz => by
  obtain ⟨x, hx, rfl⟩ := List.mem_map.mp hz
  exact List.mem_of_getElem? (nameF_at (h x hx))
theorem places_dx {K : PySem.W.Frag} {ns : List Str} {xs : List Nat} {h : Hp} {ys : List V} {n : Nat} (hn : n = xs.length) (al : Al (fun i v _ => v = V.int ((xs.getD i 0 : Nat) : Int)) h (ixs n fun _ => true) ys) : DxAll h ys (natsD xs) := by
  rw [Al.eq (v := fun i => V.int ((xs.getD i 0 : Nat) : Int)) al, ixs_all, hn]
  have e : (List.range xs.length).map (fun i => V.int ((xs.getD i 0 : Nat) : Int)) = natsV xs := by
    unfold natsV
    apply List.ext_getElem?
    intro i
    rw [List.getElem?_map, List.getElem?_map]
    by_cases h : i < xs.length
    · rw [List.getElem?_range h, List.getElem?_eq_getElem h]
      simp [List.getD_eq_getElem?_getD, List.getElem?_eq_getElem h]
    · rw [List.getElem?_eq_none (by simp; omega), List.getElem?_eq_none (by omega)] <;> rfl
  rw [e]
  exact natsV_dx _ _
abbrev N_Layout__init : List Str := ["self", "thing", "state", "first", "second", "teams", "deed"]
theorem sc_Layout__init : FnScope N_Layout__init ["self", "thing", "state", "first", "second"] (defScope (inClass (topS 47) 0)) := ⟨rfl, rfl, rfl, by decide +kernel, rfl, by decide +kernel, by decide +kernel⟩
theorem mn_Layout__init (T : Txt K mg) (D_want_state : Dn P w K mg base 5 "want_state" ["thing", "value"] (spWantState K)) (D_want_team_of : Dn P w K mg base 2 "want_team_of" ["thing", "value"] (spWantTeam K)) (D_place_of : Dn P w K mg base 1 "place_of" ["thing", "deed"] (spPlaceOf K)) (D_Teams : Mn P w K mg base 1 "Teams" "__init__" ["self", "first", "second"] (spTeamsInit K)) : Mn P w K mg base 6 "Layout" "__init__" ["self", "thing", "state", "first", "second"] (spLayoutInit K) := by
  refine mn_of T.i_Layout_init sc_Layout__init (fun _ _ _ _ _ _ us hl => match us, hl with | [_, _, _, _, _], _ => rfl) (by rintro vs H Q E ⟨G, x, dx, a, b, c, d, rfl, _⟩; rfl) (fun f cdv A outer s H vs Q E hr h => ?_)
  have nd := sc_Layout__init.nd
  obtain ⟨_, h_MOST_HANDS⟩ := T.v_MOST_HANDS
  refine ⟨_, (pss_cons (ps_set (i := 5) nd rfl (.inl rfl) (pv 3))
      (pss_cons (ps_if (pt_not (pt_val (pe_callB (call_isiK' K rfl) (by rfl) T.z_isinstance (by decide +kernel) (pa_cons (pv 3) (pa_cons (pe_gcls (by rfl) T.g_Teams) pa_nil))))) (pss_cons (ps_expr (pe_fn D_want_state hr (by decide) (by rfl) (pa_cons (pv 1) (pa_cons (pv 2) pa_nil))))
      (pss_cons (ps_expr (pe_fn D_want_team_of hr (by decide) (by rfl) (pa_cons (pv 1) (pa_cons (pv 3) pa_nil))))
      (pss_cons (ps_expr (pe_fn D_want_team_of hr (by decide) (by rfl) (pa_cons (pv 1) (pa_cons (pv 4) pa_nil))))
      (pss_cons (ps_if (pt_cmpR op_gt (pe_op op_add (pe_callB (call_lenK K rfl) (by rfl) T.z_len (by decide +kernel) (pa_cons (pv 3) pa_nil)) (pe_callB (call_lenK K rfl) (by rfl) T.z_len (by decide +kernel) (pa_cons (pv 4) pa_nil))) (pe_gint (by rfl) h_MOST_HANDS) (nomark _)) (pss_one ps_never) pss_nil)
      (pss_one (ps_set (i := 5) nd rfl (.inl rfl) (pe_mk D_Teams T.m_Teams T.g_Teams hr (by decide) (by rfl) (pa_cons (pe_lc (own := [("deed", 6)]) (by rfl) nd (pi_listK K rfl (pv 3)) (blkOk_by (own := [("deed", 6)]) (N := N_Layout__init) (sc := (defScope (inClass (topS 47) 0))) (by decide +kernel)) (fun _ _ _ _ _ => (pg_name (i := 6) nd rfl (by first | exact Or.inl rfl | exact Or.inr rfl))) (fun _ _ _ _ _ => pts_nil) (fun _ _ _ _ _ => (pe_fn D_place_of hr (by decide) (by rfl) (pa_cons (pv 1) (pa_cons (pv 6) pa_nil))))) (pa_cons (pe_lc (own := [("deed", 6)]) (by rfl) nd (pi_listK K rfl (pv 4)) (blkOk_by (own := [("deed", 6)]) (N := N_Layout__init) (sc := (defScope (inClass (topS 47) 0))) (by decide +kernel)) (fun _ _ _ _ _ => (pg_name (i := 6) nd rfl (by first | exact Or.inl rfl | exact Or.inr rfl))) (fun _ _ _ _ _ => pts_nil) (fun _ _ _ _ _ => (pe_fn D_place_of hr (by decide) (by rfl) (pa_cons (pv 1) (pa_cons (pv 6) pa_nil))))) pa_nil))))))))) pss_nil)
      (pss_cons (ps_fld (pv 0) (pv 1) (by rfl))
      (pss_cons (ps_fld (pv 0) (pv 2) (by rfl))
      (pss_cons (ps_fld (pv 0) (pe_fldK K rfl (pv 5) rfl) (by rfl))
      (pss_cons (ps_fld (pv 0) (pe_fldK K rfl (pv 5) rfl) (by rfl))
      (pss_one (ps_fld (pv 0) (pe_op (op_catTK K rfl) (pe_fldK K rfl (pv 5) rfl) (pe_fldK K rfl (pv 5) rfl)) (by rfl))))))))), ?_⟩
  obtain ⟨G, x, dx, t, av, bv, p, rfl, eG, hG, hx, ht, ha, hb, ok, q⟩ := h
  obtain ⟨la, xa, rfl, hla, ala⟩ := dx_lst ha
  obtain ⟨lb, xb, rfl, hlb, alb⟩ := dx_lst hb
  have exa : xa = (namesOf p.ns p.near).map V.str := dx_strs ala
  have exb : xb = (namesOf p.ns p.far).map V.str := dx_strs alb
  have na : xa.length = p.near.length := by rw [exa]; unfold namesOf; rw [List.length_map, List.length_map]
  have nb : xb.length = p.far.length := by rw [exb]; unfold namesOf; rw [List.length_map, List.length_map]
  have hle := ok.le
  have place : ∀ (xs : List Nat) (ys : List V), (∀ x ∈ xs, x < p.ns.length) → ys = (namesOf p.ns xs).map V.str → ∀ (i : Nat) (y : V), ys[i]? = some y → ∃ z, y = .str z ∧ p.ns[xs.getD i 0]? = some z := fun xs ys hlt he i y hi => by
    rw [he, List.getElem?_map] at hi
    unfold namesOf at hi
    rw [List.getElem?_map] at hi
    obtain ⟨z, hz, rfl⟩ := Option.map_eq_some_iff.mp hi
    obtain ⟨n, hn, rfl⟩ := Option.map_eq_some_iff.mp hz
    refine ⟨_, rfl, ?_⟩
    have : xs.getD i 0 = n := by rw [List.getD_eq_getElem?_getD, hn] <;> rfl
    rw [this]
    exact nameF_at (hlt n (List.mem_of_getElem? hn))
  refine q_asg (ev_var rfl) fun H1 e1 => ?_
  refine q_when (b := true) (et_is (et_not (et_B (ev_isiC (ev_var rfl) (ha.ex (eG.trans e1)) T.k_list_Teams))) rfl) (fun _ H2 e2 => ?_) (fun hf => Bool.noConfusion hf)
  have g2 := eG.trans (e1.trans e2)
  refine q_drop (ev_fn (ea_cons (ev_var rfl) (ea_cons (ev_var rfl) ea_nil)) fun H3 e Q E r => ⟨t, p.s, p.ns, p.rs, rfl, ht.ex up_deeds up_dx (g2.trans e), ok.st, r⟩) fun H3 e3 => ?_
  have g3 := g2.trans e3
  refine q_drop (ev_fn (ea_cons (ev_var rfl) (ea_cons (ev_var rfl) ea_nil)) fun H4 e Q E r => ⟨t, _, _, p.ns, p.rs, rfl, ht.ex up_deeds up_dx (g3.trans e), ha.ex (g3.trans e), ?_, names_mem ok.lt1, ?_, r⟩) fun H4 e4 => ?_
  · intro z
    exact ok.ne1 (List.map_eq_nil_iff.mp z)
  · unfold namesOf
    rw [List.length_map]
    omega
  have g4 := g3.trans e4
  refine q_drop (ev_fn (ea_cons (ev_var rfl) (ea_cons (ev_var rfl) ea_nil)) fun H5 e Q E r => ⟨t, _, _, p.ns, p.rs, rfl, ht.ex up_deeds up_dx (g4.trans e), hb.ex (g4.trans e), ?_, names_mem ok.lt2, ?_, r⟩) fun H5 e5 => ?_
  · intro z
    exact ok.ne2 (List.map_eq_nil_iff.mp z)
  · unfold namesOf
    rw [List.length_map]
    omega
  have g5 := g4.trans e5
  refine q_when (b := false) (et_is (et_test (ev_op (ev_op (ev_lenL (ev_var rfl) (g5 _ _ hla)) (ev_lenL (ev_var rfl) (g5 _ _ hlb)) rv_I0) ev_c (rv_b (z := .bl false) ?_))) rfl) (fun hf => Bool.noConfusion hf) fun _ H6 e6 => ?_
  · exact congrArg V.bl (decide_eq_false (by rw [na, nb]; omega))
  have g6 := g5.trans e6
  have e16 : Ex H H6 := ((((e1.trans e2).trans e3).trans e4).trans e5).trans e6
  refine s_asgP (G := G) (P := fun v H => ∃ a, v = .ref a ∧ TwoP (He.ga K "Teams") "own_first" "own_second" (natsT p.near) (natsT p.far) a H) (ep_makeTwoD (R := consP (fun v H => Dx H v (.list (natsD p.near))) (consP (fun v H => Dx H v (.list (natsD p.far))) nilP)) up_dx up_dx
    (eas_cons up_dx (up_consP up_dx up_nilP) (ed_lp (lp_list (fun _ => true) (fun i v _ => v = V.int ((p.near.getD i 0 : Nat) : Int)) (fun _ => up_s) (ev_var rfl) hla (by omega) fun i y hi => turn_name (fun _ => rfl) (ep_ev ?_ fun _ _ => rfl)) fun ys h al => places_dx (K := K) (ns := p.ns) na al)
    (eas_cons up_dx up_nilP (ed_lp (lp_list (fun _ => true) (fun i v _ => v = V.int ((p.far.getD i 0 : Nat) : Int)) (fun _ => up_s) (ev_var rfl) hlb (by omega) fun i y hi => turn_name (fun _ => rfl) (ep_ev ?_ fun _ _ => rfl)) fun ys h al => places_dx (K := K) (ns := p.ns) nb al) eas_nil))
    fun G' H7 y dy Q vs eg eg2 hy hy2 hvs r => ?_) g6 fun y H7 e7 pt => ?_
  · obtain ⟨z, rfl, hz⟩ := place p.near xa ok.lt1 exa i y hi
    exact ev_fn (ea_cons (ev_var rfl) (ea_cons (ev_var rfl) ea_nil)) fun H7 e Q E r => ⟨t, z, p.ns, p.rs, _, rfl, ht.ex up_deeds up_dx e, ok.names.nd, hz, r⟩
  · obtain ⟨z, rfl, hz⟩ := place p.far xb ok.lt2 exb i y hi
    exact ev_fn (ea_cons (ev_var rfl) (ea_cons (ev_var rfl) ea_nil)) fun H7 e Q E r => ⟨t, z, p.ns, p.rs, _, rfl, ht.ex up_deeds up_dx e, ok.names.nd, hz, r⟩
  · obtain ⟨v1, r1, rfl, d1, v2, r2, rfl, d2, rfl⟩ := hvs
    exact ⟨G', y, dy, v1, v2, p.near, p.far, rfl, eg2, hy, hy2, d1, d2, ok.so1, ok.so2, by omega, by omega, r⟩
  obtain ⟨tm, rfl, dm, f, g, htm, hf, hg⟩ := pt
  have hx6 := e16 _ _ hx
  have hx7 := e7 _ _ hx6
  have hB : Nw G H6 H7 x = none := nw_none hG hx6
  have eB : Ex (Nw G H6 H7) H7 := nw_sub
  have htB : ThAt K t p.ns p.rs (Nw G H6 H7) := ht.ex up_deeds up_dx (nw_base (g6.trans e7))
  refine q_fld (G := Nw G H6 H7) (P := fun v _ => v = .ref t) up_s (ep_ev (ev_var rfl) fun _ _ => rfl) eB (ev_var rfl) hx7 T.c_Layout T.n_Layout_own_thing (by show 0 < 1000; omega) fun y1 H8 e8 p1 => ?_
  obtain rfl : y1 = V.ref t := p1
  have b1 := (Eb.of (a := x) e8).trans (Eb.upd (o := .ins (He.ga K "Layout") dx [("own_thing", .ref t)]))
  refine q_fld (G := Nw G H6 H7) (P := fun v _ => v = .int p.s) up_s (ep_ev (ev_var rfl) fun _ _ => rfl) (b1.base eB hB) (ev_var rfl) upd_same T.c_Layout T.n_Layout_own_state (by show 1 < 1000; omega) fun y2 H9 e9 p2 => ?_
  obtain rfl : y2 = V.int p.s := p2
  have b2 := b1.trans ((Eb.of (a := x) e9).trans (Eb.upd (o := .ins (He.ga K "Layout") dx [("own_thing", .ref t), ("own_state", .int p.s)])))
  refine q_fld (G := Nw G H6 H7) (P := fun v _ => v = f) up_s ?_ (b2.base eB hB) (ev_var rfl) upd_same T.c_Layout T.n_Layout_own_first (by show 2 < 1000; omega) fun y3 H10 e10 p3 => ?_
  · exact ep_ev (ev_fld (ev_var rfl) htm T.c_Teams T.n_Teams_own_first rfl) fun _ _ => rfl
  obtain rfl : y3 = f := p3
  have b3 := b2.trans ((Eb.of (a := x) e10).trans (Eb.upd (o := .ins (He.ga K "Layout") dx [("own_thing", .ref t), ("own_state", .int p.s), ("own_first", y3)])))
  refine q_fld (G := Nw G H6 H7) (P := fun v _ => v = g) up_s ?_ (b3.base eB hB) (ev_var rfl) upd_same T.c_Layout T.n_Layout_own_second (by show 3 < 1000; omega) fun y4 H11 e11 p4 => ?_
  · exact ep_ev (ev_fld (ev_var rfl) htm T.c_Teams T.n_Teams_own_second rfl) fun _ _ => rfl
  obtain rfl : y4 = g := p4
  have b4 := b3.trans ((Eb.of (a := x) e11).trans (Eb.upd (o := .ins (He.ga K "Layout") dx [("own_thing", .ref t), ("own_state", .int p.s), ("own_first", y3), ("own_second", y4)])))
  refine s_fld (G := Nw G H6 H7) (P := natsT (p.near ++ p.far)) up_dx ?_ (b4.base eB hB) (ev_var rfl) upd_same T.c_Layout T.n_Layout_own_places (by show 4 < 1000; omega) fun y5 H12 e12 p5 => ?_
  · show EvD _ _ _ (.tuple (natsD (p.near ++ p.far)))
    have e : natsD (p.near ++ p.far) = natsD p.near ++ natsD p.far := List.map_append
    rw [e]
    exact ed_catT (ed_ev (ev_fld (ev_var rfl) htm T.c_Teams T.n_Teams_own_first rfl) hf) (ed_ev (ev_fld (ev_var rfl) htm T.c_Teams T.n_Teams_own_second rfl) hg) (by rw [natsD_len, natsD_len]; omega)
  have b5 := b4.trans ((Eb.of (a := x) e12).trans (Eb.upd (o := .ins (He.ga K "Layout") dx [("own_thing", .ref t), ("own_state", .int p.s), ("own_first", y3), ("own_second", y4), ("own_places", y5)])))
  have e17 := e16.trans e7
  have dmn : ∀ b, H7 b = none → H b = none := fun b hb => fresh_back e17 hb
  have into : Ex (Nw G H6 H7) (Nw G H (upd H12 x (.ins (He.ga K "Layout") dx [("own_thing", .ref t), ("own_state", .int p.s), ("own_first", y3), ("own_second", y4), ("own_places", y5)]))) := ex_into (fun b o h => by
    have nb : b ≠ x := fun z => by rw [z, hB] at h; cases h
    exact b5 b o nb (nw_val h)) fun b o h => (nw_vis h).imp id fun z => fresh_back e16 z
  refine q _ y3 y4 y5 ((Eb.of e17).trans b5) upd_same (hf.ex into) (hg.ex into) (p5.ex (ex_into (fun b o h => ?_) fun b o h => ?_))
  · have nb : b ≠ x := fun z => by
      rcases nw_vis h with ⟨u, y⟩ | y
      · rw [z, hB] at y; cases y
      · rw [z, upd_same] at y; cases y
    rw [upd_ne nb]
    exact nw_val h
  · rcases nw_vis h with ⟨u, y⟩ | y
    · exact (nw_vis y).imp id fun z => fresh_back e16 z
    · exact .inr (dmn b (dom_eb b4 upd_same b y))
end
end SF
set_option Elab.async false
set_option linter.all false
set_option maxRecDepth 100000
set_option maxHeartbeats 4000000
namespace SF
open PySem PySem.Spec PyProof.Rows L2 Evl
section
variable {P : Program} {w : World} {K : PySem.W.Frag} {mg : Str → Option Value} {base : Heap}

section
variable {K : PySem.W.Frag} {σ : L2.St} {G H H0 : Hp} {tl te : TE} {P : PV}
theorem s_retU2 {D : Ends} (hv : EvP te σ (Nw G H0 H) P) (u : Up P) (e : Ex H0 H) (k : RetP P G H0 D.rt) : tRet te D σ H := hv H nw_sub _ fun v H2 e2 p => k v H2 (e.trans e2) (u _ _ _ (nw_call e) p)
theorem idx_le {k : Nat} : ∀ {ns : List Nat} {m : Nat}, ns[m]? = some k → ns.idxOf k ≤ m
  | [], _, h => by simp at h
  | a :: r, 0, h => by
    have e : a = k := Option.some.inj h
    subst e
    simp
  | a :: r, m + 1, h => by
    have ih := idx_le (ns := r) (m := m) (by simpa using h)
    rw [List.idxOf_cons]
    cases (a == k) with
    | true => exact Nat.zero_le _
    | false => exact Nat.succ_le_succ ih
/-- list(..) of a datum -/
theorem ed_listT {ds : List PyData} (h : EvD tl σ G (.tuple ds)) : EvD (tCB (rListOf K) (tCons tl tNil)) σ G (.list ds) := fun H1 e Q q =>
  h H1 e _ fun v H2 e2 hd => by
    obtain ⟨a, xs, rfl, hl, al⟩ := dx_tup hd
    exact ⟨a, xs, rfl, .inr (st_of (nw_sub a _ hl)), fun p hp => q _ _ (e2.trans (Ex.new hp)) (.lst (nw_new e2 hp) (al.ex (nw_up (Ex.new hp))))⟩
theorem ed_listL {ds : List PyData} (h : EvD tl σ G (.list ds)) : EvD (tCB (rListOf K) (tCons tl tNil)) σ G (.list ds) := fun H1 e Q q =>
  h H1 e _ fun v H2 e2 hd => by
    obtain ⟨a, xs, rfl, hl, al⟩ := dx_lst hd
    exact ⟨a, xs, rfl, .inl (sq_of (nw_sub a _ hl)), fun p hp => q _ _ (e2.trans (Ex.new hp)) (.lst (nw_new e2 hp) (al.ex (nw_up (Ex.new hp))))⟩
/-- xs.index(x), ints -/
theorem ev_index {to : TE} {ta : TA} {a : Addr} {ns : List Nat} {n j : Nat} (ho : Ev to σ G (.ref a)) (ha : EvA ta σ G [.int (n : Int)]) (hl : G a = some (.lst (natsV ns))) (hj : ns.idxOf n = j) (hm : n ∈ ns) : Ev (tBM K "list" (rIndex K) to ta) σ G (.int (j : Int)) := fun H1 e Q q =>
  ho H1 e _ fun H2 e2 => ⟨.inl ⟨rfl, _, sq_of ((e.trans e2) _ _ hl)⟩, ha H2 (e.trans e2) _ fun H3 e3 => by
    have hlt : j < ns.length := by rw [← hj]; exact List.idxOf_lt_length_of_mem hm
    have hn : ns[j]? = some n := by
      subst hj
      rw [List.getElem?_eq_getElem hlt, List.getElem_idxOf]
    refine ⟨a, natsV ns, .int n, j, .int n, rfl, rfl, sq_of (((e.trans e2).trans e3) _ _ hl), rfl, ?_, natsV_at hn, ?_, fun m z hm2 hz => ?_, q H3 (e2.trans e3)⟩
    · refine List.all_eq_true.mpr fun x hx => ?_
      obtain ⟨k, _, rfl⟩ := List.mem_map.mp hx
      rfl
    · exact beq_self_eq_true _
    · obtain ⟨k, hk, rfl⟩ := at_natsV hz
      have hne : k ≠ n := fun e => by
        subst e
        have := idx_le hk
        omega
      show ((k : Int) == (n : Int)) = false
      exact beq_false_of_ne fun e => hne (by omega)⟩
end
def Plan.many (p : Plan) : Nat := p.near.length + p.far.length
def Plan.places (p : Plan) (os : List Nat) : List Nat := os.map fun o => (p.near ++ p.far).getD o 0
def markF (p : Plan) (os : List Nat) (h : Nat) : Int × Nat := ((runF p.rs p.s (p.places os)).1.getD (os.idxOf h) 0, (runF p.rs p.s (p.places os)).2)
def markD (m : Int × Nat) : PyData := .tuple [.int m.1, .int (m.2 : Int)]
theorem Plan.places_lt {p : Plan} (ok : PlanOk p) {os : List Nat} (h : ∀ o ∈ os, o < p.many) : ∀ x ∈ p.places os, x < p.ns.length := fun x hx => by
  obtain ⟨o, ho, rfl⟩ := List.mem_map.mp hx
  have hlt : o < (p.near ++ p.far).length := by rw [List.length_append]; exact h o ho
  rw [List.getD_eq_getElem?_getD, List.getElem?_eq_getElem hlt, Option.getD_some]
  rcases List.mem_append.mp (List.getElem_mem hlt) with z | z
  · exact ok.lt1 _ z
  · exact ok.lt2 _ z
def spLayLen (K : PySem.W.Frag) : Sp := fun vs H Q _ => ∃ a, ∃ p : Plan, vs = [.ref a] ∧ LayAt K a p H ∧ RetV (.int (p.many : Int)) H Q
abbrev N_Layout__len : List Str := ["self"]
theorem sc_Layout__len : FnScope N_Layout__len ["self"] (defScope (inClass (topS 47) 21)) := ⟨rfl, rfl, rfl, by decide +kernel, rfl, by decide +kernel, by decide +kernel⟩
theorem mn_Layout__len (T : Txt K mg) : Mn P w K mg base 1 "Layout" "__len__" ["self"] (spLayLen K) := by
  refine mn_of T.i_Layout_len sc_Layout__len (fun _ _ _ _ _ _ us hl => match us, hl with | [_], _ => rfl) (by rintro vs H Q E ⟨a, b, rfl, _⟩; rfl) (fun f cdv A outer s H vs Q E hr h => ?_)
  have nd := sc_Layout__len.nd
  refine ⟨_, (pss_one (ps_ret (pe_callB (call_lenK K rfl) (by rfl) T.z_len (by decide +kernel) (pa_cons (pe_fldK K rfl (pv 0) rfl) pa_nil)))), ?_⟩
  obtain ⟨a, p, rfl, l, q⟩ := h
  obtain ⟨dx, t, f, g, pq, ha, _, _, _, hq⟩ := id l
  refine s_ret (ev_is (ev_lenDT (ed_ev (ev_fld (ev_var rfl) ha T.c_Layout T.n_Layout_own_places rfl) hq)) ?_) fun H1 e => q H1 e
  rw [natsD_len, List.length_append]
  rfl

section
variable {K : PySem.W.Frag} {σ : L2.St} {G : Hp} {tl : TE}
theorem ev_lenLay {a : Addr} {p : Plan} (h : Ev tl σ G (.ref a)) (l : LayAt K a p G) (ok : PlanOk p) : Ev (tCB (rLenI (He.ga K "Layout") (spLayLen K)) (tCons tl tNil)) σ G (.int (p.many : Int)) := fun H1 e Q q =>
  h H1 e _ fun H2 e2 => by
    have l2 := l.ex (e.trans e2)
    obtain ⟨dx, t, f, g, pq, ha, r⟩ := id l2
    have := ok.le
    have hm : p.many = p.near.length + p.far.length := rfl
    exact ⟨a, dx, _, rfl, ha, a, p, rfl, l2, fun H3 e3 => ⟨_, rfl, by omega, by omega, q H3 (e2.trans e3)⟩⟩
end
def spPlacesOf (K : PySem.W.Frag) : Sp := fun vs H Q _ => ∃ G a, ∃ p : Plan, vs = [.ref a] ∧ Ex G H ∧ LayAt K a p G ∧ RetD (.list (natsD (p.near ++ p.far))) G H Q
abbrev N_places_of : List Str := ["layout"]
theorem sc_places_of : FnScope N_places_of ["layout"] (defScope (topS 49)) := ⟨rfl, rfl, rfl, by decide +kernel, rfl, by decide +kernel, by decide +kernel⟩
theorem dn_places_of (T : Txt K mg) : Dn P w K mg base 1 "places_of" ["layout"] (spPlacesOf K) := by
  refine dn_of T.f_places_of sc_places_of (fun _ _ _ _ _ _ us hl => match us, hl with | [_], _ => rfl) (by rintro vs H Q E ⟨a, b, c, rfl, _⟩; rfl) (fun f cdv A outer s H vs Q E hr h => ?_)
  have nd := sc_places_of.nd
  refine ⟨_, (pss_one (ps_ret (pe_callTy (call_listK K rfl) (by rfl) T.z_list (by decide +kernel) (pa_cons (pe_fldK K rfl (pv 0) rfl) pa_nil)))), ?_⟩
  obtain ⟨G, a, p, rfl, eG, l, q⟩ := h
  obtain ⟨dx, t, f, g, pq, ha, _, _, _, hq⟩ := id l
  exact s_retP (P := fun v H => Dx H v (.list (natsD (p.near ++ p.far)))) (ed_listT (ed_ev (ev_fld (ev_var rfl) ha T.c_Layout T.n_Layout_own_places rfl) hq)) eG q

def spTeamOf (K : PySem.W.Frag) : Sp := fun vs H Q _ => ∃ a, ∃ p : Plan, ∃ h : Nat, vs = [.ref a, .int h] ∧ LayAt K a p H ∧ RetV (.int (if h < p.near.length then 0 else 1)) H Q
abbrev N_team_of : List Str := ["layout", "hand"]
theorem sc_team_of : FnScope N_team_of ["layout", "hand"] (defScope (topS 50)) := ⟨rfl, rfl, rfl, by decide +kernel, rfl, by decide +kernel, by decide +kernel⟩
theorem dn_team_of (T : Txt K mg) : Dn P w K mg base 1 "team_of" ["layout", "hand"] (spTeamOf K) := by
  refine dn_of T.f_team_of sc_team_of (fun _ _ _ _ _ _ us hl => match us, hl with | [_, _], _ => rfl) (by rintro vs H Q E ⟨a, b, c, rfl, _⟩; rfl) (fun f cdv A outer s H vs Q E hr h => ?_)
  have nd := sc_team_of.nd
  refine ⟨_, (pss_one (ps_ret (pe_ifExp (pt_cmpR op_lt (pv 1) (pe_callB (call_lenK K rfl) (by rfl) T.z_len (by decide +kernel) (pa_cons (pe_fldK K rfl (pv 0) rfl) pa_nil)) (nomark _)) pe_int pe_int))), ?_⟩
  obtain ⟨a, p, h', rfl, l, q⟩ := h
  obtain ⟨dx, t, f, g, pq, ha, _, hf, _, _⟩ := id l
  refine s_ret (ev_if (b := decide (h' < p.near.length)) (et_is (et_test (ev_op (ev_var rfl) (ev_lenDT (ed_ev (ev_fld (ev_var rfl) ha T.c_Layout T.n_Layout_own_first rfl) hf)) (rv_b (z := .bl (decide (h' < p.near.length))) ?_))) rfl) (fun z => ev_is ev_c ?_) (fun z => ev_is ev_c ?_)) fun H1 e => q H1 e
  · rw [natsD_len]
    exact congrArg V.bl (decide_eq_decide.mpr (by omega))
  · rw [if_pos (of_decide_eq_true z)]
  · rw [if_neg (of_decide_eq_false z)]

def spAnswers (K : PySem.W.Frag) : Sp := fun vs H Q _ => ∃ G a ov, ∃ p : Plan, ∃ os : List Nat, vs = [.ref a, ov] ∧ Ex G H ∧ LayAt K a p G ∧ PlanOk p ∧ Dx G ov (.list (natsD os)) ∧ os.length ≤ 1000 ∧ (∀ o ∈ os, o < p.many) ∧ RetD (runD (runF p.rs p.s (p.places os))) G H Q
theorem pick_dx {G : Hp} {xs os : List Nat} {h : Hp} {ys : List V} {n : Nat} (hn : n = os.length) (al : Al (fun i v _ => v = V.int ((xs.getD (os.getD i 0) 0 : Nat) : Int)) h (ixs n fun _ => true) ys) : DxAll h ys (natsD (os.map fun o => xs.getD o 0)) := by
  have e : ys = natsV (os.map fun o => xs.getD o 0) := by
    rw [Al.eq (v := fun i => V.int ((xs.getD (os.getD i 0) 0 : Nat) : Int)) al, ixs_all, hn]
    apply List.ext_getElem?
    intro i
    unfold natsV
    rw [List.getElem?_map, List.getElem?_map, List.getElem?_map]
    by_cases h : i < os.length
    · rw [List.getElem?_range h, List.getElem?_eq_getElem h]
      simp [List.getD_eq_getElem?_getD, List.getElem?_eq_getElem h]
    · rw [List.getElem?_eq_none (by simp; omega), List.getElem?_eq_none (by omega)] <;> rfl
  rw [e]
  exact natsV_dx _ _
abbrev N_answers_and_end : List Str := ["layout", "order", "places", "hand"]
theorem sc_answers_and_end : FnScope N_answers_and_end ["layout", "order"] (defScope (topS 54)) := ⟨rfl, rfl, rfl, by decide +kernel, rfl, by decide +kernel, by decide +kernel⟩
theorem dn_answers_and_end (T : Txt K mg) (D_places_of : Dn P w K mg base 1 "places_of" ["layout"] (spPlacesOf K)) (D_run_of : Dn P w K mg base 2 "run_of" ["thing", "state", "places"] (spRunOf K)) : Dn P w K mg base 3 "answers_and_end" ["layout", "order"] (spAnswers K) := by
  refine dn_of T.f_answers_and_end sc_answers_and_end (fun _ _ _ _ _ _ us hl => match us, hl with | [_, _], _ => rfl) (by rintro vs H Q E ⟨a, b, c, d, e, rfl, _⟩; rfl) (fun f cdv A outer s H vs Q E hr h => ?_)
  have nd := sc_answers_and_end.nd
  refine ⟨_, (pss_cons (ps_set (i := 2) nd rfl (.inr rfl) (pe_fn D_places_of hr (by decide) (by rfl) (pa_cons (pv 0) pa_nil)))
      (pss_one (ps_ret (pe_fn D_run_of hr (by decide) (by rfl) (pa_cons (pe_fldK K rfl (pv 0) rfl) (pa_cons (pe_fldK K rfl (pv 0) rfl) (pa_cons (pe_lc (own := [("hand", 3)]) (by rfl) nd (pi_listK K rfl (pv 1)) (blkOk_by (own := [("hand", 3)]) (N := N_answers_and_end) (sc := (defScope (topS 54))) (by decide +kernel)) (fun _ _ _ _ _ => (pg_name (i := 3) nd rfl (by first | exact Or.inl rfl | exact Or.inr rfl))) (fun _ _ _ _ _ => pts_nil) (fun _ _ _ _ _ => (pe_ix (ix_listK K rfl) (pv 2) (pv 3) (fun _ _ => rfl)))) pa_nil))))))), ?_⟩
  obtain ⟨G, a, ov, p, os, rfl, eG, l, ok, ho, hz, hos, q⟩ := h
  obtain ⟨lo, xs, rfl, hx, al⟩ := dx_lst ho
  obtain rfl := dx_nats al
  refine q_asgP (G := G) (P := fun v H => Dx H v (.list (natsD (p.near ++ p.far)))) (ep_call up_dx (ea_cons (ev_var rfl) ea_nil) fun H1 e Q r => ⟨G, a, p, rfl, e, l, r⟩) eG fun y H1 e1 hy => ?_
  have b0 : Ex G (Nw G H H1) := nw_base (eG.trans e1)
  obtain ⟨lp, ps, rfl, hp, alp⟩ := dx_lst hy
  obtain rfl := dx_nats alp
  have l1 := l.ex b0
  obtain ⟨dx, t, f, g, pq, ha, ht, _, _, _⟩ := id l1
  refine s_retU2 (G := G) (H0 := H) (P := fun v H => Dx H v (runD (runF p.rs p.s (p.places os)))) (ep_callAs (R := consP (fun v _ => v = .ref t) (consP (fun v _ => v = .int p.s) (consP (fun v H => Dx H v (.list (natsD (p.places os)))) nilP))) up_dx
    (eas_cons up_s (up_consP up_s (up_consP up_dx up_nilP)) (ep_ev (ev_fld (ev_var rfl) ha T.c_Layout T.n_Layout_own_thing rfl) fun _ _ => rfl)
    (eas_cons up_s (up_consP up_dx up_nilP) (ep_ev (ev_fld (ev_var rfl) ha T.c_Layout T.n_Layout_own_state rfl) fun _ _ => rfl)
    (eas_cons up_dx up_nilP (ed_lp (lp_list (fun _ => true) (fun i v _ => v = V.int (((p.near ++ p.far).getD (os.getD i 0) 0 : Nat) : Int)) (fun _ => up_s) (ev_var rfl) (b0 _ _ hx) (by rw [natsV_len]; omega) fun i x hi => turn_name (fun _ => rfl) (ep_ev ?_ fun _ _ => rfl)) fun ys h al => pick_dx (G := G) (natsV_len os) al) eas_nil)))
    fun G' H2 vs eg eg2 hvs Q r => ?_) up_dx e1 q
  · obtain ⟨n, hn, rfl⟩ := at_natsV hi
    have hlt : n < (p.near ++ p.far).length := by rw [List.length_append]; exact hos n (List.mem_of_getElem? hn)
    have e1 : os.getD i 0 = n := by rw [List.getD_eq_getElem?_getD, hn] <;> rfl
    refine ev_op (ev_var rfl) (ev_var rfl) (rv_ixL (sq_of hp) (atI_nat ?_))
    rw [e1, natsV_at (List.getElem?_eq_getElem hlt), List.getD_eq_getElem?_getD, List.getElem?_eq_getElem hlt] <;> rfl
  · obtain ⟨v1, r1, rfl, rfl, v2, r2, rfl, rfl, v3, r3, rfl, h3, rfl⟩ := hvs
    refine ⟨G', t, p.s, v3, p.places os, p.ns, p.rs, rfl, eg2, ht.ex up_deeds up_dx eg, h3, ?_, ok.rows, ok.st, p.places_lt ok hos, r⟩
    unfold Plan.places
    rw [List.length_map]
    exact hz

def spMarkIn (K : PySem.W.Frag) : Sp := fun vs H Q _ => ∃ G a ov, ∃ p : Plan, ∃ os : List Nat, ∃ h : Nat, vs = [.ref a, .int h, ov] ∧ Ex G H ∧ LayAt K a p G ∧ PlanOk p ∧ Dx G ov (.list (natsD os)) ∧ os.length ≤ 1000 ∧ (∀ o ∈ os, o < p.many) ∧ h ∈ os ∧ RetD (markD (markF p os h)) G H Q
abbrev N_mark_in : List Str := ["layout", "hand", "order", "answers", "end"]
theorem sc_mark_in : FnScope N_mark_in ["layout", "hand", "order"] (defScope (topS 55)) := ⟨rfl, rfl, rfl, by decide +kernel, rfl, by decide +kernel, by decide +kernel⟩
theorem dn_mark_in (T : Txt K mg) (D_answers_and_end : Dn P w K mg base 3 "answers_and_end" ["layout", "order"] (spAnswers K)) : Dn P w K mg base 4 "mark_in" ["layout", "hand", "order"] (spMarkIn K) := by
  refine dn_of T.f_mark_in sc_mark_in (fun _ _ _ _ _ _ us hl => match us, hl with | [_, _, _], _ => rfl) (by rintro vs H Q E ⟨a, b, c, d, e, f, rfl, _⟩; rfl) (fun f cdv A outer s H vs Q E hr h => ?_)
  have nd := sc_mark_in.nd
  refine ⟨_, (pss_cons (ps_asg (pe_fn D_answers_and_end hr (by decide) (by rfl) (pa_cons (pv 0) (pa_cons (pv 2) pa_nil))) (pg_tupK K rfl 2 (by rfl) (pgs_cons (pg_name (i := 3) nd rfl (by first | exact Or.inl rfl | exact Or.inr rfl)) (pgs_cons (pg_name (i := 4) nd rfl (by first | exact Or.inl rfl | exact Or.inr rfl)) pgs_nil))))
      (pss_one (ps_ret (pe_tup (pa_cons (pe_ix (ix_listK K rfl) (pv 3) (pe_bmK K rfl PySem.F.plainAttrs_list PySem.F.slot_list_index PySem.F.type_list_index (mt_indexK K rfl) (pv 2) (pa_cons (pv 1) pa_nil)) (fun _ _ => rfl)) (pa_cons (pv 4) pa_nil)))))), ?_⟩
  obtain ⟨G, a, ov, p, os, h', rfl, eG, l, ok, ho, hz, hos, hm, q⟩ := h
  obtain ⟨lo, xs, rfl, hx, al⟩ := dx_lst ho
  obtain rfl := dx_nats al
  refine q_pair (G := G) (c := .list ((runF p.rs p.s (p.places os)).1.map .int)) (d := .int ((runF p.rs p.s (p.places os)).2 : Int)) (ep_call up_dx (ea_cons (ev_var rfl) (ea_cons (ev_var rfl) ea_nil)) fun H1 e Q r => ⟨G, a, _, p, os, rfl, e, l, ok, ho, hz, hos, r⟩) eG fun x y H1 e1 hx1 hy1 => ?_
  have b0 : Ex G (Nw G H H1) := nw_base (eG.trans e1)
  refine s_retU2 (G := G) (H0 := H) (P := fun v H => Dx H v (markD (markF p os h'))) (ed_tup (ed_cons (ed_ixL (ed_ev (ev_var rfl) hx1) (ev_index (ev_var rfl) (ea_cons (ev_var rfl) ea_nil) (b0 _ _ hx) rfl hm) ?_) (ed_cons (ed_ev (ev_var rfl) hy1) ed_nil)) (by show 2 ≤ 100000; decide)) up_dx e1 q
  have hlt : os.idxOf h' < (runF p.rs p.s (p.places os)).1.length := by
    rw [runF_len]
    unfold Plan.places
    rw [List.length_map]
    exact List.idxOf_lt_length_of_mem hm
  rw [List.getElem?_map, List.getElem?_eq_getElem hlt]
  show some (PyData.int _) = some (PyData.int _)
  unfold markF
  rw [List.getD_eq_getElem?_getD, List.getElem?_eq_getElem hlt] <;> rfl
end
end SF
set_option Elab.async false
set_option linter.all false
set_option maxRecDepth 100000
set_option maxHeartbeats 4000000
namespace SF
open PySem PySem.Spec PyProof.Rows L2 Evl
section
variable {P : Program} {w : World} {K : PySem.W.Frag} {mg : Str → Option Value} {base : Heap}

/-! ### what a blot is, of data -/
def intOf : PyData → Int
  | .int i => i
  | _ => 0
def seqOf : PyData → List PyData
  | .list ds => ds
  | .tuple ds => ds
  | _ => []
def okDs (n : Nat) (ds : List PyData) : Bool := !(ds.isEmpty || !(ds.all (belowD n))) && decide ((ds.map intOf).Nodup)
def orderD (n : Nat) (d : PyData) : Bool := isSeqD d && okDs n (seqOf d)
def natOf (d : PyData) : Nat := (intOf d).toNat
def natsF (d : PyData) : List Nat := (seqOf d).map natOf
def blot3 (p : Plan) (h a b : PyData) : Bool := !(!(orderD p.many a) || (!(orderD p.many b) || (!(decide (natOf h ∈ natsF a)) || !(decide (natOf h ∈ natsF b))))) &&
  (!(!(decide ((natsF a).getD 0 0 < p.near.length)) || decide ((natsF b).getD 0 0 < p.near.length)) && decide (markF p (natsF a) (natOf h) = markF p (natsF b) (natOf h)))
def blotD (p : Plan) : PyData → Bool
  | .tuple [h, a, b] => belowD p.many h && blot3 p h a b
  | _ => false
def lenD : PyData → Nat
  | .list ds => ds.length
  | .tuple ds => ds.length
  | _ => 0
theorem below_nat {n : Nat} : ∀ {d : PyData}, belowD n d = true → d = .int (natOf d : Nat) ∧ natOf d < n
  | .int i, h => by
    have h2 : (decide (0 ≤ i) && decide (i < (n : Int))) = true := h
    rw [Bool.and_eq_true] at h2
    have h0 := of_decide_eq_true h2.1
    have h1 := of_decide_eq_true h2.2
    have e : natOf (.int i) = i.toNat := rfl
    rw [e]
    exact ⟨by rw [Int.toNat_of_nonneg h0], by omega⟩
  | .none, h => Bool.noConfusion h
  | .bool _, h => Bool.noConfusion h
  | .str _, h => Bool.noConfusion h
  | .list _, h => Bool.noConfusion h
  | .tuple _, h => Bool.noConfusion h
  | .dict _, h => Bool.noConfusion h
theorem all_nats {n : Nat} : ∀ {ds : List PyData}, ds.all (belowD n) = true → ds = natsD (ds.map natOf) ∧ ∀ o ∈ ds.map natOf, o < n
  | [], _ => ⟨rfl, fun _ h => absurd h (by simp)⟩
  | d :: ds, h => by
    rw [List.all_cons, Bool.and_eq_true] at h
    obtain ⟨e1, l1⟩ := below_nat h.1
    obtain ⟨e2, l2⟩ := all_nats h.2
    refine ⟨?_, fun o ho => ?_⟩
    · show d :: ds = PyData.int (natOf d : Nat) :: natsD (ds.map natOf)
      rw [← e1, ← e2]
    · rcases List.mem_cons.mp ho with z | z
      · rw [z]; exact l1
      · exact l2 o z
theorem natsD_ints (ns : List Nat) : (natsD ns).map intOf = ns.map fun n : Nat => (n : Int) := by
  unfold natsD
  rw [List.map_map]
  rfl
theorem nats_ints {n : Nat} {ds : List PyData} (h : ds.all (belowD n) = true) : ds.map intOf = (ds.map natOf).map fun n : Nat => (n : Int) := (congrArg (List.map intOf) (all_nats h).1).trans (natsD_ints _)
theorem map_getD {α β : Type} (f : α → β) (z : α) (ds : List α) {n : Nat} (hn : n = ds.length) : (List.range n).map (fun i => f (ds.getD i z)) = ds.map f := by
  rw [hn]
  apply List.ext_getElem?
  intro i
  rw [List.getElem?_map, List.getElem?_map]
  by_cases h : i < ds.length
  · rw [List.getElem?_range h, List.getElem?_eq_getElem h]
    simp [List.getD_eq_getElem?_getD, List.getElem?_eq_getElem h]
  · rw [List.getElem?_eq_none (by simp; omega), List.getElem?_eq_none (by omega)] <;> rfl
section
variable {K : PySem.W.Frag} {σ : L2.St} {G : Hp} {tl tk : TE}
theorem ev_setEq {a : Addr} {ns : List Int} (h : Ev tl σ G (.ref a)) (h2 : Ev tk σ G (.ref a)) (hx : SqB K G a (ns.map V.int)) (hz : ns.length ≤ 1000) : Ev (tOp rEq (tLenSet K tl) (tCB (rLenS K) (tCons tk tNil))) σ G (.bl (decide ns.Nodup)) := fun H1 e Q q =>
  ev_lenSet h hx hz H1 e _ fun c H2 e2 hc => (ev_lenS h2 hx) H2 (e.trans e2) _ fun H3 e3 => by
    refine (rv_eq (H := H3) rfl) H3 (Ex.refl H3) _ fun H4 e4 => ?_
    have z : decide (V.int (c : Int) = V.int ((ns.map V.int).length : Int)) = decide ns.Nodup := decide_eq_decide.mpr (by
      rw [← hc, List.length_map]
      exact ⟨fun u => by have := V.int.inj u; omega, fun u => by rw [u]⟩)
    rw [z]
    exact q H4 ((e2.trans e3).trans e4)
end
def spIsOrder (K : PySem.W.Frag) : Sp := fun vs H Q _ => ∃ a v d, ∃ p : Plan, vs = [.ref a, v] ∧ LayAt K a p H ∧ PlanOk p ∧ Dx H v d ∧ lenD d ≤ 1000 ∧ RetV (.bl (orderD p.many d)) H Q
abbrev N_is_order : List Str := ["layout", "value", "hand"]
theorem sc_is_order : FnScope N_is_order ["layout", "value"] (defScope (topS 65)) := ⟨rfl, rfl, rfl, by decide +kernel, rfl, by decide +kernel, by decide +kernel⟩
theorem dn_is_order (T : Txt K mg) (D_is_list : Dn P w K mg base 1 "is_list" ["value"] spIsList) (D_is_below : Dn P w K mg base 3 "is_below" ["value", "limit"] spIsBelow) (D_Llen : Mn P w K mg base 1 "Layout" "__len__" ["self"] (spLayLen K)) : Dn P w K mg base 4 "is_order" ["layout", "value"] (spIsOrder K) := by
  refine dn_of T.f_is_order sc_is_order (fun _ _ _ _ _ _ us hl => match us, hl with | [_, _], _ => rfl) (by rintro vs H Q E ⟨a, b, c, d, rfl, _⟩; rfl) (fun f cdv A outer s H vs Q E hr h => ?_)
  have nd := sc_is_order.nd
  refine ⟨_, (pss_cons (ps_if (PW.pt (pw_or (pt_not (pt_val (pe_fn D_is_list hr (by decide) (by rfl) (pa_cons (pv 1) pa_nil)))) (pw_or (pt_cmpR op_eq (pe_callB (call_lenK K rfl) (by rfl) T.z_len (by decide +kernel) (pa_cons (pv 1) pa_nil)) pe_int (nomark _)) (pw_or1 (pt_not (pt_val (pe_callB (call_allK K rfl rfl) (by rfl) T.z_all (by decide +kernel) (pa_cons (pe_lc (own := [("hand", 2)]) (by rfl) nd (pi_seqK K rfl (pv 1)) (blkOk_by (own := [("hand", 2)]) (N := N_is_order) (sc := (defScope (topS 65))) (by decide +kernel)) (fun _ _ _ _ _ => (pg_name (i := 2) nd rfl (by first | exact Or.inl rfl | exact Or.inr rfl))) (fun _ _ _ _ _ => pts_nil) (fun _ _ _ _ _ => (pe_fn D_is_below hr (by decide) (by rfl) (pa_cons (pv 2) (pa_cons (pe_callB (call_lenI K rfl D_Llen T.t_Layout_len hr (by decide)) (by rfl) T.z_len (by decide +kernel) (pa_cons (pv 0) pa_nil)) pa_nil))))) pa_nil)))))))) (pss_one (ps_ret pe_bl)) pss_nil)
      (pss_one (ps_ret (pe_cmpR op_eq (pe_lenSetK K rfl rfl (by rfl) T.z_len (by rfl) T.z_set (pv 1)) (pe_callB (call_lenK K rfl) (by rfl) T.z_len (by decide +kernel) (pa_cons (pv 1) pa_nil)) (nomark _))))), ?_⟩
  obtain ⟨a, v, d, p, rfl, l, ok, hd, hz, q⟩ := h
  by_cases hs : isSeqD d = true
  · obtain ⟨b, ds, rfl⟩ := is_seqD d hs
    obtain ⟨lx, xs, rfl, hx, al⟩ := dx_seq (K := K) hd
    have so : seqOf (seqD b ds) = ds := by cases b <;> rfl
    have ln : ds.length ≤ 1000 := by
      have e : lenD (seqD b ds) = ds.length := by cases b <;> rfl
      rw [← e]; exact hz
    have hl := al.length
    refine q_when (b := ds.isEmpty || !(ds.all (belowD p.many))) (et_or' (a := false) (et_is (et_not (et_B (ev_fn (ea_cons (ev_var rfl) ea_nil) fun H1 e Q E r => ⟨_, _, rfl, hd.ex e, r⟩))) (by rw [hs] <;> rfl)) (fun _ => et_or (a := ds.isEmpty) (et_is (et_test (ev_op (ev_lenS (ev_var rfl) hx) ev_c (rv_eq rfl))) ?_)
      fun _ => et_not (et_B (ev_is (ev_all (bs := ds.map (belowD p.many)) (lp_seq (fun _ => true) (fun i v _ => v = .bl (belowD p.many (ds.getD i .none))) (fun _ => up_s) (ev_var rfl) hx (by omega) fun i x hi => turn_name (fun _ => rfl) (ep_ev ?_ fun _ _ => rfl)) fun ys h al2 => ?_) ?_))) rfl) (fun hc H1 e1 => ?_) (fun hc H1 e1 => ?_)
    · cases ds with
      | nil => exact decide_eq_true (by rw [hl] <;> rfl)
      | cons d0 r =>
        refine decide_eq_false fun z => ?_
        have := V.int.inj z
        rw [hl, List.length_cons] at this
        omega
    · obtain ⟨d, h1, h2⟩ := al.at' hi
      have e : ds.getD i .none = d := by rw [List.getD_eq_getElem?_getD, h1, Option.getD_some]
      rw [e]
      exact ev_fn (ea_cons (ev_var rfl) (ea_cons (ev_lenLay (ev_var rfl) l ok) ea_nil)) fun H1 e Q E r => ⟨_, d, (p.many : Int), rfl, h2.ex e, r⟩
    · rw [Al.eq (v := fun i => V.bl (belowD p.many (ds.getD i .none))) al2, ixs_all, map_getD (fun d => V.bl (belowD p.many d)) _ ds hl, List.map_map]
      rfl
    · rw [List.all_map]
      rfl
    · refine s_ret ev_c fun H2 e2 => ?_
      have e : orderD p.many (seqD b ds) = false := by
        unfold orderD okDs
        rw [so, hc]
        simp
      rw [e] at q
      exact q _ (e1.trans e2)
    · rw [Bool.or_eq_false_iff] at hc
      have hall : ds.all (belowD p.many) = true := by simpa using hc.2
      obtain ⟨e1', lt⟩ := all_nats hall
      have ex : xs = (ds.map intOf).map V.int := by
        rw [nats_ints hall, List.map_map]
        rw [e1'] at al
        exact dx_nats al
      rw [ex] at hx
      refine s_ret (ev_setEq (ev_var rfl) (ev_var rfl) (sqb_ex e1 hx) (by rw [List.length_map]; exact ln)) fun H2 e2 => ?_
      have e : orderD p.many (seqD b ds) = decide (ds.map intOf).Nodup := by
        unfold orderD okDs
        rw [so, hs, hc.1, hall]
        rfl
      rw [e] at q
      exact q _ (e1.trans e2)
  · have hs2 : isSeqD d = false := Bool.eq_false_iff.mpr hs
    refine q_when (b := true) (et_or' (a := true) (b := true) (et_is (et_not (et_B (ev_fn (ea_cons (ev_var rfl) ea_nil) fun H1 e Q E r => ⟨_, _, rfl, hd.ex e, r⟩))) (by rw [hs2] <;> rfl)) (fun z => Bool.noConfusion z) rfl) (fun _ H1 e1 => ?_) (fun hf => Bool.noConfusion hf)
    refine s_ret ev_c fun H2 e2 => ?_
    have e : orderD p.many d = false := by unfold orderD; rw [hs2] <;> rfl
    rw [e] at q
    exact q _ (e1.trans e2)
end
end SF
set_option Elab.async false
set_option linter.all false
set_option maxRecDepth 100000
set_option maxHeartbeats 4000000
namespace SF
open PySem PySem.Spec PyProof.Rows L2 Evl
section
variable {P : Program} {w : World} {K : PySem.W.Frag} {mg : Str → Option Value} {base : Heap}

theorem nb_of {b : Bool} (h : (!b) = true) : b = false := by simpa using h
theorem bn_of {b : Bool} (h : b = false) : (!b) = true := by rw [h] <;> rfl
theorem order_yes {n : Nat} {d : PyData} (h : orderD n d = true) : ∃ b, d = seqD b (natsD (natsF d)) ∧ natsF d ≠ [] ∧ (natsF d).Nodup ∧ ∀ o ∈ natsF d, o < n := by
  unfold orderD okDs at h
  simp only [Bool.and_eq_true, Bool.not_eq_true', Bool.or_eq_false_iff, decide_eq_true_eq] at h
  obtain ⟨h1, ⟨h2, h3⟩, h4⟩ := h
  obtain ⟨b, ds, rfl⟩ := is_seqD d h1
  have so : seqOf (seqD b ds) = ds := by cases b <;> rfl
  have hall : ds.all (belowD n) = true := by
    rw [so] at h3
    simpa using h3
  obtain ⟨e, lt⟩ := all_nats hall
  have en : natsF (seqD b ds) = ds.map natOf := by unfold natsF; rw [so]
  refine ⟨b, by rw [en, ← e], ?_, ?_, by rw [en]; exact lt⟩
  · rw [en]
    intro z
    rw [so, List.map_eq_nil_iff.mp z] at h2
    exact Bool.noConfusion h2
  · rw [en]
    rw [so, nats_ints hall] at h4
    have h5 := h4
    unfold List.Nodup at h5 ⊢
    rw [List.pairwise_map] at h5
    exact h5.imp fun {a b} z e => z (by rw [e])
theorem inV_nats {k : Nat} {os : List Nat} : inV (.int (k : Int)) (natsV os) = decide (k ∈ os) := by
  unfold inV natsV
  rw [List.any_map]
  cases hb : decide (k ∈ os) with
  | true =>
    refine List.any_eq_true.mpr ⟨k, of_decide_eq_true hb, ?_⟩
    exact beq_self_eq_true _
  | false =>
    refine List.any_eq_false.mpr fun x hx z => of_decide_eq_false hb ?_
    have e : ((x : Int) == (k : Int)) = true := z
    have e2 := eq_of_beq e
    have e3 : x = k := by omega
    rw [← e3]; exact hx
theorem flat_nats (os : List Nat) : (natsV os).all flatV = true := List.all_eq_true.mpr fun x hx => by
  obtain ⟨n, _, rfl⟩ := List.mem_map.mp hx
  rfl
theorem eqv_mark (m n : Int × Nat) : PyData.eqv (markD m) (markD n) = decide (m = n) := by
  obtain ⟨a, b⟩ := m
  obtain ⟨c, d⟩ := n
  show ((a == c) && (((b : Int) == (d : Int)) && true)) = _
  rw [Bool.and_true]
  by_cases h1 : a = c
  · by_cases h2 : b = d
    · rw [h1, h2, beq_self_eq_true, beq_self_eq_true, decide_eq_true rfl] <;> rfl
    · rw [decide_eq_false (fun z => h2 (Prod.mk.inj z).2), beq_eq_false_iff_ne.mpr (show (b : Int) ≠ (d : Int) by omega), Bool.and_false]
  · rw [decide_eq_false (fun z => h1 (Prod.mk.inj z).1), beq_eq_false_iff_ne.mpr h1, Bool.false_and]
theorem is_tuD : ∀ d : PyData, isTu d = true → ∃ ds, d = .tuple ds
  | .tuple ds, _ => ⟨ds, rfl⟩
  | .none, h => Bool.noConfusion h
  | .bool _, h => Bool.noConfusion h
  | .int _, h => Bool.noConfusion h
  | .str _, h => Bool.noConfusion h
  | .list _, h => Bool.noConfusion h
  | .dict _, h => Bool.noConfusion h
theorem len3 {ds : List PyData} (h : ds.length = 3) : ∃ a b c, ds = [a, b, c] := by
  match ds, h with
  | [a, b, c], _ => exact ⟨a, b, c, rfl⟩
theorem blot_ne3 {p : Plan} {ds : List PyData} (h : ds.length ≠ 3) : blotD p (.tuple ds) = false := by
  unfold blotD
  split
  · rename_i h1
    cases h1
    exact absurd rfl h
  · rfl
theorem blot_notT {p : Plan} {d : PyData} (h : isTu d = false) : blotD p d = false := by
  cases d with
  | tuple ds => exact Bool.noConfusion h
  | _ => rfl
section
variable {K : PySem.W.Frag} {σ : L2.St} {G H : Hp} {tl te : TE}
theorem dp_mark {m : Int × Nat} {H : Hp} {v : V} (h : Dx H v (markD m)) : Dp K H v (markD m) := by
  obtain ⟨a, xs, rfl, h1, al⟩ := dx_tup h
  cases al with
  | cons h2 t2 =>
    cases t2 with
    | cons h3 t3 =>
      cases t3
      rw [dx_int h2, dx_int h3] at h1
      exact .tup (st_of h1) (.cons (.int _) (.cons (.int _) .nil))
theorem q_trip {D : Ends} {tz : TS} {i j l : Nat} {c d e : PyData} (hv : EvD te σ G (.tuple [c, d, e])) (eG : Ex G H) (k : ∀ x y z H1, Ex H H1 → Dx (Nw G H H1) x c → Dx (Nw G H H1) y d → Dx (Nw G H H1) z e → tz D (((σ.set i (some x)).set j (some y)).set l (some z)) H1) :
    tSeq (tAsg te (gTup K 3 (gCons (gName i) (gCons (gName j) (gCons (gName l) gNil))))) tz D σ H :=
  hv H eG _ fun v H1 e1 hd => by
    obtain ⟨a, xs, rfl, hl, al⟩ := dx_tup hd
    cases al with
    | cons h1 t1 =>
      cases t1 with
      | cons h2 t2 =>
        cases t2 with
        | cons h3 t3 =>
          cases t3
          exact ⟨a, _, rfl, st_of (nw_sub a _ hl), rfl, _, _, rfl, _, _, rfl, _, _, rfl, rfl, k _ _ _ H1 e1 h1 h2 h3⟩
theorem rv_inS {neg : Bool} {p : Addr} {xs : List V} {x : V} (h : SqB K G p xs) (hx : flatV x = true) (ha : xs.all flatV = true) : RV (rIn K neg) x (.ref p) G (.bl (if neg then !inV x xs else inV x xs)) := fun H1 e _ q => ⟨p, xs, rfl, sqb_ex e h, hx, ha, q H1 (Ex.refl H1)⟩
/-- x not in xs, ints -/
theorem ev_ninN {v : V} {k : Nat} {b : Bool} {os : List Nat} {ta : TE} (h : Ev ta σ G (.int (k : Int))) (h2 : Ev tl σ G v) (hd : Dx G v (seqD b (natsD os))) : Ev (tOp (rIn K true) ta tl) σ G (.bl (!(decide (k ∈ os)))) := by
  obtain ⟨a, xs, rfl, hx, al⟩ := dx_seq (K := K) hd
  obtain rfl := dx_nats al
  rw [← inV_nats]
  exact ev_op h h2 (rv_inS hx rfl (flat_nats os))
theorem ev_isTup {a C dx : Addr} {fs : List (Str × V)} {b : Bool} {T : String} (h : Ev tl σ G (.ref a)) (ha : G a = some (.ins C dx fs)) (cl : Cls K C) (h1 : PySem.W.findIn K (.ref C) "__class__" = some (some (.builtin "object.__class__")))
    (h2 : PySem.W.specialIn K (.builtin "object.__class__") "__get__" = some (some (.builtin "getset_descriptor.__get__"))) (h3 : PySem.W.takesIn K (.builtin "object.__class__") = some true) (h4 : PySem.W.mroIn K C (.type "object") = some true) (hk : PySem.W.kitOne K (.ref C) (.type T) = some b) :
    Ev (tCB (rIsi K) (tCons tl (tCons (tC (.ty T)) tNil))) σ G (.bl b) := fun H1 e Q q =>
  h H1 e _ fun H2 e2 => ⟨.ref a, .ty T, _, .type T, b, rfl, .ty T, .base (.ins ((e.trans e2) _ _ ha) cl h1 h2 h3 h4), hk, q H2 e2⟩
end
/-- the item: a datum, or a layout -/
def ItAt (K : PySem.W.Frag) (v : V) (o : Option PyData) (H : Hp) : Prop := match o with
  | some d => Dx H v d
  | none => ∃ c p, v = .ref c ∧ LayAt K c p H ∧ PlanOk p
theorem ItAt.ex {K : PySem.W.Frag} {v : V} {o : Option PyData} {H H' : Hp} (h : ItAt K v o H) (e : Ex H H') : ItAt K v o H' := by
  cases o with
  | some d => exact Dx.ex e h
  | none => obtain ⟨c, p, h1, h2, h3⟩ := h; exact ⟨c, p, h1, h2.ex e, h3⟩
def smO : Option PyData → Prop
  | some d => lenD d ≤ 1000 ∧ ∀ x ∈ seqOf d, lenD x ≤ 1000
  | none => True
def blotO (p : Plan) : Option PyData → Bool
  | some d => blotD p d
  | none => false
def spIsBlot (K : PySem.W.Frag) : Sp := fun vs H Q _ => ∃ a v o, ∃ p : Plan, vs = [.ref a, v] ∧ LayAt K a p H ∧ PlanOk p ∧ ItAt K v o H ∧ smO o ∧ RetV (.bl (blotO p o)) H Q
abbrev N_is_blot : List Str := ["layout", "value", "hand", "one", "other"]
theorem sc_is_blot : FnScope N_is_blot ["layout", "value"] (defScope (topS 66)) := ⟨rfl, rfl, rfl, by decide +kernel, rfl, by decide +kernel, by decide +kernel⟩
theorem fx_is_blot (T : Txt K mg) (D_is_below : Dn P w K mg base 3 "is_below" ["value", "limit"] spIsBelow) (D_is_order : Dn P w K mg base 4 "is_order" ["layout", "value"] (spIsOrder K)) (D_team_of : Dn P w K mg base 1 "team_of" ["layout", "hand"] (spTeamOf K)) (D_mark_in : Dn P w K mg base 4 "mark_in" ["layout", "hand", "order"] (spMarkIn K)) (D_Llen : Mn P w K mg base 1 "Layout" "__len__" ["self"] (spLayLen K)) {fd : FuncData} (F : Fun K "is_blot" "is_blot" (topS 66) (He.ga K "is_blot") fd) : FnOk P w K mg base CX0 5 (He.ga K "is_blot") fd ["layout", "value"] (spIsBlot K) := by
  refine F.ok sc_is_blot (by rintro vs H Q E ⟨a, b, c, d, rfl, _⟩; rfl) (fun cdv A outer s H vs Q E hr h => ?_)
  have nd := sc_is_blot.nd
  refine ⟨_, (pss_cons (ps_if (PW.pt (pw_or (pt_not (pt_val (pe_callB (call_isiK' K rfl) (by rfl) T.z_isinstance (by decide +kernel) (pa_cons (pv 1) (pa_cons (pe_ty "tuple" (by rfl) T.z_tuple (by decide +kernel)) pa_nil))))) (pw_or (pt_cmpR op_ne (pe_callB (call_lenK K rfl) (by rfl) T.z_len (by decide +kernel) (pa_cons (pv 1) pa_nil)) pe_int (nomark _)) (pw_or1 (pt_not (pt_val (pe_fn D_is_below hr (by decide) (by rfl) (pa_cons (pe_ix (ix_tupK K rfl) (pv 1) pe_int (fun _ _ => rfl)) (pa_cons (pe_callB (call_lenI K rfl D_Llen T.t_Layout_len hr (by decide)) (by rfl) T.z_len (by decide +kernel) (pa_cons (pv 0) pa_nil)) pa_nil))))))))) (pss_one (ps_ret pe_bl)) pss_nil)
      (pss_cons (ps_asg (pv 1) (pg_tupK K rfl 3 (by rfl) (pgs_cons (pg_name (i := 2) nd rfl (by first | exact Or.inl rfl | exact Or.inr rfl)) (pgs_cons (pg_name (i := 3) nd rfl (by first | exact Or.inl rfl | exact Or.inr rfl)) (pgs_cons (pg_name (i := 4) nd rfl (by first | exact Or.inl rfl | exact Or.inr rfl)) pgs_nil)))))
      (pss_cons (ps_if (PW.pt (pw_or (pt_not (pt_val (pe_fn D_is_order hr (by decide) (by rfl) (pa_cons (pv 0) (pa_cons (pv 3) pa_nil))))) (pw_or (pt_not (pt_val (pe_fn D_is_order hr (by decide) (by rfl) (pa_cons (pv 0) (pa_cons (pv 4) pa_nil))))) (pw_or (pt_cmpR (op_ninK K rfl) (pv 2) (pv 3) (by rfl)) (pw_or1 (pt_cmpR (op_ninK K rfl) (pv 2) (pv 4) (by rfl))))))) (pss_one (ps_ret pe_bl)) pss_nil)
      (pss_cons (ps_if (PW.pt (pw_or (pt_cmpR op_ne (pe_fn D_team_of hr (by decide) (by rfl) (pa_cons (pv 0) (pa_cons (pe_ix (ix_seqK K rfl) (pv 3) pe_int (fun _ _ => rfl)) pa_nil))) pe_int (nomark _)) (pw_or1 (pt_cmpR op_ne (pe_fn D_team_of hr (by decide) (by rfl) (pa_cons (pv 0) (pa_cons (pe_ix (ix_seqK K rfl) (pv 4) pe_int (fun _ _ => rfl)) pa_nil))) pe_int (nomark _))))) (pss_one (ps_ret pe_bl)) pss_nil)
      (pss_one (ps_ret (pe_cmpR (op_eqDK K rfl hr) (pe_fn D_mark_in hr (by decide) (by rfl) (pa_cons (pv 0) (pa_cons (pv 2) (pa_cons (pe_callTy (call_listK K rfl) (by rfl) T.z_list (by decide +kernel) (pa_cons (pv 3) pa_nil)) pa_nil)))) (pe_fn D_mark_in hr (by decide) (by rfl) (pa_cons (pv 0) (pa_cons (pv 2) (pa_cons (pe_callTy (call_listK K rfl) (by rfl) T.z_list (by decide +kernel) (pa_cons (pv 4) pa_nil)) pa_nil)))) (nomark _)))))))), ?_⟩
  obtain ⟨a, v, o, p, rfl, l, ok, hd, hz, q⟩ := h
  cases o with
  | none =>
    obtain ⟨c, p', rfl, l2, _⟩ := hd
    obtain ⟨dx, t, f, g, pq, ha, _⟩ := id l2
    refine q_when (b := true) (et_or' (a := true) (b := true) (et_is (et_not (et_B (ev_isTup (ev_var rfl) ha T.c_Layout T.o_class T.o_get T.o_tak T.o_mro T.k_Layout_tuple))) rfl) (fun z => Bool.noConfusion z) rfl) (fun _ H1 e1 => ?_) (fun hf => Bool.noConfusion hf)
    exact s_ret ev_c fun H2 e2 => q _ (e1.trans e2)
  | some d =>
    have hd : Dx H v d := hd
    have qd : RetV (.bl (blotD p d)) H Q := q
    by_cases ht : isTu d = true
    · obtain ⟨ds, rfl⟩ := is_tuD d ht
      obtain ⟨lx, xs, rfl, hx, al⟩ := dx_tup hd
      have hl := al.length
      by_cases h3 : ds.length = 3
      · obtain ⟨dh, da, db, rfl⟩ := len3 h3
        have hza : lenD da ≤ 1000 := hz.2 da (by simp [seqOf])
        have hzb : lenD db ≤ 1000 := hz.2 db (by simp [seqOf])
        refine q_when (b := !(belowD p.many dh)) (et_or' (a := false) (et_is (et_not (et_B (ev_tuple (ev_var rfl) hd))) rfl) (fun _ => et_or' (a := false) (et_is (et_test (ev_op (ev_lenT (ev_var rfl) hx) ev_c (rv_ne rfl))) (by rw [hl] <;> rfl)) (fun _ => et_not (et_B (ev_fnD (ed_cons (ed_ixT (i := 0) (d := dh) (ed_ev (ev_var rfl) hd) ev_c rfl) (ed_cons (d := .int (p.many : Int)) (ed_ev (ev_lenLay (ev_var rfl) l ok) (.int _)) ed_nil)) ?_))) rfl) rfl) (fun hc H1 e1 => ?_) (fun hc H1 e1 => ?_)
        · intro G' H1 vs eg eg2 hvs Q r
          cases hvs with
          | cons h1 t1 =>
            cases t1 with
            | cons h2 t2 =>
              cases t2
              cases dx_int h2
              exact ⟨_, dh, (p.many : Int), rfl, h1.ex eg2, r⟩
        · refine s_ret ev_c fun H2 e2 => ?_
          have e : blotD p (.tuple [dh, da, db]) = false := by
            show (belowD p.many dh && blot3 p dh da db) = false
            rw [nb_of hc, Bool.false_and]
          rw [e] at qd
          exact qd _ (e1.trans e2)
        · have hb : belowD p.many dh = true := by simpa using hc
          obtain ⟨eh, hlt⟩ := below_nat hb
          have eB : blotD p (.tuple [dh, da, db]) = blot3 p dh da db := by
            show (belowD p.many dh && blot3 p dh da db) = _
            rw [hb, Bool.true_and]
          rw [eB] at qd
          refine q_trip (G := H1) (c := dh) (d := da) (e := db) (ed_ev (ev_var rfl) (hd.ex e1)) (Ex.refl _) fun vh va vb H2 e2 hvh hva hvb => ?_
          have hvh := hvh.ex nw_sub
          have hva := hva.ex nw_sub
          have hvb := hvb.ex nw_sub
          have g2 := e1.trans e2
          have l2 := l.ex g2
          rw [eh] at hvh
          cases dx_int hvh
          refine q_when (b := !(orderD p.many da) || (!(orderD p.many db) || (!(decide (natOf dh ∈ natsF da)) || !(decide (natOf dh ∈ natsF db)))))
            (et_or (et_not (et_B (ev_fn (ea_cons (ev_var rfl) (ea_cons (ev_var rfl) ea_nil)) fun H3 e Q E r => ⟨a, va, da, p, rfl, l2.ex e, ok, hva.ex e, hza, r⟩))) fun z1 => et_or (et_not (et_B (ev_fn (ea_cons (ev_var rfl) (ea_cons (ev_var rfl) ea_nil)) fun H3 e Q E r => ⟨a, vb, db, p, rfl, l2.ex e, ok, hvb.ex e, hzb, r⟩)))
              fun z2 => ?_) (fun hc H3 e3 => ?_) (fun hc H3 e3 => ?_)
          · obtain ⟨b1, ea, _, _, _⟩ := order_yes (by simpa using z1)
            obtain ⟨b2, eb, _, _, _⟩ := order_yes (by simpa using z2)
            rw [ea] at hva
            rw [eb] at hvb
            exact et_or (et_test (ev_ninN (ev_var rfl) (ev_var rfl) hva)) fun _ => et_test (ev_ninN (ev_var rfl) (ev_var rfl) hvb)
          · refine s_ret ev_c fun H4 e4 => ?_
            have e : blot3 p dh da db = false := by
              unfold blot3
              rw [hc] <;> rfl
            rw [e] at qd
            exact qd _ ((g2.trans e3).trans e4)
          · have hc0 := hc
            simp only [Bool.or_eq_false_iff] at hc
            obtain ⟨z1, z2, z3, z4⟩ := hc
            obtain ⟨b1, ea, nea, nda, lta⟩ := order_yes (by simpa using z1)
            obtain ⟨b2, eb, neb, ndb, ltb⟩ := order_yes (by simpa using z2)
            have ma : natOf dh ∈ natsF da := by simpa using z3
            have mb : natOf dh ∈ natsF db := by simpa using z4
            have g3 := g2.trans e3
            have l3 := l.ex g3
            have hva3 := hva.ex e3
            have hvb3 := hvb.ex e3
            have hza' : (natsF da).length ≤ 1000 := by
              have e : (natsF da).length = lenD da := by
                unfold natsF
                rw [List.length_map]
                cases da <;> rfl
              rw [e]; exact hza
            have hzb' : (natsF db).length ≤ 1000 := by
              have e : (natsF db).length = lenD db := by
                unfold natsF
                rw [List.length_map]
                cases db <;> rfl
              rw [e]; exact hzb
            have first : ∀ {os : List Nat}, os ≠ [] → (natsD os)[0]? = some (.int (os.getD 0 0 : Nat)) := fun {os} ne => by
              cases os with
              | nil => exact absurd rfl ne
              | cons x r => rfl
            generalize hoa : natsF da = oa at *
            generalize hob : natsF db = ob at *
            rw [ea] at hva3
            rw [eb] at hvb3
            have eqB : blot3 p dh da db = (!(!(decide (oa.getD 0 0 < p.near.length)) || decide (ob.getD 0 0 < p.near.length)) && decide (markF p oa (natOf dh) = markF p ob (natOf dh))) := by
              unfold blot3
              rw [hoa, hob, hc0] <;> rfl
            rw [eqB] at qd
            refine q_when (b := !(decide (oa.getD 0 0 < p.near.length)) || decide (ob.getD 0 0 < p.near.length))
              (et_or (et_is (et_test (ev_op (ev_fn (vs := [.ref a, .int (oa.getD 0 0 : Nat)]) (ea_cons (ev_var rfl) (ea_cons (ev_ed (ed_ixS (b := b1) (i := 0) (ed_ev (ev_var rfl) hva3) ev_c (first nea))) ea_nil)) fun H4 e Q E r => ⟨a, p, oa.getD 0 0, rfl, l3.ex e, r⟩) ev_c (rv_ne (by split <;> rfl)))) ?_)
                fun _ => et_is (et_test (ev_op (ev_fn (vs := [.ref a, .int (ob.getD 0 0 : Nat)]) (ea_cons (ev_var rfl) (ea_cons (ev_ed (ed_ixS (b := b2) (i := 0) (ed_ev (ev_var rfl) hvb3) ev_c (first neb))) ea_nil)) fun H4 e Q E r => ⟨a, p, ob.getD 0 0, rfl, l3.ex e, r⟩) ev_c (rv_ne (by split <;> rfl)))) ?_) (fun hc H4 e4 => ?_) (fun hc H4 e4 => ?_)
            · by_cases u : oa.getD 0 0 < p.near.length
              · rw [if_pos u, decide_eq_true u] <;> rfl
              · rw [if_neg u, decide_eq_false u] <;> rfl
            · by_cases u : ob.getD 0 0 < p.near.length
              · rw [if_pos u, decide_eq_true u] <;> rfl
              · rw [if_neg u, decide_eq_false u] <;> rfl
            · refine s_ret ev_c fun H5 e5 => ?_
              rw [hc] at qd
              exact qd _ ((g3.trans e4).trans e5)
            · have l4 := l.ex (g3.trans e4)
              rw [hc] at qd
              refine s_ret (ev_is (ev_eqD (c := markD (markF p oa (natOf dh))) (d := markD (markF p ob (natOf dh)))
                (ep_callAs (R := consP (fun v _ => v = .ref a) (consP (fun v _ => v = .int (natOf dh : Nat)) (consP (fun v H => Dx H v (.list (natsD oa))) nilP))) up_dx (eas_cons up_s (up_consP up_s (up_consP up_dx up_nilP)) (ep_ev (ev_var rfl) fun _ _ => rfl) (eas_cons up_s (up_consP up_dx up_nilP) (ep_ev (ev_var rfl) fun _ _ => rfl) (eas_cons up_dx up_nilP (ed_listS (b := b1) (ed_ev (ev_var rfl) (hva3.ex e4))) eas_nil)))
                  fun G' H5 vs eg eg2 hvs Q r => ?_)
                (ep_callAs (R := consP (fun v _ => v = .ref a) (consP (fun v _ => v = .int (natOf dh : Nat)) (consP (fun v H => Dx H v (.list (natsD ob))) nilP))) up_dx (eas_cons up_s (up_consP up_s (up_consP up_dx up_nilP)) (ep_ev (ev_var rfl) fun _ _ => rfl) (eas_cons up_s (up_consP up_dx up_nilP) (ep_ev (ev_var rfl) fun _ _ => rfl) (eas_cons up_dx up_nilP (ed_listS (b := b2) (ed_ev (ev_var rfl) (hvb3.ex e4))) eas_nil)))
                  fun G' H5 vs eg eg2 hvs Q r => ?_) (fun H v => dp_mark) (fun H v => dp_mark) rfl rfl) ?_) fun H5 e5 => qd _ ((g3.trans e4).trans e5)
              · obtain ⟨v1, r1, rfl, rfl, v2, r2, rfl, rfl, v3, r3, rfl, h3, rfl⟩ := hvs
                exact ⟨G', a, v3, p, oa, natOf dh, rfl, eg2, l4.ex eg, ok, h3, hza', lta, ma, r⟩
              · obtain ⟨v1, r1, rfl, rfl, v2, r2, rfl, rfl, v3, r3, rfl, h3, rfl⟩ := hvs
                exact ⟨G', a, v3, p, ob, natOf dh, rfl, eg2, l4.ex eg, ok, h3, hzb', ltb, mb, r⟩
              · rw [eqv_mark]
                rfl
      · refine q_when (b := true) (et_or' (a := false) (et_is (et_not (et_B (ev_tuple (ev_var rfl) hd))) rfl) (fun _ => et_or' (a := true) (b := true) (et_is (et_test (ev_op (ev_lenT (ev_var rfl) hx) ev_c (rv_ne rfl))) ?_) (fun z => Bool.noConfusion z) rfl) rfl) (fun _ H1 e1 => ?_) (fun hf => Bool.noConfusion hf)
        · rw [hl]
          refine bn_of (decide_eq_false fun z => h3 ?_)
          have := V.int.inj z
          omega
        · rw [blot_ne3 h3] at qd
          exact s_ret ev_c fun H2 e2 => qd _ (e1.trans e2)
    · have ht2 : isTu d = false := Bool.eq_false_iff.mpr ht
      rw [blot_notT ht2] at qd
      refine q_when (b := true) (et_or' (a := true) (b := true) (et_is (et_not (et_B (ev_tuple (ev_var rfl) hd))) (by rw [ht2] <;> rfl)) (fun z => Bool.noConfusion z) rfl) (fun _ H1 e1 => ?_) (fun hf => Bool.noConfusion hf)
      exact s_ret ev_c fun H2 e2 => qd _ (e1.trans e2)
theorem dn_is_blot (T : Txt K mg) (D_is_below : Dn P w K mg base 3 "is_below" ["value", "limit"] spIsBelow) (D_is_order : Dn P w K mg base 4 "is_order" ["layout", "value"] (spIsOrder K)) (D_team_of : Dn P w K mg base 1 "team_of" ["layout", "hand"] (spTeamOf K)) (D_mark_in : Dn P w K mg base 4 "mark_in" ["layout", "hand", "order"] (spMarkIn K)) (D_Llen : Mn P w K mg base 1 "Layout" "__len__" ["self"] (spLayLen K)) : Dn P w K mg base 5 "is_blot" ["layout", "value"] (spIsBlot K) := by
  obtain ⟨fd, F⟩ := T.f_is_blot.fn
  exact ⟨⟨_, fd, fx_is_blot T D_is_below D_is_order D_team_of D_mark_in D_Llen F, T.f_is_blot.g, F.kp, F.binds (fun _ _ _ _ _ _ us hl => match us, hl with | [_, _], _ => rfl)⟩⟩
end
end SF
set_option Elab.async false
set_option linter.all false
/-! ### the kinds of hands -/
namespace SF
open PySem PySem.Spec PyProof.Rows L2 Evl
abbrev KEnt := (Nat × Nat) × List Nat
def addH (ks : List KEnt) (k : Nat × Nat) (h : Nat) : List KEnt := match ks.findIdx? (fun e => e.1 == k) with
  | some j => ks.modify j (fun e => (e.1, e.2 ++ [h]))
  | none => ks ++ [(k, [h])]
def handK (p : Plan) (n : Nat) : Nat × Nat := (if n < p.near.length then 0 else 1, (p.near ++ p.far).getD n 0)
def kindsUp (p : Plan) : Nat → List KEnt
  | 0 => []
  | n + 1 => addH (kindsUp p n) (handK p n) n
def kindsF (p : Plan) : List KEnt := kindsUp p p.many
def kindD (e : KEnt) : PyData := .tuple [.int (e.1.1 : Nat), .int (e.1.2 : Nat), .list (natsD e.2)]
def kindsD (ks : List KEnt) : PyData := .list (ks.map kindD)
def totalK (ks : List KEnt) : Nat := (ks.map fun e => e.2.length).sum
structure KOk (p : Plan) (n : Nat) (ks : List KEnt) : Prop where
  total : totalK ks = n
  len : ks.length ≤ n
  ne : ∀ e ∈ ks, e.2 ≠ []
  nd : ∀ e ∈ ks, e.2.Nodup
  lt : ∀ e ∈ ks, ∀ h ∈ e.2, h < n
  pl : ∀ e ∈ ks, e.1.2 < p.ns.length
  disj : ∀ (i j : Nat) (e e' : KEnt) (h : Nat), ks[i]? = some e → ks[j]? = some e' → h ∈ e.2 → h ∈ e'.2 → i = j
theorem total_modify {f : KEnt → KEnt} : ∀ {ks : List KEnt} {j : Nat} {e : KEnt}, ks[j]? = some e → (f e).2.length = e.2.length + 1 → totalK (ks.modify j f) = totalK ks + 1
  | [], _, _, h, _ => by simp at h
  | a :: r, 0, e, h, l => by
    obtain rfl : a = e := Option.some.inj h
    unfold totalK
    rw [List.modify_zero_cons, List.map_cons, List.map_cons, List.sum_cons, List.sum_cons, l]
    omega
  | a :: r, j + 1, e, h, l => by
    have ih := total_modify (f := f) (ks := r) (j := j) (by simpa using h) l
    unfold totalK at ih ⊢
    rw [List.modify_succ_cons, List.map_cons, List.map_cons, List.sum_cons, List.sum_cons, ih]
    omega
theorem mem_modify {f : KEnt → KEnt} : ∀ {ks : List KEnt} {j : Nat} {x : KEnt}, x ∈ ks.modify j f → x ∈ ks ∨ ∃ e, ks[j]? = some e ∧ x = f e
  | [], j, x, h => by cases j <;> simp at h
  | a :: r, 0, x, h => by
    rw [List.modify_zero_cons] at h
    rcases List.mem_cons.mp h with z | z
    · exact .inr ⟨a, rfl, z⟩
    · exact .inl (List.mem_cons_of_mem _ z)
  | a :: r, j + 1, x, h => by
    rw [List.modify_succ_cons] at h
    rcases List.mem_cons.mp h with z | z
    · exact .inl (by rw [z]; exact List.mem_cons_self)
    · rcases mem_modify z with y | ⟨e, h1, h2⟩
      · exact .inl (List.mem_cons_of_mem _ y)
      · exact .inr ⟨e, by simpa using h1, h2⟩
theorem KOk.add {p : Plan} {n : Nat} {ks : List KEnt} {k : Nat × Nat} (o : KOk p n ks) (hk : k.2 < p.ns.length) : KOk p (n + 1) (addH ks k n) := by
  unfold addH
  split
  · rename_i j hj
    obtain ⟨hlt, _, _⟩ := List.findIdx?_eq_some_iff_getElem.mp hj
    have hje : ks[j]? = some ks[j] := List.getElem?_eq_getElem hlt
    have hmem : ks[j] ∈ ks := List.getElem_mem hlt
    refine ⟨?_, by rw [List.length_modify]; have := o.len; omega, fun e he => ?_, fun e he => ?_, fun e he h hh => ?_, fun e he => ?_, fun i i' e e' h h1 h2 m1 m2 => ?_⟩
    · rw [total_modify hje (by simp), o.total]
    · rcases mem_modify he with z | ⟨e0, h1, rfl⟩
      · exact o.ne e z
      · simp
    · rcases mem_modify he with z | ⟨e0, h1, rfl⟩
      · exact o.nd e z
      · obtain rfl : ks[j] = e0 := by rw [hje] at h1; exact Option.some.inj h1
        refine List.nodup_append.mpr ⟨o.nd _ hmem, by simp, fun a ha b hb => ?_⟩
        obtain rfl : b = n := by simpa using hb
        have := o.lt _ hmem a ha
        omega
    · rcases mem_modify he with z | ⟨e0, h1, rfl⟩
      · have := o.lt e z h hh
        omega
      · obtain rfl : ks[j] = e0 := by rw [hje] at h1; exact Option.some.inj h1
        rcases List.mem_append.mp hh with z | z
        · have := o.lt _ hmem h z
          omega
        · obtain rfl : h = n := by simpa using z
          omega
    · rcases mem_modify he with z | ⟨e0, h1, rfl⟩
      · exact o.pl e z
      · obtain rfl : ks[j] = e0 := by rw [hje] at h1; exact Option.some.inj h1
        have := o.pl _ hmem
        exact this
    · rw [List.getElem?_modify] at h1 h2
      obtain ⟨f, hf, rfl⟩ := Option.map_eq_some_iff.mp h1
      obtain ⟨f', hf', rfl⟩ := Option.map_eq_some_iff.mp h2
      have old : ∀ (i : Nat) (f : KEnt), ks[i]? = some f → h ∈ (if j = i then (f.1, f.2 ++ [n]) else f).2 → h ∈ f.2 ∨ (h = n ∧ i = j) := fun i f hf hm => by
        by_cases c : j = i
        · rw [if_pos c] at hm
          rcases List.mem_append.mp hm with z | z
          · exact .inl z
          · exact .inr ⟨by simpa using z, c.symm⟩
        · rw [if_neg c] at hm
          exact .inl hm
      have nn : ∀ (i : Nat) (f : KEnt), ks[i]? = some f → n ∉ f.2 := fun i f hf hm => by
        have := o.lt f (List.mem_of_getElem? hf) n hm
        omega
      rcases old i f hf m1 with a | ⟨a, a2⟩
      · rcases old i' f' hf' m2 with b | ⟨b, b2⟩
        · exact o.disj i i' f f' h hf hf' a b
        · subst b; exact absurd a (nn i f hf)
      · rcases old i' f' hf' m2 with b | ⟨b, b2⟩
        · subst a; exact absurd b (nn i' f' hf')
        · rw [a2, b2]
  · refine ⟨?_, by rw [List.length_append, List.length_singleton]; have := o.len; omega, fun e he => ?_, fun e he => ?_, fun e he h hh => ?_, fun e he => ?_, fun i i' e e' h h1 h2 m1 m2 => ?_⟩
    · have := o.total
      unfold totalK at this ⊢
      rw [List.map_append, List.sum_append, this] <;> simp
    · rcases List.mem_append.mp he with z | z
      · exact o.ne e z
      · obtain rfl : e = (k, [n]) := by simpa using z
        simp
    · rcases List.mem_append.mp he with z | z
      · exact o.nd e z
      · obtain rfl : e = (k, [n]) := by simpa using z
        simp
    · rcases List.mem_append.mp he with z | z
      · have := o.lt e z h hh
        omega
      · obtain rfl : e = (k, [n]) := by simpa using z
        obtain rfl : h = n := by simpa using hh
        omega
    · rcases List.mem_append.mp he with z | z
      · exact o.pl e z
      · obtain rfl : e = (k, [n]) := by simpa using z
        exact hk
    · have at_ : ∀ (i : Nat) (e : KEnt), (ks ++ [(k, [n])])[i]? = some e → ks[i]? = some e ∨ (i = ks.length ∧ e = (k, [n])) := fun i e h => by
        rcases Nat.lt_or_ge i ks.length with c | c
        · rw [List.getElem?_append_left c] at h; exact .inl h
        · rw [List.getElem?_append_right c] at h
          cases hz : i - ks.length with
          | zero =>
            rw [hz] at h
            cases h
            exact .inr ⟨by omega, rfl⟩
          | succ m => rw [hz] at h; cases h
      have nn : ∀ (i : Nat) (f : KEnt), ks[i]? = some f → n ∉ f.2 := fun i f hf hm => by
        have := o.lt f (List.mem_of_getElem? hf) n hm
        omega
      rcases at_ i e h1 with a | ⟨a, rfl⟩
      · rcases at_ i' e' h2 with b | ⟨b, rfl⟩
        · exact o.disj i i' e e' h a b m1 m2
        · obtain rfl : h = n := by simpa using m2
          exact absurd m1 (nn i e a)
      · rcases at_ i' e' h2 with b | ⟨b, rfl⟩
        · obtain rfl : h = n := by simpa using m1
          exact absurd m2 (nn i' e' b)
        · rw [a, b]
theorem len_le_total : ∀ {ks : List KEnt} {e : KEnt}, e ∈ ks → e.2.length ≤ totalK ks
  | a :: r, e, h => by
    unfold totalK
    rw [List.map_cons, List.sum_cons]
    rcases List.mem_cons.mp h with z | z
    · rw [z]; omega
    · have := len_le_total z
      unfold totalK at this
      omega
theorem place_lt {p : Plan} (ok : PlanOk p) {n : Nat} (h : n < p.many) : (p.near ++ p.far).getD n 0 < p.ns.length := by
  have hlt : n < (p.near ++ p.far).length := by rw [List.length_append]; exact h
  rw [List.getD_eq_getElem?_getD, List.getElem?_eq_getElem hlt, Option.getD_some]
  rcases List.mem_append.mp (List.getElem_mem hlt) with z | z
  · exact ok.lt1 _ z
  · exact ok.lt2 _ z
theorem kindsUp_ok {p : Plan} (ok : PlanOk p) : ∀ n, n ≤ p.many → KOk p n (kindsUp p n)
  | 0, _ => ⟨rfl, Nat.le_refl _, fun e h => absurd h (by simp [kindsUp]), fun e h => absurd h (by simp [kindsUp]), fun e h => absurd h (by simp [kindsUp]), fun e h => absurd h (by simp [kindsUp]), fun i j e e' h h1 => by simp [kindsUp] at h1⟩
  | n + 1, h => (kindsUp_ok ok n (by omega)).add (place_lt ok (by omega))
theorem kindsF_ok {p : Plan} (ok : PlanOk p) : KOk p p.many (kindsF p) := kindsUp_ok ok _ (Nat.le_refl _)
end SF
set_option Elab.async false
set_option linter.all false
set_option maxRecDepth 100000
set_option maxHeartbeats 4000000
namespace SF
open PySem PySem.Spec PyProof.Rows L2 Evl
section
variable {P : Program} {w : World} {K : PySem.W.Frag} {mg : Str → Option Value} {base : Heap}

section
variable {K : PySem.W.Frag} {σ : L2.St} {G H H0 : Hp} {te : TE} {g : TG} {ds : List PyData}
theorem go_drop {D : Ends} (h : te σ H fun _ H1 => D.nx σ H1) : tDrop te D σ H := h
theorem go_BM {T : String} {r : V → List V → Hp → VK → Prop} {t : TA} {Q : VK} (h : te σ H fun x H1 => tyV K T x H1 ∧ t σ H1 fun xs H2 => r x xs H2 Q) : tBM K T r te t σ H Q := h
theorem go_BMN {P : Program} {w : World} {r : V → List V → Hp → VK → Prop} {t : TA} {Q : VK} (h : te σ H fun x H1 => (∃ a xs, x = .ref a ∧ H1 a = some (NdO P w a xs)) ∧ t σ H1 fun xs H2 => r x xs H2 Q) : tBMN P w r te t σ H Q := h
theorem go_var {i : Nat} {v : V} {Q : VK} (h : σ[i]? = some (some v)) (k : Q v H) : tVar i σ H Q := ⟨v, h, k⟩
theorem go_cons {tr : TA} {Q : List V → Hp → Prop} (h : te σ H fun x H1 => tr σ H1 fun vs H2 => Q (x :: vs) H2) : tCons te tr σ H Q := h
theorem go_nil {Q : List V → Hp → Prop} (h : Q [] H) : tNil σ H Q := h
theorem go_eu {ta : TA} {vs : List V} {Q : VK} (h : EvU (tTup ta) σ H vs) (k : ∀ p H2, H p = none → Ex H H2 → H2 p = some (.tup vs) → Q (.ref p) H2) : tTup ta σ H Q := h H (Ex.refl H) Q k
theorem go_el {vs : List V} {Q : VK} (h : EvL te σ H vs) (k : ∀ p H2, H p = none → Ex H H2 → H2 p = some (.lst vs) → Q (.ref p) H2) : te σ H Q := h H (Ex.refl H) Q k
/-- a for over enumerate of a list that is made for it -/
theorem q_forEP {D : Ends} {tu tz : TS} (hv : EvD te σ G (.list ds)) (eG : Ex G H) (k : ∀ a xs H1, Ex H H1 → Nw G H H1 a = some (.lst xs) → DxAll (Nw G H H1) xs ds → ∃ Pv : Nat → L2.St → Hp → Prop, Pv 0 σ H1 ∧ (∀ i σ' H', i ≤ xs.length → Pv i σ' H' → Ex (Nw G H H1) H') ∧
    (∀ i x σ' H' Tp, xs[i]? = some x → Pv i σ' H' → H' Tp = none → g (.ref Tp) σ' (upd H' Tp (.tup [.int (i : Nat), x])) fun σ2 H2 => tu { D with nx := Pv (i + 1), ct := Pv (i + 1), bk := tz D } σ2 H2) ∧ (∀ σ' H', Pv xs.length σ' H' → tz D σ' H')) : tSeq (tFor (iEnum K (tCons te tNil)) g tu) tz D σ H :=
  hv H eG _ fun v H1 e1 hd => by
    obtain ⟨a, xs, rfl, hl, al⟩ := dx_lst hd
    obtain ⟨Pv, h0, he, hs, hz⟩ := k a xs H1 e1 hl al
    exact ⟨a, xs, rfl, sq_of (nw_val hl), for_it (D := { D with nx := tz D }) walk_enum Pv h0 (fun i σ' H' hi p => sq_of (he i σ' H' hi p _ _ hl)) (fun i x σ' H' H'' hi p y => by
      obtain ⟨T, c, d, rfl, hT, rfl, hc, hd⟩ := y
      cases Option.some.inj hc
      exact hs i d σ' H' T hd p hT) hz⟩
end
def keyN (k : Nat × Nat) : NestedKey := .tup [.num (k.1 : Nat), .num (k.2 : Nat)]
theorem keyN_inj {a b : Nat × Nat} (h : keyN a = keyN b) : a = b := by
  obtain ⟨x, y⟩ := a
  obtain ⟨z, w⟩ := b
  unfold keyN at h
  injection h with h
  injection h with h1 h2
  injection h1 with h1
  injection h2 with h2 _
  injection h2 with h2
  have e1 : x = z := by omega
  have e2 : y = w := by omega
  rw [e1, e2]
/-- the entries of the dict of kinds -/
structure KP (H0 H : Hp) (xs : List NEnt) (ks : List KEnt) : Prop where
  len : xs.length = ks.length
  each : ∀ (j : Nat) (x : NEnt) (e : KEnt), xs[j]? = some x → ks[j]? = some e → x.1 = keyN e.1 ∧ H0 x.2.1 = none ∧ H x.2.1 = some (.tup [.int (e.1.1 : Nat), .int (e.1.2 : Nat)]) ∧ ∃ l, x.2.2 = .ref l ∧ H0 l = none ∧ H l = some (.lst (natsV e.2))
  nd : (xs.map (·.2.2)).Nodup
theorem KP.ex {H0 H H' : Hp} {xs : List NEnt} {ks : List KEnt} (k : KP H0 H xs ks) (e : Ex H H') : KP H0 H' xs ks :=
  ⟨k.len, fun j x en h1 h2 => let ⟨a, b, c, l, d, f, g⟩ := k.each j x en h1 h2; ⟨a, b, e _ _ c, l, d, f, e _ _ g⟩, k.nd⟩
theorem KP.at {H0 H : Hp} {xs : List NEnt} {ks : List KEnt} (k : KP H0 H xs ks) {j : Nat} {x : NEnt} (h : xs[j]? = some x) : ∃ e, ks[j]? = some e := by
  have lt := (List.getElem?_eq_some_iff.mp h).1
  exact ⟨ks[j]'(by rw [← k.len]; exact lt), List.getElem?_eq_getElem _⟩
theorem KP.keys {H0 H : Hp} {xs : List NEnt} {ks : List KEnt} (k : KP H0 H xs ks) : KeysAt H xs := fun x hx => by
  obtain ⟨j, hj⟩ := List.mem_iff_getElem?.mp hx
  obtain ⟨e, he⟩ := k.at hj
  obtain ⟨h1, _, h3, _⟩ := k.each j x e hj he
  exact ⟨.tuple [.int (e.1.1 : Nat), .int (e.1.2 : Nat)], rfl, Nat.le_of_ble_eq_true rfl, h1, .tup h3 (.cons (.int _) (.cons (.int _) .nil))⟩
theorem KP.frameG {H0 H : Hp} {xs : List NEnt} {ks : List KEnt} {f : Addr} {u : HO} (k : KP H0 H xs ks) (n1 : ∀ v, H f ≠ some (.tup v)) (n2 : ∀ x ∈ xs, x.2.2 ≠ .ref f) : KP H0 (upd H f u) xs ks :=
  ⟨k.len, fun j x en h1 h2 => by
    obtain ⟨a, b, c, l, d, e, g⟩ := k.each j x en h1 h2
    refine ⟨a, b, ?_, l, d, e, ?_⟩
    · rw [upd_ne (fun z => n1 _ (z ▸ c))]; exact c
    · rw [upd_ne (fun z => n2 x (List.mem_of_getElem? h1) (by rw [d, z]))]; exact g, k.nd⟩
/-- a change where neither a key nor a list of it stands -/
theorem KP.frame {H0 H : Hp} {xs : List NEnt} {ks : List KEnt} {f : Addr} {o u : HO} (k : KP H0 H xs ks) (hf : H f = some o) (n1 : ∀ v, o ≠ .tup v) (n2 : ∀ v, o ≠ .lst v) : KP H0 (upd H f u) xs ks :=
  ⟨k.len, fun j x en h1 h2 => by
    obtain ⟨a, b, c, l, d, e, g⟩ := k.each j x en h1 h2
    refine ⟨a, b, ?_, l, d, e, ?_⟩
    · rw [upd_ne (fun z => by rw [z, hf] at c; exact n1 _ (Option.some.inj c))]; exact c
    · rw [upd_ne (fun z => by rw [z, hf] at g; exact n2 _ (Option.some.inj g))]; exact g, k.nd⟩
theorem KP.found {H0 H : Hp} {xs : List NEnt} {ks : List KEnt} (kp : KP H0 H xs ks) {k : Nat × Nat} {v : V} (h : valN xs (keyN k) = some v) : ∃ j x e, xs[j]? = some x ∧ ks[j]? = some e ∧ e.1 = k ∧ x.2.2 = v ∧ ks.findIdx? (fun e => e.1 == k) = some j := by
  unfold valN at h
  obtain ⟨x, hx, rfl⟩ := Option.map_eq_some_iff.mp h
  obtain ⟨hp, j, hj, e1, hno⟩ := List.find?_eq_some_iff_getElem.mp hx
  have hxj : xs[j]? = some x := by rw [List.getElem?_eq_getElem hj, e1]
  obtain ⟨e, he⟩ := kp.at hxj
  have hk := kp.each j x e hxj he
  have hek : e.1 = k := keyN_inj (by rw [← hk.1]; exact of_decide_eq_true hp)
  have hjk : j < ks.length := by rw [← kp.len]; exact hj
  have hje : ks[j] = e := by rw [List.getElem?_eq_getElem hjk] at he; exact Option.some.inj he
  refine ⟨j, x, e, hxj, he, hek, rfl, List.findIdx?_eq_some_iff_getElem.mpr ⟨hjk, by rw [hje, hek]; exact beq_self_eq_true _, fun m hm z => ?_⟩⟩
  have hmx : m < xs.length := by omega
  have hmk : m < ks.length := by omega
  have hk2 := kp.each m xs[m] ks[m] (List.getElem?_eq_getElem hmx) (List.getElem?_eq_getElem hmk)
  have e2 : ks[m].1 = k := eq_of_beq z
  have no := hno m hm
  rw [hk2.1, e2] at no
  simp at no
theorem KP.missing {H0 H : Hp} {xs : List NEnt} {ks : List KEnt} (kp : KP H0 H xs ks) {k : Nat × Nat} (h : valN xs (keyN k) = none) : ks.findIdx? (fun e => e.1 == k) = none := by
  unfold valN at h
  have h2 := Option.map_eq_none_iff.mp h
  rw [List.findIdx?_eq_none_iff]
  intro e he
  obtain ⟨j, hj⟩ := List.mem_iff_getElem?.mp he
  have hjk := (List.getElem?_eq_some_iff.mp hj).1
  have hjx : j < xs.length := by rw [kp.len]; exact hjk
  have hk := kp.each j xs[j] e (List.getElem?_eq_getElem hjx) hj
  have no := List.find?_eq_none.mp h2 xs[j] (List.getElem_mem hjx)
  cases hb : e.1 == k with
  | false => rfl
  | true =>
    rw [hk.1, eq_of_beq hb] at no
    simp at no
theorem KP.put {H0 H : Hp} {xs : List NEnt} {ks : List KEnt} (kp : KP H0 H xs ks) {j : Nat} {x : NEnt} {e : KEnt} {l : Addr} {h : Nat} (hx : xs[j]? = some x) (he : ks[j]? = some e) (hl : x.2.2 = .ref l) : KP H0 (upd H l (.lst (natsV e.2 ++ [.int (h : Nat)]))) xs (ks.modify j fun e => (e.1, e.2 ++ [h])) := by
  obtain ⟨_, _, _, l', hl', _, hH⟩ := kp.each j x e hx he
  rw [hl] at hl'
  cases hl'
  refine ⟨by rw [List.length_modify]; exact kp.len, fun m y en h1 h2 => ?_, kp.nd⟩
  rw [List.getElem?_modify] at h2
  obtain ⟨en0, h3, h4⟩ := Option.map_eq_some_iff.mp h2
  obtain ⟨a, b, c, l2, d, e2, g⟩ := kp.each m y en0 h1 h3
  have nk : ∀ v, H l ≠ some (.tup v) := fun v z => by rw [hH] at z; cases z
  by_cases hm : j = m
  · subst hm
    rw [hx] at h1
    cases h1
    rw [he] at h3
    cases h3
    rw [if_pos rfl] at h4
    subst h4
    rw [hl] at d
    cases d
    refine ⟨a, b, ?_, l, hl, e2, ?_⟩
    · rw [upd_ne (fun z => nk _ (z ▸ c))]; exact c
    · rw [upd_same]
      unfold natsV
      rw [List.map_append] <;> rfl
  · rw [if_neg hm] at h4
    subst h4
    refine ⟨a, b, ?_, l2, d, e2, ?_⟩
    · rw [upd_ne (fun z => nk _ (z ▸ c))]; exact c
    · have nl : l2 ≠ l := fun z => by
        subst z
        have hj := (List.getElem?_eq_some_iff.mp hx)
        have hm2 := (List.getElem?_eq_some_iff.mp h1)
        obtain ⟨hj1, hj2⟩ := hj
        obtain ⟨hm1, hm3⟩ := hm2
        have nd := kp.nd
        unfold List.Nodup at nd
        rw [List.pairwise_iff_getElem] at nd
        rcases Nat.lt_or_gt_of_ne hm with c | c
        · have := nd j m (by rw [List.length_map]; exact hj1) (by rw [List.length_map]; exact hm1) c
          rw [List.getElem_map, List.getElem_map, hj2, hm3, hl, d] at this
          exact this rfl
        · have := nd m j (by rw [List.length_map]; exact hm1) (by rw [List.length_map]; exact hj1) c
          rw [List.getElem_map, List.getElem_map, hj2, hm3, hl, d] at this
          exact this rfl
      rw [upd_ne nl]; exact g
theorem KP.snoc {H0 H : Hp} {xs : List NEnt} {ks : List KEnt} (kp : KP H0 H xs ks) {k : Nat × Nat} {b l : Addr} {h : Nat} (hb0 : H0 b = none) (hl0 : H0 l = none) (hb : H b = some (.tup [.int (k.1 : Nat), .int (k.2 : Nat)])) (hl : H l = some (.lst (natsV [h]))) (fresh : ∀ x ∈ xs, x.2.2 ≠ .ref l) :
    KP H0 H (xs ++ [(keyN k, b, .ref l)]) (ks ++ [(k, [h])]) := by
  refine ⟨by rw [List.length_append, List.length_append, kp.len] <;> rfl, fun j x e h1 h2 => ?_, ?_⟩
  · rcases Nat.lt_or_ge j xs.length with c | c
    · rw [List.getElem?_append_left c] at h1
      rw [List.getElem?_append_left (by rw [← kp.len]; exact c)] at h2
      exact kp.each j x e h1 h2
    · rw [List.getElem?_append_right c] at h1
      rw [List.getElem?_append_right (by rw [← kp.len]; exact c), ← kp.len] at h2
      cases hj : j - xs.length with
      | zero =>
        rw [hj] at h1 h2
        cases h1
        cases h2
        exact ⟨rfl, hb0, hb, l, rfl, hl0, hl⟩
      | succ m =>
        rw [hj] at h1
        cases h1
  · rw [List.map_append, List.map_singleton]
    refine List.nodup_append.mpr ⟨kp.nd, by simp, fun a ha b hb => ?_⟩
    obtain rfl : b = V.ref l := by simpa using hb
    obtain ⟨x, hx, rfl⟩ := List.mem_map.mp ha
    exact fresh x hx
section
variable {K : PySem.W.Frag} {σ : L2.St} {G : Hp} {te : TE} {vs : List Nat} {Q : PV}
theorem turn_pairN {i j l : Nat} {x y z : V} {b T : Addr} (hT : G T = some (.tup [.ref b, z])) (hb : G b = some (.tup [x, y])) (hw : wipe ((((wipe σ vs).set i (some x)).set j (some y)).set l (some z)) vs = wipe σ vs) (he : EvP te ((((wipe σ vs).set i (some x)).set j (some y)).set l (some z)) G Q) :
    TurnP (gTup K 2 (gCons (gTup K 2 (gCons (gName i) (gCons (gName j) gNil))) (gCons (gName l) gNil))) tYes te σ vs (.ref T) G true Q := fun H1 e R R0 r _ =>
  ⟨T, _, rfl, st_of (e _ _ hT), rfl, .ref b, [z], rfl, b, _, rfl, st_of (e _ _ hb), rfl, _, _, rfl, _, _, rfl, rfl, z, [], rfl, rfl, hw, he H1 e R fun v H2 e2 p => r rfl v H2 e2 p⟩
end
def spKindsOf (K : PySem.W.Frag) : Sp := fun vs H Q _ => ∃ G a, ∃ p : Plan, vs = [.ref a] ∧ Ex G H ∧ LayAt K a p G ∧ PlanOk p ∧ RetD (kindsD (kindsF p)) G H Q
abbrev N_kinds_of : List Str := ["layout", "found", "hand", "place", "team", "hands"]
theorem sc_kinds_of : FnScope N_kinds_of ["layout"] (defScope (topS 57)) := ⟨rfl, rfl, rfl, by decide +kernel, rfl, by decide +kernel, by decide +kernel⟩
theorem dn_kinds_of (T : Txt K mg) (D_places_of : Dn P w K mg base 1 "places_of" ["layout"] (spPlacesOf K)) (D_team_of : Dn P w K mg base 1 "team_of" ["layout", "hand"] (spTeamOf K)) : Dn P w K mg base 2 "kinds_of" ["layout"] (spKindsOf K) := by
  refine dn_of T.f_kinds_of sc_kinds_of (fun _ _ _ _ _ _ us hl => match us, hl with | [_], _ => rfl) (by rintro vs H Q E ⟨a, b, c, rfl, _⟩; rfl) (fun f cdv A outer s H vs Q E hr h => ?_)
  have nd := sc_kinds_of.nd
  refine ⟨_, (pss_cons (ps_set (i := 1) nd rfl (.inl rfl) (pe_dnewN P w rfl rfl))
      (pss_cons (ps_for PassesOwn.never rfl (pi_enumK K rfl (by rfl) T.z_enumerate (pa_cons (pe_fn D_places_of hr (by decide) (by rfl) (pa_cons (pv 0) pa_nil)) pa_nil)) (pg_tupK K rfl 2 (by rfl) (pgs_cons (pg_name (i := 2) nd rfl (by first | exact Or.inl rfl | exact Or.inr rfl)) (pgs_cons (pg_name (i := 3) nd rfl (by first | exact Or.inl rfl | exact Or.inr rfl)) pgs_nil))) (pss_one (ps_expr (pe_bmK K rfl PySem.F.plainAttrs_list PySem.F.slot_list_append PySem.F.type_list_append mt_append (pe_bmN P w rfl rfl PySem.F.plainAttrs_dict PySem.F.slot_dict_setdefault PySem.F.type_dict_setdefault (mt_sdefN P w rfl rfl hr.units) (pv 1) (pa_cons (pe_tup (pa_cons (pe_fn D_team_of hr (by decide) (by rfl) (pa_cons (pv 0) (pa_cons (pv 2) pa_nil))) (pa_cons (pv 3) pa_nil))) (pa_cons (pe_lst pa_nil) pa_nil))) (pa_cons (pv 2) pa_nil)))))
      (pss_one (ps_ret (pe_lock (pe_lc (own := [("team", 4), ("place", 3), ("hands", 5)]) (by rfl) nd (pi_itemsN P w rfl rfl (pv 1)) (blkOk_by (own := [("team", 4), ("place", 3), ("hands", 5)]) (N := N_kinds_of) (sc := (defScope (topS 57))) (by decide +kernel)) (fun _ _ _ _ _ => (pg_tupK K rfl 2 (by rfl) (pgs_cons (pg_tupK K rfl 2 (by rfl) (pgs_cons (pg_name (i := 4) nd rfl (by first | exact Or.inl rfl | exact Or.inr rfl)) (pgs_cons (pg_name (i := 3) nd rfl (by first | exact Or.inl rfl | exact Or.inr rfl)) pgs_nil))) (pgs_cons (pg_name (i := 5) nd rfl (by first | exact Or.inl rfl | exact Or.inr rfl)) pgs_nil)))) (fun _ _ _ _ _ => pts_nil) (fun _ _ _ _ _ => (pe_tup (pa_cons (pv 4) (pa_cons (pv 3) (pa_cons (pv 5) pa_nil))))))))))), ?_⟩
  obtain ⟨G, a, p, rfl, eG, l, ok, q⟩ := h
  refine fun f hf => ?_
  have ef : Ex H (upd H f (NdO P w f [])) := Ex.new hf
  have hfG : G f = none := fresh_back eG hf
  refine q_forEP (G := G) (ds := natsD (p.near ++ p.far)) (ep_call up_dx (ea_cons (ev_var rfl) ea_nil) fun H1 e Q r => ⟨G, a, p, rfl, e, l, r⟩) (eG.trans ef) fun la xs0 H1 e1 hla al => ?_
  obtain rfl := dx_nats al
  have hlen : (natsV (p.near ++ p.far)).length = p.many := by rw [natsV_len, List.length_append]; rfl
  have kOk := fun n (h : n ≤ p.many) => kindsUp_ok ok n h
  have hle := ok.le
  have hmany : p.many = p.near.length + p.far.length := rfl
  have eH1 : Ex H H1 := ef.trans e1
  have hB : Nw G (upd H f (NdO P w f [])) H1 f = none := nw_none hfG upd_same
  generalize hGB : Nw G (upd H f (NdO P w f [])) H1 = B at *
  have eB1 : Ex B H1 := by rw [← hGB]; exact nw_sub
  have eGB : Ex G B := by rw [← hGB]; exact nw_base (eG.trans eH1)
  refine ⟨fun i σ' H' => ∃ y2 y3 xs, σ' = [some (.ref a), some (.ref f), y2, y3, none, none] ∧ Ex B H' ∧ Ex H H' ∧ H' f = some (NdO P w f xs) ∧ KP H1 H' xs (kindsUp p i) ∧ ∀ b, H' b = none → H1 b = none, ⟨none, none, [], rfl, eB1, eH1, e1 _ _ upd_same, ⟨rfl, fun j x e h => by simp at h, List.nodup_nil⟩, fun _ z => z⟩, fun i σ' H' _ pv => ?_, fun i x σ' H' Tp hi pv hT => ?_, fun σ' H' pv => ?_⟩
  · obtain ⟨_, _, _, _, z, _⟩ := pv
    exact z
  · obtain ⟨y2, y3, xs, rfl, eB, eH, hfx, kp, dm⟩ := pv
    obtain ⟨n, hn, rfl⟩ := at_natsV hi
    have hlt : i < p.many := by
      have := (List.getElem?_eq_some_iff.mp hn).1
      rw [List.length_append] at this
      exact this
    have hxl : xs.length ≤ 5 := by
      have := (kOk i (by omega)).len
      rw [kp.len]; omega
    have ek : ((handK p i).2 : Int) = (n : Int) := by
      unfold handK
      rw [List.getD_eq_getElem?_getD, hn] <;> rfl
    have e2 : Ex H' (upd H' Tp (.tup [.int (i : Nat), .int (n : Nat)])) := Ex.new hT
    refine ⟨Tp, _, rfl, st_of upd_same, rfl, _, _, rfl, _, _, rfl, rfl, ?_⟩
    refine go_drop (go_BM (go_BMN (go_var rfl ⟨⟨f, xs, rfl, e2 _ _ hfx⟩, go_cons ?_⟩)))
    generalize hH3 : upd H' Tp (.tup [.int (i : Nat), .int (n : Nat)]) = H3 at e2 ⊢
    have e23 := e2
    refine go_eu (eu_tup (vs := [.int ((handK p i).1 : Nat), .int ((handK p i).2 : Nat)]) (ea_cons (ev_is (ev_fn (ea_cons (ev_var rfl) (ea_cons (ev_var rfl) ea_nil)) fun H4 e Q E r => ⟨a, p, i, rfl, l.ex ((eGB.trans eB).trans (e23.trans e)), r⟩) ?_) (ea_cons (ev_is (ev_var rfl) (congrArg V.int ek.symm)) ea_nil)) (by show 2 ≤ 100000; decide)) fun b H4 hb e4 hb4 => go_cons ?_
    · unfold handK
      dsimp only
      split <;> rfl
    refine go_el (el_lst ea_nil (by show 0 ≤ 100000; decide)) fun nl H5 hl e5 hl5 => go_nil ?_
    have e35 := e4.trans e5
    have e25 := e23.trans e35
    have kp5 := kp.ex e25
    have hf5 := e25 _ _ hfx
    have hb5 := e5 _ _ hb4
    have b0 : H1 b = none := dm b (fresh_back e2 hb)
    refine ⟨f, xs, keyN (handK p i), b, .ref nl, rfl, rfl, hf5, ⟨.tuple [.int ((handK p i).1 : Nat), .int ((handK p i).2 : Nat)], rfl, Nat.le_of_ble_eq_true rfl, rfl, .tup hb5 (.cons (.int _) (.cons (.int _) .nil))⟩, kp5.keys, by rw [sizeLine_eq]; omega, fun v' hv => ?_, fun hv => ?_⟩
    · obtain ⟨j, x, e, hx, he, hek, hxv, hfi⟩ := kp5.found hv
      obtain ⟨_, _, _, l', hl', h1l, hH⟩ := kp5.each j x e hx he
      obtain rfl : v' = .ref l' := hxv.symm.trans hl'
      refine ⟨.inl ⟨rfl, _, sq_of hH⟩, go_cons (go_var rfl (go_nil ⟨l', _, _, rfl, rfl, hH, ?_, ?_⟩))⟩
      · have h1 := len_le_total (List.mem_of_getElem? he)
        rw [(kOk i (by omega)).total] at h1
        rw [natsV_len, sizeLine_eq]
        omega
      · have nf : f ≠ l' := fun z => by rw [z, hH] at hf5; cases hf5
        refine ⟨_, _, xs, rfl, Ex.mut (eB.trans e25) (fresh_back eB1 h1l), Ex.mut (eH.trans e25) (fresh_back eH1 h1l), by rw [upd_ne nf]; exact hf5, ?_, fun b hb => ?_⟩
        rotate_left
        · by_cases c : b = l'
          · rw [c, upd_same] at hb; cases hb
          · rw [upd_ne c] at hb; exact dm b (fresh_back e25 hb)
        have z := kp5.put (h := i) hx he hl'
        show KP H1 _ xs (addH (kindsUp p i) (handK p i) i)
        unfold addH
        rw [hfi]
        exact z
    · have nlf : f ≠ nl := fun z => by rw [z, hl5] at hf5; cases hf5
      refine ⟨.inl ⟨rfl, [], sq_of (by rw [upd_ne nlf.symm]; exact hl5)⟩, go_cons (go_var rfl (go_nil ⟨nl, [], _, rfl, rfl, (by rw [upd_ne nlf.symm]; exact hl5), by rw [sizeLine_eq]; decide, ?_⟩))⟩
      generalize hH6 : upd H5 f (NdO P w f (xs ++ [(keyN (handK p i), b, .ref nl)])) = H6
      have e6 : Ex (upd H5 f (NdO P w f (xs ++ [(keyN (handK p i), b, .ref nl)]))) H6 := by rw [hH6]; exact Ex.refl _
      have hbf : b ≠ f := fun z => by rw [z, hf5] at hb5; cases hb5
      have hbl : b ≠ nl := fun z => by rw [z, hl5] at hb5; cases hb5
      have l0 : H1 nl = none := dm nl (fresh_back (e2.trans e4) hl)
      have kp6 := (kp5.frame (u := NdO P w f (xs ++ [(keyN (handK p i), b, .ref nl)])) hf5 (fun _ z => nomatch z) (fun _ z => nomatch z)).ex e6
      have fr : ∀ x ∈ xs, x.2.2 ≠ .ref nl := fun x hx z => by
        obtain ⟨j, hj⟩ := List.mem_iff_getElem?.mp hx
        obtain ⟨e, he⟩ := kp.at hj
        obtain ⟨_, _, _, l', h1, _, h2⟩ := kp.each j x e hj he
        rw [z] at h1
        cases h1
        have := (e23.trans e4) _ _ h2
        rw [hl] at this
        cases this
      refine ⟨_, _, xs ++ [(keyN (handK p i), b, .ref nl)], rfl, ?_, ?_, ?_, ?_, fun c hc => ?_⟩
      · exact Ex.mut ((Ex.mut (eB.trans e25) hB).trans e6) (fresh_back eB1 l0)
      · exact Ex.mut ((Ex.mut (eH.trans e25) hf).trans e6) (fresh_back eH1 l0)
      · rw [upd_ne nlf]; exact e6 _ _ upd_same
      · show KP H1 _ _ (addH (kindsUp p i) (handK p i) i)
        unfold addH
        rw [kp5.missing hv]
        refine KP.snoc (kp6.frameG ?_ fr) b0 l0 ?_ upd_same fr
        · intro v z
          rw [e6 _ _ (by rw [upd_ne nlf.symm]; exact hl5)] at z
          cases z
        · rw [upd_ne hbl]
          exact e6 _ _ (by rw [upd_ne hbf]; exact hb5)
      · by_cases z : c = nl
        · rw [z, upd_same] at hc; cases hc
        · rw [upd_ne z] at hc
          have h6 := fresh_back e6 hc
          by_cases y : c = f
          · rw [y, upd_same] at h6; cases h6
          · rw [upd_ne y] at h6; exact dm c (fresh_back e25 h6)
  · obtain ⟨y2, y3, xs, rfl, eB, eH, hfx, kp, dm⟩ := pv
    rw [hlen] at kp
    have kp : KP H1 H' xs (kindsF p) := kp
    have hfB : Nw G H H' f = some (NdO P w f xs) := by rw [nw_free hf]; exact hfx
    have hkl : (kindsF p).length ≤ 5 := by
      have := (kOk p.many (Nat.le_refl _)).len
      show (kindsUp p p.many).length ≤ 5
      omega
    refine s_retU2 (G := G) (H0 := H) (P := fun v H => Dx H v (kindsD (kindsF p))) (ed_lp (lp_itemsN (P := P) (w := w) (fun _ => true) (fun j v h => Dx h v (kindD ((kindsF p).getD j ((0, 0), [])))) (fun _ => up_dx) (ev_var rfl) hfB (by rw [kp.len]; omega) fun j k b v T G1 hx eg hT => ?_) fun ys h al2 => ?_) up_dx eH q
    · obtain ⟨e, he⟩ := kp.at hx
      obtain ⟨_, h1b, hb, nl, hv, h1l, hl⟩ := kp.each j _ e hx he
      obtain rfl : v = .ref nl := hv
      have ee : (kindsF p).getD j ((0, 0), []) = e := by rw [List.getD_eq_getElem?_getD, he, Option.getD_some]
      have hb0 : hide (Nw G H H') f b = some (.tup [.int (e.1.1 : Nat), .int (e.1.2 : Nat)]) := by
        rw [hide_ne (fun z => by rw [z, hfx] at hb; cases hb), nw_free (fresh_back eH1 h1b)]
        exact hb
      have hl0 : hide (Nw G H H') f nl = some (.lst (natsV e.2)) := by
        rw [hide_ne (fun z => by rw [z, hfx] at hl; cases hl), nw_free (fresh_back eH1 h1l)]
        exact hl
      rw [ee]
      exact turn_pairN hT (eg _ _ hb0) rfl (ed_tup (ed_cons (ed_ev (ev_var rfl) (.int _)) (ed_cons (ed_ev (ev_var rfl) (.int _)) (ed_cons (ed_ev (ev_var rfl) (.lst (eg _ _ hl0) (natsV_dx _ _))) ed_nil))) (by show 3 ≤ 100000; decide))
    · have z := al2.dx
      rw [ixs_all, map_getD kindD ((0, 0), []) (kindsF p) kp.len] at z
      exact z
end
end SF
set_option Elab.async false
set_option linter.all false
/-! ### spots and ways -/
namespace SF
open PySem PySem.Spec PyProof.Rows L2 Evl
structure Spot where
  used : List Nat
  st : Nat
  mrk : Option Nat
  an : Option Int
abbrev Way := List (Nat × Bool)
def mkD : Option Nat → PyData
  | none => .none
  | some n => .int (n : Nat)
def anD : Option Int → PyData
  | none => .none
  | some n => .int n
def spotD (s : Spot) : PyData := .tuple [.tuple (natsD s.used), .int (s.st : Nat), mkD s.mrk, anD s.an]
def turnD (e : Nat × Bool) : PyData := .tuple [.int (e.1 : Nat), .bool e.2]
def wayD (w : Way) : PyData := .tuple (w.map turnD)
def stepD (s : Spot × Way) : PyData := .tuple [spotD s.1, wayD s.2]
structure SpotOk (p : Plan) (ks : List KEnt) (n : Nat) (s : Spot) : Prop where
  len : s.used.length = ks.length
  le : ∀ j e, ks[j]? = some e → s.used.getD j 0 ≤ e.2.length
  sum : s.used.sum = n
  st : s.st < p.rs.length
  mrk : ∀ m, s.mrk = some m → m < ks.length
structure WayOk (ks : List KEnt) (n : Nat) (s : Spot) (w : Way) : Prop where
  len : w.length = n
  cnt : ∀ j, w.countP (fun e => e.1 == j) = s.used.getD j 0
  lt : ∀ e ∈ w, e.1 < ks.length
  one : w.countP (·.2) = if s.mrk.isSome then 1 else 0
  at_ : ∀ e ∈ w, e.2 = true → s.mrk = some e.1
def bump (us : List Nat) (j : Nat) : List Nat := us.set j (us.getD j 0 + 1)
theorem bump_parts {us : List Nat} {j : Nat} (h : j < us.length) : bump us j = (us.take j ++ [us.getD j 0 + 1]) ++ us.drop (j + 1) := by
  unfold bump
  rw [List.set_eq_take_append_cons_drop, if_pos h, List.append_assoc] <;> rfl
theorem bump_get {us : List Nat} {j : Nat} (h : j < us.length) (i : Nat) : (bump us j).getD i 0 = us.getD i 0 + if j = i then 1 else 0 := by
  unfold bump
  rw [List.getD_eq_getElem?_getD, List.getElem?_set]
  by_cases c : j = i
  · subst c
    rw [if_pos rfl, if_pos h, if_pos rfl, Option.getD_some]
  · rw [if_neg c, if_neg c, List.getD_eq_getElem?_getD] <;> rfl
theorem bump_sum : ∀ {us : List Nat} {j : Nat}, j < us.length → (bump us j).sum = us.sum + 1
  | [], j, h => by simp at h
  | a :: r, 0, _ => by
    show (((a + 1) :: r).sum : Nat) = (a :: r).sum + 1
    rw [List.sum_cons, List.sum_cons]; omega
  | a :: r, j + 1, h => by
    have ih := bump_sum (us := r) (j := j) (by simpa using h)
    have e : bump (a :: r) (j + 1) = a :: bump r j := by
      unfold bump
      rw [List.set_cons_succ] <;> rfl
    rw [e, List.sum_cons, List.sum_cons, ih]; omega
theorem SpotOk.next {p : Plan} {ks : List KEnt} {n j : Nat} {s : Spot} {e : KEnt} {st' : Nat} {mk' : Option Nat} {an' : Option Int} (o : SpotOk p ks n s) (hj : ks[j]? = some e) (hu : s.used.getD j 0 < e.2.length) (hs : st' < p.rs.length) (hm : ∀ m, mk' = some m → m < ks.length) : SpotOk p ks (n + 1) ⟨bump s.used j, st', mk', an'⟩ := by
  have hlt : j < s.used.length := by rw [o.len]; exact (List.getElem?_eq_some_iff.mp hj).1
  refine ⟨by show (bump s.used j).length = _; unfold bump; rw [List.length_set]; exact o.len, fun i e' he => ?_, by show (bump s.used j).sum = _; rw [bump_sum hlt, o.sum], hs, hm⟩
  show (bump s.used j).getD i 0 ≤ _
  rw [bump_get hlt]
  by_cases c : j = i
  · subst c
    rw [hj] at he
    cases he
    rw [if_pos rfl]
    omega
  · rw [if_neg c]
    exact o.le i e' he
theorem WayOk.next {ks : List KEnt} {n j : Nat} {s : Spot} {w : Way} {b : Bool} {st' : Nat} {mk' : Option Nat} {an' : Option Int} (o : WayOk ks n s w) (hl : s.used.length = ks.length) (hj : j < ks.length) (hm : (b = false ∧ mk' = s.mrk) ∨ (b = true ∧ s.mrk = none ∧ mk' = some j)) : WayOk ks (n + 1) ⟨bump s.used j, st', mk', an'⟩ (w ++ [(j, b)]) := by
  refine ⟨by rw [List.length_append, o.len] <;> rfl, fun i => ?_, fun e he => ?_, ?_, fun e he h => ?_⟩
  · show _ = (bump s.used j).getD i 0
    rw [bump_get (by rw [hl]; exact hj), List.countP_append, o.cnt, List.countP_cons, List.countP_nil]
    by_cases c : j = i
    · subst c
      simp
    · rw [if_neg c, if_neg (by simpa using c)]
  · rcases List.mem_append.mp he with z | z
    · exact o.lt e z
    · obtain rfl : e = (j, b) := by simpa using z
      exact hj
  · show _ = if mk'.isSome then 1 else 0
    rw [List.countP_append, o.one, List.countP_cons, List.countP_nil]
    rcases hm with ⟨rfl, rfl⟩ | ⟨rfl, h1, rfl⟩
    · simp
    · rw [h1] <;> rfl
  · show mk' = some e.1
    rcases List.mem_append.mp he with z | z
    · rcases hm with ⟨_, rfl⟩ | ⟨_, h1, _⟩
      · exact o.at_ e z h
      · have := o.at_ e z h
        rw [h1] at this
        cases this
    · obtain rfl : e = (j, b) := by simpa using z
      rcases hm with ⟨rfl, _⟩ | ⟨_, _, rfl⟩
      · cases h
      · rfl
end SF
set_option Elab.async false
set_option linter.all false
set_option maxRecDepth 100000
set_option maxHeartbeats 4000000
namespace SF
open PySem PySem.Spec PyProof.Rows L2 Evl
section
variable {P : Program} {w : World} {K : PySem.W.Frag} {mg : Str → Option Value} {base : Heap}

def cutD (ds : List PyData) (lo hi : Option Int) : List PyData := (ds.drop (HT.sIx ds.length 0 lo)).take (HT.sIx ds.length ds.length hi - HT.sIx ds.length 0 lo)
section
variable {K : PySem.W.Frag} {σ : L2.St} {G H H0 H1 H2 : Hp} {te tl : TE} {g : TG} {ds : List PyData} {xs ys : List V} {l : Addr} {y : V} {d : PyData}
theorem DxAll.drop : ∀ {xs : List V} {ds : List PyData} (n : Nat), DxAll H xs ds → DxAll H (xs.drop n) (ds.drop n)
  | _, _, 0, h => h
  | _, _, n + 1, .nil => by rw [List.drop_nil, List.drop_nil]; exact .nil
  | _, _, n + 1, .cons _ t => DxAll.drop n t
theorem DxAll.take : ∀ {xs : List V} {ds : List PyData} (n : Nat), DxAll H xs ds → DxAll H (xs.take n) (ds.take n)
  | _, _, 0, _ => by rw [List.take_zero, List.take_zero]; exact .nil
  | _, _, n + 1, .nil => by rw [List.take_nil, List.take_nil]; exact .nil
  | _, _, n + 1, .cons h t => by rw [List.take_succ_cons, List.take_succ_cons]; exact .cons h (DxAll.take n t)
theorem cut_dx {lo hi : Option Int} (h : DxAll H xs ds) : DxAll H (cutV xs lo hi) (cutD ds lo hi) := by
  unfold cutV cutD
  rw [h.length]
  exact (h.drop _).take _
theorem ed_slT {t1 t2 : TO} {lo hi : Option Int} (h : EvD tl σ G (.tuple ds)) (h1 : EvO t1 σ G lo) (h2 : EvO t2 σ G hi) : EvD (tSl (rSlA K) tl t1 t2) σ G (.tuple (cutD ds lo hi)) := fun H1 e Q q =>
  h H1 e _ fun v H2 e2 hv => h1 H2 (e.trans e2) _ fun H3 e3 => h2 H3 ((e.trans e2).trans e3) _ fun H4 e4 => by
    obtain ⟨a, xs, rfl, hx, al⟩ := dx_tup hv
    have g4 := (e2.trans e3).trans e4
    have e34 := e3.trans e4
    refine ⟨a, xs, rfl, st_of (e34 a _ (nw_val hx)), fun hw => ?_, fun _ p hp => ?_⟩
    · have ec : cutD ds lo hi = ds := by
        unfold cutD
        rw [← al.length, hw.1, hw.2, List.drop_zero, Nat.sub_zero, al.length, List.take_length]
      rw [ec] at q
      exact q _ H4 g4 ((Dx.tup hx al).ex (nw_up e34))
    · exact q _ _ (g4.trans (Ex.new hp)) (.tup (nw_new g4 hp) ((cut_dx al).ex (nw_up (e34.trans (Ex.new hp)))))
theorem ed_slL {t1 t2 : TO} {lo hi : Option Int} (h : EvD tl σ G (.list ds)) (h1 : EvO t1 σ G lo) (h2 : EvO t2 σ G hi) : EvD (tSl (rSlL K) tl t1 t2) σ G (.list (cutD ds lo hi)) := fun H1 e Q q =>
  h H1 e _ fun v H2 e2 hv => h1 H2 (e.trans e2) _ fun H3 e3 => h2 H3 ((e.trans e2).trans e3) _ fun H4 e4 => by
    obtain ⟨a, xs, rfl, hx, al⟩ := dx_lst hv
    have g4 := (e2.trans e3).trans e4
    have e34 := e3.trans e4
    exact ⟨a, xs, rfl, sq_of (e34 a _ (nw_val hx)), fun p hp => q _ _ (g4.trans (Ex.new hp)) (.lst (nw_new g4 hp) ((cut_dx al).ex (nw_up (e34.trans (Ex.new hp)))))⟩
/-- one more item for a list that is being made -/
theorem seen_app {o o' : HO} (e0 : Ex H0 H) (hG : G l = none) (hl : H l = some o) (e : Ex H H2) : Ex (Nw G H H2) (hide (Nw G H0 (upd H2 l o')) l) := fun b v q => by
  have nb : b ≠ l := fun z => by
    rw [z, nw_none hG hl] at q
    cases q
  rw [hide_ne nb]
  refine ex_into (fun b v h => ?_) (fun b v h => ?_) b v q
  · have nb : b ≠ l := fun z => by
      rw [z, nw_none hG hl] at h
      cases h
    rw [upd_ne nb]
    exact nw_val h
  · exact (nw_vis h).imp id fun z => fresh_back e0 z
theorem kept_app {o' : HO} (e : Ex H H2) : Ex (hide (Nw G H0 H) l) (hide (Nw G H0 (upd H2 l o')) l) := fun b v q => by
  have nb : b ≠ l := fun z => by rw [z, hide_self] at q; cases q
  rw [hide_ne nb] at q ⊢
  rcases nw_cases G H0 H b with w | ⟨w, y⟩
  · rw [w] at q; cases q
  · rw [w] at q
    have q2 := e b v q
    rcases y with ⟨u, y⟩ | y
    · rw [nw_old y, upd_ne nb]; exact q2
    · rw [nw_free y, upd_ne nb]; exact q2
theorem seen_app2 {B : Hp} {o o' : HO} (vis : ∀ b v, B b = some v → (∃ u, G b = some u) ∨ H0 b = none) (dm : ∀ b, H b = none → H0 b = none) (hB : B l = none) (hl : H l = some o) (e : Ex H H2) : Ex (Nw B H H2) (hide (Nw G H0 (upd H2 l o')) l) := fun b v q => by
  have nb : ∀ {b v}, Nw B H H2 b = some v → b ≠ l := fun {b v} q z => by
    rw [z, nw_none hB hl] at q
    cases q
  rw [hide_ne (nb q)]
  refine ex_into (fun b v h => ?_) (fun b v h => ?_) b v q
  · rw [upd_ne (nb h)]
    exact nw_val h
  · rcases nw_vis h with ⟨u, z⟩ | z
    · exact vis b u z
    · exact .inr (dm b z)
theorem dxs_app2 {B : Hp} (vis : ∀ b v, B b = some v → (∃ u, G b = some u) ∨ H0 b = none) (dm : ∀ b, H b = none → H0 b = none) (hB : B l = none) (hl : H l = some (.lst ys)) (al : DxAll (hide (Nw G H0 H) l) ys ds) (e : Ex H H2) (hy : Dx (Nw B H H2) y d) : DxAll (hide (Nw G H0 (upd H2 l (.lst (ys ++ [y])))) l) (ys ++ [y]) (ds ++ [d]) :=
  DxAll.append (al.ex (kept_app e)) (.cons (hy.ex (seen_app2 vis dm hB hl e)) .nil)
theorem dxs_app (e0 : Ex H0 H) (hG : G l = none) (hl : H l = some (.lst ys)) (al : DxAll (hide (Nw G H0 H) l) ys ds) (e : Ex H H2) (hy : Dx (Nw G H H2) y d) : DxAll (hide (Nw G H0 (upd H2 l (.lst (ys ++ [y])))) l) (ys ++ [y]) (ds ++ [d]) :=
  DxAll.append (al.ex (kept_app e)) (.cons (hy.ex (seen_app e0 hG hl e)) .nil)
theorem s_appP {D : Ends} {ta te : TE} {P : PV} (u : Up P) (hl : H l = some (.lst ys)) (ha : Ev ta σ H (.ref l)) (h : EvP te σ G P) (eG : Ex G H) (hz : ys.length < 100000) (k : ∀ y H1, Ex H H1 → P y (Nw G H H1) → D.nx σ (upd H1 l (.lst (ys ++ [y])))) : tDrop (tBM K "list" rAppend ta (tCons te tNil)) D σ H :=
  ha H (Ex.refl H) _ fun H1 e1 => ⟨.inl ⟨rfl, ys, sq_of (e1 _ _ hl)⟩, h H1 (eG.trans e1) _ fun y H2 e2 p => ⟨l, ys, y, rfl, rfl, (e1.trans e2) _ _ hl, sz_lt hz, k y H2 (e1.trans e2) (u _ _ _ (nw_chain e1) p)⟩⟩
theorem q_appP {D : Ends} {tz : TS} {ta te : TE} {P : PV} (u : Up P) (hl : H l = some (.lst ys)) (ha : Ev ta σ H (.ref l)) (h : EvP te σ G P) (eG : Ex G H) (hz : ys.length < 100000) (k : ∀ y H1, Ex H H1 → P y (Nw G H H1) → tz D σ (upd H1 l (.lst (ys ++ [y])))) : tSeq (tDrop (tBM K "list" rAppend ta (tCons te tNil))) tz D σ H :=
  s_appP (D := { D with nx := tz D }) u hl ha h eG hz k
/-- a known tuple taken apart -/
theorem q_unp4 {D : Ends} {tz : TS} {a : Addr} {x y z w : V} {i j m n : Nat} (hv : Ev te σ H (.ref a)) (h : H a = some (.tup [x, y, z, w])) (k : ∀ H1, Ex H H1 → tz D ((((σ.set i (some x)).set j (some y)).set m (some z)).set n (some w)) H1) :
    tSeq (tAsg te (gTup K 4 (gCons (gName i) (gCons (gName j) (gCons (gName m) (gCons (gName n) gNil)))))) tz D σ H := hv H (Ex.refl H) _ fun H1 e => ⟨a, _, rfl, st_of (e _ _ h), rfl, _, _, rfl, _, _, rfl, _, _, rfl, _, _, rfl, rfl, k H1 e⟩
theorem rv_isN {x : V} : RV (fun x y H Q => y = .non ∧ Q (.bl (decide (x = .non))) H) x .non G (.bl (decide (x = .non))) := fun H1 _ Q q => ⟨rfl, q H1 (Ex.refl H1)⟩
theorem rv_notN {x : V} : RV (fun x y H Q => y = .non ∧ Q (.bl (!decide (x = .non))) H) x .non G (.bl (!decide (x = .non))) := fun H1 _ Q q => ⟨rfl, q H1 (Ex.refl H1)⟩
end
theorem dx_tup4 {H : Hp} {v : V} {c d e f : PyData} (h : Dx H v (.tuple [c, d, e, f])) : ∃ a x y z w, v = .ref a ∧ H a = some (.tup [x, y, z, w]) ∧ Dx H x c ∧ Dx H y d ∧ Dx H z e ∧ Dx H w f := by
  obtain ⟨a, xs, rfl, h1, al⟩ := dx_tup h
  cases al with
  | cons h2 t2 =>
    cases t2 with
    | cons h3 t3 =>
      cases t3 with
      | cons h4 t4 =>
        cases t4 with
        | cons h5 t5 =>
          cases t5
          exact ⟨a, _, _, _, _, rfl, h1, h2, h3, h4, h5⟩
theorem dx_tup3 {H : Hp} {v : V} {c d e : PyData} (h : Dx H v (.tuple [c, d, e])) : ∃ a x y z, v = .ref a ∧ H a = some (.tup [x, y, z]) ∧ Dx H x c ∧ Dx H y d ∧ Dx H z e := by
  obtain ⟨a, xs, rfl, h1, al⟩ := dx_tup h
  cases al with
  | cons h2 t2 =>
    cases t2 with
    | cons h3 t3 =>
      cases t3 with
      | cons h4 t4 =>
        cases t4
        exact ⟨a, _, _, _, rfl, h1, h2, h3, h4⟩
theorem dx_tup2 {H : Hp} {v : V} {c d : PyData} (h : Dx H v (.tuple [c, d])) : ∃ a x y, v = .ref a ∧ H a = some (.tup [x, y]) ∧ Dx H x c ∧ Dx H y d := by
  obtain ⟨a, xs, rfl, h1, al⟩ := dx_tup h
  cases al with
  | cons h2 t2 =>
    cases t2 with
    | cons h3 t3 =>
      cases t3
      exact ⟨a, _, _, rfl, h1, h2, h3⟩
abbrev StepsP (p : Plan) (ks : List KEnt) (n : Nat) : PV := fun v H => ∃ steps : List (Spot × Way), Dx H v (.list (steps.map stepD)) ∧ steps.length ≤ 2 * ks.length ∧ ∀ s ∈ steps, SpotOk p ks n s.1 ∧ WayOk ks n s.1 s.2
theorem up_steps {p : Plan} {ks : List KEnt} {n : Nat} : Up (StepsP p ks n) := fun _ _ _ e ⟨st, h, r⟩ => ⟨st, h.ex e, r⟩
def spSteps (K : PySem.W.Frag) : Sp := fun vs H Q _ => ∃ G a kv sv wv, ∃ p : Plan, ∃ ks n s w, vs = [.ref a, kv, sv, wv] ∧ Ex G H ∧ LayAt K a p G ∧ PlanOk p ∧ KOk p p.many ks ∧ Dx G kv (kindsD ks) ∧ Dx G sv (spotD s) ∧ Dx G wv (wayD w) ∧ SpotOk p ks n s ∧ WayOk ks n s w ∧ n ≤ 5 ∧ RetP (StepsP p ks (n + 1)) G H Q
abbrev N_steps_from : List Str := ["layout", "kinds", "spot", "way", "used", "state", "marked", "answer", "found", "number", "team", "place", "hands", "heard", "later", "more"]
theorem sc_steps_from : FnScope N_steps_from ["layout", "kinds", "spot", "way"] (defScope (topS 58)) := ⟨rfl, rfl, rfl, by decide +kernel, rfl, by decide +kernel, by decide +kernel⟩
theorem dn_steps_from (T : Txt K mg) (D_step_at : Dn P w K mg base 1 "step_at" ["thing", "state", "place"] (spStepAt K)) : Dn P w K mg base 2 "steps_from" ["layout", "kinds", "spot", "way"] (spSteps K) := by
  refine dn_of T.f_steps_from sc_steps_from (fun _ _ _ _ _ _ us hl => match us, hl with | [_, _, _, _], _ => rfl) (by rintro vs H Q E ⟨a, b, c, d, e, f, g, h, i, j, rfl, _⟩; rfl) (fun f cdv A outer s H vs Q E hr h => ?_)
  have nd := sc_steps_from.nd
  refine ⟨_, (pss_cons (ps_asg (pv 2) (pg_tupK K rfl 4 (by rfl) (pgs_cons (pg_name (i := 4) nd rfl (by first | exact Or.inl rfl | exact Or.inr rfl)) (pgs_cons (pg_name (i := 5) nd rfl (by first | exact Or.inl rfl | exact Or.inr rfl)) (pgs_cons (pg_name (i := 6) nd rfl (by first | exact Or.inl rfl | exact Or.inr rfl)) (pgs_cons (pg_name (i := 7) nd rfl (by first | exact Or.inl rfl | exact Or.inr rfl)) pgs_nil))))))
      (pss_cons (ps_set (i := 8) nd rfl (.inl rfl) (pe_lst pa_nil))
      (pss_cons (ps_for PassesOwn.never rfl (pi_enumK K rfl (by rfl) T.z_enumerate (pa_cons (pv 1) pa_nil)) (pg_tupK K rfl 2 (by rfl) (pgs_cons (pg_name (i := 9) nd rfl (by first | exact Or.inl rfl | exact Or.inr rfl)) (pgs_cons (pg_tupK K rfl 3 (by rfl) (pgs_cons (pg_name (i := 10) nd rfl (by first | exact Or.inl rfl | exact Or.inr rfl)) (pgs_cons (pg_name (i := 11) nd rfl (by first | exact Or.inl rfl | exact Or.inr rfl)) (pgs_cons (pg_name (i := 12) nd rfl (by first | exact Or.inl rfl | exact Or.inr rfl)) pgs_nil)))) pgs_nil))) (pss_one (ps_if (pt_cmpR op_lt (pe_ix (ix_tupK K rfl) (pv 4) (pv 9) (fun _ _ => rfl)) (pe_callB (call_lenK K rfl) (by rfl) T.z_len (by decide +kernel) (pa_cons (pv 12) pa_nil)) (nomark _)) (pss_cons (ps_asg (pe_fn D_step_at hr (by decide) (by rfl) (pa_cons (pe_fldK K rfl (pv 0) rfl) (pa_cons (pv 5) (pa_cons (pv 11) pa_nil)))) (pg_tupK K rfl 2 (by rfl) (pgs_cons (pg_name (i := 13) nd rfl (by first | exact Or.inl rfl | exact Or.inr rfl)) (pgs_cons (pg_name (i := 14) nd rfl (by first | exact Or.inl rfl | exact Or.inr rfl)) pgs_nil))))
      (pss_cons (ps_set (i := 15) nd rfl (.inl rfl) (pe_op (op_catTK K rfl) (pe_op (op_catTK K rfl) (pe_slice (sl_tupK K rfl) (pv 4) po_none (po_some (pv 9))) (pe_tup (pa_cons (pe_op op_add (pe_ix (ix_tupK K rfl) (pv 4) (pv 9) (fun _ _ => rfl)) pe_int) pa_nil))) (pe_slice (sl_tupK K rfl) (pv 4) (po_some (pe_op op_add (pv 9) pe_int)) po_none)))
      (pss_cons (ps_expr (pe_bmK K rfl PySem.F.plainAttrs_list PySem.F.slot_list_append PySem.F.type_list_append mt_append (pv 8) (pa_cons (pe_tup (pa_cons (pe_tup (pa_cons (pv 15) (pa_cons (pv 14) (pa_cons (pv 6) (pa_cons (pv 7) pa_nil))))) (pa_cons (pe_op (op_catTK K rfl) (pv 3) (pe_tup (pa_cons (pe_tup (pa_cons (pv 9) (pa_cons pe_bl pa_nil))) pa_nil))) pa_nil))) pa_nil)))
      (pss_one (ps_if (pt_cmpR op_isN (pv 6) pe_non (nomark _)) (pss_one (ps_expr (pe_bmK K rfl PySem.F.plainAttrs_list PySem.F.slot_list_append PySem.F.type_list_append mt_append (pv 8) (pa_cons (pe_tup (pa_cons (pe_tup (pa_cons (pv 15) (pa_cons (pv 14) (pa_cons (pv 9) (pa_cons (pv 13) pa_nil))))) (pa_cons (pe_op (op_catTK K rfl) (pv 3) (pe_tup (pa_cons (pe_tup (pa_cons (pv 9) (pa_cons pe_bl pa_nil))) pa_nil))) pa_nil))) pa_nil)))) pss_nil))))) pss_nil)))
      (pss_one (ps_ret (pv 8)))))), ?_⟩
  obtain ⟨G, a, kv, sv, wv, p, ks, n, s0, w0, rfl, eG, l, ok, kok, hk, hs, hw, so, wo, hn, q⟩ := h
  obtain ⟨sa, vu, vs, vm, va, rfl, hsa, hu, hst, hm, han⟩ := dx_tup4 hs
  obtain rfl := dx_int hst
  obtain ⟨lk, xk, rfl, hlk, alk⟩ := dx_lst hk
  obtain ⟨dx, t, f, g, pq, ha, ht, _, _, _⟩ := id l
  have hkl : ks.length ≤ 5 := by
    have := kok.len
    have := ok.le
    have hmany : p.many = p.near.length + p.far.length := rfl
    omega
  refine q_unp4 (ev_var rfl) (eG _ _ hsa) fun H0 e0 => ?_
  have eG0 := eG.trans e0
  refine ⟨Nat.zero_le _, fun lf hlf => ?_⟩
  have hGl : G lf = none := fresh_back eG0 hlf
  have hHl : H lf = none := fresh_back e0 hlf
  refine q_forE (ea_cons (ev_var rfl) ea_nil) (sq_of ((Ex.new hlf) _ _ (eG0 _ _ hlk))) (fun i σ' H' => ∃ y9 y10 y11 y12 y13 y14 y15 ys steps, σ' = [some (.ref a), some (.ref lk), some (.ref sa), some wv, some vu, some (.int (s0.st : Nat)), some vm, some va, some (.ref lf), y9, y10, y11, y12, y13, y14, y15] ∧ Ex H0 H' ∧ H' lf = some (.lst ys) ∧
      DxAll (hide (Nw G H0 H') lf) ys (steps.map stepD) ∧ steps.length ≤ 2 * i ∧ ∀ s ∈ steps, SpotOk p ks (n + 1) s.1 ∧ WayOk ks (n + 1) s.1 s.2)
    (fun H1 e1 => ⟨none, none, none, none, none, none, none, [], [], rfl, (Ex.new hlf).trans e1, e1 _ _ upd_same, .nil, Nat.le_refl _, fun _ h => by cases h⟩) (fun i σ' H' _ pv => ?_) (fun i x σ' H' Tp hi pv hT => ?_) (fun σ' H' pv => ?_)
  · obtain ⟨_, _, _, _, _, _, _, _, _, _, e, _⟩ := pv
    exact sq_of (e _ _ (eG0 _ _ hlk))
  · obtain ⟨y9, y10, y11, y12, y13, y14, y15, ys, steps, rfl, eH, hlf', al, hlen, hall⟩ := pv
    have eGH := eG0.trans eH
    obtain ⟨dk, hdk, hxk⟩ := alk.at' hi
    rw [List.getElem?_map] at hdk
    obtain ⟨e, he, rfl⟩ := Option.map_eq_some_iff.mp hdk
    obtain ⟨b, vt, vp, vh, rfl, hb, h1, h2, hh⟩ := dx_tup3 hxk
    obtain rfl := dx_int h1
    obtain rfl := dx_int h2
    have hik : i < ks.length := (List.getElem?_eq_some_iff.mp he).1
    have hul : i < s0.used.length := by rw [so.len]; exact hik
    have hug : (natsD s0.used)[i]? = some (.int (s0.used.getD i 0 : Nat)) := by
      unfold natsD
      rw [List.getElem?_map, List.getElem?_eq_getElem hul, List.getD_eq_getElem?_getD, List.getElem?_eq_getElem hul] <;> rfl
    have eT : Ex H' (upd H' Tp (.tup [.int (i : Nat), .ref b])) := Ex.new hT
    refine ⟨Tp, _, rfl, st_of upd_same, rfl, _, _, rfl, .ref b, [], rfl, b, _, rfl, st_of (eT _ _ (eGH _ _ hb)), rfl, _, _, rfl, _, _, rfl, _, _, rfl, rfl, rfl, ?_⟩
    generalize upd H' Tp (.tup [.int (i : Nat), .ref b]) = H3 at eT ⊢
    have g3 := eGH.trans eT
    refine s_when (b := decide (s0.used.getD i 0 < e.2.length)) (EvT.mono g3 (et_test (ev_op (ev_ed (ed_ixT (ed_ev (ev_var rfl) hu) (ev_var rfl) hug)) (ev_lenD (ed_ev (ev_var rfl) hh)) (rv_b (congrArg V.bl (decide_eq_decide.mpr (by rw [natsD_len]; omega))))))) (fun hc H4 e4 => ?_) (fun hc H4 e4 => ?_)
    · have hc := of_decide_eq_true hc
      have g4 := g3.trans e4
      have hpl := kok.pl e (List.mem_of_getElem? he)
      obtain ⟨row, r1, r2, r3, r4⟩ := step_at_ok ok.rows so.st hpl
      refine q_pair (G := G) (c := .int (stepF p.rs s0.st e.1.2).1) (d := .int (stepF p.rs s0.st e.1.2).2) (ep_call up_dx (ea_cons (ev_fld (ev_var rfl) ha T.c_Layout T.n_Layout_own_thing rfl) (ea_cons (ev_var rfl) (ea_cons (ev_var rfl) ea_nil))) fun H5 e5 Q r => ⟨G, t, s0.st, e.1.2, p.ns, p.rs, rfl, e5, ht, ok.rows, so.st, hpl, r⟩) g4 fun x y H5 e5 hx5 hy5 => ?_
      obtain rfl := dx_int hx5
      obtain rfl := dx_int hy5
      have g5 := g4.trans e5
      have eb : natsD (bump s0.used i) = (cutD (natsD s0.used) none (some (i : Int)) ++ [.int ((s0.used.getD i 0 : Nat) + 1 : Int)]) ++ cutD (natsD s0.used) (some ((i : Int) + 1)) none := by
        rw [bump_parts hul]
        unfold cutD
        have ei : ((i : Int) + 1) = ((i + 1 : Nat) : Int) := by omega
        rw [ei, HT.sIx_none, HT.sIx_none, HT.sIx_nat, HT.sIx_nat, natsD_len]
        have m1 : min i s0.used.length = i := by omega
        have m2 : min (i + 1) s0.used.length = i + 1 := by omega
        rw [m1, m2, List.drop_zero, Nat.sub_zero]
        unfold natsD
        rw [List.map_append, List.map_append, List.map_take, List.map_drop]
        congr 1
        rw [List.take_of_length_le (by rw [List.length_drop, List.length_map]; omega)]
      refine q_asgP (G := G) (P := fun v H => Dx H v (.tuple (natsD (bump s0.used i)))) ?_ g5 fun vmore H6 e6 hmore => ?_
      · rw [eb]
        refine ed_catT (ed_catT (ed_slT (ed_ev (ev_var rfl) hu) eo_none (eo_some (ev_var rfl))) (ed_tup (ed_cons (ed_ev (ev_op (ev_ed (ed_ixT (ed_ev (ev_var rfl) hu) (ev_var rfl) hug)) ev_c rv_I0) (.int _)) ed_nil) (by show 1 ≤ 100000; decide)) ?_) (ed_slT (ed_ev (ev_var rfl) hu) (eo_some (ev_op (ev_var rfl) ev_c rv_I0)) eo_none) ?_
        · unfold cutD
          rw [List.length_take, List.length_drop, natsD_len]
          show _ + 1 ≤ 100000
          rw [so.len]; omega
        · unfold cutD
          rw [List.length_append, List.length_take, List.length_drop, List.length_take, List.length_drop, natsD_len]
          show _ + 1 + _ ≤ 100000
          rw [so.len]; omega
      have g6 := g5.trans e6
      have b6 : Ex G (Nw G H5 H6) := nw_base g6
      have b66 : Ex (Nw G H5 H6) H6 := nw_sub
      have e36 := (e4.trans e5).trans e6
      have e06 := eH.trans (eT.trans e36)
      have hlf6 : H6 lf = some (.lst ys) := (eT.trans e36) _ _ hlf'
      have hl5 : H5 lf = some (.lst ys) := ((eT.trans e4).trans e5) _ _ hlf'
      have hBl : Nw G H5 H6 lf = none := nw_none hGl hl5
      have e4' : ((stepF p.rs s0.st e.1.2).2 : Int) = ((stepF p.rs s0.st e.1.2).2.toNat : Nat) := by omega
      rw [e4']
      have hdm : Dx (Nw G H5 H6) vm (mkD s0.mrk) := hm.ex b6
      have hda : Dx (Nw G H5 H6) va (anD s0.an) := han.ex b6
      have hdw : Dx (Nw G H5 H6) wv (wayD w0) := hw.ex b6
      have wl : (w0.map turnD).length + 1 ≤ 100000 := by rw [List.length_map, wo.len]; omega
      refine q_appP (G := Nw G H5 H6) (P := fun v H => Dx H v (stepD (⟨bump s0.used i, (stepF p.rs s0.st e.1.2).2.toNat, s0.mrk, s0.an⟩, w0 ++ [(i, false)]))) up_dx hlf6 (ev_var rfl) ?_ b66 ?_ fun y7 H7 e7 hy7 => ?_
      · have ew : wayD (w0 ++ [(i, false)]) = .tuple (w0.map turnD ++ [turnD (i, false)]) := by
          unfold wayD
          rw [List.map_append] <;> rfl
        show EvD _ _ _ (.tuple [.tuple [_, _, _, _], wayD (w0 ++ [(i, false)])])
        rw [ew]
        exact ed_tup (ed_cons (ed_tup (ed_cons (ed_ev (ev_var rfl) hmore) (ed_cons (ed_ev (ev_var rfl) (.int _)) (ed_cons (ed_ev (ev_var rfl) hdm) (ed_cons (ed_ev (ev_var rfl) hda) ed_nil)))) (by show 4 ≤ 100000; decide)) (ed_cons (ed_catT (ed_ev (ev_var rfl) hdw) (ed_tup (ed_cons (ed_tup (ed_cons (ed_ev (ev_var rfl) (.int _)) (ed_cons (ed_ev ev_c (.bl _)) ed_nil)) (by show 2 ≤ 100000; decide)) ed_nil) (by show 1 ≤ 100000; decide)) wl) ed_nil)) (by show 2 ≤ 100000; decide)
      · have := al.length
        rw [List.length_map] at this
        omega
      have s1ok : SpotOk p ks (n + 1) ⟨bump s0.used i, (stepF p.rs s0.st e.1.2).2.toNat, s0.mrk, s0.an⟩ := so.next he hc r4 so.mrk
      have w1ok : WayOk ks (n + 1) ⟨bump s0.used i, (stepF p.rs s0.st e.1.2).2.toNat, s0.mrk, s0.an⟩ (w0 ++ [(i, false)]) := wo.next so.len hik (.inl ⟨rfl, rfl⟩)
      have al6 := al.ex (hide_ex (nw_up (eT.trans e36)) : Ex (hide (Nw G H0 H') lf) (hide (Nw G H0 H6) lf))
      have vis : ∀ b v, Nw G H5 H6 b = some v → (∃ u, G b = some u) ∨ H0 b = none := fun b v h => (nw_vis h).imp id fun z => fresh_back (eH.trans ((eT.trans e4).trans e5)) z
      have al7 := dxs_app2 vis (fun b z => fresh_back e06 z) hBl hlf6 al6 e7 hy7
      have hl8 : (upd H7 lf (.lst (ys ++ [y7]))) lf = some (.lst (ys ++ [y7])) := upd_same
      have e08 : Ex H0 (upd H7 lf (.lst (ys ++ [y7]))) := Ex.mut (e06.trans e7) hlf
      have b8 : Ex (Nw G H5 H6) (upd H7 lf (.lst (ys ++ [y7]))) := Ex.mut (b66.trans e7) hBl
      generalize upd H7 lf (.lst (ys ++ [y7])) = H8 at al7 hl8 e08 b8 ⊢
      refine s_when (b := decide (vm = .non)) (et_test (ev_op (ev_var rfl) ev_c rv_isN)) (fun hc2 H9 e9 => ?_) (fun hc2 H9 e9 => ?_)
      · have hc2 := of_decide_eq_true hc2
        have hmn : s0.mrk = none := by
          rw [hc2] at hm
          cases z : s0.mrk with
          | none => rfl
          | some m => rw [z] at hm; cases hm
        have b9 := b8.trans e9
        have hl9 := e9 _ _ hl8
        refine s_appP (G := Nw G H5 H6) (P := fun v H => Dx H v (stepD (⟨bump s0.used i, (stepF p.rs s0.st e.1.2).2.toNat, some i, some (stepF p.rs s0.st e.1.2).1⟩, w0 ++ [(i, true)]))) up_dx hl9 (ev_var rfl) ?_ b9 ?_ fun y10 H10 e10 hy10 => ?_
        · have ew : wayD (w0 ++ [(i, true)]) = .tuple (w0.map turnD ++ [turnD (i, true)]) := by
            unfold wayD
            rw [List.map_append] <;> rfl
          show EvD _ _ _ (.tuple [.tuple [_, _, _, _], wayD (w0 ++ [(i, true)])])
          rw [ew]
          exact ed_tup (ed_cons (ed_tup (ed_cons (ed_ev (ev_var rfl) hmore) (ed_cons (ed_ev (ev_var rfl) (.int _)) (ed_cons (ed_ev (ev_var rfl) (.int _)) (ed_cons (ed_ev (ev_var rfl) (.int _)) ed_nil)))) (by show 4 ≤ 100000; decide)) (ed_cons (ed_catT (ed_ev (ev_var rfl) hdw) (ed_tup (ed_cons (ed_tup (ed_cons (ed_ev (ev_var rfl) (.int _)) (ed_cons (ed_ev ev_c (.bl _)) ed_nil)) (by show 2 ≤ 100000; decide)) ed_nil) (by show 1 ≤ 100000; decide)) wl) ed_nil)) (by show 2 ≤ 100000; decide)
        · have := al7.length
          simp only [List.length_append, List.length_map, List.length_singleton] at this ⊢
          omega
        have s2ok : SpotOk p ks (n + 1) ⟨bump s0.used i, (stepF p.rs s0.st e.1.2).2.toNat, some i, some (stepF p.rs s0.st e.1.2).1⟩ := so.next he hc r4 fun m z => by cases z; exact hik
        have w2ok : WayOk ks (n + 1) ⟨bump s0.used i, (stepF p.rs s0.st e.1.2).2.toNat, some i, some (stepF p.rs s0.st e.1.2).1⟩ (w0 ++ [(i, true)]) := wo.next so.len hik (.inr ⟨rfl, hmn, rfl⟩)
        have al9 := al7.ex (hide_ex (nw_up e9) : Ex (hide (Nw G H0 H8) lf) (hide (Nw G H0 H9) lf))
        have al10 := dxs_app2 vis (fun b z => fresh_back (e08.trans e9) z) hBl hl9 al9 e10 hy10
        refine ⟨_, _, _, _, _, _, _, _, (steps ++ [(⟨bump s0.used i, (stepF p.rs s0.st e.1.2).2.toNat, s0.mrk, s0.an⟩, w0 ++ [(i, false)])]) ++ [(⟨bump s0.used i, (stepF p.rs s0.st e.1.2).2.toNat, some i, some (stepF p.rs s0.st e.1.2).1⟩, w0 ++ [(i, true)])], rfl, Ex.mut ((e08.trans e9).trans e10) hlf, upd_same, ?_, ?_, ?_⟩
        · rw [List.map_append, List.map_append]
          exact al10
        · simp only [List.length_append, List.length_singleton]
          omega
        · intro s hs
          rcases List.mem_append.mp hs with z | z
          · rcases List.mem_append.mp z with z | z
            · exact hall s z
            · rw [List.mem_singleton.mp z]; exact ⟨s1ok, w1ok⟩
          · rw [List.mem_singleton.mp z]; exact ⟨s2ok, w2ok⟩
      · refine ⟨_, _, _, _, _, _, _, _, steps ++ [(⟨bump s0.used i, (stepF p.rs s0.st e.1.2).2.toNat, s0.mrk, s0.an⟩, w0 ++ [(i, false)])], rfl, e08.trans e9, e9 _ _ hl8, ?_, ?_, ?_⟩
        · rw [List.map_append]
          exact al7.ex (hide_ex (nw_up e9))
        · simp only [List.length_append, List.length_singleton]
          omega
        · intro s hs
          rcases List.mem_append.mp hs with z | z
          · exact hall s z
          · rw [List.mem_singleton.mp z]; exact ⟨s1ok, w1ok⟩
    · exact ⟨_, _, _, _, _, _, _, ys, steps, rfl, eH.trans (eT.trans e4), (eT.trans e4) _ _ hlf', al.ex (hide_ex (nw_up (eT.trans e4))), by omega, hall⟩
  · obtain ⟨y9, y10, y11, y12, y13, y14, y15, ys, steps, rfl, eH, hlf', al, hlen, hall⟩ := pv
    refine s_ret (ev_var rfl) fun H4 e4 => q _ _ ((e0.trans eH).trans e4) ⟨steps, .lst ?_ (al.ex ?_), ?_, hall⟩
    · rw [nw_free hHl]
      exact e4 _ _ hlf'
    · exact hide_sub.trans ((nw_chain e0).trans (nw_up e4))
    · rw [alk.length, List.length_map] at hlen
      exact hlen
end
end SF
set_option Elab.async false
set_option linter.all false
set_option maxRecDepth 100000
set_option maxHeartbeats 4000000
namespace SF
open PySem PySem.Spec PyProof.Rows L2 Evl
section
variable {P : Program} {w : World} {K : PySem.W.Frag} {mg : Str → Option Value} {base : Heap}

section
variable {P : Program} {w : World} {K : PySem.W.Frag} {σ : L2.St} {G : Hp} {tl : TE} {tt : TT} {vs : List Nat}
theorem EvP.impB {te : TE} {PR R : PV} (h : EvP te σ G PR) (f : ∀ v H, Ex G H → PR v H → R v H) : EvP te σ G R := fun H1 a Q q => h H1 a Q fun v H2 e2 p => q v H2 e2 (f v _ (nw_base (a.trans e2)) p)
/-- {k: v for k, v in xs if ..}, xs a known list of known pairs -/
theorem ep_dcN {j1 j2 : Nat} {a : Addr} {xs : List V} (fl : Nat → Bool) (ent : Nat → NEnt) (h : Ev tl σ G (.ref a)) (hx : G a = some (.lst xs)) (hz : xs.length ≤ 1000000)
    (hent : ∀ i x, xs[i]? = some x → ∃ T, x = .ref T ∧ G T = some (.tup [.ref (ent i).2.1, (ent i).2.2]) ∧ KeyAt G (ent i).1 (ent i).2.1)
    (hw : ∀ x y, wipe (((wipe σ vs).set j1 (some x)).set j2 (some y)) vs = wipe σ vs) (hk : ∀ x y, (((wipe σ vs).set j1 (some x)).set j2 (some y))[j1]? = some (some x)) (hv : ∀ x y, (((wipe σ vs).set j1 (some x)).set j2 (some y))[j2]? = some (some y))
    (ht : ∀ i x, xs[i]? = some x → EvT tt (((wipe σ vs).set j1 (some (.ref (ent i).2.1))).set j2 (some (ent i).2.2)) G (fl i)) :
    EvP (tDcN P w (iList K tl) (gTup K 2 (gCons (gName j1) (gCons (gName j2) gNil))) tt (tVar j1) (tVar j2) vs) σ G (fun v H => ∃ D ys, v = .ref D ∧ G D = none ∧ H D = some (NdO P w D ys) ∧ ys.length ≤ xs.length ∧
      ∀ y ∈ ys, ∃ i i', i < xs.length ∧ i' < xs.length ∧ y.1 = (ent i').1 ∧ y.2.1 = (ent i').2.1 ∧ y.1 = (ent i).1 ∧ y.2.2 = (ent i).2.2) := fun H1 e Q q =>
  h H1 e _ fun H2 e2 => by
    have g2 := e.trans e2
    refine ⟨a, rfl, ⟨xs, sq_of (g2 _ _ hx)⟩, fun D hD => ?_⟩
    have hGD : G D = none := fresh_back g2 hD
    refine ⟨fun i m H => m = xs.length - i ∧ i ≤ xs.length ∧ Ex H2 H ∧ ∃ ys, H D = some (NdO P w D ys) ∧ ys.length ≤ i ∧ ∀ y ∈ ys, ∃ i i', i < xs.length ∧ i' < xs.length ∧ y.1 = (ent i').1 ∧ y.2.1 = (ent i').2.1 ∧ y.1 = (ent i).1 ∧ y.2.2 = (ent i).2.2, ⟨xs.length, by simp, Nat.zero_le _, Ex.new hD, [], upd_same, Nat.zero_le _, fun _ h => by cases h⟩, ?_⟩
    rintro i m H ⟨rfl, hi, e3, ys, hl, hlen, all⟩
    by_cases hlt : i < xs.length
    · have hix : xs[i]? = some xs[i] := List.getElem?_eq_getElem hlt
      refine .inr ⟨⟨xs, xs[i], sq_of (e3 _ _ (g2 _ _ hx)), hix⟩, fun H' => Ex H2 H' ∧ ∃ ys, H' D = some (NdO P w D ys) ∧ ys.length ≤ i + 1 ∧ ∀ y ∈ ys, ∃ i i', i < xs.length ∧ i' < xs.length ∧ y.1 = (ent i').1 ∧ y.2.1 = (ent i').2.1 ∧ y.1 = (ent i).1 ∧ y.2.2 = (ent i).2.2,
        fun H' p => ⟨xs.length - (i + 1), by omega, rfl, hlt, p⟩, fun x H' y => ?_⟩
      obtain ⟨rfl, y⟩ := y
      have hxi := y xs (sq_of (e3 _ _ (g2 _ _ hx)))
      obtain ⟨T, rfl, hT, key⟩ := hent i x hxi
      refine ⟨T, _, rfl, st_of (e3 _ _ (g2 _ _ hT)), rfl, _, _, rfl, _, _, rfl, rfl, hw _ _, ?_⟩
      refine ht i _ hxi _ (g2.trans e3) _ fun H4 e4 => ?_
      cases hf : fl i with
      | false => exact ⟨e3.trans e4, ys, e4 _ _ hl, by omega, all⟩
      | true =>
        refine ⟨_, hk _ _, _, hv _ _, ys, (ent i).1, (ent i).2.1, rfl, e4 _ _ hl, by rw [sizeLine_eq]; omega, key.ex ((g2.trans e3).trans e4), fun y hy => ?_, Ex.mut (e3.trans e4) hD, putN ys (ent i).1 (ent i).2.1 (ent i).2.2, upd_same, Nat.le_trans (putN_len _ _ _ _) (by omega), fun y hy => ?_⟩
        · obtain ⟨i1, i2, l1, l2, h1, h2, _⟩ := all y hy
          obtain ⟨T2, _, _, key2⟩ := hent i2 _ (List.getElem?_eq_getElem l2)
          rw [h1, h2]
          exact key2.ex ((g2.trans e3).trans e4)
        · rcases putN_mem hy with z | z | ⟨y0, hy0, z1, z2⟩
          · exact all y z
          · rw [z]
            exact ⟨i, i, hlt, hlt, rfl, rfl, rfl, rfl⟩
          · obtain ⟨i1, i2, l1, l2, h1, h2, h3, _⟩ := all y0 hy0
            rw [z2]
            exact ⟨i, i2, hlt, l2, z1.symm.trans h1, h2, rfl, rfl⟩
    · have e : i = xs.length := by omega
      subst e
      refine .inl ⟨⟨xs, sq_of (e3 _ _ (g2 _ _ hx)), Nat.le_refl _⟩, q (.ref D) H (e2.trans e3) ⟨D, ys, rfl, hGD, ?_, hlen, all⟩⟩
      rw [nw_free (fresh_back e2 hD)]
      exact hl
end
theorem nk_nats_inj : ∀ {a b : List Nat}, nkDs (natsD a) = nkDs (natsD b) → a = b
  | [], [], _ => rfl
  | [], _ :: _, h => by cases h
  | _ :: _, [], h => by cases h
  | x :: a, y :: b, h => by
    have h2 : NestedKey.num (x : Int) :: nkDs (natsD a) = NestedKey.num (y : Int) :: nkDs (natsD b) := h
    injection h2 with h1 h3
    injection h1 with h1
    rw [nk_nats_inj h3, show x = y by omega]
theorem nk_mk_inj {a b : Option Nat} (h : nkD (mkD a) = nkD (mkD b)) : a = b := by
  cases a <;> cases b
  · rfl
  · exact nomatch h
  · exact nomatch h
  · rename_i x y
    have h2 : NestedKey.num (x : Int) = NestedKey.num (y : Int) := h
    injection h2 with h2
    rw [show x = y by omega]
theorem nk_an_inj {a b : Option Int} (h : nkD (anD a) = nkD (anD b)) : a = b := by
  cases a <;> cases b
  · rfl
  · exact nomatch h
  · exact nomatch h
  · rename_i x y
    have h2 : NestedKey.num x = NestedKey.num y := h
    injection h2 with h2
    rw [h2]
theorem nk_spot_inj {a b : Spot} (h : nkD (spotD a) = nkD (spotD b)) : a = b := by
  obtain ⟨u1, s1, m1, a1⟩ := a
  obtain ⟨u2, s2, m2, a2⟩ := b
  have h2 : NestedKey.tup [.tup (nkDs (natsD u1)), .num (s1 : Int), nkD (mkD m1), nkD (anD a1)] = NestedKey.tup [.tup (nkDs (natsD u2)), .num (s2 : Int), nkD (mkD m2), nkD (anD a2)] := h
  injection h2 with h3
  injection h3 with x1 h4
  injection h4 with x2 h5
  injection h5 with x3 h6
  injection h6 with x4 _
  injection x1 with x1
  injection x2 with x2
  rw [nk_nats_inj x1, nk_mk_inj x3, nk_an_inj x4, show s1 = s2 by omega]
theorem keyed_nats : ∀ ns : List Nat, keyedAll (natsD ns) = true
  | [] => rfl
  | n :: r => keyed_nats r
theorem keyed_spot (s : Spot) : keyed (spotD s) = true := by
  obtain ⟨u, st, m, a⟩ := s
  show (keyedAll (natsD u) && (true && (keyed (mkD m) && (keyed (anD a) && true)))) = true
  rw [keyed_nats]
  cases m <;> cases a <;> rfl
theorem depth_nats : ∀ ns : List Nat, NestedKey.depthAll (nkDs (natsD ns)) = 0
  | [] => rfl
  | n :: r => by
    show max 0 (NestedKey.depthAll (nkDs (natsD r))) = 0
    rw [depth_nats r] <;> rfl
theorem depth_spot (s : Spot) : (nkD (spotD s)).depth ≤ 8 := by
  obtain ⟨u, st, m, a⟩ := s
  show max (NestedKey.depthAll (nkDs (natsD u)) + 1) (max 0 (max (nkD (mkD m)).depth (max (nkD (anD a)).depth 0))) + 1 ≤ 8
  rw [depth_nats]
  cases m <;> cases a <;> exact Nat.le_of_ble_eq_true rfl
theorem key_spot {H : Hp} {s : Spot} {b : Addr} (h : Dx H (.ref b) (spotD s)) : KeyAt H (nkD (spotD s)) b := ⟨spotD s, keyed_spot s, depth_spot s, rfl, h⟩
/-- the dict of spots -/
abbrev LevelP (P : Program) (w : World) (p : Plan) (ks : List KEnt) (n B : Nat) (G0 : Hp) : PV := fun v H => ∃ a xs, v = .ref a ∧ G0 a = none ∧ H a = some (NdO P w a xs) ∧ xs.length ≤ B ∧
  ∀ x ∈ xs, ∃ s wy, x.1 = nkD (spotD s) ∧ Dx H (.ref x.2.1) (spotD s) ∧ Dx H x.2.2 (wayD wy) ∧ SpotOk p ks n s ∧ WayOk ks n s wy
theorem up_level {P : Program} {w : World} {p : Plan} {ks : List KEnt} {n B : Nat} {G0 : Hp} : Up (LevelP P w p ks n B G0) := fun _ _ _ e ⟨a, xs, h1, h0, h2, h3, h4⟩ => ⟨a, xs, h1, h0, e _ _ h2, h3, fun x hx => let ⟨s, wy, k1, k2, k3, k4⟩ := h4 x hx; ⟨s, wy, k1, k2.ex e, k3.ex e, k4⟩⟩
def spFirst (K : PySem.W.Frag) (P : Program) (w : World) : Sp := fun vs H Q _ => ∃ G a kv, ∃ tm : Int, ∃ p : Plan, ∃ ks, vs = [.ref a, kv, .int tm] ∧ Ex G H ∧ LayAt K a p G ∧ PlanOk p ∧ KOk p p.many ks ∧ Dx G kv (kindsD ks) ∧ RetP (LevelP P w p ks 1 10 G) G H Q
abbrev N_first_spots : List Str := ["layout", "kinds", "team", "begin", "steps", "kind", "spot", "way"]
theorem sc_first_spots : FnScope N_first_spots ["layout", "kinds", "team"] (defScope (topS 59)) := ⟨rfl, rfl, rfl, by decide +kernel, rfl, by decide +kernel, by decide +kernel⟩
theorem dn_first_spots (T : Txt K mg) (D_steps_from : Dn P w K mg base 2 "steps_from" ["layout", "kinds", "spot", "way"] (spSteps K)) : Dn P w K mg base 3 "first_spots" ["layout", "kinds", "team"] (spFirst K P w) := by
  refine dn_of T.f_first_spots sc_first_spots (fun _ _ _ _ _ _ us hl => match us, hl with | [_, _, _], _ => rfl) (by rintro vs H Q E ⟨a, b, c, d, e, f, rfl, _⟩; rfl) (fun f cdv A outer s H vs Q E hr h => ?_)
  have nd := sc_first_spots.nd
  refine ⟨_, (pss_cons (ps_set (i := 3) nd rfl (.inl rfl) (pe_tup (pa_cons (pe_callTy (call_tupleK K rfl) (by rfl) T.z_tuple (by decide +kernel) (pa_cons (pe_lc (own := [("kind", 5)]) (by rfl) nd (pi_listK K rfl (pv 1)) (blkOk_by (own := [("kind", 5)]) (N := N_first_spots) (sc := (defScope (topS 59))) (by decide +kernel)) (fun _ _ _ _ _ => (pg_name (i := 5) nd rfl (by first | exact Or.inl rfl | exact Or.inr rfl))) (fun _ _ _ _ _ => pts_nil) (fun _ _ _ _ _ => pe_int)) pa_nil)) (pa_cons (pe_fldK K rfl (pv 0) rfl) (pa_cons pe_non (pa_cons pe_non pa_nil))))))
      (pss_cons (ps_set (i := 4) nd rfl (.inl rfl) (pe_fn D_steps_from hr (by decide) (by rfl) (pa_cons (pv 0) (pa_cons (pv 1) (pa_cons (pv 3) (pa_cons (pe_tup pa_nil) pa_nil))))))
      (pss_one (ps_ret (pe_dcN P w rfl rfl hr.units (own := [("spot", 6), ("way", 7)]) (by rfl) nd (pi_listK K rfl (pv 4)) (blkOk_by (own := [("spot", 6), ("way", 7)]) (N := N_first_spots) (sc := (defScope (topS 59))) (by decide +kernel)) (fun _ _ _ _ _ => (pg_tupK K rfl 2 (by rfl) (pgs_cons (pg_name (i := 6) nd rfl (by first | exact Or.inl rfl | exact Or.inr rfl)) (pgs_cons (pg_name (i := 7) nd rfl (by first | exact Or.inl rfl | exact Or.inr rfl)) pgs_nil)))) (fun _ _ _ _ _ => (pts_one (pt_cmpR op_eq (pe_ix (ix_tupK K rfl) (pe_ix (ix_listK K rfl) (pv 1) (pe_ix (ix_tupK K rfl) (pe_ix (ix_tupK K rfl) (pv 7) pe_int (fun _ _ => rfl)) pe_int (fun _ _ => rfl)) (fun _ _ => rfl)) pe_int (fun _ _ => rfl)) (pv 2) (nomark _)))) (fun _ _ _ _ _ => (pv 6)) (fun _ _ _ _ _ => (pv 7))))))), ?_⟩
  obtain ⟨G, a, kv, tm, p, ks, rfl, eG, l, ok, kok, hk, q⟩ := h
  obtain ⟨lk, xk, rfl, hlk, alk⟩ := dx_lst hk
  obtain ⟨dx, t, f, g, pq, ha, ht, _, _, _⟩ := id l
  have hkl : ks.length ≤ 5 := by
    have := kok.len
    have := ok.le
    have hmany : p.many = p.near.length + p.far.length := rfl
    omega
  have hxk : xk.length = ks.length := by rw [alk.length, List.length_map]
  let s0 : Spot := ⟨List.replicate ks.length 0, p.s, none, none⟩
  have so : SpotOk p ks 0 s0 := by
    refine ⟨List.length_replicate, fun j e he => ?_, ?_, ok.st, fun m h => by cases h⟩
    · show (List.replicate ks.length 0).getD j 0 ≤ _
      rw [List.getD_eq_getElem?_getD, List.getElem?_replicate]
      split <;> exact Nat.zero_le _
    · show (List.replicate ks.length 0).sum = 0
      simp
  have wo : WayOk ks 0 s0 [] := by
    refine ⟨rfl, fun j => ?_, (fun e h => by cases h), rfl, (fun e h => by cases h)⟩
    show 0 = (List.replicate ks.length 0).getD j 0
    rw [List.getD_eq_getElem?_getD, List.getElem?_replicate]
    split <;> rfl
  refine q_asgP (G := G) (P := fun v H => Dx H v (spotD s0)) (ed_tup (ed_cons (ed_tupleL (ed_lp (lp_list (fun _ => true) (fun _ v _ => v = V.int 0) (fun _ => up_s) (ev_var rfl) hlk (by omega) fun i x hi => turn_name (fun _ => rfl) (ep_ev ev_c fun _ _ => rfl)) fun ys h al => ?_)) (ed_cons (ed_ev (ev_fld (ev_var rfl) ha T.c_Layout T.n_Layout_own_state rfl) (.int _)) (ed_cons (ed_ev ev_c .non) (ed_cons (ed_ev ev_c .non) ed_nil)))) (by show 4 ≤ 100000; decide)) eG fun y1 H1 e1 hy1 => ?_
  · have ey : ys = natsV (List.replicate ks.length 0) := by
      rw [Al.eq (v := fun _ => V.int 0) al, ixs_all]
      apply List.ext_getElem?
      intro i
      unfold natsV
      rw [List.getElem?_map, List.getElem?_map, List.getElem?_replicate, hxk]
      by_cases c : i < ks.length
      · rw [List.getElem?_range c, if_pos c] <;> rfl
      · rw [List.getElem?_eq_none (by simp; omega), if_neg c] <;> rfl
    rw [ey]
    exact natsV_dx _ _
  have b1 : Ex G (Nw G H H1) := nw_base (eG.trans e1)
  refine q_asgP (G := Nw G H H1) (P := StepsP p ks 1) (ep_callAs (R := consP (fun v _ => v = .ref a) (consP (fun v _ => v = .ref lk) (consP (fun v H => Dx H v (spotD s0)) (consP (fun v H => Dx H v (wayD [])) nilP)))) up_steps
    (eas_cons up_s (up_consP up_s (up_consP up_dx (up_consP up_dx up_nilP))) (ep_ev (ev_var rfl) fun _ _ => rfl) (eas_cons up_s (up_consP up_dx (up_consP up_dx up_nilP)) (ep_ev (ev_var rfl) fun _ _ => rfl) (eas_cons up_dx (up_consP up_dx up_nilP) (ed_ev (ev_var rfl) hy1) (eas_cons up_dx up_nilP (ed_tup ed_nil (by show 0 ≤ 100000; decide)) eas_nil))))
    fun G' H2 vs eg eg2 hvs Q r => ?_) nw_sub fun y2 H2 e2 hy2 => ?_
  · obtain ⟨v1, r1, rfl, rfl, v2, r2, rfl, rfl, v3, r3, rfl, h3, v4, r4, rfl, h4, rfl⟩ := hvs
    exact ⟨G', a, _, v3, v4, p, ks, 0, s0, [], rfl, eg2, l.ex (b1.trans eg), ok, kok, hk.ex (b1.trans eg), h3, h4, so, wo, by omega, r⟩
  obtain ⟨steps, hst, hsl, hall⟩ := hy2
  have e12 := e1.trans e2
  have hst : Dx (Nw G H H2) y2 (.list (steps.map stepD)) := hst.ex (nw_call e1)
  have b2 : Ex G (Nw G H H2) := nw_base (eG.trans e12)
  obtain ⟨ls, xs, rfl, hls, als⟩ := dx_lst hst
  have hxl : xs.length = steps.length := by rw [als.length, List.length_map]
  have info : ∀ i : Nat, ∃ en : NEnt, ∀ x, xs[i]? = some x → ∃ T s wy, steps[i]? = some (s, wy) ∧ x = .ref T ∧ (Nw G H H2) T = some (.tup [.ref en.2.1, en.2.2]) ∧ en.1 = nkD (spotD s) ∧ Dx (Nw G H H2) (.ref en.2.1) (spotD s) ∧ Dx (Nw G H H2) en.2.2 (wayD wy) := fun i => by
    cases hi : xs[i]? with
    | none => exact ⟨(.none, 0, .non), fun x h => by cases h⟩
    | some x =>
      obtain ⟨d, hd, hxd⟩ := als.at' hi
      rw [List.getElem?_map] at hd
      obtain ⟨⟨s, wy⟩, hs, rfl⟩ := Option.map_eq_some_iff.mp hd
      obtain ⟨T, v1, v2, rfl, hT, h1, h2⟩ := dx_tup2 hxd
      obtain ⟨b, z, rfl, hb, hz⟩ := dx_tup h1
      exact ⟨(nkD (spotD s), b, v2), fun x hx => by cases hx; exact ⟨T, s, wy, hs, rfl, hT, rfl, h1, h2⟩⟩
  let ent := fun i => Classical.choose (info i)
  have hent := fun i => Classical.choose_spec (info i)
  refine s_retU2 (G := G) (H0 := H) (P := LevelP P w p ks 1 10 G) (EvP.impB (ep_dcN (fun i => decide ((((ks.getD (((steps.getD i (s0, [])).2.getD 0 (0, false)).1) ((0, 0), [])).1.1 : Nat) : Int) = tm)) ent (ev_var rfl) hls (by rw [hxl]; omega) (fun i x hi => ?_) (fun _ _ => rfl) (fun _ _ => rfl) (fun _ _ => rfl) (fun i x hi => ?_)) fun v H3 e3 ⟨D, ys, hv, hD0, hD, hlen, all⟩ => ?_) up_level e12 q
  · obtain ⟨T, s, wy, h1, h2, h3, h4, h5, h6⟩ := hent i x hi
    exact ⟨T, h2, h3, by show KeyAt _ (ent i).1 _; rw [h4]; exact key_spot h5⟩
  · obtain ⟨T, s, wy, h1, h2, h3, h4, h5, h6⟩ := hent i x hi
    obtain ⟨so1, wo1⟩ := hall _ (List.mem_of_getElem? h1)
    obtain ⟨j, b, rfl⟩ : ∃ j b, wy = [(j, b)] := by
      have hl := wo1.len
      match wy, hl with
      | [(j, b)], _ => exact ⟨j, b, rfl⟩
    have hj : j < ks.length := wo1.lt (j, b) List.mem_cons_self
    have hkj : ks[j]? = some ks[j] := List.getElem?_eq_getElem hj
    have ee : (ks.getD (((steps.getD i (s0, [])).2.getD 0 (0, false)).1) ((0, 0), [])) = ks[j] := by
      rw [List.getD_eq_getElem?_getD (l := steps), h1]
      show ks.getD j _ = _
      rw [List.getD_eq_getElem?_getD, hkj, Option.getD_some]
    show EvT _ _ _ (decide ((((ks.getD (((steps.getD i (s0, [])).2.getD 0 (0, false)).1) ((0, 0), [])).1.1 : Nat) : Int) = tm))
    rw [ee]
    refine et_is (et_test (ev_op (ev_ed (n := (ks[j].1.1 : Nat)) (ed_ixT (ds := [.int (ks[j].1.1 : Nat), .int (ks[j].1.2 : Nat), .list (natsD ks[j].2)]) (i := 0) (ed_ixL (ds := ks.map kindD) (i := j) (ed_ev (ev_var rfl) (hk.ex b2)) (ev_ed (ed_ixT (ds := [.int (j : Nat), .bool b]) (i := 0) (ed_ixT (ds := [turnD (j, b)]) (i := 0) (ed_ev (ev_var rfl) h6) ev_c rfl) ev_c rfl)) ?_) ev_c rfl)) (ev_var rfl) (rv_eq rfl))) ?_
    · rw [List.getElem?_map, hkj] <;> rfl
    · exact decide_eq_decide.mpr ⟨fun z => V.int.inj z, fun z => by rw [z]⟩
  · refine ⟨D, ys, hv, fresh_back b2 hD0, hD, by rw [hxl] at hlen; omega, fun y hy => ?_⟩
    obtain ⟨i, i', li, li', h1, h2, h3, h4⟩ := all y hy
    obtain ⟨T, s, wy, k1, k2, k3, k4, k5, k6⟩ := hent i _ (List.getElem?_eq_getElem li)
    obtain ⟨T', s', wy', k1', k2', k3', k4', k5', k6'⟩ := hent i' _ (List.getElem?_eq_getElem li')
    have es : s = s' := nk_spot_inj (by rw [← k4, ← k4']; exact h3.symm.trans h1)
    subst es
    obtain ⟨so1, wo1⟩ := hall _ (List.mem_of_getElem? k1)
    refine ⟨s, wy, h3.trans k4, ?_, ?_, so1, wo1⟩
    · rw [h2]; exact k5'.ex e3
    · rw [h4]; exact k6.ex e3
end
end SF
set_option Elab.async false
set_option linter.all false
set_option maxRecDepth 100000
set_option maxHeartbeats 4000000
namespace SF
open PySem PySem.Spec PyProof.Rows L2 Evl
section
variable {P : Program} {w : World} {K : PySem.W.Frag} {mg : Str → Option Value} {base : Heap}

def dataO : HO → Bool
  | .lst _ => true
  | .tup _ => true
  | .dK _ => true
  | _ => false
mutual
theorem Dx.sub {H H' : Hp} (e : ∀ b o, dataO o = true → H b = some o → H' b = some o) : ∀ {v : V} {d : PyData}, Dx H v d → Dx H' v d
  | _, _, .non => .non
  | _, _, .bl b => .bl b
  | _, _, .int i => .int i
  | _, _, .str x => .str x
  | _, _, .lst h a => .lst (e _ _ rfl h) (DxAll.sub e a)
  | _, _, .tup h a => .tup (e _ _ rfl h) (DxAll.sub e a)
  | _, _, .dic h a => .dic (e _ _ rfl h) (DxKv.sub e a)
theorem DxAll.sub {H H' : Hp} (e : ∀ b o, dataO o = true → H b = some o → H' b = some o) : ∀ {vs : List V} {ds : List PyData}, DxAll H vs ds → DxAll H' vs ds
  | _, _, .nil => .nil
  | _, _, .cons h r => .cons (Dx.sub e h) (DxAll.sub e r)
theorem DxKv.sub {H H' : Hp} (e : ∀ b o, dataO o = true → H b = some o → H' b = some o) : ∀ {vs : List (Key × V)} {ds : List (PyData × PyData)}, DxKv H vs ds → DxKv H' vs ds
  | _, _, .nil => .nil
  | _, _, .cons k h r => .cons (Dx.sub e k) (Dx.sub e h) (DxKv.sub e r)
end
theorem dx_hideN {P : Program} {w : World} {H : Hp} {l : Addr} {xs : List NEnt} (hl : H l = some (NdO P w l xs)) {v : V} {d : PyData} (h : Dx H v d) : Dx (hide H l) v d := h.sub fun b o ho hb => by
  rw [hide_ne (fun z => by
    rw [z, hl] at hb
    cases Option.some.inj hb
    exact Bool.noConfusion ho)]
  exact hb
section
variable {P : Program} {w : World} {K : PySem.W.Frag} {σ : L2.St} {G H H0 H1 H2 : Hp} {te : TE} {g : TG} {tu : TS} {f lv : Addr} {xs ys : List NEnt}
/-- what stands in the frame may change -/
theorem nw_updf {o o' : HO} (hG : G f = none) (h1 : H1 f = some o') : Ex (Nw G H1 H2) (Nw G H1 (upd H2 f o)) := fun b v q => by
  have nb : b ≠ f := fun z => by
    rw [z, nw_none hG h1] at q
    cases q
  rcases nw_cases G H1 H2 b with z | ⟨z, y⟩
  · rw [z] at q; cases q
  · rw [z] at q
    rcases y with ⟨u, y⟩ | y
    · rw [nw_old y, upd_ne nb]; exact q
    · rw [nw_free y, upd_ne nb]; exact q
/-- for .., .. in d.items(), the dict locked meanwhile -/
theorem s_lockN {D : Ends} {i : Nat} (hv : σ[i]? = some (some (.ref lv))) (hl : H lv = some (NdO P w lv xs)) (k : ∀ od, ∃ Pv : Nat → L2.St → Hp → Prop, Pv 0 σ (upd H lv (.frz od (NdO P w lv xs))) ∧ (∀ i σ' H', i ≤ xs.length → Pv i σ' H' → H' lv = some (.frz od (NdO P w lv xs))) ∧
    (∀ i kk b v σ' H' T (D2 : Ends), xs[i]? = some (kk, b, v) → Pv i σ' H' → H' T = none → D2.nx = Pv (i + 1) → g (.ref T) σ' (upd H' T (.tup [.ref b, v])) fun σ2 H2 => tu D2 σ2 H2) ∧ (∀ σ' H', Pv xs.length σ' H' → D.nx σ' (upd H' lv (NdO P w lv xs)))) :
    tLock (tFor (iItemsN P w (tVar i)) g tu) D σ H := ⟨lv, _, hl, trivial, fun od => by
  obtain ⟨Pv, h0, hlk, hs, hd⟩ := k od
  refine ⟨_, hv, lv, od, xs, rfl, upd_same, ?_⟩
  refine ⟨fun i m σ' H' => m = xs.length - i ∧ i ≤ xs.length ∧ Pv i σ' H', ⟨xs.length, by simp, Nat.zero_le _, h0⟩, ?_⟩
  rintro i m σ' H' ⟨rfl, hi, p⟩
  have q := hlk i σ' H' hi p
  by_cases hlt : i < xs.length
  · refine .inr ⟨⟨q, hlt⟩, Pv (i + 1), fun σ2 H2 p2 => ⟨xs.length - (i + 1), by omega, rfl, hlt, p2⟩, fun x H2 y => ?_⟩
    obtain ⟨T, kk, b, v, h1, rfl, hT, rfl⟩ := y
    exact hs i kk b v σ' H' T _ h1 p hT rfl
  · have e : i = xs.length := by omega
    subst e
    exact .inl ⟨⟨q, Nat.le_refl _⟩, q, hd σ' H' p⟩⟩
theorem q_lockN {D : Ends} {tz : TS} {i : Nat} (hv : σ[i]? = some (some (.ref lv))) (hl : H lv = some (NdO P w lv xs)) (k : ∀ od, ∃ Pv : Nat → L2.St → Hp → Prop, Pv 0 σ (upd H lv (.frz od (NdO P w lv xs))) ∧ (∀ i σ' H', i ≤ xs.length → Pv i σ' H' → H' lv = some (.frz od (NdO P w lv xs))) ∧
    (∀ i kk b v σ' H' T (D2 : Ends), xs[i]? = some (kk, b, v) → Pv i σ' H' → H' T = none → D2.nx = Pv (i + 1) → g (.ref T) σ' (upd H' T (.tup [.ref b, v])) fun σ2 H2 => tu D2 σ2 H2) ∧ (∀ σ' H', Pv xs.length σ' H' → tz D σ' (upd H' lv (NdO P w lv xs)))) :
    tSeq (tLock (tFor (iItemsN P w (tVar i)) g tu)) tz D σ H := s_lockN (D := { D with nx := tz D }) hv hl k
/-- a for over a list that is made for it -/
theorem s_forLP {D : Ends} {PR : PV} (hv : EvP te σ G PR) (eG : Ex G H) (k : ∀ y H1, Ex H H1 → PR y (Nw G H H1) → ∃ a vs, y = .ref a ∧ H1 a = some (.lst vs) ∧ ∃ Pv : Nat → L2.St → Hp → Prop, Pv 0 σ H1 ∧ (∀ i σ' H', i ≤ vs.length → Pv i σ' H' → H' a = some (.lst vs)) ∧
    (∀ i x σ' H' (D2 : Ends), vs[i]? = some x → Pv i σ' H' → D2.nx = Pv (i + 1) → g x σ' H' fun σ2 H2 => tu D2 σ2 H2) ∧ (∀ σ' H', Pv vs.length σ' H' → D.nx σ' H')) : tFor (iList K te) g tu D σ H :=
  hv H eG _ fun v H1 e1 p => by
    obtain ⟨a, vs, rfl, hl, Pv, h0, hlk, hs, hd⟩ := k v H1 e1 p
    exact ⟨a, rfl, ⟨vs, sq_of hl⟩, for_it walk_list Pv h0 (fun i σ' H' hi p => sq_of (hlk i σ' H' hi p)) (fun i x σ' H' H'' hi p y => by
      obtain ⟨rfl, y⟩ := y
      exact hs i x σ' _ _ y p rfl) hd⟩
/-- d.setdefault(x, y), names alone -/
theorem s_sdef {D : Ends} {i j l : Nat} {k : NestedKey} {b : Addr} {v : V} (h1 : σ[i]? = some (some (.ref f))) (h2 : σ[j]? = some (some (.ref b))) (h3 : σ[l]? = some (some v)) (hf : H f = some (NdO P w f ys)) (kb : KeyAt H k b) (ks : KeysAt H ys) (hz : ys.length < 10000000)
    (c1 : D.nx σ H) (c2 : D.nx σ (upd H f (NdO P w f (ys ++ [(k, b, v)])))) : tDrop (tBMN P w (rSdefN P w) (tVar i) (tCons (tVar j) (tCons (tVar l) tNil))) D σ H :=
  go_drop (go_BMN (go_var h1 ⟨⟨f, ys, rfl, hf⟩, go_cons (go_var h2 (go_cons (go_var h3 (go_nil ⟨f, ys, k, b, v, rfl, rfl, hf, kb, ks, by rw [sizeLine_eq]; omega, fun _ _ => c1, fun _ => c2⟩))))⟩))
end
/-- an entry of a dict of spots -/
abbrev EntP (p : Plan) (ks : List KEnt) (n : Nat) (H : Hp) (x : NEnt) : Prop := ∃ s wy, x.1 = nkD (spotD s) ∧ Dx H (.ref x.2.1) (spotD s) ∧ Dx H x.2.2 (wayD wy) ∧ SpotOk p ks n s ∧ WayOk ks n s wy
theorem EntP.ex {p : Plan} {ks : List KEnt} {n : Nat} {H H' : Hp} {x : NEnt} (h : EntP p ks n H x) (e : Ex H H') : EntP p ks n H' x := let ⟨s, wy, k1, k2, k3, k4⟩ := h; ⟨s, wy, k1, k2.ex e, k3.ex e, k4⟩
theorem EntP.keys {p : Plan} {ks : List KEnt} {n : Nat} {H : Hp} {xs : List NEnt} (h : ∀ x ∈ xs, EntP p ks n H x) : KeysAt H xs := fun x hx => by
  obtain ⟨s, wy, k1, k2, _⟩ := h x hx
  rw [k1]
  exact key_spot k2
def spNext (K : PySem.W.Frag) (P : Program) (w : World) : Sp := fun vs H Q _ => ∃ G a kv lv, ∃ p : Plan, ∃ ks xs n B, vs = [.ref a, kv, .ref lv] ∧ Ex G H ∧ LayAt K a p G ∧ PlanOk p ∧ KOk p p.many ks ∧ Dx G kv (kindsD ks) ∧ G lv = none ∧ H lv = some (NdO P w lv xs) ∧ xs.length ≤ B ∧ (∀ x ∈ xs, EntP p ks n G x) ∧ n ≤ 5 ∧ B ≤ 100000 ∧ RetP (LevelP P w p ks (n + 1) (10 * B) G) G H Q
abbrev N_next_spots : List Str := ["layout", "kinds", "level", "found", "spot", "way", "later", "further"]
theorem sc_next_spots : FnScope N_next_spots ["layout", "kinds", "level"] (defScope (topS 60)) := ⟨rfl, rfl, rfl, by decide +kernel, rfl, by decide +kernel, by decide +kernel⟩
theorem dn_next_spots (T : Txt K mg) (D_steps_from : Dn P w K mg base 2 "steps_from" ["layout", "kinds", "spot", "way"] (spSteps K)) : Dn P w K mg base 3 "next_spots" ["layout", "kinds", "level"] (spNext K P w) := by
  refine dn_of T.f_next_spots sc_next_spots (fun _ _ _ _ _ _ us hl => match us, hl with | [_, _, _], _ => rfl) (by rintro vs H Q E ⟨a, b, c, d, e, f, g, h, i, rfl, _⟩; rfl) (fun f cdv A outer s H vs Q E hr h => ?_)
  have nd := sc_next_spots.nd
  refine ⟨_, (pss_cons (ps_set (i := 3) nd rfl (.inl rfl) (pe_dnewN P w rfl rfl))
      (pss_cons (ps_lock (ps_for PassesOwn.never rfl (pi_itemsN P w rfl rfl (pv 2)) (pg_tupK K rfl 2 (by rfl) (pgs_cons (pg_name (i := 4) nd rfl (by first | exact Or.inl rfl | exact Or.inr rfl)) (pgs_cons (pg_name (i := 5) nd rfl (by first | exact Or.inl rfl | exact Or.inr rfl)) pgs_nil))) (pss_one (ps_for PassesOwn.never rfl (pi_listK K rfl (pe_fn D_steps_from hr (by decide) (by rfl) (pa_cons (pv 0) (pa_cons (pv 1) (pa_cons (pv 4) (pa_cons (pv 5) pa_nil)))))) (pg_tupK K rfl 2 (by rfl) (pgs_cons (pg_name (i := 6) nd rfl (by first | exact Or.inl rfl | exact Or.inr rfl)) (pgs_cons (pg_name (i := 7) nd rfl (by first | exact Or.inl rfl | exact Or.inr rfl)) pgs_nil))) (pss_one (ps_expr (pe_bmN P w rfl rfl PySem.F.plainAttrs_dict PySem.F.slot_dict_setdefault PySem.F.type_dict_setdefault (mt_sdefN P w rfl rfl hr.units) (pv 3) (pa_cons (pv 6) (pa_cons (pv 7) pa_nil)))))))))
      (pss_one (ps_ret (pv 3))))), ?_⟩
  obtain ⟨G, a, kv, lv, p, ks, xs, n, B, rfl, eG, l, ok, kok, hk, hGl, hHl, hxB, hent, hn, hB, q⟩ := h
  have hkl : ks.length ≤ 5 := by
    have := kok.len
    have := ok.le
    have hmany : p.many = p.near.length + p.far.length := rfl
    omega
  refine fun f hf => ?_
  have ef : Ex H (upd H f (NdO P w f [])) := Ex.new hf
  have hfG : G f = none := fresh_back eG hf
  have nfl : f ≠ lv := fun z => by rw [z, hHl] at hf; cases hf
  refine q_lockN rfl (ef _ _ hHl) fun od => ?_
  have hH1f : (upd (upd H f (NdO P w f [])) lv (.frz od (NdO P w lv xs))) f = some (NdO P w f []) := by rw [upd_ne nfl, upd_same]
  have hH1l : (upd (upd H f (NdO P w f [])) lv (.frz od (NdO P w lv xs))) lv = some (.frz od (NdO P w lv xs)) := upd_same
  have eG1 : Ex G (upd (upd H f (NdO P w f [])) lv (.frz od (NdO P w lv xs))) := fun b o h => by
    have n1 : b ≠ lv := fun z => by rw [z, hGl] at h; cases h
    rw [upd_ne n1]
    exact ef _ _ (eG _ _ h)
  have free1 : ∀ b, (upd (upd H f (NdO P w f [])) lv (.frz od (NdO P w lv xs))) b = none → H b = none := fun b h => by
    by_cases z : b = lv
    · rw [z, upd_same] at h; cases h
    · rw [upd_ne z] at h
      exact fresh_back ef h
  have eH1 : ∀ b o, b ≠ lv → H b = some o → (upd (upd H f (NdO P w f [])) lv (.frz od (NdO P w lv xs))) b = some o := fun b o nb h => by
    rw [upd_ne nb]
    exact ef _ _ h
  generalize upd (upd H f (NdO P w f [])) lv (.frz od (NdO P w lv xs)) = H1 at hH1f hH1l eG1 free1 eH1 ⊢
  refine ⟨fun i σ' H' => ∃ y4 y5 y6 y7 ys, σ' = [some (.ref a), some kv, some (.ref lv), some (.ref f), y4, y5, y6, y7] ∧ Ex G H' ∧ (∀ b o, b ≠ f → H1 b = some o → H' b = some o) ∧ (∀ b, H' b = none → H1 b = none) ∧ H' f = some (NdO P w f ys) ∧ ys.length ≤ 10 * i ∧ ∀ y ∈ ys, EntP p ks (n + 1) (Nw G H1 H') y,
    ⟨none, none, none, none, [], rfl, eG1, fun _ _ _ h => h, fun _ h => h, hH1f, Nat.le_refl _, fun _ h => by cases h⟩, fun i σ' H' _ pv => ?_, fun i kk b v σ' H' Tp D2 hi pv hT hD2 => ?_, fun σ' H' pv => ?_⟩
  · obtain ⟨_, _, _, _, _, _, _, keep, _⟩ := pv
    exact keep _ _ nfl.symm hH1l
  · obtain ⟨y4, y5, y6, y7, ys, rfl, eGH, keep, dm, hfx, hlen, all⟩ := pv
    have hi' : i < xs.length := (List.getElem?_eq_some_iff.mp hi).1
    obtain ⟨s, wy, k1, k2, k3, k4, k5⟩ := hent _ (List.mem_of_getElem? hi)
    have eT : Ex H' (upd H' Tp (.tup [.ref b, v])) := Ex.new hT
    refine ⟨Tp, _, rfl, st_of upd_same, rfl, _, _, rfl, _, _, rfl, rfl, ?_⟩
    generalize upd H' Tp (.tup [.ref b, v]) = H2 at eT ⊢
    have g2 := eGH.trans eT
    refine s_forLP (G := G) (PR := StepsP p ks (n + 1)) (ep_call up_steps (ea_cons (ev_var rfl) (ea_cons (ev_var rfl) (ea_cons (ev_var rfl) (ea_cons (ev_var rfl) ea_nil)))) fun H3 e3 Q r => ⟨G, a, kv, .ref b, v, p, ks, n, s, wy, rfl, e3, l, ok, kok, hk, k2, k3, k4, k5, hn, r⟩) g2 fun y H3 e3 hy => ?_
    obtain ⟨steps, hst, hsl, hall⟩ := hy
    obtain ⟨ls, vs, rfl, hls, als⟩ := dx_lst hst
    have hvl : vs.length = steps.length := by rw [als.length, List.length_map]
    have e23 := eT.trans e3
    have hf3 := e23 _ _ hfx
    have dm3 : ∀ b, H3 b = none → H1 b = none := fun b h => dm b (fresh_back e23 h)
    have hB2f : Nw G H2 H3 f = none := nw_none hfG (eT _ _ hfx)
    refine ⟨ls, vs, rfl, nw_val hls, fun j σ' Hx => ∃ y6 y7 ys, σ' = [some (.ref a), some kv, some (.ref lv), some (.ref f), some (.ref b), some v, y6, y7] ∧ Ex (Nw G H2 H3) Hx ∧ Ex G Hx ∧ (∀ b o, b ≠ f → H3 b = some o → Hx b = some o) ∧ (∀ b, Hx b = none → H3 b = none) ∧ Hx f = some (NdO P w f ys) ∧ ys.length ≤ 10 * i + j ∧ ∀ y ∈ ys, EntP p ks (n + 1) (Nw G H1 Hx) y,
      ⟨_, _, ys, rfl, nw_sub, g2.trans e3, fun _ _ _ h => h, fun _ h => h, hf3, hlen, fun y hy => (all y hy).ex (nw_up e23)⟩, fun j σ' Hx _ pv => ?_, fun j x σ' Hx D3 hj pv hD3 => ?_, fun σ' Hx pv => ?_⟩
    · obtain ⟨_, _, _, _, eB, _⟩ := pv
      exact eB _ _ hls
    · obtain ⟨y6, y7, ys, rfl, eB, eGx, keepx, dmx, hfx, hlen, all⟩ := pv
      have hj' : j < vs.length := (List.getElem?_eq_some_iff.mp hj).1
      obtain ⟨d, hd, hxd⟩ := als.at' hj
      rw [List.getElem?_map] at hd
      obtain ⟨⟨s2, wy2⟩, hs2, rfl⟩ := Option.map_eq_some_iff.mp hd
      obtain ⟨T2, v1, v2, rfl, hT2, h1, h2⟩ := dx_tup2 hxd
      obtain ⟨b2, z2, rfl, hb2, hz2⟩ := dx_tup h1
      obtain ⟨so2, wo2⟩ := hall _ (List.mem_of_getElem? hs2)
      have into : ∀ {Hy : Hp}, (∀ b o, b ≠ f → Hx b = some o → Hy b = some o) → Ex (Nw G H2 H3) (Nw G H1 Hy) := fun {Hy} kp => ex_into (fun b o h => by
        have nb : b ≠ f := fun z => by rw [z, hB2f] at h; cases h
        exact kp b o nb (eB b o h)) fun b o h => (nw_vis h).imp id fun z => dm b (fresh_back eT z)
      have hvls : vs.length ≤ 10 := by omega
      refine ⟨T2, _, rfl, st_of (eB _ _ hT2), rfl, _, _, rfl, _, _, rfl, rfl, ?_⟩
      refine s_sdef rfl rfl rfl hfx (key_spot (h1.ex eB)) (EntP.keys fun y hy => (all y hy).ex nw_sub) (by omega) ?_ ?_
      · rw [hD3]
        exact ⟨_, _, ys, rfl, eB, eGx, keepx, dmx, hfx, by omega, all⟩
      · rw [hD3]
        refine ⟨_, _, _, rfl, Ex.mut eB hB2f, Ex.mut eGx hfG, fun b o nb h => by rw [upd_ne nb]; exact keepx b o nb h, fun b h => ?_, upd_same, by rw [List.length_append, List.length_singleton]; omega, fun y hy => ?_⟩
        · by_cases z : b = f
          · rw [z, upd_same] at h; cases h
          · rw [upd_ne z] at h; exact dmx b h
        · rcases List.mem_append.mp hy with z | z
          · exact (all y z).ex (nw_updf hfG hH1f)
          · rw [List.mem_singleton.mp z]
            have i2 := into (Hy := upd Hx f (NdO P w f (ys ++ [(nkD (spotD s2), b2, v2)]))) fun b o nb h => by rw [upd_ne nb]; exact h
            exact ⟨s2, wy2, rfl, h1.ex i2, h2.ex i2, so2, wo2⟩
    · obtain ⟨y6, y7, ys, rfl, eB, eGx, keepx, dmx, hfx, hlen, all⟩ := pv
      rw [hD2]
      exact ⟨_, _, _, _, ys, rfl, eGx, fun b o nb h => keepx b o nb (e23 _ _ (keep b o nb h)), fun b h => dm3 b (dmx b h), hfx, by omega, all⟩
  · obtain ⟨y4, y5, y6, y7, ys, rfl, eGH, keep, dm, hfx, hlen, all⟩ := pv
    have hlv : H' lv = some (.frz od (NdO P w lv xs)) := keep _ _ nfl.symm hH1l
    have eEnd : Ex H (upd H' lv (NdO P w lv xs)) := fun b o h => by
      by_cases z : b = lv
      · rw [z, hHl] at h; rw [z, upd_same]; exact h
      · have nf : b ≠ f := fun y => by rw [y, hf] at h; cases h
        rw [upd_ne z]
        exact keep b o nf (eH1 b o z h)
    refine s_ret (ev_var rfl) fun H4 e4 => q _ H4 (eEnd.trans e4) ⟨f, ys, rfl, hfG, ?_, by omega, fun y hy => ?_⟩
    · rw [nw_free hf]
      exact e4 _ _ (by rw [upd_ne nfl]; exact hfx)
    · refine (all y hy).ex ?_
      refine ((ex_into (G := G) (H := H) (H' := upd H' lv (NdO P w lv xs)) (fun b o h => ?_) fun b o h => ?_)).trans (nw_up e4)
      · have nb : b ≠ lv := fun z => by
          rw [z, nw_none hGl hH1l] at h; cases h
        rw [upd_ne nb]
        exact nw_val h
      · exact (nw_vis h).imp id (free1 b)
end
end SF
set_option Elab.async false
set_option linter.all false
set_option maxRecDepth 100000
set_option maxHeartbeats 4000000
namespace SF
open PySem PySem.Spec PyProof.Rows L2 Evl
section
variable {P : Program} {w : World} {K : PySem.W.Frag} {mg : Str → Option Value} {base : Heap}

section
variable {P : Program} {w : World} {K : PySem.W.Frag} {σ : L2.St} {G H : Hp} {te : TE} {ta : TA}
theorem go_par3 {D : Ends} {tz : TS} {i j l : Nat} (h : ta σ H fun vs H1 => ∃ u v w, vs = [u, v, w] ∧ tz D (((σ.set i (some u)).set j (some v)).set l (some w)) H1) : tSeq (tPar3 i j l ta) tz D σ H := h
theorem go_newN {Q : VK} (k : ∀ p, H p = none → Q (.ref p) (upd H p (NdO P w p []))) : tNewN P w σ H Q := k
theorem go_newK {Q : VK} (k : ∀ p, H p = none → Q (.ref p) (upd H p (.dK []))) : tDNewK σ H Q := k
theorem go_ev {PR : PV} {Q : VK} (h : EvP te σ G PR) (eG : Ex G H) (k : ∀ v H1, Ex H H1 → PR v (Nw G H H1) → Q v H1) : te σ H Q := h H eG Q k
theorem go_tup {Q : VK} (h : ta σ H fun vs H1 => vs.length ≤ sizeLine ∧ ∀ p, H1 p = none → Q (.ref p) (upd H1 p (.tup vs))) : tTup ta σ H Q := h
theorem go_CB {r : List V → Hp → VK → Prop} {Q : VK} (h : ta σ H fun vs H1 => r vs H1 Q) : tCB r ta σ H Q := h
theorem go_while {D : Ends} {tz tu : TS} {c : TT} (W : Nat → L2.St → Hp → Prop) (m0 : Nat) (h0 : W m0 σ H) (k : ∀ m σ' H', W m σ' H' → c σ' H' fun b H1 => if b = true then ∃ N : L2.St → Hp → Prop, (∀ σ2 H2, N σ2 H2 → ∃ m', m' < m ∧ W m' σ2 H2) ∧ tu { D with nx := N, ct := N, bk := tz D } σ' H1 else tz D σ' H1) : tSeq (tWhile c tu) tz D σ H := ⟨W, ⟨m0, h0⟩, k⟩
theorem go_setD {D : Ends} {tz : TS} {i j : Nat} {en : Addr} {kvs : List (Key × V)} {z : Int} {v : V} (h1 : σ[i]? = some (some (.ref en))) (h2 : σ[j]? = some (some (.int z))) (he : H en = some (.dK kvs)) (hz : kvs.length < 10000000) (k : tz D σ (upd H en (.dK (putK kvs (Sum.inl z) v)))) : tSeq (tAsg (tC v) (gSub (tVar i) (tVar j) rSetD)) tz D σ H :=
  ⟨_, h1, _, h2, en, _, rfl, DPut.k (k := Sum.inl z) he (by rw [sizeLine_eq]; omega), k⟩
theorem go_asgCall {D : Ends} {i : Nat} {sp : Sp} {E : XK} (h : ta σ H fun vs H1 => sp (vs ++ []) H1 (fun v H2 => D.nx (σ.set i (some v)) H2) E) : tAsg (tCall sp [] E ta) (gName i) D σ H := h
theorem hide_updf {G H1 H2 : Hp} {l : Addr} {o : HO} : Ex (hide (Nw G H1 H2) l) (hide (Nw G H1 (upd H2 l o)) l) := fun b v q => by
  have nb : b ≠ l := fun z => by rw [z, hide_self] at q; cases q
  rw [hide_ne nb] at q ⊢
  rcases nw_cases G H1 H2 b with z | ⟨z, y⟩
  · rw [z] at q; cases q
  · rw [z] at q
    rcases y with ⟨u, y⟩ | y
    · rw [nw_old y, upd_ne nb]; exact q
    · rw [nw_free y, upd_ne nb]; exact q
theorem go_ret {D : Ends} (h : te σ H D.rt) : tRet te D σ H := h
theorem go_test {Q : Bool → Hp → Prop} (h : te σ H fun v H1 => ∃ b, v = .bl b ∧ Q b H1) : tTest te σ H Q := h
theorem go_op {r : R2} {tb : TE} {Q : VK} (h : te σ H fun x H1 => tb σ H1 fun y H2 => r x y H2 Q) : tOp r te tb σ H Q := h
end
def markKD (m : Nat) (an : Option Int) (st : Nat) : PyData := .tuple [.int (m : Nat), .tuple [anD an, .int (st : Nat)]]
structure WayM (ks : List KEnt) (m : Nat) (w : Way) : Prop where
  len : w.length ≤ 5
  cnt : ∀ j e, ks[j]? = some e → w.countP (fun x => x.1 == j) ≤ e.2.length
  lt : ∀ e ∈ w, e.1 < ks.length
  one : w.countP (·.2) = 1
  at_ : ∀ e ∈ w, e.2 = true → e.1 = m
theorem WayOk.m {p : Plan} {ks : List KEnt} {n m : Nat} {s : Spot} {w : Way} (o : WayOk ks n s w) (so : SpotOk p ks n s) (hn : n ≤ 5) (hm : s.mrk = some m) : WayM ks m w :=
  ⟨by rw [o.len]; exact hn, fun j e he => by rw [o.cnt]; exact so.le j e he, o.lt, by rw [o.one, hm] <;> rfl, fun e he h => by
    have := o.at_ e he h
    rw [hm] at this
    exact (Option.some.inj this).symm⟩
abbrev EntM (ks : List KEnt) (H : Hp) (x : NEnt) : Prop := ∃ m an st wy, x.1 = nkD (markKD m an st) ∧ Dx H (.ref x.2.1) (markKD m an st) ∧ Dx H x.2.2 (wayD wy) ∧ m < ks.length ∧ WayM ks m wy
theorem EntM.ex {ks : List KEnt} {H H' : Hp} {x : NEnt} (h : EntM ks H x) (e : Ex H H') : EntM ks H' x := let ⟨m, an, st, wy, k1, k2, k3, k4⟩ := h; ⟨m, an, st, wy, k1, k2.ex e, k3.ex e, k4⟩
theorem EntM.hideN {P : Program} {w : World} {l : Addr} {xs : List NEnt} {ks : List KEnt} {H : Hp} {x : NEnt} (h : EntM ks H x) (hl : H l = some (NdO P w l xs)) : EntM ks (hide H l) x := let ⟨m, an, st, wy, k1, k2, k3, k4⟩ := h; ⟨m, an, st, wy, k1, dx_hideN hl k2, dx_hideN hl k3, k4⟩
theorem EntP.hideN {P : Program} {w : World} {l : Addr} {xs : List NEnt} {p : Plan} {ks : List KEnt} {n : Nat} {H : Hp} {x : NEnt} (h : EntP p ks n H x) (hl : H l = some (NdO P w l xs)) : EntP p ks n (hide H l) x := let ⟨s, wy, k1, k2, k3, k4⟩ := h; ⟨s, wy, k1, dx_hideN hl k2, dx_hideN hl k3, k4⟩
theorem keyed_mark (m : Nat) (an : Option Int) (st : Nat) : keyed (markKD m an st) = true := by cases an <;> rfl
theorem depth_mark (m : Nat) (an : Option Int) (st : Nat) : (nkD (markKD m an st)).depth ≤ 8 := by cases an <;> exact Nat.le_of_ble_eq_true rfl
theorem key_mark {H : Hp} {m : Nat} {an : Option Int} {st : Nat} {b : Addr} (h : Dx H (.ref b) (markKD m an st)) : KeyAt H (nkD (markKD m an st)) b := ⟨_, keyed_mark m an st, depth_mark m an st, rfl, h⟩
theorem EntM.keys {ks : List KEnt} {H : Hp} {xs : List NEnt} (h : ∀ x ∈ xs, EntM ks H x) : KeysAt H xs := fun x hx => by
  obtain ⟨m, an, st, wy, k1, k2, _⟩ := h x hx
  rw [k1]
  exact key_mark k2
def EndsOk (n : Nat) (kvs : List (Key × V)) : Prop := ∃ nks : List Int, kvs.map (·.1) = nks.map Sum.inl ∧ nks.Nodup ∧ ∀ z ∈ nks, 0 ≤ z ∧ z < n
theorem EndsOk.len {n : Nat} {kvs : List (Key × V)} (h : EndsOk n kvs) : kvs.length ≤ n := by
  obtain ⟨nks, h1, h2, h3⟩ := h
  have e : kvs.length = nks.length := by
    have := congrArg List.length h1
    rw [List.length_map, List.length_map] at this
    exact this
  rw [e]
  have sub : nks ⊆ (List.range n).map fun i : Nat => (i : Int) := fun z hz => by
    have := h3 z hz
    exact List.mem_map.mpr ⟨z.toNat, List.mem_range.mpr (by omega), by omega⟩
  have := List.Nodup.length_le_of_subset h2 sub
  rwa [List.length_map, List.length_range] at this
theorem EndsOk.put {n : Nat} {kvs : List (Key × V)} {z : Nat} {v : V} (h : EndsOk n kvs) (hz : z < n) : EndsOk n (putK kvs (Sum.inl (z : Int)) v) := by
  obtain ⟨nks, h1, h2, h3⟩ := h
  unfold putK
  split
  · refine ⟨nks, ?_, h2, h3⟩
    rw [List.map_map, ← h1]
    refine List.map_congr_left fun kv _ => ?_
    show (if kv.1 = _ then (kv.1, v) else kv).1 = kv.1
    split <;> rfl
  · rename_i no
    refine ⟨nks ++ [(z : Int)], by rw [List.map_append, List.map_append, h1] <;> rfl, List.nodup_append.mpr ⟨h2, by simp, fun a ha b hb => ?_⟩, fun y hy => ?_⟩
    · obtain rfl : b = (z : Int) := by simpa using hb
      rintro rfl
      have hin : Sum.inl (z : Int) ∈ kvs.map (·.1) := by rw [h1]; exact List.mem_map_of_mem ha
      obtain ⟨kv, hkv, e⟩ := List.mem_map.mp hin
      exact no (List.any_eq_true.mpr ⟨kv, hkv, by rw [e]; exact decide_eq_true rfl⟩)
    · rcases List.mem_append.mp hy with c | c
      · exact h3 y c
      · obtain rfl : y = (z : Int) := by simpa using c
        omega
theorem sum_le : ∀ {us : List Nat} {ks : List KEnt}, us.length = ks.length → (∀ j e, ks[j]? = some e → us.getD j 0 ≤ e.2.length) → us.sum ≤ totalK ks
  | [], [], _, _ => Nat.le_refl _
  | [], _ :: _, h, _ => by simp at h
  | _ :: _, [], h, _ => by simp at h
  | u :: us, e :: ks, h, k => by
    have ih := sum_le (us := us) (ks := ks) (by simpa using h) fun j e' he => by
      have := k (j + 1) e' (by simpa using he)
      simpa using this
    have h0 := k 0 e rfl
    have h0 : u ≤ e.2.length := h0
    unfold totalK at ih ⊢
    rw [List.sum_cons, List.map_cons, List.sum_cons]
    omega
/-- what begun_by hands back -/
abbrev BegunP (P : Program) (w : World) (ks : List KEnt) (G0 : Hp) : PV := fun v H => ∃ T f l xs, v = .ref T ∧ H T = some (.tup [.ref f, l]) ∧ G0 f = none ∧ H f = some (NdO P w f xs) ∧ xs.length ≤ 1000000 ∧ ∀ x ∈ xs, EntM ks H x
theorem up_begun {P : Program} {w : World} {ks : List KEnt} {G0 : Hp} : Up (BegunP P w ks G0) := fun _ _ _ e ⟨T, f, l, xs, h1, h2, h0, h3, h4, h5⟩ => ⟨T, f, l, xs, h1, e _ _ h2, h0, e _ _ h3, h4, fun x hx => (h5 x hx).ex e⟩
def spBegun (K : PySem.W.Frag) (P : Program) (w : World) : Sp := fun vs H Q _ => ∃ G a, ∃ tm : Int, ∃ p : Plan, vs = [.ref a, .int tm] ∧ Ex G H ∧ LayAt K a p G ∧ PlanOk p ∧ RetP (BegunP P w (kindsF p) G) G H Q
abbrev N_begun_by : List Str := ["layout", "team", "kinds", "found", "ends", "level", "used", "state", "marked", "answer", "way"]
theorem sc_begun_by : FnScope N_begun_by ["layout", "team"] (defScope (topS 61)) := ⟨rfl, rfl, rfl, by decide +kernel, rfl, by decide +kernel, by decide +kernel⟩
theorem dn_begun_by (T : Txt K mg) (D_kinds_of : Dn P w K mg base 2 "kinds_of" ["layout"] (spKindsOf K)) (D_first_spots : Dn P w K mg base 3 "first_spots" ["layout", "kinds", "team"] (spFirst K P w)) (D_next_spots : Dn P w K mg base 3 "next_spots" ["layout", "kinds", "level"] (spNext K P w)) : Dn P w K mg base 4 "begun_by" ["layout", "team"] (spBegun K P w) := by
  refine dn_of T.f_begun_by sc_begun_by (fun _ _ _ _ _ _ us hl => match us, hl with | [_, _], _ => rfl) (by rintro vs H Q E ⟨a, b, c, d, rfl, _⟩; rfl) (fun f cdv A outer s H vs Q E hr h => ?_)
  have nd := sc_begun_by.nd
  refine ⟨_, (pss_cons (ps_par3 (i := 2) (j := 3) (l := 4) (by rfl) nd rfl rfl rfl (by decide) (by decide) (by decide) rfl rfl rfl (pa_cons (pe_fn D_kinds_of hr (by decide) (by rfl) (pa_cons (pv 0) pa_nil)) (pa_cons (pe_dnewN P w rfl rfl) (pa_cons pe_dnewK pa_nil))) (by rfl))
      (pss_cons (ps_set (i := 5) nd rfl (.inl rfl) (pe_fn D_first_spots hr (by decide) (by rfl) (pa_cons (pv 0) (pa_cons (pv 2) (pa_cons (pv 1) pa_nil)))))
      (pss_cons (ps_while PassesOwn.never (pt_cmpR (op_neN P w rfl rfl hr.units) (pv 5) (pe_dnewN P w rfl rfl) (nomark _)) (pss_cons (ps_lock (ps_for PassesOwn.never rfl (pi_itemsN P w rfl rfl (pv 5)) (pg_tupK K rfl 2 (by rfl) (pgs_cons (pg_tupK K rfl 4 (by rfl) (pgs_cons (pg_name (i := 6) nd rfl (by first | exact Or.inl rfl | exact Or.inr rfl)) (pgs_cons (pg_name (i := 7) nd rfl (by first | exact Or.inl rfl | exact Or.inr rfl)) (pgs_cons (pg_name (i := 8) nd rfl (by first | exact Or.inl rfl | exact Or.inr rfl)) (pgs_cons (pg_name (i := 9) nd rfl (by first | exact Or.inl rfl | exact Or.inr rfl)) pgs_nil))))) (pgs_cons (pg_name (i := 10) nd rfl (by first | exact Or.inl rfl | exact Or.inr rfl)) pgs_nil))) (pss_cons (ps_asg pe_bl (pg_sub (pv 4) (pv 7) (set_dict (hu_of hr))))
      (pss_one (ps_if (pt_cmpR op_notN (pv 8) pe_non (nomark _)) (pss_one (ps_expr (pe_bmN P w rfl rfl PySem.F.plainAttrs_dict PySem.F.slot_dict_setdefault PySem.F.type_dict_setdefault (mt_sdefN P w rfl rfl hr.units) (pv 3) (pa_cons (pe_tup (pa_cons (pv 8) (pa_cons (pe_tup (pa_cons (pv 9) (pa_cons (pv 7) pa_nil))) pa_nil))) (pa_cons (pv 10) pa_nil))))) pss_nil)))))
      (pss_one (ps_set (i := 5) nd rfl (.inl rfl) (pe_fn D_next_spots hr (by decide) (by rfl) (pa_cons (pv 0) (pa_cons (pv 2) (pa_cons (pv 5) pa_nil))))))))
      (pss_one (ps_ret (pe_tup (pa_cons (pv 3) (pa_cons (pe_callB (call_sortedDI rfl) (by rfl) T.z_sorted (by decide +kernel) (pa_cons (pv 4) pa_nil)) pa_nil)))))))), ?_⟩
  obtain ⟨G, a, tm, p, rfl, eG, l, ok, q⟩ := h
  have kok := kindsF_ok ok
  have hle := ok.le
  have hmany : p.many = p.near.length + p.far.length := rfl
  have hrs := ok.rows.hi
  generalize hks : kindsF p = ks at *
  refine go_par3 (go_cons (go_ev (G := G) (PR := fun v H => Dx H v (kindsD ks)) (ep_call up_dx (ea_cons (ev_var rfl) ea_nil) fun H1 e Q r => ⟨G, a, p, rfl, e, l, ok, by rw [hks]; exact r⟩) eG fun vk Hk ek hvk => go_cons (go_newN fun f hf => go_cons (go_newK fun en hen => go_nil ⟨_, _, _, rfl, ?_⟩))))
  obtain ⟨lk, xk, rfl, hlk, alk⟩ := dx_lst hvk
  have nfe : en ≠ f := fun z => by rw [z, upd_same] at hen; cases hen
  have hen' : Hk en = none := by rw [upd_ne nfe] at hen; exact hen
  have eGB : Ex G (Nw G H Hk) := nw_base (eG.trans ek)
  have eBk : Ex (Nw G H Hk) Hk := nw_sub
  have hGf : G f = none := fresh_back (eG.trans ek) hf
  have hHf : H f = none := fresh_back ek hf
  have hHe : H en = none := fresh_back ek hen'
  have hBf : Nw G H Hk f = none := fresh_back eBk hf
  have hBe : Nw G H Hk en = none := fresh_back eBk hen'
  have visB : ∀ b o, Nw G H Hk b = some o → (∃ u, G b = some u) ∨ H b = none := fun b o h => nw_vis h
  have hvk2 : Dx (Nw G H Hk) (.ref lk) (kindsD ks) := hvk
  generalize hB : Nw G H Hk = B at eGB eBk hBf hBe visB hvk2
  have e2k : Ex Hk (upd (upd Hk f (NdO P w f [])) en (.dK [])) := (Ex.new hf).trans (Ex.new hen)
  have h2f : (upd (upd Hk f (NdO P w f [])) en (.dK [])) f = some (NdO P w f []) := by rw [upd_ne nfe.symm, upd_same]
  have h2e : (upd (upd Hk f (NdO P w f [])) en (.dK [])) en = some (.dK []) := upd_same
  generalize upd (upd Hk f (NdO P w f [])) en (.dK []) = H2 at e2k h2f h2e ⊢
  have eB2 : Ex B H2 := eBk.trans e2k
  have eH2 : Ex H H2 := ek.trans e2k
  have lB := l.ex eGB
  refine q_asgP (G := B) (P := LevelP P w p ks 1 10 B) (ep_call up_level (ea_cons (ev_var rfl) (ea_cons (ev_var rfl) (ea_cons (ev_var rfl) ea_nil))) fun H3 e3 Q r => ⟨B, a, .ref lk, tm, p, ks, rfl, e3, l.ex eGB, ok, kok, hvk2, r⟩) eB2 fun y3 H3 e3 hy3 => ?_
  obtain ⟨lv, xs, rfl, hBlv, hlv, hxl, hent⟩ := hy3
  have h2lv : H2 lv = none := by
    rcases nw_vis hlv with ⟨u, z⟩ | z
    · rw [hBlv] at z; cases z
    · exact z
  refine go_while (fun m σ' H' => ∃ n lv xs fys kvs y6 y7 y8 y9 y10, σ' = [some (.ref a), some (.int tm), some (.ref lk), some (.ref f), some (.ref en), some (.ref lv), y6, y7, y8, y9, y10] ∧ m = 7 - n ∧ 1 ≤ n ∧ n ≤ 6 ∧ Ex B H' ∧ Ex H H' ∧ (∀ b, H' b = none → H2 b = none) ∧ H2 lv = none ∧ H' lv = some (NdO P w lv xs) ∧ xs.length ≤ 10 ^ n ∧
      (∀ x ∈ xs, EntP p ks n (hide (Nw B H2 H') lv) x) ∧ H' f = some (NdO P w f fys) ∧ fys.length ≤ 10 ^ n ∧ (∀ x ∈ fys, EntM ks (hide (Nw B H2 H') lv) x) ∧ H' en = some (.dK kvs) ∧ EndsOk p.rs.length kvs) 6 ⟨1, lv, xs, [], [], none, none, none, none, none, rfl, rfl, Nat.le_refl _, by omega, eB2.trans e3, eH2.trans e3, fun b h => fresh_back e3 h, h2lv, nw_val hlv, hxl, fun x hx => ?_, e3 _ _ h2f, by show 0 ≤ _; omega, fun _ h => (by cases h), e3 _ _ h2e, [], rfl, List.nodup_nil, fun _ h => (by cases h)⟩ ?_
  · exact EntP.hideN (hent x hx) hlv
  rintro m σ' H' ⟨n, lv, xs, fys, kvs, y6, y7, y8, y9, y10, rfl, rfl, hn1, hn6, eB, eH, dm, h2lv, hlv, hxl, hent, hfx, hfl, hfent, hex, hends⟩
  have hBlv : B lv = none := fresh_back eB2 h2lv
  refine go_test (go_op (go_var rfl (go_newN fun p0 hp0 => ⟨lv, p0, xs, rfl, rfl, (Ex.new hp0) _ _ hlv, upd_same, _, rfl, ?_⟩)))
  have e0 : Ex H' (upd H' p0 (NdO P w p0 [])) := Ex.new hp0
  generalize upd H' p0 (NdO P w p0 []) = H1 at e0 ⊢
  have hlv1 := e0 _ _ hlv
  have hfx1 := e0 _ _ hfx
  have hex1 := e0 _ _ hex
  have up01 : Ex (hide (Nw B H2 H') lv) (hide (Nw B H2 H1) lv) := hide_ex (nw_up e0)
  have dm1 : ∀ b, H1 b = none → H2 b = none := fun b h => dm b (fresh_back e0 h)
  have nlf : lv ≠ f := fun z => by rw [z, h2f] at h2lv; cases h2lv
  have nle : lv ≠ en := fun z => by rw [z, h2e] at h2lv; cases h2lv
  by_cases hx0 : xs.length = 0
  · rw [decide_eq_true hx0]
    rw [if_neg (by decide)]
    have q1 := hends.len
    obtain ⟨nks, hk1, hk2, hk3⟩ := hends
    have lnk : kvs.length = nks.length := by
      have := congrArg List.length hk1
      rw [List.length_map, List.length_map] at this
      exact this
    refine go_ret (go_tup (go_cons (go_var rfl (go_cons (go_CB (go_cons (go_var rfl (go_nil ⟨en, kvs, nks, rfl, .inl hex1, hk1, by omega, fun ys sp _ _ hsp => go_nil ⟨by show 2 ≤ sizeLine; decide, fun T hT => ?_⟩⟩))))))))
    have es := Ex.new (o := .lst (ys.map V.int)) hsp
    have eT := Ex.new (o := .tup [.ref f, .ref sp]) hT
    have eAll := (e0.trans es).trans eT
    refine q _ _ (eH.trans eAll) ⟨T, f, .ref sp, fys, rfl, ?_, hGf, ?_, by have : 10 ^ n ≤ 10 ^ 6 := Nat.pow_le_pow_right (by omega) hn6; omega, fun x hx => (hfent x hx).ex (hide_sub.trans (ex_into (fun b o h => eAll _ _ (nw_val h)) fun b o h => ?_))⟩
    · rw [nw_free (fresh_back (eH.trans (e0.trans es)) hT)]
      exact upd_same
    · rw [nw_free hHf]
      exact eAll _ _ hfx
    · rcases nw_vis h with ⟨u, z⟩ | z
      · exact visB b u z
      · exact .inr (fresh_back eH2 z)
  · rw [decide_eq_false hx0]
    rw [if_pos (by decide)]
    obtain ⟨x0, hx0'⟩ : ∃ x, x ∈ xs := by
      cases xs with
      | nil => exact absurd rfl hx0
      | cons x r => exact ⟨x, List.mem_cons_self⟩
    have hn5 : n ≤ 5 := by
      obtain ⟨s, wy, _, _, _, so, _⟩ := hent x0 hx0'
      have h1 := sum_le so.len so.le
      rw [so.sum, kok.total] at h1
      omega
    have pw : 10 ^ (n + 1) = 10 * 10 ^ n := by rw [Nat.pow_succ]; omega
    have p5 : 10 ^ n ≤ 10 ^ 5 := Nat.pow_le_pow_right (by omega) hn5
    refine ⟨fun σ' H' => ∃ lv xs fys kvs y6 y7 y8 y9 y10, σ' = [some (.ref a), some (.int tm), some (.ref lk), some (.ref f), some (.ref en), some (.ref lv), y6, y7, y8, y9, y10] ∧ Ex B H' ∧ Ex H H' ∧ (∀ b, H' b = none → H2 b = none) ∧ H2 lv = none ∧ H' lv = some (NdO P w lv xs) ∧ xs.length ≤ 10 ^ (n + 1) ∧
      (∀ x ∈ xs, EntP p ks (n + 1) (hide (Nw B H2 H') lv) x) ∧ H' f = some (NdO P w f fys) ∧ fys.length ≤ 10 ^ (n + 1) ∧ (∀ x ∈ fys, EntM ks (hide (Nw B H2 H') lv) x) ∧ H' en = some (.dK kvs) ∧ EndsOk p.rs.length kvs, fun σ2 H9 ⟨lv, xs, fys, kvs, y6, y7, y8, y9, y10, r⟩ => ?_, ?_⟩
    · obtain ⟨h1, h2, h3, h4, h5, h6, h7, h8, h9, h10, h11, h12, h13⟩ := r
      exact ⟨7 - (n + 1), by omega, n + 1, lv, xs, fys, kvs, y6, y7, y8, y9, y10, h1, rfl, by omega, by omega, h2, h3, h4, h5, h6, h7, h8, h9, h10, h11, h12, h13⟩
    refine q_lockN rfl hlv1 fun od => ?_
    have hC : ∀ x ∈ xs, EntP p ks n (hide (Nw B H2 H1) lv) x := fun x hx => (hent x hx).ex up01
    have eBC : Ex B (hide (Nw B H2 H1) lv) := fun b o h => by
      rw [hide_ne (fun z => by rw [z, hBlv] at h; cases h), nw_old h]
      exact (eB.trans e0) b o h
    have visC : ∀ b o, hide (Nw B H2 H1) lv b = some o → (∃ u, B b = some u) ∨ H2 b = none := fun b o h => nw_vis (hide_sub _ _ h)
    have hCf : hide (Nw B H2 H1) lv f = none := by rw [hide_ne nlf.symm]; exact nw_none hBf h2f
    have hCe : hide (Nw B H2 H1) lv en = none := by rw [hide_ne nle.symm]; exact nw_none hBe h2e
    have eCL : Ex (hide (Nw B H2 H1) lv) (upd H1 lv (.frz od (NdO P w lv xs))) := fun b o h => by
      have nb : b ≠ lv := fun z => by rw [z, hide_self] at h; cases h
      rw [upd_ne nb]
      exact nw_val (hide_sub _ _ h)
    have hCl : hide (Nw B H2 H1) lv lv = none := hide_self
    have hLl : (upd H1 lv (.frz od (NdO P w lv xs))) lv = some (.frz od (NdO P w lv xs)) := upd_same
    have hLf : (upd H1 lv (.frz od (NdO P w lv xs))) f = some (NdO P w f fys) := by rw [upd_ne nlf.symm]; exact hfx1
    have hLe : (upd H1 lv (.frz od (NdO P w lv xs))) en = some (.dK kvs) := by rw [upd_ne nle.symm]; exact hex1
    have dmL : ∀ b, (upd H1 lv (.frz od (NdO P w lv xs))) b = none → H2 b = none := fun b h => by
      by_cases z : b = lv
      · rw [z, upd_same] at h; cases h
      · rw [upd_ne z] at h; exact dm1 b h
    have keepL : ∀ b o, b ≠ lv → H1 b = some o → (upd H1 lv (.frz od (NdO P w lv xs))) b = some o := fun b o nb h => by rw [upd_ne nb]; exact h
    have upL : Ex (hide (Nw B H2 H1) lv) (hide (Nw B H2 (upd H1 lv (.frz od (NdO P w lv xs)))) lv) := hide_updf
    generalize upd H1 lv (.frz od (NdO P w lv xs)) = HL at eCL hLl hLf hLe dmL keepL upL ⊢
    generalize hCC : hide (Nw B H2 H1) lv = C at hC eBC visC hCf hCe eCL hCl upL
    refine ⟨fun i σ' H' => ∃ y6 y7 y8 y9 y10 fys kvs, σ' = [some (.ref a), some (.int tm), some (.ref lk), some (.ref f), some (.ref en), some (.ref lv), y6, y7, y8, y9, y10] ∧ Ex C H' ∧ (∀ b o, b ≠ f → b ≠ en → HL b = some o → H' b = some o) ∧ (∀ b, H' b = none → HL b = none) ∧ H' f = some (NdO P w f fys) ∧ fys.length ≤ 10 ^ n + i ∧
        (∀ x ∈ fys, EntM ks (hide (Nw B H2 H') lv) x) ∧ H' en = some (.dK kvs) ∧ EndsOk p.rs.length kvs,
      ⟨_, _, _, _, _, fys, kvs, rfl, eCL, fun _ _ _ _ h => h, fun _ h => h, hLf, by omega, fun x hx => (hfent x hx).ex (up01.trans (by rw [hCC]; exact upL)), hLe, hends⟩, fun i σ' H' _ pv => ?_, fun i kk b v σ' H' Tp D2 hi pv hT hD2 => ?_, fun σ' H' pv => ?_⟩
    · obtain ⟨_, _, _, _, _, _, _, _, _, keep, _⟩ := pv
      exact keep _ _ nlf nle hLl
    · obtain ⟨y6, y7, y8, y9, y10, fys, kvs, rfl, eC, keep, dmx, hfx, hfl, hfent, hex, hends⟩ := pv
      obtain ⟨s, wy, k1, k2, k3, so, wo⟩ := hC _ (List.mem_of_getElem? hi)
      obtain ⟨sa, vu, vs, vm, va, hbe, hsa, hu, hst, hm, han⟩ := dx_tup4 k2
      obtain rfl : b = sa := by cases hbe; rfl
      obtain rfl := dx_int hst
      have eT : Ex H' (upd H' Tp (.tup [.ref b, v])) := Ex.new hT
      refine ⟨Tp, _, rfl, st_of upd_same, rfl, .ref b, [v], rfl, b, _, rfl, st_of (eT _ _ (eC _ _ hsa)), rfl, _, _, rfl, _, _, rfl, _, _, rfl, _, _, rfl, rfl, v, [], rfl, rfl, ?_⟩
      generalize upd H' Tp (.tup [.ref b, v]) = H3 at eT ⊢
      have hex3 := eT _ _ hex
      have hfx3 := eT _ _ hfx
      have kvl := hends.len
      refine go_setD (z := (s.st : Int)) rfl rfl hex3 (by omega) ?_
      have hends4 := hends.put (v := .bl true) so.st
      have eC4 : Ex C (upd H3 en (.dK (putK kvs (Sum.inl (s.st : Int)) (.bl true)))) := Ex.mut (eC.trans eT) hCe
      have hf4 : (upd H3 en (.dK (putK kvs (Sum.inl (s.st : Int)) (.bl true)))) f = some (NdO P w f fys) := by rw [upd_ne nfe.symm]; exact hfx3
      have he4 : (upd H3 en (.dK (putK kvs (Sum.inl (s.st : Int)) (.bl true)))) en = some (.dK (putK kvs (Sum.inl (s.st : Int)) (.bl true))) := upd_same
      have keep4 : ∀ b o, b ≠ f → b ≠ en → HL b = some o → (upd H3 en (.dK (putK kvs (Sum.inl (s.st : Int)) (.bl true)))) b = some o := fun c o n1 n2 h => by
        rw [upd_ne n2]
        exact eT _ _ (keep c o n1 n2 h)
      have dm4 : ∀ b, (upd H3 en (.dK (putK kvs (Sum.inl (s.st : Int)) (.bl true)))) b = none → HL b = none := fun c h => by
        by_cases z : c = en
        · rw [z, upd_same] at h; cases h
        · rw [upd_ne z] at h; exact dmx c (fresh_back eT h)
      have ent4 : ∀ x ∈ fys, EntM ks (hide (Nw B H2 (upd H3 en (.dK (putK kvs (Sum.inl (s.st : Int)) (.bl true))))) lv) x := fun x hx => (hfent x hx).ex ((hide_ex (nw_up eT)).trans (hide_ex (nw_updf hBe h2e)))
      generalize upd H3 en (.dK (putK kvs (Sum.inl (s.st : Int)) (.bl true))) = H4 at eC4 hf4 he4 keep4 dm4 ent4 ⊢
      refine s_when (b := !decide (vm = .non)) (et_test (ev_op (ev_var rfl) ev_c rv_notN)) (fun hc H5 e5 => ?_) (fun hc H5 e5 => ?_)
      · have hc2 : vm ≠ .non := by simpa using hc
        obtain ⟨m, hmm⟩ : ∃ m, s.mrk = some m := by
          cases z : s.mrk with
          | none =>
            rw [z] at hm
            cases hm
            exact absurd rfl hc2
          | some m => exact ⟨m, rfl⟩
        rw [hmm] at hm
        obtain rfl := dx_int hm
        have eC5 := eC4.trans e5
        have hf5 := e5 _ _ hf4
        refine go_drop (go_BMN (go_var rfl ⟨⟨f, fys, rfl, hf5⟩, go_cons (go_ev (G := C) (PR := fun v H => Dx H v (markKD m s.an s.st)) (ed_tup (ed_cons (ed_ev (ev_var rfl) (.int _)) (ed_cons (ed_tup (ed_cons (ed_ev (ev_var rfl) han) (ed_cons (ed_ev (ev_var rfl) (.int _)) ed_nil)) (by show 2 ≤ 100000; decide)) ed_nil)) (by show 2 ≤ 100000; decide)) eC5 fun vb H6 e6 hvb => go_cons (go_var rfl (go_nil ?_)))⟩))
        obtain ⟨b', _, rfl, hb', _⟩ := id (dx_tup hvb)
        have hf6 := e6 _ _ hf5
        have e46 := e5.trans e6
        have ent6 : ∀ x ∈ fys, EntM ks (hide (Nw B H2 H6) lv) x := fun x hx => (ent4 x hx).ex (hide_ex (nw_up e46))
        have keep6 : ∀ b o, b ≠ f → b ≠ en → HL b = some o → H6 b = some o := fun c o n1 n2 h => e46 _ _ (keep4 c o n1 n2 h)
        refine ⟨f, fys, nkD (markKD m s.an s.st), b', v, rfl, rfl, hf6, key_mark (hvb.ex nw_sub), EntM.keys fun x hx => (ent6 x hx).ex (hide_sub.trans nw_sub), ?_, fun _ _ => ?_, fun _ => ?_⟩
        · rw [sizeLine_eq]
          have := (List.getElem?_eq_some_iff.mp hi).1
          omega
        · show D2.nx _ H6
          rw [hD2]
          exact ⟨_, _, _, _, _, fys, _, rfl, eC5.trans e6, keep6, fun c h => dm4 c (fresh_back e46 h), hf6, by omega, ent6, e46 _ _ he4, hends4⟩
        · show D2.nx _ (upd H6 f _)
          rw [hD2]
          refine ⟨_, _, _, _, _, _, _, rfl, Ex.mut (eC5.trans e6) hCf, fun c o n1 n2 h => by rw [upd_ne n1]; exact keep6 c o n1 n2 h, fun c h => ?_, upd_same, by rw [List.length_append, List.length_singleton]; omega, fun x hx => ?_, by rw [upd_ne nfe]; exact e46 _ _ he4, hends4⟩
          · by_cases z : c = f
            · rw [z, upd_same] at h; cases h
            · rw [upd_ne z] at h; exact dm4 c (fresh_back e46 h)
          · rcases List.mem_append.mp hx with z | z
            · exact (ent6 x z).ex (hide_ex (nw_updf hBf h2f))
            · rw [List.mem_singleton.mp z]
              have hl5 : H5 lv = some (.frz od (NdO P w lv xs)) := e5 _ _ (keep4 _ _ nlf nle hLl)
              have into : Ex (Nw C H5 H6) (hide (Nw B H2 (upd H6 f (NdO P w f (fys ++ [(nkD (markKD m s.an s.st), b', v)])))) lv) := fun c o h => by
                have n1 : ∀ {c o}, Nw C H5 H6 c = some o → c ≠ lv := fun {c o} h z => by rw [z, nw_none hCl hl5] at h; cases h
                have n2 : ∀ {c o}, Nw C H5 H6 c = some o → c ≠ f := fun {c o} h z => by rw [z, nw_none hCf hf5] at h; cases h
                rw [hide_ne (n1 h)]
                refine ex_into (fun b o h => ?_) (fun b o h => ?_) c o h
                · rw [upd_ne (n2 h)]; exact nw_val h
                · rcases nw_vis h with ⟨u, z⟩ | z
                  · exact visC b u z
                  · exact .inr (dmL b (dm4 b (fresh_back e5 z)))
              have hlt : s.mrk = some m → m < ks.length := so.mrk m
              exact ⟨m, s.an, s.st, wy, rfl, hvb.ex into, k3.ex ((nw_base eC5 : Ex C (Nw C H5 H5)).trans ((nw_up e6).trans into)), hlt hmm, wo.m so hn5 hmm⟩
      · show D2.nx _ H5
        rw [hD2]
        exact ⟨_, _, _, _, _, fys, _, rfl, eC4.trans e5, fun c o n1 n2 h => e5 _ _ (keep4 c o n1 n2 h), fun c h => dm4 c (fresh_back e5 h), e5 _ _ hf4, by omega, fun x hx => (ent4 x hx).ex (hide_ex (nw_up e5)), e5 _ _ he4, hends4⟩
    · obtain ⟨y6, y7, y8, y9, y10, fys, kvs, rfl, eC, keep, dmx, hfx, hfl, hfent, hex, hends⟩ := pv
      have h5l : (upd H' lv (NdO P w lv xs)) lv = some (NdO P w lv xs) := upd_same
      have eC5 : Ex C (upd H' lv (NdO P w lv xs)) := Ex.mut eC hCl
      have dm5 : ∀ b, (upd H' lv (NdO P w lv xs)) b = none → H2 b = none := fun b h => by
        by_cases z : b = lv
        · rw [z, upd_same] at h; cases h
        · rw [upd_ne z] at h; exact dmL b (dmx b h)
      have eH5 : Ex H (upd H' lv (NdO P w lv xs)) := fun b o h => by
        have n1 : b ≠ lv := fun z => by rw [z, fresh_back eH2 h2lv] at h; cases h
        have n2 : b ≠ f := fun z => by rw [z, hHf] at h; cases h
        have n3 : b ≠ en := fun z => by rw [z, hHe] at h; cases h
        rw [upd_ne n1]
        exact keep b o n2 n3 (keepL b o n1 ((eH.trans e0) b o h))
      have h5f : (upd H' lv (NdO P w lv xs)) f = some (NdO P w f fys) := by rw [upd_ne nlf.symm]; exact hfx
      have h5e : (upd H' lv (NdO P w lv xs)) en = some (.dK kvs) := by rw [upd_ne nle.symm]; exact hex
      have ent5 : ∀ x ∈ fys, EntM ks (hide (Nw B H2 (upd H' lv (NdO P w lv xs))) lv) x := fun x hx => (hfent x hx).ex hide_updf
      generalize upd H' lv (NdO P w lv xs) = H5 at h5l eC5 dm5 eH5 h5f h5e ent5 ⊢
      refine go_asgCall (go_cons (go_var rfl (go_cons (go_var rfl (go_cons (go_var rfl (go_nil ⟨C, a, .ref lk, lv, p, ks, xs, n, 10 ^ n, rfl, eC5, lB.ex eBC, ok, kok, hvk2.ex eBC, hCl, h5l, hxl, hC, hn5, by omega, fun y H6 e6 hy => ?_⟩)))))))
      obtain ⟨lv2, xs2, rfl, hC2, hlv2, hxl2, hent2⟩ := hy
      have h22 : H2 lv2 = none := by
        rcases nw_vis hlv2 with ⟨u, z⟩ | z
        · rw [hC2] at z; cases z
        · exact dm5 _ z
      have visN : ∀ b o, Nw C H5 H6 b = some o → (∃ u, B b = some u) ∨ H2 b = none := fun b o h => by
        rcases nw_vis h with ⟨u, z⟩ | z
        · exact visC b u z
        · exact .inr (dm5 b z)
      have hN2 : Nw B H2 H6 lv2 = some (NdO P w lv2 xs2) := by
        rw [nw_free h22]
        exact nw_val hlv2
      refine ⟨lv2, xs2, fys, kvs, _, _, _, _, _, rfl, (eBC.trans eC5).trans e6, eH5.trans e6, fun b h => dm5 b (fresh_back e6 h), h22, nw_val hlv2, by rw [pw]; exact hxl2, fun x hx => ?_, e6 _ _ h5f, by omega, fun x hx => ?_, e6 _ _ h5e, hends⟩
      · exact EntP.hideN (EntP.ex (hent2 x hx) (ex_into (fun b o h => nw_val h) visN)) hN2
      · exact EntM.hideN ((ent5 x hx).ex ((hide_sub.trans (nw_up e6)))) hN2
end
end SF
set_option Elab.async false
set_option linter.all false
set_option maxRecDepth 100000
set_option maxHeartbeats 4000000
namespace SF
open PySem PySem.Spec PyProof.Rows L2 Evl
section
variable {P : Program} {w : World} {K : PySem.W.Frag} {mg : Str → Option Value} {base : Heap}

section
variable {K : PySem.W.Frag} {σ : L2.St} {G H : Hp} {g : TG} {tt : TT} {te tl : TE} {ta : TA} {vs : List Nat}
theorem go_if {t : TT} {ta tb : TE} {Q : VK} (h : t σ H fun b H1 => if b = true then ta σ H1 Q else tb σ H1 Q) : tIf t ta tb σ H Q := h
theorem go_B {Q : Bool → Hp → Prop} (h : te σ H fun v H1 => ∃ b, v = .bl b ∧ Q b H1) : tB te σ H Q := h
theorem go_c {v : V} {Q : VK} (h : Q v H) : tC v σ H Q := h
/-- over a list, the elements new things: no two of them are one -/
theorem lp_listD {a : Addr} {xs : List V} (P : Nat → PV) (u : ∀ i, Up (P i)) (hnew : ∀ i y h, P i y h → ∃ l, y = .ref l ∧ G l = none ∧ ∃ o, h l = some o) (h : Ev tl σ G (.ref a)) (hx : G a = some (.lst xs)) (hz : xs.length ≤ 50000)
    (hs : ∀ (i : Nat) (x : V), xs[i]? = some x → TurnP g tYes te σ vs x G true (P i)) : EvLP (tLc (iList K tl) g tYes te vs) σ G (fun ys h => Al P h (List.range xs.length) ys ∧ ys.Nodup) := fun H1 e Q q =>
  h H1 e _ fun H2 e2 => by
    have g2 := e.trans e2
    have hl0 : SqL K H2 a xs := sq_of (g2 _ _ hx)
    refine ⟨a, rfl, ⟨xs, hl0⟩, fun D hD => ?_⟩
    have hGD : G D = none := fresh_back g2 hD
    refine ⟨fun i m H => m = xs.length - i ∧ i ≤ xs.length ∧ Ex H2 H ∧ ∃ ys, H D = some (.lst ys) ∧ Al P (hide (Nw G H2 H) D) (List.range i) ys ∧ ys.Nodup, ⟨xs.length, by simp, Nat.zero_le _, Ex.new hD, [], upd_same, .nil, List.nodup_nil⟩, ?_⟩
    rintro i m H ⟨rfl, hi, e3, ys, hl, al, nd⟩
    have hax : SqL K H a xs := ex_l e3 hl0
    by_cases hlt : i < xs.length
    · refine .inr ⟨⟨xs, xs[i], hax, List.getElem?_eq_getElem hlt⟩, fun H' => Ex H2 H' ∧ ∃ ys, H' D = some (.lst ys) ∧ Al P (hide (Nw G H2 H') D) (List.range (i + 1)) ys ∧ ys.Nodup, fun H' p => ⟨xs.length - (i + 1), by omega, rfl, hlt, p⟩, fun x H' y => ?_⟩
      obtain ⟨rfl, y⟩ := y
      have hxi := y xs hax
      refine hs i x hxi H' (g2.trans e3) _ _ (fun _ y H4 e4 p => ?_) (fun hf => Bool.noConfusion hf)
      refine ⟨ys, e4 D _ hl, ?_, Ex.mut (e3.trans e4) hD, ys ++ [y], upd_same, ?_, ?_⟩
      · have := al.length
        rw [List.length_range] at this
        rw [sizeLine_eq]; omega
      · rw [List.range_succ]
        have sub : Ex (hide (Nw G H2 H') D) (hide (Nw G H2 (upd H4 D (.lst (ys ++ [y])))) D) := kept_app e4
        have new : Ex (Nw G H' H4) (hide (Nw G H2 (upd H4 D (.lst (ys ++ [y])))) D) := seen_app e3 hGD hl e4
        exact .snoc (u i _ _ _ new p) (al.up u sub)
      · refine List.nodup_append.mpr ⟨nd, by simp, fun z hz b hb => ?_⟩
        obtain rfl : b = y := by simpa using hb
        rintro rfl
        obtain ⟨l, rfl, hGl, o, ho⟩ := hnew i _ _ p
        have hfree : H' l = none := by
          rcases nw_vis ho with ⟨u, z⟩ | z
          · rw [hGl] at z; cases z
          · exact z
        obtain ⟨j, hj⟩ := List.mem_iff_getElem?.mp hz
        obtain ⟨k, _, pk⟩ := al.at hj
        obtain ⟨l', hl', _, o', ho'⟩ := hnew k _ _ pk
        cases hl'
        have := nw_val (hide_sub _ _ ho')
        rw [hfree] at this
        cases this
    · have ei : i = xs.length := by omega
      subst ei
      exact .inl ⟨⟨xs, hax, Nat.le_refl _⟩, q D ys H (fresh_back e2 hD) (e2.trans e3) hl ⟨al.up u (hide_ex (nw_chain e2)), nd⟩⟩
end
section
variable {K : PySem.W.Frag} {σ : L2.St} {G H : Hp} {te : TE}
theorem q_asgLP {D : Ends} {tz : TS} {i : Nat} {R : List V → Hp → Prop} (hv : EvLP te σ G R) (eG : Ex G H) (k : ∀ p ys H1, H p = none → Ex H H1 → H1 p = some (.lst ys) → R ys (hide (Nw G H H1) p) → tz D (σ.set i (some (.ref p))) H1) : tSeq (tAsg te (gName i)) tz D σ H := hv H eG _ k
end
section
variable {K : PySem.W.Frag} {σ : L2.St} {G H : Hp} {te : TE} {vs : List Nat}
theorem ep_lp {R : List V → Hp → Prop} {zs : List V} (h : EvLP te σ G R) (f : ∀ ys h, R ys h → ys = zs) : EvP te σ G (fun v H => ∃ l, v = .ref l ∧ G l = none ∧ H l = some (.lst zs)) := fun H1 e Q q =>
  h H1 e Q fun p ys H2 hp e2 hl r => q _ H2 e2 ⟨p, rfl, fresh_back e hp, by rw [nw_free hp, hl, f _ _ r]⟩
theorem turn_tup3 {i j l : Nat} {x y z : V} {T : Addr} {Q : PV} (hT : G T = some (.tup [x, y, z])) (hw : wipe ((((wipe σ vs).set i (some x)).set j (some y)).set l (some z)) vs = wipe σ vs) (he : EvP te ((((wipe σ vs).set i (some x)).set j (some y)).set l (some z)) G Q) :
    TurnP (gTup K 3 (gCons (gName i) (gCons (gName j) (gCons (gName l) gNil)))) tYes te σ vs (.ref T) G true Q := fun H1 e R R0 r _ =>
  ⟨T, _, rfl, st_of (e _ _ hT), rfl, _, _, rfl, _, _, rfl, _, _, rfl, rfl, hw, he H1 e R fun v H2 e2 p => r rfl v H2 e2 p⟩
end
theorem filter_getD {z : Nat} (p : Nat → Bool) (xs : List Nat) {n : Nat} (hn : n = xs.length) : (ixs n fun j => p (xs.getD j z)).map (fun j => V.int ((xs.getD j z : Nat) : Int)) = natsV (xs.filter p) := by
  have e : xs = (List.range n).map fun i => xs.getD i z := by
    have := map_getD (fun x : Nat => x) z xs hn
    rw [this, List.map_id']
  unfold natsV
  conv => rhs; rw [e, List.filter_map, List.map_map]
  rfl
def freeF (ks : List KEnt) (h : Nat) : List (List Nat) := ks.map fun e => e.2.filter fun x => decide (x ≠ h)
def needs (w : Way) (j : Nat) : Nat := w.countP fun e => !e.2 && e.1 == j
theorem filter_one {h : Nat} : ∀ {xs : List Nat}, xs.Nodup → h ∈ xs → (xs.filter fun x => decide (x ≠ h)).length + 1 = xs.length
  | a :: r, nd, hm => by
    obtain ⟨h1, h2⟩ := List.nodup_cons.mp nd
    rw [List.filter_cons]
    by_cases c : a = h
    · subst c
      rw [if_neg (by simp)]
      have : r.filter (fun x => decide (x ≠ a)) = r := List.filter_eq_self.mpr fun x hx => decide_eq_true fun z => h1 (z ▸ hx)
      rw [this]
      rfl
    · rw [if_pos (by simpa using c), List.length_cons, List.length_cons]
      rcases List.mem_cons.mp hm with z | z
      · exact absurd z.symm c
      · rw [filter_one h2 z]
theorem filter_all {h : Nat} {xs : List Nat} (hm : h ∉ xs) : xs.filter (fun x => decide (x ≠ h)) = xs := List.filter_eq_self.mpr fun x hx => decide_eq_true fun z => hm (z ▸ hx)
theorem needs_one : ∀ (w : Way) (j : Nat), w.countP (fun e => e.1 == j) = needs w j + w.countP (fun e => e.2 && e.1 == j)
  | [], _ => rfl
  | e :: w, j => by
    have ih := needs_one w j
    unfold needs at ih ⊢
    rw [List.countP_cons, List.countP_cons, List.countP_cons, ih]
    cases e.2 <;> cases (e.1 == j) <;> simp <;> omega
theorem marks_all {m : Nat} : ∀ {w : Way}, (∀ e ∈ w, e.2 = true → e.1 = m) → w.countP (fun e => e.2 && e.1 == m) = w.countP (·.2)
  | [], _ => rfl
  | e :: w, h => by
    have ih := marks_all (m := m) (w := w) fun e he => h e (List.mem_cons_of_mem _ he)
    rw [List.countP_cons, List.countP_cons, ih]
    cases hb : e.2 with
    | false => rfl
    | true =>
      rw [h e List.mem_cons_self hb]
      simp
theorem needs_ok {p : Plan} {n m h : Nat} {ks : List KEnt} {w : Way} {em : KEnt} (k : KOk p n ks) (o : WayM ks m w) (hm : ks[m]? = some em) (hh : h ∈ em.2) : ∀ (j : Nat) (f : List Nat), (freeF ks h)[j]? = some f → needs w j ≤ f.length := fun j f hf => by
  unfold freeF at hf
  rw [List.getElem?_map] at hf
  obtain ⟨e, he, rfl⟩ := Option.map_eq_some_iff.mp hf
  have h1 := needs_one w j
  have h2 := o.cnt j e he
  by_cases c : j = m
  · subst c
    rw [hm] at he
    cases he
    have h3 := filter_one (k.nd em (List.mem_of_getElem? hm)) hh
    rw [marks_all o.at_, o.one] at h1
    omega
  · have hn : h ∉ e.2 := fun z => c (k.disj j m e em h he hm z hh)
    rw [filter_all hn]
    omega
theorem free_lt {p : Plan} {n h : Nat} {ks : List KEnt} (k : KOk p n ks) : ∀ (j : Nat) (f : List Nat), (freeF ks h)[j]? = some f → ∀ x ∈ f, x < n := fun j f hf x hx => by
  unfold freeF at hf
  rw [List.getElem?_map] at hf
  obtain ⟨e, he, rfl⟩ := Option.map_eq_some_iff.mp hf
  exact k.lt e (List.mem_of_getElem? he) x (List.mem_filter.mp hx).1
abbrev OrderP (n : Nat) : PV := fun v H => ∃ os : List Nat, Dx H v (.list (natsD os)) ∧ os.length ≤ 5 ∧ ∀ o ∈ os, o < n
theorem up_order {n : Nat} : Up (OrderP n) := fun _ _ _ e ⟨os, h, r⟩ => ⟨os, h.ex e, r⟩
def spOrderOf : Sp := fun vs H Q _ => ∃ G kv wv, ∃ h m : Nat, ∃ p : Plan, ∃ ks w em, vs = [kv, wv, .int (h : Nat)] ∧ Ex G H ∧ PlanOk p ∧ KOk p p.many ks ∧ Dx G kv (kindsD ks) ∧ Dx G wv (wayD w) ∧ WayM ks m w ∧ ks[m]? = some em ∧ h ∈ em.2 ∧ RetP (OrderP p.many) G H Q
abbrev N_order_of : List Str := ["kinds", "way", "hand", "free", "order", "number", "is_marked", "one", "team", "place", "hands"]
theorem sc_order_of : FnScope N_order_of ["kinds", "way", "hand"] (defScope (topS 62)) := ⟨rfl, rfl, rfl, by decide +kernel, rfl, by decide +kernel, by decide +kernel⟩
theorem dn_order_of (T : Txt K mg) : Dn P w K mg base 1 "order_of" ["kinds", "way", "hand"] spOrderOf := by
  refine dn_of T.f_order_of sc_order_of (fun _ _ _ _ _ _ us hl => match us, hl with | [_, _, _], _ => rfl) (by rintro vs H Q E ⟨a, b, c, d, e, f, g, h, i, rfl, _⟩; rfl) (fun f cdv A outer s H vs Q E hr h => ?_)
  have nd := sc_order_of.nd
  refine ⟨_, (pss_cons (ps_setLc (i := 3) (own := [("team", 8), ("place", 9), ("hands", 10)]) (by rfl) nd rfl rfl (sw_true rfl rfl rfl (by decide +kernel)) (pi_listK K rfl (pv 0)) (blkOk_by (own := [("team", 8), ("place", 9), ("hands", 10)]) (N := N_order_of) (sc := (defScope (topS 62))) (by decide +kernel)) (fun _ _ _ _ _ => (pg_tupK K rfl 3 (by rfl) (pgs_cons (pg_name (i := 8) nd rfl (by first | exact Or.inl rfl | exact Or.inr rfl)) (pgs_cons (pg_name (i := 9) nd rfl (by first | exact Or.inl rfl | exact Or.inr rfl)) (pgs_cons (pg_name (i := 10) nd rfl (by first | exact Or.inl rfl | exact Or.inr rfl)) pgs_nil))))) (fun _ _ _ _ _ => pts_nil) (fun _ _ _ _ _ => (pe_lc (own := [("one", 7)]) (by rfl) nd (pi_listK K rfl (pv 10)) (blkOk_in (own := [("one", 7)]) N_order_of (defScope (topS 62)) rfl rfl (by decide +kernel)) (fun _ _ _ _ _ => (pg_name (i := 7) nd rfl (by first | exact Or.inl rfl | exact Or.inr rfl))) (fun _ _ _ _ _ => (pts_one (pt_cmpR op_ne (pv 7) (pv 2) (nomark _)))) (fun _ _ _ _ _ => (pv 7)))))
      (pss_cons (ps_set (i := 4) nd rfl (.inl rfl) (pe_lst pa_nil))
      (pss_cons (ps_for PassesOwn.never rfl (pi_tupK K rfl (pv 1)) (pg_tupK K rfl 2 (by rfl) (pgs_cons (pg_name (i := 5) nd rfl (by first | exact Or.inl rfl | exact Or.inr rfl)) (pgs_cons (pg_name (i := 6) nd rfl (by first | exact Or.inl rfl | exact Or.inr rfl)) pgs_nil))) (pss_one (ps_expr (pe_bmK K rfl PySem.F.plainAttrs_list PySem.F.slot_list_append PySem.F.type_list_append mt_append (pv 4) (pa_cons (pe_ifExp (pt_val (pv 6)) (pv 2) (pe_bmK K rfl PySem.F.plainAttrs_list PySem.F.slot_list_pop PySem.F.type_list_pop mt_popAt (pe_ix (ix_listK K rfl) (pv 3) (pv 5) (fun _ _ => rfl)) (pa_cons pe_int pa_nil))) pa_nil)))))
      (pss_one (ps_ret (pv 4)))))), ?_⟩
  obtain ⟨G, kv, wv, h, m, p, ks, w0, em, rfl, eG, ok, kok, hk, hw, wo, hem, hh, q⟩ := h
  obtain ⟨lk, xk, rfl, hlk, alk⟩ := dx_lst hk
  obtain ⟨lw, xw, rfl, hlw, alw⟩ := dx_tup hw
  have hxk : xk.length = ks.length := by rw [alk.length, List.length_map]
  have hxw : xw.length = w0.length := by rw [alw.length, List.length_map]
  have hkl : ks.length ≤ 5 := by
    have := kok.len
    have := ok.le
    have hmany : p.many = p.near.length + p.far.length := rfl
    omega
  have hmk : m < ks.length := (List.getElem?_eq_some_iff.mp hem).1
  have hhn : h < p.many := kok.lt em (List.mem_of_getElem? hem) h hh
  refine q_asgLP (lp_listD (fun i v H => ∃ l, v = .ref l ∧ G l = none ∧ H l = some (.lst (natsV ((freeF ks h).getD i [])))) (fun i _ _ _ e ⟨l, h1, h2, h3⟩ => ⟨l, h1, h2, e _ _ h3⟩) (fun i y hp ⟨l, h1, h2, h3⟩ => ⟨l, h1, h2, _, h3⟩) (ev_var rfl) hlk (by omega) fun i x hi => ?_) eG fun fl ys H1 hfl e1 hl1 ⟨al, nd2⟩ => ?_
  · obtain ⟨d, hd, hxd⟩ := alk.at' hi
    rw [List.getElem?_map] at hd
    obtain ⟨e, he, rfl⟩ := Option.map_eq_some_iff.mp hd
    obtain ⟨b, vt, vp, vh, rfl, hb, h1, h2, h3⟩ := dx_tup3 hxd
    obtain rfl := dx_int h1
    obtain rfl := dx_int h2
    obtain ⟨lh, xh, rfl, hlh, alh⟩ := dx_lst h3
    obtain rfl := dx_nats alh
    have hel := len_le_total (List.mem_of_getElem? he)
    have ef : (freeF ks h).getD i [] = e.2.filter fun x => decide (x ≠ h) := by
      unfold freeF
      rw [List.getD_eq_getElem?_getD, List.getElem?_map, he] <;> rfl
    rw [ef]
    refine turn_tup3 hb rfl (ep_lp (lp_list (fun j => decide (e.2.getD j 0 ≠ h)) (fun j v _ => v = V.int ((e.2.getD j 0 : Nat) : Int)) (fun _ => up_s) (ev_var rfl) hlh (by rw [natsV_len]; rw [kok.total] at hel; have := ok.le; have hmany : p.many = p.near.length + p.far.length := rfl; omega) fun j x hj => turn_nameT (fun _ => rfl) ?_ up_s fun _ => ep_ev (ev_var rfl) fun _ _ => ?_) fun ys hh al2 => ?_)
    · obtain ⟨n, hn, rfl⟩ := at_natsV hj
      have en : e.2.getD j 0 = n := by rw [List.getD_eq_getElem?_getD, hn, Option.getD_some]
      rw [en]
      refine et_is (et_test (ev_op (ev_var rfl) (ev_var rfl) (rv_ne rfl))) ?_
      by_cases c : n = h
      · subst c; simp
      · rw [decide_eq_false (fun z => c (by have := V.int.inj z; omega)), decide_eq_true c] <;> rfl
    · obtain ⟨n, hn, rfl⟩ := at_natsV hj
      rw [List.getD_eq_getElem?_getD, hn] <;> rfl
    · rw [Al.eq (v := fun j => V.int ((e.2.getD j 0 : Nat) : Int)) al2]
      exact filter_getD (fun x => decide (x ≠ h)) e.2 (natsV_len e.2)
  have hyl : ys.length = ks.length := by rw [al.length, List.length_range, hxk]
  refine ⟨Nat.zero_le _, fun lo hlo => ?_⟩
  have hHfl := hfl
  have hHlo : H lo = none := fresh_back e1 hlo
  have nlo : lo ≠ fl := fun z => by rw [z, hl1] at hlo; cases hlo
  have f0 : ∀ (j : Nat) (y : V), ys[j]? = some y → ∃ l, y = .ref l ∧ H l = none ∧ l ≠ fl ∧ l ≠ lo ∧ H1 l = some (.lst (natsV ((freeF ks h).getD j []))) := fun j y hj => by
    obtain ⟨k, hk, l, hy, hGl, hl⟩ := al.at hj
    have hjk : k = j := by
      have := (List.getElem?_eq_some_iff.mp hk).1
      rw [List.getElem?_range (by rwa [List.length_range] at this)] at hk
      exact (Option.some.inj hk).symm
    subst hjk
    have nf : l ≠ fl := fun z => by rw [z, hide_self] at hl; cases hl
    rw [hide_ne nf] at hl
    refine ⟨l, hy, ?_, nf, fun z => ?_, nw_val hl⟩
    · rcases nw_vis hl with ⟨u, z⟩ | z
      · rw [hGl] at z; cases z
      · exact z
    · have := nw_val hl
      rw [z, hlo] at this
      cases this
  have eG1 := eG.trans e1
  refine q_forT (ev_var rfl) (st_of ((Ex.new hlo) _ _ (eG1 _ _ hlw))) (fun i σ' H' => ∃ y5 y6, ∃ fs : List (List Nat), ∃ os : List Nat, σ' = [some (.ref lk), some (.ref lw), some (.int (h : Nat)), some (.ref fl), some (.ref lo), y5, y6, none, none, none, none] ∧ Ex H H' ∧ H' fl = some (.lst ys) ∧ H' lo = some (.lst (natsV os)) ∧ os.length = i ∧ (∀ o ∈ os, o < p.many) ∧
      (∀ (j : Nat) (y : V), ys[j]? = some y → ∃ l, y = .ref l ∧ H l = none ∧ l ≠ fl ∧ l ≠ lo ∧ H' l = some (.lst (natsV (fs.getD j [])))) ∧ fs.length = ks.length ∧ (∀ (j : Nat) (f : List Nat), fs[j]? = some f → needs (w0.drop i) j ≤ f.length) ∧ ∀ (j : Nat) (f : List Nat), fs[j]? = some f → ∀ x ∈ f, x < p.many)
    (fun H2 e2 => ⟨none, none, freeF ks h, [], rfl, e1.trans ((Ex.new hlo).trans e2), e2 _ _ ((Ex.new hlo) _ _ hl1), e2 _ _ upd_same, rfl, fun _ z => (by cases z), fun j y hj => ?_, List.length_map _, needs_ok kok wo hem hh, free_lt kok⟩) (fun i σ' H' _ pv => ?_) (fun i x σ' H' hi pv => ?_) (fun σ' H' pv => ?_)
  · obtain ⟨l, a1, a2, a3, a4, a5⟩ := f0 j y hj
    exact ⟨l, a1, a2, a3, a4, e2 _ _ ((Ex.new hlo) _ _ a5)⟩
  · obtain ⟨_, _, _, _, _, eH, _⟩ := pv
    exact st_of (eH _ _ (eG _ _ hlw))
  · obtain ⟨y5, y6, fs, os, rfl, eH, hfl', hlo', hos, hlt, hfr, hfs, hneed, hflt⟩ := pv
    have eG' := eG.trans eH
    have hi' : i < w0.length := by rw [← hxw]; exact (List.getElem?_eq_some_iff.mp hi).1
    obtain ⟨d, hd, hxd⟩ := alw.at' hi
    rw [List.getElem?_map] at hd
    obtain ⟨e, he, rfl⟩ := Option.map_eq_some_iff.mp hd
    obtain ⟨j, b⟩ := e
    obtain ⟨bt, v1, v2, rfl, hbt, h1, h2⟩ := dx_tup2 hxd
    obtain rfl := dx_int h1
    obtain rfl := dx_bl h2
    have hwl := wo.len
    have hdrop : w0.drop i = (j, b) :: w0.drop (i + 1) := by
      rw [List.drop_eq_getElem_cons hi']
      rw [List.getElem?_eq_getElem hi'] at he
      rw [Option.some.inj he]
    have hjk : j < ks.length := wo.lt (j, b) (List.mem_of_getElem? he)
    refine ⟨bt, _, rfl, st_of (eG' _ _ hbt), rfl, _, _, rfl, _, _, rfl, rfl, ?_⟩
    refine go_drop (go_BM (go_var rfl ⟨.inl ⟨rfl, _, sq_of hlo'⟩, go_cons (go_if (go_B (go_var rfl ⟨b, rfl, ?_⟩)))⟩))
    cases b with
    | true =>
      rw [if_pos rfl]
      refine go_var rfl (go_nil ⟨lo, _, _, rfl, rfl, hlo', by rw [natsV_len, sizeLine_eq]; omega, ?_⟩)
      refine ⟨_, _, fs, os ++ [h], rfl, Ex.mut eH hHlo, by rw [upd_ne nlo.symm]; exact hfl', ?_, by rw [List.length_append, hos] <;> rfl, fun o ho => ?_, fun j y hj => ?_, hfs, fun j2 f hf => ?_, hflt⟩
      · rw [upd_same]
        unfold natsV
        rw [List.map_append] <;> rfl
      · rcases List.mem_append.mp ho with z | z
        · exact hlt o z
        · rw [List.mem_singleton.mp z]; exact hhn
      · obtain ⟨l, a1, a2, a3, a4, a5⟩ := hfr j y hj
        exact ⟨l, a1, a2, a3, a4, by rw [upd_ne a4]; exact a5⟩
      · have := hneed j2 f hf
        rw [hdrop] at this
        unfold needs at this ⊢
        rw [List.countP_cons] at this
        simpa using this
    | false =>
      rw [if_neg (by decide)]
      have hjy : ys[j]? = some (ys[j]'(by omega)) := List.getElem?_eq_getElem (by omega)
      obtain ⟨l, a1, a2, a3, a4, a5⟩ := hfr j _ hjy
      have hjf : fs[j]? = some (fs[j]'(by omega)) := List.getElem?_eq_getElem (by omega)
      have ejf : fs.getD j [] = fs[j]'(by omega) := by rw [List.getD_eq_getElem?_getD, hjf, Option.getD_some]
      have need := hneed j _ hjf
      rw [hdrop] at need
      unfold needs at need
      rw [List.countP_cons] at need
      have need : (w0.drop (i + 1)).countP (fun e => !e.2 && e.1 == j) + 1 ≤ (fs[j]'(by omega)).length := by simpa using need
      have hlt2 := hflt j _ hjf
      have hal := hfr
      generalize hfj : fs[j]'(by omega) = fj at *
      cases fj with
      | nil => exact absurd need (by simp)
      | cons x r =>
        rw [ejf] at a5
        refine go_BM (go_op (go_var rfl (go_var rfl ⟨fl, ys, j, _, rfl, rfl, sq_of hfl', atI_nat hjy, ?_⟩)))
        rw [a1]
        refine ⟨.inl ⟨rfl, _, sq_of a5⟩, go_cons (go_c (go_nil ⟨l, _, 0, 0, .int (x : Nat), rfl, rfl, a5, by decide, by decide, ?_, rfl, ?_⟩))⟩
        · show seqIndex? 0 (natsV (x :: r)).length = some 0
          rw [natsV_len]
          show (if _ then _ else _) = _
          simp [seqIndex?]
        · have hlo2 : (upd H' l (.lst ((natsV (x :: r)).eraseIdx 0))) lo = some (.lst (natsV os)) := by rw [upd_ne a4.symm]; exact hlo'
          refine go_nil ⟨lo, _, _, rfl, rfl, hlo2, by rw [natsV_len, sizeLine_eq]; omega, ?_⟩
          refine ⟨_, _, fs.set j r, os ++ [x], rfl, Ex.mut (Ex.mut eH a2) hHlo, by rw [upd_ne nlo.symm, upd_ne a3.symm]; exact hfl', ?_, by rw [List.length_append, hos] <;> rfl, fun o ho => ?_, fun j2 y hj2 => ?_, by rw [List.length_set]; exact hfs, fun j2 f hf => ?_, fun j2 f hf => ?_⟩
          · rw [upd_same]
            unfold natsV
            rw [List.map_append] <;> rfl
          · rcases List.mem_append.mp ho with z | z
            · exact hlt o z
            · rw [List.mem_singleton.mp z]; exact hlt2 x List.mem_cons_self
          · obtain ⟨l2, b1, b2, b3, b4, b5⟩ := hfr j2 y hj2
            refine ⟨l2, b1, b2, b3, b4, ?_⟩
            rw [upd_ne b4]
            by_cases c : j = j2
            · subst c
              rw [hjy] at hj2
              have e2 := Option.some.inj hj2
              rw [a1, b1] at e2
              cases e2
              rw [upd_same, List.getD_eq_getElem?_getD, List.getElem?_set, if_pos rfl, if_pos (by omega), Option.getD_some]
              rfl
            · have nl : l2 ≠ l := fun z => by
                subst z
                have hj2' := (List.getElem?_eq_some_iff.mp hj2)
                obtain ⟨c1, c2⟩ := hj2'
                have nd3 := nd2
                unfold List.Nodup at nd3
                rw [List.pairwise_iff_getElem] at nd3
                rcases Nat.lt_or_gt_of_ne c with d | d
                · exact nd3 j j2 (by omega) c1 d (by rw [a1, c2, b1])
                · exact nd3 j2 j c1 (by omega) d (by rw [a1, c2, b1])
              rw [upd_ne nl, List.getD_eq_getElem?_getD, List.getElem?_set, if_neg c, ← List.getD_eq_getElem?_getD]
              exact b5
          · rw [List.getElem?_set] at hf
            by_cases c : j = j2
            · subst c
              rw [if_pos rfl, if_pos (by omega)] at hf
              cases hf
              unfold needs
              rw [List.length_cons] at need
              omega
            · rw [if_neg c] at hf
              have := hneed j2 f hf
              rw [hdrop] at this
              unfold needs at this ⊢
              rw [List.countP_cons] at this
              omega
          · rw [List.getElem?_set] at hf
            by_cases c : j = j2
            · subst c
              rw [if_pos rfl, if_pos (by omega)] at hf
              cases hf
              exact fun y hy => hlt2 y (List.mem_cons_of_mem _ hy)
            · rw [if_neg c] at hf
              exact hflt j2 f hf
  · obtain ⟨y5, y6, fs, os, rfl, eH, hfl', hlo', hos, hlt, hfr, hfs, hneed, hflt⟩ := pv
    refine s_ret (ev_var rfl) fun H2 e2 => q _ H2 (eH.trans e2) ⟨os, .lst ?_ (natsV_dx _ _), ?_, hlt⟩
    · rw [nw_free hHlo]
      exact e2 _ _ hlo'
    · have := wo.len
      omega
end
end SF
set_option Elab.async false
set_option linter.all false
set_option maxRecDepth 100000
set_option maxHeartbeats 4000000
namespace SF
open PySem PySem.Spec PyProof.Rows L2 Evl
section
variable {P : Program} {w : World} {K : PySem.W.Frag} {mg : Str → Option Value} {base : Heap}

section
variable {P : Program} {w : World} {K : PySem.W.Frag} {σ : L2.St} {G H : Hp} {te : TE} {ta : TA} {g : TG}
theorem go_asg {D : Ends} {tz : TS} (h : te σ H fun x H1 => g x σ H1 (tz D)) : tSeq (tAsg te g) tz D σ H := h
theorem go_par {D : Ends} {tz : TS} {i j : Nat} (h : ta σ H fun vs H1 => ∃ u v, vs = [u, v] ∧ tz D ((σ.set i (some u)).set j (some v)) H1) : tSeq (tPar i j ta) tz D σ H := h
theorem ev_dx {v : V} {d : PyData} (h : Ev te σ G v) (hd : Dx G v d) : EvD te σ G d := ed_ev h hd
theorem ep_lpS {R : List V → Hp → Prop} {α : Type} {f : α → PyData} {Q : α → Prop} (h : EvLP te σ G R) (k : ∀ ys h, R ys h → ∃ ss : List α, DxAll h ys (ss.map f) ∧ (∀ s ∈ ss, Q s) ∧ ∃ n, ss.length = n) : EvP te σ G (fun v H => ∃ ss : List α, Dx H v (.list (ss.map f)) ∧ ∀ s ∈ ss, Q s) := fun H1 e Q q =>
  h H1 e Q fun p ys H2 hp e2 hl r => by
    obtain ⟨ss, k1, k2, _⟩ := k _ _ r
    exact q _ H2 e2 ⟨ss, .lst (by rw [nw_free hp]; exact hl) (k1.ex hide_sub), k2⟩
theorem ed_getN {i j f b : Nat} {xs : List NEnt} {k : NestedKey} {v : V} {d : PyData} (h2 : σ[i]? = some (some (.ref f))) (h3 : σ[j]? = some (some (.ref b))) (hf : G f = some (NdO P w f xs)) (kb : KeyAt G k b) (ks : KeysAt G xs) (hv : valN xs k = some v) (hd : Dx G v d) : EvD (tGetN P w (tVar i) (tVar j)) σ G d := fun H e Q q =>
  ⟨_, h2, _, h3, f, xs, k, b, v, rfl, rfl, e _ _ hf, kb.ex e, fun x hx => (ks x hx).ex e, hv, q v H (Ex.refl H) (hd.ex (nw_base e))⟩
end
theorem al_some {α : Type} {f : α → PyData} {Q : α → Prop} {h : Hp} : ∀ {ks : List Nat} {ys : List V}, Al (fun _ v h => ∃ s, Dx h v (f s) ∧ Q s) h ks ys → ∃ ss : List α, DxAll h ys (ss.map f) ∧ (∀ s ∈ ss, Q s) ∧ ∃ n, ss.length = n
  | _, _, .nil => ⟨[], .nil, fun _ h => (by cases h), _, rfl⟩
  | _, _, .cons ⟨s, h1, h2⟩ r => by
    obtain ⟨ss, k1, k2, k3⟩ := al_some r
    exact ⟨s :: ss, .cons h1 k1, fun x hx => (List.mem_cons.mp hx).elim (fun e => e ▸ h2) (k2 x), _, rfl⟩
def shD (s : Nat × Way × Way) : PyData := .tuple [.int (s.1 : Nat), wayD s.2.1, wayD s.2.2]
def ShOk (ks : List KEnt) (s : Nat × Way × Way) : Prop := s.1 < ks.length ∧ WayM ks s.1 s.2.1 ∧ WayM ks s.1 s.2.2
abbrev SharedP (ks : List KEnt) : PV := fun v H => ∃ sh : List (Nat × Way × Way), Dx H v (.list (sh.map shD)) ∧ ∀ s ∈ sh, ShOk ks s
theorem up_shared {ks : List KEnt} : Up (SharedP ks) := fun _ _ _ e ⟨sh, h, r⟩ => ⟨sh, h.ex e, r⟩
theorem valN_mem {xs : List NEnt} {k : NestedKey} {v : V} (h : valN xs k = some v) : ∃ y ∈ xs, y.1 = k ∧ y.2.2 = v := by
  unfold valN at h
  obtain ⟨y, hy, rfl⟩ := Option.map_eq_some_iff.mp h
  exact ⟨y, List.mem_of_find?_eq_some hy, of_decide_eq_true (List.find?_some (p := fun x : NEnt => decide (x.1 = k)) hy), rfl⟩
theorem nk_mark_inj {m m' : Nat} {an an' : Option Int} {st st' : Nat} (h : nkD (markKD m an st) = nkD (markKD m' an' st')) : m = m' := by
  have h2 : NestedKey.tup (.num (m : Int) :: nkDs [.tuple [anD an, .int (st : Nat)]]) = NestedKey.tup (.num (m' : Int) :: nkDs [.tuple [anD an', .int (st' : Nat)]]) := h
  injection h2 with h3
  injection h3 with h4 _
  injection h4 with h4
  omega
def spShared (K : PySem.W.Frag) : Sp := fun vs H Q _ => ∃ G a, ∃ p : Plan, vs = [.ref a] ∧ Ex G H ∧ LayAt K a p G ∧ PlanOk p ∧ RetP (SharedP (kindsF p)) G H Q
abbrev N_shared_marks : List Str := ["layout", "ours", "theirs", "marked", "way"]
theorem sc_shared_marks : FnScope N_shared_marks ["layout"] (defScope (topS 63)) := ⟨rfl, rfl, rfl, by decide +kernel, rfl, by decide +kernel, by decide +kernel⟩
theorem dn_shared_marks (T : Txt K mg) (D_begun_by : Dn P w K mg base 4 "begun_by" ["layout", "team"] (spBegun K P w)) : Dn P w K mg base 5 "shared_marks" ["layout"] (spShared K) := by
  refine dn_of T.f_shared_marks sc_shared_marks (fun _ _ _ _ _ _ us hl => match us, hl with | [_], _ => rfl) (by rintro vs H Q E ⟨a, b, c, rfl, _⟩; rfl) (fun f cdv A outer s H vs Q E hr h => ?_)
  have nd := sc_shared_marks.nd
  refine ⟨_, (pss_cons (ps_asg (pe_tup (pa_cons (pe_ix (ix_tupK K rfl) (pe_fn D_begun_by hr (by decide) (by rfl) (pa_cons (pv 0) (pa_cons pe_int pa_nil))) pe_int (fun _ _ => rfl)) (pa_cons (pe_ix (ix_tupK K rfl) (pe_fn D_begun_by hr (by decide) (by rfl) (pa_cons (pv 0) (pa_cons pe_int pa_nil))) pe_int (fun _ _ => rfl)) pa_nil))) (pg_tupK K rfl 2 (by rfl) (pgs_cons (pg_name (i := 1) nd rfl (by first | exact Or.inl rfl | exact Or.inr rfl)) (pgs_cons (pg_name (i := 2) nd rfl (by first | exact Or.inl rfl | exact Or.inr rfl)) pgs_nil))))
      (pss_one (ps_ret (pe_lock (pe_lc (own := [("marked", 3), ("way", 4)]) (by rfl) nd (pi_itemsN P w rfl rfl (pv 1)) (blkOk_by (own := [("marked", 3), ("way", 4)]) (N := N_shared_marks) (sc := (defScope (topS 63))) (by decide +kernel)) (fun _ _ _ _ _ => (pg_tupK K rfl 2 (by rfl) (pgs_cons (pg_name (i := 3) nd rfl (by first | exact Or.inl rfl | exact Or.inr rfl)) (pgs_cons (pg_name (i := 4) nd rfl (by first | exact Or.inl rfl | exact Or.inr rfl)) pgs_nil)))) (fun _ _ _ _ _ => (pts_one (pt_cmpR (op_inN P w rfl rfl hr.units) (pv 3) (pv 2) (by rfl)))) (fun _ _ _ _ _ => (pe_tup (pa_cons (pe_ix (ix_tupK K rfl) (pv 3) pe_int (fun _ _ => rfl)) (pa_cons (pv 4) (pa_cons (pe_getN P w rfl rfl hr.units (pv 2) (pv 3) (fun _ _ => rfl)) pa_nil)))))))))), ?_⟩
  obtain ⟨G, a, p, rfl, eG, l, ok, q⟩ := h
  refine go_asg (go_tup (go_cons (go_op (go_ev (G := G) (PR := BegunP P w (kindsF p) G) (ep_call up_begun (ea_cons (ev_var rfl) (ea_cons ev_c ea_nil)) fun H1 e Q r => ⟨G, a, 0, p, rfl, e, l, ok, r⟩) eG fun v1 H1 e1 hp1 => go_c ?_))))
  obtain ⟨T1, f1, l1, xs1, rfl, hT1, hG1, hf1, hx1, ent1⟩ := hp1
  refine ⟨T1, _, 0, .ref f1, rfl, rfl, st_of (nw_val hT1), rfl, ?_⟩
  have b1 : Ex G (Nw G H H1) := nw_base (eG.trans e1)
  refine go_cons (go_op (go_ev (G := Nw G H H1) (PR := BegunP P w (kindsF p) (Nw G H H1)) (ep_call up_begun (ea_cons (ev_var rfl) (ea_cons ev_c ea_nil)) fun H2 e Q r => ⟨_, a, 1, p, rfl, e, l.ex b1, ok, r⟩) nw_sub fun v2 H2 e2 hp2 => go_c ?_))
  obtain ⟨T2, f2, l2, xs2, rfl, hT2, hG2, hf2, hx2, ent2⟩ := hp2
  refine ⟨T2, _, 0, .ref f2, rfl, rfl, st_of (nw_val hT2), rfl, go_nil ⟨by show 2 ≤ sizeLine; decide, fun pT hpT => ?_⟩⟩
  have e3 : Ex H2 (upd H2 pT (.tup [.ref f1, .ref f2])) := Ex.new hpT
  refine ⟨pT, _, rfl, st_of upd_same, rfl, _, _, rfl, _, _, rfl, rfl, ?_⟩
  generalize upd H2 pT (.tup [.ref f1, .ref f2]) = H3 at e3 ⊢
  have hH1 : H f1 = none := by
    rcases nw_vis hf1 with ⟨u, z⟩ | z
    · rw [hG1] at z; cases z
    · exact z
  have hH2 : H1 f2 = none := by
    rcases nw_vis hf2 with ⟨u, z⟩ | z
    · rw [hG2] at z; cases z
    · exact z
  have n12 : f2 ≠ f1 := fun z => by rw [z, nw_val hf1] at hH2; cases hH2
  have e23 := e2.trans e3
  have e13 := e1.trans e23
  have hb1 : Nw G H H3 f1 = some (NdO P w f1 xs1) := by rw [nw_free hH1]; exact e23 _ _ (nw_val hf1)
  have hb2 : Nw G H H3 f2 = some (NdO P w f2 xs2) := by rw [nw_free (fresh_back e1 hH2)]; exact e3 _ _ (nw_val hf2)
  have ent1' : ∀ x ∈ xs1, EntM (kindsF p) (hide (Nw G H H3) f1) x := fun x hx => EntM.hideN ((ent1 x hx).ex (nw_up e23)) hb1
  have ent2' : ∀ x ∈ xs2, EntM (kindsF p) (hide (Nw G H H3) f1) x := fun x hx => EntM.hideN ((ent2 x hx).ex ((nw_call e1).trans (nw_up e3))) hb1
  have hb2' : hide (Nw G H H3) f1 f2 = some (NdO P w f2 xs2) := by rw [hide_ne n12]; exact hb2
  refine s_retU2 (G := G) (H0 := H) (P := SharedP (kindsF p)) (ep_lpS (lp_itemsN (P := P) (w := w) (fun i => (valN xs2 ((xs1.getD i (.none, 0, .non)).1)).isSome) (fun _ v h => ∃ s, Dx h v (shD s) ∧ ShOk (kindsF p) s) (fun _ _ _ _ e ⟨s, h1, h2⟩ => ⟨s, h1.ex e, h2⟩) (ev_var rfl) hb1 (by omega) fun i k b v T G1 hx eg hT => ?_) fun ys h al => al_some al) up_shared e13 q
  obtain ⟨m, an, st, wy, k1, k2, k3, k4, k5⟩ := ent1' _ (List.mem_of_getElem? hx)
  have k2' := k2.ex eg
  have k3' := k3.ex eg
  obtain ⟨b', vm, vv, hbb, hb, hm, _⟩ := dx_tup2 k2'
  cases hbb
  obtain rfl := dx_int hm
  have hxi : (xs1.getD i (.none, 0, .non)).1 = nkD (markKD m an st) := by rw [List.getD_eq_getElem?_getD, hx, Option.getD_some]; exact k1
  have kk : KeyAt G1 (nkD (markKD m an st)) b := key_mark k2'
  have keys2 : KeysAt G1 xs2 := EntM.keys fun x hx => (ent2' x hx).ex eg
  have hf2' := eg _ _ hb2'
  intro H4 e4 R R0 r r0
  refine ⟨T, _, rfl, st_of (e4 _ _ hT), rfl, _, _, rfl, _, _, rfl, rfl, rfl, go_test (go_op (go_var rfl (go_var rfl ⟨f2, xs2, nkD (markKD m an st), b, rfl, rfl, e4 _ _ hf2', kk.ex e4, fun x hx => (keys2 x hx).ex e4, _, rfl, ?_⟩)))⟩
  dsimp only at r r0
  rw [hxi] at r r0
  cases hval : valN xs2 (nkD (markKD m an st)) with
  | none =>
    rw [hval] at r0
    exact r0 rfl H4 (Ex.refl _)
  | some v2 =>
    rw [hval] at r
    obtain ⟨y, hy, hy1, hy2⟩ := valN_mem hval
    obtain ⟨m', an', st', wy', c1, c2, c3, c4, c5⟩ := ent2' y hy
    have em : m = m' := nk_mark_inj (hy1.symm.trans c1)
    subst em
    rw [hy2] at c3
    rw [if_pos (by rfl)]
    exact (ed_tup (ed_cons (ev_dx (ev_op (ev_var rfl) ev_c (rv_ixT (i := 0) (st_of hb) (v := .int (m : Nat)) rfl)) (.int _)) (ed_cons (ed_ev (ev_var rfl) k3') (ed_cons (ed_getN rfl rfl hf2' kk keys2 hval (c3.ex eg)) ed_nil))) (by show 3 ≤ 100000; decide) : EvD _ _ G1 (shD (m, wy, wy'))) H4 e4 R fun y H5 e5 p => r rfl y H5 e5 ⟨_, p, k4, k5, c5⟩

mutual
theorem dp_of {K : PySem.W.Frag} {H : Hp} : ∀ {v : V} {d : PyData}, Dx H v d → d.canLay0 = true → Dp K H v d
  | _, _, .non, _ => .non
  | _, _, .bl b, _ => .bl b
  | _, _, .int i, _ => .int i
  | _, _, .str x, _ => .str x
  | _, _, .lst h a, c => .lst (sq_of h) (dp_all a c)
  | _, _, .tup h a, c => .tup (st_of h) (dp_all a c)
  | _, _, .dic _ _, c => Bool.noConfusion c
theorem dp_all {K : PySem.W.Frag} {H : Hp} : ∀ {vs : List V} {ds : List PyData}, DxAll H vs ds → PyData.canLayAll0 ds = true → DpAll K H vs ds
  | _, _, .nil, _ => .nil
  | _, _, .cons h r, c => by
    have c2 : (PyData.canLay0 _ && PyData.canLayAll0 _) = true := c
    rw [Bool.and_eq_true] at c2
    exact .cons (dp_of h c2.1) (dp_all r c2.2)
end
theorem lay_all : ∀ {ds : List PyData}, (∀ d ∈ ds, d.canLay0 = true) → PyData.canLayAll0 ds = true
  | [], _ => rfl
  | d :: ds, h => by
    show (d.canLay0 && PyData.canLayAll0 ds) = true
    rw [h d List.mem_cons_self, lay_all fun x hx => h x (List.mem_cons_of_mem _ hx)] <;> rfl
theorem depth_all {n : Nat} : ∀ {ds : List PyData}, (∀ d ∈ ds, d.depth ≤ n) → PyData.depthAll ds ≤ n
  | [], _ => Nat.zero_le _
  | d :: ds, h => by
    show max d.depth (PyData.depthAll ds) ≤ n
    exact Nat.max_le.mpr ⟨h d List.mem_cons_self, depth_all fun x hx => h x (List.mem_cons_of_mem _ hx)⟩
theorem lay_way (w : Way) : (wayD w).canLay0 = true := lay_all fun d hd => by
  obtain ⟨e, _, rfl⟩ := List.mem_map.mp hd
  rfl
theorem depth_way (w : Way) : (wayD w).depth ≤ 2 := by
  show PyData.depthAll (w.map turnD) + 1 ≤ 2
  have : PyData.depthAll (w.map turnD) ≤ 1 := depth_all fun d hd => by
    obtain ⟨e, _, rfl⟩ := List.mem_map.mp hd
    exact Nat.le_of_ble_eq_true rfl
  omega
theorem shaped_sh (sh : List (Nat × Way × Way)) : SeqAt.shaped (.list (sh.map shD)) = true := by
  unfold SeqAt.shaped
  rw [Bool.and_eq_true]
  refine ⟨lay_all fun d hd => ?_, decide_eq_true ?_⟩
  · obtain ⟨e, _, rfl⟩ := List.mem_map.mp hd
    show (true && ((wayD e.2.1).canLay0 && ((wayD e.2.2).canLay0 && true))) = true
    rw [lay_way, lay_way] <;> rfl
  · show PyData.depthAll (sh.map shD) + 1 ≤ 64
    have : PyData.depthAll (sh.map shD) ≤ 3 := depth_all fun d hd => by
      obtain ⟨e, _, rfl⟩ := List.mem_map.mp hd
      show max 0 (max (wayD e.2.1).depth (max (wayD e.2.2).depth 0)) + 1 ≤ 3
      have h1 := depth_way e.2.1
      have h2 := depth_way e.2.2
      omega
    omega
structure Base where
  who : Nat
  a : List Nat
  b : List Nat
def baseD (b : Base) : PyData := .tuple [.int (b.who : Nat), .list (natsD b.a), .list (natsD b.b)]
structure BaseOk (n : Nat) (b : Base) : Prop where
  who : b.who < n
  la : b.a.length ≤ 5
  lb : b.b.length ≤ 5
  a : ∀ x ∈ b.a, x < n
  b : ∀ x ∈ b.b, x < n
abbrev BlotP (p : Plan) : PV := fun v H => v = .non ∨ ∃ b : Base, Dx H v (baseD b) ∧ BaseOk p.many b
theorem up_blot {p : Plan} : Up (BlotP p) := fun _ _ _ e h => h.imp id fun ⟨b, h1, h2⟩ => ⟨b, h1.ex e, h2⟩
def spBlot (K : PySem.W.Frag) : Sp := fun vs H Q _ => ∃ G a, ∃ p : Plan, vs = [.ref a] ∧ Ex G H ∧ LayAt K a p G ∧ PlanOk p ∧ RetP (BlotP p) G H Q
abbrev N_blot : List Str := ["layout", "shared", "kinds", "number", "way", "other", "hand"]
theorem sc_blot : FnScope N_blot ["layout"] (defScope (topS 64)) := ⟨rfl, rfl, rfl, by decide +kernel, rfl, by decide +kernel, by decide +kernel⟩
theorem dn_blot (T : Txt K mg) (D_shared_marks : Dn P w K mg base 5 "shared_marks" ["layout"] (spShared K)) (D_kinds_of : Dn P w K mg base 2 "kinds_of" ["layout"] (spKindsOf K)) (D_order_of : Dn P w K mg base 1 "order_of" ["kinds", "way", "hand"] spOrderOf) : Dn P w K mg base 6 "blot" ["layout"] (spBlot K) := by
  refine dn_of T.f_blot sc_blot (fun _ _ _ _ _ _ us hl => match us, hl with | [_], _ => rfl) (by rintro vs H Q E ⟨a, b, c, rfl, _⟩; rfl) (fun f cdv A outer s H vs Q E hr h => ?_)
  have nd := sc_blot.nd
  refine ⟨_, (pss_cons (ps_par (i := 1) (j := 2) (by rfl) nd rfl rfl (by decide) rfl rfl (pa_cons (pe_fn D_shared_marks hr (by decide) (by rfl) (pa_cons (pv 0) pa_nil)) (pa_cons (pe_fn D_kinds_of hr (by decide) (by rfl) (pa_cons (pv 0) pa_nil)) pa_nil)) (by rfl))
      (pss_cons (ps_if (pt_cmpR (op_eqDK K rfl hr) (pv 1) (pe_lst pa_nil) (nomark _)) (pss_one (ps_ret pe_non)) pss_nil)
      (pss_cons (ps_asg (pe_ix (ix_listK K rfl) (pv 1) pe_int (fun _ _ => rfl)) (pg_tupK K rfl 3 (by rfl) (pgs_cons (pg_name (i := 3) nd rfl (by first | exact Or.inl rfl | exact Or.inr rfl)) (pgs_cons (pg_name (i := 4) nd rfl (by first | exact Or.inl rfl | exact Or.inr rfl)) (pgs_cons (pg_name (i := 5) nd rfl (by first | exact Or.inl rfl | exact Or.inr rfl)) pgs_nil)))))
      (pss_cons (ps_set (i := 6) nd rfl (.inl rfl) (pe_ix (ix_listK K rfl) (pe_ix (ix_tupK K rfl) (pe_ix (ix_listK K rfl) (pv 2) (pv 3) (fun _ _ => rfl)) pe_int (fun _ _ => rfl)) pe_int (fun _ _ => rfl)))
      (pss_one (ps_ret (pe_tup (pa_cons (pv 6) (pa_cons (pe_fn D_order_of hr (by decide) (by rfl) (pa_cons (pv 2) (pa_cons (pv 4) (pa_cons (pv 6) pa_nil)))) (pa_cons (pe_fn D_order_of hr (by decide) (by rfl) (pa_cons (pv 2) (pa_cons (pv 5) (pa_cons (pv 6) pa_nil)))) pa_nil)))))))))), ?_⟩
  obtain ⟨G, a, p, rfl, eG, l, ok, q⟩ := h
  have kok := kindsF_ok ok
  refine go_par (go_cons (go_ev (G := G) (PR := SharedP (kindsF p)) (ep_call up_shared (ea_cons (ev_var rfl) ea_nil) fun H1 e Q r => ⟨G, a, p, rfl, e, l, ok, r⟩) eG fun v1 H1 e1 h1 => go_cons (go_ev (G := Nw G H H1) (PR := fun v H => Dx H v (kindsD (kindsF p))) (ep_call up_dx (ea_cons (ev_var rfl) ea_nil) fun H2 e Q r => ⟨Nw G H H1, a, p, rfl, e, l.ex (nw_base (eG.trans e1)), ok, r⟩) nw_sub fun v2 H2 e2 h2 => go_nil ⟨_, _, rfl, ?_⟩)))
  obtain ⟨sh, hsh, all⟩ := h1
  have hk : Dx (Nw G H H2) v2 (kindsD (kindsF p)) := h2.ex (nw_call e1)
  have hsh := hsh.ex (nw_up e2)
  have e12 := e1.trans e2
  generalize kindsF p = ks at *
  refine q_when (b := decide (sh = [])) (EvT.mono (H := Nw G H H2) nw_sub (et_test (ev_is (ev_eqD (c := .list (sh.map shD)) (d := .list []) (ed_ev (ev_var rfl) hsh) (ed_lst ed_nil (by show 0 ≤ 100000; decide)) (fun H v h => dp_of h (lay_all fun d hd => ?_)) (fun H v h => dp_of h rfl) (shaped_sh sh) rfl) ?_))) (fun hc H3 e3 => ?_) (fun hc H3 e3 => ?_)
  · obtain ⟨e, _, rfl⟩ := List.mem_map.mp hd
    show (true && ((wayD e.2.1).canLay0 && ((wayD e.2.2).canLay0 && true))) = true
    rw [lay_way, lay_way] <;> rfl
  · cases sh with
    | nil => rfl
    | cons s r => rfl
  · exact s_ret ev_c fun H4 e4 => q _ H4 ((e12.trans e3).trans e4) (.inl rfl)
  · have hne : sh ≠ [] := of_decide_eq_false hc
    obtain ⟨s0, r0, rfl⟩ : ∃ s r, sh = s :: r := by
      cases sh with
      | nil => exact absurd rfl hne
      | cons s r => exact ⟨s, r, rfl⟩
    obtain ⟨m, w1, w2⟩ := s0
    obtain ⟨hm, o1, o2⟩ := all _ List.mem_cons_self
    have hm : m < ks.length := hm
    have hkm : ks[m]? = some ks[m] := List.getElem?_eq_getElem hm
    have hmem : ks[m] ∈ ks := List.getElem_mem hm
    obtain ⟨h, hr', hh⟩ : ∃ h r, ks[m].2 = h :: r := by
      cases z : ks[m].2 with
      | nil => exact absurd z (kok.ne _ hmem)
      | cons h r => exact ⟨h, r, rfl⟩
    have hin : h ∈ ks[m].2 := by rw [hh]; exact List.mem_cons_self
    have e13 := e12.trans e3
    have hsh3 := hsh.ex (nw_up e3)
    have hk3 := hk.ex (nw_up e3)
    refine q_trip (G := Nw G H H3) (c := .int (m : Nat)) (d := wayD w1) (e := wayD w2) (ed_ixL (ds := (((m, w1, w2) :: r0).map shD)) (i := 0) (ed_ev (ev_var rfl) hsh3) ev_c rfl) nw_sub fun x y z H4 e4 hx hy hz => ?_
    obtain rfl := dx_int hx
    have e14 := e13.trans e4
    have hy4 : Dx (Nw G H H4) y (wayD w1) := hy.ex (nw_call e13)
    have hz4 : Dx (Nw G H H4) z (wayD w2) := hz.ex (nw_call e13)
    have hk4 := hk3.ex (nw_up e4)
    refine q_asg (v := .int (h : Nat)) (Ev.mono (H := Nw G H H4) nw_sub (ev_ed (ed_ixL (ds := natsD ks[m].2) (i := 0) (ed_ixT (ds := [.int (ks[m].1.1 : Nat), .int (ks[m].1.2 : Nat), .list (natsD ks[m].2)]) (i := 2) (ed_ixL (ds := ks.map kindD) (i := m) (ed_ev (ev_var rfl) hk4) (ev_var rfl) (by rw [List.getElem?_map, hkm] <;> rfl)) ev_c rfl) ev_c (by rw [hh] <;> rfl)))) fun H5 e5 => ?_
    have e15 := e14.trans e5
    have b5 : Ex (Nw G H H4) (Nw G H H5) := nw_up e5
    have hk5 := hk4.ex b5
    have hy5 := hy4.ex b5
    have hz5 := hz4.ex b5
    have call : ∀ {i j l : Nat} {σ : L2.St} {wv : V} {w : Way}, σ[i]? = some (some v2) → σ[j]? = some (some wv) → σ[l]? = some (some (.int (h : Nat))) → Dx (Nw G H H5) wv (wayD w) → WayM ks m w → EvP (tCall spOrderOf [] E0 (tCons (tVar i) (tCons (tVar j) (tCons (tVar l) tNil)))) σ (Nw G H H5) (OrderP p.many) := fun {i j l σ wv w} c1 c2 c3 hw ow => ep_call up_order (ea_cons (ev_var c1) (ea_cons (ev_var c2) (ea_cons (ev_var c3) ea_nil))) fun H6 e Q r => ⟨_, _, _, h, m, p, ks, w, ks[m], rfl, e, ok, kok, hk5, hw, ow, hkm, hin, r⟩
    refine s_retU2 (G := G) (H0 := H) (P := BlotP p) (fun H6 e6 Q q => go_tup (go_cons (go_var rfl (go_cons (go_ev (call rfl rfl rfl hy5 o1) e6 fun va H7 e7 ha => go_cons (go_ev (call rfl rfl rfl hz5 o2) (e6.trans e7) fun vb H8 e8 hb => go_nil ⟨by show 3 ≤ sizeLine; decide, fun pp hp => ?_⟩)))))) up_blot e15 q
    obtain ⟨oa, ha, la, lta⟩ := ha
    obtain ⟨ob, hb, lb, ltb⟩ := hb
    have e9 := Ex.new (o := .tup [.int (h : Nat), va, vb]) hp
    refine q _ _ ((e7.trans e8).trans e9) (.inr ⟨⟨h, oa, ob⟩, .tup (nw_new (e7.trans e8) hp) (.cons (.int _) (.cons (ha.ex (nw_up (e8.trans e9))) (.cons (hb.ex ((nw_chain e7).trans (nw_up e9))) .nil))), ⟨kok.lt _ hmem h hin, la, lb, lta, ltb⟩⟩)
end
end SF
set_option Elab.async false
set_option linter.all false
set_option maxRecDepth 100000
set_option maxHeartbeats 4000000
/-! ### the pot: a list of two ints, of which the bounds alone are told -/
namespace SF
open PySem PySem.Spec PyProof.Rows L2 Evl
def PotR (h : Heap) (a : Addr) : Prop := ∃ (x y : Int) (t1 t2 : Tok) (n : Nat), 0 ≤ x ∧ 0 ≤ y ∧ y ≤ 2147483543 ∧ h.get? a = some { cls := .type "list", data := .seq #[.int x t1, .int y t2] n }
def PotO (a : Addr) : HO := .ext fun h => PotR h a
theorem potO_ok {P : Program} {w : World} {H : Hp} {h : Heap} {a : Addr} (R : PotR h a) : ObjOk P w H h a (PotO a) := by
  have ⟨x, y, t1, t2, n, _, _, _, ho⟩ := R
  exact ⟨R, ⟨_, ho⟩, fun h1 h2 p k => let ⟨x, y, t1, t2, n, a, b, c, d⟩ := p; ⟨x, y, t1, t2, n, a, b, c, k _ d⟩⟩
theorem upd_self {H : Hp} {a : Addr} {o : HO} (h : H a = some o) : upd H a o = H := by
  funext b
  unfold upd
  split
  · rename_i e
    rw [e, h]
  · rfl
def rIxPot : R2 := fun x y H Q => ∃ a, x = .ref a ∧ H a = some (PotO a) ∧ ((y = .int 0 ∧ ∀ z : Int, 0 ≤ z → Q (.int z) H) ∨ (y = .int 1 ∧ ∀ z : Int, 0 ≤ z → z ≤ 2147483543 → Q (.int z) H))
def rSetPot : V → V → V → Hp → (Hp → Prop) → Prop := fun o i v H Q => ∃ a z, o = .ref a ∧ v = .int z ∧ H a = some (PotO a) ∧ ((i = .int 0 ∧ 0 ≤ z) ∨ (i = .int 1 ∧ 0 ≤ z ∧ z ≤ 2147483543)) ∧ Q H
section
variable {X : Cx} {pins : List (Addr × Obj)} {σ : L2.St} {H : Hp} {s : Shared}
theorem ix_pot : IxR X rIxPot := by
  intro value slice pins s σ H x y v u Q I rx ry h hs
  obtain ⟨a, rfl, ha, h⟩ := h
  obtain rfl : v = Value.ref a := rx
  obtain ⟨R, _⟩ := I.hok a _ ha
  obtain ⟨x, y, t1, t2, n, hx, hy, hy2, ho⟩ := R
  have il : s.heap.IsList a #[.int x t1, .int y t2] := ⟨_, ho, rfl, n, rfl⟩
  rcases h with ⟨rfl, q⟩ | ⟨rfl, q⟩
  · obtain ⟨t, rfl⟩ := ry
    exact item_listR il (by decide) (by decide) (show #[Value.int x t1, .int y t2][(0 : Int).toNat]? = some (.int x t1) from rfl) ⟨.int x, H, I, ⟨_, rfl⟩, q x hx⟩ hs
  · obtain ⟨t, rfl⟩ := ry
    exact item_listR il (by decide) (by decide) (show #[Value.int x t1, .int y t2][(1 : Int).toNat]? = some (.int y t2) from rfl) ⟨.int y, H, I, ⟨_, rfl⟩, q y hy hy2⟩ hs
theorem set_pot : PSet X rSetPot := by
  intro pins s σ H o i v ov iv u Q I ro ri rv h
  obtain ⟨a, z, rfl, rfl, ha, h, q⟩ := h
  obtain rfl : ov = Value.ref a := ro
  obtain ⟨tz, rfl⟩ := rv
  obtain ⟨R, _⟩ := I.hok a _ ha
  obtain ⟨x, y, t1, t2, n, hx, hy, hy2, ho⟩ := R
  have back : ∀ {f : Obj → Obj} {vs : Array Value}, f { cls := .type "list", data := .seq #[.int x t1, .int y t2] n } = { cls := .type "list", data := .seq vs n } → (∃ x y t1 t2, 0 ≤ x ∧ 0 ≤ y ∧ y ≤ 2147483543 ∧ vs = #[Value.int x t1, .int y t2]) → Inv X pins σ H { s with heap := s.heap.update a f } := by
    intro f vs hf ⟨x', y', t1', t2', h1, h2, h3, h4⟩
    have e : (s.heap.update a f).get? a = some { cls := .type "list", data := .seq vs n } := by
      rw [Heap.get?_update_self f ho (by rw [hf] <;> rfl), hf]
    have J := I.write (o := PotO a) (x := a) (e := a) (t' := s.toks) (by rw [ha]; trivial) (.inl rfl) (fun b u hb q => (Heap.get?_update_other _ _ (Ne.symm hb)).trans q) ⟨_, e⟩ (potO_ok ⟨x', y', t1', t2', n, h1, h2, h3, by rw [e, h4]⟩)
    rwa [upd_self ha] at J
  rcases h with ⟨rfl, hz⟩ | ⟨rfl, hz, hz2⟩
  · obtain ⟨t, rfl⟩ := ri
    exact PySem.W.ki_setAt ho (by decide) (by decide) (show (0 : Int) < 2 by decide) ⟨H, back (vs := #[.int z tz, .int y t2]) rfl ⟨z, y, tz, t2, hz, hy, hy2, rfl⟩, q⟩
  · obtain ⟨t, rfl⟩ := ri
    exact PySem.W.ki_setAt ho (by decide) (by decide) (show (1 : Int) < 2 by decide) ⟨H, back (vs := #[.int x t1, .int z tz]) rfl ⟨x, z, t1, tz, hx, hz, hz2, rfl⟩, q⟩
/-- [x, y], to be a pot -/
def tPotLst (ta : TA) : TE := fun σ H Q => ta σ H fun vs H1 => ∃ x y : Int, vs = [.int x, .int y] ∧ 0 ≤ x ∧ 0 ≤ y ∧ y ≤ 2147483543 ∧ ∀ p, H1 p = none → Q (.ref p) (upd H1 p (PotO p))
theorem pe_potLst {es : List Expr} {ta : TA} {pos : Pos} (h : PA X es ta) : PE X (.List es pos) (tPotLst ta) := by
  refine ⟨fun pins s σ H Q I hq => wpAny_List_spliced (thn (h.run pos pins s σ H _ I hq) fun us s1 ⟨xs, H1, I1, r, x, y, e, h1, h2, h3, q⟩ => ?_)⟩
  subst e
  cases r with
  | cons r1 rt =>
    cases rt with
    | cons r2 rt =>
      cases rt
      obtain ⟨t1, rfl⟩ := r1
      obtain ⟨t2, rfl⟩ := r2
      refine ⟨by show 2 ≤ sizeLine; decide, .ref s1.heap.objs.size, upd H1 s1.heap.objs.size (PotO s1.heap.objs.size), I1.laid (t' := s1.toks) (fun b u e => Heap.get?_push_of_some _ e) (Nat.le_refl _) (potO_ok ⟨x, y, t1, t2, 0, h1, h2, h3, Heap.get?_push_size _ rfl⟩), rfl, q _ (I1.hok.fresh (Nat.le_refl _))⟩
end
end SF
set_option Elab.async false
set_option linter.all false
set_option maxRecDepth 100000
set_option maxHeartbeats 4000000
namespace SF
open PySem PySem.Spec PyProof.Rows L2 Evl
section
variable {P : Program} {w : World} {K : PySem.W.Frag} {mg : Str → Option Value} {base : Heap}

section
variable {K : PySem.W.Frag} {σ : L2.St} {G H : Hp} {te tl : TE} {ta : TA}
theorem go_when {D : Ends} {t : TT} {tu tz : TS} (h : t σ H fun b H1 => if b = true then tu { D with nx := tz D } σ H1 else tz D σ H1) : tSeq (tIfS t tu tNext) tz D σ H := h
theorem go_potLst {Q : VK} (h : ta σ H fun vs H1 => ∃ x y : Int, vs = [.int x, .int y] ∧ 0 ≤ x ∧ 0 ≤ y ∧ y ≤ 2147483543 ∧ ∀ p, H1 p = none → Q (.ref p) (upd H1 p (PotO p))) : tPotLst ta σ H Q := h
theorem go_ea {vs : List V} {Q : List V → Hp → Prop} (h : EvA ta σ H vs) (k : ∀ H1, Ex H H1 → Q vs H1) : ta σ H Q := h H (Ex.refl H) Q k
theorem callr_or {X : Cx} {f : Value} {r r' : List V → Hp → VK → Prop} (h : CallR X f r) (h' : CallR X f r') : CallR X f (fun xs H Q => r xs H Q ∨ r' xs H Q) := fun pins s σ H xs us Q I rx q => q.elim (h pins s σ H xs us Q I rx) (h' pins s σ H xs us Q I rx)
def rLenStr : List V → Hp → VK → Prop := fun xs H Q => ∃ z, xs = [.str z] ∧ z.length ≤ sizeLine ∧ Q (.int z.length) H
def rLenLS (K : PySem.W.Frag) : List V → Hp → VK → Prop := fun xs H Q => rLenS K xs H Q ∨ rLenStr xs H Q
theorem call_lenLS {X : Cx} (K : PySem.W.Frag) (hK : X.K = K) : CallR X (.builtin "len") (rLenLS K) := callr_or (call_lenK K hK) call_len_str
def rIxLS (K : PySem.W.Frag) : R2 := fun x y H Q => rIxL K x y H Q ∨ rIxS x y H Q
theorem ix_LS {X : Cx} (K : PySem.W.Frag) (hK : X.K = K) : IxR X (rIxLS K) := (ix_listK K hK).or ix_str
end
/-- a pot -/
abbrev PotAt (a : Addr) (H : Hp) : Prop := H a = some (PotO a)
abbrev PotP : PV := fun v H => ∃ p, v = .ref p ∧ PotAt p H
theorem up_pot : Up PotP := fun _ _ _ e ⟨p, h1, h2⟩ => ⟨p, h1, e _ _ h2⟩
def spPot (K : PySem.W.Frag) : Sp := fun vs H Q _ => ∃ G a, ∃ xs : List Int, ∃ k : Nat, vs = [.ref a, .int (k : Nat)] ∧ Ex G H ∧ SqL K G a (xs.map V.int) ∧ k ≤ 1000 ∧ RetP PotP G H Q
/-- a number below n -/
abbrev BelowP (n : Nat) : PV := fun v _ => ∃ d : Nat, v = .int (d : Nat) ∧ d < n
theorem up_below {n : Nat} : Up (BelowP n) := fun _ _ _ _ h => h
def spDraw : Sp := fun vs H Q _ => ∃ G a, ∃ n : Nat, vs = [.ref a, .int (n : Nat)] ∧ Ex G H ∧ PotAt a G ∧ 1 ≤ n ∧ n ≤ 100000000 ∧ RetP (BelowP n) G H Q
abbrev OneP (ds : List PyData) : PV := fun v H => ∃ d ∈ ds, Dx H v d
theorem up_one {ds : List PyData} : Up (OneP ds) := fun _ _ _ e ⟨d, h1, h2⟩ => ⟨d, h1, h2.ex e⟩
abbrev CharP (z : Str) : PV := fun v _ => ∃ (i c : Nat), z.cps[i]? = some c ∧ v = .str ⟨#[c]⟩
theorem up_char {z : Str} : Up (CharP z) := fun _ _ _ _ h => h
def spPick : Sp := fun vs H Q _ => ∃ G a v, vs = [.ref a, v] ∧ Ex G H ∧ PotAt a G ∧ ((∃ ds, Dx G v (.list ds) ∧ ds ≠ [] ∧ ds.length ≤ 100000000 ∧ RetP (OneP ds) G H Q) ∨ ∃ z : Str, v = .str z ∧ 0 < z.cps.size ∧ z.cps.size ≤ 1000 ∧ RetP (CharP z) G H Q)
theorem rc_int {K : PySem.W.Frag} {G : Hp} {i : Int} : RC (fun xs H Q => (∃ i, xs = [.int i] ∧ Q (.int i) H) ∨ ∃ k, xs = [.bl k] ∧ Q (.int (if k then 1 else 0)) H) [.int i] G (.int i) := fun H1 _ Q q => .inl ⟨i, rfl, q H1 (Ex.refl H1)⟩
abbrev N_law_pot : List Str := ["_law_script", "_law_k", "_law_cell"]
theorem sc_law_pot : FnScope N_law_pot ["_law_script", "_law_k"] (defScope (topS 68)) := ⟨rfl, rfl, rfl, by decide +kernel, rfl, by decide +kernel, by decide +kernel⟩
theorem dn_law_pot (T : Txt K mg) : Dn P w K mg base 1 "_law_pot" ["_law_script", "_law_k"] (spPot K) := by
  refine dn_of T.f_law_pot sc_law_pot (fun _ _ _ _ _ _ us hl => match us, hl with | [_, _], _ => rfl) (by rintro vs H Q E ⟨a, b, c, d, rfl, _⟩; rfl) (fun f cdv A outer s H vs Q E hr h => ?_)
  have nd := sc_law_pot.nd
  refine ⟨_, (pss_cons (ps_set (i := 2) nd rfl (.inl rfl) (pe_op op_add (pe_op op_mul pe_int (pv 1)) pe_int))
      (pss_cons (ps_if (pt_cmpR op_lt (pv 1) (pe_callB (call_lenK K rfl) (by rfl) T.z_len (by decide +kernel) (pa_cons (pv 0) pa_nil)) (nomark _)) (pss_one (ps_set (i := 2) nd rfl (.inl rfl) (pe_callB call_abs (by rfl) T.z_abs (by decide +kernel) (pa_cons (pe_ix (ix_listK K rfl) (pv 0) (pv 1) (fun _ _ => rfl)) pa_nil)))) pss_nil)
      (pss_one (ps_ret (pe_potLst (pa_cons (pe_callB (call_max2 rfl) (by rfl) T.z_max (by decide +kernel) (pa_cons pe_int (pa_cons (pe_op op_sub (pv 2) (pe_op op_pow pe_int pe_int)) pa_nil))) (pa_cons (pe_op op_add (pe_op op_mod (pe_callTy call_int1 (by rfl) T.z_int (by decide +kernel) (pa_cons (pe_op op_add (pe_op op_add (pe_op op_mul (pe_op op_mod (pe_callTy call_int1 (by rfl) T.z_int (by decide +kernel) (pa_cons (pv 2) pa_nil)) pe_int) pe_int) (pe_op op_mul pe_int (pv 1))) pe_int) pa_nil)) pe_int) pe_int) pa_nil))))))), ?_⟩
  obtain ⟨G, a, xs, k, rfl, eG, hs, hk, q⟩ := h
  refine q_asg (ev_op (ev_op ev_c (ev_var rfl) (rv_I (.inl ⟨by decide, by decide⟩))) ev_c rv_I0) fun H1 e1 => ?_
  obtain ⟨c, hc1, hc2⟩ : ∃ c : Int, (∀ h : k < xs.length, c = if xs[k] < 0 then -xs[k] else xs[k]) ∧ (¬ k < xs.length → c = 89 * (k : Int) + 43) := by
    by_cases h : k < xs.length
    · exact ⟨if xs[k] < 0 then -xs[k] else xs[k], fun _ => rfl, fun n => absurd h n⟩
    · exact ⟨89 * (k : Int) + 43, fun n => absurd n h, fun _ => rfl⟩
  refine q_ifAsg (v := .int c) (b := decide (k < xs.length)) (et_is (et_test (ev_op (ev_var rfl) (ev_lenS (ev_var rfl) (.inl (ex_l (eG.trans e1) hs))) (rv_b (z := .bl (decide (k < xs.length))) ?_))) rfl) (fun hc => ?_) (fun hc => ?_) fun H3 e3 => ?_
  · rw [List.length_map]
    exact congrArg V.bl (decide_eq_decide.mpr (by omega))
  · have hc := of_decide_eq_true hc
    have hx : (xs.map V.int)[k]? = some (.int xs[k]) := by rw [List.getElem?_map, List.getElem?_eq_getElem hc] <;> rfl
    rw [hc1 hc]
    exact ev_cb (ea_cons (ev_op (ev_var rfl) (ev_var rfl) (rv_ixL (ex_l (eG.trans e1) hs) (atI_nat hx))) ea_nil) fun H3 e Q q => ⟨_, rfl, q H3 (Ex.refl _)⟩
  · rw [hc2 (of_decide_eq_false hc)]
    rfl
  · have e13 := e1.trans e3
    refine go_ret (go_potLst (go_ea (ea_cons (ev_cb (ea_cons ev_c (ea_cons (ev_op (ev_var rfl) (ev_op ev_c ev_c (rv_I ⟨by decide, by decide, by decide⟩)) rv_I0) ea_nil)) fun H2 e Q q => ⟨_, _, rfl, q H2 (Ex.refl _)⟩)
      (ea_cons (ev_op (ev_op (ev_cb (ea_cons (ev_op (ev_op (ev_op (ev_op (ev_cb (ea_cons (ev_var rfl) ea_nil) (rc_int (K := K))) ev_c (rv_I (by decide))) ev_c (rv_I (.inr ⟨by decide, by decide⟩))) (ev_op ev_c (ev_var rfl) (rv_I (.inl ⟨by decide, by decide⟩))) rv_I0) ev_c rv_I0) ea_nil) (rc_int (K := K))) ev_c (rv_I (by decide))) ev_c rv_I0) ea_nil)) fun H4 e4 => ⟨_, _, rfl, ?_, ?_, ?_, fun pp hp => q _ _ ((e13.trans e4).trans (Ex.new hp)) ⟨pp, rfl, nw_new (e13.trans e4) hp⟩⟩))
    · split <;> omega
    · omega
    · omega
abbrev N_law_draw : List Str := ["_law_pot_here", "_law_many", "_law_digit"]
theorem sc_law_draw : FnScope N_law_draw ["_law_pot_here", "_law_many"] (defScope (topS 69)) := ⟨rfl, rfl, rfl, by decide +kernel, rfl, by decide +kernel, by decide +kernel⟩
theorem dn_law_draw (T : Txt K mg) : Dn P w K mg base 1 "_law_draw" ["_law_pot_here", "_law_many"] spDraw := by
  refine dn_of T.f_law_draw sc_law_draw (fun _ _ _ _ _ _ us hl => match us, hl with | [_, _], _ => rfl) (by rintro vs H Q E ⟨a, b, c, rfl, _⟩; rfl) (fun f cdv A outer s H vs Q E hr h => ?_)
  have nd := sc_law_draw.nd
  refine ⟨_, (pss_cons (ps_if (pt_cmpR op_gt (pe_ix (ix_pot) (pv 0) pe_int (fun _ _ => rfl)) pe_int (nomark _)) (pss_cons (ps_asg (pe_callB call_divmod (by rfl) T.z_divmod (by decide +kernel) (pa_cons (pe_ix (ix_pot) (pv 0) pe_int (fun _ _ => rfl)) (pa_cons (pv 1) pa_nil))) (pg_tupK K rfl 2 (by rfl) (pgs_cons (pg_sub (pv 0) pe_int set_pot) (pgs_cons (pg_name (i := 2) nd rfl (by first | exact Or.inl rfl | exact Or.inr rfl)) pgs_nil))))
      (pss_one (ps_ret (pv 2)))) pss_nil)
      (pss_cons (ps_asg (pe_op op_mod (pe_callTy call_int1 (by rfl) T.z_int (by decide +kernel) (pa_cons (pe_op op_add (pe_op op_mul (pe_ix (ix_pot) (pv 0) pe_int (fun _ _ => rfl)) pe_int) pe_int) pa_nil)) pe_int) (pg_sub (pv 0) pe_int set_pot))
      (pss_one (ps_ret (pe_op op_mod (pe_callTy call_int1 (by rfl) T.z_int (by decide +kernel) (pa_cons (pe_op op_fdiv (pe_op op_mod (pe_callTy call_int1 (by rfl) T.z_int (by decide +kernel) (pa_cons (pe_op op_mul (pe_ix (ix_pot) (pv 0) pe_int (fun _ _ => rfl)) (pe_ix (ix_pot) (pv 0) pe_int (fun _ _ => rfl))) pa_nil)) pe_int) pe_int) pa_nil)) (pv 1)))))), ?_⟩
  obtain ⟨G, a, n, rfl, eG, hp, h1, h2, q⟩ := h
  have hpH := eG _ _ hp
  have fin : ∀ (z : Int) H1, Ex H H1 → 0 ≤ z → z < n → Q (.int z) H1 := fun z H1 e h3 h4 => q _ H1 e ⟨z.toNat, by rw [Int.toNat_of_nonneg h3], by omega⟩
  refine go_when (go_test (go_op (go_var rfl (go_c ⟨a, rfl, hpH, .inl ⟨rfl, fun x hx => go_c ⟨_, _, rfl, rfl, _, rfl, ?_⟩⟩⟩))))
  by_cases hx0 : 0 < x
  · rw [decide_eq_true hx0, if_pos rfl]
    refine go_asg (go_CB (go_cons (go_op (go_var rfl (go_c ⟨a, rfl, hpH, .inl ⟨rfl, fun y hy => go_cons (go_var rfl (go_nil ⟨y, (n : Int), rfl, ⟨by omega, by omega⟩, fun T hT => ?_⟩))⟩⟩)))))
    have eT := Ex.new (o := .tup [.int (y / (n : Int)), .int (y % (n : Int))]) hT
    refine ⟨T, _, rfl, st_of upd_same, rfl, _, _, rfl, ⟨_, rfl, a, y / (n : Int), rfl, rfl, eT _ _ hpH, .inl ⟨rfl, Int.ediv_nonneg hy (by omega)⟩, _, _, rfl, rfl, ?_⟩⟩
    exact go_ret (go_var rfl (fin _ _ eT (Int.emod_nonneg _ (by omega)) (Int.emod_lt_of_pos _ (by omega))))
  · rw [decide_eq_false hx0, if_neg (by decide)]
    refine go_asg (go_op (go_CB (go_cons (go_op (go_op (go_op (go_var rfl (go_c ?_))))))))
    refine ⟨a, rfl, hpH, .inr ⟨rfl, fun y hy hy2 => go_c ?_⟩⟩
    refine ⟨_, _, rfl, rfl, .inr ⟨by decide, by decide⟩, go_c ?_⟩
    refine ⟨_, _, rfl, rfl, go_nil ?_⟩
    refine .inl ⟨_, rfl, go_c ?_⟩
    refine ⟨_, _, rfl, rfl, (show (0 : Int) < 2147483543 by decide), ?_⟩
    refine ⟨_, rfl, a, _, rfl, rfl, hpH, .inr ⟨rfl, Int.emod_nonneg _ (by decide), by omega⟩, ?_⟩
    refine go_ret (go_op (go_CB (go_cons (go_op (go_op (go_CB (go_cons (go_op (go_op (go_var rfl (go_c ?_)))))))))))
    refine ⟨a, rfl, hpH, .inr ⟨rfl, fun u hu hu2 => go_op (go_var rfl (go_c ?_))⟩⟩
    refine ⟨a, rfl, hpH, .inr ⟨rfl, fun v hv hv2 => ?_⟩⟩
    refine ⟨u, v, rfl, rfl, .inl ⟨by omega, by omega⟩, go_nil ?_⟩
    refine .inl ⟨_, rfl, go_c ?_⟩
    refine ⟨_, _, rfl, rfl, (show (0 : Int) < 2147483563 by decide), go_c ?_⟩
    refine ⟨_, _, rfl, rfl, (show (0 : Int) < 19 ∧ (19 : Int) < 1073741824 by decide), go_nil ?_⟩
    refine .inl ⟨_, rfl, go_var rfl ?_⟩
    refine ⟨_, _, rfl, rfl, (show (0 : Int) < (n : Int) by omega), ?_⟩
    exact fin _ _ (Ex.refl _) (Int.emod_nonneg _ (by omega)) (Int.emod_lt_of_pos _ (by omega))
end
end SF
set_option Elab.async false
set_option linter.all false
set_option maxRecDepth 100000
/-! ### names made of letters -/
namespace SF
open PySem PySem.Spec PyProof.Rows L2 Evl
def chr1 (c : Nat) : Str := ⟨#[c]⟩
theorem joinL_one : ∀ cs : List Nat, TL.joinL [] (cs.map fun c => [c]) = cs
  | [] => rfl
  | [c] => rfl
  | c :: d :: r => by
    have ih := joinL_one (d :: r)
    show [c] ++ ([] ++ TL.joinL [] ((d :: r).map fun c => [c])) = _
    rw [ih] <;> rfl
theorem join_chars (cs : List Nat) : Txt.join Str.empty (cs.map chr1) = ⟨cs.toArray⟩ := by
  have h := SX.join_S [] (cs.map fun c => [c])
  rw [joinL_one, List.map_map] at h
  exact h
theorem cut_list {z : Str} (h : z.cps.size ≤ 1000) : (cutS z none (some 7)).cps.toList = z.cps.toList.take 7 := by
  unfold cutS
  show ((z.cps.toList.drop 0).take _) = _
  have e : HT.sIx z.length z.length (some 7) = min 7 z.length := HT.sIx_nat z.length z.length 7
  rw [e, HT.sIx_none, List.drop_zero, Nat.sub_zero]
  have hl : z.cps.toList.length = z.length := Array.length_toList
  rcases Nat.le_total 7 z.length with c | c
  · rw [Nat.min_eq_left c]
  · rw [Nat.min_eq_right c, List.take_of_length_le (by omega), List.take_of_length_le (by omega)]
theorem app_list (a b : Str) : (a ++ b).cps.toList = a.cps.toList ++ b.cps.toList := by
  show (a.cps ++ b.cps).toList = _
  rw [Array.toList_append]
theorem nameOk_chars {cs : List Nat} (h1 : 1 ≤ cs.length) (h2 : cs.length ≤ 8) (h3 : ∀ c ∈ cs, c ∈ letters.cps.toList) : NameOk ⟨cs.toArray⟩ :=
  ⟨by show 1 ≤ cs.toArray.size; rw [List.size_toArray]; exact h1, by show cs.toArray.size ≤ 8; rw [List.size_toArray]; exact h2, h3⟩
def lab (z : Str) (c : Nat) : Str := cutS z none (some 7) ++ chr1 c
theorem lab_list {z : Str} (h : NameOk z) (c : Nat) : (lab z c).cps.toList = z.cps.toList.take 7 ++ [c] := by
  unfold lab
  have hz : z.cps.size ≤ 8 := h.hi
  rw [app_list, cut_list (by omega)] <;> rfl
theorem lab_ok {z : Str} (h : NameOk z) {c : Nat} (hc : c ∈ letters.cps.toList) : NameOk (lab z c) := by
  have e := lab_list h c
  have hl : (lab z c).length = (lab z c).cps.toList.length := Array.length_toList.symm
  refine ⟨?_, ?_, fun x hx => ?_⟩
  · rw [hl, e, List.length_append, List.length_singleton]; omega
  · rw [hl, e, List.length_append, List.length_singleton, List.length_take]; omega
  · rw [e] at hx
    rcases List.mem_append.mp hx with y | y
    · exact h.all x (List.mem_of_mem_take y)
    · rw [List.mem_singleton.mp y]; exact hc
theorem lab_inj {z : Str} (h : NameOk z) {c d : Nat} (e : lab z c = lab z d) : c = d := by
  have e2 := congrArg (fun s : Str => s.cps.toList) e
  have e2 : (lab z c).cps.toList = (lab z d).cps.toList := e2
  rw [lab_list h, lab_list h] at e2
  have := List.append_cancel_left e2
  exact List.singleton_inj.mp this
/-- one of the labels is new -/
theorem lab_new {z : Str} (h : NameOk z) {ns : List Str} (hn : ns.length < 26) : ∃ c ∈ letters.cps.toList, lab z c ∉ ns := by
  refine Classical.byContradiction fun no => ?_
  have all : ∀ c ∈ letters.cps.toList, lab z c ∈ ns := fun c hc => Classical.byContradiction fun x => no ⟨c, hc, x⟩
  have nd : (letters.cps.toList.map (lab z)).Nodup := by
    have nl : letters.cps.toList.Nodup := by decide +kernel
    unfold List.Nodup at nl ⊢
    rw [List.pairwise_map]
    exact nl.imp fun {a b} ne e => ne (lab_inj h e)
  have sub : letters.cps.toList.map (lab z) ⊆ ns := fun x hx => by
    obtain ⟨c, hc, rfl⟩ := List.mem_map.mp hx
    exact all c hc
  have := List.Nodup.length_le_of_subset nd sub
  rw [List.length_map] at this
  have e : letters.cps.toList.length = 26 := by decide +kernel
  omega
end SF
set_option Elab.async false
set_option linter.all false
set_option maxRecDepth 100000
set_option maxHeartbeats 4000000
namespace SF
open PySem PySem.Spec PyProof.Rows L2 Evl
section
variable {P : Program} {w : World} {K : PySem.W.Frag} {mg : Str → Option Value} {base : Heap}

section
variable {K : PySem.W.Frag} {σ : L2.St} {G H : Hp} {te tl te1 : TE} {ta : TA} {g : TG} {tt : TT} {vs : List Nat}
theorem go_call {sp : Sp} {E : XK} {Q : VK} (h : ta σ H fun vs H1 => sp (vs ++ []) H1 Q E) : tCall sp [] E ta σ H Q := h
theorem go_lst {Q : VK} (h : ta σ H fun vs H1 => vs.length ≤ sizeLine ∧ ∀ p, H1 p = none → Q (.ref p) (upd H1 p (.lst vs))) : tLst ta σ H Q := h
def rJoin (K : PySem.W.Frag) : V → List V → Hp → VK → Prop := fun x xs H Q => ∃ a p, ∃ ys : List Str, x = .str a ∧ xs = [.ref p] ∧ (SqL K H p (ys.map V.str) ∨ SqT K H p (ys.map V.str)) ∧ (ys.map (·.length)).sum + ys.length * a.length ≤ 16777216 ∧ Q (.str (Txt.join a ys)) H
theorem pe_joinK {X : Cx} (K : PySem.W.Frag) (hK : X.K = K) {o e : Expr} {to te : TE} {apos pos : Pos} (ho : PE X o to) (he : PE X e te) (hs : starEach [e] X.env = [(false, eval e X.env)] := by rfl) (hbase : attributeBase o "join" X.env (eval o X.env) = eval o X.env := by rfl) (hline : (apos.endLine == pos.line) = true := by rfl) :
    PE X (.Call (.Attribute o "join" apos) [e] [] pos) (tM1 (rJoin K) to te) := hK ▸ pe_join ho he hs hbase hline
theorem go_m1 {r : V → List V → Hp → VK → Prop} {Q : VK} (h : te σ H fun x H1 => (∃ a, x = .str a) ∧ tl σ H1 fun y H2 => r x [y] H2 Q) : tM1 r te tl σ H Q := h
theorem go_elp {R : List V → Hp → Prop} {Q : VK} (h : EvLP te σ G R) (eG : Ex G H) (k : ∀ p ys H2, H p = none → Ex H H2 → H2 p = some (.lst ys) → R ys (hide (Nw G H H2) p) → Q (.ref p) H2) : te σ H Q := h H eG Q k
/-- over range(n), n one of many -/
theorem lp_rangeN (P : PV) (u : Up P) (Pn : Nat → Prop) (h : EvP te1 σ G (fun v _ => ∃ n : Nat, v = .int (n : Nat) ∧ Pn n)) (hN : ∀ n, Pn n → n ≤ 1000) (hs : ∀ i : Nat, TurnP g tYes te σ vs (.int (i : Nat)) G true P) :
    EvLP (tLc (iRng1 (tCons te1 tNil)) g tYes te vs) σ G (fun ys h => ∃ n, Pn n ∧ Al (fun _ => P) h (List.range n) ys) := fun H1 e Q q =>
  h H1 e _ fun v H2 e2 ⟨n, hv, hn⟩ => by
    subst hv
    have hb := hN n hn
    refine ⟨(n : Int), rfl, by omega, by omega, fun D hD => ?_⟩
    rw [Int.toNat_natCast]
    exact walk_lcP (Xs := fun i x => x = .int (i : Int)) (fun _ => true) (fun _ => P) (fun _ => u) (by omega) (walk_range.mono (fun _ _ => trivial) fun i H x H' _ _ y => ⟨y.1, y.2.trans (by show V.int (0 + (i : Int)) = V.int (i : Int); rw [Int.zero_add])⟩) (e.trans e2) hD (fun i x hi hx => by rw [hx]; exact hs i)
      fun ys H3 e3 hl al => q D ys H3 (fresh_back e2 hD) (e2.trans e3) hl ⟨n, hn, by rw [ixs_all] at al; exact al.up (fun _ => u) (hide_ex (nw_chain e2))⟩
theorem ed_catL {tb : TE} {cs ds : List PyData} (h : EvD te σ G (.list cs)) (h2 : EvD tb σ G (.list ds)) (hz : cs.length + ds.length ≤ 100000) : EvD (tOp rCat te tb) σ G (.list (cs ++ ds)) := fun H1 e Q q =>
  h H1 e _ fun v H2 e2 hv => h2 H2 (e.trans e2) _ fun u H3 e3 hu => by
    obtain ⟨a, xs, rfl, hx, al⟩ := dx_lst hv
    obtain ⟨b, ys, rfl, hy, bl⟩ := dx_lst hu
    have e23 := e2.trans e3
    exact ⟨a, b, xs, ys, rfl, rfl, e3 a _ (nw_val hx), nw_val hy, sz_of (by rw [al.length, bl.length]; exact hz), fun p hp => q _ _ (e23.trans (Ex.new hp)) (.lst (nw_new e23 hp) (DxAll.append (al.ex (nw_up (e3.trans (Ex.new hp)))) (bl.ex ((nw_chain e2).trans (nw_up (Ex.new hp))))))⟩
end
theorem al_chars {h : Hp} : ∀ {ks : List Nat} {ys : List V}, Al (fun _ => CharP letters) h ks ys → ∃ cs : List Nat, ys = (cs.map chr1).map V.str ∧ cs.length = ks.length ∧ ∀ c ∈ cs, c ∈ letters.cps.toList
  | _, _, .nil => ⟨[], rfl, rfl, fun _ h => by cases h⟩
  | _, _, .cons ⟨i, c, h1, h2⟩ r => by
    obtain ⟨cs, k1, k2, k3⟩ := al_chars r
    refine ⟨c :: cs, by rw [h2, k1] <;> rfl, by rw [List.length_cons, List.length_cons, k2], fun x hx => ?_⟩
    rcases List.mem_cons.mp hx with z | z
    · rw [z]
      rw [← Array.getElem?_toList] at h1
      exact List.mem_of_getElem? h1
    · exact k3 x z
abbrev N_law_pick : List Str := ["_law_pot_here", "_law_some"]
theorem sc_law_pick : FnScope N_law_pick ["_law_pot_here", "_law_some"] (defScope (topS 70)) := ⟨rfl, rfl, rfl, by decide +kernel, rfl, by decide +kernel, by decide +kernel⟩
theorem dn_law_pick (T : Txt K mg) (D_law_draw : Dn P w K mg base 1 "_law_draw" ["_law_pot_here", "_law_many"] spDraw) : Dn P w K mg base 2 "_law_pick" ["_law_pot_here", "_law_some"] spPick := by
  refine dn_of T.f_law_pick sc_law_pick (fun _ _ _ _ _ _ us hl => match us, hl with | [_, _], _ => rfl) (by rintro vs H Q E ⟨a, b, c, rfl, _⟩; rfl) (fun f cdv A outer s H vs Q E hr h => ?_)
  have nd := sc_law_pick.nd
  refine ⟨_, (pss_one (ps_ret (pe_ix (ix_LS K rfl) (pv 1) (pe_fn D_law_draw hr (by decide) (by rfl) (pa_cons (pv 0) (pa_cons (pe_callB (call_lenLS K rfl) (by rfl) T.z_len (by decide +kernel) (pa_cons (pv 1) pa_nil)) pa_nil))) (fun _ _ => rfl)))), ?_⟩
  obtain ⟨G, a, v, rfl, eG, hp, h⟩ := h
  rcases h with ⟨ds, hd, hne, hl, q⟩ | ⟨z, rfl, h1, h2, q⟩
  · obtain ⟨l, xs, rfl, hx, al⟩ := dx_lst hd
    have hxl := al.length
    have hpos : 1 ≤ ds.length := by
      cases ds with
      | nil => exact absurd rfl hne
      | cons d r => simp
    refine go_ret (go_op (go_var rfl (go_call (go_cons (go_var rfl (go_cons (go_CB (go_cons (go_var rfl (go_nil (.inl ⟨l, xs, rfl, .inl (sq_of (eG _ _ hx)), go_nil ⟨G, a, xs.length, rfl, eG, hp, by omega, by omega, fun v H1 e1 ⟨i, hv, hi⟩ => ?_⟩⟩)))))))))))
    subst hv
    obtain ⟨d, hd1, hd2⟩ := al.at' (List.getElem?_eq_getElem hi)
    exact .inl ⟨l, xs, i, xs[i], rfl, rfl, sq_of (e1 _ _ (eG _ _ hx)), atI_nat (List.getElem?_eq_getElem hi), q _ H1 e1 ⟨d, List.mem_of_getElem? hd1, hd2.ex (nw_base (eG.trans e1))⟩⟩
  · refine go_ret (go_op (go_var rfl (go_call (go_cons (go_var rfl (go_cons (go_CB (go_cons (go_var rfl (go_nil (.inr ⟨z, rfl, sz_of (by show z.cps.size ≤ _; omega), go_nil ⟨G, a, z.cps.size, rfl, eG, hp, by omega, by omega, fun v H1 e1 ⟨i, hv, hi⟩ => ?_⟩⟩)))))))))))
    subst hv
    have hc : z.cps.toList[i]? = some z.cps[i] := by rw [Array.getElem?_toList, Array.getElem?_eq_getElem hi]
    exact .inr ⟨z, i, z.cps[i], rfl, rfl, sz_of (by show z.cps.size ≤ _; omega), atI_nat hc, q _ H1 e1 ⟨i, z.cps[i], Array.getElem?_eq_getElem hi, rfl⟩⟩

abbrev NamesP (n : Nat) : PV := fun v H => ∃ ns, Dx H v (.list (namesD ns)) ∧ ns.length = n ∧ NamesOk ns
theorem up_names {n : Nat} : Up (NamesP n) := fun _ _ _ e ⟨ns, h, r⟩ => ⟨ns, h.ex e, r⟩
def spNames : Sp := fun vs H Q _ => ∃ G a, ∃ n : Nat, vs = [.ref a, .int (n : Nat)] ∧ Ex G H ∧ PotAt a G ∧ 1 ≤ n ∧ n ≤ 3 ∧ RetP (NamesP n) G H Q
abbrev N_law_names : List Str := ["_law_pot_here", "_law_size", "_law_signs", "_law_found", "_law_turn", "_law_word", "_law_near", "_law_spot", "_law_sign_here", "_law_label"]
theorem sc_law_names : FnScope N_law_names ["_law_pot_here", "_law_size"] (defScope (topS 71)) := ⟨rfl, rfl, rfl, by decide +kernel, rfl, by decide +kernel, by decide +kernel⟩
theorem dn_law_names (T : Txt K mg) (D_law_pick : Dn P w K mg base 2 "_law_pick" ["_law_pot_here", "_law_some"] spPick) : Dn P w K mg base 3 "_law_names" ["_law_pot_here", "_law_size"] spNames := by
  refine dn_of T.f_law_names sc_law_names (fun _ _ _ _ _ _ us hl => match us, hl with | [_, _], _ => rfl) (by rintro vs H Q E ⟨a, b, c, rfl, _⟩; rfl) (fun f cdv A outer s H vs Q E hr h => ?_)
  have nd := sc_law_names.nd
  refine ⟨_, (pss_cons (ps_asg (pe_tup (pa_cons pe_str (pa_cons (pe_lst pa_nil) pa_nil))) (pg_tupK K rfl 2 (by rfl) (pgs_cons (pg_name (i := 2) nd rfl (by first | exact Or.inl rfl | exact Or.inr rfl)) (pgs_cons (pg_name (i := 3) nd rfl (by first | exact Or.inl rfl | exact Or.inr rfl)) pgs_nil))))
      (pss_cons (ps_for PassesOwn.never rfl (pi_range1 (by rfl) T.z_range (pa_cons (pv 1) pa_nil)) (pg_name (i := 4) nd rfl (by first | exact Or.inl rfl | exact Or.inr rfl)) (pss_cons (ps_set (i := 5) nd rfl (.inr rfl) (pe_joinK K rfl pe_str (pe_lc (own := [("_law_spot", 7)]) (by rfl) nd (pi_range1 (by rfl) T.z_range (pa_cons (pe_op op_add pe_int (pe_fn D_law_pick hr (by decide) (by rfl) (pa_cons (pv 0) (pa_cons (pe_lst (pa_cons pe_int (pa_cons pe_int (pa_cons pe_int (pa_cons pe_int (pa_cons pe_int (pa_cons pe_int pa_nil))))))) pa_nil)))) pa_nil)) (blkOk_by (own := [("_law_spot", 7)]) (N := N_law_names) (sc := (defScope (topS 71))) (by decide +kernel)) (fun _ _ _ _ _ => (pg_name (i := 7) nd rfl (by first | exact Or.inl rfl | exact Or.inr rfl))) (fun _ _ _ _ _ => pts_nil) (fun _ _ _ _ _ => (pe_fn D_law_pick hr (by decide) (by rfl) (pa_cons (pv 0) (pa_cons (pv 2) pa_nil)))))))
      (pss_cons (ps_set (i := 6) nd rfl (.inl rfl) (pe_op op_cat (pe_lst (pa_cons (pv 5) pa_nil)) (pe_lc (own := [("_law_sign_here", 8)]) (by rfl) nd (pi_str (pv 2)) (blkOk_by (own := [("_law_sign_here", 8)]) (N := N_law_names) (sc := (defScope (topS 71))) (by decide +kernel)) (fun _ _ _ _ _ => (pg_name (i := 8) nd rfl (by first | exact Or.inl rfl | exact Or.inr rfl))) (fun _ _ _ _ _ => pts_nil) (fun _ _ _ _ _ => (pe_op op_add_str (pe_slice sl_str (pv 5) po_none (po_some pe_int)) (pv 8))))))
      (pss_one (ps_expr (pe_bmK K rfl PySem.F.plainAttrs_list PySem.F.slot_list_append PySem.F.type_list_append mt_append (pv 3) (pa_cons (pe_ix (ix_listK K rfl) (pe_lc (own := [("_law_label", 9)]) (by rfl) nd (pi_listK K rfl (pv 6)) (blkOk_by (own := [("_law_label", 9)]) (N := N_law_names) (sc := (defScope (topS 71))) (by decide +kernel)) (fun _ _ _ _ _ => (pg_name (i := 9) nd rfl (by first | exact Or.inl rfl | exact Or.inr rfl))) (fun _ _ _ _ _ => (pts_one (pt_cmpR (op_ninK K rfl) (pv 9) (pv 3) (by rfl)))) (fun _ _ _ _ _ => (pv 9))) pe_int (fun _ _ => rfl)) pa_nil)))))))
      (pss_one (ps_ret (pv 3))))), ?_⟩
  obtain ⟨G, a, n, rfl, eG, hp, h1, h3, q⟩ := h
  refine go_asg (go_tup (go_cons (go_c (go_cons (go_lst (go_nil ⟨Nat.zero_le _, fun lf hlf => go_nil ⟨by show 2 ≤ sizeLine; decide, fun T hT => ?_⟩⟩))))))
  have e1 := Ex.new (o := .lst []) hlf
  have e2 := Ex.new (o := .tup [.str "abcdefghijklmnopqrstuvwxyz", .ref lf]) hT
  refine ⟨T, _, rfl, st_of upd_same, rfl, _, _, rfl, _, _, rfl, rfl, ?_⟩
  have hf2 : (upd (upd H lf (.lst [])) T (.tup [.str "abcdefghijklmnopqrstuvwxyz", .ref lf])) lf = some (.lst []) := e2 _ _ upd_same
  generalize upd (upd H lf (.lst [])) T (.tup [.str "abcdefghijklmnopqrstuvwxyz", .ref lf]) = H2 at e2 hf2 ⊢
  have e12 := e1.trans e2
  refine q_forR1 (ea_cons (ev_var rfl) ea_nil) ⟨by omega, by omega⟩ (fun i σ' H' => ∃ y4 y5 y6, ∃ ns : List Str, σ' = [some (.ref a), some (.int (n : Nat)), some (.str letters), some (.ref lf), y4, y5, y6, none, none, none] ∧ Ex H H' ∧ H' lf = some (.lst (ns.map V.str)) ∧ ns.length = i ∧ ns.Nodup ∧ ∀ z ∈ ns, NameOk z)
    (fun H3 e3 => ⟨none, none, none, [], rfl, e12.trans e3, e3 _ _ hf2, rfl, List.nodup_nil, fun _ h => by cases h⟩) (fun i σ' H' hi pv => ?_) (fun σ' H' pv => ?_)
  · obtain ⟨y4, y5, y6, ns, rfl, eH, hlf', hlen, nd, hok⟩ := pv
    have eGH := eG.trans eH
    have hHlf : H lf = none := hlf
    refine q_asgP (G := G) (P := fun v _ => ∃ z, v = .str z ∧ NameOk z) (fun H3 e3 Q k => go_m1 (go_c ⟨⟨_, rfl⟩, go_elp (G := G) (lp_rangeN (CharP letters) up_char (fun n => 1 ≤ n ∧ n ≤ 8) ?_ (fun n h => by omega) fun i => turn_name (fun _ => rfl) ?_) e3 fun pp ys H4 hpp e4 hl4 ⟨m, hm, al⟩ => ?_⟩)) eGH fun vz H3 e3 hz => ?_
    · intro H4 e4 Q k
      refine go_op (go_c (go_ev (G := G) (PR := OneP [.int 0, .int 0, .int 0, .int 1, .int 2, .int 7]) (ep_callAs (R := consP (fun v _ => v = .ref a) (consP (fun v H => Dx H v (.list [.int 0, .int 0, .int 0, .int 1, .int 2, .int 7])) nilP)) up_one (eas_cons up_s (up_consP up_dx up_nilP) (ep_ev (ev_var rfl) fun _ _ => rfl) (eas_cons up_dx up_nilP (ed_lst (ed_cons (ed_ev ev_c (.int _)) (ed_cons (ed_ev ev_c (.int _)) (ed_cons (ed_ev ev_c (.int _)) (ed_cons (ed_ev ev_c (.int _)) (ed_cons (ed_ev ev_c (.int _)) (ed_cons (ed_ev ev_c (.int _)) ed_nil)))))) (by show 6 ≤ 100000; decide)) eas_nil))
        fun G' H5 vs eg eg2 hvs Q r => ?_) e4 fun v H5 e5 ⟨d, hd, hv⟩ => ?_))
      · obtain ⟨v1, r1, rfl, rfl, v2, r2, rfl, hv2, rfl⟩ := hvs
        exact ⟨G', a, v2, rfl, eg2, eg _ _ hp, .inl ⟨_, hv2, by simp, by show 6 ≤ _; decide, r⟩⟩
      · have : ∃ j : Nat, d = .int (j : Nat) ∧ j ≤ 7 := by
          simp only [List.mem_cons, List.not_mem_nil, or_false] at hd
          rcases hd with rfl | rfl | rfl | rfl | rfl | rfl
          · exact ⟨0, rfl, by omega⟩
          · exact ⟨0, rfl, by omega⟩
          · exact ⟨0, rfl, by omega⟩
          · exact ⟨1, rfl, by omega⟩
          · exact ⟨2, rfl, by omega⟩
          · exact ⟨7, rfl, by omega⟩
        obtain ⟨j, rfl, hj⟩ := this
        obtain rfl := dx_int hv
        exact ⟨1, _, rfl, rfl, k _ H5 e5 ⟨1 + j, by show V.int (1 + (j : Int)) = V.int _; congr 1, by omega, by omega⟩⟩
    · exact ep_callAs (R := consP (fun v _ => v = .ref a) (consP (fun v _ => v = .str letters) nilP)) up_char (eas_cons up_s (up_consP up_s up_nilP) (ep_ev (ev_var rfl) fun _ _ => rfl) (eas_cons up_s up_nilP (ep_ev (ev_var rfl) fun _ _ => rfl) eas_nil))
        fun G' H5 vs eg eg2 hvs Q r => by
          obtain ⟨v1, r1, rfl, rfl, v2, r2, rfl, rfl, rfl⟩ := hvs
          exact ⟨G', a, _, rfl, eg2, eg _ _ hp, .inr ⟨letters, rfl, by decide +kernel, by decide +kernel, r⟩⟩
    · obtain ⟨cs, rfl, hcl, hcs⟩ := al_chars al
      rw [List.length_range] at hcl
      have sum1 : ∀ cs : List Nat, ((cs.map chr1).map (·.length)).sum = cs.length := fun cs => by
        induction cs with
        | nil => rfl
        | cons c r ih =>
          rw [List.map_cons, List.map_cons, List.sum_cons, ih]
          show 1 + r.length = r.length + 1
          omega
      refine ⟨Str.empty, pp, cs.map chr1, rfl, rfl, .inl (sq_of hl4), ?_, ?_⟩
      · rw [sum1, List.length_map]
        show cs.length + cs.length * 0 ≤ _
        omega
      · rw [join_chars]
        exact k _ H4 e4 ⟨_, rfl, nameOk_chars (by omega) (by omega) hcs⟩
    obtain ⟨z, rfl, hz⟩ := hz
    have eH3 := eH.trans e3
    have hzs : z.cps.size ≤ 8 := hz.hi
    refine q_asgP (G := G) (P := fun v H => Dx H v (.list (namesD (z :: letters.cps.toList.map (lab z))))) (?_ : EvD _ _ _ (.list ([.str z] ++ namesD (letters.cps.toList.map (lab z))))) (eG.trans eH3) fun vn H4 e4 hvn => ?_
    · refine ed_catL (ed_lst (ed_cons (ed_ev (ev_var rfl) (.str _)) ed_nil) (by show 1 ≤ 100000; decide)) (ed_lp (lp_str (fun _ => true) (fun i v _ => v = .str (lab z (letters.cps.toList.getD i 0))) (fun _ => up_s) (ev_var rfl) (by decide +kernel) fun i c hc => turn_name (fun _ => rfl) (ep_ev (ev_op (fun H5 e5 Q k => ⟨_, rfl, ⟨7, rfl, ⟨z, rfl, sz_of (by show z.cps.size ≤ _; omega), k H5 (Ex.refl _)⟩⟩⟩) (ev_var rfl) fun H5 e5 Q k => ⟨_, _, rfl, rfl, ?_, k H5 (Ex.refl _)⟩) fun _ _ => ?_)) fun ys h al => ?_) ?_
      · refine sz_of ?_
        have h1 : (cutS z none (some 7)).length = (cutS z none (some 7)).cps.toList.length := Array.length_toList.symm
        rw [h1, cut_list (by omega), List.length_take]
        show _ + 1 ≤ _
        omega
      · rw [← Array.getElem?_toList] at hc
        rw [List.getD_eq_getElem?_getD, hc] <;> rfl
      · rw [Al.eq (v := fun i => V.str (lab z (letters.cps.toList.getD i 0))) al, ixs_all, map_getD (fun c => V.str (lab z c)) 0 letters.cps.toList (by rw [Array.length_toList])]
        have := strs_dx (H := h) (letters.cps.toList.map (lab z))
        rw [List.map_map] at this
        exact this
      · show 1 + _ ≤ _
        unfold namesD
        rw [List.length_map, List.length_map]
        decide +kernel
    obtain ⟨ln, xn, rfl, hln, aln⟩ := dx_lst hvn
    have exn : xn = (z :: letters.cps.toList.map (lab z)).map V.str := dx_strs aln
    subst exn
    have hln4 : H4 ln = some (.lst _) := nw_val hln
    have hlf4 : H4 lf = some (.lst (ns.map V.str)) := (e3.trans e4) _ _ hlf'
    have hlab : ∀ x ∈ z :: letters.cps.toList.map (lab z), NameOk x := fun x hx => by
      rcases List.mem_cons.mp hx with y | y
      · rw [y]; exact hz
      · obtain ⟨c, hc, rfl⟩ := List.mem_map.mp y
        exact lab_ok hz hc
    have hil : ns.length < 26 := by
      have : (i : Int) < (n : Int) := hi
      omega
    obtain ⟨c0, hc0, hnew⟩ := lab_new hz hil
    have hmem0 : lab z c0 ∈ z :: letters.cps.toList.map (lab z) := List.mem_cons_of_mem _ (List.mem_map_of_mem hc0)
    generalize hL : z :: letters.cps.toList.map (lab z) = L at *
    refine s_appP (G := H4) (P := fun v _ => ∃ x, v = .str x ∧ x ∈ L ∧ x ∉ ns) up_s hlf4 (ev_var rfl) (fun H5 e5 Q k => go_op (go_elp (G := H4) (lp_list (fun j => decide (L.getD j Str.empty ∉ ns)) (fun j v _ => v = .str (L.getD j Str.empty)) (fun _ => up_s) (ev_var rfl) hln4 ?_ fun j x hj => turn_nameT (fun _ => rfl) ?_ up_s fun _ => ep_ev (ev_var rfl) fun _ _ => ?_) e5 fun pp ys H6 hpp e6 hl6 al => go_c ?_)) (Ex.refl _) ?_ fun y H5 e5 ⟨x, hy, hx1, hx2⟩ => ?_
    · rw [List.length_map, ← hL, List.length_cons, List.length_map]
      decide +kernel
    · rw [List.getElem?_map] at hj
      obtain ⟨s, hs, rfl⟩ := Option.map_eq_some_iff.mp hj
      have es : L.getD j Str.empty = s := by rw [List.getD_eq_getElem?_getD, hs, Option.getD_some]
      rw [es]
      refine et_is (et_test (ev_op (ev_var rfl) (ev_var rfl) (rv_niL (sq_of hlf4) rfl (flat_strs _)))) ?_
      rw [inV_strs]
      by_cases c : s ∈ ns
      · rw [decide_eq_true c, decide_eq_false (fun h => h c)] <;> rfl
      · rw [decide_eq_false c, decide_eq_true c] <;> rfl
    · rw [List.getElem?_map] at hj
      obtain ⟨s, hs, rfl⟩ := Option.map_eq_some_iff.mp hj
      rw [List.getD_eq_getElem?_getD, hs] <;> rfl
    · have ey := Al.eq (v := fun j => V.str (L.getD j Str.empty)) al
      have ll : (L.map V.str).length = L.length := List.length_map _
      rw [ll] at ey
      obtain ⟨j0, hj0⟩ := List.mem_iff_getElem?.mp hmem0
      have hj0l := (List.getElem?_eq_some_iff.mp hj0).1
      have hin : j0 ∈ ixs L.length (fun j => decide (L.getD j Str.empty ∉ ns)) := by
        unfold ixs
        refine List.mem_filter.mpr ⟨List.mem_range.mpr hj0l, decide_eq_true ?_⟩
        rw [List.getD_eq_getElem?_getD, hj0, Option.getD_some]
        exact hnew
      cases hz0 : ixs L.length (fun j => decide (L.getD j Str.empty ∉ ns)) with
      | nil => rw [hz0] at hin; cases hin
      | cons j r =>
        have hj : j ∈ ixs L.length (fun j => decide (L.getD j Str.empty ∉ ns)) := by rw [hz0]; exact List.mem_cons_self
        unfold ixs at hj
        obtain ⟨hj1, hj2⟩ := List.mem_filter.mp hj
        have hjl := List.mem_range.mp hj1
        rw [hz0] at ey
        refine ⟨pp, ys, ((0 : Nat) : Int), .str (L.getD j Str.empty), rfl, rfl, sq_of hl6, atI_nat (by rw [ey] <;> rfl), k _ H6 e6 ⟨_, rfl, ?_, of_decide_eq_true hj2⟩⟩
        rw [List.getD_eq_getElem?_getD, List.getElem?_eq_getElem hjl, Option.getD_some]
        exact List.getElem_mem hjl
    · rw [List.length_map]; omega
    · subst hy
      refine ⟨_, _, _, ns ++ [x], rfl, Ex.mut ((eH3.trans e4).trans e5) hHlf, ?_, by rw [List.length_append, hlen] <;> rfl, List.nodup_append.mpr ⟨nd, by simp, fun u hu b hb => ?_⟩, fun u hu => ?_⟩
      · rw [upd_same, List.map_append] <;> rfl
      · obtain rfl : b = x := by simpa using hb
        rintro rfl
        exact hx2 hu
      · rcases List.mem_append.mp hu with c | c
        · exact hok u c
        · rw [List.mem_singleton.mp c]; exact hlab x hx1
  · obtain ⟨y4, y5, y6, ns, rfl, eH, hlf', hlen, nd, hok⟩ := pv
    have hlen : ns.length = n := by rw [hlen, Int.toNat_natCast]
    refine s_ret (ev_var rfl) fun H4 e4 => q _ H4 (eH.trans e4) ⟨ns, .lst ?_ (strs_dx _), hlen, ⟨fun z => by rw [z] at hlen; simp at hlen; omega, nd, hok, by omega⟩⟩
    rw [nw_free hlf]
    exact e4 _ _ hlf'
end
end SF
set_option Elab.async false
set_option linter.all false
set_option maxRecDepth 100000
set_option maxHeartbeats 4000000
namespace SF
open PySem PySem.Spec PyProof.Rows L2 Evl
section
variable {P : Program} {w : World} {K : PySem.W.Frag} {mg : Str → Option Value} {base : Heap}

/-- a new row, new rows -/
abbrev EntP1 (n : Nat) : PV := fun v H => ∃ e, Dx H v (entD e) ∧ EntOk n e
theorem up_ent1 {n : Nat} : Up (EntP1 n) := fun _ _ _ e ⟨p, h, r⟩ => ⟨p, h.ex e, r⟩
abbrev RowP (n m : Nat) (G0 : Hp) : PV := fun v H => ∃ l xs, v = .ref l ∧ G0 l = none ∧ H l = some (.lst xs) ∧ xs.length = m ∧ ∀ x ∈ xs, EntP1 n x H
theorem up_row {n m : Nat} {G0 : Hp} : Up (RowP n m G0) := fun _ _ _ e ⟨l, xs, h1, h2, h3, h4, h5⟩ => ⟨l, xs, h1, h2, e _ _ h3, h4, fun x hx => up_ent1 _ _ _ e (h5 x hx)⟩
abbrev RowsP (n m : Nat) (G0 : Hp) : PV := fun v H => ∃ a ls, v = .ref a ∧ H a = some (.lst ls) ∧ ls.length = n ∧ ∀ y ∈ ls, RowP n m G0 y (hide H a)
theorem up_rows {n m : Nat} {G0 : Hp} : Up (RowsP n m G0) := fun _ _ _ e ⟨a, ls, h1, h2, h3, h4⟩ => ⟨a, ls, h1, e _ _ h2, h3, fun y hy => up_row _ _ _ (hide_ex e) (h4 y hy)⟩
theorem al_all {P : PV} {h : Hp} : ∀ {ks : List Nat} {ys : List V}, Al (fun _ => P) h ks ys → ys.length = ks.length ∧ ∀ y ∈ ys, P y h
  | _, _, .nil => ⟨rfl, fun _ h => by cases h⟩
  | _, _, .cons p r => ⟨by rw [List.length_cons, List.length_cons, (al_all r).1], fun y hy => (List.mem_cons.mp hy).elim (fun e => e ▸ p) ((al_all r).2 y)⟩
section
variable {K : PySem.W.Frag} {σ : L2.St} {G H : Hp} {te te1 te2 : TE} {n m : Nat}
theorem ep_row {ks : List Nat} (h : EvLP te σ G (fun ys h => Al (fun _ => EntP1 n) h ks ys)) (hm : ks.length = m) : EvP te σ G (RowP n m G) := fun H1 e Q q => h H1 e Q fun p ys H2 hp e2 hl al => by
  obtain ⟨h1, h2⟩ := al_all al
  exact q _ H2 e2 ⟨p, ys, rfl, fresh_back e hp, by rw [nw_free hp]; exact hl, by rw [h1, hm], fun x hx => up_ent1 _ _ _ hide_sub (h2 x hx)⟩
theorem ep_rows {ks : List Nat} (h : EvLP te σ G (fun ys h => Al (fun _ => RowP n m G) h ks ys)) (hm : ks.length = n) : EvP te σ G (RowsP n m G) := fun H1 e Q q => h H1 e Q fun p ys H2 hp e2 hl al => by
  obtain ⟨h1, h2⟩ := al_all al
  exact q _ H2 e2 ⟨p, ys, rfl, by rw [nw_free hp]; exact hl, by rw [h1, hm], fun x hx => h2 x hx⟩
theorem ep_draw {a : Addr} (h1 : Ev te1 σ G (.ref a)) (h2 : Ev te2 σ G (.int (n : Nat))) (hp : PotAt a G) (hn : 1 ≤ n ∧ n ≤ 100000000) : EvP (tCall spDraw [] E0 (tCons te1 (tCons te2 tNil))) σ G (BelowP n) := ep_call up_below (ea_cons h1 (ea_cons h2 ea_nil)) fun H1 e Q r => ⟨G, a, n, rfl, e, hp, hn.1, hn.2, r⟩
theorem ep_pickL {a : Addr} {ds : List PyData} (h1 : Ev te1 σ G (.ref a)) (h2 : EvD te2 σ G (.list ds)) (hp : PotAt a G) (hn : ds ≠ [] ∧ ds.length ≤ 100000000) : EvP (tCall spPick [] E0 (tCons te1 (tCons te2 tNil))) σ G (OneP ds) :=
  ep_callAs (R := consP (fun v _ => v = .ref a) (consP (fun v H => Dx H v (.list ds)) nilP)) up_one (eas_cons up_s (up_consP up_dx up_nilP) (ep_ev h1 fun _ _ => rfl) (eas_cons up_dx up_nilP h2 eas_nil)) fun G' H5 vs eg eg2 hvs Q r => by
    obtain ⟨v1, r1, rfl, rfl, v2, r2, rfl, hv2, rfl⟩ := hvs
    exact ⟨G', a, v2, rfl, eg2, eg _ _ hp, .inl ⟨_, hv2, hn.1, hn.2, r⟩⟩
/-- a pair of ints -/
theorem ep_ent {P1 P2 : Nat → Prop} (h1 : EvP te1 σ G (fun v _ => ∃ d : Nat, v = .int (d : Nat) ∧ P1 d)) (h2 : EvP te2 σ G (fun v _ => ∃ d : Nat, v = .int (d : Nat) ∧ P2 d)) (k : ∀ a b, P1 a → P2 b → EntOk n ((a : Int), (b : Int))) : EvP (tTup (tCons te1 (tCons te2 tNil))) σ G (EntP1 n) := fun H1 e Q q =>
  go_tup (go_cons (go_ev h1 e fun v1 H2 e2 ⟨d1, c1, o1⟩ => go_cons (go_ev h2 (e.trans e2) fun v2 H3 e3 ⟨d2, c2, o2⟩ => go_nil ⟨by show 2 ≤ sizeLine; decide, fun p hp => by
    subst c1 c2
    exact q _ _ ((e2.trans e3).trans (Ex.new hp)) ⟨((d1 : Int), (d2 : Int)), .tup (nw_new (e2.trans e3) hp) (.cons (.int _) (.cons (.int _) .nil)), k _ _ o1 o2⟩⟩)))
end
theorem rows_data {n m : Nat} {G0 H : Hp} {v : V} (h : RowsP n m G0 v H) : ∃ rs, Dx H v (rowsL rs) ∧ rs.length = n ∧ ∀ r ∈ rs, r.length = m ∧ ∀ p ∈ r, EntOk n p := by
  obtain ⟨a, ls, rfl, h1, rfl, h3⟩ := h
  have ents : ∀ xs : List V, (∀ x ∈ xs, EntP1 ls.length x H) → ∃ es : List (Int × Int), DxAll H xs (es.map entD) ∧ es.length = xs.length ∧ ∀ e ∈ es, EntOk ls.length e := fun xs => by
    induction xs with
    | nil => exact fun _ => ⟨[], .nil, rfl, fun _ h => by cases h⟩
    | cons x r ih =>
      intro h
      obtain ⟨es, k1, k2, k3⟩ := ih fun y hy => h y (List.mem_cons_of_mem _ hy)
      obtain ⟨e, he, ho⟩ := h x List.mem_cons_self
      exact ⟨e :: es, .cons he k1, by rw [List.length_cons, List.length_cons, k2], fun y hy => (List.mem_cons.mp hy).elim (fun z => z ▸ ho) (k3 y)⟩
  have rows : ∀ ys : List V, (∀ y ∈ ys, RowP ls.length m G0 y H) → ∃ rs : List (List (Int × Int)), DxAll H ys (rs.map rowL) ∧ rs.length = ys.length ∧ ∀ r ∈ rs, r.length = m ∧ ∀ p ∈ r, EntOk ls.length p := fun ys => by
    induction ys with
    | nil => exact fun _ => ⟨[], .nil, rfl, fun _ h => by cases h⟩
    | cons y r ih =>
      intro h
      obtain ⟨rs, k1, k2, k3⟩ := ih fun y hy => h y (List.mem_cons_of_mem _ hy)
      obtain ⟨l, xs, rfl, _, hl, hlen, hx⟩ := h y List.mem_cons_self
      obtain ⟨es, e1, e2, e3⟩ := ents xs hx
      exact ⟨es :: rs, .cons (.lst hl e1) k1, by rw [List.length_cons, List.length_cons, k2], fun z hz => (List.mem_cons.mp hz).elim (fun c => c ▸ ⟨by rw [e2, hlen], e3⟩) (k3 z)⟩
  obtain ⟨rs, r1, r2, r3⟩ := rows ls fun y hy => up_row _ _ _ hide_sub (h3 y hy)
  exact ⟨rs, .lst h1 r1, r2, r3⟩
def spRows : Sp := fun vs H Q _ => ∃ G a, ∃ n m : Nat, vs = [.ref a, .int (n : Nat), .int (m : Nat)] ∧ Ex G H ∧ PotAt a G ∧ 1 ≤ n ∧ n ≤ 8 ∧ 1 ≤ m ∧ m ≤ 4 ∧ RetP (RowsP n m G) G H Q
abbrev N_law_any_rows : List Str := ["_law_pot_here", "_law_size", "_law_many", "_law_top", "_law_place", "_law_spot"]
theorem sc_law_any_rows : FnScope N_law_any_rows ["_law_pot_here", "_law_size", "_law_many"] (defScope (topS 72)) := ⟨rfl, rfl, rfl, by decide +kernel, rfl, by decide +kernel, by decide +kernel⟩
theorem dn_law_any_rows (T : Txt K mg) (D_law_draw : Dn P w K mg base 1 "_law_draw" ["_law_pot_here", "_law_many"] spDraw) (D_law_pick : Dn P w K mg base 2 "_law_pick" ["_law_pot_here", "_law_some"] spPick) : Dn P w K mg base 3 "_law_any_rows" ["_law_pot_here", "_law_size", "_law_many"] spRows := by
  refine dn_of T.f_law_any_rows sc_law_any_rows (fun _ _ _ _ _ _ us hl => match us, hl with | [_, _, _], _ => rfl) (by rintro vs H Q E ⟨a, b, c, d, rfl, _⟩; rfl) (fun f cdv A outer s H vs Q E hr h => ?_)
  have nd := sc_law_any_rows.nd
  refine ⟨_, (pss_cons (ps_set (i := 3) nd rfl (.inr rfl) (pe_fn D_law_pick hr (by decide) (by rfl) (pa_cons (pv 0) (pa_cons (pe_lst (pa_cons pe_int (pa_cons pe_int (pa_cons pe_int (pa_cons pe_int (pa_cons pe_int pa_nil)))))) pa_nil))))
      (pss_one (ps_ret (pe_lc (own := [("_law_spot", 5)]) (by rfl) nd (pi_range1 (by rfl) T.z_range (pa_cons (pv 1) pa_nil)) (blkOk_by (own := [("_law_spot", 5)]) (N := N_law_any_rows) (sc := (defScope (topS 72))) (by decide +kernel)) (fun _ _ _ _ _ => (pg_name (i := 5) nd rfl (by first | exact Or.inl rfl | exact Or.inr rfl))) (fun _ _ _ _ _ => pts_nil) (fun _ _ _ _ _ => (pe_lc (own := [("_law_place", 4)]) (by rfl) nd (pi_range1 (by rfl) T.z_range (pa_cons (pv 2) pa_nil)) (blkOk_in (own := [("_law_place", 4)]) N_law_any_rows (defScope (topS 72)) rfl rfl (by decide +kernel)) (fun _ _ _ _ _ => (pg_name (i := 4) nd rfl (by first | exact Or.inl rfl | exact Or.inr rfl))) (fun _ _ _ _ _ => pts_nil) (fun _ _ _ _ _ => (pe_tup (pa_cons (pe_fn D_law_draw hr (by decide) (by rfl) (pa_cons (pv 0) (pa_cons (pv 3) pa_nil))) (pa_cons (pe_fn D_law_draw hr (by decide) (by rfl) (pa_cons (pv 0) (pa_cons (pv 1) pa_nil))) pa_nil)))))))))), ?_⟩
  obtain ⟨G, a, n, m, rfl, eG, hp, hn1, hn8, hm1, hm4, q⟩ := h
  refine q_asgP (G := G) (P := OneP [.int 1, .int 1, .int 2, .int 3, .int 10]) (ep_pickL (ev_var rfl) (ed_lst (ed_cons (ed_ev ev_c (.int _)) (ed_cons (ed_ev ev_c (.int _)) (ed_cons (ed_ev ev_c (.int _)) (ed_cons (ed_ev ev_c (.int _)) (ed_cons (ed_ev ev_c (.int _)) ed_nil))))) (by show 5 ≤ 100000; decide)) hp ⟨by simp, by show 5 ≤ _; decide⟩) eG fun v H1 e1 ⟨d, hd, hv⟩ => ?_
  obtain ⟨t, rfl, ht1, ht10⟩ : ∃ t : Nat, d = .int (t : Nat) ∧ 1 ≤ t ∧ t ≤ 10 := by
    simp only [List.mem_cons, List.not_mem_nil, or_false] at hd
    rcases hd with rfl | rfl | rfl | rfl | rfl
    · exact ⟨1, rfl, by omega, by omega⟩
    · exact ⟨1, rfl, by omega, by omega⟩
    · exact ⟨2, rfl, by omega, by omega⟩
    · exact ⟨3, rfl, by omega, by omega⟩
    · exact ⟨10, rfl, by omega, by omega⟩
  obtain rfl := dx_int hv
  refine s_retP (P := RowsP n m G) (ep_rows (ks := ixs (n : Int).toNat fun _ => true) (lp_range (n := (n : Nat)) (fun _ => true) (fun _ => RowP n m G) (fun _ => up_row) (ea_cons (ev_var rfl) ea_nil) (by omega) (by omega) fun i hi => turn_name (fun _ => rfl) (ep_row (ks := ixs (m : Int).toNat fun _ => true) (lp_range (n := (m : Nat)) (fun _ => true) (fun _ => EntP1 n) (fun _ => up_ent1) (ea_cons (ev_var rfl) ea_nil) (by omega) (by omega) fun j hj => turn_name (fun _ => rfl)
    (ep_ent (ep_draw (ev_var rfl) (ev_var rfl) hp ⟨ht1, by omega⟩) (ep_draw (ev_var rfl) (ev_var rfl) hp ⟨hn1, by omega⟩) fun a b ha hb => ⟨by show (0 : Int) ≤ (a : Int); omega, by show (a : Int) ≤ 9; omega, by show (0 : Int) ≤ (b : Int); omega, by show (b : Int) < (n : Int); omega⟩)) ?_)) ?_) (eG.trans e1) fun v H2 e2 pv => q v H2 (e1.trans e2) (up_rows _ _ _ (nw_chain e1) pv)
  · rw [ixs_all, List.length_range, Int.toNat_natCast]
  · rw [ixs_all, List.length_range, Int.toNat_natCast]
end
end SF
set_option Elab.async false
set_option linter.all false
set_option maxRecDepth 100000
set_option maxHeartbeats 4000000
namespace SF
open PySem PySem.Spec PyProof.Rows L2 Evl
section
variable {P : Program} {w : World} {K : PySem.W.Frag} {mg : Str → Option Value} {base : Heap}
abbrev N_law_known_rows : List Str := ["_law_pot_here", "_law_size", "_law_many", "_law_way", "_law_last", "_law_rows_here", "_law_spot", "_law_written", "_law_place", "_law_later"]
theorem sc_law_known_rows : FnScope N_law_known_rows ["_law_pot_here", "_law_size", "_law_many"] (defScope (topS 73)) := ⟨rfl, rfl, rfl, by decide +kernel, rfl, by decide +kernel, by decide +kernel⟩
theorem dn_law_known_rows (T : Txt K mg) (D_law_draw : Dn P w K mg base 1 "_law_draw" ["_law_pot_here", "_law_many"] spDraw) : Dn P w K mg base 2 "_law_known_rows" ["_law_pot_here", "_law_size", "_law_many"] spRows := by
  refine dn_of T.f_law_known_rows sc_law_known_rows (fun _ _ _ _ _ _ us hl => match us, hl with | [_, _, _], _ => rfl) (by rintro vs H Q E ⟨a, b, c, d, rfl, _⟩; rfl) (fun f cdv A outer s H vs Q E hr h => ?_)
  have nd := sc_law_known_rows.nd
  refine ⟨_, (pss_cons (ps_asg (pe_tup (pa_cons (pe_fn D_law_draw hr (by decide) (by rfl) (pa_cons (pv 0) (pa_cons pe_int pa_nil))) (pa_cons (pe_op op_sub (pv 1) pe_int) pa_nil))) (pg_tupK K rfl 2 (by rfl) (pgs_cons (pg_name (i := 3) nd rfl (by first | exact Or.inl rfl | exact Or.inr rfl)) (pgs_cons (pg_name (i := 4) nd rfl (by first | exact Or.inl rfl | exact Or.inr rfl)) pgs_nil))))
      (pss_cons (ps_set (i := 5) nd rfl (.inl rfl) (pe_lst pa_nil))
      (pss_cons (ps_for PassesOwn.never rfl (pi_range1 (by rfl) T.z_range (pa_cons (pv 1) pa_nil)) (pg_name (i := 6) nd rfl (by first | exact Or.inl rfl | exact Or.inr rfl)) (pss_cons (ps_setLc (i := 7) (own := [("_law_place", 8)]) (by rfl) nd rfl rfl (sw_true rfl rfl rfl (by decide +kernel)) (pi_range1 (by rfl) T.z_range (pa_cons (pv 2) pa_nil)) (blkOk_by (own := [("_law_place", 8)]) (N := N_law_known_rows) (sc := (defScope (topS 73))) (by decide +kernel)) (fun _ _ _ _ _ => (pg_name (i := 8) nd rfl (by first | exact Or.inl rfl | exact Or.inr rfl))) (fun _ _ _ _ _ => pts_nil) (fun _ _ _ _ _ => (pe_callB (call_min2 rfl) (by rfl) T.z_min (by decide +kernel) (pa_cons (pe_op op_add (pv 8) pe_int) (pa_cons (pv 4) pa_nil)))))
      (pss_one (ps_if (pt_cmpR op_eq (pv 3) pe_int (nomark _)) (pss_one (ps_expr (pe_bmK K rfl PySem.F.plainAttrs_list PySem.F.slot_list_append PySem.F.type_list_append mt_append (pv 5) (pa_cons (pe_lc (own := [("_law_later", 9)]) (by rfl) nd (pi_listK K rfl (pv 7)) (blkOk_by (own := [("_law_later", 9)]) (N := N_law_known_rows) (sc := (defScope (topS 73))) (by decide +kernel)) (fun _ _ _ _ _ => (pg_name (i := 9) nd rfl (by first | exact Or.inl rfl | exact Or.inr rfl))) (fun _ _ _ _ _ => pts_nil) (fun _ _ _ _ _ => (pe_tup (pa_cons pe_int (pa_cons (pv 9) pa_nil))))) pa_nil)))) (pss_one (ps_if (pt_cmpR op_eq (pv 3) pe_int (nomark _)) (pss_one (ps_expr (pe_bmK K rfl PySem.F.plainAttrs_list PySem.F.slot_list_append PySem.F.type_list_append mt_append (pv 5) (pa_cons (pe_lc (own := [("_law_later", 9)]) (by rfl) nd (pi_listK K rfl (pv 7)) (blkOk_by (own := [("_law_later", 9)]) (N := N_law_known_rows) (sc := (defScope (topS 73))) (by decide +kernel)) (fun _ _ _ _ _ => (pg_name (i := 9) nd rfl (by first | exact Or.inl rfl | exact Or.inr rfl))) (fun _ _ _ _ _ => pts_nil) (fun _ _ _ _ _ => (pe_tup (pa_cons pe_int (pa_cons (pe_ifExp (pt_cmpR op_eq (pv 6) pe_int (nomark _)) (pv 9) (pv 6)) pa_nil))))) pa_nil)))) (pss_one (ps_if (pt_cmpR op_eq (pv 3) pe_int (nomark _)) (pss_one (ps_expr (pe_bmK K rfl PySem.F.plainAttrs_list PySem.F.slot_list_append PySem.F.type_list_append mt_append (pv 5) (pa_cons (pe_lc (own := [("_law_later", 9)]) (by rfl) nd (pi_listK K rfl (pv 7)) (blkOk_by (own := [("_law_later", 9)]) (N := N_law_known_rows) (sc := (defScope (topS 73))) (by decide +kernel)) (fun _ _ _ _ _ => (pg_name (i := 9) nd rfl (by first | exact Or.inl rfl | exact Or.inr rfl))) (fun _ _ _ _ _ => pts_nil) (fun _ _ _ _ _ => (pe_tup (pa_cons (pv 6) (pa_cons (pv 9) pa_nil))))) pa_nil)))) (pss_one (ps_if (pt_cmpR op_eq (pv 3) pe_int (nomark _)) (pss_one (ps_expr (pe_bmK K rfl PySem.F.plainAttrs_list PySem.F.slot_list_append PySem.F.type_list_append mt_append (pv 5) (pa_cons (pe_lc (own := [("_law_place", 8)]) (by rfl) nd (pi_range1 (by rfl) T.z_range (pa_cons (pv 2) pa_nil)) (blkOk_by (own := [("_law_place", 8)]) (N := N_law_known_rows) (sc := (defScope (topS 73))) (by decide +kernel)) (fun _ _ _ _ _ => (pg_name (i := 8) nd rfl (by first | exact Or.inl rfl | exact Or.inr rfl))) (fun _ _ _ _ _ => pts_nil) (fun _ _ _ _ _ => (pe_tup (pa_cons (pv 6) (pa_cons (pe_op op_mod (pe_callTy call_int1 (by rfl) T.z_int (by decide +kernel) (pa_cons (pe_op op_add (pe_op op_add (pv 6) (pv 8)) pe_int) pa_nil)) (pv 1)) pa_nil))))) pa_nil)))) (pss_one (ps_expr (pe_bmK K rfl PySem.F.plainAttrs_list PySem.F.slot_list_append PySem.F.type_list_append mt_append (pv 5) (pa_cons (pe_lc (own := [("_law_later", 9)]) (by rfl) nd (pi_listK K rfl (pv 7)) (blkOk_by (own := [("_law_later", 9)]) (N := N_law_known_rows) (sc := (defScope (topS 73))) (by decide +kernel)) (fun _ _ _ _ _ => (pg_name (i := 9) nd rfl (by first | exact Or.inl rfl | exact Or.inr rfl))) (fun _ _ _ _ _ => pts_nil) (fun _ _ _ _ _ => (pe_tup (pa_cons pe_int (pa_cons (pe_ifExp (pt_cmpR op_eq (pv 6) pe_int (nomark _)) (pv 9) (pe_op op_mod (pe_callTy call_int1 (by rfl) T.z_int (by decide +kernel) (pa_cons (pe_op op_add (pv 6) (pv 2)) pa_nil)) (pv 1))) pa_nil))))) pa_nil))))))))))))))
      (pss_one (ps_ret (pv 5)))))), ?_⟩
  obtain ⟨G, a, n, m, rfl, eG, hp, hn1, hn8, hm1, hm4, q⟩ := h
  refine go_asg (go_tup (go_cons (go_ev (G := G) (PR := BelowP 5) (ep_draw (n := 5) (ev_var rfl) ev_c hp ⟨by omega, by omega⟩) eG fun v1 H1 e1 ⟨wy, hv, hw⟩ => go_cons (go_op (go_var rfl (go_c ⟨_, _, rfl, rfl, go_nil ⟨by show 2 ≤ sizeLine; decide, fun T hT => ?_⟩⟩))))))
  subst hv
  have eT := Ex.new (o := .tup [.int (wy : Nat), .int ((n : Int) - 1)]) hT
  refine ⟨T, _, rfl, st_of upd_same, rfl, _, _, rfl, _, _, rfl, rfl, ?_⟩
  have e1T := e1.trans eT
  generalize upd H1 T (.tup [.int (wy : Nat), .int ((n : Int) - 1)]) = H2 at e1T ⊢
  refine ⟨Nat.zero_le _, fun lf hlf => ?_⟩
  have hHlf : H lf = none := fresh_back e1T hlf
  have hGlf : G lf = none := fresh_back eG hHlf
  have e3 := Ex.new (o := .lst []) hlf
  refine q_forR1 (ea_cons (ev_var rfl) ea_nil) ⟨by omega, by omega⟩ (fun i σ' H' => ∃ y6 y7, ∃ ls : List V, σ' = [some (.ref a), some (.int (n : Nat)), some (.int (m : Nat)), some (.int (wy : Nat)), some (.int ((n : Int) - 1)), some (.ref lf), y6, y7, none, none] ∧ Ex H H' ∧ H' lf = some (.lst ls) ∧ ls.length = i ∧ ∀ y ∈ ls, RowP n m G y (hide (Nw G H H') lf))
    (fun H3 e4 => ⟨none, none, [], rfl, (e1T.trans e3).trans e4, e4 _ _ upd_same, rfl, fun _ h => by cases h⟩) (fun i σ' H' hi pv => ?_) (fun σ' H' pv => ?_)
  · obtain ⟨y6, y7, ls, rfl, eH, hlf', hlen, hrows⟩ := pv
    have hin : i < n := by omega
    have eGH := eG.trans eH
    let wr : List Nat := (List.range m).map fun j => min (j + 1) (n - 1)
    refine q_asgP (G := G) (P := fun v H => Dx H v (.list (natsD wr))) (ed_lp (lp_range (n := (m : Nat)) (fun _ => true) (fun j v _ => v = .int ((min (j + 1) (n - 1) : Nat) : Int)) (fun _ => up_s) (ea_cons (ev_var rfl) ea_nil) (by omega) (by omega) fun j hj => turn_name (fun _ => rfl) (ep_ev (ev_cb (ea_cons (ev_op (ev_var rfl) ev_c rv_I0) (ea_cons (ev_var rfl) ea_nil)) fun H5 e5 Q k => ⟨_, _, rfl, k H5 (Ex.refl _)⟩) fun _ _ => ?_)) fun ys h al => ?_) eGH fun vw H3 e3' hvw => ?_
    · congr 1
      split <;> omega
    · have ey : ys = natsV wr := by
        rw [Al.eq (v := fun j => V.int ((min (j + 1) (n - 1) : Nat) : Int)) al, ixs_all, Int.toNat_natCast]
        show _ = (wr.map fun n : Nat => V.int (n : Int))
        rw [List.map_map]
        rfl
      rw [ey]
      exact natsV_dx _ _
    obtain ⟨lw, xw, rfl, hlw, alw⟩ := dx_lst hvw
    obtain rfl := dx_nats alw
    have hwl : (natsV wr).length = m := by rw [natsV_len, List.length_map, List.length_range]
    have hwn : ∀ (j : Nat) (x : V), (natsV wr)[j]? = some x → ∃ d : Nat, x = .int (d : Nat) ∧ d < n := fun j x hj => by
      obtain ⟨d, hd, rfl⟩ := at_natsV hj
      obtain ⟨j', _, rfl⟩ := List.mem_map.mp (List.mem_of_getElem? hd)
      exact ⟨_, rfl, by omega⟩
    have eH3 := eH.trans e3'
    have eGB : Ex G (Nw G H' H3) := nw_base (eG.trans eH3)
    have eB3 : Ex (Nw G H' H3) H3 := nw_sub
    have hBlf : Nw G H' H3 lf = none := nw_none hGlf hlf'
    have vis : ∀ b o, Nw G H' H3 b = some o → (∃ u, G b = some u) ∨ H b = none := fun b o h => (nw_vis h).imp id fun z => fresh_back eH z
    have hlf3 := e3' _ _ hlf'
    have rows3 : ∀ y ∈ ls, RowP n m G y (hide (Nw G H H3) lf) := fun y hy => up_row _ _ _ (hide_ex (nw_up e3')) (hrows y hy)
    generalize hB : Nw G H' H3 = B at *
    have fin : ∀ H4 y H5, Ex H3 H4 → Ex H4 H5 → RowP n m B y (Nw B H4 H5) → (Ex H (upd H5 lf (.lst (ls ++ [y]))) ∧ (upd H5 lf (.lst (ls ++ [y]))) lf = some (.lst (ls ++ [y])) ∧ (ls ++ [y]).length = i + 1 ∧ ∀ y' ∈ ls ++ [y], RowP n m G y' (hide (Nw G H (upd H5 lf (.lst (ls ++ [y])))) lf)) := fun H4 y H5 e4 e5 hy => by
      have e35 := e4.trans e5
      refine ⟨Ex.mut (eH3.trans e35) hHlf, upd_same, by rw [List.length_append, hlen] <;> rfl, fun y' hy' => ?_⟩
      rcases List.mem_append.mp hy' with z | z
      · exact up_row _ _ _ (kept_app e35) (rows3 y' z)
      · rw [List.mem_singleton.mp z]
        obtain ⟨l, xs, h1, h2, h3, h4, h5⟩ := hy
        have sb : Ex (Nw B H4 H5) (hide (Nw G H (upd H5 lf (.lst (ls ++ [y])))) lf) := seen_app2 vis (fun b z => fresh_back (eH3.trans e4) z) hBlf (e4 _ _ hlf3) e5
        exact ⟨l, xs, h1, fresh_back eGB h2, sb _ _ h3, h4, fun x hx => up_ent1 _ _ _ sb (h5 x hx)⟩
    have big : ls.length < 100000 := by omega
    have later : ∀ {σ : L2.St} {w : Nat}, σ[9]? = some (some (.int (w : Nat))) → w < n → EvP (tVar 9) σ B (fun v _ => ∃ d : Nat, v = .int (d : Nat) ∧ d < n) := fun h hw => ep_ev (ev_var h) fun _ _ => ⟨_, rfl, hw⟩
    have zero : ∀ {σ : L2.St}, EvP (tC (.int 0)) σ B (fun v _ => ∃ d : Nat, v = .int (d : Nat) ∧ d ≤ 9) := ep_ev ev_c fun _ _ => ⟨0, rfl, by omega⟩
    have spot : ∀ {σ : L2.St}, σ[6]? = some (some (.int (i : Nat))) → EvP (tVar 6) σ B (fun v _ => ∃ d : Nat, v = .int (d : Nat) ∧ d ≤ 9) := fun h => ep_ev (ev_var h) fun _ _ => ⟨_, rfl, by omega⟩
    have ok : ∀ a b : Nat, a ≤ 9 → b < n → EntOk n ((a : Int), (b : Int)) := fun a b ha hb => ⟨by show (0 : Int) ≤ (a : Int); omega, by show (a : Int) ≤ 9; omega, by show (0 : Int) ≤ (b : Int); omega, by show (b : Int) < (n : Int); omega⟩
    have cond : ∀ {σ : L2.St} {w : Nat} {te : TE}, σ[9]? = some (some (.int (w : Nat))) → σ[6]? = some (some (.int (i : Nat))) → w < n → EvP te σ B (fun v _ => ∃ d : Nat, v = .int (d : Nat) ∧ d < n) → EvP (tIf (tTest (tOp rEq (tVar 6) (tC (.int 0)))) (tVar 9) te) σ B (fun v _ => ∃ d : Nat, v = .int (d : Nat) ∧ d < n) := fun {σ w te} h1 h2 hw he H6 e6 Q k =>
      (et_test (ev_op (ev_var h2) ev_c (rv_eq rfl))) H6 e6 _ fun H7 e7 => by
        by_cases c : V.int (i : Int) = V.int 0
        · rw [decide_eq_true c, if_pos rfl]
          exact later h1 hw H7 (e6.trans e7) Q fun v H8 e8 p => k v H8 (e7.trans e8) p
        · rw [decide_eq_false c, if_neg (by decide)]
          exact he H7 (e6.trans e7) Q fun v H8 e8 p => k v H8 (e7.trans e8) p
    have wlist : ∀ {σ : L2.St} {te : TE}, σ[7]? = some (some (.ref lw)) → (∀ x, wipe ((wipe σ [9]).set 9 (some x)) [9] = wipe σ [9]) → (∀ w : Nat, w < n → EvP te ((wipe σ [9]).set 9 (some (.int (w : Nat)))) B (EntP1 n)) → EvP (tLc (iList K (tVar 7)) (gName 9) tYes te [9]) σ B (RowP n m B) := fun {σ te} h7 hwp he =>
      ep_row (ks := ixs (natsV wr).length fun _ => true) (lp_list (fun _ => true) (fun _ => EntP1 n) (fun _ => up_ent1) (ev_var h7) hlw (by omega) fun j x hj => by
        obtain ⟨w, rfl, hw⟩ := hwn j x hj
        exact turn_name hwp (he w hw)) (by rw [ixs_all, List.length_range, hwl])
    refine s_if (b := decide (V.int (wy : Int) = V.int 0)) (et_test (ev_op (ev_var rfl) ev_c (rv_eq rfl))) (fun _ H4 e4 => ?_) (fun _ H4 e4 => ?_)
    · exact s_appP (G := B) (P := RowP n m B) up_row (e4 _ _ hlf3) (ev_var rfl) (wlist rfl (fun _ => rfl) fun w hw => ep_ent zero (later rfl hw) ok) (eB3.trans e4) big fun y H5 e5 p => ⟨_, _, _, rfl, fin H4 y H5 e4 e5 p⟩
    refine s_if (b := decide (V.int (wy : Int) = V.int 1)) (et_test (ev_op (ev_var rfl) ev_c (rv_eq rfl))) (fun _ H5 e5 => ?_) (fun _ H5 e5 => ?_)
    · exact s_appP (G := B) (P := RowP n m B) up_row ((e4.trans e5) _ _ hlf3) (ev_var rfl) (wlist rfl (fun _ => rfl) fun w hw => ep_ent zero (cond rfl rfl hw (ep_ev (ev_var rfl) fun _ _ => ⟨i, rfl, hin⟩)) ok) (eB3.trans (e4.trans e5)) big fun y H6 e6 p => ⟨_, _, _, rfl, fin H5 y H6 (e4.trans e5) e6 p⟩
    have e45 := e4.trans e5
    refine s_if (b := decide (V.int (wy : Int) = V.int 2)) (et_test (ev_op (ev_var rfl) ev_c (rv_eq rfl))) (fun _ H6 e6 => ?_) (fun _ H6 e6 => ?_)
    · exact s_appP (G := B) (P := RowP n m B) up_row ((e45.trans e6) _ _ hlf3) (ev_var rfl) (wlist rfl (fun _ => rfl) fun w hw => ep_ent (spot rfl) (later rfl hw) ok) (eB3.trans (e45.trans e6)) big fun y H7 e7 p => ⟨_, _, _, rfl, fin H6 y H7 (e45.trans e6) e7 p⟩
    have e46 := e45.trans e6
    have md : ∀ {te : TE} {σ : L2.St} {x : Int}, 0 ≤ x → Ev te σ B (.int x) → σ[1]? = some (some (.int (n : Nat))) → EvP (tOp (rI (fun _ j => 0 < j) fun i j => .int (i % j)) te (tVar 1)) σ B (fun v _ => ∃ d : Nat, v = .int (d : Nat) ∧ d < n) := fun {te σ x} hx h h1 => ep_ev (v := .int (x % (n : Int))) (ev_op h (ev_var h1) (rv_I (show (0 : Int) < (n : Int) by omega))) fun _ _ => by
      have l0 := Int.emod_nonneg x (show (n : Int) ≠ 0 by omega)
      have l1 := Int.emod_lt_of_pos x (show (0 : Int) < (n : Int) by omega)
      exact ⟨(x % (n : Int)).toNat, by rw [Int.toNat_of_nonneg l0], by omega⟩
    refine s_if (b := decide (V.int (wy : Int) = V.int 3)) (et_test (ev_op (ev_var rfl) ev_c (rv_eq rfl))) (fun _ H7 e7 => ?_) (fun _ H7 e7 => ?_)
    · refine s_appP (G := B) (P := RowP n m B) up_row ((e46.trans e7) _ _ hlf3) (ev_var rfl) (ep_row (ks := ixs (m : Int).toNat fun _ => true) (lp_range (n := (m : Nat)) (fun _ => true) (fun _ => EntP1 n) (fun _ => up_ent1) (ea_cons (ev_var rfl) ea_nil) (by omega) (by omega) fun j hj => turn_name (fun _ => rfl) (ep_ent (spot rfl) (md (x := (i : Int) + (j : Int) + 1) (by omega) (ev_cb (ea_cons (ev_op (ev_op (ev_var rfl) (ev_var rfl) rv_I0) ev_c rv_I0) ea_nil) (rc_int (K := K))) rfl) ok)) ?_) (eB3.trans (e46.trans e7)) big fun y H8 e8 p => ⟨_, _, _, rfl, fin H7 y H8 (e46.trans e7) e8 p⟩
      rw [ixs_all, List.length_range, Int.toNat_natCast]
    · exact s_appP (G := B) (P := RowP n m B) up_row ((e46.trans e7) _ _ hlf3) (ev_var rfl) (wlist rfl (fun _ => rfl) fun w hw => ep_ent zero (cond rfl rfl hw (md (x := (i : Int) + (m : Int)) (by omega) (ev_cb (ea_cons (ev_op (ev_var rfl) (ev_var rfl) rv_I0) ea_nil) (rc_int (K := K))) rfl)) ok) (eB3.trans (e46.trans e7)) big fun y H8 e8 p => ⟨_, _, _, rfl, fin H7 y H8 (e46.trans e7) e8 p⟩
  · obtain ⟨y6, y7, ls, rfl, eH, hlf', hlen, hrows⟩ := pv
    refine s_ret (ev_var rfl) fun H4 e4 => q _ H4 (eH.trans e4) ⟨lf, ls, rfl, ?_, by rw [hlen, Int.toNat_natCast], fun y hy => up_row _ _ _ (hide_ex (nw_up e4)) (hrows y hy)⟩
    rw [nw_free hHlf]
    exact e4 _ _ hlf'
end
end SF
set_option Elab.async false
set_option linter.all false
set_option maxRecDepth 100000
set_option maxHeartbeats 4000000
namespace SF
open PySem PySem.Spec PyProof.Rows L2 Evl
section
variable {P : Program} {w : World} {K : PySem.W.Frag} {mg : Str → Option Value} {base : Heap}

section
variable {K : PySem.W.Frag} {σ : L2.St} {G H : Hp} {te : TE} {tu tz : TS}
/-- a for over range(n), n one of many -/
theorem q_forRN {D : Ends} {j N : Nat} (h : EvP te σ G (fun v _ => ∃ n : Nat, v = .int (n : Nat) ∧ n ≤ N)) (hN : N ≤ 100000) (eG : Ex G H) (k : ∀ n H1, Ex H H1 → n ≤ N → ∃ Pv : Nat → L2.St → Hp → Prop, Pv 0 σ H1 ∧ (∀ (i : Nat) σ' H' (D2 : Ends), i < n → Pv i σ' H' → D2.nx = Pv (i + 1) → tu D2 (σ'.set j (some (.int (i : Int)))) H') ∧ (∀ σ' H', Pv n σ' H' → tz D σ' H')) :
    tSeq (tFor (iRng1 (tCons te tNil)) (gName j) tu) tz D σ H := h H eG _ fun v H1 e1 ⟨n, hv, hn⟩ => by
  subst hv
  obtain ⟨Pv, h0, hs, hd⟩ := k n H1 e1 hn
  refine ⟨(n : Int), rfl, by omega, by omega, ?_⟩
  rw [Int.toNat_natCast]
  exact for_range (D := { D with nx := tz D }) (lo := 0) (n := n) Pv h0 (fun i σ' H' hi p => by
    show tu _ (σ'.set j (some (.int ((0 : Int) + (i : Int))))) H'
    rw [Int.zero_add]
    exact hs i σ' H' _ hi p rfl) hd
theorem go_sub {to ti : TE} {t : TSet} {v : V} {Q : L2.St → Hp → Prop} (h : to σ H fun o H1 => ti σ H1 fun i H2 => t o i v H2 fun H3 => Q σ H3) : gSub to ti t v σ H Q := h
end
theorem ent_upd {n : Nat} {H : Hp} {x : V} {l : Addr} {zs : List V} {o : HO} (h : EntP1 n x H) (hl : H l = some (.lst zs)) : EntP1 n x (upd H l o) := by
  obtain ⟨e, he, r⟩ := h
  obtain ⟨a, v1, v2, rfl, ha, h1, h2⟩ := dx_tup2 he
  obtain rfl := dx_int h1
  obtain rfl := dx_int h2
  exact ⟨e, .tup (by rw [upd_ne (fun z => by rw [z, hl] at ha; cases ha)]; exact ha) (.cons (.int _) (.cons (.int _) .nil)), r⟩
theorem ent_hide {n : Nat} {H : Hp} {x : V} {l : Addr} {zs : List V} (h : EntP1 n x H) (hl : H l = some (.lst zs)) : EntP1 n x (hide H l) := by
  obtain ⟨e, he, r⟩ := h
  obtain ⟨a, v1, v2, rfl, ha, h1, h2⟩ := dx_tup2 he
  obtain rfl := dx_int h1
  obtain rfl := dx_int h2
  exact ⟨e, .tup (by rw [hide_ne (fun z => by rw [z, hl] at ha; cases ha)]; exact ha) (.cons (.int _) (.cons (.int _) .nil)), r⟩
theorem ent_updN {n : Nat} {G H H8 : Hp} {x : V} {l : Addr} {zs : List V} {o : HO} (h : EntP1 n x (Nw G H H8)) (hl : H8 l = some (.lst zs)) : EntP1 n x (Nw G H (upd H8 l o)) := by
  obtain ⟨e, he, r⟩ := h
  obtain ⟨a, v1, v2, rfl, ha, h1, h2⟩ := dx_tup2 he
  obtain rfl := dx_int h1
  obtain rfl := dx_int h2
  have na : a ≠ l := fun z => by
    have := nw_val ha
    rw [z, hl] at this
    cases this
  refine ⟨e, .tup (?_ : Nw G H (upd H8 l o) a = _) (.cons (.int _) (.cons (.int _) .nil)), r⟩
  rcases nw_cases G H H8 a with z | ⟨z, y⟩
  · rw [z] at ha; cases ha
  · rw [z] at ha
    rcases y with ⟨u, y⟩ | y
    · rw [nw_old y, upd_ne na]; exact ha
    · rw [nw_free y, upd_ne na]; exact ha
theorem merge2 {a b : Str} (h : a ≠ b) (v w : V) : mergeK [] [((Sum.inr a : Key), v), (Sum.inr b, w)] = [(Sum.inr a, v), (Sum.inr b, w)] := by
  unfold mergeK
  simp [putK, h]
theorem go_disp2 {K : PySem.W.Frag} {σ : L2.St} {H : Hp} {a b : Str} {t1 t2 : TE} {Q : VK} (hab : a ≠ b) (h : ∀ p, H p = none → t1 σ (upd H p (.dK [])) fun v H1 => t2 σ H1 fun w H2 => H2 p = some (.dK []) ∧ Q (.ref p) (upd H2 p (.dK [(Sum.inr a, v), (Sum.inr b, w)]))) (mono : ∀ p, H p = none → (t1 σ (upd H p (.dK [])) fun v H1 => t2 σ H1 fun w H2 => H2 p = some (.dK []) ∧ Q (.ref p) (upd H2 p (.dK [(Sum.inr a, v), (Sum.inr b, w)]))) → t1 σ (upd H p (.dK [])) fun v H1 => t2 σ H1 fun w H2 => H2 p = some (.dK []) ∧ ∃ kvs : List (Key × V), [(V.str a, v), (V.str b, w)] = kvs.map (fun kv => (kV kv.1, kv.2)) ∧ kvs.length ≤ 15 ∧ Q (.ref p) (upd H2 p (.dK (mergeK [] kvs)))) :
    tDisp [(tC (.str a), t1), (tC (.str b), t2)] σ H Q := fun p hp => mono p hp (h p hp)
def modelD (ns : List Str) (rs : List (List (Int × Int))) : PyData := .dict [(.str "deeds", .list (namesD ns)), (.str "rows", rowsL rs)]
abbrev ModelP (B : Nat) : PV := fun v H => ∃ ns rs, Dx H v (modelD ns rs) ∧ NamesOk ns ∧ RowsOk ns.length rs ∧ rs.length ≤ B
theorem up_model {B : Nat} : Up (ModelP B) := fun _ _ _ e ⟨ns, rs, h, r⟩ => ⟨ns, rs, h.ex e, r⟩
def spModel : Sp := fun vs H Q _ => ∃ G a, ∃ ms mm : Nat, vs = [.ref a, .int (ms : Nat), .int (mm : Nat)] ∧ Ex G H ∧ PotAt a G ∧ 1 ≤ ms ∧ ms ≤ 8 ∧ 1 ≤ mm ∧ mm ≤ 3 ∧ RetP (ModelP ms) G H Q
abbrev N_law_model : List Str := ["_law_pot_here", "_law_most_size", "_law_most_many", "_law_size", "_law_many", "_law_is_known", "_law_rows_here", "_law_turn"]
theorem sc_law_model : FnScope N_law_model ["_law_pot_here", "_law_most_size", "_law_most_many"] (defScope (topS 74)) := ⟨rfl, rfl, rfl, by decide +kernel, rfl, by decide +kernel, by decide +kernel⟩
theorem dn_law_model (T : Txt K mg) (D_law_draw : Dn P w K mg base 1 "_law_draw" ["_law_pot_here", "_law_many"] spDraw) (D_law_pick : Dn P w K mg base 2 "_law_pick" ["_law_pot_here", "_law_some"] spPick) (D_law_names : Dn P w K mg base 3 "_law_names" ["_law_pot_here", "_law_size"] spNames) (D_law_any_rows : Dn P w K mg base 3 "_law_any_rows" ["_law_pot_here", "_law_size", "_law_many"] spRows) (D_law_known_rows : Dn P w K mg base 2 "_law_known_rows" ["_law_pot_here", "_law_size", "_law_many"] spRows) : Dn P w K mg base 4 "_law_model" ["_law_pot_here", "_law_most_size", "_law_most_many"] spModel := by
  refine dn_of T.f_law_model sc_law_model (fun _ _ _ _ _ _ us hl => match us, hl with | [_, _, _], _ => rfl) (by rintro vs H Q E ⟨a, b, c, d, rfl, _⟩; rfl) (fun f cdv A outer s H vs Q E hr h => ?_)
  have nd := sc_law_model.nd
  refine ⟨_, (pss_cons (ps_par (i := 3) (j := 4) (by rfl) nd rfl rfl (by decide) rfl rfl (pa_cons (pe_op op_add pe_int (pe_fn D_law_draw hr (by decide) (by rfl) (pa_cons (pv 0) (pa_cons (pv 1) pa_nil)))) (pa_cons (pe_op op_add pe_int (pe_fn D_law_draw hr (by decide) (by rfl) (pa_cons (pv 0) (pa_cons (pv 2) pa_nil)))) pa_nil)) (by rfl))
      (pss_cons (ps_set (i := 5) nd rfl (.inl rfl) (pe_cmpR op_gt (pe_fn D_law_draw hr (by decide) (by rfl) (pa_cons (pv 0) (pa_cons pe_int pa_nil))) pe_int (nomark _)))
      (pss_cons (ps_set (i := 6) nd rfl (.inl rfl) (pe_ifExp (pt_val (pv 5)) (pe_fn D_law_known_rows hr (by decide) (by rfl) (pa_cons (pv 0) (pa_cons (pv 3) (pa_cons (pv 4) pa_nil)))) (pe_fn D_law_any_rows hr (by decide) (by rfl) (pa_cons (pv 0) (pa_cons (pv 3) (pa_cons (pv 4) pa_nil))))))
      (pss_cons (ps_for PassesOwn.never rfl (pi_range1 (by rfl) T.z_range (pa_cons (pe_ifExp (pt_val (pv 5)) (pe_fn D_law_pick hr (by decide) (by rfl) (pa_cons (pv 0) (pa_cons (pe_lst (pa_cons pe_int (pa_cons pe_int (pa_cons pe_int (pa_cons pe_int pa_nil))))) pa_nil))) pe_int) pa_nil)) (pg_name (i := 7) nd rfl (by first | exact Or.inl rfl | exact Or.inr rfl)) (pss_one (ps_asg (pe_tup (pa_cons (pe_fn D_law_draw hr (by decide) (by rfl) (pa_cons (pv 0) (pa_cons pe_int pa_nil))) (pa_cons (pe_fn D_law_draw hr (by decide) (by rfl) (pa_cons (pv 0) (pa_cons (pv 3) pa_nil))) pa_nil))) (pg_sub (pe_ix (ix_listK K rfl) (pv 6) (pe_fn D_law_draw hr (by decide) (by rfl) (pa_cons (pv 0) (pa_cons (pv 3) pa_nil))) (fun _ _ => rfl)) (pe_fn D_law_draw hr (by decide) (by rfl) (pa_cons (pv 0) (pa_cons (pv 4) pa_nil))) set_list))))
      (pss_one (ps_ret (pe_disp (pps_cons pe_str (pe_fn D_law_names hr (by decide) (by rfl) (pa_cons (pv 0) (pa_cons (pv 4) pa_nil))) (pps_cons pe_str (pv 6) pps_nil)) (by rfl) (by rfl) (fun z => by cases z) (by decide)))))))), ?_⟩
  obtain ⟨G, a, ms, mm, rfl, eG, hp, hs1, hs8, hm1, hm3, q⟩ := h
  refine go_par (go_cons (go_op (go_c (go_ev (G := G) (PR := BelowP ms) (ep_draw (ev_var rfl) (ev_var rfl) hp ⟨hs1, by omega⟩) eG fun v1 H1 e1 ⟨d1, h1, l1⟩ => ?_))))
  subst h1
  refine ⟨1, _, rfl, rfl, go_cons (go_op (go_c (go_ev (G := G) (PR := BelowP mm) (ep_draw (ev_var rfl) (ev_var rfl) hp ⟨hm1, by omega⟩) (eG.trans e1) fun v2 H2 e2 ⟨d2, h2, l2⟩ => ?_)))⟩
  subst h2
  refine ⟨1, _, rfl, rfl, go_nil ⟨_, _, rfl, ?_⟩⟩
  have en : (1 : Int) + (d1 : Int) = ((d1 + 1 : Nat) : Int) := by omega
  have em : (1 : Int) + (d2 : Int) = ((d2 + 1 : Nat) : Int) := by omega
  dsimp only
  rw [en, em]
  generalize hn : d1 + 1 = n
  generalize hm : d2 + 1 = m
  have e12 := e1.trans e2
  refine go_asg (go_op (go_ev (G := G) (PR := BelowP 3) (ep_draw (n := 3) (ev_var rfl) ev_c hp ⟨by omega, by omega⟩) (eG.trans e12) fun v3 H3 e3 ⟨d3, h3, l3⟩ => go_c ?_))
  subst h3
  refine ⟨_, _, rfl, rfl, ?_⟩
  dsimp only
  have e13 := e12.trans e3
  have eG3 := eG.trans e13
  generalize hb : decide ((0 : Int) < (d3 : Int)) = b
  refine q_asgP (G := G) (P := RowsP n m G) (fun H4 e4 Q k => go_if (go_B (go_var rfl ⟨b, rfl, ?_⟩))) eG3 fun v4 H4 e4 hv4 => ?_
  · have call : ∀ {σ : L2.St}, σ[0]? = some (some (.ref a)) → σ[3]? = some (some (.int (n : Nat))) → σ[4]? = some (some (.int (m : Nat))) → EvP (tCall spRows [] E0 (tCons (tVar 0) (tCons (tVar 3) (tCons (tVar 4) tNil)))) σ G (RowsP n m G) := fun {σ} c0 c3 c4 => ep_call up_rows (ea_cons (ev_var c0) (ea_cons (ev_var c3) (ea_cons (ev_var c4) ea_nil))) fun H5 e5 Q r => ⟨G, a, n, m, rfl, e5, hp, by omega, by omega, by omega, by omega, r⟩
    cases b with
    | true => exact call rfl rfl rfl H4 e4 Q k
    | false => exact call rfl rfl rfl H4 e4 Q k
  obtain ⟨la, ls, rfl, hla, hlen, hrows⟩ := hv4
  have e14 := e13.trans e4
  have hla4 : H4 la = some (.lst ls) := nw_val hla
  have hHla : (∃ u, G la = some u) ∨ H3 la = none := nw_vis hla
  have rows4 : ∀ y ∈ ls, ∃ l xs, y = .ref l ∧ H l = none ∧ l ≠ la ∧ H4 l = some (.lst xs) ∧ xs.length = m ∧ ∀ x ∈ xs, EntP1 n x (Nw G H H4) := fun y hy => by
    obtain ⟨l, xs, h1, h2, h3, h4, h5⟩ := hrows y hy
    have nl : l ≠ la := fun z => by rw [z, hide_self] at h3; cases h3
    have h3' := hide_sub _ _ h3
    refine ⟨l, xs, h1, ?_, nl, nw_val h3', h4, fun x hx => up_ent1 _ _ _ (hide_sub.trans (nw_chain e13)) (h5 x hx)⟩
    rcases nw_vis h3' with ⟨u, z⟩ | z
    · rw [h2] at z; cases z
    · exact fresh_back e13 z
  refine q_forRN (N := 2) (fun H5 e5 Q k => go_if (go_B (go_var rfl ⟨b, rfl, ?_⟩))) (by omega) (eG3.trans e4) fun nn H5 e5 hnn => ?_
  · cases b with
    | true =>
      rw [if_pos rfl]
      refine (ep_pickL (ds := [.int 0, .int 0, .int 1, .int 2]) (ev_var rfl) (ed_lst (ed_cons (ed_ev ev_c (.int _)) (ed_cons (ed_ev ev_c (.int _)) (ed_cons (ed_ev ev_c (.int _)) (ed_cons (ed_ev ev_c (.int _)) ed_nil)))) (by show 4 ≤ 100000; decide)) hp ⟨by simp, by show 4 ≤ _; decide⟩) H5 e5 Q fun v H6 e6 ⟨d, hd, hv⟩ => k v H6 e6 ?_
      simp only [List.mem_cons, List.not_mem_nil, or_false] at hd
      rcases hd with rfl | rfl | rfl | rfl
      · exact ⟨0, dx_int hv, by omega⟩
      · exact ⟨0, dx_int hv, by omega⟩
      · exact ⟨1, dx_int hv, by omega⟩
      · exact ⟨2, dx_int hv, by omega⟩
    | false =>
      rw [if_neg (by decide)]
      exact go_c (k _ H5 (Ex.refl _) ⟨0, rfl, by omega⟩)
  · refine ⟨fun i σ' H' => ∃ y7, σ' = [some (.ref a), some (.int (ms : Nat)), some (.int (mm : Nat)), some (.int (n : Nat)), some (.int (m : Nat)), some (.bl b), some (.ref la), y7] ∧ Ex H H' ∧ H' la = some (.lst ls) ∧ (∀ y ∈ ls, ∃ l xs, y = .ref l ∧ H l = none ∧ l ≠ la ∧ H' l = some (.lst xs) ∧ xs.length = m ∧ ∀ x ∈ xs, EntP1 n x (Nw G H H')) ∧ ∀ b, H' b = none → H5 b = none,
      ⟨none, rfl, e14.trans e5, e5 _ _ hla4, fun y hy => ?_, fun _ h => h⟩, fun i σ' H' D2 hi pv hD2 => ?_, fun σ' H' pv => ?_⟩
    · obtain ⟨l, xs, h1, h2, h3, h4, h5, h6⟩ := rows4 y hy
      exact ⟨l, xs, h1, h2, h3, e5 _ _ h4, h5, fun x hx => up_ent1 _ _ _ (nw_up e5) (h6 x hx)⟩
    · obtain ⟨y7, rfl, eH, hla', hrw, dm⟩ := pv
      refine (ep_ent (n := n) (P1 := fun d => d < 3) (P2 := fun d => d < n) (ep_draw (n := 3) (ev_var rfl) ev_c hp ⟨by omega, by omega⟩) (ep_draw (ev_var rfl) (ev_var rfl) hp ⟨by omega, by omega⟩) fun a b ha hb => ⟨by show (0 : Int) ≤ (a : Int); omega, by show (a : Int) ≤ 9; omega, by show (0 : Int) ≤ (b : Int); omega, by show (b : Int) < (n : Int); omega⟩) H' (eG.trans eH) _ fun v H6 e6 hv => ?_
      refine go_sub (go_op (go_var rfl (go_ev (G := G) (PR := BelowP n) (ep_draw (ev_var rfl) (ev_var rfl) hp ⟨by omega, by omega⟩) (eG.trans (eH.trans e6)) fun v1 H7 e7 ⟨k1, c1, o1⟩ => ?_)))
      subst c1
      have e67 := e6.trans e7
      have hk1 : ls[k1]? = some (ls[k1]'(by omega)) := List.getElem?_eq_getElem (by omega)
      obtain ⟨l, xs, hy, hHl, nl, hl, hxl, hxs⟩ := hrw _ (List.mem_of_getElem? hk1)
      refine ⟨la, ls, k1, _, rfl, rfl, sq_of (e67 _ _ hla'), atI_nat hk1, ?_⟩
      rw [hy]
      refine go_ev (G := G) (PR := BelowP m) (ep_draw (ev_var rfl) (ev_var rfl) hp ⟨by omega, by omega⟩) (eG.trans (eH.trans e67)) fun v2 H8 e8 ⟨k2, c2, o2⟩ => ?_
      subst c2
      have e68 := e67.trans e8
      have hl8 := e68 _ _ hl
      refine ⟨l, xs, k2, k2, rfl, rfl, hl8, ixN_nat (by omega), ?_⟩
      rw [hD2]
      refine ⟨_, rfl, Ex.mut (eH.trans e68) hHl, by rw [upd_ne nl.symm]; exact e68 _ _ hla', fun y hy => ?_, fun c hc => ?_⟩
      · obtain ⟨l2, xs2, g1, g2, g3, g4, g5, g6⟩ := hrw y hy
        by_cases c : l2 = l
        · subst c
          rw [hl] at g4
          cases g4
          refine ⟨l2, xs.set k2 v, g1, g2, g3, upd_same, by rw [List.length_set]; exact hxl, fun x hx => ?_⟩
          rcases List.mem_or_eq_of_mem_set hx with z | z
          · exact ent_updN (up_ent1 _ _ _ (nw_up e68) (g6 x z)) hl8
          · rw [z]
            exact ent_updN (up_ent1 _ _ _ ((nw_chain eH).trans (nw_up (e7.trans e8))) hv) hl8
        · exact ⟨l2, xs2, g1, g2, g3, by rw [upd_ne c]; exact e68 _ _ g4, g5, fun x hx => ent_updN (up_ent1 _ _ _ (nw_up e68) (g6 x hx)) hl8⟩
      · by_cases z : c = l
        · rw [z, upd_same] at hc; cases hc
        · rw [upd_ne z] at hc; exact dm c (fresh_back e68 hc)
    · obtain ⟨y7, rfl, eH, hla', hrw, dm⟩ := pv
      refine go_ret fun p hpn => ?_
      have hHp : H p = none := fresh_back eH hpn
      have hGp : G p = none := fresh_back eG hHp
      have ep := Ex.new (o := .dK []) hpn
      have hpp : (upd H' p (.dK [])) p = some (.dK []) := upd_same
      show (tC (.str "deeds")) _ _ _
      refine go_c (go_ev (G := G) (PR := NamesP m) (ep_call up_names (ea_cons (ev_var rfl) (ea_cons (ev_var rfl) ea_nil)) fun H6 e6 Q r => ⟨G, a, m, rfl, e6, hp, by omega, by omega, r⟩) (eG.trans (eH.trans ep)) fun vn H6 e6 ⟨ns, hns, hnl, hok⟩ => ?_)
      show (tC (.str "rows")) _ _ _
      refine go_c (go_var rfl ?_)
      have hp6 := e6 _ _ hpp
      refine ⟨hp6, [(Sum.inr "deeds", vn), (Sum.inr "rows", .ref la)], rfl, by show 2 ≤ 15; decide, ?_⟩
      rw [merge2 (by decide)]
      have eAll : Ex H (upd H6 p (.dK [(Sum.inr "deeds", vn), (Sum.inr "rows", .ref la)])) := Ex.mut (eH.trans (ep.trans e6)) hHp
      have sees : ∀ {B : Hp}, (∀ b o, B b = some o → b ≠ p) → (∀ b o, B b = some o → H6 b = some o) → (∀ b o, B b = some o → (∃ u, G b = some u) ∨ H b = none) → Ex B (Nw G H (upd H6 p (.dK [(Sum.inr "deeds", vn), (Sum.inr "rows", .ref la)]))) := fun {B} n v s => ex_into (fun b o h => by rw [upd_ne (n b o h)]; exact v b o h) s
      have s1 : Ex (Nw G (upd H' p (.dK [])) H6) (Nw G H (upd H6 p (.dK [(Sum.inr "deeds", vn), (Sum.inr "rows", .ref la)]))) := sees (fun b o h z => by rw [z, nw_none hGp hpp] at h; cases h) (fun b o h => nw_val h) fun b o h => (nw_vis h).imp id fun z => fresh_back (eH.trans ep) z
      have s2 : Ex (Nw G H H') (Nw G H (upd H6 p (.dK [(Sum.inr "deeds", vn), (Sum.inr "rows", .ref la)]))) := sees (fun b o h z => by rw [z] at h; have := nw_val h; rw [hpn] at this; cases this) (fun b o h => e6 _ _ (ep _ _ (nw_val h))) fun b o h => nw_vis h
      have hR : RowsP n m (fun _ => none) (.ref la) (Nw G H H') := by
        refine ⟨la, ls, rfl, ?_, hlen, fun y hy => ?_⟩
        · rcases hHla with ⟨u, z⟩ | z
          · rw [nw_old z]; exact hla'
          · rw [nw_free (fresh_back e13 z)]; exact hla'
        · obtain ⟨l, xs, h1, h2, h3, h4, h5, h6⟩ := hrw y hy
          refine ⟨l, xs, h1, rfl, by rw [hide_ne h3, nw_free h2]; exact h4, h5, fun x hx => ?_⟩
          refine ent_hide (zs := ls) (h6 x hx) ?_
          rcases hHla with ⟨u, z⟩ | z
          · rw [nw_old z]; exact hla'
          · rw [nw_free (fresh_back e13 z)]; exact hla'
      obtain ⟨rs, hrs, hrl, hrk⟩ := rows_data hR
      refine q _ _ eAll ⟨ns, rs, .dic (by rw [nw_free hHp]; exact upd_same) (.cons (.str _) (hns.ex s1) (.cons (.str _) (hrs.ex s2) .nil)), hok, ⟨fun z => by rw [z] at hrl; simp at hrl; omega, by omega, fun r hr => by rw [hnl]; exact (hrk r hr).1, fun r hr p hp => by rw [hrl]; exact (hrk r hr).2 p hp⟩, by omega⟩
end
end SF
set_option Elab.async false
set_option linter.all false
set_option maxRecDepth 100000
set_option maxHeartbeats 4000000
namespace SF
open PySem PySem.Spec PyProof.Rows L2 Evl
section
variable {P : Program} {w : World} {K : PySem.W.Frag} {mg : Str → Option Value} {base : Heap}

section
variable {K : PySem.W.Frag} {σ : L2.St} {G H : Hp} {te te2 : TE} {ta : TA} {ns : List Str} {rs : List (List (Int × Int))}
theorem dx_model {H : Hp} {v : V} (h : Dx H v (modelD ns rs)) : ∃ a v1 v2, v = .ref a ∧ H a = some (.dK [(Sum.inr "deeds", v1), (Sum.inr "rows", v2)]) ∧ Dx H v1 (.list (namesD ns)) ∧ Dx H v2 (rowsL rs) := by
  cases h with
  | dic h kv =>
    cases kv with
    | cons k1 d1 r =>
      cases r with
      | cons k2 d2 r =>
        cases r
        rename_i a x1 v1 x2 v2
        have e1 : x1 = (Sum.inr ("deeds" : Str) : Key) := by
          cases x1 with
          | inl i => exact nomatch dx_str k1
          | inr z => have := dx_str k1; exact congrArg (Sum.inr : Str → Key) (V.str.inj this)
        have e2 : x2 = (Sum.inr ("rows" : Str) : Key) := by
          cases x2 with
          | inl i => exact nomatch dx_str k2
          | inr z => have := dx_str k2; exact congrArg (Sum.inr : Str → Key) (V.str.inj this)
        subst e1 e2
        exact ⟨_, _, _, rfl, h, d1, d2⟩
theorem ed_deeds (h : EvD te σ G (modelD ns rs)) : EvD (tDGet te (tC (.str "deeds"))) σ G (.list (namesD ns)) := fun H1 e Q q => h H1 e _ fun v H2 e2 hd => by
  obtain ⟨a, v1, v2, rfl, ha, h1, h2⟩ := dx_model hd
  exact ⟨a, v1, rfl, DGet.k (k := Sum.inr "deeds") (nw_val ha), q v1 H2 e2 h1⟩
theorem ed_rows (h : EvD te σ G (modelD ns rs)) : EvD (tDGet te (tC (.str "rows"))) σ G (rowsL rs) := fun H1 e Q q => h H1 e _ fun v H2 e2 hd => by
  obtain ⟨a, v1, v2, rfl, ha, h1, h2⟩ := dx_model hd
  have g := DGet.k (k := Sum.inr "rows") (nw_val ha)
  have ev : valV [((Sum.inr "deeds" : Key), v1), (Sum.inr "rows", v2)] (Sum.inr "rows") = some v2 := by
    rw [valV_neg (show ¬ (Sum.inr ("deeds" : Str) : Key) = Sum.inr ("rows" : Str) by decide), valV_pos rfl]
  rw [ev] at g
  exact ⟨a, v2, rfl, g, q v2 H2 e2 h2⟩
theorem ep_imp2 {P R : PV} (h : EvP te σ G P) (f : ∀ v H, P v H → R v H) : EvP te σ G R := h.imp f
end
def lotD (p : Plan) : PyData := .tuple [.int (p.s : Nat), .list (natsD p.near), .list (natsD p.far)]
def spMade (K : PySem.W.Frag) : Sp := fun vs H Q _ => ∃ G mv ns rs, vs = [mv] ∧ Ex G H ∧ Dx G mv (modelD ns rs) ∧ NamesOk ns ∧ RowsOk ns.length rs ∧ RetP (fun v H => ∃ t, v = .ref t ∧ ThAt K t ns rs H) G H Q
abbrev N_law_made : List Str := ["_law_model_here"]
theorem sc_law_made : FnScope N_law_made ["_law_model_here"] (defScope (topS 75)) := ⟨rfl, rfl, rfl, by decide +kernel, rfl, by decide +kernel, by decide +kernel⟩
theorem dn_law_made (T : Txt K mg) (D_Thing : Mn P w K mg base 8 "Thing" "__init__" ["self", "deeds", "rows"] (spThingInit K)) : Dn P w K mg base 10 "_law_made" ["_law_model_here"] (spMade K) := by
  refine dn_of T.f_law_made sc_law_made (fun _ _ _ _ _ _ us hl => match us, hl with | [_], _ => rfl) (by rintro vs H Q E ⟨a, b, c, d, rfl, _⟩; rfl) (fun f cdv A outer s H vs Q E hr h => ?_)
  have nd := sc_law_made.nd
  refine ⟨_, (pss_one (ps_ret (pe_mk D_Thing T.m_Thing T.g_Thing hr (by decide) (by rfl) (pa_cons (pe_dget (hu_of hr) (pv 0) pe_str (fun _ _ => rfl)) (pa_cons (pe_dget (hu_of hr) (pv 0) pe_str (fun _ _ => rfl)) pa_nil))))), ?_⟩
  obtain ⟨G, mv, ns, rs, rfl, eG, hm, ok1, ok2, q⟩ := h
  refine s_retP (P := fun v H => ∃ t, v = .ref t ∧ ThAt K t ns rs H) (ep_makeTwoD (R := consP (fun v H => Dx H v (.list (namesD ns))) (consP (fun v H => Dx H v (rowsL rs)) nilP)) up_deeds up_dx (eas_cons up_dx (up_consP up_dx up_nilP) (ed_deeds (ed_ev (ev_var rfl) hm)) (eas_cons up_dx up_nilP (ed_rows (ed_ev (ev_var rfl) hm)) eas_nil)) fun G' H1 x dx Q vs eg eg2 hx hx2 hvs r => ?_) eG q
  obtain ⟨v1, r1, rfl, h1, v2, r2, rfl, h2, rfl⟩ := hvs
  exact ⟨G', x, dx, v1, v2, ns, rs, rfl, eg2, hx, hx2, h1, h2, ok1, ok2, r⟩

def spNamed : Sp := fun vs H Q _ => ∃ G mv pv ns rs, ∃ xs : List Nat, vs = [mv, pv] ∧ Ex G H ∧ Dx G mv (modelD ns rs) ∧ Dx G pv (.list (natsD xs)) ∧ (∀ x ∈ xs, x < ns.length) ∧ xs.length ≤ 1000 ∧ RetD (.list (namesD (namesOf ns xs))) G H Q
abbrev N_law_named : List Str := ["_law_model_here", "_law_places", "_law_place"]
theorem sc_law_named : FnScope N_law_named ["_law_model_here", "_law_places"] (defScope (topS 78)) := ⟨rfl, rfl, rfl, by decide +kernel, rfl, by decide +kernel, by decide +kernel⟩
theorem dn_law_named (T : Txt K mg) : Dn P w K mg base 1 "_law_named" ["_law_model_here", "_law_places"] spNamed := by
  refine dn_of T.f_law_named sc_law_named (fun _ _ _ _ _ _ us hl => match us, hl with | [_, _], _ => rfl) (by rintro vs H Q E ⟨a, b, c, d, e, f, rfl, _⟩; rfl) (fun f cdv A outer s H vs Q E hr h => ?_)
  have nd := sc_law_named.nd
  refine ⟨_, (pss_one (ps_ret (pe_lc (own := [("_law_place", 2)]) (by rfl) nd (pi_listK K rfl (pv 1)) (blkOk_by (own := [("_law_place", 2)]) (N := N_law_named) (sc := (defScope (topS 78))) (by decide +kernel)) (fun _ _ _ _ _ => (pg_name (i := 2) nd rfl (by first | exact Or.inl rfl | exact Or.inr rfl))) (fun _ _ _ _ _ => pts_nil) (fun _ _ _ _ _ => (pe_ix (ix_listK K rfl) (pe_dget (hu_of hr) (pv 0) pe_str (fun _ _ => rfl)) (pv 2) (fun _ _ => rfl)))))), ?_⟩
  obtain ⟨G, mv, pv, ns, rs, xs, rfl, eG, hm, hp, hlt, hz, q⟩ := h
  obtain ⟨lp, ps, rfl, hlp, al⟩ := dx_lst hp
  obtain rfl := dx_nats al
  refine s_retP (P := fun v H => Dx H v (.list (namesD (namesOf ns xs)))) (ed_lp (lp_list (fun _ => true) (fun i v _ => v = .str (nameF ns (xs.getD i 0))) (fun _ => up_s) (ev_var rfl) hlp (by rw [natsV_len]; omega) fun i x hi => turn_name (fun _ => rfl) (ep_ev (ev_edS (ed_ixL (ds := namesD ns) (i := xs.getD i 0) (ed_deeds (ed_ev (ev_var rfl) hm)) (ev_is (ev_var rfl) ?_) ?_)) fun _ _ => rfl)) fun ys h al2 => ?_) eG q
  · obtain ⟨n, hn, rfl⟩ := at_natsV hi
    rw [List.getD_eq_getElem?_getD, hn] <;> rfl
  · obtain ⟨n, hn, rfl⟩ := at_natsV hi
    have en : xs.getD i 0 = n := by rw [List.getD_eq_getElem?_getD, hn, Option.getD_some]
    rw [en]
    unfold namesD
    rw [List.getElem?_map, nameF_at (hlt n (List.mem_of_getElem? hn))] <;> rfl
  · rw [Al.eq (v := fun i => V.str (nameF ns (xs.getD i 0))) al2, ixs_all, map_getD (fun x => V.str (nameF ns x)) 0 xs (natsV_len xs)]
    have := strs_dx (H := h) (namesOf ns xs)
    unfold namesOf at this
    rw [List.map_map] at this
    exact this

def spLawRun : Sp := fun vs H Q _ => ∃ G mv pv ns rs, ∃ s : Nat, ∃ ps : List Nat, vs = [mv, .int (s : Nat), pv] ∧ Ex G H ∧ Dx G mv (modelD ns rs) ∧ Dx G pv (.list (natsD ps)) ∧ RowsOk ns.length rs ∧ s < rs.length ∧ (∀ p ∈ ps, p < ns.length) ∧ ps.length ≤ 1000 ∧ RetD (runD (runF rs s ps)) G H Q
abbrev N_law_run : List Str := ["_law_model_here", "_law_begin", "_law_places", "_law_here", "_law_heard", "_law_place"]
theorem sc_law_run : FnScope N_law_run ["_law_model_here", "_law_begin", "_law_places"] (defScope (topS 76)) := ⟨rfl, rfl, rfl, by decide +kernel, rfl, by decide +kernel, by decide +kernel⟩
theorem dn_law_run (T : Txt K mg) : Dn P w K mg base 1 "_law_run" ["_law_model_here", "_law_begin", "_law_places"] spLawRun := by
  refine dn_of T.f_law_run sc_law_run (fun _ _ _ _ _ _ us hl => match us, hl with | [_, _, _], _ => rfl) (by rintro vs H Q E ⟨a, b, c, d, e, f, g, rfl, _⟩; rfl) (fun f cdv A outer s H vs Q E hr h => ?_)
  have nd := sc_law_run.nd
  refine ⟨_, (pss_cons (ps_par (i := 3) (j := 4) (by rfl) nd rfl rfl (by decide) rfl rfl (pa_cons (pv 1) (pa_cons (pe_lst pa_nil) pa_nil)) (by rfl))
      (pss_cons (ps_for PassesOwn.never rfl (pi_listK K rfl (pv 2)) (pg_name (i := 5) nd rfl (by first | exact Or.inl rfl | exact Or.inr rfl)) (pss_cons (ps_expr (pe_bmK K rfl PySem.F.plainAttrs_list PySem.F.slot_list_append PySem.F.type_list_append mt_append (pv 4) (pa_cons (pe_ix (ix_tupK K rfl) (pe_ix (ix_listK K rfl) (pe_ix (ix_listK K rfl) (pe_dget (hu_of hr) (pv 0) pe_str (fun _ _ => rfl)) (pv 3) (fun _ _ => rfl)) (pv 5) (fun _ _ => rfl)) pe_int (fun _ _ => rfl)) pa_nil)))
      (pss_one (ps_set (i := 3) nd rfl (.inl rfl) (pe_ix (ix_tupK K rfl) (pe_ix (ix_listK K rfl) (pe_ix (ix_listK K rfl) (pe_dget (hu_of hr) (pv 0) pe_str (fun _ _ => rfl)) (pv 3) (fun _ _ => rfl)) (pv 5) (fun _ _ => rfl)) pe_int (fun _ _ => rfl))))))
      (pss_one (ps_ret (pe_tup (pa_cons (pv 4) (pa_cons (pv 3) pa_nil))))))), ?_⟩
  obtain ⟨G, mv, pv, ns, rs, s', ps, rfl, eG, hm, hp, ok, hs, hps, hz, q⟩ := h
  obtain ⟨l0, xs, rfl, hx, al⟩ := dx_lst hp
  have exs : xs = natsV ps := dx_nats al
  subst exs
  refine ⟨_, rfl, Nat.zero_le _, fun l hl => ⟨_, _, rfl, ?_⟩⟩
  have e1 : Ex H (upd H l (.lst [])) := Ex.new hl
  refine q_forLn (ev_var rfl) (sq_of (e1 _ _ (eG _ _ hx))) (fun i σ' H' => ∃ y5, σ' = [some mv, some (.int (s' : Nat)), some (.ref l0), some (.int ((runF rs s' (ps.take i)).2 : Nat)), some (.ref l), y5] ∧ Ex H H' ∧ H' l = some (.lst ((runF rs s' (ps.take i)).1.map V.int)))
    (fun H2 e2 => ⟨_, rfl, e1.trans e2, e2 _ _ upd_same⟩) (fun i σ' H' _ p => let ⟨_, _, e, _⟩ := p; sq_of (e _ _ (eG _ _ hx))) (fun i x σ' H' hi p => ?_) (fun σ' H' p => ?_)
  · obtain ⟨y5, rfl, e2, hl2⟩ := p
    obtain ⟨n, hn, rfl⟩ := at_natsV hi
    have hlt : i < ps.length := (List.getElem?_eq_some_iff.mp hn).1
    have hn2 : n < ns.length := hps n (List.mem_of_getElem? hn)
    have hst : (runF rs s' (ps.take i)).2 < rs.length := runF_ok ok _ _ hs fun p h => hps p (List.mem_of_mem_take h)
    obtain ⟨row, h1, h2, h3, h4⟩ := step_at_ok ok hst hn2
    have etake : ps.take (i + 1) = ps.take i ++ [n] := by rw [List.take_add_one, hn] <;> rfl
    have ent : ∀ {σ : L2.St}, σ[0]? = some (some mv) → σ[3]? = some (some (.int ((runF rs s' (ps.take i)).2 : Nat))) → σ[5]? = some (some (.int (n : Nat))) → EvD (tOp (rIxL K) (tOp (rIxL K) (tDGet (tVar 0) (tC (.str "rows"))) (tVar 3)) (tVar 5)) σ G (entD (stepF rs (runF rs s' (ps.take i)).2 n)) := fun {σ} c0 c3 c5 =>
      ed_ixL (ds := row.map entD) (i := n) (ed_ixL (ds := rs.map rowL) (i := (runF rs s' (ps.take i)).2) (ed_rows (ed_ev (ev_var c0) hm)) (ev_var c3) (by rw [List.getElem?_map, h1] <;> rfl)) (ev_var c5) (by rw [List.getElem?_map, h2] <;> rfl)
    have eG2 := eG.trans e2
    refine q_appP (G := G) (P := fun v _ => v = .int (stepF rs (runF rs s' (ps.take i)).2 n).1) up_s hl2 (ev_var rfl) (ep_ev (ev_ed (ed_ixT (i := 0) (ent rfl rfl rfl) ev_c rfl)) fun _ _ => rfl) eG2 ?_ fun y H3 e3 hy => ?_
    · rw [List.length_map, runF_len, List.length_take]; omega
    subst hy
    have e13 : Ex H (upd H3 l (.lst ((runF rs s' (ps.take i)).1.map V.int ++ [.int (stepF rs (runF rs s' (ps.take i)).2 n).1]))) := Ex.mut (e2.trans e3) hl
    refine s_asg (v := .int (stepF rs (runF rs s' (ps.take i)).2 n).2) (Ev.mono (eG.trans e13) (ev_ed (ed_ixT (i := 1) (ent rfl rfl rfl) ev_c rfl))) fun H4 e4 => ⟨some (.int (n : Nat)), ?_, e13.trans e4, ?_⟩
    · rw [etake, runF_snoc]
      show [some mv, some (.int (s' : Nat)), some (.ref l0), some (.int (stepF rs (runF rs s' (ps.take i)).2 n).2), some (.ref l), _] = [some mv, some (.int (s' : Nat)), some (.ref l0), some (.int ((stepF rs (runF rs s' (ps.take i)).2 n).2.toNat : Nat)), some (.ref l), _]
      rw [show ((stepF rs (runF rs s' (ps.take i)).2 n).2.toNat : Int) = (stepF rs (runF rs s' (ps.take i)).2 n).2 by omega]
    · rw [etake, runF_snoc, List.map_append]
      exact e4 _ _ upd_same
  · obtain ⟨y5, rfl, e2, hl2⟩ := p
    rw [natsV_len, List.take_length] at hl2 ⊢
    have hb : Nw G H H' l = some (.lst ((runF rs s' ps).1.map V.int)) := by rw [nw_free hl]; exact hl2
    exact s_retU2 (G := G) (H0 := H) (P := fun v H => Dx H v (runD (runF rs s' ps))) (ed_tup (ed_cons (ed_ev (ev_var rfl) (.lst hb (ints_dx _))) (ed_cons (ed_ev (ev_var rfl) (.int _)) ed_nil)) (by show 2 ≤ 100000; decide)) up_dx e2 q
end
end SF
set_option Elab.async false
set_option linter.all false
set_option maxRecDepth 100000
set_option maxHeartbeats 4000000
namespace SF
open PySem PySem.Spec PyProof.Rows L2 Evl
section
variable {P : Program} {w : World} {K : PySem.W.Frag} {mg : Str → Option Value} {base : Heap}

theorem al_nats {m : Nat} {h : Hp} : ∀ {ks : List Nat} {ys : List V}, Al (fun _ => BelowP m) h ks ys → ∃ ds : List Nat, ys = natsV ds ∧ ds.length = ks.length ∧ ∀ d ∈ ds, d < m
  | _, _, .nil => ⟨[], rfl, rfl, fun _ h => by cases h⟩
  | _, _, .cons ⟨d, h1, h2⟩ r => by
    obtain ⟨ds, k1, k2, k3⟩ := al_nats r
    exact ⟨d :: ds, by rw [h1, k1] <;> rfl, by rw [List.length_cons, List.length_cons, k2], fun x hx => (List.mem_cons.mp hx).elim (fun e => e ▸ h2) (k3 x)⟩
abbrev SortP (n m : Nat) : PV := fun v H => ∃ l : List Nat, Dx H v (.list (natsD l)) ∧ l.length = n ∧ l.Pairwise (· ≤ ·) ∧ ∀ x ∈ l, x < m
theorem up_sort {n m : Nat} : Up (SortP n m) := fun _ _ _ e ⟨l, h, r⟩ => ⟨l, h.ex e, r⟩
section
variable {K : PySem.W.Frag} {σ : L2.St} {G H : Hp} {te : TE} {ta : TA}
theorem go_evV {v : V} {Q : VK} (h : Ev te σ G v) (eG : Ex G H) (k : ∀ H1, Ex H H1 → Q v H1) : te σ H Q := h H eG Q k
theorem ep_sortedN {m n : Nat} {ks : List Nat} (h : EvLP te σ G (fun ys h => Al (fun _ => BelowP m) h ks ys)) (hn : ks.length = n) (hk : n < 64) : EvP (tCB (rSorted K) (tCons te tNil)) σ G (SortP n m) := fun H1 e Q q => h H1 e _ fun p ys H2 hp e2 hl al => by
  obtain ⟨ds, rfl, hd1, hd2⟩ := al_nats al
  have em : natsV ds = (ds.map fun n : Nat => (n : Int)).map V.int := by unfold natsV; rw [List.map_map]; rfl
  rw [em] at hl
  refine ⟨p, _, rfl, sq_of hl, by rw [List.length_map]; omega, fun zs p2 pm sp hp2 => ?_⟩
  have nn : ∀ z ∈ zs, ∃ d : Nat, z = (d : Int) ∧ d < m := fun z hz => by
    obtain ⟨d, hd, rfl⟩ := List.mem_map.mp (pm.mem_iff.mp hz)
    exact ⟨d, rfl, hd2 d hd⟩
  have ez : zs = (zs.map Int.toNat).map fun n : Nat => (n : Int) := by
    rw [List.map_map]
    have : ∀ z ∈ zs, z = ((fun n : Nat => (n : Int)) ∘ Int.toNat) z := fun z hz => by
      obtain ⟨d, rfl, _⟩ := nn z hz
      rfl
    conv => lhs; rw [← List.map_id zs]
    exact List.map_congr_left this
  have e3 := Ex.new (o := .lst (zs.map V.int)) hp2
  refine q _ _ (e2.trans e3) ⟨zs.map Int.toNat, .lst (nw_new e2 hp2) ?_, ?_, ?_, fun x hx => ?_⟩
  · have ev : zs.map V.int = natsV (zs.map Int.toNat) := (congrArg (List.map V.int) ez).trans (by unfold natsV; rw [List.map_map]; rfl)
    have := natsV_dx (Nw G H1 (upd H2 p2 (.lst (zs.map V.int)))) (zs.map Int.toNat)
    rw [← ev] at this
    exact this
  · rw [List.length_map, pm.length_eq, List.length_map, hd1, hn]
  · rw [List.pairwise_map]
    refine List.Pairwise.imp_of_mem (fun {a b} ha hb z => ?_) sp
    obtain ⟨d, rfl, _⟩ := nn a ha
    obtain ⟨d', rfl, _⟩ := nn b hb
    show ((d : Int).toNat) ≤ ((d' : Int).toNat)
    omega
  · obtain ⟨z, hz, rfl⟩ := List.mem_map.mp hx
    obtain ⟨d, rfl, hd⟩ := nn z hz
    show ((d : Int).toNat) < m
    omega
end
abbrev LotP (ns : List Str) (rs : List (List (Int × Int))) : PV := fun v H => ∃ p : Plan, p.ns = ns ∧ p.rs = rs ∧ PlanOk p ∧ p.near.length + p.far.length ≤ 4 ∧ Dx H v (lotD p)
theorem up_lot {ns : List Str} {rs : List (List (Int × Int))} : Up (LotP ns rs) := fun _ _ _ e ⟨p, h1, h2, h3, h4, h5⟩ => ⟨p, h1, h2, h3, h4, h5.ex e⟩
def spLot : Sp := fun vs H Q _ => ∃ G a mv ns rs, vs = [.ref a, mv, .int (4 : Nat)] ∧ Ex G H ∧ PotAt a G ∧ Dx G mv (modelD ns rs) ∧ NamesOk ns ∧ RowsOk ns.length rs ∧ RetP (LotP ns rs) G H Q
abbrev N_law_lot : List Str := ["_law_pot_here", "_law_model_here", "_law_most", "_law_many", "_law_left", "_law_size", "_law_near", "_law_far", "_law_turn"]
theorem sc_law_lot : FnScope N_law_lot ["_law_pot_here", "_law_model_here", "_law_most"] (defScope (topS 77)) := ⟨rfl, rfl, rfl, by decide +kernel, rfl, by decide +kernel, by decide +kernel⟩
theorem dn_law_lot (T : Txt K mg) (D_law_draw : Dn P w K mg base 1 "_law_draw" ["_law_pot_here", "_law_many"] spDraw) : Dn P w K mg base 2 "_law_lot" ["_law_pot_here", "_law_model_here", "_law_most"] spLot := by
  refine dn_of T.f_law_lot sc_law_lot (fun _ _ _ _ _ _ us hl => match us, hl with | [_, _, _], _ => rfl) (by rintro vs H Q E ⟨a, b, c, d, e, rfl, _⟩; rfl) (fun f cdv A outer s H vs Q E hr h => ?_)
  have nd := sc_law_lot.nd
  refine ⟨_, (pss_cons (ps_asg (pe_tup (pa_cons (pe_callB (call_lenK K rfl) (by rfl) T.z_len (by decide +kernel) (pa_cons (pe_dget (hu_of hr) (pv 1) pe_str (fun _ _ => rfl)) pa_nil)) (pa_cons (pe_op op_add pe_int (pe_fn D_law_draw hr (by decide) (by rfl) (pa_cons (pv 0) (pa_cons (pe_op op_sub (pv 2) pe_int) pa_nil)))) pa_nil))) (pg_tupK K rfl 2 (by rfl) (pgs_cons (pg_name (i := 3) nd rfl (by first | exact Or.inl rfl | exact Or.inr rfl)) (pgs_cons (pg_name (i := 4) nd rfl (by first | exact Or.inl rfl | exact Or.inr rfl)) pgs_nil))))
      (pss_cons (ps_set (i := 5) nd rfl (.inl rfl) (pe_op op_add pe_int (pe_fn D_law_draw hr (by decide) (by rfl) (pa_cons (pv 0) (pa_cons (pe_op op_sub (pv 4) pe_int) pa_nil)))))
      (pss_cons (ps_set (i := 6) nd rfl (.inl rfl) (pe_callB (call_sortedK K rfl) (by rfl) T.z_sorted (by decide +kernel) (pa_cons (pe_lc (own := [("_law_turn", 8)]) (by rfl) nd (pi_range1 (by rfl) T.z_range (pa_cons (pv 5) pa_nil)) (blkOk_by (own := [("_law_turn", 8)]) (N := N_law_lot) (sc := (defScope (topS 77))) (by decide +kernel)) (fun _ _ _ _ _ => (pg_name (i := 8) nd rfl (by first | exact Or.inl rfl | exact Or.inr rfl))) (fun _ _ _ _ _ => pts_nil) (fun _ _ _ _ _ => (pe_fn D_law_draw hr (by decide) (by rfl) (pa_cons (pv 0) (pa_cons (pv 3) pa_nil))))) pa_nil)))
      (pss_cons (ps_set (i := 7) nd rfl (.inl rfl) (pe_callB (call_sortedK K rfl) (by rfl) T.z_sorted (by decide +kernel) (pa_cons (pe_lc (own := [("_law_turn", 8)]) (by rfl) nd (pi_range1 (by rfl) T.z_range (pa_cons (pe_op op_sub (pv 4) (pv 5)) pa_nil)) (blkOk_by (own := [("_law_turn", 8)]) (N := N_law_lot) (sc := (defScope (topS 77))) (by decide +kernel)) (fun _ _ _ _ _ => (pg_name (i := 8) nd rfl (by first | exact Or.inl rfl | exact Or.inr rfl))) (fun _ _ _ _ _ => pts_nil) (fun _ _ _ _ _ => (pe_fn D_law_draw hr (by decide) (by rfl) (pa_cons (pv 0) (pa_cons (pv 3) pa_nil))))) pa_nil)))
      (pss_one (ps_ret (pe_tup (pa_cons (pe_fn D_law_draw hr (by decide) (by rfl) (pa_cons (pv 0) (pa_cons (pe_callB (call_lenK K rfl) (by rfl) T.z_len (by decide +kernel) (pa_cons (pe_dget (hu_of hr) (pv 1) pe_str (fun _ _ => rfl)) pa_nil)) pa_nil))) (pa_cons (pv 6) (pa_cons (pv 7) pa_nil)))))))))), ?_⟩
  obtain ⟨G, a, mv, ns, rs, rfl, eG, hp, hm, okn, okr, q⟩ := h
  have hns : 1 ≤ ns.length ∧ ns.length ≤ 4 := ⟨by
    cases ns with
    | nil => exact absurd rfl okn.ne
    | cons z r => simp, okn.hi⟩
  have hrs : 1 ≤ rs.length := by
    cases rs with
    | nil => exact absurd rfl okr.ne
    | cons z r => simp
  have hr8 := okr.hi
  refine go_asg (go_tup (go_cons (go_evV (G := G) (ev_lenD (ed_deeds (ed_ev (ev_var rfl) hm))) eG fun H1 e1 => go_cons (go_op (go_c (go_ev (G := G) (PR := BelowP 3) (ep_draw (n := 3) (ev_var rfl) (ev_is (ev_op (ev_var rfl) ev_c rv_I0) rfl) hp ⟨by omega, by omega⟩) (eG.trans e1) fun v2 H2 e2 ⟨d2, h2, l2⟩ => ?_))))))
  subst h2
  refine ⟨_, _, rfl, rfl, go_nil ⟨by show 2 ≤ sizeLine; decide, fun T hT => ?_⟩⟩
  have eT := Ex.new (o := .tup [.int ((namesD ns).length : Nat), .int (2 + (d2 : Int))]) hT
  refine ⟨T, _, rfl, st_of upd_same, rfl, _, _, rfl, _, _, rfl, rfl, ?_⟩
  have eA := (e1.trans e2).trans eT
  dsimp only
  generalize upd H2 T (.tup [.int ((namesD ns).length : Nat), .int (2 + (d2 : Int))]) = H3 at eA ⊢
  have el : (2 : Int) + (d2 : Int) = ((d2 + 2 : Nat) : Int) := by omega
  have en : (namesD ns).length = ns.length := List.length_map _
  rw [el, en]
  generalize hleft : d2 + 2 = left
  refine go_asg (go_op (go_c (go_ev (G := G) (PR := BelowP (left - 1)) (ep_draw (n := left - 1) (ev_var rfl) (ev_is (ev_op (ev_var rfl) ev_c rv_I0) (congrArg V.int (by omega))) hp ⟨by omega, by omega⟩) (eG.trans eA) fun v4 H4 e4 ⟨d4, h4, l4⟩ => ?_)))
  subst h4
  refine ⟨_, _, rfl, rfl, ?_⟩
  dsimp only
  have es : (1 : Int) + (d4 : Int) = ((d4 + 1 : Nat) : Int) := by omega
  rw [es]
  generalize hsize : d4 + 1 = size
  have eB := eA.trans e4
  refine q_asgP (G := G) (P := SortP size ns.length) (ep_sortedN (ks := ixs (size : Int).toNat fun _ => true) (lp_range (n := (size : Nat)) (fun _ => true) (fun _ => BelowP ns.length) (fun _ => up_below) (ea_cons (ev_var rfl) ea_nil) (by omega) (by omega) fun i hi => turn_name (fun _ => rfl) (ep_draw (ev_var rfl) (ev_var rfl) hp ⟨by omega, by omega⟩)) (by rw [ixs_all, List.length_range, Int.toNat_natCast]) (by omega)) (eG.trans eB) fun vn H5 e5 hvn => ?_
  refine q_asgP (G := G) (P := SortP (left - size) ns.length) (ep_sortedN (ks := ixs ((left - size : Nat) : Int).toNat fun _ => true) (lp_range (n := ((left - size : Nat) : Int)) (fun _ => true) (fun _ => BelowP ns.length) (fun _ => up_below) (ea_cons (ev_is (ev_op (ev_var rfl) (ev_var rfl) rv_I0) (congrArg V.int (by omega))) ea_nil) (by omega) (by omega) fun i hi => turn_name (fun _ => rfl) (ep_draw (ev_var rfl) (ev_var rfl) hp ⟨by omega, by omega⟩)) (by rw [ixs_all, List.length_range, Int.toNat_natCast]) (by omega)) (eG.trans (eB.trans e5)) fun vf H6 e6 hvf => ?_
  obtain ⟨near, hn, hnl, hns2, hnlt⟩ := hvn
  obtain ⟨far, hf, hfl, hfs, hflt⟩ := hvf
  have eC := (eB.trans e5).trans e6
  refine go_ret (go_tup (go_cons (go_ev (G := G) (PR := BelowP rs.length) (ep_draw (ev_var rfl) (ev_is (ev_lenD (ed_rows (ed_ev (ev_var rfl) hm))) (congrArg V.int (by rw [List.length_map]))) hp ⟨by omega, by omega⟩) (eG.trans eC) fun v7 H7 e7 ⟨s, h7, l7⟩ => go_cons (go_var rfl (go_cons (go_var rfl (go_nil ⟨by show 3 ≤ sizeLine; decide, fun T2 hT2 => ?_⟩)))))))
  subst h7
  have e8 := Ex.new (o := .tup [.int (s : Nat), vn, vf]) hT2
  have eD := (eC.trans e7).trans e8
  have eB5 := e5.trans (e6.trans (e7.trans e8))
  refine q _ _ eD ⟨⟨ns, rs, s, near, far⟩, rfl, rfl, ⟨okn, okr, l7, (fun z => by have z : near = [] := z; rw [z] at hnl; simp at hnl; omega), (fun z => by have z : far = [] := z; rw [z] at hfl; simp at hfl; omega), hnlt, hflt, by show near.length + far.length ≤ 5; omega, hns2, hfs⟩, by show near.length + far.length ≤ 4; omega, .tup (nw_new (eC.trans e7) hT2) (.cons (.int _) (.cons (hn.ex ((nw_chain eB).trans (nw_up (e6.trans (e7.trans e8))))) (.cons (hf.ex ((nw_chain (eB.trans e5)).trans (nw_up (e7.trans e8)))) .nil)))⟩

section
variable {K : PySem.W.Frag} {σ : L2.St} {G H : Hp} {te : TE} {ta : TA}
theorem ep_makeLay {R : PL} {p : Plan} {t : Addr} (hsp : ∀ v1 v2 v3 v4 H, R [v1, v2, v3, v4] H → True) (h : EvAs ta σ G (consP (fun v H => ∃ t, v = .ref t ∧ ThAt K t p.ns p.rs H) (consP (fun v _ => v = .int (p.s : Nat)) (consP (fun v H => Dx H v (.list (namesD (namesOf p.ns p.near)))) (consP (fun v H => Dx H v (.list (namesD (namesOf p.ns p.far)))) nilP))))) (ok : PlanOk p) :
    EvP (tMake (He.ga K "Layout") (spLayoutInit K) [] E0 ta) σ G (fun v H => ∃ a, v = .ref a ∧ LayAt K a p H) := fun H1 e Q q =>
  h H1 e _ fun vs H2 e2 r x dx hx hdx ne => by
    obtain ⟨v1, r1, rfl, ⟨t, rfl, ht⟩, v2, r2, rfl, rfl, v3, r3, rfl, h3, v4, r4, rfl, h4, rfl⟩ := r
    have hx1 : H1 x = none := fresh_back e2 hx
    have eN : Ex H2 (upd (upd H2 dx (.own x)) x (.ins (He.ga K "Layout") dx [])) := (Ex.new hdx).trans (Ex.new (by rw [upd_ne (Ne.symm ne)]; exact hx))
    have hN : Nw G H1 H2 x = none := by
      cases z : Nw G H1 H2 x with
      | none => rfl
      | some o => rw [nw_val z] at hx; cases hx
    refine ⟨Nw G H1 H2, x, dx, t, v3, v4, p, rfl, nw_sub.trans eN, hN, upd_same, ht, h3, h4, ok, fun H' f g pq eb hx' n1 n2 n3 => ⟨rfl, ?_⟩⟩
    have e3 : Ex H2 H' := fun b o hb => eb b o (fun z => by rw [z, hx] at hb; cases hb) (eN b o hb)
    have into : Ex (Nw (Nw G H1 H2) (upd (upd H2 dx (.own x)) x (.ins (He.ga K "Layout") dx [])) H') (Nw G H1 H') := nw_callD fun b hb => fresh_back (e2.trans eN) hb
    exact q (.ref x) H' (e2.trans e3) ⟨x, rfl, dx, t, f, g, pq, by rw [nw_free hx1]; exact hx', ht.ex up_deeds up_dx (nw_up e3), n1.ex into, n2.ex into, n3.ex into⟩
end
abbrev LayP (K : PySem.W.Frag) (p : Plan) : PV := fun v H => ∃ a, v = .ref a ∧ LayAt K a p H
theorem up_lay {K : PySem.W.Frag} {p : Plan} : Up (LayP K p) := fun _ _ _ e ⟨a, h, l⟩ => ⟨a, h, l.ex e⟩
theorem up_thing {K : PySem.W.Frag} {ns : List Str} {rs : List (List (Int × Int))} : Up (fun v H => ∃ t, v = .ref t ∧ ThAt K t ns rs H) := fun _ _ _ e ⟨t, h, r⟩ => ⟨t, h, r.ex up_deeds up_dx e⟩
def spPlan (K : PySem.W.Frag) : Sp := fun vs H Q _ => ∃ G mv lv, ∃ p : Plan, vs = [mv, lv] ∧ Ex G H ∧ Dx G mv (modelD p.ns p.rs) ∧ Dx G lv (lotD p) ∧ PlanOk p ∧ RetP (LayP K p) G H Q
abbrev N_law_plan : List Str := ["_law_model_here", "_law_lot_here"]
theorem sc_law_plan : FnScope N_law_plan ["_law_model_here", "_law_lot_here"] (defScope (topS 79)) := ⟨rfl, rfl, rfl, by decide +kernel, rfl, by decide +kernel, by decide +kernel⟩
theorem dn_law_plan (T : Txt K mg) (D_law_made : Dn P w K mg base 10 "_law_made" ["_law_model_here"] (spMade K)) (D_law_named : Dn P w K mg base 1 "_law_named" ["_law_model_here", "_law_places"] spNamed) (D_Layout : Mn P w K mg base 6 "Layout" "__init__" ["self", "thing", "state", "first", "second"] (spLayoutInit K)) : Dn P w K mg base 11 "_law_plan" ["_law_model_here", "_law_lot_here"] (spPlan K) := by
  refine dn_of T.f_law_plan sc_law_plan (fun _ _ _ _ _ _ us hl => match us, hl with | [_, _], _ => rfl) (by rintro vs H Q E ⟨a, b, c, d, rfl, _⟩; rfl) (fun f cdv A outer s H vs Q E hr h => ?_)
  have nd := sc_law_plan.nd
  refine ⟨_, (pss_one (ps_ret (pe_mk D_Layout T.m_Layout T.g_Layout hr (by decide) (by rfl) (pa_cons (pe_fn D_law_made hr (by decide) (by rfl) (pa_cons (pv 0) pa_nil)) (pa_cons (pe_ix (ix_tupK K rfl) (pv 1) pe_int (fun _ _ => rfl)) (pa_cons (pe_fn D_law_named hr (by decide) (by rfl) (pa_cons (pv 0) (pa_cons (pe_ix (ix_tupK K rfl) (pv 1) pe_int (fun _ _ => rfl)) pa_nil))) (pa_cons (pe_fn D_law_named hr (by decide) (by rfl) (pa_cons (pv 0) (pa_cons (pe_ix (ix_tupK K rfl) (pv 1) pe_int (fun _ _ => rfl)) pa_nil))) pa_nil))))))), ?_⟩
  obtain ⟨G, mv, lv, p, rfl, eG, hm, hl, ok, q⟩ := h
  have okr := ok.rows
  refine s_retP (P := LayP K p) (ep_makeLay (R := fun _ _ => True) (t := 0) (fun _ _ _ _ _ _ => trivial)
    (eas_cons up_thing (up_consP up_s (up_consP up_dx (up_consP up_dx up_nilP))) (ep_call up_thing (ea_cons (ev_var rfl) ea_nil) fun H1 e Q r => ⟨G, mv, p.ns, p.rs, rfl, e, hm, ok.names, okr, r⟩)
    (eas_cons up_s (up_consP up_dx (up_consP up_dx up_nilP)) (ep_ev (ev_ed (ed_ixT (i := 0) (ds := [.int (p.s : Nat), .list (natsD p.near), .list (natsD p.far)]) (ed_ev (ev_var rfl) hl) ev_c rfl)) fun _ _ => rfl)
    (eas_cons up_dx (up_consP up_dx up_nilP) (ep_callAs (R := consP (fun v _ => v = mv) (consP (fun v H => Dx H v (.list (natsD p.near))) nilP)) up_dx (eas_cons up_s (up_consP up_dx up_nilP) (ep_ev (ev_var rfl) fun _ _ => rfl) (eas_cons up_dx up_nilP (ed_ixT (i := 1) (ds := [.int (p.s : Nat), .list (natsD p.near), .list (natsD p.far)]) (ed_ev (ev_var rfl) hl) ev_c rfl) eas_nil)) fun G' H1 vs eg eg2 hvs Q r => ?_)
    (eas_cons up_dx up_nilP (ep_callAs (R := consP (fun v _ => v = mv) (consP (fun v H => Dx H v (.list (natsD p.far))) nilP)) up_dx (eas_cons up_s (up_consP up_dx up_nilP) (ep_ev (ev_var rfl) fun _ _ => rfl) (eas_cons up_dx up_nilP (ed_ixT (i := 2) (ds := [.int (p.s : Nat), .list (natsD p.near), .list (natsD p.far)]) (ed_ev (ev_var rfl) hl) ev_c rfl) eas_nil)) fun G' H1 vs eg eg2 hvs Q r => ?_) eas_nil)))) ok) eG q
  · obtain ⟨v1, r1, rfl, rfl, v2, r2, rfl, h2, rfl⟩ := hvs
    exact ⟨G', v1, v2, p.ns, p.rs, p.near, rfl, eg2, hm.ex eg, h2, ok.lt1, by have := ok.le; omega, r⟩
  · obtain ⟨v1, r1, rfl, rfl, v2, r2, rfl, h2, rfl⟩ := hvs
    exact ⟨G', v1, v2, p.ns, p.rs, p.far, rfl, eg2, hm.ex eg, h2, ok.lt2, by have := ok.le; omega, r⟩
end
end SF
set_option Elab.async false
set_option linter.all false
set_option maxRecDepth 100000
set_option maxHeartbeats 4000000
namespace SF
open PySem PySem.Spec PyProof.Rows L2 Evl
section
variable {P : Program} {w : World} {K : PySem.W.Frag} {mg : Str → Option Value} {base : Heap}

theorem two_cases {d : PyData} (h1 : isIB d = true) (h2 : isBo d = false) : ∃ i : Int, d = .int i := by
  cases d with
  | int i => exact ⟨i, rfl⟩
  | bool b => exact Bool.noConfusion h2
  | _ => exact Bool.noConfusion h1
theorem below_notint {n : Nat} {d : PyData} (h : isIB d = false ∨ isBo d = true) : belowD n d = false := by
  cases d with
  | int i =>
    rcases h with h | h
    · exact Bool.noConfusion h
    · exact Bool.noConfusion h
  | _ => rfl
section
variable {K : PySem.W.Frag} {σ : L2.St} {G H : Hp} {tl te : TE} {t1 t2 : TO}
/-- x in xs[:i], ints so far -/
theorem ev_inCut {a : Addr} {xs : List V} {x : V} {i : Nat} (h1 : Ev te σ G x) (h2 : Ev tl σ G (.ref a)) (hx : SqB K G a xs) (ht : EvO t2 σ G (some (i : Int))) (hi : i ≤ xs.length) (hf : flatV x = true) (hp : (xs.take i).all flatV = true) :
    Ev (tOp (rIn K false) te (tSl (rSlB K) tl tNoPart t2)) σ G (.bl (inV x (xs.take i))) := fun H1 e Q q =>
  h1 H1 e _ fun H2 e2 => h2 H2 (e.trans e2) _ fun H3 e3 => ht H3 ((e.trans e2).trans e3) _ fun H4 e4 => by
    have e34 := (e2.trans e3).trans e4
    have cut := cut_to xs i hi
    rcases hx with hx | hx
    · refine .inl ⟨a, xs, rfl, ex_l (e.trans e34) hx, fun p hp2 => ?_⟩
      rw [cut]
      exact ⟨p, _, rfl, .inl (sq_of upd_same), hf, hp, q _ (e34.trans (Ex.new hp2))⟩
    · refine .inr ⟨a, xs, rfl, ex_t (e.trans e34) hx, fun hw => ?_, fun _ p hp2 => ?_⟩
      · have el : i = xs.length := by
          have := hw.2
          rw [HT.sIx_nat] at this
          omega
        rw [el, List.take_length] at q hp
        exact ⟨a, xs, rfl, .inr (ex_t (e.trans e34) hx), hf, hp, q _ e34⟩
      · rw [cut]
        exact ⟨p, _, rfl, .inr (st_of upd_same), hf, hp, q _ (e34.trans (Ex.new hp2))⟩
end
def spLawRow : Sp := fun vs H Q _ => ∃ v d, ∃ n : Nat, vs = [v, .int (n : Nat)] ∧ Dx H v d ∧ lenD d ≤ 1000 ∧ RetV (.bl (orderD n d)) H Q
abbrev N_law_is_row : List Str := ["_law_item", "_law_many", "_law_place", "_law_who"]
theorem sc_law_is_row : FnScope N_law_is_row ["_law_item", "_law_many"] (defScope (topS 81)) := ⟨rfl, rfl, rfl, by decide +kernel, rfl, by decide +kernel, by decide +kernel⟩
theorem dn_law_is_row (T : Txt K mg) : Dn P w K mg base 1 "_law_is_row" ["_law_item", "_law_many"] spLawRow := by
  refine dn_of T.f_law_is_row sc_law_is_row (fun _ _ _ _ _ _ us hl => match us, hl with | [_, _], _ => rfl) (by rintro vs H Q E ⟨a, b, c, rfl, _⟩; rfl) (fun f cdv A outer s H vs Q E hr h => ?_)
  have nd := sc_law_is_row.nd
  refine ⟨_, (pss_cons (ps_if (PW.pt (pw_or (pt_not (pt_val (pe_callB (call_isiTK K rfl) (by rfl) T.z_isinstance (by decide +kernel) (pa_cons (pv 0) (pa_cons (pe_tup (pa_cons (pe_ty "list" (by rfl) T.z_list (by decide +kernel)) (pa_cons (pe_ty "tuple" (by rfl) T.z_tuple (by decide +kernel)) pa_nil))) pa_nil))))) (pw_or1 (pt_cmpR op_eq (pe_callB (call_lenK K rfl) (by rfl) T.z_len (by decide +kernel) (pa_cons (pv 0) pa_nil)) pe_int (nomark _))))) (pss_one (ps_ret pe_bl)) pss_nil)
      (pss_cons (ps_for PassesOwn.never rfl (pi_enS K rfl (by rfl) T.z_enumerate (pa_cons (pv 0) pa_nil)) (pg_tupK K rfl 2 (by rfl) (pgs_cons (pg_name (i := 2) nd rfl (by first | exact Or.inl rfl | exact Or.inr rfl)) (pgs_cons (pg_name (i := 3) nd rfl (by first | exact Or.inl rfl | exact Or.inr rfl)) pgs_nil))) (pss_one (ps_if (PW.pt (pw_or (pt_not (pt_val (pe_callB (call_isiK' K rfl) (by rfl) T.z_isinstance (by decide +kernel) (pa_cons (pv 3) (pa_cons (pe_ty "int" (by rfl) T.z_int (by decide +kernel)) pa_nil))))) (pw_or (pt_val (pe_callB (call_isiK' K rfl) (by rfl) T.z_isinstance (by decide +kernel) (pa_cons (pv 3) (pa_cons (pe_ty "bool" (by rfl) T.z_bool (by decide +kernel)) pa_nil)))) (pw_or (pt_not (pt_chain op_le op_lt pe_int (pv 3) (pv 1))) (pw_or1 (pt_cmpR (op_inK K rfl) (pv 3) (pe_slice (sl_seqK K rfl) (pv 0) po_none (po_some (pv 2))) (by rfl))))))) (pss_one (ps_ret pe_bl)) pss_nil)))
      (pss_one (ps_ret pe_bl)))), ?_⟩
  obtain ⟨v, d, n, rfl, hd, hz, q⟩ := h
  by_cases hs : isSeqD d = true
  · obtain ⟨b, ds, rfl⟩ := is_seqD d hs
    obtain ⟨lx, xs, rfl, hx, al⟩ := dx_seq (K := K) hd
    have so : seqOf (seqD b ds) = ds := by cases b <;> rfl
    have ln : ds.length ≤ 1000 := by
      have e : lenD (seqD b ds) = ds.length := by cases b <;> rfl
      rw [← e]; exact hz
    have hl := al.length
    have eord : orderD n (seqD b ds) = okDs n ds := by
      unfold orderD
      rw [so, hs, Bool.true_and]
    rw [eord] at q
    refine q_when (b := ds.isEmpty) (et_or' (a := false) (et_is (et_not (et_B (ev_seq (ev_var rfl) hd))) (by rw [hs] <;> rfl)) (fun _ => et_is (et_test (ev_op (ev_lenS (ev_var rfl) hx) ev_c (rv_eq rfl))) (b := ds.isEmpty) ?_) (by rw [Bool.false_or])) (fun hc H1 e1 => ?_) (fun hc H1 e1 => ?_)
    · cases ds with
      | nil => exact decide_eq_true (by rw [hl] <;> rfl)
      | cons d0 r =>
        refine decide_eq_false fun z => ?_
        have := V.int.inj z
        rw [hl, List.length_cons] at this
        omega
    · refine s_ret ev_c fun H2 e2 => ?_
      have e : okDs n ds = false := by unfold okDs; rw [hc] <;> rfl
      rw [e] at q
      exact q _ (e1.trans e2)
    · refine q_forES (ea_cons (ev_var rfl) ea_nil) (sqb_ex e1 hx) (fun i σ' H' => ∃ y2 y3, σ' = [some (.ref lx), some (.int (n : Nat)), y2, y3] ∧ Ex H H' ∧ Ex H1 H' ∧ (∀ (j : Nat) (d : PyData), j < i → ds[j]? = some d → belowD n d = true) ∧ ((ds.take i).map intOf).Nodup)
        (fun H2 e2 => ⟨none, none, rfl, e1.trans e2, e2, fun _ _ h => (by omega), by simp⟩) (fun i σ' H' _ pv => ?_) (fun i x σ' H' Tp hi pv hT => ?_) (fun σ' H' pv => ?_)
      · obtain ⟨_, _, _, _, z, _⟩ := pv
        exact z
      · obtain ⟨y2, y3, rfl, eH, eH1, hall, hnd⟩ := pv
        have eT : Ex H' (upd H' Tp (.tup [.int (i : Nat), x])) := Ex.new hT
        refine ⟨Tp, _, rfl, st_of upd_same, rfl, _, _, rfl, _, _, rfl, rfl, ?_⟩
        generalize upd H' Tp (.tup [.int (i : Nat), x]) = H2 at eT ⊢
        have e2 := eH.trans eT
        obtain ⟨di, hdi, hxd⟩ := al.at' hi
        have hxd2 := hxd.ex e2
        have hil : i < ds.length := (List.getElem?_eq_some_iff.mp hdi).1
        have hdi2 : ds[i] = di := by rw [List.getElem?_eq_getElem hil] at hdi; exact Option.some.inj hdi
        have et : ds.take (i + 1) = ds.take i ++ [di] := by rw [List.take_add_one, hdi] <;> rfl
        have pre : (ds.take i).all (belowD n) = true := List.all_eq_true.mpr fun y hy => by
          obtain ⟨j, hj⟩ := List.mem_iff_getElem?.mp hy
          rw [List.getElem?_take] at hj
          by_cases c : j < i
          · rw [if_pos c] at hj; exact hall j y c hj
          · rw [if_neg c] at hj; cases hj
        have bad : ∀ {H3}, Ex H H3 → okDs n ds = false → Q (.bl false) H3 := fun {H3} e hb => by rw [hb] at q; exact q _ e
        have notb : belowD n di = false → okDs n ds = false := fun hb => by
          unfold okDs
          have : ds.all (belowD n) = false := Bool.eq_false_iff.mpr fun z => by
            have := List.all_eq_true.mp z di (List.mem_of_getElem? hdi)
            rw [hb] at this
            cases this
          rw [this]
          simp
        by_cases c1 : isIB di = true
        · by_cases c2 : isBo di = true
          · refine s_when (b := true) (et_or' (a := false) (b := true) (et_is (et_not (et_B (ev_int (ev_var rfl) hxd2))) (by rw [c1] <;> rfl)) (fun _ => et_or' (a := true) (b := true) (et_is (et_B (ev_bool (ev_var rfl) hxd2)) c2) (fun z => Bool.noConfusion z) rfl) rfl) (fun _ H3 e3 => s_ret ev_c fun H4 e4 => bad ((e2.trans e3).trans e4) (notb (below_notint (.inr c2)))) (fun z => Bool.noConfusion z)
          · have c2 : isBo di = false := Bool.eq_false_iff.mpr c2
            obtain ⟨w, rfl⟩ := two_cases c1 c2
            obtain rfl := dx_int hxd2
            have efl : (xs.take i).all flatV = true ∧ inV (.int w) (xs.take i) = decide (w ∈ (ds.take i).map intOf) := by
              obtain ⟨en, lt⟩ := all_nats pre
              have alt := al.take i
              rw [en] at alt
              have ex := dx_nats alt
              have ei := nats_ints pre
              rw [ex, ei]
              refine ⟨flat_nats _, ?_⟩
              unfold inV natsV
              rw [List.any_map]
              cases hb : decide (w ∈ ((ds.take i).map natOf).map fun n : Nat => (n : Int)) with
              | true =>
                obtain ⟨k, hk, e⟩ := List.mem_map.mp (of_decide_eq_true hb)
                exact List.any_eq_true.mpr ⟨k, hk, by show ((k : Int) == w) = true; rw [e]; exact beq_self_eq_true _⟩
              | false =>
                refine List.any_eq_false.mpr fun k hk z => of_decide_eq_false hb ?_
                have z : ((k : Int) == w) = true := z
                rw [← eq_of_beq z]
                exact List.mem_map_of_mem hk
            have hxs2 := sqb_ex e2 hx
            have hb0 : belowD n (.int w) = (decide (0 ≤ w) && decide (w < (n : Int))) := rfl
            refine s_when (b := !(decide (0 ≤ w) && decide (w < (n : Int))) || decide (w ∈ (ds.take i).map intOf)) (et_or' (a := false) (b := _) (et_is (et_not (et_B (ev_int (ev_var rfl) (.int w)))) rfl) (fun _ => et_or' (a := false) (b := _) (et_is (et_B (ev_bool (ev_var rfl) (.int w))) rfl) (fun _ => et_or (et_not (et_test (ev_chain (x := .int 0) (y := .int w) (z := .int (n : Int)) ev_c (ev_var rfl) (rv_b rfl) fun _ => ⟨ev_var rfl, rv_b rfl⟩))) fun _ => et_test (ev_is (ev_inCut (ev_var rfl) (ev_var rfl) hxs2 (eo_some (ev_var rfl)) (by omega) rfl efl.1) (congrArg V.bl efl.2))) (by rw [Bool.false_or])) (by rw [Bool.false_or])) (fun hc H3 e3 => ?_) (fun hc H3 e3 => ?_)
            · refine s_ret ev_c fun H4 e4 => bad ((e2.trans e3).trans e4) ?_
              rw [Bool.or_eq_true] at hc
              rcases hc with hc | hc
              · exact notb (by rw [hb0]; simp at hc ⊢; omega)
              · have hin := of_decide_eq_true hc
                unfold okDs
                have : decide (ds.map intOf).Nodup = false := decide_eq_false fun nd => by
                  have nd2 : ((ds.take (i + 1)).map intOf).Nodup := by
                    have := (List.take_sublist (i + 1) ds).map intOf
                    exact this.nodup nd
                  rw [et, List.map_append] at nd2
                  have := (List.nodup_append.mp nd2).2.2 w hin w (by simp [intOf])
                  exact this rfl
                rw [this, Bool.and_false]
            · rw [Bool.or_eq_false_iff] at hc
              refine ⟨_, _, rfl, e2.trans e3, (eH1.trans eT).trans e3, fun j d2 hj hd2 => ?_, ?_⟩
              · rcases Nat.lt_or_ge j i with c | c
                · exact hall j d2 c hd2
                · obtain rfl : j = i := by omega
                  rw [hdi] at hd2
                  cases hd2
                  rw [hb0]; simpa using hc.1
              · rw [et, List.map_append]
                refine List.nodup_append.mpr ⟨hnd, by simp, fun u hu z hz => ?_⟩
                obtain rfl : z = w := by simpa [intOf] using hz
                rintro rfl
                exact of_decide_eq_false hc.2 hu
        · have c1 : isIB di = false := Bool.eq_false_iff.mpr c1
          refine s_when (b := true) (et_or' (a := true) (b := true) (et_is (et_not (et_B (ev_int (ev_var rfl) hxd2))) (by rw [c1] <;> rfl)) (fun z => Bool.noConfusion z) rfl) (fun _ H3 e3 => s_ret ev_c fun H4 e4 => bad ((e2.trans e3).trans e4) (notb (below_notint (.inl c1)))) (fun z => Bool.noConfusion z)
      · obtain ⟨y2, y3, rfl, eH, eH1, hall, hnd⟩ := pv
        refine s_ret ev_c fun H2 e2 => ?_
        have e : okDs n ds = true := by
          unfold okDs
          rw [hl, List.take_length] at hnd
          have : ds.all (belowD n) = true := List.all_eq_true.mpr fun y hy => by
            obtain ⟨j, hj⟩ := List.mem_iff_getElem?.mp hy
            exact hall j y (by rw [hl]; exact (List.getElem?_eq_some_iff.mp hj).1) hj
          rw [this, hc, decide_eq_true hnd] <;> rfl
        rw [e] at q
        exact q _ (eH.trans e2)
  · have hs2 : isSeqD d = false := Bool.eq_false_iff.mpr hs
    refine q_when (b := true) (et_or' (a := true) (b := true) (et_is (et_not (et_B (ev_seq (ev_var rfl) hd))) (by rw [hs2] <;> rfl)) (fun z => Bool.noConfusion z) rfl) (fun _ H1 e1 => ?_) (fun hf => Bool.noConfusion hf)
    refine s_ret ev_c fun H2 e2 => ?_
    have e : orderD n d = false := by unfold orderD; rw [hs2] <;> rfl
    rw [e] at q
    exact q _ (e1.trans e2)
end
end SF
set_option Elab.async false
set_option linter.all false
set_option maxRecDepth 100000
set_option maxHeartbeats 4000000
namespace SF
open PySem PySem.Spec PyProof.Rows L2 Evl
section
variable {P : Program} {w : World} {K : PySem.W.Frag} {mg : Str → Option Value} {base : Heap}

section
variable {K : PySem.W.Frag} {σ : L2.St} {G H : Hp} {tl te : TE}
theorem ev_indexD {to : TE} {ta : TA} {ns : List Nat} {n j : Nat} (ho : EvD to σ G (.list (natsD ns))) (ha : EvA ta σ G [.int (n : Int)]) (hj : ns.idxOf n = j) (hm : n ∈ ns) : Ev (tBM K "list" (rIndex K) to ta) σ G (.int (j : Int)) := fun H1 e Q q =>
  ho H1 e _ fun v H2 e2 hd => by
    obtain ⟨a, xs, rfl, hx, al⟩ := dx_lst hd
    obtain rfl := dx_nats al
    have hl := nw_val hx
    refine ⟨.inl ⟨rfl, _, sq_of hl⟩, ha H2 (e.trans e2) _ fun H3 e3 => ?_⟩
    exact ev_index (G := H3) (to := tC (.ref a)) (ta := tCons (tC (.int (n : Int))) tNil) (σ := []) ev_c (ea_cons ev_c ea_nil) (e3 _ _ hl) hj hm H3 (Ex.refl _) Q (fun H4 e4 => q H4 ((e2.trans e3).trans e4)) |>.2
theorem ed_lot {p : Plan} (h : EvD te σ G (lotD p)) {i : Nat} {d : PyData} (hd : [PyData.int (p.s : Nat), .list (natsD p.near), .list (natsD p.far)][i]? = some d) : EvD (tOp (rIxT K) te (tC (.int (i : Nat)))) σ G d := ed_ixT h ev_c hd
end
def spLawSign (K : PySem.W.Frag) : Sp := fun vs H Q _ => ∃ G mv lv rv, ∃ p : Plan, ∃ os : List Nat, ∃ h : Nat, ∃ b : Bool, vs = [mv, lv, .int h, rv] ∧ Ex G H ∧ Dx G mv (modelD p.ns p.rs) ∧ Dx G lv (lotD p) ∧ PlanOk p ∧ Dx G rv (seqD b (natsD os)) ∧ os.length ≤ 1000 ∧ (∀ o ∈ os, o < p.many) ∧ h ∈ os ∧ RetD (markD (markF p os h)) G H Q
abbrev N_law_sign : List Str := ["_law_model_here", "_law_lot_here", "_law_who", "_law_row", "_law_places", "_law_heard", "_law_end", "_law_mate"]
theorem sc_law_sign : FnScope N_law_sign ["_law_model_here", "_law_lot_here", "_law_who", "_law_row"] (defScope (topS 82)) := ⟨rfl, rfl, rfl, by decide +kernel, rfl, by decide +kernel, by decide +kernel⟩
theorem dn_law_sign (T : Txt K mg) (D_law_run : Dn P w K mg base 1 "_law_run" ["_law_model_here", "_law_begin", "_law_places"] spLawRun) : Dn P w K mg base 2 "_law_sign" ["_law_model_here", "_law_lot_here", "_law_who", "_law_row"] (spLawSign K) := by
  refine dn_of T.f_law_sign sc_law_sign (fun _ _ _ _ _ _ us hl => match us, hl with | [_, _, _, _], _ => rfl) (by rintro vs H Q E ⟨a, b, c, d, e, f, g, h, rfl, _⟩; rfl) (fun f cdv A outer s H vs Q E hr h => ?_)
  have nd := sc_law_sign.nd
  refine ⟨_, (pss_cons (ps_set (i := 4) nd rfl (.inr rfl) (pe_op op_cat (pe_ix (ix_tupK K rfl) (pv 1) pe_int (fun _ _ => rfl)) (pe_ix (ix_tupK K rfl) (pv 1) pe_int (fun _ _ => rfl))))
      (pss_cons (ps_asg (pe_fn D_law_run hr (by decide) (by rfl) (pa_cons (pv 0) (pa_cons (pe_ix (ix_tupK K rfl) (pv 1) pe_int (fun _ _ => rfl)) (pa_cons (pe_lc (own := [("_law_mate", 7)]) (by rfl) nd (pi_seqK K rfl (pv 3)) (blkOk_by (own := [("_law_mate", 7)]) (N := N_law_sign) (sc := (defScope (topS 82))) (by decide +kernel)) (fun _ _ _ _ _ => (pg_name (i := 7) nd rfl (by first | exact Or.inl rfl | exact Or.inr rfl))) (fun _ _ _ _ _ => pts_nil) (fun _ _ _ _ _ => (pe_ix (ix_listK K rfl) (pv 4) (pv 7) (fun _ _ => rfl)))) pa_nil)))) (pg_tupK K rfl 2 (by rfl) (pgs_cons (pg_name (i := 5) nd rfl (by first | exact Or.inl rfl | exact Or.inr rfl)) (pgs_cons (pg_name (i := 6) nd rfl (by first | exact Or.inl rfl | exact Or.inr rfl)) pgs_nil))))
      (pss_one (ps_ret (pe_tup (pa_cons (pe_ix (ix_listK K rfl) (pv 5) (pe_bmK K rfl PySem.F.plainAttrs_list PySem.F.slot_list_index PySem.F.type_list_index (mt_indexK K rfl) (pe_callTy (call_listK K rfl) (by rfl) T.z_list (by decide +kernel) (pa_cons (pv 3) pa_nil)) (pa_cons (pv 2) pa_nil)) (fun _ _ => rfl)) (pa_cons (pv 6) pa_nil))))))), ?_⟩
  obtain ⟨G, mv, lv, rv, p, os, h', b, rfl, eG, hm, hl, ok, hr', hz, hos, hmem, q⟩ := h
  refine q_asgP (G := G) (P := fun v H => Dx H v (.list (natsD p.near ++ natsD p.far))) (ed_catL (ed_lot (i := 1) (ed_ev (ev_var rfl) hl) rfl) (ed_lot (i := 2) (ed_ev (ev_var rfl) hl) rfl) ?_) eG fun pv H1 e1 hp => ?_
  · rw [natsD_len, natsD_len]
    have := ok.le
    omega
  have g1 := eG.trans e1
  have b0 : Ex G (Nw G H H1) := nw_base g1
  have eap : natsD p.near ++ natsD p.far = natsD (p.near ++ p.far) := (List.map_append ..).symm
  rw [eap] at hp
  have hm1 := hm.ex b0
  have hl1 := hl.ex b0
  have hr1 := hr'.ex b0
  obtain ⟨lr, xr, rfl, hxr, alr⟩ := dx_seq (K := K) hr1
  obtain rfl := dx_nats alr
  refine q_pair (G := Nw G H H1) (c := .list ((runF p.rs p.s (p.places os)).1.map .int)) (d := .int ((runF p.rs p.s (p.places os)).2 : Int)) (ep_callAs (R := consP (fun v H => Dx H v (modelD p.ns p.rs)) (consP (fun v _ => v = .int (p.s : Nat)) (consP (fun v H => Dx H v (.list (natsD (p.places os)))) nilP))) up_dx (eas_cons up_dx (up_consP up_s (up_consP up_dx up_nilP)) (ed_ev (ev_var rfl) hm1) (eas_cons up_s (up_consP up_dx up_nilP) (ep_ev (ev_ed (ed_lot (i := 0) (ed_ev (ev_var rfl) hl1) rfl)) fun _ _ => rfl) (eas_cons up_dx up_nilP (ed_lp (lp_seq (fun _ => true) (fun i v _ => v = .int ((p.near ++ p.far).getD (os.getD i 0) 0 : Nat)) (fun _ => up_s) (ev_var rfl) hxr (by rw [natsV_len]; omega) fun i x hi => turn_name (fun _ => rfl) (ep_ev (ev_ed (ed_ixL (ds := natsD (p.near ++ p.far)) (i := os.getD i 0) (ed_ev (ev_var rfl) hp) (ev_is (ev_var rfl) ?_) ?_)) fun _ _ => rfl)) fun ys h al2 => ?_) eas_nil))) fun G' H5 vs eg eg2 hvs Q r => ?_) nw_sub fun hv ev H2 e2 hh he => ?_
  · obtain ⟨n, hn, rfl⟩ := at_natsV hi
    rw [List.getD_eq_getElem?_getD, hn] <;> rfl
  · obtain ⟨n, hn, rfl⟩ := at_natsV hi
    have en : os.getD i 0 = n := by rw [List.getD_eq_getElem?_getD, hn, Option.getD_some]
    rw [en]
    have hn2 : n < (p.near ++ p.far).length := by
      rw [List.length_append]
      exact hos n (List.mem_of_getElem? hn)
    unfold natsD
    rw [List.getElem?_map, List.getD_eq_getElem?_getD, List.getElem?_eq_getElem hn2] <;> rfl
  · exact pick_dx (G := G) (natsV_len os) al2
  · obtain ⟨v1, r1, rfl, h1, v2, r2, rfl, rfl, v3, r3, rfl, h3, rfl⟩ := hvs
    exact ⟨G', v1, v3, p.ns, p.rs, p.s, p.places os, rfl, eg2, h1, h3, ok.rows, ok.st, Plan.places_lt ok hos, by unfold Plan.places; rw [List.length_map]; exact hz, r⟩
  · have b1 : Ex (Nw G H H1) (Nw (Nw G H H1) H1 H2) := nw_base (nw_sub.trans e2)
    refine s_retU2 (G := Nw G H H1) (H0 := H1) (P := fun v H => Dx H v (markD (markF p os h'))) (ed_tup (ed_cons (ed_ixL (i := os.idxOf h') (ed_ev (ev_var rfl) hh) (ev_indexD (ed_listS (b := b) (ed_ev (ev_var rfl) (hr1.ex b1))) (ea_cons (ev_var rfl) ea_nil) rfl hmem) ?_) (ed_cons (ed_ev (ev_var rfl) he) ed_nil)) (by show 2 ≤ 100000; decide)) up_dx e2 ?_
    · have hlt : os.idxOf h' < (runF p.rs p.s (p.places os)).1.length := by
        rw [runF_len]
        unfold Plan.places
        rw [List.length_map]
        exact List.idxOf_lt_length_of_mem hmem
      rw [List.getElem?_map, List.getElem?_eq_getElem hlt]
      show some (PyData.int _) = some (PyData.int _)
      unfold markF
      rw [List.getD_eq_getElem?_getD, List.getElem?_eq_getElem hlt] <;> rfl
    · exact fun v H3 e3 hv => q v H3 (e1.trans e3) (hv.ex (nw_call e1))
end
end SF
set_option Elab.async false
set_option linter.all false
set_option maxRecDepth 100000
set_option maxHeartbeats 4000000
namespace SF
open PySem PySem.Spec PyProof.Rows L2 Evl
section
variable {P : Program} {w : World} {K : PySem.W.Frag} {mg : Str → Option Value} {base : Heap}

theorem order_one {n : Nat} {d : PyData} : orderD n (.list [d]) = belowD n d := by
  unfold orderD okDs
  show (true && ((!(false || !(belowD n d && true))) && decide ([intOf d].Nodup))) = _
  rw [decide_eq_true (by simp : [intOf d].Nodup), Bool.and_true, Bool.true_and, Bool.and_true, Bool.false_or, Bool.not_not]
section
variable {K : PySem.W.Frag} {σ : L2.St} {G H : Hp} {tl te : TE}
theorem q_asgV {D : Ends} {tz : TS} {v : V} {i : Nat} (hv : Ev te σ H v) (k : ∀ H1, Ex H H1 → tz D (σ.set i (some v)) H1) : tSeq (tAsg te (gName i)) tz D σ H := hv H (Ex.refl H) _ k
theorem ev_lotLen1 {p : Plan} (h : EvD te σ G (lotD p)) : Ev (tCB (rLenS K) (tCons (tOp (rIxT K) te (tC (.int (1 : Nat)))) tNil)) σ G (.int (p.near.length : Nat)) := by
  have := ev_lenD (K := K) (ed_lot (K := K) (i := 1) h rfl)
  rwa [natsD_len] at this
theorem ev_lotLen2 {p : Plan} (h : EvD te σ G (lotD p)) : Ev (tCB (rLenS K) (tCons (tOp (rIxT K) te (tC (.int (2 : Nat)))) tNil)) σ G (.int (p.far.length : Nat)) := by
  have := ev_lenD (K := K) (ed_lot (K := K) (i := 2) h rfl)
  rwa [natsD_len] at this
end
def spLawIsBlot (K : PySem.W.Frag) : Sp := fun vs H Q _ => ∃ mv lv v o, ∃ p : Plan, vs = [mv, lv, v] ∧ Dx H mv (modelD p.ns p.rs) ∧ Dx H lv (lotD p) ∧ PlanOk p ∧ ItAt K v o H ∧ smO o ∧ RetV (.bl (blotO p o)) H Q
abbrev N_law_is_blot : List Str := ["_law_model_here", "_law_lot_here", "_law_item", "_law_many", "_law_who", "_law_near", "_law_far"]
theorem sc_law_is_blot : FnScope N_law_is_blot ["_law_model_here", "_law_lot_here", "_law_item"] (defScope (topS 83)) := ⟨rfl, rfl, rfl, by decide +kernel, rfl, by decide +kernel, by decide +kernel⟩
theorem dn_law_is_blot (T : Txt K mg) (D_law_is_row : Dn P w K mg base 1 "_law_is_row" ["_law_item", "_law_many"] spLawRow) (D_law_sign : Dn P w K mg base 2 "_law_sign" ["_law_model_here", "_law_lot_here", "_law_who", "_law_row"] (spLawSign K)) : Dn P w K mg base 3 "_law_is_blot" ["_law_model_here", "_law_lot_here", "_law_item"] (spLawIsBlot K) := by
  refine dn_of T.f_law_is_blot sc_law_is_blot (fun _ _ _ _ _ _ us hl => match us, hl with | [_, _, _], _ => rfl) (by rintro vs H Q E ⟨a, b, c, d, e, rfl, _⟩; rfl) (fun f cdv A outer s H vs Q E hr h => ?_)
  have nd := sc_law_is_blot.nd
  refine ⟨_, (pss_cons (ps_set (i := 3) nd rfl (.inl rfl) (pe_op op_add (pe_callB (call_lenK K rfl) (by rfl) T.z_len (by decide +kernel) (pa_cons (pe_ix (ix_tupK K rfl) (pv 1) pe_int (fun _ _ => rfl)) pa_nil)) (pe_callB (call_lenK K rfl) (by rfl) T.z_len (by decide +kernel) (pa_cons (pe_ix (ix_tupK K rfl) (pv 1) pe_int (fun _ _ => rfl)) pa_nil))))
      (pss_cons (ps_if (PW.pt (pw_or (pt_not (pt_val (pe_callB (call_isiK' K rfl) (by rfl) T.z_isinstance (by decide +kernel) (pa_cons (pv 2) (pa_cons (pe_ty "tuple" (by rfl) T.z_tuple (by decide +kernel)) pa_nil))))) (pw_or (pt_cmpR op_ne (pe_callB (call_lenK K rfl) (by rfl) T.z_len (by decide +kernel) (pa_cons (pv 2) pa_nil)) pe_int (nomark _)) (pw_or1 (pt_not (pt_val (pe_fn D_law_is_row hr (by decide) (by rfl) (pa_cons (pe_lst (pa_cons (pe_ix (ix_tupK K rfl) (pv 2) pe_int (fun _ _ => rfl)) pa_nil)) (pa_cons (pv 3) pa_nil))))))))) (pss_one (ps_ret pe_bl)) pss_nil)
      (pss_cons (ps_asg (pv 2) (pg_tupK K rfl 3 (by rfl) (pgs_cons (pg_name (i := 4) nd rfl (by first | exact Or.inl rfl | exact Or.inr rfl)) (pgs_cons (pg_name (i := 5) nd rfl (by first | exact Or.inl rfl | exact Or.inr rfl)) (pgs_cons (pg_name (i := 6) nd rfl (by first | exact Or.inl rfl | exact Or.inr rfl)) pgs_nil)))))
      (pss_cons (ps_if (PW.pt (pw_or (pt_not (pt_val (pe_fn D_law_is_row hr (by decide) (by rfl) (pa_cons (pv 5) (pa_cons (pv 3) pa_nil))))) (pw_or (pt_not (pt_val (pe_fn D_law_is_row hr (by decide) (by rfl) (pa_cons (pv 6) (pa_cons (pv 3) pa_nil))))) (pw_or (pt_cmpR (op_ninK K rfl) (pv 4) (pv 5) (by rfl)) (pw_or1 (pt_cmpR (op_ninK K rfl) (pv 4) (pv 6) (by rfl))))))) (pss_one (ps_ret pe_bl)) pss_nil)
      (pss_cons (ps_if (PW.pt (pw_or (pt_cmpR op_ge (pe_ix (ix_seqK K rfl) (pv 5) pe_int (fun _ _ => rfl)) (pe_callB (call_lenK K rfl) (by rfl) T.z_len (by decide +kernel) (pa_cons (pe_ix (ix_tupK K rfl) (pv 1) pe_int (fun _ _ => rfl)) pa_nil)) (nomark _)) (pw_or1 (pt_cmpR op_lt (pe_ix (ix_seqK K rfl) (pv 6) pe_int (fun _ _ => rfl)) (pe_callB (call_lenK K rfl) (by rfl) T.z_len (by decide +kernel) (pa_cons (pe_ix (ix_tupK K rfl) (pv 1) pe_int (fun _ _ => rfl)) pa_nil)) (nomark _))))) (pss_one (ps_ret pe_bl)) pss_nil)
      (pss_one (ps_ret (pe_cmpR (op_eqDK K rfl hr) (pe_fn D_law_sign hr (by decide) (by rfl) (pa_cons (pv 0) (pa_cons (pv 1) (pa_cons (pv 4) (pa_cons (pv 5) pa_nil))))) (pe_fn D_law_sign hr (by decide) (by rfl) (pa_cons (pv 0) (pa_cons (pv 1) (pa_cons (pv 4) (pa_cons (pv 6) pa_nil))))) (nomark _))))))))), ?_⟩
  obtain ⟨mv, lv, v, o, p, rfl, hm, hl, ok, hd, hz, q⟩ := h
  have emany : (p.near.length : Int) + (p.far.length : Int) = (p.many : Nat) := by unfold Plan.many; omega
  refine q_asgV (v := .int (p.many : Nat)) (ev_op (ev_lotLen1 (ed_ev (ev_var rfl) hl)) (ev_lotLen2 (ed_ev (ev_var rfl) hl)) (rv_b (congrArg V.int emany))) fun H0 e0 => ?_
  cases o with
  | none =>
    obtain ⟨c, p', rfl, l2, _⟩ := hd
    obtain ⟨dx, t, f, g, pq, ha, _⟩ := id (l2.ex e0)
    refine q_when (b := true) (et_or' (a := true) (b := true) (et_is (et_not (et_B (ev_isTup (ev_var rfl) ha T.c_Layout T.o_class T.o_get T.o_tak T.o_mro T.k_Layout_tuple))) rfl) (fun z => Bool.noConfusion z) rfl) (fun _ H1 e1 => ?_) (fun hf => Bool.noConfusion hf)
    exact s_ret ev_c fun H2 e2 => q _ ((e0.trans e1).trans e2)
  | some d =>
    have hd : Dx H v d := hd
    have qd : RetV (.bl (blotD p d)) H Q := q
    have hd0 := hd.ex e0
    by_cases ht : isTu d = true
    · obtain ⟨ds, rfl⟩ := is_tuD d ht
      obtain ⟨lx, xs, rfl, hx, al⟩ := dx_tup hd0
      have hln := al.length
      by_cases h3 : ds.length = 3
      · obtain ⟨dh, da, db, rfl⟩ := len3 h3
        have hza : lenD da ≤ 1000 := hz.2 da (by simp [seqOf])
        have hzb : lenD db ≤ 1000 := hz.2 db (by simp [seqOf])
        refine q_when (b := !(belowD p.many dh)) (et_or' (a := false) (et_is (et_not (et_B (ev_tuple (ev_var rfl) hd0))) rfl) (fun _ => et_or' (a := false) (et_is (et_test (ev_op (ev_lenT (ev_var rfl) hx) ev_c (rv_ne rfl))) (by rw [hln] <;> rfl)) (fun _ => et_not (et_B (ev_fnD (ed_cons (ed_lst (ds := [dh]) (ed_cons (ed_ixT (i := 0) (d := dh) (ed_ev (ev_var rfl) hd0) ev_c rfl) ed_nil) (by show 1 ≤ 100000; decide)) (ed_cons (d := .int (p.many : Int)) (ed_ev (ev_var rfl) (.int _)) ed_nil)) ?_))) rfl) rfl) (fun hc H1 e1 => ?_) (fun hc H1 e1 => ?_)
        · intro G' H1 vs eg eg2 hvs Q r
          cases hvs with
          | cons h1 t1 =>
            cases t1 with
            | cons h2 t2 =>
              cases t2
              cases dx_int h2
              exact ⟨_, _, p.many, rfl, h1.ex eg2, by show 1 ≤ 1000; decide, by rw [order_one]; exact r⟩
        · refine s_ret ev_c fun H2 e2 => ?_
          have e : blotD p (.tuple [dh, da, db]) = false := by
            show (belowD p.many dh && blot3 p dh da db) = false
            rw [nb_of hc, Bool.false_and]
          rw [e] at qd
          exact qd _ ((e0.trans e1).trans e2)
        · have hb : belowD p.many dh = true := by simpa using hc
          obtain ⟨eh, hlt⟩ := below_nat hb
          have eB : blotD p (.tuple [dh, da, db]) = blot3 p dh da db := by
            show (belowD p.many dh && blot3 p dh da db) = _
            rw [hb, Bool.true_and]
          rw [eB] at qd
          refine q_trip (G := H1) (c := dh) (d := da) (e := db) (ed_ev (ev_var rfl) (hd0.ex e1)) (Ex.refl _) fun vh va vb H2 e2 hvh hva hvb => ?_
          have hvh := hvh.ex nw_sub
          have hva := hva.ex nw_sub
          have hvb := hvb.ex nw_sub
          have g2 := (e0.trans e1).trans e2
          rw [eh] at hvh
          cases dx_int hvh
          refine q_when (b := !(orderD p.many da) || (!(orderD p.many db) || (!(decide (natOf dh ∈ natsF da)) || !(decide (natOf dh ∈ natsF db)))))
            (et_or (et_not (et_B (ev_fn (ea_cons (ev_var rfl) (ea_cons (ev_var rfl) ea_nil)) fun H3 e Q E r => ⟨va, da, p.many, rfl, hva.ex e, hza, r⟩))) fun z1 => et_or (et_not (et_B (ev_fn (ea_cons (ev_var rfl) (ea_cons (ev_var rfl) ea_nil)) fun H3 e Q E r => ⟨vb, db, p.many, rfl, hvb.ex e, hzb, r⟩)))
              fun z2 => ?_) (fun hc H3 e3 => ?_) (fun hc H3 e3 => ?_)
          · obtain ⟨b1, ea, _, _, _⟩ := order_yes (by simpa using z1)
            obtain ⟨b2, eb, _, _, _⟩ := order_yes (by simpa using z2)
            rw [ea] at hva
            rw [eb] at hvb
            exact et_or (et_test (ev_ninN (ev_var rfl) (ev_var rfl) hva)) fun _ => et_test (ev_ninN (ev_var rfl) (ev_var rfl) hvb)
          · refine s_ret ev_c fun H4 e4 => ?_
            have e : blot3 p dh da db = false := by
              unfold blot3
              rw [hc] <;> rfl
            rw [e] at qd
            exact qd _ ((g2.trans e3).trans e4)
          · have hc0 := hc
            simp only [Bool.or_eq_false_iff] at hc
            obtain ⟨z1, z2, z3, z4⟩ := hc
            obtain ⟨b1, ea, nea, nda, lta⟩ := order_yes (by simpa using z1)
            obtain ⟨b2, eb, neb, ndb, ltb⟩ := order_yes (by simpa using z2)
            have ma : natOf dh ∈ natsF da := by simpa using z3
            have mb : natOf dh ∈ natsF db := by simpa using z4
            have g3 := g2.trans e3
            have hm3 := hm.ex g3
            have hl3 := hl.ex g3
            have hva3 := hva.ex e3
            have hvb3 := hvb.ex e3
            have hza' : (natsF da).length ≤ 1000 := by
              have e : (natsF da).length = lenD da := by
                unfold natsF
                rw [List.length_map]
                cases da <;> rfl
              rw [e]; exact hza
            have hzb' : (natsF db).length ≤ 1000 := by
              have e : (natsF db).length = lenD db := by
                unfold natsF
                rw [List.length_map]
                cases db <;> rfl
              rw [e]; exact hzb
            have first : ∀ {os : List Nat}, os ≠ [] → (natsD os)[0]? = some (.int (os.getD 0 0 : Nat)) := fun {os} ne => by
              cases os with
              | nil => exact absurd rfl ne
              | cons x r => rfl
            generalize hoa : natsF da = oa at *
            generalize hob : natsF db = ob at *
            rw [ea] at hva3
            rw [eb] at hvb3
            have eqB : blot3 p dh da db = (!(!(decide (oa.getD 0 0 < p.near.length)) || decide (ob.getD 0 0 < p.near.length)) && decide (markF p oa (natOf dh) = markF p ob (natOf dh))) := by
              unfold blot3
              rw [hoa, hob, hc0] <;> rfl
            rw [eqB] at qd
            refine q_when (b := !(decide (oa.getD 0 0 < p.near.length)) || decide (ob.getD 0 0 < p.near.length))
              (et_or (et_test (ev_op (x := .int (oa.getD 0 0 : Nat)) (y := .int (p.near.length : Nat)) (ev_ed (ed_ixS (b := b1) (i := 0) (ed_ev (ev_var rfl) hva3) ev_c (first nea))) (ev_lotLen1 (ed_ev (ev_var rfl) hl3)) (rv_b ?_)))
                fun _ => et_test (ev_op (x := .int (ob.getD 0 0 : Nat)) (y := .int (p.near.length : Nat)) (ev_ed (ed_ixS (b := b2) (i := 0) (ed_ev (ev_var rfl) hvb3) ev_c (first neb))) (ev_lotLen1 (ed_ev (ev_var rfl) hl3)) (rv_b ?_))) (fun hc H4 e4 => ?_) (fun hc H4 e4 => ?_)
            · by_cases u : oa.getD 0 0 < p.near.length
              · rw [decide_eq_true u]
                exact congrArg V.bl (decide_eq_false (by omega))
              · rw [decide_eq_false u]
                exact congrArg V.bl (decide_eq_true (by omega))
            · exact congrArg V.bl (decide_eq_decide.mpr (by omega))
            · refine s_ret ev_c fun H5 e5 => ?_
              rw [hc] at qd
              exact qd _ ((g3.trans e4).trans e5)
            · have hm4 := hm3.ex e4
              have hl4 := hl3.ex e4
              have hva4 := hva3.ex e4
              have hvb4 := hvb3.ex e4
              rw [hc] at qd
              refine s_ret (ev_is (ev_eqD (c := markD (markF p oa (natOf dh))) (d := markD (markF p ob (natOf dh)))
                (ep_call up_dx (ea_cons (ev_var rfl) (ea_cons (ev_var rfl) (ea_cons (ev_var rfl) (ea_cons (ev_var rfl) ea_nil)))) fun H5 e Q r => ⟨H4, mv, lv, va, p, oa, natOf dh, b1, rfl, e, hm4, hl4, ok, hva4, hza', lta, ma, r⟩)
                (ep_call up_dx (ea_cons (ev_var rfl) (ea_cons (ev_var rfl) (ea_cons (ev_var rfl) (ea_cons (ev_var rfl) ea_nil)))) fun H5 e Q r => ⟨H4, mv, lv, vb, p, ob, natOf dh, b2, rfl, e, hm4, hl4, ok, hvb4, hzb', ltb, mb, r⟩)
                (fun H v => dp_mark) (fun H v => dp_mark) rfl rfl) ?_) fun H5 e5 => qd _ ((g3.trans e4).trans e5)
              rw [eqv_mark]
              rfl
      · refine q_when (b := true) (et_or' (a := false) (et_is (et_not (et_B (ev_tuple (ev_var rfl) hd0))) rfl) (fun _ => et_or' (a := true) (b := true) (et_is (et_test (ev_op (ev_lenT (ev_var rfl) hx) ev_c (rv_ne rfl))) ?_) (fun z => Bool.noConfusion z) rfl) rfl) (fun _ H1 e1 => ?_) (fun hf => Bool.noConfusion hf)
        · rw [hln]
          refine bn_of (decide_eq_false fun z => h3 ?_)
          have := V.int.inj z
          omega
        · rw [blot_ne3 h3] at qd
          exact s_ret ev_c fun H2 e2 => qd _ ((e0.trans e1).trans e2)
    · have ht2 : isTu d = false := Bool.eq_false_iff.mpr ht
      rw [blot_notT ht2] at qd
      refine q_when (b := true) (et_or' (a := true) (b := true) (et_is (et_not (et_B (ev_tuple (ev_var rfl) hd0))) (by rw [ht2] <;> rfl)) (fun z => Bool.noConfusion z) rfl) (fun _ H1 e1 => ?_) (fun hf => Bool.noConfusion hf)
      exact s_ret ev_c fun H2 e2 => qd _ ((e0.trans e1).trans e2)
end
end SF
set_option Elab.async false
set_option linter.all false
set_option maxRecDepth 100000
set_option maxHeartbeats 4000000
namespace SF
open PySem PySem.Spec PyProof.Rows L2 Evl
section
variable {P : Program} {w : World} {K : PySem.W.Frag} {mg : Str → Option Value} {base : Heap}

def extF (n : Nat) (r : List Nat) : List (List Nat) := (ixs n fun w => !(decide (w ∈ r))).map fun w => r ++ [w]
def levF (n : Nat) : Nat → List (List Nat)
  | 0 => [[]]
  | i + 1 => (levF n i).flatMap (extF n)
def fndF (n : Nat) : Nat → List (List Nat)
  | 0 => []
  | i + 1 => fndF n i ++ levF n (i + 1)
def okLev (n i : Nat) : Bool := decide ((levF n i).length ≤ 100) && (decide ((fndF n i).length ≤ 100) && ((levF n i).all (fun r => decide (r.length ≤ 5)) && ((fndF n i).all (fun r => decide (r.length ≤ 5) && r.all fun x => decide (x < n)) && (!(decide (0 < n) && decide (0 < i)) || !(fndF n i).isEmpty))))
theorem lev_ok : ((List.range 5).all fun n => (List.range 5).all fun i => okLev n i) = true := by decide +kernel
theorem lev_small (n : Nat) (hn : n < 5) (i : Nat) (hi : i < 5) : (levF n i).length ≤ 100 ∧ (fndF n i).length ≤ 100 ∧ (∀ r ∈ levF n i, r.length ≤ 5) ∧ (∀ r ∈ fndF n i, r.length ≤ 5 ∧ ∀ x ∈ r, x < n) ∧ (0 < n → 0 < i → fndF n i ≠ []) := by
  have h := List.all_eq_true.mp (List.all_eq_true.mp lev_ok n (List.mem_range.mpr hn)) i (List.mem_range.mpr hi)
  unfold okLev at h
  rw [Bool.and_eq_true, Bool.and_eq_true, Bool.and_eq_true, Bool.and_eq_true] at h
  obtain ⟨a, b, c, d, e⟩ := h
  refine ⟨of_decide_eq_true a, of_decide_eq_true b, fun r hr => of_decide_eq_true (List.all_eq_true.mp c r hr), fun r hr => ?_, fun h1 h2 z => ?_⟩
  · have := List.all_eq_true.mp d r hr
    rw [Bool.and_eq_true] at this
    exact ⟨of_decide_eq_true this.1, fun x hx => of_decide_eq_true (List.all_eq_true.mp this.2 x hx)⟩
  · rw [z, decide_eq_true h1, decide_eq_true h2] at e
    cases e
def rowD1 (r : List Nat) : PyData := .list (natsD r)
def RowsIn (n : Nat) : PV := fun v H => ∃ F : List (List Nat), Dx H v (.list (F.map rowD1)) ∧ F ≠ [] ∧ F.length ≤ 100 ∧ ∀ r ∈ F, r.length ≤ 5 ∧ ∀ x ∈ r, x < n
theorem up_rowsIn {n : Nat} : Up (RowsIn n) := fun _ _ _ e ⟨F, h1, h2⟩ => ⟨F, h1.ex e, h2⟩
section
variable {B G H H' H'' : Hp} {l : Addr} {o : HO}
theorem vis_upd (h : Ex B (Nw G H H')) (hb : B l = none) : Ex B (Nw G H (upd H' l o)) := fun b v q => by
  have nb : b ≠ l := fun z => by rw [z, hb] at q; cases q
  have q2 := h b v q
  rcases nw_cases G H H' b with w | ⟨w, y⟩
  · rw [w] at q2; cases q2
  · rw [w] at q2
    rcases y with ⟨u, y⟩ | y
    · rw [nw_old y, upd_ne nb]; exact q2
    · rw [nw_free y, upd_ne nb]; exact q2
theorem vis_nw (h : Ex B (Nw G H H')) (e : Ex H H') (e2 : Ex H' H'') : Ex (Nw B H' H'') (Nw G H H'') := fun b v q => by
  rcases nw_cases B H' H'' b with w | ⟨w, y⟩
  · rw [w] at q; cases q
  · rw [w] at q
    rcases y with ⟨u, y⟩ | y
    · have q2 := h b u y
      rcases nw_cases G H H' b with w2 | ⟨w2, y2⟩
      · rw [w2] at q2; cases q2
      · rcases y2 with ⟨u2, y2⟩ | y2
        · rw [nw_old y2]; exact q
        · rw [nw_free y2]; exact q
    · rw [nw_free (fresh_back e y)]; exact q
end
def spLawRows : Sp := fun vs H Q _ => ∃ G, ∃ n : Nat, vs = [.int (n : Nat)] ∧ Ex G H ∧ 1 ≤ n ∧ n ≤ 4 ∧ RetP (RowsIn n) G H Q
abbrev N_law_rows : List Str := ["_law_many", "_law_level", "_law_found", "_law_turn", "_law_longer", "_law_row", "_law_who"]
theorem sc_law_rows : FnScope N_law_rows ["_law_many"] (defScope (topS 80)) := ⟨rfl, rfl, rfl, by decide +kernel, rfl, by decide +kernel, by decide +kernel⟩
theorem dn_law_rows (T : Txt K mg) : Dn P w K mg base 1 "_law_rows" ["_law_many"] spLawRows := by
  refine dn_of T.f_law_rows sc_law_rows (fun _ _ _ _ _ _ us hl => match us, hl with | [_], _ => rfl) (by rintro vs H Q E ⟨a, b, rfl, _⟩; rfl) (fun f cdv A outer s H vs Q E hr h => ?_)
  have nd := sc_law_rows.nd
  refine ⟨_, (pss_cons (ps_par (i := 1) (j := 2) (by rfl) nd rfl rfl (by decide) rfl rfl (pa_cons (pe_lst (pa_cons (pe_lst pa_nil) pa_nil)) (pa_cons (pe_lst pa_nil) pa_nil)) (by rfl))
      (pss_cons (ps_for PassesOwn.never rfl (pi_range1 (by rfl) T.z_range (pa_cons (pv 0) pa_nil)) (pg_name (i := 3) nd rfl (by first | exact Or.inl rfl | exact Or.inr rfl)) (pss_cons (ps_set (i := 4) nd rfl (.inl rfl) (pe_lst pa_nil))
      (pss_cons (ps_for PassesOwn.never rfl (pi_listK K rfl (pv 1)) (pg_name (i := 5) nd rfl (by first | exact Or.inl rfl | exact Or.inr rfl)) (pss_one (ps_expr (pe_bmK K rfl PySem.F.plainAttrs_list PySem.F.slot_list_extend PySem.F.type_list_extend mt_extend (pv 4) (pa_cons (pe_lc (own := [("_law_who", 6)]) (by rfl) nd (pi_range1 (by rfl) T.z_range (pa_cons (pv 0) pa_nil)) (blkOk_by (own := [("_law_who", 6)]) (N := N_law_rows) (sc := (defScope (topS 80))) (by decide +kernel)) (fun _ _ _ _ _ => (pg_name (i := 6) nd rfl (by first | exact Or.inl rfl | exact Or.inr rfl))) (fun _ _ _ _ _ => (pts_one (pt_cmpR (op_ninK K rfl) (pv 6) (pv 5) (by rfl)))) (fun _ _ _ _ _ => (pe_op op_cat (pv 5) (pe_lst (pa_cons (pv 6) pa_nil))))) pa_nil)))))
      (pss_cons (ps_expr (pe_bmK K rfl PySem.F.plainAttrs_list PySem.F.slot_list_extend PySem.F.type_list_extend mt_extend (pv 2) (pa_cons (pv 4) pa_nil)))
      (pss_one (ps_set (i := 1) nd rfl (.inl rfl) (pv 4)))))))
      (pss_one (ps_ret (pv 2))))), ?_⟩
  obtain ⟨G, n, rfl, eG, h1, h4, q⟩ := h
  refine go_par (go_cons (go_lst (go_cons (go_lst (go_nil ⟨Nat.zero_le _, fun l0 hl0 => go_nil ⟨by show 1 ≤ sizeLine; decide, fun lv hlv => go_cons (go_lst (go_nil ⟨Nat.zero_le _, fun lf hlf => go_nil ⟨_, _, rfl, ?_⟩⟩))⟩⟩)))))
  have ea := Ex.new (o := .lst []) hl0
  have eb := Ex.new (o := .lst [.ref l0]) hlv
  have ec := Ex.new (o := .lst []) hlf
  have h0 : (upd (upd (upd H l0 (.lst [])) lv (.lst [.ref l0])) lf (.lst [])) l0 = some (.lst []) := (eb.trans ec) _ _ upd_same
  have hv0 : (upd (upd (upd H l0 (.lst [])) lv (.lst [.ref l0])) lf (.lst [])) lv = some (.lst [.ref l0]) := ec _ _ upd_same
  have hf0 : (upd (upd (upd H l0 (.lst [])) lv (.lst [.ref l0])) lf (.lst [])) lf = some (.lst []) := upd_same
  have hHv : H lv = none := fresh_back ea hlv
  have hHf : H lf = none := fresh_back (ea.trans eb) hlf
  have n0 : l0 ≠ lf := fun z => by
    have z2 := eb _ _ (upd_same (H := H) (a := l0) (o := .lst []))
    have := hlf
    rw [← z] at this
    rw [this] at z2; cases z2
  have nv : lv ≠ lf := fun z => by
    have z2 := (upd_same (H := upd H l0 (.lst [])) (a := lv) (o := .lst [.ref l0]))
    have := hlf
    rw [← z] at this
    rw [this] at z2; cases z2
  have e0 := (ea.trans eb).trans ec
  generalize upd (upd (upd H l0 (.lst [])) lv (.lst [.ref l0])) lf (.lst []) = H1 at e0 h0 hv0 hf0 ⊢
  refine q_forR1 (ea_cons (ev_var rfl) ea_nil) ⟨by omega, by omega⟩ (fun i σ' H' => ∃ v1 y3 y4 y5 B xs, σ' = [some (.int (n : Nat)), some v1, some (.ref lf), y3, y4, y5, none] ∧ Ex H H' ∧ Ex B (Nw G H H') ∧ B lf = none ∧ H' lf = some (.lst xs) ∧ DxAll B xs ((fndF n i).map rowD1) ∧ Dx B v1 (.list ((levF n i).map rowD1)))
    (fun H2 e2 => ?_) (fun i σ' H' hi pv => ?_) (fun σ' H' pv => ?_)
  · have e02 := e0.trans e2
    refine ⟨.ref lv, none, none, none, hide (Nw G H H2) lf, [], rfl, e02, hide_sub, hide_self, e2 _ _ hf0, .nil, .lst (xs := [.ref l0]) ?_ (.cons (.lst (xs := []) ?_ .nil) .nil)⟩
    · rw [hide_ne nv, nw_free hHv]; exact e2 _ _ hv0
    · rw [hide_ne n0, nw_free hl0]; exact e2 _ _ h0
  · obtain ⟨v1, y3, y4, y5, B, xs, rfl, eH, eB, hBf, hxf, alF, hL⟩ := pv
    have hin : i < n := by omega
    obtain ⟨sL, sF, rL, rF, _⟩ := lev_small n (by omega) i (by omega)
    obtain ⟨sL2, sF2, _, _, _⟩ := lev_small n (by omega) (i + 1) (by omega)
    obtain ⟨lv', ws, rfl, hws, alW⟩ := dx_lst hL
    have lw := alW.length
    rw [List.length_map] at lw
    refine go_asg (go_lst (go_nil ⟨Nat.zero_le _, fun ll hll => ?_⟩))
    have ell := Ex.new (o := .lst []) hll
    have hHl : H ll = none := fresh_back eH hll
    have nlf : ll ≠ lf := fun z => by rw [z, hxf] at hll; cases hll
    have hBl : B ll = none := by
      cases hb : B ll with
      | none => rfl
      | some u =>
        have := nw_sub _ _ (eB _ _ hb)
        rw [hll] at this; cases this
    have hl1 : (upd H' ll (.lst [])) ll = some (.lst []) := upd_same
    have hx1 := ell _ _ hxf
    have eH1 := eH.trans ell
    have eB1 : Ex B (Nw G H (upd H' ll (.lst []))) := eB.trans (nw_up ell)
    generalize upd H' ll (.lst []) = H2 at ell hl1 hx1 eH1 eB1 ⊢
    have eBH2 : Ex B H2 := eB1.trans nw_sub
    refine q_forLn (ev_var rfl) (sq_of (eBH2 _ _ hws)) (fun j σ' H' => ∃ y5 B' ys, σ' = [some (.int (n : Nat)), some (.ref lv'), some (.ref lf), some (.int (i : Nat)), some (.ref ll), y5, none] ∧ Ex H H' ∧ Ex B' (Nw G H H') ∧ Ex B B' ∧ B' lf = none ∧ B' ll = none ∧ H' lf = some (.lst xs) ∧ H' ll = some (.lst ys) ∧ DxAll B' ys ((((levF n i).take j).flatMap (extF n)).map rowD1))
      (fun H3 e3 => ⟨y5, B, [], rfl, eH1.trans e3, eB1.trans (nw_up e3), Ex.refl _, hBf, hBl, e3 _ _ hx1, e3 _ _ hl1, .nil⟩) (fun j σ' H' _ p => let ⟨_, _, _, _, _, e1, e2, _⟩ := p; sq_of ((e1.trans nw_sub) _ _ (e2 _ _ hws))) (fun j x σ' H' hj p => ?_) (fun σ' H' p => ?_)
    · obtain ⟨y5, B', ys, rfl, eH3, eB3, eBB, hBf3, hBl3, hx3, hl3, alM⟩ := p
      obtain ⟨d, hd, hxd⟩ := alW.at' hj
      rw [List.getElem?_map] at hd
      obtain ⟨r, hr1, rfl⟩ := Option.map_eq_some_iff.mp hd
      have hxr : Dx B' x (.list (natsD r)) := hxd.ex eBB
      have rl := rL r (List.mem_of_getElem? hr1)
      have etake : (levF n i).take (j + 1) = (levF n i).take j ++ [r] := by rw [List.take_add_one, hr1] <;> rfl
      have eB3' : Ex B' H' := eB3.trans nw_sub
      have alN := alM.length
      rw [List.length_map] at alN
      have szM : (((levF n i).take (j + 1)).flatMap (extF n)).length ≤ 100 := by
        have e : (levF n i).flatMap (extF n) = ((levF n i).take (j + 1)).flatMap (extF n) ++ ((levF n i).drop (j + 1)).flatMap (extF n) := by
          rw [← List.flatMap_append, List.take_append_drop]
        have e2 : (levF n (i + 1)).length = _ := congrArg List.length e
        rw [List.length_append] at e2
        omega
      have eM : ((levF n i).take (j + 1)).flatMap (extF n) = ((levF n i).take j).flatMap (extF n) ++ extF n r := by
        rw [etake, List.flatMap_append, List.flatMap_singleton]
      rw [eM, List.length_append] at szM
      refine go_drop (go_BM (go_var rfl ⟨.inl ⟨rfl, ys, sq_of hl3⟩, go_cons (go_elp (G := B') (lp_range (n := (n : Nat)) (fun w => !(decide (w ∈ r))) (fun w v h => Dx h v (rowD1 (r ++ [w]))) (fun _ => up_dx) (ea_cons (ev_var rfl) ea_nil) (by omega) (by omega) fun w hw => turn_nameT (fun _ => rfl) (et_test (ev_ninN (b := true) (ev_var rfl) (ev_var rfl) hxr)) up_dx fun _ => ?_) eB3' fun p zs H4 hp e4 hl4 al4 => go_nil ⟨ll, p, ys, zs, rfl, rfl, e4 _ _ hl3, hl4, ?_, ?_⟩)⟩))
      · refine (ed_catL (cs := natsD r) (ds := [.int (w : Nat)]) (ed_ev (ev_var rfl) hxr) (ed_lst (ed_cons (ed_ev (ev_var rfl) (.int _)) ed_nil) (by show 1 ≤ 100000; decide)) ?_).imp fun v h hv => ?_
        · rw [natsD_len]
          show r.length + 1 ≤ 100000
          omega
        · unfold rowD1 natsD
          rw [List.map_append]
          exact hv
      · have lz := al4.length
        have le2 : (extF n r).length = (ixs n fun w => !(decide (w ∈ r))).length := List.length_map _
        rw [Int.toNat_natCast] at lz
        rw [lz, alN]
        exact sz_of (by omega)
      · have al5 := (Al.dx al4).ex hide_sub
        rw [Int.toNat_natCast] at al5
        have hB4l : Nw B' H' H4 ll = none := nw_none hBl3 hl3
        have hB4f : Nw B' H' H4 lf = none := nw_none hBf3 hx3
        have v4 := vis_nw eB3 eH3 e4
        refine ⟨some x, Nw B' H' H4, ys ++ zs, rfl, ?_, vis_upd v4 hB4l, eBB.trans (nw_base (eB3'.trans e4)), hB4f, hB4l, ?_, upd_same, ?_⟩
        · exact Ex.mut (eH3.trans e4) hHl
        · rw [upd_ne (Ne.symm nlf)]; exact e4 _ _ hx3
        · rw [eM, List.map_append]
          refine DxAll.append (alM.ex (nw_base (eB3'.trans e4))) ?_
          unfold extF
          rw [List.map_map]
          exact al5
    · obtain ⟨y5, B', ys, rfl, eH3, eB3, eBB, hBf3, hBl3, hx3, hl3, alM⟩ := p
      rw [lw, List.take_length] at alM
      have alN := alM.length
      have alX := alF.length
      rw [List.length_map] at alN alX
      have alN2 : ys.length = (levF n (i + 1)).length := alN
      refine go_drop (go_BM (go_var rfl ⟨.inl ⟨rfl, xs, sq_of hx3⟩, go_cons (go_var rfl (go_nil ⟨lf, ll, xs, ys, rfl, rfl, hx3, hl3, ?_, ?_⟩))⟩))
      · rw [alN2, alX]
        exact sz_of (by omega)
      · refine s_asg (v := .ref ll) (ev_var rfl) fun H5 e5 => ?_
        have v5 : Ex B' (Nw G H H5) := (vis_upd eB3 hBf3).trans (nw_up e5)
        have vh : Ex B' (hide (Nw G H H5) lf) := fun b v z => by
          have nb : b ≠ lf := fun z2 => by rw [z2, hBf3] at z; cases z
          rw [hide_ne nb]; exact v5 b v z
        refine ⟨.ref ll, some (.int (i : Nat)), some (.ref ll), y5, hide (Nw G H H5) lf, xs ++ ys, rfl, (Ex.mut eH3 hHf).trans e5, hide_sub, hide_self, e5 _ _ upd_same, ?_, .lst (xs := ys) ?_ (alM.ex vh)⟩
        · show DxAll _ _ ((fndF n i ++ levF n (i + 1)).map rowD1)
          rw [List.map_append]
          exact DxAll.append ((alF.ex eBB).ex vh) (alM.ex vh)
        · rw [hide_ne nlf, nw_free hHl]
          exact e5 _ _ (by rw [upd_ne nlf]; exact hl3)
  · obtain ⟨v1, y3, y4, y5, B, xs, rfl, eH, eB, hBf, hxf, alF, hL⟩ := pv
    obtain ⟨sL, sF, rL, rF, ne⟩ := lev_small n (by omega) n (by omega)
    refine s_ret (ev_var rfl) fun H5 e5 => q _ _ (eH.trans e5) ⟨fndF n n, .lst (xs := xs) ?_ (alF.ex (eB.trans (nw_up e5))), ne (by omega) (by omega), sF, rF⟩
    rw [nw_free hHf]
    exact e5 _ _ hxf
end
end SF
set_option Elab.async false
set_option linter.all false
set_option maxRecDepth 100000
set_option maxHeartbeats 4000000
namespace SF
open PySem PySem.Spec PyProof.Rows L2 Evl
section
variable {P : Program} {w : World} {K : PySem.W.Frag} {mg : Str → Option Value} {base : Heap}

def RowOk (n : Nat) (r : List Nat) : Prop := r.length ≤ 5 ∧ ∀ x ∈ r, x < n
def tripD (k : Nat) (r1 r2 : List Nat) : PyData := .tuple [.int (k : Nat), rowD1 r1, rowD1 r2]
def TripOk (n : Nat) (d : PyData) : Prop := ∃ k r1 r2, d = tripD k r1 r2 ∧ k < n ∧ RowOk n r1 ∧ RowOk n r2
abbrev TripP (n : Nat) : PV := fun v H => ∃ d, TripOk n d ∧ Dx H v d
theorem up_trip {n : Nat} : Up (TripP n) := fun _ _ _ e ⟨d, h, h2⟩ => ⟨d, h, h2.ex e⟩
def TripsP (n : Nat) : PV := fun v H => ∃ ds, Dx H v (.list ds) ∧ ds.length ≤ 50000 ∧ ∀ d ∈ ds, TripOk n d
def spLawValues : Sp := fun vs H Q _ => ∃ G a, ∃ n : Nat, vs = [.ref a, .int (n : Nat)] ∧ Ex G H ∧ PotAt a G ∧ 1 ≤ n ∧ n ≤ 4 ∧ RetP (TripsP n) G H Q
/-- the list of found things, while it grows -/
def FInv (G H B0 : Hp) (lf : Addr) (n m : Nat) (H' : Hp) : Prop := ∃ B xs ds, Ex H H' ∧ Ex B (Nw G H H') ∧ Ex B0 B ∧ B lf = none ∧ H' lf = some (.lst xs) ∧ DxAll B xs ds ∧ (∀ d ∈ ds, TripOk n d) ∧ ds.length ≤ m
theorem FInv.wider {G H B0 H' : Hp} {lf : Addr} {n m m' : Nat} (h : FInv G H B0 lf n m H') (hm : m ≤ m') : FInv G H B0 lf n m' H' := by
  obtain ⟨B, xs, ds, h1, h2, h3, h4, h5, h6, h7, h8⟩ := h
  exact ⟨B, xs, ds, h1, h2, h3, h4, h5, h6, h7, by omega⟩
theorem FInv.ex {G H B0 H' H'' : Hp} {lf : Addr} {n m : Nat} (h : FInv G H B0 lf n m H') (e : Ex H' H'') : FInv G H B0 lf n m H'' := by
  obtain ⟨B, xs, ds, h1, h2, h3, h4, h5, h6, h7, h8⟩ := h
  exact ⟨B, xs, ds, h1.trans e, h2.trans (nw_up e), h3, h4, e _ _ h5, h6, h7, h8⟩
theorem FInv.done {G H B0 H' : Hp} {lf : Addr} {n m : Nat} (h : FInv G H B0 lf n m H') (hH : H lf = none) (hm : m ≤ 50000) : TripsP n (.ref lf) (Nw G H H') := by
  obtain ⟨B, xs, ds, h1, h2, h3, h4, h5, h6, h7, h8⟩ := h
  exact ⟨ds, .lst (xs := xs) (by rw [nw_free hH]; exact h5) (h6.ex h2), by omega, h7⟩
abbrev N_law_values : List Str := ["_law_pot_here", "_law_many", "_law_rows_here", "_law_found", "_law_who", "_law_near", "_law_turn", "_law_far"]
theorem sc_law_values : FnScope N_law_values ["_law_pot_here", "_law_many"] (defScope (topS 84)) := ⟨rfl, rfl, rfl, by decide +kernel, rfl, by decide +kernel, by decide +kernel⟩
theorem dn_law_values (T : Txt K mg) (D_law_rows : Dn P w K mg base 1 "_law_rows" ["_law_many"] spLawRows) (D_law_draw : Dn P w K mg base 1 "_law_draw" ["_law_pot_here", "_law_many"] spDraw) (D_law_pick : Dn P w K mg base 2 "_law_pick" ["_law_pot_here", "_law_some"] spPick) : Dn P w K mg base 3 "_law_values" ["_law_pot_here", "_law_many"] spLawValues := by
  refine dn_of T.f_law_values sc_law_values (fun _ _ _ _ _ _ us hl => match us, hl with | [_, _], _ => rfl) (by rintro vs H Q E ⟨a, b, c, rfl, _⟩; rfl) (fun f cdv A outer s H vs Q E hr h => ?_)
  have nd := sc_law_values.nd
  refine ⟨_, (pss_cons (ps_par (i := 2) (j := 3) (by rfl) nd rfl rfl (by decide) rfl rfl (pa_cons (pe_fn D_law_rows hr (by decide) (by rfl) (pa_cons (pv 1) pa_nil)) (pa_cons (pe_lst pa_nil) pa_nil)) (by rfl))
      (pss_cons (ps_if (pt_cmpR op_lt (pv 1) pe_int (nomark _)) (pss_cons (ps_for PassesOwn.never rfl (pi_range1 (by rfl) T.z_range (pa_cons (pv 1) pa_nil)) (pg_name (i := 4) nd rfl (by first | exact Or.inl rfl | exact Or.inr rfl)) (pss_one (ps_for PassesOwn.never rfl (pi_listK K rfl (pv 2)) (pg_name (i := 5) nd rfl (by first | exact Or.inl rfl | exact Or.inr rfl)) (pss_one (ps_expr (pe_bmK K rfl PySem.F.plainAttrs_list PySem.F.slot_list_extend PySem.F.type_list_extend mt_extend (pv 3) (pa_cons (pe_lc (own := [("_law_far", 7)]) (by rfl) nd (pi_listK K rfl (pv 2)) (blkOk_by (own := [("_law_far", 7)]) (N := N_law_values) (sc := (defScope (topS 84))) (by decide +kernel)) (fun _ _ _ _ _ => (pg_name (i := 7) nd rfl (by first | exact Or.inl rfl | exact Or.inr rfl))) (fun _ _ _ _ _ => pts_nil) (fun _ _ _ _ _ => (pe_tup (pa_cons (pv 4) (pa_cons (pv 5) (pa_cons (pv 7) pa_nil)))))) pa_nil)))))))
      (pss_one (ps_ret (pv 3)))) pss_nil)
      (pss_cons (ps_for PassesOwn.never rfl (pi_range1 (by rfl) T.z_range (pa_cons pe_int pa_nil)) (pg_name (i := 6) nd rfl (by first | exact Or.inl rfl | exact Or.inr rfl)) (pss_one (ps_expr (pe_bmK K rfl PySem.F.plainAttrs_list PySem.F.slot_list_append PySem.F.type_list_append mt_append (pv 3) (pa_cons (pe_tup (pa_cons (pe_fn D_law_draw hr (by decide) (by rfl) (pa_cons (pv 0) (pa_cons (pv 1) pa_nil))) (pa_cons (pe_fn D_law_pick hr (by decide) (by rfl) (pa_cons (pv 0) (pa_cons (pv 2) pa_nil))) (pa_cons (pe_fn D_law_pick hr (by decide) (by rfl) (pa_cons (pv 0) (pa_cons (pv 2) pa_nil))) pa_nil)))) pa_nil)))))
      (pss_one (ps_ret (pv 3)))))), ?_⟩
  obtain ⟨G, a, n, rfl, eG, hp, h1, h4, q⟩ := h
  refine go_par (go_cons (go_call (go_cons (go_var rfl (go_nil ⟨G, n, rfl, eG, h1, h4, fun rv H1 e1 hR => go_cons (go_lst (go_nil ⟨Nat.zero_le _, fun lf hlf => go_nil ⟨_, _, rfl, ?_⟩⟩))⟩)))))
  obtain ⟨F, hF, neF, szF, okF⟩ := hR
  have hHf : H lf = none := fresh_back e1 hlf
  obtain ⟨lr, ws, rfl, hws, alR⟩ := dx_lst hF
  have lw := alR.length
  rw [List.length_map] at lw
  have hp0 : PotAt a (Nw G H H1) := nw_base (eG.trans e1) _ _ hp
  have atR : ∀ {i x}, ws[i]? = some x → ∃ r, F[i]? = some r ∧ Dx (Nw G H H1) x (rowD1 r) := fun {i x} hi => by
    obtain ⟨d, hd, hx⟩ := alR.at' hi
    rw [List.getElem?_map] at hd
    obtain ⟨r, hr1, rfl⟩ := Option.map_eq_some_iff.mp hd
    exact ⟨r, hr1, hx⟩
  have f0 : FInv G H (Nw G H H1) lf n 0 (upd H1 lf (.lst [])) := by
    refine ⟨Nw G H H1, [], [], e1.trans (Ex.new hlf), nw_up (Ex.new hlf), Ex.refl _, ?_, upd_same, .nil, fun _ h => (by cases h), Nat.le_refl _⟩
    cases hb : Nw G H H1 lf with
    | none => rfl
    | some u => have := nw_sub _ _ hb; rw [hlf] at this; cases this
  have eB : Ex (Nw G H H1) (upd H1 lf (.lst [])) := nw_sub.trans (Ex.new hlf)
  generalize hB0 : Nw G H H1 = B0 at *
  generalize upd H1 lf (.lst []) = H2 at f0 eB ⊢
  refine q_when (b := decide (n < 4)) (et_test (ev_op (x := .int (n : Nat)) (y := .int 4) (ev_var rfl) ev_c (rv_b (congrArg V.bl (decide_eq_decide.mpr (by omega)))))) (fun hc H3 e3 => ?_) (fun hc H3 e3 => ?_)
  · have f3 := f0.ex e3
    refine q_forR1 (ea_cons (ev_var rfl) ea_nil) ⟨by omega, by omega⟩ (fun i σ' H' => ∃ y4 y5, σ' = [some (.ref a), some (.int (n : Nat)), some (.ref lr), some (.ref lf), y4, y5, none, none] ∧ FInv G H B0 lf n (i * 10000) H')
      (fun H4 e4 => ⟨none, none, rfl, (f3.ex e4).wider (by omega)⟩) (fun i σ' H' hi pv => ?_) (fun σ' H' pv => ?_)
    · obtain ⟨y4, y5, rfl, f4⟩ := pv
      have hin : i < n := by omega
      have eBH : Ex B0 H' := by
        obtain ⟨B, xs, ds, k1, k2, k3, _⟩ := f4
        exact k3.trans (k2.trans nw_sub)
      refine s_forLn (ev_var rfl) (sq_of (eBH _ _ hws)) (fun j σ' H' => ∃ y5, σ' = [some (.ref a), some (.int (n : Nat)), some (.ref lr), some (.ref lf), some (.int (i : Nat)), y5, none, none] ∧ FInv G H B0 lf n (i * 10000 + j * 100) H')
        (fun H5 e5 => ⟨y5, rfl, (f4.ex e5).wider (by omega)⟩) (fun j σ' H' _ p => ?_) (fun j x σ' H' hj p => ?_) (fun σ' H' p => ?_)
      · obtain ⟨_, _, B, xs, ds, k1, k2, k3, _⟩ := p
        exact sq_of ((k3.trans (k2.trans nw_sub)) _ _ hws)
      · obtain ⟨y5, rfl, B, xs, ds, k1, k2, k3, k4, k5, k6, k7, k8⟩ := p
        obtain ⟨r, hr1, hxr⟩ := atR hj
        have hjl : j < F.length := (List.getElem?_eq_some_iff.mp hr1).1
        have eBH' : Ex B H' := k2.trans nw_sub
        have kl := k6.length
        refine go_drop (go_BM (go_var rfl ⟨.inl ⟨rfl, xs, sq_of k5⟩, go_cons (go_elp (G := B) (lp_list (fun _ => true) (fun w v h => Dx h v (tripD i r (F.getD w []))) (fun _ => up_dx) (ev_var rfl) (k3 _ _ hws) (by omega) fun w x2 hw => ?_) eBH' fun p zs H4 hp e4 hl4 al4 => go_nil ⟨lf, p, xs, zs, rfl, rfl, e4 _ _ k5, hl4, ?_, ?_⟩)⟩))
        · obtain ⟨r2, hr2, hx2⟩ := atR hw
          refine turn_name (fun _ => rfl) (ed_tup (ed_cons (ed_ev (ev_var rfl) (.int _)) (ed_cons (ed_ev (ev_var rfl) (hxr.ex k3)) (ed_cons (ed_ev (ev_var rfl) ?_) ed_nil))) (by show 3 ≤ 100000; decide))
          rw [List.getD_eq_getElem?_getD, hr2]
          exact hx2.ex k3
        · have lz := al4.length
          rw [ixs_all, List.length_range] at lz
          rw [lz, kl]
          exact sz_of (by omega)
        · have al5 := (Al.dx al4).ex hide_sub
          have hB4 : Nw B H' H4 lf = none := nw_none k4 k5
          refine ⟨some x, rfl, Nw B H' H4, xs ++ zs, _, Ex.mut (k1.trans e4) hHf, vis_upd (vis_nw k2 k1 e4) hB4, k3.trans (nw_base (eBH'.trans e4)), hB4, upd_same, DxAll.append (k6.ex (nw_base (eBH'.trans e4))) al5, fun d hd => ?_, ?_⟩
          · rcases List.mem_append.mp hd with hd | hd
            · exact k7 d hd
            · obtain ⟨w, hw, rfl⟩ := List.mem_map.mp hd
              rw [ixs_all] at hw
              have hw2 := List.mem_range.mp hw
              have mF : F.getD w [] ∈ F := by
                rw [List.getD_eq_getElem?_getD, List.getElem?_eq_getElem (by omega : w < F.length)]
                exact List.getElem_mem _
              exact ⟨i, r, _, rfl, hin, okF r (List.mem_of_getElem? hr1), okF _ mF⟩
          · rw [List.length_append, List.length_map, ixs_all, List.length_range]
            omega
      · obtain ⟨y5, rfl, f5⟩ := p
        exact ⟨_, _, rfl, f5.wider (by omega)⟩
    · obtain ⟨y4, y5, rfl, f4⟩ := pv
      refine s_ret (ev_var rfl) fun H5 e5 => ?_
      have f5 := f4.ex e5
      have e5' : Ex H H5 := by obtain ⟨B, xs, ds, k1, _⟩ := f5; exact k1
      exact q _ _ e5' (f5.done hHf (by omega))
  · have f3 := f0.ex e3
    refine q_forR1 (n := 400) (ea_cons ev_c ea_nil) ⟨by omega, by omega⟩ (fun i σ' H' => ∃ y6, σ' = [some (.ref a), some (.int (n : Nat)), some (.ref lr), some (.ref lf), none, none, y6, none] ∧ FInv G H B0 lf n i H')
      (fun H4 e4 => ⟨none, rfl, f3.ex e4⟩) (fun i σ' H' hi pv => ?_) (fun σ' H' pv => ?_)
    · obtain ⟨y6, rfl, B, xs, ds, k1, k2, k3, k4, k5, k6, k7, k8⟩ := pv
      have eBH' : Ex B H' := k2.trans nw_sub
      have hpB : PotAt a B := k3 _ _ hp0
      have hrB : Dx B (.ref lr) (.list (F.map rowD1)) := .lst (k3 _ _ hws) (alR.ex k3)
      have kl := k6.length
      have hi2 : i < 400 := by omega
      have szFM : F.map rowD1 ≠ [] ∧ (F.map rowD1).length ≤ 100000000 := ⟨fun z => neF (List.map_eq_nil_iff.mp z), by rw [List.length_map]; omega⟩
      refine s_appP (G := B) (P := TripP n) up_trip k5 (ev_var rfl) (fun H5 e5 Q5 q5 => go_tup (go_cons (go_ev (ep_draw (ev_var rfl) (ev_var rfl) hpB ⟨h1, by omega⟩) e5 fun v1 H6 e6 ⟨k, hk1, hk2⟩ => go_cons (go_ev (ep_pickL (ev_var rfl) (ed_ev (ev_var rfl) hrB) hpB szFM) (e5.trans e6) fun v2 H7 e7 ⟨d2, hd2, hv2⟩ => go_cons (go_ev (ep_pickL (ev_var rfl) (ed_ev (ev_var rfl) hrB) hpB szFM) ((e5.trans e6).trans e7) fun v3 H8 e8 ⟨d3, hd3, hv3⟩ => go_nil ⟨by show 3 ≤ sizeLine; decide, fun p hp => ?_⟩)))) ) eBH' (by omega) fun y H5 e5 ⟨d, hd, hy⟩ => ?_
      · obtain ⟨r2, hr2, rfl⟩ := List.mem_map.mp hd2
        obtain ⟨r3, hr3, rfl⟩ := List.mem_map.mp hd3
        subst hk1
        have en := Ex.new (o := .tup [.int (k : Nat), v2, v3]) hp
        refine q5 _ _ (((e6.trans e7).trans e8).trans en) ⟨tripD k r2 r3, ⟨k, r2, r3, rfl, hk2, okF _ hr2, okF _ hr3⟩, .tup (xs := [.int (k : Nat), v2, v3]) ?_ (.cons (.int _) (.cons (hv2.ex ?_) (.cons (hv3.ex ?_) .nil)))⟩
        · exact nw_new ((e6.trans e7).trans e8) hp
        · exact (nw_chain e6).trans (nw_up (e8.trans en))
        · exact (nw_chain (e6.trans e7)).trans (nw_up en)
      · have hB4 : Nw B H' H5 lf = none := nw_none k4 k5
        refine ⟨_, rfl, Nw B H' H5, xs ++ [y], ds ++ [d], Ex.mut (k1.trans e5) hHf, vis_upd (vis_nw k2 k1 e5) hB4, k3.trans (nw_base (eBH'.trans e5)), hB4, upd_same, DxAll.append (k6.ex (nw_base (eBH'.trans e5))) (.cons hy .nil), fun d' hd' => ?_, ?_⟩
        · rcases List.mem_append.mp hd' with hd' | hd'
          · exact k7 d' hd'
          · obtain rfl := List.mem_singleton.mp hd'
            exact hd
        · rw [List.length_append, List.length_singleton]
          omega
    · obtain ⟨y6, rfl, f4⟩ := pv
      refine s_ret (ev_var rfl) fun H5 e5 => ?_
      have f5 := f4.ex e5
      have e5' : Ex H H5 := by obtain ⟨B, xs, ds, k1, _⟩ := f5; exact k1
      exact q _ _ e5' (f5.done hHf (by show 400 ≤ 50000; decide))
end
end SF
set_option Elab.async false
set_option linter.all false
set_option maxRecDepth 100000
set_option maxHeartbeats 4000000
namespace SF
open PySem PySem.Spec PyProof.Rows L2 Evl
section
variable {P : Program} {w : World} {K : PySem.W.Frag} {mg : Str → Option Value} {base : Heap}

inductive ItAll (K : PySem.W.Frag) (H : Hp) : List V → List (Option PyData) → Prop
  | nil : ItAll K H [] []
  | cons {v : V} {vs : List V} {o : Option PyData} {os : List (Option PyData)} : ItAt K v o H → ItAll K H vs os → ItAll K H (v :: vs) (o :: os)
theorem ItAll.ex {K : PySem.W.Frag} {H H' : Hp} (e : Ex H H') : ∀ {vs : List V} {os : List (Option PyData)}, ItAll K H vs os → ItAll K H' vs os
  | _, _, .nil => .nil
  | _, _, .cons a r => .cons (a.ex e) (ItAll.ex e r)
theorem ItAll.append {K : PySem.W.Frag} {H : Hp} : ∀ {vs : List V} {os : List (Option PyData)} {us : List V} {ps : List (Option PyData)}, ItAll K H vs os → ItAll K H us ps → ItAll K H (vs ++ us) (os ++ ps)
  | _, _, _, _, .nil, h => h
  | _, _, _, _, .cons a r, h => .cons a (ItAll.append r h)
theorem ItAll.length {K : PySem.W.Frag} {H : Hp} : ∀ {vs : List V} {os : List (Option PyData)}, ItAll K H vs os → vs.length = os.length
  | _, _, .nil => rfl
  | _, _, .cons _ r => by rw [List.length_cons, List.length_cons, ItAll.length r]
theorem ItAll.at' {K : PySem.W.Frag} {H : Hp} : ∀ {vs : List V} {os : List (Option PyData)}, ItAll K H vs os → ∀ (i : Nat) (v : V), vs[i]? = some v → ∃ o, os[i]? = some o ∧ ItAt K v o H
  | _, _, .nil => fun i v h => by simp at h
  | _, _, .cons a r => fun i v h => match i, h with
    | 0, h => by cases h; exact ⟨_, rfl, a⟩
    | j + 1, h => ItAll.at' r j v h
theorem up_it {K : PySem.W.Frag} {o : Option PyData} : Up (fun v H => ItAt K v o H) := fun _ _ _ e h => h.ex e
section
variable {K : PySem.W.Frag} {σ : L2.St} {G H : Hp} {tl te tb : TE} {ta : TA}
abbrev EvI (K : PySem.W.Frag) (te : TE) (σ : L2.St) (G : Hp) (o : Option PyData) : Prop := EvP te σ G (fun v H => ItAt K v o H)
def EvIA (K : PySem.W.Frag) (ta : TA) (σ : L2.St) (G : Hp) (os : List (Option PyData)) : Prop := ∀ H1, Ex G H1 → ∀ Q : List V → Hp → Prop, (∀ vs H2, Ex H1 H2 → ItAll K (Nw G H1 H2) vs os → Q vs H2) → ta σ H1 Q
theorem ei_d {d : PyData} (h : EvD te σ G d) : EvI K te σ G (some d) := h
theorem ei_nil : EvIA K tNil σ G [] := fun H1 _ _ q => q [] H1 (Ex.refl H1) .nil
theorem ei_cons {o : Option PyData} {os : List (Option PyData)} (h : EvI K te σ G o) (hr : EvIA K ta σ G os) : EvIA K (tCons te ta) σ G (o :: os) := fun H1 e _ q =>
  h H1 e _ fun v H2 e2 hv => hr H2 (e.trans e2) _ fun vs H3 e3 hvs => q _ H3 (e2.trans e3) (.cons (hv.ex (nw_up e3)) (hvs.ex (nw_chain e2)))
theorem ei_lst {os : List (Option PyData)} (h : EvIA K ta σ G os) (hl : os.length ≤ 100000) : EvLP (tLst ta) σ G (fun ys h => ItAll K h ys os) := fun H1 e Q q =>
  h H1 e _ fun vs H2 e2 hv => ⟨sz_of (by rw [hv.length]; exact hl), fun p hp => q p vs _ (fresh_back e2 hp) (e2.trans (Ex.new hp)) upd_same (hv.ex (fun b v z => by
    have hb : Nw G H1 H2 p = none := by
      cases c : Nw G H1 H2 p with
      | none => rfl
      | some u => have := nw_sub _ _ c; rw [hp] at this; cases this
    have nb : b ≠ p := fun z2 => by rw [z2, hb] at z; cases z
    rw [hide_ne nb]
    exact nw_up (Ex.new hp) _ _ z))⟩
theorem ei_cat {l : Addr} {xs : List V} {os os2 : List (Option PyData)} (h : Ev te σ G (.ref l)) (hx : G l = some (.lst xs)) (al : ItAll K G xs os) (h2 : EvLP tb σ G (fun ys h => ItAll K h ys os2)) (hz : os.length + os2.length ≤ 100000) : EvLP (tOp rCat te tb) σ G (fun ys h => ItAll K h ys (os ++ os2)) := fun H1 e Q q =>
  h H1 e _ fun H2 e2 => h2 H2 (e.trans e2) _ fun p2 ys H3 hp2 e3 hl2 al2 => by
    have g3 := (e.trans e2).trans e3
    refine ⟨l, p2, xs, ys, rfl, rfl, g3 _ _ hx, hl2, sz_of (by rw [al.length, al2.length]; exact hz), fun p hp => q p _ _ (fresh_back (e2.trans e3) hp) ((e2.trans e3).trans (Ex.new hp)) upd_same ?_⟩
    have toN : ∀ {B : Hp}, Ex B (Nw G H1 H3) → Ex B (hide (Nw G H1 (upd H3 p (.lst (xs ++ ys)))) p) := fun {B} e b v z => by
      have z2 := e b v z
      have nb : b ≠ p := fun z3 => by
        have := nw_sub _ _ z2
        rw [z3, hp] at this; cases this
      rw [hide_ne nb]
      exact nw_up (Ex.new hp) _ _ z2
    exact ItAll.append (al.ex (toN (nw_base g3))) (al2.ex (toN (hide_sub.trans (nw_chain e2))))
theorem ev_negone : Ev (tUn (rU fun i => .int (-i)) (tC (.int 1))) σ G (.int (-1)) := fun H1 _ Q q => ⟨1, rfl, q H1 (Ex.refl H1)⟩
theorem ev_boolI {i : Int} (h : Ev te σ G (.int i)) : Ev (tCB (fun xs H Q => (∃ i, xs = [.int i] ∧ Q (.bl (i != 0)) H) ∨ ∃ k, xs = [.bl k] ∧ Q (.bl k) H) (tCons te tNil)) σ G (.bl (i != 0)) := fun H1 e Q q => h H1 e _ fun H2 e2 => .inl ⟨i, rfl, q H2 e2⟩
theorem dxs_rev {H : Hp} : ∀ {xs : List V} {ds : List PyData}, DxAll H xs ds → DxAll H xs.reverse ds.reverse
  | _, _, .nil => .nil
  | _, _, .cons a r => by
    rw [List.reverse_cons, List.reverse_cons]
    exact DxAll.append (dxs_rev r) (.cons a .nil)
theorem ed_rev {ds : List PyData} (h : EvD te σ G (.list ds)) : EvD (tRevL K te) σ G (.list ds.reverse) := fun H1 e Q q => h H1 e _ fun v H2 e2 hv => by
  obtain ⟨a, xs, rfl, hx, al⟩ := dx_lst hv
  refine ⟨a, xs, rfl, sq_of (nw_val hx), fun p hp => q _ _ (e2.trans (Ex.new hp)) (.lst (nw_new e2 hp) ?_)⟩
  exact dxs_rev (al.ex (nw_up (Ex.new hp)))
theorem ed_dic0 {i : Int} (h : Ev te σ G (.int i)) : EvD (tDisp [(te, tC (.int 0))]) σ G (.dict [(.int i, .int 0)]) := fun H1 e Q q p hp => by
  refine h _ (e.trans (Ex.new hp)) _ fun H2 e2 => ⟨e2 _ _ upd_same, [(Sum.inl i, .int 0)], rfl, by show 1 ≤ 15; decide, q _ _ ?_ (.dic (kvs := [(Sum.inl i, .int 0)]) ?_ (.cons (.int _) (.int _) .nil))⟩
  · exact Ex.mut ((Ex.new hp).trans e2) hp
  · rw [nw_free hp]; exact upd_same
theorem ed_dicE : EvD tDNewK σ G (.dict []) := fun H1 e Q q p hp => q _ _ (Ex.new hp) (.dic (kvs := []) (by rw [nw_free hp]; exact upd_same) .nil)
end
end
end SF
set_option Elab.async false
set_option linter.all false
set_option maxRecDepth 100000
set_option maxHeartbeats 4000000
namespace SF
open PySem PySem.Spec PyProof.Rows L2 Evl
section
variable {P : Program} {w : World} {K : PySem.W.Frag} {mg : Str → Option Value} {base : Heap}

def truD (m : Nat) : PyData := if m < 2 then .bool (decide ((m : Int) = 1)) else .int (m : Nat)
def truV (m : Nat) : V := if m < 2 then .bl (decide ((m : Int) = 1)) else .int (m : Nat)
theorem tru_dx {H : Hp} (m : Nat) : Dx H (truV m) (truD m) := by
  unfold truV truD
  by_cases c : m < 2
  · rw [if_pos c, if_pos c]; exact .bl _
  · rw [if_neg c, if_neg c]; exact .int _
theorem cut_le {ds : List PyData} {lo hi : Option Int} : (cutD ds lo hi).length ≤ ds.length := by
  unfold cutD
  rw [List.length_take, List.length_drop]
  omega
def bent0 (k n m : Nat) (r1 r2 : List Nat) : List (Option PyData) := [some (tripD k r1 r2), some (.tuple [.int (k : Nat), .list (natsD r2), .list (natsD r1)]), some (.tuple [.int (k : Nat), .list (natsD r1), .list (natsD r1)]), some (.tuple [.int (k : Nat), .list (natsD r2), .list (natsD r2)]), some (.tuple [.int (m : Nat), .list (natsD r1), .list (natsD r2)]), some (.tuple [.int (k : Nat), .list ((natsD r1) ++ [.int (m : Nat)]), .list (natsD r2)])]
def bent1 (k n m : Nat) (r1 r2 : List Nat) : List (Option PyData) := [some (.tuple [.int (k : Nat), .list (natsD r1), .list ((natsD r2) ++ [.int (m : Nat)])]), some (.tuple [.int (k : Nat), .list (cutD (natsD r1) none (some (-1))), .list (natsD r2)]), some (.tuple [.int (k : Nat), .list (natsD r1), .list (cutD (natsD r2) none (some (-1)))]), some (.tuple [.int (k : Nat), .list (natsD r1).reverse, .list (natsD r2)])]
def bent2 (k n m : Nat) (r1 r2 : List Nat) : List (Option PyData) := [some (.tuple [.int (k : Nat), .list (natsD r1), .list (natsD r2).reverse]), some (.tuple [.int (k : Nat), .list ((natsD r1) ++ (cutD (natsD r1) none (some (1)))), .list (natsD r2)]), some (.tuple [.int (k : Nat), .list (natsD r1), .list ((natsD r2) ++ [.int (k : Nat)])]), some (.tuple [.int (k : Nat), .list [.int (k : Nat)], .list (natsD r2)])]
def bent3 (k n m : Nat) (r1 r2 : List Nat) : List (Option PyData) := [some (.tuple [.int (k : Nat), .tuple (natsD r1), .list (natsD r2)]), some (.tuple [.int (k : Nat), .tuple (natsD r1), .tuple (natsD r2)]), some (.list [.int (k : Nat), .list (natsD r1), .list (natsD r2)]), some (.tuple [.int (k : Nat), .list (natsD r1)])]
def bent4 (k n m : Nat) (r1 r2 : List Nat) : List (Option PyData) := [some (.tuple [.list (natsD r1), .list (natsD r2)]), some (.tuple [.int (k : Nat), .list (natsD r1), .list (natsD r2), .int (k : Nat)]), some (.tuple [.int (k : Nat), .list (natsD r1), .list (natsD r2), .none]), some (.tuple [.tuple [.int (k : Nat)], .list (natsD r1), .list (natsD r2)]), some (.tuple [.int (k : Nat), .none, .list (natsD r2)])]
def bent5 (k n m : Nat) (r1 r2 : List Nat) : List (Option PyData) := [some (.tuple [.int (k : Nat), .list (natsD r1), .none])]
def bent6 (k n m : Nat) (r1 r2 : List Nat) : List (Option PyData) := [some (.tuple [.none, .list (natsD r1), .list (natsD r2)]), some (.tuple [.str "0", .list (natsD r1), .list (natsD r2)]), some (.tuple [.int (-1), .list (natsD r1), .list (natsD r2)]), some (.tuple [.int (n : Nat), .list (natsD r1), .list (natsD r2)]), some (.tuple [.int (k : Nat), .list ((natsD r1) ++ [.none]), .list (natsD r2)])]
def bent7 (k n m : Nat) (r1 r2 : List Nat) : List (Option PyData) := [some (.tuple [.int (k : Nat), .list ([.int (-1)] ++ (natsD r1)), .list (natsD r2)]), some (.tuple [.int (k : Nat), .list (natsD r1), .list ([.int (n : Nat)] ++ (natsD r2))]), some (.tuple [.int (k : Nat), .list [], .list (natsD r2)]), some (.tuple [.int (k : Nat), .list (natsD r1), .list []])]
def bent8 (k n m : Nat) (r1 r2 : List Nat) : List (Option PyData) := [some (.tuple [.bool ((k : Int) != 0), .list (natsD r1), .list (natsD r2)]), some (.tuple [.int (k : Nat), .list (r1.map truD), .list (natsD r2)]), some (.tuple [.int (k : Nat), .list (natsD r1), .list (r2.map truD)]), some (.tuple [.int (k : Nat), .int (k : Nat), .int (k : Nat)])]
def bent9 (k n m : Nat) (r1 r2 : List Nat) : List (Option PyData) := [some (.tuple [.int (k : Nat), .dict [(.int (k : Nat), .int 0)], .list (natsD r2)]), some (.tuple [.int (k : Nat), .list [.list (natsD r1)], .list [.list (natsD r2)]]), some (.tuple [.int (k : Nat), .list (natsD r1), .str "1"])]
def bent10 (k n m : Nat) (r1 r2 : List Nat) : List (Option PyData) := [some (.none), some (.int 0), some (.str ""), some (.tuple []), some (.list []), some (.dict []), none, some (.tuple [.int 0, .list [.int 0], .list [.int 1]]), some (.tuple [.int 1, .list [.int 0, .int 1], .list [.int 1]]), some (.tuple [.int 0, .list [.int 0], .list [.int 1, .int 0]]), some (.tuple [.int 0, .int 0, .int 1]), some (.str "012")]
theorem bl0 {k n m : Nat} {r1 r2 : List Nat} : (bent0 k n m r1 r2).length = 6 := rfl
theorem bl1 {k n m : Nat} {r1 r2 : List Nat} : (bent1 k n m r1 r2).length = 4 := rfl
theorem bl2 {k n m : Nat} {r1 r2 : List Nat} : (bent2 k n m r1 r2).length = 4 := rfl
theorem bl3 {k n m : Nat} {r1 r2 : List Nat} : (bent3 k n m r1 r2).length = 4 := rfl
theorem bl4 {k n m : Nat} {r1 r2 : List Nat} : (bent4 k n m r1 r2).length = 5 := rfl
theorem bl5 {k n m : Nat} {r1 r2 : List Nat} : (bent5 k n m r1 r2).length = 1 := rfl
theorem bl6 {k n m : Nat} {r1 r2 : List Nat} : (bent6 k n m r1 r2).length = 5 := rfl
theorem bl7 {k n m : Nat} {r1 r2 : List Nat} : (bent7 k n m r1 r2).length = 4 := rfl
theorem bl8 {k n m : Nat} {r1 r2 : List Nat} : (bent8 k n m r1 r2).length = 4 := rfl
theorem bl9 {k n m : Nat} {r1 r2 : List Nat} : (bent9 k n m r1 r2).length = 3 := rfl
theorem bl10 {k n m : Nat} {r1 r2 : List Nat} : (bent10 k n m r1 r2).length = 12 := rfl
def bentOs (k n m : Nat) (r1 r2 : List Nat) : List (Option PyData) := ((((((((((bent0 k n m r1 r2 ++ bent1 k n m r1 r2) ++ bent2 k n m r1 r2) ++ bent3 k n m r1 r2) ++ bent4 k n m r1 r2) ++ bent5 k n m r1 r2) ++ bent6 k n m r1 r2) ++ bent7 k n m r1 r2) ++ bent8 k n m r1 r2) ++ bent9 k n m r1 r2) ++ bent10 k n m r1 r2)

def BentP (K : PySem.W.Frag) (n : Nat) (r1 r2 : List Nat) (k : Nat) : PV := fun v H => ∃ l xs m, v = .ref l ∧ H l = some (.lst xs) ∧ m ≤ n ∧ ItAll K H xs (bentOs k n m r1 r2)
def spLawBent (K : PySem.W.Frag) : Sp := fun vs H Q _ => ∃ a c bv, ∃ p : Plan, ∃ k : Nat, ∃ r1 r2 : List Nat, vs = [.ref a, .ref c, bv] ∧ PotAt a H ∧ LayAt K c p H ∧ PlanOk p ∧ Dx H bv (tripD k r1 r2) ∧ r1.length ≤ 5 ∧ r2.length ≤ 5 ∧ ∀ v H2, Ex H H2 → BentP K p.many r1 r2 k v H2 → Q v H2
section
variable {K : PySem.W.Frag} {σ : L2.St} {G H : Hp} {t1 t2 te : TE} {g : TG} {own : List Nat}
theorem s_asgLPs {D : Ends} {tz : TS} {i : Nat} {R : List V → Hp → Prop} (hv : EvLP te σ G R) (eG : Ex G H) (k : ∀ p ys H1, H p = none → Ex H H1 → H1 p = some (.lst ys) → R ys (hide (Nw G H H1) p) → ∀ s2, s2 = σ.set i (some (.ref p)) → tz D s2 H1) : tSeq (tAsg te (gName i)) tz D σ H :=
  q_asgLP hv eG fun p ys H1 h1 h2 h3 h4 => k p ys H1 h1 h2 h3 h4 _ rfl
theorem q_asgPs {D : Ends} {tz : TS} {i : Nat} {P : PV} (hv : EvP te σ G P) (eG : Ex G H) (k : ∀ y H1, Ex H H1 → P y (Nw G H H1) → ∀ s2, s2 = σ.set i (some y) → tz D s2 H1) : tSeq (tAsg te (gName i)) tz D σ H :=
  q_asgP hv eG fun y H1 h1 h2 => k y H1 h1 h2 _ rfl
theorem ed_lcTwo {x y : V} {d : Nat → PyData} (hx : Ev t1 σ G x) (hy : Ev t2 σ G y) (k : ∀ (G' : Hp), Ex G G' → ∀ (i : Nat) (z : V), [x, y][i]? = some z → TurnP g tYes te σ own z G' true (fun v H => Dx H v (d i))) : EvD (tLc (iList K (tLst (tCons t1 (tCons t2 tNil)))) g tYes te own) σ G (.list [d 0, d 1]) := fun H1 e Q q =>
  hx H1 e _ fun H2 e2 => hy H2 (e.trans e2) _ fun H3 e3 => ⟨by show 2 ≤ sizeLine; decide, fun p hp => by
    have e4 := (e2.trans e3).trans (Ex.new (o := .lst [x, y]) hp)
    have hp1 : H1 p = none := fresh_back (e2.trans e3) hp
    have hc : (upd H3 p (.lst [x, y])) p = some (.lst [x, y]) := upd_same
    generalize upd H3 p (.lst [x, y]) = H4 at e4 hc ⊢
    have := ed_lp (lp_list (K := K) (tl := tC (.ref p)) (G := Nw G H1 H4) (fun _ => true) (fun i v H => Dx H v (d i)) (fun _ => up_dx) (ev_c) (by rw [nw_free hp1]; exact hc) (by show 2 ≤ 50000; decide) (k _ (nw_base (e.trans e4)))) (ds := [d 0, d 1]) (fun ys h al => Al.dx al)
    exact this H4 nw_sub Q fun v H5 e5 hv => q v H5 (e4.trans e5) (hv.ex (nw_call e4))⟩
end
abbrev N_law_bent : List Str := ["_law_pot_here", "_law_plan_here", "_law_base", "_law_who", "_law_near", "_law_far", "_law_many", "_law_more", "_law_found", "_law_truths", "_law_mate", "_law_row"]
theorem sc_law_bent : FnScope N_law_bent ["_law_pot_here", "_law_plan_here", "_law_base"] (defScope (topS 85)) := ⟨rfl, rfl, rfl, by decide +kernel, rfl, by decide +kernel, by decide +kernel⟩
theorem dn_law_bent (T : Txt K mg) (D_law_draw : Dn P w K mg base 1 "_law_draw" ["_law_pot_here", "_law_many"] spDraw) (D_Llen : Mn P w K mg base 1 "Layout" "__len__" ["self"] (spLayLen K)) : Dn P w K mg base 3 "_law_bent" ["_law_pot_here", "_law_plan_here", "_law_base"] (spLawBent K) := by
  refine dn_of T.f_law_bent sc_law_bent (fun _ _ _ _ _ _ us hl => match us, hl with | [_, _, _], _ => rfl) (by rintro vs H Q E ⟨a, b, c, d, e, f, g, rfl, _⟩; rfl) (fun f cdv A outer s H vs Q E hr h => ?_)
  have nd := sc_law_bent.nd
  refine ⟨_, (pss_cons (ps_asg (pv 2) (pg_tupK K rfl 3 (by rfl) (pgs_cons (pg_name (i := 3) nd rfl (by first | exact Or.inl rfl | exact Or.inr rfl)) (pgs_cons (pg_name (i := 4) nd rfl (by first | exact Or.inl rfl | exact Or.inr rfl)) (pgs_cons (pg_name (i := 5) nd rfl (by first | exact Or.inl rfl | exact Or.inr rfl)) pgs_nil)))))
      (pss_cons (ps_set (i := 6) nd rfl (.inl rfl) (pe_callB (call_lenI K rfl D_Llen T.t_Layout_len hr (by decide)) (by rfl) T.z_len (by decide +kernel) (pa_cons (pv 1) pa_nil)))
      (pss_cons (ps_set (i := 7) nd rfl (.inl rfl) (pe_fn D_law_draw hr (by decide) (by rfl) (pa_cons (pv 0) (pa_cons (pe_op op_add (pv 6) pe_int) pa_nil))))
      (pss_cons (ps_set (i := 8) nd rfl (.inl rfl) (pe_lst (pa_cons (pv 2) (pa_cons (pe_tup (pa_cons (pv 3) (pa_cons (pv 5) (pa_cons (pv 4) pa_nil)))) (pa_cons (pe_tup (pa_cons (pv 3) (pa_cons (pv 4) (pa_cons (pv 4) pa_nil)))) (pa_cons (pe_tup (pa_cons (pv 3) (pa_cons (pv 5) (pa_cons (pv 5) pa_nil)))) (pa_cons (pe_tup (pa_cons (pv 7) (pa_cons (pv 4) (pa_cons (pv 5) pa_nil)))) (pa_cons (pe_tup (pa_cons (pv 3) (pa_cons (pe_op op_cat (pv 4) (pe_lst (pa_cons (pv 7) pa_nil))) (pa_cons (pv 5) pa_nil)))) pa_nil))))))))
      (pss_cons (ps_set (i := 8) nd rfl (.inl rfl) (pe_op op_cat (pv 8) (pe_lst (pa_cons (pe_tup (pa_cons (pv 3) (pa_cons (pv 4) (pa_cons (pe_op op_cat (pv 5) (pe_lst (pa_cons (pv 7) pa_nil))) pa_nil)))) (pa_cons (pe_tup (pa_cons (pv 3) (pa_cons (pe_slice (sl_listK K rfl) (pv 4) po_none (po_some (pe_un un_neg pe_int))) (pa_cons (pv 5) pa_nil)))) (pa_cons (pe_tup (pa_cons (pv 3) (pa_cons (pv 4) (pa_cons (pe_slice (sl_listK K rfl) (pv 5) po_none (po_some (pe_un un_neg pe_int))) pa_nil)))) (pa_cons (pe_tup (pa_cons (pv 3) (pa_cons (pe_revL (pv 4)) (pa_cons (pv 5) pa_nil)))) pa_nil)))))))
      (pss_cons (ps_set (i := 8) nd rfl (.inl rfl) (pe_op op_cat (pv 8) (pe_lst (pa_cons (pe_tup (pa_cons (pv 3) (pa_cons (pv 4) (pa_cons (pe_revL (pv 5)) pa_nil)))) (pa_cons (pe_tup (pa_cons (pv 3) (pa_cons (pe_op op_cat (pv 4) (pe_slice (sl_listK K rfl) (pv 4) po_none (po_some pe_int))) (pa_cons (pv 5) pa_nil)))) (pa_cons (pe_tup (pa_cons (pv 3) (pa_cons (pv 4) (pa_cons (pe_op op_cat (pv 5) (pe_lst (pa_cons (pv 3) pa_nil))) pa_nil)))) (pa_cons (pe_tup (pa_cons (pv 3) (pa_cons (pe_lst (pa_cons (pv 3) pa_nil)) (pa_cons (pv 5) pa_nil)))) pa_nil)))))))
      (pss_cons (ps_set (i := 8) nd rfl (.inl rfl) (pe_op op_cat (pv 8) (pe_lst (pa_cons (pe_tup (pa_cons (pv 3) (pa_cons (pe_callTy (call_tupleK K rfl) (by rfl) T.z_tuple (by decide +kernel) (pa_cons (pv 4) pa_nil)) (pa_cons (pv 5) pa_nil)))) (pa_cons (pe_tup (pa_cons (pv 3) (pa_cons (pe_callTy (call_tupleK K rfl) (by rfl) T.z_tuple (by decide +kernel) (pa_cons (pv 4) pa_nil)) (pa_cons (pe_callTy (call_tupleK K rfl) (by rfl) T.z_tuple (by decide +kernel) (pa_cons (pv 5) pa_nil)) pa_nil)))) (pa_cons (pe_lst (pa_cons (pv 3) (pa_cons (pv 4) (pa_cons (pv 5) pa_nil)))) (pa_cons (pe_tup (pa_cons (pv 3) (pa_cons (pv 4) pa_nil))) pa_nil)))))))
      (pss_cons (ps_set (i := 8) nd rfl (.inl rfl) (pe_op op_cat (pv 8) (pe_lst (pa_cons (pe_tup (pa_cons (pv 4) (pa_cons (pv 5) pa_nil))) (pa_cons (pe_tup (pa_cons (pv 3) (pa_cons (pv 4) (pa_cons (pv 5) (pa_cons (pv 3) pa_nil))))) (pa_cons (pe_tup (pa_cons (pv 3) (pa_cons (pv 4) (pa_cons (pv 5) (pa_cons pe_non pa_nil))))) (pa_cons (pe_tup (pa_cons (pe_tup (pa_cons (pv 3) pa_nil)) (pa_cons (pv 4) (pa_cons (pv 5) pa_nil)))) (pa_cons (pe_tup (pa_cons (pv 3) (pa_cons pe_non (pa_cons (pv 5) pa_nil)))) pa_nil))))))))
      (pss_cons (ps_expr (pe_bmK K rfl PySem.F.plainAttrs_list PySem.F.slot_list_append PySem.F.type_list_append mt_append (pv 8) (pa_cons (pe_tup (pa_cons (pv 3) (pa_cons (pv 4) (pa_cons pe_non pa_nil)))) pa_nil)))
      (pss_cons (ps_set (i := 8) nd rfl (.inl rfl) (pe_op op_cat (pv 8) (pe_lst (pa_cons (pe_tup (pa_cons pe_non (pa_cons (pv 4) (pa_cons (pv 5) pa_nil)))) (pa_cons (pe_tup (pa_cons pe_str (pa_cons (pv 4) (pa_cons (pv 5) pa_nil)))) (pa_cons (pe_tup (pa_cons (pe_un un_neg pe_int) (pa_cons (pv 4) (pa_cons (pv 5) pa_nil)))) (pa_cons (pe_tup (pa_cons (pv 6) (pa_cons (pv 4) (pa_cons (pv 5) pa_nil)))) (pa_cons (pe_tup (pa_cons (pv 3) (pa_cons (pe_op op_cat (pv 4) (pe_lst (pa_cons pe_non pa_nil))) (pa_cons (pv 5) pa_nil)))) pa_nil))))))))
      (pss_cons (ps_set (i := 8) nd rfl (.inl rfl) (pe_op op_cat (pv 8) (pe_lst (pa_cons (pe_tup (pa_cons (pv 3) (pa_cons (pe_op op_cat (pe_lst (pa_cons (pe_un un_neg pe_int) pa_nil)) (pv 4)) (pa_cons (pv 5) pa_nil)))) (pa_cons (pe_tup (pa_cons (pv 3) (pa_cons (pv 4) (pa_cons (pe_op op_cat (pe_lst (pa_cons (pv 6) pa_nil)) (pv 5)) pa_nil)))) (pa_cons (pe_tup (pa_cons (pv 3) (pa_cons (pe_lst pa_nil) (pa_cons (pv 5) pa_nil)))) (pa_cons (pe_tup (pa_cons (pv 3) (pa_cons (pv 4) (pa_cons (pe_lst pa_nil) pa_nil)))) pa_nil)))))))
      (pss_cons (ps_setLc (i := 9) (own := [("_law_row", 11)]) (by rfl) nd rfl rfl (sw_true rfl rfl rfl (by decide +kernel)) (pi_listK K rfl (pe_lst (pa_cons (pv 4) (pa_cons (pv 5) pa_nil)))) (blkOk_by (own := [("_law_row", 11)]) (N := N_law_bent) (sc := (defScope (topS 85))) (by decide +kernel)) (fun _ _ _ _ _ => (pg_name (i := 11) nd rfl (by first | exact Or.inl rfl | exact Or.inr rfl))) (fun _ _ _ _ _ => pts_nil) (fun _ _ _ _ _ => (pe_lc (own := [("_law_mate", 10)]) (by rfl) nd (pi_listK K rfl (pv 11)) (blkOk_in (own := [("_law_mate", 10)]) N_law_bent (defScope (topS 85)) rfl rfl (by decide +kernel)) (fun _ _ _ _ _ => (pg_name (i := 10) nd rfl (by first | exact Or.inl rfl | exact Or.inr rfl))) (fun _ _ _ _ _ => pts_nil) (fun _ _ _ _ _ => (pe_ifExp (pt_cmpR op_lt (pv 10) pe_int (nomark _)) (pe_cmpR op_eq (pv 10) pe_int (nomark _)) (pv 10))))))
      (pss_cons (ps_set (i := 8) nd rfl (.inl rfl) (pe_op op_cat (pv 8) (pe_lst (pa_cons (pe_tup (pa_cons (pe_callTy call_bool1 (by rfl) T.z_bool (by decide +kernel) (pa_cons (pv 3) pa_nil)) (pa_cons (pv 4) (pa_cons (pv 5) pa_nil)))) (pa_cons (pe_tup (pa_cons (pv 3) (pa_cons (pe_ix (ix_listK K rfl) (pv 9) pe_int (fun _ _ => rfl)) (pa_cons (pv 5) pa_nil)))) (pa_cons (pe_tup (pa_cons (pv 3) (pa_cons (pv 4) (pa_cons (pe_ix (ix_listK K rfl) (pv 9) pe_int (fun _ _ => rfl)) pa_nil)))) (pa_cons (pe_tup (pa_cons (pv 3) (pa_cons (pv 3) (pa_cons (pv 3) pa_nil)))) pa_nil)))))))
      (pss_cons (ps_set (i := 8) nd rfl (.inl rfl) (pe_op op_cat (pv 8) (pe_lst (pa_cons (pe_tup (pa_cons (pv 3) (pa_cons (pe_disp (pps_cons (pv 3) pe_int pps_nil) (by rfl) (by rfl) (fun z => by cases z) (by decide)) (pa_cons (pv 5) pa_nil)))) (pa_cons (pe_tup (pa_cons (pv 3) (pa_cons (pe_lst (pa_cons (pv 4) pa_nil)) (pa_cons (pe_lst (pa_cons (pv 5) pa_nil)) pa_nil)))) (pa_cons (pe_tup (pa_cons (pv 3) (pa_cons (pv 4) (pa_cons pe_str pa_nil)))) pa_nil))))))
      (pss_one (ps_ret (pe_op op_cat (pv 8) (pe_lst (pa_cons pe_non (pa_cons pe_int (pa_cons pe_str (pa_cons (pe_tup pa_nil) (pa_cons (pe_lst pa_nil) (pa_cons pe_dnewK (pa_cons (pv 1) (pa_cons (pe_tup (pa_cons pe_int (pa_cons (pe_lst (pa_cons pe_int pa_nil)) (pa_cons (pe_lst (pa_cons pe_int pa_nil)) pa_nil)))) (pa_cons (pe_tup (pa_cons pe_int (pa_cons (pe_lst (pa_cons pe_int (pa_cons pe_int pa_nil))) (pa_cons (pe_lst (pa_cons pe_int pa_nil)) pa_nil)))) (pa_cons (pe_tup (pa_cons pe_int (pa_cons (pe_lst (pa_cons pe_int pa_nil)) (pa_cons (pe_lst (pa_cons pe_int (pa_cons pe_int pa_nil))) pa_nil)))) (pa_cons (pe_tup (pa_cons pe_int (pa_cons pe_int (pa_cons pe_int pa_nil)))) (pa_cons pe_str pa_nil)))))))))))))))))))))))))))))), ?_⟩
  obtain ⟨a, c, bv, p, k, r1, r2, rfl, hpot, lay, ok, hV, s1, s2, q⟩ := h
  have eH := Ex.refl H
  refine q_trip (G := H) (c := .int (k : Nat)) (d := .list (natsD r1)) (e := .list (natsD r2)) (ed_ev (ev_var rfl) hV) (Ex.refl _) fun vh va vb H1 e1 hvh hA hB => ?_
  have hA := hA.ex nw_sub
  have hB := hB.ex nw_sub
  cases dx_int hvh
  have hV := hV.ex e1
  have lay := lay.ex e1
  have eH := eH.trans e1
  refine q_asgV (v := .int (p.many : Nat)) (ev_lenLay (ev_var rfl) lay ok) fun H2 e2 => ?_
  have hA := hA.ex e2
  have hB := hB.ex e2
  have hV := hV.ex e2
  have lay := lay.ex e2
  have eH := eH.trans e2
  refine q_asgP (G := H2) (P := BelowP (p.many + 1)) (ep_draw (ev_var rfl) (ev_op (ev_var rfl) ev_c (rv_b (z := .int ((p.many + 1 : Nat) : Int)) (congrArg V.int (by omega)))) (eH _ _ hpot) ⟨by omega, by have := ok.le; unfold Plan.many; omega⟩) (Ex.refl _) fun mv H3 e3 ⟨m, hm1, hm2⟩ => ?_
  subst hm1
  have hA := hA.ex e3
  have hB := hB.ex e3
  have hV := hV.ex e3
  have lay := lay.ex e3
  have eH := eH.trans e3
  have hnn : p.many = p.many := rfl
  generalize hn : p.many = n at *
  refine s_asgLPs (G := H3) (ei_lst (K := K) (os := bent0 k n m r1 r2) (ei_cons (ei_d (ed_ev (ev_var rfl) hV)) (ei_cons (ei_d (ed_tup (ed_cons (ed_ev (ev_var rfl) (.int _)) (ed_cons (ed_ev (ev_var rfl) hB) (ed_cons (ed_ev (ev_var rfl) hA) ed_nil))) (by show 3 ≤ 100000; decide))) (ei_cons (ei_d (ed_tup (ed_cons (ed_ev (ev_var rfl) (.int _)) (ed_cons (ed_ev (ev_var rfl) hA) (ed_cons (ed_ev (ev_var rfl) hA) ed_nil))) (by show 3 ≤ 100000; decide))) (ei_cons (ei_d (ed_tup (ed_cons (ed_ev (ev_var rfl) (.int _)) (ed_cons (ed_ev (ev_var rfl) hB) (ed_cons (ed_ev (ev_var rfl) hB) ed_nil))) (by show 3 ≤ 100000; decide))) (ei_cons (ei_d (ed_tup (ed_cons (ed_ev (ev_var rfl) (.int _)) (ed_cons (ed_ev (ev_var rfl) hA) (ed_cons (ed_ev (ev_var rfl) hB) ed_nil))) (by show 3 ≤ 100000; decide))) (ei_cons (ei_d (ed_tup (ed_cons (ed_ev (ev_var rfl) (.int _)) (ed_cons (ed_catL (ed_ev (ev_var rfl) hA) (ed_lst (ed_cons (ed_ev (ev_var rfl) (.int _)) ed_nil) (by show 1 ≤ 100000; decide)) (by simp only [natsD_len, List.length_cons, List.length_nil]; omega)) (ed_cons (ed_ev (ev_var rfl) hB) ed_nil))) (by show 3 ≤ 100000; decide))) ei_nil)))))) (by show 6 ≤ 100000; decide)) (Ex.refl _) fun p4 ys4 H4 hp4 e4 hl al s2 hs => ?_
  obtain rfl : s2 = [some (.ref a), some (.ref c), some bv, some (.int (k : Nat)), some va, some vb, some (.int (n : Nat)), some (.int (m : Nat)), some (.ref p4), none, none, none] := hs
  have hA := hA.ex e4
  have hB := hB.ex e4
  have hV := hV.ex e4
  have lay := lay.ex e4
  have eH := eH.trans e4
  have al := al.ex (hide_sub.trans nw_sub)
  refine s_asgLPs (G := H4) (ei_cat (K := K) (os2 := bent1 k n m r1 r2) (ev_var rfl) hl al (ei_lst (K := K) (ei_cons (ei_d (ed_tup (ed_cons (ed_ev (ev_var rfl) (.int _)) (ed_cons (ed_ev (ev_var rfl) hA) (ed_cons (ed_catL (ed_ev (ev_var rfl) hB) (ed_lst (ed_cons (ed_ev (ev_var rfl) (.int _)) ed_nil) (by show 1 ≤ 100000; decide)) (by simp only [natsD_len, List.length_cons, List.length_nil]; omega)) ed_nil))) (by show 3 ≤ 100000; decide))) (ei_cons (ei_d (ed_tup (ed_cons (ed_ev (ev_var rfl) (.int _)) (ed_cons (ed_slL (ed_ev (ev_var rfl) hA) eo_none (eo_some ev_negone)) (ed_cons (ed_ev (ev_var rfl) hB) ed_nil))) (by show 3 ≤ 100000; decide))) (ei_cons (ei_d (ed_tup (ed_cons (ed_ev (ev_var rfl) (.int _)) (ed_cons (ed_ev (ev_var rfl) hA) (ed_cons (ed_slL (ed_ev (ev_var rfl) hB) eo_none (eo_some ev_negone)) ed_nil))) (by show 3 ≤ 100000; decide))) (ei_cons (ei_d (ed_tup (ed_cons (ed_ev (ev_var rfl) (.int _)) (ed_cons (ed_rev (ed_ev (ev_var rfl) hA)) (ed_cons (ed_ev (ev_var rfl) hB) ed_nil))) (by show 3 ≤ 100000; decide))) ei_nil)))) (by show 4 ≤ 100000; decide)) (by simp only [List.length_append, bl0, bl1, bl2, bl3, bl4, bl5, bl6, bl7, bl8, bl9, bl10]; omega)) (Ex.refl _) fun p5 ys5 H5 hp5 e5 hl al s2 hs => ?_
  obtain rfl : s2 = [some (.ref a), some (.ref c), some bv, some (.int (k : Nat)), some va, some vb, some (.int (n : Nat)), some (.int (m : Nat)), some (.ref p5), none, none, none] := hs
  have hA := hA.ex e5
  have hB := hB.ex e5
  have hV := hV.ex e5
  have lay := lay.ex e5
  have eH := eH.trans e5
  have al := al.ex (hide_sub.trans nw_sub)
  refine s_asgLPs (G := H5) (ei_cat (K := K) (os2 := bent2 k n m r1 r2) (ev_var rfl) hl al (ei_lst (K := K) (ei_cons (ei_d (ed_tup (ed_cons (ed_ev (ev_var rfl) (.int _)) (ed_cons (ed_ev (ev_var rfl) hA) (ed_cons (ed_rev (ed_ev (ev_var rfl) hB)) ed_nil))) (by show 3 ≤ 100000; decide))) (ei_cons (ei_d (ed_tup (ed_cons (ed_ev (ev_var rfl) (.int _)) (ed_cons (ed_catL (ed_ev (ev_var rfl) hA) (ed_slL (ed_ev (ev_var rfl) hA) eo_none (eo_some ev_c)) (by have := cut_le (ds := natsD r1) (lo := none) (hi := some 1); simp only [natsD_len] at *; omega)) (ed_cons (ed_ev (ev_var rfl) hB) ed_nil))) (by show 3 ≤ 100000; decide))) (ei_cons (ei_d (ed_tup (ed_cons (ed_ev (ev_var rfl) (.int _)) (ed_cons (ed_ev (ev_var rfl) hA) (ed_cons (ed_catL (ed_ev (ev_var rfl) hB) (ed_lst (ed_cons (ed_ev (ev_var rfl) (.int _)) ed_nil) (by show 1 ≤ 100000; decide)) (by simp only [natsD_len, List.length_cons, List.length_nil]; omega)) ed_nil))) (by show 3 ≤ 100000; decide))) (ei_cons (ei_d (ed_tup (ed_cons (ed_ev (ev_var rfl) (.int _)) (ed_cons (ed_lst (ed_cons (ed_ev (ev_var rfl) (.int _)) ed_nil) (by show 1 ≤ 100000; decide)) (ed_cons (ed_ev (ev_var rfl) hB) ed_nil))) (by show 3 ≤ 100000; decide))) ei_nil)))) (by show 4 ≤ 100000; decide)) (by simp only [List.length_append, bl0, bl1, bl2, bl3, bl4, bl5, bl6, bl7, bl8, bl9, bl10]; omega)) (Ex.refl _) fun p6 ys6 H6 hp6 e6 hl al s2 hs => ?_
  obtain rfl : s2 = [some (.ref a), some (.ref c), some bv, some (.int (k : Nat)), some va, some vb, some (.int (n : Nat)), some (.int (m : Nat)), some (.ref p6), none, none, none] := hs
  have hA := hA.ex e6
  have hB := hB.ex e6
  have hV := hV.ex e6
  have lay := lay.ex e6
  have eH := eH.trans e6
  have al := al.ex (hide_sub.trans nw_sub)
  refine s_asgLPs (G := H6) (ei_cat (K := K) (os2 := bent3 k n m r1 r2) (ev_var rfl) hl al (ei_lst (K := K) (ei_cons (ei_d (ed_tup (ed_cons (ed_ev (ev_var rfl) (.int _)) (ed_cons (ed_tupleL (ed_ev (ev_var rfl) hA)) (ed_cons (ed_ev (ev_var rfl) hB) ed_nil))) (by show 3 ≤ 100000; decide))) (ei_cons (ei_d (ed_tup (ed_cons (ed_ev (ev_var rfl) (.int _)) (ed_cons (ed_tupleL (ed_ev (ev_var rfl) hA)) (ed_cons (ed_tupleL (ed_ev (ev_var rfl) hB)) ed_nil))) (by show 3 ≤ 100000; decide))) (ei_cons (ei_d (ed_lst (ed_cons (ed_ev (ev_var rfl) (.int _)) (ed_cons (ed_ev (ev_var rfl) hA) (ed_cons (ed_ev (ev_var rfl) hB) ed_nil))) (by show 3 ≤ 100000; decide))) (ei_cons (ei_d (ed_tup (ed_cons (ed_ev (ev_var rfl) (.int _)) (ed_cons (ed_ev (ev_var rfl) hA) ed_nil)) (by show 2 ≤ 100000; decide))) ei_nil)))) (by show 4 ≤ 100000; decide)) (by simp only [List.length_append, bl0, bl1, bl2, bl3, bl4, bl5, bl6, bl7, bl8, bl9, bl10]; omega)) (Ex.refl _) fun p7 ys7 H7 hp7 e7 hl al s2 hs => ?_
  obtain rfl : s2 = [some (.ref a), some (.ref c), some bv, some (.int (k : Nat)), some va, some vb, some (.int (n : Nat)), some (.int (m : Nat)), some (.ref p7), none, none, none] := hs
  have hA := hA.ex e7
  have hB := hB.ex e7
  have hV := hV.ex e7
  have lay := lay.ex e7
  have eH := eH.trans e7
  have al := al.ex (hide_sub.trans nw_sub)
  refine s_asgLPs (G := H7) (ei_cat (K := K) (os2 := bent4 k n m r1 r2) (ev_var rfl) hl al (ei_lst (K := K) (ei_cons (ei_d (ed_tup (ed_cons (ed_ev (ev_var rfl) hA) (ed_cons (ed_ev (ev_var rfl) hB) ed_nil)) (by show 2 ≤ 100000; decide))) (ei_cons (ei_d (ed_tup (ed_cons (ed_ev (ev_var rfl) (.int _)) (ed_cons (ed_ev (ev_var rfl) hA) (ed_cons (ed_ev (ev_var rfl) hB) (ed_cons (ed_ev (ev_var rfl) (.int _)) ed_nil)))) (by show 4 ≤ 100000; decide))) (ei_cons (ei_d (ed_tup (ed_cons (ed_ev (ev_var rfl) (.int _)) (ed_cons (ed_ev (ev_var rfl) hA) (ed_cons (ed_ev (ev_var rfl) hB) (ed_cons (ed_ev ev_c .non) ed_nil)))) (by show 4 ≤ 100000; decide))) (ei_cons (ei_d (ed_tup (ed_cons (ed_tup (ed_cons (ed_ev (ev_var rfl) (.int _)) ed_nil) (by show 1 ≤ 100000; decide)) (ed_cons (ed_ev (ev_var rfl) hA) (ed_cons (ed_ev (ev_var rfl) hB) ed_nil))) (by show 3 ≤ 100000; decide))) (ei_cons (ei_d (ed_tup (ed_cons (ed_ev (ev_var rfl) (.int _)) (ed_cons (ed_ev ev_c .non) (ed_cons (ed_ev (ev_var rfl) hB) ed_nil))) (by show 3 ≤ 100000; decide))) ei_nil))))) (by show 5 ≤ 100000; decide)) (by simp only [List.length_append, bl0, bl1, bl2, bl3, bl4, bl5, bl6, bl7, bl8, bl9, bl10]; omega)) (Ex.refl _) fun p8 ys8 H8 hp8 e8 hl al s2 hs => ?_
  obtain rfl : s2 = [some (.ref a), some (.ref c), some bv, some (.int (k : Nat)), some va, some vb, some (.int (n : Nat)), some (.int (m : Nat)), some (.ref p8), none, none, none] := hs
  have ll := al.length
  simp only [List.length_append, bl0, bl1, bl2, bl3, bl4] at ll
  refine q_appP (G := H7) (P := fun v H => Dx H v (.tuple [.int (k : Nat), .list (natsD r1), .none])) up_dx hl (ev_var rfl) (ed_tup (ed_cons (ed_ev (ev_var rfl) (.int _)) (ed_cons (ed_ev (ev_var rfl) hA) (ed_cons (ed_ev ev_c .non) ed_nil))) (by show 3 ≤ 100000; decide)) e8 (by omega) fun y H9 e9 hy => ?_
  have hN : Nw H7 H8 H9 p8 = none := nw_none hp8 hl
  have eM : Ex H7 (upd H9 p8 (.lst (ys8 ++ [y]))) := Ex.mut (e8.trans e9) hp8
  have eN : ∀ {B : Hp}, Ex B H9 → B p8 = none → Ex B (upd H9 p8 (.lst (ys8 ++ [y]))) := fun {B} e hb b v z => by
    have nb : b ≠ p8 := fun z2 => by rw [z2, hb] at z; cases z
    rw [upd_ne nb]; exact e b v z
  have al := ItAll.append (al.ex (eN ((hide_sub.trans nw_sub).trans e9) hide_self)) (show ItAll K _ [y] (bent5 k n m r1 r2) from .cons (o := some _) (hy.ex (eN nw_sub hN)) .nil)
  have hl : (upd H9 p8 (.lst (ys8 ++ [y]))) p8 = some (.lst (ys8 ++ [y])) := upd_same
  have hA := hA.ex eM
  have hB := hB.ex eM
  have hV := hV.ex eM
  have lay := lay.ex eM
  have eH := eH.trans eM
  generalize upd H9 p8 (.lst (ys8 ++ [y])) = H10 at *
  refine s_asgLPs (G := H10) (ei_cat (K := K) (os2 := bent6 k n m r1 r2) (ev_var rfl) hl al (ei_lst (K := K) (ei_cons (ei_d (ed_tup (ed_cons (ed_ev ev_c .non) (ed_cons (ed_ev (ev_var rfl) hA) (ed_cons (ed_ev (ev_var rfl) hB) ed_nil))) (by show 3 ≤ 100000; decide))) (ei_cons (ei_d (ed_tup (ed_cons (ed_ev ev_c (.str _)) (ed_cons (ed_ev (ev_var rfl) hA) (ed_cons (ed_ev (ev_var rfl) hB) ed_nil))) (by show 3 ≤ 100000; decide))) (ei_cons (ei_d (ed_tup (ed_cons (ed_ev ev_negone (.int _)) (ed_cons (ed_ev (ev_var rfl) hA) (ed_cons (ed_ev (ev_var rfl) hB) ed_nil))) (by show 3 ≤ 100000; decide))) (ei_cons (ei_d (ed_tup (ed_cons (ed_ev (ev_var rfl) (.int _)) (ed_cons (ed_ev (ev_var rfl) hA) (ed_cons (ed_ev (ev_var rfl) hB) ed_nil))) (by show 3 ≤ 100000; decide))) (ei_cons (ei_d (ed_tup (ed_cons (ed_ev (ev_var rfl) (.int _)) (ed_cons (ed_catL (ed_ev (ev_var rfl) hA) (ed_lst (ed_cons (ed_ev ev_c .non) ed_nil) (by show 1 ≤ 100000; decide)) (by simp only [natsD_len, List.length_cons, List.length_nil]; omega)) (ed_cons (ed_ev (ev_var rfl) hB) ed_nil))) (by show 3 ≤ 100000; decide))) ei_nil))))) (by show 5 ≤ 100000; decide)) (by simp only [List.length_append, bl0, bl1, bl2, bl3, bl4, bl5, bl6, bl7, bl8, bl9, bl10]; omega)) (Ex.refl _) fun p11 ys11 H11 hp11 e11 hl al s2 hs => ?_
  obtain rfl : s2 = [some (.ref a), some (.ref c), some bv, some (.int (k : Nat)), some va, some vb, some (.int (n : Nat)), some (.int (m : Nat)), some (.ref p11), none, none, none] := hs
  have hA := hA.ex e11
  have hB := hB.ex e11
  have hV := hV.ex e11
  have lay := lay.ex e11
  have eH := eH.trans e11
  have al := al.ex (hide_sub.trans nw_sub)
  refine s_asgLPs (G := H11) (ei_cat (K := K) (os2 := bent7 k n m r1 r2) (ev_var rfl) hl al (ei_lst (K := K) (ei_cons (ei_d (ed_tup (ed_cons (ed_ev (ev_var rfl) (.int _)) (ed_cons (ed_catL (ed_lst (ed_cons (ed_ev ev_negone (.int _)) ed_nil) (by show 1 ≤ 100000; decide)) (ed_ev (ev_var rfl) hA) (by simp only [natsD_len, List.length_cons, List.length_nil]; omega)) (ed_cons (ed_ev (ev_var rfl) hB) ed_nil))) (by show 3 ≤ 100000; decide))) (ei_cons (ei_d (ed_tup (ed_cons (ed_ev (ev_var rfl) (.int _)) (ed_cons (ed_ev (ev_var rfl) hA) (ed_cons (ed_catL (ed_lst (ed_cons (ed_ev (ev_var rfl) (.int _)) ed_nil) (by show 1 ≤ 100000; decide)) (ed_ev (ev_var rfl) hB) (by simp only [natsD_len, List.length_cons, List.length_nil]; omega)) ed_nil))) (by show 3 ≤ 100000; decide))) (ei_cons (ei_d (ed_tup (ed_cons (ed_ev (ev_var rfl) (.int _)) (ed_cons (ed_lst ed_nil (by show 0 ≤ 100000; decide)) (ed_cons (ed_ev (ev_var rfl) hB) ed_nil))) (by show 3 ≤ 100000; decide))) (ei_cons (ei_d (ed_tup (ed_cons (ed_ev (ev_var rfl) (.int _)) (ed_cons (ed_ev (ev_var rfl) hA) (ed_cons (ed_lst ed_nil (by show 0 ≤ 100000; decide)) ed_nil))) (by show 3 ≤ 100000; decide))) ei_nil)))) (by show 4 ≤ 100000; decide)) (by simp only [List.length_append, bl0, bl1, bl2, bl3, bl4, bl5, bl6, bl7, bl8, bl9, bl10]; omega)) (Ex.refl _) fun p12 ys12 H12 hp12 e12 hl al s2 hs => ?_
  obtain rfl : s2 = [some (.ref a), some (.ref c), some bv, some (.int (k : Nat)), some va, some vb, some (.int (n : Nat)), some (.int (m : Nat)), some (.ref p12), none, none, none] := hs
  have hA := hA.ex e12
  have hB := hB.ex e12
  have hV := hV.ex e12
  have lay := lay.ex e12
  have eH := eH.trans e12
  have al := al.ex (hide_sub.trans nw_sub)
  refine q_asgP (G := H12) (P := fun v H => Dx H v (.list [.list (r1.map truD), .list (r2.map truD)])) (ed_lcTwo (d := fun i => .list (([r1, r2].getD i []).map truD)) (ev_var rfl) (ev_var rfl) fun G' eG' i z hz => turn_name (fun _ => rfl) ?_) (Ex.refl _) fun vt H13 e13 hT => ?_
  · have hz2 : Dx G' z (.list (natsD ([r1, r2].getD i []))) ∧ ([r1, r2].getD i []).length ≤ 5 := by
      match i, hz with
      | 0, hz => cases hz; exact ⟨hA.ex eG', s1⟩
      | 1, hz => cases hz; exact ⟨hB.ex eG', s2⟩
    obtain ⟨hz2, sr⟩ := hz2
    generalize [r1, r2].getD i [] = r at *
    obtain ⟨lz, zs, rfl, hzs, alz⟩ := dx_lst hz2
    obtain rfl := dx_nats alz
    refine ed_lp (lp_list (fun _ => true) (fun i v _ => v = truV (r.getD i 0)) (fun _ => up_s) (ev_var rfl) hzs (by rw [natsV_len]; omega) fun j x hj => turn_name (fun _ => rfl) ?_) fun ys h al2 => ?_
    · obtain ⟨m', hm', rfl⟩ := at_natsV hj
      have em : r.getD j 0 = m' := by rw [List.getD_eq_getElem?_getD, hm', Option.getD_some]
      rw [em]
      refine ep_ev (ev_if (b := decide (m' < 2)) (et_test (ev_op (x := .int (m' : Nat)) (y := .int 2) (ev_var rfl) ev_c (rv_b (congrArg V.bl (decide_eq_decide.mpr (by omega)))))) (fun hc => ev_is (ev_op (x := .int (m' : Nat)) (y := .int 1) (ev_var rfl) ev_c (rv_eq rfl)) ?_) fun hc => ev_is (ev_var rfl) ?_) fun _ _ => rfl
      · unfold truV; rw [if_pos (of_decide_eq_true hc)]
        exact congrArg V.bl (decide_eq_decide.mpr ⟨fun z => V.int.inj z, fun z => congrArg V.int z⟩)
      · unfold truV; rw [if_neg (of_decide_eq_false hc)]
    · rw [Al.eq (v := fun i => truV (r.getD i 0)) al2, ixs_all, map_getD (fun x => truV x) 0 r (natsV_len r)]
      have all : ∀ r : List Nat, DxAll h (r.map truV) (r.map truD) := fun r => by
        induction r with
        | nil => exact .nil
        | cons x r ih => exact .cons (tru_dx x) ih
      exact all r
  have hA := hA.ex e13
  have hB := hB.ex e13
  have hV := hV.ex e13
  have lay := lay.ex e13
  have eH := eH.trans e13
  have hT := hT.ex nw_sub
  have hl := e13 _ _ hl
  have al := al.ex e13
  refine s_asgLPs (G := H13) (ei_cat (K := K) (os2 := bent8 k n m r1 r2) (ev_var rfl) hl al (ei_lst (K := K) (ei_cons (ei_d (ed_tup (ed_cons (ed_ev (ev_boolI (ev_var rfl)) (.bl _)) (ed_cons (ed_ev (ev_var rfl) hA) (ed_cons (ed_ev (ev_var rfl) hB) ed_nil))) (by show 3 ≤ 100000; decide))) (ei_cons (ei_d (ed_tup (ed_cons (ed_ev (ev_var rfl) (.int _)) (ed_cons (ed_ixL (i := 0) (ed_ev (ev_var rfl) hT) ev_c rfl) (ed_cons (ed_ev (ev_var rfl) hB) ed_nil))) (by show 3 ≤ 100000; decide))) (ei_cons (ei_d (ed_tup (ed_cons (ed_ev (ev_var rfl) (.int _)) (ed_cons (ed_ev (ev_var rfl) hA) (ed_cons (ed_ixL (i := 1) (ed_ev (ev_var rfl) hT) ev_c rfl) ed_nil))) (by show 3 ≤ 100000; decide))) (ei_cons (ei_d (ed_tup (ed_cons (ed_ev (ev_var rfl) (.int _)) (ed_cons (ed_ev (ev_var rfl) (.int _)) (ed_cons (ed_ev (ev_var rfl) (.int _)) ed_nil))) (by show 3 ≤ 100000; decide))) ei_nil)))) (by show 4 ≤ 100000; decide)) (by simp only [List.length_append, bl0, bl1, bl2, bl3, bl4, bl5, bl6, bl7, bl8, bl9, bl10]; omega)) (Ex.refl _) fun p14 ys14 H14 hp14 e14 hl al s2 hs => ?_
  obtain rfl : s2 = [some (.ref a), some (.ref c), some bv, some (.int (k : Nat)), some va, some vb, some (.int (n : Nat)), some (.int (m : Nat)), some (.ref p14), some vt, none, none] := hs
  have hA := hA.ex e14
  have hB := hB.ex e14
  have hV := hV.ex e14
  have lay := lay.ex e14
  have eH := eH.trans e14
  have hT := hT.ex e14
  have al := al.ex (hide_sub.trans nw_sub)
  refine s_asgLPs (G := H14) (ei_cat (K := K) (os2 := bent9 k n m r1 r2) (ev_var rfl) hl al (ei_lst (K := K) (ei_cons (ei_d (ed_tup (ed_cons (ed_ev (ev_var rfl) (.int _)) (ed_cons (ed_dic0 (ev_var rfl)) (ed_cons (ed_ev (ev_var rfl) hB) ed_nil))) (by show 3 ≤ 100000; decide))) (ei_cons (ei_d (ed_tup (ed_cons (ed_ev (ev_var rfl) (.int _)) (ed_cons (ed_lst (ed_cons (ed_ev (ev_var rfl) hA) ed_nil) (by show 1 ≤ 100000; decide)) (ed_cons (ed_lst (ed_cons (ed_ev (ev_var rfl) hB) ed_nil) (by show 1 ≤ 100000; decide)) ed_nil))) (by show 3 ≤ 100000; decide))) (ei_cons (ei_d (ed_tup (ed_cons (ed_ev (ev_var rfl) (.int _)) (ed_cons (ed_ev (ev_var rfl) hA) (ed_cons (ed_ev ev_c (.str _)) ed_nil))) (by show 3 ≤ 100000; decide))) ei_nil))) (by show 3 ≤ 100000; decide)) (by simp only [List.length_append, bl0, bl1, bl2, bl3, bl4, bl5, bl6, bl7, bl8, bl9, bl10]; omega)) (Ex.refl _) fun p15 ys15 H15 hp15 e15 hl al s2 hs => ?_
  obtain rfl : s2 = [some (.ref a), some (.ref c), some bv, some (.int (k : Nat)), some va, some vb, some (.int (n : Nat)), some (.int (m : Nat)), some (.ref p15), some vt, none, none] := hs
  have hA := hA.ex e15
  have hB := hB.ex e15
  have hV := hV.ex e15
  have lay := lay.ex e15
  have eH := eH.trans e15
  have hT := hT.ex e15
  have al := al.ex (hide_sub.trans nw_sub)
  have hP : EvI K (tVar 1) [some (.ref a), some (.ref c), some bv, some (.int (k : Nat)), some va, some vb, some (.int (n : Nat)), some (.int (m : Nat)), some (.ref p15), some vt, none, none] H15 none := ep_ev (ev_var (v := .ref c) rfl) fun _ e => ⟨c, p, rfl, lay.ex e, ok⟩
  refine (ei_cat (K := K) (os2 := bent10 k n m r1 r2) (ev_var rfl) hl al (ei_lst (K := K) (ei_cons (ei_d (ed_ev ev_c .non)) (ei_cons (ei_d (ed_ev ev_c (.int _))) (ei_cons (ei_d (ed_ev ev_c (.str _))) (ei_cons (ei_d (ed_tup ed_nil (by show 0 ≤ 100000; decide))) (ei_cons (ei_d (ed_lst ed_nil (by show 0 ≤ 100000; decide))) (ei_cons (ei_d ed_dicE) (ei_cons hP (ei_cons (ei_d (ed_tup (ed_cons (ed_ev ev_c (.int _)) (ed_cons (ed_lst (ed_cons (ed_ev ev_c (.int _)) ed_nil) (by show 1 ≤ 100000; decide)) (ed_cons (ed_lst (ed_cons (ed_ev ev_c (.int _)) ed_nil) (by show 1 ≤ 100000; decide)) ed_nil))) (by show 3 ≤ 100000; decide))) (ei_cons (ei_d (ed_tup (ed_cons (ed_ev ev_c (.int _)) (ed_cons (ed_lst (ed_cons (ed_ev ev_c (.int _)) (ed_cons (ed_ev ev_c (.int _)) ed_nil)) (by show 2 ≤ 100000; decide)) (ed_cons (ed_lst (ed_cons (ed_ev ev_c (.int _)) ed_nil) (by show 1 ≤ 100000; decide)) ed_nil))) (by show 3 ≤ 100000; decide))) (ei_cons (ei_d (ed_tup (ed_cons (ed_ev ev_c (.int _)) (ed_cons (ed_lst (ed_cons (ed_ev ev_c (.int _)) ed_nil) (by show 1 ≤ 100000; decide)) (ed_cons (ed_lst (ed_cons (ed_ev ev_c (.int _)) (ed_cons (ed_ev ev_c (.int _)) ed_nil)) (by show 2 ≤ 100000; decide)) ed_nil))) (by show 3 ≤ 100000; decide))) (ei_cons (ei_d (ed_tup (ed_cons (ed_ev ev_c (.int _)) (ed_cons (ed_ev ev_c (.int _)) (ed_cons (ed_ev ev_c (.int _)) ed_nil))) (by show 3 ≤ 100000; decide))) (ei_cons (ei_d (ed_ev ev_c (.str _))) ei_nil)))))))))))) (by show 12 ≤ 100000; decide)) (by simp only [List.length_append, bl0, bl1, bl2, bl3, bl4, bl5, bl6, bl7, bl8, bl9, bl10]; omega)) H15 (Ex.refl _) _ fun pz ys H' hp e hl al => ?_
  refine q _ _ (eH.trans e) ⟨pz, ys, m, rfl, hl, by omega, ?_⟩
  unfold bentOs
  exact al.ex (hide_sub.trans nw_sub)
end
end SF
set_option Elab.async false
set_option linter.all false
set_option maxRecDepth 100000
set_option maxHeartbeats 4000000
namespace SF
open PySem PySem.Spec PyProof.Rows L2 Evl
section
variable {P : Program} {w : World} {K : PySem.W.Frag} {mg : Str → Option Value} {base : Heap}

/-- a def that keeps its promise where no object is being shown -/
structure FnOkG (P : Program) (w : World) (K : PySem.W.Frag) (mg : Str → Option Value) (base : Heap) (k : Nat) (f : Addr) (fd : FuncData) (ps : List Str) (sp : Sp) : Prop where
  cnt : ∀ {xs : List V} {hp : Hp} {q : VK} {ex : XK}, sp xs hp q ex → xs.length = ps.length
  go : ∀ (B : Around) (ot : List Env) (st : Shared) (hp : Hp) (ar : Args) (us : List Value) (xs : List V) (q : VK) (ex : XK), B.guards = some [] → Room k B → Env0 P w K mg base B ot st hp → BindsTo st fd ar (ps.zip us) → Vals xs us → sp xs hp q ex →
    codeAny (model P w) B (.call (.ref f) ar) (CR CX0 ot P w hp st q ex) st
theorem fnG_of {P : Program} {w : World} {K : PySem.W.Frag} {mg : Str → Option Value} {base : Heap} {x qual : Str} {st : Stmt} {f : Addr} {fd : FuncData} {N ps : List Str} {k : Nat} {sp : Sp} (F : Fun K x qual st f fd) (S : FnScope N ps (defScope st)) (cnt : ∀ {xs : List V} {hp : Hp} {q : VK} {ex : XK}, sp xs hp q ex → xs.length = ps.length)
    (bd : ∀ (cdv : Value) (B : Around) (ot : List Env) (sh : Shared) (hp : Hp) (xs : List V) (q : VK) (ex : XK), (B.deeper (envOfC qual (defScope st) sh.heap.objs.size f cdv)).guards = some [] → Room k (B.deeper (envOfC qual (defScope st) sh.heap.objs.size f cdv)) → sp xs hp q ex →
      ∃ t, PSs (cxOf CX0 P w K mg base N qual (defScope st) f cdv B ot sh hp ex).nox (defBody st) t ∧ t { nx := fun _ h' => q .non h', rt := q } (start N xs) hp) : FnOkG P w K mg base (k + 1) f fd ps sp := by
  obtain ⟨oc, od, kV, doc, pm, an, cdv, ct, osl, rfl, lk, hcd⟩ := F.ex
  refine ⟨cnt, fun B ot sh hp ar us xs q ex hg rm ev bt rl pr => ?_⟩
  have kin : K.In sh.heap := ev.mod.kin.keeps fun b o z => (ev.bs b o z).1
  have nol : sh.heap.NoLimit := ev.mod.nolimit.keeps fun b o z => (ev.bs b o z).1
  have kinds : ∀ y ∈ ps.zip us, (defScope st).names.lookup y.1 = some .local ∨ ((defScope st).names.lookup y.1 = some .cell ∧ ((cellsFrom (sh.heap.objs.size + 1) (defScope st).names []).lookup y.1).isSome = true) := fun ⟨n, v⟩ hy =>
    (S.par n (List.of_mem_zip hy).1).imp (fun z => z) fun z => ⟨z, PySem.W.cellsFrom_some _ _ _ (.inl z)⟩
  refine codeAny_call_function rm.depth (kin _ _ lk) rfl S.co S.gen rfl (PySem.W.codeRec_of kin hcd) (bt _ _ _ _ (wpAny_newFunctionEnv_cells S.kind kinds fun env he s1 x => ?_))
  subst he
  refine ⟨nol.keeps x.toInCall.keep, codeAny_func ?_⟩
  obtain ⟨t, tr, rd⟩ := bd cdv B ot sh hp xs q ex hg (rm.deeper _) pr
  have iv : Inv (cxOf CX0 P w K mg base N qual (defScope st) f cdv B ot sh hp ex) [] (start N xs) hp s1 := inv_start S rm.hd ev (cnt pr) rl x
  refine wpAny_mono (tr.nox.run [] s1 (start N xs) hp _ iv rd) (fun fl s' out => ?_) fun _ _ z => z
  cases fl with
  | ret u => obtain ⟨v, σ', h', J, rv, z⟩ := out; exact ⟨v, h', J.os, J.bare, J.base, J.hok, rv, z⟩
  | next => obtain ⟨σ', h', J, z⟩ := out; exact ⟨V.non, h', J.os, J.bare, J.base, J.hok, rfl, z⟩
  | brk => obtain ⟨_, _, _, z⟩ := out; exact z.elim
  | cont => obtain ⟨_, _, _, z⟩ := out; exact z.elim
/-- a def of the top that keeps its promise so -/
structure DnG (P : Program) (w : World) (K : PySem.W.Frag) (mg : Str → Option Value) (base : Heap) (k : Nat) (x : Str) (ps : List Str) (sp : Sp) : Prop where
  ex : ∃ f fd, FnOkG P w K mg base k f fd ps sp ∧ mg x = some (.ref f) ∧ PySem.W.keepIn K (.ref f) = true ∧ Binds K fd ps []
theorem runG {X : Cx} {k : Nat} {f : Addr} {fd : FuncData} {ps : List Str} {sp : Sp} {pins : List (Addr × Obj)} {σ : L2.St} {hp : Hp} {st : Shared} {q : VK} {us : List Value} {xs : List V} (F : FnOkG X.prog X.w X.K X.mg X.base k f fd ps sp) (hg : X.A.guards = some []) (rm : Room k X.A) (b : Binds X.K fd ps [])
    (I : Inv X pins σ hp st) (rl : Vals xs us) (pr : sp xs hp q E0) : wpAny (model X.prog X.w) X.A (call (.ref f) us) (EP X pins σ q) X.xe st := by
  have ln : (us ++ []).length = ps.length := by rw [List.append_nil, ← rl.length]; exact F.cnt pr
  have bt := b st us I.kIn ln
  rw [List.append_nil] at bt
  refine wpAny_call (codeAny_mono (F.go X.A X.stack st hp ⟨us, []⟩ us xs q E0 hg rm I.env0 bt rl pr) fun r s' z => ?_)
  cases r with
  | error e => exact z.elim
  | ok fl => cases fl with
    | ret u => exact I.after z
    | _ => exact z.elim
theorem pe_fnG {X : Cx} {k j : Nat} {x : Str} {ps : List Str} {sp : Sp} {p pos : Pos} {e : Expr} {es : List Expr} {t : TA} (D : DnG X.prog X.w X.K X.mg X.base k x ps sp) (gd : X.A.guards = some []) (hr : Room j X.A) (hk : k ≤ j) (hg : Gl X x) (ha : PA X (e :: es) t)
    (hdb : (x == ("__debug__" : Str)) = false := by decide) (he : starEach (e :: es) X.env = (false, eval e X.env) :: starEach es X.env := by rfl) (hpl : (backTo pos (starEach es X.env)).any (·.1) = false := by rfl) : PE X (.Call (.Name x p) (e :: es) [] pos) (tCall sp [] E0 t) := by
  obtain ⟨f, fd, F, hm, kp, b⟩ := D.ex
  refine ⟨fun pins s σ H Q I h => wpAny_Call_Name_kw (ld_glob I hg hm (PySem.W.callWith_K (h₀ := X.base) I.ok.mod.kin kp (thn (ha.run pos pins s σ H _ I h) fun us s1 ⟨vs, H1, I1, r, q⟩ => ⟨I1.kIn, ?_⟩) he hpl) hdb)⟩
  have q : sp (vs ++ []) H1 Q E0 := q
  rw [List.append_nil] at q
  exact runG F gd (hr.mono hk) b I1 r q
theorem dnG_of {P : Program} {w : World} {K : PySem.W.Frag} {mg : Str → Option Value} {base : Heap} {k : Nat} {x : Str} {st : Stmt} {N ps : List Str} {sp : Sp} (F : Df K mg x st) (S : FnScope N ps (defScope st))
    (hb : ∀ (kV doc pm : Value) (an : Option Addr) (cdv ct : Value) (us : List Value), us.length = ps.length → bindArgs (PySem.W.fnOf x x (defArgs st) (defBody st) (defScope st) .none kV doc pm an cdv ct) ⟨us, []⟩ = pure (ps.zip us))
    (cnt : ∀ {xs : List V} {hp : Hp} {q : VK} {ex : XK}, sp xs hp q ex → xs.length = ps.length)
    (body : ∀ (f : Addr) (cdv : Value) (A : Around) (outer : List Env) (s : Shared) (H : Hp) (vs : List V) (Q : VK) (E : XK), (A.deeper (envOfC x (defScope st) s.heap.objs.size f cdv)).guards = some [] → Room k (A.deeper (envOfC x (defScope st) s.heap.objs.size f cdv)) → sp vs H Q E →
      ∃ t, PSs (cxOf CX0 P w K mg base N x (defScope st) f cdv A outer s H E).nox (defBody st) t ∧ t { nx := fun _ H' => Q .non H', rt := Q } (start N vs) H) : DnG P w K mg base (k + 1) x ps sp := by
  obtain ⟨fd, G⟩ := F.fn
  exact ⟨⟨_, fd, fnG_of G S cnt fun cdv A outer s H vs Q E hg hr h => body _ cdv A outer s H vs Q E hg hr h, F.g, G.kp, G.binds hb⟩⟩
end
end SF
set_option Elab.async false
set_option linter.all false
set_option maxRecDepth 100000
set_option maxHeartbeats 4000000
namespace SF
open PySem PySem.Spec PyProof.Rows L2 Evl
/-! ### data that is small enough to be shown -/
def leafB : PyData → Bool
  | .none => true
  | .bool _ => true
  | .int i => decide (i.natAbs < 1000)
  | .str x => decide (x.cps.size ≤ 8) && x.cps.all (· < 0x110000)
  | _ => false
inductive Sm : Nat → PyData → Prop
  | leaf {n : Nat} {d : PyData} : leafB d = true → Sm n d
  | lst {n : Nat} {ds : List PyData} : ds.length ≤ 14 → (∀ x ∈ ds, Sm n x) → Sm (n + 1) (.list ds)
  | tup {n : Nat} {ds : List PyData} : ds.length ≤ 14 → (∀ x ∈ ds, Sm n x) → Sm (n + 1) (.tuple ds)
structure SmF (n : Nat) (d : PyData) : Prop where
  lay : d.canLay0 = true
  vis : d.showable = true
  ish : d.intsShort 13 = true
  wei : d.weight ≤ 20 ^ (n + 1)
  dep : d.depth ≤ n
theorem sm_all {n : Nat} : ∀ {ds : List PyData}, (∀ x ∈ ds, SmF n x) → PyData.canLayAll0 ds = true ∧ PyData.showableAll ds = true ∧ PyData.intsShortAll 13 ds = true ∧ PyData.weightAll ds ≤ (20 ^ (n + 1) + 1) * ds.length ∧ PyData.depthAll ds ≤ n
  | [], _ => ⟨rfl, rfl, rfl, Nat.zero_le _, Nat.zero_le _⟩
  | d :: ds, h => by
    have a := h d List.mem_cons_self
    obtain ⟨b1, b2, b3, b4, b5⟩ := sm_all fun x hx => h x (List.mem_cons_of_mem _ hx)
    refine ⟨?_, ?_, ?_, ?_, ?_⟩
    · simp only [PyData.canLayAll0, a.lay, b1, Bool.and_self]
    · simp only [PyData.showableAll, a.vis, b2, Bool.and_self]
    · simp only [PyData.intsShortAll, a.ish, b3, Bool.and_self]
    · simp only [PyData.weightAll, List.length_cons]
      have := a.wei
      rw [Nat.mul_add, Nat.mul_one]
      omega
    · simp only [PyData.depthAll]
      exact Nat.max_le.mpr ⟨a.dep, b5⟩
theorem pow20 (n : Nat) : 20 ≤ 20 ^ (n + 1) := by
  have := Nat.one_le_pow n 20 (by decide)
  rw [Nat.pow_succ]
  omega
theorem log_small {i : Nat} (h : i < 1000) : i.log2 < 10 := by
  by_cases z : i = 0
  · subst z; decide
  · exact (Nat.log2_lt z).mpr (by omega)
theorem sm_f {n : Nat} {d : PyData} (h : Sm n d) : SmF n d := by
  induction h with
  | @leaf n d h =>
    have p := pow20 n
    cases d with
    | none => exact ⟨rfl, rfl, rfl, Nat.zero_le _, Nat.zero_le _⟩
    | bool b => exact ⟨rfl, rfl, rfl, Nat.zero_le _, Nat.zero_le _⟩
    | int i =>
      have h1 : i.natAbs < 1000 := of_decide_eq_true h
      have h2 := log_small h1
      refine ⟨rfl, ?_, ?_, ?_, Nat.zero_le _⟩
      · simp only [PyData.showable, decide_eq_true_eq]; omega
      · simp only [PyData.intsShort, decide_eq_true_eq]
        exact PyData.shown_int_le (by omega)
      · simp only [PyData.weight]
        split <;> omega
    | str x =>
      have h1 : (decide (x.cps.size ≤ 8) && x.cps.all (· < 0x110000)) = true := h
      rw [Bool.and_eq_true] at h1
      have h2 : x.cps.size ≤ 8 := of_decide_eq_true h1.1
      refine ⟨?_, rfl, rfl, ?_, Nat.zero_le _⟩
      · simp only [PyData.canLay0]
        exact h1.2
      · simp only [PyData.weight]; omega
    | list _ => exact Bool.noConfusion h
    | tuple _ => exact Bool.noConfusion h
    | dict _ => exact Bool.noConfusion h
  | @lst n ds hl _ ih =>
    obtain ⟨b1, b2, b3, b4, b5⟩ := sm_all ih
    have p := pow20 n
    refine ⟨?_, ?_, ?_, ?_, ?_⟩
    · simp only [PyData.canLay0, b1]
    · simp only [PyData.showable, b2]
    · simp only [PyData.intsShort, b3]
    · simp only [PyData.weight]
      have := Nat.mul_le_mul_left (20 ^ (n + 1) + 1) hl
      rw [Nat.pow_succ 20 (n + 1)]
      omega
    · simp only [PyData.depth]; omega
  | @tup n ds hl _ ih =>
    obtain ⟨b1, b2, b3, b4, b5⟩ := sm_all ih
    have p := pow20 n
    refine ⟨?_, ?_, ?_, ?_, ?_⟩
    · simp only [PyData.canLay0, b1]
    · simp only [PyData.showable, b2]
    · simp only [PyData.intsShort, b3]
    · simp only [PyData.weight]
      have := Nat.mul_le_mul_left (20 ^ (n + 1) + 1) hl
      rw [Nat.pow_succ 20 (n + 1)]
      omega
    · simp only [PyData.depth]; omega
theorem SmF.len {n : Nat} {d : PyData} (f : SmF n d) : d.shown.length ≤ 15 * 20 ^ (n + 1) + 13 := by
  have := PyData.shown_le 13 (by decide) d (PyData.leavesShort_of_canLay0 13 d f.lay f.ish)
  have := f.wei
  omega
theorem sl_eq : sizeLine = 16777216 := by decide
theorem SmF.fits {n : Nat} {d : PyData} (f : SmF n d) (hn : n ≤ 3) : d.shown.length ≤ sizeLine := by
  have h := f.len
  have h2 : 20 ^ (n + 1) ≤ 20 ^ 4 := Nat.pow_le_pow_right (by decide) (by omega)
  have e : 20 ^ 4 = 160000 := by decide
  rw [sl_eq]
  omega
/-- what stands in the law's items -/
inductive Fit : PyData → Prop
  | sm {d : PyData} : Sm 3 d → Fit d
  | dic : Fit (.dict [])
  | tdic {k : Int} {ds : List PyData} : k.natAbs < 1000 → Sm 1 (.list ds) → Fit (.tuple [.int k, .dict [(.int k, .int 0)], .list ds])
section
variable {X : Cx} {pins : List (Addr × Obj)} {σ : L2.St} {H : Hp} {s : Shared}
/-- a dict of plain entries, as the heap has it -/
theorem dic_reads0 (I : Inv X pins σ H s) {a : Addr} (h : H a = some (.dK [])) : (a == sysModules) = false ∧ ∃ as, Reads s.heap (.ref a) (.dict []) as ∧ as = [a] := by
  obtain ⟨_, lo, vs, kv, o, es, ep, e1, e2, e3, _, e5, _⟩ := I.hok a _ h
  cases kv
  have e6 : es.toList = [] := by cases h : es.toList with
    | nil => rfl
    | cons x r => rw [h] at e5; cases e5
  refine ⟨lo, _, Reads.dict (kvs := []) e1 e2.1 e3 (by rw [e6]; exact .nil) (by rw [e6]; exact .nil), rfl⟩
theorem dic_reads1 (I : Inv X pins σ H s) {a : Addr} {k c : Int} (h : H a = some (.dK [(Sum.inl k, .int c)])) : (a == sysModules) = false ∧ ∃ as, Reads s.heap (.ref a) (.dict [(.int k, .int c)]) as ∧ as = [a] := by
  obtain ⟨_, lo, vs, kv, o, es, ep, e1, e2, e3, _, e5, _⟩ := I.hok a _ h
  cases kv with
  | cons r t =>
    cases t
    cases q : es.toList with
    | nil => rw [q] at e5; cases e5
    | cons x l =>
      rw [q] at e5
      cases e5 with
      | cons i1 i2 i3 =>
        cases i3
        obtain ⟨r1, r2⟩ := r
        rcases keyIs_shape i1 with ⟨i, t, ei, ek⟩ | ⟨y, t, ei, ek⟩
        · have ei' : (Sum.inl k : Key) = Sum.inl i := r1.trans ei
          cases ei'
          obtain ⟨t2, ev⟩ := r2
          refine ⟨lo, _, Reads.dict (kvs := [(.int k, .int c)]) e1 e2.1 e3 (as := [] ++ []) (bs := [] ++ []) ?_ ?_, rfl⟩
          · rw [q]
            show ReadsAll s.heap [x.key] [.int k] _
            rw [ek]
            exact .cons (.int _ _) .nil
          · rw [q]
            show ReadsAll s.heap [x.val] [.int c] _
            rw [i2, ev]
            exact .cons (.int _ _) .nil
        · have ei' : (Sum.inl k : Key) = Sum.inr y := r1.trans ei
          cases ei'
/-- repr(x) of such data -/
def rReprD : List V → Hp → VK → Prop := fun xs H Q => ∃ v d, xs = [v] ∧ Dx H v d ∧ Fit d ∧ Q (.str d.shown) H
theorem reads_sm (I : Inv X pins σ H s) {n : Nat} {a : Addr} {d : PyData} (hd : Dx H (.ref a) d) (f : SmF n d) : ∃ as, Reads s.heap (.ref a) d as := Dp.reads I d (.ref a) (.ref a) (dp_of hd f.lay) rfl
theorem call_reprD {j : Nat} (gd : X.A.guards = some []) (hr : Room j X.A) : CallR X (.builtin "repr") rReprD := by
  intro pins s σ H xs us Q I r h
  obtain ⟨v, d, rfl, hd, fit, q⟩ := h
  obtain ⟨u, rfl, ru⟩ := vals1 r
  have un := hr.un
  cases fit with
  | sm sm =>
    have f := sm_f sm
    have byRef : ∀ a : Addr, Dx H (.ref a) d → wpAny (model X.prog X.w) X.A (call (.builtin "repr") [.ref a]) (EP X pins σ Q) X.xe s := fun a hda => by
      obtain ⟨as, rd⟩ := reads_sm I hda f
      exact repr_of_reads' rd f.vis (PyData.noDict_hsm (PyData.hasDict_of_canLay d f.lay)) gd (by have := f.dep; omega) (fun _ _ e => e) (fun h' u tk k => ⟨.str _, H, I.kept k, ⟨u, rfl⟩, q⟩) (f.fits (Nat.le_refl _))
    cases hd with
    | non => cases ru; exact PySem.P.repr_of_none ⟨.str _, H, I.tok _, ⟨_, rfl⟩, q⟩
    | bl b => cases ru; exact PySem.P.repr_of_bool ⟨.str _, H, I.tok _, ⟨_, rfl⟩, q⟩
    | int i =>
      obtain ⟨t, rfl⟩ := ru
      have := f.vis
      simp only [PyData.showable, decide_eq_true_eq] at this
      exact PySem.P.repr_of_int this ⟨.str _, H, I.tok _, ⟨_, rfl⟩, q⟩
    | str x =>
      obtain ⟨t, rfl⟩ := ru
      exact PySem.P.repr_of_str ⟨.str _, H, I.tok _, ⟨_, rfl⟩, q⟩ (f.fits (Nat.le_refl _))
    | lst h1 h2 => cases ru; exact byRef _ (.lst h1 h2)
    | tup h1 h2 => cases ru; exact byRef _ (.tup h1 h2)
    | dic h1 h2 => exact Bool.noConfusion f.lay
  | dic =>
    cases hd with
    | dic h1 h2 =>
      cases h2
      cases ru
      obtain ⟨lo, as, rd, rfl⟩ := dic_reads0 I h1
      exact repr_of_reads' rd rfl (fun _ hm => by rw [← List.mem_singleton.mp hm] at lo; exact absurd lo (by decide)) gd (by show X.A.units + 2 < cLine; omega) (fun _ _ e => e) (fun h' u tk k => ⟨.str _, H, I.kept k, ⟨u, rfl⟩, q⟩) (by decide +kernel)
  | @tdic k ds hk sm =>
    have f := sm_f sm
    have fl := f.len
    cases hd with
    | @tup a xs _ h1 h2 =>
      cases ru
      cases h2 with
      | cons i1 h3 =>
        cases h3 with
        | cons i2 h4 =>
          cases h4 with
          | cons i3 h5 =>
            cases h5
            have := dx_int i1
            subst this
            cases i2 with
            | @dic b kvs _ g1 g2 =>
              cases g2 with
              | cons g3 g4 g5 =>
                cases g5
                rename_i key val
                have ekey : key = Sum.inl k := by
                  cases key with
                  | inl i => exact congrArg Sum.inl (V.int.inj (dx_int g3))
                  | inr z => exact nomatch dx_int g3
                subst ekey
                have := dx_int g4
                subst this
                obtain ⟨c, ys, rfl, l1, l2⟩ := dx_lst i3
                obtain ⟨lo, as, rd, rfl⟩ := dic_reads1 I g1
                obtain ⟨cs, rc⟩ := reads_sm I (.lst l1 l2) f
                obtain ⟨_, its, rv, o, e1, e2, n, e3⟩ := I.hok a _ h1
                have hz : (tupleText [PyData.shown (.int k), PyData.shown (.dict [(.int k, .int 0)]), PyData.shown (.list ds)]).length ≤ sizeLine := by
                  have z1 : (PyData.shown (.int k)).length ≤ 13 := PyData.shown_int_le (by omega)
                  have z2 := PyData.shown_le 13 (by decide) (.dict [(.int k, .int 0)]) (by
                    simp only [PyData.leavesShort, PyData.leavesShortKv, Bool.and_true, Bool.and_eq_true, decide_eq_true_eq]
                    exact ⟨z1, by decide +kernel⟩)
                  have z3 : (PyData.dict [(.int k, .int 0)]).weight ≤ 20 := by
                    have := log_small hk
                    simp only [PyData.weight, PyData.weightKv]
                    split <;> simp <;> omega
                  have z4 := tupleText_len_le [PyData.shown (.int k), PyData.shown (.dict [(.int k, .int 0)]), PyData.shown (.list ds)]
                  simp only [List.map_cons, List.map_nil, List.sum_cons, List.sum_nil, List.length_cons, List.length_nil] at z4
                  rw [sl_eq]
                  omega
                have hw : (PyData.dict [(.int k, .int 0)]).shown.length ≤ sizeLine ∧ (PyData.list ds).shown.length ≤ sizeLine := by
                  constructor
                  · exact Nat.le_trans (tupleText_mem_le (ts := [PyData.shown (.int k), PyData.shown (.dict [(.int k, .int 0)]), PyData.shown (.list ds)]) (by simp)) hz
                  · exact Nat.le_trans (tupleText_mem_le (ts := [PyData.shown (.int k), PyData.shown (.dict [(.int k, .int 0)]), PyData.shown (.list ds)]) (by simp)) hz
                have hks : (PyData.int k).showable = true := by
                  have := log_small hk
                  simp only [PyData.showable, decide_eq_true_eq]; omega
                obtain ⟨b1, hb1, k1⟩ := ReprK.of_reads (prog := X.prog) (w := X.w) rd (by simp only [PyData.showable, PyData.showableKv, Bool.and_true, Bool.and_eq_true, decide_eq_true_eq]; have := log_small hk; exact ⟨by omega, by decide⟩) (fun _ hm => by rw [← List.mem_singleton.mp hm] at lo; exact absurd lo (by decide)) hw.1
                obtain ⟨b2, hb2, k2⟩ := ReprK.of_reads (prog := X.prog) (w := X.w) rc f.vis (PyData.noDict_hsm (PyData.hasDict_of_canLay _ f.lay)) hw.2
                have d1 : (PyData.dict [(.int k, .int 0)]).depth ≤ 1 := Nat.le_refl 1
                have d2 := f.dep
                have hall : ReadAtMost s.heap 1 (b1 ++ b2) := (hb1.mono d1).append (hb2.mono d2)
                cases rv with
                | cons r1 rv =>
                  cases rv with
                  | cons r2 rv =>
                    cases rv with
                    | cons r3 rv =>
                      cases rv
                      obtain ⟨t1, rfl⟩ := r1
                      cases r2
                      cases r3
                      have rt : Reads s.heap (.ref a) (.tuple [.int k, .dict [(.int k, .int 0)], .list ds]) _ := .tuple e1 e2 e3 (.cons (.int k t1) (.cons rd (.cons rc .nil)))
                      have hna : a ∉ b1 ++ b2 := not_mem_of_deeper rt (by show 1 < max 0 (max 1 _) + 1; omega) hall
                      exact call_repr_slot (by omega) ⟨o, e1, e2⟩ F.slot_tuple_repr (call_tuple_reprK (h₀ := s.heap) (as := b1 ++ b2) (d := 1) (ts := [PyData.shown (.int k), PyData.shown (.dict [(.int k, .int 0)]), PyData.shown (.list ds)]) e1 e2 e3 hna
                        (.cons (by simp only [PyData.shown]; exact .of_is (ReprIs.int t1 (by simpa only [PyData.showable, decide_eq_true_eq] using hks)) _ _ _) (.cons ((k1.more fun b hb => List.mem_append_left _ hb).level_le d1) (.cons ((k2.more fun b hb => List.mem_append_right _ hb).level_le d2) .nil)))
                        gd (fun b _ => Clear.nil b) (by show X.A.units + 1 + 2 < cLine; omega) (fun _ _ e => e) (fun h' u tk kp => ⟨_, _, rfl, .str _, H, I.kept kp, ⟨u, rfl⟩, q⟩) hz)
end
end SF
set_option Elab.async false
set_option linter.all false
set_option maxRecDepth 100000
set_option maxHeartbeats 4000000
namespace SF
open PySem PySem.Spec PyProof.Rows L2 Evl
section
variable {P : Program} {w : World} {K : PySem.W.Frag} {mg : Str → Option Value} {base : Heap}

/-- a property's getter that keeps its promise -/
structure Gn (P : Program) (w : World) (K : PySem.W.Frag) (mg : Str → Option Value) (base : Heap) (k : Nat) (C m : Str) (ps : List Str) (sp : Sp) : Prop where
  ex : ∃ fd, FnOk P w K mg base CX0 k (pgA K C m) fd ps sp ∧ Binds K fd ps []
theorem gn_of {k : Nat} {C m qual : Str} {st : Stmt} {N ps : List Str} {sp : Sp} (F : Pr K C m qual st) (S : FnScope N ps (defScope st))
    (hb : ∀ (kV doc pm : Value) (an : Option Addr) (cdv ct : Value) (us : List Value), us.length = ps.length → bindArgs (PySem.W.fnOf m qual (defArgs st) (defBody st) (defScope st) .none kV doc pm an cdv ct) ⟨us, []⟩ = pure (ps.zip us))
    (len : ∀ vs H Q E, sp vs H Q E → vs.length = ps.length)
    (body : ∀ (f : Addr) (cdv : Value) (A : Around) (outer : List Env) (s : Shared) (H : Hp) (vs : List V) (Q : VK) (E : XK), Room k (A.deeper (envOfC qual (defScope st) s.heap.objs.size f cdv)) → sp vs H Q E →
      ∃ t, PSs (cxOf CX0 P w K mg base N qual (defScope st) f cdv A outer s H E).nox (defBody st) t ∧ t { nx := fun _ H' => Q .non H', rt := Q } (start N vs) H) : Gn P w K mg base (k + 1) C m ps sp := by
  obtain ⟨fd, G⟩ := F.fn
  exact ⟨⟨fd, G.ok S len fun cdv A outer s H vs Q E hr h => body _ cdv A outer s H vs Q E hr h, G.binds hb⟩⟩
/-- e.f, a property -/
theorem prop_e {X : Cx} {k j : Nat} {C f : Str} {ps : List Str} {sp : Sp} {qual : Str} {st : Stmt} {e : Expr} {pos : Pos} {ta : TE} (D : Gn X.prog X.w X.K X.mg X.base k C f ps sp) (c : Cls X.K (He.ga X.K C)) (hp : Pr X.K C f qual st) (hr : Room j X.A) (hk : k + 1 ≤ j)
    (he : PE X e ta) (hab : attributeBase e f X.env (eval e X.env) = eval e X.env := by rfl) : PE X (.Attribute e f pos) (tProp (He.ga X.K C) sp [] E0 ta) := by
  obtain ⟨fd, F, b⟩ := D.ex
  obtain ⟨p, at_⟩ := hp.at_
  exact pe_prop he c at_ F (hr.mono hk) b .nil pass0 hab
section
variable {K : PySem.W.Frag} {σ : L2.St} {G : Hp} {te : TE}
theorem ed_listFz {ns : List Str} {a : Addr} (h : Ev te σ G (.ref a)) (hd : DeedsAt ns (.ref a) G) : EvD (tCB (rListOf K) (tCons te tNil)) σ G (.list (namesD ns)) := fun H1 e Q q =>
  h H1 e _ fun H2 e2 => ⟨a, _, rfl, .inr (up_deeds _ _ _ (e.trans e2) hd).sq, fun p hp => q _ _ (e2.trans (Ex.new hp)) (.lst (nw_new e2 hp) (strs_dx ns))⟩
end
def spGetDeeds (K : PySem.W.Frag) : Sp := fun vs H Q _ => ∃ t ns rs, vs = [.ref t] ∧ ThAt K t ns rs H ∧ ∀ v H2, Ex H H2 → Dx H2 v (.list (namesD ns)) → Q v H2
def spRowsOf (K : PySem.W.Frag) : Sp := fun vs H Q _ => ∃ t ns rs, vs = [.ref t] ∧ ThAt K t ns rs H ∧ rs.length ≤ 1000 ∧ ∀ v H2, Ex H H2 → Dx H2 v (rowsL rs) → Q v H2
def spGetFirst (K : PySem.W.Frag) : Sp := fun vs H Q _ => ∃ a, ∃ p : Plan, vs = [.ref a] ∧ LayAt K a p H ∧ PlanOk p ∧ ∀ v H2, Ex H H2 → Dx H2 v (.list (namesD (namesOf p.ns p.near))) → Q v H2
def spGetSecond (K : PySem.W.Frag) : Sp := fun vs H Q _ => ∃ a, ∃ p : Plan, vs = [.ref a] ∧ LayAt K a p H ∧ PlanOk p ∧ ∀ v H2, Ex H H2 → Dx H2 v (.list (namesD (namesOf p.ns p.far))) → Q v H2
abbrev N_Thing_deeds : List Str := ["self"]
theorem sc_Thing_deeds : FnScope N_Thing_deeds ["self"] (defScope (inClass (topS 33) 1)) := ⟨rfl, rfl, rfl, by decide +kernel, rfl, by decide +kernel, by decide +kernel⟩
theorem gn_Thing_deeds (T : Txt K mg) : Gn P w K mg base 1 "Thing" "deeds" ["self"] (spGetDeeds K) := by
  refine gn_of T.p_Thing_deeds sc_Thing_deeds (fun _ _ _ _ _ _ us hl => match us, hl with | [_], _ => rfl) (by rintro vs H Q E ⟨a, b, c, rfl, _⟩; rfl) (fun f cdv A outer s H vs Q E hr h => ?_)
  have nd := sc_Thing_deeds.nd
  refine ⟨_, (pss_one (ps_ret (pe_callTy (call_listK K rfl) (by rfl) T.z_list (by decide +kernel) (pa_cons (pe_fldK K rfl (pv 0) rfl) pa_nil)))), ?_⟩
  obtain ⟨t, ns, rs, rfl, ht, q⟩ := h
  obtain ⟨dx, u, v, ha, hu, hv⟩ := id ht
  obtain ⟨a, o, rfl, hx, hc, hd⟩ := id hu
  exact s_retP (G := H) (P := fun v H => Dx H v (.list (namesD ns))) (ed_listFz (ev_fld (ev_var rfl) ha T.c_Thing T.n_Thing_own_deeds rfl) hu) (Ex.refl H) fun v H2 e p => q v H2 e (p.ex nw_sub)
abbrev N_Thing_rows : List Str := ["self", "row"]
theorem sc_Thing_rows : FnScope N_Thing_rows ["self"] (defScope (inClass (topS 33) 3)) := ⟨rfl, rfl, rfl, by decide +kernel, rfl, by decide +kernel, by decide +kernel⟩
theorem mn_Thing_rows (T : Txt K mg) : Mn P w K mg base 1 "Thing" "rows" ["self"] (spRowsOf K) := by
  refine mn_of T.i_Thing_rows sc_Thing_rows (fun _ _ _ _ _ _ us hl => match us, hl with | [_], _ => rfl) (by rintro vs H Q E ⟨a, b, c, rfl, _⟩; rfl) (fun f cdv A outer s H vs Q E hr h => ?_)
  have nd := sc_Thing_rows.nd
  refine ⟨_, (pss_one (ps_ret (pe_lc (own := [("row", 1)]) (by rfl) nd (pi_seqK K rfl (pe_fldK K rfl (pv 0) rfl)) (blkOk_by (own := [("row", 1)]) (N := N_Thing_rows) (sc := (defScope (inClass (topS 33) 3))) (by decide +kernel)) (fun _ _ _ _ _ => (pg_name (i := 1) nd rfl (by first | exact Or.inl rfl | exact Or.inr rfl))) (fun _ _ _ _ _ => pts_nil) (fun _ _ _ _ _ => (pe_callTy (call_listK K rfl) (by rfl) T.z_list (by decide +kernel) (pa_cons (pv 1) pa_nil)))))), ?_⟩
  obtain ⟨t, ns, rs, rfl, ht, hz, q⟩ := h
  obtain ⟨dx, u, v, ha, hu, hv⟩ := id ht
  obtain ⟨a, xs, rfl, hx, al⟩ := dx_tup hv
  have hl := al.length
  rw [List.length_map] at hl
  refine s_retP (G := H) (P := fun v H => Dx H v (rowsL rs)) (ed_lp (lp_seq (fun _ => true) (fun i v h => Dx h v (rowL (rs.getD i []))) (fun _ => up_dx) (ev_fld (ev_var rfl) ha T.c_Thing T.n_Thing_own_rows rfl) (.inr (st_of hx)) (by omega) fun i x hi => turn_name (fun _ => rfl) (ed_listT (ed_ev (ev_var rfl) ?_))) fun ys h al2 => ?_) (Ex.refl H) fun v H2 e p => q v H2 e (p.ex nw_sub)
  · obtain ⟨d, hd, hdx⟩ := al.at' hi
    rw [List.getElem?_map] at hd
    obtain ⟨r, hr, rfl⟩ := Option.map_eq_some_iff.mp hd
    have er : rs.getD i [] = r := by rw [List.getD_eq_getElem?_getD, hr, Option.getD_some]
    rw [er]
    exact hdx
  · have := al2.dx
    rw [ixs_all, map_getD rowL [] rs hl] at this
    exact this
abbrev N_Layout_first : List Str := ["self", "place"]
theorem sc_Layout_first : FnScope N_Layout_first ["self"] (defScope (inClass (topS 47) 4)) := ⟨rfl, rfl, rfl, by decide +kernel, rfl, by decide +kernel, by decide +kernel⟩
theorem gn_Layout_first (T : Txt K mg) : Gn P w K mg base 1 "Layout" "first" ["self"] (spGetFirst K) := by
  refine gn_of T.p_Layout_first sc_Layout_first (fun _ _ _ _ _ _ us hl => match us, hl with | [_], _ => rfl) (by rintro vs H Q E ⟨a, b, rfl, _⟩; rfl) (fun f cdv A outer s H vs Q E hr h => ?_)
  have nd := sc_Layout_first.nd
  refine ⟨_, (pss_one (ps_ret (pe_lc (own := [("place", 1)]) (by rfl) nd (pi_seqK K rfl (pe_fldK K rfl (pv 0) rfl)) (blkOk_by (own := [("place", 1)]) (N := N_Layout_first) (sc := (defScope (inClass (topS 47) 4))) (by decide +kernel)) (fun _ _ _ _ _ => (pg_name (i := 1) nd rfl (by first | exact Or.inl rfl | exact Or.inr rfl))) (fun _ _ _ _ _ => pts_nil) (fun _ _ _ _ _ => (pe_ix (ix_tupK K rfl) (pe_fldK K rfl (pe_fldK K rfl (pv 0) rfl) rfl) (pv 1) (fun _ _ => rfl)))))), ?_⟩
  obtain ⟨a, p, rfl, l, ok, q⟩ := h
  obtain ⟨dx, t, f, g, pq, ha, ht, hf, hg, _⟩ := id l
  obtain ⟨dx2, u, v, ha2, hu, hv⟩ := id ht
  obtain ⟨b, o, rfl, hb, hc, hd⟩ := id hu
  obtain ⟨lf, xs, rfl, hx, al⟩ := dx_tup hf
  obtain rfl := dx_nats al
  have hle := ok.le
  refine s_retP (G := H) (P := fun v H => Dx H v (.list (namesD (namesOf p.ns p.near)))) (ed_lp (lp_seq (fun _ => true) (fun i v _ => v = .str (nameF p.ns (p.near.getD i 0))) (fun _ => up_s) (ev_fld (ev_var rfl) ha T.c_Layout T.n_Layout_own_first rfl) (.inr (st_of hx)) (by rw [natsV_len]; omega) fun i x hi => turn_name (fun _ => rfl) (ep_ev (ev_op (ev_fld (ev_fld (ev_var rfl) ha T.c_Layout T.n_Layout_own_thing rfl) ha2 T.c_Thing T.n_Thing_own_deeds rfl) (ev_var rfl) ?_) fun _ _ => rfl)) fun ys h al2 => ?_) (Ex.refl H) fun v H2 e p => q v H2 e (p.ex nw_sub)
  · obtain ⟨n, hn, rfl⟩ := at_natsV hi
    have en : p.near.getD i 0 = n := by rw [List.getD_eq_getElem?_getD, hn, Option.getD_some]
    rw [en]
    refine rv_ixT hu.sq (atI_nat ?_)
    rw [List.getElem?_map, nameF_at (ok.lt1 n (List.mem_of_getElem? hn))] <;> rfl
  · rw [Al.eq (v := fun i => V.str (nameF p.ns (p.near.getD i 0))) al2, ixs_all, map_getD (fun x => V.str (nameF p.ns x)) 0 p.near (natsV_len p.near)]
    have := strs_dx (H := h) (namesOf p.ns p.near)
    unfold namesOf at this
    rw [List.map_map] at this
    exact this
abbrev N_Layout_second : List Str := ["self", "place"]
theorem sc_Layout_second : FnScope N_Layout_second ["self"] (defScope (inClass (topS 47) 5)) := ⟨rfl, rfl, rfl, by decide +kernel, rfl, by decide +kernel, by decide +kernel⟩
theorem gn_Layout_second (T : Txt K mg) : Gn P w K mg base 1 "Layout" "second" ["self"] (spGetSecond K) := by
  refine gn_of T.p_Layout_second sc_Layout_second (fun _ _ _ _ _ _ us hl => match us, hl with | [_], _ => rfl) (by rintro vs H Q E ⟨a, b, rfl, _⟩; rfl) (fun f cdv A outer s H vs Q E hr h => ?_)
  have nd := sc_Layout_second.nd
  refine ⟨_, (pss_one (ps_ret (pe_lc (own := [("place", 1)]) (by rfl) nd (pi_seqK K rfl (pe_fldK K rfl (pv 0) rfl)) (blkOk_by (own := [("place", 1)]) (N := N_Layout_second) (sc := (defScope (inClass (topS 47) 5))) (by decide +kernel)) (fun _ _ _ _ _ => (pg_name (i := 1) nd rfl (by first | exact Or.inl rfl | exact Or.inr rfl))) (fun _ _ _ _ _ => pts_nil) (fun _ _ _ _ _ => (pe_ix (ix_tupK K rfl) (pe_fldK K rfl (pe_fldK K rfl (pv 0) rfl) rfl) (pv 1) (fun _ _ => rfl)))))), ?_⟩
  obtain ⟨a, p, rfl, l, ok, q⟩ := h
  obtain ⟨dx, t, f, g, pq, ha, ht, hf, hg, _⟩ := id l
  obtain ⟨dx2, u, v, ha2, hu, hv⟩ := id ht
  obtain ⟨b, o, rfl, hb, hc, hd⟩ := id hu
  obtain ⟨lf, xs, rfl, hx, al⟩ := dx_tup hg
  obtain rfl := dx_nats al
  have hle := ok.le
  refine s_retP (G := H) (P := fun v H => Dx H v (.list (namesD (namesOf p.ns p.far)))) (ed_lp (lp_seq (fun _ => true) (fun i v _ => v = .str (nameF p.ns (p.far.getD i 0))) (fun _ => up_s) (ev_fld (ev_var rfl) ha T.c_Layout T.n_Layout_own_second rfl) (.inr (st_of hx)) (by rw [natsV_len]; omega) fun i x hi => turn_name (fun _ => rfl) (ep_ev (ev_op (ev_fld (ev_fld (ev_var rfl) ha T.c_Layout T.n_Layout_own_thing rfl) ha2 T.c_Thing T.n_Thing_own_deeds rfl) (ev_var rfl) ?_) fun _ _ => rfl)) fun ys h al2 => ?_) (Ex.refl H) fun v H2 e p => q v H2 e (p.ex nw_sub)
  · obtain ⟨n, hn, rfl⟩ := at_natsV hi
    have en : p.far.getD i 0 = n := by rw [List.getD_eq_getElem?_getD, hn, Option.getD_some]
    rw [en]
    refine rv_ixT hu.sq (atI_nat ?_)
    rw [List.getElem?_map, nameF_at (ok.lt2 n (List.mem_of_getElem? hn))] <;> rfl
  · rw [Al.eq (v := fun i => V.str (nameF p.ns (p.far.getD i 0))) al2, ixs_all, map_getD (fun x => V.str (nameF p.ns x)) 0 p.far (natsV_len p.far)]
    have := strs_dx (H := h) (namesOf p.ns p.far)
    unfold namesOf at this
    rw [List.map_map] at this
    exact this
end
end SF
set_option Elab.async false
set_option linter.all false
set_option maxRecDepth 100000
set_option maxHeartbeats 4000000
namespace SF
open PySem PySem.Spec PyProof.Rows L2 Evl
section
variable {P : Program} {w : World} {K : PySem.W.Frag} {mg : Str → Option Value} {base : Heap}

/-- a method that keeps its promise where no object is being shown -/
structure MnG (P : Program) (w : World) (K : PySem.W.Frag) (mg : Str → Option Value) (base : Heap) (k : Nat) (C m : Str) (ps : List Str) (sp : Sp) : Prop where
  ex : ∃ fd, FnOkG P w K mg base k (He.ma K (He.ga K C) m) fd ps sp ∧ Binds K fd ps []
theorem mnG_of {k : Nat} {C m qual : Str} {st : Stmt} {N ps : List Str} {sp : Sp} (F : ∃ fd, Fun K m qual st (He.ma K (He.ga K C) m) fd) (S : FnScope N ps (defScope st))
    (hb : ∀ (kV doc pm : Value) (an : Option Addr) (cdv ct : Value) (us : List Value), us.length = ps.length → bindArgs (PySem.W.fnOf m qual (defArgs st) (defBody st) (defScope st) .none kV doc pm an cdv ct) ⟨us, []⟩ = pure (ps.zip us))
    (cnt : ∀ {xs : List V} {hp : Hp} {q : VK} {ex : XK}, sp xs hp q ex → xs.length = ps.length)
    (body : ∀ (f : Addr) (cdv : Value) (A : Around) (outer : List Env) (s : Shared) (H : Hp) (vs : List V) (Q : VK) (E : XK), (A.deeper (envOfC qual (defScope st) s.heap.objs.size f cdv)).guards = some [] → Room k (A.deeper (envOfC qual (defScope st) s.heap.objs.size f cdv)) → sp vs H Q E →
      ∃ t, PSs (cxOf CX0 P w K mg base N qual (defScope st) f cdv A outer s H E).nox (defBody st) t ∧ t { nx := fun _ H' => Q .non H', rt := Q } (start N vs) H) : MnG P w K mg base (k + 1) C m ps sp := by
  obtain ⟨fd, G⟩ := F
  exact ⟨⟨fd, fnG_of G S cnt fun cdv A outer s H vs Q E hg hr h => body _ cdv A outer s H vs Q E hg hr h, G.binds hb⟩⟩
section
variable {X : Cx} {σ : L2.St} {pins : List (Addr × Obj)} {H : Hp} {s : Shared}
/-- o.m() -/
theorem pe_m0 {k j : Nat} {C m : Str} {ps : List Str} {sp : Sp} {o : Expr} {apos pos : Pos} {ta : TE} {pl : Sem Bool} (D : Mn X.prog X.w X.K X.mg X.base k C m ps sp) (c : Cls X.K (He.ga X.K C)) (M : Meth X.K (He.ga X.K C) m (He.ma X.K (He.ga X.K C) m)) (hr : Room j X.A) (hk : k ≤ j) (he : PE X o ta)
    (ht : eval (.Call (.Attribute o m apos) [] [] pos) X.env = (do
      let ov ← eval o X.env
      standAt apos.atName
      let (f, first) ← holding [ov] (getMethod ov m pl)
      callWith pos f first (backTo pos (starEach [] X.env)) (backToKw pos (keywordEach [] X.env))) := by rfl) : PE X (.Call (.Attribute o m apos) [] [] pos) (tMeth (He.ga X.K C) m sp [] E0 ta tNil) := by
  obtain ⟨fd, F, b⟩ := D.ex
  exact pe_meth0 he c M F (hr.mono hk) b .nil pass0 ht
/-- {x!r} of small data -/
def tFmtD (te : TE) : TE := fun σ H Q => te σ H fun x H1 => ∃ d, Dx H1 x d ∧ Sm 3 d ∧ Q (.str d.shown) H1
theorem pe_fmtD {j : Nat} {e : Expr} {te : TE} {pos : Pos} (gd : X.A.guards = some []) (hr : Room j X.A) (he : PE X e te) : PE X (.FormattedValue e 114 none pos) (tFmtD te) := by
  refine ⟨fun pins s σ H Q I h => wpAny_FormattedValue_repr (thn (he.run pins s σ H _ I h) fun v s1 ⟨x, H1, I1, r1, d, hd, sm, q⟩ => ?_)⟩
  have un := hr.un
  have f := sm_f sm
  have fz := f.fits (Nat.le_refl _)
  have back : ∀ (t : Tok) (s2 : Shared), Inv X pins σ H1 s2 → wpAny (model X.prog X.w) X.A (formatField (.str d.shown t) Str.empty) (EP X pins σ Q) X.xe s2 := fun t s2 I2 => wpAny_formatField_str ⟨.str _, H1, I2, ⟨_, rfl⟩, q⟩ ⟨.str _, H1, I2.tok _, ⟨_, rfl⟩, q⟩ fz
  have byRef : ∀ a : Addr, Dx H1 (.ref a) d → wpAny (model X.prog X.w) X.A (pyReprObj (.ref a)) (fun r s2 => wpAny (model X.prog X.w) X.A (formatField r Str.empty) (EP X pins σ Q) X.xe s2) X.xe s1 := fun a hda => by
    obtain ⟨as, rd⟩ := reads_sm I1 hda f
    exact pyReprObj_of_reads rd f.vis (PyData.noDict_hsm (PyData.hasDict_of_canLay d f.lay)) gd (by have := f.dep; omega) (fun _ _ e => e) (fun h' u tk k => back _ _ (I1.kept k)) fz
  cases hd with
  | non => cases r1; exact pyReprObj_none (back _ _ (I1.tok _))
  | bl b => cases r1; exact pyReprObj_bool (back _ _ (I1.tok _))
  | int i =>
    obtain ⟨t, rfl⟩ := r1
    have := f.vis
    simp only [PyData.showable, decide_eq_true_eq] at this
    exact pyReprObj_int this (back _ _ (I1.tok _))
  | str x =>
    obtain ⟨t, rfl⟩ := r1
    exact pyReprObj_str (back _ _ (I1.tok _)) fz
  | lst h1 h2 => cases r1; exact byRef _ (.lst h1 h2)
  | tup h1 h2 => cases r1; exact byRef _ (.tup h1 h2)
  | dic h1 h2 => exact Bool.noConfusion f.lay
/-- the text of an object, by its class's own __repr__ -/
theorem obj_text {prog : Program} {w : World} {A : Around} {E : Value → Shared → Prop} {K : PySem.W.Frag} {x C f : Addr} {ox : Obj} {od : Option Obj} {Q : Value → Shared → Prop} (hu : A.units < cLine) (KX : K.In s.heap) (J : PySem.W.InstAt s.heap x ox C od)
    (hs : PySem.W.findIn K (.ref C) "__repr__" = some (some (.ref f))) (hf : PySem.W.isFn K (.ref f) = true) (go : wpAny (model prog w) A (call (.ref f) [.ref x]) (fun v s' => ∃ a t, v = .str a t ∧ Q v s') E s) : wpAny (model prog w) A (pyReprObj (.ref x)) Q E s := by
  unfold pyReprObj
  refine wpAny_bind (wpAny_cRoomFor hu (wpAny_bind (wpAny_bind (J.type.here ((PySem.W.looks_findIn KX hs).here ?_)))))
  show wpAny _ _ (if (Option.some (Value.ref f)).isNone = true then _ else _) _ _ _
  rw [if_neg (fun z => Bool.noConfusion z)]
  refine wpAny_bind (m := callSpecialIfBound? (.ref x) (Str.ofString "__repr__") []) (PySem.W.ifBound_K KX J hs hf (wpAny_mono go (fun v s2 ⟨a, t, ev, hq⟩ => ?_) fun _ _ z => z))
  subst ev
  refine wpAny_bind (wpAny_isInstance (T := "str") (b := true) (typeIs_str _ _ _) isSubtype_str_str ?_)
  exact wpAny_pure hq
/-- {x!r} of an object whose class has __repr__ -/
def tFmtI (C : Addr) (sp : Sp) (te : TE) : TE := fun σ H Q => te σ H fun x H1 => ∃ a dx fs, x = .ref a ∧ H1 a = some (.ins C dx fs) ∧ sp [.ref a] H1 (fun v H2 => ∃ y : Str, v = .str y ∧ y.length ≤ sizeLine ∧ Q (.str y) H2) E0
theorem pe_fmtI {j k : Nat} {C : Str} {ps : List Str} {sp : Sp} {e : Expr} {te : TE} {pos : Pos} (D : MnG X.prog X.w X.K X.mg X.base k C "__repr__" ps sp) (M : Meth X.K (He.ga X.K C) "__repr__" (He.ma X.K (He.ga X.K C) "__repr__")) (gd : X.A.guards = some []) (hr : Room j X.A) (hk : k ≤ j) (he : PE X e te) : PE X (.FormattedValue e 114 none pos) (tFmtI (He.ga X.K C) sp te) := by
  refine ⟨fun pins s σ H Q I h => wpAny_FormattedValue_repr (thn (he.run pins s σ H _ I h) fun v s1 ⟨x, H1, I1, r1, a, dx, fs, ex, ea, q⟩ => ?_)⟩
  subst ex
  obtain rfl : v = Value.ref a := r1
  obtain ⟨fd, F, b⟩ := D.ex
  obtain ⟨mA, O, _, _, _, _⟩ := ins_get I1.hok ea
  obtain ⟨od, J, _⟩ := O.look
  refine obj_text (by have := hr.un; omega) I1.kIn J M.at_ M.fn (wpAny_mono (runG (us := [.ref a]) (xs := [.ref a]) F gd (hr.mono hk) b I1 (.cons rfl .nil) q) (fun u s2 hq => ?_) fun _ _ z => z)
  obtain ⟨v2, H2, I2, r2, y, ev, hz, q2⟩ := hq
  subst ev
  obtain ⟨t, rfl⟩ := r2
  exact ⟨y, t, rfl, wpAny_formatField_str ⟨.str _, H2, I2, ⟨_, rfl⟩, q2⟩ ⟨.str _, H2, I2.tok _, ⟨_, rfl⟩, q2⟩ hz⟩
/-- repr(x) of an object whose class has __repr__ -/
def rReprI (C : Addr) (sp : Sp) : List V → Hp → VK → Prop := fun xs H Q => ∃ a dx fs, xs = [.ref a] ∧ H a = some (.ins C dx fs) ∧ sp [.ref a] H (fun v H2 => ∃ y : Str, v = .str y ∧ Q (.str y) H2) E0
theorem call_reprI {j k : Nat} {C : Str} {ps : List Str} {sp : Sp} (D : MnG X.prog X.w X.K X.mg X.base k C "__repr__" ps sp) (M : Meth X.K (He.ga X.K C) "__repr__" (He.ma X.K (He.ga X.K C) "__repr__")) (gd : X.A.guards = some []) (hr : Room j X.A) (hk : k + 1 ≤ j) : CallR X (.builtin "repr") (rReprI (He.ga X.K C) sp) := by
  intro pins s σ H xs us Q I r h
  obtain ⟨a, dx, fs, rfl, ea, q⟩ := h
  obtain ⟨u, rfl, ru⟩ := vals1 r
  obtain rfl : u = Value.ref a := ru
  obtain ⟨fd, F, b⟩ := D.ex
  obtain ⟨mA, O, _, _, _, _⟩ := ins_get I.hok ea
  obtain ⟨od, J, _⟩ := O.look
  obtain ⟨m, Fm⟩ := I.fr
  have hl : ([Value.ref a] ++ ([] : List Value)).length = ps.length := (F.cnt q)
  refine PySem.W.repr_K (by have := hr.un; show X.A.units + 1 < cLine; omega) Fm I.ok.mod.kin J M.at_ M.fn (wpAny_call (codeAny_mono (F.go X.A.in1 X.stack s H ⟨[.ref a], []⟩ [.ref a] [.ref a] _ _ gd (hr.mono hk).in1 I.env0.in1 (b s [.ref a] I.kIn hl) (.cons rfl .nil) q) fun r s2 hq => ?_))
  cases r with
  | error er => exact False.elim hq
  | ok fl =>
    cases fl with
    | ret u =>
      obtain ⟨v, H2, I2, rv, y, ev, q2⟩ := I.after hq
      subst ev
      obtain ⟨t, rfl⟩ := rv
      exact ⟨.str y, H2, I2, ⟨_, rfl⟩, q2⟩
    | next => exact False.elim hq
    | brk => exact False.elim hq
    | cont => exact False.elim hq
end
/-! ### the texts of a thing, of a layout -/
def thingS (ns : List Str) (rs : List (List (Int × Int))) : Str := ((((Str.empty ++ "Thing(") ++ (PyData.list (namesD ns)).shown) ++ ", ") ++ (rowsL rs).shown) ++ ")"
def layS (p : Plan) : Str := ((((((((Str.empty ++ "Layout(") ++ thingS p.ns p.rs) ++ ", ") ++ ((toString (p.s : Int) : String) : Str)) ++ ", ") ++ (PyData.list (namesD (namesOf p.ns p.near))).shown) ++ ", ") ++ (PyData.list (namesD (namesOf p.ns p.far))).shown) ++ ")"
theorem sm_name {n : Nat} {z : Str} (h : NameOk z) : Sm n (.str z) := .leaf (by
  show (decide (z.cps.size ≤ 8) && z.cps.all (· < 0x110000)) = true
  rw [decide_eq_true (by exact h.hi), Bool.true_and]
  refine Array.all_eq_true_iff_forall_mem.mpr fun c hc => decide_eq_true ?_
  have h2 : c ∈ letters.cps.toList := h.all c (Array.mem_toList_iff.mpr hc)
  have h3 : (letters.cps.toList.all fun c => decide (c < 0x110000)) = true := by decide +kernel
  exact of_decide_eq_true (List.all_eq_true.mp h3 c h2))
theorem sm_names {ns : List Str} (hl : ns.length ≤ 14) (h : ∀ z ∈ ns, NameOk z) {n : Nat} : Sm (n + 1) (.list (namesD ns)) := .lst (by unfold namesD; rw [List.length_map]; exact hl) fun x hx => by
  obtain ⟨z, hz, rfl⟩ := List.mem_map.mp hx
  exact sm_name (h z hz)
theorem sm_ent {n m : Nat} {p : Int × Int} (h : EntOk m p) (hm : m ≤ 100) : Sm (n + 1) (entD p) := .tup (by show 2 ≤ 14; decide) fun x hx => by
  have h1 := h.a0
  have h2 := h.a9
  have h3 := h.l0
  have h4 := h.ln
  rcases List.mem_cons.mp hx with rfl | hx
  · exact .leaf (decide_eq_true (by omega))
  · rw [List.mem_singleton.mp hx]
    exact .leaf (decide_eq_true (by omega))
theorem sm_rows {n : Nat} {rs : List (List (Int × Int))} (h : RowsOk n rs) (hn : n ≤ 14) : Sm 3 (rowsL rs) := .lst (by rw [List.length_map]; have := h.hi; omega) fun x hx => by
  obtain ⟨r, hr, rfl⟩ := List.mem_map.mp hx
  refine .lst (by rw [List.length_map, h.len r hr]; exact hn) fun y hy => ?_
  obtain ⟨e, he, rfl⟩ := List.mem_map.mp hy
  exact sm_ent (h.ent r hr e he) (by have := h.hi; omega)
theorem sm_up {n : Nat} {d : PyData} (h : Sm n d) : ∀ {m : Nat}, n ≤ m → Sm m d := by
  induction h with
  | leaf h => exact fun _ => .leaf h
  | @lst n ds hl _ ih => exact fun {m} hm => match m, hm with
    | m + 1, hm => .lst hl fun x hx => ih x hx (by omega)
  | @tup n ds hl _ ih => exact fun {m} hm => match m, hm with
    | m + 1, hm => .tup hl fun x hx => ih x hx (by omega)
theorem names_len {ns : List Str} (hl : ns.length ≤ 14) (h : ∀ z ∈ ns, NameOk z) : (PyData.list (namesD ns)).shown.length ≤ 6013 := (sm_f (sm_names hl h (n := 0))).len
theorem rows_len {n : Nat} {rs : List (List (Int × Int))} (h : RowsOk n rs) (hn : n ≤ 14) : (rowsL rs).shown.length ≤ 2400013 := (sm_f (sm_rows h hn)).len
theorem thing_len {ns : List Str} {rs : List (List (Int × Int))} (h1 : NamesOk ns) (h2 : RowsOk ns.length rs) : (thingS ns rs).length ≤ 2500000 := by
  have a := names_len (by have := h1.hi; omega) h1.ok
  have b := rows_len h2 (by have := h1.hi; omega)
  unfold thingS
  rw [strLen_append, strLen_append, strLen_append, strLen_append, strLen_append]
  have e1 : (Str.empty).length = 0 := rfl
  have e2 : ("Thing(" : Str).length = 6 := rfl
  have e3 : (", " : Str).length = 2 := rfl
  have e4 : (")" : Str).length = 1 := rfl
  omega
theorem team_ok {p : Plan} (ok : PlanOk p) {xs : List Nat} (h : ∀ x ∈ xs, x < p.ns.length) : ∀ z ∈ namesOf p.ns xs, NameOk z := fun z hz => by
  obtain ⟨x, hx, rfl⟩ := List.mem_map.mp hz
  exact ok.names.ok _ (List.mem_of_getElem? (nameF_at (h x hx)))
theorem team_len {ns : List Str} {xs : List Nat} : (namesOf ns xs).length = xs.length := List.length_map _
def spThingRepr (K : PySem.W.Frag) : Sp := fun vs H Q _ => ∃ t ns rs, vs = [.ref t] ∧ ThAt K t ns rs H ∧ NamesOk ns ∧ RowsOk ns.length rs ∧ RetV (.str (thingS ns rs)) H Q
def spLayRepr (K : PySem.W.Frag) : Sp := fun vs H Q _ => ∃ a, ∃ p : Plan, vs = [.ref a] ∧ LayAt K a p H ∧ PlanOk p ∧ RetV (.str (layS p)) H Q
theorem lay_inst {a : Addr} {p : Plan} {H : Hp} (l : LayAt K a p H) : ∃ dx fs, H a = some (.ins (He.ga K "Layout") dx fs) := by
  obtain ⟨dx, t, f, g, q, h, _⟩ := l
  exact ⟨dx, _, h⟩
abbrev N_Thing__repr : List Str := ["self"]
theorem sc_Thing__repr : FnScope N_Thing__repr ["self"] (defScope (inClass (topS 33) 15)) := ⟨rfl, rfl, rfl, by decide +kernel, rfl, by decide +kernel, by decide +kernel⟩
theorem mg_Thing__repr (T : Txt K mg) (D_deeds : Gn P w K mg base 1 "Thing" "deeds" ["self"] (spGetDeeds K)) (D_rows : Mn P w K mg base 1 "Thing" "rows" ["self"] (spRowsOf K)) : MnG P w K mg base 3 "Thing" "__repr__" ["self"] (spThingRepr K) := by
  refine mnG_of T.i_Thing_repr sc_Thing__repr (fun _ _ _ _ _ _ us hl => match us, hl with | [_], _ => rfl) (by rintro vs H Q E ⟨a, b, c, rfl, _⟩; rfl) (fun f cdv A outer s H vs Q E hg hr h => ?_)
  have nd := sc_Thing__repr.nd
  refine ⟨_, (pss_one (ps_ret (pe_joined (PJ.cons pe_str (PJ.cons (pe_fmtD hg hr (prop_e D_deeds T.c_Thing T.p_Thing_deeds hr (by decide) (pv 0))) (PJ.cons pe_str (PJ.cons (pe_fmtD hg hr (pe_m0 D_rows T.c_Thing T.t_Thing_rows hr (by decide) (pv 0))) (PJ.cons pe_str PJ.nil)))))))), ?_⟩
  obtain ⟨t, ns, rs, rfl, ht, okn, okr, q⟩ := h
  have l1 := names_len (by have := okn.hi; omega) okn.ok
  have l2 := rows_len okr (by have := okn.hi; omega)
  have l3 := thing_len okn okr
  have ez := sl_eq
  have e1 : (Str.empty).length = 0 := rfl
  have e2 : ("Thing(" : Str).length = 6 := rfl
  have e3 : (", " : Str).length = 2 := rfl
  obtain ⟨dx, u, v, ha, hu, hv⟩ := id ht
  refine ⟨_, rfl, by rw [strLen_append]; omega, .ref t, rfl, t, dx, _, rfl, ha, t, ns, rs, rfl, ht, fun v1 H1 x1 d1 => ⟨_, d1, sm_names (by have := okn.hi; omega) okn.ok, _, rfl, by simp only [strLen_append]; omega, _, rfl, by simp only [strLen_append]; omega, ?_⟩⟩
  have ht1 := ht.ex up_deeds up_dx x1
  refine ⟨.ref t, rfl, t, dx, _, rfl, x1 _ _ ha, rfl, t, ns, rs, rfl, ht1, by have := okr.hi; omega, fun v2 H2 x2 d2 => ⟨_, d2, sm_rows okr (by have := okn.hi; omega), _, rfl, by simp only [strLen_append]; omega, _, rfl, by rw [ez]; exact Nat.le_trans l3 (by decide), ?_⟩⟩
  exact q H2 (x1.trans x2)
abbrev N_Layout__repr : List Str := ["self"]
theorem sc_Layout__repr : FnScope N_Layout__repr ["self"] (defScope (inClass (topS 47) 23)) := ⟨rfl, rfl, rfl, by decide +kernel, rfl, by decide +kernel, by decide +kernel⟩
theorem mg_Layout__repr (T : Txt K mg) (D_trepr : MnG P w K mg base 3 "Thing" "__repr__" ["self"] (spThingRepr K)) (D_first : Gn P w K mg base 1 "Layout" "first" ["self"] (spGetFirst K)) (D_second : Gn P w K mg base 1 "Layout" "second" ["self"] (spGetSecond K)) : MnG P w K mg base 4 "Layout" "__repr__" ["self"] (spLayRepr K) := by
  refine mnG_of T.i_Layout_repr sc_Layout__repr (fun _ _ _ _ _ _ us hl => match us, hl with | [_], _ => rfl) (by rintro vs H Q E ⟨a, b, rfl, _⟩; rfl) (fun f cdv A outer s H vs Q E hg hr h => ?_)
  have nd := sc_Layout__repr.nd
  refine ⟨_, (pss_one (ps_ret (pe_joined (PJ.cons pe_str (PJ.cons (pe_fmtI D_trepr T.t_Thing_repr hg hr (by decide) (pe_fldK K rfl (pv 0) rfl)) (PJ.cons pe_str (PJ.cons (pe_fmt (pe_fldK K rfl (pv 0) rfl)) (PJ.cons pe_str (PJ.cons (pe_fmtD hg hr (prop_e D_first T.c_Layout T.p_Layout_first hr (by decide) (pv 0))) (PJ.cons pe_str (PJ.cons (pe_fmtD hg hr (prop_e D_second T.c_Layout T.p_Layout_second hr (by decide) (pv 0))) (PJ.cons pe_str PJ.nil)))))))))))), ?_⟩
  obtain ⟨a, p, rfl, l, ok, q⟩ := h
  have hle := ok.le
  have l1 := thing_len ok.names ok.rows
  have l2 := names_len (by rw [team_len]; omega) (team_ok ok ok.lt1)
  have l3 := names_len (by rw [team_len]; omega) (team_ok ok ok.lt2)
  have ez := sl_eq
  have e1 : (Str.empty).length = 0 := rfl
  have e2 : ("Layout(" : Str).length = 7 := rfl
  have e3 : (", " : Str).length = 2 := rfl
  have e4 : (")" : Str).length = 1 := rfl
  have hs : p.s < 8 := by have := ok.st; have := ok.rows.hi; omega
  have e5 : (((toString (p.s : Int) : String) : Str)).length ≤ 13 := PyData.shown_int_le (by omega)
  have hlog : (p.s : Int).natAbs.log2 < 1920 := by have := log_small (i := (p.s : Int).natAbs) (by omega); omega
  obtain ⟨dx, t, f, g, pq, ha, ht, hf, hg2, _⟩ := id l
  obtain ⟨dx2, u2, v2, ha2, _, _⟩ := id ht
  refine ⟨_, rfl, by rw [strLen_append]; omega, .ref a, rfl, a, _, dx, _, .ref t, rfl, ha, T.c_Layout, T.n_Layout_own_thing, rfl, t, dx2, _, rfl, ha2, t, p.ns, p.rs, rfl, ht, ok.names, ok.rows, fun H1 x1 => ⟨_, rfl, by omega, _, rfl, by simp only [strLen_append]; omega, _, rfl, by simp only [strLen_append]; omega, ?_⟩⟩
  refine ⟨.ref a, rfl, a, _, dx, _, .int p.s, rfl, x1 _ _ ha, T.c_Layout, T.n_Layout_own_state, rfl, .inr ⟨_, rfl, hlog, _, rfl, by simp only [strLen_append]; omega, _, rfl, by simp only [strLen_append]; omega, ?_⟩⟩
  refine ⟨.ref a, rfl, a, dx, _, rfl, x1 _ _ ha, a, p, rfl, l.ex x1, ok, fun v3 H3 x3 d3 => ⟨_, d3, sm_names (by rw [team_len]; omega) (team_ok ok ok.lt1), _, rfl, by simp only [strLen_append]; omega, _, rfl, by simp only [strLen_append]; omega, ?_⟩⟩
  refine ⟨.ref a, rfl, a, dx, _, rfl, (x1.trans x3) _ _ ha, a, p, rfl, l.ex (x1.trans x3), ok, fun v4 H4 x4 d4 => ⟨_, d4, sm_names (by rw [team_len]; omega) (team_ok ok ok.lt2), _, rfl, by simp only [strLen_append]; omega, _, rfl, by simp only [strLen_append]; omega, ?_⟩⟩
  exact q H4 ((x1.trans x3).trans x4)
end
end SF
set_option Elab.async false
set_option linter.all false
set_option maxRecDepth 100000
set_option maxHeartbeats 4000000
namespace SF
open PySem PySem.Spec PyProof.Rows L2 Evl
section
variable {P : Program} {w : World} {K : PySem.W.Frag} {mg : Str → Option Value} {base : Heap}

/-! ### a call by names alone -/
def swp {α : Type} : List α → List α → List α
  | [], [a, b] => [b, a]
  | _, _ => []
structure DnS (P : Program) (w : World) (K : PySem.W.Frag) (mg : Str → Option Value) (base : Heap) (k : Nat) (x : Str) (ps ks : List Str) (sp : Sp) : Prop where
  ex : ∃ f fd, FnOk P w K mg base CX0 k f fd ps sp ∧ mg x = some (.ref f) ∧ PySem.W.keepIn K (.ref f) = true ∧ KBinds K fd ps ks swp swp
theorem swp_rel {vs zs : List V} {us ws : List Value} (r : Vals vs us) (rz : Vals zs ws) : Vals (swp vs zs) (swp us ws) := by
  cases r with
  | cons _ _ => exact .nil
  | nil =>
    cases rz with
    | nil => exact .nil
    | cons a rz =>
      cases rz with
      | nil => exact .nil
      | cons b rz =>
        cases rz with
        | nil => exact .cons b (.cons a .nil)
        | cons _ _ => exact .nil
theorem kb_is_blot {f : Addr} {fd : FuncData} (F : Fun K "is_blot" "is_blot" (topS 66) f fd) : KBinds K fd ["layout", "value"] ["value", "layout"] swp swp := by
  obtain ⟨oc, od, kV, doc, pm, an, cdv, ct, osl, rfl, lk, hcd⟩ := F.ex
  refine ⟨fun s us ws _ hl => ?_, swp_rel⟩
  match us, ws, hl with
  | [], [a, b], _ => exact .of_eq rfl
  | [], [], hl => exact nomatch hl
  | [], [_], hl => exact nomatch hl
  | [], _ :: _ :: _ :: _, hl => exact nomatch hl
  | _ :: _, _, hl => exact nomatch hl
theorem dk_is_blot (T : Txt K mg) (D_is_below : Dn P w K mg base 3 "is_below" ["value", "limit"] spIsBelow) (D_is_order : Dn P w K mg base 4 "is_order" ["layout", "value"] (spIsOrder K)) (D_team_of : Dn P w K mg base 1 "team_of" ["layout", "hand"] (spTeamOf K)) (D_mark_in : Dn P w K mg base 4 "mark_in" ["layout", "hand", "order"] (spMarkIn K)) (D_Llen : Mn P w K mg base 1 "Layout" "__len__" ["self"] (spLayLen K)) :
    DnS P w K mg base 5 "is_blot" ["layout", "value"] ["value", "layout"] (spIsBlot K) := by
  obtain ⟨fd, F⟩ := T.f_is_blot.fn
  exact ⟨⟨_, fd, fx_is_blot T D_is_below D_is_order D_team_of D_mark_in D_Llen F, T.f_is_blot.g, F.kp, kb_is_blot F⟩⟩
section
variable {X : Cx}
theorem pe_names {k j : Nat} {x : Str} {ps ks : List Str} {sp : Sp} {p pos : Pos} {kws : List Keyword} {tk : TA} (D : DnS X.prog X.w X.K X.mg X.base k x ps ks sp) (hr : Room j X.A) (hk : k ≤ j) (hg : Gl X x) (hkw : PK X kws tk)
    (hall : (backToKw pos (keywordEach kws X.env)).all (·.1.isSome) = true := by rfl) (hks : (backToKw pos (keywordEach kws X.env)).filterMap (·.1) = ks := by rfl) (hdb : (x == ("__debug__" : Str)) = false := by decide)
    (hpl : ((backTo pos (starEach [] X.env)).any (·.1) || (backToKw pos (keywordEach kws X.env)).any (·.1.isNone)) = false := by rfl) : PE X (.Call (.Name x p) [] kws pos) (tCallK sp swp E0 tNil tk) := by
  obtain ⟨f, fd, F, hm, kp, kb⟩ := D.ex
  refine ⟨fun pins s σ H Q I h => wpAny_Call_Name_kw (ld_glob I hg hm (PySem.W.callWith_KW0 (h₀ := X.base) I.ok.mod.kin kp hall (thn (hkw.run pos pins s σ H _ I h) fun ws s2 ⟨zs, H2, I2, rz, q2⟩ => ⟨I2.kIn, ?_⟩) hpl) hdb)⟩
  rw [hks]
  exact run_fnk (us := []) (vs := []) F (hr.mono hk) kb pass0 I2 .nil rz q2
/-- repr of an item -/
def rRep (K : PySem.W.Frag) : List V → Hp → VK → Prop := fun xs H Q => rReprD xs H Q ∨ rReprI (He.ga K "Layout") (spLayRepr K) xs H Q
theorem call_rep {j : Nat} (K : PySem.W.Frag) (hK : X.K = K) (D : MnG X.prog X.w K X.mg X.base 4 "Layout" "__repr__" ["self"] (spLayRepr K)) (M : Meth K (He.ga K "Layout") "__repr__" (He.ma K (He.ga K "Layout") "__repr__")) (gd : X.A.guards = some []) (hr : Room j X.A) (hk : 5 ≤ j) : CallR X (.builtin "repr") (rRep K) := by
  subst hK
  exact callr_or (call_reprD gd hr) (call_reprI D M gd hr hk)
end
/-- the item's text -/
def ItT (K : PySem.W.Frag) (v : V) (S : Str) (H : Hp) : Prop := (∃ d, Dx H v d ∧ Fit d ∧ S = d.shown) ∨ ∃ c p, v = .ref c ∧ LayAt K c p H ∧ PlanOk p ∧ S = layS p
theorem ItT.ex {K : PySem.W.Frag} {v : V} {S : Str} {H H' : Hp} (h : ItT K v S H) (e : Ex H H') : ItT K v S H' := by
  rcases h with ⟨d, h1, h2, h3⟩ | ⟨c, p, h1, h2, h3, h4⟩
  · exact .inl ⟨d, h1.ex e, h2, h3⟩
  · exact .inr ⟨c, p, h1, h2.ex e, h3, h4⟩
def fitO : Option PyData → Prop
  | some d => Fit d
  | none => True
theorem it_text {K : PySem.W.Frag} {v : V} {o : Option PyData} {H : Hp} (h : ItAt K v o H) (f : fitO o) : ∃ S, ItT K v S H := by
  cases o with
  | some d => exact ⟨_, .inl ⟨d, h, f, rfl⟩⟩
  | none =>
    obtain ⟨c, p, h1, h2, h3⟩ := h
    exact ⟨_, .inr ⟨c, p, h1, h2, h3, rfl⟩⟩
section
variable {K : PySem.W.Frag} {σ : L2.St} {G H : Hp} {te : TE} {tk : TA}
theorem rep_go {v : V} {S : Str} {Q : VK} (h : ItT K v S H) (q : ∀ H2, Ex H H2 → Q (.str S) H2) : rRep K [v] H Q := by
  rcases h with ⟨d, h1, h2, rfl⟩ | ⟨c, p, rfl, h2, h3, rfl⟩
  · exact .inl ⟨v, d, rfl, h1, h2, q H (Ex.refl H)⟩
  · obtain ⟨dx, fs, hf⟩ := lay_inst h2
    exact .inr ⟨c, dx, fs, rfl, hf, c, p, rfl, h2, h3, fun H2 e => ⟨_, rfl, q H2 e⟩⟩
theorem ev_rep {v : V} {S : Str} (h : Ev te σ G v) (hi : ItT K v S G) : Ev (tCB (rRep K) (tCons te tNil)) σ G (.str S) := fun H1 e Q q =>
  h H1 e _ fun H2 e2 => rep_go (hi.ex (e.trans e2)) fun H3 e3 => q H3 (e2.trans e3)
theorem ev_repD {d : PyData} (h : EvD te σ G d) (f : Fit d) : Ev (tCB (rRep K) (tCons te tNil)) σ G (.str d.shown) := fun H1 e Q q =>
  h H1 e _ fun v H2 e2 hd => .inl ⟨v, d, rfl, hd.ex nw_sub, f, q H2 e2⟩
theorem ev_names {sp : Sp} {E : XK} {zs : List V} {z : V} (h : EvA tk σ G zs) (hs : ∀ H1, Ex G H1 → ∀ Q, RetV z H1 Q → sp (swp [] zs) H1 Q E) : Ev (tCallK sp swp E tNil tk) σ G z := fun H1 e Q q =>
  h H1 e _ fun H2 e2 => hs H2 (e.trans e2) Q fun H3 e3 => q H3 (e2.trans e3)
end
theorem fit_two (b : Bool) : Fit (.list [.bool b, .bool b]) := .sm (.lst (by show 2 ≤ 14; decide) fun x hx => .leaf (by
  rcases List.mem_cons.mp hx with rfl | hx
  · rfl
  · rw [List.mem_singleton.mp hx] <;> rfl))
def spJudged (K : PySem.W.Frag) : Sp := fun vs H Q _ => ∃ mv lv c v o, ∃ p : Plan, vs = [mv, lv, .ref c, v] ∧ Dx H mv (modelD p.ns p.rs) ∧ Dx H lv (lotD p) ∧ LayAt K c p H ∧ PlanOk p ∧ ItAt K v o H ∧ smO o ∧ fitO o ∧ RetV (.bl true) H Q
abbrev N_law_judged : List Str := ["_law_model_here", "_law_lot_here", "_law_plan_here", "_law_item", "_law_due", "_law_kept", "_law_told"]
theorem sc_law_judged : FnScope N_law_judged ["_law_model_here", "_law_lot_here", "_law_plan_here", "_law_item"] (defScope (topS 86)) := ⟨rfl, rfl, rfl, by decide +kernel, rfl, by decide +kernel, by decide +kernel⟩
theorem dg_law_judged (T : Txt K mg) (D_law_is_blot : Dn P w K mg base 3 "_law_is_blot" ["_law_model_here", "_law_lot_here", "_law_item"] (spLawIsBlot K)) (D_is_blot : Dn P w K mg base 5 "is_blot" ["layout", "value"] (spIsBlot K)) (DK_is_blot : DnS P w K mg base 5 "is_blot" ["layout", "value"] ["value", "layout"] (spIsBlot K)) (D_lrepr : MnG P w K mg base 4 "Layout" "__repr__" ["self"] (spLayRepr K)) : DnG P w K mg base 6 "_law_judged" ["_law_model_here", "_law_lot_here", "_law_plan_here", "_law_item"] (spJudged K) := by
  refine dnG_of T.f_law_judged sc_law_judged (fun _ _ _ _ _ _ us hl => match us, hl with | [_, _, _, _], _ => rfl) (by rintro vs H Q E ⟨a, b, c, d, e, f, rfl, _⟩; rfl) (fun f cdv A outer s H vs Q E hg hr h => ?_)
  have nd := sc_law_judged.nd
  refine ⟨_, (pss_cons (ps_par (i := 4) (j := 5) (by rfl) nd rfl rfl (by decide) rfl rfl (pa_cons (pe_fn D_law_is_blot hr (by decide) (by rfl) (pa_cons (pv 0) (pa_cons (pv 1) (pa_cons (pv 3) pa_nil)))) (pa_cons (pe_callB (call_rep K rfl D_lrepr T.t_Layout_repr hg hr (by decide)) (by rfl) T.z_repr (by decide +kernel) (pa_cons (pv 3) pa_nil)) pa_nil)) (by rfl))
      (pss_cons (ps_set (i := 6) nd rfl (.inl rfl) (pe_lst (pa_cons (pe_fn D_is_blot hr (by decide) (by rfl) (pa_cons (pv 2) (pa_cons (pv 3) pa_nil))) (pa_cons (pe_names DK_is_blot hr (by decide) (by rfl) (pk_cons (pv 3) (pk_cons (pv 2) pk_nil))) pa_nil))))
      (pss_one (ps_ret (pe_and (pe_cmpR op_eq (pe_callB (call_rep K rfl D_lrepr T.t_Layout_repr hg hr (by decide)) (by rfl) T.z_repr (by decide +kernel) (pa_cons (pv 6) pa_nil)) (pe_callB (call_rep K rfl D_lrepr T.t_Layout_repr hg hr (by decide)) (by rfl) T.z_repr (by decide +kernel) (pa_cons (pe_lst (pa_cons (pv 4) (pa_cons (pv 4) pa_nil))) pa_nil)) (nomark _)) (pe_one (pe_cmpR op_eq (pe_callB (call_rep K rfl D_lrepr T.t_Layout_repr hg hr (by decide)) (by rfl) T.z_repr (by decide +kernel) (pa_cons (pv 3) pa_nil)) (pv 5) (nomark _)))))))), ?_⟩
  obtain ⟨mv, lv, c, v, o, p, rfl, hm, hl, la, ok, hi, sm, ft, q⟩ := h
  obtain ⟨S, hS⟩ := it_text hi ft
  refine go_par (go_ea (vs := [.bl (blotO p o), .str S]) (ea_cons (ev_fn (ea_cons (ev_var rfl) (ea_cons (ev_var rfl) (ea_cons (ev_var rfl) ea_nil))) fun H1 e Q E r => ⟨mv, lv, v, o, p, rfl, hm.ex e, hl.ex e, ok, hi.ex e, sm, r⟩) (ea_cons (ev_rep (ev_var rfl) hS) ea_nil)) fun H1 e1 => ⟨_, _, rfl, ?_⟩)
  have la1 := la.ex e1
  have hi1 := hi.ex e1
  refine q_asgP (G := H1) (P := fun v H => Dx H v (.list [.bool (blotO p o), .bool (blotO p o)])) (ed_lst (ed_cons (ed_ev (ev_fn (ea_cons (ev_var rfl) (ea_cons (ev_var rfl) ea_nil)) fun H2 e Q E r => ⟨c, v, o, p, rfl, la1.ex e, ok, hi1.ex e, sm, r⟩) (.bl _))
    (ed_cons (ed_ev (ev_names (zs := [v, .ref c]) (ea_cons (ev_var rfl) (ea_cons (ev_var rfl) ea_nil)) fun H2 e Q r => ⟨c, v, o, p, rfl, la1.ex e, ok, hi1.ex e, sm, r⟩) (.bl _)) ed_nil)) (by show 2 ≤ 100000; decide)) (Ex.refl H1) fun y H2 e2 hy => ?_
  have hy2 : Dx H2 y _ := hy.ex nw_sub
  have hS2 := (hS.ex e1).ex e2
  refine s_ret (ev_is (ev_andV (a := decide (V.str (PyData.list [.bool (blotO p o), .bool (blotO p o)]).shown = V.str (PyData.list [.bool (blotO p o), .bool (blotO p o)]).shown)) (b := decide (V.str S = V.str S)) (ev_op (ev_rep (ev_var rfl) (.inl ⟨_, hy2, fit_two _, rfl⟩)) (ev_repD (ed_lst (ed_cons (ed_ev (ev_var rfl) (.bl _)) (ed_cons (ed_ev (ev_var rfl) (.bl _)) ed_nil)) (by show 2 ≤ 100000; decide)) (fit_two _)) (rv_eq rfl)) fun _ => ev_op (ev_rep (ev_var rfl) hS2) (ev_var rfl) (rv_eq rfl)) ?_) fun H3 e3 => q H3 ((e1.trans e2).trans e3)
  rw [decide_eq_true rfl, decide_eq_true rfl] <;> rfl
end
end SF
set_option Elab.async false
set_option linter.all false
set_option maxRecDepth 100000
set_option maxHeartbeats 4000000
namespace SF
open PySem PySem.Spec PyProof.Rows L2 Evl
section
variable {P : Program} {w : World} {K : PySem.W.Frag} {mg : Str → Option Value} {base : Heap}

/-! ### the law's items can be shown -/
def LfN (m : Nat) (ds : List PyData) : Prop := ds.length ≤ m ∧ ∀ x ∈ ds, leafB x = true
theorem lf_nats {r : List Nat} {m : Nat} (hl : r.length ≤ m) (h : ∀ x ∈ r, x < 1000) : LfN m (natsD r) := ⟨by rw [natsD_len]; exact hl, fun x hx => by
  obtain ⟨n, hn, rfl⟩ := List.mem_map.mp hx
  have := h n hn
  exact decide_eq_true (by omega)⟩
theorem lf_app {a b c : Nat} {xs ys : List PyData} (h1 : LfN a xs) (h2 : LfN b ys) (hc : a + b ≤ c) : LfN c (xs ++ ys) := ⟨by rw [List.length_append]; have := h1.1; have := h2.1; omega, fun x hx => (List.mem_append.mp hx).elim (h1.2 x) (h2.2 x)⟩
theorem lf_rev {a : Nat} {xs : List PyData} (h : LfN a xs) : LfN a xs.reverse := ⟨by rw [List.length_reverse]; exact h.1, fun x hx => h.2 x (List.mem_reverse.mp hx)⟩
theorem lf_cut {a : Nat} {xs : List PyData} {lo hi : Option Int} (h : LfN a xs) : LfN a (cutD xs lo hi) := ⟨Nat.le_trans cut_le h.1, fun x hx => h.2 x (List.mem_of_mem_drop (List.mem_of_mem_take hx))⟩
theorem lf_one {x : PyData} (h : leafB x = true) : LfN 1 [x] := ⟨Nat.le_refl _, fun y hy => by rw [List.mem_singleton.mp hy]; exact h⟩
theorem lf_nil : LfN 0 [] := ⟨Nat.le_refl _, fun _ h => (by cases h)⟩
theorem lf_tru {r : List Nat} {m : Nat} (hl : r.length ≤ m) (h : ∀ x ∈ r, x < 1000) : LfN m (r.map truD) := ⟨by rw [List.length_map]; exact hl, fun x hx => by
  obtain ⟨n, hn, rfl⟩ := List.mem_map.mp hx
  have := h n hn
  unfold truD
  by_cases c : n < 2
  · rw [if_pos c] <;> rfl
  · rw [if_neg c]; exact decide_eq_true (by omega)⟩
section
variable {n m : Nat} {a b c d : PyData} {ds : List PyData}
theorem sm_l (h : LfN m ds) (hm : m ≤ 14 := by decide) : Sm (n + 1) (.list ds) := .lst (Nat.le_trans h.1 hm) fun x hx => .leaf (h.2 x hx)
theorem sm_t (h : LfN m ds) (hm : m ≤ 14 := by decide) : Sm (n + 1) (.tuple ds) := .tup (Nat.le_trans h.1 hm) fun x hx => .leaf (h.2 x hx)
theorem each1 {p : PyData → Prop} (h : p a) : ∀ x ∈ [a], p x := fun x hx => by rw [List.mem_singleton.mp hx]; exact h
theorem each_cons {p : PyData → Prop} (h : p a) (t : ∀ x ∈ ds, p x) : ∀ x ∈ a :: ds, p x := fun x hx => (List.mem_cons.mp hx).elim (fun e => e ▸ h) (t x)
theorem t2 (h1 : Sm 2 a) (h2 : Sm 2 b) : fitO (some (.tuple [a, b])) := Fit.sm (.tup (by show 2 ≤ 14; decide) (each_cons h1 (each1 h2)))
theorem t3 (h1 : Sm 2 a) (h2 : Sm 2 b) (h3 : Sm 2 c) : fitO (some (.tuple [a, b, c])) := Fit.sm (.tup (by show 3 ≤ 14; decide) (each_cons h1 (each_cons h2 (each1 h3))))
theorem t4 (h1 : Sm 2 a) (h2 : Sm 2 b) (h3 : Sm 2 c) (h4 : Sm 2 d) : fitO (some (.tuple [a, b, c, d])) := Fit.sm (.tup (by show 4 ≤ 14; decide) (each_cons h1 (each_cons h2 (each_cons h3 (each1 h4)))))
theorem l3 (h1 : Sm 2 a) (h2 : Sm 2 b) (h3 : Sm 2 c) : fitO (some (.list [a, b, c])) := Fit.sm (.lst (by show 3 ≤ 14; decide) (each_cons h1 (each_cons h2 (each1 h3))))
theorem lf (h : leafB a = true) : fitO (some a) := Fit.sm (.leaf h)
theorem wrap (h : Sm 1 a) : Sm 2 (.list [a]) := .lst (by show 1 ≤ 14; decide) (each1 h)
end
theorem oc {p : Option PyData → Prop} {o : Option PyData} {os : List (Option PyData)} (h : p o) (t : ∀ x ∈ os, p x) : ∀ x ∈ o :: os, p x := fun x hx => (List.mem_cons.mp hx).elim (fun e => e ▸ h) (t x)
theorem on {p : Option PyData → Prop} : ∀ x ∈ ([] : List (Option PyData)), p x := fun _ h => (by cases h)
theorem fit_trip {n k : Nat} {r1 r2 : List Nat} (hk : k < 1000) (h1 : r1.length ≤ 5) (h2 : r2.length ≤ 5) (g1 : ∀ x ∈ r1, x < 1000) (g2 : ∀ x ∈ r2, x < 1000) : fitO (some (tripD k r1 r2)) :=
  t3 (.leaf (decide_eq_true (by omega))) (sm_l (lf_nats h1 g1)) (sm_l (lf_nats h2 g2))
theorem fit_bent {k n m : Nat} {r1 r2 : List Nat} (hk : k < 1000) (hn : n < 1000) (hm : m < 1000) (h1 : r1.length ≤ 5) (h2 : r2.length ≤ 5) (g1 : ∀ x ∈ r1, x < 1000) (g2 : ∀ x ∈ r2, x < 1000) : ∀ o ∈ bentOs k n m r1 r2, fitO o := by
  have a := lf_nats h1 g1
  have b := lf_nats h2 g2
  have ik : leafB (.int (k : Nat)) = true := decide_eq_true (by omega)
  have im : leafB (.int (m : Nat)) = true := decide_eq_true (by omega)
  have in_ : leafB (.int (n : Nat)) = true := decide_eq_true (by omega)
  have K : ∀ {j}, Sm j (.int (k : Nat)) := .leaf ik
  have M : ∀ {j}, Sm j (.int (m : Nat)) := .leaf im
  have N : ∀ {j}, Sm j (.int (n : Nat)) := .leaf in_
  have O : ∀ {j}, Sm j .none := .leaf rfl
  have A : ∀ {j}, Sm (j + 1) (.list (natsD r1)) := sm_l a
  have B : ∀ {j}, Sm (j + 1) (.list (natsD r2)) := sm_l b
  have I : ∀ {j} {i : Int}, i.natAbs < 1000 → Sm j (.int i) := fun h => .leaf (decide_eq_true h)
  have p0 : ∀ o ∈ bent0 k n m r1 r2, fitO o := oc (fit_trip (n := n) hk h1 h2 g1 g2) (oc (t3 K B A) (oc (t3 K A A) (oc (t3 K B B) (oc (t3 M A B) (oc (t3 K (sm_l (lf_app (c := 6) a (lf_one im) (by omega))) B) on)))))
  have p1 : ∀ o ∈ bent1 k n m r1 r2, fitO o := oc (t3 K A (sm_l (lf_app (c := 6) b (lf_one im) (by omega)))) (oc (t3 K (sm_l (lf_cut a)) B) (oc (t3 K A (sm_l (lf_cut b))) (oc (t3 K (sm_l (lf_rev a)) B) on)))
  have p2 : ∀ o ∈ bent2 k n m r1 r2, fitO o := oc (t3 K A (sm_l (lf_rev b))) (oc (t3 K (sm_l (lf_app (c := 10) a (lf_cut a) (by omega))) B) (oc (t3 K A (sm_l (lf_app (c := 6) b (lf_one ik) (by omega)))) (oc (t3 K (sm_l (lf_one ik)) B) on)))
  have p3 : ∀ o ∈ bent3 k n m r1 r2, fitO o := oc (t3 K (sm_t a) B) (oc (t3 K (sm_t a) (sm_t b)) (oc (l3 K A B) (oc (t2 K A) on)))
  have p4 : ∀ o ∈ bent4 k n m r1 r2, fitO o := oc (t2 A B) (oc (t4 K A B K) (oc (t4 K A B O) (oc (t3 (sm_t (lf_one ik)) A B) (oc (t3 K O B) on))))
  have p5 : ∀ o ∈ bent5 k n m r1 r2, fitO o := oc (t3 K A O) on
  have p6 : ∀ o ∈ bent6 k n m r1 r2, fitO o := oc (t3 O A B) (oc (t3 (.leaf (by decide +kernel)) A B) (oc (t3 (I (by decide)) A B) (oc (t3 N A B) (oc (t3 K (sm_l (lf_app (c := 6) a (lf_one (x := .none) rfl) (by omega))) B) on))))
  have p7 : ∀ o ∈ bent7 k n m r1 r2, fitO o := oc (t3 K (sm_l (lf_app (c := 6) (lf_one (x := .int (-1)) (by decide +kernel)) a (by omega))) B) (oc (t3 K A (sm_l (lf_app (c := 6) (lf_one in_) b (by omega)))) (oc (t3 K (sm_l lf_nil) B) (oc (t3 K A (sm_l lf_nil)) on)))
  have p8 : ∀ o ∈ bent8 k n m r1 r2, fitO o := oc (t3 (.leaf rfl) A B) (oc (t3 K (sm_l (lf_tru h1 g1)) B) (oc (t3 K A (sm_l (lf_tru h2 g2))) (oc (t3 K K K) on)))
  have p9 : ∀ o ∈ bent9 k n m r1 r2, fitO o := oc (show Fit _ from .tdic (by omega) B) (oc (t3 K (wrap A) (wrap B)) (oc (t3 K A (.leaf (by decide +kernel))) on))
  have p10 : ∀ o ∈ bent10 k n m r1 r2, fitO o := oc (lf rfl) (oc (lf (by decide +kernel)) (oc (lf (by decide +kernel)) (oc (show Fit _ from .sm (sm_t lf_nil)) (oc (show Fit _ from .sm (sm_l lf_nil)) (oc (show Fit _ from .dic) (oc trivial
    (oc (t3 (I (by decide)) (sm_l (lf_one (by decide +kernel))) (sm_l (lf_one (by decide +kernel)))) (oc (t3 (I (by decide)) (sm_l (lf_app (xs := [.int 0]) (c := 2) (lf_one (by decide +kernel)) (lf_one (by decide +kernel)) (by omega))) (sm_l (lf_one (by decide +kernel))))
    (oc (t3 (I (by decide)) (sm_l (lf_one (by decide +kernel))) (sm_l (lf_app (xs := [.int 1]) (c := 2) (lf_one (by decide +kernel)) (lf_one (by decide +kernel)) (by omega)))) (oc (t3 (I (by decide)) (I (by decide)) (I (by decide))) (oc (lf (by decide +kernel)) on)))))))))))
  intro o ho
  unfold bentOs at ho
  simp only [List.mem_append] at ho
  rcases ho with (((((((((ho | ho) | ho) | ho) | ho) | ho) | ho) | ho) | ho) | ho) | ho
  · exact p0 o ho
  · exact p1 o ho
  · exact p2 o ho
  · exact p3 o ho
  · exact p4 o ho
  · exact p5 o ho
  · exact p6 o ho
  · exact p7 o ho
  · exact p8 o ho
  · exact p9 o ho
  · exact p10 o ho
theorem sm_len {n : Nat} {d : PyData} (h : Sm n d) : lenD d ≤ 14 := by
  cases h with
  | leaf h => cases d <;> first | exact Nat.zero_le _ | exact Bool.noConfusion h
  | lst h _ => exact h
  | tup h _ => exact h
theorem fit_small : ∀ {o : Option PyData}, fitO o → smO o
  | none, _ => trivial
  | some d, f => by
    have f : Fit d := f
    cases f with
    | sm h =>
      refine ⟨by have := sm_len h; omega, fun x hx => ?_⟩
      cases h with
      | leaf h => cases d <;> first | (cases hx; done) | exact Bool.noConfusion h
      | lst _ h => have := sm_len (h x hx); omega
      | tup _ h => have := sm_len (h x hx); omega
    | dic => exact ⟨Nat.zero_le _, fun x hx => by cases hx⟩
    | tdic hk h =>
      refine ⟨by show 3 ≤ 1000; decide, fun x hx => ?_⟩
      rcases List.mem_cons.mp hx with rfl | hx
      · exact Nat.zero_le _
      · rcases List.mem_cons.mp hx with rfl | hx
        · exact Nat.zero_le _
        · rw [List.mem_singleton.mp hx]
          have := sm_len h
          omega
/-! ### all(..) over a list that is made for it -/
section
variable {K : PySem.W.Frag} {σ : L2.St} {G H : Hp} {g : TG} {te tl : TE} {ta : TA} {vs : List Nat}
theorem al_true {n : Nat} {h : Hp} {ys : List V} (al : Al (fun _ v _ => v = .bl true) h (ixs n fun _ => true) ys) : ys = ((List.range n).map fun _ => true).map V.bl := by
  rw [Al.eq (v := fun _ => V.bl true) al, ixs_all, List.map_map]
  rfl
theorem ev_allOf {Pl : PV} (h : ∀ H1, Ex G H1 → ∀ Q : VK, (∀ v H2, Ex H1 H2 → Pl v H2 → Q v H2) → tl σ H1 Q) (hs : ∀ v G', Ex G G' → Pl v G' → ∃ a xs, v = .ref a ∧ G' a = some (.lst xs) ∧ xs.length ≤ 50000 ∧ ∀ (i : Nat) (x : V), xs[i]? = some x → TurnP g tYes te σ vs x G' true (fun v _ => v = .bl true)) :
    Ev (tCB (rAll K) (tCons (tLc (iList K tl) g tYes te vs) tNil)) σ G (.bl true) := fun H1 e Q q => by
  refine h H1 e _ fun v H2 e2 hv => ?_
  obtain ⟨a, xs, rfl, hx, hz, turn⟩ := hs v H2 (e.trans e2) hv
  have key := ev_all (K := K) (bs := (List.range xs.length).map fun _ => true) (lp_list (K := K) (tl := tC (.ref a)) (fun _ => true) (fun _ v _ => v = .bl true) (fun _ => up_s) ev_c hx hz turn) (fun ys h al => al_true al)
  have eb : ((List.range xs.length).map fun _ => true).all id = true := by
    rw [List.all_eq_true]
    intro b hb
    obtain ⟨_, _, rfl⟩ := List.mem_map.mp hb
    rfl
  rw [eb] at key
  exact key H2 (Ex.refl H2) Q fun H3 e3 => q H3 (e2.trans e3)
/-- a call whose arguments are known by what holds of them, one value back -/
theorem ev_callAs {sp : Sp} {E : XK} {R : PL} {z : V} (h : EvAs ta σ G R) (hs : ∀ G' H1 vs, Ex G G' → Ex G' H1 → R vs G' → ∀ Q, RetV z H1 Q → sp (vs ++ []) H1 Q E) : Ev (tCall sp [] E ta) σ G z := fun H1 e Q q =>
  h H1 e _ fun vs H2 e2 hd => hs (Nw G H1 H2) H2 vs (nw_base (e.trans e2)) nw_sub hd Q fun H3 e3 => q H3 (e2.trans e3)
end
end
end SF
set_option Elab.async false
set_option linter.all false
set_option maxRecDepth 100000
set_option maxHeartbeats 4000000
namespace SF
open PySem PySem.Spec PyProof.Rows L2 Evl
section
variable {P : Program} {w : World} {K : PySem.W.Frag} {mg : Str → Option Value} {base : Heap}

section
variable {K : PySem.W.Frag} {σ : L2.St} {G H : Hp} {ta : TA}
/-- a list of what is known by what holds of it -/
theorem lp_lstAs {R : PL} {Pd : PyData → Prop} (h : EvAs ta σ G R) (k : ∀ vs h, R vs h → ∃ ds, DxAll h vs ds ∧ ds.length ≤ 100 ∧ ∀ d ∈ ds, Pd d) : EvLP (tLst ta) σ G (fun ys h => ∃ ds, DxAll h ys ds ∧ ds.length ≤ 100 ∧ ∀ d ∈ ds, Pd d) := fun H1 e Q q =>
  h H1 e _ fun vs H2 e2 hv => by
    obtain ⟨ds, al, hz, hp⟩ := k vs _ hv
    refine ⟨sz_of (by rw [al.length]; omega), fun p hp2 => q p vs _ (fresh_back e2 hp2) (e2.trans (Ex.new hp2)) upd_same ⟨ds, al.ex (fun b v z => ?_), hz, hp⟩⟩
    have hb : Nw G H1 H2 p = none := by
      cases c : Nw G H1 H2 p with
      | none => rfl
      | some u => have := nw_val c; rw [hp2] at this; cases this
    have nb : b ≠ p := fun z2 => by rw [z2, hb] at z; cases z
    rw [hide_ne nb]
    exact nw_up (Ex.new hp2) _ _ z
end
theorem rowsIn_up {n : Nat} {v : V} {G H1 H2 : Hp} (h : RowsIn n v (Nw G H1 H2)) : RowsIn n v H2 := up_rowsIn _ _ _ nw_sub h
theorem trips_up {n : Nat} {v : V} {H H' : Hp} (e : Ex H H') (h : TripsP n v H) : TripsP n v H' := let ⟨ds, h1, r⟩ := h; ⟨ds, h1.ex e, r⟩
theorem bent_len {k n m : Nat} {r1 r2 : List Nat} : (bentOs k n m r1 r2).length = 52 := by
  unfold bentOs
  simp only [List.length_append, bl0, bl1, bl2, bl3, bl4, bl5, bl6, bl7, bl8, bl9, bl10]
def spRight : Sp := fun vs H Q _ => ∃ a, vs = [.ref a] ∧ PotAt a H ∧ RetV (.bl true) H Q
abbrev N_law_right : List Str := ["_law_pot_here", "_law_model_here", "_law_turn", "_law_lot_here", "_law_plan_here", "_law_many", "_law_told", "_law_rows_here", "_law_bases", "_law_base", "_law_item"]
theorem sc_law_right : FnScope N_law_right ["_law_pot_here"] (defScope (topS 87)) := ⟨rfl, rfl, rfl, by decide +kernel, rfl, by decide +kernel, by decide +kernel⟩
theorem dg_law_right (T : Txt K mg) (D_law_model : Dn P w K mg base 4 "_law_model" ["_law_pot_here", "_law_most_size", "_law_most_many"] spModel) (D_law_lot : Dn P w K mg base 2 "_law_lot" ["_law_pot_here", "_law_model_here", "_law_most"] spLot) (D_law_plan : Dn P w K mg base 11 "_law_plan" ["_law_model_here", "_law_lot_here"] (spPlan K)) (D_law_values : Dn P w K mg base 3 "_law_values" ["_law_pot_here", "_law_many"] spLawValues) (D_law_judged : DnG P w K mg base 6 "_law_judged" ["_law_model_here", "_law_lot_here", "_law_plan_here", "_law_item"] (spJudged K)) (D_blot : Dn P w K mg base 6 "blot" ["layout"] (spBlot K)) (D_law_rows : Dn P w K mg base 1 "_law_rows" ["_law_many"] spLawRows) (D_law_draw : Dn P w K mg base 1 "_law_draw" ["_law_pot_here", "_law_many"] spDraw) (D_law_pick : Dn P w K mg base 2 "_law_pick" ["_law_pot_here", "_law_some"] spPick) (D_law_bent : Dn P w K mg base 3 "_law_bent" ["_law_pot_here", "_law_plan_here", "_law_base"] (spLawBent K)) : DnG P w K mg base 12 "_law_right" ["_law_pot_here"] spRight := by
  refine dnG_of T.f_law_right sc_law_right (fun _ _ _ _ _ _ us hl => match us, hl with | [_], _ => rfl) (by rintro vs H Q E ⟨a, rfl, _⟩; rfl) (fun f cdv A outer s H vs Q E hg hr h => ?_)
  have nd := sc_law_right.nd
  refine ⟨_, (pss_cons (ps_set (i := 1) nd rfl (.inr rfl) (pe_fn D_law_model hr (by decide) (by rfl) (pa_cons (pv 0) (pa_cons pe_int (pa_cons pe_int pa_nil)))))
      (pss_cons (ps_for PassesOwn.never rfl (pi_range1 (by rfl) T.z_range (pa_cons pe_int pa_nil)) (pg_name (i := 2) nd rfl (by first | exact Or.inl rfl | exact Or.inr rfl)) (pss_cons (ps_set (i := 3) nd rfl (.inr rfl) (pe_fn D_law_lot hr (by decide) (by rfl) (pa_cons (pv 0) (pa_cons (pv 1) (pa_cons pe_int pa_nil)))))
      (pss_cons (ps_asg (pe_tup (pa_cons (pe_fn D_law_plan hr (by decide) (by rfl) (pa_cons (pv 1) (pa_cons (pv 3) pa_nil))) (pa_cons (pe_op op_add (pe_callB (call_lenK K rfl) (by rfl) T.z_len (by decide +kernel) (pa_cons (pe_ix (ix_tupK K rfl) (pv 3) pe_int (fun _ _ => rfl)) pa_nil)) (pe_callB (call_lenK K rfl) (by rfl) T.z_len (by decide +kernel) (pa_cons (pe_ix (ix_tupK K rfl) (pv 3) pe_int (fun _ _ => rfl)) pa_nil))) pa_nil))) (pg_tupK K rfl 2 (by rfl) (pgs_cons (pg_name (i := 4) nd rfl (by first | exact Or.inl rfl | exact Or.inr rfl)) (pgs_cons (pg_name (i := 5) nd rfl (by first | exact Or.inl rfl | exact Or.inr rfl)) pgs_nil))))
      (pss_cons (ps_if (pt_not (pt_val (pe_callB (call_allK K rfl rfl) (by rfl) T.z_all (by decide +kernel) (pa_cons (pe_lc (own := [("_law_item", 10)]) (by rfl) nd (pi_listK K rfl (pe_fn D_law_values hr (by decide) (by rfl) (pa_cons (pv 0) (pa_cons (pv 5) pa_nil)))) (blkOk_by (own := [("_law_item", 10)]) (N := N_law_right) (sc := (defScope (topS 87))) (by decide +kernel)) (fun _ _ _ _ _ => (pg_name (i := 10) nd rfl (by first | exact Or.inl rfl | exact Or.inr rfl))) (fun _ _ _ _ _ => pts_nil) (fun _ _ _ _ _ => (pe_fnG D_law_judged hg hr (by decide) (by rfl) (pa_cons (pv 1) (pa_cons (pv 3) (pa_cons (pv 4) (pa_cons (pv 10) pa_nil))))))) pa_nil)))) (pss_one (ps_ret pe_bl)) pss_nil)
      (pss_cons (ps_par (i := 6) (j := 7) (by rfl) nd rfl rfl (by decide) rfl rfl (pa_cons (pe_fn D_blot hr (by decide) (by rfl) (pa_cons (pv 4) pa_nil)) (pa_cons (pe_fn D_law_rows hr (by decide) (by rfl) (pa_cons (pv 5) pa_nil)) pa_nil)) (by rfl))
      (pss_cons (ps_set (i := 8) nd rfl (.inl rfl) (pe_lst (pa_cons (pe_tup (pa_cons (pe_fn D_law_draw hr (by decide) (by rfl) (pa_cons (pv 0) (pa_cons (pv 5) pa_nil))) (pa_cons (pe_fn D_law_pick hr (by decide) (by rfl) (pa_cons (pv 0) (pa_cons (pv 7) pa_nil))) (pa_cons (pe_fn D_law_pick hr (by decide) (by rfl) (pa_cons (pv 0) (pa_cons (pv 7) pa_nil))) pa_nil)))) (pa_cons (pe_tup (pa_cons pe_int (pa_cons (pe_lst (pa_cons pe_int pa_nil)) (pa_cons (pe_lst (pa_cons (pe_op op_sub (pv 5) pe_int) pa_nil)) pa_nil)))) pa_nil))))
      (pss_cut (ps_if (pt_cmpR op_notN (pv 6) pe_non (nomark _)) (pss_one (ps_expr (pe_bmK K rfl PySem.F.plainAttrs_list PySem.F.slot_list_append PySem.F.type_list_append mt_append (pv 8) (pa_cons (pv 6) pa_nil)))) pss_nil)
      (pss_one (ps_for PassesOwn.never rfl (pi_listK K rfl (pv 8)) (pg_name (i := 9) nd rfl (by first | exact Or.inl rfl | exact Or.inr rfl)) (pss_one (ps_if (pt_not (pt_val (pe_callB (call_allK K rfl rfl) (by rfl) T.z_all (by decide +kernel) (pa_cons (pe_lc (own := [("_law_item", 10)]) (by rfl) nd (pi_listK K rfl (pe_fn D_law_bent hr (by decide) (by rfl) (pa_cons (pv 0) (pa_cons (pv 4) (pa_cons (pv 9) pa_nil))))) (blkOk_by (own := [("_law_item", 10)]) (N := N_law_right) (sc := (defScope (topS 87))) (by decide +kernel)) (fun _ _ _ _ _ => (pg_name (i := 10) nd rfl (by first | exact Or.inl rfl | exact Or.inr rfl))) (fun _ _ _ _ _ => pts_nil) (fun _ _ _ _ _ => (pe_fnG D_law_judged hg hr (by decide) (by rfl) (pa_cons (pv 1) (pa_cons (pv 3) (pa_cons (pv 4) (pa_cons (pv 10) pa_nil))))))) pa_nil)))) (pss_one (ps_ret pe_bl)) pss_nil)))))))))))
      (pss_one (ps_ret pe_bl)))), ?_⟩
  obtain ⟨a, rfl, hp, q⟩ := h
  refine q_asgP (G := H) (P := ModelP 4) (ep_call up_model (ea_cons (ev_var rfl) (ea_cons ev_c (ea_cons ev_c ea_nil))) fun H1 e Q r => ⟨H, a, 4, 3, rfl, e, hp, by decide, by decide, by decide, by decide, r⟩) (Ex.refl H) fun mv H1 e1 hmv => ?_
  obtain ⟨ns, rs, hm, okn, okr, lrs⟩ := hmv
  have hm1 : Dx H1 mv (modelD ns rs) := hm.ex nw_sub
  have hp1 : PotAt a H1 := e1 _ _ hp
  refine q_forR1 (n := 2) (ea_cons ev_c ea_nil) ⟨by omega, by omega⟩ (fun i σ' H' => ∃ y2 y3 y4 y5 y6 y7 y8 y9, σ' = [some (.ref a), some mv, y2, y3, y4, y5, y6, y7, y8, y9, none] ∧ Ex H1 H') (fun H2 e2 => ⟨_, _, _, _, _, _, _, _, rfl, e2⟩) (fun i σ' H' _ pv => ?_) (fun σ' H' pv => ?_)
  rotate_left
  · obtain ⟨y2, y3, y4, y5, y6, y7, y8, y9, rfl, e⟩ := pv
    exact s_ret ev_c fun H3 e3 => q H3 ((e1.trans e).trans e3)
  obtain ⟨y2, y3, y4, y5, y6, y7, y8, y9, rfl, eH⟩ := pv
  have hm' := hm1.ex eH
  have hp' : PotAt a H' := eH _ _ hp1
  refine q_asgP (G := H') (P := LotP ns rs) (ep_call up_lot (ea_cons (ev_var rfl) (ea_cons (ev_var rfl) (ea_cons ev_c ea_nil))) fun H2 e Q r => ⟨H', a, mv, ns, rs, rfl, e, hp', hm', okn, okr, r⟩) (Ex.refl H') fun lv H2 e2 hlv => ?_
  obtain ⟨p, rfl, rfl, okp, h4, hl⟩ := hlv
  have hl2 : Dx H2 lv (lotD p) := hl.ex nw_sub
  have hm2 := hm'.ex e2
  have hp2 : PotAt a H2 := e2 _ _ hp'
  have emany : (p.near.length : Int) + (p.far.length : Int) = (p.many : Nat) := by unfold Plan.many; omega
  have many4 : p.many ≤ 4 := h4
  have many1 : 1 ≤ p.many := by
    have : 0 < p.near.length := List.length_pos_iff.mpr okp.ne1
    unfold Plan.many; omega
  refine go_asg (go_tup (go_cons (go_ev (G := H2) (PR := LayP K p) (ep_call up_lay (ea_cons (ev_var rfl) (ea_cons (ev_var rfl) ea_nil)) fun H3 e Q r => ⟨H2, mv, lv, p, rfl, e, hm2, hl2, okp, r⟩) (Ex.refl H2) fun vp H3 e3 hvp => go_cons (go_evV (G := H3) (v := .int (p.many : Nat)) (ev_op (ev_lotLen1 (ed_ev (ev_var rfl) (hl2.ex e3))) (ev_lotLen2 (ed_ev (ev_var rfl) (hl2.ex e3))) (rv_b (congrArg V.int emany))) (Ex.refl H3) fun H4 e4 => go_nil ⟨by show 2 ≤ sizeLine; decide, fun T hT => ?_⟩))))
  obtain ⟨c, rfl, la0⟩ := hvp
  refine ⟨T, _, rfl, st_of upd_same, rfl, _, _, rfl, _, _, rfl, rfl, ?_⟩
  have la3 : LayAt K c p H3 := la0.ex nw_sub
  have e35 : Ex H3 (upd H4 T (.tup [.ref c, .int (p.many : Nat)])) := e4.trans (Ex.new hT)
  dsimp only
  generalize upd H4 T (.tup [.ref c, .int (p.many : Nat)]) = H5 at e35 ⊢
  have e25 := e3.trans e35
  have hm5 := hm2.ex e25
  have hl5 := hl2.ex e25
  have la5 := la3.ex e35
  have hp5 : PotAt a H5 := e25 _ _ hp2
  refine q_when (b := false) (et_is (et_not (et_B (ev_allOf (G := H5) (Pl := TripsP p.many) (fun H6 e6 Q6 q6 => go_call (go_cons (go_var rfl (go_cons (go_var rfl (go_nil ⟨H6, a, p.many, rfl, Ex.refl H6, e6 _ _ hp5, many1, many4, fun v H7 e7 hv => q6 v H7 e7 (trips_up nw_sub hv)⟩)))))) (fun v G' eg hv => ?_)))) rfl) (fun hf => Bool.noConfusion hf) fun _ H6 e6 => ?_
  · obtain ⟨ds, hd, hz, okd⟩ := hv
    obtain ⟨b, xs, rfl, hx, al⟩ := dx_lst hd
    refine ⟨b, xs, rfl, hx, by rw [al.length]; exact hz, fun i x hi => turn_name (fun _ => rfl) (ep_ev (ev_fn (ea_cons (ev_var rfl) (ea_cons (ev_var rfl) (ea_cons (ev_var rfl) (ea_cons (ev_var rfl) ea_nil)))) fun H7 e7 Q7 E7 r => ?_) fun _ _ => rfl)⟩
    obtain ⟨d, hd2, hdx⟩ := al.at' hi
    obtain ⟨k, r1, r2, rfl, hk, ok1, ok2⟩ := okd d (List.mem_of_getElem? hd2)
    have ft : fitO (some (tripD k r1 r2)) := fit_trip (n := 0) (by omega) ok1.1 ok2.1 (fun x hx => by have := ok1.2 x hx; omega) (fun x hx => by have := ok2.2 x hx; omega)
    exact ⟨mv, lv, c, x, some (tripD k r1 r2), p, rfl, hm5.ex (eg.trans e7), hl5.ex (eg.trans e7), la5.ex (eg.trans e7), okp, hdx.ex e7, fit_small ft, ft, r⟩
  have la6 := la5.ex e6
  refine go_par (go_cons (go_ev (G := H6) (PR := BlotP p) (ep_call up_blot (ea_cons (ev_var rfl) ea_nil) fun H7 e Q r => ⟨H6, c, p, rfl, e, la6, okp, r⟩) (Ex.refl H6) fun vt H7 e7 hvt => go_cons (go_ev (G := H7) (PR := RowsIn p.many) (ep_call up_rowsIn (ea_cons (ev_var rfl) ea_nil) fun H8 e Q r => ⟨H7, p.many, rfl, e, many1, many4, r⟩) (Ex.refl H7) fun vr H8 e8 hvr => go_nil ⟨_, _, rfl, ?_⟩)))
  have hvt7 : BlotP p vt H7 := up_blot _ _ _ nw_sub hvt
  have hvt8 : BlotP p vt H8 := up_blot _ _ _ e8 hvt7
  obtain ⟨F, hF, neF, szF, okF⟩ := rowsIn_up hvr
  have e58 := (e6.trans e7).trans e8
  have hp8 : PotAt a H8 := e58 _ _ hp5
  have szFM : F.map rowD1 ≠ [] ∧ (F.map rowD1).length ≤ 100000000 := ⟨fun z => neF (List.map_eq_nil_iff.mp z), by rw [List.length_map]; omega⟩
  refine s_asgLPs (G := H8) (R := fun ys h => ∃ ds, DxAll h ys ds ∧ ds.length ≤ 100 ∧ ∀ d ∈ ds, TripOk p.many d) (lp_lstAs (R := consP (TripP p.many) (consP (TripP p.many) nilP)) (eas_cons up_trip (up_consP up_trip up_nilP) ?_ (eas_cons up_trip up_nilP ?_ eas_nil)) ?_) (Ex.refl H8) fun l ys H9 hl9 e9 hys9 hR s2 hs2 => ?_
  · intro H10 e10 Q10 q10
    refine go_tup (go_cons (go_ev (ep_draw (ev_var rfl) (ev_var rfl) hp8 ⟨many1, by omega⟩) e10 fun v1 H11 e11 ⟨k, hk1, hk2⟩ => go_cons (go_ev (ep_pickL (ev_var rfl) (ed_ev (ev_var rfl) hF) hp8 szFM) (e10.trans e11) fun v2 H12 e12 ⟨d2, hd2, hv2⟩ => go_cons (go_ev (ep_pickL (ev_var rfl) (ed_ev (ev_var rfl) hF) hp8 szFM) ((e10.trans e11).trans e12) fun v3 H13 e13 ⟨d3, hd3, hv3⟩ => go_nil ⟨by show 3 ≤ sizeLine; decide, fun pt hpt => ?_⟩))))
    obtain ⟨r2, hr2, rfl⟩ := List.mem_map.mp hd2
    obtain ⟨r3, hr3, rfl⟩ := List.mem_map.mp hd3
    subst hk1
    have en := Ex.new (o := .tup [.int (k : Nat), v2, v3]) hpt
    refine q10 _ _ (((e11.trans e12).trans e13).trans en) ⟨tripD k r2 r3, ⟨k, r2, r3, rfl, hk2, okF _ hr2, okF _ hr3⟩, .tup (xs := [.int (k : Nat), v2, v3]) ?_ (.cons (.int _) (.cons (hv2.ex ?_) (.cons (hv3.ex ?_) .nil)))⟩
    · exact nw_new ((e11.trans e12).trans e13) hpt
    · exact (nw_chain e11).trans (nw_up (e13.trans en))
    · exact (nw_chain (e11.trans e12)).trans (nw_up en)
  · refine EvP.imp (P := fun v H => Dx H v (tripD 0 [0] [p.many - 1])) ?_ fun v H h => ⟨_, ⟨0, [0], [p.many - 1], rfl, by omega, ⟨by decide, fun x hx => ?_⟩, ⟨by show 1 ≤ 5; decide, fun x hx => ?_⟩⟩, h⟩
    · exact ed_tup (ed_cons (ed_ev ev_c (.int 0)) (ed_cons (ed_lst (ed_cons (ed_ev ev_c (.int 0)) ed_nil) (by show 1 ≤ 100000; decide)) (ed_cons (ed_lst (ed_cons (ed_ev (ev_op (x := .int (p.many : Nat)) (y := .int 1) (ev_var rfl) ev_c (rv_b (z := .int ((p.many - 1 : Nat) : Int)) (congrArg V.int (show (p.many : Int) - 1 = ((p.many - 1 : Nat) : Int) by omega)))) (.int _)) ed_nil) (by show 1 ≤ 100000; decide)) ed_nil))) (by show 3 ≤ 100000; decide)
    · rw [List.mem_singleton.mp hx]; omega
    · rw [List.mem_singleton.mp hx]; omega
  · rintro vs h ⟨v1, r1, rfl, ⟨d1, ok1, h1⟩, v2, r2, rfl, ⟨d2, ok2, h2⟩, rfl⟩
    refine ⟨[d1, d2], .cons h1 (.cons h2 .nil), by show 2 ≤ 100; decide, fun d hd => ?_⟩
    rcases List.mem_cons.mp hd with rfl | hd
    · exact ok1
    · rw [List.mem_singleton.mp hd]; exact ok2
  have es2 : s2 = [some (.ref a), some mv, some (.int (i : Int)), some lv, some (.ref c), some (.int (p.many : Nat)), some vt, some vr, some (.ref l), y9, none] := hs2
  subst es2
  clear hs2
  obtain ⟨ds, al9, hz9, ok9⟩ := hR
  have al9' : DxAll (hide H9 l) ys ds := al9.ex (hide_ex nw_sub)
  refine q_cut (M := fun σ' Hx => σ' = [some (.ref a), some mv, some (.int (i : Int)), some lv, some (.ref c), some (.int (p.many : Nat)), some vt, some vr, some (.ref l), y9, none] ∧ Ex H8 Hx ∧ ∃ ys ds, Hx l = some (.lst ys) ∧ DxAll (hide Hx l) ys ds ∧ ∀ d ∈ ds, TripOk p.many d) ?_ (fun σ' Hx mx => ?_)
  · refine s_when (b := !decide (vt = .non)) (et_test (ev_op (ev_var rfl) ev_c rv_notN)) (fun hc H10 e10 => ?_) (fun hc H10 e10 => ?_)
    · rcases hvt8 with hv | ⟨b, hb, okb⟩
      · rw [hv] at hc; exact Bool.noConfusion hc
      · have hly := e10 _ _ hys9
        refine s_app hly (ev_var rfl) (ev_var rfl) (by rw [al9.length]; omega) fun H11 e11 => ⟨rfl, ?_, ys ++ [vt], ds ++ [baseD b], upd_same, ?_, fun d hd => ?_⟩
        · exact Ex.mut ((e9.trans e10).trans e11) hl9
        · have sub : Ex (hide H9 l) (hide (upd H11 l (.lst (ys ++ [vt]))) l) := (hide_ex (e10.trans e11)).trans hide_upd
          exact (al9'.ex sub).append (.cons (hb.ex ((hide_to hl9).trans ((hide_ex e9).trans sub))) .nil)
        · rcases List.mem_append.mp hd with hd | hd
          · exact ok9 d hd
          · rw [List.mem_singleton.mp hd]
            exact ⟨b.who, b.a, b.b, rfl, okb.who, ⟨okb.la, okb.a⟩, ⟨okb.lb, okb.b⟩⟩
    · exact ⟨rfl, e9.trans e10, ys, ds, e10 _ _ hys9, al9'.ex (hide_ex e10), ok9⟩
  obtain ⟨rfl, e8x, ys, ds, hlx, alx, okx⟩ := mx
  have e5x := e58.trans e8x
  have hmx := hm5.ex e5x
  have hlvx := hl5.ex e5x
  have lax := la5.ex e5x
  have hpx : PotAt a Hx := e5x _ _ hp5
  refine s_forLn (ev_var rfl) (sq_of hlx) (fun j σ' Hj => ∃ y9, σ' = [some (.ref a), some mv, some (.int (i : Int)), some lv, some (.ref c), some (.int (p.many : Nat)), some vt, some vr, some (.ref l), y9, none] ∧ Ex Hx Hj) (fun Hj ej => ⟨_, rfl, ej⟩) (fun j σ' Hj _ pj => ?_) (fun j x σ' Hj hj pj => ?_) (fun σ' Hj pj => ?_)
  · obtain ⟨_, _, ej⟩ := pj
    exact sq_of (ej _ _ hlx)
  · obtain ⟨y9, rfl, ej⟩ := pj
    obtain ⟨d, hd, hdx⟩ := alx.at' hj
    obtain ⟨k, r1, r2, rfl, hk, ok1, ok2⟩ := okx d (List.mem_of_getElem? hd)
    have hxj : Dx Hj x (tripD k r1 r2) := (hdx.ex hide_sub).ex ej
    refine s_when (b := false) (et_is (et_not (et_B (ev_allOf (G := Hj) (Pl := BentP K p.many r1 r2 k) (fun H6 e6 Q6 q6 => go_call (go_cons (go_var rfl (go_cons (go_var rfl (go_cons (go_var rfl (go_nil ⟨a, c, x, p, k, r1, r2, rfl, (ej.trans e6) _ _ hpx, lax.ex (ej.trans e6), okp, hxj.ex e6, ok1.1, ok2.1, q6⟩)))))))) (fun v G' eg hv => ?_)))) rfl) (fun hf => Bool.noConfusion hf) fun _ H6 e6 => ⟨_, rfl, ej.trans e6⟩
    obtain ⟨b, xs, m, rfl, hx, hmn, al⟩ := hv
    refine ⟨b, xs, rfl, hx, by rw [al.length, bent_len]; decide, fun i2 x2 hi2 => turn_name (fun _ => rfl) (ep_ev (ev_fn (ea_cons (ev_var rfl) (ea_cons (ev_var rfl) (ea_cons (ev_var rfl) (ea_cons (ev_var rfl) ea_nil)))) fun H7 e7 Q7 E7 r => ?_) fun _ _ => rfl)⟩
    obtain ⟨o, ho, hit⟩ := al.at' i2 x2 hi2
    have ft : fitO o := fit_bent (k := k) (n := p.many) (m := m) (r1 := r1) (r2 := r2) (by omega) (by omega) (by omega) ok1.1 ok2.1 (fun x hx => by have := ok1.2 x hx; omega) (fun x hx => by have := ok2.2 x hx; omega) o (List.mem_of_getElem? ho)
    have ex7 := (ej.trans eg).trans e7
    exact ⟨mv, lv, c, x2, o, p, rfl, hmx.ex ex7, hlvx.ex ex7, lax.ex ex7, okp, hit.ex e7, fit_small ft, ft, r⟩
  · obtain ⟨y9, rfl, ej⟩ := pj
    exact ⟨_, _, _, _, _, _, _, _, rfl, (((eH.trans e2).trans e25).trans e5x).trans ej⟩
end
end SF
set_option Elab.async false
set_option linter.all false
set_option maxRecDepth 100000
set_option maxHeartbeats 4000000
namespace SF
open PySem PySem.Spec PyProof.Rows L2 Evl
section
variable {P : Program} {w : World} {K : PySem.W.Frag} {mg : Str → Option Value} {base : Heap}

section
variable {K : PySem.W.Frag} {σ : L2.St} {H : Hp} {ta tb : TE}
theorem ev_least {i j : Int} (ha : Ev ta σ H (.int i)) (hb : Ev tb σ H (.int j)) : Ev (tCB (fun xs H Q => ∃ i j, xs = [.int i, .int j] ∧ Q (.int (if j < i then j else i)) H) (tCons ta (tCons tb tNil))) σ H (.int (if j < i then j else i)) := fun H1 e Q q =>
  ha H1 e _ fun H2 e2 => hb H2 (e.trans e2) _ fun H3 e3 => ⟨i, j, rfl, q H3 (e2.trans e3)⟩
theorem ev_most {i j : Int} (ha : Ev ta σ H (.int i)) (hb : Ev tb σ H (.int j)) : Ev (tCB (fun xs H Q => ∃ i j, xs = [.int i, .int j] ∧ Q (.int (if j > i then j else i)) H) (tCons ta (tCons tb tNil))) σ H (.int (if j > i then j else i)) := fun H1 e Q q =>
  ha H1 e _ fun H2 e2 => hb H2 (e.trans e2) _ fun H3 e3 => ⟨i, j, rfl, q H3 (e2.trans e3)⟩
end
def spLaw (K : PySem.W.Frag) : Sp := fun vs H Q _ => ∃ a, ∃ ns : List Int, vs = [.ref a] ∧ SqL K H a (ns.map V.int) ∧ ∀ H2, Q (.bl true) H2
abbrev N_law : List Str := ["_law_script", "_law_k"]
theorem sc_law : FnScope N_law ["_law_script"] (defScope (topS 88)) := ⟨rfl, rfl, rfl, by decide +kernel, rfl, by decide +kernel, by decide +kernel⟩
theorem dg_law (T : Txt K mg) (D_law_right : DnG P w K mg base 12 "_law_right" ["_law_pot_here"] spRight) (D_law_pot : Dn P w K mg base 1 "_law_pot" ["_law_script", "_law_k"] (spPot K)) : DnG P w K mg base 13 "law" ["_law_script"] (spLaw K) := by
  refine dnG_of T.f_law sc_law (fun _ _ _ _ _ _ us hl => match us, hl with | [_], _ => rfl) (by rintro vs H Q E ⟨a, b, rfl, _⟩; rfl) (fun f cdv A outer s H vs Q E hg hr h => ?_)
  have nd := sc_law.nd
  refine ⟨_, (pss_one (ps_ret (pe_callB (call_allK K rfl rfl) (by rfl) T.z_all (by decide +kernel) (pa_cons (pe_lc (own := [("_law_k", 1)]) (by rfl) nd (pi_range1 (by rfl) T.z_range (pa_cons (pe_callB (call_max2 rfl) (by rfl) T.z_max (by decide +kernel) (pa_cons pe_int (pa_cons (pe_callB (call_min2 rfl) (by rfl) T.z_min (by decide +kernel) (pa_cons pe_int (pa_cons (pe_callB (call_lenK K rfl) (by rfl) T.z_len (by decide +kernel) (pa_cons (pv 0) pa_nil)) pa_nil))) pa_nil))) pa_nil)) (blkOk_by (own := [("_law_k", 1)]) (N := N_law) (sc := (defScope (topS 88))) (by decide +kernel)) (fun _ _ _ _ _ => (pg_name (i := 1) nd rfl (by first | exact Or.inl rfl | exact Or.inr rfl))) (fun _ _ _ _ _ => pts_nil) (fun _ _ _ _ _ => (pe_fnG D_law_right hg hr (by decide) (by rfl) (pa_cons (pe_fn D_law_pot hr (by decide) (by rfl) (pa_cons (pv 0) (pa_cons (pv 1) pa_nil))) pa_nil)))) pa_nil)))), ?_⟩
  obtain ⟨a, ns, rfl, hs, q⟩ := h
  have hlen : ((ns.map V.int).length : Int) = (ns.length : Nat) := by rw [List.length_map]
  obtain ⟨N, hN0, hN3, hN⟩ : ∃ N : Int, 0 ≤ N ∧ N ≤ 3 ∧ (if (if ((ns.map V.int).length : Int) < 3 then ((ns.map V.int).length : Int) else 3) > 1 then (if ((ns.map V.int).length : Int) < 3 then ((ns.map V.int).length : Int) else 3) else 1) = N := by
    refine ⟨_, ?_, ?_, rfl⟩
    · split <;> omega
    · split <;> split <;> omega
  refine s_ret (ev_is (ev_all (bs := (List.range N.toNat).map fun _ => true) (lp_range (n := N) (fun _ => true) (fun _ v _ => v = .bl true) (fun _ => up_s) (ea_cons (ev_is (ev_most (i := 1) (j := (if ((ns.map V.int).length : Int) < 3 then ((ns.map V.int).length : Int) else 3)) ev_c (ev_least (i := 3) (j := ((ns.map V.int).length : Int)) ev_c (ev_len (ev_var rfl) hs))) (congrArg V.int hN)) ea_nil) hN0 (by omega) fun i hi => turn_name (fun _ => rfl) (ep_ev (ev_callAs (R := consP PotP nilP) (eas_cons up_pot up_nilP (ep_call up_pot (ea_cons (ev_var rfl) (ea_cons (ev_var rfl) ea_nil)) fun H1 e Q r => ⟨H, a, ns, i, rfl, e, hs, by omega, r⟩) eas_nil) fun G' H1 vs eg eg2 hvs Q r => ?_) fun _ _ => rfl)) fun ys h al => al_true al) ?_) fun H1 e1 => q H1
  · obtain ⟨v, r1, rfl, ⟨p, rfl, hp⟩, rfl⟩ := hvs
    exact ⟨p, rfl, eg2 _ _ hp, r⟩
  · congr 1
    rw [List.all_eq_true]
    intro b hb
    obtain ⟨_, _, rfl⟩ := List.mem_map.mp hb
    rfl

/-- every def that the law reaches, one behind the other -/
theorem law_ok (T : Txt K mg) : DnG P w K mg base 13 "law" ["_law_script"] (spLaw K) := by
  have D_law_draw := dn_law_draw (P := P) (w := w) (base := base) T
  have D_law_pick := dn_law_pick (P := P) (w := w) (base := base) T D_law_draw
  have D_law_names := dn_law_names (P := P) (w := w) (base := base) T D_law_pick
  have D_law_any_rows := dn_law_any_rows (P := P) (w := w) (base := base) T D_law_draw D_law_pick
  have D_law_known_rows := dn_law_known_rows (P := P) (w := w) (base := base) T D_law_draw
  have D_law_model := dn_law_model (P := P) (w := w) (base := base) T D_law_draw D_law_pick D_law_names D_law_any_rows D_law_known_rows
  have D_law_lot := dn_law_lot (P := P) (w := w) (base := base) T D_law_draw
  have D_is_list := dn_is_list (P := P) (w := w) (base := base) T
  have D_is_name := dn_is_name (P := P) (w := w) (base := base) T
  have D_want_names_of_deeds := dn_want_names_of_deeds (P := P) (w := w) (base := base) T D_is_list D_is_name
  have D_is_integer := dn_is_integer (P := P) (w := w) (base := base) T
  have D_is_count := dn_is_count (P := P) (w := w) (base := base) T D_is_integer
  have D_is_below := dn_is_below (P := P) (w := w) (base := base) T D_is_count
  have D_is_answer := dn_is_answer (P := P) (w := w) (base := base) T D_is_below
  have D_is_entry := dn_is_entry (P := P) (w := w) (base := base) T D_is_answer D_is_below
  have D_is_row := dn_is_row (P := P) (w := w) (base := base) T D_is_list D_is_entry
  have D_want_few_deeds := dn_want_few_deeds (P := P) (w := w) (base := base) T
  have D_want_parts := dn_want_parts (P := P) (w := w) (base := base) T D_want_names_of_deeds D_is_list D_is_row D_want_few_deeds
  have D_Parts := mn_Parts__init (P := P) (w := w) (base := base) T
  have D_Thing := mn_Thing__init (P := P) (w := w) (base := base) T D_want_parts D_Parts
  have D_law_made := dn_law_made (P := P) (w := w) (base := base) T D_Thing
  have D_law_named := dn_law_named (P := P) (w := w) (base := base) T
  have D_is_state := dn_is_state (P := P) (w := w) (base := base) T D_is_below
  have D_want_state := dn_want_state (P := P) (w := w) (base := base) T D_is_state
  have D_is_deed := dn_is_deed (P := P) (w := w) (base := base) T
  have D_want_team_of := dn_want_team_of (P := P) (w := w) (base := base) T D_is_list D_is_deed
  have D_place_of := dn_place_of (P := P) (w := w) (base := base) T
  have D_Teams := mn_Teams__init (P := P) (w := w) (base := base) T
  have D_Layout := mn_Layout__init (P := P) (w := w) (base := base) T D_want_state D_want_team_of D_place_of D_Teams
  have D_law_plan := dn_law_plan (P := P) (w := w) (base := base) T D_law_made D_law_named D_Layout
  have D_law_rows := dn_law_rows (P := P) (w := w) (base := base) T
  have D_law_values := dn_law_values (P := P) (w := w) (base := base) T D_law_rows D_law_draw D_law_pick
  have D_law_is_row := dn_law_is_row (P := P) (w := w) (base := base) T
  have D_law_run := dn_law_run (P := P) (w := w) (base := base) T
  have D_law_sign := dn_law_sign (P := P) (w := w) (base := base) T D_law_run
  have D_law_is_blot := dn_law_is_blot (P := P) (w := w) (base := base) T D_law_is_row D_law_sign
  have D_Llen := mn_Layout__len (P := P) (w := w) (base := base) T
  have D_is_order := dn_is_order (P := P) (w := w) (base := base) T D_is_list D_is_below D_Llen
  have D_team_of := dn_team_of (P := P) (w := w) (base := base) T
  have D_places_of := dn_places_of (P := P) (w := w) (base := base) T
  have D_step_at := dn_step_at (P := P) (w := w) (base := base) T
  have D_run_of := dn_run_of (P := P) (w := w) (base := base) T D_step_at
  have D_answers_and_end := dn_answers_and_end (P := P) (w := w) (base := base) T D_places_of D_run_of
  have D_mark_in := dn_mark_in (P := P) (w := w) (base := base) T D_answers_and_end
  have D_is_blot := dn_is_blot (P := P) (w := w) (base := base) T D_is_below D_is_order D_team_of D_mark_in D_Llen
  have DK_is_blot := dk_is_blot (P := P) (w := w) (base := base) T D_is_below D_is_order D_team_of D_mark_in D_Llen
  have D_deeds := gn_Thing_deeds (P := P) (w := w) (base := base) T
  have D_rows := mn_Thing_rows (P := P) (w := w) (base := base) T
  have D_trepr := mg_Thing__repr (P := P) (w := w) (base := base) T D_deeds D_rows
  have D_first := gn_Layout_first (P := P) (w := w) (base := base) T
  have D_second := gn_Layout_second (P := P) (w := w) (base := base) T
  have D_lrepr := mg_Layout__repr (P := P) (w := w) (base := base) T D_trepr D_first D_second
  have D_law_judged := dg_law_judged (P := P) (w := w) (base := base) T D_law_is_blot D_is_blot DK_is_blot D_lrepr
  have D_kinds_of := dn_kinds_of (P := P) (w := w) (base := base) T D_places_of D_team_of
  have D_steps_from := dn_steps_from (P := P) (w := w) (base := base) T D_step_at
  have D_first_spots := dn_first_spots (P := P) (w := w) (base := base) T D_steps_from
  have D_next_spots := dn_next_spots (P := P) (w := w) (base := base) T D_steps_from
  have D_begun_by := dn_begun_by (P := P) (w := w) (base := base) T D_kinds_of D_first_spots D_next_spots
  have D_shared_marks := dn_shared_marks (P := P) (w := w) (base := base) T D_begun_by
  have D_order_of := dn_order_of (P := P) (w := w) (base := base) T
  have D_blot := dn_blot (P := P) (w := w) (base := base) T D_shared_marks D_kinds_of D_order_of
  have D_law_bent := dn_law_bent (P := P) (w := w) (base := base) T D_law_draw D_Llen
  have D_law_right := dg_law_right (P := P) (w := w) (base := base) T D_law_model D_law_lot D_law_plan D_law_values D_law_judged D_blot D_law_rows D_law_draw D_law_pick D_law_bent
  have D_law_pot := dn_law_pot (P := P) (w := w) (base := base) T
  exact dg_law (P := P) (w := w) (base := base) T D_law_right D_law_pot
end
end SF
set_option Elab.async false
set_option linter.all false
set_option maxRecDepth 100000
set_option maxHeartbeats 0
namespace SFH
open PySem PySem.Spec PyProof.Rows L2 SF
def fn0 : List He.DefD := [⟨("is_integer", none), "is_integer", "is_integer", defArgs (topS 21), defBody (topS 21), defScope (topS 21), [], []⟩,
  ⟨("is_count", none), "is_count", "is_count", defArgs (topS 22), defBody (topS 22), defScope (topS 22), [], []⟩,
  ⟨("is_below", none), "is_below", "is_below", defArgs (topS 23), defBody (topS 23), defScope (topS 23), [], []⟩,
  ⟨("is_answer", none), "is_answer", "is_answer", defArgs (topS 24), defBody (topS 24), defScope (topS 24), [], []⟩,
  ⟨("is_name", none), "is_name", "is_name", defArgs (topS 25), defBody (topS 25), defScope (topS 25), [], []⟩,
  ⟨("is_list", none), "is_list", "is_list", defArgs (topS 26), defBody (topS 26), defScope (topS 26), [], []⟩,
  ⟨("is_entry", none), "is_entry", "is_entry", defArgs (topS 27), defBody (topS 27), defScope (topS 27), [], []⟩,
  ⟨("is_row", none), "is_row", "is_row", defArgs (topS 28), defBody (topS 28), defScope (topS 28), [], []⟩,
  ⟨("want_names_of_deeds", none), "want_names_of_deeds", "want_names_of_deeds", defArgs (topS 29), defBody (topS 29), defScope (topS 29), [], []⟩,
  ⟨("want_few_deeds", none), "want_few_deeds", "want_few_deeds", defArgs (topS 30), defBody (topS 30), defScope (topS 30), [], []⟩,
  ⟨("want_parts", none), "want_parts", "want_parts", defArgs (topS 31), defBody (topS 31), defScope (topS 31), [], []⟩,
  ⟨("is_state", none), "is_state", "is_state", defArgs (topS 35), defBody (topS 35), defScope (topS 35), [], []⟩,
  ⟨("is_deed", none), "is_deed", "is_deed", defArgs (topS 36), defBody (topS 36), defScope (topS 36), [], []⟩,
  ⟨("want_state", none), "want_state", "want_state", defArgs (topS 37), defBody (topS 37), defScope (topS 37), [], []⟩,
  ⟨("place_of", none), "place_of", "place_of", defArgs (topS 39), defBody (topS 39), defScope (topS 39), [], []⟩,
  ⟨("step_at", none), "step_at", "step_at", defArgs (topS 40), defBody (topS 40), defScope (topS 40), [], []⟩,
  ⟨("run_of", none), "run_of", "run_of", defArgs (topS 41), defBody (topS 41), defScope (topS 41), [], []⟩,
  ⟨("want_team_of", none), "want_team_of", "want_team_of", defArgs (topS 45), defBody (topS 45), defScope (topS 45), [], []⟩,
  ⟨("places_of", none), "places_of", "places_of", defArgs (topS 49), defBody (topS 49), defScope (topS 49), [], []⟩,
  ⟨("team_of", none), "team_of", "team_of", defArgs (topS 50), defBody (topS 50), defScope (topS 50), [], []⟩]
def fn1 : List He.DefD := [⟨("answers_and_end", none), "answers_and_end", "answers_and_end", defArgs (topS 54), defBody (topS 54), defScope (topS 54), [], []⟩,
  ⟨("mark_in", none), "mark_in", "mark_in", defArgs (topS 55), defBody (topS 55), defScope (topS 55), [], []⟩,
  ⟨("kinds_of", none), "kinds_of", "kinds_of", defArgs (topS 57), defBody (topS 57), defScope (topS 57), [], []⟩,
  ⟨("steps_from", none), "steps_from", "steps_from", defArgs (topS 58), defBody (topS 58), defScope (topS 58), [], []⟩,
  ⟨("first_spots", none), "first_spots", "first_spots", defArgs (topS 59), defBody (topS 59), defScope (topS 59), [], []⟩,
  ⟨("next_spots", none), "next_spots", "next_spots", defArgs (topS 60), defBody (topS 60), defScope (topS 60), [], []⟩,
  ⟨("begun_by", none), "begun_by", "begun_by", defArgs (topS 61), defBody (topS 61), defScope (topS 61), [], []⟩,
  ⟨("order_of", none), "order_of", "order_of", defArgs (topS 62), defBody (topS 62), defScope (topS 62), [], []⟩,
  ⟨("shared_marks", none), "shared_marks", "shared_marks", defArgs (topS 63), defBody (topS 63), defScope (topS 63), [], []⟩,
  ⟨("blot", none), "blot", "blot", defArgs (topS 64), defBody (topS 64), defScope (topS 64), [], []⟩,
  ⟨("is_order", none), "is_order", "is_order", defArgs (topS 65), defBody (topS 65), defScope (topS 65), [], []⟩,
  ⟨("is_blot", none), "is_blot", "is_blot", defArgs (topS 66), defBody (topS 66), defScope (topS 66), [], []⟩,
  ⟨("_law_pot", none), "_law_pot", "_law_pot", defArgs (topS 68), defBody (topS 68), defScope (topS 68), [], []⟩,
  ⟨("_law_draw", none), "_law_draw", "_law_draw", defArgs (topS 69), defBody (topS 69), defScope (topS 69), [], []⟩,
  ⟨("_law_pick", none), "_law_pick", "_law_pick", defArgs (topS 70), defBody (topS 70), defScope (topS 70), [], []⟩,
  ⟨("_law_names", none), "_law_names", "_law_names", defArgs (topS 71), defBody (topS 71), defScope (topS 71), [], []⟩,
  ⟨("_law_any_rows", none), "_law_any_rows", "_law_any_rows", defArgs (topS 72), defBody (topS 72), defScope (topS 72), [], []⟩,
  ⟨("_law_known_rows", none), "_law_known_rows", "_law_known_rows", defArgs (topS 73), defBody (topS 73), defScope (topS 73), [], []⟩,
  ⟨("_law_model", none), "_law_model", "_law_model", defArgs (topS 74), defBody (topS 74), defScope (topS 74), [], []⟩,
  ⟨("_law_made", none), "_law_made", "_law_made", defArgs (topS 75), defBody (topS 75), defScope (topS 75), [], []⟩]
def fn2 : List He.DefD := [⟨("_law_run", none), "_law_run", "_law_run", defArgs (topS 76), defBody (topS 76), defScope (topS 76), [], []⟩,
  ⟨("_law_lot", none), "_law_lot", "_law_lot", defArgs (topS 77), defBody (topS 77), defScope (topS 77), [], []⟩,
  ⟨("_law_named", none), "_law_named", "_law_named", defArgs (topS 78), defBody (topS 78), defScope (topS 78), [], []⟩,
  ⟨("_law_plan", none), "_law_plan", "_law_plan", defArgs (topS 79), defBody (topS 79), defScope (topS 79), [], []⟩,
  ⟨("_law_rows", none), "_law_rows", "_law_rows", defArgs (topS 80), defBody (topS 80), defScope (topS 80), [], []⟩,
  ⟨("_law_is_row", none), "_law_is_row", "_law_is_row", defArgs (topS 81), defBody (topS 81), defScope (topS 81), [], []⟩,
  ⟨("_law_sign", none), "_law_sign", "_law_sign", defArgs (topS 82), defBody (topS 82), defScope (topS 82), [], []⟩,
  ⟨("_law_is_blot", none), "_law_is_blot", "_law_is_blot", defArgs (topS 83), defBody (topS 83), defScope (topS 83), [], []⟩,
  ⟨("_law_values", none), "_law_values", "_law_values", defArgs (topS 84), defBody (topS 84), defScope (topS 84), [], []⟩,
  ⟨("_law_bent", none), "_law_bent", "_law_bent", defArgs (topS 85), defBody (topS 85), defScope (topS 85), [], []⟩,
  ⟨("_law_judged", none), "_law_judged", "_law_judged", defArgs (topS 86), defBody (topS 86), defScope (topS 86), [], []⟩,
  ⟨("_law_right", none), "_law_right", "_law_right", defArgs (topS 87), defBody (topS 87), defScope (topS 87), [], []⟩,
  ⟨("law", none), "law", "law", defArgs (topS 88), defBody (topS 88), defScope (topS 88), [], []⟩,
  ⟨("Parts", some "__init__"), "__init__", "Parts.__init__", defArgs (inClass (topS 32) 0), defBody (inClass (topS 32) 0), defScope (inClass (topS 32) 0), [], []⟩,
  ⟨("Thing", some "__init__"), "__init__", "Thing.__init__", defArgs (inClass (topS 33) 0), defBody (inClass (topS 33) 0), defScope (inClass (topS 33) 0), [], []⟩,
  ⟨("Teams", some "__init__"), "__init__", "Teams.__init__", defArgs (inClass (topS 46) 0), defBody (inClass (topS 46) 0), defScope (inClass (topS 46) 0), [], []⟩,
  ⟨("Layout", some "__init__"), "__init__", "Layout.__init__", defArgs (inClass (topS 47) 0), defBody (inClass (topS 47) 0), defScope (inClass (topS 47) 0), [], []⟩,
  ⟨("Thing", some "rows"), "rows", "Thing.rows", defArgs (inClass (topS 33) 3), defBody (inClass (topS 33) 3), defScope (inClass (topS 33) 3), [], []⟩,
  ⟨("Thing", some "__repr__"), "__repr__", "Thing.__repr__", defArgs (inClass (topS 33) 15), defBody (inClass (topS 33) 15), defScope (inClass (topS 33) 15), [], []⟩,
  ⟨("Layout", some "__repr__"), "__repr__", "Layout.__repr__", defArgs (inClass (topS 47) 23), defBody (inClass (topS 47) 23), defScope (inClass (topS 47) 23), [], []⟩]
def fn3 : List He.DefD := [⟨("Layout", some "__len__"), "__len__", "Layout.__len__", defArgs (inClass (topS 47) 21), defBody (inClass (topS 47) 21), defScope (inClass (topS 47) 21), [], []⟩]
def fn : List He.DefD := fn0 ++ (fn1 ++ (fn2 ++ (fn3)))
def fa0 : List He.Fa := [.glo "is_integer", .glo "is_count", .glo "is_below", .glo "is_answer", .glo "is_name", .glo "is_list", .glo "is_entry", .glo "is_row", .glo "want_names_of_deeds", .glo "want_few_deeds", .glo "want_parts", .glo "is_state", .glo "is_deed", .glo "want_state", .glo "place_of", .glo "step_at", .glo "run_of", .glo "want_team_of", .glo "places_of", .glo "team_of", .glo "answers_and_end", .glo "mark_in", .glo "kinds_of", .glo "steps_from", .glo "first_spots", .glo "next_spots", .glo "begun_by", .glo "order_of", .glo "shared_marks", .glo "blot"]
def fa1 : List He.Fa := [.glo "is_order", .glo "is_blot", .glo "_law_pot", .glo "_law_draw", .glo "_law_pick", .glo "_law_names", .glo "_law_any_rows", .glo "_law_known_rows", .glo "_law_model", .glo "_law_made", .glo "_law_run", .glo "_law_lot", .glo "_law_named", .glo "_law_plan", .glo "_law_rows", .glo "_law_is_row", .glo "_law_sign", .glo "_law_is_blot", .glo "_law_values", .glo "_law_bent", .glo "_law_judged", .glo "_law_right", .glo "law", .glo "Parts", .cls "Parts", .mkr "Parts", .glo "Thing", .cls "Thing", .mkr "Thing", .glo "Teams"]
def fa2 : List He.Fa := [.cls "Teams", .mkr "Teams", .glo "Layout", .cls "Layout", .mkr "Layout", .meth "Thing" "rows", .meth "Thing" "__repr__", .meth "Layout" "__repr__", .meth "Layout" "__len__", .noat "Parts" "own_deeds", .noat "Parts" "own_rows", .noat "Thing" "own_deeds", .noat "Thing" "own_rows", .noat "Teams" "own_first", .noat "Teams" "own_second", .noat "Layout" "own_thing", .noat "Layout" "own_state", .noat "Layout" "own_first", .noat "Layout" "own_second", .noat "Layout" "own_places", .free "isinstance", .free "len", .free "all", .free "enumerate", .free "tuple", .free "list", .free "sorted", .free "repr", .free "set", .free "int"]
def fa3 : List He.Fa := [.free "max", .free "min", .free "abs", .free "divmod", .free "range", .free "bool", .free "str", .int "LONGEST_NAME" 8, .int "GREATEST_ANSWER" 9, .int "MOST_DEEDS" 4, .int "MOST_STATES" 8, .int "MOST_HANDS" 5, .str "LETTERS" "abcdefghijklmnopqrstuvwxyz"]
def fa : List He.Fa := fa0 ++ (fa1 ++ (fa2 ++ (fa3)))
def eqOB (a b : Option Bool) : Bool := decide (a = b)
/-- the properties -/
def prB (K : PySem.W.Frag) (C f q : Str) : Bool := match PySem.W.findIn K (.ref (He.ga K C)) f with
  | some (some (.ref p)) => He.eqO (PySem.W.specialIn K (.ref p) "__get__") (some (some (.builtin "property.__get__"))) && (eqOB (PySem.W.takesIn K (.ref p)) (some true) && ((match PySem.W.recIn K p "property" with
    | some (.ref _ :: _) => true
    | _ => false) && (PySem.W.keepIn K (.ref (pgA K C f)) && (match K.lookup (pgA K C f) with
    | some ⟨_, _, .func fd, _⟩ => PySem.W.codeIn K fd.code q && (match fd.defaults with
      | .none => true
      | _ => false)
    | _ => false))))
  | _ => false
def ex (K : PySem.W.Frag) : Bool := prB K "Thing" "deeds" "Thing.deeds" && (prB K "Layout" "first" "Layout.first" && (prB K "Layout" "second" "Layout.second" && (eqOB (PySem.W.kitOne K (.type "list") (.ref (He.ga K "Parts"))) (some false) && (eqOB (PySem.W.kitOne K (.ref (He.ga K "Parts")) (.ref (He.ga K "Parts"))) (some true) && (eqOB (PySem.W.kitOne K (.type "list") (.ref (He.ga K "Teams"))) (some false) && (eqOB (PySem.W.kitOne K (.ref (He.ga K "Layout")) (.type "tuple")) (some false) && (eqOB (PySem.W.kitOne K (.ref (He.ga K "Layout")) (.type "list")) (some false) && (eqOB (PySem.W.kitOne K (.ref (He.ga K "Layout")) (.type "int")) (some false) && (eqOB (PySem.W.kitOne K (.ref (He.ga K "Layout")) (.type "bool")) (some false) && (He.eqO (PySem.W.findIn K (.ref (He.ga K "Layout")) "__class__") (some (some (.builtin "object.__class__"))) && (He.eqO (PySem.W.specialIn K (.builtin "object.__class__") "__get__") (some (some (.builtin "getset_descriptor.__get__"))) && (eqOB (PySem.W.takesIn K (.builtin "object.__class__")) (some true) && (eqOB (PySem.W.mroIn K (He.ga K "Layout") (.type "object")) (some true))))))))))))))
def fnP (K : PySem.W.Frag) (g : Addr) : He.FnW := match K.lookup g with
  | some ⟨_, _, .func fd, _⟩ => some (fd.name, fd.qualname, fd.params, fd.body, fd.scope, fd.globals, fd.closure, fd.builtins)
  | _ => none
def prW (name qual : Str) (st : Stmt) : He.FnW := some (name, qual, defArgs st, .stmts (defBody st), defScope st, mainGlobals, [], builtinsNs)
abbrev AlM : Type := He.AlD × Bool × List He.FnW
def obsK (K : PySem.W.Frag) : AlM := (He.obsD fa fn K, ex K, [fnP K (pgA K "Thing" "deeds"), fnP K (pgA K "Layout" "first"), fnP K (pgA K "Layout" "second")])
def valM : AlM := (He.valD fn, true, [prW "deeds" "Thing.deeds" (inClass (topS 33) 1), prW "first" "Layout.first" (inClass (topS 47) 4), prW "second" "Layout.second" (inClass (topS 47) 5)])
def SaysM (K : PySem.W.Frag) : Prop := obsK K = valM
/-- what an object leads to: a def to its code, a class to its names, a dict to its values, a property to its parts -/
def refsM (o : Obj) : List Addr := match o.data with
  | .func fd => He.refV fd.code
  | .cls cd => [cd.ns]
  | .dict es _ => es.toList.flatMap fun e => He.refV e.val
  | .fields vs => (match o.cls with
    | .type "property" => vs.toList.flatMap He.refV
    | _ => [])
  | _ => []
def waveM (g : Addr → Option Obj) (as : List Addr) : List Addr := as.flatMap fun a => match g a with
  | some o => refsM o
  | none => []
/-- some addresses, and what they lead to in so many turns -/
def addrM (g : Addr → Option Obj) : Nat → List Addr → List Addr
  | 0, as => as
  | n + 1, as => as ++ addrM g n (waveM g as)
def obsMG (n : Nat) (g : Addr → Option Obj) : AlM := obsK (He.frG g (addrM g n [mainGlobals]))
def hookM (n : Nat) : PySem.W.Hook where
  α := AlM
  obs := fun s => obsMG n s.heap.get?
  val := fun _ => valM
  says := fun _ h => ∃ K : PySem.W.Frag, K.In h ∧ SaysM K
  of := fun _ _ e => ⟨_, He.frG_in, e⟩
  keeps := fun _ _ _ ⟨K, hK, c⟩ k => ⟨K, PySem.W.Frag.In.keeps hK k, c⟩
theorem obsMG_eq {n : Nat} {g : Addr → Option Obj} {s : Shared} (h : ∀ a, g a = s.heap.get? a) : obsMG n g = (hookM n).obs s := by
  have e : g = s.heap.get? := funext h
  rw [e] <;> rfl
abbrev R : PySem.W.OpenRow := PySem.W.OpenLaw.row PySem.Challenge.rw_settlesfirst_k33_whole_any_values_as_blo
abbrev hk : PySem.W.Hook := hookM 5
def ob (s : PySem.W.SharedT) : AlM := obsMG 5 (HandSHeadRun.getT s)
theorem ob_eq (s : PySem.W.SharedT) : ob s = hk.obs s.abs := obsMG_eq (HandSHeadRun.getT_eq s)
def lo0 : List Str := ["_wall", "SettleError", "InvalidDeeds", "InvalidRows", "InvalidState", "InvalidDeed", "InvalidTeam", "InvalidHand", "InvalidOrder", "StateError", "SharedDeed", "NotInIt", "LimitError", "TooMany", "LETTERS"]
def lo1 : List Str := ["LONGEST_NAME", "GREATEST_ANSWER", "MOST_DEEDS", "MOST_STATES", "is_integer", "is_count", "is_below", "is_answer", "is_name", "is_list", "is_entry", "is_row", "want_names_of_deeds", "want_few_deeds", "want_parts"]
def lo2 : List Str := ["Parts", "Thing", "made_thing", "is_state", "is_deed", "want_state", "want_deed", "place_of", "step_at", "run_of", "beside", "MOST_HANDS", "want_team_of", "Teams", "Layout"]
def lo3 : List Str := ["made_of_places", "places_of", "team_of", "want_hand", "want_team", "want_order", "answers_and_end", "mark_in", "kinds_of", "steps_from", "first_spots", "next_spots", "begun_by", "order_of", "shared_marks"]
def lo4 : List Str := ["blot", "is_order", "is_blot", "_law_pot", "_law_draw", "_law_pick", "_law_names", "_law_any_rows", "_law_known_rows", "_law_model", "_law_made", "_law_run", "_law_lot", "_law_named", "_law_plan"]
def lo5 : List Str := ["_law_rows", "_law_is_row", "_law_sign", "_law_is_blot", "_law_values", "_law_bent", "_law_judged", "_law_right"]
def lo : List Str := lo0 ++ (lo1 ++ (lo2 ++ (lo3 ++ (lo4 ++ (lo5)))))
theorem run (w : World) : HandSHeadRun.RunEq R (PySem.W.view R.prog [88]) hk ob 12000 lo w := by
  intro os
  kernel_rfl
end SFH
set_option Elab.async false
set_option linter.all false
set_option maxRecDepth 100000
set_option maxHeartbeats 0
namespace SFH
open PySem PySem.Spec PyProof.Rows L2 SF
section
variable {K : PySem.W.Frag} {mg : Str → Option Value} {h : Heap}
theorem fun_of {x qual : Str} {st : Stmt} {f : Addr} {fd : FuncData} (F : FunD K x qual (defArgs st) (defBody st) (defScope st) [] [] f fd) : Fun K x qual st f fd := by
  obtain ⟨oc, od, dV, kV, doc, pm, an, cdv, ct, osl, rfl, lk, hcd, hD, _⟩ := F.ex
  rcases hD with ⟨_, rfl⟩ | ⟨e, _⟩
  · exact ⟨⟨oc, od, kV, doc, pm, an, cdv, ct, osl, rfl, lk, hcd⟩, F.kp⟩
  · exact absurd rfl e
theorem eqOB_ok {x y : Option Bool} (e : eqOB x y = true) : x = y := of_decide_eq_true e
theorem pr_of {C f q : Str} {st : Stmt} (e : fnP K (pgA K C f) = prW f q st) (c : prB K C f q = true) : Pr K C f q st := by
  unfold prB at c
  cases q1 : PySem.W.findIn K (.ref (He.ga K C)) f with
  | none => rw [q1] at c; cases c
  | some r1 =>
    cases r1 with
    | none => rw [q1] at c; cases c
    | some v1 =>
      cases v1 with
      | ref p =>
        rw [q1] at c
        obtain ⟨c1, c⟩ := He.ba c
        obtain ⟨c2, c⟩ := He.ba c
        obtain ⟨c3, c⟩ := He.ba c
        obtain ⟨c4, c5⟩ := He.ba c
        have hrec : ∃ rest, PySem.W.recIn K p "property" = some (.ref (pgA K C f) :: rest) := by
          cases q2 : PySem.W.recIn K p "property" with
          | none => rw [q2] at c3; cases c3
          | some l =>
            rw [q2] at c3
            cases l with
            | nil => cases c3
            | cons v r =>
              cases v with
              | ref g =>
                have hp : pgA K C f = g := by
                  unfold pgA
                  rw [q1]
                  show (match PySem.W.recIn K p "property" with
                    | some (.ref g :: _) => g
                    | _ => 0) = g
                  rw [q2]
                exact ⟨r, by rw [hp]⟩
              | _ => cases c3
        refine ⟨⟨p, q1, He.eqO_ok c1, eqOB_ok c2, hrec⟩, ?_⟩
        unfold fnP at e
        cases q3 : K.lookup (pgA K C f) with
        | none => rw [q3] at c5; cases c5
        | some ob =>
          obtain ⟨oc, od, dt, osl⟩ := ob
          rw [q3] at c5 e
          cases dt with
          | func fd =>
            obtain ⟨n1, n2, n3, n4, n5, n6, n7, n8, n9, n10, n11, n12, n13, n14, n15⟩ := fd
            have e2 : (some (n1, n2, n3, n4, n5, n6, n7, n15) : He.FnW) = some (f, q, defArgs st, .stmts (defBody st), defScope st, mainGlobals, [], builtinsNs) := e
            simp only [Option.some.injEq, Prod.mk.injEq] at e2
            obtain ⟨h1, h2, h3, h4, h5, h6, h7, h8⟩ := e2
            subst h1 h2 h3 h4 h5 h6 h7 h8
            obtain ⟨k1, k2⟩ := He.ba c5
            cases n8 with
            | none => exact ⟨_, ⟨oc, od, n9, n10, n11, n12, n13, n14, osl, rfl, q3, k1⟩, c4⟩
            | _ => cases k2
          | _ => cases c5
      | _ => rw [q1] at c; cases c
theorem txt_of (X : K.In h) (G : h.Ns mainGlobals mg) (c : SaysM K) : Txt K mg := by
  have cD : He.SaysD fa fn K := congrArg (fun z : AlM => z.1) c
  have cE : ex K = true := congrArg (fun z : AlM => z.2.1) c
  have cP : [fnP K (pgA K "Thing" "deeds"), fnP K (pgA K "Layout" "first"), fnP K (pgA K "Layout" "second")] = [prW "deeds" "Thing.deeds" (inClass (topS 33) 1), prW "first" "Layout.first" (inClass (topS 47) 4), prW "second" "Layout.second" (inClass (topS 47) 5)] := congrArg (fun z : AlM => z.2.2) c
  unfold ex at cE
  obtain ⟨x0, cE⟩ := He.ba cE
  obtain ⟨x1, cE⟩ := He.ba cE
  obtain ⟨x2, cE⟩ := He.ba cE
  obtain ⟨x3, cE⟩ := He.ba cE
  obtain ⟨x4, cE⟩ := He.ba cE
  obtain ⟨x5, cE⟩ := He.ba cE
  obtain ⟨x6, cE⟩ := He.ba cE
  obtain ⟨x7, cE⟩ := He.ba cE
  obtain ⟨x8, cE⟩ := He.ba cE
  obtain ⟨x9, cE⟩ := He.ba cE
  obtain ⟨x10, cE⟩ := He.ba cE
  obtain ⟨x11, cE⟩ := He.ba cE
  obtain ⟨x12, cE⟩ := He.ba cE
  simp only [List.cons.injEq] at cP
  obtain ⟨p0, p1, p2, _⟩ := cP
  exact {
    f_is_integer := ⟨let ⟨fd, F⟩ := cD.def_ 0 rfl; ⟨fd, fun_of F⟩, He.glo_ok X G (cD.fact 0 (f := .glo "is_integer") rfl)⟩,
    f_is_count := ⟨let ⟨fd, F⟩ := cD.def_ 1 rfl; ⟨fd, fun_of F⟩, He.glo_ok X G (cD.fact 1 (f := .glo "is_count") rfl)⟩,
    f_is_below := ⟨let ⟨fd, F⟩ := cD.def_ 2 rfl; ⟨fd, fun_of F⟩, He.glo_ok X G (cD.fact 2 (f := .glo "is_below") rfl)⟩,
    f_is_answer := ⟨let ⟨fd, F⟩ := cD.def_ 3 rfl; ⟨fd, fun_of F⟩, He.glo_ok X G (cD.fact 3 (f := .glo "is_answer") rfl)⟩,
    f_is_name := ⟨let ⟨fd, F⟩ := cD.def_ 4 rfl; ⟨fd, fun_of F⟩, He.glo_ok X G (cD.fact 4 (f := .glo "is_name") rfl)⟩,
    f_is_list := ⟨let ⟨fd, F⟩ := cD.def_ 5 rfl; ⟨fd, fun_of F⟩, He.glo_ok X G (cD.fact 5 (f := .glo "is_list") rfl)⟩,
    f_is_entry := ⟨let ⟨fd, F⟩ := cD.def_ 6 rfl; ⟨fd, fun_of F⟩, He.glo_ok X G (cD.fact 6 (f := .glo "is_entry") rfl)⟩,
    f_is_row := ⟨let ⟨fd, F⟩ := cD.def_ 7 rfl; ⟨fd, fun_of F⟩, He.glo_ok X G (cD.fact 7 (f := .glo "is_row") rfl)⟩,
    f_want_names_of_deeds := ⟨let ⟨fd, F⟩ := cD.def_ 8 rfl; ⟨fd, fun_of F⟩, He.glo_ok X G (cD.fact 8 (f := .glo "want_names_of_deeds") rfl)⟩,
    f_want_few_deeds := ⟨let ⟨fd, F⟩ := cD.def_ 9 rfl; ⟨fd, fun_of F⟩, He.glo_ok X G (cD.fact 9 (f := .glo "want_few_deeds") rfl)⟩,
    f_want_parts := ⟨let ⟨fd, F⟩ := cD.def_ 10 rfl; ⟨fd, fun_of F⟩, He.glo_ok X G (cD.fact 10 (f := .glo "want_parts") rfl)⟩,
    f_is_state := ⟨let ⟨fd, F⟩ := cD.def_ 11 rfl; ⟨fd, fun_of F⟩, He.glo_ok X G (cD.fact 11 (f := .glo "is_state") rfl)⟩,
    f_is_deed := ⟨let ⟨fd, F⟩ := cD.def_ 12 rfl; ⟨fd, fun_of F⟩, He.glo_ok X G (cD.fact 12 (f := .glo "is_deed") rfl)⟩,
    f_want_state := ⟨let ⟨fd, F⟩ := cD.def_ 13 rfl; ⟨fd, fun_of F⟩, He.glo_ok X G (cD.fact 13 (f := .glo "want_state") rfl)⟩,
    f_place_of := ⟨let ⟨fd, F⟩ := cD.def_ 14 rfl; ⟨fd, fun_of F⟩, He.glo_ok X G (cD.fact 14 (f := .glo "place_of") rfl)⟩,
    f_step_at := ⟨let ⟨fd, F⟩ := cD.def_ 15 rfl; ⟨fd, fun_of F⟩, He.glo_ok X G (cD.fact 15 (f := .glo "step_at") rfl)⟩,
    f_run_of := ⟨let ⟨fd, F⟩ := cD.def_ 16 rfl; ⟨fd, fun_of F⟩, He.glo_ok X G (cD.fact 16 (f := .glo "run_of") rfl)⟩,
    f_want_team_of := ⟨let ⟨fd, F⟩ := cD.def_ 17 rfl; ⟨fd, fun_of F⟩, He.glo_ok X G (cD.fact 17 (f := .glo "want_team_of") rfl)⟩,
    f_places_of := ⟨let ⟨fd, F⟩ := cD.def_ 18 rfl; ⟨fd, fun_of F⟩, He.glo_ok X G (cD.fact 18 (f := .glo "places_of") rfl)⟩,
    f_team_of := ⟨let ⟨fd, F⟩ := cD.def_ 19 rfl; ⟨fd, fun_of F⟩, He.glo_ok X G (cD.fact 19 (f := .glo "team_of") rfl)⟩,
    f_answers_and_end := ⟨let ⟨fd, F⟩ := cD.def_ 20 rfl; ⟨fd, fun_of F⟩, He.glo_ok X G (cD.fact 20 (f := .glo "answers_and_end") rfl)⟩,
    f_mark_in := ⟨let ⟨fd, F⟩ := cD.def_ 21 rfl; ⟨fd, fun_of F⟩, He.glo_ok X G (cD.fact 21 (f := .glo "mark_in") rfl)⟩,
    f_kinds_of := ⟨let ⟨fd, F⟩ := cD.def_ 22 rfl; ⟨fd, fun_of F⟩, He.glo_ok X G (cD.fact 22 (f := .glo "kinds_of") rfl)⟩,
    f_steps_from := ⟨let ⟨fd, F⟩ := cD.def_ 23 rfl; ⟨fd, fun_of F⟩, He.glo_ok X G (cD.fact 23 (f := .glo "steps_from") rfl)⟩,
    f_first_spots := ⟨let ⟨fd, F⟩ := cD.def_ 24 rfl; ⟨fd, fun_of F⟩, He.glo_ok X G (cD.fact 24 (f := .glo "first_spots") rfl)⟩,
    f_next_spots := ⟨let ⟨fd, F⟩ := cD.def_ 25 rfl; ⟨fd, fun_of F⟩, He.glo_ok X G (cD.fact 25 (f := .glo "next_spots") rfl)⟩,
    f_begun_by := ⟨let ⟨fd, F⟩ := cD.def_ 26 rfl; ⟨fd, fun_of F⟩, He.glo_ok X G (cD.fact 26 (f := .glo "begun_by") rfl)⟩,
    f_order_of := ⟨let ⟨fd, F⟩ := cD.def_ 27 rfl; ⟨fd, fun_of F⟩, He.glo_ok X G (cD.fact 27 (f := .glo "order_of") rfl)⟩,
    f_shared_marks := ⟨let ⟨fd, F⟩ := cD.def_ 28 rfl; ⟨fd, fun_of F⟩, He.glo_ok X G (cD.fact 28 (f := .glo "shared_marks") rfl)⟩,
    f_blot := ⟨let ⟨fd, F⟩ := cD.def_ 29 rfl; ⟨fd, fun_of F⟩, He.glo_ok X G (cD.fact 29 (f := .glo "blot") rfl)⟩,
    f_is_order := ⟨let ⟨fd, F⟩ := cD.def_ 30 rfl; ⟨fd, fun_of F⟩, He.glo_ok X G (cD.fact 30 (f := .glo "is_order") rfl)⟩,
    f_is_blot := ⟨let ⟨fd, F⟩ := cD.def_ 31 rfl; ⟨fd, fun_of F⟩, He.glo_ok X G (cD.fact 31 (f := .glo "is_blot") rfl)⟩,
    f_law_pot := ⟨let ⟨fd, F⟩ := cD.def_ 32 rfl; ⟨fd, fun_of F⟩, He.glo_ok X G (cD.fact 32 (f := .glo "_law_pot") rfl)⟩,
    f_law_draw := ⟨let ⟨fd, F⟩ := cD.def_ 33 rfl; ⟨fd, fun_of F⟩, He.glo_ok X G (cD.fact 33 (f := .glo "_law_draw") rfl)⟩,
    f_law_pick := ⟨let ⟨fd, F⟩ := cD.def_ 34 rfl; ⟨fd, fun_of F⟩, He.glo_ok X G (cD.fact 34 (f := .glo "_law_pick") rfl)⟩,
    f_law_names := ⟨let ⟨fd, F⟩ := cD.def_ 35 rfl; ⟨fd, fun_of F⟩, He.glo_ok X G (cD.fact 35 (f := .glo "_law_names") rfl)⟩,
    f_law_any_rows := ⟨let ⟨fd, F⟩ := cD.def_ 36 rfl; ⟨fd, fun_of F⟩, He.glo_ok X G (cD.fact 36 (f := .glo "_law_any_rows") rfl)⟩,
    f_law_known_rows := ⟨let ⟨fd, F⟩ := cD.def_ 37 rfl; ⟨fd, fun_of F⟩, He.glo_ok X G (cD.fact 37 (f := .glo "_law_known_rows") rfl)⟩,
    f_law_model := ⟨let ⟨fd, F⟩ := cD.def_ 38 rfl; ⟨fd, fun_of F⟩, He.glo_ok X G (cD.fact 38 (f := .glo "_law_model") rfl)⟩,
    f_law_made := ⟨let ⟨fd, F⟩ := cD.def_ 39 rfl; ⟨fd, fun_of F⟩, He.glo_ok X G (cD.fact 39 (f := .glo "_law_made") rfl)⟩,
    f_law_run := ⟨let ⟨fd, F⟩ := cD.def_ 40 rfl; ⟨fd, fun_of F⟩, He.glo_ok X G (cD.fact 40 (f := .glo "_law_run") rfl)⟩,
    f_law_lot := ⟨let ⟨fd, F⟩ := cD.def_ 41 rfl; ⟨fd, fun_of F⟩, He.glo_ok X G (cD.fact 41 (f := .glo "_law_lot") rfl)⟩,
    f_law_named := ⟨let ⟨fd, F⟩ := cD.def_ 42 rfl; ⟨fd, fun_of F⟩, He.glo_ok X G (cD.fact 42 (f := .glo "_law_named") rfl)⟩,
    f_law_plan := ⟨let ⟨fd, F⟩ := cD.def_ 43 rfl; ⟨fd, fun_of F⟩, He.glo_ok X G (cD.fact 43 (f := .glo "_law_plan") rfl)⟩,
    f_law_rows := ⟨let ⟨fd, F⟩ := cD.def_ 44 rfl; ⟨fd, fun_of F⟩, He.glo_ok X G (cD.fact 44 (f := .glo "_law_rows") rfl)⟩,
    f_law_is_row := ⟨let ⟨fd, F⟩ := cD.def_ 45 rfl; ⟨fd, fun_of F⟩, He.glo_ok X G (cD.fact 45 (f := .glo "_law_is_row") rfl)⟩,
    f_law_sign := ⟨let ⟨fd, F⟩ := cD.def_ 46 rfl; ⟨fd, fun_of F⟩, He.glo_ok X G (cD.fact 46 (f := .glo "_law_sign") rfl)⟩,
    f_law_is_blot := ⟨let ⟨fd, F⟩ := cD.def_ 47 rfl; ⟨fd, fun_of F⟩, He.glo_ok X G (cD.fact 47 (f := .glo "_law_is_blot") rfl)⟩,
    f_law_values := ⟨let ⟨fd, F⟩ := cD.def_ 48 rfl; ⟨fd, fun_of F⟩, He.glo_ok X G (cD.fact 48 (f := .glo "_law_values") rfl)⟩,
    f_law_bent := ⟨let ⟨fd, F⟩ := cD.def_ 49 rfl; ⟨fd, fun_of F⟩, He.glo_ok X G (cD.fact 49 (f := .glo "_law_bent") rfl)⟩,
    f_law_judged := ⟨let ⟨fd, F⟩ := cD.def_ 50 rfl; ⟨fd, fun_of F⟩, He.glo_ok X G (cD.fact 50 (f := .glo "_law_judged") rfl)⟩,
    f_law_right := ⟨let ⟨fd, F⟩ := cD.def_ 51 rfl; ⟨fd, fun_of F⟩, He.glo_ok X G (cD.fact 51 (f := .glo "_law_right") rfl)⟩,
    f_law := ⟨let ⟨fd, F⟩ := cD.def_ 52 rfl; ⟨fd, fun_of F⟩, He.glo_ok X G (cD.fact 52 (f := .glo "law") rfl)⟩,
    g_Parts := He.glo_ok X G (cD.fact 53 (f := .glo "Parts") rfl),
    c_Parts := He.cls_ok (cD.fact 54 (f := .cls "Parts") rfl),
    m_Parts := He.mkr_ok (cD.fact 55 (f := .mkr "Parts") rfl),
    g_Thing := He.glo_ok X G (cD.fact 56 (f := .glo "Thing") rfl),
    c_Thing := He.cls_ok (cD.fact 57 (f := .cls "Thing") rfl),
    m_Thing := He.mkr_ok (cD.fact 58 (f := .mkr "Thing") rfl),
    g_Teams := He.glo_ok X G (cD.fact 59 (f := .glo "Teams") rfl),
    c_Teams := He.cls_ok (cD.fact 60 (f := .cls "Teams") rfl),
    m_Teams := He.mkr_ok (cD.fact 61 (f := .mkr "Teams") rfl),
    g_Layout := He.glo_ok X G (cD.fact 62 (f := .glo "Layout") rfl),
    c_Layout := He.cls_ok (cD.fact 63 (f := .cls "Layout") rfl),
    m_Layout := He.mkr_ok (cD.fact 64 (f := .mkr "Layout") rfl),
    i_Parts_init := let ⟨fd, F⟩ := cD.def_ 53 rfl; ⟨fd, fun_of F⟩,
    i_Thing_init := let ⟨fd, F⟩ := cD.def_ 54 rfl; ⟨fd, fun_of F⟩,
    i_Teams_init := let ⟨fd, F⟩ := cD.def_ 55 rfl; ⟨fd, fun_of F⟩,
    i_Layout_init := let ⟨fd, F⟩ := cD.def_ 56 rfl; ⟨fd, fun_of F⟩,
    i_Thing_rows := let ⟨fd, F⟩ := cD.def_ 57 rfl; ⟨fd, fun_of F⟩,
    i_Thing_repr := let ⟨fd, F⟩ := cD.def_ 58 rfl; ⟨fd, fun_of F⟩,
    i_Layout_repr := let ⟨fd, F⟩ := cD.def_ 59 rfl; ⟨fd, fun_of F⟩,
    i_Layout_len := let ⟨fd, F⟩ := cD.def_ 60 rfl; ⟨fd, fun_of F⟩,
    t_Thing_rows := He.meth_ok (cD.fact 65 (f := .meth "Thing" "rows") rfl),
    t_Thing_repr := He.meth_ok (cD.fact 66 (f := .meth "Thing" "__repr__") rfl),
    t_Layout_repr := He.meth_ok (cD.fact 67 (f := .meth "Layout" "__repr__") rfl),
    t_Layout_len := He.meth_ok (cD.fact 68 (f := .meth "Layout" "__len__") rfl),
    p_Thing_deeds := pr_of p0 x0,
    p_Layout_first := pr_of p1 x1,
    p_Layout_second := pr_of p2 x2,
    n_Parts_own_deeds := He.noat_ok (cD.fact 69 (f := .noat "Parts" "own_deeds") rfl),
    n_Parts_own_rows := He.noat_ok (cD.fact 70 (f := .noat "Parts" "own_rows") rfl),
    n_Thing_own_deeds := He.noat_ok (cD.fact 71 (f := .noat "Thing" "own_deeds") rfl),
    n_Thing_own_rows := He.noat_ok (cD.fact 72 (f := .noat "Thing" "own_rows") rfl),
    n_Teams_own_first := He.noat_ok (cD.fact 73 (f := .noat "Teams" "own_first") rfl),
    n_Teams_own_second := He.noat_ok (cD.fact 74 (f := .noat "Teams" "own_second") rfl),
    n_Layout_own_thing := He.noat_ok (cD.fact 75 (f := .noat "Layout" "own_thing") rfl),
    n_Layout_own_state := He.noat_ok (cD.fact 76 (f := .noat "Layout" "own_state") rfl),
    n_Layout_own_first := He.noat_ok (cD.fact 77 (f := .noat "Layout" "own_first") rfl),
    n_Layout_own_second := He.noat_ok (cD.fact 78 (f := .noat "Layout" "own_second") rfl),
    n_Layout_own_places := He.noat_ok (cD.fact 79 (f := .noat "Layout" "own_places") rfl),
    z_isinstance := He.free_ok X G (cD.fact 80 (f := .free "isinstance") rfl),
    z_len := He.free_ok X G (cD.fact 81 (f := .free "len") rfl),
    z_all := He.free_ok X G (cD.fact 82 (f := .free "all") rfl),
    z_enumerate := He.free_ok X G (cD.fact 83 (f := .free "enumerate") rfl),
    z_tuple := He.free_ok X G (cD.fact 84 (f := .free "tuple") rfl),
    z_list := He.free_ok X G (cD.fact 85 (f := .free "list") rfl),
    z_sorted := He.free_ok X G (cD.fact 86 (f := .free "sorted") rfl),
    z_repr := He.free_ok X G (cD.fact 87 (f := .free "repr") rfl),
    z_set := He.free_ok X G (cD.fact 88 (f := .free "set") rfl),
    z_int := He.free_ok X G (cD.fact 89 (f := .free "int") rfl),
    z_max := He.free_ok X G (cD.fact 90 (f := .free "max") rfl),
    z_min := He.free_ok X G (cD.fact 91 (f := .free "min") rfl),
    z_abs := He.free_ok X G (cD.fact 92 (f := .free "abs") rfl),
    z_divmod := He.free_ok X G (cD.fact 93 (f := .free "divmod") rfl),
    z_range := He.free_ok X G (cD.fact 94 (f := .free "range") rfl),
    z_bool := He.free_ok X G (cD.fact 95 (f := .free "bool") rfl),
    z_str := He.free_ok X G (cD.fact 96 (f := .free "str") rfl),
    v_LONGEST_NAME := He.int_ok X G (cD.fact 97 (f := .int "LONGEST_NAME" 8) rfl),
    v_GREATEST_ANSWER := He.int_ok X G (cD.fact 98 (f := .int "GREATEST_ANSWER" 9) rfl),
    v_MOST_DEEDS := He.int_ok X G (cD.fact 99 (f := .int "MOST_DEEDS" 4) rfl),
    v_MOST_STATES := He.int_ok X G (cD.fact 100 (f := .int "MOST_STATES" 8) rfl),
    v_MOST_HANDS := He.int_ok X G (cD.fact 101 (f := .int "MOST_HANDS" 5) rfl),
    v_LETTERS := He.str_ok X G (cD.fact 102 (f := .str "LETTERS" "abcdefghijklmnopqrstuvwxyz") rfl),
    k_list_Parts := eqOB_ok x3,
    k_Parts_Parts := eqOB_ok x4,
    k_list_Teams := eqOB_ok x5,
    k_Layout_tuple := eqOB_ok x6,
    k_Layout_list := eqOB_ok x7,
    k_Layout_int := eqOB_ok x8,
    k_Layout_bool := eqOB_ok x9,
    o_class := He.eqO_ok x10,
    o_get := He.eqO_ok x11,
    o_tak := eqOB_ok x12,
    o_mro := eqOB_ok cE }
end
end SFH
set_option Elab.async false
set_option linter.all false
set_option maxRecDepth 100000
set_option maxHeartbeats 0
namespace SF
open PySem PySem.Spec PyProof.Rows L2 Evl
section
variable {P : Program} {w : World} {K : PySem.W.Frag} {mg mb : Str → Option Value} {k : Nat} {fa a : Addr} {x : Str} {sp : Sp} {t : Shared} {us : List Value} {ns : List Int}
/-- the call of the law, from a promise that holds where nothing is being shown: H is what is tracked at its entry, the script or nothing -/
theorem entry_at (kx : K.In t.heap) (gl : t.heap.Ns mainGlobals mg) (bl : t.heap.Ns builtinsNs mb) (bb : ∀ y : Str, y ≠ "__name__" → mb y = bootBuiltins y) (nl : t.heap.NoLimit) (gn : t.gens = #[])
    (ls : t.heap.get? a = some { cls := .type "list", data := .seq us.toArray }) (rm : Room k callerA) (F : ∀ base : Heap, K.In base → base.Ns mainGlobals mg → ∃ fd, FnOkG P w K mg base k fa fd [x] sp ∧ Binds K fd [x] [])
    (H : Hp) (only : Only H) (hok : HOk P w H t.heap) (just : ∀ b, H b ≠ none → b = a) (out : H a ≠ none → K.lookup a = none) (pr : sp [.ref a] H (fun v _ => v = .bl true) E0) :
    codeAny (model P w) callerA (.call (.ref fa) ⟨[.ref a], []⟩) (fun r s2 => r = .ok (.ret (.bool true)) ∧ OldK t.heap s2.heap ∧ s2.os = t.os ∧ AllBare s2.gens) t := by
  have some_is : ∀ {b : Addr}, H b ≠ none → b = a := fun {b} z => just b z
  have no_dict : ∀ {b : Addr} {o : Obj} {es : Array DictEntry} {ep : Nat}, t.heap.get? b = some o → o.data = .dict es ep → H b = none := fun {b o es ep} g d => Classical.byContradiction fun z => by
    have e := some_is z
    rw [e, ls] at g
    cases g
    exact nomatch (show Data.seq us.toArray _ = Data.dict es ep from d)
  have keepNs : ∀ {b : Addr} {m : Str → Option Value}, t.heap.Ns b m → (hidT t.heap H).Ns b m := fun {b m} h => by
    obtain ⟨o, es, ep, g, d, r⟩ := h
    exact ⟨o, es, ep, hidT_get g (no_dict g d), d, r⟩
  have keepK : K.In (hidT t.heap H) := fun b o e => hidT_get (kx b o e) (Classical.byContradiction fun z => by
    have eb := some_is z
    have := out (eb ▸ z)
    rw [← eb, e] at this
    cases this)
  have md : Mod K mg (hidT t.heap H) := by
    obtain ⟨mc, c1, c2⟩ := nl
    exact ⟨keepK, keepNs gl, ⟨mb, keepNs bl, bb⟩, ⟨mc, keepNs c1, c2⟩⟩
  have ev : Env0 P w K mg (hidT t.heap H) callerA [] t H := ⟨rfl, md, fun b o e => of_hidT e, Nat.le_of_eq (hidT_size _ _), trivial, fun b hb => (nomatch hb), hok, .of_eq gn⟩
  obtain ⟨fd, Fo, bd⟩ := F _ keepK (keepNs gl)
  have go := Fo.go callerA [] t H ⟨[.ref a], []⟩ [.ref a] [.ref a] _ E0 rfl rm ev (bd t [.ref a] kx rfl) (.cons (show RelV (.ref a) (.ref a) from rfl) .nil) pr
  refine codeAny_mono go fun r s2 z => ?_
  match r, z with
  | .ok (.ret u), z =>
    obtain ⟨v, H2, os, bare, un, hok2, ru, ev⟩ := z
    have ev : v = .bl true := ev
    subst ev
    have ru : u = Value.bool true := ru
    subst ru
    refine ⟨rfl, OldK.of_keep fun b o g => ?_, os, bare⟩
    rcases only b with n | ⟨ob, ys, fz⟩
    · exact un.keep b o g n (fun m => nomatch m) (fun m => nomatch m)
    · have g1 := (hok b _ fz).1
      have g2 := (hok2 b _ (un.frzs b ob _ fz)).1
      rw [g] at g1
      cases g1
      exact g2
theorem entry (kx : K.In t.heap) (gl : t.heap.Ns mainGlobals mg) (bl : t.heap.Ns builtinsNs mb) (bb : ∀ y : Str, y ≠ "__name__" → mb y = bootBuiltins y) (nl : t.heap.NoLimit) (gn : t.gens = #[])
    (ls : t.heap.get? a = some { cls := .type "list", data := .seq us.toArray }) (hi : IntsAre us ns) (hz : ns.length ≤ sizeLine) (rm : Room k callerA) (F : ∀ base : Heap, K.In base → base.Ns mainGlobals mg → ∃ fd, FnOkG P w K mg base k fa fd [x] sp ∧ Binds K fd [x] [])
    (pr : ∀ H : Hp, SqL K H a (ns.map V.int) → sp [.ref a] H (fun v _ => v = .bl true) E0) :
    codeAny (model P w) callerA (.call (.ref fa) ⟨[.ref a], []⟩) (fun r s2 => r = .ok (.ret (.bool true)) ∧ OldK t.heap s2.heap ∧ s2.os = t.os ∧ AllBare s2.gens) t := by
  have vi := vals_ints hi
  have li := hi.length
  by_cases q : K.lookup a = none
  · let H : Hp := fun b => if b = a then some (.frz { cls := .type "list", data := .seq us.toArray } (.lst (ns.map V.int))) else none
    have at_a : H a = some (.frz { cls := .type "list", data := .seq us.toArray } (.lst (ns.map V.int))) := if_pos rfl
    have at_b : ∀ {b : Addr}, b ≠ a → H b = none := fun {b} n => if_neg n
    refine entry_at kx gl bl bb nl gn ls rm F H (fun b => ?_) (fun b u g => ?_) (fun b g => Classical.byContradiction fun n => g (at_b n)) (fun _ => q) (pr H (.inl (.inr ⟨_, at_a⟩)))
    · by_cases n : b = a
      · exact .inr ⟨_, _, n ▸ at_a⟩
      · exact .inl (at_b n)
    · by_cases n : b = a
      · subst n
        rw [at_a] at g
        cases g
        exact ⟨ls, by rw [List.length_map]; exact hz, us, _, vi, ls⟩
      · rw [at_b n] at g
        cases g
  · obtain ⟨o, ho⟩ := Option.ne_none_iff_exists'.mp q
    have g := kx a o ho
    rw [ls] at g
    cases g
    exact entry_at kx gl bl bb nl gn ls rm F (fun _ => none) (fun _ => .inl rfl) (fun b u g => (nomatch g)) (fun b g => absurd rfl g) (fun g => absurd rfl g) (pr _ (.inr ⟨_, us.toArray, _, ho, rfl, rfl, rfl, by rw [List.size_toArray, li]; exact hz, by simpa using vi⟩))
end
end SF
set_option Elab.async false
set_option linter.all false
set_option maxRecDepth 100000
set_option maxHeartbeats 0
open PySem PySem.W PySem.Calls PyProof.Rows
theorem PySem.Challenge.cw_settlesfirst_k33_whole_any_values_as_blo_holds : PySem.Challenge.rw_settlesfirst_k33_whole_any_values_as_blo.Holds := by
  w_on; o_law
  refine HandSHeadRun.head_any (r := OpenLaw.row PySem.Challenge.rw_settlesfirst_k33_whole_any_values_as_blo) (q := view (OpenLaw.row PySem.Challenge.rw_settlesfirst_k33_whole_any_values_as_blo).prog [88]) (H := SFH.hk) (ob := SFH.ob) (M := 12000) (loose := SFH.lo) (d := HandSHeadRun.topDef (OpenLaw.row PySem.Challenge.rw_settlesfirst_k33_whole_any_values_as_blo).prog 88) (kwd := []) SFH.ob_eq
    (by kernel_rfl) (fun s => by kernel_rfl) SFH.run (by kernel_rfl) (by kernel_rfl) (by kernel_rfl) (by rfl) (by first | assumption | decide +kernel) (by decide +kernel) ⟨rfl, rfl, rfl, rfl, rfl, by decide +kernel⟩ ?hw ?hc
  case hw => w_witness2
  case hc =>
    refine Att.attach_call (l := PySem.Challenge.rw_settlesfirst_k33_whole_any_values_as_blo) (n := 63) rfl (by kernel_rfl) fun w s₀ s₁ mg mb fa o pm cd doc a vs ns G Y ho hd hcd hmg0 hobj hints hlen hg => ?_
    obtain ⟨K, KX, c⟩ := Y
    have T := SFH.txt_of KX G.T.g c
    have hname : (HandSHeadRun.topDef (OpenLaw.row PySem.Challenge.rw_settlesfirst_k33_whole_any_values_as_blo).prog 88).name = ("law" : PySem.Str) := by kernel_rfl
    rw [hname] at hmg0
    refine SF.entry (x := "_law_script") (sp := SF.spLaw K) (k := 13) KX G.T.g G.T.b G.T.builtins G.T.nolimit hg hobj hints (Nat.le_trans hlen (by decide)) ⟨rfl, by decide, by decide⟩ (fun base _ _ => ?_) (fun H hS => ⟨a, ns, rfl, hS, fun _ => rfl⟩)
    obtain ⟨f, fd, F, hm, _, b⟩ := (SF.law_ok (P := (PySem.Challenge.rw_settlesfirst_k33_whole_any_values_as_blo).prog) (w := w) (base := base) T).ex
    have e : Value.ref f = Value.ref fa := Option.some.inj (hm.symm.trans hmg0)
    cases e
    exact ⟨fd, F, b⟩
