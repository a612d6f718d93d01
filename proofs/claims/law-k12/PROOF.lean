import PyProof.Rows.All
import Wide.All
import OpenK.AllK
import Wide.FinOn
import KE.KStateDown
import KE.KTryMore
import HandS.ForMost
import HandS.ForExc
import HandS.More
import HandS.Defaults
import HandS.MakeKw
import HandS.MakeKwOnly
import HandS.OwnEq
import HandS.IsInst
import HandS.Conv
import HandS.StrMore
import HandS.ClsMeth
import HandS.Property
import HandS.FStr
import HandS.Zip
import HandS.TupLen
import HandS.DictTup
import HandS.Codes
import HandS.ExcInit
import HandS.Replace
import HandS.ReplaceLit
import HandS.Evl
import HandS.Steps
import HandS.Small
import HandS.RaiseMore
import HandS.Deep
import HandS.Flow
import HandS.Walk
import KE.GoesEnum
import KE.GoesMore
import HandS.Style
import HandS.Head0
import HandS.Head1
import HandS.Head2
import HandS.HeadEnd
import HandS.HeadHook1
import HandS.HeadHook2
import HandS.HeadNt
import PySem.Challenge.RW_answersalone_k12_whole_needs_of_requests
set_option Elab.async false
set_option linter.all false
set_option maxRecDepth 100000
set_option maxHeartbeats 4000000
namespace K12
open PySem PySem.Spec PyProof.Rows L2
/-! ### the text by places -/
def top (i : Nat) : Stmt := PySem.Challenge.pw_answersalone_k12_whole_needs_of_requests.main.body.getD i (.Pass ⟨0, 0, 0, 0⟩)
/-! ### built-in names -/
theorem bt_len : bootBuiltins "len" = some (.builtin "len") := by decide +kernel
theorem bt_isinstance : bootBuiltins "isinstance" = some (.builtin "isinstance") := by decide +kernel
theorem bt_all : bootBuiltins "all" = some (.builtin "all") := by decide +kernel
theorem bt_any : bootBuiltins "any" = some (.builtin "any") := by decide +kernel
theorem bt_abs : bootBuiltins "abs" = some (.builtin "abs") := by decide +kernel
theorem bt_max : bootBuiltins "max" = some (.builtin "max") := by decide +kernel
theorem bt_sorted : bootBuiltins "sorted" = some (.builtin "sorted") := by decide +kernel
theorem bt_int : bootBuiltins "int" = some (.type "int") := by decide +kernel
theorem bt_bool : bootBuiltins "bool" = some (.type "bool") := by decide +kernel
theorem bt_str : bootBuiltins "str" = some (.type "str") := by decide +kernel
theorem bt_list : bootBuiltins "list" = some (.type "list") := by decide +kernel
theorem bt_tuple : bootBuiltins "tuple" = some (.type "tuple") := by decide +kernel
theorem bt_set : bootBuiltins "set" = some (.type "set") := by decide +kernel
theorem bt_range : bootBuiltins "range" = some (.type "range") := by decide +kernel
theorem bt_enumerate : bootBuiltins "enumerate" = some (.type "enumerate") := by decide +kernel
theorem bt_zip : bootBuiltins "zip" = some (.type "zip") := by decide +kernel
/-! ### what the top has left -/
/-- a def of the module -/
structure Dfn (K : PySem.W.Frag) (mg : Str → Option Value) (x : Str) (i : Nat) : Prop where
  g : mg x = some (.ref (He.ga K x))
  f : ∃ fd, FunD K x x (defArgs (top i)) (defBody (top i)) (defScope (top i)) [] [] (He.ga K x) fd
/-- a method (or another def) at an address -/
structure DfM (K : PySem.W.Frag) (x qual : Str) (st : Stmt) (dvs : List V) (kws : List (Str × V)) (a : Addr) : Prop where
  f : ∃ fd, FunD K x qual (defArgs st) (defBody st) (defScope st) dvs kws a fd
def glV (mg : Str → Option Value) (x : Str) (v : V) : Prop := ∃ u, mg x = some u ∧ RelV v u
abbrev cA (K : PySem.W.Frag) : Addr := He.ga K "Automaton"
abbrev cR (K : PySem.W.Frag) : Addr := He.ga K "Request"
abbrev cXA (K : PySem.W.Frag) : Addr := He.ga K "InvalidAutomaton"
abbrev cXR (K : PySem.W.Frag) : Addr := He.ga K "InvalidRequest"
/-- what isinstance wants of an own class -/
structure InsTy (K : PySem.W.Frag) (C : Addr) : Prop where
  ha : PySem.W.findIn K (.ref C) "__class__" = some (some (.builtin "object.__class__"))
  hn : PySem.W.specialIn K (.builtin "object.__class__") "__get__" = some (some (.builtin "getset_descriptor.__get__"))
  htk : PySem.W.takesIn K (.builtin "object.__class__") = some true
  hm : PySem.W.mroIn K C (.type "object") = some true
  self : PySem.W.kitOne K (.ref C) (.ref C) = some true
  str : PySem.W.kitOne K (.ref C) (.type "str") = some false
/-- an exception class with an __init__ of its own -/
structure ExF (K : PySem.W.Frag) (C : Addr) (f : Str) : Prop where
  oex : OexC K C
  iC : PySem.W.findIn K (.ref C) "__init__" = some (some (.ref (He.ma K C "__init__")))
  tI : PySem.W.typeIn K (.ref (He.ma K C "__init__")) = some (.type "function")
  no : PySem.W.findIn K (.ref C) f = some none
  exm : PySem.W.exmAny K (.ref C) [.ref (cXA K), .ref (cXR K)] = some true
structure Txt (K : PySem.W.Frag) (mg : Str → Option Value) : Prop where
  g_Automaton : mg "Automaton" = some (.ref (cA K))
  g_Request : mg "Request" = some (.ref (cR K))
  g_XA : mg "InvalidAutomaton" = some (.ref (cXA K))
  g_XR : mg "InvalidRequest" = some (.ref (cXR K))
  k_XA : PySem.W.keepIn K (.ref (cXA K)) = true
  k_XR : PySem.W.keepIn K (.ref (cXR K)) = true
  x_A : ExF K (cXA K) "part"
  x_R : ExF K (cXR K) "field"
  dx_A : DfM K "__init__" "InvalidAutomaton.__init__" (inClass (top 3) 0) [] [] (He.ma K (cXA K) "__init__")
  dx_R : DfM K "__init__" "InvalidRequest.__init__" (inClass (top 4) 0) [] [] (He.ma K (cXR K) "__init__")
  a_cls : Cls K (cA K)
  r_cls : Cls K (cR K)
  a_mk : Mk K (cA K) (He.ma K (cA K) "__init__")
  r_mk : Mk K (cR K) (He.ma K (cR K) "__init__")
  a_ty : InsTy K (cA K)
  r_ty : InsTy K (cR K)
  a_no_table : NoAttr K (cA K) "table"
  a_no_closing : NoAttr K (cA K) "closing"
  a_no_tokens : NoAttr K (cA K) "tokens"
  a_no__needs : NoAttr K (cA K) "_needs"
  r_no_name : NoAttr K (cR K) "name"
  r_no_text : NoAttr K (cR K) "text"
  r_no_most : NoAttr K (cR K) "most"
  r_no_knob : NoAttr K (cR K) "knob"
  r_no_seed : NoAttr K (cR K) "seed"
  r_no_copies : NoAttr K (cR K) "copies"
  r_no_automaton : NoAttr K (cR K) "automaton"
  a_m_need : Meth K (cA K) "need" (He.ma K (cA K) "need")
  a_m_eq : Meth K (cA K) "__eq__" (He.ma K (cA K) "__eq__")
  a_m_str : Meth K (cA K) "__str__" (He.ma K (cA K) "__str__")
  r_m_fits : Meth K (cR K) "fits" (He.ma K (cR K) "fits")
  r_m_need : Meth K (cR K) "need" (He.ma K (cR K) "need")
  r_m_entry : Meth K (cR K) "entry" (He.ma K (cR K) "entry")
  r_m_eq : Meth K (cR K) "__eq__" (He.ma K (cR K) "__eq__")
  a_cread : ClX.CRead K (cA K) (.type "type")
  a_read : ClX.CMet K (cA K) (.type "type") "read" (He.ma K (cA K) "read") (He5.wf K (cA K) "classmethod" "read")
  r_poss : PropOf K (cR K) "possible" (He.ma K (cR K) "possible") (He5.wf K (cR K) "property" "possible")
  da_init : DfM K "__init__" "Automaton.__init__" (inClass (top 15) 0) [.ref (He.dflAt ("Automaton", some "__init__") 0 K)] [] (He.ma K (cA K) "__init__")
  da_need : DfM K "need" "Automaton.need" (inClass (top 15) 4) [] [] (He.ma K (cA K) "need")
  da_read : DfM K "read" "Automaton.read" (inClass (top 15) 7) [] [] (He5.wf K (cA K) "classmethod" "read")
  da_eq : DfM K "__eq__" "Automaton.__eq__" (inClass (top 15) 8) [] [] (He.ma K (cA K) "__eq__")
  da_str : DfM K "__str__" "Automaton.__str__" (inClass (top 15) 9) [] [] (He.ma K (cA K) "__str__")
  dr_init : DfM K "__init__" "Request.__init__" (inClass (top 26) 0) [] [("knob", .str "best"), ("seed", .int 0), ("copies", .int 1), ("automaton", .non)] (He.ma K (cR K) "__init__")
  dr_poss : DfM K "possible" "Request.possible" (inClass (top 26) 1) [] [] (He5.wf K (cR K) "property" "possible")
  dr_fits : DfM K "fits" "Request.fits" (inClass (top 26) 2) [] [] (He.ma K (cR K) "fits")
  dr_need : DfM K "need" "Request.need" (inClass (top 26) 3) [] [] (He.ma K (cR K) "need")
  dr_entry : DfM K "entry" "Request.entry" (inClass (top 26) 4) [] [] (He.ma K (cR K) "entry")
  dr_eq : DfM K "__eq__" "Request.__eq__" (inClass (top 26) 6) [] [] (He.ma K (cR K) "__eq__")
  n_len : mg "len" = none
  n_isinstance : mg "isinstance" = none
  n_all : mg "all" = none
  n_any : mg "any" = none
  n_abs : mg "abs" = none
  n_max : mg "max" = none
  n_sorted : mg "sorted" = none
  n_int : mg "int" = none
  n_bool : mg "bool" = none
  n_str : mg "str" = none
  n_list : mg "list" = none
  n_tuple : mg "tuple" = none
  n_set : mg "set" = none
  n_range : mg "range" = none
  n_enumerate : mg "enumerate" = none
  n_zip : mg "zip" = none
  g_LONGEST_NAME : ∃ u, mg "_LONGEST_NAME" = some u ∧ RelV (.int 8) u
  g_MOST_STATES : ∃ u, mg "_MOST_STATES" = some u ∧ RelV (.int 6) u
  g_MOST_LETTERS : ∃ u, mg "_MOST_LETTERS" = some u ∧ RelV (.int 5) u
  g_DIGITS : ∃ u, mg "_DIGITS" = some u ∧ RelV (.str "0123456789") u
  g_MOST_TEXT : ∃ u, mg "_MOST_TEXT" = some u ∧ RelV (.int 16) u
  g_MOST_ANSWER : ∃ u, mg "_MOST_ANSWER" = some u ∧ RelV (.int 16) u
  g_GREATEST_SEED : ∃ u, mg "_GREATEST_SEED" = some u ∧ RelV (.int 9999) u
  g_MOST_COPIES : ∃ u, mg "_MOST_COPIES" = some u ∧ RelV (.int 4) u
  d_is_number : Dfn K mg "is_number" 7
  d_is_name : Dfn K mg "is_name" 8
  d_number_word : Dfn K mg "number_word" 9
  d_read_number : Dfn K mg "read_number" 10
  d__is_table : Dfn K mg "_is_table" 16
  d__is_line : Dfn K mg "_is_line" 17
  d__are_closing : Dfn K mg "_are_closing" 18
  d__needs : Dfn K mg "_needs" 19
  d__state_word : Dfn K mg "_state_word" 20
  d_read_request : Dfn K mg "read_request" 27
  d__read_word : Dfn K mg "_read_word" 28
  d__is_text : Dfn K mg "_is_text" 29
  d__is_knob : Dfn K mg "_is_knob" 30
  d__law_bag : Dfn K mg "_law_bag" 32
  d__law_draw : Dfn K mg "_law_draw" 33
  d__law_of : Dfn K mg "_law_of" 34
  d__law_like : Dfn K mg "_law_like" 35
  d__law_frozen : Dfn K mg "_law_frozen" 36
  d__law_lists : Dfn K mg "_law_lists" 37
  d__law_signs : Dfn K mg "_law_signs" 38
  d__law_string : Dfn K mg "_law_string" 39
  d__law_numeral : Dfn K mg "_law_numeral" 40
  d__law_read : Dfn K mg "_law_read" 41
  d__law_table : Dfn K mg "_law_table" 42
  d__law_word : Dfn K mg "_law_word" 43
  d__law_walked : Dfn K mg "_law_walked" 44
  d__law_read_word : Dfn K mg "_law_read_word" 45
  d__law_reach : Dfn K mg "_law_reach" 46
  d__law_need : Dfn K mg "_law_need" 47
  d__law_name : Dfn K mg "_law_name" 48
  d__law_values : Dfn K mg "_law_values" 49
  d__law_pages : Dfn K mg "_law_pages" 50
  d__law_tool : Dfn K mg "_law_tool" 51
  d__law_made : Dfn K mg "_law_made" 52
  d__law_line : Dfn K mg "_law_line" 53
  d__law_read_line : Dfn K mg "_law_read_line" 54
  d__law_told : Dfn K mg "_law_told" 55
  d__law_due : Dfn K mg "_law_due" 56
  d__law_read_so : Dfn K mg "_law_read_so" 57
  d__law_free : Dfn K mg "_law_free" 58
  d__law_bent : Dfn K mg "_law_bent" 59
  d__law_needs_so : Dfn K mg "_law_needs_so" 60
  d_law : Dfn K mg "law" 61
/-! ### a def that may be called by its name -/
structure Cal (P : Program) (w : World) (K : PySem.W.Frag) (mg : Str → Option Value) (base : Heap) (k : Nat) (x : Str) (sp : Sp) : Prop where
  ex : ∃ (f : Addr) (fd : FuncData) (ps : List Str), FnOk P w K mg base CX0 k f fd ps sp ∧ mg x = some (.ref f) ∧ PySem.W.keepIn K (.ref f) = true ∧ Binds K fd ps []
section
variable {P : Program} {w : World} {K : PySem.W.Frag} {mg : Str → Option Value} {base : Heap}
theorem Cal.imp {k : Nat} {x : Str} {sp sp' : Sp} (c : Cal P w K mg base k x sp) (h : ∀ vs H Q E, sp' vs H Q E → sp vs H Q E) : Cal P w K mg base k x sp' := by
  obtain ⟨f, fd, ps, F, a, b, d⟩ := c.ex
  exact ⟨f, fd, ps, F.imp h, a, b, d⟩
theorem Dfn.cal {x : Str} {i k : Nat} {N ps : List Str} {sp : Sp} (D : Dfn K mg x i) (S : FnScope N ps (defScope (top i)))
    (hb : ∀ (kV doc pm : Value) (an : Option Addr) (cdv ct : Value) (us : List Value), us.length = ps.length → bindArgs (PySem.W.fnOf x x (defArgs (top i)) (defBody (top i)) (defScope (top i)) .none kV doc pm an cdv ct) ⟨us, []⟩ = pure (ps.zip us))
    (len : ∀ vs H Q E, sp vs H Q E → vs.length = ps.length)
    (hbody : ∀ (f : Addr) (cdv : Value) (A : Around) (outer : List Env) (s : Shared) (H : Hp) (vs : List V) (Q : VK) (E : XK), Room k (A.deeper (envOfC x (defScope (top i)) s.heap.objs.size f cdv)) → sp vs H Q E →
      ∃ t, PSs (cxOf CX0 P w K mg base N x (defScope (top i)) f cdv A outer s H E).nox (defBody (top i)) t ∧ t { nx := fun _ H' => Q .non H', rt := Q } (start N vs) H) : Cal P w K mg base (k + 1) x sp := by
  obtain ⟨fd, F⟩ := D.f
  refine ⟨_, fd, ps, F.ok S len fun cdv A outer s H vs Q E hr h => ?_, D.g, F.kp, F.bindsN hb⟩
  obtain ⟨t, h1, h2⟩ := hbody _ cdv A outer s H vs Q E hr h
  exact ⟨t, h1.nox, h2⟩
end
/-! ### a method -/
structure MCal (P : Program) (w : World) (K : PySem.W.Frag) (mg : Str → Option Value) (base : Heap) (CX : CXT) (k : Nat) (f : Addr) (sp : Sp) : Prop where
  ex : ∃ (fd : FuncData) (ps : List Str), FnOk P w K mg base CX k f fd ps sp ∧ Binds K fd ps []
section
variable {P : Program} {w : World} {K : PySem.W.Frag} {mg : Str → Option Value} {base : Heap}
theorem MCal.imp {CX : CXT} {k : Nat} {f : Addr} {sp sp' : Sp} (c : MCal P w K mg base CX k f sp) (h : ∀ vs H Q E, sp' vs H Q E → sp vs H Q E) : MCal P w K mg base CX k f sp' := by
  obtain ⟨fd, ps, F, b⟩ := c.ex
  exact ⟨fd, ps, F.imp h, b⟩
theorem DfM.fn {x qual : Str} {st : Stmt} {dvs : List V} {kws : List (Str × V)} {f : Addr} {k : Nat} {N ps : List Str} {sp : Sp} {CX : CXT} {fd : FuncData} (F : FunD K x qual (defArgs st) (defBody st) (defScope st) dvs kws f fd) (S : FnScope N ps (defScope st))
    (len : ∀ vs H Q E, sp vs H Q E → vs.length = ps.length)
    (hbody : ∀ (f : Addr) (cdv : Value) (A : Around) (outer : List Env) (s : Shared) (H : Hp) (vs : List V) (Q : VK) (E : XK), Room k (A.deeper (envOfC qual (defScope st) s.heap.objs.size f cdv)) → sp vs H Q E →
      ∃ t, PSs (cxOf CX P w K mg base N qual (defScope st) f cdv A outer s H E) (defBody st) t ∧ t { nx := fun _ H' => Q .non H', rt := Q } (start N vs) H) : FnOk P w K mg base CX (k + 1) f fd ps sp :=
  F.ok S len fun cdv A outer s H vs Q E hr h => hbody _ cdv A outer s H vs Q E hr h
theorem DfM.mcal {x qual : Str} {st : Stmt} {f : Addr} {k : Nat} {N ps : List Str} {sp : Sp} (D : DfM K x qual st [] [] f) (S : FnScope N ps (defScope st))
    (hb : ∀ (kV doc pm : Value) (an : Option Addr) (cdv ct : Value) (us : List Value), us.length = ps.length → bindArgs (PySem.W.fnOf x qual (defArgs st) (defBody st) (defScope st) .none kV doc pm an cdv ct) ⟨us, []⟩ = pure (ps.zip us))
    (len : ∀ vs H Q E, sp vs H Q E → vs.length = ps.length)
    (hbody : ∀ (f : Addr) (cdv : Value) (A : Around) (outer : List Env) (s : Shared) (H : Hp) (vs : List V) (Q : VK) (E : XK), Room k (A.deeper (envOfC qual (defScope st) s.heap.objs.size f cdv)) → sp vs H Q E →
      ∃ t, PSs (cxOf CX0 P w K mg base N qual (defScope st) f cdv A outer s H E).nox (defBody st) t ∧ t { nx := fun _ H' => Q .non H', rt := Q } (start N vs) H) : MCal P w K mg base CX0 (k + 1) f sp := by
  obtain ⟨fd, F⟩ := D.f
  refine ⟨fd, ps, DfM.fn F S len (fun f cdv A outer s H vs Q E hr h => ?_), F.bindsN hb⟩
  obtain ⟨t, h1, h2⟩ := hbody f cdv A outer s H vs Q E hr h
  exact ⟨t, h1.nox, h2⟩
end
section
variable {X : Cx} {k j : Nat} {C f : Addr} {m : Str} {sp : Sp} {pos apos : Pos} {o e : Expr} {es : List Expr} {ta : TE} {t : TA}
theorem pe_mc {pl : Sem Bool} (c : MCal X.prog X.w X.K X.mg X.base CX0 k f sp) (hr : Room j X.A) (hk : k ≤ j) (cl : Cls X.K C) (hm : Meth X.K C m f) (he : PE X o ta) (ha : PA X (e :: es) t)
    (hst : starEach (e :: es) X.env = (false, eval e X.env) :: starEach es X.env := by rfl) (hpl : (backTo pos (starEach es X.env)).any (·.1) = false := by rfl)
    (ht : eval (.Call (.Attribute o m apos) (e :: es) [] pos) X.env = (do
      let ov ← eval o X.env
      standAt apos.atName
      let (f, first) ← holding [ov] (getMethod ov m pl)
      callWith pos f first (backTo pos (starEach (e :: es) X.env)) (backToKw pos (keywordEach [] X.env))) := by rfl) : PE X (.Call (.Attribute o m apos) (e :: es) [] pos) (tMeth C m sp [] E0 ta t) := by
  obtain ⟨fd, ps, F, b⟩ := c.ex
  exact pe_meth he cl hm F (hr.mono hk) b .nil pass0 ha hst hpl ht
end
section
variable {X : Cx} {k j : Nat} {x : Str} {sp : Sp} {p pos : Pos} {e : Expr} {es : List Expr} {t : TA}
theorem pe_c (c : Cal X.prog X.w X.K X.mg X.base k x sp) (hr : Room j X.A) (hk : k ≤ j) (hg : Gl X x) (ha : PA X (e :: es) t)
    (hdb : (x == ("__debug__" : Str)) = false := by decide) (he : starEach (e :: es) X.env = (false, eval e X.env) :: starEach es X.env := by rfl) (hpl : (backTo pos (starEach es X.env)).any (·.1) = false := by rfl) :
    PE X (.Call (.Name x p) (e :: es) [] pos) (tCall sp [] E0 t) := by
  obtain ⟨f, fd, ps, F, hm, kp, b⟩ := c.ex
  exact pe_call F (hr.mono hk) hg hm kp b .nil pass0 ha hdb he hpl
theorem pe_c0 (c : Cal X.prog X.w X.K X.mg X.base k x sp) (hr : Room j X.A) (hk : k ≤ j) (hg : Gl X x) 
    (hdb : (x == ("__debug__" : Str)) = false := by decide) :
    PE X (.Call (.Name x p) [] [] pos) (tCall sp [] E0 tNil) := by
  obtain ⟨f, fd, ps, F, hm, kp, b⟩ := c.ex
  exact pe_call0 F (hr.mono hk) hg hm kp b .nil pass0 hdb
end
/-! ### kinds of values -/
section
variable {K : PySem.W.Frag} {H : Hp} {Q : VK}
/-- the built-in type of a value, as isinstance sees it -/
inductive TyN (K : PySem.W.Frag) (H : Hp) : V → String → Prop where
  | non : TyN K H .non "NoneType"
  | bl (b : Bool) : TyN K H (.bl b) "bool"
  | int (i : Int) : TyN K H (.int i) "int"
  | str (z : Str) : TyN K H (.str z) "str"
  | lst {a : Addr} {xs : List V} (h : SqL K H a xs) : TyN K H (.ref a) "list"
  | tup {a : Addr} {xs : List V} (h : SqT K H a xs) : TyN K H (.ref a) "tuple"
end
/-! ### rules whose readings are named (a comprehension's block wants it) -/
def rTupleS (K : PySem.W.Frag) : List V → Hp → VK → Prop := fun xs H Q => ∃ p ys, xs = [.ref p] ∧ ((SqL K H p ys ∧ ∀ l, H l = none → Q (.ref l) (upd H l (.tup ys))) ∨ (SqT K H p ys ∧ Q (.ref p) H))
def rTupleT (K : PySem.W.Frag) : List V → Hp → VK → Prop := fun xs H Q => ∃ a ys, xs = [.ref a] ∧ SqT K H a ys ∧ Q (.ref a) H
section
variable {X : Cx} {K : PySem.W.Frag}
theorem call_lenK (hK : X.K = K := by rfl) : CallR X (.builtin "len") (Evl.rLenS K) := by
  subst hK
  exact call_len_seq
theorem call_listK (hK : X.K = K := by rfl) : CallR X (.type "list") (Evl.rListS K) := by
  subst hK
  exact call_list_of
theorem call_tupleK (hK : X.K = K := by rfl) : CallR X (.type "tuple") (rTupleS K) := by
  subst hK
  exact call_tuple_of
theorem call_tupleTK (hK : X.K = K := by rfl) : CallR X (.type "tuple") (rTupleT K) := by
  subst hK
  exact call_tupleT
theorem call_isiK' (hK : X.K = K := by rfl) : CallR X (.builtin "isinstance") (rIsi K) := by
  subst hK
  exact call_isi
theorem call_isiTK (hK : X.K = K := by rfl) : CallR X (.builtin "isinstance") (rIsiT K) := by
  subst hK
  exact call_isiT
theorem cr_allK (hc : X.calm = true) (hK : X.K = K := by rfl) : CallR X (.builtin "all") (rAll K) := by
  subst hK
  exact cr_all hc
theorem cr_anyK (hc : X.calm = true) (hK : X.K = K := by rfl) : CallR X (.builtin "any") (rAny K) := by
  subst hK
  exact cr_any hc
theorem ix_listK (hK : X.K = K := by rfl) : IxR X (rIxL K) := by
  subst hK
  exact ix_list
theorem ix_tupK (hK : X.K = K := by rfl) : IxR X (rIxT K) := by
  subst hK
  exact ix_tup
theorem ix_seqK (hK : X.K = K := by rfl) : IxR X (rIx K) := by
  subst hK
  exact ix_seq
theorem sl_listK (hK : X.K = K := by rfl) : SlR X (rSlL K) := by
  subst hK
  exact sl_list
theorem op_in_seqK (hK : X.K = K := by rfl) : OpR X (compareOp .In) (rIn K false) := by
  subst hK
  exact op_in_seq
theorem op_notIn_seqK (hK : X.K = K := by rfl) : OpR X (compareOp .NotIn) (rIn K true) := by
  subst hK
  exact op_notIn_seq
theorem op_eqDK (hu : X.A.units + 64 < cLine) (hK : X.K = K := by rfl) : OpR X (compareOp .Eq) (rEqD K) := by
  subst hK
  exact op_eqD hu
theorem pe_fldK {e : Expr} {f : Str} {pos : Pos} {ta : TE} (he : PE X e ta) (hb : attributeBase e f X.env (eval e X.env) = eval e X.env) (hK : X.K = K := by rfl) : PE X (.Attribute e f pos) (tFld K ta f) := by
  subst hK
  exact pe_fld he hb
theorem pi_listK {tg l : Expr} {tl : TE} (hl : PE X l tl) (hK : X.K = K := by rfl) : PI X tg l (iList K tl) := by
  subst hK
  exact pi_list hl
theorem pi_tupK {tg l : Expr} {tl : TE} (hl : PE X l tl) (hK : X.K = K := by rfl) : PI X tg l (iTup K tl) := by
  subst hK
  exact pi_tup hl
end
end K12
namespace K12
open PySem PySem.Spec PyProof.Rows L2
section
variable {K : PySem.W.Frag} {H H' : Hp} {Q : VK}
theorem TyN.tyX {v : V} {T : String} (t : TyN K H v T) : TyX K H v (.type T) := by
  cases t with
  | non => exact .base .non
  | bl b => exact .base (.bl b)
  | int i => exact .base (.int i)
  | str z => exact .base (.str z)
  | @lst a xs h =>
    rcases h with (h | ⟨o, h⟩) | ⟨o, its, n, h1, h2, _⟩
    · exact .base (.lst h)
    · exact .base (.frz h)
    · exact .kList h1 h2
  | @tup a xs h =>
    rcases h with (h | ⟨o, h⟩) | ⟨o, its, n, h1, h2, _⟩
    · exact .base (.tup h)
    · exact .fTuple h
    · exact .kTuple h1 h2
theorem r_isi {v : V} {T n : String} {b : Bool} (ty : TyN K H v T) (e : kitB T n = some b) (q : Q (.bl b) H) : rIsi K [v, .ty n] H Q := ⟨v, .ty n, .type T, .type n, b, rfl, .ty n, ty.tyX, kit_ty e, q⟩
def isLT (T : String) : Bool := T == "list" || T == "tuple"
theorem kitB_lt {v : V} {T : String} (t : TyN K H v T) : ∃ b1 b2, kitB T "list" = some b1 ∧ kitB T "tuple" = some b2 ∧ (b1 || b2) = isLT T := by
  cases t
  · exact ⟨false, false, by decide +kernel, by decide +kernel, by decide +kernel⟩
  · exact ⟨false, false, by decide +kernel, by decide +kernel, by decide +kernel⟩
  · exact ⟨false, false, by decide +kernel, by decide +kernel, by decide +kernel⟩
  · exact ⟨false, false, by decide +kernel, by decide +kernel, by decide +kernel⟩
  · exact ⟨true, false, by decide +kernel, by decide +kernel, by decide +kernel⟩
  · exact ⟨false, true, by decide +kernel, by decide +kernel, by decide +kernel⟩
theorem TyN.ext {v : V} {T : String} (t : TyN K H v T) (e : Ext H H') : TyN K H' v T := by
  cases t with
  | non => exact .non
  | bl b => exact .bl b
  | int i => exact .int i
  | str z => exact .str z
  | lst h => exact .lst (h.ext e)
  | tup h => exact .tup (h.ext e)
/-- isinstance(x, (list, tuple)), the tuple just laid -/
theorem r_isiLT {v : V} {T : String} {p : Addr} (ty : TyN K H v T) (hp : H p = none) (q : Q (.bl (isLT T)) (upd H p (.tup [.ty "list", .ty "tuple"]))) : rIsiT K [v, .ref p] (upd H p (.tup [.ty "list", .ty "tuple"])) Q := by
  obtain ⟨b1, b2, e1, e2, e3⟩ := kitB_lt ty
  refine ⟨v, p, _, .type T, [.type "list", .type "tuple"], isLT T, rfl, upd_same, .cons (.ty _) (.cons (.ty _) .nil), (ty.ext (Ext.upd hp)).tyX, ?_, q⟩
  refine kitAny_cons (kit_ty e1) (fun h => kitAny_cons (kit_ty e2) (fun h2 => ?_) (fun h2 => ?_)) (fun h => ?_)
  · rw [← e3, h, h2]
    exact kitAny_nil
  · rw [← e3, h2, Bool.or_true]
  · rw [← e3, h, Bool.true_or]
end
/-- a number or None -/
def optI : Option Int → V
  | none => .non
  | some n => .int n
section
variable {P : Program} {w : World} {K : PySem.W.Frag} {mg : Str → Option Value} {base : Heap}
/-! ### is_number -/
abbrev s_is_number : Stmt := top 7
theorem sc_is_number : FnScope ["value", "least", "most"] ["value", "least", "most"] (defScope s_is_number) := ⟨rfl, rfl, rfl, by decide +kernel, rfl, by decide +kernel, by decide +kernel⟩
def isNum (v : Option Int) (a b : Int) : Bool := match v with
  | none => false
  | some n => decide (a ≤ n) && decide (n ≤ b)
def sp_is_number : Sp := fun vs H Q _ => ∃ (v : Option Int) (a b : Int), vs = [optI v, .int a, .int b] ∧ Q (.bl (isNum v a b)) H
theorem c_is_number (T : Txt K mg) : Cal P w K mg base 1 "is_number" sp_is_number := by
  refine T.d_is_number.cal sc_is_number (fun _ _ _ _ _ _ us hl => match us, hl with | [_, _, _], _ => rfl) (fun vs H Q E h => ?_) (fun f cdv A outer s H vs Q E hr h => ?_)
  · obtain ⟨v, a, b, rfl, _⟩ := h
    rfl
  · obtain ⟨v, a, b, rfl, k⟩ := h
    refine ⟨_, (pss_cons (ps_if (PW.pt (pw_or (pt_val (pe_callB (call_isiK' (K := K)) rfl T.n_isinstance bt_isinstance (pa_cons (pv 0) (pa_cons (pe_bltn (v := .ty "bool") rfl T.n_bool bt_bool rfl) pa_nil)))) (pw_or1 (pt_not (pt_val (pe_callB (call_isiK' (K := K)) rfl T.n_isinstance bt_isinstance (pa_cons (pv 0) (pa_cons (pe_bltn (v := .ty "int") rfl T.n_int bt_int rfl) pa_nil)))))))) (pss_one (ps_ret pe_bl)) pss_nil)
  (pss_one (ps_ret (pe_chain op_le op_le (pv 1) (pv 0) (pv 2))))), ?_⟩
    cases v with
    | none =>
      refine ⟨_, rfl, _, _, _, _, false, rfl, .ty _, TyN.tyX .non, kit_ty (by decide +kernel), _, rfl, iteF ?_⟩
      exact ⟨_, rfl, _, _, _, _, false, rfl, .ty _, TyN.tyX .non, kit_ty (by decide +kernel), _, rfl, iteT k⟩
    | some n =>
      refine ⟨_, rfl, _, _, _, _, false, rfl, .ty _, TyN.tyX (.int n), kit_ty (by decide +kernel), _, rfl, iteF ?_⟩
      refine ⟨_, rfl, _, _, _, _, true, rfl, .ty _, TyN.tyX (.int n), kit_ty (by decide +kernel), _, rfl, iteF ?_⟩
      refine ⟨_, rfl, _, rfl, _, _, rfl, rfl, _, rfl, ?_⟩
      refine ite2 (fun h => ?_) (fun h => ?_)
      · refine ⟨_, rfl, _, _, rfl, rfl, ?_⟩
        have e : isNum (some n) a b = decide (n ≤ b) := by
          show (decide (a ≤ n) && decide (n ≤ b)) = _
          rw [h, Bool.true_and]
        rw [e] at k
        exact k
      · have e : isNum (some n) a b = false := by
          show (decide (a ≤ n) && decide (n ≤ b)) = _
          rw [Bool.eq_false_iff.mpr h, Bool.false_and]
        rw [e] at k
        exact k
/-! ### number_word -/
abbrev s_number_word : Stmt := top 9
theorem sc_number_word : FnScope ["number"] ["number"] (defScope s_number_word) := ⟨rfl, rfl, rfl, by decide +kernel, rfl, by decide +kernel, by decide +kernel⟩
def sp_number_word : Sp := fun vs H Q _ => ∃ n : Int, vs = [.int n] ∧ n.natAbs.log2 < 1920 ∧ Q (.str (toString n)) H
theorem c_number_word (T : Txt K mg) : Cal P w K mg base 1 "number_word" sp_number_word := by
  refine T.d_number_word.cal sc_number_word (fun _ _ _ _ _ _ us hl => match us, hl with | [_], _ => rfl) (fun vs H Q E h => ?_) (fun f cdv A outer s H vs Q E hr h => ?_)
  · obtain ⟨n, rfl, _⟩ := h
    rfl
  · obtain ⟨n, rfl, hn, k⟩ := h
    refine ⟨_, (pss_one (ps_ret (pe_callTy call_str_int rfl T.n_str bt_str (pa_cons (pv 0) pa_nil)))), ?_⟩
    exact ⟨_, rfl, _, rfl, hn, k⟩
/-! ### _is_knob -/
abbrev s__is_knob : Stmt := top 30
theorem sc__is_knob : FnScope ["value"] ["value"] (defScope s__is_knob) := ⟨rfl, rfl, rfl, by decide +kernel, rfl, by decide +kernel, by decide +kernel⟩
def isKnob (z : Str) : Bool := z == "best" || z == "draw"
def sp__is_knob : Sp := fun vs H Q _ => ∃ z : Str, vs = [.str z] ∧ ∀ H', Ext H H' → Q (.bl (isKnob z)) H'
theorem c__is_knob (T : Txt K mg) : Cal P w K mg base 1 "_is_knob" sp__is_knob := by
  refine T.d__is_knob.cal sc__is_knob (fun _ _ _ _ _ _ us hl => match us, hl with | [_], _ => rfl) (fun vs H Q E h => ?_) (fun f cdv A outer s H vs Q E hr h => ?_)
  · obtain ⟨z, rfl, _⟩ := h
    rfl
  · obtain ⟨z, rfl, k⟩ := h
    refine ⟨_, (pss_one (ps_ret (pe_and (pe_callB (call_isiK' (K := K)) rfl T.n_isinstance bt_isinstance (pa_cons (pv 0) (pa_cons (pe_bltn (v := .ty "str") rfl T.n_str bt_str rfl) pa_nil))) (pe_one (pe_cmpR (op_in_seqK (K := K)) (pv 0) (pe_tup (pa_cons pe_str (pa_cons pe_str pa_nil))) rfl))))), ?_⟩
    refine ⟨_, rfl, _, _, _, _, true, rfl, .ty _, TyN.tyX (.str z), kit_ty (by decide +kernel), _, rfl, iteT ?_⟩
    refine ⟨_, rfl, (by show 2 ≤ sizeLine; decide), fun p hp => ⟨p, _, rfl, .inr (SqT.of upd_same), rfl, rfl, ?_⟩⟩
    have e : inV (.str z) [.str "best", .str "draw"] = isKnob z := by
      show (("best" == z) || (("draw" == z) || false)) = _
      unfold isKnob
      rw [Bool.or_false, Bool.beq_comm (a := z), Bool.beq_comm (a := z)]
    show Q (.bl (inV (.str z) [.str "best", .str "draw"])) _
    rw [e]
    exact k _ (Ext.upd hp)
end
end K12
namespace K12
open PySem PySem.Spec PyProof.Rows L2
/-! ### comprehensions whose elements only lay new objects -/
theorem ext_mut {H H' : Hp} {p : Addr} {o : HO} (e : Ext H H') (h : H p = none) : Ext H (upd H' p o) := fun a u ha => by
  rw [upd_ne (ne_of_none ha h)]
  exact e a u ha
theorem take_succ_f {α : Type} {l : List α} {i : Nat} {a : α} (h : l[i]? = some a) : l.take (i + 1) = l.take i ++ [a] := by
  rw [List.take_add_one, h]
  rfl
theorem lcG {α : Type} {J : It} {G : Hp → Prop} {Y : Nat → Hp → V → Hp → Prop} {g : TG} {tt : TT} {te : TE} {vs : List Nat} {σ : L2.St} {H1 : Hp} {D : Addr} {Qd : Hp → Prop} (items : List α) (w : Walk J items.length G Y)
    (R : α → Hp → V → Hp → Prop) (hY : ∀ i H x H', i < items.length → Y i H x H' → ∃ a, items[i]? = some a ∧ R a H x H') (f : α → V) (p : α → Bool) (hz : items.length < sizeLine) (hD : H1 D = none) (hG : ∀ H, Ext H1 H → G H)
    (hs : ∀ a x H H', a ∈ items → Ext H1 H → R a H x H' → ∀ (Q : VK) (Q0 : Hp → Prop), (p a = true → ∀ H4, Ext H H4 → Q (f a) H4) → (p a = false → ∀ H4, Ext H H4 → Q0 H4) →
      g x (wipe σ vs) H' fun σ2 H2 => wipe σ2 vs = wipe σ vs ∧ tt σ2 H2 fun b H3 => if b = true then te σ2 H3 Q else Q0 H3)
    (hd : ∀ H', Ext H1 H' → H' D = some (.lst ((items.filter p).map f)) → Qd H') :
    ∃ W : Nat → Nat → Hp → Prop, (∃ m, W 0 m (upd H1 D (.lst []))) ∧ ∀ i m H, W i m H →
      (J.stop i H ∧ Qd H) ∨ (J.go i H ∧ ∃ Nx : Hp → Prop, (∀ H', Nx H' → ∃ m', m' < m ∧ W (i + 1) m' H') ∧ ∀ x H', J.yld i H x H' → g x (wipe σ vs) H' fun σ2 H2 => wipe σ2 vs = wipe σ vs ∧ tt σ2 H2 fun b H3 =>
        if b = true then te σ2 H3 fun y H4 => ∃ acc, H4 D = some (.lst acc) ∧ acc.length < sizeLine ∧ Nx (upd H4 D (.lst (acc ++ [y]))) else Nx H3) := by
  refine lc_it w (fun i H => Ext H1 H ∧ H D = some (.lst (((items.take i).filter p).map f))) ⟨Ext.upd hD, upd_same⟩ (fun i H _ h => hG H h.1) (fun i x H H' hi h y => ?_) (fun H h => hd H h.1 (by have := h.2; rwa [List.take_length] at this))
  obtain ⟨a, ha, r⟩ := hY i H x H' hi y
  obtain ⟨e, hl⟩ := h
  refine hs a x H H' (List.mem_of_getElem? ha) e r _ _ (fun hp H4 e4 => ⟨_, e4 _ _ hl, ?_, ext_mut (e.trans e4) hD, ?_⟩) (fun hp H4 e4 => ⟨e.trans e4, ?_⟩)
  · refine Nat.lt_of_le_of_lt ?_ hz
    rw [List.length_map]
    exact Nat.le_trans (List.length_filter_le _ _) (by rw [List.length_take]; exact Nat.min_le_right _ _)
  · rw [upd_same, take_succ_f ha, List.filter_append, List.map_append]
    simp [List.filter, hp]
  · rw [e4 _ _ hl, take_succ_f ha, List.filter_append, List.map_append]
    simp [List.filter, hp]
/-- over a list -/
theorem lcL {K : PySem.W.Frag} {a : Addr} {xs : List V} {g : TG} {tt : TT} {te : TE} {vs : List Nat} {σ : L2.St} {H1 : Hp} {D : Addr} {Qd : Hp → Prop} (f : V → V) (p : V → Bool) (ha : SqL K H1 a xs) (hD : H1 D = none) (hz : xs.length < sizeLine)
    (hs : ∀ x H, x ∈ xs → Ext H1 H → ∀ (Q : VK) (Q0 : Hp → Prop), (p x = true → ∀ H4, Ext H H4 → Q (f x) H4) → (p x = false → ∀ H4, Ext H H4 → Q0 H4) →
      g x (wipe σ vs) H fun σ2 H2 => wipe σ2 vs = wipe σ vs ∧ tt σ2 H2 fun b H3 => if b = true then te σ2 H3 Q else Q0 H3)
    (hd : ∀ H', Ext H1 H' → H' D = some (.lst ((xs.filter p).map f)) → Qd H') :
    ∃ W : Nat → Nat → Hp → Prop, (∃ m, W 0 m (upd H1 D (.lst []))) ∧ ∀ i m H, W i m H →
      ((Itl K a).stop i H ∧ Qd H) ∨ ((Itl K a).go i H ∧ ∃ Nx : Hp → Prop, (∀ H', Nx H' → ∃ m', m' < m ∧ W (i + 1) m' H') ∧ ∀ x H', (Itl K a).yld i H x H' → g x (wipe σ vs) H' fun σ2 H2 => wipe σ2 vs = wipe σ vs ∧ tt σ2 H2 fun b H3 =>
        if b = true then te σ2 H3 fun y H4 => ∃ acc, H4 D = some (.lst acc) ∧ acc.length < sizeLine ∧ Nx (upd H4 D (.lst (acc ++ [y]))) else Nx H3) :=
  lcG xs walk_list (fun a H x H' => x = a ∧ H' = H) (fun i H x H' _ y => ⟨x, y.2, rfl, y.1⟩) f p hz hD (fun H e => ha.ext e) (fun a x H H' hm e r => by obtain ⟨rfl, rfl⟩ := r; exact hs x _ hm e) hd
/-- over a tuple -/
theorem lcT {K : PySem.W.Frag} {a : Addr} {xs : List V} {g : TG} {tt : TT} {te : TE} {vs : List Nat} {σ : L2.St} {H1 : Hp} {D : Addr} {Qd : Hp → Prop} (f : V → V) (p : V → Bool) (ha : SqT K H1 a xs) (hD : H1 D = none) (hz : xs.length < sizeLine)
    (hs : ∀ x H, x ∈ xs → Ext H1 H → ∀ (Q : VK) (Q0 : Hp → Prop), (p x = true → ∀ H4, Ext H H4 → Q (f x) H4) → (p x = false → ∀ H4, Ext H H4 → Q0 H4) →
      g x (wipe σ vs) H fun σ2 H2 => wipe σ2 vs = wipe σ vs ∧ tt σ2 H2 fun b H3 => if b = true then te σ2 H3 Q else Q0 H3)
    (hd : ∀ H', Ext H1 H' → H' D = some (.lst ((xs.filter p).map f)) → Qd H') :
    ∃ W : Nat → Nat → Hp → Prop, (∃ m, W 0 m (upd H1 D (.lst []))) ∧ ∀ i m H, W i m H →
      ((Itt K a).stop i H ∧ Qd H) ∨ ((Itt K a).go i H ∧ ∃ Nx : Hp → Prop, (∀ H', Nx H' → ∃ m', m' < m ∧ W (i + 1) m' H') ∧ ∀ x H', (Itt K a).yld i H x H' → g x (wipe σ vs) H' fun σ2 H2 => wipe σ2 vs = wipe σ vs ∧ tt σ2 H2 fun b H3 =>
        if b = true then te σ2 H3 fun y H4 => ∃ acc, H4 D = some (.lst acc) ∧ acc.length < sizeLine ∧ Nx (upd H4 D (.lst (acc ++ [y]))) else Nx H3) :=
  lcG xs walk_tup (fun a H x H' => x = a ∧ H' = H) (fun i H x H' _ y => ⟨x, y.2, rfl, y.1⟩) f p hz hD (fun H e => ha.ext e) (fun a x H H' hm e r => by obtain ⟨rfl, rfl⟩ := r; exact hs x _ hm e) hd
/-- over a text, sign by sign -/
theorem lcS {z : Str} {g : TG} {tt : TT} {te : TE} {vs : List Nat} {σ : L2.St} {H1 : Hp} {D : Addr} {Qd : Hp → Prop} (f : Nat → V) (p : Nat → Bool) (hD : H1 D = none) (hz : z.length < sizeLine)
    (hs : ∀ c H, c ∈ z.cps.toList → Ext H1 H → ∀ (Q : VK) (Q0 : Hp → Prop), (p c = true → ∀ H4, Ext H H4 → Q (f c) H4) → (p c = false → ∀ H4, Ext H H4 → Q0 H4) →
      g (.str ⟨#[c]⟩) (wipe σ vs) H fun σ2 H2 => wipe σ2 vs = wipe σ vs ∧ tt σ2 H2 fun b H3 => if b = true then te σ2 H3 Q else Q0 H3)
    (hd : ∀ H', Ext H1 H' → H' D = some (.lst ((z.cps.toList.filter p).map f)) → Qd H') :
    ∃ W : Nat → Nat → Hp → Prop, (∃ m, W 0 m (upd H1 D (.lst []))) ∧ ∀ i m H, W i m H →
      ((Its z).stop i H ∧ Qd H) ∨ ((Its z).go i H ∧ ∃ Nx : Hp → Prop, (∀ H', Nx H' → ∃ m', m' < m ∧ W (i + 1) m' H') ∧ ∀ x H', (Its z).yld i H x H' → g x (wipe σ vs) H' fun σ2 H2 => wipe σ2 vs = wipe σ vs ∧ tt σ2 H2 fun b H3 =>
        if b = true then te σ2 H3 fun y H4 => ∃ acc, H4 D = some (.lst acc) ∧ acc.length < sizeLine ∧ Nx (upd H4 D (.lst (acc ++ [y]))) else Nx H3) :=
  lcG z.cps.toList (by rw [Array.length_toList]; exact walk_str) (fun c H x H' => x = .str ⟨#[c]⟩ ∧ H' = H) (fun i H x H' _ y => by obtain ⟨h1, c, h2, h3⟩ := y; exact ⟨c, by rw [Array.getElem?_toList]; exact h2, h3, h1⟩) f p (by rw [Array.length_toList]; exact hz) hD (fun H e => True.intro)
    (fun a x H H' hm e r => by obtain ⟨rfl, rfl⟩ := r; exact hs a _ hm e) hd
/-- over range -/
theorem lcR {lo : Int} {n : Nat} {g : TG} {tt : TT} {te : TE} {vs : List Nat} {σ : L2.St} {H1 : Hp} {D : Addr} {Qd : Hp → Prop} (f : Nat → V) (p : Nat → Bool) (hD : H1 D = none) (hz : n < sizeLine)
    (hs : ∀ i H, i < n → Ext H1 H → ∀ (Q : VK) (Q0 : Hp → Prop), (p i = true → ∀ H4, Ext H H4 → Q (f i) H4) → (p i = false → ∀ H4, Ext H H4 → Q0 H4) →
      g (.int (lo + i)) (wipe σ vs) H fun σ2 H2 => wipe σ2 vs = wipe σ vs ∧ tt σ2 H2 fun b H3 => if b = true then te σ2 H3 Q else Q0 H3)
    (hd : ∀ H', Ext H1 H' → H' D = some (.lst (((List.range n).filter p).map f)) → Qd H') :
    ∃ W : Nat → Nat → Hp → Prop, (∃ m, W 0 m (upd H1 D (.lst []))) ∧ ∀ i m H, W i m H →
      ((Itr lo n).stop i H ∧ Qd H) ∨ ((Itr lo n).go i H ∧ ∃ Nx : Hp → Prop, (∀ H', Nx H' → ∃ m', m' < m ∧ W (i + 1) m' H') ∧ ∀ x H', (Itr lo n).yld i H x H' → g x (wipe σ vs) H' fun σ2 H2 => wipe σ2 vs = wipe σ vs ∧ tt σ2 H2 fun b H3 =>
        if b = true then te σ2 H3 fun y H4 => ∃ acc, H4 D = some (.lst acc) ∧ acc.length < sizeLine ∧ Nx (upd H4 D (.lst (acc ++ [y]))) else Nx H3) :=
  lcG (Y := YFn fun i => .int (lo + (i : Nat))) (G := fun _ => True) (List.range n) (by rw [List.length_range]; exact walk_range) (fun a H x H' => x = .int (lo + (a : Nat)) ∧ H' = H) (fun i H x H' hi y => ⟨i, by rw [List.length_range] at hi; rw [List.getElem?_range hi], y.2, y.1⟩) f p (by rw [List.length_range]; exact hz) hD (fun H e => True.intro)
    (fun a x H H' hm e r => by obtain ⟨rfl, rfl⟩ := r; exact hs a _ (List.mem_range.mp hm) e) hd
theorem filter_tt {α : Type} (l : List α) : l.filter (fun _ => true) = l := List.filter_eq_self.mpr fun _ _ => rfl
theorem lcLy {K : PySem.W.Frag} {a : Addr} {xs : List V} {g : TG} {te : TE} {vs : List Nat} {σ : L2.St} {H1 : Hp} {D : Addr} {Qd : Hp → Prop} (f : V → V) (ha : SqL K H1 a xs) (hD : H1 D = none) (hz : xs.length < sizeLine)
    (hs : ∀ x H, x ∈ xs → Ext H1 H → ∀ (Q : VK), (∀ H4, Ext H H4 → Q (f x) H4) → g x (wipe σ vs) H fun σ2 H2 => wipe σ2 vs = wipe σ vs ∧ te σ2 H2 Q)
    (hd : ∀ H', Ext H1 H' → H' D = some (.lst (xs.map f)) → Qd H') :
    ∃ W : Nat → Nat → Hp → Prop, (∃ m, W 0 m (upd H1 D (.lst []))) ∧ ∀ i m H, W i m H →
      ((Itl K a).stop i H ∧ Qd H) ∨ ((Itl K a).go i H ∧ ∃ Nx : Hp → Prop, (∀ H', Nx H' → ∃ m', m' < m ∧ W (i + 1) m' H') ∧ ∀ x H', (Itl K a).yld i H x H' → g x (wipe σ vs) H' fun σ2 H2 => wipe σ2 vs = wipe σ vs ∧ tYes σ2 H2 fun b H3 =>
        if b = true then te σ2 H3 fun y H4 => ∃ acc, H4 D = some (.lst acc) ∧ acc.length < sizeLine ∧ Nx (upd H4 D (.lst (acc ++ [y]))) else Nx H3) :=
  lcL (tt := tYes) f (fun _ => true) ha hD hz (fun x H hm e Q Q0 k _ => hs x H hm e Q (k rfl)) (fun H' e h => hd H' e (by rw [h, filter_tt]))
theorem lcTy {K : PySem.W.Frag} {a : Addr} {xs : List V} {g : TG} {te : TE} {vs : List Nat} {σ : L2.St} {H1 : Hp} {D : Addr} {Qd : Hp → Prop} (f : V → V) (ha : SqT K H1 a xs) (hD : H1 D = none) (hz : xs.length < sizeLine)
    (hs : ∀ x H, x ∈ xs → Ext H1 H → ∀ (Q : VK), (∀ H4, Ext H H4 → Q (f x) H4) → g x (wipe σ vs) H fun σ2 H2 => wipe σ2 vs = wipe σ vs ∧ te σ2 H2 Q)
    (hd : ∀ H', Ext H1 H' → H' D = some (.lst (xs.map f)) → Qd H') :
    ∃ W : Nat → Nat → Hp → Prop, (∃ m, W 0 m (upd H1 D (.lst []))) ∧ ∀ i m H, W i m H →
      ((Itt K a).stop i H ∧ Qd H) ∨ ((Itt K a).go i H ∧ ∃ Nx : Hp → Prop, (∀ H', Nx H' → ∃ m', m' < m ∧ W (i + 1) m' H') ∧ ∀ x H', (Itt K a).yld i H x H' → g x (wipe σ vs) H' fun σ2 H2 => wipe σ2 vs = wipe σ vs ∧ tYes σ2 H2 fun b H3 =>
        if b = true then te σ2 H3 fun y H4 => ∃ acc, H4 D = some (.lst acc) ∧ acc.length < sizeLine ∧ Nx (upd H4 D (.lst (acc ++ [y]))) else Nx H3) :=
  lcT (tt := tYes) f (fun _ => true) ha hD hz (fun x H hm e Q Q0 k _ => hs x H hm e Q (k rfl)) (fun H' e h => hd H' e (by rw [h, filter_tt]))
theorem lcSy {z : Str} {g : TG} {te : TE} {vs : List Nat} {σ : L2.St} {H1 : Hp} {D : Addr} {Qd : Hp → Prop} (f : Nat → V) (hD : H1 D = none) (hz : z.length < sizeLine)
    (hs : ∀ x H, x ∈ z.cps.toList → Ext H1 H → ∀ (Q : VK), (∀ H4, Ext H H4 → Q (f x) H4) → g (.str ⟨#[x]⟩) (wipe σ vs) H fun σ2 H2 => wipe σ2 vs = wipe σ vs ∧ te σ2 H2 Q)
    (hd : ∀ H', Ext H1 H' → H' D = some (.lst (z.cps.toList.map f)) → Qd H') :
    ∃ W : Nat → Nat → Hp → Prop, (∃ m, W 0 m (upd H1 D (.lst []))) ∧ ∀ i m H, W i m H →
      ((Its z).stop i H ∧ Qd H) ∨ ((Its z).go i H ∧ ∃ Nx : Hp → Prop, (∀ H', Nx H' → ∃ m', m' < m ∧ W (i + 1) m' H') ∧ ∀ x H', (Its z).yld i H x H' → g x (wipe σ vs) H' fun σ2 H2 => wipe σ2 vs = wipe σ vs ∧ tYes σ2 H2 fun b H3 =>
        if b = true then te σ2 H3 fun y H4 => ∃ acc, H4 D = some (.lst acc) ∧ acc.length < sizeLine ∧ Nx (upd H4 D (.lst (acc ++ [y]))) else Nx H3) :=
  lcS (tt := tYes) f (fun _ => true) hD hz (fun x H hm e Q Q0 k _ => hs x H hm e Q (k rfl)) (fun H' e h => hd H' e (by rw [h, filter_tt]))
theorem lcRy {lo : Int} {n : Nat} {g : TG} {te : TE} {vs : List Nat} {σ : L2.St} {H1 : Hp} {D : Addr} {Qd : Hp → Prop} (f : Nat → V) (hD : H1 D = none) (hz : n < sizeLine)
    (hs : ∀ x H, x < n → Ext H1 H → ∀ (Q : VK), (∀ H4, Ext H H4 → Q (f x) H4) → g (.int (lo + x)) (wipe σ vs) H fun σ2 H2 => wipe σ2 vs = wipe σ vs ∧ te σ2 H2 Q)
    (hd : ∀ H', Ext H1 H' → H' D = some (.lst ((List.range n).map f)) → Qd H') :
    ∃ W : Nat → Nat → Hp → Prop, (∃ m, W 0 m (upd H1 D (.lst []))) ∧ ∀ i m H, W i m H →
      ((Itr lo n).stop i H ∧ Qd H) ∨ ((Itr lo n).go i H ∧ ∃ Nx : Hp → Prop, (∀ H', Nx H' → ∃ m', m' < m ∧ W (i + 1) m' H') ∧ ∀ x H', (Itr lo n).yld i H x H' → g x (wipe σ vs) H' fun σ2 H2 => wipe σ2 vs = wipe σ vs ∧ tYes σ2 H2 fun b H3 =>
        if b = true then te σ2 H3 fun y H4 => ∃ acc, H4 D = some (.lst acc) ∧ acc.length < sizeLine ∧ Nx (upd H4 D (.lst (acc ++ [y]))) else Nx H3) :=
  lcR (tt := tYes) f (fun _ => true) hD hz (fun x H hm e Q Q0 k _ => hs x H hm e Q (k rfl)) (fun H' e h => hd H' e (by rw [h, filter_tt]))
end K12
namespace K12
open PySem PySem.Spec PyProof.Rows L2
/-! ### signs -/
theorem lt1 (a c : Nat) : decide (([c] : List Nat) < [a]) = decide (c < a) := by
  rw [decide_eq_decide]
  constructor
  · intro h
    rcases List.cons_lt_cons_iff.mp h with h | ⟨_, h⟩
    · exact h
    · exact absurd h (by simp)
  · exact fun h => List.cons_lt_cons_iff.mpr (.inl h)
theorem le_lo {s : Str} {a : Nat} (c : Nat) (hs : s.cps.toList = [a]) : (!decide ((⟨#[c]⟩ : Str).cps.toList < s.cps.toList)) = decide (a ≤ c) := by
  rw [hs, show (⟨#[c]⟩ : Str).cps.toList = [c] from rfl, lt1]
  by_cases h : c < a
  · rw [decide_eq_true h, decide_eq_false (by omega)]
    rfl
  · rw [decide_eq_false h, decide_eq_true (by omega)]
    rfl
theorem le_hi {s : Str} {a : Nat} (c : Nat) (hs : s.cps.toList = [a]) : (!decide (s.cps.toList < (⟨#[c]⟩ : Str).cps.toList)) = decide (c ≤ a) := by
  rw [hs, show (⟨#[c]⟩ : Str).cps.toList = [c] from rfl, lt1]
  by_cases h : a < c
  · rw [decide_eq_true h, decide_eq_false (by omega)]
    rfl
  · rw [decide_eq_false h, decide_eq_true (by omega)]
    rfl
theorem sa : (Str.ofString "a").cps.toList = [97] := by decide +kernel
theorem sz : (Str.ofString "z").cps.toList = [122] := by decide +kernel
theorem s0 : (Str.ofString "0").cps.toList = [48] := by decide +kernel
theorem s9 : (Str.ofString "9").cps.toList = [57] := by decide +kernel
def inRg (lo hi c : Nat) : Bool := decide (lo ≤ c) && decide (c ≤ hi)
theorem sl_of {n : Nat} (h : n ≤ 100000) : n ≤ sizeLine := Nat.le_trans h (by decide)
theorem sl_lt {n : Nat} (h : n ≤ 100000) : n < sizeLine := Nat.lt_of_le_of_lt h (by decide)
theorem bls {α : Type} (l : List α) (f : α → Bool) : l.map (fun x => V.bl (f x)) = (l.map f).map V.bl := by rw [List.map_map]; rfl
theorem all_id {α : Type} (l : List α) (f : α → Bool) : (l.map f).all id = l.all f := by rw [List.all_map]; rfl
theorem any_id {α : Type} (l : List α) (f : α → Bool) : (l.map f).any id = l.any f := by rw [List.any_map]; rfl
/-- lo <= c <= hi of one sign, as a comprehension's element -/
theorem ch_rg {σ : L2.St} {H : Hp} {i : Nat} {c lo hi : Nat} {s1 s2 : Str} {Q : VK} (hv : σ[i]? = some (some (.str ⟨#[c]⟩))) (h1 : s1.cps.toList = [lo]) (h2 : s2.cps.toList = [hi]) (q : Q (.bl (inRg lo hi c)) H) :
    tChain (fun x y H Q => ∃ i j, x = .str i ∧ y = .str j ∧ Q (.bl (!decide (j.cps.toList < i.cps.toList))) H) (fun x y H Q => ∃ i j, x = .str i ∧ y = .str j ∧ Q (.bl (!decide (j.cps.toList < i.cps.toList))) H) (tC (.str s1)) (tVar i) (tC (.str s2)) σ H Q := by
  refine ⟨_, hv, _, _, rfl, rfl, _, rfl, ?_⟩
  rw [le_lo c h1]
  refine ite2 (fun h => ?_) (fun h => ?_)
  · refine ⟨_, _, rfl, rfl, ?_⟩
    rw [le_hi c h2]
    have e : inRg lo hi c = decide (c ≤ hi) := by unfold inRg; rw [h, Bool.true_and]
    rw [e] at q
    exact q
  · have e : inRg lo hi c = false := by unfold inRg; rw [Bool.eq_false_iff.mpr h, Bool.false_and]
    rw [e] at q
    exact q
abbrev rLE : R2 := rI0 fun i j => .bl (decide (i ≤ j))
abbrev rLT : R2 := rI0 fun i j => .bl (decide (i < j))
section
variable {K : PySem.W.Frag} {H : Hp}
theorem kl_list : PySem.W.kitAny K (.type "list") [.type "list", .type "tuple"] = some true := kitAny_cons (b := true) (kit_ty (by decide +kernel)) (fun h => nomatch h) fun _ => rfl
theorem kl_tuple : PySem.W.kitAny K (.type "tuple") [.type "list", .type "tuple"] = some true := kitAny_cons (b := false) (kit_ty (by decide +kernel)) (fun _ => kitAny_cons (b := true) (kit_ty (by decide +kernel)) (fun h => nomatch h) fun _ => rfl) (fun h => nomatch h)
theorem kl_int : PySem.W.kitAny K (.type "int") [.type "list", .type "tuple"] = some false := kitAny_cons (b := false) (kit_ty (by decide +kernel)) (fun _ => kitAny_cons (b := false) (kit_ty (by decide +kernel)) (fun _ => kitAny_nil) fun h => nomatch h) (fun h => nomatch h)
theorem kl_str : PySem.W.kitAny K (.type "str") [.type "list", .type "tuple"] = some false := kitAny_cons (b := false) (kit_ty (by decide +kernel)) (fun _ => kitAny_cons (b := false) (kit_ty (by decide +kernel)) (fun _ => kitAny_nil) fun h => nomatch h) (fun h => nomatch h)
theorem kl_non : PySem.W.kitAny K (.type "NoneType") [.type "list", .type "tuple"] = some false := kitAny_cons (b := false) (kit_ty (by decide +kernel)) (fun _ => kitAny_cons (b := false) (kit_ty (by decide +kernel)) (fun _ => kitAny_nil) fun h => nomatch h) (fun h => nomatch h)
end
section
variable {P : Program} {w : World} {K : PySem.W.Frag} {mg : Str → Option Value} {base : Heap}
/-! ### is_name -/
abbrev s_is_name : Stmt := top 8
theorem sc_is_name : FnScope ["value", "character"] ["value"] (defScope s_is_name) := ⟨rfl, rfl, rfl, by decide +kernel, rfl, by decide +kernel, by decide +kernel⟩
def lenIn (n : Nat) (lo hi : Int) : Bool := decide (lo ≤ (n : Int)) && decide ((n : Int) ≤ hi)
def isName (z : Str) : Bool := lenIn z.length 1 8 && z.cps.toList.all (inRg 97 122)
def sp_is_name : Sp := fun vs H Q _ => ∃ z : Str, vs = [.str z] ∧ z.length ≤ 100000 ∧ ∀ H', Ext H H' → Q (.bl (isName z)) H'
theorem c_is_name (T : Txt K mg) : Cal P w K mg base 1 "is_name" sp_is_name := by
  refine T.d_is_name.cal sc_is_name (fun _ _ _ _ _ _ us hl => match us, hl with | [_], _ => rfl) (fun vs H Q E h => ?_) (fun f cdv A outer s H vs Q E hr h => ?_)
  · obtain ⟨z, rfl, _⟩ := h
    rfl
  · obtain ⟨z, rfl, hz, k⟩ := h
    refine ⟨_, (pss_cons (ps_if (pt_not (pt_val (pe_callB (call_isiK' (K := K)) rfl T.n_isinstance bt_isinstance (pa_cons (pv 0) (pa_cons (pe_bltn (v := .ty "str") rfl T.n_str bt_str rfl) pa_nil))))) (pss_one (ps_ret pe_bl)) pss_nil)
  (pss_cons (ps_if (pt_not (pt_chain op_le op_le pe_int (pe_callB call_len_str rfl T.n_len bt_len (pa_cons (pv 0) pa_nil)) (C8.pe_gc rfl T.g_LONGEST_NAME))) (pss_one (ps_ret pe_bl)) pss_nil)
  (pss_one (ps_ret (pe_callB (cr_allK (K := K) rfl) rfl T.n_all bt_all (pa_cons (pe_lc (own := [("character", 1)]) (g := gName 1) (tt := tYes) rfl sc_is_name.nd (pi_str (pv 0)) (blkOk_by (by kernel_rfl)) (fun _ _ _ _ _ => (pg_name (i := 1) sc_is_name.nd rfl (Or.inl rfl))) (fun _ _ _ _ _ => pts_nil) (fun _ _ _ _ _ => (pe_chain op_le_str op_le_str pe_str (pv 1) pe_str))) pa_nil)))))), ?_⟩
    refine ⟨_, rfl, _, _, _, _, true, rfl, .ty _, TyN.tyX (.str z), kit_ty (by decide +kernel), _, rfl, iteF ?_⟩
    unfold isName at k
    refine ⟨_, rfl, _, rfl, sl_of hz, _, _, rfl, rfl, _, rfl, ?_⟩
    try rw [List.length_map]
    refine ite2 (fun hA => ?hT) (fun hA => ?hF)
    case hF =>
      refine ⟨_, rfl, iteT ?_⟩
      have hk : lenIn (z.length) 1 8 = false := by
        have hA' := Bool.eq_false_iff.mpr hA
        unfold lenIn
        rw [hA', Bool.false_and]
      rw [hk, Bool.false_and] at k
      exact k _ Ext.rfl'
    case hT =>
    refine ⟨_, _, rfl, rfl, _, rfl, ?_⟩
    try rw [List.length_map]
    cases hB : decide (((z.length : Nat) : Int) ≤ 8) with
    | false =>
      have hk : lenIn (z.length) 1 8 = false := by
        unfold lenIn
        rw [hB, Bool.and_false]
      rw [hk, Bool.false_and] at k
      exact iteT (k _ Ext.rfl')
    | true =>
    have hk : lenIn (z.length) 1 8 = true := by
      unfold lenIn
      rw [hA, hB]
      rfl
    rw [hk, Bool.true_and] at k
    refine iteF ?_
    refine ⟨_, rfl, _, rfl, fun D hD => lcSy (fun c => V.bl (inRg 97 122 c)) hD (sl_lt hz) (fun c H' _ e Q1 k1 => ⟨rfl, ch_rg rfl sa sz (k1 _ Ext.rfl')⟩) (fun H' e hl => ?_)⟩
    refine ⟨D, z.cps.toList.map (inRg 97 122), rfl, SqL.of ?_, ?_⟩
    · rw [hl, bls]
    · rw [all_id]
      exact k _ e
/-! ### _is_text -/
abbrev s__is_text : Stmt := top 29
theorem sc__is_text : FnScope ["value", "token"] ["value"] (defScope s__is_text) := ⟨rfl, rfl, rfl, by decide +kernel, rfl, by decide +kernel, by decide +kernel⟩
def isText (ns : List Int) : Bool := lenIn ns.length 1 16 && ns.all fun n => isNum (some n) 1 5
def sp__is_text (K : PySem.W.Frag) : Sp := fun vs H Q _ => ∃ (a : Addr) (ns : List Int), vs = [.ref a] ∧ SqL K H a (ns.map V.int) ∧ ns.length ≤ 100000 ∧ ∀ H', Ext H H' → Q (.bl (isText ns)) H'
theorem c__is_text (T : Txt K mg) : Cal P w K mg base 2 "_is_text" (sp__is_text K) := by
  refine T.d__is_text.cal sc__is_text (fun _ _ _ _ _ _ us hl => match us, hl with | [_], _ => rfl) (fun vs H Q E h => ?_) (fun f cdv A outer s H vs Q E hr h => ?_)
  · obtain ⟨a, ns, rfl, _⟩ := h
    rfl
  · obtain ⟨a, ns, rfl, hS, hz, k⟩ := h
    refine ⟨_, (pss_cons (ps_if (PW.pt (pw_or (pt_not (pt_val (pe_callB (call_isiTK (K := K)) rfl T.n_isinstance bt_isinstance (pa_cons (pv 0) (pa_cons (pe_tup (pa_cons (pe_bltn (v := .ty "list") rfl T.n_list bt_list rfl) (pa_cons (pe_bltn (v := .ty "tuple") rfl T.n_tuple bt_tuple rfl) pa_nil))) pa_nil))))) (pw_or1 (pt_not (pt_chain op_le op_le pe_int (pe_callB (call_lenK (K := K)) rfl T.n_len bt_len (pa_cons (pv 0) pa_nil)) (C8.pe_gc rfl T.g_MOST_TEXT)))))) (pss_one (ps_ret pe_bl)) pss_nil)
  (pss_one (ps_ret (pe_callB (cr_allK (K := K) rfl) rfl T.n_all bt_all (pa_cons (pe_lc (own := [("token", 1)]) (g := gName 1) (tt := tYes) rfl sc__is_text.nd (pi_listK (K := K) (pv 0)) (blkOk_by (by kernel_rfl)) (fun _ _ _ _ _ => (pg_name (i := 1) sc__is_text.nd rfl (Or.inl rfl))) (fun _ _ _ _ _ => pts_nil) (fun _ _ _ _ _ => (pe_c (c_is_number T) hr (by decide) rfl (pa_cons (pv 1) (pa_cons pe_int (pa_cons pe_int pa_nil)))))) pa_nil))))), ?_⟩
    refine ⟨_, rfl, (by show 2 ≤ sizeLine; decide), fun p hp => ⟨_, p, _, _, _, _, rfl, upd_same, .cons (.ty _) (.cons (.ty _) .nil), TyN.tyX (TyN.ext (.lst hS) (Ext.upd hp)), kl_list, ⟨_, rfl, iteF ?_⟩⟩⟩
    have e0 := Ext.upd (o := .tup [.ty "list", .ty "tuple"]) hp
    revert e0
    generalize upd H p (.tup [.ty "list", .ty "tuple"]) = H1
    intro e0
    unfold isText at k
    refine ⟨_, rfl, _, _, rfl, .inl (hS.ext e0), _, _, rfl, rfl, _, rfl, ?_⟩
    try rw [List.length_map]
    refine ite2 (fun hA => ?hT) (fun hA => ?hF)
    case hF =>
      refine ⟨_, rfl, iteT ?_⟩
      have hk : lenIn (ns.length) 1 16 = false := by
        have hA' := Bool.eq_false_iff.mpr hA
        unfold lenIn
        rw [hA', Bool.false_and]
      rw [hk, Bool.false_and] at k
      exact k _ e0
    case hT =>
    refine ⟨_, _, rfl, rfl, _, rfl, ?_⟩
    try rw [List.length_map]
    cases hB : decide (((ns.length : Nat) : Int) ≤ 16) with
    | false =>
      have hk : lenIn (ns.length) 1 16 = false := by
        unfold lenIn
        rw [hB, Bool.and_false]
      rw [hk, Bool.false_and] at k
      exact iteT (k _ e0)
    | true =>
    have hk : lenIn (ns.length) 1 16 = true := by
      unfold lenIn
      rw [hA, hB]
      rfl
    rw [hk, Bool.true_and] at k
    refine iteF ?_
    refine ⟨_, rfl, a, rfl, ⟨_, hS.ext e0⟩, fun D hD => lcLy (fun v => V.bl (isNum (match v with | .int n => some n | _ => none) 1 5)) (hS.ext e0) hD (by rw [List.length_map]; exact sl_lt hz) (fun v H' hm e Q1 k1 => ⟨rfl, ?_⟩) (fun H' e hl => ?_)⟩
    · obtain ⟨n, _, rfl⟩ := List.mem_map.mp hm
      exact ⟨_, rfl, some n, 1, 5, rfl, k1 _ Ext.rfl'⟩
    · refine ⟨D, ns.map fun n => isNum (some n) 1 5, rfl, SqL.of ?_, ?_⟩
      · rw [hl, List.map_map, List.map_map]
        rfl
      · rw [all_id]
        exact k _ (e0.trans e)
end
end K12
namespace K12
open PySem PySem.Spec PyProof.Rows L2
/-! ### lists that are told item by item -/
theorem prd_len {α β : Type} {R : α → β → Prop} : ∀ {xs : List α} {ys : List β}, Paired R xs ys → xs.length = ys.length
  | _, _, .nil => rfl
  | _, _, .cons _ t => congrArg Nat.succ (prd_len t)
theorem prd_mem {α β : Type} {R : α → β → Prop} : ∀ {xs : List α} {ys : List β}, Paired R xs ys → ∀ {x : α} {y : β}, (x, y) ∈ xs.zip ys → R x y
  | _, _, .nil, _, _, h => by cases h
  | _, _, .cons r t, x, y, h => by
    rcases List.mem_cons.mp h with h | h
    · cases h
      exact r
    · exact prd_mem t h
theorem prd_at {α β : Type} {R : α → β → Prop} : ∀ {xs : List α} {ys : List β}, Paired R xs ys → ∀ {i : Nat} {x : α}, xs[i]? = some x → ∃ y, ys[i]? = some y ∧ (xs.zip ys)[i]? = some (x, y) ∧ R x y
  | _, _, .nil, _, _, h => by cases h
  | a :: xs, b :: ys, .cons r t, 0, x, h => by
    have e : a = x := Option.some.inj h
    subst e
    exact ⟨b, rfl, rfl, r⟩
  | a :: xs, b :: ys, .cons r t, i + 1, x, h => prd_at t (i := i) (x := x) h
theorem prd_at' {α β : Type} {R : α → β → Prop} : ∀ {xs : List α} {ys : List β}, Paired R xs ys → ∀ {i : Nat} {y : β}, ys[i]? = some y → ∃ x, xs[i]? = some x ∧ R x y
  | _, _, .nil, _, _, h => by cases h
  | a :: xs, b :: ys, .cons r t, 0, x, h => by
    have e : b = x := Option.some.inj h
    subst e
    exact ⟨a, rfl, r⟩
  | a :: xs, b :: ys, .cons r t, i + 1, x, h => prd_at' t (i := i) (y := x) h
theorem prd_snd {α β γ : Type} {R : α → β → Prop} (f : β → γ) : ∀ {xs : List α} {ys : List β}, Paired R xs ys → (xs.zip ys).map (fun q => f q.2) = ys.map f
  | _, _, .nil => rfl
  | _, _, .cons _ t => congrArg (List.cons _) (prd_snd f t)
theorem prd_mono {α β : Type} {R S : α → β → Prop} (h : ∀ a b, R a b → S a b) : ∀ {xs : List α} {ys : List β}, Paired R xs ys → Paired S xs ys
  | _, _, .nil => .nil
  | _, _, .cons r t => .cons (h _ _ r) (prd_mono h t)
theorem prd_app {α β : Type} {R : α → β → Prop} : ∀ {xs xs' : List α} {ys ys' : List β}, Paired R xs ys → Paired R xs' ys' → Paired R (xs ++ xs') (ys ++ ys')
  | _, _, _, _, .nil, q => q
  | _, _, _, _, .cons r t, q => .cons r (prd_app t q)
/-- a comprehension over a list (a tuple) whose items are told -/
theorem lcPLy {β : Type} {Rel : V → β → Prop} {K : PySem.W.Frag} {a : Addr} {xs : List V} {rows : List β} {g : TG} {te : TE} {vs : List Nat} {σ : L2.St} {H1 : Hp} {D : Addr} {Qd : Hp → Prop} (hp : Paired Rel xs rows) (f : β → V) (ha : SqL K H1 a xs) (hD : H1 D = none) (hz : xs.length < sizeLine)
    (hs : ∀ x r H, r ∈ rows → Rel x r → Ext H1 H → ∀ (Q : VK), (∀ H4, Ext H H4 → Q (f r) H4) → g x (wipe σ vs) H fun σ2 H2 => wipe σ2 vs = wipe σ vs ∧ te σ2 H2 Q)
    (hd : ∀ H', Ext H1 H' → H' D = some (.lst (rows.map f)) → Qd H') :
    ∃ W : Nat → Nat → Hp → Prop, (∃ m, W 0 m (upd H1 D (.lst []))) ∧ ∀ i m H, W i m H →
      ((Itl K a).stop i H ∧ Qd H) ∨ ((Itl K a).go i H ∧ ∃ Nx : Hp → Prop, (∀ H', Nx H' → ∃ m', m' < m ∧ W (i + 1) m' H') ∧ ∀ x H', (Itl K a).yld i H x H' → g x (wipe σ vs) H' fun σ2 H2 => wipe σ2 vs = wipe σ vs ∧ tYes σ2 H2 fun b H3 =>
        if b = true then te σ2 H3 fun y H4 => ∃ acc, H4 D = some (.lst acc) ∧ acc.length < sizeLine ∧ Nx (upd H4 D (.lst (acc ++ [y]))) else Nx H3) := by
  have hl : (xs.zip rows).length = xs.length := by rw [List.length_zip, prd_len hp, Nat.min_self]
  refine lcG (Y := YAt xs) (G := fun H => SqL K H a xs) (tt := tYes) (xs.zip rows) (by rw [hl]; exact walk_list) (fun q H x H' => x = q.1 ∧ H' = H) (fun i H x H' _ y => ?_) (fun q => f q.2) (fun _ => true) (by rw [hl]; exact hz) hD (fun H e => ha.ext e)
    (fun q x H H' hm e r Q Q0 k _ => ?_) (fun H' e h => hd H' e (by rw [h, filter_tt, prd_snd f hp]))
  · obtain ⟨r, h1, h2, _⟩ := prd_at hp y.2
    exact ⟨_, h2, rfl, y.1⟩
  · obtain ⟨v, r'⟩ := q
    obtain ⟨rfl, rfl⟩ := r
    exact hs _ r' _ (List.of_mem_zip hm).2 (prd_mem hp hm) e Q (k rfl)
theorem lcPTy {β : Type} {Rel : V → β → Prop} {K : PySem.W.Frag} {a : Addr} {xs : List V} {rows : List β} {g : TG} {te : TE} {vs : List Nat} {σ : L2.St} {H1 : Hp} {D : Addr} {Qd : Hp → Prop} (hp : Paired Rel xs rows) (f : β → V) (ha : SqT K H1 a xs) (hD : H1 D = none) (hz : xs.length < sizeLine)
    (hs : ∀ x r H, r ∈ rows → Rel x r → Ext H1 H → ∀ (Q : VK), (∀ H4, Ext H H4 → Q (f r) H4) → g x (wipe σ vs) H fun σ2 H2 => wipe σ2 vs = wipe σ vs ∧ te σ2 H2 Q)
    (hd : ∀ H', Ext H1 H' → H' D = some (.lst (rows.map f)) → Qd H') :
    ∃ W : Nat → Nat → Hp → Prop, (∃ m, W 0 m (upd H1 D (.lst []))) ∧ ∀ i m H, W i m H →
      ((Itt K a).stop i H ∧ Qd H) ∨ ((Itt K a).go i H ∧ ∃ Nx : Hp → Prop, (∀ H', Nx H' → ∃ m', m' < m ∧ W (i + 1) m' H') ∧ ∀ x H', (Itt K a).yld i H x H' → g x (wipe σ vs) H' fun σ2 H2 => wipe σ2 vs = wipe σ vs ∧ tYes σ2 H2 fun b H3 =>
        if b = true then te σ2 H3 fun y H4 => ∃ acc, H4 D = some (.lst acc) ∧ acc.length < sizeLine ∧ Nx (upd H4 D (.lst (acc ++ [y]))) else Nx H3) := by
  have hl : (xs.zip rows).length = xs.length := by rw [List.length_zip, prd_len hp, Nat.min_self]
  refine lcG (Y := YAt xs) (G := fun H => SqT K H a xs) (tt := tYes) (xs.zip rows) (by rw [hl]; exact walk_tup) (fun q H x H' => x = q.1 ∧ H' = H) (fun i H x H' _ y => ?_) (fun q => f q.2) (fun _ => true) (by rw [hl]; exact hz) hD (fun H e => ha.ext e)
    (fun q x H H' hm e r Q Q0 k _ => ?_) (fun H' e h => hd H' e (by rw [h, filter_tt, prd_snd f hp]))
  · obtain ⟨r, h1, h2, _⟩ := prd_at hp y.2
    exact ⟨_, h2, rfl, y.1⟩
  · obtain ⟨v, r'⟩ := q
    obtain ⟨rfl, rfl⟩ := r
    exact hs _ r' _ (List.of_mem_zip hm).2 (prd_mem hp hm) e Q (k rfl)
theorem prd_map {α β : Type} (f : β → α) : ∀ l : List β, Paired (fun v r => v = f r) (l.map f) l
  | [] => .nil
  | _ :: l => .cons rfl (prd_map f l)
theorem at0 {α : Type} {x : α} {xs : List α} : atI (x :: xs) 0 = some x := atI_nat (j := 0) rfl
/-! ### tables -/
abbrev Row := List (Option Int)
def RowL (K : PySem.W.Frag) (H : Hp) (v : V) (r : Row) : Prop := ∃ p, v = .ref p ∧ SqL K H p (r.map optI)
def RowT (K : PySem.W.Frag) (H : Hp) (v : V) (r : Row) : Prop := ∃ p, v = .ref p ∧ SqT K H p (r.map optI)
def TabL (K : PySem.W.Frag) (H : Hp) (a : Addr) (rows : List Row) : Prop := ∃ xs, SqL K H a xs ∧ Paired (RowL K H) xs rows
def TabT (K : PySem.W.Frag) (H : Hp) (a : Addr) (rows : List Row) : Prop := ∃ xs, SqT K H a xs ∧ Paired (RowT K H) xs rows
section
variable {K : PySem.W.Frag} {H H' : Hp}
theorem RowL.ext {v : V} {r : Row} (h : RowL K H v r) (e : Ext H H') : RowL K H' v r := by
  obtain ⟨p, h1, h2⟩ := h
  exact ⟨p, h1, h2.ext e⟩
theorem RowT.ext {v : V} {r : Row} (h : RowT K H v r) (e : Ext H H') : RowT K H' v r := by
  obtain ⟨p, h1, h2⟩ := h
  exact ⟨p, h1, h2.ext e⟩
theorem TabL.ext {a : Addr} {rows : List Row} (h : TabL K H a rows) (e : Ext H H') : TabL K H' a rows := by
  obtain ⟨xs, h1, h2⟩ := h
  exact ⟨xs, h1.ext e, prd_mono (fun _ _ z => z.ext e) h2⟩
theorem TabT.ext {a : Addr} {rows : List Row} (h : TabT K H a rows) (e : Ext H H') : TabT K H' a rows := by
  obtain ⟨xs, h1, h2⟩ := h
  exact ⟨xs, h1.ext e, prd_mono (fun _ _ z => z.ext e) h2⟩
end
section
variable {P : Program} {w : World} {K : PySem.W.Frag} {mg : Str → Option Value} {base : Heap}
/-! ### _is_line -/
abbrev s__is_line : Stmt := top 17
theorem sc__is_line : FnScope ["line", "letters", "states", "following"] ["line", "letters", "states"] (defScope s__is_line) := ⟨rfl, rfl, rfl, by decide +kernel, rfl, by decide +kernel, by decide +kernel⟩
def cellOk (states : Int) : Option Int → Bool
  | none => true
  | some n => isNum (some n) 0 (states - 1)
def isLine (r : Row) (letters states : Int) : Bool := decide ((r.length : Int) = letters) && r.all (cellOk states)
def sp__is_line (K : PySem.W.Frag) : Sp := fun vs H Q _ => ∃ (p : Addr) (r : Row) (letters states : Int), vs = [.ref p, .int letters, .int states] ∧ SqL K H p (r.map optI) ∧ r.length ≤ 100000 ∧ ∀ H', Ext H H' → Q (.bl (isLine r letters states)) H'
theorem c__is_line (T : Txt K mg) : Cal P w K mg base 2 "_is_line" (sp__is_line K) := by
  refine T.d__is_line.cal sc__is_line (fun _ _ _ _ _ _ us hl => match us, hl with | [_, _, _], _ => rfl) (fun vs H Q E h => ?_) (fun f cdv A outer s H vs Q E hr h => ?_)
  · obtain ⟨p, r, letters, states, rfl, _⟩ := h
    rfl
  · obtain ⟨p, r, letters, states, rfl, hS, hz, k⟩ := h
    refine ⟨_, (pss_cons (ps_if (pt_cmpR op_ne (pe_callB (call_lenK (K := K)) rfl T.n_len bt_len (pa_cons (pv 0) pa_nil)) (pv 1) (nomark _)) (pss_one (ps_ret pe_bl)) pss_nil)
  (pss_one (ps_ret (pe_callB (cr_allK (K := K) rfl) rfl T.n_all bt_all (pa_cons (pe_lc (own := [("following", 3)]) (g := gName 3) (tt := tYes) rfl sc__is_line.nd (pi_listK (K := K) (pv 0)) (blkOk_by (by kernel_rfl)) (fun _ _ _ _ _ => (pg_name (i := 3) sc__is_line.nd rfl (Or.inl rfl))) (fun _ _ _ _ _ => pts_nil) (fun _ _ _ _ _ => (pe_or (pe_cmpR op_isN (pv 3) pe_non (nomark _)) (pe_one (pe_c (c_is_number T) hr (by decide) rfl (pa_cons (pv 3) (pa_cons pe_int (pa_cons (pe_op op_sub (pv 2) pe_int) pa_nil)))))))) pa_nil))))), ?_⟩
    refine ⟨_, rfl, _, _, rfl, .inl hS, _, rfl, rfl, _, rfl, ?_⟩
    rw [List.length_map, dec_int]
    unfold isLine at k
    cases hA : ((r.length : Int) == letters) with
    | false =>
      have hk : decide ((r.length : Int) = letters) = false := by rw [← hA, Bool.beq_eq_decide_eq]
      rw [hk, Bool.false_and] at k
      exact iteT (k _ Ext.rfl')
    | true =>
      have hk : decide ((r.length : Int) = letters) = true := by rw [← hA, Bool.beq_eq_decide_eq]
      rw [hk, Bool.true_and] at k
      refine iteF ?_
      refine ⟨_, rfl, p, rfl, ⟨_, hS⟩, fun D hD => lcPLy (prd_map optI r) (fun o => V.bl (cellOk states o)) hS hD (by rw [List.length_map]; exact sl_lt hz) (fun x o H' hm hx e Q1 k1 => ⟨rfl, ?_⟩) (fun H' e hl => ?_)⟩
      · subst hx
        cases o with
        | none => exact ⟨_, rfl, rfl, _, rfl, iteT (k1 _ Ext.rfl')⟩
        | some n => exact ⟨_, rfl, rfl, _, rfl, iteF ⟨_, rfl, _, rfl, _, _, rfl, rfl, some n, 0, states - 1, rfl, k1 _ Ext.rfl'⟩⟩
      · refine ⟨D, r.map (cellOk states), rfl, SqL.of ?_, ?_⟩
        · rw [hl, bls]
        · rw [all_id]
          exact k _ e
end
end K12
namespace K12
open PySem PySem.Spec PyProof.Rows L2
section
variable {P : Program} {w : World} {K : PySem.W.Frag} {mg : Str → Option Value} {base : Heap}
/-! ### _is_table -/
abbrev s__is_table : Stmt := top 16
theorem sc__is_table : FnScope ["value", "letters", "line"] ["value"] (defScope s__is_table) := ⟨rfl, rfl, rfl, by decide +kernel, rfl, by decide +kernel, by decide +kernel⟩
def isTable (rows : List Row) : Bool := lenIn rows.length 1 6 && (lenIn (rows.headD []).length 1 5 && rows.all fun r => isLine r (rows.headD []).length rows.length)
def sp__is_table (K : PySem.W.Frag) : Sp := fun vs H Q _ => ∃ (a : Addr) (rows : List Row), vs = [.ref a] ∧ TabL K H a rows ∧ rows.length ≤ 100000 ∧ (∀ r ∈ rows, r.length ≤ 100000) ∧ ∀ H', Ext H H' → Q (.bl (isTable rows)) H'
theorem c__is_table (T : Txt K mg) : Cal P w K mg base 3 "_is_table" (sp__is_table K) := by
  refine T.d__is_table.cal sc__is_table (fun _ _ _ _ _ _ us hl => match us, hl with | [_], _ => rfl) (fun vs H Q E h => ?_) (fun f cdv A outer s H vs Q E hr h => ?_)
  · obtain ⟨a, rows, rfl, _⟩ := h
    rfl
  · obtain ⟨a, rows, rfl, hT, hz, hr2, k⟩ := h
    refine ⟨_, (pss_cons (ps_if (PW.pt (pw_or (pt_not (pt_val (pe_callB (call_isiTK (K := K)) rfl T.n_isinstance bt_isinstance (pa_cons (pv 0) (pa_cons (pe_tup (pa_cons (pe_bltn (v := .ty "list") rfl T.n_list bt_list rfl) (pa_cons (pe_bltn (v := .ty "tuple") rfl T.n_tuple bt_tuple rfl) pa_nil))) pa_nil))))) (pw_or1 (pt_not (pt_chain op_le op_le pe_int (pe_callB (call_lenK (K := K)) rfl T.n_len bt_len (pa_cons (pv 0) pa_nil)) (C8.pe_gc rfl T.g_MOST_STATES)))))) (pss_one (ps_ret pe_bl)) pss_nil)
  (pss_cons (ps_if (pt_not (pt_val (pe_callB (cr_allK (K := K) rfl) rfl T.n_all bt_all (pa_cons (pe_lc (own := [("line", 2)]) (g := gName 2) (tt := tYes) rfl sc__is_table.nd (pi_listK (K := K) (pv 0)) (blkOk_by (by kernel_rfl)) (fun _ _ _ _ _ => (pg_name (i := 2) sc__is_table.nd rfl (Or.inl rfl))) (fun _ _ _ _ _ => pts_nil) (fun _ _ _ _ _ => (pe_callB (call_isiTK (K := K)) rfl T.n_isinstance bt_isinstance (pa_cons (pv 2) (pa_cons (pe_tup (pa_cons (pe_bltn (v := .ty "list") rfl T.n_list bt_list rfl) (pa_cons (pe_bltn (v := .ty "tuple") rfl T.n_tuple bt_tuple rfl) pa_nil))) pa_nil))))) pa_nil)))) (pss_one (ps_ret pe_bl)) pss_nil)
  (pss_cons (ps_set (i := 1) sc__is_table.nd rfl (Or.inr rfl) (pe_callB (call_lenK (K := K)) rfl T.n_len bt_len (pa_cons (pe_ix (ix_listK (K := K)) (pv 0) pe_int (fun _ _ => rfl)) pa_nil)))
  (pss_cons (ps_if (pt_not (pt_chain op_le op_le pe_int (pv 1) (C8.pe_gc rfl T.g_MOST_LETTERS))) (pss_one (ps_ret pe_bl)) pss_nil)
  (pss_one (ps_ret (pe_callB (cr_allK (K := K) rfl) rfl T.n_all bt_all (pa_cons (pe_lc (own := [("line", 2)]) (g := gName 2) (tt := tYes) rfl sc__is_table.nd (pi_listK (K := K) (pv 0)) (blkOk_by (by kernel_rfl)) (fun _ _ _ _ _ => (pg_name (i := 2) sc__is_table.nd rfl (Or.inl rfl))) (fun _ _ _ _ _ => pts_nil) (fun _ _ _ _ _ => (pe_c (c__is_line T) hr (by decide) rfl (pa_cons (pv 2) (pa_cons (pv 1) (pa_cons (pe_callB (call_lenK (K := K)) rfl T.n_len bt_len (pa_cons (pv 0) pa_nil)) pa_nil)))))) pa_nil)))))))), ?_⟩
    obtain ⟨xs, hx, hP⟩ := hT
    have hl := prd_len hP
    refine ⟨_, rfl, (by show 2 ≤ sizeLine; decide), fun p hp => ⟨_, p, _, _, _, _, rfl, upd_same, .cons (.ty _) (.cons (.ty _) .nil), TyN.tyX (TyN.ext (.lst hx) (Ext.upd hp)), kl_list, ⟨_, rfl, iteF ?_⟩⟩⟩
    have e0 := Ext.upd (o := .tup [.ty "list", .ty "tuple"]) hp
    revert e0
    generalize upd H p (.tup [.ty "list", .ty "tuple"]) = H1
    intro e0
    unfold isTable at k
    rw [← hl] at k
    refine ⟨_, rfl, _, _, rfl, .inl (hx.ext e0), _, _, rfl, rfl, _, rfl, ?_⟩
    try rw [List.length_map]
    refine ite2 (fun hA => ?hT) (fun hA => ?hF)
    case hF =>
      refine ⟨_, rfl, iteT ?_⟩
      have hk : lenIn (xs.length) 1 6 = false := by
        have hA' := Bool.eq_false_iff.mpr hA
        unfold lenIn
        rw [hA', Bool.false_and]
      rw [hk, Bool.false_and] at k
      exact k _ e0
    case hT =>
    refine ⟨_, _, rfl, rfl, _, rfl, ?_⟩
    try rw [List.length_map]
    cases hB : decide (((xs.length : Nat) : Int) ≤ 6) with
    | false =>
      have hk : lenIn (xs.length) 1 6 = false := by
        unfold lenIn
        rw [hB, Bool.and_false]
      rw [hk, Bool.false_and] at k
      exact iteT (k _ e0)
    | true =>
    have hk : lenIn (xs.length) 1 6 = true := by
      unfold lenIn
      rw [hA, hB]
      rfl
    rw [hk, Bool.true_and] at k
    refine iteF ?_
    cases hP with
    | nil => exact absurd hA (by decide)
    | @cons v0 r0 xs' rows' h0 ht =>
      obtain ⟨p0, rfl, hq0⟩ := h0
      have hp' : Paired (RowL K H) (V.ref p0 :: xs') (r0 :: rows') := .cons ⟨p0, rfl, hq0⟩ ht
      have hxz : (V.ref p0 :: xs').length < sizeLine := by rw [hl]; exact sl_lt hz
      refine ⟨_, rfl, a, rfl, ⟨_, hx.ext e0⟩, fun D hD => lcPLy hp' (fun _ => V.bl true) (hx.ext e0) hD hxz (fun x o H' hm hx1 e Q1 k1 => ⟨rfl, ?_⟩) (fun H2 e2 hl2 => ?_)⟩
      · obtain ⟨p1, rfl, hq1⟩ := hx1
        exact ⟨_, rfl, (by show 2 ≤ sizeLine; decide), fun p hp => ⟨_, p, _, _, _, _, rfl, upd_same, .cons (.ty _) (.cons (.ty _) .nil), TyN.tyX (TyN.ext (.lst ((hq1.ext e0).ext e)) (Ext.upd hp)), kl_list, k1 _ (Ext.upd hp)⟩⟩
      · have e02 := e0.trans e2
        refine ⟨D, (r0 :: rows').map (fun _ => true), rfl, SqL.of (by rw [hl2, bls]), ?_⟩
        have ea : ((r0 :: rows').map (fun _ => true)).all id = true := by
          rw [all_id]
          exact List.all_eq_true.mpr fun _ _ => rfl
        rw [ea]
        refine ⟨_, rfl, iteF ?_⟩
        refine ⟨_, rfl, _, _, _, _, rfl, rfl, hx.ext e02, at0, _, _, rfl, .inl (hq0.ext e02), ?_⟩
        rw [List.length_map]
        have kk : ∀ H', Ext H H' → Q (V.bl (lenIn r0.length 1 5 && (r0 :: rows').all fun r => isLine r r0.length (V.ref p0 :: xs').length)) H' := k
        clear k
        refine ⟨_, rfl, _, _, rfl, rfl, _, rfl, ?_⟩
        try rw [List.length_map]
        refine ite2 (fun hA => ?hT) (fun hA => ?hF)
        case hF =>
          refine ⟨_, rfl, iteT ?_⟩
          have hk : lenIn (r0.length) 1 5 = false := by
            have hA' := Bool.eq_false_iff.mpr hA
            unfold lenIn
            rw [hA', Bool.false_and]
          rw [hk, Bool.false_and] at kk
          exact kk _ e02
        case hT =>
        refine ⟨_, _, rfl, rfl, _, rfl, ?_⟩
        try rw [List.length_map]
        cases hB : decide (((r0.length : Nat) : Int) ≤ 5) with
        | false =>
          have hk : lenIn (r0.length) 1 5 = false := by
            unfold lenIn
            rw [hB, Bool.and_false]
          rw [hk, Bool.false_and] at kk
          exact iteT (kk _ e02)
        | true =>
        have hk : lenIn (r0.length) 1 5 = true := by
          unfold lenIn
          rw [hA, hB]
          rfl
        rw [hk, Bool.true_and] at kk
        refine iteF ?_
        refine ⟨_, rfl, a, rfl, ⟨_, hx.ext e02⟩, fun D2 hD2 => lcPLy hp' (fun r => V.bl (isLine r r0.length (V.ref p0 :: xs').length)) (hx.ext e02) hD2 hxz (fun x r H' hm hx1 e Q1 k1 => ⟨rfl, ?_⟩) (fun H3 e3 hl3 => ?_)⟩
        · obtain ⟨p1, rfl, hq1⟩ := hx1
          exact ⟨_, rfl, _, rfl, _, rfl, _, _, rfl, .inl ((hx.ext e02).ext e), p1, r, _, _, rfl, (hq1.ext e02).ext e, hr2 r hm, k1⟩
        · refine ⟨D2, (r0 :: rows').map (fun r => isLine r r0.length (V.ref p0 :: xs').length), rfl, SqL.of (by rw [hl3, bls]), ?_⟩
          rw [all_id]
          exact kk _ (e02.trans e3)
end
end K12
namespace K12
open PySem PySem.Spec PyProof.Rows L2
/-! ### enumerate(tuple) -/
set_option maxHeartbeats 2000000 in
theorem meets_enumT {vv : Value} {oo : Obj} {PH : Heap → Prop} (B : Begins vv oo PH) :
    Meets (Builtin.«enumerate.__new__» ⟨[.type "enumerate", vv], []⟩) (fun _ R s => PH s.heap ∧
      R (.ok (.ret (.ref (s.heap.push oo).objs.size))) { s with heap := (s.heap.push oo).push { cls := .type "enumerate", data := .fields #[.none, .bool false, .ref s.heap.objs.size, rawInt 0, .none, .none] } }) :=
  .of_wp fun prog w A R s hyp => by
    obtain ⟨hp, g, d, tk, os⟩ := s
    obtain ⟨hb, hyp⟩ := hyp
    have hsub := sub_enumerate
    have q1 : ∀ {A' : Around} {E : Value → Shared → Prop} {Q : Value → Shared → Prop}, Q (.ref hp.objs.size) ⟨hp.push oo, g, d, tk, os⟩ → wpAny (model prog w) A' (pyIter vv) Q E ⟨hp, g, d, tk, os⟩ :=
      fun q => B.iter prog w _ _ ⟨hp, g, d, tk, os⟩ _ hb q
    wp_walk using q1
    refine wpAny_stack_any fun st => wpAny_pure ?_
    split
    · rename_i c _ _ _ _ _
      cases (c == Value.type "enumerate") <;> (wp_walk using q1; exact ⟨_, rfl, hyp⟩)
    · (wp_walk using q1; exact ⟨_, rfl, hyp⟩)
theorem enumT_begins {prog : Program} {w : World} {A : Around} {E : Value → Shared → Prop} {s : Shared} {vv : Value} {oo : Obj} {PH : Heap → Prop} {Q : Value → Shared → Prop} (B : Begins vv oo PH) (h1 : PH s.heap)
    (kk : ∀ h', IsEnum h' (s.heap.objs.size + 1) s.heap.objs.size 0 .none → h'.get? s.heap.objs.size = some oo → h'.objs.size = s.heap.objs.size + 2 →
      (∀ b o, s.heap.get? b = some o → h'.get? b = some o) → Q (.ref (s.heap.objs.size + 1)) { s with heap := h' }) :
    wpAny (model prog w) A (call (.type "enumerate") [vv]) Q E s := by
  refine callType_new F.called_enumerate (by decide) (F.typeCall_enumerate_1 _) (F.newCall_enumerate_1 _) (fun obj => F.args_object_init_2 obj _) F.entry_enumerate_new (meets_enumT B) ⟨h1, ?_⟩
  have z1 : (s.heap.push oo).objs.size = s.heap.objs.size + 1 := Heap.size_push ..
  show _ ∧ _
  rw [z1]
  have z2 : IsEnum ((s.heap.push oo).push { cls := .type "enumerate", data := .fields #[.none, .bool false, .ref s.heap.objs.size, rawInt 0, .none, .none] }) (s.heap.objs.size + 1) s.heap.objs.size 0 .none := by
    have := Heap.get?_push_size (s.heap.push oo) (o := { cls := .type "enumerate", data := .fields #[.none, .bool false, .ref s.heap.objs.size, rawInt 0, .none, .none] }) rfl
    rwa [z1] at this
  exact ⟨⟨_, z2, rfl⟩, kk _ z2 (Heap.get?_push_of_some _ (Heap.get?_push_size _ B.free)) (by rw [Heap.size_push, z1]) fun b o x => Heap.get?_push_of_some _ (Heap.get?_push_of_some _ x)⟩
/-- the tuple at a: each item in a new pair -/
def IteT (K : PySem.W.Frag) (a : Addr) : It where
  go := fun i H => ∃ (xs : List V) (x : V), SqT K H a xs ∧ xs[i]? = some x
  yld := fun i H v H' => ∃ T x, v = .ref T ∧ H T = none ∧ H' = upd H T (.tup [.int (i : Nat), x]) ∧ ∀ xs, SqT K H a xs → xs[i]? = some x
  stop := fun i H => ∃ xs : List V, SqT K H a xs ∧ xs.length ≤ i
theorem turn_enumT {P : Program} {w : World} {K : PySem.W.Frag} {elts : List Expr} {kk : Nat} {tpos : Pos} (a e it : Addr) (hai : a ≠ it) :
    Turn P w K (.Tuple elts kk tpos) (IteT K a) [e, it] e (fun i h => (∃ old, IsEnum h e it ((i : Nat) : Int) old) ∧ h.IsTupleIter it a i ∧ e ≠ it ∧ e ≠ a) where
  mem := by simp
  obj := fun i h st b hb => by
    obtain ⟨⟨old, he⟩, ⟨o, ho, hc, hd⟩, _⟩ := st
    have z : b = e ∨ b = it := by simpa using hb
    rcases z with rfl | rfl
    · exact ⟨_, he, fun v q => nomatch q⟩
    · exact ⟨o, ho, fun v q => by rw [hd] at q; cases q⟩
  keep := fun i h h' st k => let ⟨⟨old, he⟩, hi, hne⟩ := st; ⟨⟨old, k e (by simp) _ he⟩, hi.at fun o q => k it (by simp) o q, hne⟩
  item := by
    intro X hP hw hK hc i pins s σ H E I hf st hg
    subst hP hw hK
    obtain ⟨⟨old, he⟩, hit, hne, hea⟩ := st
    obtain ⟨xs, x, hq, hx⟩ := hg
    obtain ⟨its, rv, p, hz⟩ := I.tuple hq
    obtain ⟨u, hu, ru⟩ := rv.get hx
    have l1 : e < s.heap.objs.size := Heap.lt_size he
    have l2 : it < s.heap.objs.size := by obtain ⟨_, q, _⟩ := hit; exact Heap.lt_size q
    have hlt : i < its.toArray.size := by
      have := (List.getElem?_eq_some_iff.mp hu).1
      simpa using this
    refine wpAny_pyNext_enum_itemD (Draws.tuple (show X.A.in1.handled = none from I.ok.hd hc) it a hai its.toArray) he ⟨hit, p⟩ hlt hne (by simp [hne, hea]) fun x0 h' tk px ho hst' hT hsz hk => ?_
    have ex : x0 = u := by
      have px' : its.toArray[i]? = some x0 := px
      rw [List.getElem?_toArray, hu] at px'
      exact (Option.some.inj px').symm
    subst ex
    refine ⟨_, rfl, wpAny_letOwnedTupleGo_enum (s := { s with heap := h', toks := tk + 1 }) ho fun h'' he' sb => ?_⟩
    have t2 : h''.get? s.heap.objs.size = some { cls := .type "tuple", data := .seq #[.int i tk, x0] } := (sb.2 _ (Nat.ne_of_gt l1)).trans hT
    have nw : ObjOk X.prog X.w (upd H s.heap.objs.size (.tup [.int (i : Nat), x])) h'' s.heap.objs.size (.tup [.int (i : Nat), x]) :=
      ⟨by show 2 ≤ sizeLine; decide, [.int i tk, x0], .cons ⟨_, rfl⟩ (.cons ru .nil), ⟨_, t2, rfl, _, rfl⟩⟩
    have I1 : Inv X pins σ (upd H s.heap.objs.size (.tup [.int (i : Nat), x])) { s with heap := h'', toks := tk + 1 } :=
      I.turnedNew (ch := [e, it]) (fun b ob hb q => (sb.2 b (fun z => hb (by simp [z]))).trans (hk b ob (fun z => hb (by simp [z])) (fun z => hb (by simp [z])) q)) hf (Nat.le_refl _) nw
    refine ⟨.ref s.heap.objs.size, _, I1, rfl, ⟨_, x, rfl, I.hok.fresh (Nat.le_refl _), rfl, fun ys hy => by rw [I.tuple_inj hy hq]; exact hx⟩, ⟨⟨x0, ?_⟩, hst'.1.at fun o q => (sb.2 it (Ne.symm hne)).trans q, hne, hea⟩, fun b hb => ?_⟩
    · rw [show ((i + 1 : Nat) : Int) = (i : Int) + 1 by omega]
      exact he'
    · have lb : b < s.heap.objs.size := by
        have z : b = e ∨ b = it := by simpa using hb
        rcases z with rfl | rfl
        · exact l1
        · exact l2
      rw [upd_ne (Nat.ne_of_lt lb)]
      exact (hf b hb).1
  done := by
    intro X hP hw hK hc i pins s σ H E I hf st hg
    subst hP hw hK
    obtain ⟨⟨old, he⟩, hit, hne, hea⟩ := st
    obtain ⟨xs, hq, hx⟩ := hg
    obtain ⟨its, rv, p, hz⟩ := I.tuple hq
    obtain ⟨f0, f1, f2, f3, f4, f5⟩ := hf it (by simp)
    have hl := rv.length
    obtain ⟨o, ho, hcl, hdt⟩ := id hit
    have hT : s.TypeIs (.ref e) "enumerate" := ⟨_, he, rfl⟩
    unfold pyNext
    refine wpAny_bind (wpAny_attempt (wpAny_callSpecial?_slot (name := Str.ofString "__next__") hT F.slot_enumerate_next (wpAny_call_entry F.slot_enumerate_next hT F.entry_enumerate_next ?_ (F.args_enumerate_next_1 _))))
    show wpAny _ _ (field (.ref e) 2 >>= _) _ _ _
    refine wpAny_bind (wpAny_field he rfl (x := .ref it) rfl ?_)
    refine wpAny_bind (wpAny_nextOf_tuple_end (show X.A.in1.handled = none from I.ok.hd hc) hit p (by simp; omega) fun h' x he' hx' => ?_)
    obtain ⟨o2, ho2, hc2⟩ := hx'
    exact wpAny_bind (wpAny_isInstance (T := "StopIteration") (b := true) ⟨o2, ho2, hc2⟩ isSubtype_stop (wpAny_pure ⟨rfl, I.turned (t' := s.toks) (fun b ob hb q => he' b ob hb q) f0 f1 f3 f4 f5⟩))
  self := fun A i s Q E st h => let ⟨⟨_, he⟩, _⟩ := st; wpAny_pyIter_enum he h
def iEnumT (K : PySem.W.Frag) (ta : TA) : TI := fun σ H R => ta σ H fun vs H1 => ∃ a xs, vs = [.ref a] ∧ SqT K H1 a xs ∧ R (IteT K a) H1
theorem pi_enumT {X : Cx} {K : PySem.W.Frag} {e : Expr} {ta : TA} {p pos tpos : Pos} {elts : List Expr} {kk : Nat} (hg : Gl X "enumerate") (hm : X.mg "enumerate" = none) (ha : PA X [e] ta) (hs : starEach [e] X.env = [(false, eval e X.env)] := by rfl) (hK : X.K = K := by rfl) :
    PI X (.Tuple elts kk tpos) (.Call (.Name "enumerate" p) [e] [] pos) (iEnumT K ta) := by
  subst hK
  refine ⟨fun pins s σ H R I h => ?_⟩
  refine Call_ (ld_blt I hg hm bt_enumerate (PyProof.Rows.callWith_type1 (thn (ha.run pos pins s σ H _ I h) fun us s1 ⟨vs, H1, I1, r1, q1⟩ => ?_) hs rfl))
  obtain ⟨a, xs, ex, hq, q⟩ := q1
  subst ex
  obtain ⟨u, rfl, ru⟩ := vals1 r1
  obtain rfl : u = Value.ref a := ru
  obtain ⟨its, rv, pt, hz⟩ := I1.tuple hq
  have la : a < s1.heap.objs.size := by obtain ⟨o, e1, _⟩ := pt; exact Heap.lt_size e1
  refine enumT_begins (begins_tuple a its.toArray) pt fun h' he hit hsz hk => wpAny_pyIter_enum he ?_
  have I2 : Inv X pins σ H1 { s1 with heap := h' } := I1.kept (t' := s1.toks) hk
  refine ⟨s1.heap.objs.size + 1, [s1.heap.objs.size + 1, s1.heap.objs.size], _, _, H1, rfl, I2, turn_enumT a (s1.heap.objs.size + 1) s1.heap.objs.size (Nat.ne_of_lt la),
    ⟨⟨.none, he⟩, ⟨_, hit, rfl, rfl⟩, Nat.succ_ne_self _, Nat.ne_of_gt (Nat.lt_succ_of_lt la)⟩, fun b hb => ?_, q⟩
  have z : b = s1.heap.objs.size + 1 ∨ b = s1.heap.objs.size := by simpa using hb
  have hle : s1.heap.objs.size ≤ b := by
    rcases z with rfl | rfl
    · exact Nat.le_add_right _ _
    · exact Nat.le_refl _
  exact I1.fpOk hle (I1.hok.fresh hle)
theorem walk_enumT {K : PySem.W.Frag} {a : Addr} {xs : List V} : Walk (IteT K a) xs.length (fun H => SqT K H a xs) (YPair (fun i => some (.int (i : Nat))) (fun i => xs[i]?)) := by
  refine ⟨fun i _ hi q => ⟨xs, xs[i], q, by simp [hi]⟩, fun _ q => ⟨xs, q, Nat.le_refl _⟩, fun i H v H' _ q y => ?_⟩
  obtain ⟨T, x, h1, h2, h3, h4⟩ := y
  exact ⟨T, .int (i : Nat), x, h1, h2, h3, rfl, h4 xs q⟩
theorem lcE {β : Type} {Rel : V → β → Prop} {K : PySem.W.Frag} {a : Addr} {xs : List V} {l : List β} {g : TG} {tt : TT} {te : TE} {vs : List Nat} {σ : L2.St} {H1 : Hp} {D : Addr} {Qd : Hp → Prop} (hp : Paired Rel xs l) (f : β × Nat → V) (p : β × Nat → Bool) (ha : SqL K H1 a xs) (hD : H1 D = none) (hz : xs.length < sizeLine)
    (hs : ∀ r i x T H, l[i]? = some r → Rel x r → Ext H1 H → H T = none → ∀ (Q : VK) (Q0 : Hp → Prop), (p (r, i) = true → ∀ H4, Ext H H4 → Q (f (r, i)) H4) → (p (r, i) = false → ∀ H4, Ext H H4 → Q0 H4) →
      g (.ref T) (wipe σ vs) (upd H T (.tup [.int (i : Nat), x])) fun σ2 H2 => wipe σ2 vs = wipe σ vs ∧ tt σ2 H2 fun b H3 => if b = true then te σ2 H3 Q else Q0 H3)
    (hd : ∀ H', Ext H1 H' → H' D = some (.lst ((l.zipIdx.filter p).map f)) → Qd H') :
    ∃ W : Nat → Nat → Hp → Prop, (∃ m, W 0 m (upd H1 D (.lst []))) ∧ ∀ i m H, W i m H →
      ((Ite K a).stop i H ∧ Qd H) ∨ ((Ite K a).go i H ∧ ∃ Nx : Hp → Prop, (∀ H', Nx H' → ∃ m', m' < m ∧ W (i + 1) m' H') ∧ ∀ x H', (Ite K a).yld i H x H' → g x (wipe σ vs) H' fun σ2 H2 => wipe σ2 vs = wipe σ vs ∧ tt σ2 H2 fun b H3 =>
        if b = true then te σ2 H3 fun y H4 => ∃ acc, H4 D = some (.lst acc) ∧ acc.length < sizeLine ∧ Nx (upd H4 D (.lst (acc ++ [y]))) else Nx H3) := by
  have hl := prd_len hp
  refine lcG (Y := YPair (fun i => some (.int (i : Nat))) (fun i => xs[i]?)) (G := fun H => SqL K H a xs) l.zipIdx (by rw [List.length_zipIdx, ← hl]; exact walk_enum) (fun q H v H' => ∃ T x, v = .ref T ∧ H T = none ∧ H' = upd H T (.tup [.int (q.2 : Nat), x]) ∧ l[q.2]? = some q.1 ∧ Rel x q.1) (fun i H x H' _ y => ?_) f p (by rw [List.length_zipIdx, ← hl]; exact hz) hD (fun H e => ha.ext e)
    (fun q x H H' hm e r Q Q0 k k0 => ?_) hd
  · obtain ⟨T, x0, y0, h1, h2, h3, h4, h5⟩ := y
    obtain ⟨r, h6, _, h7⟩ := prd_at hp h5
    have h8 : x0 = V.int (i : Nat) := (Option.some.inj h4).symm
    subst h8
    exact ⟨(r, i), by rw [List.getElem?_zipIdx, h6, Nat.zero_add]; rfl, T, y0, h1, h2, h3, h6, h7⟩
  · obtain ⟨T, y0, h1, h2, h3, h6, h7⟩ := r
    subst h1 h3
    obtain ⟨r, i⟩ := q
    exact hs r i y0 T H h6 h7 e h2 Q Q0 k k0
theorem lcET {β : Type} {Rel : V → β → Prop} {K : PySem.W.Frag} {a : Addr} {xs : List V} {l : List β} {g : TG} {tt : TT} {te : TE} {vs : List Nat} {σ : L2.St} {H1 : Hp} {D : Addr} {Qd : Hp → Prop} (hp : Paired Rel xs l) (f : β × Nat → V) (p : β × Nat → Bool) (ha : SqT K H1 a xs) (hD : H1 D = none) (hz : xs.length < sizeLine)
    (hs : ∀ r i x T H, l[i]? = some r → Rel x r → Ext H1 H → H T = none → ∀ (Q : VK) (Q0 : Hp → Prop), (p (r, i) = true → ∀ H4, Ext H H4 → Q (f (r, i)) H4) → (p (r, i) = false → ∀ H4, Ext H H4 → Q0 H4) →
      g (.ref T) (wipe σ vs) (upd H T (.tup [.int (i : Nat), x])) fun σ2 H2 => wipe σ2 vs = wipe σ vs ∧ tt σ2 H2 fun b H3 => if b = true then te σ2 H3 Q else Q0 H3)
    (hd : ∀ H', Ext H1 H' → H' D = some (.lst ((l.zipIdx.filter p).map f)) → Qd H') :
    ∃ W : Nat → Nat → Hp → Prop, (∃ m, W 0 m (upd H1 D (.lst []))) ∧ ∀ i m H, W i m H →
      ((IteT K a).stop i H ∧ Qd H) ∨ ((IteT K a).go i H ∧ ∃ Nx : Hp → Prop, (∀ H', Nx H' → ∃ m', m' < m ∧ W (i + 1) m' H') ∧ ∀ x H', (IteT K a).yld i H x H' → g x (wipe σ vs) H' fun σ2 H2 => wipe σ2 vs = wipe σ vs ∧ tt σ2 H2 fun b H3 =>
        if b = true then te σ2 H3 fun y H4 => ∃ acc, H4 D = some (.lst acc) ∧ acc.length < sizeLine ∧ Nx (upd H4 D (.lst (acc ++ [y]))) else Nx H3) := by
  have hl := prd_len hp
  refine lcG (Y := YPair (fun i => some (.int (i : Nat))) (fun i => xs[i]?)) (G := fun H => SqT K H a xs) l.zipIdx (by rw [List.length_zipIdx, ← hl]; exact walk_enumT) (fun q H v H' => ∃ T x, v = .ref T ∧ H T = none ∧ H' = upd H T (.tup [.int (q.2 : Nat), x]) ∧ l[q.2]? = some q.1 ∧ Rel x q.1) (fun i H x H' _ y => ?_) f p (by rw [List.length_zipIdx, ← hl]; exact hz) hD (fun H e => ha.ext e)
    (fun q x H H' hm e r Q Q0 k k0 => ?_) hd
  · obtain ⟨T, x0, y0, h1, h2, h3, h4, h5⟩ := y
    obtain ⟨r, h6, _, h7⟩ := prd_at hp h5
    have h8 : x0 = V.int (i : Nat) := (Option.some.inj h4).symm
    subst h8
    exact ⟨(r, i), by rw [List.getElem?_zipIdx, h6, Nat.zero_add]; rfl, T, y0, h1, h2, h3, h6, h7⟩
  · obtain ⟨T, y0, h1, h2, h3, h6, h7⟩ := r
    subst h1 h3
    obtain ⟨r, i⟩ := q
    exact hs r i y0 T H h6 h7 e h2 Q Q0 k k0
end K12
namespace K12
open PySem PySem.Spec PyProof.Rows L2 SX
/-! ### texts as lists of signs -/
theorem S_ofString (s : String) : Str.ofString s = S (s.toList.map Char.toNat) := TL.ext_tl (TL.tl_ofString s)
theorem S_tl' (z : Str) : z = S z.cps.toList := (SX.S_tl z).symm
theorem joinL_nil : ∀ ys : List (List Nat), TL.joinL [] ys = ys.flatten
  | [] => rfl
  | [x] => by simp [TL.joinL]
  | x :: y :: r => by
    have ih := joinL_nil (y :: r)
    show x ++ ([] ++ TL.joinL [] (y :: r)) = _
    rw [ih]
    simp
theorem join_nil (ys : List (List Nat)) : Txt.join (S []) (ys.map S) = S ys.flatten := by rw [SX.join_S, joinL_nil]
theorem empty_S : (Str.ofString "" : Str) = S [] := by rw [S_ofString]; rfl
theorem num_small {n : Int} (h0 : 0 ≤ n) (h9 : n ≤ 9) : Str.ofString (toString n) = S [48 + n.toNat] := by
  obtain ⟨m, rfl⟩ := Int.eq_ofNat_of_zero_le h0
  rw [SX.num_S, TL.numL_lt (by omega)]
  rfl
theorem log_small {n : Int} (h0 : 0 ≤ n) (h9 : n ≤ 100000) : n.natAbs.log2 < 1920 := by
  have h1 : n.natAbs ≤ 100000 := by omega
  by_cases h : n.natAbs = 0
  · rw [h]; decide
  · have : n.natAbs.log2 < 1920 := by
      rw [Nat.log2_lt h]
      exact Nat.lt_of_le_of_lt h1 (Nat.lt_of_lt_of_le (by decide : 100000 < 2 ^ 17) (Nat.pow_le_pow_right (by decide) (by decide)))
    exact this
/-- a cell of a word -/
def cellL : Option Int → List Nat
  | none => [45]
  | some n => [48 + n.toNat]
def stWord (r : Row) (c : Bool) : List Nat := r.flatMap cellL ++ if c then [43] else []
def cells09 (r : Row) : Prop := ∀ n, some n ∈ r → 0 ≤ n ∧ n ≤ 9
theorem cells09.tail {o : Option Int} {r : Row} (h : cells09 (o :: r)) : cells09 r := fun n hn => h n (List.mem_cons_of_mem _ hn)
theorem sum_ones {r : Row} : (((r.map cellL).map S).map (·.length)).sum = r.length := by
  induction r with
  | nil => rfl
  | cons o r ih =>
    rw [List.map_cons, List.map_cons, List.map_cons, List.sum_cons, ih]
    cases o <;> (show 1 + r.length = r.length + 1; omega)
section
variable {P : Program} {w : World} {K : PySem.W.Frag} {mg : Str → Option Value} {base : Heap}
/-! ### _are_closing -/
abbrev s__are_closing : Stmt := top 18
theorem sc__are_closing : FnScope ["value", "states", "state"] ["value", "states"] (defScope s__are_closing) := ⟨rfl, rfl, rfl, by decide +kernel, rfl, by decide +kernel, by decide +kernel⟩
def sp__are_closing (K : PySem.W.Frag) : Sp := fun vs H Q _ => ∃ (a : Addr) (ns : List Int) (n : Int), vs = [.ref a, .int n] ∧ SqL K H a (ns.map V.int) ∧ ns.length ≤ 4000 ∧ ns.Nodup ∧ (∀ m ∈ ns, 0 ≤ m ∧ m < n) ∧ ∀ H', Ext H H' → Q (.bl true) H'
theorem c__are_closing (T : Txt K mg) : Cal P w K mg base 2 "_are_closing" (sp__are_closing K) := by
  refine T.d__are_closing.cal sc__are_closing (fun _ _ _ _ _ _ us hl => match us, hl with | [_, _], _ => rfl) (fun vs H Q E h => ?_) (fun f cdv A outer s H vs Q E hr h => ?_)
  · obtain ⟨a, ns, n, rfl, _⟩ := h
    rfl
  · obtain ⟨a, ns, n, rfl, hS, hz, hnd, hm, k⟩ := h
    refine ⟨_, (pss_cons (ps_if (pt_not (pt_val (pe_callB (call_isiTK (K := K)) rfl T.n_isinstance bt_isinstance (pa_cons (pv 0) (pa_cons (pe_tup (pa_cons (pe_bltn (v := .ty "list") rfl T.n_list bt_list rfl) (pa_cons (pe_bltn (v := .ty "tuple") rfl T.n_tuple bt_tuple rfl) pa_nil))) pa_nil))))) (pss_one (ps_ret pe_bl)) pss_nil)
  (pss_cons (ps_if (pt_not (pt_val (pe_callB (cr_allK (K := K) rfl) rfl T.n_all bt_all (pa_cons (pe_lc (own := [("state", 2)]) (g := gName 2) (tt := tYes) rfl sc__are_closing.nd (pi_listK (K := K) (pv 0)) (blkOk_by (by kernel_rfl)) (fun _ _ _ _ _ => (pg_name (i := 2) sc__are_closing.nd rfl (Or.inl rfl))) (fun _ _ _ _ _ => pts_nil) (fun _ _ _ _ _ => (pe_c (c_is_number T) hr (by decide) rfl (pa_cons (pv 2) (pa_cons pe_int (pa_cons (pe_op op_sub (pv 1) pe_int) pa_nil)))))) pa_nil)))) (pss_one (ps_ret pe_bl)) pss_nil)
  (pss_one (ps_ret (pe_cmpR op_eq (RZ.pe_lenSetI rfl T.n_len rfl T.n_set (pv 0)) (pe_callB (call_lenK (K := K)) rfl T.n_len bt_len (pa_cons (pv 0) pa_nil)) (nomark _)))))), ?_⟩
    refine ⟨_, rfl, (by show 2 ≤ sizeLine; decide), fun p hp => ⟨_, p, _, _, _, _, rfl, upd_same, .cons (.ty _) (.cons (.ty _) .nil), TyN.tyX (TyN.ext (.lst hS) (Ext.upd hp)), kl_list, ⟨_, rfl, iteF ?_⟩⟩⟩
    have e0 := Ext.upd (o := .tup [.ty "list", .ty "tuple"]) hp
    revert e0
    generalize upd H p (.tup [.ty "list", .ty "tuple"]) = H1
    intro e0
    refine ⟨_, rfl, a, rfl, ⟨_, hS.ext e0⟩, fun D hD => lcPLy (prd_map V.int ns) (fun i => V.bl (isNum (some i) 0 (n - 1))) (hS.ext e0) hD (by rw [List.length_map]; exact sl_lt (by omega)) (fun x i H' him hx e Q1 k1 => ⟨rfl, ?_⟩) (fun H' e hl => ?_)⟩
    · subst hx
      exact ⟨_, rfl, _, rfl, _, _, rfl, rfl, some i, 0, n - 1, rfl, k1 _ Ext.rfl'⟩
    · refine ⟨D, ns.map fun i => isNum (some i) 0 (n - 1), rfl, SqL.of (by rw [hl, bls]), ?_⟩
      have ea : (ns.map fun i => isNum (some i) 0 (n - 1)).all id = true := by
        rw [all_id, List.all_eq_true]
        intro i hi
        obtain ⟨h1, h2⟩ := hm i hi
        show (decide (0 ≤ i) && decide (i ≤ n - 1)) = true
        rw [decide_eq_true h1, decide_eq_true (by omega)]
        rfl
      rw [ea]
      refine ⟨_, rfl, iteF ?_⟩
      have e1 := e0.trans e
      refine ⟨_, rfl, a, ns, rfl, hS.ext e1, hnd, hz, _, rfl, _, _, rfl, .inl (hS.ext e1), rfl, ?_⟩
      rw [List.length_map, dec_int, beq_self_eq_true]
      exact k _ e1
/-! ### _state_word -/
abbrev s__state_word : Stmt := top 20
theorem sc__state_word : FnScope ["line", "closes", "letters", "following"] ["line", "closes"] (defScope s__state_word) := ⟨rfl, rfl, rfl, by decide +kernel, rfl, by decide +kernel, by decide +kernel⟩
def sp__state_word (K : PySem.W.Frag) : Sp := fun vs H Q _ => ∃ (p : Addr) (r : Row) (c : Bool), vs = [.ref p, .bl c] ∧ SqT K H p (r.map optI) ∧ r.length ≤ 1000 ∧ cells09 r ∧ ∀ H', Ext H H' → Q (.str (S (stWord r c))) H'
theorem c__state_word (T : Txt K mg) : Cal P w K mg base 1 "_state_word" (sp__state_word K) := by
  refine T.d__state_word.cal sc__state_word (fun _ _ _ _ _ _ us hl => match us, hl with | [_, _], _ => rfl) (fun vs H Q E h => ?_) (fun f cdv A outer s H vs Q E hr h => ?_)
  · obtain ⟨p, r, c, rfl, _⟩ := h
    rfl
  · obtain ⟨p, r, c, rfl, hS, hz, hc, k⟩ := h
    refine ⟨_, (pss_cons (ps_set (i := 2) sc__state_word.nd rfl (Or.inl rfl) (pe_join pe_str (pe_lc (own := [("following", 3)]) (g := gName 3) (tt := tYes) rfl sc__state_word.nd (pi_tupK (K := K) (pv 0)) (blkOk_by (by kernel_rfl)) (fun _ _ _ _ _ => (pg_name (i := 3) sc__state_word.nd rfl (Or.inl rfl))) (fun _ _ _ _ _ => pts_nil) (fun _ _ _ _ _ => (pe_ifExp (pt_cmpR op_isN (pv 3) pe_non (nomark _)) pe_str (pe_callTy call_str_int rfl T.n_str bt_str (pa_cons (pv 3) pa_nil)))))))
  (pss_one (ps_ret (pe_ifExp (pt_val (pv 1)) (pe_joined (PJ.cons (pe_fmt (pv 2)) (PJ.cons pe_str PJ.nil))) (pv 2))))), ?_⟩
    refine ⟨⟨_, rfl⟩, _, rfl, p, rfl, ⟨_, hS⟩, fun D hD => lcPTy (prd_map optI r) (fun o => V.str (S (cellL o))) hS hD (by rw [List.length_map]; exact sl_lt (by omega)) (fun x o H' hm hx e Q1 k1 => ⟨rfl, ?_⟩) (fun H' e hl => ?_)⟩
    · subst hx
      cases o with
      | none =>
        refine ⟨_, rfl, rfl, _, rfl, iteT ?_⟩
        have e1 : (Str.ofString "-" : Str) = S (cellL none) := by rw [S_ofString]; rfl
        have k2 := k1 _ Ext.rfl'
        rw [← e1] at k2
        exact k2
      | some n =>
        obtain ⟨h1, h2⟩ := hc n hm
        refine ⟨_, rfl, rfl, _, rfl, iteF ⟨_, rfl, n, rfl, log_small h1 (by omega), ?_⟩⟩
        rw [num_small h1 h2]
        exact k1 _ Ext.rfl'
    · refine ⟨_, D, (r.map cellL).map S, rfl, rfl, .inl (SqL.of ?_), ?_, ?_⟩
      · rw [hl, List.map_map, List.map_map]
        rfl
      · rw [sum_ones, List.length_map, List.length_map, empty_S, SX.S_len]
        show r.length + r.length * 0 ≤ 16777216
        omega
      · rw [empty_S, join_nil]
        have hlen : ((r.map cellL).flatten).length ≤ 1000 := by
          have : ((r.map cellL).flatten).length = r.length := by
            clear hl hS hz hc k
            induction r with
            | nil => rfl
            | cons o r ih => cases o <;> simp [cellL, ih]
          omega
        unfold stWord at k
        rw [List.flatMap_def] at k
        cases c with
        | false =>
          refine ⟨_, rfl, _, rfl, iteF ⟨_, rfl, ?_⟩⟩
          rw [if_neg Bool.false_ne_true, List.append_nil] at k
          exact k _ e
        | true =>
          rw [if_pos rfl] at k
          have e1 : (Str.ofString "+" : Str) = S [43] := by rw [S_ofString]; rfl
          refine ⟨_, rfl, _, rfl, iteT ⟨_, rfl, .inl ⟨_, rfl, sl_of (by rw [SX.S_len]; omega), _, rfl, ?_, _, rfl, ?_, ?_⟩⟩⟩
          · show (Str.empty ++ S _).length ≤ sizeLine
            rw [show Str.empty = S [] from rfl, SX.S_cat, SX.S_len]
            exact sl_of (by rw [List.nil_append]; omega)
          · rw [show Str.empty = S [] from rfl, e1, SX.S_cat, SX.S_cat, SX.S_len]
            exact sl_of (by simp only [List.nil_append, List.length_append, List.length_cons, List.length_nil]; omega)
          · rw [show Str.empty = S [] from rfl, e1, SX.S_cat, SX.S_cat, List.nil_append]
            exact k _ e
end
end K12
namespace K12
open PySem PySem.Spec PyProof.Rows L2
/-! ### _needs: the mirror -/
def initN (n : Nat) (cl : List Int) : List (Option Int) := (List.range n).map fun (i : Nat) => if decide ((i : Int) ∈ cl) = true then some 0 else none
def nearer (nd : List (Option Int)) (k : Int) : List Int := (nd.zipIdx.filter fun q => decide (q.1 = some (k - 1))).map fun q => ((q.2 : Nat) : Int)
def inNear (ne : List Int) : Option Int → Bool
  | none => false
  | some m => decide (m ∈ ne)
def stepC (ne : List Int) (k : Int) (d : Option Int) (r : Row) : Option Int := if d = none ∧ r.any (inNear ne) = true then some k else d
def stepN (k : Int) (nd : List (Option Int)) (rows : List Row) : List (Option Int) := List.zipWith (stepC (nearer nd k) k) nd rows
def roundsN (rows : List Row) (cl : List Int) : Nat → List (Option Int)
  | 0 => initN rows.length cl
  | i + 1 => stepN (1 + (i : Nat)) (roundsN rows cl i) rows
def needsF (rows : List Row) (cl : List Int) : List (Option Int) := roundsN rows cl (rows.length - 1)
theorem initN_len (n : Nat) (cl : List Int) : (initN n cl).length = n := by simp [initN]
theorem roundsN_len (rows : List Row) (cl : List Int) : ∀ i, (roundsN rows cl i).length = rows.length
  | 0 => initN_len _ _
  | i + 1 => by
    show (List.zipWith _ _ _).length = _
    rw [List.length_zipWith, roundsN_len rows cl i, Nat.min_self]
/-- the first j done -/
def midN (ne : List Int) (k : Int) (nd : List (Option Int)) (rows : List Row) (j : Nat) : List (Option Int) := (List.zipWith (stepC ne k) nd rows).take j ++ nd.drop j
theorem midN_zero (ne : List Int) (k : Int) (nd : List (Option Int)) (rows : List Row) : midN ne k nd rows 0 = nd := by simp [midN]
theorem midN_len {ne : List Int} {k : Int} {nd : List (Option Int)} {rows : List Row} (h : nd.length = rows.length) (j : Nat) : (midN ne k nd rows j).length = nd.length := by
  simp [midN, List.length_zipWith, h]
  omega
theorem midN_end {ne : List Int} {k : Int} {nd : List (Option Int)} {rows : List Row} (h : nd.length = rows.length) : midN ne k nd rows rows.length = List.zipWith (stepC ne k) nd rows := by
  unfold midN
  rw [List.drop_of_length_le (by omega), List.append_nil, List.take_of_length_le (by rw [List.length_zipWith]; omega)]
theorem midN_at {ne : List Int} {k : Int} {nd : List (Option Int)} {rows : List Row} (h : nd.length = rows.length) {j : Nat} {d : Option Int} (hd : nd[j]? = some d) : (midN ne k nd rows j)[j]? = some d := by
  have hj : j < nd.length := (List.getElem?_eq_some_iff.mp hd).1
  unfold midN
  rw [List.getElem?_append_right (by rw [List.length_take]; omega), List.length_take, List.length_zipWith, List.getElem?_drop]
  have : j + (j - min j (min nd.length rows.length)) = j := by omega
  rw [this]
  exact hd
theorem midN_succ {ne : List Int} {k : Int} {nd : List (Option Int)} {rows : List Row} (h : nd.length = rows.length) {j : Nat} {d : Option Int} {r : Row} (hd : nd[j]? = some d) (hr : rows[j]? = some r) :
    midN ne k nd rows (j + 1) = (midN ne k nd rows j).set j (stepC ne k d r) := by
  have hj : j < nd.length := (List.getElem?_eq_some_iff.mp hd).1
  have hz : (List.zipWith (stepC ne k) nd rows)[j]? = some (stepC ne k d r) := by rw [List.getElem?_zipWith, hd, hr]
  unfold midN
  rw [take_succ_f hz]
  have hdr : nd.drop j = d :: nd.drop (j + 1) := by
    rw [List.drop_eq_getElem_cons hj]
    congr 1
    have := List.getElem?_eq_getElem hj
    rw [this] at hd
    exact Option.some.inj hd
  rw [hdr]
  have hl : ((List.zipWith (stepC ne k) nd rows).take j).length = j := by rw [List.length_take, List.length_zipWith]; omega
  rw [List.set_append_right _ _ (by omega), hl, Nat.sub_self, List.set_cons_zero, List.append_assoc]
  rfl
theorem set_same {α : Type} {l : List α} {j : Nat} {d : α} (h : l[j]? = some d) : l.set j d = l := by
  obtain ⟨h1, h2⟩ := List.getElem?_eq_some_iff.mp h
  rw [← h2]
  exact List.set_getElem_self h1
theorem inV_ints (x : Int) : ∀ ns : List Int, inV (.int x) (ns.map V.int) = decide (x ∈ ns)
  | [] => rfl
  | n :: ns => by
    have ih := inV_ints x ns
    show ((n == x) || inV (.int x) (ns.map V.int)) = _
    rw [ih, Bool.eq_iff_iff]
    simp only [Bool.or_eq_true, beq_iff_eq, decide_eq_true_eq, List.mem_cons]
    constructor
    · rintro (h | h)
      · exact .inl h.symm
      · exact .inr h
    · rintro (h | h)
      · exact .inl h.symm
      · exact .inr h
theorem inV_non : ∀ ns : List Int, inV .non (ns.map V.int) = false
  | [] => rfl
  | _ :: ns => inV_non ns
theorem flat_ints : ∀ ns : List Int, (ns.map V.int).all flatV = true
  | [] => rfl
  | _ :: ns => flat_ints ns
theorem flat_opt (o : Option Int) : flatV (optI o) = true := by cases o <;> rfl
theorem inV_near (o : Option Int) (ne : List Int) : inV (optI o) (ne.map V.int) = inNear ne o := by
  cases o with
  | none => exact inV_non ne
  | some m => exact inV_ints m ne
theorem optI_eq (d : Option Int) (m : Int) : decide (optI d = .int m) = decide (d = some m) := by
  cases d with
  | none => rfl
  | some n =>
    rw [Bool.eq_iff_iff]
    simp [optI]
theorem scal_opt (d : Option Int) (m : Int) : scal (optI d) (.int m) = true := by cases d <;> rfl
theorem optI_non (d : Option Int) : decide (optI d = .non) = decide (d = none) := by
  cases d with
  | none => rfl
  | some n => rfl
section
variable {P : Program} {w : World} {K : PySem.W.Frag} {mg : Str → Option Value} {base : Heap}
abbrev s__needs : Stmt := top 19
theorem sc__needs : FnScope ["table", "closing", "needs", "need", "nearer", "state", "line", "found", "following"] ["table", "closing"] (defScope s__needs) := ⟨rfl, rfl, rfl, by decide +kernel, rfl, by decide +kernel, by decide +kernel⟩
def sp__needs (K : PySem.W.Frag) : Sp := fun vs H Q _ => ∃ (a c : Addr) (rows : List Row) (cl : List Int), vs = [.ref a, .ref c] ∧ TabT K H a rows ∧ SqT K H c (cl.map V.int) ∧ rows.length ≤ 1000 ∧ (∀ r ∈ rows, r.length ≤ 1000) ∧
  ∀ q H', Ext H H' → SqT K H' q ((needsF rows cl).map optI) → Q (.ref q) H'
theorem c__needs (T : Txt K mg) : Cal P w K mg base 1 "_needs" (sp__needs K) := by
  refine T.d__needs.cal sc__needs (fun _ _ _ _ _ _ us hl => match us, hl with | [_, _], _ => rfl) (fun vs H Q E h => ?_) (fun f cdv A outer s H vs Q E hr h => ?_)
  · obtain ⟨a, c, rows, cl, rfl, _⟩ := h
    rfl
  · obtain ⟨a, c, rows, cl, rfl, hT, hC, hz, hrz, k⟩ := h
    refine ⟨_, (pss_cons (ps_setLc (i := 2) (own := [("state", 5)]) (g := gName 5) (tt := tYes) rfl sc__needs.nd rfl rfl (sw_true rfl rfl rfl (by decide +kernel)) (pi_range1 rfl T.n_range (pa_cons (pe_callB (call_lenK (K := K)) rfl T.n_len bt_len (pa_cons (pv 0) pa_nil)) pa_nil)) (blkOk_by (by kernel_rfl)) (fun _ _ _ _ _ => (pg_name (i := 5) sc__needs.nd rfl (Or.inl rfl))) (fun _ _ _ _ _ => pts_nil) (fun _ _ _ _ _ => (pe_ifExp (pt_cmpR (op_in_seqK (K := K)) (pv 5) (pv 1) rfl) pe_int pe_non)))
  (pss_cons (ps_for PassesOwn.never rfl (pi_range2 rfl T.n_range (pa_cons pe_int (pa_cons (pe_callB (call_lenK (K := K)) rfl T.n_len bt_len (pa_cons (pv 0) pa_nil)) pa_nil))) (pg_name (i := 3) sc__needs.nd rfl (Or.inr rfl)) (pss_cons (ps_set (i := 4) sc__needs.nd rfl (Or.inr rfl) (pe_lc (own := [("state", 5), ("found", 7)]) (g := gTup K 2 (gCons (gName 5) (gCons (gName 7) (gNil)))) rfl sc__needs.nd (pi_enum rfl T.n_enumerate (pa_cons (pv 2) pa_nil)) (blkOk_by (by kernel_rfl)) (fun _ _ _ _ _ => (pg_tup rfl (pgs_cons (pg_name (i := 5) sc__needs.nd rfl (Or.inl rfl)) (pgs_cons (pg_name (i := 7) sc__needs.nd rfl (Or.inl rfl)) pgs_nil)))) (fun _ _ _ _ _ => (pts_one (pt_cmpR op_eq (pv 7) (pe_op op_sub (pv 3) pe_int) (nomark _)))) (fun _ _ _ _ _ => (pv 5))))
    (pss_one (ps_for PassesOwn.never rfl (pi_enumT (K := K) rfl T.n_enumerate (pa_cons (pv 0) pa_nil)) (pg_tup rfl (pgs_cons (pg_name (i := 5) sc__needs.nd rfl (Or.inl rfl)) (pgs_cons (pg_name (i := 6) sc__needs.nd rfl (Or.inl rfl)) pgs_nil))) (pss_one (ps_if (PW.pt (pw_and (pt_cmpR op_isN (pe_ix (ix_listK (K := K)) (pv 2) (pv 5) (fun _ _ => rfl)) pe_non (nomark _)) (pw_and1 (pt_val (pe_callB (cr_anyK (K := K) rfl) rfl T.n_any bt_any (pa_cons (pe_lc (own := [("following", 8)]) (g := gName 8) (tt := tYes) rfl sc__needs.nd (pi_tupK (K := K) (pv 6)) (blkOk_by (by kernel_rfl)) (fun _ _ _ _ _ => (pg_name (i := 8) sc__needs.nd rfl (Or.inl rfl))) (fun _ _ _ _ _ => pts_nil) (fun _ _ _ _ _ => (pe_cmpR (op_in_seqK (K := K)) (pv 8) (pv 4) rfl))) pa_nil)))))) (pss_one (ps_asg (pv 3) (pg_sub (pv 2) (pv 5) set_list))) pss_nil))))))
  (pss_one (ps_ret (pe_callTy (call_tupleK (K := K)) rfl T.n_tuple bt_tuple (pa_cons (pv 2) pa_nil)))))), ?_⟩
    obtain ⟨xs, hx, hP⟩ := hT
    have hl := prd_len hP
    refine ⟨_, rfl, _, _, rfl, .inr hx, ?_⟩
    refine ⟨_, rfl, by omega, by omega, fun D hD => lcRy (fun i => optI (if decide ((i : Int) ∈ cl) = true then some 0 else none)) hD (by rw [Int.toNat_natCast, hl]; exact sl_lt (by omega)) (fun i H' hi e Q1 k1 => ⟨rfl, ?_⟩) (fun H1 e1 hl1 => ?_)⟩
    · refine ⟨_, rfl, _, rfl, _, _, rfl, .inr (hC.ext e), rfl, flat_ints cl, _, rfl, ?_⟩
      rw [if_neg Bool.false_ne_true, inV_ints]
      have k2 := k1 _ Ext.rfl'
      have ei : (0 : Int) + (i : Nat) = (i : Nat) := by omega
      rw [ei]
      refine ite2 (fun h => ?_) (fun h => ?_)
      · rw [if_pos h] at k2
        exact k2
      · rw [if_neg h] at k2
        exact k2
    · rw [Int.toNat_natCast, hl, show (List.range rows.length).map (fun i : Nat => optI (if decide ((i : Int) ∈ cl) = true then some 0 else none)) = (roundsN rows cl 0).map optI by show _ = (initN rows.length cl).map optI; unfold initN; rw [List.map_map]; rfl] at hl1
      refine ⟨_, rfl, _, _, rfl, .inr (hx.ext e1), _, _, rfl, ⟨by omega, by omega, by omega, by omega⟩, for_range (lo := 1) (fun i σ H' => ∃ v3 v4 v5 v6, σ = [some (.ref a), some (.ref c), some (.ref D), v3, v4, v5, v6, none, none] ∧ Ext H H' ∧ H' D = some (.lst ((roundsN rows cl i).map optI)))
        ⟨_, _, _, _, rfl, e1, hl1⟩ (fun i σ H2 hi h2 => ?_) (fun σ H2 h2 => ?_)⟩
      · obtain ⟨v3, v4, v5, v6, rfl, e2, hd2⟩ := h2
        have hlen := roundsN_len rows cl i
        generalize hnd : roundsN rows cl i = nd at hd2 hlen
        have ndz : nd.length ≤ 1000 := by omega
        refine ⟨_, rfl, _, _, rfl, SqL.of hd2, fun D2 hD2 => lcE (prd_map optI nd) (f := fun q => V.int (q.2 : Nat)) (p := fun q => decide (q.1 = some ((1 + (i : Nat) : Int) - 1))) (SqL.of hd2) hD2 (by rw [List.length_map]; exact sl_lt (by omega)) (fun d j x T2 H3 hj hR e3 hT2 Q1 Q0 k1 k0 => ?_) (fun H3 e3 hl3 => ?_)⟩
        · subst hR
          have e4 := Ext.upd (o := .tup [.int (j : Nat), optI d]) hT2
          refine ⟨_, _, rfl, SqT.of upd_same, rfl, _, _, rfl, _, _, rfl, rfl, rfl, ?_⟩
          refine ⟨_, rfl, _, rfl, _, _, rfl, rfl, scal_opt d _, _, rfl, ?_⟩
          rw [optI_eq]
          refine ite2 (fun h => ⟨_, rfl, k1 h _ e4⟩) (fun h => k0 (Bool.eq_false_iff.mpr h) _ e4)
        · have hl4 : H3 D2 = some (.lst ((nearer nd (1 + (i : Nat))).map V.int)) := by
            rw [hl3]
            unfold nearer
            rw [List.map_map]
            rfl
          have hd3 := e3 _ _ hd2
          have hne : D ≠ D2 := fun z => by rw [z, hD2] at hd2; cases hd2
          have e13 := e2.trans e3
          generalize hnr : nearer nd (1 + (i : Nat)) = ne at hl4
          refine ⟨_, rfl, a, xs, rfl, hx.ext e13, for_it walk_enumT (fun j σ H' => ∃ v5 v6, σ = [some (.ref a), some (.ref c), some (.ref D), some (.int (1 + (i : Nat))), some (.ref D2), v5, v6, none, none] ∧ Ext H H' ∧ H' D = some (.lst ((midN ne (1 + (i : Nat)) nd rows j).map optI)) ∧ H' D2 = some (.lst (ne.map V.int)))
            ⟨_, _, rfl, e13, by rw [midN_zero]; exact hd3, hl4⟩ (fun j σ H' hj h => hx.ext h.choose_spec.choose_spec.2.1) (fun j v σ H4 H5 hj h4 hy => ?_) (fun σ H4 h4 => ?_)⟩
          · obtain ⟨v5, v6, rfl, e4, hd4, hr4⟩ := h4
            obtain ⟨T2, x0, y0, rfl, hT2, rfl, h6, h7⟩ := hy
            have h8 : x0 = V.int (j : Nat) := (Option.some.inj h6).symm
            subst h8
            obtain ⟨r, hr, _, p1, rfl, hp1⟩ := prd_at hP h7
            have hjr : j < rows.length := (List.getElem?_eq_some_iff.mp hr).1
            obtain ⟨d, hd⟩ : ∃ d, nd[j]? = some d := ⟨_, List.getElem?_eq_getElem (by omega)⟩
            have e5 := Ext.upd (o := .tup [.int (j : Nat), .ref p1]) hT2
            have e45 := e4.trans e5
            have hd5 := e5 _ _ hd4
            have hr5 := e5 _ _ hr4
            have hmid := midN_at (ne := ne) (k := 1 + (i : Nat)) hlen hd
            have hset := midN_succ (ne := ne) (k := 1 + (i : Nat)) hlen hd hr
            have hml := midN_len (ne := ne) (k := 1 + (i : Nat)) hlen j
            refine ⟨_, _, rfl, SqT.of upd_same, rfl, _, _, rfl, _, _, rfl, rfl, ?_⟩
            generalize upd H4 T2 (.tup [.int (j : Nat), .ref p1]) = H5 at e5 e45 hd5 hr5
            refine ⟨_, rfl, _, rfl, _, _, _, _, rfl, rfl, SqL.of hd5, atI_nat (by rw [List.getElem?_map, hmid]; rfl), rfl, _, rfl, ?_⟩
            rw [optI_non]
            -- what stands behind the turn where nothing is stored
            have keepN : stepC ne (1 + (i : Nat)) d r = d → ∀ H6, Ext H5 H6 → ∃ v5 v6, ([some (V.ref a), some (.ref c), some (.ref D), some (.int (1 + (i : Nat))), some (.ref D2), some (.int (j : Nat)), some (.ref p1), none, none] : L2.St) = [some (.ref a), some (.ref c), some (.ref D), some (.int (1 + (i : Nat))), some (.ref D2), v5, v6, none, none] ∧ Ext H H6 ∧ H6 D = some (.lst ((midN ne (1 + (i : Nat)) nd rows (j + 1)).map optI)) ∧ H6 D2 = some (.lst (ne.map V.int)) := fun hst H6 e6 =>
              ⟨_, _, rfl, e45.trans e6, by rw [hset, hst, set_same hmid]; exact e6 _ _ hd5, e6 _ _ hr5⟩
            refine ite2 (fun h => ?_) (fun h => ?_)
            · have hd0 : d = none := of_decide_eq_true h
              refine ⟨_, rfl, p1, rfl, ⟨_, hp1.ext e45⟩, fun D3 hD3 => lcPTy (prd_map optI r) (fun o => V.bl (inNear ne o)) (hp1.ext e45) hD3 (by rw [List.length_map]; exact sl_lt (by have := hrz r (List.mem_of_getElem? hr); omega)) (fun x o H' hm hx2 e Q1 k1 => ⟨rfl, ?_⟩) (fun H6 e6 hl6 => ?_)⟩
              · subst hx2
                refine ⟨_, rfl, _, rfl, _, _, rfl, .inl (SqL.of (e _ _ hr5)), flat_opt o, flat_ints ne, ?_⟩
                rw [if_neg Bool.false_ne_true, inV_near]
                exact k1 _ Ext.rfl'
              · refine ⟨D3, r.map (inNear ne), rfl, SqL.of (by rw [hl6, bls]), _, rfl, ?_⟩
                rw [any_id]
                refine ite2 (fun h2 => ?_) (fun h2 => keepN (by unfold stepC; rw [if_neg (by rintro ⟨_, z⟩; exact h2 z)]) _ e6)
                have hst : stepC ne (1 + (i : Nat)) d r = some ((1 : Int) + ((i : Nat) : Int)) := by
                  unfold stepC
                  rw [if_pos ⟨hd0, h2⟩]
                refine ⟨_, rfl, _, rfl, _, rfl, D, _, _, j, rfl, rfl, e6 _ _ hd5, Evl.ixN_nat (by rw [List.length_map, hml]; omega), ?_⟩
                refine ⟨_, _, rfl, ?_, ?_, ?_⟩
                · exact ext_mut (e45.trans e6) hD
                · rw [upd_same, hset, hst, List.map_set]
                  rfl
                · rw [upd_ne (Ne.symm hne)]
                  exact e6 _ _ hr5
            · exact keepN (by unfold stepC; rw [if_neg (by rintro ⟨z, _⟩; exact h (decide_eq_true z))]) _ Ext.rfl'
          · obtain ⟨v5, v6, rfl, e4, hd4, hr4⟩ := h4
            refine ⟨_, _, _, _, rfl, e4, ?_⟩
            rw [hd4, hl, midN_end hlen]
            show _ = some (HO.lst ((stepN (1 + (i : Nat)) (roundsN rows cl i) rows).map optI))
            unfold stepN
            rw [hnd, hnr]
      · obtain ⟨v3, v4, v5, v6, rfl, e2, hd2⟩ := h2
        refine ⟨_, rfl, _, _, rfl, .inl ⟨SqL.of hd2, fun q hq => k q _ (e2.trans (Ext.upd hq)) (SqT.of ?_)⟩⟩
        rw [upd_same]
        have e : ((xs.length : Int) - 1).toNat = rows.length - 1 := by omega
        rw [e]
        rfl
end
end K12
namespace K12
open PySem PySem.Spec PyProof.Rows L2
/-! ### comprehensions whose elements are new objects -/
theorem lcRel {β : Type} {Rel : V → β → Prop} {J : It} {G : Hp → Prop} {xs : List V} {rows : List β} {g : TG} {te : TE} {vs : List Nat} {σ : L2.St} {H1 : Hp} {D : Addr} {Qd : Hp → Prop} (w : Walk J xs.length G (YAt xs)) (hp : Paired Rel xs rows) (Out : Hp → V → β → Prop)
    (mono : ∀ H H' v r, Ext H H' → Out H v r → Out H' v r) (stab : ∀ H acc acc' v r, H D = some (.lst acc) → Out H v r → Out (upd H D (.lst acc')) v r) (hD : H1 D = none) (hz : xs.length < sizeLine) (hG : ∀ H, Ext H1 H → G H)
    (hs : ∀ x r H, r ∈ rows → Rel x r → Ext H1 H → (∃ acc, H D = some (.lst acc)) → ∀ (Q : VK), (∀ y H4, Ext H H4 → Out H4 y r → Q y H4) → g x (wipe σ vs) H fun σ2 H2 => wipe σ2 vs = wipe σ vs ∧ te σ2 H2 Q)
    (hd : ∀ H' acc, Ext H1 H' → H' D = some (.lst acc) → Paired (Out H') acc rows → Qd H') :
    ∃ W : Nat → Nat → Hp → Prop, (∃ m, W 0 m (upd H1 D (.lst []))) ∧ ∀ i m H, W i m H →
      (J.stop i H ∧ Qd H) ∨ (J.go i H ∧ ∃ Nx : Hp → Prop, (∀ H', Nx H' → ∃ m', m' < m ∧ W (i + 1) m' H') ∧ ∀ x H', J.yld i H x H' → g x (wipe σ vs) H' fun σ2 H2 => wipe σ2 vs = wipe σ vs ∧ tYes σ2 H2 fun b H3 =>
        if b = true then te σ2 H3 fun y H4 => ∃ acc, H4 D = some (.lst acc) ∧ acc.length < sizeLine ∧ Nx (upd H4 D (.lst (acc ++ [y]))) else Nx H3) := by
  have hl := prd_len hp
  refine lc_it (tt := tYes) w (fun i H => Ext H1 H ∧ ∃ acc, H D = some (.lst acc) ∧ Paired (Out H) acc (rows.take i)) ⟨Ext.upd hD, [], upd_same, .nil⟩ (fun i H _ h => hG H h.1) (fun i x H H' hi h y => ?_)
    (fun H h => by
      obtain ⟨e, acc, h1, h2⟩ := h
      rw [hl, List.take_length] at h2
      exact hd H acc e h1 h2)
  obtain ⟨e, acc, h1, h2⟩ := h
  obtain ⟨rfl, hx⟩ := y
  obtain ⟨r, hr, _, hrel⟩ := prd_at hp hx
  have hal : acc.length = i := by rw [prd_len h2, List.length_take]; omega
  refine hs x r _ (List.mem_of_getElem? hr) hrel e ⟨acc, h1⟩ _ fun y H4 e4 ho => ⟨acc, e4 _ _ h1, by omega, ext_mut (e.trans e4) hD, acc ++ [y], upd_same, ?_⟩
  rw [take_succ_f hr]
  exact prd_app (prd_mono (fun v q z => stab _ _ _ v q (e4 _ _ h1) (mono _ _ v q e4 z)) h2) (.cons (stab _ _ _ y r (e4 _ _ h1) ho) .nil)
section
variable {K : PySem.W.Frag} {H H' : Hp}
theorem SqT.updL {D : Addr} {acc acc' : List V} {a : Addr} {xs : List V} (hD : H D = some (.lst acc)) (h : SqT K H a xs) : SqT K (upd H D (.lst acc')) a xs := by
  rcases h with (h | ⟨o, h⟩) | h
  · exact .inl (.inl (by rw [upd_ne (ne_of h hD (by intro z; cases z))]; exact h))
  · exact .inl (.inr ⟨o, by rw [upd_ne (ne_of h hD (by intro z; cases z))]; exact h⟩)
  · exact .inr h
theorem RowT.updL {D : Addr} {acc acc' : List V} {v : V} {r : Row} (hD : H D = some (.lst acc)) (h : RowT K H v r) : RowT K (upd H D (.lst acc')) v r := by
  obtain ⟨p, h1, h2⟩ := h
  exact ⟨p, h1, SqT.updL hD h2⟩
/-- all but x as it was -/
def Exb (x : Addr) (H H' : Hp) : Prop := ∀ b o, H b = some o → b ≠ x → H' b = some o
theorem Exb.of {x : Addr} (e : Ext H H') : Exb x H H' := fun b o h _ => e b o h
theorem Exb.trans {x : Addr} {H'' : Hp} (e : Exb x H H') (e' : Exb x H' H'') : Exb x H H'' := fun b o h n => e' b o (e b o h n) n
theorem Exb.upd {x : Addr} {o : HO} : Exb x H (upd H x o) := fun b u h n => by rw [upd_ne n]; exact h
theorem Exb.sqL {x C dx : Addr} {fs : List (Str × V)} {a : Addr} {xs : List V} (e : Exb x H H') (hx : H x = some (.ins C dx fs)) (h : SqL K H a xs) : SqL K H' a xs := by
  rcases h with (h | ⟨o, h⟩) | h
  · exact .inl (.inl (e _ _ h (ne_of h hx (by intro z; cases z))))
  · exact .inl (.inr ⟨o, e _ _ h (ne_of h hx (by intro z; cases z))⟩)
  · exact .inr h
theorem Exb.sqT {x C dx : Addr} {fs : List (Str × V)} {a : Addr} {xs : List V} (e : Exb x H H') (hx : H x = some (.ins C dx fs)) (h : SqT K H a xs) : SqT K H' a xs := by
  rcases h with (h | ⟨o, h⟩) | h
  · exact .inl (.inl (e _ _ h (ne_of h hx (by intro z; cases z))))
  · exact .inl (.inr ⟨o, e _ _ h (ne_of h hx (by intro z; cases z))⟩)
  · exact .inr h
theorem Exb.tabL {x C dx : Addr} {fs : List (Str × V)} {a : Addr} {rows : List Row} (e : Exb x H H') (hx : H x = some (.ins C dx fs)) (h : TabL K H a rows) : TabL K H' a rows := by
  obtain ⟨xs, h1, h2⟩ := h
  refine ⟨xs, e.sqL hx h1, prd_mono (fun v r z => ?_) h2⟩
  obtain ⟨p, h3, h4⟩ := z
  exact ⟨p, h3, e.sqL hx h4⟩
theorem Exb.tabT {x C dx : Addr} {fs : List (Str × V)} {a : Addr} {rows : List Row} (e : Exb x H H') (hx : H x = some (.ins C dx fs)) (h : TabT K H a rows) : TabT K H' a rows := by
  obtain ⟨xs, h1, h2⟩ := h
  refine ⟨xs, e.sqT hx h1, prd_mono (fun v r z => ?_) h2⟩
  obtain ⟨p, h3, h4⟩ := z
  exact ⟨p, h3, e.sqT hx h4⟩
end
/-! ### an automaton -/
theorem ne_str {a b : String} (h : a.toList.map Char.toNat ≠ b.toList.map Char.toNat) : ¬ (Str.ofString a = Str.ofString b) := fun e => h (by
  have := congrArg TL.tl e
  rwa [TL.tl_ofString, TL.tl_ofString] at this)
def autFs (t c k n : V) : List (Str × V) := [("table", t), ("closing", c), ("tokens", k), ("_needs", n)]
theorem put_hd {f : Str} {v u : V} {fs : List (Str × V)} : putF f v ((f, u) :: fs) = (f, v) :: fs := by
  show (if f = f then _ else _) = _
  rw [if_pos rfl]
theorem put_tl {f g : Str} {v u : V} {fs : List (Str × V)} (h : ¬ g = f) : putF f v ((g, u) :: fs) = (g, u) :: putF f v fs := by
  show (if g = f then _ else _) = _
  rw [if_neg h]
theorem look_hd {f : Str} {v : V} {fs : List (Str × V)} : ((f, v) :: fs).lookup f = some v := by
  simp [List.lookup]
theorem look_tl {f g : Str} {v : V} {fs : List (Str × V)} (h : ¬ f = g) : ((g, v) :: fs).lookup f = fs.lookup f := by
  have e : (f == g) = false := by simpa using h
  simp [List.lookup, e]
end K12
namespace K12
open PySem PySem.Spec PyProof.Rows L2
def autWide (rows : List Row) : Int := ((rows.headD []).length : Int) + 1
/-- an automaton -/
def AutAt (K : PySem.W.Frag) (H : Hp) (x : Addr) (rows : List Row) (cl : List Int) : Prop := ∃ dx pt pc pn, H x = some (.ins (cA K) dx (autFs (.ref pt) (.ref pc) (.int (autWide rows)) (.ref pn))) ∧ TabT K H pt rows ∧ SqT K H pc (cl.map V.int) ∧ SqT K H pn ((needsF rows cl).map optI)
theorem AutAt.ext {K : PySem.W.Frag} {H H' : Hp} {x : Addr} {rows : List Row} {cl : List Int} (h : AutAt K H x rows cl) (e : Ext H H') : AutAt K H' x rows cl := by
  obtain ⟨dx, pt, pc, pn, h1, h2, h3, h4⟩ := h
  exact ⟨dx, pt, pc, pn, e _ _ h1, h2.ext e, h3.ext e, h4.ext e⟩
/-- a good table -/
structure GoodT (rows : List Row) : Prop where
  len : 1 ≤ rows.length ∧ rows.length ≤ 6
  wide : 1 ≤ (rows.headD []).length ∧ (rows.headD []).length ≤ 5
  all : ∀ r ∈ rows, r.length = (rows.headD []).length ∧ ∀ n, some n ∈ r → 0 ≤ n ∧ n < (rows.length : Int)
structure GoodC (n : Nat) (cl : List Int) : Prop where
  asc : cl.Pairwise (· < ·)
  rg : ∀ m ∈ cl, 0 ≤ m ∧ m < (n : Int)
  len : cl.length ≤ 60
theorem lenIn_iff {n : Nat} {lo hi : Int} : lenIn n lo hi = true ↔ lo ≤ (n : Int) ∧ (n : Int) ≤ hi := by
  unfold lenIn
  rw [Bool.and_eq_true, decide_eq_true_eq, decide_eq_true_eq]
theorem isNum_iff {n lo hi : Int} : isNum (some n) lo hi = true ↔ lo ≤ n ∧ n ≤ hi := by
  show (decide (lo ≤ n) && decide (n ≤ hi)) = true ↔ _
  rw [Bool.and_eq_true, decide_eq_true_eq, decide_eq_true_eq]
theorem isTable_iff {rows : List Row} : isTable rows = true ↔ GoodT rows := by
  unfold isTable
  rw [Bool.and_eq_true, Bool.and_eq_true, lenIn_iff, lenIn_iff, List.all_eq_true]
  constructor
  · rintro ⟨h1, h2, h3⟩
    refine ⟨⟨by omega, by omega⟩, ⟨by omega, by omega⟩, fun r hr => ?_⟩
    have h := h3 r hr
    unfold isLine at h
    rw [Bool.and_eq_true, decide_eq_true_eq, List.all_eq_true] at h
    refine ⟨by have := h.1; omega, fun n hn => ?_⟩
    have h4 : isNum (some n) 0 ((rows.length : Int) - 1) = true := h.2 _ hn
    rw [isNum_iff] at h4
    omega
  · rintro ⟨h1, h2, h3⟩
    refine ⟨⟨by omega, by omega⟩, ⟨by omega, by omega⟩, fun r hr => ?_⟩
    obtain ⟨h4, h5⟩ := h3 r hr
    unfold isLine
    rw [Bool.and_eq_true, decide_eq_true_eq, List.all_eq_true]
    refine ⟨by omega, fun o ho => ?_⟩
    cases o with
    | none => rfl
    | some n =>
      have h6 := h5 n ho
      show isNum (some n) 0 ((rows.length : Int) - 1) = true
      rw [isNum_iff]
      omega
theorem GoodT.rowz {rows : List Row} (g : GoodT rows) : ∀ r ∈ rows, r.length ≤ 5 := fun r hr => by
  have := (g.all r hr).1
  have := g.wide.2
  omega
section
variable {P : Program} {w : World} {K : PySem.W.Frag} {mg : Str → Option Value} {base : Heap}
abbrev s_Automaton___init__ : Stmt := inClass (top 15) 0
theorem sc_Automaton___init__ : FnScope ["self", "table", "closing", "line", "state"] ["self", "table", "closing"] (defScope s_Automaton___init__) := ⟨rfl, rfl, rfl, by decide +kernel, rfl, by decide +kernel, by decide +kernel⟩
def sp_Automaton___init__ (K : PySem.W.Frag) : Sp := fun vs H Q _ => ∃ (x a c dx : Addr) (rows : List Row) (cl : List Int), vs = [.ref x, .ref a, .ref c] ∧ H x = some (.ins (cA K) dx []) ∧ TabL K H a rows ∧ SqL K H c (cl.map V.int) ∧ GoodT rows ∧ GoodC rows.length cl ∧
  ∀ H', Exb x H H' → AutAt K H' x rows cl → Q .non H'
theorem c_Automaton___init__ (T : Txt K mg) : MCal P w K mg base CX0 5 (He.ma K (cA K) "__init__") (sp_Automaton___init__ K) := by
  obtain ⟨fd, F⟩ := T.da_init.f
  obtain ⟨ds, hd, hb⟩ := FunD.binds1 (ps := ["self", "table", "closing"]) F 3 1 (by intro z; cases z) rfl (fun T' kV doc pm an cdv ct us its l1 l2 => match us, l1, its, l2 with | [_, _, _], _, [_], _ => ⟨_, rfl, rfl⟩)
  have e0 : ds = [] := by
    have h := hd.length
    cases ds with
    | nil => rfl
    | cons _ _ => cases h
  subst e0
  refine ⟨fd, _, DfM.fn F sc_Automaton___init__ (fun vs H Q E h => ?_) (fun f cdv A outer s H vs Q E hr h => ?_), hb⟩
  · obtain ⟨x, a, c, dx, rows, cl, rfl, _⟩ := h
    rfl
  · obtain ⟨x, a, c, dx, rows, cl, rfl, hx, hT, hC, gT, gC, k⟩ := h
    refine ⟨_, PSs.nox (pss_cons (ps_if (pt_not (pt_val (pe_c (c__is_table T) hr (by decide) rfl (pa_cons (pv 1) pa_nil)))) (pss_one ps_never) pss_nil)
  (pss_cons (ps_if (pt_not (pt_val (pe_c (c__are_closing T) hr (by decide) rfl (pa_cons (pv 2) (pa_cons (pe_callB (call_lenK (K := K)) rfl T.n_len bt_len (pa_cons (pv 1) pa_nil)) pa_nil))))) (pss_one ps_never) pss_nil)
  (pss_cons (ps_fld (pv 0) (pe_callTy (call_tupleK (K := K)) rfl T.n_tuple bt_tuple (pa_cons (pe_lc (own := [("line", 3)]) (g := gName 3) (tt := tYes) rfl sc_Automaton___init__.nd (pi_listK (K := K) (pv 1)) (blkOk_by (by kernel_rfl)) (fun _ _ _ _ _ => (pg_name (i := 3) sc_Automaton___init__.nd rfl (Or.inl rfl))) (fun _ _ _ _ _ => pts_nil) (fun _ _ _ _ _ => (pe_callTy (call_tupleK (K := K)) rfl T.n_tuple bt_tuple (pa_cons (pv 3) pa_nil)))) pa_nil)) rfl)
  (pss_cons (ps_fld (pv 0) (pe_callTy (call_tupleK (K := K)) rfl T.n_tuple bt_tuple (pa_cons (pe_callB cr_sorted rfl T.n_sorted bt_sorted (pa_cons (pe_lc (own := [("state", 4)]) (g := gName 4) (tt := tYes) rfl sc_Automaton___init__.nd (pi_listK (K := K) (pv 2)) (blkOk_by (by kernel_rfl)) (fun _ _ _ _ _ => (pg_name (i := 4) sc_Automaton___init__.nd rfl (Or.inl rfl))) (fun _ _ _ _ _ => pts_nil) (fun _ _ _ _ _ => (pe_callTy call_int1 rfl T.n_int bt_int (pa_cons (pv 4) pa_nil)))) pa_nil)) pa_nil)) rfl)
  (pss_cons (ps_fld (pv 0) (pe_op op_add (pe_callB (call_lenK (K := K)) rfl T.n_len bt_len (pa_cons (pe_ix (ix_tupK (K := K)) (pe_fldK (K := K) (pv 0) rfl) pe_int (fun _ _ => rfl)) pa_nil)) pe_int) rfl)
  (pss_one (ps_fld (pv 0) (pe_c (c__needs T) hr (by decide) rfl (pa_cons (pe_fldK (K := K) (pv 0) rfl) (pa_cons (pe_fldK (K := K) (pv 0) rfl) pa_nil))) rfl))))))), ?_⟩
    refine ⟨_, rfl, a, rows, rfl, hT, by have := gT.len; omega, fun r hr => by have := gT.rowz r hr; omega, fun H1 e1 => ?_⟩
    rw [isTable_iff.mpr gT]
    refine ⟨_, rfl, iteF ?_⟩
    obtain ⟨xs, hxs, hP⟩ := hT
    have hxl := prd_len hP
    refine ⟨_, rfl, _, rfl, _, _, rfl, .inl (hxs.ext e1), c, cl, _, rfl, hC.ext e1, by have := gC.len; omega, ?_, fun m hm => ?_, fun H2 e2 => ?_⟩
    · exact gC.asc.imp fun h => by omega
    · have := gC.rg m hm
      omega
    refine ⟨_, rfl, iteF ?_⟩
    -- self.table
    have e02 := e1.trans e2
    have hx2 := e02 _ _ hx
    refine ⟨_, rfl, a, rfl, ⟨_, hxs.ext e02⟩, fun D hD => lcRel walk_list (prd_mono (fun _ _ z => z.ext e02) hP) (RowT K) (fun _ _ _ _ e z => z.ext e) (fun _ _ _ _ _ hD z => z.updL hD) hD (by rw [hxl]; exact sl_lt (by have := gT.len; omega)) (fun H' e => (hxs.ext e02).ext e)
      (fun v r H' hr hq e _ Q1 k1 => ⟨rfl, ?_⟩) (fun H3 acc e3 hD3 hP3 => ?_)⟩
    · obtain ⟨p, rfl, hq⟩ := hq
      exact ⟨_, rfl, p, _, rfl, .inl ⟨hq.ext e, fun l hl => k1 _ _ (Ext.upd hl) ⟨l, rfl, SqT.of upd_same⟩⟩⟩
    refine ⟨D, acc, rfl, .inl ⟨SqL.of hD3, fun l hl => ?_⟩⟩
    have e4 : Ext H3 (upd H3 l (.tup acc)) := Ext.upd hl
    have hT4 : TabT K (upd H3 l (.tup acc)) l rows := ⟨acc, SqT.of upd_same, prd_mono (fun _ _ z => z.ext e4) hP3⟩
    have e24 := e02.trans (e3.trans e4)
    revert hT4 e24
    generalize upd H3 l (.tup acc) = H4
    intro hT4 e24
    have hx4 := e24 _ _ hx
    refine ⟨_, rfl, x, cA K, dx, [], rfl, hx4, T.a_cls, T.a_no_table, by decide, ?_⟩
    have b5 : Exb x H (upd H4 x (.ins (cA K) dx (putF "table" (.ref l) []))) := (Exb.of e24).trans Exb.upd
    have hx5 : (upd H4 x (.ins (cA K) dx (putF "table" (.ref l) []))) x = some (.ins (cA K) dx [("table", .ref l)]) := upd_same
    have hT5 : TabT K (upd H4 x (.ins (cA K) dx (putF "table" (.ref l) []))) l rows := (Exb.upd (x := x)).tabT hx4 hT4
    revert b5 hx5 hT5
    generalize upd H4 x (.ins (cA K) dx (putF "table" (.ref l) [])) = H5
    intro b5 hx5 hT5
    -- self.closing
    have hC5 := b5.sqL hx hC
    refine ⟨_, rfl, c, rfl, ⟨_, hC5⟩, fun D2 hD2 => lcPLy (prd_map V.int cl) V.int hC5 hD2 (by rw [List.length_map]; exact sl_lt (by have := gC.len; omega)) (fun v i H' hi hv e Q1 k1 => ⟨rfl, ?_⟩) (fun H6 e6 hD6 => ?_)⟩
    · subst hv
      exact ⟨_, rfl, .inl ⟨_, rfl, k1 _ Ext.rfl'⟩⟩
    refine ⟨D2, cl, rfl, SqL.of hD6, by have := gC.len; omega, fun ns' p h1 h2 h3 => ?_⟩
    have ens : ns' = cl := PySem.W.ksm_same h1 h2 (gC.asc.imp fun h => by omega)
    subst ens
    refine ⟨p, _, rfl, .inl ⟨SqL.of upd_same, fun q hq => ?_⟩⟩
    have e7 : Ext H5 (upd (upd H6 p (.lst (ns'.map V.int))) q (.tup (ns'.map V.int))) := e6.trans ((Ext.upd h3).trans (Ext.upd hq))
    have hC7 : SqT K (upd (upd H6 p (.lst (ns'.map V.int))) q (.tup (ns'.map V.int))) q (ns'.map V.int) := SqT.of upd_same
    revert e7 hC7
    generalize upd (upd H6 p (.lst (ns'.map V.int))) q (.tup (ns'.map V.int)) = H7
    intro e7 hC7
    have b7 := b5.trans (Exb.of e7)
    have hx7 := e7 _ _ hx5
    have hT7 := hT5.ext e7
    refine ⟨_, rfl, x, cA K, dx, _, rfl, hx7, T.a_cls, T.a_no_closing, (by show 1 < 1000; decide), ?_⟩
    have b8 : Exb x H (upd H7 x (.ins (cA K) dx (putF "closing" (.ref q) [("table", .ref l)]))) := b7.trans Exb.upd
    have hx8 : (upd H7 x (.ins (cA K) dx (putF "closing" (.ref q) [("table", .ref l)]))) x = some (.ins (cA K) dx [("table", .ref l), ("closing", .ref q)]) := by
      rw [upd_same, put_tl (ne_str (by decide))]
      rfl
    have hT8 := (Exb.upd (x := x) (o := .ins (cA K) dx (putF "closing" (.ref q) [("table", .ref l)]))).tabT hx7 hT7
    have hC8 := (Exb.upd (x := x) (o := .ins (cA K) dx (putF "closing" (.ref q) [("table", .ref l)]))).sqT hx7 hC7
    revert b8 hx8 hT8 hC8
    generalize upd H7 x (.ins (cA K) dx (putF "closing" (.ref q) [("table", .ref l)])) = H8
    intro b8 hx8 hT8 hC8
    -- self.tokens
    obtain ⟨ys, hys, hPy⟩ := id hT8
    have hyl := prd_len hPy
    cases rows with
    | nil => exact absurd gT.len.1 (by decide)
    | cons r0 rows' =>
    cases hPy with
    | @cons v0 _ ys' _ hq0 ht0 =>
    obtain ⟨p0, rfl, hq0⟩ := hq0
    refine ⟨_, rfl, x, cA K, dx, _, _, rfl, hx8, T.a_cls, T.a_no_table, look_hd, _, _, _, _, rfl, rfl, hys, at0, _, _, rfl, .inr hq0, _, _, rfl, rfl, ?_⟩
    rw [List.length_map]
    refine ⟨_, rfl, x, cA K, dx, _, rfl, hx8, T.a_cls, T.a_no_tokens, (by show 2 < 1000; decide), ?_⟩
    have e9 : (fun i j : Int => V.int (i + j)) ((r0.length : Nat) : Int) 1 = V.int (autWide (r0 :: rows')) := rfl
    rw [e9]
    obtain ⟨wd, hwd⟩ : ∃ wd, wd = autWide (r0 :: rows') := ⟨_, rfl⟩
    rw [← hwd]
    have b9 : Exb x H (upd H8 x (.ins (cA K) dx (putF "tokens" (.int wd) [("table", .ref l), ("closing", .ref q)]))) := b8.trans Exb.upd
    have hx9 : (upd H8 x (.ins (cA K) dx (putF "tokens" (.int wd) [("table", .ref l), ("closing", .ref q)]))) x = some (.ins (cA K) dx [("table", .ref l), ("closing", .ref q), ("tokens", .int wd)]) := by
      rw [upd_same, put_tl (ne_str (by decide)), put_tl (ne_str (by decide))]
      rfl
    have hT9 := (Exb.upd (x := x) (o := .ins (cA K) dx (putF "tokens" (.int wd) [("table", .ref l), ("closing", .ref q)]))).tabT hx8 hT8
    have hC9 := (Exb.upd (x := x) (o := .ins (cA K) dx (putF "tokens" (.int wd) [("table", .ref l), ("closing", .ref q)]))).sqT hx8 hC8
    revert b9 hx9 hT9 hC9
    generalize upd H8 x (.ins (cA K) dx (putF "tokens" (.int wd) [("table", .ref l), ("closing", .ref q)])) = H9
    intro b9 hx9 hT9 hC9
    -- self._needs
    have gr := gT.rowz
    have gl := gT.len
    refine ⟨_, rfl, x, cA K, dx, _, _, rfl, hx9, T.a_cls, T.a_no_table, look_hd, _, rfl, x, cA K, dx, _, _, rfl, hx9, T.a_cls, T.a_no_closing, (look_tl (ne_str (by decide))).trans look_hd, l, q, _, _, rfl, hT9, hC9, by omega, fun r hr => by have := gr r hr; omega, fun pn H10 e10 hN => ?_⟩
    have hx10 := e10 _ _ hx9
    refine ⟨_, rfl, x, cA K, dx, _, rfl, hx10, T.a_cls, T.a_no__needs, (by show 3 < 1000; decide), k _ ((b9.trans (Exb.of e10)).trans Exb.upd) ?_⟩
    refine ⟨dx, l, q, pn, ?_, Exb.upd.tabT hx10 (hT9.ext e10), Exb.upd.sqT hx10 (hC9.ext e10), Exb.upd.sqT hx10 hN⟩
    rw [← hwd, upd_same, put_tl (ne_str (by decide)), put_tl (ne_str (by decide)), put_tl (ne_str (by decide))]
    rfl
end
end K12
namespace K12
open PySem PySem.Spec PyProof.Rows L2 SX
theorem lcETy {β : Type} {Rel : V → β → Prop} {K : PySem.W.Frag} {a : Addr} {xs : List V} {l : List β} {g : TG} {te : TE} {vs : List Nat} {σ : L2.St} {H1 : Hp} {D : Addr} {Qd : Hp → Prop} (hp : Paired Rel xs l) (f : β × Nat → V) (ha : SqT K H1 a xs) (hD : H1 D = none) (hz : xs.length < sizeLine)
    (hs : ∀ r i x T H, l[i]? = some r → Rel x r → Ext H1 H → H T = none → ∀ (Q : VK), (∀ H4, Ext H H4 → Q (f (r, i)) H4) → g (.ref T) (wipe σ vs) (upd H T (.tup [.int (i : Nat), x])) fun σ2 H2 => wipe σ2 vs = wipe σ vs ∧ te σ2 H2 Q)
    (hd : ∀ H', Ext H1 H' → H' D = some (.lst (l.zipIdx.map f)) → Qd H') :
    ∃ W : Nat → Nat → Hp → Prop, (∃ m, W 0 m (upd H1 D (.lst []))) ∧ ∀ i m H, W i m H →
      ((IteT K a).stop i H ∧ Qd H) ∨ ((IteT K a).go i H ∧ ∃ Nx : Hp → Prop, (∀ H', Nx H' → ∃ m', m' < m ∧ W (i + 1) m' H') ∧ ∀ x H', (IteT K a).yld i H x H' → g x (wipe σ vs) H' fun σ2 H2 => wipe σ2 vs = wipe σ vs ∧ tYes σ2 H2 fun b H3 =>
        if b = true then te σ2 H3 fun y H4 => ∃ acc, H4 D = some (.lst acc) ∧ acc.length < sizeLine ∧ Nx (upd H4 D (.lst (acc ++ [y]))) else Nx H3) :=
  lcET (tt := tYes) hp f (fun _ => true) ha hD hz (fun r i x T H h1 h2 e hT Q Q0 k _ => hs r i x T H h1 h2 e hT Q (k rfl)) (fun H' e h => hd H' e (by rw [h, filter_tt]))
/-! ### Automaton.need, __eq__, __str__ -/
def needF0 (rows : List Row) (cl : List Int) : Option Int := (needsF rows cl).headD none
/-- the word of an automaton -/
def autPieces (rows : List Row) (cl : List Int) : List (List Nat) := rows.zipIdx.map fun q => stWord q.1 (decide (((q.2 : Nat) : Int) ∈ cl))
def autWord (rows : List Row) (cl : List Int) : List Nat := TL.joinL [47] (autPieces rows cl)
theorem prs_flat {K : PySem.W.Frag} {H : Hp} : ∀ {α : Type} (f : α → V) (l : List α), (∀ a, flatV (f a) = true ∧ eqV (f a) (f a) = true) → Prs DFlat (l.map f) (l.map f) H := fun f l h => by
  refine ⟨rfl, fun i x y h1 h2 => ?_⟩
  rw [h1] at h2
  cases h2
  rw [List.getElem?_map] at h1
  cases e : l[i]? with
  | none =>
    rw [e] at h1
    cases h1
  | some a =>
    rw [e] at h1
    cases h1
    exact ⟨(h a).1, (h a).1, (h a).2⟩
theorem optI_eqV (o : Option Int) : eqV (optI o) (optI o) = true := by
  cases o with
  | none => rfl
  | some n =>
    show (n == n) = true
    exact beq_self_eq_true n
theorem int_eqV (n : Int) : eqV (.int n) (.int n) = true := beq_self_eq_true n
theorem dtab {K : PySem.W.Frag} {H : Hp} {a b : Addr} {rows : List Row} (h1 : TabT K H a rows) (h2 : TabT K H b rows) : DTup K (DTup K DFlat) (.ref a) (.ref b) H := by
  obtain ⟨xs, hx, hp⟩ := h1
  obtain ⟨ys, hy, hq⟩ := h2
  refine ⟨a, b, xs, ys, rfl, rfl, hx, hy, by rw [prd_len hp, prd_len hq], fun i x y hx hy => ?_⟩
  obtain ⟨r, hr, _, p, rfl, hp2⟩ := prd_at hp hx
  obtain ⟨r', hr', _, q, rfl, hq2⟩ := prd_at hq hy
  rw [hr] at hr'
  cases hr'
  exact ⟨p, q, _, _, rfl, rfl, hp2, hq2, prs_flat (K := K) optI r fun o => ⟨flat_opt o, optI_eqV o⟩⟩
theorem dints {K : PySem.W.Frag} {H : Hp} {a b : Addr} {ns : List Int} (h1 : SqT K H a (ns.map V.int)) (h2 : SqT K H b (ns.map V.int)) : DTup K DFlat (.ref a) (.ref b) H :=
  ⟨a, b, _, _, rfl, rfl, h1, h2, prs_flat (K := K) V.int ns fun n => ⟨rfl, int_eqV n⟩⟩
theorem InsTy.ty {K : PySem.W.Frag} {C : Addr} {H : Hp} {a dx : Addr} {fs : List (Str × V)} (t : InsTy K C) (c : Cls K C) (h : H a = some (.ins C dx fs)) : TyX K H (.ref a) (.ref C) := .base (.ins h c t.ha t.hn t.htk t.hm)
theorem lkA_table {t c k n : V} : (autFs t c k n).lookup ("table" : Str) = some t := look_hd
theorem lkA_closing {t c k n : V} : (autFs t c k n).lookup ("closing" : Str) = some c := (look_tl (ne_str (by decide))).trans look_hd
theorem lkA_tokens {t c k n : V} : (autFs t c k n).lookup ("tokens" : Str) = some k := (look_tl (ne_str (by decide))).trans ((look_tl (ne_str (by decide))).trans look_hd)
theorem lkA__needs {t c k n : V} : (autFs t c k n).lookup ("_needs" : Str) = some n := (look_tl (ne_str (by decide))).trans ((look_tl (ne_str (by decide))).trans ((look_tl (ne_str (by decide))).trans look_hd))
theorem sum_le {m : Nat} : ∀ ys : List (List Nat), (∀ y ∈ ys, y.length ≤ m) → ((ys.map S).map (·.length)).sum ≤ ys.length * m
  | [], _ => Nat.zero_le _
  | y :: ys, h => by
    have h1 := sum_le ys fun z hz => h z (List.mem_cons_of_mem _ hz)
    have h2 := h y List.mem_cons_self
    rw [List.map_cons, List.map_cons, List.sum_cons, List.length_cons, SX.S_len, Nat.succ_mul]
    omega
theorem cell_one (r : Row) : (r.flatMap cellL).length = r.length := by
  induction r with
  | nil => rfl
  | cons o r ih =>
    rw [List.flatMap_cons, List.length_append, ih]
    cases o <;> (show 1 + r.length = r.length + 1; omega)
theorem stWord_len (r : Row) (c : Bool) : (stWord r c).length = r.length + if c then 1 else 0 := by
  unfold stWord
  rw [List.length_append, cell_one]
  cases c <;> rfl
section
variable {P : Program} {w : World} {K : PySem.W.Frag} {mg : Str → Option Value} {base : Heap}
abbrev s_Automaton_need : Stmt := inClass (top 15) 4
theorem sc_Automaton_need : FnScope ["self", "state"] ["self", "state"] (defScope s_Automaton_need) := ⟨rfl, rfl, rfl, by decide +kernel, rfl, by decide +kernel, by decide +kernel⟩
def sp_Automaton_need (K : PySem.W.Frag) : Sp := fun vs H Q _ => ∃ (x : Addr) (rows : List Row) (cl : List Int), vs = [.ref x, .int 0] ∧ AutAt K H x rows cl ∧ rows ≠ [] ∧ Q (optI (needF0 rows cl)) H
theorem c_Automaton_need (T : Txt K mg) : MCal P w K mg base CX0 1 (He.ma K (cA K) "need") (sp_Automaton_need K) := by
  refine T.da_need.mcal sc_Automaton_need (fun _ _ _ _ _ _ us hl => match us, hl with | [_, _], _ => rfl) (fun vs H Q E h => ?_) (fun f cdv A outer s H vs Q E hr h => ?_)
  · obtain ⟨x, rows, cl, rfl, _⟩ := h
    rfl
  · obtain ⟨x, rows, cl, rfl, hA, hne, k⟩ := h
    refine ⟨_, (pss_one (ps_ret (pe_ix (ix_tupK (K := K)) (pe_fldK (K := K) (pv 0) rfl) (pv 1) (fun _ _ => rfl)))), ?_⟩
    obtain ⟨dx, pt, pc, pn, hx, hT, hC, hN⟩ := hA
    have hl : (needsF rows cl).length = rows.length := roundsN_len rows cl _
    unfold needF0 at k
    cases hn : needsF rows cl with
    | nil =>
      rw [hn] at hl
      exact absurd (List.length_eq_zero_iff.mp hl.symm) hne
    | cons n0 rest =>
      rw [hn] at hN k
      exact ⟨_, rfl, x, cA K, dx, _, _, rfl, hx, T.a_cls, T.a_no__needs, (look_tl (ne_str (by decide))).trans ((look_tl (ne_str (by decide))).trans ((look_tl (ne_str (by decide))).trans look_hd)), _, rfl, _, _, _, _, rfl, rfl, hN, at0, k⟩
def eqAut (K : PySem.W.Frag) (a b : Addr) (H : Hp) : Prop := ∃ rows cl, AutAt K H a rows cl ∧ AutAt K H b rows cl
abbrev s_Automaton___eq__ : Stmt := inClass (top 15) 8
theorem sc_Automaton___eq__ : FnScope ["self", "other"] ["self", "other"] (defScope s_Automaton___eq__) := ⟨rfl, rfl, rfl, by decide +kernel, rfl, by decide +kernel, by decide +kernel⟩
def sp_Automaton___eq__ (K : PySem.W.Frag) : Sp := spEq (eqAut K)
theorem c_Automaton___eq__ (T : Txt K mg) : MCal P w K mg base CX0 3 (He.ma K (cA K) "__eq__") (sp_Automaton___eq__ K) := by
  refine T.da_eq.mcal sc_Automaton___eq__ (fun _ _ _ _ _ _ us hl => match us, hl with | [_, _], _ => rfl) (fun vs H Q E h => ?_) (fun f cdv A outer s H vs Q E hr h => ?_)
  · obtain ⟨a, b, rfl, _⟩ := h
    rfl
  · obtain ⟨a, b, rfl, hA, k⟩ := h
    refine ⟨_, (pss_one (ps_ret (pe_and (pe_callB (call_isiK' (K := K)) rfl T.n_isinstance bt_isinstance (pa_cons (pv 1) (pa_cons (pe_glob (v := V.ref (cA K)) rfl T.g_Automaton rfl) pa_nil))) (pe_and (pe_cmpR (op_eqG (rcG_tup (mon_tup mon_flat) (eqG_tup mon_flat eqG_flat)) (hr.mono (by decide))) (pe_fldK (K := K) (pv 0) rfl) (pe_fldK (K := K) (pv 1) rfl) (nomark _)) (pe_and (pe_cmpR (op_eqG (rcG_tup mon_flat eqG_flat) (hr.mono (by decide))) (pe_fldK (K := K) (pv 0) rfl) (pe_fldK (K := K) (pv 1) rfl) (nomark _)) (pe_one (pe_cmpR op_eq (pe_fldK (K := K) (pv 0) rfl) (pe_fldK (K := K) (pv 1) rfl) (nomark _)))))))), ?_⟩
    obtain ⟨rows, cl, ⟨dx, pt, pc, pn, hx, hT, hC, hN⟩, dy, qt, qc, qn, hy, hT', hC', hN'⟩ := hA
    refine ⟨_, rfl, _, _, .ref (cA K), .ref (cA K), true, rfl, .own _, T.a_ty.ty T.a_cls hy, T.a_ty.self, ?_⟩
    refine ⟨_, rfl, iteT ⟨_, rfl, _, cA K, _, _, _, rfl, hx, T.a_cls, T.a_no_table, lkA_table, _, rfl, _, cA K, _, _, _, rfl, hy, T.a_cls, T.a_no_table, lkA_table, dtab hT hT', fun H1 e1 => ⟨_, rfl, iteT ?_⟩⟩⟩
    refine ⟨_, rfl, _, cA K, _, _, _, rfl, e1 _ _ hx, T.a_cls, T.a_no_closing, lkA_closing, _, rfl, _, cA K, _, _, _, rfl, e1 _ _ hy, T.a_cls, T.a_no_closing, lkA_closing, dints (hC.ext e1) (hC'.ext e1), fun H2 e2 => ⟨_, rfl, iteT ?_⟩⟩
    have e12 := e1.trans e2
    refine ⟨_, rfl, _, cA K, _, _, _, rfl, e12 _ _ hx, T.a_cls, T.a_no_tokens, lkA_tokens, _, rfl, _, cA K, _, _, _, rfl, e12 _ _ hy, T.a_cls, T.a_no_tokens, lkA_tokens, rfl, ?_⟩
    rw [dec_int, beq_self_eq_true]
    exact k _ e12
abbrev s_Automaton___str__ : Stmt := inClass (top 15) 9
theorem sc_Automaton___str__ : FnScope ["self", "at", "line"] ["self"] (defScope s_Automaton___str__) := ⟨rfl, rfl, rfl, by decide +kernel, rfl, by decide +kernel, by decide +kernel⟩
def sp_Automaton___str__ (K : PySem.W.Frag) : Sp := fun vs H Q _ => ∃ (x : Addr) (rows : List Row) (cl : List Int), vs = [.ref x] ∧ AutAt K H x rows cl ∧ GoodT rows ∧ cl.length ≤ 60 ∧ ∀ H', Ext H H' → Q (.str (S (autWord rows cl))) H'
theorem c_Automaton___str__ (T : Txt K mg) : MCal P w K mg base CX0 3 (He.ma K (cA K) "__str__") (sp_Automaton___str__ K) := by
  refine T.da_str.mcal sc_Automaton___str__ (fun _ _ _ _ _ _ us hl => match us, hl with | [_], _ => rfl) (fun vs H Q E h => ?_) (fun f cdv A outer s H vs Q E hr h => ?_)
  · obtain ⟨x, rows, cl, rfl, _⟩ := h
    rfl
  · obtain ⟨x, rows, cl, rfl, hA, gT, hcl, k⟩ := h
    refine ⟨_, (pss_one (ps_ret (pe_join pe_str (pe_lc (own := [("at", 1), ("line", 2)]) (g := gTup K 2 (gCons (gName 1) (gCons (gName 2) (gNil)))) (tt := tYes) rfl sc_Automaton___str__.nd (pi_enumT (K := K) rfl T.n_enumerate (pa_cons (pe_fldK (K := K) (pv 0) rfl) pa_nil)) (blkOk_by (by kernel_rfl)) (fun _ _ _ _ _ => (pg_tup rfl (pgs_cons (pg_name (i := 1) sc_Automaton___str__.nd rfl (Or.inl rfl)) (pgs_cons (pg_name (i := 2) sc_Automaton___str__.nd rfl (Or.inl rfl)) pgs_nil)))) (fun _ _ _ _ _ => pts_nil) (fun _ _ _ _ _ => (pe_c (c__state_word T) hr (by decide) rfl (pa_cons (pv 2) (pa_cons (pe_cmpR (op_in_seqK (K := K)) (pv 1) (pe_fldK (K := K) (pv 0) rfl) rfl) pa_nil)))))))), ?_⟩
    obtain ⟨dx, pt, pc, pn, hx, hT, hC, hN⟩ := hA
    obtain ⟨xs, hxs, hP⟩ := hT
    have gl := gT.len
    have hxl := prd_len hP
    refine ⟨⟨_, rfl⟩, _, rfl, _, cA K, _, _, _, rfl, hx, T.a_cls, T.a_no_table, lkA_table, pt, xs, rfl, hxs, fun D hD => lcETy hP (fun q => V.str (S (stWord q.1 (decide (((q.2 : Nat) : Int) ∈ cl))))) hxs hD (by rw [hxl]; exact sl_lt (by omega)) (fun r i v T2 H3 hi hR e3 hT2 Q1 k1 => ?_) (fun H3 e3 hl3 => ?_)⟩
    · obtain ⟨p, rfl, hp⟩ := hR
      have hm := List.mem_of_getElem? hi
      have e4 := Ext.upd (o := .tup [.int (i : Nat), .ref p]) hT2
      have e34 := e3.trans e4
      refine ⟨_, _, rfl, SqT.of upd_same, rfl, _, _, rfl, _, _, rfl, rfl, rfl, ?_⟩
      refine ⟨_, rfl, _, rfl, _, rfl, _, cA K, _, _, _, rfl, e34 _ _ hx, T.a_cls, T.a_no_closing, lkA_closing, _, _, rfl, .inr (hC.ext e34), rfl, flat_ints cl, p, r, _, rfl, hp.ext e34, by have := gT.rowz r hm; omega, fun n hn => ?_, fun H5 e5 => ?_⟩
      · have := (gT.all r hm).2 n hn
        omega
      · have k2 := k1 H5 (e4.trans e5)
        rw [← inV_ints] at k2
        exact k2
    · have hpl : ((autPieces rows cl).map S).length = rows.length := by simp [autPieces]
      refine ⟨_, D, (autPieces rows cl).map S, rfl, rfl, .inl (SqL.of ?_), ?_, ?_⟩
      · rw [hl3]
        unfold autPieces
        rw [List.map_map, List.map_map]
        rfl
      · have h1 := sum_le (m := 6) (autPieces rows cl) fun y hy => by
          obtain ⟨q, hq, rfl⟩ := List.mem_map.mp hy
          have hq2 := List.fst_mem_of_mem_zipIdx hq
          have := gT.rowz _ hq2
          rw [stWord_len]
          split <;> omega
        have h2 : (autPieces rows cl).length = rows.length := by simp [autPieces]
        rw [hpl, S_ofString, SX.S_len]
        rw [h2] at h1
        show _ + rows.length * 1 ≤ 16777216
        omega
      · have e1 : (Str.ofString "/" : Str) = S [47] := by rw [S_ofString]; rfl
        rw [e1, SX.join_S]
        exact k _ e3
end
end K12
namespace K12
open PySem PySem.Spec PyProof.Rows L2 SX
section
variable {P : Program} {w : World} {K : PySem.W.Frag} {mg : Str → Option Value} {base : Heap}
/-! ### the errors' __init__ -/
abbrev s_InvalidAutomaton___init__ : Stmt := inClass (top 3) 0
theorem sc_InvalidAutomaton___init__ : FnScope ["self", "part"] ["self", "part"] (defScope s_InvalidAutomaton___init__) := ⟨rfl, rfl, rfl, by decide +kernel, rfl, by decide +kernel, by decide +kernel⟩
abbrev s_InvalidRequest___init__ : Stmt := inClass (top 4) 0
theorem sc_InvalidRequest___init__ : FnScope ["self", "field"] ["self", "field"] (defScope s_InvalidRequest___init__) := ⟨rfl, rfl, rfl, by decide +kernel, rfl, by decide +kernel, by decide +kernel⟩
/-- self.f = the word: the error has a dict, new -/
def sp_exI (K : PySem.W.Frag) (C : Addr) (f : Str) : Sp := fun vs H Q _ => ∃ (a : Addr) (z : Str), vs = [.ref a, .str z] ∧ H a = some (exo a C none) ∧ ∀ dx, H dx = none → dx ≠ a → Q .non (upd (upd H dx (exd dx [(f, .str z)])) a (exo a C (some dx)))
theorem c_xA (T : Txt K mg) : MCal P w K mg base CX0 1 (He.ma K (cXA K) "__init__") (sp_exI K (cXA K) "part") := by
  refine T.dx_A.mcal sc_InvalidAutomaton___init__ (fun _ _ _ _ _ _ us hl => match us, hl with | [_, _], _ => rfl) (fun vs H Q E h => ?_) (fun f cdv A outer s H vs Q E hr h => ?_)
  · obtain ⟨a, z, rfl, _⟩ := h
    rfl
  · obtain ⟨a, z, rfl, ha, k⟩ := h
    exact ⟨_, pss_one (ps_ost (pv 0) (pv 1)), _, rfl, _, rfl, a, cXA K, rfl, T.x_A.oex, T.x_A.no, .inl ⟨ha, k⟩⟩
theorem c_xR (T : Txt K mg) : MCal P w K mg base CX0 1 (He.ma K (cXR K) "__init__") (sp_exI K (cXR K) "field") := by
  refine T.dx_R.mcal sc_InvalidRequest___init__ (fun _ _ _ _ _ _ us hl => match us, hl with | [_, _], _ => rfl) (fun vs H Q E h => ?_) (fun f cdv A outer s H vs Q E hr h => ?_)
  · obtain ⟨a, z, rfl, _⟩ := h
    rfl
  · obtain ⟨a, z, rfl, ha, k⟩ := h
    exact ⟨_, pss_one (ps_ost (pv 0) (pv 1)), _, rfl, _, rfl, a, cXR K, rfl, T.x_R.oex, T.x_R.no, .inl ⟨ha, k⟩⟩
end
theorem exI_use {K : PySem.W.Frag} {C : Addr} {f z : Str} {H1 : Hp} {Wq E : XK} (h : ∀ d H2, Ext H1 H2 → Wq (.ref C) (some d) H2) (a : Addr) (ha : H1 a = none) : sp_exI K C f [.ref a, .str z] (upd H1 a (exo a C none))
    (fun v H2 => v = .non ∧ ∃ (d : Addr) (fs : List (Str × V)), H2 a = some (exo a C (some d)) ∧ H2 d = some (exd d fs) ∧ H1 d = none ∧ Wq (.ref C) (some d) (upd (del H2 a) d (.xd fs))) E := by
  refine ⟨a, z, rfl, upd_same, fun dx hdx hne => ⟨rfl, dx, [(f, .str z)], upd_same, ?_, ?_, h _ _ fun b o hb => ?_⟩⟩
  · rw [upd_ne hne, upd_same]
  · rw [upd_ne hne] at hdx
    exact hdx
  · rw [upd_ne hne] at hdx
    have n1 : b ≠ a := ne_of_none hb ha
    have n2 : b ≠ dx := ne_of_none hb hdx
    rw [upd_ne n2, del_ne n1, upd_ne n1, upd_ne n2, upd_ne n1]
    exact hb
section
variable {X : Cx} {W : WX} {e : Expr} {ta : TA} {p pos pos2 : Pos}
theorem ps_rz {k : Nat} {C : Addr} {f x : Str} (hc : X.calm = true) (tk : Takes X W) (F : ExF X.K C f) (M : MCal X.prog X.w X.K X.mg X.base CX0 k (He.ma X.K C "__init__") (sp_exI X.K C f)) {j : Nat} (hr : Room j X.A) (hk : k + 1 ≤ j) (hg : Gl X x) (hm : X.mg x = some (.ref C)) (ha : PA X [e] ta)
    (hdb : (x == ("__debug__" : Str)) = false := by decide) (he : starEach [e] X.env = (false, eval e X.env) :: starEach [] X.env := by rfl) (hpl : (backTo pos (starEach [] X.env)).any (·.1) = false := by rfl) :
    PS X (.Raise (some (.Call (.Name x p) [e] [] pos)) none pos2) (fun _ σ H => tMkO C (sp_exI X.K C f) [] ta σ H fun cls d H' => W cls d σ H') := by
  obtain ⟨fd, ps, G, b⟩ := M.ex
  exact ps_raise hc tk (pmk_oex (dvs := []) F.oex F.iC F.tI G (hr.mono hk) b .nil (fun _ _ _ _ _ _ _ z => z.elim) hg hm ha hdb he hpl)
end
/-! ### except (A, B): return None -/
theorem flyKeep {B : Heap} {l : List Env} {e : Addr} {Z : Obj → Prop} {h h' : Heap} (k : ∀ b o, h.get? b = some o → h'.get? b = some o) (F : PySem.HandSPX.FlyingZ B l e Z h) : PySem.HandSPX.FlyingZ B l e Z h' := by
  obtain ⟨f1, f2, f3, oe, vs, T, oT, ts, g1, g2, g3, g4, g5, g6, g7, g8, g9⟩ := F
  exact ⟨fun b o z => k b o (f1 b o z), f2, f3.of_keeps fun b o z _ => ⟨o, k b o z, rfl⟩, oe, vs, T, oT, ts, k _ _ g1, g2, g3, g4, g5, g6, k _ _ g7, g8, g9⟩
theorem upKeep {h h' : Heap} (k : ∀ b o, h.get? b = some o → h'.get? b = some o) : h.UpToSlots h' := fun b o z _ => ⟨o.slots, k b o z⟩
/-- what is wished of an exception of the body: one of the two, and then None goes back -/
def wTwo (K : PySem.W.Frag) (C1 C2 : Addr) (D : Ends) : XK := fun cls _ H => PySem.W.exmAny K cls [.ref C1, .ref C2] = some true ∧ D.rt .non H
section
variable {X : Cx} {x1 x2 : Str} {C1 C2 : Addr} {body : List Stmt} {b₀ : Stmt} {p1 p2 p3 p4 pos : Pos} {kk : Nat} {tb : XK → TS}
theorem ps_try2 (hs : X.stack = X.env :: X.outer) (hf : X.env.frame = some X.env.locals) (g1 : Gl X x1) (m1 : X.mg x1 = some (.ref C1)) (g2 : Gl X x2) (m2 : X.mg x2 = some (.ref C2))
    (hb : ∀ (W : XK) (pn : List (Addr × Obj)) (xe : Value → Shared → Prop), Takes (X.tr pn xe) (fun c d _ H => W c d H) → PassesOwn (model X.prog X.w) X.A X.env xe → PSs (X.tr pn xe) body (tb W))
    (hsu : ∀ (a : Addr) (oe : Obj) (pn : List (Addr × Obj)), PSs (X.suite a ((a, oe) :: pn)) [b₀] (fun D _ H => D.rt .non H))
    (d1 : (x1 == ("__debug__" : Str)) = false := by decide) (d2 : (x2 == ("__debug__" : Str)) = false := by decide) :
    PS X (.Try body [.ExceptHandler (some (.Tuple [.Name x1 p1, .Name x2 p2] kk p3)) none [b₀] p4] [] [] pos) (fun D σ H => tb (wTwo X.K C1 C2 D) D σ H) := by
  refine ⟨fun pins s σ H D inv h => ?_⟩
  have okX := inv.ok
  have frm : X.A.frames = some (X.env :: X.outer) := by rw [okX.frames, hs]
  refine wpAny_Try_except ?_
  refine wpAny_mono ((hb (wTwo X.K C1 C2 D) (X.pn ++ pins) (fun e sA => wpAny (model X.prog X.w) X.A (noteFrame e X.env) (fun _ sB => wpAny (model X.prog X.w) X.A (setFlight e none) (fun _ sC =>
    wpAny (model X.prog X.w) X.A (handleBy e X.env [.ExceptHandler (some (.Tuple [.Name x1 p1, .Name x2 p2] kk p3)) none [b₀] p4]) (SP X pins D) X.xe sC) X.xe sB) X.xe sA) (fun u s' xx => ?_) PassesOwn.looking).run [] s σ H D (inv.toTry _) h) (fun f s1 hq => ?_) (fun _ _ z => z)
  · obtain ⟨ea, B, sI, pi2, σ2, H2, cls, d, rfl, jj, nb, up, sky, na, os, ag, hx, hret⟩ := xx
    have J := jj.ofTry okX
    rw [hs] at sky
    show wpAny (model X.prog X.w) X.A (noteFrame (.ref ea) X.env) _ _ _
    refine Sky.land Zc.steady frm hf sky fun hL flL upL => ?_
    have JL : Inv X pins σ2 H2 { s' with heap := hL } := J.landed nb flL.1 (up.trans upL) os ag
    obtain ⟨oe, vse, gE, zE, dE⟩ := flL.there
    have off : ea ∉ frs (X.env :: X.outer) := fun hm => by
      obtain ⟨_, o2, e2, nf⟩ := flL.2.2.1.mem hm
      rw [gE] at e2
      cases e2
      exact nf _ dE
    have offL : ea ≠ X.env.locals := fun z => off (List.mem_filterMap.mpr ⟨X.env, List.mem_cons_self, by rw [hf, z]⟩)
    have offF : ea ∉ X.fs := fun hm => by
      obtain ⟨v, hv, q⟩ := List.mem_filterMap.mp hm
      exact off (List.mem_filterMap.mpr ⟨v, List.mem_cons_of_mem _ hv, q⟩)
    have SL := JL.suite gE dE na offL offF
    refine wpAny_handleBy_cons (codeAny_handlers_test ?_) (by intro z; cases z)
    -- the two names, the tuple, the match
    refine wpAny_Tuple ?_
    refine wpAny_items_cons (ld_glob (X := X.suite ea ((ea, oe) :: (X.pn ++ pins))) SL g1 m1 ?_ d1)
    refine wpAny_items_cons (ld_glob (X := X.suite ea ((ea, oe) :: (X.pn ++ pins))) SL g2 m2 ?_ d2)
    refine wpAny_items_nil ⟨by show 2 ≤ sizeLine; decide, ?_⟩
    have kp : ∀ b o, hL.get? b = some o → (hL.push { cls := .type "tuple", data := .seq [Value.ref C1, Value.ref C2].toArray }).get? b = some o := fun _ _ z => Heap.get?_push_of_some _ z
    have LT : PySem.W.Looks (model X.prog X.w) hL (typeOf (.ref ea)) cls := fun A Q E s k q => wpAny_typeOf_ref (k _ _ gE) (by rw [zE.1]; exact q)
    refine (PySem.W.exm_tup2 (JL.kIn.keeps kp) (LT.keeps kp) (Heap.get?_push_size hL rfl) hx).here ?_
    refine codeAny_handlers_suite ?_
    refine PySem.HandSPX.lands_againZ (flyKeep kp flL) fun hM flM upM => ?_
    have JM : Inv X pins σ2 H2 { s' with heap := hM } := J.landed nb flM.1 (((up.trans upL).trans (upKeep kp)).trans upM) os ag
    obtain ⟨oe4, vs4, gM, zM, dM⟩ := flM.there
    refine wpAny_mono ((hsu ea oe4 (X.pn ++ pins)).run [] _ _ H2 _ (JM.suite gM dM na offL offF) hret) (fun f s6 hq => ?_) (fun _ _ z => False.elim z)
    cases f with
    | next =>
      obtain ⟨a1, a2, S, q⟩ := hq
      exact ⟨a1, a2, S.unsuite okX, q⟩
    | brk =>
      obtain ⟨a1, a2, S, q⟩ := hq
      exact ⟨a1, a2, S.unsuite okX, q⟩
    | cont =>
      obtain ⟨a1, a2, S, q⟩ := hq
      exact ⟨a1, a2, S.unsuite okX, q⟩
    | ret u =>
      obtain ⟨a0, a1, a2, S, r, q⟩ := hq
      exact ⟨a0, a1, a2, S.unsuite okX, r, q⟩
  · cases f with
    | next =>
      obtain ⟨a1, a2, S, q⟩ := hq
      exact wpAny_execs_nil ⟨a1, a2, S.ofTry okX, q⟩
    | brk =>
      obtain ⟨a1, a2, S, q⟩ := hq
      exact ⟨a1, a2, S.ofTry okX, q⟩
    | cont =>
      obtain ⟨a1, a2, S, q⟩ := hq
      exact ⟨a1, a2, S.ofTry okX, q⟩
    | ret u =>
      obtain ⟨a0, a1, a2, S, r, q⟩ := hq
      exact ⟨a0, a1, a2, S.ofTry okX, r, q⟩
end
/-! ### str(o), o's class with an __str__ of its own -/
def rStrO (C : Addr) (sp : Sp) : List V → Hp → VK → Prop := fun xs H Q => ∃ a dx fs, xs = [.ref a] ∧ H a = some (.ins C dx fs) ∧ sp [.ref a] H (fun v H' => (∃ z, v = .str z) ∧ Q v H') E0
section
variable {X : Cx} {C f : Addr} {sp : Sp} {k j : Nat}
theorem call_strO (c : MCal X.prog X.w X.K X.mg X.base CX0 k f sp) (hr : Room j X.A) (hk : k + 2 ≤ j) (m : Meth X.K C "__str__" f) : CallR X (.type "str") (rStrO C sp) := by
  intro pins s σ H xs us Q inv r h
  obtain ⟨a, dx, fs, rfl, ha, hq⟩ := h
  obtain ⟨fd, ps, F, b⟩ := c.ex
  obtain rfl := Vals.ref1 r
  obtain ⟨mA, J, _⟩ := ins_get inv.hok ha
  obtain ⟨od, J, _⟩ := J.look
  have hr2 : Room k X.A.in1.in1 := ((hr.mono hk).in1).in1
  refine PySem.W.kso_call hr2.units0 inv.kIn J m.at_ m.fn ?_
  have e := inv.env0
  have hl := F.len _ _ _ _ hq
  refine wpAny_call (codeAny_mono (F.run X.A.in1.in1 X.stack s H ⟨[.ref a], []⟩ [.ref a] [.ref a] _ E0 hr2 (e.in1.in1) (by simpa using b s [.ref a] inv.kIn (by simpa using hl)) (.cons rfl .nil) hq) fun q s' h' => ?_)
  cases q with
  | error er => exact h'.elim
  | ok fl =>
    cases fl with
    | ret u =>
      obtain ⟨v, H', I2, rv, ⟨z, ez⟩, q2⟩ := inv.after h'
      subst ez
      obtain ⟨t, rfl⟩ := rv
      exact ⟨.str z, H', I2, ⟨t, rfl⟩, q2⟩
    | next => exact h'.elim
    | brk => exact h'.elim
    | cont => exact h'.elim
end
/-! ### a class that a name of the def holds -/
def tMakeL (i : Nat) (C : Addr) (sp : Sp) (t : TA) : TE := fun σ H Q => σ[i]? = some (some (.ref C)) ∧ t σ H fun vs H1 => ∀ x dx, H1 x = none → H1 dx = none → dx ≠ x → sp (.ref x :: (vs ++ [])) (upd (upd H1 dx (.own x)) x (.ins C dx [])) (fun v H2 => v = .non ∧ Q (.ref x) H2) E0
section
variable {X : Cx} {k j i : Nat} {C f : Addr} {sp : Sp} {x : Str} {p pos : Pos} {e : Expr} {es : List Expr} {t : TA}
theorem pe_makeL (M : Mk X.K C f) (c : MCal X.prog X.w X.K X.mg X.base CX0 k f sp) (hr : Room j X.A) (hk : k + 1 ≤ j) (hN : X.N[i]? = some x) (hv : Vis X.env.scope x) (ha : PA X (e :: es) t) (hdb : (x == ("__debug__" : Str)) = false := by decide) (hcd : (x == ("__classdict__" : Str)) = false := by decide)
    (he : starEach (e :: es) X.env = (false, eval e X.env) :: starEach es X.env := by rfl) (hpl : (backTo pos (starEach es X.env)).any (·.1) = false := by rfl) : PE X (.Call (.Name x p) (e :: es) [] pos) (tMakeL i C sp t) := by
  obtain ⟨fd, ps, F, b⟩ := c.ex
  refine ⟨fun pins s σ H Q inv h => ?_⟩
  obtain ⟨hsl, ht⟩ := h
  refine wpAny_Call_Name_kw (thn ((pe_var (pos := p) hN hv hdb hcd).run pins s σ H (fun v G => v = .ref C ∧ G = H) inv ⟨.ref C, hsl, rfl, rfl⟩) fun u s1 hh => ?_)
  obtain ⟨v, G, inv1, r1, rfl, rfl⟩ := hh
  cases r1
  refine PySem.W.callWith_K (h₀ := X.base) inv1.ok.mod.kin M.kp (thn (ha.run pos pins s1 σ _ _ inv1 ht) fun us s2 hh => ?_) he hpl
  obtain ⟨vs, G2, inv2, r2, q⟩ := hh
  exact ⟨inv2.kIn, run_make M F (hr.mono hk) b .nil pass0 inv2 r2 q⟩
end
end K12
namespace K12
open PySem PySem.Spec PyProof.Rows L2 SX
open PySem.StrLaws (At)
open PySem.Builtin.Str (occurrences subAt)
/-! ### texts: where a sign stands, cuts, ends -/
def posL (c : Nat) : List Nat → Option Nat
  | [] => none
  | x :: r => if x = c then some 0 else (posL c r).map (· + 1)
theorem posL_some {c : Nat} : ∀ {a : List Nat} {i : Nat}, posL c a = some i → a[i]? = some c ∧ ∀ k, k < i → ¬ a[k]? = some c
  | [], i, h => by cases h
  | x :: r, i, h => by
    unfold posL at h
    by_cases e : x = c
    · rw [if_pos e] at h
      cases h
      exact ⟨by rw [e]; rfl, fun k hk => absurd hk (Nat.not_lt_zero k)⟩
    · rw [if_neg e] at h
      cases h2 : posL c r with
      | none =>
        rw [h2] at h
        cases h
      | some j =>
        rw [h2] at h
        cases h
        obtain ⟨h3, h4⟩ := posL_some h2
        refine ⟨h3, fun k hk => ?_⟩
        cases k with
        | zero => exact fun z => e (Option.some.inj z)
        | succ k => exact h4 k (Nat.lt_of_succ_lt_succ hk)
theorem posL_none {c : Nat} : ∀ {a : List Nat}, posL c a = none → c ∉ a
  | [], _ => List.not_mem_nil
  | x :: r, h => by
    unfold posL at h
    by_cases e : x = c
    · rw [if_pos e] at h
      cases h
    · rw [if_neg e] at h
      cases h2 : posL c r with
      | none =>
        intro hm
        rcases List.mem_cons.mp hm with z | z
        · exact e z.symm
        · exact posL_none h2 z
      | some j =>
        rw [h2] at h
        cases h
theorem posL_mem {c : Nat} {a : List Nat} (h : c ∈ a) : ∃ i, posL c a = some i := by
  cases e : posL c a with
  | none => exact absurd h (posL_none e)
  | some i => exact ⟨i, rfl⟩
theorem posL_lt {c : Nat} {a : List Nat} {i : Nat} (h : posL c a = some i) : i < a.length := (List.getElem?_eq_some_iff.mp (posL_some h).1).1
theorem one_take {a : List Nat} {c i : Nat} : ((a.drop i).take 1 == [c]) = true ↔ a[i]? = some c := by
  rw [beq_iff_eq]
  cases h : a.drop i with
  | nil =>
    have : a[i]? = none := by
      rw [List.getElem?_eq_none_iff]
      exact List.drop_eq_nil_iff.mp h
    rw [this]
    simp
  | cons x r =>
    have hx : a[i]? = some x := by
      have := congrArg (fun l => l[0]?) h
      simpa using this
    rw [hx]
    simp
theorem at1 {a : List Nat} {c i : Nat} : At (S a) (S [c]) (S a).length i ↔ a[i]? = some c := by
  have e : subAt (S a) (S [c]) i = ((a.drop i).take 1 == [c]) := PySem.StrLaws.subAt_eq _ _ _
  constructor
  · intro h
    have h2 := h.2
    rw [e] at h2
    exact one_take.mp h2
  · intro h
    refine ⟨?_, by rw [e]; exact one_take.mpr h⟩
    have := (List.getElem?_eq_some_iff.mp h).1
    rw [S_len]
    show i + 1 ≤ a.length
    omega
theorem occ_pos {a : List Nat} {c i : Nat} (h : posL c a = some i) : ∃ rest, occurrences (S a) (S [c]) 0 (S a).length 1 = i :: rest := by
  obtain ⟨h1, h2⟩ := posL_some h
  rcases PySem.StrLaws.occ_head (S a) (S [c]) 1 (Nat.le_refl _) with ⟨_, hn⟩ | ⟨j, r, e, hj, hk⟩
  · exact absurd (at1.mpr h1) (hn i)
  · have h3 := at1.mp hj
    have : j = i := by
      rcases Nat.lt_trichotomy j i with z | z | z
      · exact absurd h3 (h2 j z)
      · exact z
      · exact absurd (at1.mpr h1) (hk i z)
    subst this
    exact ⟨r, e⟩
def posI (c : Nat) (a : List Nat) : Int := match posL c a with
  | some i => (i : Nat)
  | none => -1
theorem find_pos {a : List Nat} {c : Nat} : Txt.find (S a) (S [c]) = posI c a := by
  unfold posI
  cases h : posL c a with
  | some i =>
    obtain ⟨r, e⟩ := occ_pos h
    show (match occurrences (S a) (S [c]) 0 (S a).length 1 with | i :: _ => (i : Int) | [] => -1) = _
    rw [e]
  | none =>
    show (match occurrences (S a) (S [c]) 0 (S a).length 1 with | i :: _ => (i : Int) | [] => -1) = _
    rcases PySem.StrLaws.occ_head (S a) (S [c]) 1 (Nat.le_refl _) with ⟨e, _⟩ | ⟨j, r, e, hj, hk⟩
    · rw [e]
    · exact absurd (List.mem_of_getElem? (at1.mp hj)) (posL_none h)
def endL (p : List Nat) : List Nat := p.drop (p.length - 1)
def endsP (p : List Nat) : Bool := decide (endL p = [43])
def bodyL (p : List Nat) : List Nat := if endsP p = true then p.dropLast else p
theorem cut_from1 (a : List Nat) : cutS (S a) (some 1) none = S (a.drop 1) := by rw [C8.cutS_slice, SX.slice_from (by decide)]; rfl
theorem cut_to1 (a : List Nat) : cutS (S a) none (some 1) = S (a.take 1) := by rw [C8.cutS_slice, SX.slice_to (by decide)]; rfl
theorem cut_but (a : List Nat) : cutS (S a) none (some (-1)) = S a.dropLast := by
  cases a with
  | nil => rfl
  | cons x r => rw [C8.cutS_slice, SX.slice_butlast (List.cons_ne_nil _ _), List.dropLast_eq_take]
theorem cut_last (a : List Nat) : cutS (S a) (some (-1)) none = S (endL a) := by
  cases a with
  | nil => rfl
  | cons x r => rw [C8.cutS_slice, SX.slice_last (List.cons_ne_nil _ _)]; rfl
theorem ends_S (a : List Nat) : Txt.endswith (S a) (S [43]) = endsP a := by
  have e : subAt (S a) (S [43]) ((S a).length - 1) = ((a.drop ((S a).length - 1)).take 1 == [43]) := PySem.StrLaws.subAt_eq _ _ _
  show (decide (0 + 1 ≤ (S a).length) && subAt (S a) (S [43]) ((S a).length - 1)) = _
  rw [e, S_len]
  unfold endsP endL
  by_cases h : 1 ≤ a.length
  · rw [decide_eq_true (by omega), Bool.true_and, List.take_of_length_le (by rw [List.length_drop]; omega), Bool.beq_eq_decide_eq]
  · have : a = [] := List.length_eq_zero_iff.mp (by omega)
    subst this
    rfl
theorem starts_S (a : List Nat) (c : Nat) : Txt.startswith (S a) (S [c]) = decide (a.take 1 = [c]) := by
  have e : subAt (S a) (S [c]) 0 = ((a.drop 0).take 1 == [c]) := PySem.StrLaws.subAt_eq _ _ _
  show (decide (0 + 1 ≤ (S a).length) && subAt (S a) (S [c]) 0) = _
  rw [e, S_len]
  cases a with
  | nil => rfl
  | cons x r => rw [decide_eq_true (by simp), Bool.true_and, List.drop_zero, Bool.beq_eq_decide_eq]
theorem str1 {s : String} {c : Nat} (h : s.toList.map Char.toNat = [c] := by decide) : (Str.ofString s : Str) = S [c] := by rw [S_ofString, h]
theorem sgn (c : Nat) : (⟨#[c]⟩ : Str) = S [c] := rfl
theorem S_dec {a b : List Nat} : decide (S a = S b) = decide (a = b) := by
  rw [decide_eq_decide]
  exact ⟨S_inj, fun h => by rw [h]⟩
/-- a sign of a piece, read -/
def digC (c : Nat) : Bool := decide (48 ≤ c) && decide (c ≤ 57)
def cellR (c : Nat) : Option Int := if c = 45 then none else some ((c : Int) - 48)
def okC (c : Nat) : Bool := decide (c = 45) || digC c
theorem int_one {c : Nat} (h : digC c = true) : PySem.intText? (S [c]) = some ((c : Int) - 48) := by
  rw [SX.int_S (a := [c]) (by simpa [digC] using h) (List.cons_ne_nil _ _) (by show 1 ≤ 4300; decide)]
  have h2 : 48 ≤ c := by
    unfold digC at h
    rw [Bool.and_eq_true, decide_eq_true_eq] at h
    exact h.1
  congr 1
  show ((NumText.digitsVal [c] : Nat) : Int) = _
  have : NumText.digitsVal [c] = c - 48 := by
    show 0 * 10 + (c - 48) = _
    omega
  rw [this]
  omega
end K12
namespace K12
open PySem PySem.Spec PyProof.Rows L2 SX
/-! ### Automaton.read: the mirror -/
def rowR (p : List Nat) : Row := (bodyL p).map cellR
def okP (p : List Nat) : Bool := (bodyL p).all okC
def endsOf (ps : List (List Nat)) : List Int := (ps.zipIdx.filter fun q => endsP q.1).map fun q => ((q.2 : Nat) : Int)
def readW (w : List Nat) : Option (List Row × List Int) :=
  if (TL.spl [47] 0 [] w).all okP = true ∧ isTable ((TL.spl [47] 0 [] w).map rowR) = true then some ((TL.spl [47] 0 [] w).map rowR, endsOf (TL.spl [47] 0 [] w)) else none
theorem endsOf_succ {ps : List (List Nat)} {i : Nat} {p : List Nat} (h : ps[i]? = some p) : endsOf (ps.take (i + 1)) = endsOf (ps.take i) ++ if endsP p = true then [((i : Nat) : Int)] else [] := by
  have hi : i < ps.length := (List.getElem?_eq_some_iff.mp h).1
  unfold endsOf
  rw [take_succ_f h, List.zipIdx_append, List.filter_append, List.map_append]
  have hl : (ps.take i).length = i := by rw [List.length_take]; omega
  rw [hl]
  by_cases e : endsP p = true
  · simp [e]
  · simp [e]
theorem endsOf_rg (ps : List (List Nat)) : (endsOf ps).Pairwise (· < ·) ∧ ∀ m ∈ endsOf ps, 0 ≤ m ∧ m < (ps.length : Int) := by
  constructor
  · unfold endsOf
    rw [List.pairwise_map]
    refine List.Pairwise.filter _ ?_
    rw [List.zipIdx_eq_zip_range']
    have h1 : (List.zip ps (List.range' 0 ps.length)).map Prod.snd = List.range' 0 ps.length := by
      rw [List.map_snd_zip]
      simp
    have h2 : ((List.zip ps (List.range' 0 ps.length)).map Prod.snd).Pairwise (· < ·) := by
      rw [h1]
      exact List.pairwise_lt_range'
    rw [List.pairwise_map] at h2
    exact h2.imp fun h => by omega
  · intro m hm
    obtain ⟨q, hq, rfl⟩ := List.mem_map.mp hm
    have h1 := (List.mem_filter.mp hq).1
    have := List.snd_lt_of_mem_zipIdx h1
    omega
theorem endsOf_len (ps : List (List Nat)) : (endsOf ps).length ≤ ps.length := by
  unfold endsOf
  rw [List.length_map]
  exact Nat.le_trans (List.length_filter_le _ _) (by simp)
theorem dig_in (c : Nat) : decide (c ∈ (Str.ofString "0123456789" : Str).cps.toList) = digC c := by
  have e : (Str.ofString "0123456789" : Str).cps.toList = [48, 49, 50, 51, 52, 53, 54, 55, 56, 57] := by decide +kernel
  rw [e]
  unfold digC
  rw [Bool.eq_iff_iff, Bool.and_eq_true, decide_eq_true_eq, decide_eq_true_eq, decide_eq_true_eq]
  simp only [List.mem_cons, List.not_mem_nil, or_false]
  omega
theorem dec_minus (c : Nat) : decide (V.str ⟨#[c]⟩ = V.str (Str.ofString "-")) = decide (c = 45) := by
  rw [str1 (s := "-") (c := 45), decide_eq_decide]
  constructor
  · intro h
    have h2 := S_inj (a := [c]) (b := [45]) (V.str.inj h)
    exact List.head_eq_of_cons_eq h2
  · intro h
    rw [h]
theorem split_sl (w : List Nat) : Txt.split (S w) (Str.ofString "/") = (TL.spl [47] 0 [] w).map S := by
  rw [str1 (s := "/") (c := 47), SX.split_S (List.cons_ne_nil _ _) (by decide)]
theorem spl_len (c : Nat) : ∀ (l : List Nat) (acc : List Nat), (TL.spl [c] 0 acc l).length ≤ l.length + 1 ∧ ∀ p ∈ TL.spl [c] 0 acc l, p.length ≤ acc.length + l.length
  | [], acc => by
    rw [TL.spl_nil]
    simp
  | x :: r, acc => by
    cases h : TL.pre [c] (x :: r) with
    | true =>
      rw [TL.spl_hit h]
      obtain ⟨h1, h2⟩ := spl_len c r []
      refine ⟨by simp only [List.length_cons]; show (TL.spl [c] 0 [] r).length + 1 ≤ _; omega, fun p hp => ?_⟩
      rcases List.mem_cons.mp hp with rfl | hp
      · omega
      · have := h2 p hp
        simp at this ⊢
        omega
    | false =>
      rw [TL.spl_miss h]
      obtain ⟨h1, h2⟩ := spl_len c r (acc ++ [x])
      refine ⟨by simp only [List.length_cons]; omega, fun p hp => ?_⟩
      have := h2 p hp
      simp at this ⊢
      omega
theorem bodyL_len (p : List Nat) : (bodyL p).length ≤ p.length := by
  unfold bodyL
  split
  · simp
  · exact Nat.le_refl _
/-- a row of the table that is being made -/
def RowN (a b : Addr) (H : Hp) (v : V) (r : Row) : Prop := ∃ p, v = .ref p ∧ p ≠ a ∧ p ≠ b ∧ H p = some (.lst (r.map optI))
theorem RowN.ext {a b : Addr} {H H' : Hp} {v : V} {r : Row} (h : RowN a b H v r) (e : Ext H H') : RowN a b H' v r := by
  obtain ⟨p, h1, h2, h3, h4⟩ := h
  exact ⟨p, h1, h2, h3, e _ _ h4⟩
theorem RowN.updA {a b : Addr} {H : Hp} {o : HO} {v : V} {r : Row} (h : RowN a b H v r) : RowN a b (upd H a o) v r := by
  obtain ⟨p, h1, h2, h3, h4⟩ := h
  exact ⟨p, h1, h2, h3, by rw [upd_ne h2]; exact h4⟩
theorem RowN.updB {a b : Addr} {H : Hp} {o : HO} {v : V} {r : Row} (h : RowN a b H v r) : RowN a b (upd H b o) v r := by
  obtain ⟨p, h1, h2, h3, h4⟩ := h
  exact ⟨p, h1, h2, h3, by rw [upd_ne h3]; exact h4⟩
theorem RowN.row {K : PySem.W.Frag} {a b : Addr} {H : Hp} {v : V} {r : Row} (h : RowN a b H v r) : RowL K H v r := by
  obtain ⟨p, h1, h2, h3, h4⟩ := h
  exact ⟨p, h1, SqL.of h4⟩
/-- but for a and b as it was -/
def Ex2 (a b : Addr) (H H' : Hp) : Prop := ∀ x o, H x = some o → x ≠ a → x ≠ b → H' x = some o
section
variable {P : Program} {w : World} {K : PySem.W.Frag} {mg : Str → Option Value} {base : Heap}
abbrev s_Automaton_read : Stmt := inClass (top 15) 7
theorem sc_Automaton_read : FnScope ["cls", "word", "table", "closing", "state", "piece", "letters", "letter"] ["cls", "word"] (defScope s_Automaton_read) := ⟨rfl, rfl, rfl, by decide +kernel, rfl, by decide +kernel, by decide +kernel⟩
def sp_Automaton_read (K : PySem.W.Frag) : Sp := fun vs H Q E => ∃ w : List Nat, vs = [.ref (cA K), .str (S w)] ∧ w.length ≤ 50000 ∧ (readW w = none → ∀ d H', Ext H H' → E (.ref (cXA K)) (some d) H') ∧
  (∀ rows cl, readW w = some (rows, cl) → ∀ x H', Ext H H' → AutAt K H' x rows cl → Q (.ref x) H')
theorem c_Automaton_read (T : Txt K mg) : MCal P w K mg base (L2.CX P w) 7 ((He5.wf K (cA K) "classmethod" "read")) (sp_Automaton_read K) := by
  obtain ⟨fd, F⟩ := T.da_read.f
  refine ⟨fd, _, DfM.fn F sc_Automaton_read (fun vs H Q E h => ?_) (fun f cdv A outer s H vs Q E hr h => ?_), F.bindsN (fun _ _ _ _ _ _ us hl => match us, hl with | [_, _], _ => rfl)⟩
  · obtain ⟨w, rfl, _⟩ := h
    rfl
  · obtain ⟨w, rfl, hw, kE, kQ⟩ := h
    refine ⟨_, (pss_cons (ps_if (pt_not (pt_val (pe_callB (call_isiK' (K := K)) rfl T.n_isinstance bt_isinstance (pa_cons (pv 1) (pa_cons (pe_bltn (v := .ty "str") rfl T.n_str bt_str rfl) pa_nil))))) (pss_one (ps_rz (f := "part") rfl (takes_of rfl rfl rfl rfl) T.x_A (c_xA T) hr (by decide) rfl T.g_XA (pa_cons pe_str pa_nil))) pss_nil)
  (pss_cons (ps_set (i := 2) sc_Automaton_read.nd rfl (Or.inl rfl) (pe_lst pa_nil))
  (pss_cons (ps_set (i := 3) sc_Automaton_read.nd rfl (Or.inl rfl) (pe_lst pa_nil))
  (pss_cons (ps_for (passes_of rfl) rfl (pi_enum rfl T.n_enumerate (pa_cons (pe_split (pv 1) pe_str) pa_nil)) (pg_tup rfl (pgs_cons (pg_name (i := 4) sc_Automaton_read.nd rfl (Or.inl rfl)) (pgs_cons (pg_name (i := 5) sc_Automaton_read.nd rfl (Or.inl rfl)) pgs_nil))) (pss_cons (ps_set (i := 6) sc_Automaton_read.nd rfl (Or.inl rfl) (pv 5))
    (pss_cons (ps_if (pt_val (pe_m1 PySem.F.slot_str_endswith PySem.F.type_str_endswith mt_endswith (pv 5) pe_str)) (pss_cons (ps_set (i := 6) sc_Automaton_read.nd rfl (Or.inl rfl) (pe_slice sl_str (pv 5) po_none (po_some (pe_un un_neg pe_int))))
      (pss_one (ps_expr (pe_bm PySem.F.plainAttrs_list PySem.F.slot_list_append PySem.F.type_list_append mt_append (pv 3) (pa_cons (pv 4) pa_nil))))) pss_nil)
    (pss_cons (ps_if (pt_not (pt_val (pe_callB (cr_allK (K := K) rfl) rfl T.n_all bt_all (pa_cons (pe_lc (own := [("letter", 7)]) (g := gName 7) (tt := tYes) rfl sc_Automaton_read.nd (pi_str (pv 6)) (blkOk_by (by kernel_rfl)) (fun _ _ _ _ _ => (pg_name (i := 7) sc_Automaton_read.nd rfl (Or.inl rfl))) (fun _ _ _ _ _ => pts_nil) (fun _ _ _ _ _ => (pe_or (pe_cmpR op_eq (pv 7) pe_str (nomark _)) (pe_one (pe_cmpR op_in_sign (pv 7) (C8.pe_gc rfl T.g_DIGITS) rfl))))) pa_nil)))) (pss_one (ps_rz (f := "part") rfl (takes_of rfl rfl rfl rfl) T.x_A (c_xA T) hr (by decide) rfl T.g_XA (pa_cons pe_str pa_nil))) pss_nil)
    (pss_one (ps_expr (pe_bm PySem.F.plainAttrs_list PySem.F.slot_list_append PySem.F.type_list_append mt_append (pv 2) (pa_cons (pe_lc (own := [("letter", 7)]) (g := gName 7) (tt := tYes) rfl sc_Automaton_read.nd (pi_str (pv 6)) (blkOk_by (by kernel_rfl)) (fun _ _ _ _ _ => (pg_name (i := 7) sc_Automaton_read.nd rfl (Or.inl rfl))) (fun _ _ _ _ _ => pts_nil) (fun _ _ _ _ _ => (pe_ifExp (pt_cmpR op_eq (pv 7) pe_str (nomark _)) pe_non (pe_callTy call_int_str rfl T.n_int bt_int (pa_cons (pv 7) pa_nil))))) pa_nil))))))))
  (pss_cons (ps_if (pt_not (pt_val (pe_c (c__is_table T) hr (by decide) rfl (pa_cons (pv 2) pa_nil)))) (pss_one (ps_rz (f := "part") rfl (takes_of rfl rfl rfl rfl) T.x_A (c_xA T) hr (by decide) rfl T.g_XA (pa_cons pe_str pa_nil))) pss_nil)
  (pss_one (ps_ret (pe_makeL (i := 0) T.a_mk (c_Automaton___init__ T) hr (by decide) rfl (Or.inl rfl) (pa_cons (pv 2) (pa_cons (pv 3) pa_nil)))))))))), ?_⟩
    refine ⟨_, rfl, _, _, _, _, true, rfl, .ty _, TyN.tyX (.str (S w)), kit_ty (by decide +kernel), _, rfl, iteF ?_⟩
    refine ⟨Nat.zero_le _, fun Tb hTb => ⟨Nat.zero_le _, fun Cl hCl => ?_⟩⟩
    have hne : Tb ≠ Cl := fun z => by rw [← z, upd_same] at hCl; cases hCl
    have hCl0 : H Cl = none := by rw [upd_ne (Ne.symm hne)] at hCl; exact hCl
    have e1 : Ext H (upd (upd H Tb (.lst [])) Cl (.lst [])) := (Ext.upd hTb).trans (Ext.upd hCl)
    have hT1 : (upd (upd H Tb (.lst [])) Cl (.lst [])) Tb = some (.lst []) := by rw [upd_ne hne, upd_same]
    have hC1 : (upd (upd H Tb (.lst [])) Cl (.lst [])) Cl = some (.lst []) := upd_same
    revert e1 hT1 hC1
    generalize upd (upd H Tb (.lst [])) Cl (.lst []) = H1
    intro e1 hT1 hC1
    obtain ⟨hpl, hpz⟩ := spl_len 47 w []
    refine ⟨_, rfl, ⟨_, rfl⟩, _, _, rfl, rfl, rfl, ?_, fun Pz hPz => ?_⟩
    · rw [SX.S_len]
      exact sl_of (by omega)
    rw [split_sl]
    have eW : readW w = if (TL.spl [47] 0 [] w).all okP = true ∧ isTable ((TL.spl [47] 0 [] w).map rowR) = true then some ((TL.spl [47] 0 [] w).map rowR, endsOf (TL.spl [47] 0 [] w)) else none := rfl
    revert eW hpl hpz
    generalize TL.spl [47] 0 [] w = ps
    intro hpl hpz eW
    have e2 := Ext.upd (o := .lst ((ps.map S).map V.str)) hPz
    have hP2 : (upd H1 Pz (.lst ((ps.map S).map V.str))) Pz = some (.lst ((ps.map S).map V.str)) := upd_same
    have hT2 := e2 _ _ hT1
    have hC2 := e2 _ _ hC1
    have e02 := e1.trans e2
    have hPT : Pz ≠ Tb := fun z => by rw [z, hT1] at hPz; cases hPz
    have hPC : Pz ≠ Cl := fun z => by rw [z, hC1] at hPz; cases hPz
    revert e02 hP2 hT2 hC2
    generalize upd H1 Pz (.lst ((ps.map S).map V.str)) = H2
    intro hP2 hT2 hC2 e02
    refine ⟨_, _, rfl, SqL.of hP2, for_it (walk_enum (xs := (ps.map S).map V.str)) (fun i σ H' => ∃ v4 v5 v6 acc, σ = [some (.ref (cA K)), some (.str (S w)), some (.ref Tb), some (.ref Cl), v4, v5, v6, none] ∧ Ext H H' ∧ H' Pz = some (.lst ((ps.map S).map V.str)) ∧ H' Tb = some (.lst acc) ∧ Paired (RowN Tb Cl H') acc ((ps.take i).map rowR) ∧ H' Cl = some (.lst ((endsOf (ps.take i)).map V.int)) ∧ (ps.take i).all okP = true)
      ⟨_, _, _, [], rfl, e02, hP2, hT2, .nil, hC2, rfl⟩ (fun i σ H' _ h => ?hG) (fun i v σ H3 H4 hi h hy => ?hS) (fun σ H3 h => ?hE)⟩
    case hG =>
      obtain ⟨_, _, _, _, _, _, h1, _⟩ := h
      exact SqL.of h1
    case hS =>
      obtain ⟨v4, v5, v6, acc, rfl, e3, hP3, hT3, hA3, hC3, hok⟩ := h
      obtain ⟨T2, x0, y0, rfl, hT2', rfl, h6, h7⟩ := hy
      cases h6
      have h7' : ((ps.map S).map V.str)[i]? = some y0 := h7
      rw [List.map_map, List.getElem?_map] at h7'
      obtain ⟨p, hp, hpv⟩ := Option.map_eq_some_iff.mp h7'
      have hpv' : y0 = V.str (S p) := hpv.symm
      subst hpv'
      have hpm := hpz p (List.mem_of_getElem? hp)
      have hpi : i < ps.length := (List.getElem?_eq_some_iff.mp hp).1
      rw [List.length_nil, Nat.zero_add] at hpm
      have e4 := Ext.upd (o := .tup [.int (i : Nat), .str (S p)]) hT2'
      refine ⟨_, _, rfl, SqT.of upd_same, rfl, _, _, rfl, _, _, rfl, rfl, ?_⟩
      have e04 := e3.trans e4
      have hP4 := e4 _ _ hP3
      have hT4 := e4 _ _ hT3
      have hC4 := e4 _ _ hC3
      have hA4 := prd_mono (fun _ _ z => RowN.ext z e4) hA3
      revert e04 hP4 hT4 hC4 hA4
      show Ext H (upd H3 T2 (.tup [.int (i : Nat), .str (S p)])) → _
      generalize upd H3 T2 (.tup [.int (i : Nat), .str (S p)]) = H4
      intro e04 hP4 hT4 hC4 hA4
      have hcs := endsOf_succ hp
      have hel : (endsOf (ps.take i)).length ≤ 50001 := by
        have := endsOf_len (ps.take i)
        rw [List.length_take] at this
        omega
      refine ⟨_, rfl, _, rfl, ⟨_, rfl⟩, _, _, rfl, rfl, _, rfl, ?_⟩
      rw [str1 (s := "+") (c := 43), ends_S]
      refine ite2 (fun hE => ?hA) (fun hE => ?hB)
      case' hA =>
        refine ⟨_, rfl, _, rfl, _, rfl, _, rfl, sl_of (by rw [S_len]; omega), ?_⟩
        rw [cut_but]
        have hq : bodyL p = p.dropLast := if_pos hE
        rw [if_pos hE] at hcs
        refine ⟨_, rfl, .inl ⟨rfl, _, SqL.of hC4⟩, _, rfl, Cl, _, _, rfl, rfl, hC4, by rw [List.length_map]; exact sl_lt (by omega), ?_⟩
        have e05 : Ext H (upd H4 Cl (.lst ((endsOf (ps.take i)).map V.int ++ [.int (i : Nat)]))) := ext_mut e04 hCl0
        have hP5 : (upd H4 Cl (.lst ((endsOf (ps.take i)).map V.int ++ [.int (i : Nat)]))) Pz = some (.lst ((ps.map S).map V.str)) := by rw [upd_ne hPC]; exact hP4
        have hT5 : (upd H4 Cl (.lst ((endsOf (ps.take i)).map V.int ++ [.int (i : Nat)]))) Tb = some (.lst acc) := by rw [upd_ne hne]; exact hT4
        have hA5 := prd_mono (fun _ _ z => RowN.updB (o := .lst ((endsOf (ps.take i)).map V.int ++ [.int (i : Nat)])) z) hA4
        have hC5 : (upd H4 Cl (.lst ((endsOf (ps.take i)).map V.int ++ [.int (i : Nat)]))) Cl = some (.lst ((endsOf (ps.take (i + 1))).map V.int)) := by rw [upd_same, hcs, List.map_append]; rfl
        revert e05 hP5 hT5 hA5 hC5
        generalize upd H4 Cl (.lst ((endsOf (ps.take i)).map V.int ++ [.int (i : Nat)])) = H5
        intro e05 hP5 hT5 hA5 hC5
      case' hB =>
        have hq : bodyL p = p := if_neg hE
        rw [if_neg hE, List.append_nil] at hcs
        obtain ⟨H5, rfl⟩ : ∃ H5, H5 = H4 := ⟨_, rfl⟩
        have e05 := e04
        have hP5 := hP4
        have hT5 := hT4
        have hA5 := hA4
        have hC5 := hC4
        rw [← hcs] at hC5
      all_goals
        have hql := bodyL_len p
        have hacc : acc.length ≤ 50001 := by
          have := prd_len hA5
          rw [List.length_map, List.length_take] at this
          omega
        rw [hq] at hql
        refine ⟨_, rfl, _, rfl, fun D hD => lcSy (fun c => V.bl (okC c)) hD (by rw [S_len]; exact sl_lt (by omega)) (fun c H' _ e Q1 k1 => ⟨rfl, ?_⟩) (fun H6 e6 hl6 => ?_)⟩
        · have k2 := k1 _ Ext.rfl'
          unfold okC at k2
          refine ⟨_, rfl, rfl, _, rfl, ?_⟩
          rw [dec_minus]
          refine ite2 (fun h => ?_) (fun h => ?_)
          · rw [h, Bool.true_or] at k2
            exact k2
          · rw [Bool.eq_false_iff.mpr h, Bool.false_or, ← dig_in] at k2
            exact ⟨_, rfl, c, _, rfl, rfl, k2⟩
        have e56 := e05.trans e6
        have hT6 := e6 _ _ hT5
        have hC6 := e6 _ _ hC5
        have hP6 := e6 _ _ hP5
        have hA6 := prd_mono (fun _ _ z => RowN.ext z e6) hA5
        have hok2 : okP p = (bodyL p).all okC := rfl
        rw [hq] at hok2
        refine ⟨D, _, rfl, SqL.of (by rw [hl6, bls]), ?_⟩
        rw [all_id]
        refine ⟨_, rfl, ?_⟩
        have hqq : ∀ l, (S l).cps.toList = l := fun _ => rfl
        rw [hqq] at hl6 ⊢
        rw [← hok2]
        have hps : (ps.take (i + 1)).all okP = okP p := by
          rw [take_succ_f hp, List.all_append, hok, Bool.true_and]
          show (okP p && true) = _
          rw [Bool.and_true]
        cases hb : okP p with
        | false =>
          refine iteT ⟨(by show 1 ≤ 1000; decide), exI_use (fun d H2 e => kE ?_ d H2 (e56.trans e))⟩
          rw [eW, if_neg]
          rintro ⟨h, _⟩
          rw [List.all_eq_true] at h
          have h3 := h p (List.mem_of_getElem? hp)
          rw [hb] at h3
          cases h3
        | true =>
          rw [hb] at hps
          refine iteF ⟨_, rfl, .inl ⟨rfl, _, SqL.of hT6⟩, _, rfl, _, rfl, fun D2 hD2 => lcSy (fun c => optI (cellR c)) hD2 (by rw [S_len]; exact sl_lt (by omega)) (fun c H' hc e Q1 k1 => ⟨rfl, ?_⟩) (fun H7 e7 hl7 => ?_)⟩
          · have hc2 : okC c = true := by
              rw [hok2] at hb
              exact List.all_eq_true.mp hb c hc
            have k2 := k1 _ Ext.rfl'
            unfold cellR at k2
            refine ⟨_, rfl, rfl, _, rfl, ?_⟩
            rw [dec_minus]
            refine ite2 (fun h => ?_) (fun h => ?_)
            · rw [if_pos (of_decide_eq_true h)] at k2
              exact k2
            · have hn : ¬ c = 45 := fun z => h (decide_eq_true z)
              rw [if_neg hn] at k2
              have hd : digC c = true := by
                unfold okC at hc2
                rw [decide_eq_false hn, Bool.false_or] at hc2
                exact hc2
              exact ⟨_, rfl, _, _, rfl, int_one hd, by show 1 ≤ 640; decide, k2⟩
          rw [hqq] at hl7
          have hDT : D2 ≠ Tb := fun z => by rw [z, hT6] at hD2; cases hD2
          have hDC : D2 ≠ Cl := fun z => by rw [z, hC6] at hD2; cases hD2
          have hrow : (rowR p).map optI = List.map (fun c => optI (cellR c)) (bodyL p) := by
            unfold rowR
            rw [List.map_map]
            rfl
          refine ⟨Tb, _, _, rfl, rfl, e7 _ _ hT6, by exact sl_lt (by omega), ?_⟩
          refine ⟨_, _, _, acc ++ [.ref D2], rfl, ext_mut (e56.trans e7) hTb, ?_, upd_same, ?_, ?_, hps⟩
          · rw [upd_ne hPT]
            exact e7 _ _ hP6
          · rw [take_succ_f hp, List.map_append]
            refine prd_app (prd_mono (fun _ _ z => RowN.updA (RowN.ext z e7)) hA6) (.cons ⟨D2, rfl, hDT, hDC, ?_⟩ .nil)
            rw [upd_ne hDT, hl7, hrow, hq]
          · rw [upd_ne (Ne.symm hne)]
            exact e7 _ _ hC6
    case hE =>
      obtain ⟨v4, v5, v6, acc, rfl, e3, hP3, hT3, hA3, hC3, hok⟩ := h
      have hln : ((ps.map S).map V.str).length = ps.length := by rw [List.length_map, List.length_map]
      rw [hln, List.take_length] at hA3 hC3 hok
      have hTL : TabL K H3 Tb (ps.map rowR) := ⟨acc, SqL.of hT3, prd_mono (fun _ _ z => z.row) hA3⟩
      refine ⟨_, rfl, Tb, ps.map rowR, rfl, hTL, by rw [List.length_map]; omega, fun r hr => ?_, fun H4 e4 => ⟨_, rfl, ?_⟩⟩
      · obtain ⟨p, hp, rfl⟩ := List.mem_map.mp hr
        have h1 := hpz p hp
        have h2 := bodyL_len p
        unfold rowR
        rw [List.length_map]
        rw [List.length_nil] at h1
        omega
      cases hb : isTable (ps.map rowR) with
      | false =>
        refine iteT ⟨(by show 1 ≤ 1000; decide), exI_use (fun d H2 e => kE ?_ d H2 ((e3.trans e4).trans e))⟩
        rw [eW, if_neg]
        rintro ⟨_, h⟩
        rw [hb] at h
        cases h
      | true =>
        rw [hok, hb, if_pos ⟨rfl, rfl⟩] at eW
        have gT := isTable_iff.mp hb
        have hrg := endsOf_rg ps
        have hln2 : (ps.map rowR).length = ps.length := List.length_map ..
        refine iteF ⟨rfl, _, rfl, _, rfl, fun x dx hx hdx hne2 => ⟨x, Tb, Cl, dx, ps.map rowR, endsOf ps, rfl, upd_same, ?_, ?_, gT, ⟨hrg.1, by rw [hln2]; exact hrg.2, ?_⟩, fun H5 e5 hA => ⟨rfl, kQ _ _ eW x H5 ?_ hA⟩⟩⟩
        · exact hTL.ext (e4.trans ((Ext.upd hdx).trans (Ext.upd (by rw [upd_ne (Ne.symm hne2)]; exact hx))))
        · exact (SqL.of hC3).ext (e4.trans ((Ext.upd hdx).trans (Ext.upd (by rw [upd_ne (Ne.symm hne2)]; exact hx))))
        · have := endsOf_len ps
          have := gT.len
          omega
        · intro b o hb2
          have h1 := (e3.trans e4) b o hb2
          have n1 : b ≠ x := ne_of_none h1 hx
          exact e5 b o (by rw [upd_ne n1, upd_ne (ne_of_none h1 hdx)]; exact h1) n1
end
end K12
namespace K12
open PySem PySem.Spec PyProof.Rows L2 SX
/-! ### requests -/
abbrev Plan := Option (List Row × List Int)
structure ReqD where
  name : Str
  text : List Int
  most : Int
  knob : Str
  seed : Int
  copies : Int
  plan : Plan
def reqFs (n t m k s c a : V) : List (Str × V) := [("name", n), ("text", t), ("most", m), ("knob", k), ("seed", s), ("copies", c), ("automaton", a)]
/-- a request's automaton -/
def PlanAt (K : PySem.W.Frag) (H : Hp) (v : V) : Plan → Prop
  | none => v = .non
  | some (rows, cl) => ∃ y, v = .ref y ∧ AutAt K H y rows cl ∧ GoodT rows ∧ cl.length ≤ 60
theorem PlanAt.ext {K : PySem.W.Frag} {H H' : Hp} {v : V} {p : Plan} (h : PlanAt K H v p) (e : Ext H H') : PlanAt K H' v p := by
  cases p with
  | none => exact h
  | some q =>
    obtain ⟨y, h1, h2, h3⟩ := h
    exact ⟨y, h1, h2.ext e, h3⟩
def ReqAt (K : PySem.W.Frag) (H : Hp) (x : Addr) (d : ReqD) : Prop := ∃ dx pt av, H x = some (.ins (cR K) dx (reqFs (.str d.name) (.ref pt) (.int d.most) (.str d.knob) (.int d.seed) (.int d.copies) av)) ∧ SqT K H pt (d.text.map V.int) ∧ PlanAt K H av d.plan
theorem ReqAt.ext {K : PySem.W.Frag} {H H' : Hp} {x : Addr} {d : ReqD} (h : ReqAt K H x d) (e : Ext H H') : ReqAt K H' x d := by
  obtain ⟨dx, pt, av, h1, h2, h3⟩ := h
  exact ⟨dx, pt, av, e _ _ h1, h2.ext e, h3.ext e⟩
def reqOk (name : Str) (text : List Int) (most : Option Int) (knob : Str) (seed copies : Option Int) : Bool := isName name && (isText text && (isNum most 1 16 && (isKnob knob && (isNum seed 0 9999 && isNum copies 1 4))))
theorem Exb.aut {K : PySem.W.Frag} {H H' : Hp} {x dx : Addr} {fs : List (Str × V)} {y : Addr} {rows : List Row} {cl : List Int} (e : Exb x H H') (hx : H x = some (.ins (cR K) dx fs)) (hne : y ≠ x) (h : AutAt K H y rows cl) : AutAt K H' y rows cl := by
  obtain ⟨dy, pt, pc, pn, h1, h2, h3, h4⟩ := h
  exact ⟨dy, pt, pc, pn, e _ _ h1 hne, e.tabT hx h2, e.sqT hx h3, e.sqT hx h4⟩
theorem Exb.plan {K : PySem.W.Frag} {H H' : Hp} {x dx : Addr} {fs : List (Str × V)} {v : V} {p : Plan} (e : Exb x H H') (hx : H x = some (.ins (cR K) dx fs)) (hne : v ≠ .ref x) (h : PlanAt K H v p) : PlanAt K H' v p := by
  cases p with
  | none => exact h
  | some q =>
    obtain ⟨y, rfl, h2, h3⟩ := h
    exact ⟨y, rfl, e.aut hx (fun z => hne (by rw [z])) h2, h3⟩
theorem lkR_name {n t m k s c a : V} : (reqFs n t m k s c a).lookup ("name" : Str) = some n := look_hd
theorem lkR_text {n t m k s c a : V} : (reqFs n t m k s c a).lookup ("text" : Str) = some t := (look_tl (ne_str (by decide))).trans look_hd
theorem lkR_most {n t m k s c a : V} : (reqFs n t m k s c a).lookup ("most" : Str) = some m := (look_tl (ne_str (by decide))).trans ((look_tl (ne_str (by decide))).trans look_hd)
theorem lkR_knob {n t m k s c a : V} : (reqFs n t m k s c a).lookup ("knob" : Str) = some k := (look_tl (ne_str (by decide))).trans ((look_tl (ne_str (by decide))).trans ((look_tl (ne_str (by decide))).trans look_hd))
theorem lkR_seed {n t m k s c a : V} : (reqFs n t m k s c a).lookup ("seed" : Str) = some s := (look_tl (ne_str (by decide))).trans ((look_tl (ne_str (by decide))).trans ((look_tl (ne_str (by decide))).trans ((look_tl (ne_str (by decide))).trans look_hd)))
theorem lkR_copies {n t m k s c a : V} : (reqFs n t m k s c a).lookup ("copies" : Str) = some c := (look_tl (ne_str (by decide))).trans ((look_tl (ne_str (by decide))).trans ((look_tl (ne_str (by decide))).trans ((look_tl (ne_str (by decide))).trans ((look_tl (ne_str (by decide))).trans look_hd))))
theorem lkR_automaton {n t m k s c a : V} : (reqFs n t m k s c a).lookup ("automaton" : Str) = some a := (look_tl (ne_str (by decide))).trans ((look_tl (ne_str (by decide))).trans ((look_tl (ne_str (by decide))).trans ((look_tl (ne_str (by decide))).trans ((look_tl (ne_str (by decide))).trans ((look_tl (ne_str (by decide))).trans look_hd)))))
section
variable {P : Program} {w : World} {K : PySem.W.Frag} {mg : Str → Option Value} {base : Heap}
abbrev s_Request___init__ : Stmt := inClass (top 26) 0
theorem sc_Request___init__ : FnScope ["self", "name", "text", "most", "knob", "seed", "copies", "automaton"] ["self", "name", "text", "most", "knob", "seed", "copies", "automaton"] (defScope s_Request___init__) := ⟨rfl, rfl, rfl, by decide +kernel, rfl, by decide +kernel, by decide +kernel⟩
def sp_Request___init__ (K : PySem.W.Frag) : Sp := fun vs H Q E => ∃ (x t dx : Addr) (name knob : Str) (ns : List Int) (most seed copies : Option Int) (av : V) (plan : Plan), vs = [.ref x, .str name, .ref t, optI most, .str knob, optI seed, optI copies, av] ∧
  H x = some (.ins (cR K) dx []) ∧ SqL K H t (ns.map V.int) ∧ name.length ≤ 100000 ∧ ns.length ≤ 100000 ∧ PlanAt K H av plan ∧
  (reqOk name ns most knob seed copies = false → ∀ d H', Ext H H' → E (.ref (cXR K)) (some d) H') ∧
  (∀ m s c, reqOk name ns most knob seed copies = true → most = some m → seed = some s → copies = some c → ∀ H', Exb x H H' → ReqAt K H' x ⟨name, ns, m, knob, s, c, plan⟩ → Q .non H')
structure KMk (P : Program) (w : World) (K : PySem.W.Frag) (mg : Str → Option Value) (base : Heap) (k : Nat) (f : Addr) (sp : Sp) : Prop where
  ex : ∃ (fd : FuncData) (ps : List Str) (g : List Value → List Value → List Value), FnOk P w K mg base (L2.CX P w) k f fd ps sp ∧ KBn K fd ps 4 ["knob", "seed", "copies", "automaton"] g (fun vs zs => vs ++ zs)
theorem c_Request___init__ (T : Txt K mg) : KMk P w K mg base 4 (He.ma K (cR K) "__init__") (sp_Request___init__ K) := by
  obtain ⟨fd, F⟩ := T.dr_init.f
  obtain ⟨mv, hb⟩ := FunD.kbinds0 (ps := ["self", "name", "text", "most", "knob", "seed", "copies", "automaton"]) F 4 ["knob", "seed", "copies", "automaton"] [] (fun us _ ws => us ++ ws) (by intro z; cases z) (fun q h => by cases h) (fun r _ rz => r.append rz)
    (fun D doc pm an cdv ct us mv ws l1 l2 l3 => match us, l1, ws, l3 with | [_, _, _, _], _, [_, _, _, _], _ => rfl)
  refine ⟨fd, _, _, DfM.fn F sc_Request___init__ (fun vs H Q E h => ?_) (fun f cdv A outer s H vs Q E hr h => ?_), hb⟩
  · obtain ⟨x, t, dx, name, knob, ns, most, seed, copies, av, plan, rfl, _⟩ := h
    rfl
  · obtain ⟨x, t, dx, name, knob, ns, most, seed, copies, av, plan, rfl, hx, hS, hn, hz, hP, kE, kQ⟩ := h
    refine ⟨_, (pss_cons (ps_if (pt_not (pt_val (pe_c (c_is_name T) hr (by decide) rfl (pa_cons (pv 1) pa_nil)))) (pss_one (ps_rz (f := "field") rfl (takes_of rfl rfl rfl rfl) T.x_R (c_xR T) hr (by decide) rfl T.g_XR (pa_cons pe_str pa_nil))) pss_nil)
  (pss_cons (ps_if (pt_not (pt_val (pe_c (c__is_text T) hr (by decide) rfl (pa_cons (pv 2) pa_nil)))) (pss_one (ps_rz (f := "field") rfl (takes_of rfl rfl rfl rfl) T.x_R (c_xR T) hr (by decide) rfl T.g_XR (pa_cons pe_str pa_nil))) pss_nil)
  (pss_cons (ps_if (pt_not (pt_val (pe_c (c_is_number T) hr (by decide) rfl (pa_cons (pv 3) (pa_cons pe_int (pa_cons (C8.pe_gc rfl T.g_MOST_ANSWER) pa_nil)))))) (pss_one (ps_rz (f := "field") rfl (takes_of rfl rfl rfl rfl) T.x_R (c_xR T) hr (by decide) rfl T.g_XR (pa_cons pe_str pa_nil))) pss_nil)
  (pss_cons (ps_if (pt_not (pt_val (pe_c (c__is_knob T) hr (by decide) rfl (pa_cons (pv 4) pa_nil)))) (pss_one (ps_rz (f := "field") rfl (takes_of rfl rfl rfl rfl) T.x_R (c_xR T) hr (by decide) rfl T.g_XR (pa_cons pe_str pa_nil))) pss_nil)
  (pss_cons (ps_if (pt_not (pt_val (pe_c (c_is_number T) hr (by decide) rfl (pa_cons (pv 5) (pa_cons pe_int (pa_cons (C8.pe_gc rfl T.g_GREATEST_SEED) pa_nil)))))) (pss_one (ps_rz (f := "field") rfl (takes_of rfl rfl rfl rfl) T.x_R (c_xR T) hr (by decide) rfl T.g_XR (pa_cons pe_str pa_nil))) pss_nil)
  (pss_cons (ps_if (pt_not (pt_val (pe_c (c_is_number T) hr (by decide) rfl (pa_cons (pv 6) (pa_cons pe_int (pa_cons (C8.pe_gc rfl T.g_MOST_COPIES) pa_nil)))))) (pss_one (ps_rz (f := "field") rfl (takes_of rfl rfl rfl rfl) T.x_R (c_xR T) hr (by decide) rfl T.g_XR (pa_cons pe_str pa_nil))) pss_nil)
  (pss_cons (ps_if (PW.pt (pw_and (pt_cmpR op_notN (pv 7) pe_non (nomark _)) (pw_and1 (pt_not (pt_val (pe_callB (call_isiK' (K := K)) rfl T.n_isinstance bt_isinstance (pa_cons (pv 7) (pa_cons (pe_glob (v := V.ref (cA K)) rfl T.g_Automaton rfl) pa_nil)))))))) (pss_one (ps_rz (f := "field") rfl (takes_of rfl rfl rfl rfl) T.x_R (c_xR T) hr (by decide) rfl T.g_XR (pa_cons pe_str pa_nil))) pss_nil)
  (pss_cons (ps_fld (pv 0) (pv 1) rfl)
  (pss_cons (ps_fld (pv 0) (pe_callTy (call_tupleK (K := K)) rfl T.n_tuple bt_tuple (pa_cons (pv 2) pa_nil)) rfl)
  (pss_cons (ps_fld (pv 0) (pv 3) rfl)
  (pss_cons (ps_fld (pv 0) (pv 4) rfl)
  (pss_cons (ps_fld (pv 0) (pv 5) rfl)
  (pss_cons (ps_fld (pv 0) (pv 6) rfl)
  (pss_one (ps_fld (pv 0) (pv 7) rfl))))))))))))))), ?_⟩
    have one : ∀ z : Str, [V.str z].length ≤ 1000 := fun _ => by show 1 ≤ 1000; decide
    -- name
    refine ⟨_, rfl, name, rfl, hn, fun H1 e1 => ⟨_, rfl, ?_⟩⟩
    cases h1 : isName name with
    | false => exact iteT ⟨one _, exI_use fun d H2 e => kE (by simp [reqOk, h1]) d H2 (e1.trans e)⟩
    | true =>
    refine iteF ⟨_, rfl, t, ns, rfl, hS.ext e1, hz, fun H2 e2 => ⟨_, rfl, ?_⟩⟩
    have e02 := e1.trans e2
    cases h2 : isText ns with
    | false => exact iteT ⟨one _, exI_use fun d H3 e => kE (by simp [reqOk, h1, h2]) d H3 (e02.trans e)⟩
    | true =>
    refine iteF ⟨_, rfl, most, 1, 16, rfl, _, rfl, ?_⟩
    cases h3 : isNum most 1 16 with
    | false => exact iteT ⟨one _, exI_use fun d H3 e => kE (by simp [reqOk, h1, h2, h3]) d H3 (e02.trans e)⟩
    | true =>
    refine iteF ⟨_, rfl, knob, rfl, fun H3 e3 => ⟨_, rfl, ?_⟩⟩
    have e03 := e02.trans e3
    cases h4 : isKnob knob with
    | false => exact iteT ⟨one _, exI_use fun d H4 e => kE (by simp [reqOk, h1, h2, h3, h4]) d H4 (e03.trans e)⟩
    | true =>
    refine iteF ⟨_, rfl, seed, 0, 9999, rfl, _, rfl, ?_⟩
    cases h5 : isNum seed 0 9999 with
    | false => exact iteT ⟨one _, exI_use fun d H4 e => kE (by simp [reqOk, h1, h2, h3, h4, h5]) d H4 (e03.trans e)⟩
    | true =>
    refine iteF ⟨_, rfl, copies, 1, 4, rfl, _, rfl, ?_⟩
    cases h6 : isNum copies 1 4 with
    | false => exact iteT ⟨one _, exI_use fun d H4 e => kE (by simp [reqOk, h1, h2, h3, h4, h5, h6]) d H4 (e03.trans e)⟩
    | true =>
    refine iteF ?_
    cases most with
    | none => cases h3
    | some m =>
    cases seed with
    | none => cases h5
    | some sd =>
    cases copies with
    | none => cases h6
    | some c =>
    have kk := kQ m sd c (by simp [reqOk, h1, h2, h3, h4, h5, h6]) rfl rfl rfl
    have hx3 := e03 _ _ hx
    have hP3 := hP.ext e03
    have hvx : av ≠ .ref x := by
      cases plan with
      | none =>
        rw [show av = .non from hP]
        intro z
        cases z
      | some q =>
        obtain ⟨y, rfl, ⟨dy, _, _, _, hy, _⟩, _⟩ := hP
        intro z
        cases z
        rw [hx] at hy
        have := HO.ins.inj (Option.some.inj hy)
        exact absurd this.2.2 (by intro z; cases z)
    have stay : ∀ H', Exb x H3 H' → Exb x H H' := fun H' b => (Exb.of e03).trans b
    cases plan
    case' none =>
      have hav : av = .non := hP
      subst hav
      refine ⟨_, rfl, rfl, _, rfl, iteF (iteF ?_)⟩
    case' some q =>
      obtain ⟨rows, cl⟩ := q
      obtain ⟨y, rfl, hA, hG⟩ := id hP3
      obtain ⟨dy, pt, pc, pn, hy, hA2⟩ := id hA
      refine ⟨_, rfl, rfl, _, rfl, iteT ⟨_, rfl, _, _, .ref (cA K), .ref (cA K), true, rfl, .own _, T.a_ty.ty T.a_cls hy, T.a_ty.self, _, rfl, iteF ?_⟩⟩
    all_goals
      have b3 : Exb x H3 H3 := Exb.of Ext.rfl'
      have hS3 := hS.ext e03
      refine ⟨_, rfl, _, rfl, x, cR K, dx, _, rfl, hx3, T.r_cls, T.r_no_name, (by show 0 < 1000; decide), ?_⟩
      have b4 : Exb x H3 (upd H3 x (.ins (cR K) dx (putF "name" (.str name) []))) := b3.trans Exb.upd
      have hx4 : (upd H3 x (.ins (cR K) dx (putF "name" (.str name) []))) x = some (.ins (cR K) dx [("name", .str name)]) := by
        rw [upd_same]
        rfl
      revert b4 hx4
      generalize upd H3 x (.ins (cR K) dx (putF "name" (.str name) [])) = H4
      intro b4 hx4
      refine ⟨_, rfl, t, _, rfl, .inl ⟨b4.sqL hx3 hS3, fun l hl => ?_⟩⟩
      have eT : Ext H4 (upd H4 l (.tup (ns.map V.int))) := Ext.upd hl
      have hT : SqT K (upd H4 l (.tup (ns.map V.int))) l (ns.map V.int) := SqT.of upd_same
      have hxT := eT _ _ hx4
      have bT : Exb x H3 (upd H4 l (.tup (ns.map V.int))) := b4.trans (Exb.of eT)
      revert hT hxT bT
      generalize upd H4 l (.tup (ns.map V.int)) = HT
      intro hT hxT bT
      refine ⟨_, rfl, x, cR K, dx, _, rfl, hxT, T.r_cls, T.r_no_text, (by show 1 < 1000; decide), ?_⟩
      have b5 : Exb x H3 (upd HT x (.ins (cR K) dx (putF "text" (.ref l) [("name", .str name)]))) := bT.trans Exb.upd
      have hx5 : (upd HT x (.ins (cR K) dx (putF "text" (.ref l) [("name", .str name)]))) x = some (.ins (cR K) dx [("name", .str name), ("text", .ref l)]) := by
        rw [upd_same, put_tl (ne_str (by decide))]
        rfl
      have hT5 := (Exb.upd (x := x) (o := .ins (cR K) dx (putF "text" (.ref l) [("name", .str name)]))).sqT hxT hT
      revert b5 hx5 hT5
      generalize upd HT x (.ins (cR K) dx (putF "text" (.ref l) [("name", .str name)])) = H5
      intro b5 hx5 hT5
      refine ⟨_, rfl, _, rfl, x, cR K, dx, _, rfl, hx5, T.r_cls, T.r_no_most, (by show 2 < 1000; decide), ?_⟩
      have b6 : Exb x H3 (upd H5 x (.ins (cR K) dx (putF "most" (optI (some m)) [("name", .str name), ("text", .ref l)]))) := b5.trans Exb.upd
      have hx6 : (upd H5 x (.ins (cR K) dx (putF "most" (optI (some m)) [("name", .str name), ("text", .ref l)]))) x = some (.ins (cR K) dx [("name", .str name), ("text", .ref l), ("most", .int m)]) := by
        rw [upd_same, put_tl (ne_str (by decide)), put_tl (ne_str (by decide))]
        rfl
      have hT6 := (Exb.upd (x := x) (o := .ins (cR K) dx (putF "most" (optI (some m)) [("name", .str name), ("text", .ref l)]))).sqT hx5 hT5
      revert b6 hx6 hT6
      generalize upd H5 x (.ins (cR K) dx (putF "most" (optI (some m)) [("name", .str name), ("text", .ref l)])) = H6
      intro b6 hx6 hT6
      refine ⟨_, rfl, _, rfl, x, cR K, dx, _, rfl, hx6, T.r_cls, T.r_no_knob, (by show 3 < 1000; decide), ?_⟩
      have b7 : Exb x H3 (upd H6 x (.ins (cR K) dx (putF "knob" (.str knob) [("name", .str name), ("text", .ref l), ("most", .int m)]))) := b6.trans Exb.upd
      have hx7 : (upd H6 x (.ins (cR K) dx (putF "knob" (.str knob) [("name", .str name), ("text", .ref l), ("most", .int m)]))) x = some (.ins (cR K) dx [("name", .str name), ("text", .ref l), ("most", .int m), ("knob", .str knob)]) := by
        rw [upd_same, put_tl (ne_str (by decide)), put_tl (ne_str (by decide)), put_tl (ne_str (by decide))]
        rfl
      have hT7 := (Exb.upd (x := x) (o := .ins (cR K) dx (putF "knob" (.str knob) [("name", .str name), ("text", .ref l), ("most", .int m)]))).sqT hx6 hT6
      revert b7 hx7 hT7
      generalize upd H6 x (.ins (cR K) dx (putF "knob" (.str knob) [("name", .str name), ("text", .ref l), ("most", .int m)])) = H7
      intro b7 hx7 hT7
      refine ⟨_, rfl, _, rfl, x, cR K, dx, _, rfl, hx7, T.r_cls, T.r_no_seed, (by show 4 < 1000; decide), ?_⟩
      have b8 : Exb x H3 (upd H7 x (.ins (cR K) dx (putF "seed" (optI (some sd)) [("name", .str name), ("text", .ref l), ("most", .int m), ("knob", .str knob)]))) := b7.trans Exb.upd
      have hx8 : (upd H7 x (.ins (cR K) dx (putF "seed" (optI (some sd)) [("name", .str name), ("text", .ref l), ("most", .int m), ("knob", .str knob)]))) x = some (.ins (cR K) dx [("name", .str name), ("text", .ref l), ("most", .int m), ("knob", .str knob), ("seed", .int sd)]) := by
        rw [upd_same, put_tl (ne_str (by decide)), put_tl (ne_str (by decide)), put_tl (ne_str (by decide)), put_tl (ne_str (by decide))]
        rfl
      have hT8 := (Exb.upd (x := x) (o := .ins (cR K) dx (putF "seed" (optI (some sd)) [("name", .str name), ("text", .ref l), ("most", .int m), ("knob", .str knob)]))).sqT hx7 hT7
      revert b8 hx8 hT8
      generalize upd H7 x (.ins (cR K) dx (putF "seed" (optI (some sd)) [("name", .str name), ("text", .ref l), ("most", .int m), ("knob", .str knob)])) = H8
      intro b8 hx8 hT8
      refine ⟨_, rfl, _, rfl, x, cR K, dx, _, rfl, hx8, T.r_cls, T.r_no_copies, (by show 5 < 1000; decide), ?_⟩
      have b9 : Exb x H3 (upd H8 x (.ins (cR K) dx (putF "copies" (optI (some c)) [("name", .str name), ("text", .ref l), ("most", .int m), ("knob", .str knob), ("seed", .int sd)]))) := b8.trans Exb.upd
      have hx9 : (upd H8 x (.ins (cR K) dx (putF "copies" (optI (some c)) [("name", .str name), ("text", .ref l), ("most", .int m), ("knob", .str knob), ("seed", .int sd)]))) x = some (.ins (cR K) dx [("name", .str name), ("text", .ref l), ("most", .int m), ("knob", .str knob), ("seed", .int sd), ("copies", .int c)]) := by
        rw [upd_same, put_tl (ne_str (by decide)), put_tl (ne_str (by decide)), put_tl (ne_str (by decide)), put_tl (ne_str (by decide)), put_tl (ne_str (by decide))]
        rfl
      have hT9 := (Exb.upd (x := x) (o := .ins (cR K) dx (putF "copies" (optI (some c)) [("name", .str name), ("text", .ref l), ("most", .int m), ("knob", .str knob), ("seed", .int sd)]))).sqT hx8 hT8
      revert b9 hx9 hT9
      generalize upd H8 x (.ins (cR K) dx (putF "copies" (optI (some c)) [("name", .str name), ("text", .ref l), ("most", .int m), ("knob", .str knob), ("seed", .int sd)])) = H9
      intro b9 hx9 hT9
      refine ⟨_, rfl, _, rfl, x, cR K, dx, _, rfl, hx9, T.r_cls, T.r_no_automaton, (by show 6 < 1000; decide), kk _ ((stay _ b9).trans Exb.upd) ?_⟩
      refine ⟨dx, l, ?_, ?_, Exb.upd.sqT hx9 hT9, ?_⟩
      rotate_left
      · rw [upd_same, put_tl (ne_str (by decide)), put_tl (ne_str (by decide)), put_tl (ne_str (by decide)), put_tl (ne_str (by decide)), put_tl (ne_str (by decide)), put_tl (ne_str (by decide))]
        rfl
      · exact Exb.plan (b9.trans Exb.upd) hx3 hvx hP3
end
end K12
namespace K12
open PySem PySem.Spec PyProof.Rows L2 SX
/-! ### Request.possible, fits, need, entry, __eq__ -/
def possN (most : Int) : Option Int → Bool
  | none => false
  | some n => decide (n ≤ most)
def possP (most : Int) : Plan → Bool
  | none => true
  | some (rows, cl) => possN most (needF0 rows cl)
def fitsP (n : Int) : Plan → Bool
  | none => true
  | some (rows, _) => decide (autWide rows = n)
def fitsB (d : ReqD) (n : Int) : Bool := d.text.all (fun t => decide (t < n)) && fitsP n d.plan
theorem lkA_need {t c k n : V} : (autFs t c k n).lookup ("need" : Str) = none := (look_tl (ne_str (by decide))).trans ((look_tl (ne_str (by decide))).trans ((look_tl (ne_str (by decide))).trans ((look_tl (ne_str (by decide))).trans rfl)))
theorem GoodT.ne {rows : List Row} (g : GoodT rows) : rows ≠ [] := fun z => by
  have := g.len.1
  rw [z] at this
  exact absurd this (by decide)
/-! ### calls by keywords alone -/
section
variable {K : PySem.W.Frag} {x qual : Str} {params : Arguments} {body : List Stmt} {scope : Scope} {kws : List (Str × V)} {f : Addr} {fd : FuncData} {ps : List Str}
theorem kbN (F : FunD K x qual params body scope [] kws f fd) (n : Nat) (ks : List Str) (g : {α : Type} → List α → List α → List α) (hrel : ∀ {vs zs : List V} {us ws : List Value}, Vals vs us → Vals zs ws → Vals (g vs zs) (g us ws))
    (h : ∀ (kV doc pm : Value) (an : Option Addr) (cdv ct : Value) (us ws : List Value), us.length = n → ws.length = ks.length → bindArgs (PySem.W.fnOf x qual params body scope .none kV doc pm an cdv ct) ⟨us, ks.zip ws⟩ = pure (ps.zip (g us ws))) :
    KBn K fd ps n ks (fun us ws => g us ws) (fun vs zs => g vs zs) := by
  obtain ⟨oc, od, dV, kV, doc, pm, an, cdv, ct, osl, rfl, lk, hcd, hD, hK⟩ := F.ex
  rcases hD with ⟨_, rfl⟩ | ⟨e, _⟩
  · exact ⟨fun s us ws _ l1 l2 => .of_eq (h kV doc pm an cdv ct us ws l1 l2), hrel⟩
  · exact absurd rfl e
end
section
variable {X : Cx} {k j n : Nat} {C f : Addr} {fd : FuncData} {ps ks : List Str} {sp : Sp} {x m : Str} {p pos apos : Pos} {o : Expr} {kws : List Keyword} {tk : TA} {ta : TE} {g : List Value → List Value → List Value} {gV : List V → List V → List V}
/-- f(k = v, ..) -/
theorem pe_kw0 (F : FnOk X.prog X.w X.K X.mg X.base CX0 k f fd ps sp) (hr : Room j X.A) (hk : k ≤ j) (hg : Gl X x) (hm : X.mg x = some (.ref f)) (hkp : PySem.W.keepIn X.K (.ref f) = true) (hb : KBn X.K fd ps 0 ks g gV) (hkw : PK X kws tk)
    (hall : (backToKw pos (keywordEach kws X.env)).all (·.1.isSome) = true := by rfl) (hks : (backToKw pos (keywordEach kws X.env)).filterMap (·.1) = ks := by rfl) (hdb : (x == ("__debug__" : Str)) = false := by decide)
    (hpl : ((backTo pos (starEach [] X.env)).any (·.1) || (backToKw pos (keywordEach kws X.env)).any (·.1.isNone)) = false := by rfl) : PE X (.Call (.Name x p) [] kws pos) (tCallN 0 ks.length sp gV E0 tNil tk) := by
  refine ⟨fun pins s σ H Q inv h => ?_⟩
  refine wpAny_Call_Name_kw (ld_glob inv hg hm ?_ hdb)
  refine PySem.W.callWith_KW0 (h₀ := X.base) inv.ok.mod.kin hkp hall (thn (hkw.run pos pins s σ H _ inv h) fun ws s2 hh => ?_) hpl
  obtain ⟨zs, H2, inv2, rz, l1, l2, q2⟩ := hh
  rw [hks]
  exact ⟨inv2.kIn, run_fnN (us := []) (vs := []) F (hr.mono hk) hb pass0 inv2 .nil rz rfl l2 q2⟩
/-- o.m(k = v, ..) -/
def tMethK (C : Addr) (m : Str) (n : Nat) (sp : Sp) (gV : List V → List V → List V) (ta : TE) (tk : TA) : TE := fun σ H Q => ta σ H fun x H1 => ∃ a dx fs, x = .ref a ∧ H1 a = some (.ins C dx fs) ∧ fs.lookup m = none ∧ tk σ H1 fun zs H2 => zs.length = n ∧ sp (gV [x] zs) H2 Q E0
theorem pe_mkw {pl : Sem Bool} (F : FnOk X.prog X.w X.K X.mg X.base CX0 k f fd ps sp) (hr : Room j X.A) (hk : k ≤ j) (cl : Cls X.K C) (hm : Meth X.K C m f) (hb : KBn X.K fd ps 1 ks g gV) (he : PE X o ta) (hkw : PK X kws tk)
    (hall : (backToKw pos (keywordEach kws X.env)).all (·.1.isSome) = true := by rfl) (hks : (backToKw pos (keywordEach kws X.env)).filterMap (·.1) = ks := by rfl)
    (hpl : ((backTo pos (starEach [] X.env)).any (·.1) || (backToKw pos (keywordEach kws X.env)).any (·.1.isNone)) = false := by rfl)
    (ht : eval (.Call (.Attribute o m apos) [] kws pos) X.env = (do
      let ov ← eval o X.env
      standAt apos.atName
      let (f, first) ← holding [ov] (getMethod ov m pl)
      callWith pos f first (backTo pos (starEach [] X.env)) (backToKw pos (keywordEach kws X.env))) := by rfl) : PE X (.Call (.Attribute o m apos) [] kws pos) (tMethK C m ks.length sp gV ta tk) := by
  refine ⟨fun pins s σ H Q inv h => ?_⟩
  refine PySem.W.methodCall_KW (pl := pl) (thn (he.run pins s σ H _ inv h) fun u s1 hh => ?_) ht
  obtain ⟨x, H1, inv1, rx, a, dx, fs, ex, ea, l, q⟩ := hh
  subst ex
  obtain rfl : u = Value.ref a := rx
  refine getmeth_ok inv1 ea cl hm l ?_
  refine PySem.W.callWith_KW0 (first := [.ref a]) (h₀ := X.base) inv1.ok.mod.kin hm.kp hall (thn (hkw.run pos pins s1 σ H1 _ inv1 q) fun ws s2 hh => ?_) hpl
  obtain ⟨zs, H2, inv2, rz, l2, q2⟩ := hh
  rw [hks]
  exact ⟨inv2.kIn, run_fnN (us := [.ref a]) (vs := [.ref a]) F (hr.mono hk) hb pass0 inv2 (.cons rfl .nil) rz rfl l2 q2⟩
end
section
variable {P : Program} {w : World} {K : PySem.W.Frag} {mg : Str → Option Value} {base : Heap}
abbrev s_Request_possible : Stmt := inClass (top 26) 1
theorem sc_Request_possible : FnScope ["self", "least"] ["self"] (defScope s_Request_possible) := ⟨rfl, rfl, rfl, by decide +kernel, rfl, by decide +kernel, by decide +kernel⟩
def sp_Request_possible (K : PySem.W.Frag) : Sp := fun vs H Q _ => ∃ (x : Addr) (d : ReqD), vs = [.ref x] ∧ ReqAt K H x d ∧ Q (.bl (possP d.most d.plan)) H
theorem c_Request_possible (T : Txt K mg) : MCal P w K mg base CX0 2 ((He5.wf K (cR K) "property" "possible")) (sp_Request_possible K) := by
  refine T.dr_poss.mcal sc_Request_possible (fun _ _ _ _ _ _ us hl => match us, hl with | [_], _ => rfl) (fun vs H Q E h => ?_) (fun f cdv A outer s H vs Q E hr h => ?_)
  · obtain ⟨x, d, rfl, _⟩ := h
    rfl
  · obtain ⟨x, d, rfl, hR, k⟩ := h
    refine ⟨_, (pss_cons (ps_if (pt_cmpR op_isN (pe_fldK (K := K) (pv 0) rfl) pe_non (nomark _)) (pss_one (ps_ret pe_bl)) pss_nil)
  (pss_cons (ps_set (i := 1) sc_Request_possible.nd rfl (Or.inl rfl) (pe_mc (c_Automaton_need T) hr (by decide) T.a_cls T.a_m_need (pe_fldK (K := K) (pv 0) rfl) (pa_cons pe_int pa_nil)))
  (pss_one (ps_ret (pe_and (pe_cmpR op_notN (pv 1) pe_non (nomark _)) (pe_one (pe_cmpR op_le (pv 1) (pe_fldK (K := K) (pv 0) rfl) (nomark _)))))))), ?_⟩
    obtain ⟨dx, pt, av, hx, hT, hP⟩ := hR
    cases hp : d.plan with
    | none =>
      rw [hp] at hP k
      rw [show av = .non from hP] at hx
      exact ⟨_, rfl, _, cR K, _, _, _, rfl, hx, T.r_cls, T.r_no_automaton, lkR_automaton, rfl, _, rfl, iteT k⟩
    | some q =>
      obtain ⟨rows, cl⟩ := q
      rw [hp] at hP k
      obtain ⟨y, rfl, hA, gT, _⟩ := hP
      obtain ⟨dy, qt, qc, qn, hy, _⟩ := id hA
      refine ⟨_, rfl, _, cR K, _, _, _, rfl, hx, T.r_cls, T.r_no_automaton, lkR_automaton, rfl, _, rfl, iteF ?_⟩
      refine ⟨_, rfl, _, cR K, _, _, _, rfl, hx, T.r_cls, T.r_no_automaton, lkR_automaton, y, dy, _, rfl, hy, lkA_need, y, rows, cl, rfl, hA, gT.ne, ?_⟩
      have k : Q (.bl (possN d.most (needF0 rows cl))) H := k
      cases hn : needF0 rows cl with
      | none =>
        rw [hn] at k
        exact ⟨_, rfl, rfl, _, rfl, iteF k⟩
      | some n =>
        rw [hn] at k
        exact ⟨_, rfl, rfl, _, rfl, iteT ⟨_, rfl, _, rfl, _, cR K, _, _, _, rfl, hx, T.r_cls, T.r_no_most, lkR_most, _, _, rfl, rfl, k⟩⟩
abbrev s_Request_fits : Stmt := inClass (top 26) 2
theorem sc_Request_fits : FnScope ["self", "tokens", "token"] ["self", "tokens"] (defScope s_Request_fits) := ⟨rfl, rfl, rfl, by decide +kernel, rfl, by decide +kernel, by decide +kernel⟩
def sp_Request_fits (K : PySem.W.Frag) : Sp := fun vs H Q _ => ∃ (x : Addr) (d : ReqD) (n : Int), vs = [.ref x, .int n] ∧ ReqAt K H x d ∧ d.text.length ≤ 1000 ∧ ∀ H', Ext H H' → Q (.bl (fitsB d n)) H'
theorem c_Request_fits (T : Txt K mg) : MCal P w K mg base CX0 2 (He.ma K (cR K) "fits") (sp_Request_fits K) := by
  refine T.dr_fits.mcal sc_Request_fits (fun _ _ _ _ _ _ us hl => match us, hl with | [_, _], _ => rfl) (fun vs H Q E h => ?_) (fun f cdv A outer s H vs Q E hr h => ?_)
  · obtain ⟨x, d, n, rfl, _⟩ := h
    rfl
  · obtain ⟨x, d, n, rfl, hR, hz, k⟩ := h
    refine ⟨_, (pss_cons (ps_if (pt_not (pt_val (pe_callB (cr_allK (K := K) rfl) rfl T.n_all bt_all (pa_cons (pe_lc (own := [("token", 2)]) (g := gName 2) (tt := tYes) rfl sc_Request_fits.nd (pi_tupK (K := K) (pe_fldK (K := K) (pv 0) rfl)) (blkOk_by (by kernel_rfl)) (fun _ _ _ _ _ => (pg_name (i := 2) sc_Request_fits.nd rfl (Or.inl rfl))) (fun _ _ _ _ _ => pts_nil) (fun _ _ _ _ _ => (pe_cmpR op_lt (pv 2) (pv 1) (nomark _)))) pa_nil)))) (pss_one (ps_ret pe_bl)) pss_nil)
  (pss_one (ps_ret (pe_or (pe_cmpR op_isN (pe_fldK (K := K) (pv 0) rfl) pe_non (nomark _)) (pe_one (pe_cmpR op_eq (pe_fldK (K := K) (pe_fldK (K := K) (pv 0) rfl) rfl) (pv 1) (nomark _))))))), ?_⟩
    obtain ⟨dx, pt, av, hx, hT, hP⟩ := hR
    refine ⟨_, rfl, _, cR K, _, _, _, rfl, hx, T.r_cls, T.r_no_text, lkR_text, pt, rfl, ⟨_, hT⟩, fun D hD => lcPTy (prd_map V.int d.text) (fun t => V.bl (decide (t < n))) hT hD (by rw [List.length_map]; exact sl_lt (by omega)) (fun v t H' _ hv e Q1 k1 => ⟨rfl, ?_⟩) (fun H' e hl => ?_)⟩
    · subst hv
      exact ⟨_, rfl, _, rfl, _, _, rfl, rfl, k1 _ Ext.rfl'⟩
    · refine ⟨D, d.text.map fun t => decide (t < n), rfl, SqL.of (by rw [hl, bls]), _, rfl, ?_⟩
      rw [all_id]
      unfold fitsB at k
      cases hb : d.text.all fun t => decide (t < n) with
      | false =>
        rw [hb, Bool.false_and] at k
        exact iteT (k _ e)
      | true =>
        rw [hb, Bool.true_and] at k
        refine iteF ?_
        cases hp : d.plan with
        | none =>
          rw [hp] at hP k
          rw [show av = .non from hP] at hx
          exact ⟨_, rfl, _, cR K, _, _, _, rfl, e _ _ hx, T.r_cls, T.r_no_automaton, lkR_automaton, rfl, _, rfl, iteT (k _ e)⟩
        | some q =>
          obtain ⟨rows, cl⟩ := q
          rw [hp] at hP k
          obtain ⟨y, rfl, ⟨dy, qt, qc, qn, hy, _⟩, _⟩ := hP
          refine ⟨_, rfl, _, cR K, _, _, _, rfl, e _ _ hx, T.r_cls, T.r_no_automaton, lkR_automaton, rfl, _, rfl, iteF ?_⟩
          refine ⟨_, rfl, _, cR K, _, _, _, rfl, e _ _ hx, T.r_cls, T.r_no_automaton, lkR_automaton, y, cA K, dy, _, _, rfl, e _ _ hy, T.a_cls, T.a_no_tokens, lkA_tokens, _, rfl, rfl, ?_⟩
          rw [dec_int, Bool.beq_eq_decide_eq]
          exact k _ e
abbrev s_Request_need : Stmt := inClass (top 26) 3
theorem sc_Request_need : FnScope ["self", "page", "places", "pages", "shared"] ["self", "page"] (defScope s_Request_need) := ⟨rfl, rfl, rfl, by decide +kernel, rfl, by decide +kernel, by decide +kernel⟩
def needI (len : Nat) (most copies page : Int) : Int :=
  if (copies == 1) = true then ((len : Int) + most - 1 + page - 1) / page else if (most == 1) = true then ((len : Int) + most - 1 + page - 1) / page
  else (len : Int) / page + copies * (((len : Int) + most - 1 + page - 1) / page - (len : Int) / page)
def sp_Request_need (K : PySem.W.Frag) : Sp := fun vs H Q _ => ∃ (x : Addr) (d : ReqD) (p : Int), vs = [.ref x, .int p] ∧ ReqAt K H x d ∧ 0 < p ∧ p < 1073741824 ∧ -(2 ^ 64) < d.copies ∧ d.copies < 2 ^ 64 ∧ Q (.int (needI d.text.length d.most d.copies p)) H
theorem f_Request_need (T : Txt K mg) : ∃ fd, FunD K "need" "Request.need" (defArgs s_Request_need) (defBody s_Request_need) (defScope s_Request_need) [] [] (He.ma K (cR K) "need") fd ∧ FnOk P w K mg base CX0 1 (He.ma K (cR K) "need") fd ["self", "page"] (sp_Request_need K) := by
  obtain ⟨fd, F⟩ := T.dr_need.f
  refine ⟨fd, F, DfM.fn F sc_Request_need (fun vs H Q E h => ?_) (fun f cdv A outer s H vs Q E hr h => ?_)⟩
  · obtain ⟨x, d, p, rfl, _⟩ := h
    rfl
  · obtain ⟨x, d, p, rfl, hR, hp, hp2, hc1, hc2, k⟩ := h
    refine ⟨_, PSs.nox (pss_cons (ps_set (i := 2) sc_Request_need.nd rfl (Or.inl rfl) (pe_op op_sub (pe_op op_add (pe_callB (call_lenK (K := K)) rfl T.n_len bt_len (pa_cons (pe_fldK (K := K) (pv 0) rfl) pa_nil)) (pe_fldK (K := K) (pv 0) rfl)) pe_int))
  (pss_cons (ps_set (i := 3) sc_Request_need.nd rfl (Or.inl rfl) (pe_op op_fdiv (pe_op op_sub (pe_op op_add (pv 2) (pv 1)) pe_int) (pv 1)))
  (pss_cons (ps_if (PW.pt (pw_or (pt_cmpR op_eq (pe_fldK (K := K) (pv 0) rfl) pe_int (nomark _)) (pw_or1 (pt_cmpR op_eq (pe_fldK (K := K) (pv 0) rfl) pe_int (nomark _))))) (pss_one (ps_ret (pv 3))) pss_nil)
  (pss_cons (ps_set (i := 4) sc_Request_need.nd rfl (Or.inl rfl) (pe_op op_fdiv (pe_callB (call_lenK (K := K)) rfl T.n_len bt_len (pa_cons (pe_fldK (K := K) (pv 0) rfl) pa_nil)) (pv 1)))
  (pss_one (ps_ret (pe_op op_add (pv 4) (pe_op op_mul (pe_fldK (K := K) (pv 0) rfl) (pe_op op_sub (pv 3) (pv 4)))))))))), ?_⟩
    obtain ⟨dx, pt, av, hx, hT, hP⟩ := hR
    refine ⟨_, rfl, _, cR K, _, _, _, rfl, hx, T.r_cls, T.r_no_text, lkR_text, _, _, rfl, .inr hT, _, rfl, _, cR K, _, _, _, rfl, hx, T.r_cls, T.r_no_most, lkR_most, _, _, rfl, rfl, _, _, rfl, rfl, ?_⟩
    refine ⟨_, rfl, _, rfl, _, _, rfl, rfl, _, _, rfl, rfl, _, rfl, _, _, rfl, rfl, ⟨hp, hp2⟩, ?_⟩
    unfold needI at k
    refine ⟨_, rfl, _, cR K, _, _, _, rfl, hx, T.r_cls, T.r_no_copies, lkR_copies, rfl, _, rfl, ?_⟩
    rw [dec_int]
    refine ite2 (fun h => iteT ?_) (fun h => ?_)
    · rw [if_pos h] at k
      refine ⟨_, rfl, ?_⟩
      rw [List.length_map]
      exact k
    rw [if_neg h] at k
    refine ⟨_, rfl, _, cR K, _, _, _, rfl, hx, T.r_cls, T.r_no_most, lkR_most, rfl, _, rfl, ?_⟩
    rw [dec_int]
    refine ite2 (fun h => ?_) (fun h => ?_)
    · rw [if_pos h] at k
      refine ⟨_, rfl, ?_⟩
      rw [List.length_map]
      exact k
    rw [if_neg h] at k
    refine ⟨_, rfl, _, cR K, _, _, _, rfl, hx, T.r_cls, T.r_no_text, lkR_text, _, _, rfl, .inr hT, _, rfl, _, _, rfl, rfl, ⟨hp, hp2⟩, ?_⟩
    refine ⟨_, rfl, _, rfl, _, cR K, _, _, _, rfl, hx, T.r_cls, T.r_no_copies, lkR_copies, _, rfl, _, rfl, _, _, rfl, rfl, _, _, rfl, rfl, .inl ⟨hc1, hc2⟩, _, _, rfl, rfl, ?_⟩
    rw [List.length_map]
    exact k
theorem c_Request_need (T : Txt K mg) : MCal P w K mg base CX0 1 (He.ma K (cR K) "need") (sp_Request_need K) := by
  obtain ⟨fd, F, G⟩ := f_Request_need (P := P) (w := w) (base := base) T
  exact ⟨fd, _, G, F.bindsN (fun _ _ _ _ _ _ us hl => match us, hl with | [_, _], _ => rfl)⟩
abbrev s_Request___eq__ : Stmt := inClass (top 26) 6
theorem sc_Request___eq__ : FnScope ["self", "other"] ["self", "other"] (defScope s_Request___eq__) := ⟨rfl, rfl, rfl, by decide +kernel, rfl, by decide +kernel, by decide +kernel⟩
def eqReq (K : PySem.W.Frag) (a b : Addr) (H : Hp) : Prop := ∃ d, ReqAt K H a d ∧ ReqAt K H b d
def sp_Request___eq__ (K : PySem.W.Frag) : Sp := spEq (eqReq K)
theorem rcG_autEq {X : Cx} (T : Txt X.K X.mg) : RcG X 3 (DIns (cA X.K) (eqAut X.K)) := by
  obtain ⟨fd, ps, F, b⟩ := (c_Automaton___eq__ (P := X.prog) (w := X.w) (base := X.base) T).ex
  exact rcG_ins F T.a_m_eq.at_ T.a_m_eq.fn b (E := E0) pass0
theorem c_Request___eq__ (T : Txt K mg) : MCal P w K mg base CX0 4 (He.ma K (cR K) "__eq__") (sp_Request___eq__ K) := by
  refine T.dr_eq.mcal sc_Request___eq__ (fun _ _ _ _ _ _ us hl => match us, hl with | [_, _], _ => rfl) (fun vs H Q E h => ?_) (fun f cdv A outer s H vs Q E hr h => ?_)
  · obtain ⟨a, b, rfl, _⟩ := h
    rfl
  · obtain ⟨a, b, rfl, hA, k⟩ := h
    refine ⟨_, (pss_one (ps_ret (pe_and (pe_callB (call_isiK' (K := K)) rfl T.n_isinstance bt_isinstance (pa_cons (pv 1) (pa_cons (pe_glob (v := V.ref (cR K)) rfl T.g_Request rfl) pa_nil))) (pe_and (pe_cmpR op_eq (pe_fldK (K := K) (pv 0) rfl) (pe_fldK (K := K) (pv 1) rfl) (nomark _)) (pe_and (pe_cmpR (op_eqG (rcG_tup mon_flat eqG_flat) (hr.mono (by decide))) (pe_fldK (K := K) (pv 0) rfl) (pe_fldK (K := K) (pv 1) rfl) (nomark _)) (pe_and (pe_cmpR op_eq (pe_fldK (K := K) (pv 0) rfl) (pe_fldK (K := K) (pv 1) rfl) (nomark _)) (pe_and (pe_cmpR op_eq (pe_fldK (K := K) (pv 0) rfl) (pe_fldK (K := K) (pv 1) rfl) (nomark _)) (pe_and (pe_cmpR op_eq (pe_fldK (K := K) (pv 0) rfl) (pe_fldK (K := K) (pv 1) rfl) (nomark _)) (pe_and (pe_cmpR op_eq (pe_fldK (K := K) (pv 0) rfl) (pe_fldK (K := K) (pv 1) rfl) (nomark _)) (pe_one (pe_cmpR (OpR.or op_eq (op_eqG (rcG_autEq T) (hr.mono (by decide)))) (pe_fldK (K := K) (pv 0) rfl) (pe_fldK (K := K) (pv 1) rfl) (nomark _)))))))))))), ?_⟩
    obtain ⟨d, ⟨dx, pt, av, hx, hT, hP⟩, dy, qt, bv, hy, hT', hP'⟩ := hA
    refine ⟨_, rfl, _, _, .ref (cR K), .ref (cR K), true, rfl, .own _, T.r_ty.ty T.r_cls hy, T.r_ty.self, ?_⟩
    refine ⟨_, rfl, iteT ⟨_, rfl, _, cR K, _, _, _, rfl, hx, T.r_cls, T.r_no_name, lkR_name, _, rfl, _, cR K, _, _, _, rfl, hy, T.r_cls, T.r_no_name, lkR_name, rfl, ?_⟩⟩
    rw [decide_eq_true rfl]
    refine ⟨_, rfl, iteT ⟨_, rfl, _, cR K, _, _, _, rfl, hx, T.r_cls, T.r_no_text, lkR_text, _, rfl, _, cR K, _, _, _, rfl, hy, T.r_cls, T.r_no_text, lkR_text, dints hT hT', fun H1 e1 => ⟨_, rfl, iteT ?_⟩⟩⟩
    have hx1 := e1 _ _ hx
    have hy1 := e1 _ _ hy
    refine ⟨_, rfl, _, cR K, _, _, _, rfl, hx1, T.r_cls, T.r_no_most, lkR_most, _, rfl, _, cR K, _, _, _, rfl, hy1, T.r_cls, T.r_no_most, lkR_most, rfl, ?_⟩
    rw [decide_eq_true rfl]
    refine ⟨_, rfl, iteT ⟨_, rfl, _, cR K, _, _, _, rfl, hx1, T.r_cls, T.r_no_knob, lkR_knob, _, rfl, _, cR K, _, _, _, rfl, hy1, T.r_cls, T.r_no_knob, lkR_knob, rfl, ?_⟩⟩
    rw [decide_eq_true rfl]
    refine ⟨_, rfl, iteT ⟨_, rfl, _, cR K, _, _, _, rfl, hx1, T.r_cls, T.r_no_seed, lkR_seed, _, rfl, _, cR K, _, _, _, rfl, hy1, T.r_cls, T.r_no_seed, lkR_seed, rfl, ?_⟩⟩
    rw [decide_eq_true rfl]
    refine ⟨_, rfl, iteT ⟨_, rfl, _, cR K, _, _, _, rfl, hx1, T.r_cls, T.r_no_copies, lkR_copies, _, rfl, _, cR K, _, _, _, rfl, hy1, T.r_cls, T.r_no_copies, lkR_copies, rfl, ?_⟩⟩
    rw [decide_eq_true rfl]
    refine ⟨_, rfl, iteT ⟨_, rfl, _, cR K, _, _, _, rfl, hx1, T.r_cls, T.r_no_automaton, lkR_automaton, _, rfl, _, cR K, _, _, _, rfl, hy1, T.r_cls, T.r_no_automaton, lkR_automaton, ?_⟩⟩
    cases hp : d.plan with
    | none =>
      rw [hp] at hP hP'
      rw [show av = .non from hP, show bv = .non from hP']
      refine .inl ⟨rfl, ?_⟩
      rw [decide_eq_true rfl]
      exact k _ e1
    | some q =>
      obtain ⟨rows, cl⟩ := q
      rw [hp] at hP hP'
      obtain ⟨y1, rfl, hA1, _⟩ := hP
      obtain ⟨y2, rfl, hA2, _⟩ := hP'
      obtain ⟨d1, t1, c1, n1, hy1', _⟩ := id (hA1.ext e1)
      obtain ⟨d2, t2, c2, n2, hy2', _⟩ := id (hA2.ext e1)
      exact .inr ⟨⟨y1, y2, d1, d2, _, _, rfl, rfl, hy1', hy2', rows, cl, hA1.ext e1, hA2.ext e1⟩, fun H2 e2 => k _ (e1.trans e2)⟩
end
end K12
namespace K12
open PySem PySem.Spec PyProof.Rows L2 SX
/-! ### Request.entry -/
def at0L (chars : List Nat) (t : Int) : Nat := chars.getD t.toNat 0
def planWord : Plan → List Nat
  | none => [42]
  | some (rows, cl) => autWord rows cl
def lineP (d : ReqD) (chars : List Nat) : List (List Nat) := [[97, 115, 107], d.name.cps.toList, d.text.map (at0L chars), TL.numL d.most.toNat, d.knob.cps.toList, TL.numL d.seed.toNat, TL.numL d.copies.toNat, planWord d.plan]
def lineL (d : ReqD) (chars : List Nat) : List Nat := TL.joinL [32] (lineP d chars)
/-- what stands in a request -/
structure ReqG (d : ReqD) : Prop where
  name : d.name.length ≤ 8
  text : 1 ≤ d.text.length ∧ d.text.length ≤ 16
  most : 1 ≤ d.most ∧ d.most ≤ 16
  knob : d.knob.length ≤ 4
  seed : 0 ≤ d.seed ∧ d.seed ≤ 9999
  copies : 1 ≤ d.copies ∧ d.copies ≤ 4
theorem tJs_vals {σ : L2.St} {H : Hp} : ∀ {ts : List TE} {ys : List Str} {acc : Str} {Q : Str → Hp → Prop}, Paired (fun (t : TE) (y : Str) => ∀ P : VK, P (.str y) H → t σ H P) ts ys → acc.length + (ys.map (·.length)).sum ≤ sizeLine → Q (ys.foldl (· ++ ·) acc) H → tJs ts acc σ H Q
  | _, _, _, _, .nil, _, q => q
  | _, _, acc, _, .cons (b := y) h r, hz, q => by
    rw [List.map_cons, List.sum_cons] at hz
    have e : (acc ++ y).length = acc.length + y.length := Str.length_append _ _
    exact h _ ⟨y, rfl, by rw [e]; omega, tJs_vals r (by rw [e]; omega) q⟩
theorem fold_S : ∀ (l : List (List Nat)) (acc : List Nat), (l.map S).foldl (· ++ ·) (S acc) = S (acc ++ l.flatten)
  | [], acc => by rw [List.flatten_nil, List.append_nil]; rfl
  | x :: l, acc => by
    rw [List.map_cons, List.foldl_cons, SX.S_cat, fold_S l, List.flatten_cons, List.append_assoc]
theorem constS {σ : L2.St} {H : Hp} {s : String} {l : List Nat} (e : (Str.ofString s : Str) = S l) (P : VK) (h : P (.str (S l)) H) : tC (.str (Str.ofString s)) σ H P := by
  show P (.str (Str.ofString s)) H
  rw [e]
  exact h
theorem autWord_len {rows : List Row} {cl : List Int} (g : GoodT rows) : (autWord rows cl).length ≤ 100 := by
  have h : ∀ (ps : List (List Nat)), (∀ p ∈ ps, p.length ≤ 6) → (TL.joinL [47] ps).length ≤ ps.length * 7 := by
    intro ps
    induction ps with
    | nil => intro _; exact Nat.zero_le _
    | cons p ps ih =>
      intro hp
      have h1 := hp p List.mem_cons_self
      cases ps with
      | nil => show p.length ≤ _; simp only [List.length_cons, List.length_nil]; omega
      | cons q ps =>
        have h2 := ih fun z hz => hp z (List.mem_cons_of_mem _ hz)
        show (p ++ ([47] ++ TL.joinL [47] (q :: ps))).length ≤ _
        rw [List.length_append, List.length_append]
        simp only [List.length_cons, List.length_nil] at h2 ⊢
        omega
  have h2 := h (autPieces rows cl) fun p hp => by
    obtain ⟨q, hq, rfl⟩ := List.mem_map.mp hp
    have := g.rowz _ (List.fst_mem_of_mem_zipIdx hq)
    rw [stWord_len]
    split <;> omega
  have h3 : (autPieces rows cl).length = rows.length := by simp [autPieces]
  have := g.len
  unfold autWord
  omega
theorem numw {n : Int} (h : 0 ≤ n) : (Str.ofString (toString n) : Str) = S (TL.numL n.toNat) := by
  obtain ⟨m, rfl⟩ := Int.eq_ofNat_of_zero_le h
  exact SX.num_S m
theorem numL_small {n : Nat} (h : n < 100000) : (TL.numL n).length ≤ 5 := TL.numL_len (by decide) h
section
variable {P : Program} {w : World} {K : PySem.W.Frag} {mg : Str → Option Value} {base : Heap}
abbrev s_Request_entry : Stmt := inClass (top 26) 4
theorem sc_Request_entry : FnScope ["self", "tokens", "text", "most", "seed", "copies", "word", "token"] ["self", "tokens"] (defScope s_Request_entry) := ⟨rfl, rfl, rfl, by decide +kernel, rfl, by decide +kernel, by decide +kernel⟩
def sp_Request_entry (K : PySem.W.Frag) : Sp := fun vs H Q _ => ∃ (x : Addr) (d : ReqD) (chars : List Nat), vs = [.ref x, .str (S chars)] ∧ ReqAt K H x d ∧ ReqG d ∧ chars.length ≤ 1000 ∧ (∀ t ∈ d.text, 0 ≤ t ∧ t < (chars.length : Int)) ∧ ∀ H', Ext H H' → Q (.str (S (lineL d chars))) H'
theorem f_Request_entry (T : Txt K mg) : ∃ fd, FunD K "entry" "Request.entry" (defArgs s_Request_entry) (defBody s_Request_entry) (defScope s_Request_entry) [] [] (He.ma K (cR K) "entry") fd ∧ FnOk P w K mg base CX0 6 (He.ma K (cR K) "entry") fd ["self", "tokens"] (sp_Request_entry K) := by
  obtain ⟨fd, F⟩ := T.dr_entry.f
  refine ⟨fd, F, DfM.fn F sc_Request_entry (fun vs H Q E h => ?_) (fun f cdv A outer s H vs Q E hr h => ?_)⟩
  · obtain ⟨x, d, chars, rfl, _⟩ := h
    rfl
  · obtain ⟨x, d, chars, rfl, hR, hG, hz, ht, k⟩ := h
    refine ⟨_, PSs.nox (pss_cons (ps_set (i := 2) sc_Request_entry.nd rfl (Or.inl rfl) (pe_join pe_str (pe_lc (own := [("token", 7)]) (g := gName 7) (tt := tYes) rfl sc_Request_entry.nd (pi_tupK (K := K) (pe_fldK (K := K) (pv 0) rfl)) (blkOk_by (by kernel_rfl)) (fun _ _ _ _ _ => (pg_name (i := 7) sc_Request_entry.nd rfl (Or.inl rfl))) (fun _ _ _ _ _ => pts_nil) (fun _ _ _ _ _ => (pe_ix ix_str (pv 1) (pv 7) (fun _ _ => rfl))))))
  (pss_cons (ps_set (i := 3) sc_Request_entry.nd rfl (Or.inl rfl) (pe_c (c_number_word T) hr (by decide) rfl (pa_cons (pe_fldK (K := K) (pv 0) rfl) pa_nil)))
  (pss_cons (ps_set (i := 4) sc_Request_entry.nd rfl (Or.inl rfl) (pe_c (c_number_word T) hr (by decide) rfl (pa_cons (pe_fldK (K := K) (pv 0) rfl) pa_nil)))
  (pss_cons (ps_set (i := 5) sc_Request_entry.nd rfl (Or.inl rfl) (pe_c (c_number_word T) hr (by decide) rfl (pa_cons (pe_fldK (K := K) (pv 0) rfl) pa_nil)))
  (pss_cons (ps_set (i := 6) sc_Request_entry.nd rfl (Or.inl rfl) (pe_ifExp (pt_cmpR op_isN (pe_fldK (K := K) (pv 0) rfl) pe_non (nomark _)) pe_str (pe_callTy (call_strO (c_Automaton___str__ T) hr (by decide) T.a_m_str) rfl T.n_str bt_str (pa_cons (pe_fldK (K := K) (pv 0) rfl) pa_nil))))
  (pss_one (ps_ret (pe_joined (PJ.cons pe_str (PJ.cons (pe_fmt (pe_fldK (K := K) (pv 0) rfl)) (PJ.cons pe_str (PJ.cons (pe_fmt (pv 2)) (PJ.cons pe_str (PJ.cons (pe_fmt (pv 3)) (PJ.cons pe_str (PJ.cons (pe_fmt (pe_fldK (K := K) (pv 0) rfl)) (PJ.cons pe_str (PJ.cons (pe_fmt (pv 4)) (PJ.cons pe_str (PJ.cons (pe_fmt (pv 5)) (PJ.cons pe_str (PJ.cons (pe_fmt (pv 6)) PJ.nil)))))))))))))))))))))), ?_⟩
    obtain ⟨dx, pt, av, hx, hT, hP⟩ := hR
    have gt := hG.text
    have gm := hG.most
    have gs := hG.seed
    have gc := hG.copies
    refine ⟨⟨_, rfl⟩, _, rfl, _, cR K, _, _, _, rfl, hx, T.r_cls, T.r_no_text, lkR_text, pt, rfl, ⟨_, hT⟩, fun D hD => lcPTy (prd_map V.int d.text) (fun t => V.str (S [at0L chars t])) hT hD (by rw [List.length_map]; exact sl_lt (by omega)) (fun v t H' hm hv e Q1 k1 => ⟨rfl, ?_⟩) (fun H1 e1 hl => ?_)⟩
    · subst hv
      obtain ⟨h0, h1⟩ := ht t hm
      obtain ⟨j, rfl⟩ := Int.eq_ofNat_of_zero_le h0
      have hj : j < chars.length := by omega
      refine ⟨_, rfl, _, rfl, _, _, _, rfl, rfl, by rw [SX.S_len]; exact sl_of (by omega), atI_nat (j := j) (List.getElem?_eq_getElem hj), ?_⟩
      have e2 : at0L chars (j : Nat) = chars[j] := by
        show chars.getD j 0 = _
        rw [List.getD_eq_getElem?_getD, List.getElem?_eq_getElem hj]
        rfl
      have k2 := k1 _ Ext.rfl'
      rw [e2] at k2
      exact k2
    · have hl2 : H1 D = some (.lst ((d.text.map fun t => [at0L chars t]).map fun l => V.str (S l))) := by
        rw [hl, List.map_map]
        rfl
      have hfl : (d.text.map fun t => [at0L chars t]).flatten = d.text.map (at0L chars) := by
        rw [← List.flatMap_def]
        induction d.text with
        | nil => rfl
        | cons t r ih => rw [List.flatMap_cons, ih]; rfl
      refine ⟨_, D, (d.text.map fun t => [at0L chars t]).map S, rfl, rfl, .inl (SqL.of (by rw [hl2, List.map_map (g := V.str)]; rfl)), ?_, ?_⟩
      · have h1 := sum_le (m := 1) (d.text.map fun t => [at0L chars t]) fun y hy => by
          obtain ⟨t, _, rfl⟩ := List.mem_map.mp hy
          exact Nat.le_refl 1
        rw [List.length_map] at h1
        rw [empty_S, SX.S_len]
        show _ + _ * 0 ≤ 16777216
        omega
      · rw [empty_S, join_nil, hfl]
        refine ⟨_, rfl, _, cR K, _, _, _, rfl, e1 _ _ hx, T.r_cls, T.r_no_most, lkR_most, d.most, rfl, log_small (by omega) (by omega), ?_⟩
        refine ⟨_, rfl, _, cR K, _, _, _, rfl, e1 _ _ hx, T.r_cls, T.r_no_seed, lkR_seed, d.seed, rfl, log_small (by omega) (by omega), ?_⟩
        refine ⟨_, rfl, _, cR K, _, _, _, rfl, e1 _ _ hx, T.r_cls, T.r_no_copies, lkR_copies, d.copies, rfl, log_small (by omega) (by omega), ?_⟩
        rw [numw (n := d.most) (by omega), numw (n := d.seed) (by omega), numw (n := d.copies) (by omega)]
        have gn := hG.name
        have gk := hG.knob
        have hnm : d.name = S d.name.cps.toList := S_tl' _
        have hkb : d.knob = S d.knob.cps.toList := S_tl' _
        have hnl : d.name.cps.toList.length ≤ 8 := by rw [hnm, SX.S_len] at gn; exact gn
        have hkl : d.knob.cps.toList.length ≤ 4 := by rw [hkb, SX.S_len] at gk; exact gk
        have l1 := numL_small (n := d.most.toNat) (by omega)
        have l2 := numL_small (n := d.seed.toNat) (by omega)
        have l3 := numL_small (n := d.copies.toNat) (by omega)
        have hfin : ∀ wd, wd = planWord d.plan → lineL d chars = [[97, 115, 107, 32], d.name.cps.toList, [32], d.text.map (at0L chars), [32], TL.numL d.most.toNat, [32], d.knob.cps.toList, [32], TL.numL d.seed.toNat, [32], TL.numL d.copies.toNat, [32], wd].flatten := fun wd hwd => by
          rw [hwd]
          simp [lineL, lineP, TL.joinL]
        have hlt : (d.text.map (at0L chars)).length ≤ 16 := by rw [List.length_map]; omega
        have main : ∀ (wd : List Nat) (H2 : Hp), Ext H H2 → wd = planWord d.plan → wd.length ≤ 100 → tJs [tC (.str (Str.ofString "ask ")), tFmt (tFld K (tVar 0) "name"), tC (.str (Str.ofString " ")), tFmt (tVar 2), tC (.str (Str.ofString " ")), tFmt (tVar 3), tC (.str (Str.ofString " ")), tFmt (tFld K (tVar 0) "knob"), tC (.str (Str.ofString " ")), tFmt (tVar 4), tC (.str (Str.ofString " ")), tFmt (tVar 5), tC (.str (Str.ofString " ")), tFmt (tVar 6)] Str.empty
            [some (.ref x), some (.str (S chars)), some (.str (S (d.text.map (at0L chars)))), some (.str (S (TL.numL d.most.toNat))), some (.str (S (TL.numL d.seed.toNat))), some (.str (S (TL.numL d.copies.toNat))), some (.str (S wd)), none] H2 fun out H3 => Q (.str out) H3 := by
          intro wd H2 e2 hwd hwl
          have sp := str1 (s := " ") (c := 32)
          have ask : (Str.ofString "ask " : Str) = S [97, 115, 107, 32] := by rw [S_ofString]; rfl
          have fs : ∀ l : List Nat, l.length ≤ 1000 → (S l).length ≤ sizeLine := fun l h => by rw [SX.S_len]; exact sl_of (by omega)
          refine tJs_vals (ys := [[97, 115, 107, 32], d.name.cps.toList, [32], d.text.map (at0L chars), [32], TL.numL d.most.toNat, [32], d.knob.cps.toList, [32], TL.numL d.seed.toNat, [32], TL.numL d.copies.toNat, [32], wd].map S) (.cons (constS ask) (.cons (fun P h => ⟨_, rfl, _, cR K, _, _, _, rfl, e2 _ _ hx, T.r_cls, T.r_no_name, lkR_name, .inl ⟨_, rfl, by rw [hnm]; exact fs _ (by omega), by rw [hnm]; exact h⟩⟩) (.cons (constS sp) (.cons (fun P h => ⟨_, rfl, .inl ⟨_, rfl, fs _ (by omega), h⟩⟩) (.cons (constS sp) (.cons (fun P h => ⟨_, rfl, .inl ⟨_, rfl, fs _ (by omega), h⟩⟩)
            (.cons (constS sp) (.cons (fun P h => ⟨_, rfl, _, cR K, _, _, _, rfl, e2 _ _ hx, T.r_cls, T.r_no_knob, lkR_knob, .inl ⟨_, rfl, by rw [hkb]; exact fs _ (by omega), by rw [hkb]; exact h⟩⟩) (.cons (constS sp) (.cons (fun P h => ⟨_, rfl, .inl ⟨_, rfl, fs _ (by omega), h⟩⟩) (.cons (constS sp) (.cons (fun P h => ⟨_, rfl, .inl ⟨_, rfl, fs _ (by omega), h⟩⟩) (.cons (constS sp) (.cons (fun P h => ⟨_, rfl, .inl ⟨_, rfl, fs _ (by omega), h⟩⟩) .nil)))))))))))))) ?_ ?_
          · refine sl_of ?_
            simp only [List.map_cons, List.map_nil, List.sum_cons, List.sum_nil, SX.S_len, List.length_cons, List.length_nil]
            show 0 + _ ≤ _
            omega
          · show Q (.str (List.foldl _ (S []) _)) H2
            rw [fold_S, List.nil_append, ← hfin wd hwd]
            exact k _ e2
        cases hp : d.plan with
        | none =>
          rw [hp] at hP
          have hx1 := e1 _ _ hx
          rw [show av = .non from hP] at hx1
          refine ⟨_, rfl, _, cR K, _, _, _, rfl, hx1, T.r_cls, T.r_no_automaton, lkR_automaton, rfl, _, rfl, iteT ?_⟩
          have h := main [42] H1 e1 (by rw [hp]; rfl) (by decide)
          rw [← str1 (s := "*") (c := 42)] at h
          exact h
        | some q =>
          obtain ⟨rows, cl⟩ := q
          rw [hp] at hP
          obtain ⟨y, rfl, hA, gT, hcl⟩ := hP
          obtain ⟨dy, qt, qc, qn, hy, _⟩ := id hA
          refine ⟨_, rfl, _, cR K, _, _, _, rfl, e1 _ _ hx, T.r_cls, T.r_no_automaton, lkR_automaton, rfl, _, rfl, iteF ?_⟩
          exact ⟨_, rfl, _, cR K, _, _, _, rfl, e1 _ _ hx, T.r_cls, T.r_no_automaton, lkR_automaton, y, dy, _, rfl, e1 _ _ hy, y, rows, cl, rfl, hA.ext e1, gT, hcl, fun H2 e2 => ⟨⟨_, rfl⟩, main _ H2 (e1.trans e2) (by rw [hp]; rfl) (autWord_len gT)⟩⟩
theorem c_Request_entry (T : Txt K mg) : MCal P w K mg base CX0 6 (He.ma K (cR K) "entry") (sp_Request_entry K) := by
  obtain ⟨fd, F, G⟩ := f_Request_entry (P := P) (w := w) (base := base) T
  exact ⟨fd, _, G, F.bindsN (fun _ _ _ _ _ _ us hl => match us, hl with | [_, _], _ => rfl)⟩
end
end K12
namespace K12
open PySem PySem.Spec PyProof.Rows L2 SX
open PySem.NumText (digitsVal AllDigits digitsVal_snoc)
/-! ### numbers in texts: the mirror -/
def canonW (w : List Nat) : Bool := !w.isEmpty && (w.all digC && (decide (w.head? ≠ some 48) || decide (w.length = 1)))
def readN (w : List Nat) (lo hi : Int) : Option Int := if canonW w = true ∧ lo ≤ (digitsVal w : Nat) ∧ ((digitsVal w : Nat) : Int) ≤ hi then some ((digitsVal w : Nat) : Int) else none
theorem all_dig {w : List Nat} (h : w.all digC = true) : AllDigits w := fun c hc => by
  have h1 := List.all_eq_true.mp h c hc
  unfold digC at h1
  rw [Bool.and_eq_true, decide_eq_true_eq, decide_eq_true_eq] at h1
  exact h1
theorem digC_iff {c : Nat} : digC c = true ↔ 48 ≤ c ∧ c ≤ 57 := by
  unfold digC
  rw [Bool.and_eq_true, decide_eq_true_eq, decide_eq_true_eq]
theorem canonW_iff {w : List Nat} : canonW w = true ↔ w ≠ [] ∧ w.all digC = true ∧ (w.head? ≠ some 48 ∨ w.length = 1) := by
  unfold canonW
  rw [Bool.and_eq_true, Bool.and_eq_true, Bool.or_eq_true, decide_eq_true_eq, decide_eq_true_eq]
  cases w <;> simp
theorem numL_canon {w : List Nat} (h : canonW w = true) : TL.numL (digitsVal w) = w := by
  obtain ⟨h1, h2, h3⟩ := canonW_iff.mp h
  have hd := all_dig h2
  cases w with
  | nil => exact absurd rfl h1
  | cons c r =>
    have e := PySem.NumText.toDigits_digitsVal r.length (c :: r) rfl hd (by
      rcases h3 with h3 | h3
      · right
        refine ⟨c, r, rfl, ?_⟩
        have hc := hd c List.mem_cons_self
        have : c ≠ 48 := fun z => h3 (by rw [z]; rfl)
        omega
      · left
        simpa using h3)
    unfold TL.numL
    rw [e, List.map_map]
    have hm : ∀ d ∈ c :: r, (Char.toNat ∘ Char.ofNat) d = d := fun d hd2 => by
      have h57 := (hd d hd2).2
      have : d.isValidChar := Or.inl (by omega)
      simp [Char.ofNat, this, Char.toNat, Char.ofNatAux]
    exact (List.map_congr_left hm).trans (List.map_id' _)
theorem numL_head : ∀ n : Nat, 1 ≤ n → (TL.numL n).head? ≠ some 48 := by
  intro n
  induction n using Nat.strongRecOn with
  | _ n ih =>
    intro h1
    by_cases h : n < 10
    · rw [TL.numL_lt h]
      intro z
      have := Option.some.inj z
      omega
    · rw [TL.numL_step (by omega)]
      have h2 := ih (n / 10) (by omega) (by omega)
      cases e : TL.numL (n / 10) with
      | nil => exact absurd e (TL.numL_ne _)
      | cons c r =>
        rw [e] at h2
        exact h2
theorem dig_all {w : List Nat} (h : AllDigits w) : w.all digC = true := List.all_eq_true.mpr fun c hc => digC_iff.mpr (h c hc)
theorem canon_numL (n : Nat) : canonW (TL.numL n) = true := by
  refine canonW_iff.mpr ⟨TL.numL_ne n, dig_all (TL.numL_digits n), ?_⟩
  by_cases h : n = 0
  · right
    rw [h]
    rfl
  · exact .inl (numL_head n (by omega))
theorem val_lt : ∀ (n : Nat) {w : List Nat}, w.length = n → AllDigits w → digitsVal w < 10 ^ n
  | 0, w, hl, _ => by
    rw [List.length_eq_zero_iff.mp hl]
    decide
  | n + 1, w, hl, h => by
    have hne : w ≠ [] := fun z => by rw [z] at hl; cases hl
    have e := List.dropLast_concat_getLast hne
    generalize w.dropLast = ini at e
    generalize w.getLast hne = c at e
    subst e
    rw [List.length_append, List.length_singleton] at hl
    have h1 := val_lt n (w := ini) (by omega) fun d hd => h d (List.mem_append_left _ hd)
    have h2 := h c (List.mem_append_right _ (List.mem_singleton.mpr rfl))
    rw [digitsVal_snoc, Nat.pow_succ]
    omega
theorem numL_mono {m n : Nat} (h : m ≤ n) : (TL.numL m).length ≤ (TL.numL n).length := by
  have h0 : 0 < (TL.numL n).length := List.length_pos_iff.mpr (TL.numL_ne n)
  refine TL.numL_len h0 (Nat.lt_of_le_of_lt h ?_)
  have := val_lt _ rfl (TL.numL_digits n)
  rw [TL.numL_val] at this
  exact this
end K12
namespace K12
open PySem PySem.Spec PyProof.Rows L2 SX
open PySem.NumText (digitsVal AllDigits digitsVal_snoc)
theorem readN_not {w : List Nat} {lo hi : Int} (h : canonW w = false) : readN w lo hi = none := by
  unfold readN
  rw [if_neg]
  rintro ⟨z, _⟩
  rw [h] at z
  cases z
theorem readN_neg {w : List Nat} {lo hi : Int} (h : w.take 1 = [45]) : readN w lo hi = none := by
  refine readN_not ?_
  cases w with
  | nil => cases h
  | cons c r =>
    have : c = 45 := List.head_eq_of_cons_eq h
    subst this
    show (!false && ((digC 45 && _) && _)) = false
    rfl
theorem and_val {t u : TT} {σ : L2.St} {H : Hp} {Q : Bool → Hp → Prop} {a b : Bool} (h1 : ∀ P : Bool → Hp → Prop, P a H → t σ H P) (h2 : ∀ P : Bool → Hp → Prop, P b H → u σ H P) (q : Q (a && b) H) : tAnd t u σ H Q := by
  refine h1 _ ?_
  cases a with
  | true => exact iteT (h2 _ q)
  | false => exact iteF q
theorem or_val {t u : TT} {σ : L2.St} {H : Hp} {Q : Bool → Hp → Prop} {a b : Bool} (h1 : ∀ P : Bool → Hp → Prop, P a H → t σ H P) (h2 : ∀ P : Bool → Hp → Prop, P b H → u σ H P) (q : Q (a || b) H) : tOr t u σ H Q := by
  refine h1 _ ?_
  cases a with
  | true => exact iteT q
  | false => exact iteF (h2 _ q)
theorem abs_nn {i : Int} (h : 0 ≤ i) : (if i < 0 then -i else i) = i := if_neg (by omega)
theorem inR09 (c : Nat) : inRg 48 57 c = digC c := rfl
section
variable {P : Program} {w : World} {K : PySem.W.Frag} {mg : Str → Option Value} {base : Heap}
abbrev s_read_number : Stmt := top 10
theorem sc_read_number : FnScope ["word", "least", "most", "negative", "digits", "number", "character"] ["word", "least", "most"] (defScope s_read_number) := ⟨rfl, rfl, rfl, by decide +kernel, rfl, by decide +kernel, by decide +kernel⟩
def sp_read_number : Sp := fun vs H Q _ => ∃ (w : List Nat) (lo hi : Int), vs = [.str (S w), .int lo, .int hi] ∧ w.length ≤ 50000 ∧ 0 ≤ lo ∧ lo ≤ hi ∧ hi ≤ 9999 ∧ ∀ H', Ext H H' → Q (optI (readN w lo hi)) H'
theorem c_read_number (T : Txt K mg) : Cal P w K mg base 1 "read_number" sp_read_number := by
  refine T.d_read_number.cal sc_read_number (fun _ _ _ _ _ _ us hl => match us, hl with | [_, _, _], _ => rfl) (fun vs H Q E h => ?_) (fun f cdv A outer s H vs Q E hr h => ?_)
  · obtain ⟨w, lo, hi, rfl, _⟩ := h
    rfl
  · obtain ⟨w, lo, hi, rfl, hw, h0, h1, h9, k⟩ := h
    refine ⟨_, (pss_cons (ps_if (pt_not (pt_val (pe_callB (call_isiK' (K := K)) rfl T.n_isinstance bt_isinstance (pa_cons (pv 0) (pa_cons (pe_bltn (v := .ty "str") rfl T.n_str bt_str rfl) pa_nil))))) (pss_one (ps_ret pe_non)) pss_nil)
  (pss_cons (ps_set (i := 3) sc_read_number.nd rfl (Or.inl rfl) (pe_m1 PySem.F.slot_str_startswith PySem.F.type_str_startswith mt_startswith (pv 0) pe_str))
  (pss_cons (ps_set (i := 4) sc_read_number.nd rfl (Or.inl rfl) (pe_ifExp (pt_val (pv 3)) (pe_slice sl_str (pv 0) (po_some pe_int) po_none) (pv 0)))
  (pss_cons (ps_if (PW.pt (pw_or (pt_not (pt_truth (pv 4) (by intro _; rfl))) (pw_or1 (pt_not (pt_val (pe_callB (cr_allK (K := K) rfl) rfl T.n_all bt_all (pa_cons (pe_lc (own := [("character", 6)]) (g := gName 6) (tt := tYes) rfl sc_read_number.nd (pi_str (pv 4)) (blkOk_by (by kernel_rfl)) (fun _ _ _ _ _ => (pg_name (i := 6) sc_read_number.nd rfl (Or.inl rfl))) (fun _ _ _ _ _ => pts_nil) (fun _ _ _ _ _ => (pe_chain op_le_str op_le_str pe_str (pv 6) pe_str))) pa_nil))))))) (pss_one (ps_ret pe_non)) pss_nil)
  (pss_cons (ps_if (PW.pt (pw_and (pt_cmpR op_eq (pe_ix ix_str (pv 4) pe_int (fun _ _ => rfl)) pe_str (nomark _)) (pw_and1 (PW.pt (pw_or (pt_val (pv 3)) (pw_or1 (pt_cmpR op_gt (pe_callB call_len_str rfl T.n_len bt_len (pa_cons (pv 4) pa_nil)) pe_int (nomark _)))))))) (pss_one (ps_ret pe_non)) pss_nil)
  (pss_cons (ps_if (pt_cmpR op_gt (pe_callB call_len_str rfl T.n_len bt_len (pa_cons (pv 4) pa_nil)) (pe_callB (call_max2 rfl) rfl T.n_max bt_max (pa_cons (pe_callB call_len_str rfl T.n_len bt_len (pa_cons (pe_callTy call_str_int rfl T.n_str bt_str (pa_cons (pe_callB call_abs rfl T.n_abs bt_abs (pa_cons (pv 1) pa_nil)) pa_nil)) pa_nil)) (pa_cons (pe_callB call_len_str rfl T.n_len bt_len (pa_cons (pe_callTy call_str_int rfl T.n_str bt_str (pa_cons (pe_callB call_abs rfl T.n_abs bt_abs (pa_cons (pv 2) pa_nil)) pa_nil)) pa_nil)) pa_nil))) (nomark _)) (pss_one (ps_ret pe_non)) pss_nil)
  (pss_cons (ps_set (i := 5) sc_read_number.nd rfl (Or.inl rfl) (pe_ifExp (pt_val (pv 3)) (pe_un un_neg (pe_callTy call_int_str rfl T.n_int bt_int (pa_cons (pv 4) pa_nil))) (pe_callTy call_int_str rfl T.n_int bt_int (pa_cons (pv 4) pa_nil))))
  (pss_one (ps_ret (pe_ifExp (pt_chain op_le op_le (pv 1) (pv 5) (pv 2)) (pv 5) pe_non)))))))))), ?_⟩
    refine ⟨_, rfl, _, _, _, _, true, rfl, .ty _, TyN.tyX (.str (S w)), kit_ty (by decide +kernel), _, rfl, iteF ?_⟩
    refine ⟨_, rfl, ⟨_, rfl⟩, _, _, rfl, rfl, ?_⟩
    rw [str1 (s := "-") (c := 45), starts_S]
    have fs : ∀ l : List Nat, l.length ≤ 50000 → (S l).length ≤ sizeLine := fun l h => by rw [SX.S_len]; exact sl_of (by omega)
    refine ⟨_, rfl, _, rfl, ?_⟩
    refine ite2 (fun hn => ?hA) (fun hn => ?hB)
    case' hA =>
      have hN : readN w lo hi = none := readN_neg (of_decide_eq_true hn)
      rw [hN] at k
      have k : ∀ H', Ext H H' → Q .non H' := k
      refine ⟨_, rfl, _, rfl, _, rfl, fs _ hw, ?_⟩
      rw [cut_from1]
      have hz : (w.drop 1).length ≤ 50000 := by rw [List.length_drop]; omega
      have hcan : canonW (w.drop 1) = false → ∀ H', Ext H H' → Q .non H' := fun _ => k
      have hlong : canonW (w.drop 1) = true → (hi : Int) < (digitsVal (w.drop 1) : Nat) → ∀ H', Ext H H' → Q .non H' := fun _ _ => k
      generalize w.drop 1 = dg at hz hcan hlong
    case' hB =>
      refine ⟨_, rfl, ?_⟩
      have hz := hw
      have hcan : canonW w = false → ∀ H', Ext H H' → Q .non H' := fun h => by
        rw [readN_not h] at k
        exact k
      have hlong : canonW w = true → (hi : Int) < (digitsVal w : Nat) → ∀ H', Ext H H' → Q .non H' := fun _ h => by
        unfold readN at k
        rw [if_neg (by rintro ⟨_, _, z⟩; omega)] at k
        exact k
      have hok : canonW w = true → lo ≤ (digitsVal w : Nat) → ((digitsVal w : Nat) : Int) ≤ hi → ∀ H', Ext H H' → Q (.int (digitsVal w : Nat)) H' := fun a b c => by
        unfold readN at k
        rw [if_pos ⟨a, b, c⟩] at k
        exact k
      have hno : ¬ (lo ≤ (digitsVal w : Nat) ∧ ((digitsVal w : Nat) : Int) ≤ hi) → ∀ H', Ext H H' → Q .non H' := fun h => by
        unfold readN at k
        rw [if_neg (by rintro ⟨_, a, b⟩; exact h ⟨a, b⟩)] at k
        exact k
      obtain ⟨dg, rfl⟩ : ∃ dg, dg = w := ⟨w, rfl⟩
    all_goals
      refine ⟨_, rfl, _, ⟨fs _ hz, rfl⟩, ?_⟩
      cases dg with
      | nil => exact iteT (hcan rfl _ Ext.rfl')
      | cons c r =>
      have hemp : (((S (c :: r)).length : Int) != 0) = true := rfl
      rw [hemp]
      refine iteF ?_
      refine ⟨_, rfl, _, rfl, fun D hD => lcSy (fun c => V.bl (inRg 48 57 c)) hD (by rw [SX.S_len]; exact sl_lt (by omega)) (fun c' H' _ e Q1 k1 => ⟨rfl, ch_rg rfl s0 s9 (k1 _ Ext.rfl')⟩) (fun H1 e1 hl => ?_)⟩
      refine ⟨D, (c :: r).map digC, rfl, SqL.of (by rw [hl]; exact (congrArg (fun z => some (HO.lst z)) (bls (c :: r) digC))), ?_⟩
      rw [all_id]
      refine ⟨_, rfl, ?_⟩
      cases hd : (c :: r).all digC with
      | false =>
        refine iteT (hcan ?_ _ e1)
        unfold canonW
        rw [hd]
        rfl
      | true =>
      refine iteF ?_
      have hd2 := all_dig hd
      have hz2 : (S (c :: r)).length ≤ sizeLine := fs _ hz
      have e48 : decide (V.str ⟨#[c]⟩ = V.str (Str.ofString "0")) = decide (c = 48) := by
        rw [str1 (s := "0") (c := 48), decide_eq_decide]
        constructor
        · intro h
          exact List.head_eq_of_cons_eq (S_inj (a := [c]) (b := [48]) (V.str.inj h))
        · intro h
          rw [h]
      have hcon : ∀ neg : Bool, ¬ (decide (c = 48) && (neg || decide ((1 : Int) < ((S (c :: r)).length : Int)))) = true → canonW (c :: r) = true := fun neg hh => by
        refine canonW_iff.mpr ⟨List.cons_ne_nil _ _, hd, ?_⟩
        by_cases h48 : c = 48
        · right
          rw [SX.S_len, decide_eq_true h48, Bool.true_and] at hh
          by_cases hl1 : (1 : Int) < ((c :: r).length : Int)
          · rw [decide_eq_true hl1, Bool.or_true] at hh
            exact absurd rfl hh
          · simp only [List.length_cons] at hl1 ⊢
            omega
        · left
          exact fun z => h48 (Option.some.inj z)
      dsimp only [tNext, tSeq, tIfS]
      refine and_val (fun P q => ⟨_, rfl, _, _, _, rfl, rfl, hz2, at0, rfl, _, rfl, q⟩) (fun P q => or_val (fun P q => ⟨_, rfl, _, rfl, q⟩) (fun P q => ⟨_, rfl, _, rfl, hz2, _, _, rfl, rfl, _, rfl, q⟩) q) ?_
      rw [e48]
      refine ite2 (fun hh => ?_) (fun hh => ?_)
      · first
          | exact k _ e1
          | (refine hcan ?_ _ e1
             rw [Bool.eq_false_iff.mpr hn, Bool.false_or, Bool.and_eq_true, decide_eq_true_eq, decide_eq_true_eq, SX.S_len] at hh
             refine Bool.eq_false_iff.mpr fun z => ?_
             obtain ⟨_, _, z | z⟩ := canonW_iff.mp z
             · exact z (by rw [hh.1]; rfl)
             · omega)
      have hcn := hcon _ hh
      refine ⟨_, rfl, _, rfl, hz2, _, rfl, _, rfl, _, rfl, ?_, _, rfl, ?_, _, rfl, _, rfl, _, rfl, ?_, _, rfl, ?_, _, _, rfl, _, _, rfl, rfl, _, rfl, ?_⟩
      · rw [abs_nn h0]
        exact log_small h0 (by omega)
      · rw [abs_nn h0, numw h0, SX.S_len]
        have := numL_small (n := lo.toNat) (by omega)
        exact sl_of (by omega)
      · rw [abs_nn (by omega)]
        exact log_small (by omega) (by omega)
      · rw [abs_nn (by omega), numw (by omega), SX.S_len]
        have := numL_small (n := hi.toNat) (by omega)
        exact sl_of (by omega)
      rw [abs_nn h0, abs_nn (i := hi) (by omega), numw h0, numw (n := hi) (by omega), SX.S_len, SX.S_len, SX.S_len]
      have hm5 : (c :: r).length ≤ (TL.numL hi.toNat).length ∨ hi < (digitsVal (c :: r) : Nat) := by
        by_cases hv : ((digitsVal (c :: r) : Nat) : Int) ≤ hi
        · left
          have h2 := numL_mono (m := digitsVal (c :: r)) (n := hi.toNat) (by omega)
          rw [numL_canon hcn] at h2
          exact h2
        · right
          omega
      have hm6 := numL_small (n := hi.toNat) (by omega)
      have hm7 := numL_small (n := lo.toNat) (by omega)
      refine ite2 (fun hg => ?_) (fun hg => ?_)
      · rw [decide_eq_true_eq] at hg
        refine hlong hcn ?_ _ e1
        rcases hm5 with h | h
        · exfalso
          split at hg <;> omega
        · exact h
      have hlen : (c :: r).length ≤ 5 := by
        have hg2 : ¬ _ := fun z => hg (decide_eq_true z)
        split at hg2 <;> omega
      have hint : PySem.intText? (S (c :: r)) = some ((digitsVal (c :: r) : Nat) : Int) := SX.int_S hd (List.cons_ne_nil _ _) (by omega)
      have h640 : (S (c :: r)).length ≤ 640 := by rw [SX.S_len]; omega
      refine ⟨_, rfl, _, rfl, ite2 (fun hg3 => ?_) (fun hg3 => ?_)⟩
      · first
          | exact absurd hg3 hn
          | (rw [hg3, Bool.true_or, Bool.and_true] at hh
             have hc48 : ¬ c = 48 := fun z => hh (decide_eq_true z)
             have hpos := PySem.NumText.digitsVal_pos (c := c) (cs := r) (by have := hd2 c List.mem_cons_self; omega)
             refine ⟨_, rfl, _, _, rfl, hint, h640, _, rfl, ?_⟩
             refine ⟨_, rfl, _, rfl, _, _, rfl, rfl, _, rfl, ?_⟩
             refine ite2 (fun hx => ?_) (fun _ => ⟨_, rfl, iteF (k _ e1)⟩)
             rw [decide_eq_true_eq] at hx
             exfalso
             omega)
      · first
          | exact absurd hn hg3
          | (refine ⟨_, rfl, _, _, rfl, hint, h640, ?_⟩
             refine ⟨_, rfl, _, rfl, _, _, rfl, rfl, _, rfl, ?_⟩
             refine ite2 (fun hx => ?_) (fun hx => ?_)
             · refine ⟨_, rfl, _, _, rfl, rfl, _, rfl, ?_⟩
               rw [decide_eq_true_eq] at hx
               refine ite2 (fun hy => ?_) (fun hy => ?_)
               · rw [decide_eq_true_eq] at hy
                 exact ⟨_, rfl, hok hcn hx hy _ e1⟩
               · exact hno (fun z => hy (decide_eq_true z.2)) _ e1
             · exact ⟨_, rfl, iteF (hno (fun z => hx (decide_eq_true z.1)) _ e1)⟩)
end
end K12
namespace K12
open PySem PySem.Spec PyProof.Rows L2 SX
open PySem.NumText (digitsVal AllDigits digitsVal_snoc)
theorem dig_at {n : Nat} : atI (Str.ofString "0123456789" : Str).cps.toList ((n % 10 : Nat) : Int) = some (48 + n % 10) := by
  have e : (Str.ofString "0123456789" : Str).cps.toList = [48, 49, 50, 51, 52, 53, 54, 55, 56, 57] := by decide +kernel
  rw [e]
  have h : ∀ m : Nat, m < 10 → ([48, 49, 50, 51, 52, 53, 54, 55, 56, 57] : List Nat)[m]? = some (48 + m) := by decide
  exact atI_nat (h (n % 10) (Nat.mod_lt _ (by decide)))
def numeralL (n : Int) : List Nat := (if n < 0 then [45] else []) ++ TL.numL n.natAbs
section
variable {P : Program} {w : World} {K : PySem.W.Frag} {mg : Str → Option Value} {base : Heap}
abbrev s__law_numeral : Stmt := top 40
theorem sc__law_numeral : FnScope ["_law_n", "_law_rest", "_law_word_here", "_law_k"] ["_law_n"] (defScope s__law_numeral) := ⟨rfl, rfl, rfl, by decide +kernel, rfl, by decide +kernel, by decide +kernel⟩
def sp__law_numeral : Sp := fun vs H Q _ => ∃ n : Int, vs = [.int n] ∧ n.natAbs < 10 ^ 40 ∧ Q (.str (S (numeralL n))) H
theorem c__law_numeral (T : Txt K mg) : Cal P w K mg base 1 "_law_numeral" sp__law_numeral := by
  refine T.d__law_numeral.cal sc__law_numeral (fun _ _ _ _ _ _ us hl => match us, hl with | [_], _ => rfl) (fun vs H Q E h => ?_) (fun f cdv A outer s H vs Q E hr h => ?_)
  · obtain ⟨n, rfl, _⟩ := h
    rfl
  · obtain ⟨n, rfl, hz, k⟩ := h
    refine ⟨_, (pss_cons (ps_par (i := 1) (j := 2) rfl sc__law_numeral.nd rfl rfl (by decide) rfl rfl (pa_cons (pe_callB call_abs rfl T.n_abs bt_abs (pa_cons (pv 0) pa_nil)) (pa_cons pe_str pa_nil)) (by rfl))
  (pss_cons (ps_for PassesOwn.never rfl (pi_range1 rfl T.n_range (pa_cons pe_int pa_nil)) (pg_name (i := 3) sc__law_numeral.nd rfl (Or.inl rfl)) (pss_cons (ps_set (i := 2) sc__law_numeral.nd rfl (Or.inl rfl) (pe_op op_add_str (pe_ix ix_str pe_str (pe_op op_mod (pe_callTy call_int1 rfl T.n_int bt_int (pa_cons (pv 1) pa_nil)) pe_int) (fun _ _ => rfl)) (pv 2)))
    (pss_cons (ps_set (i := 1) sc__law_numeral.nd rfl (Or.inl rfl) (pe_op op_fdiv (pv 1) pe_int))
    (pss_one (ps_if (pt_cmpR op_eq (pv 1) pe_int (nomark _)) (pss_one ps_break) pss_nil)))))
  (pss_one (ps_ret (pe_ifExp (pt_cmpR op_lt (pv 0) pe_int (nomark _)) (pe_op op_add_str pe_str (pv 2)) (pv 2)))))), ?_⟩
    have fin : ∀ (ws : List Nat) (v1 v3 : Option V), ws = TL.numL n.natAbs → ws.length ≤ 41 → tRet (tIf (tTest (tOp (rI0 fun i j => .bl (decide (i < j))) (tVar 0) (tC (.int 0)))) (tOp (fun x y H Q => ∃ i j, x = .str i ∧ y = .str j ∧ i.length + j.length ≤ sizeLine ∧ Q (.str (i ++ j)) H) (tC (.str (Str.ofString "-"))) (tVar 2)) (tVar 2)) { nx := fun _ H' => Q .non H', rt := Q } [some (.int n), v1, some (.str (S ws)), v3] H := by
      intro ws v1 v3 hws hwl
      refine ⟨_, rfl, _, _, rfl, rfl, _, rfl, ?_⟩
      unfold numeralL at k
      rw [← hws] at k
      refine ite2 (fun h => ?_) (fun h => ?_)
      · rw [if_pos (of_decide_eq_true h)] at k
        refine ⟨_, rfl, _, _, rfl, rfl, ?_, ?_⟩
        · rw [str1 (s := "-") (c := 45), SX.S_len, SX.S_len]
          exact sl_of (by show 1 + _ ≤ _; omega)
        · rw [str1 (s := "-") (c := 45), SX.S_cat]
          exact k
      · rw [if_neg (fun z => h (decide_eq_true z)), List.nil_append] at k
        exact ⟨_, rfl, k⟩
    refine ⟨_, rfl, _, rfl, _, _, rfl, ?_⟩
    have habs : (if n < 0 then -n else n) = ((n.natAbs : Nat) : Int) := by split <;> omega
    rw [habs, empty_S]
    refine ⟨_, rfl, by omega, by decide, for_range (fun i σ H' => ∃ (m : Nat) (ws : List Nat) (v3 : Option V), σ = [some (.int n), some (.int (m : Nat)), some (.str (S ws)), v3] ∧ H' = H ∧ TL.numL n.natAbs = TL.numL m ++ ws ∧ m < 10 ^ (40 - i) ∧ ws.length ≤ i ∧ (i = 0 ∨ 1 ≤ m))
      ⟨n.natAbs, [], _, rfl, rfl, by rw [List.append_nil], hz, Nat.le_refl _, .inl rfl⟩ (fun i σ H' hi h => ?_) (fun σ H' h => ?_)⟩
    · obtain ⟨m, ws, v3, rfl, rfl, h1, h2, h3, h4⟩ := h
      have hi40 : i < 40 := hi
      have hmod : ((m : Nat) : Int) % 10 = ((m % 10 : Nat) : Int) := rfl
      have hdiv : (fun i j : Int => V.int (i / j)) ((m : Nat) : Int) 10 = V.int ((m / 10 : Nat) : Int) := rfl
      refine ⟨_, rfl, .inl ⟨_, rfl, _, _, rfl, rfl, (by show (0 : Int) < 10; decide), _, _, _, rfl, rfl, by show 10 ≤ sizeLine; decide, dig_at, ?_⟩⟩
      refine ⟨_, rfl, _, _, rfl, rfl, ?_, ?_⟩
      · rw [sgn, SX.S_len, SX.S_len]
        exact sl_of (by show 1 + _ ≤ _; omega)
      rw [sgn, SX.S_cat]
      refine ⟨_, rfl, _, _, rfl, rfl, ⟨by decide, by decide⟩, ?_⟩
      refine ⟨_, rfl, rfl, _, rfl, ?_⟩
      rw [hdiv, dec_int]
      refine ite2 (fun h0 => ?_) (fun h0 => ?_)
      · have hm0 : m / 10 = 0 := by
          have := eq_of_beq h0
          omega
        have hm : m < 10 := by omega
        rw [TL.numL_lt hm] at h1
        refine fin _ _ _ ?_ (by show (ws.length + 1) ≤ 41; omega)
        rw [h1, Nat.mod_eq_of_lt hm]
      · have hm0 : m / 10 ≠ 0 := fun z => h0 (by rw [z]; rfl)
        have hm : 10 ≤ m := by omega
        rw [TL.numL_step hm] at h1
        refine ⟨m / 10, (48 + m % 10) :: ws, _, rfl, rfl, ?_, ?_, by show ws.length + 1 ≤ i + 1; omega, .inr (by omega)⟩
        · rw [h1, List.append_assoc]
          rfl
        · have e : 40 - i = (40 - (i + 1)) + 1 := by omega
          rw [e, Nat.pow_succ] at h2
          omega
    · obtain ⟨m, ws, v3, rfl, rfl, h1, h2, h3, h4⟩ := h
      exfalso
      have e : (40 : Int).toNat = 40 := rfl
      rw [e] at h2 h4
      rcases h4 with h4 | h4
      · cases h4
      · rw [Nat.sub_self, Nat.pow_zero] at h2
        omega
end
end K12
namespace K12
open PySem PySem.Spec PyProof.Rows L2 SX
open PySem.NumText (digitsVal AllDigits digitsVal_snoc)
open PySem.Builtin.Str (occurrences)
theorem occ_dig {c : Nat} (h : digC c = true) : ∃ rest, occurrences (Str.ofString "0123456789" : Str) ⟨#[c]⟩ 0 (Str.ofString "0123456789" : Str).length 1 = (c - 48) :: rest := by
  have e : (Str.ofString "0123456789" : Str) = S [48, 49, 50, 51, 52, 53, 54, 55, 56, 57] := by rw [S_ofString]; rfl
  rw [e, sgn]
  refine occ_pos ?_
  obtain ⟨h1, h2⟩ := digC_iff.mp h
  have hh : ∀ d : Nat, d < 10 → posL (48 + d) [48, 49, 50, 51, 52, 53, 54, 55, 56, 57] = some d := by decide
  have h3 := hh (c - 48) (by omega)
  rw [show 48 + (c - 48) = c by omega] at h3
  exact h3
theorem dec_S {a : List Nat} {z : Str} {b : List Nat} (e : z = S b) : decide (V.str (S a) = V.str z) = decide (a = b) := by
  rw [e, decide_eq_decide]
  exact ⟨fun h => S_inj (V.str.inj h), fun h => by rw [h]⟩
theorem fold_len {w : List Nat} (h : AllDigits w) (hl : w.length ≤ 10) : digitsVal w < 10 ^ 10 := Nat.lt_of_lt_of_le (val_lt _ rfl h) (Nat.pow_le_pow_right (by decide) hl)
section
variable {P : Program} {w : World} {K : PySem.W.Frag} {mg : Str → Option Value} {base : Heap}
abbrev s__law_read : Stmt := top 41
theorem sc__law_read : FnScope ["_law_word_here", "_law_low", "_law_top", "_law_body", "_law_n", "_law_sign"] ["_law_word_here", "_law_low", "_law_top"] (defScope s__law_read) := ⟨rfl, rfl, rfl, by decide +kernel, rfl, by decide +kernel, by decide +kernel⟩
def sp__law_read : Sp := fun vs H Q _ => ∃ (w : List Nat) (lo hi : Int), vs = [.str (S w), .int lo, .int hi] ∧ w.length ≤ 50000 ∧ 0 ≤ lo ∧ lo ≤ hi ∧ hi ≤ 9999 ∧ ∀ H', Ext H H' → Q (optI (readN w lo hi)) H'
theorem c__law_read (T : Txt K mg) : Cal P w K mg base 2 "_law_read" sp__law_read := by
  refine T.d__law_read.cal sc__law_read (fun _ _ _ _ _ _ us hl => match us, hl with | [_, _, _], _ => rfl) (fun vs H Q E h => ?_) (fun f cdv A outer s H vs Q E hr h => ?_)
  · obtain ⟨w, lo, hi, rfl, _⟩ := h
    rfl
  · obtain ⟨w, lo, hi, rfl, hw, h0, h1, h9, k⟩ := h
    refine ⟨_, (pss_cons (ps_set (i := 3) sc__law_read.nd rfl (Or.inl rfl) (pe_ifExp (pt_cmpR op_eq (pe_slice sl_str (pv 0) po_none (po_some pe_int)) pe_str (nomark _)) (pe_slice sl_str (pv 0) (po_some pe_int) po_none) (pv 0)))
  (pss_cons (ps_if (PW.pt (pw_or (pt_cmpR op_eq (pv 3) pe_str (nomark _)) (pw_or (pt_cmpR op_gt (pe_callB call_len_str rfl T.n_len bt_len (pa_cons (pv 3) pa_nil)) pe_int (nomark _)) (pw_or1 (pt_not (pt_val (pe_callB (cr_allK (K := K) rfl) rfl T.n_all bt_all (pa_cons (pe_lc (own := [("_law_sign", 5)]) (g := gName 5) (tt := tYes) rfl sc__law_read.nd (pi_str (pv 3)) (blkOk_by (by kernel_rfl)) (fun _ _ _ _ _ => (pg_name (i := 5) sc__law_read.nd rfl (Or.inl rfl))) (fun _ _ _ _ _ => pts_nil) (fun _ _ _ _ _ => (pe_cmpR op_in_sign (pv 5) pe_str rfl))) pa_nil)))))))) (pss_one (ps_ret pe_non)) pss_nil)
  (pss_cons (ps_set (i := 4) sc__law_read.nd rfl (Or.inl rfl) pe_int)
  (pss_cons (ps_for PassesOwn.never rfl (pi_str (pv 3)) (pg_name (i := 5) sc__law_read.nd rfl (Or.inl rfl)) (pss_one (ps_set (i := 4) sc__law_read.nd rfl (Or.inl rfl) (pe_op op_add (pe_op op_mul (pv 4) pe_int) (pe_m1 PySem.F.slot_str_index PySem.F.type_str_index mt_sindex pe_str (pv 5))))))
  (pss_cons (ps_set (i := 4) sc__law_read.nd rfl (Or.inl rfl) (pe_ifExp (pt_cmpR op_eq (pe_slice sl_str (pv 0) po_none (po_some pe_int)) pe_str (nomark _)) (pe_op op_sub pe_int (pv 4)) (pv 4)))
  (pss_one (ps_ret (pe_ifExp (PW.pt (pw_and (pt_cmpR op_eq (pe_c (c__law_numeral T) hr (by decide) rfl (pa_cons (pv 4) pa_nil)) (pv 0) (nomark _)) (pw_and1 (pt_chain op_le op_le (pv 1) (pv 4) (pv 2))))) (pv 4) pe_non)))))))), ?_⟩
    have fs : ∀ l : List Nat, l.length ≤ 50000 → (S l).length ≤ sizeLine := fun l h => by rw [SX.S_len]; exact sl_of (by omega)
    have hneg : ∀ x : V, decide (V.str (cutS (S w) none (some 1)) = V.str (Str.ofString "-")) = decide (w.take 1 = [45]) := fun _ => by
      rw [cut_to1]
      exact dec_S (str1 (s := "-") (c := 45))
    refine ⟨_, rfl, _, rfl, _, rfl, fs _ hw, rfl, _, rfl, ?_⟩
    rw [hneg .non]
    refine ite2 (fun hn => ?hA) (fun hn => ?hB)
    case' hA =>
      have hN : readN w lo hi = none := readN_neg (of_decide_eq_true hn)
      rw [hN] at k
      have k : ∀ H', Ext H H' → Q .non H' := k
      refine ⟨_, rfl, _, rfl, _, rfl, fs _ hw, ?_⟩
      rw [cut_from1]
      have hz : (w.drop 1).length ≤ 50000 := by rw [List.length_drop]; omega
      have hlong : 10 < (w.drop 1).length → ∀ H', Ext H H' → Q .non H' := fun _ => k
      have hnd : ((w.drop 1).all digC = false ∨ w.drop 1 = []) → ∀ H', Ext H H' → Q .non H' := fun _ => k
      generalize w.drop 1 = dg at hz hlong hnd
    case' hB =>
      refine ⟨_, rfl, ?_⟩
      have hz := hw
      have hlong : 10 < w.length → ∀ H', Ext H H' → Q .non H' := fun h => by
        unfold readN at k
        rw [if_neg (by
          rintro ⟨a, b, c⟩
          have h2 := numL_small (n := digitsVal w) (by omega)
          rw [numL_canon a] at h2
          omega)] at k
        exact k
      have hnd : (w.all digC = false ∨ w = []) → ∀ H', Ext H H' → Q .non H' := fun h => by
        rw [readN_not] at k
        · exact k
        · refine Bool.eq_false_iff.mpr fun z => ?_
          obtain ⟨a, b, _⟩ := canonW_iff.mp z
          rcases h with h | h
          · rw [h] at b
            cases b
          · exact a h
      have hok : canonW w = true → lo ≤ (digitsVal w : Nat) → ((digitsVal w : Nat) : Int) ≤ hi → ∀ H', Ext H H' → Q (.int (digitsVal w : Nat)) H' := fun a b c => by
        unfold readN at k
        rw [if_pos ⟨a, b, c⟩] at k
        exact k
      have hno : ¬ (canonW w = true ∧ lo ≤ (digitsVal w : Nat) ∧ ((digitsVal w : Nat) : Int) ≤ hi) → ∀ H', Ext H H' → Q .non H' := fun h => by
        unfold readN at k
        rw [if_neg h] at k
        exact k
      obtain ⟨dg, rfl⟩ : ∃ dg, dg = w := ⟨w, rfl⟩
    all_goals
      refine ⟨_, rfl, rfl, _, rfl, ?_⟩
      rw [dec_S empty_S]
      refine ite2 (fun hh => iteT (hnd (.inr (of_decide_eq_true hh)) _ Ext.rfl')) (fun hh => ?_)
      refine ⟨_, rfl, _, rfl, fs _ hz, _, _, rfl, rfl, _, rfl, ?_⟩
      rw [SX.S_len]
      refine ite2 (fun hg => iteT (hlong ?_ _ Ext.rfl')) (fun hg => ?_)
      · rw [decide_eq_true_eq] at hg
        omega
      have hl10 : dg.length ≤ 10 := by
        have hg2 : ¬ ((10 : Int) < ((dg.length : Nat) : Int)) := fun z => hg (decide_eq_true z)
        omega
      refine ⟨_, rfl, _, rfl, fun D hD => lcSy (fun c => V.bl (digC c)) hD (by rw [SX.S_len]; exact sl_lt (by omega)) (fun c H' _ e Q1 k1 => ⟨rfl, _, rfl, c, _, rfl, rfl, ?_⟩) (fun H1 e1 hl => ?_)⟩
      · have k2 := k1 _ Ext.rfl'
        rw [← dig_in] at k2
        exact k2
      refine ⟨D, dg.map digC, rfl, SqL.of (by rw [hl]; exact (congrArg (fun z => some (HO.lst z)) (bls dg digC))), ?_⟩
      rw [all_id]
      refine ⟨_, rfl, ?_⟩
      cases hd : dg.all digC with
      | false => exact iteT (hnd (.inl hd) _ e1)
      | true =>
      have hd2 := all_dig hd
      refine iteF ?_
      refine ⟨_, rfl, _, rfl, for_it (walk_str (z := S dg)) (fun i σ H' => ∃ v5, σ = [some (.str (S _)), some (.int lo), some (.int hi), some (.str (S dg)), some (.int ((digitsVal (dg.take i) : Nat) : Int)), v5] ∧ H' = H1) ⟨_, rfl, rfl⟩ (fun _ _ _ _ _ => True.intro) (fun i x σ H2 H' hi h y => ?_) (fun σ H' h => ?_)⟩
      · obtain ⟨v5, rfl, rfl⟩ := h
        obtain ⟨rfl, c, hc, rfl⟩ := y
        have hc' : dg[i]? = some c := by rw [← hc]; simp [S]
        have hcd := digC_iff.mpr (hd2 c (List.mem_of_getElem? hc'))
        obtain ⟨rest, hocc⟩ := occ_dig hcd
        have e : V.int (((digitsVal (dg.take i) : Nat) : Int) * 10 + ((c - 48 : Nat) : Int)) = V.int ((digitsVal (dg.take (i + 1)) : Nat) : Int) := by
          rw [take_succ_f hc', digitsVal_snoc]
          congr 1
        refine ⟨_, rfl, _, _, rfl, rfl, .inr ⟨by decide, by decide⟩, ⟨_, rfl⟩, _, rfl, _, _, _, rest, rfl, rfl, hocc, _, _, rfl, rfl, ?_⟩
        exact ⟨_, by rw [← e]; rfl, rfl⟩
      · obtain ⟨v5, rfl, rfl⟩ := h
        have e : dg.take (S dg).cps.size = dg := List.take_of_length_le (by show dg.length ≤ (List.toArray dg).size; simp)
        rw [e]
        have hvl := fold_len hd2 hl10
        refine ⟨_, rfl, _, rfl, _, rfl, fs _ hw, rfl, _, rfl, ?_⟩
        rw [hneg .non]
        refine ite2 (fun hg2 => ?_) (fun hg2 => ?_)
        · first
            | exact absurd hg2 hn
            | (have hw45 := of_decide_eq_true hg2
               refine ⟨_, rfl, _, _, rfl, rfl, ?_⟩
               refine ⟨_, rfl, _, rfl, ?_, _, rfl, rfl, _, rfl, ?_⟩
               · exact Nat.lt_of_le_of_lt (by omega) (Nat.lt_of_lt_of_le hvl (Nat.pow_le_pow_right (by decide) (by decide)))
               rw [dec_S rfl]
               refine ite2 (fun heq => ?_) (fun heq => k _ e1)
               have hweq := of_decide_eq_true heq
               have hpos : 1 ≤ digitsVal dg := by
                 apply Nat.one_le_iff_ne_zero.mpr
                 intro z
                 rw [z] at hweq
                 rw [← hweq] at hw45
                 exact absurd hw45 (by decide)
               refine ⟨_, rfl, _, rfl, _, _, rfl, rfl, _, rfl, ?_⟩
               refine ite2 (fun hx => ?_) (fun _ => ⟨_, rfl, iteF (k _ e1)⟩)
               rw [decide_eq_true_eq] at hx
               exfalso
               omega)
        · first
            | exact absurd hn hg2
            | (refine ⟨_, rfl, ?_⟩
               refine ⟨_, rfl, _, rfl, ?_, _, rfl, rfl, _, rfl, ?_⟩
               · exact Nat.lt_of_le_of_lt (by omega) (Nat.lt_of_lt_of_le hvl (Nat.pow_le_pow_right (by decide) (by decide)))
               rw [dec_S rfl]
               have hnum : numeralL ((digitsVal dg : Nat) : Int) = TL.numL (digitsVal dg) := by
                 unfold numeralL
                 rw [if_neg (by omega), List.nil_append]
                 rfl
               rw [hnum]
               refine ite2 (fun heq => ?_) (fun heq => ?_)
               · have hcn : canonW dg = true := by
                   have h2 := canon_numL (digitsVal dg)
                   rw [of_decide_eq_true heq] at h2
                   exact h2
                 refine ⟨_, rfl, _, rfl, _, _, rfl, rfl, _, rfl, ?_⟩
                 refine ite2 (fun hx => ?_) (fun hx => ?_)
                 · refine ⟨_, rfl, _, _, rfl, rfl, _, rfl, ?_⟩
                   rw [decide_eq_true_eq] at hx
                   refine ite2 (fun hy => ?_) (fun hy => ?_)
                   · rw [decide_eq_true_eq] at hy
                     exact ⟨_, rfl, hok hcn hx hy _ e1⟩
                   · exact hno (fun z => hy (decide_eq_true z.2.2)) _ e1
                 · exact ⟨_, rfl, iteF (hno (fun z => hx (decide_eq_true z.2.1)) _ e1)⟩
               · exact hno (fun z => heq (decide_eq_true (numL_canon z.1))) _ e1)
end
end K12
namespace K12
open PySem PySem.Spec PyProof.Rows L2 SX
/-! ### _law_word -/
theorem autPieces_succ {rows : List Row} {cl : List Int} {i : Nat} {r : Row} (h : rows[i]? = some r) : autPieces (rows.take (i + 1)) cl = autPieces (rows.take i) cl ++ [stWord r (decide (((i : Nat) : Int) ∈ cl))] := by
  have hi : i < rows.length := (List.getElem?_eq_some_iff.mp h).1
  unfold autPieces
  rw [take_succ_f h, List.zipIdx_append, List.map_append]
  have hl : (rows.take i).length = i := by rw [List.length_take]; omega
  rw [hl]
  simp
theorem dig6 {n : Nat} (h : n < 6) : atI (Str.ofString "012345" : Str).cps.toList ((n : Nat) : Int) = some (48 + n) := by
  have e : (Str.ofString "012345" : Str).cps.toList = [48, 49, 50, 51, 52, 53] := by decide +kernel
  rw [e]
  have hh : ∀ m : Nat, m < 6 → ([48, 49, 50, 51, 52, 53] : List Nat)[m]? = some (48 + m) := by decide
  exact atI_nat (hh n h)
theorem autPieces_sum {rows : List Row} {cl : List Int} (g : GoodT rows) : (((autPieces rows cl).map S).map (·.length)).sum ≤ 36 := by
  have h1 := sum_le (m := 6) (autPieces rows cl) fun y hy => by
    obtain ⟨q, hq, rfl⟩ := List.mem_map.mp hy
    have := g.rowz _ (List.fst_mem_of_mem_zipIdx hq)
    rw [stWord_len]
    split <;> omega
  have h2 : (autPieces rows cl).length = rows.length := by simp [autPieces]
  have := g.len
  omega
theorem flat_cells (r : Row) : ((r.map cellL).flatten) = r.flatMap cellL := (List.flatMap_def ..).symm
section
variable {P : Program} {w : World} {K : PySem.W.Frag} {mg : Str → Option Value} {base : Heap}
abbrev s__law_word : Stmt := top 43
theorem sc__law_word : FnScope ["_law_rows", "_law_ends", "_law_words", "_law_q", "_law_word_here", "_law_to"] ["_law_rows", "_law_ends"] (defScope s__law_word) := ⟨rfl, rfl, rfl, by decide +kernel, rfl, by decide +kernel, by decide +kernel⟩
def sp__law_word (K : PySem.W.Frag) : Sp := fun vs H Q _ => ∃ (a c : Addr) (rows : List Row) (cl : List Int), vs = [.ref a, .ref c] ∧ TabL K H a rows ∧ SqL K H c (cl.map V.int) ∧ GoodT rows ∧ cl.length ≤ 60 ∧ ∀ H', Ext H H' → Q (.str (S (autWord rows cl))) H'
theorem c__law_word (T : Txt K mg) : Cal P w K mg base 1 "_law_word" (sp__law_word K) := by
  refine T.d__law_word.cal sc__law_word (fun _ _ _ _ _ _ us hl => match us, hl with | [_, _], _ => rfl) (fun vs H Q E h => ?_) (fun f cdv A outer s H vs Q E hr h => ?_)
  · obtain ⟨a, c, rows, cl, rfl, _⟩ := h
    rfl
  · obtain ⟨a, c, rows, cl, rfl, hT, hC, gT, hcl, k⟩ := h
    refine ⟨_, (pss_cons (ps_set (i := 2) sc__law_word.nd rfl (Or.inl rfl) (pe_lst pa_nil))
  (pss_cons (ps_for PassesOwn.never rfl (pi_range1 rfl T.n_range (pa_cons (pe_callB (call_lenK (K := K)) rfl T.n_len bt_len (pa_cons (pv 0) pa_nil)) pa_nil)) (pg_name (i := 3) sc__law_word.nd rfl (Or.inl rfl)) (pss_cons (ps_set (i := 4) sc__law_word.nd rfl (Or.inl rfl) (pe_join pe_str (pe_lc (own := [("_law_to", 5)]) (g := gName 5) (tt := tYes) rfl sc__law_word.nd (pi_listK (K := K) (pe_ix (ix_listK (K := K)) (pv 0) (pv 3) (fun _ _ => rfl))) (blkOk_by (by kernel_rfl)) (fun _ _ _ _ _ => (pg_name (i := 5) sc__law_word.nd rfl (Or.inl rfl))) (fun _ _ _ _ _ => pts_nil) (fun _ _ _ _ _ => (pe_ifExp (pt_cmpR op_isN (pv 5) pe_non (nomark _)) pe_str (pe_ix ix_str pe_str (pv 5) (fun _ _ => rfl)))))))
    (pss_one (ps_expr (pe_bm PySem.F.plainAttrs_list PySem.F.slot_list_append PySem.F.type_list_append mt_append (pv 2) (pa_cons (pe_ifExp (pt_cmpR (op_in_seqK (K := K)) (pv 3) (pv 1) rfl) (pe_op op_add_str (pv 4) pe_str) (pv 4)) pa_nil))))))
  (pss_one (ps_ret (pe_join pe_str (pv 2)))))), ?_⟩
    obtain ⟨xs, hx, hP⟩ := hT
    have hl := prd_len hP
    have gl := gT.len
    refine ⟨Nat.zero_le _, fun Wz hWz => ?_⟩
    have e1 := Ext.upd (o := .lst []) hWz
    have hW1 : (upd H Wz (.lst [])) Wz = some (.lst []) := upd_same
    revert e1 hW1
    generalize upd H Wz (.lst []) = H1
    intro e1 hW1
    refine ⟨_, rfl, _, _, rfl, .inl (hx.ext e1), _, rfl, by omega, by omega, for_range (fun i σ H' => ∃ v3 v4, σ = [some (.ref a), some (.ref c), some (.ref Wz), v3, v4, none] ∧ Ext H H' ∧ H' Wz = some (.lst (((autPieces (rows.take i) cl).map S).map V.str)))
      ⟨_, _, rfl, e1, hW1⟩ (fun i σ H2 hi h => ?_) (fun σ H2 h => ?_)⟩
    · obtain ⟨v3, v4, rfl, e2, hW2⟩ := h
      have hir : i < rows.length := by omega
      obtain ⟨r, hr⟩ : ∃ r, rows[i]? = some r := ⟨_, List.getElem?_eq_getElem hir⟩
      obtain ⟨x, hxi, p, rfl, hp⟩ := prd_at' hP hr
      have hm := List.mem_of_getElem? hr
      have gr := gT.all r hm
      have gz := gT.rowz r hm
      have ei : (0 : Int) + (i : Nat) = (i : Nat) := by omega
      rw [ei]
      refine ⟨⟨_, rfl⟩, _, rfl, _, rfl, _, _, _, _, rfl, rfl, hx.ext e2, atI_nat hxi, p, rfl, ⟨_, hp.ext e2⟩, fun D hD => lcPLy (prd_map optI r) (fun o => V.str (S (cellL o))) (hp.ext e2) hD (by rw [List.length_map]; exact sl_lt (by omega)) (fun v o H' hm2 hv e Q1 k1 => ⟨rfl, ?_⟩) (fun H3 e3 hl3 => ?_)⟩
      · subst hv
        have k2 := k1 _ Ext.rfl'
        cases o with
        | none =>
          have e1 : (Str.ofString "-" : Str) = S (cellL none) := str1
          rw [← e1] at k2
          exact ⟨_, rfl, rfl, _, rfl, iteT k2⟩
        | some n =>
          obtain ⟨h1, h2⟩ := gr.2 n hm2
          obtain ⟨j, rfl⟩ := Int.eq_ofNat_of_zero_le h1
          exact ⟨_, rfl, rfl, _, rfl, iteF ⟨_, rfl, _, _, _, rfl, rfl, by show 6 ≤ sizeLine; decide, dig6 (by omega), k2⟩⟩
      · have e23 := e2.trans e3
        have hW3 := e3 _ _ hW2
        have hwl : (r.flatMap cellL).length ≤ 5 := by rw [cell_one]; exact gz
        refine ⟨_, D, (r.map cellL).map S, rfl, rfl, .inl (SqL.of (by rw [hl3, List.map_map (g := V.str), List.map_map (g := (V.str ∘ S))]; rfl)), ?_, ?_⟩
        · rw [sum_ones, List.length_map, List.length_map, empty_S, SX.S_len]
          show r.length + r.length * 0 ≤ 16777216
          omega
        rw [empty_S, join_nil, flat_cells]
        have hpl : (autPieces (rows.take i) cl).length ≤ 6 := by
          unfold autPieces
          rw [List.length_map, List.length_zipIdx, List.length_take]
          omega
        refine ⟨_, rfl, .inl ⟨rfl, _, SqL.of hW3⟩, _, rfl, _, rfl, _, _, rfl, .inl (hC.ext e23), rfl, flat_ints cl, _, rfl, ?_⟩
        rw [if_neg Bool.false_ne_true, inV_ints]
        have hsucc := autPieces_succ (cl := cl) hr
        have fin : ∀ z : List Nat, z = stWord r (decide (((i : Nat) : Int) ∈ cl)) → (upd H3 Wz (.lst ((((autPieces (rows.take i) cl).map S).map V.str) ++ [.str (S z)]))) Wz = some (.lst (((autPieces (rows.take (i + 1)) cl).map S).map V.str)) := fun z hz => by
          rw [upd_same, hsucc, hz, List.map_append, List.map_append]
          rfl
        have hstl : ∀ b, (stWord r b).length ≤ 6 := fun b => by
          rw [stWord_len]
          split <;> omega
        refine ite2 (fun h => ?_) (fun h => ?_)
        · refine ⟨_, rfl, _, _, rfl, rfl, ?_, ?_⟩
          · rw [str1 (s := "+") (c := 43), SX.S_len, SX.S_len]
            exact sl_of (by show _ + 1 ≤ _; omega)
          rw [str1 (s := "+") (c := 43), SX.S_cat]
          refine ⟨Wz, _, _, rfl, rfl, hW3, by rw [List.length_map, List.length_map]; exact sl_lt (by omega), ?_⟩
          refine ⟨_, _, rfl, ext_mut e23 hWz, fin _ ?_⟩
          unfold stWord
          rw [h]
          rfl
        · refine ⟨_, rfl, Wz, _, _, rfl, rfl, hW3, by rw [List.length_map, List.length_map]; exact sl_lt (by omega), ?_⟩
          refine ⟨_, _, rfl, ext_mut e23 hWz, fin _ ?_⟩
          unfold stWord
          rw [Bool.eq_false_iff.mpr h, if_neg Bool.false_ne_true, List.append_nil]
    · obtain ⟨v3, v4, rfl, e2, hW2⟩ := h
      have ht : rows.take ((xs.length : Nat) : Int).toNat = rows := List.take_of_length_le (by omega)
      rw [ht] at hW2
      refine ⟨⟨_, rfl⟩, _, rfl, _, _, (autPieces rows cl).map S, rfl, rfl, .inl (SqL.of hW2), ?_, ?_⟩
      · have h1 := autPieces_sum (cl := cl) gT
        have h2 : ((autPieces rows cl).map S).length = rows.length := by simp [autPieces]
        rw [h2, str1 (s := "/") (c := 47), SX.S_len]
        show _ + rows.length * 1 ≤ 16777216
        omega
      · rw [str1 (s := "/") (c := 47), SX.join_S]
        exact k _ e2
end
end K12
namespace K12
open PySem PySem.Spec PyProof.Rows L2 SX
/-! ### _law_read_word -/
def ok6 (c : Nat) : Bool := decide (c ∈ [45, 48, 49, 50, 51, 52, 53])
def lawP (p : List Nat) : Bool := lenIn (bodyL p).length 1 5 && (bodyL p).all ok6
theorem ok6_iff {c : Nat} : ok6 c = true ↔ c = 45 ∨ (48 ≤ c ∧ c ≤ 53) := by
  unfold ok6
  rw [decide_eq_true_eq]
  simp only [List.mem_cons, List.not_mem_nil, or_false]
  omega
theorem readW_good {w : List Nat} {rows : List Row} {cl : List Int} (h : readW w = some (rows, cl)) : (TL.spl [47] 0 [] w).all okP = true ∧ GoodT ((TL.spl [47] 0 [] w).map rowR) ∧ rows = (TL.spl [47] 0 [] w).map rowR ∧ cl = endsOf (TL.spl [47] 0 [] w) := by
  unfold readW at h
  by_cases hc : (TL.spl [47] 0 [] w).all okP = true ∧ isTable ((TL.spl [47] 0 [] w).map rowR) = true
  · rw [if_pos hc] at h
    have := Option.some.inj h
    exact ⟨hc.1, isTable_iff.mp hc.2, (Prod.mk.inj this).1.symm, (Prod.mk.inj this).2.symm⟩
  · rw [if_neg hc] at h
    cases h
theorem good_lawP {w : List Nat} (h1 : (TL.spl [47] 0 [] w).all okP = true) (g : GoodT ((TL.spl [47] 0 [] w).map rowR)) : ∀ p ∈ TL.spl [47] 0 [] w, lawP p = true := fun p hp => by
  have hr : rowR p ∈ (TL.spl [47] 0 [] w).map rowR := List.mem_map_of_mem hp
  have gr := g.all _ hr
  have gz := g.rowz _ hr
  have gw := g.wide
  have gl := g.len
  have hlen : (rowR p).length = (bodyL p).length := List.length_map ..
  unfold lawP
  rw [Bool.and_eq_true, lenIn_iff, List.all_eq_true]
  refine ⟨⟨by omega, by omega⟩, fun c hc => ?_⟩
  have hok := List.all_eq_true.mp (List.all_eq_true.mp h1 p hp) c hc
  rw [ok6_iff]
  unfold okC at hok
  rw [Bool.or_eq_true, decide_eq_true_eq] at hok
  rcases hok with h | h
  · exact .inl h
  · right
    obtain ⟨h2, h3⟩ := digC_iff.mp h
    have h45 : ¬ c = 45 := by omega
    have hm : some ((c : Int) - 48) ∈ rowR p := List.mem_map.mpr ⟨c, hc, by unfold cellR; rw [if_neg h45]⟩
    have := gr.2 _ hm
    omega
theorem readW_none {w : List Nat} {p : List Nat} (hp : p ∈ TL.spl [47] 0 [] w) (h : lawP p = false) : readW w = none := by
  cases e : readW w with
  | none => rfl
  | some q =>
    obtain ⟨h1, g, _⟩ := readW_good (rows := q.1) (cl := q.2) (by rw [e])
    rw [good_lawP h1 g p hp] at h
    cases h
theorem join_spl (w : List Nat) : TL.joinL [47] (TL.spl [47] 0 [] w) = w := by
  have h := PySem.StrLaws.join_split (S w) (S [47])
  rw [SX.split_S (List.cons_ne_nil _ _) (by decide), ← TL.join_eq, SX.join_S] at h
  exact S_inj h
theorem join_le {m : Nat} : ∀ ps : List (List Nat), (∀ p ∈ ps, p.length ≤ m) → (TL.joinL [47] ps).length ≤ ps.length * (m + 1)
  | [], _ => Nat.zero_le _
  | [p], h => by
    have := h p List.mem_cons_self
    show p.length ≤ _
    simp only [List.length_cons, List.length_nil]
    omega
  | p :: q :: ps, h => by
    have h1 := h p List.mem_cons_self
    have h2 := join_le (q :: ps) fun z hz => h z (List.mem_cons_of_mem _ hz)
    show (p ++ ([47] ++ TL.joinL [47] (q :: ps))).length ≤ _
    rw [List.length_append, List.length_append]
    have e : (p :: q :: ps).length * (m + 1) = (q :: ps).length * (m + 1) + (m + 1) := by rw [List.length_cons (a := p), Nat.succ_mul]
    rw [e]
    simp only [List.length_cons, List.length_nil]
    simp only [List.length_cons] at h2
    omega
theorem body_ge (p : List Nat) : p.length ≤ (bodyL p).length + 1 := by
  unfold bodyL
  split
  · rw [List.length_dropLast]
    omega
  · omega
theorem readW_long {w : List Nat} (h : 60 < w.length) : readW w = none := by
  cases e : readW w with
  | none => rfl
  | some q =>
    obtain ⟨h1, g, _⟩ := readW_good (rows := q.1) (cl := q.2) (by rw [e])
    exfalso
    have h2 := join_le (m := 6) (TL.spl [47] 0 [] w) fun p hp => by
      have h3 := g.rowz _ (List.mem_map_of_mem hp)
      have h4 := body_ge p
      unfold rowR at h3
      rw [List.length_map] at h3
      omega
    rw [join_spl] at h2
    have gl := g.len
    rw [List.length_map] at gl
    omega
theorem in6 (c : Nat) : decide (c ∈ (Str.ofString "-012345" : Str).cps.toList) = ok6 c := by
  have e : (Str.ofString "-012345" : Str).cps.toList = [45, 48, 49, 50, 51, 52, 53] := by decide +kernel
  rw [e]
  rfl
theorem occ_6 {c : Nat} (h : 48 ≤ c ∧ c ≤ 53) : ∃ rest, PySem.Builtin.Str.occurrences (Str.ofString "012345" : Str) ⟨#[c]⟩ 0 (Str.ofString "012345" : Str).length 1 = (c - 48) :: rest := by
  have e : (Str.ofString "012345" : Str) = S [48, 49, 50, 51, 52, 53] := by rw [S_ofString]; rfl
  rw [e, sgn]
  refine occ_pos ?_
  have hh : ∀ d : Nat, d < 6 → posL (48 + d) [48, 49, 50, 51, 52, 53] = some d := by decide
  have h3 := hh (c - 48) (by omega)
  rw [show 48 + (c - 48) = c by omega] at h3
  exact h3
theorem body_ne (p : List Nat) : decide (bodyL p = p) = !endsP p := by
  unfold bodyL
  cases h : endsP p with
  | false => rw [if_neg Bool.false_ne_true]; simp
  | true =>
    rw [if_pos rfl]
    have hne : p ≠ [] := fun z => by rw [z] at h; cases h
    have hl : p.dropLast.length < p.length := by
      rw [List.length_dropLast]
      have := List.length_pos_iff.mpr hne
      omega
    simp only [Bool.not_true, decide_eq_false_iff_not]
    intro z
    rw [z] at hl
    omega
/-- the law's last looks at the rows -/
def lawT (rows : List Row) : Bool := !(decide (6 < rows.length) || !(rows.all fun r => decide (r.length = (rows.headD []).length))) && rows.all fun r => r.all fun o => match o with
  | none => true
  | some n => decide (n < (rows.length : Int))
theorem lawT_good {ps : List (List Nat)} (hne : ps ≠ []) (h : ∀ p ∈ ps, lawP p = true) : lawT (ps.map rowR) = true ↔ GoodT (ps.map rowR) := by
  have hrow : ∀ r ∈ ps.map rowR, 1 ≤ r.length ∧ r.length ≤ 5 ∧ ∀ n, some n ∈ r → 0 ≤ n := fun r hr => by
    obtain ⟨p, hp, rfl⟩ := List.mem_map.mp hr
    have h1 := h p hp
    unfold lawP at h1
    rw [Bool.and_eq_true, lenIn_iff, List.all_eq_true] at h1
    have hl : (rowR p).length = (bodyL p).length := List.length_map ..
    refine ⟨by omega, by omega, fun n hn => ?_⟩
    obtain ⟨c, hc, he⟩ := List.mem_map.mp hn
    unfold cellR at he
    have h6 := ok6_iff.mp (h1.2 c hc)
    by_cases h45 : c = 45
    · rw [if_pos h45] at he
      cases he
    · rw [if_neg h45] at he
      have := Option.some.inj he
      omega
  have hne2 : ps.map rowR ≠ [] := fun z => hne (List.map_eq_nil_iff.mp z)
  generalize ps.map rowR = rows at hrow hne2
  have hhd : rows.headD [] ∈ rows := by
    cases rows with
    | nil => exact absurd rfl hne2
    | cons r rs => exact List.mem_cons_self
  have hlen : 1 ≤ rows.length := List.length_pos_iff.mpr hne2
  obtain ⟨w1, w2, _⟩ := hrow _ hhd
  unfold lawT
  rw [Bool.and_eq_true, Bool.not_eq_true', Bool.or_eq_false_iff, decide_eq_false_iff_not, Bool.not_eq_false', List.all_eq_true, List.all_eq_true]
  constructor
  · rintro ⟨⟨h1, h2⟩, h3⟩
    refine ⟨⟨hlen, by omega⟩, ⟨w1, w2⟩, fun r hr => ⟨of_decide_eq_true (h2 r hr), fun n hn => ⟨(hrow r hr).2.2 n hn, ?_⟩⟩⟩
    exact of_decide_eq_true (List.all_eq_true.mp (h3 r hr) (some n) hn)
  · intro g
    refine ⟨⟨by have := g.len; omega, fun r hr => decide_eq_true (g.all r hr).1⟩, fun r hr => List.all_eq_true.mpr fun o ho => ?_⟩
    cases o with
    | none => rfl
    | some n => exact decide_eq_true ((g.all r hr).2 n ho).2
theorem lawP_ok {ps : List (List Nat)} (h : ∀ p ∈ ps, lawP p = true) : ps.all okP = true := List.all_eq_true.mpr fun p hp => List.all_eq_true.mpr fun c hc => by
  have h1 := h p hp
  unfold lawP at h1
  rw [Bool.and_eq_true, List.all_eq_true] at h1
  have h2 := ok6_iff.mp (h1.2 c hc)
  unfold okC
  rw [Bool.or_eq_true, decide_eq_true_eq, digC_iff]
  omega
def cellT (n : Int) : Option Int → Bool
  | none => true
  | some m => decide (m < n)
theorem lawT_eq (rows : List Row) : lawT rows = (!(decide (6 < rows.length) || !(rows.all fun r => decide (r.length = (rows.headD []).length))) && rows.all fun r => r.all (cellT rows.length)) := by
  rfl
theorem chainI {σ : L2.St} {H : Hp} {Q : VK} {tm : TE} {lo hi n : Int} (h : ∀ P : VK, P (.int n) H → tm σ H P) (q : Q (.bl (decide (lo ≤ n) && decide (n ≤ hi))) H) : tChain rLE rLE (tC (.int lo)) tm (tC (.int hi)) σ H Q := by
  refine h _ ⟨_, _, rfl, rfl, _, rfl, ?_⟩
  refine ite2 (fun h1 => ?_) (fun h1 => ?_)
  · refine ⟨_, _, rfl, rfl, ?_⟩
    rw [h1, Bool.true_and] at q
    exact q
  · rw [Bool.eq_false_iff.mpr h1, Bool.false_and] at q
    exact q
theorem spl_ne (c : Nat) : ∀ (l acc : List Nat), TL.spl [c] 0 acc l ≠ []
  | [], acc => by
    rw [TL.spl_nil]
    exact List.cons_ne_nil _ _
  | x :: r, acc => by
    cases h : TL.pre [c] (x :: r) with
    | true =>
      rw [TL.spl_hit h]
      exact List.cons_ne_nil _ _
    | false =>
      rw [TL.spl_miss h]
      exact spl_ne c r _
section
variable {P : Program} {w : World} {K : PySem.W.Frag} {mg : Str → Option Value} {base : Heap}
abbrev s__law_read_word : Stmt := top 45
theorem sc__law_read_word : FnScope ["_law_word_here", "_law_sides", "_law_rows", "_law_ends", "_law_q", "_law_body", "_law_each", "_law_sign", "_law_to"] ["_law_word_here"] (defScope s__law_read_word) := ⟨rfl, rfl, rfl, by decide +kernel, rfl, by decide +kernel, by decide +kernel⟩
def sp__law_read_word (K : PySem.W.Frag) : Sp := fun vs H Q _ => ∃ w : List Nat, vs = [.str (S w)] ∧ w.length ≤ 50000 ∧ (readW w = none → ∀ H', Ext H H' → Q .non H') ∧
  (∀ rows cl, readW w = some (rows, cl) → ∀ p a c H', Ext H H' → SqT K H' p [.ref a, .ref c] → TabL K H' a rows → SqL K H' c (cl.map V.int) → Q (.ref p) H')
theorem c__law_read_word (T : Txt K mg) : Cal P w K mg base 1 "_law_read_word" (sp__law_read_word K) := by
  refine T.d__law_read_word.cal sc__law_read_word (fun _ _ _ _ _ _ us hl => match us, hl with | [_], _ => rfl) (fun vs H Q E h => ?_) (fun f cdv A outer s H vs Q E hr h => ?_)
  · obtain ⟨w, rfl, _⟩ := h
    rfl
  · obtain ⟨w, rfl, hw, kN, kS⟩ := h
    refine ⟨_, (pss_cons (ps_if (PW.pt (pw_or (pt_not (pt_val (pe_callB (call_isiK' (K := K)) rfl T.n_isinstance bt_isinstance (pa_cons (pv 0) (pa_cons (pe_bltn (v := .ty "str") rfl T.n_str bt_str rfl) pa_nil))))) (pw_or1 (pt_cmpR op_gt (pe_callB call_len_str rfl T.n_len bt_len (pa_cons (pv 0) pa_nil)) pe_int (nomark _))))) (pss_one (ps_ret pe_non)) pss_nil)
  (pss_cons (ps_set (i := 1) sc__law_read_word.nd rfl (Or.inl rfl) (pe_split (pv 0) pe_str))
  (pss_cons (ps_asg (pe_tup (pa_cons (pe_lst pa_nil) (pa_cons (pe_lst pa_nil) pa_nil))) (pg_tup rfl (pgs_cons (pg_name (i := 2) sc__law_read_word.nd rfl (Or.inr rfl)) (pgs_cons (pg_name (i := 3) sc__law_read_word.nd rfl (Or.inl rfl)) pgs_nil))))
  (pss_cons (ps_for PassesOwn.never rfl (pi_range1 rfl T.n_range (pa_cons (pe_callB (call_lenK (K := K)) rfl T.n_len bt_len (pa_cons (pv 1) pa_nil)) pa_nil)) (pg_name (i := 4) sc__law_read_word.nd rfl (Or.inl rfl)) (pss_cons (ps_set (i := 5) sc__law_read_word.nd rfl (Or.inl rfl) (pe_ifExp (pt_cmpR op_eq (pe_slice sl_str (pe_ix (ix_listK (K := K)) (pv 1) (pv 4) (fun _ _ => rfl)) (po_some (pe_un un_neg pe_int)) po_none) pe_str (nomark _)) (pe_slice sl_str (pe_ix (ix_listK (K := K)) (pv 1) (pv 4) (fun _ _ => rfl)) po_none (po_some (pe_un un_neg pe_int))) (pe_ix (ix_listK (K := K)) (pv 1) (pv 4) (fun _ _ => rfl))))
    (pss_cons (ps_if (pt_cmpR op_ne (pv 5) (pe_ix (ix_listK (K := K)) (pv 1) (pv 4) (fun _ _ => rfl)) (nomark _)) (pss_one (ps_expr (pe_bm PySem.F.plainAttrs_list PySem.F.slot_list_append PySem.F.type_list_append mt_append (pv 3) (pa_cons (pv 4) pa_nil)))) pss_nil)
    (pss_cons (ps_if (PW.pt (pw_or (pt_not (pt_chain op_le op_le pe_int (pe_callB call_len_str rfl T.n_len bt_len (pa_cons (pv 5) pa_nil)) pe_int)) (pw_or1 (pt_not (pt_val (pe_callB (cr_allK (K := K) rfl) rfl T.n_all bt_all (pa_cons (pe_lc (own := [("_law_sign", 7)]) (g := gName 7) (tt := tYes) rfl sc__law_read_word.nd (pi_str (pv 5)) (blkOk_by (by kernel_rfl)) (fun _ _ _ _ _ => (pg_name (i := 7) sc__law_read_word.nd rfl (Or.inl rfl))) (fun _ _ _ _ _ => pts_nil) (fun _ _ _ _ _ => (pe_cmpR op_in_sign (pv 7) pe_str rfl))) pa_nil))))))) (pss_one (ps_ret pe_non)) pss_nil)
    (pss_one (ps_expr (pe_bm PySem.F.plainAttrs_list PySem.F.slot_list_append PySem.F.type_list_append mt_append (pv 2) (pa_cons (pe_lc (own := [("_law_sign", 7)]) (g := gName 7) (tt := tYes) rfl sc__law_read_word.nd (pi_str (pv 5)) (blkOk_by (by kernel_rfl)) (fun _ _ _ _ _ => (pg_name (i := 7) sc__law_read_word.nd rfl (Or.inl rfl))) (fun _ _ _ _ _ => pts_nil) (fun _ _ _ _ _ => (pe_ifExp (pt_cmpR op_eq (pv 7) pe_str (nomark _)) pe_non (pe_m1 PySem.F.slot_str_index PySem.F.type_str_index mt_sindex pe_str (pv 7))))) pa_nil))))))))
  (pss_cons (ps_if (PW.pt (pw_or (pt_cmpR op_gt (pe_callB (call_lenK (K := K)) rfl T.n_len bt_len (pa_cons (pv 2) pa_nil)) pe_int (nomark _)) (pw_or1 (pt_not (pt_val (pe_callB (cr_allK (K := K) rfl) rfl T.n_all bt_all (pa_cons (pe_lc (own := [("_law_each", 6)]) (g := gName 6) (tt := tYes) rfl sc__law_read_word.nd (pi_listK (K := K) (pv 2)) (blkOk_by (by kernel_rfl)) (fun _ _ _ _ _ => (pg_name (i := 6) sc__law_read_word.nd rfl (Or.inl rfl))) (fun _ _ _ _ _ => pts_nil) (fun _ _ _ _ _ => (pe_cmpR op_eq (pe_callB (call_lenK (K := K)) rfl T.n_len bt_len (pa_cons (pv 6) pa_nil)) (pe_callB (call_lenK (K := K)) rfl T.n_len bt_len (pa_cons (pe_ix (ix_listK (K := K)) (pv 2) pe_int (fun _ _ => rfl)) pa_nil)) (nomark _)))) pa_nil))))))) (pss_one (ps_ret pe_non)) pss_nil)
  (pss_cons (ps_for PassesOwn.never rfl (pi_listK (K := K) (pv 2)) (pg_name (i := 6) sc__law_read_word.nd rfl (Or.inl rfl)) (pss_one (ps_if (pt_not (pt_val (pe_callB (cr_allK (K := K) rfl) rfl T.n_all bt_all (pa_cons (pe_lc (own := [("_law_to", 8)]) (g := gName 8) (tt := tYes) rfl sc__law_read_word.nd (pi_listK (K := K) (pv 6)) (blkOk_by (by kernel_rfl)) (fun _ _ _ _ _ => (pg_name (i := 8) sc__law_read_word.nd rfl (Or.inl rfl))) (fun _ _ _ _ _ => pts_nil) (fun _ _ _ _ _ => (pe_or (pe_cmpR op_isN (pv 8) pe_non (nomark _)) (pe_one (pe_cmpR op_lt (pv 8) (pe_callB (call_lenK (K := K)) rfl T.n_len bt_len (pa_cons (pv 2) pa_nil)) (nomark _)))))) pa_nil)))) (pss_one (ps_ret pe_non)) pss_nil)))
  (pss_one (ps_ret (pe_tup (pa_cons (pv 2) (pa_cons (pv 3) pa_nil))))))))))), ?_⟩
    refine or_val (fun P q => ⟨_, rfl, _, _, _, _, true, rfl, .ty _, TyN.tyX (.str (S w)), kit_ty (by decide +kernel), _, rfl, q⟩) (fun P q => ⟨_, rfl, _, rfl, by rw [SX.S_len]; exact sl_of (by omega), _, _, rfl, rfl, _, rfl, q⟩) ?_
    rw [SX.S_len]
    refine ite2 (fun hh => kN (readW_long ?_) _ Ext.rfl') (fun hh => ?_)
    · have h2 : decide ((60 : Int) < ((w.length : Nat) : Int)) = true := hh
      rw [decide_eq_true_eq] at h2
      omega
    have hw60 : w.length ≤ 60 := by
      have h2 : ¬ decide ((60 : Int) < ((w.length : Nat) : Int)) = true := hh
      rw [decide_eq_true_eq] at h2
      omega
    refine ⟨_, rfl, ⟨_, rfl⟩, _, _, rfl, rfl, rfl, by rw [SX.S_len]; exact sl_of (by omega), fun Pz hPz => ?_⟩
    rw [split_sl]
    have e0 := Ext.upd (o := .lst (((TL.spl [47] 0 [] w).map S).map V.str)) hPz
    have hP0 : (upd H Pz (.lst (((TL.spl [47] 0 [] w).map S).map V.str))) Pz = some (.lst (((TL.spl [47] 0 [] w).map S).map V.str)) := upd_same
    obtain ⟨hpl, hpz⟩ := spl_len 47 w []
    have hpsne := spl_ne 47 w []
    have fnone : ∀ p, p ∈ TL.spl [47] 0 [] w → lawP p = false → ∀ H', Ext H H' → Q .non H' := fun p hp hl => kN (readW_none hp hl)
    have flast : lawT ((TL.spl [47] 0 [] w).map rowR) = false → (∀ p ∈ TL.spl [47] 0 [] w, lawP p = true) → ∀ H', Ext H H' → Q .non H' := fun hT hl => kN (by
      cases e : readW w with
      | none => rfl
      | some q =>
        obtain ⟨h1, g, _⟩ := readW_good (rows := q.1) (cl := q.2) (by rw [e])
        rw [(lawT_good hpsne hl).mpr g] at hT
        cases hT)
    have fsome : lawT ((TL.spl [47] 0 [] w).map rowR) = true → (∀ p ∈ TL.spl [47] 0 [] w, lawP p = true) → readW w = some ((TL.spl [47] 0 [] w).map rowR, endsOf (TL.spl [47] 0 [] w)) := fun hT hl => by
      unfold readW
      rw [if_pos ⟨lawP_ok hl, isTable_iff.mpr ((lawT_good hpsne hl).mp hT)⟩]
    revert hpl hpz hpsne fnone flast fsome e0 hP0
    generalize TL.spl [47] 0 [] w = ps
    generalize upd H Pz (.lst ((ps.map S).map V.str)) = H0
    intro e0 hP0 hpl hpz hpsne fnone flast fsome
    refine ⟨Nat.zero_le _, fun Rz hRz => ⟨Nat.zero_le _, fun Ez hEz => ⟨(by show 2 ≤ sizeLine; decide), fun Tz hTz => ?_⟩⟩⟩
    have hRE : Rz ≠ Ez := fun z => by rw [← z, upd_same] at hEz; cases hEz
    have hEz0 : H0 Ez = none := by rw [upd_ne (Ne.symm hRE)] at hEz; exact hEz
    refine ⟨_, _, rfl, SqT.of upd_same, rfl, _, _, rfl, _, _, rfl, rfl, ?_⟩
    have hHR : H Rz = none := by
      cases e : H Rz with
      | none => rfl
      | some o =>
        rw [e0 _ _ e] at hRz
        cases hRz
    have hHE : H Ez = none := by
      cases e : H Ez with
      | none => rfl
      | some o =>
        rw [e0 _ _ e] at hEz0
        cases hEz0
    have hPR : Pz ≠ Rz := fun z => by rw [← z, hP0] at hRz; cases hRz
    have hPE : Pz ≠ Ez := fun z => by rw [← z, hP0] at hEz0; cases hEz0
    have e1 : Ext H0 (upd (upd (upd H0 Rz (.lst [])) Ez (.lst [])) Tz (.tup [.ref Rz, .ref Ez])) := ((Ext.upd hRz).trans (Ext.upd hEz)).trans (Ext.upd hTz)
    have hT1 : (upd (upd (upd H0 Rz (.lst [])) Ez (.lst [])) Tz (.tup [.ref Rz, .ref Ez])) Rz = some (.lst []) := by
      have n1 : Rz ≠ Tz := fun z => by rw [← z, upd_ne hRE, upd_same] at hTz; cases hTz
      rw [upd_ne n1, upd_ne hRE, upd_same]
    have hC1 : (upd (upd (upd H0 Rz (.lst [])) Ez (.lst [])) Tz (.tup [.ref Rz, .ref Ez])) Ez = some (.lst []) := by
      have n1 : Ez ≠ Tz := fun z => by rw [← z, upd_same] at hTz; cases hTz
      rw [upd_ne n1, upd_same]
    have e01 := e0.trans e1
    have hP1 := e1 _ _ hP0
    revert e01 hP1 hT1 hC1
    generalize upd (upd (upd H0 Rz (.lst [])) Ez (.lst [])) Tz (.tup [.ref Rz, .ref Ez]) = H1
    intro hT1 hC1 e01 hP1
    refine ⟨_, rfl, _, _, rfl, .inl (SqL.of hP1), _, rfl, by omega, by rw [List.length_map, List.length_map]; omega, for_range (fun i σ H' => ∃ v4 v5 acc, σ = [some (.str (S w)), some (.ref Pz), some (.ref Rz), some (.ref Ez), v4, v5, none, none, none] ∧ Ext H H' ∧ H' Pz = some (.lst ((ps.map S).map V.str)) ∧ H' Rz = some (.lst acc) ∧ Paired (RowN Rz Ez H') acc ((ps.take i).map rowR) ∧ H' Ez = some (.lst ((endsOf (ps.take i)).map V.int)) ∧ ∀ p ∈ ps.take i, lawP p = true)
      ⟨_, _, [], rfl, e01, hP1, hT1, .nil, hC1, fun p hp => by rw [List.take_zero] at hp; cases hp⟩ (fun i σ H2 hi h => ?_) (fun σ H2 h => ?_)⟩
    · obtain ⟨v4, v5, acc, rfl, e04, hP4, hT4, hA4, hC4, hok⟩ := h
      have hip : i < ps.length := by
        rw [List.length_map, List.length_map] at hi
        omega
      obtain ⟨p, hp⟩ : ∃ p, ps[i]? = some p := ⟨_, List.getElem?_eq_getElem hip⟩
      have hpm := hpz p (List.mem_of_getElem? hp)
      rw [List.length_nil, Nat.zero_add] at hpm
      have ei : (0 : Int) + (i : Nat) = (i : Nat) := by omega
      rw [ei]
      have hpx : ((ps.map S).map V.str)[i]? = some (V.str (S p)) := by rw [List.getElem?_map, List.getElem?_map, hp]; rfl
      have fsl : (S p).length ≤ sizeLine := by rw [SX.S_len]; exact sl_of (by omega)
      have hend : decide (V.str (cutS (S p) (some (-1)) none) = V.str (Str.ofString "+")) = endsP p := by
        rw [cut_last]
        exact dec_S str1
      have hcs := endsOf_succ hp
      have hel : (endsOf (ps.take i)).length ≤ 100 := by
        have := endsOf_len (ps.take i)
        rw [List.length_take] at this
        omega
      refine ⟨_, rfl, _, rfl, _, _, _, _, rfl, rfl, SqL.of hP4, atI_nat hpx, _, rfl, _, rfl, _, rfl, fsl, rfl, _, rfl, ?_⟩
      rw [hend]
      refine ite2 (fun hE => ?hA) (fun hE => ?hB)
      case' hA =>
        have hq : bodyL p = p.dropLast := if_pos hE
        have hne0 := body_ne p
        rw [hE, hq] at hne0
        rw [if_pos hE] at hcs
        refine ⟨_, rfl, _, rfl, _, _, _, _, rfl, rfl, SqL.of hP4, atI_nat hpx, _, rfl, _, rfl, _, rfl, fsl, ?_⟩
        rw [cut_but]
        refine ⟨_, rfl, _, rfl, _, rfl, _, _, _, _, rfl, rfl, SqL.of hP4, atI_nat hpx, rfl, _, rfl, ?_⟩
        rw [dec_S rfl, hne0]
        refine iteT ⟨_, rfl, .inl ⟨rfl, _, SqL.of hC4⟩, _, rfl, Ez, _, _, rfl, rfl, hC4, by rw [List.length_map]; exact sl_lt (by omega), ?_⟩
        have e05 : Ext H (upd H2 Ez (.lst ((endsOf (ps.take i)).map V.int ++ [.int (i : Nat)]))) := ext_mut e04 hHE
        have hP5 : (upd H2 Ez (.lst ((endsOf (ps.take i)).map V.int ++ [.int (i : Nat)]))) Pz = some (.lst ((ps.map S).map V.str)) := by rw [upd_ne hPE]; exact hP4
        have hT5 : (upd H2 Ez (.lst ((endsOf (ps.take i)).map V.int ++ [.int (i : Nat)]))) Rz = some (.lst acc) := by rw [upd_ne hRE]; exact hT4
        have hA5 := prd_mono (fun _ _ z => RowN.updB (o := .lst ((endsOf (ps.take i)).map V.int ++ [.int (i : Nat)])) z) hA4
        have hC5 : (upd H2 Ez (.lst ((endsOf (ps.take i)).map V.int ++ [.int (i : Nat)]))) Ez = some (.lst ((endsOf (ps.take (i + 1))).map V.int)) := by rw [upd_same, hcs, List.map_append]; rfl
        revert e05 hP5 hT5 hA5 hC5
        generalize upd H2 Ez (.lst ((endsOf (ps.take i)).map V.int ++ [.int (i : Nat)])) = H5
        intro e05 hP5 hT5 hA5 hC5
      case' hB =>
        have hq : bodyL p = p := if_neg hE
        rw [if_neg hE, List.append_nil] at hcs
        refine ⟨_, rfl, _, rfl, _, _, _, _, rfl, rfl, SqL.of hP4, atI_nat hpx, ?_⟩
        refine ⟨_, rfl, _, rfl, _, rfl, _, _, _, _, rfl, rfl, SqL.of hP4, atI_nat hpx, rfl, _, rfl, ?_⟩
        rw [decide_eq_true rfl]
        refine iteF ?_
        obtain ⟨H5, rfl⟩ : ∃ H5, H5 = H2 := ⟨_, rfl⟩
        have e05 := e04
        have hP5 := hP4
        have hT5 := hT4
        have hA5 := hA4
        have hC5 := hC4
        rw [← hcs] at hC5
      all_goals
        have hql := bodyL_len p
        have hacc : acc.length ≤ 100 := by
          have := prd_len hA5
          rw [List.length_map, List.length_take] at this
          omega
        have hlawp : lawP p = (lenIn (bodyL p).length 1 5 && (bodyL p).all ok6) := rfl
        rw [hq] at hql hlawp
        have hfp := fnone p (List.mem_of_getElem? hp)
        have hokS : lawP p = true → ∀ q ∈ ps.take (i + 1), lawP q = true := fun hl q hq2 => by
          rw [take_succ_f hp] at hq2
          rcases List.mem_append.mp hq2 with h | h
          · exact hok q h
          · rw [List.mem_singleton.mp h]
            exact hl
        refine ⟨_, rfl, _, rfl, by rw [SX.S_len]; exact sl_of (by omega), _, _, rfl, rfl, _, rfl, ?_⟩
        rw [SX.S_len]
        refine ite2 (fun hA1 => ?_) (fun hA1 => ?_)
        rotate_left
        · refine ⟨_, rfl, iteT (hfp ?_ _ e05)⟩
          rw [hlawp]
          unfold lenIn
          rw [Bool.eq_false_iff.mpr hA1]
          rfl
        refine ⟨_, _, rfl, rfl, _, rfl, ?_⟩
        refine ite2 (fun hB1 => iteT (hfp ?_ _ e05)) (fun hB1 => ?_)
        · rw [hlawp]
          unfold lenIn
          rw [Bool.not_eq_true'] at hB1
          rw [hB1, Bool.and_false]
          rfl
        rw [Bool.not_eq_true', Bool.not_eq_false] at hB1
        unfold lenIn at hlawp
        rw [hA1, hB1, Bool.true_and, Bool.true_and] at hlawp
        rw [decide_eq_true_eq] at hA1 hB1
        refine ⟨_, rfl, _, rfl, fun D hD => lcSy (fun c => V.bl (ok6 c)) hD (by rw [SX.S_len]; exact sl_lt (by omega)) (fun c H' _ e Q1 k1 => ⟨rfl, _, rfl, c, _, rfl, rfl, ?_⟩) (fun H6 e6 hl6 => ?_)⟩
        · have k2 := k1 _ Ext.rfl'
          rw [← in6] at k2
          exact k2
        have e06 := e05.trans e6
        have hT6 := e6 _ _ hT5
        have hC6 := e6 _ _ hC5
        have hP6 := e6 _ _ hP5
        have hA6 := prd_mono (fun _ _ z => RowN.ext z e6) hA5
        refine ⟨D, _, rfl, SqL.of (by rw [hl6, bls]), ?_⟩
        rw [all_id]
        refine ⟨_, rfl, ?_⟩
        have hqq : ∀ l, (S l).cps.toList = l := fun _ => rfl
        rw [hqq]
        rw [← hlawp]
        cases hb : lawP p with
        | false => exact iteT (hfp hb _ e06)
        | true =>
        have hok2 := hokS hb
        rw [hb] at hlawp
        have hall := List.all_eq_true.mp hlawp.symm
        refine iteF ⟨_, rfl, .inl ⟨rfl, _, SqL.of hT6⟩, _, rfl, _, rfl, fun D2 hD2 => lcSy (fun c => optI (cellR c)) hD2 (by rw [SX.S_len]; exact sl_lt (by omega)) (fun c H' hc e Q1 k1 => ⟨rfl, ?_⟩) (fun H7 e7 hl7 => ?_)⟩
        · have h6 := ok6_iff.mp (hall c hc)
          have k2 := k1 _ Ext.rfl'
          unfold cellR at k2
          refine ⟨_, rfl, rfl, _, rfl, ?_⟩
          rw [dec_minus]
          refine ite2 (fun h => ?_) (fun h => ?_)
          · rw [if_pos (of_decide_eq_true h)] at k2
            exact k2
          · have hn : ¬ c = 45 := fun z => h (decide_eq_true z)
            rw [if_neg hn] at k2
            obtain ⟨rest, hocc⟩ := occ_6 (c := c) (by omega)
            refine ⟨⟨_, rfl⟩, _, rfl, _, _, _, rest, rfl, rfl, hocc, ?_⟩
            rw [show ((c - 48 : Nat) : Int) = (c : Int) - 48 by omega]
            exact k2
        rw [hqq] at hl7
        have hDT : D2 ≠ Rz := fun z => by rw [z, hT6] at hD2; cases hD2
        have hDC : D2 ≠ Ez := fun z => by rw [z, hC6] at hD2; cases hD2
        have hrow : (rowR p).map optI = List.map (fun c => optI (cellR c)) (bodyL p) := by
          unfold rowR
          rw [List.map_map]
          rfl
        refine ⟨Rz, _, _, rfl, rfl, e7 _ _ hT6, by exact sl_lt (by omega), ?_⟩
        refine ⟨_, _, acc ++ [.ref D2], rfl, ext_mut (e06.trans e7) hHR, ?_, upd_same, ?_, ?_, hok2⟩
        · rw [upd_ne hPR]
          exact e7 _ _ hP6
        · rw [take_succ_f hp, List.map_append]
          refine prd_app (prd_mono (fun _ _ z => RowN.updA (RowN.ext z e7)) hA6) (.cons ⟨D2, rfl, hDT, hDC, ?_⟩ .nil)
          rw [upd_ne hDT, hl7, hrow, hq]
        · rw [upd_ne (Ne.symm hRE)]
          exact e7 _ _ hC6
    · obtain ⟨v4, v5, acc, rfl, e04, hP4, hT4, hA4, hC4, hok⟩ := h
      have hln : ps.take ((((ps.map S).map V.str).length : Nat) : Int).toNat = ps := List.take_of_length_le (by rw [List.length_map, List.length_map]; omega)
      rw [hln] at hA4 hC4 hok
      have hal := prd_len hA4
      have hrl : (ps.map rowR).length = ps.length := List.length_map ..
      rw [lawT_eq] at flast fsome
      refine ⟨_, rfl, _, _, rfl, .inl (SqL.of hT4), _, _, rfl, rfl, _, rfl, ?_⟩
      rw [hal]
      refine ite2 (fun hg => iteT (flast ?_ hok _ e04)) (fun hg => ?_)
      · rw [decide_eq_true_eq] at hg
        rw [decide_eq_true (show 6 < (ps.map rowR).length by omega)]
        rfl
      have hg6 : decide (6 < (ps.map rowR).length) = false := by
        rw [decide_eq_false_iff_not]
        intro z
        exact hg (decide_eq_true (by omega))
      rw [hg6, Bool.false_or, Bool.not_not] at flast fsome
      rw [decide_eq_false_iff_not] at hg6
      have hne2 : ps.map rowR ≠ [] := fun z => hpsne (List.map_eq_nil_iff.mp z)
      have hrowz : ∀ r ∈ ps.map rowR, r.length ≤ 100000 := fun r hr => by
        obtain ⟨p, hp, rfl⟩ := List.mem_map.mp hr
        have h1 := hpz p hp
        have h2 := bodyL_len p
        unfold rowR
        rw [List.length_map]
        rw [List.length_nil] at h1
        omega
      generalize ps.map rowR = rows at flast fsome hal hrl hg6 hne2 hA4 hrowz
      cases hA4 with
      | nil => exact absurd rfl hne2
      | @cons v0 r0 acc' rows' h0 ht =>
      have hA4 : Paired (RowN Rz Ez H2) (v0 :: acc') (r0 :: rows') := .cons h0 ht
      have flast : ((r0 :: rows').all (fun r => decide (r.length = r0.length)) && (r0 :: rows').all fun r => r.all (cellT (r0 :: rows').length)) = false → (∀ p ∈ ps, lawP p = true) → ∀ H', Ext H H' → Q .non H' := flast
      have fsome : ((r0 :: rows').all (fun r => decide (r.length = r0.length)) && (r0 :: rows').all fun r => r.all (cellT (r0 :: rows').length)) = true → (∀ p ∈ ps, lawP p = true) → readW w = some (r0 :: rows', endsOf ps) := fsome
      refine ⟨_, rfl, Rz, rfl, ⟨_, SqL.of hT4⟩, fun D hD => lcPLy hA4 (fun r => V.bl (decide (r.length = r0.length))) (SqL.of hT4) hD (by rw [hal]; exact sl_lt (by omega)) (fun x r H' hm hx e Q1 k1 => ⟨rfl, ?_⟩) (fun H3 e3 hl3 => ?_)⟩
      · obtain ⟨p, rfl, _, _, hpr⟩ := hx.ext e
        obtain ⟨p0, rfl, _, _, hp0⟩ := h0.ext e
        refine ⟨_, rfl, _, _, rfl, .inl (SqL.of hpr), _, rfl, _, _, _, _, rfl, rfl, SqL.of (e _ _ hT4), at0, _, _, rfl, .inl (SqL.of hp0), rfl, ?_⟩
        have k2 := k1 _ Ext.rfl'
        rw [List.length_map, List.length_map, dec_int]
        have eb : (((r.length : Nat) : Int) == ((r0.length : Nat) : Int)) = decide (r.length = r0.length) := by
          rw [Bool.beq_eq_decide_eq, decide_eq_decide]
          omega
        rw [eb]
        exact k2
      have e34 := e04.trans e3
      refine ⟨D, _, rfl, SqL.of (by rw [hl3, bls]), ?_⟩
      rw [all_id]
      refine ⟨_, rfl, ?_⟩
      cases hb : (r0 :: rows').all fun r => decide (r.length = r0.length) with
      | false =>
        rw [hb, Bool.false_and] at flast
        exact iteT (flast rfl hok _ e34)
      | true =>
      rw [hb, Bool.true_and] at flast fsome
      have hT3 := e3 _ _ hT4
      refine iteF ⟨_, rfl, Rz, rfl, ⟨_, SqL.of hT3⟩, for_it (walk_list (xs := v0 :: acc')) (fun i σ H' => ∃ v6, σ = [some (.str (S w)), some (.ref Pz), some (.ref Rz), some (.ref Ez), v4, v5, v6, none, none] ∧ Ext H3 H' ∧ ((r0 :: rows').take i).all (fun r => r.all (cellT (r0 :: rows').length)) = true)
        ⟨_, rfl, Ext.rfl', rfl⟩ (fun i σ H' _ h => SqL.of (h.choose_spec.2.1 _ _ hT3)) (fun i x σ H5 H6 hi h y => ?_) (fun σ H5 h => ?_)⟩
      · obtain ⟨v6, rfl, e5, hall⟩ := h
        obtain ⟨rfl, hx⟩ := y
        obtain ⟨r, hr, _, hxr⟩ := prd_at hA4 hx
        obtain ⟨p, rfl, _, _, hpr⟩ := hxr.ext (e3.trans e5)
        have hT5 := e5 _ _ hT3
        have hm := List.mem_of_getElem? hr
        have hrz := hrowz r hm
        refine ⟨_, rfl, p, rfl, ⟨_, SqL.of hpr⟩, fun D3 hD3 => lcPLy (prd_map optI r) (fun o => V.bl (cellT (r0 :: rows').length o)) (SqL.of hpr) hD3 (by rw [List.length_map]; exact sl_lt hrz) (fun x o H' hm2 hx2 e Q1 k1 => ⟨rfl, ?_⟩) (fun H7 e7 hl7 => ?_)⟩
        · subst hx2
          have k2 := k1 _ Ext.rfl'
          cases o with
          | none => exact ⟨_, rfl, rfl, _, rfl, iteT k2⟩
          | some n => exact ⟨_, rfl, rfl, _, rfl, iteF ⟨_, rfl, _, rfl, _, _, rfl, .inl (SqL.of (e _ _ hT5)), _, _, rfl, rfl, by rw [hal]; exact k2⟩⟩
        · refine ⟨D3, _, rfl, SqL.of (by rw [hl7, bls]), ?_⟩
          rw [all_id]
          refine ⟨_, rfl, ?_⟩
          cases hc : r.all (cellT (r0 :: rows').length) with
          | false =>
            refine iteT (flast ?_ hok _ ((e34.trans e5).trans e7))
            refine Bool.eq_false_iff.mpr fun z => ?_
            have := List.all_eq_true.mp z r hm
            rw [hc] at this
            cases this
          | true =>
            refine iteF ⟨_, rfl, e5.trans e7, ?_⟩
            rw [take_succ_f hr, List.all_append, hall, Bool.true_and]
            show (r.all _ && true) = true
            rw [hc]
            rfl
      · obtain ⟨v6, rfl, e5, hall⟩ := h
        rw [hal, List.take_length] at hall
        have hT5 := e5 _ _ hT3
        have e35 := e3.trans e5
        refine ⟨_, rfl, _, rfl, (by show 2 ≤ sizeLine; decide), fun p hp => ?_⟩
        have e6 := Ext.upd (o := .tup [.ref Rz, .ref Ez]) hp
        refine kS _ _ (fsome hall hok) p Rz Ez _ (e34.trans (e5.trans e6)) (SqT.of upd_same) ⟨_, SqL.of (e6 _ _ hT5), prd_mono (fun _ _ z => (RowN.ext z (e35.trans e6)).row) hA4⟩ (SqL.of ((e35.trans e6) _ _ hC4))
end
end K12
namespace K12
open PySem PySem.Spec PyProof.Rows L2 SX
/-! ### the need: rounds against lots -/
def hitP (f : Nat → Bool) : Option Int → Bool
  | none => false
  | some m => f m.toNat
def lotP (rows : List Row) (cl : List Int) : Nat → Nat → Bool
  | 0, q => decide ((q : Int) ∈ cl)
  | k + 1, q => lotP rows cl k q || (rows.getD q []).any (hitP (lotP rows cl k))
/-- the cells are places -/
def CellsIn (rows : List Row) : Prop := ∀ r ∈ rows, ∀ n, some n ∈ r → 0 ≤ n ∧ n < (rows.length : Int)
section
variable {rows : List Row} {cl : List Int}
theorem lotP_mono {k q : Nat} (h : lotP rows cl k q = true) : lotP rows cl (k + 1) q = true := by
  show (_ || _) = true
  rw [h, Bool.true_or]
theorem lotP_le {i q : Nat} : ∀ {k : Nat}, i ≤ k → lotP rows cl i q = true → lotP rows cl k q = true := by
  intro k hk h
  induction k with
  | zero =>
    have : i = 0 := by omega
    rw [this] at h
    exact h
  | succ k ih =>
    by_cases e : i = k + 1
    · rw [e] at h
      exact h
    · exact lotP_mono (ih (by omega))
def fI (rows : List Row) (cl : List Int) : Nat → Nat → Option Int
  | 0, q => if lotP rows cl 0 q = true then some 0 else none
  | i + 1, q => if fI rows cl i q = none ∧ lotP rows cl (i + 1) q = true then some (1 + ((i : Nat) : Int)) else fI rows cl i q
theorem fI_none {q : Nat} : ∀ {i : Nat}, fI rows cl i q = none ↔ lotP rows cl i q = false
  | 0 => by
    show (if lotP rows cl 0 q = true then some (0 : Int) else none) = none ↔ _
    cases lotP rows cl 0 q <;> simp
  | i + 1 => by
    have ih := fI_none (q := q) (i := i)
    show (if fI rows cl i q = none ∧ lotP rows cl (i + 1) q = true then some (1 + ((i : Nat) : Int)) else fI rows cl i q) = none ↔ _
    by_cases h : fI rows cl i q = none ∧ lotP rows cl (i + 1) q = true
    · rw [if_pos h, h.2]
      simp
    · rw [if_neg h, ih]
      constructor
      · intro h1
        have h2 := ih.mpr h1
        cases e : lotP rows cl (i + 1) q with
        | false => rfl
        | true => exact absurd ⟨h2, e⟩ h
      · intro h1
        cases e : lotP rows cl i q with
        | false => rfl
        | true =>
          rw [lotP_mono e] at h1
          cases h1
theorem fI_some {q : Nat} : ∀ {i : Nat} {d : Int}, fI rows cl i q = some d → 0 ≤ d ∧ d ≤ (i : Int) ∧ lotP rows cl d.toNat q = true
  | 0, d, h => by
    have h : (if lotP rows cl 0 q = true then some (0 : Int) else none) = some d := h
    by_cases e : lotP rows cl 0 q = true
    · rw [if_pos e] at h
      cases h
      exact ⟨Int.le_refl _, Int.le_refl _, e⟩
    · rw [if_neg e] at h
      cases h
  | i + 1, d, h => by
    have h : (if fI rows cl i q = none ∧ lotP rows cl (i + 1) q = true then some (1 + ((i : Nat) : Int)) else fI rows cl i q) = some d := h
    by_cases e : fI rows cl i q = none ∧ lotP rows cl (i + 1) q = true
    · rw [if_pos e] at h
      cases h
      refine ⟨by omega, by omega, ?_⟩
      rw [show (1 + ((i : Nat) : Int)).toNat = i + 1 by omega]
      exact e.2
    · rw [if_neg e] at h
      obtain ⟨h1, h2, h3⟩ := fI_some h
      exact ⟨h1, by omega, h3⟩
theorem getD_at {q : Nat} {r : Row} (h : rows[q]? = some r) : rows.getD q [] = r := by
  rw [List.getD_eq_getElem?_getD, h]
  rfl
theorem mem_near {nd : List (Option Int)} {k m : Int} (h0 : 0 ≤ m) : m ∈ nearer nd k ↔ nd[m.toNat]? = some (some (k - 1)) := by
  unfold nearer
  constructor
  · intro h
    obtain ⟨q, hq, rfl⟩ := List.mem_map.mp h
    obtain ⟨h1, h2⟩ := List.mem_filter.mp hq
    have h3 := List.mem_zipIdx_iff_getElem?.mp h1
    rw [of_decide_eq_true h2] at h3
    exact h3
  · intro h
    refine List.mem_map.mpr ⟨(some (k - 1), m.toNat), List.mem_filter.mpr ⟨List.mem_zipIdx_iff_getElem?.mpr h, by simp⟩, by show ((m.toNat : Nat) : Int) = m; omega⟩
theorem rounds_fI (hc : CellsIn rows) : ∀ i, roundsN rows cl i = (List.range rows.length).map (fI rows cl i)
  | 0 => by
    show initN rows.length cl = _
    unfold initN
    rfl
  | i + 1 => by
    have ih := rounds_fI hc i
    show stepN (1 + (i : Nat)) (roundsN rows cl i) rows = _
    rw [ih]
    unfold stepN
    refine List.ext_getElem? fun q => ?_
    rw [List.getElem?_zipWith, List.getElem?_map, List.getElem?_map]
    by_cases hq : q < rows.length
    · have hr : rows[q]? = some rows[q] := List.getElem?_eq_getElem hq
      rw [List.getElem?_range hq, hr]
      show some (stepC _ _ (fI rows cl i q) rows[q]) = some (fI rows cl (i + 1) q)
      congr 1
      unfold stepC
      show _ = if fI rows cl i q = none ∧ lotP rows cl (i + 1) q = true then some (1 + ((i : Nat) : Int)) else fI rows cl i q
      by_cases hd : fI rows cl i q = none
      · have hlq := fI_none.mp hd
        have key : (rows[q].any (inNear (nearer ((List.range rows.length).map (fI rows cl i)) (1 + (i : Nat))))) = lotP rows cl (i + 1) q := by
          show _ = (lotP rows cl i q || (rows.getD q []).any (hitP (lotP rows cl i)))
          rw [hlq, Bool.false_or, getD_at hr, Bool.eq_iff_iff, List.any_eq_true, List.any_eq_true]
          constructor
          · rintro ⟨o, ho, hn⟩
            cases o with
            | none => cases hn
            | some m =>
              obtain ⟨m0, m1⟩ := hc _ (List.getElem_mem hq) m ho
              have hn2 := (mem_near m0).mp (of_decide_eq_true hn)
              rw [List.getElem?_map, List.getElem?_range (by omega)] at hn2
              have h3 := fI_some (Option.some.inj hn2)
              refine ⟨some m, ho, ?_⟩
              have e : (1 + ((i : Nat) : Int) - 1).toNat = i := by omega
              rw [e] at h3
              exact h3.2.2
          · rintro ⟨o, ho, hn⟩
            cases o with
            | none => cases hn
            | some m =>
              obtain ⟨m0, m1⟩ := hc _ (List.getElem_mem hq) m ho
              have hn : lotP rows cl i m.toNat = true := hn
              refine ⟨some m, ho, decide_eq_true ((mem_near m0).mpr ?_)⟩
              rw [List.getElem?_map, List.getElem?_range (by omega)]
              show some (fI rows cl i m.toNat) = _
              congr 1
              cases hf : fI rows cl i m.toNat with
              | none =>
                rw [fI_none.mp hf] at hn
                cases hn
              | some d =>
                obtain ⟨d0, d1, d2⟩ := fI_some hf
                congr 1
                by_cases hlt : d = (i : Int)
                · omega
                · exfalso
                  have h4 : lotP rows cl (d.toNat + 1) q = true := by
                    show (_ || _) = true
                    rw [getD_at hr, List.any_eq_true.mpr ⟨some m, ho, d2⟩, Bool.or_true]
                  have h5 := lotP_le (k := i) (by omega) h4
                  rw [hlq] at h5
                  cases h5
        rw [key]
      · rw [if_neg (fun z => hd z.1), if_neg (fun z => hd z.1)]
    · have h1 : (List.range rows.length)[q]? = none := by rw [List.getElem?_eq_none_iff, List.length_range]; omega
      rw [h1]
      rfl
/-! ### nothing new behind n - 1 steps -/
def cnt (rows : List Row) (cl : List Int) (k : Nat) : Nat := ((List.range rows.length).filter (lotP rows cl k)).length
theorem filter_le {α : Type} {f g : α → Bool} (h : ∀ a, f a = true → g a = true) : ∀ l : List α, (l.filter f).length ≤ (l.filter g).length
  | [] => Nat.le_refl _
  | a :: l => by
    have ih := filter_le h l
    rw [List.filter_cons, List.filter_cons]
    cases hf : f a with
    | true =>
      rw [if_pos rfl, if_pos (h a hf)]
      simp only [List.length_cons]
      omega
    | false =>
      rw [if_neg Bool.false_ne_true]
      split
      · simp only [List.length_cons]
        omega
      · exact ih
theorem filter_lt {α : Type} {f g : α → Bool} (h : ∀ a, f a = true → g a = true) : ∀ {l : List α} {b : α}, b ∈ l → f b = false → g b = true → (l.filter f).length < (l.filter g).length
  | a :: l, b, hb, h1, h2 => by
    rw [List.filter_cons, List.filter_cons]
    rcases List.mem_cons.mp hb with rfl | hb
    · rw [h1, h2, if_neg Bool.false_ne_true, if_pos rfl]
      have := filter_le h l
      simp only [List.length_cons]
      omega
    · have ih := filter_lt h hb h1 h2
      cases hf : f a with
      | true =>
        rw [if_pos rfl, if_pos (h a hf)]
        simp only [List.length_cons]
        omega
      | false =>
        rw [if_neg Bool.false_ne_true]
        split
        · simp only [List.length_cons]
          omega
        · exact ih
theorem stable_next (hc : CellsIn rows) {j : Nat} (h : ∀ q, q < rows.length → lotP rows cl (j + 1) q = lotP rows cl j q) : ∀ q, q < rows.length → lotP rows cl (j + 2) q = lotP rows cl (j + 1) q := fun q hq => by
  have hr : rows[q]? = some rows[q] := List.getElem?_eq_getElem hq
  show (lotP rows cl (j + 1) q || (rows.getD q []).any (hitP (lotP rows cl (j + 1)))) = (lotP rows cl j q || (rows.getD q []).any (hitP (lotP rows cl j)))
  rw [h q hq, getD_at hr]
  congr 1
  rw [Bool.eq_iff_iff, List.any_eq_true, List.any_eq_true]
  have e : ∀ o ∈ rows[q], hitP (lotP rows cl (j + 1)) o = hitP (lotP rows cl j) o := fun o ho => by
    cases o with
    | none => rfl
    | some m =>
      obtain ⟨m0, m1⟩ := hc _ (List.getElem_mem hq) m ho
      exact h m.toNat (by omega)
  constructor
  · rintro ⟨o, ho, h1⟩
    exact ⟨o, ho, by rw [← e o ho]; exact h1⟩
  · rintro ⟨o, ho, h1⟩
    exact ⟨o, ho, by rw [e o ho]; exact h1⟩
theorem stable_all (hc : CellsIn rows) {j : Nat} (h : ∀ q, q < rows.length → lotP rows cl (j + 1) q = lotP rows cl j q) : ∀ d q, q < rows.length → lotP rows cl (j + d) q = lotP rows cl j q := by
  have step : ∀ d, ∀ q, q < rows.length → lotP rows cl (j + d + 1) q = lotP rows cl (j + d) q := by
    intro d
    induction d with
    | zero => exact h
    | succ d ih => exact stable_next hc ih
  intro d
  induction d with
  | zero => exact fun _ _ => rfl
  | succ d ih => exact fun q hq => (step d q hq).trans (ih q hq)
theorem first_le (hc : CellsIn rows) {k q : Nat} (hq : q < rows.length) (h1 : ∀ j, j < k → lotP rows cl j q = false) (h2 : lotP rows cl k q = true) : k ≤ rows.length - 1 := by
  have uns : ∀ j, j < k → ∃ b, b < rows.length ∧ lotP rows cl j b = false ∧ lotP rows cl (j + 1) b = true := fun j hj => by
    apply Classical.byContradiction
    intro hn
    have st : ∀ b, b < rows.length → lotP rows cl (j + 1) b = lotP rows cl j b := fun b hb => by
      cases e : lotP rows cl j b with
      | true => exact lotP_mono e
      | false =>
        cases e2 : lotP rows cl (j + 1) b with
        | false => rfl
        | true => exact absurd ⟨b, hb, e, e2⟩ hn
    have h3 := stable_all hc st (k - j) q hq
    rw [show j + (k - j) = k by omega, h2, h1 j hj] at h3
    cases h3
  have grow : ∀ j, j < k → cnt rows cl j < cnt rows cl (j + 1) := fun j hj => by
    obtain ⟨b, hb, e1, e2⟩ := uns j hj
    exact filter_lt (fun a => lotP_mono) (List.mem_range.mpr hb) e1 e2
  have tot : ∀ j, j ≤ k → cnt rows cl 0 + j ≤ cnt rows cl j := by
    intro j
    induction j with
    | zero => intro _; exact Nat.le_refl _
    | succ j ih =>
      intro hj
      have := ih (by omega)
      have := grow j (by omega)
      omega
  have hk := tot k (Nat.le_refl _)
  have hn : cnt rows cl k ≤ rows.length := by
    unfold cnt
    exact Nat.le_trans (List.length_filter_le _ _) (by rw [List.length_range]; exact Nat.le_refl _)
  by_cases hk0 : k = 0
  · omega
  · have h0 : 1 ≤ cnt rows cl 0 := by
      obtain ⟨b, hb, e1, e2⟩ := uns 0 (by omega)
      have e2 : (lotP rows cl 0 b || (rows.getD b []).any (hitP (lotP rows cl 0))) = true := e2
      rw [e1, Bool.false_or, getD_at (List.getElem?_eq_getElem hb), List.any_eq_true] at e2
      obtain ⟨o, ho, ho2⟩ := e2
      cases o with
      | none => cases ho2
      | some m =>
        obtain ⟨m0, m1⟩ := hc _ (List.getElem_mem hb) m ho
        unfold cnt
        exact List.length_pos_iff.mpr (List.ne_nil_of_mem (List.mem_filter.mpr ⟨List.mem_range.mpr (by omega : m.toNat < rows.length), ho2⟩))
    omega
theorem needF0_fI (hc : CellsIn rows) (hne : rows ≠ []) : needF0 rows cl = fI rows cl (rows.length - 1) 0 := by
  unfold needF0 needsF
  rw [rounds_fI hc]
  have hl := List.length_pos_iff.mpr hne
  generalize rows.length - 1 = n1
  cases h : rows.length with
  | zero => omega
  | succ n =>
    rw [List.range_succ_eq_map, List.map_cons]
    rfl
theorem need_first (hc : CellsIn rows) (hne : rows ≠ []) {k : Nat} (h1 : ∀ j, j < k → lotP rows cl j 0 = false) (h2 : lotP rows cl k 0 = true) : needF0 rows cl = some ((k : Nat) : Int) := by
  have hl := List.length_pos_iff.mpr hne
  have hk := first_le hc hl h1 h2
  rw [needF0_fI hc hne]
  cases hf : fI rows cl (rows.length - 1) 0 with
  | none =>
    have h3 := lotP_le hk h2
    rw [fI_none.mp hf] at h3
    cases h3
  | some d =>
    congr 1
    obtain ⟨d0, d1, d2⟩ := fI_some hf
    -- d is the first
    have hmin : ∀ (i : Nat) {d : Int}, fI rows cl i 0 = some d → ∀ j : Nat, (j : Int) < d → lotP rows cl j 0 = false := by
      intro i
      induction i with
      | zero =>
        intro d h j hj
        have := (fI_some h).2.1
        omega
      | succ i ih =>
        intro d h j hj
        have h : (if fI rows cl i 0 = none ∧ lotP rows cl (i + 1) 0 = true then some (1 + ((i : Nat) : Int)) else fI rows cl i 0) = some d := h
        by_cases e : fI rows cl i 0 = none ∧ lotP rows cl (i + 1) 0 = true
        · rw [if_pos e] at h
          cases h
          cases e2 : lotP rows cl j 0 with
          | false => rfl
          | true =>
            have h5 := lotP_le (k := i) (by omega) e2
            rw [fI_none.mp e.1] at h5
            cases h5
        · rw [if_neg e] at h
          exact ih h j hj
    have h4 := hmin _ hf
    rcases Int.lt_trichotomy d (k : Int) with h | h | h
    · rw [h1 d.toNat (by omega)] at d2
      cases d2
    · exact h
    · rw [h4 k h] at h2
      cases h2
theorem need_none (hc : CellsIn rows) (hne : rows ≠ []) (h : ∀ j, j ≤ rows.length → lotP rows cl j 0 = false) : needF0 rows cl = none := by
  rw [needF0_fI hc hne]
  exact fI_none.mpr (h _ (by omega))
end
end K12
namespace K12
open PySem PySem.Spec PyProof.Rows L2 SX
/-! ### _law_reach, _law_need -/
def lotL (rows : List Row) (cl : List Int) : Nat → List Int
  | 0 => cl
  | k + 1 => ((List.range rows.length).filter (lotP rows cl (k + 1))).map fun q : Nat => (q : Int)
theorem lotL_mem {rows : List Row} {cl : List Int} {k : Nat} {m : Int} (h0 : 0 ≤ m) (h1 : m < (rows.length : Int)) : decide (m ∈ lotL rows cl k) = lotP rows cl k m.toNat := by
  obtain ⟨q, rfl⟩ := Int.eq_ofNat_of_zero_le h0
  cases k with
  | zero => rfl
  | succ k =>
    rw [Bool.eq_iff_iff, decide_eq_true_eq]
    unfold lotL
    rw [List.mem_map]
    constructor
    · rintro ⟨j, hj, e⟩
      have : j = q := by omega
      subst this
      exact (List.mem_filter.mp hj).2
    · intro h
      exact ⟨q, List.mem_filter.mpr ⟨List.mem_range.mpr (by omega), h⟩, rfl⟩
def LotN (Lz : Addr) (H : Hp) (v : V) (l : List Int) : Prop := ∃ p, v = .ref p ∧ p ≠ Lz ∧ H p = some (.lst (l.map V.int))
theorem LotN.ext {Lz : Addr} {H H' : Hp} {v : V} {l : List Int} (h : LotN Lz H v l) (e : Ext H H') : LotN Lz H' v l := by
  obtain ⟨p, h1, h2, h3⟩ := h
  exact ⟨p, h1, h2, e _ _ h3⟩
theorem LotN.upd {Lz : Addr} {H : Hp} {o : HO} {v : V} {l : List Int} (h : LotN Lz H v l) : LotN Lz (upd H Lz o) v l := by
  obtain ⟨p, h1, h2, h3⟩ := h
  exact ⟨p, h1, h2, by rw [upd_ne h2]; exact h3⟩
def Lots (K : PySem.W.Frag) (H : Hp) (L : Addr) (ls : List (List Int)) : Prop := ∃ acc, SqL K H L acc ∧ Paired (fun v l => ∃ p, v = .ref p ∧ SqL K H p (l.map V.int)) acc ls
section
variable {P : Program} {w : World} {K : PySem.W.Frag} {mg : Str → Option Value} {base : Heap}
abbrev s__law_reach : Stmt := top 46
theorem sc__law_reach : FnScope ["_law_rows", "_law_ends", "_law_most_steps", "_law_lots", "_law_k", "_law_q", "_law_to"] ["_law_rows", "_law_ends", "_law_most_steps"] (defScope s__law_reach) := ⟨rfl, rfl, rfl, by decide +kernel, rfl, by decide +kernel, by decide +kernel⟩
def sp__law_reach (K : PySem.W.Frag) : Sp := fun vs H Q _ => ∃ (a c : Addr) (rows : List Row) (cl : List Int) (n : Nat), vs = [.ref a, .ref c, .int n] ∧ TabL K H a rows ∧ SqL K H c (cl.map V.int) ∧ GoodT rows ∧ n = rows.length ∧ cl.length ≤ 60 ∧
  ∀ L H', Ext H H' → Lots K H' L ((List.range (n + 1)).map (lotL rows cl)) → Q (.ref L) H'
theorem c__law_reach (T : Txt K mg) : Cal P w K mg base 1 "_law_reach" (sp__law_reach K) := by
  refine T.d__law_reach.cal sc__law_reach (fun _ _ _ _ _ _ us hl => match us, hl with | [_, _, _], _ => rfl) (fun vs H Q E h => ?_) (fun f cdv A outer s H vs Q E hr h => ?_)
  · obtain ⟨a, c, rows, cl, n, rfl, _⟩ := h
    rfl
  · obtain ⟨a, c, rows, cl, n, rfl, hT, hC, gT, hn, hcl, k⟩ := h
    refine ⟨_, (pss_cons (ps_set (i := 3) sc__law_reach.nd rfl (Or.inr rfl) (pe_lst (pa_cons (pe_callTy (call_listK (K := K)) rfl T.n_list bt_list (pa_cons (pv 1) pa_nil)) pa_nil)))
  (pss_cons (ps_for PassesOwn.never rfl (pi_range1 rfl T.n_range (pa_cons (pv 2) pa_nil)) (pg_name (i := 4) sc__law_reach.nd rfl (Or.inr rfl)) (pss_one (ps_expr (pe_bm PySem.F.plainAttrs_list PySem.F.slot_list_append PySem.F.type_list_append mt_append (pv 3) (pa_cons (pe_lc (own := [("_law_q", 5)]) (g := gName 5) rfl sc__law_reach.nd (pi_range1 rfl T.n_range (pa_cons (pe_callB (call_lenK (K := K)) rfl T.n_len bt_len (pa_cons (pv 0) pa_nil)) pa_nil)) (blkOk_by (by kernel_rfl)) (fun _ _ _ _ _ => (pg_name (i := 5) sc__law_reach.nd rfl (Or.inl rfl))) (fun _ _ _ _ _ => (pts_one (PW.pt (pw_or (pt_cmpR (op_in_seqK (K := K)) (pv 5) (pe_ix (ix_listK (K := K)) (pv 3) (pv 4) (fun _ _ => rfl)) rfl) (pw_or1 (pt_val (pe_callB (cr_anyK (K := K) rfl) rfl T.n_any bt_any (pa_cons (pe_lc (own := [("_law_to", 6)]) (g := gName 6) (tt := tYes) rfl sc__law_reach.nd (pi_listK (K := K) (pe_ix (ix_listK (K := K)) (pv 0) (pv 5) (fun _ _ => rfl))) (blkOk_by (by kernel_rfl)) (fun _ _ _ _ _ => (pg_name (i := 6) sc__law_reach.nd rfl (Or.inl rfl))) (fun _ _ _ _ _ => pts_nil) (fun _ _ _ _ _ => (pe_cmpR (op_in_seqK (K := K)) (pv 6) (pe_ix (ix_listK (K := K)) (pv 3) (pv 4) (fun _ _ => rfl)) rfl))) pa_nil)))))))) (fun _ _ _ _ _ => (pv 5))) pa_nil)))))
  (pss_one (ps_ret (pv 3))))), ?_⟩
    obtain ⟨xs, hx, hP⟩ := hT
    have hl := prd_len hP
    have gl := gT.len
    refine ⟨_, rfl, _, _, rfl, .inl hC, fun C0 hC0 => ⟨(by show 1 ≤ sizeLine; decide), fun Lz hLz => ?_⟩⟩
    have hCL : C0 ≠ Lz := fun z => by rw [← z, upd_same] at hLz; cases hLz
    have hL0 : H Lz = none := by rw [upd_ne (Ne.symm hCL)] at hLz; exact hLz
    have e1 : Ext H (upd (upd H C0 (.lst (cl.map V.int))) Lz (.lst [.ref C0])) := (Ext.upd hC0).trans (Ext.upd hLz)
    have hC1 : (upd (upd H C0 (.lst (cl.map V.int))) Lz (.lst [.ref C0])) C0 = some (.lst (cl.map V.int)) := by rw [upd_ne hCL, upd_same]
    have hL1 : (upd (upd H C0 (.lst (cl.map V.int))) Lz (.lst [.ref C0])) Lz = some (.lst [.ref C0]) := upd_same
    revert e1 hC1 hL1
    generalize upd (upd H C0 (.lst (cl.map V.int))) Lz (.lst [.ref C0]) = H1
    intro e1 hC1 hL1
    subst hn
    refine ⟨_, rfl, _, rfl, by omega, by omega, for_range (fun i σ H' => ∃ v4 acc, σ = [some (.ref a), some (.ref c), some (.int (rows.length : Nat)), some (.ref Lz), v4, none, none] ∧ Ext H H' ∧ H' Lz = some (.lst acc) ∧ Paired (LotN Lz H') acc ((List.range (i + 1)).map (lotL rows cl)))
      ⟨_, _, rfl, e1, hL1, .cons ⟨C0, rfl, hCL, hC1⟩ .nil⟩ (fun i σ H2 hi h => ?_) (fun σ H2 h => ?_)⟩
    · obtain ⟨v4, acc, rfl, e2, hL2, hA2⟩ := h
      have hir : i < rows.length := by omega
      have ei : (0 : Int) + (i : Nat) = (i : Nat) := by omega
      rw [ei]
      have hal := prd_len hA2
      rw [List.length_map, List.length_range] at hal
      have hgi : ((List.range (i + 1)).map (lotL rows cl))[i]? = some (lotL rows cl i) := by rw [List.getElem?_map, List.getElem?_range (by omega)]; rfl
      obtain ⟨vi, hvi, hri⟩ := prd_at' hA2 hgi
      refine ⟨_, rfl, .inl ⟨rfl, _, SqL.of hL2⟩, _, rfl, _, _, rfl, .inl (hx.ext e2), _, rfl, by omega, by omega, fun D hD => lcR (fun q => V.int (q : Nat)) (fun q => lotP rows cl (i + 1) q) hD (by rw [hl]; exact sl_lt (by omega)) (fun q H3 hq e3 Q1 Q0 k1 k0 => ⟨rfl, ?_⟩) (fun H3 e3 hl3 => ?_)⟩
      · have eq0 : (0 : Int) + (q : Nat) = (q : Nat) := by omega
        rw [eq0]
        obtain ⟨p, rfl, hpL, hpv⟩ := hri.ext e3
        have hqr : q < rows.length := by omega
        refine ⟨_, rfl, _, rfl, _, rfl, _, _, _, _, rfl, rfl, SqL.of (e3 _ _ hL2), atI_nat hvi, _, _, rfl, .inl (SqL.of hpv), rfl, flat_ints _, _, rfl, ?_⟩
        rw [if_neg Bool.false_ne_true, inV_ints, lotL_mem (by omega) (by omega)]
        have eqt : (((q : Nat) : Int)).toNat = q := rfl
        rw [eqt]
        obtain ⟨r, hr⟩ : ∃ r, rows[q]? = some r := ⟨_, List.getElem?_eq_getElem hqr⟩
        have hlp : lotP rows cl (i + 1) q = (lotP rows cl i q || r.any (hitP (lotP rows cl i))) := by
          show (_ || _) = _
          rw [getD_at hr]
        refine ite2 (fun h => ?_) (fun h => ?_)
        · refine iteT ⟨_, rfl, k1 ?_ _ Ext.rfl'⟩
          rw [hlp, h, Bool.true_or]
        · have hlf := Bool.eq_false_iff.mpr h
          obtain ⟨x, hxq, p2, rfl, hp2⟩ := prd_at' hP hr
          have hm := List.mem_of_getElem? hr
          have gr := gT.all r hm
          have gz := gT.rowz r hm
          have hp3 := hp2.ext (e2.trans e3)
          refine ⟨_, rfl, _, rfl, _, _, _, _, rfl, rfl, hx.ext (e2.trans e3), atI_nat hxq, p2, rfl, ⟨_, hp3⟩, fun D2 hD2 => lcPLy (prd_map optI r) (fun o => V.bl (hitP (lotP rows cl i) o)) hp3 hD2 (by rw [List.length_map]; exact sl_lt (by omega)) (fun x o H4 hm2 hx2 e Q2 k2 => ⟨rfl, ?_⟩) (fun H4 e4 hl4 => ?_)⟩
          · subst hx2
            have k3 := k2 _ Ext.rfl'
            refine ⟨_, rfl, _, rfl, _, rfl, _, _, _, _, rfl, rfl, SqL.of (e _ _ (e3 _ _ hL2)), atI_nat hvi, _, _, rfl, .inl (SqL.of (e _ _ hpv)), flat_opt o, flat_ints _, ?_⟩
            rw [if_neg Bool.false_ne_true, inV_near]
            have eo : inNear (lotL rows cl i) o = hitP (lotP rows cl i) o := by
              cases o with
              | none => rfl
              | some m =>
                obtain ⟨m0, m1⟩ := gr.2 m hm2
                exact lotL_mem m0 m1
            rw [eo]
            exact k3
          · refine ⟨D2, r.map (hitP (lotP rows cl i)), rfl, SqL.of (by rw [hl4, bls]), _, rfl, ?_⟩
            rw [any_id]
            rw [hlf, Bool.false_or] at hlp
            refine ite2 (fun h2 => ⟨_, rfl, k1 (by rw [hlp, h2]) _ e4⟩) (fun h2 => k0 (by rw [hlp, Bool.eq_false_iff.mpr h2]) _ e4)
      · have e23 := e2.trans e3
        have hL3 := e3 _ _ hL2
        have hDL : D ≠ Lz := fun z => by rw [z, hL2] at hD; cases hD
        refine ⟨Lz, _, _, rfl, rfl, hL3, by exact sl_lt (by omega), ?_⟩
        refine ⟨_, acc ++ [.ref D], rfl, ext_mut e23 hL0, upd_same, ?_⟩
        rw [List.range_succ, List.map_append]
        refine prd_app (prd_mono (fun _ _ z => (LotN.ext z e3).upd) hA2) (.cons ⟨D, rfl, hDL, ?_⟩ .nil)
        rw [upd_ne hDL, hl3, hl]
        unfold lotL
        rw [List.map_map]
        rfl
    · obtain ⟨v4, acc, rfl, e2, hL2, hA2⟩ := h
      refine ⟨_, rfl, k Lz _ e2 ⟨acc, SqL.of hL2, ?_⟩⟩
      exact prd_mono (fun v l z => by
        obtain ⟨p, h1, _, h3⟩ := z
        exact ⟨p, h1, SqL.of h3⟩) hA2
abbrev s__law_need : Stmt := top 47
theorem sc__law_need : FnScope ["_law_rows", "_law_ends", "_law_q", "_law_lots", "_law_k"] ["_law_rows", "_law_ends", "_law_q"] (defScope s__law_need) := ⟨rfl, rfl, rfl, by decide +kernel, rfl, by decide +kernel, by decide +kernel⟩
def sp__law_need (K : PySem.W.Frag) : Sp := fun vs H Q _ => ∃ (a c : Addr) (rows : List Row) (cl : List Int), vs = [.ref a, .ref c, .int 0] ∧ TabL K H a rows ∧ SqL K H c (cl.map V.int) ∧ GoodT rows ∧ cl.length ≤ 60 ∧ ∀ H', Ext H H' → Q (optI (needF0 rows cl)) H'
theorem c__law_need (T : Txt K mg) : Cal P w K mg base 2 "_law_need" (sp__law_need K) := by
  refine T.d__law_need.cal sc__law_need (fun _ _ _ _ _ _ us hl => match us, hl with | [_, _, _], _ => rfl) (fun vs H Q E h => ?_) (fun f cdv A outer s H vs Q E hr h => ?_)
  · obtain ⟨a, c, rows, cl, rfl, _⟩ := h
    rfl
  · obtain ⟨a, c, rows, cl, rfl, hT, hC, gT, hcl, k⟩ := h
    refine ⟨_, (pss_cons (ps_set (i := 3) sc__law_need.nd rfl (Or.inl rfl) (pe_c (c__law_reach T) hr (by decide) rfl (pa_cons (pv 0) (pa_cons (pv 1) (pa_cons (pe_callB (call_lenK (K := K)) rfl T.n_len bt_len (pa_cons (pv 0) pa_nil)) pa_nil)))))
  (pss_cons (ps_for PassesOwn.never rfl (pi_range1 rfl T.n_range (pa_cons (pe_callB (call_lenK (K := K)) rfl T.n_len bt_len (pa_cons (pv 3) pa_nil)) pa_nil)) (pg_name (i := 4) sc__law_need.nd rfl (Or.inl rfl)) (pss_one (ps_if (pt_cmpR (op_in_seqK (K := K)) (pv 2) (pe_ix (ix_listK (K := K)) (pv 3) (pv 4) (fun _ _ => rfl)) rfl) (pss_one (ps_ret (pv 4))) pss_nil)))
  (pss_one (ps_ret pe_non)))), ?_⟩
    obtain ⟨xs, hx, hP⟩ := id hT
    have hl := prd_len hP
    have gl := gT.len
    have hci : CellsIn rows := fun r hr => (gT.all r hr).2
    refine ⟨_, rfl, _, rfl, _, rfl, _, _, rfl, .inl hx, ?_⟩
    refine ⟨a, c, rows, cl, rows.length, by rw [hl]; rfl, hT, hC, gT, rfl, hcl, fun L H1 e1 hL => ?_⟩
    obtain ⟨acc, hac, hPL⟩ := hL
    have hal := prd_len hPL
    rw [List.length_map, List.length_range] at hal
    refine ⟨_, rfl, _, _, rfl, .inl hac, _, rfl, by omega, by omega, for_range (fun i σ H' => ∃ v4, σ = [some (.ref a), some (.ref c), some (.int 0), some (.ref L), v4] ∧ H' = H1 ∧ ∀ j, j < i → lotP rows cl j 0 = false) ⟨_, rfl, rfl, fun j hj => absurd hj (Nat.not_lt_zero j)⟩ (fun i σ H2 hi h => ?_) (fun σ H2 h => ?_)⟩
    · obtain ⟨v4, rfl, rfl, hno⟩ := h
      have ei : (0 : Int) + (i : Nat) = (i : Nat) := by omega
      rw [ei]
      have hgi : ((List.range (rows.length + 1)).map (lotL rows cl))[i]? = some (lotL rows cl i) := by rw [List.getElem?_map, List.getElem?_range (by omega)]; rfl
      obtain ⟨vi, hvi, p, rfl, hp⟩ := prd_at' hPL hgi
      refine ⟨_, rfl, _, rfl, _, rfl, _, _, _, _, rfl, rfl, hac, atI_nat hvi, _, _, rfl, .inl hp, rfl, flat_ints _, _, rfl, ?_⟩
      rw [if_neg Bool.false_ne_true, inV_ints, lotL_mem (by omega) (by omega)]
      have eqt : ((0 : Int)).toNat = 0 := rfl
      rw [eqt]
      refine ite2 (fun h => ?_) (fun h => ?_)
      · have k2 := k _ e1
        rw [need_first hci gT.ne hno h] at k2
        exact ⟨_, rfl, k2⟩
      · refine ⟨_, rfl, rfl, fun j hj => ?_⟩
        by_cases e : j = i
        · rw [e]
          exact Bool.eq_false_iff.mpr h
        · exact hno j (by omega)
    · obtain ⟨v4, rfl, rfl, hno⟩ := h
      have k2 := k _ e1
      rw [need_none hci gT.ne (fun j hj => hno j (by omega))] at k2
      exact k2
end
end K12
namespace K12
open PySem PySem.Spec PyProof.Rows L2 SX
/-! ### defs that raise -/
structure CalX (P : Program) (w : World) (K : PySem.W.Frag) (mg : Str → Option Value) (base : Heap) (k : Nat) (x : Str) (sp : Sp) : Prop where
  ex : ∃ (f : Addr) (fd : FuncData) (ps : List Str), FnOk P w K mg base (L2.CX P w) k f fd ps sp ∧ mg x = some (.ref f) ∧ PySem.W.keepIn K (.ref f) = true ∧ Binds K fd ps []
section
variable {P : Program} {w : World} {K : PySem.W.Frag} {mg : Str → Option Value} {base : Heap}
theorem Dfn.calx {x : Str} {i k : Nat} {N ps : List Str} {sp : Sp} (D : Dfn K mg x i) (S : FnScope N ps (defScope (top i)))
    (hb : ∀ (kV doc pm : Value) (an : Option Addr) (cdv ct : Value) (us : List Value), us.length = ps.length → bindArgs (PySem.W.fnOf x x (defArgs (top i)) (defBody (top i)) (defScope (top i)) .none kV doc pm an cdv ct) ⟨us, []⟩ = pure (ps.zip us))
    (len : ∀ vs H Q E, sp vs H Q E → vs.length = ps.length)
    (hbody : ∀ (f : Addr) (cdv : Value) (A : Around) (outer : List Env) (s : Shared) (H : Hp) (vs : List V) (Q : VK) (E : XK), Room k (A.deeper (envOfC x (defScope (top i)) s.heap.objs.size f cdv)) → sp vs H Q E →
      ∃ t, PSs (cxOf (L2.CX P w) P w K mg base N x (defScope (top i)) f cdv A outer s H E) (defBody (top i)) t ∧ t { nx := fun _ H' => Q .non H', rt := Q } (start N vs) H) : CalX P w K mg base (k + 1) x sp := by
  obtain ⟨fd, F⟩ := D.f
  exact ⟨_, fd, ps, F.ok S len fun cdv A outer s H vs Q E hr h => hbody _ cdv A outer s H vs Q E hr h, D.g, F.kp, F.bindsN hb⟩
theorem MCal.fnR {CX : CXT} {k : Nat} {f : Addr} {sp : Sp} (c : MCal P w K mg base CX k f sp) : FnR P w K mg base CX k f sp := by
  obtain ⟨fd, ps, F, b⟩ := c.ex
  exact (F.raw b .nil).imp fun vs H Q E h => by rw [List.append_nil]; exact h
end
section
variable {X : Cx} {k j : Nat} {x : Str} {sp : Sp} {E : XK} {p pos : Pos} {e : Expr} {es : List Expr} {t : TA}
theorem pe_cx (c : CalX X.prog X.w X.K X.mg X.base k x sp) (hr : Room j X.A) (hk : k ≤ j) (hg : Gl X x) (hx : Passes (L2.CX X.prog X.w) X E) (ha : PA X (e :: es) t)
    (hdb : (x == ("__debug__" : Str)) = false := by decide) (he : starEach (e :: es) X.env = (false, eval e X.env) :: starEach es X.env := by rfl) (hpl : (backTo pos (starEach es X.env)).any (·.1) = false := by rfl) :
    PE X (.Call (.Name x p) (e :: es) [] pos) (tCall sp [] E t) := by
  obtain ⟨f, fd, ps, F, hm, kp, b⟩ := c.ex
  exact pe_call F (hr.mono hk) hg hm kp b .nil hx ha hdb he hpl
/-- C(e, .., k = v, ..) that may raise -/
theorem pe_mkx {C f : Addr} {kws : List Keyword} {tk : TA} (M : Mk X.K C f) (c : KMk X.prog X.w X.K X.mg X.base k f sp) (hr : Room j X.A) (hk : k + 1 ≤ j) (hg : Gl X x) (hm : X.mg x = some (.ref C)) (hx : Passes (L2.CX X.prog X.w) X E) (ha : PA X (e :: es) t) (hkw : PK X kws tk)
    (hall : (backToKw pos (keywordEach kws X.env)).all (·.1.isSome) = true := by rfl) (hks : (backToKw pos (keywordEach kws X.env)).filterMap (·.1) = (["knob", "seed", "copies", "automaton"] : List Str) := by rfl) (hdb : (x == ("__debug__" : Str)) = false := by decide)
    (he : starEach (e :: es) X.env = (false, eval e X.env) :: starEach es X.env := by rfl) (hpl : ((backTo pos (starEach (e :: es) X.env)).any (·.1) || (backToKw pos (keywordEach kws X.env)).any (·.1.isNone)) = false := by rfl) :
    PE X (.Call (.Name x p) (e :: es) kws pos) (tMakeK C 3 4 sp (fun vs zs => vs ++ zs) E t tk) := by
  obtain ⟨fd, ps, g, F, b⟩ := c.ex
  exact pe_makeK (ks := (["knob", "seed", "copies", "automaton"] : List Str)) M F (hr.mono hk) hg hm b hx ha hkw hall hks hdb he hpl
theorem pe_mp {C pa g : Addr} {f : Str} {ta : TE} (c : MCal X.prog X.w X.K X.mg X.base CX0 k g sp) (hr : Room j X.A) (hk : k + 1 ≤ j) (cl : Cls X.K C) (hp : PropOf X.K C f pa g) (he : PE X e ta) (hab : attributeBase e f X.env (eval e X.env) = eval e X.env) : PE X (.Attribute e f pos) (tProp C sp [] E0 ta) := by
  obtain ⟨fd, ps, F, b⟩ := c.ex
  exact pe_prop he cl hp F (hr.mono hk) b .nil pass0 hab
end
def readPlan (w : List Nat) : Option Plan := if w = [42] then some none else (readW w).map some
/-- what a line says -/
def readBody (w1 w2 w3 w4 w5 w6 w7 chars : List Nat) : Option ReqD := match readPlan w7 with
  | none => none
  | some plan => match readN w3 1 16, readN w5 0 9999, readN w6 1 4 with
    | some m, some s, some c =>
      if reqOk (S w1) (w2.map fun c => posI c chars) (some m) (S w4) (some s) (some c) = true ∧ fitsB ⟨S w1, w2.map fun c => posI c chars, m, S w4, s, c, plan⟩ chars.length = true ∧ possP m plan = true then some ⟨S w1, w2.map fun c => posI c chars, m, S w4, s, c, plan⟩ else none
    | _, _, _ => none
def readL (line chars : List Nat) : Option ReqD := match TL.spl [32] 0 [] line with
  | [w0, w1, w2, w3, w4, w5, w6, w7] => if w0 = [97, 115, 107] then readBody w1 w2 w3 w4 w5 w6 w7 chars else none
  | _ => none
theorem split_sp (w : List Nat) : Txt.split (S w) (Str.ofString " ") = (TL.spl [32] 0 [] w).map S := by
  rw [str1 (s := " ") (c := 32), SX.split_S (List.cons_ne_nil _ _) (by decide)]
section
variable {P : Program} {w : World} {K : PySem.W.Frag} {mg : Str → Option Value} {base : Heap}
abbrev s__read_word : Stmt := top 28
theorem sc__read_word : FnScope ["word"] ["word"] (defScope s__read_word) := ⟨rfl, rfl, rfl, by decide +kernel, rfl, by decide +kernel, by decide +kernel⟩
def sp__read_word (K : PySem.W.Frag) : Sp := fun vs H Q E => ∃ w : List Nat, vs = [.str (S w)] ∧ w.length ≤ 50000 ∧ (readPlan w = none → ∀ d H', Ext H H' → E (.ref (cXA K)) (some d) H') ∧ (∀ plan, readPlan w = some plan → ∀ v H', Ext H H' → PlanAt K H' v plan → Q v H')
theorem c__read_word (T : Txt K mg) : CalX P w K mg base 8 "_read_word" (sp__read_word K) := by
  refine T.d__read_word.calx sc__read_word (fun _ _ _ _ _ _ us hl => match us, hl with | [_], _ => rfl) (fun vs H Q E h => ?_) (fun f cdv A outer s H vs Q E hr h => ?_)
  · obtain ⟨w, rfl, _⟩ := h
    rfl
  · obtain ⟨w, rfl, hw, kE, kQ⟩ := h
    refine ⟨_, (pss_one (ps_ret (pe_ifExp (pt_cmpR op_eq (pv 0) pe_str (nomark _)) pe_non (ClX.pe_cmeth (pe_glob (v := V.ref (cA K)) rfl T.g_Automaton rfl) T.a_cread T.a_read (c_Automaton_read T).fnR (hr.mono (by decide)) (passes_call (takes_of rfl rfl rfl rfl) (fun _ _ _ _ h => h)) (pa_cons (pv 0) pa_nil))))), ?_⟩
    unfold readPlan at kE kQ
    refine ⟨_, rfl, rfl, _, rfl, ?_⟩
    rw [dec_S (str1 (s := "*") (c := 42))]
    refine ite2 (fun h => ?_) (fun h => ?_)
    · rw [if_pos (of_decide_eq_true h)] at kQ
      exact kQ none rfl _ _ Ext.rfl' rfl
    · rw [if_neg (fun z => h (decide_eq_true z))] at kE kQ
      refine ⟨rfl, _, rfl, w, rfl, hw, fun hn d H' e => kE (by rw [hn]; rfl) d H' e, fun rows cl hs x H' e hA => ?_⟩
      obtain ⟨_, g, h1, h2⟩ := readW_good hs
      refine kQ (some (rows, cl)) (by rw [hs]; rfl) _ _ e ⟨x, rfl, hA, by rw [h1]; exact g, ?_⟩
      have h3 := endsOf_len (TL.spl [47] 0 [] w)
      have h4 := g.len
      rw [List.length_map] at h4
      rw [h2]
      omega
abbrev s_read_request : Stmt := top 27
theorem sc_read_request : FnScope ["line", "tokens", "words", "name", "knob", "text", "most", "seed", "copies", "automaton", "request", "character"] ["line", "tokens"] (defScope s_read_request) := ⟨rfl, rfl, rfl, by decide +kernel, rfl, by decide +kernel, by decide +kernel⟩
def sp_read_request (K : PySem.W.Frag) : Sp := fun vs H Q _ => (∃ v T chars, vs = [v, .str (S chars)] ∧ TyX K H v T ∧ PySem.W.kitOne K T (.type "str") = some false ∧ Q .non H) ∨
  ∃ line chars : List Nat, vs = [.str (S line), .str (S chars)] ∧ line.length ≤ 40000 ∧ chars.length ≤ 1000 ∧ (readL line chars = none → ∀ H', Ext H H' → Q .non H') ∧ (∀ d, readL line chars = some d → ∀ x H', Ext H H' → ReqAt K H' x d → Q (.ref x) H')
theorem lkR_fits {n t m k s c a : V} : (reqFs n t m k s c a).lookup ("fits" : Str) = none := (look_tl (ne_str (by decide))).trans ((look_tl (ne_str (by decide))).trans ((look_tl (ne_str (by decide))).trans ((look_tl (ne_str (by decide))).trans ((look_tl (ne_str (by decide))).trans ((look_tl (ne_str (by decide))).trans ((look_tl (ne_str (by decide))).trans rfl))))))
theorem len3 {α : Type} {l : List α} (h : l.length = 8) : ∃ a b c d e f g i, l = [a, b, c, d, e, f, g, i] := by
  match l, h with
  | [a, b, c, d, e, f, g, i], _ => exact ⟨a, b, c, d, e, f, g, i, rfl⟩
theorem f_read_request (T : Txt K mg) : ∃ fd, FunD K "read_request" "read_request" (defArgs s_read_request) (defBody s_read_request) (defScope s_read_request) [] [] (He.ga K "read_request") fd ∧ FnOk P w K mg base CX0 9 (He.ga K "read_request") fd ["line", "tokens"] (sp_read_request K) := by
  obtain ⟨fd, F⟩ := T.d_read_request.f
  refine ⟨fd, F, DfM.fn F sc_read_request (fun vs H Q E h => ?_) (fun f cdv A outer s H vs Q E hr h => ?_)⟩
  · rcases h with ⟨v, T, chars, rfl, _⟩ | ⟨line, chars, rfl, _⟩ <;> rfl
  · refine ⟨_, PSs.nox (pss_cons (ps_if (pt_not (pt_val (pe_callB (call_isiK' (K := K)) rfl T.n_isinstance bt_isinstance (pa_cons (pv 0) (pa_cons (pe_bltn (v := .ty "str") rfl T.n_str bt_str rfl) pa_nil))))) (pss_one (ps_ret pe_non)) pss_nil)
  (pss_cons (ps_set (i := 2) sc_read_request.nd rfl (Or.inl rfl) (pe_split (pv 0) pe_str))
  (pss_cons (ps_if (PW.pt (pw_or (pt_cmpR op_ne (pe_callB (call_lenK (K := K)) rfl T.n_len bt_len (pa_cons (pv 2) pa_nil)) pe_int (nomark _)) (pw_or1 (pt_cmpR op_ne (pe_ix (ix_listK (K := K)) (pv 2) pe_int (fun _ _ => rfl)) pe_str (nomark _))))) (pss_one (ps_ret pe_non)) pss_nil)
  (pss_cons (ps_par (i := 3) (j := 4) rfl sc_read_request.nd rfl rfl (by decide) rfl rfl (pa_cons (pe_ix (ix_listK (K := K)) (pv 2) pe_int (fun _ _ => rfl)) (pa_cons (pe_ix (ix_listK (K := K)) (pv 2) pe_int (fun _ _ => rfl)) pa_nil)) (by rfl))
  (pss_cons (ps_setLc (i := 5) (own := [("character", 11)]) (g := gName 11) (tt := tYes) rfl sc_read_request.nd rfl rfl (sw_true rfl rfl rfl (by decide +kernel)) (pi_str (pe_ix (ix_listK (K := K)) (pv 2) pe_int (fun _ _ => rfl))) (blkOk_by (by kernel_rfl)) (fun _ _ _ _ _ => (pg_name (i := 11) sc_read_request.nd rfl (Or.inl rfl))) (fun _ _ _ _ _ => pts_nil) (fun _ _ _ _ _ => (pe_m1 PySem.F.slot_str_find PySem.F.type_str_find mt_find (pv 1) (pv 11))))
  (pss_cons (ps_set (i := 6) sc_read_request.nd rfl (Or.inl rfl) (pe_c (c_read_number T) hr (by decide) rfl (pa_cons (pe_ix (ix_listK (K := K)) (pv 2) pe_int (fun _ _ => rfl)) (pa_cons pe_int (pa_cons (C8.pe_gc rfl T.g_MOST_ANSWER) pa_nil)))))
  (pss_cons (ps_set (i := 7) sc_read_request.nd rfl (Or.inl rfl) (pe_c (c_read_number T) hr (by decide) rfl (pa_cons (pe_ix (ix_listK (K := K)) (pv 2) pe_int (fun _ _ => rfl)) (pa_cons pe_int (pa_cons (C8.pe_gc rfl T.g_GREATEST_SEED) pa_nil)))))
  (pss_cons (ps_set (i := 8) sc_read_request.nd rfl (Or.inl rfl) (pe_c (c_read_number T) hr (by decide) rfl (pa_cons (pe_ix (ix_listK (K := K)) (pv 2) pe_int (fun _ _ => rfl)) (pa_cons pe_int (pa_cons (C8.pe_gc rfl T.g_MOST_COPIES) pa_nil)))))
  (pss_cons (ps_try2 (C1 := cXA K) (C2 := cXR K) (tb := fun W => tSeq (tAsg (tCall (sp__read_word K) [] W (tCons (tOp (rIxL K) (tVar 2) (tC (.int 7))) tNil)) (gName 9)) (tAsg (tMakeK (cR K) 3 4 (sp_Request___init__ K) (fun vs zs => vs ++ zs) W (tCons (tVar 3) (tCons (tVar 5) (tCons (tVar 6) tNil))) (tCons (tVar 4) (tCons (tVar 7) (tCons (tVar 8) (tCons (tVar 9) tNil))))) (gName 10))) rfl rfl rfl T.g_XA rfl T.g_XR (fun W pn xe tk _ => (pss_cons (ps_set (i := 9) sc_read_request.nd rfl (Or.inl rfl) (by exact (pe_cx (c__read_word T) hr (by decide) rfl (passes_call tk (fun _ _ _ _ h => h)) (pa_cons (pe_ix (ix_listK (K := K)) (pv 2) pe_int (fun _ _ => rfl)) pa_nil))))
  (pss_one (ps_set (i := 10) sc_read_request.nd rfl (Or.inl rfl) (by exact (pe_mkx T.r_mk (c_Request___init__ T) hr (by decide) rfl T.g_Request (passes_call tk (fun _ _ _ _ h => h)) (pa_cons (pv 3) (pa_cons (pv 5) (pa_cons (pv 6) pa_nil))) (pk_cons (pv 4) (pk_cons (pv 7) (pk_cons (pv 8) (pk_cons (pv 9) pk_nil)))))))))) (fun _ _ _ => (pss_one (ps_ret pe_non))))
  (pss_one (ps_ret (pe_ifExp (PW.pt (pw_and (pt_val (pe_mc (c_Request_fits T) hr (by decide) T.r_cls T.r_m_fits (pv 10) (pa_cons (pe_callB call_len_str rfl T.n_len bt_len (pa_cons (pv 1) pa_nil)) pa_nil))) (pw_and1 (pt_val (pe_mp (c_Request_possible T) hr (by decide) T.r_cls T.r_poss (pv 10) rfl))))) (pv 10) pe_non)))))))))))), ?_⟩
    rcases h with ⟨v, Ty, chars, rfl, hty, hk, k⟩ | ⟨line, chars, rfl, hw, hz, kN, kS⟩
    · exact ⟨_, rfl, _, _, _, _, false, rfl, .ty _, hty, hk, _, rfl, iteT k⟩
    refine ⟨_, rfl, _, _, _, _, true, rfl, .ty _, TyN.tyX (.str (S line)), kit_ty (by decide +kernel), _, rfl, iteF ?_⟩
    refine ⟨_, rfl, ⟨_, rfl⟩, _, _, rfl, rfl, rfl, by rw [SX.S_len]; exact sl_of (by omega), fun Wz hWz => ?_⟩
    rw [split_sp]
    obtain ⟨hpl, hpz⟩ := spl_len 32 line []
    have eL : readL line chars = match TL.spl [32] 0 [] line with
      | [w0, w1, w2, w3, w4, w5, w6, w7] => if w0 = [97, 115, 107] then readBody w1 w2 w3 w4 w5 w6 w7 chars else none
      | _ => none := rfl
    have e1 := Ext.upd (o := .lst (((TL.spl [32] 0 [] line).map S).map V.str)) hWz
    have hW1 : (upd H Wz (.lst (((TL.spl [32] 0 [] line).map S).map V.str))) Wz = some (.lst (((TL.spl [32] 0 [] line).map S).map V.str)) := upd_same
    revert hpl hpz eL e1 hW1
    generalize TL.spl [32] 0 [] line = ps
    generalize upd H Wz (.lst ((ps.map S).map V.str)) = H1
    intro hpl hpz eL e1 hW1
    have hlW : ((ps.map S).map V.str).length = ps.length := by rw [List.length_map, List.length_map]
    have hneq : (!decide (V.int (((ps.map S).map V.str).length : Nat) = V.int 8)) = !decide (ps.length = 8) := by
      rw [hlW]
      congr 1
      rw [decide_eq_decide]
      constructor
      · intro h
        have := V.int.inj h
        omega
      · intro h
        rw [h]
        rfl
    refine ⟨_, rfl, _, _, rfl, .inl (SqL.of hW1), rfl, _, rfl, ?_⟩
    rw [hneq]
    by_cases h8 : ps.length = 8
    rotate_left
    · rw [decide_eq_false h8]
      refine iteT (iteT (kN ?_ _ e1))
      rw [eL]
      split
      · exact absurd rfl h8
      · rfl
    rw [decide_eq_true h8]
    obtain ⟨w0, w1, w2, w3, w4, w5, w6, w7, rfl⟩ := len3 h8
    have z0 := hpz w0 (by simp)
    have z1 := hpz w1 (by simp)
    have z2 := hpz w2 (by simp)
    have z3 := hpz w3 (by simp)
    have z4 := hpz w4 (by simp)
    have z5 := hpz w5 (by simp)
    have z6 := hpz w6 (by simp)
    have z7 := hpz w7 (by simp)
    rw [List.length_nil, Nat.zero_add] at z0 z1 z2 z3 z4 z5 z6 z7
    have eL : readL line chars = if w0 = [97, 115, 107] then readBody w1 w2 w3 w4 w5 w6 w7 chars else none := eL
    refine iteF ⟨_, rfl, _, _, _, _, rfl, rfl, SqL.of (hW1), atI_nat (j := 0) rfl, rfl, _, rfl, ?_⟩
    have ask : (Str.ofString "ask" : Str) = S [97, 115, 107] := by rw [S_ofString]; rfl
    rw [dec_S ask]
    by_cases h0 : w0 = [97, 115, 107]
    rotate_left
    · rw [decide_eq_false h0]
      refine iteT (kN ?_ _ e1)
      rw [eL, if_neg h0]
    rw [decide_eq_true h0]
    rw [if_pos h0] at eL
    refine iteF ⟨_, rfl, _, _, _, _, rfl, rfl, SqL.of (hW1), atI_nat (j := 1) rfl, _, rfl, _, _, _, _, rfl, rfl, SqL.of (hW1), atI_nat (j := 4) rfl, _, _, rfl, ?_⟩
    refine ⟨_, rfl, _, _, _, _, rfl, rfl, SqL.of (hW1), atI_nat (j := 2) rfl, _, rfl, fun D hD => lcSy (fun c => V.int (posI c chars)) hD (by rw [SX.S_len]; exact sl_lt (by omega)) (fun c H' _ e Q1 k1 => ⟨rfl, _, rfl, ⟨_, rfl⟩, _, rfl, _, _, rfl, rfl, ?_⟩) (fun H2 e2 hl2 => ?_)⟩
    · rw [sgn, find_pos]
      exact k1 _ Ext.rfl'
    have hT2 : H2 D = some (.lst ((w2.map fun c => posI c chars).map V.int)) := by
      rw [hl2, List.map_map]
      rfl
    refine ⟨_, rfl, _, _, _, _, rfl, rfl, SqL.of (e2 _ _ hW1), atI_nat (j := 3) rfl, w3, 1, 16, rfl, by omega, by decide, by decide, by decide, fun H3 e3 => ?_⟩
    have e23 := e2.trans e3
    refine ⟨_, rfl, _, _, _, _, rfl, rfl, SqL.of (e23 _ _ hW1), atI_nat (j := 5) rfl, w5, 0, 9999, rfl, by omega, by decide, by decide, by decide, fun H4 e4 => ?_⟩
    have e24 := e23.trans e4
    refine ⟨_, rfl, _, _, _, _, rfl, rfl, SqL.of (e24 _ _ hW1), atI_nat (j := 6) rfl, w6, 1, 4, rfl, by omega, by decide, by decide, by decide, fun H5 e5 => ?_⟩
    have e25 := e24.trans e5
    refine ⟨_, rfl, _, _, _, _, rfl, rfl, SqL.of (e25 _ _ hW1), atI_nat (j := 7) rfl, w7, rfl, by omega, fun hn d H' e => ⟨T.x_A.exm, kN ?_ _ ((e1.trans e25).trans e)⟩, fun plan hp v H6 e6 hP => ?_⟩
    · rw [eL]
      unfold readBody
      rw [hn]
    have e26 := e25.trans e6
    have hT6 := (e3.trans (e4.trans (e5.trans e6))) _ _ hT2
    have eB : readL line chars = match readN w3 1 16, readN w5 0 9999, readN w6 1 4 with
      | some m, some s, some c =>
        if reqOk (S w1) (w2.map fun c => posI c chars) (some m) (S w4) (some s) (some c) = true ∧ fitsB ⟨S w1, w2.map fun c => posI c chars, m, S w4, s, c, plan⟩ chars.length = true ∧ possP m plan = true then some ⟨S w1, w2.map fun c => posI c chars, m, S w4, s, c, plan⟩ else none
      | _, _, _ => none := by
      rw [eL]
      unfold readBody
      rw [hp]
    generalize readN w3 1 16 = om at eB
    generalize readN w5 0 9999 = os at eB
    generalize readN w6 1 4 = oc at eB
    have hTl : (w2.map fun c => posI c chars).length ≤ 40000 := by rw [List.length_map]; omega
    generalize hTx : (w2.map fun c => posI c chars) = tx at eB hT6 hTl
    refine ⟨_, rfl, _, rfl, _, rfl, _, rfl, _, rfl, _, rfl, _, rfl, rfl, rfl, fun x dx hx hdx hne => ?_⟩
    have eX : Ext H6 (upd (upd H6 dx (.own x)) x (.ins (cR K) dx [])) := (Ext.upd hdx).trans (Ext.upd (by rw [upd_ne (Ne.symm hne)]; exact hx))
    refine ⟨x, D, dx, S w1, S w4, tx, om, os, oc, v, plan, rfl, upd_same, (SqL.of hT6).ext eX, by rw [SX.S_len]; omega, by omega, hP.ext eX, fun hn d H' e => ⟨T.x_R.exm, kN ?_ _ ((e1.trans e26).trans (eX.trans e))⟩, fun m s c hok hm hs hc H7 b7 hR => ⟨rfl, ?_⟩⟩
    · rw [eB]
      split
      · rw [if_neg]
        rintro ⟨z, _⟩
        rw [hn] at z
        cases z
      · rfl
    have e67 : Ext H6 H7 := fun b o hb => b7 b o (eX b o hb) (ne_of_none hb hx)
    have e07 := (e1.trans e26).trans e67
    subst hm hs hc
    have eB : readL line chars = if reqOk (S w1) tx (some m) (S w4) (some s) (some c) = true ∧ fitsB ⟨S w1, tx, m, S w4, s, c, plan⟩ chars.length = true ∧ possP m plan = true then some ⟨S w1, tx, m, S w4, s, c, plan⟩ else none := eB
    have htx16 : tx.length ≤ 16 := by
      unfold reqOk at hok
      rw [Bool.and_eq_true, Bool.and_eq_true] at hok
      have h2 := hok.2.1
      unfold isText at h2
      rw [Bool.and_eq_true, lenIn_iff] at h2
      have := h2.1.2
      omega
    obtain ⟨dx2, pt, av, hx7, hT7, hP7⟩ := id hR
    refine ⟨_, rfl, x, dx2, _, rfl, hx7, lkR_fits, _, rfl, _, rfl, by rw [SX.S_len]; exact sl_of (by omega), x, _, _, rfl, hR, by show tx.length ≤ 1000; omega, fun H8 e8 => ⟨_, rfl, ?_⟩⟩
    rw [SX.S_len]
    refine ite2 (fun hf => ?_) (fun hf => iteF (kN ?_ _ (e07.trans e8)))
    · refine ⟨_, rfl, x, dx2, _, rfl, e8 _ _ hx7, x, _, rfl, hR.ext e8, _, rfl, ?_⟩
      refine ite2 (fun hp2 => ?_) (fun hp2 => ?_)
      · refine ⟨_, rfl, kS _ ?_ x _ (e07.trans e8) (hR.ext e8)⟩
        rw [eB, if_pos ⟨hok, hf, hp2⟩]
      · refine kN ?_ _ (e07.trans e8)
        rw [eB, if_neg (fun z => hp2 z.2.2)]
    · rw [eB, if_neg (fun z => hf z.2.1)]
theorem c_read_request (T : Txt K mg) : Cal P w K mg base 9 "read_request" (sp_read_request K) := by
  obtain ⟨fd, F, G⟩ := f_read_request (P := P) (w := w) (base := base) T
  exact ⟨_, fd, _, G, T.d_read_request.g, F.kp, F.bindsN (fun _ _ _ _ _ _ us hl => match us, hl with | [_, _], _ => rfl)⟩
end
end K12
namespace K12
open PySem PySem.Spec PyProof.Rows L2 SX
/-! ### a line read: by the program's tests, by the law's -/
structure ReadBy (w1 w2 w3 w4 w5 w6 w7 chars : List Nat) (d : ReqD) (plan : Plan) (m s c : Int) : Prop where
  rp : readPlan w7 = some plan
  most : readN w3 1 16 = some m
  seed : readN w5 0 9999 = some s
  cop : readN w6 1 4 = some c
  ok : reqOk (S w1) (w2.map fun c => posI c chars) (some m) (S w4) (some s) (some c) = true
  fit : fitsB ⟨S w1, w2.map fun c => posI c chars, m, S w4, s, c, plan⟩ chars.length = true
  poss : possP m plan = true
  eq : d = ⟨S w1, w2.map fun c => posI c chars, m, S w4, s, c, plan⟩
section
variable {w1 w2 w3 w4 w5 w6 w7 chars : List Nat}
theorem readBody_by {d : ReqD} (h : readBody w1 w2 w3 w4 w5 w6 w7 chars = some d) : ∃ plan m s c, ReadBy w1 w2 w3 w4 w5 w6 w7 chars d plan m s c := by
  unfold readBody at h
  cases hp : readPlan w7 with
  | none =>
    rw [hp] at h
    cases h
  | some plan =>
    rw [hp] at h
    cases h1 : readN w3 1 16 with
    | none =>
      rw [h1] at h
      cases h
    | some m =>
      cases h2 : readN w5 0 9999 with
      | none =>
        rw [h1, h2] at h
        cases h
      | some s =>
        cases h3 : readN w6 1 4 with
        | none =>
          rw [h1, h2, h3] at h
          cases h
        | some c =>
          rw [h1, h2, h3] at h
          have h : (if reqOk (S w1) (w2.map fun c => posI c chars) (some m) (S w4) (some s) (some c) = true ∧ fitsB ⟨S w1, w2.map fun c => posI c chars, m, S w4, s, c, plan⟩ chars.length = true ∧ possP m plan = true then some (⟨S w1, w2.map fun c => posI c chars, m, S w4, s, c, plan⟩ : ReqD) else none) = some d := h
          by_cases hc : reqOk (S w1) (w2.map fun c => posI c chars) (some m) (S w4) (some s) (some c) = true ∧ fitsB ⟨S w1, w2.map fun c => posI c chars, m, S w4, s, c, plan⟩ chars.length = true ∧ possP m plan = true
          · rw [if_pos hc] at h
            exact ⟨plan, m, s, c, hp, h1, h2, h3, hc.1, hc.2.1, hc.2.2, (Option.some.inj h).symm⟩
          · rw [if_neg hc] at h
            cases h
theorem readBody_of {d : ReqD} {plan : Plan} {m s c : Int} (h : ReadBy w1 w2 w3 w4 w5 w6 w7 chars d plan m s c) : readBody w1 w2 w3 w4 w5 w6 w7 chars = some d := by
  unfold readBody
  rw [h.rp, h.most, h.seed, h.cop]
  show (if _ then some _ else none) = _
  rw [if_pos ⟨h.ok, h.fit, h.poss⟩, h.eq]
theorem readBody_none (h : ∀ d plan m s c, ¬ ReadBy w1 w2 w3 w4 w5 w6 w7 chars d plan m s c) : readBody w1 w2 w3 w4 w5 w6 w7 chars = none := by
  cases e : readBody w1 w2 w3 w4 w5 w6 w7 chars with
  | none => rfl
  | some d =>
    obtain ⟨plan, m, s, c, hb⟩ := readBody_by e
    exact absurd hb (h d plan m s c)
theorem reqOk_iff {name : Str} {text : List Int} {m s c : Int} {knob : Str} : reqOk name text (some m) knob (some s) (some c) = true ↔ isName name = true ∧ isText text = true ∧ isNum (some m) 1 16 = true ∧ isKnob knob = true ∧ isNum (some s) 0 9999 = true ∧ isNum (some c) 1 4 = true := by
  unfold reqOk
  rw [Bool.and_eq_true, Bool.and_eq_true, Bool.and_eq_true, Bool.and_eq_true, Bool.and_eq_true]
theorem readN_rg {w : List Nat} {lo hi n : Int} (h : readN w lo hi = some n) : isNum (some n) lo hi = true := by
  unfold readN at h
  by_cases hc : canonW w = true ∧ lo ≤ (PySem.NumText.digitsVal w : Nat) ∧ ((PySem.NumText.digitsVal w : Nat) : Int) ≤ hi
  · rw [if_pos hc] at h
    cases h
    exact isNum_iff.mpr hc.2
  · rw [if_neg hc] at h
    cases h
/-- the signs of the text are tokens -/
def tokC (chars : List Nat) (c : Nat) : Bool := decide (c ∈ chars.drop 1)
theorem posI_tok {chars : List Nat} (hnd : chars.Nodup) (hl : chars.length ≤ 6) {c : Nat} : tokC chars c = true ↔ 1 ≤ posI c chars ∧ posI c chars ≤ 5 ∧ posI c chars < (chars.length : Int) := by
  unfold tokC
  rw [decide_eq_true_eq]
  cases chars with
  | nil => simp [posI, posL]
  | cons a r =>
    have hnd2 := List.nodup_cons.mp hnd
    show c ∈ r ↔ _
    unfold posI posL
    by_cases e : a = c
    · rw [if_pos e]
      constructor
      · intro h
        rw [e] at hnd2
        exact absurd h hnd2.1
      · rintro ⟨h, _⟩
        exact absurd h (by decide)
    · rw [if_neg e]
      cases hp : posL c r with
      | none =>
        constructor
        · intro h
          exact absurd h (posL_none hp)
        · rintro ⟨h, _⟩
          exact absurd h (by decide)
      | some i =>
        have h1 := posL_lt hp
        have h2 := List.mem_of_getElem? (posL_some hp).1
        simp only [List.length_cons] at hl
        constructor
        · intro _
          refine ⟨?_, ?_, ?_⟩
          · show (1 : Int) ≤ ((i + 1 : Nat) : Int)
            omega
          · show ((i + 1 : Nat) : Int) ≤ 5
            omega
          · show ((i + 1 : Nat) : Int) < (((a :: r).length : Nat) : Int)
            simp only [List.length_cons]
            omega
        · intro _
          exact h2
theorem text_tok {chars : List Nat} (hnd : chars.Nodup) (hl : chars.length ≤ 6) (w : List Nat) : (lenIn w.length 1 16 && w.all (tokC chars)) = (isText (w.map fun c => posI c chars) && (w.map fun c => posI c chars).all fun t => decide (t < (chars.length : Int))) := by
  unfold isText
  rw [List.length_map, Bool.and_assoc, Bool.eq_iff_iff, Bool.and_eq_true, Bool.and_eq_true, Bool.and_eq_true]
  refine and_congr_right fun _ => ?_
  rw [List.all_eq_true, List.all_eq_true, List.all_eq_true]
  constructor
  · intro h
    refine ⟨fun t ht => ?_, fun t ht => ?_⟩
    · obtain ⟨c, hc, rfl⟩ := List.mem_map.mp ht
      have := (posI_tok hnd hl).mp (h c hc)
      exact isNum_iff.mpr ⟨this.1, this.2.1⟩
    · obtain ⟨c, hc, rfl⟩ := List.mem_map.mp ht
      exact decide_eq_true ((posI_tok hnd hl).mp (h c hc)).2.2
  · rintro ⟨h1, h2⟩ c hc
    have h3 := isNum_iff.mp (h1 _ (List.mem_map.mpr ⟨c, hc, rfl⟩))
    have h4 := of_decide_eq_true (h2 _ (List.mem_map.mpr ⟨c, hc, rfl⟩))
    exact (posI_tok hnd hl).mpr ⟨h3.1, h3.2, h4⟩
/-- all of it, in the law's order -/
structure LawBy (w1 w2 w3 w4 w5 w6 w7 chars : List Nat) (d : ReqD) (plan : Plan) (m s c : Int) : Prop where
  name : isName (S w1) = true
  text : (lenIn w2.length 1 16 && w2.all (tokC chars)) = true
  most : readN w3 1 16 = some m
  seed : readN w5 0 9999 = some s
  cop : readN w6 1 4 = some c
  knob : isKnob (S w4) = true
  rp : readPlan w7 = some plan
  fit : fitsP chars.length plan = true
  poss : possP m plan = true
  eq : d = ⟨S w1, w2.map fun c => posI c chars, m, S w4, s, c, plan⟩
theorem law_by {chars : List Nat} (hnd : chars.Nodup) (hl : chars.length ≤ 6) {d : ReqD} {plan : Plan} {m s c : Int} : LawBy w1 w2 w3 w4 w5 w6 w7 chars d plan m s c ↔ ReadBy w1 w2 w3 w4 w5 w6 w7 chars d plan m s c := by
  have ht := text_tok hnd hl w2
  constructor
  · intro h
    have h2 := h.text
    rw [ht, Bool.and_eq_true] at h2
    refine ⟨h.rp, h.most, h.seed, h.cop, reqOk_iff.mpr ⟨h.name, h2.1, readN_rg h.most, h.knob, readN_rg h.seed, readN_rg h.cop⟩, ?_, h.poss, h.eq⟩
    unfold fitsB
    rw [Bool.and_eq_true]
    exact ⟨h2.2, h.fit⟩
  · intro h
    have h1 := reqOk_iff.mp h.ok
    have h2 := h.fit
    unfold fitsB at h2
    rw [Bool.and_eq_true] at h2
    refine ⟨h1.1, ?_, h.most, h.seed, h.cop, h1.2.2.2.1, h.rp, h2.2, h.poss, h.eq⟩
    rw [ht, Bool.and_eq_true]
    exact ⟨h1.2.1, h2.1⟩
end
end K12
namespace K12
open PySem PySem.Spec PyProof.Rows L2 SX
/-! ### the law's values -/
def PlanV (K : PySem.W.Frag) (H : Hp) (v : V) : Plan → Prop
  | none => v = .non
  | some (rows, cl) => ∃ q a c, v = .ref q ∧ SqT K H q [.ref a, .ref c] ∧ TabL K H a rows ∧ SqL K H c (cl.map V.int) ∧ GoodT rows ∧ GoodC rows.length cl
theorem PlanV.ext {K : PySem.W.Frag} {H H' : Hp} {v : V} {p : Plan} (h : PlanV K H v p) (e : Ext H H') : PlanV K H' v p := by
  cases p with
  | none => exact h
  | some q =>
    obtain ⟨q, a, c, h1, h2, h3, h4, h5⟩ := h
    exact ⟨q, a, c, h1, h2.ext e, h3.ext e, h4.ext e, h5⟩
def valV (d : ReqD) (t : Addr) (pv : V) : List V := [.str d.name, .ref t, .int d.most, .str d.knob, .int d.seed, .int d.copies, pv]
def ValAt (K : PySem.W.Frag) (H : Hp) (p : Addr) (d : ReqD) : Prop := ∃ t pv, H p = some (.lst (valV d t pv)) ∧ SqL K H t (d.text.map V.int) ∧ PlanV K H pv d.plan
theorem ValAt.ext {K : PySem.W.Frag} {H H' : Hp} {p : Addr} {d : ReqD} (h : ValAt K H p d) (e : Ext H H') : ValAt K H' p d := by
  obtain ⟨t, pv, h1, h2, h3⟩ := h
  exact ⟨t, pv, e _ _ h1, h2.ext e, h3.ext e⟩
theorem alpha_in (c : Nat) : decide (c ∈ (Str.ofString "abcdefghijklmnopqrstuvwxyz" : Str).cps.toList) = inRg 97 122 c := by
  have e : (Str.ofString "abcdefghijklmnopqrstuvwxyz" : Str).cps.toList = [97, 98, 99, 100, 101, 102, 103, 104, 105, 106, 107, 108, 109, 110, 111, 112, 113, 114, 115, 116, 117, 118, 119, 120, 121, 122] := by decide +kernel
  rw [e]
  unfold inRg
  rw [Bool.eq_iff_iff, Bool.and_eq_true, decide_eq_true_eq, decide_eq_true_eq, decide_eq_true_eq]
  simp only [List.mem_cons, List.not_mem_nil, or_false]
  omega
theorem knob_in (z : Str) : inV (.str z) [.str "best", .str "draw"] = isKnob z := by
  show (("best" == z) || (("draw" == z) || false)) = _
  unfold isKnob
  rw [Bool.or_false, Bool.beq_comm (a := z), Bool.beq_comm (a := z)]
section
variable {P : Program} {w : World} {K : PySem.W.Frag} {mg : Str → Option Value} {base : Heap}
abbrev s__law_read_line : Stmt := top 54
theorem sc__law_read_line : FnScope ["_law_entry_line", "_law_chars", "_law_words", "_law_numbers", "_law_plan", "_law_need_here", "_law_sign"] ["_law_entry_line", "_law_chars"] (defScope s__law_read_line) := ⟨rfl, rfl, rfl, by decide +kernel, rfl, by decide +kernel, by decide +kernel⟩
def sp__law_read_line (K : PySem.W.Frag) : Sp := fun vs H Q _ => (∃ v T chars, vs = [v, .str (S chars)] ∧ TyX K H v T ∧ PySem.W.kitOne K T (.type "str") = some false ∧ ∀ H', Ext H H' → Q .non H') ∨
  ∃ line chars : List Nat, vs = [.str (S line), .str (S chars)] ∧ line.length ≤ 40000 ∧ chars.length ≤ 6 ∧ chars.Nodup ∧ (readL line chars = none → ∀ H', Ext H H' → Q .non H') ∧ (∀ d, readL line chars = some d → ∀ p H', Ext H H' → ValAt K H' p d → Q (.ref p) H')
theorem c__law_read_line (T : Txt K mg) : Cal P w K mg base 3 "_law_read_line" (sp__law_read_line K) := by
  refine T.d__law_read_line.cal sc__law_read_line (fun _ _ _ _ _ _ us hl => match us, hl with | [_, _], _ => rfl) (fun vs H Q E h => ?_) (fun f cdv A outer s H vs Q E hr h => ?_)
  · rcases h with ⟨v, T, chars, rfl, _⟩ | ⟨line, chars, rfl, _⟩ <;> rfl
  · refine ⟨_, (pss_cons (ps_set (i := 2) sc__law_read_line.nd rfl (Or.inl rfl) (pe_ifExp (pt_val (pe_callB (call_isiK' (K := K)) rfl T.n_isinstance bt_isinstance (pa_cons (pv 0) (pa_cons (pe_bltn (v := .ty "str") rfl T.n_str bt_str rfl) pa_nil)))) (pe_split (pv 0) pe_str) (pe_lst pa_nil)))
  (pss_cons (ps_if (PW.pt (pw_or (pt_cmpR op_ne (pe_callB (call_lenK (K := K)) rfl T.n_len bt_len (pa_cons (pv 2) pa_nil)) pe_int (nomark _)) (pw_or (pt_cmpR op_ne (pe_ix (ix_listK (K := K)) (pv 2) pe_int (fun _ _ => rfl)) pe_str (nomark _)) (pw_or (pt_not (pt_chain op_le op_le pe_int (pe_callB call_len_str rfl T.n_len bt_len (pa_cons (pe_ix (ix_listK (K := K)) (pv 2) pe_int (fun _ _ => rfl)) pa_nil)) pe_int)) (pw_or1 (pt_not (pt_chain op_le op_le pe_int (pe_callB call_len_str rfl T.n_len bt_len (pa_cons (pe_ix (ix_listK (K := K)) (pv 2) pe_int (fun _ _ => rfl)) pa_nil)) pe_int))))))) (pss_one (ps_ret pe_non)) pss_nil)
  (pss_cons (ps_if (PW.pt (pw_or (pt_not (pt_val (pe_callB (cr_allK (K := K) rfl) rfl T.n_all bt_all (pa_cons (pe_lc (own := [("_law_sign", 6)]) (g := gName 6) (tt := tYes) rfl sc__law_read_line.nd (pi_str (pe_ix (ix_listK (K := K)) (pv 2) pe_int (fun _ _ => rfl))) (blkOk_by (by kernel_rfl)) (fun _ _ _ _ _ => (pg_name (i := 6) sc__law_read_line.nd rfl (Or.inl rfl))) (fun _ _ _ _ _ => pts_nil) (fun _ _ _ _ _ => (pe_cmpR op_in_sign (pv 6) pe_str rfl))) pa_nil)))) (pw_or1 (pt_not (pt_val (pe_callB (cr_allK (K := K) rfl) rfl T.n_all bt_all (pa_cons (pe_lc (own := [("_law_sign", 6)]) (g := gName 6) (tt := tYes) rfl sc__law_read_line.nd (pi_str (pe_ix (ix_listK (K := K)) (pv 2) pe_int (fun _ _ => rfl))) (blkOk_by (by kernel_rfl)) (fun _ _ _ _ _ => (pg_name (i := 6) sc__law_read_line.nd rfl (Or.inl rfl))) (fun _ _ _ _ _ => pts_nil) (fun _ _ _ _ _ => (pe_cmpR op_in_sign (pv 6) (pe_slice sl_str (pv 1) (po_some pe_int) po_none) rfl))) pa_nil))))))) (pss_one (ps_ret pe_non)) pss_nil)
  (pss_cons (ps_set (i := 3) sc__law_read_line.nd rfl (Or.inl rfl) (pe_lst (pa_cons (pe_c (c__law_read T) hr (by decide) rfl (pa_cons (pe_ix (ix_listK (K := K)) (pv 2) pe_int (fun _ _ => rfl)) (pa_cons pe_int (pa_cons pe_int pa_nil)))) (pa_cons (pe_c (c__law_read T) hr (by decide) rfl (pa_cons (pe_ix (ix_listK (K := K)) (pv 2) pe_int (fun _ _ => rfl)) (pa_cons pe_int (pa_cons pe_int pa_nil)))) (pa_cons (pe_c (c__law_read T) hr (by decide) rfl (pa_cons (pe_ix (ix_listK (K := K)) (pv 2) pe_int (fun _ _ => rfl)) (pa_cons pe_int (pa_cons pe_int pa_nil)))) pa_nil)))))
  (pss_cons (ps_if (PW.pt (pw_or (pt_cmpR (op_in_seqK (K := K)) pe_non (pv 3) rfl) (pw_or1 (pt_cmpR (op_notIn_seqK (K := K)) (pe_ix (ix_listK (K := K)) (pv 2) pe_int (fun _ _ => rfl)) (pe_tup (pa_cons pe_str (pa_cons pe_str pa_nil))) rfl)))) (pss_one (ps_ret pe_non)) pss_nil)
  (pss_cons (ps_set (i := 4) sc__law_read_line.nd rfl (Or.inl rfl) (pe_ifExp (pt_cmpR op_ne (pe_ix (ix_listK (K := K)) (pv 2) pe_int (fun _ _ => rfl)) pe_str (nomark _)) (pe_c (c__law_read_word T) hr (by decide) rfl (pa_cons (pe_ix (ix_listK (K := K)) (pv 2) pe_int (fun _ _ => rfl)) pa_nil)) pe_non))
  (pss_cons (ps_if (PW.pt (pw_and (pt_cmpR op_ne (pe_ix (ix_listK (K := K)) (pv 2) pe_int (fun _ _ => rfl)) pe_str (nomark _)) (pw_and1 (PW.pt (pw_or (pt_cmpR op_isN (pv 4) pe_non (nomark _)) (pw_or1 (pt_cmpR op_ne (pe_op op_add (pe_callB (call_lenK (K := K)) rfl T.n_len bt_len (pa_cons (pe_ix (ix_listK (K := K)) (pe_ix (ix_tupK (K := K)) (pv 4) pe_int (fun _ _ => rfl)) pe_int (fun _ _ => rfl)) pa_nil)) pe_int) (pe_callB call_len_str rfl T.n_len bt_len (pa_cons (pv 1) pa_nil)) (nomark _)))))))) (pss_one (ps_ret pe_non)) pss_nil)
  (pss_cons (ps_set (i := 5) sc__law_read_line.nd rfl (Or.inl rfl) (pe_ifExp (pt_cmpR op_isN (pv 4) pe_non (nomark _)) pe_int (pe_c (c__law_need T) hr (by decide) rfl (pa_cons (pe_ix (ix_tupK (K := K)) (pv 4) pe_int (fun _ _ => rfl)) (pa_cons (pe_ix (ix_tupK (K := K)) (pv 4) pe_int (fun _ _ => rfl)) (pa_cons pe_int pa_nil))))))
  (pss_cons (ps_if (PW.pt (pw_or (pt_cmpR op_isN (pv 5) pe_non (nomark _)) (pw_or1 (pt_cmpR op_gt (pv 5) (pe_ix (ix_listK (K := K)) (pv 3) pe_int (fun _ _ => rfl)) (nomark _))))) (pss_one (ps_ret pe_non)) pss_nil)
  (pss_one (ps_ret (pe_lst (pa_cons (pe_ix (ix_listK (K := K)) (pv 2) pe_int (fun _ _ => rfl)) (pa_cons (pe_lc (own := [("_law_sign", 6)]) (g := gName 6) (tt := tYes) rfl sc__law_read_line.nd (pi_str (pe_ix (ix_listK (K := K)) (pv 2) pe_int (fun _ _ => rfl))) (blkOk_by (by kernel_rfl)) (fun _ _ _ _ _ => (pg_name (i := 6) sc__law_read_line.nd rfl (Or.inl rfl))) (fun _ _ _ _ _ => pts_nil) (fun _ _ _ _ _ => (pe_m1 PySem.F.slot_str_index PySem.F.type_str_index mt_sindex (pv 1) (pv 6)))) (pa_cons (pe_ix (ix_listK (K := K)) (pv 3) pe_int (fun _ _ => rfl)) (pa_cons (pe_ix (ix_listK (K := K)) (pv 2) pe_int (fun _ _ => rfl)) (pa_cons (pe_ix (ix_listK (K := K)) (pv 3) pe_int (fun _ _ => rfl)) (pa_cons (pe_ix (ix_listK (K := K)) (pv 3) pe_int (fun _ _ => rfl)) (pa_cons (pv 4) pa_nil))))))))))))))))))), ?_⟩
    rcases h with ⟨v, Ty, chars, rfl, hty, hk, k⟩ | ⟨line, chars, rfl, hw, hz, hnd, kN, kS⟩
    · refine ⟨_, rfl, _, _, _, _, false, rfl, .ty _, hty, hk, _, rfl, iteF ⟨Nat.zero_le _, fun Wz hWz => ?_⟩⟩
      exact ⟨_, rfl, _, _, rfl, .inl (SqL.of upd_same), rfl, _, rfl, iteT (iteT (k _ (Ext.upd hWz)))⟩
    refine ⟨_, rfl, _, _, _, _, true, rfl, .ty _, TyN.tyX (.str (S line)), kit_ty (by decide +kernel), _, rfl, iteT ?_⟩
    refine ⟨_, rfl, ⟨_, rfl⟩, _, _, rfl, rfl, rfl, by rw [SX.S_len]; exact sl_of (by omega), fun Wz hWz => ?_⟩
    rw [split_sp]
    obtain ⟨hpl, hpz⟩ := spl_len 32 line []
    have eL : readL line chars = match TL.spl [32] 0 [] line with
      | [w0, w1, w2, w3, w4, w5, w6, w7] => if w0 = [97, 115, 107] then readBody w1 w2 w3 w4 w5 w6 w7 chars else none
      | _ => none := rfl
    have e1 := Ext.upd (o := .lst (((TL.spl [32] 0 [] line).map S).map V.str)) hWz
    have hW1 : (upd H Wz (.lst (((TL.spl [32] 0 [] line).map S).map V.str))) Wz = some (.lst (((TL.spl [32] 0 [] line).map S).map V.str)) := upd_same
    revert hpl hpz eL e1 hW1
    generalize TL.spl [32] 0 [] line = ps
    generalize upd H Wz (.lst ((ps.map S).map V.str)) = H1
    intro hpl hpz eL e1 hW1
    have hlW : ((ps.map S).map V.str).length = ps.length := by rw [List.length_map, List.length_map]
    have hneq : (!decide (V.int (((ps.map S).map V.str).length : Nat) = V.int 8)) = !decide (ps.length = 8) := by
      rw [hlW]
      congr 1
      rw [decide_eq_decide]
      constructor
      · intro h
        have := V.int.inj h
        omega
      · intro h
        rw [h]
        rfl
    refine ⟨_, rfl, _, _, rfl, .inl (SqL.of hW1), rfl, _, rfl, ?_⟩
    rw [hneq]
    by_cases h8 : ps.length = 8
    rotate_left
    · rw [decide_eq_false h8]
      refine iteT (iteT (kN ?_ _ e1))
      rw [eL]
      split
      · exact absurd rfl h8
      · rfl
    rw [decide_eq_true h8]
    obtain ⟨w0, w1, w2, w3, w4, w5, w6, w7, rfl⟩ := len3 h8
    have z0 := hpz w0 (by simp)
    have z1 := hpz w1 (by simp)
    have z2 := hpz w2 (by simp)
    have z3 := hpz w3 (by simp)
    have z4 := hpz w4 (by simp)
    have z5 := hpz w5 (by simp)
    have z6 := hpz w6 (by simp)
    have z7 := hpz w7 (by simp)
    rw [List.length_nil, Nat.zero_add] at z0 z1 z2 z3 z4 z5 z6 z7
    have eL : readL line chars = if w0 = [97, 115, 107] then readBody w1 w2 w3 w4 w5 w6 w7 chars else none := eL
    have fsl : ∀ l : List Nat, l.length ≤ line.length → (S l).length ≤ sizeLine := fun l h => by rw [SX.S_len]; exact sl_of (by omega)
    have ask : (Str.ofString "ask" : Str) = S [97, 115, 107] := by rw [S_ofString]; rfl
    refine iteF (or_val (fun P q => ⟨_, rfl, _, _, _, _, rfl, rfl, SqL.of (hW1), atI_nat (j := 0) rfl, rfl, _, rfl, q⟩) (fun P q => or_val (fun P q => chainI (fun P q => ⟨_, rfl, _, _, _, _, rfl, rfl, SqL.of (hW1), atI_nat (j := 1) rfl, _, rfl, fsl _ z1, q⟩) ⟨_, rfl, q⟩) (fun P q => chainI (fun P q => ⟨_, rfl, _, _, _, _, rfl, rfl, SqL.of (hW1), atI_nat (j := 2) rfl, _, rfl, fsl _ z2, q⟩) ⟨_, rfl, q⟩) q) ?_)
    rw [dec_S ask, SX.S_len, SX.S_len]
    have l1 : (decide ((1 : Int) ≤ ((w1.length : Nat) : Int)) && decide (((w1.length : Nat) : Int) ≤ 8)) = lenIn w1.length 1 8 := rfl
    have l2 : (decide ((1 : Int) ≤ ((w2.length : Nat) : Int)) && decide (((w2.length : Nat) : Int) ≤ 16)) = lenIn w2.length 1 16 := rfl
    rw [l1, l2]
    by_cases h0 : w0 = [97, 115, 107]
    rotate_left
    · rw [decide_eq_false h0]
      refine iteT (kN ?_ _ e1)
      rw [eL, if_neg h0]
    rw [decide_eq_true h0, Bool.not_true, Bool.false_or]
    rw [if_pos h0] at eL
    have noB : (∀ d plan m s c, LawBy w1 w2 w3 w4 w5 w6 w7 chars d plan m s c → False) → ∀ H', Ext H H' → Q .non H' := fun hno => kN (by
      rw [eL]
      exact readBody_none fun d plan m s c z => hno d plan m s c ((law_by hnd hz).mpr z))
    have yesB : ∀ d plan m s c, LawBy w1 w2 w3 w4 w5 w6 w7 chars d plan m s c → readL line chars = some d := fun d plan m s c z => by
      rw [eL]
      exact readBody_of ((law_by hnd hz).mp z)
    have nm1 : isName (S w1) = (lenIn w1.length 1 8 && w1.all (inRg 97 122)) := by
      show (lenIn (S w1).length 1 8 && _) = _
      rw [SX.S_len]
    cases hn1 : lenIn w1.length 1 8 with
    | false =>
      refine iteT (noB (fun d plan m s c z => ?_) _ e1)
      have := z.name
      rw [nm1, hn1] at this
      cases this
    | true =>
    cases hn2 : lenIn w2.length 1 16 with
    | false =>
      refine iteT (noB (fun d plan m s c z => ?_) _ e1)
      have := z.text
      rw [hn2] at this
      cases this
    | true =>
    rw [hn1, Bool.true_and] at nm1
    have hqq : ∀ l, (S l).cps.toList = l := fun _ => rfl
    refine iteF ⟨_, rfl, _, _, _, _, rfl, rfl, SqL.of (hW1), atI_nat (j := 1) rfl, _, rfl, fun D hD => lcSy (fun c => V.bl (inRg 97 122 c)) hD (by rw [SX.S_len]; exact sl_lt (by omega)) (fun c H' _ e Q1 k1 => ⟨rfl, _, rfl, c, _, rfl, rfl, ?_⟩) (fun H2 e2 hl2 => ?_)⟩
    · rw [alpha_in]
      exact k1 _ Ext.rfl'
    rw [hqq] at hl2
    refine ⟨D, w1.map (inRg 97 122), rfl, SqL.of (by rw [hl2, bls]), ?_⟩
    rw [all_id, ← nm1]
    refine ⟨_, rfl, ?_⟩
    cases hname : isName (S w1) with
    | false =>
      refine iteT (iteT (noB (fun d plan m s c z => ?_) _ (e1.trans e2)))
      have := z.name
      rw [hname] at this
      cases this
    | true =>
    refine iteF ⟨_, rfl, _, _, _, _, rfl, rfl, SqL.of (e2 _ _ hW1), atI_nat (j := 2) rfl, _, rfl, fun D2 hD2 => lcSy (fun c => V.bl (tokC chars c)) hD2 (by rw [SX.S_len]; exact sl_lt (by omega)) (fun c H' _ e Q1 k1 => ⟨rfl, _, rfl, _, rfl, _, rfl, _, rfl, ?_, c, _, rfl, rfl, ?_⟩) (fun H3 e3 hl3 => ?_)⟩
    · rw [SX.S_len]
      exact sl_of (by omega)
    · rw [cut_from1]
      exact k1 _ Ext.rfl'
    rw [hqq] at hl3
    have e13 := (e1.trans e2).trans e3
    have hW3 := e3 _ _ (e2 _ _ hW1)
    refine ⟨D2, w2.map (tokC chars), rfl, SqL.of (by rw [hl3, bls]), ?_⟩
    rw [all_id]
    refine ⟨_, rfl, ?_⟩
    cases htok : w2.all (tokC chars) with
    | false =>
      refine iteT (noB (fun d plan m s c z => ?_) _ e13)
      have := z.text
      rw [htok, Bool.and_false] at this
      cases this
    | true =>
    have htext : (lenIn w2.length 1 16 && w2.all (tokC chars)) = true := by rw [hn2, htok]; rfl
    -- the numbers
    refine iteF ⟨_, rfl, _, _, _, _, rfl, rfl, SqL.of (hW3), atI_nat (j := 3) rfl, w3, 1, 16, rfl, by omega, by decide, by decide, by decide, fun H4 e4 => ?_⟩
    refine ⟨_, rfl, _, _, _, _, rfl, rfl, SqL.of (e4 _ _ hW3), atI_nat (j := 5) rfl, w5, 0, 9999, rfl, by omega, by decide, by decide, by decide, fun H5 e5 => ?_⟩
    have e45 := e4.trans e5
    refine ⟨_, rfl, _, _, _, _, rfl, rfl, SqL.of (e45 _ _ hW3), atI_nat (j := 6) rfl, w6, 1, 4, rfl, by omega, by decide, by decide, by decide, fun H6 e6 => ⟨(by show 3 ≤ sizeLine; decide), fun Nz hNz => ?_⟩⟩
    have e7 := Ext.upd (o := .lst [optI (readN w3 1 16), optI (readN w5 0 9999), optI (readN w6 1 4)]) hNz
    have hN7 : (upd H6 Nz (.lst [optI (readN w3 1 16), optI (readN w5 0 9999), optI (readN w6 1 4)])) Nz = some (.lst [optI (readN w3 1 16), optI (readN w5 0 9999), optI (readN w6 1 4)]) := upd_same
    have e17 := e13.trans ((e45.trans e6).trans e7)
    have hW7 := ((e45.trans e6).trans e7) _ _ hW3
    revert e17 hW7 hN7
    generalize upd H6 Nz (.lst [optI (readN w3 1 16), optI (readN w5 0 9999), optI (readN w6 1 4)]) = H7
    intro hN7 e17 hW7
    refine ⟨_, rfl, _, _, rfl, .inl (SqL.of hN7), rfl, by cases readN w3 1 16 <;> cases readN w5 0 9999 <;> cases readN w6 1 4 <;> rfl, _, rfl, ?_⟩
    rw [if_neg Bool.false_ne_true]
    cases hm : readN w3 1 16 with
    | none =>
      refine iteT (iteT (noB (fun d plan m s c z => ?_) _ e17))
      have := z.most
      rw [hm] at this
      cases this
    | some m =>
    cases hs : readN w5 0 9999 with
    | none =>
      refine iteT (iteT (noB (fun d plan m s c z => ?_) _ e17))
      have := z.seed
      rw [hs] at this
      cases this
    | some sd =>
    cases hc : readN w6 1 4 with
    | none =>
      refine iteT (iteT (noB (fun d plan m s c z => ?_) _ e17))
      have := z.cop
      rw [hc] at this
      cases this
    | some cp =>
    rw [hm, hs, hc] at hN7
    refine iteF ⟨_, rfl, _, _, _, _, rfl, rfl, SqL.of (hW7), atI_nat (j := 4) rfl, (by show 2 ≤ sizeLine; decide), fun p hp => ⟨p, _, rfl, .inr (SqT.of upd_same), rfl, rfl, _, rfl, ?_⟩⟩
    have e8 := Ext.upd (o := .tup [.str "best", .str "draw"]) hp
    have e18 := e17.trans e8
    have hW8 := e8 _ _ hW7
    have hN8 := e8 _ _ hN7
    rw [if_pos rfl, knob_in]
    cases hkn : isKnob (S w4) with
    | false =>
      refine iteT (noB (fun d plan m s c z => ?_) _ e18)
      have := z.knob
      rw [hkn] at this
      cases this
    | true =>
    refine iteF ?_
    revert e18 hW8 hN8
    generalize upd H7 p (.tup [.str "best", .str "draw"]) = H8
    intro e18 hW8 hN8
    have hstar : (!decide (V.str (S w7) = V.str (Str.ofString "*"))) = !decide (w7 = [42]) := by rw [dec_S (str1 (s := "*") (c := 42))]
    have hq5 : ∀ k : Nat, k < 3 → True := fun _ _ => True.intro
    have fin : ∀ (pv nv : V) (plan : Plan) (H9 : Hp), Ext H8 H9 → PlanV K H9 pv plan → LawBy w1 w2 w3 w4 w5 w6 w7 chars ⟨S w1, w2.map fun c => posI c chars, m, S w4, sd, cp, plan⟩ plan m sd cp →
        tRet (tLst (tCons (tOp (rIxL K) (tVar 2) (tC (.int 1))) (tCons (tLc (iStr (tOp (rIxL K) (tVar 2) (tC (.int 2)))) (gName 6) tYes (tM1 (fun x xs H Q => ∃ a b i rest, x = V.str a ∧ xs = [V.str b] ∧ PySem.Builtin.Str.occurrences a b 0 a.length 1 = i :: rest ∧ Q (V.int (i : Nat)) H) (tVar 1) (tVar 6)) ([(Str.ofString "_law_sign", 6)].map fun x => x.2))
          (tCons (tOp (rIxL K) (tVar 3) (tC (.int 0))) (tCons (tOp (rIxL K) (tVar 2) (tC (.int 4))) (tCons (tOp (rIxL K) (tVar 3) (tC (.int 1))) (tCons (tOp (rIxL K) (tVar 3) (tC (.int 2))) (tCons (tVar 4) tNil))))))))
          { nx := fun _ H' => Q .non H', rt := Q } [some (.str (S line)), some (.str (S chars)), some (.ref Wz), some (.ref Nz), some pv, some nv, none] H9 := by
      intro pv nv plan H9 e9 hP hL
      have hW9 := e9 _ _ hW8
      have hN9 := e9 _ _ hN8
      refine ⟨_, rfl, _, _, _, _, rfl, rfl, SqL.of (hW9), atI_nat (j := 1) rfl, _, rfl, _, _, _, _, rfl, rfl, SqL.of (hW9), atI_nat (j := 2) rfl, _, rfl, fun D3 hD3 => lcSy (fun c => V.int (posI c chars)) hD3 (by rw [SX.S_len]; exact sl_lt (by omega)) (fun c H' hc2 e Q1 k1 => ⟨rfl, _, rfl, ⟨_, rfl⟩, _, rfl, ?_⟩) (fun H10 e10 hl10 => ?_)⟩
      · have htc := List.all_eq_true.mp htok c hc2
        have hmem : c ∈ chars := List.mem_of_mem_drop (of_decide_eq_true htc)
        obtain ⟨i, hi⟩ := posL_mem hmem
        obtain ⟨rest, hocc⟩ := occ_pos hi
        refine ⟨_, _, i, rest, rfl, rfl, hocc, ?_⟩
        have k2 := k1 _ Ext.rfl'
        unfold posI at k2
        rw [hi] at k2
        exact k2
      · have hW10 := e10 _ _ hW9
        have hN10 := e10 _ _ hN9
        refine ⟨_, rfl, _, _, _, _, rfl, rfl, SqL.of hN10, atI_nat (j := 0) rfl, _, rfl, _, _, _, _, rfl, rfl, SqL.of (hW10), atI_nat (j := 4) rfl, _, rfl, _, _, _, _, rfl, rfl, SqL.of hN10, atI_nat (j := 1) rfl, _, rfl, _, _, _, _, rfl, rfl, SqL.of hN10, atI_nat (j := 2) rfl, _, rfl, (by show 7 ≤ sizeLine; decide), fun p2 hp2 => ?_⟩
        have e11 := Ext.upd (o := .lst [.str (S w1), .ref D3, .int m, .str (S w4), .int sd, .int cp, pv]) hp2
        refine kS _ (yesB _ _ _ _ _ hL) p2 _ (((e18.trans e9).trans e10).trans e11) ⟨D3, pv, upd_same, SqL.of (e11 _ _ ?_), hP.ext (e10.trans e11)⟩
        rw [hl10, List.map_map]
        rfl
    have mkL : ∀ plan, readPlan w7 = some plan → fitsP chars.length plan = true → possP m plan = true → LawBy w1 w2 w3 w4 w5 w6 w7 chars ⟨S w1, w2.map fun c => posI c chars, m, S w4, sd, cp, plan⟩ plan m sd cp := fun plan h1 h2 h3 => ⟨hname, htext, hm, hs, hc, hkn, h1, h2, h3, rfl⟩
    refine ⟨_, rfl, _, _, _, _, rfl, rfl, SqL.of (hW8), atI_nat (j := 7) rfl, rfl, _, rfl, ?_⟩
    rw [hstar]
    by_cases h7 : w7 = [42]
    · rw [decide_eq_true h7]
      refine iteF ⟨_, rfl, _, _, _, _, rfl, rfl, SqL.of (hW8), atI_nat (j := 7) rfl, rfl, _, rfl, ?_⟩
      rw [hstar, decide_eq_true h7]
      refine iteF (iteF ⟨_, rfl, rfl, _, rfl, iteT ?_⟩)
      refine ⟨_, rfl, rfl, _, rfl, iteF ⟨_, rfl, _, rfl, _, _, _, _, rfl, rfl, SqL.of hN8, atI_nat (j := 0) rfl, _, _, rfl, rfl, _, rfl, ?_⟩⟩
      have hm0 : decide (m < 0) = false := by
        have := isNum_iff.mp (readN_rg hm)
        exact decide_eq_false (by omega)
      rw [hm0]
      refine iteF (fin .non (.int 0) none H8 Ext.rfl' rfl (mkL none ?_ rfl rfl))
      unfold readPlan
      rw [if_pos h7]
    · have hrp : readPlan w7 = (readW w7).map some := by
        unfold readPlan
        rw [if_neg h7]
      rw [decide_eq_false h7]
      refine iteT ⟨_, rfl, _, _, _, _, rfl, rfl, SqL.of (hW8), atI_nat (j := 7) rfl, w7, rfl, by omega, fun hn H9 e9 => ?_, fun rows cl hsm q a c H9 e9 hq hTa hCc => ?_⟩
      · have hW9 := e9 _ _ hW8
        refine ⟨_, rfl, _, _, _, _, rfl, rfl, SqL.of (hW9), atI_nat (j := 7) rfl, rfl, _, rfl, ?_⟩
        rw [hstar, decide_eq_false h7]
        refine iteT ⟨_, rfl, rfl, _, rfl, iteT (iteT (noB (fun d plan m s c z => ?_) _ (e18.trans e9)))⟩
        have := z.rp
        rw [hrp, hn] at this
        cases this
      · have hW9 := e9 _ _ hW8
        have hN9 := e9 _ _ hN8
        obtain ⟨hokp, gT, hrows, hcl⟩ := readW_good hsm
        have hrg := endsOf_rg (TL.spl [47] 0 [] w7)
        have hel := endsOf_len (TL.spl [47] 0 [] w7)
        have gl := gT.len
        have hln : ((TL.spl [47] 0 [] w7).map rowR).length = (TL.spl [47] 0 [] w7).length := List.length_map ..
        rw [← hrows] at gT gl hln
        rw [← hln, ← hcl] at hrg
        rw [← hln, ← hcl] at hel
        have gC : GoodC rows.length cl := ⟨hrg.1, hrg.2, by omega⟩
        have hpl2 : readPlan w7 = some (some (rows, cl)) := by rw [hrp, hsm]; rfl
        obtain ⟨xs, hxs, hPr⟩ := id hTa
        cases rows with
        | nil => exact absurd gl.1 (by decide)
        | cons r0 rows' =>
        cases hPr with
        | @cons v0 _ xs' _ h0 ht =>
        obtain ⟨p0, rfl, hp0⟩ := h0
        refine ⟨_, rfl, _, _, _, _, rfl, rfl, SqL.of (hW9), atI_nat (j := 7) rfl, rfl, _, rfl, ?_⟩
        rw [hstar, decide_eq_false h7]
        refine iteT ⟨_, rfl, rfl, _, rfl, iteF ?_⟩
        refine ⟨_, rfl, _, _, _, _, rfl, rfl, hq, at0, _, _, _, _, rfl, rfl, hxs, at0, _, _, rfl, .inl hp0, _, _, rfl, rfl, _, rfl, _, rfl, by rw [SX.S_len]; exact sl_of (by omega), rfl, _, rfl, ?_⟩
        have hfe : (!decide (V.int ((((r0.map optI).length : Nat) : Int) + 1) = V.int (((S chars).length : Nat) : Int))) = !fitsP chars.length (some (r0 :: rows', cl)) := by
          rw [List.length_map, SX.S_len]
          show _ = !decide (autWide (r0 :: rows') = _)
          congr 1
          rw [decide_eq_decide]
          exact ⟨fun h => V.int.inj h, fun h => congrArg V.int h⟩
        refine Eq.mpr (congrArg (fun b : Bool => ite (b = true) _ _) hfe) ?_
        cases hfit : fitsP chars.length (some (r0 :: rows', cl)) with
        | false =>
          refine iteT (noB (fun d plan m s c z => ?_) _ (e18.trans e9))
          have h1 := z.rp
          rw [hpl2] at h1
          have h2 := z.fit
          rw [← Option.some.inj h1, hfit] at h2
          cases h2
        | true =>
        refine iteF ⟨_, rfl, rfl, _, rfl, iteF ?_⟩
        refine ⟨_, rfl, _, _, _, _, rfl, rfl, hq, at0, _, rfl, _, _, _, _, rfl, rfl, hq, atI_nat (j := 1) rfl, a, c, r0 :: rows', cl, rfl, hTa, hCc, gT, gC.len, fun H10 e10 => ?_⟩
        have hN10 := e10 _ _ hN9
        have hPV : PlanV K H10 (.ref q) (some (r0 :: rows', cl)) := ⟨q, a, c, rfl, hq.ext e10, hTa.ext e10, hCc.ext e10, gT, gC⟩
        have hposs : possP m (some (r0 :: rows', cl)) = possN m (needF0 (r0 :: rows') cl) := rfl
        cases hnd2 : needF0 (r0 :: rows') cl with
        | none =>
          refine ⟨_, rfl, rfl, _, rfl, iteT (iteT (noB (fun d plan m2 s c z => ?_) _ ((e18.trans e9).trans e10)))⟩
          have h1 := z.rp
          rw [hpl2] at h1
          have h2 := z.poss
          have h3 := z.most
          rw [hm] at h3
          rw [← Option.some.inj h1, ← Option.some.inj h3, hposs, hnd2] at h2
          cases h2
        | some nd =>
        refine ⟨_, rfl, rfl, _, rfl, iteF ⟨_, rfl, _, rfl, _, _, _, _, rfl, rfl, SqL.of hN10, atI_nat (j := 0) rfl, _, _, rfl, rfl, _, rfl, ?_⟩⟩
        refine ite2 (fun hg => ?_) (fun hg => ?_)
        · refine noB (fun d plan m2 s c z => ?_) _ ((e18.trans e9).trans e10)
          rw [decide_eq_true_eq] at hg
          have h1 := z.rp
          rw [hpl2] at h1
          have h2 := z.poss
          have h3 := z.most
          rw [hm] at h3
          rw [← Option.some.inj h1, ← Option.some.inj h3, hposs, hnd2] at h2
          have h4 : nd ≤ m := of_decide_eq_true h2
          omega
        · rw [decide_eq_true_eq] at hg
          have h4 : nd ≤ m := by omega
          refine fin (.ref q) (.int nd) (some (r0 :: rows', cl)) H10 (e9.trans e10) hPV (mkL _ hpl2 hfit ?_)
          rw [hposs, hnd2]
          exact decide_eq_true h4
end
end K12
namespace K12
open PySem PySem.Spec PyProof.Rows L2 SX
/-! ### _law_like: the same data on both sides -/
theorem pi_zipAK {X : Cx} {K : PySem.W.Frag} {e e2 : Expr} {ta : TA} {p pos tpos : Pos} {elts : List Expr} {kk : Nat} (hg : Gl X "zip") (hm : X.mg "zip" = none) (ha : PA X [e, e2] ta) (hK : X.K = K := by rfl)
    (hs : starEach [e, e2] X.env = (false, eval e X.env) :: starEach [e2] X.env := by rfl) (hpl : (backTo pos (starEach [e2] X.env)).any (·.1) = false := by rfl) :
    PI X (.Tuple elts kk tpos) (.Call (.Name "zip" p) [e, e2] [] pos) (RZ.iZipA K ta) := by
  subst hK
  exact RZ.pi_zipA hg hm ha hs hpl
theorem walk_zipT {K : PySem.W.Frag} {a b : Addr} {xs ys : List V} {n : Nat} (hn : n = min xs.length ys.length) : Walk (RZ.ItzT K a b) n (fun H => SqT K H a xs ∧ SqT K H b ys) (YPair (fun i => xs[i]?) (fun i => ys[i]?)) := by
  subst hn
  refine ⟨fun i _ hi q => ⟨xs, ys, xs[i]'(by omega), ys[i]'(by omega), q.1, q.2, List.getElem?_eq_getElem (by omega), List.getElem?_eq_getElem (by omega)⟩, fun _ q => ⟨xs, ys, q.1, q.2, by omega⟩, fun i H v H' _ q y => ?_⟩
  obtain ⟨T, x, y, h1, h2, h3, h4, h5⟩ := y
  exact ⟨T, x, y, h1, h2, h3, h4 xs q.1, h5 ys q.2⟩
theorem zip_at {α β : Type} : ∀ {xs : List α} {ys : List β} {i : Nat} {x : α} {y : β}, xs[i]? = some x → ys[i]? = some y → (xs.zip ys)[i]? = some (x, y)
  | a :: xs, b :: ys, 0, x, y, h1, h2 => by
    cases h1
    cases h2
    rfl
  | a :: xs, b :: ys, i + 1, x, y, h1, h2 => zip_at (xs := xs) (ys := ys) (i := i) h1 h2
/-- a comprehension over zip: each element is True -/
theorem lcZ {J : It} {G : Hp → Prop} {xs ys : List V} {g : TG} {te : TE} {vs : List Nat} {σ : L2.St} {H1 : Hp} {D : Addr} {Qd : Hp → Prop} (w : Walk J (xs.zip ys).length G (YPair (fun i => xs[i]?) (fun i => ys[i]?))) (hD : H1 D = none) (hz : (xs.zip ys).length < sizeLine) (hG : ∀ H, Ext H1 H → G H)
    (hs : ∀ x y T H, (x, y) ∈ xs.zip ys → Ext H1 H → H T = none → ∀ (Q : VK), (∀ H4, Ext H H4 → Q (.bl true) H4) → g (.ref T) (wipe σ vs) (upd H T (.tup [x, y])) fun σ2 H2 => wipe σ2 vs = wipe σ vs ∧ te σ2 H2 Q)
    (hd : ∀ H', Ext H1 H' → H' D = some (.lst ((xs.zip ys).map fun _ => V.bl true)) → Qd H') :
    ∃ W : Nat → Nat → Hp → Prop, (∃ m, W 0 m (upd H1 D (.lst []))) ∧ ∀ i m H, W i m H →
      (J.stop i H ∧ Qd H) ∨ (J.go i H ∧ ∃ Nx : Hp → Prop, (∀ H', Nx H' → ∃ m', m' < m ∧ W (i + 1) m' H') ∧ ∀ x H', J.yld i H x H' → g x (wipe σ vs) H' fun σ2 H2 => wipe σ2 vs = wipe σ vs ∧ tYes σ2 H2 fun b H3 =>
        if b = true then te σ2 H3 fun y H4 => ∃ acc, H4 D = some (.lst acc) ∧ acc.length < sizeLine ∧ Nx (upd H4 D (.lst (acc ++ [y]))) else Nx H3) :=
  lcG (tt := tYes) (xs.zip ys) w (fun q H v H' => ∃ T, v = .ref T ∧ H T = none ∧ H' = upd H T (.tup [q.1, q.2])) (fun i H v H' _ y => by
    obtain ⟨T, x, y, h1, h2, h3, h4, h5⟩ := y
    exact ⟨(x, y), zip_at h4 h5, T, h1, h2, h3⟩) (fun _ => V.bl true) (fun _ => true) hz hD hG
    (fun q v H H' hm e r Q Q0 k _ => by
      obtain ⟨T, rfl, hT, rfl⟩ := r
      exact hs q.1 q.2 T H hm e hT Q (k rfl)) (fun H' e h => hd H' e (by rw [h, filter_tt]))
def atomP (x y : V) : Prop := (x = .non ∧ y = .non) ∨ (∃ i, x = .int i ∧ y = .int i) ∨ ∃ s, x = .str s ∧ y = .str s
def Same (K : PySem.W.Frag) (H : Hp) : Nat → V → V → Prop
  | 0, x, y => atomP x y
  | n + 1, x, y => atomP x y ∨ ∃ a b xs ys, x = .ref a ∧ y = .ref b ∧ ((SqL K H a xs ∧ SqL K H b ys) ∨ (SqT K H a xs ∧ SqT K H b ys)) ∧ xs.length ≤ 100 ∧ Paired (Same K H n) xs ys
theorem Same.ext {K : PySem.W.Frag} {H H' : Hp} (e : Ext H H') : ∀ {n : Nat} {x y : V}, Same K H n x y → Same K H' n x y
  | 0, _, _, h => h
  | n + 1, x, y, h => by
    rcases h with h | ⟨a, b, xs, ys, h1, h2, h3, h4, h5⟩
    · exact .inl h
    · refine .inr ⟨a, b, xs, ys, h1, h2, ?_, h4, prd_mono (fun _ _ z => Same.ext e z) h5⟩
      rcases h3 with h3 | h3
      · exact .inl ⟨h3.1.ext e, h3.2.ext e⟩
      · exact .inr ⟨h3.1.ext e, h3.2.ext e⟩
theorem Same.atom {K : PySem.W.Frag} {H : Hp} {n : Nat} {x y : V} (h : atomP x y) : Same K H n x y := by
  cases n with
  | zero => exact h
  | succ n => exact .inl h
theorem atomP.ty {K : PySem.W.Frag} {H : Hp} {x y : V} (h : atomP x y) : ∃ T, TyN K H x T ∧ TyN K H y T ∧ isLT T = false := by
  rcases h with ⟨rfl, rfl⟩ | ⟨i, rfl, rfl⟩ | ⟨s, rfl, rfl⟩
  · exact ⟨_, .non, .non, rfl⟩
  · exact ⟨_, .int i, .int i, rfl⟩
  · exact ⟨_, .str s, .str s, rfl⟩
def sp_like (K : PySem.W.Frag) : Nat → Sp
  | 0 => fun _ _ _ _ => False
  | n + 1 => fun vs H Q _ => ∃ x y, vs = [x, y] ∧ Same K H n x y ∧ ∀ H', Ext H H' → Q (.bl true) H'
section
variable {P : Program} {w : World} {K : PySem.W.Frag} {mg : Str → Option Value} {base : Heap}
abbrev s__law_like : Stmt := top 35
theorem sc__law_like : FnScope ["_law_told_here", "_law_due_here", "_law_a", "_law_b"] ["_law_told_here", "_law_due_here"] (defScope s__law_like) := ⟨rfl, rfl, rfl, by decide +kernel, rfl, by decide +kernel, by decide +kernel⟩
theorem c_like (T : Txt K mg) : ∀ n, Cal P w K mg base (n + 1) "_law_like" (sp_like K n)
  | 0 => T.d__law_like.cal sc__law_like (fun _ _ _ _ _ _ us hl => match us, hl with | [_, _], _ => rfl) (fun _ _ _ _ h => h.elim) (fun _ _ _ _ _ _ _ _ _ _ h => h.elim)
  | n + 1 => by
    have IH := c_like T n
    refine T.d__law_like.cal sc__law_like (fun _ _ _ _ _ _ us hl => match us, hl with | [_, _], _ => rfl) (fun vs H Q E h => ?_) (fun f cdv A outer s H vs Q E hr h => ?_)
    · obtain ⟨x, y, rfl, _⟩ := h
      rfl
    obtain ⟨x, y, rfl, hS, k⟩ := h
    refine ⟨_, (pss_cons (ps_if (pt_val (pe_callB (call_isiTK (K := K)) rfl T.n_isinstance bt_isinstance (pa_cons (pv 1) (pa_cons (pe_tup (pa_cons (pe_bltn (v := .ty "list") rfl T.n_list bt_list rfl) (pa_cons (pe_bltn (v := .ty "tuple") rfl T.n_tuple bt_tuple rfl) pa_nil))) pa_nil)))) (pss_cons (ps_if (PW.pt (pw_or (pt_cmpR op_ne (pe_callB (call_isiK' (K := K)) rfl T.n_isinstance bt_isinstance (pa_cons (pv 0) (pa_cons (pe_bltn (v := .ty "list") rfl T.n_list bt_list rfl) pa_nil))) (pe_callB (call_isiK' (K := K)) rfl T.n_isinstance bt_isinstance (pa_cons (pv 1) (pa_cons (pe_bltn (v := .ty "list") rfl T.n_list bt_list rfl) pa_nil))) (nomark _)) (pw_or1 (pt_cmpR op_ne (pe_callB (call_isiK' (K := K)) rfl T.n_isinstance bt_isinstance (pa_cons (pv 0) (pa_cons (pe_bltn (v := .ty "tuple") rfl T.n_tuple bt_tuple rfl) pa_nil))) (pe_callB (call_isiK' (K := K)) rfl T.n_isinstance bt_isinstance (pa_cons (pv 1) (pa_cons (pe_bltn (v := .ty "tuple") rfl T.n_tuple bt_tuple rfl) pa_nil))) (nomark _))))) (pss_one (ps_ret pe_bl)) pss_nil)
    (pss_one (ps_ret (pe_and (pe_cmpR op_eq (pe_callB (call_lenK (K := K)) rfl T.n_len bt_len (pa_cons (pv 0) pa_nil)) (pe_callB (call_lenK (K := K)) rfl T.n_len bt_len (pa_cons (pv 1) pa_nil)) (nomark _)) (pe_one (pe_callB (cr_allK (K := K) rfl) rfl T.n_all bt_all (pa_cons (pe_lc (own := [("_law_a", 2), ("_law_b", 3)]) (g := gTup K 2 (gCons (gName 2) (gCons (gName 3) (gNil)))) (tt := tYes) rfl sc__law_like.nd (pi_zipAK (K := K) rfl T.n_zip (pa_cons (pv 0) (pa_cons (pv 1) pa_nil))) (blkOk_by (by kernel_rfl)) (fun _ _ _ _ _ => (pg_tup rfl (pgs_cons (pg_name (i := 2) sc__law_like.nd rfl (Or.inl rfl)) (pgs_cons (pg_name (i := 3) sc__law_like.nd rfl (Or.inl rfl)) pgs_nil)))) (fun _ _ _ _ _ => pts_nil) (fun _ _ _ _ _ => (pe_c IH hr (Nat.le_refl _) rfl (pa_cons (pv 2) (pa_cons (pv 3) pa_nil))))) pa_nil))))))) pss_nil)
  (pss_cons (ps_if (PW.pt (pw_or (pt_cmpR op_isN (pv 1) pe_non (nomark _)) (pw_or1 (pt_cmpR op_isN (pv 0) pe_non (nomark _))))) (pss_one (ps_ret (pe_and (pe_cmpR op_isN (pv 1) pe_non (nomark _)) (pe_one (pe_cmpR op_isN (pv 0) pe_non (nomark _)))))) pss_nil)
  (pss_cons (ps_if (PW.pt (pw_or (pt_val (pe_callB (call_isiTK (K := K)) rfl T.n_isinstance bt_isinstance (pa_cons (pv 0) (pa_cons (pe_tup (pa_cons (pe_bltn (v := .ty "list") rfl T.n_list bt_list rfl) (pa_cons (pe_bltn (v := .ty "tuple") rfl T.n_tuple bt_tuple rfl) pa_nil))) pa_nil)))) (pw_or1 (pt_cmpR op_ne (pe_callB (call_isiK' (K := K)) rfl T.n_isinstance bt_isinstance (pa_cons (pv 0) (pa_cons (pe_bltn (v := .ty "bool") rfl T.n_bool bt_bool rfl) pa_nil))) (pe_callB (call_isiK' (K := K)) rfl T.n_isinstance bt_isinstance (pa_cons (pv 1) (pa_cons (pe_bltn (v := .ty "bool") rfl T.n_bool bt_bool rfl) pa_nil))) (nomark _))))) (pss_one (ps_ret pe_bl)) pss_nil)
  (pss_cons (ps_if (PW.pt (pw_or (pt_cmpR op_ne (pe_callB (call_isiK' (K := K)) rfl T.n_isinstance bt_isinstance (pa_cons (pv 0) (pa_cons (pe_bltn (v := .ty "str") rfl T.n_str bt_str rfl) pa_nil))) (pe_callB (call_isiK' (K := K)) rfl T.n_isinstance bt_isinstance (pa_cons (pv 1) (pa_cons (pe_bltn (v := .ty "str") rfl T.n_str bt_str rfl) pa_nil))) (nomark _)) (pw_or1 (pt_cmpR op_ne (pe_callB (call_isiK' (K := K)) rfl T.n_isinstance bt_isinstance (pa_cons (pv 0) (pa_cons (pe_bltn (v := .ty "int") rfl T.n_int bt_int rfl) pa_nil))) (pe_callB (call_isiK' (K := K)) rfl T.n_isinstance bt_isinstance (pa_cons (pv 1) (pa_cons (pe_bltn (v := .ty "int") rfl T.n_int bt_int rfl) pa_nil))) (nomark _))))) (pss_one (ps_ret pe_bl)) pss_nil)
  (pss_one (ps_ret (pe_cmpR op_eq (pv 0) (pv 1) (nomark _)))))))), ?_⟩
    have hat : atomP x y ∨ ∃ m a b xs ys, n = m + 1 ∧ x = .ref a ∧ y = .ref b ∧ ((SqL K H a xs ∧ SqL K H b ys) ∨ (SqT K H a xs ∧ SqT K H b ys)) ∧ xs.length ≤ 100 ∧ Paired (Same K H m) xs ys := by
      cases n with
      | zero => exact .inl hS
      | succ m =>
        rcases hS with h | ⟨a, b, xs, ys, h1, h2, h3, h4, h5⟩
        · exact .inl h
        · exact .inr ⟨m, a, b, xs, ys, rfl, h1, h2, h3, h4, h5⟩
    rcases hat with h | ⟨m, a, b, xs, ys, rfl, rfl, rfl, h3, h4, h5⟩
    · rcases h with ⟨rfl, rfl⟩ | ⟨i, rfl, rfl⟩ | ⟨z, rfl, rfl⟩
      · refine ⟨_, rfl, (by show 2 ≤ sizeLine; decide), fun p hp => ⟨_, p, _, _, _, _, rfl, upd_same, .cons (.ty _) (.cons (.ty _) .nil), TyN.tyX (TyN.ext .non (Ext.upd hp)), kl_non, ⟨_, rfl, iteF ?_⟩⟩⟩
        exact ⟨_, rfl, rfl, _, rfl, iteT (iteT ⟨_, rfl, rfl, _, rfl, iteT ⟨_, rfl, rfl, k _ (Ext.upd hp)⟩⟩)⟩
      · refine ⟨_, rfl, (by show 2 ≤ sizeLine; decide), fun p hp => ⟨_, p, _, _, _, _, rfl, upd_same, .cons (.ty _) (.cons (.ty _) .nil), TyN.tyX (TyN.ext (.int i) (Ext.upd hp)), kl_int, ⟨_, rfl, iteF ?_⟩⟩⟩
        have e0 := Ext.upd (o := .tup [.ty "list", .ty "tuple"]) hp
        revert e0
        generalize upd H p (.tup [.ty "list", .ty "tuple"]) = H1
        intro e0
        refine ⟨_, rfl, rfl, _, rfl, iteF ⟨_, rfl, rfl, _, rfl, iteF ?_⟩⟩
        refine ⟨_, rfl, (by show 2 ≤ sizeLine; decide), fun p hp => ⟨_, p, _, _, _, _, rfl, upd_same, .cons (.ty _) (.cons (.ty _) .nil), TyN.tyX (TyN.ext (.int i) (Ext.upd hp)), kl_int, ⟨_, rfl, iteF ?_⟩⟩⟩
        refine ⟨_, rfl, _, _, _, _, false, rfl, .ty _, TyN.tyX (.int i), kit_ty (by decide +kernel), _, rfl, _, _, _, _, false, rfl, .ty _, TyN.tyX (.int i), kit_ty (by decide +kernel), rfl, _, rfl, ?_⟩
        rw [decide_eq_true rfl]
        refine iteF ⟨_, rfl, _, _, _, _, false, rfl, .ty _, TyN.tyX (.int i), kit_ty (by decide +kernel), _, rfl, _, _, _, _, false, rfl, .ty _, TyN.tyX (.int i), kit_ty (by decide +kernel), rfl, _, rfl, ?_⟩
        rw [decide_eq_true rfl]
        refine iteF ⟨_, rfl, _, _, _, _, true, rfl, .ty _, TyN.tyX (.int i), kit_ty (by decide +kernel), _, rfl, _, _, _, _, true, rfl, .ty _, TyN.tyX (.int i), kit_ty (by decide +kernel), rfl, _, rfl, ?_⟩
        rw [decide_eq_true rfl]
        refine iteF ⟨_, rfl, _, rfl, rfl, ?_⟩
        rw [decide_eq_true rfl]
        exact k _ (e0.trans (Ext.upd hp))
      · refine ⟨_, rfl, (by show 2 ≤ sizeLine; decide), fun p hp => ⟨_, p, _, _, _, _, rfl, upd_same, .cons (.ty _) (.cons (.ty _) .nil), TyN.tyX (TyN.ext (.str z) (Ext.upd hp)), kl_str, ⟨_, rfl, iteF ?_⟩⟩⟩
        have e0 := Ext.upd (o := .tup [.ty "list", .ty "tuple"]) hp
        revert e0
        generalize upd H p (.tup [.ty "list", .ty "tuple"]) = H1
        intro e0
        refine ⟨_, rfl, rfl, _, rfl, iteF ⟨_, rfl, rfl, _, rfl, iteF ?_⟩⟩
        refine ⟨_, rfl, (by show 2 ≤ sizeLine; decide), fun p hp => ⟨_, p, _, _, _, _, rfl, upd_same, .cons (.ty _) (.cons (.ty _) .nil), TyN.tyX (TyN.ext (.str z) (Ext.upd hp)), kl_str, ⟨_, rfl, iteF ?_⟩⟩⟩
        refine ⟨_, rfl, _, _, _, _, false, rfl, .ty _, TyN.tyX (.str z), kit_ty (by decide +kernel), _, rfl, _, _, _, _, false, rfl, .ty _, TyN.tyX (.str z), kit_ty (by decide +kernel), rfl, _, rfl, ?_⟩
        rw [decide_eq_true rfl]
        refine iteF ⟨_, rfl, _, _, _, _, true, rfl, .ty _, TyN.tyX (.str z), kit_ty (by decide +kernel), _, rfl, _, _, _, _, true, rfl, .ty _, TyN.tyX (.str z), kit_ty (by decide +kernel), rfl, _, rfl, ?_⟩
        rw [decide_eq_true rfl]
        refine iteF ⟨_, rfl, _, _, _, _, false, rfl, .ty _, TyN.tyX (.str z), kit_ty (by decide +kernel), _, rfl, _, _, _, _, false, rfl, .ty _, TyN.tyX (.str z), kit_ty (by decide +kernel), rfl, _, rfl, ?_⟩
        rw [decide_eq_true rfl]
        refine iteF ⟨_, rfl, _, rfl, rfl, ?_⟩
        rw [decide_eq_true rfl]
        exact k _ (e0.trans (Ext.upd hp))
    · rcases h3 with ⟨hA, hB⟩ | ⟨hA, hB⟩
      · refine ⟨_, rfl, (by show 2 ≤ sizeLine; decide), fun p hp => ⟨_, p, _, _, _, _, rfl, upd_same, .cons (.ty _) (.cons (.ty _) .nil), TyN.tyX (TyN.ext (.lst hB) (Ext.upd hp)), kl_list, ⟨_, rfl, iteT ?_⟩⟩⟩
        have e0 := Ext.upd (o := .tup [.ty "list", .ty "tuple"]) hp
        revert e0
        generalize upd H p (.tup [.ty "list", .ty "tuple"]) = H1
        intro e0
        have hA1 := hA.ext e0
        have hB1 := hB.ext e0
        have hlen := prd_len h5
        refine ⟨_, rfl, _, _, _, _, true, rfl, .ty _, TyN.tyX (.lst hA1), kit_ty (by decide +kernel), _, rfl, _, _, _, _, true, rfl, .ty _, TyN.tyX (.lst hB1), kit_ty (by decide +kernel), rfl, _, rfl, ?_⟩
        rw [decide_eq_true rfl]
        refine iteF ⟨_, rfl, _, _, _, _, false, rfl, .ty _, TyN.tyX (.lst hA1), kit_ty (by decide +kernel), _, rfl, _, _, _, _, false, rfl, .ty _, TyN.tyX (.lst hB1), kit_ty (by decide +kernel), rfl, _, rfl, ?_⟩
        rw [decide_eq_true rfl]
        refine iteF ⟨_, rfl, _, _, rfl, .inl hA1, _, rfl, _, _, rfl, .inl hB1, rfl, ?_⟩
        rw [← hlen, decide_eq_true rfl]
        have hzl : (xs.zip ys).length = xs.length := by rw [List.length_zip, hlen, Nat.min_self]
        refine ⟨_, rfl, iteT ⟨_, rfl, _, rfl, a, b, xs, ys, rfl, .inl ⟨hA1, hB1, fun D hD => lcZ (walk_zip (by rw [hzl]; omega)) hD (by rw [hzl]; exact sl_lt (by omega)) (fun H' e => ⟨hA1.ext e, hB1.ext e⟩) (fun x y T2 H3 hm e3 hT2 Q1 k1 => ?_) (fun H3 e3 hl3 => ?_)⟩⟩⟩
        · have e4 := Ext.upd (o := .tup [x, y]) hT2
          exact ⟨_, _, rfl, SqT.of upd_same, rfl, _, _, rfl, _, _, rfl, rfl, rfl, _, rfl, _, rfl, x, y, rfl, (prd_mem h5 hm).ext (e0.trans (e3.trans e4)), fun H5 e5 => k1 _ (e4.trans e5)⟩
        · refine ⟨D, (xs.zip ys).map fun _ => true, rfl, SqL.of (by rw [hl3, bls]), ?_⟩
          rw [all_id, List.all_eq_true.mpr fun _ _ => rfl]
          exact k _ (e0.trans e3)
      · refine ⟨_, rfl, (by show 2 ≤ sizeLine; decide), fun p hp => ⟨_, p, _, _, _, _, rfl, upd_same, .cons (.ty _) (.cons (.ty _) .nil), TyN.tyX (TyN.ext (.tup hB) (Ext.upd hp)), kl_tuple, ⟨_, rfl, iteT ?_⟩⟩⟩
        have e0 := Ext.upd (o := .tup [.ty "list", .ty "tuple"]) hp
        revert e0
        generalize upd H p (.tup [.ty "list", .ty "tuple"]) = H1
        intro e0
        have hA1 := hA.ext e0
        have hB1 := hB.ext e0
        have hlen := prd_len h5
        refine ⟨_, rfl, _, _, _, _, false, rfl, .ty _, TyN.tyX (.tup hA1), kit_ty (by decide +kernel), _, rfl, _, _, _, _, false, rfl, .ty _, TyN.tyX (.tup hB1), kit_ty (by decide +kernel), rfl, _, rfl, ?_⟩
        rw [decide_eq_true rfl]
        refine iteF ⟨_, rfl, _, _, _, _, true, rfl, .ty _, TyN.tyX (.tup hA1), kit_ty (by decide +kernel), _, rfl, _, _, _, _, true, rfl, .ty _, TyN.tyX (.tup hB1), kit_ty (by decide +kernel), rfl, _, rfl, ?_⟩
        rw [decide_eq_true rfl]
        refine iteF ⟨_, rfl, _, _, rfl, .inr hA1, _, rfl, _, _, rfl, .inr hB1, rfl, ?_⟩
        rw [← hlen, decide_eq_true rfl]
        have hzl : (xs.zip ys).length = xs.length := by rw [List.length_zip, hlen, Nat.min_self]
        refine ⟨_, rfl, iteT ⟨_, rfl, _, rfl, a, b, xs, ys, rfl, .inr ⟨hA1, hB1, fun D hD => lcZ (walk_zipT (by rw [hzl]; omega)) hD (by rw [hzl]; exact sl_lt (by omega)) (fun H' e => ⟨hA1.ext e, hB1.ext e⟩) (fun x y T2 H3 hm e3 hT2 Q1 k1 => ?_) (fun H3 e3 hl3 => ?_)⟩⟩⟩
        · have e4 := Ext.upd (o := .tup [x, y]) hT2
          exact ⟨_, _, rfl, SqT.of upd_same, rfl, _, _, rfl, _, _, rfl, rfl, rfl, _, rfl, _, rfl, x, y, rfl, (prd_mem h5 hm).ext (e0.trans (e3.trans e4)), fun H5 e5 => k1 _ (e4.trans e5)⟩
        · refine ⟨D, (xs.zip ys).map fun _ => true, rfl, SqL.of (by rw [hl3, bls]), ?_⟩
          rw [all_id, List.all_eq_true.mpr fun _ _ => rfl]
          exact k _ (e0.trans e3)
end
end K12
namespace K12
open PySem PySem.Spec PyProof.Rows L2 SX
/-! ### _law_frozen, _law_lists, _law_tool, _law_made -/
theorem pe_mk {X : Cx} {k j : Nat} {C f : Addr} {sp : Sp} {x : Str} {p pos : Pos} {e : Expr} {es : List Expr} {t : TA} (M : Mk X.K C f) (c : MCal X.prog X.w X.K X.mg X.base CX0 k f sp) (hr : Room j X.A) (hk : k + 1 ≤ j) (hg : Gl X x) (hm : X.mg x = some (.ref C)) (ha : PA X (e :: es) t)
    (hdb : (x == ("__debug__" : Str)) = false := by decide) (he : starEach (e :: es) X.env = (false, eval e X.env) :: starEach es X.env := by rfl) (hpl : (backTo pos (starEach es X.env)).any (·.1) = false := by rfl) : PE X (.Call (.Name x p) (e :: es) [] pos) (tMake C sp [] E0 t) := by
  obtain ⟨fd, ps, F, b⟩ := c.ex
  exact pe_make M F (hr.mono hk) hg hm b .nil pass0 ha hdb he hpl
theorem opt_ty {K : PySem.W.Frag} {H : Hp} (o : Option Int) : ∃ T, TyN K H (optI o) T ∧ PySem.W.kitAny K (.type T) [.type "list", .type "tuple"] = some false := by
  cases o with
  | none => exact ⟨_, .non, kl_non⟩
  | some n => exact ⟨_, .int n, kl_int⟩
section
variable {P : Program} {w : World} {K : PySem.W.Frag} {mg : Str → Option Value} {base : Heap}
abbrev s__law_frozen : Stmt := top 36
theorem sc__law_frozen : FnScope ["_law_value", "_law_item"] ["_law_value"] (defScope s__law_frozen) := ⟨rfl, rfl, rfl, by decide +kernel, rfl, by decide +kernel, by decide +kernel⟩
def sp_fz0 : Sp := fun vs H Q _ => ∃ o, vs = [optI o] ∧ ∀ H', Ext H H' → Q (optI o) H'
def sp_fz1 (K : PySem.W.Frag) : Sp := fun vs H Q _ => ∃ (p : Addr) (r : Row), vs = [.ref p] ∧ SqL K H p (r.map optI) ∧ r.length ≤ 100 ∧ ∀ q H', Ext H H' → SqT K H' q (r.map optI) → Q (.ref q) H'
def sp_fz2 (K : PySem.W.Frag) : Sp := fun vs H Q _ => ∃ (a : Addr) (rows : List Row), vs = [.ref a] ∧ TabL K H a rows ∧ GoodT rows ∧ ∀ q H', Ext H H' → TabT K H' q rows → Q (.ref q) H'
def spN : Sp := fun _ _ _ _ => False
theorem c_fzN (T : Txt K mg) : Cal P w K mg base 1 "_law_frozen" spN := T.d__law_frozen.cal sc__law_frozen (fun _ _ _ _ _ _ us hl => match us, hl with | [_], _ => rfl) (fun _ _ _ _ h => h.elim) (fun _ _ _ _ _ _ _ _ _ _ h => h.elim)
theorem c_fz0 (T : Txt K mg) : Cal P w K mg base 2 "_law_frozen" sp_fz0 := by
  have IH := c_fzN (P := P) (w := w) (base := base) T
  refine T.d__law_frozen.cal sc__law_frozen (fun _ _ _ _ _ _ us hl => match us, hl with | [_], _ => rfl) (fun vs H Q E h => ?_) (fun f cdv A outer s H vs Q E hr h => ?_)
  · obtain ⟨o, rfl, _⟩ := h
    rfl
  · obtain ⟨o, rfl, k⟩ := h
    have hIH : 1 ≤ 1 := Nat.le_refl 1
    refine ⟨_, (pss_cons (ps_if (pt_val (pe_callB (call_isiTK (K := K)) rfl T.n_isinstance bt_isinstance (pa_cons (pv 0) (pa_cons (pe_tup (pa_cons (pe_bltn (v := .ty "list") rfl T.n_list bt_list rfl) (pa_cons (pe_bltn (v := .ty "tuple") rfl T.n_tuple bt_tuple rfl) pa_nil))) pa_nil)))) (pss_one (ps_ret (pe_callTy (call_tupleK (K := K)) rfl T.n_tuple bt_tuple (pa_cons (pe_lc (own := [("_law_item", 1)]) (g := gName 1) (tt := tYes) rfl sc__law_frozen.nd (pi_listK (K := K) (pv 0)) (blkOk_by (by kernel_rfl)) (fun _ _ _ _ _ => (pg_name (i := 1) sc__law_frozen.nd rfl (Or.inl rfl))) (fun _ _ _ _ _ => pts_nil) (fun _ _ _ _ _ => (pe_c IH hr hIH rfl (pa_cons (pv 1) pa_nil)))) pa_nil)))) pss_nil)
  (pss_one (ps_ret (pv 0)))), ?_⟩
    obtain ⟨Ty, hty, hk⟩ := opt_ty (K := K) (H := H) o
    exact ⟨_, rfl, (by show 2 ≤ sizeLine; decide), fun p hp => ⟨_, p, _, _, _, _, rfl, upd_same, .cons (.ty _) (.cons (.ty _) .nil), TyN.tyX (TyN.ext hty (Ext.upd hp)), hk, ⟨_, rfl, iteF ⟨_, rfl, k _ (Ext.upd hp)⟩⟩⟩⟩
theorem c_fz1 (T : Txt K mg) : Cal P w K mg base 3 "_law_frozen" (sp_fz1 K) := by
  have IH := c_fz0 (P := P) (w := w) (base := base) T
  refine T.d__law_frozen.cal sc__law_frozen (fun _ _ _ _ _ _ us hl => match us, hl with | [_], _ => rfl) (fun vs H Q E h => ?_) (fun f cdv A outer s H vs Q E hr h => ?_)
  · obtain ⟨p, r, rfl, _⟩ := h
    rfl
  · obtain ⟨p0, r, rfl, hS, hz, k⟩ := h
    have hIH : 2 ≤ 2 := Nat.le_refl 2
    refine ⟨_, (pss_cons (ps_if (pt_val (pe_callB (call_isiTK (K := K)) rfl T.n_isinstance bt_isinstance (pa_cons (pv 0) (pa_cons (pe_tup (pa_cons (pe_bltn (v := .ty "list") rfl T.n_list bt_list rfl) (pa_cons (pe_bltn (v := .ty "tuple") rfl T.n_tuple bt_tuple rfl) pa_nil))) pa_nil)))) (pss_one (ps_ret (pe_callTy (call_tupleK (K := K)) rfl T.n_tuple bt_tuple (pa_cons (pe_lc (own := [("_law_item", 1)]) (g := gName 1) (tt := tYes) rfl sc__law_frozen.nd (pi_listK (K := K) (pv 0)) (blkOk_by (by kernel_rfl)) (fun _ _ _ _ _ => (pg_name (i := 1) sc__law_frozen.nd rfl (Or.inl rfl))) (fun _ _ _ _ _ => pts_nil) (fun _ _ _ _ _ => (pe_c IH hr hIH rfl (pa_cons (pv 1) pa_nil)))) pa_nil)))) pss_nil)
  (pss_one (ps_ret (pv 0)))), ?_⟩
    refine ⟨_, rfl, (by show 2 ≤ sizeLine; decide), fun p hp => ⟨_, p, _, _, _, _, rfl, upd_same, .cons (.ty _) (.cons (.ty _) .nil), TyN.tyX (TyN.ext (.lst hS) (Ext.upd hp)), kl_list, ⟨_, rfl, iteT ?_⟩⟩⟩
    have e0 := Ext.upd (o := .tup [.ty "list", .ty "tuple"]) hp
    revert e0
    generalize upd H p (.tup [.ty "list", .ty "tuple"]) = H1
    intro e0
    refine ⟨_, rfl, p0, rfl, ⟨_, hS.ext e0⟩, fun D hD => lcPLy (prd_map optI r) optI (hS.ext e0) hD (by rw [List.length_map]; exact sl_lt (by omega)) (fun x o H' hm hx e Q1 k1 => ⟨rfl, ?_⟩) (fun H2 e2 hl2 => ?_)⟩
    · subst hx
      exact ⟨_, rfl, o, rfl, k1⟩
    · exact ⟨D, _, rfl, .inl ⟨SqL.of hl2, fun l hl => k l _ (e0.trans (e2.trans (Ext.upd hl))) (SqT.of upd_same)⟩⟩
theorem c_fz2 (T : Txt K mg) : Cal P w K mg base 4 "_law_frozen" (sp_fz2 K) := by
  have IH := c_fz1 (P := P) (w := w) (base := base) T
  refine T.d__law_frozen.cal sc__law_frozen (fun _ _ _ _ _ _ us hl => match us, hl with | [_], _ => rfl) (fun vs H Q E h => ?_) (fun f cdv A outer s H vs Q E hr h => ?_)
  · obtain ⟨a, rows, rfl, _⟩ := h
    rfl
  · obtain ⟨a, rows, rfl, hT, gT, k⟩ := h
    have hIH : 3 ≤ 3 := Nat.le_refl 3
    refine ⟨_, (pss_cons (ps_if (pt_val (pe_callB (call_isiTK (K := K)) rfl T.n_isinstance bt_isinstance (pa_cons (pv 0) (pa_cons (pe_tup (pa_cons (pe_bltn (v := .ty "list") rfl T.n_list bt_list rfl) (pa_cons (pe_bltn (v := .ty "tuple") rfl T.n_tuple bt_tuple rfl) pa_nil))) pa_nil)))) (pss_one (ps_ret (pe_callTy (call_tupleK (K := K)) rfl T.n_tuple bt_tuple (pa_cons (pe_lc (own := [("_law_item", 1)]) (g := gName 1) (tt := tYes) rfl sc__law_frozen.nd (pi_listK (K := K) (pv 0)) (blkOk_by (by kernel_rfl)) (fun _ _ _ _ _ => (pg_name (i := 1) sc__law_frozen.nd rfl (Or.inl rfl))) (fun _ _ _ _ _ => pts_nil) (fun _ _ _ _ _ => (pe_c IH hr hIH rfl (pa_cons (pv 1) pa_nil)))) pa_nil)))) pss_nil)
  (pss_one (ps_ret (pv 0)))), ?_⟩
    obtain ⟨xs, hx, hP⟩ := hT
    have hl := prd_len hP
    have gl := gT.len
    refine ⟨_, rfl, (by show 2 ≤ sizeLine; decide), fun p hp => ⟨_, p, _, _, _, _, rfl, upd_same, .cons (.ty _) (.cons (.ty _) .nil), TyN.tyX (TyN.ext (.lst hx) (Ext.upd hp)), kl_list, ⟨_, rfl, iteT ?_⟩⟩⟩
    have e0 := Ext.upd (o := .tup [.ty "list", .ty "tuple"]) hp
    revert e0
    generalize upd H p (.tup [.ty "list", .ty "tuple"]) = H1
    intro e0
    refine ⟨_, rfl, a, rfl, ⟨_, hx.ext e0⟩, fun D hD => lcRel walk_list (prd_mono (fun _ _ z => z.ext e0) hP) (RowT K) (fun _ _ _ _ e z => z.ext e) (fun _ _ _ _ _ hD z => z.updL hD) hD (by rw [hl]; exact sl_lt (by omega)) (fun H' e => (hx.ext e0).ext e)
      (fun v r H' hr hq e _ Q1 k1 => ⟨rfl, ?_⟩) (fun H3 acc e3 hD3 hP3 => ?_)⟩
    · obtain ⟨p, rfl, hq⟩ := hq
      have := gT.rowz r hr
      exact ⟨_, rfl, p, r, rfl, hq.ext e, by omega, fun q H4 e4 hT4 => k1 _ _ e4 ⟨q, rfl, hT4⟩⟩
    · refine ⟨D, acc, rfl, .inl ⟨SqL.of hD3, fun l hl2 => ?_⟩⟩
      have e4 := Ext.upd (o := .tup acc) hl2
      exact k l _ (e0.trans (e3.trans e4)) ⟨acc, SqT.of upd_same, prd_mono (fun _ _ z => z.ext e4) hP3⟩
abbrev s__law_lists : Stmt := top 37
theorem sc__law_lists : FnScope ["_law_value", "_law_item"] ["_law_value"] (defScope s__law_lists) := ⟨rfl, rfl, rfl, by decide +kernel, rfl, by decide +kernel, by decide +kernel⟩
def sp_lz1 (K : PySem.W.Frag) : Sp := fun vs H Q _ => ∃ (p : Addr) (r : Row), vs = [.ref p] ∧ SqL K H p (r.map optI) ∧ r.length ≤ 100 ∧ ∀ q H', Ext H H' → H' q = some (.lst (r.map optI)) → H q = none → Q (.ref q) H'
def sp_lz2 (K : PySem.W.Frag) : Sp := fun vs H Q _ => ∃ (a : Addr) (rows : List Row), vs = [.ref a] ∧ TabL K H a rows ∧ GoodT rows ∧ ∀ q H', Ext H H' → TabL K H' q rows → Q (.ref q) H'
theorem c_lzN (T : Txt K mg) : Cal P w K mg base 1 "_law_lists" spN := T.d__law_lists.cal sc__law_lists (fun _ _ _ _ _ _ us hl => match us, hl with | [_], _ => rfl) (fun _ _ _ _ h => h.elim) (fun _ _ _ _ _ _ _ _ _ _ h => h.elim)
theorem c_lz0 (T : Txt K mg) : Cal P w K mg base 2 "_law_lists" sp_fz0 := by
  have IH := c_lzN (P := P) (w := w) (base := base) T
  refine T.d__law_lists.cal sc__law_lists (fun _ _ _ _ _ _ us hl => match us, hl with | [_], _ => rfl) (fun vs H Q E h => ?_) (fun f cdv A outer s H vs Q E hr h => ?_)
  · obtain ⟨o, rfl, _⟩ := h
    rfl
  · obtain ⟨o, rfl, k⟩ := h
    have hIH : 1 ≤ 1 := Nat.le_refl 1
    refine ⟨_, (pss_cons (ps_if (pt_val (pe_callB (call_isiTK (K := K)) rfl T.n_isinstance bt_isinstance (pa_cons (pv 0) (pa_cons (pe_tup (pa_cons (pe_bltn (v := .ty "list") rfl T.n_list bt_list rfl) (pa_cons (pe_bltn (v := .ty "tuple") rfl T.n_tuple bt_tuple rfl) pa_nil))) pa_nil)))) (pss_one (ps_ret (pe_lc (own := [("_law_item", 1)]) (g := gName 1) (tt := tYes) rfl sc__law_lists.nd (pi_listK (K := K) (pv 0)) (blkOk_by (by kernel_rfl)) (fun _ _ _ _ _ => (pg_name (i := 1) sc__law_lists.nd rfl (Or.inl rfl))) (fun _ _ _ _ _ => pts_nil) (fun _ _ _ _ _ => (pe_c IH hr hIH rfl (pa_cons (pv 1) pa_nil)))))) pss_nil)
  (pss_one (ps_ret (pv 0)))), ?_⟩
    obtain ⟨Ty, hty, hk⟩ := opt_ty (K := K) (H := H) o
    exact ⟨_, rfl, (by show 2 ≤ sizeLine; decide), fun p hp => ⟨_, p, _, _, _, _, rfl, upd_same, .cons (.ty _) (.cons (.ty _) .nil), TyN.tyX (TyN.ext hty (Ext.upd hp)), hk, ⟨_, rfl, iteF ⟨_, rfl, k _ (Ext.upd hp)⟩⟩⟩⟩
theorem c_lz1 (T : Txt K mg) : Cal P w K mg base 3 "_law_lists" (sp_lz1 K) := by
  have IH := c_lz0 (P := P) (w := w) (base := base) T
  refine T.d__law_lists.cal sc__law_lists (fun _ _ _ _ _ _ us hl => match us, hl with | [_], _ => rfl) (fun vs H Q E h => ?_) (fun f cdv A outer s H vs Q E hr h => ?_)
  · obtain ⟨p, r, rfl, _⟩ := h
    rfl
  · obtain ⟨p0, r, rfl, hS, hz, k⟩ := h
    have hIH : 2 ≤ 2 := Nat.le_refl 2
    refine ⟨_, (pss_cons (ps_if (pt_val (pe_callB (call_isiTK (K := K)) rfl T.n_isinstance bt_isinstance (pa_cons (pv 0) (pa_cons (pe_tup (pa_cons (pe_bltn (v := .ty "list") rfl T.n_list bt_list rfl) (pa_cons (pe_bltn (v := .ty "tuple") rfl T.n_tuple bt_tuple rfl) pa_nil))) pa_nil)))) (pss_one (ps_ret (pe_lc (own := [("_law_item", 1)]) (g := gName 1) (tt := tYes) rfl sc__law_lists.nd (pi_listK (K := K) (pv 0)) (blkOk_by (by kernel_rfl)) (fun _ _ _ _ _ => (pg_name (i := 1) sc__law_lists.nd rfl (Or.inl rfl))) (fun _ _ _ _ _ => pts_nil) (fun _ _ _ _ _ => (pe_c IH hr hIH rfl (pa_cons (pv 1) pa_nil)))))) pss_nil)
  (pss_one (ps_ret (pv 0)))), ?_⟩
    refine ⟨_, rfl, (by show 2 ≤ sizeLine; decide), fun p hp => ⟨_, p, _, _, _, _, rfl, upd_same, .cons (.ty _) (.cons (.ty _) .nil), TyN.tyX (TyN.ext (.lst hS) (Ext.upd hp)), kl_list, ⟨_, rfl, iteT ?_⟩⟩⟩
    have e0 := Ext.upd (o := .tup [.ty "list", .ty "tuple"]) hp
    revert e0
    generalize upd H p (.tup [.ty "list", .ty "tuple"]) = H1
    intro e0
    refine ⟨_, rfl, p0, rfl, ⟨_, hS.ext e0⟩, fun D hD => lcPLy (prd_map optI r) optI (hS.ext e0) hD (by rw [List.length_map]; exact sl_lt (by omega)) (fun x o H' hm hx e Q1 k1 => ⟨rfl, ?_⟩) (fun H2 e2 hl2 => ?_)⟩
    · subst hx
      exact ⟨_, rfl, o, rfl, k1⟩
    · refine k D _ (e0.trans e2) hl2 ?_
      cases e : H D with
      | none => rfl
      | some o =>
        rw [e0 _ _ e] at hD
        cases hD
theorem c_lz2 (T : Txt K mg) : Cal P w K mg base 4 "_law_lists" (sp_lz2 K) := by
  have IH := c_lz1 (P := P) (w := w) (base := base) T
  refine T.d__law_lists.cal sc__law_lists (fun _ _ _ _ _ _ us hl => match us, hl with | [_], _ => rfl) (fun vs H Q E h => ?_) (fun f cdv A outer s H vs Q E hr h => ?_)
  · obtain ⟨a, rows, rfl, _⟩ := h
    rfl
  · obtain ⟨a, rows, rfl, hT, gT, k⟩ := h
    have hIH : 3 ≤ 3 := Nat.le_refl 3
    refine ⟨_, (pss_cons (ps_if (pt_val (pe_callB (call_isiTK (K := K)) rfl T.n_isinstance bt_isinstance (pa_cons (pv 0) (pa_cons (pe_tup (pa_cons (pe_bltn (v := .ty "list") rfl T.n_list bt_list rfl) (pa_cons (pe_bltn (v := .ty "tuple") rfl T.n_tuple bt_tuple rfl) pa_nil))) pa_nil)))) (pss_one (ps_ret (pe_lc (own := [("_law_item", 1)]) (g := gName 1) (tt := tYes) rfl sc__law_lists.nd (pi_listK (K := K) (pv 0)) (blkOk_by (by kernel_rfl)) (fun _ _ _ _ _ => (pg_name (i := 1) sc__law_lists.nd rfl (Or.inl rfl))) (fun _ _ _ _ _ => pts_nil) (fun _ _ _ _ _ => (pe_c IH hr hIH rfl (pa_cons (pv 1) pa_nil)))))) pss_nil)
  (pss_one (ps_ret (pv 0)))), ?_⟩
    obtain ⟨xs, hx, hP⟩ := hT
    have hl := prd_len hP
    have gl := gT.len
    refine ⟨_, rfl, (by show 2 ≤ sizeLine; decide), fun p hp => ⟨_, p, _, _, _, _, rfl, upd_same, .cons (.ty _) (.cons (.ty _) .nil), TyN.tyX (TyN.ext (.lst hx) (Ext.upd hp)), kl_list, ⟨_, rfl, iteT ?_⟩⟩⟩
    have e0 := Ext.upd (o := .tup [.ty "list", .ty "tuple"]) hp
    revert e0
    generalize upd H p (.tup [.ty "list", .ty "tuple"]) = H1
    intro e0
    refine ⟨_, rfl, a, rfl, ⟨_, hx.ext e0⟩, fun D hD => lcRel walk_list (prd_mono (fun _ _ z => z.ext e0) hP) (fun H v r => ∃ p, v = .ref p ∧ p ≠ D ∧ H p = some (.lst (r.map optI)))
      (fun _ _ _ _ e z => by obtain ⟨p, h1, h2, h3⟩ := z; exact ⟨p, h1, h2, e _ _ h3⟩) (fun _ _ _ _ _ hD z => by obtain ⟨p, h1, h2, h3⟩ := z; exact ⟨p, h1, h2, by rw [upd_ne h2]; exact h3⟩) hD (by rw [hl]; exact sl_lt (by omega)) (fun H' e => (hx.ext e0).ext e)
      (fun v r H' hr hq e hDD Q1 k1 => ⟨rfl, ?_⟩) (fun H3 acc e3 hD3 hP3 => ?_)⟩
    · obtain ⟨p, rfl, hq⟩ := hq
      have := gT.rowz r hr
      obtain ⟨ac, hac⟩ := hDD
      exact ⟨_, rfl, p, r, rfl, hq.ext e, by omega, fun q H4 e4 hT4 hq0 => k1 _ _ e4 ⟨q, rfl, (fun z => by rw [z, hac] at hq0; cases hq0), hT4⟩⟩
    · exact k D _ (e0.trans e3) ⟨acc, SqL.of hD3, prd_mono (fun _ _ z => by obtain ⟨p, h1, _, h3⟩ := z; exact ⟨p, h1, SqL.of h3⟩) hP3⟩
abbrev s__law_tool : Stmt := top 51
theorem sc__law_tool : FnScope ["_law_plan"] ["_law_plan"] (defScope s__law_tool) := ⟨rfl, rfl, rfl, by decide +kernel, rfl, by decide +kernel, by decide +kernel⟩
def sp__law_tool (K : PySem.W.Frag) : Sp := fun vs H Q _ => ∃ pv plan, vs = [pv] ∧ PlanV K H pv plan ∧ ∀ v H', Ext H H' → PlanAt K H' v plan → Q v H'
theorem c__law_tool (T : Txt K mg) : Cal P w K mg base 7 "_law_tool" (sp__law_tool K) := by
  refine T.d__law_tool.cal sc__law_tool (fun _ _ _ _ _ _ us hl => match us, hl with | [_], _ => rfl) (fun vs H Q E h => ?_) (fun f cdv A outer s H vs Q E hr h => ?_)
  · obtain ⟨pz, plan, rfl, _⟩ := h
    rfl
  · obtain ⟨pz, plan, rfl, hP, k⟩ := h
    refine ⟨_, (pss_one (ps_ret (pe_ifExp (pt_cmpR op_isN (pv 0) pe_non (nomark _)) pe_non (pe_mk T.a_mk (c_Automaton___init__ T) hr (by decide) rfl T.g_Automaton (pa_cons (pe_c (c_lz2 T) hr (by decide) rfl (pa_cons (pe_ix (ix_tupK (K := K)) (pv 0) pe_int (fun _ _ => rfl)) pa_nil)) (pa_cons (pe_callTy (call_listK (K := K)) rfl T.n_list bt_list (pa_cons (pe_ix (ix_tupK (K := K)) (pv 0) pe_int (fun _ _ => rfl)) pa_nil)) pa_nil)))))), ?_⟩
    cases plan with
    | none =>
      rw [show pz = .non from hP]
      exact ⟨_, rfl, rfl, _, rfl, iteT (k _ _ Ext.rfl' rfl)⟩
    | some q =>
      obtain ⟨rows, cl⟩ := q
      obtain ⟨q, a, c, rfl, hq, hT, hC, gT, gC⟩ := hP
      refine ⟨_, rfl, rfl, _, rfl, iteF ⟨_, rfl, _, _, _, _, rfl, rfl, hq, at0, a, rows, rfl, hT, gT, fun a2 H1 e1 hT1 => ?_⟩⟩
      refine ⟨_, rfl, _, _, _, _, rfl, rfl, hq.ext e1, atI_nat (j := 1) rfl, _, _, rfl, .inl (hC.ext e1), fun c2 hc2 => ?_⟩
      have e2 := Ext.upd (o := .lst (cl.map V.int)) hc2
      have hC2 : (upd H1 c2 (.lst (cl.map V.int))) c2 = some (.lst (cl.map V.int)) := upd_same
      have hT2 := hT1.ext e2
      revert e2 hC2 hT2
      generalize upd H1 c2 (.lst (cl.map V.int)) = H2
      intro e2 hC2 hT2 x dx hx hdx hne
      have eX : Ext H2 (upd (upd H2 dx (.own x)) x (.ins (cA K) dx [])) := (Ext.upd hdx).trans (Ext.upd (by rw [upd_ne (Ne.symm hne)]; exact hx))
      refine ⟨x, a2, c2, dx, rows, cl, rfl, upd_same, hT2.ext eX, (SqL.of hC2).ext eX, gT, gC, fun H3 b3 hA => ⟨rfl, k _ _ ?_ ⟨x, rfl, hA, gT, gC.len⟩⟩⟩
      exact (e1.trans e2).trans fun b o hb => b3 b o (eX b o hb) (ne_of_none hb hx)
abbrev s__law_made : Stmt := top 52
theorem sc__law_made : FnScope ["_law_v"] ["_law_v"] (defScope s__law_made) := ⟨rfl, rfl, rfl, by decide +kernel, rfl, by decide +kernel, by decide +kernel⟩
/-- values that a request takes -/
def ValOk (d : ReqD) : Prop := reqOk d.name d.text (some d.most) d.knob (some d.seed) (some d.copies) = true
theorem ValOk.g {d : ReqD} (h : ValOk d) : ReqG d := by
  obtain ⟨h1, h2, h3, h4, h5, h6⟩ := reqOk_iff.mp h
  have h3 := isNum_iff.mp h3
  have h5 := isNum_iff.mp h5
  have h6 := isNum_iff.mp h6
  unfold isName at h1
  unfold isText at h2
  rw [Bool.and_eq_true, lenIn_iff] at h1 h2
  have h1 := h1.1
  have h2 := h2.1
  refine ⟨by omega, ⟨by omega, by omega⟩, h3, ?_, h5, h6⟩
  unfold isKnob at h4
  rw [Bool.or_eq_true, beq_iff_eq, beq_iff_eq] at h4
  rcases h4 with h | h <;> (rw [h]; decide)
def sp__law_made (K : PySem.W.Frag) : Sp := fun vs H Q _ => ∃ (p : Addr) (d : ReqD), vs = [.ref p] ∧ ValAt K H p d ∧ ValOk d ∧ ∀ x H', Ext H H' → ReqAt K H' x d → Q (.ref x) H'
theorem c__law_made (T : Txt K mg) : Cal P w K mg base 8 "_law_made" (sp__law_made K) := by
  refine T.d__law_made.cal sc__law_made (fun _ _ _ _ _ _ us hl => match us, hl with | [_], _ => rfl) (fun vs H Q E h => ?_) (fun f cdv A outer s H vs Q E hr h => ?_)
  · obtain ⟨p, d, rfl, _⟩ := h
    rfl
  · obtain ⟨p, d, rfl, hV, hok, k⟩ := h
    refine ⟨_, (pss_one (ps_ret (pe_mkx (E := E0) T.r_mk (c_Request___init__ T) hr (by decide) rfl T.g_Request passL (pa_cons (pe_ix (ix_listK (K := K)) (pv 0) pe_int (fun _ _ => rfl)) (pa_cons (pe_callTy (call_listK (K := K)) rfl T.n_list bt_list (pa_cons (pe_ix (ix_listK (K := K)) (pv 0) pe_int (fun _ _ => rfl)) pa_nil)) (pa_cons (pe_ix (ix_listK (K := K)) (pv 0) pe_int (fun _ _ => rfl)) pa_nil))) (pk_cons (pe_ix (ix_listK (K := K)) (pv 0) pe_int (fun _ _ => rfl)) (pk_cons (pe_ix (ix_listK (K := K)) (pv 0) pe_int (fun _ _ => rfl)) (pk_cons (pe_ix (ix_listK (K := K)) (pv 0) pe_int (fun _ _ => rfl)) (pk_cons (pe_c (c__law_tool T) hr (by decide) rfl (pa_cons (pe_ix (ix_listK (K := K)) (pv 0) pe_int (fun _ _ => rfl)) pa_nil)) pk_nil))))))), ?_⟩
    obtain ⟨t, pv, hp, ht, hP⟩ := hV
    have g := hok.g
    have gt := g.text
    have gn := g.name
    refine ⟨_, rfl, _, _, _, _, rfl, rfl, SqL.of hp, at0, _, rfl, _, _, _, _, rfl, rfl, SqL.of hp, atI_nat (j := 1) rfl, _, _, rfl, .inl ht, fun t2 ht2 => ?_⟩
    have e1 := Ext.upd (o := .lst (d.text.map V.int)) ht2
    have hT1 : (upd H t2 (.lst (d.text.map V.int))) t2 = some (.lst (d.text.map V.int)) := upd_same
    have hp1 := e1 _ _ hp
    have hP1 := hP.ext e1
    revert e1 hT1 hp1 hP1
    generalize upd H t2 (.lst (d.text.map V.int)) = H1
    intro e1 hT1 hp1 hP1
    refine ⟨_, rfl, _, _, _, _, rfl, rfl, SqL.of hp1, atI_nat (j := 2) rfl, ?_⟩
    refine ⟨_, rfl, _, _, _, _, rfl, rfl, SqL.of hp1, atI_nat (j := 3) rfl, _, rfl, _, _, _, _, rfl, rfl, SqL.of hp1, atI_nat (j := 4) rfl, _, rfl, _, _, _, _, rfl, rfl, SqL.of hp1, atI_nat (j := 5) rfl, _, rfl, _, _, _, _, rfl, rfl, SqL.of hp1, atI_nat (j := 6) rfl, pv, d.plan, rfl, hP1, fun v H2 e2 hA => ?_⟩
    refine ⟨rfl, rfl, fun x dx hx hdx hne => ?_⟩
    have eX : Ext H2 (upd (upd H2 dx (.own x)) x (.ins (cR K) dx [])) := (Ext.upd hdx).trans (Ext.upd (by rw [upd_ne (Ne.symm hne)]; exact hx))
    refine ⟨x, t2, dx, d.name, d.knob, d.text, some d.most, some d.seed, some d.copies, v, d.plan, rfl, upd_same, (SqL.of (e2 _ _ hT1)).ext eX, by omega, by omega, hA.ext eX, fun hn => ?_, fun m s c _ hm hs hc H3 b3 hR => ⟨rfl, ?_⟩⟩
    · have hok2 : reqOk d.name d.text (some d.most) d.knob (some d.seed) (some d.copies) = true := hok
      rw [hok2] at hn
      cases hn
    · cases hm
      cases hs
      cases hc
      exact k x _ ((e1.trans e2).trans fun b o hb => b3 b o (eX b o hb) (ne_of_none hb hx)) hR
end
end K12
namespace K12
open PySem PySem.Spec PyProof.Rows L2 SX
/-! ### told, due -/
def PlanT (K : PySem.W.Frag) (H : Hp) (v : V) : Plan → Prop
  | none => v = .non
  | some (rows, cl) => ∃ q a c, v = .ref q ∧ SqT K H q [.ref a, .ref c] ∧ TabT K H a rows ∧ SqT K H c (cl.map V.int) ∧ GoodT rows ∧ cl.length ≤ 60
theorem PlanT.ext {K : PySem.W.Frag} {H H' : Hp} {v : V} {p : Plan} (h : PlanT K H v p) (e : Ext H H') : PlanT K H' v p := by
  cases p with
  | none => exact h
  | some q =>
    obtain ⟨q, a, c, h1, h2, h3, h4, h5⟩ := h
    exact ⟨q, a, c, h1, h2.ext e, h3.ext e, h4.ext e, h5⟩
def DatT (K : PySem.W.Frag) (H : Hp) (p : Addr) (d : ReqD) : Prop := ∃ t pl, SqL K H p (valV d t pl) ∧ SqT K H t (d.text.map V.int) ∧ PlanT K H pl d.plan
theorem DatT.ext {K : PySem.W.Frag} {H H' : Hp} {p : Addr} {d : ReqD} (h : DatT K H p d) (e : Ext H H') : DatT K H' p d := by
  obtain ⟨t, pl, h1, h2, h3⟩ := h
  exact ⟨t, pl, h1.ext e, h2.ext e, h3.ext e⟩
theorem same_int {K : PySem.W.Frag} {H : Hp} {n : Nat} (i : Int) : Same K H n (.int i) (.int i) := .atom (.inr (.inl ⟨i, rfl, rfl⟩))
theorem same_str {K : PySem.W.Frag} {H : Hp} {n : Nat} (z : Str) : Same K H n (.str z) (.str z) := .atom (.inr (.inr ⟨z, rfl, rfl⟩))
theorem same_non {K : PySem.W.Frag} {H : Hp} {n : Nat} : Same K H n .non .non := .atom (.inl ⟨rfl, rfl⟩)
theorem same_opt {K : PySem.W.Frag} {H : Hp} {n : Nat} (o : Option Int) : Same K H n (optI o) (optI o) := by
  cases o with
  | none => exact same_non
  | some i => exact same_int i
theorem same_map {K : PySem.W.Frag} {H : Hp} {n : Nat} {α : Type} (f : α → V) (h : ∀ a, Same K H n (f a) (f a)) : ∀ l : List α, Paired (Same K H n) (l.map f) (l.map f)
  | [] => .nil
  | a :: l => .cons (h a) (same_map f h l)
theorem prd_both {α β γ : Type} {R : α → β → Prop} {R' : γ → β → Prop} {Z : α → γ → Prop} (h : ∀ a b c, R a b → R' c b → Z a c) : ∀ {xs : List α} {ys : List γ} {bs : List β}, Paired R xs bs → Paired R' ys bs → Paired Z xs ys
  | _, _, _, .nil, .nil => .nil
  | _, _, _, .cons r t, .cons r' t' => .cons (h _ _ _ r r') (prd_both h t t')
theorem prd_in {α β : Type} {R : α → β → Prop} : ∀ {xs : List α} {bs : List β}, Paired R xs bs → Paired (fun a b => R a b ∧ b ∈ bs) xs bs
  | _, _, .nil => .nil
  | _, _, .cons r t => .cons ⟨r, List.mem_cons_self⟩ (prd_mono (fun _ _ z => ⟨z.1, List.mem_cons_of_mem _ z.2⟩) (prd_in t))
theorem same_tab {K : PySem.W.Frag} {H : Hp} {a b : Addr} {rows : List Row} (g : GoodT rows) (h1 : TabT K H a rows) (h2 : TabT K H b rows) : Same K H 2 (.ref a) (.ref b) := by
  obtain ⟨xs, hx, hp⟩ := h1
  obtain ⟨ys, hy, hq⟩ := h2
  have hl := prd_len hp
  have gl := g.len
  refine .inr ⟨a, b, xs, ys, rfl, rfl, .inr ⟨hx, hy⟩, by omega, ?_⟩
  refine prd_both (R := fun v r => RowT K H v r ∧ r ∈ rows) (R' := fun v r => RowT K H v r) (fun v r u h h' => ?_) (prd_in hp) hq
  obtain ⟨⟨p, rfl, hp2⟩, hm⟩ := h
  obtain ⟨q, rfl, hq2⟩ := h'
  have := g.rowz r hm
  exact .inr ⟨p, q, _, _, rfl, rfl, .inr ⟨hp2, hq2⟩, by rw [List.length_map]; omega, same_map optI (fun o => same_opt o) r⟩
theorem same_ints {K : PySem.W.Frag} {H : Hp} {n : Nat} {a b : Addr} {ns : List Int} (hz : ns.length ≤ 100) (h1 : SqT K H a (ns.map V.int)) (h2 : SqT K H b (ns.map V.int)) : Same K H (n + 1) (.ref a) (.ref b) :=
  .inr ⟨a, b, _, _, rfl, rfl, .inr ⟨h1, h2⟩, by rw [List.length_map]; exact hz, same_map V.int (fun i => same_int i) ns⟩
theorem Same.up {K : PySem.W.Frag} {H : Hp} : ∀ {n : Nat} {x y : V}, Same K H n x y → Same K H (n + 1) x y
  | 0, _, _, h => .inl h
  | n + 1, _, _, h => by
    rcases h with h | ⟨a, b, xs, ys, h1, h2, h3, h4, h5⟩
    · exact .inl h
    · exact .inr ⟨a, b, xs, ys, h1, h2, h3, h4, prd_mono (fun _ _ z => Same.up z) h5⟩
theorem same_dat {K : PySem.W.Frag} {H : Hp} {p q : Addr} {d : ReqD} (g : ReqG d) (h1 : DatT K H p d) (h2 : DatT K H q d) : Same K H 4 (.ref p) (.ref q) := by
  obtain ⟨t, pl, a1, a2, a3⟩ := h1
  obtain ⟨u, ql, b1, b2, b3⟩ := h2
  have gt := g.text
  refine .inr ⟨p, q, _, _, rfl, rfl, .inl ⟨a1, b1⟩, by show 7 ≤ 100; decide, .cons (same_str _) (.cons (same_ints (by omega) a2 b2) (.cons (same_int _) (.cons (same_str _) (.cons (same_int _) (.cons (same_int _) (.cons ?_ .nil))))))⟩
  cases hp : d.plan with
  | none =>
    rw [hp] at a3 b3
    rw [show pl = .non from a3, show ql = .non from b3]
    exact same_non
  | some z =>
    obtain ⟨rows, cl⟩ := z
    rw [hp] at a3 b3
    obtain ⟨q1, a, c, rfl, e2, e3, e4, e5, e6⟩ := a3
    obtain ⟨q2, a', c', rfl, f2, f3, f4, _⟩ := b3
    exact .inr ⟨q1, q2, _, _, rfl, rfl, .inr ⟨e2, f2⟩, by show 2 ≤ 100; decide, .cons (same_tab e5 e3 f3) (.cons (same_ints (n := 1) (by omega) e4 f4) .nil)⟩
section
variable {P : Program} {w : World} {K : PySem.W.Frag} {mg : Str → Option Value} {base : Heap}
abbrev s__law_told : Stmt := top 55
theorem sc__law_told : FnScope ["_law_asked", "_law_tool_here", "_law_plan"] ["_law_asked"] (defScope s__law_told) := ⟨rfl, rfl, rfl, by decide +kernel, rfl, by decide +kernel, by decide +kernel⟩
def sp__law_told (K : PySem.W.Frag) : Sp := fun vs H Q _ => ∃ (x : Addr) (d : ReqD), vs = [.ref x] ∧ ReqAt K H x d ∧ ∀ p H', Ext H H' → DatT K H' p d → Q (.ref p) H'
theorem c__law_told (T : Txt K mg) : Cal P w K mg base 1 "_law_told" (sp__law_told K) := by
  refine T.d__law_told.cal sc__law_told (fun _ _ _ _ _ _ us hl => match us, hl with | [_], _ => rfl) (fun vs H Q E h => ?_) (fun f cdv A outer s H vs Q E hr h => ?_)
  · obtain ⟨x, d, rfl, _⟩ := h
    rfl
  · obtain ⟨x, d, rfl, hR, k⟩ := h
    refine ⟨_, (pss_cons (ps_set (i := 1) sc__law_told.nd rfl (Or.inl rfl) (pe_fldK (K := K) (pv 0) rfl))
  (pss_cons (ps_set (i := 2) sc__law_told.nd rfl (Or.inl rfl) (pe_ifExp (pt_cmpR op_isN (pv 1) pe_non (nomark _)) pe_non (pe_tup (pa_cons (pe_fldK (K := K) (pv 1) rfl) (pa_cons (pe_fldK (K := K) (pv 1) rfl) pa_nil)))))
  (pss_one (ps_ret (pe_lst (pa_cons (pe_fldK (K := K) (pv 0) rfl) (pa_cons (pe_fldK (K := K) (pv 0) rfl) (pa_cons (pe_fldK (K := K) (pv 0) rfl) (pa_cons (pe_fldK (K := K) (pv 0) rfl) (pa_cons (pe_fldK (K := K) (pv 0) rfl) (pa_cons (pe_fldK (K := K) (pv 0) rfl) (pa_cons (pv 2) pa_nil)))))))))))), ?_⟩
    obtain ⟨dx, pt, av, hx, hT, hP⟩ := hR
    have fin : ∀ (pl : V) (H2 : Hp), Ext H H2 → PlanT K H2 pl d.plan → ∀ v1, tRet (tLst (tCons (tFld K (tVar 0) "name") (tCons (tFld K (tVar 0) "text") (tCons (tFld K (tVar 0) "most") (tCons (tFld K (tVar 0) "knob") (tCons (tFld K (tVar 0) "seed") (tCons (tFld K (tVar 0) "copies") (tCons (tVar 2) tNil)))))))) { nx := fun _ H' => Q .non H', rt := Q } [some (.ref x), v1, some pl] H2 := by
      intro pl H2 e2 hpl v1
      have hx2 := e2 _ _ hx
      refine ⟨_, rfl, _, cR K, _, _, _, rfl, hx2, T.r_cls, T.r_no_name, lkR_name, _, rfl, _, cR K, _, _, _, rfl, hx2, T.r_cls, T.r_no_text, lkR_text, _, rfl, _, cR K, _, _, _, rfl, hx2, T.r_cls, T.r_no_most, lkR_most, _, rfl, _, cR K, _, _, _, rfl, hx2, T.r_cls, T.r_no_knob, lkR_knob, _, rfl, _, cR K, _, _, _, rfl, hx2, T.r_cls, T.r_no_seed, lkR_seed, _, rfl, _, cR K, _, _, _, rfl, hx2, T.r_cls, T.r_no_copies, lkR_copies, _, rfl, (by show 7 ≤ sizeLine; decide), fun p hp => ?_⟩
      have e3 := Ext.upd (o := .lst (valV d pt pl)) hp
      exact k p _ (e2.trans e3) ⟨pt, pl, SqL.of upd_same, hT.ext (e2.trans e3), hpl.ext e3⟩
    cases hp : d.plan with
    | none =>
      rw [hp] at hP
      rw [show av = .non from hP] at hx
      exact ⟨_, rfl, _, cR K, _, _, _, rfl, hx, T.r_cls, T.r_no_automaton, lkR_automaton, _, rfl, rfl, _, rfl, iteT (fin .non H Ext.rfl' (by rw [hp]; rfl) _)⟩
    | some q =>
      obtain ⟨rows, cl⟩ := q
      rw [hp] at hP
      obtain ⟨y, rfl, ⟨dy, qt, qc, qn, hy, hTt, hCt, hNt⟩, gT, hcl⟩ := hP
      refine ⟨_, rfl, _, cR K, _, _, _, rfl, hx, T.r_cls, T.r_no_automaton, lkR_automaton, _, rfl, rfl, _, rfl, iteF ⟨_, rfl, y, cA K, dy, _, _, rfl, hy, T.a_cls, T.a_no_table, lkA_table, _, rfl, y, cA K, dy, _, _, rfl, hy, T.a_cls, T.a_no_closing, lkA_closing, (by show 2 ≤ sizeLine; decide), fun q hq => ?_⟩⟩
      have e3 := Ext.upd (o := .tup [.ref qt, .ref qc]) hq
      exact fin (.ref q) _ e3 (by rw [hp]; exact ⟨q, qt, qc, rfl, SqT.of upd_same, hTt.ext e3, hCt.ext e3, gT, hcl⟩) _
abbrev s__law_due : Stmt := top 56
theorem sc__law_due : FnScope ["_law_v", "_law_plan"] ["_law_v"] (defScope s__law_due) := ⟨rfl, rfl, rfl, by decide +kernel, rfl, by decide +kernel, by decide +kernel⟩
def sp__law_due (K : PySem.W.Frag) : Sp := fun vs H Q _ => ∃ (x : Addr) (d : ReqD), vs = [.ref x] ∧ ValAt K H x d ∧ ∀ p H', Ext H H' → DatT K H' p d → Q (.ref p) H'
theorem c__law_due (T : Txt K mg) : Cal P w K mg base 5 "_law_due" (sp__law_due K) := by
  refine T.d__law_due.cal sc__law_due (fun _ _ _ _ _ _ us hl => match us, hl with | [_], _ => rfl) (fun vs H Q E h => ?_) (fun f cdv A outer s H vs Q E hr h => ?_)
  · obtain ⟨x, d, rfl, _⟩ := h
    rfl
  · obtain ⟨x, d, rfl, hV, k⟩ := h
    refine ⟨_, (pss_cons (ps_set (i := 1) sc__law_due.nd rfl (Or.inl rfl) (pe_ifExp (pt_cmpR op_isN (pe_ix (ix_listK (K := K)) (pv 0) pe_int (fun _ _ => rfl)) pe_non (nomark _)) pe_non (pe_tup (pa_cons (pe_c (c_fz2 T) hr (by decide) rfl (pa_cons (pe_ix (ix_tupK (K := K)) (pe_ix (ix_listK (K := K)) (pv 0) pe_int (fun _ _ => rfl)) pe_int (fun _ _ => rfl)) pa_nil)) (pa_cons (pe_callTy (call_tupleK (K := K)) rfl T.n_tuple bt_tuple (pa_cons (pe_ix (ix_tupK (K := K)) (pe_ix (ix_listK (K := K)) (pv 0) pe_int (fun _ _ => rfl)) pe_int (fun _ _ => rfl)) pa_nil)) pa_nil)))))
  (pss_one (ps_ret (pe_lst (pa_cons (pe_ix (ix_listK (K := K)) (pv 0) pe_int (fun _ _ => rfl)) (pa_cons (pe_callTy (call_tupleK (K := K)) rfl T.n_tuple bt_tuple (pa_cons (pe_ix (ix_listK (K := K)) (pv 0) pe_int (fun _ _ => rfl)) pa_nil)) (pa_cons (pe_ix (ix_listK (K := K)) (pv 0) pe_int (fun _ _ => rfl)) (pa_cons (pe_ix (ix_listK (K := K)) (pv 0) pe_int (fun _ _ => rfl)) (pa_cons (pe_ix (ix_listK (K := K)) (pv 0) pe_int (fun _ _ => rfl)) (pa_cons (pe_ix (ix_listK (K := K)) (pv 0) pe_int (fun _ _ => rfl)) (pa_cons (pv 1) pa_nil))))))))))), ?_⟩
    obtain ⟨t, pl, hx, ht, hP⟩ := hV
    have fin : ∀ (ql : V) (H2 : Hp), Ext H H2 → PlanT K H2 ql d.plan → tRet (tLst (tCons (tOp (rIxL K) (tVar 0) (tC (.int 0))) (tCons (tCB (rTupleS K) (tCons (tOp (rIxL K) (tVar 0) (tC (.int 1))) tNil)) (tCons (tOp (rIxL K) (tVar 0) (tC (.int 2))) (tCons (tOp (rIxL K) (tVar 0) (tC (.int 3))) (tCons (tOp (rIxL K) (tVar 0) (tC (.int 4))) (tCons (tOp (rIxL K) (tVar 0) (tC (.int 5))) (tCons (tVar 1) tNil)))))))) { nx := fun _ H' => Q .non H', rt := Q } [some (.ref x), some ql] H2 := by
      intro ql H2 e2 hql
      have hx2 := e2 _ _ hx
      refine ⟨_, rfl, _, _, _, _, rfl, rfl, SqL.of hx2, at0, _, rfl, _, _, _, _, rfl, rfl, SqL.of hx2, atI_nat (j := 1) rfl, _, _, rfl, .inl ⟨ht.ext e2, fun l hl => ?_⟩⟩
      have e3 := Ext.upd (o := .tup (d.text.map V.int)) hl
      have hx3 := e3 _ _ hx2
      have hL3 : (upd H2 l (.tup (d.text.map V.int))) l = some (.tup (d.text.map V.int)) := upd_same
      refine ⟨_, rfl, _, _, _, _, rfl, rfl, SqL.of hx3, atI_nat (j := 2) rfl, _, rfl, _, _, _, _, rfl, rfl, SqL.of hx3, atI_nat (j := 3) rfl, _, rfl, _, _, _, _, rfl, rfl, SqL.of hx3, atI_nat (j := 4) rfl, _, rfl, _, _, _, _, rfl, rfl, SqL.of hx3, atI_nat (j := 5) rfl, _, rfl, (by show 7 ≤ sizeLine; decide), fun p hp => ?_⟩
      have e4 := Ext.upd (o := .lst (valV d l ql)) hp
      exact k p _ ((e2.trans e3).trans e4) ⟨l, ql, SqL.of upd_same, SqT.of (e4 _ _ hL3), hql.ext (e3.trans e4)⟩
    cases hp : d.plan with
    | none =>
      rw [hp] at hP
      rw [show pl = .non from hP] at hx
      exact ⟨_, rfl, _, _, _, _, rfl, rfl, SqL.of hx, atI_nat (j := 6) rfl, rfl, _, rfl, iteT (fin .non H Ext.rfl' (by rw [hp]; rfl))⟩
    | some q =>
      obtain ⟨rows, cl⟩ := q
      rw [hp] at hP
      obtain ⟨q, a, c, rfl, hq, hT, hC, gT, gC⟩ := hP
      refine ⟨_, rfl, _, _, _, _, rfl, rfl, SqL.of hx, atI_nat (j := 6) rfl, rfl, _, rfl, iteF ⟨_, rfl, _, _, _, _, rfl, rfl, SqL.of hx, atI_nat (j := 6) rfl, _, _, _, _, rfl, rfl, hq, at0, a, rows, rfl, hT, gT, fun a2 H1 e1 hT1 => ?_⟩⟩
      refine ⟨_, rfl, _, _, _, _, rfl, rfl, SqL.of (e1 _ _ hx), atI_nat (j := 6) rfl, _, _, _, _, rfl, rfl, hq.ext e1, atI_nat (j := 1) rfl, _, _, rfl, .inl ⟨hC.ext e1, fun c2 hc2 => ⟨(by show 2 ≤ sizeLine; decide), fun z hz => ?_⟩⟩⟩
      have e2 := Ext.upd (o := .tup (cl.map V.int)) hc2
      have e3 := Ext.upd (o := .tup [.ref a2, .ref c2]) hz
      exact fin (.ref z) _ (e1.trans (e2.trans e3)) (by rw [hp]; exact ⟨z, a2, c2, rfl, SqT.of upd_same, hT1.ext (e2.trans e3), SqT.of (e3 _ _ upd_same), gT, gC.len⟩)
end
end K12
namespace K12
open PySem PySem.Spec PyProof.Rows L2 SX
/-! ### a line that was read is written again -/
theorem join_spl1 (c : Nat) (hc : c < 256) (w : List Nat) : TL.joinL [c] (TL.spl [c] 0 [] w) = w := by
  have h := PySem.StrLaws.join_split (S w) (S [c])
  rw [SX.split_S (List.cons_ne_nil _ _) (by simpa using hc), ← TL.join_eq, SX.join_S] at h
  exact S_inj h
theorem cell_back {c : Nat} (h : okC c = true) : cellL (cellR c) = [c] := by
  unfold okC at h
  rw [Bool.or_eq_true, decide_eq_true_eq] at h
  unfold cellR
  rcases h with h | h
  · rw [if_pos h, h]
    rfl
  · obtain ⟨h1, h2⟩ := digC_iff.mp h
    rw [if_neg (by omega)]
    show [48 + ((c : Int) - 48).toNat] = [c]
    congr 1
    omega
theorem endL_eq {p : List Nat} (h : endsP p = true) : p = p.dropLast ++ [43] := by
  have h1 : p.drop (p.length - 1) = [43] := of_decide_eq_true h
  have h2 := List.take_append_drop (p.length - 1) p
  rw [h1, ← List.dropLast_eq_take] at h2
  exact h2.symm
theorem row_back {p : List Nat} (h : okP p = true) : stWord (rowR p) (endsP p) = p := by
  have hb : (rowR p).flatMap cellL = bodyL p := by
    unfold rowR
    have h1 := List.all_eq_true.mp h
    generalize bodyL p = l at h1
    induction l with
    | nil => rfl
    | cons c r ih =>
      rw [List.map_cons, List.flatMap_cons, cell_back (h1 c List.mem_cons_self), ih fun x hx => h1 x (List.mem_cons_of_mem _ hx)]
      rfl
  unfold stWord
  rw [hb]
  unfold bodyL
  cases e : endsP p with
  | false => rw [if_neg Bool.false_ne_true, if_neg Bool.false_ne_true, List.append_nil]
  | true =>
    rw [if_pos rfl, if_pos rfl]
    exact (endL_eq e).symm
theorem mem_ends {ps : List (List Nat)} {i : Nat} {p : List Nat} (h : ps[i]? = some p) : decide (((i : Nat) : Int) ∈ endsOf ps) = endsP p := by
  rw [Bool.eq_iff_iff, decide_eq_true_eq]
  unfold endsOf
  constructor
  · intro hm
    obtain ⟨q, hq, e⟩ := List.mem_map.mp hm
    obtain ⟨h1, h2⟩ := List.mem_filter.mp hq
    have h3 := List.mem_zipIdx_iff_getElem?.mp h1
    have : q.2 = i := by omega
    rw [this, h] at h3
    rw [Option.some.inj h3]
    exact h2
  · intro hp
    exact List.mem_map.mpr ⟨(p, i), List.mem_filter.mpr ⟨List.mem_zipIdx_iff_getElem?.mpr h, hp⟩, rfl⟩
theorem word_back {w : List Nat} {rows : List Row} {cl : List Int} (h : readW w = some (rows, cl)) : autWord rows cl = w := by
  obtain ⟨h1, _, rfl, rfl⟩ := readW_good h
  unfold autWord
  have e : autPieces ((TL.spl [47] 0 [] w).map rowR) (endsOf (TL.spl [47] 0 [] w)) = TL.spl [47] 0 [] w := by
    generalize TL.spl [47] 0 [] w = ps at h1
    unfold autPieces
    refine List.ext_getElem? fun i => ?_
    rw [List.getElem?_map, List.getElem?_zipIdx, List.getElem?_map]
    cases hp : ps[i]? with
    | none => rfl
    | some p =>
      show some (stWord (rowR p) (decide (((0 + i : Nat) : Int) ∈ endsOf ps))) = some p
      rw [Nat.zero_add, mem_ends hp, row_back (List.all_eq_true.mp h1 p (List.mem_of_getElem? hp))]
  rw [e, join_spl1 47 (by decide)]
theorem num_back {w : List Nat} {lo hi n : Int} (h : readN w lo hi = some n) : TL.numL n.toNat = w := by
  unfold readN at h
  by_cases hc : canonW w = true ∧ lo ≤ (PySem.NumText.digitsVal w : Nat) ∧ ((PySem.NumText.digitsVal w : Nat) : Int) ≤ hi
  · rw [if_pos hc] at h
    rw [← Option.some.inj h]
    exact numL_canon hc.1
  · rw [if_neg hc] at h
    cases h
structure LineOk (line chars : List Nat) (d : ReqD) : Prop where
  back : lineL d chars = line
  ok : ValOk d
  rg : ∀ t ∈ d.text, 0 ≤ t ∧ t < (chars.length : Int)
theorem readL_back {line chars : List Nat} {d : ReqD} (h : readL line chars = some d) : LineOk line chars d := by
  have hj := join_spl1 32 (by decide) line
  unfold readL at h
  generalize TL.spl [32] 0 [] line = ps at h hj
  split at h
  · rename_i w0 w1 w2 w3 w4 w5 w6 w7
    by_cases h0 : w0 = [97, 115, 107]
    rotate_left
    · rw [if_neg h0] at h
      cases h
    rw [if_pos h0] at h
    obtain ⟨plan, m, s, c, hb⟩ := readBody_by h
    have hd := hb.eq
    have hfit := hb.fit
    unfold fitsB at hfit
    rw [Bool.and_eq_true, List.all_eq_true] at hfit
    have hrq := reqOk_iff.mp hb.ok
    have htx := hrq.2.1
    unfold isText at htx
    rw [Bool.and_eq_true, List.all_eq_true] at htx
    have hrg : ∀ t ∈ (w2.map fun c => posI c chars), 1 ≤ t ∧ t < (chars.length : Int) := fun t ht => by
      have h1 := isNum_iff.mp (htx.2 t ht)
      have h2 := of_decide_eq_true (hfit.1 t ht)
      exact ⟨h1.1, h2⟩
    refine ⟨?_, ?_, ?_⟩
    · rw [hd]
      unfold lineL
      rw [← hj]
      congr 1
      unfold lineP
      have e2 : (w2.map fun c => posI c chars).map (at0L chars) = w2 := by
        rw [List.map_map]
        refine (List.map_congr_left fun c hc => ?_).trans (List.map_id' _)
        have h1 := hrg _ (List.mem_map.mpr ⟨c, hc, rfl⟩)
        show at0L chars (posI c chars) = c
        unfold posI at h1 ⊢
        cases hp : posL c chars with
        | none =>
          rw [hp] at h1
          have := h1.1
          exact absurd this (by decide)
        | some i =>
          show chars.getD ((i : Nat) : Int).toNat 0 = c
          have h2 := (posL_some hp).1
          show chars.getD i 0 = c
          rw [List.getD_eq_getElem?_getD, h2]
          rfl
      have e7 : planWord plan = w7 := by
        have hp := hb.rp
        unfold readPlan at hp
        by_cases h7 : w7 = [42]
        · rw [if_pos h7] at hp
          rw [← Option.some.inj hp, h7]
          rfl
        · rw [if_neg h7] at hp
          cases hr : readW w7 with
          | none =>
            rw [hr] at hp
            cases hp
          | some q =>
            rw [hr] at hp
            rw [← Option.some.inj hp]
            exact word_back (rows := q.1) (cl := q.2) hr
      show [[97, 115, 107], (S w1).cps.toList, (w2.map fun c => posI c chars).map (at0L chars), TL.numL m.toNat, (S w4).cps.toList, TL.numL s.toNat, TL.numL c.toNat, planWord plan] = _
      rw [e2, num_back hb.most, num_back hb.seed, num_back hb.cop, e7, h0]
    · rw [hd]
      exact hb.ok
    · rw [hd]
      intro t ht
      have := hrg t ht
      omega
  · cases h
abbrev rJn (K : PySem.W.Frag) : V → List V → Hp → VK → Prop := fun x xs H Q => ∃ a p ys, x = V.str a ∧ xs = [V.ref p] ∧ (SqL K H p (List.map V.str ys) ∨ SqT K H p (List.map V.str ys)) ∧ (List.map (fun x => x.length) ys).sum + ys.length * a.length ≤ 16777216 ∧ Q (V.str (Txt.join a ys)) H
theorem sum_S (l : List (List Nat)) : ((l.map S).map (·.length)).sum = (l.map List.length).sum := by
  rw [List.map_map]
  congr 1
section
variable {P : Program} {w : World} {K : PySem.W.Frag} {mg : Str → Option Value} {base : Heap}
abbrev s__law_line : Stmt := top 53
theorem sc__law_line : FnScope ["_law_v", "_law_chars", "_law_word_here", "_law_numbers", "_law_a"] ["_law_v", "_law_chars"] (defScope s__law_line) := ⟨rfl, rfl, rfl, by decide +kernel, rfl, by decide +kernel, by decide +kernel⟩
def sp__law_line (K : PySem.W.Frag) : Sp := fun vs H Q _ => ∃ (p : Addr) (d : ReqD) (chars : List Nat), vs = [.ref p, .str (S chars)] ∧ ValAt K H p d ∧ ReqG d ∧ chars.length ≤ 1000 ∧ (∀ t ∈ d.text, 0 ≤ t ∧ t < (chars.length : Int)) ∧ ∀ H', Ext H H' → Q (.str (S (lineL d chars))) H'
theorem c__law_line (T : Txt K mg) : Cal P w K mg base 2 "_law_line" (sp__law_line K) := by
  refine T.d__law_line.cal sc__law_line (fun _ _ _ _ _ _ us hl => match us, hl with | [_, _], _ => rfl) (fun vs H Q E h => ?_) (fun f cdv A outer s H vs Q E hr h => ?_)
  · obtain ⟨p, d, chars, rfl, _⟩ := h
    rfl
  · obtain ⟨p, d, chars, rfl, hV, hG, hz, ht, k⟩ := h
    refine ⟨_, (pss_cons (ps_set (i := 2) sc__law_line.nd rfl (Or.inl rfl) (pe_ifExp (pt_cmpR op_isN (pe_ix (ix_listK (K := K)) (pv 0) pe_int (fun _ _ => rfl)) pe_non (nomark _)) pe_str (pe_c (c__law_word T) hr (by decide) rfl (pa_cons (pe_ix (ix_tupK (K := K)) (pe_ix (ix_listK (K := K)) (pv 0) pe_int (fun _ _ => rfl)) pe_int (fun _ _ => rfl)) (pa_cons (pe_ix (ix_tupK (K := K)) (pe_ix (ix_listK (K := K)) (pv 0) pe_int (fun _ _ => rfl)) pe_int (fun _ _ => rfl)) pa_nil)))))
  (pss_cons (ps_set (i := 3) sc__law_line.nd rfl (Or.inl rfl) (pe_lst (pa_cons (pe_c (c__law_numeral T) hr (by decide) rfl (pa_cons (pe_ix (ix_listK (K := K)) (pv 0) pe_int (fun _ _ => rfl)) pa_nil)) (pa_cons (pe_ix (ix_listK (K := K)) (pv 0) pe_int (fun _ _ => rfl)) (pa_cons (pe_c (c__law_numeral T) hr (by decide) rfl (pa_cons (pe_ix (ix_listK (K := K)) (pv 0) pe_int (fun _ _ => rfl)) pa_nil)) (pa_cons (pe_c (c__law_numeral T) hr (by decide) rfl (pa_cons (pe_ix (ix_listK (K := K)) (pv 0) pe_int (fun _ _ => rfl)) pa_nil)) pa_nil))))))
  (pss_one (ps_ret (pe_join pe_str (pe_op op_cat (pe_op op_cat (pe_lst (pa_cons pe_str (pa_cons (pe_ix (ix_listK (K := K)) (pv 0) pe_int (fun _ _ => rfl)) (pa_cons (pe_join pe_str (pe_lc (own := [("_law_a", 4)]) (g := gName 4) (tt := tYes) rfl sc__law_line.nd (pi_listK (K := K) (pe_ix (ix_listK (K := K)) (pv 0) pe_int (fun _ _ => rfl))) (blkOk_by (by kernel_rfl)) (fun _ _ _ _ _ => (pg_name (i := 4) sc__law_line.nd rfl (Or.inl rfl))) (fun _ _ _ _ _ => pts_nil) (fun _ _ _ _ _ => (pe_ix ix_str (pv 1) (pv 4) (fun _ _ => rfl))))) pa_nil)))) (pv 3)) (pe_lst (pa_cons (pv 2) pa_nil)))))))), ?_⟩
    obtain ⟨t, pl, hx, hT, hP⟩ := hV
    have gt := hG.text
    have gm := hG.most
    have gs := hG.seed
    have gc := hG.copies
    have numM : ∀ n : Int, 0 ≤ n → numeralL n = TL.numL n.toNat := fun n hn => by
      unfold numeralL
      rw [if_neg (by omega), List.nil_append, show n.natAbs = n.toNat by omega]
    have big : ∀ n : Int, 0 ≤ n → n ≤ 9999 → n.natAbs < 10 ^ 40 := fun n h1 h2 => Nat.lt_of_lt_of_le (show n.natAbs < 10 ^ 4 by omega) (Nat.pow_le_pow_right (by decide) (by decide))
    have hnm : d.name = S d.name.cps.toList := S_tl' _
    have hkb : d.knob = S d.knob.cps.toList := S_tl' _
    have gn := hG.name
    have gk := hG.knob
    have hnl : d.name.cps.toList.length ≤ 8 := by rw [hnm, SX.S_len] at gn; exact gn
    have hkl : d.knob.cps.toList.length ≤ 4 := by rw [hkb, SX.S_len] at gk; exact gk
    have l1 := numL_small (n := d.most.toNat) (by omega)
    have l2 := numL_small (n := d.seed.toNat) (by omega)
    have l3 := numL_small (n := d.copies.toNat) (by omega)
    have hlt : (d.text.map (at0L chars)).length ≤ 16 := by rw [List.length_map]; omega
    have fin : ∀ (wd : List Nat) (H2 : Hp), Ext H H2 → wd = planWord d.plan → wd.length ≤ 100 →
        tSeq (tAsg (tLst (tCons (tCall sp__law_numeral [] E0 (tCons (tOp (rIxL K) (tVar 0) (tC (.int 2))) tNil)) (tCons (tOp (rIxL K) (tVar 0) (tC (.int 3))) (tCons (tCall sp__law_numeral [] E0 (tCons (tOp (rIxL K) (tVar 0) (tC (.int 4))) tNil)) (tCons (tCall sp__law_numeral [] E0 (tCons (tOp (rIxL K) (tVar 0) (tC (.int 5))) tNil)) tNil))))) (gName 3))
          (tRet (tM1 (rJn K) (tC (.str (Str.ofString " "))) (tOp rCat (tOp rCat (tLst (tCons (tC (.str (Str.ofString "ask"))) (tCons (tOp (rIxL K) (tVar 0) (tC (.int 0))) (tCons (tM1 (rJn K) (tC (.str (Str.ofString ""))) (tLc (iList K (tOp (rIxL K) (tVar 0) (tC (.int 1)))) (gName 4) tYes (tOp rIxS (tVar 1) (tVar 4)) ([(Str.ofString "_law_a", 4)].map fun x => x.2))) tNil)))) (tVar 3)) (tLst (tCons (tVar 2) tNil)))))
          { nx := fun _ H' => Q .non H', rt := Q } [some (.ref p), some (.str (S chars)), some (.str (S wd)), none, none] H2 := by
      intro wd H2 e2 hwd hwl
      have hx2 := e2 _ _ hx
      refine ⟨_, rfl, _, _, _, _, rfl, rfl, SqL.of hx2, atI_nat (j := 2) rfl, _, rfl, big _ (by omega) (by omega), _, rfl, _, _, _, _, rfl, rfl, SqL.of hx2, atI_nat (j := 3) rfl, _, rfl, _, _, _, _, rfl, rfl, SqL.of hx2, atI_nat (j := 4) rfl, _, rfl, big _ (by omega) (by omega), _, rfl, _, _, _, _, rfl, rfl, SqL.of hx2, atI_nat (j := 5) rfl, _, rfl, big _ (by omega) (by omega), (by show 4 ≤ sizeLine; decide), fun Nz hNz => ?_⟩
      rw [numM d.most (by omega), numM d.seed (by omega), numM d.copies (by omega)]
      have e3 := Ext.upd (o := .lst [.str (S (TL.numL d.most.toNat)), .str d.knob, .str (S (TL.numL d.seed.toNat)), .str (S (TL.numL d.copies.toNat))]) hNz
      have hN3 : (upd H2 Nz (.lst [.str (S (TL.numL d.most.toNat)), .str d.knob, .str (S (TL.numL d.seed.toNat)), .str (S (TL.numL d.copies.toNat))])) Nz = some (.lst [.str (S (TL.numL d.most.toNat)), .str d.knob, .str (S (TL.numL d.seed.toNat)), .str (S (TL.numL d.copies.toNat))]) := upd_same
      have hx3 := e3 _ _ hx2
      have e03 := e2.trans e3
      revert hN3 hx3 e03
      generalize upd H2 Nz (.lst [.str (S (TL.numL d.most.toNat)), .str d.knob, .str (S (TL.numL d.seed.toNat)), .str (S (TL.numL d.copies.toNat))]) = H3
      intro hN3 hx3 e03
      refine ⟨⟨_, rfl⟩, _, rfl, _, _, _, _, rfl, rfl, SqL.of hx3, at0, ⟨_, rfl⟩, _, rfl, _, _, _, _, rfl, rfl, SqL.of hx3, atI_nat (j := 1) rfl, t, rfl, ⟨_, hT.ext e03⟩, fun D hD => lcPLy (prd_map V.int d.text) (fun a => V.str (S [at0L chars a])) (hT.ext e03) hD (by rw [List.length_map]; exact sl_lt (by omega)) (fun v a H' hm hv e Q1 k1 => ⟨rfl, ?_⟩) (fun H4 e4 hl => ?_)⟩
      · subst hv
        obtain ⟨h0, h1⟩ := ht a hm
        obtain ⟨j, rfl⟩ := Int.eq_ofNat_of_zero_le h0
        have hj : j < chars.length := by omega
        refine ⟨_, rfl, _, rfl, _, _, _, rfl, rfl, by rw [SX.S_len]; exact sl_of (by omega), atI_nat (j := j) (List.getElem?_eq_getElem hj), ?_⟩
        have e2 : at0L chars (j : Nat) = chars[j] := by
          show chars.getD j 0 = _
          rw [List.getD_eq_getElem?_getD, List.getElem?_eq_getElem hj]
          rfl
        have k2 := k1 _ Ext.rfl'
        rw [e2] at k2
        exact k2
      have hl2 : H4 D = some (.lst ((d.text.map fun t => [at0L chars t]).map fun l => V.str (S l))) := by
        rw [hl, List.map_map]
        rfl
      have hfl : (d.text.map fun t => [at0L chars t]).flatten = d.text.map (at0L chars) := by
        rw [← List.flatMap_def]
        induction d.text with
        | nil => rfl
        | cons t r ih => rw [List.flatMap_cons, ih]; rfl
      refine ⟨_, D, (d.text.map fun t => [at0L chars t]).map S, rfl, rfl, .inl (SqL.of (by rw [hl2, List.map_map (g := V.str)]; rfl)), ?_, ?_⟩
      · have h1 := sum_le (m := 1) (d.text.map fun t => [at0L chars t]) fun y hy => by
          obtain ⟨t, _, rfl⟩ := List.mem_map.mp hy
          exact Nat.le_refl 1
        rw [List.length_map] at h1
        rw [empty_S, SX.S_len]
        show _ + _ * 0 ≤ 16777216
        omega
      rw [empty_S, join_nil, hfl]
      refine ⟨(by show 3 ≤ sizeLine; decide), fun A1 hA1 => ?_⟩
      have e5 := Ext.upd (o := .lst [.str (Str.ofString "ask"), .str d.name, .str (S (d.text.map (at0L chars)))]) hA1
      refine ⟨_, rfl, A1, Nz, _, _, rfl, rfl, upd_same, e5 _ _ (e4 _ _ hN3), by show 3 + 4 ≤ sizeLine; decide, fun A2 hA2 => ?_⟩
      have e6 := Ext.upd (o := .lst ([.str (Str.ofString "ask"), .str d.name, .str (S (d.text.map (at0L chars)))] ++ [.str (S (TL.numL d.most.toNat)), .str d.knob, .str (S (TL.numL d.seed.toNat)), .str (S (TL.numL d.copies.toNat))])) hA2
      refine ⟨_, rfl, (by show 1 ≤ sizeLine; decide), fun A3 hA3 => ?_⟩
      have e7 := Ext.upd (o := .lst [.str (S wd)]) hA3
      refine ⟨A2, A3, _, _, rfl, rfl, e7 _ _ upd_same, upd_same, by show 7 + 1 ≤ sizeLine; decide, fun A4 hA4 => ?_⟩
      have e8 := Ext.upd (o := .lst (([.str (Str.ofString "ask"), .str d.name, .str (S (d.text.map (at0L chars)))] ++ [.str (S (TL.numL d.most.toNat)), .str d.knob, .str (S (TL.numL d.seed.toNat)), .str (S (TL.numL d.copies.toNat))]) ++ [.str (S wd)])) hA4
      have ask : (Str.ofString "ask" : Str) = S [97, 115, 107] := by rw [S_ofString]; rfl
      refine ⟨_, A4, (lineP d chars).map S, rfl, rfl, .inl (SqL.of ?_), ?_, ?_⟩
      · rw [upd_same, ask]
        unfold lineP
        rw [← hwd]
        show some (HO.lst _) = some (HO.lst [V.str (S [97, 115, 107]), V.str (S d.name.cps.toList), V.str (S (d.text.map (at0L chars))), V.str (S (TL.numL d.most.toNat)), V.str (S d.knob.cps.toList), V.str (S (TL.numL d.seed.toNat)), V.str (S (TL.numL d.copies.toNat)), V.str (S wd)])
        rw [← hnm, ← hkb]
        rfl
      · rw [sum_S, List.length_map, str1 (s := " ") (c := 32), SX.S_len]
        unfold lineP
        rw [← hwd]
        simp only [List.map_cons, List.map_nil, List.sum_cons, List.sum_nil, List.length_cons, List.length_nil]
        simp only [List.length_map] at hlt ⊢
        omega
      · rw [str1 (s := " ") (c := 32), SX.join_S]
        exact k _ (((e03.trans e4).trans (e5.trans e6)).trans (e7.trans e8))
    cases hp : d.plan with
    | none =>
      rw [hp] at hP
      rw [show pl = .non from hP] at hx
      have h := fin [42] H Ext.rfl' (by rw [hp]; rfl) (by decide)
      rw [← str1 (s := "*") (c := 42)] at h
      exact ⟨_, rfl, _, _, _, _, rfl, rfl, SqL.of hx, atI_nat (j := 6) rfl, rfl, _, rfl, iteT h⟩
    | some q =>
      obtain ⟨rows, cl⟩ := q
      rw [hp] at hP
      obtain ⟨q, a, c, rfl, hq, hTb, hC, gT, gC⟩ := hP
      refine ⟨_, rfl, _, _, _, _, rfl, rfl, SqL.of hx, atI_nat (j := 6) rfl, rfl, _, rfl, iteF ⟨_, rfl, _, _, _, _, rfl, rfl, SqL.of hx, atI_nat (j := 6) rfl, _, _, _, _, rfl, rfl, hq, at0, _, rfl, _, _, _, _, rfl, rfl, SqL.of hx, atI_nat (j := 6) rfl, _, _, _, _, rfl, rfl, hq, atI_nat (j := 1) rfl, a, c, rows, cl, rfl, hTb, hC, gT, gC.len, fun H2 e2 => ?_⟩⟩
      exact fin _ H2 e2 (by rw [hp]; rfl) (autWord_len gT)
end
end K12
namespace K12
open PySem PySem.Spec PyProof.Rows L2 SX
/-! ### _law_read_so -/
structure CalKw (P : Program) (w : World) (K : PySem.W.Frag) (mg : Str → Option Value) (base : Heap) (k : Nat) (x : Str) (ks : List Str) (sp : Sp) (gV : List V → List V → List V) : Prop where
  ex : ∃ (f : Addr) (fd : FuncData) (ps : List Str) (g : List Value → List Value → List Value), FnOk P w K mg base CX0 k f fd ps sp ∧ mg x = some (.ref f) ∧ PySem.W.keepIn K (.ref f) = true ∧ KBn K fd ps 0 ks g gV
theorem pe_ckw {X : Cx} {k j : Nat} {x : Str} {ks : List Str} {sp : Sp} {gV : List V → List V → List V} {p pos : Pos} {kws : List Keyword} {tk : TA} (c : CalKw X.prog X.w X.K X.mg X.base k x ks sp gV) (hr : Room j X.A) (hk : k ≤ j) (hg : Gl X x) (hkw : PK X kws tk)
    (hall : (backToKw pos (keywordEach kws X.env)).all (·.1.isSome) = true := by rfl) (hks : (backToKw pos (keywordEach kws X.env)).filterMap (·.1) = ks := by rfl) (hdb : (x == ("__debug__" : Str)) = false := by decide)
    (hpl : ((backTo pos (starEach [] X.env)).any (·.1) || (backToKw pos (keywordEach kws X.env)).any (·.1.isNone)) = false := by rfl) : PE X (.Call (.Name x p) [] kws pos) (tCallN 0 ks.length sp gV E0 tNil tk) := by
  obtain ⟨f, fd, ps, g, F, hm, kp, hb⟩ := c.ex
  exact pe_kw0 F hr hk hg hm kp hb hkw hall hks hdb hpl
theorem lkR_entry {n t m k s c a : V} : (reqFs n t m k s c a).lookup ("entry" : Str) = none := (look_tl (ne_str (by decide))).trans ((look_tl (ne_str (by decide))).trans ((look_tl (ne_str (by decide))).trans ((look_tl (ne_str (by decide))).trans ((look_tl (ne_str (by decide))).trans ((look_tl (ne_str (by decide))).trans ((look_tl (ne_str (by decide))).trans rfl))))))
def swap2 {α : Type} (us ws : List α) : List α := match ws with
  | [a, b] => us ++ [b, a]
  | _ => ws
theorem swap2_rel {vs zs : List V} {us ws : List Value} (r : Vals vs us) (rz : Vals zs ws) : Vals (swap2 vs zs) (swap2 us ws) := by
  match zs, ws, rz with
  | [], [], rz => exact rz
  | [_], [_], rz => exact rz
  | [_, _], [_, _], .cons r1 (.cons r2 .nil) => exact r.append (.cons r2 (.cons r1 .nil))
  | _ :: _ :: _ :: _, _ :: _ :: _ :: _, rz => exact rz
theorem rcG_reqEq {X : Cx} (T : Txt X.K X.mg) : RcG X 4 (DIns (cR X.K) (eqReq X.K)) := by
  obtain ⟨fd, ps, F, b⟩ := (c_Request___eq__ (P := X.prog) (w := X.w) (base := X.base) T).ex
  exact rcG_ins F T.r_m_eq.at_ T.r_m_eq.fn b (E := E0) pass0
section
variable {P : Program} {w : World} {K : PySem.W.Frag} {mg : Str → Option Value} {base : Heap}
theorem c_read_request_kw (T : Txt K mg) : CalKw P w K mg base 9 "read_request" ["tokens", "line"] (sp_read_request K) swap2 := by
  obtain ⟨fd, F, G⟩ := f_read_request (P := P) (w := w) (base := base) T
  exact ⟨_, fd, _, _, G, T.d_read_request.g, F.kp, kbN F 0 ["tokens", "line"] (fun us ws => swap2 us ws) swap2_rel (fun _ _ _ _ _ _ us ws l1 l2 => match us, l1, ws, l2 with | [], _, [_, _], _ => rfl)⟩
abbrev s__law_read_so : Stmt := top 57
theorem sc__law_read_so : FnScope ["_law_value", "_law_chars", "_law_due_here", "_law_told_here"] ["_law_value", "_law_chars"] (defScope s__law_read_so) := ⟨rfl, rfl, rfl, by decide +kernel, rfl, by decide +kernel, by decide +kernel⟩
def sp__law_read_so (K : PySem.W.Frag) : Sp := fun vs H Q _ => ∃ (v : V) (chars : List Nat), vs = [v, .str (S chars)] ∧ ((∃ T, TyX K H v T ∧ PySem.W.kitOne K T (.type "str") = some false ∧ (∀ H', Ext H H' → TyX K H' v T)) ∨ ∃ line : List Nat, v = .str (S line) ∧ line.length ≤ 40000) ∧ chars.length ≤ 6 ∧ chars.Nodup ∧ ∀ H', Ext H H' → Q (.bl true) H'
theorem c__law_read_so (T : Txt K mg) : Cal P w K mg base 11 "_law_read_so" (sp__law_read_so K) := by
  refine T.d__law_read_so.cal sc__law_read_so (fun _ _ _ _ _ _ us hl => match us, hl with | [_, _], _ => rfl) (fun vs H Q E h => ?_) (fun f cdv A outer s H vs Q E hr h => ?_)
  · obtain ⟨v, chars, rfl, _⟩ := h
    rfl
  · obtain ⟨v, chars, rfl, hv, hz, hnd, k⟩ := h
    refine ⟨_, (pss_cons (ps_par (i := 2) (j := 3) rfl sc__law_read_so.nd rfl rfl (by decide) rfl rfl (pa_cons (pe_c (c__law_read_line T) hr (by decide) rfl (pa_cons (pv 0) (pa_cons (pv 1) pa_nil))) (pa_cons (pe_c (c_read_request T) hr (by decide) rfl (pa_cons (pv 0) (pa_cons (pv 1) pa_nil))) pa_nil)) (by rfl))
  (pss_cons (ps_if (PW.pt (pw_or (pt_cmpR op_isN (pv 2) pe_non (nomark _)) (pw_or1 (pt_cmpR op_isN (pv 3) pe_non (nomark _))))) (pss_one (ps_ret (pe_and (pe_cmpR op_isN (pv 2) pe_non (nomark _)) (pe_one (pe_cmpR op_isN (pv 3) pe_non (nomark _)))))) pss_nil)
  (pss_cons (ps_if (PW.pt (pw_or (pt_not (pt_val (pe_callB (call_isiK' (K := K)) rfl T.n_isinstance bt_isinstance (pa_cons (pv 3) (pa_cons (pe_glob (v := V.ref (cR K)) rfl T.g_Request rfl) pa_nil))))) (pw_or (pt_not (pt_val (pe_c (c_like T 5) hr (by decide) rfl (pa_cons (pe_c (c__law_told T) hr (by decide) rfl (pa_cons (pv 3) pa_nil)) (pa_cons (pe_c (c__law_due T) hr (by decide) rfl (pa_cons (pv 2) pa_nil)) pa_nil))))) (pw_or1 (pt_not (pt_cmpR (op_eqG (rcG_reqEq T) (hr.mono (by decide))) (pv 3) (pe_c (c__law_made T) hr (by decide) rfl (pa_cons (pv 2) pa_nil)) (nomark _))))))) (pss_one (ps_ret pe_bl)) pss_nil)
  (pss_one (ps_ret (pe_and (pe_c (c_like T 1) hr (by decide) rfl (pa_cons (pe_mc (c_Request_entry T) hr (by decide) T.r_cls T.r_m_entry (pv 3) (pa_cons (pv 1) pa_nil)) (pa_cons (pv 0) pa_nil))) (pe_one (pe_cmpR (op_eqG (rcG_reqEq T) (hr.mono (by decide))) (pe_ckw (ks := (["tokens", "line"] : List Str)) (c_read_request_kw T) hr (by decide) rfl (pk_cons (pv 1) (pk_cons (pv 0) pk_nil))) (pv 3) (nomark _))))))))), ?_⟩
    rcases hv with ⟨Ty, hty, hk, hext⟩ | ⟨line, rfl, hl⟩
    · refine ⟨_, rfl, _, rfl, .inl ⟨v, Ty, chars, rfl, hty, hk, fun H1 e1 => ?_⟩⟩
      refine ⟨_, rfl, _, rfl, .inl ⟨v, Ty, chars, rfl, hext _ e1, hk, _, _, rfl, ?_⟩⟩
      exact ⟨_, rfl, rfl, _, rfl, iteT (iteT ⟨_, rfl, rfl, _, rfl, iteT ⟨_, rfl, rfl, k _ e1⟩⟩)⟩
    refine ⟨_, rfl, _, rfl, .inr ⟨line, chars, rfl, hl, hz, hnd, fun hn H1 e1 => ?_, fun d hs p H1 e1 hV => ?_⟩⟩
    · refine ⟨_, rfl, _, rfl, .inr ⟨line, chars, rfl, hl, by omega, fun _ H2 e2 => ⟨_, _, rfl, ?_⟩, fun d hs => ?_⟩⟩
      · exact ⟨_, rfl, rfl, _, rfl, iteT (iteT ⟨_, rfl, rfl, _, rfl, iteT ⟨_, rfl, rfl, k _ (e1.trans e2)⟩⟩)⟩
      · rw [hn] at hs
        cases hs
    have lk := readL_back hs
    have g := lk.ok.g
    refine ⟨_, rfl, _, rfl, .inr ⟨line, chars, rfl, hl, by omega, fun hn => ?_, fun d2 hs2 x H2 e2 hR => ⟨_, _, rfl, ?_⟩⟩⟩
    · rw [hs] at hn
      cases hn
    have ed : d2 = d := by
      rw [hs] at hs2
      exact (Option.some.inj hs2).symm
    subst ed
    have hV2 := hV.ext e2
    obtain ⟨dx, pt, av, hx, _⟩ := id hR
    refine ⟨_, rfl, rfl, _, rfl, iteF ⟨_, rfl, rfl, _, rfl, iteF ?_⟩⟩
    refine ⟨_, rfl, _, _, .ref (cR K), .ref (cR K), true, rfl, .own _, T.r_ty.ty T.r_cls hx, T.r_ty.self, _, rfl, iteF ?_⟩
    refine ⟨_, rfl, x, d2, rfl, hR, fun pt2 H3 e3 hD3 => ⟨_, rfl, p, d2, rfl, hV2.ext e3, fun q H4 e4 hD4 => ⟨_, _, rfl, same_dat g (hD3.ext e4) hD4, fun H5 e5 => ⟨_, rfl, iteF ?_⟩⟩⟩⟩
    have e25 := e3.trans (e4.trans e5)
    refine ⟨_, rfl, _, rfl, p, d2, rfl, hV2.ext e25, lk.ok, fun y H6 e6 hRy => ?_⟩
    have hR6 := hR.ext (e25.trans e6)
    obtain ⟨dx6, _, _, hx6, _⟩ := id hR6
    obtain ⟨dy6, _, _, hy6, _⟩ := id hRy
    refine ⟨⟨x, y, dx6, dy6, _, _, rfl, rfl, hx6, hy6, d2, hR6, hRy⟩, fun H7 e7 => ⟨_, rfl, iteF ?_⟩⟩
    have hR7 := hR6.ext e7
    obtain ⟨dx7, _, _, hx7, _⟩ := id hR7
    refine ⟨_, rfl, x, dx7, _, rfl, hx7, lkR_entry, _, rfl, x, d2, chars, rfl, hR7, g, by omega, lk.rg, fun H8 e8 => ?_⟩
    rw [lk.back]
    refine ⟨_, rfl, _, _, rfl, same_str _, fun H9 e9 => ⟨_, rfl, iteT ?_⟩⟩
    refine ⟨_, rfl, _, rfl, rfl, rfl, .inr ⟨line, chars, rfl, hl, by omega, fun hn => ?_, fun d3 hs3 z H10 e10 hRz => ?_⟩⟩
    · rw [hs] at hn
      cases hn
    have ed : d3 = d2 := by
      rw [hs] at hs3
      exact (Option.some.inj hs3).symm
    subst ed
    have hR10 := hR7.ext ((e8.trans e9).trans e10)
    obtain ⟨dx8, _, _, hx8, _⟩ := id hR10
    obtain ⟨dz8, _, _, hz8, _⟩ := id hRz
    refine ⟨_, rfl, ⟨z, x, dz8, dx8, _, _, rfl, rfl, hz8, hx8, d3, hRz, hR10⟩, fun H11 e11 => k _ ?_⟩
    exact ((((e1.trans e2).trans (e25.trans e6)).trans e7).trans ((e8.trans e9).trans e10)).trans e11
end
end K12
namespace K12
open PySem PySem.Spec PyProof.Rows L2 SX
/-! ### the bag of draws, told -/
def bg (l : Addr) (i1 : Nat) (i2 i3 i4 : Int) : List V := [.ref l, .int i1, .int i2, .int i3, .int i4]
def BgOk (i2 i3 : Int) : Prop := 0 ≤ i2 ∧ 0 ≤ i3 ∧ i3 < 2147483629
theorem r_get {K : PySem.W.Frag} {H : Hp} {p : Addr} {xs : List V} {j : Nat} {v : V} {Q : VK} (h : H p = some (.lst xs)) (hj : xs[j]? = some v) (q : Q v H) : rIxL K (.ref p) (.int (j : Int)) H Q := ⟨_, _, _, _, rfl, rfl, SqL.of h, atI_nat hj, q⟩
theorem r_set {H : Hp} {p : Addr} {xs : List V} {j : Nat} {v : V} {Q : Hp → Prop} (h : H p = some (.lst xs)) (hj : j < xs.length) (q : Q (upd H p (.lst (xs.set j v)))) : rSetL (.ref p) (.int (j : Int)) v H Q := ⟨_, _, _, j, rfl, rfl, h, Evl.ixN_nat hj, q⟩
theorem pow3_ok {i : Int} (h0 : 0 ≤ i) (h1 : i < 2147483629) : CPow i 3 := ⟨by decide, by decide, by omega⟩
section
variable {P : Program} {w : World} {K : PySem.W.Frag} {mg : Str → Option Value} {base : Heap}
abbrev s__law_draw : Stmt := top 33
theorem sc__law_draw : FnScope ["_law_bag_here", "_law_size", "_law_item", "_law_digit"] ["_law_bag_here", "_law_size"] (defScope s__law_draw) := ⟨rfl, rfl, rfl, by decide +kernel, rfl, by decide +kernel, by decide +kernel⟩
def sp0__law_draw (K : PySem.W.Frag) : Sp := fun vs H Q _ => ∃ (b l : Addr) (i1 : Nat) (i2 i3 i4 sz : Int) (ss : List Int), vs = [.ref b, .int sz] ∧ H b = some (.lst (bg l i1 i2 i3 i4)) ∧ H l = some (.lst (ss.map V.int)) ∧ BgOk i2 i3 ∧ 0 < sz ∧ sz < 1073741824 ∧
  ∀ (r : Int) (j1 : Nat) (j2 j3 j4 : Int), 0 ≤ r → r < sz → BgOk j2 j3 → Q (.int r) (upd H b (.lst (bg l j1 j2 j3 j4)))
theorem c0__law_draw (T : Txt K mg) : ∃ (f : Addr) (fd : FuncData), FnOk P w K mg base CX0 1 f fd ["_law_bag_here", "_law_size"] (sp0__law_draw K) ∧ mg "_law_draw" = some (.ref f) ∧ PySem.W.keepIn K (.ref f) = true ∧ Binds K fd ["_law_bag_here", "_law_size"] [] := by
  obtain ⟨fd, F⟩ := T.d__law_draw.f
  refine ⟨_, fd, F.ok sc__law_draw (fun vs H Q E h => ?_) (fun cdv A outer s H vs Q E hr h => ?_), T.d__law_draw.g, F.kp, F.bindsN (fun _ _ _ _ _ _ us hl => match us, hl with | [_, _], _ => rfl)⟩
  · obtain ⟨_, _, _, _, _, _, _, _, rfl, _⟩ := h
    rfl
  · obtain ⟨b, l, i1, i2, i3, i4, sz, ss, rfl, hb, hl, ⟨g2, g3, g3'⟩, z0, z1, k⟩ := h
    have nb : l ≠ b := ne_of hl hb (by
      intro z
      have z' := HO.lst.inj z
      cases ss <;> cases z')
    refine ⟨_, PSs.nox (pss_cons (ps_asg (pe_op op_add (pe_ix (ix_listK (K := K)) (pv 0) pe_int (fun _ _ => rfl)) pe_int) (pg_sub (pv 0) pe_int set_list))
  (pss_cons (ps_if (PW.pt (pw_and (pt_cmpR op_eq (pe_ix (ix_listK (K := K)) (pv 0) pe_int (fun _ _ => rfl)) pe_int (nomark _)) (pw_and1 (pt_cmpR op_lt (pe_ix (ix_listK (K := K)) (pv 0) pe_int (fun _ _ => rfl)) (pe_callB (call_lenK (K := K)) rfl T.n_len bt_len (pa_cons (pe_ix (ix_listK (K := K)) (pv 0) pe_int (fun _ _ => rfl)) pa_nil)) (nomark _))))) (pss_cons (ps_set (i := 2) sc__law_draw.nd rfl (Or.inl rfl) (pe_ix (ix_listK (K := K)) (pe_ix (ix_listK (K := K)) (pv 0) pe_int (fun _ _ => rfl)) (pe_ix (ix_listK (K := K)) (pv 0) pe_int (fun _ _ => rfl)) (fun _ _ => rfl)))
    (pss_cons (ps_asg (pe_op op_add (pe_ix (ix_listK (K := K)) (pv 0) pe_int (fun _ _ => rfl)) pe_int) (pg_sub (pv 0) pe_int set_list))
    (pss_one (ps_if (pt_cmpR op_ge (pv 2) (pe_op op_pow pe_int pe_int) (nomark _)) (pss_one (ps_asg (pv 2) (pg_sub (pv 0) pe_int set_list))) (pss_one (ps_asg (pe_op op_mod (pe_callTy call_int1 rfl T.n_int bt_int (pa_cons (pe_op op_add (pe_op op_add (pe_op op_mul (pe_ix (ix_listK (K := K)) (pv 0) pe_int (fun _ _ => rfl)) pe_int) (pe_op op_mul (pe_op op_mod (pe_callTy call_int1 rfl T.n_int bt_int (pa_cons (pv 2) pa_nil)) pe_int) pe_int)) pe_int) pa_nil)) pe_int) (pg_sub (pv 0) pe_int set_list))))))) pss_nil)
  (pss_cons (ps_if (pt_cmpR op_gt (pe_ix (ix_listK (K := K)) (pv 0) pe_int (fun _ _ => rfl)) pe_int (nomark _)) (pss_cons (ps_set (i := 3) sc__law_draw.nd rfl (Or.inl rfl) (pe_op op_mod (pe_callTy call_int1 rfl T.n_int bt_int (pa_cons (pe_ix (ix_listK (K := K)) (pv 0) pe_int (fun _ _ => rfl)) pa_nil)) (pv 1)))
    (pss_cons (ps_asg (pe_op op_fdiv (pe_ix (ix_listK (K := K)) (pv 0) pe_int (fun _ _ => rfl)) (pv 1)) (pg_sub (pv 0) pe_int set_list))
    (pss_one (ps_ret (pv 3))))) pss_nil)
  (pss_cons (ps_asg (pe_op op_mod (pe_callTy call_int1 rfl T.n_int bt_int (pa_cons (pe_op op_add (pe_op op_add (pe_op op_pow (pe_ix (ix_listK (K := K)) (pv 0) pe_int (fun _ _ => rfl)) pe_int) (pe_op op_mul (pe_ix (ix_listK (K := K)) (pv 0) pe_int (fun _ _ => rfl)) pe_int)) pe_int) pa_nil)) pe_int) (pg_sub (pv 0) pe_int set_list))
  (pss_one (ps_ret (pe_op op_mod (pe_callTy call_int1 rfl T.n_int bt_int (pa_cons (pe_op op_add (pe_op op_fdiv (pe_ix (ix_listK (K := K)) (pv 0) pe_int (fun _ _ => rfl)) pe_int) (pe_op op_mul (pe_op op_mod (pe_callTy call_int1 rfl T.n_int bt_int (pa_cons (pe_ix (ix_listK (K := K)) (pv 0) pe_int (fun _ _ => rfl)) pa_nil)) pe_int) pe_int)) pa_nil)) (pv 1)))))))), ?_⟩
    have e0 : ∀ {o : HO}, (upd H b o) l = some (.lst (ss.map V.int)) := fun {o} => by rw [upd_ne nb]; exact hl
    -- what stands behind the feeding
    have fin : ∀ (j1 : Nat) (j2 j3 j4 : Int) (v2 v3 : Option V), BgOk j2 j3 → tSeq (tIfS (tTest (tOp (rI0 fun i j => V.bl (decide (j < i))) (tOp (rIxL K) (tVar 0) (tC (.int 2))) (tC (.int 0))))
        (tSeq (tAsg (tOp (rI (fun _ j => 0 < j) fun i j => V.int (i % j)) (tCB (fun xs H Q => (∃ i, xs = [.int i] ∧ Q (.int i) H) ∨ ∃ k, xs = [.bl k] ∧ Q (.int (if k then 1 else 0)) H) (tCons (tOp (rIxL K) (tVar 0) (tC (.int 2))) tNil)) (tVar 1)) (gName 3))
          (tSeq (tAsg (tOp (rI CDiv fun i j => V.int (i / j)) (tOp (rIxL K) (tVar 0) (tC (.int 2))) (tVar 1)) (gSub (tVar 0) (tC (.int 2)) rSetL)) (tRet (tVar 3)))) tNext)
        (tSeq (tAsg (tOp (rI (fun _ j => 0 < j) fun i j => V.int (i % j)) (tCB (fun xs H Q => (∃ i, xs = [.int i] ∧ Q (.int i) H) ∨ ∃ k, xs = [.bl k] ∧ Q (.int (if k then 1 else 0)) H) (tCons (tOp (rI0 fun i j => V.int (i + j)) (tOp (rI0 fun i j => V.int (i + j)) (tOp (rI CPow fun i j => V.int (i ^ j.toNat)) (tOp (rIxL K) (tVar 0) (tC (.int 3))) (tC (.int 3))) (tOp (rI CMul fun i j => V.int (i * j)) (tOp (rIxL K) (tVar 0) (tC (.int 4))) (tC (.int 1299709)))) (tC (.int 60013))) tNil)) (tC (.int 2147483629))) (gSub (tVar 0) (tC (.int 3)) rSetL))
          (tRet (tOp (rI (fun _ j => 0 < j) fun i j => V.int (i % j)) (tCB (fun xs H Q => (∃ i, xs = [.int i] ∧ Q (.int i) H) ∨ ∃ k, xs = [.bl k] ∧ Q (.int (if k then 1 else 0)) H) (tCons (tOp (rI0 fun i j => V.int (i + j)) (tOp (rI CDiv fun i j => V.int (i / j)) (tOp (rIxL K) (tVar 0) (tC (.int 3))) (tC (.int 97))) (tOp (rI CMul fun i j => V.int (i * j)) (tOp (rI (fun _ j => 0 < j) fun i j => V.int (i % j)) (tCB (fun xs H Q => (∃ i, xs = [.int i] ∧ Q (.int i) H) ∨ ∃ k, xs = [.bl k] ∧ Q (.int (if k then 1 else 0)) H) (tCons (tOp (rIxL K) (tVar 0) (tC (.int 3))) tNil)) (tC (.int 7901))) (tC (.int 67)))) tNil)) (tVar 1))))
        { nx := fun _ H' => Q .non H', rt := Q } [some (.ref b), some (.int sz), v2, v3] (upd H b (.lst (bg l j1 j2 j3 j4))) := by
      intro j1 j2 j3 j4 v2 v3 ⟨b2, b3, b3'⟩
      refine ⟨_, rfl, _, _, _, _, rfl, rfl, SqL.of upd_same, atI_nat (j := 2) rfl, ⟨_, _, rfl, rfl, _, rfl, ?_⟩⟩
      refine ite2 (fun hp => ?_) (fun hp => ?_)
      · refine ⟨_, rfl, _, _, _, _, rfl, rfl, SqL.of upd_same, atI_nat (j := 2) rfl, .inl ⟨_, rfl, _, rfl, _, _, rfl, rfl, z0, _, rfl, _, _, _, _, rfl, rfl, SqL.of upd_same, atI_nat (j := 2) rfl, _, rfl, _, _, rfl, rfl, ⟨z0, z1⟩, _, rfl, _, _, _, 2, rfl, rfl, upd_same, Evl.ixN_nat (n := 5) (j := 2) (by decide), ?_⟩⟩
        refine ⟨_, rfl, ?_⟩
        rw [upd_upd]
        exact k _ _ _ _ _ (Int.emod_nonneg _ (by omega)) (Int.emod_lt_of_pos _ z0) ⟨Int.ediv_nonneg b2 (by omega), b3, b3'⟩
      · refine ⟨_, rfl, _, _, _, _, rfl, rfl, SqL.of upd_same, atI_nat (j := 3) rfl, _, _, rfl, rfl, pow3_ok b3 b3', _, rfl, _, _, _, _, rfl, rfl, SqL.of upd_same, atI_nat (j := 4) rfl, _, _, rfl, rfl, .inr ⟨by decide, by decide⟩, _, _, rfl, rfl, _, _, rfl, rfl, .inl ⟨_, rfl, _, _, rfl, rfl, (show (0 : Int) < 2147483629 by decide), _, rfl, _, _, _, 3, rfl, rfl, upd_same, Evl.ixN_nat (n := 5) (j := 3) (by decide), ?_⟩⟩
        rw [upd_upd]
        refine ⟨_, rfl, _, _, _, _, rfl, rfl, SqL.of upd_same, atI_nat (j := 3) rfl, _, _, rfl, rfl, ⟨by decide, by decide⟩, _, rfl, _, _, _, _, rfl, rfl, SqL.of upd_same, atI_nat (j := 3) rfl, .inl ⟨_, rfl, _, _, rfl, rfl, (show (0 : Int) < 7901 by decide), _, _, rfl, rfl, .inr ⟨by decide, by decide⟩, _, _, rfl, rfl, .inl ⟨_, rfl, _, rfl, _, _, rfl, rfl, z0, ?_⟩⟩⟩
        exact k _ _ _ _ _ (Int.emod_nonneg _ (by omega)) (Int.emod_lt_of_pos _ z0) ⟨b2, Int.emod_nonneg _ (by decide), Int.emod_lt_of_pos _ (by decide)⟩
    refine ⟨_, rfl, _, _, _, _, rfl, rfl, SqL.of hb, atI_nat (j := 4) rfl, _, _, rfl, rfl, _, rfl, _, _, _, 4, rfl, rfl, hb, Evl.ixN_nat (n := 5) (j := 4) (by decide), ?_⟩
    show tSeq _ _ _ _ (upd H b (.lst (bg l i1 i2 i3 (i4 + 1))))
    refine ⟨_, rfl, _, _, _, _, rfl, rfl, SqL.of upd_same, atI_nat (j := 2) rfl, rfl, _, rfl, ?_⟩
    refine ite2 (fun h2 => ?_) (fun _ => ?_)
    case refine_2 => exact fin _ _ _ _ _ _ ⟨g2, g3, g3'⟩
    refine ⟨_, rfl, _, _, _, _, rfl, rfl, SqL.of upd_same, atI_nat (j := 1) rfl, _, rfl, _, _, _, _, rfl, rfl, SqL.of upd_same, atI_nat (j := 0) rfl, ⟨l, _, rfl, .inl (SqL.of e0), ?_⟩⟩
    rw [List.length_map]
    refine ⟨_, _, rfl, rfl, _, rfl, ?_⟩
    refine ite2 (fun hi => ?_) (fun _ => ?_)
    case refine_2 => exact fin _ _ _ _ _ _ ⟨g2, g3, g3'⟩
    have hi' : i1 < ss.length := by
      have := of_decide_eq_true hi
      omega
    have hx : (ss.map V.int)[i1]? = some (.int ss[i1]) := by rw [List.getElem?_map, List.getElem?_eq_getElem hi']; rfl
    generalize ss[i1] = x at hx
    refine ⟨_, rfl, _, _, _, _, rfl, rfl, SqL.of upd_same, atI_nat (j := 0) rfl, _, rfl, _, _, _, _, rfl, rfl, SqL.of upd_same, atI_nat (j := 1) rfl, _, _, _, _, rfl, rfl, SqL.of e0, atI_nat (j := i1) hx, ?_⟩
    refine ⟨_, rfl, _, _, _, _, rfl, rfl, SqL.of upd_same, atI_nat (j := 1) rfl, _, _, rfl, rfl, _, rfl, _, _, _, 1, rfl, rfl, upd_same, Evl.ixN_nat (n := 5) (j := 1) (by decide), ?_⟩
    rw [upd_upd, show ((bg l i1 i2 i3 (i4 + 1)).set 1 (.int ((i1 : Int) + 1))) = bg l (i1 + 1) i2 i3 (i4 + 1) from rfl]
    refine ⟨_, rfl, _, _, rfl, rfl, ⟨by decide, by decide, by decide⟩, _, _, rfl, rfl, _, rfl, ?_⟩
    refine ite2 (fun hz => ?_) (fun _ => ?_)
    · have hz' := of_decide_eq_true hz
      refine ⟨_, rfl, _, rfl, _, _, _, 2, rfl, rfl, upd_same, Evl.ixN_nat (n := 5) (j := 2) (by decide), ?_⟩
      rw [upd_upd]
      exact fin _ _ _ _ _ _ ⟨by
        have : ((10 : Int) ^ (18 : Int).toNat) ≤ x := hz'
        have e : ((10 : Int) ^ (18 : Int).toNat) = 1000000000000000000 := by decide
        omega, g3, g3'⟩
    · refine ⟨_, rfl, _, _, _, _, rfl, rfl, SqL.of upd_same, atI_nat (j := 3) rfl, _, _, rfl, rfl, .inr ⟨by decide, by decide⟩, _, rfl, .inl ⟨_, rfl, _, _, rfl, rfl, (show (0 : Int) < 2147483549 by decide), _, _, rfl, rfl, .inr ⟨by decide, by decide⟩, _, _, rfl, rfl, _, _, rfl, rfl, .inl ⟨_, rfl, _, _, rfl, rfl, (show (0 : Int) < 2147483629 by decide), _, rfl, _, _, _, 3, rfl, rfl, upd_same, Evl.ixN_nat (n := 5) (j := 3) (by decide), ?_⟩⟩⟩
      rw [upd_upd]
      exact fin _ _ _ _ _ _ ⟨g2, Int.emod_nonneg _ (by decide), Int.emod_lt_of_pos _ (by decide)⟩
end
end K12
namespace K12
open PySem PySem.Spec PyProof.Rows L2 SX
/-! ### the bag of draws, hidden: an object of which only this is told -/
def bagO (b l : Addr) : HO := HO.ext fun h => ∃ (i1 : Nat) (i2 i3 i4 : Int) (its : List Value) (n : Nat), BgOk i2 i3 ∧ Vals (bg l i1 i2 i3 i4) its ∧ h.get? b = some { cls := .type "list", data := .seq its.toArray n }
section
variable {P : Program} {w : World} {H : Hp} {h : Heap} {b l : Addr}
theorem bag_ok {H' : Hp} {i1 : Nat} {i2 i3 i4 : Int} (g : BgOk i2 i3) (o : ObjOk P w H' h b (.lst (bg l i1 i2 i3 i4))) : ObjOk P w H h b (bagO b l) := by
  obtain ⟨_, its, n, hv, hg⟩ := o
  refine ⟨⟨i1, i2, i3, i4, its, n, g, hv, hg⟩, ⟨_, hg⟩, fun h1 h2 p k => ?_⟩
  obtain ⟨i1, i2, i3, i4, its, n, g, hv, hg⟩ := p
  exact ⟨i1, i2, i3, i4, its, n, g, hv, k _ hg⟩
theorem bag_open (ok : HOk P w H h) (hb : H b = some (bagO b l)) : ∃ (i1 : Nat) (i2 i3 i4 : Int), BgOk i2 i3 ∧ HOk P w (upd H b (.lst (bg l i1 i2 i3 i4))) h := by
  obtain ⟨⟨i1, i2, i3, i4, its, n, g, hv, hg⟩, _⟩ := ok b _ hb
  refine ⟨i1, i2, i3, i4, g, fun c o e => ?_⟩
  by_cases hc : c = b
  · subst hc
    rw [upd_same] at e
    cases e
    exact ⟨by show 5 ≤ sizeLine; decide, its, n, hv, hg⟩
  · rw [upd_ne hc] at e
    exact (ok c o e).stay (fun _ _ _ q => q) (fun d q => by rw [upd_ne (ne_of q hb (by intro z; cases z))]; exact q) fun d xs q => by rw [upd_ne (ne_of q hb (by intro z; cases z))]; exact q
theorem bag_shut {xs : List V} {H' : Hp} {i1 : Nat} {i2 i3 i4 : Int} (hxs : xs = bg l i1 i2 i3 i4) (g : BgOk i2 i3) (ok : HOk P w (upd H b (.lst xs)) h) (hb : H' b = some (bagO b l)) (ho : ∀ c, c ≠ b → H' c = H c) : HOk P w H' h := by
  subst hxs
  intro c o e
  by_cases hc : c = b
  · subst hc
    rw [hb] at e
    cases e
    exact bag_ok g (ok c _ upd_same)
  · rw [ho c hc] at e
    refine (ok c o (by rw [upd_ne hc]; exact e)).stay (fun _ _ _ q => q) (fun d q => ?_) fun d xs q => ?_
    · by_cases hd : d = b
      · subst hd; rw [upd_same] at q; cases q
      · rw [upd_ne hd] at q; rw [ho d hd]; exact q
    · by_cases hd : d = b
      · subst hd; rw [upd_same] at q; cases q
      · rw [upd_ne hd] at q; rw [ho d hd]; exact q
end
/-- the bag stands at b -/
def BagAt (H : Hp) (b : Addr) : Prop := ∃ (l : Addr) (ss : List Int), H b = some (bagO b l) ∧ H l = some (.lst (ss.map V.int))
theorem BagAt.ext {H H' : Hp} {b : Addr} (h : BagAt H b) (e : Ext H H') : BagAt H' b := by
  obtain ⟨l, ss, h1, h2⟩ := h
  exact ⟨l, ss, e _ _ h1, e _ _ h2⟩
section
variable {P : Program} {w : World} {K : PySem.W.Frag} {mg : Str → Option Value} {base : Heap}
/-- a def that uses the bag -/
theorem fn_bag {k : Nat} {f : Addr} {fd : FuncData} {ps : List Str} {sp0 sp : Sp} (F : FnOk P w K mg base CX0 k f fd ps sp0) (len : ∀ vs H Q E, sp vs H Q E → vs.length = ps.length)
    (h : ∀ vs H Q E, sp vs H Q E → ∃ b l, H b = some (bagO b l) ∧ ∀ (i1 : Nat) (i2 i3 i4 : Int), BgOk i2 i3 →
      sp0 vs (upd H b (.lst (bg l i1 i2 i3 i4))) (fun v H2 => ∃ (j1 : Nat) (j2 j3 j4 : Int), BgOk j2 j3 ∧ H2 = upd H b (.lst (bg l j1 j2 j3 j4)) ∧ Q v H) E) : FnOk P w K mg base CX0 k f fd ps sp := by
  refine ⟨len, fun A outer s H args us vs Q E hr he hb hv hs => ?_⟩
  obtain ⟨b, l, hbb, hsp⟩ := h vs H Q E hs
  obtain ⟨i1, i2, i3, i4, g, ok1⟩ := bag_open he.hok hbb
  have hn : ∀ c, H c = none → (upd H b (.lst (bg l i1 i2 i3 i4))) c = none := fun c q => by
    rw [upd_ne (by rintro rfl; rw [hbb] at q; cases q)]
    exact q
  refine codeAny_mono (F.run A outer s _ args us vs _ E hr ⟨he.frames, he.mod, fun c o q => ⟨(he.bs c o q).1, hn c (he.bs c o q).2⟩, he.bsz, he.funs, fun c q => hn c (he.frf c q), ok1, he.bare⟩ hb hv (hsp i1 i2 i3 i4 g)) fun r s' x => ?_
  match r, x with
  | .ok (.ret u), x =>
    obtain ⟨v, H2, os, bare, un, ok2, rv, j1, j2, j3, j4, gj, rfl, q⟩ := x
    refine ⟨v, H, os, bare, ⟨fun c o a1 a2 a3 a4 => un.keep c o a1 (hn c a2) a3 a4, fun c o a1 a2 a3 a4 => un.slot c o a1 (hn c a2) a3 a4, fun _ _ _ a _ => a, fun c o a1 a2 => un.there c o a1 a2, fun _ _ q => q, fun _ _ _ q => q, fun _ ps q => ⟨#[], by rw [q]; simp⟩⟩, bag_shut rfl gj ok2 hbb (fun _ _ => rfl), rv, q⟩
def sp__law_draw (K : PySem.W.Frag) : Sp := fun vs H Q _ => ∃ (b : Addr) (sz : Int), vs = [.ref b, .int sz] ∧ BagAt H b ∧ 0 < sz ∧ sz < 1073741824 ∧ ∀ r : Int, 0 ≤ r → r < sz → Q (.int r) H
theorem c__law_draw (T : Txt K mg) : Cal P w K mg base 1 "_law_draw" (sp__law_draw K) := by
  obtain ⟨f, fd, F, h1, h2, h3⟩ := c0__law_draw (P := P) (w := w) (base := base) T
  refine ⟨f, fd, _, fn_bag F (sp := sp__law_draw K) (fun vs H Q E h => ?_) (fun vs H Q E h => ?_), h1, h2, h3⟩
  · obtain ⟨_, _, rfl, _⟩ := h
    rfl
  · obtain ⟨b, sz, rfl, ⟨l, ss, hb, hl⟩, z0, z1, k⟩ := h
    refine ⟨b, l, hb, fun i1 i2 i3 i4 g => ⟨b, l, i1, i2, i3, i4, sz, ss, rfl, upd_same, by rw [upd_ne (ne_of hl hb (by intro z; cases z))]; exact hl, g, z0, z1, fun r j1 j2 j3 j4 r0 r1 gj => ⟨j1, j2, j3, j4, gj, ?_, k r r0 r1⟩⟩⟩
    rw [upd_upd]
abbrev s__law_free : Stmt := top 58
theorem sc__law_free : FnScope ["_law_bag_here", "_law_many"] ["_law_bag_here", "_law_many"] (defScope s__law_free) := ⟨rfl, rfl, rfl, by decide +kernel, rfl, by decide +kernel, by decide +kernel⟩
def sp0__law_free (K : PySem.W.Frag) : Sp := fun vs H Q _ => ∃ (b l : Addr) (i1 : Nat) (i2 i3 i4 sz : Int) (ss : List Int), vs = [.ref b, .int sz] ∧ H b = some (.lst (bg l i1 i2 i3 i4)) ∧ H l = some (.lst (ss.map V.int)) ∧ 0 < sz ∧ ∀ r : Bool, Q (.bl r) H
theorem c0__law_free (T : Txt K mg) : ∃ (f : Addr) (fd : FuncData), FnOk P w K mg base CX0 1 f fd ["_law_bag_here", "_law_many"] (sp0__law_free K) ∧ mg "_law_free" = some (.ref f) ∧ PySem.W.keepIn K (.ref f) = true ∧ Binds K fd ["_law_bag_here", "_law_many"] [] := by
  obtain ⟨fd, F⟩ := T.d__law_free.f
  refine ⟨_, fd, F.ok sc__law_free (fun vs H Q E h => ?_) (fun cdv A outer s H vs Q E hr h => ?_), T.d__law_free.g, F.kp, F.bindsN (fun _ _ _ _ _ _ us hl => match us, hl with | [_, _], _ => rfl)⟩
  · obtain ⟨_, _, _, _, _, _, _, _, rfl, _⟩ := h
    rfl
  · obtain ⟨b, l, i1, i2, i3, i4, sz, ss, rfl, hb, hl, z0, k⟩ := h
    refine ⟨_, PSs.nox (pss_one (ps_ret (pe_and (pe_cmpR op_eq (pe_ix (ix_listK (K := K)) (pv 0) pe_int (fun _ _ => rfl)) pe_int (nomark _)) (pe_and (pe_cmpR op_ge (pe_ix (ix_listK (K := K)) (pv 0) pe_int (fun _ _ => rfl)) (pe_callB (call_lenK (K := K)) rfl T.n_len bt_len (pa_cons (pe_ix (ix_listK (K := K)) (pv 0) pe_int (fun _ _ => rfl)) pa_nil)) (nomark _)) (pe_one (pe_cmpR op_eq (pe_op op_mod (pe_callTy call_int1 rfl T.n_int bt_int (pa_cons (pe_op op_fdiv (pe_ix (ix_listK (K := K)) (pv 0) pe_int (fun _ _ => rfl)) pe_int) pa_nil)) (pv 1)) pe_int (nomark _))))))), ?_⟩
    refine ⟨_, rfl, _, _, _, _, rfl, rfl, SqL.of hb, atI_nat (j := 2) rfl, rfl, _, rfl, ?_⟩
    refine ite2 (fun _ => ?_) (fun _ => k _)
    refine ⟨_, rfl, _, _, _, _, rfl, rfl, SqL.of hb, atI_nat (j := 1) rfl, _, rfl, _, _, _, _, rfl, rfl, SqL.of hb, atI_nat (j := 0) rfl, l, _, rfl, .inl (SqL.of hl), _, _, rfl, rfl, _, rfl, ?_⟩
    refine ite2 (fun _ => ?_) (fun _ => k _)
    exact ⟨_, rfl, _, _, _, _, rfl, rfl, SqL.of hb, atI_nat (j := 3) rfl, _, _, rfl, rfl, ⟨by decide, by decide⟩, .inl ⟨_, rfl, _, rfl, _, _, rfl, rfl, z0, rfl, k _⟩⟩
def sp__law_free (K : PySem.W.Frag) : Sp := fun vs H Q _ => ∃ (b : Addr) (sz : Int), vs = [.ref b, .int sz] ∧ BagAt H b ∧ 0 < sz ∧ ∀ r : Bool, Q (.bl r) H
theorem c__law_free (T : Txt K mg) : Cal P w K mg base 1 "_law_free" (sp__law_free K) := by
  obtain ⟨f, fd, F, h1, h2, h3⟩ := c0__law_free (P := P) (w := w) (base := base) T
  refine ⟨f, fd, _, fn_bag F (sp := sp__law_free K) (fun vs H Q E h => ?_) (fun vs H Q E h => ?_), h1, h2, h3⟩
  · obtain ⟨_, _, rfl, _⟩ := h
    rfl
  · obtain ⟨b, sz, rfl, ⟨l, ss, hb, hl⟩, z0, k⟩ := h
    exact ⟨b, l, hb, fun i1 i2 i3 i4 g => ⟨b, l, i1, i2, i3, i4, sz, ss, rfl, upd_same, by rw [upd_ne (ne_of hl hb (by intro z; cases z))]; exact hl, z0, fun r => ⟨i1, i2, i3, i4, g, rfl, k r⟩⟩⟩
end
end K12
namespace K12
open PySem PySem.Spec PyProof.Rows L2 SX
/-! ### the bag laid; one of many; the signs -/
theorem ints_drop {xs : List Int} {n : Nat} : (xs.map V.int).drop n = (xs.drop n).map V.int := by rw [List.map_drop]
theorem ints_cut (xs : List Int) (lo hi : Option Int) : ∃ ys : List Int, cutV (xs.map V.int) lo hi = ys.map V.int ∧ ys.length ≤ xs.length := by
  refine ⟨_, by unfold cutV; rw [← List.map_drop, ← List.map_take], ?_⟩
  rw [List.length_take, List.length_drop]
  omega
section
variable {P : Program} {w : World} {K : PySem.W.Frag} {mg : Str → Option Value} {base : Heap}
abbrev s__law_bag : Stmt := top 32
theorem sc__law_bag : FnScope ["_law_script", "_law_mix", "_law_item"] ["_law_script"] (defScope s__law_bag) := ⟨rfl, rfl, rfl, by decide +kernel, rfl, by decide +kernel, by decide +kernel⟩
def sp0__law_bag (K : PySem.W.Frag) : Sp := fun vs H Q _ => ∃ (p : Addr) (ss : List Int), vs = [.ref p] ∧ SqL K H p (ss.map V.int) ∧ ∀ (H1 : Hp) (b l : Addr) (zs : List Int) (m : Int), Ext H H1 → H1 b = none → H1 l = some (.lst (zs.map V.int)) → 0 ≤ m → m < 2147483629 → Q (.ref b) (upd H1 b (.lst (bg l 0 0 m 0)))
theorem c0__law_bag (T : Txt K mg) : ∃ (f : Addr) (fd : FuncData), FnOk P w K mg base CX0 1 f fd ["_law_script"] (sp0__law_bag K) ∧ mg "_law_bag" = some (.ref f) ∧ PySem.W.keepIn K (.ref f) = true ∧ Binds K fd ["_law_script"] [] := by
  obtain ⟨fd, F⟩ := T.d__law_bag.f
  refine ⟨_, fd, F.ok sc__law_bag (fun vs H Q E h => ?_) (fun cdv A outer s H vs Q E hr h => ?_), T.d__law_bag.g, F.kp, F.bindsN (fun _ _ _ _ _ _ us hl => match us, hl with | [_], _ => rfl)⟩
  · obtain ⟨_, _, rfl, _⟩ := h
    rfl
  · obtain ⟨p, ss, rfl, hp, k⟩ := h
    refine ⟨_, PSs.nox (pss_cons (ps_set (i := 1) sc__law_bag.nd rfl (Or.inl rfl) pe_int)
  (pss_cons (ps_for PassesOwn.never rfl (pi_listK (K := K) (pe_slice (sl_listK (K := K)) (pv 0) po_none (po_some pe_int))) (pg_name (i := 2) sc__law_bag.nd rfl (Or.inl rfl)) (pss_one (ps_set (i := 1) sc__law_bag.nd rfl (Or.inl rfl) (pe_op op_mod (pe_callTy call_int1 rfl T.n_int bt_int (pa_cons (pe_op op_add (pe_op op_add (pe_op op_mul (pv 1) pe_int) (pe_op op_mod (pe_callTy call_int1 rfl T.n_int bt_int (pa_cons (pv 2) pa_nil)) pe_int)) pe_int) pa_nil)) pe_int))))
  (pss_one (ps_ret (pe_lst (pa_cons (pe_callTy (call_listK (K := K)) rfl T.n_list bt_list (pa_cons (pe_slice (sl_listK (K := K)) (pv 0) po_none (po_some pe_int)) pa_nil)) (pa_cons pe_int (pa_cons pe_int (pa_cons (pv 1) (pa_cons pe_int pa_nil)))))))))), ?_⟩
    obtain ⟨ys, ey, ly⟩ := ints_cut ss none (some 63)
    refine ⟨_, rfl, _, rfl, _, _, rfl, hp, fun c hc => ?_⟩
    rw [ey]
    have e1 := Ext.upd (o := .lst (ys.map V.int)) hc
    have hc1 : (upd H c (.lst (ys.map V.int))) c = some (.lst (ys.map V.int)) := upd_same
    revert e1 hc1
    generalize upd H c (.lst (ys.map V.int)) = H1
    intro e1 hc1
    refine ⟨c, rfl, ⟨_, SqL.of hc1⟩, for_list (xs := ys.map V.int) (fun i σ H' => ∃ (m : Int) (v2 : Option V), σ = [some (.ref p), some (.int m), v2] ∧ H' = H1 ∧ 0 ≤ m ∧ m < 2147483629) ⟨13966, none, rfl, rfl, by decide, by decide⟩ (fun i σ H' _ h => ?_) (fun i x σ H' hx h => ?_) (fun σ H' h => ?_)⟩
    · obtain ⟨_, _, _, rfl, _⟩ := h
      exact SqL.of hc1
    · obtain ⟨m, v2, rfl, rfl, m0, m1⟩ := h
      rw [List.getElem?_map] at hx
      obtain ⟨y, _, rfl⟩ := Option.map_eq_some_iff.mp hx
      exact ⟨_, rfl, _, _, rfl, rfl, .inr ⟨by decide, by decide⟩, _, rfl, .inl ⟨_, rfl, _, _, rfl, rfl, (show (0 : Int) < 2147483587 by decide), _, _, rfl, rfl, _, _, rfl, rfl, .inl ⟨_, rfl, _, _, rfl, rfl, (show (0 : Int) < 2147483629 by decide), _, _, rfl, rfl, Int.emod_nonneg _ (by decide), Int.emod_lt_of_pos _ (by decide)⟩⟩⟩
    · obtain ⟨m, v2, rfl, rfl, m0, m1⟩ := h
      refine ⟨_, rfl, _, rfl, _, _, rfl, hp.ext e1, fun c2 hc2 => ⟨c2, _, rfl, .inl (SqL.of upd_same), fun l hl => ⟨_, rfl, (by show 5 ≤ sizeLine; decide), fun b hb => ?_⟩⟩⟩
      rw [ey]
      rw [ey] at hl hb
      exact k _ b l ys m (e1.trans ((Ext.upd hc2).trans (Ext.upd hl))) hb upd_same m0 m1
def sp__law_bag (K : PySem.W.Frag) : Sp := fun vs H Q _ => ∃ (p : Addr) (ss : List Int), vs = [.ref p] ∧ SqL K H p (ss.map V.int) ∧ ∀ b H', Ext H H' → BagAt H' b → Q (.ref b) H'
theorem c__law_bag (T : Txt K mg) : Cal P w K mg base 1 "_law_bag" (sp__law_bag K) := by
  obtain ⟨f, fd, F, h1, h2, h3⟩ := c0__law_bag (P := P) (w := w) (base := base) T
  refine ⟨f, fd, _, ⟨fun vs H Q E h => ?_, fun A outer s H args us vs Q E hr he hb hv hs => ?_⟩, h1, h2, h3⟩
  · obtain ⟨_, _, rfl, _⟩ := h
    rfl
  · obtain ⟨p, ss, rfl, hp, k⟩ := hs
    refine codeAny_mono (F.run A outer s H args us _ (fun v H2 => ∃ (H1 : Hp) (b l : Addr) (zs : List Int) (m : Int), v = .ref b ∧ H2 = upd H1 b (.lst (bg l 0 0 m 0)) ∧ Ext H H1 ∧ H1 b = none ∧ H1 l = some (.lst (zs.map V.int)) ∧ 0 ≤ m ∧ m < 2147483629) E hr he hb hv ⟨p, ss, rfl, hp, fun H1 b l zs m e1 q1 q2 q3 q4 => ⟨H1, b, l, zs, m, rfl, rfl, e1, q1, q2, q3, q4⟩⟩) fun r s' x => ?_
    match r, x with
    | .ok (.ret u), x =>
      obtain ⟨v, H2, os, bare, un, ok2, rv, H1, b, l, zs, m, rfl, rfl, e1, q1, q2, q3, q4⟩ := x
      have e2 : Ext H (upd H1 b (bagO b l)) := e1.trans (Ext.upd q1)
      have lb : l ≠ b := ne_of_none q2 q1
      refine ⟨.ref b, upd H1 b (bagO b l), os, bare, ⟨un.keep, un.slot, fun c o a1 a2 a3 => ?_, un.there, fun c xs q => e2 _ _ q, fun c o u q => e2 _ _ q, fun c ps q => ⟨#[], by rw [e2 _ _ q]; simp⟩⟩, bag_shut rfl ⟨Int.le_refl 0, q3, q4⟩ ok2 upd_same (fun c hc => upd_ne hc), rv, k b _ e2 ⟨l, zs, upd_same, by rw [upd_ne lb]; exact q2⟩⟩
      have := un.free c o a1 a2 a3
      by_cases hc : c = b
      · subst hc; rw [upd_same] at this; cases this
      · rw [upd_ne hc] at this ⊢; exact this
abbrev s__law_of : Stmt := top 34
theorem sc__law_of : FnScope ["_law_bag_here", "_law_things"] ["_law_bag_here", "_law_things"] (defScope s__law_of) := ⟨rfl, rfl, rfl, by decide +kernel, rfl, by decide +kernel, by decide +kernel⟩
/-- the answers of a choice -/
def OfV (K : PySem.W.Frag) (H : Hp) (x : V) (R : V → Prop) : Prop := (∃ p xs, x = .ref p ∧ SqL K H p xs ∧ 0 < xs.length ∧ xs.length ≤ 100 ∧ ∀ v ∈ xs, R v) ∨ ∃ cs : List Nat, x = .str (S cs) ∧ 0 < cs.length ∧ cs.length ≤ 100 ∧ ∀ c ∈ cs, R (.str (S [c]))
def sp__law_of (K : PySem.W.Frag) : Sp := fun vs H Q _ => ∃ (b : Addr) (x : V), vs = [.ref b, x] ∧ BagAt H b ∧ OfV K H x (fun v => Q v H)
theorem c__law_of (T : Txt K mg) : Cal P w K mg base 2 "_law_of" (sp__law_of K) := by
  refine T.d__law_of.cal sc__law_of (fun _ _ _ _ _ _ us hl => match us, hl with | [_, _], _ => rfl) (fun vs H Q E h => ?_) (fun f cdv A outer s H vs Q E hr h => ?_)
  · obtain ⟨b, x, rfl, _⟩ := h
    rfl
  · obtain ⟨b, x, rfl, hb, h⟩ := h
    refine ⟨_, (pss_one (ps_ret (pe_ix (ix_seqK (K := K)) (pv 1) (pe_c (c__law_draw T) hr (by decide) rfl (pa_cons (pv 0) (pa_cons (pe_callB call_len rfl T.n_len bt_len (pa_cons (pv 1) pa_nil)) pa_nil))) (fun _ _ => rfl)))), ?_⟩
    rcases h with ⟨p, xs, rfl, hp, h0, h1, k⟩ | ⟨cs, rfl, h0, h1, k⟩
    · refine ⟨_, rfl, _, rfl, _, rfl, _, _, rfl, .inl ⟨xs, hp, rfl⟩, b, _, rfl, hb, by omega, by omega, fun r r0 r1 => .inl ?_⟩
      obtain ⟨n, rfl⟩ := Int.eq_ofNat_of_zero_le r0
      have hn : n < xs.length := by omega
      exact ⟨_, _, _, _, rfl, rfl, hp, atI_nat (j := n) (List.getElem?_eq_getElem hn), k _ (List.getElem_mem hn)⟩
    · refine ⟨_, rfl, _, rfl, _, rfl, _, _, rfl, ⟨by rw [SX.S_len]; exact sl_of (by omega), rfl⟩, b, _, rfl, hb, by rw [SX.S_len]; omega, by rw [SX.S_len]; omega, fun r r0 r1 => .inr (.inr ?_)⟩
      obtain ⟨n, rfl⟩ := Int.eq_ofNat_of_zero_le r0
      rw [SX.S_len] at r1
      have hn : n < cs.length := by omega
      exact ⟨_, _, _, rfl, rfl, by rw [SX.S_len]; exact sl_of (by omega), atI_nat (j := n) (List.getElem?_eq_getElem hn), k _ (List.getElem_mem hn)⟩
def signsL : List Nat := ((List.range 94).map (· + 33)).filter (fun n => n != 37)
abbrev s__law_signs : Stmt := top 38
theorem sc__law_signs : FnScope [] [] (defScope s__law_signs) := ⟨rfl, rfl, rfl, by decide +kernel, rfl, by decide +kernel, by decide +kernel⟩
def sp__law_signs : Sp := fun vs H Q _ => vs = [] ∧ Q (.str (S signsL)) H
theorem c__law_signs (T : Txt K mg) : Cal P w K mg base 1 "_law_signs" sp__law_signs := by
  refine T.d__law_signs.cal sc__law_signs (fun _ _ _ _ _ _ us hl => match us, hl with | [], _ => rfl) (fun vs H Q E h => ?_) (fun f cdv A outer s H vs Q E hr h => ?_)
  · obtain ⟨rfl, _⟩ := h
    rfl
  · obtain ⟨rfl, k⟩ := h
    refine ⟨_, (pss_one (ps_ret pe_str)), ?_⟩
    show Q (.str _) H
    rw [S_ofString, show (List.map Char.toNat (String.toList _) : List Nat) = signsL from by decide +kernel]
    exact k
end
end K12
namespace K12
open PySem PySem.Spec PyProof.Rows L2 SX
/-! ### list(text); the signs of a lap -/
def chV (c : Nat) : V := .str (S [c])
def rListStr : List V → Hp → VK → Prop := fun xs H Q => ∃ cs : List Nat, xs = [.str (S cs)] ∧ cs.length ≤ 1000 ∧ ∀ q, H q = none → Q (.ref q) (upd H q (.lst (cs.map chV)))
theorem call_listStr {X : Cx} (hc : X.calm = true) : CallR X (.type "list") rListStr := by
  intro pins s σ H xs us Q I r h
  obtain ⟨cs, e, hz, q⟩ := h
  subst e
  obtain ⟨u, eu, rx⟩ := vals1 r
  subst eu
  obtain ⟨t, rfl⟩ := rx
  have hl : (S cs).cps.size = cs.length := by simp [S]
  have hz' : cs.length ≤ sizeLine := sl_of (by omega)
  refine call_list_str (I.ok.hd hc) (S cs) t (hn := by rw [hl]; exact hz') fun h' tk acc' c' hkeep hS hacc => ?_
  refine ⟨.ref s.heap.objs.size, upd H s.heap.objs.size (.lst (cs.map chV)), I.laid hkeep (Nat.le_refl _) (show ObjOk X.prog X.w _ _ _ (.lst (cs.map chV)) from ⟨by rw [List.length_map]; exact hz', acc'.toList, c', ?_, ?_⟩), rfl, q _ (I.hok.fresh (Nat.le_refl _))⟩
  · have el : acc'.toList.length = acc'.size := by simp
    refine vals_of_at (by rw [List.length_map, el, hacc.1, hl]) fun j x w h1 h2 => ?_
    have := hacc.2 j w (by rw [← Array.getElem?_toList]; exact h2)
    obtain ⟨c, u, e1, rfl⟩ := this
    rw [List.getElem?_map] at h1
    rw [← Array.getElem?_toList, show (S cs).cps.toList = cs by simp [S]] at e1
    rw [e1] at h1
    cases h1
    exact ⟨u, rfl⟩
  · rw [Array.toArray_toList]; exact hS
theorem erase_perm : ∀ {cs : List Nat} {k : Nat} (h : k < cs.length), (cs[k] :: cs.eraseIdx k).Perm cs
  | c :: cs, 0, _ => List.Perm.refl _
  | c :: cs, k + 1, h => (List.Perm.swap _ _ _).trans ((erase_perm (cs := cs) (k := k) (by simpa using h)).cons c)
/-- a method of a built-in type, K named -/
theorem pe_bmK {X : Cx} {K : PySem.W.Frag} {o e : Expr} {es : List Expr} {to : TE} {t : TA} {T name id : String} {r : V → List V → Hp → VK → Prop} {apos cpos : Pos} (pa : PlainAttrs T) (slot : Slot T name id) (hty : typeOf (.builtin id) = pure (.type "method_descriptor")) (hm : MtM X id r) (ho : PE X o to) (ha : PA X (e :: es) t)
    (hK : X.K = K := by rfl) (hbase : attributeBase o name X.env (eval o X.env) = eval o X.env := by rfl)
    (hfew : ((backTo cpos (starEach (e :: es) X.env)).all (fun x => !x.1) && (backToKw cpos (keywordEach [] X.env)).all (fun x => x.1.isSome)
      && decide ((e :: es).length + ([] : List Keyword).length + (if ([] : List Keyword).isEmpty then 0 else 1) < 30)) = true := by rfl)
    (hline : (apos.endLine == cpos.line) = true := by rfl) (hs : starEach (e :: es) X.env = (false, eval e X.env) :: starEach es X.env := by rfl) (hplain : (backTo cpos (starEach es X.env)).any (·.1) = false := by rfl) :
    PE X (.Call (.Attribute o name apos) (e :: es) [] cpos) (tBM K T r to t) := by
  subst hK
  exact pe_bm pa slot hty hm ho ha hbase hfew hline hs hplain
theorem ext_none {H H' : Hp} {a : Addr} (e : Ext H H') (h : H' a = none) : H a = none := by
  cases q : H a with
  | none => rfl
  | some o => rw [e _ _ q] at h; cases h
theorem sum_sing : ∀ ds : List Nat, (((ds.map fun c => [c]).map S).map (fun x => x.length)).sum = ds.length
  | [] => rfl
  | c :: ds => by
    have ih := sum_sing ds
    rw [List.map_cons, List.map_cons, List.map_cons, List.sum_cons, ih, SX.S_len]
    show 1 + ds.length = ds.length + 1
    omega
theorem flat_sing : ∀ ds : List Nat, (ds.map fun c => [c]).flatten = ds
  | [] => rfl
  | c :: ds => by
    rw [List.map_cons, List.flatten_cons, flat_sing ds]
    rfl
theorem map_erase {α β : Type} (f : α → β) : ∀ (l : List α) (k : Nat), (l.map f).eraseIdx k = (l.eraseIdx k).map f
  | [], _ => rfl
  | _ :: _, 0 => rfl
  | a :: l, k + 1 => by
    show f a :: (l.map f).eraseIdx k = f a :: (l.eraseIdx k).map f
    rw [map_erase f l k]
theorem mem4 {α : Type} {v a b c d : α} (h : v ∈ [a, b, c, d]) : v = a ∨ v = b ∨ v = c ∨ v = d := by simpa using h
/-- the pool behind i draws -/
structure Pool (cs0 ds cs : List Nat) : Prop where
  nd : (ds ++ cs).Nodup
  len : ds.length + cs.length = cs0.length
theorem Pool.pop {cs0 ds cs : List Nat} {k c : Nat} (h : Pool cs0 ds cs) (hk : cs[k]? = some c) : Pool cs0 (ds ++ [c]) (cs.eraseIdx k) := by
  obtain ⟨hk', rfl⟩ := List.getElem?_eq_some_iff.mp hk
  have p : (cs[k] :: cs.eraseIdx k).Perm cs := erase_perm hk'
  refine ⟨?_, ?_⟩
  · rw [List.append_assoc]
    exact (List.Perm.append_left ds p).nodup_iff.mpr h.nd
  · have := p.length_eq
    have hl := h.len
    rw [List.length_cons] at this
    rw [List.length_append, List.length_cons, List.length_nil]
    omega
section
variable {P : Program} {w : World} {K : PySem.W.Frag} {mg : Str → Option Value} {base : Heap}
abbrev s__law_string : Stmt := top 39
theorem sc__law_string : FnScope ["_law_bag_here", "_law_size", "_law_pool", "_law_k"] ["_law_bag_here", "_law_size"] (defScope s__law_string) := ⟨rfl, rfl, rfl, by decide +kernel, rfl, by decide +kernel, by decide +kernel⟩
def sp__law_string (K : PySem.W.Frag) : Sp := fun vs H Q _ => ∃ (b : Addr) (n : Nat), vs = [.ref b, .int (n : Int)] ∧ BagAt H b ∧ n ≤ 8 ∧ ∀ cs H', Ext H H' → cs.length = n → cs.Nodup → Q (.str (S cs)) H'
theorem c__law_string (T : Txt K mg) : Cal P w K mg base 3 "_law_string" (sp__law_string K) := by
  refine T.d__law_string.cal sc__law_string (fun _ _ _ _ _ _ us hl => match us, hl with | [_, _], _ => rfl) (fun vs H Q E h => ?_) (fun f cdv A outer s H vs Q E hr h => ?_)
  · obtain ⟨b, n, rfl, _⟩ := h
    rfl
  · obtain ⟨b, n, rfl, hb, hn, k⟩ := h
    refine ⟨_, (pss_cons (ps_set (i := 2) sc__law_string.nd rfl (Or.inr rfl) (pe_callTy (call_listStr rfl) rfl T.n_list bt_list (pa_cons (pe_c (c__law_of T) hr (by decide) rfl (pa_cons (pv 0) (pa_cons (pe_lst (pa_cons (pe_c0 (c__law_signs T) hr (by decide) rfl) (pa_cons (pe_c0 (c__law_signs T) hr (by decide) rfl) (pa_cons pe_str (pa_cons pe_str pa_nil))))) pa_nil))) pa_nil)))
  (pss_one (ps_ret (pe_join pe_str (pe_lc (own := [("_law_k", 3)]) (g := gName 3) (tt := tYes) rfl sc__law_string.nd (pi_range1 rfl T.n_range (pa_cons (pv 1) pa_nil)) (blkOk_by (by kernel_rfl)) (fun _ _ _ _ _ => (pg_name (i := 3) sc__law_string.nd rfl (Or.inl rfl))) (fun _ _ _ _ _ => pts_nil) (fun _ _ _ _ _ => (pe_bmK (K := K) PySem.F.plainAttrs_list PySem.F.slot_list_pop PySem.F.type_list_pop mt_popAt (pv 2) (pa_cons (pe_c (c__law_draw T) hr (by decide) rfl (pa_cons (pv 0) (pa_cons (pe_callB (call_lenK (K := K)) rfl T.n_len bt_len (pa_cons (pv 2) pa_nil)) pa_nil))) pa_nil)))))))), ?_⟩
    refine ⟨_, rfl, rfl, rfl, (by show 4 ≤ sizeLine; decide), fun p hp => ⟨b, .ref p, rfl, hb.ext (Ext.upd hp), .inl ⟨p, _, rfl, SqL.of upd_same, by decide, by decide, fun v hv => ?_⟩⟩⟩
    have ev : ∃ cs : List Nat, v = .str (S cs) ∧ cs.Nodup ∧ 8 ≤ cs.length ∧ cs.length ≤ 1000 := by
      rcases mem4 hv with rfl | rfl | rfl | rfl
      · exact ⟨signsL, rfl, by decide +kernel, by decide +kernel, by decide +kernel⟩
      · exact ⟨signsL, rfl, by decide +kernel, by decide +kernel, by decide +kernel⟩
      · exact ⟨_, congrArg V.str (S_ofString _), by decide +kernel, by decide +kernel, by decide +kernel⟩
      · exact ⟨_, congrArg V.str (S_ofString _), by decide +kernel, by decide +kernel, by decide +kernel⟩
    have e1 := Ext.upd (o := .lst [.str (S signsL), .str (S signsL), .str (Str.ofString ".abcdefgh"), .str (Str.ofString "-*/+10=:")]) hp
    revert e1
    generalize upd H p (.lst [.str (S signsL), .str (S signsL), .str (Str.ofString ".abcdefgh"), .str (Str.ofString "-*/+10=:")]) = H1
    intro e1
    obtain ⟨cs0, rfl, c1, c2, c3⟩ := ev
    refine ⟨cs0, rfl, c3, fun q hq => ?_⟩
    have hq0 : H q = none := ext_none e1 hq
    have e2 := e1.trans (Ext.upd (o := .lst (cs0.map chV)) hq)
    have hq2 : (upd H1 q (.lst (cs0.map chV))) q = some (.lst (cs0.map chV)) := upd_same
    revert e2 hq2
    generalize upd H1 q (.lst (cs0.map chV)) = H2
    intro e2 hq2
    refine ⟨⟨_, rfl⟩, _, rfl, _, rfl, by omega, by omega, fun D hD => ?_⟩
    have hD0 : H D = none := ext_none e2 hD
    have nqD : q ≠ D := ne_of_none hq2 hD
    refine lc_it walk_range (fun i H' => ∃ ds cs, Ext H H' ∧ H' q = some (.lst (cs.map chV)) ∧ H' D = some (.lst (ds.map chV)) ∧ Pool cs0 ds cs ∧ ds.length = i)
      ⟨[], cs0, ext_mut e2 hD0, by rw [upd_ne nqD]; exact hq2, upd_same, ⟨by simpa using c1, by simp⟩, rfl⟩ (fun _ _ _ _ => trivial) (fun i x H3 H3' hi h y => ?_) (fun H3 h => ?_)
    · obtain ⟨ds, cs, e3, h1, h2, hP, hl⟩ := h
      obtain ⟨rfl, rfl⟩ := y
      have hcl := hP.len
      refine ⟨rfl, _, rfl, .inl ⟨rfl, _, SqL.of h1⟩, _, rfl, _, rfl, q, _, rfl, .inl (SqL.of h1), b, _, rfl, hb.ext e3, by rw [List.length_map]; omega, by rw [List.length_map]; omega, fun r r0 r1 => ?_⟩
      rw [List.length_map] at r1
      obtain ⟨m, rfl⟩ := Int.eq_ofNat_of_zero_le r0
      have hm : m < cs.length := by omega
      have hc : cs[m]? = some cs[m] := List.getElem?_eq_getElem hm
      generalize cs[m] = c at hc
      refine ⟨q, cs.map chV, _, m, chV c, rfl, rfl, h1, by omega, by omega, by rw [List.length_map, seqIndex_of r0 r1]; simp, by rw [List.getElem?_map, hc]; rfl, ?_⟩
      refine ⟨ds.map chV, by rw [upd_ne (Ne.symm nqD)]; exact h2, by rw [List.length_map]; exact sl_lt (by omega), ds ++ [c], cs.eraseIdx m, ext_mut (ext_mut e3 hq0) hD0, ?_, ?_, hP.pop hc, by rw [List.length_append, hl]; rfl⟩
      · rw [upd_ne nqD, upd_same, map_erase]
      · rw [upd_same, List.map_append]; rfl
    · obtain ⟨ds, cs, e3, h1, h2, hP, hl⟩ := h
      refine ⟨_, D, (ds.map fun c => [c]).map S, rfl, rfl, .inl (SqL.of (by rw [h2, List.map_map, List.map_map]; rfl)), ?_, ?_⟩
      · rw [sum_sing, List.length_map, List.length_map, empty_S, SX.S_len]
        show ds.length + ds.length * 0 ≤ 16777216
        rw [hl]
        omega
      · rw [empty_S, join_nil, flat_sing]
        exact k ds _ e3 (by rw [hl]; omega) (List.nodup_append.mp hP.nd).1
end
end K12
namespace K12
open PySem PySem.Spec PyProof.Rows L2 SX
/-! ### a name -/
/-- a comprehension over a range whose items are only told of -/
theorem lcAny {α : Type} {lo : Int} {n : Nat} {g : TG} {te : TE} {vs : List Nat} {σ : L2.St} {H1 : Hp} {D : Addr} {Qd : Hp → Prop} (f : α → V) (P : α → Prop) (hD : H1 D = none) (hz : n < sizeLine)
    (hs : ∀ (i : Nat) H, i < n → Ext H1 H → ∀ (Q : VK), (∀ a H4, Ext H H4 → P a → Q (f a) H4) → g (.int (lo + i)) (wipe σ vs) H fun σ2 H2 => wipe σ2 vs = wipe σ vs ∧ te σ2 H2 Q)
    (hd : ∀ H' (as : List α), Ext H1 H' → H' D = some (.lst (as.map f)) → as.length = n → (∀ a ∈ as, P a) → Qd H') :
    ∃ W : Nat → Nat → Hp → Prop, (∃ m, W 0 m (upd H1 D (.lst []))) ∧ ∀ i m H, W i m H →
      ((Itr lo n).stop i H ∧ Qd H) ∨ ((Itr lo n).go i H ∧ ∃ Nx : Hp → Prop, (∀ H', Nx H' → ∃ m', m' < m ∧ W (i + 1) m' H') ∧ ∀ x H', (Itr lo n).yld i H x H' → g x (wipe σ vs) H' fun σ2 H2 => wipe σ2 vs = wipe σ vs ∧ tYes σ2 H2 fun b H3 =>
        if b = true then te σ2 H3 fun y H4 => ∃ acc, H4 D = some (.lst acc) ∧ acc.length < sizeLine ∧ Nx (upd H4 D (.lst (acc ++ [y]))) else Nx H3) := by
  refine lc_it (tt := tYes) walk_range (fun i H => Ext H1 H ∧ ∃ as : List α, H D = some (.lst (as.map f)) ∧ as.length = i ∧ ∀ a ∈ as, P a) ⟨Ext.upd hD, [], upd_same, rfl, fun a h => nomatch h⟩ (fun _ _ _ _ => trivial) (fun i x H H' hi h y => ?_)
    (fun H h => by
      obtain ⟨e, as, h1, h2, h3⟩ := h
      exact hd H as e h1 h2 h3)
  obtain ⟨e, as, h1, h2, h3⟩ := h
  obtain ⟨rfl, rfl⟩ := y
  refine hs i _ hi e _ fun a H4 e4 hP => ⟨as.map f, e4 _ _ h1, by rw [List.length_map]; omega, ext_mut (e.trans e4) hD, as ++ [a], by rw [upd_same, List.map_append]; rfl, by rw [List.length_append, h2]; rfl, fun c hc => ?_⟩
  rcases List.mem_append.mp hc with hc | hc
  · exact h3 c hc
  · rw [List.mem_singleton.mp hc]; exact hP
theorem mem_strs {names : List String} {R : Str → Bool} (h : names.all (fun s => R (Str.ofString s)) = true) {v : V} (hv : v ∈ names.map fun s => V.str (Str.ofString s)) : ∃ z, v = .str z ∧ R z = true := by
  obtain ⟨s, hs, rfl⟩ := List.mem_map.mp hv
  exact ⟨_, rfl, List.all_eq_true.mp h s hs⟩
theorem mem_ints {ns : List Int} {R : Int → Bool} (h : ns.all R = true) {v : V} (hv : v ∈ ns.map V.int) : ∃ z, v = .int z ∧ R z = true := by
  obtain ⟨s, hs, rfl⟩ := List.mem_map.mp hv
  exact ⟨_, rfl, List.all_eq_true.mp h s hs⟩
section
variable {P : Program} {w : World} {K : PySem.W.Frag} {mg : Str → Option Value} {base : Heap}
abbrev s__law_name : Stmt := top 48
theorem sc__law_name : FnScope ["_law_bag_here", "_law_k"] ["_law_bag_here"] (defScope s__law_name) := ⟨rfl, rfl, rfl, by decide +kernel, rfl, by decide +kernel, by decide +kernel⟩
def sp__law_name (K : PySem.W.Frag) : Sp := fun vs H Q _ => ∃ (b : Addr), vs = [.ref b] ∧ BagAt H b ∧ ∀ z H', Ext H H' → isName z = true → Q (.str z) H'
theorem c__law_name (T : Txt K mg) : Cal P w K mg base 3 "_law_name" (sp__law_name K) := by
  refine T.d__law_name.cal sc__law_name (fun _ _ _ _ _ _ us hl => match us, hl with | [_], _ => rfl) (fun vs H Q E h => ?_) (fun f cdv A outer s H vs Q E hr h => ?_)
  · obtain ⟨b, rfl, _⟩ := h
    rfl
  · obtain ⟨b, rfl, hb, k⟩ := h
    refine ⟨_, (pss_cons (ps_if (pt_cmpR op_eq (pe_c (c__law_draw T) hr (by decide) rfl (pa_cons (pv 0) (pa_cons pe_int pa_nil))) pe_int (nomark _)) (pss_one (ps_ret (pe_c (c__law_of T) hr (by decide) rfl (pa_cons (pv 0) (pa_cons (pe_lst (pa_cons pe_str (pa_cons pe_str (pa_cons pe_str (pa_cons pe_str (pa_cons pe_str (pa_cons pe_str (pa_cons pe_str (pa_cons pe_str (pa_cons pe_str pa_nil)))))))))) pa_nil))))) pss_nil)
  (pss_one (ps_ret (pe_join pe_str (pe_lc (own := [("_law_k", 1)]) (g := gName 1) (tt := tYes) rfl sc__law_name.nd (pi_range1 rfl T.n_range (pa_cons (pe_c (c__law_of T) hr (by decide) rfl (pa_cons (pv 0) (pa_cons (pe_lst (pa_cons pe_int (pa_cons pe_int (pa_cons pe_int (pa_cons pe_int pa_nil))))) pa_nil))) pa_nil)) (blkOk_by (by kernel_rfl)) (fun _ _ _ _ _ => (pg_name (i := 1) sc__law_name.nd rfl (Or.inl rfl))) (fun _ _ _ _ _ => pts_nil) (fun _ _ _ _ _ => (pe_c (c__law_of T) hr (by decide) rfl (pa_cons (pv 0) (pa_cons pe_str pa_nil))))))))), ?_⟩
    refine ⟨_, rfl, b, _, rfl, hb, by decide, by decide, fun r _ _ => ⟨rfl, _, rfl, ?_⟩⟩
    refine ite2 (fun _ => ?_) (fun _ => ?_)
    · refine ⟨_, rfl, (by show 9 ≤ sizeLine; decide), fun p hp => ⟨b, .ref p, rfl, hb.ext (Ext.upd hp), .inl ⟨p, _, rfl, SqL.of upd_same, by decide, by decide, fun v hv => ?_⟩⟩⟩
      obtain ⟨z, rfl, hz⟩ := mem_strs (names := ["a", "x", "end", "ask", "live", "none", "best", "self", "cancel"]) (R := isName) (by decide +kernel) hv
      exact k z _ (Ext.upd hp) hz
    · refine ⟨⟨_, rfl⟩, _, rfl, (by show 4 ≤ sizeLine; decide), fun p hp => ⟨b, .ref p, rfl, hb.ext (Ext.upd hp), .inl ⟨p, _, rfl, SqL.of upd_same, by decide, by decide, fun v hv => ?_⟩⟩⟩
      obtain ⟨j, rfl, hj⟩ := mem_ints (ns := [1, 2, 4, 8]) (R := fun j => decide (1 ≤ j) && decide (j ≤ 8)) (by decide) hv
      rw [Bool.and_eq_true, decide_eq_true_eq, decide_eq_true_eq] at hj
      have e1 := Ext.upd (o := .lst [V.int 1, .int 2, .int 4, .int 8]) hp
      revert e1
      generalize upd H p (.lst [V.int 1, .int 2, .int 4, .int 8]) = H1
      intro e1
      refine ⟨j, rfl, by omega, by omega, fun D hD => lcAny chV (fun c => inRg 97 122 c = true) hD (sl_lt (by omega)) (fun i H' _ e Q1 k1 => ⟨rfl, ?_⟩) (fun H' cs e hl hn hP => ?_)⟩
      · refine ⟨_, rfl, b, _, rfl, hb.ext (e1.trans e), .inr ⟨_, congrArg V.str (S_ofString _), by decide +kernel, by decide +kernel, fun c hc => k1 c _ Ext.rfl' ?_⟩⟩
        exact List.all_eq_true.mp (show (("abcdefghijklmnopqrstuvwxyz".toList.map Char.toNat).all fun c => inRg 97 122 c) = true by decide +kernel) c hc
      · refine ⟨_, D, (cs.map fun c => [c]).map S, rfl, rfl, .inl (SqL.of (by rw [hl, List.map_map, List.map_map]; rfl)), ?_, ?_⟩
        · rw [sum_sing, List.length_map, List.length_map, empty_S, SX.S_len]
          show cs.length + cs.length * 0 ≤ 16777216
          omega
        · rw [empty_S, join_nil, flat_sing]
          refine k _ _ (e1.trans e) ?_
          unfold isName
          rw [SX.S_len, show (S cs).cps.toList = cs by simp [S], Bool.and_eq_true]
          refine ⟨lenIn_iff.mpr ⟨by omega, by omega⟩, List.all_eq_true.mpr hP⟩
end
end K12
namespace K12
open PySem PySem.Spec PyProof.Rows L2 SX
/-! ### a table -/
def RwN (R : Addr) (H : Hp) (v : V) (r : Row) : Prop := ∃ p, v = .ref p ∧ p ≠ R ∧ H p = some (.lst (r.map optI))
theorem RwN.ext {R : Addr} {H H' : Hp} {v : V} {r : Row} (h : RwN R H v r) (e : Ext H H') : RwN R H' v r := by
  obtain ⟨p, h1, h2, h3⟩ := h
  exact ⟨p, h1, h2, e _ _ h3⟩
theorem RwN.upd {R : Addr} {H : Hp} {o : HO} {v : V} {r : Row} (h : RwN R H v r) : RwN R (upd H R o) v r := by
  obtain ⟨p, h1, h2, h3⟩ := h
  exact ⟨p, h1, h2, by rw [upd_ne h2]; exact h3⟩
/-- ascending ints below i -/
structure Asc (i : Nat) (as : List Int) : Prop where
  asc : as.Pairwise (· < ·)
  rg : ∀ m ∈ as, 0 ≤ m ∧ m < (i : Int)
  len : as.length ≤ i
theorem Asc.up {i : Nat} {as : List Int} (h : Asc i as) : Asc (i + 1) as := ⟨h.asc, fun m hm => by have := h.rg m hm; omega, by have := h.len; omega⟩
theorem Asc.snoc {i : Nat} {as : List Int} (h : Asc i as) : Asc (i + 1) (as ++ [((i : Nat) : Int)]) := by
  refine ⟨List.pairwise_append.mpr ⟨h.asc, List.pairwise_singleton _ _, fun a ha c hc => ?_⟩, fun m hm => ?_, ?_⟩
  · rw [List.mem_singleton.mp hc]
    exact (h.rg a ha).2
  · rcases List.mem_append.mp hm with hm | hm
    · have := h.rg m hm; omega
    · rw [List.mem_singleton.mp hm]; omega
  · have := h.len
    rw [List.length_append, List.length_singleton]; omega
def OptRg (many : Int) (o : Option Int) : Prop := ∀ n, o = some n → 0 ≤ n ∧ n < many
structure RowsOk (many wide : Int) (rows : List Row) : Prop where
  w : ∀ r ∈ rows, (r.length : Int) = wide
  rg : ∀ r ∈ rows, ∀ o ∈ r, OptRg many o
theorem RowsOk.good {many wide : Int} {rows : List Row} (h : RowsOk many wide rows) (hl : (rows.length : Int) = many) (m0 : 1 ≤ many) (m1 : many ≤ 6) (w0 : 1 ≤ wide) (w1 : wide ≤ 5) : GoodT rows := by
  obtain ⟨r0, rest, rfl⟩ : ∃ a l, rows = a :: l := by
    cases rows with
    | nil => rw [List.length_nil] at hl; omega
    | cons a l => exact ⟨a, l, rfl⟩
  have hw0 := h.w r0 List.mem_cons_self
  refine ⟨⟨by omega, by omega⟩, ⟨by show 1 ≤ r0.length; omega, by show r0.length ≤ 5; omega⟩, fun r hr => ⟨?_, fun n hn => ?_⟩⟩
  · show r.length = r0.length
    have := h.w r hr
    omega
  · have := h.rg r hr _ hn n rfl
    rw [hl]
    exact this
section
variable {P : Program} {w : World} {K : PySem.W.Frag} {mg : Str → Option Value} {base : Heap}
abbrev s__law_table : Stmt := top 42
theorem sc__law_table : FnScope ["_law_bag_here", "_law_many", "_law_wide", "_law_gaps", "_law_rows", "_law_q", "_law_pick", "_law_ends", "_law_a"] ["_law_bag_here"] (defScope s__law_table) := ⟨rfl, rfl, rfl, by decide +kernel, rfl, by decide +kernel, by decide +kernel⟩
def sp__law_table (K : PySem.W.Frag) : Sp := fun vs H Q _ => ∃ (b : Addr), vs = [.ref b] ∧ BagAt H b ∧ ∀ q rows cl H', Ext H H' → PlanV K H' (.ref q) (some (rows, cl)) → Q (.ref q) H'
theorem c__law_table (T : Txt K mg) : Cal P w K mg base 3 "_law_table" (sp__law_table K) := by
  refine T.d__law_table.cal sc__law_table (fun _ _ _ _ _ _ us hl => match us, hl with | [_], _ => rfl) (fun vs H Q E h => ?_) (fun f cdv A outer s H vs Q E hr h => ?_)
  · obtain ⟨b, rfl, _⟩ := h
    rfl
  · obtain ⟨b, rfl, hb, k⟩ := h
    refine ⟨_, (pss_cons (ps_asg (pe_tup (pa_cons (pe_c (c__law_of T) hr (by decide) rfl (pa_cons (pv 0) (pa_cons (pe_lst (pa_cons pe_int (pa_cons pe_int (pa_cons pe_int (pa_cons pe_int (pa_cons pe_int (pa_cons pe_int (pa_cons pe_int (pa_cons pe_int pa_nil))))))))) pa_nil))) (pa_cons (pe_c (c__law_of T) hr (by decide) rfl (pa_cons (pv 0) (pa_cons (pe_lst (pa_cons pe_int (pa_cons pe_int (pa_cons pe_int (pa_cons pe_int (pa_cons pe_int (pa_cons pe_int pa_nil))))))) pa_nil))) pa_nil))) (pg_tup rfl (pgs_cons (pg_name (i := 1) sc__law_table.nd rfl (Or.inr rfl)) (pgs_cons (pg_name (i := 2) sc__law_table.nd rfl (Or.inl rfl)) pgs_nil))))
  (pss_cons (ps_set (i := 3) sc__law_table.nd rfl (Or.inr rfl) (pe_c (c__law_of T) hr (by decide) rfl (pa_cons (pv 0) (pa_cons (pe_lst (pa_cons pe_int (pa_cons pe_int (pa_cons pe_int (pa_cons pe_int pa_nil))))) pa_nil))))
  (pss_cons (ps_set (i := 4) sc__law_table.nd rfl (Or.inl rfl) (pe_lst pa_nil))
  (pss_cons (ps_for PassesOwn.never rfl (pi_range1 rfl T.n_range (pa_cons (pv 1) pa_nil)) (pg_name (i := 5) sc__law_table.nd rfl (Or.inl rfl)) (pss_one (ps_expr (pe_bm PySem.F.plainAttrs_list PySem.F.slot_list_append PySem.F.type_list_append mt_append (pv 4) (pa_cons (pe_lc (own := [("_law_a", 8)]) (g := gName 8) (tt := tYes) rfl sc__law_table.nd (pi_range1 rfl T.n_range (pa_cons (pv 2) pa_nil)) (blkOk_by (by kernel_rfl)) (fun _ _ _ _ _ => (pg_name (i := 8) sc__law_table.nd rfl (Or.inl rfl))) (fun _ _ _ _ _ => pts_nil) (fun _ _ _ _ _ => (pe_ifExp (pt_cmpR op_lt (pe_c (c__law_draw T) hr (by decide) rfl (pa_cons (pv 0) (pa_cons pe_int pa_nil))) (pv 3) (nomark _)) pe_non (pe_c (c__law_draw T) hr (by decide) rfl (pa_cons (pv 0) (pa_cons (pv 1) pa_nil)))))) pa_nil)))))
  (pss_cons (ps_set (i := 6) sc__law_table.nd rfl (Or.inl rfl) (pe_c (c__law_draw T) hr (by decide) rfl (pa_cons (pv 0) (pa_cons pe_int pa_nil))))
  (pss_cons (ps_setLc (i := 7) (own := [("_law_q", 5)]) (g := gName 5) rfl sc__law_table.nd rfl rfl (sw_true rfl rfl rfl (by decide +kernel)) (pi_range1 rfl T.n_range (pa_cons (pv 1) pa_nil)) (blkOk_by (by kernel_rfl)) (fun _ _ _ _ _ => (pg_name (i := 5) sc__law_table.nd rfl (Or.inl rfl))) (fun _ _ _ _ _ => (pts_one (pt_cmpR op_eq (pe_c (c__law_draw T) hr (by decide) rfl (pa_cons (pv 0) (pa_cons pe_int pa_nil))) pe_int (nomark _)))) (fun _ _ _ _ _ => (pv 5)))
  (pss_cons (ps_if (pt_cmpR op_eq (pv 6) pe_int (nomark _)) (pss_one (ps_set (i := 7) sc__law_table.nd rfl (Or.inl rfl) (pe_lst (pa_cons (pe_op op_sub (pv 1) pe_int) pa_nil)))) pss_nil)
  (pss_one (ps_ret (pe_tup (pa_cons (pv 4) (pa_cons (pv 7) pa_nil)))))))))))), ?_⟩
    have k0 := k
    refine ⟨_, rfl, (by show 8 ≤ sizeLine; decide), fun p hp => ⟨b, .ref p, rfl, (hb).ext (Ext.upd hp), .inl ⟨p, _, rfl, SqL.of upd_same, by show 0 < 8; decide, by show 8 ≤ 100; decide, fun v hv => ?_⟩⟩⟩
    obtain ⟨many, rfl, hm⟩ := mem_ints (ns := [1, 1, 2, 2, 3, 3, 4, 6]) (R := fun j => decide (1 ≤ j) && decide (j ≤ 6)) (by decide) hv
    rw [Bool.and_eq_true, decide_eq_true_eq, decide_eq_true_eq] at hm
    have e1 := Ext.upd (o := .lst ([V.int 1, .int 1, .int 2, .int 2, .int 3, .int 3, .int 4, .int 6])) hp
    revert e1
    generalize upd H p (.lst ([V.int 1, .int 1, .int 2, .int 2, .int 3, .int 3, .int 4, .int 6])) = H1
    intro e1
    clear hp p hv
    refine ⟨_, rfl, (by show 6 ≤ sizeLine; decide), fun p hp => ⟨b, .ref p, rfl, (hb.ext e1).ext (Ext.upd hp), .inl ⟨p, _, rfl, SqL.of upd_same, by show 0 < 6; decide, by show 6 ≤ 100; decide, fun v hv => ?_⟩⟩⟩
    obtain ⟨wide, rfl, hw⟩ := mem_ints (ns := [1, 2, 2, 2, 3, 5]) (R := fun j => decide (1 ≤ j) && decide (j ≤ 5)) (by decide) hv
    rw [Bool.and_eq_true, decide_eq_true_eq, decide_eq_true_eq] at hw
    refine ⟨(by show 2 ≤ sizeLine; decide), fun t ht => ?_⟩
    have e2 := (Ext.upd (o := .lst [V.int 1, .int 2, .int 2, .int 2, .int 3, .int 5]) hp).trans (Ext.upd (o := .tup [.int many, .int wide]) ht)
    have ht2 : (upd (upd H1 p (.lst [V.int 1, .int 2, .int 2, .int 2, .int 3, .int 5])) t (.tup [.int many, .int wide])) t = some (.tup [.int many, .int wide]) := upd_same
    revert e2 ht2
    generalize upd (upd H1 p (.lst [V.int 1, .int 2, .int 2, .int 2, .int 3, .int 5])) t (.tup [.int many, .int wide]) = H2
    intro e2 ht2
    replace e2 := e1.trans e2
    clear hp hv ht
    refine ⟨t, _, rfl, SqT.of ht2, rfl, _, _, rfl, _, _, rfl, rfl, ?_⟩
    refine ⟨_, rfl, (by show 4 ≤ sizeLine; decide), fun p hp => ⟨b, .ref p, rfl, (hb.ext e2).ext (Ext.upd hp), .inl ⟨p, _, rfl, SqL.of upd_same, by show 0 < 4; decide, by show 4 ≤ 100; decide, fun v hv => ?_⟩⟩⟩
    obtain ⟨gaps, rfl, hg⟩ := mem_ints (ns := [0, 1, 2, 3]) (R := fun j => decide (0 ≤ j) && decide (j ≤ 3)) (by decide) hv
    have e3 := e2.trans (Ext.upd (o := .lst ([V.int 0, .int 1, .int 2, .int 3])) hp)
    revert e3
    generalize upd H2 p (.lst ([V.int 0, .int 1, .int 2, .int 3])) = H3
    intro e3
    clear hp hv hg
    refine ⟨(by show 0 ≤ sizeLine; decide), fun R hR => ?_⟩
    have hR0 : H R = none := ext_none e3 hR
    have e4 := e3.trans (Ext.upd (o := .lst []) hR)
    have hR4 : (upd H3 R (.lst [])) R = some (.lst []) := upd_same
    revert e4 hR4
    generalize upd H3 R (.lst []) = H4
    intro e4 hR4
    clear hR
    refine ⟨_, rfl, many, rfl, by omega, by omega, for_range (fun i σ H' => ∃ v5 acc rows, σ = [some (.ref b), some (.int many), some (.int wide), some (.int gaps), some (.ref R), v5, none, none, none] ∧ Ext H H' ∧ H' R = some (.lst acc) ∧ Paired (RwN R H') acc rows ∧ rows.length = i ∧ RowsOk many wide rows)
      ⟨_, [], [], rfl, e4, hR4, .nil, rfl, ⟨(fun r h => nomatch h), (fun r h => nomatch h)⟩⟩ (fun i σ H5 hi h => ?_) (fun σ H5 h => ?_)⟩
    · obtain ⟨v5, acc, rows, rfl, e5, hR5, hA, hl, hok⟩ := h
      have hal := prd_len hA
      refine ⟨_, rfl, .inl ⟨rfl, _, SqL.of hR5⟩, _, rfl, wide, rfl, by omega, by omega, fun D hD => lcAny optI (OptRg many) hD (sl_lt (by omega)) (fun j H6 hj e6 Q1 k1 => ⟨rfl, ?_⟩) (fun H6 r e6 hl6 hn hP => ?_)⟩
      · refine ⟨_, rfl, b, _, rfl, hb.ext (e5.trans e6), by decide, by decide, fun x _ _ => ?_⟩
        refine ⟨_, rfl, _, _, rfl, rfl, _, rfl, ?_⟩
        refine ite2 (fun _ => ?_) (fun _ => ?_)
        · exact k1 none _ Ext.rfl' (fun n z => nomatch z)
        · refine ⟨_, rfl, _, rfl, b, _, rfl, hb.ext (e5.trans e6), by omega, by omega, fun y y0 y1 => k1 (some y) _ Ext.rfl' (fun n z => ?_)⟩
          cases z
          exact ⟨y0, y1⟩
      · have e56 := e5.trans e6
        have hR6 := e6 _ _ hR5
        have hDR : D ≠ R := fun z => by rw [z, hR5] at hD; cases hD
        refine ⟨R, _, _, rfl, rfl, hR6, sl_lt (by omega), ?_⟩
        refine ⟨_, acc ++ [.ref D], rows ++ [r], rfl, ext_mut e56 hR0, upd_same, prd_app (prd_mono (fun _ _ z => (RwN.ext z e6).upd) hA) (.cons ⟨D, rfl, hDR, by rw [upd_ne hDR]; exact hl6⟩ .nil), by rw [List.length_append, hl]; rfl, ⟨fun r' hr' => ?_, fun r' hr' => ?_⟩⟩
        · rcases List.mem_append.mp hr' with h | h
          · exact hok.w r' h
          · rw [List.mem_singleton.mp h]; omega
        · rcases List.mem_append.mp hr' with h | h
          · exact hok.rg r' h
          · rw [List.mem_singleton.mp h]; exact hP
    · obtain ⟨v5, acc, rows, rfl, e5, hR5, hA, hl, hok⟩ := h
      have gT := hok.good (by omega) hm.1 hm.2 hw.1 hw.2
      have hlm : (rows.length : Int) = many := by omega
      have fin : ∀ (E7 : Addr) (cl : List Int) (H7 : Hp) v5 v6 v8, Ext H5 H7 → H7 E7 = some (.lst (cl.map V.int)) → GoodC rows.length cl → tRet (tTup (tCons (tVar 4) (tCons (tVar 7) tNil))) { nx := fun _ H' => Q .non H', rt := Q } [some (.ref b), some (.int many), some (.int wide), some (.int gaps), some (.ref R), v5, v6, some (.ref E7), v8] H7 := by
        intro E7 cl H7 v5 v6 v8 e7 hE gC
        refine ⟨_, rfl, _, rfl, (by show 2 ≤ sizeLine; decide), fun q hq => ?_⟩
        have e8 := Ext.upd (o := .tup [.ref R, .ref E7]) hq
        refine k q rows cl _ ((e5.trans e7).trans e8) ⟨q, R, E7, rfl, SqT.of upd_same, ⟨acc, SqL.of (e8 _ _ (e7 _ _ hR5)), prd_mono (fun v r z => ?_) hA⟩, SqL.of (e8 _ _ hE), gT, gC⟩
        obtain ⟨p, h1, _, h3⟩ := z
        exact ⟨p, h1, SqL.of (e8 _ _ (e7 _ _ h3))⟩
      refine ⟨_, rfl, b, _, rfl, hb.ext e5, by decide, by decide, fun pick _ _ => ?_⟩
      refine ⟨_, rfl, many, rfl, by omega, by omega, fun D hD => ?_⟩
      have hnm : many.toNat = rows.length := by omega
      refine lc_it walk_range (fun i H' => Ext H5 H' ∧ ∃ as : List Int, H' D = some (.lst (as.map V.int)) ∧ Asc i as) ⟨Ext.upd hD, [], upd_same, ⟨.nil, (fun m h => nomatch h), Nat.le_refl _⟩⟩ (fun _ _ _ _ => trivial) (fun i x H6 H6' hi h y => ?_) (fun H6 h => ?_)
      · obtain ⟨e6, as, hl6, hA6⟩ := h
        obtain ⟨rfl, rfl⟩ := y
        refine ⟨rfl, _, rfl, b, _, rfl, hb.ext (e5.trans e6), by decide, by decide, fun x _ _ => ⟨rfl, _, rfl, ?_⟩⟩
        refine ite2 (fun _ => ?_) (fun _ => ?_)
        · have hal := hA6.len
          refine ⟨_, rfl, as.map V.int, hl6, by rw [List.length_map]; exact sl_lt (by omega), ext_mut e6 hD, as ++ [((i : Nat) : Int)], ?_, hA6.snoc⟩
          rw [upd_same, List.map_append]
          show some (HO.lst (as.map V.int ++ [V.int ((0 : Int) + (i : Nat))])) = _
          rw [show (0 : Int) + (i : Nat) = (i : Nat) by omega]
          rfl
        · exact ⟨e6, as, hl6, hA6.up⟩
      · obtain ⟨e6, as, hl6, hA6⟩ := h
        refine ⟨_, rfl, rfl, _, rfl, ?_⟩
        have hal := hA6.len
        refine ite2 (fun _ => ?_) (fun _ => ?_)
        · refine ⟨_, rfl, _, _, rfl, rfl, (by show 1 ≤ sizeLine; decide), fun E7 hE => ?_⟩
          exact fin E7 [many - 1] _ _ _ _ (e6.trans (Ext.upd hE)) upd_same ⟨List.pairwise_singleton _ _, fun m hm' => by rw [List.mem_singleton.mp hm']; omega, by show 1 ≤ 60; decide⟩
        · exact fin D as _ _ _ _ e6 hl6 ⟨hA6.asc, fun m hm' => by have := hA6.rg m hm'; omega, by omega⟩
end
end K12
namespace K12
open PySem PySem.Spec PyProof.Rows L2 SX
/-! ### the values of a request -/
theorem mem_intsP {ns : List Int} {R : Int → Prop} (h : ∀ z ∈ ns, R z) {v : V} (hv : v ∈ ns.map V.int) : ∃ z, v = .int z ∧ R z := by
  obtain ⟨s, hs, rfl⟩ := List.mem_map.mp hv
  exact ⟨_, rfl, h s hs⟩
section
variable {P : Program} {w : World} {K : PySem.W.Frag} {mg : Str → Option Value} {base : Heap}
abbrev s__law_values : Stmt := top 49
theorem sc__law_values : FnScope ["_law_bag_here", "_law_wide", "_law_ids", "_law_top", "_law_at", "_law_plan", "_law_k"] ["_law_bag_here", "_law_wide"] (defScope s__law_values) := ⟨rfl, rfl, rfl, by decide +kernel, rfl, by decide +kernel, by decide +kernel⟩
def sp__law_values (K : PySem.W.Frag) : Sp := fun vs H Q _ => ∃ (b : Addr) (wide : Int), vs = [.ref b, .int wide] ∧ BagAt H b ∧ 1 ≤ wide ∧ wide ≤ 5 ∧ ∀ p d H', Ext H H' → H p = none → ValAt K H' p d → ValOk d → (∀ t ∈ d.text, 1 ≤ t ∧ t ≤ wide) → Q (.ref p) H'
theorem c__law_values (T : Txt K mg) : Cal P w K mg base 4 "_law_values" (sp__law_values K) := by
  refine T.d__law_values.cal sc__law_values (fun _ _ _ _ _ _ us hl => match us, hl with | [_, _], _ => rfl) (fun vs H Q E h => ?_) (fun f cdv A outer s H vs Q E hr h => ?_)
  · obtain ⟨b, wide, rfl, _⟩ := h
    rfl
  · obtain ⟨b, wide, rfl, hb, w0, w1, k⟩ := h
    refine ⟨_, (pss_cons (ps_setLc (i := 2) (own := [("_law_k", 6)]) (g := gName 6) (tt := tYes) rfl sc__law_values.nd rfl rfl (sw_true rfl rfl rfl (by decide +kernel)) (pi_range1 rfl T.n_range (pa_cons (pe_c (c__law_of T) hr (by decide) rfl (pa_cons (pv 0) (pa_cons (pe_lst (pa_cons pe_int (pa_cons pe_int (pa_cons pe_int (pa_cons pe_int (pa_cons pe_int (pa_cons pe_int (pa_cons (pe_op op_add pe_int (pe_c (c__law_draw T) hr (by decide) rfl (pa_cons (pv 0) (pa_cons pe_int pa_nil)))) pa_nil)))))))) pa_nil))) pa_nil)) (blkOk_by (by kernel_rfl)) (fun _ _ _ _ _ => (pg_name (i := 6) sc__law_values.nd rfl (Or.inl rfl))) (fun _ _ _ _ _ => pts_nil) (fun _ _ _ _ _ => (pe_op op_add pe_int (pe_c (c__law_draw T) hr (by decide) rfl (pa_cons (pv 0) (pa_cons (pv 1) pa_nil))))))
  (pss_cons (ps_par (i := 3) (j := 4) rfl sc__law_values.nd rfl rfl (by decide) rfl rfl (pa_cons (pe_c (c__law_of T) hr (by decide) rfl (pa_cons (pv 0) (pa_cons (pe_lst (pa_cons pe_int (pa_cons pe_int (pa_cons pe_int (pa_cons pe_int (pa_cons pe_int (pa_cons pe_int (pa_cons (pe_op op_add pe_int (pe_c (c__law_draw T) hr (by decide) rfl (pa_cons (pv 0) (pa_cons pe_int pa_nil)))) pa_nil)))))))) pa_nil))) (pa_cons (pe_c (c__law_of T) hr (by decide) rfl (pa_cons (pv 0) (pa_cons (pe_lst (pa_cons pe_int (pa_cons pe_int (pa_cons pe_int (pa_cons (pe_c (c__law_draw T) hr (by decide) rfl (pa_cons (pv 0) (pa_cons pe_int pa_nil))) pa_nil))))) pa_nil))) pa_nil)) (by rfl))
  (pss_cons (ps_set (i := 5) sc__law_values.nd rfl (Or.inl rfl) (pe_ifExp (pt_cmpR op_eq (pe_c (c__law_draw T) hr (by decide) rfl (pa_cons (pv 0) (pa_cons pe_int pa_nil))) pe_int (nomark _)) (pe_c (c__law_table T) hr (by decide) rfl (pa_cons (pv 0) pa_nil)) pe_non))
  (pss_one (ps_ret (pe_lst (pa_cons (pe_c (c__law_name T) hr (by decide) rfl (pa_cons (pv 0) pa_nil)) (pa_cons (pv 2) (pa_cons (pv 3) (pa_cons (pe_c (c__law_of T) hr (by decide) rfl (pa_cons (pv 0) (pa_cons (pe_lst (pa_cons pe_str (pa_cons pe_str pa_nil))) pa_nil))) (pa_cons (pv 4) (pa_cons (pe_op op_add pe_int (pe_c (c__law_draw T) hr (by decide) rfl (pa_cons (pv 0) (pa_cons pe_int pa_nil)))) (pa_cons (pv 5) pa_nil))))))))))))), ?_⟩
    refine ⟨_, rfl, _, rfl, b, _, rfl, hb, by decide, by decide, fun r r0 r1 => ⟨_, _, rfl, rfl, (by show 7 ≤ sizeLine; decide), fun p hp => ⟨b, .ref p, rfl, hb.ext (Ext.upd hp), .inl ⟨p, _, rfl, SqL.of upd_same, by show 0 < 7; decide, by show 7 ≤ 100; decide, fun v hv => ?_⟩⟩⟩⟩
    obtain ⟨many, rfl, hm⟩ := mem_intsP (ns := [1, 2, 3, 4, 6, 16, 1 + r]) (R := fun j => 1 ≤ j ∧ j ≤ 16) (by intro z hz; simp at hz; omega) hv
    have e1 := (Ext.upd (o := .lst ([V.int 1, .int 2, .int 3, .int 4, .int 6, .int 16, .int (1 + r)])) hp)
    revert e1
    generalize upd H p (.lst ([V.int 1, .int 2, .int 3, .int 4, .int 6, .int 16, .int (1 + r)])) = H1
    intro e1
    clear hp hv
    refine ⟨many, rfl, by omega, by omega, fun D hD => lcAny V.int (fun t => 1 ≤ t ∧ t ≤ wide) hD (sl_lt (by omega)) (fun j H2 hj e2 Q1 k1 => ⟨rfl, ?_⟩) (fun H2 ids e2 hl2 hn hP => ?_)⟩
    · exact ⟨_, rfl, _, rfl, b, _, rfl, hb.ext (e1.trans e2), by omega, by omega, fun x x0 x1 => ⟨_, _, rfl, rfl, k1 _ _ Ext.rfl' ⟨by omega, by omega⟩⟩⟩
    replace e2 := e1.trans e2
    refine ⟨_, rfl, _, rfl, b, _, rfl, hb.ext e2, by decide, by decide, fun r2 r20 r21 => ⟨_, _, rfl, rfl, (by show 7 ≤ sizeLine; decide), fun p hp => ⟨b, .ref p, rfl, hb.ext (e2.trans (Ext.upd hp)), .inl ⟨p, _, rfl, SqL.of upd_same, by show 0 < 7; decide, by show 7 ≤ 100; decide, fun v hv => ?_⟩⟩⟩⟩
    obtain ⟨top, rfl, ht⟩ := mem_intsP (ns := [1, 2, 3, 5, 6, 16, 1 + r2]) (R := fun j => 1 ≤ j ∧ j ≤ 16) (by intro z hz; simp at hz; omega) hv
    have hl3 := (Ext.upd (o := .lst ([V.int 1, .int 2, .int 3, .int 5, .int 6, .int 16, .int (1 + r2)])) hp) _ _ hl2
    revert hl3
    have e3 := e2.trans (Ext.upd (o := .lst ([V.int 1, .int 2, .int 3, .int 5, .int 6, .int 16, .int (1 + r2)])) hp)
    revert e3
    generalize upd H2 p (.lst ([V.int 1, .int 2, .int 3, .int 5, .int 6, .int 16, .int (1 + r2)])) = H3
    intro e3
    clear hp hv
    intro hl3
    refine ⟨_, rfl, _, rfl, b, _, rfl, hb.ext e3, by decide, by decide, fun r3 r30 r31 => ⟨(by show 4 ≤ sizeLine; decide), fun p hp => ⟨b, .ref p, rfl, hb.ext (e3.trans (Ext.upd hp)), .inl ⟨p, _, rfl, SqL.of upd_same, by show 0 < 4; decide, by show 4 ≤ 100; decide, fun v hv => ?_⟩⟩⟩⟩
    obtain ⟨sd, rfl, hs⟩ := mem_intsP (ns := [0, 1, 9999, r3]) (R := fun j => 0 ≤ j ∧ j ≤ 9999) (by intro z hz; simp at hz; omega) hv
    have hl4 := (Ext.upd (o := .lst ([V.int 0, .int 1, .int 9999, .int r3])) hp) _ _ hl3
    revert hl4
    have e4 := e3.trans (Ext.upd (o := .lst ([V.int 0, .int 1, .int 9999, .int r3])) hp)
    revert e4
    generalize upd H3 p (.lst ([V.int 0, .int 1, .int 9999, .int r3])) = H4
    intro e4
    clear hp hv
    intro hl4
    refine ⟨_, _, rfl, ?_⟩
    have fin : ∀ (pl : V) (plan : Plan) (H5 : Hp), Ext H4 H5 → PlanV K H5 pl plan → tRet (tLst (tCons (tCall (sp__law_name K) [] E0 (tCons (tVar 0) tNil)) (tCons (tVar 2) (tCons (tVar 3) (tCons (tCall (sp__law_of K) [] E0 (tCons (tVar 0) (tCons (tLst (tCons (tC (.str (Str.ofString "best"))) (tCons (tC (.str (Str.ofString "draw"))) tNil))) tNil))) (tCons (tVar 4) (tCons (tOp (rI0 fun i j => V.int (i + j)) (tC (.int 1)) (tCall (sp__law_draw K) [] E0 (tCons (tVar 0) (tCons (tC (.int 4)) tNil)))) (tCons (tVar 5) tNil)))))))) { nx := fun _ H' => Q .non H', rt := Q } [some (.ref b), some (.int wide), some (.ref D), some (.int top), some (.int sd), some pl, none] H5 := by
      intro pl plan H5 e5 hpl
      refine ⟨_, rfl, b, rfl, hb.ext (e4.trans e5), fun nm H6 e6 hnm => ⟨_, rfl, _, rfl, _, rfl, (by show 2 ≤ sizeLine; decide), fun q hq => ⟨b, .ref q, rfl, hb.ext ((e4.trans e5).trans (e6.trans (Ext.upd hq))), .inl ⟨q, _, rfl, SqL.of upd_same, by show 0 < 2; decide, by show 2 ≤ 100; decide, fun v hv => ?_⟩⟩⟩⟩
      obtain ⟨kn, rfl, hk⟩ := mem_strs (names := ["best", "draw"]) (R := isKnob) (by decide +kernel) hv
      have e7 := Ext.upd (o := .lst [V.str (Str.ofString "best"), .str (Str.ofString "draw")]) hq
      have e57 := e6.trans e7
      refine ⟨_, rfl, _, rfl, b, _, rfl, hb.ext ((e4.trans e5).trans e57), by decide, by decide, fun r5 r50 r51 => ⟨_, _, rfl, rfl, _, rfl, (by show 7 ≤ sizeLine; decide), fun p hp => ?_⟩⟩
      have e8 := Ext.upd (o := .lst [.str nm, .ref D, .int top, .str kn, .int sd, .int (1 + r5), pl]) hp
      have e58 := e57.trans e8
      refine k p ⟨nm, ids, top, kn, sd, 1 + r5, plan⟩ _ ((e4.trans e5).trans e58) (ext_none ((e4.trans e5).trans e57) hp) ⟨D, pl, upd_same, SqL.of (e58 _ _ (e5 _ _ hl4)), hpl.ext e58⟩ ?_ hP
      refine reqOk_iff.mpr ⟨hnm, ?_, isNum_iff.mpr ht, hk, isNum_iff.mpr hs, isNum_iff.mpr ⟨by show 1 ≤ 1 + r5; omega, by show 1 + r5 ≤ 4; omega⟩⟩
      unfold isText
      rw [Bool.and_eq_true]
      refine ⟨lenIn_iff.mpr ⟨by show (1 : Int) ≤ (ids.length : Int); omega, by show (ids.length : Int) ≤ 16; omega⟩, List.all_eq_true.mpr fun t ht => isNum_iff.mpr ?_⟩
      have := hP t ht
      omega
    refine ⟨_, rfl, b, _, rfl, hb.ext e4, by decide, by decide, fun r4 _ _ => ⟨rfl, _, rfl, ?_⟩⟩
    refine ite2 (fun _ => ?_) (fun _ => ?_)
    · exact ⟨_, rfl, b, rfl, hb.ext e4, fun q rows cl H5 e5 hpl => fin _ _ _ e5 hpl⟩
    · exact fin .non none _ Ext.rfl' rfl
end
end K12
namespace K12
open PySem PySem.Spec PyProof.Rows L2 SX
/-! ### the pages counted -/
def plc (size top : Nat) (i : Nat) : List Int := (List.range size).map (fun k : Nat => (k : Int)) ++ (List.range (top - 1)).map (fun _ => (100 : Int) + (i : Nat))
def keyL (size top i k : Nat) : List Int := (plc size top i).take (k + 1)
def cutB (n w k : Nat) : Bool := decide ((k + 1) % w = 0) || decide (k + 1 = n)
def addK (ks : List (List Int)) (x : List Int) : List (List Int) := if x ∈ ks then ks else ks ++ [x]
def stepP (size top w i : Nat) (ks : List (List Int)) (k : Nat) : List (List Int) := if cutB (size + (top - 1)) w k = true then addK ks (keyL size top i k) else ks
def innerP (size top w i : Nat) (ks : List (List Int)) (m : Nat) : List (List Int) := (List.range m).foldl (stepP size top w i) ks
def outerP (size top w : Nat) (m : Nat) : List (List Int) := (List.range m).foldl (fun ks i => innerP size top w i ks (size + (top - 1))) []
theorem innerP_succ {size top w i : Nat} {ks : List (List Int)} {m : Nat} : innerP size top w i ks (m + 1) = stepP size top w i (innerP size top w i ks m) m := by
  unfold innerP
  rw [List.range_succ, List.foldl_append]
  rfl
theorem outerP_succ {size top w m : Nat} : outerP size top w (m + 1) = innerP size top w m (outerP size top w m) (size + (top - 1)) := by
  unfold outerP
  rw [List.range_succ, List.foldl_append]
  rfl
theorem plc_len (size top i : Nat) : (plc size top i).length = size + (top - 1) := by simp [plc]
theorem keyL_len {size top i k : Nat} (h : k < size + (top - 1)) : (keyL size top i k).length = k + 1 := by
  unfold keyL
  rw [List.length_take, plc_len]
  omega
theorem keyL_low {size top i j k : Nat} (h : k < size) : keyL size top i k = keyL size top j k := by
  unfold keyL plc
  rw [List.take_append_of_le_length (by simp; omega), List.take_append_of_le_length (by simp; omega)]
theorem keyL_at {size top i k : Nat} (h0 : size ≤ k) (h : k < size + (top - 1)) : (keyL size top i k)[size]? = some ((100 : Int) + (i : Nat)) := by
  unfold keyL plc
  rw [List.getElem?_take_of_lt (by omega), List.getElem?_append_right (by simp), List.length_map, List.length_range, Nat.sub_self, List.getElem?_map, List.getElem?_range (by omega)]
  rfl
theorem keyL_inj {size top i j k m : Nat} (hk : k < size + (top - 1)) (hm : m < size + (top - 1)) (e : keyL size top i k = keyL size top j m) : k = m ∧ (k < size ∨ i = j) := by
  have h1 := keyL_len (size := size) (top := top) (i := i) hk
  have h2 := keyL_len (size := size) (top := top) (i := j) hm
  have ekm : k = m := by rw [e] at h1; omega
  refine ⟨ekm, ?_⟩
  by_cases hs : k < size
  · exact .inl hs
  · right
    subst ekm
    have a := keyL_at (size := size) (top := top) (i := i) (by omega) hk
    rw [e, keyL_at (by omega) hm] at a
    have := Option.some.inj a
    omega
def cutsL (n w m : Nat) : List Nat := (List.range m).filter (cutB n w)
def bigL (size n w m : Nat) : List Nat := (List.range m).filter (fun k => cutB n w k && decide (size ≤ k))
/-- what stands behind i whole rounds, i > 0 -/
structure Rnd (size top w i : Nat) (ks : List (List Int)) : Prop where
  mem : ∀ x, x ∈ ks ↔ ∃ j k, j < i ∧ k < size + (top - 1) ∧ cutB (size + (top - 1)) w k = true ∧ x = keyL size top j k
/-- within round i, k < m done -/
structure Inn (size top w i m : Nat) (ks : List (List Int)) : Prop where
  mem : ∀ x, x ∈ ks ↔ ∃ j k, (j < i ∨ (j = i ∧ k < m)) ∧ k < size + (top - 1) ∧ cutB (size + (top - 1)) w k = true ∧ x = keyL size top j k
theorem inn_step {size top w i m : Nat} {ks : List (List Int)} (h : Inn size top w i m ks) (hm : m < size + (top - 1)) : Inn size top w i (m + 1) (stepP size top w i ks m) ∧
    (stepP size top w i ks m).length = ks.length + (if cutB (size + (top - 1)) w m = true ∧ (i = 0 ∨ size ≤ m) then 1 else 0) := by
  unfold stepP
  by_cases hc : cutB (size + (top - 1)) w m = true
  · rw [if_pos hc]
    unfold addK
    by_cases hx : keyL size top i m ∈ ks
    · rw [if_pos hx]
      obtain ⟨j, k, hj, hk, hck, e⟩ := (h.mem _).mp hx
      obtain ⟨rfl, hor⟩ := keyL_inj hm hk e
      have hji : j < i := by
        rcases hj with hj | ⟨_, hj⟩
        · exact hj
        · omega
      have hms : m < size := by
        rcases hor with hor | hor
        · exact hor
        · omega
      refine ⟨⟨fun x => ?_⟩, ?_⟩
      · rw [h.mem]
        constructor
        · rintro ⟨j', k', a, b, c, d⟩
          exact ⟨j', k', by omega, b, c, d⟩
        · rintro ⟨j', k', a, b, c, d⟩
          by_cases hh : j' = i ∧ k' = m
          · obtain ⟨rfl, rfl⟩ := hh
            exact ⟨j, k', .inl hji, b, c, by rw [d]; exact keyL_low hms⟩
          · exact ⟨j', k', by omega, b, c, d⟩
      · rw [if_neg (by omega)]
        rfl
    · rw [if_neg hx]
      refine ⟨⟨fun x => ?_⟩, ?_⟩
      · rw [List.mem_append, h.mem, List.mem_singleton]
        constructor
        · rintro (⟨j', k', a, b, c, d⟩ | rfl)
          · exact ⟨j', k', by omega, b, c, d⟩
          · exact ⟨i, m, by omega, hm, hc, rfl⟩
        · rintro ⟨j', k', a, b, c, d⟩
          by_cases hh : j' = i ∧ k' = m
          · obtain ⟨rfl, rfl⟩ := hh
            exact .inr d
          · exact .inl ⟨j', k', by omega, b, c, d⟩
      · have : i = 0 ∨ size ≤ m := by
          by_cases hi : i = 0
          · exact .inl hi
          · right
            refine Nat.le_of_not_lt fun hlt => hx ?_
            exact (h.mem _).mpr ⟨0, m, by omega, hm, hc, keyL_low hlt⟩
        rw [if_pos ⟨hc, this⟩, List.length_append, List.length_singleton]
  · rw [if_neg hc]
    refine ⟨⟨fun x => ?_⟩, by rw [if_neg (fun z => hc z.1)]; rfl⟩
    rw [h.mem]
    constructor
    · rintro ⟨j', k', a, b, c, d⟩
      exact ⟨j', k', by omega, b, c, d⟩
    · rintro ⟨j', k', a, b, c, d⟩
      by_cases hh : j' = i ∧ k' = m
      · obtain ⟨rfl, rfl⟩ := hh
        exact absurd c hc
      · exact ⟨j', k', by omega, b, c, d⟩
theorem inner_all {size top w i : Nat} {ks : List (List Int)} (h : Inn size top w i 0 ks) : ∀ m, m ≤ size + (top - 1) → Inn size top w i m (innerP size top w i ks m) ∧
    (innerP size top w i ks m).length = ks.length + (if i = 0 then (cutsL (size + (top - 1)) w m).length else (bigL size (size + (top - 1)) w m).length)
  | 0, _ => ⟨h, by unfold innerP cutsL bigL; split <;> rfl⟩
  | m + 1, hm => by
    obtain ⟨h1, h2⟩ := inner_all h m (by omega)
    obtain ⟨h3, h4⟩ := inn_step h1 (by omega)
    rw [innerP_succ]
    refine ⟨h3, ?_⟩
    rw [h4, h2]
    unfold cutsL bigL
    rw [List.range_succ, List.filter_append, List.filter_append, List.length_append, List.length_append]
    by_cases hi : i = 0
    · subst hi
      rw [if_pos rfl, if_pos rfl]
      cases hc : cutB (size + (top - 1)) w m <;> simp [hc]
      omega
    · rw [if_neg hi, if_neg hi]
      cases hc : cutB (size + (top - 1)) w m <;> by_cases hs : size ≤ m <;> simp [hc, hs, hi]
      omega
theorem outer_all {size top w : Nat} : ∀ m, Inn size top w m 0 (outerP size top w m) ∧ (outerP size top w (m + 1)).length = (cutsL (size + (top - 1)) w (size + (top - 1))).length + m * (bigL size (size + (top - 1)) w (size + (top - 1))).length
  | 0 => by
    have h0 : Inn size top w 0 0 (outerP size top w 0) := ⟨fun x => by
      constructor
      · intro z; exact nomatch z
      · rintro ⟨j, k, a, _⟩; omega⟩
    refine ⟨h0, ?_⟩
    rw [outerP_succ, (inner_all h0 _ (Nat.le_refl _)).2, if_pos rfl, Nat.zero_mul, Nat.add_zero]
    show 0 + _ = _
    rw [Nat.zero_add]
  | m + 1 => by
    obtain ⟨h1, h2⟩ := outer_all (size := size) (top := top) (w := w) m
    have h3 := (inner_all h1 _ (Nat.le_refl _)).1
    have h4 : Inn size top w (m + 1) 0 (outerP size top w (m + 1)) := by
      rw [outerP_succ]
      refine ⟨fun x => ?_⟩
      rw [h3.mem]
      constructor
      · rintro ⟨j, k, a, b, c, d⟩
        exact ⟨j, k, by omega, b, c, d⟩
      · rintro ⟨j, k, a, b, c, d⟩
        exact ⟨j, k, by omega, b, c, d⟩
    refine ⟨h4, ?_⟩
    rw [outerP_succ, (inner_all h4 _ (Nat.le_refl _)).2, if_neg (by omega), h2, Nat.add_mul, Nat.one_mul]
    omega
theorem cuts_tab : ∀ n : Nat, n < 32 → ∀ w : Nat, w < 5 → (((cutsL n (w + 1) n).length : Nat) : Int) = ((n : Int) + (w + 1) - 1) / ((w : Int) + 1) := by decide +kernel
theorem big_tab : ∀ size : Nat, size < 17 → ∀ t : Nat, t < 16 → ∀ w : Nat, w < 5 → (((bigL size (size + t) (w + 1) (size + t)).length : Nat) : Int) = if t = 0 then 0 else ((cutsL (size + t) (w + 1) (size + t)).length : Int) - (size : Int) / ((w : Int) + 1) := by decide +kernel
theorem pages_need {size top many w : Nat} (hs : 1 ≤ size) (hs' : size ≤ 16) (ht : 1 ≤ top) (ht' : top ≤ 16) (hm : 1 ≤ many) (hw : 1 ≤ w) (hw' : w ≤ 5) : (((outerP size top w many).length : Nat) : Int) = needI size (top : Int) (many : Int) (w : Int) := by
  obtain ⟨m, rfl⟩ : ∃ m, many = m + 1 := ⟨many - 1, by omega⟩
  obtain ⟨v, rfl⟩ : ∃ v, w = v + 1 := ⟨w - 1, by omega⟩
  obtain ⟨t, rfl⟩ : ∃ t, top = t + 1 := ⟨top - 1, by omega⟩
  have c := cuts_tab (size + t) (by omega) v (by omega)
  have b := big_tab size (by omega) t (by omega) v (by omega)
  rw [(outer_all m).2]
  show (((cutsL (size + t) (v + 1) (size + t)).length + m * (bigL size (size + t) (v + 1) (size + t)).length : Nat) : Int) = _
  have eP : ((size : Int) + ((t + 1 : Nat) : Int) - 1 + ((v + 1 : Nat) : Int) - 1) / ((v + 1 : Nat) : Int) = ((cutsL (size + t) (v + 1) (size + t)).length : Int) := by
    rw [c]
    congr 1 <;> omega
  have eS : (size : Int) / ((v + 1 : Nat) : Int) = (size : Int) / ((v : Int) + 1) := by congr 1
  unfold needI
  rw [eP, eS]
  generalize ((cutsL (size + t) (v + 1) (size + t)).length) = C at *
  generalize ((bigL size (size + t) (v + 1) (size + t)).length) = B at *
  generalize (size : Int) / ((v : Int) + 1) = Sh at *
  have hm1 : (((m + 1 : Nat) : Int) == 1) = decide (m = 0) := by
    rw [Bool.eq_iff_iff, beq_iff_eq, decide_eq_true_eq]; omega
  have ht1 : (((t + 1 : Nat) : Int) == 1) = decide (t = 0) := by
    rw [Bool.eq_iff_iff, beq_iff_eq, decide_eq_true_eq]; omega
  rw [hm1, ht1]
  by_cases h0 : m = 0
  · subst h0
    rw [if_pos (by decide), Nat.zero_mul]
    rfl
  · rw [if_neg (by simpa using h0)]
    by_cases h1 : t = 0
    · subst h1
      rw [if_pos rfl] at b
      rw [if_pos (by decide), show B = 0 by omega]
      rfl
    · rw [if_neg h1] at b
      rw [if_neg (by simpa using h1), Int.natCast_add, Int.natCast_mul, b]
      have : ((m + 1 : Nat) : Int) = (m : Int) + 1 := rfl
      rw [this, Int.add_mul, Int.one_mul]
      omega
theorem addK_len (ks : List (List Int)) (x : List Int) : (addK ks x).length ≤ ks.length + 1 := by
  unfold addK
  split
  · omega
  · rw [List.length_append, List.length_singleton]
    exact Nat.le_refl _
theorem room1 {k : Nat} {A : Around} (r : Room k A) : A.units + 1 < cLine := by
  have := r.units
  omega
theorem stepP_len (size top w i : Nat) (ks : List (List Int)) (k : Nat) : (stepP size top w i ks k).length ≤ ks.length + 1 := by
  unfold stepP
  split
  · exact addK_len _ _
  · omega
theorem innerP_len (size top w i : Nat) (ks : List (List Int)) : ∀ m, (innerP size top w i ks m).length ≤ ks.length + m
  | 0 => Nat.le_refl _
  | m + 1 => by
    rw [innerP_succ]
    have h1 := stepP_len size top w i (innerP size top w i ks m) m
    have h2 := innerP_len size top w i ks m
    omega
theorem outerP_len (size top w : Nat) : ∀ m, (outerP size top w m).length ≤ m * (size + (top - 1))
  | 0 => Nat.zero_le _
  | m + 1 => by
    rw [outerP_succ]
    have h1 := innerP_len size top w m (outerP size top w m) (size + (top - 1))
    have h2 := outerP_len size top w m
    rw [Nat.add_mul, Nat.one_mul]
    omega
/-! ### _law_pages -/
def kvI (ks : List (List Int)) : List (List L2.Key × V) := ks.map fun k => (k.map Sum.inl, V.bl true)
theorem inl_inj : ∀ {a b : List Int}, (a.map Sum.inl : List L2.Key) = b.map Sum.inl → a = b
  | [], [], _ => rfl
  | [], _ :: _, h => by cases h
  | _ :: _, [], h => by cases h
  | x :: a, y :: b, h => by
    rw [List.map_cons, List.map_cons, List.cons.injEq] at h
    rw [Sum.inl.inj h.1, inl_inj h.2]
theorem kvI_put (ks : List (List Int)) (x : List Int) : putK (kvI ks) (x.map Sum.inl) (V.bl true) = kvI (addK ks x) := by
  have e : ((kvI ks).any fun kv => decide (kv.1 = x.map Sum.inl)) = decide (x ∈ ks) := by
    rw [Bool.eq_iff_iff, List.any_eq_true, decide_eq_true_eq]
    constructor
    · rintro ⟨kv, hkv, h⟩
      obtain ⟨k, hk, rfl⟩ := List.mem_map.mp hkv
      rw [← inl_inj (of_decide_eq_true h)]
      exact hk
    · intro h
      exact ⟨_, List.mem_map.mpr ⟨x, h, rfl⟩, decide_eq_true rfl⟩
  unfold putK addK
  rw [e]
  by_cases h : x ∈ ks
  · rw [if_pos (decide_eq_true h), if_pos h]
    unfold kvI
    rw [List.map_map]
    refine List.map_congr_left fun k _ => ?_
    show (if _ = _ then _ else _) = _
    split
    · rfl
    · rfl
  · rw [if_neg (by simpa using h), if_neg h]
    unfold kvI
    rw [List.map_append]
    rfl
end K12
namespace K12
open PySem PySem.Spec PyProof.Rows L2 SX
theorem cutV_head (xs : List V) (k : Nat) : cutV xs none (some (k : Int)) = xs.take k := by
  unfold cutV
  rw [HT.sIx_none, HT.sIx_nat, List.drop_zero, Nat.sub_zero, ← List.take_eq_take_min]
theorem plc_vals (size top i : Nat) : (plc size top i).map V.int = rgV 0 (size : Int) ++ (List.range (top - 1)).map (fun _ => V.int ((100 : Int) + (i : Nat))) := by
  unfold plc rgV
  rw [List.map_append, List.map_map, List.map_map]
  congr 1
  have e : ((size : Int) - 0).toNat = size := by omega
  rw [e]
  refine List.map_congr_left fun k _ => ?_
  show V.int (k : Nat) = V.int (0 + (k : Nat))
  rw [Int.zero_add]
section
variable {P : Program} {w : World} {K : PySem.W.Frag} {mg : Str → Option Value} {base : Heap}
abbrev s__law_pages : Stmt := top 50
theorem sc__law_pages : FnScope ["_law_size", "_law_top", "_law_many", "_law_wide", "_law_seen", "_law_i", "_law_places", "_law_k"] ["_law_size", "_law_top", "_law_many", "_law_wide"] (defScope s__law_pages) := ⟨rfl, rfl, rfl, by decide +kernel, rfl, by decide +kernel, by decide +kernel⟩
def sp__law_pages : Sp := fun vs H Q _ => ∃ size tp many wd : Nat, vs = [.int size, .int tp, .int many, .int wd] ∧ size ≤ 16 ∧ 1 ≤ tp ∧ tp ≤ 16 ∧ many ≤ 4 ∧ 1 ≤ wd ∧ wd ≤ 5 ∧ ∀ H', Ext H H' → Q (.int ((outerP size tp wd many).length : Nat)) H'
theorem c__law_pages (T : Txt K mg) : Cal P w K mg base 1 "_law_pages" sp__law_pages := by
  refine T.d__law_pages.cal sc__law_pages (fun _ _ _ _ _ _ us hl => match us, hl with | [_, _, _, _], _ => rfl) (fun vs H Q E h => ?_) (fun f cdv A outer s H vs Q E hr h => ?_)
  · obtain ⟨size, tp, many, wd, rfl, _⟩ := h
    rfl
  · obtain ⟨size, tp, many, wd, rfl, b1, b2, b3, b4, b5, b6, k⟩ := h
    refine ⟨_, (pss_cons (ps_set (i := 4) sc__law_pages.nd rfl (Or.inl rfl) pe_dnewT)
  (pss_cons (ps_for PassesOwn.never rfl (pi_range1 rfl T.n_range (pa_cons (pv 2) pa_nil)) (pg_name (i := 5) sc__law_pages.nd rfl (Or.inr rfl)) (pss_cons (ps_set (i := 6) sc__law_pages.nd rfl (Or.inl rfl) (pe_op op_cat (pe_listRg rfl rfl T.n_list (prg_1 rfl T.n_range (pv 0))) (pe_lc (own := [("_law_k", 7)]) (g := gName 7) (tt := tYes) rfl sc__law_pages.nd (pi_range1 rfl T.n_range (pa_cons (pe_op op_sub (pv 1) pe_int) pa_nil)) (blkOk_by (by kernel_rfl)) (fun _ _ _ _ _ => (pg_name (i := 7) sc__law_pages.nd rfl (Or.inl rfl))) (fun _ _ _ _ _ => pts_nil) (fun _ _ _ _ _ => (pe_op op_add pe_int (pv 5))))))
    (pss_one (ps_for PassesOwn.never rfl (pi_range1 rfl T.n_range (pa_cons (pe_callB (call_lenK (K := K)) rfl T.n_len bt_len (pa_cons (pv 6) pa_nil)) pa_nil)) (pg_name (i := 7) sc__law_pages.nd rfl (Or.inl rfl)) (pss_one (ps_if (PW.pt (pw_or (pt_cmpR op_eq (pe_op op_mod (pe_callTy call_int1 rfl T.n_int bt_int (pa_cons (pe_op op_add (pv 7) pe_int) pa_nil)) (pv 3)) pe_int (nomark _)) (pw_or1 (pt_cmpR op_eq (pv 7) (pe_op op_sub (pe_callB (call_lenK (K := K)) rfl T.n_len bt_len (pa_cons (pv 6) pa_nil)) pe_int) (nomark _))))) (pss_one (ps_asg pe_bl (pg_sub (pv 4) (pe_callTy (call_tupleK (K := K)) rfl T.n_tuple bt_tuple (pa_cons (pe_slice (sl_listK (K := K)) (pv 6) po_none (po_some (pe_op op_add (pv 7) pe_int))) pa_nil)) (set_dict (room1 hr))))) pss_nil))))))
  (pss_one (ps_ret (pe_callB call_len_dT rfl T.n_len bt_len (pa_cons (pv 4) pa_nil)))))), ?_⟩
    refine fun Sd hS => ?_
    have e1 : Ext H (upd H Sd (.dT [])) := Ext.upd hS
    have hS1 : (upd H Sd (.dT [])) Sd = some (.dT []) := upd_same
    revert e1 hS1
    generalize upd H Sd (.dT []) = H1
    intro e1 hS1
    refine ⟨_, rfl, many, rfl, by omega, by omega, for_range (fun i σ H' => ∃ v5 v6 v7, σ = [some (.int size), some (.int tp), some (.int many), some (.int wd), some (.ref Sd), v5, v6, v7] ∧ Ext H H' ∧ H' Sd = some (.dT (kvI (outerP size tp wd i))))
      ⟨_, _, _, rfl, e1, hS1⟩ (fun i σ H2 hi h => ?_) (fun σ H2 h => ?_)⟩
    · obtain ⟨v5, v6, v7, rfl, e2, hS2⟩ := h
      have hol := outerP_len size tp wd i
      have him : i * (size + (tp - 1)) ≤ 4 * 31 := Nat.mul_le_mul (by omega) (by omega)
      refine ⟨_, rfl, size, rfl, RgOk.of_le (by omega) (by omega) (by omega) (by omega), fun A1 hA1 => ?_⟩
      have e3 := Ext.upd (o := .lst (rgV 0 (size : Int))) hA1
      have hA13 : (upd H2 A1 (.lst (rgV 0 (size : Int)))) A1 = some (.lst (rgV 0 (size : Int))) := upd_same
      revert e3 hA13
      generalize upd H2 A1 (.lst (rgV 0 (size : Int))) = H3
      intro e3 hA13
      refine ⟨_, rfl, _, _, rfl, rfl, _, rfl, by omega, by omega, fun D hD => lcRy (fun _ => V.int ((100 : Int) + (i : Nat))) hD (sl_lt (by omega)) (fun j H4 hj e4 Q1 k1 => ⟨rfl, ?_⟩) (fun H4 e4 hl4 => ?_)⟩
      · refine ⟨_, rfl, _, _, rfl, rfl, ?_⟩
        have ei : (0 : Int) + (i : Nat) = (i : Nat) := by omega
        rw [ei]
        exact k1 _ Ext.rfl'
      · refine ⟨A1, D, _, _, rfl, rfl, e4 _ _ hA13, hl4, ?_, fun A2 hA2 => ?_⟩
        · rw [rgV_length, List.length_map, List.length_range]
          exact sl_of (by omega)
        have etn : ((tp : Int) - 1).toNat = tp - 1 := by omega
        rw [etn, ← plc_vals]
        have e5 := Ext.upd (o := .lst ((plc size tp i).map V.int)) hA2
        have hA25 : (upd H4 A2 (.lst ((plc size tp i).map V.int))) A2 = some (.lst ((plc size tp i).map V.int)) := upd_same
        revert e5 hA25
        generalize upd H4 A2 (.lst ((plc size tp i).map V.int)) = H5
        intro e5 hA25
        have e25 := e2.trans (e3.trans (e4.trans e5))
        have hS5 := (e3.trans (e4.trans e5)) _ _ hS2
        have nSA : Sd ≠ A2 := ne_of hS5 hA25 (by intro z; cases z)
        have hpl := plc_len size tp i
        refine ⟨_, rfl, A2, _, rfl, .inl (SqL.of hA25), ?_⟩
        rw [List.length_map, hpl]
        refine ⟨_, rfl, by omega, by omega, for_range (fun m σ H' => ∃ v7, σ = [some (.int size), some (.int tp), some (.int many), some (.int wd), some (.ref Sd), some (.int ((0 : Int) + (i : Nat))), some (.ref A2), v7] ∧ Ext H H' ∧ H' A2 = some (.lst ((plc size tp i).map V.int)) ∧ H' Sd = some (.dT (kvI (innerP size tp wd i (outerP size tp wd i) m))))
          ⟨_, rfl, e25, hA25, hS5⟩ (fun m σ H6 hm h => ?_) (fun σ H6 h => ?_)⟩
        · obtain ⟨v7, rfl, e6, hA6, hS6⟩ := h
          have hmn : m < size + (tp - 1) := by omega
          have hil := innerP_len size tp wd i (outerP size tp wd i) m
          have em : (0 : Int) + (m : Nat) = (m : Nat) := by omega
          rw [em]
          have skip : cutB (size + (tp - 1)) wd m = false → H6 Sd = some (.dT (kvI (innerP size tp wd i (outerP size tp wd i) (m + 1)))) := fun hc => by
            rw [innerP_succ]
            unfold stepP
            rw [hc, if_neg Bool.false_ne_true]
            exact hS6
          have body : cutB (size + (tp - 1)) wd m = true → ∀ (p : Addr), H6 p = none → ∀ l, (upd H6 p (.lst ((keyL size tp i m).map V.int))) l = none → rSetD (.ref Sd) (.ref l) (.bl true) (upd (upd H6 p (.lst ((keyL size tp i m).map V.int))) l (.tup ((keyL size tp i m).map V.int))) (fun H7 => Ext H H7 ∧ H7 A2 = some (.lst ((plc size tp i).map V.int)) ∧ H7 Sd = some (.dT (kvI (innerP size tp wd i (outerP size tp wd i) (m + 1))))) := by
            intro hc p hp l hl
            have e7 := (Ext.upd (o := .lst ((keyL size tp i m).map V.int)) hp).trans (Ext.upd (o := .tup ((keyL size tp i m).map V.int)) hl)
            refine ⟨Sd, _, rfl, DPut.t (k := (keyL size tp i m).map Sum.inl) (e7 _ _ hS6) (by rw [upd_same, List.map_map]; rfl) ?_, ?_⟩
            · unfold kvI
              rw [List.length_map]
              exact sl_lt (by omega)
            · rw [kvI_put, innerP_succ]
              unfold stepP
              rw [if_pos hc]
              exact ⟨ext_mut (e6.trans e7) hS, by rw [upd_ne (Ne.symm nSA)]; exact e7 _ _ hA6, upd_same⟩
          have emod : ((((m : Nat) : Int) + 1) % (wd : Int) = 0) ↔ (m + 1) % wd = 0 := by
            have e : ((((m + 1) % wd : Nat)) : Int) = (((m : Nat) : Int) + 1) % (wd : Int) := by rw [Int.natCast_emod]; rfl
            rw [← e]
            omega
          have store : cutB (size + (tp - 1)) wd m = true → ∀ (C : Ends), C.nx = (fun σ H' => ∃ v7, σ = [some (.int size), some (.int tp), some (.int many), some (.int wd), some (.ref Sd), some (.int ((0 : Int) + (i : Nat))), some (.ref A2), v7] ∧ Ext H H' ∧ H' A2 = some (.lst ((plc size tp i).map V.int)) ∧ H' Sd = some (.dT (kvI (innerP size tp wd i (outerP size tp wd i) (m + 1))))) →
              tAsg (tC (.bl true)) (gSub (tVar 4) (tCB (rTupleS K) (tCons (tSl (rSlL K) (tVar 6) tNoPart (tPart (tOp (rI0 fun i j => V.int (i + j)) (tVar 7) (tC (.int 1))))) tNil)) rSetD) C [some (.int size), some (.int tp), some (.int many), some (.int wd), some (.ref Sd), some (.int ((0 : Int) + (i : Nat))), some (.ref A2), some (.int ((m : Nat) : Int))] H6 := by
            intro hc C hC
            refine ⟨_, rfl, _, rfl, _, rfl, _, _, rfl, rfl, _, rfl, A2, _, rfl, SqL.of hA6, ?_⟩
            have ecut : cutV ((plc size tp i).map V.int) none (some (((m : Nat) : Int) + 1)) = (keyL size tp i m).map V.int := by
              rw [show ((m : Nat) : Int) + 1 = ((m + 1 : Nat) : Int) from rfl, cutV_head, ← List.map_take]
              rfl
            rw [ecut]
            intro p hp
            refine ⟨p, _, rfl, .inl ⟨SqL.of upd_same, fun l hl => ?_⟩⟩
            obtain ⟨a, H7, h1, h2, h3⟩ := body hc p hp l hl
            exact ⟨a, H7, h1, h2, by rw [hC]; exact ⟨_, rfl, h3⟩⟩
          refine ⟨_, rfl, _, _, rfl, rfl, .inl ⟨_, rfl, _, rfl, _, _, rfl, rfl, by show (0 : Int) < (wd : Int); omega, rfl, _, rfl, ?_⟩⟩
          refine ite2 (fun h1 => ?_) (fun h1 => ?_)
          · have hc : cutB (size + (tp - 1)) wd m = true := by
              unfold cutB
              rw [decide_eq_true (emod.mp (V.int.inj (of_decide_eq_true h1))), Bool.true_or]
            exact store hc _ rfl
          · refine ⟨_, rfl, _, rfl, A2, _, rfl, .inl (SqL.of hA6), _, _, rfl, rfl, rfl, _, rfl, ?_⟩
            have n1 : ¬ (m + 1) % wd = 0 := fun z => h1 (decide_eq_true (congrArg V.int (emod.mpr z)))
            refine ite2 (fun h2 => ?_) (fun h2 => ?_)
            · have hc : cutB (size + (tp - 1)) wd m = true := by
                have h3 := V.int.inj (of_decide_eq_true h2)
                rw [List.length_map, hpl] at h3
                unfold cutB
                rw [decide_eq_true (show m + 1 = size + (tp - 1) by omega), Bool.or_true]
              exact store hc _ rfl
            · refine ⟨_, rfl, e6, hA6, skip ?_⟩
              unfold cutB
              rw [decide_eq_false n1, Bool.false_or]
              refine decide_eq_false fun z => h2 (decide_eq_true (congrArg V.int ?_))
              rw [List.length_map, hpl]
              omega
        · obtain ⟨v7, rfl, e6, hA6, hS6⟩ := h
          refine ⟨_, _, _, rfl, e6, ?_⟩
          rw [outerP_succ]
          have : ((size + (tp - 1) : Nat) : Int).toNat = size + (tp - 1) := by omega
          exact hS6
    · obtain ⟨v5, v6, v7, rfl, e2, hS2⟩ := h
      refine ⟨_, rfl, Sd, _, rfl, hS2, ?_⟩
      unfold kvI
      rw [List.length_map]
      exact k _ e2
end
end K12
namespace K12
open PySem PySem.Spec PyProof.Rows L2 SX
/-! ### a method called by keywords -/
structure MKw (P : Program) (w : World) (K : PySem.W.Frag) (mg : Str → Option Value) (base : Heap) (k : Nat) (f : Addr) (ks : List Str) (sp : Sp) (gV : List V → List V → List V) : Prop where
  ex : ∃ (fd : FuncData) (ps : List Str) (g : List Value → List Value → List Value), FnOk P w K mg base CX0 k f fd ps sp ∧ KBn K fd ps 1 ks g gV
section
variable {X : Cx} {k j : Nat} {C f : Addr} {ks : List Str} {sp : Sp} {m : Str} {pos apos : Pos} {o : Expr} {kws : List Keyword} {tk : TA} {ta : TE} {gV : List V → List V → List V}
theorem pe_mkk {pl : Sem Bool} (c : MKw X.prog X.w X.K X.mg X.base k f ks sp gV) (hr : Room j X.A) (hk : k ≤ j) (cl : Cls X.K C) (hm : Meth X.K C m f) (he : PE X o ta) (hkw : PK X kws tk)
    (hall : (backToKw pos (keywordEach kws X.env)).all (·.1.isSome) = true := by rfl) (hks : (backToKw pos (keywordEach kws X.env)).filterMap (·.1) = ks := by rfl)
    (hpl : ((backTo pos (starEach [] X.env)).any (·.1) || (backToKw pos (keywordEach kws X.env)).any (·.1.isNone)) = false := by rfl)
    (ht : eval (.Call (.Attribute o m apos) [] kws pos) X.env = (do
      let ov ← eval o X.env
      standAt apos.atName
      let (f, first) ← holding [ov] (getMethod ov m pl)
      callWith pos f first (backTo pos (starEach [] X.env)) (backToKw pos (keywordEach kws X.env))) := by rfl) : PE X (.Call (.Attribute o m apos) [] kws pos) (tMethK C m ks.length sp gV ta tk) := by
  obtain ⟨fd, ps, g, F, hb⟩ := c.ex
  exact pe_mkw F hr hk cl hm hb he hkw hall hks hpl ht
end
theorem lkR_need {n t m k s c a : V} : (reqFs n t m k s c a).lookup ("need" : Str) = none := (look_tl (ne_str (by decide))).trans ((look_tl (ne_str (by decide))).trans ((look_tl (ne_str (by decide))).trans ((look_tl (ne_str (by decide))).trans ((look_tl (ne_str (by decide))).trans ((look_tl (ne_str (by decide))).trans ((look_tl (ne_str (by decide))).trans rfl))))))
section
variable {P : Program} {w : World} {K : PySem.W.Frag} {mg : Str → Option Value} {base : Heap}
theorem c_need_kw (T : Txt K mg) : MKw P w K mg base 1 (He.ma K (cR K) "need") ["page"] (sp_Request_need K) (fun vs zs => vs ++ zs) := by
  obtain ⟨fd, F, G⟩ := f_Request_need (P := P) (w := w) (base := base) T
  exact ⟨fd, _, _, G, kbN F 1 ["page"] (fun us ws => us ++ ws) Vals.append (fun kV doc pm an cdv ct us ws l1 l2 => match us, l1, ws, l2 with | [_], _, [_], _ => rfl)⟩
theorem c_entry_kw (T : Txt K mg) : MKw P w K mg base 6 (He.ma K (cR K) "entry") ["tokens"] (sp_Request_entry K) (fun vs zs => vs ++ zs) := by
  obtain ⟨fd, F, G⟩ := f_Request_entry (P := P) (w := w) (base := base) T
  exact ⟨fd, _, _, G, kbN F 1 ["tokens"] (fun us ws => us ++ ws) Vals.append (fun kV doc pm an cdv ct us ws l1 l2 => match us, l1, ws, l2 with | [_], _, [_], _ => rfl)⟩
abbrev s__law_needs_so : Stmt := top 60
theorem sc__law_needs_so : FnScope ["_law_asked", "_law_v", "_law_wide", "_law_due_here"] ["_law_asked", "_law_v"] (defScope s__law_needs_so) := ⟨rfl, rfl, rfl, by decide +kernel, rfl, by decide +kernel, by decide +kernel⟩
def sp__law_needs_so (K : PySem.W.Frag) : Sp := fun vs H Q _ => ∃ (x p : Addr) (d : ReqD), vs = [.ref x, .ref p] ∧ ReqAt K H x d ∧ ValAt K H p d ∧ ReqG d ∧ ∀ H', Ext H H' → Q (.bl true) H'
theorem c__law_needs_so (T : Txt K mg) : Cal P w K mg base 4 "_law_needs_so" (sp__law_needs_so K) := by
  refine T.d__law_needs_so.cal sc__law_needs_so (fun _ _ _ _ _ _ us hl => match us, hl with | [_, _], _ => rfl) (fun vs H Q E h => ?_) (fun f cdv A outer s H vs Q E hr h => ?_)
  · obtain ⟨x, p, d, rfl, _⟩ := h
    rfl
  · obtain ⟨x, p, d, rfl, hR, hV, hG, k⟩ := h
    refine ⟨_, (pss_cons (ps_for PassesOwn.never rfl (pi_range2 rfl T.n_range (pa_cons pe_int (pa_cons pe_int pa_nil))) (pg_name (i := 2) sc__law_needs_so.nd rfl (Or.inl rfl)) (pss_cons (ps_set (i := 3) sc__law_needs_so.nd rfl (Or.inl rfl) (pe_c (c__law_pages T) hr (by decide) rfl (pa_cons (pe_callB (call_lenK (K := K)) rfl T.n_len bt_len (pa_cons (pe_ix (ix_listK (K := K)) (pv 1) pe_int (fun _ _ => rfl)) pa_nil)) (pa_cons (pe_ix (ix_listK (K := K)) (pv 1) pe_int (fun _ _ => rfl)) (pa_cons (pe_ix (ix_listK (K := K)) (pv 1) pe_int (fun _ _ => rfl)) (pa_cons (pv 2) pa_nil))))))
    (pss_one (ps_if (pt_not (pt_val (pe_c (c_like T 2) hr (by decide) rfl (pa_cons (pe_lst (pa_cons (pe_mc (c_Request_need T) hr (by decide) T.r_cls T.r_m_need (pv 0) (pa_cons (pv 2) pa_nil)) (pa_cons (pe_mkk (ks := (["page"] : List Str)) (c_need_kw T) hr (by decide) T.r_cls T.r_m_need (pv 0) (pk_cons (pv 2) pk_nil)) pa_nil))) (pa_cons (pe_lst (pa_cons (pv 3) (pa_cons (pv 3) pa_nil))) pa_nil))))) (pss_one (ps_ret pe_bl)) pss_nil))))
  (pss_one (ps_ret pe_bl))), ?_⟩
    obtain ⟨t, pl, hp, hT, hP⟩ := hV
    have gt := hG.text
    have gm := hG.most
    have gc := hG.copies
    obtain ⟨tp, etp⟩ := Int.eq_ofNat_of_zero_le (show 0 ≤ d.most by omega)
    obtain ⟨mn, emn⟩ := Int.eq_ofNat_of_zero_le (show 0 ≤ d.copies by omega)
    refine ⟨_, _, rfl, by decide, for_range (n := 5) (lo := 1) (fun i σ H' => ∃ v2 v3, σ = [some (.ref x), some (.ref p), v2, v3] ∧ Ext H H') ⟨_, _, rfl, Ext.rfl'⟩ (fun i σ H2 hi h => ?_) (fun σ H2 h => ?_)⟩
    · obtain ⟨v2, v3, rfl, e2⟩ := h
      have hp2 := e2 _ _ hp
      refine ⟨_, rfl, _, _, _, _, rfl, rfl, SqL.of hp2, atI_nat (j := 1) rfl, t, _, rfl, .inl (hT.ext e2), _, rfl, _, _, _, _, rfl, rfl, SqL.of hp2, atI_nat (j := 2) rfl, _, rfl, _, _, _, _, rfl, rfl, SqL.of hp2, atI_nat (j := 5) rfl, _, rfl, ?_⟩
      refine ⟨d.text.length, tp, mn, 1 + i, by rw [List.length_map, etp, emn]; rfl, by omega, by omega, by omega, by omega, by omega, by omega, fun H3 e3 => ?_⟩
      have en := pages_need (size := d.text.length) (top := tp) (many := mn) (w := 1 + i) (by omega) (by omega) (by omega) (by omega) (by omega) (by omega) (by omega)
      have en2 : (((outerP d.text.length tp (1 + i) mn).length : Nat) : Int) = needI d.text.length d.most d.copies ((1 : Int) + (i : Nat)) := by rw [en, etp, emn]; rfl
      rw [en2]
      obtain ⟨dx, pt, av, hx, hTt, hPp⟩ := hR
      have hR0 : ReqAt K H x d := ⟨dx, pt, av, hx, hTt, hPp⟩
      have e23 := e2.trans e3
      have hx3 := e23 _ _ hx
      refine ⟨_, rfl, x, dx, _, rfl, hx3, lkR_need, _, rfl, x, d, _, rfl, hR0.ext e23, by omega, by omega, by omega, by omega, ?_⟩
      refine ⟨_, rfl, x, dx, _, rfl, hx3, lkR_need, _, rfl, rfl, x, d, _, rfl, hR0.ext e23, by omega, by omega, by omega, by omega, ?_⟩
      refine ⟨(by show 2 ≤ sizeLine; decide), fun A1 hA => ⟨_, rfl, _, rfl, (by show 2 ≤ sizeLine; decide), fun A2 hB => ⟨.ref A1, .ref A2, rfl, .inr ⟨A1, A2, _, _, rfl, rfl, .inl ⟨SqL.of ((Ext.upd hB) _ _ upd_same), SqL.of upd_same⟩, by show 2 ≤ 100; decide, .cons (same_int _) (.cons (same_int _) .nil)⟩, fun H6 e6 => ⟨_, rfl, ?_⟩⟩⟩⟩
      exact ⟨_, _, rfl, e23.trans ((Ext.upd hA).trans ((Ext.upd hB).trans e6))⟩
    · obtain ⟨v2, v3, rfl, e2⟩ := h
      exact k _ e2
end
end K12
namespace K12
open PySem PySem.Spec PyProof.Rows L2 SX
/-! ### a bent line: the rules -/
def rRep17 : R2 := fun x y H Q => ∃ c : Nat, x = .str (S [c]) ∧ y = .int 17 ∧ Q (.str (S (List.replicate 17 c))) H
theorem rep17_eq (c : Nat) : (⟨(List.replicate (17 : Int).toNat (S [c]).cps).foldl (· ++ ·) #[]⟩ : Str) = S (List.replicate 17 c) := by
  have e : (17 : Int).toNat = 17 := rfl
  rw [e]
  unfold S
  simp [List.replicate]
set_option maxHeartbeats 200000 in
theorem op_rep17 {X : Cx} : OpR X (binaryOp .Mult) rRep17 := by
  intro pins s σ H x y v u Q I rx ry h
  obtain ⟨c, rfl, rfl, q⟩ := h
  obtain ⟨t, rfl⟩ := rx
  obtain ⟨t', rfl⟩ := ry
  have hl : (S [c]).length = 1 := SX.S_len _
  refine PySem.P.mul_str (x := S [c]) (n := 17) (by decide +kernel) (fun _ _ => by rw [hl]; omega) (fun _ _ => by rw [hl]; decide +kernel) ?_
  rw [if_neg (show ¬ (17 : Int) < 1 by decide), if_neg (show ¬ (((17 : Int) == 1 || (S [c]).length == 0) = true) by rw [hl]; decide), rep17_eq]
  refine ⟨?_, .str (S (List.replicate 17 c)), H, I.tok _, ⟨_, rfl⟩, q⟩
  show (S (List.replicate 17 c)).length ≤ sizeLine
  rw [SX.S_len, List.length_replicate]
  decide
section
variable {X : Cx} {f : Expr} {es : List Expr} {tf : TE} {ta : TA} {c : Str} {op : Operator} {r : R2} {j : Nat} {c0 p : Pos}
/-- the first item has a written text: a token is out for the others -/
theorem pa_tok (ho : OpR X (binaryOp op) r) (hb : PE X f tf) (hr : PAT X es ta) (hs : starEach (.BinOp (.Constant (.str c) j c0) op f p :: es) X.env = (false, eval (.BinOp (.Constant (.str c) j c0) op f p) X.env) :: starEach es X.env := by rfl) :
    PA X (.BinOp (.Constant (.str c) j c0) op f p :: es) (tCons (tOp r (tC (.str c)) tf) ta) := by
  refine ⟨fun pos pins s σ H Q I h => ?_⟩
  rw [hs]
  show wpAny _ _ (spliced ((false, eval (.BinOp (.Constant (.str c) j c0) op f p) X.env) :: backTo pos (starEach es X.env))) _ _ s
  refine Calls.spliced_cons (wpAny_BinOp (Calls.Constant_str ?_))
  refine wpAny_mono (PySem.wpAny_toks (hb.run pins _ σ H _ (I.tok (s.toks + 1)) h)) (fun u s2 q => ?_) fun _ _ z => z.2
  obtain ⟨hk, y, H2, I2, r2, q2⟩ := q
  have hk' : s.toks + 1 ≤ s2.toks := hk
  refine wpAny_mono (PySem.wpAny_toks (ho pins s2 σ H2 (.str c) y _ u _ I2 ⟨_, rfl⟩ r2 q2)) (fun v s3 q => ?_) fun _ _ z => z.2
  obtain ⟨hk3, x, H3, I3, r3, q3⟩ := q
  exact thn (hr pos pins s3 σ H3 _ (by omega) I3 q3) fun us s4 ⟨xs, H4, I4, rr, q4⟩ => ⟨x :: xs, H4, I4, .cons r3 rr, q4⟩
end
/-! ### the words' weight -/
def tot (zs : List Str) : Nat := (zs.map (fun z => z.length)).sum + zs.length
theorem tot_nil : tot [] = 0 := rfl
theorem tot_cons (z : Str) (zs : List Str) : tot (z :: zs) = z.length + 1 + tot zs := by
  unfold tot
  rw [List.map_cons, List.sum_cons, List.length_cons]
  omega
theorem tot_app (a b : List Str) : tot (a ++ b) = tot a + tot b := by
  unfold tot
  rw [List.map_append, List.sum_append, List.length_append]
  omega
theorem tot_set : ∀ (zs : List Str) (k : Nat) (z : Str), tot (zs.set k z) ≤ tot zs + z.length
  | [], _, _ => Nat.zero_le _
  | y :: zs, 0, z => by
    show tot (z :: zs) ≤ _
    rw [tot_cons, tot_cons]
    omega
  | y :: zs, k + 1, z => by
    show tot (y :: zs.set k z) ≤ _
    have := tot_set zs k z
    rw [tot_cons, tot_cons]
    omega
theorem tot_mem : ∀ {zs : List Str} {z : Str}, z ∈ zs → z.length + 1 ≤ tot zs
  | y :: zs, z, h => by
    rw [tot_cons]
    rcases List.mem_cons.mp h with rfl | h
    · omega
    · have := tot_mem h
      omega
theorem tot_take (zs : List Str) (n : Nat) : tot (zs.take n) ≤ tot zs := by
  have := tot_app (zs.take n) (zs.drop n)
  rw [List.take_append_drop] at this
  omega
theorem tot_drop (zs : List Str) (n : Nat) : tot (zs.drop n) ≤ tot zs := by
  have := tot_app (zs.take n) (zs.drop n)
  rw [List.take_append_drop] at this
  omega
theorem tot_spl (c : Nat) : ∀ (l acc : List Nat), tot ((TL.spl [c] 0 acc l).map S) = acc.length + l.length + 1
  | [], acc => by
    rw [TL.spl_nil, List.map_cons, List.map_nil, tot_cons, tot_nil, SX.S_len]
    simp
  | x :: r, acc => by
    cases h : TL.pre [c] (x :: r) with
    | true =>
      rw [TL.spl_hit h, List.map_cons, tot_cons, SX.S_len]
      have h1 := tot_spl c r []
      simp at h1 ⊢
      omega
    | false =>
      rw [TL.spl_miss h]
      have h1 := tot_spl c r (acc ++ [x])
      simp at h1 ⊢
      omega
theorem joinL_len (c : Nat) : ∀ ps : List (List Nat), (TL.joinL [c] ps).length ≤ (ps.map List.length).sum + ps.length
  | [] => Nat.zero_le _
  | [p] => by
    show p.length ≤ _
    simp
  | p :: q :: r => by
    have h := joinL_len c (q :: r)
    have e : TL.joinL [c] (p :: q :: r) = p ++ ([c] ++ TL.joinL [c] (q :: r)) := rfl
    rw [e]
    simp at h ⊢
    omega
/-- the words joined -/
theorem join_tot (zs : List Str) : (Txt.join (S [32]) zs).length ≤ tot zs := by
  have e : zs = (zs.map fun z => z.cps.toList).map S := by
    rw [List.map_map]
    have : (S ∘ fun z : Str => z.cps.toList) = id := by
      funext z
      exact SX.S_tl z
    rw [this, List.map_id]
  rw [e, SX.join_S, SX.S_len]
  refine Nat.le_trans (joinL_len 32 _) ?_
  unfold tot
  rw [sum_S, List.length_map, List.length_map, List.length_map]
  exact Nat.le_refl _
end K12
namespace K12
open PySem PySem.Spec PyProof.Rows L2 SX
/-! ### a bent line -/
theorem and_nd {tA tB : TT} {σ : L2.St} {H : Hp} {Q : Bool → Hp → Prop} (c0 : Bool) (hA : ∀ Q' : Bool → Hp → Prop, Q' c0 H → tA σ H Q') (hB : c0 = true → ∀ Q' : Bool → Hp → Prop, (∀ c, Q' c H) → tB σ H Q') (h1 : c0 = true → Q true H) (h0 : Q false H) : tAnd tA tB σ H Q := by
  refine hA _ ?_
  cases c0 with
  | false => exact h0
  | true =>
    refine hB rfl _ fun c => ?_
    cases c
    · exact h0
    · exact h1 rfl
theorem str_S (z : Str) : V.str z = V.str (S z.cps.toList) := by rw [SX.S_tl]
theorem len_tl (z : Str) : z.cps.toList.length = z.length := by simp [Str.length]
theorem strs_cut (zs : List Str) (lo hi : Option Int) : ∃ ys : List Str, cutV (zs.map V.str) lo hi = ys.map V.str ∧ tot ys ≤ tot zs ∧ ys.length ≤ zs.length := by
  refine ⟨_, by unfold cutV; rw [← List.map_drop, ← List.map_take], Nat.le_trans (tot_take _ _) (tot_drop _ _), ?_⟩
  rw [List.length_take, List.length_drop]
  omega
theorem ixN_last {n : Nat} (h : 1 ≤ n) : ixN n (-1) = some (n - 1) := by
  unfold ixN
  rw [if_neg (by decide), if_pos (by omega)]
  congr 1
  omega
theorem atI_lst {α : Type} {xs : List α} {v : α} (h : xs[xs.length - 1]? = some v) (h1 : 1 ≤ xs.length) : atI xs (-1) = some v := by
  unfold atI
  rw [ixN_last h1]
  exact h
theorem str_app_len (a b : Str) : (a ++ b).length = a.length + b.length := by rw [← len_tl, ← len_tl a, ← len_tl b, ← List.length_append]; exact congrArg List.length (TL.tl_append a b)
theorem lenR (line : List Nat) {s : String} (h : line.length ≤ 10000) (hs : (Str.ofString s).length = 1 := by decide +kernel) : (S line).length + (Str.ofString s).length ≤ sizeLine := by
  rw [SX.S_len line, hs]
  exact sl_of (by omega)
theorem lenL (line : List Nat) {s : String} (h : line.length ≤ 10000) (hs : (Str.ofString s).length = 1 := by decide +kernel) : (Str.ofString s).length + (S line).length ≤ sizeLine := by
  rw [SX.S_len line, hs]
  exact sl_of (by omega)
theorem lenP (line : List Nat) {s : String} (h : line.length ≤ 10000) (hs : (Str.ofString s).length = 2 := by decide +kernel) : (S line).length + ((S line).length + 1) * (Str.ofString s).length ≤ 16777216 := by
  rw [SX.S_len line, hs]
  omega
theorem len1 (c : Nat) : (⟨#[c]⟩ : Str).length = 1 := rfl
section
variable {P : Program} {w : World} {K : PySem.W.Frag} {mg : Str → Option Value} {base : Heap}
abbrev s__law_bent : Stmt := top 59
theorem sc__law_bent : FnScope ["_law_bag_here", "_law_entry_line", "_law_chars", "_law_words", "_law_at", "_law_to", "_law_pick", "_law_word_here", "_law_spot", "_law_beyond", "_law_more", "_law_sign", "_law_plan"] ["_law_bag_here", "_law_entry_line", "_law_chars"] (defScope s__law_bent) := ⟨rfl, rfl, rfl, by decide +kernel, rfl, by decide +kernel, by decide +kernel⟩
def sp__law_bent (K : PySem.W.Frag) : Sp := fun vs H Q _ => ∃ (b : Addr) (line chars : List Nat), vs = [.ref b, .str (S line), .str (S chars)] ∧ BagAt H b ∧ line.length ≤ 10000 ∧ 2 ≤ chars.length ∧ chars.length ≤ 6 ∧ ∀ (z : Str) H', Ext H H' → z.length ≤ 3 * line.length + 200 → Q (.str z) H'
theorem c__law_bent (T : Txt K mg) : Cal P w K mg base 4 "_law_bent" (sp__law_bent K) := by
  refine T.d__law_bent.cal sc__law_bent (fun _ _ _ _ _ _ us hl => match us, hl with | [_, _, _], _ => rfl) (fun vs H Q E h => ?_) (fun f cdv A outer s H vs Q E hr h => ?_)
  · obtain ⟨b, line, chars, rfl, _⟩ := h
    rfl
  · obtain ⟨b, line, chars, rfl, hb, hln, hc2, hc6, k⟩ := h
    refine ⟨_, (pss_cons (ps_set (i := 3) sc__law_bent.nd rfl (Or.inl rfl) (pe_split (pv 1) pe_str))
  (pss_cons (ps_par3 (i := 4) (j := 5) (l := 6) rfl sc__law_bent.nd rfl rfl rfl (by decide) (by decide) (by decide) rfl rfl rfl (pa_cons (pe_c (c__law_draw T) hr (by decide) rfl (pa_cons (pv 0) (pa_cons (pe_callB (call_lenK (K := K)) rfl T.n_len bt_len (pa_cons (pv 3) pa_nil)) pa_nil))) (pa_cons (pe_c (c__law_draw T) hr (by decide) rfl (pa_cons (pv 0) (pa_cons (pe_callB (call_lenK (K := K)) rfl T.n_len bt_len (pa_cons (pv 3) pa_nil)) pa_nil))) (pa_cons (pe_c (c__law_draw T) hr (by decide) rfl (pa_cons (pv 0) (pa_cons pe_int pa_nil))) pa_nil))) (by rfl))
  (pss_cons (ps_set (i := 7) sc__law_bent.nd rfl (Or.inl rfl) (pe_ix (ix_listK (K := K)) (pv 3) (pv 4) (fun _ _ => rfl)))
  (pss_cons (ps_set (i := 8) sc__law_bent.nd rfl (Or.inl rfl) (pe_c (c__law_draw T) hr (by decide) rfl (pa_cons (pv 0) (pa_cons (pe_op op_add (pe_callB call_len_str rfl T.n_len bt_len (pa_cons (pv 7) pa_nil)) pe_int) pa_nil))))
  (pss_cons (ps_if (PW.pt (pw_and (pt_cmpR op_eq (pe_callB (call_lenK (K := K)) rfl T.n_len bt_len (pa_cons (pv 3) pa_nil)) pe_int (nomark _)) (pw_and1 (pt_val (pe_c (c__law_free T) hr (by decide) rfl (pa_cons (pv 0) (pa_cons pe_int pa_nil))))))) (pss_cons (ps_set (i := 4) sc__law_bent.nd rfl (Or.inl rfl) (pe_c (c__law_of T) hr (by decide) rfl (pa_cons (pv 0) (pa_cons (pe_lst (pa_cons pe_int (pa_cons pe_int (pa_cons pe_int (pa_cons pe_int (pa_cons pe_int (pa_cons pe_int (pa_cons pe_int (pa_cons pe_int pa_nil))))))))) pa_nil))))
    (pss_cons (ps_set (i := 9) sc__law_bent.nd rfl (Or.inl rfl) (pe_disp (pps_cons pe_int (pe_lst (pa_cons pe_str pa_nil)) (pps_cons pe_int (pe_lst (pa_cons (pe_op op_rep17 (pe_ix ix_str (pv 2) pe_int (fun _ _ => rfl)) pe_int) (pa_cons (pe_op op_add_str (pe_ix (ix_listK (K := K)) (pv 3) pe_int (fun _ _ => rfl)) (pe_ix ix_str (pv 2) pe_int (fun _ _ => rfl))) (pa_cons (pe_op op_add_str (pe_ix ix_str (pv 2) pe_int (fun _ _ => rfl)) (pe_ix (ix_listK (K := K)) (pv 3) pe_int (fun _ _ => rfl))) pa_nil)))) (pps_cons pe_int (pe_lst (pa_cons pe_str (pa_cons pe_str pa_nil))) (pps_cons pe_int (pe_lst (pa_cons pe_str pa_nil)) (pps_cons pe_int (pe_lst (pa_cons pe_str (pa_cons pe_str pa_nil))) pps_nil))))) rfl rfl (by intro z; cases z) (by decide)))
    (pss_one (ps_asg (pe_c (c__law_of T) hr (by decide) rfl (pa_cons (pv 0) (pa_cons (pe_dget (room1 hr) (pv 9) (pv 4) (fun _ _ => rfl)) pa_nil))) (pg_sub (pv 3) (pv 4) set_list))))) (pss_one (ps_if (pt_cmpR op_eq (pv 6) pe_int (nomark _)) (pss_one (ps_set (i := 3) sc__law_bent.nd rfl (Or.inl rfl) (pe_op op_cat (pe_slice (sl_listK (K := K)) (pv 3) po_none (po_some (pv 4))) (pe_slice (sl_listK (K := K)) (pv 3) (po_some (pe_op op_add (pv 4) pe_int)) po_none)))) (pss_one (ps_if (pt_cmpR op_eq (pv 6) pe_int (nomark _)) (pss_one (ps_set (i := 3) sc__law_bent.nd rfl (Or.inl rfl) (pe_op op_cat (pe_op op_cat (pe_slice (sl_listK (K := K)) (pv 3) po_none (po_some (pv 4))) (pe_c (c__law_of T) hr (by decide) rfl (pa_cons (pv 0) (pa_cons (pe_lst (pa_cons (pe_lst (pa_cons (pv 7) pa_nil)) (pa_cons (pe_lst (pa_cons pe_str pa_nil)) (pa_cons (pe_lst (pa_cons pe_str pa_nil)) (pa_cons (pe_lst (pa_cons pe_str pa_nil)) (pa_cons (pe_lst (pa_cons (pe_ix (ix_listK (K := K)) (pv 3) (pv 5) (fun _ _ => rfl)) pa_nil)) pa_nil)))))) pa_nil)))) (pe_slice (sl_listK (K := K)) (pv 3) (po_some (pv 4)) po_none)))) (pss_one (ps_if (pt_cmpR op_eq (pv 6) pe_int (nomark _)) (pss_cons (ps_set (i := 7) sc__law_bent.nd rfl (Or.inl rfl) (pe_ix (ix_listK (K := K)) (pv 3) (pv 5) (fun _ _ => rfl)))
          (pss_cons (ps_asg (pe_ix (ix_listK (K := K)) (pv 3) (pv 4) (fun _ _ => rfl)) (pg_sub (pv 3) (pv 5) set_list))
          (pss_one (ps_asg (pv 7) (pg_sub (pv 3) (pv 4) set_list))))) (pss_one (ps_if (pt_cmpR op_eq (pv 6) pe_int (nomark _)) (pss_cons (ps_set (i := 10) sc__law_bent.nd rfl (Or.inl rfl) (pe_lst (pa_cons pe_str (pa_cons pe_str (pa_cons pe_str (pa_cons pe_str (pa_cons pe_str (pa_cons pe_str (pa_cons pe_str (pa_cons pe_str (pa_cons pe_str (pa_cons pe_str (pa_cons pe_str (pa_cons pe_str (pa_cons pe_str (pa_cons pe_str (pa_cons pe_str (pa_cons pe_str (pa_cons pe_str (pa_cons pe_str pa_nil))))))))))))))))))))
            (pss_one (ps_asg (pe_c (c__law_of T) hr (by decide) rfl (pa_cons (pv 0) (pa_cons (pe_op op_cat (pv 10) (pe_lst (pa_cons pe_str (pa_cons (pv 2) (pa_cons (pe_slice sl_str (pv 2) (po_some pe_int) po_none) (pa_cons (pe_ix ix_str (pv 2) pe_int (fun _ _ => rfl)) (pa_cons pe_str pa_nil))))))) pa_nil))) (pg_sub (pv 3) (pv 4) set_list)))) (pss_one (ps_if (pt_cmpR op_lt (pv 6) pe_int (nomark _)) (pss_cons (ps_set (i := 11) sc__law_bent.nd rfl (Or.inl rfl) (pe_c (c__law_of T) hr (by decide) rfl (pa_cons (pv 0) (pa_cons (pe_lst (pa_cons pe_str (pa_cons pe_str (pa_cons pe_str (pa_cons pe_str (pa_cons pe_str (pa_cons pe_str (pa_cons pe_str (pa_cons pe_str (pa_cons (pe_ix ix_str (pv 2) pe_int (fun _ _ => rfl)) (pa_cons (pe_ix ix_str (pv 2) (pe_un un_neg pe_int) (fun _ _ => rfl)) (pa_cons pe_str pa_nil)))))))))))) pa_nil))))
              (pss_one (ps_asg (pe_op op_add_str (pe_op op_add_str (pe_slice sl_str (pv 7) po_none (po_some (pv 8))) (pv 11)) (pe_slice sl_str (pv 7) (po_some (pe_op op_add (pv 8) (pe_c (c__law_draw T) hr (by decide) rfl (pa_cons (pv 0) (pa_cons pe_int pa_nil))))) po_none)) (pg_sub (pv 3) (pv 4) set_list)))) (pss_one (ps_if (pt_cmpR op_eq (pv 6) pe_int (nomark _)) (pss_cons (ps_set (i := 12) sc__law_bent.nd rfl (Or.inl rfl) (pe_c (c__law_table T) hr (by decide) rfl (pa_cons (pv 0) pa_nil)))
                (pss_one (ps_asg (pe_c (c__law_word T) hr (by decide) rfl (pa_cons (pe_ix (ix_tupK (K := K)) (pv 12) pe_int (fun _ _ => rfl)) (pa_cons (pe_ix (ix_tupK (K := K)) (pv 12) pe_int (fun _ _ => rfl)) pa_nil))) (pg_sub (pv 3) (pe_un un_neg pe_int) set_list)))) (pss_one (ps_ret (pe_c (c__law_of T) hr (by decide) rfl (pa_cons (pv 0) (pa_cons (pe_lst (pa_tok op_add_str (pv 1) (pat_cons (CwR.PET.of (pe_op op_add_str (pv 1) pe_str)) (pat_cons (CwR.PET.of (pe_op op_add_str (pv 1) pe_str)) (pat_cons (CwR.pet_replC (pv 1)) (pat_cons (CwR.PET.of (pe_op op_add_str (pv 1) pe_str)) (pat_cons (CwR.PET.of (pe_slice sl_str (pv 1) (po_some pe_int) po_none)) (pat_cons (CwR.PET.of (pe_op op_add_str (pv 1) (pv 1))) pat_nil)))))))) pa_nil))))))))))))))))))
  (pss_one (ps_ret (pe_join pe_str (pv 3))))))))), ?_⟩
    refine ⟨_, rfl, ⟨_, rfl⟩, _, _, rfl, rfl, rfl, by rw [SX.S_len]; exact sl_of (by omega), fun Wz hWz => ?_⟩
    rw [split_sp]
    have ht0 := tot_spl 32 line []
    have hz1 : 1 ≤ ((TL.spl [32] 0 [] line).map S).length := by
      cases e : (TL.spl [32] 0 [] line).map S with
      | nil => rw [e, tot_nil] at ht0; simp at ht0
      | cons a l => simp
    have hz2 : ((TL.spl [32] 0 [] line).map S).length ≤ tot ((TL.spl [32] 0 [] line).map S) := Nat.le_add_left _ _
    have e1 := Ext.upd (o := .lst (((TL.spl [32] 0 [] line).map S).map V.str)) hWz
    have hW1 : (upd H Wz (.lst (((TL.spl [32] 0 [] line).map S).map V.str))) Wz = some (.lst (((TL.spl [32] 0 [] line).map S).map V.str)) := upd_same
    revert e1 hW1 ht0 hz1 hz2
    generalize upd H Wz (.lst (((TL.spl [32] 0 [] line).map S).map V.str)) = H1
    generalize (TL.spl [32] 0 [] line).map S = zs
    intro ht0 hz1 hz2 e1 hW1
    rw [List.length_nil] at ht0
    have hb1 := hb.ext e1
    have hzl : ((zs.map V.str).length : Int) = (zs.length : Int) := by rw [List.length_map]
    refine ⟨_, rfl, _, rfl, Wz, _, rfl, .inl (SqL.of hW1), b, _, rfl, hb1, by omega, by omega, fun a0 a00 a01 => ?_⟩
    refine ⟨_, rfl, _, rfl, Wz, _, rfl, .inl (SqL.of hW1), b, _, rfl, hb1, by omega, by omega, fun t0 t00 t01 => ?_⟩
    refine ⟨_, rfl, b, _, rfl, hb1, by decide, by decide, fun pick p0 p1 => ⟨_, _, _, rfl, ?_⟩⟩
    obtain ⟨a, rfl⟩ := Int.eq_ofNat_of_zero_le a00
    obtain ⟨u, rfl⟩ := Int.eq_ofNat_of_zero_le t00
    have ha : a < zs.length := by omega
    have hu : u < zs.length := by omega
    have hza : (zs.map V.str)[a]? = some (V.str zs[a]) := by rw [List.getElem?_map, List.getElem?_eq_getElem ha]; rfl
    have hzu : (zs.map V.str)[u]? = some (V.str zs[u]) := by rw [List.getElem?_map, List.getElem?_eq_getElem hu]; rfl
    have hla := tot_mem (List.getElem_mem ha)
    have hlu := tot_mem (List.getElem_mem hu)
    revert hza hzu hla hlu
    generalize zs[a] = wd
    generalize zs[u] = wu
    intro hza hzu hla hlu
    refine ⟨_, rfl, _, rfl, _, _, _, _, rfl, rfl, SqL.of hW1, atI_nat (j := a) hza, ?_⟩
    refine ⟨_, rfl, _, rfl, _, rfl, sl_of (by omega), _, _, rfl, rfl, b, _, rfl, hb1, by omega, by omega, fun sp s0 s1 => ?_⟩
    obtain ⟨c0, hc0⟩ : ∃ c, (S chars).cps.toList[0]? = some c := ⟨_, List.getElem?_eq_getElem (by rw [show (S chars).cps.toList = chars by simp [S]]; omega)⟩
    have hcl1 : 1 ≤ (S chars).cps.toList.length := by rw [show (S chars).cps.toList = chars by simp [S]]; omega
    obtain ⟨cl, hcl⟩ : ∃ c, (S chars).cps.toList[(S chars).cps.toList.length - 1]? = some c := ⟨_, List.getElem?_eq_getElem (by omega)⟩
    have fin : ∀ (W' : Addr) (ys : List Str) (H' : Hp) (v4 v5 v6 v7 v8 v9 v10 v11 v12 : Option V), Ext H H' → H' W' = some (.lst (ys.map V.str)) → tot ys ≤ 3 * line.length + 200 →
        tRet (tM1 (rJn K) (tC (.str (Str.ofString " "))) (tVar 3)) { nx := fun _ H' => Q .non H', rt := Q } [some (.ref b), some (.str (S line)), some (.str (S chars)), some (.ref W'), v4, v5, v6, v7, v8, v9, v10, v11, v12] H' := by
      intro W' ys H' v4 v5 v6 v7 v8 v9 v10 v11 v12 e' hW' hy
      refine ⟨⟨_, rfl⟩, _, rfl, _, W', ys, rfl, rfl, .inl (SqL.of hW'), ?_, ?_⟩
      · have e := SX.S_len [32]
        rw [str1 (s := " ") (c := 32), e]
        unfold tot at hy
        simp only [List.length_cons, List.length_nil] at hy ⊢
        omega
      · rw [str1 (s := " ") (c := 32)]
        exact k _ _ e' (Nat.le_trans (join_tot ys) hy)
    have fset : ∀ (j : Nat) (z : Str) (H' : Hp) (v4 v5 v6 v7 v8 v9 v10 v11 v12 : Option V), Ext H H' → H' Wz = some (.lst (zs.map V.str)) → z.length ≤ 2 * line.length + 150 →
        tRet (tM1 (rJn K) (tC (.str (Str.ofString " "))) (tVar 3)) { nx := fun _ H' => Q .non H', rt := Q } [some (.ref b), some (.str (S line)), some (.str (S chars)), some (.ref Wz), v4, v5, v6, v7, v8, v9, v10, v11, v12] (upd H' Wz (.lst ((zs.map V.str).set j (.str z)))) := by
      intro j z H' v4 v5 v6 v7 v8 v9 v10 v11 v12 e' hW' hz
      refine fin Wz (zs.set j z) _ _ _ _ _ _ _ _ _ _ (ext_mut e' hWz) (by rw [upd_same, List.map_set]) ?_
      have := tot_set zs j z
      omega
    refine ⟨_, rfl, Wz, _, rfl, .inl (SqL.of hW1), rfl, _, rfl, ?_⟩
    refine ite2 (fun hl8 => ?ct) (fun _ => ?cf)
    case' ct =>
      refine ⟨_, rfl, b, _, rfl, hb1, by decide, fun r => ⟨_, rfl, ?_⟩⟩
      cases r
      case' true =>
        refine ⟨_, rfl, (by show 8 ≤ sizeLine; decide), fun p hp => ⟨b, .ref p, rfl, hb1.ext (Ext.upd hp), .inl ⟨p, _, rfl, SqL.of upd_same, by show 0 < 8; decide, by show 8 ≤ 100; decide, fun v hv => ?_⟩⟩⟩
        obtain ⟨at', rfl, hat⟩ := mem_intsP (ns := [1, 2, 2, 3, 3, 5, 6, 6]) (R := fun j => j = 1 ∨ j = 2 ∨ j = 3 ∨ j = 5 ∨ j = 6) (by intro z hz; simp at hz; omega) hv
        have g1 := Ext.upd (o := .lst ([V.int 1, .int 2, .int 2, .int 3, .int 3, .int 5, .int 6, .int 6])) hp
        revert g1
        generalize upd H1 p (.lst ([V.int 1, .int 2, .int 2, .int 3, .int 3, .int 5, .int 6, .int 6])) = H2
        intro g1
        clear hv hp
        have hz8 : zs.length = 8 := by
          have := V.int.inj (of_decide_eq_true hl8)
          rw [List.length_map] at this
          omega
        obtain ⟨w2, hw2⟩ : ∃ z, zs[2]? = some z := ⟨_, List.getElem?_eq_getElem (by omega)⟩
        have hw2l := tot_mem (List.mem_of_getElem? hw2)
        have hw2' : (zs.map V.str)[2]? = some (V.str w2) := by rw [List.getElem?_map, hw2]; rfl
        obtain ⟨cx, hcx⟩ : ∃ c, (S chars).cps.toList[1]? = some c := ⟨_, List.getElem?_eq_getElem (by rw [show (S chars).cps.toList = chars by simp [S]]; omega)⟩
        refine fun D0 hD0 => ?_
        have hD1 : H1 D0 = none := ext_none g1 hD0
        have d0 := Ext.upd (o := .dK []) hD0
        refine ⟨(by show 1 ≤ sizeLine; decide), fun q1 hq1 => ?_⟩
        have d1 := d0.trans (Ext.upd (o := .lst [V.str (Str.ofString "abcdefghi")]) hq1)
        have hW3 := d1 _ _ (g1 _ _ hW1)
        have a1 : ∀ c : Nat, (⟨#[c]⟩ : Str).length = 1 := fun c => rfl
        refine ⟨_, rfl, _, _, _, rfl, rfl, by rw [SX.S_len]; exact sl_of (by omega), atI_nat (j := 1) hcx, cx, rfl, rfl, _, rfl, _, _, _, _, rfl, rfl, SqL.of hW3, atI_nat (j := 2) hw2', _, rfl, _, _, _, rfl, rfl, by rw [SX.S_len]; exact sl_of (by omega), atI_nat (j := 0) hc0, _, _, rfl, rfl, by rw [a1]; exact sl_of (by omega), _, rfl, _, _, _, rfl, rfl, by rw [SX.S_len]; exact sl_of (by omega), atI_nat (j := 0) hc0, _, rfl, _, _, _, _, rfl, rfl, SqL.of hW3, atI_nat (j := 2) hw2', _, _, rfl, rfl, by rw [a1]; exact sl_of (by omega), (by show 3 ≤ sizeLine; decide), fun q2 hq2 => ?_⟩
        refine ⟨(by show 2 ≤ sizeLine; decide), fun q3 hq3 => ?_⟩
        refine ⟨(by show 1 ≤ sizeLine; decide), fun q4 hq4 => ?_⟩
        refine ⟨(by show 2 ≤ sizeLine; decide), fun q5 hq5 => ?_⟩
        have x5 := Ext.upd (o := .lst [V.str (Str.ofString "0"), V.str (Str.ofString "5")]) hq5
        have x4 := (Ext.upd (o := .lst [V.str (Str.ofString "10000")]) hq4).trans x5
        have x3 := (Ext.upd (o := .lst [V.str (Str.ofString "0"), V.str (Str.ofString "17")]) hq3).trans x4
        have x2 := (Ext.upd (o := .lst [V.str (S (List.replicate 17 cx)), V.str (w2 ++ ⟨#[c0]⟩), V.str (⟨#[c0]⟩ ++ w2)]) hq2).trans x3
        have x1 := (Ext.upd (o := .lst [V.str (Str.ofString "abcdefghi")]) hq1).trans x2
        have f1 := x2 _ _ (upd_same (H := upd H2 D0 (.dK [])) (a := q1) (o := .lst [V.str (Str.ofString "abcdefghi")]))
        have f2 := x3 _ _ (upd_same (a := q2) (o := .lst [V.str (S (List.replicate 17 cx)), V.str (w2 ++ ⟨#[c0]⟩), V.str (⟨#[c0]⟩ ++ w2)]))
        have f3 := x4 _ _ (upd_same (a := q3) (o := .lst [V.str (Str.ofString "0"), V.str (Str.ofString "17")]))
        have f4 := x5 _ _ (upd_same (a := q4) (o := .lst [V.str (Str.ofString "10000")]))
        have f5 := (upd_same (H := upd (upd (upd (upd (upd H2 D0 (.dK [])) q1 (.lst [V.str (Str.ofString "abcdefghi")])) q2 (.lst [V.str (S (List.replicate 17 cx)), V.str (w2 ++ ⟨#[c0]⟩), V.str (⟨#[c0]⟩ ++ w2)])) q3 (.lst [V.str (Str.ofString "0"), V.str (Str.ofString "17")])) q4 (.lst [V.str (Str.ofString "10000")])) (a := q5) (o := .lst [V.str (Str.ofString "0"), V.str (Str.ofString "5")]))
        have fD := x1 _ _ (upd_same (H := H2) (a := D0) (o := .dK []))
        have gx := g1.trans (d0.trans x1)
        revert f1 f2 f3 f4 f5 fD gx
        clear x1 x2 x3 x4 x5
        generalize upd (upd (upd (upd (upd (upd H2 D0 (.dK [])) q1 (.lst [V.str (Str.ofString "abcdefghi")])) q2 (.lst [V.str (S (List.replicate 17 cx)), V.str (w2 ++ ⟨#[c0]⟩), V.str (⟨#[c0]⟩ ++ w2)])) q3 (.lst [V.str (Str.ofString "0"), V.str (Str.ofString "17")])) q4 (.lst [V.str (Str.ofString "10000")])) q5 (.lst [V.str (Str.ofString "0"), V.str (Str.ofString "5")]) = H3
        intro f1 f2 f3 f4 f5 fD gx
        refine ⟨fD, [(.inl 1, .ref q1), (.inl 2, .ref q2), (.inl 3, .ref q3), (.inl 5, .ref q4), (.inl 6, .ref q5)], rfl, by show 5 ≤ 15; decide, ?_⟩
        have n1 : q1 ≠ D0 := ne_of f1 fD (by intro z; cases z)
        have n2 : q2 ≠ D0 := ne_of f2 fD (by intro z; cases z)
        have n3 : q3 ≠ D0 := ne_of f3 fD (by intro z; cases z)
        have n4 : q4 ≠ D0 := ne_of f4 fD (by intro z; cases z)
        have n5 : q5 ≠ D0 := ne_of f5 fD (by intro z; cases z)
        have nW : Wz ≠ D0 := ne_of_none hW1 hD1
        have hm : mergeK [] [(.inl 1, V.ref q1), (.inl 2, .ref q2), (.inl 3, .ref q3), (.inl 5, .ref q4), (.inl 6, .ref q5)] = [((.inl 1 : L2.Key), V.ref q1), (.inl 2, .ref q2), (.inl 3, .ref q3), (.inl 5, .ref q4), (.inl 6, .ref q5)] := rfl
        rw [hm]
        have gF := ext_mut (o := .dK [((.inl 1 : L2.Key), V.ref q1), (.inl 2, .ref q2), (.inl 3, .ref q3), (.inl 5, .ref q4), (.inl 6, .ref q5)]) gx hD1
        have fD' : (upd H3 D0 (.dK [((.inl 1 : L2.Key), V.ref q1), (.inl 2, .ref q2), (.inl 3, .ref q3), (.inl 5, .ref q4), (.inl 6, .ref q5)])) D0 = _ := upd_same
        have hW4 := gF _ _ hW1
        have f1' : (upd H3 D0 (.dK [((.inl 1 : L2.Key), V.ref q1), (.inl 2, .ref q2), (.inl 3, .ref q3), (.inl 5, .ref q4), (.inl 6, .ref q5)])) q1 = _ := (upd_ne n1).trans f1
        have f2' : (upd H3 D0 (.dK [((.inl 1 : L2.Key), V.ref q1), (.inl 2, .ref q2), (.inl 3, .ref q3), (.inl 5, .ref q4), (.inl 6, .ref q5)])) q2 = _ := (upd_ne n2).trans f2
        have f3' : (upd H3 D0 (.dK [((.inl 1 : L2.Key), V.ref q1), (.inl 2, .ref q2), (.inl 3, .ref q3), (.inl 5, .ref q4), (.inl 6, .ref q5)])) q3 = _ := (upd_ne n3).trans f3
        have f4' : (upd H3 D0 (.dK [((.inl 1 : L2.Key), V.ref q1), (.inl 2, .ref q2), (.inl 3, .ref q3), (.inl 5, .ref q4), (.inl 6, .ref q5)])) q4 = _ := (upd_ne n4).trans f4
        have f5' : (upd H3 D0 (.dK [((.inl 1 : L2.Key), V.ref q1), (.inl 2, .ref q2), (.inl 3, .ref q3), (.inl 5, .ref q4), (.inl 6, .ref q5)])) q5 = _ := (upd_ne n5).trans f5
        revert gF fD' hW4 f1' f2' f3' f4' f5'
        generalize upd H3 D0 (.dK [((.inl 1 : L2.Key), V.ref q1), (.inl 2, .ref q2), (.inl 3, .ref q3), (.inl 5, .ref q4), (.inl 6, .ref q5)]) = H4
        intro gF fD' hW4 f1' f2' f3' f4' f5'
        obtain ⟨j, q, xs, rfl, hj, hdg, hq, h0, h1, hx⟩ : ∃ (j : Nat) (q : Addr) (xs : List V), at' = (j : Int) ∧ j < 8 ∧ DGet H4 D0 (.int (j : Int)) (some (.ref q)) ∧ H4 q = some (.lst xs) ∧ 0 < xs.length ∧ xs.length ≤ 100 ∧ ∀ v ∈ xs, ∃ z : Str, v = .str z ∧ z.length ≤ line.length + 30 := by
          rcases hat with rfl | rfl | rfl | rfl | rfl
          · refine ⟨1, q1, _, rfl, by decide, DGet.k (k := .inl 1) fD', f1', by show 0 < 1; decide, by show 1 ≤ 100; decide, fun v hv => ?_⟩
            rw [List.mem_singleton.mp hv]
            exact ⟨_, rfl, by show 9 ≤ _; omega⟩
          · refine ⟨2, q2, _, rfl, by decide, DGet.k (k := .inl 2) fD', f2', by show 0 < 3; decide, by show 3 ≤ 100; decide, fun v hv => ?_⟩
            simp only [List.mem_cons, List.not_mem_nil, or_false] at hv
            rcases hv with rfl | rfl | rfl
            · exact ⟨_, rfl, by rw [SX.S_len, List.length_replicate]; omega⟩
            · exact ⟨_, rfl, by rw [str_app_len, a1]; omega⟩
            · exact ⟨_, rfl, by rw [str_app_len, a1]; omega⟩
          · refine ⟨3, q3, _, rfl, by decide, DGet.k (k := .inl 3) fD', f3', by show 0 < 2; decide, by show 2 ≤ 100; decide, fun v hv => ?_⟩
            simp only [List.mem_cons, List.not_mem_nil, or_false] at hv
            rcases hv with rfl | rfl
            · exact ⟨_, rfl, by show 1 ≤ _; omega⟩
            · exact ⟨_, rfl, by show 2 ≤ _; omega⟩
          · refine ⟨5, q4, _, rfl, by decide, DGet.k (k := .inl 5) fD', f4', by show 0 < 1; decide, by show 1 ≤ 100; decide, fun v hv => ?_⟩
            rw [List.mem_singleton.mp hv]
            exact ⟨_, rfl, by show 5 ≤ _; omega⟩
          · refine ⟨6, q5, _, rfl, by decide, DGet.k (k := .inl 6) fD', f5', by show 0 < 2; decide, by show 2 ≤ 100; decide, fun v hv => ?_⟩
            simp only [List.mem_cons, List.not_mem_nil, or_false] at hv
            rcases hv with rfl | rfl
            · exact ⟨_, rfl, by show 1 ≤ _; omega⟩
            · exact ⟨_, rfl, by show 1 ≤ _; omega⟩
        refine ⟨_, rfl, _, rfl, _, rfl, D0, .ref q, rfl, hdg, b, .ref q, rfl, hb1.ext gF, .inl ⟨q, xs, rfl, SqL.of hq, h0, h1, fun v hv => ?_⟩⟩
        obtain ⟨z, rfl, hz⟩ := hx v hv
        exact ⟨_, rfl, _, rfl, Wz, _, _, j, rfl, rfl, hW4, Evl.ixN_nat (by rw [List.length_map]; omega), fset j z _ _ _ _ _ _ _ _ _ _ (e1.trans gF) hW4 (by omega)⟩
    all_goals
     refine ⟨_, rfl, rfl, _, rfl, ?_⟩
     refine ite2 (fun _ => ?_) (fun _ => ?_)
     · obtain ⟨ys1, ey1, l1, m1⟩ := strs_cut zs none (some ((a : Nat) : Int))
       obtain ⟨ys2, ey2, l2, m2⟩ := strs_cut zs (some (((a : Nat) : Int) + 1)) none
       refine ⟨_, rfl, _, rfl, _, rfl, Wz, _, rfl, SqL.of hW1, fun p1 hp1 => ?_⟩
       rw [ey1]
       refine ⟨_, rfl, _, rfl, _, _, rfl, rfl, _, rfl, Wz, _, rfl, SqL.of ((Ext.upd hp1) _ _ hW1), fun p2 hp2 => ?_⟩
       rw [ey2]
       refine ⟨p1, p2, _, _, rfl, rfl, (Ext.upd hp2) _ _ upd_same, upd_same, by rw [List.length_map, List.length_map]; exact sl_of (by omega), fun p3 hp3 => ?_⟩
       refine fin p3 (ys1 ++ ys2) _ _ _ _ _ _ _ _ _ _ (e1.trans ((Ext.upd hp1).trans ((Ext.upd hp2).trans (Ext.upd hp3)))) (by rw [upd_same, List.map_append]) (by rw [tot_app]; omega)
     -- one more
     refine ⟨_, rfl, rfl, _, rfl, ?_⟩
     refine ite2 (fun _ => ?_) (fun _ => ?_)
     · obtain ⟨ys1, ey1, l1, m1⟩ := strs_cut zs none (some ((a : Nat) : Int))
       obtain ⟨ys2, ey2, l2, m2⟩ := strs_cut zs (some ((a : Nat) : Int)) none
       refine ⟨_, rfl, _, rfl, _, rfl, Wz, _, rfl, SqL.of hW1, fun p1 hp1 => ?_⟩
       rw [ey1]
       have g1 := Ext.upd (o := .lst (ys1.map V.str)) hp1
       have k1 : (upd H1 p1 (.lst (ys1.map V.str))) p1 = some (.lst (ys1.map V.str)) := upd_same
       revert g1 k1
       generalize upd H1 p1 (.lst (ys1.map V.str)) = H2
       intro g1 k1
       refine ⟨_, rfl, _, rfl, (by show 1 ≤ sizeLine; decide), fun q1 hq1 => ⟨(by show 1 ≤ sizeLine; decide), fun q2 hq2 => ⟨(by show 1 ≤ sizeLine; decide), fun q3 hq3 => ⟨(by show 1 ≤ sizeLine; decide), fun q4 hq4 => ?_⟩⟩⟩⟩
       have hW6 := (Ext.upd (o := .lst [V.str (Str.ofString "1")]) hq4) _ _ ((Ext.upd (o := .lst [V.str (Str.ofString "*")]) hq3) _ _ ((Ext.upd (o := .lst [V.str (Str.ofString "")]) hq2) _ _ ((Ext.upd (o := .lst [V.str wd]) hq1) _ _ (g1 _ _ hW1))))
       refine ⟨_, rfl, _, rfl, _, _, _, _, rfl, rfl, SqL.of hW6, atI_nat (j := u) hzu, (by show 1 ≤ sizeLine; decide), fun q5 hq5 => ⟨(by show 5 ≤ sizeLine; decide), fun q6 hq6 => ?_⟩⟩
       have x6 := Ext.upd (o := .lst [.ref q1, .ref q2, .ref q3, .ref q4, .ref q5]) hq6
       have x5 := (Ext.upd (o := .lst [V.str wu]) hq5).trans x6
       have x4 := (Ext.upd (o := .lst [V.str (Str.ofString "1")]) hq4).trans x5
       have x3 := (Ext.upd (o := .lst [V.str (Str.ofString "*")]) hq3).trans x4
       have x2 := (Ext.upd (o := .lst [V.str (Str.ofString "")]) hq2).trans x3
       have x1 := (Ext.upd (o := .lst [V.str wd]) hq1).trans x2
       have c1 := x2 _ _ (upd_same (H := H2) (a := q1) (o := .lst [V.str wd]))
       have c2 := x3 _ _ (upd_same (a := q2) (o := .lst [V.str (Str.ofString "")]))
       have c3 := x4 _ _ (upd_same (a := q3) (o := .lst [V.str (Str.ofString "*")]))
       have c4 := x5 _ _ (upd_same (a := q4) (o := .lst [V.str (Str.ofString "1")]))
       have c5 := x6 _ _ (upd_same (a := q5) (o := .lst [V.str wu]))
       refine ⟨b, .ref q6, rfl, (hb1.ext g1).ext x1, .inl ⟨q6, _, rfl, SqL.of upd_same, by show 0 < 5; decide, by show 5 ≤ 100; decide, fun v hv => ?_⟩⟩
       have hv' : ∃ q z, v = .ref q ∧ (upd (upd (upd (upd (upd (upd H2 q1 (.lst [V.str wd])) q2 (.lst [V.str (Str.ofString "")])) q3 (.lst [V.str (Str.ofString "*")])) q4 (.lst [V.str (Str.ofString "1")])) q5 (.lst [V.str wu])) q6 (.lst [.ref q1, .ref q2, .ref q3, .ref q4, .ref q5])) q = some (.lst [V.str z]) ∧ z.length ≤ line.length + 1 := by
         simp only [List.mem_cons, List.not_mem_nil, or_false] at hv
         rcases hv with rfl | rfl | rfl | rfl | rfl
         · exact ⟨_, _, rfl, c1, by omega⟩
         · exact ⟨_, _, rfl, c2, Nat.zero_le _⟩
         · exact ⟨_, _, rfl, c3, by show 1 ≤ _; omega⟩
         · exact ⟨_, _, rfl, c4, by show 1 ≤ _; omega⟩
         · exact ⟨_, _, rfl, c5, by omega⟩
       clear c1 c2 c3 c4 c5
       revert hv' x1
       generalize upd (upd (upd (upd (upd (upd H2 q1 (.lst [V.str wd])) q2 (.lst [V.str (Str.ofString "")])) q3 (.lst [V.str (Str.ofString "*")])) q4 (.lst [V.str (Str.ofString "1")])) q5 (.lst [V.str wu])) q6 (.lst [.ref q1, .ref q2, .ref q3, .ref q4, .ref q5]) = H3
       intro x1 hv'
       obtain ⟨q, z, rfl, hqz, hzl⟩ := hv'
       refine ⟨p1, q, _, _, rfl, rfl, x1 _ _ k1, hqz, by rw [List.length_map]; exact sl_of (by show ys1.length + 1 ≤ _; omega), fun p2 hp2 => ?_⟩
       refine ⟨_, rfl, _, rfl, _, rfl, Wz, _, rfl, SqL.of ((Ext.upd hp2) _ _ (x1 _ _ (g1 _ _ hW1))), fun p3 hp3 => ?_⟩
       rw [ey2]
       refine ⟨p2, p3, _, _, rfl, rfl, (Ext.upd hp3) _ _ upd_same, upd_same, by rw [List.length_append, List.length_map, List.length_map]; exact sl_of (by show ys1.length + 1 + ys2.length ≤ _; omega), fun p4 hp4 => ?_⟩
       refine fin p4 (ys1 ++ [z] ++ ys2) _ _ _ _ _ _ _ _ _ _ (e1.trans (g1.trans (x1.trans ((Ext.upd hp2).trans ((Ext.upd hp3).trans (Ext.upd hp4)))))) (by rw [upd_same, List.map_append, List.map_append]; rfl) (by rw [tot_app, tot_app, tot_cons, tot_nil]; omega)
     -- two swapped
     refine ⟨_, rfl, rfl, _, rfl, ?_⟩
     refine ite2 (fun _ => ?_) (fun _ => ?_)
     · refine ⟨_, rfl, _, rfl, _, _, _, _, rfl, rfl, SqL.of hW1, atI_nat (j := u) hzu, ?_⟩
       refine ⟨_, rfl, _, rfl, _, _, _, _, rfl, rfl, SqL.of hW1, atI_nat (j := a) hza, _, rfl, _, rfl, Wz, _, _, u, rfl, rfl, hW1, Evl.ixN_nat (by rw [List.length_map]; exact hu), ?_⟩
       refine ⟨_, rfl, _, rfl, _, rfl, Wz, _, _, a, rfl, rfl, upd_same, Evl.ixN_nat (by rw [List.length_set, List.length_map]; exact ha), ?_⟩
       refine fin Wz ((zs.set u wd).set a wu) _ _ _ _ _ _ _ _ _ _ (ext_mut (ext_mut e1 hWz) hWz) (by rw [upd_same, List.map_set, List.map_set]) ?_
       have h1 := tot_set zs u wd
       have h2 := tot_set (zs.set u wd) a wu
       omega
     -- another word
     refine ⟨_, rfl, rfl, _, rfl, ?_⟩
     refine ite2 (fun _ => ?_) (fun _ => ?_)
     · refine ⟨(by show 18 ≤ sizeLine; decide), fun m hm => ?_⟩
       have g1 := Ext.upd (o := .lst ([V.str (Str.ofString ""), V.str (Str.ofString "0"), V.str (Str.ofString "00"), V.str (Str.ofString "16"), V.str (Str.ofString "17"), V.str (Str.ofString "4"), V.str (Str.ofString "5"), V.str (Str.ofString "9999"), V.str (Str.ofString "10000"), V.str (Str.ofString "best"), V.str (Str.ofString "draw"), V.str (Str.ofString "*"), V.str (Str.ofString "+"), V.str (Str.ofString "a"), V.str (Str.ofString "ask"), V.str (Str.ofString "-1"), V.str (Str.ofString "1/1"), V.str (Str.ofString "self")])) hm
       have k1 : (upd H1 m (.lst ([V.str (Str.ofString ""), V.str (Str.ofString "0"), V.str (Str.ofString "00"), V.str (Str.ofString "16"), V.str (Str.ofString "17"), V.str (Str.ofString "4"), V.str (Str.ofString "5"), V.str (Str.ofString "9999"), V.str (Str.ofString "10000"), V.str (Str.ofString "best"), V.str (Str.ofString "draw"), V.str (Str.ofString "*"), V.str (Str.ofString "+"), V.str (Str.ofString "a"), V.str (Str.ofString "ask"), V.str (Str.ofString "-1"), V.str (Str.ofString "1/1"), V.str (Str.ofString "self")]))) m = some (.lst ([V.str (Str.ofString ""), V.str (Str.ofString "0"), V.str (Str.ofString "00"), V.str (Str.ofString "16"), V.str (Str.ofString "17"), V.str (Str.ofString "4"), V.str (Str.ofString "5"), V.str (Str.ofString "9999"), V.str (Str.ofString "10000"), V.str (Str.ofString "best"), V.str (Str.ofString "draw"), V.str (Str.ofString "*"), V.str (Str.ofString "+"), V.str (Str.ofString "a"), V.str (Str.ofString "ask"), V.str (Str.ofString "-1"), V.str (Str.ofString "1/1"), V.str (Str.ofString "self")])) := upd_same
       revert g1 k1
       generalize upd H1 m (.lst ([V.str (Str.ofString ""), V.str (Str.ofString "0"), V.str (Str.ofString "00"), V.str (Str.ofString "16"), V.str (Str.ofString "17"), V.str (Str.ofString "4"), V.str (Str.ofString "5"), V.str (Str.ofString "9999"), V.str (Str.ofString "10000"), V.str (Str.ofString "best"), V.str (Str.ofString "draw"), V.str (Str.ofString "*"), V.str (Str.ofString "+"), V.str (Str.ofString "a"), V.str (Str.ofString "ask"), V.str (Str.ofString "-1"), V.str (Str.ofString "1/1"), V.str (Str.ofString "self")])) = H2
       intro g1 k1
       refine ⟨_, rfl, _, rfl, _, rfl, _, rfl, _, rfl, _, rfl, by rw [SX.S_len]; exact sl_of (by omega), _, rfl, _, _, _, rfl, rfl, by rw [SX.S_len]; exact sl_of (by omega), atI_nat (j := 0) hc0, (by show 5 ≤ sizeLine; decide), fun m2 hm2 => ?_⟩
       refine ⟨m, m2, _, _, rfl, rfl, (Ext.upd hm2) _ _ k1, upd_same, by show 18 + 5 ≤ sizeLine; decide, fun m3 hm3 => ?_⟩
       have g3 := g1.trans ((Ext.upd hm2).trans (Ext.upd (o := .lst ([V.str (Str.ofString ""), V.str (Str.ofString "0"), V.str (Str.ofString "00"), V.str (Str.ofString "16"), V.str (Str.ofString "17"), V.str (Str.ofString "4"), V.str (Str.ofString "5"), V.str (Str.ofString "9999"), V.str (Str.ofString "10000"), V.str (Str.ofString "best"), V.str (Str.ofString "draw"), V.str (Str.ofString "*"), V.str (Str.ofString "+"), V.str (Str.ofString "a"), V.str (Str.ofString "ask"), V.str (Str.ofString "-1"), V.str (Str.ofString "1/1"), V.str (Str.ofString "self")] ++ [V.str (Str.ofString "abcdefghi"), V.str (S chars), V.str (cutS (S chars) (some 1) none), V.str ⟨#[c0]⟩, V.str (Str.ofString "cancel")])) hm3))
       refine ⟨b, .ref m3, rfl, hb1.ext g3, .inl ⟨m3, _, rfl, SqL.of upd_same, by show 0 < 23; decide, by show 23 ≤ 100; decide, fun v hv => ?_⟩⟩
       have hv' : ∃ z : Str, v = .str z ∧ z.length ≤ 9 := by
         rcases List.mem_append.mp hv with hv | hv
         · obtain ⟨z, rfl, hz⟩ := mem_strs (names := ["", "0", "00", "16", "17", "4", "5", "9999", "10000", "best", "draw", "*", "+", "a", "ask", "-1", "1/1", "self"]) (R := fun z => decide (z.length ≤ 9)) (by decide +kernel) hv
           exact ⟨z, rfl, of_decide_eq_true hz⟩
         · simp only [List.mem_cons, List.not_mem_nil, or_false] at hv
           rcases hv with rfl | rfl | rfl | rfl | rfl
           · exact ⟨_, rfl, by decide +kernel⟩
           · exact ⟨_, rfl, by rw [SX.S_len]; omega⟩
           · exact ⟨_, rfl, Nat.le_trans (cutS_length _ _ _) (by rw [SX.S_len]; omega)⟩
           · exact ⟨_, rfl, by show 1 ≤ 9; decide⟩
           · exact ⟨_, rfl, by decide +kernel⟩
       obtain ⟨z, rfl, hz⟩ := hv'
       exact ⟨_, rfl, _, rfl, Wz, _, _, a, rfl, rfl, g3 _ _ hW1, Evl.ixN_nat (by rw [List.length_map]; exact ha), fset a z _ _ _ _ _ _ _ _ _ _ (e1.trans g3) (g3 _ _ hW1) (by omega)⟩
     -- a sign
     refine ⟨_, rfl, _, _, rfl, rfl, _, rfl, ?_⟩
     refine ite2 (fun _ => ?_) (fun _ => ?_)
     · refine ⟨_, rfl, _, rfl, _, _, _, rfl, rfl, by rw [SX.S_len]; exact sl_of (by omega), atI_nat (j := 0) hc0, _, rfl, _, rfl, _, _, _, rfl, rfl, by rw [SX.S_len]; exact sl_of (by omega), atI_lst hcl hcl1, (by show 11 ≤ sizeLine; decide), fun p hp => ?_⟩
       have g1 := Ext.upd (o := .lst ([V.str (Str.ofString "0"), V.str (Str.ofString "-"), V.str (Str.ofString "+"), V.str (Str.ofString "1"), V.str (Str.ofString "/"), V.str (Str.ofString "\n"), V.str (Str.ofString "A"), V.str (Str.ofString "b"), V.str ⟨#[c0]⟩, V.str ⟨#[cl]⟩, V.str (Str.ofString "")])) hp
       refine ⟨b, .ref p, rfl, hb1.ext g1, .inl ⟨p, _, rfl, SqL.of upd_same, by show 0 < 11; decide, by show 11 ≤ 100; decide, fun v hv => ?_⟩⟩
       have hv' : ∃ z : Str, v = .str z ∧ z.length ≤ 9 := by
         simp only [List.mem_cons, List.not_mem_nil, or_false] at hv
         rcases hv with rfl | rfl | rfl | rfl | rfl | rfl | rfl | rfl | rfl | rfl | rfl
         all_goals exact ⟨_, rfl, by show _ ≤ 9; first | (rw [len1]; decide) | decide +kernel⟩
       obtain ⟨z, rfl, hz⟩ := hv'
       clear hv
       revert g1
       generalize upd H1 p _ = H2
       intro g1
       have hwl : wd.length ≤ 10001 := by omega
       have l1 := cutS_length wd none (some sp)
       refine ⟨_, rfl, _, rfl, _, rfl, _, rfl, sl_of (by omega), _, rfl, _, _, rfl, rfl, sl_of (by omega), _, rfl, _, rfl, _, rfl, b, _, rfl, hb1.ext g1, by decide, by decide, fun d d0 d1 => ?_⟩
       have l2 := cutS_length wd (some (sp + d)) none
       have l3 : (cutS wd none (some sp) ++ z).length = (cutS wd none (some sp)).length + z.length := str_app_len _ _
       refine ⟨_, _, rfl, rfl, _, rfl, _, rfl, sl_of (by omega), _, _, rfl, rfl, sl_of (by omega), ?_⟩
       have l4 : (cutS wd none (some sp) ++ z ++ cutS wd (some (sp + d)) none).length = (cutS wd none (some sp) ++ z).length + (cutS wd (some (sp + d)) none).length := str_app_len _ _
       exact ⟨_, rfl, _, rfl, Wz, _, _, a, rfl, rfl, g1 _ _ hW1, Evl.ixN_nat (by rw [List.length_map]; exact ha), fset a _ _ _ _ _ _ _ _ _ _ _ (e1.trans g1) (g1 _ _ hW1) (by omega)⟩
     -- another table
     refine ⟨_, rfl, rfl, _, rfl, ?_⟩
     refine ite2 (fun _ => ?_) (fun _ => ?_)
     · refine ⟨_, rfl, b, rfl, hb1, fun q rows cl' H2 e2 hP2 => ?_⟩
       obtain ⟨q', A1, C1, hqe, hqt, hT, hC, gT, gC⟩ := hP2
       cases hqe
       refine ⟨_, rfl, _, _, _, _, rfl, rfl, hqt, at0, _, rfl, _, _, _, _, rfl, rfl, hqt, atI_nat (j := 1) rfl, A1, C1, rows, cl', rfl, hT, hC, gT, gC.len, fun H3 e3 => ?_⟩
       have hl := autWord_len (cl := cl') gT
       exact ⟨_, rfl, _, rfl, Wz, _, _, zs.length - 1, rfl, rfl, (e2.trans e3) _ _ hW1, by rw [List.length_map]; exact ixN_last hz1, fset (zs.length - 1) _ _ _ _ _ _ _ _ _ _ _ (e1.trans (e2.trans e3)) ((e2.trans e3) _ _ hW1) (by rw [SX.S_len]; omega)⟩
     refine ⟨_, rfl, _, rfl, _, _, rfl, rfl, lenL line hln, _, rfl, _, _, rfl, rfl, (lenR line hln), _, rfl, _, _, rfl, rfl, (lenR line hln), _, rfl, _, rfl, lenP line hln, _, rfl, _, _, rfl, rfl, (lenR line hln), _, rfl, _, rfl, _, rfl, by rw [SX.S_len]; exact sl_of (by omega), _, rfl, _, rfl, _, _, rfl, rfl, by rw [SX.S_len]; exact sl_of (by omega), (by show 7 ≤ sizeLine; decide), fun p hp => ⟨b, .ref p, rfl, hb1.ext (Ext.upd hp), .inl ⟨p, _, rfl, SqL.of upd_same, by show 0 < 7; decide, by show 7 ≤ 100; decide, fun v hv => ?_⟩⟩⟩
     simp only [List.mem_cons, List.not_mem_nil, or_false] at hv
     have eL := SX.S_len line
     rcases hv with rfl | rfl | rfl | rfl | rfl | rfl | rfl
     · refine k _ _ (e1.trans (Ext.upd hp)) (by rw [str_app_len, eL]; show 1 + line.length ≤ _; omega)
     · refine k _ _ (e1.trans (Ext.upd hp)) (by rw [str_app_len, eL]; show line.length + 1 ≤ _; omega)
     · refine k _ _ (e1.trans (Ext.upd hp)) (by rw [str_app_len, eL]; show line.length + 1 ≤ _; omega)
     · refine k _ _ (e1.trans (Ext.upd hp)) (Nat.le_trans (TK.replace_len _ _ _) (by rw [eL]; show line.length + (line.length + 1) * 2 ≤ _; omega))
     · refine k _ _ (e1.trans (Ext.upd hp)) (by rw [str_app_len, eL]; show line.length + 1 ≤ _; omega)
     · refine k _ _ (e1.trans (Ext.upd hp)) (Nat.le_trans (cutS_length _ _ _) (by rw [eL]; omega))
     · refine k _ _ (e1.trans (Ext.upd hp)) (by rw [str_app_len, eL]; omega)
end
end K12
namespace K12
open PySem PySem.Spec PyProof.Rows L2 SX
/-! ### the law itself -/
section
variable {K : PySem.W.Frag} {H : Hp}
theorem sql_keep {p a : Addr} {n : Str} {rest xs : List V} {o : HO} (hp : H p = some (.lst (.str n :: rest))) (h : SqL K H a xs) (hne : ∀ r, xs ≠ .str n :: r) : SqL K (upd H p o) a xs := by
  rcases h with (h | ⟨u, h⟩) | h
  · exact .inl (.inl (by rw [upd_ne (ne_of h hp (by intro z; exact hne _ (HO.lst.inj z)))]; exact h))
  · exact .inl (.inr ⟨u, by rw [upd_ne (ne_of h hp (by intro z; cases z))]; exact h⟩)
  · exact .inr h
theorem ints_ne {ns : List Int} {n : Str} {r : List V} : ns.map V.int ≠ .str n :: r := by cases ns <;> (intro z; cases z)
theorem opts_ne {ns : List (Option Int)} {n : Str} {r : List V} : ns.map optI ≠ .str n :: r := by
  cases ns with
  | nil => intro z; cases z
  | cons o ns => cases o <;> (intro z; cases z)
theorem tab_keep {p a : Addr} {n : Str} {rest : List V} {o : HO} {rows : List Row} (hp : H p = some (.lst (.str n :: rest))) (h : TabL K H a rows) : TabL K (upd H p o) a rows := by
  obtain ⟨xs, h1, h2⟩ := h
  refine ⟨xs, sql_keep hp h1 (fun r z => ?_), prd_mono (fun v r z => ?_) h2⟩
  · subst z
    cases h2 with
    | cons hr _ =>
      obtain ⟨_, e, _⟩ := hr
      cases e
  · obtain ⟨q, h3, h4⟩ := z
    exact ⟨q, h3, sql_keep hp h4 (fun _ => opts_ne)⟩
theorem sqt_keep {p a : Addr} {xs rest : List V} {o : HO} (hp : H p = some (.lst rest)) (h : SqT K H a xs) : SqT K (upd H p o) a xs := by
  rcases h with (h | ⟨u, h⟩) | h
  · exact .inl (.inl (by rw [upd_ne (ne_of h hp (by intro z; cases z))]; exact h))
  · exact .inl (.inr ⟨u, by rw [upd_ne (ne_of h hp (by intro z; cases z))]; exact h⟩)
  · exact .inr h
theorem plan_keep {p : Addr} {n : Str} {rest : List V} {o : HO} {v : V} {pl : Plan} (hp : H p = some (.lst (.str n :: rest))) (h : PlanV K H v pl) : PlanV K (upd H p o) v pl := by
  cases pl with
  | none => exact h
  | some q =>
    obtain ⟨q, a, c, h1, h2, h3, h4, h5⟩ := h
    exact ⟨q, a, c, h1, sqt_keep hp h2, tab_keep hp h3, sql_keep hp h4 (fun _ => ints_ne), h5⟩
theorem valOk_turn {d : ReqD} (h : ValOk d) : ValOk { d with copies := 5 - d.copies, plan := none } := by
  have g := h.g
  have gc := g.copies
  obtain ⟨h1, h2, h3, h4, h5, h6⟩ := reqOk_iff.mp h
  exact reqOk_iff.mpr ⟨h1, h2, h3, h4, h5, isNum_iff.mpr ⟨by show 1 ≤ 5 - d.copies; omega, by show 5 - d.copies ≤ 4; omega⟩⟩
theorem valOk_plan {d : ReqD} (pl : Plan) (h : ValOk d) : ValOk { d with plan := pl } := h
end
theorem plan_word {K : PySem.W.Frag} {H : Hp} {v : V} {pl : Plan} (h : PlanV K H v pl) : (planWord pl).length ≤ 100 := by
  cases pl with
  | none => show 1 ≤ 100; decide
  | some q =>
    obtain ⟨q, a, c, h1, h2, h3, h4, h5, _⟩ := h
    exact autWord_len h5
theorem lineL_len {d : ReqD} {chars : List Nat} (g : ReqG d) (h : (planWord d.plan).length ≤ 100) : (lineL d chars).length ≤ 200 := by
  refine Nat.le_trans (joinL_len 32 _) ?_
  have gt := g.text
  have gm := g.most
  have gs := g.seed
  have gc := g.copies
  have gn := g.name
  have gk := g.knob
  rw [← len_tl] at gn gk
  have l1 := numL_small (n := d.most.toNat) (by omega)
  have l2 := numL_small (n := d.seed.toNat) (by omega)
  have l3 := numL_small (n := d.copies.toNat) (by omega)
  unfold lineP
  simp only [List.map_cons, List.map_nil, List.sum_cons, List.sum_nil, List.length_cons, List.length_nil, List.length_map]
  omega
def bnd : Nat → Nat
  | 0 => 200
  | n + 1 => 3 * bnd n + 200
theorem bnd_le {n : Nat} (h : n ≤ 2) : bnd n ≤ 10000 := by
  match n, h with
  | 0, _ => decide
  | 1, _ => decide
  | 2, _ => decide
theorem bnd_le' {n : Nat} (h : n ≤ 3) : bnd n ≤ 40000 := by
  match n, h with
  | 0, _ => decide
  | 1, _ => decide
  | 2, _ => decide
  | 3, _ => decide
section
variable {P : Program} {w : World} {K : PySem.W.Frag} {mg : Str → Option Value} {base : Heap}
abbrev s_law : Stmt := top 61
theorem sc_law : FnScope ["_law_script", "_law_bag_here", "_law_lap", "_law_chars", "_law_v", "_law_asked", "_law_entry_line", "_law_trial", "_law_bent_here", "_law_k", "_law_value"] ["_law_script"] (defScope s_law) := ⟨rfl, rfl, rfl, by decide +kernel, rfl, by decide +kernel, by decide +kernel⟩
def sp_law (K : PySem.W.Frag) : Sp := fun vs H Q _ => ∃ (p : Addr) (ss : List Int), vs = [.ref p] ∧ SqL K H p (ss.map V.int) ∧ ∀ H', Q (.bl true) H'
theorem c_law (T : Txt K mg) {fd : FuncData} (F : FunD K "law" "law" (defArgs s_law) (defBody s_law) (defScope s_law) [] [] (He.ga K "law") fd) : FnOk P w K mg base CX0 12 (He.ga K "law") fd ["_law_script"] (sp_law K) := by
  refine F.ok sc_law (fun vs H Q E h => ?_) (fun cdv A outer s H vs Q E hr h => ?_)
  · obtain ⟨p, ss, rfl, _⟩ := h
    rfl
  · obtain ⟨p, ss, rfl, hp, k⟩ := h
    refine ⟨_, PSs.nox (pss_cons (ps_set (i := 1) sc_law.nd rfl (Or.inl rfl) (pe_c (c__law_bag T) hr (by decide) rfl (pa_cons (pv 0) pa_nil)))
  (pss_cons (ps_for PassesOwn.never rfl (pi_range1 rfl T.n_range (pa_cons pe_int pa_nil)) (pg_name (i := 2) sc_law.nd rfl (Or.inl rfl)) (pss_cons (ps_set (i := 3) sc_law.nd rfl (Or.inl rfl) (pe_c (c__law_string T) hr (by decide) rfl (pa_cons (pv 1) (pa_cons (pe_c (c__law_of T) hr (by decide) rfl (pa_cons (pv 1) (pa_cons (pe_lst (pa_cons pe_int (pa_cons pe_int (pa_cons pe_int (pa_cons pe_int (pa_cons pe_int pa_nil)))))) pa_nil))) pa_nil))))
    (pss_cons (ps_set (i := 4) sc_law.nd rfl (Or.inl rfl) (pe_c (c__law_values T) hr (by decide) rfl (pa_cons (pv 1) (pa_cons (pe_op op_sub (pe_callB call_len_str rfl T.n_len bt_len (pa_cons (pv 3) pa_nil)) pe_int) pa_nil))))
    (pss_cons (ps_set (i := 5) sc_law.nd rfl (Or.inl rfl) (pe_c (c__law_made T) hr (by decide) rfl (pa_cons (pv 4) pa_nil)))
    (pss_cons (ps_if (PW.pt (pw_or (pt_not (pt_val (pe_c (c__law_needs_so T) hr (by decide) rfl (pa_cons (pv 5) (pa_cons (pv 4) pa_nil))))) (pw_or1 (pt_not (pt_val (pe_c (c__law_needs_so T) hr (by decide) rfl (pa_cons (pe_c (c__law_made T) hr (by decide) rfl (pa_cons (pe_op op_cat (pe_slice (sl_listK (K := K)) (pv 4) po_none (po_some pe_int)) (pe_lst (pa_cons (pe_op op_sub pe_int (pe_ix (ix_listK (K := K)) (pv 4) pe_int (fun _ _ => rfl))) (pa_cons pe_non pa_nil)))) pa_nil)) (pa_cons (pe_op op_cat (pe_slice (sl_listK (K := K)) (pv 4) po_none (po_some pe_int)) (pe_lst (pa_cons (pe_op op_sub pe_int (pe_ix (ix_listK (K := K)) (pv 4) pe_int (fun _ _ => rfl))) (pa_cons pe_non pa_nil)))) pa_nil)))))))) (pss_one (ps_ret pe_bl)) pss_nil)
    (pss_cons (ps_asg (pe_ifExp (PW.pt (pw_and (pt_cmpR op_notN (pe_ix (ix_listK (K := K)) (pv 4) pe_int (fun _ _ => rfl)) pe_non (nomark _)) (pw_and1 (pt_cmpR op_ne (pe_op op_add (pe_callB (call_lenK (K := K)) rfl T.n_len bt_len (pa_cons (pe_ix (ix_listK (K := K)) (pe_ix (ix_tupK (K := K)) (pe_ix (ix_listK (K := K)) (pv 4) pe_int (fun _ _ => rfl)) pe_int (fun _ _ => rfl)) pe_int (fun _ _ => rfl)) pa_nil)) pe_int) (pe_callB call_len_str rfl T.n_len bt_len (pa_cons (pv 3) pa_nil)) (nomark _))))) pe_non (pe_ix (ix_listK (K := K)) (pv 4) pe_int (fun _ _ => rfl))) (pg_sub (pv 4) pe_int set_list))
    (pss_cons (ps_par (i := 5) (j := 6) rfl sc_law.nd rfl rfl (by decide) rfl rfl (pa_cons (pe_c (c__law_made T) hr (by decide) rfl (pa_cons (pv 4) pa_nil)) (pa_cons (pe_c (c__law_line T) hr (by decide) rfl (pa_cons (pv 4) (pa_cons (pv 3) pa_nil))) pa_nil)) (by rfl))
    (pss_cons (ps_if (PW.pt (pw_or (pt_not (pt_val (pe_c (c_like T 2) hr (by decide) rfl (pa_cons (pe_lst (pa_cons (pe_mc (c_Request_entry T) hr (by decide) T.r_cls T.r_m_entry (pv 5) (pa_cons (pv 3) pa_nil)) (pa_cons (pe_mkk (ks := (["tokens"] : List Str)) (c_entry_kw T) hr (by decide) T.r_cls T.r_m_entry (pv 5) (pk_cons (pv 3) pk_nil)) pa_nil))) (pa_cons (pe_lst (pa_cons (pv 6) (pa_cons (pv 6) pa_nil))) pa_nil))))) (pw_or1 (pt_not (pt_val (pe_c (c__law_read_so T) hr (by decide) rfl (pa_cons (pv 6) (pa_cons (pv 3) pa_nil)))))))) (pss_one (ps_ret pe_bl)) pss_nil)
    (pss_cons (ps_for PassesOwn.never rfl (pi_range1 rfl T.n_range (pa_cons pe_int pa_nil)) (pg_name (i := 7) sc_law.nd rfl (Or.inl rfl)) (pss_cons (ps_set (i := 8) sc_law.nd rfl (Or.inl rfl) (pv 6))
      (pss_cons (ps_for PassesOwn.never rfl (pi_range1 rfl T.n_range (pa_cons (pe_c (c__law_of T) hr (by decide) rfl (pa_cons (pv 1) (pa_cons (pe_lst (pa_cons pe_int (pa_cons pe_int (pa_cons pe_int (pa_cons pe_int pa_nil))))) pa_nil))) pa_nil)) (pg_name (i := 9) sc_law.nd rfl (Or.inl rfl)) (pss_one (ps_set (i := 8) sc_law.nd rfl (Or.inl rfl) (pe_c (c__law_bent T) hr (by decide) rfl (pa_cons (pv 1) (pa_cons (pv 8) (pa_cons (pv 3) pa_nil)))))))
      (pss_one (ps_if (pt_not (pt_val (pe_c (c__law_read_so T) hr (by decide) rfl (pa_cons (pv 8) (pa_cons (pv 3) pa_nil))))) (pss_one (ps_ret pe_bl)) pss_nil)))))
    (pss_cons (ps_set (i := 10) sc_law.nd rfl (Or.inl rfl) (pe_c (c__law_of T) hr (by decide) rfl (pa_cons (pv 1) (pa_cons (pe_lst (pa_cons pe_non (pa_cons pe_bl (pa_cons pe_int (pa_cons (pe_tup pa_nil) (pa_cons (pe_lst (pa_cons (pv 6) pa_nil)) (pa_cons (pe_tup (pa_cons (pv 6) pa_nil)) (pa_cons pe_str (pa_cons (pv 5) (pa_cons (pe_split (pv 6) pe_str) pa_nil)))))))))) pa_nil))))
    (pss_one (ps_if (pt_not (pt_val (pe_c (c__law_read_so T) hr (by decide) rfl (pa_cons (pv 10) (pa_cons (pv 3) pa_nil))))) (pss_one (ps_ret pe_bl)) pss_nil))))))))))))
  (pss_one (ps_ret pe_bl)))), ?_⟩
    refine ⟨_, rfl, p, ss, rfl, hp, fun b H1 e1 hb => ?_⟩
    refine ⟨3, rfl, by decide, by decide, for_range (fun i σ H' => ∃ v2 v3 v4 v5 v6 v7 v8 v9 v10, σ = [some (.ref p), some (.ref b), v2, v3, v4, v5, v6, v7, v8, v9, v10] ∧ BagAt H' b) ⟨_, _, _, _, _, _, _, _, _, rfl, hb⟩ (fun i σ H2 hi h => ?_) (fun σ H2 h => ?_)⟩
    · obtain ⟨v2, v3, v4, v5, v6, v7, v8, v9, v10, rfl, hb2⟩ := h
      refine ⟨_, rfl, _, rfl, (by show 5 ≤ sizeLine; decide), fun q hq => ⟨b, .ref q, rfl, hb2.ext (Ext.upd hq), .inl ⟨q, _, rfl, SqL.of upd_same, by show 0 < 5; decide, by show 5 ≤ 100; decide, fun v hv => ?_⟩⟩⟩
      obtain ⟨n0, rfl, hn0⟩ := mem_intsP (ns := [2, 3, 3, 4, 6]) (R := fun j => 2 ≤ j ∧ j ≤ 6) (by intro z hz; simp at hz; omega) hv
      obtain ⟨n, rfl⟩ := Int.eq_ofNat_of_zero_le (show 0 ≤ n0 by omega)
      refine ⟨b, n, rfl, hb2.ext (Ext.upd hq), by omega, fun chars H3 e3 hcl hnd => ?_⟩
      have hb3 := (hb2.ext (Ext.upd hq)).ext e3
      clear hv hq e3
      refine ⟨_, rfl, _, rfl, _, rfl, by rw [SX.S_len]; exact sl_of (by omega), _, _, rfl, rfl, b, _, rfl, hb3, by rw [SX.S_len]; omega, by rw [SX.S_len]; omega, fun p4 d H4 e4 hn4 hV hok ht => ?_⟩
      have hb4 := hb3.ext e4
      have hG := hok.g
      refine ⟨_, rfl, p4, d, rfl, hV, hok, fun x H5 e5 hR => ?_⟩
      refine ⟨_, rfl, _, rfl, x, p4, d, rfl, hR, hV.ext e5, hG, fun H6 e6 => ⟨_, rfl, ?_⟩⟩
      obtain ⟨t, pl, h4, hT, hP⟩ := hV
      have e46 := e5.trans e6
      have h6 := e46 _ _ h4
      have ec : cutV (valV d t pl) none (some 5) = [.str d.name, .ref t, .int d.most, .str d.knob, .int d.seed] := cutV_head _ 5
      refine ⟨_, rfl, _, rfl, p4, _, rfl, SqL.of h6, fun s1 hs1 => ?_⟩
      rw [ec]
      have y1 := Ext.upd (o := .lst [.str d.name, .ref t, .int d.most, .str d.knob, .int d.seed]) hs1
      refine ⟨_, rfl, _, _, _, _, rfl, rfl, SqL.of (y1 _ _ h6), atI_nat (j := 5) rfl, _, _, rfl, rfl, (by show 2 ≤ sizeLine; decide), fun s2 hs2 => ?_⟩
      have y2 := y1.trans (Ext.upd (o := .lst [.int (5 - d.copies), .non]) hs2)
      refine ⟨s1, s2, _, _, rfl, rfl, (Ext.upd hs2) _ _ upd_same, upd_same, by show 5 + 2 ≤ sizeLine; decide, fun s3 hs3 => ?_⟩
      have y3 := y2.trans (Ext.upd (o := .lst ([.str d.name, .ref t, .int d.most, .str d.knob, .int d.seed] ++ [.int (5 - d.copies), .non])) hs3)
      have hok2 := valOk_turn hok
      have hV3 : ValAt K (upd (upd (upd H6 s1 (.lst [.str d.name, .ref t, .int d.most, .str d.knob, .int d.seed])) s2 (.lst [.int (5 - d.copies), .non])) s3 (.lst ([.str d.name, .ref t, .int d.most, .str d.knob, .int d.seed] ++ [.int (5 - d.copies), .non]))) s3 { d with copies := 5 - d.copies, plan := none } := ⟨t, .non, upd_same, hT.ext (e46.trans y3), rfl⟩
      revert y3 hV3
      generalize upd (upd (upd H6 s1 (.lst [.str d.name, .ref t, .int d.most, .str d.knob, .int d.seed])) s2 (.lst [.int (5 - d.copies), .non])) s3 (.lst ([.str d.name, .ref t, .int d.most, .str d.knob, .int d.seed] ++ [.int (5 - d.copies), .non])) = H7
      intro y3 hV3
      refine ⟨s3, { d with copies := 5 - d.copies, plan := none }, rfl, hV3, hok2, fun x2 H8 e8 hR2 => ?_⟩
      have e48 := e46.trans (y3.trans e8)
      have h8 := e48 _ _ h4
      refine ⟨_, rfl, _, rfl, p4, _, rfl, SqL.of h8, fun s4 hs4 => ?_⟩
      rw [ec]
      have w1 := Ext.upd (o := .lst [.str d.name, .ref t, .int d.most, .str d.knob, .int d.seed]) hs4
      refine ⟨_, rfl, _, _, _, _, rfl, rfl, SqL.of (w1 _ _ h8), atI_nat (j := 5) rfl, _, _, rfl, rfl, (by show 2 ≤ sizeLine; decide), fun s5 hs5 => ?_⟩
      have w2 := w1.trans (Ext.upd (o := .lst [.int (5 - d.copies), .non]) hs5)
      refine ⟨s4, s5, _, _, rfl, rfl, (Ext.upd hs5) _ _ upd_same, upd_same, by show 5 + 2 ≤ sizeLine; decide, fun s6 hs6 => ?_⟩
      have w3 := w2.trans (Ext.upd (o := .lst ([.str d.name, .ref t, .int d.most, .str d.knob, .int d.seed] ++ [.int (5 - d.copies), .non])) hs6)
      have hV6 : ValAt K (upd (upd (upd H8 s4 (.lst [.str d.name, .ref t, .int d.most, .str d.knob, .int d.seed])) s5 (.lst [.int (5 - d.copies), .non])) s6 (.lst ([.str d.name, .ref t, .int d.most, .str d.knob, .int d.seed] ++ [.int (5 - d.copies), .non]))) s6 { d with copies := 5 - d.copies, plan := none } := ⟨t, .non, upd_same, hT.ext (e48.trans w3), rfl⟩
      revert w3 hV6
      generalize upd (upd (upd H8 s4 (.lst [.str d.name, .ref t, .int d.most, .str d.knob, .int d.seed])) s5 (.lst [.int (5 - d.copies), .non])) s6 (.lst ([.str d.name, .ref t, .int d.most, .str d.knob, .int d.seed] ++ [.int (5 - d.copies), .non])) = H9
      intro w3 hV6
      refine ⟨x2, s6, { d with copies := 5 - d.copies, plan := none }, rfl, hR2.ext w3, hV6, hok2.g, fun H10 e10 => ⟨_, rfl, ?_⟩⟩
      have eA := e48.trans (w3.trans e10)
      have hA := eA _ _ h4
      have hbA := hb4.ext eA
      have hTA := hT.ext eA
      have hPA := hP.ext eA
      have eB := e4.trans eA
      have hcase : (pl = .non ∧ d.plan = none) ∨ ∃ q rows cl, pl = .ref q ∧ d.plan = some (rows, cl) := by
        cases hp' : d.plan with
        | none => rw [hp'] at hPA; exact .inl ⟨hPA, rfl⟩
        | some z =>
          obtain ⟨rows, cl⟩ := z
          rw [hp'] at hPA
          obtain ⟨q, _, _, h, _⟩ := hPA
          exact .inr ⟨q, rows, cl, h, rfl⟩
      obtain ⟨pl0, epl⟩ : ∃ z, z = pl := ⟨_, rfl⟩
      rw [← epl] at hA hPA
      rcases hcase with ⟨hpl, hpn⟩ | ⟨q, rows, cl, hpl, hpn⟩
      case' inl =>
        rw [hpl] at epl
        subst epl
        refine ⟨_, rfl, _, _, _, _, rfl, rfl, SqL.of hA, atI_nat (j := 6) rfl, rfl, _, rfl, iteF (iteF ⟨_, rfl, _, _, _, _, rfl, rfl, SqL.of hA, atI_nat (j := 6) rfl, ?_⟩)⟩
        refine ⟨_, rfl, p4, _, _, 6, rfl, rfl, hA, Evl.ixN_nat (n := 7) (j := 6) (by decide), ?_⟩
        have hV2 : ∃ d2 : ReqD, ValAt K (upd H10 p4 (.lst ((valV d t .non).set 6 (.non)))) p4 d2 ∧ ValOk d2 ∧ d2.text = d.text := ⟨{ d with plan := none }, ⟨t, .non, upd_same, sql_keep hA hTA (fun _ => ints_ne), rfl⟩, hok, rfl⟩
        have eC : Ext H3 (upd H10 p4 (.lst ((valV d t .non).set 6 (.non)))) := ext_mut eB hn4
        revert hV2 eC
        generalize upd H10 p4 (.lst ((valV d t .non).set 6 (.non))) = HB
        intro hV2 eC
        clear hA hPA
      case' inr =>
        have hpl0 : pl0 = .ref q := epl.trans hpl
        have hPA2 := hPA
        rw [hpn, hpl0] at hPA2
        obtain ⟨q', a, c, hq', hqt, ⟨xs, hxs, hpr⟩, hC, gT, gC⟩ := hPA2
        cases hq'
        have gl := gT.len
        obtain ⟨r0, hr0⟩ : ∃ r, rows[0]? = some r := ⟨_, List.getElem?_eq_getElem (by omega)⟩
        obtain ⟨v0, hv0, p0, rfl, hrow⟩ := prd_at' hpr hr0
        have gz := gT.rowz r0 (List.mem_of_getElem? hr0)
        have hd : (!decide (pl0 = V.non)) = true := by rw [hpl0]; rfl
        refine ⟨_, rfl, _, _, _, _, rfl, rfl, SqL.of hA, atI_nat (j := 6) rfl, rfl, _, rfl, ?_⟩
        refine ite2 (fun _ => ?_) (fun z => absurd hd z)
        refine ⟨_, rfl, _, _, _, _, rfl, rfl, SqL.of hA, atI_nat (j := 6) rfl, q, _, _, _, hpl0, rfl, hqt, at0, _, _, _, _, rfl, rfl, hxs, atI_nat (j := 0) hv0, p0, _, rfl, .inl hrow, _, _, rfl, rfl, _, rfl, _, rfl, by rw [SX.S_len]; exact sl_of (by omega), rfl, _, rfl, ?_⟩
        refine ite2 (fun _ => ?_) (fun _ => ?_)
        case' refine_1 =>
          refine ⟨_, rfl, p4, _, _, 6, rfl, rfl, hA, Evl.ixN_nat (n := 7) (j := 6) (by decide), ?_⟩
          have hV2 : ∃ d2 : ReqD, ValAt K (upd H10 p4 (.lst ((valV d t pl0).set 6 (.non)))) p4 d2 ∧ ValOk d2 ∧ d2.text = d.text := ⟨{ d with plan := none }, ⟨t, .non, upd_same, sql_keep hA hTA (fun _ => ints_ne), rfl⟩, hok, rfl⟩
          have eC : Ext H3 (upd H10 p4 (.lst ((valV d t pl0).set 6 (.non)))) := ext_mut eB hn4
          revert hV2 eC
          generalize upd H10 p4 (.lst ((valV d t pl0).set 6 (.non))) = HB
          intro hV2 eC
          clear hA hPA
        case' refine_2 =>
          refine ⟨_, rfl, _, _, _, _, rfl, rfl, SqL.of hA, atI_nat (j := 6) rfl, ?_⟩
          refine ⟨_, rfl, p4, _, _, 6, rfl, rfl, hA, Evl.ixN_nat (n := 7) (j := 6) (by decide), ?_⟩
          have hV2 : ∃ d2 : ReqD, ValAt K (upd H10 p4 (.lst ((valV d t pl0).set 6 (pl0)))) p4 d2 ∧ ValOk d2 ∧ d2.text = d.text := ⟨{ d with plan := d.plan }, ⟨t, pl0, upd_same, sql_keep hA hTA (fun _ => ints_ne), plan_keep hA hPA⟩, hok, rfl⟩
          have eC : Ext H3 (upd H10 p4 (.lst ((valV d t pl0).set 6 (pl0)))) := ext_mut eB hn4
          revert hV2 eC
          generalize upd H10 p4 (.lst ((valV d t pl0).set 6 (pl0))) = HB
          intro hV2 eC
          clear hA hPA
      all_goals
        obtain ⟨d2, hV2, hok2', htx⟩ := hV2
        have hG2 := hok2'.g
        have rg : ∀ z ∈ d2.text, 0 ≤ z ∧ z < (chars.length : Int) := fun z hz => by
          rw [htx] at hz
          have := ht z hz
          rw [SX.S_len] at this
          omega
        have hbB := hb3.ext eC
        have hll : (lineL d2 chars).length ≤ 200 := by
          obtain ⟨_, _, _, _, hPl⟩ := hV2
          exact lineL_len hG2 (plan_word hPl)
        refine ⟨_, rfl, p4, d2, rfl, hV2, hok2', fun xa HC eC2 hRa => ?_⟩
        refine ⟨_, rfl, _, rfl, p4, d2, chars, rfl, hV2.ext eC2, hG2, by omega, rg, fun HD eD => ⟨_, _, rfl, ?_⟩⟩
        obtain ⟨dx, pt, av, hx, hTt, hPp⟩ := hRa
        have hRa : ReqAt _ HC xa d2 := ⟨dx, pt, av, hx, hTt, hPp⟩
        refine ⟨_, rfl, xa, dx, _, rfl, eD _ _ hx, lkR_entry, _, rfl, xa, d2, chars, rfl, hRa.ext eD, hG2, by omega, rg, fun HE eE => ?_⟩
        have eDE := eD.trans eE
        refine ⟨_, rfl, xa, dx, _, rfl, eDE _ _ hx, lkR_entry, _, rfl, rfl, xa, d2, chars, rfl, hRa.ext eDE, hG2, by omega, rg, fun HF eF => ?_⟩
        have eDF := eDE.trans eF
        refine ⟨(by show 2 ≤ sizeLine; decide), fun A1 hA1 => ⟨_, rfl, _, rfl, (by show 2 ≤ sizeLine; decide), fun A2 hA2 => ⟨.ref A1, .ref A2, rfl, .inr ⟨A1, A2, _, _, rfl, rfl, .inl ⟨SqL.of ((Ext.upd hA2) _ _ upd_same), SqL.of upd_same⟩, by show 2 ≤ 100; decide, .cons (same_str _) (.cons (same_str _) .nil)⟩, fun HG eG => ⟨_, rfl, ?_⟩⟩⟩⟩
        refine ⟨_, rfl, _, rfl, .str (S (lineL d2 chars)), chars, rfl, .inr ⟨_, rfl, by omega⟩, by omega, hnd, fun HI eI => ⟨_, rfl, ?_⟩⟩
        have eZ := eC2.trans (eDF.trans ((Ext.upd hA1).trans ((Ext.upd hA2).trans (eG.trans eI))))
        have hbI := hbB.ext eZ
        refine ⟨5, rfl, by decide, by decide, for_range (fun m σ H' => ∃ v7 v8 v9, σ = [some (.ref p), some (.ref b), some (.int ((0 : Int) + (i : Nat))), some (.str (S chars)), some (.ref p4), some (.ref xa), some (.str (S (lineL d2 chars))), v7, v8, v9, v10] ∧ Ext HI H') ⟨_, _, _, rfl, Ext.rfl'⟩ (fun m σ HJ hm h => ?_) (fun σ HJ h => ?_)⟩
        · obtain ⟨v7', v8', v9', rfl, eJ⟩ := h
          refine ⟨_, rfl, _, rfl, (by show 4 ≤ sizeLine; decide), fun q2 hq2 => ⟨b, .ref q2, rfl, (hbI.ext eJ).ext (Ext.upd hq2), .inl ⟨q2, _, rfl, SqL.of upd_same, by show 0 < 4; decide, by show 4 ≤ 100; decide, fun v hv => ?_⟩⟩⟩
          obtain ⟨j0, rfl, hj0⟩ := mem_intsP (ns := [1, 1, 2, 3]) (R := fun j => 1 ≤ j ∧ j ≤ 3) (by intro z hz; simp at hz; omega) hv
          have eK := eJ.trans (Ext.upd (o := .lst [V.int 1, .int 1, .int 2, .int 3]) hq2)
          refine ⟨j0, rfl, by omega, by omega, for_range (fun m2 σ H' => ∃ (ln : List Nat) (v9 : Option V), σ = [some (.ref p), some (.ref b), some (.int ((0 : Int) + (i : Nat))), some (.str (S chars)), some (.ref p4), some (.ref xa), some (.str (S (lineL d2 chars))), some (.int ((0 : Int) + (m : Nat))), some (.str (S ln)), v9, v10] ∧ Ext HI H' ∧ ln.length ≤ bnd m2) ⟨_, _, rfl, eK, hll⟩ (fun m2 σ HL hm2 h => ?_) (fun σ HL h => ?_)⟩
          · obtain ⟨ln, v9'', rfl, eL, hln⟩ := h
            have hb4 := bnd_le (n := m2) (by omega)
            refine ⟨_, rfl, _, rfl, _, rfl, b, ln, chars, rfl, hbI.ext eL, by omega, by omega, by omega, fun z H' e' hz => ?_⟩
            refine ⟨z.cps.toList, _, by rw [SX.S_tl]; rfl, eL.trans e', ?_⟩
            rw [len_tl]
            show z.length ≤ 3 * bnd m2 + 200
            omega
          · obtain ⟨ln, v9'', rfl, eL, hln⟩ := h
            have hb4 := bnd_le' (n := j0.toNat) (by omega)
            exact ⟨_, rfl, _, rfl, .str (S ln), chars, rfl, .inr ⟨_, rfl, by omega⟩, by omega, hnd, fun H' e' => ⟨_, rfl, _, _, _, rfl, eL.trans e'⟩⟩
        · obtain ⟨v7', v8', v9', rfl, eJ⟩ := h
          refine ⟨_, rfl, (by show 0 ≤ sizeLine; decide), fun u1 hu1 => ⟨_, rfl, (by show 1 ≤ sizeLine; decide), fun u2 hu2 => ⟨_, rfl, (by show 1 ≤ sizeLine; decide), fun u3 hu3 => ?_⟩⟩⟩
          refine ⟨_, rfl, _, rfl, ⟨_, rfl⟩, _, _, rfl, rfl, rfl, by rw [SX.S_len]; exact sl_of (by omega), fun u4 hu4 => ⟨(by show 9 ≤ sizeLine; decide), fun u5 hu5 => ?_⟩⟩
          have z5 := Ext.upd (o := .lst [V.non, .bl true, .int 0, .ref u1, .ref u2, .ref u3, .str (Str.ofString ""), .ref xa, .ref u4]) hu5
          refine ⟨b, .ref u5, rfl, (hbI.ext eJ).ext ((Ext.upd hu1).trans ((Ext.upd hu2).trans ((Ext.upd hu3).trans ((Ext.upd hu4).trans (Ext.upd hu5))))), .inl ⟨u5, _, rfl, SqL.of upd_same, by show 0 < 9; decide, by show 9 ≤ 100; decide, fun v hv => ?_⟩⟩
          refine ⟨_, rfl, _, rfl, v, chars, rfl, ?_, by omega, hnd, fun H' e' => ⟨_, rfl, _, _, _, _, _, _, _, _, _, rfl, ((hbI.ext eJ).ext ((Ext.upd hu1).trans ((Ext.upd hu2).trans ((Ext.upd hu3).trans ((Ext.upd hu4).trans (Ext.upd hu5)))))).ext e'⟩⟩
          have e4 := (Ext.upd (o := .lst (((TL.spl [32] 0 [] (lineL d2 chars)).map S).map V.str)) hu4)
          simp only [List.mem_cons, List.not_mem_nil, or_false] at hv
          have key : ∀ {Hx : Hp} {v : V} {Ty : String}, TyN _ Hx v Ty → PySem.W.kitOne K (.type Ty) (.type "str") = some false → ∃ T', TyX K Hx v T' ∧ PySem.W.kitOne K T' (.type "str") = some false ∧ ∀ H', Ext Hx H' → TyX K H' v T' := fun ty hk => ⟨_, ty.tyX, hk, fun H' e => (ty.ext e).tyX⟩
          rcases hv with rfl | rfl | rfl | rfl | rfl | rfl | rfl | rfl | rfl
          · exact .inl (key .non (kit_ty (by decide +kernel)))
          · exact .inl (key (.bl true) (kit_ty (by decide +kernel)))
          · exact .inl (key (.int 0) (kit_ty (by decide +kernel)))
          · exact .inl (key (.tup (SqT.of (((Ext.upd hu2).trans ((Ext.upd hu3).trans ((Ext.upd hu4).trans (Ext.upd hu5)))) _ _ upd_same))) (kit_ty (by decide +kernel)))
          · exact .inl (key (.lst (SqL.of (((Ext.upd hu3).trans ((Ext.upd hu4).trans (Ext.upd hu5))) _ _ upd_same))) (kit_ty (by decide +kernel)))
          · exact .inl (key (.tup (SqT.of (((Ext.upd hu4).trans (Ext.upd hu5)) _ _ upd_same))) (kit_ty (by decide +kernel)))
          · exact .inr ⟨_, congrArg V.str (S_ofString _), by decide⟩
          · have hxZ := (eDF.trans ((Ext.upd hA1).trans ((Ext.upd hA2).trans (eG.trans (eI.trans (eJ.trans ((Ext.upd hu1).trans ((Ext.upd hu2).trans ((Ext.upd hu3).trans ((Ext.upd hu4).trans z5)))))))))) _ _ hx
            exact .inl ⟨_, T.r_ty.ty T.r_cls hxZ, T.r_ty.str, fun H' e => T.r_ty.ty T.r_cls (e _ _ hxZ)⟩
          · exact .inl (key (.lst (SqL.of ((Ext.upd hu5) _ _ upd_same))) (kit_ty (by decide +kernel)))
    · exact k _
end
end K12
namespace K12
open PySem PySem.Spec PyProof.Rows L2
/-! ### more facts of the head -/
/-- an own exception class over ValueError -/
def excB (K : PySem.W.Frag) (C : Addr) : Bool := match K.lookup C with
  | some ⟨.type "type", _, .cls cd, sl⟩ => (match cd.mro, sl.toList with
    | .ref C' :: bm, [_, _, _, _, some (.builtin n), _] => C' == C && n == "ValueError.__new__" && cd.hasDict && !cd.hasDel && PySem.HandSPX.refsVE bm
    | _, _ => false)
  | _ => false
theorem excB_ok {K : PySem.W.Frag} {C : Addr} (q : excB K C = true) :
    ∃ nm q N bs bm sn sub ab col dd k0 k1 k2 k3 k5, K.lookup C = some (excClassObj nm q C N bs bm true sn sub ab col dd k0 k1 k2 k3 k5 "ValueError.__new__") ∧ PySem.HandSPX.refsVE bm = true := by
  unfold excB at q
  split at q
  · rename_i dd cd sl ho
    split at q
    · rename_i C' bm k0 k1 k2 k3 n k5 hm hs
      simp only [Bool.and_eq_true, beq_iff_eq, Bool.not_eq_true'] at q
      obtain ⟨⟨⟨⟨rfl, rfl⟩, hd⟩, hdel⟩, ht⟩ := q
      obtain ⟨nm, bs, mro, ns, qn, hdct, sn, sub, ab, col, del⟩ := cd
      dsimp only at hm hdel hd
      subst hm hdel hd
      have hsl : sl = #[k0, k1, k2, k3, some (.builtin "ValueError.__new__"), k5] := by
        obtain ⟨l⟩ := sl
        simp only at hs
        rw [hs]
      subst hsl
      exact ⟨nm, qn, ns, bs, bm, sn, sub, ab, col, dd, k0, k1, k2, k3, k5, ho, ht⟩
    · cases q
  · cases q
def exfB (K : PySem.W.Frag) (C : Addr) (f : Str) : Bool := excB K C && (He.eqO (PySem.W.findIn K (.ref C) "__setattr__") (some (some (.builtin "object.__setattr__"))) && (decide (PySem.W.subIn K (.ref C) (.type "BaseException") = some true) &&
  (decide (PySem.W.typeIn K (.ref C) = some (.type "type")) && (PySem.W.keepIn K (.ref C) && (He.eqO (PySem.W.findIn K (.ref C) "__init__") (some (some (.ref (He.ma K C "__init__")))) && (decide (PySem.W.typeIn K (.ref (He.ma K C "__init__")) = some (.type "function")) &&
  (He.eqO (PySem.W.findIn K (.ref C) f) (some none) && decide (PySem.W.exmAny K (.ref C) [.ref (cXA K), .ref (cXR K)] = some true))))))))
theorem exfB_ok {K : PySem.W.Frag} {C : Addr} {f : Str} (h : exfB K C f = true) : ExF K C f := by
  obtain ⟨h1, h⟩ := He.ba h
  obtain ⟨h2, h⟩ := He.ba h
  obtain ⟨h3, h⟩ := He.ba h
  obtain ⟨h4, h⟩ := He.ba h
  obtain ⟨h5, h⟩ := He.ba h
  obtain ⟨h6, h⟩ := He.ba h
  obtain ⟨h7, h⟩ := He.ba h
  obtain ⟨h8, h9⟩ := He.ba h
  exact ⟨⟨excB_ok h1, He.eqO_ok h2, of_decide_eq_true h3, of_decide_eq_true h4, h5⟩, He.eqO_ok h6, of_decide_eq_true h7, He.eqO_ok h8, of_decide_eq_true h9⟩
def insB (K : PySem.W.Frag) (C : Addr) : Bool := He.eqO (PySem.W.findIn K (.ref C) "__class__") (some (some (.builtin "object.__class__"))) && (He.eqO (PySem.W.specialIn K (.builtin "object.__class__") "__get__") (some (some (.builtin "getset_descriptor.__get__"))) &&
  (decide (PySem.W.takesIn K (.builtin "object.__class__") = some true) && (decide (PySem.W.mroIn K C (.type "object") = some true) && (decide (PySem.W.kitOne K (.ref C) (.ref C) = some true) && decide (PySem.W.kitOne K (.ref C) (.type "str") = some false)))))
theorem insB_ok {K : PySem.W.Frag} {C : Addr} (h : insB K C = true) : InsTy K C := by
  obtain ⟨h1, h⟩ := He.ba h
  obtain ⟨h2, h⟩ := He.ba h
  obtain ⟨h3, h⟩ := He.ba h
  obtain ⟨h4, h⟩ := He.ba h
  obtain ⟨h5, h6⟩ := He.ba h
  exact ⟨He.eqO_ok h1, He.eqO_ok h2, of_decide_eq_true h3, of_decide_eq_true h4, of_decide_eq_true h5, of_decide_eq_true h6⟩
def creadB (K : PySem.W.Frag) (C : Addr) : Bool := PySem.W.readsIn K C (.type "type") && He.eqO (PySem.W.specialIn K (.ref C) "__getattribute__") (some (some (.builtin "type.__getattribute__")))
theorem creadB_ok {K : PySem.W.Frag} {C : Addr} (h : creadB K C = true) : ClX.CRead K C (.type "type") := by
  obtain ⟨h1, h2⟩ := He.ba h
  exact ⟨h1, He.eqO_ok h2⟩
def cmetB (K : PySem.W.Frag) (C : Addr) (m : Str) : Bool := He5.wrapB K C "classmethod" "classmethod.__get__" m && PySem.W.fnIn K (He5.wf K C "classmethod" m)
theorem cmetB_ok {K : PySem.W.Frag} {C : Addr} {m : Str} (h : cmetB K C m = true) : ClX.CMet K C (.type "type") m (He.ma K C m) (He5.wf K C "classmethod" m) := by
  obtain ⟨h1, h2⟩ := He.ba h
  exact He5.cmet_of h1 h2
def propB (K : PySem.W.Frag) (C : Addr) (m : Str) : Bool := He.eqO (PySem.W.findIn K (.ref C) m) (some (some (.ref (He.ma K C m)))) && (He.eqO (PySem.W.specialIn K (.ref (He.ma K C m)) "__get__") (some (some (.builtin "property.__get__"))) &&
  (decide (PySem.W.takesIn K (.ref (He.ma K C m)) = some true) && (match PySem.W.recIn K (He.ma K C m) "property" with
    | some (.ref _ :: _) => true
    | _ => false)))
theorem propB_ok {K : PySem.W.Frag} {C : Addr} {m : Str} (h : propB K C m = true) : PropOf K C m (He.ma K C m) (He5.wf K C "property" m) := by
  obtain ⟨h1, h⟩ := He.ba h
  obtain ⟨h2, h⟩ := He.ba h
  obtain ⟨h3, h4⟩ := He.ba h
  refine ⟨He.eqO_ok h1, He.eqO_ok h2, of_decide_eq_true h3, ?_⟩
  unfold He5.wf
  split at h4
  · rename_i f r e
    exact ⟨r, by rw [e]⟩
  · cases h4
theorem int_rel {mg : Str → Option Value} {x : Str} {i : Int} (h : ∃ t, mg x = some (.int i t)) : ∃ u, mg x = some u ∧ RelV (.int i) u := by
  obtain ⟨t, e⟩ := h
  exact ⟨_, e, t, rfl⟩
theorem str_rel {mg : Str → Option Value} {x z : Str} (h : ∃ t, mg x = some (.str z t)) : ∃ u, mg x = some u ∧ RelV (.str z) u := by
  obtain ⟨t, e⟩ := h
  exact ⟨_, e, t, rfl⟩
/-! ### the Hook -/
abbrev BF : Type := PySem.W.Frag → Bool
/-- what an object names, as far as the facts look -/
def refsK (o : Obj) : List Addr := match o.data with
  | .func fd => He.refV fd.code ++ (He.refV fd.defaults ++ He.refV fd.kwdefaults)
  | .cls cd => [cd.ns]
  | .dict es _ => es.toList.flatMap fun e => He.refV e.val
  | .fields vs => (match o.cls with
    | .type n => (match n == "classmethod" || n == "property" with
      | true => vs.toList.flatMap He.refV
      | false => [])
    | _ => [])
  | _ => []
def stepK (g : Addr → Option Obj) (as : List Addr) : List Addr := as.flatMap fun a => match g a with
  | some o => refsK o
  | none => []
def asK (g : Addr → Option Obj) : Nat → List Addr → List Addr
  | 0, as => as
  | n + 1, as => as ++ asK g n (stepK g as)
def frK (g : Addr → Option Obj) : PySem.W.Frag := He.frG g (asK g 5 [mainGlobals] ++ [cStatics])
def obsK (fa : List He.Fa) (ex : List BF) (fn : List He5.DefA) (K : PySem.W.Frag) : He.AlD := ((fa.all fun f => f.ok K) && ((ex.all fun b => b K) && fn.all fun d => d.ok K), fn.map fun d => He5.fnA K (d.at_ K))
def valK (fn : List He5.DefA) : He.AlD := (true, fn.map He5.DefA.val)
def SaysK (fa : List He.Fa) (ex : List BF) (fn : List He5.DefA) (K : PySem.W.Frag) : Prop := obsK fa ex fn K = valK fn
def obsKG (fa : List He.Fa) (ex : List BF) (fn : List He5.DefA) (g : Addr → Option Obj) : He.AlD := obsK fa ex fn (frK g)
def hookK (fa : List He.Fa) (ex : List BF) (fn : List He5.DefA) : PySem.W.Hook where
  α := He.AlD
  obs := fun s => obsKG fa ex fn s.heap.get?
  val := fun _ => valK fn
  says := fun _ h => ∃ K : PySem.W.Frag, K.In h ∧ SaysK fa ex fn K
  of := fun _ _ e => ⟨_, He.frG_in, e⟩
  keeps := fun _ _ _ ⟨K, hK, c⟩ k => ⟨K, PySem.W.Frag.In.keeps hK k, c⟩
theorem obsKG_eq {fa : List He.Fa} {ex : List BF} {fn : List He5.DefA} {g : Addr → Option Obj} {s : Shared} (h : ∀ a, g a = s.heap.get? a) : obsKG fa ex fn g = (hookK fa ex fn).obs s := by
  have e : g = s.heap.get? := funext h
  rw [e] <;> rfl
section
variable {fa : List He.Fa} {ex : List BF} {fn : List He5.DefA} {K : PySem.W.Frag}
theorem SaysK.fact (c : SaysK fa ex fn K) (i : Nat) {f : He.Fa} (h : fa[i]? = some f := by rfl) : f.ok K = true := by
  have c1 := (He.ba (show ((fa.all fun f => f.ok K) && ((ex.all fun b => b K) && fn.all fun d => d.ok K)) = true from congrArg (fun z : He.AlD => z.1) c)).1
  exact List.all_eq_true.mp c1 f (List.mem_of_getElem? h)
theorem SaysK.bool (c : SaysK fa ex fn K) (i : Nat) {b : BF} (h : ex[i]? = some b := by rfl) : b K = true := by
  have c1 := (He.ba (He.ba (show ((fa.all fun f => f.ok K) && ((ex.all fun b => b K) && fn.all fun d => d.ok K)) = true from congrArg (fun z : He.AlD => z.1) c)).2).1
  exact List.all_eq_true.mp c1 b (List.mem_of_getElem? h)
theorem SaysK.def_ (c : SaysK fa ex fn K) (i : Nat) {d : He5.DefA} (h : fn[i]? = some d := by rfl) : ∃ fd, FunD K d.name d.qual d.params d.body d.scope (d.dvs K) (d.kws K) (d.at_ K) fd := by
  have c2 := (He.ba (He.ba (show ((fa.all fun f => f.ok K) && ((ex.all fun b => b K) && fn.all fun d => d.ok K)) = true from congrArg (fun z : He.AlD => z.1) c)).2).2
  have e : fn.map (fun d => He5.fnA K (d.at_ K)) = fn.map He5.DefA.val := congrArg (fun z : He.AlD => z.2) c
  have e2 : (fn.map fun d => He5.fnA K (d.at_ K))[i]? = (fn.map He5.DefA.val)[i]? := by rw [e]
  rw [List.getElem?_map, List.getElem?_map, h] at e2
  exact He5.DefA.funD (Option.some.inj e2) (List.all_eq_true.mp c2 d (List.mem_of_getElem? h))
end
/-! ### this program's head -/
def hFa : List He.Fa := [
  .glo "Automaton",
  .glo "Request",
  .glo "InvalidAutomaton",
  .glo "InvalidRequest",
  .keep "InvalidAutomaton",
  .keep "InvalidRequest",
  .cls "Automaton",
  .mkr "Automaton",
  .cls "Request",
  .mkr "Request",
  .noat "Automaton" "table",
  .noat "Automaton" "closing",
  .noat "Automaton" "tokens",
  .noat "Automaton" "_needs",
  .noat "Request" "name",
  .noat "Request" "text",
  .noat "Request" "most",
  .noat "Request" "knob",
  .noat "Request" "seed",
  .noat "Request" "copies",
  .noat "Request" "automaton",
  .meth "Automaton" "need",
  .meth "Automaton" "__eq__",
  .meth "Automaton" "__str__",
  .meth "Request" "fits",
  .meth "Request" "need",
  .meth "Request" "entry",
  .meth "Request" "__eq__",
  .free "len",
  .free "isinstance",
  .free "all",
  .free "any",
  .free "abs",
  .free "max",
  .free "sorted",
  .free "int",
  .free "bool",
  .free "str",
  .free "list",
  .free "tuple",
  .free "set",
  .free "range",
  .free "enumerate",
  .free "zip",
  .int "_LONGEST_NAME" 8,
  .int "_MOST_STATES" 6,
  .int "_MOST_LETTERS" 5,
  .int "_MOST_TEXT" 16,
  .int "_MOST_ANSWER" 16,
  .int "_GREATEST_SEED" 9999,
  .int "_MOST_COPIES" 4,
  .str "_DIGITS" "0123456789",
  .glo "is_number",
  .glo "is_name",
  .glo "number_word",
  .glo "read_number",
  .glo "_is_table",
  .glo "_is_line",
  .glo "_are_closing",
  .glo "_needs",
  .glo "_state_word",
  .glo "read_request",
  .glo "_read_word",
  .glo "_is_text",
  .glo "_is_knob",
  .glo "_law_bag",
  .glo "_law_draw",
  .glo "_law_of",
  .glo "_law_like",
  .glo "_law_frozen",
  .glo "_law_lists",
  .glo "_law_signs",
  .glo "_law_string",
  .glo "_law_numeral",
  .glo "_law_read",
  .glo "_law_table",
  .glo "_law_word",
  .glo "_law_walked",
  .glo "_law_read_word",
  .glo "_law_reach",
  .glo "_law_need",
  .glo "_law_name",
  .glo "_law_values",
  .glo "_law_pages",
  .glo "_law_tool",
  .glo "_law_made",
  .glo "_law_line",
  .glo "_law_read_line",
  .glo "_law_told",
  .glo "_law_due",
  .glo "_law_read_so",
  .glo "_law_free",
  .glo "_law_bent",
  .glo "_law_needs_so",
  .glo "law"]
def hEx : List BF := [
  fun K => exfB K (cXA K) "part",
  fun K => exfB K (cXR K) "field",
  fun K => insB K (He.ga K "Automaton"),
  fun K => insB K (He.ga K "Request"),
  fun K => creadB K (cA K),
  fun K => cmetB K (cA K) "read",
  fun K => propB K (cR K) "possible"]
def hFn : List He5.DefA := [
  ⟨fun K => He.ma K (cXA K) "__init__", "__init__", "InvalidAutomaton.__init__", defArgs (inClass (top 3) 0), defBody (inClass (top 3) 0), defScope (inClass (top 3) 0), [], []⟩,
  ⟨fun K => He.ma K (cXR K) "__init__", "__init__", "InvalidRequest.__init__", defArgs (inClass (top 4) 0), defBody (inClass (top 4) 0), defScope (inClass (top 4) 0), [], []⟩,
  ⟨fun K => He.ma K (cA K) "__init__", "__init__", "Automaton.__init__", defArgs (inClass (top 15) 0), defBody (inClass (top 15) 0), defScope (inClass (top 15) 0), [.adr (fun K => He.dflAt ("Automaton", some "__init__") 0 K)], []⟩,
  ⟨fun K => He.ma K (cA K) "need", "need", "Automaton.need", defArgs (inClass (top 15) 4), defBody (inClass (top 15) 4), defScope (inClass (top 15) 4), [], []⟩,
  ⟨fun K => He5.wf K (cA K) "classmethod" "read", "read", "Automaton.read", defArgs (inClass (top 15) 7), defBody (inClass (top 15) 7), defScope (inClass (top 15) 7), [], []⟩,
  ⟨fun K => He.ma K (cA K) "__eq__", "__eq__", "Automaton.__eq__", defArgs (inClass (top 15) 8), defBody (inClass (top 15) 8), defScope (inClass (top 15) 8), [], []⟩,
  ⟨fun K => He.ma K (cA K) "__str__", "__str__", "Automaton.__str__", defArgs (inClass (top 15) 9), defBody (inClass (top 15) 9), defScope (inClass (top 15) 9), [], []⟩,
  ⟨fun K => He.ma K (cR K) "__init__", "__init__", "Request.__init__", defArgs (inClass (top 26) 0), defBody (inClass (top 26) 0), defScope (inClass (top 26) 0), [], [("knob", .str "best"), ("seed", .int 0), ("copies", .int 1), ("automaton", .non)]⟩,
  ⟨fun K => He5.wf K (cR K) "property" "possible", "possible", "Request.possible", defArgs (inClass (top 26) 1), defBody (inClass (top 26) 1), defScope (inClass (top 26) 1), [], []⟩,
  ⟨fun K => He.ma K (cR K) "fits", "fits", "Request.fits", defArgs (inClass (top 26) 2), defBody (inClass (top 26) 2), defScope (inClass (top 26) 2), [], []⟩,
  ⟨fun K => He.ma K (cR K) "need", "need", "Request.need", defArgs (inClass (top 26) 3), defBody (inClass (top 26) 3), defScope (inClass (top 26) 3), [], []⟩,
  ⟨fun K => He.ma K (cR K) "entry", "entry", "Request.entry", defArgs (inClass (top 26) 4), defBody (inClass (top 26) 4), defScope (inClass (top 26) 4), [], []⟩,
  ⟨fun K => He.ma K (cR K) "__eq__", "__eq__", "Request.__eq__", defArgs (inClass (top 26) 6), defBody (inClass (top 26) 6), defScope (inClass (top 26) 6), [], []⟩,
  ⟨fun K => He.ga K "is_number", "is_number", "is_number", defArgs (top 7), defBody (top 7), defScope (top 7), [], []⟩,
  ⟨fun K => He.ga K "is_name", "is_name", "is_name", defArgs (top 8), defBody (top 8), defScope (top 8), [], []⟩,
  ⟨fun K => He.ga K "number_word", "number_word", "number_word", defArgs (top 9), defBody (top 9), defScope (top 9), [], []⟩,
  ⟨fun K => He.ga K "read_number", "read_number", "read_number", defArgs (top 10), defBody (top 10), defScope (top 10), [], []⟩,
  ⟨fun K => He.ga K "_is_table", "_is_table", "_is_table", defArgs (top 16), defBody (top 16), defScope (top 16), [], []⟩,
  ⟨fun K => He.ga K "_is_line", "_is_line", "_is_line", defArgs (top 17), defBody (top 17), defScope (top 17), [], []⟩,
  ⟨fun K => He.ga K "_are_closing", "_are_closing", "_are_closing", defArgs (top 18), defBody (top 18), defScope (top 18), [], []⟩,
  ⟨fun K => He.ga K "_needs", "_needs", "_needs", defArgs (top 19), defBody (top 19), defScope (top 19), [], []⟩,
  ⟨fun K => He.ga K "_state_word", "_state_word", "_state_word", defArgs (top 20), defBody (top 20), defScope (top 20), [], []⟩,
  ⟨fun K => He.ga K "read_request", "read_request", "read_request", defArgs (top 27), defBody (top 27), defScope (top 27), [], []⟩,
  ⟨fun K => He.ga K "_read_word", "_read_word", "_read_word", defArgs (top 28), defBody (top 28), defScope (top 28), [], []⟩,
  ⟨fun K => He.ga K "_is_text", "_is_text", "_is_text", defArgs (top 29), defBody (top 29), defScope (top 29), [], []⟩,
  ⟨fun K => He.ga K "_is_knob", "_is_knob", "_is_knob", defArgs (top 30), defBody (top 30), defScope (top 30), [], []⟩,
  ⟨fun K => He.ga K "_law_bag", "_law_bag", "_law_bag", defArgs (top 32), defBody (top 32), defScope (top 32), [], []⟩,
  ⟨fun K => He.ga K "_law_draw", "_law_draw", "_law_draw", defArgs (top 33), defBody (top 33), defScope (top 33), [], []⟩,
  ⟨fun K => He.ga K "_law_of", "_law_of", "_law_of", defArgs (top 34), defBody (top 34), defScope (top 34), [], []⟩,
  ⟨fun K => He.ga K "_law_like", "_law_like", "_law_like", defArgs (top 35), defBody (top 35), defScope (top 35), [], []⟩,
  ⟨fun K => He.ga K "_law_frozen", "_law_frozen", "_law_frozen", defArgs (top 36), defBody (top 36), defScope (top 36), [], []⟩,
  ⟨fun K => He.ga K "_law_lists", "_law_lists", "_law_lists", defArgs (top 37), defBody (top 37), defScope (top 37), [], []⟩,
  ⟨fun K => He.ga K "_law_signs", "_law_signs", "_law_signs", defArgs (top 38), defBody (top 38), defScope (top 38), [], []⟩,
  ⟨fun K => He.ga K "_law_string", "_law_string", "_law_string", defArgs (top 39), defBody (top 39), defScope (top 39), [], []⟩,
  ⟨fun K => He.ga K "_law_numeral", "_law_numeral", "_law_numeral", defArgs (top 40), defBody (top 40), defScope (top 40), [], []⟩,
  ⟨fun K => He.ga K "_law_read", "_law_read", "_law_read", defArgs (top 41), defBody (top 41), defScope (top 41), [], []⟩,
  ⟨fun K => He.ga K "_law_table", "_law_table", "_law_table", defArgs (top 42), defBody (top 42), defScope (top 42), [], []⟩,
  ⟨fun K => He.ga K "_law_word", "_law_word", "_law_word", defArgs (top 43), defBody (top 43), defScope (top 43), [], []⟩,
  ⟨fun K => He.ga K "_law_walked", "_law_walked", "_law_walked", defArgs (top 44), defBody (top 44), defScope (top 44), [], []⟩,
  ⟨fun K => He.ga K "_law_read_word", "_law_read_word", "_law_read_word", defArgs (top 45), defBody (top 45), defScope (top 45), [], []⟩,
  ⟨fun K => He.ga K "_law_reach", "_law_reach", "_law_reach", defArgs (top 46), defBody (top 46), defScope (top 46), [], []⟩,
  ⟨fun K => He.ga K "_law_need", "_law_need", "_law_need", defArgs (top 47), defBody (top 47), defScope (top 47), [], []⟩,
  ⟨fun K => He.ga K "_law_name", "_law_name", "_law_name", defArgs (top 48), defBody (top 48), defScope (top 48), [], []⟩,
  ⟨fun K => He.ga K "_law_values", "_law_values", "_law_values", defArgs (top 49), defBody (top 49), defScope (top 49), [], []⟩,
  ⟨fun K => He.ga K "_law_pages", "_law_pages", "_law_pages", defArgs (top 50), defBody (top 50), defScope (top 50), [], []⟩,
  ⟨fun K => He.ga K "_law_tool", "_law_tool", "_law_tool", defArgs (top 51), defBody (top 51), defScope (top 51), [], []⟩,
  ⟨fun K => He.ga K "_law_made", "_law_made", "_law_made", defArgs (top 52), defBody (top 52), defScope (top 52), [], []⟩,
  ⟨fun K => He.ga K "_law_line", "_law_line", "_law_line", defArgs (top 53), defBody (top 53), defScope (top 53), [], []⟩,
  ⟨fun K => He.ga K "_law_read_line", "_law_read_line", "_law_read_line", defArgs (top 54), defBody (top 54), defScope (top 54), [], []⟩,
  ⟨fun K => He.ga K "_law_told", "_law_told", "_law_told", defArgs (top 55), defBody (top 55), defScope (top 55), [], []⟩,
  ⟨fun K => He.ga K "_law_due", "_law_due", "_law_due", defArgs (top 56), defBody (top 56), defScope (top 56), [], []⟩,
  ⟨fun K => He.ga K "_law_read_so", "_law_read_so", "_law_read_so", defArgs (top 57), defBody (top 57), defScope (top 57), [], []⟩,
  ⟨fun K => He.ga K "_law_free", "_law_free", "_law_free", defArgs (top 58), defBody (top 58), defScope (top 58), [], []⟩,
  ⟨fun K => He.ga K "_law_bent", "_law_bent", "_law_bent", defArgs (top 59), defBody (top 59), defScope (top 59), [], []⟩,
  ⟨fun K => He.ga K "_law_needs_so", "_law_needs_so", "_law_needs_so", defArgs (top 60), defBody (top 60), defScope (top 60), [], []⟩,
  ⟨fun K => He.ga K "law", "law", "law", defArgs (top 61), defBody (top 61), defScope (top 61), [], []⟩]
theorem txt_of {K : PySem.W.Frag} {h : Heap} {mg : Str → Option Value} (X : K.In h) (G : h.Ns mainGlobals mg) (c : SaysK hFa hEx hFn K) : Txt K mg where
    g_Automaton := He.glo_ok X G (c.fact 0 (f := .glo "Automaton") rfl)
    g_Request := He.glo_ok X G (c.fact 1 (f := .glo "Request") rfl)
    g_XA := He.glo_ok X G (c.fact 2 (f := .glo "InvalidAutomaton") rfl)
    g_XR := He.glo_ok X G (c.fact 3 (f := .glo "InvalidRequest") rfl)
    k_XA := He.keep_ok (c.fact 4 (f := .keep "InvalidAutomaton") rfl)
    k_XR := He.keep_ok (c.fact 5 (f := .keep "InvalidRequest") rfl)
    x_A := exfB_ok (c.bool 0 (b := fun K => exfB K (cXA K) "part") rfl)
    x_R := exfB_ok (c.bool 1 (b := fun K => exfB K (cXR K) "field") rfl)
    dx_A := ⟨c.def_ 0 (d := ⟨fun K => He.ma K (cXA K) "__init__", "__init__", "InvalidAutomaton.__init__", defArgs (inClass (top 3) 0), defBody (inClass (top 3) 0), defScope (inClass (top 3) 0), [], []⟩) rfl⟩
    dx_R := ⟨c.def_ 1 (d := ⟨fun K => He.ma K (cXR K) "__init__", "__init__", "InvalidRequest.__init__", defArgs (inClass (top 4) 0), defBody (inClass (top 4) 0), defScope (inClass (top 4) 0), [], []⟩) rfl⟩
    a_cls := He.cls_ok (c.fact 6 (f := .cls "Automaton") rfl)
    a_mk := He.mkr_ok (c.fact 7 (f := .mkr "Automaton") rfl)
    a_ty := insB_ok (c.bool 2 (b := fun K => insB K (He.ga K "Automaton")) rfl)
    r_cls := He.cls_ok (c.fact 8 (f := .cls "Request") rfl)
    r_mk := He.mkr_ok (c.fact 9 (f := .mkr "Request") rfl)
    r_ty := insB_ok (c.bool 3 (b := fun K => insB K (He.ga K "Request")) rfl)
    a_no_table := He.noat_ok (c.fact 10 (f := .noat "Automaton" "table") rfl)
    a_no_closing := He.noat_ok (c.fact 11 (f := .noat "Automaton" "closing") rfl)
    a_no_tokens := He.noat_ok (c.fact 12 (f := .noat "Automaton" "tokens") rfl)
    a_no__needs := He.noat_ok (c.fact 13 (f := .noat "Automaton" "_needs") rfl)
    r_no_name := He.noat_ok (c.fact 14 (f := .noat "Request" "name") rfl)
    r_no_text := He.noat_ok (c.fact 15 (f := .noat "Request" "text") rfl)
    r_no_most := He.noat_ok (c.fact 16 (f := .noat "Request" "most") rfl)
    r_no_knob := He.noat_ok (c.fact 17 (f := .noat "Request" "knob") rfl)
    r_no_seed := He.noat_ok (c.fact 18 (f := .noat "Request" "seed") rfl)
    r_no_copies := He.noat_ok (c.fact 19 (f := .noat "Request" "copies") rfl)
    r_no_automaton := He.noat_ok (c.fact 20 (f := .noat "Request" "automaton") rfl)
    a_m_need := He.meth_ok (c.fact 21 (f := .meth "Automaton" "need") rfl)
    a_m_eq := He.meth_ok (c.fact 22 (f := .meth "Automaton" "__eq__") rfl)
    a_m_str := He.meth_ok (c.fact 23 (f := .meth "Automaton" "__str__") rfl)
    r_m_fits := He.meth_ok (c.fact 24 (f := .meth "Request" "fits") rfl)
    r_m_need := He.meth_ok (c.fact 25 (f := .meth "Request" "need") rfl)
    r_m_entry := He.meth_ok (c.fact 26 (f := .meth "Request" "entry") rfl)
    r_m_eq := He.meth_ok (c.fact 27 (f := .meth "Request" "__eq__") rfl)
    a_cread := creadB_ok (c.bool 4 (b := fun K => creadB K (cA K)) rfl)
    a_read := cmetB_ok (c.bool 5 (b := fun K => cmetB K (cA K) "read") rfl)
    r_poss := propB_ok (c.bool 6 (b := fun K => propB K (cR K) "possible") rfl)
    da_init := ⟨c.def_ 2 (d := ⟨fun K => He.ma K (cA K) "__init__", "__init__", "Automaton.__init__", defArgs (inClass (top 15) 0), defBody (inClass (top 15) 0), defScope (inClass (top 15) 0), [.adr (fun K => He.dflAt ("Automaton", some "__init__") 0 K)], []⟩) rfl⟩
    da_need := ⟨c.def_ 3 (d := ⟨fun K => He.ma K (cA K) "need", "need", "Automaton.need", defArgs (inClass (top 15) 4), defBody (inClass (top 15) 4), defScope (inClass (top 15) 4), [], []⟩) rfl⟩
    da_read := ⟨c.def_ 4 (d := ⟨fun K => He5.wf K (cA K) "classmethod" "read", "read", "Automaton.read", defArgs (inClass (top 15) 7), defBody (inClass (top 15) 7), defScope (inClass (top 15) 7), [], []⟩) rfl⟩
    da_eq := ⟨c.def_ 5 (d := ⟨fun K => He.ma K (cA K) "__eq__", "__eq__", "Automaton.__eq__", defArgs (inClass (top 15) 8), defBody (inClass (top 15) 8), defScope (inClass (top 15) 8), [], []⟩) rfl⟩
    da_str := ⟨c.def_ 6 (d := ⟨fun K => He.ma K (cA K) "__str__", "__str__", "Automaton.__str__", defArgs (inClass (top 15) 9), defBody (inClass (top 15) 9), defScope (inClass (top 15) 9), [], []⟩) rfl⟩
    dr_init := ⟨c.def_ 7 (d := ⟨fun K => He.ma K (cR K) "__init__", "__init__", "Request.__init__", defArgs (inClass (top 26) 0), defBody (inClass (top 26) 0), defScope (inClass (top 26) 0), [], [("knob", .str "best"), ("seed", .int 0), ("copies", .int 1), ("automaton", .non)]⟩) rfl⟩
    dr_poss := ⟨c.def_ 8 (d := ⟨fun K => He5.wf K (cR K) "property" "possible", "possible", "Request.possible", defArgs (inClass (top 26) 1), defBody (inClass (top 26) 1), defScope (inClass (top 26) 1), [], []⟩) rfl⟩
    dr_fits := ⟨c.def_ 9 (d := ⟨fun K => He.ma K (cR K) "fits", "fits", "Request.fits", defArgs (inClass (top 26) 2), defBody (inClass (top 26) 2), defScope (inClass (top 26) 2), [], []⟩) rfl⟩
    dr_need := ⟨c.def_ 10 (d := ⟨fun K => He.ma K (cR K) "need", "need", "Request.need", defArgs (inClass (top 26) 3), defBody (inClass (top 26) 3), defScope (inClass (top 26) 3), [], []⟩) rfl⟩
    dr_entry := ⟨c.def_ 11 (d := ⟨fun K => He.ma K (cR K) "entry", "entry", "Request.entry", defArgs (inClass (top 26) 4), defBody (inClass (top 26) 4), defScope (inClass (top 26) 4), [], []⟩) rfl⟩
    dr_eq := ⟨c.def_ 12 (d := ⟨fun K => He.ma K (cR K) "__eq__", "__eq__", "Request.__eq__", defArgs (inClass (top 26) 6), defBody (inClass (top 26) 6), defScope (inClass (top 26) 6), [], []⟩) rfl⟩
    n_len := He.free_ok X G (c.fact 28 (f := .free "len") rfl)
    n_isinstance := He.free_ok X G (c.fact 29 (f := .free "isinstance") rfl)
    n_all := He.free_ok X G (c.fact 30 (f := .free "all") rfl)
    n_any := He.free_ok X G (c.fact 31 (f := .free "any") rfl)
    n_abs := He.free_ok X G (c.fact 32 (f := .free "abs") rfl)
    n_max := He.free_ok X G (c.fact 33 (f := .free "max") rfl)
    n_sorted := He.free_ok X G (c.fact 34 (f := .free "sorted") rfl)
    n_int := He.free_ok X G (c.fact 35 (f := .free "int") rfl)
    n_bool := He.free_ok X G (c.fact 36 (f := .free "bool") rfl)
    n_str := He.free_ok X G (c.fact 37 (f := .free "str") rfl)
    n_list := He.free_ok X G (c.fact 38 (f := .free "list") rfl)
    n_tuple := He.free_ok X G (c.fact 39 (f := .free "tuple") rfl)
    n_set := He.free_ok X G (c.fact 40 (f := .free "set") rfl)
    n_range := He.free_ok X G (c.fact 41 (f := .free "range") rfl)
    n_enumerate := He.free_ok X G (c.fact 42 (f := .free "enumerate") rfl)
    n_zip := He.free_ok X G (c.fact 43 (f := .free "zip") rfl)
    g_LONGEST_NAME := int_rel (He.int_ok X G (c.fact 44 (f := .int "_LONGEST_NAME" 8) rfl))
    g_MOST_STATES := int_rel (He.int_ok X G (c.fact 45 (f := .int "_MOST_STATES" 6) rfl))
    g_MOST_LETTERS := int_rel (He.int_ok X G (c.fact 46 (f := .int "_MOST_LETTERS" 5) rfl))
    g_MOST_TEXT := int_rel (He.int_ok X G (c.fact 47 (f := .int "_MOST_TEXT" 16) rfl))
    g_MOST_ANSWER := int_rel (He.int_ok X G (c.fact 48 (f := .int "_MOST_ANSWER" 16) rfl))
    g_GREATEST_SEED := int_rel (He.int_ok X G (c.fact 49 (f := .int "_GREATEST_SEED" 9999) rfl))
    g_MOST_COPIES := int_rel (He.int_ok X G (c.fact 50 (f := .int "_MOST_COPIES" 4) rfl))
    g_DIGITS := str_rel (He.str_ok X G (c.fact 51 (f := .str "_DIGITS" "0123456789") rfl))
    d_is_number := ⟨He.glo_ok X G (c.fact 52 (f := .glo "is_number") rfl), c.def_ 13 (d := ⟨fun K => He.ga K "is_number", "is_number", "is_number", defArgs (top 7), defBody (top 7), defScope (top 7), [], []⟩) rfl⟩
    d_is_name := ⟨He.glo_ok X G (c.fact 53 (f := .glo "is_name") rfl), c.def_ 14 (d := ⟨fun K => He.ga K "is_name", "is_name", "is_name", defArgs (top 8), defBody (top 8), defScope (top 8), [], []⟩) rfl⟩
    d_number_word := ⟨He.glo_ok X G (c.fact 54 (f := .glo "number_word") rfl), c.def_ 15 (d := ⟨fun K => He.ga K "number_word", "number_word", "number_word", defArgs (top 9), defBody (top 9), defScope (top 9), [], []⟩) rfl⟩
    d_read_number := ⟨He.glo_ok X G (c.fact 55 (f := .glo "read_number") rfl), c.def_ 16 (d := ⟨fun K => He.ga K "read_number", "read_number", "read_number", defArgs (top 10), defBody (top 10), defScope (top 10), [], []⟩) rfl⟩
    d__is_table := ⟨He.glo_ok X G (c.fact 56 (f := .glo "_is_table") rfl), c.def_ 17 (d := ⟨fun K => He.ga K "_is_table", "_is_table", "_is_table", defArgs (top 16), defBody (top 16), defScope (top 16), [], []⟩) rfl⟩
    d__is_line := ⟨He.glo_ok X G (c.fact 57 (f := .glo "_is_line") rfl), c.def_ 18 (d := ⟨fun K => He.ga K "_is_line", "_is_line", "_is_line", defArgs (top 17), defBody (top 17), defScope (top 17), [], []⟩) rfl⟩
    d__are_closing := ⟨He.glo_ok X G (c.fact 58 (f := .glo "_are_closing") rfl), c.def_ 19 (d := ⟨fun K => He.ga K "_are_closing", "_are_closing", "_are_closing", defArgs (top 18), defBody (top 18), defScope (top 18), [], []⟩) rfl⟩
    d__needs := ⟨He.glo_ok X G (c.fact 59 (f := .glo "_needs") rfl), c.def_ 20 (d := ⟨fun K => He.ga K "_needs", "_needs", "_needs", defArgs (top 19), defBody (top 19), defScope (top 19), [], []⟩) rfl⟩
    d__state_word := ⟨He.glo_ok X G (c.fact 60 (f := .glo "_state_word") rfl), c.def_ 21 (d := ⟨fun K => He.ga K "_state_word", "_state_word", "_state_word", defArgs (top 20), defBody (top 20), defScope (top 20), [], []⟩) rfl⟩
    d_read_request := ⟨He.glo_ok X G (c.fact 61 (f := .glo "read_request") rfl), c.def_ 22 (d := ⟨fun K => He.ga K "read_request", "read_request", "read_request", defArgs (top 27), defBody (top 27), defScope (top 27), [], []⟩) rfl⟩
    d__read_word := ⟨He.glo_ok X G (c.fact 62 (f := .glo "_read_word") rfl), c.def_ 23 (d := ⟨fun K => He.ga K "_read_word", "_read_word", "_read_word", defArgs (top 28), defBody (top 28), defScope (top 28), [], []⟩) rfl⟩
    d__is_text := ⟨He.glo_ok X G (c.fact 63 (f := .glo "_is_text") rfl), c.def_ 24 (d := ⟨fun K => He.ga K "_is_text", "_is_text", "_is_text", defArgs (top 29), defBody (top 29), defScope (top 29), [], []⟩) rfl⟩
    d__is_knob := ⟨He.glo_ok X G (c.fact 64 (f := .glo "_is_knob") rfl), c.def_ 25 (d := ⟨fun K => He.ga K "_is_knob", "_is_knob", "_is_knob", defArgs (top 30), defBody (top 30), defScope (top 30), [], []⟩) rfl⟩
    d__law_bag := ⟨He.glo_ok X G (c.fact 65 (f := .glo "_law_bag") rfl), c.def_ 26 (d := ⟨fun K => He.ga K "_law_bag", "_law_bag", "_law_bag", defArgs (top 32), defBody (top 32), defScope (top 32), [], []⟩) rfl⟩
    d__law_draw := ⟨He.glo_ok X G (c.fact 66 (f := .glo "_law_draw") rfl), c.def_ 27 (d := ⟨fun K => He.ga K "_law_draw", "_law_draw", "_law_draw", defArgs (top 33), defBody (top 33), defScope (top 33), [], []⟩) rfl⟩
    d__law_of := ⟨He.glo_ok X G (c.fact 67 (f := .glo "_law_of") rfl), c.def_ 28 (d := ⟨fun K => He.ga K "_law_of", "_law_of", "_law_of", defArgs (top 34), defBody (top 34), defScope (top 34), [], []⟩) rfl⟩
    d__law_like := ⟨He.glo_ok X G (c.fact 68 (f := .glo "_law_like") rfl), c.def_ 29 (d := ⟨fun K => He.ga K "_law_like", "_law_like", "_law_like", defArgs (top 35), defBody (top 35), defScope (top 35), [], []⟩) rfl⟩
    d__law_frozen := ⟨He.glo_ok X G (c.fact 69 (f := .glo "_law_frozen") rfl), c.def_ 30 (d := ⟨fun K => He.ga K "_law_frozen", "_law_frozen", "_law_frozen", defArgs (top 36), defBody (top 36), defScope (top 36), [], []⟩) rfl⟩
    d__law_lists := ⟨He.glo_ok X G (c.fact 70 (f := .glo "_law_lists") rfl), c.def_ 31 (d := ⟨fun K => He.ga K "_law_lists", "_law_lists", "_law_lists", defArgs (top 37), defBody (top 37), defScope (top 37), [], []⟩) rfl⟩
    d__law_signs := ⟨He.glo_ok X G (c.fact 71 (f := .glo "_law_signs") rfl), c.def_ 32 (d := ⟨fun K => He.ga K "_law_signs", "_law_signs", "_law_signs", defArgs (top 38), defBody (top 38), defScope (top 38), [], []⟩) rfl⟩
    d__law_string := ⟨He.glo_ok X G (c.fact 72 (f := .glo "_law_string") rfl), c.def_ 33 (d := ⟨fun K => He.ga K "_law_string", "_law_string", "_law_string", defArgs (top 39), defBody (top 39), defScope (top 39), [], []⟩) rfl⟩
    d__law_numeral := ⟨He.glo_ok X G (c.fact 73 (f := .glo "_law_numeral") rfl), c.def_ 34 (d := ⟨fun K => He.ga K "_law_numeral", "_law_numeral", "_law_numeral", defArgs (top 40), defBody (top 40), defScope (top 40), [], []⟩) rfl⟩
    d__law_read := ⟨He.glo_ok X G (c.fact 74 (f := .glo "_law_read") rfl), c.def_ 35 (d := ⟨fun K => He.ga K "_law_read", "_law_read", "_law_read", defArgs (top 41), defBody (top 41), defScope (top 41), [], []⟩) rfl⟩
    d__law_table := ⟨He.glo_ok X G (c.fact 75 (f := .glo "_law_table") rfl), c.def_ 36 (d := ⟨fun K => He.ga K "_law_table", "_law_table", "_law_table", defArgs (top 42), defBody (top 42), defScope (top 42), [], []⟩) rfl⟩
    d__law_word := ⟨He.glo_ok X G (c.fact 76 (f := .glo "_law_word") rfl), c.def_ 37 (d := ⟨fun K => He.ga K "_law_word", "_law_word", "_law_word", defArgs (top 43), defBody (top 43), defScope (top 43), [], []⟩) rfl⟩
    d__law_walked := ⟨He.glo_ok X G (c.fact 77 (f := .glo "_law_walked") rfl), c.def_ 38 (d := ⟨fun K => He.ga K "_law_walked", "_law_walked", "_law_walked", defArgs (top 44), defBody (top 44), defScope (top 44), [], []⟩) rfl⟩
    d__law_read_word := ⟨He.glo_ok X G (c.fact 78 (f := .glo "_law_read_word") rfl), c.def_ 39 (d := ⟨fun K => He.ga K "_law_read_word", "_law_read_word", "_law_read_word", defArgs (top 45), defBody (top 45), defScope (top 45), [], []⟩) rfl⟩
    d__law_reach := ⟨He.glo_ok X G (c.fact 79 (f := .glo "_law_reach") rfl), c.def_ 40 (d := ⟨fun K => He.ga K "_law_reach", "_law_reach", "_law_reach", defArgs (top 46), defBody (top 46), defScope (top 46), [], []⟩) rfl⟩
    d__law_need := ⟨He.glo_ok X G (c.fact 80 (f := .glo "_law_need") rfl), c.def_ 41 (d := ⟨fun K => He.ga K "_law_need", "_law_need", "_law_need", defArgs (top 47), defBody (top 47), defScope (top 47), [], []⟩) rfl⟩
    d__law_name := ⟨He.glo_ok X G (c.fact 81 (f := .glo "_law_name") rfl), c.def_ 42 (d := ⟨fun K => He.ga K "_law_name", "_law_name", "_law_name", defArgs (top 48), defBody (top 48), defScope (top 48), [], []⟩) rfl⟩
    d__law_values := ⟨He.glo_ok X G (c.fact 82 (f := .glo "_law_values") rfl), c.def_ 43 (d := ⟨fun K => He.ga K "_law_values", "_law_values", "_law_values", defArgs (top 49), defBody (top 49), defScope (top 49), [], []⟩) rfl⟩
    d__law_pages := ⟨He.glo_ok X G (c.fact 83 (f := .glo "_law_pages") rfl), c.def_ 44 (d := ⟨fun K => He.ga K "_law_pages", "_law_pages", "_law_pages", defArgs (top 50), defBody (top 50), defScope (top 50), [], []⟩) rfl⟩
    d__law_tool := ⟨He.glo_ok X G (c.fact 84 (f := .glo "_law_tool") rfl), c.def_ 45 (d := ⟨fun K => He.ga K "_law_tool", "_law_tool", "_law_tool", defArgs (top 51), defBody (top 51), defScope (top 51), [], []⟩) rfl⟩
    d__law_made := ⟨He.glo_ok X G (c.fact 85 (f := .glo "_law_made") rfl), c.def_ 46 (d := ⟨fun K => He.ga K "_law_made", "_law_made", "_law_made", defArgs (top 52), defBody (top 52), defScope (top 52), [], []⟩) rfl⟩
    d__law_line := ⟨He.glo_ok X G (c.fact 86 (f := .glo "_law_line") rfl), c.def_ 47 (d := ⟨fun K => He.ga K "_law_line", "_law_line", "_law_line", defArgs (top 53), defBody (top 53), defScope (top 53), [], []⟩) rfl⟩
    d__law_read_line := ⟨He.glo_ok X G (c.fact 87 (f := .glo "_law_read_line") rfl), c.def_ 48 (d := ⟨fun K => He.ga K "_law_read_line", "_law_read_line", "_law_read_line", defArgs (top 54), defBody (top 54), defScope (top 54), [], []⟩) rfl⟩
    d__law_told := ⟨He.glo_ok X G (c.fact 88 (f := .glo "_law_told") rfl), c.def_ 49 (d := ⟨fun K => He.ga K "_law_told", "_law_told", "_law_told", defArgs (top 55), defBody (top 55), defScope (top 55), [], []⟩) rfl⟩
    d__law_due := ⟨He.glo_ok X G (c.fact 89 (f := .glo "_law_due") rfl), c.def_ 50 (d := ⟨fun K => He.ga K "_law_due", "_law_due", "_law_due", defArgs (top 56), defBody (top 56), defScope (top 56), [], []⟩) rfl⟩
    d__law_read_so := ⟨He.glo_ok X G (c.fact 90 (f := .glo "_law_read_so") rfl), c.def_ 51 (d := ⟨fun K => He.ga K "_law_read_so", "_law_read_so", "_law_read_so", defArgs (top 57), defBody (top 57), defScope (top 57), [], []⟩) rfl⟩
    d__law_free := ⟨He.glo_ok X G (c.fact 91 (f := .glo "_law_free") rfl), c.def_ 52 (d := ⟨fun K => He.ga K "_law_free", "_law_free", "_law_free", defArgs (top 58), defBody (top 58), defScope (top 58), [], []⟩) rfl⟩
    d__law_bent := ⟨He.glo_ok X G (c.fact 92 (f := .glo "_law_bent") rfl), c.def_ 53 (d := ⟨fun K => He.ga K "_law_bent", "_law_bent", "_law_bent", defArgs (top 59), defBody (top 59), defScope (top 59), [], []⟩) rfl⟩
    d__law_needs_so := ⟨He.glo_ok X G (c.fact 93 (f := .glo "_law_needs_so") rfl), c.def_ 54 (d := ⟨fun K => He.ga K "_law_needs_so", "_law_needs_so", "_law_needs_so", defArgs (top 60), defBody (top 60), defScope (top 60), [], []⟩) rfl⟩
    d_law := ⟨He.glo_ok X G (c.fact 94 (f := .glo "law") rfl), c.def_ 55 (d := ⟨fun K => He.ga K "law", "law", "law", defArgs (top 61), defBody (top 61), defScope (top 61), [], []⟩) rfl⟩
abbrev RW : PySem.W.OpenLaw := PySem.Challenge.rw_answersalone_k12_whole_needs_of_requests
abbrev R : PySem.W.OpenRow := PySem.W.OpenLaw.row RW
def names1 : List PySem.Str := ["_wall", "InvalidError", "InvalidAutomaton", "InvalidRequest", "_LONGEST_NAME", "is_number", "is_name", "number_word", "read_number", "_MOST_STATES", "_MOST_LETTERS", "_DIGITS", "Automaton", "_is_table", "_is_line", "_are_closing", "_needs", "_state_word", "_MOST_TEXT", "_MOST_ANSWER", "_GREATEST_SEED", "_MOST_COPIES", "Request", "read_request", "_read_word", "_is_text", "_is_knob", "_law_bag"]
def names2 : List PySem.Str := ["_law_draw", "_law_of", "_law_like", "_law_frozen", "_law_lists", "_law_signs", "_law_string", "_law_numeral", "_law_read", "_law_table", "_law_word", "_law_walked", "_law_read_word", "_law_reach", "_law_need", "_law_name", "_law_values", "_law_pages", "_law_tool", "_law_made", "_law_line", "_law_read_line", "_law_told", "_law_due", "_law_read_so", "_law_free", "_law_bent", "_law_needs_so"]
def names : List PySem.Str := names1 ++ names2
abbrev hk : PySem.W.Hook := hookK hFa hEx hFn
def ob (s : PySem.W.SharedT) : He.AlD := obsKG hFa hEx hFn (HandSHeadRun.getT s)
theorem ob_eq (s : PySem.W.SharedT) : ob s = hk.obs s.abs := obsKG_eq (HandSHeadRun.getT_eq s)
end K12
namespace K12
open PySem PySem.Spec PyProof.Rows L2
theorem run (w : World) : HandSHeadRun.RunEq R (PySem.W.view R.prog [61]) hk ob 20000 names w := by
  intro os
  kernel_rfl
end K12
namespace K12
open PySem PySem.Spec PyProof.Rows L2
theorem facts {P : Program} {w : World} {K : PySem.W.Frag} {h : Heap} {mg : Str → Option Value} {f : Addr} (X : K.In h) (G : h.Ns mainGlobals mg) (hfa : mg ("law" : Str) = some (.ref f)) (c : SaysK hFa hEx hFn K) :
    ∃ fd : FuncData, (∀ (s : Shared) (v : Value), BindsTo s fd ⟨[v], []⟩ [("_law_script", v)]) ∧ ∀ base : Heap, K.In base → base.Ns mainGlobals mg → FnOk P w K mg base CX0 12 f fd ["_law_script"] (sp_law K) := by
  have T : Txt K mg := txt_of X G c
  obtain ⟨fd, F⟩ := T.d_law.f
  have e := hfa.symm.trans T.d_law.g
  cases e
  have b := FunD.bindsA (ps := ["_law_script"]) F fun _ _ _ _ _ _ us hl => match us, hl with | [_], _ => rfl
  exact ⟨fd, fun s v => b s [v] rfl, fun base _ _ => c_law T F⟩
end K12
open PySem PySem.W PySem.Calls PyProof.Rows
theorem PySem.Challenge.cw_answersalone_k12_whole_needs_of_requests_holds : PySem.Challenge.rw_answersalone_k12_whole_needs_of_requests.Holds := by
  w_on; o_law
  refine HandSHeadRun.head_any (r := OpenLaw.row PySem.Challenge.rw_answersalone_k12_whole_needs_of_requests) (q := view (OpenLaw.row PySem.Challenge.rw_answersalone_k12_whole_needs_of_requests).prog [61]) (H := K12.hk) (ob := K12.ob) (M := 20000) (loose := K12.names) (d := HandSHeadRun.topDef (OpenLaw.row PySem.Challenge.rw_answersalone_k12_whole_needs_of_requests).prog 61) (kwd := []) K12.ob_eq
    (by kernel_rfl) (fun s => by kernel_rfl) K12.run (by kernel_rfl) (by kernel_rfl) (by kernel_rfl) (by rfl) (by first | assumption | decide +kernel) (by decide +kernel) ⟨rfl, rfl, rfl, rfl, rfl, by decide +kernel⟩ ?hw ?hc
  case hw => w_witness2
  case hc =>
    refine L2.walk_ofE (l := PySem.Challenge.rw_answersalone_k12_whole_needs_of_requests) (n := 63) (k := 12) (x := "_law_script") (CX := L2.CX0) rfl (by decide) (by kernel_rfl) ⟨rfl, by decide, by decide⟩ ?F (fun _ _ _ _ z => z)
    intro w mg fa h Y G hmg0
    obtain ⟨K, KX, c⟩ := Y
    have hmg : mg ("law" : PySem.Str) = some (.ref fa) := by
      have e : (HandSHeadRun.topDef (OpenLaw.row PySem.Challenge.rw_answersalone_k12_whole_needs_of_requests).prog 61).name = ("law" : PySem.Str) := by kernel_rfl
      rw [← e]
      exact hmg0
    obtain ⟨fd, hb, hF⟩ := K12.facts (P := (PySem.Challenge.rw_answersalone_k12_whole_needs_of_requests).prog) (w := w) KX G hmg c
    exact ⟨K, fd, K12.sp_law K, KX, hb, fun H a ns hl _ hS => ⟨a, ns, rfl, hS, fun _ => rfl⟩, hF⟩
