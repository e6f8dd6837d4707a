import PyProof.Rows.All
import Wide.All
import OpenK.AllK
import Wide.FinOn
import KE.KStateDown
import KE.KDictList
import HandS.ForMost
import HandS.ForExc
import HandS.More
import HandS.Conv
import HandS.ListItems
import HandS.IsInst
import HandS.TupAny
import HandS.ExcInit
import HandS.ExcField
import HandS.Wide
import HandS.Zip
import HandS.Flow
import HandS.Evl
import HandS.Defaults
import HandS.Head0
import HandS.Head1
import HandS.Head2
import HandS.HeadEnd
import HandS.HeadHook1
import HandS.HeadHook2
import PySem.Challenge.RW_foreknown_k83_whole_interpreted
set_option Elab.async false
set_option linter.all false
set_option maxRecDepth 100000
set_option maxHeartbeats 4000000
/-! ## The text by places -/
namespace Fk
open PySem PySem.Spec PyProof.Rows L2
def top (i : Nat) : Stmt := PySem.Challenge.pw_foreknown_k83_whole_interpreted.main.body.getD i (.Pass ⟨0, 0, 0, 0⟩)
/-! ## Rules of our own -/
section
variable {X : Cx}
/-- a ** b of any size within the line -/
def CPowW (i j : Int) : Prop := 0 ≤ j ∧ (Builtin.Int.intBits i : Int) * j ≤ 2 ^ 27
theorem op_powW : OpR X (binaryOp .Pow) (rI CPowW fun i j => .int (i ^ j.toNat)) := opI fun _ _ _ _ _ _ _ hc q => pow_int hc.1 hc.2 q
end
/-- what is asked of an own class whose plain functions are read off it -/
structure ClsF (K : PySem.W.Frag) (C : Addr) (m : Str) (u : Value) : Prop where
  rd : PySem.W.readsIn K C (.type "type") = true
  ga : PySem.W.specialIn K (.ref C) "__getattribute__" = some (some (.builtin "type.__getattribute__"))
  at_ : PySem.W.findCls K (.ref C) (.type "type") m = some (.val u)
section
variable {X : Cx} {CX : CXT} {k : Nat} {f C : Addr} {fd : FuncData} {ps : List Str} {sp : Sp} {dvs : List V} {ds : List Value} {E : XK} {x m : Str} {p pos apos : Pos} {e o : Expr} {es : List Expr} {ta : TE} {t : TA}
/-- C.m(e, ..), C an own class, m a plain def of it -/
theorem pe_clsfn {pl : Sem Bool} (c : ClsF X.K C m (.ref f)) (kp : PySem.W.keepIn X.K (.ref f) = true) (F : FnOk X.prog X.w X.K X.mg X.base CX k f fd ps sp) (hr : Room k X.A) (hg : Gl X x) (hm : X.mg x = some (.ref C)) (hb : Binds X.K fd ps ds) (hd : Vals dvs ds) (hx : Passes CX X E) (ha : PA X (e :: es) t)
    (hdb : (x == ("__debug__" : Str)) = false := by decide)
    (hst : starEach (e :: es) X.env = (false, eval e X.env) :: starEach es X.env := by rfl) (hpl : (backTo pos (starEach es X.env)).any (·.1) = false := by rfl)
    (ht : eval (.Call (.Attribute (.Name x p) m apos) (e :: es) [] pos) X.env = (do
      let ov ← eval (.Name x p) X.env
      standAt apos.atName
      let (f, first) ← holding [ov] (getMethod ov m pl)
      callWith pos f first (backTo pos (starEach (e :: es) X.env)) (backToKw pos (keywordEach [] X.env))) := by rfl) :
    PE X (.Call (.Attribute (.Name x p) m apos) (e :: es) [] pos) (tCall sp dvs E t) := by
  refine ⟨fun pins s σ H Q I h => ?_⟩
  refine PySem.W.methodCall_KW (ld_glob I hg hm ?_ hdb) ht
  refine PySem.W.method_cls I.kIn c.ga ?_
  refine PySem.W.cls_value I.kIn c.rd c.at_ rfl ?_
  refine PySem.W.callWith_K (h₀ := X.base) I.ok.mod.kin kp (thn (ha.run pos pins _ σ H _ (I.tok _) h) fun us s1 hh => ?_) hst hpl
  obtain ⟨vs, H1, I1, r1, q1⟩ := hh
  refine ⟨I1.kIn, ?_⟩
  exact run_fn F hr hb hd hx I1 r1 q1
/-- FE.__init__(self, ..), FE an own exception class over ValueError without an __init__ of its own -/
theorem pe_feinit {pl : Sem Bool} (c : ClsF X.K C "__init__" (.builtin "ValueError.__init__")) (hg : Gl X x) (hm : X.mg x = some (.ref C)) (ha : PA X (e :: es) t)
    (hdb : (x == ("__debug__" : Str)) = false := by decide)
    (he : starEach (e :: es) X.env = (false, eval e X.env) :: starEach es X.env := by rfl) (hpl : (backTo pos (starEach es X.env)).any (·.1) = false := by rfl)
    (ht : eval (.Call (.Attribute (.Name x p) "__init__" apos) (e :: es) [] pos) X.env = (do
      let ov ← eval (.Name x p) X.env
      standAt apos.atName
      let (f, first) ← holding [ov] (getMethod ov "__init__" pl)
      callWith pos f first (backTo pos (starEach (e :: es) X.env)) (backToKw pos (keywordEach [] X.env))) := by rfl) :
    PE X (.Call (.Attribute (.Name x p) "__init__" apos) (e :: es) [] pos) (tVeI X.K t) := by
  refine ⟨fun pins s σ H Q I h => ?_⟩
  refine PySem.W.methodCall_KW (ld_glob I hg hm ?_ hdb) ht
  refine PySem.W.method_cls I.kIn c.ga ?_
  refine PySem.W.cls_value I.kIn c.rd c.at_ rfl ?_
  show wpAny _ _ (callWith pos (Value.builtin "ValueError.__init__") [] (backTo pos (starEach (e :: es) X.env)) []) _ _ _
  refine PyProof.Rows.callWith_method1 (thn (ha.run pos pins _ σ H _ (I.tok _) h) fun us s1 ⟨vs, H1, I1, r1, a, C, ws, ev, hl, T, ea, q⟩ => ?_) he hpl
  subst ev
  cases r1 with
  | @cons _ u0 _ ur ra rw' =>
    obtain rfl : u0 = Value.ref a := ra
    have hlen : ur.length ≤ sizeLine := by
      rw [← Paired.length rw', sizeLine_eq]
      omega
    exact oinit_ok T I1 ea hlen fun s' J => ⟨.non, H1, J, rfl, q⟩
end
/-! list(d.values()) -/
def tListVals (te : TE) : TE := fun σ H Q => te σ H fun x H1 => ∃ (d : Addr) (kvs : List (Key × V)), x = .ref d ∧ H1 d = some (.dK kvs) ∧ ∀ q, H1 q = none → Q (.ref q) (upd H1 q (.lst (kvs.map (·.2))))
section
variable {X : Cx} {e : Expr} {te : TE} {p apos cpos pos : Pos}
theorem pe_listVals (hc : X.calm = true) (he : PE X e te) (hg : Gl X "list") (hm : X.mg "list" = none) (hv : bootBuiltins "list" = some (.type "list")) (hbase : attributeBase e "values" X.env (eval e X.env) = eval e X.env := by rfl) (hline : (apos.endLine == cpos.line) = true := by rfl)
    (hs : starEach [.Call (.Attribute e "values" apos) [] [] cpos] X.env = (false, eval (.Call (.Attribute e "values" apos) [] [] cpos) X.env) :: starEach [] X.env := by rfl) :
    PE X (.Call (.Name "list" p) [.Call (.Attribute e "values" apos) [] [] cpos] [] pos) (tListVals te) := by
  refine ⟨fun pins s σ H Q I hq => ?_⟩
  refine wpAny_Call_Name_kw (ld_blt I hg hm hv ?_)
  refine PyProof.Rows.callWith_type1 ?_ hs rfl
  rw [hs]
  show wpAny _ _ (spliced ((false, eval (.Call (.Attribute e "values" apos) [] [] cpos) X.env) :: backTo pos (starEach [] X.env))) _ _ s
  refine Calls.spliced_cons ?_
  refine wpAny_Call_method (T := "dict") (id := "dict.values") hbase rfl hline F.plainAttrs_dict F.slot_dict_values F.type_dict_values (thn (he.run pins s σ H _ I hq) fun u s1 ⟨x, H1, I1, rx, d, kvs, ex, hd, q⟩ => ?_)
  subst ex
  obtain rfl : u = Value.ref d := rx
  obtain ⟨hz, hs0, vs, kv, hdo⟩ := I1.hok d _ hd
  obtain ⟨ep, hat⟩ := hdo.dictAt
  have lk : kvs.length = vs.length := Paired.length kv
  have I2 : Inv X pins σ H1 { s1 with heap := s1.heap.push { cls := .type "dict_values", data := .fields #[.ref d] } } := I1.kept (t' := s1.toks) fun b ob q => Heap.get?_push_of_some _ q
  refine ⟨hdo.typeIs, hdo.mapOf.noDict, ?_⟩
  show wpAny _ _ (callWith cpos (.builtin "dict.values") [.ref d] [] []) _ X.xe s1
  refine method_meetsIn F.slot_dict_values F.entry_dict_values rfl (PySem.evalArgs_none ⟨rfl, hdo.typeIs, F.args_dict_values_1 _, _, meets_dict_values (mixKind X.prog X.w) d hs0, ⟨vs, hdo⟩, ?_⟩)
  refine Calls.spliced_nil ?_
  refine PySem.W.kdl_call (PySem.W.kdl_values (knd := mixKind X.prog X.w) (kvs := vs) (ep := ep)) (I1.ok.hd hc) ⟨⟨_, Heap.get?_push_size _ rfl, rfl, rfl⟩, hat.push _⟩ (by omega) fun h' tk acc c hk hS hacc => ?_
  refine ⟨.ref _, _, I2.laid hk (Nat.le_refl _) (show ObjOk X.prog X.w _ _ _ (.lst (kvs.map (·.2))) from ⟨?_, acc.toList, c, ?_, ?_⟩), rfl, q _ (I2.hok.fresh (Nat.le_refl _))⟩
  · rw [List.length_map]; exact hz
  · have el : acc.toList.length = acc.size := by simp
    refine vals_of_at (by rw [List.length_map, el, hacc.1, lk]) fun j x w h1 h2 => ?_
    obtain ⟨ky, hky⟩ := hacc.2 j w (by rw [← Array.getElem?_toList]; exact h2)
    rw [List.getElem?_map] at h1
    cases ej : kvs[j]? with
    | none => rw [ej] at h1; cases h1
    | some pk =>
      rw [ej] at h1
      obtain ⟨pk1, pk2⟩ := pk
      cases h1
      obtain ⟨u, e1, e2⟩ := kv_get kv ej
      rw [hky] at e1
      cases e1
      exact e2
  · rw [Array.toArray_toList]; exact hS
end
end Fk
set_option maxHeartbeats 0
namespace Fk
open PySem PySem.Spec PyProof.Rows L2
/-! ## The head: the facts, the hook -/
def df (a : Str × Option Str) (n q : Str) (st : Stmt) : He.DefD := ⟨a, n, q, defArgs st, defBody st, defScope st, [], []⟩
def fn0 : List He.DefD := [df ("lines_of", none) "lines_of" "lines_of" (top 11), df ("atoms_of", none) "atoms_of" "atoms_of" (top 12), df ("aim_of", none) "aim_of" "aim_of" (top 13), df ("function_by", none) "function_by" "function_by" (top 14), df ("is_number", none) "is_number" "is_number" (top 18), df ("is_narrow", none) "is_narrow" "is_narrow" (top 19), df ("parts_within", none) "parts_within" "parts_within" (top 20), df ("parts", none) "parts" "parts" (top 21), df ("kind_of", none) "kind_of" "kind_of" (top 22), df ("ask_place", none) "ask_place" "ask_place" (top 40), df ("op_of", none) "op_of" "op_of" (top 45), df ("params_counted", none) "params_counted" "params_counted" (top 47), df ("check_line", none) "check_line" "check_line" (top 48), df ("check_block", none) "check_block" "check_block" (top 49), df ("check", none) "check" "check" (top 50), df ("made_of", none) "made_of" "made_of" (top 61), df ("is_word", none) "is_word" "is_word" (top 62), df ("is_name", none) "is_name" "is_name" (top 63), df ("value_at_reading", none) "value_at" "value_at" (top 66), df ("read_value", none) "read_value" "read_value" (top 70)]
def fn1 : List He.DefD := [df ("name_of", none) "name_of" "name_of" (top 72), df ("read_atom", none) "read_atom" "read_atom" (top 73), df ("read_atoms", none) "read_atoms" "read_atoms" (top 74), df ("read_step", none) "read_step" "read_step" (top 75), df ("read_if", none) "read_if" "read_if" (top 76), df ("read_end", none) "read_end" "read_end" (top 77), df ("read_block", none) "read_block" "read_block" (top 78), df ("read_function", none) "read_function" "read_function" (top 79), df ("read", none) "read" "read" (top 80), df ("third_of", none) "third_of" "third_of" (top 82), df ("jar_at", none) "jar_at" "jar_at" (top 83), df ("jars_behind", none) "jars_behind" "jars_behind" (top 84), df ("rows_ahead", none) "rows_ahead" "rows_ahead" (top 85), df ("play", none) "play" "play" (top 86), df ("play_rows", none) "play_rows" "play_rows" (top 88), df ("again_rows", none) "again_rows" "again_rows" (top 89), df ("figure_rows", none) "figure_rows" "figure_rows" (top 90), df ("interpreter", none) "interpreter" "interpreter" (top 91), df ("value_at_runner", none) "value_at" "value_at" (top 94), df ("values_at", none) "values_at" "values_at" (top 96)]
def fn2 : List He.DefD := [df ("place_in", none) "place_in" "place_in" (top 97), df ("step_gone", none) "step_gone" "step_gone" (top 98), df ("block_chosen", none) "block_chosen" "block_chosen" (top 99), df ("end_gone", none) "end_gone" "end_gone" (top 100), df ("come_back", none) "come_back" "come_back" (top 101), df ("line_gone", none) "line_gone" "line_gone" (top 102), df ("at_last", none) "at_last" "at_last" (top 103), df ("run", none) "run" "run" (top 104), df ("_law_cells", none) "_law_cells" "_law_cells" (top 106), df ("_law_cell", none) "_law_cell" "_law_cell" (top 107), df ("_law_number", none) "_law_number" "_law_number" (top 108), df ("_law_spot", none) "_law_spot" "_law_spot" (top 109), df ("_law_jars", none) "_law_jars" "_law_jars" (top 110), df ("_law_command", none) "_law_command" "_law_command" (top 111), df ("_law_score", none) "_law_score" "_law_score" (top 112), df ("_law_whole", none) "_law_whole" "_law_whole" (top 113), df ("_law_same", none) "_law_same" "_law_same" (top 114), df ("law", none) "law" "law" (top 115), df ("Fault", some "__init__") "__init__" "Fault.__init__" (inClass (top 3) 0), df ("Op", some "__init__") "__init__" "Op.__init__" (inClass (top 24) 0)]
def fn3 : List He.DefD := [df ("Add", some "__init__") "__init__" "Add.__init__" (inClass (top 27) 0), df ("Add", some "told") "told" "Add.told" (inClass (top 27) 1), df ("Add", some "answer") "answer" "Op.answer" (inClass (top 24) 1), df ("Sub", some "__init__") "__init__" "Sub.__init__" (inClass (top 28) 0), df ("Sub", some "told") "told" "Sub.told" (inClass (top 28) 1), df ("Sub", some "answer") "answer" "Op.answer" (inClass (top 24) 1), df ("Mul", some "__init__") "__init__" "Mul.__init__" (inClass (top 29) 0), df ("Mul", some "told") "told" "Mul.told" (inClass (top 29) 1), df ("Mul", some "answer") "answer" "Op.answer" (inClass (top 24) 1), df ("Same", some "__init__") "__init__" "Same.__init__" (inClass (top 33) 0), df ("Same", some "told") "told" "Same.told" (inClass (top 33) 1), df ("Same", some "answer") "answer" "Op.answer" (inClass (top 24) 1), df ("Head", some "__init__") "__init__" "Head.__init__" (inClass (top 37) 0), df ("Head", some "told") "told" "Head.told" (inClass (top 37) 1), df ("Head", some "answer") "answer" "Op.answer" (inClass (top 24) 1), df ("Rest", some "__init__") "__init__" "Rest.__init__" (inClass (top 38) 0), df ("Rest", some "told") "told" "Rest.told" (inClass (top 38) 1), df ("Rest", some "answer") "answer" "Op.answer" (inClass (top 24) 1), df ("Many", some "__init__") "__init__" "Many.__init__" (inClass (top 39) 0), df ("Many", some "told") "told" "Many.told" (inClass (top 39) 1)]
def fn4 : List He.DefD := [df ("Many", some "answer") "answer" "Op.answer" (inClass (top 24) 1), df ("Item", some "__init__") "__init__" "Item.__init__" (inClass (top 41) 0), df ("Item", some "told") "told" "Item.told" (inClass (top 41) 1), df ("Item", some "answer") "answer" "Op.answer" (inClass (top 24) 1), df ("Put", some "__init__") "__init__" "Put.__init__" (inClass (top 42) 0), df ("Put", some "told") "told" "Put.told" (inClass (top 42) 1), df ("Put", some "answer") "answer" "Op.answer" (inClass (top 24) 1), df ("Field", some "__init__") "__init__" "Field.__init__" (inClass (top 43) 0), df ("Field", some "told") "told" "Field.told" (inClass (top 43) 1), df ("Field", some "answer") "answer" "Op.answer" (inClass (top 24) 1), df ("Signs", some "__init__") "__init__" "Signs.__init__" (inClass (top 65) 0), df ("Signs", some "take") "take" "Signs.take" (inClass (top 65) 1), df ("Signs", some "piece") "piece" "Signs.piece" (inClass (top 65) 2), df ("Signs", some "next_word") "next_word" "Signs.next_word" (inClass (top 65) 3), df ("Rows", some "__init__") "__init__" "Rows.__init__" (inClass (top 71) 0), df ("Rows", some "done") "done" "Rows.done" (inClass (top 71) 1), df ("Rows", some "words") "words" "Rows.words" (inClass (top 71) 2), df ("Place", some "__init__") "__init__" "Place.__init__" (inClass (top 93) 0)]
def fn : List He.DefD := fn0 ++ fn1 ++ fn2 ++ fn3 ++ fn4
def fa0 : List He.Fa := [.glo "lines_of", .glo "atoms_of", .glo "aim_of", .glo "function_by", .glo "is_number", .glo "is_narrow", .glo "parts_within", .glo "parts", .glo "kind_of", .glo "ask_place", .glo "op_of", .glo "params_counted", .glo "check_line", .glo "check_block", .glo "check", .glo "made_of", .glo "is_word", .glo "is_name", .glo "value_at_reading", .glo "read_value"]
def fa1 : List He.Fa := [.glo "name_of", .glo "read_atom", .glo "read_atoms", .glo "read_step", .glo "read_if", .glo "read_end", .glo "read_block", .glo "read_function", .glo "read", .glo "third_of", .glo "jar_at", .glo "jars_behind", .glo "rows_ahead", .glo "play", .glo "play_rows", .glo "again_rows", .glo "figure_rows", .glo "interpreter", .glo "value_at_runner", .glo "values_at"]
def fa2 : List He.Fa := [.glo "place_in", .glo "step_gone", .glo "block_chosen", .glo "end_gone", .glo "come_back", .glo "line_gone", .glo "at_last", .glo "run", .glo "_law_cells", .glo "_law_cell", .glo "_law_number", .glo "_law_spot", .glo "_law_jars", .glo "_law_command", .glo "_law_score", .glo "_law_whole", .glo "_law_same", .glo "law", .glo "Add", .glo "Sub"]
def fa3 : List He.Fa := [.glo "Mul", .glo "Same", .glo "Head", .glo "Rest", .glo "Many", .glo "Item", .glo "Put", .glo "Field", .glo "Signs", .glo "Rows", .glo "Place", .glo "Fault", .glo "ForeError", .glo "Op", .glo "Sure", .glo "Falling", .free "len", .free "isinstance", .free "range", .free "tuple"]
def fa4 : List He.Fa := [.free "list", .free "dict", .free "int", .free "bool", .free "str", .free "min", .free "all", .free "zip", .int "TOP" 1000000000000000000, .int "PARTS" 60, .int "MOST_SIGNS" 8, .int "MOST_PARTS" 60, .int "MOST_PARAMS" 6, .int "MOST_LINES" 60, .int "MOST_IFS" 8, .int "MOST_FUNCTIONS" 200, .str "LETTERS" "abcdefghijklmnopqrstuvwxyz", .str "FIGURES" "0123456789", .cls "Add", .mkr "Add"]
def fa5 : List He.Fa := [.cls "Sub", .mkr "Sub", .cls "Mul", .mkr "Mul", .cls "Same", .mkr "Same", .cls "Head", .mkr "Head", .cls "Rest", .mkr "Rest", .cls "Many", .mkr "Many", .cls "Item", .mkr "Item", .cls "Put", .mkr "Put", .cls "Field", .mkr "Field", .cls "Signs", .mkr "Signs"]
def fa6 : List He.Fa := [.cls "Rows", .mkr "Rows", .cls "Place", .mkr "Place", .noat "Add" "word", .noat "Add" "many", .noat "Add" "kinds", .noat "Sub" "word", .noat "Sub" "many", .noat "Sub" "kinds", .noat "Mul" "word", .noat "Mul" "many", .noat "Mul" "kinds", .noat "Same" "word", .noat "Same" "many", .noat "Same" "kinds", .noat "Head" "word", .noat "Head" "many", .noat "Head" "kinds", .noat "Rest" "word"]
def fa7 : List He.Fa := [.noat "Rest" "many", .noat "Rest" "kinds", .noat "Many" "word", .noat "Many" "many", .noat "Many" "kinds", .noat "Item" "word", .noat "Item" "many", .noat "Item" "kinds", .noat "Put" "word", .noat "Put" "many", .noat "Put" "kinds", .noat "Field" "word", .noat "Field" "many", .noat "Field" "kinds", .noat "Signs" "text", .noat "Signs" "at", .noat "Signs" "room", .noat "Rows" "rows", .noat "Rows" "next_row", .noat "Place" "things"]
def fa8 : List He.Fa := [.noat "Place" "block", .noat "Place" "gone", .noat "Fault" "word", .meth "Op" "__init__", .meth "Add" "__init__", .meth "Add" "told", .meth "Add" "answer", .meth "Sub" "__init__", .meth "Sub" "told", .meth "Sub" "answer", .meth "Mul" "__init__", .meth "Mul" "told", .meth "Mul" "answer", .meth "Same" "__init__", .meth "Same" "told", .meth "Same" "answer", .meth "Head" "__init__", .meth "Head" "told", .meth "Head" "answer", .meth "Rest" "__init__"]
def fa9 : List He.Fa := [.meth "Rest" "told", .meth "Rest" "answer", .meth "Many" "__init__", .meth "Many" "told", .meth "Many" "answer", .meth "Item" "__init__", .meth "Item" "told", .meth "Item" "answer", .meth "Put" "__init__", .meth "Put" "told", .meth "Put" "answer", .meth "Field" "__init__", .meth "Field" "told", .meth "Field" "answer", .meth "Signs" "__init__", .meth "Signs" "take", .meth "Signs" "piece", .meth "Signs" "next_word", .meth "Rows" "__init__", .meth "Rows" "done"]
def fa10 : List He.Fa := [.meth "Rows" "words", .meth "Place" "__init__", .exm "Fault" "Fault" true]
def fa : List He.Fa := fa0 ++ fa1 ++ fa2 ++ fa3 ++ fa4 ++ fa5 ++ fa6 ++ fa7 ++ fa8 ++ fa9 ++ fa10
/-- an own exception class over ValueError's -/
def oexB (K : PySem.W.Frag) (C : Addr) : Bool := match K.lookup C with
  | some ⟨.type "type", _, .cls cd, sl⟩ => (match cd.mro, sl.toList with
    | .ref C' :: bm, [_, _, _, _, some (.builtin n), _] => decide (C' = C) && (decide (n = "ValueError.__new__") && (!cd.hasDel && (cd.hasDict && PySem.HandSPX.refsVE bm)))
    | _, _ => false)
  | _ => false
theorem oexB_ok {K : PySem.W.Frag} {C : Addr} (q : oexB K C = true) : ∃ nm q N bs bm sn sub ab col dd k0 k1 k2 k3 k5, K.lookup C = some (excClassObj nm q C N bs bm true sn sub ab col dd k0 k1 k2 k3 k5 "ValueError.__new__") ∧ PySem.HandSPX.refsVE bm = true := by
  unfold oexB at q
  split at q
  · rename_i dd cd sl ho
    split at q
    · rename_i C' bm k0 k1 k2 k3 n k5 hm hs
      simp only [Bool.and_eq_true, decide_eq_true_eq, Bool.not_eq_true'] at q
      obtain ⟨rfl, rfl, hdel, hdd, ht⟩ := q
      obtain ⟨nm, bs, mro, ns, qn, hd, sn, sub, ab, col, del⟩ := cd
      dsimp only at hm hdel hdd
      subst hm hdel hdd
      have hsl : sl = #[k0, k1, k2, k3, some (.builtin "ValueError.__new__"), k5] := by
        obtain ⟨l⟩ := sl
        simp only at hs
        rw [hs]
      subst hsl
      exact ⟨nm, qn, ns, bs, bm, sn, sub, ab, col, dd, k0, k1, k2, k3, k5, ho, ht⟩
    · cases q
  · cases q
def clsFB (K : PySem.W.Frag) (C : Addr) (m : Str) (u : Value) : Bool := PySem.W.readsIn K C (.type "type") && (He.eqO (PySem.W.specialIn K (.ref C) "__getattribute__") (some (some (.builtin "type.__getattribute__"))) && match PySem.W.findCls K (.ref C) (.type "type") m with
  | some (.val v) => decide (v = u)
  | _ => false)
theorem clsFB_ok {K : PySem.W.Frag} {C : Addr} {m : Str} {u : Value} (h : clsFB K C m u = true) : ClsF K C m u := by
  obtain ⟨h1, h⟩ := He.ba h
  obtain ⟨h2, h3⟩ := He.ba h
  refine ⟨h1, He.eqO_ok h2, ?_⟩
  split at h3
  · rename_i v e
    rw [e, of_decide_eq_true h3]
  · cases h3
/-- further facts -/
def exK (K : PySem.W.Frag) : Bool := oexB K (He.ga K "Fault") && (He.eqO (PySem.W.findIn K (.ref (He.ga K "Fault")) "__setattr__") (some (some (.builtin "object.__setattr__"))) && (decide (PySem.W.subIn K (.ref (He.ga K "Fault")) (.type "BaseException") = some true) && (decide (PySem.W.typeIn K (.ref (He.ga K "Fault")) = some (.type "type")) &&
  (PySem.W.keepIn K (.ref (He.ga K "Fault")) && (He.eqO (PySem.W.findIn K (.ref (He.ga K "Fault")) "__init__") (some (some (.ref (He.ma K (He.ga K "Fault") "__init__")))) && (decide (PySem.W.typeIn K (.ref (He.ma K (He.ga K "Fault") "__init__")) = some (.type "function")) && (xfB K (He.ga K "Fault") &&
  (clsFB K (He.ga K "ForeError") "__init__" (.builtin "ValueError.__init__") && (clsFB K (He.ga K "Op") "__init__" (.ref (He.ma K (He.ga K "Op") "__init__")) && (clsFB K (He.ga K "Sure") "__init__" (.ref (He.ma K (He.ga K "Op") "__init__")) &&
  clsFB K (He.ga K "Falling") "__init__" (.ref (He.ma K (He.ga K "Op") "__init__"))))))))))))
/-- what an object names, for our names alone -/
def refsX (o : Obj) : List Addr := match o.data with
  | .dict es _ => es.toList.flatMap fun e => He.refV e.val
  | .func fd => He.refV fd.code
  | .cls cd => [cd.ns]
  | _ => []
def nextX (g : Addr → Option Obj) (as : List Addr) : List Addr := as.flatMap fun a => match g a with
  | some o => refsX o
  | none => []
def asX (g : Addr → Option Obj) : List Addr :=
  let a1 := nextX g [mainGlobals]
  let a2 := nextX g a1
  let a3 := nextX g a2
  let a4 := nextX g a3
  mainGlobals :: cStatics :: (a1 ++ (a2 ++ (a3 ++ a4)))
def obsX (K : PySem.W.Frag) : He.AlD := ((fa.all fun f => f.ok K) && ((fn.all fun d => d.ok K) && exK K), fn.map fun d => He.fnW K d.at_)
def SaysX (K : PySem.W.Frag) : Prop := obsX K = He.valD fn
def hk : PySem.W.Hook where
  α := He.AlD
  obs := fun s => obsX (He.frG s.heap.get? (asX s.heap.get?))
  val := fun _ => He.valD fn
  says := fun _ h => ∃ K : PySem.W.Frag, K.In h ∧ SaysX K
  of := fun _ _ e => ⟨_, He.frG_in, e⟩
  keeps := fun _ _ _ ⟨K, hK, c⟩ k => ⟨K, PySem.W.Frag.In.keeps hK k, c⟩
abbrev R : PySem.W.OpenRow := PySem.W.OpenLaw.row PySem.Challenge.rw_foreknown_k83_whole_interpreted
def ob (s : PySem.W.SharedT) : He.AlD := obsX (He.frG (HandSHeadRun.getT s) (asX (HandSHeadRun.getT s)))
theorem ob_eq (s : PySem.W.SharedT) : ob s = hk.obs s.abs := by
  have e : HandSHeadRun.getT s = s.abs.heap.get? := funext fun a => HandSHeadRun.getT_eq s a
  unfold ob
  rw [e]
  rfl
def names0 : List PySem.Str := [("_wall" : PySem.Str), ("ForeError" : PySem.Str), ("Fault" : PySem.Str), ("NoOp" : PySem.Str), ("NoText" : PySem.Str), ("Twice" : PySem.Str), ("Unbound" : PySem.Str), ("NoFunction" : PySem.Str), ("WrongCount" : PySem.Str), ("lines_of" : PySem.Str), ("atoms_of" : PySem.Str), ("aim_of" : PySem.Str), ("function_by" : PySem.Str), ("TOP" : PySem.Str), ("PARTS" : PySem.Str), ("is_number" : PySem.Str), ("is_narrow" : PySem.Str), ("parts_within" : PySem.Str), ("parts" : PySem.Str), ("kind_of" : PySem.Str), ("Op" : PySem.Str), ("Falling" : PySem.Str), ("Sure" : PySem.Str), ("Add" : PySem.Str), ("Sub" : PySem.Str), ("Mul" : PySem.Str)]
def names1 : List PySem.Str := [("Div" : PySem.Str), ("Rem" : PySem.Str), ("Less" : PySem.Str), ("Same" : PySem.Str), ("Down" : PySem.Str), ("KindOf" : PySem.Str), ("Front" : PySem.Str), ("Head" : PySem.Str), ("Rest" : PySem.Str), ("Many" : PySem.Str), ("ask_place" : PySem.Str), ("Item" : PySem.Str), ("Put" : PySem.Str), ("Field" : PySem.Str), ("SetIn" : PySem.Str), ("op_of" : PySem.Str), ("params_counted" : PySem.Str), ("check_line" : PySem.Str), ("check_block" : PySem.Str), ("check" : PySem.Str), ("LETTERS" : PySem.Str), ("FIGURES" : PySem.Str), ("MOST_SIGNS" : PySem.Str), ("MOST_FIGURES" : PySem.Str), ("MOST_PARTS" : PySem.Str), ("MOST_PARAMS" : PySem.Str)]
def names2 : List PySem.Str := [("MOST_LINES" : PySem.Str), ("MOST_IFS" : PySem.Str), ("MOST_FUNCTIONS" : PySem.Str), ("made_of" : PySem.Str), ("is_word" : PySem.Str), ("is_name" : PySem.Str), ("number_of" : PySem.Str), ("Signs" : PySem.Str), ("value_at" : PySem.Str), ("value_at_reading" : PySem.Str), ("row_at" : PySem.Str), ("record_at" : PySem.Str), ("read_value" : PySem.Str), ("Rows" : PySem.Str), ("name_of" : PySem.Str), ("read_atom" : PySem.Str), ("read_atoms" : PySem.Str), ("read_step" : PySem.Str), ("read_if" : PySem.Str), ("read_end" : PySem.Str), ("read_block" : PySem.Str), ("read_function" : PySem.Str), ("read" : PySem.Str), ("third_of" : PySem.Str), ("jar_at" : PySem.Str), ("jars_behind" : PySem.Str)]
def names3 : List PySem.Str := [("rows_ahead" : PySem.Str), ("play" : PySem.Str), ("play_rows" : PySem.Str), ("again_rows" : PySem.Str), ("figure_rows" : PySem.Str), ("interpreter" : PySem.Str), ("Place" : PySem.Str), ("value_at_runner" : PySem.Str), ("values_at" : PySem.Str), ("place_in" : PySem.Str), ("step_gone" : PySem.Str), ("block_chosen" : PySem.Str), ("end_gone" : PySem.Str), ("come_back" : PySem.Str), ("line_gone" : PySem.Str), ("at_last" : PySem.Str), ("run" : PySem.Str), ("_law_cells" : PySem.Str), ("_law_cell" : PySem.Str), ("_law_number" : PySem.Str), ("_law_spot" : PySem.Str), ("_law_jars" : PySem.Str), ("_law_command" : PySem.Str), ("_law_score" : PySem.Str), ("_law_whole" : PySem.Str), ("_law_same" : PySem.Str)]
def names : List PySem.Str := names0 ++ names1 ++ names2 ++ names3

end Fk
set_option maxHeartbeats 0
namespace Fk
open PySem PySem.Spec PyProof.Rows L2
/-- what the top leaves: the looks -/
theorem runA (w : World) (os : OsState) : (HandSHeadRun.endF (HandSHeadRun.stepQ (HandSHeadRun.denQ HandSHeadRun.tabQ) R.prog w) 20000 R.prog w os).map (fun s => (HandSHeadRun.looksF R.prog (PySem.W.boot_heap w.params) s.abs, HandSHeadRun.seenQ (PySem.W.view R.prog [115]) names (importedModules R.prog.main.body) (fun s => PySem.W.xlAt (PySem.W.view R.prog [115]) [] s && PySem.W.recOk R.toRowW.records s) s.abs)) =
    some (true, PySem.W.openGood (PySem.W.view R.prog [115]) names) := by
  kernel_rfl
/-- what the top leaves: the facts -/
theorem runB (w : World) (os : OsState) : (HandSHeadRun.endF (HandSHeadRun.stepQ (HandSHeadRun.denQ HandSHeadRun.tabQ) R.prog w) 20000 R.prog w os).map ob = some (hk.val w) := by
  kernel_rfl
theorem run (w : World) : HandSHeadRun.RunEq R (PySem.W.view R.prog [115]) hk ob 20000 names w := by
  intro os
  have a := runA w os
  have b := runB w os
  show (HandSHeadRun.endF (HandSHeadRun.stepQ (HandSHeadRun.denQ HandSHeadRun.tabQ) R.prog w) 20000 R.prog w os).map _ = _
  generalize HandSHeadRun.endF (HandSHeadRun.stepQ (HandSHeadRun.denQ HandSHeadRun.tabQ) R.prog w) 20000 R.prog w os = x at a b
  cases x with
  | none => cases a
  | some s =>
    have a := Option.some.inj a
    have b := Option.some.inj b
    show some (_, _, _) = _
    rw [b, (Prod.mk.inj a).1, (Prod.mk.inj a).2]
end Fk
set_option maxHeartbeats 4000000
/-! ## Data, what is known of the top, callees in bundles -/
namespace Fk
open PySem PySem.Spec PyProof.Rows L2
/-- data: numbers, texts, rows, records -/
inductive D where
  | num (n : Int) | word (x : Str) | row (l : List D) | rcd (l : List (Str × D))
  deriving Inhabited
section
variable (K : PySem.W.Frag) (R : Addr → Prop) (H : Hp)
mutual
/-- v stands for the data d in H; records lie in R alone -/
inductive Rep : D → V → Prop
  | num (n : Int) : Rep (.num n) (.int n)
  | word (x : Str) : Rep (.word x) (.str x)
  | row {l : List D} {a : Addr} {xs : List V} : SqT K H a xs → RepL l xs → Rep (.row l) (.ref a)
  | rcd {l : List (Str × D)} {a : Addr} {kvs : List (Key × V)} : R a → H a = some (.dK kvs) → RepK l kvs → Rep (.rcd l) (.ref a)
inductive RepL : List D → List V → Prop
  | nil : RepL [] []
  | cons {d : D} {v : V} {ds : List D} {vs : List V} : Rep d v → RepL ds vs → RepL (d :: ds) (v :: vs)
inductive RepK : List (Str × D) → List (Key × V) → Prop
  | nil : RepK [] []
  | cons {k : Str} {d : D} {v : V} {ds : List (Str × D)} {vs : List (Key × V)} : Rep d v → RepK ds vs → RepK ((k, d) :: ds) ((.inr k, v) :: vs)
end
end
theorem SqT.mono {K : PySem.W.Frag} {H H' : Hp} {a : Addr} {xs : List V} (h : ∀ b u, H b = some u → (∃ ys, u = .tup ys) ∨ (∃ o w, u = .frz o w) → H' b = some u) (t : SqT K H a xs) : SqT K H' a xs := by
  rcases t with (t | ⟨o, t⟩) | t
  · exact .inl (.inl (h _ _ t (.inl ⟨_, rfl⟩)))
  · exact .inl (.inr ⟨o, h _ _ t (.inr ⟨_, _, rfl⟩)⟩)
  · exact .inr t
theorem Same.seqT {K : PySem.W.Frag} {H H' : Hp} {a : Addr} {xs : List V} (e : Same H H') (h : SqT K H a xs) : SqT K H' a xs := SqT.mono (fun b u q _ => e b u q) h
theorem seqT {K : PySem.W.Frag} {H H' : Hp} {a : Addr} {xs : List V} (e : Same H H') (h : SqT K H a xs) : SqT K H' a xs := Same.seqT e h
/-- what of a heap the data leans on -/
structure Kept (R : Addr → Prop) (H H' : Hp) : Prop where
  tup : ∀ b u, H b = some u → (∃ ys, u = .tup ys) ∨ (∃ o w, u = .frz o w) → H' b = some u
  rcd : ∀ b kvs, R b → H b = some (.dK kvs) → H' b = some (.dK kvs)
theorem Kept.of_same {R : Addr → Prop} {H H' : Hp} (e : Same H H') : Kept R H H' := ⟨fun b u q _ => e b u q, fun b kvs _ q => e b _ q⟩
theorem Kept.refl {R : Addr → Prop} {H : Hp} : Kept R H H := .of_same (Same.refl H)
theorem Kept.trans {R : Addr → Prop} {H H1 H2 : Hp} (a : Kept R H H1) (b : Kept R H1 H2) : Kept R H H2 :=
  ⟨fun c u q z => b.tup c u (a.tup c u q z) z, fun c kvs r q => b.rcd c kvs r (a.rcd c kvs r q)⟩
theorem Same.new {H : Hp} {p : Addr} {o : HO} (h : H p = none) : Same H (upd H p o) := fun b u e => by
  rw [upd_ne (ne_of_none e h)]
  exact e
/-- an object that is no tuple, no frozen one, no record of R is written -/
theorem Kept.upd {R : Addr → Prop} {H : Hp} {p : Addr} {o : HO} (h1 : ∀ u, H p = some u → ¬((∃ ys, u = .tup ys) ∨ (∃ o w, u = .frz o w))) (h2 : ¬ R p) : Kept R H (upd H p o) :=
  ⟨fun b u q z => by
    rw [upd_ne]
    · exact q
    · rintro rfl
      exact h1 u q z, fun b kvs r q => by
    rw [upd_ne]
    · exact q
    · rintro rfl
      exact h2 r⟩
section
variable {K : PySem.W.Frag} {R R' : Addr → Prop} {H H' : Hp}
mutual
theorem Rep.mono (e : Kept R H H') : ∀ {d : D} {v : V}, Rep K R H d v → Rep K R H' d v
  | _, _, .num n => .num n
  | _, _, .word x => .word x
  | _, _, .row h r => .row (SqT.mono e.tup h) (RepL.mono e r)
  | _, _, .rcd q h r => .rcd q (e.rcd _ _ q h) (RepK.mono e r)
theorem RepL.mono (e : Kept R H H') : ∀ {d : List D} {v : List V}, RepL K R H d v → RepL K R H' d v
  | _, _, .nil => .nil
  | _, _, .cons h r => .cons (Rep.mono e h) (RepL.mono e r)
theorem RepK.mono (e : Kept R H H') : ∀ {d : List (Str × D)} {v : List (Key × V)}, RepK K R H d v → RepK K R H' d v
  | _, _, .nil => .nil
  | _, _, .cons h r => .cons (Rep.mono e h) (RepK.mono e r)
end
mutual
theorem Rep.imp (e : ∀ a kvs, R a → H a = some (.dK kvs) → R' a) : ∀ {d : D} {v : V}, Rep K R H d v → Rep K R' H d v
  | _, _, .num n => .num n
  | _, _, .word x => .word x
  | _, _, .row h r => .row h (RepL.imp e r)
  | _, _, .rcd q h r => .rcd (e _ _ q h) h (RepK.imp e r)
theorem RepL.imp (e : ∀ a kvs, R a → H a = some (.dK kvs) → R' a) : ∀ {d : List D} {v : List V}, RepL K R H d v → RepL K R' H d v
  | _, _, .nil => .nil
  | _, _, .cons h r => .cons (Rep.imp e h) (RepL.imp e r)
theorem RepK.imp (e : ∀ a kvs, R a → H a = some (.dK kvs) → R' a) : ∀ {d : List (Str × D)} {v : List (Key × V)}, RepK K R H d v → RepK K R' H d v
  | _, _, .nil => .nil
  | _, _, .cons h r => .cons (Rep.imp e h) (RepK.imp e r)
end
theorem Rep.same (e : Same H H') {d : D} {v : V} (h : Rep K R H d v) : Rep K R H' d v := h.mono (.of_same e)
theorem RepL.same (e : Same H H') {d : List D} {v : List V} (h : RepL K R H d v) : RepL K R H' d v := h.mono (.of_same e)
theorem RepK.same (e : Same H H') {d : List (Str × D)} {v : List (Key × V)} (h : RepK K R H d v) : RepK K R H' d v := h.mono (.of_same e)
theorem RepL.len : ∀ {ds : List D} {vs : List V}, RepL K R H ds vs → vs.length = ds.length
  | _, _, .nil => rfl
  | _, _, .cons _ r => congrArg (· + 1) r.len
theorem RepK.len : ∀ {ds : List (Str × D)} {vs : List (Key × V)}, RepK K R H ds vs → vs.length = ds.length
  | _, _, .nil => rfl
  | _, _, .cons _ r => congrArg (· + 1) r.len
theorem RepL.get : ∀ {ds : List D} {vs : List V} {i : Nat} {d : D}, RepL K R H ds vs → ds[i]? = some d → ∃ v, vs[i]? = some v ∧ Rep K R H d v
  | _, _, _, _, .nil, h => by cases h
  | _, _, 0, _, .cons h _, e => by cases e; exact ⟨_, rfl, h⟩
  | _, _, i + 1, _, .cons _ r, e => r.get (i := i) e
theorem RepL.get' : ∀ {ds : List D} {vs : List V} {i : Nat} {v : V}, RepL K R H ds vs → vs[i]? = some v → ∃ d, ds[i]? = some d ∧ Rep K R H d v
  | _, _, _, _, .nil, h => by cases h
  | _, _, 0, _, .cons h _, e => by cases e; exact ⟨_, rfl, h⟩
  | _, _, i + 1, _, .cons _ r, e => r.get' (i := i) e
theorem RepL.append : ∀ {ds es : List D} {vs us : List V}, RepL K R H ds vs → RepL K R H es us → RepL K R H (ds ++ es) (vs ++ us)
  | _, _, _, _, .nil, s => s
  | _, _, _, _, .cons h r, s => .cons h (r.append s)
theorem RepL.take : ∀ {ds : List D} {vs : List V} (n : Nat), RepL K R H ds vs → RepL K R H (ds.take n) (vs.take n)
  | _, _, 0, _ => .nil
  | _, _, _ + 1, .nil => .nil
  | _, _, n + 1, .cons h r => .cons h (r.take n)
theorem RepL.drop : ∀ {ds : List D} {vs : List V} (n : Nat), RepL K R H ds vs → RepL K R H (ds.drop n) (vs.drop n)
  | _, _, 0, h => h
  | _, _, _ + 1, .nil => .nil
  | _, _, n + 1, .cons _ r => r.drop n
theorem RepK.val : ∀ {ds : List (Str × D)} {vs : List (Key × V)} {k : Str} {d : D}, RepK K R H ds vs → ds.lookup k = some d → ∃ v, valV vs (.inr k) = some v ∧ Rep K R H d v
  | _, _, _, _, .nil, h => by cases h
  | (k', d') :: ds, (_, v') :: vs, k, d, .cons h r, e => by
    by_cases q : k = k'
    · subst q
      rw [List.lookup_cons, beq_self_eq_true] at e
      cases e
      exact ⟨_, valV_pos rfl, h⟩
    · have hb : (k == k') = false := by simpa using q
      rw [List.lookup_cons, hb] at e
      obtain ⟨v, e1, e2⟩ := r.val e
      exact ⟨v, by rw [valV_neg (fun z => q (Sum.inr.inj z).symm)]; exact e1, e2⟩
theorem RepK.none : ∀ {ds : List (Str × D)} {vs : List (Key × V)} {k : Str}, RepK K R H ds vs → ds.lookup k = Option.none → valV vs (.inr k) = Option.none
  | _, _, _, .nil, _ => rfl
  | (k', d') :: ds, (_, v') :: vs, k, .cons h r, e => by
    by_cases q : k = k'
    · subst q
      rw [List.lookup_cons, beq_self_eq_true] at e
      cases e
    · have hb : (k == k') = false := by simpa using q
      rw [List.lookup_cons, hb] at e
      rw [valV_neg (fun z => q (Sum.inr.inj z).symm)]
      exact r.none e
theorem RepK.vals : ∀ {ds : List (Str × D)} {vs : List (Key × V)}, RepK K R H ds vs → RepL K R H (ds.map (·.2)) (vs.map (·.2))
  | _, _, .nil => .nil
  | _, _, .cons h r => .cons h r.vals
end
/-- a store into a table of names -/
def putS (ds : List (Str × D)) (k : Str) (d : D) : List (Str × D) := if (ds.lookup k).isSome then ds.map (fun p => if p.1 = k then (p.1, d) else p) else ds ++ [(k, d)]
section
variable {K : PySem.W.Frag} {R : Addr → Prop} {H : Hp}
theorem RepK.map : ∀ {ds : List (Str × D)} {vs : List (Key × V)} {k : Str} {d : D} {v : V}, RepK K R H ds vs → Rep K R H d v → RepK K R H (ds.map fun p => if p.1 = k then (p.1, d) else p) (vs.map fun kv => if kv.1 = (.inr k : Key) then (kv.1, v) else kv)
  | _, _, _, _, _, .nil, _ => .nil
  | (k', d') :: ds, (_, v') :: vs, k, d, v, .cons h r, s => by
    rw [List.map_cons, List.map_cons]
    by_cases q : k' = k
    · subst q
      rw [if_pos rfl, if_pos rfl]
      exact .cons s (r.map s)
    · rw [if_neg q, if_neg (fun z => q (Sum.inr.inj z))]
      exact .cons h (r.map s)
theorem RepK.snoc : ∀ {ds : List (Str × D)} {vs : List (Key × V)} {k : Str} {d : D} {v : V}, RepK K R H ds vs → Rep K R H d v → RepK K R H (ds ++ [(k, d)]) (vs ++ [(.inr k, v)])
  | _, _, _, _, _, .nil, s => .cons s .nil
  | _, _, _, _, _, .cons h r, s => .cons h (r.snoc s)
theorem RepK.put {ds : List (Str × D)} {vs : List (Key × V)} {k : Str} {d : D} {v : V} (r : RepK K R H ds vs) (s : Rep K R H d v) : RepK K R H (putS ds k d) (putK vs (.inr k) v) := by
  unfold putS putK
  rw [valV_any]
  cases e : ds.lookup k with
  | none =>
    rw [r.none e]
    exact r.snoc s
  | some d' =>
    obtain ⟨v', e1, _⟩ := r.val e
    rw [e1]
    exact r.map s
/-- a tuple's type -/
theorem SqT.ty {a : Addr} {xs : List V} (t : SqT K H a xs) : TyX K H (.ref a) (.type "tuple") := by
  rcases t with (t | ⟨o, t⟩) | ⟨o, its, n, t, c, _⟩
  · exact .base (.tup t)
  · exact .fTuple t
  · exact .kTuple t c
end
/-- the type's word of data -/
def D.ty : D → String
  | .num _ => "int"
  | .word _ => "str"
  | .row _ => "tuple"
  | .rcd _ => "dict"
theorem Rep.ty {K : PySem.W.Frag} {R : Addr → Prop} {H : Hp} {d : D} {v : V} (r : Rep K R H d v) : TyX K H v (.type d.ty) := by
  cases r with
  | num n => exact .base (.int n)
  | word x => exact .base (.str x)
  | row h _ => exact SqT.ty h
  | rcd _ h _ => exact .base (.dK h)
/-! ### isinstance against a built-in class -/
def rIsiB (K : PySem.W.Frag) (T : String) : List V → Hp → VK → Prop := fun xs H Q => ∃ (x : V) (t : String) (b : Bool), xs = [x, .ty T] ∧ TyX K H x (.type t) ∧ kitB t T = some b ∧ Q (.bl b) H
theorem call_isiB {X : Cx} (T : String) : CallR X (.builtin "isinstance") (rIsiB X.K T) := by
  intro pins s σ H xs us Q I r h
  obtain ⟨x, t, b, rfl, ty, e, q⟩ := h
  exact call_isi pins s σ H _ us Q I r ⟨x, .ty T, .type t, .type T, b, rfl, .ty T, ty, kit_ty e, q⟩
/-! ### a callee in a bundle -/
section
variable (P : Program) (w : World) (K : PySem.W.Frag) (mg : Str → Option Value) (base : Heap) (CX : CXT)
/-- a def of the text, by its name -/
def FnP (x nm : Str) (st : Stmt) : Prop := ∃ (f : Addr) (fd : FuncData), mg x = some (.ref f) ∧ FunD K nm nm (defArgs st) (defBody st) (defScope st) [] [] f fd
/-- a def that keeps its promise -/
def Cal (k : Nat) (x : Str) (ps : List Str) (sp : Sp) : Prop := ∃ (f : Addr) (fd : FuncData), FnOk P w K mg base CX k f fd ps sp ∧ mg x = some (.ref f) ∧ PySem.W.keepIn K (.ref f) = true ∧ Binds K fd ps []
/-- a class of the text, by its name -/
structure ClP (x : Str) (C : Addr) : Prop where
  mg : mg x = some (.ref C)
  cl : Cls K C
/-- a method of the class at C -/
def MeP (C : Addr) (m nm qual : Str) (st : Stmt) : Prop := ∃ (f : Addr) (fd : FuncData), Meth K C m f ∧ FunD K nm qual (defArgs st) (defBody st) (defScope st) [] [] f fd
def MeCal (k : Nat) (C : Addr) (m : Str) (ps : List Str) (sp : Sp) : Prop := ∃ (f : Addr) (fd : FuncData), FnOk P w K mg base CX k f fd ps sp ∧ Meth K C m f ∧ Binds K fd ps []
/-- a class that is made by its __init__ -/
def MkCal (k : Nat) (x : Str) (C : Addr) (ps : List Str) (sp : Sp) : Prop := ∃ (f : Addr) (fd : FuncData), FnOk P w K mg base CX k f fd ps sp ∧ mg x = some (.ref C) ∧ Mk K C f ∧ Binds K fd ps []
end
section
variable {P : Program} {w : World} {K : PySem.W.Frag} {mg : Str → Option Value} {base : Heap} {CX : CXT} {j k : Nat} {x m : Str} {C : Addr} {ps : List Str} {sp sp' : Sp}
theorem Cal.mono (h : Cal P w K mg base CX j x ps sp) (l : j ≤ k) : Cal P w K mg base CX k x ps sp := let ⟨f, fd, a, b⟩ := h; ⟨f, fd, a.mono l, b⟩
theorem MeCal.mono (h : MeCal P w K mg base CX j C m ps sp) (l : j ≤ k) : MeCal P w K mg base CX k C m ps sp := let ⟨f, fd, a, b⟩ := h; ⟨f, fd, a.mono l, b⟩
theorem MkCal.mono (h : MkCal P w K mg base CX j x C ps sp) (l : j ≤ k) : MkCal P w K mg base CX k x C ps sp := let ⟨f, fd, a, b⟩ := h; ⟨f, fd, a.mono l, b⟩
theorem Cal.imp (h : Cal P w K mg base CX k x ps sp) (i : ∀ vs H Q E, sp' vs H Q E → sp vs H Q E) : Cal P w K mg base CX k x ps sp' := let ⟨f, fd, a, b⟩ := h; ⟨f, fd, a.imp i, b⟩
theorem MeCal.imp (h : MeCal P w K mg base CX k C m ps sp) (i : ∀ vs H Q E, sp' vs H Q E → sp vs H Q E) : MeCal P w K mg base CX k C m ps sp' := let ⟨f, fd, a, b⟩ := h; ⟨f, fd, a.imp i, b⟩
end
section
variable {X : Cx} {CX : CXT} {k : Nat} {C : Addr} {ps : List Str} {sp : Sp} {E : XK} {x m : Str} {p pos apos : Pos} {e o : Expr} {es : List Expr} {ta : TE} {t : TA}
theorem pe_cal (c : Cal X.prog X.w X.K X.mg X.base CX k x ps sp) (hr : Room k X.A) (hx : Passes CX X E) (ha : PA X (e :: es) t) (hg : Gl X x := by rfl) (hdb : (x == ("__debug__" : Str)) = false := by decide)
    (he : starEach (e :: es) X.env = (false, eval e X.env) :: starEach es X.env := by rfl) (hpl : (backTo pos (starEach es X.env)).any (·.1) = false := by rfl) : PE X (.Call (.Name x p) (e :: es) [] pos) (tCall sp [] E t) := by
  obtain ⟨f, fd, F, hm, hk, hb⟩ := c
  exact pe_call F hr hg hm hk hb .nil hx ha hdb he hpl
theorem pe_cal0 (c : Cal X.prog X.w X.K X.mg X.base CX k x ps sp) (hr : Room k X.A) (hx : Passes CX X E) (hg : Gl X x := by rfl) (hdb : (x == ("__debug__" : Str)) = false := by decide) : PE X (.Call (.Name x p) [] [] pos) (tCall sp [] E tNil) := by
  obtain ⟨f, fd, F, hm, hk, hb⟩ := c
  exact pe_call0 F hr hg hm hk hb .nil hx hdb
theorem pe_mcal {pl : Sem Bool} (c : MeCal X.prog X.w X.K X.mg X.base CX k C m ps sp) (cl : Cls X.K C) (hr : Room k X.A) (hx : Passes CX X E) (he : PE X o ta) (ha : PA X (e :: es) t)
    (hst : starEach (e :: es) X.env = (false, eval e X.env) :: starEach es X.env := by rfl) (hpl : (backTo pos (starEach es X.env)).any (·.1) = false := by rfl)
    (ht : eval (.Call (.Attribute o m apos) (e :: es) [] pos) X.env = (do
      let ov ← eval o X.env
      standAt apos.atName
      let (f, first) ← holding [ov] (getMethod ov m pl)
      callWith pos f first (backTo pos (starEach (e :: es) X.env)) (backToKw pos (keywordEach [] X.env))) := by rfl) :
    PE X (.Call (.Attribute o m apos) (e :: es) [] pos) (tMeth C m sp [] E ta t) := by
  obtain ⟨f, fd, F, M, hb⟩ := c
  exact pe_meth he cl M F hr hb .nil hx ha hst hpl ht
theorem pe_mcal0 {pl : Sem Bool} (c : MeCal X.prog X.w X.K X.mg X.base CX k C m ps sp) (cl : Cls X.K C) (hr : Room k X.A) (hx : Passes CX X E) (he : PE X o ta)
    (ht : eval (.Call (.Attribute o m apos) [] [] pos) X.env = (do
      let ov ← eval o X.env
      standAt apos.atName
      let (f, first) ← holding [ov] (getMethod ov m pl)
      callWith pos f first (backTo pos (starEach [] X.env)) (backToKw pos (keywordEach [] X.env))) := by rfl) :
    PE X (.Call (.Attribute o m apos) [] [] pos) (tMeth C m sp [] E ta tNil) := by
  obtain ⟨f, fd, F, M, hb⟩ := c
  exact pe_meth0 he cl M F hr hb .nil hx ht
theorem pe_mk (c : MkCal X.prog X.w X.K X.mg X.base CX k x C ps sp) (hr : Room (k + 1) X.A) (hx : Passes CX X E) (ha : PA X (e :: es) t) (hg : Gl X x := by rfl) (hdb : (x == ("__debug__" : Str)) = false := by decide)
    (he : starEach (e :: es) X.env = (false, eval e X.env) :: starEach es X.env := by rfl) (hpl : (backTo pos (starEach es X.env)).any (·.1) = false := by rfl) : PE X (.Call (.Name x p) (e :: es) [] pos) (tMake C sp [] E t) := by
  obtain ⟨f, fd, F, hm, M, hb⟩ := c
  exact pe_make M F hr hg hm hb .nil hx ha hdb he hpl
theorem pe_mk0 (c : MkCal X.prog X.w X.K X.mg X.base CX k x C ps sp) (hr : Room (k + 1) X.A) (hx : Passes CX X E) (hg : Gl X x := by rfl) (hdb : (x == ("__debug__" : Str)) = false := by decide) : PE X (.Call (.Name x p) [] [] pos) (tMake C sp [] E tNil) := by
  obtain ⟨f, fd, F, hm, M, hb⟩ := c
  exact pe_make0 M F hr hg hm hb .nil hx hdb
/-- a whole-number constant of the module, a text of it -/
theorem pe_gint {i : Int} (h : ∃ t, X.mg x = some (.int i t)) (hg : Gl X x := by rfl) (hd : (x == ("__debug__" : Str)) = false := by decide) : PE X (.Name x p) (tC (.int i)) := by
  obtain ⟨t, h⟩ := h
  exact pe_glob hg h ⟨t, rfl⟩ hd
theorem pe_gstr {z : Str} (h : ∃ t, X.mg x = some (.str z t)) (hg : Gl X x := by rfl) (hd : (x == ("__debug__" : Str)) = false := by decide) : PE X (.Name x p) (tC (.str z)) := by
  obtain ⟨t, h⟩ := h
  exact pe_glob hg h ⟨t, rfl⟩ hd
end
/-! ### a def's promise by its body -/
section
variable {P : Program} {w : World} {K : PySem.W.Frag} {mg : Str → Option Value} {base : Heap} {CX : CXT}
theorem FnP.cal {x nm : Str} {st : Stmt} {N ps : List Str} {k : Nat} {sp : Sp} (F : FnP K mg x nm st) (S : FnScope N ps (defScope st))
    (hb : ∀ (kV doc pm : Value) (an : Option Addr) (cdv ct : Value) (us : List Value), us.length = ps.length → bindArgs (PySem.W.fnOf nm nm (defArgs st) (defBody st) (defScope st) .none kV doc pm an cdv ct) ⟨us, []⟩ = pure (ps.zip us))
    (len : ∀ vs H Q E, sp vs H Q E → vs.length = ps.length)
    (hbody : ∀ (f : Addr) (cdv : Value) (A : Around) (outer : List Env) (s : Shared) (H : Hp) (vs : List V) (Q : VK) (E : XK), Room k (A.deeper (envOfC nm (defScope st) s.heap.objs.size f cdv)) → sp vs H Q E →
      ∃ t, PSs (cxOf CX P w K mg base N nm (defScope st) f cdv A outer s H E) (defBody st) t ∧ t { nx := fun _ H' => Q .non H', rt := Q } (start N vs) H) : Cal P w K mg base CX (k + 1) x ps sp := by
  obtain ⟨f, fd, hm, F⟩ := F
  exact ⟨f, fd, F.ok S len (fun cdv A outer s H vs Q E => hbody f cdv A outer s H vs Q E), hm, F.kp, F.bindsN hb⟩
theorem MeP.cal {C : Addr} {m nm qual : Str} {st : Stmt} {N ps : List Str} {k : Nat} {sp : Sp} (F : MeP K C m nm qual st) (S : FnScope N ps (defScope st))
    (hb : ∀ (kV doc pm : Value) (an : Option Addr) (cdv ct : Value) (us : List Value), us.length = ps.length → bindArgs (PySem.W.fnOf nm qual (defArgs st) (defBody st) (defScope st) .none kV doc pm an cdv ct) ⟨us, []⟩ = pure (ps.zip us))
    (len : ∀ vs H Q E, sp vs H Q E → vs.length = ps.length)
    (hbody : ∀ (f : Addr) (cdv : Value) (A : Around) (outer : List Env) (s : Shared) (H : Hp) (vs : List V) (Q : VK) (E : XK), Room k (A.deeper (envOfC qual (defScope st) s.heap.objs.size f cdv)) → sp vs H Q E →
      ∃ t, PSs (cxOf CX P w K mg base N qual (defScope st) f cdv A outer s H E) (defBody st) t ∧ t { nx := fun _ H' => Q .non H', rt := Q } (start N vs) H) : MeCal P w K mg base CX (k + 1) C m ps sp := by
  obtain ⟨f, fd, hm, F⟩ := F
  exact ⟨f, fd, F.ok S len (fun cdv A outer s H vs Q E => hbody f cdv A outer s H vs Q E), hm, F.bindsN hb⟩
end
/-- the module's plain names -/
structure Fx (mg : Str → Option Value) : Prop where
  len : mg "len" = none
  isinstance : mg "isinstance" = none
  range : mg "range" = none
  tuple : mg "tuple" = none
  list : mg "list" = none
  dict : mg "dict" = none
  int : mg "int" = none
  bool : mg "bool" = none
  str : mg "str" = none
  min : mg "min" = none
  all : mg "all" = none
  zip : mg "zip" = none
  TOP : ∃ t, mg "TOP" = some (.int 1000000000000000000 t)
  PARTS : ∃ t, mg "PARTS" = some (.int 60 t)
  LETTERS : ∃ t, mg "LETTERS" = some (.str "abcdefghijklmnopqrstuvwxyz" t)
  FIGURES : ∃ t, mg "FIGURES" = some (.str "0123456789" t)
  MOST_SIGNS : ∃ t, mg "MOST_SIGNS" = some (.int 8 t)
  MOST_PARTS : ∃ t, mg "MOST_PARTS" = some (.int 60 t)
  MOST_PARAMS : ∃ t, mg "MOST_PARAMS" = some (.int 6 t)
  MOST_LINES : ∃ t, mg "MOST_LINES" = some (.int 60 t)
  MOST_IFS : ∃ t, mg "MOST_IFS" = some (.int 8 t)
  MOST_FUNCTIONS : ∃ t, mg "MOST_FUNCTIONS" = some (.int 200 t)
end Fk
set_option maxHeartbeats 4000000
namespace Fk
open PySem PySem.Spec PyProof.Rows L2 HT
section
open PySem.SeqAt
open PySem.AutoSeq1 (wpAny_loadPart')
open PySem.MeetsSeq PySem.MeetsSeq2 PySem.MeetsSeq3
theorem list_extend_tup (l : Addr) (items : Array Value) (n : Nat) (b : Addr) (items2 : Array Value) (n2 : Nat) (dd2 : Option Addr) (sl2 : Array (Option Value)) (hs0 : ¬(!items.isEmpty && Builtin.List.listTooLong (items.size + items2.size)) = true) (hs1 : items.size ≤ sizeLine) (hs2 : items.size + items2.size ≤ sizeLine + 1) :
    Meets (Builtin.«list.extend» ⟨[.ref l, .ref b], []⟩) (fun _ R s => s.heap.get? l = some { cls := .type "list", dict := none, data := .seq items n, slots := #[] } ∧ s.heap.get? b = some { cls := .type "tuple", dict := dd2, data := .seq items2 n2, slots := sl2 } ∧ R (.ok (.ret Value.none)) { s with heap := s.heap.update l (Obj.mapSeq fun x => x ++ items2), toks := s.toks }) :=
  .of_wp fun prog w A R s h => by
    obtain ⟨hp, g, d, tk, os⟩ := s; obtain ⟨hl, hb, h⟩ := h; have f1 := PySem.AutoSeq1.idx_int; have f2 := PySem.AutoSeq1.sub_tuple_tuple; have f3 := PySem.AutoSeq1.sub_list_list; have f4 := PySem.AutoSeq1.sub_tuple_list; have f5 := PySem.AutoSeq1.sub_list_tuple;
    have hz' : (items ++ items2).size ≤ sizeLine + 1 := by rw [Array.size_append]; exact hs2
    wp_walk using (wpAny_updateSeq hl rfl (hz := hs1) (_hz' := hz')), wpAny_loadPart' hl, wpAny_loadPart' hb; exact ⟨_, rfl, h⟩
end
section
variable {X : Cx}
/-- xs.extend(t), t a tuple -/
def rExtendT (K : PySem.W.Frag) : V → List V → Hp → VK → Prop := fun x vs H Q => ∃ l b xs zs, x = .ref l ∧ vs = [.ref b] ∧ H l = some (.lst xs) ∧ SqT K H b zs ∧ xs.length + zs.length ≤ sizeLine ∧ Q .non (upd H l (.lst (xs ++ zs)))
theorem mt_extendT : MtM X "list.extend" (rExtendT X.K) := by
  intro pins s σ H x vs v us Q I rx rv h
  obtain ⟨l, b, xs, zs, rfl, rfl, hH, hB, hz, q⟩ := h
  cases rx
  obtain ⟨u, rfl, ru⟩ := rv.one
  cases ru
  obtain ⟨z, its, n, r, hl, e⟩ := I.lstM hH
  obtain ⟨its2, r2, ht2, z2⟩ := I.tuple hB
  obtain ⟨⟨cls2, dd2, data2, sl2⟩, ho2, hc2, n2, hd2⟩ := id ht2
  simp only at hc2 hd2
  subst hc2 hd2
  have hl2 := r2.length
  have hsz : its.toArray.size + its2.toArray.size ≤ sizeLine := by rw [List.size_toArray, List.size_toArray]; omega
  have hlong : ¬ (!its.toArray.isEmpty && Builtin.List.listTooLong (its.toArray.size + its2.toArray.size)) = true := by
    rw [notLongL hsz, Bool.and_false]
    exact Bool.false_ne_true
  refine call_meets F.slot_list_extend ⟨_, e, rfl⟩ F.entry_list_extend (F.args_list_extend_2 _ _)
    (list_extend_tup l its.toArray n b its2.toArray n2 dd2 sl2 hlong (by rw [List.size_toArray]; omega) (by omega)) ⟨e, ho2, ?_⟩
  refine ⟨.non, _, I.lset (its' := its ++ its2) hH e (by simp) (r.append r2) ?_, rfl, q⟩
  rw [List.length_append]
  omega
end
end Fk
set_option maxHeartbeats 4000000
/-! ## The small defs of values -/
namespace Fk
open PySem PySem.Spec PyProof.Rows L2
def D.kids : D → List D
  | .row l => l
  | .rcd l => l.map (·.2)
  | _ => []
mutual
def D.parts : D → Nat
  | .num _ => 1
  | .word _ => 1
  | .row l => 1 + partsL l
  | .rcd l => 1 + partsK l
def partsL : List D → Nat
  | [] => 0
  | d :: r => d.parts + partsL r
def partsK : List (Str × D) → Nat
  | [] => 0
  | (_, d) :: r => d.parts + partsK r
end
mutual
def D.depth : D → Nat
  | .num _ => 0
  | .word _ => 0
  | .row l => 1 + depthL l
  | .rcd l => 1 + depthK l
def depthL : List D → Nat
  | [] => 0
  | d :: r => max d.depth (depthL r)
def depthK : List (Str × D) → Nat
  | [] => 0
  | (_, d) :: r => max d.depth (depthK r)
end
theorem partsK_eq : ∀ l : List (Str × D), partsK l = partsL (l.map (·.2))
  | [] => rfl
  | (_, d) :: r => by
    show d.parts + partsK r = d.parts + partsL (r.map (·.2))
    rw [partsK_eq r]
theorem D.parts_eq (d : D) : d.parts = 1 + partsL d.kids := by
  cases d with
  | num n => rfl
  | word x => rfl
  | row l =>
    unfold D.parts
    rfl
  | rcd l =>
    show D.parts (.rcd l) = 1 + partsL (l.map (·.2))
    unfold D.parts
    rw [partsK_eq]
theorem depthK_eq : ∀ l : List (Str × D), depthK l = depthL (l.map (·.2))
  | [] => rfl
  | (_, d) :: r => by
    show max d.depth (depthK r) = max d.depth (depthL (r.map (·.2)))
    rw [depthK_eq r]
theorem depthL_mem : ∀ {l : List D} {d : D}, d ∈ l → d.depth ≤ depthL l
  | e :: r, d, h => by
    show d.depth ≤ max e.depth (depthL r)
    rcases List.mem_cons.mp h with q | q
    · subst q
      exact Nat.le_max_left _ _
    · exact Nat.le_trans (depthL_mem q) (Nat.le_max_right _ _)
theorem D.depth_row (l : List D) : D.depth (.row l) = 1 + depthL l := by rw [D.depth]
theorem D.depth_rcd (l : List (Str × D)) : D.depth (.rcd l) = 1 + depthK l := by rw [D.depth]
theorem D.depth_kid {d e : D} (h : e ∈ d.kids) : e.depth + 1 ≤ d.depth := by
  cases d with
  | num n => cases h
  | word x => cases h
  | row l =>
    rw [D.depth_row]
    have := depthL_mem (show e ∈ l from h)
    omega
  | rcd l =>
    rw [D.depth_rcd, depthK_eq]
    have := depthL_mem (show e ∈ l.map (·.2) from h)
    omega
def D.kind : D → Str
  | .num _ => "number"
  | .word _ => "word"
  | .row _ => "row"
  | .rcd _ => "record"
def D.isNum : D → Bool
  | .num _ => true
  | _ => false
def narrow (n : Int) : Bool := decide (-1000000000000000000 < n) && decide (n < 1000000000000000000)
section
variable {P : Program} {w : World} {K : PySem.W.Frag} {mg : Str → Option Value} {base : Heap}
/-! is_number -/
def spIsNumber (K : PySem.W.Frag) : Sp := fun vs H Q _ => ∃ (R : Addr → Prop) (d : D) (v : V), vs = [v] ∧ Rep K R H d v ∧ Q (.bl d.isNum) H
theorem sc_is_number : FnScope ["thing"] ["thing"] (defScope (top 18)) := ⟨rfl, rfl, rfl, by decide +kernel, rfl, by decide +kernel, by decide +kernel⟩
theorem ok_is_number (X : Fx mg) (F : FnP K mg "is_number" "is_number" (top 18)) : Cal P w K mg base CX0 1 "is_number" ["thing"] (spIsNumber K) := by
  refine F.cal sc_is_number (fun _ _ _ _ _ _ us hl => match us, hl with | [_], _ => rfl) (fun vs H Q E h => ?_) (fun f cdv A outer s H vs Q E hr h => ?_)
  · obtain ⟨_, _, v, rfl, _⟩ := h
    rfl
  · obtain ⟨R, d, v, rfl, r, q⟩ := h
    refine ⟨_, PSs.nox (pss_one (ps_ret (pe_and (pe_callB (call_isiB "int") rfl X.isinstance (by decide +kernel) (pa_cons (pv 0) (pa_cons (pe_bltn (v := .ty "int") rfl X.int (by decide +kernel) rfl) pa_nil))) (pe_one (pe_not (pe_callB (call_isiB "bool") rfl X.isinstance (by decide +kernel) (pa_cons (pv 0) (pa_cons (pe_bltn (v := .ty "bool") rfl X.bool (by decide +kernel) rfl) pa_nil)))))))), ?_⟩
    refine ⟨_, rfl, _, d.ty, d.isNum, rfl, r.ty, ?_, d.isNum, rfl, ?_⟩
    · cases d
      · show kitB "int" "int" = some true
        decide +kernel
      · show kitB "str" "int" = some false
        decide +kernel
      · show kitB "tuple" "int" = some false
        decide +kernel
      · show kitB "dict" "int" = some false
        decide +kernel
    · cases d with
      | num n => exact iteT ⟨_, rfl, _, "int", false, rfl, r.ty, by decide +kernel, false, rfl, q⟩
      | _ => exact iteF q
/-! is_narrow -/
def spIsNarrow : Sp := fun vs H Q _ => ∃ n : Int, vs = [.int n] ∧ Q (.bl (narrow n)) H
theorem sc_is_narrow : FnScope ["number"] ["number"] (defScope (top 19)) := ⟨rfl, rfl, rfl, by decide +kernel, rfl, by decide +kernel, by decide +kernel⟩
theorem ok_is_narrow (X : Fx mg) (F : FnP K mg "is_narrow" "is_narrow" (top 19)) : Cal P w K mg base CX0 1 "is_narrow" ["number"] spIsNarrow := by
  refine F.cal sc_is_narrow (fun _ _ _ _ _ _ us hl => match us, hl with | [_], _ => rfl) (fun vs H Q E h => ?_) (fun f cdv A outer s H vs Q E hr h => ?_)
  · obtain ⟨n, rfl, _⟩ := h
    rfl
  · obtain ⟨n, rfl, q⟩ := h
    refine ⟨_, PSs.nox (pss_one (ps_ret (pe_and (pe_cmpR op_lt (pe_un un_neg (pe_gint X.TOP)) (pv 0) (nomark _)) (pe_one (pe_cmpR op_lt (pv 0) (pe_gint X.TOP) (nomark _)))))), ?_⟩
    refine ⟨_, rfl, _, rfl, _, _, rfl, rfl, _, rfl, ?_⟩
    unfold narrow at q
    by_cases c : (-1000000000000000000 : Int) < n
    · rw [decide_eq_true c] at q
      have e : decide ((-1000000000000000000 : Int) < n) = true := decide_eq_true c
      refine (if_pos e).mpr ⟨_, rfl, _, _, rfl, rfl, ?_⟩
      exact q
    · rw [decide_eq_false c] at q
      have e : ¬ decide ((-1000000000000000000 : Int) < n) = true := by simpa using c
      exact (if_neg e).mpr q
/-! kind_of -/
def spKindOf (K : PySem.W.Frag) : Sp := fun vs H Q _ => ∃ (R : Addr → Prop) (d : D) (v : V), vs = [v] ∧ Rep K R H d v ∧ Q (.str d.kind) H
theorem sc_kind_of : FnScope ["value"] ["value"] (defScope (top 22)) := ⟨rfl, rfl, rfl, by decide +kernel, rfl, by decide +kernel, by decide +kernel⟩
theorem ok_kind_of (X : Fx mg) (F : FnP K mg "kind_of" "kind_of" (top 22)) : Cal P w K mg base CX0 1 "kind_of" ["value"] (spKindOf K) := by
  refine F.cal sc_kind_of (fun _ _ _ _ _ _ us hl => match us, hl with | [_], _ => rfl) (fun vs H Q E h => ?_) (fun f cdv A outer s H vs Q E hr h => ?_)
  · obtain ⟨_, _, v, rfl, _⟩ := h
    rfl
  · obtain ⟨R, d, v, rfl, r, q⟩ := h
    refine ⟨_, PSs.nox (pss_cons (ps_if (pt_val (pe_callB (call_isiB "tuple") rfl X.isinstance (by decide +kernel) (pa_cons (pv 0) (pa_cons (pe_bltn (v := .ty "tuple") rfl X.tuple (by decide +kernel) rfl) pa_nil)))) (pss_one (ps_ret pe_str)) pss_nil)
      (pss_cons (ps_if (pt_val (pe_callB (call_isiB "dict") rfl X.isinstance (by decide +kernel) (pa_cons (pv 0) (pa_cons (pe_bltn (v := .ty "dict") rfl X.dict (by decide +kernel) rfl) pa_nil)))) (pss_one (ps_ret pe_str)) pss_nil)
      (pss_cons (ps_if (pt_val (pe_callB (call_isiB "str") rfl X.isinstance (by decide +kernel) (pa_cons (pv 0) (pa_cons (pe_bltn (v := .ty "str") rfl X.str (by decide +kernel) rfl) pa_nil)))) (pss_one (ps_ret pe_str)) pss_nil)
      (pss_one (ps_ret pe_str))))), ?_⟩
    cases d with
    | row l => exact ⟨_, rfl, _, "tuple", true, rfl, r.ty, by decide +kernel, true, rfl, iteT q⟩
    | rcd l => exact ⟨_, rfl, _, "dict", false, rfl, r.ty, by decide +kernel, false, rfl, iteF ⟨_, rfl, _, "dict", true, rfl, r.ty, by decide +kernel, true, rfl, iteT q⟩⟩
    | word x => exact ⟨_, rfl, _, "str", false, rfl, r.ty, by decide +kernel, false, rfl, iteF ⟨_, rfl, _, "str", false, rfl, r.ty, by decide +kernel, false, rfl, iteF ⟨_, rfl, _, "str", true, rfl, r.ty, by decide +kernel, true, rfl, iteT q⟩⟩⟩
    | num n => exact ⟨_, rfl, _, "int", false, rfl, r.ty, by decide +kernel, false, rfl, iteF ⟨_, rfl, _, "int", false, rfl, r.ty, by decide +kernel, false, rfl, iteF ⟨_, rfl, _, "int", false, rfl, r.ty, by decide +kernel, false, rfl, iteF q⟩⟩⟩
/-! parts_within -/
def spPartsWithin (K : PySem.W.Frag) : Sp := fun vs H Q _ => ∃ (R : Addr → Prop) (d : D) (v : V), vs = [v] ∧ Rep K R H d v ∧ ∀ (p : Addr) (xs : List V), H p = none → RepL K R H d.kids xs → Q (.ref p) (upd H p (.lst xs))
theorem sc_parts_within : FnScope ["value"] ["value"] (defScope (top 20)) := ⟨rfl, rfl, rfl, by decide +kernel, rfl, by decide +kernel, by decide +kernel⟩
theorem ok_parts_within (X : Fx mg) (F : FnP K mg "parts_within" "parts_within" (top 20)) : Cal P w K mg base CX0 1 "parts_within" ["value"] (spPartsWithin K) := by
  refine F.cal sc_parts_within (fun _ _ _ _ _ _ us hl => match us, hl with | [_], _ => rfl) (fun vs H Q E h => ?_) (fun f cdv A outer s H vs Q E hr h => ?_)
  · obtain ⟨_, _, v, rfl, _⟩ := h
    rfl
  · obtain ⟨R, d, v, rfl, r, q⟩ := h
    refine ⟨_, PSs.nox (pss_cons (ps_if (pt_val (pe_callB (call_isiB "tuple") rfl X.isinstance (by decide +kernel) (pa_cons (pv 0) (pa_cons (pe_bltn (v := .ty "tuple") rfl X.tuple (by decide +kernel) rfl) pa_nil)))) (pss_one (ps_ret (pe_callTy (call_list_of) rfl X.list (by decide +kernel) (pa_cons (pv 0) pa_nil)))) pss_nil)
      (pss_cons (ps_if (pt_val (pe_callB (call_isiB "dict") rfl X.isinstance (by decide +kernel) (pa_cons (pv 0) (pa_cons (pe_bltn (v := .ty "dict") rfl X.dict (by decide +kernel) rfl) pa_nil)))) (pss_one (ps_ret (pe_listVals rfl (pv 0) rfl X.list (by decide +kernel)))) pss_nil)
      (pss_one (ps_ret (pe_lst pa_nil))))), ?_⟩
    cases r with
    | @row l a xs ht hl => exact ⟨_, rfl, _, "tuple", true, rfl, SqT.ty ht, by decide +kernel, true, rfl, iteT ⟨_, rfl, _, _, rfl, .inr ht, fun p np => q p xs np hl⟩⟩
    | @rcd l a kvs hR hd hl => exact ⟨_, rfl, _, "dict", false, rfl, .base (.dK hd), by decide +kernel, false, rfl, iteF ⟨_, rfl, _, "dict", true, rfl, .base (.dK hd), by decide +kernel, true, rfl, iteT ⟨_, rfl, _, _, rfl, hd, fun p np => q p _ np hl.vals⟩⟩⟩
    | word x => exact ⟨_, rfl, _, "str", false, rfl, .base (.str x), by decide +kernel, false, rfl, iteF ⟨_, rfl, _, "str", false, rfl, .base (.str x), by decide +kernel, false, rfl, iteF ⟨by decide, fun p np => q p [] np .nil⟩⟩⟩
    | num n => exact ⟨_, rfl, _, "int", false, rfl, .base (.int n), by decide +kernel, false, rfl, iteF ⟨_, rfl, _, "int", false, rfl, .base (.int n), by decide +kernel, false, rfl, iteF ⟨by decide, fun p np => q p [] np .nil⟩⟩⟩
/-! parts: the deeper the data, the higher the level -/
def spParts (K : PySem.W.Frag) (n : Nat) : Sp := fun vs H Q _ => ∃ (R : Addr → Prop) (d : D) (v : V), vs = [v] ∧ Rep K R H d v ∧ d.depth ≤ n ∧ ∀ H', Same H H' → Q (.int (d.parts : Nat)) H'
theorem partsL_take : ∀ {l : List D} {i : Nat} {d : D}, l[i]? = some d → partsL (l.take (i + 1)) = partsL (l.take i) + d.parts
  | [], _, _, h => by cases h
  | e :: r, 0, d, h => by
    cases h
    show e.parts + partsL [] = partsL [] + e.parts
    exact Nat.add_comm _ _
  | e :: r, i + 1, d, h => by
    show e.parts + partsL (r.take (i + 1)) = e.parts + partsL (r.take i) + d.parts
    rw [partsL_take (l := r) (i := i) h, Nat.add_assoc]
theorem sc_parts : FnScope ["value", "many", "one"] ["value"] (defScope (top 21)) := ⟨rfl, rfl, rfl, by decide +kernel, rfl, by decide +kernel, by decide +kernel⟩
theorem ok_parts_step {n : Nat} (X : Fx mg) (F : FnP K mg "parts" "parts" (top 21)) (c_parts_within : Cal P w K mg base CX0 1 "parts_within" ["value"] (spPartsWithin K))
    (c_parts : ∀ m, m < n → Cal P w K mg base CX0 (m + 2) "parts" ["value"] (spParts K m)) : Cal P w K mg base CX0 (n + 2) "parts" ["value"] (spParts K n) := by
  refine F.cal sc_parts (fun _ _ _ _ _ _ us hl => match us, hl with | [_], _ => rfl) (fun vs H Q E h => ?_) (fun f cdv A outer s H vs Q E hr h => ?_)
  · obtain ⟨_, _, v, rfl, _⟩ := h
    rfl
  · obtain ⟨R, d, v, rfl, r, hn, q⟩ := h
    have hr1 : Room 1 _ := hr.mono (by omega)
    cases n with
    | zero =>
      have hk : d.kids = [] := by
        cases e : d.kids with
        | nil => rfl
        | cons x xs =>
          have := D.depth_kid (d := d) (e := x) (by rw [e]; exact List.mem_cons_self)
          omega
      refine ⟨_, PSs.nox (pss_cons (ps_set (i := 1) sc_parts.nd rfl (Or.inl rfl) pe_int) (pss_cons (ps_for PassesOwn.never rfl (pi_list (pe_cal c_parts_within hr1 pass0 (pa_cons (pv 0) pa_nil))) (pg_name (i := 2) sc_parts.nd rfl (Or.inl rfl)) (pss_one ps_never)) (pss_one (ps_ret (pv 1))))), ?_⟩
      refine ⟨_, rfl, R, d, v, rfl, r, fun p xs np hl => ?_⟩
      rw [hk] at hl
      cases hl
      refine ⟨p, rfl, ⟨_, SqL.of upd_same⟩, for_list (K := K) (a := p) (xs := []) (fun i σ H2 => σ = [some v, some (.int 1), none] ∧ H2 = upd H p (.lst [])) ⟨rfl, rfl⟩ (fun i σ H2 _ ⟨_, e⟩ => by rw [e]; exact SqL.of upd_same) ?_ ?_⟩
      · intro i x σ H2 hi
        cases hi
      · rintro σ H2 ⟨rfl, rfl⟩
        refine ⟨_, rfl, ?_⟩
        have e := D.parts_eq d
        rw [hk] at e
        have e2 : d.parts = 1 := by rw [e]; rfl
        rw [e2] at q
        exact q _ (Same.new np)
    | succ n =>
      have c_parts := c_parts n (Nat.lt_succ_self _)
      refine ⟨_, PSs.nox (pss_cons (ps_set (i := 1) sc_parts.nd rfl (Or.inl rfl) pe_int)
      (pss_cons (ps_for PassesOwn.never rfl (pi_list (pe_cal c_parts_within hr1 pass0 (pa_cons (pv 0) pa_nil))) (pg_name (i := 2) sc_parts.nd rfl (Or.inl rfl)) (pss_one (ps_set (i := 1) sc_parts.nd rfl (Or.inl rfl) (pe_op op_add (pv 1) (pe_cal c_parts (hr.mono (by omega)) pass0 (pa_cons (pv 2) pa_nil))))))
      (pss_one (ps_ret (pv 1))))), ?_⟩
      refine ⟨_, rfl, R, d, v, rfl, r, fun p xs np hl => ?_⟩
      have s0 : Same H (upd H p (.lst xs)) := Same.new np
      refine ⟨p, rfl, ⟨_, SqL.of upd_same⟩, for_list (K := K) (a := p) (xs := xs) (fun i σ H2 => ∃ o : Option V, σ = [some v, some (.int ((1 + partsL (d.kids.take i) : Nat) : Int)), o] ∧ Same (upd H p (.lst xs)) H2) ⟨none, rfl, Same.refl _⟩ (fun i σ H2 _ ⟨_, _, s2⟩ => s2.seq (SqL.of upd_same)) ?_ ?_⟩
      · rintro i x σ H2 hi ⟨o, rfl, s2⟩
        obtain ⟨e, he, re⟩ := hl.get' hi
        have hd : e.depth ≤ n := by
          have := D.depth_kid (d := d) (e := e) (List.mem_of_getElem? he)
          omega
        refine ⟨_, rfl, _, rfl, R, e, x, rfl, re.same (s0.trans s2), hd, fun H3 s3 => ?_⟩
        refine ⟨_, _, rfl, rfl, some x, ?_, s2.trans s3⟩
        rw [partsL_take he]
        have ec : ((1 + partsL (d.kids.take i) : Nat) : Int) + (e.parts : Nat) = ((1 + (partsL (d.kids.take i) + e.parts) : Nat) : Int) := by omega
        exact congrArg (fun z => [some v, some (V.int z), some x]) ec
      · rintro σ H2 ⟨o, rfl, s2⟩
        refine ⟨_, rfl, ?_⟩
        have ek : d.kids.take xs.length = d.kids := by rw [hl.len, List.take_length]
        rw [ek, ← D.parts_eq]
        exact q _ (s0.trans s2)
theorem ok_parts (X : Fx mg) (F : FnP K mg "parts" "parts" (top 21)) (c_parts_within : Cal P w K mg base CX0 1 "parts_within" ["value"] (spPartsWithin K)) : ∀ n, Cal P w K mg base CX0 (n + 2) "parts" ["value"] (spParts K n) := by
  intro n
  induction n using Nat.strongRecOn with
  | ind n ih => exact ok_parts_step X F c_parts_within ih
end
end Fk
set_option maxHeartbeats 4000000
/-! ## Faults -/
namespace Fk
open PySem PySem.Spec PyProof.Rows L2
theorem PS.imp {X : Cx} {st : Stmt} {t u : TS} (h : PS X st t) (i : ∀ D σ H, u D σ H → t D σ H) : PS X st u := ⟨fun pins s σ H D I q => h.run pins s σ H D I (i D σ H q)⟩
/-- what is asked where a fault of that word is raised over H -/
def FaultTo (CF : Addr) (wd : Str) (H : Hp) (E : XK) : Prop := ∀ (d : Addr) (H' : Hp), Same H H' → H' d = some (.xd [(("word" : Str), .str wd)]) → E (.ref CF) (some d) H'
theorem FaultTo.of_same {CF : Addr} {wd : Str} {H H1 : Hp} {E : XK} (h : FaultTo CF wd H E) (e : Same H H1) : FaultTo CF wd H1 E := fun d H' s z => h d H' (e.trans s) z
def spFaultInit (C : Addr) : Sp := fun vs H Q _ => ∃ (a : Addr) (wd : Str), vs = [.ref a, .str wd] ∧ H a = some (exo a C none) ∧ ∀ d, H d = none → d ≠ a → Q .non (upd (upd H d (exd d [(("word" : Str), .str wd)])) a (exo a C (some d)))
/-- what is known of Fault as a class -/
structure FltC (K : PySem.W.Frag) (mg : Str → Option Value) (CF fI : Addr) : Prop where
  oex : OexC K CF
  mgF : mg "Fault" = some (.ref CF)
  iC : PySem.W.findIn K (.ref CF) "__init__" = some (some (.ref fI))
  tI : PySem.W.typeIn K (.ref fI) = some (.type "function")
  noW : PySem.W.findIn K (.ref CF) "word" = some none
def FltCal (P : Program) (w : World) (K : PySem.W.Frag) (mg : Str → Option Value) (base : Heap) (CF : Addr) : Prop :=
  ∃ (fI : Addr) (fd : FuncData), FltC K mg CF fI ∧ FnOk P w K mg base CX0 1 fI fd ["self", "word"] (spFaultInit CF) ∧ Binds K fd ["self", "word"] []
section
variable {P : Program} {w : World} {K : PySem.W.Frag} {mg : Str → Option Value} {base : Heap}
theorem sc_Fault___init__ : FnScope ["self", "word"] ["self", "word"] (defScope (inClass (top 3) 0)) := ⟨rfl, rfl, rfl, by decide +kernel, rfl, by decide +kernel, by decide +kernel⟩
theorem ok_fault {CF CE fI : Addr} {fd : FuncData} (T : FltC K mg CF fI) (F : FunD K "__init__" "Fault.__init__" (defArgs (inClass (top 3) 0)) (defBody (inClass (top 3) 0)) (defScope (inClass (top 3) 0)) [] [] fI fd)
    (g_ForeError : mg "ForeError" = some (.ref CE)) (c_ForeError : ClsF K CE "__init__" (.builtin "ValueError.__init__")) : FltCal P w K mg base CF := by
  refine ⟨fI, fd, T, F.ok sc_Fault___init__ (fun vs H Q E h => ?_) (fun cdv A outer s H vs Q E hr h => ?_), F.bindsN (fun _ _ _ _ _ _ us hl => match us, hl with | [_, _], _ => rfl)⟩
  · obtain ⟨a, wd, rfl, _⟩ := h
    rfl
  · obtain ⟨a, wd, rfl, ha, q⟩ := h
    refine ⟨_, PSs.nox (pss_cons (ps_expr (pe_feinit c_ForeError rfl g_ForeError (pa_cons (pv 0) (pa_cons pe_str pa_nil))))
      (pss_one (ps_ost (pv 0) (pv 1)))), ?_⟩
    refine ⟨_, rfl, a, CF, [_], rfl, by decide, T.oex, ha, ?_⟩
    refine ⟨_, rfl, _, rfl, a, CF, rfl, T.oex, T.noW, .inl ⟨ha, fun dx nd ne => q dx nd ne⟩⟩
end
section
variable {X : Cx} {CF : Addr} {W : WX} {wd : Str} {p pos pos2 pc : Pos} {j : Nat}
/-- raise Fault('..') -/
theorem ps_raiseF (hc : X.calm = true) (c : FltCal X.prog X.w X.K X.mg X.base CF) (hr : Room 2 X.A) (tk : Takes X W) (hg : Gl X "Fault" := by rfl)
    (he : starEach [.Constant (.str wd) j pc] X.env = (false, eval (.Constant (.str wd) j pc) X.env) :: starEach [] X.env := by rfl) (hpl : (backTo pos (starEach [] X.env)).any (·.1) = false := by rfl) :
    PS X (.Raise (some (.Call (.Name "Fault" p) [.Constant (.str wd) j pc] [] pos)) none pos2) (fun _ σ H => FaultTo CF wd H fun cls d H' => W cls d σ H') := by
  obtain ⟨fI, fd, T, F, hb⟩ := c
  refine PS.imp (ps_raise hc tk (pmk_oex T.oex T.iC T.tI F hr hb .nil pass0 hg T.mgF (pa_cons pe_str pa_nil he) (by decide) he hpl)) fun D σ H q => ?_
  refine ⟨by show 1 ≤ 1000; decide, fun a na => ⟨a, wd, rfl, upd_same, fun d nd ne => ⟨rfl, d, [(("word" : Str), .str wd)], upd_same, ?_, ?_, ?_⟩⟩⟩
  · rw [upd_ne ne, upd_same]
  · rw [upd_ne ne] at nd
    exact nd
  · rw [upd_ne ne] at nd
    refine q d _ (fun b o e => ?_) upd_same
    have n1 : b ≠ d := ne_of_none e nd
    have n2 : b ≠ a := ne_of_none e na
    rw [upd_ne n1, del_ne n2, upd_ne n2, upd_ne n1, upd_ne n2]
    exact e
end
/-! ## Ops -/
inductive OpK where
  | add | sub | mul | same | head | rest | many | item | put | field
  deriving DecidableEq
def OpK.word : OpK → Str
  | .add => "add" | .sub => "sub" | .mul => "mul" | .same => "same" | .head => "head" | .rest => "rest" | .many => "many" | .item => "item" | .put => "put" | .field => "field"
def OpK.cls : OpK → Str
  | .add => "Add" | .sub => "Sub" | .mul => "Mul" | .same => "Same" | .head => "Head" | .rest => "Rest" | .many => "Many" | .item => "Item" | .put => "Put" | .field => "Field"
def OpK.kinds : OpK → List Str
  | .add => ["number", "number"] | .sub => ["number", "number"] | .mul => ["number", "number"] | .same => ["any", "any"] | .head => ["row"] | .rest => ["row"] | .many => ["row"] | .item => ["row", "number"]
  | .put => ["row", "number", "any"] | .field => ["record", "word"]
/-- the attributes of an op -/
def opF (wd : Str) (n : Nat) (t : Addr) : List (Str × V) := [(("word" : Str), .str wd), (("many" : Str), .int (n : Int)), (("kinds" : Str), .ref t)]
/-- what is known of an op's class -/
structure OpC (K : PySem.W.Frag) (C : Addr) : Prop where
  cl : Cls K C
  noW : NoAttr K C "word"
  noM : NoAttr K C "many"
  noK : NoAttr K C "kinds"
def spOpInit (K : PySem.W.Frag) : Sp := fun vs H Q _ => ∃ (p dx t C : Addr) (wd : Str) (ks : List V), vs = [.ref p, .str wd, .ref t] ∧ H p = some (.ins C dx []) ∧ OpC K C ∧ SqT K H t ks ∧ Q .non (upd H p (.ins C dx (opF wd ks.length t)))
theorem opF_put (wd : Str) (n : Nat) (t : Addr) : putF "kinds" (.ref t) (putF "many" (.int (n : Int)) (putF "word" (.str wd) [])) = opF wd n t := by
  have h1 : ¬ (("word" : Str) = "many") := by decide +kernel
  have h2 : ¬ (("word" : Str) = "kinds") := by decide +kernel
  have h3 : ¬ (("many" : Str) = "kinds") := by decide +kernel
  simp only [putF, if_neg h1, if_neg h2, if_neg h3]
  rfl
theorem opF_word (wd : Str) (n : Nat) (t : Addr) : (opF wd n t).lookup ("word" : Str) = some (.str wd) := by rfl
theorem opF_many (wd : Str) (n : Nat) (t : Addr) : (opF wd n t).lookup ("many" : Str) = some (.int (n : Int)) := by
  have h1 : (("many" : Str) == "word") = false := by decide +kernel
  unfold opF
  rw [List.lookup_cons, h1, List.lookup_cons, beq_self_eq_true]
theorem opF_kinds (wd : Str) (n : Nat) (t : Addr) : (opF wd n t).lookup ("kinds" : Str) = some (.ref t) := by
  have h1 : (("kinds" : Str) == "word") = false := by decide +kernel
  have h2 : (("kinds" : Str) == "many") = false := by decide +kernel
  unfold opF
  rw [List.lookup_cons, h1, List.lookup_cons, h2, List.lookup_cons, beq_self_eq_true]
theorem opF_no (wd : Str) (n : Nat) (t : Addr) {m : Str} (h1 : (m == "word") = false) (h2 : (m == "many") = false) (h3 : (m == "kinds") = false) : (opF wd n t).lookup m = none := by
  unfold opF
  rw [List.lookup_cons, h1, List.lookup_cons, h2, List.lookup_cons, h3]
  rfl
section
variable {P : Program} {w : World} {K : PySem.W.Frag} {mg : Str → Option Value} {base : Heap}
theorem sc_Op___init__ : FnScope ["self", "word", "kinds"] ["self", "word", "kinds"] (defScope (inClass (top 24) 0)) := ⟨rfl, rfl, rfl, by decide +kernel, rfl, by decide +kernel, by decide +kernel⟩
theorem ok_op_init {C0 : Addr} (X : Fx mg) (F : MeP K C0 "__init__" "__init__" "Op.__init__" (inClass (top 24) 0)) : MeCal P w K mg base CX0 1 C0 "__init__" ["self", "word", "kinds"] (spOpInit K) := by
  refine F.cal sc_Op___init__ (fun _ _ _ _ _ _ us hl => match us, hl with | [_, _, _], _ => rfl) (fun vs H Q E h => ?_) (fun f cdv A outer s H vs Q E hr h => ?_)
  · obtain ⟨p, dx, t, C, wd, ks, rfl, _⟩ := h
    rfl
  · obtain ⟨p, dx, t, C, wd, ks, rfl, hp, T, ht, q⟩ := h
    refine ⟨_, PSs.nox (pss_cons (ps_fld (pv 0) (pv 1) rfl)
      (pss_cons (ps_fld (pv 0) (pe_callB (call_len_seq) rfl X.len (by decide +kernel) (pa_cons (pv 2) pa_nil)) rfl)
      (pss_one (ps_fld (pv 0) (pv 2) rfl)))), ?_⟩
    refine ⟨_, rfl, _, rfl, p, C, dx, _, rfl, hp, T.cl, T.noW, by decide, ?_⟩
    have k1 : ∀ o, Kept (fun _ => False) H (upd H p o) := fun o => Kept.upd (fun u e => by
      rw [hp] at e
      cases e
      rintro (⟨_, z⟩ | ⟨_, _, z⟩) <;> cases z) id
    refine ⟨_, rfl, _, ks, rfl, .inr (SqT.mono (k1 _).tup ht), _, rfl, p, C, dx, _, rfl, upd_same, T.cl, T.noM, (by show 1 < 1000; decide), ?_⟩
    rw [upd_upd]
    refine ⟨_, rfl, _, rfl, p, C, dx, _, rfl, upd_same, T.cl, T.noK, Nat.lt_of_le_of_lt (length_putF _ _ _) (by show 2 < 1000; decide), ?_⟩
    rw [upd_upd]
    have e := opF_put wd ks.length t
    show Q .non (upd H p (.ins C dx (putF "kinds" (.ref t) (putF "many" (.int (ks.length : Int)) (putF "word" (.str wd) [])))))
    rw [e]
    exact q
/-- an op's own __init__ -/
def spOInit (K : PySem.W.Frag) (wd : Str) (kinds : List Str) : Sp := fun vs H Q _ => ∃ p dx C : Addr, vs = [.ref p] ∧ H p = some (.ins C dx []) ∧ OpC K C ∧ ∀ t, H t = none → Q .non (upd (upd H t (.tup (kinds.map V.str))) p (.ins C dx (opF wd kinds.length t)))
/-- Op.__init__ as it's read off a class -/
structure OpIn (P : Program) (w : World) (K : PySem.W.Frag) (mg : Str → Option Value) (base : Heap) (x : Str) (C f : Addr) (fd : FuncData) : Prop where
  g : mg x = some (.ref C)
  m : ClsF K C "__init__" (.ref f)
  k : PySem.W.keepIn K (.ref f) = true
  F : FnOk P w K mg base CX0 1 f fd ["self", "word", "kinds"] (spOpInit K)
  b : Binds K fd ["self", "word", "kinds"] []
theorem sc_Add___init__ : FnScope ["self"] ["self"] (defScope (inClass (top 27) 0)) := ⟨rfl, rfl, rfl, by decide +kernel, rfl, by decide +kernel, by decide +kernel⟩
theorem ok_init_Add {C1 CB f : Addr} {fd : FuncData} (F : MeP K C1 "__init__" "__init__" "Add.__init__" (inClass (top 27) 0)) (B : OpIn P w K mg base "Op" CB f fd) : MeCal P w K mg base CX0 2 C1 "__init__" ["self"] (spOInit K "add" ["number", "number"]) := by
  refine F.cal sc_Add___init__ (fun _ _ _ _ _ _ us hl => match us, hl with | [_], _ => rfl) (fun vs H Q E h => ?_) (fun f cdv A outer s H vs Q E hr h => ?_)
  · obtain ⟨p, dx, C, rfl, _⟩ := h
    rfl
  · obtain ⟨p, dx, C, rfl, hp, T, q⟩ := h
    obtain ⟨g_Op, m_Op___init__, k_Op___init__, F_Op___init__, b_Op___init__⟩ := B
    refine ⟨_, PSs.nox (pss_one (ps_expr (pe_clsfn m_Op___init__ k_Op___init__ F_Op___init__ hr rfl g_Op b_Op___init__ .nil pass0 (pa_cons (pv 0) (pa_cons pe_str (pa_cons (pe_tup (pa_cons pe_str (pa_cons pe_str pa_nil))) pa_nil)))))), ?_⟩
    refine ⟨_, rfl, (by show 2 ≤ sizeLine; decide), fun t nt => ?_⟩
    exact ⟨p, dx, t, C, _, _, rfl, by rw [upd_ne (ne_of_none hp nt)]; exact hp, T, SqT.of upd_same, q t nt⟩
theorem sc_Sub___init__ : FnScope ["self"] ["self"] (defScope (inClass (top 28) 0)) := ⟨rfl, rfl, rfl, by decide +kernel, rfl, by decide +kernel, by decide +kernel⟩
theorem ok_init_Sub {C1 CB f : Addr} {fd : FuncData} (F : MeP K C1 "__init__" "__init__" "Sub.__init__" (inClass (top 28) 0)) (B : OpIn P w K mg base "Op" CB f fd) : MeCal P w K mg base CX0 2 C1 "__init__" ["self"] (spOInit K "sub" ["number", "number"]) := by
  refine F.cal sc_Sub___init__ (fun _ _ _ _ _ _ us hl => match us, hl with | [_], _ => rfl) (fun vs H Q E h => ?_) (fun f cdv A outer s H vs Q E hr h => ?_)
  · obtain ⟨p, dx, C, rfl, _⟩ := h
    rfl
  · obtain ⟨p, dx, C, rfl, hp, T, q⟩ := h
    obtain ⟨g_Op, m_Op___init__, k_Op___init__, F_Op___init__, b_Op___init__⟩ := B
    refine ⟨_, PSs.nox (pss_one (ps_expr (pe_clsfn m_Op___init__ k_Op___init__ F_Op___init__ hr rfl g_Op b_Op___init__ .nil pass0 (pa_cons (pv 0) (pa_cons pe_str (pa_cons (pe_tup (pa_cons pe_str (pa_cons pe_str pa_nil))) pa_nil)))))), ?_⟩
    refine ⟨_, rfl, (by show 2 ≤ sizeLine; decide), fun t nt => ?_⟩
    exact ⟨p, dx, t, C, _, _, rfl, by rw [upd_ne (ne_of_none hp nt)]; exact hp, T, SqT.of upd_same, q t nt⟩
theorem sc_Mul___init__ : FnScope ["self"] ["self"] (defScope (inClass (top 29) 0)) := ⟨rfl, rfl, rfl, by decide +kernel, rfl, by decide +kernel, by decide +kernel⟩
theorem ok_init_Mul {C1 CB f : Addr} {fd : FuncData} (F : MeP K C1 "__init__" "__init__" "Mul.__init__" (inClass (top 29) 0)) (B : OpIn P w K mg base "Op" CB f fd) : MeCal P w K mg base CX0 2 C1 "__init__" ["self"] (spOInit K "mul" ["number", "number"]) := by
  refine F.cal sc_Mul___init__ (fun _ _ _ _ _ _ us hl => match us, hl with | [_], _ => rfl) (fun vs H Q E h => ?_) (fun f cdv A outer s H vs Q E hr h => ?_)
  · obtain ⟨p, dx, C, rfl, _⟩ := h
    rfl
  · obtain ⟨p, dx, C, rfl, hp, T, q⟩ := h
    obtain ⟨g_Op, m_Op___init__, k_Op___init__, F_Op___init__, b_Op___init__⟩ := B
    refine ⟨_, PSs.nox (pss_one (ps_expr (pe_clsfn m_Op___init__ k_Op___init__ F_Op___init__ hr rfl g_Op b_Op___init__ .nil pass0 (pa_cons (pv 0) (pa_cons pe_str (pa_cons (pe_tup (pa_cons pe_str (pa_cons pe_str pa_nil))) pa_nil)))))), ?_⟩
    refine ⟨_, rfl, (by show 2 ≤ sizeLine; decide), fun t nt => ?_⟩
    exact ⟨p, dx, t, C, _, _, rfl, by rw [upd_ne (ne_of_none hp nt)]; exact hp, T, SqT.of upd_same, q t nt⟩
theorem sc_Same___init__ : FnScope ["self"] ["self"] (defScope (inClass (top 33) 0)) := ⟨rfl, rfl, rfl, by decide +kernel, rfl, by decide +kernel, by decide +kernel⟩
theorem ok_init_Same {C1 CB f : Addr} {fd : FuncData} (F : MeP K C1 "__init__" "__init__" "Same.__init__" (inClass (top 33) 0)) (B : OpIn P w K mg base "Sure" CB f fd) : MeCal P w K mg base CX0 2 C1 "__init__" ["self"] (spOInit K "same" ["any", "any"]) := by
  refine F.cal sc_Same___init__ (fun _ _ _ _ _ _ us hl => match us, hl with | [_], _ => rfl) (fun vs H Q E h => ?_) (fun f cdv A outer s H vs Q E hr h => ?_)
  · obtain ⟨p, dx, C, rfl, _⟩ := h
    rfl
  · obtain ⟨p, dx, C, rfl, hp, T, q⟩ := h
    obtain ⟨g_Sure, m_Sure___init__, k_Sure___init__, F_Sure___init__, b_Sure___init__⟩ := B
    refine ⟨_, PSs.nox (pss_one (ps_expr (pe_clsfn m_Sure___init__ k_Sure___init__ F_Sure___init__ hr rfl g_Sure b_Sure___init__ .nil pass0 (pa_cons (pv 0) (pa_cons pe_str (pa_cons (pe_tup (pa_cons pe_str (pa_cons pe_str pa_nil))) pa_nil)))))), ?_⟩
    refine ⟨_, rfl, (by show 2 ≤ sizeLine; decide), fun t nt => ?_⟩
    exact ⟨p, dx, t, C, _, _, rfl, by rw [upd_ne (ne_of_none hp nt)]; exact hp, T, SqT.of upd_same, q t nt⟩
theorem sc_Head___init__ : FnScope ["self"] ["self"] (defScope (inClass (top 37) 0)) := ⟨rfl, rfl, rfl, by decide +kernel, rfl, by decide +kernel, by decide +kernel⟩
theorem ok_init_Head {C1 CB f : Addr} {fd : FuncData} (F : MeP K C1 "__init__" "__init__" "Head.__init__" (inClass (top 37) 0)) (B : OpIn P w K mg base "Falling" CB f fd) : MeCal P w K mg base CX0 2 C1 "__init__" ["self"] (spOInit K "head" ["row"]) := by
  refine F.cal sc_Head___init__ (fun _ _ _ _ _ _ us hl => match us, hl with | [_], _ => rfl) (fun vs H Q E h => ?_) (fun f cdv A outer s H vs Q E hr h => ?_)
  · obtain ⟨p, dx, C, rfl, _⟩ := h
    rfl
  · obtain ⟨p, dx, C, rfl, hp, T, q⟩ := h
    obtain ⟨g_Falling, m_Falling___init__, k_Falling___init__, F_Falling___init__, b_Falling___init__⟩ := B
    refine ⟨_, PSs.nox (pss_one (ps_expr (pe_clsfn m_Falling___init__ k_Falling___init__ F_Falling___init__ hr rfl g_Falling b_Falling___init__ .nil pass0 (pa_cons (pv 0) (pa_cons pe_str (pa_cons (pe_tup (pa_cons pe_str pa_nil)) pa_nil)))))), ?_⟩
    refine ⟨_, rfl, (by show 1 ≤ sizeLine; decide), fun t nt => ?_⟩
    exact ⟨p, dx, t, C, _, _, rfl, by rw [upd_ne (ne_of_none hp nt)]; exact hp, T, SqT.of upd_same, q t nt⟩
theorem sc_Rest___init__ : FnScope ["self"] ["self"] (defScope (inClass (top 38) 0)) := ⟨rfl, rfl, rfl, by decide +kernel, rfl, by decide +kernel, by decide +kernel⟩
theorem ok_init_Rest {C1 CB f : Addr} {fd : FuncData} (F : MeP K C1 "__init__" "__init__" "Rest.__init__" (inClass (top 38) 0)) (B : OpIn P w K mg base "Falling" CB f fd) : MeCal P w K mg base CX0 2 C1 "__init__" ["self"] (spOInit K "rest" ["row"]) := by
  refine F.cal sc_Rest___init__ (fun _ _ _ _ _ _ us hl => match us, hl with | [_], _ => rfl) (fun vs H Q E h => ?_) (fun f cdv A outer s H vs Q E hr h => ?_)
  · obtain ⟨p, dx, C, rfl, _⟩ := h
    rfl
  · obtain ⟨p, dx, C, rfl, hp, T, q⟩ := h
    obtain ⟨g_Falling, m_Falling___init__, k_Falling___init__, F_Falling___init__, b_Falling___init__⟩ := B
    refine ⟨_, PSs.nox (pss_one (ps_expr (pe_clsfn m_Falling___init__ k_Falling___init__ F_Falling___init__ hr rfl g_Falling b_Falling___init__ .nil pass0 (pa_cons (pv 0) (pa_cons pe_str (pa_cons (pe_tup (pa_cons pe_str pa_nil)) pa_nil)))))), ?_⟩
    refine ⟨_, rfl, (by show 1 ≤ sizeLine; decide), fun t nt => ?_⟩
    exact ⟨p, dx, t, C, _, _, rfl, by rw [upd_ne (ne_of_none hp nt)]; exact hp, T, SqT.of upd_same, q t nt⟩
theorem sc_Many___init__ : FnScope ["self"] ["self"] (defScope (inClass (top 39) 0)) := ⟨rfl, rfl, rfl, by decide +kernel, rfl, by decide +kernel, by decide +kernel⟩
theorem ok_init_Many {C1 CB f : Addr} {fd : FuncData} (F : MeP K C1 "__init__" "__init__" "Many.__init__" (inClass (top 39) 0)) (B : OpIn P w K mg base "Op" CB f fd) : MeCal P w K mg base CX0 2 C1 "__init__" ["self"] (spOInit K "many" ["row"]) := by
  refine F.cal sc_Many___init__ (fun _ _ _ _ _ _ us hl => match us, hl with | [_], _ => rfl) (fun vs H Q E h => ?_) (fun f cdv A outer s H vs Q E hr h => ?_)
  · obtain ⟨p, dx, C, rfl, _⟩ := h
    rfl
  · obtain ⟨p, dx, C, rfl, hp, T, q⟩ := h
    obtain ⟨g_Op, m_Op___init__, k_Op___init__, F_Op___init__, b_Op___init__⟩ := B
    refine ⟨_, PSs.nox (pss_one (ps_expr (pe_clsfn m_Op___init__ k_Op___init__ F_Op___init__ hr rfl g_Op b_Op___init__ .nil pass0 (pa_cons (pv 0) (pa_cons pe_str (pa_cons (pe_tup (pa_cons pe_str pa_nil)) pa_nil)))))), ?_⟩
    refine ⟨_, rfl, (by show 1 ≤ sizeLine; decide), fun t nt => ?_⟩
    exact ⟨p, dx, t, C, _, _, rfl, by rw [upd_ne (ne_of_none hp nt)]; exact hp, T, SqT.of upd_same, q t nt⟩
theorem sc_Item___init__ : FnScope ["self"] ["self"] (defScope (inClass (top 41) 0)) := ⟨rfl, rfl, rfl, by decide +kernel, rfl, by decide +kernel, by decide +kernel⟩
theorem ok_init_Item {C1 CB f : Addr} {fd : FuncData} (F : MeP K C1 "__init__" "__init__" "Item.__init__" (inClass (top 41) 0)) (B : OpIn P w K mg base "Falling" CB f fd) : MeCal P w K mg base CX0 2 C1 "__init__" ["self"] (spOInit K "item" ["row", "number"]) := by
  refine F.cal sc_Item___init__ (fun _ _ _ _ _ _ us hl => match us, hl with | [_], _ => rfl) (fun vs H Q E h => ?_) (fun f cdv A outer s H vs Q E hr h => ?_)
  · obtain ⟨p, dx, C, rfl, _⟩ := h
    rfl
  · obtain ⟨p, dx, C, rfl, hp, T, q⟩ := h
    obtain ⟨g_Falling, m_Falling___init__, k_Falling___init__, F_Falling___init__, b_Falling___init__⟩ := B
    refine ⟨_, PSs.nox (pss_one (ps_expr (pe_clsfn m_Falling___init__ k_Falling___init__ F_Falling___init__ hr rfl g_Falling b_Falling___init__ .nil pass0 (pa_cons (pv 0) (pa_cons pe_str (pa_cons (pe_tup (pa_cons pe_str (pa_cons pe_str pa_nil))) pa_nil)))))), ?_⟩
    refine ⟨_, rfl, (by show 2 ≤ sizeLine; decide), fun t nt => ?_⟩
    exact ⟨p, dx, t, C, _, _, rfl, by rw [upd_ne (ne_of_none hp nt)]; exact hp, T, SqT.of upd_same, q t nt⟩
theorem sc_Put___init__ : FnScope ["self"] ["self"] (defScope (inClass (top 42) 0)) := ⟨rfl, rfl, rfl, by decide +kernel, rfl, by decide +kernel, by decide +kernel⟩
theorem ok_init_Put {C1 CB f : Addr} {fd : FuncData} (F : MeP K C1 "__init__" "__init__" "Put.__init__" (inClass (top 42) 0)) (B : OpIn P w K mg base "Op" CB f fd) : MeCal P w K mg base CX0 2 C1 "__init__" ["self"] (spOInit K "put" ["row", "number", "any"]) := by
  refine F.cal sc_Put___init__ (fun _ _ _ _ _ _ us hl => match us, hl with | [_], _ => rfl) (fun vs H Q E h => ?_) (fun f cdv A outer s H vs Q E hr h => ?_)
  · obtain ⟨p, dx, C, rfl, _⟩ := h
    rfl
  · obtain ⟨p, dx, C, rfl, hp, T, q⟩ := h
    obtain ⟨g_Op, m_Op___init__, k_Op___init__, F_Op___init__, b_Op___init__⟩ := B
    refine ⟨_, PSs.nox (pss_one (ps_expr (pe_clsfn m_Op___init__ k_Op___init__ F_Op___init__ hr rfl g_Op b_Op___init__ .nil pass0 (pa_cons (pv 0) (pa_cons pe_str (pa_cons (pe_tup (pa_cons pe_str (pa_cons pe_str (pa_cons pe_str pa_nil)))) pa_nil)))))), ?_⟩
    refine ⟨_, rfl, (by show 3 ≤ sizeLine; decide), fun t nt => ?_⟩
    exact ⟨p, dx, t, C, _, _, rfl, by rw [upd_ne (ne_of_none hp nt)]; exact hp, T, SqT.of upd_same, q t nt⟩
theorem sc_Field___init__ : FnScope ["self"] ["self"] (defScope (inClass (top 43) 0)) := ⟨rfl, rfl, rfl, by decide +kernel, rfl, by decide +kernel, by decide +kernel⟩
theorem ok_init_Field {C1 CB f : Addr} {fd : FuncData} (F : MeP K C1 "__init__" "__init__" "Field.__init__" (inClass (top 43) 0)) (B : OpIn P w K mg base "Falling" CB f fd) : MeCal P w K mg base CX0 2 C1 "__init__" ["self"] (spOInit K "field" ["record", "word"]) := by
  refine F.cal sc_Field___init__ (fun _ _ _ _ _ _ us hl => match us, hl with | [_], _ => rfl) (fun vs H Q E h => ?_) (fun f cdv A outer s H vs Q E hr h => ?_)
  · obtain ⟨p, dx, C, rfl, _⟩ := h
    rfl
  · obtain ⟨p, dx, C, rfl, hp, T, q⟩ := h
    obtain ⟨g_Falling, m_Falling___init__, k_Falling___init__, F_Falling___init__, b_Falling___init__⟩ := B
    refine ⟨_, PSs.nox (pss_one (ps_expr (pe_clsfn m_Falling___init__ k_Falling___init__ F_Falling___init__ hr rfl g_Falling b_Falling___init__ .nil pass0 (pa_cons (pv 0) (pa_cons pe_str (pa_cons (pe_tup (pa_cons pe_str (pa_cons pe_str pa_nil))) pa_nil)))))), ?_⟩
    refine ⟨_, rfl, (by show 2 ≤ sizeLine; decide), fun t nt => ?_⟩
    exact ⟨p, dx, t, C, _, _, rfl, by rw [upd_ne (ne_of_none hp nt)]; exact hp, T, SqT.of upd_same, q t nt⟩

end
end Fk
set_option maxHeartbeats 4000000
/-! ## What ops tell -/
namespace Fk
open PySem PySem.Spec PyProof.Rows L2
def inRow (l : List D) (i : Int) : Prop := 0 ≤ i ∧ i < (l.length : Int)
instance (l : List D) (i : Int) : Decidable (inRow l i) := by unfold inRow; infer_instance
def num2 (f : Int → Int → Option (Except Str D)) : List D → Option (Except Str D)
  | [.num a, .num b] => f a b
  | _ => none
def word2 (f : Str → Str → Option (Except Str D)) : List D → Option (Except Str D)
  | [.word a, .word b] => f a b
  | _ => none
def row1 (f : List D → Option (Except Str D)) : List D → Option (Except Str D)
  | [.row l] => f l
  | _ => none
def rowNum (f : List D → Int → Option (Except Str D)) : List D → Option (Except Str D)
  | [.row l, .num i] => f l i
  | _ => none
def rowNumAny (f : List D → Int → D → Option (Except Str D)) : List D → Option (Except Str D)
  | [.row l, .num i, x] => f l i x
  | _ => none
def rcdWord (f : List (Str × D) → Str → Option (Except Str D)) : List D → Option (Except Str D)
  | [.rcd l, .word k] => f l k
  | _ => none
theorem num2_some {f : Int → Int → Option (Except Str D)} {ds : List D} {r : Except Str D} (h : num2 f ds = some r) : ∃ a b, ds = [.num a, .num b] ∧ f a b = some r := by
  unfold num2 at h
  split at h
  · exact ⟨_, _, rfl, h⟩
  · cases h
theorem word2_some {f : Str → Str → Option (Except Str D)} {ds : List D} {r : Except Str D} (h : word2 f ds = some r) : ∃ a b, ds = [.word a, .word b] ∧ f a b = some r := by
  unfold word2 at h
  split at h
  · exact ⟨_, _, rfl, h⟩
  · cases h
theorem row1_some {f : List D → Option (Except Str D)} {ds : List D} {r : Except Str D} (h : row1 f ds = some r) : ∃ l, ds = [.row l] ∧ f l = some r := by
  unfold row1 at h
  split at h
  · exact ⟨_, rfl, h⟩
  · cases h
theorem rowNum_some {f : List D → Int → Option (Except Str D)} {ds : List D} {r : Except Str D} (h : rowNum f ds = some r) : ∃ l i, ds = [.row l, .num i] ∧ f l i = some r := by
  unfold rowNum at h
  split at h
  · exact ⟨_, _, rfl, h⟩
  · cases h
theorem rowNumAny_some {f : List D → Int → D → Option (Except Str D)} {ds : List D} {r : Except Str D} (h : rowNumAny f ds = some r) : ∃ l i x, ds = [.row l, .num i, x] ∧ f l i x = some r := by
  unfold rowNumAny at h
  split at h
  · exact ⟨_, _, _, rfl, h⟩
  · cases h
theorem rcdWord_some {f : List (Str × D) → Str → Option (Except Str D)} {ds : List D} {r : Except Str D} (h : rcdWord f ds = some r) : ∃ l k, ds = [.rcd l, .word k] ∧ f l k = some r := by
  unfold rcdWord at h
  split at h
  · exact ⟨_, _, rfl, h⟩
  · cases h
def headM : List D → Option (Except Str D)
  | [] => some (.error "empty")
  | x :: _ => some (.ok x)
def restM : List D → Option (Except Str D)
  | [] => some (.error "empty")
  | _ :: r => some (.ok (.row r))
def itemM (l : List D) (i : Int) : Option (Except Str D) := if inRow l i then (l[i.toNat]?).map .ok else some (.error "place")
def putM (l : List D) (i : Int) (x : D) : Option (Except Str D) := if l.length ≤ 1000 then (if inRow l i then some (.ok (.row (l.set i.toNat x))) else some (.error "place")) else none
def fieldM (l : List (Str × D)) (k : Str) : Option (Except Str D) := match l.lookup k with
  | some d => some (.ok d)
  | none => some (.error "field")
def toldM : OpK → List D → Option (Except Str D)
  | .add => num2 fun a b => some (.ok (.num (a + b)))
  | .sub => num2 fun a b => some (.ok (.num (a - b)))
  | .mul => num2 fun a b => if narrow a = true then some (.ok (.num (a * b))) else none
  | .same => word2 fun a b => some (.ok (.num (if a = b then 1 else 0)))
  | .head => row1 headM
  | .rest => row1 restM
  | .many => row1 fun l => some (.ok (.num (l.length : Int)))
  | .item => rowNum itemM
  | .put => rowNumAny putM
  | .field => rcdWord fieldM
section
variable (K : PySem.W.Frag) (R : Addr → Prop) (CF : Addr)
/-- data told, or a fault -/
def OutTo (r : Except Str D) (H : Hp) (Q : VK) (E : XK) : Prop := match r with
  | .ok d => ∀ (v : V) (H' : Hp), Same H H' → Rep K R H' d v → Q v H'
  | .error wd => FaultTo CF wd H E
def spTold (o : OpK) : Sp := fun vs H Q E => ∃ (R : Addr → Prop) (sv : V) (t : Addr) (xs : List V) (ds : List D) (r : Except Str D), vs = [sv, .ref t] ∧ SqT K H t xs ∧ RepL K R H ds xs ∧ toldM o ds = some r ∧ OutTo K R CF r H Q E
end
section
variable {P : Program} {w : World} {K : PySem.W.Frag} {mg : Str → Option Value} {base : Heap} {CF : Addr}
theorem RepL.two {R : Addr → Prop} {H : Hp} {a b : D} {xs : List V} (h : RepL K R H [a, b] xs) : ∃ x y, xs = [x, y] ∧ Rep K R H a x ∧ Rep K R H b y := by
  cases h with
  | cons h1 h2 => cases h2 with
    | cons h2 h3 => cases h3; exact ⟨_, _, rfl, h1, h2⟩
theorem RepL.one {R : Addr → Prop} {H : Hp} {a : D} {xs : List V} (h : RepL K R H [a] xs) : ∃ x, xs = [x] ∧ Rep K R H a x := by
  cases h with
  | cons h1 h2 => cases h2; exact ⟨_, rfl, h1⟩
theorem RepL.three {R : Addr → Prop} {H : Hp} {a b c : D} {xs : List V} (h : RepL K R H [a, b, c] xs) : ∃ x y z, xs = [x, y, z] ∧ Rep K R H a x ∧ Rep K R H b y ∧ Rep K R H c z := by
  cases h with
  | cons h1 h2 => cases h2 with
    | cons h2 h3 => cases h3 with
      | cons h3 h4 => cases h4; exact ⟨_, _, _, rfl, h1, h2, h3⟩
theorem Rep.num_inv {R : Addr → Prop} {H : Hp} {n : Int} {v : V} (h : Rep K R H (.num n) v) : v = .int n := by
  cases h
  rfl
theorem Rep.word_inv {R : Addr → Prop} {H : Hp} {x : Str} {v : V} (h : Rep K R H (.word x) v) : v = .str x := by
  cases h
  rfl
theorem Rep.row_inv {R : Addr → Prop} {H : Hp} {l : List D} {v : V} (h : Rep K R H (.row l) v) : ∃ a xs, v = .ref a ∧ SqT K H a xs ∧ RepL K R H l xs := by
  cases h with
  | row h1 h2 => exact ⟨_, _, rfl, h1, h2⟩
theorem Rep.rcd_inv {R : Addr → Prop} {H : Hp} {l : List (Str × D)} {v : V} (h : Rep K R H (.rcd l) v) : ∃ a kvs, v = .ref a ∧ R a ∧ H a = some (.dK kvs) ∧ RepK K R H l kvs := by
  cases h with
  | rcd h0 h1 h2 => exact ⟨_, _, rfl, h0, h1, h2⟩
theorem len_told (o : OpK) : ∀ vs H Q E, spTold K CF o vs H Q E → vs.length = (["self", "values"] : List Str).length := by
  rintro vs H Q E ⟨R, sv, t, xs, ds, r, rfl, _⟩
  rfl
/-! ### the three of arithmetic -/
theorem sc_Add_told : FnScope ["self", "values"] ["self", "values"] (defScope (inClass (top 27) 1)) := ⟨rfl, rfl, rfl, by decide +kernel, rfl, by decide +kernel, by decide +kernel⟩
theorem ok_told_add {C : Addr} (F : MeP K C "told" "told" "Add.told" (inClass (top 27) 1)) : MeCal P w K mg base (L2.CX P w) 4 C "told" ["self", "values"] (spTold K CF .add) := by
  refine F.cal sc_Add_told (fun _ _ _ _ _ _ us hl => match us, hl with | [_, _], _ => rfl) (len_told .add) (fun f cdv A outer s H vs Q E hr h => ?_)
  obtain ⟨R, sv, t, xs, ds, r, rfl, ht, hl, e, q⟩ := h
  obtain ⟨a, b, rfl, e1⟩ := num2_some e
  obtain ⟨x, y, rfl, ha, hb⟩ := hl.two
  cases ha.num_inv
  cases hb.num_inv
  cases e1
  refine ⟨_, PSs.nox (pss_one (ps_ret (pe_op op_add (pe_ix ix_tup (pv 1) pe_int (fun _ _ => rfl)) (pe_ix ix_tup (pv 1) pe_int (fun _ _ => rfl))))), ?_⟩
  exact ⟨_, rfl, _, _, _, _, rfl, rfl, ht, atI_nat (j := 0) rfl, _, rfl, _, _, _, _, rfl, rfl, ht, atI_nat (j := 1) rfl, _, _, rfl, rfl, q _ _ (Same.refl _) (.num _)⟩
theorem sc_Sub_told : FnScope ["self", "values"] ["self", "values"] (defScope (inClass (top 28) 1)) := ⟨rfl, rfl, rfl, by decide +kernel, rfl, by decide +kernel, by decide +kernel⟩
theorem ok_told_sub {C : Addr} (F : MeP K C "told" "told" "Sub.told" (inClass (top 28) 1)) : MeCal P w K mg base (L2.CX P w) 4 C "told" ["self", "values"] (spTold K CF .sub) := by
  refine F.cal sc_Sub_told (fun _ _ _ _ _ _ us hl => match us, hl with | [_, _], _ => rfl) (len_told .sub) (fun f cdv A outer s H vs Q E hr h => ?_)
  obtain ⟨R, sv, t, xs, ds, r, rfl, ht, hl, e, q⟩ := h
  obtain ⟨a, b, rfl, e1⟩ := num2_some e
  obtain ⟨x, y, rfl, ha, hb⟩ := hl.two
  cases ha.num_inv
  cases hb.num_inv
  cases e1
  refine ⟨_, PSs.nox (pss_one (ps_ret (pe_op op_sub (pe_ix ix_tup (pv 1) pe_int (fun _ _ => rfl)) (pe_ix ix_tup (pv 1) pe_int (fun _ _ => rfl))))), ?_⟩
  exact ⟨_, rfl, _, _, _, _, rfl, rfl, ht, atI_nat (j := 0) rfl, _, rfl, _, _, _, _, rfl, rfl, ht, atI_nat (j := 1) rfl, _, _, rfl, rfl, q _ _ (Same.refl _) (.num _)⟩
theorem narrow_iff {n : Int} : narrow n = true ↔ -1000000000000000000 < n ∧ n < 1000000000000000000 := by
  unfold narrow
  rw [Bool.and_eq_true, decide_eq_true_iff, decide_eq_true_iff]
theorem sc_Mul_told : FnScope ["self", "values"] ["self", "values"] (defScope (inClass (top 29) 1)) := ⟨rfl, rfl, rfl, by decide +kernel, rfl, by decide +kernel, by decide +kernel⟩
theorem ok_told_mul {C : Addr} (F : MeP K C "told" "told" "Mul.told" (inClass (top 29) 1)) : MeCal P w K mg base (L2.CX P w) 4 C "told" ["self", "values"] (spTold K CF .mul) := by
  refine F.cal sc_Mul_told (fun _ _ _ _ _ _ us hl => match us, hl with | [_, _], _ => rfl) (len_told .mul) (fun f cdv A outer s H vs Q E hr h => ?_)
  obtain ⟨R, sv, t, xs, ds, r, rfl, ht, hl, e, q⟩ := h
  obtain ⟨a, b, rfl, e1⟩ := num2_some e
  obtain ⟨x, y, rfl, ha, hb⟩ := hl.two
  cases ha.num_inv
  cases hb.num_inv
  have e2 := e1
  by_cases hn : narrow a = true
  · rw [if_pos hn] at e2
    cases e2
    have hb := narrow_iff.mp hn
    refine ⟨_, PSs.nox (pss_one (ps_ret (pe_op op_mul (pe_ix ix_tup (pv 1) pe_int (fun _ _ => rfl)) (pe_ix ix_tup (pv 1) pe_int (fun _ _ => rfl))))), ?_⟩
    exact ⟨_, rfl, _, _, _, _, rfl, rfl, ht, atI_nat (j := 0) rfl, _, rfl, _, _, _, _, rfl, rfl, ht, atI_nat (j := 1) rfl, _, _, rfl, rfl, .inl ⟨by omega, by omega⟩, q _ _ (Same.refl _) (.num _)⟩
  · rw [if_neg hn] at e2
    cases e2
/-! ### same -/
theorem sc_Same_told : FnScope ["self", "values"] ["self", "values"] (defScope (inClass (top 33) 1)) := ⟨rfl, rfl, rfl, by decide +kernel, rfl, by decide +kernel, by decide +kernel⟩
theorem ok_told_same {C : Addr} (X : Fx mg) (F : MeP K C "told" "told" "Same.told" (inClass (top 33) 1)) : MeCal P w K mg base (L2.CX P w) 4 C "told" ["self", "values"] (spTold K CF .same) := by
  refine F.cal sc_Same_told (fun _ _ _ _ _ _ us hl => match us, hl with | [_, _], _ => rfl) (len_told .same) (fun f cdv A outer s H vs Q E hr h => ?_)
  obtain ⟨R, sv, t, xs, ds, r, rfl, ht, hl, e, q⟩ := h
  obtain ⟨a, b, rfl, e1⟩ := word2_some e
  obtain ⟨x, y, rfl, ha, hb⟩ := hl.two
  cases ha.word_inv
  cases hb.word_inv
  cases e1
  refine ⟨_, PSs.nox (pss_one (ps_ret (pe_callTy (call_int1) rfl X.int (by decide +kernel) (pa_cons (pe_cmpR op_eq (pe_ix ix_tup (pv 1) pe_int (fun _ _ => rfl)) (pe_ix ix_tup (pv 1) pe_int (fun _ _ => rfl)) (nomark _)) pa_nil)))), ?_⟩
  refine ⟨_, rfl, _, _, _, _, rfl, rfl, ht, atI_nat (j := 0) rfl, _, rfl, _, _, _, _, rfl, rfl, ht, atI_nat (j := 1) rfl, rfl, .inr ⟨_, rfl, ?_⟩⟩
  have ez : (if decide (V.str a = V.str b) = true then (1 : Int) else 0) = if a = b then 1 else 0 := by
    by_cases c : a = b
    · subst c
      rw [if_pos rfl, if_pos (decide_eq_true rfl)]
    · rw [if_neg c, if_neg]
      intro z
      exact c (V.str.inj (of_decide_eq_true z))
  rw [ez]
  exact q _ _ (Same.refl _) (.num _)
/-! ### head, rest, many -/
theorem sc_Head_told : FnScope ["self", "values"] ["self", "values"] (defScope (inClass (top 37) 1)) := ⟨rfl, rfl, rfl, by decide +kernel, rfl, by decide +kernel, by decide +kernel⟩
theorem ok_told_head {C : Addr} (X : Fx mg) (c_Fault : FltCal P w K mg base CF) (F : MeP K C "told" "told" "Head.told" (inClass (top 37) 1)) : MeCal P w K mg base (L2.CX P w) 4 C "told" ["self", "values"] (spTold K CF .head) := by
  refine F.cal sc_Head_told (fun _ _ _ _ _ _ us hl => match us, hl with | [_, _], _ => rfl) (len_told .head) (fun f cdv A outer s H vs Q E hr h => ?_)
  have hr2 : Room 2 _ := hr.mono (by decide)
  obtain ⟨R, sv, t, xs, ds, r, rfl, ht, hl, e, q⟩ := h
  obtain ⟨l, rfl, e1⟩ := row1_some e
  obtain ⟨x, rfl, ha⟩ := hl.one
  obtain ⟨a, ys, rfl, hy, hl2⟩ := ha.row_inv
  refine ⟨_, (pss_cons (ps_if (pt_cmpR op_eq (pe_callB (call_len_seq) rfl X.len (by decide +kernel) (pa_cons (pe_ix ix_tup (pv 1) pe_int (fun _ _ => rfl)) pa_nil)) pe_int (nomark _)) (pss_one (ps_raiseF rfl c_Fault hr2 (takes_of rfl rfl rfl rfl))) pss_nil)
      (pss_one (ps_ret (pe_ix ix_tup (pe_ix ix_tup (pv 1) pe_int (fun _ _ => rfl)) pe_int (fun _ _ => rfl))))), ?_⟩
  refine ⟨_, rfl, _, _, _, _, rfl, rfl, ht, atI_nat (j := 0) rfl, _, _, rfl, .inr hy, rfl, _, rfl, ?_⟩
  cases hl2 with
  | nil =>
    cases e1
    exact iteT q
  | @cons d v ds vs hd hr' =>
    cases e1
    exact iteF ⟨_, rfl, _, _, _, _, rfl, rfl, ht, atI_nat (j := 0) rfl, _, _, _, _, rfl, rfl, hy, atI_nat (j := 0) rfl, q _ _ (Same.refl _) hd⟩
theorem sc_Rest_told : FnScope ["self", "values"] ["self", "values"] (defScope (inClass (top 38) 1)) := ⟨rfl, rfl, rfl, by decide +kernel, rfl, by decide +kernel, by decide +kernel⟩
theorem ok_told_rest {C : Addr} (X : Fx mg) (c_Fault : FltCal P w K mg base CF) (F : MeP K C "told" "told" "Rest.told" (inClass (top 38) 1)) : MeCal P w K mg base (L2.CX P w) 4 C "told" ["self", "values"] (spTold K CF .rest) := by
  refine F.cal sc_Rest_told (fun _ _ _ _ _ _ us hl => match us, hl with | [_, _], _ => rfl) (len_told .rest) (fun f cdv A outer s H vs Q E hr h => ?_)
  have hr2 : Room 2 _ := hr.mono (by decide)
  obtain ⟨R, sv, t, xs, ds, r, rfl, ht, hl, e, q⟩ := h
  obtain ⟨l, rfl, e1⟩ := row1_some e
  obtain ⟨x, rfl, ha⟩ := hl.one
  obtain ⟨a, ys, rfl, hy, hl2⟩ := ha.row_inv
  refine ⟨_, (pss_cons (ps_if (pt_cmpR op_eq (pe_callB (call_len_seq) rfl X.len (by decide +kernel) (pa_cons (pe_ix ix_tup (pv 1) pe_int (fun _ _ => rfl)) pa_nil)) pe_int (nomark _)) (pss_one (ps_raiseF rfl c_Fault hr2 (takes_of rfl rfl rfl rfl))) pss_nil)
      (pss_one (ps_ret (pe_slice sl_tupA (pe_ix ix_tup (pv 1) pe_int (fun _ _ => rfl)) (po_some pe_int) po_none)))), ?_⟩
  refine ⟨_, rfl, _, _, _, _, rfl, rfl, ht, atI_nat (j := 0) rfl, _, _, rfl, .inr hy, rfl, _, rfl, ?_⟩
  cases hl2 with
  | nil =>
    cases e1
    exact iteT q
  | @cons d v ds vs hd hr' =>
    cases e1
    refine iteF ⟨_, rfl, _, _, _, _, rfl, rfl, ht, atI_nat (j := 0) rfl, _, rfl, _, _, rfl, hy, ?_, fun _ p np => ?_⟩
    · intro z
      exfalso
      have z1 := z.1
      rw [show (some (1 : Int)) = some ((1 : Nat) : Int) from rfl, HT.sIx_nat] at z1
      rw [List.length_cons] at z1
      omega
    · have ec : cutV (v :: vs) (some 1) none = vs := by
        unfold cutV
        rw [show (some (1 : Int)) = some ((1 : Nat) : Int) from rfl, HT.sIx_nat, HT.sIx_none, List.length_cons, Nat.min_eq_left (by omega)]
        show List.take (vs.length + 1 - 1) vs = vs
        rw [Nat.add_sub_cancel, List.take_length]
      rw [ec]
      exact q _ _ (Same.new np) (.row (SqT.of upd_same) (hr'.same (Same.new np)))
theorem sc_Many_told : FnScope ["self", "values"] ["self", "values"] (defScope (inClass (top 39) 1)) := ⟨rfl, rfl, rfl, by decide +kernel, rfl, by decide +kernel, by decide +kernel⟩
theorem ok_told_many {C : Addr} (X : Fx mg) (F : MeP K C "told" "told" "Many.told" (inClass (top 39) 1)) : MeCal P w K mg base (L2.CX P w) 4 C "told" ["self", "values"] (spTold K CF .many) := by
  refine F.cal sc_Many_told (fun _ _ _ _ _ _ us hl => match us, hl with | [_, _], _ => rfl) (len_told .many) (fun f cdv A outer s H vs Q E hr h => ?_)
  obtain ⟨R, sv, t, xs, ds, r, rfl, ht, hl, e, q⟩ := h
  obtain ⟨l, rfl, e1⟩ := row1_some e
  obtain ⟨x, rfl, ha⟩ := hl.one
  obtain ⟨a, ys, rfl, hy, hl2⟩ := ha.row_inv
  cases e1
  refine ⟨_, PSs.nox (pss_one (ps_ret (pe_callB (call_len_seq) rfl X.len (by decide +kernel) (pa_cons (pe_ix ix_tup (pv 1) pe_int (fun _ _ => rfl)) pa_nil)))), ?_⟩
  refine ⟨_, rfl, _, _, _, _, rfl, rfl, ht, atI_nat (j := 0) rfl, _, _, rfl, .inr hy, ?_⟩
  rw [hl2.len]
  exact q _ _ (Same.refl _) (.num _)
/-! ### places -/
def spAskPlace (K : PySem.W.Frag) (CF : Addr) : Sp := fun vs H Q E => ∃ (a : Addr) (xs : List V) (i : Int), vs = [.ref a, .int i] ∧ SqT K H a xs ∧ if 0 ≤ i ∧ i < (xs.length : Int) then Q .non H else FaultTo CF "place" H E
theorem sc_ask_place : FnScope ["row", "at"] ["row", "at"] (defScope (top 40)) := ⟨rfl, rfl, rfl, by decide +kernel, rfl, by decide +kernel, by decide +kernel⟩
theorem ok_ask_place (X : Fx mg) (c_Fault : FltCal P w K mg base CF) (F : FnP K mg "ask_place" "ask_place" (top 40)) : Cal P w K mg base (L2.CX P w) 3 "ask_place" ["row", "at"] (spAskPlace K CF) := by
  refine F.cal sc_ask_place (fun _ _ _ _ _ _ us hl => match us, hl with | [_, _], _ => rfl) (fun vs H Q E h => ?_) (fun f cdv A outer s H vs Q E hr h => ?_)
  · obtain ⟨a, xs, i, rfl, _⟩ := h
    rfl
  have hr2 : Room 2 _ := hr.mono (by decide)
  obtain ⟨a, xs, i, rfl, hx, q⟩ := h
  refine ⟨_, (pss_one (ps_if (PW.pt (pw_or (pt_cmpR op_lt (pv 1) pe_int (nomark _)) (pw_or1 (pt_cmpR op_ge (pv 1) (pe_callB (call_len_seq) rfl X.len (by decide +kernel) (pa_cons (pv 0) pa_nil)) (nomark _))))) (pss_one (ps_raiseF rfl c_Fault hr2 (takes_of rfl rfl rfl rfl))) pss_nil)), ?_⟩
  refine ⟨_, rfl, _, _, rfl, rfl, _, rfl, ?_⟩
  by_cases h1 : i < 0
  · rw [if_neg (by omega)] at q
    rw [decide_eq_true h1]
    exact iteT (iteT q)
  · rw [decide_eq_false h1]
    refine iteF ⟨_, rfl, _, rfl, _, _, rfl, .inr hx, _, _, rfl, rfl, _, rfl, ?_⟩
    by_cases h2 : i < (xs.length : Int)
    · rw [if_pos ⟨by omega, h2⟩] at q
      rw [decide_eq_false (by omega)]
      exact iteF q
    · rw [if_neg (by omega)] at q
      rw [decide_eq_true (by omega)]
      exact iteT q
theorem sc_Item_told : FnScope ["self", "values"] ["self", "values"] (defScope (inClass (top 41) 1)) := ⟨rfl, rfl, rfl, by decide +kernel, rfl, by decide +kernel, by decide +kernel⟩
theorem ok_told_item {C : Addr} (X : Fx mg) (c_ask_place : Cal P w K mg base (L2.CX P w) 3 "ask_place" ["row", "at"] (spAskPlace K CF)) (F : MeP K C "told" "told" "Item.told" (inClass (top 41) 1)) : MeCal P w K mg base (L2.CX P w) 4 C "told" ["self", "values"] (spTold K CF .item) := by
  refine F.cal sc_Item_told (fun _ _ _ _ _ _ us hl => match us, hl with | [_, _], _ => rfl) (len_told .item) (fun f cdv A outer s H vs Q E hr h => ?_)
  obtain ⟨R, sv, t, xs, ds, r, rfl, ht, hl, e, q⟩ := h
  obtain ⟨l, i, rfl, e1⟩ := rowNum_some e
  obtain ⟨x, y, rfl, ha, hb⟩ := hl.two
  obtain ⟨a, ys, rfl, hy, hl2⟩ := ha.row_inv
  cases hb.num_inv
  refine ⟨_, (pss_cons (ps_expr (pe_cal c_ask_place hr (passes_call (takes_of rfl rfl rfl rfl) fun _ _ _ _ z => z) (pa_cons (pe_ix ix_tup (pv 1) pe_int (fun _ _ => rfl)) (pa_cons (pe_ix ix_tup (pv 1) pe_int (fun _ _ => rfl)) pa_nil))))
      (pss_one (ps_ret (pe_ix ix_tup (pe_ix ix_tup (pv 1) pe_int (fun _ _ => rfl)) (pe_ix ix_tup (pv 1) pe_int (fun _ _ => rfl)) (fun _ _ => rfl))))), ?_⟩
  refine ⟨_, rfl, _, _, _, _, rfl, rfl, ht, atI_nat (j := 0) rfl, _, rfl, _, _, _, _, rfl, rfl, ht, atI_nat (j := 1) rfl, a, ys, i, rfl, hy, ?_⟩
  rw [hl2.len]
  unfold itemM at e1
  by_cases hi : 0 ≤ i ∧ i < (l.length : Int)
  · rw [if_pos (show inRow l i from hi)] at e1
    rw [if_pos hi]
    obtain ⟨d, hd, e2⟩ := Option.map_eq_some_iff.mp e1
    subst e2
    obtain ⟨v, hv, rv⟩ := hl2.get hd
    refine ⟨_, rfl, _, _, _, _, rfl, rfl, ht, atI_nat (j := 0) rfl, _, rfl, _, _, _, _, rfl, rfl, ht, atI_nat (j := 1) rfl, _, _, _, _, rfl, rfl, hy, ?_, q _ _ (Same.refl _) rv⟩
    have ei : i = ((i.toNat : Nat) : Int) := by omega
    rw [ei]
    exact atI_nat hv
  · rw [if_neg (show ¬ inRow l i from hi)] at e1
    rw [if_neg hi]
    cases e1
    exact q
theorem sc_Put_told : FnScope ["self", "values", "row", "at", "value"] ["self", "values"] (defScope (inClass (top 42) 1)) := ⟨rfl, rfl, rfl, by decide +kernel, rfl, by decide +kernel, by decide +kernel⟩
theorem put_cut {xs : List V} {j : Nat} (hj : j < xs.length) (x : V) : xs.take j ++ ([x] ++ xs.drop (j + 1)) = xs.set j x := by
  rw [List.set_eq_take_append_cons_drop, if_pos hj]
  rfl
theorem cut_lo {xs : List V} {j : Nat} (hj : j ≤ xs.length) : cutV xs none (some (j : Int)) = xs.take j := by
  unfold cutV
  rw [HT.sIx_none, HT.sIx_nat, Nat.min_eq_left hj]
  rfl
theorem cut_hi {xs : List V} {j : Nat} (hj : j ≤ xs.length) : cutV xs (some (j : Int)) none = xs.drop j := by
  unfold cutV
  rw [HT.sIx_none, HT.sIx_nat, Nat.min_eq_left hj, List.take_of_length_le]
  rw [List.length_drop]
  exact Nat.le_refl _
/-- t[:j], whole or not -/
theorem sl_lo {a : Addr} {xs : List V} {j : Nat} {i : Int} {H : Hp} {Q : VK} (ei : i = (j : Int)) (hj : j ≤ xs.length) (h : SqT K H a xs) (q : ∀ p H', Same H H' → SqT K H' p (xs.take j) → Q (.ref p) H') : rSlA K (.ref a) none (some i) H Q := by
  subst ei
  refine ⟨a, xs, rfl, h, fun z => ?_, fun _ p np => ?_⟩
  · refine q a H (Same.refl _) ?_
    have e := z.2
    rw [HT.sIx_nat, Nat.min_eq_left hj] at e
    rw [e, List.take_length]
    exact h
  · rw [cut_lo hj]
    exact q p _ (Same.new np) (SqT.of upd_same)
theorem sl_hi {a : Addr} {xs : List V} {j : Nat} {i : Int} {H : Hp} {Q : VK} (ei : i = (j : Int)) (hj : j ≤ xs.length) (h : SqT K H a xs) (q : ∀ p H', Same H H' → SqT K H' p (xs.drop j) → Q (.ref p) H') : rSlA K (.ref a) (some i) none H Q := by
  subst ei
  refine ⟨a, xs, rfl, h, fun z => ?_, fun _ p np => ?_⟩
  · refine q a H (Same.refl _) ?_
    have e := z.1
    rw [HT.sIx_nat, Nat.min_eq_left hj] at e
    rw [e, List.drop_zero]
    exact h
  · rw [cut_hi hj]
    exact q p _ (Same.new np) (SqT.of upd_same)
/-- t + u, whatever they are -/
theorem cat_any {a b : Addr} {xs ys : List V} {H : Hp} {Q : VK} (h : SqT K H a xs) (h' : SqT K H b ys) (hz : xs.length + ys.length ≤ sizeLine) (q : ∀ p H', Same H H' → SqT K H' p (xs ++ ys) → Q (.ref p) H') : rCatA K (.ref a) (.ref b) H Q := by
  refine ⟨a, b, xs, ys, rfl, rfl, h, h', hz, fun e => ?_, fun _ e => ?_, fun _ _ p np => q p _ (Same.new np) (SqT.of upd_same)⟩
  · refine q b H (Same.refl _) ?_
    rw [e]
    exact h'
  · refine q a H (Same.refl _) ?_
    rw [e, List.append_nil]
    exact h
theorem sz1000 {n : Nat} (h : n ≤ 2000) : n ≤ sizeLine := Nat.le_trans h (by decide)
theorem RepL.set {R : Addr → Prop} {H : Hp} : ∀ {ds : List D} {vs : List V} (j : Nat) {d : D} {v : V}, RepL K R H ds vs → Rep K R H d v → RepL K R H (ds.set j d) (vs.set j v)
  | _, _, _, _, _, .nil, _ => .nil
  | _, _, 0, _, _, .cons _ r, s => .cons s r
  | _, _, j + 1, _, _, .cons h r, s => .cons h (r.set j s)
theorem ok_told_put {C : Addr} (X : Fx mg) (c_ask_place : Cal P w K mg base (L2.CX P w) 3 "ask_place" ["row", "at"] (spAskPlace K CF)) (F : MeP K C "told" "told" "Put.told" (inClass (top 42) 1)) : MeCal P w K mg base (L2.CX P w) 4 C "told" ["self", "values"] (spTold K CF .put) := by
  refine F.cal sc_Put_told (fun _ _ _ _ _ _ us hl => match us, hl with | [_, _], _ => rfl) (len_told .put) (fun f cdv A outer s H vs Q E hr h => ?_)
  obtain ⟨R, sv, t, xs, ds, r, rfl, ht, hl, e, q⟩ := h
  obtain ⟨l, i, x, rfl, e1⟩ := rowNumAny_some e
  obtain ⟨u, y, z, rfl, ha, hb, hc⟩ := hl.three
  obtain ⟨a, ys, rfl, hy, hl2⟩ := ha.row_inv
  cases hb.num_inv
  refine ⟨_, (pss_cons (ps_asg (pv 1) (pg_tup rfl (pgs_cons (pg_name (i := 2) sc_Put_told.nd rfl (Or.inl rfl)) (pgs_cons (pg_name (i := 3) sc_Put_told.nd rfl (Or.inl rfl)) (pgs_cons (pg_name (i := 4) sc_Put_told.nd rfl (Or.inl rfl)) pgs_nil)))))
      (pss_cons (ps_expr (pe_cal c_ask_place hr (passes_call (takes_of rfl rfl rfl rfl) fun _ _ _ _ z => z) (pa_cons (pv 2) (pa_cons (pv 3) pa_nil))))
      (pss_one (ps_ret (pe_op op_catA (pe_op op_catA (pe_slice sl_tupA (pv 2) po_none (po_some (pv 3))) (pe_tup (pa_cons (pv 4) pa_nil))) (pe_slice sl_tupA (pv 2) (po_some (pe_op op_add (pv 3) pe_int)) po_none)))))), ?_⟩
  refine ⟨_, rfl, t, _, rfl, ht, rfl, ?_⟩
  refine ⟨_, _, rfl, _, _, rfl, _, _, rfl, rfl, ?_⟩
  refine ⟨_, rfl, _, rfl, a, ys, i, rfl, hy, ?_⟩
  unfold putM at e1
  by_cases hz : l.length ≤ 1000
  · rw [if_pos hz] at e1
    rw [hl2.len]
    by_cases hi : 0 ≤ i ∧ i < (l.length : Int)
    · rw [if_pos (show inRow l i from hi)] at e1
      rw [if_pos hi]
      cases e1
      obtain ⟨j, rfl⟩ : ∃ j : Nat, i = (j : Int) := ⟨i.toNat, by omega⟩
      have hj : j < ys.length := by rw [hl2.len]; omega
      refine ⟨_, rfl, _, rfl, _, rfl, sl_lo rfl (Nat.le_of_lt hj) hy fun p1 H1 s1 t1 => ?_⟩
      refine ⟨_, rfl, by show 1 ≤ sizeLine; decide, fun p2 n2 => ?_⟩
      have s2 : Same H1 (upd H1 p2 (.tup [z])) := Same.new n2
      refine cat_any (seqT s2 t1) (SqT.of upd_same) (sz1000 (by rw [List.length_take, List.length_singleton]; omega)) fun p3 H3 s3 t3 => ?_
      have s03 : Same H H3 := s1.trans (s2.trans s3)
      refine ⟨_, rfl, _, rfl, _, _, rfl, rfl, _, rfl, ?_⟩
      unfold tNoPart
      refine sl_hi (j := j + 1) (Int.natCast_succ j).symm hj (seqT s03 hy) fun p4 H4 s4 t4 => ?_
      refine cat_any (seqT s4 t3) t4 (sz1000 ?_) fun p5 H5 s5 t5 => ?_
      · rw [List.length_append, List.length_take, List.length_singleton, List.length_drop, hl2.len]
        omega
      · have s05 : Same H H5 := s03.trans (s4.trans s5)
        rw [List.append_assoc, put_cut hj] at t5
        exact q _ _ s05 (.row t5 ((hl2.set j hc).same s05))
    · rw [if_neg (show ¬ inRow l i from hi)] at e1
      rw [if_neg hi]
      cases e1
      exact q
  · rw [if_neg hz] at e1
    cases e1
theorem sc_Field_told : FnScope ["self", "values", "record", "word"] ["self", "values"] (defScope (inClass (top 43) 1)) := ⟨rfl, rfl, rfl, by decide +kernel, rfl, by decide +kernel, by decide +kernel⟩
theorem ok_told_field {C : Addr} (X : Fx mg) (c_Fault : FltCal P w K mg base CF) (F : MeP K C "told" "told" "Field.told" (inClass (top 43) 1)) : MeCal P w K mg base (L2.CX P w) 4 C "told" ["self", "values"] (spTold K CF .field) := by
  refine F.cal sc_Field_told (fun _ _ _ _ _ _ us hl => match us, hl with | [_, _], _ => rfl) (len_told .field) (fun f cdv A outer s H vs Q E hr h => ?_)
  have hr2 : Room 2 _ := hr.mono (by decide)
  have hu := hu_of hr
  obtain ⟨R, sv, t, xs, ds, r, rfl, ht, hl, e, q⟩ := h
  obtain ⟨l, k, rfl, e1⟩ := rcdWord_some e
  obtain ⟨x, y, rfl, ha, hb⟩ := hl.two
  obtain ⟨a, kvs, rfl, hR, hy, hl2⟩ := ha.rcd_inv
  cases hb.word_inv
  refine ⟨_, (pss_cons (ps_asg (pv 1) (pg_tup rfl (pgs_cons (pg_name (i := 2) sc_Field_told.nd rfl (Or.inl rfl)) (pgs_cons (pg_name (i := 3) sc_Field_told.nd rfl (Or.inl rfl)) pgs_nil))))
      (pss_cons (ps_if (pt_cmp (pc_dnotin hu (pv 3) (pv 2))) (pss_one (ps_raiseF rfl c_Fault hr2 (takes_of rfl rfl rfl rfl))) pss_nil)
      (pss_one (ps_ret (pe_dget hu (pv 2) (pv 3) (fun _ _ => rfl)))))), ?_⟩
  refine ⟨_, rfl, t, _, rfl, ht, rfl, ?_⟩
  refine ⟨_, _, rfl, _, _, rfl, rfl, ?_⟩
  refine ⟨_, rfl, _, rfl, a, _, rfl, DGet.k (k := Sum.inr k) hy, _, rfl, ?_⟩
  unfold fieldM at e1
  cases el : l.lookup k with
  | none =>
    rw [el] at e1
    cases e1
    rw [hl2.none el]
    exact iteT q
  | some d =>
    rw [el] at e1
    cases e1
    obtain ⟨v, ev, rv⟩ := hl2.val el
    have g := DGet.k (k := Sum.inr k) hy
    rw [ev] at g ⊢
    exact iteF ⟨_, rfl, _, rfl, a, v, rfl, g, q _ _ (Same.refl _) rv⟩
end
end Fk
set_option maxHeartbeats 4000000
/-! ## op_of, answer -/
namespace Fk
open PySem PySem.Spec PyProof.Rows L2
/-- the ops' classes: made, known -/
structure OpsP (P : Program) (w : World) (K : PySem.W.Frag) (mg : Str → Option Value) (base : Heap) (cA : OpK → Addr) : Prop where
  c : ∀ o, OpC K (cA o)
  make : ∀ o, MkCal P w K mg base CX0 2 o.cls (cA o) ["self"] (spOInit K o.word o.kinds)
/-- an op stands at p -/
def IsOp (cA : OpK → Addr) (H : Hp) (o : OpK) (p : Addr) : Prop := ∃ dx t, H p = some (.ins (cA o) dx (opF o.word o.kinds.length t)) ∧ H t = some (.tup (o.kinds.map V.str))
def spOpOf (cA : OpK → Addr) : Sp := fun vs H Q _ => ∃ o : OpK, vs = [.str o.word] ∧ ∀ p H', Same H H' → H p = none → IsOp cA H' o p → Q (.ref p) H'
section
variable {P : Program} {w : World} {K : PySem.W.Frag} {mg : Str → Option Value} {base : Heap} {CF : Addr} {cA : OpK → Addr}
/-- C() of an op's class -/
theorem op_made {o : OpK} {H : Hp} {Q : VK} {E : XK} {σ : L2.St} (c : OpC K (cA o)) (q : ∀ p H', Same H H' → H p = none → IsOp cA H' o p → Q (.ref p) H') : tMake (cA o) (spOInit K o.word o.kinds) [] E tNil σ H Q := by
  intro x dx nx nd ne
  refine ⟨x, dx, cA o, rfl, upd_same, c, fun t nt => ⟨rfl, ?_⟩⟩
  have h1 : t ≠ x := by
    rintro rfl
    rw [upd_same] at nt
    cases nt
  rw [upd_ne h1] at nt
  have h2 : t ≠ dx := by
    rintro rfl
    rw [upd_same] at nt
    cases nt
  rw [upd_ne h2] at nt
  refine q x _ (fun b u e => ?_) nx ⟨dx, t, upd_same, by rw [upd_ne h1, upd_same]⟩
  rw [upd_ne (ne_of_none e nx), upd_ne (ne_of_none e nt), upd_ne (ne_of_none e nx), upd_ne (ne_of_none e nd)]
  exact e
theorem sc_op_of : FnScope ["word"] ["word"] (defScope (top 45)) := ⟨rfl, rfl, rfl, by decide +kernel, rfl, by decide +kernel, by decide +kernel⟩
theorem ok_op_of (X : Fx mg) (O : OpsP P w K mg base cA) (F : FnP K mg "op_of" "op_of" (top 45)) : Cal P w K mg base CX0 4 "op_of" ["word"] (spOpOf cA) := by
  have c_Add : MkCal P w K mg base CX0 2 "Add" (cA .add) ["self"] (spOInit K (OpK.word .add) (OpK.kinds .add)) := O.make .add
  have c_Sub : MkCal P w K mg base CX0 2 "Sub" (cA .sub) ["self"] (spOInit K (OpK.word .sub) (OpK.kinds .sub)) := O.make .sub
  have c_Mul : MkCal P w K mg base CX0 2 "Mul" (cA .mul) ["self"] (spOInit K (OpK.word .mul) (OpK.kinds .mul)) := O.make .mul
  have c_Same : MkCal P w K mg base CX0 2 "Same" (cA .same) ["self"] (spOInit K (OpK.word .same) (OpK.kinds .same)) := O.make .same
  have c_Head : MkCal P w K mg base CX0 2 "Head" (cA .head) ["self"] (spOInit K (OpK.word .head) (OpK.kinds .head)) := O.make .head
  have c_Rest : MkCal P w K mg base CX0 2 "Rest" (cA .rest) ["self"] (spOInit K (OpK.word .rest) (OpK.kinds .rest)) := O.make .rest
  have c_Many : MkCal P w K mg base CX0 2 "Many" (cA .many) ["self"] (spOInit K (OpK.word .many) (OpK.kinds .many)) := O.make .many
  have c_Item : MkCal P w K mg base CX0 2 "Item" (cA .item) ["self"] (spOInit K (OpK.word .item) (OpK.kinds .item)) := O.make .item
  have c_Put : MkCal P w K mg base CX0 2 "Put" (cA .put) ["self"] (spOInit K (OpK.word .put) (OpK.kinds .put)) := O.make .put
  have c_Field : MkCal P w K mg base CX0 2 "Field" (cA .field) ["self"] (spOInit K (OpK.word .field) (OpK.kinds .field)) := O.make .field
  refine F.cal sc_op_of (fun _ _ _ _ _ _ us hl => match us, hl with | [_], _ => rfl) (fun vs H Q E h => ?_) (fun f cdv A outer s H vs Q E hr h => ?_)
  · obtain ⟨o, rfl, _⟩ := h
    rfl
  · obtain ⟨o, rfl, q⟩ := h
    refine ⟨_, PSs.nox (pss_cons (ps_if (pt_cmpR op_eq (pv 0) pe_str (nomark _)) (pss_one (ps_ret (pe_mk0 c_Add hr pass0))) pss_nil)
      (pss_cons (ps_if (pt_cmpR op_eq (pv 0) pe_str (nomark _)) (pss_one (ps_ret (pe_mk0 c_Sub hr pass0))) pss_nil)
      (pss_cons (ps_if (pt_cmpR op_eq (pv 0) pe_str (nomark _)) (pss_one (ps_ret (pe_mk0 c_Mul hr pass0))) pss_nil)
      (pss_cons (ps_if (pt_cmpR op_eq (pv 0) pe_str (nomark _)) (pss_one ps_never) pss_nil)
      (pss_cons (ps_if (pt_cmpR op_eq (pv 0) pe_str (nomark _)) (pss_one ps_never) pss_nil)
      (pss_cons (ps_if (pt_cmpR op_eq (pv 0) pe_str (nomark _)) (pss_one ps_never) pss_nil)
      (pss_cons (ps_if (pt_cmpR op_eq (pv 0) pe_str (nomark _)) (pss_one (ps_ret (pe_mk0 c_Same hr pass0))) pss_nil)
      (pss_cons (ps_if (pt_cmpR op_eq (pv 0) pe_str (nomark _)) (pss_one ps_never) pss_nil)
      (pss_cons (ps_if (pt_cmpR op_eq (pv 0) pe_str (nomark _)) (pss_one ps_never) pss_nil)
      (pss_cons (ps_if (pt_cmpR op_eq (pv 0) pe_str (nomark _)) (pss_one ps_never) pss_nil)
      (pss_cons (ps_if (pt_cmpR op_eq (pv 0) pe_str (nomark _)) (pss_one (ps_ret (pe_mk0 c_Head hr pass0))) pss_nil)
      (pss_cons (ps_if (pt_cmpR op_eq (pv 0) pe_str (nomark _)) (pss_one (ps_ret (pe_mk0 c_Rest hr pass0))) pss_nil)
      (pss_cons (ps_if (pt_cmpR op_eq (pv 0) pe_str (nomark _)) (pss_one (ps_ret (pe_mk0 c_Many hr pass0))) pss_nil)
      (pss_cons (ps_if (pt_cmpR op_eq (pv 0) pe_str (nomark _)) (pss_one (ps_ret (pe_mk0 c_Item hr pass0))) pss_nil)
      (pss_cons (ps_if (pt_cmpR op_eq (pv 0) pe_str (nomark _)) (pss_one (ps_ret (pe_mk0 c_Put hr pass0))) pss_nil)
      (pss_cons (ps_if (pt_cmpR op_eq (pv 0) pe_str (nomark _)) (pss_one (ps_ret (pe_mk0 c_Field hr pass0))) pss_nil)
      (pss_cons (ps_if (pt_cmpR op_eq (pv 0) pe_str (nomark _)) (pss_one ps_never) pss_nil)
      (pss_one ps_never)))))))))))))))))), ?_⟩
    have no : ∀ {a b : Str} {A B : Prop}, ¬ a = b → B → (if decide (V.str a = V.str b) = true then A else B) := fun {a b A B} h k => by
      rw [if_neg]
      · exact k
      · intro z
        exact h (V.str.inj (of_decide_eq_true z))
    have yes : ∀ {a : Str} {A B : Prop}, A → (if decide (V.str a = V.str a) = true then A else B) := fun {a A B} k => by
      rw [if_pos (decide_eq_true rfl)]
      exact k
    cases o with
    | add =>
      exact ⟨_, rfl, rfl, _, rfl, yes (op_made (O.c .add) q)⟩
    | sub =>
      iterate 1 (refine ⟨_, rfl, rfl, _, rfl, no (by decide +kernel) ?_⟩)
      exact ⟨_, rfl, rfl, _, rfl, yes (op_made (O.c .sub) q)⟩
    | mul =>
      iterate 2 (refine ⟨_, rfl, rfl, _, rfl, no (by decide +kernel) ?_⟩)
      exact ⟨_, rfl, rfl, _, rfl, yes (op_made (O.c .mul) q)⟩
    | same =>
      iterate 6 (refine ⟨_, rfl, rfl, _, rfl, no (by decide +kernel) ?_⟩)
      exact ⟨_, rfl, rfl, _, rfl, yes (op_made (O.c .same) q)⟩
    | head =>
      iterate 10 (refine ⟨_, rfl, rfl, _, rfl, no (by decide +kernel) ?_⟩)
      exact ⟨_, rfl, rfl, _, rfl, yes (op_made (O.c .head) q)⟩
    | rest =>
      iterate 11 (refine ⟨_, rfl, rfl, _, rfl, no (by decide +kernel) ?_⟩)
      exact ⟨_, rfl, rfl, _, rfl, yes (op_made (O.c .rest) q)⟩
    | many =>
      iterate 12 (refine ⟨_, rfl, rfl, _, rfl, no (by decide +kernel) ?_⟩)
      exact ⟨_, rfl, rfl, _, rfl, yes (op_made (O.c .many) q)⟩
    | item =>
      iterate 13 (refine ⟨_, rfl, rfl, _, rfl, no (by decide +kernel) ?_⟩)
      exact ⟨_, rfl, rfl, _, rfl, yes (op_made (O.c .item) q)⟩
    | put =>
      iterate 14 (refine ⟨_, rfl, rfl, _, rfl, no (by decide +kernel) ?_⟩)
      exact ⟨_, rfl, rfl, _, rfl, yes (op_made (O.c .put) q)⟩
    | field =>
      iterate 15 (refine ⟨_, rfl, rfl, _, rfl, no (by decide +kernel) ?_⟩)
      exact ⟨_, rfl, rfl, _, rfl, yes (op_made (O.c .field) q)⟩
/-! ### answer -/
def kindOk (k : Str) (d : D) : Bool := decide (k = "any") || decide (d.kind = k)
def kindsOk : List Str → List D → Bool
  | [], [] => true
  | k :: ks, d :: ds => kindOk k d && kindsOk ks ds
  | _, _ => false
def D.wide : D → Bool
  | .num n => !narrow n
  | _ => false
def sized (d : D) : Except Str D := if d.wide = true then .error "wide" else if 60 < d.parts then .error "large" else .ok d
/-- what an op answers to values of the kinds that it takes -/
def ansM (o : OpK) (ds : List D) : Option (Except Str D) := if kindsOk o.kinds ds = true then (match toldM o ds with
  | some (.ok d) => if d.depth ≤ 100 then some (sized d) else none
  | some (.error wd) => some (.error wd)
  | none => none) else none
def spAnswer (K : PySem.W.Frag) (CF : Addr) (cA : OpK → Addr) (o : OpK) : Sp := fun vs H Q E => ∃ (R : Addr → Prop) (p t : Addr) (xs : List V) (ds : List D) (r : Except Str D), vs = [.ref p, .ref t] ∧ IsOp cA H o p ∧ SqT K H t xs ∧ RepL K R H ds xs ∧ ansM o ds = some r ∧ OutTo K R CF r H Q E
theorem kindsOk_at : ∀ {ks : List Str} {ds : List D} {i : Nat} {k : Str}, kindsOk ks ds = true → ks[i]? = some k → ∃ d, ds[i]? = some d ∧ kindOk k d = true
  | [], _, _, _, _, h => by cases h
  | _ :: _, [], _, _, h, _ => by cases h
  | k :: ks, d :: ds, 0, _, h, e => by
    cases e
    exact ⟨d, rfl, (Bool.and_eq_true_iff.mp h).1⟩
  | k :: ks, d :: ds, i + 1, _, h, e => kindsOk_at (i := i) (Bool.and_eq_true_iff.mp h).2 e
theorem sc_Op_answer : FnScope ["self", "values", "k", "found"] ["self", "values"] (defScope (inClass (top 24) 1)) := ⟨rfl, rfl, rfl, by decide +kernel, rfl, by decide +kernel, by decide +kernel⟩
theorem ok_answer {o : OpK} (X : Fx mg) (O : OpsP P w K mg base cA) (c_Fault : FltCal P w K mg base CF) (c_kind_of : Cal P w K mg base CX0 1 "kind_of" ["value"] (spKindOf K)) (c_is_number : Cal P w K mg base CX0 1 "is_number" ["thing"] (spIsNumber K))
    (c_is_narrow : Cal P w K mg base CX0 1 "is_narrow" ["number"] spIsNarrow) (c_parts : Cal P w K mg base CX0 102 "parts" ["value"] (spParts K 100)) (m_told : MeCal P w K mg base (L2.CX P w) 4 (cA o) "told" ["self", "values"] (spTold K CF o))
    (F : MeP K (cA o) "answer" "answer" "Op.answer" (inClass (top 24) 1)) : MeCal P w K mg base (L2.CX P w) 103 (cA o) "answer" ["self", "values"] (spAnswer K CF cA o) := by
  refine F.cal sc_Op_answer (fun _ _ _ _ _ _ us hl => match us, hl with | [_, _], _ => rfl) (fun vs H Q E h => ?_) (fun f cdv A outer s H vs Q E hr h => ?_)
  · obtain ⟨R, p, t, xs, ds, r, rfl, _⟩ := h
    rfl
  · have hr1 : Room 1 _ := hr.mono (by decide)
    have hr2 : Room 2 _ := hr.mono (by decide)
    have hr4 : Room 4 _ := hr.mono (by decide)
    have hr102 : Room 102 _ := hr.mono (by decide)
    obtain ⟨R, p, t, xs, ds, r, rfl, ⟨dx, tk, hp, hk⟩, ht, hl, e, q⟩ := h
    have C := O.c o
    refine ⟨_, (pss_cons (ps_for (passes_of rfl) rfl (pi_range1 rfl X.range (pa_cons (pe_fld (pv 0) rfl) pa_nil)) (pg_name (i := 2) sc_Op_answer.nd rfl (Or.inl rfl)) (pss_one (ps_if (PW.pt (pw_and (pt_cmpR op_ne (pe_ix ix_tup (pe_fld (pv 0) rfl) (pv 2) (fun _ _ => rfl)) pe_str (nomark _)) (pw_and1 (pt_cmpR op_ne (pe_cal c_kind_of hr1 pass0 (pa_cons (pe_ix ix_tup (pv 1) (pv 2) (fun _ _ => rfl)) pa_nil)) (pe_ix ix_tup (pe_fld (pv 0) rfl) (pv 2) (fun _ _ => rfl)) (nomark _))))) (pss_one ps_never) pss_nil)))
      (pss_cons (ps_set (i := 3) sc_Op_answer.nd rfl (Or.inl rfl) (pe_mcal m_told (O.c o).cl hr4 (passes_call (takes_of rfl rfl rfl rfl) fun _ _ _ _ z => z) (pv 0) (pa_cons (pv 1) pa_nil)))
      (pss_cons (ps_if (PW.pt (pw_and (pt_val (pe_cal c_is_number hr1 pass0 (pa_cons (pv 3) pa_nil))) (pw_and1 (pt_not (pt_val (pe_cal c_is_narrow hr1 pass0 (pa_cons (pv 3) pa_nil))))))) (pss_one (ps_raiseF rfl c_Fault hr2 (takes_of rfl rfl rfl rfl))) pss_nil)
      (pss_cons (ps_if (pt_cmpR op_gt (pe_cal c_parts hr102 pass0 (pa_cons (pv 3) pa_nil)) (pe_gint X.PARTS) (nomark _)) (pss_one (ps_raiseF rfl c_Fault hr2 (takes_of rfl rfl rfl rfl))) pss_nil)
      (pss_one (ps_ret (pv 3))))))), ?_⟩
    have e1 : kindsOk o.kinds ds = true ∧ (match toldM o ds with
      | some (.ok d) => if d.depth ≤ 100 then some (sized d) else none
      | some (.error wd) => some (.error wd)
      | none => none) = some r := by
      unfold ansM at e
      by_cases c : kindsOk o.kinds ds = true
      · rw [if_pos c] at e
        exact ⟨c, e⟩
      · rw [if_neg c] at e
        cases e
    refine ⟨_, rfl, p, _, dx, _, _, rfl, hp, C.cl, C.noM, opF_many _ _ _, _, rfl, by omega, ?_, for_range (lo := 0) (n := o.kinds.length) (fun i σ H2 => ∃ k : Option V, σ = [some (.ref p), some (.ref t), k, none] ∧ H2 = H) ⟨none, rfl, rfl⟩ ?_ ?_⟩
    · have : o.kinds.length ≤ 3 := by cases o <;> decide
      omega
    · rintro i σ H2 hi ⟨k, rfl, rfl⟩
      obtain ⟨kd, hkd⟩ : ∃ kd, o.kinds[i]? = some kd := ⟨_, List.getElem?_eq_getElem hi⟩
      obtain ⟨d, hd, ok⟩ := kindsOk_at e1.1 hkd
      obtain ⟨v, hv, rv⟩ := hl.get hd
      have hkv : (o.kinds.map V.str)[i]? = some (V.str kd) := by rw [List.getElem?_map, hkd]; rfl
      have ei : (0 : Int) + (i : Int) = (i : Int) := by omega
      rw [ei]
      have hK : ∀ {Q' : VK}, Q' (.str kd) H2 → ∃ v, ([some (V.ref p), some (.ref t), some (.int (i : Int)), none] : L2.St)[0]? = some (some v) ∧ ∃ a C dx fs w', v = .ref a ∧ H2 a = some (.ins C dx fs) ∧ Cls K C ∧ NoAttr K C "kinds" ∧ fs.lookup ("kinds" : Str) = some w' ∧ ∃ v3, ([some (V.ref p), some (.ref t), some (.int (i : Int)), none] : L2.St)[2]? = some (some v3) ∧ rIxT K w' v3 H2 Q' := fun {Q'} k => ⟨_, rfl, p, _, dx, _, _, rfl, hp, C.cl, C.noK, opF_kinds _ _ _, _, rfl, tk, _, _, _, rfl, rfl, SqT.of hk, atI_nat hkv, k⟩
      refine hK ⟨rfl, _, rfl, ?_⟩
      by_cases c : kd = "any"
      · subst c
        refine iteF ?_
        exact iteF ⟨_, rfl, rfl⟩
      · have n1 : decide (V.str kd = V.str "any") = false := decide_eq_false fun z => c (V.str.inj z)
        rw [n1]
        refine iteT ⟨_, rfl, _, rfl, t, _, _, _, rfl, rfl, ht, atI_nat hv, R, d, v, rfl, rv, ?_⟩
        refine hK ⟨rfl, _, rfl, ?_⟩
        have okd : d.kind = kd := by
          unfold kindOk at ok
          rw [decide_eq_false c, Bool.false_or] at ok
          exact of_decide_eq_true ok
        rw [okd]
        refine iteNS rfl ?_
        exact ⟨_, rfl, rfl⟩
    · rintro σ H2 ⟨k, rfl, rfl⟩
      refine ⟨_, rfl, p, dx, _, rfl, hp, opF_no _ _ _ (by decide +kernel) (by decide +kernel) (by decide +kernel), _, rfl, R, .ref p, t, xs, ds, ?_⟩
      cases et : toldM o ds with
      | none =>
        rw [et] at e1
        cases e1.2
      | some r1 =>
        refine ⟨r1, rfl, ht, hl, rfl, ?_⟩
        rw [et] at e1
        cases r1 with
        | error wd =>
          cases e1.2
          exact q
        | ok d =>
          have e2 : (if d.depth ≤ 100 then some (sized d) else none) = some r := e1.2
          by_cases hdp : d.depth ≤ 100
          · rw [if_pos hdp] at e2
            cases e2
            intro v H1 s1 rv
            refine ⟨_, rfl, R, d, v, rfl, rv, _, rfl, ?_⟩
            have rest : ((if 60 < d.parts then Except.error "large" else Except.ok d) : Except Str D) = sized d → ∃ v1, ([some (V.ref p), some (.ref t), k, some v] : L2.St)[3]? = some (some v1) ∧ spParts K 100 ([v1] ++ []) H1 (fun x H2 => ∃ i j, x = .int i ∧ V.int 60 = .int j ∧ ∃ c, V.bl (decide (j < i)) = .bl c ∧ if c = true then FaultTo CF "large" H2 E else ∃ v2, ([some (V.ref p), some (.ref t), k, some v] : L2.St)[3]? = some (some v2) ∧ Q v2 H2) E0 := fun ez => by
              refine ⟨_, rfl, R, d, v, rfl, rv, hdp, fun H2 s2 => ⟨_, _, rfl, rfl, _, rfl, ?_⟩⟩
              by_cases c : 60 < d.parts
              · rw [if_pos c] at ez
                rw [← ez] at q
                rw [decide_eq_true (by omega)]
                exact iteT (FaultTo.of_same q (s1.trans s2))
              · rw [if_neg c] at ez
                rw [← ez] at q
                rw [decide_eq_false (by omega)]
                exact iteF ⟨_, rfl, q v H2 (s1.trans s2) (rv.same s2)⟩
            cases d with
            | num n =>
              cases rv
              refine iteT ⟨_, rfl, n, rfl, _, rfl, ?_⟩
              cases en : narrow n with
              | true => exact iteF (rest (by
                have hw : ¬ (D.num n).wide = true := by
                  show ¬ (!narrow n) = true
                  rw [en]
                  decide
                unfold sized
                rw [if_neg hw]))
              | false =>
                have ez : sized (.num n) = .error "wide" := by
                  unfold sized
                  rw [if_pos (by show (!narrow n) = true; rw [en]; rfl)]
                rw [ez] at q
                exact iteT (FaultTo.of_same q s1)
            | word x => exact iteF (iteF (rest rfl))
            | row l => exact iteF (iteF (rest rfl))
            | rcd l => exact iteF (iteF (rest rfl))
          · rw [if_neg hdp] at e2
            cases e2
end
end Fk
set_option maxHeartbeats 4000000
/-! ## Reading: the mirror, texts -/
namespace Fk
open PySem PySem.Spec PyProof.Rows L2 TL
/-! ### programs -/
inductive Atom where
  | is (w : Str) | of (n : Str)
  deriving DecidableEq
inductive Stp where
  | let_ (n : Str) (o : OpK) (as : List Atom) | call (n f : Str) (as : List Atom)
  deriving DecidableEq
inductive Blk where
  | give (ss : List Stp) (a : Atom) | go (ss : List Stp) (f : Str) (as : List Atom) | iff (ss : List Stp) (a : Atom) (b c : Blk)
  deriving DecidableEq
structure Fun where
  name : Str
  params : List Str
  blk : Blk
  deriving DecidableEq
def Atom.d : Atom → D
  | .is w => .row [.word "is", .word w]
  | .of n => .row [.word "of", .word n]
def atomsD (as : List Atom) : D := .row (as.map Atom.d)
def Stp.d : Stp → D
  | .let_ n o as => .row [.word "let", .word n, .word o.word, atomsD as]
  | .call n f as => .row [.word "call", .word n, .word f, atomsD as]
def stepsD (ss : List Stp) : D := .row (ss.map Stp.d)
def Blk.d : Blk → D
  | .give ss a => .row [stepsD ss, .row [.word "give", a.d]]
  | .go ss f as => .row [stepsD ss, .row [.word "go", .word f, atomsD as]]
  | .iff ss a b c => .row [stepsD ss, .row [.word "if", a.d, b.d, c.d]]
def Blk.steps : Blk → List Stp
  | .give ss _ => ss
  | .go ss _ _ => ss
  | .iff ss _ _ _ => ss
def Blk.endD : Blk → D
  | .give _ a => .row [.word "give", a.d]
  | .go _ f as => .row [.word "go", .word f, atomsD as]
  | .iff _ a b c => .row [.word "if", a.d, b.d, c.d]
theorem Blk.d_eq (b : Blk) : b.d = .row [stepsD b.steps, b.endD] := by cases b <;> rfl
def Fun.d (f : Fun) : D := .row [.word f.name, .row (f.params.map .word), f.blk.d]
def progD (p : List Fun) : D := .row (p.map Fun.d)
/-! ### the mirror of reading -/
def letters : Str := "abcdefghijklmnopqrstuvwxyz"
def figures : Str := "0123456789"
def madeOf (t s : Str) : Bool := (tl t).all fun c => decide (c ∈ tl s)
def isWordM (t : Str) : Bool := decide (1 ≤ t.length) && (decide (t.length ≤ 8) && madeOf t letters)
def isNameM (t : Str) : Bool := decide (1 ≤ t.length) && (decide (t.length ≤ 8) && ((match tl t with
  | [] => false
  | c :: _ => decide (c ∈ tl letters)) && madeOf t (letters ++ figures)))
def valueM (t : Str) : Option Str := match tl t with
  | c :: r => if c = 39 ∧ isWordM ⟨r.toArray⟩ = true then some ⟨r.toArray⟩ else none
  | [] => none
def atomM (t : Str) : Option Atom := if isNameM t = true then some (.of t) else (valueM t).map .is
def atomsM : List Str → Option (List Atom)
  | [] => some []
  | w :: r => match atomM w, atomsM r with
    | some a, some as => some (a :: as)
    | _, _ => none
def opM (t : Str) : Option OpK := [OpK.add, .sub, .mul, .same, .head, .rest, .many, .item, .put, .field].find? fun o => decide (o.word = t)
def stepM : List Str → Option Stp
  | n :: _ :: op :: r => if isNameM n = true then (if op = "call" then (match r with
      | f :: r => if isNameM f = true then (atomsM r).map (.call n f) else none
      | [] => none) else (match opM op, atomsM r with
      | some o, some as => if as.length = o.kinds.length then some (.let_ n o as) else none
      | _, _ => none)) else none
  | _ => none
def isStep : List Str → Bool
  | _ :: e :: _ :: _ => decide (e = "=")
  | _ => false
def stepsM : List (List Str) → Option (List Stp × List Str × List (List Str))
  | [] => none
  | ws :: r => if isStep ws = true then (match stepM ws, stepsM r with
    | some s, some (ss, e, r') => some (s :: ss, e, r')
    | _, _ => none) else some ([], ws, r)
def endM (blk : List (List Str) → Option (Blk × List (List Str))) (ss : List Stp) (r : List (List Str)) : List Str → Option (Blk × List (List Str))
  | [w, x] => if w = "go" then (if isNameM x = true then some (.go ss x [], r) else none) else if w = "give" then (atomM x).map fun a => (.give ss a, r)
    else if w = "if" then (match atomM x, blk r with
      | some a, some (b, e :: r1) => if e = [("else" : Str)] then (match blk r1 with
        | some (c, e2 :: r2) => if e2 = [("end" : Str)] then some (.iff ss a b c, r2) else none
        | _ => none) else none
      | _, _ => none) else none
  | w :: f :: as => if w = "go" then (if isNameM f = true then (atomsM as).map fun as => (.go ss f as, r) else none) else none
  | _ => none
/-- n: how many ifs may still stand within one another -/
def blockM : Nat → List (List Str) → Option (Blk × List (List Str))
  | 0, rs => (match stepsM rs with
    | some (ss, e, r) => endM (fun _ => none) ss r e
    | none => none)
  | n + 1, rs => (match stepsM rs with
    | some (ss, e, r) => endM (blockM n) ss r e
    | none => none)
def namesM : List Str → Bool
  | [] => true
  | w :: r => isNameM w && namesM r
def Blk.lines : Blk → Nat
  | .give ss _ => ss.length + 1
  | .go ss _ _ => ss.length + 1
  | .iff ss _ b c => ss.length + 1 + b.lines + c.lines
def functionM : List (List Str) → Option (Fun × List (List Str))
  | (k :: n :: ps) :: r => if k = "fun" ∧ ps.length ≤ 6 ∧ namesM (n :: ps) = true then (match blockM 8 r with
    | some (b, r') => if b.lines ≤ 60 then some (⟨n, ps, b⟩, r') else none
    | none => none) else none
  | _ => none
def programM : Nat → List (List Str) → Option (List Fun)
  | _, [] => some []
  | 0, _ :: _ => none
  | n + 1, rs => (match functionM rs with
    | some (f, r) => (programM n r).map (f :: ·)
    | none => none)
/-! ### a loop over the signs of a text -/
theorem for_str {x : Str} {g : TG} {tb : TS} {D : Ends} {σ : L2.St} {H : Hp} (Pv : Nat → L2.St → Hp → Prop) (h0 : Pv 0 σ H)
    (hs : ∀ i c σ H, x.cps[i]? = some c → Pv i σ H → g (.str ⟨#[c]⟩) σ H fun σ2 H2 => tb { D with nx := Pv (i + 1), ct := Pv (i + 1), bk := D.nx } σ2 H2) (hd : ∀ σ H, Pv x.cps.size σ H → D.nx σ H) :
    ∃ W : Nat → Nat → L2.St → Hp → Prop, (∃ m, W 0 m σ H) ∧ ∀ i m σ H, W i m σ H →
      ((Its x).stop i H ∧ D.nx σ H) ∨ ((Its x).go i H ∧ ∃ N : L2.St → Hp → Prop, (∀ σ' H', N σ' H' → ∃ m', m' < m ∧ W (i + 1) m' σ' H') ∧ ∀ v H', (Its x).yld i H v H' → g v σ H' fun σ2 H2 => tb { D with nx := N, ct := N, bk := D.nx } σ2 H2) := by
  refine ⟨fun i m σ H => m = x.cps.size - i ∧ i ≤ x.cps.size ∧ Pv i σ H, ⟨x.cps.size, by simp, Nat.zero_le _, h0⟩, ?_⟩
  rintro i m σ H ⟨rfl, hi, p⟩
  by_cases hlt : i < x.cps.size
  · refine .inr ⟨hlt, Pv (i + 1), fun σ' H' p' => ⟨x.cps.size - (i + 1), by omega, rfl, hlt, p'⟩, fun v H' y => ?_⟩
    obtain ⟨e, c, hc, y⟩ := y
    subst e y
    exact hs i c σ _ hc p
  · have e : i = x.cps.size := by omega
    subst e
    exact .inl ⟨Nat.le_refl _, hd σ H p⟩
section
variable {P : Program} {w : World} {K : PySem.W.Frag} {mg : Str → Option Value} {base : Heap}
/-! ### made_of, is_word, is_name -/
def spMadeOf : Sp := fun vs H Q _ => ∃ t s : Str, vs = [.str t, .str s] ∧ Q (.bl (madeOf t s)) H
theorem sc_made_of : FnScope ["text", "signs", "sign"] ["text", "signs"] (defScope (top 61)) := ⟨rfl, rfl, rfl, by decide +kernel, rfl, by decide +kernel, by decide +kernel⟩
theorem ok_made_of (X : Fx mg) (F : FnP K mg "made_of" "made_of" (top 61)) : Cal P w K mg base CX0 1 "made_of" ["text", "signs"] spMadeOf := by
  refine F.cal sc_made_of (fun _ _ _ _ _ _ us hl => match us, hl with | [_, _], _ => rfl) (fun vs H Q E h => ?_) (fun f cdv A outer s H vs Q E hr h => ?_)
  · obtain ⟨t, s, rfl, _⟩ := h
    rfl
  · obtain ⟨t, z, rfl, q⟩ := h
    refine ⟨_, PSs.nox (pss_cons (ps_for PassesOwn.never rfl (pi_str (pv 0)) (pg_name (i := 2) sc_made_of.nd rfl (Or.inl rfl)) (pss_one (ps_if (pt_cmpR op_notIn_sign (pv 2) (pv 1) rfl) (pss_one (ps_ret pe_bl)) pss_nil)))
      (pss_one (ps_ret pe_bl))), ?_⟩
    refine ⟨_, rfl, t, rfl, for_str (x := t) (fun i σ H2 => ∃ k : Option V, σ = [some (.str t), some (.str z), k] ∧ H2 = H ∧ madeOf t z = ((tl t).drop i).all fun c => decide (c ∈ tl z)) ⟨none, rfl, rfl, by rw [List.drop_zero]; rfl⟩ ?_ ?_⟩
    · rintro i c σ H2 hi ⟨k, rfl, rfl, e⟩
      have hi' : (tl t)[i]? = some c := by rw [← hi]; exact Array.getElem?_toList
      have ed : (tl t).drop i = c :: (tl t).drop (i + 1) := by
        obtain ⟨hl, ec⟩ := List.getElem?_eq_some_iff.mp hi'
        rw [List.drop_eq_getElem_cons hl, ec]
      rw [ed, List.all_cons] at e
      refine ⟨_, rfl, _, rfl, c, z, rfl, rfl, _, rfl, ?_⟩
      by_cases hc : c ∈ tl z
      · rw [decide_eq_true hc, Bool.true_and] at e
        have h1 : decide (c ∈ z.cps.toList) = true := decide_eq_true hc
        rw [h1]
        exact iteF ⟨_, rfl, rfl, e⟩
      · rw [decide_eq_false hc, Bool.false_and] at e
        have h1 : decide (c ∈ z.cps.toList) = false := decide_eq_false hc
        rw [h1]
        rw [e] at q
        exact iteT q
    · rintro σ H2 ⟨k, rfl, rfl, e⟩
      have ez : (tl t).drop t.cps.size = [] := List.drop_eq_nil_of_le (by show t.cps.toList.length ≤ t.cps.size; simp)
      rw [ez] at e
      rw [e] at q
      exact q
def spIsWord : Sp := fun vs H Q _ => ∃ t : Str, vs = [.str t] ∧ t.length ≤ 1000 ∧ Q (.bl (isWordM t)) H
theorem sc_is_word : FnScope ["text"] ["text"] (defScope (top 62)) := ⟨rfl, rfl, rfl, by decide +kernel, rfl, by decide +kernel, by decide +kernel⟩
theorem ok_is_word (X : Fx mg) (c_made_of : Cal P w K mg base CX0 1 "made_of" ["text", "signs"] spMadeOf) (F : FnP K mg "is_word" "is_word" (top 62)) : Cal P w K mg base CX0 2 "is_word" ["text"] spIsWord := by
  refine F.cal sc_is_word (fun _ _ _ _ _ _ us hl => match us, hl with | [_], _ => rfl) (fun vs H Q E h => ?_) (fun f cdv A outer s H vs Q E hr h => ?_)
  · obtain ⟨t, rfl, _⟩ := h
    rfl
  · obtain ⟨t, rfl, hz, q⟩ := h
    refine ⟨_, PSs.nox (pss_one (ps_ret (pe_and (pe_chain op_le op_le pe_int (pe_callB (call_len_str) rfl X.len (by decide +kernel) (pa_cons (pv 0) pa_nil)) (pe_gint X.MOST_SIGNS)) (pe_one (pe_cal c_made_of hr pass0 (pa_cons (pv 0) (pa_cons (pe_gstr X.LETTERS) pa_nil))))))), ?_⟩
    refine ⟨_, rfl, t, rfl, sz1000 (by omega), _, _, rfl, rfl, _, rfl, ?_⟩
    unfold isWordM at q
    by_cases h1 : 1 ≤ t.length
    · have d1 : decide ((1 : Int) ≤ (t.length : Int)) = true := decide_eq_true (by omega)
      rw [decide_eq_true h1, Bool.true_and] at q
      rw [d1]
      refine iteT ⟨_, _, rfl, rfl, _, rfl, ?_⟩
      by_cases h2 : t.length ≤ 8
      · have d2 : decide ((t.length : Int) ≤ 8) = true := decide_eq_true (by omega)
        rw [decide_eq_true h2, Bool.true_and] at q
        rw [d2]
        exact iteT ⟨_, rfl, t, letters, rfl, q⟩
      · have d2 : decide ((t.length : Int) ≤ 8) = false := decide_eq_false (by omega)
        rw [decide_eq_false h2, Bool.false_and] at q
        rw [d2]
        exact iteF q
    · have d1 : decide ((1 : Int) ≤ (t.length : Int)) = false := decide_eq_false (by omega)
      rw [decide_eq_false h1, Bool.false_and] at q
      rw [d1]
      exact iteF ⟨_, rfl, iteF q⟩
def spIsName : Sp := fun vs H Q _ => ∃ t : Str, vs = [.str t] ∧ t.length ≤ 1000 ∧ Q (.bl (isNameM t)) H
theorem sc_is_name : FnScope ["text"] ["text"] (defScope (top 63)) := ⟨rfl, rfl, rfl, by decide +kernel, rfl, by decide +kernel, by decide +kernel⟩
theorem ok_is_name (X : Fx mg) (c_made_of : Cal P w K mg base CX0 1 "made_of" ["text", "signs"] spMadeOf) (F : FnP K mg "is_name" "is_name" (top 63)) : Cal P w K mg base CX0 2 "is_name" ["text"] spIsName := by
  refine F.cal sc_is_name (fun _ _ _ _ _ _ us hl => match us, hl with | [_], _ => rfl) (fun vs H Q E h => ?_) (fun f cdv A outer s H vs Q E hr h => ?_)
  · obtain ⟨t, rfl, _⟩ := h
    rfl
  · obtain ⟨t, rfl, hz, q⟩ := h
    refine ⟨_, PSs.nox (pss_cons (ps_if (pt_not (pt_chain op_le op_le pe_int (pe_callB (call_len_str) rfl X.len (by decide +kernel) (pa_cons (pv 0) pa_nil)) (pe_gint X.MOST_SIGNS))) (pss_one (ps_ret pe_bl)) pss_nil)
      (pss_one (ps_ret (pe_and (pe_cmpR op_in_sign (pe_ix ix_str (pv 0) pe_int (fun _ _ => rfl)) (pe_gstr X.LETTERS) rfl) (pe_one (pe_cal c_made_of hr pass0 (pa_cons (pv 0) (pa_cons (pe_op op_add_str (pe_gstr X.LETTERS) (pe_gstr X.FIGURES)) pa_nil)))))))), ?_⟩
    refine ⟨_, rfl, t, rfl, sz1000 (by omega), _, _, rfl, rfl, _, rfl, ?_⟩
    unfold isNameM at q
    by_cases h1 : 1 ≤ t.length
    · have d1 : decide ((1 : Int) ≤ (t.length : Int)) = true := decide_eq_true (by omega)
      rw [decide_eq_true h1, Bool.true_and] at q
      rw [d1]
      refine iteT ⟨_, _, rfl, rfl, _, rfl, ?_⟩
      by_cases h2 : t.length ≤ 8
      · have d2 : decide ((t.length : Int) ≤ 8) = true := decide_eq_true (by omega)
        rw [decide_eq_true h2, Bool.true_and] at q
        rw [d2]
        refine iteF ?_
        cases et : tl t with
        | nil =>
          rw [len_tl, et] at h1
          exact absurd h1 (by decide)
        | cons c r =>
          rw [et] at q
          refine ⟨_, rfl, t, 0, c, rfl, rfl, sz1000 (by omega), ?_, c, letters, rfl, rfl, _, rfl, ?_⟩
          · show atI (tl t) ((0 : Nat) : Int) = some c
            rw [et]
            exact atI_nat rfl
          · by_cases hc : c ∈ tl letters
            · have h3 : decide (c ∈ letters.cps.toList) = true := decide_eq_true hc
              have q' : Q (.bl (madeOf t (letters ++ figures))) H := by
                have e : (decide (c ∈ tl letters) && madeOf t (letters ++ figures)) = madeOf t (letters ++ figures) := by rw [decide_eq_true hc, Bool.true_and]
                rw [← e]
                exact q
              rw [h3]
              exact iteT ⟨_, rfl, letters, figures, rfl, rfl, by decide +kernel, t, letters ++ figures, rfl, q'⟩
            · have h3 : decide (c ∈ letters.cps.toList) = false := decide_eq_false hc
              have q' : Q (.bl false) H := by
                have e : (decide (c ∈ tl letters) && madeOf t (letters ++ figures)) = false := by rw [decide_eq_false hc, Bool.false_and]
                rw [← e]
                exact q
              rw [h3]
              exact iteF q'
      · have d2 : decide ((t.length : Int) ≤ 8) = false := decide_eq_false (by omega)
        rw [decide_eq_false h2, Bool.false_and] at q
        rw [d2]
        exact iteT q
    · have d1 : decide ((1 : Int) ≤ (t.length : Int)) = false := decide_eq_false (by omega)
      rw [decide_eq_false h1, Bool.false_and] at q
      rw [d1]
      exact iteF ⟨_, rfl, iteT q⟩
end
end Fk
set_option maxHeartbeats 4000000
/-! ## Signs, read_value -/
namespace Fk
open PySem PySem.Spec PyProof.Rows L2 TL
def sgF (t : Str) (i r : Int) : List (Str × V) := [(("text" : Str), .str t), (("at" : Str), .int i), (("room" : Str), .int r)]
structure SigC (K : PySem.W.Frag) (C : Addr) : Prop where
  cl : Cls K C
  noT : NoAttr K C "text"
  noA : NoAttr K C "at"
  noR : NoAttr K C "room"
theorem nTA : ¬ (("text" : Str) = "at") := by decide +kernel
theorem nTR : ¬ (("text" : Str) = "room") := by decide +kernel
theorem nAR : ¬ (("at" : Str) = "room") := by decide +kernel
theorem sg_new (t : Str) (i r : Int) : putF "room" (.int r) (putF "at" (.int i) (putF "text" (.str t) [])) = sgF t i r := by
  simp only [putF, if_neg nTA, if_neg nTR, if_neg nAR]
  rfl
theorem sg_text (t : Str) (i r : Int) : (sgF t i r).lookup ("text" : Str) = some (.str t) := rfl
theorem sg_at (t : Str) (i r : Int) : (sgF t i r).lookup ("at" : Str) = some (.int i) := by
  have h : (("at" : Str) == "text") = false := by decide +kernel
  unfold sgF
  rw [List.lookup_cons, h, List.lookup_cons, beq_self_eq_true]
theorem sg_room (t : Str) (i r : Int) : (sgF t i r).lookup ("room" : Str) = some (.int r) := by
  have h : (("room" : Str) == "text") = false := by decide +kernel
  have h2 : (("room" : Str) == "at") = false := by decide +kernel
  unfold sgF
  rw [List.lookup_cons, h, List.lookup_cons, h2, List.lookup_cons, beq_self_eq_true]
theorem sg_no (t : Str) (i r : Int) {m : Str} (h1 : (m == "text") = false) (h2 : (m == "at") = false) (h3 : (m == "room") = false) : (sgF t i r).lookup m = none := by
  unfold sgF
  rw [List.lookup_cons, h1, List.lookup_cons, h2, List.lookup_cons, h3]
  rfl
theorem sg_putA (t : Str) (i j r : Int) : putF "at" (.int j) (sgF t i r) = sgF t j r := by
  unfold sgF
  simp only [putF, if_neg nTA, if_pos]
theorem sg_putR (t : Str) (i q r : Int) : putF "room" (.int q) (sgF t i r) = sgF t i q := by
  unfold sgF
  simp only [putF, if_neg nTR, if_neg nAR, if_pos]
theorem sg_len (t : Str) (i r : Int) : (sgF t i r).length < 1000 := by show 3 < 1000; decide
theorem upd_id {H : Hp} {p : Addr} {o : HO} (h : H p = some o) : upd H p o = H := by
  funext b
  unfold upd
  by_cases e : b = p
  · rw [if_pos e, e, h]
  · rw [if_neg e]
/-- all but the thing at p stands -/
def But (p : Addr) (H H' : Hp) : Prop := ∀ b o, H b = some o → b ≠ p → H' b = some o
theorem But.upd {p : Addr} {H : Hp} {o : HO} : But p H (upd H p o) := fun b u e n => by rw [upd_ne n]; exact e
theorem But.refl {p : Addr} {H : Hp} : But p H H := fun b u e n => e
theorem But.trans {p : Addr} {H H1 H2 : Hp} (a : But p H H1) (b : But p H1 H2) : But p H H2 := fun c u e n => b c u (a c u e n) n
theorem But.of_same {p : Addr} {H H' : Hp} (e : Same H H') : But p H H' := fun b o q _ => e b o q
section
variable {P : Program} {w : World} {K : PySem.W.Frag} {mg : Str → Option Value} {base : Heap} {CS : Addr}
def spSigInit (CS : Addr) : Sp := fun vs H Q _ => ∃ (p dx : Addr) (t : Str), vs = [.ref p, .str t] ∧ H p = some (.ins CS dx []) ∧ Q .non (upd H p (.ins CS dx (sgF t 0 60)))
theorem sc_Signs___init__ : FnScope ["self", "text"] ["self", "text"] (defScope (inClass (top 65) 0)) := ⟨rfl, rfl, rfl, by decide +kernel, rfl, by decide +kernel, by decide +kernel⟩
theorem ok_sig_init (X : Fx mg) (T : SigC K CS) (F : MeP K CS "__init__" "__init__" "Signs.__init__" (inClass (top 65) 0)) : MeCal P w K mg base CX0 1 CS "__init__" ["self", "text"] (spSigInit CS) := by
  refine F.cal sc_Signs___init__ (fun _ _ _ _ _ _ us hl => match us, hl with | [_, _], _ => rfl) (fun vs H Q E h => ?_) (fun f cdv A outer s H vs Q E hr h => ?_)
  · obtain ⟨p, dx, t, rfl, _⟩ := h
    rfl
  · obtain ⟨p, dx, t, rfl, hp, q⟩ := h
    refine ⟨_, PSs.nox (pss_cons (ps_fld (pv 0) (pv 1) rfl)
      (pss_cons (ps_fld (pv 0) pe_int rfl)
      (pss_one (ps_fld (pv 0) (pe_gint X.MOST_PARTS) rfl)))), ?_⟩
    refine ⟨_, rfl, _, rfl, p, CS, dx, _, rfl, hp, T.cl, T.noT, by decide, _, rfl, p, CS, dx, _, rfl, upd_same, T.cl, T.noA, (by show 1 < 1000; decide), ?_⟩
    rw [upd_upd]
    refine ⟨_, rfl, p, CS, dx, _, rfl, upd_same, T.cl, T.noR, Nat.lt_of_le_of_lt (length_putF _ _ _) (by show 2 < 1000; decide), ?_⟩
    rw [upd_upd]
    show Q .non (upd H p (.ins CS dx (putF "room" (.int 60) (putF "at" (.int 0) (putF "text" (.str t) [])))))
    rw [sg_new]
    exact q
/-! ### take: the first sign -/
def spTake (CS : Addr) : Sp := fun vs H Q _ => ∃ (p dx : Addr) (t z : Str) (c : Nat) (l : List Nat) (r : Int), vs = [.ref p, .str z] ∧ H p = some (.ins CS dx (sgF t 0 r)) ∧ tl t = c :: l ∧ t.length ≤ 1000 ∧
  if z = ⟨#[c]⟩ then Q (.bl true) (upd H p (.ins CS dx (sgF t 1 r))) else Q (.bl false) H
theorem cut_first {t : Str} {c : Nat} {l : List Nat} (h : tl t = c :: l) : cutS t (some 0) (some (0 + 1)) = ⟨#[c]⟩ := by
  have hl : t.length = l.length + 1 := by rw [len_tl, h]; rfl
  unfold cutS
  have e0 : HT.sIx t.length 0 (some 0) = 0 := by
    rw [show (some (0 : Int)) = some ((0 : Nat) : Int) from rfl, HT.sIx_nat, Nat.zero_min]
  have e1 : HT.sIx t.length t.length (some (0 + 1)) = 1 := by
    rw [show (some ((0 : Int) + 1)) = some ((1 : Nat) : Int) from rfl, HT.sIx_nat, hl, Nat.min_eq_left (by omega)]
  rw [e0, e1]
  show (⟨(((tl t).drop 0).take (1 - 0)).toArray⟩ : Str) = ⟨#[c]⟩
  rw [h]
  rfl
theorem sc_Signs_take : FnScope ["self", "sign"] ["self", "sign"] (defScope (inClass (top 65) 1)) := ⟨rfl, rfl, rfl, by decide +kernel, rfl, by decide +kernel, by decide +kernel⟩
theorem ok_take (X : Fx mg) (T : SigC K CS) (F : MeP K CS "take" "take" "Signs.take" (inClass (top 65) 1)) : MeCal P w K mg base CX0 1 CS "take" ["self", "sign"] (spTake CS) := by
  refine F.cal sc_Signs_take (fun _ _ _ _ _ _ us hl => match us, hl with | [_, _], _ => rfl) (fun vs H Q E h => ?_) (fun f cdv A outer s H vs Q E hr h => ?_)
  · obtain ⟨p, dx, t, z, c, l, r, rfl, _⟩ := h
    rfl
  · obtain ⟨p, dx, t, z, c, l, r, rfl, hp, et, hz, q⟩ := h
    refine ⟨_, PSs.nox (pss_cons (ps_if (pt_cmpR op_ne (pe_slice sl_str (pe_fld (pv 0) rfl) (po_some (pe_fld (pv 0) rfl)) (po_some (pe_op op_add (pe_fld (pv 0) rfl) pe_int))) (pv 1) (nomark _)) (pss_one (ps_ret pe_bl)) pss_nil)
      (pss_cons (ps_fld (pv 0) (pe_op op_add (pe_fld (pv 0) rfl) pe_int) rfl)
      (pss_one (ps_ret pe_bl)))), ?_⟩
    refine ⟨_, rfl, p, CS, dx, _, _, rfl, hp, T.cl, T.noT, sg_text _ _ _, _, rfl, p, CS, dx, _, _, rfl, hp, T.cl, T.noA, sg_at _ _ _, _, rfl, _, rfl, p, CS, dx, _, _, rfl, hp, T.cl, T.noA, sg_at _ _ _, _, _, rfl, rfl, _, rfl, t, rfl, sz1000 (by omega), ?_⟩
    rw [cut_first et]
    refine ⟨_, rfl, rfl, _, rfl, ?_⟩
    by_cases h : z = ⟨#[c]⟩
    · rw [if_pos h] at q
      subst h
      refine iteNS rfl ?_
      refine ⟨_, rfl, p, CS, dx, _, _, rfl, hp, T.cl, T.noA, sg_at _ _ _, _, _, rfl, rfl, _, rfl, p, CS, dx, _, rfl, hp, T.cl, T.noA, sg_len _ _ _, ?_⟩
      show Q (.bl true) (upd H p (.ins CS dx (putF "at" (.int (0 + 1)) (sgF t 0 r))))
      rw [sg_putA]
      exact q
    · rw [if_neg h] at q
      have e : decide (V.str ⟨#[c]⟩ = V.str z) = false := decide_eq_false fun y => h (V.str.inj y).symm
      rw [e]
      exact iteT q
/-! ### piece, next_word -/
def stops : Str := ",:]}"
def spPiece (CS : Addr) : Sp := fun vs H Q _ => ∃ (p dx : Addr) (t : Str) (i : Nat) (r : Int), vs = [.ref p] ∧ H p = some (.ins CS dx (sgF t (i : Int) r)) ∧ i ≤ t.length ∧ t.length ≤ 1000 ∧ (∀ c ∈ (tl t).drop i, c ∉ tl stops) ∧ Q (.str ⟨((tl t).drop i).toArray⟩) (upd H p (.ins CS dx (sgF t (t.length : Int) r)))
theorem cut_from {t : Str} {i : Nat} (h : i ≤ t.length) : cutS t (some (i : Int)) (some (t.length : Int)) = ⟨((tl t).drop i).toArray⟩ := by
  unfold cutS
  rw [HT.sIx_nat, HT.sIx_nat, Nat.min_self, Nat.min_eq_left h, List.take_of_length_le]
  rw [List.length_drop]
  show (tl t).length - i ≤ t.length - i
  rw [len_tl]
  exact Nat.le_refl _
theorem sc_Signs_piece : FnScope ["self", "begin"] ["self"] (defScope (inClass (top 65) 2)) := ⟨rfl, rfl, rfl, by decide +kernel, rfl, by decide +kernel, by decide +kernel⟩
theorem ok_piece (X : Fx mg) (T : SigC K CS) (F : MeP K CS "piece" "piece" "Signs.piece" (inClass (top 65) 2)) : MeCal P w K mg base CX0 1 CS "piece" ["self"] (spPiece CS) := by
  refine F.cal sc_Signs_piece (fun _ _ _ _ _ _ us hl => match us, hl with | [_], _ => rfl) (fun vs H Q E h => ?_) (fun f cdv A outer s H vs Q E hr h => ?_)
  · obtain ⟨p, dx, t, i, r, rfl, _⟩ := h
    rfl
  · obtain ⟨p, dx, t, i, r, rfl, hp, hi, hz, hs, q⟩ := h
    refine ⟨_, PSs.nox (pss_cons (ps_set (i := 1) sc_Signs_piece.nd rfl (Or.inl rfl) (pe_fld (pv 0) rfl))
      (pss_cons (ps_while PassesOwn.never (PW.pt (pw_and (pt_cmpR op_lt (pe_fld (pv 0) rfl) (pe_callB (call_len_str) rfl X.len (by decide +kernel) (pa_cons (pe_fld (pv 0) rfl) pa_nil)) (nomark _)) (pw_and1 (pt_cmpR op_notIn_sign (pe_ix ix_str (pe_fld (pv 0) rfl) (pe_fld (pv 0) rfl) (fun _ _ => rfl)) pe_str rfl)))) (pss_one (ps_fld (pv 0) (pe_op op_add (pe_fld (pv 0) rfl) pe_int) rfl)))
      (pss_one (ps_ret (pe_slice sl_str (pe_fld (pv 0) rfl) (po_some (pv 1)) (po_some (pe_fld (pv 0) rfl))))))), ?_⟩
    refine ⟨_, rfl, p, CS, dx, _, _, rfl, hp, T.cl, T.noA, sg_at _ _ _, ?_⟩
    refine ⟨fun m σ H2 => ∃ j : Nat, i ≤ j ∧ j ≤ t.length ∧ m = t.length - j ∧ σ = [some (.ref p), some (.int (i : Int))] ∧ H2 = upd H p (.ins CS dx (sgF t (j : Int) r)), ⟨_, i, Nat.le_refl _, hi, rfl, rfl, (upd_id hp).symm⟩, ?_⟩
    rintro m σ H2 ⟨j, h1, h2, rfl, rfl, rfl⟩
    have hp2 : upd H p (.ins CS dx (sgF t (j : Int) r)) p = some (.ins CS dx (sgF t (j : Int) r)) := upd_same
    refine ⟨_, rfl, p, CS, dx, _, _, rfl, hp2, T.cl, T.noA, sg_at _ _ _, _, rfl, p, CS, dx, _, _, rfl, hp2, T.cl, T.noT, sg_text _ _ _, t, rfl, sz1000 (by omega), _, _, rfl, rfl, _, rfl, ?_⟩
    by_cases h3 : j < t.length
    · have d3 : decide ((j : Int) < (t.length : Int)) = true := decide_eq_true (by omega)
      rw [d3]
      have h4 : j < (tl t).length := by rw [← len_tl]; exact h3
      have hc : (tl t)[j]? = some (tl t)[j] := List.getElem?_eq_getElem h4
      have hn : (tl t)[j] ∉ tl stops := by
        refine hs _ (List.mem_of_getElem? (i := j - i) ?_)
        rw [List.getElem?_drop, show i + (j - i) = j by omega]
        exact hc
      refine iteT ⟨_, rfl, p, CS, dx, _, _, rfl, hp2, T.cl, T.noT, sg_text _ _ _, _, rfl, p, CS, dx, _, _, rfl, hp2, T.cl, T.noA, sg_at _ _ _, t, _, _, rfl, rfl, sz1000 (by omega), atI_nat hc, _, stops, rfl, rfl, _, rfl, ?_⟩
      have d5 : (!decide ((tl t)[j] ∈ stops.cps.toList)) = true := by
        rw [decide_eq_false hn]
        rfl
      rw [d5]
      refine iteT ⟨fun σ' H' => σ' = [some (.ref p), some (.int (i : Int))] ∧ H' = upd H p (.ins CS dx (sgF t ((j + 1 : Nat) : Int) r)), fun σ' H' ⟨a1, a2⟩ => ⟨t.length - (j + 1), by omega, j + 1, by omega, h3, rfl, a1, a2⟩, ?_⟩
      refine ⟨_, rfl, p, CS, dx, _, _, rfl, hp2, T.cl, T.noA, sg_at _ _ _, _, _, rfl, rfl, _, rfl, p, CS, dx, _, rfl, hp2, T.cl, T.noA, sg_len _ _ _, rfl, ?_⟩
      rw [upd_upd, sg_putA]
      rfl
    · have d3 : decide ((j : Int) < (t.length : Int)) = false := decide_eq_false (by omega)
      rw [d3]
      have ej : j = t.length := by omega
      subst ej
      refine iteF (iteF ?_)
      refine ⟨_, rfl, p, CS, dx, _, _, rfl, hp2, T.cl, T.noT, sg_text _ _ _, _, rfl, _, rfl, _, rfl, p, CS, dx, _, _, rfl, hp2, T.cl, T.noA, sg_at _ _ _, _, rfl, t, rfl, sz1000 (by omega), ?_⟩
      rw [cut_from hi]
      exact q
theorem word_clean {x : Str} (h : isWordM x = true) : ∀ c ∈ tl x, c ∉ tl stops := by
  intro c hc
  unfold isWordM madeOf at h
  rw [Bool.and_eq_true, Bool.and_eq_true] at h
  have h1 := List.all_eq_true.mp h.2.2 c hc
  have h2 : c ∈ tl letters := of_decide_eq_true h1
  have h3 : (tl letters).all (fun c => !decide (c ∈ tl stops)) = true := by decide +kernel
  have h4 := List.all_eq_true.mp h3 c h2
  intro z
  rw [decide_eq_true z] at h4
  cases h4
def spNextWord (CS : Addr) : Sp := fun vs H Q _ => ∃ (p dx : Addr) (t x : Str) (r : Int), vs = [.ref p] ∧ H p = some (.ins CS dx (sgF t 1 r)) ∧ 1 ≤ t.length ∧ t.length ≤ 1000 ∧ x = ⟨((tl t).drop 1).toArray⟩ ∧ isWordM x = true ∧ Q (.str x) (upd H p (.ins CS dx (sgF t (t.length : Int) r)))
theorem sc_Signs_next_word : FnScope ["self", "word"] ["self"] (defScope (inClass (top 65) 3)) := ⟨rfl, rfl, rfl, by decide +kernel, rfl, by decide +kernel, by decide +kernel⟩
theorem ok_next_word (X : Fx mg) (T : SigC K CS) (m_piece : MeCal P w K mg base CX0 1 CS "piece" ["self"] (spPiece CS)) (c_is_word : Cal P w K mg base CX0 2 "is_word" ["text"] spIsWord) (F : MeP K CS "next_word" "next_word" "Signs.next_word" (inClass (top 65) 3)) : MeCal P w K mg base CX0 3 CS "next_word" ["self"] (spNextWord CS) := by
  refine F.cal sc_Signs_next_word (fun _ _ _ _ _ _ us hl => match us, hl with | [_], _ => rfl) (fun vs H Q E h => ?_) (fun f cdv A outer s H vs Q E hr h => ?_)
  · obtain ⟨p, dx, t, x, r, rfl, _⟩ := h
    rfl
  · obtain ⟨p, dx, t, x, r, rfl, hp, h1, hz, ex, hx, q⟩ := h
    have hr1 : Room 1 _ := hr.mono (by decide)
    refine ⟨_, PSs.nox (pss_cons (ps_set (i := 1) sc_Signs_next_word.nd rfl (Or.inl rfl) (pe_mcal0 m_piece T.cl hr1 pass0 (pv 0)))
      (pss_cons (ps_if (pt_not (pt_val (pe_cal c_is_word hr pass0 (pa_cons (pv 1) pa_nil)))) (pss_one ps_never) pss_nil)
      (pss_one (ps_ret (pv 1))))), ?_⟩
    have ed : tl x = (tl t).drop 1 := by rw [ex, tl_mk]
    refine ⟨_, rfl, p, dx, _, rfl, hp, sg_no _ _ _ (by decide +kernel) (by decide +kernel) (by decide +kernel), p, dx, t, 1, r, rfl, hp, h1, hz, ?_, ?_⟩
    · rw [← ed]
      exact word_clean hx
    · have hlen : x.length ≤ 1000 := by
        rw [len_tl, ed, List.length_drop, ← len_tl]
        omega
      rw [← ex]
      refine ⟨_, rfl, x, rfl, hlen, _, rfl, ?_⟩
      rw [hx]
      exact iteF ⟨_, rfl, q⟩
/-! ### value_at of reading: a word alone -/
def spValueAt (CS : Addr) : Sp := fun vs H Q _ => ∃ (p dx : Addr) (t x : Str), vs = [.ref p] ∧ H p = some (.ins CS dx (sgF t 0 60)) ∧ t.length ≤ 1000 ∧ valueM t = some x ∧ Q (.str x) (upd H p (.ins CS dx (sgF t (t.length : Int) 59)))
theorem valueM_some {t x : Str} (h : valueM t = some x) : tl t = 39 :: tl x ∧ isWordM x = true := by
  unfold valueM at h
  cases e : tl t with
  | nil =>
    rw [e] at h
    cases h
  | cons c r =>
    rw [e] at h
    have h2 : (if c = 39 ∧ isWordM ⟨r.toArray⟩ = true then some (⟨r.toArray⟩ : Str) else none) = some x := h
    by_cases z : c = 39 ∧ isWordM ⟨r.toArray⟩ = true
    · rw [if_pos z] at h2
      cases h2
      exact ⟨by rw [z.1], z.2⟩
    · rw [if_neg z] at h2
      cases h2
theorem sc_value_at_reading : FnScope ["signs"] ["signs"] (defScope (top 66)) := ⟨rfl, rfl, rfl, by decide +kernel, rfl, by decide +kernel, by decide +kernel⟩
theorem ok_value_at_reading (X : Fx mg) (T : SigC K CS) (m_take : MeCal P w K mg base CX0 1 CS "take" ["self", "sign"] (spTake CS)) (m_next_word : MeCal P w K mg base CX0 3 CS "next_word" ["self"] (spNextWord CS)) (F : FnP K mg "value_at_reading" "value_at" (top 66)) : Cal P w K mg base CX0 4 "value_at_reading" ["signs"] (spValueAt CS) := by
  refine F.cal sc_value_at_reading (fun _ _ _ _ _ _ us hl => match us, hl with | [_], _ => rfl) (fun vs H Q E h => ?_) (fun f cdv A outer s H vs Q E hr h => ?_)
  · obtain ⟨p, dx, t, x, rfl, _⟩ := h
    rfl
  · obtain ⟨p, dx, t, x, rfl, hp, hz, hv, q⟩ := h
    have hr1 : Room 1 _ := hr.mono (by decide)
    obtain ⟨et, hx⟩ := valueM_some hv
    have no : ∀ {m : Str} (i r : Int), (m == "text") = false → (m == "at") = false → (m == "room") = false → (sgF t i r).lookup m = none := fun i r => sg_no t i r
    refine ⟨_, PSs.nox (pss_cons (ps_fld (pv 0) (pe_op op_sub (pe_fld (pv 0) rfl) pe_int) rfl)
      (pss_cons (ps_if (pt_cmpR op_lt (pe_fld (pv 0) rfl) pe_int (nomark _)) (pss_one ps_never) pss_nil)
      (pss_cons (ps_if (pt_val (pe_mcal m_take T.cl hr1 pass0 (pv 0) (pa_cons pe_str pa_nil))) (pss_one ps_never) pss_nil)
      (pss_cons (ps_if (pt_val (pe_mcal m_take T.cl hr1 pass0 (pv 0) (pa_cons pe_str pa_nil))) (pss_one ps_never) pss_nil)
      (pss_cons (ps_if (pt_val (pe_mcal m_take T.cl hr1 pass0 (pv 0) (pa_cons pe_str pa_nil))) (pss_one (ps_ret (pe_mcal0 m_next_word T.cl hr pass0 (pv 0)))) pss_nil)
      (pss_one ps_never)))))), ?_⟩
    refine ⟨_, rfl, p, CS, dx, _, _, rfl, hp, T.cl, T.noR, sg_room _ _ _, _, _, rfl, rfl, _, rfl, p, CS, dx, _, rfl, hp, T.cl, T.noR, sg_len _ _ _, ?_⟩
    rw [sg_putR]
    have hp1 : upd H p (.ins CS dx (sgF t 0 (60 - 1))) p = some (.ins CS dx (sgF t 0 (60 - 1))) := upd_same
    refine ⟨_, rfl, p, CS, dx, _, _, rfl, hp1, T.cl, T.noR, sg_room _ _ _, _, _, rfl, rfl, _, rfl, iteF ?_⟩
    refine ⟨_, rfl, p, dx, _, rfl, hp1, no _ _ (by decide +kernel) (by decide +kernel) (by decide +kernel), p, dx, t, _, 39, tl x, _, rfl, hp1, et, hz, ?_⟩
    rw [if_neg (by decide +kernel)]
    refine ⟨_, rfl, iteF ?_⟩
    refine ⟨_, rfl, p, dx, _, rfl, hp1, no _ _ (by decide +kernel) (by decide +kernel) (by decide +kernel), p, dx, t, _, 39, tl x, _, rfl, hp1, et, hz, ?_⟩
    rw [if_neg (by decide +kernel)]
    refine ⟨_, rfl, iteF ?_⟩
    refine ⟨_, rfl, p, dx, _, rfl, hp1, no _ _ (by decide +kernel) (by decide +kernel) (by decide +kernel), p, dx, t, _, 39, tl x, _, rfl, hp1, et, hz, ?_⟩
    rw [if_pos (by decide +kernel), upd_upd]
    refine ⟨_, rfl, iteT ?_⟩
    refine ⟨_, rfl, p, dx, _, rfl, upd_same, no _ _ (by decide +kernel) (by decide +kernel) (by decide +kernel), p, dx, t, x, _, rfl, upd_same, by rw [len_tl, et]; exact Nat.succ_le_succ (Nat.zero_le _), hz, ?_, hx, ?_⟩
    · rw [et]
      exact (mk_tl x).symm
    · rw [upd_upd]
      exact q
def spReadValue : Sp := fun vs H Q _ => ∃ t x : Str, vs = [.str t] ∧ t.length ≤ 1000 ∧ valueM t = some x ∧ ∀ H', Same H H' → Q (.str x) H'
theorem sc_read_value : FnScope ["text", "signs", "value"] ["text"] (defScope (top 70)) := ⟨rfl, rfl, rfl, by decide +kernel, rfl, by decide +kernel, by decide +kernel⟩
theorem ok_read_value (X : Fx mg) (T : SigC K CS) (c_Signs : MkCal P w K mg base CX0 1 "Signs" CS ["self", "text"] (spSigInit CS)) (c_value_at_reading : Cal P w K mg base CX0 4 "value_at_reading" ["signs"] (spValueAt CS)) (F : FnP K mg "read_value" "read_value" (top 70)) : Cal P w K mg base CX0 5 "read_value" ["text"] spReadValue := by
  refine F.cal sc_read_value (fun _ _ _ _ _ _ us hl => match us, hl with | [_], _ => rfl) (fun vs H Q E h => ?_) (fun f cdv A outer s H vs Q E hr h => ?_)
  · obtain ⟨t, x, rfl, _⟩ := h
    rfl
  · obtain ⟨t, x, rfl, hz, hv, q⟩ := h
    have hr2 : Room 2 _ := hr.mono (by decide)
    refine ⟨_, PSs.nox (pss_cons (ps_if (pt_not (pt_val (pe_callB (call_isiB "str") rfl X.isinstance (by decide +kernel) (pa_cons (pv 0) (pa_cons (pe_bltn (v := .ty "str") rfl X.str (by decide +kernel) rfl) pa_nil))))) (pss_one ps_never) pss_nil)
      (pss_cons (ps_set (i := 1) sc_read_value.nd rfl (Or.inl rfl) (pe_mk c_Signs hr2 pass0 (pa_cons (pv 0) pa_nil)))
      (pss_cons (ps_set (i := 2) sc_read_value.nd rfl (Or.inl rfl) (pe_cal c_value_at_reading hr pass0 (pa_cons (pv 1) pa_nil)))
      (pss_cons (ps_if (pt_cmpR op_lt (pe_fld (pv 1) rfl) (pe_callB (call_len_str) rfl X.len (by decide +kernel) (pa_cons (pv 0) pa_nil)) (nomark _)) (pss_one ps_never) pss_nil)
      (pss_one (ps_ret (pv 2))))))), ?_⟩
    refine ⟨_, rfl, _, "str", true, rfl, .base (.str t), by decide +kernel, _, rfl, iteF ?_⟩
    refine ⟨_, rfl, fun p dx np nd ne => ?_⟩
    refine ⟨p, dx, t, rfl, upd_same, rfl, ?_⟩
    rw [upd_upd]
    refine ⟨_, rfl, p, dx, t, x, rfl, upd_same, hz, hv, ?_⟩
    rw [upd_upd]
    refine ⟨_, rfl, p, CS, dx, _, _, rfl, upd_same, T.cl, T.noA, sg_at _ _ _, _, rfl, t, rfl, sz1000 (by omega), _, _, rfl, rfl, _, rfl, ?_⟩
    have d : decide ((t.length : Int) < (t.length : Int)) = false := decide_eq_false (by omega)
    rw [d]
    refine iteF ⟨_, rfl, q _ fun b o e => ?_⟩
    rw [upd_ne (ne_of_none e np), upd_ne (ne_of_none e nd)]
    exact e
end
end Fk
set_option maxHeartbeats 4000000
/-! ## Rows, atoms, steps -/
namespace Fk
open PySem PySem.Spec PyProof.Rows L2 TL
abbrev R0 : Addr → Prop := fun _ => False
def rwF (l : Addr) (k : Int) : List (Str × V) := [(("rows" : Str), .ref l), (("next_row" : Str), .int k)]
structure RowC (K : PySem.W.Frag) (C : Addr) : Prop where
  cl : Cls K C
  noR : NoAttr K C "rows"
  noN : NoAttr K C "next_row"
theorem nRN : ¬ (("rows" : Str) = "next_row") := by decide +kernel
theorem rw_new (l : Addr) (k : Int) : putF "next_row" (.int k) (putF "rows" (.ref l) []) = rwF l k := by
  simp only [putF, if_neg nRN]
  rfl
theorem rw_rows (l : Addr) (k : Int) : (rwF l k).lookup ("rows" : Str) = some (.ref l) := rfl
theorem rw_next (l : Addr) (k : Int) : (rwF l k).lookup ("next_row" : Str) = some (.int k) := by
  have h : (("next_row" : Str) == "rows") = false := by decide +kernel
  unfold rwF
  rw [List.lookup_cons, h, List.lookup_cons, beq_self_eq_true]
theorem rw_no (l : Addr) (k : Int) {m : Str} (h1 : (m == "rows") = false) (h2 : (m == "next_row") = false) : (rwF l k).lookup m = none := by
  unfold rwF
  rw [List.lookup_cons, h1, List.lookup_cons, h2]
  rfl
theorem rw_put (l : Addr) (k j : Int) : putF "next_row" (.int j) (rwF l k) = rwF l j := by
  unfold rwF
  simp only [putF, if_neg nRN, if_pos]
/-- a row of words, written -/
def blank : Str := " "
def joinB (ws : List Str) : Str := Txt.join blank ws
def clean (ws : List Str) : Prop := ws ≠ [] ∧ (∀ x ∈ ws, 32 ∉ tl x) ∧ (joinB ws).length ≤ 1000 ∧ ws.length ≤ 100
theorem split_joinB {ws : List Str} (h : clean ws) : Txt.split (joinB ws) " " = ws := split_join (y := blank) (s := 32) (S := []) (by decide +kernel) (by decide +kernel) h.1 h.2.1
/-- a Rows stands at p, these rows are left -/
def RowsR (CR : Addr) (H : Hp) (p l : Addr) (rest : List (List Str)) : Prop :=
  ∃ (dx : Addr) (k : Nat) (wss : List (List Str)), H p = some (.ins CR dx (rwF l (k : Int))) ∧ H l = some (.lst ((wss.map joinB).map V.str)) ∧ k ≤ wss.length ∧ wss.drop k = rest ∧ wss.length ≤ 1000 ∧ ∀ ws ∈ wss, clean ws
theorem RowsR.of_same {CR : Addr} {H H' : Hp} {p l : Addr} {rest : List (List Str)} (e : Same H H') : RowsR CR H p l rest → RowsR CR H' p l rest := fun ⟨dx, k, wss, a, b, c⟩ => ⟨dx, k, wss, e _ _ a, e _ _ b, c⟩
theorem RowsR.head {CR : Addr} {H : Hp} {p l : Addr} {ws : List Str} {rest : List (List Str)} : RowsR CR H p l (ws :: rest) → clean ws := fun ⟨dx, k, wss, a, b, c, e, z, h⟩ => h ws (List.mem_of_mem_drop (i := k) (by rw [e]; exact List.mem_cons_self))
theorem RowsR.len {CR : Addr} {H : Hp} {p l : Addr} {rest : List (List Str)} : RowsR CR H p l rest → rest.length ≤ 1000 := fun ⟨dx, k, wss, a, b, c, e, z, h⟩ => by
  rw [← e, List.length_drop]
  omega
theorem RowsR.upd {CR : Addr} {H : Hp} {p l q : Addr} {rest : List (List Str)} {o : HO} (h1 : q ≠ p) (h2 : q ≠ l) : RowsR CR H p l rest → RowsR CR (L2.upd H q o) p l rest := fun ⟨dx, k, wss, a, b, c⟩ => ⟨dx, k, wss, by rw [upd_ne (Ne.symm h1)]; exact a, by rw [upd_ne (Ne.symm h2)]; exact b, c⟩
/-- a Rows has turned: all else stands -/
theorem Kept.of_but {R : Addr → Prop} {H H' : Hp} {p C dx : Addr} {fs : List (Str × V)} (b : But p H H') (hp : H p = some (.ins C dx fs)) : Kept R H H' := by
  refine ⟨fun c u e z => b c u e fun q => ?_, fun c kvs _ e => b c _ e fun q => ?_⟩
  · rw [q, hp] at e
    cases e
    rcases z with ⟨_, z⟩ | ⟨_, _, z⟩ <;> cases z
  · rw [q, hp] at e
    cases e
section
variable {P : Program} {w : World} {K : PySem.W.Frag} {mg : Str → Option Value} {base : Heap} {CS CR : Addr} {cA : OpK → Addr}
def newline : Str := "\n"
def spRowsInit (CR : Addr) : Sp := fun vs H Q _ => ∃ (p dx : Addr) (t : Str), vs = [.ref p, .str t] ∧ H p = some (.ins CR dx []) ∧ t.length ≤ 100000 ∧ ∀ l, H l = none → Q .non (upd (upd H l (.lst ((Txt.split t newline).map V.str))) p (.ins CR dx (rwF l 0)))
theorem sc_Rows___init__ : FnScope ["self", "text"] ["self", "text"] (defScope (inClass (top 71) 0)) := ⟨rfl, rfl, rfl, by decide +kernel, rfl, by decide +kernel, by decide +kernel⟩
theorem ok_rows_init (X : Fx mg) (T : RowC K CR) (F : MeP K CR "__init__" "__init__" "Rows.__init__" (inClass (top 71) 0)) : MeCal P w K mg base CX0 1 CR "__init__" ["self", "text"] (spRowsInit CR) := by
  refine F.cal sc_Rows___init__ (fun _ _ _ _ _ _ us hl => match us, hl with | [_, _], _ => rfl) (fun vs H Q E h => ?_) (fun f cdv A outer s H vs Q E hr h => ?_)
  · obtain ⟨p, dx, t, rfl, _⟩ := h
    rfl
  · obtain ⟨p, dx, t, rfl, hp, hz, q⟩ := h
    refine ⟨_, PSs.nox (pss_cons (ps_fld (pv 0) (pe_split (pv 1) pe_str) rfl)
      (pss_one (ps_fld (pv 0) pe_int rfl))), ?_⟩
    refine ⟨_, rfl, ⟨_, rfl⟩, t, newline, rfl, rfl, by decide +kernel, Nat.le_trans (Nat.add_le_add_right hz 2) (by decide), fun l nl => ?_⟩
    have ne : p ≠ l := ne_of_none hp nl
    refine ⟨_, rfl, p, CR, dx, _, rfl, by rw [upd_ne ne]; exact hp, T.cl, T.noR, by decide, _, rfl, p, CR, dx, _, rfl, upd_same, T.cl, T.noN, (by show 1 < 1000; decide), ?_⟩
    rw [upd_upd]
    show Q .non (upd (upd H l (.lst ((Txt.split t newline).map V.str))) p (.ins CR dx (putF "next_row" (.int 0) (putF "rows" (.ref l) []))))
    rw [rw_new]
    exact q l nl
def spDone (CR : Addr) : Sp := fun vs H Q _ => ∃ (p l : Addr) (rest : List (List Str)), vs = [.ref p] ∧ RowsR CR H p l rest ∧ Q (.bl rest.isEmpty) H
theorem sc_Rows_done : FnScope ["self"] ["self"] (defScope (inClass (top 71) 1)) := ⟨rfl, rfl, rfl, by decide +kernel, rfl, by decide +kernel, by decide +kernel⟩
theorem ok_done (X : Fx mg) (T : RowC K CR) (F : MeP K CR "done" "done" "Rows.done" (inClass (top 71) 1)) : MeCal P w K mg base CX0 1 CR "done" ["self"] (spDone CR) := by
  refine F.cal sc_Rows_done (fun _ _ _ _ _ _ us hl => match us, hl with | [_], _ => rfl) (fun vs H Q E h => ?_) (fun f cdv A outer s H vs Q E hr h => ?_)
  · obtain ⟨p, l, rest, rfl, _⟩ := h
    rfl
  · obtain ⟨p, l, rest, rfl, ⟨dx, k, wss, hp, hl, hk, he, hz, hc⟩, q⟩ := h
    refine ⟨_, PSs.nox (pss_one (ps_ret (pe_cmpR op_eq (pe_fld (pv 0) rfl) (pe_callB (call_len_seq) rfl X.len (by decide +kernel) (pa_cons (pe_fld (pv 0) rfl) pa_nil)) (nomark _)))), ?_⟩
    refine ⟨_, rfl, p, CR, dx, _, _, rfl, hp, T.cl, T.noN, rw_next _ _, _, rfl, p, CR, dx, _, _, rfl, hp, T.cl, T.noR, rw_rows _ _, _, _, rfl, .inl (SqL.of hl), rfl, ?_⟩
    have e : decide (V.int (k : Int) = V.int ((((wss.map joinB).map V.str).length : Nat) : Int)) = rest.isEmpty := by
      rw [List.length_map, List.length_map, ← he]
      by_cases c : k = wss.length
      · subst c
        rw [List.drop_length, decide_eq_true rfl]
        rfl
      · have h1 : ¬ V.int (k : Int) = V.int ((wss.length : Nat) : Int) := fun z => c (by have := V.int.inj z; omega)
        rw [decide_eq_false h1]
        cases ed : wss.drop k with
        | nil =>
          have := List.drop_eq_nil_iff.mp ed
          omega
        | cons a b => rfl
    rw [e]
    exact q
def spWords (CR : Addr) : Sp := fun vs H Q _ => ∃ (p l : Addr) (ws : List Str) (rest : List (List Str)), vs = [.ref p] ∧ RowsR CR H p l (ws :: rest) ∧ ∀ (q : Addr) (H' : Hp), H q = none → But p H H' → H' q = some (.lst (ws.map V.str)) → RowsR CR H' p l rest → Q (.ref q) H'
theorem sc_Rows_words : FnScope ["self"] ["self"] (defScope (inClass (top 71) 2)) := ⟨rfl, rfl, rfl, by decide +kernel, rfl, by decide +kernel, by decide +kernel⟩
theorem ok_words (X : Fx mg) (T : RowC K CR) (m_done : MeCal P w K mg base CX0 1 CR "done" ["self"] (spDone CR)) (F : MeP K CR "words" "words" "Rows.words" (inClass (top 71) 2)) : MeCal P w K mg base CX0 2 CR "words" ["self"] (spWords CR) := by
  refine F.cal sc_Rows_words (fun _ _ _ _ _ _ us hl => match us, hl with | [_], _ => rfl) (fun vs H Q E h => ?_) (fun f cdv A outer s H vs Q E hr h => ?_)
  · obtain ⟨p, l, ws, rest, rfl, _⟩ := h
    rfl
  · obtain ⟨p, l, ws, rest, rfl, hR, q⟩ := h
    obtain ⟨dx, k, wss, hp, hl, hk, he, hz, hc⟩ := id hR
    have hcl := hR.head
    refine ⟨_, PSs.nox (pss_cons (ps_if (pt_val (pe_mcal0 m_done T.cl hr pass0 (pv 0))) (pss_one ps_never) pss_nil)
      (pss_cons (ps_fld (pv 0) (pe_op op_add (pe_fld (pv 0) rfl) pe_int) rfl)
      (pss_one (ps_ret (pe_split (pe_ix ix_list (pe_fld (pv 0) rfl) (pe_op op_sub (pe_fld (pv 0) rfl) pe_int) (fun _ _ => rfl)) pe_str))))), ?_⟩
    refine ⟨_, rfl, p, dx, _, rfl, hp, rw_no _ _ (by decide +kernel) (by decide +kernel), p, l, ws :: rest, rfl, hR, _, rfl, iteF ?_⟩
    have hne : l ≠ p := ne_of hl hp (by intro z; cases z)
    refine ⟨_, rfl, p, CR, dx, _, _, rfl, hp, T.cl, T.noN, rw_next _ _, _, _, rfl, rfl, _, rfl, p, CR, dx, _, rfl, hp, T.cl, T.noN, (by show 2 < 1000; decide), ?_⟩
    rw [rw_put]
    have hl1 : upd H p (.ins CR dx (rwF l ((k : Int) + 1))) l = some (.lst ((wss.map joinB).map V.str)) := by rw [upd_ne hne]; exact hl
    have hk1 : wss[k]? = some ws := by
      have := congrArg List.head? he
      rw [List.head?_drop] at this
      exact this
    have hx : ((wss.map joinB).map V.str)[k]? = some (V.str (joinB ws)) := by rw [List.getElem?_map, List.getElem?_map, hk1]; rfl
    refine ⟨_, rfl, p, CR, dx, _, _, rfl, upd_same, T.cl, T.noR, rw_rows _ _, _, rfl, p, CR, dx, _, _, rfl, upd_same, T.cl, T.noN, rw_next _ _, _, _, rfl, rfl, l, _, _, _, rfl, rfl, SqL.of hl1, ?_, ⟨_, rfl⟩, joinB ws, blank, rfl, rfl, by decide +kernel, Nat.le_trans (Nat.add_le_add_right hcl.2.2.1 2) (by decide), fun a na => ?_⟩
    · rw [show (k : Int) + 1 - 1 = ((k : Nat) : Int) by omega]
      exact atI_nat hx
    · have nap : a ≠ p := by
        rintro rfl
        rw [upd_same] at na
        cases na
      have nal : a ≠ l := by
        rintro rfl
        rw [hl1] at na
        cases na
      rw [upd_ne nap] at na
      refine q a _ na (fun b o e n => ?_) ?_ ⟨dx, k + 1, wss, ?_, ?_, ?_, ?_, hz, hc⟩
      · rw [upd_ne (ne_of_none e na), upd_ne n]
        exact e
      · rw [upd_same]
        exact congrArg (fun z => some (HO.lst (List.map V.str z))) (split_joinB hcl)
      · rw [upd_ne (Ne.symm nap), upd_same]
        rfl
      · rw [upd_ne (Ne.symm nal)]
        exact hl1
      · have := (List.getElem?_eq_some_iff.mp hk1).1
        omega
      · have := congrArg List.tail he
        rw [List.tail_drop] at this
        exact this
/-! ### names, atoms -/
theorem name_len {t : Str} (h : isNameM t = true) : t.length ≤ 8 := by
  unfold isNameM at h
  rw [Bool.and_eq_true, Bool.and_eq_true] at h
  exact of_decide_eq_true h.2.1
theorem word_len {t : Str} (h : isWordM t = true) : t.length ≤ 8 := by
  unfold isWordM at h
  rw [Bool.and_eq_true, Bool.and_eq_true] at h
  exact of_decide_eq_true h.2.1
theorem atom_len {t : Str} {a : Atom} (h : atomM t = some a) : t.length ≤ 9 := by
  unfold atomM at h
  by_cases c : isNameM t = true
  · have := name_len c
    omega
  · rw [if_neg c] at h
    obtain ⟨x, hx, _⟩ := Option.map_eq_some_iff.mp h
    obtain ⟨e1, e2⟩ := valueM_some hx
    have := word_len e2
    rw [len_tl] at this
    rw [len_tl, e1, List.length_cons]
    omega
def spNameOf : Sp := fun vs H Q _ => ∃ t : Str, vs = [.str t] ∧ isNameM t = true ∧ Q (.str t) H
theorem sc_name_of : FnScope ["word"] ["word"] (defScope (top 72)) := ⟨rfl, rfl, rfl, by decide +kernel, rfl, by decide +kernel, by decide +kernel⟩
theorem ok_name_of (X : Fx mg) (c_is_name : Cal P w K mg base CX0 2 "is_name" ["text"] spIsName) (F : FnP K mg "name_of" "name_of" (top 72)) : Cal P w K mg base CX0 3 "name_of" ["word"] spNameOf := by
  refine F.cal sc_name_of (fun _ _ _ _ _ _ us hl => match us, hl with | [_], _ => rfl) (fun vs H Q E h => ?_) (fun f cdv A outer s H vs Q E hr h => ?_)
  · obtain ⟨t, rfl, _⟩ := h
    rfl
  · obtain ⟨t, rfl, hn, q⟩ := h
    refine ⟨_, PSs.nox (pss_cons (ps_if (pt_not (pt_val (pe_cal c_is_name hr pass0 (pa_cons (pv 0) pa_nil)))) (pss_one ps_never) pss_nil)
      (pss_one (ps_ret (pv 0)))), ?_⟩
    refine ⟨_, rfl, t, rfl, by have := name_len hn; omega, _, rfl, ?_⟩
    rw [hn]
    exact iteF ⟨_, rfl, q⟩
def RepTo (K : PySem.W.Frag) (d : D) (H : Hp) (Q : VK) : Prop := ∀ (v : V) (H' : Hp), Same H H' → Rep K R0 H' d v → Q v H'
def spReadAtom (K : PySem.W.Frag) : Sp := fun vs H Q _ => ∃ (t : Str) (a : Atom), vs = [.str t] ∧ atomM t = some a ∧ RepTo K a.d H Q
theorem sc_read_atom : FnScope ["word"] ["word"] (defScope (top 73)) := ⟨rfl, rfl, rfl, by decide +kernel, rfl, by decide +kernel, by decide +kernel⟩
theorem ok_read_atom (X : Fx mg) (c_is_name : Cal P w K mg base CX0 2 "is_name" ["text"] spIsName) (c_read_value : Cal P w K mg base CX0 5 "read_value" ["text"] spReadValue) (F : FnP K mg "read_atom" "read_atom" (top 73)) : Cal P w K mg base CX0 6 "read_atom" ["word"] (spReadAtom K) := by
  refine F.cal sc_read_atom (fun _ _ _ _ _ _ us hl => match us, hl with | [_], _ => rfl) (fun vs H Q E h => ?_) (fun f cdv A outer s H vs Q E hr h => ?_)
  · obtain ⟨t, a, rfl, _⟩ := h
    rfl
  · obtain ⟨t, a, rfl, ha, q⟩ := h
    have hr2 : Room 2 _ := hr.mono (by decide)
    have hz := atom_len ha
    refine ⟨_, PSs.nox (pss_cons (ps_if (pt_val (pe_cal c_is_name hr2 pass0 (pa_cons (pv 0) pa_nil))) (pss_one (ps_ret (pe_tup (pa_cons pe_str (pa_cons (pv 0) pa_nil))))) pss_nil)
      (pss_one (ps_ret (pe_tup (pa_cons pe_str (pa_cons (pe_cal c_read_value hr pass0 (pa_cons (pv 0) pa_nil)) pa_nil)))))), ?_⟩
    refine ⟨_, rfl, t, rfl, by omega, _, rfl, ?_⟩
    unfold atomM at ha
    cases c : isNameM t with
    | true =>
      rw [c, if_pos rfl] at ha
      cases ha
      exact iteT ⟨_, rfl, by show 2 ≤ sizeLine; decide, fun p np => q _ _ (Same.new np) (.row (SqT.of upd_same) (.cons (.word _) (.cons (.word _) .nil)))⟩
    | false =>
      rw [c, if_neg Bool.false_ne_true] at ha
      obtain ⟨x, hx, e⟩ := Option.map_eq_some_iff.mp ha
      subst e
      exact iteF ⟨_, rfl, t, x, rfl, by omega, hx, fun H1 s1 => ⟨by show 2 ≤ sizeLine; decide, fun p np => q _ _ (s1.trans (Same.new np)) (.row (SqT.of upd_same) (.cons (.word _) (.cons (.word _) .nil)))⟩⟩
theorem atomsM_cons {x : Str} {r : List Str} {as : List Atom} (h : atomsM (x :: r) = some as) : ∃ a as', atomM x = some a ∧ atomsM r = some as' ∧ as = a :: as' := by
  have h2 : (match atomM x, atomsM r with
    | some a, some as => some (a :: as)
    | _, _ => none) = some as := h
  cases e1 : atomM x with
  | none =>
    rw [e1] at h2
    cases h2
  | some a =>
    cases e2 : atomsM r with
    | none =>
      rw [e1, e2] at h2
      cases h2
    | some as' =>
      rw [e1, e2] at h2
      cases h2
      exact ⟨a, as', rfl, rfl, rfl⟩
theorem atomsM_at : ∀ {ws : List Str} {as : List Atom} {i : Nat} {x : Str}, atomsM ws = some as → ws[i]? = some x → ∃ a, as[i]? = some a ∧ atomM x = some a
  | [], _, _, _, _, h => by cases h
  | y :: r, as, 0, x, h, e => by
    cases e
    obtain ⟨a, as', h1, _, rfl⟩ := atomsM_cons h
    exact ⟨a, rfl, h1⟩
  | y :: r, as, i + 1, x, h, e => by
    obtain ⟨a, as', _, h2, rfl⟩ := atomsM_cons h
    exact atomsM_at (i := i) h2 e
theorem atomsM_len : ∀ {ws : List Str} {as : List Atom}, atomsM ws = some as → as.length = ws.length
  | [], _, h => by cases h; rfl
  | y :: r, as, h => by
    obtain ⟨a, as', _, h2, rfl⟩ := atomsM_cons h
    exact congrArg (· + 1) (atomsM_len h2)
/-- a list that grows stands apart from what data leans on -/
theorem Kept.lst {R : Addr → Prop} {H : Hp} {p : Addr} {xs ys : List V} (h : H p = some (.lst xs)) : Kept R H (L2.upd H p (.lst ys)) := by
  refine ⟨fun b u e z => ?_, fun b kvs _ e => ?_⟩
  · rw [upd_ne]
    · exact e
    · rintro rfl
      rw [h] at e
      cases e
      rcases z with ⟨_, z⟩ | ⟨_, _, z⟩ <;> cases z
  · rw [upd_ne]
    · exact e
    · rintro rfl
      rw [h] at e
      cases e
theorem grow {H H' : Hp} {p : Addr} {o : HO} (s : Same H H') (h : H p = none) : Same H (L2.upd H' p o) := fun b u e => by
  rw [upd_ne (ne_of_none e h)]
  exact s b u e
def spReadAtoms (K : PySem.W.Frag) : Sp := fun vs H Q _ => ∃ (l : Addr) (ws : List Str) (as : List Atom), vs = [.ref l] ∧ SqL K H l (ws.map V.str) ∧ ws.length ≤ 1000 ∧ atomsM ws = some as ∧ RepTo K (atomsD as) H Q
theorem sc_read_atoms : FnScope ["words", "word"] ["words"] (defScope (top 74)) := ⟨rfl, rfl, rfl, by decide +kernel, rfl, by decide +kernel, by decide +kernel⟩
theorem ok_read_atoms (X : Fx mg) (c_read_atom : Cal P w K mg base CX0 6 "read_atom" ["word"] (spReadAtom K)) (F : FnP K mg "read_atoms" "read_atoms" (top 74)) : Cal P w K mg base CX0 7 "read_atoms" ["words"] (spReadAtoms K) := by
  refine F.cal sc_read_atoms (fun _ _ _ _ _ _ us hl => match us, hl with | [_], _ => rfl) (fun vs H Q E h => ?_) (fun f cdv A outer s H vs Q E hr h => ?_)
  · obtain ⟨l, ws, as, rfl, _⟩ := h
    rfl
  · obtain ⟨l, ws, as, rfl, hl, hz, ha, q⟩ := h
    refine ⟨_, PSs.nox (pss_one (ps_ret (pe_tupleOf rfl X.tuple (pe_lc (own := [("word", 1)]) (g := gName 1) (tt := tYes) rfl sc_read_atoms.nd (pi_list (pv 0)) (blkOk_by (N := ["words", "word"]) (sc := defScope (top 74)) (by decide +kernel)) (fun _ _ _ _ _ => pg_name (i := 1) sc_read_atoms.nd rfl (Or.inl rfl)) (fun _ _ _ _ _ => pts_nil) (fun _ _ _ _ _ => (pe_cal c_read_atom hr pass0 (pa_cons (pv 1) pa_nil))))))), ?_⟩
    refine ⟨_, rfl, l, rfl, ⟨_, hl⟩, fun Dl nD => lc_list (K := K) (a := l) (xs := ws.map V.str) (fun i H' => ∃ acc : List V, H' Dl = some (.lst acc) ∧ acc.length = i ∧ RepL K R0 H' ((as.take i).map Atom.d) acc ∧ Same H H') ⟨[], upd_same, rfl, .nil, Same.new nD⟩ (fun i H' _ ⟨_, _, _, _, s1⟩ => s1.seq hl) ?_ ?_⟩
    · rintro i x H1 hi ⟨acc, hD, hacc, hr', s1⟩
      obtain ⟨t, ht, rfl⟩ : ∃ t, ws[i]? = some t ∧ x = V.str t := by
        rw [List.getElem?_map] at hi
        obtain ⟨t, e1, e2⟩ := Option.map_eq_some_iff.mp hi
        exact ⟨t, e1, e2.symm⟩
      obtain ⟨a, ea, ma⟩ := atomsM_at ha ht
      refine ⟨rfl, ?_⟩
      unfold tYes
      refine iteT ⟨_, rfl, t, a, rfl, ma, fun v H2 s2 rv => ?_⟩
      have hD2 := s2 _ _ hD
      have hil : i < ws.length := (List.getElem?_eq_some_iff.mp ht).1
      refine ⟨acc, hD2, Nat.lt_of_lt_of_le (show acc.length < 1001 by omega) (by decide), acc ++ [v], upd_same, by rw [List.length_append, hacc]; rfl, ?_, grow (s1.trans s2) nD⟩
      have e : (as.take (i + 1)).map Atom.d = (as.take i).map Atom.d ++ [a.d] := by
        rw [List.take_succ, ea, List.map_append]
        rfl
      rw [e]
      exact ((hr'.same s2).mono (Kept.lst hD2)).append (.cons (rv.mono (Kept.lst hD2)) .nil)
    · rintro H1 ⟨acc, hD, hacc, hr', s1⟩
      rw [List.length_map, ← atomsM_len ha, List.take_length] at hr'
      exact .inl ⟨Dl, acc, rfl, SqL.of hD, fun p np => q _ _ (s1.trans (Same.new np)) (.row (SqT.of upd_same) (hr'.same (Same.new np)))⟩
end
end Fk
set_option maxHeartbeats 4000000
/-! ## Steps, ends, blocks -/
namespace Fk
open PySem PySem.Spec PyProof.Rows L2 TL
theorem stepM_some {ws : List Str} {st : Stp} (h : stepM ws = some st) : ∃ n e op r, ws = n :: e :: op :: r ∧ isNameM n = true ∧
    ((op = "call" ∧ ∃ f r' as, r = f :: r' ∧ isNameM f = true ∧ atomsM r' = some as ∧ st = .call n f as) ∨ (op ≠ "call" ∧ ∃ o as, opM op = some o ∧ atomsM r = some as ∧ as.length = o.kinds.length ∧ st = .let_ n o as)) := by
  unfold stepM at h
  split at h
  · rename_i n e op r
    refine ⟨n, e, op, r, rfl, ?_⟩
    by_cases hn : isNameM n = true
    · rw [if_pos hn] at h
      refine ⟨hn, ?_⟩
      by_cases hc : op = "call"
      · rw [if_pos hc] at h
        refine .inl ⟨hc, ?_⟩
        cases r with
        | nil => cases h
        | cons f r' =>
          have h2 : (if isNameM f = true then (atomsM r').map (Stp.call n f) else none) = some st := h
          by_cases hf : isNameM f = true
          · rw [if_pos hf] at h2
            obtain ⟨as, e1, e2⟩ := Option.map_eq_some_iff.mp h2
            exact ⟨f, r', as, rfl, hf, e1, e2.symm⟩
          · rw [if_neg hf] at h2
            cases h2
      · rw [if_neg hc] at h
        refine .inr ⟨hc, ?_⟩
        cases e1 : opM op with
        | none =>
          rw [e1] at h
          cases h
        | some o =>
          cases e2 : atomsM r with
          | none =>
            rw [e1, e2] at h
            cases h
          | some as =>
            rw [e1, e2] at h
            have h2 : (if as.length = o.kinds.length then some (Stp.let_ n o as) else none) = some st := h
            by_cases hl : as.length = o.kinds.length
            · rw [if_pos hl] at h2
              cases h2
              exact ⟨o, as, rfl, rfl, hl, rfl⟩
            · rw [if_neg hl] at h2
              cases h2
    · rw [if_neg hn] at h
      cases h
  · cases h
theorem opM_word {t : Str} {o : OpK} (h : opM t = some o) : o.word = t := by
  unfold opM at h
  have h2 := List.find?_some (p := fun o : OpK => decide (o.word = t)) h
  exact of_decide_eq_true h2
section
variable {P : Program} {w : World} {K : PySem.W.Frag} {mg : Str → Option Value} {base : Heap} {CS CR : Addr} {cA : OpK → Addr}
/-- xs[j:] -/
theorem cut_from4 {xs : List V} {j : Nat} {i : Int} (e : i = (j : Int)) (hj : j ≤ xs.length) : cutV xs (some i) none = xs.drop j := by
  subst e
  exact cut_hi hj
def spReadStep (K : PySem.W.Frag) : Sp := fun vs H Q _ => ∃ (l : Addr) (ws : List Str) (st : Stp), vs = [.ref l] ∧ SqL K H l (ws.map V.str) ∧ ws.length ≤ 1000 ∧ stepM ws = some st ∧ RepTo K st.d H Q
theorem sc_read_step : FnScope ["words", "name", "op", "atoms"] ["words"] (defScope (top 75)) := ⟨rfl, rfl, rfl, by decide +kernel, rfl, by decide +kernel, by decide +kernel⟩
theorem ok_read_step (X : Fx mg) (O : OpsP P w K mg base cA) (c_name_of : Cal P w K mg base CX0 3 "name_of" ["word"] spNameOf) (c_op_of : Cal P w K mg base CX0 4 "op_of" ["word"] (spOpOf cA)) (c_read_atoms : Cal P w K mg base CX0 7 "read_atoms" ["words"] (spReadAtoms K)) (F : FnP K mg "read_step" "read_step" (top 75)) : Cal P w K mg base CX0 8 "read_step" ["words"] (spReadStep K) := by
  refine F.cal sc_read_step (fun _ _ _ _ _ _ us hl => match us, hl with | [_], _ => rfl) (fun vs H Q E h => ?_) (fun f cdv A outer s H vs Q E hr h => ?_)
  · obtain ⟨l, ws, st, rfl, _⟩ := h
    rfl
  · obtain ⟨l, ws, st, rfl, hl, hz, hs, q⟩ := h
    have hr3 : Room 3 _ := hr.mono (by decide)
    have hr4 : Room 4 _ := hr.mono (by decide)
    obtain ⟨n, e, op, r, rfl, hn, hs⟩ := stepM_some hs
    refine ⟨_, PSs.nox (pss_cons (ps_set (i := 1) sc_read_step.nd rfl (Or.inl rfl) (pe_cal c_name_of hr3 pass0 (pa_cons (pe_ix ix_list (pv 0) pe_int (fun _ _ => rfl)) pa_nil)))
      (pss_cons (ps_if (pt_cmpR op_eq (pe_ix ix_list (pv 0) pe_int (fun _ _ => rfl)) pe_str (nomark _)) (pss_cons (ps_if (pt_cmpR op_lt (pe_callB (call_len_seq) rfl X.len (by decide +kernel) (pa_cons (pv 0) pa_nil)) pe_int (nomark _)) (pss_one ps_never) pss_nil)
      (pss_one (ps_ret (pe_tup (pa_cons pe_str (pa_cons (pv 1) (pa_cons (pe_cal c_name_of hr3 pass0 (pa_cons (pe_ix ix_list (pv 0) pe_int (fun _ _ => rfl)) pa_nil)) (pa_cons (pe_cal c_read_atoms hr pass0 (pa_cons (pe_slice sl_list (pv 0) (po_some pe_int) po_none) pa_nil)) pa_nil)))))))) pss_nil)
      (pss_cons (ps_try_thru0 (pss_one (ps_set (i := 2) sc_read_step.nd rfl (Or.inl rfl) (pe_cal c_op_of hr4 pass0 (pa_cons (pe_ix ix_list (pv 0) pe_int (fun _ _ => rfl)) pa_nil)))))
      (pss_cons (ps_set (i := 3) sc_read_step.nd rfl (Or.inl rfl) (pe_cal c_read_atoms hr pass0 (pa_cons (pe_slice sl_list (pv 0) (po_some pe_int) po_none) pa_nil)))
      (pss_cons (ps_if (pt_cmpR op_ne (pe_callB (call_len_seq) rfl X.len (by decide +kernel) (pa_cons (pv 3) pa_nil)) (pe_fld (pv 2) rfl) (nomark _)) (pss_one ps_never) pss_nil)
      (pss_one (ps_ret (pe_tup (pa_cons pe_str (pa_cons (pv 1) (pa_cons (pe_fld (pv 2) rfl) (pa_cons (pv 3) pa_nil)))))))))))), ?_⟩
    refine ⟨_, rfl, l, _, _, _, rfl, rfl, hl, atI_nat (j := 0) rfl, n, rfl, hn, ?_⟩
    refine ⟨_, rfl, l, _, _, _, rfl, rfl, hl, atI_nat (j := 2) rfl, rfl, _, rfl, ?_⟩
    rcases hs with ⟨rfl, f, r', as, rfl, hf, ha, rfl⟩ | ⟨hc, o, as, ho, ha, hlen, rfl⟩
    · rw [decide_eq_true rfl]
      refine iteT ⟨_, rfl, _, _, rfl, .inl hl, _, _, rfl, rfl, _, rfl, ?_⟩
      have d : decide ((((n :: e :: "call" :: f :: r').map V.str).length : Int) < 4) = false := decide_eq_false (by rw [List.length_map]; simp only [List.length_cons]; omega)
      rw [d]
      refine iteF ?_
      refine ⟨_, rfl, _, rfl, l, _, _, _, rfl, rfl, hl, atI_nat (j := 3) rfl, f, rfl, hf, ?_⟩
      refine ⟨_, rfl, ⟨_, rfl, ?_⟩⟩
      unfold tNoPart
      refine ⟨l, _, rfl, hl, fun p np => ?_⟩
      refine ⟨p, r', as, rfl, ?_, by simp only [List.length_cons] at hz; omega, ha, fun v H' s' rv => ⟨by show 4 ≤ sizeLine; decide, fun p2 np2 => q _ _ ((Same.new np).trans (s'.trans (Same.new np2))) (.row (SqT.of upd_same) (.cons (.word _) (.cons (.word _) (.cons (.word _) (.cons (rv.same (Same.new np2)) .nil)))))⟩⟩
      rw [show cutV (List.map V.str (n :: e :: "call" :: f :: r')) (some 4) none = r'.map V.str from cut_from4 (j := 4) (i := 4) rfl (by rw [List.length_map]; show 4 ≤ r'.length + 4; omega)]
      exact SqL.of upd_same
    · have d0 : decide (V.str op = V.str "call") = false := decide_eq_false fun z => hc (V.str.inj z)
      rw [d0]
      refine iteF ?_
      refine ⟨_, rfl, l, _, _, _, rfl, rfl, hl, atI_nat (j := 2) rfl, o, by rw [opM_word ho]; rfl, fun p H1 s1 np hop => ?_⟩
      have C := O.c o
      refine ⟨_, rfl, ⟨_, rfl, ?_⟩⟩
      unfold tNoPart
      refine ⟨l, _, rfl, s1.seq hl, fun p1 np1 => ?_⟩
      refine ⟨p1, r, as, rfl, ?_, by simp only [List.length_cons] at hz; omega, ha, fun v H' s' rv => ?_⟩
      · rw [show cutV (List.map V.str (n :: e :: op :: r)) (some 3) none = r.map V.str from cut_from4 (j := 3) (i := 3) rfl (by rw [List.length_map]; show 3 ≤ r.length + 3; omega)]
        exact SqL.of upd_same
      have s2 : Same H1 H' := (Same.new np1).trans s'
      obtain ⟨dx, tk, hp, hk⟩ := hop
      obtain ⟨a, ys, rfl, hy, hl2⟩ := rv.row_inv
      refine ⟨_, rfl, _, _, rfl, .inr hy, _, rfl, p, _, dx, _, _, rfl, s2 _ _ hp, C.cl, C.noM, opF_many _ _ _, rfl, _, rfl, ?_⟩
      rw [hl2.len, List.length_map, hlen]
      refine iteNS rfl ?_
      exact ⟨_, rfl, _, rfl, p, _, dx, _, _, rfl, s2 _ _ hp, C.cl, C.noW, opF_word _ _ _, _, rfl, by show 4 ≤ sizeLine; decide, fun p2 np2 => q _ _ (s1.trans (s2.trans (Same.new np2))) (.row (SqT.of upd_same) (.cons (.word _) (.cons (.word _) (.cons (.word _) (.cons (rv.same (Same.new np2)) .nil)))))⟩
/-! ### ends, ifs, blocks -/
def blkAt : Nat → List (List Str) → Option (Blk × List (List Str))
  | 0 => fun _ => none
  | n + 1 => blockM n
theorem blockM_eq (n : Nat) (rs : List (List Str)) : blockM n rs = (match stepsM rs with
    | some (ss, e, r) => endM (blkAt n) ss r e
    | none => none) := by cases n <;> rfl
/-- what reading a block leaves -/
def BlkTo (K : PySem.W.Frag) (CR p lr : Addr) (d : D) (rest : List (List Str)) (H : Hp) (Q : VK) : Prop := ∀ (v : V) (H' : Hp), But p H H' → RowsR CR H' p lr rest → Rep K R0 H' d v → Q v H'
def spReadBlock (K : PySem.W.Frag) (CR : Addr) (n : Nat) : Sp := fun vs H Q _ => ∃ (p lr : Addr) (rs r : List (List Str)) (b : Blk), vs = [.ref p, .int (8 - (n : Int))] ∧ RowsR CR H p lr rs ∧ blockM n rs = some (b, r) ∧ BlkTo K CR p lr b.d r H Q
def spReadIf (K : PySem.W.Frag) (CR : Addr) (n : Nat) : Sp := fun vs H Q _ => ∃ (l p lr : Addr) (w x : Str) (r r1 r2 : List (List Str)) (a : Atom) (b c : Blk), vs = [.ref l, .ref p, .int (8 - (n : Int))] ∧ SqL K H l [.str w, .str x] ∧ l ≠ p ∧ RowsR CR H p lr r ∧ atomM x = some a ∧
  blkAt n r = some (b, [("else" : Str)] :: r1) ∧ blkAt n r1 = some (c, [("end" : Str)] :: r2) ∧ BlkTo K CR p lr (.row [.word "if", a.d, b.d, c.d]) r2 H Q
def spReadEnd (K : PySem.W.Frag) (CR : Addr) (n : Nat) : Sp := fun vs H Q _ => ∃ (l p lr : Addr) (ws : List Str) (r r' : List (List Str)) (ss : List Stp) (b : Blk), vs = [.ref l, .ref p, .int (8 - (n : Int))] ∧ SqL K H l (ws.map V.str) ∧ l ≠ p ∧ ws.length ≤ 1000 ∧ RowsR CR H p lr r ∧ endM (blkAt n) ss r ws = some (b, r') ∧ BlkTo K CR p lr b.endD r' H Q
theorem RowsR.at {CR : Addr} {H : Hp} {p l : Addr} {rs : List (List Str)} : RowsR CR H p l rs → ∃ dx fs, H p = some (.ins CR dx fs) := fun ⟨dx, k, wss, a, _⟩ => ⟨dx, _, a⟩
theorem RowsR.kept {CR : Addr} {H H' : Hp} {p l : Addr} {rs : List (List Str)} {R : Addr → Prop} (h : RowsR CR H p l rs) (b : But p H H') : Kept R H H' := let ⟨_, _, e⟩ := h.at; Kept.of_but b e
theorem words_eq {H : Hp} {a b : Addr} {x y : Str} (ha : SqL K H a [.str x]) (hb : SqL K H b [.str y]) (e : x = y) (hs : SeqAt.shaped (.list [.str x]) = true) {Q : VK} (q : Q (.bl false) H) : rNeD K (.ref a) (.ref b) H Q := by
  subst e
  refine ⟨.list [.str x], .list [.str x], .lst ha (.cons (.str x) .nil), .lst hb (.cons (.str x) .nil), hs, hs, ?_⟩
  have e : PyData.eqv (.list [.str x]) (.list [.str x]) = true := SeqAt.eqv_refl _ (SeqAt.canLay_of_shaped hs)
  rw [e]
  exact q
theorem sc_read_if : FnScope ["words", "rows", "depth", "atom", "first", "second"] ["words", "rows", "depth"] (defScope (top 76)) := ⟨rfl, rfl, rfl, by decide +kernel, rfl, by decide +kernel, by decide +kernel⟩
theorem ok_read_if {n : Nat} (X : Fx mg) (T : RowC K CR) (c_read_atom : Cal P w K mg base CX0 6 "read_atom" ["word"] (spReadAtom K)) (m_words : MeCal P w K mg base CX0 2 CR "words" ["self"] (spWords CR))
    (cb : ∀ m, n = m + 1 → Cal P w K mg base CX0 (12 + 3 * m) "read_block" ["rows", "depth"] (spReadBlock K CR m)) (F : FnP K mg "read_if" "read_if" (top 76)) : Cal P w K mg base CX0 (10 + 3 * n) "read_if" ["words", "rows", "depth"] (spReadIf K CR n) := by
  have F' : Cal P w K mg base CX0 (9 + 3 * n + 1) "read_if" ["words", "rows", "depth"] (spReadIf K CR n) := by
    refine F.cal sc_read_if (fun _ _ _ _ _ _ us hl => match us, hl with | [_, _, _], _ => rfl) (fun vs H Q E h => ?_) (fun f cdv A outer s H vs Q E hr h => ?_)
    · obtain ⟨l, p, lr, w', x, r, r1, r2, a, b, c, rfl, _⟩ := h
      rfl
    · obtain ⟨l, p, lr, w', x, r, r1, r2, a, b, c, rfl, hl, hne, hR, ha, hb, hc, q⟩ := h
      cases n with
      | zero => cases hb
      | succ m =>
        have c_read_block := cb m rfl
        have hr6 : Room 6 _ := hr.mono (by omega)
        have hr2 : Room 2 _ := hr.mono (by omega)
        have hrb : Room (12 + 3 * m) _ := hr.mono (by omega)
        have hb' : blockM m r = some (b, [("else" : Str)] :: r1) := hb
        have hc' : blockM m r1 = some (c, [("end" : Str)] :: r2) := hc
        refine ⟨_, PSs.nox (pss_cons (ps_if (pt_cmpR op_eq (pv 2) (pe_gint X.MOST_IFS) (nomark _)) (pss_one ps_never) pss_nil)
      (pss_cons (ps_set (i := 3) sc_read_if.nd rfl (Or.inl rfl) (pe_cal c_read_atom hr6 pass0 (pa_cons (pe_ix ix_list (pv 0) pe_int (fun _ _ => rfl)) pa_nil)))
      (pss_cons (ps_set (i := 4) sc_read_if.nd rfl (Or.inl rfl) (pe_cal c_read_block hrb pass0 (pa_cons (pv 1) (pa_cons (pe_op op_add (pv 2) pe_int) pa_nil))))
      (pss_cons (ps_if (pt_cmpR (op_neD hr.units) (pe_mcal0 m_words T.cl hr2 pass0 (pv 1)) (pe_lst (pa_cons pe_str pa_nil)) (nomark _)) (pss_one ps_never) pss_nil)
      (pss_cons (ps_set (i := 5) sc_read_if.nd rfl (Or.inl rfl) (pe_cal c_read_block hrb pass0 (pa_cons (pv 1) (pa_cons (pe_op op_add (pv 2) pe_int) pa_nil))))
      (pss_cons (ps_if (pt_cmpR (op_neD hr.units) (pe_mcal0 m_words T.cl hr2 pass0 (pv 1)) (pe_lst (pa_cons pe_str pa_nil)) (nomark _)) (pss_one ps_never) pss_nil)
      (pss_one (ps_ret (pe_tup (pa_cons pe_str (pa_cons (pv 3) (pa_cons (pv 4) (pa_cons (pv 5) pa_nil))))))))))))), ?_⟩
        refine ⟨_, rfl, rfl, _, rfl, ?_⟩
        have d0 : decide (V.int (8 - ((m + 1 : Nat) : Int)) = V.int 8) = false := decide_eq_false fun z => by
          have := V.int.inj z
          omega
        rw [d0]
        refine iteF ?_
        refine ⟨_, rfl, l, _, _, _, rfl, rfl, hl, atI_nat (j := 1) rfl, x, a, rfl, ha, fun va H1 s1 ra => ?_⟩
        have hR1 := hR.of_same s1
        refine ⟨_, rfl, _, rfl, _, _, rfl, rfl, p, lr, r, _, b, ?_, hR1, hb', fun vb H2 b2 hR2 rb => ?_⟩
        · have e : (8 - ((m + 1 : Nat) : Int)) + 1 = 8 - (m : Int) := by omega
          exact congrArg (fun z => [V.ref p, V.int z]) e
        have k2 : Kept R0 H1 H2 := hR1.kept b2
        obtain ⟨dx2, fs2, e2⟩ := hR2.at
        obtain ⟨dxx, kk, wssx, hpx, hlx⟩ := id hR2
        refine ⟨_, rfl, p, dxx, _, rfl, hpx, rw_no _ _ (by decide +kernel) (by decide +kernel), p, lr, _, r1, rfl, hR2, fun q1 H3 nq1 b3 hq1 hR3 => ?_⟩
        refine ⟨by show 1 ≤ sizeLine; decide, fun p4 np4 => ?_⟩
        have b4 : But p H3 (upd H3 p4 (.lst [.str "else"])) := But.of_same (Same.new np4)
        have hR4 : RowsR CR (upd H3 p4 (.lst [.str "else"])) p lr r1 := hR3.of_same (Same.new np4)
        refine words_eq (SqL.of (Same.new np4 _ _ hq1)) (SqL.of upd_same) rfl (by decide +kernel) ⟨_, rfl, iteF ?_⟩
        refine ⟨_, rfl, _, rfl, _, _, rfl, rfl, p, lr, r1, _, c, ?_, hR4, hc', fun vc H5 b5 hR5 rc => ?_⟩
        · have e : (8 - ((m + 1 : Nat) : Int)) + 1 = 8 - (m : Int) := by omega
          exact congrArg (fun z => [V.ref p, V.int z]) e
        obtain ⟨dxy, ky, wssy, hpy, hly⟩ := id hR5
        refine ⟨_, rfl, p, dxy, _, rfl, hpy, rw_no _ _ (by decide +kernel) (by decide +kernel), p, lr, _, r2, rfl, hR5, fun q6 H6 nq6 b6 hq6 hR6 => ?_⟩
        refine ⟨by show 1 ≤ sizeLine; decide, fun p7 np7 => ?_⟩
        have hR7 : RowsR CR (upd H6 p7 (.lst [.str "end"])) p lr r2 := hR6.of_same (Same.new np7)
        refine words_eq (SqL.of (Same.new np7 _ _ hq6)) (SqL.of upd_same) rfl (by decide +kernel) ⟨_, rfl, iteF ?_⟩
        refine ⟨_, rfl, _, rfl, _, rfl, by show 4 ≤ sizeLine; decide, fun p8 np8 => ?_⟩
        have s8 : Same (upd H6 p7 (.lst [.str "end"])) (upd (upd H6 p7 (.lst [.str "end"])) p8 (.tup [.str "if", va, vb, vc])) := Same.new np8
        have s68 := (Same.new np7 (o := .lst [.str "end"])).trans s8
        have k56 : Kept R0 H5 H6 := hR5.kept b6
        have k23 : Kept R0 H2 H3 := hR2.kept b3
        have k45 : Kept R0 _ H5 := hR4.kept b5
        have k24 : Kept R0 H2 _ := k23.trans (Kept.of_same (Same.new np4 (o := .lst [.str "else"])))
        have k58 : Kept R0 H5 _ := k56.trans (Kept.of_same s68)
        refine q _ _ ?_ (hR7.of_same s8) (.row (SqT.of upd_same) (.cons (.word _) (.cons ?_ (.cons ?_ (.cons ?_ .nil)))))
        · exact (But.of_same s1).trans (b2.trans (b3.trans (b4.trans (b5.trans (b6.trans (But.of_same s68))))))
        · exact ra.mono (k2.trans (k24.trans (k45.trans k58)))
        · exact rb.mono (k24.trans (k45.trans k58))
        · exact rc.mono k58
  have e : 10 + 3 * n = 9 + 3 * n + 1 := by omega
  rw [e]
  exact F'
end
end Fk
set_option maxHeartbeats 4000000
/-! ## read_end, read_block -/
namespace Fk
open PySem PySem.Spec PyProof.Rows L2 TL
/-- what an end may be -/
theorem endM_some {blk : List (List Str) → Option (Blk × List (List Str))} {ss : List Stp} {r r' : List (List Str)} {ws : List Str} {b : Blk} (h : endM blk ss r ws = some (b, r')) :
    (∃ f as as', ws = ("go" : Str) :: f :: as ∧ isNameM f = true ∧ atomsM as = some as' ∧ b = .go ss f as' ∧ r' = r) ∨ (∃ x a, ws = [("give" : Str), x] ∧ atomM x = some a ∧ b = .give ss a ∧ r' = r) ∨
      (∃ x a c d r1, ws = [("if" : Str), x] ∧ atomM x = some a ∧ blk r = some (c, [("else" : Str)] :: r1) ∧ blk r1 = some (d, [("end" : Str)] :: r') ∧ b = .iff ss a c d) := by
  unfold endM at h
  split at h
  · rename_i w x
    by_cases c1 : w = "go"
    · rw [if_pos c1] at h
      by_cases c2 : isNameM x = true
      · rw [if_pos c2] at h
        cases h
        subst c1
        exact .inl ⟨x, [], [], rfl, c2, rfl, rfl, rfl⟩
      · rw [if_neg c2] at h
        cases h
    · rw [if_neg c1] at h
      by_cases c3 : w = "give"
      · rw [if_pos c3] at h
        obtain ⟨a, e1, e2⟩ := Option.map_eq_some_iff.mp h
        cases e2
        subst c3
        exact .inr (.inl ⟨x, a, rfl, e1, rfl, rfl⟩)
      · rw [if_neg c3] at h
        by_cases c4 : w = "if"
        · rw [if_pos c4] at h
          subst c4
          cases e1 : atomM x with
          | none =>
            rw [e1] at h
            cases h
          | some a =>
            cases e2 : blk r with
            | none =>
              rw [e1, e2] at h
              cases h
            | some br =>
              obtain ⟨c, l⟩ := br
              rw [e1, e2] at h
              cases l with
              | nil => cases h
              | cons e r1 =>
                have h2 : (if e = [("else" : Str)] then (match blk r1 with
                  | some (c_1, e2 :: r2) => if e2 = [("end" : Str)] then some (Blk.iff ss a c c_1, r2) else none
                  | _ => none) else none) = some (b, r') := h
                by_cases c5 : e = [("else" : Str)]
                · rw [if_pos c5] at h2
                  cases e3 : blk r1 with
                  | none =>
                    rw [e3] at h2
                    cases h2
                  | some br2 =>
                    obtain ⟨d, l2⟩ := br2
                    rw [e3] at h2
                    cases l2 with
                    | nil => cases h2
                    | cons e4 r2 =>
                      have h3 : (if e4 = [("end" : Str)] then some (Blk.iff ss a c d, r2) else none) = some (b, r') := h2
                      by_cases c6 : e4 = [("end" : Str)]
                      · rw [if_pos c6] at h3
                        cases h3
                        subst c5 c6
                        exact .inr (.inr ⟨x, a, c, d, r1, rfl, e1, rfl, e3, rfl⟩)
                      · rw [if_neg c6] at h3
                        cases h3
                · rw [if_neg c5] at h2
                  cases h2
        · rw [if_neg c4] at h
          cases h
  · rename_i w f as _
    by_cases c1 : w = "go"
    · rw [if_pos c1] at h
      by_cases c2 : isNameM f = true
      · rw [if_pos c2] at h
        obtain ⟨as', e1, e2⟩ := Option.map_eq_some_iff.mp h
        cases e2
        subst c1
        exact .inl ⟨f, as, as', rfl, c2, e1, rfl, rfl⟩
      · rw [if_neg c2] at h
        cases h
    · rw [if_neg c1] at h
      cases h
  · cases h
theorem endM_steps {blk : List (List Str) → Option (Blk × List (List Str))} {ss : List Stp} {r r' : List (List Str)} {ws : List Str} {b : Blk} (h : endM blk ss r ws = some (b, r')) : b.steps = ss := by
  rcases endM_some h with ⟨_, _, _, _, _, _, rfl, _⟩ | ⟨_, _, _, _, rfl, _⟩ | ⟨_, _, _, _, _, _, _, _, _, rfl⟩ <;> rfl
theorem str_ne {a b : Str} (h : ¬ a = b) : decide (V.str a = V.str b) = false := decide_eq_false fun z => h (V.str.inj z)
theorem str_eq {a : Str} : decide (V.str a = V.str a) = true := decide_eq_true rfl
section
variable {P : Program} {w : World} {K : PySem.W.Frag} {mg : Str → Option Value} {base : Heap} {CS CR : Addr} {cA : OpK → Addr}
theorem sc_read_end : FnScope ["words", "rows", "depth"] ["words", "rows", "depth"] (defScope (top 77)) := ⟨rfl, rfl, rfl, by decide +kernel, rfl, by decide +kernel, by decide +kernel⟩
theorem ok_read_end {n : Nat} (X : Fx mg) (T : RowC K CR) (c_read_atom : Cal P w K mg base CX0 6 "read_atom" ["word"] (spReadAtom K)) (c_read_atoms : Cal P w K mg base CX0 7 "read_atoms" ["words"] (spReadAtoms K)) (c_name_of : Cal P w K mg base CX0 3 "name_of" ["word"] spNameOf) (c_is_word : Cal P w K mg base CX0 2 "is_word" ["text"] spIsWord)
    (c_read_if : Cal P w K mg base CX0 (10 + 3 * n) "read_if" ["words", "rows", "depth"] (spReadIf K CR n)) (F : FnP K mg "read_end" "read_end" (top 77)) : Cal P w K mg base CX0 (10 + 3 * n + 1) "read_end" ["words", "rows", "depth"] (spReadEnd K CR n) := by
  refine F.cal sc_read_end (fun _ _ _ _ _ _ us hl => match us, hl with | [_, _, _], _ => rfl) (fun vs H Q E h => ?_) (fun f cdv A outer s H vs Q E hr h => ?_)
  · obtain ⟨l, p, lr, ws, r, r', ss, b, rfl, _⟩ := h
    rfl
  · obtain ⟨l, p, lr, ws, r, r', ss, b, rfl, hl, hne, hz, hR, he, q⟩ := h
    have hr2 : Room 2 _ := hr.mono (by omega)
    have hr3 : Room 3 _ := hr.mono (by omega)
    have hr6 : Room 6 _ := hr.mono (by omega)
    have hr7 : Room 7 _ := hr.mono (by omega)
    have hri : Room (10 + 3 * n) _ := hr
    have hR' := hR
    refine ⟨_, PSs.nox (pss_cons (ps_if (PW.pt (pw_and (pt_cmpR op_eq (pe_ix ix_list (pv 0) pe_int (fun _ _ => rfl)) pe_str (nomark _)) (pw_and1 (pt_cmpR op_gt (pe_callB (call_len_seq) rfl X.len (by decide +kernel) (pa_cons (pv 0) pa_nil)) pe_int (nomark _))))) (pss_one (ps_ret (pe_tup (pa_cons pe_str (pa_cons (pe_cal c_name_of hr3 pass0 (pa_cons (pe_ix ix_list (pv 0) pe_int (fun _ _ => rfl)) pa_nil)) (pa_cons (pe_cal c_read_atoms hr7 pass0 (pa_cons (pe_slice sl_list (pv 0) (po_some pe_int) po_none) pa_nil)) pa_nil)))))) pss_nil)
      (pss_cons (ps_if (pt_cmpR op_ne (pe_callB (call_len_seq) rfl X.len (by decide +kernel) (pa_cons (pv 0) pa_nil)) pe_int (nomark _)) (pss_one ps_never) pss_nil)
      (pss_cons (ps_if (pt_cmpR op_eq (pe_ix ix_list (pv 0) pe_int (fun _ _ => rfl)) pe_str (nomark _)) (pss_one (ps_ret (pe_tup (pa_cons pe_str (pa_cons (pe_cal c_read_atom hr6 pass0 (pa_cons (pe_ix ix_list (pv 0) pe_int (fun _ _ => rfl)) pa_nil)) pa_nil))))) pss_nil)
      (pss_cons (ps_if (PW.pt (pw_and (pt_cmpR op_eq (pe_ix ix_list (pv 0) pe_int (fun _ _ => rfl)) pe_str (nomark _)) (pw_and1 (pt_val (pe_cal c_is_word hr2 pass0 (pa_cons (pe_ix ix_list (pv 0) pe_int (fun _ _ => rfl)) pa_nil)))))) (pss_one (ps_ret (pe_tup (pa_cons pe_str (pa_cons (pe_ix ix_list (pv 0) pe_int (fun _ _ => rfl)) pa_nil))))) pss_nil)
      (pss_cons (ps_if (pt_cmpR op_eq (pe_ix ix_list (pv 0) pe_int (fun _ _ => rfl)) pe_str (nomark _)) (pss_one (ps_ret (pe_cal c_read_if hri pass0 (pa_cons (pv 0) (pa_cons (pv 1) (pa_cons (pv 2) pa_nil)))))) pss_nil)
      (pss_one ps_never)))))), ?_⟩
    rcases endM_some he with ⟨f, as, as', rfl, hf, ha, rfl, rfl⟩ | ⟨x, a, rfl, ha, rfl, rfl⟩ | ⟨x, a, c, d, r1, rfl, ha, hb, hc, rfl⟩
    · refine ⟨_, rfl, l, _, _, _, rfl, rfl, hl, atI_nat (j := 0) rfl, rfl, _, rfl, ?_⟩
      rw [str_eq]
      refine iteT ⟨_, rfl, _, _, rfl, .inl hl, _, _, rfl, rfl, _, rfl, ?_⟩
      have d : decide ((1 : Int) < (((("go" : Str) :: f :: as).map V.str).length : Int)) = true := decide_eq_true (by rw [List.length_map]; simp only [List.length_cons]; omega)
      rw [d]
      refine iteT ⟨_, rfl, l, _, _, _, rfl, rfl, hl, atI_nat (j := 1) rfl, f, rfl, hf, ?_⟩
      refine ⟨_, rfl, ⟨_, rfl, ?_⟩⟩
      unfold tNoPart
      refine ⟨l, _, rfl, hl, fun p1 np1 => ?_⟩
      refine ⟨p1, as, as', rfl, ?_, by simp only [List.length_cons] at hz; omega, ha, fun v H' s' rv => ⟨by show 3 ≤ sizeLine; decide, fun p2 np2 => ?_⟩⟩
      · rw [show cutV (List.map V.str (("go" : Str) :: f :: as)) (some 2) none = as.map V.str from cut_from4 (j := 2) (i := 2) rfl (by rw [List.length_map]; show 2 ≤ as.length + 2; omega)]
        exact SqL.of upd_same
      · have s2 := (Same.new np1 (o := .lst (cutV (List.map V.str (("go" : Str) :: f :: as)) (some 2) none))).trans (s'.trans (Same.new np2 (o := .tup [.str "go", .str f, v])))
        exact q _ _ (But.of_same s2) (hR'.of_same s2) (.row (SqT.of upd_same) (.cons (.word _) (.cons (.word _) (.cons (rv.same (Same.new np2)) .nil))))
    · refine ⟨_, rfl, l, _, _, _, rfl, rfl, hl, atI_nat (j := 0) rfl, rfl, _, rfl, ?_⟩
      rw [str_ne (a := "give") (b := "go") (by decide +kernel)]
      refine iteF (iteF ?_)
      refine ⟨_, rfl, _, _, rfl, .inl hl, rfl, _, rfl, iteNS rfl ?_⟩
      refine ⟨_, rfl, l, _, _, _, rfl, rfl, hl, atI_nat (j := 0) rfl, rfl, _, rfl, ?_⟩
      rw [str_eq]
      refine iteT ⟨_, rfl, l, _, _, _, rfl, rfl, hl, atI_nat (j := 1) rfl, x, a, rfl, ha, fun v H' s' rv => ⟨by show 2 ≤ sizeLine; decide, fun p2 np2 => ?_⟩⟩
      have s2 := s'.trans (Same.new np2 (o := .tup [.str "give", v]))
      exact q _ _ (But.of_same s2) (hR'.of_same s2) (.row (SqT.of upd_same) (.cons (.word _) (.cons (rv.same (Same.new np2)) .nil)))
    · refine ⟨_, rfl, l, _, _, _, rfl, rfl, hl, atI_nat (j := 0) rfl, rfl, _, rfl, ?_⟩
      rw [str_ne (a := "if") (b := "go") (by decide +kernel)]
      refine iteF (iteF ?_)
      refine ⟨_, rfl, _, _, rfl, .inl hl, rfl, _, rfl, iteNS rfl ?_⟩
      refine ⟨_, rfl, l, _, _, _, rfl, rfl, hl, atI_nat (j := 0) rfl, rfl, _, rfl, ?_⟩
      rw [str_ne (a := "if") (b := "give") (by decide +kernel)]
      refine iteF ?_
      refine ⟨_, rfl, l, _, _, _, rfl, rfl, hl, atI_nat (j := 0) rfl, rfl, _, rfl, ?_⟩
      rw [str_ne (a := "if") (b := "fail") (by decide +kernel)]
      refine iteF (iteF ?_)
      refine ⟨_, rfl, l, _, _, _, rfl, rfl, hl, atI_nat (j := 0) rfl, rfl, _, rfl, ?_⟩
      rw [str_eq]
      exact iteT ⟨_, rfl, _, rfl, _, rfl, l, p, lr, "if", x, r, r1, r', a, c, d, rfl, hl, hne, hR', ha, hb, hc, q⟩
/-! ### read_block -/
theorem stepsM_cons {ws : List Str} {r : List (List Str)} {ss : List Stp} {e : List Str} {r' : List (List Str)} (h : stepsM (ws :: r) = some (ss, e, r')) :
    (isStep ws = true ∧ ∃ s ss', stepM ws = some s ∧ stepsM r = some (ss', e, r') ∧ ss = s :: ss') ∨ (isStep ws = false ∧ ss = [] ∧ e = ws ∧ r' = r) := by
  have h2 : (if isStep ws = true then (match stepM ws, stepsM r with
    | some s, some (ss, e, r') => some (s :: ss, e, r')
    | _, _ => none) else some ([], ws, r)) = some (ss, e, r') := h
  cases c : isStep ws with
  | false =>
    rw [c, if_neg Bool.false_ne_true] at h2
    cases h2
    exact .inr ⟨rfl, rfl, rfl, rfl⟩
  | true =>
    rw [c, if_pos rfl] at h2
    refine .inl ⟨rfl, ?_⟩
    cases e1 : stepM ws with
    | none =>
      rw [e1] at h2
      cases h2
    | some s =>
      cases e2 : stepsM r with
      | none =>
        rw [e1, e2] at h2
        cases h2
      | some t =>
        obtain ⟨ss', e', r1⟩ := t
        rw [e1, e2] at h2
        cases h2
        exact ⟨s, ss', rfl, rfl, rfl⟩
theorem isStep_len {ws : List Str} (h : isStep ws = true) : ∃ a b c r, ws = a :: b :: c :: r ∧ b = "=" := by
  unfold isStep at h
  split at h
  · exact ⟨_, _, _, _, rfl, of_decide_eq_true h⟩
  · cases h
theorem stepsM_le : ∀ {rs : List (List Str)} {ss : List Stp} {e : List Str} {r' : List (List Str)}, stepsM rs = some (ss, e, r') → ss.length ≤ rs.length
  | [], _, _, _, h => by cases h
  | ws :: r, ss, e, r', h => by
    rcases stepsM_cons h with ⟨_, s, ss', _, h2, rfl⟩ | ⟨_, rfl, _, _⟩
    · exact Nat.succ_le_succ (stepsM_le h2)
    · exact Nat.zero_le _
theorem isStep_false {a b c : Str} {r : List Str} (h : isStep (a :: b :: c :: r) = false) : ¬ b = "=" := by
  intro e
  subst e
  cases h
theorem SqL.ne_ins {H : Hp} {l p C dx : Addr} {xs : List V} {fs : List (Str × V)} (h : H l = some (.lst xs)) (hp : H p = some (.ins C dx fs)) : l ≠ p := ne_of h hp (by intro z; cases z)
theorem sc_read_block : FnScope ["rows", "depth", "steps", "words"] ["rows", "depth"] (defScope (top 78)) := ⟨rfl, rfl, rfl, by decide +kernel, rfl, by decide +kernel, by decide +kernel⟩
theorem ok_read_block_step {n : Nat} (X : Fx mg) (T : RowC K CR) (m_words : MeCal P w K mg base CX0 2 CR "words" ["self"] (spWords CR)) (c_read_step : Cal P w K mg base CX0 8 "read_step" ["words"] (spReadStep K))
    (c_read_end : Cal P w K mg base CX0 (10 + 3 * n + 1) "read_end" ["words", "rows", "depth"] (spReadEnd K CR n)) (F : FnP K mg "read_block" "read_block" (top 78)) : Cal P w K mg base CX0 (10 + 3 * n + 1 + 1) "read_block" ["rows", "depth"] (spReadBlock K CR n) := by
  refine F.cal sc_read_block (fun _ _ _ _ _ _ us hl => match us, hl with | [_, _], _ => rfl) (fun vs H Q E h => ?_) (fun f cdv A outer s H vs Q E hr h => ?_)
  · obtain ⟨p, lr, rs, r, b, rfl, _⟩ := h
    rfl
  · obtain ⟨p, lr, rs, r', b, rfl, hR, he, q⟩ := h
    have hr2 : Room 2 _ := hr.mono (by omega)
    have hr8 : Room 8 _ := hr.mono (by omega)
    rw [blockM_eq] at he
    cases es : stepsM rs with
    | none =>
      rw [es] at he
      cases he
    | some t =>
      obtain ⟨all, e, r0⟩ := t
      rw [es] at he
      have he' : endM (blkAt n) all r0 e = some (b, r') := he
      cases rs with
      | nil => cases es
      | cons ws0 rs0 =>
        refine ⟨_, PSs.nox (pss_cons (ps_set (i := 2) sc_read_block.nd rfl (Or.inl rfl) (pe_lst pa_nil))
      (pss_cons (ps_set (i := 3) sc_read_block.nd rfl (Or.inl rfl) (pe_mcal0 m_words T.cl hr2 pass0 (pv 0)))
      (pss_cons (ps_while PassesOwn.never (PW.pt (pw_and (pt_cmpR op_gt (pe_callB (call_len_seq) rfl X.len (by decide +kernel) (pa_cons (pv 3) pa_nil)) pe_int (nomark _)) (pw_and1 (pt_cmpR op_eq (pe_ix ix_list (pv 3) pe_int (fun _ _ => rfl)) pe_str (nomark _))))) (pss_cons (ps_expr (pe_bm PySem.F.plainAttrs_list PySem.F.slot_list_append PySem.F.type_list_append mt_append (pv 2) (pa_cons (pe_cal c_read_step hr8 pass0 (pa_cons (pv 3) pa_nil)) pa_nil)))
      (pss_one (ps_set (i := 3) sc_read_block.nd rfl (Or.inl rfl) (pe_mcal0 m_words T.cl hr2 pass0 (pv 0))))))
      (pss_one (ps_ret (pe_tup (pa_cons (pe_tupleOf rfl X.tuple (pv 2)) (pa_cons (pe_cal c_read_end hr pass0 (pa_cons (pv 3) (pa_cons (pv 0) (pa_cons (pv 1) pa_nil)))) pa_nil)))))))), ?_⟩
        refine ⟨by show 0 ≤ sizeLine; decide, fun L nL => ?_⟩
        have s0 : Same H (upd H L (.lst [])) := Same.new nL
        have hR0 := hR.of_same s0
        obtain ⟨dx0, k0, wss0, hp0, hx0⟩ := id hR0
        refine ⟨_, rfl, p, dx0, _, rfl, hp0, rw_no _ _ (by decide +kernel) (by decide +kernel), p, lr, ws0, rs0, rfl, hR0, fun q1 H1 nq1 b1 hq1 hR1 => ?_⟩
        have hcl0 := hR0.head
        have hL1 : H1 L = some (.lst []) := b1 _ _ upd_same (SqL.ne_ins upd_same hp0)
        obtain ⟨dxp, fsp, hpH⟩ := hR.at
        refine ⟨fun m σ H' => ∃ (l : Addr) (ws : List Str) (r : List (List Str)) (done ss : List Stp) (acc : List V), m = ss.length ∧ σ = [some (.ref p), some (.int (8 - (n : Int))), some (.ref L), some (.ref l)] ∧ H' l = some (.lst (ws.map V.str)) ∧ l ≠ L ∧ H' L = some (.lst acc) ∧ acc.length + ss.length = all.length ∧
            RepL K R0 H' (done.map Stp.d) acc ∧ RowsR CR H' p lr r ∧ stepsM (ws :: r) = some (ss, e, r0) ∧ done ++ ss = all ∧ But p H H' ∧ clean ws, ⟨_, q1, ws0, rs0, [], all, [], rfl, rfl, hq1, ?_, hL1, by simp, .nil, hR1, es, rfl, (But.of_same s0).trans b1, hcl0⟩, ?_⟩
        · rintro rfl
          rw [upd_same] at nq1
          cases nq1
        · rintro m σ H2 ⟨l, ws, r, done, ss, acc, rfl, rfl, hl, hlL, hL, hn, hacc, hR2, hs2, hd, bt, hcl⟩
          have hzl : (ws.map V.str).length ≤ 1000 := by rw [List.length_map]; have := hcl.2.2.2; omega
          refine ⟨_, rfl, _, _, rfl, .inl (SqL.of hl), _, _, rfl, rfl, _, rfl, ?_⟩
          rcases stepsM_cons hs2 with ⟨hst, s, ss', hsM, hss, rfl⟩ | ⟨hst, rfl, rfl, rfl⟩
          · obtain ⟨wa, wb, wc, wr, rfl, rfl⟩ := isStep_len hst
            have d1 : decide ((2 : Int) < (((wa :: "=" :: wc :: wr).map V.str).length : Int)) = true := decide_eq_true (by rw [List.length_map]; simp only [List.length_cons]; omega)
            rw [d1]
            refine iteT ⟨_, rfl, l, _, _, _, rfl, rfl, SqL.of hl, atI_nat (j := 1) rfl, rfl, _, rfl, ?_⟩
            rw [str_eq]
            refine iteT ⟨fun σ' H' => ∃ (l : Addr) (ws : List Str) (r : List (List Str)) (acc : List V), σ' = [some (.ref p), some (.int (8 - (n : Int))), some (.ref L), some (.ref l)] ∧ H' l = some (.lst (ws.map V.str)) ∧ l ≠ L ∧ H' L = some (.lst acc) ∧ acc.length + ss'.length = all.length ∧
              RepL K R0 H' ((done ++ [s]).map Stp.d) acc ∧ RowsR CR H' p lr r ∧ stepsM (ws :: r) = some (ss', e, r0) ∧ (done ++ [s]) ++ ss' = all ∧ But p H H' ∧ clean ws, ?_, ?_⟩
            · rintro σ' H' ⟨l', ws', r1, acc', h1, h2, h3, h4, h5, h6, h7, h8, h9, h10, h11⟩
              exact ⟨ss'.length, Nat.lt_succ_self _, l', ws', r1, done ++ [s], ss', acc', rfl, h1, h2, h3, h4, h5, h6, h7, h8, h9, h10, h11⟩
            · refine ⟨_, rfl, .inl ⟨rfl, _, SqL.of hL⟩, ?_⟩
              refine ⟨_, rfl, l, _, s, rfl, SqL.of hl, by rw [List.length_map] at hzl; exact hzl, hsM, fun v H3 s3 rv => ?_⟩
              have hL3 := s3 _ _ hL
              have hall : all.length ≤ 1000 := by have := stepsM_le es; have := hR.len; omega
              refine ⟨L, acc, v, rfl, rfl, hL3, Nat.lt_of_lt_of_le (show acc.length < 1001 by omega) (by decide), ?_⟩
              have hR3 := hR2.of_same s3
              obtain ⟨dx3, fs3, hp3⟩ := hR3.at
              have hLp : L ≠ p := SqL.ne_ins hL3 hp3
              have hLr : L ≠ lr := by
                rintro rfl
                obtain ⟨_, _, _, _, z, _⟩ := hR
                rw [nL] at z
                cases z
              have hR4 : RowsR CR (upd H3 L (.lst (acc ++ [v]))) p lr r := hR3.upd hLp hLr
              have k4 : Kept R0 H3 (upd H3 L (.lst (acc ++ [v]))) := Kept.lst hL3
              cases r with
              | nil => cases hss
              | cons ws' r1 =>
                have hcl' := hR4.head
                obtain ⟨dx4, k4', wss4, hp4, hx4⟩ := id hR4
                refine ⟨_, rfl, p, dx4, _, rfl, hp4, rw_no _ _ (by decide +kernel) (by decide +kernel), p, lr, ws', r1, rfl, hR4, fun q5 H5 nq5 b5 hq5 hR5 => ?_⟩
                have hL5 : H5 L = some (.lst (acc ++ [v])) := b5 _ _ upd_same hLp
                have k5 : Kept R0 _ H5 := hR4.kept b5
                refine ⟨q5, ws', r1, acc ++ [v], rfl, hq5, ?_, hL5, ?_, ?_, hR5, hss, ?_, ?_, hcl'⟩
                · rintro rfl
                  rw [upd_same] at nq5
                  cases nq5
                · rw [List.length_append]
                  simp only [List.length_cons, List.length_nil] at hn ⊢
                  omega
                · rw [List.map_append]
                  exact ((hacc.same s3).append (.cons rv .nil)).mono (k4.trans k5)
                · rw [List.append_assoc]
                  exact hd
                · exact fun c u ec nc => b5 c u (by rw [upd_ne (ne_of_none ec nL)]; exact s3 _ _ (bt c u ec nc)) nc
          · have fin : ∀ {H4 : Hp}, H4 = H2 → tRet (tTup (tCons (tThen (tVar 2) (kTup K)) (tCons (tCall (spReadEnd K CR n) [] E0 (tCons (tVar 3) (tCons (tVar 0) (tCons (tVar 1) tNil)))) tNil))) { nx := fun _ H' => Q .non H', rt := Q } [some (.ref p), some (.int (8 - (n : Int))), some (.ref L), some (.ref l)] H4 := by
              rintro H4 rfl
              refine ⟨_, rfl, .inl ⟨L, acc, rfl, SqL.of hL, fun q3 nq3 => ?_⟩⟩
              have s3 : Same H4 (upd H4 q3 (.tup acc)) := Same.new nq3
              have hR3 := hR2.of_same s3
              obtain ⟨dx3, fs3, hp3⟩ := hR3.at
              refine ⟨_, rfl, _, rfl, _, rfl, l, p, lr, e, r0, r', all, b, rfl, SqL.of (s3 _ _ hl), SqL.ne_ins (s3 _ _ hl) hp3, by have := hcl.2.2.2; omega, hR3, he', fun v H5 b5 hR5 rv => ?_⟩
              refine ⟨by show 2 ≤ sizeLine; decide, fun p6 np6 => ?_⟩
              have s6 : Same H5 (upd H5 p6 (.tup [.ref q3, v])) := Same.new np6
              refine q _ _ ((bt.trans (But.of_same s3)).trans (b5.trans (But.of_same s6))) (hR5.of_same s6) ?_
              rw [Blk.d_eq, endM_steps he']
              rw [List.append_nil] at hd
              rw [hd] at hacc
              have k5 : Kept R0 (upd H4 q3 (.tup acc)) H5 := hR3.kept b5
              exact .row (SqT.of upd_same) (.cons (.row (seqT s6 (SqT.mono k5.tup (SqT.of upd_same))) (((hacc.same s3).mono k5).same s6)) (.cons (rv.same s6) .nil))
            match e, hst, hl with
            | [], _, hl => 
              have d1 : decide ((2 : Int) < ((([] : List Str).map V.str).length : Int)) = false := rfl
              rw [d1]
              exact iteF (iteF (fin rfl))
            | [_], _, hl => 
              exact iteF (iteF (fin rfl))
            | [_, _], _, hl => 
              exact iteF (iteF (fin rfl))
            | a :: b' :: c :: t, hst, hl =>
              have d1 : decide ((2 : Int) < (((a :: b' :: c :: t).map V.str).length : Int)) = true := decide_eq_true (by rw [List.length_map]; simp only [List.length_cons]; omega)
              rw [d1]
              refine iteT ⟨_, rfl, l, _, _, _, rfl, rfl, SqL.of hl, atI_nat (j := 1) rfl, rfl, _, rfl, ?_⟩
              rw [str_ne (isStep_false hst)]
              exact iteF (fin rfl)
end
end Fk
set_option maxHeartbeats 4000000
/-! ## lines_of, the checks -/
namespace Fk
open PySem PySem.Spec PyProof.Rows L2 TL
def Blk.nest : Blk → Nat
  | .give _ _ => 0
  | .go _ _ _ => 0
  | .iff _ _ b c => 1 + max b.nest c.nest
section
variable {P : Program} {w : World} {K : PySem.W.Frag} {mg : Str → Option Value} {base : Heap}
theorem Rep.pair_inv {R : Addr → Prop} {H : Hp} {a b : D} {v : V} (h : Rep K R H (.row [a, b]) v) : ∃ t x y, v = .ref t ∧ SqT K H t [x, y] ∧ Rep K R H a x ∧ Rep K R H b y := by
  obtain ⟨t, xs, rfl, ht, hl⟩ := h.row_inv
  obtain ⟨x, y, rfl, hx, hy⟩ := hl.two
  exact ⟨t, x, y, rfl, ht, hx, hy⟩
def spLinesOf (K : PySem.W.Frag) (n : Nat) : Sp := fun vs H Q _ => ∃ (v : V) (b : Blk), vs = [v] ∧ Rep K R0 H b.d v ∧ b.nest ≤ n ∧ b.lines ≤ 60 ∧ ∀ (q : Addr) (H' : Hp) (xs : List V), Same H H' → H' q = some (.tup xs) → xs.length = b.lines → Q (.ref q) H'
theorem Blk.lines_pos (b : Blk) : b.lines = b.steps.length + 1 + (match b with | .iff _ _ c d => c.lines + d.lines | _ => 0) := by
  cases b with
  | give ss a => rfl
  | go ss f as => rfl
  | iff ss a c d =>
    show ss.length + 1 + c.lines + d.lines = ss.length + 1 + (c.lines + d.lines)
    omega
theorem sc_lines_of : FnScope ["block", "steps", "end", "lines"] ["block"] (defScope (top 11)) := ⟨rfl, rfl, rfl, by decide +kernel, rfl, by decide +kernel, by decide +kernel⟩
theorem ok_lines_step {n : Nat} (X : Fx mg) (cl : ∀ m, m < n → Cal P w K mg base CX0 (m + 1) "lines_of" ["block"] (spLinesOf K m)) (F : FnP K mg "lines_of" "lines_of" (top 11)) : Cal P w K mg base CX0 (n + 1) "lines_of" ["block"] (spLinesOf K n) := by
  refine F.cal sc_lines_of (fun _ _ _ _ _ _ us hl => match us, hl with | [_], _ => rfl) (fun vs H Q E h => ?_) (fun f cdv A outer s H vs Q E hr h => ?_)
  · obtain ⟨v, b, rfl, _⟩ := h
    rfl
  · obtain ⟨v, b, rfl, rb, hn, hz, q⟩ := h
    rw [Blk.d_eq] at rb
    obtain ⟨t, sv, ev, rfl, ht, rs, re⟩ := rb.pair_inv
    obtain ⟨st, ss, rfl, hst, hss⟩ := rs.row_inv
    have hsl : ss.length = b.steps.length := by rw [hss.len, List.length_map]
    have hbl := b.lines_pos
    cases b with
    | give ss' a =>
      obtain ⟨et, ex, ey, rfl, het, rex, _⟩ := re.pair_inv
      cases rex.word_inv
      refine ⟨_, PSs.nox (pss_cons (ps_asg (pv 0) (pg_tup rfl (pgs_cons (pg_name (i := 1) sc_lines_of.nd rfl (Or.inl rfl)) (pgs_cons (pg_name (i := 2) sc_lines_of.nd rfl (Or.inl rfl)) pgs_nil)))) (pss_cons (ps_set (i := 3) sc_lines_of.nd rfl (Or.inl rfl) (pe_callTy (call_list_of) rfl X.list (by decide +kernel) (pa_cons (pv 1) pa_nil))) (pss_cons (ps_expr (pe_bm PySem.F.plainAttrs_list PySem.F.slot_list_append PySem.F.type_list_append mt_append (pv 3) (pa_cons (pv 2) pa_nil))) (pss_cons (ps_if (pt_cmpR op_eq (pe_ix ix_tup (pv 2) pe_int (fun _ _ => rfl)) pe_str (nomark _)) pss_never pss_nil) (pss_one (ps_ret (pe_tupleOf rfl X.tuple (pv 3)))))))), ?_⟩
      refine ⟨_, rfl, t, _, rfl, ht, rfl, ?_⟩
      refine ⟨_, _, rfl, _, _, rfl, rfl, ?_⟩
      refine ⟨_, rfl, st, ss, rfl, .inr hst, fun l nl => ?_⟩
      refine ⟨_, rfl, .inl ⟨rfl, _, SqL.of upd_same⟩, _, rfl, l, ss, _, rfl, rfl, upd_same, Nat.lt_of_lt_of_le (show ss.length < 1001 by omega) (by decide), ?_⟩
      rw [upd_upd]
      have s1 : Same H (upd H l (.lst (ss ++ [.ref et]))) := Same.new nl
      refine ⟨_, rfl, et, _, _, _, rfl, rfl, seqT s1 het, atI_nat (j := 0) rfl, rfl, _, rfl, ?_⟩
      rw [str_ne (a := "give") (b := "if") (by decide +kernel)]
      refine iteF ⟨_, rfl, .inl ⟨l, _, rfl, SqL.of upd_same, fun p np => q p _ _ (s1.trans (Same.new np)) upd_same ?_⟩⟩
      rw [List.length_append, hsl, hbl]
      rfl
    | go ss' fn as =>
      obtain ⟨et, exs, rfl, het, hel⟩ := re.row_inv
      obtain ⟨ex, ey, ez, rfl, rex, _, _⟩ := hel.three
      cases rex.word_inv
      refine ⟨_, PSs.nox (pss_cons (ps_asg (pv 0) (pg_tup rfl (pgs_cons (pg_name (i := 1) sc_lines_of.nd rfl (Or.inl rfl)) (pgs_cons (pg_name (i := 2) sc_lines_of.nd rfl (Or.inl rfl)) pgs_nil)))) (pss_cons (ps_set (i := 3) sc_lines_of.nd rfl (Or.inl rfl) (pe_callTy (call_list_of) rfl X.list (by decide +kernel) (pa_cons (pv 1) pa_nil))) (pss_cons (ps_expr (pe_bm PySem.F.plainAttrs_list PySem.F.slot_list_append PySem.F.type_list_append mt_append (pv 3) (pa_cons (pv 2) pa_nil))) (pss_cons (ps_if (pt_cmpR op_eq (pe_ix ix_tup (pv 2) pe_int (fun _ _ => rfl)) pe_str (nomark _)) pss_never pss_nil) (pss_one (ps_ret (pe_tupleOf rfl X.tuple (pv 3)))))))), ?_⟩
      refine ⟨_, rfl, t, _, rfl, ht, rfl, ?_⟩
      refine ⟨_, _, rfl, _, _, rfl, rfl, ?_⟩
      refine ⟨_, rfl, st, ss, rfl, .inr hst, fun l nl => ?_⟩
      refine ⟨_, rfl, .inl ⟨rfl, _, SqL.of upd_same⟩, _, rfl, l, ss, _, rfl, rfl, upd_same, Nat.lt_of_lt_of_le (show ss.length < 1001 by omega) (by decide), ?_⟩
      rw [upd_upd]
      have s1 : Same H (upd H l (.lst (ss ++ [.ref et]))) := Same.new nl
      refine ⟨_, rfl, et, _, _, _, rfl, rfl, seqT s1 het, atI_nat (j := 0) rfl, rfl, _, rfl, ?_⟩
      rw [str_ne (a := "go") (b := "if") (by decide +kernel)]
      refine iteF ⟨_, rfl, .inl ⟨l, _, rfl, SqL.of upd_same, fun p np => q p _ _ (s1.trans (Same.new np)) upd_same ?_⟩⟩
      rw [List.length_append, hsl, hbl]
      rfl
    | iff ss' a c d =>
      have hn2 : 1 + max c.nest d.nest ≤ n := hn
      obtain ⟨m, rfl⟩ : ∃ m, n = m + 1 := ⟨n - 1, by omega⟩
      have c_lines_of := cl m (Nat.lt_succ_self _)
      obtain ⟨et, exs, rfl, het, hel⟩ := re.row_inv
      obtain ⟨ew, hw0, rw0⟩ := hel.get (i := 0) rfl
      obtain ⟨ec, hc0, rc⟩ := hel.get (i := 2) rfl
      obtain ⟨ed, hd0, rd⟩ := hel.get (i := 3) rfl
      cases rw0.word_inv
      have hl2 : c.lines + d.lines + ss.length + 1 ≤ 60 := by
        have e : (Blk.iff ss' a c d).lines = ss'.length + 1 + (c.lines + d.lines) := hbl
        have e2 : ss.length = ss'.length := hsl
        omega
      refine ⟨_, PSs.nox (pss_cons (ps_asg (pv 0) (pg_tup rfl (pgs_cons (pg_name (i := 1) sc_lines_of.nd rfl (Or.inl rfl)) (pgs_cons (pg_name (i := 2) sc_lines_of.nd rfl (Or.inl rfl)) pgs_nil))))
      (pss_cons (ps_set (i := 3) sc_lines_of.nd rfl (Or.inl rfl) (pe_callTy (call_list_of) rfl X.list (by decide +kernel) (pa_cons (pv 1) pa_nil)))
      (pss_cons (ps_expr (pe_bm PySem.F.plainAttrs_list PySem.F.slot_list_append PySem.F.type_list_append mt_append (pv 3) (pa_cons (pv 2) pa_nil)))
      (pss_cons (ps_if (pt_cmpR op_eq (pe_ix ix_tup (pv 2) pe_int (fun _ _ => rfl)) pe_str (nomark _)) (pss_cons (ps_expr (pe_bm PySem.F.plainAttrs_list PySem.F.slot_list_extend PySem.F.type_list_extend mt_extendT (pv 3) (pa_cons (pe_cal c_lines_of hr pass0 (pa_cons (pe_ix ix_tup (pv 2) pe_int (fun _ _ => rfl)) pa_nil)) pa_nil)))
      (pss_one (ps_expr (pe_bm PySem.F.plainAttrs_list PySem.F.slot_list_extend PySem.F.type_list_extend mt_extendT (pv 3) (pa_cons (pe_cal c_lines_of hr pass0 (pa_cons (pe_ix ix_tup (pv 2) pe_int (fun _ _ => rfl)) pa_nil)) pa_nil))))) pss_nil)
      (pss_one (ps_ret (pe_tupleOf rfl X.tuple (pv 3)))))))), ?_⟩
      refine ⟨_, rfl, t, _, rfl, ht, rfl, ?_⟩
      refine ⟨_, _, rfl, _, _, rfl, rfl, ?_⟩
      refine ⟨_, rfl, st, ss, rfl, .inr hst, fun l nl => ?_⟩
      refine ⟨_, rfl, .inl ⟨rfl, _, SqL.of upd_same⟩, _, rfl, l, ss, _, rfl, rfl, upd_same, Nat.lt_of_lt_of_le (show ss.length < 1001 by omega) (by decide), ?_⟩
      rw [upd_upd]
      have s1 : Same H (upd H l (.lst (ss ++ [.ref et]))) := Same.new nl
      refine ⟨_, rfl, et, _, _, _, rfl, rfl, seqT s1 het, atI_nat (j := 0) hw0, rfl, _, rfl, ?_⟩
      rw [str_eq]
      refine iteT ?_
      refine ⟨_, rfl, .inl ⟨rfl, _, SqL.of upd_same⟩, _, rfl, et, _, _, _, rfl, rfl, seqT s1 het, atI_nat (j := 2) hc0, ec, c, rfl, rc.same s1, by omega, by omega, fun q1 H2 xs1 s2 hq1 hx1 => ?_⟩
      have hl2' := s2 _ _ upd_same
      refine ⟨l, q1, _, xs1, rfl, rfl, hl2', SqT.of hq1, sz1000 (by rw [List.length_append, hx1]; simp only [List.length_cons, List.length_nil]; omega), ?_⟩
      have s02 : Same H H2 := s1.trans s2
      have s3 := grow s02 nl (o := .lst ((ss ++ [.ref et]) ++ xs1))
      refine ⟨_, rfl, .inl ⟨rfl, _, SqL.of upd_same⟩, _, rfl, et, _, _, _, rfl, rfl, seqT s3 het, atI_nat (j := 3) hd0, ed, d, rfl, rd.same s3, by omega, by omega, fun q4 H4 xs4 s4 hq4 hx4 => ?_⟩
      refine ⟨l, q4, _, xs4, rfl, rfl, s4 _ _ upd_same, SqT.of hq4, sz1000 (by rw [List.length_append, List.length_append, hx1, hx4]; simp only [List.length_cons, List.length_nil]; omega), ?_⟩
      have s5 := grow (s3.trans s4) nl (o := .lst (((ss ++ [.ref et]) ++ xs1) ++ xs4))
      refine ⟨_, rfl, .inl ⟨l, _, rfl, SqL.of upd_same, fun p np => q p _ _ (s5.trans (Same.new np)) upd_same ?_⟩⟩
      rw [List.length_append, List.length_append, List.length_append, hsl, hx1, hx4, hbl]
      show ss'.length + 1 + c.lines + d.lines = ss'.length + 1 + (c.lines + d.lines)
      omega
theorem ok_lines_of (X : Fx mg) (F : FnP K mg "lines_of" "lines_of" (top 11)) : ∀ n, Cal P w K mg base CX0 (n + 1) "lines_of" ["block"] (spLinesOf K n) := by
  intro n
  induction n using Nat.strongRecOn with
  | ind n ih => exact ok_lines_step X ih F
/-! ### lines, aims, atoms -/
inductive Line where
  | stp (s : Stp) | en (b : Blk)
def Line.d : Line → D
  | .stp s => s.d
  | .en b => b.endD
def Line.aim : Line → Option Str
  | .stp (.call _ f _) => some f
  | .stp (.let_ _ _ _) => none
  | .en (.go _ f _) => some f
  | .en _ => none
def Line.atoms : Line → List Atom
  | .stp (.call _ _ as) => as
  | .stp (.let_ _ _ as) => as
  | .en (.go _ _ as) => as
  | .en (.give _ a) => [a]
  | .en (.iff _ a _ _) => [a]
def optV : Option Str → V
  | none => .non
  | some x => .str x
def spAimOf (K : PySem.W.Frag) : Sp := fun vs H Q _ => ∃ (v : V) (l : Line), vs = [v] ∧ Rep K R0 H l.d v ∧ Q (optV l.aim) H
theorem sc_aim_of : FnScope ["line"] ["line"] (defScope (top 13)) := ⟨rfl, rfl, rfl, by decide +kernel, rfl, by decide +kernel, by decide +kernel⟩
theorem ok_aim_of (X : Fx mg) (F : FnP K mg "aim_of" "aim_of" (top 13)) : Cal P w K mg base CX0 1 "aim_of" ["line"] (spAimOf K) := by
  refine F.cal sc_aim_of (fun _ _ _ _ _ _ us hl => match us, hl with | [_], _ => rfl) (fun vs H Q E h => ?_) (fun f cdv A outer s H vs Q E hr h => ?_)
  · obtain ⟨v, l, rfl, _⟩ := h
    rfl
  · obtain ⟨v, l, rfl, r, q⟩ := h
    refine ⟨_, PSs.nox (pss_cons (ps_if (pt_cmpR op_eq (pe_ix ix_tup (pv 0) pe_int (fun _ _ => rfl)) pe_str (nomark _)) (pss_one (ps_ret (pe_ix ix_tup (pv 0) pe_int (fun _ _ => rfl)))) pss_nil)
      (pss_cons (ps_if (pt_cmpR op_eq (pe_ix ix_tup (pv 0) pe_int (fun _ _ => rfl)) pe_str (nomark _)) (pss_one (ps_ret (pe_ix ix_tup (pv 0) pe_int (fun _ _ => rfl)))) pss_nil)
      (pss_one (ps_ret pe_non)))), ?_⟩
    have key : ∀ {wd : Str} {ds : List D} {v : V}, Rep K R0 H (.row (.word wd :: ds)) v → ∃ t xs, v = .ref t ∧ SqT K H t (.str wd :: xs) ∧ RepL K R0 H ds xs := fun {wd ds v} r => by
      obtain ⟨t, ys, rfl, ht, hl⟩ := r.row_inv
      cases hl with
      | cons h1 h2 =>
        cases h1.word_inv
        exact ⟨t, _, rfl, ht, h2⟩
    cases l with
    | stp st =>
      cases st with
      | let_ n o as =>
        obtain ⟨t, xs, rfl, ht, _⟩ := key r
        refine ⟨_, rfl, t, _, _, _, rfl, rfl, ht, atI_nat (j := 0) rfl, rfl, _, rfl, ?_⟩
        rw [str_ne (a := "let") (b := "call") (by decide +kernel)]
        refine iteF ⟨_, rfl, t, _, _, _, rfl, rfl, ht, atI_nat (j := 0) rfl, rfl, _, rfl, ?_⟩
        rw [str_ne (a := "let") (b := "go") (by decide +kernel)]
        exact iteF q
      | call n f as =>
        obtain ⟨t, xs, rfl, ht, hx⟩ := key r
        obtain ⟨x1, e1, r1⟩ := hx.get (i := 1) rfl
        cases r1.word_inv
        refine ⟨_, rfl, t, _, _, _, rfl, rfl, ht, atI_nat (j := 0) rfl, rfl, _, rfl, ?_⟩
        rw [str_eq]
        exact iteT ⟨_, rfl, t, _, _, _, rfl, rfl, ht, atI_nat (j := 2) e1, q⟩
    | en b =>
      cases b with
      | give ss a =>
        obtain ⟨t, xs, rfl, ht, _⟩ := key r
        refine ⟨_, rfl, t, _, _, _, rfl, rfl, ht, atI_nat (j := 0) rfl, rfl, _, rfl, ?_⟩
        rw [str_ne (a := "give") (b := "call") (by decide +kernel)]
        refine iteF ⟨_, rfl, t, _, _, _, rfl, rfl, ht, atI_nat (j := 0) rfl, rfl, _, rfl, ?_⟩
        rw [str_ne (a := "give") (b := "go") (by decide +kernel)]
        exact iteF q
      | go ss f as =>
        obtain ⟨t, xs, rfl, ht, hx⟩ := key r
        obtain ⟨x1, e1, r1⟩ := hx.get (i := 0) rfl
        cases r1.word_inv
        refine ⟨_, rfl, t, _, _, _, rfl, rfl, ht, atI_nat (j := 0) rfl, rfl, _, rfl, ?_⟩
        rw [str_ne (a := "go") (b := "call") (by decide +kernel)]
        refine iteF ⟨_, rfl, t, _, _, _, rfl, rfl, ht, atI_nat (j := 0) rfl, rfl, _, rfl, ?_⟩
        rw [str_eq]
        exact iteT ⟨_, rfl, t, _, _, _, rfl, rfl, ht, atI_nat (j := 1) e1, q⟩
      | iff ss a b c =>
        obtain ⟨t, xs, rfl, ht, _⟩ := key r
        refine ⟨_, rfl, t, _, _, _, rfl, rfl, ht, atI_nat (j := 0) rfl, rfl, _, rfl, ?_⟩
        rw [str_ne (a := "if") (b := "call") (by decide +kernel)]
        refine iteF ⟨_, rfl, t, _, _, _, rfl, rfl, ht, atI_nat (j := 0) rfl, rfl, _, rfl, ?_⟩
        rw [str_ne (a := "if") (b := "go") (by decide +kernel)]
        exact iteF q
def spAtomsOf (K : PySem.W.Frag) : Sp := fun vs H Q _ => ∃ (v : V) (l : Line), vs = [v] ∧ Rep K R0 H l.d v ∧ RepTo K (atomsD l.atoms) H Q
theorem sc_atoms_of : FnScope ["line", "word"] ["line"] (defScope (top 12)) := ⟨rfl, rfl, rfl, by decide +kernel, rfl, by decide +kernel, by decide +kernel⟩
theorem ok_atoms_of (X : Fx mg) (F : FnP K mg "atoms_of" "atoms_of" (top 12)) : Cal P w K mg base CX0 1 "atoms_of" ["line"] (spAtomsOf K) := by
  refine F.cal sc_atoms_of (fun _ _ _ _ _ _ us hl => match us, hl with | [_], _ => rfl) (fun vs H Q E h => ?_) (fun f cdv A outer s H vs Q E hr h => ?_)
  · obtain ⟨v, l, rfl, _⟩ := h
    rfl
  · obtain ⟨v, l, rfl, r, q⟩ := h
    refine ⟨_, PSs.nox (pss_cons (ps_set (i := 1) sc_atoms_of.nd rfl (Or.inl rfl) (pe_ix ix_tup (pv 0) pe_int (fun _ _ => rfl)))
      (pss_cons (ps_if (PW.pt (pw_or (pt_cmpR op_eq (pv 1) pe_str (nomark _)) (pw_or1 (pt_cmpR op_eq (pv 1) pe_str (nomark _))))) (pss_one (ps_ret (pe_ix ix_tup (pv 0) pe_int (fun _ _ => rfl)))) pss_nil)
      (pss_cons (ps_if (pt_cmpR op_eq (pv 1) pe_str (nomark _)) (pss_one (ps_ret (pe_ix ix_tup (pv 0) pe_int (fun _ _ => rfl)))) pss_nil)
      (pss_cons (ps_if (pt_cmpR op_eq (pv 1) pe_str (nomark _)) (pss_one (ps_ret (pe_tup pa_nil))) pss_nil)
      (pss_one (ps_ret (pe_tup (pa_cons (pe_ix ix_tup (pv 0) pe_int (fun _ _ => rfl)) pa_nil)))))))), ?_⟩
    have key : ∀ {wd : Str} {ds : List D} {v : V}, Rep K R0 H (.row (.word wd :: ds)) v → ∃ t xs, v = .ref t ∧ SqT K H t (.str wd :: xs) ∧ RepL K R0 H ds xs := fun {wd ds v} r => by
      obtain ⟨t, ys, rfl, ht, hl⟩ := r.row_inv
      cases hl with
      | cons h1 h2 =>
        cases h1.word_inv
        exact ⟨t, _, rfl, ht, h2⟩
    cases l with
    | stp st =>
      cases st with
      | let_ n o as =>
        obtain ⟨t, xs, rfl, ht, hx⟩ := key r
        obtain ⟨x1, e1, r1⟩ := hx.get (i := 2) rfl
        refine ⟨_, rfl, t, _, _, _, rfl, rfl, ht, atI_nat (j := 0) rfl, _, rfl, rfl, _, rfl, ?_⟩
        rw [str_eq]
        exact iteT (iteT ⟨_, rfl, t, _, _, _, rfl, rfl, ht, atI_nat (j := 3) e1, q _ _ (Same.refl _) r1⟩)
      | call n f as =>
        obtain ⟨t, xs, rfl, ht, hx⟩ := key r
        obtain ⟨x1, e1, r1⟩ := hx.get (i := 2) rfl
        refine ⟨_, rfl, t, _, _, _, rfl, rfl, ht, atI_nat (j := 0) rfl, _, rfl, rfl, _, rfl, ?_⟩
        rw [str_ne (a := "call") (b := "let") (by decide +kernel)]
        refine iteF ⟨_, rfl, rfl, _, rfl, ?_⟩
        rw [str_eq]
        exact iteT ⟨_, rfl, t, _, _, _, rfl, rfl, ht, atI_nat (j := 3) e1, q _ _ (Same.refl _) r1⟩
    | en b =>
      cases b with
      | give ss a =>
        obtain ⟨t, xs, rfl, ht, hx⟩ := key r
        obtain ⟨x1, e1, r1⟩ := hx.get (i := 0) rfl
        refine ⟨_, rfl, t, _, _, _, rfl, rfl, ht, atI_nat (j := 0) rfl, _, rfl, rfl, _, rfl, ?_⟩
        rw [str_ne (a := "give") (b := "let") (by decide +kernel)]
        refine iteF ⟨_, rfl, rfl, _, rfl, ?_⟩
        rw [str_ne (a := "give") (b := "call") (by decide +kernel)]
        refine iteF ⟨_, rfl, rfl, _, rfl, ?_⟩
        rw [str_ne (a := "give") (b := "go") (by decide +kernel)]
        refine iteF ⟨_, rfl, rfl, _, rfl, ?_⟩
        rw [str_ne (a := "give") (b := "fail") (by decide +kernel)]
        exact iteF ⟨_, rfl, t, _, _, _, rfl, rfl, ht, atI_nat (j := 1) e1, by show 1 ≤ sizeLine; decide, fun p np => q _ _ (Same.new np) (.row (SqT.of upd_same) (.cons (r1.same (Same.new np)) .nil))⟩
      | go ss f as =>
        obtain ⟨t, xs, rfl, ht, hx⟩ := key r
        obtain ⟨x1, e1, r1⟩ := hx.get (i := 1) rfl
        refine ⟨_, rfl, t, _, _, _, rfl, rfl, ht, atI_nat (j := 0) rfl, _, rfl, rfl, _, rfl, ?_⟩
        rw [str_ne (a := "go") (b := "let") (by decide +kernel)]
        refine iteF ⟨_, rfl, rfl, _, rfl, ?_⟩
        rw [str_ne (a := "go") (b := "call") (by decide +kernel)]
        refine iteF ⟨_, rfl, rfl, _, rfl, ?_⟩
        rw [str_eq]
        exact iteT ⟨_, rfl, t, _, _, _, rfl, rfl, ht, atI_nat (j := 2) e1, q _ _ (Same.refl _) r1⟩
      | iff ss a b c =>
        obtain ⟨t, xs, rfl, ht, hx⟩ := key r
        obtain ⟨x1, e1, r1⟩ := hx.get (i := 0) rfl
        refine ⟨_, rfl, t, _, _, _, rfl, rfl, ht, atI_nat (j := 0) rfl, _, rfl, rfl, _, rfl, ?_⟩
        rw [str_ne (a := "if") (b := "let") (by decide +kernel)]
        refine iteF ⟨_, rfl, rfl, _, rfl, ?_⟩
        rw [str_ne (a := "if") (b := "call") (by decide +kernel)]
        refine iteF ⟨_, rfl, rfl, _, rfl, ?_⟩
        rw [str_ne (a := "if") (b := "go") (by decide +kernel)]
        refine iteF ⟨_, rfl, rfl, _, rfl, ?_⟩
        rw [str_ne (a := "if") (b := "fail") (by decide +kernel)]
        exact iteF ⟨_, rfl, t, _, _, _, rfl, rfl, ht, atI_nat (j := 1) e1, by show 1 ≤ sizeLine; decide, fun p np => q _ _ (Same.new np) (.row (SqT.of upd_same) (.cons (r1.same (Same.new np)) .nil))⟩
end
end Fk
set_option maxHeartbeats 4000000
/-! ## The checks -/
namespace Fk
open PySem PySem.Spec PyProof.Rows L2 TL
/-! ### tables of names -/
def nmV (sc : List Str) : List (Key × V) := sc.map fun n => ((.inr n : Key), V.bl true)
def ctV (cs : List (Str × Nat)) : List (Key × V) := cs.map fun p => ((.inr p.1 : Key), V.int (p.2 : Int))
theorem nmV_val : ∀ {sc : List Str} {n : Str}, (valV (nmV sc) (.inr n)).isSome = decide (n ∈ sc)
  | [], n => rfl
  | m :: sc, n => by
    by_cases e : m = n
    · subst e
      rw [show valV (nmV (m :: sc)) (.inr m) = some (V.bl true) from valV_pos rfl, decide_eq_true List.mem_cons_self]
      rfl
    · rw [show valV (nmV (m :: sc)) (.inr n) = valV (nmV sc) (.inr n) from valV_neg fun z => e (Sum.inr.inj z), nmV_val]
      by_cases c : n ∈ sc
      · rw [decide_eq_true c, decide_eq_true (List.mem_cons_of_mem _ c)]
      · rw [decide_eq_false c, decide_eq_false]
        intro z
        rcases List.mem_cons.mp z with z | z
        · exact e z.symm
        · exact c z
theorem nmV_none {sc : List Str} {n : Str} (h : n ∉ sc) : valV (nmV sc) (.inr n) = none := by
  have e := nmV_val (sc := sc) (n := n)
  rw [decide_eq_false h] at e
  cases q : valV (nmV sc) (.inr n) with
  | none => rfl
  | some v =>
    rw [q] at e
    cases e
theorem nmV_put {sc : List Str} {n : Str} (h : n ∉ sc) : putK (nmV sc) (.inr n) (V.bl true) = nmV (sc ++ [n]) := by
  rw [putK_new _ (nmV_none h)]
  unfold nmV
  rw [List.map_append]
  rfl
theorem ctV_val : ∀ {cs : List (Str × Nat)} {n : Str}, valV (ctV cs) (.inr n) = (cs.lookup n).map fun k => V.int (k : Int)
  | [], n => rfl
  | (m, k) :: cs, n => by
    by_cases e : m = n
    · subst e
      rw [show valV (ctV ((m, k) :: cs)) (.inr m) = some (V.int (k : Int)) from valV_pos rfl, List.lookup_cons, beq_self_eq_true]
      rfl
    · have hb : (n == m) = false := by simpa using fun z => e z.symm
      rw [show valV (ctV ((m, k) :: cs)) (.inr n) = valV (ctV cs) (.inr n) from valV_neg fun z => e (Sum.inr.inj z), ctV_val, List.lookup_cons, hb]
theorem ctV_put {cs : List (Str × Nat)} {n : Str} {k : Nat} (h : cs.lookup n = none) : putK (ctV cs) (.inr n) (V.int (k : Int)) = ctV (cs ++ [(n, k)]) := by
  rw [putK_new _ (by rw [ctV_val, h]; rfl)]
  unfold ctV
  rw [List.map_append]
  rfl
/-! ### the mirror -/
def atomOk (scope : List Str) : Atom → Bool
  | .is _ => true
  | .of n => decide (n ∈ scope)
def lineOk (counts : List (Str × Nat)) (scope : List Str) (l : Line) : Bool := (match l.aim with
  | none => true
  | some f => decide (counts.lookup f = some l.atoms.length)) && l.atoms.all (atomOk scope)
def Stp.name : Stp → Str
  | .let_ n _ _ => n
  | .call n _ _ => n
def checkSteps (counts : List (Str × Nat)) : List Stp → List Str → List Str → Option (List Str × List Str)
  | [], seen, taken => some (seen, taken)
  | s :: ss, seen, taken => if lineOk counts seen (.stp s) = true ∧ s.name ∉ taken ∧ s.name ∉ seen then checkSteps counts ss (seen ++ [s.name]) (taken ++ [s.name]) else none
def checkBlk (counts : List (Str × Nat)) : Blk → List Str → List Str → Option (List Str)
  | .give ss a, scope, taken => (match checkSteps counts ss scope taken with
    | some (seen, taken) => if lineOk counts seen (.en (.give ss a)) = true then some taken else none
    | none => none)
  | .go ss f as, scope, taken => (match checkSteps counts ss scope taken with
    | some (seen, taken) => if lineOk counts seen (.en (.go ss f as)) = true then some taken else none
    | none => none)
  | .iff ss a b c, scope, taken => (match checkSteps counts ss scope taken with
    | some (seen, taken) => if lineOk counts seen (.en (.iff ss a b c)) = true then (match checkBlk counts b seen taken with
      | some taken => checkBlk counts c seen taken
      | none => none) else none
    | none => none)
def countsFrom : List Fun → List (Str × Nat) → Option (List (Str × Nat))
  | [], cs => some cs
  | f :: r, cs => if cs.lookup f.name = none then countsFrom r (cs ++ [(f.name, f.params.length)]) else none
def nodupS : List Str → Bool
  | [] => true
  | x :: r => !decide (x ∈ r) && nodupS r
def funOk (counts : List (Str × Nat)) (f : Fun) : Bool := decide f.params.Nodup && (decide (f.params.length ≤ 6) && ((match checkBlk counts f.blk f.params f.params with
  | some tk => decide (tk.length ≤ 500)
  | none => false) && decide (f.blk.nest ≤ 8)))
def checkM (p : List Fun) : Bool := decide (p.length ≤ 200) && (match countsFrom p [] with
  | some cs => p.all (funOk cs)
  | none => false)
section
variable {P : Program} {w : World} {K : PySem.W.Frag} {mg : Str → Option Value} {base : Heap}
/-! ### params_counted -/
def spCounted (K : PySem.W.Frag) : Sp := fun vs H Q _ => ∃ (v : V) (p : List Fun) (cs : List (Str × Nat)), vs = [v] ∧ Rep K R0 H (progD p) v ∧ p.length ≤ 200 ∧ countsFrom p [] = some cs ∧ ∀ (d : Addr) (H' : Hp), Same H H' → H d = none → H' d = some (.dK (ctV cs)) → Q (.ref d) H'
theorem countsFrom_at : ∀ {p : List Fun} {cs0 cs : List (Str × Nat)}, countsFrom p cs0 = some cs → cs = cs0 ++ p.map fun f => (f.name, f.params.length)
  | [], cs0, cs, h => by
    cases h
    rw [List.map_nil, List.append_nil]
  | f :: r, cs0, cs, h => by
    have h2 : (if cs0.lookup f.name = none then countsFrom r (cs0 ++ [(f.name, f.params.length)]) else none) = some cs := h
    by_cases c : cs0.lookup f.name = none
    · rw [if_pos c] at h2
      rw [countsFrom_at h2, List.append_assoc]
      rfl
    · rw [if_neg c] at h2
      cases h2
theorem countsFrom_new : ∀ {p : List Fun} {cs0 cs : List (Str × Nat)} {i : Nat} {f : Fun}, countsFrom p cs0 = some cs → p[i]? = some f → (cs0 ++ (p.take i).map fun f => (f.name, f.params.length)).lookup f.name = none
  | [], _, _, _, _, _, h => by cases h
  | g :: r, cs0, cs, i, f, h, e => by
    have h2 : (if cs0.lookup g.name = none then countsFrom r (cs0 ++ [(g.name, g.params.length)]) else none) = some cs := h
    by_cases c : cs0.lookup g.name = none
    · rw [if_pos c] at h2
      cases i with
      | zero =>
        cases e
        rw [List.take_zero, List.map_nil, List.append_nil]
        exact c
      | succ i =>
        have := countsFrom_new (i := i) h2 e
        rw [List.append_assoc] at this
        exact this
    · rw [if_neg c] at h2
      cases h2
theorem dk_small {n : Nat} (h : n ≤ 1000) : n < sizeLine := small1000 h
theorem sc_params_counted : FnScope ["program", "counts", "name", "params", "block"] ["program"] (defScope (top 47)) := ⟨rfl, rfl, rfl, by decide +kernel, rfl, by decide +kernel, by decide +kernel⟩
theorem ok_counted (X : Fx mg) (F : FnP K mg "params_counted" "params_counted" (top 47)) : Cal P w K mg base CX0 1 "params_counted" ["program"] (spCounted K) := by
  refine F.cal sc_params_counted (fun _ _ _ _ _ _ us hl => match us, hl with | [_], _ => rfl) (fun vs H Q E h => ?_) (fun f cdv A outer s H vs Q E hr h => ?_)
  · obtain ⟨v, p, cs, rfl, _⟩ := h
    rfl
  · have hu := hu_of hr
    obtain ⟨v, p, cs, rfl, rp, hz, hc, q⟩ := h
    obtain ⟨t, xs, rfl, ht, hl⟩ := rp.row_inv
    refine ⟨_, PSs.nox (pss_cons (ps_set (i := 1) sc_params_counted.nd rfl (Or.inl rfl) pe_dnewK)
      (pss_cons (ps_for PassesOwn.never rfl (pi_tup (pv 0)) (pg_tup rfl (pgs_cons (pg_name (i := 2) sc_params_counted.nd rfl (Or.inl rfl)) (pgs_cons (pg_name (i := 3) sc_params_counted.nd rfl (Or.inl rfl)) (pgs_cons (pg_name (i := 4) sc_params_counted.nd rfl (Or.inl rfl)) pgs_nil)))) (pss_cons (ps_if (pt_cmp (pc_din hu (pv 2) (pv 1))) (pss_one ps_never) pss_nil)
      (pss_one (ps_dput hu (pv 1) (pv 2) (pe_callB (call_len_seq) rfl X.len (by decide +kernel) (pa_cons (pv 3) pa_nil)) rfl))))
      (pss_one (ps_ret (pv 1))))), ?_⟩
    intro d nd
    have s0 : Same H (upd H d (.dK [])) := Same.new nd
    refine ⟨_, rfl, t, rfl, ⟨_, seqT s0 ht⟩, for_tup (K := K) (a := t) (xs := xs) (fun i σ H2 => ∃ a b c : Option V, σ = [some (.ref t), some (.ref d), a, b, c] ∧ Same H H2 ∧ H2 d = some (.dK (ctV ((p.take i).map fun f => (f.name, f.params.length))))) ⟨none, none, none, rfl, s0, upd_same⟩ (fun i σ H2 _ ⟨_, _, _, _, s2, _⟩ => seqT s2 ht) ?_ ?_⟩
    · rintro i x σ H2 hi ⟨a, b, c, rfl, s2, hd⟩
      obtain ⟨fd, hf, rf⟩ := hl.get' hi
      rw [List.getElem?_map] at hf
      obtain ⟨fn, hfn, rfl⟩ := Option.map_eq_some_iff.mp hf
      obtain ⟨tf, ys, rfl, htf, hlf⟩ := (rf.same s2).row_inv
      obtain ⟨x1, x2, x3, rfl, h1, h2, h3⟩ := hlf.three
      cases h1.word_inv
      obtain ⟨tp, ps, rfl, htp, hlp⟩ := h2.row_inv
      refine ⟨tf, _, rfl, htf, rfl, ?_⟩
      refine ⟨_, _, rfl, _, _, rfl, _, _, rfl, rfl, ?_⟩
      have new := countsFrom_new hc hfn
      rw [List.nil_append] at new
      refine ⟨_, rfl, _, rfl, d, _, rfl, DGet.k (k := Sum.inr fn.name) hd, _, rfl, ?_⟩
      rw [ctV_val, new]
      refine iteF ?_
      refine ⟨_, rfl, _, ps, rfl, .inr htp, _, rfl, _, rfl, d, _, rfl, DPut.k (k := Sum.inr fn.name) hd (dk_small ?_), ?_⟩
      · unfold ctV
        rw [List.length_map, List.length_map, List.length_take]
        omega
      · refine ⟨_, _, _, rfl, grow s2 nd, ?_⟩
        rw [upd_same, List.take_succ, hfn, List.map_append]
        have e : ps.length = fn.params.length := by rw [hlp.len, List.length_map]
        rw [e]
        exact congrArg (fun z => some (HO.dK z)) (ctV_put new)
    · rintro σ H2 ⟨a, b, c, rfl, s2, hd⟩
      have e : p.take xs.length = p := by rw [hl.len, List.length_map, List.take_length]
      rw [e] at hd
      have e2 := countsFrom_at hc
      rw [List.nil_append] at e2
      rw [← e2] at hd
      exact ⟨_, rfl, q d H2 s2 nd hd⟩
/-! ### check_line -/
def spCheckLine (K : PySem.W.Frag) : Sp := fun vs H Q _ => ∃ (fv v : V) (l : Line) (c d : Addr) (cs : List (Str × Nat)) (sc : List Str), vs = [fv, v, .ref c, .ref d] ∧ Rep K R0 H l.d v ∧ H c = some (.dK (ctV cs)) ∧ H d = some (.dK (nmV sc)) ∧ lineOk cs sc l = true ∧ ∀ H', Same H H' → Q .non H'
theorem optV_none {o : Option Str} : decide (optV o = V.non) = o.isNone := by cases o <;> rfl
theorem sc_check_line : FnScope ["function", "line", "counts", "scope", "aim", "atom"] ["function", "line", "counts", "scope"] (defScope (top 48)) := ⟨rfl, rfl, rfl, by decide +kernel, rfl, by decide +kernel, by decide +kernel⟩
theorem ok_check_line (X : Fx mg) (c_aim_of : Cal P w K mg base CX0 1 "aim_of" ["line"] (spAimOf K)) (c_atoms_of : Cal P w K mg base CX0 1 "atoms_of" ["line"] (spAtomsOf K)) (F : FnP K mg "check_line" "check_line" (top 48)) : Cal P w K mg base CX0 2 "check_line" ["function", "line", "counts", "scope"] (spCheckLine K) := by
  refine F.cal sc_check_line (fun _ _ _ _ _ _ us hl => match us, hl with | [_, _, _, _], _ => rfl) (fun vs H Q E h => ?_) (fun f cdv A outer s H vs Q E hr h => ?_)
  · obtain ⟨fv, v, l, c, d, cs, sc, rfl, _⟩ := h
    rfl
  · have hu := hu_of hr
    obtain ⟨fv, v, l, c, d, cs, sc, rfl, rl, hc, hd, hok, q⟩ := h
    unfold lineOk at hok
    obtain ⟨ok1, ok2⟩ := Bool.and_eq_true_iff.mp hok
    refine ⟨_, PSs.nox (pss_cons (ps_set (i := 4) sc_check_line.nd rfl (Or.inl rfl) (pe_cal c_aim_of hr pass0 (pa_cons (pv 1) pa_nil)))
      (pss_cons (ps_if (pt_cmpR op_notN (pv 4) pe_non (nomark _)) (pss_cons (ps_if (pt_cmp (pc_dnotin hu (pv 4) (pv 2))) (pss_one ps_never) pss_nil)
      (pss_one (ps_if (pt_cmpR op_ne (pe_dget hu (pv 2) (pv 4) (fun _ _ => rfl)) (pe_callB (call_len_seq) rfl X.len (by decide +kernel) (pa_cons (pe_cal c_atoms_of hr pass0 (pa_cons (pv 1) pa_nil)) pa_nil)) (nomark _)) (pss_one ps_never) pss_nil))) pss_nil)
      (pss_one (ps_for PassesOwn.never rfl (pi_tup (pe_cal c_atoms_of hr pass0 (pa_cons (pv 1) pa_nil))) (pg_name (i := 5) sc_check_line.nd rfl (Or.inl rfl)) (pss_one (ps_if (PW.pt (pw_and (pt_cmpR op_eq (pe_ix ix_tup (pv 5) pe_int (fun _ _ => rfl)) pe_str (nomark _)) (pw_and1 (pt_cmp (pc_dnotin hu (pe_ix ix_tup (pv 5) pe_int (fun _ _ => rfl)) (pv 3)))))) (pss_one ps_never) pss_nil)))))), ?_⟩
    have loop : ∀ {H1 : Hp} {av : V}, Same H H1 → tFor (iTup K (tCall (spAtomsOf K) [] E0 (tCons (tVar 1) tNil))) (gName 5)
        (tIfS (tAnd (tTest (tOp rEq (tOp (rIxT K) (tVar 5) (tC (.int 0))) (tC (.str "of")))) (tB (tDNotIn (tOp (rIxT K) (tVar 5) (tC (.int 1))) (tVar 3)))) tNever tNext)
        { nx := fun _ H' => Q .non H', rt := Q } [some fv, some v, some (.ref c), some (.ref d), some av, none] H1 := by
      intro H1 av s1
      refine ⟨_, rfl, v, l, rfl, rl.same s1, fun u H2 s2 ru => ?_⟩
      obtain ⟨t, xs, rfl, ht, hl⟩ := ru.row_inv
      have s02 := s1.trans s2
      refine ⟨t, rfl, ⟨_, ht⟩, for_tup (K := K) (a := t) (xs := xs) (fun i σ H3 => ∃ a : Option V, σ = [some fv, some v, some (.ref c), some (.ref d), some av, a] ∧ H3 = H2) ⟨none, rfl, rfl⟩ (fun i σ H3 _ ⟨_, _, e⟩ => by rw [e]; exact ht) ?_ ?_⟩
      · rintro i x σ H3 hi ⟨a, rfl, rfl⟩
        obtain ⟨ad, ha, ra⟩ := hl.get' hi
        rw [List.getElem?_map] at ha
        obtain ⟨a', ha', rfl⟩ := Option.map_eq_some_iff.mp ha
        have oka := List.all_eq_true.mp ok2 a' (List.mem_of_getElem? ha')
        cases a' with
        | is wd =>
          obtain ⟨ta, x1, x2, rfl, hta, r1, r2⟩ := ra.pair_inv
          cases r1.word_inv
          refine ⟨_, rfl, ta, _, _, _, rfl, rfl, hta, atI_nat (j := 0) rfl, rfl, _, rfl, ?_⟩
          rw [str_ne (a := "is") (b := "of") (by decide +kernel)]
          exact iteF (iteF ⟨_, rfl, rfl⟩)
        | of n =>
          obtain ⟨ta, x1, x2, rfl, hta, r1, r2⟩ := ra.pair_inv
          cases r1.word_inv
          cases r2.word_inv
          refine ⟨_, rfl, ta, _, _, _, rfl, rfl, hta, atI_nat (j := 0) rfl, rfl, _, rfl, ?_⟩
          rw [str_eq]
          refine iteT ⟨_, rfl, ta, _, _, _, rfl, rfl, hta, atI_nat (j := 1) rfl, _, rfl, d, _, rfl, DGet.k (k := Sum.inr n) (s02 _ _ hd), _, rfl, ?_⟩
          rw [nmV_val, show decide (n ∈ sc) = true from oka]
          exact iteF ⟨_, rfl, rfl⟩
      · rintro σ H3 ⟨a, rfl, rfl⟩
        exact q _ s02
    refine ⟨_, rfl, v, l, rfl, rl, _, rfl, rfl, ?_⟩
    refine ⟨_, rfl, ?_⟩
    rw [optV_none]
    cases ea : l.aim with
    | none => exact iteF (loop (Same.refl _))
    | some fn =>
      rw [ea] at ok1
      have ok1' : cs.lookup fn = some l.atoms.length := of_decide_eq_true ok1
      refine iteT ?_
      refine ⟨_, rfl, _, rfl, c, _, rfl, DGet.k (k := Sum.inr fn) hc, _, rfl, ?_⟩
      rw [ctV_val, ok1']
      refine iteF ?_
      have g := DGet.k (k := Sum.inr fn) hc
      rw [ctV_val, ok1'] at g
      refine ⟨_, rfl, _, rfl, c, _, rfl, g, _, rfl, v, l, rfl, rl, fun u H2 s2 ru => ?_⟩
      obtain ⟨t, xs, rfl, ht, hl⟩ := ru.row_inv
      refine ⟨t, xs, rfl, .inr ht, rfl, _, rfl, ?_⟩
      rw [hl.len, List.length_map]
      exact iteNS rfl (loop s2)
/-! ### check_block -/
def spCheckBlock (K : PySem.W.Frag) (n : Nat) : Sp := fun vs H Q _ => ∃ (fv v : V) (b : Blk) (c d tk : Addr) (cs : List (Str × Nat)) (sc taken taken' : List Str), vs = [fv, v, .ref c, .ref d, .ref tk] ∧ Rep K R0 H b.d v ∧ H c = some (.dK (ctV cs)) ∧ H d = some (.dK (nmV sc)) ∧ H tk = some (.dK (nmV taken)) ∧ c ≠ tk ∧ d ≠ tk ∧
  checkBlk cs b sc taken = some taken' ∧ b.nest ≤ n ∧ sc.length ≤ taken.length ∧ taken'.length ≤ 500 ∧ ∀ H', But tk H H' → H' tk = some (.dK (nmV taken')) → Q .non H'
theorem checkBlk_some {cs : List (Str × Nat)} {b : Blk} {sc taken taken' : List Str} (h : checkBlk cs b sc taken = some taken') : ∃ seen tk, checkSteps cs b.steps sc taken = some (seen, tk) ∧ lineOk cs seen (.en b) = true ∧
    (match b with
      | .iff _ _ c d => ∃ t1, checkBlk cs c seen tk = some t1 ∧ checkBlk cs d seen t1 = some taken'
      | _ => tk = taken') := by
  cases b with
  | give ss a =>
    have h2 : (match checkSteps cs ss sc taken with
      | some (seen, taken) => if lineOk cs seen (.en (.give ss a)) = true then some taken else none
      | none => none) = some taken' := h
    cases e : checkSteps cs ss sc taken with
    | none =>
      rw [e] at h2
      cases h2
    | some t =>
      obtain ⟨seen, tk⟩ := t
      rw [e] at h2
      have h3 : (if lineOk cs seen (.en (.give ss a)) = true then some tk else none) = some taken' := h2
      by_cases c : lineOk cs seen (.en (.give ss a)) = true
      · rw [if_pos c] at h3
        exact ⟨seen, tk, e, c, Option.some.inj h3⟩
      · rw [if_neg c] at h3
        cases h3
  | go ss f as =>
    have h2 : (match checkSteps cs ss sc taken with
      | some (seen, taken) => if lineOk cs seen (.en (.go ss f as)) = true then some taken else none
      | none => none) = some taken' := h
    cases e : checkSteps cs ss sc taken with
    | none =>
      rw [e] at h2
      cases h2
    | some t =>
      obtain ⟨seen, tk⟩ := t
      rw [e] at h2
      have h3 : (if lineOk cs seen (.en (.go ss f as)) = true then some tk else none) = some taken' := h2
      by_cases c : lineOk cs seen (.en (.go ss f as)) = true
      · rw [if_pos c] at h3
        exact ⟨seen, tk, e, c, Option.some.inj h3⟩
      · rw [if_neg c] at h3
        cases h3
  | iff ss a b c =>
    have h2 : (match checkSteps cs ss sc taken with
      | some (seen, taken) => if lineOk cs seen (.en (.iff ss a b c)) = true then (match checkBlk cs b seen taken with
        | some taken => checkBlk cs c seen taken
        | none => none) else none
      | none => none) = some taken' := h
    cases e : checkSteps cs ss sc taken with
    | none =>
      rw [e] at h2
      cases h2
    | some t =>
      obtain ⟨seen, tk⟩ := t
      rw [e] at h2
      have h3 : (if lineOk cs seen (.en (.iff ss a b c)) = true then (match checkBlk cs b seen tk with
        | some taken => checkBlk cs c seen taken
        | none => none) else none) = some taken' := h2
      by_cases c' : lineOk cs seen (.en (.iff ss a b c)) = true
      · rw [if_pos c'] at h3
        cases e2 : checkBlk cs b seen tk with
        | none =>
          rw [e2] at h3
          cases h3
        | some t1 =>
          rw [e2] at h3
          exact ⟨seen, tk, e, c', t1, e2, h3⟩
      · rw [if_neg c'] at h3
        cases h3
theorem checkSteps_cons {cs : List (Str × Nat)} {s : Stp} {ss : List Stp} {sc taken : List Str} {r : List Str × List Str} (h : checkSteps cs (s :: ss) sc taken = some r) : (lineOk cs sc (.stp s) = true ∧ s.name ∉ taken ∧ s.name ∉ sc) ∧ checkSteps cs ss (sc ++ [s.name]) (taken ++ [s.name]) = some r := by
  have h2 : (if lineOk cs sc (.stp s) = true ∧ s.name ∉ taken ∧ s.name ∉ sc then checkSteps cs ss (sc ++ [s.name]) (taken ++ [s.name]) else none) = some r := h
  by_cases c : lineOk cs sc (.stp s) = true ∧ s.name ∉ taken ∧ s.name ∉ sc
  · rw [if_pos c] at h2
    exact ⟨c, h2⟩
  · rw [if_neg c] at h2
    cases h2
theorem checkSteps_len {cs : List (Str × Nat)} : ∀ {ss : List Stp} {sc taken seen tk : List Str}, checkSteps cs ss sc taken = some (seen, tk) → seen.length = sc.length + ss.length ∧ tk.length = taken.length + ss.length
  | [], _, _, _, _, h => by
    cases h
    exact ⟨rfl, rfl⟩
  | s :: ss, sc, taken, seen, tk, h => by
    obtain ⟨_, h2⟩ := checkSteps_cons h
    obtain ⟨a, b⟩ := checkSteps_len h2
    rw [List.length_append] at a b
    simp only [List.length_cons, List.length_nil] at a b ⊢
    omega
theorem checkBlk_le {cs : List (Str × Nat)} : ∀ {b : Blk} {sc taken taken' : List Str}, checkBlk cs b sc taken = some taken' → taken.length + b.steps.length ≤ taken'.length
  | .give ss a, _, _, taken', h => by
    obtain ⟨seen, tk, e, _, z⟩ := checkBlk_some h
    have z2 : tk = taken' := z
    have := (checkSteps_len e).2
    rw [← z2]
    omega
  | .go ss f as, _, _, taken', h => by
    obtain ⟨seen, tk, e, _, z⟩ := checkBlk_some h
    have z2 : tk = taken' := z
    have := (checkSteps_len e).2
    rw [← z2]
    omega
  | .iff ss a b c, sc, taken, taken', h => by
    obtain ⟨seen, tk, e, _, t1, h1, h2⟩ := checkBlk_some h
    have a1 := (checkSteps_len e).2
    have a2 := checkBlk_le h1
    have a3 := checkBlk_le h2
    omega
theorem Stp.name_at {s : Stp} {v : V} {H : Hp} (h : Rep K R0 H s.d v) : ∃ t xs, v = .ref t ∧ SqT K H t xs ∧ xs[1]? = some (.str s.name) := by
  cases s with
  | let_ n o as =>
    obtain ⟨t, xs, rfl, ht, hl⟩ := h.row_inv
    obtain ⟨x, e, r⟩ := hl.get (i := 1) rfl
    cases r.word_inv
    exact ⟨t, xs, rfl, ht, e⟩
  | call n f as =>
    obtain ⟨t, xs, rfl, ht, hl⟩ := h.row_inv
    obtain ⟨x, e, r⟩ := hl.get (i := 1) rfl
    cases r.word_inv
    exact ⟨t, xs, rfl, ht, e⟩
theorem Blk.end_at {b : Blk} {v : V} {H : Hp} (h : Rep K R0 H b.endD v) : ∃ t wd xs, v = .ref t ∧ SqT K H t (.str wd :: xs) ∧ (match b with
    | .iff _ _ c d => wd = "if" ∧ ∃ x2 x3, xs[1]? = some x2 ∧ xs[2]? = some x3 ∧ Rep K R0 H c.d x2 ∧ Rep K R0 H d.d x3
    | _ => ¬ wd = "if") := by
  cases b with
  | give ss a =>
    obtain ⟨t, x, y, rfl, ht, rx, _⟩ := h.pair_inv
    cases rx.word_inv
    exact ⟨t, _, _, rfl, ht, by show ¬ (("give" : Str) = "if"); decide +kernel⟩
  | go ss f as =>
    obtain ⟨t, xs, rfl, ht, hl⟩ := h.row_inv
    obtain ⟨x, y, z, rfl, rx, _, _⟩ := hl.three
    cases rx.word_inv
    exact ⟨t, _, _, rfl, ht, by show ¬ (("go" : Str) = "if"); decide +kernel⟩
  | iff ss a c d =>
    obtain ⟨t, xs, rfl, ht, hl⟩ := h.row_inv
    cases hl with
    | cons h1 h2 =>
      cases h1.word_inv
      obtain ⟨x2, e2, r2⟩ := h2.get (i := 1) rfl
      obtain ⟨x3, e3, r3⟩ := h2.get (i := 2) rfl
      exact ⟨t, _, _, rfl, ht, rfl, x2, x3, e2, e3, r2, r3⟩
/-- a dict is written: what stands of data stands -/
theorem Kept.dk {R : Addr → Prop} {H : Hp} {p : Addr} {xs : List (Key × V)} {o : HO} (h : H p = some (.dK xs)) (n : ¬ R p) : Kept R H (L2.upd H p o) :=
  Kept.upd (fun u e => by
    rw [h] at e
    cases e
    rintro (⟨_, z⟩ | ⟨_, _, z⟩) <;> cases z) n
theorem Kept.of_butD {H H' : Hp} {p : Addr} {xs : List (Key × V)} (b : But p H H') (h : H p = some (.dK xs)) : Kept R0 H H' := by
  refine ⟨fun c u e z => b c u e fun q => ?_, fun c kvs z _ => z.elim⟩
  rw [q, h] at e
  cases e
  rcases z with ⟨_, z⟩ | ⟨_, _, z⟩ <;> cases z
theorem sc_check_block : FnScope ["function", "block", "counts", "scope", "taken", "steps", "end", "seen", "step"] ["function", "block", "counts", "scope", "taken"] (defScope (top 49)) := ⟨rfl, rfl, rfl, by decide +kernel, rfl, by decide +kernel, by decide +kernel⟩
theorem ok_check_block_step {n : Nat} (X : Fx mg) (c_check_line : Cal P w K mg base CX0 2 "check_line" ["function", "line", "counts", "scope"] (spCheckLine K))
    (cb : ∀ m, m < n → Cal P w K mg base CX0 (m + 3) "check_block" ["function", "block", "counts", "scope", "taken"] (spCheckBlock K m)) (F : FnP K mg "check_block" "check_block" (top 49)) : Cal P w K mg base CX0 (n + 3) "check_block" ["function", "block", "counts", "scope", "taken"] (spCheckBlock K n) := by
  refine F.cal sc_check_block (fun _ _ _ _ _ _ us hl => match us, hl with | [_, _, _, _, _], _ => rfl) (fun vs H Q E h => ?_) (fun f cdv A outer s H vs Q E hr h => ?_)
  · obtain ⟨fv, v, b, c, d, tk, cs, sc, taken, taken', rfl, _⟩ := h
    rfl
  · have hu := hu_of hr
    obtain ⟨fv, v, b, c, d, tk, cs, sc, taken, taken', rfl, rb, hc, hd, htk, nc, nd, hcb, hn, hsz, hz, q⟩ := h
    have hr2 : Room 2 _ := hr.mono (by omega)
    rw [Blk.d_eq] at rb
    obtain ⟨t, sv, ev, rfl, ht, rs, re⟩ := rb.pair_inv
    obtain ⟨st, ss, rfl, hst, hss⟩ := rs.row_inv
    obtain ⟨seen, tk', hcs, hle, hrest⟩ := checkBlk_some hcb
    have hcl := checkSteps_len hcs
    have htl : tk'.length ≤ taken'.length := by
      cases b with
      | give _ _ => rw [show tk' = taken' from hrest]; exact Nat.le_refl _
      | go _ _ _ => rw [show tk' = taken' from hrest]; exact Nat.le_refl _
      | iff _ _ b1 b2 =>
        obtain ⟨t1, h1, h2⟩ := hrest
        have a2 := checkBlk_le h1
        have a3 := checkBlk_le h2
        omega
    have front : ∀ {tb : TS}, (∀ (sa : Addr) (H' : Hp) (x : Option V), But tk H H' → H sa = none → sa ≠ tk → H' sa = some (.dK (nmV seen)) → H' tk = some (.dK (nmV tk')) → tb { nx := fun _ H' => Q .non H', rt := Q } [some fv, some (.ref t), some (.ref c), some (.ref d), some (.ref tk), some (.ref st), some ev, some (.ref sa), x] H') →
      tSeq (tAsg (tVar 1) (gTup K 2 (gCons (gName 5) (gCons (gName 6) gNil)))) (tSeq (tAsg (tCB (fun xs H Q => ∃ (a : Addr) (kvs : List (Key × V)), xs = [.ref a] ∧ Rd H a (.dK kvs) ∧ ∀ p, H p = none → Q (.ref p) (upd H p (.dK kvs))) (tCons (tVar 3) tNil)) (gName 7)) (tSeq (tFor (iTup K (tVar 5)) (gName 8) (tSeq (tDrop (tCall (spCheckLine K) [] E0 (tCons (tVar 0) (tCons (tVar 8) (tCons (tVar 2) (tCons (tVar 7) tNil)))))) (tSeq (tIfS (tB (tDIn (tOp (rIxT K) (tVar 8) (tC (.int 1))) (tVar 4))) tNever tNext) (tSeq (sDPut (tVar 4) (tOp (rIxT K) (tVar 8) (tC (.int 1))) (tC (.bl true))) (sDPut (tVar 7) (tOp (rIxT K) (tVar 8) (tC (.int 1))) (tC (.bl true))))))) tb)) { nx := fun _ H' => Q .non H', rt := Q } (start ["function", "block", "counts", "scope", "taken", "steps", "end", "seen", "step"] [fv, .ref t, .ref c, .ref d, .ref tk]) H := by
      intro tb k
      refine ⟨_, rfl, t, _, rfl, ht, rfl, ?_⟩
      refine ⟨_, _, rfl, _, _, rfl, rfl, ?_⟩
      refine ⟨_, rfl, d, _, rfl, Rd.of hd, fun sa nsa => ?_⟩
      have s0 : Same H (upd H sa (.dK (nmV sc))) := Same.new nsa
      have nst : sa ≠ tk := by
        rintro rfl
        rw [htk] at nsa
        cases nsa
      have nsc : c ≠ sa := by
        rintro rfl
        rw [hc] at nsa
        cases nsa
      refine ⟨_, rfl, st, rfl, ⟨_, seqT s0 hst⟩, for_tup (K := K) (a := st) (xs := ss) (fun i σ H2 => ∃ (x : Option V) (se ta : List Str), σ = [some fv, some (.ref t), some (.ref c), some (.ref d), some (.ref tk), some (.ref st), some ev, some (.ref sa), x] ∧ But tk H H2 ∧ H2 sa = some (.dK (nmV se)) ∧ H2 tk = some (.dK (nmV ta)) ∧ checkSteps cs (b.steps.drop i) se ta = some (seen, tk'))
        ⟨none, sc, taken, rfl, But.of_same s0, upd_same, s0 _ _ htk, hcs⟩ (fun i σ H2 _ ⟨_, _, _, _, b2, _⟩ => SqT.mono (Kept.of_butD b2 htk).tup hst) ?_ ?_⟩
      · rintro i x σ H2 hi ⟨y, se, ta, rfl, b2, hsa, hta, hck⟩
        have k2 : Kept R0 H H2 := Kept.of_butD b2 htk
        obtain ⟨sd, hsd, rsd⟩ := hss.get' hi
        rw [List.getElem?_map] at hsd
        obtain ⟨sp, hsp, rfl⟩ := Option.map_eq_some_iff.mp hsd
        have rsp := rsd.mono k2
        have ed : b.steps.drop i = sp :: b.steps.drop (i + 1) := by
          obtain ⟨h1, h2⟩ := List.getElem?_eq_some_iff.mp hsp
          rw [List.drop_eq_getElem_cons h1, h2]
        rw [ed] at hck
        obtain ⟨⟨ok1, ok2, ok3⟩, hck2⟩ := checkSteps_cons hck
        have hcl2 := checkSteps_len hck
        obtain ⟨tx, ys, rfl, htx, hy⟩ := Stp.name_at rsp
        refine ⟨_, rfl, _, rfl, _, rfl, _, rfl, fv, _, .stp sp, c, sa, cs, se, rfl, rsp, b2 _ _ hc nc, hsa, ok1, fun H3 s3 => ?_⟩
        have hsa3 := s3 _ _ hsa
        have hta3 := s3 _ _ hta
        refine ⟨_, rfl, tx, _, _, _, rfl, rfl, seqT s3 htx, atI_nat (j := 1) hy, _, rfl, tk, _, rfl, DGet.k (k := Sum.inr sp.name) hta3, _, rfl, ?_⟩
        rw [nmV_val, decide_eq_false ok2]
        refine iteF ?_
        have small : (nmV ta).length ≤ 1000 ∧ (nmV se).length ≤ 1000 := by
          unfold nmV
          rw [List.length_map, List.length_map]
          simp only [List.length_cons] at hcl2
          omega
        refine ⟨_, rfl, _, rfl, tx, _, _, _, rfl, rfl, seqT s3 htx, atI_nat (j := 1) hy, tk, _, rfl, DPut.k (k := Sum.inr sp.name) hta3 (dk_small small.1), ?_⟩
        rw [nmV_put ok2]
        have k4 : Kept R0 H3 (upd H3 tk (.dK (nmV (ta ++ [sp.name])))) := Kept.dk hta3 id
        have hsa4 : upd H3 tk (.dK (nmV (ta ++ [sp.name]))) sa = some (.dK (nmV se)) := by rw [upd_ne nst]; exact hsa3
        refine ⟨_, rfl, _, rfl, tx, _, _, _, rfl, rfl, SqT.mono k4.tup (seqT s3 htx), atI_nat (j := 1) hy, sa, _, rfl, DPut.k (k := Sum.inr sp.name) hsa4 (dk_small small.2), ?_⟩
        rw [nmV_put ok3]
        refine ⟨some (.ref tx), se ++ [sp.name], ta ++ [sp.name], rfl, fun b' o e n => ?_, upd_same, ?_, hck2⟩
        · rw [upd_ne (ne_of_none e nsa), upd_ne n]
          exact s3 _ _ (b2 _ _ e n)
        · rw [upd_ne (Ne.symm nst), upd_same]
      · rintro σ H2 ⟨y, se, ta, rfl, b2, hsa, hta, hck⟩
        have e : b.steps.drop ss.length = [] := by
          rw [hss.len, List.length_map, List.drop_length]
        rw [e] at hck
        cases hck
        exact k sa H2 y b2 nsa nst hsa hta
    cases n with
    | zero =>
      refine ⟨_, PSs.nox (pss_cons (ps_asg (pv 1) (pg_tup rfl (pgs_cons (pg_name (i := 5) sc_check_block.nd rfl (Or.inl rfl)) (pgs_cons (pg_name (i := 6) sc_check_block.nd rfl (Or.inl rfl)) pgs_nil)))) (pss_cons (ps_set (i := 7) sc_check_block.nd rfl (Or.inl rfl) (pe_callTy call_dictD rfl X.dict (by decide +kernel) (pa_cons (pv 3) pa_nil))) (pss_cons (ps_for PassesOwn.never rfl (pi_tup (pv 5)) (pg_name (i := 8) sc_check_block.nd rfl (Or.inl rfl)) (pss_cons (ps_expr (pe_cal c_check_line hr2 pass0 (pa_cons (pv 0) (pa_cons (pv 8) (pa_cons (pv 2) (pa_cons (pv 7) pa_nil)))))) (pss_cons (ps_if (pt_cmp (pc_din hu (pe_ix ix_tup (pv 8) pe_int (fun _ _ => rfl)) (pv 4))) (pss_one ps_never) pss_nil) (pss_cons (ps_dput hu (pv 4) (pe_ix ix_tup (pv 8) pe_int (fun _ _ => rfl)) pe_bl rfl) (pss_one (ps_dput hu (pv 7) (pe_ix ix_tup (pv 8) pe_int (fun _ _ => rfl)) pe_bl rfl))))))
        (pss_cons (ps_expr (pe_cal c_check_line hr2 pass0 (pa_cons (pv 0) (pa_cons (pv 6) (pa_cons (pv 2) (pa_cons (pv 7) pa_nil)))))) (pss_one (ps_if (pt_cmpR op_eq (pe_ix ix_tup (pv 6) pe_int (fun _ _ => rfl)) pe_str (nomark _)) pss_never pss_nil)))))), ?_⟩
      refine front fun sa H2 x b2 nsa nst hsa htk2 => ?_
      have k2 : Kept R0 H H2 := Kept.of_butD b2 htk
      refine ⟨_, rfl, _, rfl, _, rfl, _, rfl, fv, ev, .en b, c, sa, cs, seen, rfl, re.mono k2, b2 _ _ hc nc, hsa, hle, fun H3 s3 => ?_⟩
      obtain ⟨te, wd, xs, rfl, hte, hwd⟩ := Blk.end_at (re.mono (k2.trans (Kept.of_same s3)))
      refine ⟨_, rfl, te, _, _, _, rfl, rfl, hte, atI_nat (j := 0) rfl, rfl, _, rfl, ?_⟩
      have h1 : ¬ wd = "if" ∧ tk' = taken' := by
        cases b with
        | give _ _ => exact ⟨hwd, hrest⟩
        | go _ _ _ => exact ⟨hwd, hrest⟩
        | iff _ _ b1 b3 =>
          have : 1 + max b1.nest b3.nest ≤ 0 := hn
          omega
      rw [str_ne h1.1]
      refine iteF (q _ (b2.trans (But.of_same s3)) ?_)
      rw [← h1.2]
      exact s3 _ _ htk2
    | succ m =>
      have hrb : Room (m + 3) _ := hr.mono (by omega)
      have c_check_block := cb m (Nat.lt_succ_self _)
      refine ⟨_, PSs.nox (pss_cons (ps_asg (pv 1) (pg_tup rfl (pgs_cons (pg_name (i := 5) sc_check_block.nd rfl (Or.inl rfl)) (pgs_cons (pg_name (i := 6) sc_check_block.nd rfl (Or.inl rfl)) pgs_nil))))
      (pss_cons (ps_set (i := 7) sc_check_block.nd rfl (Or.inl rfl) (pe_callTy (call_dictD) rfl X.dict (by decide +kernel) (pa_cons (pv 3) pa_nil)))
      (pss_cons (ps_for PassesOwn.never rfl (pi_tup (pv 5)) (pg_name (i := 8) sc_check_block.nd rfl (Or.inl rfl)) (pss_cons (ps_expr (pe_cal c_check_line hr2 pass0 (pa_cons (pv 0) (pa_cons (pv 8) (pa_cons (pv 2) (pa_cons (pv 7) pa_nil))))))
      (pss_cons (ps_if (pt_cmp (pc_din hu (pe_ix ix_tup (pv 8) pe_int (fun _ _ => rfl)) (pv 4))) (pss_one ps_never) pss_nil)
      (pss_cons (ps_dput hu (pv 4) (pe_ix ix_tup (pv 8) pe_int (fun _ _ => rfl)) pe_bl rfl)
      (pss_one (ps_dput hu (pv 7) (pe_ix ix_tup (pv 8) pe_int (fun _ _ => rfl)) pe_bl rfl))))))
      (pss_cons (ps_expr (pe_cal c_check_line hr2 pass0 (pa_cons (pv 0) (pa_cons (pv 6) (pa_cons (pv 2) (pa_cons (pv 7) pa_nil))))))
      (pss_one (ps_if (pt_cmpR op_eq (pe_ix ix_tup (pv 6) pe_int (fun _ _ => rfl)) pe_str (nomark _)) (pss_cons (ps_expr (pe_cal c_check_block hrb pass0 (pa_cons (pv 0) (pa_cons (pe_ix ix_tup (pv 6) pe_int (fun _ _ => rfl)) (pa_cons (pv 2) (pa_cons (pv 7) (pa_cons (pv 4) pa_nil)))))))
      (pss_one (ps_expr (pe_cal c_check_block hrb pass0 (pa_cons (pv 0) (pa_cons (pe_ix ix_tup (pv 6) pe_int (fun _ _ => rfl)) (pa_cons (pv 2) (pa_cons (pv 7) (pa_cons (pv 4) pa_nil))))))))) pss_nil)))))), ?_⟩
      refine front fun sa H2 x b2 nsa nst hsa htk2 => ?_
      have k2 : Kept R0 H H2 := Kept.of_butD b2 htk
      refine ⟨_, rfl, _, rfl, _, rfl, _, rfl, fv, ev, .en b, c, sa, cs, seen, rfl, re.mono k2, b2 _ _ hc nc, hsa, hle, fun H3 s3 => ?_⟩
      obtain ⟨te, wd, xs, rfl, hte, hwd⟩ := Blk.end_at (re.mono (k2.trans (Kept.of_same s3)))
      have b3 := b2.trans (But.of_same s3)
      have htk3 := s3 _ _ htk2
      have hsa3 := s3 _ _ hsa
      refine ⟨_, rfl, te, _, _, _, rfl, rfl, hte, atI_nat (j := 0) rfl, rfl, _, rfl, ?_⟩
      cases b with
      | give _ _ =>
        rw [str_ne (show ¬ wd = "if" from hwd)]
        refine iteF (q _ b3 ?_)
        rw [← show tk' = taken' from hrest]
        exact htk3
      | go _ _ _ =>
        rw [str_ne (show ¬ wd = "if" from hwd)]
        refine iteF (q _ b3 ?_)
        rw [← show tk' = taken' from hrest]
        exact htk3
      | iff ss0 a0 b1 b5 =>
        obtain ⟨rfl, x2, x3, e2, e3, r2, r3⟩ := hwd
        obtain ⟨t1, h1, h2⟩ := hrest
        have hn2 : 1 + max b1.nest b5.nest ≤ m + 1 := hn
        have a1 := checkBlk_le h1
        have a2 := checkBlk_le h2
        rw [str_eq]
        refine iteT ?_
        refine ⟨_, rfl, _, rfl, te, _, _, _, rfl, rfl, hte, atI_nat (j := 2) e2, _, rfl, _, rfl, _, rfl, fv, x2, b1, c, sa, tk, cs, seen, tk', t1, rfl, r2, b3 _ _ hc nc, hsa3, htk3, nc, nst, h1, by omega, by omega, by omega, fun H4 b4 htk4 => ?_⟩
        have k4 : Kept R0 H3 H4 := Kept.of_butD b4 htk3
        refine ⟨_, rfl, _, rfl, te, _, _, _, rfl, rfl, SqT.mono k4.tup hte, atI_nat (j := 3) e3, _, rfl, _, rfl, _, rfl, fv, x3, b5, c, sa, tk, cs, seen, t1, taken', rfl, r3.mono k4, b4 _ _ (b3 _ _ hc nc) nc, b4 _ _ hsa3 nst, htk4, nc, nst, h2, by omega, by omega, by omega, fun H5 b5' htk5 => ?_⟩
        exact q _ (b3.trans (b4.trans b5')) htk5
theorem ok_check_block (X : Fx mg) (c_check_line : Cal P w K mg base CX0 2 "check_line" ["function", "line", "counts", "scope"] (spCheckLine K)) (F : FnP K mg "check_block" "check_block" (top 49)) : ∀ n, Cal P w K mg base CX0 (n + 3) "check_block" ["function", "block", "counts", "scope", "taken"] (spCheckBlock K n) := by
  intro n
  induction n using Nat.strongRecOn with
  | ind n ih => exact ok_check_block_step X c_check_line ih F
/-! ### check -/
def spCheck (K : PySem.W.Frag) : Sp := fun vs H Q _ => ∃ (v : V) (p : List Fun), vs = [v] ∧ Rep K R0 H (progD p) v ∧ checkM p = true ∧ ∀ H', Same H H' → Q .non H'
theorem nodup_take {l : List Str} {i : Nat} {x : Str} (h : l.Nodup) (e : l[i]? = some x) : x ∉ l.take i := by
  intro z
  obtain ⟨j, hj, e2⟩ := List.mem_iff_getElem.mp z
  rw [List.length_take] at hj
  rw [List.getElem_take] at e2
  obtain ⟨hi, e3⟩ := List.getElem?_eq_some_iff.mp e
  have := (List.getElem_inj h).mp (e2.trans e3.symm)
  omega
theorem sc_check : FnScope ["program", "counts", "name", "params", "block", "scope", "param"] ["program"] (defScope (top 50)) := ⟨rfl, rfl, rfl, by decide +kernel, rfl, by decide +kernel, by decide +kernel⟩
theorem ok_check (X : Fx mg) (c_params_counted : Cal P w K mg base CX0 1 "params_counted" ["program"] (spCounted K)) (c_check_block : Cal P w K mg base CX0 11 "check_block" ["function", "block", "counts", "scope", "taken"] (spCheckBlock K 8)) (F : FnP K mg "check" "check" (top 50)) : Cal P w K mg base CX0 12 "check" ["program"] (spCheck K) := by
  refine F.cal sc_check (fun _ _ _ _ _ _ us hl => match us, hl with | [_], _ => rfl) (fun vs H Q E h => ?_) (fun f cdv A outer s H vs Q E hr h => ?_)
  · obtain ⟨v, p, rfl, _⟩ := h
    rfl
  · have hu := hu_of hr
    have hr1 : Room 1 _ := hr.mono (by decide)
    obtain ⟨v, p, rfl, rp, hok, q⟩ := h
    obtain ⟨t, xs, rfl, ht, hl⟩ := rp.row_inv
    unfold checkM at hok
    obtain ⟨ok0, ok1⟩ := Bool.and_eq_true_iff.mp hok
    cases ec : countsFrom p [] with
    | none =>
      rw [ec] at ok1
      cases ok1
    | some cs =>
      rw [ec] at ok1
      have ok2 : p.all (funOk cs) = true := ok1
      refine ⟨_, PSs.nox (pss_cons (ps_set (i := 1) sc_check.nd rfl (Or.inl rfl) (pe_cal c_params_counted hr1 pass0 (pa_cons (pv 0) pa_nil)))
      (pss_one (ps_for PassesOwn.never rfl (pi_tup (pv 0)) (pg_tup rfl (pgs_cons (pg_name (i := 2) sc_check.nd rfl (Or.inl rfl)) (pgs_cons (pg_name (i := 3) sc_check.nd rfl (Or.inl rfl)) (pgs_cons (pg_name (i := 4) sc_check.nd rfl (Or.inl rfl)) pgs_nil)))) (pss_cons (ps_set (i := 5) sc_check.nd rfl (Or.inl rfl) pe_dnewK)
      (pss_cons (ps_for PassesOwn.never rfl (pi_tup (pv 3)) (pg_name (i := 6) sc_check.nd rfl (Or.inl rfl)) (pss_cons (ps_if (pt_cmp (pc_din hu (pv 6) (pv 5))) (pss_one ps_never) pss_nil)
      (pss_one (ps_dput hu (pv 5) (pv 6) pe_bl rfl))))
      (pss_one (ps_expr (pe_cal c_check_block hr pass0 (pa_cons (pv 2) (pa_cons (pv 4) (pa_cons (pv 1) (pa_cons (pv 5) (pa_cons (pe_callTy (call_dictD) rfl X.dict (by decide +kernel) (pa_cons (pv 5) pa_nil)) pa_nil))))))))))))), ?_⟩
      refine ⟨_, rfl, _, p, cs, rfl, rp, of_decide_eq_true ok0, ec, fun cd H1 s1 ncd hcd => ?_⟩
      refine ⟨_, rfl, t, rfl, ⟨_, seqT s1 ht⟩, for_tup (K := K) (a := t) (xs := xs) (fun i σ H2 => ∃ a b c d e : Option V, σ = [some (.ref t), some (.ref cd), a, b, c, d, e] ∧ Same H1 H2) ⟨none, none, none, none, none, rfl, Same.refl _⟩ (fun i σ H2 _ ⟨_, _, _, _, _, _, s2⟩ => seqT (s1.trans s2) ht) ?_ ?_⟩
      · rintro i x σ H2 hi ⟨a, b, c, d, e, rfl, s2⟩
        obtain ⟨fd, hf, rf⟩ := hl.get' hi
        rw [List.getElem?_map] at hf
        obtain ⟨fn, hfn, rfl⟩ := Option.map_eq_some_iff.mp hf
        have okf := List.all_eq_true.mp ok2 fn (List.mem_of_getElem? hfn)
        unfold funOk at okf
        obtain ⟨okn, okf⟩ := Bool.and_eq_true_iff.mp okf
        obtain ⟨okl, okf⟩ := Bool.and_eq_true_iff.mp okf
        obtain ⟨okb, okd⟩ := Bool.and_eq_true_iff.mp okf
        have nd := of_decide_eq_true okn
        have hpl := of_decide_eq_true okl
        have hnest := of_decide_eq_true okd
        cases et : checkBlk cs fn.blk fn.params fn.params with
        | none =>
          rw [et] at okb
          cases okb
        | some tk' =>
          rw [et] at okb
          have htk : tk'.length ≤ 500 := of_decide_eq_true okb
          obtain ⟨tf, ys, rfl, htf, hlf⟩ := (rf.same (s1.trans s2)).row_inv
          obtain ⟨x1, x2, x3, rfl, h1, h2, h3⟩ := hlf.three
          cases h1.word_inv
          obtain ⟨tp, ps, rfl, htp, hlp⟩ := h2.row_inv
          refine ⟨tf, _, rfl, htf, rfl, ?_⟩
          refine ⟨_, _, rfl, _, _, rfl, _, _, rfl, rfl, ?_⟩
          intro sc nsc
          have s3 : Same H2 (upd H2 sc (.dK [])) := Same.new nsc
          refine ⟨_, rfl, tp, rfl, ⟨_, seqT s3 htp⟩, for_tup (K := K) (a := tp) (xs := ps) (fun j σ H4 => ∃ e : Option V, σ = [some (.ref t), some (.ref cd), some (.str fn.name), some (.ref tp), some x3, some (.ref sc), e] ∧ Same H2 H4 ∧ H4 sc = some (.dK (nmV (fn.params.take j)))) ⟨e, rfl, s3, upd_same⟩ (fun j σ H4 _ ⟨_, _, s4, _⟩ => seqT s4 htp) ?_ ?_⟩
          · rintro j y σ H4 hj ⟨e', rfl, s4, hsc⟩
            obtain ⟨pd, hpd, rpd⟩ := hlp.get' hj
            rw [List.getElem?_map] at hpd
            obtain ⟨pn, hpn, rfl⟩ := Option.map_eq_some_iff.mp hpd
            cases rpd.word_inv
            have new := nodup_take nd hpn
            refine ⟨_, rfl, _, rfl, sc, _, rfl, DGet.k (k := Sum.inr pn) hsc, _, rfl, ?_⟩
            rw [nmV_val, decide_eq_false new]
            refine iteF ⟨_, rfl, _, rfl, sc, _, rfl, DPut.k (k := Sum.inr pn) hsc (dk_small ?_), ?_⟩
            · unfold nmV
              rw [List.length_map, List.length_take]
              omega
            · refine ⟨some (.str pn), rfl, grow s4 nsc, ?_⟩
              rw [upd_same, nmV_put new, List.take_succ, hpn]
              rfl
          · rintro σ H4 ⟨e', rfl, s4, hsc⟩
            have ep : fn.params.take ps.length = fn.params := by rw [hlp.len, List.length_map, List.take_length]
            rw [ep] at hsc
            refine ⟨_, rfl, _, rfl, _, rfl, _, rfl, _, rfl, sc, _, rfl, Rd.of hsc, fun d2 nd2 => ?_⟩
            have s5 : Same H4 (upd H4 d2 (.dK (nmV fn.params))) := Same.new nd2
            have s25 := s4.trans s5
            have ncd2 : cd ≠ d2 := by
              rintro rfl
              have := s4 _ _ (s2 _ _ hcd)
              rw [nd2] at this
              cases this
            have nsc2 : sc ≠ d2 := by
              rintro rfl
              rw [hsc] at nd2
              cases nd2
            refine ⟨.str fn.name, x3, fn.blk, cd, sc, d2, cs, fn.params, fn.params, tk', rfl, h3.same s25, s25 _ _ (s2 _ _ hcd), s5 _ _ hsc, upd_same, ncd2, nsc2, et, hnest, Nat.le_refl _, htk, fun H6 b6 _ => ?_⟩
            refine ⟨some (.str fn.name), some (.ref tp), some x3, some (.ref sc), e', rfl, fun b o eb => b6 b o ?_ ?_⟩
            · exact s25 _ _ (s2 _ _ eb)
            · rintro rfl
              have := s4 _ _ (s2 _ _ eb)
              rw [nd2] at this
              cases this
      · rintro σ H2 ⟨a, b, c, d, e, rfl, s2⟩
        exact q _ (s1.trans s2)
end
end Fk
set_option maxHeartbeats 4000000
/-! ## read_function, read -/
namespace Fk
open PySem PySem.Spec PyProof.Rows L2 TL
theorem blockM_some {n : Nat} {rs r' : List (List Str)} {b : Blk} (h : blockM n rs = some (b, r')) : ∃ ss e r, stepsM rs = some (ss, e, r) ∧ endM (blkAt n) ss r e = some (b, r') := by
  rw [blockM_eq] at h
  cases es : stepsM rs with
  | none =>
    rw [es] at h
    cases h
  | some t =>
    obtain ⟨ss, e, r⟩ := t
    rw [es] at h
    exact ⟨ss, e, r, rfl, h⟩
theorem blockM_nest : ∀ {n : Nat} {rs r' : List (List Str)} {b : Blk}, blockM n rs = some (b, r') → b.nest ≤ n := by
  intro n
  induction n with
  | zero =>
    intro rs r' b h
    obtain ⟨ss, e, r, _, h2⟩ := blockM_some h
    rcases endM_some h2 with ⟨f, as, as', _, _, _, rfl, _⟩ | ⟨x, a, _, _, rfl, _⟩ | ⟨x, a, c, d, r1, _, _, h3, _, rfl⟩
    · exact Nat.le_refl _
    · exact Nat.le_refl _
    · cases h3
  | succ n ih =>
    intro rs r' b h
    obtain ⟨ss, e, r, _, h2⟩ := blockM_some h
    rcases endM_some h2 with ⟨f, as, as', _, _, _, rfl, _⟩ | ⟨x, a, _, _, rfl, _⟩ | ⟨x, a, c, d, r1, _, _, h3, h4, rfl⟩
    · exact Nat.zero_le _
    · exact Nat.zero_le _
    · have h5 := ih (show blockM n r = some (c, [("else" : Str)] :: r1) from h3)
      have h6 := ih (show blockM n r1 = some (d, [("end" : Str)] :: r') from h4)
      show 1 + max c.nest d.nest ≤ n + 1
      omega
theorem functionM_some {rs r' : List (List Str)} {f : Fun} (h : functionM rs = some (f, r')) : ∃ n ps r b, rs = (("fun" : Str) :: n :: ps) :: r ∧ ps.length ≤ 6 ∧ namesM (n :: ps) = true ∧ blockM 8 r = some (b, r') ∧ b.lines ≤ 60 ∧ f = ⟨n, ps, b⟩ := by
  unfold functionM at h
  split at h
  · rename_i k n ps r
    by_cases c : k = "fun" ∧ ps.length ≤ 6 ∧ namesM (n :: ps) = true
    · rw [if_pos c] at h
      obtain ⟨rfl, c2, c3⟩ := c
      cases e : blockM 8 r with
      | none =>
        rw [e] at h
        cases h
      | some t =>
        obtain ⟨b, r1⟩ := t
        rw [e] at h
        have h2 : (if b.lines ≤ 60 then some ((⟨n, ps, b⟩ : Fun), r1) else none) = some (f, r') := h
        by_cases c4 : b.lines ≤ 60
        · rw [if_pos c4] at h2
          cases h2
          exact ⟨n, ps, r, b, rfl, c2, c3, e, c4, rfl⟩
        · rw [if_neg c4] at h2
          cases h2
    · rw [if_neg c] at h
      cases h
  · cases h
theorem namesM_mem : ∀ {l : List Str} {x : Str}, namesM l = true → x ∈ l → isNameM x = true
  | y :: r, x, h, m => by
    obtain ⟨h1, h2⟩ := Bool.and_eq_true_iff.mp (show (isNameM y && namesM r) = true from h)
    rcases List.mem_cons.mp m with e | e
    · rw [e]
      exact h1
    · exact namesM_mem h2 e
theorem words_rep {K : PySem.W.Frag} {R : Addr → Prop} {H : Hp} : ∀ l : List Str, RepL K R H (l.map .word) (l.map V.str)
  | [] => .nil
  | x :: r => .cons (.word x) (words_rep r)
section
variable {P : Program} {w : World} {K : PySem.W.Frag} {mg : Str → Option Value} {base : Heap} {CR : Addr}
def spReadFunction (K : PySem.W.Frag) (CR : Addr) : Sp := fun vs H Q _ => ∃ (p lr : Addr) (rs r : List (List Str)) (f : Fun), vs = [.ref p] ∧ RowsR CR H p lr rs ∧ functionM rs = some (f, r) ∧ BlkTo K CR p lr f.d r H Q
theorem sc_read_function : FnScope ["rows", "words", "names", "block", "word"] ["rows"] (defScope (top 79)) := ⟨rfl, rfl, rfl, by decide +kernel, rfl, by decide +kernel, by decide +kernel⟩
theorem ok_read_function (X : Fx mg) (T : RowC K CR) (m_words : MeCal P w K mg base CX0 2 CR "words" ["self"] (spWords CR)) (c_name_of : Cal P w K mg base CX0 3 "name_of" ["word"] spNameOf) (c_read_block : Cal P w K mg base CX0 36 "read_block" ["rows", "depth"] (spReadBlock K CR 8)) (c_lines_of : Cal P w K mg base CX0 9 "lines_of" ["block"] (spLinesOf K 8))
    (F : FnP K mg "read_function" "read_function" (top 79)) : Cal P w K mg base CX0 37 "read_function" ["rows"] (spReadFunction K CR) := by
  refine F.cal sc_read_function (fun _ _ _ _ _ _ us hl => match us, hl with | [_], _ => rfl) (fun vs H Q E h => ?_) (fun f cdv A outer s H vs Q E hr h => ?_)
  · obtain ⟨p, lr, rs, r, fn, rfl, _⟩ := h
    rfl
  · obtain ⟨p, lr, rs, r', fn, rfl, hR, hf, q⟩ := h
    have hr2 : Room 2 _ := hr.mono (by decide)
    have hr3 : Room 3 _ := hr.mono (by decide)
    have hr9 : Room 9 _ := hr.mono (by decide)
    obtain ⟨n, ps, r, b, rfl, hps, hnm, hb, hbl, rfl⟩ := functionM_some hf
    refine ⟨_, PSs.nox (pss_cons (ps_set (i := 1) sc_read_function.nd rfl (Or.inl rfl) (pe_mcal0 m_words T.cl hr2 pass0 (pv 0)))
      (pss_cons (ps_if (PW.pt (pw_or (pt_cmpR op_ne (pe_ix ix_list (pv 1) pe_int (fun _ _ => rfl)) pe_str (nomark _)) (pw_or1 (pt_not (pt_chain op_le op_le pe_int (pe_callB (call_len_seq) rfl X.len (by decide +kernel) (pa_cons (pv 1) pa_nil)) (pe_op op_add pe_int (pe_gint X.MOST_PARAMS))))))) (pss_one ps_never) pss_nil)
      (pss_cons (ps_setLc (i := 2) (own := [("word", 4)]) (g := gName 4) (tt := tYes) rfl sc_read_function.nd rfl rfl (sw_true rfl rfl rfl (by decide +kernel)) (pi_list (pe_slice sl_list (pv 1) (po_some pe_int) po_none)) (blkOk_by (N := ["rows", "words", "names", "block", "word"]) (sc := defScope (top 79)) (by decide +kernel)) (fun _ _ _ _ _ => pg_name (i := 4) sc_read_function.nd rfl (Or.inl rfl)) (fun _ _ _ _ _ => pts_nil) (fun _ _ _ _ _ => (pe_cal c_name_of hr3 pass0 (pa_cons (pv 4) pa_nil))))
      (pss_cons (ps_set (i := 3) sc_read_function.nd rfl (Or.inl rfl) (pe_cal c_read_block hr pass0 (pa_cons (pv 0) (pa_cons pe_int pa_nil))))
      (pss_cons (ps_if (pt_cmpR op_gt (pe_callB (call_len_seq) rfl X.len (by decide +kernel) (pa_cons (pe_cal c_lines_of hr9 pass0 (pa_cons (pv 3) pa_nil)) pa_nil)) (pe_gint X.MOST_LINES) (nomark _)) (pss_one ps_never) pss_nil)
      (pss_one (ps_ret (pe_tup (pa_cons (pe_ix ix_list (pv 2) pe_int (fun _ _ => rfl)) (pa_cons (pe_tupleOf rfl X.tuple (pe_slice sl_list (pv 2) (po_some pe_int) po_none)) (pa_cons (pv 3) pa_nil))))))))))), ?_⟩
    obtain ⟨dx, k, wss, hp, hx⟩ := id hR
    refine ⟨_, rfl, p, dx, _, rfl, hp, rw_no _ _ (by decide +kernel) (by decide +kernel), p, lr, _, r, rfl, hR, fun l H1 nl b1 hl hR1 => ?_⟩
    refine ⟨_, rfl, l, _, _, _, rfl, rfl, SqL.of hl, atI_nat (j := 0) rfl, rfl, _, rfl, ?_⟩
    refine iteNS rfl ?_
    have elen : (((("fun" : Str) :: n :: ps).map V.str).length : Int) = (ps.length : Int) + 2 := by rw [List.length_map]; simp only [List.length_cons]; omega
    refine ⟨_, rfl, _, _, rfl, .inl (SqL.of hl), _, _, rfl, rfl, _, rfl, ?_⟩
    rw [elen, decide_eq_true (by omega : (2 : Int) ≤ (ps.length : Int) + 2)]
    refine iteT ⟨_, _, rfl, rfl, _, _, rfl, rfl, _, rfl, ?_⟩
    rw [decide_eq_true (by omega : (ps.length : Int) + 2 ≤ 2 + 6)]
    refine iteF ?_
    refine ⟨_, rfl, ⟨_, rfl, ?_⟩⟩
    unfold tNoPart
    refine ⟨l, _, rfl, SqL.of hl, fun p1 np1 => ?_⟩
    have ecut : cutV ((("fun" : Str) :: n :: ps).map V.str) (some 1) none = (n :: ps).map V.str := cut_from4 (j := 1) (i := 1) rfl (by rw [List.length_map]; show 1 ≤ ps.length + 2; omega)
    rw [ecut]
    have hp1 : upd H1 p1 (.lst ((n :: ps).map V.str)) p1 = some (.lst ((n :: ps).map V.str)) := upd_same
    refine ⟨p1, rfl, ⟨_, SqL.of hp1⟩, fun Dl nD => lc_list (K := K) (a := p1) (xs := (n :: ps).map V.str) (fun i H' => Same H1 H' ∧ H' p1 = some (.lst ((n :: ps).map V.str)) ∧ H' Dl = some (.lst (((n :: ps).take i).map V.str))) ?_ (fun i H' _ ⟨_, z, _⟩ => SqL.of z) ?_ ?_⟩
    · refine ⟨(Same.new np1).trans (Same.new nD), ?_, upd_same⟩
      rw [upd_ne (ne_of_none hp1 nD)]
      exact hp1
    · rintro i x H2 hi ⟨s2, hp2, hD⟩
      rw [List.getElem?_map] at hi
      obtain ⟨nm, hnm2, rfl⟩ := Option.map_eq_some_iff.mp hi
      refine ⟨rfl, ?_⟩
      unfold tYes
      refine iteT ⟨_, rfl, nm, rfl, namesM_mem hnm (List.mem_of_getElem? hnm2), _, hD, ?_, ?_, ?_, ?_⟩
      · refine Nat.lt_of_lt_of_le (show _ < 1001 from ?_) (by decide)
        rw [List.length_map, List.length_take]
        simp only [List.length_cons]
        omega
      · intro c o e
        rw [upd_ne]
        · exact s2 _ _ e
        · rintro rfl
          rw [upd_ne (ne_of_none e np1)] at nD
          rw [nD] at e
          cases e
      · rw [upd_ne (ne_of_none hp1 nD)]
        exact hp2
      · rw [upd_same, List.take_succ, hnm2, List.map_append]
        rfl
    · rintro H2 ⟨s2, hp2, hD⟩
      have e : (n :: ps).take ((n :: ps).map V.str).length = n :: ps := by rw [List.length_map, List.take_length]
      rw [e] at hD
      have hR2 := hR1.of_same s2
      refine ⟨_, rfl, p, lr, r, r', b, rfl, hR2, hb, fun v H3 b3 hR3 rv => ?_⟩
      refine ⟨_, rfl, v, b, rfl, rv, blockM_nest hb, hbl, fun q4 H4 xs4 s4 hq4 hx4 => ?_⟩
      refine ⟨q4, _, rfl, .inr (SqT.of hq4), _, _, rfl, rfl, _, rfl, ?_⟩
      rw [hx4, decide_eq_false (by omega)]
      refine iteF ?_
      have hDp : Dl ≠ p := by
        obtain ⟨_, _, e2⟩ := hR2.at
        exact SqL.ne_ins hD e2
      have hD4 := s4 _ _ (b3 _ _ hD hDp)
      refine ⟨_, rfl, Dl, _, _, _, rfl, rfl, SqL.of hD4, atI_nat (j := 0) rfl, ?_⟩
      refine ⟨_, rfl, ⟨_, rfl, ?_⟩⟩
      refine ⟨Dl, _, rfl, SqL.of hD4, fun p5 np5 => ?_⟩
      have ecut2 : cutV ((n :: ps).map V.str) (some 1) none = ps.map V.str := cut_from4 (j := 1) (i := 1) rfl (by rw [List.length_map]; show 1 ≤ ps.length + 1; omega)
      rw [ecut2]
      refine .inl ⟨p5, _, rfl, SqL.of upd_same, fun p6 np6 => ⟨_, rfl, by show 3 ≤ sizeLine; decide, fun p7 np7 => ?_⟩⟩
      have s67 : Same H4 _ := (Same.new np5 (o := .lst (ps.map V.str))).trans ((Same.new np6 (o := .tup (ps.map V.str))).trans (Same.new np7 (o := .tup [.str n, .ref p6, v])))
      refine q _ _ (b1.trans ((But.of_same s2).trans (b3.trans (But.of_same (s4.trans s67))))) ((hR3.of_same s4).of_same s67) ?_
      refine .row (SqT.of upd_same) (.cons (.word _) (.cons (.row (seqT (Same.new np7) (SqT.of upd_same)) (words_rep ps)) (.cons (rv.same (s4.trans s67)) .nil)))
/-! ### read -/
def joinN (wss : List (List Str)) : Str := Txt.join newline (wss.map joinB)
def textOk (wss : List (List Str)) : Prop := wss ≠ [] ∧ wss.length ≤ 1000 ∧ (∀ ws ∈ wss, clean ws ∧ 10 ∉ tl (joinB ws)) ∧ (joinN wss).length ≤ 100000
def spRead (K : PySem.W.Frag) : Sp := fun vs H Q _ => ∃ (wss : List (List Str)) (n : Nat) (p : List Fun), vs = [.str (joinN wss)] ∧ textOk wss ∧ programM n wss = some p ∧ checkM p = true ∧ RepTo K (progD p) H Q
theorem split_joinN {wss : List (List Str)} (h : textOk wss) : Txt.split (joinN wss) newline = wss.map joinB := by
  refine split_join (y := newline) (s := 10) (S := []) (by decide +kernel) (by decide +kernel) ?_ ?_
  · intro z
    exact h.1 (List.map_eq_nil_iff.mp z)
  · intro x hx
    obtain ⟨ws, h1, rfl⟩ := List.mem_map.mp hx
    exact (h.2.2.1 ws h1).2
theorem programM_cons {n : Nat} {ws : List Str} {rs : List (List Str)} {p : List Fun} (h : programM n (ws :: rs) = some p) : ∃ m f r p', n = m + 1 ∧ functionM (ws :: rs) = some (f, r) ∧ programM m r = some p' ∧ p = f :: p' := by
  cases n with
  | zero => cases h
  | succ m =>
    have h2 : (match functionM (ws :: rs) with
      | some (f, r) => (programM m r).map (f :: ·)
      | none => none) = some p := h
    cases e : functionM (ws :: rs) with
    | none =>
      rw [e] at h2
      cases h2
    | some t =>
      obtain ⟨f, r⟩ := t
      rw [e] at h2
      obtain ⟨p', e1, e2⟩ := Option.map_eq_some_iff.mp h2
      exact ⟨m, f, r, p', rfl, rfl, e1, e2.symm⟩
theorem programM_nil {n : Nat} {p : List Fun} (h : programM n [] = some p) : p = [] := by
  cases n <;> cases h <;> rfl
theorem sc_read : FnScope ["text", "rows", "program"] ["text"] (defScope (top 80)) := ⟨rfl, rfl, rfl, by decide +kernel, rfl, by decide +kernel, by decide +kernel⟩
theorem ok_read (X : Fx mg) (T : RowC K CR) (c_Rows : MkCal P w K mg base CX0 1 "Rows" CR ["self", "text"] (spRowsInit CR)) (m_done : MeCal P w K mg base CX0 1 CR "done" ["self"] (spDone CR)) (c_read_function : Cal P w K mg base CX0 37 "read_function" ["rows"] (spReadFunction K CR)) (c_check : Cal P w K mg base CX0 12 "check" ["program"] (spCheck K))
    (F : FnP K mg "read" "read" (top 80)) : Cal P w K mg base CX0 38 "read" ["text"] (spRead K) := by
  refine F.cal sc_read (fun _ _ _ _ _ _ us hl => match us, hl with | [_], _ => rfl) (fun vs H Q E h => ?_) (fun f cdv A outer s H vs Q E hr h => ?_)
  · obtain ⟨wss, n, p, rfl, _⟩ := h
    rfl
  · obtain ⟨wss, n, pr, rfl, hT, hpr, hck, q⟩ := h
    have hr1 : Room 1 _ := hr.mono (by decide)
    have hr2 : Room 2 _ := hr.mono (by decide)
    have hr12 : Room 12 _ := hr.mono (by decide)
    have hlen : pr.length ≤ 200 := by
      unfold checkM at hck
      exact of_decide_eq_true (Bool.and_eq_true_iff.mp hck).1
    refine ⟨_, PSs.nox (pss_cons (ps_if (pt_not (pt_val (pe_callB (call_isiB "str") rfl X.isinstance (by decide +kernel) (pa_cons (pv 0) (pa_cons (pe_bltn (v := .ty "str") rfl X.str (by decide +kernel) rfl) pa_nil))))) (pss_one ps_never) pss_nil)
      (pss_cons (ps_set (i := 1) sc_read.nd rfl (Or.inl rfl) (pe_mk c_Rows hr2 pass0 (pa_cons (pv 0) pa_nil)))
      (pss_cons (ps_set (i := 2) sc_read.nd rfl (Or.inl rfl) (pe_lst pa_nil))
      (pss_cons (ps_while PassesOwn.never (pt_not (pt_val (pe_mcal0 m_done T.cl hr1 pass0 (pv 1)))) (pss_one (ps_expr (pe_bm PySem.F.plainAttrs_list PySem.F.slot_list_append PySem.F.type_list_append mt_append (pv 2) (pa_cons (pe_cal c_read_function hr pass0 (pa_cons (pv 1) pa_nil)) pa_nil)))))
      (pss_cons (ps_if (pt_cmpR op_gt (pe_callB (call_len_seq) rfl X.len (by decide +kernel) (pa_cons (pv 2) pa_nil)) (pe_gint X.MOST_FUNCTIONS) (nomark _)) (pss_one ps_never) pss_nil)
      (pss_cons (ps_expr (pe_cal c_check hr12 pass0 (pa_cons (pe_tupleOf rfl X.tuple (pv 2)) pa_nil)))
      (pss_one (ps_ret (pe_tupleOf rfl X.tuple (pv 2)))))))))), ?_⟩
    refine ⟨_, rfl, _, "str", true, rfl, .base (.str _), by decide +kernel, _, rfl, iteF ?_⟩
    refine ⟨_, rfl, fun p dx np nd ne => ?_⟩
    refine ⟨p, dx, _, rfl, upd_same, hT.2.2.2, fun l nl => ⟨rfl, ?_⟩⟩
    rw [split_joinN hT]
    have nlp : l ≠ p := by
      rintro rfl
      rw [upd_same] at nl
      cases nl
    have nld : l ≠ dx := by
      rintro rfl
      rw [upd_ne nlp, upd_same] at nl
      cases nl
    have nlH : H l = none := by
      rw [upd_ne nlp, upd_ne nld] at nl
      exact nl
    have s0 : Same H (upd (upd (upd (upd H dx (.own p)) p (.ins CR dx [])) l (.lst ((wss.map joinB).map V.str))) p (.ins CR dx (rwF l 0))) := fun b o e => by
      rw [upd_ne (ne_of_none e np), upd_ne (ne_of_none e nlH), upd_ne (ne_of_none e np), upd_ne (ne_of_none e nd)]
      exact e
    have hR : RowsR CR (upd (upd (upd (upd H dx (.own p)) p (.ins CR dx [])) l (.lst ((wss.map joinB).map V.str))) p (.ins CR dx (rwF l 0))) p l wss := ⟨dx, 0, wss, upd_same, by rw [upd_ne nlp, upd_same], Nat.zero_le _, rfl, hT.2.1, fun ws h => (hT.2.2.1 ws h).1⟩
    generalize upd (upd (upd (upd H dx (.own p)) p (.ins CR dx [])) l (.lst ((wss.map joinB).map V.str))) p (.ins CR dx (rwF l 0)) = H1 at s0 hR ⊢
    refine ⟨by show 0 ≤ sizeLine; decide, fun L nL => ?_⟩
    have hR2 := hR.of_same (Same.new nL (o := .lst []))
    have nLp : L ≠ p := by
      obtain ⟨_, _, e⟩ := hR2.at
      exact SqL.ne_ins upd_same e
    have nLl : L ≠ l := by
      rintro rfl
      obtain ⟨_, _, _, _, z, _⟩ := hR
      rw [nL] at z
      cases z
    have nLH : H L = none := s0.free nL
    refine ⟨fun m σ H2 => ∃ (rs : List (List Str)) (done ps : List Fun) (acc : List V), σ = [some (.str (joinN wss)), some (.ref p), some (.ref L)] ∧ RowsR CR H2 p l rs ∧ programM m rs = some ps ∧ done ++ ps = pr ∧ H2 L = some (.lst acc) ∧ RepL K R0 H2 (done.map Fun.d) acc ∧ (∀ b o, H b = some o → H2 b = some o), ⟨n, wss, [], pr, [], rfl, hR2, hpr, rfl, upd_same, .nil, s0.trans (Same.new nL)⟩, ?_⟩
    rintro m σ H2 ⟨rs, done, ps, acc, rfl, hR3, hps, hd, hL, hacc, bt⟩
    obtain ⟨dx3, k3, wss3, hp3, hx3⟩ := id hR3
    refine ⟨_, rfl, p, dx3, _, rfl, hp3, rw_no _ _ (by decide +kernel) (by decide +kernel), p, l, rs, rfl, hR3, _, rfl, ?_⟩
    cases rs with
    | cons ws rs =>
      obtain ⟨m', fn, r, ps', rfl, hfn, hps', rfl⟩ := programM_cons hps
      refine iteT ⟨fun σ' H' => ∃ (acc : List V), σ' = [some (.str (joinN wss)), some (.ref p), some (.ref L)] ∧ RowsR CR H' p l r ∧ H' L = some (.lst acc) ∧ RepL K R0 H' ((done ++ [fn]).map Fun.d) acc ∧ (∀ b o, H b = some o → H' b = some o), ?_, ?_⟩
      · rintro σ' H' ⟨acc', h1, h2, h3, h4, h5⟩
        exact ⟨m', Nat.lt_succ_self _, r, done ++ [fn], ps', acc', h1, h2, hps', by rw [List.append_assoc]; exact hd, h3, h4, h5⟩
      · refine ⟨_, rfl, .inl ⟨rfl, _, SqL.of hL⟩, _, rfl, p, l, _, r, fn, rfl, hR3, hfn, fun v H4 b4 hR4 rv => ?_⟩
        have hL4 := b4 _ _ hL nLp
        have k4 : Kept R0 H2 H4 := hR3.kept b4
        have hal : acc.length ≤ 200 := by
          rw [hacc.len, List.length_map]
          rw [← hd, List.length_append] at hlen
          omega
        refine ⟨L, acc, v, rfl, rfl, hL4, dk_small (by omega), acc ++ [v], rfl, hR4.upd nLp nLl, upd_same, ?_, fun b o e => ?_⟩
        · rw [List.map_append]
          exact ((hacc.mono k4).append (.cons rv .nil)).mono (Kept.lst hL4)
        · rw [upd_ne (ne_of_none e nLH)]
          exact b4 _ _ (bt _ _ e) (ne_of_none e np)
    | nil =>
      have := programM_nil hps
      subst this
      rw [List.append_nil] at hd
      subst hd
      refine iteF ?_
      refine ⟨_, rfl, _, _, rfl, .inl (SqL.of hL), _, _, rfl, rfl, _, rfl, ?_⟩
      have hal : acc.length ≤ 200 := by
        rw [hacc.len, List.length_map]
        exact hlen
      rw [decide_eq_false (by omega)]
      refine iteF ⟨_, rfl, .inl ⟨L, acc, rfl, SqL.of hL, fun p5 np5 => ?_⟩⟩
      have s5 : Same H2 (upd H2 p5 (.tup acc)) := Same.new np5
      refine ⟨_, done, rfl, .row (SqT.of upd_same) (hacc.same s5), hck, fun H6 s6 => ?_⟩
      refine ⟨_, rfl, .inl ⟨L, acc, rfl, SqL.of (s6 _ _ (s5 _ _ hL)), fun p7 np7 => ?_⟩⟩
      have s7 : Same H6 (upd H6 p7 (.tup acc)) := Same.new np7
      exact q _ _ (fun b o e => s7 _ _ (s6 _ _ (s5 _ _ (bt _ _ e)))) (.row (SqT.of upd_same) (((hacc.same s5).same s6).same s7))
end
end Fk
set_option maxHeartbeats 4000000
/-! ## read_block for all depths; the interpreter -/
namespace Fk
open PySem PySem.Spec PyProof.Rows L2 TL
def mainB : Blk := (.go [] "play" [.of "score", .of "jars"])
def playB : Blk := (.iff [.let_ "left" .many [.of "score"]] (.of "left")
    (.iff [.let_ "first" .head [.of "score"], .let_ "more" .rest [.of "score"], .let_ "do" .field [.of "first", .is "do"], .let_ "at" .field [.of "first", .is "at"], .let_ "one" .same [.of "do", .is "set"]] (.of "one")
    (.go [.let_ "n" .field [.of "first", .is "n"], .let_ "now" .put [.of "jars", .of "at", .of "n"]] "play" [.of "more", .of "now"])
    (.iff [.let_ "two" .same [.of "do", .is "loop"]] (.of "two")
    (.go [.call "done" "again" [.of "first", .of "jars"]] "play" [.of "more", .of "done"])
    (.iff [.let_ "three" .same [.of "do", .is "when"]] (.of "three")
    (.iff [.let_ "here" .item [.of "jars", .of "at"]] (.of "here")
    (.go [.let_ "body" .field [.of "first", .is "body"], .call "then" "play" [.of "body", .of "jars"]] "play" [.of "more", .of "then"])
    (.go [] "play" [.of "more", .of "jars"]))
    (.go [] "figure" [.of "first", .of "more", .of "jars"]))))
    (.give [] (.of "jars")))
def againB : Blk := (.iff [.let_ "at" .field [.of "first", .is "at"], .let_ "here" .item [.of "jars", .of "at"]] (.of "here")
    (.go [.let_ "body" .field [.of "first", .is "body"], .call "then" "play" [.of "body", .of "jars"]] "again" [.of "first", .of "then"])
    (.give [] (.of "jars")))
def figureB : Blk := (.iff [.let_ "do" .field [.of "first", .is "do"], .let_ "at" .field [.of "first", .is "at"], .let_ "from" .field [.of "first", .is "from"], .let_ "x" .item [.of "jars", .of "at"], .let_ "y" .item [.of "jars", .of "from"], .let_ "one" .same [.of "do", .is "add"]] (.of "one")
    (.go [.let_ "sum" .add [.of "x", .of "y"], .let_ "a" .put [.of "jars", .of "at", .of "sum"]] "play" [.of "more", .of "a"])
    (.iff [.let_ "two" .same [.of "do", .is "sub"]] (.of "two")
    (.go [.let_ "less" .sub [.of "x", .of "y"], .let_ "b" .put [.of "jars", .of "at", .of "less"]] "play" [.of "more", .of "b"])
    (.go [.let_ "times" .mul [.of "x", .of "y"], .let_ "c" .put [.of "jars", .of "at", .of "times"]] "play" [.of "more", .of "c"])))
def P0 : List Fun := [⟨"main", ["score", "jars"], mainB⟩, ⟨"play", ["score", "jars"], playB⟩, ⟨"again", ["first", "jars"], againB⟩, ⟨"figure", ["first", "more", "jars"], figureB⟩]
def mainW : List (List Str) := ([["fun", "main", "score", "jars"], ["go", "play", "score", "jars"]] : List (List Str))
def playW : List (List Str) := ([["fun", "play", "score", "jars"], ["left", "=", "many", "score"], ["if", "left"], ["first", "=", "head", "score"], ["more", "=", "rest", "score"], ["do", "=", "field", "first", "'do"], ["at", "=", "field", "first", "'at"], ["one", "=", "same", "do", "'set"]] : List (List Str)) ++ ([["if", "one"], ["n", "=", "field", "first", "'n"], ["now", "=", "put", "jars", "at", "n"], ["go", "play", "more", "now"], ["else"], ["two", "=", "same", "do", "'loop"], ["if", "two"], ["done", "=", "call", "again", "first", "jars"]] : List (List Str)) ++ ([["go", "play", "more", "done"], ["else"], ["three", "=", "same", "do", "'when"], ["if", "three"], ["here", "=", "item", "jars", "at"], ["if", "here"], ["body", "=", "field", "first", "'body"], ["then", "=", "call", "play", "body", "jars"]] : List (List Str)) ++ ([["go", "play", "more", "then"], ["else"], ["go", "play", "more", "jars"], ["end"], ["else"], ["go", "figure", "first", "more", "jars"], ["end"], ["end"]] : List (List Str)) ++ ([["end"], ["else"], ["give", "jars"], ["end"]] : List (List Str))
def againW : List (List Str) := ([["fun", "again", "first", "jars"], ["at", "=", "field", "first", "'at"], ["here", "=", "item", "jars", "at"], ["if", "here"], ["body", "=", "field", "first", "'body"], ["then", "=", "call", "play", "body", "jars"], ["go", "again", "first", "then"], ["else"]] : List (List Str)) ++ ([["give", "jars"], ["end"]] : List (List Str))
def figureW : List (List Str) := ([["fun", "figure", "first", "more", "jars"], ["do", "=", "field", "first", "'do"], ["at", "=", "field", "first", "'at"], ["from", "=", "field", "first", "'from"], ["x", "=", "item", "jars", "at"], ["y", "=", "item", "jars", "from"], ["one", "=", "same", "do", "'add"], ["if", "one"]] : List (List Str)) ++ ([["sum", "=", "add", "x", "y"], ["a", "=", "put", "jars", "at", "sum"], ["go", "play", "more", "a"], ["else"], ["two", "=", "same", "do", "'sub"], ["if", "two"], ["less", "=", "sub", "x", "y"], ["b", "=", "put", "jars", "at", "less"]] : List (List Str)) ++ ([["go", "play", "more", "b"], ["else"], ["times", "=", "mul", "x", "y"], ["c", "=", "put", "jars", "at", "times"], ["go", "play", "more", "c"], ["end"], ["end"]] : List (List Str))
def wss0 : List (List Str) := mainW ++ playW ++ againW ++ figureW
def mainL : List Str := (["fun main score jars", "go play score jars"] : List Str)
def playL : List Str := (["fun play score jars", "left = many score", "if left", "first = head score", "more = rest score", "do = field first 'do", "at = field first 'at", "one = same do 'set"] : List Str) ++ (["if one", "n = field first 'n", "now = put jars at n", "go play more now", "else", "two = same do 'loop", "if two", "done = call again first jars"] : List Str) ++ (["go play more done", "else", "three = same do 'when", "if three", "here = item jars at", "if here", "body = field first 'body", "then = call play body jars"] : List Str) ++ (["go play more then", "else", "go play more jars", "end", "else", "go figure first more jars", "end", "end"] : List Str) ++ (["end", "else", "give jars", "end"] : List Str)
def againL : List Str := (["fun again first jars", "at = field first 'at", "here = item jars at", "if here", "body = field first 'body", "then = call play body jars", "go again first then", "else"] : List Str) ++ (["give jars", "end"] : List Str)
def figureL : List Str := (["fun figure first more jars", "do = field first 'do", "at = field first 'at", "from = field first 'from", "x = item jars at", "y = item jars from", "one = same do 'add", "if one"] : List Str) ++ (["sum = add x y", "a = put jars at sum", "go play more a", "else", "two = same do 'sub", "if two", "less = sub x y", "b = put jars at less"] : List Str) ++ (["go play more b", "else", "times = mul x y", "c = put jars at times", "go play more c", "end", "end"] : List Str)

theorem joinW : wss0.map joinB = mainL ++ playL ++ againL ++ figureL := by decide +kernel
theorem text0 : textOk wss0 := by
  refine ⟨by decide +kernel, by decide +kernel, ?_, ?_⟩
  rotate_left
  · unfold joinN
    rw [join_eq, len_tl, tl_join, joinW]
    decide +kernel
  have h : ∀ ws ∈ wss0, (ws ≠ [] ∧ (∀ x ∈ ws, 32 ∉ tl x) ∧ (joinB ws).length ≤ 1000 ∧ ws.length ≤ 100) ∧ 10 ∉ tl (joinB ws) := by decide +kernel
  exact h
theorem prog0 : programM 5 wss0 = some P0 := by decide +kernel
theorem check0 : checkM P0 = true := by decide +kernel
section
variable {P : Program} {w : World} {K : PySem.W.Frag} {mg : Str → Option Value} {base : Heap} {CR : Addr} {cA : OpK → Addr}
theorem ok_read_block (X : Fx mg) (T : RowC K CR) (c_read_atom : Cal P w K mg base CX0 6 "read_atom" ["word"] (spReadAtom K)) (c_read_atoms : Cal P w K mg base CX0 7 "read_atoms" ["words"] (spReadAtoms K)) (c_name_of : Cal P w K mg base CX0 3 "name_of" ["word"] spNameOf) (c_is_word : Cal P w K mg base CX0 2 "is_word" ["text"] spIsWord)
    (m_words : MeCal P w K mg base CX0 2 CR "words" ["self"] (spWords CR)) (c_read_step : Cal P w K mg base CX0 8 "read_step" ["words"] (spReadStep K)) (F1 : FnP K mg "read_if" "read_if" (top 76)) (F2 : FnP K mg "read_end" "read_end" (top 77)) (F3 : FnP K mg "read_block" "read_block" (top 78)) :
    ∀ n, Cal P w K mg base CX0 (12 + 3 * n) "read_block" ["rows", "depth"] (spReadBlock K CR n)
  | 0 => (ok_read_block_step (n := 0) X T m_words c_read_step (ok_read_end (n := 0) X T c_read_atom c_read_atoms c_name_of c_is_word (ok_read_if (n := 0) X T c_read_atom m_words (fun m e => by cases e) F1) F2) F3).mono (by omega)
  | n + 1 => (ok_read_block_step (n := n + 1) X T m_words c_read_step (ok_read_end (n := n + 1) X T c_read_atom c_read_atoms c_name_of c_is_word (ok_read_if (n := n + 1) X T c_read_atom m_words (fun m e => by
      have e' := Nat.succ.inj e
      subst e'
      exact ok_read_block X T c_read_atom c_read_atoms c_name_of c_is_word m_words c_read_step F1 F2 F3 n) F1) F2) F3).mono (by omega)
/-- a new list of texts -/
def spLines (ls : List Str) : Sp := fun vs H Q _ => vs = [] ∧ ∀ p H', Same H H' → H' p = some (.lst (ls.map V.str)) → Q (.ref p) H'
theorem ext_ok {H H1 : Hp} {p q : Addr} {xs zs : List V} (np : H p = none) (s : Same H H1) (hp : H1 p = some (.lst xs)) (nq : H1 q = none) : Same H (upd (upd H1 q (.lst zs)) p (.lst (xs ++ zs))) ∧ upd H1 q (.lst zs) p = some (.lst xs) := by
  refine ⟨fun b u e => ?_, ?_⟩
  · rw [upd_ne (ne_of_none e np), upd_ne (ne_of_none (s _ _ e) nq)]
    exact s _ _ e
  · rw [upd_ne (ne_of_none hp nq)]
    exact hp
theorem sc_play_rows : FnScope ["rows"] [] (defScope (top 88)) := ⟨rfl, rfl, rfl, by decide +kernel, rfl, by decide +kernel, by decide +kernel⟩
theorem ok_play_rows (X : Fx mg) (F : FnP K mg "play_rows" "play_rows" (top 88)) : Cal P w K mg base CX0 1 "play_rows" [] (spLines playL) := by
  refine F.cal sc_play_rows (fun _ _ _ _ _ _ us hl => match us, hl with | [], _ => rfl) (fun vs H Q E h => ?_) (fun f cdv A outer s H vs Q E hr h => ?_)
  · obtain ⟨rfl, _⟩ := h
    rfl
  · obtain ⟨rfl, q⟩ := h
    refine ⟨_, PSs.nox (pss_cons (ps_set (i := 0) sc_play_rows.nd rfl (Or.inl rfl) (pe_lst (pa_cons pe_str (pa_cons pe_str (pa_cons pe_str (pa_cons pe_str (pa_cons pe_str pa_nil)))))))
      (pss_cons (ps_expr (pe_bm PySem.F.plainAttrs_list PySem.F.slot_list_extend PySem.F.type_list_extend mt_extend (pv 0) (pa_cons (pe_lst (pa_cons pe_str (pa_cons pe_str (pa_cons pe_str (pa_cons pe_str pa_nil))))) pa_nil)))
      (pss_cons (ps_expr (pe_bm PySem.F.plainAttrs_list PySem.F.slot_list_extend PySem.F.type_list_extend mt_extend (pv 0) (pa_cons (pe_lst (pa_cons pe_str (pa_cons pe_str (pa_cons pe_str (pa_cons pe_str pa_nil))))) pa_nil)))
      (pss_cons (ps_expr (pe_bm PySem.F.plainAttrs_list PySem.F.slot_list_extend PySem.F.type_list_extend mt_extend (pv 0) (pa_cons (pe_lst (pa_cons pe_str (pa_cons pe_str (pa_cons pe_str (pa_cons pe_str (pa_cons pe_str pa_nil)))))) pa_nil)))
      (pss_cons (ps_expr (pe_bm PySem.F.plainAttrs_list PySem.F.slot_list_extend PySem.F.type_list_extend mt_extend (pv 0) (pa_cons (pe_lst (pa_cons pe_str (pa_cons pe_str (pa_cons pe_str (pa_cons pe_str pa_nil))))) pa_nil)))
      (pss_cons (ps_expr (pe_bm PySem.F.plainAttrs_list PySem.F.slot_list_extend PySem.F.type_list_extend mt_extend (pv 0) (pa_cons (pe_lst (pa_cons pe_str (pa_cons pe_str (pa_cons pe_str pa_nil)))) pa_nil)))
      (pss_cons (ps_expr (pe_bm PySem.F.plainAttrs_list PySem.F.slot_list_extend PySem.F.type_list_extend mt_extend (pv 0) (pa_cons (pe_lst (pa_cons pe_str (pa_cons pe_str (pa_cons pe_str (pa_cons pe_str (pa_cons pe_str pa_nil)))))) pa_nil)))
      (pss_cons (ps_expr (pe_bm PySem.F.plainAttrs_list PySem.F.slot_list_extend PySem.F.type_list_extend mt_extend (pv 0) (pa_cons (pe_lst (pa_cons pe_str (pa_cons pe_str (pa_cons pe_str (pa_cons pe_str (pa_cons pe_str (pa_cons pe_str pa_nil))))))) pa_nil)))
      (pss_one (ps_ret (pv 0))))))))))), ?_⟩
    refine ⟨by decide, fun p np => ?_⟩
    refine ⟨_, rfl, .inl ⟨rfl, _, SqL.of upd_same⟩, by decide, fun q0 nq0 => ?_⟩
    have x0 := ext_ok (zs := [.str "do = field first 'do", .str "at = field first 'at", .str "one = same do 'set", .str "if one"]) np (Same.new np) upd_same nq0
    refine ⟨p, q0, _, _, rfl, rfl, x0.2, upd_same, by decide, ?_⟩
    refine ⟨_, rfl, .inl ⟨rfl, _, SqL.of upd_same⟩, by decide, fun q1 nq1 => ?_⟩
    have x1 := ext_ok (zs := [.str "n = field first 'n", .str "now = put jars at n", .str "go play more now", .str "else"]) np x0.1 upd_same nq1
    refine ⟨p, q1, _, _, rfl, rfl, x1.2, upd_same, by decide, ?_⟩
    refine ⟨_, rfl, .inl ⟨rfl, _, SqL.of upd_same⟩, by decide, fun q2 nq2 => ?_⟩
    have x2 := ext_ok (zs := [.str "two = same do 'loop", .str "if two", .str "done = call again first jars", .str "go play more done", .str "else"]) np x1.1 upd_same nq2
    refine ⟨p, q2, _, _, rfl, rfl, x2.2, upd_same, by decide, ?_⟩
    refine ⟨_, rfl, .inl ⟨rfl, _, SqL.of upd_same⟩, by decide, fun q3 nq3 => ?_⟩
    have x3 := ext_ok (zs := [.str "three = same do 'when", .str "if three", .str "here = item jars at", .str "if here"]) np x2.1 upd_same nq3
    refine ⟨p, q3, _, _, rfl, rfl, x3.2, upd_same, by decide, ?_⟩
    refine ⟨_, rfl, .inl ⟨rfl, _, SqL.of upd_same⟩, by decide, fun q4 nq4 => ?_⟩
    have x4 := ext_ok (zs := [.str "body = field first 'body", .str "then = call play body jars", .str "go play more then"]) np x3.1 upd_same nq4
    refine ⟨p, q4, _, _, rfl, rfl, x4.2, upd_same, by decide, ?_⟩
    refine ⟨_, rfl, .inl ⟨rfl, _, SqL.of upd_same⟩, by decide, fun q5 nq5 => ?_⟩
    have x5 := ext_ok (zs := [.str "else", .str "go play more jars", .str "end", .str "else", .str "go figure first more jars"]) np x4.1 upd_same nq5
    refine ⟨p, q5, _, _, rfl, rfl, x5.2, upd_same, by decide, ?_⟩
    refine ⟨_, rfl, .inl ⟨rfl, _, SqL.of upd_same⟩, by decide, fun q6 nq6 => ?_⟩
    have x6 := ext_ok (zs := [.str "end", .str "end", .str "end", .str "else", .str "give jars", .str "end"]) np x5.1 upd_same nq6
    refine ⟨p, q6, _, _, rfl, rfl, x6.2, upd_same, by decide, ?_⟩
    refine ⟨_, rfl, ?_⟩
    exact q p _ x6.1 upd_same
theorem sc_again_rows : FnScope ["rows"] [] (defScope (top 89)) := ⟨rfl, rfl, rfl, by decide +kernel, rfl, by decide +kernel, by decide +kernel⟩
theorem ok_again_rows (X : Fx mg) (F : FnP K mg "again_rows" "again_rows" (top 89)) : Cal P w K mg base CX0 1 "again_rows" [] (spLines againL) := by
  refine F.cal sc_again_rows (fun _ _ _ _ _ _ us hl => match us, hl with | [], _ => rfl) (fun vs H Q E h => ?_) (fun f cdv A outer s H vs Q E hr h => ?_)
  · obtain ⟨rfl, _⟩ := h
    rfl
  · obtain ⟨rfl, q⟩ := h
    refine ⟨_, PSs.nox (pss_cons (ps_set (i := 0) sc_again_rows.nd rfl (Or.inl rfl) (pe_lst (pa_cons pe_str (pa_cons pe_str (pa_cons pe_str (pa_cons pe_str pa_nil))))))
      (pss_cons (ps_expr (pe_bm PySem.F.plainAttrs_list PySem.F.slot_list_extend PySem.F.type_list_extend mt_extend (pv 0) (pa_cons (pe_lst (pa_cons pe_str (pa_cons pe_str (pa_cons pe_str pa_nil)))) pa_nil)))
      (pss_cons (ps_expr (pe_bm PySem.F.plainAttrs_list PySem.F.slot_list_extend PySem.F.type_list_extend mt_extend (pv 0) (pa_cons (pe_lst (pa_cons pe_str (pa_cons pe_str (pa_cons pe_str pa_nil)))) pa_nil)))
      (pss_one (ps_ret (pv 0)))))), ?_⟩
    refine ⟨by decide, fun p np => ?_⟩
    refine ⟨_, rfl, .inl ⟨rfl, _, SqL.of upd_same⟩, by decide, fun q0 nq0 => ?_⟩
    have x0 := ext_ok (zs := [.str "body = field first 'body", .str "then = call play body jars", .str "go again first then"]) np (Same.new np) upd_same nq0
    refine ⟨p, q0, _, _, rfl, rfl, x0.2, upd_same, by decide, ?_⟩
    refine ⟨_, rfl, .inl ⟨rfl, _, SqL.of upd_same⟩, by decide, fun q1 nq1 => ?_⟩
    have x1 := ext_ok (zs := [.str "else", .str "give jars", .str "end"]) np x0.1 upd_same nq1
    refine ⟨p, q1, _, _, rfl, rfl, x1.2, upd_same, by decide, ?_⟩
    refine ⟨_, rfl, ?_⟩
    exact q p _ x1.1 upd_same
theorem sc_figure_rows : FnScope ["rows"] [] (defScope (top 90)) := ⟨rfl, rfl, rfl, by decide +kernel, rfl, by decide +kernel, by decide +kernel⟩
theorem ok_figure_rows (X : Fx mg) (F : FnP K mg "figure_rows" "figure_rows" (top 90)) : Cal P w K mg base CX0 1 "figure_rows" [] (spLines figureL) := by
  refine F.cal sc_figure_rows (fun _ _ _ _ _ _ us hl => match us, hl with | [], _ => rfl) (fun vs H Q E h => ?_) (fun f cdv A outer s H vs Q E hr h => ?_)
  · obtain ⟨rfl, _⟩ := h
    rfl
  · obtain ⟨rfl, q⟩ := h
    refine ⟨_, PSs.nox (pss_cons (ps_set (i := 0) sc_figure_rows.nd rfl (Or.inl rfl) (pe_lst (pa_cons pe_str (pa_cons pe_str (pa_cons pe_str (pa_cons pe_str pa_nil))))))
      (pss_cons (ps_expr (pe_bm PySem.F.plainAttrs_list PySem.F.slot_list_extend PySem.F.type_list_extend mt_extend (pv 0) (pa_cons (pe_lst (pa_cons pe_str (pa_cons pe_str (pa_cons pe_str (pa_cons pe_str pa_nil))))) pa_nil)))
      (pss_cons (ps_expr (pe_bm PySem.F.plainAttrs_list PySem.F.slot_list_extend PySem.F.type_list_extend mt_extend (pv 0) (pa_cons (pe_lst (pa_cons pe_str (pa_cons pe_str (pa_cons pe_str (pa_cons pe_str pa_nil))))) pa_nil)))
      (pss_cons (ps_expr (pe_bm PySem.F.plainAttrs_list PySem.F.slot_list_extend PySem.F.type_list_extend mt_extend (pv 0) (pa_cons (pe_lst (pa_cons pe_str (pa_cons pe_str (pa_cons pe_str (pa_cons pe_str (pa_cons pe_str (pa_cons pe_str pa_nil))))))) pa_nil)))
      (pss_cons (ps_expr (pe_bm PySem.F.plainAttrs_list PySem.F.slot_list_extend PySem.F.type_list_extend mt_extend (pv 0) (pa_cons (pe_lst (pa_cons pe_str (pa_cons pe_str (pa_cons pe_str (pa_cons pe_str (pa_cons pe_str pa_nil)))))) pa_nil)))
      (pss_one (ps_ret (pv 0)))))))), ?_⟩
    refine ⟨by decide, fun p np => ?_⟩
    refine ⟨_, rfl, .inl ⟨rfl, _, SqL.of upd_same⟩, by decide, fun q0 nq0 => ?_⟩
    have x0 := ext_ok (zs := [.str "x = item jars at", .str "y = item jars from", .str "one = same do 'add", .str "if one"]) np (Same.new np) upd_same nq0
    refine ⟨p, q0, _, _, rfl, rfl, x0.2, upd_same, by decide, ?_⟩
    refine ⟨_, rfl, .inl ⟨rfl, _, SqL.of upd_same⟩, by decide, fun q1 nq1 => ?_⟩
    have x1 := ext_ok (zs := [.str "sum = add x y", .str "a = put jars at sum", .str "go play more a", .str "else"]) np x0.1 upd_same nq1
    refine ⟨p, q1, _, _, rfl, rfl, x1.2, upd_same, by decide, ?_⟩
    refine ⟨_, rfl, .inl ⟨rfl, _, SqL.of upd_same⟩, by decide, fun q2 nq2 => ?_⟩
    have x2 := ext_ok (zs := [.str "two = same do 'sub", .str "if two", .str "less = sub x y", .str "b = put jars at less", .str "go play more b", .str "else"]) np x1.1 upd_same nq2
    refine ⟨p, q2, _, _, rfl, rfl, x2.2, upd_same, by decide, ?_⟩
    refine ⟨_, rfl, .inl ⟨rfl, _, SqL.of upd_same⟩, by decide, fun q3 nq3 => ?_⟩
    have x3 := ext_ok (zs := [.str "times = mul x y", .str "c = put jars at times", .str "go play more c", .str "end", .str "end"]) np x2.1 upd_same nq3
    refine ⟨p, q3, _, _, rfl, rfl, x3.2, upd_same, by decide, ?_⟩
    refine ⟨_, rfl, ?_⟩
    exact q p _ x3.1 upd_same
def spInterp (K : PySem.W.Frag) : Sp := fun vs H Q _ => vs = [] ∧ RepTo K (progD P0) H Q
theorem sc_interpreter : FnScope ["rows"] [] (defScope (top 91)) := ⟨rfl, rfl, rfl, by decide +kernel, rfl, by decide +kernel, by decide +kernel⟩
theorem ok_interpreter (X : Fx mg) (c_play_rows : Cal P w K mg base CX0 1 "play_rows" [] (spLines playL)) (c_again_rows : Cal P w K mg base CX0 1 "again_rows" [] (spLines againL)) (c_figure_rows : Cal P w K mg base CX0 1 "figure_rows" [] (spLines figureL)) (c_read : Cal P w K mg base CX0 38 "read" ["text"] (spRead K))
    (F : FnP K mg "interpreter" "interpreter" (top 91)) : Cal P w K mg base CX0 39 "interpreter" [] (spInterp K) := by
  refine F.cal sc_interpreter (fun _ _ _ _ _ _ us hl => match us, hl with | [], _ => rfl) (fun vs H Q E h => ?_) (fun f cdv A outer s H vs Q E hr0 h => ?_)
  · obtain ⟨rfl, _⟩ := h
    rfl
  · obtain ⟨rfl, q⟩ := h
    have hr := hr0
    have hr1 : Room 1 _ := hr.mono (by decide)
    refine ⟨_, PSs.nox (pss_cons (ps_set (i := 0) sc_interpreter.nd rfl (Or.inl rfl) (pe_lst (pa_cons pe_str (pa_cons pe_str pa_nil))))
      (pss_one (ps_ret (pe_cal c_read hr pass0 (pa_cons (pe_join pe_str (pe_op op_cat (pe_op op_cat (pe_op op_cat (pv 0) (pe_cal0 c_play_rows hr1 pass0)) (pe_cal0 c_again_rows hr1 pass0)) (pe_cal0 c_figure_rows hr1 pass0))) pa_nil))))), ?_⟩
    refine ⟨by decide, fun p np => ?_⟩
    have s0 : Same H (upd H p (.lst (mainL.map V.str))) := Same.new np
    refine ⟨⟨_, rfl⟩, _, rfl, rfl, fun p1 H1 s1 h1 => ?_⟩
    refine ⟨p, p1, mainL.map V.str, playL.map V.str, rfl, rfl, s1 _ _ upd_same, h1, by decide, fun p2 np2 => ?_⟩
    have s2 := Same.new np2 (o := .lst (mainL.map V.str ++ playL.map V.str))
    refine ⟨rfl, fun p3 H3 s3 h3 => ?_⟩
    refine ⟨p2, p3, mainL.map V.str ++ playL.map V.str, againL.map V.str, rfl, rfl, s3 _ _ upd_same, h3, by decide, fun p4 np4 => ?_⟩
    have s4 := Same.new np4 (o := .lst (mainL.map V.str ++ playL.map V.str ++ againL.map V.str))
    refine ⟨rfl, fun p5 H5 s5 h5 => ?_⟩
    refine ⟨p4, p5, mainL.map V.str ++ playL.map V.str ++ againL.map V.str, figureL.map V.str, rfl, rfl, s5 _ _ upd_same, h5, by decide, fun p6 np6 => ?_⟩
    have s6 := Same.new np6 (o := .lst (mainL.map V.str ++ playL.map V.str ++ againL.map V.str ++ figureL.map V.str))
    refine ⟨newline, p6, mainL ++ playL ++ againL ++ figureL, rfl, rfl, .inl (SqL.of upd_same), by decide +kernel, ?_⟩
    refine ⟨wss0, 5, P0, ?_, text0, prog0, check0, fun v H' s v' => ?_⟩
    · unfold joinN
      rw [joinW]
      rfl
    · exact q v H' (s0.trans (s1.trans (s2.trans (s3.trans (s4.trans (s5.trans (s6.trans s))))))) v'
end
end Fk
set_option maxHeartbeats 4000000
/-! ## Scores -/
namespace Fk
open PySem PySem.Spec PyProof.Rows L2 TL
inductive AK where
  | add | sub | mul
def AK.o : AK → OpK
  | .add => .add | .sub => .sub | .mul => .mul
def AK.f : AK → Int → Int → Int
  | .add, x, y => x + y
  | .sub, x, y => x - y
  | .mul, x, y => x * y
inductive Cmd where
  | set (a n : Int) | op (o : Bool) (k : AK) (f a : Int) | when_ (a : Int) (b : List Cmd) | loop (a : Int) (b : List Cmd)
def Cmd.word : Cmd → Str
  | .set _ _ => "set" | .op _ k _ _ => k.o.word | .when_ _ _ => "when" | .loop _ _ => "loop"
def Cmd.third : Cmd → Str
  | .set _ _ => "n" | .op _ _ _ _ => "from" | .when_ _ _ => "body" | .loop _ _ => "body"
def Cmd.at_ : Cmd → Int
  | .set a _ => a | .op _ _ _ a => a | .when_ a _ => a | .loop a _ => a
def Cmd.body : Cmd → List Cmd
  | .when_ _ b => b | .loop _ b => b | _ => []
def Cmd.opk : Cmd → OpK
  | .op _ k _ _ => k.o | _ => .add
mutual
def Cmd.d : Cmd → D
  | .set a n => .rcd [("do", .word "set"), ("at", .num a), ("n", .num n)]
  | .op false k f a => .rcd [("from", .num f), ("do", .word k.o.word), ("at", .num a)]
  | .op true k f a => .rcd [("do", .word k.o.word), ("at", .num a), ("from", .num f)]
  | .when_ a b => .rcd [("at", .num a), ("body", .row (cmdsD b)), ("do", .word "when")]
  | .loop a b => .rcd [("at", .num a), ("body", .row (cmdsD b)), ("do", .word "loop")]
def cmdsD : List Cmd → List D
  | [] => []
  | c :: r => c.d :: cmdsD r
end
mutual
def Cmd.ok : Cmd → Bool
  | .set a n => narrow a && narrow n
  | .op _ _ f a => narrow a && narrow f
  | .when_ a b => narrow a && cmdsOk b
  | .loop a b => narrow a && cmdsOk b
def cmdsOk : List Cmd → Bool
  | [] => true
  | c :: r => c.ok && cmdsOk r
end
def rowD (r : List Cmd) : D := .row (cmdsD r)
theorem rowD_eq (r : List Cmd) : rowD r = .row (cmdsD r) := rfl
theorem rowD_cons (c : Cmd) (r : List Cmd) : rowD (c :: r) = .row (c.d :: cmdsD r) := by simp only [rowD, cmdsD]
theorem cmdsD_len : ∀ r : List Cmd, (cmdsD r).length = r.length
  | [] => by unfold cmdsD; rfl
  | c :: r => by
    unfold cmdsD
    rw [List.length_cons, List.length_cons, cmdsD_len r]
def jarsD (j : List Int) : D := .row (j.map .num)
def RowOk (r : List Cmd) : Prop := cmdsOk r = true ∧ (rowD r).parts ≤ 60
def JarsOk (j : List Int) : Prop := (∀ x ∈ j, narrow x = true) ∧ j.length ≤ 50
theorem partsL_len : ∀ l : List D, l.length ≤ partsL l
  | [] => Nat.zero_le _
  | d :: r => by
    show r.length + 1 ≤ d.parts + partsL r
    have := partsL_len r
    have : 1 ≤ d.parts := by rw [D.parts_eq]; omega
    omega
theorem RowOk.len {r : List Cmd} (h : RowOk r) : r.length ≤ 59 := by
  have h2 := h.2
  unfold rowD D.parts at h2
  have := partsL_len (cmdsD r)
  rw [cmdsD_len] at this
  omega
theorem RowOk.tail {c : Cmd} {r : List Cmd} (h : RowOk (c :: r)) : RowOk r := by
  obtain ⟨h1, h2⟩ := h
  unfold cmdsOk at h1
  refine ⟨(Bool.and_eq_true_iff.mp h1).2, ?_⟩
  rw [rowD_cons] at h2
  unfold D.parts partsL at h2
  unfold rowD D.parts
  omega
theorem RowOk.body {c : Cmd} {r : List Cmd} (h : RowOk (c :: r)) : RowOk c.body := by
  obtain ⟨h1, h2⟩ := h
  unfold cmdsOk at h1
  have h1 := (Bool.and_eq_true_iff.mp h1).1
  rw [rowD_cons] at h2
  unfold D.parts partsL at h2
  have z : RowOk [] := by
    refine ⟨by unfold cmdsOk; rfl, ?_⟩
    unfold rowD cmdsD D.parts partsL
    decide
  cases c with
  | set a n => exact z
  | op o k f a => exact z
  | when_ a b =>
    unfold Cmd.ok at h1
    refine ⟨(Bool.and_eq_true_iff.mp h1).2, ?_⟩
    unfold Cmd.d D.parts partsK partsK at h2
    show (rowD b).parts ≤ 60
    unfold rowD
    simp only [partsK] at h2
    omega
  | loop a b =>
    unfold Cmd.ok at h1
    refine ⟨(Bool.and_eq_true_iff.mp h1).2, ?_⟩
    unfold Cmd.d D.parts partsK partsK at h2
    show (rowD b).parts ≤ 60
    unfold rowD
    simp only [partsK] at h2
    omega
/-! ### the mirror of play -/
def jarM (j : List Int) (i : Int) : Option Int := if 0 ≤ i then j[i.toNat]? else none
def behindM (c : Cmd) (j : List Int) : Except Str (List Int) := match jarM j c.at_ with
  | none => .error "place"
  | some x => match c with
    | .set a n => .ok (j.set a.toNat n)
    | .op _ k f a => (match jarM j f with
      | none => .error "place"
      | some y => if narrow (k.f x y) = true then .ok (j.set a.toNat (k.f x y)) else .error "wide")
    | .when_ _ _ => .ok j
    | .loop _ _ => .ok j
def aheadM (c : Cmd) (r : List Cmd) (x : Int) : List (List Cmd) := match c with
  | .when_ _ b => if x = 0 then [r] else [r, b]
  | .loop _ b => if x = 0 then [r] else [c :: r, b]
  | _ => [r]
inductive Res where
  | told (d : D) (n : Nat) | fault (w : Str) (n : Nat) | out (n : Nat)
def playM (b : Nat) : Nat → List (List Cmd) → List Int → Nat → Option Res
  | _, [], j, s => some (.told (jarsD j) s)
  | 0, _ :: _, _, _ => none
  | f + 1, [] :: st, j, s => playM b f st j s
  | f + 1, (c :: r) :: st, j, s => if s = b then some (.out b) else (match behindM c j with
    | .error w => some (.fault w (s + 1))
    | .ok j' => playM b f ((aheadM c r ((jarM j' c.at_).getD 0)).reverse ++ st) j' (s + 1))
def RepRes (K : PySem.W.Frag) (R : Addr → Prop) (H : Hp) : Res → V → Prop
  | .told d n, v => ∃ p jv, v = .ref p ∧ H p = some (.tup [.str "told", jv, .int (n : Int)]) ∧ Rep K R H d jv
  | .fault w n, v => ∃ p, v = .ref p ∧ H p = some (.tup [.str "fault", .str w, .int (n : Int)])
  | .out n, v => ∃ p, v = .ref p ∧ H p = some (.tup [.str "out", .non, .int (n : Int)])
/-- what an except clause of Fault leans on -/
structure FltX (K : PySem.W.Frag) (mg : Str → Option Value) (CF : Addr) : Prop where
  g : mg "Fault" = some (.ref CF)
  te : PySem.W.exmOne K (.ref CF) (.ref CF) = some true
  xf : XfC K CF
  no : PySem.W.findIn K (.ref CF) "word" = some none
section
variable {P : Program} {w : World} {K : PySem.W.Frag} {mg : Str → Option Value} {base : Heap} {CF : Addr} {cA : OpK → Addr}
def spThirdOf : Sp := fun vs H Q _ => ∃ c : Cmd, vs = [.str c.word] ∧ ∀ H', Same H H' → Q (.str c.third) H'
theorem eqS {a b : Str} {c : Bool} {A B : Prop} (h : decide (V.str a = V.str b) = c) (k : if c = true then A else B) : if decide (V.str a = V.str b) = true then A else B := by rw [h]; exact k
theorem sc_third_of : FnScope ["do"] ["do"] (defScope (top 82)) := ⟨rfl, rfl, rfl, by decide +kernel, rfl, by decide +kernel, by decide +kernel⟩
theorem ok_third_of (X : Fx mg) (F : FnP K mg "third_of" "third_of" (top 82)) : Cal P w K mg base CX0 1 "third_of" ["do"] spThirdOf := by
  refine F.cal sc_third_of (fun _ _ _ _ _ _ us hl => match us, hl with | [_], _ => rfl) (fun vs H Q E h => ?_) (fun f cdv A outer s H vs Q E hr h => ?_)
  · obtain ⟨c, rfl, _⟩ := h
    rfl
  · obtain ⟨c, rfl, q⟩ := h
    refine ⟨_, PSs.nox (pss_cons (ps_if (pt_cmpR op_eq (pv 0) pe_str (nomark _)) (pss_one (ps_ret pe_str)) pss_nil)
      (pss_cons (ps_if (pt_cmpR op_in_seq (pv 0) (pe_tup (pa_cons pe_str (pa_cons pe_str (pa_cons pe_str pa_nil)))) rfl) (pss_one (ps_ret pe_str)) pss_nil)
      (pss_cons (ps_if (pt_cmpR op_in_seq (pv 0) (pe_tup (pa_cons pe_str (pa_cons pe_str pa_nil))) rfl) (pss_one (ps_ret pe_str)) pss_nil)
      (pss_one (ps_ret pe_non))))), ?_⟩
    refine ⟨_, rfl, rfl, _, rfl, ?_⟩
    cases c with
    | set a n => exact eqS (a := "set") (b := "set") (c := true) (by decide +kernel) (iteT (q H (Same.refl _)))
    | op o k f a =>
      refine eqS (a := k.o.word) (b := "set") (c := false) (by cases k <;> decide +kernel) (iteF ?_)
      refine ⟨_, rfl, by decide, fun p np => ?_⟩
      refine ⟨p, _, rfl, .inr (SqT.of upd_same), rfl, rfl, _, rfl, ?_⟩
      have e : inV (V.str k.o.word) [V.str "add", V.str "sub", V.str "mul"] = true := by cases k <;> decide +kernel
      show if (inV (V.str k.o.word) [V.str "add", V.str "sub", V.str "mul"]) = true then _ else _
      rw [e]
      exact iteT (q _ (Same.new np))
    | when_ a b =>
      refine eqS (a := "when") (b := "set") (c := false) (by decide +kernel) (iteF ?_)
      refine ⟨_, rfl, by decide, fun p np => ?_⟩
      refine ⟨p, _, rfl, .inr (SqT.of upd_same), rfl, rfl, _, rfl, ?_⟩
      have e : inV (V.str "when") [V.str "add", V.str "sub", V.str "mul"] = false := by decide +kernel
      show if (inV (V.str "when") [V.str "add", V.str "sub", V.str "mul"]) = true then _ else _
      rw [e]
      refine iteF ?_
      refine ⟨_, rfl, by decide, fun p2 np2 => ?_⟩
      refine ⟨p2, _, rfl, .inr (SqT.of upd_same), rfl, rfl, _, rfl, ?_⟩
      have e : inV (V.str "when") [V.str "when", V.str "loop"] = true := by decide +kernel
      show if (inV (V.str "when") [V.str "when", V.str "loop"]) = true then _ else _
      rw [e]
      exact iteT (q _ ((Same.new np).trans (Same.new np2)))
    | loop a b =>
      refine eqS (a := "loop") (b := "set") (c := false) (by decide +kernel) (iteF ?_)
      refine ⟨_, rfl, by decide, fun p np => ?_⟩
      refine ⟨p, _, rfl, .inr (SqT.of upd_same), rfl, rfl, _, rfl, ?_⟩
      have e : inV (V.str "loop") [V.str "add", V.str "sub", V.str "mul"] = false := by decide +kernel
      show if (inV (V.str "loop") [V.str "add", V.str "sub", V.str "mul"]) = true then _ else _
      rw [e]
      refine iteF ?_
      refine ⟨_, rfl, by decide, fun p2 np2 => ?_⟩
      refine ⟨p2, _, rfl, .inr (SqT.of upd_same), rfl, rfl, _, rfl, ?_⟩
      have e : inV (V.str "loop") [V.str "when", V.str "loop"] = true := by decide +kernel
      show if (inV (V.str "loop") [V.str "when", V.str "loop"]) = true then _ else _
      rw [e]
      exact iteT (q _ ((Same.new np).trans (Same.new np2)))
def spJarAt (K : PySem.W.Frag) (CF : Addr) : Sp := fun vs H Q E => ∃ (a : Addr) (j : List Int) (i : Int), vs = [.ref a, .int i] ∧ SqT K H a (j.map V.int) ∧ j.length ≤ 1000 ∧ (match jarM j i with
  | some x => Q (.int x) H
  | none => FaultTo CF "place" H E)
theorem sc_jar_at : FnScope ["jars", "at"] ["jars", "at"] (defScope (top 83)) := ⟨rfl, rfl, rfl, by decide +kernel, rfl, by decide +kernel, by decide +kernel⟩
theorem ok_jar_at (X : Fx mg) (c_Fault : FltCal P w K mg base CF) (F : FnP K mg "jar_at" "jar_at" (top 83)) : Cal P w K mg base (L2.CX P w) 3 "jar_at" ["jars", "at"] (spJarAt K CF) := by
  refine F.cal sc_jar_at (fun _ _ _ _ _ _ us hl => match us, hl with | [_, _], _ => rfl) (fun vs H Q E h => ?_) (fun f cdv A outer s H vs Q E hr h => ?_)
  · obtain ⟨a, j, i, rfl, _⟩ := h
    rfl
  have hr2 : Room 2 _ := hr.mono (by decide)
  obtain ⟨a, j, i, rfl, hx, hz, q⟩ := h
  refine ⟨_, (pss_cons (ps_if (PW.pt (pw_or (pt_cmpR op_lt (pv 1) pe_int (nomark _)) (pw_or1 (pt_cmpR op_ge (pv 1) (pe_callB (call_len_seq) rfl X.len (by decide +kernel) (pa_cons (pv 0) pa_nil)) (nomark _))))) (pss_one (ps_raiseF rfl c_Fault hr2 (takes_of rfl rfl rfl rfl))) pss_nil)
      (pss_one (ps_ret (pe_ix ix_tup (pv 0) (pv 1) (fun _ _ => rfl))))), ?_⟩
  refine ⟨_, rfl, _, _, rfl, rfl, _, rfl, ?_⟩
  unfold jarM at q
  have hl : (j.map V.int).length = j.length := List.length_map ..
  by_cases h1 : i < 0
  · rw [if_neg (by omega)] at q
    rw [decide_eq_true h1]
    exact iteT (iteT q)
  · rw [decide_eq_false h1]
    rw [if_pos (by omega)] at q
    refine iteF ⟨_, rfl, _, rfl, _, _, rfl, .inr hx, _, _, rfl, rfl, _, rfl, ?_⟩
    rw [hl]
    by_cases h2 : i < (j.length : Int)
    · rw [decide_eq_false (by omega)]
      refine iteF ?_
      obtain ⟨m, rfl⟩ : ∃ m : Nat, i = (m : Int) := ⟨i.toNat, by omega⟩
      rw [Int.toNat_natCast] at q
      have h3 : m < j.length := by omega
      rw [List.getElem?_eq_getElem h3] at q
      refine ⟨_, rfl, _, rfl, a, _, _, _, rfl, rfl, hx, atI_nat ?_, q⟩
      rw [List.getElem?_map, List.getElem?_eq_getElem h3]
      rfl
    · rw [decide_eq_true (by omega)]
      rw [List.getElem?_eq_none (by omega)] at q
      exact iteT q
end
end Fk
set_option maxHeartbeats 4000000
/-! ## jars_behind, rows_ahead -/
namespace Fk
open PySem PySem.Spec PyProof.Rows L2 TL
theorem look_a {a b c : Str} {x y z : D} : [(a, x), (b, y), (c, z)].lookup a = some x := by
  rw [List.lookup_cons, beq_self_eq_true]
theorem look_b {a b c : Str} {x y z : D} (h0 : (b == a) = false) : [(a, x), (b, y), (c, z)].lookup b = some y := by
  rw [List.lookup_cons, h0, List.lookup_cons, beq_self_eq_true]
theorem look_c {a b c : Str} {x y z : D} (h0 : (c == a) = false) (h1 : (c == b) = false) : [(a, x), (b, y), (c, z)].lookup c = some z := by
  rw [List.lookup_cons, h0, List.lookup_cons, h1, List.lookup_cons, beq_self_eq_true]
def Cmd.ents : Cmd → List (Str × D)
  | .set a n => [("do", .word "set"), ("at", .num a), ("n", .num n)]
  | .op false k f a => [("from", .num f), ("do", .word k.o.word), ("at", .num a)]
  | .op true k f a => [("do", .word k.o.word), ("at", .num a), ("from", .num f)]
  | .when_ a b => [("at", .num a), ("body", .row (cmdsD b)), ("do", .word "when")]
  | .loop a b => [("at", .num a), ("body", .row (cmdsD b)), ("do", .word "loop")]
theorem Cmd.d_ents (c : Cmd) : c.d = .rcd c.ents := by
  cases c with
  | op o k f a => cases o <;> simp only [Cmd.d, Cmd.ents]
  | set a n => simp only [Cmd.d, Cmd.ents]
  | when_ a b => simp only [Cmd.d, Cmd.ents]
  | loop a b => simp only [Cmd.d, Cmd.ents]
theorem Cmd.e_at (c : Cmd) : c.ents.lookup ("at" : Str) = some (.num c.at_) := by
  cases c with
  | set a n => exact look_b (by decide +kernel)
  | op o k f a =>
    cases o
    · exact look_c (by decide +kernel) (by decide +kernel)
    · exact look_b (by decide +kernel)
  | when_ a b => exact look_a
  | loop a b => exact look_a
theorem Cmd.e_do (c : Cmd) : c.ents.lookup ("do" : Str) = some (.word c.word) := by
  cases c with
  | set a n => exact look_a
  | op o k f a =>
    cases o
    · exact look_b (by decide +kernel)
    · exact look_a
  | when_ a b => exact look_c (by decide +kernel) (by decide +kernel)
  | loop a b => exact look_c (by decide +kernel) (by decide +kernel)
theorem e_n {a n : Int} : (Cmd.set a n).ents.lookup ("n" : Str) = some (.num n) := look_c (by decide +kernel) (by decide +kernel)
theorem e_from {o : Bool} {k : AK} {f a : Int} : (Cmd.op o k f a).ents.lookup ("from" : Str) = some (.num f) := by
  cases o
  · exact look_a
  · exact look_c (by decide +kernel) (by decide +kernel)
theorem e_bodyW {a : Int} {b : List Cmd} : (Cmd.when_ a b).ents.lookup ("body" : Str) = some (rowD b) := look_b (by decide +kernel)
theorem e_bodyL {a : Int} {b : List Cmd} : (Cmd.loop a b).ents.lookup ("body" : Str) = some (rowD b) := look_b (by decide +kernel)
/-- a command's entry -/
theorem cmd_get {K : PySem.W.Frag} {R : Addr → Prop} {H : Hp} {c : Cmd} {v : V} (h : Rep K R H c.d v) : ∃ a, v = .ref a ∧ ∀ (k : Str) (d : D) (H2 : Hp), Same H H2 → c.ents.lookup k = some d → ∃ u, DGet H2 a (.str k) (some u) ∧ Rep K R H2 d u := by
  rw [Cmd.d_ents] at h
  obtain ⟨a, kvs, rfl, hR, hy, hl⟩ := h.rcd_inv
  refine ⟨a, rfl, fun k d H2 s e => ?_⟩
  obtain ⟨u, eu, ru⟩ := hl.val e
  have g := DGet.k (k := Sum.inr k) (s _ _ hy)
  rw [eu] at g
  exact ⟨u, g, ru.same s⟩
theorem jars_inv {K : PySem.W.Frag} {R : Addr → Prop} {H : Hp} : ∀ {j : List Int} {xs : List V}, RepL K R H (j.map .num) xs → xs = j.map V.int
  | [], _, .nil => rfl
  | n :: r, _, .cons h t => by
    rw [h.num_inv, jars_inv t]
    rfl
theorem jars_rep {K : PySem.W.Frag} {R : Addr → Prop} {H : Hp} : ∀ (j : List Int), RepL K R H (j.map .num) (j.map V.int)
  | [] => .nil
  | n :: r => .cons (.num n) (jars_rep r)
theorem jarM_some {j : List Int} {i x : Int} (h : jarM j i = some x) : ∃ m : Nat, i = (m : Int) ∧ m < j.length ∧ j[m]? = some x := by
  unfold jarM at h
  by_cases c : 0 ≤ i
  · rw [if_pos c] at h
    refine ⟨i.toNat, by omega, ?_, h⟩
    exact (List.getElem?_eq_some_iff.mp h).1
  · rw [if_neg c] at h
    cases h
theorem behind_op1 {o : Bool} {k : AK} {f a x y : Int} {j : List Int} (h : jarM j a = some x) (h2 : jarM j f = some y) : behindM (.op o k f a) j = if narrow (k.f x y) = true then .ok (j.set a.toNat (k.f x y)) else .error "wide" := by
  unfold behindM
  rw [show (Cmd.op o k f a).at_ = a from rfl, h]
  simp only [h2]
theorem behind_op0 {o : Bool} {k : AK} {f a x : Int} {j : List Int} (h : jarM j a = some x) (h2 : jarM j f = none) : behindM (.op o k f a) j = .error "place" := by
  unfold behindM
  rw [show (Cmd.op o k f a).at_ = a from rfl, h]
  simp only [h2]
theorem put_tail {K : PySem.W.Frag} {R : Addr → Prop} {H : Hp} {σ : L2.St} {D : Ends} {jp : Addr} {j : List Int} {m : Nat} {z : Int} (hx : SqT K H jp (j.map V.int)) (hm : m < j.length) (jz : j.length ≤ 1000) (e1 : σ[1]? = some (some (.ref jp))) (e2 : σ[2]? = some (some (.int (m : Int)))) (e4 : σ[4]? = some (some (.int z)))
    (q : ∀ v H', Same H H' → Rep K R H' (jarsD (j.set m z)) v → D.rt v H') :
    tRet (tOp (rCatA K) (tOp (rCatA K) (tSl (rSlA K) (tVar 1) tNoPart (tPart (tVar 2))) (tTup (tCons (tVar 4) tNil))) (tSl (rSlA K) (tVar 1) (tPart (tOp (rI0 fun i j => V.int (i + j)) (tVar 2) (tC (V.int 1)))) tNoPart)) D σ H := by
  have hl : (j.map V.int).length = j.length := List.length_map ..
  refine ⟨_, e1, _, e2, _, rfl, sl_lo rfl (by omega) hx fun p1 H1 s1 t1 => ?_⟩
  refine ⟨_, e4, by show 1 ≤ sizeLine; decide, fun p2 n2 => ?_⟩
  have s2 : Same H1 (upd H1 p2 (.tup [.int z])) := Same.new n2
  refine cat_any (seqT s2 t1) (SqT.of upd_same) (sz1000 (by rw [List.length_take, List.length_singleton]; omega)) fun p3 H3 s3 t3 => ?_
  have s03 : Same H H3 := s1.trans (s2.trans s3)
  refine ⟨_, e1, _, e2, _, _, rfl, rfl, _, rfl, ?_⟩
  unfold tNoPart
  refine sl_hi (j := m + 1) (Int.natCast_succ m).symm (by omega) (seqT s03 hx) fun p4 H4 s4 t4 => ?_
  refine cat_any (seqT s4 t3) t4 (sz1000 ?_) fun p5 H5 s5 t5 => ?_
  · rw [List.length_append, List.length_take, List.length_singleton, List.length_drop, hl]
    omega
  · have s05 : Same H H5 := s03.trans (s4.trans s5)
    rw [List.append_assoc, put_cut (by omega)] at t5
    have e : (j.map V.int).set m (.int z) = (j.set m z).map V.int := (List.map_set ..).symm
    rw [e] at t5
    exact q _ _ s05 (.row t5 (jars_rep _))
section
variable {P : Program} {w : World} {K : PySem.W.Frag} {mg : Str → Option Value} {base : Heap} {CF : Addr} {cA : OpK → Addr}
def spBehind (K : PySem.W.Frag) (CF : Addr) : Sp := fun vs H Q E => ∃ (R : Addr → Prop) (c : Cmd) (cv jv : V) (j : List Int), vs = [cv, jv] ∧ Rep K R H c.d cv ∧ Rep K R H (jarsD j) jv ∧ JarsOk j ∧ OutTo K R CF ((behindM c j).map jarsD) H Q E
theorem ans_ak {k : AK} {x y : Int} (hx : narrow x = true) : ansM k.o [.num x, .num y] = some (if narrow (k.f x y) = true then .ok (.num (k.f x y)) else .error "wide") := by
  have e : ∀ z : Int, (if (D.num z).depth ≤ 100 then some (sized (.num z)) else none) = some (if narrow z = true then .ok (.num z) else .error "wide") := fun z => by
    rw [if_pos (show (D.num z).depth ≤ 100 from Nat.zero_le 100)]
    unfold sized
    show some (if (!narrow z) = true then (Except.error "wide" : Except Str D) else _) = _
    cases narrow z with
    | true => rfl
    | false => rfl
  cases k with
  | add =>
    unfold ansM
    rw [if_pos (show kindsOk AK.add.o.kinds [.num x, .num y] = true from rfl)]
    exact e _
  | sub =>
    unfold ansM
    rw [if_pos (show kindsOk AK.sub.o.kinds [.num x, .num y] = true from rfl)]
    exact e _
  | mul =>
    unfold ansM
    rw [if_pos (show kindsOk AK.mul.o.kinds [.num x, .num y] = true from rfl)]
    show (match (if narrow x = true then some (Except.ok (D.num (x * y))) else none) with
      | some (.ok d) => if d.depth ≤ 100 then some (sized d) else none
      | some (.error wd) => some (.error wd)
      | none => none) = _
    rw [if_pos hx]
    exact e _
theorem sc_jars_behind : FnScope ["command", "jars", "at", "do", "found"] ["command", "jars"] (defScope (top 84)) := ⟨rfl, rfl, rfl, by decide +kernel, rfl, by decide +kernel, by decide +kernel⟩
theorem ok_jars_behind (X : Fx mg) (O : OpsP P w K mg base cA) (c_jar_at : Cal P w K mg base (L2.CX P w) 3 "jar_at" ["jars", "at"] (spJarAt K CF)) (c_third_of : Cal P w K mg base CX0 1 "third_of" ["do"] spThirdOf) (c_op_of : Cal P w K mg base CX0 4 "op_of" ["word"] (spOpOf cA))
    (ma : ∀ o, MeCal P w K mg base (L2.CX P w) 103 (cA o) "answer" ["self", "values"] (spAnswer K CF cA o))
    (F : FnP K mg "jars_behind" "jars_behind" (top 84)) : Cal P w K mg base (L2.CX P w) 104 "jars_behind" ["command", "jars"] (spBehind K CF) := by
  refine F.cal sc_jars_behind (fun _ _ _ _ _ _ us hl => match us, hl with | [_, _], _ => rfl) (fun vs H Q E h => ?_) (fun f cdv A outer s H vs Q E hr h => ?_)
  · obtain ⟨R, c, cv, jv, j, rfl, _⟩ := h
    rfl
  · have hr1 : Room 1 _ := hr.mono (by decide)
    have hr3 : Room 3 _ := hr.mono (by decide)
    have hr4 : Room 4 _ := hr.mono (by decide)
    have hu := hu_of hr
    obtain ⟨R, c, cv, jv, j, rfl, hc, hj, jo, q⟩ := h
    have m_answer := ma c.opk
    refine ⟨_, (pss_cons (ps_set (i := 2) sc_jars_behind.nd rfl (Or.inl rfl) (pe_dget hu (pv 0) pe_str (fun _ _ => rfl)))
      (pss_cons (ps_set (i := 3) sc_jars_behind.nd rfl (Or.inl rfl) (pe_dget hu (pv 0) pe_str (fun _ _ => rfl)))
      (pss_cons (ps_set (i := 4) sc_jars_behind.nd rfl (Or.inl rfl) (pe_cal c_jar_at hr3 (passes_call (takes_of rfl rfl rfl rfl) fun _ _ _ _ z => z) (pa_cons (pv 1) (pa_cons (pv 2) pa_nil))))
      (pss_cons (ps_if (pt_cmpR op_eq (pe_cal c_third_of hr1 pass0 (pa_cons (pv 3) pa_nil)) pe_str (nomark _)) (pss_one (ps_ret (pv 1))) pss_nil)
      (pss_cons (ps_if (pt_cmpR op_eq (pv 3) pe_str (nomark _)) (pss_one (ps_set (i := 4) sc_jars_behind.nd rfl (Or.inl rfl) (pe_dget hu (pv 0) pe_str (fun _ _ => rfl)))) (pss_one (ps_set (i := 4) sc_jars_behind.nd rfl (Or.inl rfl) (pe_mcal m_answer (O.c c.opk).cl hr (passes_call (takes_of rfl rfl rfl rfl) fun _ _ _ _ z => z) (pe_cal c_op_of hr4 pass0 (pa_cons (pv 3) pa_nil)) (pa_cons (pe_tup (pa_cons (pv 4) (pa_cons (pe_cal c_jar_at hr3 (passes_call (takes_of rfl rfl rfl rfl) fun _ _ _ _ z => z) (pa_cons (pv 1) (pa_cons (pe_dget hu (pv 0) pe_str (fun _ _ => rfl)) pa_nil))) pa_nil))) pa_nil)))))
      (pss_one (ps_ret (pe_op op_catA (pe_op op_catA (pe_slice sl_tupA (pv 1) po_none (po_some (pv 2))) (pe_tup (pa_cons (pv 4) pa_nil))) (pe_slice sl_tupA (pv 1) (po_some (pe_op op_add (pv 2) pe_int)) po_none))))))))), ?_⟩
    obtain ⟨a, rfl, ga⟩ := cmd_get hc
    obtain ⟨jp, xs, rfl, hx, hl⟩ := hj.row_inv
    obtain rfl := jars_inv hl
    have jz : j.length ≤ 1000 := Nat.le_trans jo.2 (by decide)
    obtain ⟨u1, g1, r1⟩ := ga _ _ H (Same.refl _) c.e_at
    cases r1.num_inv
    obtain ⟨u2, g2, r2⟩ := ga _ _ H (Same.refl _) c.e_do
    cases r2.word_inv
    refine ⟨_, rfl, a, _, rfl, g1, _, rfl, a, _, rfl, g2, _, rfl, _, rfl, jp, j, _, rfl, hx, jz, ?_⟩
    cases ej : jarM j c.at_ with
    | none =>
      have eb : (behindM c j).map jarsD = .error "place" := by
        unfold behindM
        rw [ej]
        rfl
      rw [eb] at q
      exact q
    | some x =>
      obtain ⟨m, em, hm, ex⟩ := jarM_some ej
      have hnx : narrow x = true := jo.1 x (List.mem_of_getElem? ex)
      refine ⟨_, rfl, c, rfl, fun H2 s2 => ⟨rfl, _, rfl, ?_⟩⟩
      have hx2 : SqT K H2 jp (j.map V.int) := seqT s2 hx
      rw [em]
      cases c with
      | set a1 n =>
        obtain rfl : a1 = (m : Int) := em
        have eb : (behindM (.set (m : Int) n) j).map jarsD = .ok (jarsD (j.set m n)) := by
          unfold behindM
          rw [ej]
          rfl
        rw [eb] at q
        refine eqS (a := "n") (b := "body") (c := false) (by decide +kernel) (iteF ?_)
        refine ⟨_, rfl, rfl, _, rfl, ?_⟩
        refine eqS (a := "set") (b := "set") (c := true) (by decide +kernel) (iteT ?_)
        obtain ⟨u3, g3, r3⟩ := ga _ _ H2 s2 e_n
        cases r3.num_inv
        refine ⟨_, rfl, a, _, rfl, g3, ?_⟩
        exact put_tail hx2 hm jz rfl rfl rfl fun v H' s' rv => q v H' (s2.trans s') rv
      | when_ a1 b =>
        have eb : (behindM (.when_ a1 b) j).map jarsD = .ok (jarsD j) := by
          unfold behindM
          rw [ej]
          rfl
        rw [eb] at q
        refine eqS (a := "body") (b := "body") (c := true) (by decide +kernel) (iteT ⟨_, rfl, ?_⟩)
        exact q _ _ s2 (hj.same s2)
      | loop a1 b =>
        have eb : (behindM (.loop a1 b) j).map jarsD = .ok (jarsD j) := by
          unfold behindM
          rw [ej]
          rfl
        rw [eb] at q
        refine eqS (a := "body") (b := "body") (c := true) (by decide +kernel) (iteT ⟨_, rfl, ?_⟩)
        exact q _ _ s2 (hj.same s2)
      | op o k f1 a1 =>
        obtain rfl : a1 = (m : Int) := em
        refine eqS (a := "from") (b := "body") (c := false) (by decide +kernel) (iteF ?_)
        refine ⟨_, rfl, rfl, _, rfl, ?_⟩
        refine eqS (a := k.o.word) (b := "set") (c := false) (by cases k <;> decide +kernel) (iteF ?_)
        refine ⟨_, rfl, k.o, rfl, fun p3 H3 s3 np3 ho => ?_⟩
        have s03 : Same H H3 := s2.trans s3
        obtain ⟨u3, g3, r3⟩ := ga _ _ H3 s03 e_from
        cases r3.num_inv
        have eb : ∀ y, jarM j f1 = some y → (behindM (.op o k f1 (m : Int)) j).map jarsD = (if narrow (k.f x y) = true then Except.ok (D.num (k.f x y)) else Except.error ("wide" : Str)).map (fun d => match d with
            | .num z => jarsD (j.set m z)
            | _ => jarsD j) := fun y ey => by
          rw [behind_op1 (k := k) (a := (m : Int)) ej ey, Int.toNat_natCast]
          cases narrow (k.f x y) <;> rfl
        obtain ⟨dx, tk, hp3, htk⟩ := id ho
        refine ⟨p3, dx, _, rfl, hp3, opF_no _ _ _ (by decide +kernel) (by decide +kernel) (by decide +kernel), _, rfl, _, rfl, _, rfl, a, _, rfl, g3, jp, j, _, rfl, seqT s03 hx, jz, ?_⟩
        cases ey : jarM j f1 with
        | none =>
          have eb : (behindM (.op o k f1 (m : Int)) j).map jarsD = .error "place" := by
            rw [behind_op0 (k := k) (a := (m : Int)) ej ey]
            rfl
          rw [eb] at q
          exact FaultTo.of_same q s03
        | some y =>
          rw [eb y ey] at q
          refine ⟨by show 2 ≤ sizeLine; decide, fun p4 n4 => ?_⟩
          have s4 : Same H3 (upd H3 p4 (.tup [.int x, .int y])) := Same.new n4
          refine ⟨fun _ => True, p3, p4, _, [.num x, .num y], _, rfl, ⟨dx, tk, s4 _ _ hp3, s4 _ _ htk⟩, SqT.of upd_same, .cons (.num _) (.cons (.num _) .nil), ans_ak hnx, ?_⟩
          have s04 := s03.trans s4
          cases en : narrow (k.f x y) with
          | true =>
            rw [en] at q
            intro v H5 s5 rv
            cases rv.num_inv
            have s05 := s04.trans s5
            exact put_tail (seqT s05 hx) hm jz rfl rfl rfl fun v H' s' rv => q v H' (s05.trans s') rv
          | false =>
            rw [en] at q
            exact FaultTo.of_same q s04
end
end Fk
set_option maxHeartbeats 4000000
/-! ## rows_ahead, play -/
namespace Fk
open PySem PySem.Spec PyProof.Rows L2 TL
theorem ahead_when {a x : Int} {b r : List Cmd} : aheadM (.when_ a b) r x = if x = 0 then [r] else [r, b] := rfl
theorem ahead_loop {a x : Int} {b r : List Cmd} : aheadM (.loop a b) r x = if x = 0 then [r] else [.loop a b :: r, b] := rfl
theorem neS {a b : Str} {c : Bool} {A B : Prop} (h : decide (V.str a = V.str b) = c) (k : if (!c) = true then A else B) : if (!decide (V.str a = V.str b)) = true then A else B := by rw [h]; exact k
section
variable {P : Program} {w : World} {K : PySem.W.Frag} {mg : Str → Option Value} {base : Heap} {CF : Addr} {cA : OpK → Addr}
def spAhead (K : PySem.W.Frag) : Sp := fun vs H Q _ => ∃ (R : Addr → Prop) (c : Cmd) (r : List Cmd) (rv jv : V) (j : List Int) (x : Int), vs = [rv, jv] ∧ Rep K R H (rowD (c :: r)) rv ∧ RowOk (c :: r) ∧ Rep K R H (jarsD j) jv ∧ jarM j c.at_ = some x ∧
  ∀ (p : Addr) (H' : Hp) (vs : List V), Same H H' → H' p = some (.lst vs) → RepL K R H' ((aheadM c r x).map rowD) vs → Q (.ref p) H'
theorem sc_rows_ahead : FnScope ["row", "jars", "command"] ["row", "jars"] (defScope (top 85)) := ⟨rfl, rfl, rfl, by decide +kernel, rfl, by decide +kernel, by decide +kernel⟩
theorem ok_rows_ahead (X : Fx mg) (c_third_of : Cal P w K mg base CX0 1 "third_of" ["do"] spThirdOf) (F : FnP K mg "rows_ahead" "rows_ahead" (top 85)) : Cal P w K mg base CX0 2 "rows_ahead" ["row", "jars"] (spAhead K) := by
  refine F.cal sc_rows_ahead (fun _ _ _ _ _ _ us hl => match us, hl with | [_, _], _ => rfl) (fun vs H Q E h => ?_) (fun f cdv A outer s H vs Q E hr h => ?_)
  · obtain ⟨R, c, r, rv, jv, j, x, rfl, _⟩ := h
    rfl
  · have hu := hu_of hr
    obtain ⟨R, c, r, rv, jv, j, x, rfl, hrow, hok, hj, ej, q⟩ := h
    refine ⟨_, PSs.nox (pss_cons (ps_set (i := 2) sc_rows_ahead.nd rfl (Or.inl rfl) (pe_ix ix_tup (pv 0) pe_int (fun _ _ => rfl)))
      (pss_cons (ps_if (PW.pt (pw_or (pt_cmpR op_ne (pe_cal c_third_of hr pass0 (pa_cons (pe_dget hu (pv 2) pe_str (fun _ _ => rfl)) pa_nil)) pe_str (nomark _)) (pw_or1 (pt_cmpR op_eq (pe_ix ix_tup (pv 1) (pe_dget hu (pv 2) pe_str (fun _ _ => rfl)) (fun _ _ => rfl)) pe_int (nomark _))))) (pss_one (ps_ret (pe_lst (pa_cons (pe_slice sl_tupA (pv 0) (po_some pe_int) po_none) pa_nil)))) pss_nil)
      (pss_cons (ps_if (pt_cmpR op_eq (pe_dget hu (pv 2) pe_str (fun _ _ => rfl)) pe_str (nomark _)) (pss_one (ps_ret (pe_lst (pa_cons (pe_slice sl_tupA (pv 0) (po_some pe_int) po_none) (pa_cons (pe_dget hu (pv 2) pe_str (fun _ _ => rfl)) pa_nil))))) pss_nil)
      (pss_one (ps_ret (pe_lst (pa_cons (pv 0) (pa_cons (pe_dget hu (pv 2) pe_str (fun _ _ => rfl)) pa_nil)))))))), ?_⟩
    rw [rowD_cons] at hrow
    obtain ⟨rp, xs, rfl, hx, hl⟩ := hrow.row_inv
    have hlen : xs.length = r.length + 1 := by rw [hl.len, List.length_cons, cmdsD_len]
    have hok2 := hok.len
    rw [List.length_cons] at hok2
    obtain ⟨cv, hc0, hc⟩ := hl.get (i := 0) rfl
    obtain ⟨a, rfl, ga⟩ := cmd_get hc
    obtain ⟨jp, ys, rfl, hy, hl2⟩ := hj.row_inv
    obtain rfl := jars_inv hl2
    obtain ⟨m, em, hm, ex⟩ := jarM_some ej
    obtain ⟨u2, g2, r2⟩ := ga _ _ H (Same.refl _) c.e_do
    cases r2.word_inv
    have hd : RepL K R H (cmdsD r) (xs.drop 1) := hl.drop 1
    have rest : ∀ {H2 : Hp} {Q' : VK}, Same H H2 → (∀ p H', Same H2 H' → Rep K R H' (rowD r) (.ref p) → Q' (.ref p) H') → rSlA K (.ref rp) (some 1) none H2 Q' := fun {H2 Q'} s2 k => sl_hi (j := 1) rfl (by omega) (seqT s2 hx) fun p H' s' t => k p H' s' (.row t (hd.same (s2.trans s')))
    have one : ∀ {H2 : Hp} {Q' : VK}, Same H H2 → (∀ p H', Same H H' → ∀ vs, H' p = some (.lst vs) → RepL K R H' [rowD r] vs → Q' (.ref p) H') → rSlA K (.ref rp) (some 1) none H2 fun v H3 => [v].length ≤ sizeLine ∧ ∀ p, H3 p = none → Q' (.ref p) (upd H3 p (.lst [v])) := fun {H2 Q'} s2 k => rest s2 fun p H' s' rv => ⟨by show 1 ≤ sizeLine; decide, fun p2 n2 => k p2 _ (s2.trans (s'.trans (Same.new n2))) _ upd_same (.cons (rv.same (Same.new n2)) .nil)⟩
    refine ⟨_, rfl, rp, _, _, _, rfl, rfl, hx, atI_nat (j := 0) hc0, ?_⟩
    refine ⟨_, rfl, a, _, rfl, g2, c, rfl, fun H2 s2 => ⟨rfl, _, rfl, ?_⟩⟩
    obtain ⟨u1, g1, r1⟩ := ga _ _ H2 s2 c.e_at
    cases r1.num_inv
    have hjx : ∀ {Q' : VK}, Q' (.int x) H2 → rIxT K (.ref jp) (.int c.at_) H2 Q' := fun {Q'} k => by
      rw [em]
      refine ⟨jp, _, _, _, rfl, rfl, seqT s2 hy, atI_nat (v := .int x) ?_, k⟩
      rw [List.getElem?_map, ex]
      rfl
    cases c with
    | set a1 n =>
      refine neS (a := "n") (b := "body") (c := false) (by decide +kernel) (iteT (iteT ⟨_, rfl, _, rfl, ?_⟩))
      unfold tNoPart
      exact one s2 fun p H' s' vs h rv => q p H' vs s' h rv
    | op o k f1 a1 =>
      refine neS (a := "from") (b := "body") (c := false) (by decide +kernel) (iteT (iteT ⟨_, rfl, _, rfl, ?_⟩))
      unfold tNoPart
      exact one s2 fun p H' s' vs h rv => q p H' vs s' h rv
    | when_ a1 b =>
      refine neS (a := "body") (b := "body") (c := true) (by decide +kernel) (iteF ?_)
      refine ⟨_, rfl, _, rfl, a, _, rfl, g1, hjx ⟨rfl, _, rfl, ?_⟩⟩
      by_cases hx0 : x = 0
      · rw [decide_eq_true (congrArg V.int hx0)]
        refine iteT ⟨_, rfl, _, rfl, ?_⟩
        unfold tNoPart
        refine one s2 fun p H' s' vs h rv => q p H' vs s' h ?_
        rw [ahead_when, if_pos hx0]
        exact rv
      · rw [decide_eq_false fun z => hx0 (V.int.inj z)]
        refine iteF ?_
        obtain ⟨u4, g4, r4⟩ := ga _ _ H2 s2 (Cmd.when_ a1 b).e_do
        cases r4.word_inv
        refine ⟨_, rfl, a, _, rfl, g4, rfl, _, rfl, ?_⟩
        refine eqS (a := "when") (b := "when") (c := true) (by decide +kernel) (iteT ⟨_, rfl, _, rfl, ?_⟩)
        unfold tNoPart
        refine rest s2 fun p H3 s3 rv => ?_
        obtain ⟨u5, g5, r5⟩ := ga _ _ H3 (s2.trans s3) e_bodyW
        refine ⟨_, rfl, a, _, rfl, g5, by show 2 ≤ sizeLine; decide, fun p6 n6 => ?_⟩
        have s6 : Same H3 (upd H3 p6 (.lst [.ref p, u5])) := Same.new n6
        refine q p6 _ [.ref p, u5] (s2.trans (s3.trans s6)) upd_same ?_
        rw [ahead_when, if_neg hx0]
        exact .cons (rv.same s6) (.cons (r5.same s6) .nil)
    | loop a1 b =>
      refine neS (a := "body") (b := "body") (c := true) (by decide +kernel) (iteF ?_)
      refine ⟨_, rfl, _, rfl, a, _, rfl, g1, hjx ⟨rfl, _, rfl, ?_⟩⟩
      by_cases hx0 : x = 0
      · rw [decide_eq_true (congrArg V.int hx0)]
        refine iteT ⟨_, rfl, _, rfl, ?_⟩
        unfold tNoPart
        refine one s2 fun p H' s' vs h rv => q p H' vs s' h ?_
        rw [ahead_loop, if_pos hx0]
        exact rv
      · rw [decide_eq_false fun z => hx0 (V.int.inj z)]
        refine iteF ?_
        obtain ⟨u4, g4, r4⟩ := ga _ _ H2 s2 (Cmd.loop a1 b).e_do
        cases r4.word_inv
        refine ⟨_, rfl, a, _, rfl, g4, rfl, _, rfl, ?_⟩
        refine eqS (a := "loop") (b := "when") (c := false) (by decide +kernel) (iteF ?_)
        obtain ⟨u5, g5, r5⟩ := ga _ _ H2 s2 e_bodyL
        refine ⟨_, rfl, _, rfl, a, _, rfl, g5, by show 2 ≤ sizeLine; decide, fun p6 n6 => ?_⟩
        have s6 : Same H2 (upd H2 p6 (.lst [.ref rp, u5])) := Same.new n6
        refine q p6 _ [.ref rp, u5] (s2.trans s6) upd_same ?_
        rw [ahead_loop, if_neg hx0]
        refine .cons ?_ (.cons (r5.same s6) .nil)
        rw [rowD_cons]
        exact Rep.same (s2.trans s6) (.row hx hl)
/-! ### play -/
def spPlay (K : PySem.W.Frag) : Sp := fun vs H Q _ => ∃ (R : Addr → Prop) (row : List Cmd) (rv jv : V) (j : List Int) (b f : Nat) (r : Res), vs = [rv, jv, .int (b : Int)] ∧ Rep K R H (rowD row) rv ∧ RowOk row ∧ Rep K R H (jarsD j) jv ∧ JarsOk j ∧ b ≤ 1000 ∧ playM b f [row] j 0 = some r ∧
  ∀ v H', Same H H' → RepRes K R H' r v → Q v H'
theorem behind_ok {c : Cmd} {r : List Cmd} {j j' : List Int} (ho : RowOk (c :: r)) (jo : JarsOk j) (h : behindM c j = .ok j') : JarsOk j' ∧ ∃ x, jarM j' c.at_ = some x := by
  have hc : c.ok = true := by
    have := ho.1
    unfold cmdsOk at this
    exact (Bool.and_eq_true_iff.mp this).1
  have key : ∀ {m : Nat} {z : Int}, m < j.length → narrow z = true → JarsOk (j.set m z) ∧ ∃ x, jarM (j.set m z) (m : Int) = some x := fun {m z} hm hz => by
    refine ⟨⟨fun y hy => ?_, by rw [List.length_set]; exact jo.2⟩, z, ?_⟩
    · rcases List.mem_or_eq_of_mem_set hy with h | h
      · exact jo.1 y h
      · rw [h]; exact hz
    · unfold jarM
      rw [if_pos (Int.natCast_nonneg m), Int.toNat_natCast, List.getElem?_set_self hm]
  unfold behindM at h
  cases ej : jarM j c.at_ with
  | none =>
    rw [ej] at h
    cases h
  | some x =>
    rw [ej] at h
    obtain ⟨m, em, hm, ex⟩ := jarM_some ej
    cases c with
    | set a n =>
      obtain rfl : a = (m : Int) := em
      cases h
      unfold Cmd.ok at hc
      exact key hm (Bool.and_eq_true_iff.mp hc).2
    | when_ a b =>
      cases h
      exact ⟨jo, x, ej⟩
    | loop a b =>
      cases h
      exact ⟨jo, x, ej⟩
    | op o k f a =>
      obtain rfl : a = (m : Int) := em
      cases ey : jarM j f with
      | none =>
        simp only [ey] at h
        cases h
      | some y =>
        simp only [ey] at h
        by_cases hn : narrow (k.f x y) = true
        · rw [if_pos hn] at h
          cases h
          exact key hm hn
        · rw [if_neg hn] at h
          cases h
theorem ahead_rows {c : Cmd} {r : List Cmd} {x : Int} (h : RowOk (c :: r)) : (∀ q ∈ aheadM c r x, RowOk q) ∧ (aheadM c r x).length ≤ 2 := by
  have h1 : RowOk r := h.tail
  have h2 := h.body
  have one : (∀ q ∈ [r], RowOk q) ∧ [r].length ≤ 2 := ⟨fun q hq => by
    rw [List.mem_singleton] at hq
    rw [hq]
    exact h1, by show 1 ≤ 2; decide⟩
  cases c with
  | set a n => exact one
  | op o k f a => exact one
  | when_ a b =>
    rw [ahead_when]
    by_cases hx : x = 0
    · rw [if_pos hx]
      exact one
    · rw [if_neg hx]
      refine ⟨fun q hq => ?_, Nat.le_refl 2⟩
      rcases List.mem_cons.mp hq with e | e
      · rw [e]; exact h1
      · rw [List.mem_singleton] at e
        rw [e]
        exact h2
  | loop a b =>
    rw [ahead_loop]
    by_cases hx : x = 0
    · rw [if_pos hx]
      exact one
    · rw [if_neg hx]
      refine ⟨fun q hq => ?_, Nat.le_refl 2⟩
      rcases List.mem_cons.mp hq with e | e
      · rw [e]; exact h
      · rw [List.mem_singleton] at e
        rw [e]
        exact h2
theorem RepL.snoc_inv {R : Addr → Prop} {H : Hp} {d : D} : ∀ {ds : List D} {vs : List V}, RepL K R H (ds ++ [d]) vs → ∃ us y, vs = us ++ [y] ∧ RepL K R H ds us ∧ Rep K R H d y
  | [], _, .cons h .nil => ⟨[], _, rfl, .nil, h⟩
  | e :: ds, _, .cons h t => by
    obtain ⟨us, y, e1, e2, e3⟩ := RepL.snoc_inv t
    subst e1
    exact ⟨_ :: us, y, rfl, .cons h e2, e3⟩
theorem sc_play : FnScope ["score", "jars", "budget", "waiting", "steps", "row", "e"] ["score", "jars", "budget"] (defScope (top 86)) := ⟨rfl, rfl, rfl, by decide +kernel, rfl, by decide +kernel, by decide +kernel⟩
theorem ok_play (X : Fx mg) (T : FltX K mg CF) (c_jars_behind : Cal P w K mg base (L2.CX P w) 104 "jars_behind" ["command", "jars"] (spBehind K CF)) (c_rows_ahead : Cal P w K mg base CX0 2 "rows_ahead" ["row", "jars"] (spAhead K)) (F : FnP K mg "play" "play" (top 86)) :
    Cal P w K mg base CX0 105 "play" ["score", "jars", "budget"] (spPlay K) := by
  refine F.cal sc_play (fun _ _ _ _ _ _ us hl => match us, hl with | [_, _, _], _ => rfl) (fun vs H Q E h => ?_) (fun f cdv A outer s H vs Q E hr h => ?_)
  · obtain ⟨R, row, rv, jv, j, b, fu, r, rfl, _⟩ := h
    rfl
  · have hr2 : Room 2 _ := hr.mono (by decide)
    have hr104 : Room 104 _ := hr
    have hu := hu_of hr
    obtain ⟨gf, gfd, GT, mgT, kpT, bT⟩ := c_jars_behind
    obtain ⟨R, row, rv, jv, j, b, fu, r, rfl, hrow, hok, hj, jo, hb, hp, q⟩ := h
    refine ⟨_, PSs.nox (pss_cons (ps_set (i := 3) sc_play.nd rfl (Or.inl rfl) (pe_lst (pa_cons (pv 0) pa_nil)))
      (pss_cons (ps_set (i := 4) sc_play.nd rfl (Or.inl rfl) pe_int)
      (pss_cons (ps_while PassesOwn.never (pt_cmpR op_gt (pe_callB (call_len_seq) rfl X.len (by decide +kernel) (pa_cons (pv 3) pa_nil)) pe_int (nomark _)) (pss_cons (ps_set (i := 5) sc_play.nd rfl (Or.inl rfl) (pe_bm0 PySem.F.plainAttrs_list PySem.F.slot_list_pop PySem.F.type_list_pop mt_pop (pv 3)))
      (pss_one (ps_if (pt_cmpR op_gt (pe_callB (call_len_seq) rfl X.len (by decide +kernel) (pa_cons (pv 5) pa_nil)) pe_int (nomark _)) (pss_cons (ps_if (pt_cmpR op_eq (pv 4) (pv 2) (nomark _)) (pss_one (ps_ret (pe_tup (pa_cons pe_str (pa_cons pe_non (pa_cons (pv 2) pa_nil)))))) pss_nil)
      (pss_cons (ps_set (i := 4) sc_play.nd rfl (Or.inl rfl) (pe_op op_add (pv 4) pe_int))
      (pss_cons (ps_try_as (i := 6) (tb := fun W => tAsg (tCallS (spBehind K CF) (WE W) (tCons (tOp (rIxT K) (tVar 5) (tC (.int 0))) (tCons (tVar 1) tNil))) (gName 1)) (ts := fun a cls d => tRet (tTup (tCons (tC (.str "fault")) (tCons (tXf a cls d CF "word" (tVar 6)) (tCons (tVar 4) tNil))))) (Wout := fun _ _ _ _ => False) rfl rfl sc_play.nd rfl rfl ⟨rfl, by decide, .inl T.g⟩ takes0 (fun W pn xe tk _ => pss_one (ps_set (i := 1) sc_play.nd rfl (Or.inl rfl) (by exact (pe_callS GT hr104 rfl mgT kpT bT (fun σ => passAt tk σ) (pa_cons (pe_ix ix_tup (pv 5) pe_int (fun _ _ => rfl)) (pa_cons (pv 1) pa_nil)))))) (fun a oe cls d pn hz hf => pss_one (ps_ret (pe_tup (pa_cons pe_str (pa_cons (pe_xf T.xf T.no hz hf (pv 6)) (pa_cons (pv 4) pa_nil)))))))
      (pss_one (ps_expr (pe_bm PySem.F.plainAttrs_list PySem.F.slot_list_extend PySem.F.type_list_extend mt_extend (pv 3) (pa_cons (pe_cal c_rows_ahead hr2 pass0 (pa_cons (pv 5) (pa_cons (pv 1) pa_nil))) pa_nil))))))) pss_nil))))
      (pss_one (ps_ret (pe_tup (pa_cons pe_str (pa_cons (pv 1) (pa_cons (pv 4) pa_nil))))))))), ?_⟩
    refine ⟨_, rfl, by show 1 ≤ sizeLine; decide, fun wl nw => ?_⟩
    refine ⟨fun m σ H2 => ∃ (st : List (List Cmd)) (j : List Int) (sn : Nat) (ws : List V) (jv : V) (o5 o6 : Option V), σ = [some rv, some jv, some (.int (b : Int)), some (.ref wl), some (.int (sn : Int)), o5, o6] ∧
      Same H H2 ∧ H2 wl = some (.lst ws) ∧ RepL K R H2 (st.reverse.map rowD) ws ∧ (∀ x ∈ st, RowOk x) ∧ Rep K R H2 (jarsD j) jv ∧ JarsOk j ∧ sn ≤ b ∧ st.length ≤ sn + 1 ∧ playM b m st j sn = some r,
      ⟨fu, [row], j, 0, [rv], jv, none, none, rfl, Same.new nw, upd_same, .cons (hrow.same (Same.new nw)) .nil, fun x hx => by
        rw [List.mem_singleton] at hx
        rw [hx]
        exact hok, hj.same (Same.new nw), jo, Nat.zero_le _, Nat.le_refl _, hp⟩, ?_⟩
    rintro m σ H2 ⟨st, j, sn, ws, jv, o5, o6, rfl, s2, hw, hws, hst, hj, jo, hsn, hsl, hp⟩
    have hwl : ws.length = st.length := by rw [hws.len, List.length_map, List.length_reverse]
    refine ⟨_, rfl, wl, ws, rfl, .inl (SqL.of hw), _, _, rfl, rfl, _, rfl, ?_⟩
    cases st with
    | nil =>
      rw [decide_eq_false (by rw [hwl]; decide)]
      refine iteF ⟨_, rfl, _, rfl, by show 3 ≤ sizeLine; decide, fun p np => ?_⟩
      have e : playM b m [] j sn = some (.told (jarsD j) sn) := by cases m <;> rfl
      rw [e] at hp
      cases hp
      exact q _ _ (s2.trans (Same.new np)) ⟨p, jv, rfl, upd_same, hj.same (Same.new np)⟩
    | cons rw_ st =>
      rw [decide_eq_true (by rw [hwl, List.length_cons]; omega)]
      cases m with
      | zero => cases hp
      | succ m =>
      have hrw := hst rw_ List.mem_cons_self
      have hst' : ∀ x ∈ st, RowOk x := fun x hx => hst x (List.mem_cons_of_mem _ hx)
      rw [List.reverse_cons, List.map_append] at hws
      obtain ⟨us, y, rfl, hus, hy⟩ := RepL.snoc_inv hws
      have hul : us.length = st.length := by rw [hus.len, List.length_map, List.length_reverse]
      rw [List.length_cons] at hsl
      refine iteT ⟨fun σ' H' => ∃ (st : List (List Cmd)) (j : List Int) (sn : Nat) (ws : List V) (jv : V) (o5 o6 : Option V), σ' = [some rv, some jv, some (.int (b : Int)), some (.ref wl), some (.int (sn : Int)), o5, o6] ∧
        Same H H' ∧ H' wl = some (.lst ws) ∧ RepL K R H' (st.reverse.map rowD) ws ∧ (∀ x ∈ st, RowOk x) ∧ Rep K R H' (jarsD j) jv ∧ JarsOk j ∧ sn ≤ b ∧ st.length ≤ sn + 1 ∧ playM b m st j sn = some r, fun σ' H' h => ⟨m, Nat.lt_succ_self m, h⟩, ?_⟩
      refine ⟨_, rfl, .inl ⟨rfl, _, SqL.of hw⟩, wl, _, y, rfl, rfl, hw, ?_, ?_⟩
      · rw [List.length_append, List.length_singleton, Nat.add_sub_cancel, List.getElem?_append_right (Nat.le_refl _), Nat.sub_self]
        rfl
      rw [List.dropLast_concat]
      have hwn : ∀ b o, H b = some o → b ≠ wl := fun b o e => ne_of_none e nw
      have k3 : Kept R H2 (upd H2 wl (.lst us)) := Kept.lst hw
      have s3 : Same H (upd H2 wl (.lst us)) := fun b o e => by
        rw [upd_ne (hwn b o e)]
        exact s2 _ _ e
      have hw3 : upd H2 wl (.lst us) wl = some (.lst us) := upd_same
      have hus3 := hus.mono k3
      have hy3 := hy.mono k3
      have hj3 := hj.mono k3
      generalize upd H2 wl (.lst us) = H3 at s3 hw3 hus3 hy3 hj3 ⊢
      obtain ⟨rp, xs, rfl, hx, hl⟩ := hy3.row_inv
      have hxl : xs.length = rw_.length := by rw [hl.len, cmdsD_len]
      refine ⟨_, rfl, rp, xs, rfl, .inr hx, _, _, rfl, rfl, _, rfl, ?_⟩
      cases rw_ with
      | nil =>
        rw [decide_eq_false (by rw [hxl]; decide)]
        exact iteF ⟨st, j, sn, us, jv, _, o6, rfl, s3, hw3, hus3, hst', hj3, jo, hsn, by omega, hp⟩
      | cons c r1 =>
        rw [decide_eq_true (by rw [hxl, List.length_cons]; omega)]
        have hp' : (if sn = b then some (Res.out b) else (match behindM c j with
          | .error w => some (.fault w (sn + 1))
          | .ok j' => playM b m ((aheadM c r1 ((jarM j' c.at_).getD 0)).reverse ++ st) j' (sn + 1))) = some r := hp
        refine iteT ⟨_, rfl, _, rfl, rfl, _, rfl, ?_⟩
        by_cases hb2 : sn = b
        · rw [if_pos hb2] at hp'
          cases hp'
          rw [decide_eq_true (congrArg (fun n : Nat => V.int (n : Int)) hb2)]
          refine iteT ⟨_, rfl, by show 3 ≤ sizeLine; decide, fun p np => ?_⟩
          exact q _ _ (s3.trans (Same.new np)) ⟨p, rfl, upd_same⟩
        · rw [if_neg hb2] at hp'
          rw [decide_eq_false fun z => hb2 (by have := V.int.inj z; omega)]
          refine iteF ⟨_, rfl, _, _, rfl, rfl, ?_⟩
          have hl' : RepL K R H3 (c.d :: cmdsD r1) xs := by
            have : cmdsD (c :: r1) = c.d :: cmdsD r1 := by simp only [cmdsD]
            rw [← this]
            exact hl
          obtain ⟨cv, hc0, hc⟩ := hl'.get (i := 0) rfl
          refine ⟨_, rfl, rp, _, _, _, rfl, rfl, hx, atI_nat (j := 0) hc0, _, rfl, R, c, cv, jv, j, rfl, hc, hj3, jo, ?_⟩
          have en : ((sn : Int) + 1) = ((sn + 1 : Nat) : Int) := by omega
          cases eb : behindM c j with
          | error wd =>
            rw [eb] at hp'
            cases hp'
            intro d H4 s4 hd
            refine ⟨true, T.te, fun _ a na => ?_, fun z => nomatch z⟩
            refine ⟨_, rfl, rfl, rfl, d, _, .str wd, rfl, hd, rfl, _, rfl, by show 3 ≤ sizeLine; decide, fun p np => ?_⟩
            refine q _ _ (s3.trans (s4.trans (Same.new np))) ⟨p, rfl, ?_⟩
            rw [upd_same]
            show some (HO.tup [V.str "fault", V.str wd, V.int ((sn : Int) + 1)]) = _
            rw [en]
          | ok j' =>
            rw [eb] at hp'
            obtain ⟨jo', x, ex⟩ := behind_ok hrw jo eb
            intro v H4 s4 rv4
            have hrow4 : Rep K R H4 (rowD (c :: r1)) (.ref rp) := Rep.same s4 (.row hx hl)
            refine ⟨_, rfl, .inl ⟨rfl, _, SqL.of (s4 _ _ hw3)⟩, _, rfl, _, rfl, R, c, r1, _, v, j', x, rfl, hrow4, hrw, rv4, ex, fun p H5 vs s5 hp5 rv5 => ?_⟩
            have ⟨ha, hal⟩ := ahead_rows (x := x) hrw
            have hvl : vs.length ≤ 2 := by
              rw [rv5.len, List.length_map]
              exact hal
            have hw5 : H5 wl = some (.lst us) := s5 _ _ (s4 _ _ hw3)
            refine ⟨wl, p, us, vs, rfl, rfl, hw5, hp5, sz1000 (by omega), ?_⟩
            have k6 : Kept R H5 (upd H5 wl (.lst (us ++ vs))) := Kept.lst hw5
            have hp2 : playM b m ((aheadM c r1 ((jarM j' c.at_).getD 0)).reverse ++ st) j' (sn + 1) = some r := hp'
            rw [ex] at hp2
            refine ⟨(aheadM c r1 x).reverse ++ st, j', sn + 1, us ++ vs, v, some (.ref rp), o6, ?_, ?_, upd_same, ?_, ?_, (rv4.same s5).mono k6, jo', by omega, ?_, hp2⟩
            · rw [← en]
              rfl
            · intro b' o e
              rw [upd_ne (hwn b' o e)]
              exact s5 _ _ (s4 _ _ (s3 _ _ e))
            · rw [List.reverse_append, List.reverse_reverse, List.map_append]
              exact (((hus3.same s4).same s5).append rv5).mono k6
            · intro y hy
              rcases List.mem_append.mp hy with h | h
              · exact ha y (List.mem_reverse.mp h)
              · exact hst' y h
            · rw [List.length_append, List.length_reverse]
              omega
end
end Fk
set_option maxHeartbeats 4000000
/-! ## The runner: function_by, Place, value_at, values_at, place_in -/
namespace Fk
open PySem PySem.Spec PyProof.Rows L2 TL
abbrev Env_ := List (Str × D)
def atomV (th : List (Str × D)) : Atom → Option D
  | .is w => some (.word w)
  | .of n => th.lookup n
def atomsV (th : List (Str × D)) : List Atom → Option (List D)
  | [] => some []
  | a :: r => match atomV th a, atomsV th r with
    | some d, some ds => some (d :: ds)
    | _, _ => none
theorem atomsV_cons {th : List (Str × D)} {a : Atom} {r : List Atom} {ds : List D} (h : atomsV th (a :: r) = some ds) : ∃ d ds', atomV th a = some d ∧ atomsV th r = some ds' ∧ ds = d :: ds' := by
  have h2 : (match atomV th a, atomsV th r with
    | some d, some ds => some (d :: ds)
    | _, _ => none) = some ds := h
  cases e1 : atomV th a with
  | none =>
    rw [e1] at h2
    cases h2
  | some d =>
    cases e2 : atomsV th r with
    | none =>
      rw [e1, e2] at h2
      cases h2
    | some ds' =>
      rw [e1, e2] at h2
      cases h2
      exact ⟨d, ds', rfl, rfl, rfl⟩
theorem atomsV_at {th : List (Str × D)} : ∀ {as : List Atom} {ds : List D} {i : Nat} {a : Atom}, atomsV th as = some ds → as[i]? = some a → ∃ d, ds[i]? = some d ∧ atomV th a = some d
  | [], _, _, _, _, h => by cases h
  | y :: r, ds, 0, x, h, e => by
    cases e
    obtain ⟨d, ds', h1, _, rfl⟩ := atomsV_cons h
    exact ⟨d, rfl, h1⟩
  | y :: r, ds, i + 1, x, h, e => by
    obtain ⟨d, ds', _, h2, rfl⟩ := atomsV_cons h
    exact atomsV_at (i := i) h2 e
theorem atomsV_len {th : List (Str × D)} : ∀ {as : List Atom} {ds : List D}, atomsV th as = some ds → ds.length = as.length
  | [], _, h => by cases h; rfl
  | y :: r, ds, h => by
    obtain ⟨d, ds', _, h2, rfl⟩ := atomsV_cons h
    exact congrArg (· + 1) (atomsV_len h2)
/-- the last function of that name; the first one where there is none -/
def funFrom : List Fun → Str → Fun → Fun
  | [], _, f => f
  | g :: r, n, f => funFrom r n (if g.name = n then g else f)
def funM (p : List Fun) (n : Str) : Option Fun := match p with
  | [] => none
  | f :: r => some (funFrom (f :: r) n f)
def bindF : List Str → List D → List (Str × D) → List (Str × D)
  | p :: ps, d :: ds, th => bindF ps ds (putS th p d)
  | _, _, th => th
def plF (t : Addr) (b : V) (g : Int) : List (Str × V) := [(("things" : Str), .ref t), (("block" : Str), b), (("gone" : Str), .int g)]
structure PlcC (K : PySem.W.Frag) (C : Addr) : Prop where
  cl : Cls K C
  noT : NoAttr K C "things"
  noB : NoAttr K C "block"
  noG : NoAttr K C "gone"
theorem pTB : ¬ (("things" : Str) = "block") := by decide +kernel
theorem pTG : ¬ (("things" : Str) = "gone") := by decide +kernel
theorem pBG : ¬ (("block" : Str) = "gone") := by decide +kernel
theorem pl_new (t : Addr) (b : V) (g : Int) : putF "gone" (.int g) (putF "block" b (putF "things" (.ref t) [])) = plF t b g := by
  simp only [putF, if_neg pTB, if_neg pTG, if_neg pBG]
  rfl
theorem pl_things (t : Addr) (b : V) (g : Int) : (plF t b g).lookup ("things" : Str) = some (.ref t) := rfl
theorem pl_block (t : Addr) (b : V) (g : Int) : (plF t b g).lookup ("block" : Str) = some b := by
  have h : (("block" : Str) == "things") = false := by decide +kernel
  unfold plF
  rw [List.lookup_cons, h, List.lookup_cons, beq_self_eq_true]
theorem pl_gone (t : Addr) (b : V) (g : Int) : (plF t b g).lookup ("gone" : Str) = some (.int g) := by
  have h : (("gone" : Str) == "things") = false := by decide +kernel
  have h2 : (("gone" : Str) == "block") = false := by decide +kernel
  unfold plF
  rw [List.lookup_cons, h, List.lookup_cons, h2, List.lookup_cons, beq_self_eq_true]
theorem pl_putG (t : Addr) (b : V) (g k : Int) : putF "gone" (.int k) (plF t b g) = plF t b k := by
  unfold plF
  simp only [putF, if_neg pTG, if_neg pBG, if_pos]
theorem pl_putB (t : Addr) (b c : V) (g : Int) : putF "block" c (plF t b g) = plF t c g := by
  unfold plF
  simp only [putF, if_neg pTB, if_pos]
section
variable {P : Program} {w : World} {K : PySem.W.Frag} {mg : Str → Option Value} {base : Heap} {CF CP : Addr} {cA : OpK → Addr}
def spFunBy (K : PySem.W.Frag) : Sp := fun vs H Q _ => ∃ (pv : V) (p : List Fun) (n : Str) (f : Fun), vs = [pv, .str n] ∧ Rep K R0 H (progD p) pv ∧ funM p n = some f ∧ ∀ v, Rep K R0 H f.d v → Q v H
theorem funFrom_step {r : List Fun} {i : Nat} {g : Fun} {n : Str} {f : Fun} (h : r[i]? = some g) : funFrom (r.drop i) n f = funFrom (r.drop (i + 1)) n (if g.name = n then g else f) := by
  obtain ⟨hl, e⟩ := List.getElem?_eq_some_iff.mp h
  rw [List.drop_eq_getElem_cons hl, e]
  rfl
theorem sc_function_by : FnScope ["program", "name", "found", "function"] ["program", "name"] (defScope (top 14)) := ⟨rfl, rfl, rfl, by decide +kernel, rfl, by decide +kernel, by decide +kernel⟩
theorem ok_function_by (X : Fx mg) (F : FnP K mg "function_by" "function_by" (top 14)) : Cal P w K mg base CX0 1 "function_by" ["program", "name"] (spFunBy K) := by
  refine F.cal sc_function_by (fun _ _ _ _ _ _ us hl => match us, hl with | [_, _], _ => rfl) (fun vs H Q E h => ?_) (fun f cdv A outer s H vs Q E hr h => ?_)
  · obtain ⟨pv, p, n, f, rfl, _⟩ := h
    rfl
  · obtain ⟨pv, p, n, f, rfl, rp, hf, q⟩ := h
    obtain ⟨t, xs, rfl, ht, hl⟩ := rp.row_inv
    refine ⟨_, PSs.nox (pss_cons (ps_set (i := 2) sc_function_by.nd rfl (Or.inl rfl) (pe_ix ix_tup (pv 0) pe_int (fun _ _ => rfl)))
      (pss_cons (ps_for PassesOwn.never rfl (pi_tup (pv 0)) (pg_name (i := 3) sc_function_by.nd rfl (Or.inl rfl)) (pss_one (ps_if (pt_cmpR op_eq (pe_ix ix_tup (pv 3) pe_int (fun _ _ => rfl)) (pv 1) (nomark _)) (pss_one (ps_set (i := 2) sc_function_by.nd rfl (Or.inl rfl) (pv 3))) pss_nil)))
      (pss_one (ps_ret (pv 2))))), ?_⟩
    cases p with
    | nil => cases hf
    | cons g r =>
      have hf' : funFrom (g :: r) n g = f := Option.some.inj hf
      obtain ⟨v0, h0, rv0⟩ := hl.get (i := 0) rfl
      refine ⟨_, rfl, t, _, _, _, rfl, rfl, ht, atI_nat (j := 0) h0, ?_⟩
      refine ⟨_, rfl, t, rfl, ⟨_, ht⟩, for_tup (K := K) (a := t) (xs := xs) (fun i σ H2 => ∃ (k : Option V) (v : V) (f1 : Fun), σ = [some (.ref t), some (.str n), some v, k] ∧ H2 = H ∧ Rep K R0 H f1.d v ∧ funFrom ((g :: r).drop i) n f1 = f) ⟨none, v0, g, rfl, rfl, rv0, hf'⟩ (fun i σ H2 _ ⟨_, _, _, _, e, _⟩ => by rw [e]; exact ht) ?_ ?_⟩
      · rintro i x σ H2 hi ⟨k, v, f1, rfl, rfl, rv, e⟩
        obtain ⟨gd, hg, rg⟩ := hl.get' hi
        rw [List.getElem?_map] at hg
        obtain ⟨g1, hg1, rfl⟩ := Option.map_eq_some_iff.mp hg
        rw [funFrom_step hg1] at e
        obtain ⟨tg, ys, rfl, htg, hlg⟩ := id rg.row_inv
        obtain ⟨x1, x2, x3, rfl, h1, h2, h3⟩ := hlg.three
        cases h1.word_inv
        refine ⟨_, rfl, tg, _, _, _, rfl, rfl, htg, atI_nat (j := 0) rfl, _, rfl, rfl, _, rfl, ?_⟩
        by_cases c : g1.name = n
        · rw [if_pos c] at e
          rw [c, str_eq]
          exact iteT ⟨_, rfl, _, _, g1, rfl, rfl, rg, e⟩
        · rw [if_neg c] at e
          rw [str_ne c]
          exact iteF ⟨_, v, f1, rfl, rfl, rv, e⟩
      · rintro σ H2 ⟨k, v, f1, rfl, rfl, rv, e⟩
        have el : (g :: r).drop xs.length = [] := List.drop_eq_nil_of_le (by rw [hl.len, List.length_map]; exact Nat.le_refl _)
        rw [el] at e
        have e' : f1 = f := e
        subst e'
        exact ⟨_, rfl, q v rv⟩
def spPlaceInit (CP : Addr) : Sp := fun vs H Q _ => ∃ (p dx t : Addr) (b : V), vs = [.ref p, .ref t, b] ∧ H p = some (.ins CP dx []) ∧ Q .non (upd H p (.ins CP dx (plF t b 0)))
theorem sc_Place___init__ : FnScope ["self", "things", "block"] ["self", "things", "block"] (defScope (inClass (top 93) 0)) := ⟨rfl, rfl, rfl, by decide +kernel, rfl, by decide +kernel, by decide +kernel⟩
theorem ok_place_init (T : PlcC K CP) (F : MeP K CP "__init__" "__init__" "Place.__init__" (inClass (top 93) 0)) : MeCal P w K mg base CX0 1 CP "__init__" ["self", "things", "block"] (spPlaceInit CP) := by
  refine F.cal sc_Place___init__ (fun _ _ _ _ _ _ us hl => match us, hl with | [_, _, _], _ => rfl) (fun vs H Q E h => ?_) (fun f cdv A outer s H vs Q E hr h => ?_)
  · obtain ⟨p, dx, t, b, rfl, _⟩ := h
    rfl
  · obtain ⟨p, dx, t, b, rfl, hp, q⟩ := h
    refine ⟨_, PSs.nox (pss_cons (ps_fld (pv 0) (pv 1) rfl)
      (pss_cons (ps_fld (pv 0) (pv 2) rfl)
      (pss_one (ps_fld (pv 0) pe_int rfl)))), ?_⟩
    refine ⟨_, rfl, _, rfl, p, CP, dx, _, rfl, hp, T.cl, T.noT, by decide, _, rfl, _, rfl, p, CP, dx, _, rfl, upd_same, T.cl, T.noB, (by show 1 < 1000; decide), ?_⟩
    rw [upd_upd]
    refine ⟨_, rfl, p, CP, dx, _, rfl, upd_same, T.cl, T.noG, Nat.lt_of_le_of_lt (length_putF _ _ _) (by show 2 < 1000; decide), ?_⟩
    rw [upd_upd]
    show Q .non (upd H p (.ins CP dx (putF "gone" (.int 0) (putF "block" b (putF "things" (.ref t) [])))))
    rw [pl_new]
    exact q
def spAtomAt (K : PySem.W.Frag) : Sp := fun vs H Q _ => ∃ (R : Addr → Prop) (av : V) (a : Atom) (t : Addr) (kvs : List (Key × V)) (th : List (Str × D)) (d : D), vs = [av, .ref t] ∧ Rep K R0 H a.d av ∧ H t = some (.dK kvs) ∧ RepK K R H th kvs ∧ atomV th a = some d ∧ ∀ v, Rep K R H d v → Q v H
theorem sc_value_at_runner : FnScope ["atom", "things"] ["atom", "things"] (defScope (top 94)) := ⟨rfl, rfl, rfl, by decide +kernel, rfl, by decide +kernel, by decide +kernel⟩
theorem ok_value_at_runner (X : Fx mg) (F : FnP K mg "value_at_runner" "value_at" (top 94)) : Cal P w K mg base CX0 1 "value_at_runner" ["atom", "things"] (spAtomAt K) := by
  refine F.cal sc_value_at_runner (fun _ _ _ _ _ _ us hl => match us, hl with | [_, _], _ => rfl) (fun vs H Q E h => ?_) (fun f cdv A outer s H vs Q E hr h => ?_)
  · obtain ⟨R, av, a, t, kvs, th, d, rfl, _⟩ := h
    rfl
  · have hu := hu_of hr
    obtain ⟨R, av, a, t, kvs, th, d, rfl, ra, ht, hk, e, q⟩ := h
    refine ⟨_, PSs.nox (pss_cons (ps_if (pt_cmpR op_eq (pe_ix ix_tup (pv 0) pe_int (fun _ _ => rfl)) pe_str (nomark _)) (pss_one (ps_ret (pe_ix ix_tup (pv 0) pe_int (fun _ _ => rfl)))) pss_nil)
      (pss_one (ps_ret (pe_dget hu (pv 1) (pe_ix ix_tup (pv 0) pe_int (fun _ _ => rfl)) (fun _ _ => rfl))))), ?_⟩
    cases a with
    | is wd =>
      obtain ⟨ta, x1, x2, rfl, hta, r1, r2⟩ := ra.pair_inv
      cases r1.word_inv
      cases r2.word_inv
      cases e
      refine ⟨_, rfl, ta, _, _, _, rfl, rfl, hta, atI_nat (j := 0) rfl, rfl, _, rfl, ?_⟩
      rw [str_eq]
      exact iteT ⟨_, rfl, ta, _, _, _, rfl, rfl, hta, atI_nat (j := 1) rfl, q _ (.word _)⟩
    | of n =>
      obtain ⟨ta, x1, x2, rfl, hta, r1, r2⟩ := ra.pair_inv
      cases r1.word_inv
      cases r2.word_inv
      refine ⟨_, rfl, ta, _, _, _, rfl, rfl, hta, atI_nat (j := 0) rfl, rfl, _, rfl, ?_⟩
      rw [str_ne (a := "of") (b := "is") (by decide +kernel)]
      obtain ⟨v, ev, rv⟩ := hk.val e
      have g := DGet.k (k := Sum.inr n) ht
      rw [ev] at g
      exact iteF ⟨_, rfl, _, rfl, ta, _, _, _, rfl, rfl, hta, atI_nat (j := 1) rfl, t, v, rfl, g, q v rv⟩
def spValuesAt (K : PySem.W.Frag) : Sp := fun vs H Q _ => ∃ (R : Addr → Prop) (av : V) (as : List Atom) (t : Addr) (kvs : List (Key × V)) (th : List (Str × D)) (ds : List D), vs = [av, .ref t] ∧ Rep K R0 H (atomsD as) av ∧ as.length ≤ 1000 ∧ H t = some (.dK kvs) ∧ RepK K R H th kvs ∧ atomsV th as = some ds ∧
  ∀ (p : Addr) (xs : List V) (H' : Hp), Same H H' → SqT K H' p xs → RepL K R H' ds xs → Q (.ref p) H'
theorem sc_values_at : FnScope ["atoms", "things", "atom"] ["atoms", "things"] (defScope (top 96)) := ⟨rfl, rfl, rfl, by decide +kernel, rfl, by decide +kernel, by decide +kernel⟩
theorem ok_values_at (X : Fx mg) (c_value_at_runner : Cal P w K mg base CX0 1 "value_at_runner" ["atom", "things"] (spAtomAt K)) (F : FnP K mg "values_at" "values_at" (top 96)) : Cal P w K mg base CX0 2 "values_at" ["atoms", "things"] (spValuesAt K) := by
  refine F.cal sc_values_at (fun _ _ _ _ _ _ us hl => match us, hl with | [_, _], _ => rfl) (fun vs H Q E h => ?_) (fun f cdv A outer s H vs Q E hr h => ?_)
  · obtain ⟨R, av, as, t, kvs, th, ds, rfl, _⟩ := h
    rfl
  · obtain ⟨R, av, as, t, kvs, th, ds, rfl, ra, hz, ht, hk, e, q⟩ := h
    obtain ⟨ta, xs, rfl, hta, hl⟩ := ra.row_inv
    refine ⟨_, PSs.nox (pss_one (ps_ret (pe_tupleOf rfl X.tuple (pe_lc (own := [("atom", 2)]) (g := gName 2) (tt := tYes) rfl sc_values_at.nd (pi_tup (pv 0)) (blkOk_by (N := ["atoms", "things", "atom"]) (sc := defScope (top 96)) (by decide +kernel)) (fun _ _ _ _ _ => pg_name (i := 2) sc_values_at.nd rfl (Or.inl rfl)) (fun _ _ _ _ _ => pts_nil) (fun _ _ _ _ _ => (pe_cal c_value_at_runner hr pass0 (pa_cons (pv 2) (pa_cons (pv 1) pa_nil)))))))), ?_⟩
    refine ⟨_, rfl, ta, rfl, ⟨_, hta⟩, fun Dl nD => lc_tup (K := K) (a := ta) (xs := xs) (fun i H' => ∃ acc : List V, H' Dl = some (.lst acc) ∧ acc.length = i ∧ RepL K R H' (ds.take i) acc ∧ Same H H') ⟨[], upd_same, rfl, .nil, Same.new nD⟩ (fun i H' _ ⟨_, _, _, _, s1⟩ => seqT s1 hta) ?_ ?_⟩
    · rintro i x H1 hi ⟨acc, hD, hacc, hr', s1⟩
      obtain ⟨ad, had, rad⟩ := hl.get' hi
      rw [List.getElem?_map] at had
      obtain ⟨a, ha, rfl⟩ := Option.map_eq_some_iff.mp had
      obtain ⟨d, hd, ed⟩ := atomsV_at e ha
      refine ⟨rfl, ?_⟩
      unfold tYes
      refine iteT ⟨_, rfl, _, rfl, R, x, a, t, kvs, th, d, rfl, rad.same s1, s1 _ _ ht, hk.same s1, ed, fun v rv => ?_⟩
      have hil : i < as.length := (List.getElem?_eq_some_iff.mp ha).1
      refine ⟨acc, hD, Nat.lt_of_lt_of_le (show acc.length < 1001 by omega) (by decide), acc ++ [v], upd_same, by rw [List.length_append, hacc]; rfl, ?_, grow s1 nD⟩
      rw [List.take_succ, hd]
      exact (hr'.mono (Kept.lst hD)).append (.cons (rv.mono (Kept.lst hD)) .nil)
    · rintro H1 ⟨acc, hD, hacc, hr', s1⟩
      rw [hl.len, List.length_map, ← atomsV_len e, List.take_length] at hr'
      exact .inl ⟨Dl, acc, rfl, SqL.of hD, fun p np => q _ _ _ (s1.trans (Same.new np)) (SqT.of upd_same) (hr'.same (Same.new np))⟩
end
end Fk
set_option maxHeartbeats 4000000
/-! ## The runner: states; place_in -/
namespace Fk
open PySem PySem.Spec PyProof.Rows L2 TL
structure Frm where
  th : List (Str × D)
  blk : Blk
  gone : Nat
abbrev Wt := List (Frm × Str)
def Stp.atoms : Stp → List Atom
  | .let_ _ _ as => as
  | .call _ _ as => as
def Stp.opk : Stp → OpK
  | .let_ _ o _ => o
  | .call _ _ _ => .add
inductive LOut where
  | next (c : Frm) (w : Wt) | fault (w : Str)
def enterM (p : List Fun) (f : Str) (ds : List D) : Option Frm := match funM p f with
  | none => none
  | some fn => if fn.params.length = ds.length ∧ ds.length ≤ 100 then some ⟨bindF fn.params ds [], fn.blk, 0⟩ else none
def putF_ (c : Frm) (n : Str) (d : D) : Frm := ⟨putS c.th n d, c.blk, c.gone + 1⟩
def doM (p : List Fun) (cur : Frm) (wt : Wt) (ds : List D) : Stp → Option LOut
  | .call n f _ => if wt.length ≤ 10000 then (enterM p f ds).map fun fr => .next fr ((cur, n) :: wt) else none
  | .let_ n o _ => if cur.th.length ≤ 500 then (match ansM o ds with
    | none => none
    | some (.error w) => some (.fault w)
    | some (.ok d) => some (.next (putF_ cur n d) wt)) else none
def rstepM (p : List Fun) (cur : Frm) (wt : Wt) : Option LOut := match cur.blk.steps[cur.gone]? with
  | none => none
  | some st => if st.atoms.length ≤ 1000 then (match atomsV cur.th st.atoms with
    | none => none
    | some ds => doM p cur wt ds st) else none
def endM_ (p : List Fun) (cur : Frm) (wt : Wt) : Option LOut := match cur.blk with
  | .give _ a => (match wt, atomV cur.th a with
    | (fr, n) :: wt', some d => if fr.th.length ≤ 500 then some (.next (putF_ fr n d) wt') else none
    | _, _ => none)
  | .go _ f as => if as.length ≤ 1000 then (match atomsV cur.th as with
    | none => none
    | some ds => (enterM p f ds).map fun fr => .next fr wt) else none
  | .iff _ a b c => (match atomV cur.th a with
    | some (.num n) => some (.next ⟨cur.th, if n = 0 then c else b, 0⟩ wt)
    | _ => none)
def lineM (p : List Fun) (cur : Frm) (wt : Wt) : Option LOut := if cur.gone < cur.blk.steps.length then rstepM p cur wt else endM_ p cur wt
section
variable (K : PySem.W.Frag) (CP : Addr) (H0 : Hp)
abbrev RH (H0 : Hp) : Addr → Prop := fun a => H0 a ≠ none
/-- a place of the runner at p, its things at t -/
def FrR (H : Hp) (fr : Frm) (p t : Addr) : Prop := ∃ (dx : Addr) (kvs : List (Key × V)) (bv : V), H p = some (.ins CP dx (plF t bv (fr.gone : Int))) ∧ Rep K R0 H fr.blk.d bv ∧ H t = some (.dK kvs) ∧ RepK K (RH H0) H fr.th kvs ∧ H0 p = none ∧ H0 t = none
/-- the calls that wait -/
inductive WR (H : Hp) : Wt → List V → List Addr → List Addr → Prop
  | nil : WR H [] [] [] []
  | cons {wt : Wt} {ws : List V} {ps ts : List Addr} {fr : Frm} {n : Str} {tp p t : Addr} : WR H wt ws ps ts → H tp = some (.tup [.ref p, .str n]) → FrR K CP H0 H fr p t → p ∉ ps → t ∉ ts → WR H ((fr, n) :: wt) (ws ++ [.ref tp]) (p :: ps) (t :: ts)
/-- a state of the run -/
structure MR (H : Hp) (cur : Frm) (wt : Wt) (p wl t : Addr) (ws : List V) (ps ts : List Addr) : Prop where
  s : Same H0 H
  fr : FrR K CP H0 H cur p t
  wr : WR K CP H0 H wt ws ps ts
  np : p ∉ ps
  nt : t ∉ ts
  hwl : H wl = some (.lst ws)
  hnw : H0 wl = none
def Mst (H : Hp) (cur : Frm) (wt : Wt) (p wl : Addr) : Prop := ∃ (t : Addr) (ws : List V) (ps ts : List Addr), MR K CP H0 H cur wt p wl t ws ps ts
end
section
variable {K : PySem.W.Frag} {CP : Addr} {H0 H H' : Hp}
theorem Kept.zero {R : Addr → Prop} (k : Kept R H H') : Kept R0 H H' := ⟨k.tup, fun _ _ z _ => z.elim⟩
theorem Kept.ins {R : Addr → Prop} {p C dx : Addr} {fs : List (Str × V)} {o : HO} (h : H p = some (.ins C dx fs)) : Kept R H (L2.upd H p o) := by
  refine ⟨fun b u e z => ?_, fun b kvs _ e => ?_⟩
  · rw [upd_ne]
    · exact e
    · rintro rfl
      rw [h] at e
      cases e
      rcases z with ⟨_, z⟩ | ⟨_, _, z⟩ <;> cases z
  · rw [upd_ne]
    · exact e
    · rintro rfl
      rw [h] at e
      cases e
theorem FrR.mono {fr : Frm} {p t : Addr} (k : Kept (RH H0) H H') (hp : H' p = H p) (ht : H' t = H t) (h : FrR K CP H0 H fr p t) : FrR K CP H0 H' fr p t := by
  obtain ⟨dx, kvs, bv, h1, h2, h3, h4, h5, h6⟩ := h
  exact ⟨dx, kvs, bv, hp.trans h1, h2.mono k.zero, ht.trans h3, h4.mono k, h5, h6⟩
theorem WR.mono (k : Kept (RH H0) H H') : ∀ {wt : Wt} {ws : List V} {ps ts : List Addr}, WR K CP H0 H wt ws ps ts → (∀ a ∈ ps, H' a = H a) → (∀ a ∈ ts, H' a = H a) → WR K CP H0 H' wt ws ps ts
  | _, _, _, _, .nil, _, _ => .nil
  | _, _, _, _, .cons w e f n1 n2, hp, ht => .cons (WR.mono k w (fun a h => hp a (List.mem_cons_of_mem _ h)) (fun a h => ht a (List.mem_cons_of_mem _ h))) (k.tup _ _ e (.inl ⟨_, rfl⟩)) (f.mono k (hp _ List.mem_cons_self) (ht _ List.mem_cons_self)) n1 n2
theorem WR.some : ∀ {wt : Wt} {ws : List V} {ps ts : List Addr}, WR K CP H0 H wt ws ps ts → (∀ a ∈ ps, ∃ dx fs, H a = some (.ins CP dx fs)) ∧ (∀ a ∈ ts, ∃ kvs, H a = some (.dK kvs)) ∧ ws.length = wt.length
  | _, _, _, _, .nil => ⟨fun a h => (by cases h), fun a h => (by cases h), rfl⟩
  | _, _, _, _, .cons w e f n1 n2 => by
    obtain ⟨h1, h2, h3⟩ := w.some
    obtain ⟨dx, kvs, bv, g1, g2, g3, g4, g5⟩ := f
    refine ⟨fun a h => ?_, fun a h => ?_, ?_⟩
    · rcases List.mem_cons.mp h with e | h
      · rw [e]; exact ⟨dx, _, g1⟩
      · exact h1 a h
    · rcases List.mem_cons.mp h with e | h
      · rw [e]; exact ⟨kvs, g3⟩
      · exact h2 a h
    · rw [List.length_append, List.length_cons, h3]
      rfl
theorem WR.same {wt : Wt} {ws : List V} {ps ts : List Addr} (w : WR K CP H0 H wt ws ps ts) (s : Same H H') : WR K CP H0 H' wt ws ps ts := by
  obtain ⟨h1, h2, _⟩ := w.some
  refine w.mono (.of_same s) (fun a h => ?_) (fun a h => ?_)
  · obtain ⟨dx, fs, e⟩ := h1 a h
    rw [e]; exact s _ _ e
  · obtain ⟨kvs, e⟩ := h2 a h
    rw [e]; exact s _ _ e
theorem FrR.same {fr : Frm} {p t : Addr} (h : FrR K CP H0 H fr p t) (s : Same H H') : FrR K CP H0 H' fr p t := by
  obtain ⟨dx, kvs, bv, h1, h2, h3, h4, h5, h6⟩ := h
  exact ⟨dx, kvs, bv, s _ _ h1, h2.same s, s _ _ h3, h4.same s, h5, h6⟩
theorem MR.same {cur : Frm} {wt : Wt} {p wl t : Addr} {ws : List V} {ps ts : List Addr} (m : MR K CP H0 H cur wt p wl t ws ps ts) (s : Same H H') : MR K CP H0 H' cur wt p wl t ws ps ts :=
  ⟨m.s.trans s, m.fr.same s, m.wr.same s, m.np, m.nt, s _ _ m.hwl, m.hnw⟩
/-- what is not new stays where it was free -/
theorem free_up {a : Addr} (s : Same H0 H) (h : H a = none) : H0 a = none := s.free h
end
section
variable {P : Program} {w : World} {K : PySem.W.Frag} {mg : Str → Option Value} {base : Heap} {CF CP : Addr} {cA : OpK → Addr}
def spPlaceIn (K : PySem.W.Frag) (CP : Addr) : Sp := fun vs H Q _ => ∃ (R : Addr → Prop) (pgv : V) (p : List Fun) (n : Str) (q : Addr) (xs : List V) (ds : List D) (fr : Frm), vs = [pgv, .str n, .ref q] ∧ Rep K R0 H (progD p) pgv ∧ SqT K H q xs ∧ RepL K R H ds xs ∧ (∀ a, R a → H a ≠ none) ∧ enterM p n ds = some fr ∧
  ∀ (pl t dx : Addr) (kvs : List (Key × V)) (bv : V) (H' : Hp), Same H H' → H pl = none → H t = none → H' pl = some (.ins CP dx (plF t bv (fr.gone : Int))) → Rep K R0 H' fr.blk.d bv → H' t = some (.dK kvs) → RepK K R H' fr.th kvs → Q (.ref pl) H'
theorem putS_len (th : List (Str × D)) (k : Str) (d : D) : (putS th k d).length ≤ th.length + 1 := by
  unfold putS
  by_cases h : (th.lookup k).isSome = true
  · rw [if_pos h, List.length_map]
    omega
  · rw [if_neg h, List.length_append]
    exact Nat.le_refl _
def bindN : Nat → List Str → List D → List (Str × D)
  | 0, _, _ => []
  | i + 1, ps, ds => (match ps[i]?, ds[i]? with
    | some p, some d => putS (bindN i ps ds) p d
    | _, _ => bindN i ps ds)
theorem bindF_drop : ∀ (i : Nat) (ps : List Str) (ds : List D), bindF ps ds [] = bindF (ps.drop i) (ds.drop i) (bindN i ps ds)
  | 0, ps, ds => rfl
  | i + 1, ps, ds => by
    rw [bindF_drop i ps ds]
    cases h1 : ps[i]? with
    | none =>
      have e1 : ps.drop i = [] := List.drop_eq_nil_of_le (List.getElem?_eq_none_iff.mp h1)
      have e2 : ps.drop (i + 1) = [] := List.drop_eq_nil_of_le (by have := List.getElem?_eq_none_iff.mp h1; omega)
      have e3 : bindN (i + 1) ps ds = bindN i ps ds := by
        show (match ps[i]?, ds[i]? with
          | some p, some d => putS (bindN i ps ds) p d
          | _, _ => bindN i ps ds) = _
        rw [h1]
      rw [e1, e2, e3]
      rfl
    | some p =>
      cases h2 : ds[i]? with
      | none =>
        have e1 : ds.drop i = [] := List.drop_eq_nil_of_le (List.getElem?_eq_none_iff.mp h2)
        have e2 : ds.drop (i + 1) = [] := List.drop_eq_nil_of_le (by have := List.getElem?_eq_none_iff.mp h2; omega)
        have e3 : bindN (i + 1) ps ds = bindN i ps ds := by
          show (match ps[i]?, ds[i]? with
            | some p, some d => putS (bindN i ps ds) p d
            | _, _ => bindN i ps ds) = _
          rw [h1, h2]
        have nil : ∀ (l : List Str) (x : List (Str × D)), bindF l [] x = x := fun l x => by cases l <;> rfl
        rw [e1, e2, e3, nil, nil]
      | some d =>
        have e1 : ps.drop i = p :: ps.drop (i + 1) := by
          obtain ⟨hl, e⟩ := List.getElem?_eq_some_iff.mp h1
          rw [List.drop_eq_getElem_cons hl, e]
        have e2 : ds.drop i = d :: ds.drop (i + 1) := by
          obtain ⟨hl, e⟩ := List.getElem?_eq_some_iff.mp h2
          rw [List.drop_eq_getElem_cons hl, e]
        have e3 : bindN (i + 1) ps ds = putS (bindN i ps ds) p d := by
          show (match ps[i]?, ds[i]? with
            | some p, some d => putS (bindN i ps ds) p d
            | _, _ => bindN i ps ds) = _
          rw [h1, h2]
        rw [e1, e2, e3]
        rfl
theorem bindN_all {ps : List Str} {ds : List D} (h : ps.length = ds.length) : bindN ps.length ps ds = bindF ps ds [] := by
  rw [bindF_drop ps.length ps ds, List.drop_length]
  rfl
theorem bindN_len : ∀ (i : Nat) (ps : List Str) (ds : List D), (bindN i ps ds).length ≤ i
  | 0, _, _ => Nat.zero_le _
  | i + 1, ps, ds => by
    have ih := bindN_len i ps ds
    unfold bindN
    split
    · exact Nat.le_trans (putS_len _ _ _) (by omega)
    · omega
theorem sc_place_in : FnScope ["program", "name", "values", "function", "things", "param", "value"] ["program", "name", "values"] (defScope (top 97)) := ⟨rfl, rfl, rfl, by decide +kernel, rfl, by decide +kernel, by decide +kernel⟩
theorem ok_place_in (X : Fx mg) (c_function_by : Cal P w K mg base CX0 1 "function_by" ["program", "name"] (spFunBy K)) (c_Place : MkCal P w K mg base CX0 1 "Place" CP ["self", "things", "block"] (spPlaceInit CP)) (F : FnP K mg "place_in" "place_in" (top 97)) :
    Cal P w K mg base CX0 3 "place_in" ["program", "name", "values"] (spPlaceIn K CP) := by
  refine F.cal sc_place_in (fun _ _ _ _ _ _ us hl => match us, hl with | [_, _, _], _ => rfl) (fun vs H Q E h => ?_) (fun f cdv A outer s H vs Q E hr h => ?_)
  · obtain ⟨R, pgv, p, n, q, xs, ds, fr, rfl, _⟩ := h
    rfl
  · have hu := hu_of hr
    have hr1 : Room 1 _ := hr.mono (by decide)
    obtain ⟨R, pgv, p, n, q, xs, ds, fr, rfl, rp, hq, hl, hR, he, k⟩ := h
    unfold enterM at he
    cases ef : funM p n with
    | none =>
      rw [ef] at he
      cases he
    | some fn =>
      rw [ef] at he
      have he' : (if fn.params.length = ds.length ∧ ds.length ≤ 100 then some (⟨bindF fn.params ds [], fn.blk, 0⟩ : Frm) else none) = some fr := he
      by_cases hc : fn.params.length = ds.length ∧ ds.length ≤ 100
      · rw [if_pos hc] at he'
        cases he'
        refine ⟨_, PSs.nox (pss_cons (ps_set (i := 3) sc_place_in.nd rfl (Or.inl rfl) (pe_cal c_function_by hr1 pass0 (pa_cons (pv 0) (pa_cons (pv 1) pa_nil))))
      (pss_cons (ps_set (i := 4) sc_place_in.nd rfl (Or.inl rfl) pe_dnewK)
      (pss_cons (ps_for PassesOwn.never rfl (RZ.pi_zipA rfl X.zip (pa_cons (pe_ix ix_tup (pv 3) pe_int (fun _ _ => rfl)) (pa_cons (pv 2) pa_nil))) (pg_tup rfl (pgs_cons (pg_name (i := 5) sc_place_in.nd rfl (Or.inl rfl)) (pgs_cons (pg_name (i := 6) sc_place_in.nd rfl (Or.inl rfl)) pgs_nil))) (pss_one (ps_dput hu (pv 4) (pv 5) (pv 6) rfl)))
      (pss_one (ps_ret (pe_mk c_Place hr pass0 (pa_cons (pv 4) (pa_cons (pe_ix ix_tup (pv 3) pe_int (fun _ _ => rfl)) pa_nil)))))))), ?_⟩
        refine ⟨_, rfl, _, rfl, pgv, p, n, fn, rfl, rp, ef, fun fv rf => ?_⟩
        obtain ⟨tf, ys, rfl, htf, hlf⟩ := rf.row_inv
        obtain ⟨x1, x2, x3, rfl, h1, h2, h3⟩ := hlf.three
        cases h1.word_inv
        obtain ⟨tp, zs, rfl, htp, hlp⟩ := h2.row_inv
        intro sc nsc
        have s1 : Same H (upd H sc (.dK [])) := Same.new nsc
        have hxl : xs.length = ds.length := hl.len
        have hzl : zs.length = fn.params.length := by rw [hlp.len, List.length_map]
        refine ⟨_, rfl, tf, _, _, _, rfl, rfl, seqT s1 htf, atI_nat (j := 1) rfl, _, rfl, tp, q, zs, xs, rfl, .inr ⟨seqT s1 htp, seqT s1 hq, ?_⟩⟩
        refine RZ.for_zipT (by omega) (fun i σ H2 => ∃ a b : Option V, ∃ kvs : List (Key × V), σ = [some pgv, some (.str n), some (.ref q), some (.ref tf), some (.ref sc), a, b] ∧ Same H H2 ∧ H2 sc = some (.dK kvs) ∧ RepK K R H2 (bindN i fn.params ds) kvs) ⟨none, none, [], rfl, s1, upd_same, .nil⟩ (fun i σ H2 ⟨_, _, _, _, s2, _⟩ => ⟨seqT s2 htp, seqT s2 hq⟩) ?_ ?_
        · rintro i x y T σ H2 hx hy ⟨a, b, kvs, rfl, s2, hsc, hk⟩ nT
          obtain ⟨pd, hpd, rpd⟩ := hlp.get' hx
          rw [List.getElem?_map] at hpd
          obtain ⟨pn, hpn, rfl⟩ := Option.map_eq_some_iff.mp hpd
          cases rpd.word_inv
          obtain ⟨d, hd, rd⟩ := hl.get' hy
          have s3 : Same H2 (upd H2 T (.tup [.str pn, y])) := Same.new nT
          refine ⟨T, _, rfl, SqT.of upd_same, rfl, ?_⟩
          refine ⟨_, _, rfl, _, _, rfl, rfl, ?_⟩
          have hil : i < ds.length := (List.getElem?_eq_some_iff.mp hd).1
          refine ⟨_, rfl, _, rfl, _, rfl, sc, _, rfl, DPut.k (k := Sum.inr pn) (s3 _ _ hsc) (dk_small ?_), ?_⟩
          · rw [hk.len]
            have := bindN_len i fn.params ds
            omega
          · refine ⟨some (.str pn), some y, _, rfl, grow (s2.trans s3) nsc, upd_same, ?_⟩
            have e3 : bindN (i + 1) fn.params ds = putS (bindN i fn.params ds) pn d := by
              show (match fn.params[i]?, ds[i]? with
                | some p, some d => putS (bindN i fn.params ds) p d
                | _, _ => bindN i fn.params ds) = _
              rw [hpn, hd]
            rw [e3]
            have k3 : Kept R (upd H2 T (.tup [.str pn, y])) (upd (upd H2 T (.tup [.str pn, y])) sc (.dK (putK kvs (.inr pn) y))) := Kept.dk (s3 _ _ hsc) fun z => hR sc z nsc
            exact ((hk.same s3).mono k3).put ((rd.same (s2.trans s3)).mono k3)
        · rintro σ H2 ⟨a, b, kvs, rfl, s2, hsc, hk⟩
          rw [hzl, bindN_all hc.1] at hk
          refine ⟨_, rfl, _, rfl, tf, _, _, _, rfl, rfl, seqT s2 htf, atI_nat (j := 2) rfl, ?_⟩
          intro pl dx npl nd ne
          refine ⟨pl, dx, sc, x3, rfl, upd_same, ?_⟩
          have s5 : Same H2 (upd (upd (upd H2 dx (.own pl)) pl (.ins CP dx [])) pl (.ins CP dx (plF sc x3 0))) := fun b o e => by
            rw [upd_ne (ne_of_none e npl), upd_ne (ne_of_none e npl), upd_ne (ne_of_none e nd)]
            exact e
          exact ⟨rfl, k pl sc dx kvs x3 _ (s2.trans s5) (s2.free npl) nsc upd_same ((h3.same s2).same s5) (s5 _ _ hsc) (hk.same s5)⟩
      · rw [if_neg hc] at he'
        cases he'
end
end Fk
set_option maxHeartbeats 4000000
/-! ## The runner: a step -/
namespace Fk
open PySem PySem.Spec PyProof.Rows L2 TL
section
variable {P : Program} {w : World} {K : PySem.W.Frag} {mg : Str → Option Value} {base : Heap} {CF CP : Addr} {cA : OpK → Addr}
theorem RepL.four {R : Addr → Prop} {H : Hp} {a b c d : D} {xs : List V} (h : RepL K R H [a, b, c, d] xs) : ∃ x y z u, xs = [x, y, z, u] ∧ Rep K R H a x ∧ Rep K R H b y ∧ Rep K R H c z ∧ Rep K R H d u := by
  cases h with
  | cons h0 t =>
    obtain ⟨x, y, z, rfl, h1, h2, h3⟩ := t.three
    exact ⟨_, x, y, z, rfl, h0, h1, h2, h3⟩
/-- what a line leaves -/
def LTo (K : PySem.W.Frag) (CP CF : Addr) (H0 : Hp) (wl : Addr) (r : LOut) (H : Hp) (Q : VK) (E : XK) : Prop := match r with
  | .next c w => ∀ (p' : Addr) (H' : Hp), Mst K CP H0 H' c w p' wl → Q (.ref p') H'
  | .fault wd => FaultTo CF wd H E
/-- a new place takes the run over -/
theorem enter_ok {H0 H H' : Hp} {cur fr : Frm} {wt : Wt} {p wl t : Addr} {ws : List V} {ps ts : List Addr} {pl t2 dx : Addr} {kvs : List (Key × V)} {bv : V} (m : MR K CP H0 H cur wt p wl t ws ps ts) (s : Same H H') (npl : H pl = none) (nt2 : H t2 = none)
    (h1 : H' pl = some (.ins CP dx (plF t2 bv (fr.gone : Int)))) (h2 : Rep K R0 H' fr.blk.d bv) (h3 : H' t2 = some (.dK kvs)) (h4 : RepK K (RH H0) H' fr.th kvs) : Mst K CP H0 H' fr wt pl wl := by
  obtain ⟨a1, a2, a3⟩ := m.wr.some
  refine ⟨t2, ws, ps, ts, m.s.trans s, ⟨dx, kvs, bv, h1, h2, h3, h4, m.s.free npl, m.s.free nt2⟩, m.wr.same s, fun h => ?_, fun h => ?_, s _ _ m.hwl, m.hnw⟩
  · obtain ⟨_, _, e⟩ := a1 _ h
    rw [npl] at e
    cases e
  · obtain ⟨_, e⟩ := a2 _ h
    rw [nt2] at e
    cases e
/-- the place goes on: its things, its block and how many are gone -/
theorem stay_ok {H0 H : Hp} {cur : Frm} {wt : Wt} {p wl t dx : Addr} {ws : List V} {ps ts : List Addr} {kvs kvs' : List (Key × V)} {bv bv' : V} {fr : Frm} {g : Nat} (m : MR K CP H0 H cur wt p wl t ws ps ts)
    (hp : H p = some (.ins CP dx (plF t bv (g : Int)))) (ht : H t = some (.dK kvs)) (hb : Rep K R0 H fr.blk.d bv') (hk : RepK K (RH H0) H fr.th kvs') : Mst K CP H0 (upd (upd H t (.dK kvs')) p (.ins CP dx (plF t bv' (fr.gone : Int)))) fr wt p wl := by
  obtain ⟨a1, a2, a3⟩ := m.wr.some
  obtain ⟨_, _, _, _, _, _, _, n0p, n0t⟩ := m.fr
  have npt : p ≠ t := ne_of hp ht (by intro z; cases z)
  have k1 : Kept (RH H0) H (upd H t (.dK kvs')) := Kept.dk ht fun z => z n0t
  have hp1 : upd H t (.dK kvs') p = some (.ins CP dx (plF t bv (g : Int))) := by rw [upd_ne npt]; exact hp
  have k2 : Kept (RH H0) (upd H t (.dK kvs')) (upd (upd H t (.dK kvs')) p (.ins CP dx (plF t bv' (fr.gone : Int)))) := Kept.ins hp1
  have k := k1.trans k2
  refine ⟨t, ws, ps, ts, fun b o e => ?_, ⟨dx, kvs', bv', upd_same, hb.mono k.zero, ?_, hk.mono k, n0p, n0t⟩, m.wr.mono k (fun a h => ?_) (fun a h => ?_), m.np, m.nt, ?_, m.hnw⟩
  · rw [upd_ne (ne_of_none e n0p), upd_ne (ne_of_none e n0t)]
    exact m.s _ _ e
  · rw [upd_ne (Ne.symm npt), upd_same]
  · have h1 : a ≠ p := fun z => m.np (z ▸ h)
    have h2 : a ≠ t := by
      rintro rfl
      obtain ⟨_, _, e⟩ := a1 _ h
      rw [ht] at e
      cases e
    rw [upd_ne h1, upd_ne h2]
  · have h1 : a ≠ t := fun z => m.nt (z ▸ h)
    have h2 : a ≠ p := by
      rintro rfl
      obtain ⟨_, e⟩ := a2 _ h
      rw [hp] at e
      cases e
    rw [upd_ne h2, upd_ne h1]
  · have h1 : wl ≠ p := ne_of m.hwl hp (by intro z; cases z)
    have h2 : wl ≠ t := ne_of m.hwl ht (by intro z; cases z)
    rw [upd_ne h1, upd_ne h2]
    exact m.hwl
/-- a place's fields, its things, its block -/
theorem steps_inv {H : Hp} {b : Blk} {bv : V} (h : Rep K R0 H b.d bv) : ∃ (a sa : Addr) (ev : V) (ss : List V), bv = .ref a ∧ SqT K H a [.ref sa, ev] ∧ SqT K H sa ss ∧ RepL K R0 H (b.steps.map Stp.d) ss ∧ Rep K R0 H b.endD ev := by
  rw [Blk.d_eq] at h
  obtain ⟨a, xs, rfl, hx, hl⟩ := h.row_inv
  obtain ⟨x, y, rfl, h1, h2⟩ := hl.two
  obtain ⟨sa, ss, rfl, hs, hsl⟩ := h1.row_inv
  exact ⟨a, sa, y, ss, rfl, hx, hs, hsl, h2⟩
def spStepGone (K : PySem.W.Frag) (CP CF : Addr) : Sp := fun vs H Q E => ∃ (H0 : Hp) (pgv : V) (pg : List Fun) (cur : Frm) (wt : Wt) (p wl : Addr) (r : LOut), vs = [pgv, .ref p, .ref wl] ∧ Rep K R0 H0 (progD pg) pgv ∧ Mst K CP H0 H cur wt p wl ∧ rstepM pg cur wt = some r ∧ LTo K CP CF H0 wl r H Q E
theorem rstep_some {pg : List Fun} {cur : Frm} {wt : Wt} {r : LOut} (h : rstepM pg cur wt = some r) : ∃ st ds, cur.blk.steps[cur.gone]? = some st ∧ st.atoms.length ≤ 1000 ∧ atomsV cur.th st.atoms = some ds ∧ doM pg cur wt ds st = some r := by
  unfold rstepM at h
  cases e1 : cur.blk.steps[cur.gone]? with
  | none =>
    rw [e1] at h
    cases h
  | some st =>
    simp only [e1] at h
    by_cases c : st.atoms.length ≤ 1000
    · rw [if_pos c] at h
      cases e2 : atomsV cur.th st.atoms with
      | none =>
        rw [e2] at h
        cases h
      | some ds =>
        rw [e2] at h
        exact ⟨st, ds, rfl, c, e2, h⟩
    · rw [if_neg c] at h
      cases h
theorem sc_step_gone : FnScope ["program", "here", "waiting", "step", "values"] ["program", "here", "waiting"] (defScope (top 98)) := ⟨rfl, rfl, rfl, by decide +kernel, rfl, by decide +kernel, by decide +kernel⟩
theorem ok_step_gone (X : Fx mg) (T : PlcC K CP) (O : OpsP P w K mg base cA) (c_values_at : Cal P w K mg base CX0 2 "values_at" ["atoms", "things"] (spValuesAt K)) (c_place_in : Cal P w K mg base CX0 3 "place_in" ["program", "name", "values"] (spPlaceIn K CP))
    (c_op_of : Cal P w K mg base CX0 4 "op_of" ["word"] (spOpOf cA)) (ma : ∀ o, MeCal P w K mg base (L2.CX P w) 103 (cA o) "answer" ["self", "values"] (spAnswer K CF cA o))
    (F : FnP K mg "step_gone" "step_gone" (top 98)) : Cal P w K mg base (L2.CX P w) 104 "step_gone" ["program", "here", "waiting"] (spStepGone K CP CF) := by
  refine F.cal sc_step_gone (fun _ _ _ _ _ _ us hl => match us, hl with | [_, _, _], _ => rfl) (fun vs H Q E h => ?_) (fun f cdv A outer s H vs Q E hr h => ?_)
  · obtain ⟨H0, pgv, pg, cur, wt, p, wl, r, rfl, _⟩ := h
    rfl
  · have hu := hu_of hr
    have hr2 : Room 2 _ := hr.mono (by decide)
    have hr3 : Room 3 _ := hr.mono (by decide)
    have hr4 : Room 4 _ := hr.mono (by decide)
    obtain ⟨H0, pgv, pg, cur, wt, p, wl, r, rfl, rp, ⟨t, ws, ps, ts, m⟩, e, q⟩ := h
    obtain ⟨st, ds, est, haz, eds, edo⟩ := rstep_some e
    have m_answer := ma st.opk
    obtain ⟨dx, kvs, bv, hp, hb, ht, hk, n0p, n0t⟩ := id m.fr
    obtain ⟨ba, sa, ev, ss, rfl, hba, hsa, hsl, hev⟩ := steps_inv hb
    obtain ⟨stv, hst, rst⟩ := hsl.get (i := cur.gone) (d := st.d) (by rw [List.getElem?_map, est]; rfl)
    refine ⟨_, (pss_cons (ps_set (i := 3) sc_step_gone.nd rfl (Or.inl rfl) (pe_ix ix_tup (pe_ix ix_tup (pe_fld (pv 1) rfl) pe_int (fun _ _ => rfl)) (pe_fld (pv 1) rfl) (fun _ _ => rfl)))
      (pss_cons (ps_set (i := 4) sc_step_gone.nd rfl (Or.inl rfl) (pe_cal c_values_at hr2 pass0 (pa_cons (pe_ix ix_tup (pv 3) pe_int (fun _ _ => rfl)) (pa_cons (pe_fld (pv 1) rfl) pa_nil))))
      (pss_cons (ps_if (pt_cmpR op_eq (pe_ix ix_tup (pv 3) pe_int (fun _ _ => rfl)) pe_str (nomark _)) (pss_cons (ps_expr (pe_bm PySem.F.plainAttrs_list PySem.F.slot_list_append PySem.F.type_list_append mt_append (pv 2) (pa_cons (pe_tup (pa_cons (pv 1) (pa_cons (pe_ix ix_tup (pv 3) pe_int (fun _ _ => rfl)) pa_nil))) pa_nil)))
      (pss_one (ps_ret (pe_cal c_place_in hr3 pass0 (pa_cons (pv 0) (pa_cons (pe_ix ix_tup (pv 3) pe_int (fun _ _ => rfl)) (pa_cons (pv 4) pa_nil))))))) pss_nil)
      (pss_cons (ps_dput hu (pe_fld (pv 1) rfl) (pe_ix ix_tup (pv 3) pe_int (fun _ _ => rfl)) (pe_mcal m_answer (O.c st.opk).cl hr (passes_call (takes_of rfl rfl rfl rfl) fun _ _ _ _ z => z) (pe_cal c_op_of hr4 pass0 (pa_cons (pe_ix ix_tup (pv 3) pe_int (fun _ _ => rfl)) pa_nil)) (pa_cons (pv 4) pa_nil)) rfl)
      (pss_cons (ps_fld (pv 1) (pe_op op_add (pe_fld (pv 1) rfl) pe_int) rfl)
      (pss_one (ps_ret (pv 1)))))))), ?_⟩
    refine ⟨_, rfl, p, CP, dx, _, _, rfl, hp, T.cl, T.noB, pl_block _ _ _, ba, _, _, _, rfl, rfl, hba, atI_nat (j := 0) rfl, _, rfl, p, CP, dx, _, _, rfl, hp, T.cl, T.noG, pl_gone _ _ _, sa, _, _, _, rfl, rfl, hsa, atI_nat hst, ?_⟩
    cases st with
    | call n fn as =>
      obtain ⟨ta, zs, rfl, hta, hl4⟩ := rst.row_inv
      obtain ⟨y0, y1, y2, y3, rfl, h0, h1, h2, h3⟩ := hl4.four
      cases h0.word_inv
      cases h1.word_inv
      cases h2.word_inv
      refine ⟨_, rfl, ta, _, _, _, rfl, rfl, hta, atI_nat (j := 3) rfl, _, rfl, p, CP, dx, _, _, rfl, hp, T.cl, T.noT, pl_things _ _ _, RH H0, y3, as, t, kvs, cur.th, ds, rfl, h3, haz, ht, hk, eds, fun vp xs H1 s1 hvp rl1 => ?_⟩
      have m1 := m.same s1
      have hta1 := seqT s1 hta
      refine ⟨_, rfl, ta, _, _, _, rfl, rfl, hta1, atI_nat (j := 0) rfl, rfl, _, rfl, ?_⟩
      rw [str_eq]
      have edo' : (if wt.length ≤ 10000 then (enterM pg fn ds).map fun fr => LOut.next fr ((cur, n) :: wt) else none) = some r := edo
      by_cases hw : wt.length ≤ 10000
      · rw [if_pos hw] at edo'
        obtain ⟨fr, hfr, rfl⟩ := Option.map_eq_some_iff.mp edo'
        refine iteT ⟨_, rfl, .inl ⟨rfl, _, SqL.of m1.hwl⟩, _, rfl, _, rfl, ta, _, _, _, rfl, rfl, hta1, atI_nat (j := 1) rfl, by show 2 ≤ sizeLine; decide, fun tp ntp => ?_⟩
        have m2 := m1.same (Same.new ntp (o := .tup [.ref p, .str n]))
        have htp : upd H1 tp (.tup [.ref p, .str n]) tp = some (.tup [.ref p, .str n]) := upd_same
        have s2 : Same H1 (upd H1 tp (.tup [.ref p, .str n])) := Same.new ntp
        generalize upd H1 tp (.tup [.ref p, .str n]) = H2 at m2 htp s2 ⊢
        have hwl2 := m2.wr.some.2.2
        refine ⟨wl, ws, .ref tp, rfl, rfl, m2.hwl, Nat.lt_of_lt_of_le (show ws.length < 10001 by omega) (by decide), ?_⟩
        have k3 : Kept (RH H0) H2 (upd H2 wl (.lst (ws ++ [.ref tp]))) := Kept.lst m2.hwl
        have ne1 : ∀ {a : Addr} {o : HO}, H2 a = some o → (∀ l, o ≠ .lst l) → a ≠ wl := fun {a o} e n z => by
          rw [z, m2.hwl] at e
          cases e
          exact n _ rfl
        obtain ⟨dx2, kvs2, bv2, g1, g2, g3, g4, g5, g6⟩ := id m2.fr
        have m3 : MR K CP H0 (upd H2 wl (.lst (ws ++ [.ref tp]))) cur ((cur, n) :: wt) p wl t (ws ++ [.ref tp]) (p :: ps) (t :: ts) → True := fun _ => trivial
        have w3 : WR K CP H0 (upd H2 wl (.lst (ws ++ [.ref tp]))) ((cur, n) :: wt) (ws ++ [.ref tp]) (p :: ps) (t :: ts) := by
          obtain ⟨a1, a2, a3⟩ := m2.wr.some
          refine (WR.cons m2.wr htp m2.fr m2.np m2.nt).mono k3 (fun a h => ?_) (fun a h => ?_)
          · rcases List.mem_cons.mp h with e | h
            · rw [e, upd_ne (ne1 g1 (by intro l z; cases z))]
            · obtain ⟨_, _, e⟩ := a1 a h
              rw [upd_ne (ne1 e (by intro l z; cases z))]
          · rcases List.mem_cons.mp h with e | h
            · rw [e, upd_ne (ne1 g3 (by intro l z; cases z))]
            · obtain ⟨_, e⟩ := a2 a h
              rw [upd_ne (ne1 e (by intro l z; cases z))]
        have s3 : Same H0 (upd H2 wl (.lst (ws ++ [.ref tp]))) := fun b o e => by
          rw [upd_ne (ne_of_none e m2.hnw)]
          exact m2.s _ _ e
        have hta3 : SqT K (upd H2 wl (.lst (ws ++ [.ref tp]))) ta _ := SqT.mono k3.tup (seqT s2 hta1)
        have hvp3 : SqT K (upd H2 wl (.lst (ws ++ [.ref tp]))) vp xs := SqT.mono k3.tup (seqT s2 hvp)
        have rl3 : RepL K (RH H0) (upd H2 wl (.lst (ws ++ [.ref tp]))) ds xs := (rl1.same s2).mono k3
        refine ⟨_, rfl, _, rfl, ta, _, _, _, rfl, rfl, hta3, atI_nat (j := 2) rfl, _, rfl, RH H0, pgv, pg, fn, vp, xs, ds, fr, rfl, rp.same s3, hvp3, rl3, fun a ha z => ?_, hfr, fun pl t2 dx2 kvs2 bv2 H4 s4 npl nt2 q1 q2 q3 q4 => ?_⟩
        · cases eH : H0 a with
          | none => exact ha eH
          | some o =>
            rw [s3 _ _ eH] at z
            cases z
        · obtain ⟨a1, a2, a3⟩ := w3.some
          refine q pl H4 ⟨t2, _, _, _, s3.trans s4, ⟨dx2, kvs2, bv2, q1, q2, q3, q4, s3.free npl, s3.free nt2⟩, w3.same s4, fun h => ?_, fun h => ?_, s4 _ _ upd_same, m2.hnw⟩
          · obtain ⟨_, _, e⟩ := a1 _ h
            rw [npl] at e
            cases e
          · obtain ⟨_, e⟩ := a2 _ h
            rw [nt2] at e
            cases e
      · rw [if_neg hw] at edo'
        cases edo'
    | let_ n o as =>
      obtain ⟨ta, zs, rfl, hta, hl4⟩ := rst.row_inv
      obtain ⟨y0, y1, y2, y3, rfl, h0, h1, h2, h3⟩ := hl4.four
      cases h0.word_inv
      cases h1.word_inv
      cases h2.word_inv
      refine ⟨_, rfl, ta, _, _, _, rfl, rfl, hta, atI_nat (j := 3) rfl, _, rfl, p, CP, dx, _, _, rfl, hp, T.cl, T.noT, pl_things _ _ _, RH H0, y3, as, t, kvs, cur.th, ds, rfl, h3, haz, ht, hk, eds, fun vp xs H1 s1 hvp rl1 => ?_⟩
      have hta1 := seqT s1 hta
      refine ⟨_, rfl, ta, _, _, _, rfl, rfl, hta1, atI_nat (j := 0) rfl, rfl, _, rfl, ?_⟩
      rw [str_ne (a := "let") (b := "call") (by decide +kernel)]
      refine iteF ?_
      have edo' : (if cur.th.length ≤ 500 then (match ansM o ds with
        | none => none
        | some (.error w) => some (.fault w)
        | some (.ok d) => some (.next (putF_ cur n d) wt)) else none) = some r := edo
      by_cases hth : cur.th.length ≤ 500
      · rw [if_pos hth] at edo'
        refine ⟨_, rfl, ta, _, _, _, rfl, rfl, hta1, atI_nat (j := 2) rfl, o, rfl, fun p3 H3 s3 np3 ho => ?_⟩
        obtain ⟨dx3, tk, hp3, htk⟩ := id ho
        have s13 := s1.trans s3
        cases ea : ansM o ds with
        | none =>
          rw [ea] at edo'
          cases edo'
        | some rr =>
          rw [ea] at edo'
          refine ⟨p3, dx3, _, rfl, hp3, opF_no _ _ _ (by decide +kernel) (by decide +kernel) (by decide +kernel), _, rfl, RH H0, p3, vp, xs, ds, rr, rfl, ho, seqT s3 hvp, rl1.same s3, ea, ?_⟩
          cases rr with
          | error wd =>
            cases edo'
            exact FaultTo.of_same q s13
          | ok d =>
            cases edo'
            intro v H4 s4 rv
            have s14 := s13.trans s4
            have m4 := m.same s14
            have hta4 := seqT (s3.trans s4) hta1
            have hp4 := s14 _ _ hp
            have ht4 := s14 _ _ ht
            have hk4 := hk.same s14
            refine ⟨_, rfl, p, CP, dx, _, _, rfl, hp4, T.cl, T.noT, pl_things _ _ _, _, rfl, ta, _, _, _, rfl, rfl, hta4, atI_nat (j := 1) rfl, t, _, rfl, DPut.k (k := Sum.inr n) ht4 (dk_small (by rw [hk.len]; omega)), ?_⟩
            have npt : p ≠ t := ne_of hp4 ht4 (by intro z; cases z)
            have hp5 : upd H4 t (.dK (putK kvs (.inr n) v)) p = some (.ins CP dx (plF t (.ref ba) (cur.gone : Int))) := by rw [upd_ne npt]; exact hp4
            refine ⟨_, rfl, p, CP, dx, _, _, rfl, hp5, T.cl, T.noG, pl_gone _ _ _, _, _, rfl, rfl, _, rfl, p, CP, dx, _, rfl, hp5, T.cl, T.noG, by show 3 < 1000; decide, ?_⟩
            rw [pl_putG]
            have fin := stay_ok (fr := putF_ cur n d) (bv' := .ref ba) (kvs' := putK kvs (.inr n) v) m4 hp4 ht4 (hb.same s14) (hk4.put rv)
            exact ⟨_, rfl, q _ _ fin⟩
      · rw [if_neg hth] at edo'
        cases edo'
end
end Fk
set_option maxHeartbeats 4000000
/-! ## The runner: ends, lines -/
namespace Fk
open PySem PySem.Spec PyProof.Rows L2 TL
section
variable {P : Program} {w : World} {K : PySem.W.Frag} {mg : Str → Option Value} {base : Heap} {CF CP : Addr} {cA : OpK → Addr}
def spChosen (K : PySem.W.Frag) : Sp := fun vs H Q _ => ∃ (R : Addr → Prop) (ev : V) (a : Atom) (b c : Blk) (t : Addr) (kvs : List (Key × V)) (th : List (Str × D)) (n : Int), vs = [ev, .ref t] ∧ Rep K R0 H (.row [.word "if", a.d, b.d, c.d]) ev ∧ H t = some (.dK kvs) ∧ RepK K R H th kvs ∧ atomV th a = some (.num n) ∧
  ∀ v, Rep K R0 H (if n = 0 then c else b).d v → Q v H
theorem sc_block_chosen : FnScope ["end", "things", "value"] ["end", "things"] (defScope (top 99)) := ⟨rfl, rfl, rfl, by decide +kernel, rfl, by decide +kernel, by decide +kernel⟩
theorem ok_block_chosen (X : Fx mg) (c_value_at_runner : Cal P w K mg base CX0 1 "value_at_runner" ["atom", "things"] (spAtomAt K)) (F : FnP K mg "block_chosen" "block_chosen" (top 99)) : Cal P w K mg base CX0 2 "block_chosen" ["end", "things"] (spChosen K) := by
  refine F.cal sc_block_chosen (fun _ _ _ _ _ _ us hl => match us, hl with | [_, _], _ => rfl) (fun vs H Q E h => ?_) (fun f cdv A outer s H vs Q E hr h => ?_)
  · obtain ⟨R, ev, a, b, c, t, kvs, th, n, rfl, _⟩ := h
    rfl
  · obtain ⟨R, ev, a, b, c, t, kvs, th, n, rfl, re, ht, hk, e, q⟩ := h
    obtain ⟨ta, zs, rfl, hta, hl4⟩ := re.row_inv
    obtain ⟨y0, y1, y2, y3, rfl, h0, h1, h2, h3⟩ := hl4.four
    refine ⟨_, PSs.nox (pss_cons (ps_set (i := 2) sc_block_chosen.nd rfl (Or.inl rfl) (pe_cal c_value_at_runner hr pass0 (pa_cons (pe_ix ix_tup (pv 0) pe_int (fun _ _ => rfl)) (pa_cons (pv 1) pa_nil))))
      (pss_cons (ps_if (pt_not (pt_val (pe_callB (call_isiB "int") rfl X.isinstance (by decide +kernel) (pa_cons (pv 2) (pa_cons (pe_bltn (v := .ty "int") rfl X.int (by decide +kernel) rfl) pa_nil))))) (pss_one ps_never) pss_nil)
      (pss_cons (ps_if (pt_cmpR op_eq (pv 2) pe_int (nomark _)) (pss_one (ps_ret (pe_ix ix_tup (pv 0) pe_int (fun _ _ => rfl)))) pss_nil)
      (pss_one (ps_ret (pe_ix ix_tup (pv 0) pe_int (fun _ _ => rfl))))))), ?_⟩
    refine ⟨_, rfl, ta, _, _, _, rfl, rfl, hta, atI_nat (j := 1) rfl, _, rfl, R, y1, a, t, kvs, th, _, rfl, h1, ht, hk, e, fun v rv => ?_⟩
    cases rv.num_inv
    refine ⟨_, rfl, _, "int", true, rfl, .base (.int n), by decide +kernel, _, rfl, iteF ?_⟩
    refine ⟨_, rfl, rfl, _, rfl, ?_⟩
    by_cases hn : n = 0
    · rw [if_pos hn] at q
      rw [decide_eq_true (congrArg V.int hn)]
      exact iteT ⟨_, rfl, ta, _, _, _, rfl, rfl, hta, atI_nat (j := 3) rfl, q _ h3⟩
    · rw [if_neg hn] at q
      rw [decide_eq_false fun z => hn (V.int.inj z)]
      exact iteF ⟨_, rfl, ta, _, _, _, rfl, rfl, hta, atI_nat (j := 2) rfl, q _ h2⟩
def spEndGone (K : PySem.W.Frag) (CP : Addr) : Sp := fun vs H Q _ => ∃ (H0 : Hp) (pgv : V) (pg : List Fun) (cur : Frm) (wt : Wt) (p wl : Addr) (c' : Frm) (w' : Wt), vs = [pgv, .ref p] ∧ Rep K R0 H0 (progD pg) pgv ∧ Mst K CP H0 H cur wt p wl ∧ (∀ ss a, cur.blk ≠ .give ss a) ∧ endM_ pg cur wt = some (.next c' w') ∧
  ∀ (p' : Addr) (H' : Hp), Mst K CP H0 H' c' w' p' wl → Q (.ref p') H'
theorem sc_end_gone : FnScope ["program", "here", "end"] ["program", "here"] (defScope (top 100)) := ⟨rfl, rfl, rfl, by decide +kernel, rfl, by decide +kernel, by decide +kernel⟩
theorem ok_end_gone (X : Fx mg) (T : PlcC K CP) (c_values_at : Cal P w K mg base CX0 2 "values_at" ["atoms", "things"] (spValuesAt K)) (c_place_in : Cal P w K mg base CX0 3 "place_in" ["program", "name", "values"] (spPlaceIn K CP)) (c_block_chosen : Cal P w K mg base CX0 2 "block_chosen" ["end", "things"] (spChosen K))
    (F : FnP K mg "end_gone" "end_gone" (top 100)) : Cal P w K mg base CX0 4 "end_gone" ["program", "here"] (spEndGone K CP) := by
  refine F.cal sc_end_gone (fun _ _ _ _ _ _ us hl => match us, hl with | [_, _], _ => rfl) (fun vs H Q E h => ?_) (fun f cdv A outer s H vs Q E hr h => ?_)
  · obtain ⟨H0, pgv, pg, cur, wt, p, wl, c', w', rfl, _⟩ := h
    rfl
  · have hr2 : Room 2 _ := hr.mono (by decide)
    obtain ⟨H0, pgv, pg, cur, wt, p, wl, c', w', rfl, rp, ⟨t, ws, ps, ts, m⟩, hng, e, q⟩ := h
    obtain ⟨dx, kvs, bv, hp, hb, ht, hk, n0p, n0t⟩ := id m.fr
    obtain ⟨ba, sa, ev, ss, rfl, hba, hsa, hsl, hev⟩ := steps_inv hb
    refine ⟨_, PSs.nox (pss_cons (ps_set (i := 2) sc_end_gone.nd rfl (Or.inl rfl) (pe_ix ix_tup (pe_fld (pv 1) rfl) pe_int (fun _ _ => rfl)))
      (pss_cons (ps_if (pt_cmpR op_eq (pe_ix ix_tup (pv 2) pe_int (fun _ _ => rfl)) pe_str (nomark _)) (pss_one (ps_ret (pe_cal c_place_in hr pass0 (pa_cons (pv 0) (pa_cons (pe_ix ix_tup (pv 2) pe_int (fun _ _ => rfl)) (pa_cons (pe_cal c_values_at hr2 pass0 (pa_cons (pe_ix ix_tup (pv 2) pe_int (fun _ _ => rfl)) (pa_cons (pe_fld (pv 1) rfl) pa_nil))) pa_nil)))))) pss_nil)
      (pss_cons (ps_if (pt_cmpR op_eq (pe_ix ix_tup (pv 2) pe_int (fun _ _ => rfl)) pe_str (nomark _)) pss_never pss_nil)
      (pss_cons (ps_fld (pv 1) (pe_cal c_block_chosen hr2 pass0 (pa_cons (pv 2) (pa_cons (pe_fld (pv 1) rfl) pa_nil))) rfl)
      (pss_cons (ps_fld (pv 1) pe_int rfl)
      (pss_one (ps_ret (pv 1)))))))), ?_⟩
    refine ⟨_, rfl, p, CP, dx, _, _, rfl, hp, T.cl, T.noB, pl_block _ _ _, ba, _, _, _, rfl, rfl, hba, atI_nat (j := 1) rfl, ?_⟩
    obtain ⟨cth, cblk, cg⟩ := cur
    cases cblk with
    | give ss' a => exact absurd rfl (hng ss' a)
    | go ss' fn as =>
      obtain ⟨ta, zs, rfl, hta, hl3⟩ := hev.row_inv
      obtain ⟨y0, y1, y2, rfl, h0, h1, h2⟩ := hl3.three
      cases h0.word_inv
      cases h1.word_inv
      have e' : (if as.length ≤ 1000 then (match atomsV cth as with
        | none => none
        | some ds => (enterM pg fn ds).map fun fr => LOut.next fr wt) else none) = some (LOut.next c' w') := e
      by_cases haz : as.length ≤ 1000
      · rw [if_pos haz] at e'
        cases eds : atomsV cth as with
        | none =>
          rw [eds] at e'
          cases e'
        | some ds =>
          rw [eds] at e'
          obtain ⟨fr, hfr, e2⟩ := Option.map_eq_some_iff.mp e'
          cases e2
          refine ⟨_, rfl, ta, _, _, _, rfl, rfl, hta, atI_nat (j := 0) rfl, rfl, _, rfl, ?_⟩
          rw [str_eq]
          refine iteT ⟨_, rfl, _, rfl, ta, _, _, _, rfl, rfl, hta, atI_nat (j := 1) rfl, _, rfl, ta, _, _, _, rfl, rfl, hta, atI_nat (j := 2) rfl, _, rfl, p, CP, dx, _, _, rfl, hp, T.cl, T.noT, pl_things _ _ _, RH H0, y2, as, t, kvs, cth, ds, rfl, h2, haz, ht, hk, eds, fun vp xs H1 s1 hvp rl1 => ?_⟩
          refine ⟨RH H0, pgv, pg, fn, vp, xs, ds, c', rfl, rp.same (m.s.trans s1), hvp, rl1, fun a ha z => ?_, hfr, fun pl t2 dx2 kvs2 bv2 H4 s4 npl nt2 q1 q2 q3 q4 => ?_⟩
          · cases eH : H0 a with
            | none => exact ha eH
            | some o =>
              rw [(m.s.trans s1) _ _ eH] at z
              cases z
          · exact q pl H4 (enter_ok (m.same s1) s4 npl nt2 q1 q2 q3 q4)
      · rw [if_neg haz] at e'
        cases e'
    | iff ss' a b c =>
      obtain ⟨ta, zs, rfl, hta, hl4⟩ := id hev.row_inv
      obtain ⟨y0, y1, y2, y3, rfl, h0, h1, h2, h3⟩ := hl4.four
      cases h0.word_inv
      have e' : (match atomV cth a with
        | some (.num n) => some (LOut.next ⟨cth, if n = 0 then c else b, 0⟩ wt)
        | _ => none) = some (LOut.next c' w') := e
      have hn : ∃ n, atomV cth a = some (.num n) ∧ c' = ⟨cth, if n = 0 then c else b, 0⟩ ∧ w' = wt := by
        cases ea : atomV cth a with
        | none =>
          rw [ea] at e'
          cases e'
        | some d =>
          rw [ea] at e'
          cases d with
          | num n =>
            cases e'
            exact ⟨n, rfl, rfl, rfl⟩
          | word x => cases e'
          | row x => cases e'
          | rcd x => cases e'
      obtain ⟨n, ea, rfl, rfl⟩ := hn
      refine ⟨_, rfl, ta, _, _, _, rfl, rfl, hta, atI_nat (j := 0) rfl, rfl, _, rfl, ?_⟩
      rw [str_ne (a := "if") (b := "go") (by decide +kernel)]
      refine iteF ?_
      refine ⟨_, rfl, ta, _, _, _, rfl, rfl, hta, atI_nat (j := 0) rfl, rfl, _, rfl, ?_⟩
      rw [str_ne (a := "if") (b := "fail") (by decide +kernel)]
      refine iteF ?_
      refine ⟨_, rfl, _, rfl, p, CP, dx, _, _, rfl, hp, T.cl, T.noT, pl_things _ _ _, RH H0, .ref ta, a, b, c, t, kvs, cth, n, rfl, hev, ht, hk, ea, fun bv' rb => ?_⟩
      refine ⟨_, rfl, p, CP, dx, _, rfl, hp, T.cl, T.noB, by show 3 < 1000; decide, ?_⟩
      rw [pl_putB]
      refine ⟨_, rfl, p, CP, dx, _, rfl, upd_same, T.cl, T.noG, by show 3 < 1000; decide, ?_⟩
      rw [pl_putG, upd_upd]
      have fin := stay_ok (fr := ⟨cth, if n = 0 then c else b, 0⟩) (bv' := bv') (kvs' := kvs) m hp ht rb hk
      have eH : upd H t (.dK kvs) = H := by
        funext a
        by_cases h : a = t
        · rw [h, upd_same, ht]
        · rw [upd_ne h]
      rw [eH] at fin
      exact ⟨_, rfl, q _ _ fin⟩
def spComeBack (K : PySem.W.Frag) (CP : Addr) : Sp := fun vs H Q _ => ∃ (H0 : Hp) (cur fr : Frm) (n : Str) (wt : Wt) (p wl : Addr) (v : V) (d : D), vs = [.ref wl, v] ∧ Mst K CP H0 H cur ((fr, n) :: wt) p wl ∧ Rep K (RH H0) H d v ∧ fr.th.length ≤ 500 ∧
  ∀ (p' : Addr) (H' : Hp), Mst K CP H0 H' (putF_ fr n d) wt p' wl → Q (.ref p') H'
theorem sc_come_back : FnScope ["waiting", "value", "here", "name"] ["waiting", "value"] (defScope (top 101)) := ⟨rfl, rfl, rfl, by decide +kernel, rfl, by decide +kernel, by decide +kernel⟩
theorem ok_come_back (X : Fx mg) (T : PlcC K CP) (F : FnP K mg "come_back" "come_back" (top 101)) : Cal P w K mg base CX0 1 "come_back" ["waiting", "value"] (spComeBack K CP) := by
  refine F.cal sc_come_back (fun _ _ _ _ _ _ us hl => match us, hl with | [_, _], _ => rfl) (fun vs H Q E h => ?_) (fun f cdv A outer s H vs Q E hr h => ?_)
  · obtain ⟨H0, cur, fr, n, wt, p, wl, v, d, rfl, _⟩ := h
    rfl
  · have hu := hu_of hr
    obtain ⟨H0, cur, fr, n, wt, p, wl, v, d, rfl, ⟨t, ws, ps, ts, m⟩, rv, hz, q⟩ := h
    refine ⟨_, PSs.nox (pss_cons (ps_asg (pe_bm0 PySem.F.plainAttrs_list PySem.F.slot_list_pop PySem.F.type_list_pop mt_pop (pv 0)) (pg_tup rfl (pgs_cons (pg_name (i := 2) sc_come_back.nd rfl (Or.inl rfl)) (pgs_cons (pg_name (i := 3) sc_come_back.nd rfl (Or.inl rfl)) pgs_nil))))
      (pss_cons (ps_dput hu (pe_fld (pv 2) rfl) (pv 3) (pv 1) rfl)
      (pss_cons (ps_fld (pv 2) (pe_op op_add (pe_fld (pv 2) rfl) pe_int) rfl)
      (pss_one (ps_ret (pv 2)))))), ?_⟩
    cases hw : m.wr with
    | @cons _ ws' ps' ts' _ _ tp p' t' w0 htp f0 n1 n2 =>
      have hwl := m.hwl
      refine ⟨_, rfl, .inl ⟨rfl, _, SqL.of hwl⟩, wl, _, .ref tp, rfl, rfl, hwl, ?_, ?_⟩
      · rw [List.length_append, List.length_singleton, Nat.add_sub_cancel, List.getElem?_append_right (Nat.le_refl _), Nat.sub_self]
        rfl
      rw [List.dropLast_concat]
      have k1 : Kept (RH H0) H (upd H wl (.lst ws')) := Kept.lst hwl
      obtain ⟨dx, kvs, bv, hp, hb, ht, hk, n0p, n0t⟩ := id f0
      have nep : p' ≠ wl := ne_of hp hwl (by intro z; cases z)
      have net : t' ≠ wl := ne_of ht hwl (by intro z; cases z)
      obtain ⟨a1, a2, a3⟩ := w0.some
      have m1 : MR K CP H0 (upd H wl (.lst ws')) fr wt p' wl t' ws' ps' ts' := by
        refine ⟨fun b o e => ?_, f0.mono k1 (upd_ne nep) (upd_ne net), w0.mono k1 (fun a h => ?_) (fun a h => ?_), n1, n2, upd_same, m.hnw⟩
        · rw [upd_ne (ne_of_none e m.hnw)]
          exact m.s _ _ e
        · obtain ⟨_, _, e⟩ := a1 a h
          exact upd_ne (ne_of e hwl (by intro z; cases z))
        · obtain ⟨_, e⟩ := a2 a h
          exact upd_ne (ne_of e hwl (by intro z; cases z))
      have htp1 : upd H wl (.lst ws') tp = some (.tup [.ref p', .str n]) := k1.tup _ _ htp (.inl ⟨_, rfl⟩)
      have rv1 := rv.mono k1
      generalize upd H wl (.lst ws') = H1 at m1 htp1 rv1 ⊢
      obtain ⟨dx, kvs, bv, hp, hb, ht, hk, n0p, n0t⟩ := id m1.fr
      refine ⟨tp, _, rfl, SqT.of htp1, rfl, ?_⟩
      refine ⟨_, _, rfl, _, _, rfl, rfl, ?_⟩
      refine ⟨_, rfl, _, rfl, p', CP, dx, _, _, rfl, hp, T.cl, T.noT, pl_things _ _ _, _, rfl, t', _, rfl, DPut.k (k := Sum.inr n) ht (dk_small (by rw [hk.len]; omega)), ?_⟩
      have npt : p' ≠ t' := ne_of hp ht (by intro z; cases z)
      have hp5 : upd H1 t' (.dK (putK kvs (.inr n) v)) p' = some (.ins CP dx (plF t' bv (fr.gone : Int))) := by rw [upd_ne npt]; exact hp
      refine ⟨_, rfl, p', CP, dx, _, _, rfl, hp5, T.cl, T.noG, pl_gone _ _ _, _, _, rfl, rfl, _, rfl, p', CP, dx, _, rfl, hp5, T.cl, T.noG, by show 3 < 1000; decide, ?_⟩
      rw [pl_putG]
      have fin := stay_ok (fr := putF_ fr n d) (bv' := bv) (kvs' := putK kvs (.inr n) v) m1 hp ht hb (hk.put rv1)
      exact ⟨_, rfl, q _ _ fin⟩
end
end Fk
set_option maxHeartbeats 4000000
/-! ## The runner: line_gone, at_last, run -/
namespace Fk
open PySem PySem.Spec PyProof.Rows L2 TL
def lastM (cur : Frm) (wt : Wt) : Bool := wt.isEmpty && (!decide (cur.gone < cur.blk.steps.length) && (match cur.blk with
  | .give _ _ => true
  | _ => false))
def lastV (cur : Frm) (wt : Wt) : Option D := if lastM cur wt = true then (match cur.blk with
  | .give _ a => atomV cur.th a
  | _ => none) else none
def runM (pg : List Fun) (b : Nat) : Nat → Nat → Frm → Wt → Option Res
  | 0, _, _, _ => some (.out b)
  | n + 1, s, cur, wt => if lastM cur wt = true then (lastV cur wt).map (.told · (s + 1)) else (match lineM pg cur wt with
    | none => none
    | some (.fault w) => some (.fault w (s + 1))
    | some (.next c w) => runM pg b n (s + 1) c w)
theorem end_give {pg : List Fun} {cth : List (Str × D)} {ss : List Stp} {a : Atom} {cg : Nat} {wt : Wt} {r : LOut} (h : endM_ pg ⟨cth, .give ss a, cg⟩ wt = some r) : ∃ fr n wt' d, wt = (fr, n) :: wt' ∧ atomV cth a = some d ∧ fr.th.length ≤ 500 ∧ r = .next (putF_ fr n d) wt' := by
  unfold endM_ at h
  cases wt with
  | nil => cases h
  | cons fn wt' =>
    obtain ⟨fr, n⟩ := fn
    cases ea : atomV cth a with
    | none =>
      simp only [ea] at h
      cases h
    | some d =>
      simp only [ea] at h
      by_cases hz : fr.th.length ≤ 500
      · rw [if_pos hz] at h
        exact ⟨fr, n, wt', d, rfl, rfl, hz, (Option.some.inj h).symm⟩
      · rw [if_neg hz] at h
        cases h
section
variable {P : Program} {w : World} {K : PySem.W.Frag} {mg : Str → Option Value} {base : Heap} {CF CP : Addr} {cA : OpK → Addr}
def spLineGone (K : PySem.W.Frag) (CP CF : Addr) : Sp := fun vs H Q E => ∃ (H0 : Hp) (pgv : V) (pg : List Fun) (cur : Frm) (wt : Wt) (p wl : Addr) (r : LOut), vs = [pgv, .ref p, .ref wl] ∧ Rep K R0 H0 (progD pg) pgv ∧ Mst K CP H0 H cur wt p wl ∧ lineM pg cur wt = some r ∧ LTo K CP CF H0 wl r H Q E
theorem sc_line_gone : FnScope ["program", "here", "waiting", "end"] ["program", "here", "waiting"] (defScope (top 102)) := ⟨rfl, rfl, rfl, by decide +kernel, rfl, by decide +kernel, by decide +kernel⟩
theorem ok_line_gone (X : Fx mg) (T : PlcC K CP) (c_step_gone : Cal P w K mg base (L2.CX P w) 104 "step_gone" ["program", "here", "waiting"] (spStepGone K CP CF)) (c_value_at_runner : Cal P w K mg base CX0 1 "value_at_runner" ["atom", "things"] (spAtomAt K))
    (c_come_back : Cal P w K mg base CX0 1 "come_back" ["waiting", "value"] (spComeBack K CP)) (c_end_gone : Cal P w K mg base CX0 4 "end_gone" ["program", "here"] (spEndGone K CP)) (F : FnP K mg "line_gone" "line_gone" (top 102)) :
    Cal P w K mg base (L2.CX P w) 105 "line_gone" ["program", "here", "waiting"] (spLineGone K CP CF) := by
  refine F.cal sc_line_gone (fun _ _ _ _ _ _ us hl => match us, hl with | [_, _, _], _ => rfl) (fun vs H Q E h => ?_) (fun f cdv A outer s H vs Q E hr h => ?_)
  · obtain ⟨H0, pgv, pg, cur, wt, p, wl, r, rfl, _⟩ := h
    rfl
  · have hr1 : Room 1 _ := hr.mono (by decide)
    have hr4 : Room 4 _ := hr.mono (by decide)
    obtain ⟨H0, pgv, pg, cur, wt, p, wl, r, rfl, rp, ms, e, q⟩ := h
    have ms' := ms
    obtain ⟨t, ws, ps, ts, m⟩ := ms'
    obtain ⟨dx, kvs, bv, hp, hb, ht, hk, n0p, n0t⟩ := id m.fr
    obtain ⟨ba, sa, ev, ss, rfl, hba, hsa, hsl, hev⟩ := steps_inv hb
    have hsn : ss.length = cur.blk.steps.length := by rw [hsl.len, List.length_map]
    refine ⟨_, (pss_cons (ps_if (pt_cmpR op_lt (pe_fld (pv 1) rfl) (pe_callB (call_len_seq) rfl X.len (by decide +kernel) (pa_cons (pe_ix ix_tup (pe_fld (pv 1) rfl) pe_int (fun _ _ => rfl)) pa_nil)) (nomark _)) (pss_one (ps_ret (pe_cal c_step_gone hr (passes_call (takes_of rfl rfl rfl rfl) fun _ _ _ _ z => z) (pa_cons (pv 0) (pa_cons (pv 1) (pa_cons (pv 2) pa_nil)))))) pss_nil)
      (pss_cons (ps_set (i := 3) sc_line_gone.nd rfl (Or.inl rfl) (pe_ix ix_tup (pe_fld (pv 1) rfl) pe_int (fun _ _ => rfl)))
      (pss_cons (ps_if (pt_cmpR op_eq (pe_ix ix_tup (pv 3) pe_int (fun _ _ => rfl)) pe_str (nomark _)) (pss_one (ps_ret (pe_cal c_come_back hr1 pass0 (pa_cons (pv 2) (pa_cons (pe_cal c_value_at_runner hr1 pass0 (pa_cons (pe_ix ix_tup (pv 3) pe_int (fun _ _ => rfl)) (pa_cons (pe_fld (pv 1) rfl) pa_nil))) pa_nil))))) pss_nil)
      (pss_one (ps_ret (pe_cal c_end_gone hr4 pass0 (pa_cons (pv 0) (pa_cons (pv 1) pa_nil)))))))), ?_⟩
    refine ⟨_, rfl, p, CP, dx, _, _, rfl, hp, T.cl, T.noG, pl_gone _ _ _, _, rfl, p, CP, dx, _, _, rfl, hp, T.cl, T.noB, pl_block _ _ _, ba, _, _, _, rfl, rfl, hba, atI_nat (j := 0) rfl, _, _, rfl, .inr hsa, _, _, rfl, rfl, _, rfl, ?_⟩
    rw [hsn]
    unfold lineM at e
    by_cases hg : cur.gone < cur.blk.steps.length
    · rw [if_pos hg] at e
      rw [decide_eq_true (by omega)]
      exact iteT ⟨_, rfl, _, rfl, _, rfl, H0, pgv, pg, cur, wt, p, wl, r, rfl, rp, ms, e, q⟩
    · rw [if_neg hg] at e
      rw [decide_eq_false (by omega)]
      refine iteF ⟨_, rfl, p, CP, dx, _, _, rfl, hp, T.cl, T.noB, pl_block _ _ _, ba, _, _, _, rfl, rfl, hba, atI_nat (j := 1) rfl, ?_⟩
      obtain ⟨cth, cblk, cg⟩ := cur
      cases cblk with
      | give ss' a =>
        obtain ⟨ta, x1, x2, rfl, hta, r1, r2⟩ := hev.pair_inv
        cases r1.word_inv
        refine ⟨_, rfl, ta, _, _, _, rfl, rfl, hta, atI_nat (j := 0) rfl, rfl, _, rfl, ?_⟩
        rw [str_eq]
        obtain ⟨fr, n, wt', d, rfl, ea, hz, rfl⟩ := end_give e
        refine iteT ⟨_, rfl, _, rfl, ta, _, _, _, rfl, rfl, hta, atI_nat (j := 1) rfl, _, rfl, p, CP, dx, _, _, rfl, hp, T.cl, T.noT, pl_things _ _ _, RH H0, x2, a, t, kvs, cth, d, rfl, r2, ht, hk, ea, fun v rv => ?_⟩
        exact ⟨H0, _, fr, n, wt', p, wl, v, d, rfl, ms, rv, hz, q⟩
      | go ss' fn as =>
        obtain ⟨ta, zs, rfl, hta, hl3⟩ := hev.row_inv
        obtain ⟨y0, y1, y2, rfl, h0, h1, h2⟩ := hl3.three
        cases h0.word_inv
        refine ⟨_, rfl, ta, _, _, _, rfl, rfl, hta, atI_nat (j := 0) rfl, rfl, _, rfl, ?_⟩
        rw [str_ne (a := "go") (b := "give") (by decide +kernel)]
        have hr : ∃ c w, r = .next c w := by
          have e' : (if as.length ≤ 1000 then (match atomsV cth as with
            | none => none
            | some ds => (enterM pg fn ds).map fun fr => LOut.next fr wt) else none) = some r := e
          by_cases hz : as.length ≤ 1000
          · rw [if_pos hz] at e'
            cases ea : atomsV cth as with
            | none =>
              rw [ea] at e'
              cases e'
            | some ds =>
              rw [ea] at e'
              obtain ⟨fr, _, e2⟩ := Option.map_eq_some_iff.mp e'
              exact ⟨_, _, e2.symm⟩
          · rw [if_neg hz] at e'
            cases e'
        obtain ⟨c', w', rfl⟩ := hr
        exact iteF ⟨_, rfl, _, rfl, H0, pgv, pg, _, wt, p, wl, c', w', rfl, rp, ms, (by intro a b z; cases z), e, q⟩
      | iff ss' a b c =>
        obtain ⟨ta, zs, rfl, hta, hl4⟩ := hev.row_inv
        obtain ⟨y0, y1, y2, y3, rfl, h0, h1, h2, h3⟩ := hl4.four
        cases h0.word_inv
        refine ⟨_, rfl, ta, _, _, _, rfl, rfl, hta, atI_nat (j := 0) rfl, rfl, _, rfl, ?_⟩
        rw [str_ne (a := "if") (b := "give") (by decide +kernel)]
        have hr : ∃ c w, r = .next c w := by
          have e' : (match atomV cth a with
            | some (.num n) => some (LOut.next ⟨cth, if n = 0 then c else b, 0⟩ wt)
            | _ => none) = some r := e
          cases ea : atomV cth a with
          | none =>
            rw [ea] at e'
            cases e'
          | some d =>
            rw [ea] at e'
            cases d with
            | num n => exact ⟨_, _, (Option.some.inj e').symm⟩
            | word x => cases e'
            | row x => cases e'
            | rcd x => cases e'
        obtain ⟨c', w', rfl⟩ := hr
        exact iteF ⟨_, rfl, _, rfl, H0, pgv, pg, _, wt, p, wl, c', w', rfl, rp, ms, (by intro a b z; cases z), e, q⟩
def spAtLast (K : PySem.W.Frag) (CP : Addr) : Sp := fun vs H Q _ => ∃ (H0 : Hp) (cur : Frm) (wt : Wt) (p wl : Addr), vs = [.ref p, .ref wl] ∧ Mst K CP H0 H cur wt p wl ∧ Q (.bl (lastM cur wt)) H
theorem sc_at_last : FnScope ["here", "waiting"] ["here", "waiting"] (defScope (top 103)) := ⟨rfl, rfl, rfl, by decide +kernel, rfl, by decide +kernel, by decide +kernel⟩
theorem ok_at_last (X : Fx mg) (T : PlcC K CP) (F : FnP K mg "at_last" "at_last" (top 103)) : Cal P w K mg base CX0 1 "at_last" ["here", "waiting"] (spAtLast K CP) := by
  refine F.cal sc_at_last (fun _ _ _ _ _ _ us hl => match us, hl with | [_, _], _ => rfl) (fun vs H Q E h => ?_) (fun f cdv A outer s H vs Q E hr h => ?_)
  · obtain ⟨H0, cur, wt, p, wl, rfl, _⟩ := h
    rfl
  · obtain ⟨H0, cur, wt, p, wl, rfl, ⟨t, ws, ps, ts, m⟩, q⟩ := h
    obtain ⟨dx, kvs, bv, hp, hb, ht, hk, n0p, n0t⟩ := id m.fr
    obtain ⟨ba, sa, ev, ss, rfl, hba, hsa, hsl, hev⟩ := steps_inv hb
    have hsn : ss.length = cur.blk.steps.length := by rw [hsl.len, List.length_map]
    have hwn := m.wr.some.2.2
    refine ⟨_, PSs.nox (pss_cons (ps_if (PW.pt (pw_or (pt_truth (pv 1) (by intro _; rfl)) (pw_or1 (pt_cmpR op_lt (pe_fld (pv 0) rfl) (pe_callB (call_len_seq) rfl X.len (by decide +kernel) (pa_cons (pe_ix ix_tup (pe_fld (pv 0) rfl) pe_int (fun _ _ => rfl)) pa_nil)) (nomark _))))) (pss_one (ps_ret pe_bl)) pss_nil)
      (pss_one (ps_ret (pe_cmpR op_eq (pe_ix ix_tup (pe_ix ix_tup (pe_fld (pv 0) rfl) pe_int (fun _ _ => rfl)) pe_int (fun _ _ => rfl)) pe_str (nomark _))))), ?_⟩
    refine ⟨_, rfl, !ws.isEmpty, .inl ⟨ws, SqL.of m.hwl, rfl⟩, ?_⟩
    cases wt with
    | cons fn wt' =>
      cases ws with
      | nil => cases hwn
      | cons w0 ws' => exact iteT (iteT q)
    | nil =>
      cases ws with
      | cons w0 ws' => cases hwn
      | nil =>
        refine iteF ⟨_, rfl, p, CP, dx, _, _, rfl, hp, T.cl, T.noG, pl_gone _ _ _, _, rfl, p, CP, dx, _, _, rfl, hp, T.cl, T.noB, pl_block _ _ _, ba, _, _, _, rfl, rfl, hba, atI_nat (j := 0) rfl, _, _, rfl, .inr hsa, _, _, rfl, rfl, _, rfl, ?_⟩
        rw [hsn]
        unfold lastM at q
        by_cases hg : cur.gone < cur.blk.steps.length
        · rw [decide_eq_true hg] at q
          rw [decide_eq_true (by omega)]
          exact iteT q
        · rw [decide_eq_false hg] at q
          rw [decide_eq_false (by omega)]
          refine iteF ⟨_, rfl, p, CP, dx, _, _, rfl, hp, T.cl, T.noB, pl_block _ _ _, ba, _, _, _, rfl, rfl, hba, atI_nat (j := 1) rfl, ?_⟩
          obtain ⟨cth, cblk, cg⟩ := cur
          cases cblk with
          | give ss' a =>
            obtain ⟨ta, x1, x2, rfl, hta, r1, r2⟩ := hev.pair_inv
            cases r1.word_inv
            refine ⟨ta, _, _, _, rfl, rfl, hta, atI_nat (j := 0) rfl, rfl, ?_⟩
            rw [str_eq]
            exact q
          | go ss' fn as =>
            obtain ⟨ta, zs, rfl, hta, hl3⟩ := hev.row_inv
            obtain ⟨y0, y1, y2, rfl, h0, h1, h2⟩ := hl3.three
            cases h0.word_inv
            refine ⟨ta, _, _, _, rfl, rfl, hta, atI_nat (j := 0) rfl, rfl, ?_⟩
            rw [str_ne (a := "go") (b := "give") (by decide +kernel)]
            exact q
          | iff ss' a b c =>
            obtain ⟨ta, zs, rfl, hta, hl4⟩ := hev.row_inv
            obtain ⟨y0, y1, y2, y3, rfl, h0, h1, h2, h3⟩ := hl4.four
            cases h0.word_inv
            refine ⟨ta, _, _, _, rfl, rfl, hta, atI_nat (j := 0) rfl, rfl, ?_⟩
            rw [str_ne (a := "if") (b := "give") (by decide +kernel)]
            exact q
def spRun (K : PySem.W.Frag) : Sp := fun vs H Q _ => ∃ (R : Addr → Prop) (pgv : V) (f0 : Fun) (pg : List Fun) (ip : Addr) (xs : List V) (ds : List D) (fr : Frm) (b : Nat) (r : Res), vs = [pgv, .ref ip, .int (b : Int)] ∧ Rep K R0 H (progD (f0 :: pg)) pgv ∧ SqT K H ip xs ∧ RepL K R H ds xs ∧
  enterM (f0 :: pg) f0.name ds = some fr ∧ runM (f0 :: pg) b b 0 fr [] = some r ∧ ∀ v H', Same H H' → RepRes K (RH H) H' r v → Q v H'
theorem sc_run : FnScope ["program", "inputs", "budget", "here", "waiting", "steps", "e"] ["program", "inputs", "budget"] (defScope (top 104)) := ⟨rfl, rfl, rfl, by decide +kernel, rfl, by decide +kernel, by decide +kernel⟩
theorem ok_run (X : Fx mg) (T : PlcC K CP) (TF : FltX K mg CF) (c_place_in : Cal P w K mg base CX0 3 "place_in" ["program", "name", "values"] (spPlaceIn K CP)) (c_at_last : Cal P w K mg base CX0 1 "at_last" ["here", "waiting"] (spAtLast K CP)) (c_value_at_runner : Cal P w K mg base CX0 1 "value_at_runner" ["atom", "things"] (spAtomAt K))
    (c_line_gone : Cal P w K mg base (L2.CX P w) 105 "line_gone" ["program", "here", "waiting"] (spLineGone K CP CF)) (F : FnP K mg "run" "run" (top 104)) : Cal P w K mg base CX0 106 "run" ["program", "inputs", "budget"] (spRun K) := by
  refine F.cal sc_run (fun _ _ _ _ _ _ us hl => match us, hl with | [_, _, _], _ => rfl) (fun vs H Q E h => ?_) (fun f cdv A outer s H vs Q E hr h => ?_)
  · obtain ⟨R, pgv, f0, pg, ip, xs, ds, fr, b, r, rfl, _⟩ := h
    rfl
  · have hr1 : Room 1 _ := hr.mono (by decide)
    have hr3 : Room 3 _ := hr.mono (by decide)
    have hr105 : Room 105 _ := hr
    obtain ⟨gf, gfd, GT, mgT, kpT, bT⟩ := c_line_gone
    obtain ⟨R, pgv, f0, pg, ip, xs, ds, fr, b, r, rfl, rp, hip, hl, he, hrun, q⟩ := h
    have hl' : RepL K (RH H) H ds xs := hl.imp fun a kvs _ e => by
      intro z
      rw [z] at e
      cases e
    refine ⟨_, PSs.nox (pss_cons (ps_set (i := 3) sc_run.nd rfl (Or.inl rfl) (pe_cal c_place_in hr3 pass0 (pa_cons (pv 0) (pa_cons (pe_ix ix_tup (pe_ix ix_tup (pv 0) pe_int (fun _ _ => rfl)) pe_int (fun _ _ => rfl)) (pa_cons (pv 1) pa_nil)))))
      (pss_cons (ps_set (i := 4) sc_run.nd rfl (Or.inl rfl) (pe_lst pa_nil))
      (pss_cons (ps_set (i := 5) sc_run.nd rfl (Or.inl rfl) pe_int)
      (pss_cons (ps_while PassesOwn.never (pt_cmpR op_lt (pv 5) (pv 2) (nomark _)) (pss_cons (ps_set (i := 5) sc_run.nd rfl (Or.inl rfl) (pe_op op_add (pv 5) pe_int))
      (pss_cons (ps_if (pt_val (pe_cal c_at_last hr1 pass0 (pa_cons (pv 3) (pa_cons (pv 4) pa_nil)))) (pss_one (ps_ret (pe_tup (pa_cons pe_str (pa_cons (pe_cal c_value_at_runner hr1 pass0 (pa_cons (pe_ix ix_tup (pe_ix ix_tup (pe_fld (pv 3) rfl) pe_int (fun _ _ => rfl)) pe_int (fun _ _ => rfl)) (pa_cons (pe_fld (pv 3) rfl) pa_nil))) (pa_cons (pv 5) pa_nil)))))) pss_nil)
      (pss_one (ps_try_as (i := 6) (tb := fun W => tAsg (tCallS (spLineGone K CP CF) (WE W) (tCons (tVar 0) (tCons (tVar 3) (tCons (tVar 4) tNil)))) (gName 3)) (ts := fun a cls d => tRet (tTup (tCons (tC (.str "fault")) (tCons (tXf a cls d CF "word" (tVar 6)) (tCons (tVar 5) tNil))))) (Wout := fun _ _ _ _ => False) rfl rfl sc_run.nd rfl rfl ⟨rfl, by decide, .inl TF.g⟩ takes0 (fun W pn xe tk _ => pss_one (ps_set (i := 3) sc_run.nd rfl (Or.inl rfl) (by exact (pe_callS GT hr105 rfl mgT kpT bT (fun σ => passAt tk σ) (pa_cons (pv 0) (pa_cons (pv 3) (pa_cons (pv 4) pa_nil))))))) (fun a oe cls d pn hz hf => pss_one (ps_ret (pe_tup (pa_cons pe_str (pa_cons (pe_xf TF.xf TF.no hz hf (pv 6)) (pa_cons (pv 5) pa_nil)))))))))))
      (pss_one (ps_ret (pe_tup (pa_cons pe_str (pa_cons pe_non (pa_cons (pv 2) pa_nil)))))))))), ?_⟩
    obtain ⟨pt, ps, rfl, hpt, hpl⟩ := id rp.row_inv
    obtain ⟨fv, hf0, rf⟩ := hpl.get (i := 0) rfl
    obtain ⟨ft, fs, rfl, hft, hfl⟩ := rf.row_inv
    obtain ⟨z0, z1, z2, rfl, i0, i1, i2⟩ := hfl.three
    cases i0.word_inv
    refine ⟨_, rfl, _, rfl, pt, _, _, _, rfl, rfl, hpt, atI_nat (j := 0) hf0, ft, _, _, _, rfl, rfl, hft, atI_nat (j := 0) rfl, _, rfl, RH H, .ref pt, f0 :: pg, f0.name, ip, xs, ds, fr, rfl, rp, hip, hl', fun a h => h, he, fun pl t dx kvs bv H1 s1 npl nt h1 h2 h3 h4 => ?_⟩
    refine ⟨Nat.zero_le _, fun wl nwl => ?_⟩
    have s2 : Same H1 (upd H1 wl (.lst [])) := Same.new nwl
    have m0 : Mst K CP H (upd H1 wl (.lst [])) fr [] pl wl := ⟨t, [], [], [], s1.trans s2, ⟨dx, kvs, bv, s2 _ _ h1, h2.same s2, s2 _ _ h3, h4.same s2, npl, nt⟩, .nil, (by intro z; cases z), (by intro z; cases z), upd_same, s1.free nwl⟩
    generalize upd H1 wl (.lst []) = H2 at m0 ⊢
    refine ⟨fun m σ H3 => ∃ (cur : Frm) (wt : Wt) (p : Addr) (sn : Nat) (o : Option V), σ = [some (.ref pt), some (.ref ip), some (.int (b : Int)), some (.ref p), some (.ref wl), some (.int (sn : Int)), o] ∧ sn + m = b ∧ Mst K CP H H3 cur wt p wl ∧ runM (f0 :: pg) b m sn cur wt = some r, ⟨b, fr, [], pl, 0, none, rfl, Nat.zero_add b, m0, hrun⟩, ?_⟩
    rintro m σ H3 ⟨cur, wt, p, sn, o, rfl, hsm, ms, hrun⟩
    refine ⟨_, rfl, _, rfl, _, _, rfl, rfl, _, rfl, ?_⟩
    obtain ⟨t, ws, ps', ts', M⟩ := id ms
    cases m with
    | zero =>
      rw [decide_eq_false (by omega)]
      have e : r = .out b := (Option.some.inj hrun).symm
      subst e
      refine iteF ⟨_, rfl, by show 3 ≤ sizeLine; decide, fun p3 np3 => ?_⟩
      exact q _ _ (M.s.trans (Same.new np3)) ⟨p3, rfl, upd_same⟩
    | succ m =>
      rw [decide_eq_true (by omega)]
      have en : ((sn : Int) + 1) = ((sn + 1 : Nat) : Int) := by omega
      have hrun' : (if lastM cur wt = true then (lastV cur wt).map (Res.told · (sn + 1)) else (match lineM (f0 :: pg) cur wt with
        | none => none
        | some (.fault w) => some (.fault w (sn + 1))
        | some (.next c w) => runM (f0 :: pg) b m (sn + 1) c w)) = some r := hrun
      refine iteT ⟨fun σ' H' => ∃ (cur : Frm) (wt : Wt) (p : Addr) (sn : Nat) (o : Option V), σ' = [some (.ref pt), some (.ref ip), some (.int (b : Int)), some (.ref p), some (.ref wl), some (.int (sn : Int)), o] ∧ sn + m = b ∧ Mst K CP H H' cur wt p wl ∧ runM (f0 :: pg) b m sn cur wt = some r, fun σ' H' h => ⟨m, Nat.lt_succ_self m, h⟩, ?_⟩
      refine ⟨_, rfl, _, _, rfl, rfl, ?_⟩
      refine ⟨_, rfl, _, rfl, H, cur, wt, p, wl, rfl, ms, _, rfl, ?_⟩
      by_cases hla : lastM cur wt = true
      · rw [if_pos hla] at hrun'
        rw [hla]
        obtain ⟨d, hd, rfl⟩ := Option.map_eq_some_iff.mp hrun'
        unfold lastV at hd
        rw [if_pos hla] at hd
        obtain ⟨dx, kvs, bv, hp, hb, ht, hk, n0p, n0t⟩ := id M.fr
        obtain ⟨ba, sa, ev, ss, rfl, hba, hsa, hsl, hev⟩ := steps_inv hb
        obtain ⟨cth, cblk, cg⟩ := cur
        cases cblk with
        | go ss' fn as => cases hd
        | iff ss' a b c => cases hd
        | give ss' a =>
          obtain ⟨ta, x1, x2, rfl, hta, r1, r2⟩ := hev.pair_inv
          refine iteT ⟨_, rfl, p, CP, dx, _, _, rfl, hp, T.cl, T.noB, pl_block _ _ _, ba, _, _, _, rfl, rfl, hba, atI_nat (j := 1) rfl, ta, _, _, _, rfl, rfl, hta, atI_nat (j := 1) rfl, _, rfl, p, CP, dx, _, _, rfl, hp, T.cl, T.noT, pl_things _ _ _, RH H, x2, a, t, kvs, cth, d, rfl, r2, ht, hk, hd, fun v rv => ?_⟩
          refine ⟨_, rfl, by show 3 ≤ sizeLine; decide, fun p3 np3 => ?_⟩
          refine q _ _ (M.s.trans (Same.new np3)) ⟨p3, v, rfl, ?_, rv.same (Same.new np3)⟩
          rw [upd_same]
          show some (HO.tup [V.str "told", v, V.int ((sn : Int) + 1)]) = _
          rw [en]
      · rw [if_neg hla] at hrun'
        rw [Bool.eq_false_iff.mpr hla]
        refine iteF ?_
        refine ⟨_, rfl, _, rfl, _, rfl, ?_⟩
        cases el : lineM (f0 :: pg) cur wt with
        | none =>
          rw [el] at hrun'
          cases hrun'
        | some lo =>
          rw [el] at hrun'
          refine ⟨H, _, f0 :: pg, cur, wt, p, wl, lo, rfl, rp, ms, el, ?_⟩
          cases lo with
          | fault wd =>
            have e : r = .fault wd (sn + 1) := (Option.some.inj hrun').symm
            subst e
            intro d H4 s4 hd
            refine ⟨true, TF.te, fun _ a na => ?_, fun z => nomatch z⟩
            refine ⟨_, rfl, rfl, rfl, d, _, .str wd, rfl, hd, rfl, _, rfl, by show 3 ≤ sizeLine; decide, fun p3 np3 => ?_⟩
            refine q _ _ (M.s.trans (s4.trans (Same.new np3))) ⟨p3, rfl, ?_⟩
            rw [upd_same]
            show some (HO.tup [V.str "fault", V.str wd, V.int ((sn : Int) + 1)]) = _
            rw [en]
          | next c w =>
            intro p4 H4 ms4
            refine ⟨c, w, p4, sn + 1, o, ?_, by omega, ms4, hrun'⟩
            rw [← en]
            rfl
end
end Fk
set_option maxHeartbeats 4000000
/-! ## The law's helpers: cells, numbers, spots, jars -/
namespace Fk
open PySem PySem.Spec PyProof.Rows L2 TL
def Ints (xs : List V) : Prop := ∀ x ∈ xs, ∃ n : Int, x = .int n
theorem Ints.at {xs : List V} {i : Nat} {x : V} (h : Ints xs) (e : xs[i]? = some x) : ∃ n : Int, x = .int n := h x (List.mem_of_getElem? e)
theorem Ints.cut {xs : List V} (h : Ints xs) (lo hi : Option Int) : Ints (cutV xs lo hi) := fun x hx => h x (List.mem_of_mem_drop (List.mem_of_mem_take hx))
theorem Ints.snoc {xs : List V} {n : Int} (h : Ints xs) : Ints (xs ++ [.int n]) := fun x hx => by
  rcases List.mem_append.mp hx with h' | h'
  · exact h x h'
  · rw [List.mem_singleton] at h'
    exact ⟨n, h'⟩
theorem cut_le {xs : List V} {hi : Nat} : (cutV xs none (some (hi : Int))).length ≤ hi := by
  unfold cutV
  rw [HT.sIx_nat, List.length_take, HT.sIx_none]
  omega
theorem keep_upd {H H' : Hp} {p : Addr} {o : HO} (s : Same H H') (h : H p = none) : Same H (L2.upd H' p o) := grow s h
theorem p48 : CPowW 10 48 := ⟨by decide, by decide +kernel⟩
theorem p30 : CPowW (10 ^ (48 : Int).toNat) 30 := ⟨by decide, by decide +kernel⟩
theorem p24 : CPowW 10 24 := ⟨by decide, by decide +kernel⟩
theorem q48 : (0 : Int) < (10 ^ (48 : Int).toNat) ^ (30 : Int).toNat := by decide +kernel
theorem q24 : (0 : Int) < 10 ^ (24 : Int).toNat := by decide +kernel
theorem d24 (i : Int) : CDivW i (10 ^ (24 : Int).toNat) := ⟨q24, by decide +kernel⟩
theorem p18 : CPowW 10 18 := ⟨by decide, by decide +kernel⟩
theorem e18 : (10 : Int) ^ (18 : Int).toNat = 1000000000000000000 := by decide +kernel
theorem e18b : 2 * (10 : Int) ^ (18 : Int).toNat - 1 = 1999999999999999999 := by decide +kernel
theorem q18 : (0 : Int) < 2 * (10 : Int) ^ (18 : Int).toNat - 1 := by decide +kernel
theorem p17 : CPowW 10 17 := ⟨by decide, by decide +kernel⟩
theorem e17 : (10 : Int) ^ (17 : Int).toNat = 100000000000000000 := by decide +kernel
theorem q17 : (0 : Int) < (10 : Int) ^ (17 : Int).toNat := by decide +kernel
theorem atI_in {L : List V} {i : Int} (h0 : 0 ≤ i) (h1 : i < (L.length : Int)) : ∃ v, atI L i = some v ∧ v ∈ L := by
  obtain ⟨n, rfl⟩ : ∃ n : Nat, i = (n : Int) := ⟨i.toNat, by omega⟩
  have h : n < L.length := by omega
  exact ⟨L[n], atI_nat (List.getElem?_eq_getElem h), List.getElem_mem h⟩
theorem iteB {b : Bool} {A B : Prop} (h1 : A) (h2 : B) : if b = true then A else B := by
  cases b
  · exact iteF h2
  · exact iteT h1
section
variable {P : Program} {w : World} {K : PySem.W.Frag} {mg : Str → Option Value} {base : Heap} {CF CP : Addr} {cA : OpK → Addr}
def spCell (K : PySem.W.Frag) : Sp := fun vs H Q _ => ∃ (a : Addr) (xs : List V) (k : Nat), vs = [.ref a, .int (k : Int)] ∧ SqL K H a xs ∧ Ints xs ∧ k ≤ 1000 ∧ ∀ z H', Same H H' → Q (.int z) H'
theorem sc__law_cell : FnScope ["_law_script", "_law_k", "_law_mixed", "_law_cell_here"] ["_law_script", "_law_k"] (defScope (top 107)) := ⟨rfl, rfl, rfl, by decide +kernel, rfl, by decide +kernel, by decide +kernel⟩
theorem ok__law_cell (X : Fx mg) (F : FnP K mg "_law_cell" "_law_cell" (top 107)) : Cal P w K mg base CX0 1 "_law_cell" ["_law_script", "_law_k"] (spCell K) := by
  refine F.cal sc__law_cell (fun _ _ _ _ _ _ us hl => match us, hl with | [_, _], _ => rfl) (fun vs H Q E h => ?_) (fun f cdv A outer s H vs Q E hr h => ?_)
  · obtain ⟨a, xs, k, rfl, _⟩ := h
    rfl
  · obtain ⟨a, xs, k, rfl, ha, hi, hk, q⟩ := h
    refine ⟨_, PSs.nox (pss_cons (ps_if (pt_cmpR op_lt (pv 1) (pe_callB (call_len_seq) rfl X.len (by decide +kernel) (pa_cons (pv 0) pa_nil)) (nomark _)) (pss_one (ps_ret (pe_ix ix_list (pv 0) (pv 1) (fun _ _ => rfl)))) pss_nil)
      (pss_cons (ps_set (i := 2) sc__law_cell.nd rfl (Or.inl rfl) (pe_op op_add (pe_op op_mul pe_int (pv 1)) pe_int))
      (pss_cons (ps_for PassesOwn.never rfl (pi_list (pe_slice sl_list (pv 0) po_none (po_some pe_int))) (pg_name (i := 3) sc__law_cell.nd rfl (Or.inl rfl)) (pss_one (ps_set (i := 2) sc__law_cell.nd rfl (Or.inl rfl) (pe_op op_mod (pe_op op_add (pe_op op_mul (pv 2) pe_int) (pv 3)) pe_int))))
      (pss_one (ps_ret (pe_op op_mod (pe_op op_mul (pv 2) (pe_op op_add (pv 1) pe_int)) pe_int)))))), ?_⟩
    refine ⟨_, rfl, _, rfl, a, _, rfl, .inl ha, _, _, rfl, rfl, _, rfl, ?_⟩
    by_cases hl : k < xs.length
    · rw [decide_eq_true (by omega)]
      have ex := List.getElem?_eq_getElem hl
      obtain ⟨n, en⟩ := hi.at ex
      refine iteT ⟨_, rfl, _, rfl, a, _, _, _, rfl, rfl, ha, atI_nat ex, ?_⟩
      rw [en]
      exact q _ H (Same.refl _)
    · rw [decide_eq_false (by omega)]
      refine iteF ⟨_, rfl, _, _, rfl, rfl, .inl ⟨by decide, by decide⟩, _, _, rfl, rfl, ?_⟩
      refine ⟨_, rfl, ?_⟩
      unfold tNoPart
      refine ⟨_, rfl, a, xs, rfl, ha, fun p np => ?_⟩
      have s1 : Same H (upd H p (.lst (cutV xs none (some 5)))) := Same.new np
      have hp : upd H p (.lst (cutV xs none (some 5))) p = some (.lst (cutV xs none (some 5))) := upd_same
      generalize upd H p (.lst (cutV xs none (some 5))) = H1 at s1 hp ⊢
      refine ⟨p, rfl, ⟨_, SqL.of hp⟩, for_list (K := K) (a := p) (xs := cutV xs none (some 5)) (fun i σ H2 => ∃ (z : Int) (o : Option V), σ = [some (.ref a), some (.int (k : Int)), some (.int z), o] ∧ Same H1 H2) ⟨_, none, rfl, Same.refl _⟩ (fun i σ H2 _ ⟨_, _, _, s2⟩ => SqL.of (s2 _ _ hp)) ?_ ?_⟩
      · rintro i x σ H2 hx ⟨z, o, rfl, s2⟩
        obtain ⟨n, rfl⟩ := (hi.cut none (some 5)).at hx
        exact ⟨_, rfl, _, _, rfl, rfl, .inr ⟨by decide, by decide⟩, _, rfl, _, _, rfl, rfl, _, _, rfl, rfl, (by show (0 : Int) < 998244353; decide), _, _, rfl, s2⟩
      · rintro σ H2 ⟨z, o, rfl, s2⟩
        exact ⟨_, rfl, _, rfl, _, _, rfl, rfl, _, _, rfl, rfl, .inr ⟨by omega, by omega⟩, _, _, rfl, rfl, (by show (0 : Int) < 1000000007; decide), q _ _ (s1.trans s2)⟩
def spCells (K : PySem.W.Frag) : Sp := fun vs H Q _ => ∃ (a : Addr) (xs : List V), vs = [.ref a] ∧ SqL K H a xs ∧ Ints xs ∧ xs.length ≤ 1000 ∧ ∀ p ys H', Same H H' → SqL K H' p ys → Ints ys → Q (.ref p) H'
theorem sc__law_cells : FnScope ["_law_script", "_law_cells_here", "_law_cell_here", "_law_number_here", "_law_k"] ["_law_script"] (defScope (top 106)) := ⟨rfl, rfl, rfl, by decide +kernel, rfl, by decide +kernel, by decide +kernel⟩
theorem ok__law_cells (X : Fx mg) (F : FnP K mg "_law_cells" "_law_cells" (top 106)) : Cal P w K mg base CX0 1 "_law_cells" ["_law_script"] (spCells K) := by
  refine F.cal sc__law_cells (fun _ _ _ _ _ _ us hl => match us, hl with | [_], _ => rfl) (fun vs H Q E h => ?_) (fun f cdv A outer s H vs Q E hr h => ?_)
  · obtain ⟨a, xs, rfl, _⟩ := h
    rfl
  · obtain ⟨a, xs, rfl, ha, hi, hz, q⟩ := h
    refine ⟨_, PSs.nox (pss_cons (ps_if (PW.pt (pw_or (pt_cmpR op_lt (pe_callB (call_len_seq) rfl X.len (by decide +kernel) (pa_cons (pv 0) pa_nil)) pe_int (nomark _)) (pw_or1 (pt_cmpR op_eq (pe_op op_mod (pe_ix ix_list (pv 0) pe_int (fun _ _ => rfl)) pe_int) pe_int (nomark _))))) (pss_one (ps_ret (pv 0))) pss_nil)
      (pss_cons (ps_set (i := 1) sc__law_cells.nd rfl (Or.inl rfl) (pe_lst pa_nil))
      (pss_cons (ps_for PassesOwn.never rfl (pi_list (pe_slice sl_list (pv 0) (po_some pe_int) (po_some pe_int))) (pg_name (i := 2) sc__law_cells.nd rfl (Or.inl rfl)) (pss_cons (ps_set (i := 3) sc__law_cells.nd rfl (Or.inl rfl) (pe_op op_mod (pv 2) (pe_op op_powW (pe_op op_powW pe_int pe_int) pe_int)))
      (pss_one (ps_for PassesOwn.never rfl (pi_range1 rfl X.range (pa_cons pe_int pa_nil)) (pg_name (i := 4) sc__law_cells.nd rfl (Or.inl rfl)) (pss_one (ps_if (PW.pt (pw_or (pt_cmpR op_eq (pv 4) pe_int (nomark _)) (pw_or1 (pt_cmpR op_gt (pv 3) pe_int (nomark _))))) (pss_cons (ps_expr (pe_bm PySem.F.plainAttrs_list PySem.F.slot_list_append PySem.F.type_list_append mt_append (pv 1) (pa_cons (pe_op op_mod (pv 3) (pe_op op_powW pe_int pe_int)) pa_nil)))
      (pss_one (ps_set (i := 3) sc__law_cells.nd rfl (Or.inl rfl) (pe_op op_fdivW (pv 3) (pe_op op_powW pe_int pe_int))))) pss_nil))))))
      (pss_one (ps_ret (pe_slice sl_list (pv 1) po_none (po_some pe_int))))))), ?_⟩
    refine ⟨_, rfl, a, _, rfl, .inl ha, _, _, rfl, rfl, _, rfl, ?_⟩
    by_cases hl : xs.length < 2
    · rw [decide_eq_true (by omega)]
      exact iteT (iteT ⟨_, rfl, q a xs H (Same.refl _) ha hi⟩)
    rw [decide_eq_false (by omega)]
    have h0 : 0 < xs.length := by omega
    have ex := List.getElem?_eq_getElem h0
    obtain ⟨n0, en⟩ := hi.at ex
    refine iteF ⟨_, rfl, a, _, _, _, rfl, rfl, ha, atI_nat (j := 0) ex, ?_⟩
    rw [en]
    refine ⟨_, _, rfl, rfl, (by show (0 : Int) < 2; decide), rfl, _, rfl, iteB ⟨_, rfl, q a xs H (Same.refl _) ha hi⟩ ?_⟩
    refine ⟨Nat.zero_le _, fun l nl => ?_⟩
    have s1 : Same H (upd H l (.lst [])) := Same.new nl
    have hl1 : upd H l (.lst []) l = some (.lst []) := upd_same
    generalize upd H l (.lst []) = H1 at s1 hl1 ⊢
    refine ⟨_, rfl, _, rfl, _, rfl, a, xs, rfl, s1.seq ha, fun p np => ?_⟩
    have s2 : Same H1 (upd H1 p (.lst (cutV xs (some 1) (some 63)))) := Same.new np
    have hp2 : upd H1 p (.lst (cutV xs (some 1) (some 63))) p = some (.lst (cutV xs (some 1) (some 63))) := upd_same
    have hl2 := s2 _ _ hl1
    have nlp : p ≠ l := by
      rintro rfl
      rw [hl1] at np
      cases np
    generalize upd H1 p (.lst (cutV xs (some 1) (some 63))) = H2 at s2 hp2 hl2 ⊢
    have hcl : (cutV xs (some 1) (some 63)).length ≤ 1000 := Nat.le_trans (cutV_length _ _ _) hz
    refine ⟨p, rfl, ⟨_, SqL.of hp2⟩, for_list (K := K) (a := p) (xs := cutV xs (some 1) (some 63)) (fun i σ H3 => ∃ (o1 o2 o3 : Option V) (acc : List V), σ = [some (.ref a), some (.ref l), o1, o2, o3] ∧ Same H H3 ∧ H3 p = some (.lst (cutV xs (some 1) (some 63))) ∧ H3 l = some (.lst acc) ∧ Ints acc ∧ acc.length ≤ i * 60) ⟨none, none, none, [], rfl, s1.trans s2, hp2, hl2, (fun x hx => by cases hx), Nat.zero_le _⟩ (fun i σ H3 _ ⟨_, _, _, _, _, _, h, _⟩ => SqL.of h) ?_ ?_⟩
    · rintro i x σ H3 hx ⟨o1, o2, o3, acc, rfl, s3, hp3, hl3, hacc, hal⟩
      obtain ⟨n, rfl⟩ := (hi.cut (some 1) (some 63)).at hx
      have hil : i < (cutV xs (some 1) (some 63)).length := (List.getElem?_eq_some_iff.mp hx).1
      refine ⟨_, rfl, _, _, rfl, rfl, p48, _, _, rfl, rfl, p30, _, _, rfl, rfl, q48, ?_⟩
      refine ⟨_, rfl, by decide, by decide, for_range (lo := 0) (n := 60) (fun k σ H4 => ∃ (z : Int) (o3 : Option V) (acc : List V), σ = [some (.ref a), some (.ref l), some (.int n), some (.int z), o3] ∧ Same H H4 ∧ H4 p = some (.lst (cutV xs (some 1) (some 63))) ∧ H4 l = some (.lst acc) ∧ Ints acc ∧ acc.length ≤ i * 60 + k) ⟨_, o3, acc, rfl, s3, hp3, hl3, hacc, hal⟩ ?_ ?_⟩
      · rintro k σ H4 hk ⟨z, o3, acc, rfl, s4, hp4, hl4, hacc, hal⟩
        have skip : ∃ (z' : Int) (o3 : Option V) (acc : List V), ([some (.ref a), some (.ref l), some (.int n), some (.int z), some (.int (0 + (k : Int)))] : L2.St) = [some (.ref a), some (.ref l), some (.int n), some (.int z'), o3] ∧ Same H H4 ∧ H4 p = some (.lst (cutV xs (some 1) (some 63))) ∧ H4 l = some (.lst acc) ∧ Ints acc ∧ acc.length ≤ i * 60 + (k + 1) := ⟨z, _, acc, rfl, s4, hp4, hl4, hacc, by omega⟩
        have put : ∀ D : Ends, (∀ σ H5, (∃ (z' : Int) (o3 : Option V) (acc : List V), σ = [some (.ref a), some (.ref l), some (.int n), some (.int z'), o3] ∧ Same H H5 ∧ H5 p = some (.lst (cutV xs (some 1) (some 63))) ∧ H5 l = some (.lst acc) ∧ Ints acc ∧ acc.length ≤ i * 60 + (k + 1)) → D.nx σ H5) → tSeq (tDrop (tBM K "list" rAppend (tVar 1) (tCons (tOp (rI (fun _ j => 0 < j) fun i j => V.int (i % j)) (tVar 3) (tOp (rI CPowW fun i j => V.int (i ^ j.toNat)) (tC (V.int 10)) (tC (V.int 24)))) tNil)))
            (tAsg (tOp (rI CDivW fun i j => V.int (i / j)) (tVar 3) (tOp (rI CPowW fun i j => V.int (i ^ j.toNat)) (tC (V.int 10)) (tC (V.int 24)))) (gName 3))
            D [some (.ref a), some (.ref l), some (.int n), some (.int z), some (.int (0 + (k : Int)))] H4 := by
          intro D hD
          refine ⟨_, rfl, .inl ⟨rfl, _, SqL.of hl4⟩, _, rfl, _, _, rfl, rfl, p24, _, _, rfl, rfl, q24, ?_⟩
          refine ⟨l, acc, _, rfl, rfl, hl4, Nat.lt_of_lt_of_le (show acc.length < 100000 by omega) (by decide), ?_⟩
          exact ⟨_, rfl, _, _, rfl, rfl, p24, _, _, rfl, rfl, d24 _, hD _ _ ⟨_, _, acc ++ [_], rfl, keep_upd s4 nl, by rw [upd_ne nlp]; exact hp4, upd_same, hacc.snoc, by rw [List.length_append]; exact Nat.add_le_add_right hal 1⟩⟩
        refine ⟨_, rfl, rfl, _, rfl, iteB (put _ fun _ _ h => h) ⟨_, rfl, _, _, rfl, rfl, _, rfl, iteB (put _ fun _ _ h => h) skip⟩⟩
      · rintro σ H4 ⟨z, o3, acc, rfl, s4, hp4, hl4, hacc, hal⟩
        exact ⟨_, _, _, acc, rfl, s4, hp4, hl4, hacc, by omega⟩
    · rintro σ H3 ⟨o1, o2, o3, acc, rfl, s3, hp3, hl3, hacc, hal⟩
      refine ⟨_, rfl, ?_⟩
      unfold tNoPart
      refine ⟨_, rfl, l, acc, rfl, SqL.of hl3, fun p4 np4 => ?_⟩
      exact q p4 _ _ (s3.trans (Same.new np4)) (SqL.of upd_same) (hacc.cut none (some 64))
def spNumber : Sp := fun vs H Q _ => ∃ c : Int, vs = [.int c] ∧ ∀ z, narrow z = true → Q (.int z) H
theorem sc__law_number : FnScope ["_law_cell_here"] ["_law_cell_here"] (defScope (top 108)) := ⟨rfl, rfl, rfl, by decide +kernel, rfl, by decide +kernel, by decide +kernel⟩
theorem ok__law_number (F : FnP K mg "_law_number" "_law_number" (top 108)) : Cal P w K mg base CX0 1 "_law_number" ["_law_cell_here"] spNumber := by
  refine F.cal sc__law_number (fun _ _ _ _ _ _ us hl => match us, hl with | [_], _ => rfl) (fun vs H Q E h => ?_) (fun f cdv A outer s H vs Q E hr h => ?_)
  · obtain ⟨c, rfl, _⟩ := h
    rfl
  · obtain ⟨c, rfl, q⟩ := h
    refine ⟨_, PSs.nox (pss_cons (ps_if (pt_cmpR op_eq (pe_op op_mod (pv 0) pe_int) pe_int (nomark _)) (pss_one (ps_ret (pe_op op_add (pe_op op_sub (pe_op op_mod (pe_op op_fdiv (pv 0) pe_int) (pe_op op_sub (pe_op op_mul pe_int (pe_op op_powW pe_int pe_int)) pe_int)) (pe_op op_powW pe_int pe_int)) pe_int))) pss_nil)
      (pss_one (ps_ret (pe_op op_sub (pe_op op_mod (pe_op op_fdiv (pv 0) pe_int) pe_int) pe_int)))), ?_⟩
    refine ⟨_, rfl, _, _, rfl, rfl, (by show (0 : Int) < 8; decide), rfl, _, rfl, iteB ?_ ?_⟩
    · refine ⟨_, rfl, _, _, rfl, rfl, ⟨by decide, by decide⟩, _, _, rfl, rfl, p18, _, _, rfl, rfl, .inl ⟨by decide, by decide⟩, _, _, rfl, rfl, _, _, rfl, rfl, q18, _, _, rfl, rfl, p18, _, _, rfl, rfl, _, _, rfl, rfl, ?_⟩
      show Q (.int (c / 8 % (2 * 10 ^ (18 : Int).toNat - 1) - 10 ^ (18 : Int).toNat + 1)) H
      rw [e18b, e18]
      exact q _ (narrow_iff.mpr (by omega))
    · refine ⟨_, rfl, _, _, rfl, rfl, ⟨by decide, by decide⟩, _, _, rfl, rfl, (by show (0 : Int) < 7; decide), _, _, rfl, rfl, ?_⟩
      show Q (.int (c / 8 % 7 - 2)) H
      exact q _ (narrow_iff.mpr (by omega))
def spSpot : Sp := fun vs H Q _ => ∃ (c : Int) (m : Nat), vs = [.int c, .int (m : Int)] ∧ 1 ≤ m ∧ m ≤ 100 ∧ ∀ z H', Same H H' → narrow z = true → Q (.int z) H'
theorem sc__law_spot : FnScope ["_law_cell_here", "_law_many"] ["_law_cell_here", "_law_many"] (defScope (top 109)) := ⟨rfl, rfl, rfl, by decide +kernel, rfl, by decide +kernel, by decide +kernel⟩
theorem ok__law_spot (F : FnP K mg "_law_spot" "_law_spot" (top 109)) : Cal P w K mg base CX0 1 "_law_spot" ["_law_cell_here", "_law_many"] spSpot := by
  refine F.cal sc__law_spot (fun _ _ _ _ _ _ us hl => match us, hl with | [_, _], _ => rfl) (fun vs H Q E h => ?_) (fun f cdv A outer s H vs Q E hr h => ?_)
  · obtain ⟨c, m, rfl, _⟩ := h
    rfl
  · obtain ⟨c, m, rfl, h1, h2, q⟩ := h
    refine ⟨_, PSs.nox (pss_cons (ps_if (pt_cmpR op_eq (pe_op op_mod (pv 0) pe_int) pe_int (nomark _)) (pss_one (ps_ret (pe_ix ix_list (pe_lst (pa_cons (pe_un un_neg pe_int) (pa_cons (pv 1) (pa_cons (pe_op op_sub pe_int (pv 1)) (pa_cons (pe_op op_add (pv 1) (pe_op op_mod (pe_op op_fdiv (pv 0) pe_int) (pe_op op_powW pe_int pe_int))) (pa_cons (pe_op op_sub (pe_op op_sub pe_int pe_int) (pe_op op_mod (pe_op op_fdiv (pv 0) pe_int) (pe_op op_powW pe_int pe_int))) pa_nil)))))) (pe_op op_mod (pe_op op_fdiv (pv 0) pe_int) pe_int) (fun _ _ => rfl)))) pss_nil)
      (pss_one (ps_ret (pe_op op_mod (pe_op op_fdiv (pv 0) pe_int) (pv 1))))), ?_⟩
    refine ⟨_, rfl, _, _, rfl, rfl, (by show (0 : Int) < 20; decide), rfl, _, rfl, iteB ?_ ?_⟩
    · refine ⟨_, rfl, _, rfl, _, rfl, _, _, rfl, rfl, _, rfl, _, rfl, _, _, rfl, rfl, ⟨by decide, by decide⟩, _, _, rfl, rfl, p17, _, _, rfl, rfl, q17, _, _, rfl, rfl, _, _, rfl, rfl, _, rfl, _, _, rfl, rfl, ⟨by decide, by decide⟩, _, _, rfl, rfl, p17, _, _, rfl, rfl, q17, _, _, rfl, rfl, by show 5 ≤ sizeLine; decide, fun p np => ?_⟩
      have hix : 0 ≤ c / 20 % 5 ∧ c / 20 % 5 < 5 := by omega
      have hL : ∀ L : List V, L = [V.int (-1), V.int (m : Int), V.int (0 - (m : Int)), V.int ((m : Int) + c / 80 % 10 ^ (17 : Int).toNat), V.int (0 - 1 - c / 80 % 10 ^ (17 : Int).toNat)] → ∃ z, atI L (c / 20 % 5) = some (.int z) ∧ narrow z = true := fun L e => by
        subst e
        obtain ⟨v, hv, hm⟩ := atI_in (L := [V.int (-1), V.int (m : Int), V.int (0 - (m : Int)), V.int ((m : Int) + c / 80 % 10 ^ (17 : Int).toNat), V.int (0 - 1 - c / 80 % 10 ^ (17 : Int).toNat)]) hix.1 hix.2
        rw [e17] at hm
        simp only [List.mem_cons, List.not_mem_nil, or_false] at hm
        rcases hm with e | e | e | e | e <;> subst e <;> exact ⟨_, hv, narrow_iff.mpr (by omega)⟩
      obtain ⟨z, hz, nz⟩ := hL _ rfl
      exact ⟨_, rfl, _, _, rfl, rfl, ⟨by decide, by decide⟩, _, _, rfl, rfl, (by show (0 : Int) < 5; decide), p, _, _, _, rfl, rfl, SqL.of upd_same, hz, q z _ (Same.new np) nz⟩
    · refine ⟨_, rfl, _, _, rfl, rfl, ⟨by decide, by decide⟩, _, rfl, _, _, rfl, rfl, (by show (0 : Int) < (m : Int); omega), ?_⟩
      show Q (.int (c / 20 % (m : Int))) H
      have a1 := Int.emod_nonneg (c / 20) (b := (m : Int)) (by omega)
      have a2 := Int.emod_lt_of_pos (c / 20) (b := (m : Int)) (by omega)
      exact q _ H (Same.refl _) (narrow_iff.mpr (by omega))
end
end Fk
set_option maxHeartbeats 4000000
/-! ## The law's helpers: jars, commands, scores -/
namespace Fk
open PySem PySem.Spec PyProof.Rows L2 TL
section
variable {P : Program} {w : World} {K : PySem.W.Frag} {mg : Str → Option Value} {base : Heap} {CF CP : Addr} {cA : OpK → Addr}
def spLawJars (K : PySem.W.Frag) : Sp := fun vs H Q _ => ∃ (a : Addr) (xs : List V) (k m : Nat), vs = [.ref a, .int (k : Int), .int (m : Int)] ∧ SqL K H a xs ∧ Ints xs ∧ k ≤ 100 ∧ 1 ≤ m ∧ m ≤ 50 ∧ ∀ p H' j, Same H H' → SqT K H' p (j.map V.int) → JarsOk j → j.length = m → Q (.ref p) H'
theorem sc__law_jars : FnScope ["_law_script", "_law_at", "_law_many", "_law_jars_here", "_law_k"] ["_law_script", "_law_at", "_law_many"] (defScope (top 110)) := ⟨rfl, rfl, rfl, by decide +kernel, rfl, by decide +kernel, by decide +kernel⟩
theorem ok__law_jars (X : Fx mg) (c__law_cell : Cal P w K mg base CX0 1 "_law_cell" ["_law_script", "_law_k"] (spCell K)) (c__law_number : Cal P w K mg base CX0 1 "_law_number" ["_law_cell_here"] spNumber) (F : FnP K mg "_law_jars" "_law_jars" (top 110)) :
    Cal P w K mg base CX0 2 "_law_jars" ["_law_script", "_law_at", "_law_many"] (spLawJars K) := by
  refine F.cal sc__law_jars (fun _ _ _ _ _ _ us hl => match us, hl with | [_, _, _], _ => rfl) (fun vs H Q E h => ?_) (fun f cdv A outer s H vs Q E hr h => ?_)
  · obtain ⟨a, xs, k, m, rfl, _⟩ := h
    rfl
  · obtain ⟨a, xs, k, m, rfl, ha, hi, hk, h1, h2, q⟩ := h
    refine ⟨_, PSs.nox (pss_cons (ps_setLc (i := 3) (own := [("_law_k", 4)]) (g := gName 4) (tt := tYes) rfl sc__law_jars.nd rfl rfl (sw_true rfl rfl rfl (by decide +kernel)) (pi_range1 rfl X.range (pa_cons (pv 2) pa_nil)) (blkOk_by (N := ["_law_script", "_law_at", "_law_many", "_law_jars_here", "_law_k"]) (sc := defScope (top 110)) (by decide +kernel)) (fun _ _ _ _ _ => pg_name (i := 4) sc__law_jars.nd rfl (Or.inl rfl)) (fun _ _ _ _ _ => pts_nil) (fun _ _ _ _ _ => (pe_cal c__law_number hr pass0 (pa_cons (pe_cal c__law_cell hr pass0 (pa_cons (pv 0) (pa_cons (pe_op op_add (pv 1) (pv 4)) pa_nil))) pa_nil))))
      (pss_cons (ps_if (pt_cmpR op_gt (pe_op op_mod (pe_cal c__law_cell hr pass0 (pa_cons (pv 0) (pa_cons pe_int pa_nil))) pe_int) pe_int (nomark _)) (pss_one (ps_asg pe_int (pg_sub (pv 3) (pe_un un_neg pe_int) set_list))) pss_nil)
      (pss_one (ps_ret (pe_tupleOf rfl X.tuple (pv 3)))))), ?_⟩
    refine ⟨_, rfl, _, rfl, by omega, by omega, fun Dl nD => lc_range (lo := 0) (n := m) (fun i H' => ∃ acc : List Int, H' Dl = some (.lst (acc.map V.int)) ∧ acc.length = i ∧ (∀ x ∈ acc, narrow x = true) ∧ Same H H') ⟨[], upd_same, rfl, (fun x hx => by cases hx), Same.new nD⟩ ?_ ?_⟩
    · rintro i H1 hlt ⟨acc, hD, hacc, hn, s1⟩
      refine ⟨rfl, ?_⟩
      unfold tYes
      have e : (k : Int) + (0 + (i : Int)) = ((k + i : Nat) : Int) := by omega
      refine iteT ⟨_, rfl, _, rfl, _, rfl, _, _, rfl, rfl, a, xs, k + i, ?_, s1.seq ha, hi, by omega, fun z H2 s2 => ⟨z, rfl, fun z2 nz => ?_⟩⟩
      · show [V.ref a, V.int ((k : Int) + (0 + (i : Int)))] = _
        rw [e]
      · have hD2 := s2 _ _ hD
        refine ⟨_, hD2, Nat.lt_of_lt_of_le (show (acc.map V.int).length < 1001 by rw [List.length_map]; omega) (by decide), acc ++ [z2], ?_, by rw [List.length_append, hacc]; rfl, fun x hx => ?_, grow (s1.trans s2) nD⟩
        · rw [upd_same, List.map_append]
          rfl
        · rcases List.mem_append.mp hx with h | h
          · exact hn x h
          · rw [List.mem_singleton] at h
            rw [h]; exact nz
    · rintro H1 ⟨acc, hD, hacc, hn, s1⟩
      have fin : ∀ (H2 : Hp) (j : List Int) (Q' : VK), H2 Dl = some (.lst (j.map V.int)) → Same H H2 → JarsOk j → j.length = m → (∀ v H', Q v H' → Q' v H') → ∃ v, ([some (.ref a), some (.int (k : Int)), some (.int (m : Int)), some (.ref Dl), none] : L2.St)[3]? = some (some v) ∧ kTup K v H2 Q' := fun H2 j Q' h2 s2 jo jl k' => ⟨_, rfl, .inl ⟨Dl, _, rfl, SqL.of h2, fun p np => k' _ _ (q p _ j (s2.trans (Same.new np)) (SqT.of upd_same) jo jl)⟩⟩
      refine ⟨_, rfl, a, xs, 1, rfl, s1.seq ha, hi, by decide, fun z H2 s2 => ⟨_, _, rfl, rfl, (by show (0 : Int) < 8; decide), _, _, rfl, rfl, _, rfl, iteB ?_ ?_⟩⟩
      · refine ⟨_, rfl, _, rfl, Dl, _, _, m - 1, rfl, rfl, s2 _ _ hD, ?_, ?_⟩
        · unfold ixN
          rw [List.length_map, hacc]
          rw [if_neg (by decide), if_pos (by omega)]
          exact congrArg some (by omega)
        · refine fin _ (acc.set (m - 1) 1) _ ?_ (keep_upd (s1.trans s2) nD) ⟨fun x hx => ?_, ?_⟩ ?_ fun _ _ h => h
          · rw [upd_same, List.map_set]
          · rcases List.mem_or_eq_of_mem_set hx with h | h
            · exact hn x h
            · rw [h]; decide +kernel
          · rw [List.length_set, hacc]; exact h2
          · rw [List.length_set, hacc]
      · exact fin H2 acc _ (s2 _ _ hD) (s1.trans s2) ⟨hn, by rw [hacc]; exact h2⟩ hacc fun _ _ h => h
end
end Fk
set_option maxHeartbeats 4000000
/-! ## The law's helpers: commands -/
namespace Fk
open PySem PySem.Spec PyProof.Rows L2 TL
mutual
def Cmd.size : Cmd → Nat
  | .set _ _ => 1
  | .op _ _ _ _ => 1
  | .when_ _ b => 1 + sizes b
  | .loop _ b => 1 + sizes b
def sizes : List Cmd → Nat
  | [] => 0
  | c :: r => c.size + sizes r
end
abbrev RT : Addr → Prop := fun _ => True
theorem merge3 {a b c : Str} {x y z : V} (h1 : a ≠ b) (h2 : a ≠ c) (h3 : b ≠ c) : mergeK [] [((.inr a : Key), x), (.inr b, y), (.inr c, z)] = [(.inr a, x), (.inr b, y), (.inr c, z)] := by
  have n1 : ¬ (Sum.inr a : Key) = .inr b := fun z => h1 (Sum.inr.inj z)
  have n2 : ¬ (Sum.inr a : Key) = .inr c := fun z => h2 (Sum.inr.inj z)
  have n3 : ¬ (Sum.inr b : Key) = .inr c := fun z => h3 (Sum.inr.inj z)
  simp [mergeK, putK, valV, n1, n2, n3]
/-- a dict of three keys -/
theorem disp3 {K : PySem.W.Frag} {a b c : Str} {t1 t2 t3 : TE} {P1 P2 P3 : D → Prop} {σ : L2.St} {H : Hp} {Q : VK} (h1 : a ≠ b) (h2 : a ≠ c) (h3 : b ≠ c)
    (e1 : ∀ (H1 : Hp) (Q' : VK), Same H H1 → (∀ v d H2, P1 d → Same H1 H2 → Rep K (RH H) H2 d v → Q' v H2) → t1 σ H1 Q') (e2 : ∀ (H1 : Hp) (Q' : VK), Same H H1 → (∀ v d H2, P2 d → Same H1 H2 → Rep K (RH H) H2 d v → Q' v H2) → t2 σ H1 Q')
    (e3 : ∀ (H1 : Hp) (Q' : VK), Same H H1 → (∀ v d H2, P3 d → Same H1 H2 → Rep K (RH H) H2 d v → Q' v H2) → t3 σ H1 Q')
    (q : ∀ v H' x y z, P1 x → P2 y → P3 z → Same H H' → Rep K RT H' (.rcd [(a, x), (b, y), (c, z)]) v → Q v H') : tDisp [(tC (.str a), t1), (tC (.str b), t2), (tC (.str c), t3)] σ H Q := by
  intro p np
  have s0 : Same H (upd H p (.dK [])) := Same.new np
  have hp0 : upd H p (.dK []) p = some (.dK []) := upd_same
  generalize upd H p (.dK []) = H0 at s0 hp0 ⊢
  refine e1 H0 _ s0 fun v1 x H1 p1 s1 r1 => e2 H1 _ (s0.trans s1) fun v2 y H2 p2 s2 r2 => e3 H2 _ (s0.trans (s1.trans s2)) fun v3 z H3 p3 s3 r3 => ?_
  have hp3 := s3 _ _ (s2 _ _ (s1 _ _ hp0))
  refine ⟨hp3, [(.inr a, v1), (.inr b, v2), (.inr c, v3)], rfl, by show 3 ≤ 15; decide, ?_⟩
  rw [merge3 h1 h2 h3]
  have k : ∀ {d v}, Rep K (RH H) H3 d v → Rep K RT (upd H3 p (.dK [(.inr a, v1), (.inr b, v2), (.inr c, v3)])) d v := fun {d v} r => (r.mono (Kept.dk hp3 fun z => z np)).imp fun _ _ _ _ => trivial
  exact q _ _ x y z p1 p2 p3 (keep_upd (s0.trans (s1.trans (s2.trans s3))) np) (.rcd trivial upd_same (.cons (k ((r1.same s2).same s3)) (.cons (k (r2.same s3)) (.cons (k r3) .nil))))
theorem iteD {b : Bool} {p A B : Prop} [Decidable p] (e : b = decide p) (h1 : p → A) (h2 : ¬ p → B) : if b = true then A else B := by
  subst e
  by_cases h : p
  · rw [decide_eq_true h]
    exact iteT (h1 h)
  · rw [decide_eq_false h]
    exact iteF (h2 h)
theorem decV {i j : Int} : decide (V.int i = V.int j) = decide (i = j) := by
  by_cases h : i = j
  · rw [decide_eq_true h, decide_eq_true (congrArg V.int h)]
  · rw [decide_eq_false h, decide_eq_false fun z => h (V.int.inj z)]
theorem RepL.get_mem {K : PySem.W.Frag} {R : Addr → Prop} {H : Hp} {ds : List D} {vs : List V} (h : RepL K R H ds vs) : True := trivial
theorem cmdsD_app : ∀ a b : List Cmd, cmdsD (a ++ b) = cmdsD a ++ cmdsD b
  | [], b => by simp only [cmdsD, List.nil_append]
  | c :: r, b => by simp only [cmdsD, List.cons_append, cmdsD_app r b]
theorem cmdsOk_app : ∀ a b : List Cmd, cmdsOk (a ++ b) = (cmdsOk a && cmdsOk b)
  | [], b => by simp only [cmdsOk, List.nil_append, Bool.true_and]
  | c :: r, b => by simp only [cmdsOk, List.cons_append, cmdsOk_app r b, Bool.and_assoc]
theorem sizes_app : ∀ a b : List Cmd, sizes (a ++ b) = sizes a + sizes b
  | [], b => by simp only [sizes, List.nil_append, Nat.zero_add]
  | c :: r, b => by simp only [sizes, List.cons_append, sizes_app r b, Nat.add_assoc]
section
variable {P : Program} {w : World} {K : PySem.W.Frag} {mg : Str → Option Value} {base : Heap} {CF CP : Addr} {cA : OpK → Addr}
def spCommand (K : PySem.W.Frag) : Sp := fun vs H Q _ => ∃ (c o : Int) (l : Addr) (m : Nat) (cs : List Cmd) (us : List V), vs = [.int c, .int o, .ref l, .int (m : Int)] ∧ H l = some (.lst us) ∧ RepL K RT H (cmdsD cs) us ∧ cmdsOk cs = true ∧ us.length ≤ 1000 ∧ 1 ≤ m ∧ m ≤ 50 ∧
  ∀ v H' d, Same H H' → Rep K RT H' (Cmd.d d) v → d.ok = true → d.size ≤ 1 + sizes cs + (if c % 6 = 5 then 1 else 0) → Q v H'
theorem sc__law_command : FnScope ["_law_cell_here", "_law_other", "_law_held", "_law_many", "_law_way", "_law_at", "_law_body"] ["_law_cell_here", "_law_other", "_law_held", "_law_many"] (defScope (top 111)) := ⟨rfl, rfl, rfl, by decide +kernel, rfl, by decide +kernel, by decide +kernel⟩
theorem ok__law_command (X : Fx mg) (c__law_spot : Cal P w K mg base CX0 1 "_law_spot" ["_law_cell_here", "_law_many"] spSpot) (c__law_number : Cal P w K mg base CX0 1 "_law_number" ["_law_cell_here"] spNumber) (F : FnP K mg "_law_command" "_law_command" (top 111)) :
    Cal P w K mg base CX0 2 "_law_command" ["_law_cell_here", "_law_other", "_law_held", "_law_many"] (spCommand K) := by
  refine F.cal sc__law_command (fun _ _ _ _ _ _ us hl => match us, hl with | [_, _, _, _], _ => rfl) (fun vs H Q E h => ?_) (fun f cdv A outer s H vs Q E hr h => ?_)
  · obtain ⟨c, o, l, m, cs, us, rfl, _⟩ := h
    rfl
  · obtain ⟨c, o, l, m, cs, us, rfl, hl, hcs, hok, hz, h1, h2, q⟩ := h
    have hu := hu_of hr
    refine ⟨_, PSs.nox (pss_cons (ps_set (i := 4) sc__law_command.nd rfl (Or.inl rfl) (pe_op op_mod (pv 0) pe_int))
      (pss_cons (ps_set (i := 5) sc__law_command.nd rfl (Or.inl rfl) (pe_cal c__law_spot hr pass0 (pa_cons (pe_op op_fdiv (pv 0) pe_int) (pa_cons (pv 3) pa_nil))))
      (pss_cons (ps_if (pt_cmpR op_eq (pv 4) pe_int (nomark _)) (pss_one (ps_ret (pe_disp (pps_cons pe_str pe_str (pps_cons pe_str (pv 5) (pps_cons pe_str (pe_cal c__law_number hr pass0 (pa_cons (pv 1) pa_nil)) pps_nil))) (by rfl) (by rfl) (fun z => by cases z) (by decide)))) pss_nil)
      (pss_cons (ps_if (pt_cmpR op_lt (pv 4) pe_int (nomark _)) (pss_one (ps_ret (pe_disp (pps_cons pe_str (pe_cal c__law_spot hr pass0 (pa_cons (pv 1) (pa_cons (pv 3) pa_nil))) (pps_cons pe_str (pe_ix ix_list (pe_lst (pa_cons pe_str (pa_cons pe_str (pa_cons pe_str pa_nil)))) (pe_op op_sub (pv 4) pe_int) (fun _ _ => rfl)) (pps_cons pe_str (pv 5) pps_nil))) (by rfl) (by rfl) (fun z => by cases z) (by decide)))) pss_nil)
      (pss_cons (ps_set (i := 6) sc__law_command.nd rfl (Or.inl rfl) (pe_callTy (call_list_of) rfl X.list (by decide +kernel) (pa_cons (pv 2) pa_nil)))
      (pss_cons (ps_if (PW.pt (pw_and (pt_cmpR op_eq (pv 4) pe_int (nomark _)) (pw_and1 (pt_cmpR op_gt (pe_op op_mod (pe_op op_fdiv (pv 1) pe_int) pe_int) pe_int (nomark _))))) (pss_one (ps_expr (pe_bm PySem.F.plainAttrs_list PySem.F.slot_list_append PySem.F.type_list_append mt_append (pv 6) (pa_cons (pe_disp (pps_cons pe_str pe_str (pps_cons pe_str (pv 5) (pps_cons pe_str (pe_op op_sub (pv 3) pe_int) pps_nil))) (by rfl) (by rfl) (fun z => by cases z) (by decide)) pa_nil)))) pss_nil)
      (pss_one (ps_ret (pe_disp (pps_cons pe_str (pv 5) (pps_cons pe_str (pe_tupleOf rfl X.tuple (pv 6)) (pps_cons pe_str (pe_ix ix_list (pe_lst (pa_cons pe_str (pa_cons pe_str pa_nil))) (pe_op op_sub (pv 4) pe_int) (fun _ _ => rfl)) pps_nil))) (by rfl) (by rfl) (fun z => by cases z) (by decide)))))))))), ?_⟩
    refine ⟨_, rfl, _, _, rfl, rfl, (by show (0 : Int) < 6; decide), _, rfl, _, _, rfl, rfl, ⟨by decide, by decide⟩, _, rfl, _, m, rfl, h1, by omega, fun at_ H1 s1 nat => ?_⟩
    refine ⟨_, rfl, rfl, _, rfl, ?_⟩
    have d1 : ("do" : Str) ≠ "at" := by decide +kernel
    have d2 : ("do" : Str) ≠ "n" := by decide +kernel
    have d3 : ("at" : Str) ≠ "n" := by decide +kernel
    have d4 : ("from" : Str) ≠ "do" := by decide +kernel
    have d5 : ("from" : Str) ≠ "at" := by decide +kernel
    have d6 : ("at" : Str) ≠ "body" := by decide +kernel
    have d7 : ("body" : Str) ≠ "do" := by decide +kernel
    refine iteD (p := c % 6 = 0) decV (fun w0 => ?_) (fun w0 => ?_)
    · refine disp3 (K := K) (P1 := fun d => d = .word "set") (P2 := fun d => d = .num at_) (P3 := fun d => ∃ n, narrow n = true ∧ d = .num n) d1 d2 d3 (fun H2 Q' s2 k => k _ _ _ rfl (Same.refl _) (.word _)) (fun H2 Q' s2 k => ⟨_, rfl, k _ _ _ rfl (Same.refl _) (.num _)⟩)
        (fun H2 Q' s2 k => ⟨_, rfl, o, rfl, fun z nz => k _ _ _ ⟨z, nz, rfl⟩ (Same.refl _) (.num _)⟩) ?_
      rintro v H' x y z rfl rfl ⟨n, nn, rfl⟩ s' rv
      refine q v H' (.set at_ n) (s1.trans s') ?_ ?_ ?_
      · simp only [Cmd.d]
        exact rv
      · simp only [Cmd.ok, nat, nn, Bool.and_self]
      · simp only [Cmd.size]
        omega
    refine ⟨_, rfl, _, _, rfl, rfl, _, rfl, ?_⟩
    refine iteD (p := c % 6 < 4) rfl (fun w4 => ?_) (fun w4 => ?_)
    · obtain ⟨k, hk⟩ : ∃ k : AK, atI [V.str "add", V.str "sub", V.str "mul"] (c % 6 - 1) = some (V.str k.o.word) := by
        have h : c % 6 = 1 ∨ c % 6 = 2 ∨ c % 6 = 3 := by omega
        rcases h with h | h | h
        · exact ⟨.add, by rw [h]; rfl⟩
        · exact ⟨.sub, by rw [h]; rfl⟩
        · exact ⟨.mul, by rw [h]; rfl⟩
      refine disp3 (K := K) (P1 := fun d => ∃ n, narrow n = true ∧ d = .num n) (P2 := fun d => d = .word k.o.word) (P3 := fun d => d = .num at_) d4 d5 d1 (fun H2 Q' s2 kk => ⟨_, rfl, _, rfl, o, m, rfl, h1, by omega, fun z H3 s3 nz => kk _ _ _ ⟨z, nz, rfl⟩ s3 (.num _)⟩)
        (fun H2 Q' s2 kk => ⟨by show 3 ≤ sizeLine; decide, fun p np => ⟨_, rfl, _, _, rfl, rfl, p, _, _, _, rfl, rfl, SqL.of upd_same, hk, kk _ _ _ rfl (Same.new np) (.word _)⟩⟩) (fun H2 Q' s2 kk => ⟨_, rfl, kk _ _ _ rfl (Same.refl _) (.num _)⟩) ?_
      rintro v H' x y z ⟨n, nn, rfl⟩ rfl rfl s' rv
      refine q v H' (.op false k n at_) (s1.trans s') ?_ ?_ ?_
      · simp only [Cmd.d]
        exact rv
      · simp only [Cmd.ok, nat, nn, Bool.and_self]
      · simp only [Cmd.size]
        omega
    have hl1 : H1 l = some (.lst us) := s1 _ _ hl
    refine ⟨_, rfl, l, us, rfl, .inl (SqL.of hl1), fun lb nlb => ?_⟩
    have s2 : Same H1 (upd H1 lb (.lst us)) := Same.new nlb
    have hlb : upd H1 lb (.lst us) lb = some (.lst us) := upd_same
    have n0 : H lb = none := s1.free nlb
    generalize upd H1 lb (.lst us) = H2 at s2 hlb ⊢
    have s02 := s1.trans s2
    have fin : ∀ (H3 : Hp) (us3 : List V) (cs3 : List Cmd) (D : Ends), (∀ v H', Q v H' → D.rt v H') → Same H H3 → H3 lb = some (.lst us3) → RepL K RT H3 (cmdsD cs3) us3 → cmdsOk cs3 = true → sizes cs3 ≤ sizes cs + (if c % 6 = 5 then 1 else 0) →
        tRet (tDisp [(tC (.str "at"), tVar 5), (tC (.str "body"), tThen (tVar 6) (kTup K)), (tC (.str "do"), tOp (rIxL K) (tLst (tCons (tC (.str "when")) (tCons (tC (.str "loop")) tNil))) (tOp (rI0 fun i j => V.int (i - j)) (tVar 4) (tC (.int 4))))]) D
          [some (.int c), some (.int o), some (.ref l), some (.int (m : Int)), some (.int (c % 6)), some (.int at_), some (.ref lb)] H3 := by
      intro H3 us3 cs3 D hD s3 hb3 r3 ok3 sz3
      obtain ⟨wd, hwd, wk⟩ : ∃ wd : Str, atI [V.str "when", V.str "loop"] (c % 6 - 4) = some (V.str wd) ∧ ((wd = "when") ∨ (wd = "loop")) := by
        have h : c % 6 = 4 ∨ c % 6 = 5 := by omega
        rcases h with h | h
        · exact ⟨"when", by rw [h]; rfl, .inl rfl⟩
        · exact ⟨"loop", by rw [h]; rfl, .inr rfl⟩
      have rz : RepL K (RH H3) H3 (cmdsD cs3) us3 := r3.imp fun a kvs _ e => by
        intro z
        rw [z] at e
        cases e
      refine disp3 (K := K) (P1 := fun d => d = .num at_) (P2 := fun d => d = .row (cmdsD cs3)) (P3 := fun d => d = .word wd) d6 (fun z => d1 z.symm) d7 (fun H4 Q' s4 kk => ⟨_, rfl, kk _ _ _ rfl (Same.refl _) (.num _)⟩)
        (fun H4 Q' s4 kk => ⟨_, rfl, .inl ⟨lb, us3, rfl, SqL.of (s4 _ _ hb3), fun p np => kk _ _ _ rfl (Same.new np) (.row (SqT.of upd_same) ((rz.same s4).same (Same.new np)))⟩⟩)
        (fun H4 Q' s4 kk => ⟨by show 2 ≤ sizeLine; decide, fun p np => ⟨_, rfl, _, _, rfl, rfl, p, _, _, _, rfl, rfl, SqL.of upd_same, hwd, kk _ _ _ rfl (Same.new np) (.word _)⟩⟩) ?_
      rintro v H' x y z rfl rfl rfl s' rv
      rcases wk with rfl | rfl
      · refine hD _ _ (q v H' (.when_ at_ cs3) (s3.trans s') ?_ ?_ ?_)
        · simp only [Cmd.d]
          exact rv
        · simp only [Cmd.ok, nat, ok3, Bool.and_self]
        · simp only [Cmd.size]
          omega
      · refine hD _ _ (q v H' (.loop at_ cs3) (s3.trans s') ?_ ?_ ?_)
        · simp only [Cmd.d]
          exact rv
        · simp only [Cmd.ok, nat, ok3, Bool.and_self]
        · simp only [Cmd.size]
          omega
    have plain := fun D hD => fin H2 us cs D hD s02 hlb (hcs.same s02) hok (Nat.le_add_right _ _)
    refine ⟨_, rfl, rfl, _, rfl, ?_⟩
    refine iteD (p := c % 6 = 5) decV (fun w5 => ?_) (fun w5 => iteF (plain _ fun _ _ h => h))
    refine ⟨_, rfl, _, _, rfl, rfl, ⟨by decide, by decide⟩, _, _, rfl, rfl, (by show (0 : Int) < 4; decide), _, _, rfl, rfl, _, rfl, iteB ?_ (plain _ fun _ _ h => h)⟩
    refine ⟨_, rfl, .inl ⟨rfl, _, SqL.of hlb⟩, ?_⟩
    refine disp3 (K := K) (P1 := fun d => d = .word "sub") (P2 := fun d => d = .num at_) (P3 := fun d => d = .num ((m : Int) - 1)) d1 (fun z => d4 z.symm) (fun z => d5 z.symm) (fun H4 Q' s4 kk => kk _ _ _ rfl (Same.refl _) (.word _)) (fun H4 Q' s4 kk => ⟨_, rfl, kk _ _ _ rfl (Same.refl _) (.num _)⟩)
      (fun H4 Q' s4 kk => ⟨_, rfl, _, _, rfl, rfl, kk _ _ _ rfl (Same.refl _) (.num _)⟩) ?_
    rintro v H4 x y z rfl rfl rfl s4 rv
    have hlb4 := s4 _ _ hlb
    refine ⟨lb, us, v, rfl, rfl, hlb4, dk_small hz, ?_⟩
    have k5 : Kept RT H4 (upd H4 lb (.lst (us ++ [v]))) := Kept.lst hlb4
    have rc : Rep K RT H4 (Cmd.d (.op true .sub ((m : Int) - 1) at_)) v := by
      simp only [Cmd.d]
      exact rv
    refine fin _ (us ++ [v]) (cs ++ [.op true .sub ((m : Int) - 1) at_]) _ (fun _ _ h => h) (keep_upd (s02.trans s4) n0) upd_same ?_ ?_ ?_
    · rw [cmdsD_app]
      refine (((hcs.same s02).same s4).mono k5).append ?_
      simp only [cmdsD]
      exact .cons (rc.mono k5) .nil
    · rw [cmdsOk_app, hok, Bool.true_and]
      have nm : narrow ((m : Int) - 1) = true := narrow_iff.mpr (by omega)
      simp only [cmdsOk, Cmd.ok, nat, nm, Bool.and_self]
    · rw [sizes_app, if_pos w5]
      simp only [sizes, Cmd.size]
      exact Nat.le_refl _
end
end Fk
set_option maxHeartbeats 4000000
/-! ## The law's helpers: scores -/
namespace Fk
open PySem PySem.Spec PyProof.Rows L2 TL
section
variable {P : Program} {w : World} {K : PySem.W.Frag} {mg : Str → Option Value} {base : Heap} {CF CP : Addr} {cA : OpK → Addr}
def spScore (K : PySem.W.Frag) : Sp := fun vs H Q _ => ∃ (a : Addr) (xs : List V) (sz m : Nat), vs = [.ref a, .int (sz : Int), .int (m : Int)] ∧ SqL K H a xs ∧ Ints xs ∧ sz ≤ 100 ∧ 1 ≤ m ∧ m ≤ 50 ∧
  ∀ v H' cs, Same H H' → Rep K RT H' (rowD cs) v → cmdsOk cs = true → sizes cs ≤ 14 → Q v H'
theorem cmds_len : ∀ {cs : List Cmd}, cs.length ≤ sizes cs
  | [] => Nat.zero_le _
  | c :: r => by
    have := cmds_len (cs := r)
    have h : 1 ≤ c.size := by cases c <;> simp only [Cmd.size] <;> omega
    simp only [sizes, List.length_cons]
    omega
theorem cut_split {K : PySem.W.Frag} {R : Addr → Prop} {H : Hp} {cs : List Cmd} {us : List V} (h : RepL K R H (cmdsD cs) us) (ok : cmdsOk cs = true) (n : Nat) : ∃ a b, cs = a ++ b ∧ RepL K R H (cmdsD a) (us.take n) ∧ RepL K R H (cmdsD b) (us.drop n) ∧ cmdsOk a = true ∧ cmdsOk b = true ∧ sizes cs = sizes a + sizes b := by
  refine ⟨cs.take n, cs.drop n, (List.take_append_drop n cs).symm, ?_, ?_, ?_⟩
  · have e : ∀ (n : Nat) (cs : List Cmd), cmdsD (cs.take n) = (cmdsD cs).take n := fun n => by
      induction n with
      | zero => intro cs; simp only [List.take_zero, cmdsD]
      | succ n ih => intro cs; cases cs <;> simp only [List.take_nil, List.take_succ_cons, cmdsD, ih]
    rw [e]
    exact h.take n
  · have e : ∀ (n : Nat) (cs : List Cmd), cmdsD (cs.drop n) = (cmdsD cs).drop n := fun n => by
      induction n with
      | zero => intro cs; simp only [List.drop_zero]
      | succ n ih => intro cs; cases cs <;> simp only [List.drop_nil, List.drop_succ_cons, cmdsD, ih]
    rw [e]
    exact h.drop n
  · have e1 := cmdsOk_app (cs.take n) (cs.drop n)
    have e2 := sizes_app (cs.take n) (cs.drop n)
    rw [List.take_append_drop] at e1 e2
    rw [ok] at e1
    obtain ⟨h1, h2⟩ := Bool.and_eq_true_iff.mp e1.symm
    exact ⟨h1, h2, e2⟩
/-- the room goes down behind a loop -/
theorem room_step {rest : TS} {D : Ends} {H : Hp} {s0 s1 s2 s3 s5 s7 s8 : Option V} {z : Int} {fives : Nat}
    (k : ∀ f' : Nat, f' = fives + (if z % 6 = 5 then 1 else 0) → rest D [s0, s1, s2, s3, some (.int (14 - (f' : Int))), s5, some (.int z), s7, s8] H) :
    tSeq (tIfS (tTest (tOp rEq (tOp (rI (fun _ j => 0 < j) fun i j => V.int (i % j)) (tVar 6) (tC (.int 6))) (tC (.int 5)))) (tAsg (tOp (rI0 fun i j => V.int (i - j)) (tVar 4) (tC (.int 1))) (gName 4)) tNext) rest D
      [s0, s1, s2, s3, some (.int (14 - (fives : Int))), s5, some (.int z), s7, s8] H := by
  refine ⟨_, rfl, _, _, rfl, rfl, (by show (0 : Int) < 6; decide), rfl, _, rfl, ?_⟩
  refine iteD (p := z % 6 = 5) decV (fun h => ⟨_, rfl, _, _, rfl, rfl, ?_⟩) (fun h => ?_)
  · have e := k (fives + 1) (by rw [if_pos h])
    have e2 : (14 - ((fives + 1 : Nat) : Int)) = 14 - (fives : Int) - 1 := by omega
    rw [e2] at e
    exact e
  · exact k fives (by rw [if_neg h]; rfl)
/-- how few are held -/
theorem few_step {K : PySem.W.Frag} {rest : TS} {D : Ends} {H : Hp} {a : Addr} {xs : List V} {s1 s2 s3 s4 s6 s8 : Option V} {i : Nat} {f : Int} (ha : SqL K H a xs) (hi : Ints xs) (hz : i ≤ 100) (hf : 0 ≤ f)
    (k : ∀ (f' : Nat) (H' : Hp), Same H H' → rest D [some (.ref a), s1, s2, s3, s4, some (.int (0 + (i : Int))), s6, some (.int (f' : Int)), s8] H') :
    tSeq (tIfS (tTest (tOp rEq (tVar 7) (tC (.int 3)))) (tAsg (tOp (rI0 fun i j => V.int (i + j)) (tC (.int 3)) (tOp (rI (fun _ j => 0 < j) fun i j => V.int (i % j)) (tOp (rI CDiv fun i j => V.int (i / j)) (tCall (spCell K) [] E0 (tCons (tVar 0) (tCons (tOp (rI0 fun i j => V.int (i + j)) (tC (.int 6)) (tOp (rI CMul fun i j => V.int (i * j)) (tC (.int 2)) (tVar 5))) tNil))) (tC (.int 16))) (tC (.int 11)))) (gName 7)) tNext) rest D
      [some (.ref a), s1, s2, s3, s4, some (.int (0 + (i : Int))), s6, some (.int f), s8] H := by
  refine ⟨_, rfl, rfl, _, rfl, iteB ?_ ?_⟩
  · refine ⟨_, rfl, _, rfl, _, _, rfl, rfl, .inl ⟨by decide, by decide⟩, _, _, rfl, rfl, a, xs, 6 + 2 * i, ?_, ha, hi, by omega, fun z H2 s2 => ⟨_, _, rfl, rfl, ⟨by decide, by decide⟩, _, _, rfl, rfl, (by show (0 : Int) < 11; decide), _, _, rfl, rfl, ?_⟩⟩
    · show [V.ref a, V.int (6 + 2 * (0 + (i : Int)))] = _
      rw [show (6 + 2 * (0 + (i : Int))) = ((6 + 2 * i : Nat) : Int) by omega]
    · have h : (3 + z / 16 % 11 : Int) = (((3 + z / 16 % 11).toNat : Nat) : Int) := by omega
      have e := k (3 + z / 16 % 11).toNat H2 s2
      rw [← h] at e
      exact e
  · have e := k f.toNat H (Same.refl _)
    rw [show ((f.toNat : Nat) : Int) = f by omega] at e
    exact e
theorem held_step {K : PySem.W.Frag} {rest : TS} {D : Ends} {H : Hp} {l : Addr} {us : List V} {s0 s1 s2 s4 s5 s8 : Option V} {z : Int} {g : Nat} (hl : H l = some (.lst us)) (hz : us.length ≤ 1000)
    (k : ∀ n : Nat, n ≤ us.length → rest D [s0, s1, s2, some (.ref l), s4, s5, some (.int z), some (.int (n : Int)), s8] H) :
    tSeq (tAsg (tOp (rI CMul fun i j => V.int (i * j)) (tCB (fun xs H Q => ∃ i j, xs = [V.int i, V.int j] ∧ Q (V.int (if j < i then j else i)) H) (tCons (tVar 7) (tCons (tCB (fun xs H Q => ∃ p ys, xs = [V.ref p] ∧ (SqL K H p ys ∨ SqT K H p ys) ∧ Q (V.int (ys.length : Int)) H) (tCons (tVar 3) tNil)) tNil)))
        (tCB (fun xs H Q => (∃ i, xs = [V.int i] ∧ Q (V.int i) H) ∨ ∃ k, xs = [V.bl k] ∧ Q (V.int (if k = true then 1 else 0)) H) (tCons (tOp (rI0 fun i j => V.bl (decide (j < i))) (tOp (rI (fun _ j => 0 < j) fun i j => V.int (i % j)) (tVar 6) (tC (.int 6))) (tC (.int 3))) tNil))) (gName 7)) rest D
      [s0, s1, s2, some (.ref l), s4, s5, some (.int z), some (.int (g : Int)), s8] H := by
  obtain ⟨n, hn, hnl⟩ : ∃ n : Nat, (if (us.length : Int) < (g : Int) then (us.length : Int) else (g : Int)) * (if decide ((3 : Int) < z % 6) = true then 1 else 0) = (n : Int) ∧ n ≤ us.length := by
    cases decide ((3 : Int) < z % 6)
    · exact ⟨0, by rw [show (if false = true then (1 : Int) else 0) = 0 from rfl, Int.mul_zero]; rfl, Nat.zero_le _⟩
    · rw [show (if true = true then (1 : Int) else 0) = 1 from rfl, Int.mul_one]
      by_cases h : (us.length : Int) < (g : Int)
      · exact ⟨us.length, if_pos h, Nat.le_refl _⟩
      · exact ⟨g, if_neg h, by omega⟩
  refine ⟨_, rfl, _, rfl, l, us, rfl, .inl (SqL.of hl), _, _, rfl, _, rfl, _, _, rfl, rfl, (by show (0 : Int) < 6; decide), _, _, rfl, rfl, .inr ⟨_, rfl, _, _, rfl, rfl, .inr ?_, ?_⟩⟩
  · cases decide ((3 : Int) < z % 6)
    · exact ⟨by decide, by decide⟩
    · exact ⟨by decide, by decide⟩
  · have e := k n hnl
    rw [← hn] at e
    exact e
theorem sc__law_score : FnScope ["_law_script", "_law_size", "_law_many", "_law_stack", "_law_room", "_law_k", "_law_cell_here", "_law_few", "_law_held"] ["_law_script", "_law_size", "_law_many"] (defScope (top 112)) := ⟨rfl, rfl, rfl, by decide +kernel, rfl, by decide +kernel, by decide +kernel⟩
theorem ok__law_score (X : Fx mg) (c__law_cell : Cal P w K mg base CX0 1 "_law_cell" ["_law_script", "_law_k"] (spCell K)) (c__law_command : Cal P w K mg base CX0 2 "_law_command" ["_law_cell_here", "_law_other", "_law_held", "_law_many"] (spCommand K)) (F : FnP K mg "_law_score" "_law_score" (top 112)) :
    Cal P w K mg base CX0 3 "_law_score" ["_law_script", "_law_size", "_law_many"] (spScore K) := by
  refine F.cal sc__law_score (fun _ _ _ _ _ _ us hl => match us, hl with | [_, _, _], _ => rfl) (fun vs H Q E h => ?_) (fun f cdv A outer s H vs Q E hr h => ?_)
  · obtain ⟨a, xs, sz, m, rfl, _⟩ := h
    rfl
  · obtain ⟨a, xs, sz, m, rfl, ha, hi, hsz, h1, h2, q⟩ := h
    have hr1 : Room 1 _ := hr.mono (by decide)
    refine ⟨_, PSs.nox (pss_cons (ps_set (i := 3) sc__law_score.nd rfl (Or.inl rfl) (pe_lst pa_nil))
      (pss_cons (ps_set (i := 4) sc__law_score.nd rfl (Or.inl rfl) pe_int)
      (pss_cons (ps_for PassesOwn.never rfl (pi_range1 rfl X.range (pa_cons (pv 1) pa_nil)) (pg_name (i := 5) sc__law_score.nd rfl (Or.inl rfl)) (pss_cons (ps_set (i := 6) sc__law_score.nd rfl (Or.inl rfl) (pe_cal c__law_cell hr1 pass0 (pa_cons (pv 0) (pa_cons (pe_op op_add pe_int (pe_op op_mul pe_int (pv 5))) pa_nil))))
      (pss_cons (ps_if (pt_cmpR op_eq (pe_op op_mod (pv 6) pe_int) pe_int (nomark _)) (pss_one (ps_set (i := 4) sc__law_score.nd rfl (Or.inl rfl) (pe_op op_sub (pv 4) pe_int))) pss_nil)
      (pss_one (ps_if (pt_cmpR op_lt (pv 5) (pv 4) (nomark _)) (pss_cons (ps_set (i := 7) sc__law_score.nd rfl (Or.inl rfl) (pe_op op_mod (pe_cal c__law_cell hr1 pass0 (pa_cons (pv 0) (pa_cons (pe_op op_add pe_int (pe_op op_mul pe_int (pv 5))) pa_nil))) pe_int))
      (pss_cons (ps_if (pt_cmpR op_eq (pv 7) pe_int (nomark _)) (pss_one (ps_set (i := 7) sc__law_score.nd rfl (Or.inl rfl) (pe_op op_add pe_int (pe_op op_mod (pe_op op_fdiv (pe_cal c__law_cell hr1 pass0 (pa_cons (pv 0) (pa_cons (pe_op op_add pe_int (pe_op op_mul pe_int (pv 5))) pa_nil))) pe_int) pe_int)))) pss_nil)
      (pss_cons (ps_set (i := 7) sc__law_score.nd rfl (Or.inl rfl) (pe_op op_mul (pe_callB (call_min2 rfl) rfl X.min (by decide +kernel) (pa_cons (pv 7) (pa_cons (pe_callB (call_len_seq) rfl X.len (by decide +kernel) (pa_cons (pv 3) pa_nil)) pa_nil))) (pe_callTy (call_int1) rfl X.int (by decide +kernel) (pa_cons (pe_cmpR op_gt (pe_op op_mod (pv 6) pe_int) pe_int (nomark _)) pa_nil))))
      (pss_cons (ps_set (i := 8) sc__law_score.nd rfl (Or.inl rfl) (pe_slice sl_list (pv 3) (po_some (pe_op op_sub (pe_callB (call_len_seq) rfl X.len (by decide +kernel) (pa_cons (pv 3) pa_nil)) (pv 7))) po_none))
      (pss_cons (ps_set (i := 3) sc__law_score.nd rfl (Or.inl rfl) (pe_slice sl_list (pv 3) po_none (po_some (pe_op op_sub (pe_callB (call_len_seq) rfl X.len (by decide +kernel) (pa_cons (pv 3) pa_nil)) (pv 7)))))
      (pss_one (ps_expr (pe_bm PySem.F.plainAttrs_list PySem.F.slot_list_append PySem.F.type_list_append mt_append (pv 3) (pa_cons (pe_cal c__law_command hr pass0 (pa_cons (pv 6) (pa_cons (pe_cal c__law_cell hr1 pass0 (pa_cons (pv 0) (pa_cons (pe_op op_add pe_int (pe_op op_mul pe_int (pv 5))) pa_nil))) (pa_cons (pv 8) (pa_cons (pv 2) pa_nil))))) pa_nil))))))))) pss_nil)))))
      (pss_one (ps_ret (pe_tupleOf rfl X.tuple (pv 3))))))), ?_⟩
    refine ⟨Nat.zero_le _, fun l0 nl0 => ?_⟩
    have s0 : Same H (upd H l0 (.lst [])) := Same.new nl0
    have hl0 : upd H l0 (.lst []) l0 = some (.lst []) := upd_same
    generalize upd H l0 (.lst []) = H0 at s0 hl0 ⊢
    refine ⟨_, rfl, _, rfl, by omega, by omega, for_range (lo := 0) (n := sz) (fun i σ H2 => ∃ (l : Addr) (us : List V) (cs : List Cmd) (fives : Nat) (o1 o2 o3 o4 : Option V), σ = [some (.ref a), some (.int (sz : Int)), some (.int (m : Int)), some (.ref l), some (.int (14 - (fives : Int))), o1, o2, o3, o4] ∧ Same H H2 ∧ H l = none ∧ H2 l = some (.lst us) ∧ RepL K RT H2 (cmdsD cs) us ∧ cmdsOk cs = true ∧ sizes cs ≤ 14 ∧ sizes cs ≤ i + fives)
      ⟨l0, [], [], 0, none, none, none, none, rfl, s0, nl0, hl0, (by simp only [cmdsD]; exact .nil), (by simp only [cmdsOk]), (by simp only [sizes]; omega), (by simp only [sizes]; omega)⟩ ?_ ?_⟩
    · rintro i σ H2 hi2 ⟨l, us, cs, fives, o1, o2, o3, o4, rfl, s2, nl, hl, hr2, hok, hs14, hsi⟩
      refine ⟨_, rfl, _, rfl, _, _, rfl, rfl, .inl ⟨by decide, by decide⟩, _, _, rfl, rfl, a, xs, 5 + 2 * i, ?_, s2.seq ha, hi, by omega, fun z H3 s3 => ?_⟩
      · show [V.ref a, V.int (5 + 2 * (0 + (i : Int)))] = _
        rw [show (5 + 2 * (0 + (i : Int))) = ((5 + 2 * i : Nat) : Int) by omega]
      have s03 := s2.trans s3
      have hl3 := s3 _ _ hl
      have hr3 := hr2.same s3
      refine room_step (fives := fives) fun f' hf' => ?_
      refine ⟨_, rfl, _, rfl, _, _, rfl, rfl, _, rfl, ?_⟩
      refine iteD (p := (0 + (i : Int)) < 14 - (f' : Int)) rfl (fun hroom => ?_) (fun _ => ?_)
      rotate_left
      · refine ⟨l, us, cs, f', _, _, _, _, rfl, s03, nl, hl3, hr3, hok, hs14, ?_⟩
        rw [hf']
        omega
      refine ⟨_, rfl, _, rfl, _, _, rfl, rfl, .inl ⟨by decide, by decide⟩, _, _, rfl, rfl, a, xs, 6 + 2 * i, ?_, s03.seq ha, hi, by omega, fun z4 H4 s4 => ⟨_, _, rfl, rfl, (by show (0 : Int) < 4; decide), ?_⟩⟩
      · show [V.ref a, V.int (6 + 2 * (0 + (i : Int)))] = _
        rw [show (6 + 2 * (0 + (i : Int))) = ((6 + 2 * i : Nat) : Int) by omega]
      have s04 := s03.trans s4
      refine few_step (f := z4 % 4) (s04.seq ha) hi (by omega) (by omega) fun g H5 s5 => ?_
      have s05 := s04.trans s5
      have hl5 := s5 _ _ (s4 _ _ hl3)
      have hr5 := (hr3.same s4).same s5
      have hcl := cmds_len (cs := cs)
      have hul : us.length = cs.length := by rw [hr5.len, cmdsD_len]
      refine held_step hl5 (by omega) fun n hn => ?_
      obtain ⟨ca, cb, e0, ra, rb, oka, okb, ez⟩ := cut_split hr5 hok (us.length - n)
      have nlp : ∀ {H6 : Hp} {p : Addr}, H6 l = some (.lst us) → H6 p = none → l ≠ p := fun {H6 p} h np => ne_of_none h np
      refine ⟨_, rfl, _, rfl, l, us, rfl, .inl (SqL.of hl5), _, rfl, _, _, rfl, rfl, _, rfl, ?_⟩
      unfold tNoPart
      refine ⟨l, us, rfl, SqL.of hl5, fun p6 np6 => ?_⟩
      have ec : cutV us (some ((us.length : Int) - (n : Int))) none = us.drop (us.length - n) := by
        rw [show (us.length : Int) - (n : Int) = ((us.length - n : Nat) : Int) by omega]
        exact cut_hi (by omega)
      have ec2 : cutV us none (some ((us.length : Int) - (n : Int))) = us.take (us.length - n) := by
        rw [show (us.length : Int) - (n : Int) = ((us.length - n : Nat) : Int) by omega]
        exact cut_lo (by omega)
      rw [ec]
      have s6 : Same H5 (upd H5 p6 (.lst (us.drop (us.length - n)))) := Same.new np6
      have hp6 : upd H5 p6 (.lst (us.drop (us.length - n))) p6 = some (.lst (us.drop (us.length - n))) := upd_same
      generalize upd H5 p6 (.lst (us.drop (us.length - n))) = H6 at s6 hp6 ⊢
      have hl6 := s6 _ _ hl5
      refine ⟨_, rfl, ?_⟩
      refine ⟨_, rfl, l, us, rfl, .inl (SqL.of hl6), _, rfl, _, _, rfl, rfl, ⟨_, rfl, ?_⟩⟩
      refine ⟨l, us, rfl, SqL.of hl6, fun p7 np7 => ?_⟩
      rw [ec2]
      have s7 : Same H6 (upd H6 p7 (.lst (us.take (us.length - n)))) := Same.new np7
      have hp7 : upd H6 p7 (.lst (us.take (us.length - n))) p7 = some (.lst (us.take (us.length - n))) := upd_same
      have n0 : H p7 = none := (s05.trans s6).free np7
      generalize upd H6 p7 (.lst (us.take (us.length - n))) = H7 at s7 hp7 ⊢
      have s07 := s05.trans (s6.trans s7)
      refine ⟨_, rfl, .inl ⟨rfl, _, SqL.of hp7⟩, _, rfl, _, rfl, _, rfl, _, _, rfl, rfl, .inl ⟨by decide, by decide⟩, _, _, rfl, rfl, a, xs, 6 + 2 * i, ?_, s07.seq ha, hi, by omega, fun z8 H8 s8 => ?_⟩
      · show [V.ref a, V.int (6 + 2 * (0 + (i : Int)))] = _
        rw [show (6 + 2 * (0 + (i : Int))) = ((6 + 2 * i : Nat) : Int) by omega]
      refine ⟨_, rfl, _, rfl, z, z8, p6, m, cb, us.drop (us.length - n), rfl, s8 _ _ (s7 _ _ hp6), ((rb.same s6).same s7).same s8, okb, by rw [List.length_drop]; omega, h1, h2, fun v H9 d s9 rv okd szd => ?_⟩
      have hp9 := s9 _ _ (s8 _ _ hp7)
      refine ⟨p7, us.take (us.length - n), v, rfl, rfl, hp9, dk_small (by rw [List.length_take]; omega), ?_⟩
      have k10 : Kept RT H9 (upd H9 p7 (.lst (us.take (us.length - n) ++ [v]))) := Kept.lst hp9
      have hs1 : sizes [d] = d.size := by simp only [sizes, Nat.add_zero]
      have hbound : sizes ca + sizes [d] ≤ 14 ∧ sizes ca + sizes [d] ≤ i + 1 + f' := by
        rw [hs1]
        omega
      refine ⟨p7, us.take (us.length - n) ++ [v], ca ++ [d], f', _, _, _, _, rfl, keep_upd (s07.trans (s8.trans s9)) n0, n0, upd_same, ?_, ?_, ?_, ?_⟩
      · rw [cmdsD_app]
        refine ((((((ra.same s6).same s7).same s8).same s9)).mono k10).append ?_
        simp only [cmdsD]
        exact .cons (rv.mono k10) .nil
      · rw [cmdsOk_app, oka, Bool.true_and]
        simp only [cmdsOk, okd, Bool.and_self]
      · rw [sizes_app]
        exact hbound.1
      · rw [sizes_app]
        exact hbound.2
    · rintro σ H2 ⟨l, us, cs, fives, o1, o2, o3, o4, rfl, s2, nl, hl, hr2, hok, hs14, hsi⟩
      exact ⟨_, rfl, .inl ⟨l, us, rfl, SqL.of hl, fun p np => q _ _ cs (s2.trans (Same.new np)) (.row (SqT.of upd_same) (hr2.same (Same.new np))) hok hs14⟩⟩
end
end Fk
set_option maxHeartbeats 4000000
/-! ## The law's helpers: whole, same -/
namespace Fk
open PySem PySem.Spec PyProof.Rows L2 TL
theorem canInts : ∀ j : List Int, PyData.canLayAll0 (j.map PyData.int) = true
  | [] => by simp only [List.map_nil, PyData.canLayAll0]
  | n :: r => by simp only [List.map_cons, PyData.canLayAll0, PyData.canLay0, canInts r, Bool.and_self]
theorem depthInts : ∀ j : List Int, PyData.depthAll (j.map PyData.int) = 0
  | [] => by simp only [List.map_nil, PyData.depthAll]
  | n :: r => by simp only [List.map_cons, PyData.depthAll, PyData.depth, depthInts r, Nat.max_self]
theorem shapedInts (j : List Int) : SeqAt.shaped (.tuple (j.map PyData.int)) = true := by
  unfold SeqAt.shaped
  have h1 : PyData.canLay0 (.tuple (j.map PyData.int)) = true := by simp only [PyData.canLay0, canInts]
  have h2 : PyData.depth (.tuple (j.map PyData.int)) = 1 := by simp only [PyData.depth, depthInts]
  rw [h1, h2]
  rfl
theorem dpInts {K : PySem.W.Frag} {H : Hp} : ∀ j : List Int, DpAll K H (j.map V.int) (j.map PyData.int)
  | [] => .nil
  | n :: r => .cons (.int n) (dpInts r)
section
variable {P : Program} {w : World} {K : PySem.W.Frag} {mg : Str → Option Value} {base : Heap} {CF CP : Addr} {cA : OpK → Addr}
def spWhole : Sp := fun vs H Q _ => ∃ n : Int, vs = [.int n] ∧ Q (.bl true) H
theorem sc__law_whole : FnScope ["_law_found"] ["_law_found"] (defScope (top 113)) := ⟨rfl, rfl, rfl, by decide +kernel, rfl, by decide +kernel, by decide +kernel⟩
theorem ok__law_whole (X : Fx mg) (F : FnP K mg "_law_whole" "_law_whole" (top 113)) : Cal P w K mg base CX0 1 "_law_whole" ["_law_found"] spWhole := by
  refine F.cal sc__law_whole (fun _ _ _ _ _ _ us hl => match us, hl with | [_], _ => rfl) (fun vs H Q E h => ?_) (fun f cdv A outer s H vs Q E hr h => ?_)
  · obtain ⟨n, rfl, _⟩ := h
    rfl
  · obtain ⟨n, rfl, q⟩ := h
    refine ⟨_, PSs.nox (pss_one (ps_ret (pe_and (pe_callB (call_isiB "int") rfl X.isinstance (by decide +kernel) (pa_cons (pv 0) (pa_cons (pe_bltn (v := .ty "int") rfl X.int (by decide +kernel) rfl) pa_nil))) (pe_one (pe_not (pe_callB (call_isiB "bool") rfl X.isinstance (by decide +kernel) (pa_cons (pv 0) (pa_cons (pe_bltn (v := .ty "bool") rfl X.bool (by decide +kernel) rfl) pa_nil)))))))), ?_⟩
    refine ⟨_, rfl, _, "int", true, rfl, .base (.int n), by decide +kernel, _, rfl, iteT ?_⟩
    exact ⟨_, rfl, _, "int", false, rfl, .base (.int n), by decide +kernel, _, rfl, q⟩
def spSame (K : PySem.W.Frag) : Sp := fun vs H Q _ => ∃ (fp dp : Addr), vs = [.ref fp, .ref dp] ∧
  ((∃ wd : Str, (wd = "place" ∨ wd = "wide") ∧ SqT K H fp [.str "fault", .str wd] ∧ SqT K H dp [.str "fault", .str wd]) ∨ (∃ (R : Addr → Prop) (j : List Int) (fj dj : V), j.length ≤ 1000 ∧ SqT K H fp [.str "told", fj] ∧ SqT K H dp [.str "told", dj] ∧ Rep K R H (jarsD j) fj ∧ Rep K R H (jarsD j) dj)) ∧ ∀ H', Same H H' → Q (.bl true) H'
theorem sc__law_same : FnScope ["_law_found", "_law_due", "_law_one"] ["_law_found", "_law_due"] (defScope (top 114)) := ⟨rfl, rfl, rfl, by decide +kernel, rfl, by decide +kernel, by decide +kernel⟩
theorem ok__law_same (X : Fx mg) (c__law_whole : Cal P w K mg base CX0 1 "_law_whole" ["_law_found"] spWhole) (F : FnP K mg "_law_same" "_law_same" (top 114)) : Cal P w K mg base CX0 2 "_law_same" ["_law_found", "_law_due"] (spSame K) := by
  refine F.cal sc__law_same (fun _ _ _ _ _ _ us hl => match us, hl with | [_, _], _ => rfl) (fun vs H Q E h => ?_) (fun f cdv A outer s H vs Q E hr h => ?_)
  · obtain ⟨fp, dp, rfl, _⟩ := h
    rfl
  · obtain ⟨fp, dp, rfl, h, q⟩ := h
    refine ⟨_, PSs.nox (pss_cons (ps_if (pt_cmpR op_eq (pe_ix ix_tup (pv 1) pe_int (fun _ _ => rfl)) pe_str (nomark _)) (pss_one (ps_ret (pe_cmpR (op_eqD hr.units) (pv 0) (pv 1) (nomark _)))) pss_nil)
      (pss_cons (ps_if (PW.pt (pw_or (pt_cmpR op_ne (pe_ix ix_tup (pv 0) pe_int (fun _ _ => rfl)) pe_str (nomark _)) (pw_or (pt_not (pt_val (pe_callB (call_isiB "tuple") rfl X.isinstance (by decide +kernel) (pa_cons (pe_ix ix_tup (pv 0) pe_int (fun _ _ => rfl)) (pa_cons (pe_bltn (v := .ty "tuple") rfl X.tuple (by decide +kernel) rfl) pa_nil))))) (pw_or1 (pt_cmpR (op_neD hr.units) (pe_ix ix_tup (pv 0) pe_int (fun _ _ => rfl)) (pe_ix ix_tup (pv 1) pe_int (fun _ _ => rfl)) (nomark _)))))) (pss_one (ps_ret pe_bl)) pss_nil)
      (pss_one (ps_ret (pe_callB (cr_all rfl) rfl X.all (by decide +kernel) (pa_cons (pe_lc (own := [("_law_one", 2)]) (g := gName 2) (tt := tYes) rfl sc__law_same.nd (pi_tup (pe_ix ix_tup (pv 0) pe_int (fun _ _ => rfl))) (blkOk_by (N := ["_law_found", "_law_due", "_law_one"]) (sc := defScope (top 114)) (by decide +kernel)) (fun _ _ _ _ _ => pg_name (i := 2) sc__law_same.nd rfl (Or.inl rfl)) (fun _ _ _ _ _ => pts_nil) (fun _ _ _ _ _ => (pe_cal c__law_whole hr pass0 (pa_cons (pv 2) pa_nil)))) pa_nil)))))), ?_⟩
    rcases h with ⟨wd, hwd, hf, hd⟩ | ⟨R, j, fj, dj, hz, hf, hd, rf, rd⟩
    · refine ⟨_, rfl, dp, _, _, _, rfl, rfl, hd, atI_nat (j := 0) rfl, rfl, _, rfl, ?_⟩
      rw [str_eq]
      refine iteT ⟨_, rfl, _, rfl, .tuple [.str "fault", .str wd], .tuple [.str "fault", .str wd], .tup hf (.cons (.str _) (.cons (.str _) .nil)), .tup hd (.cons (.str _) (.cons (.str _) .nil)), ?_, ?_, ?_⟩
      · rcases hwd with rfl | rfl <;> decide +kernel
      · rcases hwd with rfl | rfl <;> decide +kernel
      · have hs : SeqAt.shaped (.tuple [.str "fault", .str wd]) = true := by rcases hwd with rfl | rfl <;> decide +kernel
        have e : PyData.eqv (.tuple [.str "fault", .str wd]) (.tuple [.str "fault", .str wd]) = true := SeqAt.eqv_refl _ (SeqAt.canLay_of_shaped hs)
        rw [e]
        exact q H (Same.refl _)
    · obtain ⟨fa, xs, rfl, hfa, hfl⟩ := rf.row_inv
      obtain ⟨da, ys, rfl, hda, hdl⟩ := rd.row_inv
      obtain rfl := jars_inv hfl
      obtain rfl := jars_inv hdl
      refine ⟨_, rfl, dp, _, _, _, rfl, rfl, hd, atI_nat (j := 0) rfl, rfl, _, rfl, ?_⟩
      rw [str_ne (a := "told") (b := "fault") (by decide +kernel)]
      refine iteF ?_
      refine ⟨_, rfl, fp, _, _, _, rfl, rfl, hf, atI_nat (j := 0) rfl, rfl, _, rfl, ?_⟩
      refine neS (a := "told") (b := "told") (c := true) (by decide +kernel) (iteF ?_)
      refine ⟨_, rfl, fp, _, _, _, rfl, rfl, hf, atI_nat (j := 1) rfl, _, "tuple", true, rfl, SqT.ty hfa, by decide +kernel, _, rfl, iteF ?_⟩
      have hs := shapedInts j
      have e : PyData.eqv (.tuple (j.map PyData.int)) (.tuple (j.map PyData.int)) = true := SeqAt.eqv_refl _ (SeqAt.canLay_of_shaped hs)
      refine ⟨_, rfl, fp, _, _, _, rfl, rfl, hf, atI_nat (j := 1) rfl, _, rfl, dp, _, _, _, rfl, rfl, hd, atI_nat (j := 1) rfl, _, _, .tup hfa (dpInts j), .tup hda (dpInts j), hs, hs, _, rfl, ?_⟩
      rw [e]
      refine iteF ?_
      refine ⟨_, rfl, fp, _, _, _, rfl, rfl, hf, atI_nat (j := 1) rfl, fa, rfl, ⟨_, hfa⟩, fun Dl nD => lc_tup (K := K) (a := fa) (xs := j.map V.int) (fun i H' => ∃ n : Nat, H' Dl = some (.lst ((List.replicate n true).map V.bl)) ∧ n = i ∧ Same H H') ⟨0, upd_same, rfl, Same.new nD⟩ (fun i H' _ ⟨_, _, _, s1⟩ => seqT s1 hfa) ?_ ?_⟩
      · rintro i x H1 hi ⟨n, hD, hn, s1⟩
        rw [List.getElem?_map] at hi
        obtain ⟨z, hz1, rfl⟩ := Option.map_eq_some_iff.mp hi
        have hil : i < j.length := (List.getElem?_eq_some_iff.mp hz1).1
        refine ⟨rfl, ?_⟩
        unfold tYes
        refine iteT ⟨_, rfl, z, rfl, _, hD, Nat.lt_of_lt_of_le (show ((List.replicate n true).map V.bl).length < 1001 by rw [List.length_map, List.length_replicate]; omega) (by decide), n + 1, ?_, by omega, grow s1 nD⟩
        rw [upd_same, List.replicate_succ', List.map_append]
        rfl
      · rintro H1 ⟨n, hD, hn, s1⟩
        refine ⟨Dl, _, rfl, SqL.of hD, ?_⟩
        have ea : (List.replicate n true).all id = true := by
          rw [List.all_replicate]
          cases n <;> rfl
        rw [ea]
        exact q _ s1
end
end Fk
set_option maxHeartbeats 4000000
/-! ## The law -/
namespace Fk
open PySem PySem.Spec PyProof.Rows L2 TL
/-- what the law leans on: play and the run of the interpreter tell the same -/
def Plain : Prop := ∀ (row : List Cmd) (j : List Int) (b f : Nat) (r : Res) (fr : Frm), RowOk row → JarsOk j → 1 ≤ j.length → b ≤ 60 → playM b f [row] j 0 = some r → enterM P0 "main" [rowD row, jarsD j] = some fr → (match r with
  | .out n => n = b ∧ runM P0 b b 0 fr [] = some (.out b)
  | .told d n => ∃ (j' : List Int) (m : Nat), d = jarsD j' ∧ j'.length ≤ 50 ∧ n ≤ b ∧ runM P0 (60 * n + 60) (60 * n + 60) 0 fr [] = some (.told d m) ∧ n ≤ m ∧ m ≤ 60 * n + 60
  | .fault wd n => ∃ m : Nat, (wd = "place" ∨ wd = "wide") ∧ n ≤ b ∧ runM P0 (60 * n + 60) (60 * n + 60) 0 fr [] = some (.fault wd m) ∧ n ≤ m ∧ m ≤ 60 * n + 60)
theorem playM_some (b : Nat) : ∀ (f : Nat) (st : List (List Cmd)) (j : List Int) (s : Nat), s ≤ b → 2 * (b - s) + st.length ≤ f → ∃ r, playM b f st j s = some r
  | f, [], j, s, _, _ => ⟨.told (jarsD j) s, by cases f <;> rfl⟩
  | 0, x :: st, j, s, h, hf => absurd hf (by rw [List.length_cons]; omega)
  | f + 1, [] :: st, j, s, h, hf => playM_some b f st j s h (by rw [List.length_cons] at hf; omega)
  | f + 1, (c :: r) :: st, j, s, h, hf => by
    rw [List.length_cons] at hf
    show ∃ r', (if s = b then some (Res.out b) else (match behindM c j with
      | .error w => some (.fault w (s + 1))
      | .ok j' => playM b f ((aheadM c r ((jarM j' c.at_).getD 0)).reverse ++ st) j' (s + 1))) = some r'
    by_cases hb : s = b
    · rw [if_pos hb]
      exact ⟨_, rfl⟩
    · rw [if_neg hb]
      cases behindM c j with
      | error w => exact ⟨_, rfl⟩
      | ok j' =>
        refine playM_some b f _ j' (s + 1) (by omega) ?_
        have h2 : (aheadM c r ((jarM j' c.at_).getD 0)).length ≤ 2 := by
          unfold aheadM
          split
          · split <;> simp
          · split <;> simp
          · simp
        rw [List.length_append, List.length_reverse]
        omega
mutual
theorem Cmd.parts4 : ∀ c : Cmd, c.d.parts = 4 * c.size
  | .set a n => by simp only [Cmd.d, D.parts, partsK, Cmd.size]
  | .op false k f a => by simp only [Cmd.d, D.parts, partsK, Cmd.size]
  | .op true k f a => by simp only [Cmd.d, D.parts, partsK, Cmd.size]
  | .when_ a b => by
    have h := cmds4 b
    simp only [Cmd.d, D.parts, partsK, Cmd.size]
    omega
  | .loop a b => by
    have h := cmds4 b
    simp only [Cmd.d, D.parts, partsK, Cmd.size]
    omega
theorem cmds4 : ∀ cs : List Cmd, partsL (cmdsD cs) = 4 * sizes cs
  | [] => by simp only [cmdsD, partsL, sizes]
  | c :: r => by
    have h1 := Cmd.parts4 c
    have h2 := cmds4 r
    simp only [cmdsD, partsL, sizes]
    omega
end
theorem row_ok {cs : List Cmd} (h1 : cmdsOk cs = true) (h2 : sizes cs ≤ 14) : RowOk cs := by
  refine ⟨h1, ?_⟩
  have h := cmds4 cs
  unfold rowD D.parts
  omega
theorem main_frame (x y : D) : ∃ fr, enterM P0 "main" [x, y] = some fr := by
  have e : funM P0 "main" = some ⟨"main", ["score", "jars"], mainB⟩ := by decide +kernel
  unfold enterM
  rw [e]
  exact ⟨_, if_pos ⟨rfl, by show 2 ≤ 100; decide⟩⟩
theorem shaped_out (n : Int) : SeqAt.shaped (.tuple [.str "out", .none, .int n]) = true := by
  unfold SeqAt.shaped
  have h1 : PyData.canLay0 (.tuple [.str "out", .none, .int n]) = true := by
    have e : PyData.strOk "out" = true := by decide +kernel
    simp only [PyData.canLay0, PyData.canLayAll0, e, Bool.and_self]
  have h2 : PyData.depth (.tuple [.str "out", .none, .int n]) = 1 := by simp only [PyData.depth, PyData.depthAll, Nat.max_self]
  rw [h1, h2]
  rfl
section
variable {P : Program} {w : World} {K : PySem.W.Frag} {mg : Str → Option Value} {base : Heap} {CF CP : Addr} {cA : OpK → Addr}
theorem fun_cal {nm : Str} {st : Stmt} {N ps : List Str} {k : Nat} {sp : Sp} {f : Addr} {fd : FuncData} {CX : CXT} (F : FunD K nm nm (defArgs st) (defBody st) (defScope st) [] [] f fd) (S : FnScope N ps (defScope st)) (len : ∀ vs H Q E, sp vs H Q E → vs.length = ps.length)
    (hbody : ∀ (f : Addr) (cdv : Value) (A : Around) (outer : List Env) (s : Shared) (H : Hp) (vs : List V) (Q : VK) (E : XK), Room k (A.deeper (envOfC nm (defScope st) s.heap.objs.size f cdv)) → sp vs H Q E →
      ∃ t, PSs (cxOf CX P w K mg base N nm (defScope st) f cdv A outer s H E) (defBody st) t ∧ t { nx := fun _ H' => Q .non H', rt := Q } (start N vs) H) : FnOk P w K mg base CX (k + 1) f fd ps sp :=
  F.ok S len (fun cdv A outer s H vs Q E => hbody f cdv A outer s H vs Q E)
theorem gN {i : Nat} {v : V} {σ : L2.St} {H : Hp} {Qd : L2.St → Hp → Prop} (h : Qd (σ.set i (some v)) H) : gName i v σ H Qd := h
theorem cell_at {σ : L2.St} {H : Hp} {a : Addr} {xs : List V} {Q : VK} {kz : Int} (k : Nat) (ez : kz = (k : Int)) (h0 : σ[0]? = some (some (.ref a))) (ha : SqL K H a xs) (hx : Ints xs) (hk : k ≤ 1000) (q : ∀ z H', Same H H' → Q (.int z) H') :
    tCall (spCell K) [] E0 (tCons (tVar 0) (tCons (tC (.int kz)) tNil)) σ H Q := by
  subst ez
  exact ⟨_, h0, a, xs, k, rfl, ha, hx, hk, q⟩
/-- lo + cell // 6 % m -/
theorem part_at {σ : L2.St} {H : Hp} {a : Addr} {xs : List V} {Q : VK} {kz mz : Int} (k m : Nat) (ez : kz = (k : Int)) (em : mz = (m : Int)) (h0 : σ[0]? = some (some (.ref a))) (ha : SqL K H a xs) (hx : Ints xs) (hk : k ≤ 1000) (hm : 0 < m) (q : ∀ (n : Nat) H', n < m → Same H H' → Q (.int (n : Int)) H') :
    tOp (rI (fun _ j => 0 < j) fun i j => V.int (i % j)) (tOp (rI CDiv fun i j => V.int (i / j)) (tCall (spCell K) [] E0 (tCons (tVar 0) (tCons (tC (.int kz)) tNil))) (tC (.int 6))) (tC (.int mz)) σ H Q := by
  subst em
  refine cell_at k ez h0 ha hx hk fun z H' s => ⟨_, _, rfl, rfl, ⟨by decide, by decide⟩, _, _, rfl, rfl, (by show (0 : Int) < (m : Int); omega), ?_⟩
  have h1 := Int.emod_nonneg (z / 6) (b := (m : Int)) (by omega)
  have h2 := Int.emod_lt_of_pos (z / 6) (b := (m : Int)) (by omega)
  have e := q (z / 6 % (m : Int)).toNat H' (by omega) s
  rw [Int.toNat_of_nonneg h1] at e
  exact e
theorem var_step {rest : TS} {D : Ends} {H : Hp} {σ : L2.St} {i k : Nat} {kz : Int} (ez : kz = (k : Int)) {e1 e2 : TE} {a : Addr} {xs : List V} (Good : Nat → Prop) (h0 : σ[0]? = some (some (.ref a))) (hi : i ≠ 0) (ha : SqL K H a xs) (hx : Ints xs) (hk : k ≤ 1000)
    (g1 : ∀ H1 Q', Same H H1 → (∀ (n : Nat) H2, Same H1 H2 → Good n → Q' (.int (n : Int)) H2) → e1 σ H1 Q') (g2 : ∀ H1 Q' v, Same H H1 → (∀ (n : Nat) H2, Same H1 H2 → Good n → Q' (.int (n : Int)) H2) → e2 (σ.set i (some v)) H1 Q')
    (kk : ∀ (n : Nat) H2, Same H H2 → Good n → rest D (σ.set i (some (.int (n : Int)))) H2) :
    tSeq (tAsg e1 (gName i)) (tSeq (tIfS (tTest (tOp rEq (tOp (rI (fun _ j => 0 < j) fun i j => V.int (i % j)) (tCall (spCell K) [] E0 (tCons (tVar 0) (tCons (tC (.int kz)) tNil))) (tC (.int 6))) (tC (.int 1)))) (tAsg e2 (gName i)) tNext) rest) D σ H := by
  refine g1 H _ (Same.refl _) fun n H1 s1 gn => ?_
  have h0' : (σ.set i (some (.int (n : Int))))[0]? = some (some (.ref a)) := by rw [List.getElem?_set_ne hi]; exact h0
  refine cell_at k ez h0' (s1.seq ha) hx hk fun z H2 s2 => ⟨_, _, rfl, rfl, (by show (0 : Int) < 6; decide), rfl, _, rfl, iteB ?_ ?_⟩
  · refine g2 H2 _ _ (s1.trans s2) fun n' H3 s3 gn' => ?_
    have e := kk n' H3 (s1.trans (s2.trans s3)) gn'
    show rest D ((σ.set i (some (.int (n : Int)))).set i (some (.int (n' : Int)))) H3
    rw [List.set_set]
    exact e
  · exact kk n H2 (s1.trans s2) gn
def spLaw (K : PySem.W.Frag) : Sp := fun vs H Q _ => ∃ (a : Addr) (ns : List Int), vs = [.ref a] ∧ SqL K H a (ns.map V.int) ∧ ns.length ≤ 63 ∧ ∀ H', Q (.bl true) H'
theorem sc_law : FnScope ["_law_script", "_law_many", "_law_size", "_law_most", "_law_jars_here", "_law_score_here", "_law_program", "_law_due", "_law_found"] ["_law_script"] (defScope (top 115)) := ⟨rfl, rfl, rfl, by decide +kernel, rfl, by decide +kernel, by decide +kernel⟩
theorem ok_law (pl : Plain) (X : Fx mg) (c__law_cells : Cal P w K mg base CX0 1 "_law_cells" ["_law_script"] (spCells K)) (c__law_cell : Cal P w K mg base CX0 1 "_law_cell" ["_law_script", "_law_k"] (spCell K)) (c__law_jars : Cal P w K mg base CX0 2 "_law_jars" ["_law_script", "_law_at", "_law_many"] (spLawJars K))
    (c__law_score : Cal P w K mg base CX0 3 "_law_score" ["_law_script", "_law_size", "_law_many"] (spScore K)) (c_interpreter : Cal P w K mg base CX0 39 "interpreter" [] (spInterp K)) (c_check : Cal P w K mg base CX0 12 "check" ["program"] (spCheck K)) (c_play : Cal P w K mg base CX0 105 "play" ["score", "jars", "budget"] (spPlay K))
    (c_run : Cal P w K mg base CX0 106 "run" ["program", "inputs", "budget"] (spRun K)) (c__law_same : Cal P w K mg base CX0 2 "_law_same" ["_law_found", "_law_due"] (spSame K)) (c__law_whole : Cal P w K mg base CX0 1 "_law_whole" ["_law_found"] spWhole)
    {fL : Addr} {fdL : FuncData} (F : FunD K "law" "law" (defArgs (top 115)) (defBody (top 115)) (defScope (top 115)) [] [] fL fdL) : FnOk P w K mg base CX0 107 fL fdL ["_law_script"] (spLaw K) := by
  refine fun_cal F sc_law (fun vs H Q E h => ?_) (fun f cdv A outer s H vs Q E hr h => ?_)
  · obtain ⟨a, ns, rfl, _⟩ := h
    rfl
  · have hr1 : Room 1 _ := hr.mono (by decide)
    have hr2 : Room 2 _ := hr.mono (by decide)
    have hr3 : Room 3 _ := hr.mono (by decide)
    have hr12 : Room 12 _ := hr.mono (by decide)
    have hr39 : Room 39 _ := hr.mono (by decide)
    have hr105 : Room 105 _ := hr.mono (by decide)
    have hr106 : Room 106 _ := hr
    obtain ⟨a, ns, rfl, ha, hz, q⟩ := h
    have hints : Ints (ns.map V.int) := fun x hx => by
      obtain ⟨n, _, rfl⟩ := List.mem_map.mp hx
      exact ⟨n, rfl⟩
    refine ⟨_, PSs.nox (pss_cons (ps_set (i := 0) sc_law.nd rfl (Or.inl rfl) (pe_cal c__law_cells hr1 pass0 (pa_cons (pv 0) pa_nil)))
      (pss_cons (ps_set (i := 1) sc_law.nd rfl (Or.inl rfl) (pe_op op_add pe_int (pe_op op_mod (pe_op op_fdiv (pe_cal c__law_cell hr1 pass0 (pa_cons (pv 0) (pa_cons pe_int pa_nil))) pe_int) pe_int)))
      (pss_cons (ps_if (pt_cmpR op_eq (pe_op op_mod (pe_cal c__law_cell hr1 pass0 (pa_cons (pv 0) (pa_cons pe_int pa_nil))) pe_int) pe_int (nomark _)) (pss_one (ps_set (i := 1) sc_law.nd rfl (Or.inl rfl) (pe_op op_add pe_int (pe_op op_mod (pe_op op_fdiv (pe_cal c__law_cell hr1 pass0 (pa_cons (pv 0) (pa_cons pe_int pa_nil))) pe_int) pe_int)))) pss_nil)
      (pss_cons (ps_set (i := 2) sc_law.nd rfl (Or.inl rfl) (pe_op op_mod (pe_op op_fdiv (pe_cal c__law_cell hr1 pass0 (pa_cons (pv 0) (pa_cons pe_int pa_nil))) pe_int) pe_int))
      (pss_cons (ps_if (pt_cmpR op_eq (pe_op op_mod (pe_cal c__law_cell hr1 pass0 (pa_cons (pv 0) (pa_cons pe_int pa_nil))) pe_int) pe_int (nomark _)) (pss_one (ps_set (i := 2) sc_law.nd rfl (Or.inl rfl) (pe_op op_mod (pe_op op_fdiv (pe_cal c__law_cell hr1 pass0 (pa_cons (pv 0) (pa_cons pe_int pa_nil))) pe_int) pe_int))) pss_nil)
      (pss_cons (ps_set (i := 3) sc_law.nd rfl (Or.inl rfl) (pe_op op_mod (pe_op op_fdiv (pe_cal c__law_cell hr1 pass0 (pa_cons (pv 0) (pa_cons pe_int pa_nil))) pe_int) pe_int))
      (pss_cons (ps_if (pt_cmpR op_eq (pe_op op_mod (pe_cal c__law_cell hr1 pass0 (pa_cons (pv 0) (pa_cons pe_int pa_nil))) pe_int) pe_int (nomark _)) (pss_one (ps_set (i := 3) sc_law.nd rfl (Or.inl rfl) (pe_op op_mod (pe_op op_fdiv (pe_cal c__law_cell hr1 pass0 (pa_cons (pv 0) (pa_cons pe_int pa_nil))) pe_int) pe_int))) pss_nil)
      (pss_cons (ps_set (i := 4) sc_law.nd rfl (Or.inl rfl) (pe_cal c__law_jars hr2 pass0 (pa_cons (pv 0) (pa_cons pe_int (pa_cons (pv 1) pa_nil)))))
      (pss_cons (ps_set (i := 5) sc_law.nd rfl (Or.inl rfl) (pe_cal c__law_score hr3 pass0 (pa_cons (pv 0) (pa_cons (pv 2) (pa_cons (pv 1) pa_nil)))))
      (pss_cons (ps_set (i := 6) sc_law.nd rfl (Or.inl rfl) (pe_cal0 c_interpreter hr39 pass0))
      (pss_cons (ps_if (PW.pt (pw_or (pt_cmpR op_notN (pe_cal c_check hr12 pass0 (pa_cons (pv 6) pa_nil)) pe_non (nomark _)) (pw_or1 (pt_cmpR op_ne (pe_callB (call_len_seq) rfl X.len (by decide +kernel) (pa_cons (pe_ix ix_tup (pe_ix ix_tup (pv 6) pe_int (fun _ _ => rfl)) pe_int (fun _ _ => rfl)) pa_nil)) pe_int (nomark _))))) (pss_one (ps_ret pe_bl)) pss_nil)
      (pss_cons (ps_set (i := 7) sc_law.nd rfl (Or.inl rfl) (pe_cal c_play hr105 pass0 (pa_cons (pv 5) (pa_cons (pv 4) (pa_cons (pv 3) pa_nil)))))
      (pss_cons (ps_if (pt_cmpR op_eq (pe_ix ix_tup (pv 7) pe_int (fun _ _ => rfl)) pe_str (nomark _)) (pss_one (ps_ret (pe_cmpR (op_eqD hr.units) (pe_cal c_run hr106 pass0 (pa_cons (pv 6) (pa_cons (pe_tup (pa_cons (pv 5) (pa_cons (pv 4) pa_nil))) (pa_cons (pv 3) pa_nil)))) (pe_tup (pa_cons pe_str (pa_cons pe_non (pa_cons (pv 3) pa_nil)))) (nomark _)))) pss_nil)
      (pss_cons (ps_set (i := 8) sc_law.nd rfl (Or.inl rfl) (pe_cal c_run hr106 pass0 (pa_cons (pv 6) (pa_cons (pe_tup (pa_cons (pv 5) (pa_cons (pv 4) pa_nil))) (pa_cons (pe_op op_add (pe_op op_mul pe_int (pe_ix ix_tup (pv 7) pe_int (fun _ _ => rfl))) pe_int) pa_nil)))))
      (pss_cons (ps_if (PW.pt (pw_or (pt_not (pt_val (pe_cal c__law_same hr2 pass0 (pa_cons (pe_slice sl_tupA (pv 8) po_none (po_some pe_int)) (pa_cons (pe_slice sl_tupA (pv 7) po_none (po_some pe_int)) pa_nil))))) (pw_or1 (pt_not (pt_val (pe_cal c__law_whole hr1 pass0 (pa_cons (pe_ix ix_tup (pv 8) pe_int (fun _ _ => rfl)) pa_nil))))))) (pss_one (ps_ret pe_bl)) pss_nil)
      (pss_one (ps_ret (pe_chain op_le op_le (pe_ix ix_tup (pv 7) pe_int (fun _ _ => rfl)) (pe_ix ix_tup (pv 8) pe_int (fun _ _ => rfl)) (pe_op op_add (pe_op op_mul pe_int (pe_ix ix_tup (pv 7) pe_int (fun _ _ => rfl))) pe_int))))))))))))))))))), ?_⟩
    refine ⟨_, rfl, a, _, rfl, ha, hints, by rw [List.length_map]; omega, fun sp ys H1 s1 hsp hys => ?_⟩
    refine gN ?_
    dsimp only
    have one : ∀ {n : Nat}, ((1 + n : Nat) : Int) = 1 + (n : Int) := fun {n} => by omega
    refine var_step (k := 0) (i := 1) rfl (fun n => 1 ≤ n ∧ n ≤ 20) rfl (by decide) hsp hys (by decide) (fun H2 Q' s2 kk => part_at 0 4 rfl rfl rfl (s2.seq hsp) hys (by decide) (by decide) fun n H3 hn s3 => ⟨_, _, rfl, rfl, ?_⟩) (fun H2 Q' v s2 kk => part_at 0 20 rfl rfl rfl (s2.seq hsp) hys (by decide) (by decide) fun n H3 hn s3 => ⟨_, _, rfl, rfl, ?_⟩) fun many H2 s2 hmany => ?_
    · have e := kk (1 + n) H3 s3 ⟨by omega, by omega⟩
      rw [one] at e
      exact e
    · have e := kk (1 + n) H3 s3 ⟨by omega, by omega⟩
      rw [one] at e
      exact e
    have s12 := s1.trans s2
    refine var_step (k := 3) (i := 2) rfl (fun n => n ≤ 14) rfl (by decide) (s2.seq hsp) hys (by decide) (fun H3 Q' s3 kk => part_at 3 5 rfl rfl rfl (s3.seq (s2.seq hsp)) hys (by decide) (by decide) fun n H4 hn s4 => kk n H4 s4 (by omega)) (fun H3 Q' v s3 kk => part_at 3 15 rfl rfl rfl (s3.seq (s2.seq hsp)) hys (by decide) (by decide) fun n H4 hn s4 => kk n H4 s4 (by omega)) fun size H3 s3 hsize => ?_
    refine var_step (k := 4) (i := 3) rfl (fun n => n ≤ 60) rfl (by decide) (s3.seq (s2.seq hsp)) hys (by decide) (fun H4 Q' s4 kk => part_at 4 16 rfl rfl rfl (s4.seq (s3.seq (s2.seq hsp))) hys (by decide) (by decide) fun n H5 hn s5 => kk n H5 s5 (by omega)) (fun H4 Q' v s4 kk => part_at 4 61 rfl rfl rfl (s4.seq (s3.seq (s2.seq hsp))) hys (by decide) (by decide) fun n H5 hn s5 => kk n H5 s5 (by omega)) fun most H4 s4 hmost => ?_
    have hsp4 := s4.seq (s3.seq (s2.seq hsp))
    clear s1 s2 s3 s4 s12
    refine ⟨_, rfl, _, rfl, sp, ys, 33, many, rfl, hsp4, hys, by decide, hmany.1, by omega, fun jp H5 j s5 hj jo jl => ?_⟩
    refine ⟨_, rfl, _, rfl, _, rfl, sp, ys, size, many, rfl, s5.seq hsp4, hys, by omega, hmany.1, by omega, fun rv H6 cs s6 rrow okc szc => ?_⟩
    refine ⟨rfl, fun pgv H7 s7 rp => ?_⟩
    have rok := row_ok okc szc
    have rrow7 := rrow.same s7
    have rj7 : Rep K RT H7 (jarsD j) (.ref jp) := .row (seqT (s6.trans s7) hj) (jars_rep j)
    refine ⟨_, rfl, pgv, P0, rfl, rp, check0, fun H8 s8 => ⟨rfl, _, rfl, ?_⟩⟩
    refine iteNS rfl ?_
    have rp8 := rp.same s8
    obtain ⟨pt, pxs, rfl, hpt, hpl⟩ := id rp8.row_inv
    obtain ⟨fv, hf0, rf⟩ := hpl.get (i := 0) rfl
    obtain ⟨ft, fs, rfl, hft, hfl⟩ := rf.row_inv
    obtain ⟨z0, z1, z2, rfl, i0, i1, i2⟩ := hfl.three
    obtain ⟨pp, zs, rfl, hpp, hppl⟩ := i1.row_inv
    refine ⟨_, rfl, pt, _, _, _, rfl, rfl, hpt, atI_nat (j := 0) hf0, ft, _, _, _, rfl, rfl, hft, atI_nat (j := 1) rfl, pp, zs, rfl, .inr hpp, rfl, _, rfl, ?_⟩
    rw [hppl.len]
    refine iteNS rfl ?_
    have rrow8 := rrow7.same s8
    have rj8 := rj7.same s8
    obtain ⟨fr, hfr⟩ := main_frame (rowD cs) (jarsD j)
    obtain ⟨r, hr0⟩ := playM_some most (2 * most + 1) [cs] j 0 (Nat.zero_le _) (by simp)
    have pr := pl cs j most _ r fr rok jo (by omega) hmost hr0 hfr
    refine ⟨_, rfl, _, rfl, _, rfl, RT, cs, rv, .ref jp, j, most, 2 * most + 1, r, rfl, rrow8, rok, rj8, jo, by omega, hr0, fun dv H9 s9 rr => ?_⟩
    have rp9 := rp8.same s9
    have rrow9 := rrow8.same s9
    have rj9 := rj8.same s9
    have runs : ∀ (H10 : Hp) (ip : Addr) (b : Nat) (bz : Int) (r' : Res) (Q' : VK), bz = (b : Int) → Same H9 H10 → SqT K H10 ip [rv, .ref jp] → runM P0 b b 0 fr [] = some r' → (∀ v H', Same H10 H' → RepRes K (RH H10) H' r' v → Q' v H') → spRun K [.ref pt, .ref ip, .int bz] H10 Q' E0 := fun H10 ip b bz r' Q' eb s10 hip hrun k => by
      subst eb
      exact ⟨RT, _, _, _, ip, [rv, .ref jp], [rowD cs, jarsD j], fr, b, r', rfl, rp9.same s10, hip, .cons (rrow9.same s10) (.cons (rj9.same s10) .nil), hfr, hrun, k⟩
    cases r with
    | out n =>
      obtain ⟨dp, rfl, hdp⟩ := rr
      obtain ⟨rfl, prun⟩ := pr
      refine ⟨_, rfl, dp, _, _, _, rfl, rfl, SqT.of hdp, atI_nat (j := 0) rfl, rfl, _, rfl, ?_⟩
      rw [str_eq]
      refine iteT ⟨_, rfl, _, rfl, _, rfl, by show 2 ≤ sizeLine; decide, fun ip nip => ⟨_, rfl, ?_⟩⟩
      refine runs _ ip n _ _ _ rfl (Same.new nip) (SqT.of upd_same) prun fun v H11 s11 rr2 => ?_
      obtain ⟨op, rfl, hop⟩ := rr2
      refine ⟨_, rfl, by show 3 ≤ sizeLine; decide, fun cp ncp => ?_⟩
      have s12 := Same.new ncp (o := .tup [.str "out", .non, .int (n : Int)])
      refine ⟨.tuple [.str "out", .none, .int (n : Int)], .tuple [.str "out", .none, .int (n : Int)], .tup (SqT.of (s12 _ _ hop)) (.cons (.str _) (.cons .non (.cons (.int _) .nil))), .tup (SqT.of upd_same) (.cons (.str _) (.cons .non (.cons (.int _) .nil))), shaped_out n, shaped_out n, ?_⟩
      have e : PyData.eqv (.tuple [.str "out", .none, .int (n : Int)]) (.tuple [.str "out", .none, .int (n : Int)]) = true := SeqAt.eqv_refl _ (SeqAt.canLay_of_shaped (shaped_out n))
      rw [e]
      exact q _
    | told d n =>
      obtain ⟨dp, dj, rfl, hdp, rdj⟩ := rr
      obtain ⟨j', m, rfl, hj', hnb, prun, hm1, hm2⟩ := pr
      refine ⟨_, rfl, dp, _, _, _, rfl, rfl, SqT.of hdp, atI_nat (j := 0) rfl, rfl, _, rfl, ?_⟩
      rw [str_ne (a := "told") (b := "out") (by decide +kernel)]
      refine iteF ⟨_, rfl, _, rfl, _, rfl, by show 2 ≤ sizeLine; decide, fun ip nip => ?_⟩
      have s10 := Same.new nip (o := .tup [rv, .ref jp])
      refine ⟨_, rfl, dp, _, _, _, rfl, rfl, SqT.of (s10 _ _ hdp), atI_nat (j := 2) rfl, _, _, rfl, rfl, .inl ⟨by decide, by decide⟩, _, _, rfl, rfl, ?_⟩
      refine runs _ ip (60 * n + 60) _ _ _ (by show 60 * (n : Int) + 60 = _; omega) s10 (SqT.of upd_same) prun fun v H11 s11 rr2 => ?_
      obtain ⟨op, oj, rfl, hop, roj⟩ := rr2
      have hdp11 := s11 _ _ (s10 _ _ hdp)
      refine ⟨_, rfl, ?_⟩
      unfold tNoPart
      refine ⟨_, rfl, sl_lo (j := 2) rfl (by show 2 ≤ 3; decide) (SqT.of hop) fun fp H12 s12 hfp => ?_⟩
      have hdp12 := s12 _ _ hdp11
      refine ⟨_, rfl, _, rfl, sl_lo (j := 2) rfl (by show 2 ≤ 3; decide) (SqT.of hdp12) fun dp2 H13 s13 hdp2 => ?_⟩
      have s11_13 := s12.trans s13
      refine ⟨fp, dp2, rfl, .inr ⟨RT, j', oj, dj, by omega, seqT s13 hfp, hdp2, (roj.imp fun _ _ _ _ => trivial).same s11_13, ((rdj.imp fun _ _ _ _ => trivial).same (s10.trans s11)).same s11_13⟩, fun H14 s14 => ?_⟩
      have hop14 := s14 _ _ (s11_13 _ _ hop)
      have hdp14 := s14 _ _ (s13 _ _ hdp12)
      refine ⟨_, rfl, iteF ?_⟩
      refine ⟨_, rfl, op, _, _, _, rfl, rfl, SqT.of hop14, atI_nat (j := 2) rfl, _, rfl, _, rfl, iteF ?_⟩
      refine ⟨_, rfl, dp, _, _, _, rfl, rfl, SqT.of hdp14, atI_nat (j := 2) rfl, _, rfl, op, _, _, _, rfl, rfl, SqT.of hop14, atI_nat (j := 2) rfl, _, _, rfl, rfl, _, rfl, ?_⟩
      rw [decide_eq_true (show (n : Int) ≤ (m : Int) by omega)]
      refine iteT ⟨_, rfl, dp, _, _, _, rfl, rfl, SqT.of hdp14, atI_nat (j := 2) rfl, _, _, rfl, rfl, .inl ⟨by decide, by decide⟩, _, _, rfl, rfl, _, _, rfl, rfl, ?_⟩
      show Q (.bl (decide ((m : Int) ≤ 60 * (n : Int) + 60))) H14
      rw [decide_eq_true (show (m : Int) ≤ 60 * (n : Int) + 60 by omega)]
      exact q _
    | fault wd n =>
      obtain ⟨dp, rfl, hdp⟩ := rr
      obtain ⟨m, hwd, hnb, prun, hm1, hm2⟩ := pr
      refine ⟨_, rfl, dp, _, _, _, rfl, rfl, SqT.of hdp, atI_nat (j := 0) rfl, rfl, _, rfl, ?_⟩
      rw [str_ne (a := "fault") (b := "out") (by decide +kernel)]
      refine iteF ⟨_, rfl, _, rfl, _, rfl, by show 2 ≤ sizeLine; decide, fun ip nip => ?_⟩
      have s10 := Same.new nip (o := .tup [rv, .ref jp])
      refine ⟨_, rfl, dp, _, _, _, rfl, rfl, SqT.of (s10 _ _ hdp), atI_nat (j := 2) rfl, _, _, rfl, rfl, .inl ⟨by decide, by decide⟩, _, _, rfl, rfl, ?_⟩
      refine runs _ ip (60 * n + 60) _ _ _ (by show 60 * (n : Int) + 60 = _; omega) s10 (SqT.of upd_same) prun fun v H11 s11 rr2 => ?_
      obtain ⟨op, rfl, hop⟩ := rr2
      have hdp11 := s11 _ _ (s10 _ _ hdp)
      refine ⟨_, rfl, ?_⟩
      unfold tNoPart
      refine ⟨_, rfl, sl_lo (j := 2) rfl (by show 2 ≤ 3; decide) (SqT.of hop) fun fp H12 s12 hfp => ?_⟩
      have hdp12 := s12 _ _ hdp11
      refine ⟨_, rfl, _, rfl, sl_lo (j := 2) rfl (by show 2 ≤ 3; decide) (SqT.of hdp12) fun dp2 H13 s13 hdp2 => ?_⟩
      have s11_13 := s12.trans s13
      refine ⟨fp, dp2, rfl, .inl ⟨wd, hwd, seqT s13 hfp, hdp2⟩, fun H14 s14 => ?_⟩
      have hop14 := s14 _ _ (s11_13 _ _ hop)
      have hdp14 := s14 _ _ (s13 _ _ hdp12)
      refine ⟨_, rfl, iteF ?_⟩
      refine ⟨_, rfl, op, _, _, _, rfl, rfl, SqT.of hop14, atI_nat (j := 2) rfl, _, rfl, _, rfl, iteF ?_⟩
      refine ⟨_, rfl, dp, _, _, _, rfl, rfl, SqT.of hdp14, atI_nat (j := 2) rfl, _, rfl, op, _, _, _, rfl, rfl, SqT.of hop14, atI_nat (j := 2) rfl, _, _, rfl, rfl, _, rfl, ?_⟩
      rw [decide_eq_true (show (n : Int) ≤ (m : Int) by omega)]
      refine iteT ⟨_, rfl, dp, _, _, _, rfl, rfl, SqT.of hdp14, atI_nat (j := 2) rfl, _, _, rfl, rfl, .inl ⟨by decide, by decide⟩, _, _, rfl, rfl, _, _, rfl, rfl, ?_⟩
      show Q (.bl (decide ((m : Int) ≤ 60 * (n : Int) + 60))) H14
      rw [decide_eq_true (show (m : Int) ≤ 60 * (n : Int) + 60 by omega)]
      exact q _
end
end Fk
set_option maxHeartbeats 4000000
/-! ## The plain law: answers, lines -/
namespace Fk
open PySem PySem.Spec PyProof.Rows L2 TL
mutual
theorem D.depth_le : ∀ d : D, d.depth ≤ d.parts
  | .num _ => Nat.zero_le _
  | .word _ => Nat.zero_le _
  | .row l => by
    have h := depthL_parts l
    unfold D.depth D.parts
    omega
  | .rcd l => by
    have h := depthK_parts l
    unfold D.depth D.parts
    omega
theorem depthL_parts : ∀ l : List D, depthL l ≤ partsL l
  | [] => Nat.le_refl _
  | d :: r => by
    have h1 := D.depth_le d
    have h2 := depthL_parts r
    unfold depthL partsL
    omega
theorem depthK_parts : ∀ l : List (Str × D), depthK l ≤ partsK l
  | [] => Nat.le_refl _
  | (_, d) :: r => by
    have h1 := D.depth_le d
    have h2 := depthK_parts r
    unfold depthK partsK
    omega
end
def Good (d : D) : Prop := d.wide = false ∧ d.parts ≤ 60
theorem sized_good {d : D} (h : Good d) : (if d.depth ≤ 100 then some (sized d) else none) = some (.ok d) := by
  have hd := D.depth_le d
  have h2 := h.2
  rw [if_pos (by omega)]
  unfold sized
  rw [h.1, if_neg Bool.false_ne_true, if_neg (by omega)]
theorem ans_of {o : OpK} {ds : List D} {d : D} (hk : kindsOk o.kinds ds = true) (ht : toldM o ds = some (.ok d)) (g : Good d) : ansM o ds = some (.ok d) := by
  unfold ansM
  rw [if_pos hk, ht]
  exact sized_good g
theorem ans_err {o : OpK} {ds : List D} {w : Str} (hk : kindsOk o.kinds ds = true) (ht : toldM o ds = some (.error w)) : ansM o ds = some (.error w) := by
  unfold ansM
  rw [if_pos hk, ht]
theorem good_num {n : Int} (h : narrow n = true) : Good (.num n) := ⟨by show (!narrow n) = false; rw [h]; rfl, by unfold D.parts; decide⟩
theorem good_word {x : Str} : Good (.word x) := ⟨rfl, by unfold D.parts; decide⟩
theorem good_row {l : List D} (h : (D.row l).parts ≤ 60) : Good (.row l) := ⟨rfl, h⟩
theorem good_rcd {l : List (Str × D)} (h : (D.rcd l).parts ≤ 60) : Good (.rcd l) := ⟨rfl, h⟩
theorem a_many {l : List D} (h : (D.row l).parts ≤ 60) : ansM .many [.row l] = some (.ok (.num (l.length : Int))) := by
  refine ans_of rfl rfl (good_num ?_)
  have := partsL_len l
  unfold D.parts at h
  exact narrow_iff.mpr (by omega)
theorem a_head {x : D} {l : List D} (g : Good x) : ansM .head [.row (x :: l)] = some (.ok x) := ans_of rfl rfl g
theorem a_rest {x : D} {l : List D} (g : Good (.row l)) : ansM .rest [.row (x :: l)] = some (.ok (.row l)) := ans_of rfl rfl g
theorem a_field {l : List (Str × D)} {k : Str} {d : D} (e : l.lookup k = some d) (g : Good d) : ansM .field [.rcd l, .word k] = some (.ok d) := by
  refine ans_of rfl ?_ g
  show fieldM l k = _
  unfold fieldM
  rw [e]
theorem a_same {a b : Str} : ansM .same [.word a, .word b] = some (.ok (.num (if a = b then 1 else 0))) := by
  refine ans_of rfl rfl (good_num ?_)
  by_cases h : a = b
  · rw [if_pos h]; decide +kernel
  · rw [if_neg h]; decide +kernel
theorem parts_nums : ∀ j : List Int, partsL (j.map .num) = j.length
  | [] => rfl
  | n :: r => by
    rw [List.map_cons]
    unfold partsL
    rw [parts_nums r]
    unfold D.parts
    rw [List.length_cons]
    omega
theorem good_jars {j : List Int} (h : JarsOk j) : Good (jarsD j) := by
  refine good_row ?_
  unfold D.parts
  rw [parts_nums]
  have := h.2
  omega
theorem in_jars {j : List Int} {i x : Int} (h : jarM j i = some x) : inRow (j.map D.num) i := by
  obtain ⟨m, rfl, hm, _⟩ := jarM_some h
  exact ⟨by omega, by rw [List.length_map]; omega⟩
theorem out_jars {j : List Int} {i : Int} (h : jarM j i = none) : ¬ inRow (j.map D.num) i := by
  rintro ⟨h1, h2⟩
  rw [List.length_map] at h2
  unfold jarM at h
  rw [if_pos h1] at h
  have := List.getElem?_eq_none_iff.mp h
  omega
theorem a_item {j : List Int} {i x : Int} (jo : JarsOk j) (h : jarM j i = some x) : ansM .item [jarsD j, .num i] = some (.ok (.num x)) := by
  have hx : narrow x = true := by
    obtain ⟨m, _, _, e⟩ := jarM_some h
    exact jo.1 x (List.mem_of_getElem? e)
  refine ans_of rfl ?_ (good_num hx)
  show itemM (j.map .num) i = _
  unfold itemM
  rw [if_pos (in_jars h), List.getElem?_map]
  obtain ⟨m, rfl, _, e⟩ := jarM_some h
  rw [Int.toNat_natCast, e]
  rfl
theorem a_itemE {j : List Int} {i : Int} (h : jarM j i = none) : ansM .item [jarsD j, .num i] = some (.error "place") := by
  refine ans_err rfl ?_
  show itemM (j.map .num) i = _
  unfold itemM
  rw [if_neg (out_jars h)]
theorem a_put {j : List Int} {i x y : Int} (jo : JarsOk j) (h : jarM j i = some y) (hx : narrow x = true) : ansM .put [jarsD j, .num i, .num x] = some (.ok (jarsD (j.set i.toNat x))) := by
  refine ans_of rfl ?_ ?_
  · show putM (j.map .num) i (.num x) = _
    have := jo.2
    unfold putM
    rw [if_pos (by rw [List.length_map]; omega), if_pos (in_jars h)]
    unfold jarsD
    rw [List.map_set]
  · unfold jarsD
    refine good_row ?_
    unfold D.parts
    rw [parts_nums, List.length_set]
    have := jo.2
    omega
theorem a_putE {j : List Int} {i x : Int} (jo : JarsOk j) (h : jarM j i = none) : ansM .put [jarsD j, .num i, .num x] = some (.error "place") := by
  refine ans_err rfl ?_
  show putM (j.map .num) i (.num x) = _
  have := jo.2
  unfold putM
  rw [if_pos (by rw [List.length_map]; omega), if_neg (out_jars h)]
/-! ### so many lines of the run -/
inductive Reach : Nat → Frm → Wt → Frm → Wt → Prop
  | refl {c : Frm} {w : Wt} : Reach 0 c w c w
  | step {k : Nat} {c c1 c2 : Frm} {w w1 w2 : Wt} : lastM c w = false → lineM P0 c w = some (.next c1 w1) → Reach k c1 w1 c2 w2 → Reach (k + 1) c w c2 w2
theorem Reach.trans {k m : Nat} {a b c : Frm} {u v w : Wt} (h : Reach k a u b v) (g : Reach m b v c w) : Reach (k + m) a u c w := by
  induction h with
  | refl => rw [Nat.zero_add]; exact g
  | step h1 h2 _ ih =>
    rw [Nat.add_right_comm]
    exact .step h1 h2 (ih g)
theorem runM_succ {B n s : Nat} {c : Frm} {w : Wt} : runM P0 B (n + 1) s c w = (if lastM c w = true then (lastV c w).map (Res.told · (s + 1)) else (match lineM P0 c w with
    | none => none
    | some (LOut.fault w) => some (Res.fault w (s + 1))
    | some (LOut.next c w) => runM P0 B n (s + 1) c w)) := rfl
theorem Reach.run {k : Nat} {a b : Frm} {u v : Wt} (h : Reach k a u b v) : ∀ (B n s : Nat), runM P0 B (n + k) s a u = runM P0 B n (s + k) b v := by
  induction h with
  | refl => intro B n s; rfl
  | @step k c c1 c2 w w1 w2 h1 h2 _ ih =>
    intro B n s
    show runM P0 B (n + k + 1) s c w = _
    rw [runM_succ, h1, if_neg Bool.false_ne_true, h2]
    show runM P0 B (n + k) (s + 1) c1 w1 = _
    rw [ih B n (s + 1), Nat.add_right_comm s 1 k]
    rfl
theorem Reach.out {k : Nat} {a b : Frm} {u v : Wt} (h : Reach k a u b v) : ∀ (B n s : Nat), n ≤ k → runM P0 B n s a u = some (.out B) := by
  induction h with
  | refl =>
    intro B n s hn
    have : n = 0 := by omega
    subst this
    rfl
  | @step k c c1 c2 w w1 w2 h1 h2 _ ih =>
    intro B n s hn
    cases n with
    | zero => rfl
    | succ n =>
      rw [runM_succ, h1, if_neg Bool.false_ne_true, h2]
      exact ih B n (s + 1) (by omega)
theorem last_steps {th : List (Str × D)} {blk : Blk} {g : Nat} {wt : Wt} {st : Stp} (h : blk.steps[g]? = some st) : lastM ⟨th, blk, g⟩ wt = false ∧ lineM P0 ⟨th, blk, g⟩ wt = rstepM P0 ⟨th, blk, g⟩ wt := by
  have hg : g < blk.steps.length := (List.getElem?_eq_some_iff.mp h).1
  refine ⟨?_, if_pos hg⟩
  unfold lastM
  rw [decide_eq_true hg]
  cases wt <;> rfl
theorem last_end {th : List (Str × D)} {blk : Blk} {g : Nat} {wt : Wt} (h : g = blk.steps.length) : lineM P0 ⟨th, blk, g⟩ wt = endM_ P0 ⟨th, blk, g⟩ wt := if_neg (by show ¬ g < blk.steps.length; omega)
def afterLet (c : Frm) (n : Str) (wt : Wt) : Except Str D → LOut
  | .ok d => .next (putF_ c n d) wt
  | .error w => .fault w
theorem step_let {th : List (Str × D)} {blk : Blk} {g : Nat} {wt : Wt} {n : Str} {o : OpK} {as : List Atom} {ds : List D} {r : Except Str D} (h3 : ansM o ds = some r) (h1 : blk.steps[g]? = some (.let_ n o as)) (h2 : atomsV th as = some ds) (hz : Nat.ble th.length 500 = true) (hx : Nat.ble as.length 1000 = true) :
    lastM ⟨th, blk, g⟩ wt = false ∧ lineM P0 ⟨th, blk, g⟩ wt = some (afterLet ⟨th, blk, g⟩ n wt r) := by
  obtain ⟨e1, e2⟩ := last_steps (th := th) (wt := wt) h1
  refine ⟨e1, e2.trans ?_⟩
  unfold rstepM
  rw [show (⟨th, blk, g⟩ : Frm).blk.steps[(⟨th, blk, g⟩ : Frm).gone]? = some (.let_ n o as) from h1]
  show (if as.length ≤ 1000 then (match atomsV th as with
    | none => none
    | some ds => doM P0 ⟨th, blk, g⟩ wt ds (.let_ n o as)) else none) = _
  rw [if_pos (Nat.le_of_ble_eq_true hx), h2]
  show (if th.length ≤ 500 then (match ansM o ds with
    | none => none
    | some (.error w) => some (LOut.fault w)
    | some (.ok d) => some (LOut.next (putF_ ⟨th, blk, g⟩ n d) wt)) else none) = _
  rw [if_pos (Nat.le_of_ble_eq_true hz)]
  simp only [h3]
  cases r <;> rfl
theorem R_let {k : Nat} {th : List (Str × D)} {blk : Blk} {g : Nat} {wt w' : Wt} {c' : Frm} {n : Str} {o : OpK} {as : List Atom} {ds : List D} {d : D} (h3 : ansM o ds = some (.ok d)) (h1 : blk.steps[g]? = some (.let_ n o as)) (h2 : atomsV th as = some ds) (hz : Nat.ble th.length 500 = true) (hx : Nat.ble as.length 1000 = true)
    (hn : Reach k ⟨putS th n d, blk, g + 1⟩ wt c' w') : Reach (k + 1) ⟨th, blk, g⟩ wt c' w' := let ⟨e1, e2⟩ := step_let (wt := wt) h3 h1 h2 hz hx; .step e1 e2 hn
theorem R_call {k : Nat} {th : List (Str × D)} {blk : Blk} {g : Nat} {wt w' : Wt} {c' fr : Frm} {n f : Str} {as : List Atom} {ds : List D} (h1 : blk.steps[g]? = some (.call n f as)) (h2 : atomsV th as = some ds) (h3 : enterM P0 f ds = some fr) (hw : wt.length ≤ 10000) (hx : Nat.ble as.length 1000 = true)
    (hn : Reach k fr ((⟨th, blk, g⟩, n) :: wt) c' w') : Reach (k + 1) ⟨th, blk, g⟩ wt c' w' := by
  obtain ⟨e1, e2⟩ := last_steps (th := th) (wt := wt) h1
  refine .step e1 (e2.trans ?_) hn
  unfold rstepM
  rw [show (⟨th, blk, g⟩ : Frm).blk.steps[(⟨th, blk, g⟩ : Frm).gone]? = some (.call n f as) from h1]
  show (if as.length ≤ 1000 then (match atomsV th as with
    | none => none
    | some ds => doM P0 ⟨th, blk, g⟩ wt ds (.call n f as)) else none) = _
  rw [if_pos (Nat.le_of_ble_eq_true hx), h2]
  show (if wt.length ≤ 10000 then (enterM P0 f ds).map fun fr => LOut.next fr ((⟨th, blk, g⟩, n) :: wt) else none) = _
  rw [if_pos hw, h3]
  rfl
theorem R_if {k : Nat} {th : List (Str × D)} {g : Nat} {wt w' : Wt} {c' : Frm} {ss : List Stp} {a : Atom} {b c : Blk} {n : Int} (h2 : atomV th a = some (.num n)) (hg : g = ss.length) (hn : Reach k ⟨th, if n = 0 then c else b, 0⟩ wt c' w') : Reach (k + 1) ⟨th, .iff ss a b c, g⟩ wt c' w' := by
  refine .step ?_ ((last_end hg).trans ?_) hn
  · unfold lastM
    cases wt <;> simp
  · show (match atomV th a with
      | some (.num n) => some (LOut.next ⟨th, if n = 0 then c else b, 0⟩ wt)
      | _ => none) = _
    rw [h2]
theorem R_go {k : Nat} {th : List (Str × D)} {g : Nat} {wt w' : Wt} {c' fr : Frm} {ss : List Stp} {f : Str} {as : List Atom} {ds : List D} (h2 : atomsV th as = some ds) (h3 : enterM P0 f ds = some fr) (hg : g = ss.length) (hx : Nat.ble as.length 1000 = true) (hn : Reach k fr wt c' w') : Reach (k + 1) ⟨th, .go ss f as, g⟩ wt c' w' := by
  refine .step ?_ ((last_end hg).trans ?_) hn
  · unfold lastM
    cases wt <;> simp
  · show (if as.length ≤ 1000 then (match atomsV th as with
      | none => none
      | some ds => (enterM P0 f ds).map fun fr => LOut.next fr wt) else none) = _
    rw [if_pos (Nat.le_of_ble_eq_true hx), h2]
    show (enterM P0 f ds).map (fun fr => LOut.next fr wt) = _
    rw [h3]
    rfl
theorem R_give {k : Nat} {th : List (Str × D)} {g : Nat} {wt w' : Wt} {c' fr : Frm} {n : Str} {ss : List Stp} {a : Atom} {d : D} (h2 : atomV th a = some d) (hz : Nat.ble fr.th.length 500 = true) (hg : g = ss.length) (hn : Reach k (putF_ fr n d) wt c' w') : Reach (k + 1) ⟨th, .give ss a, g⟩ ((fr, n) :: wt) c' w' := by
  refine .step rfl ((last_end hg).trans ?_) hn
  unfold endM_
  simp only [h2]
  rw [if_pos (Nat.le_of_ble_eq_true hz)]
end Fk
set_option maxHeartbeats 4000000
/-! ## The plain law: paths through the interpreter -/
namespace Fk
open PySem PySem.Spec PyProof.Rows L2 TL
def Bset : Blk := .go [.let_ "n" .field [.of "first", .is "n"], .let_ "now" .put [.of "jars", .of "at", .of "n"]] "play" [.of "more", .of "now"]
def Bloop : Blk := .go [.call "done" "again" [.of "first", .of "jars"]] "play" [.of "more", .of "done"]
def Bthen : Blk := .go [.let_ "body" .field [.of "first", .is "body"], .call "then" "play" [.of "body", .of "jars"]] "play" [.of "more", .of "then"]
def Bskip : Blk := .go [] "play" [.of "more", .of "jars"]
def B4 : Blk := .iff [.let_ "here" .item [.of "jars", .of "at"]] (.of "here") Bthen Bskip
def Bfig : Blk := .go [] "figure" [.of "first", .of "more", .of "jars"]
def B3 : Blk := .iff [.let_ "three" .same [.of "do", .is "when"]] (.of "three") B4 Bfig
def B2 : Blk := .iff [.let_ "two" .same [.of "do", .is "loop"]] (.of "two") Bloop B3
def B1 : Blk := .iff [.let_ "first" .head [.of "score"], .let_ "more" .rest [.of "score"], .let_ "do" .field [.of "first", .is "do"], .let_ "at" .field [.of "first", .is "at"], .let_ "one" .same [.of "do", .is "set"]] (.of "one") Bset B2
def Bend : Blk := .give [] (.of "jars")
def Ago : Blk := .go [.let_ "body" .field [.of "first", .is "body"], .call "then" "play" [.of "body", .of "jars"]] "again" [.of "first", .of "then"]
def F1 : Blk := .go [.let_ "sum" .add [.of "x", .of "y"], .let_ "a" .put [.of "jars", .of "at", .of "sum"]] "play" [.of "more", .of "a"]
def F3 : Blk := .go [.let_ "less" .sub [.of "x", .of "y"], .let_ "b" .put [.of "jars", .of "at", .of "less"]] "play" [.of "more", .of "b"]
def F4 : Blk := .go [.let_ "times" .mul [.of "x", .of "y"], .let_ "c" .put [.of "jars", .of "at", .of "times"]] "play" [.of "more", .of "c"]
def F2 : Blk := .iff [.let_ "two" .same [.of "do", .is "sub"]] (.of "two") F3 F4
theorem play_eq : playB = .iff [.let_ "left" .many [.of "score"]] (.of "left") B1 Bend := rfl
theorem again_eq : againB = .iff [.let_ "at" .field [.of "first", .is "at"], .let_ "here" .item [.of "jars", .of "at"]] (.of "here") Ago Bend := rfl
def playD (S J : D) : Frm := ⟨bindF ["score", "jars"] [S, J] [], playB, 0⟩
def againD (F J : D) : Frm := ⟨bindF ["first", "jars"] [F, J] [], againB, 0⟩
def figD (F M J : D) : Frm := ⟨bindF ["first", "more", "jars"] [F, M, J] [], figureB, 0⟩
theorem ent_play (S J : D) : enterM P0 "play" [S, J] = some (playD S J) := by
  have e : funM P0 "play" = some ⟨"play", ["score", "jars"], playB⟩ := by decide +kernel
  unfold enterM
  rw [e]
  exact if_pos ⟨rfl, by show 2 ≤ 100; decide⟩
theorem ent_again (S J : D) : enterM P0 "again" [S, J] = some (againD S J) := by
  have e : funM P0 "again" = some ⟨"again", ["first", "jars"], againB⟩ := by decide +kernel
  unfold enterM
  rw [e]
  exact if_pos ⟨rfl, by show 2 ≤ 100; decide⟩
theorem ent_fig (F M J : D) : enterM P0 "figure" [F, M, J] = some (figD F M J) := by
  have e : funM P0 "figure" = some ⟨"figure", ["first", "more", "jars"], figureB⟩ := by decide +kernel
  unfold enterM
  rw [e]
  exact if_pos ⟨rfl, by show 3 ≤ 100; decide⟩
theorem R_ifT {k : Nat} {th : List (Str × D)} {g : Nat} {wt w' : Wt} {c' : Frm} {blk : Blk} {ss : List Stp} {a : Atom} {b c : Blk} {n : Int} (hb : blk = .iff ss a b c) (h0 : n ≠ 0) (h2 : atomV th a = some (.num n)) (hg : g = ss.length) (hn : Reach k ⟨th, b, 0⟩ wt c' w') : Reach (k + 1) ⟨th, blk, g⟩ wt c' w' := by
  subst hb
  refine R_if h2 hg ?_
  rw [if_neg h0]
  exact hn
theorem R_ifF {k : Nat} {th : List (Str × D)} {g : Nat} {wt w' : Wt} {c' : Frm} {blk : Blk} {ss : List Stp} {a : Atom} {b c : Blk} {n : Int} (hb : blk = .iff ss a b c) (h0 : n = 0) (h2 : atomV th a = some (.num n)) (hg : g = ss.length) (hn : Reach k ⟨th, c, 0⟩ wt c' w') : Reach (k + 1) ⟨th, blk, g⟩ wt c' w' := by
  subst hb
  refine R_if h2 hg ?_
  rw [if_pos h0]
  exact hn
theorem R_goB {k : Nat} {th : List (Str × D)} {g : Nat} {wt w' : Wt} {c' fr : Frm} {blk : Blk} {ss : List Stp} {f : Str} {as : List Atom} {ds : List D} (hb : blk = .go ss f as) (h3 : enterM P0 f ds = some fr) (h2 : atomsV th as = some ds) (hg : g = ss.length) (hx : Nat.ble as.length 1000 = true) (hn : Reach k fr wt c' w') : Reach (k + 1) ⟨th, blk, g⟩ wt c' w' := by
  subst hb
  exact R_go h2 h3 hg hx hn
/-- a fault behind so many lines -/
def Flt (k : Nat) (a : Frm) (u : Wt) (wd : Str) : Prop := ∃ c w, Reach k a u c w ∧ lastM c w = false ∧ lineM P0 c w = some (.fault wd)
theorem Flt.pre {k m : Nat} {a b : Frm} {u v : Wt} {wd : Str} (h : Reach k a u b v) (g : Flt m b v wd) : Flt (k + m) a u wd := let ⟨c, w, g1, g2⟩ := g; ⟨c, w, h.trans g1, g2⟩
theorem E_let {th : List (Str × D)} {blk : Blk} {g : Nat} {wt : Wt} {n wd : Str} {o : OpK} {as : List Atom} {ds : List D} (h3 : ansM o ds = some (.error wd)) (h1 : blk.steps[g]? = some (.let_ n o as)) (h2 : atomsV th as = some ds) (hz : Nat.ble th.length 500 = true) (hx : Nat.ble as.length 1000 = true) : Flt 0 ⟨th, blk, g⟩ wt wd :=
  let ⟨e1, e2⟩ := step_let (wt := wt) h3 h1 h2 hz hx; ⟨_, _, .refl, e1, e2⟩
/-! ### a row that is not empty -/
/-- the things behind the first tests -/
def E5 (c : Cmd) (r : List Cmd) (j : List Int) : List (Str × D) := putS (putS (putS (putS (putS (putS (bindF ["score", "jars"] [rowD (c :: r), jarsD j] []) "left" (.num ((c.d :: cmdsD r).length : Int))) "first" c.d) "more" (rowD r)) "do" (.word c.word)) "at" (.num c.at_)) "one" (.num (if c.word = "set" then 1 else 0))
theorem good_cmd {c : Cmd} {r : List Cmd} (ho : RowOk (c :: r)) : Good c.d ∧ narrow c.at_ = true := by
  have h2 := ho.2
  rw [rowD_cons] at h2
  unfold D.parts partsL at h2
  have h1 := ho.1
  unfold cmdsOk at h1
  have h1 := (Bool.and_eq_true_iff.mp h1).1
  refine ⟨?_, ?_⟩
  · rw [Cmd.d_ents] at h2 ⊢
    exact good_rcd (by omega)
  · cases c <;> unfold Cmd.ok at h1 <;> exact (Bool.and_eq_true_iff.mp h1).1
theorem pre {c : Cmd} {r : List Cmd} {j : List Int} {wt : Wt} (ho : RowOk (c :: r)) : Reach 7 (playD (rowD (c :: r)) (jarsD j)) wt ⟨E5 c r j, B1, 5⟩ wt := by
  obtain ⟨gc, gat⟩ := good_cmd ho
  have gr : Good (rowD r) := good_row ho.tail.2
  have gS : (D.row (c.d :: cmdsD r)).parts ≤ 60 := by
    have h := ho.2
    rw [rowD_cons] at h
    exact h
  refine R_let (a_many gS) rfl (by kernel_rfl) (by kernel_rfl) rfl ?_
  refine R_ifT (b := B1) (c := Bend) rfl (n := ((c.d :: cmdsD r).length : Int)) (by rw [List.length_cons]; omega) (by kernel_rfl) rfl ?_
  refine R_let (a_head (l := cmdsD r) gc) rfl (by kernel_rfl) (by kernel_rfl) rfl ?_
  refine R_let (a_rest (x := c.d) gr) rfl (by kernel_rfl) (by kernel_rfl) rfl ?_
  have e1 := c.e_do
  have e2 := c.e_at
  have ed : c.d = .rcd c.ents := c.d_ents
  refine R_let (n := "do") (ds := [c.d, .word "do"]) (d := .word c.word) (by rw [ed]; exact a_field e1 good_word) rfl (by kernel_rfl) (by kernel_rfl) rfl ?_
  refine R_let (n := "at") (ds := [c.d, .word "at"]) (d := .num c.at_) (by rw [ed]; exact a_field e2 (good_num gat)) rfl (by kernel_rfl) (by kernel_rfl) rfl ?_
  refine R_let (a_same (a := c.word) (b := "set")) rfl (by kernel_rfl) (by kernel_rfl) rfl ?_
  exact .refl
/-! ### paths -/
theorem one_set : (if ("set" : Str) = "set" then (1 : Int) else 0) ≠ 0 := by decide +kernel
theorem ok_set {a n : Int} {r : List Cmd} (ho : RowOk (.set a n :: r)) : narrow n = true := by
  have h1 := ho.1
  unfold cmdsOk at h1
  have h1 := (Bool.and_eq_true_iff.mp h1).1
  unfold Cmd.ok at h1
  exact (Bool.and_eq_true_iff.mp h1).2
theorem p_set {a n : Int} {r : List Cmd} {j : List Int} {wt : Wt} (ho : RowOk (.set a n :: r)) : Reach 9 (playD (rowD (.set a n :: r)) (jarsD j)) wt ⟨putS (E5 (.set a n) r j) "n" (.num n), Bset, 1⟩ wt := by
  refine (pre ho).trans (k := 7) (m := 2) ?_
  refine R_ifT (b := Bset) (c := B2) rfl (n := if ("set" : Str) = "set" then (1 : Int) else 0) one_set (by kernel_rfl) rfl ?_
  refine R_let (n := "n") (ds := [(Cmd.set a n).d, .word "n"]) (d := .num n) (by rw [Cmd.d_ents]; exact a_field e_n (good_num (ok_set ho))) rfl (by kernel_rfl) (by kernel_rfl) rfl ?_
  exact .refl
theorem s_set {a n x : Int} {r : List Cmd} {j : List Int} {wt : Wt} (ho : RowOk (.set a n :: r)) (jo : JarsOk j) (h : jarM j a = some x) : Reach 11 (playD (rowD (.set a n :: r)) (jarsD j)) wt (playD (rowD r) (jarsD (j.set a.toNat n))) wt := by
  refine (p_set ho).trans (k := 9) (m := 2) ?_
  refine R_let (a_put jo h (ok_set ho)) rfl (by kernel_rfl) (by kernel_rfl) rfl ?_
  refine R_goB rfl (ent_play (rowD r) (jarsD (j.set a.toNat n))) (by kernel_rfl) rfl rfl ?_
  exact .refl
theorem f_set {a n : Int} {r : List Cmd} {j : List Int} {wt : Wt} (ho : RowOk (.set a n :: r)) (jo : JarsOk j) (h : jarM j a = none) : Flt 9 (playD (rowD (.set a n :: r)) (jarsD j)) wt "place" :=
  (E_let (a_putE (x := n) jo h) rfl (by kernel_rfl) (by kernel_rfl) rfl).pre (k := 9) (m := 0) (p_set ho)
def E6 (c : Cmd) (r : List Cmd) (j : List Int) : List (Str × D) := putS (E5 c r j) "two" (.num (if c.word = "loop" then 1 else 0))
theorem p_two {c : Cmd} {r : List Cmd} {j : List Int} {wt : Wt} (ho : RowOk (c :: r)) (hw : ¬ c.word = "set") : Reach 9 (playD (rowD (c :: r)) (jarsD j)) wt ⟨E6 c r j, B2, 1⟩ wt := by
  refine (pre ho).trans (k := 7) (m := 2) ?_
  refine R_ifF (b := Bset) (c := B2) rfl (n := if c.word = "set" then (1 : Int) else 0) (if_neg hw) (by kernel_rfl) rfl ?_
  refine R_let (a_same (a := c.word) (b := "loop")) rfl (by kernel_rfl) (by kernel_rfl) rfl ?_
  exact .refl
/-- a loop is entered -/
theorem p_loop {a : Int} {b r : List Cmd} {j : List Int} {wt : Wt} (ho : RowOk (.loop a b :: r)) (hw : wt.length ≤ 9000) : Reach 11 (playD (rowD (.loop a b :: r)) (jarsD j)) wt (againD (Cmd.loop a b).d (jarsD j)) ((⟨E6 (.loop a b) r j, Bloop, 0⟩, "done") :: wt) := by
  refine (p_two ho (by show ¬ ("loop" : Str) = "set"; decide +kernel)).trans (k := 9) (m := 2) ?_
  refine R_ifT (b := Bloop) (c := B3) rfl (n := if ("loop" : Str) = "loop" then (1 : Int) else 0) (by decide +kernel) (by kernel_rfl) rfl ?_
  refine R_call rfl (ds := [(Cmd.loop a b).d, jarsD j]) (by kernel_rfl) (ent_again _ _) (by omega) rfl ?_
  exact .refl
def A1 (c : Cmd) (j : List Int) : List (Str × D) := putS (bindF ["first", "jars"] [c.d, jarsD j] []) "at" (.num c.at_)
def A3 (c : Cmd) (j : List Int) (x : Int) : List (Str × D) := putS (putS (A1 c j) "here" (.num x)) "body" (rowD c.body)
theorem p_again {a : Int} {b r : List Cmd} {j : List Int} {wt : Wt} (ho : RowOk (.loop a b :: r)) : Reach 1 (againD (Cmd.loop a b).d (jarsD j)) wt ⟨A1 (.loop a b) j, againB, 1⟩ wt := by
  obtain ⟨gc, gat⟩ := good_cmd ho
  refine R_let (n := "at") (ds := [(Cmd.loop a b).d, .word "at"]) (d := .num (Cmd.loop a b).at_) (by rw [Cmd.d_ents]; exact a_field (Cmd.e_at _) (good_num gat)) rfl (by kernel_rfl) (by kernel_rfl) rfl ?_
  exact .refl
theorem f_again {a : Int} {b r : List Cmd} {j : List Int} {wt : Wt} (ho : RowOk (.loop a b :: r)) (h : jarM j a = none) : Flt 1 (againD (Cmd.loop a b).d (jarsD j)) wt "place" :=
  (E_let (a_itemE h) rfl (by kernel_rfl) (by kernel_rfl) rfl).pre (k := 1) (m := 0) (p_again ho)
/-- the body is played -/
theorem s_again {a x : Int} {b r : List Cmd} {j : List Int} {wt : Wt} (ho : RowOk (.loop a b :: r)) (jo : JarsOk j) (h : jarM j a = some x) (hx : x ≠ 0) (hw : wt.length ≤ 9500) : Reach 5 (againD (Cmd.loop a b).d (jarsD j)) wt (playD (rowD b) (jarsD j)) ((⟨A3 (.loop a b) j x, Ago, 1⟩, "then") :: wt) := by
  have gb : Good (rowD b) := good_row ho.body.2
  refine (p_again ho).trans (k := 1) (m := 4) ?_
  refine R_let (a_item jo h) rfl (by kernel_rfl) (by kernel_rfl) rfl ?_
  refine R_ifT (b := Ago) (c := Bend) again_eq hx (by kernel_rfl) rfl ?_
  refine R_let (n := "body") (ds := [(Cmd.loop a b).d, .word "body"]) (d := rowD b) (by rw [Cmd.d_ents]; exact a_field e_bodyL gb) rfl (by kernel_rfl) (by kernel_rfl) rfl ?_
  refine R_call rfl (ds := [rowD b, jarsD j]) (by kernel_rfl) (ent_play _ _) (by omega) rfl ?_
  exact .refl
/-- the loop is left -/
theorem z_again {a : Int} {b r : List Cmd} {j j0 : List Int} {wt : Wt} (ho : RowOk (.loop a b :: r)) (jo : JarsOk j) (h : jarM j a = some 0) : Reach 5 (againD (Cmd.loop a b).d (jarsD j)) ((⟨E6 (.loop a b) r j0, Bloop, 0⟩, "done") :: wt) (playD (rowD r) (jarsD j)) wt := by
  refine (p_again ho).trans (k := 1) (m := 4) ?_
  refine R_let (a_item jo h) rfl (by kernel_rfl) (by kernel_rfl) rfl ?_
  refine R_ifF (b := Ago) (c := Bend) again_eq rfl (by kernel_rfl) rfl ?_
  refine R_give (ss := []) (a := .of "jars") (d := jarsD j) (by kernel_rfl) (by kernel_rfl) rfl ?_
  refine R_goB (ss := [.call "done" "again" [.of "first", .of "jars"]]) (f := "play") (as := [.of "more", .of "done"]) rfl (ent_play (rowD r) (jarsD j)) (by kernel_rfl) rfl rfl ?_
  exact .refl
/-- behind the body -/
theorem b_again {a x : Int} {b : List Cmd} {j j' : List Int} {wt : Wt} : Reach 1 (putF_ ⟨A3 (.loop a b) j x, Ago, 1⟩ "then" (jarsD j')) wt (againD (Cmd.loop a b).d (jarsD j')) wt := by
  refine R_goB (ss := [.let_ "body" .field [.of "first", .is "body"], .call "then" "play" [.of "body", .of "jars"]]) (f := "again") (as := [.of "first", .of "then"]) rfl (ent_again (Cmd.loop a b).d (jarsD j')) (by kernel_rfl) rfl rfl ?_
  exact .refl
/-! ### when -/
def E7 (c : Cmd) (r : List Cmd) (j : List Int) : List (Str × D) := putS (E6 c r j) "three" (.num (if c.word = "when" then 1 else 0))
theorem p_three {c : Cmd} {r : List Cmd} {j : List Int} {wt : Wt} (ho : RowOk (c :: r)) (hw : ¬ c.word = "set") (hw2 : ¬ c.word = "loop") : Reach 11 (playD (rowD (c :: r)) (jarsD j)) wt ⟨E7 c r j, B3, 1⟩ wt := by
  refine (p_two ho hw).trans (k := 9) (m := 2) ?_
  refine R_ifF (b := Bloop) (c := B3) rfl (n := if c.word = "loop" then (1 : Int) else 0) (if_neg hw2) (by kernel_rfl) rfl ?_
  refine R_let (a_same (a := c.word) (b := "when")) rfl (by kernel_rfl) (by kernel_rfl) rfl ?_
  exact .refl
theorem p_when {a : Int} {b r : List Cmd} {j : List Int} {wt : Wt} (ho : RowOk (.when_ a b :: r)) : Reach 12 (playD (rowD (.when_ a b :: r)) (jarsD j)) wt ⟨E7 (.when_ a b) r j, B4, 0⟩ wt := by
  refine (p_three ho (by show ¬ ("when" : Str) = "set"; decide +kernel) (by show ¬ ("when" : Str) = "loop"; decide +kernel)).trans (k := 11) (m := 1) ?_
  refine R_ifT (b := B4) (c := Bfig) rfl (n := if ("when" : Str) = "when" then (1 : Int) else 0) (by decide +kernel) (by kernel_rfl) rfl ?_
  exact .refl
theorem f_when {a : Int} {b r : List Cmd} {j : List Int} {wt : Wt} (ho : RowOk (.when_ a b :: r)) (h : jarM j a = none) : Flt 12 (playD (rowD (.when_ a b :: r)) (jarsD j)) wt "place" :=
  (E_let (a_itemE h) rfl (by kernel_rfl) (by kernel_rfl) rfl).pre (k := 12) (m := 0) (p_when ho)
def E9 (c : Cmd) (r : List Cmd) (j : List Int) (x : Int) : List (Str × D) := putS (putS (E7 c r j) "here" (.num x)) "body" (rowD c.body)
theorem s_when {a x : Int} {b r : List Cmd} {j : List Int} {wt : Wt} (ho : RowOk (.when_ a b :: r)) (jo : JarsOk j) (h : jarM j a = some x) (hx : x ≠ 0) (hw : wt.length ≤ 9500) : Reach 16 (playD (rowD (.when_ a b :: r)) (jarsD j)) wt (playD (rowD b) (jarsD j)) ((⟨E9 (.when_ a b) r j x, Bthen, 1⟩, "then") :: wt) := by
  have gb : Good (rowD b) := good_row ho.body.2
  refine (p_when ho).trans (k := 12) (m := 4) ?_
  refine R_let (a_item jo h) rfl (by kernel_rfl) (by kernel_rfl) rfl ?_
  refine R_ifT (b := Bthen) (c := Bskip) rfl hx (by kernel_rfl) rfl ?_
  refine R_let (n := "body") (ds := [(Cmd.when_ a b).d, .word "body"]) (d := rowD b) (by rw [Cmd.d_ents]; exact a_field e_bodyW gb) rfl (by kernel_rfl) (by kernel_rfl) rfl ?_
  refine R_call rfl (ds := [rowD b, jarsD j]) (by kernel_rfl) (ent_play _ _) (by omega) rfl ?_
  exact .refl
theorem z_when {a : Int} {b r : List Cmd} {j : List Int} {wt : Wt} (ho : RowOk (.when_ a b :: r)) (jo : JarsOk j) (h : jarM j a = some 0) : Reach 15 (playD (rowD (.when_ a b :: r)) (jarsD j)) wt (playD (rowD r) (jarsD j)) wt := by
  refine (p_when ho).trans (k := 12) (m := 3) ?_
  refine R_let (a_item jo h) rfl (by kernel_rfl) (by kernel_rfl) rfl ?_
  refine R_ifF (b := Bthen) (c := Bskip) rfl rfl (by kernel_rfl) rfl ?_
  refine R_goB rfl (ent_play (rowD r) (jarsD j)) (by kernel_rfl) rfl rfl ?_
  exact .refl
theorem b_when {a x : Int} {b r : List Cmd} {j j' : List Int} {wt : Wt} : Reach 1 (putF_ ⟨E9 (.when_ a b) r j x, Bthen, 1⟩ "then" (jarsD j')) wt (playD (rowD r) (jarsD j')) wt := by
  refine R_goB (ss := [.let_ "body" .field [.of "first", .is "body"], .call "then" "play" [.of "body", .of "jars"]]) (f := "play") (as := [.of "more", .of "then"]) rfl (ent_play (rowD r) (jarsD j')) (by kernel_rfl) rfl rfl ?_
  exact .refl
/-! ### an empty row -/
def Z1 (j : List Int) : List (Str × D) := putS (bindF ["score", "jars"] [rowD [], jarsD j] []) "left" (.num (([] : List D).length : Int))
theorem p_empty {j : List Int} {wt : Wt} : Reach 2 (playD (rowD []) (jarsD j)) wt ⟨Z1 j, Bend, 0⟩ wt := by
  refine R_let (a_many (l := []) (by unfold D.parts partsL; decide)) rfl (by kernel_rfl) (by kernel_rfl) rfl ?_
  refine R_ifF (b := B1) (c := Bend) rfl (n := (([] : List D).length : Int)) rfl (by kernel_rfl) rfl ?_
  exact .refl
theorem g_empty {j : List Int} {wt : Wt} {fr : Frm} {n : Str} (hz : Nat.ble fr.th.length 500 = true) : Reach 3 (playD (rowD []) (jarsD j)) ((fr, n) :: wt) (putF_ fr n (jarsD j)) wt := by
  refine p_empty.trans (k := 2) (m := 1) ?_
  refine R_give (ss := []) (a := .of "jars") (d := jarsD j) (by kernel_rfl) hz rfl ?_
  exact .refl
theorem l_empty {j : List Int} : lastM ⟨Z1 j, Bend, 0⟩ [] = true ∧ lastV ⟨Z1 j, Bend, 0⟩ [] = some (jarsD j) := ⟨rfl, by kernel_rfl⟩
end Fk
set_option maxHeartbeats 4000000
/-! ## The plain law: figures -/
namespace Fk
open PySem PySem.Spec PyProof.Rows L2 TL
theorem op_words (k : AK) : ¬ k.o.word = ("set" : Str) ∧ ¬ k.o.word = ("loop" : Str) ∧ ¬ k.o.word = ("when" : Str) := by cases k <;> decide +kernel
def G0 (c : Cmd) (r : List Cmd) (j : List Int) : List (Str × D) := bindF ["first", "more", "jars"] [c.d, rowD r, jarsD j] []
def G3 (c : Cmd) (r : List Cmd) (j : List Int) (f : Int) : List (Str × D) := putS (putS (putS (G0 c r j) "do" (.word c.word)) "at" (.num c.at_)) "from" (.num f)
def G4 (c : Cmd) (r : List Cmd) (j : List Int) (f x : Int) : List (Str × D) := putS (G3 c r j f) "x" (.num x)
def G6 (c : Cmd) (r : List Cmd) (j : List Int) (f x y : Int) : List (Str × D) := putS (putS (G4 c r j f x) "y" (.num y)) "one" (.num (if c.word = "add" then 1 else 0))
theorem p_op {o : Bool} {k : AK} {f a : Int} {r : List Cmd} {j : List Int} {wt : Wt} (ho : RowOk (.op o k f a :: r)) : Reach 16 (playD (rowD (.op o k f a :: r)) (jarsD j)) wt ⟨G3 (.op o k f a) r j f, figureB, 3⟩ wt := by
  obtain ⟨w1, w2, w3⟩ := op_words k
  obtain ⟨gc, gat⟩ := good_cmd ho
  have nf : narrow f = true := by
    have h1 := ho.1
    unfold cmdsOk at h1
    have h1 := (Bool.and_eq_true_iff.mp h1).1
    unfold Cmd.ok at h1
    exact (Bool.and_eq_true_iff.mp h1).2
  refine (p_three ho w1 w2).trans (k := 11) (m := 5) ?_
  refine R_ifF (b := B4) (c := Bfig) rfl (n := if k.o.word = ("when" : Str) then (1 : Int) else 0) (if_neg w3) (by kernel_rfl) rfl ?_
  refine R_goB rfl (ent_fig (Cmd.op o k f a).d (rowD r) (jarsD j)) (by kernel_rfl) rfl rfl ?_
  refine R_let (n := "do") (ds := [(Cmd.op o k f a).d, .word "do"]) (d := .word (Cmd.op o k f a).word) (by rw [Cmd.d_ents]; exact a_field (Cmd.e_do _) good_word) rfl (by kernel_rfl) (by kernel_rfl) rfl ?_
  refine R_let (n := "at") (ds := [(Cmd.op o k f a).d, .word "at"]) (d := .num (Cmd.op o k f a).at_) (by rw [Cmd.d_ents]; exact a_field (Cmd.e_at _) (good_num gat)) rfl (by kernel_rfl) (by kernel_rfl) rfl ?_
  refine R_let (n := "from") (ds := [(Cmd.op o k f a).d, .word "from"]) (d := .num f) (by rw [Cmd.d_ents]; exact a_field e_from (good_num nf)) rfl (by kernel_rfl) (by kernel_rfl) rfl ?_
  exact .refl
theorem f_opX {o : Bool} {k : AK} {f a : Int} {r : List Cmd} {j : List Int} {wt : Wt} (ho : RowOk (.op o k f a :: r)) (h : jarM j a = none) : Flt 16 (playD (rowD (.op o k f a :: r)) (jarsD j)) wt "place" :=
  (E_let (a_itemE h) rfl (by kernel_rfl) (by kernel_rfl) rfl).pre (k := 16) (m := 0) (p_op ho)
theorem p_opX {o : Bool} {k : AK} {f a x : Int} {r : List Cmd} {j : List Int} {wt : Wt} (ho : RowOk (.op o k f a :: r)) (jo : JarsOk j) (h : jarM j a = some x) : Reach 17 (playD (rowD (.op o k f a :: r)) (jarsD j)) wt ⟨G4 (.op o k f a) r j f x, figureB, 4⟩ wt := by
  refine (p_op ho).trans (k := 16) (m := 1) ?_
  refine R_let (a_item jo h) rfl (by kernel_rfl) (by kernel_rfl) rfl ?_
  exact .refl
theorem f_opY {o : Bool} {k : AK} {f a x : Int} {r : List Cmd} {j : List Int} {wt : Wt} (ho : RowOk (.op o k f a :: r)) (jo : JarsOk j) (h : jarM j a = some x) (h2 : jarM j f = none) : Flt 17 (playD (rowD (.op o k f a :: r)) (jarsD j)) wt "place" :=
  (E_let (a_itemE h2) rfl (by kernel_rfl) (by kernel_rfl) rfl).pre (k := 17) (m := 0) (p_opX ho jo h)
theorem p_opY {o : Bool} {k : AK} {f a x y : Int} {r : List Cmd} {j : List Int} {wt : Wt} (ho : RowOk (.op o k f a :: r)) (jo : JarsOk j) (h : jarM j a = some x) (h2 : jarM j f = some y) : Reach 19 (playD (rowD (.op o k f a :: r)) (jarsD j)) wt ⟨G6 (.op o k f a) r j f x y, figureB, 6⟩ wt := by
  refine (p_opX ho jo h).trans (k := 17) (m := 2) ?_
  refine R_let (a_item jo h2) rfl (by kernel_rfl) (by kernel_rfl) rfl ?_
  refine R_let (a_same (a := k.o.word) (b := "add")) rfl (by kernel_rfl) (by kernel_rfl) rfl ?_
  exact .refl
def G7 (c : Cmd) (r : List Cmd) (j : List Int) (f x y : Int) : List (Str × D) := putS (G6 c r j f x y) "two" (.num (if c.word = "sub" then 1 else 0))
theorem jar_narrow {j : List Int} {i x : Int} (jo : JarsOk j) (h : jarM j i = some x) : narrow x = true := by
  obtain ⟨m, _, _, e⟩ := jarM_some h
  exact jo.1 x (List.mem_of_getElem? e)
/-- up to the figuring itself -/
theorem p_add {o : Bool} {f a x y : Int} {r : List Cmd} {j : List Int} {wt : Wt} (ho : RowOk (.op o .add f a :: r)) (jo : JarsOk j) (h : jarM j a = some x) (h2 : jarM j f = some y) : Reach 20 (playD (rowD (.op o .add f a :: r)) (jarsD j)) wt ⟨G6 (.op o .add f a) r j f x y, F1, 0⟩ wt := by
  refine (p_opY ho jo h h2).trans (k := 19) (m := 1) ?_
  refine R_ifT (b := F1) (c := F2) rfl (n := if ("add" : Str) = "add" then (1 : Int) else 0) (by decide +kernel) (by kernel_rfl) rfl ?_
  exact .refl
theorem p_sub {o : Bool} {f a x y : Int} {r : List Cmd} {j : List Int} {wt : Wt} (ho : RowOk (.op o .sub f a :: r)) (jo : JarsOk j) (h : jarM j a = some x) (h2 : jarM j f = some y) : Reach 22 (playD (rowD (.op o .sub f a :: r)) (jarsD j)) wt ⟨G7 (.op o .sub f a) r j f x y, F3, 0⟩ wt := by
  refine (p_opY ho jo h h2).trans (k := 19) (m := 3) ?_
  refine R_ifF (b := F1) (c := F2) rfl (n := if ("sub" : Str) = "add" then (1 : Int) else 0) (by decide +kernel) (by kernel_rfl) rfl ?_
  refine R_let (a_same (a := "sub") (b := "sub")) rfl (by kernel_rfl) (by kernel_rfl) rfl ?_
  refine R_ifT (b := F3) (c := F4) rfl (n := if ("sub" : Str) = "sub" then (1 : Int) else 0) (by decide +kernel) (by kernel_rfl) rfl ?_
  exact .refl
theorem p_mul {o : Bool} {f a x y : Int} {r : List Cmd} {j : List Int} {wt : Wt} (ho : RowOk (.op o .mul f a :: r)) (jo : JarsOk j) (h : jarM j a = some x) (h2 : jarM j f = some y) : Reach 22 (playD (rowD (.op o .mul f a :: r)) (jarsD j)) wt ⟨G7 (.op o .mul f a) r j f x y, F4, 0⟩ wt := by
  refine (p_opY ho jo h h2).trans (k := 19) (m := 3) ?_
  refine R_ifF (b := F1) (c := F2) rfl (n := if ("mul" : Str) = "add" then (1 : Int) else 0) (by decide +kernel) (by kernel_rfl) rfl ?_
  refine R_let (a_same (a := "mul") (b := "sub")) rfl (by kernel_rfl) (by kernel_rfl) rfl ?_
  refine R_ifF (b := F3) (c := F4) rfl (n := if ("mul" : Str) = "sub" then (1 : Int) else 0) (by decide +kernel) (by kernel_rfl) rfl ?_
  exact .refl
theorem ans_akT {k : AK} {x y : Int} (hx : narrow x = true) (hz : narrow (k.f x y) = true) : ansM k.o [.num x, .num y] = some (.ok (.num (k.f x y))) := by rw [ans_ak hx, if_pos hz]
theorem ans_akF {k : AK} {x y : Int} (hx : narrow x = true) (hz : ¬ narrow (k.f x y) = true) : ansM k.o [.num x, .num y] = some (.error "wide") := by rw [ans_ak hx, if_neg hz]
theorem f_op {o : Bool} {k : AK} {f a x y : Int} {r : List Cmd} {j : List Int} {wt : Wt} (ho : RowOk (.op o k f a :: r)) (jo : JarsOk j) (h : jarM j a = some x) (h2 : jarM j f = some y) (hz : ¬ narrow (k.f x y) = true) : ∃ m, 20 ≤ m ∧ m ≤ 22 ∧ Flt m (playD (rowD (.op o k f a :: r)) (jarsD j)) wt "wide" := by
  have hx := jar_narrow jo h
  cases k with
  | add => exact ⟨20, by decide, by decide, (E_let (ans_akF (k := .add) hx hz) rfl (by kernel_rfl) (by kernel_rfl) rfl).pre (k := 20) (m := 0) (p_add ho jo h h2)⟩
  | sub => exact ⟨22, by decide, by decide, (E_let (ans_akF (k := .sub) hx hz) rfl (by kernel_rfl) (by kernel_rfl) rfl).pre (k := 22) (m := 0) (p_sub ho jo h h2)⟩
  | mul => exact ⟨22, by decide, by decide, (E_let (ans_akF (k := .mul) hx hz) rfl (by kernel_rfl) (by kernel_rfl) rfl).pre (k := 22) (m := 0) (p_mul ho jo h h2)⟩
theorem s_op {o : Bool} {k : AK} {f a x y : Int} {r : List Cmd} {j : List Int} {wt : Wt} (ho : RowOk (.op o k f a :: r)) (jo : JarsOk j) (h : jarM j a = some x) (h2 : jarM j f = some y) (hz : narrow (k.f x y) = true) : ∃ m, 20 ≤ m ∧ m ≤ 25 ∧ Reach m (playD (rowD (.op o k f a :: r)) (jarsD j)) wt (playD (rowD r) (jarsD (j.set a.toNat (k.f x y)))) wt := by
  have hx := jar_narrow jo h
  cases k with
  | add =>
    refine ⟨23, by decide, by decide, (p_add ho jo h h2).trans (k := 20) (m := 3) ?_⟩
    refine R_let (ans_akT (k := .add) hx hz) rfl (by kernel_rfl) (by kernel_rfl) rfl ?_
    refine R_let (a_put jo h hz) rfl (by kernel_rfl) (by kernel_rfl) rfl ?_
    refine R_goB rfl (ent_play (rowD r) (jarsD (j.set a.toNat (AK.add.f x y)))) (by kernel_rfl) rfl rfl ?_
    exact .refl
  | sub =>
    refine ⟨25, by decide, by decide, (p_sub ho jo h h2).trans (k := 22) (m := 3) ?_⟩
    refine R_let (ans_akT (k := .sub) hx hz) rfl (by kernel_rfl) (by kernel_rfl) rfl ?_
    refine R_let (a_put jo h hz) rfl (by kernel_rfl) (by kernel_rfl) rfl ?_
    refine R_goB rfl (ent_play (rowD r) (jarsD (j.set a.toNat (AK.sub.f x y)))) (by kernel_rfl) rfl rfl ?_
    exact .refl
  | mul =>
    refine ⟨25, by decide, by decide, (p_mul ho jo h h2).trans (k := 22) (m := 3) ?_⟩
    refine R_let (ans_akT (k := .mul) hx hz) rfl (by kernel_rfl) (by kernel_rfl) rfl ?_
    refine R_let (a_put jo h hz) rfl (by kernel_rfl) (by kernel_rfl) rfl ?_
    refine R_goB rfl (ent_play (rowD r) (jarsD (j.set a.toNat (AK.mul.f x y)))) (by kernel_rfl) rfl rfl ?_
    exact .refl
end Fk
set_option maxHeartbeats 4000000
/-! ## The plain law: play and the run side by side -/
namespace Fk
open PySem PySem.Spec PyProof.Rows L2 TL
inductive Wsim : List (List Cmd) → Wt → Prop
  | nil : Wsim [] []
  | w {a x : Int} {b r : List Cmd} {j : List Int} {st : List (List Cmd)} {wt : Wt} : Wsim st wt → Wsim (r :: st) ((⟨E9 (.when_ a b) r j x, Bthen, 1⟩, "then") :: wt)
  | l {a x : Int} {b r : List Cmd} {j j0 : List Int} {st : List (List Cmd)} {wt : Wt} : Wsim st wt → Wsim ((.loop a b :: r) :: st) ((⟨A3 (.loop a b) j x, Ago, 1⟩, "then") :: (⟨E6 (.loop a b) r j0, Bloop, 0⟩, "done") :: wt)
inductive Sim : List (List Cmd) → List Int → Frm → Wt → Prop
  | p {row : List Cmd} {j : List Int} {st : List (List Cmd)} {wt : Wt} : Wsim st wt → Sim (row :: st) j (playD (rowD row) (jarsD j)) wt
  | a {a : Int} {b r : List Cmd} {j j0 : List Int} {st : List (List Cmd)} {wt : Wt} : Wsim st wt → Sim ((.loop a b :: r) :: st) j (againD (Cmd.loop a b).d (jarsD j)) ((⟨E6 (.loop a b) r j0, Bloop, 0⟩, "done") :: wt)
theorem Wsim.len {st : List (List Cmd)} {wt : Wt} (h : Wsim st wt) : wt.length ≤ 2 * st.length := by
  induction h with
  | nil => exact Nat.le_refl _
  | w _ ih => simp only [List.length_cons]; omega
  | l _ ih => simp only [List.length_cons]; omega
def Outc (b s L : Nat) (cur : Frm) (wt : Wt) : Res → Prop
  | .told d n => ∃ (k : Nat) (c' : Frm) (w' : Wt) (j' : List Int), Reach k cur wt c' w' ∧ lastM c' w' = true ∧ lastV c' w' = some d ∧ d = jarsD j' ∧ j'.length ≤ 50 ∧ s ≤ n ∧ n ≤ b ∧ n ≤ s + k ∧ k ≤ 29 * (n - s) + 4 * L
  | .fault wd n => ∃ k : Nat, Flt k cur wt wd ∧ (wd = "place" ∨ wd = "wide") ∧ s < n ∧ n ≤ b ∧ n ≤ s + k + 1 ∧ k ≤ 29 * (n - s) + 4 * L
  | .out n => n = b ∧ ∃ (k : Nat) (c' : Frm) (w' : Wt), Reach k cur wt c' w' ∧ b ≤ s + k
theorem Outc.pre {b s s1 L L1 m : Nat} {cur c1 : Frm} {wt w1 : Wt} {r : Res} (h : Reach m cur wt c1 w1) (o : Outc b s1 L1 c1 w1 r) (h1 : s ≤ s1) (h2 : s1 ≤ s + m) (h3 : m + 4 * L1 ≤ 29 * (s1 - s) + 4 * L) : Outc b s L cur wt r := by
  cases r with
  | told d n =>
    obtain ⟨k, c', w', j', o1, o2, o3, o4, o5, o6, o7, o8, o9⟩ := o
    exact ⟨m + k, c', w', j', h.trans o1, o2, o3, o4, o5, by omega, o7, by omega, by omega⟩
  | fault wd n =>
    obtain ⟨k, o1, o2, o3, o4, o5, o6⟩ := o
    exact ⟨m + k, o1.pre h, o2, by omega, o4, by omega, by omega⟩
  | out n =>
    obtain ⟨o1, k, c', w', o2, o3⟩ := o
    exact ⟨o1, m + k, c', w', h.trans o2, by omega⟩
theorem playM_step {b f s : Nat} {c : Cmd} {r : List Cmd} {st : List (List Cmd)} {j : List Int} : playM b (f + 1) ((c :: r) :: st) j s = if s = b then some (.out b) else (match behindM c j with
    | .error w => some (Res.fault w (s + 1))
    | .ok j' => playM b f ((aheadM c r ((jarM j' c.at_).getD 0)).reverse ++ st) j' (s + 1)) := rfl
theorem sim (b : Nat) (hb : b ≤ 1000) : ∀ (f : Nat) (st : List (List Cmd)) (j : List Int) (s : Nat) (r : Res) (cur : Frm) (wt : Wt), Sim st j cur wt → (∀ row ∈ st, RowOk row) → JarsOk j → s ≤ b → st.length ≤ s + 1 → playM b f st j s = some r → Outc b s st.length cur wt r := by
  intro f
  induction f with
  | zero =>
    intro st j s r cur wt hs hok jo hsb hsl hp
    cases hs <;> cases hp
  | succ f ih =>
    intro st j s r cur wt hs hok jo hsb hsl hp
    -- a loop that comes again
    have loop : ∀ (a : Int) (bo r1 : List Cmd) (j0 : List Int) (st1 : List (List Cmd)) (wt1 : Wt), st = (.loop a bo :: r1) :: st1 → Wsim st1 wt1 → s ≠ b → ∀ (m : Nat), m ≤ 15 → Reach m cur wt (againD (Cmd.loop a bo).d (jarsD j)) ((⟨E6 (.loop a bo) r1 j0, Bloop, 0⟩, "done") :: wt1) → Outc b s st.length cur wt r := by
      rintro a bo r1 j0 st1 wt1 rfl hw1 hne m hm hr
      have ho := hok _ List.mem_cons_self
      have hst1 : ∀ row ∈ st1, RowOk row := fun row h => hok row (List.mem_cons_of_mem _ h)
      have hwl := hw1.len
      rw [List.length_cons] at hsl ⊢
      rw [playM_step, if_neg hne] at hp
      cases ej : jarM j a with
      | none =>
        have eb : behindM (.loop a bo) j = .error "place" := by
          unfold behindM
          rw [show (Cmd.loop a bo).at_ = a from rfl, ej]
        rw [eb] at hp
        cases hp
        exact ⟨m + 1, (f_again ho ej).pre hr, .inl rfl, by omega, by omega, by omega, by omega⟩
      | some x =>
        have eb : behindM (.loop a bo) j = .ok j := by
          unfold behindM
          rw [show (Cmd.loop a bo).at_ = a from rfl, ej]
        rw [eb] at hp
        have hp2 : playM b f ((aheadM (.loop a bo) r1 ((jarM j a).getD 0)).reverse ++ st1) j (s + 1) = some r := hp
        rw [ej, ahead_loop] at hp2
        by_cases hx : x = 0
        · subst hx
          rw [if_pos (show (some (0 : Int)).getD 0 = 0 from rfl)] at hp2
          have o := ih (r1 :: st1) j (s + 1) r _ _ (.p hw1) (fun row h => by
            rcases List.mem_cons.mp h with e | h
            · rw [e]; exact ho.tail
            · exact hst1 row h) jo (by omega) (by rw [List.length_cons]; omega) hp2
          exact o.pre (hr.trans (z_again ho jo ej)) (by omega) (by omega) (by rw [List.length_cons]; omega)
        · rw [if_neg (show ¬ (some x).getD 0 = 0 from hx)] at hp2
          have o := ih (bo :: (.loop a bo :: r1) :: st1) j (s + 1) r _ _ (.p (.l (x := x) (j := j) (j0 := j0) hw1)) (fun row h => by
            rcases List.mem_cons.mp h with e | h
            · rw [e]; exact ho.body
            · rcases List.mem_cons.mp h with e | h
              · rw [e]; exact ho
              · exact hst1 row h) jo (by omega) (by rw [List.length_cons, List.length_cons]; omega) hp2
          refine o.pre (hr.trans (s_again ho jo ej hx (by rw [List.length_cons]; omega))) (by omega) (by omega) (by rw [List.length_cons, List.length_cons]; omega)
    cases hs with
    | @a a bo r1 _ j0 st1 wt1 hw1 =>
      by_cases hne : s = b
      · rw [playM_step, if_pos hne] at hp
        cases hp
        exact ⟨rfl, 0, _, _, .refl, by omega⟩
      · exact loop a bo r1 j0 st1 wt1 rfl hw1 hne 0 (by decide) .refl
    | @p row _ st1 _ hw1 =>
      have ho := hok row List.mem_cons_self
      have hst1 : ∀ row ∈ st1, RowOk row := fun row h => hok row (List.mem_cons_of_mem _ h)
      have hwl := hw1.len
      cases row with
      | nil =>
        have hp2 : playM b f st1 j s = some r := hp
        rw [List.length_cons] at hsl ⊢
        cases hw1 with
        | nil =>
          have e : playM b f [] j s = some (.told (jarsD j) s) := by cases f <;> rfl
          rw [e] at hp2
          cases hp2
          exact ⟨2, _, _, j, p_empty, l_empty.1, l_empty.2, rfl, jo.2, Nat.le_refl _, hsb, by omega, by omega⟩
        | @w a x bo r1 j1 st2 wt2 hw2 =>
          have o := ih (r1 :: st2) j s r _ _ (.p hw2) hst1 jo hsb (by omega) hp2
          exact o.pre ((g_empty (by kernel_rfl)).trans b_when) (Nat.le_refl _) (by omega) (by omega)
        | @l a x bo r1 j1 j0 st2 wt2 hw2 =>
          have o := ih ((.loop a bo :: r1) :: st2) j s r _ _ (.a (j0 := j0) hw2) hst1 jo hsb (by omega) hp2
          exact o.pre ((g_empty (by kernel_rfl)).trans b_again) (Nat.le_refl _) (by omega) (by omega)
      | cons c r1 =>
        by_cases hne : s = b
        · rw [playM_step, if_pos hne] at hp
          cases hp
          exact ⟨rfl, 0, _, _, .refl, by omega⟩
        have rest : ∀ (j' : List Int) (m : Nat), JarsOk j' → playM b f (r1 :: st1) j' (s + 1) = some r → 1 ≤ m → m ≤ 25 → Reach m (playD (rowD (c :: r1)) (jarsD j)) wt (playD (rowD r1) (jarsD j')) wt → Outc b s (((c :: r1) :: st1).length) (playD (rowD (c :: r1)) (jarsD j)) wt r := by
          intro j' m jo' hp2 hm1 hm2 hr
          rw [List.length_cons] at hsl
          have o := ih (r1 :: st1) j' (s + 1) r _ _ (.p hw1) (fun row h => by
            rcases List.mem_cons.mp h with e | h
            · rw [e]; exact ho.tail
            · exact hst1 row h) jo' (by omega) (by rw [List.length_cons]; omega) hp2
          exact o.pre hr (by omega) (by omega) (by rw [List.length_cons, List.length_cons]; omega)
        cases c with
        | loop a bo => exact loop a bo r1 j st1 wt rfl hw1 hne 11 (by decide) (p_loop ho (by rw [List.length_cons] at hsl; omega))
        | set a n =>
          rw [playM_step, if_neg hne] at hp
          cases ej : jarM j a with
          | none =>
            have eb : behindM (.set a n) j = .error "place" := by
              unfold behindM
              rw [show (Cmd.set a n).at_ = a from rfl, ej]
            rw [eb] at hp
            cases hp
            exact ⟨9, f_set ho jo ej, .inl rfl, by omega, by omega, by omega, by omega⟩
          | some x =>
            have eb : behindM (.set a n) j = .ok (j.set a.toNat n) := by
              unfold behindM
              rw [show (Cmd.set a n).at_ = a from rfl, ej]
            have jo' := (behind_ok ho jo eb).1
            rw [eb] at hp
            exact rest _ 11 jo' hp (by decide) (by decide) (s_set ho jo ej)
        | when_ a bo =>
          rw [playM_step, if_neg hne] at hp
          cases ej : jarM j a with
          | none =>
            have eb : behindM (.when_ a bo) j = .error "place" := by
              unfold behindM
              rw [show (Cmd.when_ a bo).at_ = a from rfl, ej]
            rw [eb] at hp
            cases hp
            exact ⟨12, f_when ho ej, .inl rfl, by omega, by omega, by omega, by omega⟩
          | some x =>
            have eb : behindM (.when_ a bo) j = .ok j := by
              unfold behindM
              rw [show (Cmd.when_ a bo).at_ = a from rfl, ej]
            rw [eb] at hp
            have hp2 : playM b f ((aheadM (.when_ a bo) r1 ((jarM j a).getD 0)).reverse ++ st1) j (s + 1) = some r := hp
            rw [ej, ahead_when] at hp2
            by_cases hx : x = 0
            · subst hx
              rw [if_pos (show (some (0 : Int)).getD 0 = 0 from rfl)] at hp2
              exact rest j 15 jo hp2 (by decide) (by decide) (z_when ho jo ej)
            · rw [if_neg (show ¬ (some x).getD 0 = 0 from hx)] at hp2
              rw [List.length_cons] at hsl ⊢
              have o := ih (bo :: r1 :: st1) j (s + 1) r _ _ (.p (.w (a := a) (x := x) (b := bo) (j := j) hw1)) (fun row h => by
                rcases List.mem_cons.mp h with e | h
                · rw [e]; exact ho.body
                · rcases List.mem_cons.mp h with e | h
                  · rw [e]; exact ho.tail
                  · exact hst1 row h) jo (by omega) (by rw [List.length_cons, List.length_cons]; omega) hp2
              exact o.pre (s_when ho jo ej hx (by omega)) (by omega) (by omega) (by rw [List.length_cons, List.length_cons]; omega)
        | op o k f1 a =>
          rw [playM_step, if_neg hne] at hp
          cases ej : jarM j a with
          | none =>
            have eb : behindM (.op o k f1 a) j = .error "place" := by
              unfold behindM
              rw [show (Cmd.op o k f1 a).at_ = a from rfl, ej]
            rw [eb] at hp
            cases hp
            exact ⟨16, f_opX ho ej, .inl rfl, by omega, by omega, by omega, by omega⟩
          | some x =>
            cases ey : jarM j f1 with
            | none =>
              have eb : behindM (.op o k f1 a) j = .error "place" := behind_op0 ej ey
              rw [eb] at hp
              cases hp
              exact ⟨17, f_opY ho jo ej ey, .inl rfl, by omega, by omega, by omega, by omega⟩
            | some y =>
              have eb := behind_op1 (o := o) (k := k) ej ey
              by_cases hz : narrow (k.f x y) = true
              · rw [if_pos hz] at eb
                have jo' := (behind_ok ho jo eb).1
                rw [eb] at hp
                obtain ⟨m, h1, h2, hr⟩ := s_op (wt := wt) ho jo ej ey hz
                exact rest _ m jo' hp (by omega) h2 hr
              · rw [if_neg hz] at eb
                rw [eb] at hp
                cases hp
                obtain ⟨m, h1, h2, hr⟩ := f_op (wt := wt) ho jo ej ey hz
                exact ⟨m, hr, .inr rfl, by omega, by omega, by omega, by omega⟩
/-- the plain law -/
theorem plain : Plain := by
  intro row j b f r fr ho jo hj hb hp hfr
  have e : funM P0 "main" = some ⟨"main", ["score", "jars"], mainB⟩ := by decide +kernel
  have hfr2 : fr = ⟨bindF ["score", "jars"] [rowD row, jarsD j] [], mainB, 0⟩ := by
    unfold enterM at hfr
    rw [e] at hfr
    have h2 : (if (["score", "jars"] : List Str).length = [rowD row, jarsD j].length ∧ [rowD row, jarsD j].length ≤ 100 then some (⟨bindF ["score", "jars"] [rowD row, jarsD j] [], mainB, 0⟩ : Frm) else none) = some fr := hfr
    rw [if_pos ⟨rfl, by show 2 ≤ 100; decide⟩] at h2
    exact (Option.some.inj h2).symm
  subst hfr2
  have start : Reach 1 ⟨bindF ["score", "jars"] [rowD row, jarsD j] [], mainB, 0⟩ [] (playD (rowD row) (jarsD j)) [] := by
    refine R_goB (ss := []) (f := "play") (as := [.of "score", .of "jars"]) rfl (ent_play (rowD row) (jarsD j)) (by kernel_rfl) rfl rfl ?_
    exact .refl
  have o := sim b (by omega) f [row] j 0 r _ _ (.p .nil) (fun x hx => by
    rw [List.mem_singleton] at hx
    rw [hx]; exact ho) jo (Nat.zero_le _) (by show 1 ≤ 0 + 1; decide) hp
  cases r with
  | out n =>
    obtain ⟨rfl, k, c', w', h, hk⟩ := o
    exact ⟨rfl, (start.trans h).out n n 0 (by omega)⟩
  | told d n =>
    obtain ⟨k, c', w', j', h, hl, hv, hd, hj', _, hn, h1, h2⟩ := o
    have h2' : k ≤ 29 * n + 4 := by simpa using h2
    refine ⟨j', 1 + k + 1, hd, hj', hn, ?_, by omega, by omega⟩
    have hr := (start.trans h).run (60 * n + 60) (60 * n + 60 - (1 + k)) 0
    rw [Nat.sub_add_cancel (by omega)] at hr
    rw [hr]
    obtain ⟨q, hq⟩ : ∃ q, 60 * n + 60 - (1 + k) = q + 1 := ⟨60 * n + 60 - (1 + k) - 1, by omega⟩
    rw [hq, runM_succ, if_pos hl, hv, Nat.zero_add]
    rfl
  | fault wd n =>
    obtain ⟨k, ⟨c', w', h, hl, hf⟩, hwd, _, hn, h1, h2⟩ := o
    have h2' : k ≤ 29 * n + 4 := by simpa using h2
    refine ⟨1 + k + 1, hwd, hn, ?_, by omega, by omega⟩
    have hr := (start.trans h).run (60 * n + 60) (60 * n + 60 - (1 + k)) 0
    rw [Nat.sub_add_cancel (by omega)] at hr
    rw [hr]
    obtain ⟨q, hq⟩ : ∃ q, 60 * n + 60 - (1 + k) = q + 1 := ⟨60 * n + 60 - (1 + k) - 1, by omega⟩
    rw [hq, runM_succ, hl, if_neg Bool.false_ne_true, hf, Nat.zero_add]
end Fk
set_option maxHeartbeats 4000000
/-! ## The facts, the end -/
namespace Fk
open PySem PySem.Spec PyProof.Rows L2 TL
section
variable {K : PySem.W.Frag} {h : Heap} {mg : Str → Option Value}
theorem SaysX.all (c : SaysX K) : (fa.all fun f => f.ok K) = true ∧ (fn.all fun d => d.ok K) = true ∧ exK K = true ∧ (fn.map fun d => He.fnW K d.at_) = fn.map He.DefD.val := by
  have e : obsX K = He.valD fn := c
  unfold obsX He.valD at e
  obtain ⟨e1, e2⟩ := Prod.mk.inj e
  obtain ⟨h1, h2⟩ := He.ba e1
  obtain ⟨h3, h4⟩ := He.ba h2
  exact ⟨h1, h3, h4, e2⟩
theorem SaysX.fact (c : SaysX K) (i : Nat) {f : He.Fa} (e : fa[i]? = some f := by rfl) : f.ok K = true := List.all_eq_true.mp c.all.1 f (List.mem_of_getElem? e)
theorem SaysX.def_ (c : SaysX K) (i : Nat) {d : He.DefD} (e : fn[i]? = some d := by rfl) : ∃ fd, FunD K d.name d.qual d.params d.body d.scope (d.dvs K) (d.kws K) (He.fAd K d.at_) fd := by
  have h1 := List.all_eq_true.mp c.all.2.1 d (List.mem_of_getElem? e)
  have h2 := congrArg (fun l => l[i]?) c.all.2.2.2
  simp only [List.getElem?_map, e, Option.map_some] at h2
  exact He.DefD.funD (Option.some.inj h2) h1
theorem fnP (X : K.In h) (G : h.Ns mainGlobals mg) (c : SaysX K) (i j : Nat) {x nm : Str} {st : Stmt} (e : fn[i]? = some (df (x, none) nm nm st) := by rfl) (e2 : fa[j]? = some (.glo x) := by rfl) : FnP K mg x nm st :=
  let ⟨fd, F⟩ := c.def_ i e
  ⟨_, fd, He.glo_ok X G (c.fact j e2), F⟩
theorem meP (c : SaysX K) (i j : Nat) {x m nm q : Str} {st : Stmt} (e : fn[i]? = some (df (x, some m) nm q st) := by rfl) (e2 : fa[j]? = some (.meth x m) := by rfl) : MeP K (He.ga K x) m nm q st :=
  let ⟨fd, F⟩ := c.def_ i e
  ⟨_, fd, He.meth_ok (c.fact j e2), F⟩
theorem mkCal {P : Program} {w : World} {base : Heap} {CX : CXT} {k : Nat} {x : Str} {ps : List Str} {sp : Sp} (X : K.In h) (G : h.Ns mainGlobals mg) (c : SaysX K) (m : MeCal P w K mg base CX k (He.ga K x) "__init__" ps sp) (i j : Nat) (e : fa[i]? = some (.glo x) := by rfl) (e2 : fa[j]? = some (.mkr x) := by rfl) : MkCal P w K mg base CX k x (He.ga K x) ps sp := by
  obtain ⟨f, fd, F, M, b⟩ := m
  have M2 := He.mkr_ok (c.fact j e2)
  have e3 := Option.some.inj (Option.some.inj (M.at_.symm.trans M2.init))
  cases e3
  exact ⟨_, fd, F, He.glo_ok X G (c.fact i e), M2, b⟩
theorem opIn {P : Program} {w : World} {base : Heap} {x : Str} (X : K.In h) (G : h.Ns mainGlobals mg) (c : SaysX K) (m : MeCal P w K mg base CX0 1 (He.ga K "Op") "__init__" ["self", "word", "kinds"] (spOpInit K)) (hc : clsFB K (He.ga K x) "__init__" (.ref (He.ma K (He.ga K "Op") "__init__")) = true) (i j : Nat) (e : fa[i]? = some (.glo x) := by rfl) (e2 : fa[j]? = some (.meth "Op" "__init__") := by rfl) :
    ∃ fd, OpIn P w K mg base x (He.ga K x) (He.ma K (He.ga K "Op") "__init__") fd := by
  obtain ⟨f, fd, F, M, b⟩ := m
  have M2 := He.meth_ok (c.fact j e2)
  have e3 := Option.some.inj (Option.some.inj (M.at_.symm.trans M2.at_))
  cases e3
  exact ⟨fd, He.glo_ok X G (c.fact i e), clsFB_ok hc, M2.kp, F, b⟩
theorem fx (X : K.In h) (G : h.Ns mainGlobals mg) (c : SaysX K) : Fx mg := ⟨He.free_ok X G (c.fact 76), He.free_ok X G (c.fact 77), He.free_ok X G (c.fact 78), He.free_ok X G (c.fact 79), He.free_ok X G (c.fact 80), He.free_ok X G (c.fact 81), He.free_ok X G (c.fact 82), He.free_ok X G (c.fact 83), He.free_ok X G (c.fact 84), He.free_ok X G (c.fact 85), He.free_ok X G (c.fact 86), He.free_ok X G (c.fact 87), He.int_ok X G (c.fact 88), He.int_ok X G (c.fact 89), He.str_ok X G (c.fact 96), He.str_ok X G (c.fact 97), He.int_ok X G (c.fact 90), He.int_ok X G (c.fact 91), He.int_ok X G (c.fact 92), He.int_ok X G (c.fact 93), He.int_ok X G (c.fact 94), He.int_ok X G (c.fact 95)⟩
theorem sigC (c : SaysX K) : SigC K (He.ga K "Signs") := ⟨He.cls_ok (c.fact 118), He.noat_ok (c.fact 154), He.noat_ok (c.fact 155), He.noat_ok (c.fact 156)⟩
theorem rowC (c : SaysX K) : RowC K (He.ga K "Rows") := ⟨He.cls_ok (c.fact 120), He.noat_ok (c.fact 157), He.noat_ok (c.fact 158)⟩
theorem plcC (c : SaysX K) : PlcC K (He.ga K "Place") := ⟨He.cls_ok (c.fact 122), He.noat_ok (c.fact 159), He.noat_ok (c.fact 160), He.noat_ok (c.fact 161)⟩
theorem opC (c : SaysX K) : ∀ o : OpK, OpC K (He.ga K o.cls)
  | .add => ⟨He.cls_ok (c.fact 98), He.noat_ok (c.fact 124), He.noat_ok (c.fact 125), He.noat_ok (c.fact 126)⟩
  | .sub => ⟨He.cls_ok (c.fact 100), He.noat_ok (c.fact 127), He.noat_ok (c.fact 128), He.noat_ok (c.fact 129)⟩
  | .mul => ⟨He.cls_ok (c.fact 102), He.noat_ok (c.fact 130), He.noat_ok (c.fact 131), He.noat_ok (c.fact 132)⟩
  | .same => ⟨He.cls_ok (c.fact 104), He.noat_ok (c.fact 133), He.noat_ok (c.fact 134), He.noat_ok (c.fact 135)⟩
  | .head => ⟨He.cls_ok (c.fact 106), He.noat_ok (c.fact 136), He.noat_ok (c.fact 137), He.noat_ok (c.fact 138)⟩
  | .rest => ⟨He.cls_ok (c.fact 108), He.noat_ok (c.fact 139), He.noat_ok (c.fact 140), He.noat_ok (c.fact 141)⟩
  | .many => ⟨He.cls_ok (c.fact 110), He.noat_ok (c.fact 142), He.noat_ok (c.fact 143), He.noat_ok (c.fact 144)⟩
  | .item => ⟨He.cls_ok (c.fact 112), He.noat_ok (c.fact 145), He.noat_ok (c.fact 146), He.noat_ok (c.fact 147)⟩
  | .put => ⟨He.cls_ok (c.fact 114), He.noat_ok (c.fact 148), He.noat_ok (c.fact 149), He.noat_ok (c.fact 150)⟩
  | .field => ⟨He.cls_ok (c.fact 116), He.noat_ok (c.fact 151), He.noat_ok (c.fact 152), He.noat_ok (c.fact 153)⟩
structure ExP (K : PySem.W.Frag) : Prop where
  oex : oexB K (He.ga K "Fault") = true
  sa : PySem.W.findIn K (.ref (He.ga K "Fault")) "__setattr__" = some (some (.builtin "object.__setattr__"))
  exC : PySem.W.subIn K (.ref (He.ga K "Fault")) (.type "BaseException") = some true
  tyC : PySem.W.typeIn K (.ref (He.ga K "Fault")) = some (.type "type")
  kC : PySem.W.keepIn K (.ref (He.ga K "Fault")) = true
  iC : PySem.W.findIn K (.ref (He.ga K "Fault")) "__init__" = some (some (.ref (He.ma K (He.ga K "Fault") "__init__")))
  tI : PySem.W.typeIn K (.ref (He.ma K (He.ga K "Fault") "__init__")) = some (.type "function")
  xf : xfB K (He.ga K "Fault") = true
  fe : clsFB K (He.ga K "ForeError") "__init__" (.builtin "ValueError.__init__") = true
  op : clsFB K (He.ga K "Op") "__init__" (.ref (He.ma K (He.ga K "Op") "__init__")) = true
  su : clsFB K (He.ga K "Sure") "__init__" (.ref (He.ma K (He.ga K "Op") "__init__")) = true
  fl : clsFB K (He.ga K "Falling") "__init__" (.ref (He.ma K (He.ga K "Op") "__init__")) = true
theorem exP (c : SaysX K) : ExP K := by
  have e := c.all.2.2.1
  unfold exK at e
  obtain ⟨h1, e⟩ := He.ba e
  obtain ⟨h2, e⟩ := He.ba e
  obtain ⟨h3, e⟩ := He.ba e
  obtain ⟨h4, e⟩ := He.ba e
  obtain ⟨h5, e⟩ := He.ba e
  obtain ⟨h6, e⟩ := He.ba e
  obtain ⟨h7, e⟩ := He.ba e
  obtain ⟨h8, e⟩ := He.ba e
  obtain ⟨h9, e⟩ := He.ba e
  obtain ⟨h10, e⟩ := He.ba e
  obtain ⟨h11, e⟩ := He.ba e
  exact ⟨h1, He.eqO_ok h2, of_decide_eq_true h3, of_decide_eq_true h4, h5, He.eqO_ok h6, of_decide_eq_true h7, h8, h9, h10, h11, e⟩
/-- the law keeps its promise -/
theorem facts {P : Program} {w : World} {base : Heap} {fL : Addr} {fdL : FuncData} (X : K.In h) (G : h.Ns mainGlobals mg) (c : SaysX K) (FL : FunD K "law" "law" (defArgs (top 115)) (defBody (top 115)) (defScope (top 115)) [] [] fL fdL) : FnOk P w K mg base CX0 107 fL fdL ["_law_script"] (spLaw K) := by
  have x := fx X G c
  have ex := exP c
  have T1 := sigC c
  have T2 := rowC c
  have T3 := plcC c
  have oe : OexC K (He.ga K "Fault") := ⟨oexB_ok ex.oex, ex.sa, ex.exC, ex.tyC, ex.kC⟩
  have gF : mg "Fault" = some (.ref (He.ga K "Fault")) := He.glo_ok X G (c.fact 71)
  have noW : PySem.W.findIn K (.ref (He.ga K "Fault")) "word" = some none := He.noat_ok (c.fact 162)
  obtain ⟨fdF, FF⟩ := c.def_ 58 rfl
  have c_Fault : FltCal P w K mg base (He.ga K "Fault") := ok_fault (CE := He.ga K "ForeError") ⟨oe, gF, ex.iC, ex.tI, noW⟩ FF (He.glo_ok X G (c.fact 72)) (clsFB_ok ex.fe)
  have TF : FltX K mg (He.ga K "Fault") := ⟨gF, He.exm_ok (c.fact 202), xfB_ok ex.xf, noW⟩
  have m_op := ok_op_init (P := P) (w := w) (base := base) x (meP c 59 163)
  obtain ⟨fdOp, BOp⟩ := opIn X G c (x := "Op") m_op ex.op 73 163
  obtain ⟨fdSure, BSure⟩ := opIn X G c (x := "Sure") m_op ex.su 74 163
  obtain ⟨fdFalling, BFalling⟩ := opIn X G c (x := "Falling") m_op ex.fl 75 163
  have O : OpsP P w K mg base (fun o => He.ga K o.cls) := by
    refine ⟨fun o => opC c o, fun o => ?_⟩
    cases o with
    | add => exact mkCal X G c (ok_init_Add (meP c 60 164) BOp) 58 99
    | sub => exact mkCal X G c (ok_init_Sub (meP c 63 167) BOp) 59 101
    | mul => exact mkCal X G c (ok_init_Mul (meP c 66 170) BOp) 60 103
    | same => exact mkCal X G c (ok_init_Same (meP c 69 173) BSure) 61 105
    | head => exact mkCal X G c (ok_init_Head (meP c 72 176) BFalling) 62 107
    | rest => exact mkCal X G c (ok_init_Rest (meP c 75 179) BFalling) 63 109
    | many => exact mkCal X G c (ok_init_Many (meP c 78 182) BOp) 64 111
    | item => exact mkCal X G c (ok_init_Item (meP c 81 185) BFalling) 65 113
    | put => exact mkCal X G c (ok_init_Put (meP c 84 188) BOp) 66 115
    | field => exact mkCal X G c (ok_init_Field (meP c 87 191) BFalling) 67 117
  have c_is_number := ok_is_number (P := P) (w := w) (base := base) x (fnP X G c 4 4)
  have c_is_narrow := ok_is_narrow (P := P) (w := w) (base := base) x (fnP X G c 5 5)
  have c_kind_of := ok_kind_of (P := P) (w := w) (base := base) x (fnP X G c 8 8)
  have c_parts_within := ok_parts_within (P := P) (w := w) (base := base) x (fnP X G c 6 6)
  have c_parts := ok_parts x (fnP X G c 7 7) c_parts_within
  have c_ask_place := ok_ask_place x c_Fault (fnP X G c 9 9)
  have t_Add := ok_told_add (P := P) (w := w) (mg := mg) (base := base) (CF := He.ga K "Fault")  (meP c 61 165)
  have t_Sub := ok_told_sub (P := P) (w := w) (mg := mg) (base := base) (CF := He.ga K "Fault")  (meP c 64 168)
  have t_Mul := ok_told_mul (P := P) (w := w) (mg := mg) (base := base) (CF := He.ga K "Fault")  (meP c 67 171)
  have t_Same := ok_told_same (P := P) (w := w) (mg := mg) (base := base) (CF := He.ga K "Fault") x (meP c 70 174)
  have t_Head := ok_told_head (P := P) (w := w) (mg := mg) (base := base) (CF := He.ga K "Fault") x c_Fault (meP c 73 177)
  have t_Rest := ok_told_rest (P := P) (w := w) (mg := mg) (base := base) (CF := He.ga K "Fault") x c_Fault (meP c 76 180)
  have t_Many := ok_told_many (P := P) (w := w) (mg := mg) (base := base) (CF := He.ga K "Fault") x (meP c 79 183)
  have t_Item := ok_told_item (P := P) (w := w) (mg := mg) (base := base) (CF := He.ga K "Fault") x c_ask_place (meP c 82 186)
  have t_Put := ok_told_put (P := P) (w := w) (mg := mg) (base := base) (CF := He.ga K "Fault") x c_ask_place (meP c 85 189)
  have t_Field := ok_told_field (P := P) (w := w) (mg := mg) (base := base) (CF := He.ga K "Fault") x c_Fault (meP c 88 192)
  have ma : ∀ o : OpK, MeCal P w K mg base (L2.CX P w) 103 (He.ga K o.cls) "answer" ["self", "values"] (spAnswer K (He.ga K "Fault") (fun o => He.ga K o.cls) o) := by
    intro o
    cases o with
    | add => exact ok_answer (o := .add) x O c_Fault c_kind_of c_is_number c_is_narrow (c_parts 100) t_Add (meP c 62 166)
    | sub => exact ok_answer (o := .sub) x O c_Fault c_kind_of c_is_number c_is_narrow (c_parts 100) t_Sub (meP c 65 169)
    | mul => exact ok_answer (o := .mul) x O c_Fault c_kind_of c_is_number c_is_narrow (c_parts 100) t_Mul (meP c 68 172)
    | same => exact ok_answer (o := .same) x O c_Fault c_kind_of c_is_number c_is_narrow (c_parts 100) t_Same (meP c 71 175)
    | head => exact ok_answer (o := .head) x O c_Fault c_kind_of c_is_number c_is_narrow (c_parts 100) t_Head (meP c 74 178)
    | rest => exact ok_answer (o := .rest) x O c_Fault c_kind_of c_is_number c_is_narrow (c_parts 100) t_Rest (meP c 77 181)
    | many => exact ok_answer (o := .many) x O c_Fault c_kind_of c_is_number c_is_narrow (c_parts 100) t_Many (meP c 80 184)
    | item => exact ok_answer (o := .item) x O c_Fault c_kind_of c_is_number c_is_narrow (c_parts 100) t_Item (meP c 83 187)
    | put => exact ok_answer (o := .put) x O c_Fault c_kind_of c_is_number c_is_narrow (c_parts 100) t_Put (meP c 86 190)
    | field => exact ok_answer (o := .field) x O c_Fault c_kind_of c_is_number c_is_narrow (c_parts 100) t_Field (meP c 89 193)
  have c_op_of := ok_op_of x O (fnP X G c 10 10)
  have c_made_of := ok_made_of (P := P) (w := w) (base := base) x (fnP X G c 15 15)
  have c_is_word := ok_is_word x c_made_of (fnP X G c 16 16)
  have c_is_name := ok_is_name x c_made_of (fnP X G c 17 17)
  have m_sig := ok_sig_init (P := P) (w := w) (base := base) x T1 (meP c 90 194)
  have m_take := ok_take (P := P) (w := w) (base := base) x T1 (meP c 91 195)
  have m_piece := ok_piece (P := P) (w := w) (base := base) x T1 (meP c 92 196)
  have m_next_word := ok_next_word x T1 m_piece c_is_word (meP c 93 197)
  have c_Signs := mkCal X G c m_sig 68 119
  have c_value_at_reading := ok_value_at_reading x T1 m_take m_next_word (fnP X G c 18 18)
  have c_read_value := ok_read_value x T1 c_Signs c_value_at_reading (fnP X G c 19 19)
  have m_rows := ok_rows_init (P := P) (w := w) (base := base) x T2 (meP c 94 198)
  have m_done := ok_done (P := P) (w := w) (base := base) x T2 (meP c 95 199)
  have m_words := ok_words x T2 m_done (meP c 96 200)
  have c_Rows := mkCal X G c m_rows 69 121
  have c_name_of := ok_name_of x c_is_name (fnP X G c 20 20)
  have c_read_atom := ok_read_atom x c_is_name c_read_value (fnP X G c 21 21)
  have c_read_atoms := ok_read_atoms x c_read_atom (fnP X G c 22 22)
  have c_read_step := ok_read_step x O c_name_of c_op_of c_read_atoms (fnP X G c 23 23)
  have c_read_block := ok_read_block x T2 c_read_atom c_read_atoms c_name_of c_is_word m_words c_read_step (fnP X G c 24 24) (fnP X G c 25 25) (fnP X G c 26 26) 8
  have c_lines_of := ok_lines_of (P := P) (w := w) (base := base) x (fnP X G c 0 0) 8
  have c_aim_of := ok_aim_of (P := P) (w := w) (base := base) x (fnP X G c 2 2)
  have c_atoms_of := ok_atoms_of (P := P) (w := w) (base := base) x (fnP X G c 1 1)
  have c_params_counted := ok_counted (P := P) (w := w) (base := base) x (fnP X G c 11 11)
  have c_check_line := ok_check_line x c_aim_of c_atoms_of (fnP X G c 12 12)
  have c_check_block := ok_check_block x c_check_line (fnP X G c 13 13) 8
  have c_check := ok_check x c_params_counted c_check_block (fnP X G c 14 14)
  have c_read_function := ok_read_function x T2 m_words c_name_of c_read_block c_lines_of (fnP X G c 27 27)
  have c_read := ok_read x T2 c_Rows m_done c_read_function c_check (fnP X G c 28 28)
  have c_play_rows := ok_play_rows (P := P) (w := w) (base := base) x (fnP X G c 34 34)
  have c_again_rows := ok_again_rows (P := P) (w := w) (base := base) x (fnP X G c 35 35)
  have c_figure_rows := ok_figure_rows (P := P) (w := w) (base := base) x (fnP X G c 36 36)
  have c_interpreter := ok_interpreter x c_play_rows c_again_rows c_figure_rows c_read (fnP X G c 37 37)
  have c_third_of := ok_third_of (P := P) (w := w) (base := base) x (fnP X G c 29 29)
  have c_jar_at := ok_jar_at x c_Fault (fnP X G c 30 30)
  have c_jars_behind := ok_jars_behind x O c_jar_at c_third_of c_op_of ma (fnP X G c 31 31)
  have c_rows_ahead := ok_rows_ahead x c_third_of (fnP X G c 32 32)
  have c_play := ok_play x TF c_jars_behind c_rows_ahead (fnP X G c 33 33)
  have c_function_by := ok_function_by (P := P) (w := w) (base := base) x (fnP X G c 3 3)
  have m_place := ok_place_init (P := P) (w := w) (mg := mg) (base := base) T3 (meP c 97 201)
  have c_Place := mkCal X G c m_place 70 123
  have c_value_at_runner := ok_value_at_runner (P := P) (w := w) (base := base) x (fnP X G c 38 38)
  have c_values_at := ok_values_at x c_value_at_runner (fnP X G c 39 39)
  have c_place_in := ok_place_in x c_function_by c_Place (fnP X G c 40 40)
  have c_step_gone := ok_step_gone x T3 O c_values_at c_place_in c_op_of ma (fnP X G c 41 41)
  have c_block_chosen := ok_block_chosen x c_value_at_runner (fnP X G c 42 42)
  have c_end_gone := ok_end_gone x T3 c_values_at c_place_in c_block_chosen (fnP X G c 43 43)
  have c_come_back := ok_come_back (P := P) (w := w) (base := base) x T3 (fnP X G c 44 44)
  have c_line_gone := ok_line_gone x T3 c_step_gone c_value_at_runner c_come_back c_end_gone (fnP X G c 45 45)
  have c_at_last := ok_at_last (P := P) (w := w) (base := base) x T3 (fnP X G c 46 46)
  have c_run := ok_run x T3 TF c_place_in c_at_last c_value_at_runner c_line_gone (fnP X G c 47 47)
  have c__law_cell := ok__law_cell (P := P) (w := w) (base := base) x (fnP X G c 49 49)
  have c__law_cells := ok__law_cells (P := P) (w := w) (base := base) x (fnP X G c 48 48)
  have c__law_number := ok__law_number (P := P) (w := w) (base := base) (fnP X G c 50 50)
  have c__law_spot := ok__law_spot (P := P) (w := w) (base := base) (fnP X G c 51 51)
  have c__law_jars := ok__law_jars x c__law_cell c__law_number (fnP X G c 52 52)
  have c__law_command := ok__law_command x c__law_spot c__law_number (fnP X G c 53 53)
  have c__law_score := ok__law_score x c__law_cell c__law_command (fnP X G c 54 54)
  have c__law_whole := ok__law_whole (P := P) (w := w) (base := base) x (fnP X G c 55 55)
  have c__law_same := ok__law_same x c__law_whole (fnP X G c 56 56)
  exact ok_law plain x c__law_cells c__law_cell c__law_jars c__law_score c_interpreter c_check c_play c_run c__law_same c__law_whole FL
end
end Fk
open PySem PySem.W PySem.Calls PyProof.Rows
theorem PySem.Challenge.cw_foreknown_k83_whole_interpreted_holds : PySem.Challenge.rw_foreknown_k83_whole_interpreted.Holds := by
  w_on; o_law
  refine HandSHeadRun.head_any (r := OpenLaw.row PySem.Challenge.rw_foreknown_k83_whole_interpreted) (q := view (OpenLaw.row PySem.Challenge.rw_foreknown_k83_whole_interpreted).prog [115]) (H := Fk.hk) (ob := Fk.ob) (M := 20000) (loose := Fk.names) (d := HandSHeadRun.topDef (OpenLaw.row PySem.Challenge.rw_foreknown_k83_whole_interpreted).prog 115) (kwd := []) Fk.ob_eq
    (by kernel_rfl) (fun s => by kernel_rfl) Fk.run (by kernel_rfl) (by kernel_rfl) (by kernel_rfl) (by rfl) (by first | assumption | decide +kernel) (by decide +kernel) ⟨rfl, rfl, rfl, rfl, rfl, by decide +kernel⟩ ?hw ?hc
  case hw => w_witness2
  case hc =>
    refine L2.walk_ofE (l := PySem.Challenge.rw_foreknown_k83_whole_interpreted) (n := 63) (k := 107) (x := "_law_script") (CX := L2.CX0) rfl (by decide) (by kernel_rfl) ⟨rfl, by decide, by decide⟩ ?F (fun _ _ _ _ z => z)
    intro w mg fa h Y G hmg0
    obtain ⟨K, KX, c⟩ := Y
    have hmg : mg ("law" : PySem.Str) = some (.ref fa) := by
      have e : (HandSHeadRun.topDef (OpenLaw.row PySem.Challenge.rw_foreknown_k83_whole_interpreted).prog 115).name = ("law" : PySem.Str) := by kernel_rfl
      rw [← e]
      exact hmg0
    obtain ⟨fd, F⟩ := Fk.SaysX.def_ c 57 rfl
    have e := hmg.symm.trans (He.glo_ok KX G (Fk.SaysX.fact c 57 (f := .glo "law") rfl))
    cases e
    have b := L2.FunD.bindsA (ps := ["_law_script"]) F fun _ _ _ _ _ _ us hl => match us, hl with | [_], _ => rfl
    exact ⟨K, fd, Fk.spLaw K, KX, fun s v => b s [v] rfl, fun H a ns hl _ hS => ⟨a, ns, rfl, hS, hl, fun _ => rfl⟩, fun base KB GB => Fk.facts KB GB c F⟩
