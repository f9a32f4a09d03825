import PyProof.Rows.All
import Wide.All
import OpenK.AllK
import Wide.FinOn
import KE.KStateDown
import HandS.Head0
import HandS.Head1
import HandS.Head2
import HandS.HeadEnd
import HandS.HeadHook1
import HandS.HeadHook2
import HandS.ForMost
import HandS.Codes
import HandS.Property
import HandS.IsInst
import HandS.Defaults
import HandS.DictComp
import HandS.NoneIn
import HandS.Style
import HandS.Star
import HandS.Zip
import HandS.SetKeys
import HandS.Strs
import HandS.Conv
import HandS.Walk
import HandS.Flow
import HandS.More
import HandS.WideMore
import HandS.Evl
import HandS.Steps
import KE.GoesMore
import KE.GoesEnum
import KE.KDictZip
import PySem.Challenge.RW_otherworths_k13_whole_truths_put_togethe
set_option Elab.async false
set_option linter.all false
set_option maxRecDepth 100000
set_option maxHeartbeats 4000000
/-! Otherworths k13: the head's facts by names -/
namespace Ot
open PySem PySem.Spec PyProof.Rows L2
def top (i : Nat) : Stmt := PySem.Challenge.pw_otherworths_k13_whole_truths_put_togethe.main.body.getD i (.Pass ⟨0, 0, 0, 0⟩)
/-! ### addresses of properties -/
def ppA (K : PySem.W.Frag) (C : Addr) (f : Str) : Addr :=
  match PySem.W.findIn K (.ref C) f with
  | some (some (.ref p)) => p
  | _ => 0
def pgA (K : PySem.W.Frag) (C : Addr) (f : Str) : Addr :=
  match PySem.W.recIn K (ppA K C f) "property" with
  | some (.ref g :: _) => g
  | _ => 0
def propB (K : PySem.W.Frag) (C : Addr) (f : Str) : Bool :=
  He.eqO (PySem.W.findIn K (.ref C) f) (some (some (.ref (ppA K C f)))) &&
  (He.eqO (PySem.W.specialIn K (.ref (ppA K C f)) "__get__") (some (some (.builtin "property.__get__"))) &&
  (decide (PySem.W.takesIn K (.ref (ppA K C f)) = some true) &&
  (match PySem.W.recIn K (ppA K C f) "property" with
    | some (.ref g :: _) => true
    | _ => false)))
theorem propB_ok {K : PySem.W.Frag} {C : Addr} {f : Str} (h : propB K C f = true) : PropOf K C f (ppA K C f) (pgA K C f) := by
  obtain ⟨h1, h⟩ := He.ba h
  obtain ⟨h2, h⟩ := He.ba h
  obtain ⟨h3, h4⟩ := He.ba h
  refine ⟨He.eqO_ok h1, He.eqO_ok h2, of_decide_eq_true h3, ?_⟩
  unfold pgA
  cases q : PySem.W.recIn K (ppA K C f) "property" with
  | none => rw [q] at h4; cases h4
  | some l =>
    rw [q] at h4
    cases l with
    | nil => cases h4
    | cons v r =>
      cases v with
      | ref g => exact ⟨r, rfl⟩
      | _ => cases h4
def insB (K : PySem.W.Frag) (C : Addr) : Bool :=
  He.eqO (PySem.W.findIn K (.ref C) "__class__") (some (some (.builtin "object.__class__"))) &&
  (He.eqO (PySem.W.specialIn K (.builtin "object.__class__") "__get__") (some (some (.builtin "getset_descriptor.__get__"))) &&
  (decide (PySem.W.takesIn K (.builtin "object.__class__") = some true) &&
  (decide (PySem.W.mroIn K C (.type "object") = some true) &&
  decide (PySem.W.kitOne K (.ref C) (.ref C) = some true))))
theorem insB_ok {K : PySem.W.Frag} {C : Addr} (c : Cls K C) (h : insB K C = true) : C8.InsC K C := by
  obtain ⟨h1, h⟩ := He.ba h
  obtain ⟨h2, h⟩ := He.ba h
  obtain ⟨h3, h⟩ := He.ba h
  obtain ⟨h4, h5⟩ := He.ba h
  exact ⟨c, He.eqO_ok h1, He.eqO_ok h2, of_decide_eq_true h3, of_decide_eq_true h4, of_decide_eq_true h5⟩
/-! ### defs by addresses -/
structure DA where
  adr : PySem.W.Frag → Addr
  name : Str
  qual : Str
  st : Stmt
  dfl : List He.Dv
def fnA (K : PySem.W.Frag) (a : Addr) : He.FnW :=
  match K.lookup a with
  | some ⟨_, _, .func g, _⟩ => some (g.name, g.qualname, g.params, g.body, g.scope, g.globals, g.closure, g.builtins)
  | _ => none
def DA.val (d : DA) : He.FnW := some (d.name, d.qual, defArgs d.st, .stmts (defBody d.st), defScope d.st, mainGlobals, [], builtinsNs)
def DA.good (K : PySem.W.Frag) (d : DA) : Bool :=
  PySem.W.keepIn K (.ref (d.adr K)) &&
  (match K.lookup (d.adr K) with
    | some ⟨_, _, .func g, _⟩ => PySem.W.codeIn K g.code d.qual && He.dflB K g.defaults (d.dfl.map (He.Dv.v K))
    | _ => false)
abbrev DA.F (K : PySem.W.Frag) (d : DA) (fd : FuncData) : Prop := FunD K d.name d.qual (defArgs d.st) (defBody d.st) (defScope d.st) (d.dfl.map (He.Dv.v K)) [] (d.adr K) fd
theorem DA.fun_ {K : PySem.W.Frag} {d : DA} (e : fnA K (d.adr K) = d.val) (c : d.good K = true) : ∃ fd, d.F K fd := by
  obtain ⟨kp, c2⟩ := He.ba c
  unfold fnA at e
  cases q : K.lookup (d.adr K) with
  | none => rw [q] at c2; cases c2
  | some o =>
    obtain ⟨oc, od, dt, osl⟩ := o
    rw [q] at c2 e
    cases dt with
    | func g =>
      obtain ⟨n1, n2, n3, n4, n5, n6, n7, n8, n9, n10, n11, n12, n13, n14, n15⟩ := g
      have e2 : (some (n1, n2, n3, n4, n5, n6, n7, n15) : He.FnW) = some (d.name, d.qual, defArgs d.st, .stmts (defBody d.st), defScope d.st, mainGlobals, [], builtinsNs) := e
      simp only [Option.some.injEq, Prod.mk.injEq] at e2
      obtain ⟨h1, h2, h3, h4, h5, h6, h7, h8⟩ := e2
      subst h1 h2 h3 h4 h5 h6 h7 h8
      have c3 : (PySem.W.codeIn K n13 d.qual && He.dflB K n8 (d.dfl.map (He.Dv.v K))) = true := c2
      obtain ⟨k1, k2⟩ := He.ba c3
      exact ⟨_, ⟨oc, od, n8, n9, n10, n11, n12, n13, n14, osl, rfl, q, k1, He.dflB_ok k2, .inl rfl⟩, kp⟩
    | _ => cases c2
/-! ### the hook -/
abbrev AlO : Type := Bool × List He.FnW
def obsO (fa : List He.Fa) (fn : List DA) (ex : List (PySem.W.Frag → Bool)) (K : PySem.W.Frag) : AlO :=
  ((fa.all fun f => f.ok K) && ((fn.all fun d => d.good K) && ex.all fun p => p K), fn.map fun d => fnA K (d.adr K))
def valO (fn : List DA) : AlO := (true, fn.map DA.val)
def memA (b : Addr) : List Addr → Bool
  | [] => false
  | a :: r => match Nat.beq a b with
    | true => true
    | false => memA b r
/-- those of a list that are neither seen nor taken yet -/
def addA (seen : List Addr) : List Addr → List Addr → List Addr
  | acc, [] => acc
  | acc, b :: r => match memA b acc with
    | true => addA seen acc r
    | false => match memA b seen with
      | true => addA seen acc r
      | false => addA seen (b :: acc) r
/-- what is reached in n steps, each object looked into once -/
def asO (g : Addr → Option Obj) : Nat → List Addr → List Addr → List Addr
  | 0, seen, _ => seen
  | n + 1, seen, fr => match addA seen [] (fr.flatMap fun a => match g a with
      | some o => He.refsD o
      | none => []) with
    | [] => seen
    | b :: r => asO g n (seen ++ (b :: r)) (b :: r)
def obsOG (n : Nat) (fa : List He.Fa) (fn : List DA) (ex : List (PySem.W.Frag → Bool)) (g : Addr → Option Obj) : AlO := obsO fa fn ex (He.frG g (asO g n [mainGlobals] [mainGlobals]))
def hookO (n : Nat) (fa : List He.Fa) (fn : List DA) (ex : List (PySem.W.Frag → Bool)) : PySem.W.Hook where
  α := AlO
  obs := fun s => obsOG n fa fn ex s.heap.get?
  val := fun _ => valO fn
  says := fun _ h => ∃ K : PySem.W.Frag, K.In h ∧ obsO fa fn ex K = valO fn
  of := fun _ _ e => ⟨_, He.frG_in, e⟩
  keeps := fun _ _ _ ⟨K, hK, c⟩ k => ⟨K, PySem.W.Frag.In.keeps hK k, c⟩
theorem obsOG_eq {n : Nat} {fa : List He.Fa} {fn : List DA} {ex : List (PySem.W.Frag → Bool)} {g : Addr → Option Obj} {s : Shared} (h : ∀ a, g a = s.heap.get? a) : obsOG n fa fn ex g = (hookO n fa fn ex).obs s := by
  have e : g = s.heap.get? := funext h
  rw [e] <;> rfl
section
variable {fa : List He.Fa} {fn : List DA} {ex : List (PySem.W.Frag → Bool)} {K : PySem.W.Frag}
theorem saysO_fact (c : obsO fa fn ex K = valO fn) (i : Nat) {f : He.Fa} (h : fa[i]? = some f) : f.ok K = true :=
  List.all_eq_true.mp (He.ba (congrArg (fun z : AlO => z.1) c)).1 f (List.mem_of_getElem? h)
theorem saysO_ex (c : obsO fa fn ex K = valO fn) (i : Nat) {p : PySem.W.Frag → Bool} (h : ex[i]? = some p) : p K = true :=
  List.all_eq_true.mp (He.ba (He.ba (congrArg (fun z : AlO => z.1) c)).2).2 p (List.mem_of_getElem? h)
theorem saysO_def (c : obsO fa fn ex K = valO fn) (i : Nat) {d : DA} (h : fn[i]? = some d) : ∃ fd, d.F K fd := by
  have e : fn.map (fun d => fnA K (d.adr K)) = fn.map DA.val := congrArg (fun z : AlO => z.2) c
  have e2 : (fn.map fun d => fnA K (d.adr K))[i]? = (fn.map DA.val)[i]? := by rw [e]
  rw [List.getElem?_map, List.getElem?_map, h] at e2
  exact DA.fun_ (Option.some.inj e2) (List.all_eq_true.mp (He.ba (He.ba (congrArg (fun z : AlO => z.1) c)).2).1 d (List.mem_of_getElem? h))
end
abbrev s_is_number : Stmt := top 15
abbrev s_is_list : Stmt := top 16
abbrev s_is_name : Stmt := top 17
abbrev s_are_names : Stmt := top 18
abbrev s_are_sides : Stmt := top 19
abbrev s_need_shape : Stmt := top 21
abbrev s_need_row : Stmt := top 22
abbrev s_need_asking : Stmt := top 23
abbrev s_row_worths : Stmt := top 24
abbrev s_worths_of : Stmt := top 25
abbrev s_names_over : Stmt := top 30
abbrev s_is_side : Stmt := top 31
abbrev s_is_most : Stmt := top 32
abbrev s_is_lacks : Stmt := top 33
abbrev s_is_told : Stmt := top 34
abbrev s_tests_of : Stmt := top 35
abbrev s_is_over : Stmt := top 36
abbrev s_need_condition : Stmt := top 37
abbrev s_worth_in : Stmt := top 38
abbrev s_truth_of : Stmt := top 39
abbrev s_truth : Stmt := top 40
abbrev s_are_promises : Stmt := top 44
abbrev s_do_fit : Stmt := top 45
abbrev s_need_book : Stmt := top 47
abbrev s_are_rows : Stmt := top 48
abbrev s_need_table : Stmt := top 49
abbrev s_taken : Stmt := top 50
abbrev s_answer : Stmt := top 51
abbrev s_law_begin : Stmt := top 53
abbrev s_law_blend : Stmt := top 54
abbrev s_law_take : Stmt := top 55
abbrev s_law_pick : Stmt := top 56
abbrev s_law_mixed : Stmt := top 57
abbrev s_law_words : Stmt := top 58
abbrev s_law_frame : Stmt := top 59
abbrev s_law_shape : Stmt := top 60
abbrev s_law_test : Stmt := top 61
abbrev s_law_told : Stmt := top 62
abbrev s_law_tests : Stmt := top 63
abbrev s_law_worth : Stmt := top 65
abbrev s_law_line : Stmt := top 66
abbrev s_law_wish : Stmt := top 67
abbrev s_law_known : Stmt := top 68
abbrev s_law_does_fit : Stmt := top 69
abbrev s_law_model : Stmt := top 70
abbrev s_law_lines : Stmt := top 71
abbrev s_law_book : Stmt := top 72
abbrev s_law_rank : Stmt := top 73
abbrev s_law_ranks : Stmt := top 74
abbrev s_law_truths_right : Stmt := top 75
abbrev s_law_answers_right : Stmt := top 76
abbrev s_law : Stmt := top 77
abbrev s_Shape_init : Stmt := inClass (top 20) 0
abbrev s_Shape_is_worth : Stmt := inClass (top 20) 5
abbrev s_Shape_is_row : Stmt := inClass (top 20) 6
abbrev s_Shape_is_asking : Stmt := inClass (top 20) 7
abbrev s_Book_init : Stmt := inClass (top 46) 0
abbrev s_Book_promises_of : Stmt := inClass (top 46) 5
abbrev s_Shape_columns : Stmt := inClass (top 20) 1
abbrev s_Shape_blanks : Stmt := inClass (top 20) 2
abbrev s_Book_shape : Stmt := inClass (top 46) 1
abbrev s_Book_parts : Stmt := inClass (top 46) 2
def dG (x : Str) (st : Stmt) (d : List He.Dv) : DA := ⟨fun K => He.ga K x, x, x, st, d⟩
def dM (c m q : Str) (st : Stmt) (d : List He.Dv) : DA := ⟨fun K => He.ma K (He.ga K c) m, m, q, st, d⟩
def dP (c m q : Str) (st : Stmt) : DA := ⟨fun K => pgA K (He.ga K c) m, m, q, st, []⟩
def fn0 : List DA := [dG "is_number" s_is_number [], dG "is_list" s_is_list [], dG "is_name" s_is_name [], dG "are_names" s_are_names [], dG "are_sides" s_are_sides [], dG "need_shape" s_need_shape [], dG "need_row" s_need_row [], dG "need_asking" s_need_asking [], dG "row_worths" s_row_worths [], dG "worths_of" s_worths_of [], dG "names_over" s_names_over [], dG "is_side" s_is_side []]
def fn1 : List DA := [dG "is_most" s_is_most [], dG "is_lacks" s_is_lacks [], dG "is_told" s_is_told [], dG "tests_of" s_tests_of [], dG "is_over" s_is_over [], dG "need_condition" s_need_condition [.str "both"], dG "worth_in" s_worth_in [], dG "truth_of" s_truth_of [], dG "truth" s_truth [], dG "are_promises" s_are_promises [], dG "do_fit" s_do_fit [], dG "need_book" s_need_book []]
def fn2 : List DA := [dG "are_rows" s_are_rows [], dG "need_table" s_need_table [], dG "taken" s_taken [], dG "answer" s_answer [], dG "_law_begin" s_law_begin [], dG "_law_blend" s_law_blend [], dG "_law_take" s_law_take [], dG "_law_pick" s_law_pick [], dG "_law_mixed" s_law_mixed [], dG "_law_words" s_law_words [], dG "_law_frame" s_law_frame [], dG "_law_shape" s_law_shape []]
def fn3 : List DA := [dG "_law_test" s_law_test [], dG "_law_told" s_law_told [], dG "_law_tests" s_law_tests [], dG "_law_worth" s_law_worth [], dG "_law_line" s_law_line [], dG "_law_wish" s_law_wish [], dG "_law_known" s_law_known [], dG "_law_does_fit" s_law_does_fit [], dG "_law_model" s_law_model [], dG "_law_lines" s_law_lines [], dG "_law_book" s_law_book [], dG "_law_rank" s_law_rank []]
def fn4 : List DA := [dG "_law_ranks" s_law_ranks [], dG "_law_truths_right" s_law_truths_right [], dG "_law_answers_right" s_law_answers_right [], dG "law" s_law [], dM "Shape" "__init__" "Shape.__init__" s_Shape_init [.adr (He.dflAt ("Shape", some "__init__") 0)], dM "Shape" "is_worth" "Shape.is_worth" s_Shape_is_worth [], dM "Shape" "is_row" "Shape.is_row" s_Shape_is_row [], dM "Shape" "is_asking" "Shape.is_asking" s_Shape_is_asking [], dM "Book" "__init__" "Book.__init__" s_Book_init [], dM "Book" "promises_of" "Book.promises_of" s_Book_promises_of [], dP "Shape" "columns" "Shape.columns" s_Shape_columns, dP "Shape" "blanks" "Shape.blanks" s_Shape_blanks]
def fn5 : List DA := [dP "Book" "shape" "Book.shape" s_Book_shape, dP "Book" "parts" "Book.parts" s_Book_parts]
def fns : List DA := (fn0 ++ (fn1 ++ (fn2 ++ (fn3 ++ (fn4 ++ fn5)))))
def fa0 : List He.Fa := [.glo "is_number", .glo "is_list", .glo "is_name", .glo "are_names", .glo "are_sides", .glo "need_shape", .glo "need_row", .glo "need_asking", .glo "row_worths", .glo "worths_of", .glo "names_over", .glo "is_side"]
def fa1 : List He.Fa := [.glo "is_most", .glo "is_lacks", .glo "is_told", .glo "tests_of", .glo "is_over", .glo "need_condition", .glo "worth_in", .glo "truth_of", .glo "truth", .glo "are_promises", .glo "do_fit", .glo "need_book"]
def fa2 : List He.Fa := [.glo "are_rows", .glo "need_table", .glo "taken", .glo "answer", .glo "_law_begin", .glo "_law_blend", .glo "_law_take", .glo "_law_pick", .glo "_law_mixed", .glo "_law_words", .glo "_law_frame", .glo "_law_shape"]
def fa3 : List He.Fa := [.glo "_law_test", .glo "_law_told", .glo "_law_tests", .glo "_law_worth", .glo "_law_line", .glo "_law_wish", .glo "_law_known", .glo "_law_does_fit", .glo "_law_model", .glo "_law_lines", .glo "_law_book", .glo "_law_rank"]
def fa4 : List He.Fa := [.glo "_law_ranks", .glo "_law_truths_right", .glo "_law_answers_right", .glo "law", .glo "Shape", .glo "Book", .free "len", .free "isinstance", .free "all", .free "set", .free "tuple", .free "sorted"]
def fa5 : List He.Fa := [.free "zip", .free "dict", .free "list", .free "int", .free "bool", .free "str", .free "range", .free "min", .free "max", .free "abs", .free "enumerate", .int "MOST_LETTERS" 8]
def fa6 : List He.Fa := [.int "MOST_COLUMNS" 3, .int "MOST_BLANKS" 3, .int "MOST_NAMES" 5, .int "MOST_TESTS" 8, .int "MOST_DEEP" 5, .int "MOST_PARTS_conditions" 6, .int "MOST_PARTS_books" 4, .int "MOST_PROMISES" 4, .str "LETTERS" "abcdefghijklmnopqrstuvwxyz", .cls "Shape", .mkr "Shape", .cls "Book"]
def fa7 : List He.Fa := [.mkr "Book", .noat "Shape" "own_columns", .noat "Shape" "own_blanks", .noat "Shape" "own_lacking", .noat "Book" "own_shape", .noat "Book" "own_parts", .meth "Shape" "is_worth", .meth "Shape" "is_row", .meth "Shape" "is_asking", .meth "Book" "promises_of"]
def fas : List He.Fa := (fa0 ++ (fa1 ++ (fa2 ++ (fa3 ++ (fa4 ++ (fa5 ++ (fa6 ++ fa7)))))))
def exs : List (PySem.W.Frag → Bool) := [fun K => propB K (He.ga K "Shape") "columns", fun K => propB K (He.ga K "Shape") "blanks", fun K => propB K (He.ga K "Book") "shape", fun K => propB K (He.ga K "Book") "parts", fun K => insB K (He.ga K "Shape"), fun K => insB K (He.ga K "Book")]
def nms0 : List PySem.Str := [("_wall" : PySem.Str), ("__name__" : PySem.Str), ("WorthError" : PySem.Str), ("BadShape" : PySem.Str), ("BadCondition" : PySem.Str), ("BadRow" : PySem.Str), ("BadAsking" : PySem.Str), ("BadBook" : PySem.Str), ("BadTable" : PySem.Str), ("LETTERS" : PySem.Str), ("MOST_LETTERS" : PySem.Str), ("MOST_COLUMNS" : PySem.Str), ("MOST_BLANKS" : PySem.Str), ("MOST_NAMES" : PySem.Str), ("is_number" : PySem.Str), ("is_list" : PySem.Str)]
def nms1 : List PySem.Str := [("is_name" : PySem.Str), ("are_names" : PySem.Str), ("are_sides" : PySem.Str), ("Shape" : PySem.Str), ("need_shape" : PySem.Str), ("need_row" : PySem.Str), ("need_asking" : PySem.Str), ("row_worths" : PySem.Str), ("worths_of" : PySem.Str), ("MOST_TESTS" : PySem.Str), ("MOST_DEEP" : PySem.Str), ("MOST_PARTS_conditions" : PySem.Str), ("names_over" : PySem.Str), ("is_side" : PySem.Str), ("is_most" : PySem.Str), ("is_lacks" : PySem.Str)]
def nms2 : List PySem.Str := [("is_told" : PySem.Str), ("tests_of" : PySem.Str), ("is_over" : PySem.Str), ("need_condition" : PySem.Str), ("worth_in" : PySem.Str), ("truth_of" : PySem.Str), ("truth" : PySem.Str), ("MOST_PARTS_books" : PySem.Str), ("MOST_PROMISES" : PySem.Str), ("are_promises" : PySem.Str), ("do_fit" : PySem.Str), ("Book" : PySem.Str), ("need_book" : PySem.Str), ("are_rows" : PySem.Str), ("need_table" : PySem.Str), ("taken" : PySem.Str)]
def nms3 : List PySem.Str := [("answer" : PySem.Str), ("_law_begin" : PySem.Str), ("_law_blend" : PySem.Str), ("_law_take" : PySem.Str), ("_law_pick" : PySem.Str), ("_law_mixed" : PySem.Str), ("_law_words" : PySem.Str), ("_law_frame" : PySem.Str), ("_law_shape" : PySem.Str), ("_law_test" : PySem.Str), ("_law_told" : PySem.Str), ("_law_tests" : PySem.Str), ("_law_truth" : PySem.Str), ("_law_worth" : PySem.Str), ("_law_line" : PySem.Str), ("_law_wish" : PySem.Str)]
def nms4 : List PySem.Str := [("_law_known" : PySem.Str), ("_law_does_fit" : PySem.Str), ("_law_model" : PySem.Str), ("_law_lines" : PySem.Str), ("_law_book" : PySem.Str), ("_law_rank" : PySem.Str), ("_law_ranks" : PySem.Str), ("_law_truths_right" : PySem.Str), ("_law_answers_right" : PySem.Str)]
def nms : List PySem.Str := nms0 ++ nms1 ++ nms2 ++ nms3 ++ nms4
abbrev R : PySem.W.OpenRow := PySem.W.OpenLaw.row PySem.Challenge.rw_otherworths_k13_whole_truths_put_togethe
abbrev hkO : PySem.W.Hook := hookO 6 fas fns exs
def obO (s : PySem.W.SharedT) : AlO := obsOG 6 fas fns exs (HandSHeadRun.getT s)
theorem obO_eq (s : PySem.W.SharedT) : obO s = hkO.obs s.abs := obsOG_eq (HandSHeadRun.getT_eq s)
set_option maxHeartbeats 0 in
theorem run (w : World) : HandSHeadRun.RunEq R (PySem.W.view R.prog [77]) hkO obO 6000 nms w := by
  intro os
  kernel_rfl
end Ot
/-! Otherworths k13: what the top has left, by names -/
namespace Ot
open PySem PySem.Spec PyProof.Rows L2
structure Tx (K : PySem.W.Frag) (mg : Str → Option Value) : Prop where
  h : ∃ hp : Heap, K.In hp ∧ hp.Ns mainGlobals mg
  says : obsO fas fns exs K = valO fns
section
variable {P : Program} {w : World} {K : PySem.W.Frag} {mg : Str → Option Value} {base : Heap}
theorem Tx.glo (T : Tx K mg) (i : Nat) {x : Str} (e : fas[i]? = some (.glo x)) : mg x = some (.ref (He.ga K x)) := by
  obtain ⟨hp, X, G⟩ := T.h
  exact He.glo_ok X G (saysO_fact T.says i e)
theorem Tx.free (T : Tx K mg) (i : Nat) {x : Str} (e : fas[i]? = some (.free x)) : mg x = none := by
  obtain ⟨hp, X, G⟩ := T.h
  exact He.free_ok X G (saysO_fact T.says i e)
theorem Tx.int (T : Tx K mg) (i : Nat) {x : Str} {n : Int} (e : fas[i]? = some (.int x n)) : ∃ u, mg x = some u ∧ RelV (.int n) u := by
  obtain ⟨hp, X, G⟩ := T.h
  obtain ⟨t, q⟩ := He.int_ok X G (saysO_fact T.says i e)
  exact ⟨_, q, t, rfl⟩
theorem Tx.str (T : Tx K mg) (i : Nat) {x z : Str} (e : fas[i]? = some (.str x z)) : ∃ u, mg x = some u ∧ RelV (.str z) u := by
  obtain ⟨hp, X, G⟩ := T.h
  obtain ⟨t, q⟩ := He.str_ok X G (saysO_fact T.says i e)
  exact ⟨_, q, t, rfl⟩
theorem Tx.cls (T : Tx K mg) (i : Nat) {x : Str} (e : fas[i]? = some (.cls x)) : Cls K (He.ga K x) := He.cls_ok (saysO_fact T.says i e)
theorem Tx.mkr (T : Tx K mg) (i : Nat) {x : Str} (e : fas[i]? = some (.mkr x)) : Mk K (He.ga K x) (He.ma K (He.ga K x) "__init__") := He.mkr_ok (saysO_fact T.says i e)
theorem Tx.noat (T : Tx K mg) (i : Nat) {x f : Str} (e : fas[i]? = some (.noat x f)) : NoAttr K (He.ga K x) f := He.noat_ok (saysO_fact T.says i e)
theorem Tx.meth (T : Tx K mg) (i : Nat) {x m : Str} (e : fas[i]? = some (.meth x m)) : Meth K (He.ga K x) m (He.ma K (He.ga K x) m) := He.meth_ok (saysO_fact T.says i e)
theorem Tx.ex_ (T : Tx K mg) (i : Nat) {p : PySem.W.Frag → Bool} (e : exs[i]? = some p) : p K = true := saysO_ex T.says i e
/-- a def of the module -/
theorem Tx.df (T : Tx K mg) (i j : Nat) {x : Str} {st : Stmt} {N ps : List Str} {k : Nat} {sp : Sp} (hd : fns[i]? = some (dG x st [])) (hg : fas[j]? = some (.glo x)) (S : FnScope N ps (defScope st))
    (bi : ∀ (kV doc pm : Value) (an : Option Addr) (cdv ct : Value) (us : List Value), us.length = ps.length → bindArgs (PySem.W.fnOf x x (defArgs st) (defBody st) (defScope st) .none kV doc pm an cdv ct) ⟨us, []⟩ = pure (ps.zip us))
    (len : ∀ vs H Q E, sp vs H Q E → vs.length = ps.length)
    (body : ∀ (cdv : Value) (A : Around) (outer : List Env) (s : Shared) (H : Hp) (vs : List V) (Q : VK) (E : XK), Room k (A.deeper (envOfC x (defScope st) s.heap.objs.size (He.ga K x) cdv)) → sp vs H Q E →
      ∃ t, PSs (cxOf CX0 P w K mg base N x (defScope st) (He.ga K x) cdv A outer s H E).nox (defBody st) t ∧ t { nx := fun _ H' => Q .non H', rt := Q } (start N vs) H) : C8.Cal P w K mg base (k + 1) x sp [] := by
  obtain ⟨fd, F⟩ := saysO_def T.says i hd
  refine ⟨_, fd, ps, [], F.ok S len fun cdv A outer s H vs Q E hr h => ?_, T.glo j hg, F.kp, FunD.bindsN F bi, .nil⟩
  obtain ⟨t, h1, h2⟩ := body cdv A outer s H vs Q E hr h
  exact ⟨t, h1.nox, h2⟩
theorem Tx.g_Shape (T : Tx K mg) : mg "Shape" = some (.ref (He.ga K "Shape")) := T.glo 52 rfl
theorem Tx.g_Book (T : Tx K mg) : mg "Book" = some (.ref (He.ga K "Book")) := T.glo 53 rfl
theorem Tx.f_len (T : Tx K mg) : mg "len" = none := T.free 54 rfl
theorem Tx.f_isinstance (T : Tx K mg) : mg "isinstance" = none := T.free 55 rfl
theorem Tx.f_all (T : Tx K mg) : mg "all" = none := T.free 56 rfl
theorem Tx.f_set (T : Tx K mg) : mg "set" = none := T.free 57 rfl
theorem Tx.f_tuple (T : Tx K mg) : mg "tuple" = none := T.free 58 rfl
theorem Tx.f_sorted (T : Tx K mg) : mg "sorted" = none := T.free 59 rfl
theorem Tx.f_zip (T : Tx K mg) : mg "zip" = none := T.free 60 rfl
theorem Tx.f_dict (T : Tx K mg) : mg "dict" = none := T.free 61 rfl
theorem Tx.f_list (T : Tx K mg) : mg "list" = none := T.free 62 rfl
theorem Tx.f_int (T : Tx K mg) : mg "int" = none := T.free 63 rfl
theorem Tx.f_bool (T : Tx K mg) : mg "bool" = none := T.free 64 rfl
theorem Tx.f_str (T : Tx K mg) : mg "str" = none := T.free 65 rfl
theorem Tx.f_range (T : Tx K mg) : mg "range" = none := T.free 66 rfl
theorem Tx.f_min (T : Tx K mg) : mg "min" = none := T.free 67 rfl
theorem Tx.f_max (T : Tx K mg) : mg "max" = none := T.free 68 rfl
theorem Tx.f_abs (T : Tx K mg) : mg "abs" = none := T.free 69 rfl
theorem Tx.f_enumerate (T : Tx K mg) : mg "enumerate" = none := T.free 70 rfl
theorem Tx.v_MOST_LETTERS (T : Tx K mg) : ∃ u, mg "MOST_LETTERS" = some u ∧ RelV (.int 8) u := T.int 71 rfl
theorem Tx.v_MOST_COLUMNS (T : Tx K mg) : ∃ u, mg "MOST_COLUMNS" = some u ∧ RelV (.int 3) u := T.int 72 rfl
theorem Tx.v_MOST_BLANKS (T : Tx K mg) : ∃ u, mg "MOST_BLANKS" = some u ∧ RelV (.int 3) u := T.int 73 rfl
theorem Tx.v_MOST_NAMES (T : Tx K mg) : ∃ u, mg "MOST_NAMES" = some u ∧ RelV (.int 5) u := T.int 74 rfl
theorem Tx.v_MOST_TESTS (T : Tx K mg) : ∃ u, mg "MOST_TESTS" = some u ∧ RelV (.int 8) u := T.int 75 rfl
theorem Tx.v_MOST_DEEP (T : Tx K mg) : ∃ u, mg "MOST_DEEP" = some u ∧ RelV (.int 5) u := T.int 76 rfl
theorem Tx.v_MOST_PARTS_conditions (T : Tx K mg) : ∃ u, mg "MOST_PARTS_conditions" = some u ∧ RelV (.int 6) u := T.int 77 rfl
theorem Tx.v_MOST_PARTS_books (T : Tx K mg) : ∃ u, mg "MOST_PARTS_books" = some u ∧ RelV (.int 4) u := T.int 78 rfl
theorem Tx.v_MOST_PROMISES (T : Tx K mg) : ∃ u, mg "MOST_PROMISES" = some u ∧ RelV (.int 4) u := T.int 79 rfl
theorem Tx.v_LETTERS (T : Tx K mg) : ∃ u, mg "LETTERS" = some u ∧ RelV (.str "abcdefghijklmnopqrstuvwxyz") u := T.str 80 rfl
theorem Tx.c_Shape (T : Tx K mg) : Cls K (He.ga K "Shape") := T.cls 81 rfl
theorem Tx.mk_Shape (T : Tx K mg) : Mk K (He.ga K "Shape") (He.ma K (He.ga K "Shape") "__init__") := T.mkr 82 rfl
theorem Tx.c_Book (T : Tx K mg) : Cls K (He.ga K "Book") := T.cls 83 rfl
theorem Tx.mk_Book (T : Tx K mg) : Mk K (He.ga K "Book") (He.ma K (He.ga K "Book") "__init__") := T.mkr 84 rfl
theorem Tx.n_own_columns (T : Tx K mg) : NoAttr K (He.ga K "Shape") "own_columns" := T.noat 85 rfl
theorem Tx.n_own_blanks (T : Tx K mg) : NoAttr K (He.ga K "Shape") "own_blanks" := T.noat 86 rfl
theorem Tx.n_own_lacking (T : Tx K mg) : NoAttr K (He.ga K "Shape") "own_lacking" := T.noat 87 rfl
theorem Tx.n_own_shape (T : Tx K mg) : NoAttr K (He.ga K "Book") "own_shape" := T.noat 88 rfl
theorem Tx.n_own_parts (T : Tx K mg) : NoAttr K (He.ga K "Book") "own_parts" := T.noat 89 rfl
theorem Tx.m_is_worth (T : Tx K mg) : Meth K (He.ga K "Shape") "is_worth" (He.ma K (He.ga K "Shape") "is_worth") := T.meth 90 rfl
theorem Tx.m_is_row (T : Tx K mg) : Meth K (He.ga K "Shape") "is_row" (He.ma K (He.ga K "Shape") "is_row") := T.meth 91 rfl
theorem Tx.m_is_asking (T : Tx K mg) : Meth K (He.ga K "Shape") "is_asking" (He.ma K (He.ga K "Shape") "is_asking") := T.meth 92 rfl
theorem Tx.m_promises_of (T : Tx K mg) : Meth K (He.ga K "Book") "promises_of" (He.ma K (He.ga K "Book") "promises_of") := T.meth 93 rfl
theorem Tx.p_Shape_columns (T : Tx K mg) : PropOf K (He.ga K "Shape") "columns" (ppA K (He.ga K "Shape") "columns") (pgA K (He.ga K "Shape") "columns") := propB_ok (T.ex_ 0 rfl)
theorem Tx.p_Shape_blanks (T : Tx K mg) : PropOf K (He.ga K "Shape") "blanks" (ppA K (He.ga K "Shape") "blanks") (pgA K (He.ga K "Shape") "blanks") := propB_ok (T.ex_ 1 rfl)
theorem Tx.p_Book_shape (T : Tx K mg) : PropOf K (He.ga K "Book") "shape" (ppA K (He.ga K "Book") "shape") (pgA K (He.ga K "Book") "shape") := propB_ok (T.ex_ 2 rfl)
theorem Tx.p_Book_parts (T : Tx K mg) : PropOf K (He.ga K "Book") "parts" (ppA K (He.ga K "Book") "parts") (pgA K (He.ga K "Book") "parts") := propB_ok (T.ex_ 3 rfl)
theorem Tx.is_Shape (T : Tx K mg) : C8.InsC K (He.ga K "Shape") := insB_ok T.c_Shape (T.ex_ 4 rfl)
theorem Tx.is_Book (T : Tx K mg) : C8.InsC K (He.ga K "Book") := insB_ok T.c_Book (T.ex_ 5 rfl)
end
end Ot
/-! Otherworths k13: what a reading comes to, in the layer's extension order -/
namespace Ot
open PySem PySem.Spec PyProof.Rows L2 Evl
abbrev Tp (H : Hp) (a : Addr) (xs : List V) : Prop := H a = some (.tup xs)
abbrev Ls (H : Hp) (a : Addr) (xs : List V) : Prop := H a = some (.lst xs)
abbrev Dk (H : Hp) (a : Addr) (kvs : List (Key × V)) : Prop := H a = some (.dK kvs)
abbrev strV (ns : List Str) : List V := ns.map V.str
/-- what comes back: a value, or a new object -/
inductive Res where
  | val (v : V)
  | new (o : HO)
  | fr (P : Addr → Hp → Prop)
  | sm (P : V → Hp → Prop)
def Res.ok : Res → Hp → V → Hp → Prop
  | .val v, _, z, _ => z = v
  | .new o, H, z, H' => ∃ p, z = .ref p ∧ H p = none ∧ H' p = some o
  | .fr P, H, z, H' => ∃ p, z = .ref p ∧ H p = none ∧ P p H'
  | .sm P, _, z, H' => P z H'
theorem Res.anti {r : Res} {H H1 H2 : Hp} {z : V} (e : Ex H H1) (h : r.ok H1 z H2) : r.ok H z H2 := by
  cases r with
  | val v => exact h
  | new o =>
    obtain ⟨p, h1, h2, h3⟩ := h
    exact ⟨p, h1, fresh_back e h2, h3⟩
  | fr P =>
    obtain ⟨p, h1, h2, h3⟩ := h
    exact ⟨p, h1, fresh_back e h2, h3⟩
  | sm P => exact h
def EvR (te : TE) (σ : L2.St) (H : Hp) (r : Res) : Prop := ∀ H1, Ex H H1 → ∀ Q : VK, (∀ z H2, Ex H1 H2 → r.ok H1 z H2 → Q z H2) → te σ H1 Q
/-- a block that hands back r -/
def RR (ts : TS) (σ : L2.St) (H : Hp) (r : Res) : Prop := ∀ (D : Ends) H1, Ex H H1 → (∀ z H2, Ex H1 H2 → r.ok H1 z H2 → D.rt z H2) → ts D σ H1
/-- a block that falls through, no slot changed -/
def FR (ts : TS) (σ : L2.St) (H : Hp) : Prop := ∀ (D : Ends) H1, Ex H H1 → (∀ H2, Ex H1 H2 → D.nx σ H2) → ts D σ H1
section
variable {K : PySem.W.Frag} {σ : L2.St} {H : Hp} {ta tb te tx : TE} {t u : TT} {x y z v : V} {r : Res} {tu tw tz : TS}
theorem er_val (h : Ev te σ H v) : EvR te σ H (.val v) := fun H1 e Q q => h H1 e Q fun H2 e2 => q v H2 e2 rfl
theorem ev_er (h : EvR te σ H (.val v)) : Ev te σ H v := fun H1 e Q q => h H1 e Q fun z H2 e2 hz => by
  have hz : z = v := hz
  subst hz
  exact q H2 e2
theorem er_lst {xs : List V} (h : EvL te σ H xs) : EvR te σ H (.new (.lst xs)) := fun H1 e Q q => h H1 e Q fun p H2 hp e2 h2 => q _ H2 e2 ⟨p, rfl, hp, h2⟩
theorem er_tup {xs : List V} (h : EvU te σ H xs) : EvR te σ H (.new (.tup xs)) := fun H1 e Q q => h H1 e Q fun p H2 hp e2 h2 => q _ H2 e2 ⟨p, rfl, hp, h2⟩
theorem el_er {xs : List V} (h : EvR te σ H (.new (.lst xs))) : EvL te σ H xs := fun H1 e Q q => h H1 e Q fun z H2 e2 ⟨p, hz, h1, h2⟩ => by
  subst hz
  exact q p H2 h1 e2 h2
theorem eu_er {xs : List V} (h : EvR te σ H (.new (.tup xs))) : EvU te σ H xs := fun H1 e Q q => h H1 e Q fun z H2 e2 ⟨p, hz, h1, h2⟩ => by
  subst hz
  exact q p H2 h1 e2 h2
/-! ### blocks -/
theorem re_ret (h : EvR te σ H r) : RR (tRet te) σ H r := fun _ H1 e q => h H1 e _ q
theorem re_yes (h : EvT t σ H true) (k : RR tu σ H r) : RR (tSeq (tIfS t tu tw) tz) σ H r := fun D H1 e q => h H1 e _ fun H2 e2 => by
  show tu _ σ H2
  exact k _ H2 (e.trans e2) fun z H3 e3 hz => q z H3 (e2.trans e3) (Res.anti e2 hz)
theorem re_no (h : EvT t σ H false) (k : RR tz σ H r) : RR (tSeq (tIfS t tu tNext) tz) σ H r := fun D H1 e q => h H1 e _ fun H2 e2 => by
  show tz D σ H2
  exact k _ H2 (e.trans e2) fun z H3 e3 hz => q z H3 (e2.trans e3) (Res.anti e2 hz)
theorem re_asg {i : Nat} (h : EvR te σ H (.val x)) (k : RR tz (σ.set i (some x)) H r) : RR (tSeq (tAsg te (gName i)) tz) σ H r := fun D H1 e q => h H1 e _ fun w H2 e2 hw => by
  have hw : w = x := hw
  subst hw
  exact k D H2 (e.trans e2) fun z H3 e3 hz => q z H3 (e2.trans e3) (Res.anti e2 hz)
theorem re_asgN {i : Nat} {o : HO} (h : EvR te σ H (.new o)) (k : ∀ p H1, H p = none → Ex H H1 → H1 p = some o → RR tz (σ.set i (some (.ref p))) H1 r) : RR (tSeq (tAsg te (gName i)) tz) σ H r := fun D H1 e q => h H1 e _ fun w H2 e2 ⟨p, hw, h1, h2⟩ => by
  subst hw
  exact k p H2 (fresh_back e h1) (e.trans e2) h2 D H2 (Ex.refl H2) fun z H3 e3 hz => q z H3 (e2.trans e3) (Res.anti e2 hz)
theorem re_par {i j : Nat} {ta : TA} (h : EvA ta σ H [x, y]) (k : RR tz ((σ.set i (some x)).set j (some y)) H r) : RR (tSeq (tPar i j ta) tz) σ H r := fun D H1 e q => h H1 e _ fun H2 e2 =>
  ⟨x, y, rfl, k D H2 (e.trans e2) fun z H3 e3 hz => q z H3 (e2.trans e3) (Res.anti e2 hz)⟩
/-- the first one a new object -/
theorem re_parN {i j : Nat} {o : HO} (h : EvR ta σ H (.new o)) (h2 : Ev tb σ H y) (k : ∀ p H1, H p = none → Ex H H1 → H1 p = some o → RR tz ((σ.set i (some (.ref p))).set j (some y)) H1 r) : RR (tSeq (tPar i j (tCons ta (tCons tb tNil))) tz) σ H r :=
  fun D H1 e q => h H1 e _ fun w H2 e2 ⟨p, hw, h1, hp⟩ => by
    subst hw
    exact h2 H2 (e.trans e2) _ fun H3 e3 => ⟨_, y, rfl, k p H3 (fresh_back e h1) ((e.trans e2).trans e3) (e3 _ _ hp) D H3 (Ex.refl H3) fun z H4 e4 hz => q z H4 ((e2.trans e3).trans e4) (Res.anti (e2.trans e3) hz)⟩
theorem fr_no (h : EvT t σ H false) : FR (tIfS t tu tNext) σ H := fun D H1 e q => h H1 e _ fun H2 e2 => q H2 e2
theorem re_fr (h : FR tu σ H) (k : RR tz σ H r) : RR (tSeq tu tz) σ H r := fun D H1 e q => h _ H1 e fun H2 e2 => k D H2 (e.trans e2) fun z H3 e3 hz => q z H3 (e2.trans e3) (Res.anti e2 hz)
/-! ### tests whose answer is known -/
theorem et_not_t (h : EvT t σ H false) : EvT (tNot t) σ H true := et_not h
theorem et_not_f (h : EvT t σ H true) : EvT (tNot t) σ H false := et_not h
theorem et_and_f (h1 : EvT t σ H false) : EvT (tAnd t u) σ H false := fun H1 e Q q => h1 H1 e _ fun H2 e2 => by
  show Q false H2
  exact q H2 e2
theorem et_and_t {b : Bool} (h1 : EvT t σ H true) (h2 : EvT u σ H b) : EvT (tAnd t u) σ H b := fun H1 e Q q => h1 H1 e _ fun H2 e2 => by
  show u σ H2 Q
  exact h2 H2 (e.trans e2) Q fun H3 e3 => q H3 (e2.trans e3)
theorem et_or_t (h1 : EvT t σ H true) : EvT (tOr t u) σ H true := fun H1 e Q q => h1 H1 e _ fun H2 e2 => by
  show Q true H2
  exact q H2 e2
theorem et_or_f {b : Bool} (h1 : EvT t σ H false) (h2 : EvT u σ H b) : EvT (tOr t u) σ H b := fun H1 e Q q => h1 H1 e _ fun H2 e2 => by
  show u σ H2 Q
  exact h2 H2 (e.trans e2) Q fun H3 e3 => q H3 (e2.trans e3)
theorem ev_and_f (h1 : Ev ta σ H (.bl false)) : Ev (tAndV ta tb) σ H (.bl false) := fun H1 e Q q => h1 H1 e _ fun H2 e2 => ⟨false, rfl, by
  show Q (.bl false) H2
  exact q H2 e2⟩
theorem ev_and_t (h1 : Ev ta σ H (.bl true)) (h2 : Ev tb σ H v) : Ev (tAndV ta tb) σ H v := fun H1 e Q q => h1 H1 e _ fun H2 e2 => ⟨true, rfl, by
  show tb σ H2 Q
  exact h2 H2 (e.trans e2) Q fun H3 e3 => q H3 (e2.trans e3)⟩
theorem ev_or_t (h1 : Ev ta σ H (.bl true)) : Ev (tOrV ta tb) σ H (.bl true) := fun H1 e Q q => h1 H1 e _ fun H2 e2 => ⟨true, rfl, by
  show Q (.bl true) H2
  exact q H2 e2⟩
theorem ev_or_f (h1 : Ev ta σ H (.bl false)) (h2 : Ev tb σ H v) : Ev (tOrV ta tb) σ H v := fun H1 e Q q => h1 H1 e _ fun H2 e2 => ⟨false, rfl, by
  show tb σ H2 Q
  exact h2 H2 (e.trans e2) Q fun H3 e3 => q H3 (e2.trans e3)⟩
theorem ev_not_t (h1 : Ev ta σ H (.bl false)) : Ev (tNotV ta) σ H (.bl true) := ev_notV h1
theorem ev_not_f (h1 : Ev ta σ H (.bl true)) : Ev (tNotV ta) σ H (.bl false) := ev_notV h1
theorem ev_if_t (h : EvT t σ H true) (h1 : Ev ta σ H v) : Ev (tIf t ta tb) σ H v := ev_if h (fun _ => h1) fun z => by cases z
theorem ev_if_f (h : EvT t σ H false) (h1 : Ev tb σ H v) : Ev (tIf t ta tb) σ H v := ev_if h (fun z => by cases z) fun _ => h1
/-! ### operators -/
theorem ev_eq {b : Bool} (ha : Ev ta σ H x) (hb : Ev tb σ H y) (hs : scal x y = true) (hd : decide (x = y) = b) : Ev (tOp rEq ta tb) σ H (.bl b) := by
  subst hd
  exact ev_op ha hb (rv_eq hs)
theorem ev_ne {b : Bool} (ha : Ev ta σ H x) (hb : Ev tb σ H y) (hs : scal x y = true) (hd : (!decide (x = y)) = b) : Ev (tOp rNe ta tb) σ H (.bl b) := by
  subst hd
  exact ev_op ha hb (rv_ne hs)
theorem ev_int0 {g : Int → Int → V} {i j : Int} (ha : Ev ta σ H (.int i)) (hb : Ev tb σ H (.int j)) (e : g i j = v) : Ev (tOp (rI0 g) ta tb) σ H v := by
  subst e
  exact ev_op ha hb rv_I0
theorem ev_ixT {a : Addr} {xs : List V} {i : Int} (ha : Ev ta σ H (.ref a)) (hb : Ev tb σ H (.int i)) (hx : Tp H a xs) (hi : atI xs i = some v) : Ev (tOp (rIxT K) ta tb) σ H v := ev_op ha hb (rv_ixT (st_of hx) hi)
theorem ev_ixLs {a : Addr} {xs : List V} {i : Int} (ha : Ev ta σ H (.ref a)) (hb : Ev tb σ H (.int i)) (hx : Ls H a xs) (hi : atI xs i = some v) : Ev (tOp (rIxL K) ta tb) σ H v := ev_op ha hb (rv_ixL (sq_of hx) hi)
theorem ev_isN {b : Bool} (ha : Ev ta σ H x) (hd : decide (x = .non) = b) : Ev (tOp rIsN ta (tC .non)) σ H (.bl b) := fun H1 e Q q => ha H1 e _ fun H2 e2 => ⟨rfl, by
  rw [hd]
  exact q H2 e2⟩
theorem ev_notN {b : Bool} (ha : Ev ta σ H x) (hd : (!decide (x = .non)) = b) : Ev (tOp rNotN ta (tC .non)) σ H (.bl b) := fun H1 e Q q => ha H1 e _ fun H2 e2 => ⟨rfl, by
  rw [hd]
  exact q H2 e2⟩
theorem ev_isB {a c b : Bool} (ha : Ev ta σ H (.bl a)) (hb : Ev tb σ H (.bl c)) (hd : decide (a = c) = b) : Ev (tOp rIsB ta tb) σ H (.bl b) := fun H1 e Q q => ha H1 e _ fun H2 e2 => hb H2 (e.trans e2) _ fun H3 e3 => ⟨a, c, rfl, rfl, by
  rw [hd]
  exact q H3 (e2.trans e3)⟩
theorem ev_inT {b : Bool} {a : Addr} {xs : List V} (ha : Ev ta σ H x) (hb : Ev tb σ H (.ref a)) (hx : Tp H a xs) (f1 : flatV x = true) (f2 : xs.all flatV = true) (hd : inV x xs = b) : Ev (tOp (rIn K false) ta tb) σ H (.bl b) := by
  subst hd
  exact ev_op ha hb (rv_isT (st_of hx) f1 f2)
theorem ev_inLs {b : Bool} {a : Addr} {xs : List V} (ha : Ev ta σ H x) (hb : Ev tb σ H (.ref a)) (hx : Ls H a xs) (f1 : flatV x = true) (f2 : xs.all flatV = true) (hd : inV x xs = b) : Ev (tOp (rIn K false) ta tb) σ H (.bl b) := by
  subst hd
  exact ev_op ha hb (rv_isL (sq_of hx) f1 f2)
theorem ev_inN {b : Bool} {xs : List V} (ha : Ev ta σ H x) (hb : EvU tb σ H xs) (f1 : flatV x = true) (f2 : xs.all flatV = true) (hd : inV x xs = b) : Ev (tOp (rIn K false) ta tb) σ H (.bl b) := by
  subst hd
  exact ev_inU ha hb f1 f2
theorem ev_niN {b : Bool} {xs : List V} (ha : Ev ta σ H x) (hb : EvU tb σ H xs) (f1 : flatV x = true) (f2 : xs.all flatV = true) (hd : (!inV x xs) = b) : Ev (tOp (rIn K true) ta tb) σ H (.bl b) := by
  subst hd
  exact ev_niU ha hb f1 f2
end
/-! ### one way, by the answer -/
def Ct (a b : Bool) (U : Bool → Prop) : Prop := (a = true ∧ U b) ∨ (a = false ∧ b = false)
def Cf (a b : Bool) (U : Bool → Prop) : Prop := (a = false ∧ U b) ∨ (a = true ∧ b = true)
def CtV (a : Bool) (v : V) (U : V → Prop) : Prop := (a = true ∧ U v) ∨ (a = false ∧ v = .bl false)
def CfV (a : Bool) (v : V) (U : V → Prop) : Prop := (a = false ∧ U v) ∨ (a = true ∧ v = .bl true)
def Ci (a : Bool) (U W : Prop) : Prop := (a = true ∧ U) ∨ (a = false ∧ W)
theorem ct_t {b : Bool} {U : Bool → Prop} (h : U b) : Ct true b U := .inl ⟨rfl, h⟩
theorem ct_f {U : Bool → Prop} : Ct false false U := .inr ⟨rfl, rfl⟩
theorem cf_f {b : Bool} {U : Bool → Prop} (h : U b) : Cf false b U := .inl ⟨rfl, h⟩
theorem cf_t {U : Bool → Prop} : Cf true true U := .inr ⟨rfl, rfl⟩
theorem ctv_t {v : V} {U : V → Prop} (h : U v) : CtV true v U := .inl ⟨rfl, h⟩
theorem ctv_f {U : V → Prop} : CtV false (.bl false) U := .inr ⟨rfl, rfl⟩
theorem cfv_f {v : V} {U : V → Prop} (h : U v) : CfV false v U := .inl ⟨rfl, h⟩
theorem cfv_t {U : V → Prop} : CfV true (.bl true) U := .inr ⟨rfl, rfl⟩
theorem ci_t {U W : Prop} (h : U) : Ci true U W := .inl ⟨rfl, h⟩
theorem ci_f {U W : Prop} (h : W) : Ci false U W := .inr ⟨rfl, h⟩
theorem ln0 : ((([] : List V).length : Nat) : Int) = 0 := rfl
theorem ln1 {a : V} : ((([a] : List V).length : Nat) : Int) = 1 := rfl
theorem ln2 {a b : V} : ((([a, b] : List V).length : Nat) : Int) = 2 := rfl
theorem ln3 {a b c : V} : ((([a, b, c] : List V).length : Nat) : Int) = 3 := rfl
theorem ln4 {a b c d : V} : ((([a, b, c, d] : List V).length : Nat) : Int) = 4 := rfl
theorem iv_f {x : V} {xs : List V} (h : inV x xs = false) : inV x xs = false := h
theorem iv_t {x : V} {xs : List V} (h : inV x xs = true) : inV x xs = true := h
theorem ivn_f {x : V} {xs : List V} (h : inV x xs = true) : (!inV x xs) = false := by
  rw [h]
  rfl
theorem ivn_t {x : V} {xs : List V} (h : inV x xs = false) : (!inV x xs) = true := by
  rw [h]
  rfl
theorem nb_t : (!false) = true := rfl
theorem nb_f : (!true) = false := rfl
theorem dd_f {p : Prop} [Decidable p] (h : decide p = false) : decide p = false := h
theorem dd_t {p : Prop} [Decidable p] (h : decide p = true) : decide p = true := h
theorem dn_f {p : Prop} [Decidable p] (h : decide p = true) : (!decide p) = false := by
  rw [h]
  rfl
theorem dn_t {p : Prop} [Decidable p] (h : decide p = false) : (!decide p) = true := by
  rw [h]
  rfl
section
variable {K : PySem.W.Frag} {σ : L2.St} {H : Hp} {ta tb te tx : TE} {t u : TT} {x y z v : V} {r : Res} {tu tw tz : TS} {a b : Bool}
theorem et_andG (h1 : EvT t σ H a) (h2 : Ct a b (EvT u σ H)) : EvT (tAnd t u) σ H b := by
  rcases h2 with ⟨rfl, h⟩ | ⟨rfl, rfl⟩
  · exact et_and_t h1 h
  · exact et_and_f h1
theorem et_orG (h1 : EvT t σ H a) (h2 : Cf a b (EvT u σ H)) : EvT (tOr t u) σ H b := by
  rcases h2 with ⟨rfl, h⟩ | ⟨rfl, rfl⟩
  · exact et_or_f h1 h
  · exact et_or_t h1
theorem et_notG (h1 : EvT t σ H a) (h2 : (!a) = b) : EvT (tNot t) σ H b := by
  subst h2
  exact et_not h1
theorem ev_andG (h1 : Ev ta σ H (.bl a)) (h2 : CtV a v (Ev tb σ H)) : Ev (tAndV ta tb) σ H v := by
  rcases h2 with ⟨rfl, h⟩ | ⟨rfl, rfl⟩
  · exact ev_and_t h1 h
  · exact ev_and_f h1
theorem ev_orG (h1 : Ev ta σ H (.bl a)) (h2 : CfV a v (Ev tb σ H)) : Ev (tOrV ta tb) σ H v := by
  rcases h2 with ⟨rfl, h⟩ | ⟨rfl, rfl⟩
  · exact ev_or_f h1 h
  · exact ev_or_t h1
theorem ev_notG (h1 : Ev ta σ H (.bl a)) (h2 : (!a) = b) : Ev (tNotV ta) σ H (.bl b) := by
  subst h2
  exact ev_notV h1
theorem ev_ifG (h : EvT t σ H a) (h2 : Ci a (Ev ta σ H v) (Ev tb σ H v)) : Ev (tIf t ta tb) σ H v := by
  rcases h2 with ⟨rfl, h2⟩ | ⟨rfl, h2⟩
  · exact ev_if_t h h2
  · exact ev_if_f h h2
theorem re_ifG (h : EvT t σ H a) (h2 : Ci a (RR tu σ H r) (RR tz σ H r)) : RR (tSeq (tIfS t tu tNext) tz) σ H r := by
  rcases h2 with ⟨rfl, h2⟩ | ⟨rfl, h2⟩
  · exact re_yes h h2
  · exact re_no h h2
theorem re_retV (h : Ev te σ H v) : RR (tRet te) σ H (.val v) := re_ret (er_val h)
theorem re_asgV {i : Nat} (h : Ev te σ H x) (k : RR tz (σ.set i (some x)) H r) : RR (tSeq (tAsg te (gName i)) tz) σ H r := re_asg (er_val h) k
end
section
variable {K : PySem.W.Frag} {σ : L2.St} {H : Hp} {ta tb te tx : TE} {t u : TT} {x y z v : V} {r : Res} {tu tw tz : TS}
/-! ### built-ins -/
/-- a value's built-in class -/
inductive VTy (H : Hp) : V → String → Prop where
  | non : VTy H .non "NoneType"
  | bl {b : Bool} : VTy H (.bl b) "bool"
  | int {i : Int} : VTy H (.int i) "int"
  | str {z : Str} : VTy H (.str z) "str"
  | tup {a : Addr} {xs : List V} (h : Tp H a xs) : VTy H (.ref a) "tuple"
  | lst {a : Addr} {xs : List V} (h : Ls H a xs) : VTy H (.ref a) "list"
  | dK {a : Addr} {kvs : List (Key × V)} (h : Dk H a kvs) : VTy H (.ref a) "dict"
theorem VTy.tyx {H H1 : Hp} {x : V} {n : String} (h : VTy H x n) (e : Ex H H1) : TyX K H1 x (.type n) := by
  cases h with
  | non => exact .base .non
  | bl => exact .base (.bl _)
  | int => exact .base (.int _)
  | str => exact .base (.str _)
  | tup h => exact .base (.tup (e _ _ h))
  | lst h => exact .base (.lst (e _ _ h))
  | dK h => exact .base (.dK (e _ _ h))
theorem ev_isi {n c : String} {b : Bool} (ha : Ev ta σ H x) (ty : VTy H x n) (h : kitB n c = some b) : Ev (tCB (rIsi K) (tCons ta (tCons (tC (.ty c)) tNil))) σ H (.bl b) := fun H1 e Q q =>
  ha H1 e _ fun H2 e2 => ⟨x, .ty c, .type n, .type c, b, rfl, .ty c, ty.tyx (e.trans e2), kit_ty h, q H2 e2⟩
theorem kit_tt : kitB "tuple" "tuple" = some true := by decide +kernel
theorem kit_ss : kitB "str" "str" = some true := by decide +kernel
theorem kit_ii : kitB "int" "int" = some true := by decide +kernel
theorem kit_ib : kitB "int" "bool" = some false := by decide +kernel
theorem kit_ni : kitB "NoneType" "int" = some false := by decide +kernel
theorem kit_dd : kitB "dict" "dict" = some true := by decide +kernel
theorem kit_ll : kitB "list" "list" = some true := by decide +kernel
theorem ev_lenT {a : Addr} {xs : List V} (ha : Ev ta σ H (.ref a)) (h : Tp H a xs) {n : Int} (e : (xs.length : Int) = n) : Ev (tCB (rLenS K) (tCons ta tNil)) σ H (.int n) := fun H1 e1 Q q =>
  ha H1 e1 _ fun H2 e2 => ⟨a, xs, rfl, Or.inr (st_of ((e1.trans e2) _ _ h)), by
    rw [e]
    exact q H2 e2⟩
theorem ev_lenL {a : Addr} {xs : List V} (ha : Ev ta σ H (.ref a)) (h : Ls H a xs) {n : Int} (e : (xs.length : Int) = n) : Ev (tCB (rLenS K) (tCons ta tNil)) σ H (.int n) := fun H1 e1 Q q =>
  ha H1 e1 _ fun H2 e2 => ⟨a, xs, rfl, Or.inl (sq_of ((e1.trans e2) _ _ h)), by
    rw [e]
    exact q H2 e2⟩
theorem ev_dget {a : Addr} {kvs : List (Key × V)} {k : Key} (ha : Ev ta σ H (.ref a)) (hb : Ev tb σ H (kV k)) (hd : Dk H a kvs) (hv : valV kvs k = some v) : Ev (tDGet ta tb) σ H v := fun H1 e Q q =>
  ha H1 e _ fun H2 e2 => hb H2 (e.trans e2) _ fun H3 e3 => ⟨a, v, rfl, by
    rw [← hv]
    exact DGet.k ((e.trans (e2.trans e3)) _ _ hd), q H3 (e2.trans e3)⟩
theorem ev_dgetS {a : Addr} {kvs : List (Key × V)} {z : Str} (ha : Ev ta σ H (.ref a)) (hb : Ev tb σ H (.str z)) (hd : Dk H a kvs) (hv : valV kvs (Sum.inr z : Key) = some v) : Ev (tDGet ta tb) σ H v := ev_dget (k := Sum.inr z) ha hb hd hv
theorem ev_all {bs : List Bool} {b : Bool} (ha : EvL ta σ H (bs.map V.bl)) (h : bs.all id = b) : Ev (tCB (rAll K) (tCons ta tNil)) σ H (.bl b) := fun H1 e Q q => ha H1 e _ fun p H2 hp e2 h2 =>
  ⟨p, bs, rfl, sq_of h2, by
    rw [h]
    exact q H2 e2⟩
end
section
variable {X : Cx}
theorem cr_len : CallR X (.builtin "len") (rLenS X.K) := call_len_seq
theorem op_isN2 : OpR X (compareOp .Is) rIsN := op_isN
theorem op_notN2 : OpR X (compareOp .IsNot) rNotN := op_notN
end
/-! ### what is walked, in the extension order -/
/-- wi walks the items xs, none of which the heap's growing changes -/
def EvI (wi : TI) (σ : L2.St) (H : Hp) (xs : List V) : Prop := ∀ H1, Ex H H1 → ∀ R : It → Hp → Prop, (∀ J H2, Ex H1 H2 → (∃ G : Hp → Prop, Walk J xs.length G (YAt xs) ∧ (∀ H3, Ex H2 H3 → G H3) ∧ ∀ D, H D = none → H1 D ≠ none → ∀ H3, (∀ b o, b ≠ D → H2 b = some o → H3 b = some o) → G H3) → R J H2) → wi σ H1 R
section
variable {K : PySem.W.Frag} {σ : L2.St} {H : Hp} {ta tb te tl : TE} {tt : TT} {r : Res} {wi : TI} {xs ys : List V} {a : Addr} {vs : List Nat} {j : Nat}
theorem ei_list (h : Ev tl σ H (.ref a)) (hx : Ls H a xs) : EvI (iList K tl) σ H xs := fun H1 e R q => h H1 e _ fun H2 e2 =>
  ⟨a, rfl, ⟨xs, sq_of ((e.trans e2) _ _ hx)⟩, q _ H2 e2 ⟨_, walk_list, fun H3 e3 => sq_of ((e.trans (e2.trans e3)) _ _ hx), fun D hD _ H3 e3 => sq_of (e3 _ _ (ne_of_none hx hD) ((e.trans e2) _ _ hx))⟩⟩
theorem ei_new (h : EvL tl σ H xs) : EvI (iList K tl) σ H xs := fun H1 e R q => h H1 e _ fun p H2 hp e2 h2 =>
  ⟨p, rfl, ⟨xs, sq_of h2⟩, q _ H2 e2 ⟨_, walk_list, fun H3 e3 => sq_of (e3 _ _ h2), fun D _ hD H3 e3 => sq_of (e3 _ _ (fun z => hD (z ▸ hp)) h2)⟩⟩
theorem ei_tup (h : Ev tl σ H (.ref a)) (hx : Tp H a xs) : EvI (iTup K tl) σ H xs := fun H1 e R q => h H1 e _ fun H2 e2 =>
  ⟨a, rfl, ⟨xs, st_of ((e.trans e2) _ _ hx)⟩, q _ H2 e2 ⟨_, walk_tup, fun H3 e3 => st_of ((e.trans (e2.trans e3)) _ _ hx), fun D hD _ H3 e3 => st_of (e3 _ _ (ne_of_none hx hD) ((e.trans e2) _ _ hx))⟩⟩
theorem take_snoc {ys : List V} {i : Nat} {y : V} (h : ys[i]? = some y) : ys.take i ++ [y] = ys.take (i + 1) := by
  rw [List.take_add_one, h]
  rfl
/-- [e for x in xs] -/
theorem el_lc (hi : EvI wi σ H xs) (hz : xs.length ≤ 40000) (hl : ys.length = xs.length) (hw : ∀ x, wipe ((wipe σ vs).set j (some x)) vs = wipe σ vs)
    (he : ∀ (i : Nat) (x y : V), xs[i]? = some x → ys[i]? = some y → Ev te ((wipe σ vs).set j (some x)) H y) : EvL (tLc wi (gName j) tYes te vs) σ H ys := fun H0 e Q q => hi H0 e _ fun J H1 e1 ⟨G, W, hG, _⟩ => fun D hD =>
  lc_it W (fun i H' => Ex H1 H' ∧ H' D = some (.lst (ys.take i))) ⟨Ex.new hD, by rw [List.take_zero]; exact upd_same⟩ (fun i H' _ p => hG H' p.1)
    (fun i x H2 H2' hi p y => by
      obtain ⟨rfl, hx⟩ := y
      have hy : ys[i]? = some (ys[i]'(by omega)) := List.getElem?_eq_getElem (by omega)
      refine ⟨hw x, ?_⟩
      show te ((wipe σ vs).set j (some x)) H2' _
      refine he i x _ hx hy H2' ((e.trans e1).trans p.1) _ fun H4 e4 => ?_
      have hl2 : (ys.take i).length ≤ ys.length := by
        rw [List.length_take]
        omega
      refine ⟨ys.take i, e4 _ _ p.2, sz_lt (by omega), Ex.mut (p.1.trans e4) hD, ?_⟩
      rw [← take_snoc hy]
      exact upd_same)
    (fun H' p => q D H' (fresh_back e1 hD) (e1.trans p.1) (by rw [p.2, ← hl, List.take_length]))
/-- the kept ones -/
def kept : List Bool → List V → List V
  | true :: bs, y :: ys => y :: kept bs ys
  | false :: bs, _ :: ys => kept bs ys
  | _, _ => []
theorem kept_len : ∀ (bs : List Bool) (ys : List V), (kept bs ys).length ≤ ys.length
  | true :: bs, y :: ys => Nat.succ_le_succ (kept_len bs ys)
  | false :: bs, y :: ys => Nat.le_succ_of_le (kept_len bs ys)
  | [], ys => Nat.zero_le _
  | true :: bs, [] => Nat.zero_le _
  | false :: bs, [] => Nat.zero_le _
theorem kept_snoc : ∀ {bs : List Bool} {ys : List V} {b : Bool} {y : V}, bs.length = ys.length → kept (bs ++ [b]) (ys ++ [y]) = kept bs ys ++ (if b = true then [y] else [])
  | [], [], true, y, _ => rfl
  | [], [], false, y, _ => rfl
  | true :: bs, z :: ys, b, y, h => by
    show z :: kept (bs ++ [b]) (ys ++ [y]) = z :: (kept bs ys ++ _)
    rw [kept_snoc (Nat.succ.inj h)]
  | false :: bs, z :: ys, b, y, h => kept_snoc (bs := bs) (ys := ys) (Nat.succ.inj h)
  | [], z :: ys, b, y, h => by cases h
  | true :: bs, [], b, y, h => by cases h
  | false :: bs, [], b, y, h => by cases h
theorem take_snocB {ys : List Bool} {i : Nat} {y : Bool} (h : ys[i]? = some y) : ys.take i ++ [y] = ys.take (i + 1) := by
  rw [List.take_add_one, h]
  rfl
/-- [e for x in xs if t]: bs the tests' answers, ys the elements (any where the test is false) -/
theorem el_lcIf {bs : List Bool} (hi : EvI wi σ H xs) (hz : xs.length ≤ 40000) (hl : ys.length = xs.length) (hb : bs.length = xs.length) (hw : ∀ x, wipe ((wipe σ vs).set j (some x)) vs = wipe σ vs)
    (ht : ∀ (i : Nat) (x : V) (b : Bool), xs[i]? = some x → bs[i]? = some b → EvT tt ((wipe σ vs).set j (some x)) H b)
    (he : ∀ (i : Nat) (x y : V), xs[i]? = some x → ys[i]? = some y → bs[i]? = some true → Ev te ((wipe σ vs).set j (some x)) H y) : EvL (tLc wi (gName j) tt te vs) σ H (kept bs ys) := fun H0 e Q q => hi H0 e _ fun J H1 e1 ⟨G, W, hG, _⟩ => fun D hD =>
  lc_it W (fun i H' => Ex H1 H' ∧ H' D = some (.lst (kept (bs.take i) (ys.take i)))) ⟨Ex.new hD, by rw [List.take_zero, List.take_zero]; exact upd_same⟩ (fun i H' _ p => hG H' p.1)
    (fun i x H2 H2' hi p y => by
      obtain ⟨rfl, hx⟩ := y
      have hy : ys[i]? = some (ys[i]'(by omega)) := List.getElem?_eq_getElem (by omega)
      have hbi : bs[i]? = some (bs[i]'(by omega)) := List.getElem?_eq_getElem (by omega)
      refine ⟨hw x, ?_⟩
      show tt ((wipe σ vs).set j (some x)) H2' _
      refine ht i x _ hx hbi H2' ((e.trans e1).trans p.1) _ fun H3 e3 => ?_
      have eq : kept (bs.take (i + 1)) (ys.take (i + 1)) = kept (bs.take i) (ys.take i) ++ (if bs[i]'(by omega) = true then [ys[i]'(by omega)] else []) := by
        rw [← take_snoc hy, ← take_snocB hbi]
        exact kept_snoc (by rw [List.length_take, List.length_take]; omega)
      have hl2 : (kept (bs.take i) (ys.take i)).length ≤ ys.length := by
        refine Nat.le_trans (kept_len _ _) ?_
        rw [List.length_take]
        omega
      cases hv : bs[i]'(by omega) with
      | true =>
        rw [hv] at hbi eq
        show te ((wipe σ vs).set j (some x)) H3 _
        refine he i x _ hx hy hbi H3 ((e.trans e1).trans (p.1.trans e3)) _ fun H4 e4 => ?_
        refine ⟨_, e4 _ _ (e3 _ _ p.2), sz_lt (by omega), Ex.mut (p.1.trans (e3.trans e4)) hD, ?_⟩
        rw [eq, if_pos rfl]
        exact upd_same
      | false =>
        rw [hv] at eq
        refine ⟨p.1.trans e3, ?_⟩
        rw [eq, if_neg Bool.false_ne_true, List.append_nil]
        exact e3 _ _ p.2)
    (fun H' p => q D H' (fresh_back e1 hD) (e1.trans p.1) (by rw [p.2, ← hb, List.take_length, hb, ← hl, List.take_length]))
/-- [e for x in xs for z in f(x)], e being z -/
theorem el_lc2 {wi1 : TI} {vs1 : List Nat} {j1 : Nat} {yss : List (List V)} (hi : EvI wi σ H xs) (hl : yss.length = xs.length) (hz : yss.flatten.length ≤ 40000) (hw : ∀ x, wipe ((wipe σ vs).set j (some x)) vs = wipe σ vs)
    (h1 : ∀ (i : Nat) (x : V) (ys : List V), xs[i]? = some x → yss[i]? = some ys → EvI wi1 ((wipe σ vs).set j (some x)) H ys)
    (hw1 : ∀ x z, wipe ((wipe ((wipe σ vs).set j (some x)) vs1).set j1 (some z)) vs1 = wipe ((wipe σ vs).set j (some x)) vs1)
    (he : ∀ x z, Ev te ((wipe ((wipe σ vs).set j (some x)) vs1).set j1 (some z)) H z) : EvL (tLc2 wi (gName j) tYes wi1 (gName j1) tYes te vs vs1) σ H yss.flatten := fun H0 e Q q => hi H0 e _ fun J H1 e1 ⟨G, W, hG, _⟩ => fun D hD => by
  refine ⟨fun i m H' => m = xs.length - i ∧ i ≤ xs.length ∧ Ex H1 H' ∧ H' D = some (.lst (yss.take i).flatten), ⟨xs.length, by simp, Nat.zero_le _, Ex.new hD, by rw [List.take_zero]; exact upd_same⟩, ?_⟩
  rintro i m H2 ⟨rfl, hi, p1, p2⟩
  have hg := hG H2 p1
  by_cases hlt : i < xs.length
  · refine .inr ⟨W.goes i H2 hlt hg, fun H' => Ex H1 H' ∧ H' D = some (.lst (yss.take (i + 1)).flatten), fun H' p => ⟨xs.length - (i + 1), by omega, rfl, hlt, p.1, p.2⟩, fun x H2' y => ?_⟩
    obtain ⟨rfl, hx⟩ := W.yields i H2 x H2' hlt hg y
    have hy : yss[i]? = some (yss[i]'(by omega)) := List.getElem?_eq_getElem (by omega)
    generalize yss[i]'(by omega) = ys at hy
    refine ⟨hw x, ?_⟩
    show wi1 ((wipe σ vs).set j (some x)) H2' _
    refine h1 i x ys hx hy H2' ((e.trans e1).trans p1) _ fun J1 H3 e3 ⟨G1, W1, _, hG1⟩ => ?_
    have hD0 : H D = none := fresh_back (e.trans e1) hD
    have hD2 : H2' D ≠ none := by
      rw [p2]
      exact fun z => nomatch z
    have ef : (yss.take (i + 1)).flatten = (yss.take i).flatten ++ ys := by
      rw [List.take_add_one, hy, List.flatten_append]
      simp
    have hle : (yss.take i).flatten.length + ys.length ≤ yss.flatten.length := by
      rw [← List.length_append, ← ef]
      conv => rhs; rw [← List.take_append_drop (i + 1) yss, List.flatten_append, List.length_append]
      omega
    refine ⟨fun k n H' => n = ys.length - k ∧ k ≤ ys.length ∧ Ex H1 H' ∧ (∀ b o, b ≠ D → H3 b = some o → H' b = some o) ∧ H' D = some (.lst ((yss.take i).flatten ++ ys.take k)), ⟨ys.length, by simp, Nat.zero_le _, p1.trans e3, fun _ _ _ z => z, by rw [List.take_zero, List.append_nil]; exact e3 _ _ p2⟩, ?_⟩
    rintro k n H5 ⟨rfl, hk, q1, q3, q2⟩
    have hg1 := hG1 D hD0 hD2 H5 q3
    by_cases hkl : k < ys.length
    · refine .inr ⟨W1.goes k H5 hkl hg1, fun H' => Ex H1 H' ∧ (∀ b o, b ≠ D → H3 b = some o → H' b = some o) ∧ H' D = some (.lst ((yss.take i).flatten ++ ys.take (k + 1))), fun H' p => ⟨ys.length - (k + 1), by omega, rfl, hkl, p⟩, fun z H5' y1 => ?_⟩
      obtain ⟨rfl, hz2⟩ := W1.yields k H5 z H5' hkl hg1 y1
      refine ⟨hw1 x z, ?_⟩
      show te _ H5' _
      refine he x z H5' ((e.trans e1).trans q1) _ fun H6 e6 => ?_
      have hl3 : ((yss.take i).flatten ++ ys.take k).length ≤ (yss.take i).flatten.length + ys.length := by
        rw [List.length_append, List.length_take]
        omega
      refine ⟨_, e6 _ _ q2, sz_lt (by omega), Ex.mut (q1.trans e6) hD, fun b o hb h => ?_, ?_⟩
      · rw [upd_ne hb]
        exact e6 _ _ (q3 b o hb h)
      · rw [← take_snoc hz2, ← List.append_assoc]
        exact upd_same
    · have e0 : k = ys.length := by omega
      subst e0
      refine .inl ⟨W1.stops H5 hg1, q1, ?_⟩
      rw [ef, q2, List.take_length]
  · have e0 : i = xs.length := by omega
    subst e0
    exact .inl ⟨W.stops H2 hg, q D H2 (fresh_back e1 hD) (e1.trans p1) (by rw [p2, ← hl, List.take_length])⟩
end
/-! ### the promise of a def that changes nothing -/
abbrev Rel : Type := List V → Hp → Res → Prop
def PSp (R : Rel) : Sp := fun vs H Q _ => ∃ r, R vs H r ∧ ∀ z H', Ex H H' → r.ok H z H' → Q z H'
section
variable {K : PySem.W.Frag} {σ : L2.St} {H : Hp} {ta : TA} {r : Res} {vs : List V} {R : Rel} {E : XK}
theorem er_call (h : EvA ta σ H vs) (hs : ∀ H1, Ex H H1 → R vs H1 r) : EvR (tCall (PSp R) [] E ta) σ H r := fun H1 e Q q =>
  h H1 e _ fun H2 e2 => by
    show PSp R (vs ++ []) H2 Q E
    rw [List.append_nil]
    exact ⟨r, hs H2 (e.trans e2), fun z H3 e3 hz => q z H3 (e2.trans e3) (Res.anti e2 hz)⟩
theorem ev_callP {v : V} (h : EvA ta σ H vs) (hs : ∀ H1, Ex H H1 → R vs H1 (.val v)) : Ev (tCall (PSp R) [] E ta) σ H v := ev_er (er_call h hs)
end
section
variable {P : Program} {w : World} {K : PySem.W.Frag} {mg : Str → Option Value} {base : Heap}
/-- a def of the module that changes nothing -/
theorem Tx.pf (T : Tx K mg) (i j : Nat) {x : Str} {st : Stmt} {N ps : List Str} {k : Nat} {R : Rel} (hd : fns[i]? = some (dG x st [])) (hg : fas[j]? = some (.glo x)) (S : FnScope N ps (defScope st))
    (bi : ∀ (kV doc pm : Value) (an : Option Addr) (cdv ct : Value) (us : List Value), us.length = ps.length → bindArgs (PySem.W.fnOf x x (defArgs st) (defBody st) (defScope st) .none kV doc pm an cdv ct) ⟨us, []⟩ = pure (ps.zip us))
    (len : ∀ vs H r, R vs H r → vs.length = ps.length)
    (body : ∀ (cdv : Value) (A : Around) (outer : List Env) (s : Shared) (H : Hp) (vs : List V) (r : Res) (E : XK), Room k (A.deeper (envOfC x (defScope st) s.heap.objs.size (He.ga K x) cdv)) → R vs H r →
      ∃ t, PSs (cxOf CX0 P w K mg base N x (defScope st) (He.ga K x) cdv A outer s H E).nox (defBody st) t ∧ RR t (start N vs) H r) : C8.Cal P w K mg base (k + 1) x (PSp R) [] :=
  T.df i j hd hg S bi (fun vs H Q E h => by
    obtain ⟨r, h, _⟩ := h
    exact len vs H r h) fun cdv A outer s H vs Q E hr h => by
    obtain ⟨r, h, q⟩ := h
    obtain ⟨t, h1, h2⟩ := body cdv A outer s H vs r E hr h
    exact ⟨t, h1, h2 _ H (Ex.refl H) q⟩
end
end Ot
/-! Otherworths k13: conditions -/
namespace Ot
open PySem PySem.Spec PyProof.Rows L2 Evl
/-! ### data -/
inductive Cd where
  | most (x y : Str) (c : Int)
  | lacks (x : Str)
  | not (a : Cd)
  | all (l : List Cd)
  | any (l : List Cd)
mutual
/-- the condition c stands at v -/
def CAt (H : Hp) : Cd → V → Prop
  | .most x y c, v => ∃ a, v = .ref a ∧ Tp H a [.str "most", .str x, .str y, .int c]
  | .lacks x, v => ∃ a, v = .ref a ∧ Tp H a [.str "lacks", .str x]
  | .not b, v => ∃ a u, v = .ref a ∧ Tp H a [.str "not", u] ∧ CAt H b u
  | .all l, v => ∃ a b us, v = .ref a ∧ Tp H a [.str "and", .ref b] ∧ Tp H b us ∧ CsAt H l us
  | .any l, v => ∃ a b us, v = .ref a ∧ Tp H a [.str "or", .ref b] ∧ Tp H b us ∧ CsAt H l us
def CsAt (H : Hp) : List Cd → List V → Prop
  | [], us => us = []
  | c :: cs, us => ∃ u r, us = u :: r ∧ CAt H c u ∧ CsAt H cs r
end
mutual
theorem CAt.same {H H' : Hp} (e : Ex H H') : ∀ {c : Cd} {v : V}, CAt H c v → CAt H' c v
  | .most x y c, v, h => by
    unfold CAt at h ⊢
    obtain ⟨a, h1, h2⟩ := h
    exact ⟨a, h1, e _ _ h2⟩
  | .lacks x, v, h => by
    unfold CAt at h ⊢
    obtain ⟨a, h1, h2⟩ := h
    exact ⟨a, h1, e _ _ h2⟩
  | .not b, v, h => by
    unfold CAt at h ⊢
    obtain ⟨a, u, h1, h2, h3⟩ := h
    exact ⟨a, u, h1, e _ _ h2, CAt.same e h3⟩
  | .all l, v, h => by
    unfold CAt at h ⊢
    obtain ⟨a, b, us, h1, h2, h3, h4⟩ := h
    exact ⟨a, b, us, h1, e _ _ h2, e _ _ h3, CsAt.same e h4⟩
  | .any l, v, h => by
    unfold CAt at h ⊢
    obtain ⟨a, b, us, h1, h2, h3, h4⟩ := h
    exact ⟨a, b, us, h1, e _ _ h2, e _ _ h3, CsAt.same e h4⟩
theorem CsAt.same {H H' : Hp} (e : Ex H H') : ∀ {cs : List Cd} {us : List V}, CsAt H cs us → CsAt H' cs us
  | [], us, h => by
    unfold CsAt at h ⊢
    exact h
  | c :: cs, us, h => by
    unfold CsAt at h ⊢
    obtain ⟨u, r, h1, h2, h3⟩ := h
    exact ⟨u, r, h1, CAt.same e h2, CsAt.same e h3⟩
end
/-- what may stand on a side of a test -/
def Side (ns : List Str) (x : Str) : Prop := x = "" ∨ x ∈ ns
mutual
/-- how deep it is at most -/
def Cd.Wf (ns : List Str) : Nat → Cd → Prop
  | n, .most x y _ => 1 ≤ n ∧ Side ns x ∧ Side ns y ∧ x ≠ y
  | n, .lacks x => 1 ≤ n ∧ x ∈ ns ∧ x ≠ ""
  | n, .not a => ∃ m, n = m + 1 ∧ Cd.Wf ns m a
  | n, .all l => ∃ m, n = m + 1 ∧ l.length ≤ 6 ∧ Cd.Wfs ns m l
  | n, .any l => ∃ m, n = m + 1 ∧ l.length ≤ 6 ∧ Cd.Wfs ns m l
def Cd.Wfs (ns : List Str) : Nat → List Cd → Prop
  | _, [] => True
  | m, c :: cs => Cd.Wf ns m c ∧ Cd.Wfs ns m cs
end
def Cd.isMost : Cd → Bool
  | .most _ _ _ => true
  | _ => false
def Cd.isLacks : Cd → Bool
  | .lacks _ => true
  | _ => false
/-! ### decisions -/
theorem dec_str_ne {x y : Str} (h : x ≠ y) : decide (V.str x = V.str y) = false := decide_eq_false fun e => h (V.str.inj e)
theorem dec_str_eq {x y : Str} (h : x = y) : decide (V.str x = V.str y) = true := decide_eq_true (congrArg V.str h)
theorem ndec_str_ne {x y : Str} (h : x ≠ y) : (!decide (V.str x = V.str y)) = true := by
  rw [dec_str_ne h]
  rfl
theorem ndec_str_eq {x y : Str} (h : x = y) : (!decide (V.str x = V.str y)) = false := by
  rw [dec_str_eq h]
  rfl
theorem dec_int_ne {x y : Int} (h : x ≠ y) : decide (V.int x = V.int y) = false := decide_eq_false fun e => h (V.int.inj e)
theorem dec_int_eq {x y : Int} (h : x = y) : decide (V.int x = V.int y) = true := decide_eq_true (congrArg V.int h)
theorem ndec_int_ne {x y : Int} (h : x ≠ y) : (!decide (V.int x = V.int y)) = true := by
  rw [dec_int_ne h]
  rfl
theorem ndec_int_eq {x y : Int} (h : x = y) : (!decide (V.int x = V.int y)) = false := by
  rw [dec_int_eq h]
  rfl
theorem dec_int_non {i : Int} : decide (V.int i = V.non) = false := rfl
theorem dec_bl_non {i : Bool} : decide (V.bl i = V.non) = false := rfl
theorem dec_ref_non {i : Addr} : decide (V.ref i = V.non) = false := rfl
theorem dec_str_non {i : Str} : decide (V.str i = V.non) = false := rfl
theorem bl_true {p : Prop} [Decidable p] (h : p) : V.bl (decide p) = V.bl true := congrArg V.bl (decide_eq_true h)
theorem bl_false {p : Prop} [Decidable p] (h : ¬ p) : V.bl (decide p) = V.bl false := congrArg V.bl (decide_eq_false h)
local macro_rules | `(tactic| wtm_at "dc") => `(tactic| first
  | ((with_reducible apply dd_f); decide +kernel)
  | ((with_reducible apply dd_t); decide +kernel)
  | ((with_reducible apply dn_f); decide +kernel)
  | ((with_reducible apply dn_t); decide +kernel)
  | (with_reducible exact dec_int_non)
  | (with_reducible exact dec_bl_non)
  | (with_reducible exact dec_ref_non)
  | (with_reducible exact dec_str_non)
  | (with_reducible exact dec_str_ne (by assumption))
  | (with_reducible exact dec_str_eq (by assumption))
  | (with_reducible exact ndec_str_ne (by assumption))
  | (with_reducible exact ndec_str_eq (by assumption))
  | (with_reducible exact dec_int_ne (by omega))
  | (with_reducible exact dec_int_eq (by omega))
  | (with_reducible exact ndec_int_ne (by omega))
  | (with_reducible exact ndec_int_eq (by omega)))
local macro_rules | `(tactic| wtm_at "ic") => `(tactic| first
  | ((with_reducible apply iv_f); decide +kernel)
  | ((with_reducible apply iv_t); decide +kernel)
  | ((with_reducible apply ivn_f); decide +kernel)
  | ((with_reducible apply ivn_t); decide +kernel))
local macro_rules | `(tactic| wtm_at "iv") => `(tactic| first
  | exact bl_true (by omega)
  | exact bl_false (by omega)
  | rfl)
local macro_rules | `(tactic| wtm_at "ln") => `(tactic| first
  | (with_reducible exact ln0) | (with_reducible exact ln1) | (with_reducible exact ln2) | (with_reducible exact ln3) | (with_reducible exact ln4) | rfl)
local macro_rules | `(tactic| wtm_at "nb") => `(tactic| first
  | (with_reducible exact nb_t)
  | (with_reducible exact nb_f))
local macro_rules | `(tactic| wtm_at "kt") => `(tactic| first
  | (with_reducible exact kit_tt) | (with_reducible exact kit_ss) | (with_reducible exact kit_ii) | (with_reducible exact kit_ib) | (with_reducible exact kit_ni) | (with_reducible exact kit_dd) | (with_reducible exact kit_ll))
local macro_rules | `(tactic| wtm_at "vt") => `(tactic| first
  | exact .str | exact .int | exact .non | exact .bl | exact .tup (by assumption) | exact .lst (by assumption) | exact .dK (by assumption))
local macro_rules | `(tactic| wtm_at "sv") => `(tactic| assumption)
local macro_rules | `(tactic| wtm_at "ct") => `(tactic| first
  | (with_reducible exact ct_f)
  | ((with_reducible apply ct_t); wtm_at "ev")
  | (with_reducible exact cf_t)
  | ((with_reducible apply cf_f); wtm_at "ev")
  | (with_reducible exact ctv_f)
  | ((with_reducible apply ctv_t); wtm_at "ev")
  | (with_reducible exact cfv_t)
  | ((with_reducible apply cfv_f); wtm_at "ev")
  | ((with_reducible apply ci_t); wtm_at "ev")
  | ((with_reducible apply ci_f); wtm_at "ev"))
local macro_rules | `(tactic| wtm_at "ev") => `(tactic| first
  | ((with_reducible apply ev_var); rfl)
  | (with_reducible exact ev_c)
  | (with_reducible exact ea_nil)
  | ((with_reducible apply ea_cons) <;> wtm_at "ev")
  | ((with_reducible apply ev_ixT); (wtm_at "ev"); (wtm_at "ev"); assumption; rfl)
  | ((with_reducible apply ev_dgetS); (wtm_at "ev"); (wtm_at "ev"); assumption; assumption)
  | ((with_reducible apply ev_lenT); (wtm_at "ev"); assumption; (wtm_at "ln"))
  | ((with_reducible apply ev_isi); (wtm_at "ev"); (wtm_at "vt"); (wtm_at "kt"))
  | ((with_reducible apply ev_eq); (wtm_at "ev"); (wtm_at "ev"); rfl; (wtm_at "dc"))
  | ((with_reducible apply ev_ne); (wtm_at "ev"); (wtm_at "ev"); rfl; (wtm_at "dc"))
  | ((with_reducible apply ev_isN); (wtm_at "ev"); (wtm_at "dc"))
  | ((with_reducible apply ev_notN); (wtm_at "ev"); (wtm_at "dc"))
  | ((with_reducible apply ev_int0); (wtm_at "ev"); (wtm_at "ev"); (wtm_at "iv"))
  | ((with_reducible apply ev_niN); (wtm_at "ev"); (wtm_at "ev"); rfl; rfl; (wtm_at "ic"))
  | ((with_reducible apply ev_inN); (wtm_at "ev"); (wtm_at "ev"); rfl; rfl; (wtm_at "ic"))
  | ((with_reducible apply eu_tup); (wtm_at "ev"); simp)
  | ((with_reducible apply el_lst); (wtm_at "ev"); simp)
  | ((with_reducible apply ev_callP); (wtm_at "ev"); (wtm_at "sv"))
  | ((with_reducible apply et_test); wtm_at "ev")
  | ((with_reducible apply et_B); wtm_at "ev")
  | ((with_reducible apply ev_andG); (wtm_at "ev"); (wtm_at "ct"))
  | ((with_reducible apply ev_orG); (wtm_at "ev"); (wtm_at "ct"))
  | ((with_reducible apply ev_notG); (wtm_at "ev"); (wtm_at "nb"))
  | ((with_reducible apply et_andG); (wtm_at "ev"); (wtm_at "ct"))
  | ((with_reducible apply et_orG); (wtm_at "ev"); (wtm_at "ct"))
  | ((with_reducible apply et_notG); (wtm_at "ev"); (wtm_at "nb"))
  | ((with_reducible apply ev_ifG); (wtm_at "ev"); (wtm_at "ct"))
  | assumption)
local macro_rules | `(tactic| wtm_at "re") => `(tactic| first
  | ((with_reducible apply re_ifG); (wtm_at "ev"); first | ((with_reducible apply ci_t); wtm_at "re") | ((with_reducible apply ci_f); wtm_at "re"))
  | ((with_reducible apply re_retV); wtm_at "ev")
  | ((with_reducible apply re_asgV); (wtm_at "ev"); (wtm_at "re"))
  | ((with_reducible apply re_par); (wtm_at "ev"); (wtm_at "re")))
local macro_rules | `(tactic| wtm_at "rs") => `(tactic| repeat ((with_reducible apply re_ifG); (wtm_at "ev"); first | (with_reducible apply ci_t) | (with_reducible apply ci_f)))

/-! ### numbers, sides -/
def RNum : Rel := fun vs _ r => (∃ n : Int, vs = [.int n] ∧ r = .val (.bl true)) ∨ (vs = [.non] ∧ r = .val (.bl false))
def RSide : Rel := fun vs H r => ∃ (a : Addr) (ns : List Str) (z : Str), vs = [.ref a, .str z] ∧ Tp H a (strV ns) ∧ Side ns z ∧ r = .val (.bl true)
theorem sv_num {H : Hp} {n : Int} : ∀ H1, Ex H H1 → RNum [.int n] H1 (.val (.bl true)) := fun _ _ => .inl ⟨n, rfl, rfl⟩
theorem sv_num0 {H : Hp} : ∀ H1, Ex H H1 → RNum [.non] H1 (.val (.bl false)) := fun _ _ => .inr ⟨rfl, rfl⟩
theorem sv_side {H : Hp} {a : Addr} {ns : List Str} {z : Str} (h : Tp H a (strV ns)) (s : Side ns z) : ∀ H1, Ex H H1 → RSide [.ref a, .str z] H1 (.val (.bl true)) := fun H1 e => ⟨a, ns, z, rfl, e _ _ h, s, rfl⟩
local macro_rules | `(tactic| wtm_at "sv") => `(tactic| first | exact sv_num | exact sv_num0 | exact sv_side (by assumption) (by assumption))
theorem inV_str {z : Str} {ns : List Str} (h : z ∈ ns) : inV (.str z) (strV ns) = true := by
  unfold inV
  refine List.any_eq_true.mpr ⟨.str z, List.mem_map.mpr ⟨z, h, rfl⟩, ?_⟩
  show (z == z) = true
  exact beq_self_eq_true z
theorem flat_str (ns : List Str) : (strV ns).all flatV = true := by
  refine List.all_eq_true.mpr fun v hv => ?_
  obtain ⟨z, _, rfl⟩ := List.mem_map.mp hv
  rfl
section
variable {P : Program} {w : World} {K : PySem.W.Frag} {mg : Str → Option Value} {base : Heap}
def nm_is_number : List Str := ["thing"]
theorem sc_is_number : FnScope nm_is_number ["thing"] (defScope s_is_number) := C8.fnScope_by (by decide +kernel)
theorem ok_is_number (T : Tx K mg) : C8.Cal P w K mg base 1 "is_number" (PSp RNum) [] := by
  refine T.pf 0 0 rfl rfl sc_is_number (fun _ _ _ _ _ _ us hl => match us, hl with | [_], _ => rfl) (fun vs H r h => ?_) (fun cdv A outer s H vs r E hr h => ?_)
  · rcases h with ⟨_, rfl, _⟩ | ⟨rfl, _⟩ <;> rfl
  · have nd := sc_is_number.nd
    refine ⟨_, (pss_one (ps_ret (pe_and (pe_callB call_isi (by rfl) T.f_isinstance (by decide +kernel) (pa_cons (pv 0) (pa_cons (pe_bltn (v := .ty "int") (u := .type "int") (by rfl) T.f_int (by decide +kernel) rfl) pa_nil))) (pe_one (pe_not (pe_callB call_isi (by rfl) T.f_isinstance (by decide +kernel) (pa_cons (pv 0) (pa_cons (pe_bltn (v := .ty "bool") (u := .type "bool") (by rfl) T.f_bool (by decide +kernel) rfl) pa_nil)))))))), ?_⟩
    rcases h with ⟨n, rfl, rfl⟩ | ⟨rfl, rfl⟩
    · wtm_at "re"
    · wtm_at "re"
def nm_is_side : List Str := ["names", "thing"]
theorem sc_is_side : FnScope nm_is_side ["names", "thing"] (defScope s_is_side) := C8.fnScope_by (by decide +kernel)
theorem ok_is_side (T : Tx K mg) : C8.Cal P w K mg base 1 "is_side" (PSp RSide) [] := by
  refine T.pf 11 11 rfl rfl sc_is_side (fun _ _ _ _ _ _ us hl => match us, hl with | [_, _], _ => rfl) (fun vs H r h => ?_) (fun cdv A outer s H vs r E hr h => ?_)
  · obtain ⟨_, _, _, rfl, _⟩ := h
    rfl
  · have nd := sc_is_side.nd
    refine ⟨_, (pss_one (ps_ret (pe_and (pe_callB call_isi (by rfl) T.f_isinstance (by decide +kernel) (pa_cons (pv 1) (pa_cons (pe_bltn (v := .ty "str") (u := .type "str") (by rfl) T.f_str (by decide +kernel) rfl) pa_nil))) (pe_one (pe_or (pe_cmpR op_eq (pv 1) pe_str (nomark _)) (pe_one (pe_cmpR op_in_seq (pv 1) (pv 0) (by rfl)))))))), ?_⟩
    obtain ⟨a, ns, z, rfl, hn, hz, rfl⟩ := h
    refine re_ret (er_val (ev_and_t (by wtm_at "ev") ?_))
    by_cases h0 : z = ""
    · exact ev_or_t (by wtm_at "ev")
    · refine ev_or_f (by wtm_at "ev") ?_
      exact ev_inT (by wtm_at "ev") (by wtm_at "ev") hn rfl (flat_str ns) (inV_str (hz.resolve_left h0))
def nm_is_most : List Str := ["names", "thing"]
theorem sc_is_most : FnScope nm_is_most ["names", "thing"] (defScope s_is_most) := C8.fnScope_by (by decide +kernel)
def RMost : Rel := fun vs H r => ∃ (a : Addr) (ns : List Str) (v : V) (c : Cd) (n : Nat), vs = [.ref a, v] ∧ Tp H a (strV ns) ∧ CAt H c v ∧ c.Wf ns n ∧ r = .val (.bl c.isMost)
def RLacks : Rel := fun vs H r => ∃ (a : Addr) (ns : List Str) (v : V) (c : Cd) (n : Nat), vs = [.ref a, v] ∧ Tp H a (strV ns) ∧ CAt H c v ∧ c.Wf ns n ∧ r = .val (.bl c.isLacks)
theorem ok_is_most (T : Tx K mg) (C_is_side : C8.Cal P w K mg base 1 "is_side" (PSp RSide) []) (C_is_number : C8.Cal P w K mg base 1 "is_number" (PSp RNum) []) : C8.Cal P w K mg base 2 "is_most" (PSp RMost) [] := by
  refine T.pf 12 12 rfl rfl sc_is_most (fun _ _ _ _ _ _ us hl => match us, hl with | [_, _], _ => rfl) (fun vs H r h => ?_) (fun cdv A outer s H vs r E hr h => ?_)
  · obtain ⟨_, _, _, _, _, rfl, _⟩ := h
    rfl
  · have nd := sc_is_most.nd
    refine ⟨_, (pss_cons (ps_if (PW.pt (pw_or (pt_not (pt_val (pe_callB call_isi (by rfl) T.f_isinstance (by decide +kernel) (pa_cons (pv 1) (pa_cons (pe_bltn (v := .ty "tuple") (u := .type "tuple") (by rfl) T.f_tuple (by decide +kernel) rfl) pa_nil))))) (pw_or (pt_cmpR op_ne (pe_callB cr_len (by rfl) T.f_len PySem.boot_len (pa_cons (pv 1) pa_nil)) pe_int (nomark _)) (pw_or (pt_not (pt_val (pe_callB call_isi (by rfl) T.f_isinstance (by decide +kernel) (pa_cons (pe_ix ix_tup (pv 1) pe_int (fun _ _ => rfl)) (pa_cons (pe_bltn (v := .ty "str") (u := .type "str") (by rfl) T.f_str (by decide +kernel) rfl) pa_nil))))) (pw_or1 (pt_cmpR op_ne (pe_ix ix_tup (pv 1) pe_int (fun _ _ => rfl)) pe_str (nomark _)))))))
      (pss_one (ps_ret pe_bl))
      pss_nil)
      (pss_one (ps_ret (pe_and (C8.pe_c C_is_side hr (by omega) (by rfl) (pa_cons (pv 0) (pa_cons (pe_ix ix_tup (pv 1) pe_int (fun _ _ => rfl)) pa_nil))) (pe_and (C8.pe_c C_is_side hr (by omega) (by rfl) (pa_cons (pv 0) (pa_cons (pe_ix ix_tup (pv 1) pe_int (fun _ _ => rfl)) pa_nil))) (pe_and (pe_cmpR op_ne (pe_ix ix_tup (pv 1) pe_int (fun _ _ => rfl)) (pe_ix ix_tup (pv 1) pe_int (fun _ _ => rfl)) (nomark _)) (pe_one (C8.pe_c C_is_number hr (by omega) (by rfl) (pa_cons (pe_ix ix_tup (pv 1) pe_int (fun _ _ => rfl)) pa_nil))))))))), ?_⟩
    obtain ⟨a, ns, v, c, n, rfl, hn, hc, hw, rfl⟩ := h
    cases c with
    | most x y k =>
      unfold CAt at hc
      unfold Cd.Wf at hw
      obtain ⟨b, rfl, hb⟩ := hc
      obtain ⟨h1, h2, h3, h4⟩ := hw
      exact (show RR _ _ _ (.val (.bl true)) from by wtm_at "re")
    | lacks x =>
      unfold CAt at hc
      obtain ⟨b, rfl, hb⟩ := hc
      exact (show RR _ _ _ (.val (.bl false)) from by wtm_at "re")
    | not x =>
      unfold CAt at hc
      obtain ⟨b, u, rfl, hb, _⟩ := hc
      exact (show RR _ _ _ (.val (.bl false)) from by wtm_at "re")
    | all x =>
      unfold CAt at hc
      obtain ⟨b, u, us, rfl, hb, _⟩ := hc
      exact (show RR _ _ _ (.val (.bl false)) from by wtm_at "re")
    | any x =>
      unfold CAt at hc
      obtain ⟨b, u, us, rfl, hb, _⟩ := hc
      exact (show RR _ _ _ (.val (.bl false)) from by wtm_at "re")
def nm_is_lacks : List Str := ["names", "thing"]
theorem sc_is_lacks : FnScope nm_is_lacks ["names", "thing"] (defScope s_is_lacks) := C8.fnScope_by (by decide +kernel)
theorem ok_is_lacks (T : Tx K mg) (C_is_side : C8.Cal P w K mg base 1 "is_side" (PSp RSide) []) : C8.Cal P w K mg base 2 "is_lacks" (PSp RLacks) [] := by
  refine T.pf 13 13 rfl rfl sc_is_lacks (fun _ _ _ _ _ _ us hl => match us, hl with | [_, _], _ => rfl) (fun vs H r h => ?_) (fun cdv A outer s H vs r E hr h => ?_)
  · obtain ⟨_, _, _, _, _, rfl, _⟩ := h
    rfl
  · have nd := sc_is_lacks.nd
    refine ⟨_, (pss_cons (ps_if (PW.pt (pw_or (pt_not (pt_val (pe_callB call_isi (by rfl) T.f_isinstance (by decide +kernel) (pa_cons (pv 1) (pa_cons (pe_bltn (v := .ty "tuple") (u := .type "tuple") (by rfl) T.f_tuple (by decide +kernel) rfl) pa_nil))))) (pw_or (pt_cmpR op_ne (pe_callB cr_len (by rfl) T.f_len PySem.boot_len (pa_cons (pv 1) pa_nil)) pe_int (nomark _)) (pw_or (pt_not (pt_val (pe_callB call_isi (by rfl) T.f_isinstance (by decide +kernel) (pa_cons (pe_ix ix_tup (pv 1) pe_int (fun _ _ => rfl)) (pa_cons (pe_bltn (v := .ty "str") (u := .type "str") (by rfl) T.f_str (by decide +kernel) rfl) pa_nil))))) (pw_or1 (pt_cmpR op_ne (pe_ix ix_tup (pv 1) pe_int (fun _ _ => rfl)) pe_str (nomark _)))))))
      (pss_one (ps_ret pe_bl))
      pss_nil)
      (pss_one (ps_ret (pe_and (C8.pe_c C_is_side hr (by omega) (by rfl) (pa_cons (pv 0) (pa_cons (pe_ix ix_tup (pv 1) pe_int (fun _ _ => rfl)) pa_nil))) (pe_one (pe_cmpR op_ne (pe_ix ix_tup (pv 1) pe_int (fun _ _ => rfl)) pe_str (nomark _))))))), ?_⟩
    obtain ⟨a, ns, v, c, n, rfl, hn, hc, hw, rfl⟩ := h
    cases c with
    | most x y k =>
      unfold CAt at hc
      obtain ⟨b, rfl, hb⟩ := hc
      exact (show RR _ _ _ (.val (.bl false)) from by wtm_at "re")
    | lacks x =>
      unfold CAt at hc
      unfold Cd.Wf at hw
      obtain ⟨b, rfl, hb⟩ := hc
      obtain ⟨h1, h2, h3⟩ := hw
      have h4 : Side ns x := .inr h2
      exact (show RR _ _ _ (.val (.bl true)) from by wtm_at "re")
    | not x =>
      unfold CAt at hc
      obtain ⟨b, u, rfl, hb, _⟩ := hc
      exact (show RR _ _ _ (.val (.bl false)) from by wtm_at "re")
    | all x =>
      unfold CAt at hc
      obtain ⟨b, u, us, rfl, hb, _⟩ := hc
      exact (show RR _ _ _ (.val (.bl false)) from by wtm_at "re")
    | any x =>
      unfold CAt at hc
      obtain ⟨b, u, us, rfl, hb, _⟩ := hc
      exact (show RR _ _ _ (.val (.bl false)) from by wtm_at "re")
end
end Ot
namespace Ot
open PySem PySem.Spec PyProof.Rows L2 Evl
local macro_rules | `(tactic| wtm_at "dc") => `(tactic| first
  | ((with_reducible apply dd_f); decide +kernel)
  | ((with_reducible apply dd_t); decide +kernel)
  | ((with_reducible apply dn_f); decide +kernel)
  | ((with_reducible apply dn_t); decide +kernel)
  | (with_reducible exact dec_int_non)
  | (with_reducible exact dec_bl_non)
  | (with_reducible exact dec_ref_non)
  | (with_reducible exact dec_str_non)
  | (with_reducible exact dec_str_ne (by assumption))
  | (with_reducible exact dec_str_eq (by assumption))
  | (with_reducible exact ndec_str_ne (by assumption))
  | (with_reducible exact ndec_str_eq (by assumption))
  | (with_reducible exact dec_int_ne (by omega))
  | (with_reducible exact dec_int_eq (by omega))
  | (with_reducible exact ndec_int_ne (by omega))
  | (with_reducible exact ndec_int_eq (by omega)))
local macro_rules | `(tactic| wtm_at "ic") => `(tactic| first
  | ((with_reducible apply iv_f); decide +kernel)
  | ((with_reducible apply iv_t); decide +kernel)
  | ((with_reducible apply ivn_f); decide +kernel)
  | ((with_reducible apply ivn_t); decide +kernel))
local macro_rules | `(tactic| wtm_at "iv") => `(tactic| first
  | exact bl_true (by omega)
  | exact bl_false (by omega)
  | rfl)
local macro_rules | `(tactic| wtm_at "ln") => `(tactic| first
  | (with_reducible exact ln0) | (with_reducible exact ln1) | (with_reducible exact ln2) | (with_reducible exact ln3) | (with_reducible exact ln4) | rfl)
local macro_rules | `(tactic| wtm_at "nb") => `(tactic| first
  | (with_reducible exact nb_t)
  | (with_reducible exact nb_f))
local macro_rules | `(tactic| wtm_at "kt") => `(tactic| first
  | (with_reducible exact kit_tt) | (with_reducible exact kit_ss) | (with_reducible exact kit_ii) | (with_reducible exact kit_ib) | (with_reducible exact kit_ni) | (with_reducible exact kit_dd) | (with_reducible exact kit_ll))
local macro_rules | `(tactic| wtm_at "vt") => `(tactic| first
  | exact .str | exact .int | exact .non | exact .bl | exact .tup (by assumption) | exact .lst (by assumption) | exact .dK (by assumption))
local macro_rules | `(tactic| wtm_at "sv") => `(tactic| assumption)
local macro_rules | `(tactic| wtm_at "ct") => `(tactic| first
  | (with_reducible exact ct_f)
  | ((with_reducible apply ct_t); wtm_at "ev")
  | (with_reducible exact cf_t)
  | ((with_reducible apply cf_f); wtm_at "ev")
  | (with_reducible exact ctv_f)
  | ((with_reducible apply ctv_t); wtm_at "ev")
  | (with_reducible exact cfv_t)
  | ((with_reducible apply cfv_f); wtm_at "ev")
  | ((with_reducible apply ci_t); wtm_at "ev")
  | ((with_reducible apply ci_f); wtm_at "ev"))
local macro_rules | `(tactic| wtm_at "ev") => `(tactic| first
  | ((with_reducible apply ev_var); rfl)
  | (with_reducible exact ev_c)
  | (with_reducible exact ea_nil)
  | ((with_reducible apply ea_cons) <;> wtm_at "ev")
  | ((with_reducible apply ev_ixT); (wtm_at "ev"); (wtm_at "ev"); assumption; rfl)
  | ((with_reducible apply ev_dgetS); (wtm_at "ev"); (wtm_at "ev"); assumption; assumption)
  | ((with_reducible apply ev_lenT); (wtm_at "ev"); assumption; (wtm_at "ln"))
  | ((with_reducible apply ev_isi); (wtm_at "ev"); (wtm_at "vt"); (wtm_at "kt"))
  | ((with_reducible apply ev_eq); (wtm_at "ev"); (wtm_at "ev"); rfl; (wtm_at "dc"))
  | ((with_reducible apply ev_ne); (wtm_at "ev"); (wtm_at "ev"); rfl; (wtm_at "dc"))
  | ((with_reducible apply ev_isN); (wtm_at "ev"); (wtm_at "dc"))
  | ((with_reducible apply ev_notN); (wtm_at "ev"); (wtm_at "dc"))
  | ((with_reducible apply ev_int0); (wtm_at "ev"); (wtm_at "ev"); (wtm_at "iv"))
  | ((with_reducible apply ev_niN); (wtm_at "ev"); (wtm_at "ev"); rfl; rfl; (wtm_at "ic"))
  | ((with_reducible apply ev_inN); (wtm_at "ev"); (wtm_at "ev"); rfl; rfl; (wtm_at "ic"))
  | ((with_reducible apply eu_tup); (wtm_at "ev"); simp)
  | ((with_reducible apply el_lst); (wtm_at "ev"); simp)
  | ((with_reducible apply ev_callP); (wtm_at "ev"); (wtm_at "sv"))
  | ((with_reducible apply et_test); wtm_at "ev")
  | ((with_reducible apply et_B); wtm_at "ev")
  | ((with_reducible apply ev_andG); (wtm_at "ev"); (wtm_at "ct"))
  | ((with_reducible apply ev_orG); (wtm_at "ev"); (wtm_at "ct"))
  | ((with_reducible apply ev_notG); (wtm_at "ev"); (wtm_at "nb"))
  | ((with_reducible apply et_andG); (wtm_at "ev"); (wtm_at "ct"))
  | ((with_reducible apply et_orG); (wtm_at "ev"); (wtm_at "ct"))
  | ((with_reducible apply et_notG); (wtm_at "ev"); (wtm_at "nb"))
  | ((with_reducible apply ev_ifG); (wtm_at "ev"); (wtm_at "ct"))
  | assumption)
local macro_rules | `(tactic| wtm_at "re") => `(tactic| first
  | ((with_reducible apply re_ifG); (wtm_at "ev"); first | ((with_reducible apply ci_t); wtm_at "re") | ((with_reducible apply ci_f); wtm_at "re"))
  | ((with_reducible apply re_retV); wtm_at "ev")
  | ((with_reducible apply re_asgV); (wtm_at "ev"); (wtm_at "re"))
  | ((with_reducible apply re_par); (wtm_at "ev"); (wtm_at "re")))
local macro_rules | `(tactic| wtm_at "rs") => `(tactic| repeat ((with_reducible apply re_ifG); (wtm_at "ev"); first | (with_reducible apply ci_t) | (with_reducible apply ci_f)))

/-! ### is_told -/
theorem sv_most_t {H : Hp} {a : Addr} {ns : List Str} {v : V} {c : Cd} {n : Nat} (h : Tp H a (strV ns)) (hc : CAt H c v) (hw : c.Wf ns n) (e : c.isMost = true) : ∀ H1, Ex H H1 → RMost [.ref a, v] H1 (.val (.bl true)) :=
  fun H1 x => ⟨a, ns, v, c, n, rfl, x _ _ h, hc.same x, hw, by rw [e]⟩
theorem sv_most_f {H : Hp} {a : Addr} {ns : List Str} {v : V} {c : Cd} {n : Nat} (h : Tp H a (strV ns)) (hc : CAt H c v) (hw : c.Wf ns n) (e : c.isMost = false) : ∀ H1, Ex H H1 → RMost [.ref a, v] H1 (.val (.bl false)) :=
  fun H1 x => ⟨a, ns, v, c, n, rfl, x _ _ h, hc.same x, hw, by rw [e]⟩
theorem sv_lacks_t {H : Hp} {a : Addr} {ns : List Str} {v : V} {c : Cd} {n : Nat} (h : Tp H a (strV ns)) (hc : CAt H c v) (hw : c.Wf ns n) (e : c.isLacks = true) : ∀ H1, Ex H H1 → RLacks [.ref a, v] H1 (.val (.bl true)) :=
  fun H1 x => ⟨a, ns, v, c, n, rfl, x _ _ h, hc.same x, hw, by rw [e]⟩
theorem sv_lacks_f {H : Hp} {a : Addr} {ns : List Str} {v : V} {c : Cd} {n : Nat} (h : Tp H a (strV ns)) (hc : CAt H c v) (hw : c.Wf ns n) (e : c.isLacks = false) : ∀ H1, Ex H H1 → RLacks [.ref a, v] H1 (.val (.bl false)) :=
  fun H1 x => ⟨a, ns, v, c, n, rfl, x _ _ h, hc.same x, hw, by rw [e]⟩
def RTold (n : Nat) : Rel := fun vs H r => ∃ (a : Addr) (ns : List Str) (v : V) (c : Cd), vs = [.ref a, v, .int (n : Int)] ∧ Tp H a (strV ns) ∧ CAt H c v ∧ c.Wf ns n ∧ r = .val (.bl true)
theorem sv_told {H : Hp} {a : Addr} {ns : List Str} {v : V} {c : Cd} {n : Nat} {d : Int} (h : Tp H a (strV ns)) (hc : CAt H c v) (hw : c.Wf ns n) (e : d = (n : Int)) : ∀ H1, Ex H H1 → RTold n [.ref a, v, .int d] H1 (.val (.bl true)) :=
  fun H1 x => ⟨a, ns, v, c, by rw [e], x _ _ h, hc.same x, hw, rfl⟩
theorem CsAt.len {H : Hp} : ∀ {cs : List Cd} {us : List V}, CsAt H cs us → us.length = cs.length
  | [], us, h => by
    unfold CsAt at h
    rw [h]
    rfl
  | c :: cs, us, h => by
    unfold CsAt at h
    obtain ⟨u, r, rfl, _, h3⟩ := h
    rw [List.length_cons, List.length_cons, CsAt.len h3]
theorem CsAt.get {H : Hp} : ∀ {cs : List Cd} {us : List V} {i : Nat} {u : V}, CsAt H cs us → us[i]? = some u → ∃ c, cs[i]? = some c ∧ CAt H c u
  | [], us, i, u, h, e => by
    unfold CsAt at h
    rw [h] at e
    cases e
  | c :: cs, us, 0, u, h, e => by
    unfold CsAt at h
    obtain ⟨u', r, rfl, h2, h3⟩ := h
    cases e
    exact ⟨c, rfl, h2⟩
  | c :: cs, us, i + 1, u, h, e => by
    unfold CsAt at h
    obtain ⟨u', r, rfl, h2, h3⟩ := h
    exact CsAt.get (cs := cs) (us := r) (i := i) h3 e
theorem Cd.Wfs.get {ns : List Str} {m : Nat} : ∀ {cs : List Cd} {i : Nat} {c : Cd}, Cd.Wfs ns m cs → cs[i]? = some c → c.Wf ns m
  | [], i, c, h, e => by cases e
  | c' :: cs, 0, c, h, e => by
    cases e
    unfold Cd.Wfs at h
    exact h.1
  | c' :: cs, i + 1, c, h, e => by
    unfold Cd.Wfs at h
    exact Cd.Wfs.get (cs := cs) (i := i) h.2 e
theorem all_true (n : Nat) : ((List.replicate n true).all id) = true := by
  induction n with
  | zero => rfl
  | succ n ih => rw [List.replicate_succ, List.all_cons, ih]; rfl
theorem rep_get {n i : Nat} {y : V} (h : ((List.replicate n true).map V.bl)[i]? = some y) : y = V.bl true := by
  rw [List.map_replicate] at h
  obtain ⟨h1, h2⟩ := List.getElem?_eq_some_iff.mp h
  rw [List.getElem_replicate] at h2
  exact h2.symm
local macro_rules | `(tactic| wtm_at "sv") => `(tactic| first
  | (refine sv_most_t (by assumption) (by assumption) (by assumption) ?_; rfl)
  | (refine sv_most_f (by assumption) (by assumption) (by assumption) ?_; rfl)
  | (refine sv_lacks_t (by assumption) (by assumption) (by assumption) ?_; rfl)
  | (refine sv_lacks_f (by assumption) (by assumption) (by assumption) ?_; rfl)
  | (with_reducible exact sv_told (by assumption) (by assumption) (by assumption) (by omega)))
section
variable {P : Program} {w : World} {K : PySem.W.Frag} {mg : Str → Option Value} {base : Heap}
def nm_is_told : List Str := ["names", "thing", "deep", "part"]
theorem sc_is_told : FnScope nm_is_told ["names", "thing", "deep"] (defScope s_is_told) := C8.fnScope_by (by decide +kernel)
theorem ok_is_told (T : Tx K mg) (C_is_most : C8.Cal P w K mg base 2 "is_most" (PSp RMost) []) (C_is_lacks : C8.Cal P w K mg base 2 "is_lacks" (PSp RLacks) []) : ∀ n, C8.Cal P w K mg base (n + 3) "is_told" (PSp (RTold n)) [] := by
  intro n
  induction n with
  | zero =>
    show C8.Cal P w K mg base (2 + 1) "is_told" (PSp (RTold 0)) []
    refine T.pf 14 14 rfl rfl sc_is_told (fun _ _ _ _ _ _ us hl => match us, hl with | [_, _, _], _ => rfl) (fun vs H r h => ?_) (fun cdv A outer s H vs r E hr h => ?_)
    · obtain ⟨_, _, _, _, rfl, _⟩ := h
      rfl
    · obtain ⟨a, ns, v, c, rfl, hn, hc, hw, rfl⟩ := h
      cases c <;> unfold Cd.Wf at hw
      · obtain ⟨h, _⟩ := hw
        omega
      · obtain ⟨h, _⟩ := hw
        omega
      all_goals
        obtain ⟨m, h, _⟩ := hw
        omega
  | succ m C_is_told =>
    show C8.Cal P w K mg base ((m + 3) + 1) "is_told" (PSp (RTold (m + 1))) []
    refine T.pf 14 14 rfl rfl sc_is_told (fun _ _ _ _ _ _ us hl => match us, hl with | [_, _, _], _ => rfl) (fun vs H r h => ?_) (fun cdv A outer s H vs r E hr h => ?_)
    · obtain ⟨_, _, _, _, rfl, _⟩ := h
      rfl
    · have nd := sc_is_told.nd
      refine ⟨_, (pss_cons (ps_if (pt_cmpR op_eq (pv 2) pe_int (nomark _))
      (pss_one (ps_ret pe_bl))
      pss_nil)
      (pss_cons (ps_if (PW.pt (pw_or (pt_val (C8.pe_c C_is_most hr (by omega) (by rfl) (pa_cons (pv 0) (pa_cons (pv 1) pa_nil)))) (pw_or1 (pt_val (C8.pe_c C_is_lacks hr (by omega) (by rfl) (pa_cons (pv 0) (pa_cons (pv 1) pa_nil)))))))
      (pss_one (ps_ret pe_bl))
      pss_nil)
      (pss_cons (ps_if (PW.pt (pw_or (pt_not (pt_val (pe_callB call_isi (by rfl) T.f_isinstance (by decide +kernel) (pa_cons (pv 1) (pa_cons (pe_bltn (v := .ty "tuple") (u := .type "tuple") (by rfl) T.f_tuple (by decide +kernel) rfl) pa_nil))))) (pw_or (pt_cmpR op_ne (pe_callB cr_len (by rfl) T.f_len PySem.boot_len (pa_cons (pv 1) pa_nil)) pe_int (nomark _)) (pw_or1 (pt_not (pt_val (pe_callB call_isi (by rfl) T.f_isinstance (by decide +kernel) (pa_cons (pe_ix ix_tup (pv 1) pe_int (fun _ _ => rfl)) (pa_cons (pe_bltn (v := .ty "str") (u := .type "str") (by rfl) T.f_str (by decide +kernel) rfl) pa_nil)))))))))
      (pss_one (ps_ret pe_bl))
      pss_nil)
      (pss_cons (ps_if (pt_cmpR op_eq (pe_ix ix_tup (pv 1) pe_int (fun _ _ => rfl)) pe_str (nomark _))
      (pss_one (ps_ret (C8.pe_c C_is_told hr (by omega) (by rfl) (pa_cons (pv 0) (pa_cons (pe_ix ix_tup (pv 1) pe_int (fun _ _ => rfl)) (pa_cons (pe_op op_sub (pv 2) pe_int) pa_nil))))))
      pss_nil)
      (pss_cons (ps_if (PW.pt (pw_or (pt_cmpR op_notIn_seq (pe_ix ix_tup (pv 1) pe_int (fun _ _ => rfl)) (pe_tup (pa_cons pe_str (pa_cons pe_str pa_nil))) (by rfl)) (pw_or (pt_not (pt_val (pe_callB call_isi (by rfl) T.f_isinstance (by decide +kernel) (pa_cons (pe_ix ix_tup (pv 1) pe_int (fun _ _ => rfl)) (pa_cons (pe_bltn (v := .ty "tuple") (u := .type "tuple") (by rfl) T.f_tuple (by decide +kernel) rfl) pa_nil))))) (pw_or1 (pt_cmpR op_gt (pe_callB cr_len (by rfl) T.f_len PySem.boot_len (pa_cons (pe_ix ix_tup (pv 1) pe_int (fun _ _ => rfl)) pa_nil)) (C8.pe_gc (by rfl) T.v_MOST_PARTS_conditions) (nomark _))))))
      (pss_one (ps_ret pe_bl))
      pss_nil)
      (pss_one (ps_ret (pe_callB (cr_all rfl) (by rfl) T.f_all (by decide +kernel) (pa_cons (pe_lc (own := [("part", 3)]) (g := (gName 3)) rfl nd (pi_tup (pe_ix ix_tup (pv 1) pe_int (fun _ _ => rfl))) (blkOk_by (own := [("part", 3)]) (N := nm_is_told) (sc := defScope s_is_told) (by decide +kernel)) (fun _ _ _ _ _ => (pg_name (i := 3) nd rfl (Or.inl rfl))) (fun _ _ _ _ _ => pts_nil) (fun _ _ _ _ _ => (C8.pe_c C_is_told hr (by omega) (by rfl) (pa_cons (pv 0) (pa_cons (pv 3) (pa_cons (pe_op op_sub (pv 2) pe_int) pa_nil)))))) pa_nil))))))))), ?_⟩
      obtain ⟨a, ns, v, c, rfl, hn, hc, hw, rfl⟩ := h
      have hc0 := hc
      have hw0 := hw
      cases c with
      | most x y k =>
        unfold CAt at hc
        obtain ⟨b, rfl, hb⟩ := hc
        wtm_at "re"
      | lacks x =>
        unfold CAt at hc
        obtain ⟨b, rfl, hb⟩ := hc
        wtm_at "re"
      | not x =>
        unfold CAt at hc
        unfold Cd.Wf at hw
        obtain ⟨b, u, rfl, hb, hu⟩ := hc
        obtain ⟨m', he, hw1⟩ := hw
        have he : m' = m := by omega
        subst he
        wtm_at "re"
      | all l =>
        unfold CAt at hc
        unfold Cd.Wf at hw
        obtain ⟨b, u, us, rfl, hb, hu, hl⟩ := hc
        obtain ⟨m', he, h6, hw1⟩ := hw
        have he : m' = m := by omega
        subst he
        have hul := hl.len
        wtm_at "rs"
        refine re_retV (ev_all (bs := List.replicate us.length true) ?_ (all_true _))
        refine el_lc (ei_tup (by wtm_at "ev") hu) (by omega) (by simp) (fun _ => rfl) fun i x y hx hy => ?_
        obtain ⟨c', hc', hat⟩ := hl.get hx
        have hw' := hw1.get hc'
        have ey : y = V.bl true := rep_get hy
        subst ey
        wtm_at "ev"
      | any l =>
        unfold CAt at hc
        unfold Cd.Wf at hw
        obtain ⟨b, u, us, rfl, hb, hu, hl⟩ := hc
        obtain ⟨m', he, h6, hw1⟩ := hw
        have he : m' = m := by omega
        subst he
        have hul := hl.len
        wtm_at "rs"
        refine re_retV (ev_all (bs := List.replicate us.length true) ?_ (all_true _))
        refine el_lc (ei_tup (by wtm_at "ev") hu) (by omega) (by simp) (fun _ => rfl) fun i x y hx hy => ?_
        obtain ⟨c', hc', hat⟩ := hl.get hx
        have hw' := hw1.get hc'
        have ey : y = V.bl true := rep_get hy
        subst ey
        wtm_at "ev"
end
end Ot
namespace Ot
open PySem PySem.Spec PyProof.Rows L2 Evl
local macro_rules | `(tactic| wtm_at "dc") => `(tactic| first
  | ((with_reducible apply dd_f); decide +kernel)
  | ((with_reducible apply dd_t); decide +kernel)
  | ((with_reducible apply dn_f); decide +kernel)
  | ((with_reducible apply dn_t); decide +kernel)
  | (with_reducible exact dec_int_non)
  | (with_reducible exact dec_bl_non)
  | (with_reducible exact dec_ref_non)
  | (with_reducible exact dec_str_non)
  | (with_reducible exact dec_str_ne (by assumption))
  | (with_reducible exact dec_str_eq (by assumption))
  | (with_reducible exact ndec_str_ne (by assumption))
  | (with_reducible exact ndec_str_eq (by assumption))
  | (with_reducible exact dec_int_ne (by omega))
  | (with_reducible exact dec_int_eq (by omega))
  | (with_reducible exact ndec_int_ne (by omega))
  | (with_reducible exact ndec_int_eq (by omega)))
local macro_rules | `(tactic| wtm_at "ic") => `(tactic| first
  | ((with_reducible apply iv_f); decide +kernel)
  | ((with_reducible apply iv_t); decide +kernel)
  | ((with_reducible apply ivn_f); decide +kernel)
  | ((with_reducible apply ivn_t); decide +kernel))
local macro_rules | `(tactic| wtm_at "iv") => `(tactic| first
  | exact bl_true (by omega)
  | exact bl_false (by omega)
  | rfl)
local macro_rules | `(tactic| wtm_at "ln") => `(tactic| first
  | (with_reducible exact ln0) | (with_reducible exact ln1) | (with_reducible exact ln2) | (with_reducible exact ln3) | (with_reducible exact ln4) | rfl)
local macro_rules | `(tactic| wtm_at "nb") => `(tactic| first
  | (with_reducible exact nb_t)
  | (with_reducible exact nb_f))
local macro_rules | `(tactic| wtm_at "kt") => `(tactic| first
  | (with_reducible exact kit_tt) | (with_reducible exact kit_ss) | (with_reducible exact kit_ii) | (with_reducible exact kit_ib) | (with_reducible exact kit_ni) | (with_reducible exact kit_dd) | (with_reducible exact kit_ll))
local macro_rules | `(tactic| wtm_at "vt") => `(tactic| first
  | exact .str | exact .int | exact .non | exact .bl | exact .tup (by assumption) | exact .lst (by assumption) | exact .dK (by assumption))
local macro_rules | `(tactic| wtm_at "sv") => `(tactic| assumption)
local macro_rules | `(tactic| wtm_at "ct") => `(tactic| first
  | (with_reducible exact ct_f)
  | ((with_reducible apply ct_t); wtm_at "ev")
  | (with_reducible exact cf_t)
  | ((with_reducible apply cf_f); wtm_at "ev")
  | (with_reducible exact ctv_f)
  | ((with_reducible apply ctv_t); wtm_at "ev")
  | (with_reducible exact cfv_t)
  | ((with_reducible apply cfv_f); wtm_at "ev")
  | ((with_reducible apply ci_t); wtm_at "ev")
  | ((with_reducible apply ci_f); wtm_at "ev"))
local macro_rules | `(tactic| wtm_at "ev") => `(tactic| first
  | ((with_reducible apply ev_var); rfl)
  | (with_reducible exact ev_c)
  | (with_reducible exact ea_nil)
  | ((with_reducible apply ea_cons) <;> wtm_at "ev")
  | ((with_reducible apply ev_ixT); (wtm_at "ev"); (wtm_at "ev"); assumption; rfl)
  | ((with_reducible apply ev_dgetS); (wtm_at "ev"); (wtm_at "ev"); assumption; assumption)
  | ((with_reducible apply ev_lenT); (wtm_at "ev"); assumption; (wtm_at "ln"))
  | ((with_reducible apply ev_isi); (wtm_at "ev"); (wtm_at "vt"); (wtm_at "kt"))
  | ((with_reducible apply ev_eq); (wtm_at "ev"); (wtm_at "ev"); rfl; (wtm_at "dc"))
  | ((with_reducible apply ev_ne); (wtm_at "ev"); (wtm_at "ev"); rfl; (wtm_at "dc"))
  | ((with_reducible apply ev_isN); (wtm_at "ev"); (wtm_at "dc"))
  | ((with_reducible apply ev_notN); (wtm_at "ev"); (wtm_at "dc"))
  | ((with_reducible apply ev_int0); (wtm_at "ev"); (wtm_at "ev"); (wtm_at "iv"))
  | ((with_reducible apply ev_niN); (wtm_at "ev"); (wtm_at "ev"); rfl; rfl; (wtm_at "ic"))
  | ((with_reducible apply ev_inN); (wtm_at "ev"); (wtm_at "ev"); rfl; rfl; (wtm_at "ic"))
  | ((with_reducible apply eu_tup); (wtm_at "ev"); simp)
  | ((with_reducible apply el_lst); (wtm_at "ev"); simp)
  | ((with_reducible apply ev_callP); (wtm_at "ev"); (wtm_at "sv"))
  | ((with_reducible apply et_test); wtm_at "ev")
  | ((with_reducible apply et_B); wtm_at "ev")
  | ((with_reducible apply ev_andG); (wtm_at "ev"); (wtm_at "ct"))
  | ((with_reducible apply ev_orG); (wtm_at "ev"); (wtm_at "ct"))
  | ((with_reducible apply ev_notG); (wtm_at "ev"); (wtm_at "nb"))
  | ((with_reducible apply et_andG); (wtm_at "ev"); (wtm_at "ct"))
  | ((with_reducible apply et_orG); (wtm_at "ev"); (wtm_at "ct"))
  | ((with_reducible apply et_notG); (wtm_at "ev"); (wtm_at "nb"))
  | ((with_reducible apply ev_ifG); (wtm_at "ev"); (wtm_at "ct"))
  | assumption)
local macro_rules | `(tactic| wtm_at "re") => `(tactic| first
  | ((with_reducible apply re_ifG); (wtm_at "ev"); first | ((with_reducible apply ci_t); wtm_at "re") | ((with_reducible apply ci_f); wtm_at "re"))
  | ((with_reducible apply re_retV); wtm_at "ev")
  | ((with_reducible apply re_asgV); (wtm_at "ev"); (wtm_at "re"))
  | ((with_reducible apply re_par); (wtm_at "ev"); (wtm_at "re")))
local macro_rules | `(tactic| wtm_at "rs") => `(tactic| repeat ((with_reducible apply re_ifG); (wtm_at "ev"); first | (with_reducible apply ci_t) | (with_reducible apply ci_f)))

/-! ### the tests of a condition -/
mutual
/-- the condition stands at v, its tests are ts -/
def TsAt (H : Hp) : Cd → V → List V → Prop
  | .most x y c, v, ts => ∃ a, v = .ref a ∧ Tp H a [.str "most", .str x, .str y, .int c] ∧ ts = [v]
  | .lacks x, v, ts => ∃ a, v = .ref a ∧ Tp H a [.str "lacks", .str x] ∧ ts = [v]
  | .not b, v, ts => ∃ a u, v = .ref a ∧ Tp H a [.str "not", u] ∧ TsAt H b u ts
  | .all l, v, ts => ∃ a b us tss, v = .ref a ∧ Tp H a [.str "and", .ref b] ∧ Tp H b us ∧ TssAt H l us tss ∧ ts = tss.flatten
  | .any l, v, ts => ∃ a b us tss, v = .ref a ∧ Tp H a [.str "or", .ref b] ∧ Tp H b us ∧ TssAt H l us tss ∧ ts = tss.flatten
def TssAt (H : Hp) : List Cd → List V → List (List V) → Prop
  | [], us, tss => us = [] ∧ tss = []
  | c :: cs, us, tss => ∃ u r t ts, us = u :: r ∧ tss = t :: ts ∧ TsAt H c u t ∧ TssAt H cs r ts
end
mutual
theorem TsAt.same {H H' : Hp} (e : Ex H H') : ∀ {c : Cd} {v : V} {ts : List V}, TsAt H c v ts → TsAt H' c v ts
  | .most x y c, v, ts, h => by
    unfold TsAt at h ⊢
    obtain ⟨a, h1, h2, h3⟩ := h
    exact ⟨a, h1, e _ _ h2, h3⟩
  | .lacks x, v, ts, h => by
    unfold TsAt at h ⊢
    obtain ⟨a, h1, h2, h3⟩ := h
    exact ⟨a, h1, e _ _ h2, h3⟩
  | .not b, v, ts, h => by
    unfold TsAt at h ⊢
    obtain ⟨a, u, h1, h2, h3⟩ := h
    exact ⟨a, u, h1, e _ _ h2, TsAt.same e h3⟩
  | .all l, v, ts, h => by
    unfold TsAt at h ⊢
    obtain ⟨a, b, us, tss, h1, h2, h3, h4, h5⟩ := h
    exact ⟨a, b, us, tss, h1, e _ _ h2, e _ _ h3, TssAt.same e h4, h5⟩
  | .any l, v, ts, h => by
    unfold TsAt at h ⊢
    obtain ⟨a, b, us, tss, h1, h2, h3, h4, h5⟩ := h
    exact ⟨a, b, us, tss, h1, e _ _ h2, e _ _ h3, TssAt.same e h4, h5⟩
theorem TssAt.same {H H' : Hp} (e : Ex H H') : ∀ {cs : List Cd} {us : List V} {tss : List (List V)}, TssAt H cs us tss → TssAt H' cs us tss
  | [], us, tss, h => by
    unfold TssAt at h ⊢
    exact h
  | c :: cs, us, tss, h => by
    unfold TssAt at h ⊢
    obtain ⟨u, r, t, ts, h1, h2, h3, h4⟩ := h
    exact ⟨u, r, t, ts, h1, h2, TsAt.same e h3, TssAt.same e h4⟩
end
mutual
/-- how many tests -/
def Cd.nt : Cd → Nat
  | .most _ _ _ => 1
  | .lacks _ => 1
  | .not a => a.nt
  | .all l => Cd.nts l
  | .any l => Cd.nts l
def Cd.nts : List Cd → Nat
  | [] => 0
  | c :: cs => c.nt + Cd.nts cs
end
mutual
theorem CAt.tests {H : Hp} : ∀ {c : Cd} {v : V}, CAt H c v → ∃ ts, TsAt H c v ts ∧ ts.length = c.nt
  | .most x y k, v, h => by
    unfold CAt at h
    obtain ⟨a, h1, h2⟩ := h
    exact ⟨[v], by unfold TsAt; exact ⟨a, h1, h2, rfl⟩, rfl⟩
  | .lacks x, v, h => by
    unfold CAt at h
    obtain ⟨a, h1, h2⟩ := h
    exact ⟨[v], by unfold TsAt; exact ⟨a, h1, h2, rfl⟩, rfl⟩
  | .not b, v, h => by
    unfold CAt at h
    obtain ⟨a, u, h1, h2, h3⟩ := h
    obtain ⟨ts, h4, h5⟩ := CAt.tests h3
    exact ⟨ts, by unfold TsAt; exact ⟨a, u, h1, h2, h4⟩, by rw [h5, Cd.nt]⟩
  | .all l, v, h => by
    unfold CAt at h
    obtain ⟨a, b, us, h1, h2, h3, h4⟩ := h
    obtain ⟨tss, h5, h6⟩ := CsAt.tests h4
    exact ⟨tss.flatten, by unfold TsAt; exact ⟨a, b, us, tss, h1, h2, h3, h5, rfl⟩, by rw [h6, Cd.nt]⟩
  | .any l, v, h => by
    unfold CAt at h
    obtain ⟨a, b, us, h1, h2, h3, h4⟩ := h
    obtain ⟨tss, h5, h6⟩ := CsAt.tests h4
    exact ⟨tss.flatten, by unfold TsAt; exact ⟨a, b, us, tss, h1, h2, h3, h5, rfl⟩, by rw [h6, Cd.nt]⟩
theorem CsAt.tests {H : Hp} : ∀ {cs : List Cd} {us : List V}, CsAt H cs us → ∃ tss, TssAt H cs us tss ∧ tss.flatten.length = Cd.nts cs
  | [], us, h => by
    unfold CsAt at h
    exact ⟨[], by unfold TssAt; exact ⟨h, rfl⟩, rfl⟩
  | c :: cs, us, h => by
    unfold CsAt at h
    obtain ⟨u, r, h1, h2, h3⟩ := h
    obtain ⟨t, h4, h5⟩ := CAt.tests h2
    obtain ⟨ts, h6, h7⟩ := CsAt.tests h3
    exact ⟨t :: ts, by unfold TssAt; exact ⟨u, r, t, ts, h1, rfl, h4, h6⟩, by rw [List.flatten_cons, List.length_append, h5, h7, Cd.nts]⟩
end
theorem TssAt.len {H : Hp} : ∀ {cs : List Cd} {us : List V} {tss : List (List V)}, TssAt H cs us tss → us.length = cs.length ∧ tss.length = us.length
  | [], us, tss, h => by
    unfold TssAt at h
    rw [h.1, h.2]
    exact ⟨rfl, rfl⟩
  | c :: cs, us, tss, h => by
    unfold TssAt at h
    obtain ⟨u, r, t, ts, rfl, rfl, _, h4⟩ := h
    have ih := TssAt.len h4
    simp only [List.length_cons]
    omega
theorem TssAt.get {H : Hp} : ∀ {cs : List Cd} {us : List V} {tss : List (List V)} {i : Nat} {u : V} {t : List V}, TssAt H cs us tss → us[i]? = some u → tss[i]? = some t → ∃ c, cs[i]? = some c ∧ TsAt H c u t
  | [], us, tss, i, u, t, h, e, _ => by
    unfold TssAt at h
    rw [h.1] at e
    cases e
  | c :: cs, us, tss, 0, u, t, h, e, f => by
    unfold TssAt at h
    obtain ⟨u', r, t', ts, rfl, rfl, h3, h4⟩ := h
    cases e
    cases f
    exact ⟨c, rfl, h3⟩
  | c :: cs, us, tss, i + 1, u, t, h, e, f => by
    unfold TssAt at h
    obtain ⟨u', r, t', ts, rfl, rfl, h3, h4⟩ := h
    exact TssAt.get (cs := cs) (us := r) (tss := ts) (i := i) h4 e f
theorem flat_ge {tss : List (List V)} {i : Nat} {t : List V} (h : tss[i]? = some t) : t.length ≤ tss.flatten.length := by
  have h1 : t ∈ tss := List.mem_of_getElem? h
  obtain ⟨a, b, rfl⟩ := List.append_of_mem h1
  rw [List.flatten_append, List.flatten_cons, List.length_append, List.length_append]
  omega
def RTests (n : Nat) : Rel := fun vs H r => ∃ (v : V) (c : Cd) (ns : List Str) (ts : List V), vs = [v] ∧ TsAt H c v ts ∧ c.Wf ns n ∧ ts.length ≤ 1000 ∧ r = .new (.lst ts)
section
variable {P : Program} {w : World} {K : PySem.W.Frag} {mg : Str → Option Value} {base : Heap}
def nm_tests_of : List Str := ["condition", "part", "test"]
theorem sc_tests_of : FnScope nm_tests_of ["condition"] (defScope s_tests_of) := C8.fnScope_by (by decide +kernel)
theorem ok_tests_of (T : Tx K mg) : ∀ n, C8.Cal P w K mg base (n + 1) "tests_of" (PSp (RTests n)) [] := by
  intro n
  induction n with
  | zero =>
    show C8.Cal P w K mg base (0 + 1) "tests_of" (PSp (RTests 0)) []
    refine T.pf 15 15 rfl rfl sc_tests_of (fun _ _ _ _ _ _ us hl => match us, hl with | [_], _ => rfl) (fun vs H r h => ?_) (fun cdv A outer s H vs r E hr h => ?_)
    · obtain ⟨_, _, _, _, rfl, _⟩ := h
      rfl
    · obtain ⟨v, c, ns, ts, rfl, hc, hw, hz, rfl⟩ := h
      cases c <;> unfold Cd.Wf at hw
      · obtain ⟨h, _⟩ := hw
        omega
      · obtain ⟨h, _⟩ := hw
        omega
      all_goals
        obtain ⟨m, h, _⟩ := hw
        omega
  | succ m C_tests_of =>
    show C8.Cal P w K mg base ((m + 1) + 1) "tests_of" (PSp (RTests (m + 1))) []
    refine T.pf 15 15 rfl rfl sc_tests_of (fun _ _ _ _ _ _ us hl => match us, hl with | [_], _ => rfl) (fun vs H r h => ?_) (fun cdv A outer s H vs r E hr h => ?_)
    · obtain ⟨_, _, _, _, rfl, _⟩ := h
      rfl
    · have nd := sc_tests_of.nd
      refine ⟨_, (pss_cons (ps_if (pt_cmpR op_in_seq (pe_ix ix_tup (pv 0) pe_int (fun _ _ => rfl)) (pe_tup (pa_cons pe_str (pa_cons pe_str pa_nil))) (by rfl))
      (pss_one (ps_ret (pe_lst (pa_cons (pv 0) pa_nil))))
      pss_nil)
      (pss_cons (ps_if (pt_cmpR op_eq (pe_ix ix_tup (pv 0) pe_int (fun _ _ => rfl)) pe_str (nomark _))
      (pss_one (ps_ret (C8.pe_c C_tests_of hr (by omega) (by rfl) (pa_cons (pe_ix ix_tup (pv 0) pe_int (fun _ _ => rfl)) pa_nil))))
      pss_nil)
      (pss_one (ps_ret (pe_lc2 (own := [("part", 1), ("test", 2)]) (vs1 := [2]) (wi1 := iList K _) rfl nd (pi_tup (pe_ix ix_tup (pv 0) pe_int (fun _ _ => rfl))) (blkOk_by (own := [("part", 1), ("test", 2)]) (N := nm_tests_of) (sc := defScope s_tests_of) (by decide +kernel)) (by decide) (fun _ _ _ _ _ => (pg_name (i := 1) nd rfl (Or.inl rfl))) (fun _ _ _ _ _ => pts_nil) (fun _ _ _ _ _ => (pi_list (C8.pe_c C_tests_of hr (by omega) (by rfl) (pa_cons (pv 1) pa_nil)))) (fun _ _ _ _ _ => (pg_name (i := 2) nd rfl (Or.inl rfl))) (fun _ _ _ _ _ => pts_nil) (fun _ _ _ _ _ => (pv 2))))))), ?_⟩
      obtain ⟨v, c, ns, ts, rfl, hc, hw, hz, rfl⟩ := h
      cases c with
      | most x y k =>
        unfold TsAt at hc
        obtain ⟨b, rfl, hb, rfl⟩ := hc
        wtm_at "rs"
        exact re_ret (er_lst (el_lst (by wtm_at "ev") (by simp)))
      | lacks x =>
        unfold TsAt at hc
        obtain ⟨b, rfl, hb, rfl⟩ := hc
        wtm_at "rs"
        exact re_ret (er_lst (el_lst (by wtm_at "ev") (by simp)))
      | not x =>
        unfold TsAt at hc
        unfold Cd.Wf at hw
        obtain ⟨b, u, rfl, hb, hu⟩ := hc
        obtain ⟨m', he, hw1⟩ := hw
        have he : m' = m := by omega
        subst he
        wtm_at "rs"
        exact re_ret (er_call (by wtm_at "ev") fun H1 e => ⟨u, x, ns, ts, rfl, hu.same e, hw1, hz, rfl⟩)
      | all l =>
        unfold TsAt at hc
        unfold Cd.Wf at hw
        obtain ⟨b, u, us, tss, rfl, hb, hu, hl, rfl⟩ := hc
        obtain ⟨m', he, h6, hw1⟩ := hw
        have he : m' = m := by omega
        subst he
        wtm_at "rs"
        have hlen := hl.len
        refine re_ret (er_lst (el_lc2 (ei_tup (by wtm_at "ev") hu) hlen.2 (by omega) (fun _ => rfl) (fun i x ys hx hy => ?_) (fun _ _ => rfl) (fun x z => by wtm_at "ev")))
        obtain ⟨c', hc', hat⟩ := hl.get hx hy
        have hw' := hw1.get hc'
        have hys := flat_ge hy
        exact ei_new (el_er (er_call (by wtm_at "ev") fun H1 e => ⟨x, c', ns, ys, rfl, hat.same e, hw', by omega, rfl⟩))
      | any l =>
        unfold TsAt at hc
        unfold Cd.Wf at hw
        obtain ⟨b, u, us, tss, rfl, hb, hu, hl, rfl⟩ := hc
        obtain ⟨m', he, h6, hw1⟩ := hw
        have he : m' = m := by omega
        subst he
        wtm_at "rs"
        have hlen := hl.len
        refine re_ret (er_lst (el_lc2 (ei_tup (by wtm_at "ev") hu) hlen.2 (by omega) (fun _ => rfl) (fun i x ys hx hy => ?_) (fun _ _ => rfl) (fun x z => by wtm_at "ev")))
        obtain ⟨c', hc', hat⟩ := hl.get hx hy
        have hw' := hw1.get hc'
        have hys := flat_ge hy
        exact ei_new (el_er (er_call (by wtm_at "ev") fun H1 e => ⟨x, c', ns, ys, rfl, hat.same e, hw', by omega, rfl⟩))
end
end Ot
namespace Ot
open PySem PySem.Spec PyProof.Rows L2 Evl
local macro_rules | `(tactic| wtm_at "dc") => `(tactic| first
  | ((with_reducible apply dd_f); decide +kernel)
  | ((with_reducible apply dd_t); decide +kernel)
  | ((with_reducible apply dn_f); decide +kernel)
  | ((with_reducible apply dn_t); decide +kernel)
  | (with_reducible exact dec_int_non)
  | (with_reducible exact dec_bl_non)
  | (with_reducible exact dec_ref_non)
  | (with_reducible exact dec_str_non)
  | (with_reducible exact dec_str_ne (by assumption))
  | (with_reducible exact dec_str_eq (by assumption))
  | (with_reducible exact ndec_str_ne (by assumption))
  | (with_reducible exact ndec_str_eq (by assumption))
  | (with_reducible exact dec_int_ne (by omega))
  | (with_reducible exact dec_int_eq (by omega))
  | (with_reducible exact ndec_int_ne (by omega))
  | (with_reducible exact ndec_int_eq (by omega)))
local macro_rules | `(tactic| wtm_at "ic") => `(tactic| first
  | ((with_reducible apply iv_f); decide +kernel)
  | ((with_reducible apply iv_t); decide +kernel)
  | ((with_reducible apply ivn_f); decide +kernel)
  | ((with_reducible apply ivn_t); decide +kernel))
local macro_rules | `(tactic| wtm_at "iv") => `(tactic| first
  | exact bl_true (by omega)
  | exact bl_false (by omega)
  | rfl)
local macro_rules | `(tactic| wtm_at "ln") => `(tactic| first
  | (with_reducible exact ln0) | (with_reducible exact ln1) | (with_reducible exact ln2) | (with_reducible exact ln3) | (with_reducible exact ln4) | rfl)
local macro_rules | `(tactic| wtm_at "nb") => `(tactic| first
  | (with_reducible exact nb_t)
  | (with_reducible exact nb_f))
local macro_rules | `(tactic| wtm_at "kt") => `(tactic| first
  | (with_reducible exact kit_tt) | (with_reducible exact kit_ss) | (with_reducible exact kit_ii) | (with_reducible exact kit_ib) | (with_reducible exact kit_ni) | (with_reducible exact kit_dd) | (with_reducible exact kit_ll))
local macro_rules | `(tactic| wtm_at "vt") => `(tactic| first
  | exact .str | exact .int | exact .non | exact .bl | exact .tup (by assumption) | exact .lst (by assumption) | exact .dK (by assumption))
local macro_rules | `(tactic| wtm_at "sv") => `(tactic| assumption)
local macro_rules | `(tactic| wtm_at "ct") => `(tactic| first
  | (with_reducible exact ct_f)
  | ((with_reducible apply ct_t); wtm_at "ev")
  | (with_reducible exact cf_t)
  | ((with_reducible apply cf_f); wtm_at "ev")
  | (with_reducible exact ctv_f)
  | ((with_reducible apply ctv_t); wtm_at "ev")
  | (with_reducible exact cfv_t)
  | ((with_reducible apply cfv_f); wtm_at "ev")
  | ((with_reducible apply ci_t); wtm_at "ev")
  | ((with_reducible apply ci_f); wtm_at "ev"))
local macro_rules | `(tactic| wtm_at "ev") => `(tactic| first
  | ((with_reducible apply ev_var); rfl)
  | (with_reducible exact ev_c)
  | (with_reducible exact ea_nil)
  | ((with_reducible apply ea_cons) <;> wtm_at "ev")
  | ((with_reducible apply ev_ixT); (wtm_at "ev"); (wtm_at "ev"); assumption; rfl)
  | ((with_reducible apply ev_dgetS); (wtm_at "ev"); (wtm_at "ev"); assumption; assumption)
  | ((with_reducible apply ev_lenT); (wtm_at "ev"); assumption; (wtm_at "ln"))
  | ((with_reducible apply ev_isi); (wtm_at "ev"); (wtm_at "vt"); (wtm_at "kt"))
  | ((with_reducible apply ev_eq); (wtm_at "ev"); (wtm_at "ev"); rfl; (wtm_at "dc"))
  | ((with_reducible apply ev_ne); (wtm_at "ev"); (wtm_at "ev"); rfl; (wtm_at "dc"))
  | ((with_reducible apply ev_isN); (wtm_at "ev"); (wtm_at "dc"))
  | ((with_reducible apply ev_notN); (wtm_at "ev"); (wtm_at "dc"))
  | ((with_reducible apply ev_int0); (wtm_at "ev"); (wtm_at "ev"); (wtm_at "iv"))
  | ((with_reducible apply ev_niN); (wtm_at "ev"); (wtm_at "ev"); rfl; rfl; (wtm_at "ic"))
  | ((with_reducible apply ev_inN); (wtm_at "ev"); (wtm_at "ev"); rfl; rfl; (wtm_at "ic"))
  | ((with_reducible apply eu_tup); (wtm_at "ev"); simp)
  | ((with_reducible apply el_lst); (wtm_at "ev"); simp)
  | ((with_reducible apply ev_callP); (wtm_at "ev"); (wtm_at "sv"))
  | ((with_reducible apply et_test); wtm_at "ev")
  | ((with_reducible apply et_B); wtm_at "ev")
  | ((with_reducible apply ev_andG); (wtm_at "ev"); (wtm_at "ct"))
  | ((with_reducible apply ev_orG); (wtm_at "ev"); (wtm_at "ct"))
  | ((with_reducible apply ev_notG); (wtm_at "ev"); (wtm_at "nb"))
  | ((with_reducible apply et_andG); (wtm_at "ev"); (wtm_at "ct"))
  | ((with_reducible apply et_orG); (wtm_at "ev"); (wtm_at "ct"))
  | ((with_reducible apply et_notG); (wtm_at "ev"); (wtm_at "nb"))
  | ((with_reducible apply ev_ifG); (wtm_at "ev"); (wtm_at "ct"))
  | assumption)
local macro_rules | `(tactic| wtm_at "re") => `(tactic| first
  | ((with_reducible apply re_ifG); (wtm_at "ev"); first | ((with_reducible apply ci_t); wtm_at "re") | ((with_reducible apply ci_f); wtm_at "re"))
  | ((with_reducible apply re_retV); wtm_at "ev")
  | ((with_reducible apply re_asgV); (wtm_at "ev"); (wtm_at "re"))
  | ((with_reducible apply re_par); (wtm_at "ev"); (wtm_at "re")))
local macro_rules | `(tactic| wtm_at "rs") => `(tactic| repeat ((with_reducible apply re_ifG); (wtm_at "ev"); first | (with_reducible apply ci_t) | (with_reducible apply ci_f)))

/-! ### truths -/
abbrev Wo : Type := Str → Option Int
def wv : Option Int → V
  | none => .non
  | some i => .int i
def tv : Option Bool → V
  | none => .non
  | some b => .bl b
def side (e : Wo) (x : Str) : Option Int := if x = "" then some 0 else e x
def andL (ts : List (Option Bool)) : Option Bool := if ts.any (· == some false) = true then some false else if ts.any (· == none) = true then none else some true
def orL (ts : List (Option Bool)) : Option Bool := if ts.any (· == some true) = true then some true else if ts.any (· == none) = true then none else some false
def mostT (a b : Option Int) (k : Int) : Option Bool :=
  match a, b with
  | some i, some j => some (decide (i - j ≤ k))
  | _, _ => none
mutual
def Cd.truth (e : Wo) : Cd → Option Bool
  | .most x y k => mostT (side e x) (side e y) k
  | .lacks x => some (e x).isNone
  | .not a => (Cd.truth e a).map fun b => !b
  | .all l => andL (Cd.truths e l)
  | .any l => orL (Cd.truths e l)
def Cd.truths (e : Wo) : List Cd → List (Option Bool)
  | [] => []
  | c :: cs => Cd.truth e c :: Cd.truths e cs
end
theorem truths_map (e : Wo) : ∀ l : List Cd, Cd.truths e l = l.map (Cd.truth e)
  | [] => by rw [Cd.truths]; rfl
  | c :: cs => by rw [Cd.truths, truths_map e cs]; rfl
theorem in_tv (b : Bool) : ∀ ts : List (Option Bool), inV (.bl b) (ts.map tv) = ts.any (· == some b)
  | [] => rfl
  | t :: ts => by
    show (eqV (tv t) (.bl b) || inV (.bl b) (ts.map tv)) = ((t == some b) || ts.any (· == some b))
    rw [in_tv b ts]
    congr 1
    cases t with
    | none => cases b <;> rfl
    | some c => cases b <;> cases c <;> rfl
theorem in_non : ∀ ts : List (Option Bool), inV .non (ts.map tv) = ts.any (· == none)
  | [] => rfl
  | t :: ts => by
    show (eqV (tv t) .non || inV .non (ts.map tv)) = ((t == none) || ts.any (· == none))
    rw [in_non ts]
    congr 1
    cases t with
    | none => rfl
    | some c => cases c <;> rfl
theorem flat_tv (ts : List (Option Bool)) : (ts.map tv).all flatV = true := by
  refine List.all_eq_true.mpr fun v hv => ?_
  obtain ⟨t, _, rfl⟩ := List.mem_map.mp hv
  cases t <;> rfl
def RWorth : Rel := fun vs H r => ∃ (d : Addr) (kvs : List (Key × V)) (z : Str) (e : Wo), vs = [.ref d, .str z] ∧ Dk H d kvs ∧ (z ≠ "" → valV kvs (Sum.inr z : Key) = some (wv (e z))) ∧ r = .val (wv (side e z))
def RTruth (n : Nat) : Rel := fun vs H r => ∃ (v : V) (c : Cd) (ns : List Str) (d : Addr) (kvs : List (Key × V)) (e : Wo), vs = [v, .ref d] ∧ CAt H c v ∧ c.Wf ns n ∧ Dk H d kvs ∧ (∀ x ∈ ns, valV kvs (Sum.inr x : Key) = some (wv (e x))) ∧ r = .val (tv (c.truth e))
theorem sv_worth {H : Hp} {d : Addr} {kvs : List (Key × V)} {z : Str} {e : Wo} {o : Option Int} (h : Dk H d kvs) (hz : z ≠ "" → valV kvs (Sum.inr z : Key) = some (wv (e z))) (ho : side e z = o) : ∀ H1, Ex H H1 → RWorth [.ref d, .str z] H1 (.val (wv o)) :=
  fun H1 x => ⟨d, kvs, z, e, rfl, x _ _ h, hz, by rw [ho]⟩
theorem sv_truth {H : Hp} {v : V} {c : Cd} {ns : List Str} {n : Nat} {d : Addr} {kvs : List (Key × V)} {e : Wo} {o : Option Bool} (hc : CAt H c v) (hw : c.Wf ns n) (hd : Dk H d kvs) (hk : ∀ x ∈ ns, valV kvs (Sum.inr x : Key) = some (wv (e x))) (ho : c.truth e = o) :
    ∀ H1, Ex H H1 → RTruth n [v, .ref d] H1 (.val (tv o)) := fun H1 x => ⟨v, c, ns, d, kvs, e, rfl, hc.same x, hw, x _ _ hd, hk, by rw [ho]⟩
theorem sv_truth_n {H : Hp} {v : V} {c : Cd} {ns : List Str} {n : Nat} {d : Addr} {kvs : List (Key × V)} {e : Wo} (hc : CAt H c v) (hw : c.Wf ns n) (hd : Dk H d kvs) (hk : ∀ x ∈ ns, valV kvs (Sum.inr x : Key) = some (wv (e x))) (ho : c.truth e = none) :
    ∀ H1, Ex H H1 → RTruth n [v, .ref d] H1 (.val .non) := sv_truth hc hw hd hk ho
theorem sv_truth_b {H : Hp} {v : V} {c : Cd} {ns : List Str} {n : Nat} {d : Addr} {kvs : List (Key × V)} {e : Wo} {b : Bool} (hc : CAt H c v) (hw : c.Wf ns n) (hd : Dk H d kvs) (hk : ∀ x ∈ ns, valV kvs (Sum.inr x : Key) = some (wv (e x))) (ho : c.truth e = some b) :
    ∀ H1, Ex H H1 → RTruth n [v, .ref d] H1 (.val (.bl b)) := sv_truth hc hw hd hk ho
local macro_rules | `(tactic| wtm_at "sv") => `(tactic| first
  | (with_reducible exact sv_truth_n (by assumption) (by assumption) (by assumption) (by assumption) (by assumption))
  | (with_reducible exact sv_truth_b (by assumption) (by assumption) (by assumption) (by assumption) (by assumption)))
theorem wv_non (o : Option Int) : decide (wv o = .non) = o.isNone := by
  cases o <;> rfl
section
variable {P : Program} {w : World} {K : PySem.W.Frag} {mg : Str → Option Value} {base : Heap}
def nm_worth_in : List Str := ["worths", "name"]
theorem sc_worth_in : FnScope nm_worth_in ["worths", "name"] (defScope s_worth_in) := C8.fnScope_by (by decide +kernel)
theorem ok_worth_in (T : Tx K mg) : C8.Cal P w K mg base 1 "worth_in" (PSp RWorth) [] := by
  refine T.pf 18 18 rfl rfl sc_worth_in (fun _ _ _ _ _ _ us hl => match us, hl with | [_, _], _ => rfl) (fun vs H r h => ?_) (fun cdv A outer s H vs r E hr h => ?_)
  · obtain ⟨_, _, _, _, rfl, _⟩ := h
    rfl
  · have nd := sc_worth_in.nd
    have hu := hu_of hr
    refine ⟨_, (pss_one (ps_ret (pe_ifExp (pt_cmpR op_eq (pv 1) pe_str (nomark _)) pe_int (pe_dget hu (pv 0) (pv 1) (fun _ _ => rfl))))), ?_⟩
    obtain ⟨d, kvs, z, e, rfl, hd, hz, rfl⟩ := h
    by_cases h0 : z = ""
    · have e1 : wv (side e z) = .int 0 := by
        unfold side
        rw [if_pos h0]
        rfl
      rw [e1]
      wtm_at "re"
    · have e1 := hz h0
      have e2 : side e z = e z := if_neg h0
      rw [e2]
      wtm_at "re"
def nm_truth_of : List Str := ["condition", "worths", "one", "other", "inner", "found", "ending", "part"]
theorem sc_truth_of : FnScope nm_truth_of ["condition", "worths"] (defScope s_truth_of) := C8.fnScope_by (by decide +kernel)
theorem ok_truth_of (T : Tx K mg) (C_worth_in : C8.Cal P w K mg base 1 "worth_in" (PSp RWorth) []) : ∀ n, C8.Cal P w K mg base (n + 2) "truth_of" (PSp (RTruth n)) [] := by
  intro n
  induction n with
  | zero =>
    show C8.Cal P w K mg base (1 + 1) "truth_of" (PSp (RTruth 0)) []
    refine T.pf 19 19 rfl rfl sc_truth_of (fun _ _ _ _ _ _ us hl => match us, hl with | [_, _], _ => rfl) (fun vs H r h => ?_) (fun cdv A outer s H vs r E hr h => ?_)
    · obtain ⟨_, _, _, _, _, _, rfl, _⟩ := h
      rfl
    · obtain ⟨v, c, ns, d, kvs, e, rfl, hc, hw, _⟩ := h
      cases c <;> unfold Cd.Wf at hw
      · obtain ⟨h, _⟩ := hw
        omega
      · obtain ⟨h, _⟩ := hw
        omega
      all_goals
        obtain ⟨m, h, _⟩ := hw
        omega
  | succ m C_truth_of =>
    show C8.Cal P w K mg base ((m + 2) + 1) "truth_of" (PSp (RTruth (m + 1))) []
    refine T.pf 19 19 rfl rfl sc_truth_of (fun _ _ _ _ _ _ us hl => match us, hl with | [_, _], _ => rfl) (fun vs H r h => ?_) (fun cdv A outer s H vs r E hr h => ?_)
    · obtain ⟨_, _, _, _, _, _, rfl, _⟩ := h
      rfl
    · have nd := sc_truth_of.nd
      have hu := hu_of hr
      refine ⟨_, (pss_cons (ps_if (pt_cmpR op_eq (pe_ix ix_tup (pv 0) pe_int (fun _ _ => rfl)) pe_str (nomark _))
      (pss_one (ps_ret (pe_cmpR op_isN2 (pe_dget hu (pv 1) (pe_ix ix_tup (pv 0) pe_int (fun _ _ => rfl)) (fun _ _ => rfl)) pe_non (nomark _))))
      pss_nil)
      (pss_cons (ps_if (pt_cmpR op_eq (pe_ix ix_tup (pv 0) pe_int (fun _ _ => rfl)) pe_str (nomark _))
      (pss_cons (ps_par (i := 2) (j := 3) rfl nd rfl rfl (by decide) rfl rfl (pa_cons (C8.pe_c C_worth_in hr (by omega) (by rfl) (pa_cons (pv 1) (pa_cons (pe_ix ix_tup (pv 0) pe_int (fun _ _ => rfl)) pa_nil))) (pa_cons (C8.pe_c C_worth_in hr (by omega) (by rfl) (pa_cons (pv 1) (pa_cons (pe_ix ix_tup (pv 0) pe_int (fun _ _ => rfl)) pa_nil))) pa_nil)) (by rfl))
      (pss_one (ps_ret (pe_ifExp (PW.pt (pw_or (pt_cmpR op_isN2 (pv 2) pe_non (nomark _)) (pw_or1 (pt_cmpR op_isN2 (pv 3) pe_non (nomark _))))) pe_non (pe_cmpR op_le (pe_op op_sub (pv 2) (pv 3)) (pe_ix ix_tup (pv 0) pe_int (fun _ _ => rfl)) (nomark _))))))
      pss_nil)
      (pss_cons (ps_if (pt_cmpR op_eq (pe_ix ix_tup (pv 0) pe_int (fun _ _ => rfl)) pe_str (nomark _))
      (pss_cons (ps_set (i := 4) nd rfl (Or.inl rfl) (C8.pe_c C_truth_of hr (by omega) (by rfl) (pa_cons (pe_ix ix_tup (pv 0) pe_int (fun _ _ => rfl)) (pa_cons (pv 1) pa_nil))))
      (pss_one (ps_ret (pe_ifExp (pt_cmpR op_isN2 (pv 4) pe_non (nomark _)) pe_non (pe_not (pv 4))))))
      pss_nil)
      (pss_cons (ps_par (i := 5) (j := 6) rfl nd rfl rfl (by decide) rfl rfl (pa_cons (pe_lc (own := [("part", 7)]) (g := (gName 7)) rfl nd (pi_tup (pe_ix ix_tup (pv 0) pe_int (fun _ _ => rfl))) (blkOk_by (own := [("part", 7)]) (N := nm_truth_of) (sc := defScope s_truth_of) (by decide +kernel)) (fun _ _ _ _ _ => (pg_name (i := 7) nd rfl (Or.inl rfl))) (fun _ _ _ _ _ => pts_nil) (fun _ _ _ _ _ => (C8.pe_c C_truth_of hr (by omega) (by rfl) (pa_cons (pv 7) (pa_cons (pv 1) pa_nil))))) (pa_cons (pe_cmpR op_eq (pe_ix ix_tup (pv 0) pe_int (fun _ _ => rfl)) pe_str (nomark _)) pa_nil)) (by rfl))
      (pss_cons (ps_if (pt_cmpR op_in_seq (pv 6) (pv 5) (by rfl))
      (pss_one (ps_ret (pv 6)))
      pss_nil)
      (pss_one (ps_ret (pe_ifExp (pt_cmpR op_in_seq pe_non (pv 5) (by rfl)) pe_non (pe_not (pv 6)))))))))), ?_⟩
      obtain ⟨v, c, ns, d, kvs, e, rfl, hc, hw, hd, hk, rfl⟩ := h
      cases c with
      | most x y k =>
        unfold CAt at hc
        unfold Cd.Wf at hw
        obtain ⟨b, rfl, hb⟩ := hc
        obtain ⟨_, s1, s2, _⟩ := hw
        have k1 : x ≠ "" → valV kvs (Sum.inr x : Key) = some (wv (e x)) := fun z => hk x (s1.resolve_left z)
        have k2 : y ≠ "" → valV kvs (Sum.inr y : Key) = some (wv (e y)) := fun z => hk y (s2.resolve_left z)
        unfold Cd.truth
        wtm_at "rs"
        cases h1 : side e x with
        | none =>
          have e0 : tv (mostT none (side e y) k) = .non := by cases side e y <;> rfl
          rw [e0]
          refine re_par (x := .non) (y := wv (side e y)) (ea_cons (ev_callP (by wtm_at "ev") (sv_worth hd k1 h1)) (ea_cons (ev_callP (by wtm_at "ev") (sv_worth hd k2 rfl)) ea_nil)) ?_
          wtm_at "re"
        | some i =>
          cases h2 : side e y with
          | none =>
            show RR _ _ _ (.val .non)
            refine re_par (x := .int i) (y := .non) (ea_cons (ev_callP (by wtm_at "ev") (sv_worth hd k1 h1)) (ea_cons (ev_callP (by wtm_at "ev") (sv_worth hd k2 h2)) ea_nil)) ?_
            wtm_at "re"
          | some j =>
            show RR _ _ _ (.val (.bl (decide (i - j ≤ k))))
            refine re_par (x := .int i) (y := .int j) (ea_cons (ev_callP (by wtm_at "ev") (sv_worth hd k1 h1)) (ea_cons (ev_callP (by wtm_at "ev") (sv_worth hd k2 h2)) ea_nil)) ?_
            wtm_at "re"
      | lacks x =>
        unfold CAt at hc
        unfold Cd.Wf at hw
        obtain ⟨b, rfl, hb⟩ := hc
        have k1 := hk x hw.2.1
        have e1 : tv (Cd.truth e (.lacks x)) = .bl (decide (wv (e x) = .non)) := by rw [wv_non]; unfold Cd.truth; rfl
        rw [e1]
        wtm_at "rs"
        exact re_retV (ev_isN (by wtm_at "ev") rfl)
      | not x =>
        unfold CAt at hc
        unfold Cd.Wf at hw
        obtain ⟨b, u, rfl, hb, hu⟩ := hc
        obtain ⟨m', he, hw1⟩ := hw
        have he : m' = m := by omega
        subst he
        unfold Cd.truth
        cases ht : Cd.truth e x with
        | none =>
          show RR _ _ _ (.val .non)
          wtm_at "re"
        | some bb =>
          cases bb with
          | true =>
            show RR _ _ _ (.val (.bl false))
            wtm_at "re"
          | false =>
            show RR _ _ _ (.val (.bl true))
            wtm_at "re"
      | all l =>
        unfold CAt at hc
        unfold Cd.Wf at hw
        obtain ⟨b, u, us, rfl, hb, hu, hl⟩ := hc
        obtain ⟨m', he, h6, hw1⟩ := hw
        have he : m' = m := by omega
        subst he
        have hul := hl.len
        unfold Cd.truth
        rw [truths_map]
        generalize hts : l.map (Cd.truth e) = ts
        have hlt : (ts.map tv).length = us.length := by rw [← hts, List.length_map, List.length_map, hul]
        wtm_at "rs"
        refine re_parN (o := .lst (ts.map tv)) (y := .bl false) (er_lst (el_lc (ei_tup (by wtm_at "ev") hu) (by omega) hlt (fun _ => rfl) fun i x y hx hy => ?_)) (by wtm_at "ev") fun p H1 hp e1 h1 => ?_
        · obtain ⟨c', hc', hat⟩ := hl.get hx
          have hw' := hw1.get hc'
          rw [← hts, List.getElem?_map, List.getElem?_map, hc'] at hy
          have hy : tv (Cd.truth e c') = y := Option.some.inj hy
          subst hy
          exact ev_callP (by wtm_at "ev") (sv_truth hat hw' hd hk rfl)
        · unfold andL
          refine re_ifG (a := ts.any (· == some false)) (et_test (ev_inLs (by wtm_at "ev") (by wtm_at "ev") h1 rfl (flat_tv ts) (in_tv false ts))) ?_
          cases hf : ts.any (· == some false) with
          | true => exact ci_t (show RR _ _ _ (.val (.bl false)) from by wtm_at "re")
          | false =>
            refine ci_f (re_retV (ev_ifG (a := ts.any (· == none)) (et_test (ev_inLs (by wtm_at "ev") (by wtm_at "ev") h1 rfl (flat_tv ts) (in_non ts))) ?_))
            cases ts.any (· == none) with
            | true => exact ci_t (show Ev _ _ _ .non from by wtm_at "ev")
            | false => exact ci_f (show Ev _ _ _ (.bl true) from by wtm_at "ev")
      | any l =>
        unfold CAt at hc
        unfold Cd.Wf at hw
        obtain ⟨b, u, us, rfl, hb, hu, hl⟩ := hc
        obtain ⟨m', he, h6, hw1⟩ := hw
        have he : m' = m := by omega
        subst he
        have hul := hl.len
        unfold Cd.truth
        rw [truths_map]
        generalize hts : l.map (Cd.truth e) = ts
        have hlt : (ts.map tv).length = us.length := by rw [← hts, List.length_map, List.length_map, hul]
        wtm_at "rs"
        refine re_parN (o := .lst (ts.map tv)) (y := .bl true) (er_lst (el_lc (ei_tup (by wtm_at "ev") hu) (by omega) hlt (fun _ => rfl) fun i x y hx hy => ?_)) (by wtm_at "ev") fun p H1 hp e1 h1 => ?_
        · obtain ⟨c', hc', hat⟩ := hl.get hx
          have hw' := hw1.get hc'
          rw [← hts, List.getElem?_map, List.getElem?_map, hc'] at hy
          have hy : tv (Cd.truth e c') = y := Option.some.inj hy
          subst hy
          exact ev_callP (by wtm_at "ev") (sv_truth hat hw' hd hk rfl)
        · unfold orL
          refine re_ifG (a := ts.any (· == some true)) (et_test (ev_inLs (by wtm_at "ev") (by wtm_at "ev") h1 rfl (flat_tv ts) (in_tv true ts))) ?_
          cases hf : ts.any (· == some true) with
          | true => exact ci_t (show RR _ _ _ (.val (.bl true)) from by wtm_at "re")
          | false =>
            refine ci_f (re_retV (ev_ifG (a := ts.any (· == none)) (et_test (ev_inLs (by wtm_at "ev") (by wtm_at "ev") h1 rfl (flat_tv ts) (in_non ts))) ?_))
            cases ts.any (· == none) with
            | true => exact ci_t (show Ev _ _ _ .non from by wtm_at "ev")
            | false => exact ci_f (show Ev _ _ _ (.bl false) from by wtm_at "ev")
end
end Ot
/-! Otherworths k13: three rules of the machine that the layer lacks -/
namespace OtS
open PySem PySem.Spec PyProof.Rows
/-! ### set(a list of texts that differ) -/
theorem strs_get : ∀ {us : List Value} {xs : List Str}, StrsAre us xs → ∀ {i : Nat} {v : Value}, us[i]? = some v → ∃ z t, xs[i]? = some z ∧ v = .str z t
  | _, _, .nil, i, v, e => by simp at e
  | _, _, .cons z t r, 0, v, e => ⟨z, t, rfl, (Option.some.inj e).symm⟩
  | _, _, .cons z t r, i + 1, v, e => strs_get r (i := i) e
/-- the texts that were put in -/
abbrev memS (xs : List Str) (i : Nat) : Str → Bool := fun k => decide (k ∈ xs.take i)
section
variable {prog : Program} {w : World} {A : Around} {R : Result → Shared → Prop} {I : Addr} {fp wr : List Addr} {G : Array GenState → Array GenState → Prop} {n : Nat} {P : Nat → Value → Prop} {St : Nat → Shared → Prop}
theorem put_all (W : WalksS prog w A.in1 I fp wr G n P St) (T : Addr) (hT : T ∉ fp) (xs : List Str) (hn : xs.length = n) (nd : xs.Nodup) (hb : n + 1 < scanBound)
    (hval : ∀ i v, P i v → ∃ z t, xs[i]? = some z ∧ v = .str z t) :
    ∀ (k i : Nat) (s : Shared), n - i = k → i ≤ n → St i s → s.heap.SetOf (PySem.strKind prog w) T (memS xs i) i →
      (∀ s', Moved (T :: wr) G s s' → s'.heap.SetOf (PySem.strKind prog w) T (memS xs n) n → R (.ok (.ret .none)) s') →
      codeAny (model prog w) A (.builtin "set.update.loop" ⟨[.ref T, .ref I], []⟩) R s
  | 0, i, s, hk, hi, st, hS, q => by
    have e : i = n := by omega
    subst e
    refine codeAny_builtin F.entry_set_update_loop ?_
    rw [Around.under_plainId F.plain_set_update_loop _]
    refine wpAny_bind (W.done s _ _ st fun s' mv => wpAny_pure (q s' (mv.mono fun b h => List.mem_cons_of_mem _ h) ?_))
    obtain ⟨o, es, ep, tb, ho, more⟩ := hS
    exact ⟨o, es, ep, tb, mv.heap T _ (fun h => hT (W.sub _ h)) ho, more⟩
  | k + 1, i, s, hk, hi, st, hS, q => by
    have lt : i < n := by omega
    have up : ∀ b ∈ wr, b ∈ T :: wr := fun b h => List.mem_cons_of_mem _ h
    refine codeAny_builtin F.entry_set_update_loop ?_
    rw [Around.under_plainId F.plain_set_update_loop _]
    refine wpAny_bind (W.item i s _ _ lt st fun v s' hP st' mv => ?_)
    obtain ⟨z, t, hz, rfl⟩ := hval i v hP
    have hS1 : s'.heap.SetOf (PySem.strKind prog w) T (memS xs i) i := by
      obtain ⟨o, es, ep, tb, ho, more⟩ := hS
      exact ⟨o, es, ep, tb, mv.heap T _ (fun h => hT (W.sub _ h)) ho, more⟩
    have et : xs.take (i + 1) = xs.take i ++ [z] := by
      rw [List.take_add_one, hz]
      rfl
    have hno : z ∉ xs.take i := fun h => by
      have hd := nd
      rw [← List.take_append_drop (i + 1) xs, et, List.append_assoc, List.nodup_append] at hd
      exact hd.2.2 z h z (List.mem_append_left _ (List.mem_singleton.mpr rfl)) rfl
    show wpAny _ A.in1 (holding [Value.str z t] (setAdd T (.str z t)) >>= _) _ _ s'
    refine wpAny_bind (wpAny_holding ?_)
    unfold setAdd
    refine wpAny_holding (wpAny_bind ((PySem.strKind prog w).pyHash (k := z) (strKind_is _ _ _ _) ?_))
    refine wpAny_setAddHashed_of (knd := PySem.strKind prog w) (s := { s' with toks := s'.toks + 1 }) (strKind_is _ _ _ _) rfl hS1 (by omega) fun h' sb hS2 => ?_
    have hS3 : h'.SetOf (PySem.strKind prog w) T (memS xs (i + 1)) (i + 1) := by
      refine SetOf_congr hS2 (fun k' => ?_) ?_
      · show (decide (k' ∈ xs.take i) || decide (k' = z)) = decide (k' ∈ xs.take (i + 1))
        rw [et]
        by_cases h1 : k' ∈ xs.take i <;> by_cases h2 : k' = z <;> simp [h1, h2]
      · show (if decide (z ∈ xs.take i) = true then i else i + 1) = i + 1
        rw [if_neg (by simp [hno])]
    refine wpAny_pure ⟨plainId_quiet F.plain_set_update_loop _, put_all W T hT xs hn nd hb hval k (i + 1) _ (by omega) lt (W.frame _ s' _ _ st' (Nat.le_succ _) fun b hbf o e => ?_) hS3 fun s2 mv2 hS4 => ?_⟩
    · have nb : b ≠ T := fun h => hT (h ▸ hbf)
      exact (sb.2 b nb).trans e
    · refine q s2 (Moved.trans W.gtrans ((mv.mono up).then_heap (Nat.le_succ _) fun b o hbn e => ?_) mv2) hS4
      have nb : b ≠ T := fun h => hbn (h ▸ List.mem_cons_self)
      exact (sb.2 b nb).trans e
end
/-- a set just laid -/
abbrev set0 (led : Bool) : Obj := { cls := .type "set", dict := none, data := .set #[] 0 (.fresh 0 0 led) }
section
variable {prog : Program} {w : World} {A : Around} {E : Value → Shared → Prop} {s : Shared}
set_option maxHeartbeats 6400000 in
theorem set_of_texts {l : Addr} {items : Array Value} {xs : List Str} {Q : Value → Shared → Prop} (hh : A.handled = none) (hl : s.heap.IsList l items) (hi : StrsAre items.toList xs) (nd : xs.Nodup) (hb : xs.length + 1 < scanBound)
    (h : ∀ (h' : Heap) (tk : Nat), h'.SetOf (PySem.strKind prog w) s.heap.objs.size (memS xs xs.length) xs.length →
      (∀ b o, b < s.heap.objs.size → s.heap.get? b = some o → h'.get? b = some o) → Q (.ref s.heap.objs.size) { s with heap := h', toks := tk }) :
    wpAny (model prog w) A (call (.type "set") [.ref l]) Q E s := by
  obtain ⟨mc, mtl, mro⟩ := PySem.F.called_set.mro
  have made := PySem.F.called_set.made
  have sub := PySem.F.called_set.sub
  refine wpAny_call (codeAny_of_tree ?_)
  show wpAny _ _ (callAny (.type "set") _) _ _ _
  refine wpAny_pure ⟨Code.quiet_builtin _ (by decide +kernel),
    codeAny_builtin PySem.F.entry_type_call ?_⟩
  rw [Around.under_plain (weight_type_call_type "set" [.ref l] []) rfl]
  have n1 := PySem.F.called_set.notType
  have n2 := PySem.F.called_set.canCreate
  have n3 := PySem.F.typeCall_set_1 (.ref l)
  repeat (any_goals (first | assumption | wp_step))
  refine codeAny_mono (code_set_new_1 (.ref l) (E := E) (Q₁ := fun ob s1 => ∃ led : Bool, ob = .ref s.heap.objs.size ∧ s1 = { s with heap := s.heap.push (set0 led) }) fun led => ⟨led, rfl, rfl⟩) fun r s1 hr => ?_
  cases r with
  | error e => exact hr
  | ok fl =>
    cases fl with
    | ret ob =>
      obtain ⟨led, rfl, rfl⟩ := hr
      have at0 : (s.heap.push (set0 led)).get? s.heap.objs.size = some (set0 led) := Heap.get?_push_size _ rfl
      have ty0 : Shared.TypeIs { s with heap := s.heap.push (set0 led) } (.ref s.heap.objs.size) "set" := ⟨_, at0, rfl⟩
      have lk := PySem.F.called_set.init.lookup
      have bd := PySem.F.called_set.init.bind (.ref s.heap.objs.size)
      repeat (any_goals (first | assumption | wp_step))
      refine codeAny_mono (codeAny_call_builtin (R := wants (fun r s2 => r = .none ∧ ∃ h' tk, s2 = { s with heap := h', toks := tk } ∧ h'.SetOf (PySem.strKind prog w) s.heap.objs.size (memS xs xs.length) xs.length ∧
          (∀ b o, b < s.heap.objs.size → s.heap.get? b = some o → h'.get? b = some o)) E) PySem.F.called_set.init.plain PySem.F.entry_set_init (check_set_init_1 ty0 ?_)) fun r2 s2 hr2 => ?_
      · obtain ⟨ol, hol, hcl, nl, hdl⟩ := hl
        obtain ⟨oc, od, odt, osl⟩ := ol
        simp only at hcl hdl
        subst hcl
        subst hdl
        have hol' : (s.heap.push (set0 led)).get? l = some { cls := .type "list", dict := od, data := .seq items nl, slots := osl } := Heap.get?_push_of_some _ hol
        have m1 := PySem.F.sub_list_set
        have m2 := PySem.F.sub_list_frozenset
        have m3 : (Value.type "list" == Value.type "dict") = false := by decide
        have hl1 : (s.heap.push (set0 led)).IsList l items := ⟨_, hol', rfl, nl, rfl⟩
        unfold Builtin.«set.__init__» noKeywords Builtin.Frozenset.updateFrom
        generalize hPI : pyIter = PI
        wp_walk
        subst hPI
        refine wpAny_pyIter_list hl1 (wpAny_bind (wpAny_runValue ?_))
        have lS : l < s.heap.objs.size := Heap.lt_size hol
        have h3 : A.in1.in1.in1.handled = none := by simp [hh]
        have sz1 : (s.heap.push (set0 led)).objs.size = s.heap.objs.size + 1 := Heap.size_push ..
        have lI : l ≠ (s.heap.push (set0 led)).objs.size := by
          rw [sz1]
          exact Nat.ne_of_lt (Nat.lt_succ_of_lt lS)
        have Sf : s.heap.objs.size ∉ [(s.heap.push (set0 led)).objs.size, l] := by
          rw [sz1]
          intro hm
          rcases List.mem_cons.mp hm with e | hm
          · exact absurd e (Nat.ne_of_lt (Nat.lt_succ_self _))
          · exact absurd (List.mem_singleton.mp hm) (Nat.ne_of_gt lS)
        have hlen : xs.length = items.size := by rw [← StrsAre.len_eq hi, Array.length_toList]
        have hval : ∀ (i : Nat) (v : Value), items[i]? = some v → ∃ z t, xs[i]? = some z ∧ v = .str z t := fun i v hv => strs_get hi (by rw [Array.getElem?_toList]; exact hv)
        refine put_all ((Walks.list h3 _ l lI items).toS) s.heap.objs.size Sf xs hlen nd (by rw [← hlen]; exact hb) hval (items.size - 0) 0 _ (by omega) (Nat.zero_le _)
          ⟨⟨_, Heap.get?_push_size _ rfl, rfl, rfl⟩, hl1.push _⟩ ?w0 ?w1
        case w0 =>
          have at1 : ((s.heap.push (set0 led)).push { cls := .type "list_iterator", data := .fields #[.ref l, .int 0 0] }).get? s.heap.objs.size = some (set0 led) := Heap.get?_push_of_some _ at0
          refine SetOf_congr ((setObjOf_fresh (knd := PySem.strKind prog w) led).setOf at1 (by unfold scanBound; omega)) (fun k => ?_) rfl
          show false = decide (k ∈ xs.take 0)
          rw [List.take_zero]
          rfl
        case w1 =>
          intro s3 mv hS
          rw [← hlen] at hS
          obtain ⟨h3', g3, d3, t3, o3⟩ := s3
          have e1 : g3 = s.gens := mv.gens
          have e2 : d3 = s.drawn := mv.drawn
          have e3 : o3 = s.os := mv.os
          subst e1 e2 e3
          show wpAny _ _ _ _ _ _
          refine wpAny_pure ?_
          show wpAny _ _ (ret Value.none) _ _ _
          refine wpAny_pure ⟨rfl, h3', t3, rfl, hS, fun b o hlt e => ?_⟩
          have b1 : b ≠ s.heap.objs.size := Nat.ne_of_lt hlt
          have b2 : b ≠ (s.heap.push (set0 led)).objs.size := by
            rw [sz1]
            exact Nat.ne_of_lt (Nat.lt_succ_of_lt hlt)
          refine mv.heap b o (fun hm => ?_) (Heap.get?_push_of_some _ (Heap.get?_push_of_some _ e))
          rcases List.mem_cons.mp hm with z | hm
          · exact b1 z
          · exact b2 (List.mem_singleton.mp hm)
      · cases r2 with
        | error e => exact hr2
        | ok f2 =>
          cases f2 with
          | ret r =>
            obtain ⟨rfl, h2, tk, rfl, hS, hk⟩ := hr2
            repeat (any_goals (first | assumption | wp_step))
            exact h _ _ hS hk
          | _ => exact hr2.elim
    | _ => exact hr.elim
end
end OtS
namespace Ot
open PySem PySem.Spec PyProof.Rows L2 Evl
/-- len(set(xs)), xs a list of texts that differ -/
def tLenSetT (K : PySem.W.Frag) (ta : TE) : TE := fun σ H Q => ta σ H fun x H1 => ∃ (l : Addr) (xs : List Str), x = .ref l ∧ SqL K H1 l (strV xs) ∧ xs.Nodup ∧ xs.length ≤ 1000 ∧ Q (.int (xs.length : Nat)) H1
theorem strs_vals : ∀ {xs : List Str} {us : List Value}, Vals (strV xs) us → StrsAre us xs
  | [], _, .nil => .nil
  | z :: xs, _, .cons r t => by
    obtain ⟨k, rfl⟩ := r
    exact .cons z k (strs_vals t)
theorem pe_lenSetT {X : Cx} {a : Expr} {ta : TE} {p p2 q pos : Pos} (hg : Gl X "len") (hm : X.mg "len" = none) (hg2 : Gl X "set") (hm2 : X.mg "set" = none) (ha : PE X a ta) (hc : X.calm = true := by rfl)
    (na : starEach [a] X.env = (false, eval a X.env) :: starEach [] X.env := by rfl) : PE X (.Call (.Name "len" p) [.Call (.Name "set" p2) [a] [] q] [] pos) (tLenSetT X.K ta) := by
  refine ⟨fun pins s σ H Q I h => Call_ (ld_blt I hg hm boot_len ?_)⟩
  refine callWith_builtin1 (args_cons (Call_ (ld_blt I hg2 hm2 boot_set ?_)) rfl) rfl rfl
  refine callWith_type1 (args_cons (thn (ha.run pins s σ H _ I h) fun v s1 ⟨x, H1, I1, r1, q1⟩ => args_nil ?_) na) na rfl
  obtain ⟨l, xs, rfl, hq, hnd, hl, q1⟩ := q1
  cases r1
  obtain ⟨its, r, pl, hz⟩ := I1.list hq
  refine OtS.set_of_texts (I1.ok.hd hc) pl.isList (by simpa using strs_vals r) hnd (by unfold scanBound; omega) fun h' tk hS hk => args_nil ?_
  obtain ⟨o, es, ep, t, ho, hex, hd, _, _, _, hf, hn⟩ := hS
  have I2 : Inv X pins σ H1 { s1 with heap := h', toks := tk } := I1.kept fun b o e => hk b o (Heap.lt_size e) e
  exact call_len_set ho hex hd hf (by rw [hn]; omega) ⟨.int xs.length, H1, I2.tok _, ⟨_, by rw [hn]⟩, q1⟩
end Ot
/-! Otherworths k13: dict(zip(a, b)), a and b lists or tuples -/
namespace OtS
open PySem PySem.Spec PyProof.Rows
section
variable {prog : Program} {w : World} {A : Around} {E : Value → Shared → Prop} {s : Shared} {z TI TO T i1 i2 : Addr} {fp1 fp2 : List Addr} {n1 n2 i : Nat} {P1 P2 : Nat → Value → Prop} {St1 St2 : Nat → Heap → Prop} {f : Bool} {oT : Obj}
theorem zipH_next_item {Q : Value → Shared → Prop} (S : ZipSep2 z TI TO i1 i2 fp1 fp2) (D1 : Draws prog w A i1 fp1 n1 P1 St1) (D2 : Draws prog w A i2 fp2 n2 P2 St2)
    (hz : IsZipHeld s.heap z TI TO T f) (hT : s.heap.get? T = some oT) (hTI : IsTupOf2 s.heap TI (.ref i1) (.ref i2)) (st1 : St1 i s.heap) (st2 : St2 i s.heap) (hlt1 : i < n1) (hlt2 : i < n2)
    (hQ : ∀ x1 x2 h' tk, P1 i x1 → P2 i x2 → IsZipHeld h' z TI TO T true → St1 (i + 1) h' → St2 (i + 1) h' → IsTupOf2 h' s.heap.objs.size x1 x2 →
      (∀ c o, c ≠ z → c ≠ i1 → c ≠ i2 → s.heap.get? c = some o → h'.get? c = some o) → Q (.ref s.heap.objs.size) { s with heap := h', toks := tk }) :
    wpAny (model prog w) A (Builtin.«zip.__next__» ⟨[.ref z], []⟩) (fun fin s' => ∃ v, fin = .done (.ret v) ∧ Q v s') E s := by
  obtain ⟨hp, g, d, tk0, os⟩ := s
  show wpAny _ _ (field (.ref z) 2 >>= _) _ _ _
  refine wpAny_bind (wpAny_field hz rfl (x := .bool false) rfl ?_)
  show wpAny _ _ (field (.ref z) 3 >>= _) _ _ _
  refine wpAny_bind (wpAny_field hz rfl (x := .ref TI) rfl ?_)
  refine wpAny_bind (wpAny_seqItems hTI rfl ?_)
  show wpAny _ _ (Builtin.SmallTypes.ownedTupleIsFree (.ref z) >>= _) _ _ _
  refine wpAny_bind (wpAny_tupleHeld_zip hz hT fun h₁ hz₁ hs₁ => ?_)
  replace hs₁ : Heap.SameBut z hp h₁ := hs₁
  simp only [Bool.false_eq_true, if_false]
  refine wpAny_bind ?_
  rw [← Array.forIn_toList]
  simp only [List.forIn_cons, List.forIn_nil]
  refine wpAny_bind (wpAny_bind (wpAny_holding ?_))
  show wpAny _ _ (Builtin.SmallTypes.nextOf (.ref i1) >>= _) _ _ ⟨h₁, g, d, tk0, os⟩
  refine wpAny_bind (D1.item i _ _ _ hlt1 (D1.over st1 hs₁ S.zf1) fun x1 p1 tk1 hx1 sn1 hp1 => wpAny_pure ?_)
  replace hp1 : Heap.SameBut i1 h₁ p1 := hp1
  refine wpAny_pure ?_
  refine wpAny_bind (wpAny_bind (wpAny_holding ?_))
  show wpAny _ _ (Builtin.SmallTypes.nextOf (.ref i2) >>= _) _ _ ⟨p1, g, d, tk1, os⟩
  refine wpAny_bind (D2.item i _ _ _ hlt2 (D2.over (D2.over st2 hs₁ S.zf2) hp1 S.sep1_2) fun x2 p2 tk2 hx2 sn2 hp2 => wpAny_pure ?_)
  replace hp2 : Heap.SameBut i2 p1 p2 := hp2
  refine wpAny_pure (wpAny_pure ?_)
  show wpAny _ _ (newTuple [x1, x2] >>= _) _ _ _
  refine wpAny_bind (wpAny_newTuple ?_)
  have hsz : p2.objs.size = hp.objs.size := by rw [hp2.1, hp1.1, hs₁.1]
  have hz₃ : IsZipHeld p2 z TI TO T true := hp2.extBut _ _ S.zi2 (hp1.extBut _ _ S.zi1 hz₁)
  have hk : ∀ c o, c ≠ z → c ≠ i1 → c ≠ i2 → hp.get? c = some o → p2.get? c = some o := fun c o c1 c2 c3 e => hp2.extBut _ _ c3 (hp1.extBut _ _ c2 (hs₁.extBut _ _ c1 e))
  have st1' : St1 (i + 1) p2 := D1.over sn1 hp2 S.sep2_1
  refine wpAny_pure ⟨_, rfl, ?_⟩
  show Q (.ref p2.objs.size) ⟨p2.push { cls := .type "tuple", data := .seq #[x1, x2] }, g, d, tk2, os⟩
  have hp' : IsTupOf2 (p2.push { cls := .type "tuple", data := .seq #[x1, x2] }) p2.objs.size x1 x2 := Heap.get?_push_size _ rfl
  rw [hsz] at hp' ⊢
  exact hQ x1 x2 _ tk2 hx1 hx2 (Heap.get?_push_of_some _ hz₃) (D1.frame _ _ _ st1' fun b _ o e => Heap.get?_push_of_some _ e) (D2.frame _ _ _ sn2 fun b _ o e => Heap.get?_push_of_some _ e) hp' fun c o c1 c2 c3 e => Heap.get?_push_of_some _ (hk c o c1 c2 c3 e)
theorem zipH_next_end {Q : Fin → Shared → Prop} (S : ZipSep2 z TI TO i1 i2 fp1 fp2) (D1 : Draws prog w A i1 fp1 n1 P1 St1) (D2 : Draws prog w A i2 fp2 n2 P2 St2)
    (hz : IsZipHeld s.heap z TI TO T f) (hT : s.heap.get? T = some oT) (hTI : IsTupOf2 s.heap TI (.ref i1) (.ref i2)) (st1 : St1 i s.heap) (st2 : St2 i s.heap) (hle1 : i ≤ n1) (hle2 : i ≤ n2) (hend : i = n1 ∨ i = n2)
    (hE : ∀ h' tk e, (∀ c o, c ≠ z → c ≠ i1 → c ≠ i2 → s.heap.get? c = some o → h'.get? c = some o) → (∃ o, h'.get? e = some o ∧ o.cls = .type "StopIteration") → E (.ref e) { s with heap := h', toks := tk }) :
    wpAny (model prog w) A (Builtin.«zip.__next__» ⟨[.ref z], []⟩) Q E s := by
  obtain ⟨hp, g, d, tk0, os⟩ := s
  show wpAny _ _ (field (.ref z) 2 >>= _) _ _ _
  refine wpAny_bind (wpAny_field hz rfl (x := .bool false) rfl ?_)
  show wpAny _ _ (field (.ref z) 3 >>= _) _ _ _
  refine wpAny_bind (wpAny_field hz rfl (x := .ref TI) rfl ?_)
  refine wpAny_bind (wpAny_seqItems hTI rfl ?_)
  show wpAny _ _ (Builtin.SmallTypes.ownedTupleIsFree (.ref z) >>= _) _ _ _
  refine wpAny_bind (wpAny_tupleHeld_zip hz hT fun h₁ hz₁ hs₁ => ?_)
  replace hs₁ : Heap.SameBut z hp h₁ := hs₁
  simp only [Bool.false_eq_true, if_false]
  refine wpAny_bind ?_
  rw [← Array.forIn_toList]
  simp only [List.forIn_cons, List.forIn_nil]
  refine wpAny_bind (wpAny_bind (wpAny_holding ?_))
  show wpAny _ _ (Builtin.SmallTypes.nextOf (.ref i1) >>= _) _ _ ⟨h₁, g, d, tk0, os⟩
  by_cases hlt1 : i < n1
  · have hi2 : i = n2 := by omega
    refine wpAny_bind (D1.item i _ _ _ hlt1 (D1.over st1 hs₁ S.zf1) fun x1 p1 tk1 hx1 sn1 hp1 => wpAny_pure ?_)
    replace hp1 : Heap.SameBut i1 h₁ p1 := hp1
    refine wpAny_pure ?_
    refine wpAny_bind (wpAny_bind (wpAny_holding ?_))
    show wpAny _ _ (Builtin.SmallTypes.nextOf (.ref i2) >>= _) _ _ ⟨p1, g, d, tk1, os⟩
    refine wpAny_bind (D2.done ⟨p1, g, d, tk1, os⟩ _ _ (by rw [← hi2]; exact D2.over (D2.over st2 hs₁ S.zf2) hp1 S.sep1_2) fun q e hq he => ?_)
    exact hE q tk1 e (fun c o c1 c2 c3 x => hq _ _ c3 (hp1.extBut _ _ c2 (hs₁.extBut _ _ c1 x))) he
  · have hi1 : i = n1 := by omega
    refine wpAny_bind (D1.done ⟨h₁, g, d, tk0, os⟩ _ _ (by rw [← hi1]; exact D1.over st1 hs₁ S.zf1) fun q e hq he => ?_)
    exact hE q tk0 e (fun c o c1 c2 c3 x => hq _ _ c2 (hs₁.extBut _ _ c1 x)) he
theorem zipH_item {Q : Option Value → Shared → Prop} (S : ZipSep2 z TI TO i1 i2 fp1 fp2) (D1 : Draws prog w A.in1 i1 fp1 n1 P1 St1) (D2 : Draws prog w A.in1 i2 fp2 n2 P2 St2)
    (hz : IsZipHeld s.heap z TI TO T f) (hT : s.heap.get? T = some oT) (hTI : IsTupOf2 s.heap TI (.ref i1) (.ref i2)) (st1 : St1 i s.heap) (st2 : St2 i s.heap) (hlt1 : i < n1) (hlt2 : i < n2)
    (hQ : ∀ x1 x2 h' tk, P1 i x1 → P2 i x2 → IsZipHeld h' z TI TO T true → St1 (i + 1) h' → St2 (i + 1) h' → IsTupOf2 h' s.heap.objs.size x1 x2 →
      (∀ c o, c ≠ z → c ≠ i1 → c ≠ i2 → s.heap.get? c = some o → h'.get? c = some o) → Q (some (.ref s.heap.objs.size)) { s with heap := h', toks := tk }) :
    wpAny (model prog w) A (pyNext (.ref z)) Q E s := by
  have hTy : s.TypeIs (.ref z) "zip" := ⟨_, hz, rfl⟩
  unfold pyNext
  exact wpAny_bind (wpAny_attempt (wpAny_callSpecial?_slot (name := Str.ofString "__next__") hTy PySem.F.slot_zip_next
    (wpAny_call_entry PySem.F.slot_zip_next hTy PySem.F.entry_zip_next
      (zipH_next_item S D1 D2 hz hT hTI st1 st2 hlt1 hlt2 fun x1 x2 h' tk y1 y2 b1 d1 d2 b5 b7 => wpAny_pure (hQ x1 x2 h' tk y1 y2 b1 d1 d2 b5 b7)) (PySem.F.args_zip_next_1 _))))
theorem zipH_end {Q : Option Value → Shared → Prop} (S : ZipSep2 z TI TO i1 i2 fp1 fp2) (D1 : Draws prog w A.in1 i1 fp1 n1 P1 St1) (D2 : Draws prog w A.in1 i2 fp2 n2 P2 St2)
    (hz : IsZipHeld s.heap z TI TO T f) (hT : s.heap.get? T = some oT) (hTI : IsTupOf2 s.heap TI (.ref i1) (.ref i2)) (st1 : St1 i s.heap) (st2 : St2 i s.heap) (hle1 : i ≤ n1) (hle2 : i ≤ n2) (hend : i = n1 ∨ i = n2)
    (hQ : ∀ h' tk, (∀ c o, c ≠ z → c ≠ i1 → c ≠ i2 → s.heap.get? c = some o → h'.get? c = some o) → Q none { s with heap := h', toks := tk }) : wpAny (model prog w) A (pyNext (.ref z)) Q E s := by
  have hTy : s.TypeIs (.ref z) "zip" := ⟨_, hz, rfl⟩
  unfold pyNext
  refine wpAny_bind (wpAny_attempt (wpAny_callSpecial?_slot (name := Str.ofString "__next__") hTy PySem.F.slot_zip_next
    (wpAny_call_entry PySem.F.slot_zip_next hTy PySem.F.entry_zip_next (zipH_next_end S D1 D2 hz hT hTI st1 st2 hle1 hle2 hend fun h' tk e hk he => ?_) (PySem.F.args_zip_next_1 _))))
  obtain ⟨o, ho, hc⟩ := he
  refine wpAny_bind (wpAny_isInstance (T := "StopIteration") (b := true) ⟨o, ho, hc⟩ isSubtype_stop ?_)
  exact wpAny_pure (hQ _ _ hk)
end
section
variable {prog : Program} {w : World}
/-- what two sources of a zip are, under any Around that handles nothing -/
abbrev AnyDraws (prog : Program) (w : World) (it : Addr) (fp : List Addr) (n : Nat) (P : Nat → Value → Prop) (St : Nat → Heap → Prop) : Prop := ∀ A : Around, A.handled = none → Draws prog w A it fp n P St
theorem pairZip {z TI TO i1 i2 : Addr} {fp1 fp2 : List Addr} {n1 n2 : Nat} {P1 P2 : Nat → Value → Prop} {St1 St2 : Nat → Heap → Prop} (S : ZipSep2 z TI TO i1 i2 fp1 fp2) (A0 : Around) (h0 : A0.handled = none) (D1 : AnyDraws prog w i1 fp1 n1 P1 St1) (D2 : AnyDraws prog w i2 fp2 n2 P2 St2) :
    PairArg prog w "zip" z (z :: TI :: TO :: (fp1 ++ fp2)) [z, TO, i1, i2] (min n1 n2) (fun i k v => P1 i k ∧ P2 i v)
      (fun h => IsZip h z TI TO .none ∧ IsTupOf2 h TI (.ref i1) (.ref i2) ∧ (∃ a b, IsTupOf2 h TO a b) ∧ St1 0 h ∧ St2 0 h ∧ ∀ b ∈ fp1 ++ fp2, ∃ o, h.get? b = some o) where
  type := fun s ok => ⟨_, ok.1, rfl⟩
  notDict := by decide
  keep := fun h h' ok hk => by
    obtain ⟨hz, hTI, ⟨a, b, hTO⟩, h1, h2, ht⟩ := ok
    exact ⟨hk _ _ hz, hk _ _ hTI, ⟨a, b, hk _ _ hTO⟩, (D1 A0 h0).frame _ _ _ h1 fun b _ o e => hk _ o e, (D2 A0 h0).frame _ _ _ h2 fun b _ o e => hk _ o e, fun b hb => let ⟨o, e⟩ := ht b hb; ⟨o, hk _ _ e⟩⟩
  there := fun h ok b hb => by
    obtain ⟨hz, hTI, ⟨a, c, hTO⟩, _, _, ht⟩ := ok
    rcases List.mem_cons.mp hb with rfl | hb
    · exact ⟨_, hz⟩
    · rcases List.mem_cons.mp hb with rfl | hb
      · exact ⟨_, hTI⟩
      · rcases List.mem_cons.mp hb with rfl | hb
        · exact ⟨_, hTO⟩
        · exact ht b hb
  sub := fun b hb => by
    have m1 := S.mem1
    have m2 := S.mem2
    simp at hb ⊢
    rcases hb with rfl | rfl | rfl | rfl <;> simp [m1, m2]
  noKeys := fun A s Q E hA ok h => getAttrOr_miss_zip ok.1 rfl rfl rfl zip_no_keys (by decide +kernel) hA h
  iter := fun A s d Q E hA ok hd hdf h => by
    obtain ⟨hz, hTI, ⟨a, b, hTO⟩, h1, h2, _⟩ := ok
    have hA1 : A.in1.handled = none := hA
    have E1 := D1 A.in1 hA1
    have E2 := D2 A.in1 hA1
    have df1 : d ∉ fp1 := fun q => hdf (List.mem_cons_of_mem _ (List.mem_cons_of_mem _ (List.mem_cons_of_mem _ (List.mem_append_left _ q))))
    have df2 : d ∉ fp2 := fun q => hdf (List.mem_cons_of_mem _ (List.mem_cons_of_mem _ (List.mem_cons_of_mem _ (List.mem_append_right _ q))))
    have dz : d ≠ z := fun q => hdf (q ▸ List.mem_cons_self)
    have dTI : d ≠ TI := fun q => hdf (q ▸ List.mem_cons_of_mem _ List.mem_cons_self)
    have dTO : d ≠ TO := fun q => hdf (q ▸ List.mem_cons_of_mem _ (List.mem_cons_of_mem _ List.mem_cons_self))
    refine wpAny_pyIter_zip hz (h z [z, TO, i1, i2] (fun i h => IsTupOf2 h TI (.ref i1) (.ref i2) ∧ St1 i h ∧ St2 i h ∧
      ((IsZip h z TI TO .none ∧ ∃ a b, IsTupOf2 h TO a b) ∨ ∃ T f oT, IsZipHeld h z TI TO T f ∧ h.get? T = some oT ∧ T ≠ z ∧ T ≠ i1 ∧ T ≠ i2 ∧ T ≠ d)) s.heap s.toks ?_
      ⟨hTI, h1, h2, .inl ⟨hz, a, b, hTO⟩⟩ (fun _ _ e => e) fun b hb => .inl hb)
    exact {
      off := fun hm => by
        simp only [List.mem_cons, List.not_mem_nil, or_false] at hm
        rcases hm with e | e | e | e
        · exact dz e
        · exact dTO e
        · exact df1 (e ▸ S.mem1)
        · exact df2 (e ▸ S.mem2)
      frame := fun i h₁ h₂ st hk => by
        obtain ⟨hTI, h1, h2, hz⟩ := st
        refine ⟨hk _ _ (Ne.symm dTI) hTI, E1.frame _ _ _ h1 fun b hb o e => hk b o (fun q => df1 (q ▸ hb)) e, E2.frame _ _ _ h2 fun b hb o e => hk b o (fun q => df2 (q ▸ hb)) e, ?_⟩
        rcases hz with ⟨hz, a, b, hTO⟩ | ⟨T, f, oT, hz, hT, r1, r2, r3, r4⟩
        · exact .inl ⟨hk _ _ (Ne.symm dz) hz, a, b, hk _ _ (Ne.symm dTO) hTO⟩
        · exact .inr ⟨T, f, oT, hk _ _ (Ne.symm dz) hz, hk _ _ r4 hT, r1, r2, r3, r4⟩
      item := fun i s₁ Q₁ E₁ hi st hds hQ => by
        obtain ⟨hTI, h1, h2, hz⟩ := st
        have l1 : i < n1 := Nat.lt_of_lt_of_le hi (Nat.min_le_left ..)
        have l2 : i < n2 := Nat.lt_of_lt_of_le hi (Nat.min_le_right ..)
        have lt : ∀ {c o}, s₁.heap.get? c = some o → s₁.heap.objs.size ≠ c := fun e => Nat.ne_of_gt (Heap.lt_size e)
        have n1' : s₁.heap.objs.size ≠ i1 := let ⟨_, e⟩ := E1.live _ _ h1; lt e
        have n2' : s₁.heap.objs.size ≠ i2 := let ⟨_, e⟩ := E2.live _ _ h2; lt e
        rcases hz with ⟨hz, a, b, hTO⟩ | ⟨T, f, oT, hz, hT, r1, r2, r3, r4⟩
        · refine wpAny_pyNext_zipD2_item S E1 E2 hz hTI hTO h1 h2 l1 l2 fun x1 x2 h' tk y1 y2 a1 a2 a3 a4 a5 a6 hk => ?_
          exact hQ s₁.heap.objs.size _ _ h' tk ⟨y1, y2⟩ (.inl ⟨_, a5, rfl, _, rfl⟩)
            ⟨hk _ _ S.TIz S.TITO S.TIi1 S.TIi2 hTI, a3, a4,
              .inr ⟨s₁.heap.objs.size, false, _, a1, a5, lt hz, n1', n2', Nat.ne_of_gt hds⟩⟩
            fun c o hc e => hk c o (fun x => hc (by simp [x])) (fun x => hc (by simp [x])) (fun x => hc (by simp [x])) (fun x => hc (by simp [x])) e
        · refine zipH_item S E1 E2 hz hT hTI h1 h2 l1 l2 fun x1 x2 h' tk y1 y2 a1 a3 a4 a5 hk => ?_
          exact hQ s₁.heap.objs.size _ _ h' tk ⟨y1, y2⟩ (.inl ⟨_, a5, rfl, _, rfl⟩)
            ⟨hk _ _ S.TIz S.TIi1 S.TIi2 hTI, a3, a4, .inr ⟨T, true, oT, a1, hk _ _ r1 r2 r3 hT, r1, r2, r3, r4⟩⟩
            fun c o hc e => hk c o (fun x => hc (by simp [x])) (fun x => hc (by simp [x])) (fun x => hc (by simp [x])) e
      done := fun s₁ Q₁ E₁ st hQ => by
        obtain ⟨hTI, h1, h2, hz⟩ := st
        have hend : min n1 n2 = n1 ∨ min n1 n2 = n2 := by omega
        rcases hz with ⟨hz, a, b, hTO⟩ | ⟨T, f, oT, hz, hT, r1, r2, r3, r4⟩
        · exact wpAny_pyNext_zipD2_end S E1 E2 hz hTI hTO h1 h2 (Nat.min_le_left ..) (Nat.min_le_right ..) hend fun h' tk hk => hQ h' tk fun c o hc e => hk c o (fun x => hc (by simp [x])) (fun x => hc (by simp [x])) (fun x => hc (by simp [x])) (fun x => hc (by simp [x])) e
        · exact zipH_end S E1 E2 hz hT hTI h1 h2 (Nat.min_le_left ..) (Nat.min_le_right ..) hend fun h' tk hk => hQ h' tk fun c o hc e => hk c o (fun x => hc (by simp [x])) (fun x => hc (by simp [x])) (fun x => hc (by simp [x])) e }
end
section
variable {prog : Program} {w : World} {A : Around} {E : Value → Shared → Prop} {s : Shared}
open L2 in
theorem call_dictZipG {l1 l2 : Addr} {v1 : Value} {o1 : Obj} {H1 : Heap → Prop} {n1 : Nat} {P1 : Nat → Value → Prop} {St1 : Nat → Heap → Prop} {its2 : Array Value} {prs : List (Key × Value)} {Q : Value → Shared → Prop} (hh : A.handled = none) (B1 : Begins v1 o1 H1) (hl1 : l1 < s.heap.objs.size) (h1 : H1 s.heap)
    (D1 : AnyDraws prog w s.heap.objs.size [s.heap.objs.size, l1] n1 P1 St1) (st1 : ∀ h', h'.get? s.heap.objs.size = some o1 → (∀ b o, s.heap.get? b = some o → h'.get? b = some o) → St1 0 h' ∧ ∃ o, h'.get? l1 = some o)
    (h2 : s.heap.IsTuple l2 its2) (hl : prs.length = min n1 its2.size) (hc : ∀ i k v, P1 i k → its2[i]? = some v → ∃ key, prs[i]? = some (key, v) ∧ keyIs key k = true) (hsz : min n1 its2.size ≤ sizeLine)
    (h : ∀ h' tk p, s.heap.objs.size ≤ p → h'.DictOf (mixKind prog w) p (merged [] prs) → (∀ b o, s.heap.get? b = some o → h'.get? b = some o) → Q (.ref p) { s with heap := h', toks := tk }) :
    wpAny (model prog w) A (call (.type "zip") [v1, .ref l2]) (fun v s1 => wpAny (model prog w) A (call (.type "dict") [v]) Q E s1) E s := by
  have hl2 : l2 < s.heap.objs.size := by
    obtain ⟨o, ho, _⟩ := h2
    exact Heap.lt_size ho
  refine zip_begins2 B1 (begins_tuple l2 its2) h1 h2 fun h' hz hTI hTO g1 g2 hsz' hk => ?_
  have ht2 : h'.IsTuple l2 its2 := h2.at fun o e => hk _ _ e
  obtain ⟨s1, e1⟩ := st1 h' g1 hk
  obtain ⟨o2, ho2, _⟩ := id ht2
  refine PySem.call_dict_pairs (knd := mixKind prog w) (kvs := prs) (pairZip (zip_sep2 (N := s.heap.objs.size) (fp1 := [l1]) (fp2 := [l2]) (fun b hb => by rw [List.mem_singleton.mp hb]; exact hl1) (fun b hb => by rw [List.mem_singleton.mp hb]; exact hl2)) A hh D1 (fun A' hA' => Draws.tuple hA' (s.heap.objs.size + 1) l2 (Nat.ne_of_lt (Nat.lt_succ_of_lt hl2)) its2)) hh
    ⟨hz, hTI, ⟨_, _, hTO⟩, s1, ⟨⟨_, g2, rfl, rfl⟩, ht2⟩, fun b hb => ?_⟩ ⟨hl, fun i k v hr => hc i k v hr.1 hr.2⟩ hsz fun h'' tk hd hk2 => ?_
  · have hb' : b = s.heap.objs.size ∨ b = l1 ∨ b = s.heap.objs.size + 1 ∨ b = l2 := by simpa using hb
    rcases hb' with e | e | e | e
    · rw [e]; exact ⟨_, g1⟩
    · rw [e]; exact e1
    · rw [e]; exact ⟨_, g2⟩
    · rw [e]; exact ⟨_, ho2⟩
  · refine h h'' tk h'.objs.size (by rw [hsz']; exact Nat.le_add_right _ _) hd fun b o e => hk2 b o (fun hm => ?_) (hk b o e)
    have hlt : (b : Nat) < s.heap.objs.size := Heap.lt_size e
    have hb' : b = s.heap.objs.size + 4 ∨ b = s.heap.objs.size + 3 ∨ b = s.heap.objs.size ∨ b = s.heap.objs.size + 1 := by simpa using hm
    have hge : s.heap.objs.size ≤ b := by
      rcases hb' with q | q | q | q
      · rw [q]; exact Nat.le_add_right _ _
      · rw [q]; exact Nat.le_add_right _ _
      · rw [q]; exact Nat.le_refl _
      · rw [q]; exact Nat.le_add_right _ _
    exact absurd hlt (Nat.not_lt.mpr hge)
end
end OtS
namespace Ot
open PySem PySem.Spec PyProof.Rows L2 Evl
/-- dict(zip(a, b)), a a list or tuple of texts, b a tuple of as many -/
def tDictZip (K : PySem.W.Frag) (ta tb : TE) : TE := fun σ H Q => ta σ H fun x H1 => tb σ H1 fun y H2 => ∃ (a b : Addr) (ks : List Str) (vs : List V), x = .ref a ∧ y = .ref b ∧ (SqT K H2 a (strV ks) ∨ SqL K H2 a (strV ks)) ∧ SqT K H2 b vs ∧ ks.length = vs.length ∧
  ∀ p, H2 p = none → Q (.ref p) (upd H2 p (.dK (mergeK [] ((ks.map fun k => (Sum.inr k : Key)).zip vs))))
theorem zip_kv : ∀ {ks : List Str} {vs : List V} {ws : List Value}, Vals vs ws → KV ((ks.map fun k => (Sum.inr k : Key)).zip vs) ((ks.map fun k => (Sum.inr k : Key)).zip ws)
  | [], _, _, _ => .nil
  | k :: ks, _, _, .nil => .nil
  | k :: ks, _, _, .cons r t => .cons ⟨rfl, r⟩ (zip_kv t)
theorem pe_dictZip {X : Cx} {a b : Expr} {ta tb : TE} {p p2 q pos : Pos} (hg : Gl X "dict") (hm : X.mg "dict" = none) (hg2 : Gl X "zip") (hm2 : X.mg "zip" = none) (ha : PE X a ta) (hb : PE X b tb) (hc : X.calm = true := by rfl)
    (na : starEach [a, b] X.env = (false, eval a X.env) :: starEach [b] X.env := by rfl) (nb : starEach [b] X.env = (false, eval b X.env) :: starEach [] X.env := by rfl) (hpl : (backTo q (starEach [b] X.env)).any (·.1) = false := by rfl) :
    PE X (.Call (.Name "dict" p) [.Call (.Name "zip" p2) [a, b] [] q] [] pos) (tDictZip X.K ta tb) := by
  refine ⟨fun pins s σ H Q I h => Call_ (ld_blt I hg hm (u := .type "dict") (by decide +kernel) ?_)⟩
  refine callWith_type1 (args_cons (Call_ (ld_blt I hg2 hm2 boot_zip ?_)) rfl) rfl rfl
  refine callWith_type1 (args_cons (thn (ha.run pins s σ H _ I h) fun u s1 ⟨x, H1, I1, r1, q1⟩ => ?_) na) na hpl
  refine args_cons (thn (hb.run pins s1 σ H1 _ I1 q1) fun u' s2 ⟨y, H2, I2, r2, q2⟩ => ?_) nb
  obtain ⟨l1, l2, ks, vs, rfl, rfl, hk, hv, hl, q2⟩ := q2
  cases r1
  cases r2
  refine args_nil ?_
  obtain ⟨its2, rv2, p2', hz2⟩ := I2.tuple hv
  have hl2 := rv2.length
  have main : ∀ {v1 : Value} {o1 : Obj} {H1 : Heap → Prop} {its1 : List Value} {St1 : Nat → Heap → Prop}, v1 = .ref l1 → Vals (strV ks) its1 → Begins v1 o1 H1 → l1 < s2.heap.objs.size → H1 s2.heap →
      OtS.AnyDraws X.prog X.w s2.heap.objs.size [s2.heap.objs.size, l1] its1.length (fun i v => its1[i]? = some v) St1 → (∀ h', h'.get? s2.heap.objs.size = some o1 → (∀ b o, s2.heap.get? b = some o → h'.get? b = some o) → St1 0 h' ∧ ∃ o, h'.get? l1 = some o) →
      wpAny (model X.prog X.w) X.A (call (.type "zip") [v1, .ref l2]) (fun v s1 => wpAny (model X.prog X.w) X.A (call (.type "dict") [v]) (EP X pins σ Q) X.xe s1) X.xe s2 := fun {v1 o1 H1 its1 St1} ev rv1 B hlt h1 D st => by
    have hl1 := rv1.length
    have hlk : (strV ks).length = ks.length := List.length_map ..
    refine OtS.call_dictZipG (prs := (ks.map fun k => (Sum.inr k : Key)).zip its2) (I2.ok.hd hc) B hlt h1 D st (its2 := its2.toArray) p2' ?_ (fun i k v e1 e2 => ?_) ?_ fun h' tk p hp hd hkeep => ?_
    · rw [List.length_zip, List.length_map]
      show min ks.length its2.length = min its1.length its2.length
      rw [← hl1, ← hl2, hlk, hl]
    · have e2 : its2[i]? = some v := by simpa using e2
      have hlt : i < its1.length := by
        obtain ⟨h1, _⟩ := List.getElem?_eq_some_iff.mp e1
        exact h1
      have hx0 : (strV ks)[i]? = some ((strV ks)[i]'(by rw [hl1]; exact hlt)) := List.getElem?_eq_getElem _
      generalize (strV ks)[i]'(by rw [hl1]; exact hlt) = x at hx0
      have hx := hx0
      obtain ⟨u, hu, rx⟩ := rv1.get hx0
      have e3 : some u = some k := hu.symm.trans e1
      cases e3
      rw [List.getElem?_map] at hx
      cases hk2 : ks[i]? with
      | none => rw [hk2] at hx; cases hx
      | some z =>
        rw [hk2] at hx
        have hx : V.str z = x := Option.some.inj hx
        subst hx
        refine ⟨Sum.inr z, ?_, kV_is (P := X.prog) (w := X.w) (k := Sum.inr z) rx⟩
        rw [List.getElem?_zip_eq_some]
        exact ⟨by rw [List.getElem?_map, hk2]; rfl, e2⟩
    · refine Nat.le_trans (Nat.min_le_right _ _) ?_
      show its2.length ≤ sizeLine
      rw [← hl2]
      exact hz2
    · have hm' : (p == sysModules) = false := beq_eq_false_iff_ne.mpr (Nat.ne_of_gt (Nat.lt_of_lt_of_le I2.big hp))
      have rel : KV ((ks.map fun k => (Sum.inr k : Key)).zip vs) ((ks.map fun k => (Sum.inr k : Key)).zip its2) := zip_kv rv2
      have hlen : (mergeK [] ((ks.map fun k => (Sum.inr k : Key)).zip vs)).length ≤ sizeLine := by
        refine Nat.le_trans (length_mergeK _ []) ?_
        rw [List.length_nil, Nat.zero_add, List.length_zip]
        exact Nat.le_trans (Nat.min_le_right _ _) hz2
      exact ⟨.ref p, upd H2 p (.dK (mergeK [] ((ks.map fun k => (Sum.inr k : Key)).zip vs))), I2.laid (t' := tk) hkeep hp (show ObjOk X.prog X.w _ _ _ (.dK _) from ⟨hlen, hm', merged [] _, KV.merge rel .nil, hd⟩), rfl, q2 _ (I2.hok.fresh hp)⟩
  refine thn (?_ : wpAny (model X.prog X.w) X.A (call (.type "zip") [.ref l1, .ref l2]) (fun v s1 => wpAny (model X.prog X.w) X.A (call (.type "dict") [v]) (EP X pins σ Q) X.xe s1) X.xe s2) fun v s1 hh => args_nil hh
  rcases hk with hk | hk
  · obtain ⟨its1, rv1, p1, _⟩ := I2.tuple hk
    have p1 : s2.heap.IsTuple l1 its1.toArray := p1
    obtain ⟨o1, ho1, _⟩ := id p1
    exact main (St1 := fun i h => h.IsTupleIter s2.heap.objs.size l1 i ∧ h.IsTuple l1 its1.toArray) rfl rv1 (begins_tuple l1 its1.toArray) (Heap.lt_size ho1) p1 (fun A' hA' => by have d := Draws.tuple (prog := X.prog) (w := X.w) hA' s2.heap.objs.size l1 (Nat.ne_of_lt (Heap.lt_size ho1)) its1.toArray; simpa using d) fun h' g hk' => ⟨⟨⟨_, g, rfl, rfl⟩, p1.at fun o e => hk' _ _ e⟩, ⟨_, hk' _ _ ho1⟩⟩
  · obtain ⟨its1, rv1, p1, _⟩ := I2.list hk
    have p1 := p1.isList
    obtain ⟨o1, ho1, _⟩ := id p1
    exact main (St1 := fun i h => h.IsListIter s2.heap.objs.size l1 i ∧ h.IsList l1 its1.toArray) rfl rv1 (begins_list l1 its1.toArray) (Heap.lt_size ho1) p1 (fun A' hA' => by have d := Draws.list (prog := X.prog) (w := X.w) hA' s2.heap.objs.size l1 (Nat.ne_of_lt (Heap.lt_size ho1)) its1.toArray; simpa using d) fun h' g hk' => ⟨⟨⟨_, g, rfl, rfl⟩, p1.at fun o e => hk' _ _ e⟩, ⟨_, hk' _ _ ho1⟩⟩
end Ot
/-! Otherworths k13: {**a, **b}, the keys of a and b all different -/
namespace OtS
open PySem PySem.Spec PyProof.Rows L2
section
variable {prog : Program} {w : World} {A : Around} {E : Value → Shared → Prop} {s : Shared}
theorem put_new {d : Addr} {kvs : List (Key × Value)} {k : Key} {key v : Value} {Q : Unit → Shared → Prop} (hkey : (mixKind prog w).is k key = true) (hm : s.heap.DictOf (mixKind prog w) d kvs) (hno : k ∉ kvs.map (·.1)) (hsz : kvs.length ≤ sizeLine)
    (hQ : ∀ h', h'.DictOf (mixKind prog w) d (kvs ++ [(k, v)]) → Heap.SameBut d s.heap h' → Q () { s with heap := h' }) : wpAny (model prog w) A (dictPut d ((mixKind prog w).hash k) key v) Q E s := by
  obtain ⟨ob, tab, stamp, h1, h2, h3, h4, h5, h6⟩ := hm
  have sz : tab.size ≤ sizeLine := by
    have e := h5.length
    rw [Array.length_toList] at e
    rw [e]
    exact hsz
  have miss : (tab.findIdx? fun e => (mixKind prog w).is k e.key) = none := by
    have e := h5.findIdx k
    have e2 : (kvs.findIdx? fun kv => decide (kv.1 = k)) = none := by
      rw [List.findIdx?_eq_none_iff]
      intro kv hkv
      exact decide_eq_false fun q => hno (q ▸ List.mem_map.mpr ⟨kv, hkv, rfl⟩)
    rw [e2] at e
    obtain ⟨l⟩ := tab
    simpa using e
  unfold dictPut
  refine wpAny_bind (wpAny_dictFind_of hkey h1 h3 h4 ?_)
  rw [miss]
  refine wpAny_updateDictKeys (hz := sz) h1 h3 (hQ _ ⟨_, _, stamp + 1, Heap.get?_update_self _ h1 (Obj.isFreed_of_dict (Obj.data_mapDictKeys h3 _)), h2.mapDictKeys _, Obj.data_mapDictKeys h3 _, h4.push hkey _, ?_, ?_⟩ (Heap.SameBut.update ..))
  · have e := h5.append hkey ((mixKind prog w).hash k) v
    obtain ⟨l⟩ := tab
    simpa using e
  · rw [List.map_append, List.nodup_append]
    refine ⟨h6, by simp, fun a ha b hb e => hno ?_⟩
    have hb : b = k := by simpa using hb
    rw [← hb, ← e]
    exact ha
theorem merge_new {d a : Addr} {kvs more : List (Key × Value)} {Q : Unit → Shared → Prop} (hda : d ≠ a) (haS : (a == sysModules) = false) (hd : s.heap.DictOf (mixKind prog w) d kvs) (ha : s.heap.DictOf (mixKind prog w) a more) (nd : ((kvs ++ more).map (·.1)).Nodup) (hsz : kvs.length + more.length ≤ sizeLine)
    (hQ : ∀ h', h'.DictOf (mixKind prog w) d (kvs ++ more) → Heap.SameBut d s.heap h' → Q () { s with heap := h' }) : wpAny (model prog w) A (mergeMapping d (.ref a) false) Q E s := by
  obtain ⟨od, td, pd, g1, g2, g3, g4, g5, g6⟩ := id hd
  obtain ⟨oa, tab, pa, h1, h2, h3, h4, h5, h6⟩ := id ha
  have tl : tab.size = more.length := by
    have e := h5.length
    rw [Array.length_toList] at e
    exact e
  have loop : wpAny (model prog w) A (do
      let l ← dictEntries a
      let epoch ← dictEpoch a
      forIn (List.range l.size) PUnit.unit fun i (_ : PUnit) => (do
        let l' ← dictEntries a
        match l'[i]? with
          | some e => do
            holding [e.key, e.val] (dictPut d e.hash e.key e.val)
            let ep' ← dictEpoch a
            if (ep' != epoch) = true then do
                (unsupported "dict.changed-during-merge" : Sem PUnit)
                pure (ForInStep.yield PUnit.unit)
              else pure (ForInStep.yield PUnit.unit)
          | _ => do
            (unsupported "dict.changed-during-merge" : Sem PUnit)
            pure (ForInStep.yield PUnit.unit) : Sem (ForInStep PUnit))
      pure ()) Q E s := by
    refine wpAny_bind (wpAny_dictEntries h1 h3 ?_)
    refine wpAny_bind (wpAny_dictEpoch h1 h3 ?_)
    refine wpAny_bind ?_
    rw [List.range_eq_range']
    refine wpAny_forIn_list _ (fun rest _ s' => ∃ h' i, s' = { s with heap := h' } ∧ rest = List.range' i (tab.size - i) ∧ i ≤ tab.size ∧ h'.DictOf (mixKind prog w) d (kvs ++ more.take i) ∧ h'.get? a = some oa ∧ Heap.SameBut d s.heap h') _ ?_ ?_ _ _
      ⟨s.heap, 0, rfl, by simp, Nat.zero_le _, by simpa using hd, h1, Heap.SameBut.refl _ _⟩
    · rintro x rest b s' ⟨h', i, rfl, hr, hi, hd', ha', hs'⟩
      have lt : i < tab.size := by
        rcases Nat.lt_or_ge i tab.size with q | q
        · exact q
        · rw [Nat.sub_eq_zero_of_le q] at hr
          simp at hr
      have cut : tab.size - i = (tab.size - (i + 1)) + 1 := by omega
      rw [cut, List.range'_succ] at hr
      injection hr with r1 r2
      subst r1
      refine wpAny_bind (wpAny_dictEntries ha' h3 ?_)
      rw [Array.getElem?_eq_getElem lt]
      have hm : more[x]? = some (more[x]'(by omega)) := List.getElem?_eq_getElem _
      generalize more[x]'(by omega) = kv at hm
      obtain ⟨k, v⟩ := kv
      obtain ⟨q1, q2⟩ := h5.get? (e := tab[x]) (by simp [lt]) hm
      obtain ⟨k', q3, q4⟩ := h4 tab[x] (Array.getElem_mem lt)
      have q5 : k' = k := (mixKind prog w).inj _ _ _ q3 q1
      subst q5
      have tk : more.take (x + 1) = more.take x ++ [(k', v)] := by
        rw [List.take_add_one, hm]
        rfl
      have hno : k' ∉ (kvs ++ more.take x).map (·.1) := fun z => by
        have nd' := nd
        rw [← List.take_append_drop (x + 1) more, tk, List.append_assoc, ← List.append_assoc, List.map_append, List.nodup_append] at nd'
        exact nd'.2.2 k' z k' (by simp) rfl
      have hle : (kvs ++ more.take x).length ≤ sizeLine := by
        rw [List.length_append, List.length_take]
        omega
      show wpAny _ _ (holding [tab[x].key, tab[x].val] (dictPut d tab[x].hash tab[x].key tab[x].val) >>= _) _ _ _
      rw [q4, q2]
      refine wpAny_bind (wpAny_holding (put_new q1 hd' hno hle fun h'' d2 sb => ?_))
      have ha2 : h''.get? a = some oa := (sb.2 a (Ne.symm hda)).trans ha'
      refine wpAny_bind (wpAny_dictEpoch ha2 h3 ?_)
      rw [if_neg (by simp)]
      refine wpAny_pure ⟨h'', x + 1, rfl, r2, lt, ?_, ha2, hs'.trans sb⟩
      rw [tk, ← List.append_assoc]
      exact d2
    · rintro b s' ⟨h', i, rfl, hr, hi, hd', ha', hs'⟩
      have e0 : i = tab.size := by
        rcases Nat.lt_or_ge i tab.size with q | q
        · have cut : tab.size - i = (tab.size - (i + 1)) + 1 := by omega
          rw [cut, List.range'_succ] at hr
          cases hr
        · omega
      refine wpAny_pure (hQ h' ?_ hs')
      rw [e0, tl, List.take_length] at hd'
      exact hd'
  unfold mergeMapping
  refine wpAny_bind (wpAny_isInstance ha.typeIs isSubtype_dict_dict ?_)
  rw [if_pos rfl]
  refine wpAny_bind (wpAny_specialOf ha.typeIs PySem.F.slot_dict_iter.lookup ?_)
  refine wpAny_bind (wpAny_pure ?_)
  rw [show ((some (Value.builtin "dict.__iter__")) == (some (Value.builtin "dict.__iter__"))) = true from beq_self_eq_true _]
  dsimp only
  rw [haS]
  simp only [Bool.false_eq_true, if_false]
  refine wpAny_bind (wpAny_dictEntries g1 g3 ?_)
  split
  · refine wpAny_bind (wpAny_dictEntries h1 h3 ?_)
    refine wpAny_bind ?_
    rw [← Array.forIn_toList]
    refine wpAny_forIn_list _ (fun rest _ s' => s' = s ∧ ∀ e ∈ rest, e ∈ tab.toList) _ ?_ ?_ _ _ ⟨rfl, fun e h => h⟩
    · rintro e rest b s' ⟨rfl, hm⟩
      obtain ⟨k, q, _⟩ := h4 e (by simpa using hm e List.mem_cons_self)
      rcases keyIs_shape q with ⟨i, t, _, q1⟩ | ⟨x, t, _, q1⟩
      · rw [q1]
        exact wpAny_pure ⟨rfl, fun e' h => hm e' (List.mem_cons_of_mem _ h)⟩
      · rw [q1]
        exact wpAny_pure ⟨rfl, fun e' h => hm e' (List.mem_cons_of_mem _ h)⟩
    · rintro b s' ⟨rfl, _⟩
      exact loop
  · exact loop
end
end OtS
namespace Ot
open PySem PySem.Spec PyProof.Rows L2 Evl
/-- {**a, **b}: the new dict stands empty first, then with a's pairs -/
def tMerge2 (ta tb : TE) : TE := fun σ H Q => ∀ p, H p = none → ta σ (upd H p (.dK [])) fun x H1 => ∃ (a : Addr) (ka : List (Key × V)), x = .ref a ∧ a ≠ p ∧ H1 p = some (.dK []) ∧ H1 a = some (.dK ka) ∧
  tb σ (upd H1 p (.dK ka)) fun y H2 => ∃ (b : Addr) (kb : List (Key × V)), y = .ref b ∧ b ≠ p ∧ H2 p = some (.dK ka) ∧ H2 b = some (.dK kb) ∧ ((ka ++ kb).map (·.1)).Nodup ∧ ka.length + kb.length ≤ 1000 ∧ Q (.ref p) (upd H2 p (.dK (ka ++ kb)))
theorem KV.keys {kvs : List (Key × V)} {vs : List (Key × Value)} (r : KV kvs vs) : vs.map (·.1) = kvs.map (·.1) := by
  unfold KV at r
  induction r with
  | nil => rfl
  | cons h t ih => rw [List.map_cons, List.map_cons, ih, h.1]
theorem KV.app {k1 k2 : List (Key × V)} {v1 v2 : List (Key × Value)} (r1 : KV k1 v1) (r2 : KV k2 v2) : KV (k1 ++ k2) (v1 ++ v2) := by
  unfold KV at r1 r2 ⊢
  induction r1 with
  | nil => exact r2
  | cons h t ih => exact .cons h ih
theorem pe_merge2 {X : Cx} {a b : Expr} {ta tb : TE} {pos : Pos} (ha : PE X a ta) (hb : PE X b tb)
    (hz : (evalEachOpt [none, none] X.env).zip ((evalEach [a, b] X.env).map fun v => do let x ← v; standAt pos; pure x) = [(none, do let x ← eval a X.env; standAt pos; pure x), (none, do let x ← eval b X.env; standAt pos; pure x)] := by rfl) :
    PE X (.Dict [none, none] [a, b] pos) (tMerge2 ta tb) := by
  refine ⟨fun pins s σ H Q I q => ?_⟩
  rw [arm_eval_Dict, hz]
  refine wpAny_bind (wpAny_standAt ?_)
  unfold dictDisplay
  dsimp only
  simp only [List.forIn_cons, List.forIn_nil, List.isEmpty_nil, if_true]
  refine wpAny_bind (wpAny_bind (wpAny_bind (wpAny_pure ?_)))
  dsimp only
  have hn := I.hok.fresh (Nat.le_refl s.heap.objs.size)
  have I1 := I.laid (a := s.heap.objs.size) (o := .dK []) (h' := s.heap.push { cls := .type "dict", data := .dict #[] }) (t' := s.toks) (fun _ _ q => Heap.get?_push_of_some _ q) (Nat.le_refl _) (dk_empty s.heap I.big)
  refine wpAny_bind (wpAny_alloc ?_)
  refine wpAny_bind (wpAny_holding ?_)
  refine wpAny_bind (thn (ha.run pins _ σ _ _ I1 (q _ hn)) fun u s1 ⟨x, H1, I2, r1, q1⟩ => ?_)
  obtain ⟨a1, ka, rfl, na, ep, ea, q1⟩ := q1
  cases r1
  refine wpAny_bind (wpAny_standAt (wpAny_pure ?_))
  obtain ⟨z1, y1, va, ra, da⟩ := dk_of I2.hok ea
  obtain ⟨_, yp, vp, rp, dp⟩ := dk_of I2.hok ep
  cases rp
  have ndA : ((([] : List (Key × Value)) ++ va).map (·.1)).Nodup := by
    obtain ⟨_, _, _, _, _, _, _, _, nn⟩ := da
    exact nn
  refine wpAny_bind (wpAny_onRaise (wpAny_tryCatch (wpAny_onRaise (wpAny_holding (OtS.merge_new (Ne.symm na) y1 dp da ndA (by rw [List.length_nil, Nat.zero_add, ← ra.length]; exact z1) fun h' dd sb => ?_)))))
  rw [List.nil_append] at dd
  have hex : ∃ q, h'.get? s.heap.objs.size = some q := let ⟨q, _, _, hq, _⟩ := dd; ⟨q, hq⟩
  have I3 : Inv X pins σ (upd H1 s.heap.objs.size (.dK ka)) { s1 with heap := h' } := d_write (t' := s1.toks) I2 (by rw [ep]; exact True.intro) sb hex (dk_new z1 yp ra dd)
  refine wpAny_pure ?_
  dsimp only
  refine wpAny_bind (wpAny_bind (wpAny_pure ?_))
  dsimp only
  refine wpAny_bind (wpAny_pure ?_)
  refine wpAny_bind (wpAny_holding ?_)
  refine wpAny_bind (thn (hb.run pins _ σ _ _ I3 q1) fun u s2 ⟨y, H2, I4, r2, q2⟩ => ?_)
  obtain ⟨b1, kb, rfl, nb, ep2, eb, nd2, l2, q2⟩ := q2
  cases r2
  refine wpAny_bind (wpAny_standAt (wpAny_pure ?_))
  obtain ⟨z2, y2, vb, rb, db⟩ := dk_of I4.hok eb
  obtain ⟨z3, yp2, vp2, rp2, dp2⟩ := dk_of I4.hok ep2
  have hl : va.length + vb.length ≤ sizeLine := by
    rw [← ra.length, ← rb.length, sizeLine_eq]
    omega
  have e0 := KV.keys rp2
  have e1 := KV.keys rb
  have nd3 : ((vp2 ++ vb).map (·.1)).Nodup := by
    rw [List.map_append, e0, e1, ← List.map_append]
    exact nd2
  refine wpAny_bind (wpAny_onRaise (wpAny_tryCatch (wpAny_onRaise (wpAny_holding (OtS.merge_new (Ne.symm nb) y2 dp2 db nd3 (by rw [← rp2.length, ra.length]; exact hl) fun h2 dd2 sb2 => ?_)))))
  have hex2 : ∃ q, h2.get? s.heap.objs.size = some q := let ⟨q, _, _, hq, _⟩ := dd2; ⟨q, hq⟩
  have hz2 : (ka ++ kb).length ≤ sizeLine := by
    rw [List.length_append, ra.length, rb.length]
    exact hl
  have I5 : Inv X pins σ (upd H2 s.heap.objs.size (.dK (ka ++ kb))) { s2 with heap := h2 } := d_write (t' := s2.toks) I4 (by rw [ep2]; exact True.intro) sb2 hex2 (dk_new hz2 yp2 (KV.app rp2 rb) dd2)
  refine wpAny_pure ?_
  dsimp only
  refine wpAny_pure ?_
  refine wpAny_bind (wpAny_pure ?_)
  exact wpAny_pure ⟨.ref s.heap.objs.size, _, I5, rfl, q2⟩
end Ot
/-! Otherworths k13: more readings, in the extension order -/
namespace Ot
open PySem PySem.Spec PyProof.Rows L2 Evl
abbrev kS (ks : List Str) : List Key := ks.map fun k => (Sum.inr k : Key)
/-- the signs of a text -/
def signs (z : Str) : List V := z.cps.toList.map fun c => V.str ⟨#[c]⟩
/-- a dict that was just made is walked -/
def iKeysN (td : TE) : TI := fun σ H R => td σ H fun x H1 => ∃ d kvs, x = .ref d ∧ H1 d = some (.dK kvs) ∧ ∀ o, R (Itk d o kvs) (upd H1 d (.frz o (.dK kvs)))
section
variable {X : Cx} {tg e : Expr} {td : TE}
theorem pi_keysN (he : PE X e td) : PI X tg e (iKeysN td) := by
  refine ⟨fun pins s σ H R I h => ?_⟩
  refine thn (he.run pins s σ H _ I h) fun u s1 ⟨x, H1, I1, rx, d, kvs, ex, hd, q⟩ => ?_
  subst ex
  obtain rfl : u = Value.ref d := rx
  obtain ⟨o, I2⟩ := I1.lock hd True.intro
  obtain ⟨hs, hgd, hx, es, ep, vs, hdt, hsz, kv, hm⟩ := I2.frzK (kvs := kvs) upd_same
  refine iter_keys hs hgd hx hdt (pi_one (tk := s1.toks) I2 _ (turn_keys _ hdt) ⟨_, Heap.get?_push_size _ rfl, rfl, ?_⟩ (q o))
  rw [hsz] <;> rfl
end
def rLenT : List V → Hp → VK → Prop := fun xs H Q => ∃ z, xs = [.str z] ∧ z.length ≤ sizeLine ∧ Q (.int z.length) H
def rTupS (K : PySem.W.Frag) : List V → Hp → VK → Prop := fun xs H Q => ∃ p ys, xs = [.ref p] ∧ ((SqL K H p ys ∧ ∀ l, H l = none → Q (.ref l) (upd H l (.tup ys))) ∨ (SqT K H p ys ∧ Q (.ref p) H))
def rSortD : List V → Hp → VK → Prop := fun xs H Q => ∃ (a : Addr) (kvs : List (Key × V)) (ks : List Str), xs = [.ref a] ∧ Rd H a (.dK kvs) ∧ kvs.map (·.1) = ks.map Sum.inr ∧ ks.length < 64 ∧
    ∀ ys p, ys.Perm ks → sortedS ys = true → H p = none → Q (.ref p) (upd H p (.lst (ys.map V.str)))
def rListK : List V → Hp → VK → Prop := fun xs H Q => ∃ (a : Addr) (kvs : List (Key × V)), xs = [.ref a] ∧ Rd H a (.dK kvs) ∧ ∀ p, H p = none → Q (.ref p) (upd H p (.lst (kvs.map fun kv => kV kv.1)))
def rIsC (C : Addr) : List V → Hp → VK → Prop := fun xs H Q => ∃ a dx fs, xs = [.ref a, .ref C] ∧ H a = some (.ins C dx fs) ∧ Q (.bl true) H
section
variable {X : Cx}
theorem cr_lenT : CallR X (.builtin "len") rLenT := call_len_str
theorem cr_tupS : CallR X (.type "tuple") (rTupS X.K) := call_tuple_of
theorem cr_listS : CallR X (.type "list") (rListS X.K) := call_list_of
theorem cr_sortD (hc : X.calm = true) : CallR X (.builtin "sorted") rSortD := call_sortedD hc
theorem cr_listK (hc : X.calm = true) : CallR X (.type "list") rListK := call_listD hc
theorem cr_isC {C : Addr} (c : C8.InsC X.K C) : CallR X (.builtin "isinstance") (rIsC C) := C8.call_isC c
end
section
variable {K : PySem.W.Frag} {σ : L2.St} {H : Hp} {ta tb tc te tl td tk tv : TE} {tt : TT} {r : Res} {wi : TI} {x y v : V} {xs ys zs : List V} {a d : Addr} {vs : List Nat} {i j : Nat} {tz tu : TS}
theorem ei_str {z : Str} (h : Ev te σ H (.str z)) : EvI (iStr te) σ H (signs z) := fun H1 e R q => h H1 e _ fun H2 e2 => ⟨z, rfl, q _ H2 e2 ⟨fun _ => True, by
  have hl : (signs z).length = z.cps.size := by
    unfold signs
    rw [List.length_map, Array.length_toList]
  rw [hl]
  refine walk_str.mono (fun _ g => g) fun i H x H' hi _ y => ⟨y.1, ?_⟩
  obtain ⟨c, hc, rfl⟩ := y.2
  unfold signs
  rw [List.getElem?_map, Array.getElem?_toList, hc]
  rfl, fun _ _ => trivial, fun _ _ _ _ _ => trivial⟩⟩
theorem ei_range {n : Nat} {ta : TA} (h : EvA ta σ H [.int (n : Int)]) (hn : n ≤ 100000) : EvI (iRng1 ta) σ H ((List.range n).map fun (k : Nat) => V.int (k : Int)) := fun H1 e R q => h H1 e _ fun H2 e2 => ⟨n, rfl, by omega, by omega, q _ H2 e2 ⟨fun _ => True, by
  have hl : ((List.range n).map fun (k : Nat) => V.int (k : Int)).length = (n : Int).toNat := by
    rw [List.length_map, List.length_range, Int.toNat_natCast]
  rw [hl]
  refine walk_range.mono (fun _ g => g) fun i H x H' hi _ y => ⟨y.1, ?_⟩
  have hx : x = .int (0 + i) := y.2
  rw [Int.toNat_natCast] at hi
  rw [List.getElem?_map, List.getElem?_range hi, hx, Int.zero_add]
  rfl, fun _ _ => trivial, fun _ _ _ _ _ => trivial⟩⟩
theorem keys_walk {d : Addr} {o : Obj} {kvs : List (Key × V)} : Walk (Itk d o kvs) (kvs.map fun kv => kV kv.1).length (fun H => H d = some (.frz o (.dK kvs))) (YAt (kvs.map fun kv => kV kv.1)) := by
  rw [List.length_map]
  refine walk_keys.mono (fun _ g => g) fun i H x H' hi _ y => ⟨y.1, ?_⟩
  obtain ⟨k, v, h1, rfl⟩ := y.2
  rw [List.getElem?_map, h1]
  rfl
theorem ei_keysN {kvs : List (Key × V)} (h : EvR td σ H (.new (.dK kvs))) : EvI (iKeysN td) σ H (kvs.map fun kv => kV kv.1) := fun H1 e R q => h H1 e _ fun z H2 e2 ⟨p, hz, h1, h2⟩ =>
  ⟨p, kvs, hz, h2, fun o => q _ _ (Ex.mut e2 h1) ⟨_, keys_walk, fun H3 e3 => e3 _ _ upd_same, fun D _ hD H3 e3 => e3 _ _ (fun z => hD (z ▸ h1)) upd_same⟩⟩
theorem ei_keysF {o : Obj} {kvs : List (Key × V)} (h : Ev td σ H (.ref d)) (hd : H d = some (.frz o (.dK kvs))) : EvI (iKeys td) σ H (kvs.map fun kv => kV kv.1) := fun H1 e R q => h H1 e _ fun H2 e2 =>
  ⟨d, o, rfl, Or.inl ⟨kvs, (e.trans e2) _ _ hd, q _ H2 e2 ⟨_, keys_walk, fun H3 e3 => (e.trans (e2.trans e3)) _ _ hd, fun D hD _ H3 e3 => e3 _ _ (ne_of_none hd hD) ((e.trans e2) _ _ hd)⟩⟩⟩
theorem ex_updf {H H1 : Hp} {o : HO} (e : Ex H H1) : Ex (upd H d o) (upd H1 d o) := fun b u hb => by
  by_cases h : b = d
  · subst h
    rw [upd_same] at hb ⊢
    exact hb
  · rw [upd_ne h] at hb ⊢
    exact e _ _ hb
/-- back from a lock -/
theorem ex_unlock {H1 H2 : Hp} {o u : HO} (hd : H1 d = some u) (e : Ex (upd H1 d o) H2) : Ex H1 (upd H2 d u) := fun b w hb => by
  by_cases h : b = d
  · subst h
    rw [upd_same]
    rw [hd] at hb
    exact hb
  · rw [upd_ne h]
    exact e _ _ (by rw [upd_ne h]; exact hb)
theorem er_lockN {kvs : List (Key × V)} {o : HO} (hd : Dk H d kvs) (h : ∀ od, EvR te σ (upd H d (.frz od (.dK kvs))) (.new o)) : EvR (tLockE te) σ H (.new o) := fun H1 e Q q =>
  ⟨d, .dK kvs, e _ _ hd, True.intro, fun od => h od _ (ex_updf e) _ fun z H2 e2 ⟨p, hz, h1, h2⟩ => ⟨e2 _ _ upd_same, q z _ (ex_unlock (e _ _ hd) e2) ⟨p, hz, by
    by_cases hp : p = d
    · subst hp
      rw [upd_same] at h1
      cases h1
    · rw [upd_ne hp] at h1
      exact h1, by
    by_cases hp : p = d
    · subst hp
      rw [upd_same] at h1
      cases h1
    · rw [upd_ne hp]
      exact h2⟩⟩⟩
theorem ev_lock {kvs : List (Key × V)} (hd : Dk H d kvs) (h : ∀ od, Ev te σ (upd H d (.frz od (.dK kvs))) v) : Ev (tLockE te) σ H v := fun H1 e Q q =>
  ⟨d, .dK kvs, e _ _ hd, True.intro, fun od => h od _ (ex_updf e) _ fun H2 e2 => ⟨e2 _ _ upd_same, q _ (ex_unlock (e _ _ hd) e2)⟩⟩
/-! ### pairs -/
def EvP (wi : TI) (σ : L2.St) (H : Hp) (xs ys : List V) : Prop := ∀ H1, Ex H H1 → ∀ R : It → Hp → Prop, (∀ J H2, Ex H1 H2 → (∃ G : Hp → Prop, Walk J xs.length G (YPair (fun i => xs[i]?) (fun i => ys[i]?)) ∧ ∀ H3, Ex H2 H3 → G H3) → R J H2) → wi σ H1 R
theorem ep_zipT {b : Addr} {ta : TA} (h : EvA ta σ H [.ref a, .ref b]) (hx : Tp H a xs) (hy : Tp H b ys) (hl : ys.length = xs.length) : EvP (RZ.iZipA K ta) σ H xs ys := fun H1 e R q => h H1 e _ fun H2 e2 =>
  ⟨a, b, xs, ys, rfl, Or.inr ⟨st_of ((e.trans e2) _ _ hx), st_of ((e.trans e2) _ _ hy), q _ H2 e2 ⟨fun H => SqT K H a xs ∧ SqT K H b ys, ⟨fun i H hi g => ⟨xs, ys, xs[i], ys[i]'(by omega), g.1, g.2, by simp [hi], by simp [show i < ys.length by omega]⟩, fun H g => ⟨xs, ys, g.1, g.2, Or.inl (Nat.le_refl _)⟩,
    fun i H v H' hi g y => by
      obtain ⟨T, x, z, h1, h2, h3, h4, h5⟩ := y
      exact ⟨T, x, z, h1, h2, h3, h4 xs g.1, h5 ys g.2⟩⟩, fun H3 e3 => ⟨st_of ((e.trans (e2.trans e3)) _ _ hx), st_of ((e.trans (e2.trans e3)) _ _ hy)⟩⟩⟩⟩
abbrev nums (n : Nat) : List V := (List.range n).map fun (k : Nat) => V.int (k : Int)
theorem nums_get {n i : Nat} (hi : i < n) : (nums n)[i]? = some (V.int (i : Int)) := by
  rw [List.getElem?_map, List.getElem?_range hi]
  rfl
theorem ep_enum {ta : TA} (h : EvA ta σ H [.ref a]) (hx : Ls H a xs) : EvP (iEnum K ta) σ H (nums xs.length) xs := fun H1 e R q => h H1 e _ fun H2 e2 =>
  ⟨a, xs, rfl, sq_of ((e.trans e2) _ _ hx), q _ H2 e2 ⟨fun H => SqL K H a xs, by
    have hl : (nums xs.length).length = xs.length := by rw [List.length_map, List.length_range]
    rw [hl]
    refine walk_enum.mono (fun _ g => g) fun i H v H' hi _ y => ?_
    obtain ⟨T, x, z, h1, h2, h3, h4, h5⟩ := y
    have h4 : V.int (i : Int) = x := Option.some.inj h4
    exact ⟨T, x, z, h1, h2, h3, by rw [← h4]; exact nums_get hi, h5⟩, fun H3 e3 => sq_of ((e.trans (e2.trans e3)) _ _ hx)⟩⟩
/-- [e for x, y in .. if t] -/
theorem el_lcP {bs : List Bool} (hi : EvP wi σ H xs ys) (hz : xs.length ≤ 40000) (hl : zs.length = xs.length) (hb : bs.length = xs.length) (hw : ∀ x y, wipe (((wipe σ vs).set i (some x)).set j (some y)) vs = wipe σ vs)
    (ht : ∀ (k : Nat) (x y : V) (b : Bool), xs[k]? = some x → ys[k]? = some y → bs[k]? = some b → EvT tt (((wipe σ vs).set i (some x)).set j (some y)) H b)
    (he : ∀ (k : Nat) (x y z : V), xs[k]? = some x → ys[k]? = some y → zs[k]? = some z → bs[k]? = some true → Ev te (((wipe σ vs).set i (some x)).set j (some y)) H z) :
    EvL (tLc wi (gTup K 2 (gCons (gName i) (gCons (gName j) gNil))) tt te vs) σ H (kept bs zs) := fun H0 e Q q => hi H0 e _ fun J H1 e1 ⟨G, W, hG⟩ => fun D hD =>
  lc_it W (fun i H' => Ex H1 H' ∧ H' D = some (.lst (kept (bs.take i) (zs.take i)))) ⟨Ex.new hD, by rw [List.take_zero, List.take_zero]; exact upd_same⟩ (fun i H' _ p => hG H' p.1)
    (fun k v H2 H2' hk p yy => by
      obtain ⟨T, x, y, rfl, hT, rfl, hx, hy⟩ := yy
      have hzk : zs[k]? = some (zs[k]'(by omega)) := List.getElem?_eq_getElem (by omega)
      have hbk : bs[k]? = some (bs[k]'(by omega)) := List.getElem?_eq_getElem (by omega)
      have pT : Ex H1 (upd H2 T (.tup [x, y])) := p.1.trans (Ex.new hT)
      have hTD : T ≠ D := fun z => by
        rw [z, p.2] at hT
        cases hT
      have pD : (upd H2 T (.tup [x, y])) D = some (.lst (kept (bs.take k) (zs.take k))) := by
        rw [upd_ne (Ne.symm hTD)]
        exact p.2
      refine ⟨T, [x, y], rfl, st_of upd_same, rfl, x, [y], rfl, y, [], rfl, rfl, hw x y, ?_⟩
      show tt (((wipe σ vs).set i (some x)).set j (some y)) _ _
      refine ht k x y _ hx hy hbk _ ((e.trans e1).trans pT) _ fun H3 e3 => ?_
      have eq : kept (bs.take (k + 1)) (zs.take (k + 1)) = kept (bs.take k) (zs.take k) ++ (if bs[k]'(by omega) = true then [zs[k]'(by omega)] else []) := by
        rw [← take_snoc hzk, ← take_snocB hbk]
        exact kept_snoc (by rw [List.length_take, List.length_take]; omega)
      have hl2 : (kept (bs.take k) (zs.take k)).length ≤ zs.length := by
        refine Nat.le_trans (kept_len _ _) ?_
        rw [List.length_take]
        omega
      cases hv : bs[k]'(by omega) with
      | true =>
        rw [hv] at hbk eq
        show te (((wipe σ vs).set i (some x)).set j (some y)) H3 _
        refine he k x y _ hx hy hzk hbk H3 ((e.trans e1).trans (pT.trans e3)) _ fun H4 e4 => ?_
        refine ⟨_, e4 _ _ (e3 _ _ pD), sz_lt (by omega), Ex.mut (pT.trans (e3.trans e4)) hD, ?_⟩
        rw [eq, if_pos rfl]
        exact upd_same
      | false =>
        rw [hv] at eq
        refine ⟨pT.trans e3, ?_⟩
        rw [eq, if_neg Bool.false_ne_true, List.append_nil]
        exact e3 _ _ pD)
    (fun H' p => q D H' (fresh_back e1 hD) (e1.trans p.1) (by rw [p.2, ← hb, List.take_length, hb, ← hl, List.take_length]))
theorem kept_all : ∀ zs : List V, kept (List.replicate zs.length true) zs = zs
  | [] => rfl
  | z :: zs => congrArg (z :: ·) (kept_all zs)
theorem et_yes : EvT tYes σ H true := fun H1 _ _ q => q H1 (Ex.refl H1)
theorem el_lcP1 (hi : EvP wi σ H xs ys) (hz : xs.length ≤ 40000) (hl : zs.length = xs.length) (hw : ∀ x y, wipe (((wipe σ vs).set i (some x)).set j (some y)) vs = wipe σ vs)
    (he : ∀ (k : Nat) (x y z : V), xs[k]? = some x → ys[k]? = some y → zs[k]? = some z → Ev te (((wipe σ vs).set i (some x)).set j (some y)) H z) :
    EvL (tLc wi (gTup K 2 (gCons (gName i) (gCons (gName j) gNil))) tYes te vs) σ H zs := by
  have h := el_lcP (K := K) (tt := tYes) (bs := List.replicate zs.length true) hi hz hl (by rw [List.length_replicate]; exact hl) hw (fun k x y b hx hy hb => by
    have hb : b = true := by
      obtain ⟨h1, h2⟩ := List.getElem?_eq_some_iff.mp hb
      rw [List.getElem_replicate] at h2
      exact h2.symm
    subst hb
    exact et_yes) (fun k x y z hx hy hz _ => he k x y z hx hy hz)
  rw [kept_all] at h
  exact h
/-! ### dict comprehensions -/
/-- the dict at p has the keys ks, in this order, at objects like os -/
def DkO (H : Hp) (p : Addr) (ks : List Key) (os : List HO) : Prop := ∃ kvs : List (Key × V), H p = some (.dK kvs) ∧ kvs.map (·.1) = ks ∧ ks.length = os.length ∧ ∀ (i : Nat) (k : Key) (v : V) (o : HO), kvs[i]? = some (k, v) → os[i]? = some o → ∃ b, v = .ref b ∧ H b = some o
theorem DkO.same {H H' : Hp} {p : Addr} {ks : List Key} {os : List HO} (e : Ex H H') (h : DkO H p ks os) : DkO H' p ks os := by
  obtain ⟨kvs, h1, h2, h3, h4⟩ := h
  exact ⟨kvs, e _ _ h1, h2, h3, fun i k v o a b => let ⟨c, x, y⟩ := h4 i k v o a b; ⟨c, x, e _ _ y⟩⟩
theorem er_dc {ks : List Key} {os : List HO} (hi : EvI wi σ H xs) (hz : xs.length ≤ 40000) (hk : ks.length = xs.length) (hv : os.length = xs.length) (nd : ks.Nodup) (hno : ∀ o ∈ os, ∀ kvs, o ≠ .dK kvs) (hw : ∀ x, wipe ((wipe σ vs).set j (some x)) vs = wipe σ vs)
    (hek : ∀ (i : Nat) (x : V) (k : Key), xs[i]? = some x → ks[i]? = some k → Ev tk ((wipe σ vs).set j (some x)) H (kV k))
    (hev : ∀ (i : Nat) (x : V) (k : Key) (o : HO), xs[i]? = some x → ks[i]? = some k → os[i]? = some o → EvR tv ((wipe σ vs).set j (some x)) H (.new o)) : EvR (tDc wi (gName j) tYes tk tv vs) σ H (.fr fun p H' => DkO H' p ks os) := fun H0 e Q q => hi H0 e _ fun J H1 e1 ⟨G, W, hG, _⟩ => fun D hD => by
  refine ⟨fun i m H' => m = xs.length - i ∧ i ≤ xs.length ∧ Ex H1 H' ∧ ∃ kvs : List (Key × V), H' D = some (.dK kvs) ∧ kvs.map (·.1) = ks.take i ∧ ∀ (t : Nat) (k : Key) (v : V) (o : HO), kvs[t]? = some (k, v) → os[t]? = some o → ∃ b, v = .ref b ∧ H' b = some o,
    ⟨xs.length, by simp, Nat.zero_le _, Ex.new hD, [], upd_same, by rw [List.take_zero]; rfl, fun t k v o h => by cases h⟩, ?_⟩
  rintro i m H2 ⟨rfl, hi, p1, kvs, p2, p3, p4⟩
  have hg := hG H2 p1
  have kl : kvs.length = i := by
    have h := congrArg List.length p3
    rw [List.length_map, List.length_take, hk] at h
    omega
  by_cases hlt : i < xs.length
  · refine .inr ⟨W.goes i H2 hlt hg, fun H' => Ex H1 H' ∧ ∃ kvs : List (Key × V), H' D = some (.dK kvs) ∧ kvs.map (·.1) = ks.take (i + 1) ∧ ∀ (t : Nat) (k : Key) (v : V) (o : HO), kvs[t]? = some (k, v) → os[t]? = some o → ∃ b, v = .ref b ∧ H' b = some o,
      fun H' p => ⟨xs.length - (i + 1), by omega, rfl, hlt, p⟩, fun x H2' y => ?_⟩
    obtain ⟨rfl, hx⟩ := W.yields i H2 x H2' hlt hg y
    have hki : ks[i]? = some (ks[i]'(by omega)) := List.getElem?_eq_getElem (by omega)
    have hoi : os[i]? = some (os[i]'(by omega)) := List.getElem?_eq_getElem (by omega)
    generalize ks[i]'(by omega) = k at hki
    generalize os[i]'(by omega) = o at hoi
    refine ⟨hw x, ?_⟩
    show tk ((wipe σ vs).set j (some x)) H2' _
    refine hek i x k hx hki H2' ((e.trans e1).trans p1) _ fun H3 e3 => ?_
    refine hev i x k o hx hki hoi H3 (((e.trans e1).trans p1).trans e3) _ fun z H4 e4 ⟨b, hzb, hb1, hb2⟩ => ?_
    subst hzb
    have bD : b ≠ D := fun z => by
      rw [z, e3 _ _ p2] at hb1
      cases hb1
    have tk1 : ks.take (i + 1) = ks.take i ++ [k] := by
      rw [List.take_add_one, hki]
      rfl
    have hnew : valV kvs k = none := by
      cases hvk : valV kvs k with
      | none => rfl
      | some w =>
        have hm : k ∈ kvs.map (·.1) := by
          unfold valV at hvk
          cases hf : kvs.find? (fun p => decide (p.1 = k)) with
          | none => rw [hf] at hvk; cases hvk
          | some pr =>
            have h1 := List.find?_some hf
            have h2 := List.mem_of_find?_eq_some hf
            exact List.mem_map.mpr ⟨pr, h2, of_decide_eq_true h1⟩
        rw [p3] at hm
        have nd' := nd
        rw [← List.take_append_drop (i + 1) ks, tk1, List.append_assoc, List.nodup_append] at nd'
        exact absurd rfl (nd'.2.2 k hm k (List.mem_append_left _ (List.mem_singleton.mpr rfl)))
    have p2' : H4 D = some (.dK kvs) := e4 _ _ (e3 _ _ p2)
    refine ⟨kvs, k, rfl, p2', sz_lt (by omega), Ex.mut ((p1.trans e3).trans e4) hD, kvs ++ [(k, .ref b)], ?_, ?_, fun t k' v o' h1 h2 => ?_⟩
    · rw [putK_new _ hnew]
      exact upd_same
    · rw [List.map_append, p3, tk1]
      rfl
    · by_cases ht : t < kvs.length
      · rw [List.getElem?_append_left ht] at h1
        obtain ⟨c, hc, hc2⟩ := p4 t k' v o' h1 h2
        refine ⟨c, hc, ?_⟩
        have h4 : H4 c = some o' := e4 _ _ (e3 _ _ hc2)
        have hcD : c ≠ D := fun z => by
          rw [z, p2'] at h4
          cases h4
          exact hno _ (List.mem_of_getElem? h2) kvs rfl
        rw [upd_ne hcD]
        exact h4
      · rw [List.getElem?_append_right (by omega)] at h1
        have ht0 : t - kvs.length = 0 := by
          obtain ⟨h, _⟩ := List.getElem?_eq_some_iff.mp h1
          simp at h
          omega
        rw [ht0] at h1
        have h1 : (k, V.ref b) = (k', v) := Option.some.inj h1
        have hti : t = i := by omega
        subst hti
        rw [hoi] at h2
        cases h1
        cases h2
        exact ⟨b, rfl, by rw [upd_ne bD]; exact hb2⟩
  · have e0 : i = xs.length := by omega
    subst e0
    exact .inl ⟨W.stops H2 hg, q _ H2 (e1.trans p1) ⟨D, rfl, fresh_back e1 hD, kvs, p2, by rw [p3, ← hk, List.take_length], by omega, p4⟩⟩
end
end Ot
/-! Otherworths k13: methods, properties, making; built-ins -/
namespace Ot
open PySem PySem.Spec PyProof.Rows L2 Evl
/-- a property whose getter is a def -/
structure Prp (P : Program) (w : World) (K : PySem.W.Frag) (mg : Str → Option Value) (base : Heap) (k : Nat) (C : Addr) (f : Str) (sp : Sp) : Prop where
  ex : ∃ (p g : Addr) (fd : FuncData), Cls K C ∧ PropOf K C f p g ∧ FnOk P w K mg base C8.CX0 k g fd ["self"] sp ∧ Binds K fd ["self"] []
theorem pe_pr {X : Cx} {k j : Nat} {C : Addr} {f : Str} {sp : Sp} {e : Expr} {pos : Pos} {ta : TE} (c : Prp X.prog X.w X.K X.mg X.base k C f sp) (hr : Room j X.A) (hk : k + 1 ≤ j) (he : PE X e ta)
    (hab : attributeBase e f X.env (eval e X.env) = eval e X.env) : PE X (.Attribute e f pos) (tProp C sp [] C8.E0 ta) := by
  obtain ⟨p, g, fd, hc, hp, F, b⟩ := c.ex
  exact pe_prop he hc hp F (hr.mono hk) b .nil C8.pass0 hab
section
variable {P : Program} {w : World} {K : PySem.W.Frag} {mg : Str → Option Value} {base : Heap}
abbrev BindN (x q : Str) (st : Stmt) (ps : List Str) : Prop := ∀ (kV doc pm : Value) (an : Option Addr) (cdv ct : Value) (us : List Value), us.length = ps.length → bindArgs (PySem.W.fnOf x q (defArgs st) (defBody st) (defScope st) .none kV doc pm an cdv ct) ⟨us, []⟩ = pure (ps.zip us)
theorem PSp.len {R : Rel} {n : Nat} (h : ∀ vs H r, R vs H r → vs.length = n) : ∀ vs H Q E, PSp R vs H Q E → vs.length = n := fun vs H Q E z => by
  obtain ⟨r, z, _⟩ := z
  exact h vs H r z
/-- a method that changes nothing -/
theorem Tx.pfM (T : Tx K mg) (i : Nat) {C m q : Str} {st : Stmt} {N ps : List Str} {k : Nat} {R : Rel} (hd : fns[i]? = some (dM C m q st [])) (c : Cls K (He.ga K C)) (me : Meth K (He.ga K C) m (He.ma K (He.ga K C) m)) (S : FnScope N ps (defScope st)) (bi : BindN m q st ps)
    (len : ∀ vs H r, R vs H r → vs.length = ps.length)
    (body : ∀ (cdv : Value) (A : Around) (outer : List Env) (s : Shared) (H : Hp) (vs : List V) (r : Res) (E : XK), Room k (A.deeper (envOfC q (defScope st) s.heap.objs.size (He.ma K (He.ga K C) m) cdv)) → R vs H r →
      ∃ t, PSs (cxOf CX0 P w K mg base N q (defScope st) (He.ma K (He.ga K C) m) cdv A outer s H E).nox (defBody st) t ∧ RR t (start N vs) H r) : C8.Met P w K mg base (k + 1) (He.ga K C) m (PSp R) [] := by
  obtain ⟨fd, F⟩ := saysO_def T.says i hd
  refine ⟨_, fd, ps, [], c, me, F.ok S (PSp.len len) fun cdv A outer s H vs Q E hr h => ?_, FunD.bindsN F bi, .nil⟩
  obtain ⟨r, h, q⟩ := h
  obtain ⟨t, h1, h2⟩ := body cdv A outer s H vs r E hr h
  exact ⟨t, h1.nox, h2 _ H (Ex.refl H) q⟩
/-- a property that changes nothing -/
theorem Tx.pfP (T : Tx K mg) (i : Nat) {C m q : Str} {st : Stmt} {N : List Str} {k : Nat} {R : Rel} (hd : fns[i]? = some (dP C m q st)) (c : Cls K (He.ga K C)) (hp : PropOf K (He.ga K C) m (ppA K (He.ga K C) m) (pgA K (He.ga K C) m)) (S : FnScope N ["self"] (defScope st)) (bi : BindN m q st ["self"])
    (len : ∀ vs H r, R vs H r → vs.length = (["self"] : List Str).length)
    (body : ∀ (cdv : Value) (A : Around) (outer : List Env) (s : Shared) (H : Hp) (vs : List V) (r : Res) (E : XK), Room k (A.deeper (envOfC q (defScope st) s.heap.objs.size (pgA K (He.ga K C) m) cdv)) → R vs H r →
      ∃ t, PSs (cxOf CX0 P w K mg base N q (defScope st) (pgA K (He.ga K C) m) cdv A outer s H E).nox (defBody st) t ∧ RR t (start N vs) H r) : Prp P w K mg base (k + 1) (He.ga K C) m (PSp R) := by
  obtain ⟨fd, F⟩ := saysO_def T.says i hd
  refine ⟨_, _, fd, c, hp, F.ok S (PSp.len len) fun cdv A outer s H vs Q E hr h => ?_, FunD.bindsN F bi⟩
  obtain ⟨r, h, q⟩ := h
  obtain ⟨t, h1, h2⟩ := body cdv A outer s H vs r E hr h
  exact ⟨t, h1.nox, h2 _ H (Ex.refl H) q⟩
/-- a class that is made by its __init__, no default used -/
theorem Tx.mk0 (T : Tx K mg) (i : Nat) {C q : Str} {st : Stmt} {dfl : List He.Dv} {N ps : List Str} {k : Nat} {sp : Sp} (hd : fns[i]? = some (dM C "__init__" q st dfl)) (M : Mk K (He.ga K C) (He.ma K (He.ga K C) "__init__")) (hm : mg C = some (.ref (He.ga K C))) (S : FnScope N ps (defScope st))
    (bi : ∀ fd, FunD K "__init__" q (defArgs st) (defBody st) (defScope st) (dfl.map (He.Dv.v K)) [] (He.ma K (He.ga K C) "__init__") fd → Binds K fd ps [])
    (len : ∀ vs H Q E, sp vs H Q E → vs.length = ps.length)
    (body : ∀ (cdv : Value) (A : Around) (outer : List Env) (s : Shared) (H : Hp) (vs : List V) (Q : VK) (E : XK), Room k (A.deeper (envOfC q (defScope st) s.heap.objs.size (He.ma K (He.ga K C) "__init__") cdv)) → sp vs H Q E →
      ∃ t, PSs (cxOf CX0 P w K mg base N q (defScope st) (He.ma K (He.ga K C) "__init__") cdv A outer s H E).nox (defBody st) t ∧ t { nx := fun _ H' => Q .non H', rt := Q } (start N vs) H) : C8.Mak P w K mg base (k + 1) C (He.ga K C) sp [] := by
  obtain ⟨fd, F⟩ := saysO_def T.says i hd
  refine ⟨_, fd, ps, [], M, F.ok S len fun cdv A outer s H vs Q E hr h => ?_, hm, bi fd F, .nil⟩
  obtain ⟨t, h1, h2⟩ := body cdv A outer s H vs Q E hr h
  exact ⟨t, h1.nox, h2⟩
end
def rLenK : List V → Hp → VK → Prop := fun xs H Q => ∃ (a : Addr) (kvs : List (Key × V)), xs = [V.ref a] ∧ Rd H a (.dK kvs) ∧ Q (.int kvs.length) H
theorem cr_lenK {X : Cx} : CallR X (.builtin "len") rLenK := by
  intro pins s σ H xs us Q I r h
  obtain ⟨a, kvs, rfl, ha, q⟩ := h
  obtain ⟨u, rfl, ru⟩ := vals1 r
  cases ru
  exact d_len I ha fun t s' I' => ⟨.int kvs.length, H, I', ⟨t, rfl⟩, q⟩
section
variable {K : PySem.W.Frag} {σ : L2.St} {H : Hp} {ta tb tc te : TE} {tt : TT} {r : Res} {x y v : V} {xs ys zs : List V} {a d dx C : Addr} {fs : List (Str × V)} {f m : Str} {R : Rel} {E : XK} {t : TA} {vs : List V}
theorem ev_fld (h : Ev ta σ H (.ref a)) (hi : H a = some (.ins C dx fs)) (c : Cls K C) (n : NoAttr K C f) (hl : fs.lookup f = some v) : Ev (tFld K ta f) σ H v := fun H1 e Q q => h H1 e _ fun H2 e2 => ⟨a, C, dx, fs, v, rfl, (e.trans e2) _ _ hi, c, n, hl, q H2 e2⟩
theorem er_meth (h : Ev ta σ H (.ref a)) (hi : H a = some (.ins C dx fs)) (hm : fs.lookup m = none) (ht : EvA t σ H vs) (hs : ∀ H1, Ex H H1 → R (.ref a :: vs) H1 r) : EvR (tMeth C m (PSp R) [] E ta t) σ H r := fun H1 e Q q =>
  h H1 e _ fun H2 e2 => ⟨a, dx, fs, rfl, (e.trans e2) _ _ hi, hm, ht H2 (e.trans e2) _ fun H3 e3 => by
    show PSp R (.ref a :: (vs ++ [])) H3 Q E
    rw [List.append_nil]
    exact ⟨r, hs H3 (e.trans (e2.trans e3)), fun z H4 e4 hz => q z H4 (e2.trans (e3.trans e4)) (Res.anti (e2.trans e3) hz)⟩⟩
theorem ev_meth (h : Ev ta σ H (.ref a)) (hi : H a = some (.ins C dx fs)) (hm : fs.lookup m = none) (ht : EvA t σ H vs) (hs : ∀ H1, Ex H H1 → R (.ref a :: vs) H1 (.val v)) : Ev (tMeth C m (PSp R) [] E ta t) σ H v := ev_er (er_meth h hi hm ht hs)
theorem er_prop (h : Ev ta σ H (.ref a)) (hi : H a = some (.ins C dx fs)) (hs : ∀ H1, Ex H H1 → R [.ref a] H1 r) : EvR (tProp C (PSp R) [] E ta) σ H r := fun H1 e Q q =>
  h H1 e _ fun H2 e2 => ⟨a, dx, fs, rfl, (e.trans e2) _ _ hi, r, hs H2 (e.trans e2), fun z H3 e3 hz => q z H3 (e2.trans e3) (Res.anti e2 hz)⟩
theorem ev_prop (h : Ev ta σ H (.ref a)) (hi : H a = some (.ins C dx fs)) (hs : ∀ H1, Ex H H1 → R [.ref a] H1 (.val v)) : Ev (tProp C (PSp R) [] E ta) σ H v := ev_er (er_prop h hi hs)
theorem ev_isC (h : Ev ta σ H (.ref a)) (hi : H a = some (.ins C dx fs)) : Ev (tCB (rIsC C) (tCons ta (tCons (tC (.ref C)) tNil))) σ H (.bl true) := fun H1 e Q q =>
  h H1 e _ fun H2 e2 => ⟨a, dx, fs, rfl, (e.trans e2) _ _ hi, q H2 e2⟩
theorem ev_isLT {n : String} (ha : Ev ta σ H x) (ty : VTy H x n) (h : n = "list" ∨ n = "tuple") : Ev (tCB (rIsiT K) (tCons ta (tCons (tTup (tCons (tC (.ty "list")) (tCons (tC (.ty "tuple")) tNil))) tNil))) σ H (.bl true) := fun H1 e Q q =>
  ha H1 e _ fun H2 e2 => by
    refine (eu_tup (ea_cons ev_c (ea_cons ev_c ea_nil)) (by decide) : EvU _ σ H2 [.ty "list", .ty "tuple"]) H2 (Ex.refl H2) _ fun p H3 hp e3 h3 => ?_
    refine ⟨x, p, _, .type n, [.type "list", .type "tuple"], true, rfl, h3, .cons (.ty "list") (.cons (.ty "tuple") .nil), ty.tyx (e.trans (e2.trans e3)), ?_, q H3 (e2.trans e3)⟩
    rcases h with rfl | rfl
    · exact kitAny_cons (b := true) (kit_ty (by decide +kernel)) (fun z => by cases z) (fun _ => rfl)
    · exact kitAny_cons (b := false) (kit_ty (by decide +kernel)) (fun _ => kitAny_cons (b := true) (kit_ty (by decide +kernel)) (fun z => by cases z) (fun _ => rfl)) (fun z => by cases z)
theorem ev_lenS {z : Str} {n : Int} (h : Ev ta σ H (.str z)) (hz : z.length ≤ 1000) (e : (z.length : Int) = n) : Ev (tCB rLenT (tCons ta tNil)) σ H (.int n) := fun H1 e1 Q q => h H1 e1 _ fun H2 e2 => ⟨z, rfl, sz_of (by omega), by
  rw [e]
  exact q H2 e2⟩
theorem ev_lenK {kvs : List (Key × V)} {n : Int} (h : Ev ta σ H (.ref a)) (hd : Dk H a kvs) (e : (kvs.length : Int) = n) : Ev (tCB rLenK (tCons ta tNil)) σ H (.int n) := fun H1 e1 Q q => h H1 e1 _ fun H2 e2 => ⟨a, kvs, rfl, .inl ((e1.trans e2) _ _ hd), by
  rw [e]
  exact q H2 e2⟩
theorem ev_lenSet {ks : List Str} {n : Int} (h : Ev ta σ H (.ref a)) (hx : Ls H a (strV ks)) (nd : ks.Nodup) (hl : ks.length ≤ 1000) (e : (ks.length : Int) = n) : Ev (tLenSetT K ta) σ H (.int n) := fun H1 e1 Q q => h H1 e1 _ fun H2 e2 => ⟨a, ks, rfl, sq_of ((e1.trans e2) _ _ hx), nd, hl, by
  rw [e]
  exact q H2 e2⟩
theorem ev_chain {g g' : Int → Int → V} {i j l : Int} {b c : Bool} (ha : Ev ta σ H (.int i)) (hb : Ev tb σ H (.int j)) (hc : Ev tc σ H (.int l)) (h1 : g i j = .bl b) (h2 : CtV b (.bl c) (fun v => g' j l = v)) : Ev (tChain (rI0 g) (rI0 g') ta tb tc) σ H (.bl c) := fun H1 e Q q =>
  ha H1 e _ fun H2 e2 => hb H2 (e.trans e2) _ fun H3 e3 => ⟨i, j, rfl, rfl, b, h1, by
    rcases h2 with ⟨rfl, h2⟩ | ⟨rfl, h2⟩
    · show tc σ H3 _
      exact hc H3 (e.trans (e2.trans e3)) _ fun H4 e4 => ⟨j, l, rfl, rfl, by
        rw [h2]
        exact q H4 (e2.trans (e3.trans e4))⟩
    · cases h2
      exact q H3 (e2.trans e3)⟩
theorem er_tupL (h : Ev ta σ H (.ref a)) (hx : Ls H a xs) : EvR (tCB (rTupS K) (tCons ta tNil)) σ H (.new (.tup xs)) := fun H1 e Q q => h H1 e _ fun H2 e2 => ⟨a, xs, rfl, .inl ⟨sq_of ((e.trans e2) _ _ hx), fun l hl => q _ _ (e2.trans (Ex.new hl)) ⟨l, rfl, fresh_back e2 hl, upd_same⟩⟩⟩
theorem er_tupN (h : EvL ta σ H xs) : EvR (tCB (rTupS K) (tCons ta tNil)) σ H (.new (.tup xs)) := fun H1 e Q q => h H1 e _ fun p H2 hp e2 h2 => ⟨p, xs, rfl, .inl ⟨sq_of h2, fun l hl => q _ _ (e2.trans (Ex.new hl)) ⟨l, rfl, fresh_back e2 hl, upd_same⟩⟩⟩
theorem el_listT (h : Ev ta σ H (.ref a)) (hx : Tp H a xs) : EvL (tCB (rListS K) (tCons ta tNil)) σ H xs := fun H1 e Q q => h H1 e _ fun H2 e2 => ⟨a, xs, rfl, .inr (st_of ((e.trans e2) _ _ hx)), fun l hl => q l _ (fresh_back e2 hl) (e2.trans (Ex.new hl)) upd_same⟩
theorem el_listK {kvs : List (Key × V)} (h : Ev ta σ H (.ref a)) (hd : Dk H a kvs) : EvL (tCB rListK (tCons ta tNil)) σ H (kvs.map fun kv => kV kv.1) := fun H1 e Q q => h H1 e _ fun H2 e2 => ⟨a, kvs, rfl, .inl ((e.trans e2) _ _ hd), fun l hl => q l _ (fresh_back e2 hl) (e2.trans (Ex.new hl)) upd_same⟩
theorem er_sortS {ks : List Str} (h : Ev ta σ H (.ref a)) (hx : Ls H a (strV ks)) (h64 : ks.length < 64) : EvR (tCB (rSortedS K) (tCons ta tNil)) σ H (.fr fun p H' => ∃ ys : List Str, ys.Perm ks ∧ Ls H' p (strV ys)) := fun H1 e Q q => h H1 e _ fun H2 e2 =>
  ⟨a, ks, rfl, sq_of ((e.trans e2) _ _ hx), h64, fun ys p hp _ hn => q _ _ (e2.trans (Ex.new hn)) ⟨p, rfl, fresh_back e2 hn, ys, hp, upd_same⟩⟩
theorem er_sortD {kvs : List (Key × V)} {ks : List Str} (h : Ev ta σ H (.ref a)) (hd : Dk H a kvs) (hk : kvs.map (·.1) = ks.map Sum.inr) (h64 : ks.length < 64) : EvR (tCB rSortD (tCons ta tNil)) σ H (.fr fun p H' => ∃ ys : List Str, ys.Perm ks ∧ Ls H' p (strV ys)) := fun H1 e Q q => h H1 e _ fun H2 e2 =>
  ⟨a, kvs, ks, rfl, .inl ((e.trans e2) _ _ hd), hk, h64, fun ys p hp _ hn => q _ _ (e2.trans (Ex.new hn)) ⟨p, rfl, fresh_back e2 hn, ys, hp, upd_same⟩⟩
theorem el_star2 {b : Addr} (ha : Ev ta σ H (.ref a)) (hb : Ev tb σ H (.ref b)) (hx : Ls H a xs) (hy : Ls H b ys) (hl : xs.length + ys.length ≤ 1000) : EvL (tLst (StX.tStar K ta (StX.tStar K tb tNil))) σ H (xs ++ ys) := fun H1 e Q q => ha H1 e _ fun H2 e2 =>
  ⟨a, xs, rfl, .inr (sq_of ((e.trans e2) _ _ hx)), hb H2 (e.trans e2) _ fun H3 e3 => ⟨b, ys, rfl, .inr (sq_of ((e.trans (e2.trans e3)) _ _ hy)), by
    show (xs ++ (ys ++ [])).length ≤ sizeLine ∧ ∀ p, H3 p = none → Q (.ref p) (upd H3 p (.lst (xs ++ (ys ++ []))))
    rw [List.append_nil]
    exact ⟨sz_of (by rw [List.length_append]; omega), fun p hp => q p _ (fresh_back (e2.trans e3) hp) (e2.trans (e3.trans (Ex.new hp))) upd_same⟩⟩⟩
theorem ev_din {kvs : List (Key × V)} {z : Str} {b : Bool} (ha : Ev ta σ H (.str z)) (hb : Ev tb σ H (.ref a)) (hd : Dk H a kvs) (hv : (valV kvs (Sum.inr z : Key)).isSome = b) : Ev (tDIn ta tb) σ H (.bl b) := fun H1 e Q q =>
  ha H1 e _ fun H2 e2 => hb H2 (e.trans e2) _ fun H3 e3 => ⟨a, _, rfl, DGet.k (k := Sum.inr z) ((e.trans (e2.trans e3)) _ _ hd), by
    rw [hv]
    exact q H3 (e2.trans e3)⟩
theorem er_dictZip {ks : List Str} {b : Addr} (ha : Ev ta σ H (.ref a)) (hb : Ev tb σ H (.ref b)) (hx : Tp H a (strV ks) ∨ Ls H a (strV ks)) (hy : Tp H b ys) (hl : ks.length = ys.length) : EvR (tDictZip K ta tb) σ H (.new (.dK (mergeK [] ((kS ks).zip ys)))) := fun H1 e Q q =>
  ha H1 e _ fun H2 e2 => hb H2 (e.trans e2) _ fun H3 e3 => ⟨a, b, ks, ys, rfl, rfl, hx.imp (fun h => st_of ((e.trans (e2.trans e3)) _ _ h)) (fun h => sq_of ((e.trans (e2.trans e3)) _ _ h)), st_of ((e.trans (e2.trans e3)) _ _ hy), hl, fun p hp => q _ _ (e2.trans (e3.trans (Ex.new hp))) ⟨p, rfl, fresh_back (e2.trans e3) hp, upd_same⟩⟩
/-- {**a, **b}, a and b made on the way -/
theorem er_merge2 {ka : List (Key × V)} {P2 : List (Key × V) → Prop} (h1 : ∀ H1, Ex H H1 → EvR ta σ H1 (.new (.dK ka))) (h2 : ∀ H1, Ex H H1 → EvR tb σ H1 (.fr fun p H' => ∃ kb, Dk H' p kb ∧ P2 kb)) (hk : ∀ kb, P2 kb → ((ka ++ kb).map (·.1)).Nodup ∧ ka.length + kb.length ≤ 1000) :
    EvR (tMerge2 ta tb) σ H (.fr fun p H' => ∃ kb, Dk H' p (ka ++ kb) ∧ P2 kb) := fun H0 e Q q => fun p hp => by
  refine h1 _ (e.trans (Ex.new hp)) _ (Ex.refl _) _ fun z H2 e2 ⟨a, hz, ha, h3⟩ => ?_
  have np : a ≠ p := fun z => by
    rw [z, upd_same] at ha
    cases ha
  have hp2 : H2 p = some (.dK []) := e2 _ _ upd_same
  have x2 : Ex H0 (upd H2 p (.dK ka)) := Ex.mut ((Ex.new hp).trans e2) hp
  refine ⟨a, ka, hz, np, hp2, h3, ?_⟩
  refine h2 _ (e.trans x2) _ (Ex.refl _) _ fun z H4 e4 ⟨b, hz2, hb, kb, h5, h6⟩ => ?_
  have nb : b ≠ p := fun z => by
    rw [z, upd_same] at hb
    cases hb
  obtain ⟨n1, n2⟩ := hk kb h6
  exact ⟨b, kb, hz2, nb, e4 _ _ upd_same, h5, n1, n2, q _ _ (Ex.mut (x2.trans e4) hp) ⟨p, rfl, hp, kb, upd_same, h6⟩⟩
end
/-! ### rules with the written part named (within blocks) -/
section
variable {X : Cx} (K : PySem.W.Frag) (h : X.K = K)
include h
theorem q_in : OpR X (compareOp .In) (rIn K false) := h ▸ op_in_seq
theorem q_ni : OpR X (compareOp .NotIn) (rIn K true) := h ▸ op_notIn_seq
theorem q_ixL : IxR X (rIxL K) := h ▸ ix_list
theorem q_ixT : IxR X (rIxT K) := h ▸ ix_tup
theorem q_slL : SlR X (rSlL K) := h ▸ sl_list
theorem q_catT : OpR X (binaryOp .Add) (rCatT K) := h ▸ op_catT
theorem q_len : CallR X (.builtin "len") (rLenS K) := h ▸ cr_len
theorem q_all (hc : X.calm = true) : CallR X (.builtin "all") (rAll K) := h ▸ cr_all hc
theorem q_isi : CallR X (.builtin "isinstance") (rIsi K) := h ▸ call_isi
theorem q_isiT : CallR X (.builtin "isinstance") (rIsiT K) := h ▸ call_isiT
theorem q_tupS : CallR X (.type "tuple") (rTupS K) := h ▸ cr_tupS
theorem q_listS : CallR X (.type "list") (rListS K) := h ▸ cr_listS
theorem q_sortS : CallR X (.builtin "sorted") (rSortedS K) := h ▸ cr_sortedS
theorem q_fld {e : Expr} {f : Str} {pos : Pos} {ta : TE} (he : PE X e ta) (hb : attributeBase e f X.env (eval e X.env) = eval e X.env) : PE X (.Attribute e f pos) (tFld K ta f) := h ▸ pe_fld he hb
theorem q_list {tg l : Expr} {tl : TE} (hl : PE X l tl) : PI X tg l (iList K tl) := h ▸ pi_list hl
theorem q_tup {tg l : Expr} {tl : TE} (hl : PE X l tl) : PI X tg l (iTup K tl) := h ▸ pi_tup hl
theorem q_gtup {es : List Expr} {k : Nat} {t : TGs} {n : Nat} {pos : Pos} (hc : X.calm = true) (hg : PGs X es t) (hn : (assignEach es X.env).length = n := by rfl) (hst : (assignEach es X.env).findIdx? (·.1) = none := by rfl) : PG X (.Tuple es k pos) (gTup K n t) := h ▸ pg_tup hc hg hn hst
end
end Ot
namespace Ot
open PySem PySem.Spec PyProof.Rows L2 Evl
local macro_rules | `(tactic| wtm_at "dc") => `(tactic| first
  | ((with_reducible apply dd_f); decide +kernel)
  | ((with_reducible apply dd_t); decide +kernel)
  | ((with_reducible apply dn_f); decide +kernel)
  | ((with_reducible apply dn_t); decide +kernel)
  | (with_reducible exact dec_int_non)
  | (with_reducible exact dec_bl_non)
  | (with_reducible exact dec_ref_non)
  | (with_reducible exact dec_str_non)
  | (with_reducible exact dec_str_ne (by assumption))
  | (with_reducible exact dec_str_eq (by assumption))
  | (with_reducible exact ndec_str_ne (by assumption))
  | (with_reducible exact ndec_str_eq (by assumption))
  | (with_reducible exact dec_int_ne (by omega))
  | (with_reducible exact dec_int_eq (by omega))
  | (with_reducible exact ndec_int_ne (by omega))
  | (with_reducible exact ndec_int_eq (by omega)))
local macro_rules | `(tactic| wtm_at "ic") => `(tactic| first
  | ((with_reducible apply iv_f); decide +kernel)
  | ((with_reducible apply iv_t); decide +kernel)
  | ((with_reducible apply ivn_f); decide +kernel)
  | ((with_reducible apply ivn_t); decide +kernel))
local macro_rules | `(tactic| wtm_at "iv") => `(tactic| first
  | exact bl_true (by omega)
  | exact bl_false (by omega)
  | rfl)
local macro_rules | `(tactic| wtm_at "ln") => `(tactic| first
  | (with_reducible exact ln0) | (with_reducible exact ln1) | (with_reducible exact ln2) | (with_reducible exact ln3) | (with_reducible exact ln4) | rfl)
local macro_rules | `(tactic| wtm_at "nb") => `(tactic| first
  | (with_reducible exact nb_t)
  | (with_reducible exact nb_f))
local macro_rules | `(tactic| wtm_at "kt") => `(tactic| first
  | (with_reducible exact kit_tt) | (with_reducible exact kit_ss) | (with_reducible exact kit_ii) | (with_reducible exact kit_ib) | (with_reducible exact kit_ni) | (with_reducible exact kit_dd) | (with_reducible exact kit_ll))
local macro_rules | `(tactic| wtm_at "vt") => `(tactic| first
  | exact .str | exact .int | exact .non | exact .bl | exact .tup (by assumption) | exact .lst (by assumption) | exact .dK (by assumption))
local macro_rules | `(tactic| wtm_at "sv") => `(tactic| assumption)
local macro_rules | `(tactic| wtm_at "ct") => `(tactic| first
  | (with_reducible exact ct_f)
  | ((with_reducible apply ct_t); wtm_at "ev")
  | (with_reducible exact cf_t)
  | ((with_reducible apply cf_f); wtm_at "ev")
  | (with_reducible exact ctv_f)
  | ((with_reducible apply ctv_t); wtm_at "ev")
  | (with_reducible exact cfv_t)
  | ((with_reducible apply cfv_f); wtm_at "ev")
  | ((with_reducible apply ci_t); wtm_at "ev")
  | ((with_reducible apply ci_f); wtm_at "ev"))
local macro_rules | `(tactic| wtm_at "ev") => `(tactic| first
  | ((with_reducible apply ev_var); rfl)
  | (with_reducible exact ev_c)
  | (with_reducible exact ea_nil)
  | ((with_reducible apply ea_cons) <;> wtm_at "ev")
  | ((with_reducible apply ev_ixT); (wtm_at "ev"); (wtm_at "ev"); assumption; rfl)
  | ((with_reducible apply ev_dgetS); (wtm_at "ev"); (wtm_at "ev"); assumption; assumption)
  | ((with_reducible apply ev_lenT); (wtm_at "ev"); assumption; (wtm_at "ln"))
  | ((with_reducible apply ev_isi); (wtm_at "ev"); (wtm_at "vt"); (wtm_at "kt"))
  | ((with_reducible apply ev_eq); (wtm_at "ev"); (wtm_at "ev"); rfl; (wtm_at "dc"))
  | ((with_reducible apply ev_ne); (wtm_at "ev"); (wtm_at "ev"); rfl; (wtm_at "dc"))
  | ((with_reducible apply ev_isN); (wtm_at "ev"); (wtm_at "dc"))
  | ((with_reducible apply ev_notN); (wtm_at "ev"); (wtm_at "dc"))
  | ((with_reducible apply ev_int0); (wtm_at "ev"); (wtm_at "ev"); (wtm_at "iv"))
  | ((with_reducible apply ev_niN); (wtm_at "ev"); (wtm_at "ev"); rfl; rfl; (wtm_at "ic"))
  | ((with_reducible apply ev_inN); (wtm_at "ev"); (wtm_at "ev"); rfl; rfl; (wtm_at "ic"))
  | ((with_reducible apply eu_tup); (wtm_at "ev"); simp)
  | ((with_reducible apply el_lst); (wtm_at "ev"); simp)
  | ((with_reducible apply ev_callP); (wtm_at "ev"); (wtm_at "sv"))
  | ((with_reducible apply et_test); wtm_at "ev")
  | ((with_reducible apply et_B); wtm_at "ev")
  | ((with_reducible apply ev_andG); (wtm_at "ev"); (wtm_at "ct"))
  | ((with_reducible apply ev_orG); (wtm_at "ev"); (wtm_at "ct"))
  | ((with_reducible apply ev_notG); (wtm_at "ev"); (wtm_at "nb"))
  | ((with_reducible apply et_andG); (wtm_at "ev"); (wtm_at "ct"))
  | ((with_reducible apply et_orG); (wtm_at "ev"); (wtm_at "ct"))
  | ((with_reducible apply et_notG); (wtm_at "ev"); (wtm_at "nb"))
  | ((with_reducible apply ev_ifG); (wtm_at "ev"); (wtm_at "ct"))
  | assumption)
local macro_rules | `(tactic| wtm_at "re") => `(tactic| first
  | ((with_reducible apply re_ifG); (wtm_at "ev"); first | ((with_reducible apply ci_t); wtm_at "re") | ((with_reducible apply ci_f); wtm_at "re"))
  | ((with_reducible apply re_retV); wtm_at "ev")
  | ((with_reducible apply re_asgV); (wtm_at "ev"); (wtm_at "re"))
  | ((with_reducible apply re_par); (wtm_at "ev"); (wtm_at "re")))
local macro_rules | `(tactic| wtm_at "rs") => `(tactic| repeat ((with_reducible apply re_ifG); (wtm_at "ev"); first | (with_reducible apply ci_t) | (with_reducible apply ci_f)))

/-! ### names -/

def letters : Str := "abcdefghijklmnopqrstuvwxyz"
/-- a text that may be a name -/
def NameOk (z : Str) : Prop := 1 ≤ z.length ∧ z.length ≤ 8 ∧ ∀ c ∈ z.cps.toList, c ∈ letters.cps.toList
def RYes : Rel := fun vs H r => ∃ (v : V) (n : String), vs = [v] ∧ VTy H v n ∧ (n = "list" ∨ n = "tuple") ∧ r = .val (.bl true)
def RName : Rel := fun vs H r => ∃ z : Str, vs = [.str z] ∧ NameOk z ∧ r = .val (.bl true)
/-- a list of names that differ -/
def NamesOk (ks : List Str) : Prop := ks.Nodup ∧ (∀ z ∈ ks, NameOk z) ∧ ks.length ≤ 1000
def RNames : Rel := fun vs H r => ∃ (a : Addr) (ks : List Str), vs = [.ref a] ∧ Ls H a (strV ks) ∧ NamesOk ks ∧ r = .val (.bl true)
/-- columns, blanks and lacking names of a shape -/
structure SidesOk (cs bs ls : List Str) : Prop where
  c : NamesOk cs
  b : NamesOk bs
  l : NamesOk ls
  c1 : 1 ≤ cs.length
  c3 : cs.length ≤ 3
  b3 : bs.length ≤ 3
  n5 : cs.length + bs.length ≤ 5
  nd : (cs ++ bs).Nodup
  sub : ∀ z ∈ ls, z ∈ cs ++ bs
def RSides : Rel := fun vs H r => ∃ (a b c : Addr) (cs bs ls : List Str), vs = [.ref a, .ref b, .ref c] ∧ Ls H a (strV cs) ∧ Ls H b (strV bs) ∧ Ls H c (strV ls) ∧ SidesOk cs bs ls ∧ r = .val (.bl true)
theorem sv_yesL {H : Hp} {a : Addr} {xs : List V} (h : Ls H a xs) : ∀ H1, Ex H H1 → RYes [.ref a] H1 (.val (.bl true)) := fun H1 e => ⟨_, "list", rfl, .lst (e _ _ h), .inl rfl, rfl⟩
theorem sv_yesT {H : Hp} {a : Addr} {xs : List V} (h : Tp H a xs) : ∀ H1, Ex H H1 → RYes [.ref a] H1 (.val (.bl true)) := fun H1 e => ⟨_, "tuple", rfl, .tup (e _ _ h), .inr rfl, rfl⟩
theorem sv_name {H : Hp} {z : Str} (h : NameOk z) : ∀ H1, Ex H H1 → RName [.str z] H1 (.val (.bl true)) := fun H1 e => ⟨z, rfl, h, rfl⟩
theorem sv_names {H : Hp} {a : Addr} {ks : List Str} (h : Ls H a (strV ks)) (hk : NamesOk ks) : ∀ H1, Ex H H1 → RNames [.ref a] H1 (.val (.bl true)) := fun H1 e => ⟨a, ks, rfl, e _ _ h, hk, rfl⟩
theorem sv_sides {H : Hp} {a b c : Addr} {cs bs ls : List Str} (h1 : Ls H a (strV cs)) (h2 : Ls H b (strV bs)) (h3 : Ls H c (strV ls)) (hk : SidesOk cs bs ls) : ∀ H1, Ex H H1 → RSides [.ref a, .ref b, .ref c] H1 (.val (.bl true)) :=
  fun H1 e => ⟨a, b, c, cs, bs, ls, rfl, e _ _ h1, e _ _ h2, e _ _ h3, hk, rfl⟩
theorem strV_get {ks : List Str} {i : Nat} {x : V} (h : (strV ks)[i]? = some x) : ∃ z, ks[i]? = some z ∧ V.str z = x := by
  rw [List.getElem?_map] at h
  cases hg : ks[i]? with
  | none => rw [hg] at h; cases h
  | some z => exact ⟨z, rfl, by rw [hg] at h; exact Option.some.inj h⟩
theorem bl_in {p : Prop} [Decidable p] {b : Bool} (h : decide p = b) : V.bl (decide p) = V.bl b := congrArg V.bl h
theorem ev_sign {σ : L2.St} {H : Hp} {ta tb : TE} {c : Nat} {z : Str} {b : Bool} (ha : Ev ta σ H (.str ⟨#[c]⟩)) (hb : Ev tb σ H (.str z)) (h : decide (c ∈ z.cps.toList) = b) : Ev (tOp rInS ta tb) σ H (.bl b) := fun H1 e Q q =>
  ha H1 e _ fun H2 e2 => hb H2 (e.trans e2) _ fun H3 e3 => ⟨c, z, rfl, rfl, by
    rw [h]
    exact q H3 (e2.trans e3)⟩
section
variable {K : PySem.W.Frag} {σ : L2.St} {H : Hp} {te : TE} {wi : TI} {xs : List V} {vs : List Nat} {j : Nat}
/-- all([..]): every one true -/
theorem ev_allT (hi : EvI wi σ H xs) (hz : xs.length ≤ 40000) (hw : ∀ x, wipe ((wipe σ vs).set j (some x)) vs = wipe σ vs) (he : ∀ (i : Nat) (x : V), xs[i]? = some x → Ev te ((wipe σ vs).set j (some x)) H (.bl true)) :
    Ev (tCB (rAll K) (tCons (tLc wi (gName j) tYes te vs) tNil)) σ H (.bl true) :=
  ev_all (bs := List.replicate xs.length true) (el_lc hi hz (by simp) hw fun i x y hx hy => by
    rw [rep_get hy]
    exact he i x hx) (all_true _)
end
section
variable {P : Program} {w : World} {K : PySem.W.Frag} {mg : Str → Option Value} {base : Heap}
def nm_is_list : List Str := ["thing"]
theorem sc_is_list : FnScope nm_is_list ["thing"] (defScope s_is_list) := C8.fnScope_by (by decide +kernel)
theorem ok_is_list (T : Tx K mg) : C8.Cal P w K mg base 1 "is_list" (PSp RYes) [] := by
  refine T.pf 1 1 rfl rfl sc_is_list (fun _ _ _ _ _ _ us hl => match us, hl with | [_], _ => rfl) (fun vs H r h => ?_) (fun cdv A outer s H vs r E hr h => ?_)
  · obtain ⟨_, _, rfl, _⟩ := h
    rfl
  · have nd := sc_is_list.nd
    refine ⟨_, (pss_one (ps_ret (pe_callB call_isiT (by rfl) T.f_isinstance (by decide +kernel) (pa_cons (pv 0) (pa_cons (pe_tup (pa_cons (pe_bltn (v := .ty "list") (u := .type "list") (by rfl) T.f_list (by decide +kernel) rfl) (pa_cons (pe_bltn (v := .ty "tuple") (u := .type "tuple") (by rfl) T.f_tuple (by decide +kernel) rfl) pa_nil))) pa_nil))))), ?_⟩
    obtain ⟨v, n, rfl, hv, hn, rfl⟩ := h
    exact re_retV (ev_isLT (by wtm_at "ev") hv hn)
def nm_is_name : List Str := ["thing", "sign"]
theorem sc_is_name : FnScope nm_is_name ["thing"] (defScope s_is_name) := C8.fnScope_by (by decide +kernel)
theorem ok_is_name (T : Tx K mg) : C8.Cal P w K mg base 1 "is_name" (PSp RName) [] := by
  refine T.pf 2 2 rfl rfl sc_is_name (fun _ _ _ _ _ _ us hl => match us, hl with | [_], _ => rfl) (fun vs H r h => ?_) (fun cdv A outer s H vs r E hr h => ?_)
  · obtain ⟨_, rfl, _⟩ := h
    rfl
  · have nd := sc_is_name.nd
    refine ⟨_, (pss_cons (ps_if (PW.pt (pw_or (pt_not (pt_val (pe_callB call_isi (by rfl) T.f_isinstance (by decide +kernel) (pa_cons (pv 0) (pa_cons (pe_bltn (v := .ty "str") (u := .type "str") (by rfl) T.f_str (by decide +kernel) rfl) pa_nil))))) (pw_or1 (pt_not (pt_chain op_le op_le pe_int (pe_callB cr_lenT (by rfl) T.f_len PySem.boot_len (pa_cons (pv 0) pa_nil)) (C8.pe_gc (by rfl) T.v_MOST_LETTERS))))))
      (pss_one (ps_ret pe_bl))
      pss_nil)
      (pss_one (ps_ret (pe_callB (cr_all rfl) (by rfl) T.f_all (by decide +kernel) (pa_cons (pe_lc (own := [("sign", 1)]) (g := (gName 1)) rfl nd (pi_str (pv 0)) (blkOk_by (own := [("sign", 1)]) (N := nm_is_name) (sc := defScope s_is_name) (by decide +kernel)) (fun _ _ _ _ _ => (pg_name (i := 1) nd rfl (Or.inl rfl))) (fun _ _ _ _ _ => pts_nil) (fun _ _ _ _ _ => (pe_cmpR op_in_sign (pv 1) (C8.pe_gc (by rfl) T.v_LETTERS) (by rfl)))) pa_nil))))), ?_⟩
    obtain ⟨z, rfl, ⟨h1, h8, hc⟩, rfl⟩ := h
    refine re_no (et_or_f (by wtm_at "ev") (et_not_f (et_test (ev_chain ev_c (ev_lenS (by wtm_at "ev") (by omega) rfl) (by wtm_at "ev") (bl_true (by omega)) (ctv_t (bl_true (by omega))))))) ?_
    refine re_retV (ev_allT (ei_str (by wtm_at "ev")) (by unfold signs; rw [List.length_map, Array.length_toList]; show z.length ≤ 40000; omega) (fun _ => rfl) fun i x hx => ?_)
    unfold signs at hx
    rw [List.getElem?_map] at hx
    cases hg : z.cps.toList[i]? with
    | none => rw [hg] at hx; cases hx
    | some c =>
      rw [hg] at hx
      have hx : V.str ⟨#[c]⟩ = x := Option.some.inj hx
      subst hx
      exact ev_sign (z := letters) (by wtm_at "ev") ev_c (decide_eq_true (hc c (List.mem_of_getElem? hg)))
def nm_are_names : List Str := ["thing", "name"]
theorem sc_are_names : FnScope nm_are_names ["thing"] (defScope s_are_names) := C8.fnScope_by (by decide +kernel)
theorem ok_are_names (T : Tx K mg) (C_is_list : C8.Cal P w K mg base 1 "is_list" (PSp RYes) []) (C_is_name : C8.Cal P w K mg base 1 "is_name" (PSp RName) []) : C8.Cal P w K mg base 2 "are_names" (PSp RNames) [] := by
  refine T.pf 3 3 rfl rfl sc_are_names (fun _ _ _ _ _ _ us hl => match us, hl with | [_], _ => rfl) (fun vs H r h => ?_) (fun cdv A outer s H vs r E hr h => ?_)
  · obtain ⟨_, _, rfl, _⟩ := h
    rfl
  · have nd := sc_are_names.nd
    refine ⟨_, (pss_cons (ps_if (PW.pt (pw_or (pt_not (pt_val (C8.pe_c C_is_list hr (by omega) (by rfl) (pa_cons (pv 0) pa_nil)))) (pw_or1 (pt_not (pt_val (pe_callB (cr_all rfl) (by rfl) T.f_all (by decide +kernel) (pa_cons (pe_lc (own := [("name", 1)]) (g := (gName 1)) rfl nd (pi_list (pv 0)) (blkOk_by (own := [("name", 1)]) (N := nm_are_names) (sc := defScope s_are_names) (by decide +kernel)) (fun _ _ _ _ _ => (pg_name (i := 1) nd rfl (Or.inl rfl))) (fun _ _ _ _ _ => pts_nil) (fun _ _ _ _ _ => (C8.pe_c C_is_name hr (by omega) (by rfl) (pa_cons (pv 1) pa_nil)))) pa_nil)))))))
      (pss_one (ps_ret pe_bl))
      pss_nil)
      (pss_one (ps_ret (pe_cmpR op_eq (pe_lenSetT (by rfl) T.f_len (by rfl) T.f_set (pv 0)) (pe_callB cr_len (by rfl) T.f_len PySem.boot_len (pa_cons (pv 0) pa_nil)) (nomark _))))), ?_⟩
    obtain ⟨a, ks, rfl, ha, ⟨hn, hk, hl⟩, rfl⟩ := h
    refine re_no (et_or_f (et_not_f (et_test (ev_callP (by wtm_at "ev") (sv_yesL ha)))) (et_not_f (et_test ?_))) ?_
    · refine ev_allT (ei_list (by wtm_at "ev") ha) (by rw [List.length_map]; omega) (fun _ => rfl) fun i x hx => ?_
      rw [List.getElem?_map] at hx
      cases hg : ks[i]? with
      | none => rw [hg] at hx; cases hx
      | some z =>
        rw [hg] at hx
        have hx : V.str z = x := Option.some.inj hx
        subst hx
        exact ev_callP (by wtm_at "ev") (sv_name (hk z (List.mem_of_getElem? hg)))
    · refine re_retV (ev_eq (ev_lenSet (by wtm_at "ev") ha hn hl rfl) (ev_lenL (by wtm_at "ev") ha (by rw [List.length_map])) rfl (decide_eq_true rfl))
def nm_are_sides : List Str := ["columns", "blanks", "lacking", "names", "name"]
theorem sc_are_sides : FnScope nm_are_sides ["columns", "blanks", "lacking"] (defScope s_are_sides) := C8.fnScope_by (by decide +kernel)
theorem ok_are_sides (T : Tx K mg) (C_are_names : C8.Cal P w K mg base 2 "are_names" (PSp RNames) []) : C8.Cal P w K mg base 3 "are_sides" (PSp RSides) [] := by
  refine T.pf 4 4 rfl rfl sc_are_sides (fun _ _ _ _ _ _ us hl => match us, hl with | [_, _, _], _ => rfl) (fun vs H r h => ?_) (fun cdv A outer s H vs r E hr h => ?_)
  · obtain ⟨_, _, _, _, _, _, rfl, _⟩ := h
    rfl
  · have nd := sc_are_sides.nd
    refine ⟨_, (pss_cons (ps_if (PW.pt (pw_or (pt_not (pt_val (C8.pe_c C_are_names hr (by omega) (by rfl) (pa_cons (pv 0) pa_nil)))) (pw_or (pt_not (pt_val (C8.pe_c C_are_names hr (by omega) (by rfl) (pa_cons (pv 1) pa_nil)))) (pw_or1 (pt_not (pt_val (C8.pe_c C_are_names hr (by omega) (by rfl) (pa_cons (pv 2) pa_nil))))))))
      (pss_one (ps_ret pe_bl))
      pss_nil)
      (pss_cons (ps_set (i := 3) nd rfl (Or.inr rfl) (pe_lst (StX.pa_star (pv 0) (StX.pa_star (pv 1) pa_nil))))
      (pss_cons (ps_if (PW.pt (pw_or (pt_not (pt_chain op_le op_le pe_int (pe_callB cr_len (by rfl) T.f_len PySem.boot_len (pa_cons (pv 0) pa_nil)) (C8.pe_gc (by rfl) T.v_MOST_COLUMNS))) (pw_or (pt_cmpR op_gt (pe_callB cr_len (by rfl) T.f_len PySem.boot_len (pa_cons (pv 1) pa_nil)) (C8.pe_gc (by rfl) T.v_MOST_BLANKS) (nomark _)) (pw_or1 (pt_cmpR op_gt (pe_callB cr_len (by rfl) T.f_len PySem.boot_len (pa_cons (pv 3) pa_nil)) (C8.pe_gc (by rfl) T.v_MOST_NAMES) (nomark _))))))
      (pss_one (ps_ret pe_bl))
      pss_nil)
      (pss_one (ps_ret (pe_and (pe_cmpR op_eq (pe_lenSetT (by rfl) T.f_len (by rfl) T.f_set (pv 3)) (pe_callB cr_len (by rfl) T.f_len PySem.boot_len (pa_cons (pv 3) pa_nil)) (nomark _)) (pe_one (pe_callB (cr_all rfl) (by rfl) T.f_all (by decide +kernel) (pa_cons (pe_lc (own := [("name", 4)]) (g := (gName 4)) rfl nd (pi_list (pv 2)) (blkOk_by (own := [("name", 4)]) (N := nm_are_sides) (sc := defScope s_are_sides) (by decide +kernel)) (fun _ _ _ _ _ => (pg_name (i := 4) nd rfl (Or.inl rfl))) (fun _ _ _ _ _ => pts_nil) (fun _ _ _ _ _ => (pe_cmpR (q_in K rfl) (pv 4) (pv 3) (by rfl)))) pa_nil))))))))), ?_⟩
    obtain ⟨a, b, c, cs, bs, ls, rfl, ha, hb, hc, o, rfl⟩ := h
    refine re_no (et_or_f (et_not_f (et_test (ev_callP (by wtm_at "ev") (sv_names ha o.c)))) (et_or_f (et_not_f (et_test (ev_callP (by wtm_at "ev") (sv_names hb o.b)))) (et_not_f (et_test (ev_callP (by wtm_at "ev") (sv_names hc o.l)))))) ?_
    have h3 := o.c3
    have h1 := o.c1
    have h4 := o.b3
    have h5 := o.n5
    refine re_asgN (er_lst (el_star2 (by wtm_at "ev") (by wtm_at "ev") ha hb (by rw [List.length_map, List.length_map]; omega))) fun p H1 hp e h => ?_
    have hn : Ls H1 p (strV (cs ++ bs)) := by
      show H1 p = some (.lst (strV (cs ++ bs)))
      rw [h]
      unfold strV
      rw [List.map_append]
    have ha1 := e _ _ ha
    have hb1 := e _ _ hb
    have hc1 := e _ _ hc
    have lc : (strV cs).length = cs.length := List.length_map ..
    have lb : (strV bs).length = bs.length := List.length_map ..
    have ln : (strV (cs ++ bs)).length = cs.length + bs.length := by rw [List.length_map, List.length_append]
    refine fun D H2 e2 q => ?_
    have ha2 := e2 _ _ ha1
    have hb2 := e2 _ _ hb1
    have hc2 := e2 _ _ hc1
    have hn2 : Ls H2 p (strV (cs ++ bs)) := e2 _ _ hn
    refine (?_ : RR _ _ H2 (.val (.bl true))) D H2 (Ex.refl _) fun z H3 e3 hz => q z H3 e3 hz
    refine re_no (et_or_f (et_not_f (et_test (ev_chain ev_c (ev_lenL (by wtm_at "ev") ha2 rfl) (by wtm_at "ev") (bl_true (by omega)) (ctv_t (bl_true (by omega))))))
      (et_or_f (et_test (ev_int0 (ev_lenL (by wtm_at "ev") hb2 rfl) (by wtm_at "ev") (bl_false (by omega)))) (et_test (ev_int0 (ev_lenL (by wtm_at "ev") hn2 rfl) (by wtm_at "ev") (bl_false (by omega)))))) ?_
    refine re_retV (ev_and_t (ev_eq (ev_lenSet (by wtm_at "ev") hn2 o.nd (by rw [List.length_append]; omega) rfl) (ev_lenL (by wtm_at "ev") hn2 (by rw [List.length_map])) rfl (decide_eq_true rfl)) ?_)
    refine ev_allT (ei_list (by wtm_at "ev") hc2) (by rw [List.length_map]; have := o.l.2.2; omega) (fun _ => rfl) fun i x hx => ?_
    obtain ⟨z, hz, rfl⟩ := strV_get hx
    exact ev_inLs (by wtm_at "ev") (by wtm_at "ev") hn2 rfl (flat_str _) (inV_str (o.sub z (List.mem_of_getElem? hz)))
end
end Ot
namespace Ot
open PySem PySem.Spec PyProof.Rows L2 Evl
local macro_rules | `(tactic| wtm_at "dc") => `(tactic| first
  | ((with_reducible apply dd_f); decide +kernel)
  | ((with_reducible apply dd_t); decide +kernel)
  | ((with_reducible apply dn_f); decide +kernel)
  | ((with_reducible apply dn_t); decide +kernel)
  | (with_reducible exact dec_int_non)
  | (with_reducible exact dec_bl_non)
  | (with_reducible exact dec_ref_non)
  | (with_reducible exact dec_str_non)
  | (with_reducible exact dec_str_ne (by assumption))
  | (with_reducible exact dec_str_eq (by assumption))
  | (with_reducible exact ndec_str_ne (by assumption))
  | (with_reducible exact ndec_str_eq (by assumption))
  | (with_reducible exact dec_int_ne (by omega))
  | (with_reducible exact dec_int_eq (by omega))
  | (with_reducible exact ndec_int_ne (by omega))
  | (with_reducible exact ndec_int_eq (by omega)))
local macro_rules | `(tactic| wtm_at "ic") => `(tactic| first
  | ((with_reducible apply iv_f); decide +kernel)
  | ((with_reducible apply iv_t); decide +kernel)
  | ((with_reducible apply ivn_f); decide +kernel)
  | ((with_reducible apply ivn_t); decide +kernel))
local macro_rules | `(tactic| wtm_at "iv") => `(tactic| first
  | exact bl_true (by omega)
  | exact bl_false (by omega)
  | rfl)
local macro_rules | `(tactic| wtm_at "ln") => `(tactic| first
  | (with_reducible exact ln0) | (with_reducible exact ln1) | (with_reducible exact ln2) | (with_reducible exact ln3) | (with_reducible exact ln4) | rfl)
local macro_rules | `(tactic| wtm_at "nb") => `(tactic| first
  | (with_reducible exact nb_t)
  | (with_reducible exact nb_f))
local macro_rules | `(tactic| wtm_at "kt") => `(tactic| first
  | (with_reducible exact kit_tt) | (with_reducible exact kit_ss) | (with_reducible exact kit_ii) | (with_reducible exact kit_ib) | (with_reducible exact kit_ni) | (with_reducible exact kit_dd) | (with_reducible exact kit_ll))
local macro_rules | `(tactic| wtm_at "vt") => `(tactic| first
  | exact .str | exact .int | exact .non | exact .bl | exact .tup (by assumption) | exact .lst (by assumption) | exact .dK (by assumption))
local macro_rules | `(tactic| wtm_at "sv") => `(tactic| assumption)
local macro_rules | `(tactic| wtm_at "ct") => `(tactic| first
  | (with_reducible exact ct_f)
  | ((with_reducible apply ct_t); wtm_at "ev")
  | (with_reducible exact cf_t)
  | ((with_reducible apply cf_f); wtm_at "ev")
  | (with_reducible exact ctv_f)
  | ((with_reducible apply ctv_t); wtm_at "ev")
  | (with_reducible exact cfv_t)
  | ((with_reducible apply cfv_f); wtm_at "ev")
  | ((with_reducible apply ci_t); wtm_at "ev")
  | ((with_reducible apply ci_f); wtm_at "ev"))
local macro_rules | `(tactic| wtm_at "ev") => `(tactic| first
  | ((with_reducible apply ev_var); rfl)
  | (with_reducible exact ev_c)
  | (with_reducible exact ea_nil)
  | ((with_reducible apply ea_cons) <;> wtm_at "ev")
  | ((with_reducible apply ev_ixT); (wtm_at "ev"); (wtm_at "ev"); assumption; rfl)
  | ((with_reducible apply ev_dgetS); (wtm_at "ev"); (wtm_at "ev"); assumption; assumption)
  | ((with_reducible apply ev_lenT); (wtm_at "ev"); assumption; (wtm_at "ln"))
  | ((with_reducible apply ev_isi); (wtm_at "ev"); (wtm_at "vt"); (wtm_at "kt"))
  | ((with_reducible apply ev_eq); (wtm_at "ev"); (wtm_at "ev"); rfl; (wtm_at "dc"))
  | ((with_reducible apply ev_ne); (wtm_at "ev"); (wtm_at "ev"); rfl; (wtm_at "dc"))
  | ((with_reducible apply ev_isN); (wtm_at "ev"); (wtm_at "dc"))
  | ((with_reducible apply ev_notN); (wtm_at "ev"); (wtm_at "dc"))
  | ((with_reducible apply ev_int0); (wtm_at "ev"); (wtm_at "ev"); (wtm_at "iv"))
  | ((with_reducible apply ev_niN); (wtm_at "ev"); (wtm_at "ev"); rfl; rfl; (wtm_at "ic"))
  | ((with_reducible apply ev_inN); (wtm_at "ev"); (wtm_at "ev"); rfl; rfl; (wtm_at "ic"))
  | ((with_reducible apply eu_tup); (wtm_at "ev"); simp)
  | ((with_reducible apply el_lst); (wtm_at "ev"); simp)
  | ((with_reducible apply ev_callP); (wtm_at "ev"); (wtm_at "sv"))
  | ((with_reducible apply et_test); wtm_at "ev")
  | ((with_reducible apply et_B); wtm_at "ev")
  | ((with_reducible apply ev_andG); (wtm_at "ev"); (wtm_at "ct"))
  | ((with_reducible apply ev_orG); (wtm_at "ev"); (wtm_at "ct"))
  | ((with_reducible apply ev_notG); (wtm_at "ev"); (wtm_at "nb"))
  | ((with_reducible apply et_andG); (wtm_at "ev"); (wtm_at "ct"))
  | ((with_reducible apply et_orG); (wtm_at "ev"); (wtm_at "ct"))
  | ((with_reducible apply et_notG); (wtm_at "ev"); (wtm_at "nb"))
  | ((with_reducible apply ev_ifG); (wtm_at "ev"); (wtm_at "ct"))
  | assumption)
local macro_rules | `(tactic| wtm_at "re") => `(tactic| first
  | ((with_reducible apply re_ifG); (wtm_at "ev"); first | ((with_reducible apply ci_t); wtm_at "re") | ((with_reducible apply ci_f); wtm_at "re"))
  | ((with_reducible apply re_retV); wtm_at "ev")
  | ((with_reducible apply re_asgV); (wtm_at "ev"); (wtm_at "re"))
  | ((with_reducible apply re_par); (wtm_at "ev"); (wtm_at "re")))
local macro_rules | `(tactic| wtm_at "rs") => `(tactic| repeat ((with_reducible apply re_ifG); (wtm_at "ev"); first | (with_reducible apply ci_t) | (with_reducible apply ci_f)))


/-! ### shapes -/
def ShapeAt (K : PySem.W.Frag) (H : Hp) (a : Addr) (cs bs ls : List Str) : Prop := ∃ dx p q r, H a = some (.ins (He.ga K "Shape") dx [("own_columns", .ref p), ("own_blanks", .ref q), ("own_lacking", .ref r)]) ∧ Tp H p (strV cs) ∧ Tp H q (strV bs) ∧ Tp H r (strV ls)
theorem ShapeAt.same {K : PySem.W.Frag} {H H' : Hp} {a : Addr} {cs bs ls : List Str} (e : Ex H H') (h : ShapeAt K H a cs bs ls) : ShapeAt K H' a cs bs ls := by
  obtain ⟨dx, p, q, r, h1, h2, h3, h4⟩ := h
  exact ⟨dx, p, q, r, e _ _ h1, e _ _ h2, e _ _ h3, e _ _ h4⟩
def SpShape (K : PySem.W.Frag) : Sp := fun vs H Q _ => ∃ (x dx a b c : Addr) (cs bs ls : List Str), vs = [.ref x, .ref a, .ref b, .ref c] ∧ H x = some (.ins (He.ga K "Shape") dx []) ∧ Ls H a (strV cs) ∧ Ls H b (strV bs) ∧ Ls H c (strV ls) ∧ SidesOk cs bs ls ∧
  ∀ H', (∀ u o, u ≠ x → H u = some o → H' u = some o) → (∃ ls' : List Str, ls'.Perm ls ∧ ShapeAt K H' x cs bs ls') → Q .non H'
section
variable {K : PySem.W.Frag} {σ : L2.St} {H : Hp} {ta tb tv : TE} {t : TT} {tu tz : TS} {D : Ends} {x dx C : Addr} {fs : List (Str × V)} {f : Str} {o : HO} {v : V}
theorem d_no (h : EvT t σ H false) (k : ∀ H1, Ex H H1 → tz D σ H1) : tSeq (tIfS t tu tNext) tz D σ H := h H (Ex.refl H) _ fun H1 e => k H1 e
theorem d_fldN (hv : EvR tv σ H (.new o)) (ho : ∀ H1, Ex H H1 → Ev ta σ H1 (.ref x)) (hi : H x = some (.ins C dx fs)) (c : Cls K C) (n : NoAttr K C f) (hl : fs.length < 1000)
    (k : ∀ p H1, H p = none → Ex H H1 → H1 p = some o → D.nx σ (upd H1 x (.ins C dx (putF f (.ref p) fs)))) : sFld K ta tv f D σ H := hv H (Ex.refl H) _ fun z H1 e ⟨p, hz, h1, h2⟩ => by
  subst hz
  exact ho H1 e H1 (Ex.refl H1) _ fun H2 e2 => ⟨x, C, dx, fs, rfl, (e.trans e2) _ _ hi, c, n, hl, k p H2 h1 (e.trans e2) (e2 _ _ h2)⟩
theorem dq_fldN (hv : EvR tv σ H (.new o)) (ho : ∀ H1, Ex H H1 → Ev ta σ H1 (.ref x)) (hi : H x = some (.ins C dx fs)) (c : Cls K C) (n : NoAttr K C f) (hl : fs.length < 1000)
    (k : ∀ p H1, H p = none → Ex H H1 → H1 p = some o → tz D σ (upd H1 x (.ins C dx (putF f (.ref p) fs)))) : tSeq (sFld K ta tv f) tz D σ H := d_fldN (D := { D with nx := tz D }) hv ho hi c n hl k
theorem d_fldV (hv : Ev tv σ H v) (ho : ∀ H1, Ex H H1 → Ev ta σ H1 (.ref x)) (hi : H x = some (.ins C dx fs)) (c : Cls K C) (n : NoAttr K C f) (hl : fs.length < 1000)
    (k : ∀ H1, Ex H H1 → D.nx σ (upd H1 x (.ins C dx (putF f v fs)))) : sFld K ta tv f D σ H := hv H (Ex.refl H) _ fun H1 e =>
  ho H1 e H1 (Ex.refl H1) _ fun H2 e2 => ⟨x, C, dx, fs, rfl, (e.trans e2) _ _ hi, c, n, hl, k H2 (e.trans e2)⟩
theorem d_fldF {Pd : Addr → Hp → Prop} (hv : EvR tv σ H (.fr Pd)) (ho : ∀ H1, Ex H H1 → Ev ta σ H1 (.ref x)) (hi : H x = some (.ins C dx fs)) (c : Cls K C) (n : NoAttr K C f) (hl : fs.length < 1000)
    (k : ∀ p H1 H2, H p = none → Ex H H1 → Pd p H1 → Ex H1 H2 → D.nx σ (upd H2 x (.ins C dx (putF f (.ref p) fs)))) : sFld K ta tv f D σ H := hv H (Ex.refl H) _ fun z H1 e ⟨p, hz, h1, h2⟩ => by
  subst hz
  exact ho H1 e H1 (Ex.refl H1) _ fun H2 e2 => ⟨x, C, dx, fs, rfl, (e.trans e2) _ _ hi, c, n, hl, k p H1 H2 h1 e h2 e2⟩
theorem upd_l {xs : List V} {a : Addr} {o : HO} {fs : List (Str × V)} (h : Ls H a xs) (hx : H x = some (.ins C dx fs)) : Ls (upd H x o) a xs := by
  have n : a ≠ x := fun z => by
    rw [z] at h
    rw [h] at hx
    cases hx
  show (upd H x o) a = _
  rw [upd_ne n]
  exact h
theorem upd_t {xs : List V} {a : Addr} {o : HO} {fs : List (Str × V)} (h : Tp H a xs) (hx : H x = some (.ins C dx fs)) : Tp (upd H x o) a xs := by
  have n : a ≠ x := fun z => by
    rw [z] at h
    rw [h] at hx
    cases hx
  show (upd H x o) a = _
  rw [upd_ne n]
  exact h
end
theorem nodup_sub_length : ∀ {xs ys : List Str}, xs.Nodup → (∀ z ∈ xs, z ∈ ys) → xs.length ≤ ys.length
  | [], _, _, _ => Nat.zero_le _
  | x :: xs, ys, hn, hs => by
    obtain ⟨h1, h2⟩ := List.nodup_cons.mp hn
    have hx := hs x List.mem_cons_self
    have ih := nodup_sub_length (xs := xs) (ys := ys.erase x) h2 fun z hz => (List.mem_erase_of_ne (fun e : z = x => h1 (by rw [← e]; exact hz))).mpr (hs z (List.mem_cons_of_mem _ hz))
    rw [List.length_erase_of_mem hx] at ih
    have : 0 < ys.length := List.length_pos_of_mem hx
    rw [List.length_cons]
    omega
theorem EvR.mono {te : TE} {σ : L2.St} {H H' : Hp} {r : Res} (e : Ex H H') (h : EvR te σ H r) : EvR te σ H' r := fun H1 a Q q => h H1 (e.trans a) Q q
/-- tuple(sorted(..)) -/
theorem er_tupF {K : PySem.W.Frag} {σ : L2.St} {H : Hp} {ta : TE} {ks : List Str} (h : EvR ta σ H (.fr fun p H' => ∃ ys : List Str, ys.Perm ks ∧ Ls H' p (strV ys))) : EvR (tCB (rTupS K) (tCons ta tNil)) σ H (.fr fun p H' => ∃ ys : List Str, ys.Perm ks ∧ Tp H' p (strV ys)) :=
  fun H1 e Q q => h H1 e _ fun z H2 e2 ⟨p, hz, hp, ys, h1, h2⟩ => ⟨p, strV ys, by rw [hz], .inl ⟨sq_of h2, fun l hl => q _ _ (e2.trans (Ex.new hl)) ⟨l, rfl, fresh_back e2 hl, ys, h1, upd_same⟩⟩⟩
section
variable {P : Program} {w : World} {K : PySem.W.Frag} {mg : Str → Option Value} {base : Heap}
def nm_Shape_init : List Str := ["self", "columns", "blanks", "lacking"]
theorem sc_Shape_init : FnScope nm_Shape_init ["self", "columns", "blanks", "lacking"] (defScope s_Shape_init) := C8.fnScope_by (by decide +kernel)
theorem ok_Shape_init (T : Tx K mg) (C_are_sides : C8.Cal P w K mg base 3 "are_sides" (PSp RSides) []) : C8.Mak P w K mg base 4 "Shape" (He.ga K "Shape") (SpShape K) [] := by
  refine T.mk0 52 rfl T.mk_Shape T.g_Shape sc_Shape_init ?_ (fun vs H Q E h => ?_) (fun cdv A outer s H vs Q E hr h => ?_)
  · intro fd F
    obtain ⟨ds, h1, h2⟩ := F.binds1 (ps := ["self", "columns", "blanks", "lacking"]) 4 1 (by simp) (by simp) fun T kV doc pm an cdv ct us its hl hi => match us, its, hl, hi with
      | [_, _, _, _], [_], _, _ => by
        refine ⟨?k, ?h1, ?h2⟩
        case h1 =>
          unfold bindArgs
          simp only [List.forIn_nil, pure_bind]
          rfl
        case h2 => rfl
    cases h1
    exact h2
  · obtain ⟨_, _, _, _, _, _, _, _, rfl, _⟩ := h
    rfl
  · have nd := sc_Shape_init.nd
    refine ⟨_, (pss_cons (ps_if (pt_not (pt_val (C8.pe_c C_are_sides hr (by omega) (by rfl) (pa_cons (pv 1) (pa_cons (pv 2) (pa_cons (pv 3) pa_nil))))))
      (pss_one ps_never)
      pss_nil)
      (pss_cons (ps_fld (pv 0) (pe_callTy cr_tupS (by rfl) T.f_tuple (by decide +kernel) (pa_cons (pv 1) pa_nil)) rfl)
      (pss_cons (ps_fld (pv 0) (pe_callTy cr_tupS (by rfl) T.f_tuple (by decide +kernel) (pa_cons (pv 2) pa_nil)) rfl)
      (pss_one (ps_fld (pv 0) (pe_callTy cr_tupS (by rfl) T.f_tuple (by decide +kernel) (pa_cons (pe_callB cr_sortedS (by rfl) T.f_sorted (by decide +kernel) (pa_cons (pv 3) pa_nil)) pa_nil)) rfl))))), ?_⟩
    obtain ⟨x, dx, a, b, c, cs, bs, ls, rfl, hx, ha, hb, hc, o, q⟩ := h
    refine d_no (et_not_f (et_test (ev_callP (by wtm_at "ev") (sv_sides ha hb hc o)))) fun H1 e1 => ?_
    have hx1 := e1 _ _ hx
    have ha1 := e1 _ _ ha
    have hb1 := e1 _ _ hb
    have hc1 := e1 _ _ hc
    refine dq_fldN (er_tupL (by wtm_at "ev") ha1) (fun _ _ => by wtm_at "ev") hx1 T.c_Shape T.n_own_columns (by decide) fun p H2 hp e2 hp2 => ?_
    have hx2 := e2 _ _ hx1
    have kx2 : (upd H2 x (.ins (He.ga K "Shape") dx [("own_columns", V.ref p)])) x = some (.ins (He.ga K "Shape") dx [("own_columns", V.ref p)]) := upd_same
    have ka2 := upd_l (o := .ins (He.ga K "Shape") dx [("own_columns", V.ref p)]) (e2 _ _ ha1) hx2
    have kb2 := upd_l (o := .ins (He.ga K "Shape") dx [("own_columns", V.ref p)]) (e2 _ _ hb1) hx2
    have kc2 := upd_l (o := .ins (He.ga K "Shape") dx [("own_columns", V.ref p)]) (e2 _ _ hc1) hx2
    have kp2 := upd_t (o := .ins (He.ga K "Shape") dx [("own_columns", V.ref p)]) hp2 hx2
    have k2 : ∀ u o, u ≠ x → H u = some o → (upd H2 x (.ins (He.ga K "Shape") dx [("own_columns", V.ref p)])) u = some o := fun u o hu h => by
      rw [upd_ne hu]
      exact (e1.trans e2) _ _ h
    change tSeq _ _ _ _ (upd H2 x (.ins (He.ga K "Shape") dx [("own_columns", V.ref p)]))
    generalize upd H2 x (.ins (He.ga K "Shape") dx [("own_columns", V.ref p)]) = H3 at kx2 ka2 kb2 kc2 kp2 k2
    refine dq_fldN (er_tupL (by wtm_at "ev") kb2) (fun _ _ => by wtm_at "ev") kx2 T.c_Shape T.n_own_blanks (show 1 < 1000 by decide) fun r H4 hr e4 hr4 => ?_
    have hx4 := e4 _ _ kx2
    have kx4 : (upd H4 x (.ins (He.ga K "Shape") dx [("own_columns", V.ref p), ("own_blanks", V.ref r)])) x = some (.ins (He.ga K "Shape") dx [("own_columns", V.ref p), ("own_blanks", V.ref r)]) := upd_same
    have kc4 := upd_l (o := .ins (He.ga K "Shape") dx [("own_columns", V.ref p), ("own_blanks", V.ref r)]) (e4 _ _ kc2) hx4
    have kp4 := upd_t (o := .ins (He.ga K "Shape") dx [("own_columns", V.ref p), ("own_blanks", V.ref r)]) (e4 _ _ kp2) hx4
    have kr4 := upd_t (o := .ins (He.ga K "Shape") dx [("own_columns", V.ref p), ("own_blanks", V.ref r)]) hr4 hx4
    have k4 : ∀ u o, u ≠ x → H u = some o → (upd H4 x (.ins (He.ga K "Shape") dx [("own_columns", V.ref p), ("own_blanks", V.ref r)])) u = some o := fun u o hu h => by
      rw [upd_ne hu]
      exact e4 _ _ (k2 u o hu h)
    change sFld _ _ _ _ _ _ (upd H4 x (.ins (He.ga K "Shape") dx [("own_columns", V.ref p), ("own_blanks", V.ref r)]))
    generalize upd H4 x (.ins (He.ga K "Shape") dx [("own_columns", V.ref p), ("own_blanks", V.ref r)]) = H5 at kx4 kc4 kp4 kr4 k4
    have l64 : ls.length < 64 := by
      have h1 : (ls.length : Nat) ≤ (cs ++ bs).length := nodup_sub_length o.l.1 o.sub
      rw [List.length_append] at h1
      have := o.n5
      omega
    refine d_fldF (er_tupF (er_sortS (by wtm_at "ev") kc4 l64)) (fun _ _ => by wtm_at "ev") kx4 T.c_Shape T.n_own_lacking (show 2 < 1000 by decide) fun s H6 H7 hs e6 hs6 e7 => ?_
    obtain ⟨ys, hy, hs6⟩ := hs6
    have hx7 := e7 _ _ (e6 _ _ kx4)
    refine q _ (fun u o hu h => ?_) ⟨ys, hy, dx, p, r, s, upd_same, upd_t (e7 _ _ (e6 _ _ kp4)) hx7, upd_t (e7 _ _ (e6 _ _ kr4)) hx7, upd_t (e7 _ _ hs6) hx7⟩
    rw [upd_ne hu]
    exact e7 _ _ (e6 _ _ (k4 u o hu h))
end
end Ot
namespace Ot
open PySem PySem.Spec PyProof.Rows L2 Evl
local macro_rules | `(tactic| wtm_at "dc") => `(tactic| first
  | ((with_reducible apply dd_f); decide +kernel)
  | ((with_reducible apply dd_t); decide +kernel)
  | ((with_reducible apply dn_f); decide +kernel)
  | ((with_reducible apply dn_t); decide +kernel)
  | (with_reducible exact dec_int_non)
  | (with_reducible exact dec_bl_non)
  | (with_reducible exact dec_ref_non)
  | (with_reducible exact dec_str_non)
  | (with_reducible exact dec_str_ne (by assumption))
  | (with_reducible exact dec_str_eq (by assumption))
  | (with_reducible exact ndec_str_ne (by assumption))
  | (with_reducible exact ndec_str_eq (by assumption))
  | (with_reducible exact dec_int_ne (by omega))
  | (with_reducible exact dec_int_eq (by omega))
  | (with_reducible exact ndec_int_ne (by omega))
  | (with_reducible exact ndec_int_eq (by omega)))
local macro_rules | `(tactic| wtm_at "ic") => `(tactic| first
  | ((with_reducible apply iv_f); decide +kernel)
  | ((with_reducible apply iv_t); decide +kernel)
  | ((with_reducible apply ivn_f); decide +kernel)
  | ((with_reducible apply ivn_t); decide +kernel))
local macro_rules | `(tactic| wtm_at "iv") => `(tactic| first
  | exact bl_true (by omega)
  | exact bl_false (by omega)
  | rfl)
local macro_rules | `(tactic| wtm_at "ln") => `(tactic| first
  | (with_reducible exact ln0) | (with_reducible exact ln1) | (with_reducible exact ln2) | (with_reducible exact ln3) | (with_reducible exact ln4) | rfl)
local macro_rules | `(tactic| wtm_at "nb") => `(tactic| first
  | (with_reducible exact nb_t)
  | (with_reducible exact nb_f))
local macro_rules | `(tactic| wtm_at "kt") => `(tactic| first
  | (with_reducible exact kit_tt) | (with_reducible exact kit_ss) | (with_reducible exact kit_ii) | (with_reducible exact kit_ib) | (with_reducible exact kit_ni) | (with_reducible exact kit_dd) | (with_reducible exact kit_ll))
local macro_rules | `(tactic| wtm_at "vt") => `(tactic| first
  | exact .str | exact .int | exact .non | exact .bl | exact .tup (by assumption) | exact .lst (by assumption) | exact .dK (by assumption))
local macro_rules | `(tactic| wtm_at "sv") => `(tactic| assumption)
local macro_rules | `(tactic| wtm_at "ct") => `(tactic| first
  | (with_reducible exact ct_f)
  | ((with_reducible apply ct_t); wtm_at "ev")
  | (with_reducible exact cf_t)
  | ((with_reducible apply cf_f); wtm_at "ev")
  | (with_reducible exact ctv_f)
  | ((with_reducible apply ctv_t); wtm_at "ev")
  | (with_reducible exact cfv_t)
  | ((with_reducible apply cfv_f); wtm_at "ev")
  | ((with_reducible apply ci_t); wtm_at "ev")
  | ((with_reducible apply ci_f); wtm_at "ev"))
local macro_rules | `(tactic| wtm_at "ev") => `(tactic| first
  | ((with_reducible apply ev_var); rfl)
  | (with_reducible exact ev_c)
  | (with_reducible exact ea_nil)
  | ((with_reducible apply ea_cons) <;> wtm_at "ev")
  | ((with_reducible apply ev_ixT); (wtm_at "ev"); (wtm_at "ev"); assumption; rfl)
  | ((with_reducible apply ev_dgetS); (wtm_at "ev"); (wtm_at "ev"); assumption; assumption)
  | ((with_reducible apply ev_lenT); (wtm_at "ev"); assumption; (wtm_at "ln"))
  | ((with_reducible apply ev_isi); (wtm_at "ev"); (wtm_at "vt"); (wtm_at "kt"))
  | ((with_reducible apply ev_eq); (wtm_at "ev"); (wtm_at "ev"); rfl; (wtm_at "dc"))
  | ((with_reducible apply ev_ne); (wtm_at "ev"); (wtm_at "ev"); rfl; (wtm_at "dc"))
  | ((with_reducible apply ev_isN); (wtm_at "ev"); (wtm_at "dc"))
  | ((with_reducible apply ev_notN); (wtm_at "ev"); (wtm_at "dc"))
  | ((with_reducible apply ev_int0); (wtm_at "ev"); (wtm_at "ev"); (wtm_at "iv"))
  | ((with_reducible apply ev_niN); (wtm_at "ev"); (wtm_at "ev"); rfl; rfl; (wtm_at "ic"))
  | ((with_reducible apply ev_inN); (wtm_at "ev"); (wtm_at "ev"); rfl; rfl; (wtm_at "ic"))
  | ((with_reducible apply eu_tup); (wtm_at "ev"); simp)
  | ((with_reducible apply el_lst); (wtm_at "ev"); simp)
  | ((with_reducible apply ev_callP); (wtm_at "ev"); (wtm_at "sv"))
  | ((with_reducible apply et_test); wtm_at "ev")
  | ((with_reducible apply et_B); wtm_at "ev")
  | ((with_reducible apply ev_andG); (wtm_at "ev"); (wtm_at "ct"))
  | ((with_reducible apply ev_orG); (wtm_at "ev"); (wtm_at "ct"))
  | ((with_reducible apply ev_notG); (wtm_at "ev"); (wtm_at "nb"))
  | ((with_reducible apply et_andG); (wtm_at "ev"); (wtm_at "ct"))
  | ((with_reducible apply et_orG); (wtm_at "ev"); (wtm_at "ct"))
  | ((with_reducible apply et_notG); (wtm_at "ev"); (wtm_at "nb"))
  | ((with_reducible apply ev_ifG); (wtm_at "ev"); (wtm_at "ct"))
  | assumption)
local macro_rules | `(tactic| wtm_at "re") => `(tactic| first
  | ((with_reducible apply re_ifG); (wtm_at "ev"); first | ((with_reducible apply ci_t); wtm_at "re") | ((with_reducible apply ci_f); wtm_at "re"))
  | ((with_reducible apply re_retV); wtm_at "ev")
  | ((with_reducible apply re_asgV); (wtm_at "ev"); (wtm_at "re"))
  | ((with_reducible apply re_par); (wtm_at "ev"); (wtm_at "re")))
local macro_rules | `(tactic| wtm_at "rs") => `(tactic| repeat ((with_reducible apply re_ifG); (wtm_at "ev"); first | (with_reducible apply ci_t) | (with_reducible apply ci_f)))


/-! ### a def that falls off its end -/
abbrev Pre : Type := List V → Hp → Prop
abbrev PN (R : Pre) : Sp := PSp fun vs H r => R vs H ∧ r = .val .non
section
variable {P : Program} {w : World} {K : PySem.W.Frag} {mg : Str → Option Value} {base : Heap}
theorem Tx.pn (T : Tx K mg) (i j : Nat) {x : Str} {st : Stmt} {N ps : List Str} {k : Nat} {R : Pre} (hd : fns[i]? = some (dG x st [])) (hg : fas[j]? = some (.glo x)) (S : FnScope N ps (defScope st)) (bi : BindN x x st ps) (len : ∀ vs H, R vs H → vs.length = ps.length)
    (body : ∀ (cdv : Value) (A : Around) (outer : List Env) (s : Shared) (H : Hp) (vs : List V) (E : XK), Room k (A.deeper (envOfC x (defScope st) s.heap.objs.size (He.ga K x) cdv)) → R vs H →
      ∃ t, PSs (cxOf CX0 P w K mg base N x (defScope st) (He.ga K x) cdv A outer s H E).nox (defBody st) t ∧ FR t (start N vs) H) : C8.Cal P w K mg base (k + 1) x (PN R) [] :=
  T.df i j hd hg S bi (fun vs H Q E h => by
    obtain ⟨r, h, _⟩ := h
    exact len vs H h.1) fun cdv A outer s H vs Q E hr h => by
    obtain ⟨r, ⟨h, hr0⟩, q⟩ := h
    subst hr0
    obtain ⟨t, h1, h2⟩ := body cdv A outer s H vs E hr h
    exact ⟨t, h1, h2 _ H (Ex.refl H) fun H2 e2 => q .non H2 e2 rfl⟩
end
/-! ### dict comprehensions over values -/
section
variable {σ : L2.St} {H : Hp} {tk tv : TE} {wi : TI} {xs zs : List V} {vs : List Nat} {j : Nat}
theorem valV_new {ks : List Key} {kvs : List (Key × V)} {i : Nat} {k : Key} (nd : ks.Nodup) (hk : ks[i]? = some k) (h : kvs.map (·.1) = ks.take i) : valV kvs k = none := by
  cases hvk : valV kvs k with
  | none => rfl
  | some w =>
    have hm : k ∈ kvs.map (·.1) := by
      unfold valV at hvk
      cases hf : kvs.find? (fun p => decide (p.1 = k)) with
      | none => rw [hf] at hvk; cases hvk
      | some pr => exact List.mem_map.mpr ⟨pr, List.mem_of_find?_eq_some hf, of_decide_eq_true (List.find?_some (p := fun (p : Key × V) => decide (p.1 = k)) hf)⟩
    rw [h] at hm
    have tk1 : ks.take (i + 1) = ks.take i ++ [k] := by
      rw [List.take_add_one, hk]
      rfl
    rw [← List.take_append_drop (i + 1) ks, tk1, List.append_assoc, List.nodup_append] at nd
    exact absurd rfl (nd.2.2 k hm k (List.mem_append_left _ (List.mem_singleton.mpr rfl)))
theorem er_dcV {ks : List Key} (hi : EvI wi σ H xs) (hz : xs.length ≤ 40000) (hk : ks.length = xs.length) (hv : zs.length = xs.length) (nd : ks.Nodup) (hw : ∀ x, wipe ((wipe σ vs).set j (some x)) vs = wipe σ vs)
    (hek : ∀ (i : Nat) (x : V) (k : Key), xs[i]? = some x → ks[i]? = some k → Ev tk ((wipe σ vs).set j (some x)) H (kV k))
    (hev : ∀ (i : Nat) (x : V) (k : Key) (z : V), xs[i]? = some x → ks[i]? = some k → zs[i]? = some z → Ev tv ((wipe σ vs).set j (some x)) H z) : EvR (tDc wi (gName j) tYes tk tv vs) σ H (.new (.dK (ks.zip zs))) := fun H0 e Q q => hi H0 e _ fun J H1 e1 ⟨G, W, hG, _⟩ => fun D hD => by
  refine ⟨fun i m H' => m = xs.length - i ∧ i ≤ xs.length ∧ Ex H1 H' ∧ H' D = some (.dK ((ks.take i).zip (zs.take i))), ⟨xs.length, by simp, Nat.zero_le _, Ex.new hD, by rw [List.take_zero]; exact upd_same⟩, ?_⟩
  rintro i m H2 ⟨rfl, hi, p1, p2⟩
  have hg := hG H2 p1
  by_cases hlt : i < xs.length
  · refine .inr ⟨W.goes i H2 hlt hg, fun H' => Ex H1 H' ∧ H' D = some (.dK ((ks.take (i + 1)).zip (zs.take (i + 1)))), fun H' p => ⟨xs.length - (i + 1), by omega, rfl, hlt, p⟩, fun x H2' y => ?_⟩
    obtain ⟨rfl, hx⟩ := W.yields i H2 x H2' hlt hg y
    have hki : ks[i]? = some (ks[i]'(by omega)) := List.getElem?_eq_getElem (by omega)
    have hzi : zs[i]? = some (zs[i]'(by omega)) := List.getElem?_eq_getElem (by omega)
    generalize ks[i]'(by omega) = k at hki
    generalize zs[i]'(by omega) = z at hzi
    refine ⟨hw x, ?_⟩
    show tk ((wipe σ vs).set j (some x)) H2' _
    refine hek i x k hx hki H2' ((e.trans e1).trans p1) _ fun H3 e3 => ?_
    refine hev i x k z hx hki hzi H3 (((e.trans e1).trans p1).trans e3) _ fun H4 e4 => ?_
    have l1 : (ks.take i).length = i := by rw [List.length_take]; omega
    have l2 : (zs.take i).length = i := by rw [List.length_take]; omega
    have hkeys : ((ks.take i).zip (zs.take i)).map (·.1) = ks.take i := List.map_fst_zip (by omega)
    refine ⟨_, k, rfl, e4 _ _ (e3 _ _ p2), sz_lt (by rw [List.length_zip]; omega), Ex.mut ((p1.trans e3).trans e4) hD, ?_⟩
    rw [putK_new _ (valV_new nd hki hkeys)]
    have tk1 : ks.take (i + 1) = ks.take i ++ [k] := by
      rw [List.take_add_one, hki]
      rfl
    rw [tk1, ← take_snoc hzi, List.zip_append (by omega)]
    exact upd_same
  · have e0 : i = xs.length := by omega
    subst e0
    refine .inl ⟨W.stops H2 hg, q _ H2 (e1.trans p1) ⟨D, rfl, fresh_back e1 hD, ?_⟩⟩
    rw [p2, ← hk, List.take_length, hk, ← hv, List.take_length]
end
theorem mergeK_nodup : ∀ (more kvs : List (Key × V)), ((kvs ++ more).map (·.1)).Nodup → mergeK kvs more = kvs ++ more
  | [], kvs, _ => (List.append_nil kvs).symm
  | p :: more, kvs, nd => by
    show mergeK (putK kvs p.1 p.2) more = _
    have h0 : valV kvs p.1 = none := by
      refine valV_new (ks := (kvs ++ p :: more).map (·.1)) (i := kvs.length) nd ?_ ?_
      · rw [List.getElem?_map, List.getElem?_append_right (Nat.le_refl _), Nat.sub_self]
        rfl
      · rw [← List.map_take, List.take_left]
    rw [putK_new _ h0, mergeK_nodup more (kvs ++ [(p.1, p.2)]) (by rw [List.append_assoc]; exact nd), List.append_assoc]
    rfl
/-! ### worths -/
/-- the row er of the columns cs stands at t; the asking ea of the blanks bs stands at d -/
def RowAt (H : Hp) (t : Addr) (cs : List Str) (er : Wo) : Prop := Tp H t (cs.map fun z => wv (er z))
def AskAt (H : Hp) (d : Addr) (bs : List Str) (ea : Wo) : Prop := ∃ kvs, Dk H d kvs ∧ kvs.length = bs.length ∧ ∀ z ∈ bs, valV kvs (Sum.inr z : Key) = some (wv (ea z))
theorem AskAt.same {H H' : Hp} {d : Addr} {bs : List Str} {ea : Wo} (e : Ex H H') (h : AskAt H d bs ea) : AskAt H' d bs ea := let ⟨k, h1, h2⟩ := h; ⟨k, e _ _ h1, h2⟩
def mixW (cs : List Str) (er ea : Wo) : Wo := fun z => if z ∈ cs then er z else ea z
/-- only names that may lack do lack -/
def WoOk (ns ls : List Str) (e : Wo) : Prop := ∀ z ∈ ns, e z = none → z ∈ ls
abbrev wD (ns : List Str) (e : Wo) : List (Key × V) := ns.map fun z => ((Sum.inr z : Key), wv (e z))
theorem wD_val {e : Wo} : ∀ {ns : List Str} {z : Str}, z ∈ ns → valV (wD ns e) (Sum.inr z : Key) = some (wv (e z))
  | n :: ns, z, h => by
    by_cases hn : n = z
    · subst hn
      exact valV_pos rfl
    · rcases List.mem_cons.mp h with h | h
      · exact absurd h.symm hn
      · show valV ((Sum.inr n, wv (e n)) :: wD ns e) _ = _
        unfold valV
        rw [List.find?_cons, show decide ((Sum.inr n : Key) = Sum.inr z) = false from decide_eq_false fun q => hn (Sum.inr.inj q)]
        exact wD_val h
theorem wD_keys (ns : List Str) (e : Wo) : (wD ns e).map (·.1) = kS ns := by
  rw [List.map_map]
  rfl
theorem kS_nodup {ns : List Str} (h : ns.Nodup) : (kS ns).Nodup := List.Pairwise.map _ (fun a b hab q => hab (Sum.inr.inj q)) h
theorem kS_zip (ns : List Str) (e : Wo) : (kS ns).zip (ns.map fun z => wv (e z)) = wD ns e := by
  rw [List.zip_map']
/-- a shape's object -/
abbrev ShI (K : PySem.W.Frag) (H : Hp) (a dx p q r : Addr) : Prop := H a = some (.ins (He.ga K "Shape") dx [("own_columns", .ref p), ("own_blanks", .ref q), ("own_lacking", .ref r)])
def RCol (K : PySem.W.Frag) : Rel := fun vs H x => ∃ a dx p q r, vs = [.ref a] ∧ ShI K H a dx p q r ∧ x = .val (.ref p)
def RBla (K : PySem.W.Frag) : Rel := fun vs H x => ∃ a dx p q r, vs = [.ref a] ∧ ShI K H a dx p q r ∧ x = .val (.ref q)
def RIsWorth (K : PySem.W.Frag) : Rel := fun vs H x => ∃ a dx p q r z o ls, vs = [.ref a, .str z, wv o] ∧ ShI K H a dx p q r ∧ Tp H r (strV ls) ∧ (o = none → z ∈ ls) ∧ x = .val (.bl true)
def RIsRow (K : PySem.W.Frag) : Rel := fun vs H x => ∃ a cs bs ls t er, vs = [.ref a, .ref t] ∧ ShapeAt K H a cs bs ls ∧ RowAt H t cs er ∧ WoOk cs ls er ∧ cs.length ≤ 1000 ∧ x = .val (.bl true)
def RIsAsk (K : PySem.W.Frag) : Rel := fun vs H x => ∃ a cs bs ls d ea, vs = [.ref a, .ref d] ∧ ShapeAt K H a cs bs ls ∧ AskAt H d bs ea ∧ WoOk bs ls ea ∧ bs.length ≤ 1000 ∧ x = .val (.bl true)
def PShape (K : PySem.W.Frag) : Pre := fun vs H => ∃ a cs bs ls, vs = [.ref a] ∧ ShapeAt K H a cs bs ls
def PRow (K : PySem.W.Frag) : Pre := fun vs H => ∃ a cs bs ls t er, vs = [.ref a, .ref t] ∧ ShapeAt K H a cs bs ls ∧ RowAt H t cs er ∧ WoOk cs ls er ∧ cs.length ≤ 1000
def PAsk (K : PySem.W.Frag) : Pre := fun vs H => ∃ a cs bs ls d ea, vs = [.ref a, .ref d] ∧ ShapeAt K H a cs bs ls ∧ AskAt H d bs ea ∧ WoOk bs ls ea ∧ bs.length ≤ 1000
def RRowW (K : PySem.W.Frag) : Rel := fun vs H x => ∃ a cs bs ls t er, vs = [.ref a, .ref t] ∧ ShapeAt K H a cs bs ls ∧ RowAt H t cs er ∧ cs.Nodup ∧ x = .new (.dK (wD cs er))
def RWof (K : PySem.W.Frag) : Rel := fun vs H x => ∃ a cs bs ls t er d ea, vs = [.ref a, .ref t, .ref d] ∧ ShapeAt K H a cs bs ls ∧ RowAt H t cs er ∧ AskAt H d bs ea ∧ (cs ++ bs).Nodup ∧ cs.length + bs.length ≤ 1000 ∧ x = .new (.dK (wD (cs ++ bs) (mixW cs er ea)))
section
variable {P : Program} {w : World} {K : PySem.W.Frag} {mg : Str → Option Value} {base : Heap}
def nm_Shape_columns : List Str := ["self"]
theorem sc_Shape_columns : FnScope nm_Shape_columns ["self"] (defScope s_Shape_columns) := C8.fnScope_by (by decide +kernel)
theorem ok_columns (T : Tx K mg) : Prp P w K mg base 1 (He.ga K "Shape") "columns" (PSp (RCol K)) := by
  refine T.pfP 58 rfl T.c_Shape T.p_Shape_columns sc_Shape_columns (fun _ _ _ _ _ _ us hl => match us, hl with | [_], _ => rfl) (fun vs H r h => ?_) (fun cdv A outer s H vs r E hr h => ?_)
  · obtain ⟨_, _, _, _, _, rfl, _⟩ := h
    rfl
  · have nd := sc_Shape_columns.nd
    refine ⟨_, (pss_one (ps_ret (pe_fld (pv 0) rfl))), ?_⟩
    obtain ⟨a, dx, p, q, x, rfl, hi, rfl⟩ := h
    exact re_retV (ev_fld (by wtm_at "ev") hi T.c_Shape T.n_own_columns rfl)
def nm_Shape_blanks : List Str := ["self"]
theorem sc_Shape_blanks : FnScope nm_Shape_blanks ["self"] (defScope s_Shape_blanks) := C8.fnScope_by (by decide +kernel)
theorem ok_blanks (T : Tx K mg) : Prp P w K mg base 1 (He.ga K "Shape") "blanks" (PSp (RBla K)) := by
  refine T.pfP 59 rfl T.c_Shape T.p_Shape_blanks sc_Shape_blanks (fun _ _ _ _ _ _ us hl => match us, hl with | [_], _ => rfl) (fun vs H r h => ?_) (fun cdv A outer s H vs r E hr h => ?_)
  · obtain ⟨_, _, _, _, _, rfl, _⟩ := h
    rfl
  · have nd := sc_Shape_blanks.nd
    refine ⟨_, (pss_one (ps_ret (pe_fld (pv 0) rfl))), ?_⟩
    obtain ⟨a, dx, p, q, x, rfl, hi, rfl⟩ := h
    exact re_retV (ev_fld (by wtm_at "ev") hi T.c_Shape T.n_own_blanks rfl)
def nm_Shape_is_worth : List Str := ["self", "name", "thing"]
theorem sc_Shape_is_worth : FnScope nm_Shape_is_worth ["self", "name", "thing"] (defScope s_Shape_is_worth) := C8.fnScope_by (by decide +kernel)
theorem ok_is_worth (T : Tx K mg) (C_is_number : C8.Cal P w K mg base 1 "is_number" (PSp RNum) []) : C8.Met P w K mg base 2 (He.ga K "Shape") "is_worth" (PSp (RIsWorth K)) [] := by
  refine T.pfM 53 rfl T.c_Shape T.m_is_worth sc_Shape_is_worth (fun _ _ _ _ _ _ us hl => match us, hl with | [_, _, _], _ => rfl) (fun vs H r h => ?_) (fun cdv A outer s H vs r E hr h => ?_)
  · obtain ⟨_, _, _, _, _, _, _, _, rfl, _⟩ := h
    rfl
  · have nd := sc_Shape_is_worth.nd
    refine ⟨_, (pss_one (ps_ret (pe_or (C8.pe_c C_is_number hr (by omega) (by rfl) (pa_cons (pv 2) pa_nil)) (pe_one (pe_and (pe_cmpR op_isN2 (pv 2) pe_non (nomark _)) (pe_one (pe_cmpR op_in_seq (pv 1) (pe_fld (pv 0) rfl) (by rfl)))))))), ?_⟩
    obtain ⟨a, dx, p, q, x, z, o, ls, rfl, hi, hr, hz, rfl⟩ := h
    cases o with
    | some i => exact re_retV (ev_or_t (ev_callP (by wtm_at "ev") sv_num))
    | none =>
      refine re_retV (ev_or_f (ev_callP (by wtm_at "ev") sv_num0) (ev_and_t (ev_isN (by wtm_at "ev") rfl) ?_))
      exact ev_inT (by wtm_at "ev") (ev_fld (by wtm_at "ev") hi T.c_Shape T.n_own_lacking rfl) hr rfl (flat_str _) (inV_str (hz rfl))
def nm_Shape_is_row : List Str := ["self", "thing", "name", "worth"]
theorem sc_Shape_is_row : FnScope nm_Shape_is_row ["self", "thing"] (defScope s_Shape_is_row) := C8.fnScope_by (by decide +kernel)
theorem ok_is_row (T : Tx K mg) (M_is_worth : C8.Met P w K mg base 2 (He.ga K "Shape") "is_worth" (PSp (RIsWorth K)) []) : C8.Met P w K mg base 3 (He.ga K "Shape") "is_row" (PSp (RIsRow K)) [] := by
  refine T.pfM 54 rfl T.c_Shape T.m_is_row sc_Shape_is_row (fun _ _ _ _ _ _ us hl => match us, hl with | [_, _], _ => rfl) (fun vs H r h => ?_) (fun cdv A outer s H vs r E hr h => ?_)
  · obtain ⟨_, _, _, _, _, _, rfl, _⟩ := h
    rfl
  · have nd := sc_Shape_is_row.nd
    refine ⟨_, (pss_cons (ps_if (PW.pt (pw_or (pt_not (pt_val (pe_callB call_isi (by rfl) T.f_isinstance (by decide +kernel) (pa_cons (pv 1) (pa_cons (pe_bltn (v := .ty "tuple") (u := .type "tuple") (by rfl) T.f_tuple (by decide +kernel) rfl) pa_nil))))) (pw_or1 (pt_cmpR op_ne (pe_callB cr_len (by rfl) T.f_len PySem.boot_len (pa_cons (pv 1) pa_nil)) (pe_callB cr_len (by rfl) T.f_len PySem.boot_len (pa_cons (pe_fld (pv 0) rfl) pa_nil)) (nomark _)))))
      (pss_one (ps_ret pe_bl))
      pss_nil)
      (pss_one (ps_ret (pe_callB (cr_all rfl) (by rfl) T.f_all (by decide +kernel) (pa_cons (pe_lc (own := [("name", 2), ("worth", 3)]) (g := _) rfl nd (RZ.pi_zipA (by rfl) T.f_zip (pa_cons (pe_fld (pv 0) rfl) (pa_cons (pv 1) pa_nil))) (blkOk_by (own := [("name", 2), ("worth", 3)]) (N := nm_Shape_is_row) (sc := defScope s_Shape_is_row) (by decide +kernel)) (fun _ _ _ _ _ => (q_gtup K rfl (n := 2) rfl (pgs_cons (pg_name (i := 2) nd rfl (Or.inl rfl)) (pgs_cons (pg_name (i := 3) nd rfl (Or.inl rfl)) pgs_nil)))) (fun _ _ _ _ _ => pts_nil) (fun _ _ _ _ _ => (C8.pe_mt M_is_worth hr (by omega) (pv 0) (pa_cons (pv 2) (pa_cons (pv 3) pa_nil))))) pa_nil))))), ?_⟩
    obtain ⟨a, cs, bs, ls, t, er, rfl, ⟨dx, p, q, x, hi, hp, hq, hx⟩, ht, ho, hl, rfl⟩ := h
    have ht : Tp H t (cs.map fun z => wv (er z)) := ht
    have l1 : (strV cs).length = cs.length := List.length_map ..
    have l2 : (cs.map fun z => wv (er z)).length = cs.length := List.length_map ..
    refine re_no (et_or_f (et_not_f (et_test (ev_isi (by wtm_at "ev") (.tup ht) kit_tt))) (et_test (ev_ne (ev_lenT (by wtm_at "ev") ht rfl) (ev_lenT (ev_fld (by wtm_at "ev") hi T.c_Shape T.n_own_columns rfl) hp rfl) rfl (by rw [l1, l2]; exact ndec_int_eq rfl)))) ?_
    refine re_retV (ev_all (bs := List.replicate cs.length true) (el_lcP1 (ep_zipT (ea_cons (ev_fld (by wtm_at "ev") hi T.c_Shape T.n_own_columns rfl) (ea_cons (by wtm_at "ev") ea_nil)) hp ht (by rw [l1, l2])) (by rw [l1]; omega) (by rw [List.length_map, List.length_replicate, l1]) (fun _ _ => rfl) fun k u v y hu hv hy => ?_) (all_true _))
    rw [rep_get hy]
    obtain ⟨z, hz, rfl⟩ := strV_get hu
    rw [List.getElem?_map, hz] at hv
    have hv : wv (er z) = v := Option.some.inj hv
    subst hv
    exact ev_meth (by wtm_at "ev") hi rfl (by wtm_at "ev") fun H1 e => ⟨a, dx, p, q, x, z, er z, ls, rfl, e _ _ hi, e _ _ hx, ho z (List.mem_of_getElem? hz), rfl⟩
def nm_Shape_is_asking : List Str := ["self", "thing", "name"]
theorem sc_Shape_is_asking : FnScope nm_Shape_is_asking ["self", "thing"] (defScope s_Shape_is_asking) := C8.fnScope_by (by decide +kernel)
theorem ok_is_asking (T : Tx K mg) (M_is_worth : C8.Met P w K mg base 2 (He.ga K "Shape") "is_worth" (PSp (RIsWorth K)) []) : C8.Met P w K mg base 3 (He.ga K "Shape") "is_asking" (PSp (RIsAsk K)) [] := by
  refine T.pfM 55 rfl T.c_Shape T.m_is_asking sc_Shape_is_asking (fun _ _ _ _ _ _ us hl => match us, hl with | [_, _], _ => rfl) (fun vs H r h => ?_) (fun cdv A outer s H vs r E hr h => ?_)
  · obtain ⟨_, _, _, _, _, _, rfl, _⟩ := h
    rfl
  · have nd := sc_Shape_is_asking.nd
    have hu := hu_of hr
    refine ⟨_, (pss_cons (ps_if (PW.pt (pw_or (pt_not (pt_val (pe_callB call_isi (by rfl) T.f_isinstance (by decide +kernel) (pa_cons (pv 1) (pa_cons (pe_bltn (v := .ty "dict") (u := .type "dict") (by rfl) T.f_dict (by decide +kernel) rfl) pa_nil))))) (pw_or1 (pt_cmpR op_ne (pe_callB cr_lenK (by rfl) T.f_len PySem.boot_len (pa_cons (pv 1) pa_nil)) (pe_callB cr_len (by rfl) T.f_len PySem.boot_len (pa_cons (pe_fld (pv 0) rfl) pa_nil)) (nomark _)))))
      (pss_one (ps_ret pe_bl))
      pss_nil)
      (pss_one (ps_ret (pe_callB (cr_all rfl) (by rfl) T.f_all (by decide +kernel) (pa_cons (pe_lc (own := [("name", 2)]) (g := (gName 2)) rfl nd (pi_tup (pe_fld (pv 0) rfl)) (blkOk_by (own := [("name", 2)]) (N := nm_Shape_is_asking) (sc := defScope s_Shape_is_asking) (by decide +kernel)) (fun _ _ _ _ _ => (pg_name (i := 2) nd rfl (Or.inl rfl))) (fun _ _ _ _ _ => pts_nil) (fun _ _ _ _ _ => (pe_and (pe_cmp (pc_din hu (pv 2) (pv 1))) (pe_one (C8.pe_mt M_is_worth hr (by omega) (pv 0) (pa_cons (pv 2) (pa_cons (pe_dget hu (pv 1) (pv 2) (fun _ _ => rfl)) pa_nil))))))) pa_nil))))), ?_⟩
    obtain ⟨a, cs, bs, ls, d, ea, rfl, ⟨dx, p, q, x, hi, hp, hq, hx⟩, ⟨kvs, hd, hkl, hkv⟩, ho, hl, rfl⟩ := h
    have l1 : (strV bs).length = bs.length := List.length_map ..
    refine re_no (et_or_f (et_not_f (et_test (ev_isi (by wtm_at "ev") (.dK hd) kit_dd))) (et_test (ev_ne (ev_lenK (by wtm_at "ev") hd rfl) (ev_lenT (ev_fld (by wtm_at "ev") hi T.c_Shape T.n_own_blanks rfl) hq rfl) rfl (by rw [l1, hkl]; exact ndec_int_eq rfl)))) ?_
    refine re_retV (ev_allT (ei_tup (ev_fld (by wtm_at "ev") hi T.c_Shape T.n_own_blanks rfl) hq) (by rw [l1]; omega) (fun _ => rfl) fun i y hy => ?_)
    obtain ⟨z, hz, rfl⟩ := strV_get hy
    have hm := List.mem_of_getElem? hz
    have hv := hkv z hm
    refine ev_and_t (ev_din (by wtm_at "ev") (by wtm_at "ev") hd (by rw [hv]; rfl)) ?_
    exact ev_meth (by wtm_at "ev") hi rfl (ea_cons (by wtm_at "ev") (ea_cons (ev_dgetS (by wtm_at "ev") (by wtm_at "ev") hd hv) ea_nil)) fun H1 e => ⟨a, dx, p, q, x, z, ea z, ls, rfl, e _ _ hi, e _ _ hx, ho z hm, rfl⟩
end
end Ot
namespace Ot
open PySem PySem.Spec PyProof.Rows L2 Evl
local macro_rules | `(tactic| wtm_at "dc") => `(tactic| first
  | ((with_reducible apply dd_f); decide +kernel)
  | ((with_reducible apply dd_t); decide +kernel)
  | ((with_reducible apply dn_f); decide +kernel)
  | ((with_reducible apply dn_t); decide +kernel)
  | (with_reducible exact dec_int_non)
  | (with_reducible exact dec_bl_non)
  | (with_reducible exact dec_ref_non)
  | (with_reducible exact dec_str_non)
  | (with_reducible exact dec_str_ne (by assumption))
  | (with_reducible exact dec_str_eq (by assumption))
  | (with_reducible exact ndec_str_ne (by assumption))
  | (with_reducible exact ndec_str_eq (by assumption))
  | (with_reducible exact dec_int_ne (by omega))
  | (with_reducible exact dec_int_eq (by omega))
  | (with_reducible exact ndec_int_ne (by omega))
  | (with_reducible exact ndec_int_eq (by omega)))
local macro_rules | `(tactic| wtm_at "ic") => `(tactic| first
  | ((with_reducible apply iv_f); decide +kernel)
  | ((with_reducible apply iv_t); decide +kernel)
  | ((with_reducible apply ivn_f); decide +kernel)
  | ((with_reducible apply ivn_t); decide +kernel))
local macro_rules | `(tactic| wtm_at "iv") => `(tactic| first
  | exact bl_true (by omega)
  | exact bl_false (by omega)
  | rfl)
local macro_rules | `(tactic| wtm_at "ln") => `(tactic| first
  | (with_reducible exact ln0) | (with_reducible exact ln1) | (with_reducible exact ln2) | (with_reducible exact ln3) | (with_reducible exact ln4) | rfl)
local macro_rules | `(tactic| wtm_at "nb") => `(tactic| first
  | (with_reducible exact nb_t)
  | (with_reducible exact nb_f))
local macro_rules | `(tactic| wtm_at "kt") => `(tactic| first
  | (with_reducible exact kit_tt) | (with_reducible exact kit_ss) | (with_reducible exact kit_ii) | (with_reducible exact kit_ib) | (with_reducible exact kit_ni) | (with_reducible exact kit_dd) | (with_reducible exact kit_ll))
local macro_rules | `(tactic| wtm_at "vt") => `(tactic| first
  | exact .str | exact .int | exact .non | exact .bl | exact .tup (by assumption) | exact .lst (by assumption) | exact .dK (by assumption))
local macro_rules | `(tactic| wtm_at "sv") => `(tactic| assumption)
local macro_rules | `(tactic| wtm_at "ct") => `(tactic| first
  | (with_reducible exact ct_f)
  | ((with_reducible apply ct_t); wtm_at "ev")
  | (with_reducible exact cf_t)
  | ((with_reducible apply cf_f); wtm_at "ev")
  | (with_reducible exact ctv_f)
  | ((with_reducible apply ctv_t); wtm_at "ev")
  | (with_reducible exact cfv_t)
  | ((with_reducible apply cfv_f); wtm_at "ev")
  | ((with_reducible apply ci_t); wtm_at "ev")
  | ((with_reducible apply ci_f); wtm_at "ev"))
local macro_rules | `(tactic| wtm_at "ev") => `(tactic| first
  | ((with_reducible apply ev_var); rfl)
  | (with_reducible exact ev_c)
  | (with_reducible exact ea_nil)
  | ((with_reducible apply ea_cons) <;> wtm_at "ev")
  | ((with_reducible apply ev_ixT); (wtm_at "ev"); (wtm_at "ev"); assumption; rfl)
  | ((with_reducible apply ev_dgetS); (wtm_at "ev"); (wtm_at "ev"); assumption; assumption)
  | ((with_reducible apply ev_lenT); (wtm_at "ev"); assumption; (wtm_at "ln"))
  | ((with_reducible apply ev_isi); (wtm_at "ev"); (wtm_at "vt"); (wtm_at "kt"))
  | ((with_reducible apply ev_eq); (wtm_at "ev"); (wtm_at "ev"); rfl; (wtm_at "dc"))
  | ((with_reducible apply ev_ne); (wtm_at "ev"); (wtm_at "ev"); rfl; (wtm_at "dc"))
  | ((with_reducible apply ev_isN); (wtm_at "ev"); (wtm_at "dc"))
  | ((with_reducible apply ev_notN); (wtm_at "ev"); (wtm_at "dc"))
  | ((with_reducible apply ev_int0); (wtm_at "ev"); (wtm_at "ev"); (wtm_at "iv"))
  | ((with_reducible apply ev_niN); (wtm_at "ev"); (wtm_at "ev"); rfl; rfl; (wtm_at "ic"))
  | ((with_reducible apply ev_inN); (wtm_at "ev"); (wtm_at "ev"); rfl; rfl; (wtm_at "ic"))
  | ((with_reducible apply eu_tup); (wtm_at "ev"); simp)
  | ((with_reducible apply el_lst); (wtm_at "ev"); simp)
  | ((with_reducible apply ev_callP); (wtm_at "ev"); (wtm_at "sv"))
  | ((with_reducible apply et_test); wtm_at "ev")
  | ((with_reducible apply et_B); wtm_at "ev")
  | ((with_reducible apply ev_andG); (wtm_at "ev"); (wtm_at "ct"))
  | ((with_reducible apply ev_orG); (wtm_at "ev"); (wtm_at "ct"))
  | ((with_reducible apply ev_notG); (wtm_at "ev"); (wtm_at "nb"))
  | ((with_reducible apply et_andG); (wtm_at "ev"); (wtm_at "ct"))
  | ((with_reducible apply et_orG); (wtm_at "ev"); (wtm_at "ct"))
  | ((with_reducible apply et_notG); (wtm_at "ev"); (wtm_at "nb"))
  | ((with_reducible apply ev_ifG); (wtm_at "ev"); (wtm_at "ct"))
  | assumption)
local macro_rules | `(tactic| wtm_at "re") => `(tactic| first
  | ((with_reducible apply re_ifG); (wtm_at "ev"); first | ((with_reducible apply ci_t); wtm_at "re") | ((with_reducible apply ci_f); wtm_at "re"))
  | ((with_reducible apply re_retV); wtm_at "ev")
  | ((with_reducible apply re_asgV); (wtm_at "ev"); (wtm_at "re"))
  | ((with_reducible apply re_par); (wtm_at "ev"); (wtm_at "re")))
local macro_rules | `(tactic| wtm_at "rs") => `(tactic| repeat ((with_reducible apply re_ifG); (wtm_at "ev"); first | (with_reducible apply ci_t) | (with_reducible apply ci_f)))


/-! ### arguments that are made on the way -/
def EvAP (ta : TA) (σ : L2.St) (H : Hp) (Pv : List V → Hp → Prop) : Prop := ∀ H1, Ex H H1 → ∀ Q : List V → Hp → Prop, (∀ vs H2, Ex H1 H2 → Pv vs H2 → Q vs H2) → ta σ H1 Q
section
variable {K : PySem.W.Frag} {σ : L2.St} {H : Hp} {t t2 te : TE} {tr ta : TA} {x v : V} {vs dvs : List V} {o : HO} {r : Res} {R : Rel} {E : XK} {tz : TS} {Pv : List V → Hp → Prop}
theorem eap_of (h : EvA ta σ H vs) : EvAP ta σ H (fun ws _ => ws = vs) := fun H1 e Q q => h H1 e _ fun H2 e2 => q vs H2 e2 rfl
theorem eap_new (h : EvR t σ H (.new o)) (hr : EvA tr σ H vs) : EvAP (tCons t tr) σ H (fun ws H' => ∃ p, ws = .ref p :: vs ∧ H' p = some o) := fun H1 e Q q => h H1 e _ fun z H2 e2 ⟨p, hz, _, h2⟩ =>
  hr H2 (e.trans e2) _ fun H3 e3 => q _ H3 (e2.trans e3) ⟨p, by rw [hz], e3 _ _ h2⟩
theorem eap_xn (hx : Ev t σ H x) (h : EvR t2 σ H (.new o)) : EvAP (tCons t (tCons t2 tNil)) σ H (fun ws H' => ∃ p, ws = [x, .ref p] ∧ H' p = some o) := fun H1 e Q q => hx H1 e _ fun H2 e2 =>
  h H2 (e.trans e2) _ fun z H3 e3 ⟨p, hz, _, h3⟩ => q _ H3 (e2.trans e3) ⟨p, by rw [hz], h3⟩
theorem eap_sm {Pz : V → Hp → Prop} (h : EvR t σ H (.sm Pz)) (hr : EvA tr σ H vs) : EvAP (tCons t tr) σ H (fun ws H' => ∃ z H1, ws = z :: vs ∧ Pz z H1 ∧ Ex H1 H') := fun H1 e Q q => h H1 e _ fun z H2 e2 hz =>
  hr H2 (e.trans e2) _ fun H3 e3 => q _ H3 (e2.trans e3) ⟨z, H2, rfl, hz, e3⟩
theorem er_callA (h : EvAP ta σ H Pv) (hs : ∀ vs H1, Ex H H1 → Pv vs H1 → R (vs ++ dvs) H1 r) : EvR (tCall (PSp R) dvs E ta) σ H r := fun H1 e Q q => h H1 e _ fun vs H2 e2 hp => by
  show PSp R (vs ++ dvs) H2 Q E
  exact ⟨r, hs vs H2 (e.trans e2) hp, fun z H3 e3 hz => q z H3 (e2.trans e3) (Res.anti e2 hz)⟩
theorem ev_callA (h : EvAP ta σ H Pv) (hs : ∀ vs H1, Ex H H1 → Pv vs H1 → R (vs ++ dvs) H1 (.val v)) : Ev (tCall (PSp R) dvs E ta) σ H v := ev_er (er_callA h hs)
/-- a def that falls off its end, called -/
theorem ev_callN {R : Pre} (h : EvA ta σ H vs) (hs : ∀ H1, Ex H H1 → R (vs ++ dvs) H1) : Ev (tCall (PN R) dvs E ta) σ H .non := ev_callA (eap_of h) fun ws H1 e hw => by
  subst hw
  exact ⟨hs H1 e, rfl⟩
theorem re_drop (h : Ev te σ H v) (k : RR tz σ H r) : RR (tSeq (tDrop te) tz) σ H r := fun D H1 e q => h H1 e _ fun H2 e2 => k D H2 (e.trans e2) fun z H3 e3 hz => q z H3 (e2.trans e3) (Res.anti e2 hz)
/-- a tuple and another, behind one another -/
theorem er_catT {ta tb : TE} {a b : Addr} {xs ys : List V} (ha : Ev ta σ H (.ref a)) (hb : Ev tb σ H (.ref b)) (hx : Tp H a xs) (hy : Tp H b ys) (hn : xs ≠ []) (hl : xs.length + ys.length ≤ 1000) : EvR (tOp (rCatT K) ta tb) σ H (.sm fun z H' => ∃ p, z = .ref p ∧ Tp H' p (xs ++ ys)) := fun H1 e Q q =>
  ha H1 e _ fun H2 e2 => hb H2 (e.trans e2) _ fun H3 e3 => ⟨a, b, xs, ys, rfl, rfl, st_of ((e.trans (e2.trans e3)) _ _ hx), st_of ((e.trans (e2.trans e3)) _ _ hy), hn, sz_of (by omega), fun hy0 => q _ H3 (e2.trans e3) ⟨a, rfl, by
    rw [hy0, List.append_nil]
    exact (e.trans (e2.trans e3)) _ _ hx⟩, fun _ p hp => q _ _ ((e2.trans e3).trans (Ex.new hp)) ⟨p, rfl, upd_same⟩⟩
theorem er_re (h : EvR te σ H r) : RR (tRet te) σ H r := re_ret h
end
section
variable {P : Program} {w : World} {K : PySem.W.Frag} {mg : Str → Option Value} {base : Heap}
/-- .. with defaults -/
theorem Tx.pnD (T : Tx K mg) (i j : Nat) {x : Str} {st : Stmt} {dfl : List He.Dv} {dvs : List V} {N ps : List Str} {k : Nat} {R : Pre} (hd : fns[i]? = some (dG x st dfl)) (hg : fas[j]? = some (.glo x)) (S : FnScope N ps (defScope st))
    (bi : ∀ fd, FunD K x x (defArgs st) (defBody st) (defScope st) (dfl.map (He.Dv.v K)) [] (He.ga K x) fd → ∃ ds, Vals dvs ds ∧ Binds K fd ps ds) (len : ∀ vs H, R vs H → vs.length = ps.length)
    (body : ∀ (cdv : Value) (A : Around) (outer : List Env) (s : Shared) (H : Hp) (vs : List V) (E : XK), Room k (A.deeper (envOfC x (defScope st) s.heap.objs.size (He.ga K x) cdv)) → R vs H →
      ∃ t, PSs (cxOf CX0 P w K mg base N x (defScope st) (He.ga K x) cdv A outer s H E).nox (defBody st) t ∧ FR t (start N vs) H) : C8.Cal P w K mg base (k + 1) x (PN R) dvs := by
  obtain ⟨fd, F⟩ := saysO_def T.says i hd
  obtain ⟨ds, h1, h2⟩ := bi fd F
  refine ⟨_, fd, ps, ds, F.ok S (fun vs H Q E h => ?_) fun cdv A outer s H vs Q E hr h => ?_, T.glo j hg, F.kp, h2, h1⟩
  · obtain ⟨r, h, _⟩ := h
    exact len vs H h.1
  · obtain ⟨r, ⟨h, hr0⟩, q⟩ := h
    subst hr0
    obtain ⟨t, h1, h2⟩ := body cdv A outer s H vs E hr h
    exact ⟨t, h1.nox, h2 _ H (Ex.refl H) fun H2 e2 => q .non H2 e2 rfl⟩
def nm_need_shape : List Str := ["shape"]
theorem sc_need_shape : FnScope nm_need_shape ["shape"] (defScope s_need_shape) := C8.fnScope_by (by decide +kernel)
theorem ok_need_shape (T : Tx K mg) : C8.Cal P w K mg base 1 "need_shape" (PN (PShape K)) [] := by
  refine T.pn 5 5 rfl rfl sc_need_shape (fun _ _ _ _ _ _ us hl => match us, hl with | [_], _ => rfl) (fun vs H h => ?_) (fun cdv A outer s H vs E hr h => ?_)
  · obtain ⟨_, _, _, _, rfl, _⟩ := h
    rfl
  · have nd := sc_need_shape.nd
    refine ⟨_, (pss_one (ps_if (pt_not (pt_val (pe_callB (cr_isC T.is_Shape) (by rfl) T.f_isinstance (by decide +kernel) (pa_cons (pv 0) (pa_cons (pe_glob (v := .ref (He.ga K "Shape")) (by rfl) T.g_Shape rfl) pa_nil)))))
      (pss_one ps_never)
      pss_nil)), ?_⟩
    obtain ⟨a, cs, bs, ls, rfl, dx, p, q, x, hi, _⟩ := h
    exact fr_no (et_not_f (et_test (ev_isC (by wtm_at "ev") hi)))
def nm_need_row : List Str := ["shape", "row"]
theorem sc_need_row : FnScope nm_need_row ["shape", "row"] (defScope s_need_row) := C8.fnScope_by (by decide +kernel)
theorem ok_need_row (T : Tx K mg) (M_is_row : C8.Met P w K mg base 3 (He.ga K "Shape") "is_row" (PSp (RIsRow K)) []) : C8.Cal P w K mg base 4 "need_row" (PN (PRow K)) [] := by
  refine T.pn 6 6 rfl rfl sc_need_row (fun _ _ _ _ _ _ us hl => match us, hl with | [_, _], _ => rfl) (fun vs H h => ?_) (fun cdv A outer s H vs E hr h => ?_)
  · obtain ⟨_, _, _, _, _, _, rfl, _⟩ := h
    rfl
  · have nd := sc_need_row.nd
    refine ⟨_, (pss_one (ps_if (pt_not (pt_val (C8.pe_mt M_is_row hr (by omega) (pv 0) (pa_cons (pv 1) pa_nil))))
      (pss_one ps_never)
      pss_nil)), ?_⟩
    obtain ⟨a, cs, bs, ls, t, er, rfl, hs, ht, ho, hl⟩ := h
    obtain ⟨dx, p, q, x, hi, _⟩ := id hs
    exact fr_no (et_not_f (et_test (ev_meth (by wtm_at "ev") hi rfl (by wtm_at "ev") fun H1 e => ⟨a, cs, bs, ls, t, er, rfl, hs.same e, e _ _ ht, ho, hl, rfl⟩)))
def nm_need_asking : List Str := ["shape", "asking"]
theorem sc_need_asking : FnScope nm_need_asking ["shape", "asking"] (defScope s_need_asking) := C8.fnScope_by (by decide +kernel)
theorem ok_need_asking (T : Tx K mg) (M_is_asking : C8.Met P w K mg base 3 (He.ga K "Shape") "is_asking" (PSp (RIsAsk K)) []) : C8.Cal P w K mg base 4 "need_asking" (PN (PAsk K)) [] := by
  refine T.pn 7 7 rfl rfl sc_need_asking (fun _ _ _ _ _ _ us hl => match us, hl with | [_, _], _ => rfl) (fun vs H h => ?_) (fun cdv A outer s H vs E hr h => ?_)
  · obtain ⟨_, _, _, _, _, _, rfl, _⟩ := h
    rfl
  · have nd := sc_need_asking.nd
    refine ⟨_, (pss_one (ps_if (pt_not (pt_val (C8.pe_mt M_is_asking hr (by omega) (pv 0) (pa_cons (pv 1) pa_nil))))
      (pss_one ps_never)
      pss_nil)), ?_⟩
    obtain ⟨a, cs, bs, ls, t, er, rfl, hs, ht, ho, hl⟩ := h
    obtain ⟨dx, p, q, x, hi, _⟩ := id hs
    exact fr_no (et_not_f (et_test (ev_meth (by wtm_at "ev") hi rfl (by wtm_at "ev") fun H1 e => ⟨a, cs, bs, ls, t, er, rfl, hs.same e, ht.same e, ho, hl, rfl⟩)))
def nm_row_worths : List Str := ["shape", "row"]
theorem sc_row_worths : FnScope nm_row_worths ["shape", "row"] (defScope s_row_worths) := C8.fnScope_by (by decide +kernel)
theorem ok_row_worths (T : Tx K mg) (P_columns : Prp P w K mg base 1 (He.ga K "Shape") "columns" (PSp (RCol K))) : C8.Cal P w K mg base 3 "row_worths" (PSp (RRowW K)) [] := by
  refine T.pf 8 8 rfl rfl sc_row_worths (fun _ _ _ _ _ _ us hl => match us, hl with | [_, _], _ => rfl) (fun vs H r h => ?_) (fun cdv A outer s H vs r E hr h => ?_)
  · obtain ⟨_, _, _, _, _, _, rfl, _⟩ := h
    rfl
  · have nd := sc_row_worths.nd
    refine ⟨_, (pss_one (ps_ret (pe_dictZip (by rfl) T.f_dict (by rfl) T.f_zip (pe_pr P_columns hr (by omega) (pv 0) rfl) (pv 1)))), ?_⟩
    obtain ⟨a, cs, bs, ls, t, er, rfl, ⟨dx, p, q, x, hi, hp, hq, hx⟩, ht, hn, rfl⟩ := h
    have hz : wD cs er = mergeK [] ((kS cs).zip (cs.map fun z => wv (er z))) := by
      rw [kS_zip, mergeK_nodup _ _ (by rw [List.nil_append, wD_keys]; exact kS_nodup hn), List.nil_append]
    rw [hz]
    exact re_ret (er_dictZip (ev_prop (by wtm_at "ev") hi fun H1 e => ⟨a, dx, p, q, x, rfl, e _ _ hi, rfl⟩) (by wtm_at "ev") (.inl hp) ht (by rw [List.length_map]))
def nm_worths_of : List Str := ["shape", "row", "asking", "name"]
theorem sc_worths_of : FnScope nm_worths_of ["shape", "row", "asking"] (defScope s_worths_of) := C8.fnScope_by (by decide +kernel)
theorem ok_worths_of (T : Tx K mg) (C_row_worths : C8.Cal P w K mg base 3 "row_worths" (PSp (RRowW K)) []) (P_blanks : Prp P w K mg base 1 (He.ga K "Shape") "blanks" (PSp (RBla K))) : C8.Cal P w K mg base 4 "worths_of" (PSp (RWof K)) [] := by
  refine T.pf 9 9 rfl rfl sc_worths_of (fun _ _ _ _ _ _ us hl => match us, hl with | [_, _, _], _ => rfl) (fun vs H r h => ?_) (fun cdv A outer s H vs r E hr h => ?_)
  · obtain ⟨_, _, _, _, _, _, _, _, rfl, _⟩ := h
    rfl
  · have nd := sc_worths_of.nd
    have hu := hu_of hr
    refine ⟨_, (pss_one (ps_ret (pe_merge2 (C8.pe_c C_row_worths hr (by omega) (by rfl) (pa_cons (pv 0) (pa_cons (pv 1) pa_nil))) (pe_dc (own := [("name", 3)]) (g := (gName 3)) rfl nd (pi_tup (pe_pr P_blanks hr (by omega) (pv 0) rfl)) (blkOk_by (own := [("name", 3)]) (N := nm_worths_of) (sc := defScope s_worths_of) (by decide +kernel)) (fun _ _ _ _ _ => (pg_name (i := 3) nd rfl (Or.inl rfl))) (fun _ _ _ _ _ => pts_nil) (fun _ _ _ _ _ => (pv 3)) (fun _ _ _ _ _ => (pe_dget hu (pv 2) (pv 3) (fun _ _ => rfl))))))), ?_⟩
    obtain ⟨a, cs, bs, ls, t, er, d, ea, rfl, hs, ht, ⟨kvs, hd, hkl, hkv⟩, hn, hl, rfl⟩ := h
    obtain ⟨dx, p, q, x, hi, hp, hq, hx⟩ := id hs
    have n1 : cs.Nodup := (List.nodup_append.mp hn).1
    have n2 : bs.Nodup := (List.nodup_append.mp hn).2.1
    have l1 : (strV bs).length = bs.length := List.length_map ..
    have hz : wD (cs ++ bs) (mixW cs er ea) = wD cs er ++ wD bs ea := by
      have a1 : wD cs (mixW cs er ea) = wD cs er := List.map_congr_left fun z hz => by rw [mixW, if_pos hz]
      have a2 : wD bs (mixW cs er ea) = wD bs ea := List.map_congr_left fun z hz => by
        have : z ∉ cs := fun hc => (List.nodup_append.mp hn).2.2 z hc z hz rfl
        rw [mixW, if_neg this]
      show List.map _ _ = _
      rw [List.map_append]
      exact congr (congrArg _ a1) a2
    rw [hz]
    refine fun D H1 e1 fin => re_ret (r := .fr fun p' H' => ∃ kb, Dk H' p' (wD cs er ++ kb) ∧ kb = wD bs ea) (er_merge2 (ka := wD cs er) (P2 := fun kb => kb = wD bs ea)
      (fun H2 e2 => er_call (by wtm_at "ev") fun H3 e3 => ⟨a, cs, bs, ls, t, er, rfl, hs.same (e2.trans e3), (e2.trans e3) _ _ ht, n1, rfl⟩)
      (fun H2 e2 => ?_) fun kb hk => ?_) D H1 e1 fun z H4 e4 ⟨b, hb, hb1, kb, hb2, hb3⟩ => fin z H4 e4 ⟨b, hb, hb1, by rw [← hb3]; exact hb2⟩
    · have h0 := er_dcV (σ := start nm_worths_of [.ref a, .ref t, .ref d]) (H := H2) (ks := kS bs) (zs := bs.map fun z => wv (ea z)) (vs := [3]) (j := 3) (tk := tVar 3) (tv := tDGet (tVar 2) (tVar 3)) (ei_tup (K := K) (ev_prop (E := C8.E0) (C := He.ga K "Shape") (R := RBla K) (ta := tVar 0) (by wtm_at "ev") (e2 _ _ hi) fun H3 e3 => ⟨a, dx, p, q, x, rfl, e3 _ _ (e2 _ _ hi), rfl⟩) (e2 _ _ hq)) (by rw [l1]; omega) (by rw [l1, List.length_map]) (by rw [l1, List.length_map]) (kS_nodup n2) (fun _ => rfl)
        (fun i y k hy hk => by
          obtain ⟨z, hz, rfl⟩ := strV_get hy
          rw [List.getElem?_map, hz] at hk
          have hk : (Sum.inr z : Key) = k := Option.some.inj hk
          subst hk
          exact (show Ev _ _ _ (.str z) from by wtm_at "ev"))
        (fun i y k v hy hk hv => by
          obtain ⟨z, hz, rfl⟩ := strV_get hy
          rw [List.getElem?_map, hz] at hv
          have hv : wv (ea z) = v := Option.some.inj hv
          subst hv
          exact ev_dgetS (by wtm_at "ev") (by wtm_at "ev") (e2 _ _ hd) (hkv z (List.mem_of_getElem? hz)))
      rw [kS_zip] at h0
      exact fun H3 e3 Q q => h0 H3 e3 Q fun z H4 e4 ⟨b, hb, hb1, hb2⟩ => q z H4 e4 ⟨b, hb, hb1, wD bs ea, hb2, rfl⟩
    · subst hk
      refine ⟨?_, by rw [List.length_map, List.length_map]; exact hl⟩
      rw [List.map_append, wD_keys, wD_keys, ← List.map_append]
      exact kS_nodup hn
end
end Ot
namespace Ot
open PySem PySem.Spec PyProof.Rows L2 Evl
local macro_rules | `(tactic| wtm_at "dc") => `(tactic| first
  | ((with_reducible apply dd_f); decide +kernel)
  | ((with_reducible apply dd_t); decide +kernel)
  | ((with_reducible apply dn_f); decide +kernel)
  | ((with_reducible apply dn_t); decide +kernel)
  | (with_reducible exact dec_int_non)
  | (with_reducible exact dec_bl_non)
  | (with_reducible exact dec_ref_non)
  | (with_reducible exact dec_str_non)
  | (with_reducible exact dec_str_ne (by assumption))
  | (with_reducible exact dec_str_eq (by assumption))
  | (with_reducible exact ndec_str_ne (by assumption))
  | (with_reducible exact ndec_str_eq (by assumption))
  | (with_reducible exact dec_int_ne (by omega))
  | (with_reducible exact dec_int_eq (by omega))
  | (with_reducible exact ndec_int_ne (by omega))
  | (with_reducible exact ndec_int_eq (by omega)))
local macro_rules | `(tactic| wtm_at "ic") => `(tactic| first
  | ((with_reducible apply iv_f); decide +kernel)
  | ((with_reducible apply iv_t); decide +kernel)
  | ((with_reducible apply ivn_f); decide +kernel)
  | ((with_reducible apply ivn_t); decide +kernel))
local macro_rules | `(tactic| wtm_at "iv") => `(tactic| first
  | exact bl_true (by omega)
  | exact bl_false (by omega)
  | rfl)
local macro_rules | `(tactic| wtm_at "ln") => `(tactic| first
  | (with_reducible exact ln0) | (with_reducible exact ln1) | (with_reducible exact ln2) | (with_reducible exact ln3) | (with_reducible exact ln4) | rfl)
local macro_rules | `(tactic| wtm_at "nb") => `(tactic| first
  | (with_reducible exact nb_t)
  | (with_reducible exact nb_f))
local macro_rules | `(tactic| wtm_at "kt") => `(tactic| first
  | (with_reducible exact kit_tt) | (with_reducible exact kit_ss) | (with_reducible exact kit_ii) | (with_reducible exact kit_ib) | (with_reducible exact kit_ni) | (with_reducible exact kit_dd) | (with_reducible exact kit_ll))
local macro_rules | `(tactic| wtm_at "vt") => `(tactic| first
  | exact .str | exact .int | exact .non | exact .bl | exact .tup (by assumption) | exact .lst (by assumption) | exact .dK (by assumption))
local macro_rules | `(tactic| wtm_at "sv") => `(tactic| assumption)
local macro_rules | `(tactic| wtm_at "ct") => `(tactic| first
  | (with_reducible exact ct_f)
  | ((with_reducible apply ct_t); wtm_at "ev")
  | (with_reducible exact cf_t)
  | ((with_reducible apply cf_f); wtm_at "ev")
  | (with_reducible exact ctv_f)
  | ((with_reducible apply ctv_t); wtm_at "ev")
  | (with_reducible exact cfv_t)
  | ((with_reducible apply cfv_f); wtm_at "ev")
  | ((with_reducible apply ci_t); wtm_at "ev")
  | ((with_reducible apply ci_f); wtm_at "ev"))
local macro_rules | `(tactic| wtm_at "ev") => `(tactic| first
  | ((with_reducible apply ev_var); rfl)
  | (with_reducible exact ev_c)
  | (with_reducible exact ea_nil)
  | ((with_reducible apply ea_cons) <;> wtm_at "ev")
  | ((with_reducible apply ev_ixT); (wtm_at "ev"); (wtm_at "ev"); assumption; rfl)
  | ((with_reducible apply ev_dgetS); (wtm_at "ev"); (wtm_at "ev"); assumption; assumption)
  | ((with_reducible apply ev_lenT); (wtm_at "ev"); assumption; (wtm_at "ln"))
  | ((with_reducible apply ev_isi); (wtm_at "ev"); (wtm_at "vt"); (wtm_at "kt"))
  | ((with_reducible apply ev_eq); (wtm_at "ev"); (wtm_at "ev"); rfl; (wtm_at "dc"))
  | ((with_reducible apply ev_ne); (wtm_at "ev"); (wtm_at "ev"); rfl; (wtm_at "dc"))
  | ((with_reducible apply ev_isN); (wtm_at "ev"); (wtm_at "dc"))
  | ((with_reducible apply ev_notN); (wtm_at "ev"); (wtm_at "dc"))
  | ((with_reducible apply ev_int0); (wtm_at "ev"); (wtm_at "ev"); (wtm_at "iv"))
  | ((with_reducible apply ev_niN); (wtm_at "ev"); (wtm_at "ev"); rfl; rfl; (wtm_at "ic"))
  | ((with_reducible apply ev_inN); (wtm_at "ev"); (wtm_at "ev"); rfl; rfl; (wtm_at "ic"))
  | ((with_reducible apply eu_tup); (wtm_at "ev"); simp)
  | ((with_reducible apply el_lst); (wtm_at "ev"); simp)
  | ((with_reducible apply ev_callP); (wtm_at "ev"); (wtm_at "sv"))
  | ((with_reducible apply et_test); wtm_at "ev")
  | ((with_reducible apply et_B); wtm_at "ev")
  | ((with_reducible apply ev_andG); (wtm_at "ev"); (wtm_at "ct"))
  | ((with_reducible apply ev_orG); (wtm_at "ev"); (wtm_at "ct"))
  | ((with_reducible apply ev_notG); (wtm_at "ev"); (wtm_at "nb"))
  | ((with_reducible apply et_andG); (wtm_at "ev"); (wtm_at "ct"))
  | ((with_reducible apply et_orG); (wtm_at "ev"); (wtm_at "ct"))
  | ((with_reducible apply et_notG); (wtm_at "ev"); (wtm_at "nb"))
  | ((with_reducible apply ev_ifG); (wtm_at "ev"); (wtm_at "ct"))
  | assumption)
local macro_rules | `(tactic| wtm_at "re") => `(tactic| first
  | ((with_reducible apply re_ifG); (wtm_at "ev"); first | ((with_reducible apply ci_t); wtm_at "re") | ((with_reducible apply ci_f); wtm_at "re"))
  | ((with_reducible apply re_retV); wtm_at "ev")
  | ((with_reducible apply re_asgV); (wtm_at "ev"); (wtm_at "re"))
  | ((with_reducible apply re_par); (wtm_at "ev"); (wtm_at "re")))
local macro_rules | `(tactic| wtm_at "rs") => `(tactic| repeat ((with_reducible apply re_ifG); (wtm_at "ev"); first | (with_reducible apply ci_t) | (with_reducible apply ci_f)))


/-! ### conditions over a shape -/
structure ShOk (cs bs : List Str) : Prop where
  ne : cs ≠ []
  nd : (cs ++ bs).Nodup
  le : cs.length + bs.length ≤ 1000
/-- a condition that the program takes: at most five deep, at most eight tests -/
structure CdOk (ns : List Str) (c : Cd) : Prop where
  wf : c.Wf ns 5
  nt : c.nt ≤ 8
def RNamesOver (K : PySem.W.Frag) : Rel := fun vs H x => ∃ a cs bs ls, vs = [.ref a, .str "both"] ∧ ShapeAt K H a cs bs ls ∧ ShOk cs bs ∧ x = .sm fun z H' => ∃ p, z = .ref p ∧ Tp H' p (strV (cs ++ bs))
def ROver (K : PySem.W.Frag) : Rel := fun vs H x => ∃ a cs bs ls v c, vs = [.ref a, v, .str "both"] ∧ ShapeAt K H a cs bs ls ∧ ShOk cs bs ∧ CAt H c v ∧ CdOk (cs ++ bs) c ∧ x = .val (.bl true)
def PCond (K : PySem.W.Frag) : Pre := fun vs H => ∃ a cs bs ls v c, vs = [.ref a, v, .str "both"] ∧ ShapeAt K H a cs bs ls ∧ ShOk cs bs ∧ CAt H c v ∧ CdOk (cs ++ bs) c
def RTruthFn (K : PySem.W.Frag) : Rel := fun vs H x => ∃ a cs bs ls v c t er d ea, vs = [.ref a, v, .ref t, .ref d] ∧ ShapeAt K H a cs bs ls ∧ ShOk cs bs ∧ CAt H c v ∧ CdOk (cs ++ bs) c ∧ RowAt H t cs er ∧ WoOk cs ls er ∧ AskAt H d bs ea ∧ WoOk bs ls ea ∧ x = .val (tv (c.truth (mixW cs er ea)))
theorem er_lenNot {K : PySem.W.Frag} {σ : L2.St} {H : Hp} {ta : TE} {xs : List V} {n : Int} (ha : EvL ta σ H xs) (e : (xs.length : Int) = n) : Ev (tCB (rLenS K) (tCons ta tNil)) σ H (.int n) := by
  subst e
  exact ev_lenN ha
section
variable {P : Program} {w : World} {K : PySem.W.Frag} {mg : Str → Option Value} {base : Heap}
def nm_names_over : List Str := ["shape", "over"]
theorem sc_names_over : FnScope nm_names_over ["shape", "over"] (defScope s_names_over) := C8.fnScope_by (by decide +kernel)
theorem ok_names_over (T : Tx K mg) (P_columns : Prp P w K mg base 1 (He.ga K "Shape") "columns" (PSp (RCol K))) (P_blanks : Prp P w K mg base 1 (He.ga K "Shape") "blanks" (PSp (RBla K))) : C8.Cal P w K mg base 3 "names_over" (PSp (RNamesOver K)) [] := by
  refine T.pf 10 10 rfl rfl sc_names_over (fun _ _ _ _ _ _ us hl => match us, hl with | [_, _], _ => rfl) (fun vs H r h => ?_) (fun cdv A outer s H vs r E hr h => ?_)
  · obtain ⟨_, _, _, _, rfl, _⟩ := h
    rfl
  · have nd := sc_names_over.nd
    refine ⟨_, (pss_one (ps_ret (pe_op op_catT (pe_ifExp (pt_cmpR op_ne (pv 1) pe_str (nomark _)) (pe_pr P_columns hr (by omega) (pv 0) rfl) (pe_tup pa_nil)) (pe_ifExp (pt_cmpR op_ne (pv 1) pe_str (nomark _)) (pe_pr P_blanks hr (by omega) (pv 0) rfl) (pe_tup pa_nil))))), ?_⟩
    obtain ⟨a, cs, bs, ls, rfl, ⟨dx, p, q, x, hi, hp, hq, hx⟩, o, rfl⟩ := h
    have hl := o.le
    have h0 := re_ret (er_catT (K := K) (σ := start nm_names_over [.ref a, .str "both"]) (H := H) (ev_if_t (t := tTest (tOp rNe (tVar 1) (tC (.str "blanks")))) (tb := tTup tNil) (et_test (ev_ne (by wtm_at "ev") (by wtm_at "ev") rfl (ndec_str_ne (by decide +kernel)))) (ev_prop (E := C8.E0) (C := He.ga K "Shape") (R := RCol K) (ta := tVar 0) (by wtm_at "ev") hi fun H1 e => ⟨a, dx, p, q, x, rfl, e _ _ hi, rfl⟩))
      (ev_if_t (t := tTest (tOp rNe (tVar 1) (tC (.str "columns")))) (tb := tTup tNil) (et_test (ev_ne (by wtm_at "ev") (by wtm_at "ev") rfl (ndec_str_ne (by decide +kernel)))) (ev_prop (E := C8.E0) (C := He.ga K "Shape") (R := RBla K) (ta := tVar 0) (by wtm_at "ev") hi fun H1 e => ⟨a, dx, p, q, x, rfl, e _ _ hi, rfl⟩)) hp hq (fun z => o.ne (List.map_eq_nil_iff.mp z)) (by rw [List.length_map, List.length_map]; exact o.le))
    have e0 : strV (cs ++ bs) = strV cs ++ strV bs := List.map_append
    rw [e0]
    exact h0
def nm_is_over : List Str := ["shape", "thing", "over"]
theorem sc_is_over : FnScope nm_is_over ["shape", "thing", "over"] (defScope s_is_over) := C8.fnScope_by (by decide +kernel)
theorem ok_is_over (T : Tx K mg) (C_names_over : C8.Cal P w K mg base 3 "names_over" (PSp (RNamesOver K)) []) (C_is_told : C8.Cal P w K mg base 8 "is_told" (PSp (RTold 5)) []) (C_tests_of : C8.Cal P w K mg base 6 "tests_of" (PSp (RTests 5)) []) : C8.Cal P w K mg base 9 "is_over" (PSp (ROver K)) [] := by
  refine T.pf 16 16 rfl rfl sc_is_over (fun _ _ _ _ _ _ us hl => match us, hl with | [_, _, _], _ => rfl) (fun vs H r h => ?_) (fun cdv A outer s H vs r E hr h => ?_)
  · obtain ⟨_, _, _, _, _, _, rfl, _⟩ := h
    rfl
  · have nd := sc_is_over.nd
    refine ⟨_, (pss_one (ps_ret (pe_and (C8.pe_c C_is_told hr (by omega) (by rfl) (pa_cons (C8.pe_c C_names_over hr (by omega) (by rfl) (pa_cons (pv 0) (pa_cons (pv 2) pa_nil))) (pa_cons (pv 1) (pa_cons (C8.pe_gc (by rfl) T.v_MOST_DEEP) pa_nil)))) (pe_one (pe_cmpR op_le (pe_callB cr_len (by rfl) T.f_len PySem.boot_len (pa_cons (C8.pe_c C_tests_of hr (by omega) (by rfl) (pa_cons (pv 1) pa_nil)) pa_nil)) (C8.pe_gc (by rfl) T.v_MOST_TESTS) (nomark _)))))), ?_⟩
    obtain ⟨a, cs, bs, ls, v, c, rfl, hs, o, hc, ⟨hw, hn⟩, rfl⟩ := h
    obtain ⟨ts, ht, hl⟩ := hc.tests
    refine re_retV (ev_and_t (ev_callA (eap_sm (er_call (by wtm_at "ev") fun H1 e => ⟨a, cs, bs, ls, rfl, hs.same e, o, rfl⟩) (by wtm_at "ev")) ?_) ?_)
    · rintro ws H1 e ⟨z, H2, hz, ⟨p, hp, hp2⟩, e2⟩
      exact ⟨p, cs ++ bs, v, c, by rw [hz, hp]; rfl, e2 _ _ hp2, hc.same e, hw, rfl⟩
    exact ev_int0 (er_lenNot (el_er (er_call (by wtm_at "ev") fun H1 e => ⟨v, c, cs ++ bs, ts, rfl, ht.same e, hw, by omega, rfl⟩)) rfl) (by wtm_at "ev") (bl_true (by omega))
def nm_need_condition : List Str := ["shape", "thing", "over"]
theorem sc_need_condition : FnScope nm_need_condition ["shape", "thing", "over"] (defScope s_need_condition) := C8.fnScope_by (by decide +kernel)
theorem ok_need_condition (T : Tx K mg) (C_is_over : C8.Cal P w K mg base 9 "is_over" (PSp (ROver K)) []) : C8.Cal P w K mg base 10 "need_condition" (PN (PCond K)) [.str "both"] := by
  refine T.pnD 17 17 rfl rfl sc_need_condition ?_ (fun vs H h => ?_) (fun cdv A outer s H vs E hr h => ?_)
  · intro fd F
    obtain ⟨ds, h1, h2⟩ := F.binds1 (ps := ["shape", "thing", "over"]) 2 0 (by simp) (by simp) fun T kV doc pm an cdv ct us its hl hi => match us, its, hl, hi with
      | [_, _], [_], _, _ => by
        refine ⟨?k, ?h1, ?h2⟩
        case h1 =>
          unfold bindArgs
          simp only [List.forIn_nil, pure_bind]
          rfl
        case h2 => rfl
    exact ⟨ds, h1, h2⟩
  · obtain ⟨_, _, _, _, _, _, rfl, _⟩ := h
    rfl
  · have nd := sc_need_condition.nd
    refine ⟨_, (pss_one (ps_if (pt_not (pt_val (C8.pe_c C_is_over hr (by omega) (by rfl) (pa_cons (pv 0) (pa_cons (pv 1) (pa_cons (pv 2) pa_nil))))))
      (pss_one ps_never)
      pss_nil)), ?_⟩
    obtain ⟨a, cs, bs, ls, v, c, rfl, hs, o, hc, hok⟩ := h
    exact fr_no (et_not_f (et_test (ev_callP (by wtm_at "ev") fun H1 e => ⟨a, cs, bs, ls, v, c, rfl, hs.same e, o, hc.same e, hok, rfl⟩)))
def nm_truth : List Str := ["shape", "condition", "row", "asking"]
theorem sc_truth : FnScope nm_truth ["shape", "condition", "row", "asking"] (defScope s_truth) := C8.fnScope_by (by decide +kernel)
theorem ok_truth (T : Tx K mg) (C_need_shape : C8.Cal P w K mg base 1 "need_shape" (PN (PShape K)) []) (C_need_condition : C8.Cal P w K mg base 10 "need_condition" (PN (PCond K)) [.str "both"]) (C_need_row : C8.Cal P w K mg base 4 "need_row" (PN (PRow K)) []) (C_need_asking : C8.Cal P w K mg base 4 "need_asking" (PN (PAsk K)) [])
    (C_truth_of : C8.Cal P w K mg base 7 "truth_of" (PSp (RTruth 5)) []) (C_worths_of : C8.Cal P w K mg base 4 "worths_of" (PSp (RWof K)) []) : C8.Cal P w K mg base 11 "truth" (PSp (RTruthFn K)) [] := by
  refine T.pf 20 20 rfl rfl sc_truth (fun _ _ _ _ _ _ us hl => match us, hl with | [_, _, _, _], _ => rfl) (fun vs H r h => ?_) (fun cdv A outer s H vs r E hr h => ?_)
  · obtain ⟨_, _, _, _, _, _, _, _, _, _, rfl, _⟩ := h
    rfl
  · have nd := sc_truth.nd
    refine ⟨_, (pss_cons (ps_expr (C8.pe_c C_need_shape hr (by omega) (by rfl) (pa_cons (pv 0) pa_nil)))
      (pss_cons (ps_expr (C8.pe_c C_need_condition hr (by omega) (by rfl) (pa_cons (pv 0) (pa_cons (pv 1) pa_nil))))
      (pss_cons (ps_expr (C8.pe_c C_need_row hr (by omega) (by rfl) (pa_cons (pv 0) (pa_cons (pv 2) pa_nil))))
      (pss_cons (ps_expr (C8.pe_c C_need_asking hr (by omega) (by rfl) (pa_cons (pv 0) (pa_cons (pv 3) pa_nil))))
      (pss_one (ps_ret (C8.pe_c C_truth_of hr (by omega) (by rfl) (pa_cons (pv 1) (pa_cons (C8.pe_c C_worths_of hr (by omega) (by rfl) (pa_cons (pv 0) (pa_cons (pv 2) (pa_cons (pv 3) pa_nil)))) pa_nil))))))))), ?_⟩
    obtain ⟨a, cs, bs, ls, v, c, t, er, d, ea, rfl, hs, o, hc, hok, ht, hto, hd, hdo, rfl⟩ := h
    have hl := o.le
    refine re_drop (ev_callN (by wtm_at "ev") fun H1 e => ⟨a, cs, bs, ls, rfl, hs.same e⟩) ?_
    refine re_drop (ev_callN (by wtm_at "ev") fun H1 e => ⟨a, cs, bs, ls, v, c, rfl, hs.same e, o, hc.same e, hok⟩) ?_
    refine re_drop (ev_callN (by wtm_at "ev") fun H1 e => ⟨a, cs, bs, ls, t, er, rfl, hs.same e, e _ _ ht, hto, by omega⟩) ?_
    refine re_drop (ev_callN (by wtm_at "ev") fun H1 e => ⟨a, cs, bs, ls, d, ea, rfl, hs.same e, hd.same e, hdo, by omega⟩) ?_
    refine re_retV (ev_callA (eap_xn (by wtm_at "ev") (er_call (by wtm_at "ev") fun H1 e => ⟨a, cs, bs, ls, t, er, d, ea, rfl, hs.same e, e _ _ ht, hd.same e, o.nd, o.le, rfl⟩)) ?_)
    rintro ws H1 e ⟨p, hp, hp2⟩
    exact ⟨v, c, cs ++ bs, p, _, mixW cs er ea, by rw [hp]; rfl, hc.same e, hok.wf, hp2, fun x hx => wD_val hx, rfl⟩
end
end Ot
namespace Ot
open PySem PySem.Spec PyProof.Rows L2 Evl
local macro_rules | `(tactic| wtm_at "dc") => `(tactic| first
  | ((with_reducible apply dd_f); decide +kernel)
  | ((with_reducible apply dd_t); decide +kernel)
  | ((with_reducible apply dn_f); decide +kernel)
  | ((with_reducible apply dn_t); decide +kernel)
  | (with_reducible exact dec_int_non)
  | (with_reducible exact dec_bl_non)
  | (with_reducible exact dec_ref_non)
  | (with_reducible exact dec_str_non)
  | (with_reducible exact dec_str_ne (by assumption))
  | (with_reducible exact dec_str_eq (by assumption))
  | (with_reducible exact ndec_str_ne (by assumption))
  | (with_reducible exact ndec_str_eq (by assumption))
  | (with_reducible exact dec_int_ne (by omega))
  | (with_reducible exact dec_int_eq (by omega))
  | (with_reducible exact ndec_int_ne (by omega))
  | (with_reducible exact ndec_int_eq (by omega)))
local macro_rules | `(tactic| wtm_at "ic") => `(tactic| first
  | ((with_reducible apply iv_f); decide +kernel)
  | ((with_reducible apply iv_t); decide +kernel)
  | ((with_reducible apply ivn_f); decide +kernel)
  | ((with_reducible apply ivn_t); decide +kernel))
local macro_rules | `(tactic| wtm_at "iv") => `(tactic| first
  | exact bl_true (by omega)
  | exact bl_false (by omega)
  | rfl)
local macro_rules | `(tactic| wtm_at "ln") => `(tactic| first
  | (with_reducible exact ln0) | (with_reducible exact ln1) | (with_reducible exact ln2) | (with_reducible exact ln3) | (with_reducible exact ln4) | rfl)
local macro_rules | `(tactic| wtm_at "nb") => `(tactic| first
  | (with_reducible exact nb_t)
  | (with_reducible exact nb_f))
local macro_rules | `(tactic| wtm_at "kt") => `(tactic| first
  | (with_reducible exact kit_tt) | (with_reducible exact kit_ss) | (with_reducible exact kit_ii) | (with_reducible exact kit_ib) | (with_reducible exact kit_ni) | (with_reducible exact kit_dd) | (with_reducible exact kit_ll))
local macro_rules | `(tactic| wtm_at "vt") => `(tactic| first
  | exact .str | exact .int | exact .non | exact .bl | exact .tup (by assumption) | exact .lst (by assumption) | exact .dK (by assumption))
local macro_rules | `(tactic| wtm_at "sv") => `(tactic| assumption)
local macro_rules | `(tactic| wtm_at "ct") => `(tactic| first
  | (with_reducible exact ct_f)
  | ((with_reducible apply ct_t); wtm_at "ev")
  | (with_reducible exact cf_t)
  | ((with_reducible apply cf_f); wtm_at "ev")
  | (with_reducible exact ctv_f)
  | ((with_reducible apply ctv_t); wtm_at "ev")
  | (with_reducible exact cfv_t)
  | ((with_reducible apply cfv_f); wtm_at "ev")
  | ((with_reducible apply ci_t); wtm_at "ev")
  | ((with_reducible apply ci_f); wtm_at "ev"))
local macro_rules | `(tactic| wtm_at "ev") => `(tactic| first
  | ((with_reducible apply ev_var); rfl)
  | (with_reducible exact ev_c)
  | (with_reducible exact ea_nil)
  | ((with_reducible apply ea_cons) <;> wtm_at "ev")
  | ((with_reducible apply ev_ixT); (wtm_at "ev"); (wtm_at "ev"); assumption; rfl)
  | ((with_reducible apply ev_dgetS); (wtm_at "ev"); (wtm_at "ev"); assumption; assumption)
  | ((with_reducible apply ev_lenT); (wtm_at "ev"); assumption; (wtm_at "ln"))
  | ((with_reducible apply ev_isi); (wtm_at "ev"); (wtm_at "vt"); (wtm_at "kt"))
  | ((with_reducible apply ev_eq); (wtm_at "ev"); (wtm_at "ev"); rfl; (wtm_at "dc"))
  | ((with_reducible apply ev_ne); (wtm_at "ev"); (wtm_at "ev"); rfl; (wtm_at "dc"))
  | ((with_reducible apply ev_isN); (wtm_at "ev"); (wtm_at "dc"))
  | ((with_reducible apply ev_notN); (wtm_at "ev"); (wtm_at "dc"))
  | ((with_reducible apply ev_int0); (wtm_at "ev"); (wtm_at "ev"); (wtm_at "iv"))
  | ((with_reducible apply ev_niN); (wtm_at "ev"); (wtm_at "ev"); rfl; rfl; (wtm_at "ic"))
  | ((with_reducible apply ev_inN); (wtm_at "ev"); (wtm_at "ev"); rfl; rfl; (wtm_at "ic"))
  | ((with_reducible apply eu_tup); (wtm_at "ev"); simp)
  | ((with_reducible apply el_lst); (wtm_at "ev"); simp)
  | ((with_reducible apply ev_callP); (wtm_at "ev"); (wtm_at "sv"))
  | ((with_reducible apply et_test); wtm_at "ev")
  | ((with_reducible apply et_B); wtm_at "ev")
  | ((with_reducible apply ev_andG); (wtm_at "ev"); (wtm_at "ct"))
  | ((with_reducible apply ev_orG); (wtm_at "ev"); (wtm_at "ct"))
  | ((with_reducible apply ev_notG); (wtm_at "ev"); (wtm_at "nb"))
  | ((with_reducible apply et_andG); (wtm_at "ev"); (wtm_at "ct"))
  | ((with_reducible apply et_orG); (wtm_at "ev"); (wtm_at "ct"))
  | ((with_reducible apply et_notG); (wtm_at "ev"); (wtm_at "nb"))
  | ((with_reducible apply ev_ifG); (wtm_at "ev"); (wtm_at "ct"))
  | assumption)
local macro_rules | `(tactic| wtm_at "re") => `(tactic| first
  | ((with_reducible apply re_ifG); (wtm_at "ev"); first | ((with_reducible apply ci_t); wtm_at "re") | ((with_reducible apply ci_f); wtm_at "re"))
  | ((with_reducible apply re_retV); wtm_at "ev")
  | ((with_reducible apply re_asgV); (wtm_at "ev"); (wtm_at "re"))
  | ((with_reducible apply re_par); (wtm_at "ev"); (wtm_at "re")))
local macro_rules | `(tactic| wtm_at "rs") => `(tactic| repeat ((with_reducible apply re_ifG); (wtm_at "ev"); first | (with_reducible apply ci_t) | (with_reducible apply ci_f)))


/-! ### x is True, x a truth or None -/
def rIsTB : R2 := fun x y H Q => ∃ (o : Option Bool) (c : Bool), x = tv o ∧ y = .bl c ∧ Q (.bl (decide (o = some c))) H
theorem op_isTB {X : Cx} : OpR X (compareOp .Is) rIsTB := by
  intro pins s σ H x y v u Q I rx ry h
  obtain ⟨o, c, rfl, rfl, q⟩ := h
  cases (show u = Value.bool c from ry)
  cases o with
  | none =>
    cases (show v = Value.none from rx)
    exact wpAny_is_plain rfl (fin_bl I q (by cases c <;> rfl))
  | some b =>
    cases (show v = Value.bool b from rx)
    exact wpAny_is_plain rfl (fin_bl I q (by cases c <;> cases b <;> rfl))
section
variable {K : PySem.W.Frag} {σ : L2.St} {H : Hp} {te tb tl : TE} {tt : TT} {tk tv' : TE} {wi : TI} {xs : List V} {j : Nat} {tbd : TS} {D : Ends} {r : Res} {g : TG} {d : Addr} {vs : List Nat}
theorem ev_isTB {o : Option Bool} {c b : Bool} (ha : Ev te σ H (tv o)) (hb : Ev tb σ H (.bl c)) (h : decide (o = some c) = b) : Ev (tOp rIsTB te tb) σ H (.bl b) := fun H1 e Q q => ha H1 e _ fun H2 e2 => hb H2 (e.trans e2) _ fun H3 e3 => ⟨o, c, rfl, rfl, by
  rw [h]
  exact q H3 (e2.trans e3)⟩
/-- a walked list that is made on the way -/
theorem dc_fr {Pd : Addr → Hp → Prop} (h : EvR te σ H (.fr Pd)) (hp : ∀ p H1, Pd p H1 → ∃ xs, Ls H1 p xs) (k : ∀ p H1, Ex H H1 → Pd p H1 → EvR (tDc (iList K (tC (.ref p))) g tt tk tv' vs) σ H1 r) : EvR (tDc (iList K te) g tt tk tv' vs) σ H r := fun H1 e Q q => h H1 e _ fun z H2 e2 ⟨p, hz, h1, h2⟩ => by
  obtain ⟨xs, hx⟩ := hp p H2 h2
  obtain ⟨a, ha, _, hb⟩ := k p H2 (e.trans e2) h2 H2 (Ex.refl H2) Q fun z H3 e3 hz => q z H3 (e2.trans e3) (Res.anti e2 hz)
  cases ha
  exact ⟨p, hz, ⟨xs, sq_of hx⟩, hb⟩
theorem for_fr {Pd : Addr → Hp → Prop} (h : EvR te σ H (.fr Pd)) (hp : ∀ p H1, Pd p H1 → ∃ xs, Ls H1 p xs) (k : ∀ p H1, Ex H H1 → Pd p H1 → tFor (iList K (tC (.ref p))) g tbd D σ H1) : tFor (iList K te) g tbd D σ H := h H (Ex.refl H) _ fun z H2 e2 ⟨p, hz, h1, h2⟩ => by
  obtain ⟨xs, hx⟩ := hp p H2 h2
  obtain ⟨a, ha, _, hb⟩ := k p H2 e2 h2
  cases ha
  exact ⟨p, hz, ⟨xs, sq_of hx⟩, hb⟩
/-- a loop whose turns fall through -/
theorem d_for (hi : EvI wi σ H xs) (hb : ∀ (i : Nat) (x : V), xs[i]? = some x → FR tbd (σ.set j (some x)) H) (k0 : ∀ H1, Ex H H1 → D.nx σ H1) (k : ∀ x H1, Ex H H1 → D.nx (σ.set j (some x)) H1) : tFor wi (gName j) tbd D σ H := hi H (Ex.refl H) _ fun J H1 e1 ⟨G, W, hG, _⟩ =>
  for_it W (fun i σ' H' => Ex H1 H' ∧ (σ' = σ ∨ ∃ x, σ' = σ.set j (some x))) ⟨Ex.refl H1, .inl rfl⟩ (fun i σ' H' _ p => hG H' p.1)
    (fun i x σ' H' H2 hi p y => by
      obtain ⟨rfl, hx⟩ := y
      have es : σ'.set j (some x) = σ.set j (some x) := by
        rcases p.2 with h | ⟨z, h⟩
        · rw [h]
        · rw [h, List.set_set]
      show tbd _ (σ'.set j (some x)) H2
      rw [es]
      exact hb i x hx _ H2 (e1.trans p.1) fun H3 e3 => ⟨p.1.trans e3, .inr ⟨x, rfl⟩⟩)
    (fun σ' H' p => by
      rcases p.2 with h | ⟨z, h⟩
      · rw [h]
        exact k0 H' (e1.trans p.1)
      · rw [h]
        exact k z H' (e1.trans p.1))
theorem dq_for {tz : TS} (hi : EvI wi σ H xs) (hb : ∀ (i : Nat) (x : V), xs[i]? = some x → FR tbd (σ.set j (some x)) H) (k0 : ∀ H1, Ex H H1 → tz D σ H1) (k : ∀ x H1, Ex H H1 → tz D (σ.set j (some x)) H1) : tSeq (tFor wi (gName j) tbd) tz D σ H := d_for (D := { D with nx := tz D }) hi hb k0 k
theorem el_lock {kvs : List (Key × V)} {ys : List V} (hd : Dk H d kvs) (h : ∀ od, EvL te σ (upd H d (.frz od (.dK kvs))) ys) : EvL (tLockE te) σ H ys := el_er (er_lockN hd fun od => er_lst (h od))
theorem er_lockD {kvs : List (Key × V)} {ks : List Key} {os : List HO} (hd : Dk H d kvs) (ho : ∀ o ∈ os, ∀ od u, o ≠ .frz od u) (h : ∀ od, EvR te σ (upd H d (.frz od (.dK kvs))) (.fr fun p H' => DkO H' p ks os)) : EvR (tLockE te) σ H (.fr fun p H' => DkO H' p ks os) := fun H1 e Q q =>
  ⟨d, .dK kvs, e _ _ hd, True.intro, fun od => h od _ (ex_updf e) _ fun z H2 e2 ⟨p, hz, h1, kv, h2, h3, h4, h5⟩ => ⟨e2 _ _ upd_same, q z _ (ex_unlock (e _ _ hd) e2) ⟨p, hz, by
    by_cases hp : p = d
    · subst hp
      rw [upd_same] at h1
      cases h1
    · rw [upd_ne hp] at h1
      exact h1, by
    have hpd : p ≠ d := fun z => by
      subst z
      rw [upd_same] at h1
      cases h1
    have hf : H2 d = some (.frz od (.dK kvs)) := e2 _ _ upd_same
    refine ⟨kv, by rw [upd_ne hpd]; exact h2, h3, h4, fun i k v o a b => ?_⟩
    obtain ⟨c, hc, hc2⟩ := h5 i k v o a b
    refine ⟨c, hc, ?_⟩
    have : c ≠ d := fun z => by
      rw [z, hf] at hc2
      cases hc2
      exact ho _ (List.mem_of_getElem? b) od _ rfl
    rw [upd_ne this]
    exact hc2⟩⟩⟩
end
section
variable {K : PySem.W.Frag} {σ : L2.St} {H : Hp} {te ta tv : TE} {tbd tz : TS} {D : Ends} {g : TG} {x dx C : Addr} {fs : List (Str × V)} {f : Str} {v : V}
theorem dq_forfr {Pd : Addr → Hp → Prop} (h : EvR te σ H (.fr Pd)) (hp : ∀ p H1, Pd p H1 → ∃ xs, Ls H1 p xs) (k : ∀ p H1, Ex H H1 → Pd p H1 → tSeq (tFor (iList K (tC (.ref p))) g tbd) tz D σ H1) : tSeq (tFor (iList K te) g tbd) tz D σ H := for_fr (D := { D with nx := tz D }) h hp k
theorem dq_fldV (hv : Ev tv σ H v) (ho : ∀ H1, Ex H H1 → Ev ta σ H1 (.ref x)) (hi : H x = some (.ins C dx fs)) (c : Cls K C) (n : NoAttr K C f) (hl : fs.length < 1000)
    (k : ∀ H1, Ex H H1 → tz D σ (upd H1 x (.ins C dx (putF f v fs)))) : tSeq (sFld K ta tv f) tz D σ H := d_fldV (D := { D with nx := tz D }) hv ho hi c n hl k
theorem er_imp {P1 P2 : Addr → Hp → Prop} (h : EvR te σ H (.fr P1)) (hi : ∀ p H1, P1 p H1 → P2 p H1) : EvR te σ H (.fr P2) := fun H1 e Q q => h H1 e Q fun z H2 e2 ⟨p, hz, hp, h2⟩ => q z H2 e2 ⟨p, hz, hp, hi p H2 h2⟩
end
theorem DkO.upd {H : Hp} {p x C dx : Addr} {fs : List (Str × V)} {ks : List Key} {os : List HO} {o' : HO} (h : DkO H p ks os) (hx : H x = some (.ins C dx fs)) (ho : ∀ o ∈ os, ∀ C dx fs, o ≠ .ins C dx fs) : DkO (upd H x o') p ks os := by
  obtain ⟨kvs, h1, h2, h3, h4⟩ := h
  have n : p ≠ x := fun z => by
    rw [z, hx] at h1
    cases h1
  refine ⟨kvs, by rw [upd_ne n]; exact h1, h2, h3, fun i k v o a b => ?_⟩
  obtain ⟨c, hc, hc2⟩ := h4 i k v o a b
  have nc : c ≠ x := fun z => by
    rw [z, hx] at hc2
    cases hc2
    exact ho _ (List.mem_of_getElem? b) _ _ _ rfl
  exact ⟨c, hc, by rw [upd_ne nc]; exact hc2⟩
theorem ShapeAt.upd {K : PySem.W.Frag} {H : Hp} {a x C dx : Addr} {fs : List (Str × V)} {cs bs ls : List Str} {o' : HO} (h : ShapeAt K H a cs bs ls) (hx : H x = some (.ins C dx fs)) (n : a ≠ x) : ShapeAt K (upd H x o') a cs bs ls := by
  obtain ⟨dx', p, q, r, h1, h2, h3, h4⟩ := h
  exact ⟨dx', p, q, r, by rw [upd_ne n]; exact h1, upd_t h2 hx, upd_t h3 hx, upd_t h4 hx⟩
/-! ### dicts at objects -/
theorem dget_of {kvs : List (Key × V)} : ∀ {i : Nat} {k : Key} {v : V}, (kvs.map (·.1)).Nodup → kvs[i]? = some (k, v) → valV kvs k = some v := by
  induction kvs with
  | nil => intro i k v _ h; cases h
  | cons p r ih =>
    intro i k v nd h
    obtain ⟨n1, n2⟩ := List.nodup_cons.mp nd
    cases i with
    | zero =>
      have h : p = (k, v) := Option.some.inj h
      subst h
      exact valV_pos rfl
    | succ i =>
      have h : r[i]? = some (k, v) := h
      have hk : p.1 ≠ k := fun z => n1 (by
        show p.1 ∈ _
        rw [z]
        exact List.mem_map.mpr ⟨_, List.mem_of_getElem? h, rfl⟩)
      have h0 := ih n2 h
      unfold valV at h0 ⊢
      rw [List.find?_cons, show decide (p.1 = k) = false from decide_eq_false hk]
      exact h0
theorem DkO.get {H : Hp} {p : Addr} {ks : List Str} {o : HO} (h : DkO H p (kS ks) (List.replicate ks.length o)) (nd : ks.Nodup) : ∃ kvs, Dk H p kvs ∧ kvs.length = ks.length ∧ kvs.map (·.1) = kS ks ∧ ∀ z ∈ ks, ∃ b, valV kvs (Sum.inr z : Key) = some (.ref b) ∧ H b = some o := by
  obtain ⟨kvs, h1, h2, h3, h4⟩ := h
  have hl : kvs.length = ks.length := by
    have := congrArg List.length h2
    rw [List.length_map, List.length_map] at this
    exact this
  refine ⟨kvs, h1, hl, h2, fun z hz => ?_⟩
  obtain ⟨i, hi⟩ := List.mem_iff_getElem?.mp hz
  have hlt : i < ks.length := (List.getElem?_eq_some_iff.mp hi).1
  have hkv : kvs[i]? = some (kvs[i]'(by omega)) := List.getElem?_eq_getElem (by omega)
  generalize kvs[i]'(by omega) = kv at hkv
  obtain ⟨k, v⟩ := kv
  have hk : (kvs.map (·.1))[i]? = some k := by rw [List.getElem?_map, hkv]; rfl
  rw [h2, List.getElem?_map, hi] at hk
  have hk : (Sum.inr z : Key) = k := Option.some.inj hk
  subst hk
  obtain ⟨b, hb, hb2⟩ := h4 i _ v o hkv (by rw [List.getElem?_replicate, if_pos hlt])
  subst hb
  exact ⟨b, dget_of (by rw [h2]; exact kS_nodup nd) hkv, hb2⟩
/-! ### books -/
/-- the parts' names ks, each with no promise -/
abbrev MdAt (H : Hp) (d : Addr) (ks : List Str) : Prop := DkO H d (kS ks) (List.replicate ks.length (.lst []))
structure PartsOk (ks : List Str) : Prop where
  nd : ks.Nodup
  nm : ∀ z ∈ ks, NameOk z
  l1 : 1 ≤ ks.length
  l4 : ks.length ≤ 4
/-- the book b of the shape s with the parts ks (in sorted order) -/
def BookAt (K : PySem.W.Frag) (H : Hp) (b s : Addr) (ks : List Str) : Prop := ∃ dx o, H b = some (.ins (He.ga K "Book") dx [("own_shape", .ref s), ("own_parts", .ref o)]) ∧ DkO H o (kS ks) (List.replicate ks.length (.tup []))
theorem BookAt.same {K : PySem.W.Frag} {H H' : Hp} {b s : Addr} {ks : List Str} (e : Ex H H') (h : BookAt K H b s ks) : BookAt K H' b s ks := let ⟨dx, o, h1, h2⟩ := h; ⟨dx, o, e _ _ h1, h2.same e⟩
/-- rows of the columns cs at the list a -/
def RowsAt (H : Hp) (a : Addr) (cs ls : List Str) (ers : List Wo) : Prop := ∃ ts : List Addr, Ls H a (ts.map V.ref) ∧ ts.length = ers.length ∧ ers.length ≤ 1000 ∧ ∀ (i : Nat) (t : Addr) (er : Wo), ts[i]? = some t → ers[i]? = some er → RowAt H t cs er ∧ WoOk cs ls er
theorem RowsAt.same {H H' : Hp} {a : Addr} {cs ls : List Str} {ers : List Wo} (e : Ex H H') (h : RowsAt H a cs ls ers) : RowsAt H' a cs ls ers :=
  let ⟨ts, h1, h2, h3, h4⟩ := h; ⟨ts, e _ _ h1, h2, h3, fun i t er a b => let ⟨x, y⟩ := h4 i t er a b; ⟨e _ _ x, y⟩⟩
def TabAt (H : Hp) (d : Addr) (cs ls ks : List Str) (F : Str → List Wo) : Prop := ∃ kvs, Dk H d kvs ∧ kvs.map (·.1) = kS ks ∧ ∀ z ∈ ks, ∃ a, valV kvs (Sum.inr z : Key) = some (.ref a) ∧ RowsAt H a cs ls (F z)
theorem TabAt.same {H H' : Hp} {d : Addr} {cs ls ks : List Str} {F : Str → List Wo} (e : Ex H H') (h : TabAt H d cs ls ks F) : TabAt H' d cs ls ks F :=
  let ⟨kvs, h1, h2, h3⟩ := h; ⟨kvs, e _ _ h1, h2, fun z hz => let ⟨a, x, y⟩ := h3 z hz; ⟨a, x, y.same e⟩⟩
def RProm : Rel := fun vs H r => ∃ v a, vs = [v, .ref a] ∧ Ls H a [] ∧ r = .val (.bl true)
def RFit : Rel := fun vs H r => ∃ v a, vs = [.ref a, v] ∧ Tp H a [] ∧ r = .val (.bl true)
def SpBook (K : PySem.W.Frag) : Sp := fun vs H Q _ => ∃ x dx s d cs bs ls ks, vs = [.ref x, .ref s, .ref d] ∧ H x = some (.ins (He.ga K "Book") dx []) ∧ s ≠ x ∧ ShapeAt K H s cs bs ls ∧ MdAt H d ks ∧ PartsOk ks ∧
  ∀ H', (∀ u o, u ≠ x → H u = some o → H' u = some o) → (∃ ks' : List Str, ks'.Perm ks ∧ BookAt K H' x s ks') → Q .non H'
section
variable {P : Program} {w : World} {K : PySem.W.Frag} {mg : Str → Option Value} {base : Heap}
def nm_are_promises : List Str := ["shape", "thing", "item"]
theorem sc_are_promises : FnScope nm_are_promises ["shape", "thing"] (defScope s_are_promises) := C8.fnScope_by (by decide +kernel)
theorem ok_are_promises (T : Tx K mg) (C_is_list : C8.Cal P w K mg base 1 "is_list" (PSp RYes) []) (C_is_over : C8.Cal P w K mg base 9 "is_over" (PSp (ROver K)) []) : C8.Cal P w K mg base 10 "are_promises" (PSp RProm) [] := by
  refine T.pf 21 21 rfl rfl sc_are_promises (fun _ _ _ _ _ _ us hl => match us, hl with | [_, _], _ => rfl) (fun vs H r h => ?_) (fun cdv A outer s H vs r E hr h => ?_)
  · obtain ⟨_, _, rfl, _⟩ := h
    rfl
  · have nd := sc_are_promises.nd
    refine ⟨_, (pss_cons (ps_if (PW.pt (pw_or (pt_not (pt_val (C8.pe_c C_is_list hr (by omega) (by rfl) (pa_cons (pv 1) pa_nil)))) (pw_or1 (pt_cmpR op_gt (pe_callB cr_len (by rfl) T.f_len PySem.boot_len (pa_cons (pv 1) pa_nil)) (C8.pe_gc (by rfl) T.v_MOST_PROMISES) (nomark _)))))
      (pss_one (ps_ret pe_bl))
      pss_nil)
      (pss_one (ps_ret (pe_callB (cr_all rfl) (by rfl) T.f_all (by decide +kernel) (pa_cons (pe_lc (own := [("item", 2)]) (g := (gName 2)) rfl nd (pi_list (pv 1)) (blkOk_by (own := [("item", 2)]) (N := nm_are_promises) (sc := defScope s_are_promises) (by decide +kernel)) (fun _ _ _ _ _ => (pg_name (i := 2) nd rfl (Or.inl rfl))) (fun _ _ _ _ _ => pts_nil) (fun _ _ _ _ _ => (C8.pe_c C_is_over hr (by omega) (by rfl) (pa_cons (pv 0) (pa_cons (pv 2) (pa_cons pe_str pa_nil)))))) pa_nil))))), ?_⟩
    obtain ⟨v, a, rfl, ha, rfl⟩ := h
    refine re_no (et_or_f (et_not_f (et_test (ev_callP (by wtm_at "ev") (sv_yesL ha)))) (et_test (ev_int0 (ev_lenL (by wtm_at "ev") ha rfl) (by wtm_at "ev") (bl_false (by decide))))) ?_
    exact re_retV (ev_allT (ei_list (by wtm_at "ev") ha) (by decide) (fun _ => rfl) fun i x hx => by cases hx)
def nm_do_fit : List Str := ["promises", "worths", "promise"]
theorem sc_do_fit : FnScope nm_do_fit ["promises", "worths"] (defScope s_do_fit) := C8.fnScope_by (by decide +kernel)
theorem ok_do_fit (T : Tx K mg) (C_truth_of : C8.Cal P w K mg base 7 "truth_of" (PSp (RTruth 5)) []) : C8.Cal P w K mg base 8 "do_fit" (PSp RFit) [] := by
  refine T.pf 22 22 rfl rfl sc_do_fit (fun _ _ _ _ _ _ us hl => match us, hl with | [_, _], _ => rfl) (fun vs H r h => ?_) (fun cdv A outer s H vs r E hr h => ?_)
  · obtain ⟨_, _, rfl, _⟩ := h
    rfl
  · have nd := sc_do_fit.nd
    refine ⟨_, (pss_one (ps_ret (pe_callB (cr_all rfl) (by rfl) T.f_all (by decide +kernel) (pa_cons (pe_lc (own := [("promise", 2)]) (g := (gName 2)) rfl nd (pi_tup (pv 0)) (blkOk_by (own := [("promise", 2)]) (N := nm_do_fit) (sc := defScope s_do_fit) (by decide +kernel)) (fun _ _ _ _ _ => (pg_name (i := 2) nd rfl (Or.inl rfl))) (fun _ _ _ _ _ => pts_nil) (fun _ _ _ _ _ => (pe_cmpR op_notBl (C8.pe_c C_truth_of hr (by omega) (by rfl) (pa_cons (pv 2) (pa_cons (pv 1) pa_nil))) pe_bl (nomark _)))) pa_nil)))), ?_⟩
    obtain ⟨v, a, rfl, ha, rfl⟩ := h
    exact re_retV (ev_allT (ei_tup (by wtm_at "ev") ha) (by decide) (fun _ => rfl) fun i x hx => by cases hx)
def nm_Book_init : List Str := ["self", "shape", "parts", "part"]
theorem sc_Book_init : FnScope nm_Book_init ["self", "shape", "parts"] (defScope s_Book_init) := C8.fnScope_by (by decide +kernel)
theorem ok_Book_init (T : Tx K mg) (C_is_name : C8.Cal P w K mg base 1 "is_name" (PSp RName) []) (C_are_promises : C8.Cal P w K mg base 10 "are_promises" (PSp RProm) []) : C8.Mak P w K mg base 11 "Book" (He.ga K "Book") (SpBook K) [] := by
  refine T.mk0 56 rfl T.mk_Book T.g_Book sc_Book_init ?_ (fun vs H Q E h => ?_) (fun cdv A outer s H vs Q E hr h => ?_)
  · exact fun fd F => FunD.bindsN F fun _ _ _ _ _ _ us hl => match us, hl with | [_, _, _], _ => rfl
  · obtain ⟨_, _, _, _, _, _, _, _, rfl, _⟩ := h
    rfl
  · have nd := sc_Book_init.nd
    have hu := hu_of hr
    refine ⟨_, (pss_cons (ps_if (PW.pt (pw_or (pt_not (pt_val (pe_callB (cr_isC T.is_Shape) (by rfl) T.f_isinstance (by decide +kernel) (pa_cons (pv 1) (pa_cons (pe_glob (v := .ref (He.ga K "Shape")) (by rfl) T.g_Shape rfl) pa_nil))))) (pw_or (pt_not (pt_val (pe_callB call_isi (by rfl) T.f_isinstance (by decide +kernel) (pa_cons (pv 2) (pa_cons (pe_bltn (v := .ty "dict") (u := .type "dict") (by rfl) T.f_dict (by decide +kernel) rfl) pa_nil))))) (pw_or1 (pt_not (pt_chain op_le op_le pe_int (pe_callB cr_lenK (by rfl) T.f_len PySem.boot_len (pa_cons (pv 2) pa_nil)) (C8.pe_gc (by rfl) T.v_MOST_PARTS_books)))))))
      (pss_one ps_never)
      pss_nil)
      (pss_cons (ps_if (pt_not (pt_val (pe_callB (cr_all rfl) (by rfl) T.f_all (by decide +kernel) (pa_cons (pe_lock (pe_lc (own := [("part", 3)]) (g := (gName 3)) rfl nd (pi_keys (pv 2)) (blkOk_by (own := [("part", 3)]) (N := nm_Book_init) (sc := defScope s_Book_init) (by decide +kernel)) (fun _ _ _ _ _ => (pg_name (i := 3) nd rfl (Or.inl rfl))) (fun _ _ _ _ _ => pts_nil) (fun _ _ _ _ _ => (C8.pe_c C_is_name hr (by omega) (by rfl) (pa_cons (pv 3) pa_nil))))) pa_nil))))
      (pss_one ps_never)
      pss_nil)
      (pss_cons (ps_for PassesOwn.never rfl (pi_list (pe_callB (cr_sortD rfl) (by rfl) T.f_sorted (by decide +kernel) (pa_cons (pv 2) pa_nil))) (pg_name (i := 3) nd rfl (Or.inl rfl))
      (pss_one (ps_if (pt_not (pt_val (C8.pe_c C_are_promises hr (by omega) (by rfl) (pa_cons (pv 1) (pa_cons (pe_dget hu (pv 2) (pv 3) (fun _ _ => rfl)) pa_nil)))))
      (pss_one ps_never)
      pss_nil)))
      (pss_cons (ps_fld (pv 0) (pv 1) rfl)
      (pss_one (ps_fld (pv 0) (pe_dc (own := [("part", 3)]) (g := (gName 3)) rfl nd (pi_list (pe_callB (cr_sortD rfl) (by rfl) T.f_sorted (by decide +kernel) (pa_cons (pv 2) pa_nil))) (blkOk_by (own := [("part", 3)]) (N := nm_Book_init) (sc := defScope s_Book_init) (by decide +kernel)) (fun _ _ _ _ _ => (pg_name (i := 3) nd rfl (Or.inl rfl))) (fun _ _ _ _ _ => pts_nil) (fun _ _ _ _ _ => (pv 3)) (fun _ _ _ _ _ => (pe_callTy (q_tupS K rfl) (by rfl) T.f_tuple (by decide +kernel) (pa_cons (pe_dget hu (pv 2) (pv 3) (fun _ _ => rfl)) pa_nil)))) rfl)))))), ?_⟩
    obtain ⟨x, dx, s', d, cs, bs, ls, ks, rfl, hx, nsx, hs, hd, o, q⟩ := h
    obtain ⟨kvs, hk1, hk2, hk3, hk4⟩ := hd.get o.nd
    obtain ⟨dxs, ps, qs, rs, his, _⟩ := id hs
    have l1 := o.l1
    have l4 := o.l4
    refine d_no (et_or_f (et_not_f (et_test (ev_isC (by wtm_at "ev") his))) (et_or_f (et_not_f (et_test (ev_isi (by wtm_at "ev") (.dK hk1) kit_dd))) (et_not_f (et_test (ev_chain ev_c (ev_lenK (by wtm_at "ev") hk1 rfl) (by wtm_at "ev") (bl_true (by omega)) (ctv_t (bl_true (by omega)))))))) fun H1 e1 => ?_
    have hk1' := e1 _ _ hk1
    have hkeys : (kvs.map fun kv => kV kv.1) = strV ks := by
      have h := congrArg (List.map kV) hk3
      rw [List.map_map, List.map_map] at h
      exact h
    refine d_no (et_not_f (et_test (ev_all (bs := List.replicate ks.length true) (el_lock hk1' fun od => el_lc (ei_keysF (by wtm_at "ev") upd_same) (by rw [List.length_map]; omega) (by rw [List.length_map, List.length_map, List.length_replicate, hk2]) (fun _ => rfl) fun i y z hy hz => ?_) (all_true _)))) fun H2 e2 => ?_
    · rw [rep_get hz]
      rw [hkeys] at hy
      obtain ⟨n, hn, rfl⟩ := strV_get hy
      exact ev_callP (by wtm_at "ev") (sv_name (o.nm n (List.mem_of_getElem? hn)))
    have hd2 : MdAt H2 d ks := hd.same (e1.trans e2)
    have hx2 := e2 _ _ (e1 _ _ hx)
    have hs2 := hs.same (e1.trans e2)
    have rest : ∀ (o' : Option V) (H4 : Hp), Ex H2 H4 → (tSeq (sFld K (tVar 0) (tVar 1) "own_shape") (sFld K (tVar 0) (tDc (iList K (tCB rSortD (tCons (tVar 2) tNil))) (gName 3) tYes (tVar 3) (tCB (rTupS K) (tCons (tDGet (tVar 2) (tVar 3)) tNil)) [3]) "own_parts")) { nx := fun _ H' => Q .non H', rt := Q } [some (.ref x), some (.ref s'), some (.ref d), o'] H4 := fun o' H4 e4 => by
      have hx4 := e4 _ _ hx2
      refine dq_fldV (x := x) (by wtm_at "ev") (fun _ _ => by wtm_at "ev") hx4 T.c_Book T.n_own_shape (show 0 < 1000 by decide) fun H5 e5 => ?_
      have hx5 := e5 _ _ hx4
      have hd5 := (hd2.same (e4.trans e5)).upd (o' := .ins (He.ga K "Book") dx (putF "own_shape" (.ref s') [])) hx5 (fun o ho => by
        rw [List.eq_of_mem_replicate ho]
        intro _ _ _ z
        cases z)
      have hs5 := (hs2.same (e4.trans e5)).upd (o' := .ins (He.ga K "Book") dx (putF "own_shape" (.ref s') [])) hx5 nsx
      have hx6 : (upd H5 x (.ins (He.ga K "Book") dx (putF "own_shape" (.ref s') []))) x = some (.ins (He.ga K "Book") dx [("own_shape", .ref s')]) := upd_same
      have k5 : ∀ u o, u ≠ x → H u = some o → (upd H5 x (.ins (He.ga K "Book") dx (putF "own_shape" (.ref s') []))) u = some o := fun u o hu h => by
        rw [upd_ne hu]
        exact ((e1.trans e2).trans (e4.trans e5)) _ _ h
      generalize upd H5 x (.ins (He.ga K "Book") dx (putF "own_shape" (.ref s') [])) = H6 at hd5 hs5 hx6 k5
      obtain ⟨kv6, g1, g2, g3, g4⟩ := hd5.get o.nd
      refine d_fldF (Pd := fun p H' => ∃ ys : List Str, ys.Perm ks ∧ DkO H' p (kS ys) (List.replicate ys.length (.tup []))) (dc_fr (er_sortD (by wtm_at "ev") g1 g3 (by omega)) (fun p H1 ⟨ys, _, h⟩ => ⟨_, h⟩) fun p H7 e7 ⟨ys, hy, hy2⟩ => ?_) (fun _ _ => by wtm_at "ev") hx6 T.c_Book T.n_own_parts (show 1 < 1000 by decide) fun p H8 H9 _ e8 ⟨ys, hy, hy2⟩ e9 => ?_
      · have hyl := hy.length_eq
        have hly : (strV ys).length = ys.length := List.length_map ..
        refine er_imp (er_dc (ks := kS ys) (os := List.replicate ys.length (.tup [])) (ei_list ev_c hy2) (by omega) (by rw [List.length_map, List.length_map]) (by rw [List.length_replicate, List.length_map]) (kS_nodup ((hy.nodup_iff).mpr o.nd)) (fun o ho kvs => by rw [List.eq_of_mem_replicate ho]; intro z; cases z) (fun _ => rfl) (fun i y k hy1 hk => ?_) fun i y k o hy1 hk ho => ?_) fun p H1 h => ⟨ys, hy, h⟩
        · obtain ⟨n, hn, rfl⟩ := strV_get hy1
          rw [List.getElem?_map, hn] at hk
          have hk : (Sum.inr n : Key) = k := Option.some.inj hk
          subst hk
          exact (show Ev _ _ _ (.str n) from by wtm_at "ev")
        · obtain ⟨n, hn, rfl⟩ := strV_get hy1
          have hm := (hy.mem_iff).mp (List.mem_of_getElem? hn)
          obtain ⟨b, hb, hb2⟩ := g4 n hm
          rw [List.eq_of_mem_replicate (List.mem_of_getElem? ho)]
          exact er_tupL (ev_dgetS (by wtm_at "ev") (by wtm_at "ev") (e7 _ _ g1) hb) (e7 _ _ hb2)
      · have hx9 := e9 _ _ (e8 _ _ hx6)
        refine q _ (fun u o hu h => ?_) ⟨ys, hy, dx, p, upd_same, (hy2.same e9).upd hx9 (fun o ho => by
          rw [List.eq_of_mem_replicate ho]
          intro _ _ _ z
          cases z)⟩
        rw [upd_ne hu]
        exact e9 _ _ (e8 _ _ (k5 u o hu h))
    refine dq_forfr (er_sortD (by wtm_at "ev") (e2 _ _ hk1') hk3 (by omega)) (fun p H1 ⟨ys, _, h⟩ => ⟨_, h⟩) fun p H3 e3 ⟨ys, hy, hy2⟩ => ?_
    refine dq_for (ei_list ev_c hy2) (fun i y hy1 => ?_) (fun H4 e4 => rest none H4 (e3.trans e4)) fun y H4 e4 => rest (some y) H4 (e3.trans e4)
    obtain ⟨n, hn, rfl⟩ := strV_get hy1
    have hm := (hy.mem_iff).mp (List.mem_of_getElem? hn)
    obtain ⟨b, hb, hb2⟩ := hk4 n hm
    have hb3 := e3 _ _ (e2 _ _ (e1 _ _ hb2))
    exact fr_no (et_not_f (et_test (ev_callP (ea_cons (by wtm_at "ev") (ea_cons (ev_dgetS (by wtm_at "ev") (by wtm_at "ev") (e3 _ _ (e2 _ _ hk1')) hb) ea_nil)) fun H5 e5 => ⟨_, b, rfl, e5 _ _ hb3, rfl⟩)))
end
end Ot
namespace Ot
open PySem PySem.Spec PyProof.Rows L2 Evl
local macro_rules | `(tactic| wtm_at "dc") => `(tactic| first
  | ((with_reducible apply dd_f); decide +kernel)
  | ((with_reducible apply dd_t); decide +kernel)
  | ((with_reducible apply dn_f); decide +kernel)
  | ((with_reducible apply dn_t); decide +kernel)
  | (with_reducible exact dec_int_non)
  | (with_reducible exact dec_bl_non)
  | (with_reducible exact dec_ref_non)
  | (with_reducible exact dec_str_non)
  | (with_reducible exact dec_str_ne (by assumption))
  | (with_reducible exact dec_str_eq (by assumption))
  | (with_reducible exact ndec_str_ne (by assumption))
  | (with_reducible exact ndec_str_eq (by assumption))
  | (with_reducible exact dec_int_ne (by omega))
  | (with_reducible exact dec_int_eq (by omega))
  | (with_reducible exact ndec_int_ne (by omega))
  | (with_reducible exact ndec_int_eq (by omega)))
local macro_rules | `(tactic| wtm_at "ic") => `(tactic| first
  | ((with_reducible apply iv_f); decide +kernel)
  | ((with_reducible apply iv_t); decide +kernel)
  | ((with_reducible apply ivn_f); decide +kernel)
  | ((with_reducible apply ivn_t); decide +kernel))
local macro_rules | `(tactic| wtm_at "iv") => `(tactic| first
  | exact bl_true (by omega)
  | exact bl_false (by omega)
  | rfl)
local macro_rules | `(tactic| wtm_at "ln") => `(tactic| first
  | (with_reducible exact ln0) | (with_reducible exact ln1) | (with_reducible exact ln2) | (with_reducible exact ln3) | (with_reducible exact ln4) | rfl)
local macro_rules | `(tactic| wtm_at "nb") => `(tactic| first
  | (with_reducible exact nb_t)
  | (with_reducible exact nb_f))
local macro_rules | `(tactic| wtm_at "kt") => `(tactic| first
  | (with_reducible exact kit_tt) | (with_reducible exact kit_ss) | (with_reducible exact kit_ii) | (with_reducible exact kit_ib) | (with_reducible exact kit_ni) | (with_reducible exact kit_dd) | (with_reducible exact kit_ll))
local macro_rules | `(tactic| wtm_at "vt") => `(tactic| first
  | exact .str | exact .int | exact .non | exact .bl | exact .tup (by assumption) | exact .lst (by assumption) | exact .dK (by assumption))
local macro_rules | `(tactic| wtm_at "sv") => `(tactic| assumption)
local macro_rules | `(tactic| wtm_at "ct") => `(tactic| first
  | (with_reducible exact ct_f)
  | ((with_reducible apply ct_t); wtm_at "ev")
  | (with_reducible exact cf_t)
  | ((with_reducible apply cf_f); wtm_at "ev")
  | (with_reducible exact ctv_f)
  | ((with_reducible apply ctv_t); wtm_at "ev")
  | (with_reducible exact cfv_t)
  | ((with_reducible apply cfv_f); wtm_at "ev")
  | ((with_reducible apply ci_t); wtm_at "ev")
  | ((with_reducible apply ci_f); wtm_at "ev"))
local macro_rules | `(tactic| wtm_at "ev") => `(tactic| first
  | ((with_reducible apply ev_var); rfl)
  | (with_reducible exact ev_c)
  | (with_reducible exact ea_nil)
  | ((with_reducible apply ea_cons) <;> wtm_at "ev")
  | ((with_reducible apply ev_ixT); (wtm_at "ev"); (wtm_at "ev"); assumption; rfl)
  | ((with_reducible apply ev_dgetS); (wtm_at "ev"); (wtm_at "ev"); assumption; assumption)
  | ((with_reducible apply ev_lenT); (wtm_at "ev"); assumption; (wtm_at "ln"))
  | ((with_reducible apply ev_isi); (wtm_at "ev"); (wtm_at "vt"); (wtm_at "kt"))
  | ((with_reducible apply ev_eq); (wtm_at "ev"); (wtm_at "ev"); rfl; (wtm_at "dc"))
  | ((with_reducible apply ev_ne); (wtm_at "ev"); (wtm_at "ev"); rfl; (wtm_at "dc"))
  | ((with_reducible apply ev_isN); (wtm_at "ev"); (wtm_at "dc"))
  | ((with_reducible apply ev_notN); (wtm_at "ev"); (wtm_at "dc"))
  | ((with_reducible apply ev_int0); (wtm_at "ev"); (wtm_at "ev"); (wtm_at "iv"))
  | ((with_reducible apply ev_niN); (wtm_at "ev"); (wtm_at "ev"); rfl; rfl; (wtm_at "ic"))
  | ((with_reducible apply ev_inN); (wtm_at "ev"); (wtm_at "ev"); rfl; rfl; (wtm_at "ic"))
  | ((with_reducible apply eu_tup); (wtm_at "ev"); simp)
  | ((with_reducible apply el_lst); (wtm_at "ev"); simp)
  | ((with_reducible apply ev_callP); (wtm_at "ev"); (wtm_at "sv"))
  | ((with_reducible apply et_test); wtm_at "ev")
  | ((with_reducible apply et_B); wtm_at "ev")
  | ((with_reducible apply ev_andG); (wtm_at "ev"); (wtm_at "ct"))
  | ((with_reducible apply ev_orG); (wtm_at "ev"); (wtm_at "ct"))
  | ((with_reducible apply ev_notG); (wtm_at "ev"); (wtm_at "nb"))
  | ((with_reducible apply et_andG); (wtm_at "ev"); (wtm_at "ct"))
  | ((with_reducible apply et_orG); (wtm_at "ev"); (wtm_at "ct"))
  | ((with_reducible apply et_notG); (wtm_at "ev"); (wtm_at "nb"))
  | ((with_reducible apply ev_ifG); (wtm_at "ev"); (wtm_at "ct"))
  | assumption)
local macro_rules | `(tactic| wtm_at "re") => `(tactic| first
  | ((with_reducible apply re_ifG); (wtm_at "ev"); first | ((with_reducible apply ci_t); wtm_at "re") | ((with_reducible apply ci_f); wtm_at "re"))
  | ((with_reducible apply re_retV); wtm_at "ev")
  | ((with_reducible apply re_asgV); (wtm_at "ev"); (wtm_at "re"))
  | ((with_reducible apply re_par); (wtm_at "ev"); (wtm_at "re")))
local macro_rules | `(tactic| wtm_at "rs") => `(tactic| repeat ((with_reducible apply re_ifG); (wtm_at "ev"); first | (with_reducible apply ci_t) | (with_reducible apply ci_f)))


/-! ### books, read -/
abbrev BkI (K : PySem.W.Frag) (H : Hp) (b dx s o : Addr) : Prop := H b = some (.ins (He.ga K "Book") dx [("own_shape", .ref s), ("own_parts", .ref o)])
def RBShape (K : PySem.W.Frag) : Rel := fun vs H x => ∃ b dx s o, vs = [.ref b] ∧ BkI K H b dx s o ∧ x = .val (.ref s)
def RBParts (K : PySem.W.Frag) : Rel := fun vs H x => ∃ b s ks, vs = [.ref b] ∧ BookAt K H b s ks ∧ ks.Nodup ∧ ks.length ≤ 1000 ∧ x = .fr fun p H' => MdAt H' p ks
def RPromOf (K : PySem.W.Frag) : Rel := fun vs H x => ∃ b s ks z, vs = [.ref b, .str z] ∧ BookAt K H b s ks ∧ ks.Nodup ∧ z ∈ ks ∧ x = .sm fun v H' => ∃ t, v = .ref t ∧ Tp H' t []
def PBook (K : PySem.W.Frag) : Pre := fun vs H => ∃ b s ks, vs = [.ref b] ∧ BookAt K H b s ks
def RAreRows (K : PySem.W.Frag) : Rel := fun vs H x => ∃ b s ks z a cs bs ls ers, vs = [.ref b, .str z, .ref a] ∧ BookAt K H b s ks ∧ ks.Nodup ∧ z ∈ ks ∧ ShapeAt K H s cs bs ls ∧ ShOk cs bs ∧ RowsAt H a cs ls ers ∧ x = .val (.bl true)
def PTable (K : PySem.W.Frag) : Pre := fun vs H => ∃ b s ks d cs bs ls kt F, vs = [.ref b, .ref d] ∧ BookAt K H b s ks ∧ ks.Nodup ∧ ks.length ≤ 1000 ∧ ShapeAt K H s cs bs ls ∧ ShOk cs bs ∧ kt.Perm ks ∧ TabAt H d cs ls kt F
/-- which rows are taken -/
def takeB (c : Cd) (cs : List Str) (ea : Wo) (ers : List Wo) : List Bool := ers.map fun er => decide (c.truth (mixW cs er ea) = some true)
def takeL (c : Cd) (cs : List Str) (ea : Wo) (ers : List Wo) : List V := kept (takeB c cs ea ers) (nums ers.length)
def RTaken (K : PySem.W.Frag) : Rel := fun vs H x => ∃ s v a d cs bs ls c ers ea, vs = [.ref s, v, .ref a, .ref d] ∧ ShapeAt K H s cs bs ls ∧ ShOk cs bs ∧ CAt H c v ∧ CdOk (cs ++ bs) c ∧ RowsAt H a cs ls ers ∧ AskAt H d bs ea ∧ x = .new (.lst (takeL c cs ea ers))
/-- a dict like DkO, its values none of N -/
def DkN (N : Addr → Prop) (H : Hp) (p : Addr) (ks : List Key) (os : List HO) : Prop := ∃ kvs : List (Key × V), H p = some (.dK kvs) ∧ kvs.map (·.1) = ks ∧ ks.length = os.length ∧ ∀ (i : Nat) (k : Key) (v : V) (o : HO), kvs[i]? = some (k, v) → os[i]? = some o → ∃ b, v = .ref b ∧ ¬ N b ∧ H b = some o
section
variable {K : PySem.W.Frag} {σ : L2.St} {H : Hp} {wi : TI} {xs : List V} {j : Nat} {tk tv : TE} {vs : List Nat}
theorem er_dcN {N : Addr → Prop} (hN : ∀ u, H u = none → ¬ N u) {ks : List Key} {os : List HO} (hi : EvI wi σ H xs) (hz : xs.length ≤ 40000) (hk : ks.length = xs.length) (hv : os.length = xs.length) (nd : ks.Nodup) (hno : ∀ o ∈ os, ∀ kvs, o ≠ .dK kvs) (hw : ∀ x, wipe ((wipe σ vs).set j (some x)) vs = wipe σ vs)
    (hek : ∀ (i : Nat) (x : V) (k : Key), xs[i]? = some x → ks[i]? = some k → Ev tk ((wipe σ vs).set j (some x)) H (kV k))
    (hev : ∀ (i : Nat) (x : V) (k : Key) (o : HO), xs[i]? = some x → ks[i]? = some k → os[i]? = some o → EvR tv ((wipe σ vs).set j (some x)) H (.new o)) : EvR (tDc wi (gName j) tYes tk tv vs) σ H (.fr fun p H' => DkN N H' p ks os) := fun H0 e Q q => hi H0 e _ fun J H1 e1 ⟨G, W, hG, _⟩ => fun D hD => by
  refine ⟨fun i m H' => m = xs.length - i ∧ i ≤ xs.length ∧ Ex H1 H' ∧ ∃ kvs : List (Key × V), H' D = some (.dK kvs) ∧ kvs.map (·.1) = ks.take i ∧ ∀ (t : Nat) (k : Key) (v : V) (o : HO), kvs[t]? = some (k, v) → os[t]? = some o → ∃ b, v = .ref b ∧ ¬ N b ∧ H' b = some o,
    ⟨xs.length, by simp, Nat.zero_le _, Ex.new hD, [], upd_same, by rw [List.take_zero]; rfl, fun t k v o h => by cases h⟩, ?_⟩
  rintro i m H2 ⟨rfl, hi, p1, kvs, p2, p3, p4⟩
  have hg := hG H2 p1
  have kl : kvs.length = i := by
    have h := congrArg List.length p3
    rw [List.length_map, List.length_take, hk] at h
    omega
  by_cases hlt : i < xs.length
  · refine .inr ⟨W.goes i H2 hlt hg, fun H' => Ex H1 H' ∧ ∃ kvs : List (Key × V), H' D = some (.dK kvs) ∧ kvs.map (·.1) = ks.take (i + 1) ∧ ∀ (t : Nat) (k : Key) (v : V) (o : HO), kvs[t]? = some (k, v) → os[t]? = some o → ∃ b, v = .ref b ∧ ¬ N b ∧ H' b = some o,
      fun H' p => ⟨xs.length - (i + 1), by omega, rfl, hlt, p⟩, fun x H2' y => ?_⟩
    obtain ⟨rfl, hx⟩ := W.yields i H2 x H2' hlt hg y
    have hki : ks[i]? = some (ks[i]'(by omega)) := List.getElem?_eq_getElem (by omega)
    have hoi : os[i]? = some (os[i]'(by omega)) := List.getElem?_eq_getElem (by omega)
    generalize ks[i]'(by omega) = k at hki
    generalize os[i]'(by omega) = o at hoi
    refine ⟨hw x, ?_⟩
    show tk ((wipe σ vs).set j (some x)) H2' _
    refine hek i x k hx hki H2' ((e.trans e1).trans p1) _ fun H3 e3 => ?_
    refine hev i x k o hx hki hoi H3 (((e.trans e1).trans p1).trans e3) _ fun z H4 e4 ⟨b, hzb, hb1, hb2⟩ => ?_
    subst hzb
    have bD : b ≠ D := fun z => by
      rw [z, e3 _ _ p2] at hb1
      cases hb1
    have tk1 : ks.take (i + 1) = ks.take i ++ [k] := by
      rw [List.take_add_one, hki]
      rfl
    have hnew : valV kvs k = none := by
      cases hvk : valV kvs k with
      | none => rfl
      | some w =>
        have hm : k ∈ kvs.map (·.1) := by
          unfold valV at hvk
          cases hf : kvs.find? (fun p => decide (p.1 = k)) with
          | none => rw [hf] at hvk; cases hvk
          | some pr =>
            have h1 := List.find?_some hf
            have h2 := List.mem_of_find?_eq_some hf
            exact List.mem_map.mpr ⟨pr, h2, of_decide_eq_true h1⟩
        rw [p3] at hm
        have nd' := nd
        rw [← List.take_append_drop (i + 1) ks, tk1, List.append_assoc, List.nodup_append] at nd'
        exact absurd rfl (nd'.2.2 k hm k (List.mem_append_left _ (List.mem_singleton.mpr rfl)))
    have p2' : H4 D = some (.dK kvs) := e4 _ _ (e3 _ _ p2)
    refine ⟨kvs, k, rfl, p2', sz_lt (by omega), Ex.mut ((p1.trans e3).trans e4) hD, kvs ++ [(k, .ref b)], ?_, ?_, fun t k' v o' h1 h2 => ?_⟩
    · rw [putK_new _ hnew]
      exact upd_same
    · rw [List.map_append, p3, tk1]
      rfl
    · by_cases ht : t < kvs.length
      · rw [List.getElem?_append_left ht] at h1
        obtain ⟨c, hc, hcN, hc2⟩ := p4 t k' v o' h1 h2
        refine ⟨c, hc, hcN, ?_⟩
        have h4 : H4 c = some o' := e4 _ _ (e3 _ _ hc2)
        have hcD : c ≠ D := fun z => by
          rw [z, p2'] at h4
          cases h4
          exact hno _ (List.mem_of_getElem? h2) kvs rfl
        rw [upd_ne hcD]
        exact h4
      · rw [List.getElem?_append_right (by omega)] at h1
        have ht0 : t - kvs.length = 0 := by
          obtain ⟨h, _⟩ := List.getElem?_eq_some_iff.mp h1
          simp at h
          omega
        rw [ht0] at h1
        have h1 : (k, V.ref b) = (k', v) := Option.some.inj h1
        have hti : t = i := by omega
        subst hti
        rw [hoi] at h2
        cases h1
        cases h2
        exact ⟨b, rfl, hN b (fresh_back (((e.trans e1).trans p1).trans e3) hb1), by rw [upd_ne bD]; exact hb2⟩
  · have e0 : i = xs.length := by omega
    subst e0
    exact .inl ⟨W.stops H2 hg, q _ H2 (e1.trans p1) ⟨D, rfl, fresh_back e1 hD, kvs, p2, by rw [p3, ← hk, List.take_length], by omega, p4⟩⟩
end
def RAnswer (K : PySem.W.Frag) : Rel := fun vs H x => ∃ b s v d q cs bs ls c ks kt F ea N, vs = [.ref b, v, .ref d, .ref q] ∧ (∀ u, H u = none → ¬ N u) ∧ BookAt K H b s ks ∧ ks.Nodup ∧ ks.length ≤ 1000 ∧ ShapeAt K H s cs bs ls ∧ ShOk cs bs ∧ CAt H c v ∧ CdOk (cs ++ bs) c ∧ kt.Perm ks ∧ TabAt H d cs ls kt F ∧ AskAt H q bs ea ∧ WoOk bs ls ea ∧
  x = .fr fun p H' => DkN N H' p (kS ks) (ks.map fun z => .lst (takeL c cs ea (F z)))
section
variable {K : PySem.W.Frag} {σ : L2.St} {H : Hp} {t t2 : TE} {tr : TA} {vs : List V} {te : TE}
theorem eap_smN {Pz : V → Hp → Prop} {o : HO} (h : EvR t σ H (.sm Pz)) (h2 : EvR t2 σ H (.new o)) : EvAP (tCons t (tCons t2 tNil)) σ H (fun ws H' => ∃ z p H1, ws = [z, .ref p] ∧ Pz z H1 ∧ Ex H1 H') := fun H1 e Q q => h H1 e _ fun z H2 e2 hz =>
  h2 H2 (e.trans e2) _ fun z' H3 e3 ⟨p, hp, _⟩ => q _ H3 (e2.trans e3) ⟨z, p, H2, by rw [hp], hz, e3⟩
theorem el_listF {ks : List Str} (h : EvR te σ H (.fr fun p H' => MdAt H' p ks)) : EvL (tCB rListK (tCons te tNil)) σ H (strV ks) := fun H1 e Q q => h H1 e _ fun z H2 e2 ⟨p, hz, hp, kvs, h1, h2, _⟩ => ⟨p, kvs, by rw [hz], .inl h1, fun l hl => q l _ (fresh_back e2 hl) (e2.trans (Ex.new hl)) (by
  have h := congrArg (List.map kV) h2
  rw [List.map_map, List.map_map] at h
  rw [upd_same]
  exact congrArg (fun x => some (HO.lst x)) h)⟩
/-- a dict that was just made, walked by a dict comprehension -/
theorem dc_frK {Pd : Addr → List (Key × V) → Hp → Prop} {g : TG} {tt : TT} {tk tv : TE} {ws : List Nat} {r : Res} (h : EvR te σ H (.fr fun p H' => ∃ kvs, Dk H' p kvs ∧ Pd p kvs H')) (k : ∀ p kvs H1 o, Ex H H1 → H1 p = some (.frz o (.dK kvs)) → (∃ H2, Pd p kvs H2) → EvR (tDc (iKeys (tC (.ref p))) g tt tk tv ws) σ H1 r) : EvR (tDc (iKeysN te) g tt tk tv ws) σ H r := fun H1 e Q q => h H1 e _ fun z H2 e2 ⟨p, hz, hp, kvs, h1, h2⟩ => ⟨p, kvs, hz, h1, fun o => by
  have ex : Ex H1 (upd H2 p (.frz o (.dK kvs))) := Ex.mut e2 hp
  obtain ⟨d, o', hd, hb⟩ := k p kvs _ o (e.trans ex) upd_same ⟨H2, h2⟩ _ (Ex.refl _) Q fun z H3 e3 hz => q z H3 (ex.trans e3) (Res.anti ex hz)
  cases hd
  rcases hb with ⟨kv2, he, hb⟩ | ⟨kv2, he, _⟩
  · rw [upd_same] at he
    cases he
    exact hb
  · rw [upd_same] at he
    cases he⟩
end
/-- a block that falls through, its slots any -/
def FW (ts : TS) (σ : L2.St) (H : Hp) : Prop := ∀ (D : Ends) H1, Ex H H1 → (∀ σ' H2, Ex H1 H2 → D.nx σ' H2) → ts D σ H1
section
variable {P : Program} {w : World} {K : PySem.W.Frag} {mg : Str → Option Value} {base : Heap}
theorem Tx.pnW (T : Tx K mg) (i j : Nat) {x : Str} {st : Stmt} {N ps : List Str} {k : Nat} {R : Pre} (hd : fns[i]? = some (dG x st [])) (hg : fas[j]? = some (.glo x)) (S : FnScope N ps (defScope st)) (bi : BindN x x st ps) (len : ∀ vs H, R vs H → vs.length = ps.length)
    (body : ∀ (cdv : Value) (A : Around) (outer : List Env) (s : Shared) (H : Hp) (vs : List V) (E : XK), Room k (A.deeper (envOfC x (defScope st) s.heap.objs.size (He.ga K x) cdv)) → R vs H →
      ∃ t, PSs (cxOf CX0 P w K mg base N x (defScope st) (He.ga K x) cdv A outer s H E).nox (defBody st) t ∧ FW t (start N vs) H) : C8.Cal P w K mg base (k + 1) x (PN R) [] :=
  T.df i j hd hg S bi (fun vs H Q E h => by
    obtain ⟨r, h, _⟩ := h
    exact len vs H h.1) fun cdv A outer s H vs Q E hr h => by
    obtain ⟨r, ⟨h, hr0⟩, q⟩ := h
    subst hr0
    obtain ⟨t, h1, h2⟩ := body cdv A outer s H vs E hr h
    exact ⟨t, h1, h2 _ H (Ex.refl H) fun _ H2 e2 => q .non H2 e2 rfl⟩
def nm_Book_shape : List Str := ["self"]
theorem sc_Book_shape : FnScope nm_Book_shape ["self"] (defScope s_Book_shape) := C8.fnScope_by (by decide +kernel)
theorem ok_Book_shape (T : Tx K mg) : Prp P w K mg base 1 (He.ga K "Book") "shape" (PSp (RBShape K)) := by
  refine T.pfP 60 rfl T.c_Book T.p_Book_shape sc_Book_shape (fun _ _ _ _ _ _ us hl => match us, hl with | [_], _ => rfl) (fun vs H r h => ?_) (fun cdv A outer s H vs r E hr h => ?_)
  · obtain ⟨_, _, _, _, rfl, _⟩ := h
    rfl
  · have nd := sc_Book_shape.nd
    refine ⟨_, (pss_one (ps_ret (pe_fld (pv 0) rfl))), ?_⟩
    obtain ⟨b, dx, s', o, rfl, hi, rfl⟩ := h
    exact re_retV (ev_fld (by wtm_at "ev") hi T.c_Book T.n_own_shape rfl)
def nm_Book_parts : List Str := ["self", "part"]
theorem sc_Book_parts : FnScope nm_Book_parts ["self"] (defScope s_Book_parts) := C8.fnScope_by (by decide +kernel)
theorem ok_Book_parts (T : Tx K mg) : Prp P w K mg base 1 (He.ga K "Book") "parts" (PSp (RBParts K)) := by
  refine T.pfP 61 rfl T.c_Book T.p_Book_parts sc_Book_parts (fun _ _ _ _ _ _ us hl => match us, hl with | [_], _ => rfl) (fun vs H r h => ?_) (fun cdv A outer s H vs r E hr h => ?_)
  · obtain ⟨_, _, _, rfl, _⟩ := h
    rfl
  · have nd := sc_Book_parts.nd
    have hu := hu_of hr
    refine ⟨_, (pss_one (ps_ret (pe_lock (pe_dc (own := [("part", 1)]) (g := (gName 1)) rfl nd (pi_keys (pe_fld (pv 0) rfl)) (blkOk_by (own := [("part", 1)]) (N := nm_Book_parts) (sc := defScope s_Book_parts) (by decide +kernel)) (fun _ _ _ _ _ => (pg_name (i := 1) nd rfl (Or.inl rfl))) (fun _ _ _ _ _ => pts_nil) (fun _ _ _ _ _ => (pv 1)) (fun _ _ _ _ _ => (pe_callTy (q_listS K rfl) (by rfl) T.f_list (by decide +kernel) (pa_cons (pe_dget hu (q_fld K rfl (pv 0) rfl) (pv 1) (fun _ _ => rfl)) pa_nil))))))), ?_⟩
    obtain ⟨b, s', ks, rfl, ⟨dx, o, hi, ho⟩, hn, hl, rfl⟩ := h
    obtain ⟨kvs, g1, g2, g3, g4⟩ := ho.get hn
    have hkeys : (kvs.map fun kv => kV kv.1) = strV ks := by
      have h := congrArg (List.map kV) g3
      rw [List.map_map, List.map_map] at h
      exact h
    refine re_ret (er_lockD (d := o) g1 (fun o ho od u => by rw [List.eq_of_mem_replicate ho]; intro z; cases z) fun od => ?_)
    have nb : b ≠ o := fun z => by
      subst z
      rw [g1] at hi
      cases hi
    have hi2 : BkI K (upd H o (.frz od (.dK kvs))) b dx s' o := by
      show (upd H o _) b = _
      rw [upd_ne nb]
      exact hi
    refine er_dc (ei_keysF (ev_fld (by wtm_at "ev") hi2 T.c_Book T.n_own_parts rfl) upd_same) (by rw [List.length_map]; omega) (by rw [List.length_map, List.length_map, g2]) (by rw [List.length_replicate, List.length_map, g2]) (kS_nodup hn) (fun o ho kvs => by rw [List.eq_of_mem_replicate ho]; intro z; cases z) (fun _ => rfl) (fun i y k hy1 hk => ?_) fun i y k o' hy1 hk ho' => ?_
    · rw [hkeys] at hy1
      obtain ⟨n, hn, rfl⟩ := strV_get hy1
      rw [List.getElem?_map, hn] at hk
      have hk : (Sum.inr n : Key) = k := Option.some.inj hk
      subst hk
      exact (show Ev _ _ _ (.str n) from by wtm_at "ev")
    · rw [hkeys] at hy1
      obtain ⟨n, hn, rfl⟩ := strV_get hy1
      obtain ⟨c, hc, hc2⟩ := g4 n (List.mem_of_getElem? hn)
      have nc : c ≠ o := fun z => by
        subst z
        rw [g1] at hc2
        cases hc2
      rw [List.eq_of_mem_replicate (List.mem_of_getElem? ho')]
      refine er_lst (el_listT (a := c) (fun H1 e1 Q q => ?_) (xs := []) (by show (upd H o _) c = _; rw [upd_ne nc]; exact hc2))
      exact (ev_fld (σ := [some (.ref b), some (.str n)]) (ta := tVar 0) (by wtm_at "ev") hi2 T.c_Book T.n_own_parts rfl : Ev _ _ _ (.ref o)) H1 e1 _ fun H2 e2 => ⟨.str n, rfl, o, _, rfl, .inl ⟨kvs, Sum.inr n, .inr ⟨od, (e1.trans e2) _ _ upd_same⟩, rfl, hc.symm⟩, q H2 e2⟩
def nm_Book_promises_of : List Str := ["self", "part"]
theorem sc_Book_promises_of : FnScope nm_Book_promises_of ["self", "part"] (defScope s_Book_promises_of) := C8.fnScope_by (by decide +kernel)
theorem ok_promises_of (T : Tx K mg) : C8.Met P w K mg base 1 (He.ga K "Book") "promises_of" (PSp (RPromOf K)) [] := by
  refine T.pfM 57 rfl T.c_Book T.m_promises_of sc_Book_promises_of (fun _ _ _ _ _ _ us hl => match us, hl with | [_, _], _ => rfl) (fun vs H r h => ?_) (fun cdv A outer s H vs r E hr h => ?_)
  · obtain ⟨_, _, _, _, rfl, _⟩ := h
    rfl
  · have nd := sc_Book_promises_of.nd
    have hu := hu_of hr
    refine ⟨_, (pss_one (ps_ret (pe_dget hu (pe_fld (pv 0) rfl) (pv 1) (fun _ _ => rfl)))), ?_⟩
    obtain ⟨b, s', ks, z, rfl, ⟨dx, o, hi, ho⟩, hn, hz, rfl⟩ := h
    obtain ⟨kvs, g1, g2, g3, g4⟩ := ho.get hn
    obtain ⟨c, hc, hc2⟩ := g4 z hz
    have h0 : Ev (tDGet (tFld K (tVar 0) "own_parts") (tVar 1)) (start nm_Book_promises_of [.ref b, .str z]) H (.ref c) := ev_dgetS (ev_fld (by wtm_at "ev") hi T.c_Book T.n_own_parts rfl) (by wtm_at "ev") g1 hc
    exact re_ret fun H1 e1 Q q => h0 H1 e1 Q fun H2 e2 => q _ H2 e2 ⟨c, rfl, (e1.trans e2) _ _ hc2⟩
def nm_need_book : List Str := ["book"]
theorem sc_need_book : FnScope nm_need_book ["book"] (defScope s_need_book) := C8.fnScope_by (by decide +kernel)
theorem ok_need_book (T : Tx K mg) : C8.Cal P w K mg base 1 "need_book" (PN (PBook K)) [] := by
  refine T.pn 23 23 rfl rfl sc_need_book (fun _ _ _ _ _ _ us hl => match us, hl with | [_], _ => rfl) (fun vs H h => ?_) (fun cdv A outer s H vs E hr h => ?_)
  · obtain ⟨_, _, _, rfl, _⟩ := h
    rfl
  · have nd := sc_need_book.nd
    refine ⟨_, (pss_one (ps_if (pt_not (pt_val (pe_callB (cr_isC T.is_Book) (by rfl) T.f_isinstance (by decide +kernel) (pa_cons (pv 0) (pa_cons (pe_glob (v := .ref (He.ga K "Book")) (by rfl) T.g_Book rfl) pa_nil)))))
      (pss_one ps_never)
      pss_nil)), ?_⟩
    obtain ⟨b, s', ks, rfl, dx, o, hi, _⟩ := h
    exact fr_no (et_not_f (et_test (ev_isC (by wtm_at "ev") hi)))
def nm_are_rows : List Str := ["book", "part", "thing", "row"]
theorem sc_are_rows : FnScope nm_are_rows ["book", "part", "thing"] (defScope s_are_rows) := C8.fnScope_by (by decide +kernel)
theorem ok_are_rows (T : Tx K mg) (C_is_list : C8.Cal P w K mg base 1 "is_list" (PSp RYes) []) (P_shape : Prp P w K mg base 1 (He.ga K "Book") "shape" (PSp (RBShape K))) (M_is_row : C8.Met P w K mg base 3 (He.ga K "Shape") "is_row" (PSp (RIsRow K)) []) (C_do_fit : C8.Cal P w K mg base 8 "do_fit" (PSp RFit) [])
    (M_promises_of : C8.Met P w K mg base 1 (He.ga K "Book") "promises_of" (PSp (RPromOf K)) []) (C_row_worths : C8.Cal P w K mg base 3 "row_worths" (PSp (RRowW K)) []) : C8.Cal P w K mg base 9 "are_rows" (PSp (RAreRows K)) [] := by
  refine T.pf 24 24 rfl rfl sc_are_rows (fun _ _ _ _ _ _ us hl => match us, hl with | [_, _, _], _ => rfl) (fun vs H r h => ?_) (fun cdv A outer s H vs r E hr h => ?_)
  · obtain ⟨_, _, _, _, _, _, _, _, _, rfl, _⟩ := h
    rfl
  · have nd := sc_are_rows.nd
    refine ⟨_, (pss_cons (ps_if (PW.pt (pw_or (pt_not (pt_val (C8.pe_c C_is_list hr (by omega) (by rfl) (pa_cons (pv 2) pa_nil)))) (pw_or1 (pt_not (pt_val (pe_callB (cr_all rfl) (by rfl) T.f_all (by decide +kernel) (pa_cons (pe_lc (own := [("row", 3)]) (g := (gName 3)) rfl nd (pi_list (pv 2)) (blkOk_by (own := [("row", 3)]) (N := nm_are_rows) (sc := defScope s_are_rows) (by decide +kernel)) (fun _ _ _ _ _ => (pg_name (i := 3) nd rfl (Or.inl rfl))) (fun _ _ _ _ _ => pts_nil) (fun _ _ _ _ _ => (C8.pe_mt M_is_row hr (by omega) (pe_pr P_shape hr (by omega) (pv 0) rfl) (pa_cons (pv 3) pa_nil)))) pa_nil)))))))
      (pss_one (ps_ret pe_bl))
      pss_nil)
      (pss_one (ps_ret (pe_callB (cr_all rfl) (by rfl) T.f_all (by decide +kernel) (pa_cons (pe_lc (own := [("row", 3)]) (g := (gName 3)) rfl nd (pi_list (pv 2)) (blkOk_by (own := [("row", 3)]) (N := nm_are_rows) (sc := defScope s_are_rows) (by decide +kernel)) (fun _ _ _ _ _ => (pg_name (i := 3) nd rfl (Or.inl rfl))) (fun _ _ _ _ _ => pts_nil) (fun _ _ _ _ _ => (C8.pe_c C_do_fit hr (by omega) (by rfl) (pa_cons (C8.pe_mt M_promises_of hr (by omega) (pv 0) (pa_cons (pv 1) pa_nil)) (pa_cons (C8.pe_c C_row_worths hr (by omega) (by rfl) (pa_cons (pe_pr P_shape hr (by omega) (pv 0) rfl) (pa_cons (pv 3) pa_nil))) pa_nil))))) pa_nil))))), ?_⟩
    obtain ⟨b, s', ks, z, a, cs, bs, ls, ers, rfl, hb, hn, hz, hs, o, ⟨ts, ht, htl, hel, hte⟩, rfl⟩ := h
    obtain ⟨dx, ow, hi, _⟩ := id hb
    obtain ⟨dx2, p2, q2, r2, his, _⟩ := id hs
    have hl := o.le
    have lt : (ts.map V.ref).length ≤ 40000 := by rw [List.length_map]; omega
    have row : ∀ {i : Nat} {y : V}, (ts.map V.ref)[i]? = some y → ∃ t er, y = .ref t ∧ RowAt H t cs er ∧ WoOk cs ls er := fun {i y} hy => by
      rw [List.getElem?_map] at hy
      cases hti : ts[i]? with
      | none => rw [hti] at hy; cases hy
      | some t =>
        rw [hti] at hy
        have hlt : i < ts.length := (List.getElem?_eq_some_iff.mp hti).1
        obtain ⟨x1, x2⟩ := hte i t _ hti (List.getElem?_eq_getElem (by omega))
        exact ⟨t, _, (Option.some.inj hy).symm, x1, x2⟩
    refine re_no (et_or_f (et_not_f (et_test (ev_callP (by wtm_at "ev") (sv_yesL ht)))) (et_not_f (et_test (ev_allT (ei_list (by wtm_at "ev") ht) lt (fun _ => rfl) fun i y hy => ?_)))) ?_
    · obtain ⟨t, er, rfl, h1, h2⟩ := row hy
      exact ev_meth (ev_prop (by wtm_at "ev") hi fun H1 e => ⟨b, dx, s', ow, rfl, e _ _ hi, rfl⟩) his rfl (by wtm_at "ev") fun H1 e => ⟨s', cs, bs, ls, t, er, rfl, hs.same e, e _ _ h1, h2, by omega, rfl⟩
    · refine re_retV (ev_allT (ei_list (by wtm_at "ev") ht) lt (fun _ => rfl) fun i y hy => ?_)
      obtain ⟨t, er, rfl, h1, h2⟩ := row hy
      have n1 : cs.Nodup := (List.nodup_append.mp o.nd).1
      refine ev_callA (eap_smN (er_meth (by wtm_at "ev") hi rfl (by wtm_at "ev") fun H1 e => ⟨b, s', ks, z, rfl, hb.same e, hn, hz, rfl⟩)
        (er_call (ea_cons (ev_prop (by wtm_at "ev") hi fun H1 e => ⟨b, dx, s', ow, rfl, e _ _ hi, rfl⟩) (by wtm_at "ev")) fun H1 e => ⟨s', cs, bs, ls, t, er, rfl, hs.same e, e _ _ h1, n1, rfl⟩)) ?_
      rintro ws H1 e ⟨v, p, H2, hw, ⟨t', ht', ht2⟩, e2⟩
      exact ⟨.ref p, t', by rw [hw, ht']; rfl, e2 _ _ ht2, rfl⟩
def nm_need_table : List Str := ["book", "table", "parts", "part"]
theorem sc_need_table : FnScope nm_need_table ["book", "table"] (defScope s_need_table) := C8.fnScope_by (by decide +kernel)
theorem ok_need_table (T : Tx K mg) (P_parts : Prp P w K mg base 1 (He.ga K "Book") "parts" (PSp (RBParts K))) (C_are_rows : C8.Cal P w K mg base 9 "are_rows" (PSp (RAreRows K)) []) : C8.Cal P w K mg base 10 "need_table" (PN (PTable K)) [] := by
  refine T.pnW 25 25 rfl rfl sc_need_table (fun _ _ _ _ _ _ us hl => match us, hl with | [_, _], _ => rfl) (fun vs H h => ?_) (fun cdv A outer s H vs E hr h => ?_)
  · obtain ⟨_, _, _, _, _, _, _, _, _, rfl, _⟩ := h
    rfl
  · have nd := sc_need_table.nd
    have hu := hu_of hr
    refine ⟨_, (pss_cons (ps_set (i := 2) nd rfl (Or.inl rfl) (pe_callTy (cr_listK rfl) (by rfl) T.f_list (by decide +kernel) (pa_cons (pe_pr P_parts hr (by omega) (pv 0) rfl) pa_nil)))
      (pss_cons (ps_if (PW.pt (pw_or (pt_not (pt_val (pe_callB call_isi (by rfl) T.f_isinstance (by decide +kernel) (pa_cons (pv 1) (pa_cons (pe_bltn (v := .ty "dict") (u := .type "dict") (by rfl) T.f_dict (by decide +kernel) rfl) pa_nil))))) (pw_or (pt_cmpR op_ne (pe_callB cr_lenK (by rfl) T.f_len PySem.boot_len (pa_cons (pv 1) pa_nil)) (pe_callB cr_len (by rfl) T.f_len PySem.boot_len (pa_cons (pv 2) pa_nil)) (nomark _)) (pw_or1 (pt_not (pt_val (pe_callB (cr_all rfl) (by rfl) T.f_all (by decide +kernel) (pa_cons (pe_lc (own := [("part", 3)]) (g := (gName 3)) rfl nd (pi_list (pv 2)) (blkOk_by (own := [("part", 3)]) (N := nm_need_table) (sc := defScope s_need_table) (by decide +kernel)) (fun _ _ _ _ _ => (pg_name (i := 3) nd rfl (Or.inl rfl))) (fun _ _ _ _ _ => pts_nil) (fun _ _ _ _ _ => (pe_cmp (pc_din hu (pv 3) (pv 1))))) pa_nil))))))))
      (pss_one ps_never)
      pss_nil)
      (pss_one (ps_for PassesOwn.never rfl (pi_list (pv 2)) (pg_name (i := 3) nd rfl (Or.inl rfl))
      (pss_one (ps_if (pt_not (pt_val (C8.pe_c C_are_rows hr (by omega) (by rfl) (pa_cons (pv 0) (pa_cons (pv 3) (pa_cons (pe_dget hu (pv 1) (pv 3) (fun _ _ => rfl)) pa_nil))))))
      (pss_one ps_never)
      pss_nil)))))), ?_⟩
    obtain ⟨b, s', ks, d, cs, bs, ls, kt, F, rfl, hb, hn, hl, hs, o, hp, kvs, hd, hk, hv⟩ := h
    obtain ⟨dx, ow, hi, _⟩ := id hb
    have kl : kvs.length = ks.length := by
      have h := congrArg List.length hk
      rw [List.length_map, List.length_map, hp.length_eq] at h
      exact h
    have lk : (strV ks).length = ks.length := List.length_map ..
    have val : ∀ {i : Nat} {y : V}, (strV ks)[i]? = some y → ∃ z a, y = .str z ∧ z ∈ ks ∧ valV kvs (Sum.inr z : Key) = some (.ref a) ∧ RowsAt H a cs ls (F z) := fun {i y} hy => by
      obtain ⟨z, hz, rfl⟩ := strV_get hy
      have hm := List.mem_of_getElem? hz
      obtain ⟨a, h1, h2⟩ := hv z (hp.mem_iff.mpr hm)
      exact ⟨z, a, rfl, hm, h1, h2⟩
    refine fun D H0 e0 fin => ?_
    refine q_asgL (xs := strV ks) (EvL.mono e0 (el_listF (er_prop (by wtm_at "ev") hi fun H1 e => ⟨b, s', ks, rfl, hb.same e, hn, hl, rfl⟩))) fun p H1 hp1 e1 h1 => ?_
    have ex := e0.trans e1
    have hd1 := ex _ _ hd
    refine d_no (et_or_f (et_not_f (et_test (ev_isi (by wtm_at "ev") (.dK hd1) kit_dd))) (et_or_f (et_test (ev_ne (ev_lenK (by wtm_at "ev") hd1 rfl) (ev_lenL (by wtm_at "ev") h1 rfl) rfl (by rw [kl, lk]; exact ndec_int_eq rfl))) (et_not_f (et_test (ev_allT (ei_list (by wtm_at "ev") h1) (by rw [lk]; omega) (fun _ => rfl) fun i y hy => ?_))))) fun H2 e2 => ?_
    · obtain ⟨z, a, rfl, hm, hv1, _⟩ := val hy
      exact ev_din (by wtm_at "ev") (by wtm_at "ev") hd1 (by rw [hv1]; rfl)
    · have h2 := e2 _ _ h1
      have hd2 := e2 _ _ hd1
      refine d_for (ei_list (by wtm_at "ev") h2) (fun i y hy => ?_) (fun H3 e3 => fin _ H3 (e1.trans (e2.trans e3))) fun y H3 e3 => fin _ H3 (e1.trans (e2.trans e3))
      obtain ⟨z, a, rfl, hm, hv1, hr⟩ := val hy
      exact fr_no (et_not_f (et_test (ev_callP (ea_cons (by wtm_at "ev") (ea_cons (by wtm_at "ev") (ea_cons (ev_dgetS (by wtm_at "ev") (by wtm_at "ev") hd2 hv1) ea_nil))) fun H3 e3 => ⟨b, s', ks, z, a, cs, bs, ls, F z, rfl, hb.same (ex.trans (e2.trans e3)), hn, hm, hs.same (ex.trans (e2.trans e3)), o, hr.same (ex.trans (e2.trans e3)), rfl⟩)))
def nm_taken : List Str := ["shape", "condition", "rows", "asking", "at", "row"]
theorem sc_taken : FnScope nm_taken ["shape", "condition", "rows", "asking"] (defScope s_taken) := C8.fnScope_by (by decide +kernel)
theorem ok_taken (T : Tx K mg) (C_truth_of : C8.Cal P w K mg base 7 "truth_of" (PSp (RTruth 5)) []) (C_worths_of : C8.Cal P w K mg base 4 "worths_of" (PSp (RWof K)) []) : C8.Cal P w K mg base 8 "taken" (PSp (RTaken K)) [] := by
  refine T.pf 26 26 rfl rfl sc_taken (fun _ _ _ _ _ _ us hl => match us, hl with | [_, _, _, _], _ => rfl) (fun vs H r h => ?_) (fun cdv A outer s H vs r E hr h => ?_)
  · obtain ⟨_, _, _, _, _, _, _, _, _, _, rfl, _⟩ := h
    rfl
  · have nd := sc_taken.nd
    refine ⟨_, (pss_one (ps_ret (pe_lc (own := [("at", 4), ("row", 5)]) (g := _) rfl nd (pi_enum (by rfl) T.f_enumerate (pa_cons (pv 2) pa_nil)) (blkOk_by (own := [("at", 4), ("row", 5)]) (N := nm_taken) (sc := defScope s_taken) (by decide +kernel)) (fun _ _ _ _ _ => (q_gtup K rfl (n := 2) rfl (pgs_cons (pg_name (i := 4) nd rfl (Or.inl rfl)) (pgs_cons (pg_name (i := 5) nd rfl (Or.inl rfl)) pgs_nil)))) (fun _ _ _ _ _ => (pts_one (pt_cmpR op_isTB (C8.pe_c C_truth_of hr (by omega) (by rfl) (pa_cons (pv 1) (pa_cons (C8.pe_c C_worths_of hr (by omega) (by rfl) (pa_cons (pv 0) (pa_cons (pv 5) (pa_cons (pv 3) pa_nil)))) pa_nil))) pe_bl (nomark _)))) (fun _ _ _ _ _ => (pv 4))))), ?_⟩
    obtain ⟨s', v, a, d, cs, bs, ls, c, ers, ea, rfl, hs, o, hc, hok, ⟨ts, ht, htl, hel, hte⟩, hd, rfl⟩ := h
    have lt : (ts.map V.ref).length = ers.length := by rw [List.length_map, htl]
    have ln : (nums (ts.map V.ref).length).length = ers.length := by rw [List.length_map, List.length_range, lt]
    have ltb : (takeB c cs ea ers).length = ers.length := List.length_map ..
    have e0 : takeL c cs ea ers = kept (takeB c cs ea ers) (nums (ts.map V.ref).length) := by rw [lt]; rfl
    rw [e0]
    refine re_ret (er_lst (el_lcP (ep_enum (by wtm_at "ev") ht) (by omega) rfl (by omega) (fun _ _ => rfl) (fun k x y b hx hy hb => ?_) fun k x y z hx hy hz _ => ?_))
    · rw [List.getElem?_map] at hy
      cases hti : ts[k]? with
      | none => rw [hti] at hy; cases hy
      | some t =>
        rw [hti] at hy
        have hy : V.ref t = y := Option.some.inj hy
        subst hy
        have hlt : k < ts.length := (List.getElem?_eq_some_iff.mp hti).1
        have hek : ers[k]? = some (ers[k]'(by omega)) := List.getElem?_eq_getElem (by omega)
        generalize ers[k]'(by omega) = er at hek
        obtain ⟨h1, _⟩ := hte k t er hti hek
        have hb : decide (c.truth (mixW cs er ea) = some true) = b := by
          have h0 : (takeB c cs ea ers)[k]? = some (decide (c.truth (mixW cs er ea) = some true)) := by
            unfold takeB
            rw [List.getElem?_map, hek]
            rfl
          rw [h0] at hb
          exact Option.some.inj hb
        refine et_test (ev_isTB (o := c.truth (mixW cs er ea)) (ev_callA (eap_xn (by wtm_at "ev") (er_call (by wtm_at "ev") fun H1 e => ⟨s', cs, bs, ls, t, er, d, ea, rfl, hs.same e, e _ _ h1, hd.same e, o.nd, o.le, rfl⟩)) ?_) (by wtm_at "ev") hb)
        rintro ws H1 e ⟨p, hp, hp2⟩
        exact ⟨v, c, cs ++ bs, p, _, mixW cs er ea, by rw [hp]; rfl, hc.same e, hok.wf, hp2, fun x hx => wD_val hx, rfl⟩
    · rw [hx] at hz
      cases hz
      exact ev_var rfl
def nm_answer : List Str := ["book", "question", "table", "asking", "part"]
theorem sc_answer : FnScope nm_answer ["book", "question", "table", "asking"] (defScope s_answer) := C8.fnScope_by (by decide +kernel)
theorem ok_answer (T : Tx K mg) (C_need_book : C8.Cal P w K mg base 1 "need_book" (PN (PBook K)) []) (C_need_condition : C8.Cal P w K mg base 10 "need_condition" (PN (PCond K)) [.str "both"]) (C_need_table : C8.Cal P w K mg base 10 "need_table" (PN (PTable K)) []) (C_need_asking : C8.Cal P w K mg base 4 "need_asking" (PN (PAsk K)) [])
    (C_taken : C8.Cal P w K mg base 8 "taken" (PSp (RTaken K)) []) (P_shape : Prp P w K mg base 1 (He.ga K "Book") "shape" (PSp (RBShape K))) (P_parts : Prp P w K mg base 1 (He.ga K "Book") "parts" (PSp (RBParts K))) : C8.Cal P w K mg base 11 "answer" (PSp (RAnswer K)) [] := by
  refine T.pf 27 27 rfl rfl sc_answer (fun _ _ _ _ _ _ us hl => match us, hl with | [_, _, _, _], _ => rfl) (fun vs H r h => ?_) (fun cdv A outer s H vs r E hr h => ?_)
  · obtain ⟨_, _, _, _, _, _, _, _, _, _, _, _, _, _, rfl, _⟩ := h
    rfl
  · have nd := sc_answer.nd
    have hu := hu_of hr
    refine ⟨_, (pss_cons (ps_expr (C8.pe_c C_need_book hr (by omega) (by rfl) (pa_cons (pv 0) pa_nil)))
      (pss_cons (ps_expr (C8.pe_c C_need_condition hr (by omega) (by rfl) (pa_cons (pe_pr P_shape hr (by omega) (pv 0) rfl) (pa_cons (pv 1) pa_nil))))
      (pss_cons (ps_expr (C8.pe_c C_need_table hr (by omega) (by rfl) (pa_cons (pv 0) (pa_cons (pv 2) pa_nil))))
      (pss_cons (ps_expr (C8.pe_c C_need_asking hr (by omega) (by rfl) (pa_cons (pe_pr P_shape hr (by omega) (pv 0) rfl) (pa_cons (pv 3) pa_nil))))
      (pss_one (ps_ret (pe_dc (own := [("part", 4)]) (g := (gName 4)) rfl nd (pi_keysN (pe_pr P_parts hr (by omega) (pv 0) rfl)) (blkOk_by (own := [("part", 4)]) (N := nm_answer) (sc := defScope s_answer) (by decide +kernel)) (fun _ _ _ _ _ => (pg_name (i := 4) nd rfl (Or.inl rfl))) (fun _ _ _ _ _ => pts_nil) (fun _ _ _ _ _ => (pv 4)) (fun _ _ _ _ _ => (C8.pe_c C_taken hr (by omega) (by rfl) (pa_cons (pe_pr P_shape hr (by omega) (pv 0) rfl) (pa_cons (pv 1) (pa_cons (pe_dget hu (pv 2) (pv 4) (fun _ _ => rfl)) (pa_cons (pv 3) pa_nil))))))))))))), ?_⟩
    obtain ⟨b, s', v, d, q, cs, bs, ls, c, ks, kt, F, ea, N, rfl, hN, hb, hn, hl, hs, o, hc, hok, hp, htab, hq, hqo, rfl⟩ := h
    obtain ⟨dx, ow, hi, _⟩ := id hb
    obtain ⟨kvs, hd, hk, hv⟩ := id htab
    have ol := o.le
    have shp : ∀ {H1 : Hp} {σ : L2.St}, Ex H H1 → σ[0]? = some (some (.ref b)) → Ev (tProp (He.ga K "Book") (PSp (RBShape K)) [] C8.E0 (tVar 0)) σ H1 (.ref s') := fun {H1 σ} e hσ => ev_prop (ev_var hσ) (e _ _ hi) fun H2 e2 => ⟨b, dx, s', ow, rfl, e2 _ _ (e _ _ hi), rfl⟩
    refine re_drop (ev_callN (by wtm_at "ev") fun H1 e => ⟨b, s', ks, rfl, hb.same e⟩) ?_
    refine re_drop (ev_callN (ea_cons (shp (Ex.refl H) rfl) (by wtm_at "ev")) fun H1 e => ⟨s', cs, bs, ls, v, c, rfl, hs.same e, o, hc.same e, hok⟩) ?_
    refine re_drop (ev_callN (by wtm_at "ev") fun H1 e => ⟨b, s', ks, d, cs, bs, ls, kt, F, rfl, hb.same e, hn, hl, hs.same e, o, hp, htab.same e⟩) ?_
    refine re_drop (ev_callN (ea_cons (shp (Ex.refl H) rfl) (by wtm_at "ev")) fun H1 e => ⟨s', cs, bs, ls, q, ea, rfl, hs.same e, hq.same e, hqo, by omega⟩) ?_
    refine re_ret (dc_frK (Pd := fun p kvs' _ => kvs'.map (·.1) = kS ks) (fun H1 e Q fin => (er_prop (E := C8.E0) (ta := tVar 0) (σ := start nm_answer [.ref b, v, .ref d, .ref q]) (by wtm_at "ev") hi fun H1 e => ⟨b, s', ks, rfl, hb.same e, hn, hl, rfl⟩ : EvR _ _ H (.fr fun p H' => MdAt H' p ks)) H1 e Q fun z H2 e2 ⟨p, hz, hp, kv, h1, h2, _⟩ => fin z H2 e2 ⟨p, hz, hp, kv, h1, h2⟩) fun p kv H1 od e1 hf ⟨H2, hk2⟩ => ?_)
    have hkeys : (kv.map fun kv => kV kv.1) = strV ks := by
      have h := congrArg (List.map kV) hk2
      rw [List.map_map, List.map_map] at h
      exact h
    have kl : kv.length = ks.length := by
      have h := congrArg List.length hk2
      rw [List.length_map, List.length_map] at h
      exact h
    refine er_dcN (fun u hu => hN u (fresh_back e1 hu)) (ei_keysF ev_c hf) (by rw [List.length_map]; omega) (by rw [List.length_map, List.length_map, kl]) (by rw [List.length_map, List.length_map, kl]) (kS_nodup hn) (fun o ho kvs => by
      obtain ⟨z, _, rfl⟩ := List.mem_map.mp ho
      intro z
      cases z) (fun _ => rfl) (fun i y k hy1 hk => ?_) fun i y k o' hy1 hk ho' => ?_
    · rw [hkeys] at hy1
      obtain ⟨n, hn, rfl⟩ := strV_get hy1
      rw [List.getElem?_map, hn] at hk
      have hk : (Sum.inr n : Key) = k := Option.some.inj hk
      subst hk
      exact (show Ev _ _ _ (.str n) from by wtm_at "ev")
    · rw [hkeys] at hy1
      obtain ⟨n, hn, rfl⟩ := strV_get hy1
      rw [List.getElem?_map, hn] at ho'
      have ho' : HO.lst (takeL c cs ea (F n)) = o' := Option.some.inj ho'
      subst ho'
      obtain ⟨a, h1, h2⟩ := hv n (hp.mem_iff.mpr (List.mem_of_getElem? hn))
      refine er_call (ea_cons (shp e1 rfl) (ea_cons (by wtm_at "ev") (ea_cons (ev_dgetS (by wtm_at "ev") (by wtm_at "ev") (e1 _ _ hd) h1) (by wtm_at "ev")))) fun H3 e3 => ?_
      exact ⟨s', v, a, q, cs, bs, ls, c, F n, ea, rfl, hs.same (e1.trans e3), o, hc.same (e1.trans e3), hok, h2.same (e1.trans e3), hq.same (e1.trans e3), rfl⟩
end
end Ot
/-! Otherworths k13: the law's draws. The draw's dict and its list of great numbers change; they are hidden from what is known -/
namespace Ot
open PySem PySem.Spec PyProof.Rows L2 Evl
structure Dw where
  d : Addr
  g : Addr
  c : Addr
def kvD (q : Dw) (r t : Int) : List (Key × V) := [(Sum.inr "great", .ref q.g), (Sum.inr "rest", .int r), (Sum.inr "cells", .ref q.c), (Sum.inr "turn", .int t)]
def Dr (q : Dw) (H : Hp) : Prop := q.g ≠ q.c ∧ ∃ (r t : Int) (gs cs : List Int), Dk H q.d (kvD q r t) ∧ Ls H q.g (gs.map V.int) ∧ Ls H q.c (cs.map V.int)
def hid (q : Dw) (H : Hp) : Hp := fun a => if a = q.d ∨ a = q.g then none else H a
/-- H draws by q, and holds what B says of the rest -/
structure Sd (q : Dw) (B H : Hp) : Prop where
  dr : Dr q H
  ex : Ex B (hid q H)
section
variable {q : Dw} {B B' H H' : Hp} {D : Addr} {o : HO}
theorem hid_le : Ex (hid q H) H := fun a u h => by
  unfold hid at h
  by_cases z : a = q.d ∨ a = q.g
  · rw [if_pos z] at h
    cases h
  · rw [if_neg z] at h
    exact h
theorem hid_at {a : Addr} (h1 : a ≠ q.d) (h2 : a ≠ q.g) : hid q H a = H a := if_neg fun z => z.elim h1 h2
theorem hid_mono (e : Ex H H') : Ex (hid q H) (hid q H') := fun a u h => by
  unfold hid at h ⊢
  by_cases z : a = q.d ∨ a = q.g
  · rw [if_pos z] at h
    cases h
  · rw [if_neg z] at h ⊢
    exact e _ _ h
theorem Sd.le (s : Sd q B H) : Ex B H := s.ex.trans hid_le
theorem Dr.mono (e : Ex H H') (h : Dr q H) : Dr q H' := let ⟨n, r, t, gs, cs, a, b, c⟩ := h; ⟨n, r, t, gs, cs, e _ _ a, e _ _ b, e _ _ c⟩
theorem Sd.step (s : Sd q B H) (e : Ex H H') : Sd q (hid q H') H' ∧ Ex B (hid q H') := ⟨⟨s.dr.mono e, Ex.refl _⟩, s.ex.trans (hid_mono e)⟩
theorem Sd.base (s : Sd q B H) (e : Ex B' B) : Sd q B' H := ⟨s.dr, e.trans s.ex⟩
theorem Sd.none (s : Sd q B H) (h : H D = none) : B D = none := fresh_back s.le h
theorem Dr.ne (s : Dr q H) (h : H D = none) : D ≠ q.d ∧ D ≠ q.g ∧ D ≠ q.c := by
  obtain ⟨_, r, t, gs, cs, a, b, c⟩ := s
  have a : H q.d = _ := a
  have b : H q.g = _ := b
  have c : H q.c = _ := c
  refine ⟨fun z => ?_, fun z => ?_, fun z => ?_⟩
  · rw [z, a] at h; cases h
  · rw [z, b] at h; cases h
  · rw [z, c] at h; cases h
theorem Sd.ne (s : Sd q B H) (h : B D = some o) : D ≠ q.d ∧ D ≠ q.g := by
  have h := s.ex _ _ h
  unfold hid at h
  by_cases z : D = q.d ∨ D = q.g
  · rw [if_pos z] at h
    cases h
  · exact ⟨fun e => z (.inl e), fun e => z (.inr e)⟩
theorem Sd.upd (s : Sd q B H) (n1 : D ≠ q.d) (n2 : D ≠ q.g) (n3 : D ≠ q.c) : Sd q (upd B D o) (upd H D o) := by
  obtain ⟨⟨m, r, t, gs, cs, a, b, c⟩, x⟩ := s
  refine ⟨⟨m, r, t, gs, cs, ?_, ?_, ?_⟩, fun u v h => ?_⟩
  · show (L2.upd H D o) _ = _
    rw [upd_ne (Ne.symm n1)]
    exact a
  · show (L2.upd H D o) _ = _
    rw [upd_ne (Ne.symm n2)]
    exact b
  · show (L2.upd H D o) _ = _
    rw [upd_ne (Ne.symm n3)]
    exact c
  · by_cases z : u = D
    · subst z
      rw [hid_at n1 n2]
      rw [upd_same] at h ⊢
      exact h
    · rw [upd_ne z] at h
      have h := x _ _ h
      unfold hid at h ⊢
      by_cases y : u = q.d ∨ u = q.g
      · rw [if_pos y] at h
        cases h
      · rw [if_neg y] at h ⊢
        rw [upd_ne z]
        exact h
end
/-! ### readings under draws -/
abbrev PV : Type := V → Hp → Prop
def EvX (q : Dw) (te : TE) (σ : L2.St) (B : Hp) (P : PV) : Prop := ∀ H, Sd q B H → ∀ Q : VK, (∀ z B' H', Ex B B' → Sd q B' H' → P z B' → Q z H') → te σ H Q
def EvXT (q : Dw) (tt : TT) (σ : L2.St) (B : Hp) (P : Bool → Hp → Prop) : Prop := ∀ H, Sd q B H → ∀ Q : Bool → Hp → Prop, (∀ z B' H', Ex B B' → Sd q B' H' → P z B' → Q z H') → tt σ H Q
def EvXA (q : Dw) (ta : TA) (σ : L2.St) (B : Hp) (P : List V → Hp → Prop) : Prop := ∀ H, Sd q B H → ∀ Q : List V → Hp → Prop, (∀ z B' H', Ex B B' → Sd q B' H' → P z B' → Q z H') → ta σ H Q
/-- a block that hands back -/
def XR (q : Dw) (t : TS) (σ : L2.St) (B : Hp) (P : PV) : Prop := ∀ (D : Ends) H, Sd q B H → (∀ z B' H', Ex B B' → Sd q B' H' → P z B' → D.rt z H') → t D σ H
/-- a block that falls through -/
def XB (q : Dw) (t : TS) (σ : L2.St) (B : Hp) (M : L2.St → Hp → Prop) : Prop := ∀ (D : Ends) H, Sd q B H → (∀ σ' B' H', Sd q B' H' → M σ' B' → D.nx σ' H') → t D σ H
/-- what is walked under draws -/
def EvIX (q : Dw) (wi : TI) (σ : L2.St) (B : Hp) (P : List V → Hp → Prop) : Prop := ∀ H, Sd q B H → ∀ R : It → Hp → Prop, (∀ J (xs : List V) B1 H1, Ex B B1 → Sd q B1 H1 → P xs B1 → (∃ G : Hp → Prop, Walk J xs.length G (YAt xs) ∧ ∀ B3 H3, Ex B1 B3 → Sd q B3 H3 → G H3) → R J H1) → wi σ H R
/-- the promise of a def that draws: its first argument is the draw -/
abbrev DRel : Type := List V → Hp → PV → Prop
def DSp (R : DRel) : Sp := fun vs H Q _ => ∃ (q : Dw) (rest : List V) (B : Hp) (P : PV), vs = .ref q.d :: rest ∧ Sd q B H ∧ R rest B P ∧ ∀ z B' H', Ex B B' → Sd q B' H' → P z B' → Q z H'
section
variable {K : PySem.W.Frag} {q : Dw} {σ : L2.St} {B B0 : Hp} {te ta' tb tl : TE} {tt uu : TT} {ta tr : TA} {x y v : V} {vs : List V} {o : HO} {P P1 P2 : PV} {R : DRel} {E : XK} {t tu tz : TS} {i j : Nat} {wi : TI} {xs : List V} {a : Addr} {M : L2.St → Hp → Prop} {Pb Pb1 : Bool → Hp → Prop} {ws : List Nat}
theorem x_ev (h : Ev te σ B v) : EvX q te σ B (fun z _ => z = v) := fun H s Q k => h H s.le _ fun H2 e2 => k v _ H2 (s.step e2).2 (s.step e2).1 rfl
theorem x_new (h : EvR te σ B (.new o)) : EvX q te σ B (fun z B' => ∃ p, z = .ref p ∧ B p = none ∧ p ≠ q.c ∧ B' p = some o) := fun H s Q k => h H s.le _ fun z H2 e2 ⟨p, hz, h1, h2⟩ => by
  obtain ⟨n1, n2, n3⟩ := s.dr.ne h1
  exact k z _ H2 (s.step e2).2 (s.step e2).1 ⟨p, hz, s.none h1, n3, by rw [hid_at n1 n2]; exact h2⟩
theorem x_fr {Pf : Addr → Hp → Prop} (h : EvR te σ B (.fr Pf)) (ht : ∀ p H H2, Sd q B H → Ex H H2 → H p = none → Pf p H2 → P (.ref p) (hid q H2)) : EvX q te σ B P := fun H s Q k => h H s.le _ fun z H2 e2 ⟨p, hz, h1, h2⟩ => by
  subst hz
  exact k _ _ H2 (s.step e2).2 (s.step e2).1 (ht p H H2 s e2 h1 h2)
theorem x_imp (h : EvX q te σ B P1) (hi : ∀ z B', Ex B B' → P1 z B' → P z B') : EvX q te σ B P := fun H s Q k => h H s Q fun z B' H' e s' p => k z B' H' e s' (hi z B' e p)
theorem xa_ea (h : EvA ta σ B vs) : EvXA q ta σ B (fun z _ => z = vs) := fun H s Q k => h H s.le _ fun H2 e2 => k vs _ H2 (s.step e2).2 (s.step e2).1 rfl
theorem xa_cons {Pa : List V → Hp → Prop} (h : EvX q te σ B P1) (hr : ∀ z B1, Ex B B1 → P1 z B1 → EvXA q tr σ B1 (fun r B' => Pa (z :: r) B')) : EvXA q (tCons te tr) σ B Pa := fun H s Q k =>
  h H s _ fun z B1 H1 e1 s1 p1 => hr z B1 e1 p1 H1 s1 _ fun r B2 H2 e2 s2 p2 => k _ B2 H2 (e1.trans e2) s2 p2
theorem x_call {Pa : List V → Hp → Prop} (h : EvXA q ta σ B Pa) (hs : ∀ ws B1, Ex B B1 → Pa ws B1 → ∃ rest P1, ws = .ref q.d :: rest ∧ R rest B1 P1 ∧ ∀ z B', Ex B1 B' → P1 z B' → P z B') : EvX q (tCall (DSp R) [] E ta) σ B P := fun H s Q k =>
  h H s _ fun ws B1 H1 e1 s1 p1 => by
    obtain ⟨rest, P1, hw, hR, hP⟩ := hs ws B1 e1 p1
    show DSp R (ws ++ []) H1 Q E
    rw [List.append_nil]
    exact ⟨q, rest, B1, P1, hw, s1, hR, fun z B' H' e' s' p' => k z B' H' (e1.trans e') s' (hP z B' e' p')⟩
/-- the arguments plain -/
theorem x_callE (h : EvA ta σ B (.ref q.d :: vs)) (hs : ∀ B1, Ex B B1 → R vs B1 P) : EvX q (tCall (DSp R) [] E ta) σ B P := x_call (xa_ea h) fun ws B1 e1 hw => ⟨vs, P, hw, hs B1 e1, fun z B' _ p => p⟩
theorem x_op {r : R2} (ha : EvX q ta' σ B P1) (hb : ∀ x B1, Ex B B1 → P1 x B1 → EvX q tb σ B1 P2) (hr : ∀ x y B1 B2, Ex B B1 → P1 x B1 → Ex B1 B2 → P2 y B2 → ∀ H, Sd q B2 H → ∀ Q : VK, (∀ z B' H', Ex B2 B' → Sd q B' H' → P z B' → Q z H') → r x y H Q) : EvX q (tOp r ta' tb) σ B P := fun H s Q k =>
  ha H s _ fun x B1 H1 e1 s1 p1 => hb x B1 e1 p1 H1 s1 _ fun y B2 H2 e2 s2 p2 => hr x y B1 B2 e1 p1 e2 p2 H2 s2 Q fun z B' H' e' s' p' => k z B' H' ((e1.trans e2).trans e') s' p'
/-- an operator on two ints -/
theorem x_i0 {f : Int → Int → V} {A1 A2 : Int → Prop} (ha : EvX q ta' σ B (fun z _ => ∃ i, z = .int i ∧ A1 i)) (hb : ∀ B1, Ex B B1 → EvX q tb σ B1 (fun z _ => ∃ i, z = .int i ∧ A2 i)) : EvX q (tOp (rI0 f) ta' tb) σ B (fun z _ => ∃ i j, z = f i j ∧ A1 i ∧ A2 j) :=
  x_op ha (fun x B1 e _ => hb B1 e) fun x y B1 B2 _ ⟨i, hi, hi2⟩ _ ⟨j, hj, hj2⟩ H s Q k => ⟨i, j, hi, hj, k _ B2 H (Ex.refl _) s ⟨i, j, rfl, hi2, hj2⟩⟩
theorem x_int {i : Int} {A : Int → Prop} (h : Ev te σ B (.int i)) (ha : A i) : EvX q te σ B (fun z _ => ∃ i, z = .int i ∧ A i) := x_imp (x_ev h) fun z B' _ hz => ⟨i, hz, ha⟩
theorem x_if {Pt : Bool → Hp → Prop} (h : EvXT q tt σ B Pt) (h1 : ∀ B1, Ex B B1 → Pt true B1 → EvX q ta' σ B1 P) (h0 : ∀ B1, Ex B B1 → Pt false B1 → EvX q tb σ B1 P) : EvX q (tIf tt ta' tb) σ B P := fun H s Q k => h H s _ fun b B1 H1 e1 s1 p1 => by
  cases b with
  | true =>
    show ta' σ H1 _
    exact h1 B1 e1 p1 H1 s1 _ fun z B' H' e' s' p' => k z B' H' (e1.trans e') s' p'
  | false =>
    show tb σ H1 _
    exact h0 B1 e1 p1 H1 s1 _ fun z B' H' e' s' p' => k z B' H' (e1.trans e') s' p'
theorem x_tup {Pa : List V → Hp → Prop} (h : EvXA q ta σ B Pa) (hl : ∀ ws B1, Pa ws B1 → ws.length ≤ 100000) : EvX q (tTup ta) σ B (fun z B' => ∃ p ws B1, z = .ref p ∧ Pa ws B1 ∧ Ex B1 B' ∧ B1 p = none ∧ Tp B' p ws) := fun H s Q k => h H s _ fun ws B1 H1 e1 s1 p1 => ⟨sz_of (hl ws B1 p1), fun p hp => by
  obtain ⟨n1, n2, n3⟩ := s1.dr.ne hp
  have hb := s1.none hp
  exact k _ (upd B1 p (.tup ws)) _ (e1.trans (Ex.new hb)) (s1.upd n1 n2 n3) ⟨p, ws, B1, rfl, p1, Ex.new hb, hb, upd_same⟩⟩
/-! tests -/
theorem xt_et {b : Bool} (h : EvT tt σ B b) : EvXT q tt σ B (fun z _ => z = b) := fun H s Q k => h H s.le _ fun H2 e2 => k b _ H2 (s.step e2).2 (s.step e2).1 rfl
theorem xt_test (h : EvX q te σ B P) (hb : ∀ z B', P z B' → ∃ b, z = .bl b ∧ Pb b B') : EvXT q (tTest te) σ B Pb := fun H s Q k => h H s _ fun z B' H' e' s' p' => by
  obtain ⟨b, hz, hp⟩ := hb z B' p'
  exact ⟨b, hz, k b B' H' e' s' hp⟩
theorem xt_B (h : EvX q te σ B P) (hb : ∀ z B', P z B' → ∃ b, z = .bl b ∧ Pb b B') : EvXT q (tB te) σ B Pb := fun H s Q k => h H s _ fun z B' H' e' s' p' => by
  obtain ⟨b, hz, hp⟩ := hb z B' p'
  exact ⟨b, hz, k b B' H' e' s' hp⟩
theorem xt_and (h1 : EvXT q tt σ B Pb1) (h2 : ∀ B1, Ex B B1 → Pb1 true B1 → EvXT q uu σ B1 Pb) (h0 : ∀ B1, Pb1 false B1 → Pb false B1) : EvXT q (tAnd tt uu) σ B Pb := fun H s Q k => h1 H s _ fun b B1 H1 e1 s1 p1 => by
  cases b with
  | true =>
    show uu σ H1 Q
    exact h2 B1 e1 p1 H1 s1 Q fun z B' H' e' s' p' => k z B' H' (e1.trans e') s' p'
  | false =>
    show Q false H1
    exact k false B1 H1 e1 s1 (h0 B1 p1)
theorem xt_or (h1 : EvXT q tt σ B Pb1) (h2 : ∀ B1, Ex B B1 → Pb1 false B1 → EvXT q uu σ B1 Pb) (h0 : ∀ B1, Pb1 true B1 → Pb true B1) : EvXT q (tOr tt uu) σ B Pb := fun H s Q k => h1 H s _ fun b B1 H1 e1 s1 p1 => by
  cases b with
  | false =>
    show uu σ H1 Q
    exact h2 B1 e1 p1 H1 s1 Q fun z B' H' e' s' p' => k z B' H' (e1.trans e') s' p'
  | true =>
    show Q true H1
    exact k true B1 H1 e1 s1 (h0 B1 p1)
/-! blocks -/
theorem xr_ret (h : EvX q te σ B P) : XR q (tRet te) σ B P := fun _ H s k => h H s _ k
theorem xr_asg (h : EvX q te σ B P1) (k : ∀ z B1, Ex B B1 → P1 z B1 → XR q tz (σ.set i (some z)) B1 P) : XR q (tSeq (tAsg te (gName i)) tz) σ B P := fun D H s f => h H s _ fun z B1 H1 e1 s1 p1 => k z B1 e1 p1 D H1 s1 fun z' B' H' e' s' p' => f z' B' H' (e1.trans e') s' p'
theorem xr_if {Pt : Bool → Hp → Prop} (h : EvXT q tt σ B Pt) (h1 : ∀ B1, Ex B B1 → Pt true B1 → XR q tu σ B1 P) (h0 : ∀ B1, Ex B B1 → Pt false B1 → XR q tz σ B1 P) : XR q (tSeq (tIfS tt tu tNext) tz) σ B P := fun D H s f => h H s _ fun b B1 H1 e1 s1 p1 => by
  cases b with
  | true =>
    show tu _ σ H1
    exact h1 B1 e1 p1 _ H1 s1 fun z' B' H' e' s' p' => f z' B' H' (e1.trans e') s' p'
  | false =>
    show tz D σ H1
    exact h0 B1 e1 p1 D H1 s1 fun z' B' H' e' s' p' => f z' B' H' (e1.trans e') s' p'
/-- an if that falls through either way -/
theorem xr_ifB {Pt : Bool → Hp → Prop} (h : EvXT q tt σ B Pt) (h1 : ∀ B1, Ex B B1 → Pt true B1 → XB q tu σ B1 M) (h0 : ∀ B1, Ex B B1 → Pt false B1 → M σ B1) (he : ∀ σ' B', M σ' B' → Ex B B') (k : ∀ σ' B', M σ' B' → XR q tz σ' B' P) : XR q (tSeq (tIfS tt tu tNext) tz) σ B P := fun D H s f => h H s _ fun b B1 H1 e1 s1 p1 => by
  cases b with
  | true =>
    show tu _ σ H1
    exact h1 B1 e1 p1 _ H1 s1 fun σ' B' H' s' m => k σ' B' m D H' s' fun z' B2 H2 e2 s2 p2 => f z' B2 H2 ((he σ' B' m).trans e2) s2 p2
  | false =>
    show tz D σ H1
    exact k σ B1 (h0 B1 e1 p1) D H1 s1 fun z' B' H' e' s' p' => f z' B' H' (e1.trans e') s' p'
theorem xb_asg (h : EvX q te σ B P1) (k : ∀ z B1, Ex B B1 → P1 z B1 → M (σ.set i (some z)) B1) : XB q (tAsg te (gName i)) σ B M := fun D H s f => h H s _ fun z B1 H1 e1 s1 p1 => f _ B1 H1 s1 (k z B1 e1 p1)
theorem xb_asgS (h : EvX q te σ B P1) (k : ∀ z B1, Ex B B1 → P1 z B1 → XB q tz (σ.set i (some z)) B1 M) : XB q (tSeq (tAsg te (gName i)) tz) σ B M := fun D H s f => h H s _ fun z B1 H1 e1 s1 p1 => k z B1 e1 p1 D H1 s1 f
theorem xb_ifB {M1 : L2.St → Hp → Prop} {Pt : Bool → Hp → Prop} (h : EvXT q tt σ B Pt) (h1 : ∀ B1, Ex B B1 → Pt true B1 → XB q tu σ B1 M1) (h0 : ∀ B1, Ex B B1 → Pt false B1 → M1 σ B1) (k : ∀ σ' B', M1 σ' B' → XB q tz σ' B' M) : XB q (tSeq (tIfS tt tu tNext) tz) σ B M := fun D H s f => h H s _ fun b B1 H1 e1 s1 p1 => by
  cases b with
  | true =>
    show tu _ σ H1
    exact h1 B1 e1 p1 _ H1 s1 fun σ' B' H' s' m => k σ' B' m D H' s' f
  | false =>
    show tz D σ H1
    exact k σ B1 (h0 B1 e1 p1) D H1 s1 f
/-- found.append(e) -/
theorem xb_app {l : Addr} {zs : List V} (hl : Ls B l zs) (hc : l ≠ q.c) (hz : zs.length < 100000) (ha : Ev ta' σ B (.ref l)) (h : EvX q te σ B P1) (k : ∀ z B1, Ex B B1 → P1 z B1 → M σ (upd B1 l (.lst (zs ++ [z])))) : XB q (tDrop (tBM K "list" rAppend ta' (tCons te tNil))) σ B M := fun D H s f =>
  ha H s.le _ fun H1 e1 => ⟨Or.inl ⟨rfl, zs, sq_of ((s.le.trans e1) l _ hl)⟩, h H1 ((s.step e1).1.base (s.step e1).2) _ fun z B2 H2 e2 s2 p2 => ⟨l, zs, z, rfl, rfl, s2.le _ _ (e2 _ _ hl), sz_lt hz, by
    obtain ⟨n1, n2⟩ := s2.ne (e2 _ _ hl)
    exact f σ _ _ (s2.upd n1 n2 hc) (k z B2 e2 p2)⟩⟩
/-! walks -/
theorem wx_list (h : Ev tl σ B (.ref a)) (hx : Ls B a xs) : EvIX q (iList K tl) σ B (fun ys _ => ys = xs) := fun H s R k => h H s.le _ fun H2 e2 => ⟨a, rfl, ⟨xs, sq_of ((s.le.trans e2) _ _ hx)⟩,
  k _ xs _ H2 (s.step e2).2 (s.step e2).1 rfl ⟨_, walk_list, fun B3 H3 e3 s3 => sq_of (s3.le _ _ (e3 _ _ ((s.step e2).2 _ _ hx)))⟩⟩
theorem wx_listX {Px : List V → Hp → Prop} (h : EvX q tl σ B (fun z B' => ∃ p ys, z = .ref p ∧ Ls B' p ys ∧ Px ys B')) : EvIX q (iList K tl) σ B Px := fun H s R k => h H s _ fun z B1 H1 e1 s1 ⟨p, ys, hz, hp, hx⟩ => ⟨p, hz, ⟨ys, sq_of (s1.le _ _ hp)⟩,
  k _ ys B1 H1 e1 s1 hx ⟨_, walk_list, fun B3 H3 e3 s3 => sq_of (s3.le _ _ (e3 _ _ hp))⟩⟩
theorem wx_rangeX {ta : TA} {A : Nat → Hp → Prop} (h : EvXA q ta σ B (fun ws B' => ∃ n : Nat, ws = [.int (n : Int)] ∧ n ≤ 100000 ∧ A n B')) : EvIX q (iRng1 ta) σ B (fun ys B' => ∃ n : Nat, ys = nums n ∧ A n B') := fun H s R k => h H s _ fun ws B1 H1 e1 s1 ⟨n, hw, hn, ha⟩ =>
  ⟨n, hw, by omega, by omega, k _ (nums n) B1 H1 e1 s1 ⟨n, rfl, ha⟩ ⟨fun _ => True, by
    have hl : (nums n).length = (n : Int).toNat := by rw [List.length_map, List.length_range, Int.toNat_natCast]
    rw [hl]
    refine walk_range.mono (fun _ g => g) fun i H x H' hi _ y => ⟨y.1, ?_⟩
    have hx : x = .int (0 + i) := y.2
    rw [Int.toNat_natCast] at hi
    rw [nums_get hi, hx, Int.zero_add], fun _ _ _ _ => trivial⟩⟩
theorem xr_for {Px : List V → Hp → Prop} (hi : EvIX q wi σ B Px) (hs : ∀ xs B1, Ex B B1 → Px xs B1 → ∃ M : Nat → L2.St → Hp → Prop, M 0 σ B1 ∧ (∀ i σ' B', M i σ' B' → Ex B1 B') ∧ (∀ i x σ' B', xs[i]? = some x → M i σ' B' → XB q t (σ'.set j (some x)) B' (M (i + 1))) ∧ ∀ σ' B', M xs.length σ' B' → XR q tz σ' B' P) :
    XR q (tSeq (tFor wi (gName j) t) tz) σ B P := fun D H s f => hi H s _ fun J xs B1 H1 e1 s1 hx ⟨G, W, hG⟩ => by
  obtain ⟨M, m0, me, mt, mz⟩ := hs xs B1 e1 hx
  exact for_it W (D := { D with nx := tz D }) (fun i σ' H' => ∃ B', Sd q B' H' ∧ M i σ' B') ⟨B1, s1, m0⟩ (fun i σ' H' _ ⟨B', s', m⟩ => hG B' H' (me i σ' B' m) s')
    (fun i x σ' H' H2 hi ⟨B', s', m⟩ y => by
      obtain ⟨rfl, hx⟩ := y
      show t _ (σ'.set j (some x)) H2
      exact mt i x σ' B' hx m _ H2 s' fun σ2 B2 H3 s3 m3 => ⟨B2, s3, m3⟩)
    (fun σ' H' ⟨B', s', m⟩ => mz σ' B' m D H' s' fun z B2 H2 e2 s2 p2 => f z B2 H2 ((e1.trans (me _ σ' B' m)).trans e2) s2 p2)
/-- [e for x in ..] under draws -/
theorem x_lc {Px : List V → Hp → Prop} {Pe : V → V → Hp → Prop} (hi : EvIX q wi σ B Px) (hl : ∀ xs B1, Px xs B1 → xs.length ≤ 40000) (hw : ∀ x, wipe ((wipe σ ws).set j (some x)) ws = wipe σ ws)
    (he : ∀ xs B1, Ex B B1 → Px xs B1 → ∀ (i : Nat) (x : V), xs[i]? = some x → ∀ B2, Ex B1 B2 → EvX q te ((wipe σ ws).set j (some x)) B2 (Pe x))
    (hm : ∀ x z B B', Ex B B' → Pe x z B → Pe x z B') (ho : ∀ x z B D l o, B D = some (.lst l) → Pe x z B → Pe x z (upd B D o)) :
    EvX q (tLc wi (gName j) tYes te ws) σ B (fun z B' => ∃ p xs B1 zs, z = .ref p ∧ B p = none ∧ p ≠ q.c ∧ Ex B B1 ∧ Px xs B1 ∧ Ls B' p zs ∧ zs.length = xs.length ∧ ∀ (i : Nat) (x y : V), xs[i]? = some x → zs[i]? = some y → Pe x y B') := fun H s Q k => hi H s _ fun J xs B1 H1 e1 s1 hx ⟨G, W, hG⟩ => fun D hD => by
  obtain ⟨n1, n2, n3⟩ := s1.dr.ne hD
  have hB := s1.none hD
  have hxl := hl xs B1 hx
  refine lc_it W (fun i H' => ∃ B' zs, Ex B1 B' ∧ Sd q B' H' ∧ B' D = some (.lst zs) ∧ zs.length = i ∧ ∀ (t : Nat) (x y : V), xs[t]? = some x → zs[t]? = some y → Pe x y B')
    ⟨upd B1 D (.lst []), [], Ex.new hB, s1.upd n1 n2 n3, upd_same, rfl, fun t x y _ h => by cases h⟩ (fun i H' _ ⟨B', zs, a, b, _⟩ => hG B' H' a b)
    (fun i x H2 H2' hi ⟨B', zs, a1, a2, a3, a4, a5⟩ y => ?_) fun H' ⟨B', zs, a1, a2, a3, a4, a5⟩ => k _ B' H' (e1.trans a1) a2 ⟨D, xs, B1, zs, rfl, fresh_back e1 hB, n3, e1, hx, a3, a4, a5⟩
  obtain ⟨rfl, hxi⟩ := y
  refine ⟨hw x, ?_⟩
  show te ((wipe σ ws).set j (some x)) H2' _
  refine he xs B1 e1 hx i x hxi B' a1 H2' a2 _ fun z B3 H3 e3 s3 p3 => ?_
  have h3 : B3 D = some (.lst zs) := e3 _ _ a3
  refine ⟨zs, s3.le _ _ h3, sz_lt (by omega), upd B3 D (.lst (zs ++ [z])), zs ++ [z], Ex.mut (a1.trans e3) hB, s3.upd n1 n2 n3, upd_same, by rw [List.length_append, a4]; rfl, fun t x' y' hx' hy' => ?_⟩
  refine ho _ _ _ _ _ _ h3 ?_
  by_cases ht : t < zs.length
  · rw [List.getElem?_append_left ht] at hy'
    exact hm _ _ _ _ e3 (a5 t x' y' hx' hy')
  · rw [List.getElem?_append_right (by omega)] at hy'
    have ht0 : t - zs.length = 0 := by
      obtain ⟨h, _⟩ := List.getElem?_eq_some_iff.mp hy'
      simp at h
      omega
    rw [ht0] at hy'
    have hy' : z = y' := Option.some.inj hy'
    have hti : t = i := by omega
    subst hti
    rw [hxi] at hx'
    cases hx'
    rw [← hy']
    exact p3
end
section
variable {P : Program} {w : World} {K : PySem.W.Frag} {mg : Str → Option Value} {base : Heap}
/-- a def that draws -/
theorem Tx.pd (T : Tx K mg) (i j : Nat) {x : Str} {st : Stmt} {N ps : List Str} {k : Nat} {R : DRel} (hd : fns[i]? = some (dG x st [])) (hg : fas[j]? = some (.glo x)) (S : FnScope N ps (defScope st)) (bi : BindN x x st ps) (len : ∀ vs B P, R vs B P → vs.length + 1 = ps.length)
    (body : ∀ (cdv : Value) (A : Around) (outer : List Env) (s : Shared) (H : Hp) (q : Dw) (B : Hp) (vs : List V) (Pv : PV) (E : XK), Room k (A.deeper (envOfC x (defScope st) s.heap.objs.size (He.ga K x) cdv)) → R vs B Pv →
      ∃ t, PSs (cxOf CX0 P w K mg base N x (defScope st) (He.ga K x) cdv A outer s H E).nox (defBody st) t ∧ XR q t (start N (.ref q.d :: vs)) B Pv) : C8.Cal P w K mg base (k + 1) x (DSp R) [] :=
  T.df i j hd hg S bi (fun vs H Q E h => by
    obtain ⟨q, rest, B, P, rfl, _, h, _⟩ := h
    exact len rest B P h) fun cdv A outer s H vs Q E hr h => by
    obtain ⟨q, rest, B, Pv, rfl, sd, h, fin⟩ := h
    obtain ⟨t, h1, h2⟩ := body cdv A outer s H q B rest Pv E hr h
    exact ⟨t, h1, h2 _ H sd fin⟩
end
end Ot
/-! Otherworths k13: begin, blend, take -/
namespace Ot
open PySem PySem.Spec PyProof.Rows L2 Evl
local macro_rules | `(tactic| wtm_at "dc") => `(tactic| first
  | ((with_reducible apply dd_f); decide +kernel)
  | ((with_reducible apply dd_t); decide +kernel)
  | ((with_reducible apply dn_f); decide +kernel)
  | ((with_reducible apply dn_t); decide +kernel)
  | (with_reducible exact dec_int_non)
  | (with_reducible exact dec_bl_non)
  | (with_reducible exact dec_ref_non)
  | (with_reducible exact dec_str_non)
  | (with_reducible exact dec_str_ne (by assumption))
  | (with_reducible exact dec_str_eq (by assumption))
  | (with_reducible exact ndec_str_ne (by assumption))
  | (with_reducible exact ndec_str_eq (by assumption))
  | (with_reducible exact dec_int_ne (by omega))
  | (with_reducible exact dec_int_eq (by omega))
  | (with_reducible exact ndec_int_ne (by omega))
  | (with_reducible exact ndec_int_eq (by omega)))
local macro_rules | `(tactic| wtm_at "ic") => `(tactic| first
  | ((with_reducible apply iv_f); decide +kernel)
  | ((with_reducible apply iv_t); decide +kernel)
  | ((with_reducible apply ivn_f); decide +kernel)
  | ((with_reducible apply ivn_t); decide +kernel))
local macro_rules | `(tactic| wtm_at "iv") => `(tactic| first
  | exact bl_true (by omega)
  | exact bl_false (by omega)
  | rfl)
local macro_rules | `(tactic| wtm_at "ln") => `(tactic| first
  | (with_reducible exact ln0) | (with_reducible exact ln1) | (with_reducible exact ln2) | (with_reducible exact ln3) | (with_reducible exact ln4) | rfl)
local macro_rules | `(tactic| wtm_at "nb") => `(tactic| first
  | (with_reducible exact nb_t)
  | (with_reducible exact nb_f))
local macro_rules | `(tactic| wtm_at "kt") => `(tactic| first
  | (with_reducible exact kit_tt) | (with_reducible exact kit_ss) | (with_reducible exact kit_ii) | (with_reducible exact kit_ib) | (with_reducible exact kit_ni) | (with_reducible exact kit_dd) | (with_reducible exact kit_ll))
local macro_rules | `(tactic| wtm_at "vt") => `(tactic| first
  | exact .str | exact .int | exact .non | exact .bl | exact .tup (by assumption) | exact .lst (by assumption) | exact .dK (by assumption))
local macro_rules | `(tactic| wtm_at "sv") => `(tactic| assumption)
local macro_rules | `(tactic| wtm_at "ct") => `(tactic| first
  | (with_reducible exact ct_f)
  | ((with_reducible apply ct_t); wtm_at "ev")
  | (with_reducible exact cf_t)
  | ((with_reducible apply cf_f); wtm_at "ev")
  | (with_reducible exact ctv_f)
  | ((with_reducible apply ctv_t); wtm_at "ev")
  | (with_reducible exact cfv_t)
  | ((with_reducible apply cfv_f); wtm_at "ev")
  | ((with_reducible apply ci_t); wtm_at "ev")
  | ((with_reducible apply ci_f); wtm_at "ev"))
local macro_rules | `(tactic| wtm_at "ev") => `(tactic| first
  | ((with_reducible apply ev_var); rfl)
  | (with_reducible exact ev_c)
  | (with_reducible exact ea_nil)
  | ((with_reducible apply ea_cons) <;> wtm_at "ev")
  | ((with_reducible apply ev_ixT); (wtm_at "ev"); (wtm_at "ev"); assumption; rfl)
  | ((with_reducible apply ev_dgetS); (wtm_at "ev"); (wtm_at "ev"); assumption; assumption)
  | ((with_reducible apply ev_lenT); (wtm_at "ev"); assumption; (wtm_at "ln"))
  | ((with_reducible apply ev_isi); (wtm_at "ev"); (wtm_at "vt"); (wtm_at "kt"))
  | ((with_reducible apply ev_eq); (wtm_at "ev"); (wtm_at "ev"); rfl; (wtm_at "dc"))
  | ((with_reducible apply ev_ne); (wtm_at "ev"); (wtm_at "ev"); rfl; (wtm_at "dc"))
  | ((with_reducible apply ev_isN); (wtm_at "ev"); (wtm_at "dc"))
  | ((with_reducible apply ev_notN); (wtm_at "ev"); (wtm_at "dc"))
  | ((with_reducible apply ev_int0); (wtm_at "ev"); (wtm_at "ev"); (wtm_at "iv"))
  | ((with_reducible apply ev_niN); (wtm_at "ev"); (wtm_at "ev"); rfl; rfl; (wtm_at "ic"))
  | ((with_reducible apply ev_inN); (wtm_at "ev"); (wtm_at "ev"); rfl; rfl; (wtm_at "ic"))
  | ((with_reducible apply eu_tup); (wtm_at "ev"); simp)
  | ((with_reducible apply el_lst); (wtm_at "ev"); simp)
  | ((with_reducible apply ev_callP); (wtm_at "ev"); (wtm_at "sv"))
  | ((with_reducible apply et_test); wtm_at "ev")
  | ((with_reducible apply et_B); wtm_at "ev")
  | ((with_reducible apply ev_andG); (wtm_at "ev"); (wtm_at "ct"))
  | ((with_reducible apply ev_orG); (wtm_at "ev"); (wtm_at "ct"))
  | ((with_reducible apply ev_notG); (wtm_at "ev"); (wtm_at "nb"))
  | ((with_reducible apply et_andG); (wtm_at "ev"); (wtm_at "ct"))
  | ((with_reducible apply et_orG); (wtm_at "ev"); (wtm_at "ct"))
  | ((with_reducible apply et_notG); (wtm_at "ev"); (wtm_at "nb"))
  | ((with_reducible apply ev_ifG); (wtm_at "ev"); (wtm_at "ct"))
  | assumption)
local macro_rules | `(tactic| wtm_at "re") => `(tactic| first
  | ((with_reducible apply re_ifG); (wtm_at "ev"); first | ((with_reducible apply ci_t); wtm_at "re") | ((with_reducible apply ci_f); wtm_at "re"))
  | ((with_reducible apply re_retV); wtm_at "ev")
  | ((with_reducible apply re_asgV); (wtm_at "ev"); (wtm_at "re"))
  | ((with_reducible apply re_par); (wtm_at "ev"); (wtm_at "re")))
local macro_rules | `(tactic| wtm_at "rs") => `(tactic| repeat ((with_reducible apply re_ifG); (wtm_at "ev"); first | (with_reducible apply ci_t) | (with_reducible apply ci_f)))


def rInt1 : List V → Hp → VK → Prop := fun xs H Q => (∃ i, xs = [.int i] ∧ Q (.int i) H) ∨ ∃ k, xs = [.bl k] ∧ Q (.int (if k then 1 else 0)) H
def rAbs1 : List V → Hp → VK → Prop := fun xs H Q => ∃ i, xs = [.int i] ∧ Q (.int (if i < 0 then -i else i)) H
def rMin2 : List V → Hp → VK → Prop := fun xs H Q => ∃ i j, xs = [.int i, .int j] ∧ Q (.int (if j < i then j else i)) H
section
variable {X : Cx}
theorem cr_int1 : CallR X (.type "int") rInt1 := call_int1
theorem cr_abs : CallR X (.builtin "abs") rAbs1 := call_abs
theorem cr_min2 (hc : X.calm = true) : CallR X (.builtin "min") rMin2 := call_min2 hc
theorem cr_max2 (hc : X.calm = true) : CallR X (.builtin "max") rMax2 := call_max2 hc
end
section
variable {K : PySem.W.Frag} {q : Dw} {σ : L2.St} {H B : Hp} {ta tb te : TE} {t tu tz : TS} {i j : Int} {k : Nat} {P P1 : PV} {M M1 : L2.St → Hp → Prop} {wi : TI} {xs : List V} {n : Nat} {s : Str}
theorem ev_int1 (h : Ev ta σ H (.int i)) : Ev (tCB rInt1 (tCons ta tNil)) σ H (.int i) := fun H1 e Q f => h H1 e _ fun H2 e2 => .inl ⟨i, rfl, f H2 e2⟩
theorem ev_intB {b : Bool} (h : Ev ta σ H (.bl b)) : Ev (tCB rInt1 (tCons ta tNil)) σ H (.int (if b then 1 else 0)) := fun H1 e Q f => h H1 e _ fun H2 e2 => .inr ⟨b, rfl, f H2 e2⟩
theorem ev_abs (h : Ev ta σ H (.int i)) : Ev (tCB rAbs1 (tCons ta tNil)) σ H (.int (if i < 0 then -i else i)) := fun H1 e Q f => h H1 e _ fun H2 e2 => ⟨i, rfl, f H2 e2⟩
theorem ev_mulK (ha : Ev ta σ H (.int i)) (hb : Ev tb σ H (.int j)) (h1 : -(2 ^ 64) < j) (h2 : j < 2 ^ 64) : Ev (tOp (rI CMul fun i j => .int (i * j)) ta tb) σ H (.int (i * j)) := ev_op ha hb (rv_I (.inr ⟨h1, h2⟩))
theorem ev_modP (ha : Ev ta σ H (.int i)) (hb : Ev tb σ H (.int j)) (h1 : 0 < j) : Ev (tOp (rI (fun _ j => 0 < j) fun i j => .int (i % j)) ta tb) σ H (.int (i % j)) := ev_op ha hb (rv_I h1)
theorem ev_fdivP (ha : Ev ta σ H (.int i)) (hb : Ev tb σ H (.int j)) (h1 : 0 < j) (h2 : j < 1073741824) : Ev (tOp (rI CDiv fun i j => .int (i / j)) ta tb) σ H (.int (i / j)) := ev_op ha hb (rv_I ⟨h1, h2⟩)
theorem ev_powP (ha : Ev ta σ H (.int i)) (hb : Ev tb σ H (.int j)) (h1 : 0 ≤ j) (h2 : j ≤ 1000000) (h3 : i.natAbs < 2 ^ 64) : Ev (tOp (rI CPow fun i j => .int (i ^ j.toNat)) ta tb) σ H (.int (i ^ j.toNat)) := ev_op ha hb (rv_I ⟨h1, h2, h3⟩)
theorem ev_add (ha : Ev ta σ H (.int i)) (hb : Ev tb σ H (.int j)) : Ev (tOp (rI0 fun i j => .int (i + j)) ta tb) σ H (.int (i + j)) := ev_int0 ha hb rfl
/-! the draw's own cells -/
theorem kvD_get {r t : Int} : valV (kvD q r t) (Sum.inr "great" : Key) = some (.ref q.g) ∧ valV (kvD q r t) (Sum.inr "rest" : Key) = some (.int r) ∧ valV (kvD q r t) (Sum.inr "cells" : Key) = some (.ref q.c) ∧ valV (kvD q r t) (Sum.inr "turn" : Key) = some (.int t) := ⟨rfl, rfl, rfl, rfl⟩
theorem kvD_rest {r t n : Int} : putK (kvD q r t) (Sum.inr "rest" : Key) (.int n) = kvD q n t := rfl
theorem kvD_turn {r t n : Int} : putK (kvD q r t) (Sum.inr "turn" : Key) (.int n) = kvD q r n := rfl
theorem xd_get (hd : σ[k]? = some (some (.ref q.d))) (hs : ∀ r t : Int, ∃ v, valV (kvD q r t) (Sum.inr s : Key) = some v ∧ ∀ B', P v B') : EvX q (tDGet (tVar k) (tC (.str s))) σ B P := fun H sd Q f => by
  obtain ⟨m, r, t, gs, cs, a, b, c⟩ := sd.dr
  obtain ⟨v, h1, h2⟩ := hs r t
  exact ⟨.ref q.d, hd, q.d, v, rfl, by rw [← h1]; exact DGet.k (k := Sum.inr s) a, f v _ H sd.ex ⟨sd.dr, Ex.refl _⟩ (h2 _)⟩
theorem x_rest (hd : σ[k]? = some (some (.ref q.d))) : EvX q (tDGet (tVar k) (tC (.str "rest"))) σ B (fun z _ => ∃ i, z = .int i ∧ True) := xd_get hd fun r t => ⟨_, kvD_get.2.1, fun _ => ⟨r, rfl, trivial⟩⟩
theorem x_turn (hd : σ[k]? = some (some (.ref q.d))) : EvX q (tDGet (tVar k) (tC (.str "turn"))) σ B (fun z _ => ∃ i, z = .int i ∧ True) := xd_get hd fun r t => ⟨_, kvD_get.2.2.2, fun _ => ⟨t, rfl, trivial⟩⟩
theorem wx_cells (hd : σ[k]? = some (some (.ref q.d))) : EvIX q (iList K (tDGet (tVar k) (tC (.str "cells")))) σ B (fun xs _ => ∃ ns : List Int, xs = ns.map V.int) := fun H sd R f => by
  obtain ⟨m, r, t, gs, cs, a, b, c⟩ := sd.dr
  have c' : H q.c = some (.lst (cs.map V.int)) := c
  have n1 : q.c ≠ q.d := fun z => by
    have a' : H q.d = _ := a
    rw [z, a'] at c'
    cases c'
  have hc : Ls (hid q H) q.c (cs.map V.int) := by
    show hid q H q.c = _
    rw [hid_at n1 (Ne.symm m)]
    exact c
  exact ⟨.ref q.d, hd, q.d, .ref q.c, rfl, by rw [← (kvD_get (q := q) (r := r) (t := t)).2.2.1]; exact DGet.k (k := Sum.inr "cells") a, q.c, rfl, ⟨_, sq_of c⟩, f _ (cs.map V.int) _ H sd.ex ⟨sd.dr, Ex.refl _⟩ ⟨cs, rfl⟩ ⟨_, walk_list, fun B3 H3 e3 s3 => sq_of (s3.le _ _ (e3 _ _ hc))⟩⟩
theorem sd_putd {H' : Hp} {r t : Int} (sd : Sd q B H) (h : H' = upd H q.d (.dK (kvD q r t))) : Sd q B H' := by
  subst h
  obtain ⟨⟨m, r0, t0, gs, cs, a, b, c⟩, x⟩ := sd
  have a' : H q.d = _ := a
  have b' : H q.g = _ := b
  have c' : H q.c = _ := c
  have n1 : q.g ≠ q.d := fun z => by
    rw [z, a'] at b'
    cases b'
  have n2 : q.c ≠ q.d := fun z => by
    rw [z, a'] at c'
    cases c'
  refine ⟨⟨m, r, t, gs, cs, upd_same, by show (L2.upd H q.d _) q.g = _; rw [upd_ne n1]; exact b, by show (L2.upd H q.d _) q.c = _; rw [upd_ne n2]; exact c⟩, fun u v h => ?_⟩
  have h := x _ _ h
  unfold hid at h ⊢
  by_cases y : u = q.d ∨ u = q.g
  · rw [if_pos y] at h
    cases h
  · rw [if_neg y] at h ⊢
    rw [upd_ne (fun z => y (.inl z))]
    exact h
theorem sd_putg {gs : List Int} (sd : Sd q B H) : Sd q B (upd H q.g (.lst (gs.map V.int))) := by
  obtain ⟨⟨m, r0, t0, gs0, cs, a, b, c⟩, x⟩ := sd
  have a' : H q.d = _ := a
  have b' : H q.g = _ := b
  have n1 : q.d ≠ q.g := fun z => by
    rw [z, b'] at a'
    cases a'
  refine ⟨⟨m, r0, t0, gs, cs, by show (L2.upd H q.g _) q.d = _; rw [upd_ne n1]; exact a, upd_same, by show (L2.upd H q.g _) q.c = _; rw [upd_ne (Ne.symm m)]; exact c⟩, fun u v h => ?_⟩
  have h := x _ _ h
  unfold hid at h ⊢
  by_cases y : u = q.d ∨ u = q.g
  · rw [if_pos y] at h
    cases h
  · rw [if_neg y] at h ⊢
    rw [upd_ne (fun z => y (.inr z))]
    exact h
theorem xb_putRest (hd : σ[k]? = some (some (.ref q.d))) (h : EvX q te σ B (fun z _ => ∃ i, z = .int i ∧ True)) (hM : ∀ B', Ex B B' → M σ B') : XB q (sDPut (tVar k) (tC (.str "rest")) te) σ B M := fun D H sd f => h H sd _ fun z B1 H1 e1 s1 ⟨n, hz, _⟩ => by
  subst hz
  obtain ⟨m, r, t, gs, cs, a, b, c⟩ := id s1.dr
  refine ⟨.ref q.d, hd, q.d, _, rfl, DPut.k (k := Sum.inr "rest") a (sz_lt (show 4 < 100000 by decide)), f σ B1 _ (sd_putd s1 (by rw [kvD_rest])) (hM B1 e1)⟩
theorem xb_putTurn (hd : σ[k]? = some (some (.ref q.d))) (h : EvX q te σ B (fun z _ => ∃ i, z = .int i ∧ True)) (hM : ∀ B', Ex B B' → M σ B') : XB q (sDPut (tVar k) (tC (.str "turn")) te) σ B M := fun D H sd f => h H sd _ fun z B1 H1 e1 s1 ⟨n, hz, _⟩ => by
  subst hz
  obtain ⟨m, r, t, gs, cs, a, b, c⟩ := id s1.dr
  refine ⟨.ref q.d, hd, q.d, _, rfl, DPut.k (k := Sum.inr "turn") a (sz_lt (show 4 < 100000 by decide)), f σ B1 _ (sd_putd s1 (by rw [kvD_turn])) (hM B1 e1)⟩
theorem xr_B (h : XB q tu σ B M1) (he : ∀ σ' B', M1 σ' B' → Ex B B') (k : ∀ σ' B', M1 σ' B' → XR q tz σ' B' P) : XR q (tSeq tu tz) σ B P := fun D H s f => h _ H s fun σ' B1 H1 s1 m => k σ' B1 m D H1 s1 fun z B2 H2 e2 s2 p2 => f z B2 H2 ((he σ' B1 m).trans e2) s2 p2
theorem xb_B (h : XB q tu σ B M1) (k : ∀ σ' B', M1 σ' B' → XB q tz σ' B' M) : XB q (tSeq tu tz) σ B M := fun D H s f => h _ H s fun σ' B1 H1 s1 m => k σ' B1 m D H1 s1 f
theorem xb_for {Px : List V → Hp → Prop} {j : Nat} (hi : EvIX q wi σ B Px) (hs : ∀ xs B1, Ex B B1 → Px xs B1 → ∃ M' : Nat → L2.St → Hp → Prop, M' 0 σ B1 ∧ (∀ i σ' B', M' i σ' B' → Ex B1 B') ∧ (∀ i x σ' B', xs[i]? = some x → M' i σ' B' → XB q t (σ'.set j (some x)) B' (M' (i + 1))) ∧ ∀ σ' B', M' xs.length σ' B' → M σ' B') :
    XB q (tFor wi (gName j) t) σ B M := fun D H s f => hi H s _ fun J xs B1 H1 e1 s1 hx ⟨G, W, hG⟩ => by
  obtain ⟨M', m0, me, mt, mz⟩ := hs xs B1 e1 hx
  exact for_it W (D := D) (fun i σ' H' => ∃ B', Sd q B' H' ∧ M' i σ' B') ⟨B1, s1, m0⟩ (fun i σ' H' _ ⟨B', s', m⟩ => hG B' H' (me i σ' B' m) s')
    (fun i x σ' H' H2 hi ⟨B', s', m⟩ y => by
      obtain ⟨rfl, hx⟩ := y
      show t _ (σ'.set j (some x)) H2
      exact mt i x σ' B' hx m _ H2 s' fun σ2 B2 H3 s3 m3 => ⟨B2, s3, m3⟩)
    (fun σ' H' ⟨B', s', m⟩ => f σ' B' H' s' (mz σ' B' m))
theorem xb_asgV {v : V} {i : Nat} (h : Ev te σ B v) (k : ∀ B1, Ex B B1 → M (σ.set i (some v)) B1) : XB q (tAsg te (gName i)) σ B M := xb_asg (x_ev h) fun z B1 e hz => by
  subst hz
  exact k B1 e
theorem xb_asgVS {v : V} {i : Nat} (h : Ev te σ B v) (k : ∀ B1, Ex B B1 → XB q tz (σ.set i (some v)) B1 M) : XB q (tSeq (tAsg te (gName i)) tz) σ B M := xb_asgS (x_ev h) fun z B1 e hz => by
  subst hz
  exact k B1 e
theorem xr_asgV {v : V} {i : Nat} (h : Ev te σ B v) (k : ∀ B1, Ex B B1 → XR q tz (σ.set i (some v)) B1 P) : XR q (tSeq (tAsg te (gName i)) tz) σ B P := xr_asg (x_ev h) fun z B1 e hz => by
  subst hz
  exact k B1 e
end
theorem dpInts {K : PySem.W.Frag} {H : Hp} : ∀ gs : List Int, DpAll K H (gs.map V.int) (gs.map PyData.int)
  | [] => .nil
  | g :: gs => .cons (.int g) (dpInts gs)
theorem dpTexts {K : PySem.W.Frag} {H : Hp} : ∀ gs : List Str, DpAll K H (strV gs) (gs.map PyData.str)
  | [] => .nil
  | g :: gs => .cons (.str g) (dpTexts gs)
theorem shInts (gs : List Int) : SeqAt.shaped (.list (gs.map PyData.int)) = true := by
  have h : PyData.canLayAll0 (gs.map PyData.int) = true ∧ PyData.depthAll (gs.map PyData.int) = 0 := by
    induction gs with
    | nil => exact ⟨rfl, rfl⟩
    | cons g gs ih =>
      refine ⟨?_, ?_⟩
      · show (true && PyData.canLayAll0 (gs.map PyData.int)) = true
        rw [ih.1]
        rfl
      · show max 0 (PyData.depthAll (gs.map PyData.int)) = 0
        rw [ih.2]
        rfl
  show (PyData.canLayAll0 (gs.map PyData.int) && decide (PyData.depthAll (gs.map PyData.int) + 1 ≤ 64)) = true
  rw [h.1, h.2]
  rfl
theorem seq0 {n : Nat} (h : 0 < n) : seqIndex? 0 n = some 0 := by
  unfold seqIndex?
  have h1 : ((0 : Int) < (n : Int)) := by omega
  simp [h]
def RBlend : DRel := fun vs B P => vs = [] ∧ ∀ i B', P (.int i) B'
/-- take(draw, many) -/
def RTake : DRel := fun vs B P => ∃ n : Int, vs = [.int n] ∧ 0 < n ∧ n < 1073741824 ∧ ∀ (i : Int) B', 0 ≤ i → i < n → P (.int i) B'
section
variable {P : Program} {w : World} {K : PySem.W.Frag} {mg : Str → Option Value} {base : Heap}
def nm_law_blend : List Str := ["_law_draw", "_law_turn", "_law_found", "_law_prime", "_law_blend_here", "_law_cell"]
theorem sc_law_blend : FnScope nm_law_blend ["_law_draw"] (defScope s_law_blend) := C8.fnScope_by (by decide +kernel)
theorem ok_law_blend (T : Tx K mg) : C8.Cal P w K mg base 1 "_law_blend" (DSp RBlend) [] := by
  refine T.pd 29 29 rfl rfl sc_law_blend (fun _ _ _ _ _ _ us hl => match us, hl with | [_], _ => rfl) (fun vs B Pv h => ?_) (fun cdv A outer s H q B vs Pv E hr h => ?_)
  · obtain ⟨rfl, _⟩ := h
    rfl
  · have nd := sc_law_blend.nd
    have hu := hu_of hr
    refine ⟨_, (pss_cons (ps_set (i := 1) nd rfl (Or.inl rfl) (pe_op op_add (pe_dget hu (pv 0) pe_str (fun _ _ => rfl)) pe_int))
      (pss_cons (ps_dput hu (pv 0) pe_str (pv 1) rfl)
      (pss_cons (ps_set (i := 2) nd rfl (Or.inl rfl) pe_int)
      (pss_cons (ps_for PassesOwn.never rfl (pi_list (pe_lst (pa_cons pe_int (pa_cons pe_int (pa_cons pe_int (pa_cons pe_int pa_nil)))))) (pg_name (i := 3) nd rfl (Or.inl rfl))
      (pss_cons (ps_set (i := 4) nd rfl (Or.inl rfl) (pe_op op_mod (pe_callTy cr_int1 (by rfl) T.f_int (by decide +kernel) (pa_cons (pe_op op_add (pe_op op_mul (pv 1) pe_int) (pe_op op_fdiv (pv 3) pe_int)) pa_nil)) (pv 3)))
      (pss_cons (ps_for PassesOwn.never rfl (pi_list (pe_dget hu (pv 0) pe_str (fun _ _ => rfl))) (pg_name (i := 5) nd rfl (Or.inl rfl))
      (pss_one (ps_set (i := 4) nd rfl (Or.inl rfl) (pe_op op_mod (pe_callTy cr_int1 (by rfl) T.f_int (by decide +kernel) (pa_cons (pe_op op_add (pe_op op_mul (pv 4) pe_int) (pv 5)) pa_nil)) (pv 3)))))
      (pss_one (ps_set (i := 2) nd rfl (Or.inl rfl) (pe_op op_add (pe_op op_mul (pv 2) pe_int) (pe_op op_mod (pe_callTy cr_int1 (by rfl) T.f_int (by decide +kernel) (pa_cons (pe_op op_pow (pv 4) pe_int) pa_nil)) (pv 3))))))))
      (pss_one (ps_ret (pv 2))))))), ?_⟩
    obtain ⟨rfl, hP⟩ := h
    refine xr_asg (P1 := fun z _ => ∃ i : Int, z = .int i) (x_imp (x_i0 (A2 := fun _ => True) (x_turn rfl) fun B1 e => x_int (by wtm_at "ev") trivial) fun z B' _ ⟨i, j, hz, _⟩ => ⟨i + j, hz⟩) ?_
    rintro z B1 e1 ⟨n, rfl⟩
    refine xr_B (M1 := fun σ' B' => σ' = (start nm_law_blend [.ref q.d]).set 1 (some (.int n)) ∧ Ex B1 B') (xb_putTurn rfl (x_int (i := n) (by wtm_at "ev") trivial) fun B' e => ⟨rfl, e⟩) (fun _ _ h => h.2) ?_
    rintro σ' B2 ⟨rfl, e2⟩
    refine xr_asgV (by wtm_at "ev") fun B3 e3 => ?_
    refine xr_for (Px := fun xs _ => xs = [.int 2147483629, .int 2147483587, .int 2147483579, .int 2147483563]) (wx_listX (x_imp (x_new (er_lst (el_lst (by wtm_at "ev") (by simp)))) fun z B' _ ⟨p, hz, _, _, hp⟩ => ⟨p, _, hz, hp, rfl⟩)) ?_
    rintro xs B4 e4 rfl
    refine ⟨fun _ σ' B' => (∃ (f : Int) (o3 o4 o5 : Option V), σ' = [some (.ref q.d), some (.int n), some (.int f), o3, o4, o5]) ∧ Ex B4 B', ⟨⟨0, none, none, none, rfl⟩, Ex.refl _⟩, fun _ _ _ h => h.2, ?_, ?_⟩
    · rintro i x σ' B5 hx ⟨⟨f, o3, o4, o5, rfl⟩, e5⟩
      have hpr : ∃ p : Int, x = .int p ∧ 0 < p ∧ p < 2147483648 := by
        have hm := List.mem_of_getElem? hx
        simp only [List.mem_cons, List.not_mem_nil, or_false] at hm
        rcases hm with rfl | rfl | rfl | rfl
        all_goals exact ⟨_, rfl, by decide, by decide⟩
      obtain ⟨p, rfl, p0, p1⟩ := hpr
      refine xb_asgVS (v := .int ((n * 69621 + p / 7) % p)) (ev_modP (ev_int1 (ev_add (ev_mulK (by wtm_at "ev") (by wtm_at "ev") (by decide) (by decide)) (ev_fdivP (by wtm_at "ev") (by wtm_at "ev") (by decide) (by decide)))) (by wtm_at "ev") p0) fun B6 e6 => ?_
      refine xb_B (M1 := fun σ' B' => (∃ (h : Int) (o5 : Option V), 0 ≤ h ∧ h < p ∧ σ' = [some (.ref q.d), some (.int n), some (.int f), some (.int p), some (.int h), o5]) ∧ Ex B6 B') (xb_for (Px := fun xs _ => ∃ ns : List Int, xs = ns.map V.int) (wx_cells rfl) ?_) ?_
      · rintro xs B7 e7 ⟨ns, rfl⟩
        refine ⟨fun _ σ' B' => (∃ (h : Int) (o5 : Option V), 0 ≤ h ∧ h < p ∧ σ' = [some (.ref q.d), some (.int n), some (.int f), some (.int p), some (.int h), o5]) ∧ Ex B7 B', ⟨⟨_, o5, Int.emod_nonneg _ (by omega), Int.emod_lt_of_pos _ p0, rfl⟩, Ex.refl _⟩, fun _ _ _ h => h.2, ?_, fun σ' B' ⟨h, e⟩ => ⟨h, e7.trans e⟩⟩
        rintro k y σ' B8 hy ⟨⟨h, o5', h0, h1, rfl⟩, e8⟩
        rw [List.getElem?_map] at hy
        cases hnk : ns[k]? with
        | none => rw [hnk] at hy; cases hy
        | some m =>
          rw [hnk] at hy
          have hy : V.int m = y := Option.some.inj hy
          subst hy
          exact xb_asgV (v := .int ((h * 48271 + m) % p)) (ev_modP (ev_int1 (ev_add (ev_mulK (by wtm_at "ev") (by wtm_at "ev") (by decide) (by decide)) (by wtm_at "ev"))) (by wtm_at "ev") p0) fun B9 e9 => ⟨⟨_, _, Int.emod_nonneg _ (by omega), Int.emod_lt_of_pos _ p0, rfl⟩, e8.trans e9⟩
      · rintro σ' B7 ⟨⟨h, o5', h0, h1, rfl⟩, e7⟩
        exact xb_asgV (v := .int (f * 2147483647 + h ^ (5 : Int).toNat % p)) (ev_add (ev_mulK (by wtm_at "ev") (by wtm_at "ev") (by decide) (by decide)) (ev_modP (ev_int1 (ev_powP (by wtm_at "ev") (by wtm_at "ev") (by decide) (by decide) (by omega))) (by wtm_at "ev") p0)) fun B9 e9 => ⟨⟨_, _, _, _, rfl⟩, e5.trans (e6.trans (e7.trans e9))⟩
    · rintro σ' B5 ⟨⟨f, o3, o4, o5, rfl⟩, e5⟩
      exact xr_ret (x_imp (x_ev (v := .int f) (by wtm_at "ev")) fun z B' _ hz => by
        subst hz
        exact hP f B')
/-- if the rest is 0 and great numbers are left: the first one becomes the rest -/
theorem xb_great (B : Hp) (q : Dw) (K : PySem.W.Frag) (v : V) : XB q (tIfS (tAnd (tTest (tOp rEq (tDGet (tVar 0) (tC (.str "rest"))) (tC (.int 0)))) (tTest (tOp (rNeD K) (tDGet (tVar 0) (tC (.str "great"))) (tLst tNil)))) (sDPut (tVar 0) (tC (.str "rest")) (tBM K "list" rPopAt (tDGet (tVar 0) (tC (.str "great"))) (tCons (tC (.int 0)) tNil))) tNext)
    [some (.ref q.d), some v, none] B (fun σ' B' => σ' = [some (.ref q.d), some v, none] ∧ Ex B B') := fun D H sd f => by
  obtain ⟨m, r, t, gs, cs, a, b, c⟩ := id sd.dr
  have g1 : DGet H q.d (.str "rest") (some (.int r)) := by
    rw [← (kvD_get (q := q) (r := r) (t := t)).2.1]
    exact DGet.k (k := Sum.inr "rest") a
  have g2 : ∀ {H' : Hp}, Dk H' q.d (kvD q r t) → DGet H' q.d (.str "great") (some (.ref q.g)) := fun a => by
    rw [← (kvD_get (q := q) (r := r) (t := t)).1]
    exact DGet.k (k := Sum.inr "great") a
  refine ⟨.ref q.d, rfl, q.d, .int r, rfl, g1, rfl, decide (V.int r = V.int 0), rfl, ?_⟩
  cases hr : decide (V.int r = V.int 0) with
  | false =>
    show D.nx _ H
    exact f _ B H sd ⟨rfl, Ex.refl _⟩
  | true =>
    show (tTest (tOp (rNeD K) (tDGet (tVar 0) (tC (.str "great"))) (tLst tNil))) _ H _
    refine ⟨.ref q.d, rfl, q.d, .ref q.g, rfl, g2 a, sz_of (by decide), fun p hp => ?_⟩
    obtain ⟨n1, n2, n3⟩ := sd.dr.ne hp
    have sd2 : Sd q B (upd H p (.lst [])) := (sd.upd n1 n2 n3 (o := .lst [])).base (Ex.new (sd.none hp))
    have b2 : Ls (upd H p (.lst [])) q.g (gs.map V.int) := by
      show (upd H p (.lst [])) q.g = _
      rw [upd_ne (Ne.symm n2)]
      exact b
    have a2 : Dk (upd H p (.lst [])) q.d (kvD q r t) := by
      show (upd H p (.lst [])) q.d = _
      rw [upd_ne (Ne.symm n1)]
      exact a
    refine ⟨.list (gs.map PyData.int), .list [], .lst (sq_of b2) (dpInts gs), .lst (sq_of upd_same) .nil, shInts gs, rfl, _, rfl, ?_⟩
    cases gs with
    | nil =>
      show D.nx _ (upd H p (.lst []))
      exact f _ B _ sd2 ⟨rfl, Ex.refl _⟩
    | cons g0 gs' =>
      show (sDPut (tVar 0) (tC (.str "rest")) (tBM K "list" rPopAt (tDGet (tVar 0) (tC (.str "great"))) (tCons (tC (.int 0)) tNil))) D _ (upd H p (.lst []))
      refine ⟨.ref q.d, rfl, q.d, .ref q.g, rfl, g2 a2, Or.inl ⟨rfl, _, sq_of b2⟩, q.g, _, 0, 0, .int g0, rfl, rfl, b2, by decide, by decide, seq0 (by rw [List.length_map, List.length_cons]; omega), rfl, .ref q.d, rfl, ?_⟩
      have sd3 : Sd q B (upd (upd H p (.lst [])) q.g (.lst (gs'.map V.int))) := sd_putg sd2
      have ng : q.d ≠ q.g := fun z => by
        have b' : (upd H p (.lst [])) q.g = _ := b2
        have a' : (upd H p (.lst [])) q.d = _ := a2
        rw [z, b'] at a'
        cases a'
      have a3 : Dk (upd (upd H p (.lst [])) q.g (.lst (gs'.map V.int))) q.d (kvD q r t) := by
        show (upd _ q.g _) q.d = _
        rw [upd_ne ng]
        exact a2
      exact ⟨q.d, _, rfl, DPut.k (k := Sum.inr "rest") a3 (sz_lt (show 4 < 100000 by decide)), f _ B _ (sd_putd (r := g0) (t := t) sd3 (by rw [kvD_rest]; rfl)) ⟨rfl, Ex.refl _⟩⟩
def nm_law_take : List Str := ["_law_draw", "_law_many", "_law_found"]
theorem sc_law_take : FnScope nm_law_take ["_law_draw", "_law_many"] (defScope s_law_take) := C8.fnScope_by (by decide +kernel)
theorem ok_law_take (T : Tx K mg) (C_law_blend : C8.Cal P w K mg base 1 "_law_blend" (DSp RBlend) []) : C8.Cal P w K mg base 2 "_law_take" (DSp RTake) [] := by
  refine T.pd 30 30 rfl rfl sc_law_take (fun _ _ _ _ _ _ us hl => match us, hl with | [_, _], _ => rfl) (fun vs B Pv h => ?_) (fun cdv A outer s H q B vs Pv E hr h => ?_)
  · obtain ⟨_, rfl, _⟩ := h
    rfl
  · have nd := sc_law_take.nd
    have hu := hu_of hr
    have hu64 := hr.units
    refine ⟨_, (pss_cons (ps_if (PW.pt (pw_and (pt_cmpR op_eq (pe_dget hu (pv 0) pe_str (fun _ _ => rfl)) pe_int (nomark _)) (pw_and1 (pt_cmpR (op_neD hu64) (pe_dget hu (pv 0) pe_str (fun _ _ => rfl)) (pe_lst pa_nil) (nomark _)))))
      (pss_one (ps_dput hu (pv 0) pe_str (pe_bm PySem.F.plainAttrs_list PySem.F.slot_list_pop PySem.F.type_list_pop mt_popAt (pe_dget hu (pv 0) pe_str (fun _ _ => rfl)) (pa_cons pe_int pa_nil)) rfl))
      pss_nil)
      (pss_cons (ps_if (pt_cmpR op_eq (pe_dget hu (pv 0) pe_str (fun _ _ => rfl)) pe_int (nomark _))
      (pss_one (ps_dput hu (pv 0) pe_str (C8.pe_c C_law_blend hr (by omega) (by rfl) (pa_cons (pv 0) pa_nil)) rfl))
      pss_nil)
      (pss_cons (ps_set (i := 2) nd rfl (Or.inl rfl) (pe_op op_mod (pe_callTy cr_int1 (by rfl) T.f_int (by decide +kernel) (pa_cons (pe_dget hu (pv 0) pe_str (fun _ _ => rfl)) pa_nil)) (pv 1)))
      (pss_cons (ps_dput hu (pv 0) pe_str (pe_op op_fdiv (pe_dget hu (pv 0) pe_str (fun _ _ => rfl)) (pv 1)) rfl)
      (pss_one (ps_ret (pv 2))))))), ?_⟩
    obtain ⟨n, rfl, n0, n1, hP⟩ := h
    refine xr_B (xb_great B q K (.int n)) (fun _ _ h => h.2) ?_
    rintro σ' B1 ⟨rfl, e1⟩
    refine xr_ifB (Pt := fun _ _ => True) (M := fun σ' B' => σ' = [some (.ref q.d), some (.int n), none] ∧ Ex B1 B') (xt_test (P := fun z _ => ∃ b, z = .bl b) (x_op (P2 := fun z _ => z = .int 0) (x_rest rfl) (fun x B2 e _ => x_ev (by wtm_at "ev")) ?_) fun z B' ⟨b, hz⟩ => ⟨b, hz, trivial⟩) ?_ (fun B2 e _ => ⟨rfl, e⟩) (fun _ _ h => h.2) ?_
    · rintro x y B2 B3 e2 ⟨i, rfl, _⟩ e3 rfl H s3 Q f
      exact ⟨rfl, f _ B3 H (Ex.refl _) s3 ⟨_, rfl⟩⟩
    · intro B2 e2 _
      exact xb_putRest rfl (x_callE (by wtm_at "ev") fun B3 e3 => ⟨rfl, fun i B' => ⟨i, rfl, trivial⟩⟩) fun B' e => ⟨rfl, e2.trans e⟩
    · rintro σ' B2 ⟨rfl, e2⟩
      refine xr_asg (P1 := fun z _ => ∃ i : Int, z = .int i ∧ 0 ≤ i ∧ i < n) (x_op (P2 := fun z _ => z = .int n) (P1 := fun z _ => ∃ i : Int, z = .int i) (fun H sd Q f => (x_rest (k := 0) rfl : EvX q _ _ B2 _) H sd _ fun z B' H' e' s' ⟨i, hz, _⟩ => .inl ⟨i, by rw [hz], f _ B' H' e' s' ⟨i, rfl⟩⟩) (fun x B3 e _ => x_ev (by wtm_at "ev")) ?_) ?_
      · rintro x y B3 B4 e3 ⟨i, rfl⟩ e4 rfl H s4 Q f
        exact ⟨i, n, rfl, rfl, n0, f _ B4 H (Ex.refl _) s4 ⟨_, rfl, Int.emod_nonneg _ (by omega), Int.emod_lt_of_pos _ n0⟩⟩
      · rintro z B3 e3 ⟨i, rfl, i0, i1⟩
        refine xr_B (M1 := fun σ' B' => σ' = [some (.ref q.d), some (.int n), some (.int i)] ∧ Ex B3 B') (xb_putRest rfl (x_op (P2 := fun z _ => z = .int n) (x_rest rfl) (fun x B4 e _ => x_ev (by wtm_at "ev")) ?_) fun B' e => ⟨rfl, e⟩) (fun _ _ h => h.2) ?_
        · rintro x y B4 B5 e4 ⟨j, rfl, _⟩ e5 rfl H s5 Q f
          exact ⟨j, n, rfl, rfl, ⟨n0, n1⟩, f _ B5 H (Ex.refl _) s5 ⟨_, rfl, trivial⟩⟩
        · rintro σ' B4 ⟨rfl, e4⟩
          exact xr_ret (x_imp (x_ev (v := .int i) (by wtm_at "ev")) fun z B' _ hz => by
            subst hz
            exact hP i B' i0 i1)
end
end Ot
/-! Otherworths k13: pick, mixed -/
namespace Ot
open PySem PySem.Spec PyProof.Rows L2 Evl
local macro_rules | `(tactic| wtm_at "dc") => `(tactic| first
  | ((with_reducible apply dd_f); decide +kernel)
  | ((with_reducible apply dd_t); decide +kernel)
  | ((with_reducible apply dn_f); decide +kernel)
  | ((with_reducible apply dn_t); decide +kernel)
  | (with_reducible exact dec_int_non)
  | (with_reducible exact dec_bl_non)
  | (with_reducible exact dec_ref_non)
  | (with_reducible exact dec_str_non)
  | (with_reducible exact dec_str_ne (by assumption))
  | (with_reducible exact dec_str_eq (by assumption))
  | (with_reducible exact ndec_str_ne (by assumption))
  | (with_reducible exact ndec_str_eq (by assumption))
  | (with_reducible exact dec_int_ne (by omega))
  | (with_reducible exact dec_int_eq (by omega))
  | (with_reducible exact ndec_int_ne (by omega))
  | (with_reducible exact ndec_int_eq (by omega)))
local macro_rules | `(tactic| wtm_at "ic") => `(tactic| first
  | ((with_reducible apply iv_f); decide +kernel)
  | ((with_reducible apply iv_t); decide +kernel)
  | ((with_reducible apply ivn_f); decide +kernel)
  | ((with_reducible apply ivn_t); decide +kernel))
local macro_rules | `(tactic| wtm_at "iv") => `(tactic| first
  | exact bl_true (by omega)
  | exact bl_false (by omega)
  | rfl)
local macro_rules | `(tactic| wtm_at "ln") => `(tactic| first
  | (with_reducible exact ln0) | (with_reducible exact ln1) | (with_reducible exact ln2) | (with_reducible exact ln3) | (with_reducible exact ln4) | rfl)
local macro_rules | `(tactic| wtm_at "nb") => `(tactic| first
  | (with_reducible exact nb_t)
  | (with_reducible exact nb_f))
local macro_rules | `(tactic| wtm_at "kt") => `(tactic| first
  | (with_reducible exact kit_tt) | (with_reducible exact kit_ss) | (with_reducible exact kit_ii) | (with_reducible exact kit_ib) | (with_reducible exact kit_ni) | (with_reducible exact kit_dd) | (with_reducible exact kit_ll))
local macro_rules | `(tactic| wtm_at "vt") => `(tactic| first
  | exact .str | exact .int | exact .non | exact .bl | exact .tup (by assumption) | exact .lst (by assumption) | exact .dK (by assumption))
local macro_rules | `(tactic| wtm_at "sv") => `(tactic| assumption)
local macro_rules | `(tactic| wtm_at "ct") => `(tactic| first
  | (with_reducible exact ct_f)
  | ((with_reducible apply ct_t); wtm_at "ev")
  | (with_reducible exact cf_t)
  | ((with_reducible apply cf_f); wtm_at "ev")
  | (with_reducible exact ctv_f)
  | ((with_reducible apply ctv_t); wtm_at "ev")
  | (with_reducible exact cfv_t)
  | ((with_reducible apply cfv_f); wtm_at "ev")
  | ((with_reducible apply ci_t); wtm_at "ev")
  | ((with_reducible apply ci_f); wtm_at "ev"))
local macro_rules | `(tactic| wtm_at "ev") => `(tactic| first
  | ((with_reducible apply ev_var); rfl)
  | (with_reducible exact ev_c)
  | (with_reducible exact ea_nil)
  | ((with_reducible apply ea_cons) <;> wtm_at "ev")
  | ((with_reducible apply ev_ixT); (wtm_at "ev"); (wtm_at "ev"); assumption; rfl)
  | ((with_reducible apply ev_dgetS); (wtm_at "ev"); (wtm_at "ev"); assumption; assumption)
  | ((with_reducible apply ev_lenT); (wtm_at "ev"); assumption; (wtm_at "ln"))
  | ((with_reducible apply ev_isi); (wtm_at "ev"); (wtm_at "vt"); (wtm_at "kt"))
  | ((with_reducible apply ev_eq); (wtm_at "ev"); (wtm_at "ev"); rfl; (wtm_at "dc"))
  | ((with_reducible apply ev_ne); (wtm_at "ev"); (wtm_at "ev"); rfl; (wtm_at "dc"))
  | ((with_reducible apply ev_isN); (wtm_at "ev"); (wtm_at "dc"))
  | ((with_reducible apply ev_notN); (wtm_at "ev"); (wtm_at "dc"))
  | ((with_reducible apply ev_int0); (wtm_at "ev"); (wtm_at "ev"); (wtm_at "iv"))
  | ((with_reducible apply ev_niN); (wtm_at "ev"); (wtm_at "ev"); rfl; rfl; (wtm_at "ic"))
  | ((with_reducible apply ev_inN); (wtm_at "ev"); (wtm_at "ev"); rfl; rfl; (wtm_at "ic"))
  | ((with_reducible apply eu_tup); (wtm_at "ev"); simp)
  | ((with_reducible apply el_lst); (wtm_at "ev"); simp)
  | ((with_reducible apply ev_callP); (wtm_at "ev"); (wtm_at "sv"))
  | ((with_reducible apply et_test); wtm_at "ev")
  | ((with_reducible apply et_B); wtm_at "ev")
  | ((with_reducible apply ev_andG); (wtm_at "ev"); (wtm_at "ct"))
  | ((with_reducible apply ev_orG); (wtm_at "ev"); (wtm_at "ct"))
  | ((with_reducible apply ev_notG); (wtm_at "ev"); (wtm_at "nb"))
  | ((with_reducible apply et_andG); (wtm_at "ev"); (wtm_at "ct"))
  | ((with_reducible apply et_orG); (wtm_at "ev"); (wtm_at "ct"))
  | ((with_reducible apply et_notG); (wtm_at "ev"); (wtm_at "nb"))
  | ((with_reducible apply ev_ifG); (wtm_at "ev"); (wtm_at "ct"))
  | assumption)
local macro_rules | `(tactic| wtm_at "re") => `(tactic| first
  | ((with_reducible apply re_ifG); (wtm_at "ev"); first | ((with_reducible apply ci_t); wtm_at "re") | ((with_reducible apply ci_f); wtm_at "re"))
  | ((with_reducible apply re_retV); wtm_at "ev")
  | ((with_reducible apply re_asgV); (wtm_at "ev"); (wtm_at "re"))
  | ((with_reducible apply re_par); (wtm_at "ev"); (wtm_at "re")))
local macro_rules | `(tactic| wtm_at "rs") => `(tactic| repeat ((with_reducible apply re_ifG); (wtm_at "ev"); first | (with_reducible apply ci_t) | (with_reducible apply ci_f)))


def rIxLS (K : PySem.W.Frag) : R2 := fun x y H Q => rIxL K x y H Q ∨ rIxS x y H Q
def rLenLS (K : PySem.W.Frag) : List V → Hp → VK → Prop := fun xs H Q => rLenS K xs H Q ∨ rLenT xs H Q
theorem ix_LS {X : Cx} : IxR X (rIxLS X.K) := by
  intro value slice pins s σ H x y v u Q I rx ry h hs
  rcases h with h | h
  · exact L2.ix_list value slice pins s σ H x y v u Q I rx ry h hs
  · exact L2.ix_str value slice pins s σ H x y v u Q I rx ry h hs
theorem cr_lenLS {X : Cx} : CallR X (.builtin "len") (rLenLS X.K) := CallR.or cr_len cr_lenT
theorem atI_of {α : Type} {xs : List α} {i : Int} (h0 : 0 ≤ i) (h1 : i < (xs.length : Int)) : ∃ v, atI xs i = some v ∧ v ∈ xs := by
  have hlt : i.toNat < xs.length := by omega
  refine ⟨xs[i.toNat], ?_, List.getElem_mem hlt⟩
  unfold atI ixN
  rw [if_pos h0, if_pos h1]
  exact List.getElem?_eq_getElem hlt
/-- pick(draw, some): one of a list, or one sign of a text -/
def RPick : DRel := fun vs B P => (∃ (a : Addr) (xs : List V), vs = [.ref a] ∧ Ls B a xs ∧ xs ≠ [] ∧ xs.length ≤ 1000 ∧ ∀ x ∈ xs, ∀ B', P x B') ∨
  ∃ z : Str, vs = [.str z] ∧ 1 ≤ z.length ∧ z.length ≤ 1000 ∧ ∀ c ∈ z.cps.toList, ∀ B', P (.str ⟨#[c]⟩) B'
/-- mixed(draw, some): the same in another order -/
def RMixed : DRel := fun vs B P => ∃ (a : Addr) (ks : List Str), vs = [.ref a] ∧ Ls B a (strV ks) ∧ (∀ z ∈ ks, PyData.strOk z = true) ∧ ks.length ≤ 1000 ∧ ∀ (p : Addr) (ys : List Str) B', ys.Perm ks → Ls B' p (strV ys) → P (.ref p) B'
theorem shTexts {gs : List Str} (hg : ∀ z ∈ gs, PyData.strOk z = true) : SeqAt.shaped (.list (gs.map PyData.str)) = true := by
  have h : PyData.canLayAll0 (gs.map PyData.str) = true ∧ PyData.depthAll (gs.map PyData.str) = 0 := by
    induction gs with
    | nil => exact ⟨rfl, rfl⟩
    | cons g gs ih =>
      obtain ⟨i1, i2⟩ := ih fun z hz => hg z (List.mem_cons_of_mem _ hz)
      refine ⟨?_, ?_⟩
      · show (PyData.strOk g && PyData.canLayAll0 (gs.map PyData.str)) = true
        rw [i1, hg g List.mem_cons_self]
        rfl
      · show max 0 (PyData.depthAll (gs.map PyData.str)) = 0
        rw [i2]
        rfl
  show (PyData.canLayAll0 (gs.map PyData.str) && decide (PyData.depthAll (gs.map PyData.str) + 1 ≤ 64)) = true
  rw [h.1, h.2]
  rfl
theorem seqI {i : Int} {n : Nat} (h0 : 0 ≤ i) (h1 : i < n) : seqIndex? i n = some i.toNat := by
  have h2 : ¬ i < 0 := by omega
  unfold seqIndex?
  simp [h0, h1, h2]
theorem map_erase : ∀ (xs : List Str) (k : Nat), (strV xs).eraseIdx k = strV (xs.eraseIdx k)
  | [], _ => rfl
  | x :: xs, 0 => rfl
  | x :: xs, k + 1 => congrArg (V.str x :: ·) (map_erase xs k)
theorem erase_perm : ∀ {xs : List Str} {k : Nat} {y : Str}, xs[k]? = some y → (y :: xs.eraseIdx k).Perm xs
  | x :: xs, 0, y, h => by
    have h : x = y := Option.some.inj h
    subst h
    exact .refl _
  | x :: xs, k + 1, y, h => by
    have ih := erase_perm (xs := xs) (k := k) (y := y) h
    exact (List.Perm.swap x y _).trans (ih.cons x)
section
variable {K : PySem.W.Frag} {q : Dw} {σ : L2.St} {B : Hp} {ta tb : TE} {tz : TS} {P P1 P2 : PV} {i j : Nat}
theorem xr_par (ha : EvX q ta σ B P1) (hb : ∀ x B1, Ex B B1 → P1 x B1 → EvX q tb σ B1 P2) (k : ∀ x y B1 B2, Ex B B1 → P1 x B1 → Ex B1 B2 → P2 y B2 → XR q tz ((σ.set i (some x)).set j (some y)) B2 P) : XR q (tSeq (tPar i j (tCons ta (tCons tb tNil))) tz) σ B P := fun D H s f =>
  ha H s _ fun x B1 H1 e1 s1 p1 => hb x B1 e1 p1 H1 s1 _ fun y B2 H2 e2 s2 p2 => ⟨x, y, rfl, k x y B1 B2 e1 p1 e2 p2 D H2 s2 fun z B' H' e' s' p' => f z B' H' ((e1.trans e2).trans e') s' p'⟩
end
section
variable {K : PySem.W.Frag} {σ : L2.St} {H : Hp} {ta : TE} {a : Addr} {xs : List V} {z : Str}
theorem ev_lenLS1 (h : Ev ta σ H (.ref a)) (hx : Ls H a xs) : Ev (tCB (rLenLS K) (tCons ta tNil)) σ H (.int (xs.length : Nat)) := fun H1 e Q f => h H1 e _ fun H2 e2 => .inl ⟨a, xs, rfl, .inl (sq_of ((e.trans e2) _ _ hx)), f H2 e2⟩
theorem ev_lenLS2 (h : Ev ta σ H (.str z)) (hz : z.length ≤ 1000) : Ev (tCB (rLenLS K) (tCons ta tNil)) σ H (.int (z.length : Nat)) := fun H1 e Q f => h H1 e _ fun H2 e2 => .inr ⟨z, rfl, sz_of (by omega), f H2 e2⟩
end
section
variable {P : Program} {w : World} {K : PySem.W.Frag} {mg : Str → Option Value} {base : Heap}
def nm_law_pick : List Str := ["_law_draw", "_law_some"]
theorem sc_law_pick : FnScope nm_law_pick ["_law_draw", "_law_some"] (defScope s_law_pick) := C8.fnScope_by (by decide +kernel)
theorem ok_law_pick (T : Tx K mg) (C_law_take : C8.Cal P w K mg base 2 "_law_take" (DSp RTake) []) : C8.Cal P w K mg base 3 "_law_pick" (DSp RPick) [] := by
  refine T.pd 31 31 rfl rfl sc_law_pick (fun _ _ _ _ _ _ us hl => match us, hl with | [_, _], _ => rfl) (fun vs B Pv h => ?_) (fun cdv A outer s H q B vs Pv E hr h => ?_)
  · rcases h with ⟨_, _, rfl, _⟩ | ⟨_, rfl, _⟩ <;> rfl
  · have nd := sc_law_pick.nd
    refine ⟨_, (pss_one (ps_ret (pe_ix ix_LS (pv 1) (C8.pe_c C_law_take hr (by omega) (by rfl) (pa_cons (pv 0) (pa_cons (pe_callB cr_lenLS (by rfl) T.f_len PySem.boot_len (pa_cons (pv 1) pa_nil)) pa_nil))) (fun _ _ => rfl)))), ?_⟩
    rcases h with ⟨a, xs, rfl, ha, hne, hl, hP⟩ | ⟨z, rfl, h1, hl, hP⟩
    · have h0 : 0 < xs.length := List.length_pos_iff.mpr hne
      refine xr_ret (x_op (P1 := fun z _ => z = .ref a) (P2 := fun z _ => ∃ i : Int, z = .int i ∧ 0 ≤ i ∧ i < xs.length) (x_ev (by wtm_at "ev")) (fun x B1 e1 _ => x_callE (vs := [.int (xs.length : Nat)]) (ea_cons (by wtm_at "ev") (ea_cons (ev_lenLS1 (by wtm_at "ev") (e1 _ _ ha)) ea_nil)) fun B2 e2 => ⟨_, rfl, by omega, by omega, fun i B' i0 i1 => ⟨i, rfl, i0, i1⟩⟩) ?_)
      rintro x y B1 B2 e1 rfl e2 ⟨i, rfl, i0, i1⟩ H s2 Q f
      obtain ⟨v, hv, hm⟩ := atI_of i0 i1
      exact .inl ⟨a, xs, i, v, rfl, rfl, sq_of (s2.le _ _ (e2 _ _ (e1 _ _ ha))), hv, f v B2 H (Ex.refl _) s2 (hP v hm B2)⟩
    · refine xr_ret (x_op (P1 := fun y _ => y = .str z) (P2 := fun y _ => ∃ i : Int, y = .int i ∧ 0 ≤ i ∧ i < (z.cps.toList.length : Nat)) (x_ev (by wtm_at "ev")) (fun x B1 e1 _ => x_callE (vs := [.int (z.length : Nat)]) (ea_cons (by wtm_at "ev") (ea_cons (ev_lenLS2 (by wtm_at "ev") hl) ea_nil)) fun B2 e2 => ⟨_, rfl, by omega, by omega, fun i B' i0 i1 => ⟨i, rfl, i0, by rw [Array.length_toList]; exact i1⟩⟩) ?_)
      rintro x y B1 B2 e1 rfl e2 ⟨i, rfl, i0, i1⟩ H s2 Q f
      obtain ⟨v, hv, hm⟩ := atI_of i0 i1
      exact .inr ⟨z, i, v, rfl, rfl, sz_of (by omega), hv, f _ B2 H (Ex.refl _) s2 (hP v hm B2)⟩
def nm_law_mixed : List Str := ["_law_draw", "_law_some", "_law_left", "_law_found"]
theorem sc_law_mixed : FnScope nm_law_mixed ["_law_draw", "_law_some"] (defScope s_law_mixed) := C8.fnScope_by (by decide +kernel)
theorem ok_law_mixed (T : Tx K mg) (C_law_take : C8.Cal P w K mg base 2 "_law_take" (DSp RTake) []) : C8.Cal P w K mg base 3 "_law_mixed" (DSp RMixed) [] := by
  refine T.pd 32 32 rfl rfl sc_law_mixed (fun _ _ _ _ _ _ us hl => match us, hl with | [_, _], _ => rfl) (fun vs B Pv h => ?_) (fun cdv A outer s H q B vs Pv E hr h => ?_)
  · obtain ⟨_, _, rfl, _⟩ := h
    rfl
  · have nd := sc_law_mixed.nd
    have hu64 := hr.units
    refine ⟨_, (pss_cons (ps_par (i := 2) (j := 3) rfl nd rfl rfl (by decide) rfl rfl (pa_cons (pe_callTy cr_listS (by rfl) T.f_list (by decide +kernel) (pa_cons (pv 1) pa_nil)) (pa_cons (pe_lst pa_nil) pa_nil)) (by rfl))
      (pss_cons (ps_while PassesOwn.never (pt_cmpR (op_neD hu64) (pv 2) (pe_lst pa_nil) (nomark _))
      (pss_one (ps_expr (pe_bm PySem.F.plainAttrs_list PySem.F.slot_list_append PySem.F.type_list_append mt_append (pv 3) (pa_cons (pe_bm PySem.F.plainAttrs_list PySem.F.slot_list_pop PySem.F.type_list_pop mt_popAt (pv 2) (pa_cons (C8.pe_c C_law_take hr (by omega) (by rfl) (pa_cons (pv 0) (pa_cons (pe_callB cr_len (by rfl) T.f_len PySem.boot_len (pa_cons (pv 2) pa_nil)) pa_nil))) pa_nil)) pa_nil)))))
      (pss_one (ps_ret (pv 3))))), ?_⟩
    obtain ⟨a, ks, rfl, ha, hok, hl, hP⟩ := h
    intro D H s0 fin
    refine (x_new (er_lst (el_list (by wtm_at "ev") (sq_of ha))) : EvX q _ (start nm_law_mixed [.ref q.d, .ref a]) B _) H s0 _ fun x B1 H1 e1 s1 ⟨l, hx, hl0, lc, hl1⟩ => ?_
    refine (x_new (er_lst (el_lst ea_nil (by simp))) : EvX q _ (start nm_law_mixed [.ref q.d, .ref a]) B1 _) H1 s1 _ fun y B2 H2 e2 s2 ⟨f, hy, hf0, fc, hf1⟩ => ⟨x, y, rfl, ?_⟩
    subst hx hy
    have lf : l ≠ f := fun z => by
      rw [z, hf0] at hl1
      cases hl1
    have hl2 := e2 _ _ hl1
    refine ⟨fun m σ' H' => σ' = [some (.ref q.d), some (.ref a), some (.ref l), some (.ref f)] ∧ ∃ B' ls fs, Ex B B' ∧ Sd q B' H' ∧ Ls B' l (strV ls) ∧ Ls B' f (strV fs) ∧ (fs ++ ls).Perm ks ∧ m = ls.length, ⟨ks.length, rfl, B2, ks, [], e1.trans e2, s2, hl2, hf1, .refl _, rfl⟩, ?_⟩
    rintro m σ' H' ⟨rfl, B', ls, fs, e', s', hl', hf', hp, rfl⟩
    have lsub : ∀ z ∈ ls, PyData.strOk z = true := fun z hz => hok z (hp.mem_iff.mp (List.mem_append_right _ hz))
    have llen : fs.length + ls.length = ks.length := by
      have h := hp.length_eq
      rw [List.length_append] at h
      exact h
    refine ⟨.ref l, rfl, sz_of (by decide), fun p hpn => ?_⟩
    obtain ⟨n1, n2, n3⟩ := s'.dr.ne hpn
    have s3 : Sd q B' (upd H' p (.lst [])) := (s'.upd n1 n2 n3 (o := .lst [])).base (Ex.new (s'.none hpn))
    refine ⟨.list (ls.map PyData.str), .list [], .lst (sq_of (s3.le _ _ hl')) (dpTexts ls), .lst (sq_of upd_same) .nil, shTexts lsub, rfl, _, rfl, ?_⟩
    cases ls with
    | nil =>
      rw [List.append_nil] at hp
      exact ⟨.ref f, rfl, fin _ B' _ e' s3 (hP f fs B' hp hf')⟩
    | cons z0 ls' =>
      show ∃ N : L2.St → Hp → Prop, _
      refine ⟨fun σ'' H'' => σ'' = [some (.ref q.d), some (.ref a), some (.ref l), some (.ref f)] ∧ ∃ B'' ls'' fs'', Ex B B'' ∧ Sd q B'' H'' ∧ Ls B'' l (strV ls'') ∧ Ls B'' f (strV fs'') ∧ (fs'' ++ ls'').Perm ks ∧ ls''.length = ls'.length, fun σ'' H'' ⟨h1, B'', ls'', fs'', a1, a2, a3, a4, a5, a6⟩ => ⟨ls'.length, Nat.lt_succ_self _, h1, B'', ls'', fs'', a1, a2, a3, a4, a5, a6.symm⟩, ?_⟩
      refine ⟨.ref f, rfl, Or.inl ⟨rfl, _, sq_of (s3.le _ _ hf')⟩, .ref l, rfl, Or.inl ⟨rfl, _, sq_of (s3.le _ _ hl')⟩, ?_⟩
      have hlen : (strV (z0 :: ls')).length = ls'.length + 1 := by rw [List.length_map, List.length_cons]
      refine (x_callE (E := C8.E0) (R := RTake) (P := fun z _ => ∃ i : Int, z = .int i ∧ 0 ≤ i ∧ i < (ls'.length + 1 : Nat)) (σ := [some (.ref q.d), some (.ref a), some (.ref l), some (.ref f)]) (B := B') (ta := tCons (tVar 0) (tCons (tCB (rLenS K) (tCons (tVar 2) tNil)) tNil)) (vs := [.int (ls'.length + 1 : Nat)]) (ea_cons (by wtm_at "ev") (ea_cons (ev_lenL (by wtm_at "ev") hl' (by rw [hlen])) ea_nil)) fun B3 e3 => ⟨_, rfl, by omega, by rw [List.length_cons] at llen; omega, fun i B' i0 i1 => ⟨i, rfl, i0, i1⟩⟩) _ s3 _ fun z B4 H4 e4 s4 ⟨i, hz, i0, i1⟩ => ?_
      subst hz
      have hl4 := e4 _ _ hl'
      have hf4 := e4 _ _ hf'
      have hlt : i.toNat < (z0 :: ls').length := by rw [List.length_cons]; omega
      have hyi : (z0 :: ls')[i.toNat]? = some ((z0 :: ls')[i.toNat]) := List.getElem?_eq_getElem hlt
      generalize (z0 :: ls')[i.toNat] = y0 at hyi
      refine ⟨l, strV (z0 :: ls'), i, i.toNat, .str y0, rfl, rfl, s4.le _ _ hl4, by omega, by rw [List.length_cons] at llen; omega, seqI i0 (by rw [hlen]; exact i1), by rw [List.getElem?_map, hyi]; rfl, ?_⟩
      have ee : (strV (z0 :: ls')).eraseIdx i.toNat = strV ((z0 :: ls').eraseIdx i.toNat) := map_erase _ _
      rw [ee]
      obtain ⟨m1, m2⟩ := s4.ne hl4
      have s5 := s4.upd m1 m2 lc (o := .lst (strV ((z0 :: ls').eraseIdx i.toNat)))
      have hf5 : Ls (upd B4 l (.lst (strV ((z0 :: ls').eraseIdx i.toNat)))) f (strV fs) := by
        show (upd B4 l _) f = _
        rw [upd_ne (Ne.symm lf)]
        exact hf4
      refine ⟨f, strV fs, .str y0, rfl, rfl, s5.le _ _ hf5, sz_lt (by rw [List.length_map]; omega), rfl, _, (z0 :: ls').eraseIdx i.toNat, fs ++ [y0], ?_, s5.upd (s5.ne hf5).1 (s5.ne hf5).2 fc, ?_, ?_, ?_, ?_⟩
      · exact Ex.mut (Ex.mut (e'.trans e4) hl0) (fresh_back e1 hf0)
      · show (upd _ f _) l = _
        rw [upd_ne lf]
        exact upd_same
      · show (upd _ f _) f = _
        rw [upd_same]
        unfold strV
        rw [List.map_append]
        rfl
      · rw [List.append_assoc]
        exact (List.Perm.append_left fs (erase_perm hyi)).trans hp
      · rw [List.length_eraseIdx, if_pos hlt, List.length_cons, Nat.add_sub_cancel]
end
end Ot
/-! Otherworths k13: words -/
namespace Ot
open PySem PySem.Spec PyProof.Rows L2 Evl
local macro_rules | `(tactic| wtm_at "dc") => `(tactic| first
  | ((with_reducible apply dd_f); decide +kernel)
  | ((with_reducible apply dd_t); decide +kernel)
  | ((with_reducible apply dn_f); decide +kernel)
  | ((with_reducible apply dn_t); decide +kernel)
  | (with_reducible exact dec_int_non)
  | (with_reducible exact dec_bl_non)
  | (with_reducible exact dec_ref_non)
  | (with_reducible exact dec_str_non)
  | (with_reducible exact dec_str_ne (by assumption))
  | (with_reducible exact dec_str_eq (by assumption))
  | (with_reducible exact ndec_str_ne (by assumption))
  | (with_reducible exact ndec_str_eq (by assumption))
  | (with_reducible exact dec_int_ne (by omega))
  | (with_reducible exact dec_int_eq (by omega))
  | (with_reducible exact ndec_int_ne (by omega))
  | (with_reducible exact ndec_int_eq (by omega)))
local macro_rules | `(tactic| wtm_at "ic") => `(tactic| first
  | ((with_reducible apply iv_f); decide +kernel)
  | ((with_reducible apply iv_t); decide +kernel)
  | ((with_reducible apply ivn_f); decide +kernel)
  | ((with_reducible apply ivn_t); decide +kernel))
local macro_rules | `(tactic| wtm_at "iv") => `(tactic| first
  | exact bl_true (by omega)
  | exact bl_false (by omega)
  | rfl)
local macro_rules | `(tactic| wtm_at "ln") => `(tactic| first
  | (with_reducible exact ln0) | (with_reducible exact ln1) | (with_reducible exact ln2) | (with_reducible exact ln3) | (with_reducible exact ln4) | rfl)
local macro_rules | `(tactic| wtm_at "nb") => `(tactic| first
  | (with_reducible exact nb_t)
  | (with_reducible exact nb_f))
local macro_rules | `(tactic| wtm_at "kt") => `(tactic| first
  | (with_reducible exact kit_tt) | (with_reducible exact kit_ss) | (with_reducible exact kit_ii) | (with_reducible exact kit_ib) | (with_reducible exact kit_ni) | (with_reducible exact kit_dd) | (with_reducible exact kit_ll))
local macro_rules | `(tactic| wtm_at "vt") => `(tactic| first
  | exact .str | exact .int | exact .non | exact .bl | exact .tup (by assumption) | exact .lst (by assumption) | exact .dK (by assumption))
local macro_rules | `(tactic| wtm_at "sv") => `(tactic| assumption)
local macro_rules | `(tactic| wtm_at "ct") => `(tactic| first
  | (with_reducible exact ct_f)
  | ((with_reducible apply ct_t); wtm_at "ev")
  | (with_reducible exact cf_t)
  | ((with_reducible apply cf_f); wtm_at "ev")
  | (with_reducible exact ctv_f)
  | ((with_reducible apply ctv_t); wtm_at "ev")
  | (with_reducible exact cfv_t)
  | ((with_reducible apply cfv_f); wtm_at "ev")
  | ((with_reducible apply ci_t); wtm_at "ev")
  | ((with_reducible apply ci_f); wtm_at "ev"))
local macro_rules | `(tactic| wtm_at "ev") => `(tactic| first
  | ((with_reducible apply ev_var); rfl)
  | (with_reducible exact ev_c)
  | (with_reducible exact ea_nil)
  | ((with_reducible apply ea_cons) <;> wtm_at "ev")
  | ((with_reducible apply ev_ixT); (wtm_at "ev"); (wtm_at "ev"); assumption; rfl)
  | ((with_reducible apply ev_dgetS); (wtm_at "ev"); (wtm_at "ev"); assumption; assumption)
  | ((with_reducible apply ev_lenT); (wtm_at "ev"); assumption; (wtm_at "ln"))
  | ((with_reducible apply ev_isi); (wtm_at "ev"); (wtm_at "vt"); (wtm_at "kt"))
  | ((with_reducible apply ev_eq); (wtm_at "ev"); (wtm_at "ev"); rfl; (wtm_at "dc"))
  | ((with_reducible apply ev_ne); (wtm_at "ev"); (wtm_at "ev"); rfl; (wtm_at "dc"))
  | ((with_reducible apply ev_isN); (wtm_at "ev"); (wtm_at "dc"))
  | ((with_reducible apply ev_notN); (wtm_at "ev"); (wtm_at "dc"))
  | ((with_reducible apply ev_int0); (wtm_at "ev"); (wtm_at "ev"); (wtm_at "iv"))
  | ((with_reducible apply ev_niN); (wtm_at "ev"); (wtm_at "ev"); rfl; rfl; (wtm_at "ic"))
  | ((with_reducible apply ev_inN); (wtm_at "ev"); (wtm_at "ev"); rfl; rfl; (wtm_at "ic"))
  | ((with_reducible apply eu_tup); (wtm_at "ev"); simp)
  | ((with_reducible apply el_lst); (wtm_at "ev"); simp)
  | ((with_reducible apply ev_callP); (wtm_at "ev"); (wtm_at "sv"))
  | ((with_reducible apply et_test); wtm_at "ev")
  | ((with_reducible apply et_B); wtm_at "ev")
  | ((with_reducible apply ev_andG); (wtm_at "ev"); (wtm_at "ct"))
  | ((with_reducible apply ev_orG); (wtm_at "ev"); (wtm_at "ct"))
  | ((with_reducible apply ev_notG); (wtm_at "ev"); (wtm_at "nb"))
  | ((with_reducible apply et_andG); (wtm_at "ev"); (wtm_at "ct"))
  | ((with_reducible apply et_orG); (wtm_at "ev"); (wtm_at "ct"))
  | ((with_reducible apply et_notG); (wtm_at "ev"); (wtm_at "nb"))
  | ((with_reducible apply ev_ifG); (wtm_at "ev"); (wtm_at "ct"))
  | assumption)
local macro_rules | `(tactic| wtm_at "re") => `(tactic| first
  | ((with_reducible apply re_ifG); (wtm_at "ev"); first | ((with_reducible apply ci_t); wtm_at "re") | ((with_reducible apply ci_f); wtm_at "re"))
  | ((with_reducible apply re_retV); wtm_at "ev")
  | ((with_reducible apply re_asgV); (wtm_at "ev"); (wtm_at "re"))
  | ((with_reducible apply re_par); (wtm_at "ev"); (wtm_at "re")))
local macro_rules | `(tactic| wtm_at "rs") => `(tactic| repeat ((with_reducible apply re_ifG); (wtm_at "ev"); first | (with_reducible apply ci_t) | (with_reducible apply ci_f)))


def rAddS : R2 := fun x y H Q => ∃ i j, x = .str i ∧ y = .str j ∧ i.length + j.length ≤ sizeLine ∧ Q (.str (i ++ j)) H
theorem op_addS {X : Cx} : OpR X (binaryOp .Add) rAddS := op_add_str
section
variable {K : PySem.W.Frag} {q : Dw} {σ : L2.St} {H B : Hp} {ta tb tl te : TE} {tr : TA} {t tu tz : TS} {P P1 : PV} {P2 : V → PV} {i j : Nat} {D : Ends} {M : L2.St → Hp → Prop} {x : V} {a : Addr} {xs ys : List V} {y z : Str}
theorem xd_asg2 (ha : EvX q ta σ B P1) (hb : ∀ x B1, Ex B B1 → P1 x B1 → EvX q tb σ B1 (P2 x)) (s : Sd q B H) (k : ∀ x y B2 H2, Ex B B2 → Sd q B2 H2 → (∃ B1, Ex B B1 ∧ Ex B1 B2 ∧ P1 x B1) → P2 x y B2 → tz D ((σ.set i (some x)).set j (some y)) H2) :
    tSeq (tAsg (tTup (tCons ta (tCons tb tNil))) (gTup K 2 (gCons (gName i) (gCons (gName j) gNil)))) tz D σ H :=
  ha H s _ fun x B1 H1 e1 s1 p1 => hb x B1 e1 p1 H1 s1 _ fun y B2 H2 e2 s2 p2 => ⟨sz_of (by simp), fun p hp => ⟨p, [x, y], rfl, st_of upd_same, rfl, x, [y], rfl, y, [], rfl, rfl, by
    obtain ⟨n1, n2, n3⟩ := s2.dr.ne hp
    exact k x y B2 _ (e1.trans e2) ((s2.upd n1 n2 n3).base (Ex.new (s2.none hp))) ⟨B1, e1, e2, p1⟩ p2⟩⟩
theorem xd_forR {A : Nat → Hp → Prop} (h : EvXA q tr σ B (fun ws B' => ∃ n : Nat, ws = [.int (n : Int)] ∧ n ≤ 100000 ∧ A n B')) (s : Sd q B H) (hs : ∀ (n : Nat) B1 H1, Ex B B1 → Sd q B1 H1 → A n B1 → ∃ M : Nat → L2.St → Hp → Prop, M 0 σ B1 ∧ (∀ (i : Nat) σ' B', i < n → M i σ' B' → XB q t (σ'.set j (some (.int (i : Int)))) B' (M (i + 1))) ∧ ∀ σ' B' H', Sd q B' H' → M n σ' B' → D.nx σ' H') :
    tFor (iRng1 tr) (gName j) t D σ H := h H s _ fun ws B1 H1 e1 s1 ⟨n, hw, hn, ha⟩ => by
  obtain ⟨M, m0, mt, mz⟩ := hs n B1 H1 e1 s1 ha
  refine ⟨n, hw, by omega, by omega, for_it (walk_range (n := (n : Int).toNat)) (fun i σ' H' => ∃ B', Sd q B' H' ∧ M i σ' B') ⟨B1, s1, m0⟩ (fun _ _ _ _ _ => trivial) (fun i x σ' H' H2 hi ⟨B', s', m⟩ y => ?_) fun σ' H' ⟨B', s', m⟩ => mz σ' B' H' s' (by rw [Int.toNat_natCast] at m; exact m)⟩
  obtain ⟨rfl, hx⟩ := y
  have hx : x = .int (0 + i) := hx
  rw [hx, Int.zero_add]
  show t _ (σ'.set j (some (.int (i : Int)))) H2
  exact mt i σ' B' (by rw [Int.toNat_natCast] at hi; exact hi) m _ H2 s' fun σ2 B2 H3 s3 m3 => ⟨B2, s3, m3⟩
theorem xd_forL {Px : Addr → List V → Hp → Prop} (h : EvX q tl σ B (fun z B' => ∃ p ys, z = .ref p ∧ Ls B' p ys ∧ Px p ys B')) (s : Sd q B H) (hs : ∀ (p : Addr) (ys : List V) B1 H1, Ex B B1 → Sd q B1 H1 → Ls B1 p ys → Px p ys B1 → ∃ M : Nat → L2.St → Hp → Prop, M 0 σ B1 ∧ (∀ i σ' B', M i σ' B' → Ls B' p ys) ∧ (∀ (i : Nat) x σ' B', ys[i]? = some x → M i σ' B' → XB q t (σ'.set j (some x)) B' (M (i + 1))) ∧ ∀ σ' B' H', Sd q B' H' → M ys.length σ' B' → D.nx σ' H') :
    tFor (iList K tl) (gName j) t D σ H := h H s _ fun z B1 H1 e1 s1 ⟨p, ys, hz, hp, hx⟩ => by
  obtain ⟨M, m0, ml, mt, mz⟩ := hs p ys B1 H1 e1 s1 hp hx
  refine ⟨p, hz, ⟨ys, sq_of (s1.le _ _ hp)⟩, for_it walk_list (fun i σ' H' => ∃ B', Sd q B' H' ∧ M i σ' B') ⟨B1, s1, m0⟩ (fun i σ' H' _ ⟨B', s', m⟩ => sq_of (s'.le _ _ (ml i σ' B' m))) (fun i x σ' H' H2 hi ⟨B', s', m⟩ y => ?_) fun σ' H' ⟨B', s', m⟩ => mz σ' B' H' s' m⟩
  obtain ⟨rfl, hx⟩ := y
  show t _ (σ'.set j (some x)) H2
  exact mt i x σ' B' hx m _ H2 s' fun σ2 B2 H3 s3 m3 => ⟨B2, s3, m3⟩
theorem xdq_forR {A : Nat → Hp → Prop} (h : EvXA q tr σ B (fun ws B' => ∃ n : Nat, ws = [.int (n : Int)] ∧ n ≤ 100000 ∧ A n B')) (s : Sd q B H) (hs : ∀ (n : Nat) B1 H1, Ex B B1 → Sd q B1 H1 → A n B1 → ∃ M : Nat → L2.St → Hp → Prop, M 0 σ B1 ∧ (∀ (i : Nat) σ' B', i < n → M i σ' B' → XB q t (σ'.set j (some (.int (i : Int)))) B' (M (i + 1))) ∧ ∀ σ' B' H', Sd q B' H' → M n σ' B' → tz D σ' H') :
    tSeq (tFor (iRng1 tr) (gName j) t) tz D σ H := xd_forR (D := { D with nx := tz D }) h s hs
theorem xdq_forL {Px : Addr → List V → Hp → Prop} (h : EvX q tl σ B (fun z B' => ∃ p ys, z = .ref p ∧ Ls B' p ys ∧ Px p ys B')) (s : Sd q B H) (hs : ∀ (p : Addr) (ys : List V) B1 H1, Ex B B1 → Sd q B1 H1 → Ls B1 p ys → Px p ys B1 → ∃ M : Nat → L2.St → Hp → Prop, M 0 σ B1 ∧ (∀ i σ' B', M i σ' B' → Ls B' p ys) ∧ (∀ (i : Nat) x σ' B', ys[i]? = some x → M i σ' B' → XB q t (σ'.set j (some x)) B' (M (i + 1))) ∧ ∀ σ' B' H', Sd q B' H' → M ys.length σ' B' → tz D σ' H') :
    tSeq (tFor (iList K tl) (gName j) t) tz D σ H := xd_forL (D := { D with nx := tz D }) h s hs
theorem xd_ret (h : EvX q te σ B P) (s : Sd q B H) (k : ∀ z B' H', Ex B B' → Sd q B' H' → P z B' → D.rt z H') : tRet te D σ H := h H s _ k
theorem xd_asg (h : EvX q te σ B P) (s : Sd q B H) (k : ∀ z B1 H1, Ex B B1 → Sd q B1 H1 → P z B1 → tz D (σ.set i (some z)) H1) : tSeq (tAsg te (gName i)) tz D σ H := h H s _ k
theorem xa_of {Pa : List V → Hp → Prop} {vs : List V} (h : EvA tr σ B vs) (hp : ∀ B', Ex B B' → Pa vs B') : EvXA q tr σ B Pa := fun H s Q f => xa_ea h H s Q fun z B' H' e' s' hz => f z B' H' e' s' (by rw [hz]; exact hp B' e')
/-- pick from a new list -/
theorem x_pickL {E : XK} (hd : Ev ta σ B (.ref q.d)) (hl : EvL te σ B xs) (hne : xs ≠ []) (hlen : xs.length ≤ 1000) : EvX q (tCall (DSp RPick) [] E (tCons ta (tCons te tNil))) σ B (fun z _ => z ∈ xs) :=
  x_call (Pa := fun ws B' => ∃ p, ws = [.ref q.d, .ref p] ∧ Ls B' p xs) (xa_cons (x_ev hd) fun z B1 e1 hz => xa_cons (P1 := fun z B' => ∃ p, z = .ref p ∧ Ls B' p xs) (x_imp (x_new (er_lst (EvL.mono e1 hl))) fun z B' _ ⟨p, h1, _, _, h2⟩ => ⟨p, h1, h2⟩) fun z2 B2 e2 ⟨p, hp, hx⟩ => fun H s Q f => f [] B2 H (Ex.refl _) s ⟨p, by rw [hz, hp], hx⟩)
    fun ws B1 e1 ⟨p, hw, hx⟩ => ⟨[.ref p], _, hw, .inl ⟨p, xs, rfl, hx, hne, hlen, fun x hx B' => hx⟩, fun z B' _ h => h⟩
/-- take(draw, n) > .. and the like: any answer -/
theorem x_takeE {E : XK} {n : Int} (hd : Ev ta σ B (.ref q.d)) (hn : Ev te σ B (.int n)) (h0 : 0 < n) (h1 : n < 1073741824) : EvX q (tCall (DSp RTake) [] E (tCons ta (tCons te tNil))) σ B (fun z _ => ∃ i : Int, z = .int i ∧ 0 ≤ i ∧ i < n) :=
  x_callE (vs := [.int n]) (ea_cons hd (ea_cons hn ea_nil)) fun B1 e1 => ⟨n, rfl, h0, h1, fun i B' i0 i1 => ⟨i, rfl, i0, i1⟩⟩
theorem ev_addS (ha : Ev ta σ H (.str y)) (hb : Ev tb σ H (.str z)) (hl : y.length + z.length ≤ 1000) : Ev (tOp rAddS ta tb) σ H (.str (y ++ z)) := fun H1 e Q f => ha H1 e _ fun H2 e2 => hb H2 (e.trans e2) _ fun H3 e3 => ⟨y, z, rfl, rfl, sz_of (by omega), f H3 (e2.trans e3)⟩
theorem ev_slS {lo hi : Option Int} {t1 t2 : TO} (ha : Ev ta σ H (.str y)) (h1 : EvO t1 σ H lo) (h2 : EvO t2 σ H hi) (hl : y.length ≤ 1000) : Ev (tSl C8.rSlX ta t1 t2) σ H (.str (Txt.slice y lo hi)) := fun H1 e Q f => ha H1 e _ fun H2 e2 => h1 H2 (e.trans e2) _ fun H3 e3 => h2 H3 ((e.trans e2).trans e3) _ fun H4 e4 => ⟨y, rfl, sz_of (by omega), f H4 (e2.trans (e3.trans e4))⟩
theorem el_cat (ha : EvL ta σ H xs) (hb : EvL tb σ H ys) (hl : xs.length + ys.length ≤ 1000) : EvL (tOp rCat ta tb) σ H (xs ++ ys) := fun H1 e Q f => ha H1 e _ fun p H2 hp e2 h2 => hb H2 (e.trans e2) _ fun r H3 hr e3 h3 => ⟨p, r, xs, ys, rfl, rfl, e3 _ _ h2, h3, sz_of (by omega), fun l hl => f l _ (fresh_back (e2.trans e3) hl) ((e2.trans e3).trans (Ex.new hl)) upd_same⟩
theorem ev_niLs {b : Bool} (ha : Ev ta σ H x) (hb : Ev tb σ H (.ref a)) (hx : Ls H a xs) (f1 : flatV x = true) (f2 : xs.all flatV = true) (hd : (!inV x xs) = b) : Ev (tOp (rIn K true) ta tb) σ H (.bl b) := by
  subst hd
  exact ev_op ha hb (rv_niL (sq_of hx) f1 f2)
theorem ev_ixLN {i : Int} {v : V} (ha : EvL ta σ H xs) (hb : ∀ H1, Ex H H1 → Ev tb σ H1 (.int i)) (hi : atI xs i = some v) : Ev (tOp (rIxL K) ta tb) σ H v := ev_opL1 ha hb fun p H1 h _ => rv_ixL (sq_of h) hi
end
theorem atI0 {x : V} {xs : List V} : atI (x :: xs) 0 = some x := by
  unfold atI ixN
  rw [if_pos (by omega), if_pos (by rw [List.length_cons]; omega)]
  rfl
/-! ### texts of letters -/
open SX in
theorem name_S {cs : List Nat} (h1 : 1 ≤ cs.length) (h8 : cs.length ≤ 8) (hc : ∀ c ∈ cs, c ∈ letters.cps.toList) : NameOk (S cs) := ⟨by rw [S_len]; exact h1, by rw [S_len]; exact h8, fun c h => hc c (by simpa using h)⟩
/-- what may become the next word -/
def nearL (y : Str) : List Str := y :: (letters.cps.toList.map fun c => Txt.slice y none (some 7) ++ ⟨#[c]⟩)
theorem near_str (y : Str) : strV (nearL y) = [V.str y] ++ strV (letters.cps.toList.map fun c => Txt.slice y none (some 7) ++ ⟨#[c]⟩) := by
  unfold nearL
  generalize letters.cps.toList = l
  rfl
theorem near_len (y : Str) : (nearL y).length = 27 := by
  unfold nearL
  rw [List.length_cons, List.length_map, show letters.cps.toList.length = 26 by decide +kernel]
open SX in
theorem near_at (y : Str) (c : Nat) : Txt.slice y none (some 7) ++ (⟨#[c]⟩ : Str) = S (y.cps.toList.take 7 ++ [c]) := by
  conv => lhs; rw [← S_tl y]
  rw [slice_to (by decide)]
  exact S_cat _ [c]
theorem near_ok {y : Str} (h : NameOk y) : ∀ z ∈ nearL y, NameOk z := fun z hz => by
  obtain ⟨h1, h8, hc⟩ := h
  rcases List.mem_cons.mp hz with rfl | hz
  · exact ⟨h1, h8, hc⟩
  · obtain ⟨c, hm, rfl⟩ := List.mem_map.mp hz
    rw [near_at]
    refine name_S (by rw [List.length_append]; show 1 ≤ _ + 1; omega) (by rw [List.length_append, List.length_take]; show _ + 1 ≤ 8; omega) fun d hd => ?_
    rcases List.mem_append.mp hd with hd | hd
    · exact hc d (List.mem_of_mem_take hd)
    · rw [List.mem_singleton.mp hd]
      exact hm
open SX in
theorem near_new {y : Str} {fs : List Str} (hl : fs.length < 26) : ∃ z ∈ nearL y, z ∉ fs := by
  refine Classical.byContradiction fun hn => ?_
  have all : ∀ z ∈ nearL y, z ∈ fs := fun z hz => Classical.byContradiction fun h => hn ⟨z, hz, h⟩
  have nd : (letters.cps.toList.map fun c => Txt.slice y none (some 7) ++ (⟨#[c]⟩ : Str)).Nodup := by
    refine List.Pairwise.map (R := fun a b => a ≠ b) _ (fun a b hab e => hab ?_) (by decide +kernel : letters.cps.toList.Nodup)
    rw [near_at, near_at] at e
    have e := S_inj e
    exact (List.cons.inj (List.append_cancel_left e)).1
  have h := nodup_sub_length nd fun z hz => all z (List.mem_cons_of_mem _ hz)
  rw [List.length_map, show letters.cps.toList.length = 26 by decide +kernel] at h
  omega
theorem kept_filter (p : Str → Bool) : ∀ zs : List Str, kept (zs.map p) (strV zs) = strV (zs.filter p)
  | [] => rfl
  | z :: zs => by
    have ih := kept_filter p zs
    cases hp : p z with
    | true =>
      rw [List.filter_cons, if_pos hp]
      show kept (p z :: zs.map p) (V.str z :: strV zs) = V.str z :: strV (zs.filter p)
      rw [hp, ← ih]
      rfl
    | false =>
      rw [List.filter_cons, if_neg (by rw [hp]; exact Bool.false_ne_true)]
      show kept (p z :: zs.map p) (V.str z :: strV zs) = _
      rw [hp, ← ih]
      rfl
theorem signs_of : ∀ {zs : List V}, (∀ v ∈ zs, ∃ c, c ∈ letters.cps.toList ∧ v = .str ⟨#[c]⟩) → ∃ cs : List Nat, zs = strV (cs.map fun c => SX.S [c]) ∧ ∀ c ∈ cs, c ∈ letters.cps.toList
  | [], _ => ⟨[], rfl, fun c h => by cases h⟩
  | z :: zs, h => by
    obtain ⟨c, hc, rfl⟩ := h z List.mem_cons_self
    obtain ⟨cs, rfl, h2⟩ := signs_of (zs := zs) fun v hv => h v (List.mem_cons_of_mem _ hv)
    refine ⟨c :: cs, rfl, fun d hd => ?_⟩
    rcases List.mem_cons.mp hd with rfl | hd
    · exact hc
    · exact h2 d hd
theorem sum_one : ∀ cs : List Nat, ((cs.map fun c => SX.S [c]).map (·.length)).sum = cs.length
  | [] => rfl
  | c :: cs => by
    show 1 + ((cs.map fun c => SX.S [c]).map (·.length)).sum = cs.length + 1
    rw [sum_one cs, Nat.add_comm]
theorem join_one (cs : List Nat) : V.str (Txt.join "" (cs.map fun c => SX.S [c])) = V.str (SX.S cs) := by
  have h := SX.join_S [] (cs.map fun c => [c])
  rw [List.map_map] at h
  have hj : ∀ l : List Nat, TL.joinL [] (l.map fun c => [c]) = l := fun l => by
    induction l with
    | nil => rfl
    | cons c l ih =>
      cases l with
      | nil => rfl
      | cons d l => exact congrArg (c :: ·) ih
  rw [hj] at h
  exact congrArg V.str h
theorem inV_dec (z : Str) : ∀ ns : List Str, inV (.str z) (strV ns) = decide (z ∈ ns)
  | [] => rfl
  | n :: ns => by
    show ((n == z) || inV (.str z) (strV ns)) = _
    rw [inV_dec z ns]
    by_cases h : n = z
    · subst h
      simp
    · simp [h, Ne.symm h]
def RWords : DRel := fun vs B P => ∃ n : Nat, vs = [.int (n : Int)] ∧ n ≤ 20 ∧ ∀ (p : Addr) (ks : List Str) B', ks.length = n → ks.Nodup → (∀ z ∈ ks, NameOk z) → Ls B' p (strV ks) → P (.ref p) B'
def some12 : List Str := ["a", "b", "x", "xy", "not", "and", "or", "all", "any", "lacks", "most", "zzzzzzzz"]
theorem some12_ok : ∀ z ∈ some12, NameOk z := by
  have h : (some12.all fun z => decide (1 ≤ z.length) && (decide (z.length ≤ 8) && z.cps.toList.all fun c => decide (c ∈ letters.cps.toList))) = true := by decide +kernel
  intro z hz
  have h := List.all_eq_true.mp h z hz
  rw [Bool.and_eq_true, Bool.and_eq_true, decide_eq_true_eq, decide_eq_true_eq] at h
  exact ⟨h.1, h.2.1, fun c hc => of_decide_eq_true (List.all_eq_true.mp h.2.2 c hc)⟩
section
variable {P : Program} {w : World} {K : PySem.W.Frag} {mg : Str → Option Value} {base : Heap}
def nm_law_words : List Str := ["_law_draw", "_law_count", "_law_letters", "_law_found", "_law_some", "_law_k", "_law_word", "_law_span", "_law_near", "_law_j", "_law_letter", "_law_one"]
theorem sc_law_words : FnScope nm_law_words ["_law_draw", "_law_count"] (defScope s_law_words) := C8.fnScope_by (by decide +kernel)
theorem ok_law_words (T : Tx K mg) (C_law_take : C8.Cal P w K mg base 2 "_law_take" (DSp RTake) []) (C_law_pick : C8.Cal P w K mg base 3 "_law_pick" (DSp RPick) []) : C8.Cal P w K mg base 4 "_law_words" (DSp RWords) [] := by
  refine T.pd 33 33 rfl rfl sc_law_words (fun _ _ _ _ _ _ us hl => match us, hl with | [_, _], _ => rfl) (fun vs B Pv h => ?_) (fun cdv A outer s H q B vs Pv E hr h => ?_)
  · obtain ⟨_, rfl, _⟩ := h
    rfl
  · have nd := sc_law_words.nd
    refine ⟨_, (pss_cons (ps_asg (pe_tup (pa_cons pe_str (pa_cons (pe_lst pa_nil) pa_nil))) (pg_tup (n := 2) rfl (pgs_cons (pg_name (i := 2) nd rfl (Or.inr rfl)) (pgs_cons (pg_name (i := 3) nd rfl (Or.inr rfl)) pgs_nil))))
      (pss_cons (ps_set (i := 4) nd rfl (Or.inl rfl) (pe_lst (pa_cons pe_str (pa_cons pe_str (pa_cons pe_str (pa_cons pe_str (pa_cons pe_str (pa_cons pe_str (pa_cons pe_str (pa_cons pe_str (pa_cons pe_str (pa_cons pe_str (pa_cons pe_str (pa_cons pe_str pa_nil))))))))))))))
      (pss_cons (ps_for PassesOwn.never rfl (pi_range1 (by rfl) T.f_range (pa_cons (pv 1) pa_nil)) (pg_name (i := 5) nd rfl (Or.inl rfl))
      (pss_cons (ps_set (i := 6) nd rfl (Or.inr rfl) (C8.pe_c C_law_pick hr (by omega) (by rfl) (pa_cons (pv 0) (pa_cons (pv 4) pa_nil))))
      (pss_cons (ps_if (pt_cmpR op_gt (C8.pe_c C_law_take hr (by omega) (by rfl) (pa_cons (pv 0) (pa_cons pe_int pa_nil))) pe_int (nomark _))
      (pss_cons (ps_set (i := 7) nd rfl (Or.inl rfl) (pe_op op_add pe_int (C8.pe_c C_law_take hr (by omega) (by rfl) (pa_cons (pv 0) (pa_cons (C8.pe_c C_law_pick hr (by omega) (by rfl) (pa_cons (pv 0) (pa_cons (pe_lst (pa_cons pe_int (pa_cons pe_int (pa_cons pe_int pa_nil)))) pa_nil))) pa_nil)))))
      (pss_one (ps_set (i := 6) nd rfl (Or.inr rfl) (pe_join pe_str (pe_lc (own := [("_law_j", 9)]) (g := (gName 9)) rfl nd (pi_range1 (by rfl) T.f_range (pa_cons (pv 7) pa_nil)) (blkOk_by (own := [("_law_j", 9)]) (N := nm_law_words) (sc := defScope s_law_words) (by decide +kernel)) (fun _ _ _ _ _ => (pg_name (i := 9) nd rfl (Or.inl rfl))) (fun _ _ _ _ _ => pts_nil) (fun _ _ _ _ _ => (C8.pe_c C_law_pick hr (by omega) (by rfl) (pa_cons (pv 0) (pa_cons (pv 2) pa_nil)))))))))
      pss_nil)
      (pss_cons (ps_set (i := 8) nd rfl (Or.inl rfl) (pe_op op_cat (pe_lst (pa_cons (pv 6) pa_nil)) (pe_lc (own := [("_law_letter", 10)]) (g := (gName 10)) rfl nd (pi_str (pv 2)) (blkOk_by (own := [("_law_letter", 10)]) (N := nm_law_words) (sc := defScope s_law_words) (by decide +kernel)) (fun _ _ _ _ _ => (pg_name (i := 10) nd rfl (Or.inl rfl))) (fun _ _ _ _ _ => pts_nil) (fun _ _ _ _ _ => (pe_op op_addS (pe_slice C8.sl_txt (pv 6) po_none (po_some pe_int)) (pv 10))))))
      (pss_one (ps_expr (pe_bm PySem.F.plainAttrs_list PySem.F.slot_list_append PySem.F.type_list_append mt_append (pv 3) (pa_cons (pe_ix ix_list (pe_lc (own := [("_law_one", 11)]) (g := (gName 11)) rfl nd (pi_list (pv 8)) (blkOk_by (own := [("_law_one", 11)]) (N := nm_law_words) (sc := defScope s_law_words) (by decide +kernel)) (fun _ _ _ _ _ => (pg_name (i := 11) nd rfl (Or.inl rfl))) (fun _ _ _ _ _ => (pts_one (pt_cmpR (q_ni K rfl) (pv 11) (pv 3) (by rfl)))) (fun _ _ _ _ _ => (pv 11))) pe_int (fun _ _ => rfl)) pa_nil))))))))
      (pss_one (ps_ret (pv 3)))))), ?_⟩
    obtain ⟨n, rfl, hn, hP⟩ := h
    intro D H s0 fin
    refine xd_asg2 (P1 := fun z _ => z = .str letters) (P2 := fun _ z B' => ∃ p, z = .ref p ∧ B p = none ∧ p ≠ q.c ∧ B' p = some (.lst [])) (x_ev ev_c) (fun x B1 e1 _ => x_imp (x_new (er_lst (el_lst ea_nil (by simp)))) fun z B' _ ⟨p, h1, h2, h3, h4⟩ => ⟨p, h1, fresh_back e1 h2, h3, h4⟩) s0 ?_
    rintro x y B1 H1 e1 s1 ⟨_, _, _, rfl⟩ ⟨f, rfl, hf0, fc, hf1⟩
    refine xd_asg (x_new (er_lst (el_lst (vs := strV some12) (show EvA _ _ _ [V.str "a", V.str "b", V.str "x", V.str "xy", V.str "not", V.str "and", V.str "or", V.str "all", V.str "any", V.str "lacks", V.str "most", V.str "zzzzzzzz"] from by wtm_at "ev") (by decide)))) s1 ?_
    rintro z B2 H2 e2 s2 ⟨a, rfl, ha0, _, ha2⟩
    have af : a ≠ f := fun z => by
      rw [z, hf1] at ha0
      cases ha0
    have hf2 := e2 _ _ hf1
    refine xdq_forR (A := fun m _ => m = n) (xa_of (by wtm_at "ev") fun B' _ => ⟨n, rfl, by omega, rfl⟩) s2 ?_
    rintro m B3 H3 e3 s3 rfl
    refine ⟨fun i σ' B' => ∃ fs o5 o6 o7 o8, σ' = [some (.ref q.d), some (.int (m : Int)), some (.str letters), some (.ref f), some (.ref a), o5, o6, o7, o8, none, none, none] ∧ Ex B B' ∧ Ls B' f (strV fs) ∧ Ls B' a (strV some12) ∧ fs.Nodup ∧ (∀ z ∈ fs, NameOk z) ∧ fs.length = i,
      ⟨[], none, none, none, none, rfl, e1.trans (e2.trans e3), e3 _ _ hf2, e3 _ _ ha2, .nil, (fun z hz => by cases hz), rfl⟩, ?_, ?_⟩
    · rintro i σ' B' hi ⟨fs, o5, o6, o7, o8, rfl, eB, hf, ha, hnd, hok, hlen⟩
      refine xb_asgS (P1 := fun z _ => ∃ y, z = .str y ∧ NameOk y) (x_callE (vs := [.ref a]) (by wtm_at "ev") fun B4 e4 => .inl ⟨a, strV some12, rfl, e4 _ _ ha, by decide, by decide, fun x hx B' => ?_⟩) ?_
      · obtain ⟨y, hy, rfl⟩ := List.mem_map.mp hx
        exact ⟨y, rfl, some12_ok y hy⟩
      rintro z B4 e4 ⟨y, rfl, hy⟩
      refine xb_ifB (Pt := fun _ _ => True) (M1 := fun σ'' B'' => (∃ y o7, NameOk y ∧ σ'' = [some (.ref q.d), some (.int (m : Int)), some (.str letters), some (.ref f), some (.ref a), some (.int (i : Int)), some (.str y), o7, o8, none, none, none]) ∧ Ex B4 B'')
        (xt_test (P := fun z _ => ∃ b, z = .bl b) (x_imp (x_i0 (A2 := fun _ => True) (x_takeE (n := 3) (by wtm_at "ev") (by wtm_at "ev") (by decide) (by decide)) fun B5 e5 => x_int (by wtm_at "ev") trivial) fun z B' _ ⟨i, j, hz, _⟩ => ⟨_, hz⟩) fun z B' ⟨b, hz⟩ => ⟨b, hz, trivial⟩) ?_ (fun B5 e5 _ => ⟨⟨y, o7, hy, rfl⟩, e5⟩) ?_
      · intro B5 e5 _
        refine xb_asgS (P1 := fun z _ => ∃ k : Nat, z = .int (k : Int) ∧ 1 ≤ k ∧ k ≤ 8) (x_imp (x_i0 (A1 := fun i => i = 1) (A2 := fun i => 0 ≤ i ∧ i < 8) (x_int (by wtm_at "ev") rfl) fun B6 e6 => x_call (Pa := fun ws _ => ∃ n : Int, ws = [.ref q.d, .int n] ∧ 0 < n ∧ n ≤ 8) (xa_cons (x_ev (v := .ref q.d) (by wtm_at "ev")) fun z B7 e7 hz => xa_cons (x_pickL (xs := [.int 1, .int 2, .int 8]) (by wtm_at "ev") (el_lst (by wtm_at "ev") (by decide)) (by decide) (by decide)) fun z2 B8 e8 hz2 => ?_) ?_) ?_) ?_
        · intro H s Q fq
          have hm : ∃ k : Int, z2 = .int k ∧ 0 < k ∧ k ≤ 8 := by
            simp only [List.mem_cons, List.not_mem_nil, or_false] at hz2
            rcases hz2 with rfl | rfl | rfl
            all_goals exact ⟨_, rfl, by decide, by decide⟩
          obtain ⟨k, rfl, k0, k8⟩ := hm
          exact fq [] B8 H (Ex.refl _) s ⟨k, by rw [hz], k0, k8⟩
        · rintro ws B7 e7 ⟨k, rfl, k0, k8⟩
          exact ⟨[.int k], _, rfl, ⟨k, rfl, k0, by omega, fun i B' i0 i1 => (⟨i, rfl, i0, by omega⟩ : ∃ i' : Int, V.int i = .int i' ∧ 0 ≤ i' ∧ i' < 8)⟩, fun z B' _ h => h⟩
        · rintro z B' _ ⟨i, j, rfl, rfl, j0, j8⟩
          exact ⟨(1 + j).toNat, by congr 1; omega, by omega, by omega⟩
        · rintro z B6 e6 ⟨k, rfl, k1, k8⟩
          refine xb_asg (P1 := fun z _ => ∃ y, z = .str y ∧ NameOk y) (fun H s Q fq => ⟨⟨_, rfl⟩, (x_lc (Px := fun xs _ => ∃ n : Nat, xs = nums n ∧ n = k) (Pe := fun _ z _ => ∃ c, c ∈ letters.cps.toList ∧ z = .str ⟨#[c]⟩) (wx_rangeX (A := fun n _ => n = k) (xa_of (by wtm_at "ev") fun B' _ => ⟨k, rfl, by omega, rfl⟩)) (fun xs B1 ⟨n, hx, hn⟩ => by rw [hx, List.length_map, List.length_range]; omega) (fun _ => rfl) (fun xs B1 e1 hx i x hi B2 e2 => x_callE (vs := [.str letters]) (by wtm_at "ev") fun B3 e3 => .inr ⟨letters, rfl, by decide +kernel, by decide +kernel, fun c hc B' => ⟨c, hc, rfl⟩⟩) (fun _ _ _ _ _ h => h) (fun _ _ _ _ _ _ _ h => h)) H s _ fun z B7 H7 e7 s7 ⟨p, xs, B8, zs, hz, _, _, _, ⟨n, hxs, hn⟩, hp, hl, hc⟩ => ?_⟩) fun z B7 e7 ⟨y, hy, hyo⟩ => by
            subst hy
            exact ⟨⟨y, _, hyo, rfl⟩, e5.trans (e6.trans e7)⟩
          obtain ⟨cs, rfl, hcs⟩ := signs_of (zs := zs) fun v hv => by
            obtain ⟨i, hi⟩ := List.mem_iff_getElem?.mp hv
            have hlt := (List.getElem?_eq_some_iff.mp hi).1
            exact hc i _ v (List.getElem?_eq_getElem (by omega)) hi
          have hcl : cs.length = k := by
            rw [List.length_map, List.length_map, hxs, List.length_map, List.length_range, hn] at hl
            exact hl
          refine ⟨_, p, cs.map fun c => SX.S [c], rfl, by rw [hz], .inl (sq_of (s7.le _ _ hp)), by rw [sum_one, List.length_map]; show cs.length + cs.length * 0 ≤ _; omega, fq _ B7 H7 e7 s7 ⟨SX.S cs, ?_, name_S (by omega) (by omega) hcs⟩⟩
          rw [join_one]
      · rintro σ'' B5 ⟨⟨y, o7, hy, rfl⟩, e5⟩
        have hf5 := e5 _ _ (e4 _ _ hf)
        have ha5 := e5 _ _ (e4 _ _ ha)
        have hyl : y.length ≤ 8 := hy.2.1
        have near : EvL (tOp rCat (tLst (tCons (tVar 6) tNil)) (tLc (iStr (tVar 2)) (gName 10) tYes (tOp rAddS (tSl C8.rSlX (tVar 6) tNoPart (tPart (tC (.int 7)))) (tVar 10)) [10])) [some (.ref q.d), some (.int (m : Int)), some (.str letters), some (.ref f), some (.ref a), some (.int (i : Int)), some (.str y), o7, o8, none, none, none] B5 (strV (nearL y)) := by
          rw [near_str]
          have l26 : letters.cps.toList.length = 26 := by decide +kernel
          have sl : (signs letters).length = 26 := by
            unfold signs
            rw [List.length_map, l26]
          have tl : (strV (letters.cps.toList.map fun c => Txt.slice y none (some 7) ++ ⟨#[c]⟩)).length = 26 := by rw [List.length_map, List.length_map, l26]
          refine el_cat (el_lst (by wtm_at "ev") (by simp)) (el_lc (ei_str (z := letters) (by wtm_at "ev")) (by rw [sl]; omega) (by rw [sl, tl]) (fun _ => rfl) fun k x z hx hz => ?_) (by rw [tl]; simp)
          unfold signs at hx
          rw [List.getElem?_map] at hx hz
          rw [List.getElem?_map] at hz
          cases hk : letters.cps.toList[k]? with
          | none => rw [hk] at hx; cases hx
          | some c =>
            rw [hk] at hx hz
            have hx : V.str ⟨#[c]⟩ = x := Option.some.inj hx
            have hz : V.str (Txt.slice y none (some 7) ++ ⟨#[c]⟩) = z := Option.some.inj hz
            subst hx hz
            refine ev_addS (ev_slS (by wtm_at "ev") eo_none (eo_some (by wtm_at "ev")) (by omega)) (by wtm_at "ev") ?_
            have h1 := (near_ok hy _ (List.mem_cons_of_mem _ (List.mem_map.mpr ⟨c, List.mem_of_getElem? hk, rfl⟩))).2.1
            have h2 : (Txt.slice y none (some 7)).length ≤ 8 := by
              conv => lhs; rw [← SX.S_tl y]
              rw [SX.slice_to (by decide), SX.S_len, List.length_take]
              omega
            have h3 : (⟨#[c]⟩ : Str).length = 1 := rfl
            omega
        refine xb_asgS (x_new (er_lst near)) ?_
        rintro z B6 e6 ⟨p, rfl, _, pc, hp⟩
        have hf6 := e6 _ _ hf5
        have ha6 := e6 _ _ ha5
        have hp6 : Ls B6 p (strV (nearL y)) := hp
        obtain ⟨n0, hn0, hn1⟩ := near_new (y := y) (fs := fs) (by omega)
        have hne : (nearL y).filter (fun z => !decide (z ∈ fs)) ≠ [] := fun h => by
          have := List.filter_eq_nil_iff.mp h n0 hn0
          simp [hn1] at this
        cases hflt : (nearL y).filter (fun z => !decide (z ∈ fs)) with
        | nil => exact absurd hflt hne
        | cons w0 rest =>
          have hw0 : w0 ∈ (nearL y).filter (fun z => !decide (z ∈ fs)) := by rw [hflt]; exact List.mem_cons_self
          obtain ⟨hw1, hw2⟩ := List.mem_filter.mp hw0
          have hw2 : w0 ∉ fs := by simpa using hw2
          have hin : ∀ (z : Str), (!inV (.str z) (strV fs)) = (!decide (z ∈ fs)) := fun z => by rw [inV_dec]
          have nl := near_len y
          have ev : Ev (tOp (rIxL K) (tLc (iList K (tVar 8)) (gName 11) (tTest (tOp (rIn K true) (tVar 11) (tVar 3))) (tVar 11) [11]) (tC (.int 0))) [some (.ref q.d), some (.int (m : Int)), some (.str letters), some (.ref f), some (.ref a), some (.int (i : Int)), some (.str y), o7, some (.ref p), none, none, none] B6 (.str w0) := by
            refine ev_ixLN (xs := strV ((nearL y).filter (fun z => !decide (z ∈ fs)))) ?_ (fun _ _ => ev_c) (by rw [hflt]; exact atI0)
            rw [← kept_filter]
            refine el_lcIf (ei_list (by wtm_at "ev") hp6) (by rw [List.length_map]; omega) rfl (by rw [List.length_map, List.length_map]) (fun _ => rfl) (fun k x b hx hb => ?_) fun k x z hx hz _ => ?_
            · obtain ⟨z, hz, rfl⟩ := strV_get hx
              rw [List.getElem?_map, hz] at hb
              have hb : (!decide (z ∈ fs)) = b := Option.some.inj hb
              exact et_test (ev_niLs (by wtm_at "ev") (by wtm_at "ev") hf6 rfl (flat_str _) ((hin z).trans hb))
            · rw [hx] at hz
              cases hz
              exact ev_var rfl
          refine xb_app hf6 fc (by rw [List.length_map]; omega) (by wtm_at "ev") (x_ev ev) fun z B7 e7 hz => ?_
          subst hz
          have efs : strV fs ++ [V.str w0] = strV (fs ++ [w0]) := by
            unfold strV
            rw [List.map_append]
            rfl
          refine ⟨fs ++ [w0], _, _, _, _, rfl, Ex.mut (eB.trans (e4.trans (e5.trans (e6.trans e7)))) hf0, by rw [efs]; exact upd_same, ?_, ?_, ?_, ?_⟩
          · show (upd B7 f _) a = _
            rw [upd_ne af]
            exact e7 _ _ ha6
          · rw [List.nodup_append]
            refine ⟨hnd, by simp, fun x hx y hy hxy => hw2 ?_⟩
            rw [← List.mem_singleton.mp hy, ← hxy]
            exact hx
          · intro z hz
            rcases List.mem_append.mp hz with hz | hz
            · exact hok z hz
            · rw [List.mem_singleton.mp hz]
              exact near_ok hy w0 hw1
          · rw [List.length_append, hlen]
            rfl
    · rintro σ' B' H' s' ⟨fs, o5, o6, o7, o8, rfl, eB, hf, ha, hnd, hok, hlen⟩
      exact ⟨.ref f, rfl, fin _ B' H' eB s' (hP f fs B' hlen hnd hok hf)⟩
end
end Ot
/-! Otherworths k13: frame, shape, test -/
namespace Ot
open PySem PySem.Spec PyProof.Rows L2 Evl
local macro_rules | `(tactic| wtm_at "dc") => `(tactic| first
  | ((with_reducible apply dd_f); decide +kernel)
  | ((with_reducible apply dd_t); decide +kernel)
  | ((with_reducible apply dn_f); decide +kernel)
  | ((with_reducible apply dn_t); decide +kernel)
  | (with_reducible exact dec_int_non)
  | (with_reducible exact dec_bl_non)
  | (with_reducible exact dec_ref_non)
  | (with_reducible exact dec_str_non)
  | (with_reducible exact dec_str_ne (by assumption))
  | (with_reducible exact dec_str_eq (by assumption))
  | (with_reducible exact ndec_str_ne (by assumption))
  | (with_reducible exact ndec_str_eq (by assumption))
  | (with_reducible exact dec_int_ne (by omega))
  | (with_reducible exact dec_int_eq (by omega))
  | (with_reducible exact ndec_int_ne (by omega))
  | (with_reducible exact ndec_int_eq (by omega)))
local macro_rules | `(tactic| wtm_at "ic") => `(tactic| first
  | ((with_reducible apply iv_f); decide +kernel)
  | ((with_reducible apply iv_t); decide +kernel)
  | ((with_reducible apply ivn_f); decide +kernel)
  | ((with_reducible apply ivn_t); decide +kernel))
local macro_rules | `(tactic| wtm_at "iv") => `(tactic| first
  | exact bl_true (by omega)
  | exact bl_false (by omega)
  | rfl)
local macro_rules | `(tactic| wtm_at "ln") => `(tactic| first
  | (with_reducible exact ln0) | (with_reducible exact ln1) | (with_reducible exact ln2) | (with_reducible exact ln3) | (with_reducible exact ln4) | rfl)
local macro_rules | `(tactic| wtm_at "nb") => `(tactic| first
  | (with_reducible exact nb_t)
  | (with_reducible exact nb_f))
local macro_rules | `(tactic| wtm_at "kt") => `(tactic| first
  | (with_reducible exact kit_tt) | (with_reducible exact kit_ss) | (with_reducible exact kit_ii) | (with_reducible exact kit_ib) | (with_reducible exact kit_ni) | (with_reducible exact kit_dd) | (with_reducible exact kit_ll))
local macro_rules | `(tactic| wtm_at "vt") => `(tactic| first
  | exact .str | exact .int | exact .non | exact .bl | exact .tup (by assumption) | exact .lst (by assumption) | exact .dK (by assumption))
local macro_rules | `(tactic| wtm_at "sv") => `(tactic| assumption)
local macro_rules | `(tactic| wtm_at "ct") => `(tactic| first
  | (with_reducible exact ct_f)
  | ((with_reducible apply ct_t); wtm_at "ev")
  | (with_reducible exact cf_t)
  | ((with_reducible apply cf_f); wtm_at "ev")
  | (with_reducible exact ctv_f)
  | ((with_reducible apply ctv_t); wtm_at "ev")
  | (with_reducible exact cfv_t)
  | ((with_reducible apply cfv_f); wtm_at "ev")
  | ((with_reducible apply ci_t); wtm_at "ev")
  | ((with_reducible apply ci_f); wtm_at "ev"))
local macro_rules | `(tactic| wtm_at "ev") => `(tactic| first
  | ((with_reducible apply ev_var); rfl)
  | (with_reducible exact ev_c)
  | (with_reducible exact ea_nil)
  | ((with_reducible apply ea_cons) <;> wtm_at "ev")
  | ((with_reducible apply ev_ixT); (wtm_at "ev"); (wtm_at "ev"); assumption; rfl)
  | ((with_reducible apply ev_dgetS); (wtm_at "ev"); (wtm_at "ev"); assumption; assumption)
  | ((with_reducible apply ev_lenT); (wtm_at "ev"); assumption; (wtm_at "ln"))
  | ((with_reducible apply ev_isi); (wtm_at "ev"); (wtm_at "vt"); (wtm_at "kt"))
  | ((with_reducible apply ev_eq); (wtm_at "ev"); (wtm_at "ev"); rfl; (wtm_at "dc"))
  | ((with_reducible apply ev_ne); (wtm_at "ev"); (wtm_at "ev"); rfl; (wtm_at "dc"))
  | ((with_reducible apply ev_isN); (wtm_at "ev"); (wtm_at "dc"))
  | ((with_reducible apply ev_notN); (wtm_at "ev"); (wtm_at "dc"))
  | ((with_reducible apply ev_int0); (wtm_at "ev"); (wtm_at "ev"); (wtm_at "iv"))
  | ((with_reducible apply ev_niN); (wtm_at "ev"); (wtm_at "ev"); rfl; rfl; (wtm_at "ic"))
  | ((with_reducible apply ev_inN); (wtm_at "ev"); (wtm_at "ev"); rfl; rfl; (wtm_at "ic"))
  | ((with_reducible apply eu_tup); (wtm_at "ev"); simp)
  | ((with_reducible apply el_lst); (wtm_at "ev"); simp)
  | ((with_reducible apply ev_callP); (wtm_at "ev"); (wtm_at "sv"))
  | ((with_reducible apply et_test); wtm_at "ev")
  | ((with_reducible apply et_B); wtm_at "ev")
  | ((with_reducible apply ev_andG); (wtm_at "ev"); (wtm_at "ct"))
  | ((with_reducible apply ev_orG); (wtm_at "ev"); (wtm_at "ct"))
  | ((with_reducible apply ev_notG); (wtm_at "ev"); (wtm_at "nb"))
  | ((with_reducible apply et_andG); (wtm_at "ev"); (wtm_at "ct"))
  | ((with_reducible apply et_orG); (wtm_at "ev"); (wtm_at "ct"))
  | ((with_reducible apply et_notG); (wtm_at "ev"); (wtm_at "nb"))
  | ((with_reducible apply ev_ifG); (wtm_at "ev"); (wtm_at "ct"))
  | assumption)
local macro_rules | `(tactic| wtm_at "re") => `(tactic| first
  | ((with_reducible apply re_ifG); (wtm_at "ev"); first | ((with_reducible apply ci_t); wtm_at "re") | ((with_reducible apply ci_f); wtm_at "re"))
  | ((with_reducible apply re_retV); wtm_at "ev")
  | ((with_reducible apply re_asgV); (wtm_at "ev"); (wtm_at "re"))
  | ((with_reducible apply re_par); (wtm_at "ev"); (wtm_at "re")))
local macro_rules | `(tactic| wtm_at "rs") => `(tactic| repeat ((with_reducible apply re_ifG); (wtm_at "ev"); first | (with_reducible apply ci_t) | (with_reducible apply ci_f)))


section
variable {K : PySem.W.Frag} {q : Dw} {σ : L2.St} {H B : Hp} {t1 t2 t3 te : TE} {tt : TT} {tz : TS} {P P1 P2 : PV} {wi : TI} {ws : List Nat} {i j : Nat} {xs x1 x2 x3 : List V} {D : Ends}
theorem x_ls {a : Addr} (h : Ev te σ B (.ref a)) (hx : Ls B a xs) : EvX q te σ B (fun z B' => ∃ a, z = .ref a ∧ Ls B' a xs) := x_imp (x_ev h) fun z B' e hz => ⟨a, hz, e _ _ hx⟩
theorem x_el (h : EvL te σ B xs) : EvX q te σ B (fun z B' => ∃ a, z = .ref a ∧ Ls B' a xs) := x_imp (x_new (er_lst h)) fun z B' _ ⟨p, h1, _, _, h2⟩ => ⟨p, h1, h2⟩
theorem ls_upd {B : Hp} {a p : Addr} {o : HO} {kvs : List (Key × V)} (hx : Ls B a xs) (hp : B p = some (.dK kvs)) : Ls (upd B p o) a xs := by
  have n : a ≠ p := fun z => by
    have hx : B a = _ := hx
    rw [z, hp] at hx
    cases hx
  show (upd B p o) a = _
  rw [upd_ne n]
  exact hx
theorem x_disp3 {k1 k2 k3 : Str} (nd : ([Sum.inr k1, Sum.inr k2, Sum.inr k3] : List Key).Nodup) (h1 : ∀ B1, Ex B B1 → EvX q t1 σ B1 (fun z B' => ∃ a, z = .ref a ∧ Ls B' a x1)) (h2 : ∀ B1, Ex B B1 → EvX q t2 σ B1 (fun z B' => ∃ a, z = .ref a ∧ Ls B' a x2)) (h3 : ∀ B1, Ex B B1 → EvX q t3 σ B1 (fun z B' => ∃ a, z = .ref a ∧ Ls B' a x3)) :
    EvX q (tDisp [(tC (.str k1), t1), (tC (.str k2), t2), (tC (.str k3), t3)]) σ B (fun z B' => ∃ p a b c, z = .ref p ∧ Dk B' p [(Sum.inr k1, .ref a), (Sum.inr k2, .ref b), (Sum.inr k3, .ref c)] ∧ Ls B' a x1 ∧ Ls B' b x2 ∧ Ls B' c x3) := fun H s Q f => fun p hp => by
  obtain ⟨n1, n2, n3⟩ := s.dr.ne hp
  have hb := s.none hp
  have s0 := s.upd n1 n2 n3 (o := .dK [])
  have e0 : Ex B (upd B p (.dK [])) := Ex.new hb
  refine h1 _ e0 _ s0 _ fun z1 B1 H1 e1 s1 ⟨a, hz1, ha⟩ => h2 _ (e0.trans e1) _ s1 _ fun z2 B2 H2 e2 s2 ⟨b, hz2, hb2⟩ => h3 _ (e0.trans (e1.trans e2)) _ s2 _ fun z3 B3 H3 e3 s3 ⟨c, hz3, hc⟩ => ?_
  subst hz1 hz2 hz3
  have hp3 : B3 p = some (.dK []) := e3 _ _ (e2 _ _ (e1 _ _ upd_same))
  have hm := mergeK_nodup [(Sum.inr k1, .ref a), (Sum.inr k2, .ref b), (Sum.inr k3, .ref c)] [] nd
  rw [List.nil_append] at hm
  refine ⟨s3.le _ _ hp3, [(Sum.inr k1, .ref a), (Sum.inr k2, .ref b), (Sum.inr k3, .ref c)], rfl, show 3 ≤ 15 by decide, ?_⟩
  rw [hm]
  exact f _ (upd B3 p (.dK [(Sum.inr k1, .ref a), (Sum.inr k2, .ref b), (Sum.inr k3, .ref c)])) _ (Ex.mut (e0.trans (e1.trans (e2.trans e3))) hb) (s3.upd n1 n2 n3) ⟨p, a, b, c, rfl, upd_same, ls_upd (e3 _ _ (e2 _ _ ha)) hp3, ls_upd (e3 _ _ hb2) hp3, ls_upd hc hp3⟩
/-- [x for x in xs if ..], the test draws -/
theorem x_lcF {a : Addr} {tl : TE} (h : Ev tl σ B (.ref a)) (hx : Ls B a xs) (hl : xs.length ≤ 40000) (hw : ∀ x, wipe ((wipe σ ws).set j (some x)) ws = wipe σ ws) (ht : ∀ x B2, Ex B B2 → EvXT q tt ((wipe σ ws).set j (some x)) B2 (fun _ _ => True)) (he : ∀ x B2, Ev te ((wipe σ ws).set j (some x)) B2 x) :
    EvX q (tLc (iList K tl) (gName j) tt te ws) σ B (fun z B' => ∃ p zs, z = .ref p ∧ zs.Sublist xs ∧ Ls B' p zs) := fun H s Q f => h H s.le _ fun H1 e1 => by
  have s1 := (s.step e1).1.base (s.step e1).2
  refine ⟨a, rfl, ⟨xs, sq_of (s1.le _ _ hx)⟩, fun D hD => ?_⟩
  obtain ⟨n1, n2, n3⟩ := s1.dr.ne hD
  have hB := s1.none hD
  refine lc_it walk_list (fun i H' => ∃ B' zs, Ex B B' ∧ Sd q B' H' ∧ Ls B' D zs ∧ zs.Sublist (xs.take i)) ⟨upd B D (.lst []), [], Ex.new hB, s1.upd n1 n2 n3, upd_same, List.nil_sublist _⟩ (fun i H' _ ⟨B', zs, a1, a2, _⟩ => sq_of (a2.le _ _ (a1 _ _ hx)))
    (fun i x H2 H2' hi ⟨B', zs, a1, a2, a3, a4⟩ y => ?_) fun H' ⟨B', zs, a1, a2, a3, a4⟩ => f _ B' H' a1 a2 ⟨D, zs, rfl, by rw [List.take_length] at a4; exact a4, a3⟩
  obtain ⟨rfl, hxi⟩ := y
  refine ⟨hw x, ?_⟩
  show tt ((wipe σ ws).set j (some x)) H2' _
  refine ht x B' a1 H2' a2 _ fun b B3 H3 e3 s3 _ => ?_
  have tk : xs.take (i + 1) = xs.take i ++ [x] := (take_snoc hxi).symm
  have zl : zs.length ≤ xs.length := Nat.le_trans a4.length_le (by rw [List.length_take]; omega)
  cases b with
  | true =>
    show te ((wipe σ ws).set j (some x)) H3 _
    refine he x B3 H3 s3.le _ fun H4 e4 => ?_
    have s4 := (s3.step e4).1.base (s3.step e4).2
    have h4 : B3 D = some (.lst zs) := e3 _ _ a3
    refine ⟨zs, s4.le _ _ h4, sz_lt (by omega), upd B3 D (.lst (zs ++ [x])), zs ++ [x], Ex.mut (a1.trans e3) hB, s4.upd n1 n2 n3, upd_same, ?_⟩
    rw [tk]
    exact List.Sublist.append a4 (List.Sublist.refl _)
  | false =>
    refine ⟨B3, zs, a1.trans e3, s3, e3 _ _ a3, ?_⟩
    rw [tk]
    exact a4.trans (List.sublist_append_left _ _)
theorem x_words {E : XK} {ta : TE} {A : Nat → Prop} (hd : Ev ta σ B (.ref q.d)) (hn : ∀ B1, Ex B B1 → EvX q te σ B1 (fun z _ => ∃ m : Nat, z = .int (m : Int) ∧ A m)) (hA : ∀ m, A m → m ≤ 20) :
    EvX q (tCall (DSp RWords) [] E (tCons ta (tCons te tNil))) σ B (fun z B' => ∃ p ks, z = .ref p ∧ A ks.length ∧ ks.Nodup ∧ (∀ z ∈ ks, NameOk z) ∧ Ls B' p (strV ks)) :=
  x_call (Pa := fun ws _ => ∃ m : Nat, ws = [.ref q.d, .int (m : Int)] ∧ A m) (xa_cons (x_ev hd) fun z B1 e1 hz => xa_cons (hn B1 e1) fun z2 B2 e2 ⟨m, hm, ha⟩ => fun H s Q f => f [] B2 H (Ex.refl _) s ⟨m, by rw [hz, hm], ha⟩)
    fun ws B1 e1 ⟨m, hw, ha⟩ => ⟨[.int (m : Int)], (fun z B' => ∃ p ks, z = .ref p ∧ A ks.length ∧ ks.Nodup ∧ (∀ z ∈ ks, NameOk z) ∧ Ls B' p (strV ks)), hw, ⟨m, rfl, hA m ha, fun p ks B' hl hn hk hp => ⟨p, ks, rfl, by rw [hl]; exact ha, hn, hk, hp⟩⟩, fun z B' _ h => h⟩
theorem ev_dgetR {a : Addr} {kvs : List (Key × V)} {z : Str} {v : V} {σ : L2.St} {ta : TE} (ha : Ev ta σ H (.ref a)) (hd : Dk H a kvs) (hv : valV kvs (Sum.inr z : Key) = some v) : Ev (tDGet ta (tC (.str z))) σ H v := ev_dgetS ha ev_c hd hv
theorem ev_min {ta tb : TE} {i j : Int} (ha : Ev ta σ H (.int i)) (hb : Ev tb σ H (.int j)) : Ev (tCB rMin2 (tCons ta (tCons tb tNil))) σ H (.int (if j < i then j else i)) := fun H1 e Q f => ha H1 e _ fun H2 e2 => hb H2 (e.trans e2) _ fun H3 e3 => ⟨i, j, rfl, f H3 (e2.trans e3)⟩
end
def FrameAt (B : Hp) (f : Addr) (cs bs ls : List Str) : Prop := ∃ a b c, Dk B f [(Sum.inr "columns", .ref a), (Sum.inr "open", .ref b), (Sum.inr "gone", .ref c)] ∧ Ls B a (strV cs) ∧ Ls B b (strV bs) ∧ Ls B c (strV ls)
theorem FrameAt.same {B B' : Hp} {f : Addr} {cs bs ls : List Str} (e : Ex B B') (h : FrameAt B f cs bs ls) : FrameAt B' f cs bs ls := let ⟨a, b, c, h1, h2, h3, h4⟩ := h; ⟨a, b, c, e _ _ h1, e _ _ h2, e _ _ h3, e _ _ h4⟩
theorem cut_to {ks : List Str} {n : Nat} (h : n ≤ ks.length) : cutV (strV ks) none (some (n : Int)) = strV (ks.take n) := by
  have hl : (strV ks).length = ks.length := List.length_map ..
  unfold cutV
  rw [HT.sIx_none, HT.sIx_nat, hl, List.drop_zero, Nat.sub_zero, Nat.min_eq_left h]
  exact (List.map_take ..).symm
theorem cut_from {ks : List Str} {n : Nat} (h : n ≤ ks.length) : cutV (strV ks) (some (n : Int)) none = strV (ks.drop n) := by
  have hl : (strV ks).length = ks.length := List.length_map ..
  unfold cutV
  rw [HT.sIx_none, HT.sIx_nat, hl, Nat.min_eq_left h, List.take_of_length_le (by rw [List.length_drop, hl]; exact Nat.le_refl _)]
  exact (List.map_drop ..).symm
def RFrame : DRel := fun vs B P => vs = [.int 3, .int 3] ∧ ∀ f cs bs ls B', FrameAt B' f cs bs ls → SidesOk cs bs ls → P (.ref f) B'
section
variable {P : Program} {w : World} {K : PySem.W.Frag} {mg : Str → Option Value} {base : Heap}
def nm_law_frame : List Str := ["_law_draw", "_law_many", "_law_few", "_law_count", "_law_words_here", "_law_gone", "_law_word"]
theorem sc_law_frame : FnScope nm_law_frame ["_law_draw", "_law_many", "_law_few"] (defScope s_law_frame) := C8.fnScope_by (by decide +kernel)
theorem ok_law_frame (T : Tx K mg) (C_law_take : C8.Cal P w K mg base 2 "_law_take" (DSp RTake) []) (C_law_words : C8.Cal P w K mg base 4 "_law_words" (DSp RWords) []) : C8.Cal P w K mg base 5 "_law_frame" (DSp RFrame) [] := by
  refine T.pd 34 34 rfl rfl sc_law_frame (fun _ _ _ _ _ _ us hl => match us, hl with | [_, _, _], _ => rfl) (fun vs B Pv h => ?_) (fun cdv A outer s H q B vs Pv E hr h => ?_)
  · obtain ⟨rfl, _⟩ := h
    rfl
  · have nd := sc_law_frame.nd
    refine ⟨_, (pss_cons (ps_set (i := 3) nd rfl (Or.inl rfl) (pe_op op_add pe_int (C8.pe_c C_law_take hr (by omega) (by rfl) (pa_cons (pv 0) (pa_cons (pv 1) pa_nil)))))
      (pss_cons (ps_set (i := 4) nd rfl (Or.inl rfl) (C8.pe_c C_law_words hr (by omega) (by rfl) (pa_cons (pv 0) (pa_cons (pe_op op_add (pv 3) (C8.pe_c C_law_take hr (by omega) (by rfl) (pa_cons (pv 0) (pa_cons (pe_op op_add (pe_callB (cr_min2 rfl) (by rfl) T.f_min (by decide +kernel) (pa_cons (pv 2) (pa_cons (pe_op op_sub pe_int (pv 3)) pa_nil))) pe_int) pa_nil)))) pa_nil))))
      (pss_cons (ps_setLc (i := 5) (own := [("_law_word", 6)]) (g := (gName 6)) rfl nd rfl rfl (sw_true rfl rfl rfl (by decide +kernel)) (pi_list (pv 4)) (blkOk_by (own := [("_law_word", 6)]) (N := nm_law_frame) (sc := defScope s_law_frame) (by decide +kernel)) (fun _ _ _ _ _ => (pg_name (i := 6) nd rfl (Or.inl rfl))) (fun _ _ _ _ _ => (pts_one (pt_cmpR op_eq (C8.pe_c C_law_take hr (by omega) (by rfl) (pa_cons (pv 0) (pa_cons pe_int pa_nil))) pe_int (nomark _)))) (fun _ _ _ _ _ => (pv 6)))
      (pss_one (ps_ret (pe_disp (pps_cons pe_str (pe_slice sl_list (pv 4) po_none (po_some (pv 3))) (pps_cons pe_str (pe_slice sl_list (pv 4) (po_some (pv 3)) po_none) (pps_cons pe_str (pv 5) pps_nil))) (by rfl) (by rfl) (fun z => by cases z) (by decide))))))), ?_⟩
    obtain ⟨rfl, hP⟩ := h
    refine xr_asg (P1 := fun z _ => ∃ n : Nat, z = .int (n : Int) ∧ 1 ≤ n ∧ n ≤ 3) (x_imp (x_i0 (A1 := fun i => i = 1) (A2 := fun i => 0 ≤ i ∧ i < 3) (x_int (by wtm_at "ev") rfl) fun B1 e1 => x_takeE (n := 3) (by wtm_at "ev") (by wtm_at "ev") (by decide) (by decide)) ?_) ?_
    · rintro z B' _ ⟨i, j, rfl, rfl, j0, j3⟩
      exact ⟨(1 + j).toNat, by congr 1; omega, by omega, by omega⟩
    rintro z B1 e1 ⟨n, rfl, n1, n3⟩
    refine xr_asg (x_words (A := fun m => n ≤ m ∧ m ≤ n + 3 ∧ m ≤ 5) (by wtm_at "ev") (fun B2 e2 => x_imp (x_i0 (A1 := fun i => i = n) (A2 := fun i => 0 ≤ i ∧ i ≤ 3 ∧ i ≤ 5 - n) (x_int (by wtm_at "ev") rfl) fun B3 e3 => ?_) ?_) fun m hm => by omega) ?_
    · obtain ⟨k, hk, k0, k3, k5⟩ : ∃ k : Int, (if (5 - (n : Int)) < 3 then 5 - (n : Int) else 3) = k ∧ 0 ≤ k ∧ k ≤ 3 ∧ k ≤ 5 - (n : Int) := by
        by_cases h : (5 - (n : Int)) < 3
        · exact ⟨_, rfl, by rw [if_pos h]; omega, by rw [if_pos h]; omega, by rw [if_pos h]; omega⟩
        · exact ⟨_, rfl, by rw [if_neg h]; omega, by rw [if_neg h]; omega, by rw [if_neg h]; omega⟩
      have ev : Ev (tCB rMin2 (tCons (tVar 2) (tCons (tOp (rI0 fun i j => .int (i - j)) (tC (.int 5)) (tVar 3)) tNil))) [some (.ref q.d), some (.int 3), some (.int 3), some (.int (n : Int)), none, none, none] B3 (.int k) := ev_is (ev_min (by wtm_at "ev") (ev_int0 (i := 5) (j := (n : Int)) (by wtm_at "ev") (by wtm_at "ev") rfl)) (congrArg V.int hk)
      exact x_imp (x_takeE (n := k + 1) (by wtm_at "ev") (ev_add ev (by wtm_at "ev")) (by omega) (by omega)) fun z B' _ ⟨i, hz, i0, i1⟩ => ⟨i, hz, i0, by omega, by omega⟩
    · rintro z B' _ ⟨i, j, rfl, rfl, j0, j3, j5⟩
      exact ⟨((n : Int) + j).toNat, by congr 1; omega, by omega, by omega, by omega⟩
    rintro z B2 e2 ⟨p, ks, rfl, ⟨k1, k2, k5⟩, hnd, hok, hp⟩
    have hkl : (strV ks).length = ks.length := List.length_map ..
    refine xr_asg (P1 := fun z B' => ∃ r zs, z = .ref r ∧ zs.Sublist (strV ks) ∧ Ls B' r zs) (x_lcF (by wtm_at "ev") hp (by omega) (fun _ => rfl) (fun x B3 e3 => xt_test (P := fun z _ => ∃ b, z = .bl b) (x_op (P1 := fun z _ => ∃ i : Int, z = .int i ∧ 0 ≤ i ∧ i < 3) (P2 := fun z _ => z = .int 0) (x_takeE (n := 3) (by wtm_at "ev") (by wtm_at "ev") (by decide) (by decide)) (fun x B4 e4 _ => x_ev (by wtm_at "ev")) ?_) fun z B' ⟨b, hz⟩ => ⟨b, hz, trivial⟩) fun x B3 => ev_var rfl) ?_
    · rintro x y B4 B5 e4 ⟨i, rfl, _⟩ e5 rfl H s5 Q f
      exact ⟨rfl, f _ B5 H (Ex.refl _) s5 ⟨_, rfl⟩⟩
    rintro z B3 e3 ⟨r, zs, rfl, hsub, hr'⟩
    obtain ⟨ls, hls, rfl⟩ := List.sublist_map_iff.mp hsub
    have hp3 := e3 _ _ hp
    refine xr_ret (x_imp (x_disp3 (x1 := strV (ks.take n)) (x2 := strV (ks.drop n)) (x3 := strV ls) (by decide) (fun B4 e4 => x_el (by rw [← cut_to k1]; exact el_sl (by wtm_at "ev") eo_none (eo_some (by wtm_at "ev")) (sq_of (e4 _ _ hp3)))) (fun B4 e4 => x_el (by rw [← cut_from k1]; exact el_sl (by wtm_at "ev") (eo_some (by wtm_at "ev")) eo_none (sq_of (e4 _ _ hp3)))) fun B4 e4 => x_ls (by wtm_at "ev") (e4 _ _ hr')) ?_)
    rintro z B4 e4 ⟨f, a, b, c, rfl, h1, h2, h3, h4⟩
    have tk : ks.take n ++ ks.drop n = ks := List.take_append_drop n ks
    have lt : (ks.take n).length = n := by rw [List.length_take]; omega
    have ld : (ks.drop n).length = ks.length - n := List.length_drop
    refine hP f (ks.take n) (ks.drop n) ls B4 ⟨a, b, c, h1, h2, h3, h4⟩ ⟨⟨hnd.sublist (List.take_sublist n ks), fun z hz => hok z (List.mem_of_mem_take hz), by omega⟩, ⟨hnd.sublist (List.drop_sublist n ks), fun z hz => hok z (List.mem_of_mem_drop hz), by omega⟩, ⟨hnd.sublist hls, fun z hz => hok z (hls.subset hz), by have := hls.length_le; omega⟩, by omega, by omega, by omega, by omega, by rw [tk]; exact hnd, fun z hz => by rw [tk]; exact hls.subset hz⟩
end
end Ot
/-! Otherworths k13: shape, test, tests -/
namespace Ot
open PySem PySem.Spec PyProof.Rows L2 Evl
local macro_rules | `(tactic| wtm_at "dc") => `(tactic| first
  | ((with_reducible apply dd_f); decide +kernel)
  | ((with_reducible apply dd_t); decide +kernel)
  | ((with_reducible apply dn_f); decide +kernel)
  | ((with_reducible apply dn_t); decide +kernel)
  | (with_reducible exact dec_int_non)
  | (with_reducible exact dec_bl_non)
  | (with_reducible exact dec_ref_non)
  | (with_reducible exact dec_str_non)
  | (with_reducible exact dec_str_ne (by assumption))
  | (with_reducible exact dec_str_eq (by assumption))
  | (with_reducible exact ndec_str_ne (by assumption))
  | (with_reducible exact ndec_str_eq (by assumption))
  | (with_reducible exact dec_int_ne (by omega))
  | (with_reducible exact dec_int_eq (by omega))
  | (with_reducible exact ndec_int_ne (by omega))
  | (with_reducible exact ndec_int_eq (by omega)))
local macro_rules | `(tactic| wtm_at "ic") => `(tactic| first
  | ((with_reducible apply iv_f); decide +kernel)
  | ((with_reducible apply iv_t); decide +kernel)
  | ((with_reducible apply ivn_f); decide +kernel)
  | ((with_reducible apply ivn_t); decide +kernel))
local macro_rules | `(tactic| wtm_at "iv") => `(tactic| first
  | exact bl_true (by omega)
  | exact bl_false (by omega)
  | rfl)
local macro_rules | `(tactic| wtm_at "ln") => `(tactic| first
  | (with_reducible exact ln0) | (with_reducible exact ln1) | (with_reducible exact ln2) | (with_reducible exact ln3) | (with_reducible exact ln4) | rfl)
local macro_rules | `(tactic| wtm_at "nb") => `(tactic| first
  | (with_reducible exact nb_t)
  | (with_reducible exact nb_f))
local macro_rules | `(tactic| wtm_at "kt") => `(tactic| first
  | (with_reducible exact kit_tt) | (with_reducible exact kit_ss) | (with_reducible exact kit_ii) | (with_reducible exact kit_ib) | (with_reducible exact kit_ni) | (with_reducible exact kit_dd) | (with_reducible exact kit_ll))
local macro_rules | `(tactic| wtm_at "vt") => `(tactic| first
  | exact .str | exact .int | exact .non | exact .bl | exact .tup (by assumption) | exact .lst (by assumption) | exact .dK (by assumption))
local macro_rules | `(tactic| wtm_at "sv") => `(tactic| assumption)
local macro_rules | `(tactic| wtm_at "ct") => `(tactic| first
  | (with_reducible exact ct_f)
  | ((with_reducible apply ct_t); wtm_at "ev")
  | (with_reducible exact cf_t)
  | ((with_reducible apply cf_f); wtm_at "ev")
  | (with_reducible exact ctv_f)
  | ((with_reducible apply ctv_t); wtm_at "ev")
  | (with_reducible exact cfv_t)
  | ((with_reducible apply cfv_f); wtm_at "ev")
  | ((with_reducible apply ci_t); wtm_at "ev")
  | ((with_reducible apply ci_f); wtm_at "ev"))
local macro_rules | `(tactic| wtm_at "ev") => `(tactic| first
  | ((with_reducible apply ev_var); rfl)
  | (with_reducible exact ev_c)
  | (with_reducible exact ea_nil)
  | ((with_reducible apply ea_cons) <;> wtm_at "ev")
  | ((with_reducible apply ev_ixT); (wtm_at "ev"); (wtm_at "ev"); assumption; rfl)
  | ((with_reducible apply ev_dgetS); (wtm_at "ev"); (wtm_at "ev"); assumption; assumption)
  | ((with_reducible apply ev_lenT); (wtm_at "ev"); assumption; (wtm_at "ln"))
  | ((with_reducible apply ev_isi); (wtm_at "ev"); (wtm_at "vt"); (wtm_at "kt"))
  | ((with_reducible apply ev_eq); (wtm_at "ev"); (wtm_at "ev"); rfl; (wtm_at "dc"))
  | ((with_reducible apply ev_ne); (wtm_at "ev"); (wtm_at "ev"); rfl; (wtm_at "dc"))
  | ((with_reducible apply ev_isN); (wtm_at "ev"); (wtm_at "dc"))
  | ((with_reducible apply ev_notN); (wtm_at "ev"); (wtm_at "dc"))
  | ((with_reducible apply ev_int0); (wtm_at "ev"); (wtm_at "ev"); (wtm_at "iv"))
  | ((with_reducible apply ev_niN); (wtm_at "ev"); (wtm_at "ev"); rfl; rfl; (wtm_at "ic"))
  | ((with_reducible apply ev_inN); (wtm_at "ev"); (wtm_at "ev"); rfl; rfl; (wtm_at "ic"))
  | ((with_reducible apply eu_tup); (wtm_at "ev"); simp)
  | ((with_reducible apply el_lst); (wtm_at "ev"); simp)
  | ((with_reducible apply ev_callP); (wtm_at "ev"); (wtm_at "sv"))
  | ((with_reducible apply et_test); wtm_at "ev")
  | ((with_reducible apply et_B); wtm_at "ev")
  | ((with_reducible apply ev_andG); (wtm_at "ev"); (wtm_at "ct"))
  | ((with_reducible apply ev_orG); (wtm_at "ev"); (wtm_at "ct"))
  | ((with_reducible apply ev_notG); (wtm_at "ev"); (wtm_at "nb"))
  | ((with_reducible apply et_andG); (wtm_at "ev"); (wtm_at "ct"))
  | ((with_reducible apply et_orG); (wtm_at "ev"); (wtm_at "ct"))
  | ((with_reducible apply et_notG); (wtm_at "ev"); (wtm_at "nb"))
  | ((with_reducible apply ev_ifG); (wtm_at "ev"); (wtm_at "ct"))
  | assumption)
local macro_rules | `(tactic| wtm_at "re") => `(tactic| first
  | ((with_reducible apply re_ifG); (wtm_at "ev"); first | ((with_reducible apply ci_t); wtm_at "re") | ((with_reducible apply ci_f); wtm_at "re"))
  | ((with_reducible apply re_retV); wtm_at "ev")
  | ((with_reducible apply re_asgV); (wtm_at "ev"); (wtm_at "re"))
  | ((with_reducible apply re_par); (wtm_at "ev"); (wtm_at "re")))
local macro_rules | `(tactic| wtm_at "rs") => `(tactic| repeat ((with_reducible apply re_ifG); (wtm_at "ev"); first | (with_reducible apply ci_t) | (with_reducible apply ci_f)))


/-- a class made, its __init__'s promise -/
theorem er_shape {K : PySem.W.Frag} {σ : L2.St} {H : Hp} {E : XK} {ta : TA} {a b c : Addr} {cs bs ls : List Str} (h : EvA ta σ H [.ref a, .ref b, .ref c]) (h1 : Ls H a (strV cs)) (h2 : Ls H b (strV bs)) (h3 : Ls H c (strV ls)) (o : SidesOk cs bs ls) :
    EvR (tMake (He.ga K "Shape") (SpShape K) [] E ta) σ H (.fr fun p H' => ∃ ls' : List Str, ls'.Perm ls ∧ ShapeAt K H' p cs bs ls') := fun H1 e Q f => h H1 e _ fun H2 e2 => fun x dx hx hdx hne => by
  have ex : Ex H2 (upd (upd H2 dx (.own x)) x (.ins (He.ga K "Shape") dx [])) := Ex.mut (Ex.new hdx) hx
  have e3 := (e.trans e2).trans ex
  refine ⟨x, dx, a, b, c, cs, bs, ls, rfl, upd_same, e3 _ _ h1, e3 _ _ h2, e3 _ _ h3, o, fun H' hk hs => ⟨rfl, f _ H' (e2.trans fun u v hu => ?_) ⟨x, rfl, fresh_back e2 hx, hs⟩⟩⟩
  have hux : u ≠ x := fun z => by
    rw [z, hx] at hu
    cases hu
  exact hk u v hux (ex _ _ hu)
def RShapeOf (K : PySem.W.Frag) : Rel := fun vs H r => ∃ f cs bs ls, vs = [.ref f] ∧ FrameAt H f cs bs ls ∧ SidesOk cs bs ls ∧ r = .fr fun p H' => ∃ ls' : List Str, ls'.Perm ls ∧ ShapeAt K H' p cs bs ls'
def NmOk (ks : List Str) : Prop := ks.Nodup ∧ (∀ z ∈ ks, NameOk z) ∧ ks.length ≤ 900
def RTest : DRel := fun vs B P => ∃ (a : Addr) (ks : List Str), vs = [.ref a, .int 3] ∧ Ls B a (strV ks) ∧ ks ≠ [] ∧ NmOk ks ∧ ∀ v c B', CAt B' c v → c.Wf ks 1 → c.nt = 1 → P v B'
theorem NameOk.str {z : Str} (h : NameOk z) : PyData.strOk z = true := by
  unfold PyData.strOk
  rw [← Array.all_toList, List.all_eq_true]
  intro c hc
  have h1 : (letters.cps.toList.all fun c => decide (c < 0x110000)) = true := by decide +kernel
  exact List.all_eq_true.mp h1 c (h.2.2 c hc)
theorem NameOk.ne {z : Str} (h : NameOk z) : z ≠ "" := fun e => by
  have h1 := h.1
  rw [e] at h1
  exact absurd h1 (by decide)
section
variable {K : PySem.W.Frag} {q : Dw} {σ : L2.St} {H B : Hp} {te ta tb : TE} {tz : TS} {D : Ends} {i j : Nat} {P : PV} {xs : List V} {E : XK}
/-- unpacking a list of two -/
theorem xd_unl {P2 : V → V → Hp → Prop} (h : EvX q te σ B (fun z B' => ∃ p x y, z = .ref p ∧ Ls B' p [x, y] ∧ P2 x y B')) (s : Sd q B H) (k : ∀ x y B1 H1, Ex B B1 → Sd q B1 H1 → P2 x y B1 → tz D ((σ.set i (some x)).set j (some y)) H1) : tSeq (tAsg te (gUnl K 2 (gCons (gName i) (gCons (gName j) gNil)))) tz D σ H :=
  h H s _ fun z B1 H1 e1 s1 ⟨p, x, y, hz, hp, hP⟩ => by
    subst hz
    exact ⟨p, [x, y], rfl, sq_of (s1.le _ _ hp), rfl, x, [y], rfl, y, [], rfl, rfl, k x y B1 H1 e1 s1 hP⟩
theorem x_sl2 {A : List V → Prop} {n : Int} (h : EvX q te σ B (fun z B' => ∃ p xs, z = .ref p ∧ Ls B' p xs ∧ A xs)) : EvX q (tSl (rSlL K) te tNoPart (tPart (tC (.int n)))) σ B (fun z B' => ∃ p xs, z = .ref p ∧ Ls B' p (cutV xs none (some n)) ∧ A xs) := fun H s Q f =>
  h H s _ fun z B1 H1 e1 s1 ⟨p, xs, hz, hp, ha⟩ => ⟨n, rfl, p, xs, hz, sq_of (s1.le _ _ hp), fun r hr => by
    obtain ⟨n1, n2, n3⟩ := s1.dr.ne hr
    have hb := s1.none hr
    exact f _ (upd B1 r (.lst (cutV xs none (some n)))) _ (e1.trans (Ex.new hb)) (s1.upd n1 n2 n3) ⟨r, xs, rfl, upd_same, ha⟩⟩
theorem el_catR {a : Addr} {ys : List V} (ha : Ev ta σ H (.ref a)) (hx : Ls H a xs) (hb : EvL tb σ H ys) (hl : xs.length + ys.length ≤ 1001) : EvL (tOp rCat ta tb) σ H (xs ++ ys) := fun H1 e Q f => ha H1 e _ fun H2 e2 => hb H2 (e.trans e2) _ fun r H3 hr e3 h3 => ⟨a, r, xs, ys, rfl, rfl, (e.trans (e2.trans e3)) _ _ hx, h3, sz_of (by omega), fun l hl => f l _ (fresh_back (e2.trans e3) hl) ((e2.trans e3).trans (Ex.new hl)) upd_same⟩
/-- lists of texts are, or are not, empty -/
theorem ev_neT {a : Addr} {ks : List Str} {b : Bool} (ha : Ev te σ H (.ref a)) (hx : Ls H a (strV ks)) (hk : ∀ z ∈ ks, PyData.strOk z = true) (hb : (!ks.isEmpty) = b) : Ev (tOp (rNeD K) te (tLst tNil)) σ H (.bl b) := fun H1 e Q f => ha H1 e _ fun H2 e2 =>
  (el_lst ea_nil (by simp) : EvL (tLst tNil) σ H2 []) H2 (Ex.refl _) _ fun p H3 hp e3 h3 => ⟨.list (ks.map PyData.str), .list [], .lst (sq_of ((e.trans (e2.trans e3)) _ _ hx)) (dpTexts ks), .lst (sq_of h3) .nil, shTexts hk, rfl, by
    have h0 : (!PyData.eqv (.list (ks.map PyData.str)) (.list [])) = b := by
      rw [← hb]
      cases ks <;> rfl
    rw [h0]
    exact f H3 (e2.trans e3)⟩
theorem ev_eqT {a : Addr} {ks : List Str} {b : Bool} (ha : Ev te σ H (.ref a)) (hx : Ls H a (strV ks)) (hk : ∀ z ∈ ks, PyData.strOk z = true) (hb : ks.isEmpty = b) : Ev (tOp (rEqD K) te (tLst tNil)) σ H (.bl b) := fun H1 e Q f => ha H1 e _ fun H2 e2 =>
  (el_lst ea_nil (by simp) : EvL (tLst tNil) σ H2 []) H2 (Ex.refl _) _ fun p H3 hp e3 h3 => ⟨.list (ks.map PyData.str), .list [], .lst (sq_of ((e.trans (e2.trans e3)) _ _ hx)) (dpTexts ks), .lst (sq_of h3) .nil, shTexts hk, rfl, by
    have h0 : PyData.eqv (.list (ks.map PyData.str)) (.list []) = b := by
      rw [← hb]
      cases ks <;> rfl
    rw [h0]
    exact f H3 (e2.trans e3)⟩
theorem x_mixed {ks : List Str} (hd : Ev ta σ B (.ref q.d)) (hl : EvL te σ B (strV ks)) (hk : ∀ z ∈ ks, PyData.strOk z = true) (hlen : ks.length ≤ 1000) : EvX q (tCall (DSp RMixed) [] E (tCons ta (tCons te tNil))) σ B (fun z B' => ∃ p ys, z = .ref p ∧ ys.Perm ks ∧ Ls B' p (strV ys)) :=
  x_call (Pa := fun ws B' => ∃ p, ws = [.ref q.d, .ref p] ∧ Ls B' p (strV ks)) (xa_cons (x_ev hd) fun z B1 e1 hz => xa_cons (P1 := fun z B' => ∃ p, z = .ref p ∧ Ls B' p (strV ks)) (x_el (EvL.mono e1 hl)) fun z2 B2 e2 ⟨p, hp, hx⟩ => fun H s Q f => f [] B2 H (Ex.refl _) s ⟨p, by rw [hz, hp], hx⟩)
    fun ws B1 e1 ⟨p, hw, hx⟩ => ⟨[.ref p], (fun z B' => ∃ p ys, z = .ref p ∧ ys.Perm ks ∧ Ls B' p (strV ys)), hw, ⟨p, ks, rfl, hx, hk, hlen, fun p ys B' h1 h2 => ⟨p, ys, rfl, h1, h2⟩⟩, fun z B' _ h => h⟩
theorem ev_span (h : Ev te σ H (.int 3)) : Ev (tOp (rI0 fun i j => .int (i + j)) (tOp (rI CMul fun i j => .int (i * j)) (tC (.int 2)) te) (tC (.int 1))) σ H (.int 7) := by
  have h1 : Ev (tOp (rI CMul fun i j => .int (i * j)) (tC (.int 2)) te) σ H (.int (2 * 3)) := ev_mulK ev_c h (by decide) (by decide)
  have h2 : Ev (tOp (rI0 fun i j => .int (i + j)) (tOp (rI CMul fun i j => .int (i * j)) (tC (.int 2)) te) (tC (.int 1))) σ H (.int (2 * 3 + 1)) := ev_add h1 ev_c
  exact h2
/-- take(draw, 2 * 3 + 1) - 3 -/
theorem x_worth {t3 : TE} (hd : Ev ta σ B (.ref q.d)) (h : Ev te σ B (.int 3)) (h3 : ∀ B1, Ex B B1 → Ev t3 σ B1 (.int 3)) : EvX q (tOp (rI0 fun i j => .int (i - j)) (tCall (DSp RTake) [] E (tCons ta (tCons (tOp (rI0 fun i j => .int (i + j)) (tOp (rI CMul fun i j => .int (i * j)) (tC (.int 2)) te) (tC (.int 1))) tNil))) t3) σ B (fun z _ => ∃ n : Int, z = .int n) :=
  x_imp (x_i0 (A1 := fun _ => True) (A2 := fun _ => True) (x_imp (x_takeE (n := 7) hd (ev_span h) (by decide) (by decide)) fun z B' _ ⟨i, hz, _⟩ => ⟨i, hz, trivial⟩) fun B6 e6 => x_int (h3 B6 e6) trivial) fun z B' _ ⟨i, j, hz, _⟩ => ⟨_, hz⟩
/-- pick of a list known -/
theorem x_pickE {a : Addr} (hd : Ev ta σ B (.ref q.d)) (hl : Ev te σ B (.ref a)) (hx : Ls B a xs) (hne : xs ≠ []) (hlen : xs.length ≤ 1000) : EvX q (tCall (DSp RPick) [] E (tCons ta (tCons te tNil))) σ B (fun z _ => z ∈ xs) :=
  x_callE (vs := [.ref a]) (ea_cons hd (ea_cons hl ea_nil)) fun B1 e1 => .inl ⟨a, xs, rfl, e1 _ _ hx, hne, hlen, fun x hx B' => hx⟩
end
section
variable {P : Program} {w : World} {K : PySem.W.Frag} {mg : Str → Option Value} {base : Heap}
def nm_law_shape : List Str := ["_law_frame_here"]
theorem sc_law_shape : FnScope nm_law_shape ["_law_frame_here"] (defScope s_law_shape) := C8.fnScope_by (by decide +kernel)
theorem ok_law_shape (T : Tx K mg) (K_Shape : C8.Mak P w K mg base 4 "Shape" (He.ga K "Shape") (SpShape K) []) : C8.Cal P w K mg base 6 "_law_shape" (PSp (RShapeOf K)) [] := by
  refine T.pf 35 35 rfl rfl sc_law_shape (fun _ _ _ _ _ _ us hl => match us, hl with | [_], _ => rfl) (fun vs H r h => ?_) (fun cdv A outer s H vs r E hr h => ?_)
  · obtain ⟨_, _, _, _, rfl, _⟩ := h
    rfl
  · have nd := sc_law_shape.nd
    have hu := hu_of hr
    refine ⟨_, (pss_one (ps_ret (C8.pe_mk K_Shape hr (by omega) (by rfl) (pa_cons (pe_dget hu (pv 0) pe_str (fun _ _ => rfl)) (pa_cons (pe_dget hu (pv 0) pe_str (fun _ _ => rfl)) (pa_cons (pe_dget hu (pv 0) pe_str (fun _ _ => rfl)) pa_nil)))))), ?_⟩
    obtain ⟨f, cs, bs, ls, rfl, ⟨a, b, c, h0, h1, h2, h3⟩, o, rfl⟩ := h
    exact re_ret (er_shape (ea_cons (ev_dgetR (by wtm_at "ev") h0 rfl) (ea_cons (ev_dgetR (by wtm_at "ev") h0 rfl) (ea_cons (ev_dgetR (by wtm_at "ev") h0 rfl) ea_nil))) h1 h2 h3 o)
def nm_law_test : List Str := ["_law_draw", "_law_words_here", "_law_span", "_law_uno", "_law_duo"]
theorem sc_law_test : FnScope nm_law_test ["_law_draw", "_law_words_here", "_law_span"] (defScope s_law_test) := C8.fnScope_by (by decide +kernel)
theorem ok_law_test (T : Tx K mg) (C_law_take : C8.Cal P w K mg base 2 "_law_take" (DSp RTake) []) (C_law_pick : C8.Cal P w K mg base 3 "_law_pick" (DSp RPick) []) (C_law_mixed : C8.Cal P w K mg base 3 "_law_mixed" (DSp RMixed) []) : C8.Cal P w K mg base 4 "_law_test" (DSp RTest) [] := by
  refine T.pd 36 36 rfl rfl sc_law_test (fun _ _ _ _ _ _ us hl => match us, hl with | [_, _, _], _ => rfl) (fun vs B Pv h => ?_) (fun cdv A outer s H q B vs Pv E hr h => ?_)
  · obtain ⟨_, _, rfl, _⟩ := h
    rfl
  · have nd := sc_law_test.nd
    have hu64 := hr.units
    refine ⟨_, (pss_cons (ps_if (PW.pt (pw_and (pt_cmpR (op_neD hu64) (pv 1) (pe_lst pa_nil) (nomark _)) (pw_and1 (pt_cmpR op_eq (C8.pe_c C_law_take hr (by omega) (by rfl) (pa_cons (pv 0) (pa_cons pe_int pa_nil))) pe_int (nomark _)))))
      (pss_one (ps_ret (pe_tup (pa_cons pe_str (pa_cons (C8.pe_c C_law_pick hr (by omega) (by rfl) (pa_cons (pv 0) (pa_cons (pv 1) pa_nil))) pa_nil)))))
      pss_nil)
      (pss_cons (ps_asg (pe_slice sl_list (C8.pe_c C_law_mixed hr (by omega) (by rfl) (pa_cons (pv 0) (pa_cons (pe_op op_cat (pv 1) (pe_lst (pa_cons pe_str pa_nil))) pa_nil))) po_none (po_some pe_int)) (pg_unl (n := 2) rfl (pgs_cons (pg_name (i := 3) nd rfl (Or.inl rfl)) (pgs_cons (pg_name (i := 4) nd rfl (Or.inl rfl)) pgs_nil))))
      (pss_one (ps_ret (pe_tup (pa_cons pe_str (pa_cons (pv 3) (pa_cons (pv 4) (pa_cons (pe_op op_sub (C8.pe_c C_law_take hr (by omega) (by rfl) (pa_cons (pv 0) (pa_cons (pe_op op_add (pe_op op_mul pe_int (pv 2)) pe_int) pa_nil))) (pv 2)) pa_nil))))))))), ?_⟩
    obtain ⟨a, ks, rfl, ha, hne, ⟨hnd, hok, hl⟩, hP⟩ := h
    have hst : ∀ z ∈ ks, PyData.strOk z = true := fun z hz => (hok z hz).str
    have hkl : (strV ks).length = ks.length := List.length_map ..
    have hne2 : strV ks ≠ [] := fun z => hne (List.map_eq_nil_iff.mp z)
    have hemp : (!ks.isEmpty) = true := by
      cases ks with
      | nil => exact absurd rfl hne
      | cons => rfl
    refine xr_if (Pt := fun _ _ => True) (xt_and (Pb1 := fun b _ => b = true) (xt_et (et_test (ev_neT (by wtm_at "ev") ha hst hemp))) (fun B1 e1 _ => xt_test (P := fun z _ => ∃ b, z = .bl b) (x_op (P1 := fun z _ => ∃ i : Int, z = .int i ∧ 0 ≤ i ∧ i < 5) (P2 := fun z _ => z = .int 0) (x_takeE (n := 5) (by wtm_at "ev") (by wtm_at "ev") (by decide) (by decide)) (fun x B4 e4 _ => x_ev (by wtm_at "ev")) ?_) fun z B' ⟨b, hz⟩ => ⟨b, hz, trivial⟩) fun _ _ => trivial) ?_ ?_
    · rintro x y B4 B5 e4 ⟨i, rfl, _⟩ e5 rfl H s5 Q f
      exact ⟨rfl, f _ B5 H (Ex.refl _) s5 ⟨_, rfl⟩⟩
    · intro B1 e1 _
      refine xr_ret (x_imp (x_tup (Pa := fun ws _ => ∃ z ∈ ks, ws = [.str "lacks", .str z]) (xa_cons (x_ev (v := .str "lacks") (by wtm_at "ev")) fun z B2 e2 hz => xa_cons (x_pickE (by wtm_at "ev") (by wtm_at "ev") (e2 _ _ (e1 _ _ ha)) hne2 (by omega)) fun z2 B3 e3 hz2 => ?_) (fun ws B1 ⟨z, _, hw⟩ => by rw [hw]; simp)) ?_)
      · obtain ⟨n, hn, rfl⟩ := List.mem_map.mp hz2
        exact fun H s Q f => f [] B3 H (Ex.refl _) s ⟨n, hn, by rw [hz]⟩
      · rintro z B' _ ⟨p, ws, B2, rfl, ⟨n, hn, rfl⟩, _, _, hp⟩
        exact hP _ (.lacks n) B' (by unfold CAt; exact ⟨p, rfl, hp⟩) (by unfold Cd.Wf; exact ⟨Nat.le_refl _, hn, (hok n hn).ne⟩) rfl
    · intro B1 e1 _
      have ha1 := e1 _ _ ha
      have nd2 : (ks ++ [("" : Str)]).Nodup := by
        rw [List.nodup_append]
        refine ⟨hnd, by simp, fun x hx y hy hxy => ?_⟩
        rw [List.mem_singleton.mp hy] at hxy
        exact (hok x hx).ne hxy
      have klen : 1 ≤ ks.length := List.length_pos_iff.mpr hne
      have e0 : strV (ks ++ [("" : Str)]) = strV ks ++ [.str ""] := List.map_append
      have two : ∀ ys : List Str, ys.Perm (ks ++ [("" : Str)]) → ∃ x y r, ys = x :: y :: r ∧ x ≠ y ∧ Side ks x ∧ Side ks y := fun ys hp => by
        have hl2 := hp.length_eq
        rw [List.length_append, show [("" : Str)].length = 1 from rfl] at hl2
        have mem : ∀ z ∈ ys, Side ks z := fun z hz => by
          rcases List.mem_append.mp (hp.mem_iff.mp hz) with h | h
          · exact .inr h
          · exact .inl (List.mem_singleton.mp h)
        have nd3 : ys.Nodup := hp.nodup_iff.mpr nd2
        match ys, hl2 with
        | [], h =>
          have h : 0 = ks.length + 1 := h
          omega
        | [x], h =>
          have h : 1 = ks.length + 1 := h
          omega
        | x :: y :: r, _ =>
          refine ⟨x, y, r, rfl, fun e => ?_, mem x List.mem_cons_self, mem y (List.mem_cons_of_mem _ List.mem_cons_self)⟩
          exact (List.nodup_cons.mp nd3).1 (e ▸ List.mem_cons_self)
      intro D H s1 fin
      refine xd_unl (P2 := fun x y _ => ∃ x' y', x = .str x' ∧ y = .str y' ∧ x' ≠ y' ∧ Side ks x' ∧ Side ks y') (x_imp (x_sl2 (n := 2) (A := fun xs => ∃ ys : List Str, xs = strV ys ∧ ys.Perm (ks ++ [("" : Str)])) (x_imp (x_mixed (ks := ks ++ [("" : Str)]) (by wtm_at "ev") (by rw [e0]; exact el_catR (by wtm_at "ev") ha1 (el_lst (by wtm_at "ev") (by simp)) (by rw [hkl]; show ks.length + 1 ≤ 1001; omega)) (fun z hz => ?_) (by rw [List.length_append]; show ks.length + 1 ≤ 1000; omega)) fun z B' _ ⟨p, ys, hz, hperm, hp⟩ => ⟨p, strV ys, hz, hp, ys, rfl, hperm⟩)) fun z B' _ ⟨p, xs, hz, hp, ys, hx, hperm⟩ => ?_) s1 ?_
      · rcases List.mem_append.mp hz with h | h
        · exact hst z h
        · rw [List.mem_singleton.mp h]
          decide +kernel
      · obtain ⟨x, y, r, rfl, hxy, sx, sy⟩ := two ys hperm
        refine ⟨p, .str x, .str y, hz, ?_, x, y, rfl, rfl, hxy, sx, sy⟩
        have hc : cutV (strV (x :: y :: r)) none (some (2 : Int)) = strV [x, y] := cut_to (n := 2) (ks := x :: y :: r) (by simp)
        rw [hx, hc] at hp
        exact hp
      · rintro x y B2 H2 e2 s2 ⟨x', y', rfl, rfl, hxy, sx, sy⟩
        refine xd_ret (x_tup (Pa := fun ws _ => ∃ n : Int, ws = [.str "most", .str x', .str y', .int n]) (xa_cons (x_ev (v := .str "most") (by wtm_at "ev")) fun z B3 e3 hz => xa_cons (x_ev (v := .str x') (by wtm_at "ev")) fun z2 B4 e4 hz2 => xa_cons (x_ev (v := .str y') (by wtm_at "ev")) fun z3 B5 e5 hz3 => xa_cons (P1 := fun z _ => ∃ n : Int, z = .int n) (x_worth (by wtm_at "ev") (by wtm_at "ev") fun _ _ => by wtm_at "ev") fun z4 B6 e6 ⟨n, hz4⟩ => fun H s Q f => f [] B6 H (Ex.refl _) s ⟨n, by rw [hz, hz2, hz3, hz4]⟩) (fun ws B1 ⟨n, hw⟩ => by rw [hw]; simp)) s2 ?_
        rintro z B' H' e' s' ⟨p, ws, B3, rfl, ⟨n, rfl⟩, _, _, hp⟩
        exact fin _ B' H' (e2.trans e') s' (hP _ (.most x' y' n) B' (by unfold CAt; exact ⟨p, rfl, hp⟩) (by unfold Cd.Wf; exact ⟨Nat.le_refl _, sx, sy, hxy⟩) rfl)
end
end Ot
/-! Otherworths k13: the law's tests and conditions -/
namespace Ot
open PySem PySem.Spec PyProof.Rows L2 Evl
local macro_rules | `(tactic| wtm_at "dc") => `(tactic| first
  | ((with_reducible apply dd_f); decide +kernel)
  | ((with_reducible apply dd_t); decide +kernel)
  | ((with_reducible apply dn_f); decide +kernel)
  | ((with_reducible apply dn_t); decide +kernel)
  | (with_reducible exact dec_int_non)
  | (with_reducible exact dec_bl_non)
  | (with_reducible exact dec_ref_non)
  | (with_reducible exact dec_str_non)
  | (with_reducible exact dec_str_ne (by assumption))
  | (with_reducible exact dec_str_eq (by assumption))
  | (with_reducible exact ndec_str_ne (by assumption))
  | (with_reducible exact ndec_str_eq (by assumption))
  | (with_reducible exact dec_int_ne (by omega))
  | (with_reducible exact dec_int_eq (by omega))
  | (with_reducible exact ndec_int_ne (by omega))
  | (with_reducible exact ndec_int_eq (by omega)))
local macro_rules | `(tactic| wtm_at "ic") => `(tactic| first
  | ((with_reducible apply iv_f); decide +kernel)
  | ((with_reducible apply iv_t); decide +kernel)
  | ((with_reducible apply ivn_f); decide +kernel)
  | ((with_reducible apply ivn_t); decide +kernel))
local macro_rules | `(tactic| wtm_at "iv") => `(tactic| first
  | exact bl_true (by omega)
  | exact bl_false (by omega)
  | rfl)
local macro_rules | `(tactic| wtm_at "ln") => `(tactic| first
  | (with_reducible exact ln0) | (with_reducible exact ln1) | (with_reducible exact ln2) | (with_reducible exact ln3) | (with_reducible exact ln4) | rfl)
local macro_rules | `(tactic| wtm_at "nb") => `(tactic| first
  | (with_reducible exact nb_t)
  | (with_reducible exact nb_f))
local macro_rules | `(tactic| wtm_at "kt") => `(tactic| first
  | (with_reducible exact kit_tt) | (with_reducible exact kit_ss) | (with_reducible exact kit_ii) | (with_reducible exact kit_ib) | (with_reducible exact kit_ni) | (with_reducible exact kit_dd) | (with_reducible exact kit_ll))
local macro_rules | `(tactic| wtm_at "vt") => `(tactic| first
  | exact .str | exact .int | exact .non | exact .bl | exact .tup (by assumption) | exact .lst (by assumption) | exact .dK (by assumption))
local macro_rules | `(tactic| wtm_at "sv") => `(tactic| assumption)
local macro_rules | `(tactic| wtm_at "ct") => `(tactic| first
  | (with_reducible exact ct_f)
  | ((with_reducible apply ct_t); wtm_at "ev")
  | (with_reducible exact cf_t)
  | ((with_reducible apply cf_f); wtm_at "ev")
  | (with_reducible exact ctv_f)
  | ((with_reducible apply ctv_t); wtm_at "ev")
  | (with_reducible exact cfv_t)
  | ((with_reducible apply cfv_f); wtm_at "ev")
  | ((with_reducible apply ci_t); wtm_at "ev")
  | ((with_reducible apply ci_f); wtm_at "ev"))
local macro_rules | `(tactic| wtm_at "ev") => `(tactic| first
  | ((with_reducible apply ev_var); rfl)
  | (with_reducible exact ev_c)
  | (with_reducible exact ea_nil)
  | ((with_reducible apply ea_cons) <;> wtm_at "ev")
  | ((with_reducible apply ev_ixT); (wtm_at "ev"); (wtm_at "ev"); assumption; rfl)
  | ((with_reducible apply ev_dgetS); (wtm_at "ev"); (wtm_at "ev"); assumption; assumption)
  | ((with_reducible apply ev_lenT); (wtm_at "ev"); assumption; (wtm_at "ln"))
  | ((with_reducible apply ev_isi); (wtm_at "ev"); (wtm_at "vt"); (wtm_at "kt"))
  | ((with_reducible apply ev_eq); (wtm_at "ev"); (wtm_at "ev"); rfl; (wtm_at "dc"))
  | ((with_reducible apply ev_ne); (wtm_at "ev"); (wtm_at "ev"); rfl; (wtm_at "dc"))
  | ((with_reducible apply ev_isN); (wtm_at "ev"); (wtm_at "dc"))
  | ((with_reducible apply ev_notN); (wtm_at "ev"); (wtm_at "dc"))
  | ((with_reducible apply ev_int0); (wtm_at "ev"); (wtm_at "ev"); (wtm_at "iv"))
  | ((with_reducible apply ev_niN); (wtm_at "ev"); (wtm_at "ev"); rfl; rfl; (wtm_at "ic"))
  | ((with_reducible apply ev_inN); (wtm_at "ev"); (wtm_at "ev"); rfl; rfl; (wtm_at "ic"))
  | ((with_reducible apply eu_tup); (wtm_at "ev"); simp)
  | ((with_reducible apply el_lst); (wtm_at "ev"); simp)
  | ((with_reducible apply ev_callP); (wtm_at "ev"); (wtm_at "sv"))
  | ((with_reducible apply et_test); wtm_at "ev")
  | ((with_reducible apply et_B); wtm_at "ev")
  | ((with_reducible apply ev_andG); (wtm_at "ev"); (wtm_at "ct"))
  | ((with_reducible apply ev_orG); (wtm_at "ev"); (wtm_at "ct"))
  | ((with_reducible apply ev_notG); (wtm_at "ev"); (wtm_at "nb"))
  | ((with_reducible apply et_andG); (wtm_at "ev"); (wtm_at "ct"))
  | ((with_reducible apply et_orG); (wtm_at "ev"); (wtm_at "ct"))
  | ((with_reducible apply et_notG); (wtm_at "ev"); (wtm_at "nb"))
  | ((with_reducible apply ev_ifG); (wtm_at "ev"); (wtm_at "ct"))
  | assumption)
local macro_rules | `(tactic| wtm_at "re") => `(tactic| first
  | ((with_reducible apply re_ifG); (wtm_at "ev"); first | ((with_reducible apply ci_t); wtm_at "re") | ((with_reducible apply ci_f); wtm_at "re"))
  | ((with_reducible apply re_retV); wtm_at "ev")
  | ((with_reducible apply re_asgV); (wtm_at "ev"); (wtm_at "re"))
  | ((with_reducible apply re_par); (wtm_at "ev"); (wtm_at "re")))
local macro_rules | `(tactic| wtm_at "rs") => `(tactic| repeat ((with_reducible apply re_ifG); (wtm_at "ev"); first | (with_reducible apply ci_t) | (with_reducible apply ci_f)))


section
variable {K : PySem.W.Frag} {σ : L2.St} {H : Hp} {te tl ta tb : TE} {t tz : TS} {wi : TI} {xs : List V} {j : Nat} {D : Ends} {a : Addr} {r : Res}
theorem r_for {M : Nat → L2.St → Hp → Prop} (hi : EvI wi σ H xs) (h0 : ∀ H1, Ex H H1 → M 0 σ H1) (hs : ∀ (i : Nat) x σ' H', xs[i]? = some x → Ex H H' → M i σ' H' → ∀ D : Ends, (∀ σ2 H2, Ex H' H2 → M (i + 1) σ2 H2 → D.nx σ2 H2) → t D (σ'.set j (some x)) H') (hz : ∀ σ' H', Ex H H' → M xs.length σ' H' → tz D σ' H') : tSeq (tFor wi (gName j) t) tz D σ H := hi H (Ex.refl H) _ fun J H1 e1 ⟨G, W, hG, _⟩ =>
  for_it W (D := { D with nx := tz D }) (fun i σ' H' => Ex H1 H' ∧ M i σ' H') ⟨Ex.refl _, h0 H1 e1⟩ (fun i σ' H' _ p => hG H' p.1) (fun i x σ' H' H2 hi p y => by
    obtain ⟨rfl, hx⟩ := y
    show t _ (σ'.set j (some x)) H2
    exact hs i x σ' H2 hx (e1.trans p.1) p.2 _ fun σ2 H3 e3 m => ⟨p.1.trans e3, m⟩) fun σ' H' p => hz σ' H' (e1.trans p.1) p.2
theorem ei_newU (h : EvU te σ H xs) : EvI (iTup K te) σ H xs := fun H1 e R q => h H1 e _ fun p H2 hp e2 h2 =>
  ⟨p, rfl, ⟨xs, st_of h2⟩, q _ H2 e2 ⟨_, walk_tup, fun H3 e3 => st_of (e3 _ _ h2), fun D _ hD H3 e3 => st_of (e3 _ _ (fun z => hD (z ▸ hp)) h2)⟩⟩
theorem EvI.mono {H' : Hp} (e : Ex H H') (h : EvI wi σ H xs) : EvI wi σ H' xs := fun H1 e1 R q => h H1 (e.trans e1) R fun J H2 e2 ⟨G, w, g1, g2⟩ => q J H2 e2 ⟨G, w, g1, fun D hD => g2 D (fresh_back e hD)⟩
theorem eu_ifF {t : TT} (h : EvT t σ H true) (h1 : EvU ta σ H xs) : EvU (tIf t ta tb) σ H xs := fun H1 e Q q => h H1 e _ fun H2 e2 => h1 H2 (e.trans e2) Q fun p H3 hp e3 h3 => q p H3 (fresh_back e2 hp) (e2.trans e3) h3
theorem eu_sl1 {u v : V} (h : Ev te σ H (.ref a)) (hx : Tp H a [u, v]) : EvU (tSl (rSlT K) te (tPart (tC (.int 1))) tNoPart) σ H [v] := fun H1 e Q q => h H1 e _ fun H2 e2 => ⟨1, rfl, a, [u, v], rfl, st_of ((e.trans e2) _ _ hx), show ¬ (HT.sIx 2 0 (some 1) = 0 ∧ HT.sIx 2 2 none = 2) by decide, fun p hp => q p _ (fresh_back e2 hp) (e2.trans (Ex.new hp)) upd_same⟩
end
section
variable {P : Program} {w : World} {K : PySem.W.Frag} {mg : Str → Option Value} {base : Heap}
def nm_law_tests : List Str := ["_law_told_here", "_law_found", "_law_kid"]
theorem sc_law_tests : FnScope nm_law_tests ["_law_told_here"] (defScope s_law_tests) := C8.fnScope_by (by decide +kernel)
theorem ok_law_tests (T : Tx K mg) : ∀ n, C8.Cal P w K mg base (n + 1) "_law_tests" (PSp (RTests n)) [] := by
  intro n
  induction n with
  | zero =>
    show C8.Cal P w K mg base (0 + 1) "_law_tests" (PSp (RTests 0)) []
    refine T.pf 38 38 rfl rfl sc_law_tests (fun _ _ _ _ _ _ us hl => match us, hl with | [_], _ => rfl) (fun vs H r h => ?_) (fun cdv A outer s H vs r E hr h => ?_)
    · obtain ⟨_, _, _, _, rfl, _⟩ := h
      rfl
    · obtain ⟨v, c, ns, ts, rfl, hc, hw, hz, rfl⟩ := h
      cases c <;> unfold Cd.Wf at hw
      · obtain ⟨h, _⟩ := hw
        omega
      · obtain ⟨h, _⟩ := hw
        omega
      all_goals
        obtain ⟨m, h, _⟩ := hw
        omega
  | succ m C_law_tests =>
    show C8.Cal P w K mg base ((m + 1) + 1) "_law_tests" (PSp (RTests (m + 1))) []
    refine T.pf 38 38 rfl rfl sc_law_tests (fun _ _ _ _ _ _ us hl => match us, hl with | [_], _ => rfl) (fun vs H r h => ?_) (fun cdv A outer s H vs r E hr h => ?_)
    · obtain ⟨_, _, _, _, rfl, _⟩ := h
      rfl
    · have nd := sc_law_tests.nd
      refine ⟨_, (pss_cons (ps_if (pt_cmpR op_in_seq (pe_ix ix_tup (pv 0) pe_int (fun _ _ => rfl)) (pe_tup (pa_cons pe_str (pa_cons pe_str pa_nil))) (by rfl))
      (pss_one (ps_ret (pe_lst (pa_cons (pv 0) pa_nil))))
      pss_nil)
      (pss_cons (ps_set (i := 1) nd rfl (Or.inl rfl) (pe_lst pa_nil))
      (pss_cons (ps_for PassesOwn.never rfl (pi_tup (pe_ifExp (pt_cmpR op_eq (pe_ix ix_tup (pv 0) pe_int (fun _ _ => rfl)) pe_str (nomark _)) (pe_slice sl_tup (pv 0) (po_some pe_int) po_none) (pe_ix ix_tup (pv 0) pe_int (fun _ _ => rfl)))) (pg_name (i := 2) nd rfl (Or.inl rfl))
      (pss_one (ps_set (i := 1) nd rfl (Or.inl rfl) (pe_op op_cat (pv 1) (C8.pe_c C_law_tests hr (by omega) (by rfl) (pa_cons (pv 2) pa_nil))))))
      (pss_one (ps_ret (pv 1)))))), ?_⟩
      obtain ⟨v, c, ns, ts, rfl, hc, hw, hz, rfl⟩ := h
      have loop : ∀ {wi : TI} {b : Addr} {us : List V} {tss : List (List V)} (D : Ends) (H1 : Hp), Ex H H1 → v = .ref b → (∀ f, EvI wi [some (.ref b), some (.ref f), none] H us) → tss.length = us.length → tss.flatten.length ≤ 1000 →
          (∀ (i : Nat) u t, us[i]? = some u → tss[i]? = some t → ∃ c', TsAt H c' u t ∧ c'.Wf ns m) → (∀ z H2, Ex H1 H2 → (Res.new (.lst tss.flatten)).ok H1 z H2 → D.rt z H2) →
          (tSeq (tAsg (tLst tNil) (gName 1)) (tSeq (tFor wi (gName 2) (tAsg (tOp rCat (tVar 1) (tCall (PSp (RTests m)) [] C8.E0 (tCons (tVar 2) tNil))) (gName 1))) (tRet (tVar 1)))) D [some (.ref b), none, none] H1 := fun {wi b us tss} D H1 e1 hv hi hl hf hk fin => by
        refine q_asgL (EvL.mono e1 (el_lst ea_nil (by simp))) fun f0 H2 hf0 e2 hf2 => ?_
        refine r_for (M := fun i σ' H' => ∃ f o, σ' = [some (.ref b), some (.ref f), o] ∧ Ls H' f ((tss.take i).flatten) ∧ H1 f = none) (EvI.mono (e1.trans e2) (hi f0)) (fun H3 e3 => ⟨f0, none, rfl, by rw [List.take_zero]; exact e3 _ _ hf2, hf0⟩) ?_ ?_
        · rintro i x σ' H' hx e' ⟨f, o, rfl, hf', _⟩ D' fin'
          have hlt : i < us.length := (List.getElem?_eq_some_iff.mp hx).1
          have hti : tss[i]? = some (tss[i]'(by omega)) := List.getElem?_eq_getElem (by omega)
          generalize tss[i]'(by omega) = t at hti
          obtain ⟨c', hc', hw'⟩ := hk i x t hx hti
          have ef : (tss.take (i + 1)).flatten = (tss.take i).flatten ++ t := by
            rw [List.take_add_one, hti, List.flatten_append]
            simp
          have hle : (tss.take i).flatten.length + t.length ≤ tss.flatten.length := by
            rw [← List.length_append, ← ef]
            conv => rhs; rw [← List.take_append_drop (i + 1) tss, List.flatten_append, List.length_append]
            omega
          refine s_asgL (el_catR (by wtm_at "ev") hf' (el_er (er_call (by wtm_at "ev") fun H3 e3 => ⟨x, c', ns, t, rfl, hc'.same ((e1.trans e2).trans (e'.trans e3)), hw', by omega, rfl⟩)) (by omega)) fun p H3 hp e3 h3 => fin' _ H3 e3 ⟨p, _, rfl, by rw [ef]; exact h3, fresh_back (e2.trans e') hp⟩
        · rintro σ' H' e' ⟨f, o, rfl, hf', hn⟩
          rw [← hl, List.take_length] at hf'
          exact ⟨.ref f, rfl, fin _ H' (e2.trans e') ⟨f, rfl, hn, hf'⟩⟩
      cases c with
      | most x y k =>
        unfold TsAt at hc
        obtain ⟨b, rfl, hb, rfl⟩ := hc
        wtm_at "rs"
        exact re_ret (er_lst (el_lst (by wtm_at "ev") (by simp)))
      | lacks x =>
        unfold TsAt at hc
        obtain ⟨b, rfl, hb, rfl⟩ := hc
        wtm_at "rs"
        exact re_ret (er_lst (el_lst (by wtm_at "ev") (by simp)))
      | not x =>
        unfold TsAt at hc
        unfold Cd.Wf at hw
        obtain ⟨b, u, rfl, hb, hu⟩ := hc
        obtain ⟨m', he, hw1⟩ := hw
        have he : m' = m := by omega
        subst he
        wtm_at "rs"
        exact fun D H1 e1 fin => loop (us := [u]) (tss := [ts]) D H1 e1 rfl (fun f => ei_newU (eu_ifF (by wtm_at "ev") (eu_sl1 (by wtm_at "ev") hb))) rfl (by simpa using hz) (fun i u' t hu1 ht1 => by
          cases i with
          | zero =>
            cases hu1
            cases ht1
            exact ⟨x, hu, hw1⟩
          | succ i => cases hu1) (fun z H2 e2 ho => fin z H2 e2 (by simpa using ho))
      | all l =>
        unfold TsAt at hc
        unfold Cd.Wf at hw
        obtain ⟨b, u, us, tss, rfl, hb, hu, hl, rfl⟩ := hc
        obtain ⟨m', he, h6, hw1⟩ := hw
        have he : m' = m := by omega
        subst he
        wtm_at "rs"
        exact fun D H1 e1 fin => loop (us := us) (tss := tss) D H1 e1 rfl (fun f => ei_tup (ev_if_f (by wtm_at "ev") (by wtm_at "ev")) hu) hl.len.2 hz (fun i u' t hu1 ht1 => by
          obtain ⟨c', h1, h2⟩ := hl.get hu1 ht1
          exact ⟨c', h2, hw1.get h1⟩) fin
      | any l =>
        unfold TsAt at hc
        unfold Cd.Wf at hw
        obtain ⟨b, u, us, tss, rfl, hb, hu, hl, rfl⟩ := hc
        obtain ⟨m', he, h6, hw1⟩ := hw
        have he : m' = m := by omega
        subst he
        wtm_at "rs"
        exact fun D H1 e1 fin => loop (us := us) (tss := tss) D H1 e1 rfl (fun f => ei_tup (ev_if_f (by wtm_at "ev") (by wtm_at "ev")) hu) hl.len.2 hz (fun i u' t hu1 ht1 => by
          obtain ⟨c', h1, h2⟩ := hl.get hu1 ht1
          exact ⟨c', h2, hw1.get h1⟩) fin
end
end Ot
/-! Otherworths k13: told -/
namespace Ot
open PySem PySem.Spec PyProof.Rows L2 Evl
local macro_rules | `(tactic| wtm_at "dc") => `(tactic| first
  | ((with_reducible apply dd_f); decide +kernel)
  | ((with_reducible apply dd_t); decide +kernel)
  | ((with_reducible apply dn_f); decide +kernel)
  | ((with_reducible apply dn_t); decide +kernel)
  | (with_reducible exact dec_int_non)
  | (with_reducible exact dec_bl_non)
  | (with_reducible exact dec_ref_non)
  | (with_reducible exact dec_str_non)
  | (with_reducible exact dec_str_ne (by assumption))
  | (with_reducible exact dec_str_eq (by assumption))
  | (with_reducible exact ndec_str_ne (by assumption))
  | (with_reducible exact ndec_str_eq (by assumption))
  | (with_reducible exact dec_int_ne (by omega))
  | (with_reducible exact dec_int_eq (by omega))
  | (with_reducible exact ndec_int_ne (by omega))
  | (with_reducible exact ndec_int_eq (by omega)))
local macro_rules | `(tactic| wtm_at "ic") => `(tactic| first
  | ((with_reducible apply iv_f); decide +kernel)
  | ((with_reducible apply iv_t); decide +kernel)
  | ((with_reducible apply ivn_f); decide +kernel)
  | ((with_reducible apply ivn_t); decide +kernel))
local macro_rules | `(tactic| wtm_at "iv") => `(tactic| first
  | exact bl_true (by omega)
  | exact bl_false (by omega)
  | rfl)
local macro_rules | `(tactic| wtm_at "ln") => `(tactic| first
  | (with_reducible exact ln0) | (with_reducible exact ln1) | (with_reducible exact ln2) | (with_reducible exact ln3) | (with_reducible exact ln4) | rfl)
local macro_rules | `(tactic| wtm_at "nb") => `(tactic| first
  | (with_reducible exact nb_t)
  | (with_reducible exact nb_f))
local macro_rules | `(tactic| wtm_at "kt") => `(tactic| first
  | (with_reducible exact kit_tt) | (with_reducible exact kit_ss) | (with_reducible exact kit_ii) | (with_reducible exact kit_ib) | (with_reducible exact kit_ni) | (with_reducible exact kit_dd) | (with_reducible exact kit_ll))
local macro_rules | `(tactic| wtm_at "vt") => `(tactic| first
  | exact .str | exact .int | exact .non | exact .bl | exact .tup (by assumption) | exact .lst (by assumption) | exact .dK (by assumption))
local macro_rules | `(tactic| wtm_at "sv") => `(tactic| assumption)
local macro_rules | `(tactic| wtm_at "ct") => `(tactic| first
  | (with_reducible exact ct_f)
  | ((with_reducible apply ct_t); wtm_at "ev")
  | (with_reducible exact cf_t)
  | ((with_reducible apply cf_f); wtm_at "ev")
  | (with_reducible exact ctv_f)
  | ((with_reducible apply ctv_t); wtm_at "ev")
  | (with_reducible exact cfv_t)
  | ((with_reducible apply cfv_f); wtm_at "ev")
  | ((with_reducible apply ci_t); wtm_at "ev")
  | ((with_reducible apply ci_f); wtm_at "ev"))
local macro_rules | `(tactic| wtm_at "ev") => `(tactic| first
  | ((with_reducible apply ev_var); rfl)
  | (with_reducible exact ev_c)
  | (with_reducible exact ea_nil)
  | ((with_reducible apply ea_cons) <;> wtm_at "ev")
  | ((with_reducible apply ev_ixT); (wtm_at "ev"); (wtm_at "ev"); assumption; rfl)
  | ((with_reducible apply ev_dgetS); (wtm_at "ev"); (wtm_at "ev"); assumption; assumption)
  | ((with_reducible apply ev_lenT); (wtm_at "ev"); assumption; (wtm_at "ln"))
  | ((with_reducible apply ev_isi); (wtm_at "ev"); (wtm_at "vt"); (wtm_at "kt"))
  | ((with_reducible apply ev_eq); (wtm_at "ev"); (wtm_at "ev"); rfl; (wtm_at "dc"))
  | ((with_reducible apply ev_ne); (wtm_at "ev"); (wtm_at "ev"); rfl; (wtm_at "dc"))
  | ((with_reducible apply ev_isN); (wtm_at "ev"); (wtm_at "dc"))
  | ((with_reducible apply ev_notN); (wtm_at "ev"); (wtm_at "dc"))
  | ((with_reducible apply ev_int0); (wtm_at "ev"); (wtm_at "ev"); (wtm_at "iv"))
  | ((with_reducible apply ev_niN); (wtm_at "ev"); (wtm_at "ev"); rfl; rfl; (wtm_at "ic"))
  | ((with_reducible apply ev_inN); (wtm_at "ev"); (wtm_at "ev"); rfl; rfl; (wtm_at "ic"))
  | ((with_reducible apply eu_tup); (wtm_at "ev"); simp)
  | ((with_reducible apply el_lst); (wtm_at "ev"); simp)
  | ((with_reducible apply ev_callP); (wtm_at "ev"); (wtm_at "sv"))
  | ((with_reducible apply et_test); wtm_at "ev")
  | ((with_reducible apply et_B); wtm_at "ev")
  | ((with_reducible apply ev_andG); (wtm_at "ev"); (wtm_at "ct"))
  | ((with_reducible apply ev_orG); (wtm_at "ev"); (wtm_at "ct"))
  | ((with_reducible apply ev_notG); (wtm_at "ev"); (wtm_at "nb"))
  | ((with_reducible apply et_andG); (wtm_at "ev"); (wtm_at "ct"))
  | ((with_reducible apply et_orG); (wtm_at "ev"); (wtm_at "ct"))
  | ((with_reducible apply et_notG); (wtm_at "ev"); (wtm_at "nb"))
  | ((with_reducible apply ev_ifG); (wtm_at "ev"); (wtm_at "ct"))
  | assumption)
local macro_rules | `(tactic| wtm_at "re") => `(tactic| first
  | ((with_reducible apply re_ifG); (wtm_at "ev"); first | ((with_reducible apply ci_t); wtm_at "re") | ((with_reducible apply ci_f); wtm_at "re"))
  | ((with_reducible apply re_retV); wtm_at "ev")
  | ((with_reducible apply re_asgV); (wtm_at "ev"); (wtm_at "re"))
  | ((with_reducible apply re_par); (wtm_at "ev"); (wtm_at "re")))
local macro_rules | `(tactic| wtm_at "rs") => `(tactic| repeat ((with_reducible apply re_ifG); (wtm_at "ev"); first | (with_reducible apply ci_t) | (with_reducible apply ci_f)))


theorem tp_off {B : Hp} {D a : Addr} {l xs : List V} {o : HO} (h : B D = some (.lst l)) (hx : Tp B a xs) : Tp (upd B D o) a xs := by
  have n : a ≠ D := fun z => by
    have hx : B a = _ := hx
    rw [z, h] at hx
    cases hx
  show (upd B D o) a = _
  rw [upd_ne n]
  exact hx
mutual
theorem CAt.off {B : Hp} {D : Addr} {l : List V} {o : HO} (h : B D = some (.lst l)) : ∀ {c : Cd} {v : V}, CAt B c v → CAt (upd B D o) c v
  | .most x y c, v, hc => by
    unfold CAt at hc ⊢
    obtain ⟨a, h1, h2⟩ := hc
    exact ⟨a, h1, tp_off h h2⟩
  | .lacks x, v, hc => by
    unfold CAt at hc ⊢
    obtain ⟨a, h1, h2⟩ := hc
    exact ⟨a, h1, tp_off h h2⟩
  | .not b, v, hc => by
    unfold CAt at hc ⊢
    obtain ⟨a, u, h1, h2, h3⟩ := hc
    exact ⟨a, u, h1, tp_off h h2, CAt.off h h3⟩
  | .all cs, v, hc => by
    unfold CAt at hc ⊢
    obtain ⟨a, b, us, h1, h2, h3, h4⟩ := hc
    exact ⟨a, b, us, h1, tp_off h h2, tp_off h h3, CsAt.off h h4⟩
  | .any cs, v, hc => by
    unfold CAt at hc ⊢
    obtain ⟨a, b, us, h1, h2, h3, h4⟩ := hc
    exact ⟨a, b, us, h1, tp_off h h2, tp_off h h3, CsAt.off h h4⟩
theorem CsAt.off {B : Hp} {D : Addr} {l : List V} {o : HO} (h : B D = some (.lst l)) : ∀ {cs : List Cd} {us : List V}, CsAt B cs us → CsAt (upd B D o) cs us
  | [], us, hc => by
    unfold CsAt at hc ⊢
    exact hc
  | c :: cs, us, hc => by
    unfold CsAt at hc ⊢
    obtain ⟨u, r, h1, h2, h3⟩ := hc
    exact ⟨u, r, h1, CAt.off h h2, CsAt.off h h3⟩
end
theorem CsAt.snoc {B : Hp} {c : Cd} {v : V} : ∀ {cs : List Cd} {us : List V}, CsAt B cs us → CAt B c v → CsAt B (cs ++ [c]) (us ++ [v])
  | [], us, h, hc => by
    unfold CsAt at h
    subst h
    show CsAt B [c] [v]
    unfold CsAt
    exact ⟨v, [], rfl, hc, by unfold CsAt; rfl⟩
  | d :: cs, us, h, hc => by
    unfold CsAt at h
    obtain ⟨u, r, rfl, h2, h3⟩ := h
    show CsAt B (d :: (cs ++ [c])) (u :: (r ++ [v]))
    unfold CsAt
    exact ⟨u, r ++ [v], rfl, h2, CsAt.snoc h3 hc⟩
theorem nts_snoc (c : Cd) : ∀ cs : List Cd, Cd.nts (cs ++ [c]) = Cd.nts cs + c.nt
  | [] => by
    show Cd.nts [c] = _
    simp only [Cd.nts]
    omega
  | d :: cs => by
    show Cd.nts (d :: (cs ++ [c])) = Cd.nts (d :: cs) + c.nt
    rw [Cd.nts, nts_snoc c cs, Cd.nts]
    omega
theorem Wfs_snoc {ks : List Str} {m : Nat} {c : Cd} : ∀ {cs : List Cd}, Cd.Wfs ks m cs → c.Wf ks m → Cd.Wfs ks m (cs ++ [c])
  | [], _, hc => by
    show Cd.Wfs ks m [c]
    unfold Cd.Wfs
    exact ⟨hc, by unfold Cd.Wfs; trivial⟩
  | d :: cs, h, hc => by
    unfold Cd.Wfs at h
    show Cd.Wfs ks m (d :: (cs ++ [c]))
    unfold Cd.Wfs
    exact ⟨h.1, Wfs_snoc h.2 hc⟩
mutual
theorem Cd.Wf.up {ks : List Str} : ∀ {c : Cd} {n m : Nat}, n ≤ m → c.Wf ks n → c.Wf ks m
  | .most x y k, n, m, h, hw => by
    unfold Cd.Wf at hw ⊢
    exact ⟨Nat.le_trans hw.1 h, hw.2⟩
  | .lacks x, n, m, h, hw => by
    unfold Cd.Wf at hw ⊢
    exact ⟨Nat.le_trans hw.1 h, hw.2⟩
  | .not a, n, m, h, hw => by
    unfold Cd.Wf at hw ⊢
    obtain ⟨k, e, hw⟩ := hw
    exact ⟨m - 1, by omega, Cd.Wf.up (by omega) hw⟩
  | .all l, n, m, h, hw => by
    unfold Cd.Wf at hw ⊢
    obtain ⟨k, e, h6, hw⟩ := hw
    exact ⟨m - 1, by omega, h6, Cd.Wfs.up (by omega) hw⟩
  | .any l, n, m, h, hw => by
    unfold Cd.Wf at hw ⊢
    obtain ⟨k, e, h6, hw⟩ := hw
    exact ⟨m - 1, by omega, h6, Cd.Wfs.up (by omega) hw⟩
theorem Cd.Wfs.up {ks : List Str} : ∀ {cs : List Cd} {n m : Nat}, n ≤ m → Cd.Wfs ks n cs → Cd.Wfs ks m cs
  | [], n, m, h, hw => by
    unfold Cd.Wfs
    trivial
  | c :: cs, n, m, h, hw => by
    unfold Cd.Wfs at hw ⊢
    exact ⟨Cd.Wf.up h hw.1, Cd.Wfs.up h hw.2⟩
end
/-- told(draw, words, most, deep, 3) -/
def RTold2 (n : Nat) : DRel := fun vs B P => ∃ (a : Addr) (ks : List Str) (m : Nat), vs = [.ref a, .int (m : Int), .int (n : Int), .int 3] ∧ 1 ≤ n ∧ m ≤ 2 ∧ Ls B a (strV ks) ∧ NmOk ks ∧ ∀ v c B', CAt B' c v → c.Wf ks n → c.nt ≤ m → P v B'
section
variable {K : PySem.W.Frag} {q : Dw} {σ : L2.St} {H B : Hp} {te ta tb : TE} {P P1 : PV} {E : XK}
/-- a value-or of tests -/
theorem x_orV {Q1 Q2 : Bool → Prop} (h : EvX q ta σ B (fun z _ => ∃ b, z = .bl b ∧ Q1 b)) (h2 : Q1 false → ∀ B1, Ex B B1 → EvX q tb σ B1 (fun z _ => ∃ b, z = .bl b ∧ Q2 b)) (h0 : Q1 true → Q2 true) : EvX q (tOrV ta tb) σ B (fun z _ => ∃ b, z = .bl b ∧ Q2 b) := fun H s Q f => h H s _ fun z B1 H1 e1 s1 ⟨b, hz, hq⟩ => ⟨b, hz, by
  cases b with
  | false =>
    show tb σ H1 Q
    exact h2 hq B1 e1 H1 s1 Q fun z B' H' e' s' p => f z B' H' (e1.trans e') s' p
  | true =>
    show Q (.bl true) H1
    exact f _ B1 H1 e1 s1 ⟨true, rfl, h0 hq⟩⟩
theorem xd_par {tz : TS} {P2 : V → PV} {i j : Nat} {D : Ends} (ha : EvX q ta σ B P1) (hb : ∀ x B1, Ex B B1 → P1 x B1 → EvX q tb σ B1 (P2 x)) (s : Sd q B H) (k : ∀ x y B1 B2 H2, Ex B B1 → P1 x B1 → Ex B1 B2 → P2 x y B2 → Sd q B2 H2 → tz D ((σ.set i (some x)).set j (some y)) H2) : tSeq (tPar i j (tCons ta (tCons tb tNil))) tz D σ H :=
  ha H s _ fun x B1 H1 e1 s1 p1 => hb x B1 e1 p1 H1 s1 _ fun y B2 H2 e2 s2 p2 => ⟨x, y, rfl, k x y B1 B2 H2 e1 p1 e2 p2 s2⟩
/-- min(left, 1 + take(draw, n)) -/
theorem x_minT {t1 : TE} {n : Int} {l : Nat} (h1 : Ev t1 σ B (.int (l : Int))) (hd : ∀ B1, Ex B B1 → Ev ta σ B1 (.ref q.d)) (hn : ∀ B1, Ex B B1 → Ev te σ B1 (.int n)) (h0 : 0 < n) (hb : n < 1073741824) :
    EvX q (tCB rMin2 (tCons t1 (tCons (tOp (rI0 fun i j => .int (i + j)) (tC (.int 1)) (tCall (DSp RTake) [] E (tCons ta (tCons te tNil)))) tNil))) σ B (fun z _ => ∃ m' : Nat, z = .int (m' : Int) ∧ m' ≤ l) := fun H s Q f => h1 H s.le _ fun H1 e1 => by
  have s1 := (s.step e1).1.base (s.step e1).2
  refine (x_i0 (A1 := fun i => i = 1) (A2 := fun i => 0 ≤ i) (x_int ev_c rfl) fun B1 eB => x_imp (x_takeE (hd B1 eB) (hn B1 eB) h0 hb) fun z B' _ ⟨i, hz, i0, _⟩ => ⟨i, hz, i0⟩ : EvX q _ σ B _) H1 s1 _ fun z B' H' e' s' ⟨i, j, hz, hi, hj⟩ => ⟨(l : Int), i + j, by rw [hz], ?_⟩
  by_cases h : i + j < (l : Int)
  · rw [if_pos h]
    exact f _ B' H' e' s' ⟨(i + j).toNat, by congr 1; omega, by omega⟩
  · rw [if_neg h]
    exact f _ B' H' e' s' ⟨l, rfl, Nat.le_refl _⟩
theorem x_bl {b : Bool} {Q1 : Bool → Prop} (h : Ev te σ B (.bl b)) (hq : Q1 b) : EvX q te σ B (fun z _ => ∃ b, z = .bl b ∧ Q1 b) := x_imp (x_ev h) fun z B' _ hz => ⟨b, hz, hq⟩
/-- (pick(draw, ['and', 'or']), ..) -/
theorem x_pickAO (hd : Ev ta σ B (.ref q.d)) : EvX q (tCall (DSp RPick) [] E (tCons ta (tCons (tLst (tCons (tC (.str "and")) (tCons (tC (.str "or")) tNil))) tNil))) σ B (fun z _ => z = .str "and" ∨ z = .str "or") :=
  x_imp (x_pickL (xs := [.str "and", .str "or"]) hd (el_lst (ea_cons ev_c (ea_cons ev_c ea_nil)) (by simp)) (by simp) (by simp)) fun z B' _ hz => by
    simp only [List.mem_cons, List.not_mem_nil, or_false] at hz
    exact hz
theorem cat_ao {B : Hp} {p b : Addr} {x : V} {cs : List Cd} {us : List V} (h : x = .str "and" ∨ x = .str "or") (hp : Tp B p [x, .ref b]) (hb : Tp B b us) (hc : CsAt B cs us) {ks : List Str} {n : Nat} (hw : Cd.Wfs ks n cs) (h6 : cs.length ≤ 6) : ∃ c, CAt B c (.ref p) ∧ c.Wf ks (n + 1) ∧ c.nt = Cd.nts cs := by
  rcases h with rfl | rfl
  · exact ⟨.all cs, by unfold CAt; exact ⟨p, b, us, rfl, hp, hb, hc⟩, by unfold Cd.Wf; exact ⟨n, rfl, h6, hw⟩, by rw [Cd.nt]⟩
  · exact ⟨.any cs, by unfold CAt; exact ⟨p, b, us, rfl, hp, hb, hc⟩, by unfold Cd.Wf; exact ⟨n, rfl, h6, hw⟩, by rw [Cd.nt]⟩
/-- take(draw, n) == k -/
theorem x_takeEq {n k : Int} (hd : Ev ta σ B (.ref q.d)) (hn : Ev te σ B (.int n)) (h0 : 0 < n) (h1 : n < 1073741824) (hk : ∀ B1, Ex B B1 → Ev tb σ B1 (.int k)) : EvX q (tOp rEq (tCall (DSp RTake) [] E (tCons ta (tCons te tNil))) tb) σ B (fun z _ => ∃ b, z = .bl b) :=
  x_op (P1 := fun z _ => ∃ i : Int, z = .int i ∧ 0 ≤ i ∧ i < n) (P2 := fun z _ => z = .int k) (x_takeE hd hn h0 h1) (fun x B4 e4 _ => x_ev (hk B4 e4)) fun x y B4 B5 e4 ⟨i, hi, _⟩ e5 hy H s5 Q f => by
    subst hi hy
    exact ⟨rfl, f _ B5 H (Ex.refl _) s5 ⟨_, rfl⟩⟩
theorem x_tell {n m : Nat} {a : Addr} {ks : List Str} {t1 t2 t3 t4 : TE} (hd : Ev ta σ B (.ref q.d)) (h1 : Ev t1 σ B (.ref a)) (h2 : ∀ B1, Ex B B1 → EvX q t2 σ B1 (fun z _ => ∃ m' : Nat, z = .int (m' : Int) ∧ m' ≤ m)) (h3 : ∀ B1, Ex B B1 → Ev t3 σ B1 (.int (n : Int))) (h4 : ∀ B1, Ex B B1 → Ev t4 σ B1 (.int 3)) (hx : Ls B a (strV ks)) (hn : 1 ≤ n) (hm : m ≤ 2) (ho : NmOk ks) :
    EvX q (tCall (DSp (RTold2 n)) [] E (tCons ta (tCons t1 (tCons t2 (tCons t3 (tCons t4 tNil)))))) σ B (fun v B' => ∃ c, CAt B' c v ∧ c.Wf ks n ∧ c.nt ≤ m) :=
  x_call (Pa := fun ws B' => ∃ m' : Nat, ws = [.ref q.d, .ref a, .int (m' : Int), .int (n : Int), .int 3] ∧ m' ≤ m ∧ Ls B' a (strV ks)) (xa_cons (x_ev hd) fun z0 B1 e1 hz0 => xa_cons (x_ev (v := .ref a) fun H1 e Q f => h1 H1 (e1.trans e) Q f) fun z1 B2 e2 hz1 => xa_cons (P1 := fun z _ => ∃ m' : Nat, z = .int (m' : Int) ∧ m' ≤ m) (h2 B2 (e1.trans e2)) fun z2 B3 e3 ⟨m', hz2, hm'⟩ => xa_of (vs := [.int (n : Int), .int 3]) (ea_cons (h3 B3 (e1.trans (e2.trans e3))) (ea_cons (h4 B3 (e1.trans (e2.trans e3))) ea_nil)) fun B' e' => ⟨m', by rw [hz0, hz1, hz2], hm', (e1.trans (e2.trans (e3.trans e'))) _ _ hx⟩)
    fun ws B1 e1 ⟨m', hw, hm', hx'⟩ => ⟨[.ref a, .int (m' : Int), .int (n : Int), .int 3], (fun v B' => ∃ c, CAt B' c v ∧ c.Wf ks n ∧ c.nt ≤ m), hw, ⟨a, ks, m', rfl, hn, by omega, hx', ho, fun v c B' hc hw hl => ⟨c, hc, hw, by omega⟩⟩, fun z B' _ h => h⟩
end
section
variable {P : Program} {w : World} {K : PySem.W.Frag} {mg : Str → Option Value} {base : Heap}
def nm_law_told : List Str := ["_law_draw", "_law_words_here", "_law_most", "_law_deep", "_law_span", "_law_way", "_law_is_void", "_law_kids", "_law_left", "_law_k", "_law_kid"]
theorem sc_law_told : FnScope nm_law_told ["_law_draw", "_law_words_here", "_law_most", "_law_deep", "_law_span"] (defScope s_law_told) := C8.fnScope_by (by decide +kernel)
theorem ok_law_told (T : Tx K mg) (C_law_take : C8.Cal P w K mg base 2 "_law_take" (DSp RTake) []) (C_law_pick : C8.Cal P w K mg base 3 "_law_pick" (DSp RPick) []) (C_law_test : C8.Cal P w K mg base 4 "_law_test" (DSp RTest) []) (hts : ∀ n, C8.Cal P w K mg base (n + 1) "_law_tests" (PSp (RTests n)) []) : ∀ n, C8.Cal P w K mg base (n + 5) "_law_told" (DSp (RTold2 n)) [] := by
  intro n
  induction n with
  | zero =>
    show C8.Cal P w K mg base (4 + 1) "_law_told" (DSp (RTold2 0)) []
    refine T.pd 37 37 rfl rfl sc_law_told (fun _ _ _ _ _ _ us hl => match us, hl with | [_, _, _, _, _], _ => rfl) (fun vs B Pv h => ?_) (fun cdv A outer s H q B vs Pv E hr h => ?_)
    · obtain ⟨_, _, _, rfl, _⟩ := h
      rfl
    · obtain ⟨_, _, _, _, h, _⟩ := h
      omega
  | succ n C_law_told =>
    show C8.Cal P w K mg base ((n + 5) + 1) "_law_told" (DSp (RTold2 (n + 1))) []
    have C_law_tests := hts n
    refine T.pd 37 37 rfl rfl sc_law_told (fun _ _ _ _ _ _ us hl => match us, hl with | [_, _, _, _, _], _ => rfl) (fun vs B Pv h => ?_) (fun cdv A outer s H q B vs Pv E hr h => ?_)
    · obtain ⟨_, _, _, rfl, _⟩ := h
      rfl
    · have nd := sc_law_told.nd
      have hu64 := hr.units
      refine ⟨_, (pss_cons (ps_set (i := 5) nd rfl (Or.inl rfl) (C8.pe_c C_law_take hr (by omega) (by rfl) (pa_cons (pv 0) (pa_cons pe_int pa_nil))))
      (pss_cons (ps_if (PW.pt (pw_or (pt_cmpR (op_eqD hu64) (pv 1) (pe_lst pa_nil) (nomark _)) (pw_or (pt_cmpR op_eq (pv 2) pe_int (nomark _)) (pw_or (pt_cmpR op_eq (pv 3) pe_int (nomark _)) (pw_or1 (pt_cmpR op_lt (pv 5) pe_int (nomark _)))))))
      (pss_cons (ps_set (i := 6) nd rfl (Or.inl rfl) (pe_or (pe_cmpR (op_eqD hu64) (pv 1) (pe_lst pa_nil) (nomark _)) (pe_or (pe_cmpR op_eq (pv 2) pe_int (nomark _)) (pe_one (pe_cmpR op_eq (C8.pe_c C_law_take hr (by omega) (by rfl) (pa_cons (pv 0) (pa_cons pe_int pa_nil))) pe_int (nomark _))))))
      (pss_one (ps_ret (pe_ifExp (pt_val (pv 6)) (pe_tup (pa_cons (C8.pe_c C_law_pick hr (by omega) (by rfl) (pa_cons (pv 0) (pa_cons (pe_lst (pa_cons pe_str (pa_cons pe_str pa_nil))) pa_nil))) (pa_cons (pe_tup pa_nil) pa_nil))) (C8.pe_c C_law_test hr (by omega) (by rfl) (pa_cons (pv 0) (pa_cons (pv 1) (pa_cons (pv 4) pa_nil))))))))
      pss_nil)
      (pss_cons (ps_if (pt_cmpR op_eq (pv 5) pe_int (nomark _))
      (pss_one (ps_ret (pe_tup (pa_cons pe_str (pa_cons (C8.pe_c C_law_told hr (by omega) (by rfl) (pa_cons (pv 0) (pa_cons (pv 1) (pa_cons (pv 2) (pa_cons (pe_op op_sub (pv 3) pe_int) (pa_cons (pv 4) pa_nil)))))) pa_nil)))))
      pss_nil)
      (pss_cons (ps_par (i := 7) (j := 8) rfl nd rfl rfl (by decide) rfl rfl (pa_cons (pe_lst pa_nil) (pa_cons (pv 2) pa_nil)) (by rfl))
      (pss_cons (ps_for PassesOwn.never rfl (pi_range1 (by rfl) T.f_range (pa_cons (C8.pe_c C_law_pick hr (by omega) (by rfl) (pa_cons (pv 0) (pa_cons (pe_lst (pa_cons pe_int (pa_cons pe_int (pa_cons pe_int (pa_cons pe_int (pa_cons pe_int (pa_cons pe_int (pa_cons pe_int pa_nil)))))))) pa_nil))) pa_nil)) (pg_name (i := 9) nd rfl (Or.inl rfl))
      (pss_cons (ps_set (i := 10) nd rfl (Or.inl rfl) (C8.pe_c C_law_told hr (by omega) (by rfl) (pa_cons (pv 0) (pa_cons (pv 1) (pa_cons (pe_callB (cr_min2 rfl) (by rfl) T.f_min (by decide +kernel) (pa_cons (pv 8) (pa_cons (pe_op op_add pe_int (C8.pe_c C_law_take hr (by omega) (by rfl) (pa_cons (pv 0) (pa_cons (pv 2) pa_nil)))) pa_nil))) (pa_cons (pe_op op_sub (pv 3) pe_int) (pa_cons (pv 4) pa_nil)))))))
      (pss_cons (ps_expr (pe_bm PySem.F.plainAttrs_list PySem.F.slot_list_append PySem.F.type_list_append mt_append (pv 7) (pa_cons (pv 10) pa_nil)))
      (pss_one (ps_set (i := 8) nd rfl (Or.inl rfl) (pe_op op_sub (pv 8) (pe_callB cr_len (by rfl) T.f_len PySem.boot_len (pa_cons (C8.pe_c C_law_tests hr (by omega) (by rfl) (pa_cons (pv 10) pa_nil)) pa_nil))))))))
      (pss_one (ps_ret (pe_tup (pa_cons (C8.pe_c C_law_pick hr (by omega) (by rfl) (pa_cons (pv 0) (pa_cons (pe_lst (pa_cons pe_str (pa_cons pe_str pa_nil))) pa_nil))) (pa_cons (pe_callTy cr_tupS (by rfl) T.f_tuple (by decide +kernel) (pa_cons (pv 7) pa_nil)) pa_nil)))))))))), ?_⟩
      obtain ⟨a, ks, m, rfl, _, hm, ha, hok, hP⟩ := h
      have hst : ∀ z ∈ ks, PyData.strOk z = true := fun z hz => (hok.2.1 z hz).str
      have isnil : ∀ b, ks.isEmpty = b → b = true → ks = [] := fun b h hb => by
        rw [hb] at h
        exact List.isEmpty_iff.mp h
      refine xr_asg (x_takeE (n := 8) (by wtm_at "ev") (by wtm_at "ev") (by decide) (by decide)) ?_
      rintro z B1 e1 ⟨way, rfl, w0, w8⟩
      have ha1 := e1 _ _ ha
      refine xr_if (Pt := fun b _ => b = false → ks ≠ [] ∧ 1 ≤ m ∧ 1 ≤ n) (xt_or (Pb1 := fun b _ => b = ks.isEmpty) (xt_et (et_test (ev_eqT (by wtm_at "ev") ha1 hst rfl))) (fun B2 e2 h2 => xt_or (Pb1 := fun b _ => b = decide (V.int (m : Int) = V.int 0)) (xt_et (et_test (ev_eq (by wtm_at "ev") (by wtm_at "ev") rfl rfl))) (fun B3 e3 h3 => xt_or (Pb1 := fun b _ => b = decide (V.int ((n + 1 : Nat) : Int) = V.int 1)) (xt_et (et_test (ev_eq (by wtm_at "ev") (by wtm_at "ev") rfl rfl))) (fun B4 e4 h4 => xt_test (P := fun z _ => ∃ b, z = .bl b) (x_imp (x_ev (ev_int0 (i := way) (j := 2) (by wtm_at "ev") (by wtm_at "ev") rfl)) fun z B' _ hz => ⟨_, hz⟩) fun z B' ⟨b, hz⟩ => ⟨b, hz, fun _ => ⟨fun hk => ?_, ?_, ?_⟩⟩) fun _ _ z => by cases z) fun _ _ z => by cases z) fun _ _ z => by cases z) ?_ ?_
      · rw [hk] at h2
        cases h2
      · have h3 := of_decide_eq_false h3.symm
        exact Nat.one_le_iff_ne_zero.mpr fun z => h3 (by rw [z]; rfl)
      · have h4 := of_decide_eq_false h4.symm
        exact Nat.one_le_iff_ne_zero.mpr fun z => h4 (by rw [z]; rfl)
      · intro B2 e2 _
        have ha2 := e2 _ _ ha1
        refine xr_asg (x_orV (Q1 := fun b => b = ks.isEmpty) (Q2 := fun b => b = false → ks ≠ [] ∧ 1 ≤ m) (x_bl (ev_eqT (by wtm_at "ev") ha2 hst rfl) rfl) (fun h2 B3 e3 => x_orV (Q1 := fun b => b = decide (V.int (m : Int) = V.int 0)) (x_bl (ev_eq (by wtm_at "ev") (by wtm_at "ev") rfl rfl) rfl) (fun h3 B4 e4 => x_imp (x_takeEq (n := 16) (k := 0) (by wtm_at "ev") (by wtm_at "ev") (by decide) (by decide) fun _ _ => by wtm_at "ev") fun z B' _ ⟨b, hz⟩ => ⟨b, hz, fun _ => ⟨fun hk => ?_, ?_⟩⟩) fun _ z => by cases z) fun _ z => by cases z) ?_
        · rw [hk] at h2
          cases h2
        · have h3 := of_decide_eq_false h3.symm
          exact Nat.one_le_iff_ne_zero.mpr fun z => h3 (by rw [z]; rfl)
        rintro z B3 e3 ⟨b, rfl, hb⟩
        have ha3 := e3 _ _ ha2
        refine xr_ret (x_if (Pt := fun z _ => z = b) (xt_et (et_B (by wtm_at "ev"))) (fun B4 e4 hb4 => ?_) fun B4 e4 hb4 => ?_)
        · refine x_imp (x_tup (Pa := fun ws B' => ∃ x b, ws = [x, .ref b] ∧ (x = .str "and" ∨ x = .str "or") ∧ Tp B' b []) (xa_cons (x_pickAO (by wtm_at "ev")) fun x B5 e5 hx => xa_cons (P1 := fun z B' => ∃ b, z = .ref b ∧ Tp B' b []) (x_imp (x_new (er_tup (eu_tup ea_nil (by simp)))) fun z B' _ ⟨p, h1, _, _, h2⟩ => ⟨p, h1, h2⟩) fun y B6 e6 ⟨b, hy, hb⟩ => fun H s Q f => f [] B6 H (Ex.refl _) s ⟨x, b, by rw [hy], hx, hb⟩) (fun ws B1 ⟨x, b, hw, _⟩ => by rw [hw]; simp)) ?_
          rintro z B' _ ⟨p, ws, B5, rfl, ⟨x, b, rfl, hx, hb5⟩, e5, _, hp⟩
          obtain ⟨c, h1, h2, h3⟩ := cat_ao (ks := ks) (n := n) (cs := []) (us := []) hx hp (e5 _ _ hb5) (by unfold CsAt; rfl) (by unfold Cd.Wfs; trivial) (by simp)
          exact hP _ c B' h1 h2 (by rw [h3, Cd.nts]; omega)
        · obtain ⟨hk, hm1⟩ := hb hb4.symm
          exact x_callE (vs := [.ref a, .int 3]) (by wtm_at "ev") fun B5 e5 => ⟨a, ks, rfl, e5 _ _ (e4 _ _ ha3), hk, hok, fun v c B' hc hw hn => hP v c B' hc (hw.up (by omega)) (by omega)⟩
      · intro B2 e2 hpt
        obtain ⟨hk, hm1, hn1⟩ := hpt rfl
        have ha2 := e2 _ _ ha1
        have hdeep : ∀ (σ : L2.St) (B' : Hp), σ[3]? = some (some (.int ((n + 1 : Nat) : Int))) → Ev (tOp (rI0 fun i j => .int (i - j)) (tVar 3) (tC (.int 1))) σ B' (.int (n : Int)) := fun σ B' hs => ev_is (ev_int0 (i := ((n + 1 : Nat) : Int)) (j := 1) (ev_var hs) ev_c rfl) (by congr 1; omega)
        refine xr_if (Pt := fun _ _ => True) (xt_test (P := fun z _ => ∃ b, z = .bl b) (x_imp (x_ev (ev_eq (x := .int way) (y := .int 2) (by wtm_at "ev") (by wtm_at "ev") rfl rfl)) fun z B' _ hz => ⟨_, hz⟩) fun z B' ⟨b, hz⟩ => ⟨b, hz, trivial⟩) ?_ ?_
        · intro B3 e3 _
          have ha3 := e3 _ _ ha2
          refine xr_ret (x_imp (x_tup (Pa := fun ws B' => ∃ v c, ws = [.str "not", v] ∧ CAt B' c v ∧ c.Wf ks n ∧ c.nt ≤ m) (xa_cons (x_ev (v := .str "not") (by wtm_at "ev")) fun x B4 e4 hx => xa_cons (x_tell (m := m) (by wtm_at "ev") (by wtm_at "ev") (fun B5 e5 => x_imp (x_ev (v := .int (m : Int)) (by wtm_at "ev")) fun z B' _ hz => ⟨m, hz, Nat.le_refl _⟩) (fun B5 e5 => hdeep _ _ rfl) (fun _ _ => by wtm_at "ev") (e4 _ _ ha3) hn1 hm hok) fun v B5 e5 ⟨c, h1, h2, h3⟩ => fun H s Q f => f [] B5 H (Ex.refl _) s ⟨v, c, by rw [hx], h1, h2, h3⟩) (fun ws B1 ⟨v, c, hw, _⟩ => by rw [hw]; simp)) ?_)
          rintro z B' _ ⟨p, ws, B5, rfl, ⟨v, c, rfl, h1, h2, h3⟩, e5, _, hp⟩
          exact hP _ (.not c) B' (by unfold CAt; exact ⟨p, v, rfl, hp, h1.same e5⟩) (by unfold Cd.Wf; exact ⟨n, rfl, h2⟩) (by rw [Cd.nt]; exact h3)
        · intro B3 e3 _
          have ha3 := e3 _ _ ha2
          intro D H s3 fin
          refine xd_par (P2 := fun _ y _ => y = .int (m : Int)) (x_new (er_lst (el_lst ea_nil (by simp)))) (fun x B4 e4 _ => x_ev (by wtm_at "ev")) s3 ?_
          rintro z y B4' B4 H4 e4' ⟨f, rfl, hf0, fc, hf'⟩ e4'' rfl s4
          have e4 := e4'.trans e4''
          have hf := e4'' _ _ hf'
          have ha4 := e4 _ _ ha3
          have af : a ≠ f := fun z => by
            rw [z, hf0] at ha3
            cases ha3
          refine xdq_forR (A := fun k _ => k ≤ 6) (xa_cons (x_pickL (xs := [.int 1, .int 2, .int 2, .int 2, .int 3, .int 4, .int 6]) (by wtm_at "ev") (el_lst (by wtm_at "ev") (by simp)) (by simp) (by simp)) fun z B5 e5 hz => fun H s Q g => ?_) s4 ?_
          · have hm' : ∃ k : Nat, z = .int (k : Int) ∧ k ≤ 6 := by
              simp only [List.mem_cons, List.not_mem_nil, or_false] at hz
              rcases hz with rfl | rfl | rfl | rfl | rfl | rfl | rfl
              · exact ⟨1, rfl, by decide⟩
              · exact ⟨2, rfl, by decide⟩
              · exact ⟨2, rfl, by decide⟩
              · exact ⟨2, rfl, by decide⟩
              · exact ⟨3, rfl, by decide⟩
              · exact ⟨4, rfl, by decide⟩
              · exact ⟨6, rfl, by decide⟩
            obtain ⟨k, rfl, k6⟩ := hm'
            exact g [] B5 H (Ex.refl _) s ⟨k, rfl, by omega, k6⟩
          rintro k B5 H5 e5 s5 k6
          refine ⟨fun i σ' B' => ∃ (us : List V) (cs : List Cd) (lft : Nat) (o9 o10 : Option V), σ' = [some (.ref q.d), some (.ref a), some (.int (m : Int)), some (.int ((n + 1 : Nat) : Int)), some (.int 3), some (.int way), none, some (.ref f), some (.int (lft : Int)), o9, o10] ∧ Ex B3 B' ∧ Ls B' a (strV ks) ∧ Ls B' f us ∧ CsAt B' cs us ∧ Cd.Wfs ks n cs ∧ us.length = i ∧ cs.length = i ∧ Cd.nts cs + lft = m,
            ⟨[], [], m, none, none, rfl, e4.trans e5, e5 _ _ ha4, e5 _ _ hf, by unfold CsAt; rfl, by unfold Cd.Wfs; trivial, rfl, rfl, by rw [Cd.nts]; omega⟩, ?_, ?_⟩
          · rintro i σ' B' hi ⟨us, cs, lft, o9, o10, rfl, eB, ha', hf', hcs, hwf, hul, hcl, hnt⟩
            refine xb_asgS (x_tell (m := lft) (by wtm_at "ev") (by wtm_at "ev") (fun B6 e6 => x_minT (by wtm_at "ev") (fun _ _ => by wtm_at "ev") (fun _ _ => ev_var (v := .int (m : Int)) rfl) (by omega) (by omega)) (fun B6 e6 => hdeep _ _ rfl) (fun _ _ => by wtm_at "ev") ha' hn1 (by omega) hok) ?_
            rintro v B6 e6 ⟨c, h1, h2, h3⟩
            have hf6 : Ls B6 f us := e6 _ _ hf'
            have ha6 : Ls B6 a (strV ks) := e6 _ _ ha'
            refine xb_B (M1 := fun σ' B' => σ' = [some (.ref q.d), some (.ref a), some (.int (m : Int)), some (.int ((n + 1 : Nat) : Int)), some (.int 3), some (.int way), none, some (.ref f), some (.int (lft : Int)), some (.int (i : Int)), some v] ∧ Ex B3 B' ∧ Ls B' a (strV ks) ∧ Ls B' f (us ++ [v]) ∧ CsAt B' (cs ++ [c]) (us ++ [v]) ∧ CAt B' c v) (xb_app hf6 fc (by omega) (by wtm_at "ev") (x_ev (v := v) (by wtm_at "ev")) fun z B7 e7 hz => ?_) ?_
            · subst hz
              have hf7 : B7 f = some (.lst us) := e7 _ _ hf6
              refine ⟨rfl, Ex.mut (eB.trans (e6.trans e7)) hf0, ?_, upd_same, CsAt.snoc (((hcs.same (e6.trans e7)).off hf7)) ((h1.same e7).off hf7), (h1.same e7).off hf7⟩
              show (upd B7 f _) a = _
              rw [upd_ne af]
              exact e7 _ _ ha6
            · rintro σ' B7 ⟨rfl, eB7, ha7, hf7, hcs7, hc7⟩
              obtain ⟨ts, ht1, ht2⟩ := hc7.tests
              refine xb_asgV (v := .int ((lft - c.nt : Nat) : Int)) (ev_is (ev_int0 (i := (lft : Int)) (j := (c.nt : Int)) (by wtm_at "ev") (er_lenNot (el_er (er_call (by wtm_at "ev") fun H8 e8 => ⟨v, c, ks, ts, rfl, ht1.same e8, h2, by omega, rfl⟩)) (by rw [ht2])) rfl) (by congr 1; omega)) fun B8 e8 => ⟨us ++ [v], cs ++ [c], lft - c.nt, _, _, rfl, eB7.trans e8, e8 _ _ ha7, e8 _ _ hf7, hcs7.same e8, Wfs_snoc hwf h2, by rw [List.length_append, hul]; rfl, by rw [List.length_append, hcl]; rfl, by rw [nts_snoc]; omega⟩
          · rintro σ' B' H' s' ⟨us, cs, lft, o9, o10, rfl, eB, ha', hf', hcs, hwf, hul, hcl, hnt⟩
            refine xd_ret (x_tup (Pa := fun ws B' => ∃ x b, ws = [x, .ref b] ∧ (x = .str "and" ∨ x = .str "or") ∧ Tp B' b us ∧ CsAt B' cs us) (xa_cons (x_pickAO (by wtm_at "ev")) fun x B5 e5 hx => xa_cons (P1 := fun z B' => ∃ b, z = .ref b ∧ Tp B' b us) (x_imp (x_new (er_tupL (by wtm_at "ev") (e5 _ _ hf'))) fun z B' _ ⟨p, h1, _, _, h2⟩ => ⟨p, h1, h2⟩) fun y B6 e6 ⟨b, hy, hb⟩ => fun H s Q f => f [] B6 H (Ex.refl _) s ⟨x, b, by rw [hy], hx, hb, hcs.same (e5.trans e6)⟩) (fun ws B1 ⟨x, b, hw, _⟩ => by rw [hw]; simp)) s' ?_
            rintro z B6 H6 e6 s6 ⟨p, ws, B7, rfl, ⟨x, b, rfl, hx, hb7, hc7⟩, e7, _, hp⟩
            obtain ⟨c, h1, h2, h3⟩ := cat_ao (ks := ks) (n := n) hx hp (e7 _ _ hb7) (hc7.same e7) hwf (by omega)
            exact fin _ B6 H6 (eB.trans e6) s6 (hP _ c B6 h1 h2 (by omega))
end
end Ot
/-! Otherworths k13: worth, line, wish -/
namespace Ot
open PySem PySem.Spec PyProof.Rows L2 Evl
local macro_rules | `(tactic| wtm_at "dc") => `(tactic| first
  | ((with_reducible apply dd_f); decide +kernel)
  | ((with_reducible apply dd_t); decide +kernel)
  | ((with_reducible apply dn_f); decide +kernel)
  | ((with_reducible apply dn_t); decide +kernel)
  | (with_reducible exact dec_int_non)
  | (with_reducible exact dec_bl_non)
  | (with_reducible exact dec_ref_non)
  | (with_reducible exact dec_str_non)
  | (with_reducible exact dec_str_ne (by assumption))
  | (with_reducible exact dec_str_eq (by assumption))
  | (with_reducible exact ndec_str_ne (by assumption))
  | (with_reducible exact ndec_str_eq (by assumption))
  | (with_reducible exact dec_int_ne (by omega))
  | (with_reducible exact dec_int_eq (by omega))
  | (with_reducible exact ndec_int_ne (by omega))
  | (with_reducible exact ndec_int_eq (by omega)))
local macro_rules | `(tactic| wtm_at "ic") => `(tactic| first
  | ((with_reducible apply iv_f); decide +kernel)
  | ((with_reducible apply iv_t); decide +kernel)
  | ((with_reducible apply ivn_f); decide +kernel)
  | ((with_reducible apply ivn_t); decide +kernel))
local macro_rules | `(tactic| wtm_at "iv") => `(tactic| first
  | exact bl_true (by omega)
  | exact bl_false (by omega)
  | rfl)
local macro_rules | `(tactic| wtm_at "ln") => `(tactic| first
  | (with_reducible exact ln0) | (with_reducible exact ln1) | (with_reducible exact ln2) | (with_reducible exact ln3) | (with_reducible exact ln4) | rfl)
local macro_rules | `(tactic| wtm_at "nb") => `(tactic| first
  | (with_reducible exact nb_t)
  | (with_reducible exact nb_f))
local macro_rules | `(tactic| wtm_at "kt") => `(tactic| first
  | (with_reducible exact kit_tt) | (with_reducible exact kit_ss) | (with_reducible exact kit_ii) | (with_reducible exact kit_ib) | (with_reducible exact kit_ni) | (with_reducible exact kit_dd) | (with_reducible exact kit_ll))
local macro_rules | `(tactic| wtm_at "vt") => `(tactic| first
  | exact .str | exact .int | exact .non | exact .bl | exact .tup (by assumption) | exact .lst (by assumption) | exact .dK (by assumption))
local macro_rules | `(tactic| wtm_at "sv") => `(tactic| assumption)
local macro_rules | `(tactic| wtm_at "ct") => `(tactic| first
  | (with_reducible exact ct_f)
  | ((with_reducible apply ct_t); wtm_at "ev")
  | (with_reducible exact cf_t)
  | ((with_reducible apply cf_f); wtm_at "ev")
  | (with_reducible exact ctv_f)
  | ((with_reducible apply ctv_t); wtm_at "ev")
  | (with_reducible exact cfv_t)
  | ((with_reducible apply cfv_f); wtm_at "ev")
  | ((with_reducible apply ci_t); wtm_at "ev")
  | ((with_reducible apply ci_f); wtm_at "ev"))
local macro_rules | `(tactic| wtm_at "ev") => `(tactic| first
  | ((with_reducible apply ev_var); rfl)
  | (with_reducible exact ev_c)
  | (with_reducible exact ea_nil)
  | ((with_reducible apply ea_cons) <;> wtm_at "ev")
  | ((with_reducible apply ev_ixT); (wtm_at "ev"); (wtm_at "ev"); assumption; rfl)
  | ((with_reducible apply ev_dgetS); (wtm_at "ev"); (wtm_at "ev"); assumption; assumption)
  | ((with_reducible apply ev_lenT); (wtm_at "ev"); assumption; (wtm_at "ln"))
  | ((with_reducible apply ev_isi); (wtm_at "ev"); (wtm_at "vt"); (wtm_at "kt"))
  | ((with_reducible apply ev_eq); (wtm_at "ev"); (wtm_at "ev"); rfl; (wtm_at "dc"))
  | ((with_reducible apply ev_ne); (wtm_at "ev"); (wtm_at "ev"); rfl; (wtm_at "dc"))
  | ((with_reducible apply ev_isN); (wtm_at "ev"); (wtm_at "dc"))
  | ((with_reducible apply ev_notN); (wtm_at "ev"); (wtm_at "dc"))
  | ((with_reducible apply ev_int0); (wtm_at "ev"); (wtm_at "ev"); (wtm_at "iv"))
  | ((with_reducible apply ev_niN); (wtm_at "ev"); (wtm_at "ev"); rfl; rfl; (wtm_at "ic"))
  | ((with_reducible apply ev_inN); (wtm_at "ev"); (wtm_at "ev"); rfl; rfl; (wtm_at "ic"))
  | ((with_reducible apply eu_tup); (wtm_at "ev"); simp)
  | ((with_reducible apply el_lst); (wtm_at "ev"); simp)
  | ((with_reducible apply ev_callP); (wtm_at "ev"); (wtm_at "sv"))
  | ((with_reducible apply et_test); wtm_at "ev")
  | ((with_reducible apply et_B); wtm_at "ev")
  | ((with_reducible apply ev_andG); (wtm_at "ev"); (wtm_at "ct"))
  | ((with_reducible apply ev_orG); (wtm_at "ev"); (wtm_at "ct"))
  | ((with_reducible apply ev_notG); (wtm_at "ev"); (wtm_at "nb"))
  | ((with_reducible apply et_andG); (wtm_at "ev"); (wtm_at "ct"))
  | ((with_reducible apply et_orG); (wtm_at "ev"); (wtm_at "ct"))
  | ((with_reducible apply et_notG); (wtm_at "ev"); (wtm_at "nb"))
  | ((with_reducible apply ev_ifG); (wtm_at "ev"); (wtm_at "ct"))
  | assumption)
local macro_rules | `(tactic| wtm_at "re") => `(tactic| first
  | ((with_reducible apply re_ifG); (wtm_at "ev"); first | ((with_reducible apply ci_t); wtm_at "re") | ((with_reducible apply ci_f); wtm_at "re"))
  | ((with_reducible apply re_retV); wtm_at "ev")
  | ((with_reducible apply re_asgV); (wtm_at "ev"); (wtm_at "re"))
  | ((with_reducible apply re_par); (wtm_at "ev"); (wtm_at "re")))
local macro_rules | `(tactic| wtm_at "rs") => `(tactic| repeat ((with_reducible apply re_ifG); (wtm_at "ev"); first | (with_reducible apply ci_t) | (with_reducible apply ci_f)))


def rDictP (K : PySem.W.Frag) : List V → Hp → VK → Prop := fun xs H Q => ∃ (a : Addr) (ps : List Addr) (kvs : List (Key × V)), xs = [.ref a] ∧ SqL K H a (ps.map V.ref) ∧ Paired (fun p kv => SqT K H p [kV kv.1, kv.2]) ps kvs ∧
    ∀ p, H p = none → Q (.ref p) (upd H p (.dK (mergeK [] kvs)))
theorem cr_dictP {X : Cx} (hc : X.calm = true) : CallR X (.type "dict") (rDictP X.K) := call_dictP hc
def RWorthD : DRel := fun vs B P => ∃ f cs bs ls z, vs = [.ref f, .str z, .int 3] ∧ FrameAt B f cs bs ls ∧ ∀ (o : Option Int) B', (o = none → z ∈ ls) → P (wv o) B'
def RLine : DRel := fun vs B P => ∃ f cs bs ls, vs = [.ref f, .int 3] ∧ FrameAt B f cs bs ls ∧ cs.Nodup ∧ cs.length ≤ 900 ∧ ∀ t er B', RowAt B' t cs er → WoOk cs ls er → P (.ref t) B'
def RWish : DRel := fun vs B P => ∃ f cs bs ls, vs = [.ref f, .int 3] ∧ FrameAt B f cs bs ls ∧ NmOk bs ∧ ∀ d ea B', AskAt B' d bs ea → WoOk bs ls ea → P (.ref d) B'
theorem worths_of_list {ls : List Str} : ∀ {cs : List Str} {zs : List V}, cs.Nodup → zs.length = cs.length → (∀ (i : Nat) (w : Str) (y : V), cs[i]? = some w → zs[i]? = some y → ∃ o : Option Int, y = wv o ∧ (o = none → w ∈ ls)) → ∃ er : Wo, zs = cs.map (fun z => wv (er z)) ∧ WoOk cs ls er
  | [], [], _, _, _ => ⟨fun _ => none, rfl, fun z hz => by cases hz⟩
  | [], z :: zs, _, h, _ => by cases h
  | c :: cs, [], _, h, _ => by cases h
  | c :: cs, z :: zs, nd, hl, h => by
    obtain ⟨n1, n2⟩ := List.nodup_cons.mp nd
    obtain ⟨er, h1, h2⟩ := worths_of_list (cs := cs) (zs := zs) n2 (Nat.succ.inj hl) fun i w y a b => h (i + 1) w y a b
    obtain ⟨o, ho, ho2⟩ := h 0 c z rfl rfl
    have hne : ∀ w ∈ cs, w ≠ c := fun w hw e => n1 (e ▸ hw)
    refine ⟨fun w => if w = c then o else er w, ?_, fun w hw hn => ?_⟩
    · show z :: zs = wv (if c = c then o else er c) :: cs.map _
      rw [if_pos rfl, ho, h1]
      congr 1
      refine List.map_congr_left fun w hw => ?_
      show wv (er w) = wv (if w = c then o else er w)
      rw [if_neg (hne w hw)]
    · have hn : (if w = c then o else er w) = none := hn
      by_cases e : w = c
      · subst e
        exact ho2 (by rw [if_pos rfl] at hn; exact hn)
      · rw [if_neg e] at hn
        exact h2 w ((List.mem_cons.mp hw).resolve_left e) hn
theorem wish_of_list {K : PySem.W.Frag} {B : Hp} {ls : List Str} : ∀ {ys : List Str} {zs : List V}, ys.Nodup → zs.length = ys.length → (∀ (i : Nat) (w : Str) (y : V), ys[i]? = some w → zs[i]? = some y → ∃ (t : Addr) (o : Option Int), y = .ref t ∧ Tp B t [.str w, wv o] ∧ (o = none → w ∈ ls)) →
    ∃ (ts : List Addr) (ea : Wo), zs = ts.map V.ref ∧ Paired (fun p (kv : Key × V) => SqT K B p [kV kv.1, kv.2]) ts (wD ys ea) ∧ WoOk ys ls ea
  | [], [], _, _, _ => ⟨[], fun _ => none, rfl, .nil, fun z hz => by cases hz⟩
  | [], z :: zs, _, h, _ => by cases h
  | c :: cs, [], _, h, _ => by cases h
  | c :: cs, z :: zs, nd, hl, h => by
    obtain ⟨n1, n2⟩ := List.nodup_cons.mp nd
    obtain ⟨ts, er, h1, h2, h3⟩ := wish_of_list (K := K) (B := B) (ys := cs) (zs := zs) n2 (Nat.succ.inj hl) fun i w y a b => h (i + 1) w y a b
    obtain ⟨t, o, ho, ht, ho2⟩ := h 0 c z rfl rfl
    have hne : ∀ w ∈ cs, w ≠ c := fun w hw e => n1 (e ▸ hw)
    refine ⟨t :: ts, fun w => if w = c then o else er w, by rw [ho, h1]; rfl, ?_, fun w hw hn => ?_⟩
    · have e0 : wD (c :: cs) (fun w => if w = c then o else er w) = (Sum.inr c, wv o) :: wD cs er := by
        show (Sum.inr c, wv (if c = c then o else er c)) :: cs.map _ = _
        rw [if_pos rfl]
        congr 1
        refine List.map_congr_left fun w hw => ?_
        show (_, wv (if w = c then o else er w)) = _
        rw [if_neg (hne w hw)]
      rw [e0]
      exact .cons (st_of ht) h2
    · have hn : (if w = c then o else er w) = none := hn
      by_cases e : w = c
      · subst e
        exact ho2 (by rw [if_pos rfl] at hn; exact hn)
      · rw [if_neg e] at hn
        exact h3 w ((List.mem_cons.mp hw).resolve_left e) hn
section
variable {K : PySem.W.Frag} {q : Dw} {σ : L2.St} {H B : Hp} {te ta tb : TE} {P P1 : PV} {E : XK}
theorem x_mixedE {a : Addr} {ks : List Str} (hd : Ev ta σ B (.ref q.d)) (hl : Ev te σ B (.ref a)) (hx : Ls B a (strV ks)) (hk : ∀ z ∈ ks, PyData.strOk z = true) (hlen : ks.length ≤ 1000) : EvX q (tCall (DSp RMixed) [] E (tCons ta (tCons te tNil))) σ B (fun z B' => ∃ p ys, z = .ref p ∧ ys.Perm ks ∧ Ls B' p (strV ys)) :=
  x_callE (vs := [.ref a]) (ea_cons hd (ea_cons hl ea_nil)) fun B1 e1 => ⟨a, ks, rfl, e1 _ _ hx, hk, hlen, fun p ys B' h1 h2 => ⟨p, ys, rfl, h1, h2⟩⟩
theorem x_dictOf {A : List (Key × V) → Prop} (h : EvX q te σ B (fun z B' => ∃ p ts kvs, z = .ref p ∧ Ls B' p (ts.map V.ref) ∧ Paired (fun p (kv : Key × V) => SqT K B' p [kV kv.1, kv.2]) ts kvs ∧ (kvs.map (·.1)).Nodup ∧ A kvs)) : EvX q (tCB (rDictP K) (tCons te tNil)) σ B (fun z B' => ∃ d kvs, z = .ref d ∧ Dk B' d kvs ∧ A kvs) := fun H s Q f => h H s _ fun z B1 H1 e1 s1 ⟨p, ts, kvs, hz, hp, hpr, nd, ha⟩ => ⟨p, ts, kvs, by rw [hz], sq_of (s1.le _ _ hp), by
  refine hpr.mono fun a b h => ?_
  exact ex_t s1.le h, fun l hl => by
  obtain ⟨n1, n2, n3⟩ := s1.dr.ne hl
  have hb := s1.none hl
  rw [mergeK_nodup kvs [] nd, List.nil_append]
  exact f _ (upd B1 l (.dK kvs)) _ (e1.trans (Ex.new hb)) (s1.upd n1 n2 n3) ⟨l, kvs, rfl, upd_same, ha⟩⟩
theorem x_tupOf {A : Addr → List V → Hp → Prop} (h : EvX q te σ B (fun z B' => ∃ p xs, z = .ref p ∧ Ls B' p xs ∧ A p xs B')) : EvX q (tCB (rTupS K) (tCons te tNil)) σ B (fun z B' => ∃ t p xs B1, z = .ref t ∧ Tp B' t xs ∧ A p xs B1 ∧ Ex B1 B') := fun H s Q f => h H s _ fun z B1 H1 e1 s1 ⟨p, xs, hz, hp, ha⟩ => ⟨p, xs, by rw [hz], .inl ⟨sq_of (s1.le _ _ hp), fun l hl => by
  obtain ⟨n1, n2, n3⟩ := s1.dr.ne hl
  have hb := s1.none hl
  exact f _ (upd B1 l (.tup xs)) _ (e1.trans (Ex.new hb)) (s1.upd n1 n2 n3) ⟨l, p, xs, B1, rfl, upd_same, ha, Ex.new hb⟩⟩⟩
theorem x_wo {f : Addr} {z : Str} {cs bs ls : List Str} {t1 t2 t3 : TE} (hd : Ev ta σ B (.ref q.d)) (h1 : Ev t1 σ B (.ref f)) (h2 : Ev t2 σ B (.str z)) (h3 : Ev t3 σ B (.int 3)) (hf : FrameAt B f cs bs ls) : EvX q (tCall (DSp RWorthD) [] E (tCons ta (tCons t1 (tCons t2 (tCons t3 tNil))))) σ B (fun v _ => ∃ o : Option Int, v = wv o ∧ (o = none → z ∈ ls)) :=
  x_callE (vs := [.ref f, .str z, .int 3]) (ea_cons hd (ea_cons h1 (ea_cons h2 (ea_cons h3 ea_nil)))) fun B1 e1 => ⟨f, cs, bs, ls, z, rfl, hf.same e1, fun o B' ho => ⟨o, rfl, ho⟩⟩
end
section
variable {P : Program} {w : World} {K : PySem.W.Frag} {mg : Str → Option Value} {base : Heap}
def nm_law_worth : List Str := ["_law_draw", "_law_frame_here", "_law_word", "_law_span"]
theorem sc_law_worth : FnScope nm_law_worth ["_law_draw", "_law_frame_here", "_law_word", "_law_span"] (defScope s_law_worth) := C8.fnScope_by (by decide +kernel)
theorem ok_law_worth (T : Tx K mg) (C_law_take : C8.Cal P w K mg base 2 "_law_take" (DSp RTake) []) : C8.Cal P w K mg base 3 "_law_worth" (DSp RWorthD) [] := by
  refine T.pd 39 39 rfl rfl sc_law_worth (fun _ _ _ _ _ _ us hl => match us, hl with | [_, _, _, _], _ => rfl) (fun vs B Pv h => ?_) (fun cdv A outer s H q B vs Pv E hr h => ?_)
  · obtain ⟨_, _, _, _, _, rfl, _⟩ := h
    rfl
  · have nd := sc_law_worth.nd
    have hu := hu_of hr
    refine ⟨_, (pss_cons (ps_if (PW.pt (pw_and (pt_cmpR op_in_seq (pv 2) (pe_dget hu (pv 1) pe_str (fun _ _ => rfl)) (by rfl)) (pw_and1 (pt_cmpR op_eq (C8.pe_c C_law_take hr (by omega) (by rfl) (pa_cons (pv 0) (pa_cons pe_int pa_nil))) pe_int (nomark _)))))
      (pss_one (ps_ret pe_non))
      pss_nil)
      (pss_one (ps_ret (pe_op op_sub (C8.pe_c C_law_take hr (by omega) (by rfl) (pa_cons (pv 0) (pa_cons (pe_op op_add (pe_op op_mul pe_int (pv 3)) pe_int) pa_nil))) (pv 3))))), ?_⟩
    obtain ⟨f, cs, bs, ls, z, rfl, hf, hP⟩ := h
    obtain ⟨a, b, c, h0, h1, h2, h3⟩ := id hf
    refine xr_if (Pt := fun b _ => b = true → z ∈ ls) (xt_and (Pb1 := fun b _ => b = decide (z ∈ ls)) (xt_et (et_test (ev_inLs (by wtm_at "ev") (ev_dgetR (by wtm_at "ev") h0 rfl) h3 rfl (flat_str ls) (inV_dec z ls)))) (fun B1 e1 hb => xt_test (P := fun z _ => ∃ b, z = .bl b) (x_takeEq (n := 4) (k := 0) (by wtm_at "ev") (by wtm_at "ev") (by decide) (by decide) fun _ _ => by wtm_at "ev") fun z' B' ⟨b, hz⟩ => ⟨b, hz, fun _ => of_decide_eq_true hb.symm⟩) fun _ _ z => by cases z) ?_ ?_
    · intro B1 e1 hz
      exact xr_ret (x_imp (x_ev (v := .non) (by wtm_at "ev")) fun v B' _ hv => by
        subst hv
        exact hP none B' fun _ => hz rfl)
    · intro B1 e1 _
      exact xr_ret (x_imp (x_worth (by wtm_at "ev") (by wtm_at "ev") fun _ _ => by wtm_at "ev") fun v B' _ ⟨n, hv⟩ => by
        subst hv
        exact hP (some n) B' fun z => by cases z)
def nm_law_line : List Str := ["_law_draw", "_law_frame_here", "_law_span", "_law_word"]
theorem sc_law_line : FnScope nm_law_line ["_law_draw", "_law_frame_here", "_law_span"] (defScope s_law_line) := C8.fnScope_by (by decide +kernel)
theorem ok_law_line (T : Tx K mg) (C_law_worth : C8.Cal P w K mg base 3 "_law_worth" (DSp RWorthD) []) : C8.Cal P w K mg base 4 "_law_line" (DSp RLine) [] := by
  refine T.pd 40 40 rfl rfl sc_law_line (fun _ _ _ _ _ _ us hl => match us, hl with | [_, _, _], _ => rfl) (fun vs B Pv h => ?_) (fun cdv A outer s H q B vs Pv E hr h => ?_)
  · obtain ⟨_, _, _, _, rfl, _⟩ := h
    rfl
  · have nd := sc_law_line.nd
    have hu := hu_of hr
    refine ⟨_, (pss_one (ps_ret (pe_callTy cr_tupS (by rfl) T.f_tuple (by decide +kernel) (pa_cons (pe_lc (own := [("_law_word", 3)]) (g := (gName 3)) rfl nd (pi_list (pe_dget hu (pv 1) pe_str (fun _ _ => rfl))) (blkOk_by (own := [("_law_word", 3)]) (N := nm_law_line) (sc := defScope s_law_line) (by decide +kernel)) (fun _ _ _ _ _ => (pg_name (i := 3) nd rfl (Or.inl rfl))) (fun _ _ _ _ _ => pts_nil) (fun _ _ _ _ _ => (C8.pe_c C_law_worth hr (by omega) (by rfl) (pa_cons (pv 0) (pa_cons (pv 1) (pa_cons (pv 3) (pa_cons (pv 2) pa_nil))))))) pa_nil)))), ?_⟩
    obtain ⟨f, cs, bs, ls, rfl, hf, hnd, hl, hP⟩ := h
    obtain ⟨a, b, c, h0, h1, h2, h3⟩ := id hf
    refine xr_ret (x_imp (x_tupOf (A := fun p zs _ => zs.length = cs.length ∧ ∀ (i : Nat) (w : Str) (y : V), cs[i]? = some w → zs[i]? = some y → ∃ o : Option Int, y = wv o ∧ (o = none → w ∈ ls)) (x_imp (x_lc (Px := fun xs B' => xs = strV cs ∧ FrameAt B' f cs bs ls) (Pe := fun x y _ => ∀ w, x = .str w → ∃ o : Option Int, y = wv o ∧ (o = none → w ∈ ls)) (wx_listX (x_imp (x_ev (v := .ref a) (ev_dgetR (by wtm_at "ev") h0 rfl)) fun z B' e hz => ⟨a, _, hz, e _ _ h1, rfl, hf.same e⟩)) (fun xs B1 ⟨hx, _⟩ => by rw [hx, List.length_map]; omega) (fun _ => rfl) (fun xs B1 e1 ⟨hx, hf1⟩ i x hi B2 e2 => ?_) (fun _ _ _ _ _ h => h) (fun _ _ _ _ _ _ _ h => h)) fun z B' _ ⟨p, xs, B1, zs, hz, _, _, _, ⟨hx, _⟩, hp, hlen, hpe⟩ => ⟨p, zs, hz, hp, by rw [hlen, hx, List.length_map], fun i w y hw hy => hpe i (.str w) y (by rw [hx, List.getElem?_map, hw]; rfl) hy w rfl⟩)) ?_)
    · rw [hx] at hi
      obtain ⟨w, hw, rfl⟩ := strV_get hi
      refine x_imp (x_wo (z := w) (by wtm_at "ev") (by wtm_at "ev") (by wtm_at "ev") (by wtm_at "ev") (hf1.same e2)) fun v B' _ h w' hw' => ?_
      cases hw'
      exact h
    · rintro z B' _ ⟨t, p, zs, B1, rfl, ht, ⟨hlen, hpe⟩, _⟩
      obtain ⟨er, he1, he2⟩ := worths_of_list hnd hlen hpe
      refine hP t er B' ?_ he2
      show Tp B' t _
      rw [← he1]
      exact ht
def nm_law_wish : List Str := ["_law_draw", "_law_frame_here", "_law_span", "_law_word"]
theorem sc_law_wish : FnScope nm_law_wish ["_law_draw", "_law_frame_here", "_law_span"] (defScope s_law_wish) := C8.fnScope_by (by decide +kernel)
theorem ok_law_wish (T : Tx K mg) (C_law_worth : C8.Cal P w K mg base 3 "_law_worth" (DSp RWorthD) []) (C_law_mixed : C8.Cal P w K mg base 3 "_law_mixed" (DSp RMixed) []) : C8.Cal P w K mg base 4 "_law_wish" (DSp RWish) [] := by
  refine T.pd 41 41 rfl rfl sc_law_wish (fun _ _ _ _ _ _ us hl => match us, hl with | [_, _, _], _ => rfl) (fun vs B Pv h => ?_) (fun cdv A outer s H q B vs Pv E hr h => ?_)
  · obtain ⟨_, _, _, _, rfl, _⟩ := h
    rfl
  · have nd := sc_law_wish.nd
    have hu := hu_of hr
    refine ⟨_, (pss_one (ps_ret (pe_callTy (cr_dictP rfl) (by rfl) T.f_dict (by decide +kernel) (pa_cons (pe_lc (own := [("_law_word", 3)]) (g := (gName 3)) rfl nd (pi_list (C8.pe_c C_law_mixed hr (by omega) (by rfl) (pa_cons (pv 0) (pa_cons (pe_dget hu (pv 1) pe_str (fun _ _ => rfl)) pa_nil)))) (blkOk_by (own := [("_law_word", 3)]) (N := nm_law_wish) (sc := defScope s_law_wish) (by decide +kernel)) (fun _ _ _ _ _ => (pg_name (i := 3) nd rfl (Or.inl rfl))) (fun _ _ _ _ _ => pts_nil) (fun _ _ _ _ _ => (pe_tup (pa_cons (pv 3) (pa_cons (C8.pe_c C_law_worth hr (by omega) (by rfl) (pa_cons (pv 0) (pa_cons (pv 1) (pa_cons (pv 3) (pa_cons (pv 2) pa_nil))))) pa_nil))))) pa_nil)))), ?_⟩
    obtain ⟨f, cs, bs, ls, rfl, hf, hok, hP⟩ := h
    obtain ⟨a, b, c, h0, h1, h2, h3⟩ := id hf
    have hst : ∀ z ∈ bs, PyData.strOk z = true := fun z hz => (hok.2.1 z hz).str
    refine xr_ret (x_imp (x_dictOf (A := fun kvs => ∃ ys ea, ys.Perm bs ∧ kvs = wD ys ea ∧ WoOk ys ls ea) (x_imp (x_lc (Px := fun xs B' => (∃ ys : List Str, xs = strV ys ∧ ys.Perm bs) ∧ FrameAt B' f cs bs ls) (Pe := fun x y B' => ∀ w, x = .str w → ∃ (t : Addr) (o : Option Int), y = .ref t ∧ Tp B' t [.str w, wv o] ∧ (o = none → w ∈ ls))
      (wx_listX (x_imp (x_mixedE (a := b) (ks := bs) (by wtm_at "ev") (ev_dgetR (by wtm_at "ev") h0 rfl) h2 hst (by have := hok.2.2; omega)) fun z B' e ⟨p, ys, hz, hperm, hp⟩ => ⟨p, _, hz, hp, ⟨ys, rfl, hperm⟩, hf.same e⟩)) (fun xs B1 ⟨⟨ys, hx, hperm⟩, _⟩ => by rw [hx, List.length_map, hperm.length_eq]; have := hok.2.2; omega) (fun _ => rfl) (fun xs B1 e1 ⟨⟨ys, hx, hperm⟩, hf1⟩ i x hi B2 e2 => ?_)
      (fun x z B B' e h w hw => let ⟨t, o, h1, h2, h3⟩ := h w hw; ⟨t, o, h1, e _ _ h2, h3⟩) (fun x z B D l o hD h w hw => let ⟨t, o', h1, h2, h3⟩ := h w hw; ⟨t, o', h1, tp_off hD h2, h3⟩)) fun z B' _ ⟨p, xs, B1, zs, hz, _, _, _, ⟨⟨ys, hx, hperm⟩, _⟩, hp, hlen, hpe⟩ => ?_)) ?_)
    · rw [hx] at hi
      obtain ⟨w, hw, rfl⟩ := strV_get hi
      refine x_imp (x_tup (Pa := fun ws _ => ∃ o : Option Int, ws = [.str w, wv o] ∧ (o = none → w ∈ ls)) (xa_cons (x_ev (v := .str w) (by wtm_at "ev")) fun z B3 e3 hz => xa_cons (x_wo (z := w) (by wtm_at "ev") (by wtm_at "ev") (by wtm_at "ev") (by wtm_at "ev") (hf1.same (e2.trans e3))) fun v B4 e4 ⟨o, hv, ho⟩ => fun H s Q g => g [] B4 H (Ex.refl _) s ⟨o, by rw [hz, hv], ho⟩) (fun ws B1 ⟨o, hw, _⟩ => by rw [hw]; simp)) fun z B' _ ⟨p, ws, B3, hz, ⟨o, hws, ho⟩, _, _, hp⟩ w' hw' => ?_
      cases hw'
      exact ⟨p, o, hz, by rw [← hws]; exact hp, ho⟩
    · have ynd : ys.Nodup := hperm.nodup_iff.mpr hok.1
      obtain ⟨ts, ea, he1, he2, he3⟩ := wish_of_list (K := K) (B := B') (ls := ls) ynd (by rw [hlen, hx, List.length_map]) fun i w y hw hy => hpe i (.str w) y (by rw [hx, List.getElem?_map, hw]; rfl) hy w rfl
      exact ⟨p, ts, wD ys ea, hz, by rw [← he1]; exact hp, he2, by rw [wD_keys]; exact kS_nodup ynd, ys, ea, hperm, rfl, he3⟩
    · rintro z B' _ ⟨d, kvs, rfl, hd, ys, ea, hperm, rfl, ho⟩
      exact hP d ea B' ⟨_, hd, by rw [List.length_map, hperm.length_eq], fun z hz => wD_val (hperm.mem_iff.mpr hz)⟩ fun z hz => ho z (hperm.mem_iff.mpr hz)
end
end Ot
/-! Otherworths k13: known, does_fit, model, lines, book -/
namespace Ot
open PySem PySem.Spec PyProof.Rows L2 Evl
local macro_rules | `(tactic| wtm_at "dc") => `(tactic| first
  | ((with_reducible apply dd_f); decide +kernel)
  | ((with_reducible apply dd_t); decide +kernel)
  | ((with_reducible apply dn_f); decide +kernel)
  | ((with_reducible apply dn_t); decide +kernel)
  | (with_reducible exact dec_int_non)
  | (with_reducible exact dec_bl_non)
  | (with_reducible exact dec_ref_non)
  | (with_reducible exact dec_str_non)
  | (with_reducible exact dec_str_ne (by assumption))
  | (with_reducible exact dec_str_eq (by assumption))
  | (with_reducible exact ndec_str_ne (by assumption))
  | (with_reducible exact ndec_str_eq (by assumption))
  | (with_reducible exact dec_int_ne (by omega))
  | (with_reducible exact dec_int_eq (by omega))
  | (with_reducible exact ndec_int_ne (by omega))
  | (with_reducible exact ndec_int_eq (by omega)))
local macro_rules | `(tactic| wtm_at "ic") => `(tactic| first
  | ((with_reducible apply iv_f); decide +kernel)
  | ((with_reducible apply iv_t); decide +kernel)
  | ((with_reducible apply ivn_f); decide +kernel)
  | ((with_reducible apply ivn_t); decide +kernel))
local macro_rules | `(tactic| wtm_at "iv") => `(tactic| first
  | exact bl_true (by omega)
  | exact bl_false (by omega)
  | rfl)
local macro_rules | `(tactic| wtm_at "ln") => `(tactic| first
  | (with_reducible exact ln0) | (with_reducible exact ln1) | (with_reducible exact ln2) | (with_reducible exact ln3) | (with_reducible exact ln4) | rfl)
local macro_rules | `(tactic| wtm_at "nb") => `(tactic| first
  | (with_reducible exact nb_t)
  | (with_reducible exact nb_f))
local macro_rules | `(tactic| wtm_at "kt") => `(tactic| first
  | (with_reducible exact kit_tt) | (with_reducible exact kit_ss) | (with_reducible exact kit_ii) | (with_reducible exact kit_ib) | (with_reducible exact kit_ni) | (with_reducible exact kit_dd) | (with_reducible exact kit_ll))
local macro_rules | `(tactic| wtm_at "vt") => `(tactic| first
  | exact .str | exact .int | exact .non | exact .bl | exact .tup (by assumption) | exact .lst (by assumption) | exact .dK (by assumption))
local macro_rules | `(tactic| wtm_at "sv") => `(tactic| assumption)
local macro_rules | `(tactic| wtm_at "ct") => `(tactic| first
  | (with_reducible exact ct_f)
  | ((with_reducible apply ct_t); wtm_at "ev")
  | (with_reducible exact cf_t)
  | ((with_reducible apply cf_f); wtm_at "ev")
  | (with_reducible exact ctv_f)
  | ((with_reducible apply ctv_t); wtm_at "ev")
  | (with_reducible exact cfv_t)
  | ((with_reducible apply cfv_f); wtm_at "ev")
  | ((with_reducible apply ci_t); wtm_at "ev")
  | ((with_reducible apply ci_f); wtm_at "ev"))
local macro_rules | `(tactic| wtm_at "ev") => `(tactic| first
  | ((with_reducible apply ev_var); rfl)
  | (with_reducible exact ev_c)
  | (with_reducible exact ea_nil)
  | ((with_reducible apply ea_cons) <;> wtm_at "ev")
  | ((with_reducible apply ev_ixT); (wtm_at "ev"); (wtm_at "ev"); assumption; rfl)
  | ((with_reducible apply ev_dgetS); (wtm_at "ev"); (wtm_at "ev"); assumption; assumption)
  | ((with_reducible apply ev_lenT); (wtm_at "ev"); assumption; (wtm_at "ln"))
  | ((with_reducible apply ev_isi); (wtm_at "ev"); (wtm_at "vt"); (wtm_at "kt"))
  | ((with_reducible apply ev_eq); (wtm_at "ev"); (wtm_at "ev"); rfl; (wtm_at "dc"))
  | ((with_reducible apply ev_ne); (wtm_at "ev"); (wtm_at "ev"); rfl; (wtm_at "dc"))
  | ((with_reducible apply ev_isN); (wtm_at "ev"); (wtm_at "dc"))
  | ((with_reducible apply ev_notN); (wtm_at "ev"); (wtm_at "dc"))
  | ((with_reducible apply ev_int0); (wtm_at "ev"); (wtm_at "ev"); (wtm_at "iv"))
  | ((with_reducible apply ev_niN); (wtm_at "ev"); (wtm_at "ev"); rfl; rfl; (wtm_at "ic"))
  | ((with_reducible apply ev_inN); (wtm_at "ev"); (wtm_at "ev"); rfl; rfl; (wtm_at "ic"))
  | ((with_reducible apply eu_tup); (wtm_at "ev"); simp)
  | ((with_reducible apply el_lst); (wtm_at "ev"); simp)
  | ((with_reducible apply ev_callP); (wtm_at "ev"); (wtm_at "sv"))
  | ((with_reducible apply et_test); wtm_at "ev")
  | ((with_reducible apply et_B); wtm_at "ev")
  | ((with_reducible apply ev_andG); (wtm_at "ev"); (wtm_at "ct"))
  | ((with_reducible apply ev_orG); (wtm_at "ev"); (wtm_at "ct"))
  | ((with_reducible apply ev_notG); (wtm_at "ev"); (wtm_at "nb"))
  | ((with_reducible apply et_andG); (wtm_at "ev"); (wtm_at "ct"))
  | ((with_reducible apply et_orG); (wtm_at "ev"); (wtm_at "ct"))
  | ((with_reducible apply et_notG); (wtm_at "ev"); (wtm_at "nb"))
  | ((with_reducible apply ev_ifG); (wtm_at "ev"); (wtm_at "ct"))
  | assumption)
local macro_rules | `(tactic| wtm_at "re") => `(tactic| first
  | ((with_reducible apply re_ifG); (wtm_at "ev"); first | ((with_reducible apply ci_t); wtm_at "re") | ((with_reducible apply ci_f); wtm_at "re"))
  | ((with_reducible apply re_retV); wtm_at "ev")
  | ((with_reducible apply re_asgV); (wtm_at "ev"); (wtm_at "re"))
  | ((with_reducible apply re_par); (wtm_at "ev"); (wtm_at "re")))
local macro_rules | `(tactic| wtm_at "rs") => `(tactic| repeat ((with_reducible apply re_ifG); (wtm_at "ev"); first | (with_reducible apply ci_t) | (with_reducible apply ci_f)))


/-- a test that is never asked -/
theorem pt_never {X : Cx} {e : Expr} : PT X e (fun _ _ _ => False) := ⟨fun _ _ _ _ _ _ h => h.elim⟩
def RKnown : Rel := fun vs H r => ∃ f cs bs ls t er d, vs = [.ref f, .ref t, .ref d] ∧ FrameAt H f cs bs ls ∧ RowAt H t cs er ∧ cs.Nodup ∧ cs.length ≤ 900 ∧ Dk H d [] ∧ r = .sm fun _ _ => True
def RDoesFit : Rel := fun vs H r => ∃ f cs bs ls p t er, vs = [.ref f, .ref p, .ref t] ∧ FrameAt H f cs bs ls ∧ Ls H p [] ∧ RowAt H t cs er ∧ cs.Nodup ∧ cs.length ≤ 900 ∧ r = .val (.bl true)
def RModel : DRel := fun vs B P => ∃ f cs bs ls, vs = [.ref f, .int 0, .int 3] ∧ FrameAt B f cs bs ls ∧ ∀ d ks B', MdAt B' d ks → PartsOk ks → P (.ref d) B'
def RLines : DRel := fun vs B P => ∃ f m cs bs ls ks, vs = [.ref f, .ref m, .int 6, .int 3] ∧ FrameAt B f cs bs ls ∧ cs.Nodup ∧ cs.length ≤ 900 ∧ MdAt B m ks ∧ PartsOk ks ∧ ∀ d kt F B', kt.Perm ks → TabAt B' d cs ls kt F → P (.ref d) B'
def RBookOf (K : PySem.W.Frag) : Rel := fun vs H r => ∃ f m cs bs ls ks, vs = [.ref f, .ref m] ∧ FrameAt H f cs bs ls ∧ SidesOk cs bs ls ∧ MdAt H m ks ∧ PartsOk ks ∧ r = .fr fun p H' => ∃ s ls' ks', ls'.Perm ls ∧ ks'.Perm ks ∧ ShapeAt K H' s cs bs ls' ∧ BookAt K H' p s ks'
theorem re_asgS {te : TE} {tz : TS} {σ : L2.St} {H : Hp} {r : Res} {Pz : V → Hp → Prop} {i : Nat} (h : EvR te σ H (.sm Pz)) (k : ∀ z H1, Ex H H1 → Pz z H1 → RR tz (σ.set i (some z)) H1 r) : RR (tSeq (tAsg te (gName i)) tz) σ H r := fun D H1 e q => h H1 e _ fun z H2 e2 hz => k z H2 (e.trans e2) hz D H2 (Ex.refl _) fun z' H3 e3 hz' => q z' H3 (e2.trans e3) (Res.anti e2 hz')
theorem q_asgN {te : TE} {tz : TS} {σ : L2.St} {H : Hp} {o : HO} {i : Nat} {D : Ends} (h : EvR te σ H (.new o)) (k : ∀ p H1, H p = none → Ex H H1 → H1 p = some o → tz D (σ.set i (some (.ref p))) H1) : tSeq (tAsg te (gName i)) tz D σ H := h H (Ex.refl H) _ fun z H2 e2 ⟨p, hz, h1, h2⟩ => by
  subst hz
  exact k p H2 h1 e2 h2
theorem er_dnew {σ : L2.St} {H : Hp} : EvR tDNewK σ H (.new (.dK [])) := fun H1 e Q q => fun p hp => q _ _ (Ex.new hp) ⟨p, rfl, hp, upd_same⟩
theorem eap_xyn {t1 t2 t3 : TE} {σ : L2.St} {H : Hp} {x y : V} {o : HO} (h1 : Ev t1 σ H x) (h2 : Ev t2 σ H y) (h : EvR t3 σ H (.new o)) : EvAP (tCons t1 (tCons t2 (tCons t3 tNil))) σ H (fun ws H' => ∃ p, ws = [x, y, .ref p] ∧ H' p = some o) := fun H1 e Q q => h1 H1 e _ fun H2 e2 => h2 H2 (e.trans e2) _ fun H3 e3 =>
  h H3 (e.trans (e2.trans e3)) _ fun z H4 e4 ⟨p, hz, _, h4⟩ => q _ H4 (e2.trans (e3.trans e4)) ⟨p, by rw [hz], h4⟩
theorem ev_eqLL {K : PySem.W.Frag} {ta tb : TE} {σ : L2.St} {H : Hp} (ha : EvL ta σ H []) (hb : EvL tb σ H []) : Ev (tOp (rEqD K) ta tb) σ H (.bl true) := ev_opLL ha hb fun p q H1 h1 h2 _ => rv_val fun H2 e2 Q k => ⟨.list [], .list [], .lst (sq_of (e2 _ _ h1)) .nil, .lst (sq_of (e2 _ _ h2)) .nil, rfl, rfl, k⟩
theorem ev_col {f a b c : Addr} {σ : L2.St} {H : Hp} {ta : TE} (ha : Ev ta σ H (.ref f)) (h : Dk H f [(Sum.inr "columns", .ref a), (Sum.inr "open", .ref b), (Sum.inr "gone", .ref c)]) : Ev (tDGet ta (tC (.str "columns"))) σ H (.ref a) := ev_dgetR ha h rfl
/-- a walk over an empty dict that is locked -/
theorem d_forE {d : Addr} {i j : Nat} {t tz : TS} {σ : L2.St} {H : Hp} {D : Ends} (hs : σ[i]? = some (some (.ref d))) (hd : Dk H d []) (k : ∀ H1, Ex H H1 → tz D σ H1) : tSeq (tLock (tFor (iKeys (tVar i)) (gName j) t)) tz D σ H := by
  refine ⟨d, .dK [], hd, True.intro, fun od => ⟨.ref d, hs, d, od, rfl, .inl ⟨[], upd_same, fun i m σ' H' => i = 0 ∧ σ' = σ ∧ H' = upd H d (.frz od (.dK [])), ⟨0, rfl, rfl, rfl⟩, ?_⟩⟩⟩
  rintro i m σ' H' ⟨rfl, rfl, rfl⟩
  exact .inl ⟨⟨upd_same, Nat.le_refl _⟩, upd_same, k _ (ex_unlock hd (Ex.refl _))⟩
section
variable {P : Program} {w : World} {K : PySem.W.Frag} {mg : Str → Option Value} {base : Heap}
def nm_law_known : List Str := ["_law_frame_here", "_law_line_here", "_law_wish_here", "_law_found", "_law_word"]
theorem sc_law_known : FnScope nm_law_known ["_law_frame_here", "_law_line_here", "_law_wish_here"] (defScope s_law_known) := C8.fnScope_by (by decide +kernel)
theorem ok_law_known (T : Tx K mg) : C8.Cal P w K mg base 1 "_law_known" (PSp RKnown) [] := by
  refine T.pf 42 42 rfl rfl sc_law_known (fun _ _ _ _ _ _ us hl => match us, hl with | [_, _, _], _ => rfl) (fun vs H r h => ?_) (fun cdv A outer s H vs r E hr h => ?_)
  · obtain ⟨_, _, _, _, _, _, _, rfl, _⟩ := h
    rfl
  · have nd := sc_law_known.nd
    have hu := hu_of hr
    refine ⟨_, (pss_cons (ps_set (i := 3) nd rfl (Or.inl rfl) (pe_dictZip (by rfl) T.f_dict (by rfl) T.f_zip (pe_dget hu (pv 0) pe_str (fun _ _ => rfl)) (pv 1)))
      (pss_cons (ps_dput hu (pv 3) pe_str pe_int rfl)
      (pss_cons (ps_lock (ps_for PassesOwn.never rfl (pi_keys (pv 2)) (pg_name (i := 4) nd rfl (Or.inl rfl))
      (pss_one (ps_dput hu (pv 3) (pv 4) (pe_dget hu (pv 2) (pv 4) (fun _ _ => rfl)) rfl))))
      (pss_one (ps_ret (pv 3)))))), ?_⟩
    obtain ⟨f, cs, bs, ls, t, er, d, rfl, ⟨a, b, c, h0, h1, h2, h3⟩, ht, hnd, hl, hd, rfl⟩ := h
    intro D H1 e1 fin
    refine q_asgN (EvR.mono e1 (er_dictZip (ks := cs) (ev_col (by wtm_at "ev") h0) (by wtm_at "ev") (.inr h1) ht (by rw [List.length_map]))) fun p H2 hp0 e2 hp => ?_
    have hd2 := e2 _ _ (e1 _ _ hd)
    have dp : d ≠ p := fun z => by
      rw [← z, e1 _ _ hd] at hp0
      cases hp0
    have hz : mergeK [] ((kS cs).zip (cs.map fun z => wv (er z))) = wD cs er := by rw [kS_zip, mergeK_nodup _ _ (by rw [List.nil_append, wD_keys]; exact kS_nodup hnd), List.nil_append]
    rw [hz] at hp
    refine ⟨.ref p, rfl, p, _, rfl, DPut.k (k := Sum.inr "") hp (sz_lt (by rw [List.length_map]; omega)), ?_⟩
    refine d_forE (d := d) rfl (by show (upd H2 p _) d = _; rw [upd_ne dp]; exact hd2) fun H3 e3 => ⟨.ref p, rfl, fin _ H3 ((Ex.mut e2 hp0).trans e3) trivial⟩
def nm_law_does_fit : List Str := ["_law_frame_here", "_law_promises", "_law_line_here", "_law_known_here", "_law_told_here"]
theorem sc_law_does_fit : FnScope nm_law_does_fit ["_law_frame_here", "_law_promises", "_law_line_here"] (defScope s_law_does_fit) := C8.fnScope_by (by decide +kernel)
theorem ok_law_does_fit (T : Tx K mg) (C_law_known : C8.Cal P w K mg base 1 "_law_known" (PSp RKnown) []) : C8.Cal P w K mg base 2 "_law_does_fit" (PSp RDoesFit) [] := by
  refine T.pf 43 43 rfl rfl sc_law_does_fit (fun _ _ _ _ _ _ us hl => match us, hl with | [_, _, _], _ => rfl) (fun vs H r h => ?_) (fun cdv A outer s H vs r E hr h => ?_)
  · obtain ⟨_, _, _, _, _, _, _, rfl, _⟩ := h
    rfl
  · have nd := sc_law_does_fit.nd
    have hu64 := hr.units
    refine ⟨_, (pss_cons (ps_set (i := 3) nd rfl (Or.inr rfl) (C8.pe_c C_law_known hr (by omega) (by rfl) (pa_cons (pv 0) (pa_cons (pv 2) (pa_cons pe_dnewK pa_nil)))))
      (pss_one (ps_ret (pe_cmpR (op_eqD hu64) (pe_lc (own := [("_law_told_here", 4)]) (g := (gName 4)) rfl nd (pi_list (pv 1)) (blkOk_by (own := [("_law_told_here", 4)]) (N := nm_law_does_fit) (sc := defScope s_law_does_fit) (by decide +kernel)) (fun _ _ _ _ _ => (pg_name (i := 4) nd rfl (Or.inl rfl))) (fun _ _ _ _ _ => (pts_one pt_never)) (fun _ _ _ _ _ => (pv 4))) (pe_lst pa_nil) (nomark _))))), ?_⟩
    obtain ⟨f, cs, bs, ls, p, t, er, rfl, hf, hp, ht, hnd, hl, rfl⟩ := h
    refine re_asgS (Pz := fun _ _ => True) (er_callA (eap_xyn (by wtm_at "ev") (by wtm_at "ev") er_dnew) ?_) fun z H1 e1 _ => ?_
    · rintro ws H1 e1 ⟨d, rfl, hd⟩
      exact ⟨f, cs, bs, ls, t, er, d, rfl, hf.same e1, e1 _ _ ht, hnd, hl, hd, rfl⟩
    · have hp1 := e1 _ _ hp
      exact re_retV (ev_eqLL (el_lcIf (bs := []) (ys := []) (ei_list (by wtm_at "ev") hp1) (by simp) rfl rfl (fun _ => rfl) (fun i x b hx => by cases hx) fun i x y hx => by cases hx) (el_lst ea_nil (by simp)))
def nm_law_book : List Str := ["_law_frame_here", "_law_model_here"]
theorem sc_law_book : FnScope nm_law_book ["_law_frame_here", "_law_model_here"] (defScope s_law_book) := C8.fnScope_by (by decide +kernel)
theorem ok_law_book (T : Tx K mg) (C_law_shape : C8.Cal P w K mg base 6 "_law_shape" (PSp (RShapeOf K)) []) (K_Book : C8.Mak P w K mg base 11 "Book" (He.ga K "Book") (SpBook K) []) : C8.Cal P w K mg base 13 "_law_book" (PSp (RBookOf K)) [] := by
  refine T.pf 46 46 rfl rfl sc_law_book (fun _ _ _ _ _ _ us hl => match us, hl with | [_, _], _ => rfl) (fun vs H r h => ?_) (fun cdv A outer s H vs r E hr h => ?_)
  · obtain ⟨_, _, _, _, _, _, rfl, _⟩ := h
    rfl
  · have nd := sc_law_book.nd
    refine ⟨_, (pss_one (ps_ret (C8.pe_mk K_Book hr (by omega) (by rfl) (pa_cons (C8.pe_c C_law_shape hr (by omega) (by rfl) (pa_cons (pv 0) pa_nil)) (pa_cons (pv 1) pa_nil))))), ?_⟩
    obtain ⟨f, m, cs, bs, ls, ks, rfl, hf, o, hm, po, rfl⟩ := h
    have hs : EvR (tCall (PSp (RShapeOf K)) [] C8.E0 (tCons (tVar 0) tNil)) (start nm_law_book [.ref f, .ref m]) H (.fr fun p H' => ∃ ls' : List Str, ls'.Perm ls ∧ ShapeAt K H' p cs bs ls') := er_call (by wtm_at "ev") fun H1 e => ⟨f, cs, bs, ls, rfl, hf.same e, o, rfl⟩
    refine re_ret fun H1 e1 Q fin => hs H1 e1 _ fun z H2 e2 ⟨s', hz, hs0, ls', hp, hsh⟩ => ⟨.ref m, rfl, fun x dx hx hdx hne => ?_⟩
    subst hz
    have ex : Ex H2 (upd (upd H2 dx (.own x)) x (.ins (He.ga K "Book") dx [])) := Ex.mut (Ex.new hdx) hx
    have e3 := (e1.trans e2).trans ex
    have sx : s' ≠ x := fun z => by
      obtain ⟨_, _, _, _, h, _⟩ := hsh
      rw [z, hx] at h
      cases h
    refine ⟨x, dx, s', m, cs, bs, ls', ks, rfl, upd_same, sx, hsh.same ex, hm.same e3, po, fun H' hk ⟨ks', hp2, hb⟩ => ⟨rfl, fin _ H' (e2.trans ?_) ⟨x, rfl, fresh_back e2 hx, s', ls', ks', hp, hp2, ?_, hb⟩⟩⟩
    · intro u v hu
      have hux : u ≠ x := fun z => by
        rw [z, hx] at hu
        cases hu
      exact hk u v hux (ex _ _ hu)
    · refine hsh.same fun u v hu => ?_
      have hux : u ≠ x := fun z => by
        rw [z, hx] at hu
        cases hu
      exact hk u v hux (ex _ _ hu)
end
end Ot
/-! Otherworths k13: model, lines -/
namespace Ot
open PySem PySem.Spec PyProof.Rows L2 Evl
local macro_rules | `(tactic| wtm_at "dc") => `(tactic| first
  | ((with_reducible apply dd_f); decide +kernel)
  | ((with_reducible apply dd_t); decide +kernel)
  | ((with_reducible apply dn_f); decide +kernel)
  | ((with_reducible apply dn_t); decide +kernel)
  | (with_reducible exact dec_int_non)
  | (with_reducible exact dec_bl_non)
  | (with_reducible exact dec_ref_non)
  | (with_reducible exact dec_str_non)
  | (with_reducible exact dec_str_ne (by assumption))
  | (with_reducible exact dec_str_eq (by assumption))
  | (with_reducible exact ndec_str_ne (by assumption))
  | (with_reducible exact ndec_str_eq (by assumption))
  | (with_reducible exact dec_int_ne (by omega))
  | (with_reducible exact dec_int_eq (by omega))
  | (with_reducible exact ndec_int_ne (by omega))
  | (with_reducible exact ndec_int_eq (by omega)))
local macro_rules | `(tactic| wtm_at "ic") => `(tactic| first
  | ((with_reducible apply iv_f); decide +kernel)
  | ((with_reducible apply iv_t); decide +kernel)
  | ((with_reducible apply ivn_f); decide +kernel)
  | ((with_reducible apply ivn_t); decide +kernel))
local macro_rules | `(tactic| wtm_at "iv") => `(tactic| first
  | exact bl_true (by omega)
  | exact bl_false (by omega)
  | rfl)
local macro_rules | `(tactic| wtm_at "ln") => `(tactic| first
  | (with_reducible exact ln0) | (with_reducible exact ln1) | (with_reducible exact ln2) | (with_reducible exact ln3) | (with_reducible exact ln4) | rfl)
local macro_rules | `(tactic| wtm_at "nb") => `(tactic| first
  | (with_reducible exact nb_t)
  | (with_reducible exact nb_f))
local macro_rules | `(tactic| wtm_at "kt") => `(tactic| first
  | (with_reducible exact kit_tt) | (with_reducible exact kit_ss) | (with_reducible exact kit_ii) | (with_reducible exact kit_ib) | (with_reducible exact kit_ni) | (with_reducible exact kit_dd) | (with_reducible exact kit_ll))
local macro_rules | `(tactic| wtm_at "vt") => `(tactic| first
  | exact .str | exact .int | exact .non | exact .bl | exact .tup (by assumption) | exact .lst (by assumption) | exact .dK (by assumption))
local macro_rules | `(tactic| wtm_at "sv") => `(tactic| assumption)
local macro_rules | `(tactic| wtm_at "ct") => `(tactic| first
  | (with_reducible exact ct_f)
  | ((with_reducible apply ct_t); wtm_at "ev")
  | (with_reducible exact cf_t)
  | ((with_reducible apply cf_f); wtm_at "ev")
  | (with_reducible exact ctv_f)
  | ((with_reducible apply ctv_t); wtm_at "ev")
  | (with_reducible exact cfv_t)
  | ((with_reducible apply cfv_f); wtm_at "ev")
  | ((with_reducible apply ci_t); wtm_at "ev")
  | ((with_reducible apply ci_f); wtm_at "ev"))
local macro_rules | `(tactic| wtm_at "ev") => `(tactic| first
  | ((with_reducible apply ev_var); rfl)
  | (with_reducible exact ev_c)
  | (with_reducible exact ea_nil)
  | ((with_reducible apply ea_cons) <;> wtm_at "ev")
  | ((with_reducible apply ev_ixT); (wtm_at "ev"); (wtm_at "ev"); assumption; rfl)
  | ((with_reducible apply ev_dgetS); (wtm_at "ev"); (wtm_at "ev"); assumption; assumption)
  | ((with_reducible apply ev_lenT); (wtm_at "ev"); assumption; (wtm_at "ln"))
  | ((with_reducible apply ev_isi); (wtm_at "ev"); (wtm_at "vt"); (wtm_at "kt"))
  | ((with_reducible apply ev_eq); (wtm_at "ev"); (wtm_at "ev"); rfl; (wtm_at "dc"))
  | ((with_reducible apply ev_ne); (wtm_at "ev"); (wtm_at "ev"); rfl; (wtm_at "dc"))
  | ((with_reducible apply ev_isN); (wtm_at "ev"); (wtm_at "dc"))
  | ((with_reducible apply ev_notN); (wtm_at "ev"); (wtm_at "dc"))
  | ((with_reducible apply ev_int0); (wtm_at "ev"); (wtm_at "ev"); (wtm_at "iv"))
  | ((with_reducible apply ev_niN); (wtm_at "ev"); (wtm_at "ev"); rfl; rfl; (wtm_at "ic"))
  | ((with_reducible apply ev_inN); (wtm_at "ev"); (wtm_at "ev"); rfl; rfl; (wtm_at "ic"))
  | ((with_reducible apply eu_tup); (wtm_at "ev"); simp)
  | ((with_reducible apply el_lst); (wtm_at "ev"); simp)
  | ((with_reducible apply ev_callP); (wtm_at "ev"); (wtm_at "sv"))
  | ((with_reducible apply et_test); wtm_at "ev")
  | ((with_reducible apply et_B); wtm_at "ev")
  | ((with_reducible apply ev_andG); (wtm_at "ev"); (wtm_at "ct"))
  | ((with_reducible apply ev_orG); (wtm_at "ev"); (wtm_at "ct"))
  | ((with_reducible apply ev_notG); (wtm_at "ev"); (wtm_at "nb"))
  | ((with_reducible apply et_andG); (wtm_at "ev"); (wtm_at "ct"))
  | ((with_reducible apply et_orG); (wtm_at "ev"); (wtm_at "ct"))
  | ((with_reducible apply et_notG); (wtm_at "ev"); (wtm_at "nb"))
  | ((with_reducible apply ev_ifG); (wtm_at "ev"); (wtm_at "ct"))
  | assumption)
local macro_rules | `(tactic| wtm_at "re") => `(tactic| first
  | ((with_reducible apply re_ifG); (wtm_at "ev"); first | ((with_reducible apply ci_t); wtm_at "re") | ((with_reducible apply ci_f); wtm_at "re"))
  | ((with_reducible apply re_retV); wtm_at "ev")
  | ((with_reducible apply re_asgV); (wtm_at "ev"); (wtm_at "re"))
  | ((with_reducible apply re_par); (wtm_at "ev"); (wtm_at "re")))
local macro_rules | `(tactic| wtm_at "rs") => `(tactic| repeat ((with_reducible apply re_ifG); (wtm_at "ev"); first | (with_reducible apply ci_t) | (with_reducible apply ci_f)))


section
variable {K : PySem.W.Frag} {q : Dw} {σ : L2.St} {B : Hp} {td ty tv : TE} {P1 : PV} {M : L2.St → Hp → Prop} {m : Addr} {kvs : List (Key × V)} {w : Str}
theorem xb_dput (hm : Dk B m kvs) (hl : kvs.length ≤ 1000) (hv : EvX q tv σ B P1) (h1 : ∀ B1, Ex B B1 → Ev td σ B1 (.ref m)) (h2 : ∀ B1, Ex B B1 → Ev ty σ B1 (.str w)) (k : ∀ z B1 B2, Ex B B1 → P1 z B1 → Ex B1 B2 → M σ (upd B2 m (.dK (putK kvs (Sum.inr w : Key) z)))) : XB q (sDPut td ty tv) σ B M := fun D H s f =>
  hv H s _ fun z B1 H1 e1 s1 p1 => h1 B1 e1 H1 s1.le _ fun H2 e2 => h2 B1 e1 H2 (s1.le.trans e2) _ fun H3 e3 => by
    have s3 := (s1.step (e2.trans e3)).1
    have e4 := (s1.step (e2.trans e3)).2
    have hm3 : Dk (hid q H3) m kvs := e4 _ _ (e1 _ _ hm)
    obtain ⟨n1, n2⟩ := s3.ne hm3
    have n3 : m ≠ q.c := fun z => by
      obtain ⟨_, _, _, _, _, _, _, hc⟩ := s3.dr
      have hc : H3 q.c = _ := hc
      have hm4 : H3 m = _ := s3.le _ _ hm3
      rw [z, hc] at hm4
      cases hm4
    exact ⟨m, _, rfl, DPut.k (k := Sum.inr w) (s3.le _ _ hm3) (sz_lt (by omega)), f σ _ _ (s3.upd n1 n2 n3) (k z B1 _ e1 p1 e4)⟩
theorem xb_seqF {t tz : TS} {M1 : L2.St → Hp → Prop} (h : XB q t σ B M1) (k : ∀ σ' B', M1 σ' B' → XB q tz σ' B' M) : XB q (tSeq t tz) σ B M := xb_B h k
end
theorem upd_dl {B : Hp} {m a : Addr} {kvs : List (Key × V)} {o : HO} {xs : List V} (hm : B m = some (.dK kvs)) (hx : Ls B a xs) : Ls (upd B m o) a xs := ls_upd hx hm
theorem upd_dt {B : Hp} {m a : Addr} {kvs : List (Key × V)} {o : HO} {xs : List V} (hm : B m = some (.dK kvs)) (hx : Tp B a xs) : Tp (upd B m o) a xs := by
  have n : a ≠ m := fun z => by
    have hx : B a = _ := hx
    rw [z, hm] at hx
    cases hx
  show (upd B m o) a = _
  rw [upd_ne n]
  exact hx
theorem RowsAt.updD {B : Hp} {m a : Addr} {kvs : List (Key × V)} {o : HO} {cs ls : List Str} {ers : List Wo} (hm : B m = some (.dK kvs)) (h : RowsAt B a cs ls ers) : RowsAt (upd B m o) a cs ls ers :=
  let ⟨ts, h1, h2, h3, h4⟩ := h; ⟨ts, upd_dl hm h1, h2, h3, fun i t er a b => let ⟨x, y⟩ := h4 i t er a b; ⟨upd_dt hm x, y⟩⟩
theorem putK_app {ks : List Str} {kvs : List (Key × V)} {i : Nat} {w : Str} {v : V} (nd : ks.Nodup) (hw : ks[i]? = some w) (hk : kvs.map (·.1) = kS (ks.take i)) : putK kvs (Sum.inr w : Key) v = kvs ++ [((Sum.inr w : Key), v)] :=
  putK_new v (valV_new (ks := kS ks) (i := i) (kS_nodup nd) (by rw [List.getElem?_map, hw]; rfl) (by rw [hk]; exact List.map_take ..))
theorem keys_app {ks : List Str} {kvs : List (Key × V)} {i : Nat} {w : Str} {v : V} (hw : ks[i]? = some w) (hk : kvs.map (·.1) = kS (ks.take i)) : (kvs ++ [((Sum.inr w : Key), v)]).map (·.1) = kS (ks.take (i + 1)) := by
  rw [List.map_append, hk, List.take_add_one, hw]
  show _ = List.map _ (_ ++ [w])
  rw [List.map_append]
  rfl
section
variable {P : Program} {w : World} {K : PySem.W.Frag} {mg : Str → Option Value} {base : Heap}
def nm_law_model : List Str := ["_law_draw", "_law_frame_here", "_law_most", "_law_span", "_law_found", "_law_word", "_law_k"]
theorem sc_law_model : FnScope nm_law_model ["_law_draw", "_law_frame_here", "_law_most", "_law_span"] (defScope s_law_model) := C8.fnScope_by (by decide +kernel)
theorem ok_law_model (T : Tx K mg) (C_law_take : C8.Cal P w K mg base 2 "_law_take" (DSp RTake) []) (C_law_pick : C8.Cal P w K mg base 3 "_law_pick" (DSp RPick) []) (C_law_words : C8.Cal P w K mg base 4 "_law_words" (DSp RWords) []) (C_law_told : C8.Cal P w K mg base 5 "_law_told" (DSp (RTold2 0)) []) : C8.Cal P w K mg base 6 "_law_model" (DSp RModel) [] := by
  refine T.pd 44 44 rfl rfl sc_law_model (fun _ _ _ _ _ _ us hl => match us, hl with | [_, _, _, _], _ => rfl) (fun vs B Pv h => ?_) (fun cdv A outer s H q B vs Pv E hr h => ?_)
  · obtain ⟨_, _, _, _, rfl, _⟩ := h
    rfl
  · have nd := sc_law_model.nd
    have hu := hu_of hr
    refine ⟨_, (pss_cons (ps_set (i := 4) nd rfl (Or.inl rfl) pe_dnewK)
      (pss_cons (ps_for PassesOwn.never rfl (pi_list (C8.pe_c C_law_words hr (by omega) (by rfl) (pa_cons (pv 0) (pa_cons (C8.pe_c C_law_pick hr (by omega) (by rfl) (pa_cons (pv 0) (pa_cons (pe_lst (pa_cons pe_int (pa_cons pe_int (pa_cons pe_int (pa_cons pe_int (pa_cons pe_int pa_nil)))))) pa_nil))) pa_nil)))) (pg_name (i := 5) nd rfl (Or.inl rfl))
      (pss_cons (ps_dput hu (pv 4) (pv 5) (pe_lst pa_nil) rfl)
      (pss_one (ps_for PassesOwn.never rfl (pi_range1 (by rfl) T.f_range (pa_cons (C8.pe_c C_law_take hr (by omega) (by rfl) (pa_cons (pv 0) (pa_cons (pe_op op_add (pv 2) pe_int) pa_nil))) pa_nil)) (pg_name (i := 6) nd rfl (Or.inl rfl))
      (pss_one (ps_expr (pe_bm PySem.F.plainAttrs_list PySem.F.slot_list_append PySem.F.type_list_append mt_append (pe_dget hu (pv 4) (pv 5) (fun _ _ => rfl)) (pa_cons (C8.pe_c C_law_told hr (by omega) (by rfl) (pa_cons (pv 0) (pa_cons (pe_dget hu (pv 1) pe_str (fun _ _ => rfl)) (pa_cons pe_int (pa_cons pe_int (pa_cons (pv 3) pa_nil)))))) pa_nil))))))))
      (pss_one (ps_ret (pv 4))))), ?_⟩
    obtain ⟨f, cs, bs, ls, rfl, hf, hP⟩ := h
    intro D H s0 fin
    refine xd_asg (x_new er_dnew) s0 ?_
    rintro z B1 H1 e1 s1 ⟨m, rfl, hm0, _, hm1⟩
    refine xdq_forL (Px := fun _ xs _ => ∃ ks : List Str, xs = strV ks ∧ PartsOk ks) (x_imp (x_words (A := fun n => 1 ≤ n ∧ n ≤ 4) (by wtm_at "ev") (fun B2 e2 => x_imp (x_pickL (xs := [.int 1, .int 1, .int 2, .int 3, .int 4]) (by wtm_at "ev") (el_lst (by wtm_at "ev") (by simp)) (by simp) (by simp)) fun z B' _ hz => ?_) fun n hn => by omega) fun z B' _ ⟨p, ks, hz, ⟨h1, h4⟩, hnd, hok, hp⟩ => ⟨p, _, hz, hp, ks, rfl, hnd, hok, h1, h4⟩) s1 ?_
    · simp only [List.mem_cons, List.not_mem_nil, or_false] at hz
      rcases hz with rfl | rfl | rfl | rfl | rfl
      · exact ⟨1, rfl, by decide, by decide⟩
      · exact ⟨1, rfl, by decide, by decide⟩
      · exact ⟨2, rfl, by decide, by decide⟩
      · exact ⟨3, rfl, by decide, by decide⟩
      · exact ⟨4, rfl, by decide, by decide⟩
    rintro p xs B2 H2 e2 s2 hp ⟨ks, rfl, po⟩
    have hm2 := e2 _ _ hm1
    have pl := po.l4
    refine ⟨fun i σ' B' => ∃ kvs o5 o6, σ' = [some (.ref q.d), some (.ref f), some (.int 0), some (.int 3), some (.ref m), o5, o6] ∧ Ex B B' ∧ Dk B' m kvs ∧ kvs.map (·.1) = kS (ks.take i) ∧ (∀ (j : Nat) (k : Key) (v : V), kvs[j]? = some (k, v) → ∃ b, v = .ref b ∧ Ls B' b []) ∧ Ls B' p (strV ks),
      ⟨[], none, none, rfl, e1.trans e2, hm2, by rw [List.take_zero]; rfl, (fun j k v h => by cases h), hp⟩, fun i σ' B' ⟨_, _, _, _, _, _, _, _, h⟩ => h, ?_, ?_⟩
    · rintro i x σ' B' hx ⟨kvs, o5, o6, rfl, eB, hm', hk', hv', hp'⟩
      obtain ⟨w', hw', rfl⟩ := strV_get hx
      have kl : kvs.length ≤ 4 := by
        have h := congrArg List.length hk'
        rw [List.length_map, List.length_map, List.length_take] at h
        omega
      refine xb_seqF (M1 := fun σ' B' => ∃ kvs o6, σ' = [some (.ref q.d), some (.ref f), some (.int 0), some (.int 3), some (.ref m), some (.str w'), o6] ∧ Ex B B' ∧ Dk B' m kvs ∧ kvs.map (·.1) = kS (ks.take (i + 1)) ∧ (∀ (j : Nat) (k : Key) (v : V), kvs[j]? = some (k, v) → ∃ b, v = .ref b ∧ Ls B' b []) ∧ Ls B' p (strV ks)) (xb_dput (w := w') hm' (by omega) (x_el (el_lst ea_nil (by simp))) (fun _ _ => by wtm_at "ev") (fun _ _ => by wtm_at "ev") ?_) ?_
      · rintro z B3 B4 e3 ⟨l, rfl, hl⟩ e4
        have hm4 : B4 m = some (.dK kvs) := e4 _ _ (e3 _ _ hm')
        refine ⟨kvs ++ [((Sum.inr w' : Key), .ref l)], o6, rfl, Ex.mut (eB.trans (e3.trans e4)) hm0, by rw [putK_app po.nd hw' hk']; exact upd_same, keys_app hw' hk', fun j k v hj => ?_, upd_dl hm4 (e4 _ _ (e3 _ _ hp'))⟩
        by_cases hj2 : j < kvs.length
        · rw [List.getElem?_append_left hj2] at hj
          obtain ⟨b, hb, hb2⟩ := hv' j k v hj
          exact ⟨b, hb, upd_dl hm4 (e4 _ _ (e3 _ _ hb2))⟩
        · rw [List.getElem?_append_right (by omega)] at hj
          have h0 : j - kvs.length = 0 := by
            obtain ⟨h, _⟩ := List.getElem?_eq_some_iff.mp hj
            simp at h
            omega
          rw [h0] at hj
          have hj : ((Sum.inr w' : Key), V.ref l) = (k, v) := Option.some.inj hj
          cases hj
          exact ⟨l, rfl, upd_dl hm4 (e4 _ _ hl)⟩
      · rintro σ' B3 ⟨kvs, o6, rfl, h⟩
        intro D' H' s' fin'
        refine xd_forR (A := fun n _ => n = 0) (xa_cons (P1 := fun z _ => z = V.int 0) (x_imp (x_takeE (n := 1) (by wtm_at "ev") (ev_is (ev_add (i := 0) (j := 1) (by wtm_at "ev") (by wtm_at "ev")) rfl) (by decide) (by decide)) fun z B' _ hz => by
          obtain ⟨i, hz, i0, i1⟩ := hz
          have h0 : i = 0 := by omega
          rw [hz, h0]) fun z B4 e4 hz => xa_of (vs := []) ea_nil fun B' _ => ⟨0, by rw [hz]; rfl, by decide, rfl⟩) s' ?_
        rintro n B4 H4 e4 s4 rfl
        refine ⟨fun _ σ' B' => ∃ kvs o6, σ' = [some (.ref q.d), some (.ref f), some (.int 0), some (.int 3), some (.ref m), some (.str w'), o6] ∧ Ex B B' ∧ Dk B' m kvs ∧ kvs.map (·.1) = kS (ks.take (i + 1)) ∧ (∀ (j : Nat) (k : Key) (v : V), kvs[j]? = some (k, v) → ∃ b, v = .ref b ∧ Ls B' b []) ∧ Ls B' p (strV ks), ?_, fun i σ' B' hi => by omega, ?_⟩
        · obtain ⟨g1, g2, g3, g4, g5⟩ := h
          exact ⟨kvs, o6, rfl, g1.trans e4, e4 _ _ g2, g3, fun j k v hj => let ⟨b, x, y⟩ := g4 j k v hj; ⟨b, x, e4 _ _ y⟩, e4 _ _ g5⟩
        · rintro σ' B' H' s' ⟨kvs, o6, rfl, g⟩
          exact fin' _ B' H' s' ⟨kvs, _, o6, rfl, g⟩
    · rintro σ' B' H' s' ⟨kvs, o5, o6, rfl, eB, hm', hk', hv', hp'⟩
      have hlen : (strV ks).length = ks.length := List.length_map ..
      rw [hlen, List.take_length] at hk'
      refine ⟨.ref m, rfl, fin _ B' H' eB s' (hP m ks B' ⟨kvs, hm', hk', by rw [List.length_map, List.length_replicate], fun i k v o hi ho => ?_⟩ po)⟩
      rw [List.eq_of_mem_replicate (List.mem_of_getElem? ho)]
      exact hv' i k v hi
end
end Ot
/-! Otherworths k13: lines -/
namespace Ot
open PySem PySem.Spec PyProof.Rows L2 Evl
local macro_rules | `(tactic| wtm_at "dc") => `(tactic| first
  | ((with_reducible apply dd_f); decide +kernel)
  | ((with_reducible apply dd_t); decide +kernel)
  | ((with_reducible apply dn_f); decide +kernel)
  | ((with_reducible apply dn_t); decide +kernel)
  | (with_reducible exact dec_int_non)
  | (with_reducible exact dec_bl_non)
  | (with_reducible exact dec_ref_non)
  | (with_reducible exact dec_str_non)
  | (with_reducible exact dec_str_ne (by assumption))
  | (with_reducible exact dec_str_eq (by assumption))
  | (with_reducible exact ndec_str_ne (by assumption))
  | (with_reducible exact ndec_str_eq (by assumption))
  | (with_reducible exact dec_int_ne (by omega))
  | (with_reducible exact dec_int_eq (by omega))
  | (with_reducible exact ndec_int_ne (by omega))
  | (with_reducible exact ndec_int_eq (by omega)))
local macro_rules | `(tactic| wtm_at "ic") => `(tactic| first
  | ((with_reducible apply iv_f); decide +kernel)
  | ((with_reducible apply iv_t); decide +kernel)
  | ((with_reducible apply ivn_f); decide +kernel)
  | ((with_reducible apply ivn_t); decide +kernel))
local macro_rules | `(tactic| wtm_at "iv") => `(tactic| first
  | exact bl_true (by omega)
  | exact bl_false (by omega)
  | rfl)
local macro_rules | `(tactic| wtm_at "ln") => `(tactic| first
  | (with_reducible exact ln0) | (with_reducible exact ln1) | (with_reducible exact ln2) | (with_reducible exact ln3) | (with_reducible exact ln4) | rfl)
local macro_rules | `(tactic| wtm_at "nb") => `(tactic| first
  | (with_reducible exact nb_t)
  | (with_reducible exact nb_f))
local macro_rules | `(tactic| wtm_at "kt") => `(tactic| first
  | (with_reducible exact kit_tt) | (with_reducible exact kit_ss) | (with_reducible exact kit_ii) | (with_reducible exact kit_ib) | (with_reducible exact kit_ni) | (with_reducible exact kit_dd) | (with_reducible exact kit_ll))
local macro_rules | `(tactic| wtm_at "vt") => `(tactic| first
  | exact .str | exact .int | exact .non | exact .bl | exact .tup (by assumption) | exact .lst (by assumption) | exact .dK (by assumption))
local macro_rules | `(tactic| wtm_at "sv") => `(tactic| assumption)
local macro_rules | `(tactic| wtm_at "ct") => `(tactic| first
  | (with_reducible exact ct_f)
  | ((with_reducible apply ct_t); wtm_at "ev")
  | (with_reducible exact cf_t)
  | ((with_reducible apply cf_f); wtm_at "ev")
  | (with_reducible exact ctv_f)
  | ((with_reducible apply ctv_t); wtm_at "ev")
  | (with_reducible exact cfv_t)
  | ((with_reducible apply cfv_f); wtm_at "ev")
  | ((with_reducible apply ci_t); wtm_at "ev")
  | ((with_reducible apply ci_f); wtm_at "ev"))
local macro_rules | `(tactic| wtm_at "ev") => `(tactic| first
  | ((with_reducible apply ev_var); rfl)
  | (with_reducible exact ev_c)
  | (with_reducible exact ea_nil)
  | ((with_reducible apply ea_cons) <;> wtm_at "ev")
  | ((with_reducible apply ev_ixT); (wtm_at "ev"); (wtm_at "ev"); assumption; rfl)
  | ((with_reducible apply ev_dgetS); (wtm_at "ev"); (wtm_at "ev"); assumption; assumption)
  | ((with_reducible apply ev_lenT); (wtm_at "ev"); assumption; (wtm_at "ln"))
  | ((with_reducible apply ev_isi); (wtm_at "ev"); (wtm_at "vt"); (wtm_at "kt"))
  | ((with_reducible apply ev_eq); (wtm_at "ev"); (wtm_at "ev"); rfl; (wtm_at "dc"))
  | ((with_reducible apply ev_ne); (wtm_at "ev"); (wtm_at "ev"); rfl; (wtm_at "dc"))
  | ((with_reducible apply ev_isN); (wtm_at "ev"); (wtm_at "dc"))
  | ((with_reducible apply ev_notN); (wtm_at "ev"); (wtm_at "dc"))
  | ((with_reducible apply ev_int0); (wtm_at "ev"); (wtm_at "ev"); (wtm_at "iv"))
  | ((with_reducible apply ev_niN); (wtm_at "ev"); (wtm_at "ev"); rfl; rfl; (wtm_at "ic"))
  | ((with_reducible apply ev_inN); (wtm_at "ev"); (wtm_at "ev"); rfl; rfl; (wtm_at "ic"))
  | ((with_reducible apply eu_tup); (wtm_at "ev"); simp)
  | ((with_reducible apply el_lst); (wtm_at "ev"); simp)
  | ((with_reducible apply ev_callP); (wtm_at "ev"); (wtm_at "sv"))
  | ((with_reducible apply et_test); wtm_at "ev")
  | ((with_reducible apply et_B); wtm_at "ev")
  | ((with_reducible apply ev_andG); (wtm_at "ev"); (wtm_at "ct"))
  | ((with_reducible apply ev_orG); (wtm_at "ev"); (wtm_at "ct"))
  | ((with_reducible apply ev_notG); (wtm_at "ev"); (wtm_at "nb"))
  | ((with_reducible apply et_andG); (wtm_at "ev"); (wtm_at "ct"))
  | ((with_reducible apply et_orG); (wtm_at "ev"); (wtm_at "ct"))
  | ((with_reducible apply et_notG); (wtm_at "ev"); (wtm_at "nb"))
  | ((with_reducible apply ev_ifG); (wtm_at "ev"); (wtm_at "ct"))
  | assumption)
local macro_rules | `(tactic| wtm_at "re") => `(tactic| first
  | ((with_reducible apply re_ifG); (wtm_at "ev"); first | ((with_reducible apply ci_t); wtm_at "re") | ((with_reducible apply ci_f); wtm_at "re"))
  | ((with_reducible apply re_retV); wtm_at "ev")
  | ((with_reducible apply re_asgV); (wtm_at "ev"); (wtm_at "re"))
  | ((with_reducible apply re_par); (wtm_at "ev"); (wtm_at "re")))
local macro_rules | `(tactic| wtm_at "rs") => `(tactic| repeat ((with_reducible apply re_ifG); (wtm_at "ev"); first | (with_reducible apply ci_t) | (with_reducible apply ci_f)))


theorem rows_of_list {B : Hp} {cs ls : List Str} : ∀ {zs : List V}, (∀ z ∈ zs, ∃ t er, z = .ref t ∧ RowAt B t cs er ∧ WoOk cs ls er) → ∃ (ts : List Addr) (ers : List Wo), zs = ts.map V.ref ∧ ts.length = ers.length ∧ ∀ (i : Nat) (t : Addr) (er : Wo), ts[i]? = some t → ers[i]? = some er → RowAt B t cs er ∧ WoOk cs ls er
  | [], _ => ⟨[], [], rfl, rfl, fun i t er h => by cases h⟩
  | z :: zs, h => by
    obtain ⟨t, er, rfl, h1, h2⟩ := h z List.mem_cons_self
    obtain ⟨ts, ers, rfl, hl, hk⟩ := rows_of_list (zs := zs) fun y hy => h y (List.mem_cons_of_mem _ hy)
    refine ⟨t :: ts, er :: ers, rfl, congrArg Nat.succ hl, fun i t' er' a b => ?_⟩
    cases i with
    | zero =>
      cases a
      cases b
      exact ⟨h1, h2⟩
    | succ i => exact hk i t' er' a b
section
variable {P : Program} {w : World} {K : PySem.W.Frag} {mg : Str → Option Value} {base : Heap}
def nm_law_lines : List Str := ["_law_draw", "_law_frame_here", "_law_model_here", "_law_many", "_law_span", "_law_found", "_law_word", "_law_some", "_law_k", "_law_line_here"]
theorem sc_law_lines : FnScope nm_law_lines ["_law_draw", "_law_frame_here", "_law_model_here", "_law_many", "_law_span"] (defScope s_law_lines) := C8.fnScope_by (by decide +kernel)
theorem ok_law_lines (T : Tx K mg) (C_law_take : C8.Cal P w K mg base 2 "_law_take" (DSp RTake) []) (C_law_mixed : C8.Cal P w K mg base 3 "_law_mixed" (DSp RMixed) []) (C_law_line : C8.Cal P w K mg base 4 "_law_line" (DSp RLine) []) (C_law_does_fit : C8.Cal P w K mg base 2 "_law_does_fit" (PSp RDoesFit) []) : C8.Cal P w K mg base 5 "_law_lines" (DSp RLines) [] := by
  refine T.pd 45 45 rfl rfl sc_law_lines (fun _ _ _ _ _ _ us hl => match us, hl with | [_, _, _, _, _], _ => rfl) (fun vs B Pv h => ?_) (fun cdv A outer s H q B vs Pv E hr h => ?_)
  · obtain ⟨_, _, _, _, _, _, rfl, _⟩ := h
    rfl
  · have nd := sc_law_lines.nd
    have hu := hu_of hr
    refine ⟨_, (pss_cons (ps_set (i := 5) nd rfl (Or.inl rfl) pe_dnewK)
      (pss_cons (ps_for PassesOwn.never rfl (pi_list (C8.pe_c C_law_mixed hr (by omega) (by rfl) (pa_cons (pv 0) (pa_cons (pe_callTy (cr_listK rfl) (by rfl) T.f_list (by decide +kernel) (pa_cons (pv 2) pa_nil)) pa_nil)))) (pg_name (i := 6) nd rfl (Or.inr rfl))
      (pss_cons (ps_setLc (i := 7) (own := [("_law_k", 8)]) (g := (gName 8)) rfl nd rfl rfl (sw_true rfl rfl rfl (by decide +kernel)) (pi_range1 (by rfl) T.f_range (pa_cons (C8.pe_c C_law_take hr (by omega) (by rfl) (pa_cons (pv 0) (pa_cons (pe_op op_add (pv 3) pe_int) pa_nil))) pa_nil)) (blkOk_by (own := [("_law_k", 8)]) (N := nm_law_lines) (sc := defScope s_law_lines) (by decide +kernel)) (fun _ _ _ _ _ => (pg_name (i := 8) nd rfl (Or.inl rfl))) (fun _ _ _ _ _ => pts_nil) (fun _ _ _ _ _ => (C8.pe_c C_law_line hr (by omega) (by rfl) (pa_cons (pv 0) (pa_cons (pv 1) (pa_cons (pv 4) pa_nil))))))
      (pss_one (ps_dput hu (pv 5) (pv 6) (pe_lc (own := [("_law_line_here", 9)]) (g := (gName 9)) rfl nd (pi_list (pv 7)) (blkOk_by (own := [("_law_line_here", 9)]) (N := nm_law_lines) (sc := defScope s_law_lines) (by decide +kernel)) (fun _ _ _ _ _ => (pg_name (i := 9) nd rfl (Or.inl rfl))) (fun _ _ _ _ _ => (pts_one (pt_val (C8.pe_c C_law_does_fit hr (by omega) (by rfl) (pa_cons (pv 1) (pa_cons (pe_dget hu (pv 2) (pv 6) (fun _ _ => rfl)) (pa_cons (pv 9) pa_nil))))))) (fun _ _ _ _ _ => (pv 9))) rfl))))
      (pss_one (ps_ret (pv 5))))), ?_⟩
    obtain ⟨f, m, cs, bs, ls, ks, rfl, hf, hnd, hl, hm, po, hP⟩ := h
    obtain ⟨mkv, g1, g2, g3, g4⟩ := hm.get po.nd
    have mkeys : (mkv.map fun kv => kV kv.1) = strV ks := by
      have h := congrArg (List.map kV) g3
      rw [List.map_map, List.map_map] at h
      exact h
    have pl := po.l4
    intro D H s0 fin
    refine xd_asg (x_new er_dnew) s0 ?_
    rintro z B1 H1 e1 s1 ⟨d, rfl, hd0, _, hd1⟩
    refine xdq_forL (Px := fun _ xs _ => ∃ kt : List Str, xs = strV kt ∧ kt.Perm ks) (x_imp (x_mixed (ks := ks) (by wtm_at "ev") (by rw [← mkeys]; exact el_listK (by wtm_at "ev") (e1 _ _ g1)) (fun z hz => (po.nm z hz).str) (by omega)) fun z B' _ ⟨p, kt, hz, hperm, hp⟩ => ⟨p, _, hz, hp, kt, rfl, hperm⟩) s1 ?_
    rintro p xs B2 H2 e2 s2 hp ⟨kt, rfl, hperm⟩
    have hd2 := e2 _ _ hd1
    have knd : kt.Nodup := hperm.nodup_iff.mpr po.nd
    have klen := hperm.length_eq
    refine ⟨fun i σ' B' => ∃ kvs F o6 o7 o8, σ' = [some (.ref q.d), some (.ref f), some (.ref m), some (.int 6), some (.int 3), some (.ref d), o6, o7, o8, none] ∧ Ex B B' ∧ Dk B' d kvs ∧ kvs.map (·.1) = kS (kt.take i) ∧ (∀ z ∈ kt.take i, ∃ a, valV kvs (Sum.inr z : Key) = some (.ref a) ∧ RowsAt B' a cs ls (F z)) ∧ Ls B' p (strV kt),
      ⟨[], fun _ => [], none, none, none, rfl, e1.trans e2, hd2, by rw [List.take_zero]; rfl, (fun z hz => by rw [List.take_zero] at hz; cases hz), hp⟩, fun i σ' B' ⟨_, _, _, _, _, _, _, _, _, _, h⟩ => h, ?_, ?_⟩
    · rintro i x σ' B' hx ⟨kvs, F, o6, o7, o8, rfl, eB, hd', hk', hv', hp'⟩
      obtain ⟨w', hw', rfl⟩ := strV_get hx
      have hwk : w' ∈ ks := hperm.mem_iff.mp (List.mem_of_getElem? hw')
      have hf' := hf.same eB
      refine xb_asgS (P1 := fun z B' => ∃ r zs, z = .ref r ∧ Ls B' r zs ∧ zs.length ≤ 6 ∧ ∀ y ∈ zs, ∃ t er, y = .ref t ∧ RowAt B' t cs er ∧ WoOk cs ls er) (x_imp (x_lc (Px := fun xs _ => ∃ n : Nat, xs = nums n ∧ n ≤ 6) (Pe := fun _ z B' => ∃ t er, z = .ref t ∧ RowAt B' t cs er ∧ WoOk cs ls er) (wx_rangeX (A := fun n _ => n ≤ 6) (xa_cons (P1 := fun z _ => ∃ n : Nat, z = .int (n : Int) ∧ n ≤ 6) (x_imp (x_takeE (n := 7) (by wtm_at "ev") (ev_is (ev_add (i := 6) (j := 1) (by wtm_at "ev") (by wtm_at "ev")) rfl) (by decide) (by decide)) fun z B' _ ⟨i, hz, i0, i7⟩ => ⟨i.toNat, by rw [hz]; congr 1; omega, by omega⟩) fun z B3 e3 ⟨n, hz, hn⟩ => xa_of (vs := []) ea_nil fun B' _ => ⟨n, by rw [hz], by omega, hn⟩)) (fun xs B1 ⟨n, hx, hn⟩ => by rw [hx, List.length_map, List.length_range]; omega) (fun _ => rfl)
        (fun xs B3 e3 hx i x hi B4 e4 => x_callE (vs := [.ref f, .int 3]) (by wtm_at "ev") fun B5 e5 => ⟨f, cs, bs, ls, rfl, hf'.same (e3.trans (e4.trans e5)), hnd, hl, fun t er B' h1 h2 => ⟨t, er, rfl, h1, h2⟩⟩) (fun x z B B' e ⟨t, er, h1, h2, h3⟩ => ⟨t, er, h1, e _ _ h2, h3⟩) (fun x z B D l o hD ⟨t, er, h1, h2, h3⟩ => ⟨t, er, h1, tp_off hD h2, h3⟩)) fun z B' _ ⟨r, xs, B3, zs, hz, _, _, _, ⟨n, hx, hn⟩, hp, hlen, hpe⟩ => ?_) ?_
      · refine ⟨r, zs, hz, hp, by rw [hlen, hx, List.length_map, List.length_range]; exact hn, fun y hy => ?_⟩
        obtain ⟨j, hj⟩ := List.mem_iff_getElem?.mp hy
        have hlt := (List.getElem?_eq_some_iff.mp hj).1
        exact hpe j _ y (List.getElem?_eq_getElem (by omega)) hj
      rintro z B3 e3 ⟨r, zs, rfl, hr', hz6, hrow⟩
      obtain ⟨mb, hmb, hmb2⟩ := g4 w' hwk
      have eB3 := eB.trans e3
      have kl : kvs.length ≤ 4 := by
        have h := congrArg List.length hk'
        rw [List.length_map, List.length_map, List.length_take] at h
        omega
      refine xb_dput (w := w') (P1 := fun z B' => ∃ l, z = .ref l ∧ Ls B' l zs) (e3 _ _ hd') (by omega) (x_el ?_) (fun _ _ => by wtm_at "ev") (fun _ _ => by wtm_at "ev") ?_
      · have hk : kept (List.replicate zs.length true) zs = zs := kept_all zs
        conv => arg 4; rw [← hk]
        refine el_lcIf (ei_list (by wtm_at "ev") hr') (by omega) rfl (by rw [List.length_replicate]) (fun _ => rfl) (fun j y b hy hb => ?_) fun j y y' hy hy' _ => ?_
        · have hb : b = true := by
            obtain ⟨h1, h2⟩ := List.getElem?_eq_some_iff.mp hb
            rw [List.getElem_replicate] at h2
            exact h2.symm
          subst hb
          obtain ⟨t, er, rfl, h1, h2⟩ := hrow y (List.mem_of_getElem? hy)
          exact et_test (ev_callP (ea_cons (by wtm_at "ev") (ea_cons (ev_dgetS (by wtm_at "ev") (by wtm_at "ev") (eB3 _ _ g1) hmb) (by wtm_at "ev"))) fun H4 e4 => ⟨f, cs, bs, ls, mb, t, er, rfl, hf.same (eB3.trans e4), e4 _ _ (eB3 _ _ hmb2), e4 _ _ h1, hnd, hl, rfl⟩)
        · rw [hy] at hy'
          cases hy'
          exact ev_var rfl
      · rintro z B4 B5 e4 ⟨l, rfl, hl4⟩ e5
        have hd5 : B5 d = some (.dK kvs) := e5 _ _ (e4 _ _ (e3 _ _ hd'))
        obtain ⟨ts, ers, hzs, htl, hte⟩ := rows_of_list hrow
        have e35 := e4.trans e5
        have rows : RowsAt B5 l cs ls ers := ⟨ts, by rw [← hzs]; exact e5 _ _ hl4, htl, by have h := congrArg List.length hzs; rw [List.length_map] at h; omega, fun j t er a b => let ⟨x, y⟩ := hte j t er a b; ⟨e35 _ _ x, y⟩⟩
        refine ⟨kvs ++ [((Sum.inr w' : Key), .ref l)], fun z => if z = w' then ers else F z, _, _, _, rfl, Ex.mut (eB3.trans e35) hd0, by rw [putK_app knd hw' hk']; exact upd_same, keys_app hw' hk', fun z hz => ?_, upd_dl hd5 (e35 _ _ (e3 _ _ hp'))⟩
        rw [← putK_app knd hw' hk', valV_put]
        by_cases hzw : z = w'
        · subst hzw
          rw [if_pos rfl]
          have e0 : (fun z_1 => if z_1 = z then ers else F z_1) z = ers := if_pos rfl
          rw [e0]
          exact ⟨l, rfl, rows.updD hd5⟩
        · rw [if_neg (fun h => hzw (Sum.inr.inj h))]
          have e0 : (fun z_1 => if z_1 = w' then ers else F z_1) z = F z := if_neg hzw
          rw [e0]
          rw [List.take_add_one, hw'] at hz
          have hz : z ∈ kt.take i := by
            rcases List.mem_append.mp hz with h | h
            · exact h
            · exact absurd (List.mem_singleton.mp h) hzw
          obtain ⟨a, h1, h2⟩ := hv' z hz
          exact ⟨a, h1, (h2.same (e3.trans e35)).updD hd5⟩
    · rintro σ' B' H' s' ⟨kvs, F, o6, o7, o8, rfl, eB, hd', hk', hv', hp'⟩
      have hlen : (strV kt).length = kt.length := List.length_map ..
      rw [hlen, List.take_length] at hk' hv'
      exact ⟨.ref d, rfl, fin _ B' H' eB s' (hP d kt F B' hperm ⟨kvs, hd', hk', hv'⟩)⟩
end
end Ot
/-! Otherworths k13: ranks, truths -/
namespace Ot
open PySem PySem.Spec PyProof.Rows L2 Evl
local macro_rules | `(tactic| wtm_at "dc") => `(tactic| first
  | ((with_reducible apply dd_f); decide +kernel)
  | ((with_reducible apply dd_t); decide +kernel)
  | ((with_reducible apply dn_f); decide +kernel)
  | ((with_reducible apply dn_t); decide +kernel)
  | (with_reducible exact dec_int_non)
  | (with_reducible exact dec_bl_non)
  | (with_reducible exact dec_ref_non)
  | (with_reducible exact dec_str_non)
  | (with_reducible exact dec_str_ne (by assumption))
  | (with_reducible exact dec_str_eq (by assumption))
  | (with_reducible exact ndec_str_ne (by assumption))
  | (with_reducible exact ndec_str_eq (by assumption))
  | (with_reducible exact dec_int_ne (by omega))
  | (with_reducible exact dec_int_eq (by omega))
  | (with_reducible exact ndec_int_ne (by omega))
  | (with_reducible exact ndec_int_eq (by omega)))
local macro_rules | `(tactic| wtm_at "ic") => `(tactic| first
  | ((with_reducible apply iv_f); decide +kernel)
  | ((with_reducible apply iv_t); decide +kernel)
  | ((with_reducible apply ivn_f); decide +kernel)
  | ((with_reducible apply ivn_t); decide +kernel))
local macro_rules | `(tactic| wtm_at "iv") => `(tactic| first
  | exact bl_true (by omega)
  | exact bl_false (by omega)
  | rfl)
local macro_rules | `(tactic| wtm_at "ln") => `(tactic| first
  | (with_reducible exact ln0) | (with_reducible exact ln1) | (with_reducible exact ln2) | (with_reducible exact ln3) | (with_reducible exact ln4) | rfl)
local macro_rules | `(tactic| wtm_at "nb") => `(tactic| first
  | (with_reducible exact nb_t)
  | (with_reducible exact nb_f))
local macro_rules | `(tactic| wtm_at "kt") => `(tactic| first
  | (with_reducible exact kit_tt) | (with_reducible exact kit_ss) | (with_reducible exact kit_ii) | (with_reducible exact kit_ib) | (with_reducible exact kit_ni) | (with_reducible exact kit_dd) | (with_reducible exact kit_ll))
local macro_rules | `(tactic| wtm_at "vt") => `(tactic| first
  | exact .str | exact .int | exact .non | exact .bl | exact .tup (by assumption) | exact .lst (by assumption) | exact .dK (by assumption))
local macro_rules | `(tactic| wtm_at "sv") => `(tactic| assumption)
local macro_rules | `(tactic| wtm_at "ct") => `(tactic| first
  | (with_reducible exact ct_f)
  | ((with_reducible apply ct_t); wtm_at "ev")
  | (with_reducible exact cf_t)
  | ((with_reducible apply cf_f); wtm_at "ev")
  | (with_reducible exact ctv_f)
  | ((with_reducible apply ctv_t); wtm_at "ev")
  | (with_reducible exact cfv_t)
  | ((with_reducible apply cfv_f); wtm_at "ev")
  | ((with_reducible apply ci_t); wtm_at "ev")
  | ((with_reducible apply ci_f); wtm_at "ev"))
local macro_rules | `(tactic| wtm_at "ev") => `(tactic| first
  | ((with_reducible apply ev_var); rfl)
  | (with_reducible exact ev_c)
  | (with_reducible exact ea_nil)
  | ((with_reducible apply ea_cons) <;> wtm_at "ev")
  | ((with_reducible apply ev_ixT); (wtm_at "ev"); (wtm_at "ev"); assumption; rfl)
  | ((with_reducible apply ev_dgetS); (wtm_at "ev"); (wtm_at "ev"); assumption; assumption)
  | ((with_reducible apply ev_lenT); (wtm_at "ev"); assumption; (wtm_at "ln"))
  | ((with_reducible apply ev_isi); (wtm_at "ev"); (wtm_at "vt"); (wtm_at "kt"))
  | ((with_reducible apply ev_eq); (wtm_at "ev"); (wtm_at "ev"); rfl; (wtm_at "dc"))
  | ((with_reducible apply ev_ne); (wtm_at "ev"); (wtm_at "ev"); rfl; (wtm_at "dc"))
  | ((with_reducible apply ev_isN); (wtm_at "ev"); (wtm_at "dc"))
  | ((with_reducible apply ev_notN); (wtm_at "ev"); (wtm_at "dc"))
  | ((with_reducible apply ev_int0); (wtm_at "ev"); (wtm_at "ev"); (wtm_at "iv"))
  | ((with_reducible apply ev_niN); (wtm_at "ev"); (wtm_at "ev"); rfl; rfl; (wtm_at "ic"))
  | ((with_reducible apply ev_inN); (wtm_at "ev"); (wtm_at "ev"); rfl; rfl; (wtm_at "ic"))
  | ((with_reducible apply eu_tup); (wtm_at "ev"); simp)
  | ((with_reducible apply el_lst); (wtm_at "ev"); simp)
  | ((with_reducible apply ev_callP); (wtm_at "ev"); (wtm_at "sv"))
  | ((with_reducible apply et_test); wtm_at "ev")
  | ((with_reducible apply et_B); wtm_at "ev")
  | ((with_reducible apply ev_andG); (wtm_at "ev"); (wtm_at "ct"))
  | ((with_reducible apply ev_orG); (wtm_at "ev"); (wtm_at "ct"))
  | ((with_reducible apply ev_notG); (wtm_at "ev"); (wtm_at "nb"))
  | ((with_reducible apply et_andG); (wtm_at "ev"); (wtm_at "ct"))
  | ((with_reducible apply et_orG); (wtm_at "ev"); (wtm_at "ct"))
  | ((with_reducible apply et_notG); (wtm_at "ev"); (wtm_at "nb"))
  | ((with_reducible apply ev_ifG); (wtm_at "ev"); (wtm_at "ct"))
  | assumption)
local macro_rules | `(tactic| wtm_at "re") => `(tactic| first
  | ((with_reducible apply re_ifG); (wtm_at "ev"); first | ((with_reducible apply ci_t); wtm_at "re") | ((with_reducible apply ci_f); wtm_at "re"))
  | ((with_reducible apply re_retV); wtm_at "ev")
  | ((with_reducible apply re_asgV); (wtm_at "ev"); (wtm_at "re"))
  | ((with_reducible apply re_par); (wtm_at "ev"); (wtm_at "re")))
local macro_rules | `(tactic| wtm_at "rs") => `(tactic| repeat ((with_reducible apply re_ifG); (wtm_at "ev"); first | (with_reducible apply ci_t) | (with_reducible apply ci_f)))


def rk : Option Bool → Int
  | none => 1
  | some true => 2
  | some false => 0
def RRank : Rel := fun vs H r => ∃ o, vs = [tv o] ∧ r = .val (.int (rk o))
/-- all that the law's truths are told by -/
structure Case (K : PySem.W.Frag) (H : Hp) (s t d : Addr) (cs bs ls : List Str) (er ea : Wo) : Prop where
  sh : ShapeAt K H s cs bs ls
  ok : ShOk cs bs
  row : RowAt H t cs er
  rok : WoOk cs ls er
  ask : AskAt H d bs ea
  aok : WoOk bs ls ea
theorem Case.same {K : PySem.W.Frag} {H H' : Hp} {s t d : Addr} {cs bs ls : List Str} {er ea : Wo} (e : Ex H H') (h : Case K H s t d cs bs ls er ea) : Case K H' s t d cs bs ls er ea := ⟨h.sh.same e, h.ok, e _ _ h.row, h.rok, h.ask.same e, h.aok⟩
def rks (e : Wo) (cds : List Cd) : List V := cds.map fun c => V.int (rk (c.truth e))
def RRanks (K : PySem.W.Frag) : Rel := fun vs H r => ∃ s t d a cs bs ls er ea us cds, vs = [.ref s, .ref t, .ref d, .ref a] ∧ Case K H s t d cs bs ls er ea ∧ Ls H a us ∧ CsAt H cds us ∧ (∀ c ∈ cds, CdOk (cs ++ bs) c) ∧ cds.length ≤ 1000 ∧ r = .new (.lst (rks (mixW cs er ea) cds))
/-- a condition made on the way -/
abbrev EvC (te : TE) (σ : L2.St) (H : Hp) (c : Cd) : Prop := EvR te σ H (.sm fun v H' => CAt H' c v)
def EvCs (ta : TA) (σ : L2.St) (H : Hp) (cds : List Cd) : Prop := ∀ H1, Ex H H1 → ∀ Q : List V → Hp → Prop, (∀ us H2, Ex H1 H2 → CsAt H2 cds us → Q us H2) → ta σ H1 Q
section
variable {K : PySem.W.Frag} {σ : L2.St} {H : Hp} {te ta' tb : TE} {ta tr : TA} {c d : Cd} {cds : List Cd} {v : V} {i : Nat} {tz : TS} {r : Res} {b : Bool} {xs ys : List V} {is js : List Int}
theorem ec_var (hs : σ[i]? = some (some v)) (h : CAt H c v) : EvC (tVar i) σ H c := fun H1 e Q q => ⟨v, hs, q v H1 (Ex.refl _) (h.same e)⟩
theorem ecs_nil : EvCs tNil σ H [] := fun H1 e Q q => q [] H1 (Ex.refl _) (by unfold CsAt; rfl)
theorem ecs_cons (h : EvC te σ H c) (hr : EvCs tr σ H cds) : EvCs (tCons te tr) σ H (c :: cds) := fun H1 e Q q => h H1 e _ fun v H2 e2 hv => hr H2 (e.trans e2) _ fun us H3 e3 hu => q (v :: us) H3 (e2.trans e3) (by unfold CsAt; exact ⟨v, us, rfl, hv.same e3, hu⟩)
theorem ec_not (h : EvC te σ H c) : EvC (tTup (tCons (tC (.str "not")) (tCons te tNil))) σ H (.not c) := fun H1 e Q q => h H1 e _ fun v H2 e2 hv => ⟨sz_of (by simp), fun p hp => q _ _ (e2.trans (Ex.new hp)) (by
  show CAt _ (.not c) _
  unfold CAt
  exact ⟨p, v, rfl, upd_same, hv.same (Ex.new hp)⟩)⟩
theorem ec_and (h : EvCs ta σ H cds) (hl : cds.length ≤ 6) : EvC (tTup (tCons (tC (.str "and")) (tCons (tTup ta) tNil))) σ H (.all cds) := fun H1 e Q q => h H1 e _ fun us H2 e2 hu => ⟨sz_of (by rw [hu.len]; omega), fun b hb => ⟨sz_of (by simp), fun p hp => q _ _ ((e2.trans (Ex.new hb)).trans (Ex.new hp)) (by
  show CAt _ (.all cds) _
  unfold CAt
  exact ⟨p, b, us, rfl, upd_same, Ex.new hp _ _ upd_same, hu.same ((Ex.new hb).trans (Ex.new hp))⟩)⟩⟩
theorem ec_or (h : EvCs ta σ H cds) (hl : cds.length ≤ 6) : EvC (tTup (tCons (tC (.str "or")) (tCons (tTup ta) tNil))) σ H (.any cds) := fun H1 e Q q => h H1 e _ fun us H2 e2 hu => ⟨sz_of (by rw [hu.len]; omega), fun b hb => ⟨sz_of (by simp), fun p hp => q _ _ ((e2.trans (Ex.new hb)).trans (Ex.new hp)) (by
  show CAt _ (.any cds) _
  unfold CAt
  exact ⟨p, b, us, rfl, upd_same, Ex.new hp _ _ upd_same, hu.same ((Ex.new hb).trans (Ex.new hp))⟩)⟩⟩
theorem er_cds (h : EvCs ta σ H cds) (hl : cds.length ≤ 1000) : EvR (tLst ta) σ H (.sm fun v H' => ∃ p, v = .ref p ∧ ∃ us, Ls H' p us ∧ CsAt H' cds us) := fun H1 e Q q => h H1 e _ fun us H2 e2 hu => ⟨sz_of (by rw [hu.len]; omega), fun p hp => q _ _ (e2.trans (Ex.new hp)) ⟨p, rfl, us, upd_same, hu.same (Ex.new hp)⟩⟩
theorem ev_max2 {ta tb : TE} {i j : Int} (ha : Ev ta σ H (.int i)) (hb : Ev tb σ H (.int j)) : Ev (tCB rMax2 (tCons ta (tCons tb tNil))) σ H (.int (if j > i then j else i)) := fun H1 e Q f => ha H1 e _ fun H2 e2 => hb H2 (e.trans e2) _ fun H3 e3 => ⟨i, j, rfl, f H3 (e2.trans e3)⟩
theorem er_list {a : Addr} {us : List V} (hs : σ[i]? = some (some (.ref a))) (h1 : Ls H a us) (h2 : CsAt H cds us) : EvR (tVar i) σ H (.sm fun v H' => ∃ p, v = .ref p ∧ ∃ us, Ls H' p us ∧ CsAt H' cds us) := fun H1 e Q q => ⟨_, hs, q _ H1 (Ex.refl _) ⟨a, rfl, us, e _ _ h1, h2.same e⟩⟩
/-- a list of conditions, one more appended -/
theorem re_lstApp (h : EvCs ta σ H cds) (hl : cds.length ≤ 1000) (hi : ∀ p : Addr, (σ.set i (some (.ref p)))[i]? = some (some (.ref p))) (hc : ∀ p, EvC te (σ.set i (some (.ref p))) H c) (k : ∀ p us H1, Ex H H1 → Ls H1 p us → CsAt H1 (cds ++ [c]) us → RR tz (σ.set i (some (.ref p))) H1 r) :
    RR (tSeq (tAsg (tLst ta) (gName i)) (tSeq (tDrop (tBM K "list" rAppend (tVar i) (tCons te tNil))) tz)) σ H r := fun D H1 e q => h H1 e _ fun us H2 e2 hu => ⟨sz_of (by rw [hu.len]; omega), fun p hp => by
  have e3 : Ex H2 (upd H2 p (.lst us)) := Ex.new hp
  refine ⟨.ref p, hi p, Or.inl ⟨rfl, us, sq_of upd_same⟩, hc p _ ((e.trans e2).trans e3) _ fun v H4 e4 hv => ⟨p, us, v, rfl, rfl, e4 _ _ upd_same, sz_lt (by rw [hu.len]; omega), ?_⟩⟩
  have h4 : H4 p = some (.lst us) := e4 _ _ upd_same
  have ex : Ex H2 (upd H4 p (.lst (us ++ [v]))) := Ex.mut (e3.trans e4) hp
  exact k p (us ++ [v]) _ ((e.trans e2).trans ex) upd_same (CsAt.snoc ((hu.same (e3.trans e4)).off h4) (hv.off h4)) D _ (Ex.refl _) fun z H5 e5 hz => q z H5 ((e2.trans ex).trans e5) (Res.anti (e2.trans ex) hz)⟩
theorem eqv_ints : ∀ is js : List Int, PyData.eqvAll (is.map PyData.int) (js.map PyData.int) = decide (is = js)
  | [], [] => rfl
  | i :: is, [] => rfl
  | [], j :: js => rfl
  | i :: is, j :: js => by
    show ((i == j) && PyData.eqvAll (is.map PyData.int) (js.map PyData.int)) = _
    rw [eqv_ints is js]
    by_cases h : i = j
    · subst h
      simp
    · simp [h]
/-- two lists of whole numbers, told apart -/
theorem ev_neI (ha : EvL ta' σ H (is.map V.int)) (hb : EvL tb σ H (js.map V.int)) (h : (!decide (is = js)) = b) : Ev (tOp (rNeD K) ta' tb) σ H (.bl b) := ev_opLL ha hb fun p q H1 h1 h2 _ => rv_val fun H2 e2 Q k => ⟨.list (is.map PyData.int), .list (js.map PyData.int), .lst (sq_of (e2 _ _ h1)) (dpInts is), .lst (sq_of (e2 _ _ h2)) (dpInts js), shInts is, shInts js, by
  have h0 : (!PyData.eqv (.list (is.map PyData.int)) (.list (js.map PyData.int))) = b := by
    rw [← h, ← eqv_ints is js]
    rfl
  rw [h0]
  exact k⟩
theorem ev_eqI (ha : EvL ta' σ H (is.map V.int)) (hb : EvL tb σ H (js.map V.int)) (h : decide (is = js) = b) : Ev (tOp (rEqD K) ta' tb) σ H (.bl b) := ev_opLL ha hb fun p q H1 h1 h2 _ => rv_val fun H2 e2 Q k => ⟨.list (is.map PyData.int), .list (js.map PyData.int), .lst (sq_of (e2 _ _ h1)) (dpInts is), .lst (sq_of (e2 _ _ h2)) (dpInts js), shInts is, shInts js, by
  have h0 : PyData.eqv (.list (is.map PyData.int)) (.list (js.map PyData.int)) = b := by
    rw [← h, ← eqv_ints is js]
    rfl
  rw [h0]
  exact k⟩
theorem el_rep5 {n : Int} (ha : Ev ta' σ H (.int n)) : EvL (tOp rRep (tLst (tCons ta' tNil)) (tC (.int 5))) σ H (([n, n, n, n, n] : List Int).map V.int) := fun H1 e Q q => (el_lst (ea_cons ha ea_nil) (by simp) : EvL _ σ H [.int n]) H1 e _ fun p H2 hp e2 h2 => ⟨p, 5, [.int n], rfl, rfl, h2, by decide, by decide, sz_of (show 1 * 5 ≤ 100000 by decide), fun l hl => q l _ (fresh_back e2 hl) (e2.trans (Ex.new hl)) upd_same⟩
/-- unpacking a new list of two -/
theorem re_unl2 {x y : V} {j : Nat} (h : EvL te σ H [x, y]) (k : ∀ H1, Ex H H1 → RR tz ((σ.set i (some x)).set j (some y)) H1 r) : RR (tSeq (tAsg te (gUnl K 2 (gCons (gName i) (gCons (gName j) gNil)))) tz) σ H r := fun D H1 e q => h H1 e _ fun p H2 hp e2 h2 =>
  ⟨p, [x, y], rfl, sq_of h2, rfl, x, [y], rfl, y, [], rfl, rfl, k H2 (e.trans e2) D H2 (Ex.refl _) fun z H3 e3 hz => q z H3 (e2.trans e3) (Res.anti e2 hz)⟩
end
section
variable {P : Program} {w : World} {K : PySem.W.Frag} {mg : Str → Option Value} {base : Heap}
def nm_law_rank : List Str := ["_law_found"]
theorem sc_law_rank : FnScope nm_law_rank ["_law_found"] (defScope s_law_rank) := C8.fnScope_by (by decide +kernel)
theorem ok_law_rank (T : Tx K mg) : C8.Cal P w K mg base 1 "_law_rank" (PSp RRank) [] := by
  refine T.pf 47 47 rfl rfl sc_law_rank (fun _ _ _ _ _ _ us hl => match us, hl with | [_], _ => rfl) (fun vs H r h => ?_) (fun cdv A outer s H vs r E hr h => ?_)
  · obtain ⟨_, rfl, _⟩ := h
    rfl
  · have nd := sc_law_rank.nd
    refine ⟨_, (pss_one (ps_ret (pe_ifExp (pt_cmpR op_isN2 (pv 0) pe_non (nomark _)) pe_int (pe_op op_mul pe_int (pe_callTy cr_int1 (by rfl) T.f_int (by decide +kernel) (pa_cons (pv 0) pa_nil)))))), ?_⟩
    obtain ⟨o, rfl, rfl⟩ := h
    cases o with
    | none => exact re_retV (ev_if_t (et_test (ev_isN (x := .non) (by wtm_at "ev") rfl)) (fun H1 e Q f => f H1 (Ex.refl _)))
    | some b =>
      refine re_retV (ev_if_f (et_test (ev_isN (x := .bl b) (by wtm_at "ev") rfl)) (ev_is (ev_op (by wtm_at "ev") (ev_intB (by wtm_at "ev")) (rv_I (i := 2) (j := if b then 1 else 0) (.inl ⟨by decide, by decide⟩))) ?_))
      cases b <;> rfl
def nm_law_ranks : List Str := ["_law_made", "_law_line_here", "_law_wish_here", "_law_some", "_law_told_here"]
theorem sc_law_ranks : FnScope nm_law_ranks ["_law_made", "_law_line_here", "_law_wish_here", "_law_some"] (defScope s_law_ranks) := C8.fnScope_by (by decide +kernel)
theorem ok_law_ranks (T : Tx K mg) (C_law_rank : C8.Cal P w K mg base 1 "_law_rank" (PSp RRank) []) (C_truth : C8.Cal P w K mg base 11 "truth" (PSp (RTruthFn K)) []) : C8.Cal P w K mg base 12 "_law_ranks" (PSp (RRanks K)) [] := by
  refine T.pf 48 48 rfl rfl sc_law_ranks (fun _ _ _ _ _ _ us hl => match us, hl with | [_, _, _, _], _ => rfl) (fun vs H r h => ?_) (fun cdv A outer s H vs r E hr h => ?_)
  · obtain ⟨_, _, _, _, _, _, _, _, _, _, _, rfl, _⟩ := h
    rfl
  · have nd := sc_law_ranks.nd
    refine ⟨_, (pss_one (ps_ret (pe_lc (own := [("_law_told_here", 4)]) (g := (gName 4)) rfl nd (pi_list (pv 3)) (blkOk_by (own := [("_law_told_here", 4)]) (N := nm_law_ranks) (sc := defScope s_law_ranks) (by decide +kernel)) (fun _ _ _ _ _ => (pg_name (i := 4) nd rfl (Or.inl rfl))) (fun _ _ _ _ _ => pts_nil) (fun _ _ _ _ _ => (C8.pe_c C_law_rank hr (by omega) (by rfl) (pa_cons (C8.pe_c C_truth hr (by omega) (by rfl) (pa_cons (pv 0) (pa_cons (pv 4) (pa_cons (pv 1) (pa_cons (pv 2) pa_nil))))) pa_nil)))))), ?_⟩
    obtain ⟨s', t, d, a, cs, bs, ls, er, ea, us, cds, rfl, hc, ha, hu, hok, hl, rfl⟩ := h
    have hlen := hu.len
    refine re_ret (er_lst (el_lc (ei_list (by wtm_at "ev") ha) (by omega) (by unfold rks; rw [List.length_map, hlen]) (fun _ => rfl) fun i x y hx hy => ?_))
    obtain ⟨c, hci, hat⟩ := hu.get hx
    unfold rks at hy
    rw [List.getElem?_map, hci] at hy
    have hy : V.int (rk (c.truth (mixW cs er ea))) = y := Option.some.inj hy
    subst hy
    exact ev_callP (ea_cons (ev_callP (by wtm_at "ev") fun H1 e => ⟨s', cs, bs, ls, x, c, t, er, d, ea, rfl, hc.sh.same e, hc.ok, hat.same e, hok c (List.mem_of_getElem? hci), e _ _ hc.row, hc.rok, hc.ask.same e, hc.aok, rfl⟩) ea_nil) fun H1 e => ⟨_, rfl, rfl⟩
/-- two conditions that the law draws -/
structure Two (H : Hp) (ns : List Str) (u d : Cd) (vu vd : V) : Prop where
  u1 : CAt H u vu
  d1 : CAt H d vd
  uw : u.Wf ns 2
  dw : d.Wf ns 2
  un : u.nt ≤ 2
  dn : d.nt ≤ 2
theorem Two.same {H H' : Hp} {ns : List Str} {u d : Cd} {vu vd : V} (e : Ex H H') (h : Two H ns u d vu vd) : Two H' ns u d vu vd := ⟨h.u1.same e, h.d1.same e, h.uw, h.dw, h.un, h.dn⟩
theorem wfs_of {ns : List Str} {n : Nat} : ∀ {l : List Cd}, (∀ c ∈ l, c.Wf ns n) → Cd.Wfs ns n l
  | [], _ => by unfold Cd.Wfs; trivial
  | c :: l, h => by
    unfold Cd.Wfs
    exact ⟨h c List.mem_cons_self, wfs_of fun d hd => h d (List.mem_cons_of_mem _ hd)⟩
theorem wf_all {ns : List Str} {n : Nat} {l : List Cd} (h : ∀ c ∈ l, c.Wf ns n) (h6 : l.length ≤ 6) : (Cd.all l).Wf ns (n + 1) := by
  unfold Cd.Wf
  exact ⟨n, rfl, h6, wfs_of h⟩
theorem wf_any {ns : List Str} {n : Nat} {l : List Cd} (h : ∀ c ∈ l, c.Wf ns n) (h6 : l.length ≤ 6) : (Cd.any l).Wf ns (n + 1) := by
  unfold Cd.Wf
  exact ⟨n, rfl, h6, wfs_of h⟩
theorem wf_not {ns : List Str} {n : Nat} {c : Cd} (h : c.Wf ns n) : (Cd.not c).Wf ns (n + 1) := by
  unfold Cd.Wf
  exact ⟨n, rfl, h⟩
def bothL (u d : Cd) : List Cd := [.all [u, d], .all [d, u], .all [.all [u], d], .all [u, d, u]] ++ [.not (.any [.not u, .not d])]
def someL (u d : Cd) : List Cd := [.any [u, d], .any [d, u], .any [.any [u], d], .any [d, u, d]] ++ [.not (.all [.not u, .not d])]
theorem both_ok {H : Hp} {ns : List Str} {u d : Cd} {vu vd : V} (h : Two H ns u d vu vd) : ∀ c ∈ bothL u d, CdOk ns c := by
  obtain ⟨_, _, uw, dw, un, dn⟩ := h
  have u4 := uw.up (show 2 ≤ 4 by decide)
  have d4 := dw.up (show 2 ≤ 4 by decide)
  have u3 := uw.up (show 2 ≤ 3 by decide)
  intro c hc
  simp only [bothL, List.mem_cons, List.mem_append, List.not_mem_nil, or_false] at hc
  rcases hc with (rfl | rfl | rfl | rfl) | rfl
  · exact ⟨wf_all (by simp [u4, d4]) (by simp), by simp only [Cd.nt, Cd.nts]; omega⟩
  · exact ⟨wf_all (by simp [u4, d4]) (by simp), by simp only [Cd.nt, Cd.nts]; omega⟩
  · exact ⟨wf_all (by simp [wf_all (n := 3) (l := [u]) (ns := ns) (by simp [u3]) (by simp), d4]) (by simp), by simp only [Cd.nt, Cd.nts]; omega⟩
  · exact ⟨wf_all (by simp [u4, d4]) (by simp), by simp only [Cd.nt, Cd.nts]; omega⟩
  · exact ⟨wf_not (wf_any (by simp [wf_not uw, wf_not dw]) (by simp)), by simp only [Cd.nt, Cd.nts]; omega⟩
theorem some_ok {H : Hp} {ns : List Str} {u d : Cd} {vu vd : V} (h : Two H ns u d vu vd) : ∀ c ∈ someL u d, CdOk ns c := by
  obtain ⟨_, _, uw, dw, un, dn⟩ := h
  have u4 := uw.up (show 2 ≤ 4 by decide)
  have d4 := dw.up (show 2 ≤ 4 by decide)
  have u3 := uw.up (show 2 ≤ 3 by decide)
  intro c hc
  simp only [someL, List.mem_cons, List.mem_append, List.not_mem_nil, or_false] at hc
  rcases hc with (rfl | rfl | rfl | rfl) | rfl
  · exact ⟨wf_any (by simp [u4, d4]) (by simp), by simp only [Cd.nt, Cd.nts]; omega⟩
  · exact ⟨wf_any (by simp [u4, d4]) (by simp), by simp only [Cd.nt, Cd.nts]; omega⟩
  · exact ⟨wf_any (by simp [wf_any (n := 3) (l := [u]) (ns := ns) (by simp [u3]) (by simp), d4]) (by simp), by simp only [Cd.nt, Cd.nts]; omega⟩
  · exact ⟨wf_any (by simp [u4, d4]) (by simp), by simp only [Cd.nt, Cd.nts]; omega⟩
  · exact ⟨wf_not (wf_all (by simp [wf_not uw, wf_not dw]) (by simp)), by simp only [Cd.nt, Cd.nts]; omega⟩
def mn (i j : Int) : Int := if j < i then j else i
def mx (i j : Int) : Int := if j > i then j else i
theorem both_rk (e : Wo) (u d : Cd) : rks e (bothL u d) = ([mn (rk (u.truth e)) (rk (d.truth e)), mn (rk (u.truth e)) (rk (d.truth e)), mn (rk (u.truth e)) (rk (d.truth e)), mn (rk (u.truth e)) (rk (d.truth e)), mn (rk (u.truth e)) (rk (d.truth e))] : List Int).map V.int := by
  simp only [rks, bothL, List.map_append, List.map_cons, List.map_nil, List.cons_append, List.nil_append, Cd.truth, Cd.truths]
  generalize u.truth e = a
  generalize d.truth e = b
  rcases a with _ | (_ | _) <;> rcases b with _ | (_ | _) <;> rfl
theorem some_rk (e : Wo) (u d : Cd) : rks e (someL u d) = ([mx (rk (u.truth e)) (rk (d.truth e)), mx (rk (u.truth e)) (rk (d.truth e)), mx (rk (u.truth e)) (rk (d.truth e)), mx (rk (u.truth e)) (rk (d.truth e)), mx (rk (u.truth e)) (rk (d.truth e))] : List Int).map V.int := by
  simp only [rks, someL, List.map_append, List.map_cons, List.map_nil, List.cons_append, List.nil_append, Cd.truth, Cd.truths]
  generalize u.truth e = a
  generalize d.truth e = b
  rcases a with _ | (_ | _) <;> rcases b with _ | (_ | _) <;> rfl
theorem not_rk (e : Wo) (u : Cd) : rks e [.not u, .not (.not u)] = ([2 - rk (u.truth e), rk (u.truth e)] : List Int).map V.int := by
  simp only [rks, List.map_cons, List.map_nil, Cd.truth]
  generalize u.truth e = a
  rcases a with _ | (_ | _) <;> rfl
def RTruths (K : PySem.W.Frag) : Rel := fun vs H r => ∃ s t d vu vd cs bs ls er ea u v, vs = [.ref s, .ref t, .ref d, vu, vd] ∧ Case K H s t d cs bs ls er ea ∧ Two H (cs ++ bs) u v vu vd ∧ r = .val (.bl true)
def nm_law_truths_right : List Str := ["_law_made", "_law_line_here", "_law_wish_here", "_law_uno", "_law_duo", "_law_first", "_law_second", "_law_both", "_law_some"]
theorem sc_law_truths_right : FnScope nm_law_truths_right ["_law_made", "_law_line_here", "_law_wish_here", "_law_uno", "_law_duo"] (defScope s_law_truths_right) := C8.fnScope_by (by decide +kernel)
theorem ok_law_truths_right (T : Tx K mg) (C_law_ranks : C8.Cal P w K mg base 12 "_law_ranks" (PSp (RRanks K)) []) : C8.Cal P w K mg base 13 "_law_truths_right" (PSp (RTruths K)) [] := by
  refine T.pf 49 49 rfl rfl sc_law_truths_right (fun _ _ _ _ _ _ us hl => match us, hl with | [_, _, _, _, _], _ => rfl) (fun vs H r h => ?_) (fun cdv A outer s H vs r E hr h => ?_)
  · obtain ⟨_, _, _, _, _, _, _, _, _, _, _, _, rfl, _⟩ := h
    rfl
  · have nd := sc_law_truths_right.nd
    have hu64 := hr.units
    refine ⟨_, (pss_cons (ps_asg (C8.pe_c C_law_ranks hr (by omega) (by rfl) (pa_cons (pv 0) (pa_cons (pv 1) (pa_cons (pv 2) (pa_cons (pe_lst (pa_cons (pv 3) (pa_cons (pv 4) pa_nil))) pa_nil))))) (pg_unl (n := 2) rfl (pgs_cons (pg_name (i := 5) nd rfl (Or.inl rfl)) (pgs_cons (pg_name (i := 6) nd rfl (Or.inl rfl)) pgs_nil))))
      (pss_cons (ps_set (i := 7) nd rfl (Or.inl rfl) (pe_lst (pa_cons (pe_tup (pa_cons pe_str (pa_cons (pe_tup (pa_cons (pv 3) (pa_cons (pv 4) pa_nil))) pa_nil))) (pa_cons (pe_tup (pa_cons pe_str (pa_cons (pe_tup (pa_cons (pv 4) (pa_cons (pv 3) pa_nil))) pa_nil))) (pa_cons (pe_tup (pa_cons pe_str (pa_cons (pe_tup (pa_cons (pe_tup (pa_cons pe_str (pa_cons (pe_tup (pa_cons (pv 3) pa_nil)) pa_nil))) (pa_cons (pv 4) pa_nil))) pa_nil))) (pa_cons (pe_tup (pa_cons pe_str (pa_cons (pe_tup (pa_cons (pv 3) (pa_cons (pv 4) (pa_cons (pv 3) pa_nil)))) pa_nil))) pa_nil))))))
      (pss_cons (ps_expr (pe_bm PySem.F.plainAttrs_list PySem.F.slot_list_append PySem.F.type_list_append mt_append (pv 7) (pa_cons (pe_tup (pa_cons pe_str (pa_cons (pe_tup (pa_cons pe_str (pa_cons (pe_tup (pa_cons (pe_tup (pa_cons pe_str (pa_cons (pv 3) pa_nil))) (pa_cons (pe_tup (pa_cons pe_str (pa_cons (pv 4) pa_nil))) pa_nil))) pa_nil))) pa_nil))) pa_nil)))
      (pss_cons (ps_set (i := 8) nd rfl (Or.inl rfl) (pe_lst (pa_cons (pe_tup (pa_cons pe_str (pa_cons (pe_tup (pa_cons (pv 3) (pa_cons (pv 4) pa_nil))) pa_nil))) (pa_cons (pe_tup (pa_cons pe_str (pa_cons (pe_tup (pa_cons (pv 4) (pa_cons (pv 3) pa_nil))) pa_nil))) (pa_cons (pe_tup (pa_cons pe_str (pa_cons (pe_tup (pa_cons (pe_tup (pa_cons pe_str (pa_cons (pe_tup (pa_cons (pv 3) pa_nil)) pa_nil))) (pa_cons (pv 4) pa_nil))) pa_nil))) (pa_cons (pe_tup (pa_cons pe_str (pa_cons (pe_tup (pa_cons (pv 4) (pa_cons (pv 3) (pa_cons (pv 4) pa_nil)))) pa_nil))) pa_nil))))))
      (pss_cons (ps_expr (pe_bm PySem.F.plainAttrs_list PySem.F.slot_list_append PySem.F.type_list_append mt_append (pv 8) (pa_cons (pe_tup (pa_cons pe_str (pa_cons (pe_tup (pa_cons pe_str (pa_cons (pe_tup (pa_cons (pe_tup (pa_cons pe_str (pa_cons (pv 3) pa_nil))) (pa_cons (pe_tup (pa_cons pe_str (pa_cons (pv 4) pa_nil))) pa_nil))) pa_nil))) pa_nil))) pa_nil)))
      (pss_cons (ps_if (pt_cmpR (op_neD hu64) (C8.pe_c C_law_ranks hr (by omega) (by rfl) (pa_cons (pv 0) (pa_cons (pv 1) (pa_cons (pv 2) (pa_cons (pv 7) pa_nil))))) (pe_op op_rep (pe_lst (pa_cons (pe_callB (cr_min2 rfl) (by rfl) T.f_min (by decide +kernel) (pa_cons (pe_callTy cr_int1 (by rfl) T.f_int (by decide +kernel) (pa_cons (pv 5) pa_nil)) (pa_cons (pe_callTy cr_int1 (by rfl) T.f_int (by decide +kernel) (pa_cons (pv 6) pa_nil)) pa_nil))) pa_nil)) pe_int) (nomark _))
      (pss_one (ps_ret pe_bl))
      pss_nil)
      (pss_cons (ps_if (pt_cmpR (op_neD hu64) (C8.pe_c C_law_ranks hr (by omega) (by rfl) (pa_cons (pv 0) (pa_cons (pv 1) (pa_cons (pv 2) (pa_cons (pv 8) pa_nil))))) (pe_op op_rep (pe_lst (pa_cons (pe_callB (cr_max2 rfl) (by rfl) T.f_max (by decide +kernel) (pa_cons (pe_callTy cr_int1 (by rfl) T.f_int (by decide +kernel) (pa_cons (pv 5) pa_nil)) (pa_cons (pe_callTy cr_int1 (by rfl) T.f_int (by decide +kernel) (pa_cons (pv 6) pa_nil)) pa_nil))) pa_nil)) pe_int) (nomark _))
      (pss_one (ps_ret pe_bl))
      pss_nil)
      (pss_one (ps_ret (pe_cmpR (op_eqD hu64) (C8.pe_c C_law_ranks hr (by omega) (by rfl) (pa_cons (pv 0) (pa_cons (pv 1) (pa_cons (pv 2) (pa_cons (pe_lst (pa_cons (pe_tup (pa_cons pe_str (pa_cons (pv 3) pa_nil))) (pa_cons (pe_tup (pa_cons pe_str (pa_cons (pe_tup (pa_cons pe_str (pa_cons (pv 3) pa_nil))) pa_nil))) pa_nil))) pa_nil))))) (pe_lst (pa_cons (pe_op op_sub pe_int (pv 5)) (pa_cons (pv 5) pa_nil))) (nomark _))))))))))), ?_⟩
    obtain ⟨s', t, d, vu, vd, cs, bs, ls, er, ea, u, v, rfl, hc, ht, rfl⟩ := h
    have rank : ∀ {σ : L2.St} {te : TE} {H1 : Hp} {cds : List Cd}, Ex H H1 → σ[0]? = some (some (.ref s')) → σ[1]? = some (some (.ref t)) → σ[2]? = some (some (.ref d)) → EvR te σ H1 (.sm fun v H' => ∃ p, v = .ref p ∧ ∃ us, Ls H' p us ∧ CsAt H' cds us) → (∀ c ∈ cds, CdOk (cs ++ bs) c) → cds.length ≤ 1000 →
        EvL (tCall (PSp (RRanks K)) [] C8.E0 (tCons (tVar 0) (tCons (tVar 1) (tCons (tVar 2) (tCons te tNil))))) σ H1 (rks (mixW cs er ea) cds) := fun {σ te H1 cds} e h0 h1 h2 hl hok hlen => el_er (er_callA (Pv := fun ws H' => ∃ p us, ws = [.ref s', .ref t, .ref d, .ref p] ∧ Ls H' p us ∧ CsAt H' cds us) (fun H2 e2 Q q => (ev_var h0 : Ev (tVar 0) σ H1 _) H2 e2 _ fun H3 e3 => (ev_var h1 : Ev (tVar 1) σ H1 _) H3 (e2.trans e3) _ fun H4 e4 => (ev_var h2 : Ev (tVar 2) σ H1 _) H4 (e2.trans (e3.trans e4)) _ fun H5 e5 => hl H5 (e2.trans (e3.trans (e4.trans e5))) _ fun z H6 e6 ⟨p, hz, us, hu1, hu2⟩ => q _ H6 (e3.trans (e4.trans (e5.trans e6))) ⟨p, us, by rw [hz], hu1, hu2⟩) fun ws H2 e2 ⟨p, us, hw, hu1, hu2⟩ => ⟨s', t, d, p, cs, bs, ls, er, ea, us, cds, by rw [hw]; rfl, hc.same (e.trans e2), hu1, hu2, hok, hlen, rfl⟩)
    have okU : CdOk (cs ++ bs) u := ⟨ht.uw.up (by decide), by have := ht.un; omega⟩
    have okV : CdOk (cs ++ bs) v := ⟨ht.dw.up (by decide), by have := ht.dn; omega⟩
    have rkU : rks (mixW cs er ea) [u, v] = [.int (rk (u.truth (mixW cs er ea))), .int (rk (v.truth (mixW cs er ea)))] := rfl
    refine re_unl2 (K := K) (by
      have r1 := rank (σ := [some (.ref s'), some (.ref t), some (.ref d), some vu, some vd, none, none, none, none]) (te := tLst (tCons (tVar 3) (tCons (tVar 4) tNil))) (Ex.refl H) rfl rfl rfl (er_cds (ecs_cons (ec_var rfl ht.u1) (ecs_cons (ec_var rfl ht.d1) ecs_nil)) (by simp)) (by simp [okU, okV]) (by simp)
      rw [rkU] at r1
      exact r1) fun H1 e1 => ?_
    have f1 := ht.same e1
    refine re_lstApp (cds := [.all [u, v], .all [v, u], .all [.all [u], v], .all [u, v, u]]) (c := .not (.any [.not u, .not v])) (ecs_cons (ec_and (ecs_cons (ec_var rfl f1.u1) (ecs_cons (ec_var rfl f1.d1) ecs_nil)) (by simp)) (ecs_cons (ec_and (ecs_cons (ec_var rfl f1.d1) (ecs_cons (ec_var rfl f1.u1) ecs_nil)) (by simp)) (ecs_cons (ec_and (ecs_cons (ec_and (ecs_cons (ec_var rfl f1.u1) ecs_nil) (by simp)) (ecs_cons (ec_var rfl f1.d1) ecs_nil)) (by simp)) (ecs_cons (ec_and (ecs_cons (ec_var rfl f1.u1) (ecs_cons (ec_var rfl f1.d1) (ecs_cons (ec_var rfl f1.u1) ecs_nil))) (by simp)) ecs_nil)))) (by simp) (fun _ => rfl) (fun _ => ec_not (ec_or (ecs_cons (ec_not (ec_var rfl f1.u1)) (ecs_cons (ec_not (ec_var rfl f1.d1)) ecs_nil)) (by simp))) fun pb ub H2 e2 hb1 hb2 => ?_
    have f2 := f1.same e2
    refine re_lstApp (cds := [.any [u, v], .any [v, u], .any [.any [u], v], .any [v, u, v]]) (c := .not (.all [.not u, .not v])) (ecs_cons (ec_or (ecs_cons (ec_var rfl f2.u1) (ecs_cons (ec_var rfl f2.d1) ecs_nil)) (by simp)) (ecs_cons (ec_or (ecs_cons (ec_var rfl f2.d1) (ecs_cons (ec_var rfl f2.u1) ecs_nil)) (by simp)) (ecs_cons (ec_or (ecs_cons (ec_or (ecs_cons (ec_var rfl f2.u1) ecs_nil) (by simp)) (ecs_cons (ec_var rfl f2.d1) ecs_nil)) (by simp)) (ecs_cons (ec_or (ecs_cons (ec_var rfl f2.d1) (ecs_cons (ec_var rfl f2.u1) (ecs_cons (ec_var rfl f2.d1) ecs_nil))) (by simp)) ecs_nil)))) (by simp) (fun _ => rfl) (fun _ => ec_not (ec_and (ecs_cons (ec_not (ec_var rfl f2.u1)) (ecs_cons (ec_not (ec_var rfl f2.d1)) ecs_nil)) (by simp))) fun ps us H3 e3 hs1 hs2 => ?_
    have f3 := f2.same e3
    have e03 := e1.trans (e2.trans e3)
    have qb := e3 _ _ hb1
    have qc := hb2.same e3
    refine re_no (et_test (ev_neI (is := _) (by
      have r2 := rank (σ := [some (.ref s'), some (.ref t), some (.ref d), some vu, some vd, some (.int (rk (u.truth (mixW cs er ea)))), some (.int (rk (v.truth (mixW cs er ea)))), some (.ref pb), some (.ref ps)]) (te := tVar 7) (cds := bothL u v) e03 rfl rfl rfl (er_list rfl qb qc) (both_ok ht) (by simp [bothL])
      rw [both_rk] at r2
      exact r2) (el_rep5 (ev_min (ev_int1 (ev_var rfl)) (ev_int1 (ev_var rfl)))) (by simp [mn]))) ?_
    refine re_no (et_test (ev_neI (is := _) (by
      have r2 := rank (σ := [some (.ref s'), some (.ref t), some (.ref d), some vu, some vd, some (.int (rk (u.truth (mixW cs er ea)))), some (.int (rk (v.truth (mixW cs er ea)))), some (.ref pb), some (.ref ps)]) (te := tVar 8) (cds := someL u v) e03 rfl rfl rfl (er_list rfl hs1 hs2) (some_ok ht) (by simp [someL])
      rw [some_rk] at r2
      exact r2) (el_rep5 (ev_max2 (ev_int1 (ev_var rfl)) (ev_int1 (ev_var rfl)))) (by simp [mx]))) ?_
    refine re_retV (ev_eqI (is := [2 - rk (u.truth (mixW cs er ea)), rk (u.truth (mixW cs er ea))]) (js := [2 - rk (u.truth (mixW cs er ea)), rk (u.truth (mixW cs er ea))]) (by
      have r2 := rank (σ := [some (.ref s'), some (.ref t), some (.ref d), some vu, some vd, some (.int (rk (u.truth (mixW cs er ea)))), some (.int (rk (v.truth (mixW cs er ea)))), some (.ref pb), some (.ref ps)]) (te := tLst (tCons (tTup (tCons (tC (.str "not")) (tCons (tVar 3) tNil))) (tCons (tTup (tCons (tC (.str "not")) (tCons (tTup (tCons (tC (.str "not")) (tCons (tVar 3) tNil))) tNil))) tNil))) (cds := [.not u, .not (.not u)]) e03 rfl rfl rfl (er_cds (ecs_cons (ec_not (ec_var rfl f3.u1)) (ecs_cons (ec_not (ec_not (ec_var rfl f3.u1))) ecs_nil)) (by simp)) (by
        have h3 := (wf_not (wf_not ht.uw)).up (show 2 + 1 + 1 ≤ 5 by decide)
        have h4 := (wf_not ht.uw).up (show 2 + 1 ≤ 5 by decide)
        have := ht.un
        intro c hc
        rcases List.mem_cons.1 hc with rfl | hc
        · exact ⟨h4, by simp only [Cd.nt]; omega⟩
        · rw [List.mem_singleton.1 hc]
          exact ⟨h3, by simp only [Cd.nt]; omega⟩) (by simp)
      rw [not_rk] at r2
      exact r2) (el_lst (ea_cons (ev_int0 ev_c (ev_var rfl) rfl) (ea_cons (ev_var rfl) ea_nil)) (by simp)) (by simp))
end
end Ot
/-! Otherworths k13: the draw dict begun -/
namespace Ot
open PySem PySem.Spec PyProof.Rows L2 Evl
local macro_rules | `(tactic| wtm_at "dc") => `(tactic| first
  | ((with_reducible apply dd_f); decide +kernel)
  | ((with_reducible apply dd_t); decide +kernel)
  | ((with_reducible apply dn_f); decide +kernel)
  | ((with_reducible apply dn_t); decide +kernel)
  | (with_reducible exact dec_int_non)
  | (with_reducible exact dec_bl_non)
  | (with_reducible exact dec_ref_non)
  | (with_reducible exact dec_str_non)
  | (with_reducible exact dec_str_ne (by assumption))
  | (with_reducible exact dec_str_eq (by assumption))
  | (with_reducible exact ndec_str_ne (by assumption))
  | (with_reducible exact ndec_str_eq (by assumption))
  | (with_reducible exact dec_int_ne (by omega))
  | (with_reducible exact dec_int_eq (by omega))
  | (with_reducible exact ndec_int_ne (by omega))
  | (with_reducible exact ndec_int_eq (by omega)))
local macro_rules | `(tactic| wtm_at "ic") => `(tactic| first
  | ((with_reducible apply iv_f); decide +kernel)
  | ((with_reducible apply iv_t); decide +kernel)
  | ((with_reducible apply ivn_f); decide +kernel)
  | ((with_reducible apply ivn_t); decide +kernel))
local macro_rules | `(tactic| wtm_at "iv") => `(tactic| first
  | exact bl_true (by omega)
  | exact bl_false (by omega)
  | rfl)
local macro_rules | `(tactic| wtm_at "ln") => `(tactic| first
  | (with_reducible exact ln0) | (with_reducible exact ln1) | (with_reducible exact ln2) | (with_reducible exact ln3) | (with_reducible exact ln4) | rfl)
local macro_rules | `(tactic| wtm_at "nb") => `(tactic| first
  | (with_reducible exact nb_t)
  | (with_reducible exact nb_f))
local macro_rules | `(tactic| wtm_at "kt") => `(tactic| first
  | (with_reducible exact kit_tt) | (with_reducible exact kit_ss) | (with_reducible exact kit_ii) | (with_reducible exact kit_ib) | (with_reducible exact kit_ni) | (with_reducible exact kit_dd) | (with_reducible exact kit_ll))
local macro_rules | `(tactic| wtm_at "vt") => `(tactic| first
  | exact .str | exact .int | exact .non | exact .bl | exact .tup (by assumption) | exact .lst (by assumption) | exact .dK (by assumption))
local macro_rules | `(tactic| wtm_at "sv") => `(tactic| assumption)
local macro_rules | `(tactic| wtm_at "ct") => `(tactic| first
  | (with_reducible exact ct_f)
  | ((with_reducible apply ct_t); wtm_at "ev")
  | (with_reducible exact cf_t)
  | ((with_reducible apply cf_f); wtm_at "ev")
  | (with_reducible exact ctv_f)
  | ((with_reducible apply ctv_t); wtm_at "ev")
  | (with_reducible exact cfv_t)
  | ((with_reducible apply cfv_f); wtm_at "ev")
  | ((with_reducible apply ci_t); wtm_at "ev")
  | ((with_reducible apply ci_f); wtm_at "ev"))
local macro_rules | `(tactic| wtm_at "ev") => `(tactic| first
  | ((with_reducible apply ev_var); rfl)
  | (with_reducible exact ev_c)
  | (with_reducible exact ea_nil)
  | ((with_reducible apply ea_cons) <;> wtm_at "ev")
  | ((with_reducible apply ev_ixT); (wtm_at "ev"); (wtm_at "ev"); assumption; rfl)
  | ((with_reducible apply ev_dgetS); (wtm_at "ev"); (wtm_at "ev"); assumption; assumption)
  | ((with_reducible apply ev_lenT); (wtm_at "ev"); assumption; (wtm_at "ln"))
  | ((with_reducible apply ev_isi); (wtm_at "ev"); (wtm_at "vt"); (wtm_at "kt"))
  | ((with_reducible apply ev_eq); (wtm_at "ev"); (wtm_at "ev"); rfl; (wtm_at "dc"))
  | ((with_reducible apply ev_ne); (wtm_at "ev"); (wtm_at "ev"); rfl; (wtm_at "dc"))
  | ((with_reducible apply ev_isN); (wtm_at "ev"); (wtm_at "dc"))
  | ((with_reducible apply ev_notN); (wtm_at "ev"); (wtm_at "dc"))
  | ((with_reducible apply ev_int0); (wtm_at "ev"); (wtm_at "ev"); (wtm_at "iv"))
  | ((with_reducible apply ev_niN); (wtm_at "ev"); (wtm_at "ev"); rfl; rfl; (wtm_at "ic"))
  | ((with_reducible apply ev_inN); (wtm_at "ev"); (wtm_at "ev"); rfl; rfl; (wtm_at "ic"))
  | ((with_reducible apply eu_tup); (wtm_at "ev"); simp)
  | ((with_reducible apply el_lst); (wtm_at "ev"); simp)
  | ((with_reducible apply ev_callP); (wtm_at "ev"); (wtm_at "sv"))
  | ((with_reducible apply et_test); wtm_at "ev")
  | ((with_reducible apply et_B); wtm_at "ev")
  | ((with_reducible apply ev_andG); (wtm_at "ev"); (wtm_at "ct"))
  | ((with_reducible apply ev_orG); (wtm_at "ev"); (wtm_at "ct"))
  | ((with_reducible apply ev_notG); (wtm_at "ev"); (wtm_at "nb"))
  | ((with_reducible apply et_andG); (wtm_at "ev"); (wtm_at "ct"))
  | ((with_reducible apply et_orG); (wtm_at "ev"); (wtm_at "ct"))
  | ((with_reducible apply et_notG); (wtm_at "ev"); (wtm_at "nb"))
  | ((with_reducible apply ev_ifG); (wtm_at "ev"); (wtm_at "ct"))
  | assumption)
local macro_rules | `(tactic| wtm_at "re") => `(tactic| first
  | ((with_reducible apply re_ifG); (wtm_at "ev"); first | ((with_reducible apply ci_t); wtm_at "re") | ((with_reducible apply ci_f); wtm_at "re"))
  | ((with_reducible apply re_retV); wtm_at "ev")
  | ((with_reducible apply re_asgV); (wtm_at "ev"); (wtm_at "re"))
  | ((with_reducible apply re_par); (wtm_at "ev"); (wtm_at "re")))
local macro_rules | `(tactic| wtm_at "rs") => `(tactic| repeat ((with_reducible apply re_ifG); (wtm_at "ev"); first | (with_reducible apply ci_t) | (with_reducible apply ci_f)))


def RBegin (K : PySem.W.Frag) : Rel := fun vs H r => ∃ (a : Addr) (ns : List Int) (N : Addr → Prop), vs = [.ref a] ∧ SqL K H a (ns.map V.int) ∧ ns.length ≤ 40000 ∧ (∀ g, H g = none → N g) ∧ r = .fr fun p H' => ∃ g c, N g ∧ Dr ⟨p, g, c⟩ H'
theorem ei_listQ {K : PySem.W.Frag} {σ : L2.St} {H : Hp} {tl : TE} {a : Addr} {xs : List V} (h : Ev tl σ H (.ref a)) (hx : SqL K H a xs) : EvI (iList K tl) σ H xs := fun H1 e R q => h H1 e _ fun H2 e2 =>
  ⟨a, rfl, ⟨xs, ex_l (e.trans e2) hx⟩, q _ H2 e2 ⟨_, walk_list, fun H3 e3 => ex_l (e.trans (e2.trans e3)) hx, fun D hD _ H3 e3 => by
    rcases hx with (h | ⟨o, h⟩) | h
    · exact .inl (.inl (e3 _ _ (ne_of_none h hD) ((e.trans e2) _ _ h)))
    · exact .inl (.inr ⟨o, e3 _ _ (ne_of_none h hD) ((e.trans e2) _ _ h)⟩)
    · exact .inr h⟩⟩
theorem kept_ints : ∀ (bs : List Bool) (js : List Int), ∃ ks : List Int, kept bs (js.map V.int) = ks.map V.int
  | [], _ => ⟨[], by simp [kept]⟩
  | _ :: _, [] => ⟨[], by simp [kept]⟩
  | true :: bs, j :: js => let ⟨ks, h⟩ := kept_ints bs js; ⟨j :: ks, by
    show V.int j :: kept bs (js.map V.int) = _
    rw [h]
    rfl⟩
  | false :: bs, j :: js => let ⟨ks, h⟩ := kept_ints bs js; ⟨ks, by
    show kept bs (js.map V.int) = _
    exact h⟩
theorem er_begin {σ : L2.St} {H : Hp} {i : Nat} {tl : TE} {g : Addr} {gs cs : List Int} {N : Addr → Prop} (hN : N g) (hg : Ls H g (gs.map V.int)) (hs : σ[i]? = some (some (.ref g))) (hl : EvL tl σ H (cs.map V.int)) : EvR (tDisp [(tC (.str "great"), tVar i), (tC (.str "rest"), tC (.int 0)), (tC (.str "cells"), tl), (tC (.str "turn"), tC (.int 0))]) σ H (.fr fun p H' => ∃ g c, N g ∧ Dr ⟨p, g, c⟩ H') := fun H2 e2 Q q => fun p hp => by
  have e3 : Ex H2 (upd H2 p (.dK [])) := Ex.new hp
  refine ⟨.ref g, hs, ?_⟩
  refine hl _ (e2.trans e3) _ fun c H4 hc0 e4 hc => ?_
  have hp4 : H4 p = some (.dK []) := e4 _ _ upd_same
  have hg3 := e3 _ _ (e2 _ _ hg)
  have hg4 := e4 _ _ hg3
  have hgc : g ≠ c := fun z => by
    rw [z, hc0] at hg3
    cases hg3
  have hm := mergeK_nodup (kvD ⟨p, g, c⟩ 0 0) [] (show ([Sum.inr "great", Sum.inr "rest", Sum.inr "cells", Sum.inr "turn"] : List Key).Nodup from by decide)
  rw [List.nil_append] at hm
  refine ⟨hp4, kvD ⟨p, g, c⟩ 0 0, rfl, show 4 ≤ 15 by decide, ?_⟩
  rw [hm]
  exact q _ _ (Ex.mut (e3.trans e4) hp) ⟨p, rfl, hp, g, c, hN, hgc, 0, 0, gs, cs, upd_same, ls_upd hg4 hp4, ls_upd hc hp4⟩
def absI (i : Int) : Int := if i < 0 then -i else i
section
variable {P : Program} {w : World} {K : PySem.W.Frag} {mg : Str → Option Value} {base : Heap}
def nm_law_begin : List Str := ["_law_script", "_law_great", "_law_cell"]
theorem sc_law_begin : FnScope nm_law_begin ["_law_script"] (defScope s_law_begin) := C8.fnScope_by (by decide +kernel)
theorem ok_law_begin (T : Tx K mg) : C8.Cal P w K mg base 1 "_law_begin" (PSp (RBegin K)) [] := by
  refine T.pf 28 28 rfl rfl sc_law_begin (fun _ _ _ _ _ _ us hl => match us, hl with | [_], _ => rfl) (fun vs H r h => ?_) (fun cdv A outer s H vs r E hr h => ?_)
  · obtain ⟨_, _, _, rfl, _⟩ := h
    rfl
  · have nd := sc_law_begin.nd
    refine ⟨_, (pss_cons (ps_setLc (i := 1) (own := [("_law_cell", 2)]) (g := (gName 2)) rfl nd rfl rfl (sw_true rfl rfl rfl (by decide +kernel)) (pi_list (pv 0)) (blkOk_by (own := [("_law_cell", 2)]) (N := nm_law_begin) (sc := defScope s_law_begin) (by decide +kernel)) (fun _ _ _ _ _ => (pg_name (i := 2) nd rfl (Or.inl rfl))) (fun _ _ _ _ _ => (pts_one (pt_cmpR op_ge (pe_callB cr_abs (by rfl) T.f_abs (by decide +kernel) (pa_cons (pv 2) pa_nil)) (pe_op op_pow pe_int pe_int) (nomark _)))) (fun _ _ _ _ _ => (pe_op op_sub (pe_callB cr_abs (by rfl) T.f_abs (by decide +kernel) (pa_cons (pv 2) pa_nil)) (pe_op op_pow pe_int pe_int))))
      (pss_one (ps_ret (pe_disp (pps_cons pe_str (pv 1) (pps_cons pe_str pe_int (pps_cons pe_str (pe_lc (own := [("_law_cell", 2)]) (g := (gName 2)) rfl nd (pi_list (pv 0)) (blkOk_by (own := [("_law_cell", 2)]) (N := nm_law_begin) (sc := defScope s_law_begin) (by decide +kernel)) (fun _ _ _ _ _ => (pg_name (i := 2) nd rfl (Or.inl rfl))) (fun _ _ _ _ _ => pts_nil) (fun _ _ _ _ _ => (pe_callB cr_abs (by rfl) T.f_abs (by decide +kernel) (pa_cons (pv 2) pa_nil)))) (pps_cons pe_str pe_int pps_nil)))) (by rfl) (by rfl) (fun z => by cases z) (by decide))))), ?_⟩
    obtain ⟨a, ns, N, rfl, ha, hl, hN, rfl⟩ := h
    have hpow : ∀ σ : L2.St, Ev (tOp (rI CPow fun i j => .int (i ^ j.toNat)) (tC (.int 10)) (tC (.int 18))) σ H (.int (10 ^ 18)) := fun σ => ev_powP (i := 10) (j := 18) ev_c ev_c (by decide) (by decide) (by decide)
    refine re_asgN (er_lst (el_lcIf (ei_listQ (by wtm_at "ev") ha) (by rw [List.length_map]; exact hl) (ys := (ns.map fun i => absI i - 10 ^ 18).map V.int) (bs := ns.map fun i => decide (absI i ≥ 10 ^ 18)) (by simp) (by simp) (fun _ => rfl) (fun i x b hx hb => ?_) fun i x y hx hy hb => ?_)) fun g H1 hg0 e1 hg => ?_
    · rw [List.getElem?_map] at hx hb
      cases hn : ns[i]? with
      | none =>
        rw [hn] at hx
        cases hx
      | some n =>
        rw [hn] at hx hb
        have hx : V.int n = x := Option.some.inj hx
        have hb : decide (absI n ≥ 10 ^ 18) = b := Option.some.inj hb
        subst hx hb
        exact et_test (ev_int0 (ev_abs (ev_var rfl)) (hpow _) rfl)
    · rw [List.getElem?_map] at hx
      rw [List.getElem?_map, List.getElem?_map] at hy
      cases hn : ns[i]? with
      | none =>
        rw [hn] at hx
        cases hx
      | some n =>
        rw [hn] at hx hy
        have hx : V.int n = x := Option.some.inj hx
        have hy : V.int (absI n - 10 ^ 18) = y := Option.some.inj hy
        subst hx hy
        exact ev_int0 (ev_abs (ev_var rfl)) (hpow _) rfl
    · obtain ⟨gs, hgs⟩ := kept_ints (ns.map fun i => decide (absI i ≥ 10 ^ 18)) (ns.map fun i => absI i - 10 ^ 18)
      rw [hgs] at hg
      refine re_ret (er_begin (hN g hg0) hg (by rfl) (el_lc (ys := (ns.map absI).map V.int) (ei_listQ (by wtm_at "ev") (ex_l e1 ha)) (by rw [List.length_map]; exact hl) (by simp) (fun _ => rfl) (fun i x y hx hy => ?_)))
      rw [List.getElem?_map] at hx
      rw [List.getElem?_map, List.getElem?_map] at hy
      cases hn : ns[i]? with
      | none =>
        rw [hn] at hx
        cases hx
      | some n =>
        rw [hn] at hx hy
        have hx : V.int n = x := Option.some.inj hx
        have hy : V.int (absI n) = y := Option.some.inj hy
        subst hx hy
        exact ev_abs (ev_var rfl)
end
end Ot
/-! Otherworths k13: answers -/
namespace Ot
open PySem PySem.Spec PyProof.Rows L2 Evl
local macro_rules | `(tactic| wtm_at "dc") => `(tactic| first
  | ((with_reducible apply dd_f); decide +kernel)
  | ((with_reducible apply dd_t); decide +kernel)
  | ((with_reducible apply dn_f); decide +kernel)
  | ((with_reducible apply dn_t); decide +kernel)
  | (with_reducible exact dec_int_non)
  | (with_reducible exact dec_bl_non)
  | (with_reducible exact dec_ref_non)
  | (with_reducible exact dec_str_non)
  | (with_reducible exact dec_str_ne (by assumption))
  | (with_reducible exact dec_str_eq (by assumption))
  | (with_reducible exact ndec_str_ne (by assumption))
  | (with_reducible exact ndec_str_eq (by assumption))
  | (with_reducible exact dec_int_ne (by omega))
  | (with_reducible exact dec_int_eq (by omega))
  | (with_reducible exact ndec_int_ne (by omega))
  | (with_reducible exact ndec_int_eq (by omega)))
local macro_rules | `(tactic| wtm_at "ic") => `(tactic| first
  | ((with_reducible apply iv_f); decide +kernel)
  | ((with_reducible apply iv_t); decide +kernel)
  | ((with_reducible apply ivn_f); decide +kernel)
  | ((with_reducible apply ivn_t); decide +kernel))
local macro_rules | `(tactic| wtm_at "iv") => `(tactic| first
  | exact bl_true (by omega)
  | exact bl_false (by omega)
  | rfl)
local macro_rules | `(tactic| wtm_at "ln") => `(tactic| first
  | (with_reducible exact ln0) | (with_reducible exact ln1) | (with_reducible exact ln2) | (with_reducible exact ln3) | (with_reducible exact ln4) | rfl)
local macro_rules | `(tactic| wtm_at "nb") => `(tactic| first
  | (with_reducible exact nb_t)
  | (with_reducible exact nb_f))
local macro_rules | `(tactic| wtm_at "kt") => `(tactic| first
  | (with_reducible exact kit_tt) | (with_reducible exact kit_ss) | (with_reducible exact kit_ii) | (with_reducible exact kit_ib) | (with_reducible exact kit_ni) | (with_reducible exact kit_dd) | (with_reducible exact kit_ll))
local macro_rules | `(tactic| wtm_at "vt") => `(tactic| first
  | exact .str | exact .int | exact .non | exact .bl | exact .tup (by assumption) | exact .lst (by assumption) | exact .dK (by assumption))
local macro_rules | `(tactic| wtm_at "sv") => `(tactic| assumption)
local macro_rules | `(tactic| wtm_at "ct") => `(tactic| first
  | (with_reducible exact ct_f)
  | ((with_reducible apply ct_t); wtm_at "ev")
  | (with_reducible exact cf_t)
  | ((with_reducible apply cf_f); wtm_at "ev")
  | (with_reducible exact ctv_f)
  | ((with_reducible apply ctv_t); wtm_at "ev")
  | (with_reducible exact cfv_t)
  | ((with_reducible apply cfv_f); wtm_at "ev")
  | ((with_reducible apply ci_t); wtm_at "ev")
  | ((with_reducible apply ci_f); wtm_at "ev"))
local macro_rules | `(tactic| wtm_at "ev") => `(tactic| first
  | ((with_reducible apply ev_var); rfl)
  | (with_reducible exact ev_c)
  | (with_reducible exact ea_nil)
  | ((with_reducible apply ea_cons) <;> wtm_at "ev")
  | ((with_reducible apply ev_ixT); (wtm_at "ev"); (wtm_at "ev"); assumption; rfl)
  | ((with_reducible apply ev_dgetS); (wtm_at "ev"); (wtm_at "ev"); assumption; assumption)
  | ((with_reducible apply ev_lenT); (wtm_at "ev"); assumption; (wtm_at "ln"))
  | ((with_reducible apply ev_isi); (wtm_at "ev"); (wtm_at "vt"); (wtm_at "kt"))
  | ((with_reducible apply ev_eq); (wtm_at "ev"); (wtm_at "ev"); rfl; (wtm_at "dc"))
  | ((with_reducible apply ev_ne); (wtm_at "ev"); (wtm_at "ev"); rfl; (wtm_at "dc"))
  | ((with_reducible apply ev_isN); (wtm_at "ev"); (wtm_at "dc"))
  | ((with_reducible apply ev_notN); (wtm_at "ev"); (wtm_at "dc"))
  | ((with_reducible apply ev_int0); (wtm_at "ev"); (wtm_at "ev"); (wtm_at "iv"))
  | ((with_reducible apply ev_niN); (wtm_at "ev"); (wtm_at "ev"); rfl; rfl; (wtm_at "ic"))
  | ((with_reducible apply ev_inN); (wtm_at "ev"); (wtm_at "ev"); rfl; rfl; (wtm_at "ic"))
  | ((with_reducible apply eu_tup); (wtm_at "ev"); simp)
  | ((with_reducible apply el_lst); (wtm_at "ev"); simp)
  | ((with_reducible apply ev_callP); (wtm_at "ev"); (wtm_at "sv"))
  | ((with_reducible apply et_test); wtm_at "ev")
  | ((with_reducible apply et_B); wtm_at "ev")
  | ((with_reducible apply ev_andG); (wtm_at "ev"); (wtm_at "ct"))
  | ((with_reducible apply ev_orG); (wtm_at "ev"); (wtm_at "ct"))
  | ((with_reducible apply ev_notG); (wtm_at "ev"); (wtm_at "nb"))
  | ((with_reducible apply et_andG); (wtm_at "ev"); (wtm_at "ct"))
  | ((with_reducible apply et_orG); (wtm_at "ev"); (wtm_at "ct"))
  | ((with_reducible apply et_notG); (wtm_at "ev"); (wtm_at "nb"))
  | ((with_reducible apply ev_ifG); (wtm_at "ev"); (wtm_at "ct"))
  | assumption)
local macro_rules | `(tactic| wtm_at "re") => `(tactic| first
  | ((with_reducible apply re_ifG); (wtm_at "ev"); first | ((with_reducible apply ci_t); wtm_at "re") | ((with_reducible apply ci_f); wtm_at "re"))
  | ((with_reducible apply re_retV); wtm_at "ev")
  | ((with_reducible apply re_asgV); (wtm_at "ev"); (wtm_at "re"))
  | ((with_reducible apply re_par); (wtm_at "ev"); (wtm_at "re")))
local macro_rules | `(tactic| wtm_at "rs") => `(tactic| repeat ((with_reducible apply re_ifG); (wtm_at "ev"); first | (with_reducible apply ci_t) | (with_reducible apply ci_f)))


def RAnsw (K : PySem.W.Frag) : Rel := fun vs H r => ∃ (b s s' d q : Addr) (vu vd : V) (cs bs ls ls' ks kt : List Str) (F : Str → List Wo) (ea : Wo) (u v : Cd),
  vs = [.ref b, .ref s, .ref d, .ref q, vu, vd] ∧ BookAt K H b s' ks ∧ ks.Nodup ∧ ks.length ≤ 1000 ∧ ShapeAt K H s' cs bs ls' ∧ ShapeAt K H s cs bs ls ∧ ShOk cs bs ∧ Two H (cs ++ bs) u v vu vd ∧ kt.Perm ks ∧
  TabAt H d cs ls' kt F ∧ TabAt H d cs ls kt F ∧ AskAt H q bs ea ∧ WoOk bs ls ea ∧ WoOk bs ls' ea ∧ r = .val (.bl true)
/-- what lies at addresses other than d, by what is there -/
theorem tp_dict {H : Hp} {d a : Addr} {kvs : List (Key × V)} {o : HO} {xs : List V} (hd : Dk H d kvs) (h : Tp H a xs) : Tp (upd H d o) a xs := by
  have n : a ≠ d := fun z => by
    subst z
    have h := hd.symm.trans h
    cases h
  show upd H d o a = _
  rw [upd_ne n]
  exact h
theorem ls_dict {H : Hp} {d a : Addr} {kvs : List (Key × V)} {o : HO} {xs : List V} (hd : Dk H d kvs) (h : Ls H a xs) : Ls (upd H d o) a xs := by
  have n : a ≠ d := fun z => by
    subst z
    have h := hd.symm.trans h
    cases h
  show upd H d o a = _
  rw [upd_ne n]
  exact h
theorem shape_dict {K : PySem.W.Frag} {H : Hp} {d a : Addr} {kvs : List (Key × V)} {o : HO} {cs bs ls : List Str} (hd : Dk H d kvs) (h : ShapeAt K H a cs bs ls) : ShapeAt K (upd H d o) a cs bs ls := by
  obtain ⟨dx, p, q, r, h1, h2, h3, h4⟩ := h
  have n : a ≠ d := fun z => by
    subst z
    have h := hd.symm.trans h1
    cases h
  exact ⟨dx, p, q, r, by rw [upd_ne n]; exact h1, tp_dict hd h2, tp_dict hd h3, tp_dict hd h4⟩
theorem rows_dict {H : Hp} {d a : Addr} {kvs : List (Key × V)} {o : HO} {cs ls : List Str} {ers : List Wo} (hd : Dk H d kvs) (h : RowsAt H a cs ls ers) : RowsAt (upd H d o) a cs ls ers := by
  obtain ⟨ts, h1, h2, h3, h4⟩ := h
  exact ⟨ts, ls_dict hd h1, h2, h3, fun i t er a b => ⟨tp_dict hd (h4 i t er a b).1, (h4 i t er a b).2⟩⟩
theorem dko_dict {H : Hp} {d p : Addr} {kvs : List (Key × V)} {o : HO} {ks : List Key} {os : List HO} (hd : Dk H d kvs) (n : p ≠ d) (ho : ∀ o ∈ os, ∀ kvs, o ≠ .dK kvs) (h : DkO H p ks os) : DkO (upd H d o) p ks os := by
  obtain ⟨kv, h1, h2, h3, h4⟩ := h
  refine ⟨kv, by rw [upd_ne n]; exact h1, h2, h3, fun i k v o' a b => ?_⟩
  obtain ⟨c, hc, hc2⟩ := h4 i k v o' a b
  have nc : c ≠ d := fun z => by
    subst z
    have h := hd.symm.trans hc2
    cases h
    exact ho _ (List.mem_of_getElem? b) kvs rfl
  exact ⟨c, hc, by rw [upd_ne nc]; exact hc2⟩
mutual
theorem CAt.dict {H : Hp} {D : Addr} {kvs : List (Key × V)} {o : HO} (h : Dk H D kvs) : ∀ {c : Cd} {v : V}, CAt H c v → CAt (upd H D o) c v
  | .most x y c, v, hc => by
    unfold CAt at hc ⊢
    obtain ⟨a, h1, h2⟩ := hc
    exact ⟨a, h1, tp_dict h h2⟩
  | .lacks x, v, hc => by
    unfold CAt at hc ⊢
    obtain ⟨a, h1, h2⟩ := hc
    exact ⟨a, h1, tp_dict h h2⟩
  | .not b, v, hc => by
    unfold CAt at hc ⊢
    obtain ⟨a, u, h1, h2, h3⟩ := hc
    exact ⟨a, u, h1, tp_dict h h2, CAt.dict h h3⟩
  | .all cs, v, hc => by
    unfold CAt at hc ⊢
    obtain ⟨a, b, us, h1, h2, h3, h4⟩ := hc
    exact ⟨a, b, us, h1, tp_dict h h2, tp_dict h h3, CsAt.dict h h4⟩
  | .any cs, v, hc => by
    unfold CAt at hc ⊢
    obtain ⟨a, b, us, h1, h2, h3, h4⟩ := hc
    exact ⟨a, b, us, h1, tp_dict h h2, tp_dict h h3, CsAt.dict h h4⟩
theorem CsAt.dict {H : Hp} {D : Addr} {kvs : List (Key × V)} {o : HO} (h : Dk H D kvs) : ∀ {cs : List Cd} {us : List V}, CsAt H cs us → CsAt (upd H D o) cs us
  | [], us, hc => by
    unfold CsAt at hc ⊢
    exact hc
  | c :: cs, us, hc => by
    unfold CsAt at hc ⊢
    obtain ⟨u, r, h1, h2, h3⟩ := hc
    exact ⟨u, r, h1, CAt.dict h h2, CsAt.dict h h3⟩
end
section
variable {K : PySem.W.Frag} {σ : L2.St} {H : Hp} {wi : TI} {xs : List V} {j : Nat} {te : TE} {vs : List Nat}
/-- a list of dicts, each made on the way -/
theorem er_lcD {ks : List Key} {oss : List (List HO)} (hi : EvI wi σ H xs) (hz : xs.length ≤ 40000) (hl : oss.length = xs.length) (hw : ∀ x, wipe ((wipe σ vs).set j (some x)) vs = wipe σ vs)
    (he : ∀ (i : Nat) (x : V) (os : List HO) H1 N, Ex H H1 → (∀ u, H1 u = none → ¬ N u) → xs[i]? = some x → oss[i]? = some os → EvR te ((wipe σ vs).set j (some x)) H1 (.fr fun p H' => DkN N H' p ks os)) :
    EvR (tLc wi (gName j) tYes te vs) σ H (.fr fun p H' => ∃ ps : List Addr, Ls H' p (ps.map V.ref) ∧ ps.length = oss.length ∧ (∀ a ∈ ps, H a = none) ∧ ∀ (i : Nat) (a : Addr) (os : List HO), ps[i]? = some a → oss[i]? = some os → DkO H' a ks os) := fun H0 e Q q => hi H0 e _ fun J H1 e1 ⟨G, W, hG, _⟩ => fun D hD =>
  lc_it W (fun i H' => Ex H1 H' ∧ ∃ ps : List Addr, H' D = some (.lst (ps.map V.ref)) ∧ ps.length = i ∧ (∀ a ∈ ps, H a = none) ∧ ∀ (k : Nat) (a : Addr) (os : List HO), ps[k]? = some a → oss[k]? = some os → DkN (· = D) H' a ks os)
    ⟨Ex.new hD, [], upd_same, rfl, (fun a h => by cases h), (fun k a os h => by cases h)⟩ (fun i H' _ p => hG H' p.1)
    (fun i x H2 H2' hi p y => by
      obtain ⟨rfl, hx⟩ := y
      obtain ⟨p1, ps, p2, p3, p5, p4⟩ := p
      have ho : oss[i]? = some (oss[i]'(by omega)) := List.getElem?_eq_getElem (by omega)
      refine ⟨hw x, ?_⟩
      show te ((wipe σ vs).set j (some x)) H2' _
      refine he i x _ H2' (· = D) ((e.trans e1).trans p1) (fun u hu z => by rw [z, p2] at hu; cases hu) hx ho H2' (Ex.refl _) _ fun z H4 e4 ⟨b, hzb, hb1, hb2⟩ => ?_
      subst hzb
      have hD4 := e4 _ _ p2
      have up : ∀ {a : Addr} {os : List HO} {o : HO}, DkN (· = D) H4 a ks os → DkN (· = D) (upd H4 D o) a ks os := fun {a os o} ⟨kv, h1, h2, h3, h4⟩ => ⟨kv, by
        have n : a ≠ D := fun z => by
          rw [z, hD4] at h1
          cases h1
        rw [upd_ne n]
        exact h1, h2, h3, fun i k v o' x y => let ⟨c, hc, hn, hc2⟩ := h4 i k v o' x y; ⟨c, hc, hn, by rw [upd_ne hn]; exact hc2⟩⟩
      have stay : ∀ {a : Addr} {os : List HO}, DkN (· = D) H2' a ks os → DkN (· = D) H4 a ks os := fun {a os} ⟨kv, h1, h2, h3, h4⟩ => ⟨kv, e4 _ _ h1, h2, h3, fun i k v o' x y => let ⟨c, hc, hn, hc2⟩ := h4 i k v o' x y; ⟨c, hc, hn, e4 _ _ hc2⟩⟩
      refine ⟨ps.map V.ref, hD4, sz_lt (by rw [List.length_map]; omega), Ex.mut (p1.trans e4) hD, ps ++ [b], by rw [List.map_append]; exact upd_same, by rw [List.length_append, p3]; rfl, fun a ha => ?_, fun k a os h1 h2 => ?_⟩
      · rcases List.mem_append.1 ha with h | h
        · exact p5 a h
        · rw [List.mem_singleton.1 h]
          exact fresh_back ((e.trans e1).trans p1) hb1
      · by_cases hk : k < ps.length
        · rw [List.getElem?_append_left hk] at h1
          exact up (stay (p4 k a os h1 h2))
        · rw [List.getElem?_append_right (by omega)] at h1
          have h0 : k - ps.length = 0 := by
            obtain ⟨h, _⟩ := List.getElem?_eq_some_iff.mp h1
            simp at h
            omega
          rw [h0] at h1
          have h1 : b = a := Option.some.inj h1
          have hki : k = i := by omega
          subst hki h1
          rw [ho] at h2
          cases h2
          exact up hb2)
    (fun H' p => by
      obtain ⟨p1, ps, p2, p3, p5, p4⟩ := p
      exact q _ H' (e1.trans p1) ⟨D, rfl, fresh_back e1 hD, ps, p2, by omega, p5, fun i a os x y => let ⟨kv, h1, h2, h3, h4⟩ := p4 i a os x y; ⟨kv, h1, h2, h3, fun i k v o' x y => let ⟨c, hc, _, hc2⟩ := h4 i k v o' x y; ⟨c, hc, hc2⟩⟩⟩)
end
section
variable {K : PySem.W.Frag} {σ : L2.St} {H : Hp} {wi : TI} {xs ys : List V} {i j : Nat} {te : TE} {t tz : TS} {D : Ends} {d : Addr}
/-- a list of whole numbers that lies there, told from a new one -/
theorem ev_neV {ta tb : TE} {a : Addr} {is js : List Int} {b : Bool} (ha : Ev ta σ H (.ref a)) (hx : Ls H a (is.map V.int)) (hb : EvL tb σ H (js.map V.int)) (h : (!decide (is = js)) = b) : Ev (tOp (rNeD K) ta tb) σ H (.bl b) := fun H1 e Q f => ha H1 e _ fun H2 e2 => hb H2 (e.trans e2) _ fun p H3 hp e3 h3 =>
  ⟨.list (is.map PyData.int), .list (js.map PyData.int), .lst (sq_of ((e.trans (e2.trans e3)) _ _ hx)) (dpInts is), .lst (sq_of h3) (dpInts js), shInts is, shInts js, by
  have h0 : (!PyData.eqv (.list (is.map PyData.int)) (.list (js.map PyData.int))) = b := by
    rw [← h, ← eqv_ints is js]
    rfl
  rw [h0]
  exact f H3 (e2.trans e3)⟩
theorem inV_int (i : Int) : ∀ js : List Int, inV (.int i) (js.map V.int) = decide (i ∈ js)
  | [] => rfl
  | j :: js => by
    show ((j == i) || inV (.int i) (js.map V.int)) = _
    rw [inV_int i js]
    by_cases h : j = i
    · subst h
      simp
    · simp [h, Ne.symm h]
/-- a loop over pairs -/
theorem d_forP {M : Nat → L2.St → Prop} (hi : EvP wi σ H xs ys) (h0 : M 0 σ) (hs : ∀ (n : Nat) x y σ' H', xs[n]? = some x → ys[n]? = some y → Ex H H' → M n σ' → ∀ D : Ends, (∀ σ2 H2, Ex H' H2 → M (n + 1) σ2 → D.nx σ2 H2) → t D ((σ'.set i (some x)).set j (some y)) H') (hz : ∀ σ' H', Ex H H' → M xs.length σ' → D.nx σ' H') :
    tFor wi (gTup K 2 (gCons (gName i) (gCons (gName j) gNil))) t D σ H := hi H (Ex.refl H) _ fun J H1 e1 ⟨G, W, hG⟩ =>
  for_it W (fun n σ' H' => Ex H1 H' ∧ M n σ') ⟨Ex.refl _, h0⟩ (fun n σ' H' _ p => hG H' p.1) (fun n v σ' H' H2 hn p yy => by
    obtain ⟨T, x, y, rfl, hT, rfl, hx, hy⟩ := yy
    have pT : Ex H' (upd H' T (.tup [x, y])) := Ex.new hT
    refine ⟨T, [x, y], rfl, st_of upd_same, rfl, x, [y], rfl, y, [], rfl, rfl, ?_⟩
    exact hs n x y σ' _ hx hy (e1.trans (p.1.trans pT)) p.2 _ fun σ2 H3 e3 m => ⟨p.1.trans (pT.trans e3), m⟩) fun σ' H' p => hz σ' H' (e1.trans p.1) p.2
/-- a loop over a dict, locked -/
theorem r_lockK {M : Nat → L2.St → Prop} {kvs : List (Key × V)} (hv : σ[i]? = some (some (.ref d))) (hd : Dk H d kvs) (h0 : M 0 σ)
    (hs : ∀ (od : Obj) (n : Nat) x σ' H', (kvs.map fun kv => kV kv.1)[n]? = some x → Ex (upd H d (.frz od (.dK kvs))) H' → M n σ' → ∀ D : Ends, (∀ σ2 H2, Ex H' H2 → M (n + 1) σ2 → D.nx σ2 H2) → t D (σ'.set j (some x)) H')
    (hz : ∀ σ' H', Ex H H' → M kvs.length σ' → tz D σ' H') : tSeq (tLock (tFor (iKeys (tVar i)) (gName j) t)) tz D σ H :=
  ⟨d, .dK kvs, hd, True.intro, fun od => r_for (M := fun n σ' _ => M n σ') (D := ⟨fun σ' H' => H' d = some (.frz od (.dK kvs)) ∧ tz D σ' (upd H' d (.dK kvs)), fun v H' => H' d = some (.frz od (.dK kvs)) ∧ D.rt v (upd H' d (.dK kvs)), fun σ' H' => H' d = some (.frz od (.dK kvs)) ∧ D.bk σ' (upd H' d (.dK kvs)), fun σ' H' => H' d = some (.frz od (.dK kvs)) ∧ D.ct σ' (upd H' d (.dK kvs))⟩) (tz := fun _ σ' H' => H' d = some (.frz od (.dK kvs)) ∧ tz D σ' (upd H' d (.dK kvs)))
    (ei_keysF (ev_var hv) upd_same) (fun _ _ => h0) (fun n x σ' H' hx e m D f => hs od n x σ' H' hx e m D f) fun σ' H' e m => ⟨e _ _ upd_same, hz σ' _ (ex_unlock hd e) (by rw [List.length_map] at m; exact m)⟩⟩
theorem re_asgF {r : Res} {Pd : Addr → Hp → Prop} (h : EvR te σ H (.fr Pd)) (k : ∀ p H1, H p = none → Ex H H1 → Pd p H1 → RR tz (σ.set i (some (.ref p))) H1 r) : RR (tSeq (tAsg te (gName i)) tz) σ H r := fun D H1 e q => h H1 e _ fun z H2 e2 ⟨p, hz, hp, hq⟩ => by
  subst hz
  exact k p H2 (fresh_back e hp) (e.trans e2) hq D H2 (Ex.refl _) fun z' H3 e3 hz' => q z' H3 (e2.trans e3) (Res.anti e2 hz')
/-- unpacking a new list of five -/
theorem d_unl5 {a1 a2 a3 a4 a5 : V} {i1 i2 i3 i4 i5 : Nat} (h : EvL te σ H [a1, a2, a3, a4, a5]) (k : ∀ H1, Ex H H1 → tz D (((((σ.set i1 (some a1)).set i2 (some a2)).set i3 (some a3)).set i4 (some a4)).set i5 (some a5)) H1) :
    tSeq (tAsg te (gUnl K 5 (gCons (gName i1) (gCons (gName i2) (gCons (gName i3) (gCons (gName i4) (gCons (gName i5) gNil))))))) tz D σ H := h H (Ex.refl H) _ fun p H2 hp e2 h2 =>
  ⟨p, [a1, a2, a3, a4, a5], rfl, sq_of h2, rfl, a1, _, rfl, a2, _, rfl, a3, _, rfl, a4, _, rfl, a5, _, rfl, rfl, k H2 e2⟩
end
/-! ### the plain law -/
theorem DkO.getF {H : Hp} {p : Addr} {ks : List Str} {f : Str → HO} (h : DkO H p (kS ks) (ks.map f)) (nd : ks.Nodup) : ∃ kvs, Dk H p kvs ∧ ∀ z ∈ ks, ∃ b, valV kvs (Sum.inr z : Key) = some (.ref b) ∧ H b = some (f z) := by
  obtain ⟨kvs, h1, h2, h3, h4⟩ := h
  have hl : kvs.length = ks.length := by
    have := congrArg List.length h2
    rw [List.length_map, List.length_map] at this
    exact this
  refine ⟨kvs, h1, fun z hz => ?_⟩
  obtain ⟨i, hi⟩ := List.mem_iff_getElem?.mp hz
  have hlt : i < ks.length := (List.getElem?_eq_some_iff.mp hi).1
  have hkv : kvs[i]? = some (kvs[i]'(by omega)) := List.getElem?_eq_getElem (by omega)
  generalize kvs[i]'(by omega) = kv at hkv
  obtain ⟨k, v⟩ := kv
  have hk : (kvs.map (·.1))[i]? = some k := by rw [List.getElem?_map, hkv]; rfl
  rw [h2, List.getElem?_map, hi] at hk
  have hk : (Sum.inr z : Key) = k := Option.some.inj hk
  subst hk
  obtain ⟨b, hb, hb2⟩ := h4 i _ v (f z) hkv (by rw [List.getElem?_map, hi]; rfl)
  subst hb
  exact ⟨b, dget_of (by rw [h2]; exact kS_nodup nd) hkv, hb2⟩
theorem ask_ne {H : Hp} {q d : Addr} {bs cs ls kt : List Str} {ea : Wo} {F : Str → List Wo} (ha : AskAt H q bs ea) (ht : TabAt H d cs ls kt F) (hn : kt ≠ []) : q ≠ d := fun z => by
  subst z
  obtain ⟨kv, h1, h2, h3⟩ := ha
  obtain ⟨kv', g1, g2, g3⟩ := ht
  have e := h1.symm.trans g1
  cases e
  have hl : kv.length = kt.length := by
    have h := congrArg List.length g2
    rw [List.length_map, List.length_map] at h
    exact h
  cases bs with
  | nil =>
    rw [h2] at hl
    exact hn (List.length_eq_zero_iff.1 hl.symm)
  | cons z bs =>
    have hz := h3 z List.mem_cons_self
    have hm : (Sum.inr z : Key) ∈ kv.map (·.1) := by
      unfold valV at hz
      cases hf : kv.find? (fun p => decide (p.1 = (Sum.inr z : Key))) with
      | none => rw [hf] at hz; cases hz
      | some pr =>
        have h1 := List.find?_some hf
        exact List.mem_map.mpr ⟨pr, List.mem_of_find?_eq_some hf, of_decide_eq_true h1⟩
    rw [g2] at hm
    obtain ⟨y, hy, hyz⟩ := List.mem_map.1 hm
    cases hyz
    obtain ⟨a, h5, _⟩ := g3 z hy
    rw [hz] at h5
    have h5 := Option.some.inj h5
    cases hw : ea z with
    | none => rw [hw] at h5; cases h5
    | some i => rw [hw] at h5; cases h5
def tkI (p : Nat → Bool) (n : Nat) : List Int := ((List.range n).filter p).map fun (k : Nat) => (k : Int)
theorem kept_nums : ∀ bs : List Bool, kept bs (nums bs.length) = (tkI (fun k => bs[k]? == some true) bs.length).map V.int := by
  intro bs
  suffices h : ∀ n (bs : List Bool), bs.length = n → kept bs (nums n) = (tkI (fun k => bs[k]? == some true) n).map V.int from h _ bs rfl
  intro n
  induction n with
  | zero =>
    intro bs h
    rw [List.length_eq_zero_iff.1 h]
    rfl
  | succ n ih =>
    intro bs h
    have hne : bs ≠ [] := fun z => by rw [z] at h; cases h
    obtain ⟨cs, b, rfl⟩ : ∃ cs b, bs = cs ++ [b] := ⟨bs.dropLast, bs.getLast hne, (List.dropLast_concat_getLast hne).symm⟩
    have hl : cs.length = n := by simp at h; omega
    have hn : nums (n + 1) = nums n ++ [V.int (n : Int)] := by
      unfold nums
      rw [List.range_succ, List.map_append]
      rfl
    rw [hn, kept_snoc (by simp [hl]), ih cs hl]
    unfold tkI
    rw [List.range_succ, List.filter_append, List.map_append, List.map_append]
    have h1 : (List.range n).filter (fun k => (cs ++ [b])[k]? == some true) = (List.range n).filter (fun k => cs[k]? == some true) := List.filter_congr fun k hk => by
      rw [List.getElem?_append_left (by rw [hl]; exact List.mem_range.1 hk)]
    have h2 : (cs ++ [b])[n]? = some b := by
      rw [List.getElem?_append_right (by omega)]
      simp [hl]
    rw [h1]
    congr 1
    rw [List.filter_cons, h2]
    cases b <;> rfl
theorem kept_filterI (p : Int → Bool) : ∀ js : List Int, kept (js.map p) (js.map V.int) = (js.filter p).map V.int
  | [] => rfl
  | j :: js => by
    rw [List.map_cons, List.map_cons, List.filter_cons]
    cases h : p j with
    | true =>
      show V.int j :: kept (js.map p) (js.map V.int) = _
      rw [kept_filterI p js]
      rfl
    | false =>
      show kept (js.map p) (js.map V.int) = _
      rw [kept_filterI p js]
      rfl
theorem mem_tkI {p : Nat → Bool} {n k : Nat} (hk : k < n) : (decide ((k : Int) ∈ tkI p n)) = p k := by
  unfold tkI
  rw [Bool.eq_iff_iff, decide_eq_true_iff, List.mem_map]
  constructor
  · rintro ⟨a, h1, h2⟩
    have h2 : a = k := by omega
    subst h2
    exact (List.mem_filter.1 h1).2
  · exact fun h => ⟨k, List.mem_filter.2 ⟨List.mem_range.2 hk, h⟩, rfl⟩
theorem tkI_and (p q : Nat → Bool) (n : Nat) : (tkI p n).filter (fun i => decide (i ∈ tkI q n)) = tkI (fun k => p k && q k) n := by
  conv => lhs; arg 2; unfold tkI
  rw [List.filter_map, List.filter_filter]
  conv => rhs; unfold tkI
  congr 1
  refine List.filter_congr fun k hk => ?_
  show (decide ((k : Int) ∈ tkI q n) && p k) = _
  rw [mem_tkI (List.mem_range.1 hk), Bool.and_comm]
theorem t_both (a b : Option Bool) : decide (andL [a, b] = some true) = (decide (a = some true) && decide (b = some true)) := by rcases a with _ | (_ | _) <;> rcases b with _ | (_ | _) <;> rfl
theorem t_either (a b : Option Bool) : decide (orL [b, a] = some true) = (decide (a = some true) || decide (b = some true)) := by rcases a with _ | (_ | _) <;> rcases b with _ | (_ | _) <;> rfl
theorem t_other (a : Option Bool) : (decide (a = some true) && decide (a.map (fun b => !b) = some true)) = false := by rcases a with _ | (_ | _) <;> rfl
theorem t_open (a : Option Bool) : (!decide (a = some true) && !decide (a.map (fun b => !b) = some true)) = decide (a = none) := by rcases a with _ | (_ | _) <;> rfl
def tB (c : Cd) (cs : List Str) (ea : Wo) (ers : List Wo) (k : Nat) : Bool := (takeB c cs ea ers)[k]? == some true
theorem takeL_eq (c : Cd) (cs : List Str) (ea : Wo) (ers : List Wo) : takeL c cs ea ers = (tkI (tB c cs ea ers) ers.length).map V.int := by
  have h := kept_nums (takeB c cs ea ers)
  have hl : (takeB c cs ea ers).length = ers.length := by unfold takeB; rw [List.length_map]
  rw [hl] at h
  exact h
theorem tB_get {c : Cd} {cs : List Str} {ea : Wo} {ers : List Wo} {k : Nat} {er : Wo} (h : ers[k]? = some er) : tB c cs ea ers k = decide (c.truth (mixW cs er ea) = some true) := by
  unfold tB takeB
  rw [List.getElem?_map, h]
  show (some (decide _) == some true) = _
  cases decide (c.truth (mixW cs er ea) = some true) <;> rfl
theorem tB_both (u v : Cd) (cs : List Str) (ea : Wo) (ers : List Wo) (k : Nat) : tB (.all [u, v]) cs ea ers k = (tB u cs ea ers k && tB v cs ea ers k) := by
  cases h : ers[k]? with
  | none =>
    unfold tB takeB
    rw [List.getElem?_map, List.getElem?_map, List.getElem?_map, h]
    rfl
  | some er =>
    rw [tB_get h, tB_get h, tB_get h]
    simp only [Cd.truth, Cd.truths]
    exact t_both _ _
theorem tB_either (u v : Cd) (cs : List Str) (ea : Wo) (ers : List Wo) (k : Nat) : tB (.any [v, u]) cs ea ers k = (tB u cs ea ers k || tB v cs ea ers k) := by
  cases h : ers[k]? with
  | none =>
    unfold tB takeB
    rw [List.getElem?_map, List.getElem?_map, List.getElem?_map, h]
    rfl
  | some er =>
    rw [tB_get h, tB_get h, tB_get h]
    simp only [Cd.truth, Cd.truths]
    exact t_either _ _
theorem tB_other (u : Cd) (cs : List Str) (ea : Wo) (ers : List Wo) (k : Nat) : (tB u cs ea ers k && tB (.not u) cs ea ers k) = false := by
  cases h : ers[k]? with
  | none =>
    unfold tB takeB
    rw [List.getElem?_map, List.getElem?_map, h]
    rfl
  | some er =>
    rw [tB_get h, tB_get h]
    simp only [Cd.truth]
    exact t_other _
theorem tB_open {u : Cd} {cs : List Str} {ea : Wo} {ers : List Wo} {k : Nat} {er : Wo} (h : ers[k]? = some er) : (!tB u cs ea ers k && !tB (.not u) cs ea ers k) = decide (u.truth (mixW cs er ea) = none) := by
  rw [tB_get h, tB_get h]
  simp only [Cd.truth]
  exact t_open _
section
variable {K : PySem.W.Frag} {σ : L2.St} {H : Hp} {wi : TI} {j : Nat} {te : TE} {tt : TT} {vs : List Nat}
theorem el_filterI {js : List Int} {p : Int → Bool} (hi : EvI wi σ H (js.map V.int)) (hz : js.length ≤ 40000) (hw : ∀ x, wipe ((wipe σ vs).set j (some x)) vs = wipe σ vs) (ht : ∀ i ∈ js, EvT tt ((wipe σ vs).set j (some (.int i))) H (p i)) (he : ∀ x, Ev te ((wipe σ vs).set j (some x)) H x) : EvL (tLc wi (gName j) tt te vs) σ H ((js.filter p).map V.int) := by
  rw [← kept_filterI]
  refine el_lcIf hi (by rw [List.length_map]; exact hz) rfl (by rw [List.length_map, List.length_map]) hw (fun i x b hx hb => ?_) fun i x y hx hy _ => ?_
  · rw [List.getElem?_map] at hx hb
    cases hn : js[i]? with
    | none =>
      rw [hn] at hx
      cases hx
    | some n =>
      rw [hn] at hx hb
      have hx : V.int n = x := Option.some.inj hx
      have hb : p n = b := Option.some.inj hb
      subst hx hb
      exact ht n (List.mem_of_getElem? hn)
  · rw [hx] at hy
    cases hy
    exact he x
theorem ev_dgetF {ta tb : TE} {a : Addr} {o : Obj} {kvs : List (Key × V)} {z : Str} {v : V} (ha : Ev ta σ H (.ref a)) (hb : Ev tb σ H (.str z)) (hd : H a = some (.frz o (.dK kvs))) (hv : valV kvs (Sum.inr z : Key) = some v) : Ev (tDGet ta tb) σ H v := fun H1 e Q q =>
  ha H1 e _ fun H2 e2 => hb H2 (e.trans e2) _ fun H3 e3 => ⟨a, v, rfl, .inl ⟨kvs, Sum.inr z, .inr ⟨o, (e.trans (e2.trans e3)) _ _ hd⟩, rfl, hv.symm⟩, q H3 (e2.trans e3)⟩
theorem d_noZ {t : TT} {tu : TS} {D : Ends} (h : EvT t σ H false) (k : ∀ H1, Ex H H1 → D.nx σ H1) : tIfS t tu tNext D σ H := h H (Ex.refl H) _ fun H2 e2 => k H2 e2
theorem tkI_len (p : Nat → Bool) (n : Nat) : (tkI p n).length ≤ n := by
  unfold tkI
  rw [List.length_map]
  refine Nat.le_trans (List.length_filter_le _ _) ?_
  rw [List.length_range]
  exact Nat.le_refl _
def upTo (n : Nat) : List Int := (List.range n).map fun (k : Nat) => (k : Int)
theorem nums_ints (n : Nat) : nums n = (upTo n).map V.int := by
  unfold upTo
  rw [List.map_map]
  rfl
theorem ints_len (n : Nat) : (upTo n).length = n := by
  unfold upTo
  rw [List.length_map, List.length_range]
theorem ints_filter (p q : Nat → Bool) (n : Nat) : (upTo n).filter (fun i => decide (i ∈ tkI p n) || decide (i ∈ tkI q n)) = tkI (fun k => p k || q k) n := by
  unfold upTo
  rw [List.filter_map]
  conv => rhs; unfold tkI
  congr 1
  refine List.filter_congr fun k hk => ?_
  show (decide ((k : Int) ∈ tkI p n) || decide ((k : Int) ∈ tkI q n)) = _
  rw [mem_tkI (List.mem_range.1 hk), mem_tkI (List.mem_range.1 hk)]
theorem tkI_none {p : Nat → Bool} (h : ∀ k, p k = false) (n : Nat) : tkI p n = [] := by
  unfold tkI
  rw [List.filter_eq_nil_iff.2 (fun k _ => by rw [h k]; exact Bool.false_ne_true)]
  rfl
theorem flat_ints (js : List Int) : (js.map V.int).all flatV = true := by
  rw [List.all_map, List.all_eq_true]
  intro i _
  rfl
end
section
variable {P : Program} {w : World} {K : PySem.W.Frag} {mg : Str → Option Value} {base : Heap}
def nm_law_answers_right : List Str := ["_law_made", "_law_page", "_law_line_table", "_law_wish_here", "_law_uno", "_law_duo", "_law_some", "_law_found", "_law_word", "_law_one", "_law_two", "_law_both", "_law_either", "_law_other", "_law_at", "_law_line_here", "_law_told_here", "_law_single"]
theorem sc_law_answers_right : FnScope nm_law_answers_right ["_law_made", "_law_page", "_law_line_table", "_law_wish_here", "_law_uno", "_law_duo"] (defScope s_law_answers_right) := C8.fnScope_by (by decide +kernel)
theorem ok_law_answers_right (T : Tx K mg) (C_truth : C8.Cal P w K mg base 11 "truth" (PSp (RTruthFn K)) []) (C_answer : C8.Cal P w K mg base 11 "answer" (PSp (RAnswer K)) []) : C8.Cal P w K mg base 12 "_law_answers_right" (PSp (RAnsw K)) [] := by
  refine T.pf 50 50 rfl rfl sc_law_answers_right (fun _ _ _ _ _ _ us hl => match us, hl with | [_, _, _, _, _, _], _ => rfl) (fun vs H r h => ?_) (fun cdv A outer s H vs r E hr h => ?_)
  · obtain ⟨_, _, _, _, _, _, _, _, _, _, _, _, _, _, _, _, _, rfl, _⟩ := h
    rfl
  · have nd := sc_law_answers_right.nd
    have hu64 := hr.units
    have hu := hu_of hr
    refine ⟨_, (pss_cons (ps_set (i := 6) nd rfl (Or.inl rfl) (pe_lst (pa_cons (pv 4) (pa_cons (pv 5) (pa_cons (pe_tup (pa_cons pe_str (pa_cons (pe_tup (pa_cons (pv 4) (pa_cons (pv 5) pa_nil))) pa_nil))) (pa_cons (pe_tup (pa_cons pe_str (pa_cons (pe_tup (pa_cons (pv 5) (pa_cons (pv 4) pa_nil))) pa_nil))) (pa_cons (pe_tup (pa_cons pe_str (pa_cons (pv 4) pa_nil))) pa_nil)))))))
      (pss_cons (ps_setLc (i := 7) (own := [("_law_told_here", 16)]) (g := (gName 16)) rfl nd rfl rfl (sw_true rfl rfl rfl (by decide +kernel)) (pi_list (pv 6)) (blkOk_by (own := [("_law_told_here", 16)]) (N := nm_law_answers_right) (sc := defScope s_law_answers_right) (by decide +kernel)) (fun _ _ _ _ _ => (pg_name (i := 16) nd rfl (Or.inl rfl))) (fun _ _ _ _ _ => pts_nil) (fun _ _ _ _ _ => (C8.pe_c C_answer hr (by omega) (by rfl) (pa_cons (pv 0) (pa_cons (pv 16) (pa_cons (pv 2) (pa_cons (pv 3) pa_nil)))))))
      (pss_cons (ps_lock (ps_for PassesOwn.never rfl (pi_keys (pv 2)) (pg_name (i := 8) nd rfl (Or.inr rfl))
      (pss_cons (ps_asg (pe_lc (own := [("_law_single", 17)]) (g := (gName 17)) rfl nd (pi_list (pv 7)) (blkOk_by (own := [("_law_single", 17)]) (N := nm_law_answers_right) (sc := defScope s_law_answers_right) (by decide +kernel)) (fun _ _ _ _ _ => (pg_name (i := 17) nd rfl (Or.inl rfl))) (fun _ _ _ _ _ => pts_nil) (fun _ _ _ _ _ => (pe_dget hu (pv 17) (pv 8) (fun _ _ => rfl)))) (pg_unl (n := 5) rfl (pgs_cons (pg_name (i := 9) nd rfl (Or.inr rfl)) (pgs_cons (pg_name (i := 10) nd rfl (Or.inr rfl)) (pgs_cons (pg_name (i := 11) nd rfl (Or.inl rfl)) (pgs_cons (pg_name (i := 12) nd rfl (Or.inl rfl)) (pgs_cons (pg_name (i := 13) nd rfl (Or.inr rfl)) pgs_nil)))))))
      (pss_cons (ps_if (PW.pt (pw_or (pt_cmpR (op_neD hu64) (pv 11) (pe_lc (own := [("_law_at", 14)]) (g := (gName 14)) rfl nd (pi_list (pv 9)) (blkOk_by (own := [("_law_at", 14)]) (N := nm_law_answers_right) (sc := defScope s_law_answers_right) (by decide +kernel)) (fun _ _ _ _ _ => (pg_name (i := 14) nd rfl (Or.inl rfl))) (fun _ _ _ _ _ => (pts_one (pt_cmpR (q_in K rfl) (pv 14) (pv 10) (by rfl)))) (fun _ _ _ _ _ => (pv 14))) (nomark _)) (pw_or1 (pt_cmpR (op_neD hu64) (pe_lc (own := [("_law_at", 14)]) (g := (gName 14)) rfl nd (pi_list (pv 9)) (blkOk_by (own := [("_law_at", 14)]) (N := nm_law_answers_right) (sc := defScope s_law_answers_right) (by decide +kernel)) (fun _ _ _ _ _ => (pg_name (i := 14) nd rfl (Or.inl rfl))) (fun _ _ _ _ _ => (pts_one (pt_cmpR (q_in K rfl) (pv 14) (pv 13) (by rfl)))) (fun _ _ _ _ _ => (pv 14))) (pe_lst pa_nil) (nomark _)))))
      (pss_one (ps_ret pe_bl))
      pss_nil)
      (pss_cons (ps_if (pt_cmpR (op_neD hu64) (pv 12) (pe_lc (own := [("_law_at", 14)]) (g := (gName 14)) rfl nd (pi_range1 (by rfl) T.f_range (pa_cons (pe_callB cr_len (by rfl) T.f_len PySem.boot_len (pa_cons (pe_dget hu (pv 2) (pv 8) (fun _ _ => rfl)) pa_nil)) pa_nil)) (blkOk_by (own := [("_law_at", 14)]) (N := nm_law_answers_right) (sc := defScope s_law_answers_right) (by decide +kernel)) (fun _ _ _ _ _ => (pg_name (i := 14) nd rfl (Or.inl rfl))) (fun _ _ _ _ _ => (pts_one (PW.pt (pw_or (pt_cmpR (q_in K rfl) (pv 14) (pv 9) (by rfl)) (pw_or1 (pt_cmpR (q_in K rfl) (pv 14) (pv 10) (by rfl))))))) (fun _ _ _ _ _ => (pv 14))) (nomark _))
      (pss_one (ps_ret pe_bl))
      pss_nil)
      (pss_one (ps_for PassesOwn.never rfl (pi_enum (by rfl) T.f_enumerate (pa_cons (pe_dget hu (pv 2) (pv 8) (fun _ _ => rfl)) pa_nil)) (pg_tup (n := 2) rfl (pgs_cons (pg_name (i := 14) nd rfl (Or.inl rfl)) (pgs_cons (pg_name (i := 15) nd rfl (Or.inl rfl)) pgs_nil)))
      (pss_one (ps_if (pt_cmpR op_ne (pe_and (pe_cmpR op_notIn_seq (pv 14) (pv 9) (by rfl)) (pe_one (pe_cmpR op_notIn_seq (pv 14) (pv 13) (by rfl)))) (pe_cmpR op_isN2 (C8.pe_c C_truth hr (by omega) (by rfl) (pa_cons (pv 1) (pa_cons (pv 4) (pa_cons (pv 15) (pa_cons (pv 3) pa_nil))))) pe_non (nomark _)) (nomark _))
      (pss_one (ps_ret pe_bl))
      pss_nil)))))))))
      (pss_one (ps_ret pe_bl))))), ?_⟩
    obtain ⟨b, s', s2, d, q, vu, vd, cs, bs, ls, ls', ks, kt, F, ea, u, v, rfl, hB, hkn, hkl, hS2, hS, hO, h2, hpm, hT2, hT, hA, hW, hW2, rfl⟩ := h
    obtain ⟨kvs, hd, hk, hv⟩ := id hT
    refine re_asgS (er_cds (cds := [u, v, .all [u, v], .any [v, u], .not u]) (ecs_cons (ec_var rfl h2.u1) (ecs_cons (ec_var rfl h2.d1) (ecs_cons (ec_and (ecs_cons (ec_var rfl h2.u1) (ecs_cons (ec_var rfl h2.d1) ecs_nil)) (by simp)) (ecs_cons (ec_or (ecs_cons (ec_var rfl h2.d1) (ecs_cons (ec_var rfl h2.u1) ecs_nil)) (by simp)) (ecs_cons (ec_not (ec_var rfl h2.u1)) ecs_nil))))) (by simp)) fun z1 H1 e1 ⟨p1, hz1, us, hp1, hus⟩ => ?_
    subst hz1
    have hlu := hus.len
    refine re_asgF (er_lcD (ks := kS ks) (oss := [u, v, .all [u, v], .any [v, u], .not u].map fun c => ks.map fun z => HO.lst (takeL c cs ea (F z))) (ei_list (by wtm_at "ev") hp1) (by rw [hlu]; exact (show 5 ≤ 40000 by decide)) (by rw [hlu]; rfl) (fun _ => rfl) (fun i x os H2 N e2 hN hx ho => ?_)) fun p2 H2 hp2 e2 ⟨ps, hl1, hl2, hl3, hl4⟩ => ?_
    · obtain ⟨c, hci, hat⟩ := hus.get hx
      rw [List.getElem?_map, hci] at ho
      have ho := Option.some.inj ho
      subst ho
      have hok : CdOk (cs ++ bs) c := by
        have h4 := h2.uw.up (show 2 ≤ 4 by decide)
        have h5 := h2.dw.up (show 2 ≤ 4 by decide)
        have n1 := h2.un
        have n2 := h2.dn
        have hm := List.mem_of_getElem? hci
        simp only [List.mem_cons, List.not_mem_nil, or_false] at hm
        rcases hm with rfl | rfl | rfl | rfl | rfl
        · exact ⟨h2.uw.up (by decide), by omega⟩
        · exact ⟨h2.dw.up (by decide), by omega⟩
        · exact ⟨wf_all (by simp [h4, h5]) (by simp), by simp only [Cd.nt, Cd.nts]; omega⟩
        · exact ⟨wf_any (by simp [h4, h5]) (by simp), by simp only [Cd.nt, Cd.nts]; omega⟩
        · exact ⟨wf_not h4, by simp only [Cd.nt]; omega⟩
      have e12 := e1.trans e2
      refine er_call (by wtm_at "ev") fun H3 e3 => ?_
      have e03 := e12.trans e3
      exact ⟨b, s2, x, d, q, cs, bs, ls', c, ks, kt, F, ea, N, rfl, fun w hw => hN w (fresh_back e3 hw), hB.same e03, hkn, hkl, hS2.same e03, hO, hat.same (e2.trans e3), hok, hpm, hT2.same e03, hA.same e03, hW2, rfl⟩
    · have e02 := e1.trans e2
      have hd2 := e02 _ _ hd
      intro D H3 e3 fin
      have e03 := e02.trans e3
      have hd3 := e03 _ _ hd
      refine r_lockK (M := fun _ σ' => ∃ a8 a9 a10 a11 a12 a13 a14 a15 a16 a17, σ' = [some (.ref b), some (.ref s'), some (.ref d), some (.ref q), some vu, some vd, some (.ref p1), some (.ref p2), a8, a9, a10, a11, a12, a13, a14, a15, a16, a17]) rfl hd3 ⟨_, _, _, _, _, _, _, _, _, _, rfl⟩ (fun od n x σ' H' hx e ⟨a8, a9, a10, a11, a12, a13, a14, a15, a16, a17, hσ⟩ D f => ?_) fun σ' H' e ⟨a8, a9, a10, a11, a12, a13, a14, a15, a16, a17, hσ⟩ => ?_
      · subst hσ
        have hkey : ∃ z, kt[n]? = some z ∧ x = .str z := by
          rw [show (kvs.map fun kv => kV kv.1) = strV kt from by
            have h := congrArg (List.map kV) hk
            rw [List.map_map, List.map_map] at h
            exact h] at hx
          obtain ⟨z, h1, h2⟩ := strV_get hx
          exact ⟨z, h1, h2.symm⟩
        obtain ⟨z, hz, rfl⟩ := hkey
        have hzm := List.mem_of_getElem? hz
        have hqd : q ≠ d := ask_ne hA hT (fun h => by rw [h] at hzm; cases hzm)
        obtain ⟨ra, hra, hrows⟩ := hv z hzm
        have hzk : z ∈ ks := hpm.mem_iff.1 hzm
        have eB : Ex H H3 := e03
        have frows := (rows_dict (o := .frz od (.dK kvs)) hd3 (hrows.same e03)).same e
        have fsh := (shape_dict (o := .frz od (.dK kvs)) hd3 (hS.same e03)).same e
        have fu := (CAt.dict (o := .frz od (.dK kvs)) hd3 (h2.u1.same e03)).same e
        have fask : AskAt H' q bs ea := by
          obtain ⟨kv, g1, g2, g3⟩ := hA.same e03
          exact ⟨kv, e _ _ (by rw [upd_ne hqd]; exact g1), g2, g3⟩
        have ffound := e _ _ (ls_dict (o := .frz od (.dK kvs)) hd3 (e3 _ _ hl1))
        have fdk : ∀ (i : Nat) (a : Addr) (os : List HO), ps[i]? = some a → ([u, v, .all [u, v], .any [v, u], .not u].map fun c => ks.map fun z => HO.lst (takeL c cs ea (F z)))[i]? = some os → DkO H' a (kS ks) os := fun i a os g1 g2 => by
          have hpd : a ≠ d := fun w => by
            have h := hl3 a (List.mem_of_getElem? g1)
            rw [w] at h
            have h9 := e1 _ _ hd
            rw [h9] at h
            cases h
          refine (dko_dict (o := .frz od (.dK kvs)) hd3 hpd (fun o ho kv => ?_) ((hl4 i a os g1 g2).same e3)).same e
          rw [List.getElem?_map] at g2
          cases hc : [u, v, Cd.all [u, v], Cd.any [v, u], Cd.not u][i]? with
          | none => rw [hc] at g2; cases g2
          | some c =>
            rw [hc] at g2
            have g2 := Option.some.inj g2
            subst g2
            obtain ⟨_, _, rfl⟩ := List.mem_map.1 ho
            intro w
            cases w
        have each : ∀ (i : Nat) (a : Addr) (c : Cd), ps[i]? = some a → [u, v, Cd.all [u, v], Cd.any [v, u], Cd.not u][i]? = some c → ∃ kv r, Dk H' a kv ∧ valV kv (Sum.inr z : Key) = some (.ref r) ∧ Ls H' r (takeL c cs ea (F z)) := fun i a c g1 g2 => by
          obtain ⟨kv, k1, k2⟩ := (fdk i a _ g1 (by rw [List.getElem?_map, g2]; rfl)).getF hkn
          obtain ⟨r, k3, k4⟩ := k2 z hzk
          exact ⟨kv, r, k1, k3, k4⟩
        obtain ⟨q1, q2, q3, q4, q5, rfl⟩ : ∃ q1 q2 q3 q4 q5, ps = [q1, q2, q3, q4, q5] := match ps, hl2 with | [a1, a2, a3, a4, a5], _ => ⟨a1, a2, a3, a4, a5, rfl⟩
        obtain ⟨k1, r1, d1, v1, l1⟩ := each 0 q1 _ rfl rfl
        obtain ⟨k2, r2, d2, v2, l2⟩ := each 1 q2 _ rfl rfl
        obtain ⟨k3, r3, d3, v3, l3⟩ := each 2 q3 _ rfl rfl
        obtain ⟨k4, r4, d4, v4, l4⟩ := each 3 q4 _ rfl rfl
        obtain ⟨k5, r5, d5, v5, l5⟩ := each 4 q5 _ rfl rfl
        refine d_unl5 (el_lc (ys := [.ref r1, .ref r2, .ref r3, .ref r4, .ref r5]) (ei_list (by wtm_at "ev") ffound) (by simp) rfl (fun _ => rfl) (fun i x y hx hy => ?_)) fun H5 e5 => ?_
        · match i, hx, hy with
          | 0, rfl, rfl => exact ev_dgetS (by wtm_at "ev") (by wtm_at "ev") d1 v1
          | 1, rfl, rfl => exact ev_dgetS (by wtm_at "ev") (by wtm_at "ev") d2 v2
          | 2, rfl, rfl => exact ev_dgetS (by wtm_at "ev") (by wtm_at "ev") d3 v3
          | 3, rfl, rfl => exact ev_dgetS (by wtm_at "ev") (by wtm_at "ev") d4 v4
          | 4, rfl, rfl => exact ev_dgetS (by wtm_at "ev") (by wtm_at "ev") d5 v5
        · have g1 := e5 _ _ l1
          have g2 := e5 _ _ l2
          have g3 := e5 _ _ l3
          have g4 := e5 _ _ l4
          have g5 := e5 _ _ l5
          rw [takeL_eq] at g1 g2 g3 g4 g5
          obtain ⟨ts, hts, htl, hn1, hte⟩ := frows.same e5
          have hdF : H5 d = some (.frz od (.dK kvs)) := e5 _ _ (e _ _ upd_same)
          have kl : ∀ p, (tkI p (F z).length).length ≤ 40000 := fun p => Nat.le_trans (tkI_len p _) (by omega)
          refine d_no (et_or_f (et_test (ev_neV (is := tkI (tB (.all [u, v]) cs ea (F z)) (F z).length) (js := (tkI (tB u cs ea (F z)) (F z).length).filter fun i => decide (i ∈ tkI (tB v cs ea (F z)) (F z).length)) (ev_var rfl) g3 (el_filterI (ei_list (ev_var rfl) g1) (kl _) (fun _ => rfl) (fun i _ => et_test (ev_inLs (ev_var rfl) (ev_var rfl) g2 rfl (flat_ints _) (inV_int i _))) (fun x => ev_var rfl)) (by
            rw [tkI_and, show (fun k => tB u cs ea (F z) k && tB v cs ea (F z) k) = tB (.all [u, v]) cs ea (F z) from funext fun k => (tB_both u v cs ea (F z) k).symm]
            simp))) (et_test (ev_neI (is := (tkI (tB u cs ea (F z)) (F z).length).filter fun i => decide (i ∈ tkI (tB (.not u) cs ea (F z)) (F z).length)) (js := []) (el_filterI (ei_list (ev_var rfl) g1) (kl _) (fun _ => rfl) (fun i _ => et_test (ev_inLs (ev_var rfl) (ev_var rfl) g5 rfl (flat_ints _) (inV_int i _))) (fun x => ev_var rfl)) (el_lst ea_nil (by simp)) (by
            rw [tkI_and, tkI_none (fun k => tB_other u cs ea (F z) k)]
            simp)))) fun H6 e6 => ?_
          have kn := frows.same e5
          have e57 := e5.trans e6
          have q1 := e6 _ _ g1
          have q2 := e6 _ _ g2
          have q4 := e6 _ _ g4
          refine d_no (et_test (ev_neV (is := tkI (tB (.any [v, u]) cs ea (F z)) (F z).length) (js := (upTo (F z).length).filter fun i => decide (i ∈ tkI (tB u cs ea (F z)) (F z).length) || decide (i ∈ tkI (tB v cs ea (F z)) (F z).length)) (ev_var rfl) q4 (el_filterI (by
            rw [← nums_ints]
            exact ei_range (ea_cons (ev_lenL (ev_dgetF (ev_var rfl) (ev_var rfl) (e6 _ _ hdF) hra) (e6 _ _ hts) (by rw [List.length_map, htl])) ea_nil) (by omega)) (by rw [ints_len]; omega) (fun _ => rfl) (fun i _ => et_or (et_test (ev_inLs (ev_var rfl) (ev_var rfl) q1 rfl (flat_ints _) (inV_int i _))) fun _ => et_test (ev_inLs (ev_var rfl) (ev_var rfl) q2 rfl (flat_ints _) (inV_int i _))) (fun x => ev_var rfl)) (by
            rw [ints_filter, show (fun k => tB u cs ea (F z) k || tB v cs ea (F z) k) = tB (.any [v, u]) cs ea (F z) from funext fun k => (tB_either u v cs ea (F z) k).symm]
            simp))) fun H7 e7 => ?_
          have e57 := e5.trans (e6.trans e7)
          have c1 := e7 _ _ q1
          have c5 := (e6.trans e7) _ _ g5
          refine d_forP (M := fun _ σ' => ∃ a14 a15, σ' = [some (.ref b), some (.ref s'), some (.ref d), some (.ref q), some vu, some vd, some (.ref p1), some (.ref p2), some (.str z), some (.ref r1), some (.ref r2), some (.ref r3), some (.ref r4), some (.ref r5), a14, a15, a16, a17]) (ep_enum (ea_cons (ev_dgetF (ev_var rfl) (ev_var rfl) ((e6.trans e7) _ _ hdF) hra) ea_nil) ((e6.trans e7) _ _ hts)) ⟨_, _, rfl⟩ (fun k x y σ' H8 hx hy e8 ⟨a14, a15, hσ⟩ D' f' => ?_) fun σ' H8 e8 ⟨a14, a15, hσ⟩ => ?_
          · subst hσ
            rw [List.getElem?_map] at hy
            cases htk : ts[k]? with
            | none => rw [htk] at hy; cases hy
            | some t =>
              rw [htk] at hy
              have hy : V.ref t = y := Option.some.inj hy
              subst hy
              have hkl : k < ts.length := (List.getElem?_eq_some_iff.mp htk).1
              rw [nums_get (by rw [List.length_map]; exact hkl)] at hx
              have hx : V.int (k : Int) = x := Option.some.inj hx
              subst hx
              have her : (F z)[k]? = some ((F z)[k]'(by omega)) := List.getElem?_eq_getElem (by omega)
              generalize (F z)[k]'(by omega) = er at her
              obtain ⟨hrow, hwo⟩ := hte k t er htk her
              have e58 := e57.trans e8
              refine d_noZ (et_test (ev_ne (x := .bl (!tB u cs ea (F z) k && !tB (.not u) cs ea (F z) k)) (y := .bl (decide (u.truth (mixW cs er ea) = none))) (ev_andV (ev_is (ev_op (ev_var rfl) (ev_var rfl) (rv_niL (sq_of (e8 _ _ c1)) rfl (flat_ints _))) (by rw [inV_int, mem_tkI (by omega)])) fun _ => ev_is (ev_op (ev_var rfl) (ev_var rfl) (rv_niL (sq_of (e8 _ _ c5)) rfl (flat_ints _))) (by rw [inV_int, mem_tkI (by omega)])) (ev_isN (x := tv (u.truth (mixW cs er ea))) (ev_callP (by wtm_at "ev") fun H9 e9 => ?_) (by cases u.truth (mixW cs er ea) <;> rfl)) rfl (by
                rw [tB_open her]
                simp))) fun H9 e9 => f' _ H9 e9 ⟨_, _, rfl⟩
              have e59 := e58.trans e9
              exact ⟨s', cs, bs, ls, vu, u, t, er, q, ea, rfl, fsh.same e59, hO, fu.same e59, ⟨h2.uw.up (by decide), by have := h2.un; omega⟩, ((e6.trans e7).trans (e8.trans e9)) _ _ hrow, hwo, fask.same e59, hW, rfl⟩
          · subst hσ
            exact f _ H8 (e57.trans e8) ⟨_, _, _, _, _, _, _, _, _, _, rfl⟩
      · subst hσ
        exact (re_retV (fun H1 e Q f => f H1 (Ex.refl _)) : RR _ _ H' (.val (.bl true))) D H' (Ex.refl _) fun z H5 e5 hz => fin z H5 (e.trans e5) hz
end
end Ot
/-! Otherworths k13: the law -/
namespace Ot
open PySem PySem.Spec PyProof.Rows L2 Evl
local macro_rules | `(tactic| wtm_at "dc") => `(tactic| first
  | ((with_reducible apply dd_f); decide +kernel)
  | ((with_reducible apply dd_t); decide +kernel)
  | ((with_reducible apply dn_f); decide +kernel)
  | ((with_reducible apply dn_t); decide +kernel)
  | (with_reducible exact dec_int_non)
  | (with_reducible exact dec_bl_non)
  | (with_reducible exact dec_ref_non)
  | (with_reducible exact dec_str_non)
  | (with_reducible exact dec_str_ne (by assumption))
  | (with_reducible exact dec_str_eq (by assumption))
  | (with_reducible exact ndec_str_ne (by assumption))
  | (with_reducible exact ndec_str_eq (by assumption))
  | (with_reducible exact dec_int_ne (by omega))
  | (with_reducible exact dec_int_eq (by omega))
  | (with_reducible exact ndec_int_ne (by omega))
  | (with_reducible exact ndec_int_eq (by omega)))
local macro_rules | `(tactic| wtm_at "ic") => `(tactic| first
  | ((with_reducible apply iv_f); decide +kernel)
  | ((with_reducible apply iv_t); decide +kernel)
  | ((with_reducible apply ivn_f); decide +kernel)
  | ((with_reducible apply ivn_t); decide +kernel))
local macro_rules | `(tactic| wtm_at "iv") => `(tactic| first
  | exact bl_true (by omega)
  | exact bl_false (by omega)
  | rfl)
local macro_rules | `(tactic| wtm_at "ln") => `(tactic| first
  | (with_reducible exact ln0) | (with_reducible exact ln1) | (with_reducible exact ln2) | (with_reducible exact ln3) | (with_reducible exact ln4) | rfl)
local macro_rules | `(tactic| wtm_at "nb") => `(tactic| first
  | (with_reducible exact nb_t)
  | (with_reducible exact nb_f))
local macro_rules | `(tactic| wtm_at "kt") => `(tactic| first
  | (with_reducible exact kit_tt) | (with_reducible exact kit_ss) | (with_reducible exact kit_ii) | (with_reducible exact kit_ib) | (with_reducible exact kit_ni) | (with_reducible exact kit_dd) | (with_reducible exact kit_ll))
local macro_rules | `(tactic| wtm_at "vt") => `(tactic| first
  | exact .str | exact .int | exact .non | exact .bl | exact .tup (by assumption) | exact .lst (by assumption) | exact .dK (by assumption))
local macro_rules | `(tactic| wtm_at "sv") => `(tactic| assumption)
local macro_rules | `(tactic| wtm_at "ct") => `(tactic| first
  | (with_reducible exact ct_f)
  | ((with_reducible apply ct_t); wtm_at "ev")
  | (with_reducible exact cf_t)
  | ((with_reducible apply cf_f); wtm_at "ev")
  | (with_reducible exact ctv_f)
  | ((with_reducible apply ctv_t); wtm_at "ev")
  | (with_reducible exact cfv_t)
  | ((with_reducible apply cfv_f); wtm_at "ev")
  | ((with_reducible apply ci_t); wtm_at "ev")
  | ((with_reducible apply ci_f); wtm_at "ev"))
local macro_rules | `(tactic| wtm_at "ev") => `(tactic| first
  | ((with_reducible apply ev_var); rfl)
  | (with_reducible exact ev_c)
  | (with_reducible exact ea_nil)
  | ((with_reducible apply ea_cons) <;> wtm_at "ev")
  | ((with_reducible apply ev_ixT); (wtm_at "ev"); (wtm_at "ev"); assumption; rfl)
  | ((with_reducible apply ev_dgetS); (wtm_at "ev"); (wtm_at "ev"); assumption; assumption)
  | ((with_reducible apply ev_lenT); (wtm_at "ev"); assumption; (wtm_at "ln"))
  | ((with_reducible apply ev_isi); (wtm_at "ev"); (wtm_at "vt"); (wtm_at "kt"))
  | ((with_reducible apply ev_eq); (wtm_at "ev"); (wtm_at "ev"); rfl; (wtm_at "dc"))
  | ((with_reducible apply ev_ne); (wtm_at "ev"); (wtm_at "ev"); rfl; (wtm_at "dc"))
  | ((with_reducible apply ev_isN); (wtm_at "ev"); (wtm_at "dc"))
  | ((with_reducible apply ev_notN); (wtm_at "ev"); (wtm_at "dc"))
  | ((with_reducible apply ev_int0); (wtm_at "ev"); (wtm_at "ev"); (wtm_at "iv"))
  | ((with_reducible apply ev_niN); (wtm_at "ev"); (wtm_at "ev"); rfl; rfl; (wtm_at "ic"))
  | ((with_reducible apply ev_inN); (wtm_at "ev"); (wtm_at "ev"); rfl; rfl; (wtm_at "ic"))
  | ((with_reducible apply eu_tup); (wtm_at "ev"); simp)
  | ((with_reducible apply el_lst); (wtm_at "ev"); simp)
  | ((with_reducible apply ev_callP); (wtm_at "ev"); (wtm_at "sv"))
  | ((with_reducible apply et_test); wtm_at "ev")
  | ((with_reducible apply et_B); wtm_at "ev")
  | ((with_reducible apply ev_andG); (wtm_at "ev"); (wtm_at "ct"))
  | ((with_reducible apply ev_orG); (wtm_at "ev"); (wtm_at "ct"))
  | ((with_reducible apply ev_notG); (wtm_at "ev"); (wtm_at "nb"))
  | ((with_reducible apply et_andG); (wtm_at "ev"); (wtm_at "ct"))
  | ((with_reducible apply et_orG); (wtm_at "ev"); (wtm_at "ct"))
  | ((with_reducible apply et_notG); (wtm_at "ev"); (wtm_at "nb"))
  | ((with_reducible apply ev_ifG); (wtm_at "ev"); (wtm_at "ct"))
  | assumption)
local macro_rules | `(tactic| wtm_at "re") => `(tactic| first
  | ((with_reducible apply re_ifG); (wtm_at "ev"); first | ((with_reducible apply ci_t); wtm_at "re") | ((with_reducible apply ci_f); wtm_at "re"))
  | ((with_reducible apply re_retV); wtm_at "ev")
  | ((with_reducible apply re_asgV); (wtm_at "ev"); (wtm_at "re"))
  | ((with_reducible apply re_par); (wtm_at "ev"); (wtm_at "re")))
local macro_rules | `(tactic| wtm_at "rs") => `(tactic| repeat ((with_reducible apply re_ifG); (wtm_at "ev"); first | (with_reducible apply ci_t) | (with_reducible apply ci_f)))


def RLaw (K : PySem.W.Frag) : Rel := fun vs H r => ∃ (a : Addr) (ns : List Int), vs = [.ref a] ∧ SqL K H a (ns.map V.int) ∧ ns.length ≤ 1000 ∧ r = .val (.bl true)
theorem WoOk.perm {ns ls ls' : List Str} {e : Wo} (p : ls'.Perm ls) (h : WoOk ns ls e) : WoOk ns ls' e := fun z hz hn => p.mem_iff.2 (h z hz hn)
theorem RowsAt.perm {H : Hp} {a : Addr} {cs ls ls' : List Str} {ers : List Wo} (p : ls'.Perm ls) (h : RowsAt H a cs ls ers) : RowsAt H a cs ls' ers :=
  let ⟨ts, h1, h2, h3, h4⟩ := h; ⟨ts, h1, h2, h3, fun i t er a b => let ⟨x, y⟩ := h4 i t er a b; ⟨x, y.perm p⟩⟩
theorem TabAt.perm {H : Hp} {d : Addr} {cs ls ls' ks : List Str} {F : Str → List Wo} (p : ls'.Perm ls) (h : TabAt H d cs ls ks F) : TabAt H d cs ls' ks F :=
  let ⟨kvs, h1, h2, h3⟩ := h; ⟨kvs, h1, h2, fun z hz => let ⟨a, x, y⟩ := h3 z hz; ⟨a, x, y.perm p⟩⟩
theorem hid_keep {q : Dw} {H : Hp} {a : Addr} {o : HO} (s : Dr q H) (h : H a = some o) (nd : ∀ kvs, o ≠ .dK kvs) (nl : ∀ xs, o ≠ .lst xs) : hid q H a = some o := by
  obtain ⟨_, r, t, gs, cs, h1, h2, _⟩ := s
  have h1 : H q.d = _ := h1
  have h2 : H q.g = _ := h2
  rw [hid_at (fun z => ?_) (fun z => ?_)]
  · exact h
  · rw [z, h1] at h
    exact nd _ (Option.some.inj h).symm
  · rw [z, h2] at h
    exact nl _ (Option.some.inj h).symm
theorem ShapeAt.hid {K : PySem.W.Frag} {q : Dw} {H : Hp} {a : Addr} {cs bs ls : List Str} (s : Dr q H) (h : ShapeAt K H a cs bs ls) : ShapeAt K (hid q H) a cs bs ls := by
  obtain ⟨dx, x, y, z, h1, h2, h3, h4⟩ := h
  exact ⟨dx, x, y, z, hid_keep s h1 (fun _ e => by cases e) (fun _ e => by cases e), hid_keep s h2 (fun _ e => by cases e) (fun _ e => by cases e), hid_keep s h3 (fun _ e => by cases e) (fun _ e => by cases e), hid_keep s h4 (fun _ e => by cases e) (fun _ e => by cases e)⟩
section
variable {K : PySem.W.Frag} {q : Dw} {σ : L2.St} {H B : Hp} {ta tb : TE} {tr : TA} {tt : TT} {t tu tz : TS} {P1 : PV} {P2 : V → PV} {i j : Nat} {D : Ends} {a b : Addr} {xs ys : List V}
theorem el_catRR (ha : Ev ta σ H (.ref a)) (hx : Ls H a xs) (hb : Ev tb σ H (.ref b)) (hy : Ls H b ys) (hl : xs.length + ys.length ≤ 1000) : EvL (tOp rCat ta tb) σ H (xs ++ ys) := fun H1 e Q f => ha H1 e _ fun H2 e2 => hb H2 (e.trans e2) _ fun H3 e3 =>
  ⟨a, b, xs, ys, rfl, rfl, (e.trans (e2.trans e3)) _ _ hx, (e.trans (e2.trans e3)) _ _ hy, sz_of (by omega), fun l hl => f l _ (fresh_back (e2.trans e3) hl) ((e2.trans e3).trans (Ex.new hl)) upd_same⟩
theorem xd_parL (ha : EvX q ta σ B P1) (hb : ∀ x B1, Ex B B1 → P1 x B1 → EvX q tb σ B1 (P2 x)) (s : Sd q B H) (k : ∀ x y B2 H2, Ex B B2 → Sd q B2 H2 → (∃ B1, Ex B B1 ∧ Ex B1 B2 ∧ P1 x B1) → P2 x y B2 → tz D ((σ.set i (some x)).set j (some y)) H2) :
    tSeq (tPar i j (tCons ta (tCons tb tNil))) tz D σ H :=
  ha H s _ fun x B1 H1 e1 s1 p1 => hb x B1 e1 p1 H1 s1 _ fun y B2 H2 e2 s2 p2 => ⟨x, y, rfl, k x y B2 H2 (e1.trans e2) s2 ⟨B1, e1, e2, p1⟩ p2⟩
/-- a test that is false: what is under it is not run -/
theorem xd_no (h : EvT tt σ B false) (s : Sd q B H) (k : ∀ B1 H1, Ex B B1 → Sd q B1 H1 → D.nx σ H1) : tIfS tt tu tNext D σ H := h H s.le _ fun H2 e2 => k _ H2 (s.step e2).2 (s.step e2).1
/-- the outermost loop -/
theorem xdn_forR {n : Nat} (hr : EvA tr σ H [.int (n : Int)]) (hn : n ≤ 100000) (hd : Dr q H) (M : Nat → L2.St → Hp → Prop) (m0 : ∀ H1, Ex H H1 → M 0 σ (hid q H1)) (mt : ∀ (i : Nat) σ' B', i < n → M i σ' B' → XB q t (σ'.set j (some (.int (i : Int)))) B' (M (i + 1))) (mz : ∀ σ' B' H', Sd q B' H' → M n σ' B' → tz D σ' H') :
    tSeq (tFor (iRng1 tr) (gName j) t) tz D σ H := hr H (Ex.refl _) _ fun H1 e1 => by
  refine ⟨n, rfl, by omega, by omega, for_it (walk_range (n := (n : Int).toNat)) (D := { D with nx := tz D }) (fun i σ' H' => ∃ B', Sd q B' H' ∧ M i σ' B') ⟨hid q H1, ⟨hd.mono e1, Ex.refl _⟩, m0 H1 e1⟩ (fun _ _ _ _ _ => trivial) (fun i x σ' H' H2 hi ⟨B', s', m⟩ y => ?_) fun σ' H' ⟨B', s', m⟩ => mz σ' B' H' s' (by rw [Int.toNat_natCast] at m; exact m)⟩
  obtain ⟨rfl, hx⟩ := y
  have hx : x = .int (0 + i) := hx
  rw [hx, Int.zero_add]
  show t _ (σ'.set j (some (.int (i : Int)))) H2
  exact mt i σ' B' (by rw [Int.toNat_natCast] at hi; exact hi) m _ H2 s' fun σ2 B2 H3 s3 m3 => ⟨B2, s3, m3⟩
end
theorem two_of {α : Type} {zs : List α} (h : zs.length = 2) : ∃ x y, zs = [x, y] := match zs, h with | [x, y], _ => ⟨x, y, rfl⟩
section
variable {P : Program} {w : World} {K : PySem.W.Frag} {mg : Str → Option Value} {base : Heap}
/-- a def that changes nothing, its function object at hand -/
theorem fnP {x : Str} {st : Stmt} {N ps : List Str} {k : Nat} {R : Rel} {fd : FuncData} (F : FunD K x x (defArgs st) (defBody st) (defScope st) [] [] (He.ga K x) fd) (S : FnScope N ps (defScope st)) (len : ∀ vs H r, R vs H r → vs.length = ps.length)
    (body : ∀ (cdv : Value) (A : Around) (outer : List Env) (s : Shared) (H : Hp) (vs : List V) (r : Res) (E : XK), Room k (A.deeper (envOfC x (defScope st) s.heap.objs.size (He.ga K x) cdv)) → R vs H r →
      ∃ t, PSs (cxOf CX0 P w K mg base N x (defScope st) (He.ga K x) cdv A outer s H E).nox (defBody st) t ∧ RR t (start N vs) H r) : FnOk P w K mg base CX0 (k + 1) (He.ga K x) fd ps (PSp R) :=
  F.ok S (fun vs H Q E h => by
    obtain ⟨r, h, _⟩ := h
    exact len vs H r h) fun cdv A outer s H vs Q E hr h => by
    obtain ⟨r, h, q⟩ := h
    obtain ⟨t, h1, h2⟩ := body cdv A outer s H vs r E hr h
    exact ⟨t, h1.nox, h2 _ H (Ex.refl H) q⟩
def nm_law : List Str := ["_law_script", "_law_draw", "_law_turn", "_law_frame_here", "_law_page", "_law_words_here", "_law_lap", "_law_uno", "_law_duo", "_law_again", "_law_line_here", "_law_wish_here", "_law_model_here", "_law_line_table", "_law_k"]
theorem sc_law : FnScope nm_law ["_law_script"] (defScope s_law) := C8.fnScope_by (by decide +kernel)
theorem ok_law (T : Tx K mg) {fd : FuncData} (F : FunD K "law" "law" (defArgs s_law) (defBody s_law) (defScope s_law) [] [] (He.ga K "law") fd) (C_law_begin : C8.Cal P w K mg base 1 "_law_begin" (PSp (RBegin K)) []) (C_law_frame : C8.Cal P w K mg base 5 "_law_frame" (DSp RFrame) []) (C_law_shape : C8.Cal P w K mg base 6 "_law_shape" (PSp (RShapeOf K)) []) (C_law_told : C8.Cal P w K mg base 7 "_law_told" (DSp (RTold2 2)) [])
    (C_law_line : C8.Cal P w K mg base 4 "_law_line" (DSp RLine) []) (C_law_wish : C8.Cal P w K mg base 4 "_law_wish" (DSp RWish) []) (C_law_truths_right : C8.Cal P w K mg base 13 "_law_truths_right" (PSp (RTruths K)) []) (C_law_model : C8.Cal P w K mg base 6 "_law_model" (DSp RModel) [])
    (C_law_lines : C8.Cal P w K mg base 5 "_law_lines" (DSp RLines) []) (C_law_book : C8.Cal P w K mg base 13 "_law_book" (PSp (RBookOf K)) []) (C_law_answers_right : C8.Cal P w K mg base 12 "_law_answers_right" (PSp (RAnsw K)) []) : FnOk P w K mg base CX0 14 (He.ga K "law") fd ["_law_script"] (PSp (RLaw K)) := by
  refine fnP F sc_law (fun vs H r h => ?_) (fun cdv A outer s H vs r E hr h => ?_)
  · obtain ⟨_, _, rfl, _⟩ := h
    rfl
  · have nd := sc_law.nd
    have hu64 := hr.units
    have hu := hu_of hr
    refine ⟨_, (pss_cons (ps_set (i := 1) nd rfl (Or.inr rfl) (C8.pe_c C_law_begin hr (by omega) (by rfl) (pa_cons (pv 0) pa_nil)))
      (pss_cons (ps_for PassesOwn.never rfl (pi_range1 (by rfl) T.f_range (pa_cons (pe_op op_add pe_int (pe_callB (cr_min2 rfl) (by rfl) T.f_min (by decide +kernel) (pa_cons (pe_callB cr_len (by rfl) T.f_len PySem.boot_len (pa_cons (pv 0) pa_nil)) (pa_cons pe_int pa_nil)))) pa_nil)) (pg_name (i := 2) nd rfl (Or.inl rfl))
      (pss_cons (ps_set (i := 3) nd rfl (Or.inl rfl) (C8.pe_c C_law_frame hr (by omega) (by rfl) (pa_cons (pv 1) (pa_cons pe_int (pa_cons pe_int pa_nil)))))
      (pss_cons (ps_asg (pe_tup (pa_cons (C8.pe_c C_law_shape hr (by omega) (by rfl) (pa_cons (pv 3) pa_nil)) (pa_cons (pe_op op_cat (pe_dget hu (pv 3) pe_str (fun _ _ => rfl)) (pe_dget hu (pv 3) pe_str (fun _ _ => rfl))) pa_nil))) (pg_tup (n := 2) rfl (pgs_cons (pg_name (i := 4) nd rfl (Or.inl rfl)) (pgs_cons (pg_name (i := 5) nd rfl (Or.inr rfl)) pgs_nil))))
      (pss_one (ps_for PassesOwn.never rfl (pi_range1 (by rfl) T.f_range (pa_cons pe_int pa_nil)) (pg_name (i := 6) nd rfl (Or.inl rfl))
      (pss_cons (ps_asg (pe_lc (own := [("_law_k", 14)]) (g := (gName 14)) rfl nd (pi_range1 (by rfl) T.f_range (pa_cons pe_int pa_nil)) (blkOk_by (own := [("_law_k", 14)]) (N := nm_law) (sc := defScope s_law) (by decide +kernel)) (fun _ _ _ _ _ => (pg_name (i := 14) nd rfl (Or.inl rfl))) (fun _ _ _ _ _ => pts_nil) (fun _ _ _ _ _ => (C8.pe_c C_law_told hr (by omega) (by rfl) (pa_cons (pv 1) (pa_cons (pv 5) (pa_cons pe_int (pa_cons pe_int (pa_cons pe_int pa_nil)))))))) (pg_unl (n := 2) rfl (pgs_cons (pg_name (i := 7) nd rfl (Or.inl rfl)) (pgs_cons (pg_name (i := 8) nd rfl (Or.inl rfl)) pgs_nil))))
      (pss_cons (ps_for PassesOwn.never rfl (pi_range1 (by rfl) T.f_range (pa_cons pe_int pa_nil)) (pg_name (i := 9) nd rfl (Or.inl rfl))
      (pss_cons (ps_par (i := 10) (j := 11) rfl nd rfl rfl (by decide) rfl rfl (pa_cons (C8.pe_c C_law_line hr (by omega) (by rfl) (pa_cons (pv 1) (pa_cons (pv 3) (pa_cons pe_int pa_nil)))) (pa_cons (C8.pe_c C_law_wish hr (by omega) (by rfl) (pa_cons (pv 1) (pa_cons (pv 3) (pa_cons pe_int pa_nil)))) pa_nil)) (by rfl))
      (pss_one (ps_if (pt_not (pt_val (C8.pe_c C_law_truths_right hr (by omega) (by rfl) (pa_cons (pv 4) (pa_cons (pv 10) (pa_cons (pv 11) (pa_cons (pv 7) (pa_cons (pv 8) pa_nil))))))))
      (pss_one (ps_ret pe_bl))
      pss_nil))))
      (pss_cons (ps_set (i := 12) nd rfl (Or.inl rfl) (C8.pe_c C_law_model hr (by omega) (by rfl) (pa_cons (pv 1) (pa_cons (pv 3) (pa_cons pe_int (pa_cons pe_int pa_nil))))))
      (pss_cons (ps_set (i := 13) nd rfl (Or.inl rfl) (C8.pe_c C_law_lines hr (by omega) (by rfl) (pa_cons (pv 1) (pa_cons (pv 3) (pa_cons (pv 12) (pa_cons pe_int (pa_cons pe_int pa_nil)))))))
      (pss_one (ps_if (pt_not (pt_val (C8.pe_c C_law_answers_right hr (by omega) (by rfl) (pa_cons (C8.pe_c C_law_book hr (by omega) (by rfl) (pa_cons (pv 3) (pa_cons (pv 12) pa_nil))) (pa_cons (pv 4) (pa_cons (pv 13) (pa_cons (pv 11) (pa_cons (pv 7) (pa_cons (pv 8) pa_nil)))))))))
      (pss_one (ps_ret pe_bl))
      pss_nil)))))))))))
      (pss_one (ps_ret pe_bl)))), ?_⟩
    obtain ⟨a, ns, rfl, ha, hl, rfl⟩ := h
    intro D H0 e0 fin
    refine (er_call (ea_cons (ev_var rfl) ea_nil) (fun H1 e1 => ⟨a, ns, fun g => H0 g = none, rfl, ex_l (e0.trans e1) ha, by omega, fun g hg => fresh_back e1 hg, rfl⟩) : EvR (tCall (PSp (RBegin K)) [] C8.E0 (tCons (tVar 0) tNil)) (start nm_law [.ref a]) H0 (.fr fun p H' => ∃ g c, H0 g = none ∧ Dr ⟨p, g, c⟩ H')) H0 (Ex.refl _) _ fun z H1 e1 ⟨p, hz, hp, g, c, hg, hd⟩ => ?_
    subst hz
    have eh : ∀ H2, Ex H1 H2 → Ex H0 (hid ⟨p, g, c⟩ H2) := fun H2 e2 u o hu => by
      rw [hid_at (fun z => ?_) (fun z => ?_)]
      · exact e2 _ _ (e1 _ _ hu)
      · have z : u = p := z
        rw [z, hp] at hu
        cases hu
      · have z : u = g := z
        rw [z, hg] at hu
        cases hu
    obtain ⟨n, hn, hn2⟩ : ∃ n : Nat, (4 + (if (8 : Int) < ((ns.map V.int).length : Int) then (8 : Int) else ((ns.map V.int).length : Int)) : Int) = (n : Int) ∧ n ≤ 12 := by
      by_cases h : (8 : Int) < ((ns.map V.int).length : Int)
      · exact ⟨12, by rw [if_pos h]; rfl, by omega⟩
      · exact ⟨4 + (ns.map V.int).length, by rw [if_neg h]; omega, by omega⟩
    refine xdn_forR (q := ⟨p, g, c⟩) (n := n) (ea_cons (ev_is (ev_add ev_c (ev_min (ev_len (ev_var rfl) (ex_l (e0.trans e1) ha)) ev_c)) (congrArg V.int hn)) ea_nil) (by omega) hd (fun _ σ' B' => (∃ o2 o3 o4 o5 o6 o7 o8 o9 o10 o11 o12 o13 o14, σ' = [some (.ref a), some (.ref p), o2, o3, o4, o5, o6, o7, o8, o9, o10, o11, o12, o13, o14]) ∧ Ex H0 B') (fun H2 e2 => ⟨⟨_, _, _, _, _, _, _, _, _, _, _, _, _, rfl⟩, eh H2 e2⟩) ?_ ?_
    · rintro i σ' B0 hi ⟨⟨o2, o3, o4, o5, o6, o7, o8, o9, o10, o11, o12, o13, o14, rfl⟩, eB⟩
      intro D' H' s' f'
      refine xd_asg (P := fun z B' => ∃ f cs bs ls, z = .ref f ∧ FrameAt B' f cs bs ls ∧ SidesOk cs bs ls) (x_callE (vs := [.int 3, .int 3]) (by wtm_at "ev") fun B1 e1 => ⟨rfl, fun f cs bs ls B' h1 h2 => ⟨f, cs, bs, ls, rfl, h1, h2⟩⟩) s' ?_
      rintro z B1 H1' e1' s1 ⟨f, cs, bs, ls, rfl, hf, so⟩
      obtain ⟨fa, fb, fc, hf0, hfa, hfb, hfc⟩ := id hf
      have n5 := so.n5
      have c3 := so.c3
      refine xd_asg2 (P1 := fun z B' => ∃ pg ls', z = .ref pg ∧ ls'.Perm ls ∧ ShapeAt K B' pg cs bs ls') (P2 := fun _ y B' => ∃ wd, y = .ref wd ∧ Ls B' wd (strV (cs ++ bs))) (x_fr (er_call (by wtm_at "ev") fun H2 e2 => ⟨f, cs, bs, ls, rfl, hf.same e2, so, rfl⟩) fun pg H2 H3 sd e3 _ ⟨ls', h1, h2⟩ => ⟨pg, ls', rfl, h1, h2.hid (sd.dr.mono e3)⟩) (fun x B2 e2 _ => x_imp (x_el (el_catRR (ev_dgetR (by wtm_at "ev") (e2 _ _ hf0) rfl) (e2 _ _ hfa) (ev_dgetR (by wtm_at "ev") (e2 _ _ hf0) rfl) (e2 _ _ hfb) (by rw [List.length_map, List.length_map]; omega))) fun z B' _ ⟨wd, hz, hw⟩ => ⟨wd, hz, by
        show B' wd = some (.lst ((cs ++ bs).map V.str))
        rw [List.map_append]
        exact hw⟩) s1 ?_
      rintro x y B2 H2 e2 s2 ⟨B1', eB1, eB2, pg, ls', rfl, hpm, hsh⟩ ⟨wd, rfl, hwd⟩
      have hsh2 := hsh.same eB2
      have nmk : NmOk (cs ++ bs) := ⟨so.nd, fun z hz => (List.mem_append.1 hz).elim (so.c.2.1 z) (so.b.2.1 z), by rw [List.length_append]; omega⟩
      have nmb : NmOk bs := ⟨so.b.1, so.b.2.1, by omega⟩
      have shok : ShOk cs bs := ⟨fun z => by
        have h := so.c1
        rw [z] at h
        exact absurd h (by decide), so.nd, by omega⟩
      have hf2 := hf.same e2
      refine xd_forR (A := fun n _ => n = 4) (xa_of (vs := [.int 4]) (by wtm_at "ev") fun B' _ => ⟨4, rfl, by decide, rfl⟩) s2 ?_
      rintro n B3 H3 e3 s3 rfl
      refine ⟨fun _ σ' B' => (∃ o6 o7 o8 o9 o10 o11 o12 o13 o14, σ' = [some (.ref a), some (.ref p), some (.int i), some (.ref f), some (.ref pg), some (.ref wd), o6, o7, o8, o9, o10, o11, o12, o13, o14]) ∧ Ex B3 B', ⟨⟨_, _, _, _, _, _, _, _, _, rfl⟩, Ex.refl _⟩, ?_, ?_⟩
      · rintro k σ' B4 hk ⟨⟨o6, o7, o8, o9, o10, o11, o12, o13, o14, rfl⟩, e4⟩
        intro D5 H5 s5 f5
        have e24 := e3.trans e4
        have hwd4 := e24 _ _ hwd
        refine xd_unl (P2 := fun x y B' => ∃ u v, CAt B' u x ∧ CAt B' v y ∧ u.Wf (cs ++ bs) 2 ∧ v.Wf (cs ++ bs) 2 ∧ u.nt ≤ 2 ∧ v.nt ≤ 2) (x_imp (x_lc (Px := fun xs _ => ∃ n : Nat, xs = nums n ∧ n = 2) (Pe := fun _ y B' => ∃ c, CAt B' c y ∧ c.Wf (cs ++ bs) 2 ∧ c.nt ≤ 2) (wx_rangeX (A := fun n _ => n = 2) (xa_of (vs := [.int 2]) (by wtm_at "ev") fun B' _ => ⟨2, rfl, by decide, rfl⟩)) (fun xs B1 ⟨n, hx, hn⟩ => by rw [hx, List.length_map, List.length_range]; omega) (fun _ => rfl) (fun xs B1 e1 hx i x hi B2 e2 => x_callE (vs := [.ref wd, .int 2, .int 2, .int 3]) (by wtm_at "ev") fun B3 e3 => ⟨wd, cs ++ bs, 2, rfl, by decide, by decide, e3 _ _ (e2 _ _ (e1 _ _ hwd4)), nmk, fun v c B' h1 h2 h3 => ⟨c, h1, h2, h3⟩⟩) (fun x z B B' e ⟨c, h1, h2⟩ => ⟨c, h1.same e, h2⟩) (fun x z B D l o hD ⟨c, h1, h2⟩ => ⟨c, h1.off hD, h2⟩)) fun z B' _ ⟨p, xs, B1, zs, hz, _, _, _, ⟨n, hx, hn⟩, hp, hlen, hpe⟩ => ?_) s5 ?_
        rotate_left
        · rw [hx, List.length_map, List.length_range, hn] at hlen
          obtain ⟨x, y, rfl⟩ := two_of hlen
          obtain ⟨u, u1, u2, u3⟩ := hpe 0 (.int 0) x (by rw [hx, hn]; rfl) rfl
          obtain ⟨v, v1, v2, v3⟩ := hpe 1 (.int 1) y (by rw [hx, hn]; rfl) rfl
          exact ⟨p, x, y, hz, hp, u, v, u1, v1, u2, v2, u3, v3⟩
        rintro x y B6 H6 e6 s6 ⟨u, v, u1, v1, u2, v2, u3, v3⟩
        have two : Two B6 (cs ++ bs) u v x y := ⟨u1, v1, u2, v2, u3, v3⟩
        have e26 := e24.trans e6
        have hf6 := hf2.same e26
        have hsh6 := hsh2.same e26
        refine xdq_forR (A := fun n _ => n = 4) (xa_of (vs := [.int 4]) (by wtm_at "ev") fun B' _ => ⟨4, rfl, by decide, rfl⟩) s6 ?_
        rintro n B7 H7 e7 s7 rfl
        refine ⟨fun i' σ' B' => ∃ o9 o10 o11 o12 o13 o14, σ' = [some (.ref a), some (.ref p), some (.int i), some (.ref f), some (.ref pg), some (.ref wd), some (.int k), some x, some y, o9, o10, o11, o12, o13, o14] ∧ Ex B7 B' ∧ (0 < i' → ∃ w ea, o11 = some (.ref w) ∧ AskAt B' w bs ea ∧ WoOk bs ls ea), ⟨_, _, _, _, _, _, rfl, Ex.refl _, fun h => absurd h (by decide)⟩, ?_, ?_⟩
        · rintro m σ' B8 hm ⟨o9, o10, o11, o12, o13, o14, rfl, e8, _⟩
          intro D9 H9 s9 f9
          have e68 := e7.trans e8
          refine xd_parL (P1 := fun z B' => ∃ t er, z = .ref t ∧ RowAt B' t cs er ∧ WoOk cs ls er) (P2 := fun _ z B' => ∃ w ea, z = .ref w ∧ AskAt B' w bs ea ∧ WoOk bs ls ea) (x_callE (vs := [.ref f, .int 3]) (by wtm_at "ev") fun B1 e1 => ⟨f, cs, bs, ls, rfl, hf6.same (e68.trans e1), so.c.1, by omega, fun t er B' h1 h2 => ⟨t, er, rfl, h1, h2⟩⟩) (fun x1 B1 e1 _ => x_callE (vs := [.ref f, .int 3]) (by wtm_at "ev") fun B2 e2 => ⟨f, cs, bs, ls, rfl, hf6.same (e68.trans (e1.trans e2)), nmb, fun w ea B' h1 h2 => ⟨w, ea, rfl, h1, h2⟩⟩) s9 ?_
          rintro x1 y1 B10 H10 e10 s10 ⟨B10', eb1, eb2, t, er, rfl, hrow, hro⟩ ⟨w, ea, rfl, hask, hao⟩
          have e610 := e68.trans e10
          refine xd_no (et_not_f (et_test (ev_callP (by wtm_at "ev") fun H11 e11 => ⟨pg, t, w, x, y, cs, bs, ls', er, ea, u, v, rfl, ⟨(hsh6.same e610).same e11, shok, e11 _ _ (eb2 _ _ hrow), hro.perm hpm, hask.same e11, hao.perm hpm⟩, two.same (e610.trans e11), rfl⟩))) s10 fun B11 H11 e11 s11 => f9 _ B11 H11 s11 ⟨_, _, _, _, _, _, rfl, e8.trans (e10.trans e11), fun _ => ⟨w, ea, rfl, hask.same e11, hao⟩⟩
        · rintro σ' B8 H8 s8 ⟨o9, o10, o11, o12, o13, o14, rfl, e8, hw⟩
          obtain ⟨w, ea, rfl, hask, hao⟩ := hw (by decide)
          have e68 := e7.trans e8
          refine xd_asg (P := fun z B' => ∃ m ks, z = .ref m ∧ MdAt B' m ks ∧ PartsOk ks) (x_callE (vs := [.ref f, .int 0, .int 3]) (by wtm_at "ev") fun B1 e1 => ⟨f, cs, bs, ls, rfl, hf6.same (e68.trans e1), fun d ks B' h1 h2 => ⟨d, ks, rfl, h1, h2⟩⟩) s8 ?_
          rintro z B9 H9 e9 s9 ⟨m, ks, rfl, hm, po⟩
          refine xd_asg (P := fun z B' => ∃ d kt F, z = .ref d ∧ kt.Perm ks ∧ TabAt B' d cs ls kt F) (x_callE (vs := [.ref f, .ref m, .int 6, .int 3]) (by wtm_at "ev") fun B1 e1 => ⟨f, m, cs, bs, ls, ks, rfl, hf6.same (e68.trans (e9.trans e1)), so.c.1, by omega, hm.same e1, po, fun d kt F B' h1 h2 => ⟨d, kt, F, rfl, h1, h2⟩⟩) s9 ?_
          rintro z B10 H10 e10 s10 ⟨d, kt, F, rfl, hkt, htab⟩
          have e810 := e9.trans e10
          have e610 := e68.trans e810
          refine xd_no (et_not_f (et_test (ev_er (er_callA (Pv := fun ws H' => ∃ b s2 ls2 ks2, ws = [.ref b, .ref pg, .ref d, .ref w, x, y] ∧ ls2.Perm ls ∧ ks2.Perm ks ∧ ShapeAt K H' s2 cs bs ls2 ∧ BookAt K H' b s2 ks2) ?_ ?_)))) s10 fun B11 H11 e11 s11 => f5 _ B11 H11 s11 ⟨⟨_, _, _, _, _, _, _, _, _, rfl⟩, e4.trans (e6.trans (e68.trans (e810.trans e11)))⟩
          · intro H11 e11 Q q9
            refine (er_call (by wtm_at "ev") fun H12 e12 => ⟨f, m, cs, bs, ls, ks, rfl, (hf6.same e610).same e12, so, (hm.same e10).same e12, po, rfl⟩ : EvR (tCall (PSp (RBookOf K)) [] C8.E0 (tCons (tVar 3) (tCons (tVar 12) tNil))) _ B10 (.fr fun p H' => ∃ s ls' ks', ls'.Perm ls ∧ ks'.Perm ks ∧ ShapeAt K H' s cs bs ls' ∧ BookAt K H' p s ks')) H11 e11 _ fun z H12 e12 ⟨b, hz, _, s2, ls2, ks2, g1, g2, g3, g4⟩ => ?_
            exact (ea_cons (ev_var rfl) (ea_cons (ev_var rfl) (ea_cons (ev_var rfl) (ea_cons (ev_var rfl) (ea_cons (ev_var rfl) ea_nil)))) : EvA (tCons (tVar 4) (tCons (tVar 13) (tCons (tVar 11) (tCons (tVar 7) (tCons (tVar 8) tNil))))) _ B10 [.ref pg, .ref d, .ref w, x, y]) H12 (e11.trans e12) _ fun H13 e13 => q9 _ H13 (e12.trans e13) ⟨b, s2, ls2, ks2, by rw [hz], g1, g2, g3.same e13, g4.same e13⟩
          · rintro ws H11 e11 ⟨b, s2, ls2, ks2, rfl, g1, g2, g3, g4⟩
            have kl := po.l4
            exact ⟨b, pg, s2, d, w, x, y, cs, bs, ls', ls2, ks2, kt, F, ea, u, v, rfl, g4, g2.nodup_iff.mpr po.nd, by rw [g2.length_eq]; omega, g3, (hsh6.same e610).same e11, shok, two.same (e610.trans e11), hkt.trans g2.symm, (htab.perm g1).same e11, (htab.perm hpm).same e11, hask.same (e810.trans e11), hao.perm hpm, hao.perm g1, rfl⟩
      · rintro σ' B4 H4 s4 ⟨⟨o6, o7, o8, o9, o10, o11, o12, o13, o14, rfl⟩, e4⟩
        exact f' _ B4 H4 s4 ⟨⟨_, _, _, _, _, _, _, _, _, _, _, _, _, rfl⟩, eB.trans (e1'.trans (e2.trans (e3.trans e4)))⟩
    · rintro σ' B' H' s' ⟨⟨o2, o3, o4, o5, o6, o7, o8, o9, o10, o11, o12, o13, o14, rfl⟩, eB⟩
      exact fin _ H' (eB.trans s'.le) rfl
end
end Ot
/-! Otherworths k13: all defs together -/
namespace Ot
open PySem PySem.Spec PyProof.Rows L2 Evl
theorem ok_all {P : Program} {w : World} {K : PySem.W.Frag} {mg : Str → Option Value} {base : Heap} (T : Tx K mg) {fd : FuncData} (F : FunD K "law" "law" (defArgs s_law) (defBody s_law) (defScope s_law) [] [] (He.ga K "law") fd) : FnOk P w K mg base CX0 14 (He.ga K "law") fd ["_law_script"] (PSp (RLaw K)) := by
  have C_is_number := ok_is_number (P := P) (w := w) (base := base) T
  have C_is_side := ok_is_side (P := P) (w := w) (base := base) T
  have C_is_most := ok_is_most (P := P) (w := w) (base := base) T C_is_side C_is_number
  have C_is_lacks := ok_is_lacks (P := P) (w := w) (base := base) T C_is_side
  have C_is_told := ok_is_told (P := P) (w := w) (base := base) T C_is_most C_is_lacks
  have C_tests_of := ok_tests_of (P := P) (w := w) (base := base) T
  have C_worth_in := ok_worth_in (P := P) (w := w) (base := base) T
  have C_truth_of := ok_truth_of (P := P) (w := w) (base := base) T C_worth_in
  have C_is_list := ok_is_list (P := P) (w := w) (base := base) T
  have C_is_name := ok_is_name (P := P) (w := w) (base := base) T
  have C_are_names := ok_are_names (P := P) (w := w) (base := base) T C_is_list C_is_name
  have C_are_sides := ok_are_sides (P := P) (w := w) (base := base) T C_are_names
  have K_Shape := ok_Shape_init (P := P) (w := w) (base := base) T C_are_sides
  have P_columns := ok_columns (P := P) (w := w) (base := base) T
  have P_blanks := ok_blanks (P := P) (w := w) (base := base) T
  have M_is_worth := ok_is_worth (P := P) (w := w) (base := base) T C_is_number
  have M_is_row := ok_is_row (P := P) (w := w) (base := base) T M_is_worth
  have M_is_asking := ok_is_asking (P := P) (w := w) (base := base) T M_is_worth
  have C_need_shape := ok_need_shape (P := P) (w := w) (base := base) T
  have C_need_row := ok_need_row (P := P) (w := w) (base := base) T M_is_row
  have C_need_asking := ok_need_asking (P := P) (w := w) (base := base) T M_is_asking
  have C_row_worths := ok_row_worths (P := P) (w := w) (base := base) T P_columns
  have C_worths_of := ok_worths_of (P := P) (w := w) (base := base) T C_row_worths P_blanks
  have C_names_over := ok_names_over (P := P) (w := w) (base := base) T P_columns P_blanks
  have C_is_over := ok_is_over (P := P) (w := w) (base := base) T C_names_over (C_is_told 5) (C_tests_of 5)
  have C_need_condition := ok_need_condition (P := P) (w := w) (base := base) T C_is_over
  have C_truth := ok_truth (P := P) (w := w) (base := base) T C_need_shape C_need_condition C_need_row C_need_asking (C_truth_of 5) C_worths_of
  have C_are_promises := ok_are_promises (P := P) (w := w) (base := base) T C_is_list C_is_over
  have C_do_fit := ok_do_fit (P := P) (w := w) (base := base) T (C_truth_of 5)
  have K_Book := ok_Book_init (P := P) (w := w) (base := base) T C_is_name C_are_promises
  have P_shape := ok_Book_shape (P := P) (w := w) (base := base) T
  have P_parts := ok_Book_parts (P := P) (w := w) (base := base) T
  have M_promises_of := ok_promises_of (P := P) (w := w) (base := base) T
  have C_need_book := ok_need_book (P := P) (w := w) (base := base) T
  have C_are_rows := ok_are_rows (P := P) (w := w) (base := base) T C_is_list P_shape M_is_row C_do_fit M_promises_of C_row_worths
  have C_need_table := ok_need_table (P := P) (w := w) (base := base) T P_parts C_are_rows
  have C_taken := ok_taken (P := P) (w := w) (base := base) T (C_truth_of 5) C_worths_of
  have C_answer := ok_answer (P := P) (w := w) (base := base) T C_need_book C_need_condition C_need_table C_need_asking C_taken P_shape P_parts
  have C_law_blend := ok_law_blend (P := P) (w := w) (base := base) T
  have C_law_take := ok_law_take (P := P) (w := w) (base := base) T C_law_blend
  have C_law_pick := ok_law_pick (P := P) (w := w) (base := base) T C_law_take
  have C_law_mixed := ok_law_mixed (P := P) (w := w) (base := base) T C_law_take
  have C_law_words := ok_law_words (P := P) (w := w) (base := base) T C_law_take C_law_pick
  have C_law_frame := ok_law_frame (P := P) (w := w) (base := base) T C_law_take C_law_words
  have C_law_shape := ok_law_shape (P := P) (w := w) (base := base) T K_Shape
  have C_law_test := ok_law_test (P := P) (w := w) (base := base) T C_law_take C_law_pick C_law_mixed
  have hts := ok_law_tests (P := P) (w := w) (base := base) T
  have C_law_told := ok_law_told (P := P) (w := w) (base := base) T C_law_take C_law_pick C_law_test hts
  have C_law_worth := ok_law_worth (P := P) (w := w) (base := base) T C_law_take
  have C_law_line := ok_law_line (P := P) (w := w) (base := base) T C_law_worth
  have C_law_wish := ok_law_wish (P := P) (w := w) (base := base) T C_law_worth C_law_mixed
  have C_law_known := ok_law_known (P := P) (w := w) (base := base) T
  have C_law_does_fit := ok_law_does_fit (P := P) (w := w) (base := base) T C_law_known
  have C_law_book := ok_law_book (P := P) (w := w) (base := base) T C_law_shape K_Book
  have C_law_model := ok_law_model (P := P) (w := w) (base := base) T C_law_take C_law_pick C_law_words (C_law_told 0)
  have C_law_lines := ok_law_lines (P := P) (w := w) (base := base) T C_law_take C_law_mixed C_law_line C_law_does_fit
  have C_law_rank := ok_law_rank (P := P) (w := w) (base := base) T
  have C_law_ranks := ok_law_ranks (P := P) (w := w) (base := base) T C_law_rank C_truth
  have C_law_truths_right := ok_law_truths_right (P := P) (w := w) (base := base) T C_law_ranks
  have C_law_begin := ok_law_begin (P := P) (w := w) (base := base) T
  have C_law_answers_right := ok_law_answers_right (P := P) (w := w) (base := base) T C_truth C_answer
  exact ok_law T F C_law_begin C_law_frame C_law_shape (C_law_told 2) C_law_line C_law_wish C_law_truths_right C_law_model C_law_lines C_law_book C_law_answers_right
/-- the law's function object, and its promise -/
theorem facts {P : Program} {w : World} {K : PySem.W.Frag} {h : Heap} {mg : Str → Option Value} {f : Addr} (X : K.In h) (G : h.Ns mainGlobals mg) (hfa : mg ("law" : Str) = some (.ref f)) (c : obsO fas fns exs K = valO fns) :
    ∃ fd : FuncData, (∀ (s : Shared) (v : Value), BindsTo s fd ⟨[v], []⟩ [("_law_script", v)]) ∧ ∀ base : Heap, K.In base → base.Ns mainGlobals mg → FnOk P w K mg base CX0 14 f fd ["_law_script"] (PSp (RLaw K)) := by
  have T : Tx K mg := ⟨⟨h, X, G⟩, c⟩
  obtain ⟨fd, F⟩ := saysO_def c 51 (d := dG "law" s_law []) rfl
  have e := hfa.symm.trans (T.glo 51 (x := "law") rfl)
  cases e
  have b := FunD.bindsA (ps := ["_law_script"]) F fun _ _ _ _ _ _ us hl => match us, hl with | [_], _ => rfl
  exact ⟨fd, fun s v => b s [v] rfl, fun base _ _ => ok_all T F⟩
end Ot
open PySem PySem.W PySem.Calls PyProof.Rows
set_option maxHeartbeats 0 in
theorem PySem.Challenge.cw_otherworths_k13_whole_truths_put_togethe_holds : PySem.Challenge.rw_otherworths_k13_whole_truths_put_togethe.Holds := by
  w_on; o_law
  refine HandSHeadRun.head_any (r := OpenLaw.row PySem.Challenge.rw_otherworths_k13_whole_truths_put_togethe) (q := view (OpenLaw.row PySem.Challenge.rw_otherworths_k13_whole_truths_put_togethe).prog [77]) (H := Ot.hkO) (ob := Ot.obO) (M := 6000) (loose := Ot.nms) (d := HandSHeadRun.topDef (OpenLaw.row PySem.Challenge.rw_otherworths_k13_whole_truths_put_togethe).prog 77) (kwd := []) Ot.obO_eq
    (by kernel_rfl) (fun s => by kernel_rfl) Ot.run (by kernel_rfl) (by kernel_rfl) (by kernel_rfl) (by rfl) (by first | assumption | decide +kernel) (by decide +kernel) ⟨rfl, rfl, rfl, rfl, rfl, by decide +kernel⟩ ?hw ?hc
  case hw => w_witness2
  case hc =>
    refine L2.walk_ofE (l := PySem.Challenge.rw_otherworths_k13_whole_truths_put_togethe) (n := 63) (k := 14) (x := "_law_script") (CX := L2.CX0) rfl (by decide) (by kernel_rfl) ⟨rfl, by decide, by decide⟩ ?F (fun _ _ _ _ z => z)
    intro w mg fa h Y G hmg0
    obtain ⟨K, KX, c⟩ := Y
    have hmg : mg ("law" : PySem.Str) = some (.ref fa) := by
      have e : (HandSHeadRun.topDef (OpenLaw.row PySem.Challenge.rw_otherworths_k13_whole_truths_put_togethe).prog 77).name = ("law" : PySem.Str) := by kernel_rfl
      rw [← e]
      exact hmg0
    obtain ⟨fd, hb, hF⟩ := Ot.facts (P := (PySem.Challenge.rw_otherworths_k13_whole_truths_put_togethe).prog) (w := w) KX G hmg c
    exact ⟨K, fd, Ot.PSp (Ot.RLaw K), KX, hb, fun H a ns hl _ hS => ⟨_, ⟨a, ns, rfl, hS, Nat.le_trans hl (by decide), rfl⟩, fun z H' _ hz => hz⟩, hF⟩
