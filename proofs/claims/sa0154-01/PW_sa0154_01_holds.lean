import PyProof.Rows.All
import Wide.All
import OpenK.AllK
import Wide.FinOn
import Lean
import PySem.Challenge.RW_sa0154_01
set_option Elab.async false
set_option maxRecDepth 100000
set_option linter.unusedVariables false
set_option linter.unusedSimpArgs false
section
open PySem PySem.W PyProof.Rows PySem.Challenge
set_option maxHeartbeats 0
namespace Mine
/-! ## The head: the text's top is run at once, by one evaluation in the kernel -/
noncomputable def fnS (p : Program) (i : Nat) : Stmt := (p.main.body[i]?).getD (.Pass ⟨0, 0, 0, 0⟩)
noncomputable def mtS (p : Program) (i j : Nat) : Stmt := match fnS p i with
  | .ClassDef _ _ _ b _ _ _ _ _ _ _ => (b[j]?).getD (.Pass ⟨0, 0, 0, 0⟩)
  | s => s
noncomputable def parO : Stmt → Arguments
  | .FunctionDef _ a _ _ _ _ _ _ _ _ => a
  | _ => ⟨[], [], none, [], [], none, []⟩
noncomputable def bodO : Stmt → List Stmt
  | .FunctionDef _ _ b _ _ _ _ _ _ _ => b
  | _ => []
noncomputable def scpO : Stmt → Scope
  | .FunctionDef _ _ _ _ _ _ sc _ _ _ => sc
  | _ => { kind := .function, names := [], isGenerator := false, isCoroutine := false }
noncomputable def fdOf (s : Stmt) (name qual : Str) (dV kV doc pm cd ct : Value) : FuncData :=
  { name := name, qualname := qual, params := parO s, body := .stmts (bodO s), scope := scpO s, globals := mainGlobals, closure := [], defaults := dV, kwdefaults := kV, doc := doc, pyModule := pm, annotations := none, code := cd, closureTuple := ct, builtins := builtinsNs }
noncomputable def fnD (s : Stmt) (name qual : Str) (dV kV doc pm cd ct : Value) : Data := .func (fdOf s name qual dV kV doc pm cd ct)
noncomputable def Kof (p : Program) (P : Params) : Frag := [
  (31, ⟨(.type "type"), none, (.cls { name := (Str.ofString "ClausemillError"), bases := [(.type "Exception")], mro := [(.ref 31), (.type "Exception"), (.type "BaseException"), (.type "object")], ns := 30, qualname := (Str.ofString "ClausemillError"), hasDict := true, slotNames := [], subclasses := [(.ref 51)], abstract := false, collection := none, hasDel := false }), [(some (.ref 22)), none, (some (.str (Str.ofString "ClausemillError") 196)), (some (.str (Str.ofString "ClausemillError") 204)), (some (.builtin "Exception.__new__")), (some (.bool true))].toArray⟩),
  (51, ⟨(.type "type"), none, (.cls { name := (Str.ofString "SyntaxFault"), bases := [(.ref 31)], mro := [(.ref 51), (.ref 31), (.type "Exception"), (.type "BaseException"), (.type "object")], ns := 50, qualname := (Str.ofString "SyntaxFault"), hasDict := true, slotNames := [], subclasses := [], abstract := false, collection := none, hasDel := false }), [(some (.ref 35)), none, (some (.str (Str.ofString "SyntaxFault") 216)), (some (.str (Str.ofString "SyntaxFault") 224)), (some (.builtin "Exception.__new__")), (some (.bool true))].toArray⟩),
  (154, ⟨(.type "type"), none, (.cls { name := (Str.ofString "Symbols"), bases := [(.type "object")], mro := [(.ref 154), (.type "object")], ns := 153, qualname := (Str.ofString "Symbols"), hasDict := true, slotNames := [], subclasses := [], abstract := false, collection := none, hasDel := false }), [none, none, (some (.str (Str.ofString "Symbols") 271)), (some (.str (Str.ofString "Symbols") 279)), (some (.builtin "object.__new__")), (some (.bool true))].toArray⟩),
  (286, ⟨(.type "type"), none, (.cls { name := (Str.ofString "OperatorTable"), bases := [(.type "object")], mro := [(.ref 286), (.type "object")], ns := 285, qualname := (Str.ofString "OperatorTable"), hasDict := true, slotNames := [], subclasses := [], abstract := false, collection := none, hasDel := false }), [none, none, (some (.str (Str.ofString "OperatorTable") 469)), (some (.str (Str.ofString "OperatorTable") 477)), (some (.builtin "object.__new__")), (some (.bool true))].toArray⟩),
  (309, ⟨(.type "type"), none, (.cls { name := (Str.ofString "Frame"), bases := [(.type "object")], mro := [(.ref 309), (.type "object")], ns := 308, qualname := (Str.ofString "Frame"), hasDict := true, slotNames := [], subclasses := [], abstract := false, collection := none, hasDel := false }), [none, none, (some (.str (Str.ofString "Frame") 588)), (some (.str (Str.ofString "Frame") 596)), (some (.builtin "object.__new__")), (some (.bool true))].toArray⟩),
  (517, ⟨(.type "type"), none, (.cls { name := (Str.ofString "Parser"), bases := [(.type "object")], mro := [(.ref 517), (.type "object")], ns := 516, qualname := (Str.ofString "Parser"), hasDict := true, slotNames := [], subclasses := [], abstract := false, collection := none, hasDel := false }), [none, none, (some (.str (Str.ofString "Parser") 646)), (some (.str (Str.ofString "Parser") 654)), (some (.builtin "object.__new__")), (some (.bool true))].toArray⟩),
  (3, ⟨(.type "dict"), none, (.dict [⟨PyData.keyHash P (Str.ofString "__name__"), (.str (Str.ofString "__name__") 165), (.str (Str.ofString "law_sa0154_01") 902)⟩, ⟨PyData.keyHash P (Str.ofString "__doc__"), (.str (Str.ofString "__doc__") 166), .none⟩, ⟨PyData.keyHash P (Str.ofString "__package__"), (.str (Str.ofString "__package__") 167), .none⟩, ⟨PyData.keyHash P (Str.ofString "__loader__"), (.str (Str.ofString "__loader__") 168), (.builtin "__main__.__loader__#opaque")⟩, ⟨PyData.keyHash P (Str.ofString "__spec__"), (.str (Str.ofString "__spec__") 169), .none⟩, ⟨PyData.keyHash P (Str.ofString "__annotations__"), (.str (Str.ofString "__annotations__") 170), (.ref 6)⟩, ⟨PyData.keyHash P (Str.ofString "__builtins__"), (.str (Str.ofString "__builtins__") 171), (.ref 4)⟩, ⟨PyData.keyHash P (Str.ofString "__file__"), (.str (Str.ofString "__file__") 173), (.str (Str.ofString "/claim/cut.py") 172)⟩, ⟨PyData.keyHash P (Str.ofString "__cached__"), (.str (Str.ofString "__cached__") 174), .none⟩, ⟨PyData.keyHash P (Str.ofString "_wall"), (.str (Str.ofString "_wall") 193), (.ref 21)⟩, ⟨PyData.keyHash P (Str.ofString "ClausemillError"), (.str (Str.ofString "ClausemillError") 215), (.ref 31)⟩, ⟨PyData.keyHash P (Str.ofString "SyntaxFault"), (.str (Str.ofString "SyntaxFault") 246), (.ref 51)⟩, ⟨PyData.keyHash P (Str.ofString "A_NIL"), (.str (Str.ofString "A_NIL") 248), (.int (0) 247)⟩, ⟨PyData.keyHash P (Str.ofString "A_CURLY"), (.str (Str.ofString "A_CURLY") 250), (.int (2) 249)⟩, ⟨PyData.keyHash P (Str.ofString "A_COMMA"), (.str (Str.ofString "A_COMMA") 252), (.int (7) 251)⟩, ⟨PyData.keyHash P (Str.ofString "A_BAR"), (.str (Str.ofString "A_BAR") 254), (.int (8) 253)⟩, ⟨PyData.keyHash P (Str.ofString "F_DOT"), (.str (Str.ofString "F_DOT") 256), (.int (0) 255)⟩, ⟨PyData.keyHash P (Str.ofString "F_CURLY"), (.str (Str.ofString "F_CURLY") 258), (.int (9) 257)⟩, ⟨PyData.keyHash P (Str.ofString "fixed_atoms"), (.str (Str.ofString "fixed_atoms") 264), (.ref 60)⟩, ⟨PyData.keyHash P (Str.ofString "fixed_functors"), (.str (Str.ofString "fixed_functors") 270), (.ref 67)⟩, ⟨PyData.keyHash P (Str.ofString "Symbols"), (.str (Str.ofString "Symbols") 389), (.ref 154)⟩, ⟨PyData.keyHash P (Str.ofString "NIL"), (.str (Str.ofString "NIL") 393), (.ref 159)⟩, ⟨PyData.keyHash P (Str.ofString "var"), (.str (Str.ofString "var") 400), (.ref 166)⟩, ⟨PyData.keyHash P (Str.ofString "atom"), (.str (Str.ofString "atom") 407), (.ref 173)⟩, ⟨PyData.keyHash P (Str.ofString "integer"), (.str (Str.ofString "integer") 414), (.ref 180)⟩, ⟨PyData.keyHash P (Str.ofString "struct"), (.str (Str.ofString "struct") 422), (.ref 187)⟩, ⟨PyData.keyHash P (Str.ofString "list_term"), (.str (Str.ofString "list_term") 432), (.ref 195)⟩, ⟨PyData.keyHash P (Str.ofString "COMMA_PRIORITY"), (.str (Str.ofString "COMMA_PRIORITY") 436), (.int (1000) 435)⟩, ⟨PyData.keyHash P (Str.ofString "PREFIX_TYPES"), (.str (Str.ofString "PREFIX_TYPES") 439), (.ref 196)⟩, ⟨PyData.keyHash P (Str.ofString "INFIX_TYPES"), (.str (Str.ofString "INFIX_TYPES") 443), (.ref 197)⟩, ⟨PyData.keyHash P (Str.ofString "POSTFIX_TYPES"), (.str (Str.ofString "POSTFIX_TYPES") 446), (.ref 198)⟩, ⟨PyData.keyHash P (Str.ofString "standard_rows"), (.str (Str.ofString "standard_rows") 452), (.ref 205)⟩, ⟨PyData.keyHash P (Str.ofString "fixity"), (.str (Str.ofString "fixity") 459), (.ref 212)⟩, ⟨PyData.keyHash P (Str.ofString "bounds"), (.str (Str.ofString "bounds") 468), (.ref 219)⟩, ⟨PyData.keyHash P (Str.ofString "OperatorTable"), (.str (Str.ofString "OperatorTable") 568), (.ref 286)⟩, ⟨PyData.keyHash P (Str.ofString "CLAUSE_PRIORITY"), (.str (Str.ofString "CLAUSE_PRIORITY") 572), (.int (1200) 571)⟩, ⟨PyData.keyHash P (Str.ofString "ARGUMENT_PRIORITY"), (.str (Str.ofString "ARGUMENT_PRIORITY") 574), (.int (999) 573)⟩, ⟨PyData.keyHash P (Str.ofString "WANT_OPERAND"), (.str (Str.ofString "WANT_OPERAND") 576), (.int (0) 575)⟩, ⟨PyData.keyHash P (Str.ofString "WANT_OPERATOR"), (.str (Str.ofString "WANT_OPERATOR") 578), (.int (1) 577)⟩, ⟨PyData.keyHash P (Str.ofString "DONE"), (.str (Str.ofString "DONE") 580), (.int (2) 579)⟩, ⟨PyData.keyHash P (Str.ofString "CLOSERS"), (.str (Str.ofString "CLOSERS") 584), (.ref 291)⟩, ⟨PyData.keyHash P (Str.ofString "SEPARATORS"), (.str (Str.ofString "SEPARATORS") 587), (.ref 292)⟩, ⟨PyData.keyHash P (Str.ofString "Frame"), (.str (Str.ofString "Frame") 623), (.ref 309)⟩, ⟨PyData.keyHash P (Str.ofString "ends_operand"), (.str (Str.ofString "ends_operand") 630), (.ref 320)⟩, ⟨PyData.keyHash P (Str.ofString "closes"), (.str (Str.ofString "closes") 637), (.ref 327)⟩, ⟨PyData.keyHash P (Str.ofString "is_punct"), (.str (Str.ofString "is_punct") 645), (.ref 334)⟩, ⟨PyData.keyHash P (Str.ofString "Parser"), (.str (Str.ofString "Parser") 901), (.ref 517)⟩, ⟨PyData.keyHash P (Str.ofString "_law_figures"), (.str (Str.ofString "_law_figures") 914), (.ref 528)⟩, ⟨PyData.keyHash P (Str.ofString "_law_tokens"), (.str (Str.ofString "_law_tokens") 928), (.ref 535)⟩, ⟨PyData.keyHash P (Str.ofString "_law_sides"), (.str (Str.ofString "_law_sides") 937), (.ref 542)⟩, ⟨PyData.keyHash P (Str.ofString "_law_unfold"), (.str (Str.ofString "_law_unfold") 956), (.ref 549)⟩, ⟨PyData.keyHash P (Str.ofString "_law_sound"), (.str (Str.ofString "_law_sound") 962), (.ref 554)⟩, ⟨PyData.keyHash P (Str.ofString "law"), (.str (Str.ofString "law") 968), (.ref 559)⟩].toArray 53), [].toArray⟩),
  (30, ⟨(.type "dict"), none, (.dict [⟨PyData.keyHash P (Str.ofString "__module__"), (.str (Str.ofString "__module__") 203), (.str (Str.ofString "clausemill.symbols") 194)⟩, ⟨PyData.keyHash P (Str.ofString "__firstlineno__"), (.str (Str.ofString "__firstlineno__") 207), (.int (5) 206)⟩, ⟨PyData.keyHash P (Str.ofString "__static_attributes__"), (.str (Str.ofString "__static_attributes__") 208), (.ref 29)⟩, ⟨PyData.keyHash P (Str.ofString "__weakref__"), (.str (Str.ofString "__weakref__") 210), (.ref 32)⟩, ⟨PyData.keyHash P (Str.ofString "__doc__"), (.str (Str.ofString "__doc__") 211), .none⟩].toArray 3), [].toArray⟩),
  (50, ⟨(.type "dict"), none, (.dict [⟨PyData.keyHash P (Str.ofString "__module__"), (.str (Str.ofString "__module__") 223), (.str (Str.ofString "clausemill.symbols") 194)⟩, ⟨PyData.keyHash P (Str.ofString "__firstlineno__"), (.str (Str.ofString "__firstlineno__") 227), (.int (7) 226)⟩, ⟨PyData.keyHash P (Str.ofString "__init__"), (.str (Str.ofString "__init__") 238), (.ref 48)⟩, ⟨PyData.keyHash P (Str.ofString "__static_attributes__"), (.str (Str.ofString "__static_attributes__") 243), (.ref 49)⟩, ⟨PyData.keyHash P (Str.ofString "__doc__"), (.str (Str.ofString "__doc__") 244), .none⟩].toArray 2), [].toArray⟩),
  (153, ⟨(.type "dict"), none, (.dict [⟨PyData.keyHash P (Str.ofString "__module__"), (.str (Str.ofString "__module__") 278), (.str (Str.ofString "clausemill.symbols") 194)⟩, ⟨PyData.keyHash P (Str.ofString "__firstlineno__"), (.str (Str.ofString "__firstlineno__") 282), (.int (24) 281)⟩, ⟨PyData.keyHash P (Str.ofString "__init__"), (.str (Str.ofString "__init__") 291), (.ref 81)⟩, ⟨PyData.keyHash P (Str.ofString "atom"), (.str (Str.ofString "atom") 301), (.ref 88)⟩, ⟨PyData.keyHash P (Str.ofString "text"), (.str (Str.ofString "text") 309), (.ref 95)⟩, ⟨PyData.keyHash P (Str.ofString "functor"), (.str (Str.ofString "functor") 321), (.ref 102)⟩, ⟨PyData.keyHash P (Str.ofString "func"), (.str (Str.ofString "func") 330), (.ref 109)⟩, ⟨PyData.keyHash P (Str.ofString "name"), (.str (Str.ofString "name") 338), (.ref 116)⟩, ⟨PyData.keyHash P (Str.ofString "arity"), (.str (Str.ofString "arity") 346), (.ref 123)⟩, ⟨PyData.keyHash P (Str.ofString "label"), (.str (Str.ofString "label") 354), (.ref 130)⟩, ⟨PyData.keyHash P (Str.ofString "count"), (.str (Str.ofString "count") 361), (.ref 137)⟩, ⟨PyData.keyHash P (Str.ofString "functor_count"), (.str (Str.ofString "functor_count") 368), (.ref 144)⟩, ⟨PyData.keyHash P (Str.ofString "known"), (.str (Str.ofString "known") 377), (.ref 151)⟩, ⟨PyData.keyHash P (Str.ofString "__static_attributes__"), (.str (Str.ofString "__static_attributes__") 382), (.ref 152)⟩, ⟨PyData.keyHash P (Str.ofString "__dict__"), (.str (Str.ofString "__dict__") 384), (.ref 155)⟩, ⟨PyData.keyHash P (Str.ofString "__weakref__"), (.str (Str.ofString "__weakref__") 386), (.ref 156)⟩, ⟨PyData.keyHash P (Str.ofString "__doc__"), (.str (Str.ofString "__doc__") 387), .none⟩].toArray 4), [].toArray⟩),
  (285, ⟨(.type "dict"), none, (.dict [⟨PyData.keyHash P (Str.ofString "__module__"), (.str (Str.ofString "__module__") 476), (.str (Str.ofString "clausemill.operators") 433)⟩, ⟨PyData.keyHash P (Str.ofString "__firstlineno__"), (.str (Str.ofString "__firstlineno__") 480), (.int (123) 479)⟩, ⟨PyData.keyHash P (Str.ofString "__init__"), (.str (Str.ofString "__init__") 493), (.ref 234)⟩, ⟨PyData.keyHash P (Str.ofString "prefix"), (.str (Str.ofString "prefix") 501), (.ref 241)⟩, ⟨PyData.keyHash P (Str.ofString "infix"), (.str (Str.ofString "infix") 509), (.ref 248)⟩, ⟨PyData.keyHash P (Str.ofString "postfix"), (.str (Str.ofString "postfix") 517), (.ref 255)⟩, ⟨PyData.keyHash P (Str.ofString "is_operator"), (.str (Str.ofString "is_operator") 525), (.ref 262)⟩, ⟨PyData.keyHash P (Str.ofString "table_of"), (.str (Str.ofString "table_of") 534), (.ref 269)⟩, ⟨PyData.keyHash P (Str.ofString "add"), (.str (Str.ofString "add") 545), (.ref 276)⟩, ⟨PyData.keyHash P (Str.ofString "rows"), (.str (Str.ofString "rows") 556), (.ref 283)⟩, ⟨PyData.keyHash P (Str.ofString "__static_attributes__"), (.str (Str.ofString "__static_attributes__") 561), (.ref 284)⟩, ⟨PyData.keyHash P (Str.ofString "__dict__"), (.str (Str.ofString "__dict__") 563), (.ref 287)⟩, ⟨PyData.keyHash P (Str.ofString "__weakref__"), (.str (Str.ofString "__weakref__") 565), (.ref 288)⟩, ⟨PyData.keyHash P (Str.ofString "__doc__"), (.str (Str.ofString "__doc__") 566), .none⟩].toArray 4), [].toArray⟩),
  (308, ⟨(.type "dict"), none, (.dict [⟨PyData.keyHash P (Str.ofString "__module__"), (.str (Str.ofString "__module__") 595), (.str (Str.ofString "clausemill.parser") 569)⟩, ⟨PyData.keyHash P (Str.ofString "__firstlineno__"), (.str (Str.ofString "__firstlineno__") 599), (.int (177) 598)⟩, ⟨PyData.keyHash P (Str.ofString "__init__"), (.str (Str.ofString "__init__") 608), (.ref 306)⟩, ⟨PyData.keyHash P (Str.ofString "__static_attributes__"), (.str (Str.ofString "__static_attributes__") 616), (.ref 307)⟩, ⟨PyData.keyHash P (Str.ofString "__dict__"), (.str (Str.ofString "__dict__") 618), (.ref 310)⟩, ⟨PyData.keyHash P (Str.ofString "__weakref__"), (.str (Str.ofString "__weakref__") 620), (.ref 311)⟩, ⟨PyData.keyHash P (Str.ofString "__doc__"), (.str (Str.ofString "__doc__") 621), .none⟩].toArray 4), [].toArray⟩),
  (516, ⟨(.type "dict"), none, (.dict [⟨PyData.keyHash P (Str.ofString "__module__"), (.str (Str.ofString "__module__") 653), (.str (Str.ofString "clausemill.parser") 569)⟩, ⟨PyData.keyHash P (Str.ofString "__firstlineno__"), (.str (Str.ofString "__firstlineno__") 657), (.int (193) 656)⟩, ⟨PyData.keyHash P (Str.ofString "__init__"), (.str (Str.ofString "__init__") 668), (.ref 348)⟩, ⟨PyData.keyHash P (Str.ofString "clause"), (.str (Str.ofString "clause") 678), (.ref 355)⟩, ⟨PyData.keyHash P (Str.ofString "singles"), (.str (Str.ofString "singles") 685), (.ref 362)⟩, ⟨PyData.keyHash P (Str.ofString "peek"), (.str (Str.ofString "peek") 692), (.ref 369)⟩, ⟨PyData.keyHash P (Str.ofString "take"), (.str (Str.ofString "take") 700), (.ref 376)⟩, ⟨PyData.keyHash P (Str.ofString "fault"), (.str (Str.ofString "fault") 709), (.ref 383)⟩, ⟨PyData.keyHash P (Str.ofString "misplaced"), (.str (Str.ofString "misplaced") 719), (.ref 390)⟩, ⟨PyData.keyHash P (Str.ofString "parse"), (.str (Str.ofString "parse") 728), (.ref 397)⟩, ⟨PyData.keyHash P (Str.ofString "settle"), (.str (Str.ofString "settle") 737), (.ref 404)⟩, ⟨PyData.keyHash P (Str.ofString "enter"), (.str (Str.ofString "enter") 748), (.ref 411)⟩, ⟨PyData.keyHash P (Str.ofString "operand"), (.str (Str.ofString "operand") 757), (.ref 418)⟩, ⟨PyData.keyHash P (Str.ofString "named"), (.str (Str.ofString "named") 767), (.ref 425)⟩, ⟨PyData.keyHash P (Str.ofString "operator_operand"), (.str (Str.ofString "operator_operand") 778), (.ref 432)⟩, ⟨PyData.keyHash P (Str.ofString "stands_alone"), (.str (Str.ofString "stands_alone") 785), (.ref 439)⟩, ⟨PyData.keyHash P (Str.ofString "variable"), (.str (Str.ofString "variable") 794), (.ref 446)⟩, ⟨PyData.keyHash P (Str.ofString "string"), (.str (Str.ofString "string") 800), (.ref 451)⟩, ⟨PyData.keyHash P (Str.ofString "operator_name"), (.str (Str.ofString "operator_name") 808), (.ref 458)⟩, ⟨PyData.keyHash P (Str.ofString "operator"), (.str (Str.ofString "operator") 817), (.ref 465)⟩, ⟨PyData.keyHash P (Str.ofString "admits"), (.str (Str.ofString "admits") 825), (.ref 472)⟩, ⟨PyData.keyHash P (Str.ofString "shift_infix"), (.str (Str.ofString "shift_infix") 835), (.ref 479)⟩, ⟨PyData.keyHash P (Str.ofString "apply_postfix"), (.str (Str.ofString "apply_postfix") 844), (.ref 486)⟩, ⟨PyData.keyHash P (Str.ofString "reduce"), (.str (Str.ofString "reduce") 852), (.ref 493)⟩, ⟨PyData.keyHash P (Str.ofString "close"), (.str (Str.ofString "close") 862), (.ref 500)⟩, ⟨PyData.keyHash P (Str.ofString "separated"), (.str (Str.ofString "separated") 871), (.ref 507)⟩, ⟨PyData.keyHash P (Str.ofString "closed"), (.str (Str.ofString "closed") 880), (.ref 514)⟩, ⟨PyData.keyHash P (Str.ofString "__static_attributes__"), (.str (Str.ofString "__static_attributes__") 894), (.ref 515)⟩, ⟨PyData.keyHash P (Str.ofString "__dict__"), (.str (Str.ofString "__dict__") 896), (.ref 518)⟩, ⟨PyData.keyHash P (Str.ofString "__weakref__"), (.str (Str.ofString "__weakref__") 898), (.ref 519)⟩, ⟨PyData.keyHash P (Str.ofString "__doc__"), (.str (Str.ofString "__doc__") 899), .none⟩].toArray 4), [].toArray⟩),
  (48, ⟨(.type "function"), none, (fnD (mtS p 3 0) (Str.ofString "__init__") (Str.ofString "SyntaxFault.__init__") .none .none .none (.str (Str.ofString "clausemill.symbols") 194) (.ref 47) .none), [].toArray⟩),
  (60, ⟨(.type "function"), none, (fnD (fnS p 10) (Str.ofString "fixed_atoms") (Str.ofString "fixed_atoms") .none .none .none (.str (Str.ofString "clausemill.symbols") 194) (.ref 59) .none), [].toArray⟩),
  (67, ⟨(.type "function"), none, (fnD (fnS p 11) (Str.ofString "fixed_functors") (Str.ofString "fixed_functors") .none .none .none (.str (Str.ofString "clausemill.symbols") 194) (.ref 66) .none), [].toArray⟩),
  (81, ⟨(.type "function"), none, (fnD (mtS p 12 0) (Str.ofString "__init__") (Str.ofString "Symbols.__init__") .none .none .none (.str (Str.ofString "clausemill.symbols") 194) (.ref 80) .none), [].toArray⟩),
  (88, ⟨(.type "function"), none, (fnD (mtS p 12 1) (Str.ofString "atom") (Str.ofString "Symbols.atom") .none .none .none (.str (Str.ofString "clausemill.symbols") 194) (.ref 87) .none), [].toArray⟩),
  (95, ⟨(.type "function"), none, (fnD (mtS p 12 2) (Str.ofString "text") (Str.ofString "Symbols.text") .none .none .none (.str (Str.ofString "clausemill.symbols") 194) (.ref 94) .none), [].toArray⟩),
  (102, ⟨(.type "function"), none, (fnD (mtS p 12 3) (Str.ofString "functor") (Str.ofString "Symbols.functor") .none .none .none (.str (Str.ofString "clausemill.symbols") 194) (.ref 101) .none), [].toArray⟩),
  (109, ⟨(.type "function"), none, (fnD (mtS p 12 4) (Str.ofString "func") (Str.ofString "Symbols.func") .none .none .none (.str (Str.ofString "clausemill.symbols") 194) (.ref 108) .none), [].toArray⟩),
  (116, ⟨(.type "function"), none, (fnD (mtS p 12 5) (Str.ofString "name") (Str.ofString "Symbols.name") .none .none .none (.str (Str.ofString "clausemill.symbols") 194) (.ref 115) .none), [].toArray⟩),
  (173, ⟨(.type "function"), none, (fnD (fnS p 16) (Str.ofString "atom") (Str.ofString "atom") .none .none .none (.str (Str.ofString "clausemill.terms") 390) (.ref 172) .none), [].toArray⟩),
  (180, ⟨(.type "function"), none, (fnD (fnS p 17) (Str.ofString "integer") (Str.ofString "integer") .none .none .none (.str (Str.ofString "clausemill.terms") 390) (.ref 179) .none), [].toArray⟩),
  (187, ⟨(.type "function"), none, (fnD (fnS p 18) (Str.ofString "struct") (Str.ofString "struct") .none .none .none (.str (Str.ofString "clausemill.terms") 390) (.ref 186) .none), [].toArray⟩),
  (212, ⟨(.type "function"), none, (fnD (fnS p 26) (Str.ofString "fixity") (Str.ofString "fixity") .none .none .none (.str (Str.ofString "clausemill.operators") 433) (.ref 211) .none), [].toArray⟩),
  (219, ⟨(.type "function"), none, (fnD (fnS p 27) (Str.ofString "bounds") (Str.ofString "bounds") .none .none .none (.str (Str.ofString "clausemill.operators") 433) (.ref 218) .none), [].toArray⟩),
  (234, ⟨(.type "function"), none, (fnD (mtS p 28 0) (Str.ofString "__init__") (Str.ofString "OperatorTable.__init__") (.ref 227) .none .none (.str (Str.ofString "clausemill.operators") 433) (.ref 233) .none), [].toArray⟩),
  (241, ⟨(.type "function"), none, (fnD (mtS p 28 1) (Str.ofString "prefix") (Str.ofString "OperatorTable.prefix") .none .none .none (.str (Str.ofString "clausemill.operators") 433) (.ref 240) .none), [].toArray⟩),
  (248, ⟨(.type "function"), none, (fnD (mtS p 28 2) (Str.ofString "infix") (Str.ofString "OperatorTable.infix") .none .none .none (.str (Str.ofString "clausemill.operators") 433) (.ref 247) .none), [].toArray⟩),
  (255, ⟨(.type "function"), none, (fnD (mtS p 28 3) (Str.ofString "postfix") (Str.ofString "OperatorTable.postfix") .none .none .none (.str (Str.ofString "clausemill.operators") 433) (.ref 254) .none), [].toArray⟩),
  (262, ⟨(.type "function"), none, (fnD (mtS p 28 4) (Str.ofString "is_operator") (Str.ofString "OperatorTable.is_operator") .none .none .none (.str (Str.ofString "clausemill.operators") 433) (.ref 261) .none), [].toArray⟩),
  (269, ⟨(.type "function"), none, (fnD (mtS p 28 5) (Str.ofString "table_of") (Str.ofString "OperatorTable.table_of") .none .none .none (.str (Str.ofString "clausemill.operators") 433) (.ref 268) .none), [].toArray⟩),
  (276, ⟨(.type "function"), none, (fnD (mtS p 28 6) (Str.ofString "add") (Str.ofString "OperatorTable.add") .none .none .none (.str (Str.ofString "clausemill.operators") 433) (.ref 275) .none), [].toArray⟩),
  (306, ⟨(.type "function"), none, (fnD (mtS p 37 0) (Str.ofString "__init__") (Str.ofString "Frame.__init__") .none .none .none (.str (Str.ofString "clausemill.parser") 569) (.ref 305) .none), [].toArray⟩),
  (320, ⟨(.type "function"), none, (fnD (fnS p 38) (Str.ofString "ends_operand") (Str.ofString "ends_operand") .none .none .none (.str (Str.ofString "clausemill.parser") 569) (.ref 319) .none), [].toArray⟩),
  (327, ⟨(.type "function"), none, (fnD (fnS p 39) (Str.ofString "closes") (Str.ofString "closes") .none .none .none (.str (Str.ofString "clausemill.parser") 569) (.ref 326) .none), [].toArray⟩),
  (334, ⟨(.type "function"), none, (fnD (fnS p 40) (Str.ofString "is_punct") (Str.ofString "is_punct") .none .none .none (.str (Str.ofString "clausemill.parser") 569) (.ref 333) .none), [].toArray⟩),
  (348, ⟨(.type "function"), none, (fnD (mtS p 41 0) (Str.ofString "__init__") (Str.ofString "Parser.__init__") .none .none .none (.str (Str.ofString "clausemill.parser") 569) (.ref 347) .none), [].toArray⟩),
  (369, ⟨(.type "function"), none, (fnD (mtS p 41 3) (Str.ofString "peek") (Str.ofString "Parser.peek") .none .none .none (.str (Str.ofString "clausemill.parser") 569) (.ref 368) .none), [].toArray⟩),
  (376, ⟨(.type "function"), none, (fnD (mtS p 41 4) (Str.ofString "take") (Str.ofString "Parser.take") .none .none .none (.str (Str.ofString "clausemill.parser") 569) (.ref 375) .none), [].toArray⟩),
  (383, ⟨(.type "function"), none, (fnD (mtS p 41 5) (Str.ofString "fault") (Str.ofString "Parser.fault") .none .none .none (.str (Str.ofString "clausemill.parser") 569) (.ref 382) .none), [].toArray⟩),
  (390, ⟨(.type "function"), none, (fnD (mtS p 41 6) (Str.ofString "misplaced") (Str.ofString "Parser.misplaced") .none .none .none (.str (Str.ofString "clausemill.parser") 569) (.ref 389) .none), [].toArray⟩),
  (404, ⟨(.type "function"), none, (fnD (mtS p 41 8) (Str.ofString "settle") (Str.ofString "Parser.settle") .none .none .none (.str (Str.ofString "clausemill.parser") 569) (.ref 403) .none), [].toArray⟩),
  (411, ⟨(.type "function"), none, (fnD (mtS p 41 9) (Str.ofString "enter") (Str.ofString "Parser.enter") .none .none .none (.str (Str.ofString "clausemill.parser") 569) (.ref 410) .none), [].toArray⟩),
  (418, ⟨(.type "function"), none, (fnD (mtS p 41 10) (Str.ofString "operand") (Str.ofString "Parser.operand") .none .none .none (.str (Str.ofString "clausemill.parser") 569) (.ref 417) .none), [].toArray⟩),
  (425, ⟨(.type "function"), none, (fnD (mtS p 41 11) (Str.ofString "named") (Str.ofString "Parser.named") .none .none .none (.str (Str.ofString "clausemill.parser") 569) (.ref 424) .none), [].toArray⟩),
  (432, ⟨(.type "function"), none, (fnD (mtS p 41 12) (Str.ofString "operator_operand") (Str.ofString "Parser.operator_operand") .none .none .none (.str (Str.ofString "clausemill.parser") 569) (.ref 431) .none), [].toArray⟩),
  (439, ⟨(.type "function"), none, (fnD (mtS p 41 13) (Str.ofString "stands_alone") (Str.ofString "Parser.stands_alone") .none .none .none (.str (Str.ofString "clausemill.parser") 569) (.ref 438) .none), [].toArray⟩),
  (458, ⟨(.type "function"), none, (fnD (mtS p 41 16) (Str.ofString "operator_name") (Str.ofString "Parser.operator_name") .none .none .none (.str (Str.ofString "clausemill.parser") 569) (.ref 457) .none), [].toArray⟩),
  (465, ⟨(.type "function"), none, (fnD (mtS p 41 17) (Str.ofString "operator") (Str.ofString "Parser.operator") .none .none .none (.str (Str.ofString "clausemill.parser") 569) (.ref 464) .none), [].toArray⟩),
  (472, ⟨(.type "function"), none, (fnD (mtS p 41 18) (Str.ofString "admits") (Str.ofString "Parser.admits") .none .none .none (.str (Str.ofString "clausemill.parser") 569) (.ref 471) .none), [].toArray⟩),
  (479, ⟨(.type "function"), none, (fnD (mtS p 41 19) (Str.ofString "shift_infix") (Str.ofString "Parser.shift_infix") .none .none .none (.str (Str.ofString "clausemill.parser") 569) (.ref 478) .none), [].toArray⟩),
  (486, ⟨(.type "function"), none, (fnD (mtS p 41 20) (Str.ofString "apply_postfix") (Str.ofString "Parser.apply_postfix") .none .none .none (.str (Str.ofString "clausemill.parser") 569) (.ref 485) .none), [].toArray⟩),
  (493, ⟨(.type "function"), none, (fnD (mtS p 41 21) (Str.ofString "reduce") (Str.ofString "Parser.reduce") .none .none .none (.str (Str.ofString "clausemill.parser") 569) (.ref 492) .none), [].toArray⟩),
  (500, ⟨(.type "function"), none, (fnD (mtS p 41 22) (Str.ofString "close") (Str.ofString "Parser.close") .none .none .none (.str (Str.ofString "clausemill.parser") 569) (.ref 499) .none), [].toArray⟩),
  (507, ⟨(.type "function"), none, (fnD (mtS p 41 23) (Str.ofString "separated") (Str.ofString "Parser.separated") .none .none .none (.str (Str.ofString "clausemill.parser") 569) (.ref 506) .none), [].toArray⟩),
  (514, ⟨(.type "function"), none, (fnD (mtS p 41 24) (Str.ofString "closed") (Str.ofString "Parser.closed") .none .none .none (.str (Str.ofString "clausemill.parser") 569) (.ref 513) .none), [].toArray⟩),
  (528, ⟨(.type "function"), none, (fnD (fnS p 43) (Str.ofString "_law_figures") (Str.ofString "_law_figures") .none .none .none (.str (Str.ofString "law_sa0154_01") 902) (.ref 527) .none), [].toArray⟩),
  (535, ⟨(.type "function"), none, (fnD (fnS p 44) (Str.ofString "_law_tokens") (Str.ofString "_law_tokens") .none .none .none (.str (Str.ofString "law_sa0154_01") 902) (.ref 534) .none), [].toArray⟩),
  (542, ⟨(.type "function"), none, (fnD (fnS p 45) (Str.ofString "_law_sides") (Str.ofString "_law_sides") .none .none .none (.str (Str.ofString "law_sa0154_01") 902) (.ref 541) .none), [].toArray⟩),
  (549, ⟨(.type "function"), none, (fnD (fnS p 46) (Str.ofString "_law_unfold") (Str.ofString "_law_unfold") .none .none .none (.str (Str.ofString "law_sa0154_01") 902) (.ref 548) .none), [].toArray⟩),
  (554, ⟨(.type "function"), none, (fnD (fnS p 47) (Str.ofString "_law_sound") (Str.ofString "_law_sound") .none .none .none (.str (Str.ofString "law_sa0154_01") 902) (.ref 553) .none), [].toArray⟩),
  (559, ⟨(.type "function"), none, (fnD (fnS p 48) (Str.ofString "law") (Str.ofString "law") .none .none .none (.str (Str.ofString "law_sa0154_01") 902) (.ref 558) .none), [].toArray⟩),
  (47, ⟨(.type "code"), none, (.fields [(.str (Str.ofString "__init__") 228), (.str (Str.ofString "SyntaxFault.__init__") 229), (.str (Str.ofString "/claim/cut.py") 230), (.int (9) 0), (.int (5) 0), (.int (0) 0), (.int (0) 0), (.int (3) 0), (.ref 42), (.bool true), (.int (181) 0), (.ref 43), .none, (.ref 44), (.ref 45), (.ref 46), (.int (236) 0), (.int (9) 0), (.str (Str.ofString "/claim/cut.py") 237)].toArray), [].toArray⟩),
  (59, ⟨(.type "code"), none, (.fields [(.str (Str.ofString "fixed_atoms") 259), (.str (Str.ofString "fixed_atoms") 260), (.str (Str.ofString "/claim/cut.py") 261), (.int (20) 0), (.int (0) 0), (.int (0) 0), (.int (0) 0), (.int (3) 0), (.ref 54), (.bool true), (.int (181) 0), (.ref 55), .none, (.ref 56), (.ref 57), (.ref 58), (.int (262) 0), (.int (20) 0), (.str (Str.ofString "/claim/cut.py") 263)].toArray), [].toArray⟩),
  (66, ⟨(.type "code"), none, (.fields [(.str (Str.ofString "fixed_functors") 265), (.str (Str.ofString "fixed_functors") 266), (.str (Str.ofString "/claim/cut.py") 267), (.int (22) 0), (.int (0) 0), (.int (0) 0), (.int (0) 0), (.int (3) 0), (.ref 61), (.bool true), (.int (181) 0), (.ref 62), .none, (.ref 63), (.ref 64), (.ref 65), (.int (268) 0), (.int (22) 0), (.str (Str.ofString "/claim/cut.py") 269)].toArray), [].toArray⟩),
  (80, ⟨(.type "code"), none, (.fields [(.str (Str.ofString "__init__") 283), (.str (Str.ofString "Symbols.__init__") 284), (.str (Str.ofString "/claim/cut.py") 285), (.int (26) 0), (.int (1) 0), (.int (0) 0), (.int (0) 0), (.int (3) 0), (.ref 75), (.bool true), (.int (181) 0), (.ref 76), .none, (.ref 77), (.ref 78), (.ref 79), (.int (289) 0), (.int (26) 0), (.str (Str.ofString "/claim/cut.py") 290)].toArray), [].toArray⟩),
  (87, ⟨(.type "code"), none, (.fields [(.str (Str.ofString "atom") 292), (.str (Str.ofString "Symbols.atom") 293), (.str (Str.ofString "/claim/cut.py") 294), (.int (36) 0), (.int (2) 0), (.int (0) 0), (.int (0) 0), (.int (3) 0), (.ref 82), (.bool true), (.int (181) 0), (.ref 83), .none, (.ref 84), (.ref 85), (.ref 86), (.int (299) 0), (.int (36) 0), (.str (Str.ofString "/claim/cut.py") 300)].toArray), [].toArray⟩),
  (94, ⟨(.type "code"), none, (.fields [(.str (Str.ofString "text") 302), (.str (Str.ofString "Symbols.text") 303), (.str (Str.ofString "/claim/cut.py") 304), (.int (45) 0), (.int (2) 0), (.int (0) 0), (.int (0) 0), (.int (3) 0), (.ref 89), (.bool true), (.int (181) 0), (.ref 90), .none, (.ref 91), (.ref 92), (.ref 93), (.int (307) 0), (.int (45) 0), (.str (Str.ofString "/claim/cut.py") 308)].toArray), [].toArray⟩),
  (101, ⟨(.type "code"), none, (.fields [(.str (Str.ofString "functor") 310), (.str (Str.ofString "Symbols.functor") 311), (.str (Str.ofString "/claim/cut.py") 312), (.int (48) 0), (.int (3) 0), (.int (0) 0), (.int (0) 0), (.int (3) 0), (.ref 96), (.bool true), (.int (181) 0), (.ref 97), .none, (.ref 98), (.ref 99), (.ref 100), (.int (319) 0), (.int (48) 0), (.str (Str.ofString "/claim/cut.py") 320)].toArray), [].toArray⟩),
  (108, ⟨(.type "code"), none, (.fields [(.str (Str.ofString "func") 322), (.str (Str.ofString "Symbols.func") 323), (.str (Str.ofString "/claim/cut.py") 324), (.int (58) 0), (.int (3) 0), (.int (0) 0), (.int (0) 0), (.int (3) 0), (.ref 103), (.bool true), (.int (181) 0), (.ref 104), .none, (.ref 105), (.ref 106), (.ref 107), (.int (328) 0), (.int (58) 0), (.str (Str.ofString "/claim/cut.py") 329)].toArray), [].toArray⟩),
  (115, ⟨(.type "code"), none, (.fields [(.str (Str.ofString "name") 331), (.str (Str.ofString "Symbols.name") 332), (.str (Str.ofString "/claim/cut.py") 333), (.int (61) 0), (.int (2) 0), (.int (0) 0), (.int (0) 0), (.int (3) 0), (.ref 110), (.bool true), (.int (181) 0), (.ref 111), .none, (.ref 112), (.ref 113), (.ref 114), (.int (336) 0), (.int (61) 0), (.str (Str.ofString "/claim/cut.py") 337)].toArray), [].toArray⟩),
  (172, ⟨(.type "code"), none, (.fields [(.str (Str.ofString "atom") 401), (.str (Str.ofString "atom") 402), (.str (Str.ofString "/claim/cut.py") 403), (.int (82) 0), (.int (1) 0), (.int (0) 0), (.int (0) 0), (.int (3) 0), (.ref 167), (.bool true), (.int (181) 0), (.ref 168), .none, (.ref 169), (.ref 170), (.ref 171), (.int (405) 0), (.int (82) 0), (.str (Str.ofString "/claim/cut.py") 406)].toArray), [].toArray⟩),
  (179, ⟨(.type "code"), none, (.fields [(.str (Str.ofString "integer") 408), (.str (Str.ofString "integer") 409), (.str (Str.ofString "/claim/cut.py") 410), (.int (84) 0), (.int (1) 0), (.int (0) 0), (.int (0) 0), (.int (3) 0), (.ref 174), (.bool true), (.int (181) 0), (.ref 175), .none, (.ref 176), (.ref 177), (.ref 178), (.int (412) 0), (.int (84) 0), (.str (Str.ofString "/claim/cut.py") 413)].toArray), [].toArray⟩),
  (186, ⟨(.type "code"), none, (.fields [(.str (Str.ofString "struct") 415), (.str (Str.ofString "struct") 416), (.str (Str.ofString "/claim/cut.py") 417), (.int (86) 0), (.int (2) 0), (.int (0) 0), (.int (0) 0), (.int (3) 0), (.ref 181), (.bool true), (.int (181) 0), (.ref 182), .none, (.ref 183), (.ref 184), (.ref 185), (.int (420) 0), (.int (86) 0), (.str (Str.ofString "/claim/cut.py") 421)].toArray), [].toArray⟩),
  (211, ⟨(.type "code"), none, (.fields [(.str (Str.ofString "fixity") 453), (.str (Str.ofString "fixity") 454), (.str (Str.ofString "/claim/cut.py") 455), (.int (100) 0), (.int (1) 0), (.int (0) 0), (.int (0) 0), (.int (3) 0), (.ref 206), (.bool true), (.int (181) 0), (.ref 207), .none, (.ref 208), (.ref 209), (.ref 210), (.int (457) 0), (.int (100) 0), (.str (Str.ofString "/claim/cut.py") 458)].toArray), [].toArray⟩),
  (218, ⟨(.type "code"), none, (.fields [(.str (Str.ofString "bounds") 460), (.str (Str.ofString "bounds") 461), (.str (Str.ofString "/claim/cut.py") 462), (.int (108) 0), (.int (2) 0), (.int (0) 0), (.int (0) 0), (.int (3) 0), (.ref 213), (.bool true), (.int (181) 0), (.ref 214), .none, (.ref 215), (.ref 216), (.ref 217), (.int (466) 0), (.int (108) 0), (.str (Str.ofString "/claim/cut.py") 467)].toArray), [].toArray⟩),
  (233, ⟨(.type "code"), none, (.fields [(.str (Str.ofString "__init__") 481), (.str (Str.ofString "OperatorTable.__init__") 482), (.str (Str.ofString "/claim/cut.py") 483), (.int (125) 0), (.int (3) 0), (.int (0) 0), (.int (0) 0), (.int (3) 0), (.ref 228), (.bool true), (.int (181) 0), (.ref 229), .none, (.ref 230), (.ref 231), (.ref 232), (.int (491) 0), (.int (125) 0), (.str (Str.ofString "/claim/cut.py") 492)].toArray), [].toArray⟩),
  (240, ⟨(.type "code"), none, (.fields [(.str (Str.ofString "prefix") 494), (.str (Str.ofString "OperatorTable.prefix") 495), (.str (Str.ofString "/claim/cut.py") 496), (.int (136) 0), (.int (2) 0), (.int (0) 0), (.int (0) 0), (.int (3) 0), (.ref 235), (.bool true), (.int (181) 0), (.ref 236), .none, (.ref 237), (.ref 238), (.ref 239), (.int (499) 0), (.int (136) 0), (.str (Str.ofString "/claim/cut.py") 500)].toArray), [].toArray⟩),
  (247, ⟨(.type "code"), none, (.fields [(.str (Str.ofString "infix") 502), (.str (Str.ofString "OperatorTable.infix") 503), (.str (Str.ofString "/claim/cut.py") 504), (.int (139) 0), (.int (2) 0), (.int (0) 0), (.int (0) 0), (.int (3) 0), (.ref 242), (.bool true), (.int (181) 0), (.ref 243), .none, (.ref 244), (.ref 245), (.ref 246), (.int (507) 0), (.int (139) 0), (.str (Str.ofString "/claim/cut.py") 508)].toArray), [].toArray⟩),
  (254, ⟨(.type "code"), none, (.fields [(.str (Str.ofString "postfix") 510), (.str (Str.ofString "OperatorTable.postfix") 511), (.str (Str.ofString "/claim/cut.py") 512), (.int (142) 0), (.int (2) 0), (.int (0) 0), (.int (0) 0), (.int (3) 0), (.ref 249), (.bool true), (.int (181) 0), (.ref 250), .none, (.ref 251), (.ref 252), (.ref 253), (.int (515) 0), (.int (142) 0), (.str (Str.ofString "/claim/cut.py") 516)].toArray), [].toArray⟩),
  (261, ⟨(.type "code"), none, (.fields [(.str (Str.ofString "is_operator") 518), (.str (Str.ofString "OperatorTable.is_operator") 519), (.str (Str.ofString "/claim/cut.py") 520), (.int (145) 0), (.int (2) 0), (.int (0) 0), (.int (0) 0), (.int (3) 0), (.ref 256), (.bool true), (.int (181) 0), (.ref 257), .none, (.ref 258), (.ref 259), (.ref 260), (.int (523) 0), (.int (145) 0), (.str (Str.ofString "/claim/cut.py") 524)].toArray), [].toArray⟩),
  (268, ⟨(.type "code"), none, (.fields [(.str (Str.ofString "table_of") 526), (.str (Str.ofString "OperatorTable.table_of") 527), (.str (Str.ofString "/claim/cut.py") 528), (.int (148) 0), (.int (2) 0), (.int (0) 0), (.int (0) 0), (.int (3) 0), (.ref 263), (.bool true), (.int (181) 0), (.ref 264), .none, (.ref 265), (.ref 266), (.ref 267), (.int (532) 0), (.int (148) 0), (.str (Str.ofString "/claim/cut.py") 533)].toArray), [].toArray⟩),
  (275, ⟨(.type "code"), none, (.fields [(.str (Str.ofString "add") 535), (.str (Str.ofString "OperatorTable.add") 536), (.str (Str.ofString "/claim/cut.py") 537), (.int (156) 0), (.int (4) 0), (.int (0) 0), (.int (0) 0), (.int (3) 0), (.ref 270), (.bool true), (.int (181) 0), (.ref 271), .none, (.ref 272), (.ref 273), (.ref 274), (.int (543) 0), (.int (156) 0), (.str (Str.ofString "/claim/cut.py") 544)].toArray), [].toArray⟩),
  (305, ⟨(.type "code"), none, (.fields [(.str (Str.ofString "__init__") 600), (.str (Str.ofString "Frame.__init__") 601), (.str (Str.ofString "/claim/cut.py") 602), (.int (179) 0), (.int (3) 0), (.int (0) 0), (.int (0) 0), (.int (3) 0), (.ref 300), (.bool true), (.int (181) 0), (.ref 301), .none, (.ref 302), (.ref 303), (.ref 304), (.int (606) 0), (.int (179) 0), (.str (Str.ofString "/claim/cut.py") 607)].toArray), [].toArray⟩),
  (319, ⟨(.type "code"), none, (.fields [(.str (Str.ofString "ends_operand") 624), (.str (Str.ofString "ends_operand") 625), (.str (Str.ofString "/claim/cut.py") 626), (.int (187) 0), (.int (1) 0), (.int (0) 0), (.int (0) 0), (.int (3) 0), (.ref 314), (.bool true), (.int (181) 0), (.ref 315), .none, (.ref 316), (.ref 317), (.ref 318), (.int (628) 0), (.int (187) 0), (.str (Str.ofString "/claim/cut.py") 629)].toArray), [].toArray⟩),
  (326, ⟨(.type "code"), none, (.fields [(.str (Str.ofString "closes") 631), (.str (Str.ofString "closes") 632), (.str (Str.ofString "/claim/cut.py") 633), (.int (189) 0), (.int (1) 0), (.int (0) 0), (.int (0) 0), (.int (3) 0), (.ref 321), (.bool true), (.int (181) 0), (.ref 322), .none, (.ref 323), (.ref 324), (.ref 325), (.int (635) 0), (.int (189) 0), (.str (Str.ofString "/claim/cut.py") 636)].toArray), [].toArray⟩),
  (333, ⟨(.type "code"), none, (.fields [(.str (Str.ofString "is_punct") 638), (.str (Str.ofString "is_punct") 639), (.str (Str.ofString "/claim/cut.py") 640), (.int (191) 0), (.int (2) 0), (.int (0) 0), (.int (0) 0), (.int (3) 0), (.ref 328), (.bool true), (.int (181) 0), (.ref 329), .none, (.ref 330), (.ref 331), (.ref 332), (.int (643) 0), (.int (191) 0), (.str (Str.ofString "/claim/cut.py") 644)].toArray), [].toArray⟩),
  (347, ⟨(.type "code"), none, (.fields [(.str (Str.ofString "__init__") 658), (.str (Str.ofString "Parser.__init__") 659), (.str (Str.ofString "/claim/cut.py") 660), (.int (195) 0), (.int (5) 0), (.int (0) 0), (.int (0) 0), (.int (3) 0), (.ref 342), (.bool true), (.int (181) 0), (.ref 343), .none, (.ref 344), (.ref 345), (.ref 346), (.int (666) 0), (.int (195) 0), (.str (Str.ofString "/claim/cut.py") 667)].toArray), [].toArray⟩),
  (368, ⟨(.type "code"), none, (.fields [(.str (Str.ofString "peek") 686), (.str (Str.ofString "Parser.peek") 687), (.str (Str.ofString "/claim/cut.py") 688), (.int (220) 0), (.int (1) 0), (.int (0) 0), (.int (0) 0), (.int (3) 0), (.ref 363), (.bool true), (.int (181) 0), (.ref 364), .none, (.ref 365), (.ref 366), (.ref 367), (.int (690) 0), (.int (220) 0), (.str (Str.ofString "/claim/cut.py") 691)].toArray), [].toArray⟩),
  (375, ⟨(.type "code"), none, (.fields [(.str (Str.ofString "take") 693), (.str (Str.ofString "Parser.take") 694), (.str (Str.ofString "/claim/cut.py") 695), (.int (223) 0), (.int (1) 0), (.int (0) 0), (.int (0) 0), (.int (3) 0), (.ref 370), (.bool true), (.int (181) 0), (.ref 371), .none, (.ref 372), (.ref 373), (.ref 374), (.int (698) 0), (.int (223) 0), (.str (Str.ofString "/claim/cut.py") 699)].toArray), [].toArray⟩),
  (382, ⟨(.type "code"), none, (.fields [(.str (Str.ofString "fault") 701), (.str (Str.ofString "Parser.fault") 702), (.str (Str.ofString "/claim/cut.py") 703), (.int (228) 0), (.int (3) 0), (.int (0) 0), (.int (0) 0), (.int (3) 0), (.ref 377), (.bool true), (.int (181) 0), (.ref 378), .none, (.ref 379), (.ref 380), (.ref 381), (.int (707) 0), (.int (228) 0), (.str (Str.ofString "/claim/cut.py") 708)].toArray), [].toArray⟩),
  (389, ⟨(.type "code"), none, (.fields [(.str (Str.ofString "misplaced") 710), (.str (Str.ofString "Parser.misplaced") 711), (.str (Str.ofString "/claim/cut.py") 712), (.int (231) 0), (.int (3) 0), (.int (0) 0), (.int (0) 0), (.int (3) 0), (.ref 384), (.bool true), (.int (181) 0), (.ref 385), .none, (.ref 386), (.ref 387), (.ref 388), (.int (717) 0), (.int (231) 0), (.str (Str.ofString "/claim/cut.py") 718)].toArray), [].toArray⟩),
  (403, ⟨(.type "code"), none, (.fields [(.str (Str.ofString "settle") 729), (.str (Str.ofString "Parser.settle") 730), (.str (Str.ofString "/claim/cut.py") 731), (.int (251) 0), (.int (3) 0), (.int (0) 0), (.int (0) 0), (.int (3) 0), (.ref 398), (.bool true), (.int (181) 0), (.ref 399), .none, (.ref 400), (.ref 401), (.ref 402), (.int (735) 0), (.int (251) 0), (.str (Str.ofString "/claim/cut.py") 736)].toArray), [].toArray⟩),
  (410, ⟨(.type "code"), none, (.fields [(.str (Str.ofString "enter") 738), (.str (Str.ofString "Parser.enter") 739), (.str (Str.ofString "/claim/cut.py") 740), (.int (256) 0), (.int (4) 0), (.int (0) 0), (.int (0) 0), (.int (3) 0), (.ref 405), (.bool true), (.int (181) 0), (.ref 406), .none, (.ref 407), (.ref 408), (.ref 409), (.int (746) 0), (.int (256) 0), (.str (Str.ofString "/claim/cut.py") 747)].toArray), [].toArray⟩),
  (417, ⟨(.type "code"), none, (.fields [(.str (Str.ofString "operand") 749), (.str (Str.ofString "Parser.operand") 750), (.str (Str.ofString "/claim/cut.py") 751), (.int (263) 0), (.int (1) 0), (.int (0) 0), (.int (0) 0), (.int (3) 0), (.ref 412), (.bool true), (.int (181) 0), (.ref 413), .none, (.ref 414), (.ref 415), (.ref 416), (.int (755) 0), (.int (263) 0), (.str (Str.ofString "/claim/cut.py") 756)].toArray), [].toArray⟩),
  (424, ⟨(.type "code"), none, (.fields [(.str (Str.ofString "named") 758), (.str (Str.ofString "Parser.named") 759), (.str (Str.ofString "/claim/cut.py") 760), (.int (288) 0), (.int (3) 0), (.int (0) 0), (.int (0) 0), (.int (3) 0), (.ref 419), (.bool true), (.int (181) 0), (.ref 420), .none, (.ref 421), (.ref 422), (.ref 423), (.int (765) 0), (.int (288) 0), (.str (Str.ofString "/claim/cut.py") 766)].toArray), [].toArray⟩),
  (431, ⟨(.type "code"), none, (.fields [(.str (Str.ofString "operator_operand") 768), (.str (Str.ofString "Parser.operator_operand") 769), (.str (Str.ofString "/claim/cut.py") 770), (.int (300) 0), (.int (3) 0), (.int (0) 0), (.int (0) 0), (.int (3) 0), (.ref 426), (.bool true), (.int (181) 0), (.ref 427), .none, (.ref 428), (.ref 429), (.ref 430), (.int (776) 0), (.int (300) 0), (.str (Str.ofString "/claim/cut.py") 777)].toArray), [].toArray⟩),
  (438, ⟨(.type "code"), none, (.fields [(.str (Str.ofString "stands_alone") 779), (.str (Str.ofString "Parser.stands_alone") 780), (.str (Str.ofString "/claim/cut.py") 781), (.int (315) 0), (.int (1) 0), (.int (0) 0), (.int (0) 0), (.int (3) 0), (.ref 433), (.bool true), (.int (181) 0), (.ref 434), .none, (.ref 435), (.ref 436), (.ref 437), (.int (783) 0), (.int (315) 0), (.str (Str.ofString "/claim/cut.py") 784)].toArray), [].toArray⟩),
  (457, ⟨(.type "code"), none, (.fields [(.str (Str.ofString "operator_name") 801), (.str (Str.ofString "Parser.operator_name") 802), (.str (Str.ofString "/claim/cut.py") 803), (.int (340) 0), (.int (2) 0), (.int (0) 0), (.int (0) 0), (.int (3) 0), (.ref 452), (.bool true), (.int (181) 0), (.ref 453), .none, (.ref 454), (.ref 455), (.ref 456), (.int (806) 0), (.int (340) 0), (.str (Str.ofString "/claim/cut.py") 807)].toArray), [].toArray⟩),
  (464, ⟨(.type "code"), none, (.fields [(.str (Str.ofString "operator") 809), (.str (Str.ofString "Parser.operator") 810), (.str (Str.ofString "/claim/cut.py") 811), (.int (349) 0), (.int (1) 0), (.int (0) 0), (.int (0) 0), (.int (3) 0), (.ref 459), (.bool true), (.int (181) 0), (.ref 460), .none, (.ref 461), (.ref 462), (.ref 463), (.int (815) 0), (.int (349) 0), (.str (Str.ofString "/claim/cut.py") 816)].toArray), [].toArray⟩),
  (471, ⟨(.type "code"), none, (.fields [(.str (Str.ofString "admits") 818), (.str (Str.ofString "Parser.admits") 819), (.str (Str.ofString "/claim/cut.py") 820), (.int (363) 0), (.int (2) 0), (.int (0) 0), (.int (0) 0), (.int (3) 0), (.ref 466), (.bool true), (.int (181) 0), (.ref 467), .none, (.ref 468), (.ref 469), (.ref 470), (.int (823) 0), (.int (363) 0), (.str (Str.ofString "/claim/cut.py") 824)].toArray), [].toArray⟩),
  (478, ⟨(.type "code"), none, (.fields [(.str (Str.ofString "shift_infix") 826), (.str (Str.ofString "Parser.shift_infix") 827), (.str (Str.ofString "/claim/cut.py") 828), (.int (368) 0), (.int (2) 0), (.int (0) 0), (.int (0) 0), (.int (3) 0), (.ref 473), (.bool true), (.int (181) 0), (.ref 474), .none, (.ref 475), (.ref 476), (.ref 477), (.int (833) 0), (.int (368) 0), (.str (Str.ofString "/claim/cut.py") 834)].toArray), [].toArray⟩),
  (485, ⟨(.type "code"), none, (.fields [(.str (Str.ofString "apply_postfix") 836), (.str (Str.ofString "Parser.apply_postfix") 837), (.str (Str.ofString "/claim/cut.py") 838), (.int (381) 0), (.int (2) 0), (.int (0) 0), (.int (0) 0), (.int (3) 0), (.ref 480), (.bool true), (.int (181) 0), (.ref 481), .none, (.ref 482), (.ref 483), (.ref 484), (.int (842) 0), (.int (381) 0), (.str (Str.ofString "/claim/cut.py") 843)].toArray), [].toArray⟩),
  (492, ⟨(.type "code"), none, (.fields [(.str (Str.ofString "reduce") 845), (.str (Str.ofString "Parser.reduce") 846), (.str (Str.ofString "/claim/cut.py") 847), (.int (389) 0), (.int (1) 0), (.int (0) 0), (.int (0) 0), (.int (3) 0), (.ref 487), (.bool true), (.int (181) 0), (.ref 488), .none, (.ref 489), (.ref 490), (.ref 491), (.int (850) 0), (.int (389) 0), (.str (Str.ofString "/claim/cut.py") 851)].toArray), [].toArray⟩),
  (499, ⟨(.type "code"), none, (.fields [(.str (Str.ofString "close") 853), (.str (Str.ofString "Parser.close") 854), (.str (Str.ofString "/claim/cut.py") 855), (.int (397) 0), (.int (2) 0), (.int (0) 0), (.int (0) 0), (.int (3) 0), (.ref 494), (.bool true), (.int (181) 0), (.ref 495), .none, (.ref 496), (.ref 497), (.ref 498), (.int (860) 0), (.int (397) 0), (.str (Str.ofString "/claim/cut.py") 861)].toArray), [].toArray⟩),
  (506, ⟨(.type "code"), none, (.fields [(.str (Str.ofString "separated") 863), (.str (Str.ofString "Parser.separated") 864), (.str (Str.ofString "/claim/cut.py") 865), (.int (417) 0), (.int (2) 0), (.int (0) 0), (.int (0) 0), (.int (3) 0), (.ref 501), (.bool true), (.int (181) 0), (.ref 502), .none, (.ref 503), (.ref 504), (.ref 505), (.int (869) 0), (.int (417) 0), (.str (Str.ofString "/claim/cut.py") 870)].toArray), [].toArray⟩),
  (513, ⟨(.type "code"), none, (.fields [(.str (Str.ofString "closed") 872), (.str (Str.ofString "Parser.closed") 873), (.str (Str.ofString "/claim/cut.py") 874), (.int (425) 0), (.int (2) 0), (.int (0) 0), (.int (0) 0), (.int (3) 0), (.ref 508), (.bool true), (.int (181) 0), (.ref 509), .none, (.ref 510), (.ref 511), (.ref 512), (.int (878) 0), (.int (425) 0), (.str (Str.ofString "/claim/cut.py") 879)].toArray), [].toArray⟩),
  (527, ⟨(.type "code"), none, (.fields [(.str (Str.ofString "_law_figures") 904), (.str (Str.ofString "_law_figures") 905), (.str (Str.ofString "/claim/cut.py") 906), (.int (431) 0), (.int (2) 0), (.int (0) 0), (.int (0) 0), (.int (3) 0), (.ref 522), (.bool true), (.int (181) 0), (.ref 523), .none, (.ref 524), (.ref 525), (.ref 526), (.int (912) 0), (.int (431) 0), (.str (Str.ofString "/claim/cut.py") 913)].toArray), [].toArray⟩),
  (534, ⟨(.type "code"), none, (.fields [(.str (Str.ofString "_law_tokens") 915), (.str (Str.ofString "_law_tokens") 916), (.str (Str.ofString "/claim/cut.py") 917), (.int (443) 0), (.int (1) 0), (.int (0) 0), (.int (0) 0), (.int (3) 0), (.ref 529), (.bool true), (.int (181) 0), (.ref 530), .none, (.ref 531), (.ref 532), (.ref 533), (.int (926) 0), (.int (443) 0), (.str (Str.ofString "/claim/cut.py") 927)].toArray), [].toArray⟩),
  (541, ⟨(.type "code"), none, (.fields [(.str (Str.ofString "_law_sides") 929), (.str (Str.ofString "_law_sides") 930), (.str (Str.ofString "/claim/cut.py") 931), (.int (477) 0), (.int (1) 0), (.int (0) 0), (.int (0) 0), (.int (3) 0), (.ref 536), (.bool true), (.int (181) 0), (.ref 537), .none, (.ref 538), (.ref 539), (.ref 540), (.int (935) 0), (.int (477) 0), (.str (Str.ofString "/claim/cut.py") 936)].toArray), [].toArray⟩),
  (548, ⟨(.type "code"), none, (.fields [(.str (Str.ofString "_law_unfold") 938), (.str (Str.ofString "_law_unfold") 939), (.str (Str.ofString "/claim/cut.py") 940), (.int (480) 0), (.int (3) 0), (.int (0) 0), (.int (0) 0), (.int (3) 0), (.ref 543), (.bool true), (.int (181) 0), (.ref 544), .none, (.ref 545), (.ref 546), (.ref 547), (.int (954) 0), (.int (480) 0), (.str (Str.ofString "/claim/cut.py") 955)].toArray), [].toArray⟩),
  (553, ⟨(.type "code"), none, (.fields [(.str (Str.ofString "_law_sound") 957), (.str (Str.ofString "_law_sound") 958), (.str (Str.ofString "/claim/cut.py") 959), (.int (510) 0), (.int (5) 0), (.int (0) 0), (.int (0) 0), (.int (3) 0), (.ref 550), (.bool true), (.int (181) 0), (.ref 551), .none, .none, .none, (.ref 552), (.int (960) 0), (.int (510) 0), (.str (Str.ofString "/claim/cut.py") 961)].toArray), [].toArray⟩),
  (558, ⟨(.type "code"), none, (.fields [(.str (Str.ofString "law") 963), (.str (Str.ofString "law") 964), (.str (Str.ofString "/claim/cut.py") 965), (.int (545) 0), (.int (1) 0), (.int (0) 0), (.int (0) 0), (.int (3) 0), (.ref 555), (.bool true), (.int (181) 0), (.ref 556), .none, .none, .none, (.ref 557), (.int (966) 0), (.int (545) 0), (.str (Str.ofString "/claim/cut.py") 967)].toArray), [].toArray⟩),
  (2, ⟨.none, none, (.dict [⟨PyData.keyHash P (Str.ofString "type.__subclasses__.Exception.0"), (.str (Str.ofString "type.__subclasses__.Exception.0") 212), (.int (31) 0)⟩, ⟨PyData.keyHash P (Str.ofString "type.__subclasses__.Exception.n"), (.str (Str.ofString "type.__subclasses__.Exception.n") 213), (.int (1) 0)⟩].toArray 2), [].toArray⟩),
  (188, ⟨(.type "tuple"), none, (.seq [.none].toArray 0), [].toArray⟩),
  (196, ⟨(.type "tuple"), none, (.seq [(.str (Str.ofString "fx") 437), (.str (Str.ofString "fy") 438)].toArray 0), [].toArray⟩),
  (197, ⟨(.type "tuple"), none, (.seq [(.str (Str.ofString "xfx") 440), (.str (Str.ofString "xfy") 441), (.str (Str.ofString "yfx") 442)].toArray 0), [].toArray⟩),
  (198, ⟨(.type "tuple"), none, (.seq [(.str (Str.ofString "xf") 444), (.str (Str.ofString "yf") 445)].toArray 0), [].toArray⟩),
  (291, ⟨(.type "tuple"), none, (.seq [(.str (Str.ofString ")") 581), (.str (Str.ofString "]") 582), (.str (Str.ofString "}") 583)].toArray 0), [].toArray⟩),
  (292, ⟨(.type "tuple"), none, (.seq [(.str (Str.ofString ",") 585), (.str (Str.ofString "|") 586)].toArray 0), [].toArray⟩),
  (227, ⟨(.type "tuple"), none, (.seq [(.bool true)].toArray 0), [].toArray⟩),
  (1, PySem.W.boot_o_1 P)]
noncomputable def Kas : List Nat := [31, 51, 154, 286, 309, 517, 3, 30, 50, 153, 285, 308, 516, 48, 60, 67, 81, 88, 95, 102, 109, 116, 173, 180, 187, 212, 219, 234, 241, 248, 255, 262, 269, 276, 306, 320, 327, 334, 348, 369, 376, 383, 390, 404, 411, 418, 425, 432, 439, 458, 465, 472, 479, 486, 493, 500, 507, 514, 528, 535, 542, 549, 554, 559, 47, 59, 66, 80, 87, 94, 101, 108, 115, 172, 179, 186, 211, 218, 233, 240, 247, 254, 261, 268, 275, 305, 319, 326, 333, 347, 368, 375, 382, 389, 403, 410, 417, 424, 431, 438, 457, 464, 471, 478, 485, 492, 499, 506, 513, 527, 534, 541, 548, 553, 558, 2, 188, 196, 197, 198, 291, 292, 227, 1]
theorem Kas_eq (p : Program) (P : Params) : Kas = (Kof p P).map (·.1) := rfl
noncomputable def keepI : List Nat := [48]
noncomputable def looseV : List Str := [Str.ofString "_wall", Str.ofString "ClausemillError", Str.ofString "SyntaxFault", Str.ofString "A_NIL", Str.ofString "A_CURLY", Str.ofString "A_COMMA", Str.ofString "A_BAR", Str.ofString "F_DOT", Str.ofString "F_CURLY", Str.ofString "fixed_atoms", Str.ofString "fixed_functors", Str.ofString "Symbols", Str.ofString "NIL", Str.ofString "var", Str.ofString "atom", Str.ofString "integer", Str.ofString "struct", Str.ofString "list_term", Str.ofString "COMMA_PRIORITY", Str.ofString "PREFIX_TYPES", Str.ofString "INFIX_TYPES", Str.ofString "POSTFIX_TYPES", Str.ofString "standard_rows", Str.ofString "fixity", Str.ofString "bounds", Str.ofString "OperatorTable", Str.ofString "CLAUSE_PRIORITY", Str.ofString "ARGUMENT_PRIORITY", Str.ofString "WANT_OPERAND", Str.ofString "WANT_OPERATOR", Str.ofString "DONE", Str.ofString "CLOSERS", Str.ofString "SEPARATORS", Str.ofString "Frame", Str.ofString "ends_operand", Str.ofString "closes", Str.ofString "is_punct", Str.ofString "Parser", Str.ofString "_law_figures", Str.ofString "_law_tokens", Str.ofString "_law_sides", Str.ofString "_law_unfold", Str.ofString "_law_sound"]
end Mine
end
section
open PySem PySem.W PyProof.Rows PySem.Challenge
set_option maxHeartbeats 0
namespace Mine
noncomputable def XtV (p : Program) (s : Shared) : Bool := xlAt (view p keepI) [] s && recOk [] s
noncomputable def topRunT (tb : String → Option Builtin) (p : Program) (w : World) (n₀ : Nat) (ann : Option Value) : Nat → SharedT → Thread → Option SharedT
  | 0, _, _ => none
  | n + 1, s, t => match through t with
    | true => some s
    | false => match stepOk n₀ ann t with
      | false => none
      | true => match stepT (denote tb) p w s t with
        | some (s', t') => topRunT tb p w n₀ ann n s' t'
        | none => none
theorem topRun_of {tb : String → Option Builtin} {p : Program} {w : World} {n₀ : Nat} {ann : Option Value} : ∀ {n : Nat} {s s' : SharedT} {t : Thread}, topRunT tb p w n₀ ann n s t = some s' → topRun tb p w n₀ ann n s.abs t = some s'.abs
  | 0, _, _, _, h => by simp [topRunT] at h
  | n + 1, s, s', t, h => by
    unfold topRunT at h
    unfold topRun
    cases ht : through t with
    | true => rw [ht] at h; simp only [Option.some.injEq] at h; rw [h]
    | false =>
      rw [ht] at h
      cases hk : stepOk n₀ ann t with
      | false => rw [hk] at h; cases h
      | true =>
        rw [hk] at h
        cases hs : stepT (denote tb) p w s t with
        | none => rw [hs] at h; cases h
        | some r =>
          obtain ⟨s₂, t₂⟩ := r
          rw [hs] at h
          simp only [stepT_spec hs]
          exact topRun_of h
noncomputable def bootT (P : Params) : BT := (boot_heap P).objs.toList.foldl (fun (x : BT × Nat) o => (x.1.ins x.2 o, x.2 + 1)) (BT.nil, 0) |>.1
theorem bootT_abs (P : Params) : absHeap (bootT P) (boot_heap P).objs.size (boot_heap P).life = boot_heap P := by kernel_rfl
noncomputable def OneSt {γ : Type} (gd : Program → List Str → γ) (tt : String → Option Builtin) (p : Program) (sn : Program → List Str → List Str → (Shared → Bool) → Bool → Shared → γ) (im : List Stmt → List Str) : Prop :=
  ∀ w : World, (fun os => (topRunT tt p w (boot_heap w.params).objs.size ((boot_heap w.params).nsMap mainGlobals "__annotations__") 7216 ⟨bootT w.params, (boot_heap w.params).objs.size, (boot_heap w.params).life, Array.mk [], boot_drawn, boot_toks, os⟩ (topStub p)).map (fun s =>
      ((staticsOk (im p.main.body) (boot_heap w.params) s.abs.heap && namesBound p s.abs.heap && gensDone s.abs && laidKept (boot_heap w.params) s.abs.heap), sn (view p keepI) looseV (im p.main.body) (XtV p) true s.abs, Kas.map fun a => s.abs.heap.get? a))) =
    fun _ => some (true, gd (view p keepI) looseV, (Kof p w.params).map fun x => some x.2)
theorem one : OneSt openGood treeTable pw_sa0154_01 openSeen importedModules := by
  rw [PySem.W.Fast.te14364793385576792824, PySem.W.Fast.te4187177175401517315, PySem.W.Fast.te5923862056798008813]
  intro w
  kernel_rfl
end Mine
end
section
open PySem PySem.W PyProof.Rows PySem.Challenge
set_option maxHeartbeats 0
namespace Mine
noncomputable def posO : Stmt → Pos
  | .FunctionDef _ _ _ _ _ _ _ _ _ q => q
  | _ => ⟨0, 0, 0, 0⟩
noncomputable def lawS (p : Program) : DefRec := { name := Str.ofString "law", params := parO (fnS p 48), body := bodO (fnS p 48), scope := scpO (fnS p 48), pos := posO (fnS p 48) }
theorem openingE : opening pw_sa0154_01 = plainProg pw_sa0154_01.main.scope.names := by kernel_rfl
theorem fenceE (s : Shared) : fenceModules? pw_sa0154_01 s = some s := by kernel_rfl
noncomputable abbrev AsOf (s : Shared) : List (Option Obj) := Kas.map s.heap.get?
noncomputable abbrev KsOf (w : World) : List (Option Obj) := (Kof pw_sa0154_01 w.params).map fun x => some x.2
theorem mainNsOk (P : Params) : ((boot_heap P).isNs mainGlobals && (Array.mk [] : Array GenState).size == 0) = true := by kernel_rfl
theorem topFrom_of {tb : String → Option Builtin} {p : Program} {w : World} {N : Nat} {s₀ s₁ : Shared} (z : (s₀.heap.isNs mainGlobals && s₀.gens.size == 0) = true)
    (r : topRun tb p w s₀.heap.objs.size (s₀.heap.nsMap mainGlobals "__annotations__") N s₀ (topStub p) = some s₁)
    (l : (staticsOk (importedModules p.main.body) s₀.heap s₁.heap && namesBound p s₁.heap && gensDone s₁ && laidKept s₀.heap s₁.heap) = true) : topFrom tb p w N s₀ = some s₁ := by
  unfold topFrom
  rw [z]
  dsimp only
  rw [r, Option.bind_some, l]
theorem bootAbs (P : Params) (os : OsState) : SharedT.abs ⟨bootT P, (boot_heap P).objs.size, (boot_heap P).life, Array.mk [], boot_drawn, boot_toks, os⟩ = ⟨boot_heap P, Array.mk [], boot_drawn, boot_toks, os⟩ := by
  unfold SharedT.abs
  dsimp only
  rw [bootT_abs]
theorem leftOf {p q : Program} {loose : List Str} {Xt : Shared → Bool} {α : Type} {Yf : Shared → α} {Ya : World → α} {N : Nat} {w : World} {s₀ s₁ : Shared}
    (h1 : fencedOpening treeTable p w N = some s₀) (h2 : topFrom treeTable p w N s₀ = some s₁) (h3 : openSeen q loose (importedModules p.main.body) Xt true s₁ = openGood q loose) (h4 : Yf s₁ = Ya w) :
    (openEnds treeTable p w N).map (fun s => (openSeen q loose (importedModules p.main.body) Xt true s, Yf s)) = some (openGood q loose, Ya w) := by
  unfold openEnds
  rw [h1, Option.bind_some, h2, Option.map_some, h3, h4]
theorem left : LeftO pw_sa0154_01 (view pw_sa0154_01 keepI) looseV (XtV pw_sa0154_01) AsOf KsOf 7216 := fun w => by
  obtain ⟨s, hs, hv⟩ := Option.map_eq_some_iff.mp (boot_open (p := pw_sa0154_01) (N := 7216) openingE (by decide +kernel) fenceE w)
  obtain ⟨h, gs, d, k, os⟩ := s
  simp only [Prod.mk.injEq] at hv
  obtain ⟨rfl, rfl, rfl, rfl⟩ := hv
  obtain ⟨s', h1, h2⟩ := Option.map_eq_some_iff.mp (congrFun (one w) os)
  have r := topRun_of h1
  rw [bootAbs] at r
  exact leftOf hs (topFrom_of (mainNsOk _) r (congrArg Prod.fst h2)) (congrArg (fun x => x.2.1) h2) (congrArg (fun x => x.2.2) h2)
theorem obs_says (w : World) (s : Shared) (e : AsOf s = KsOf w) : (Kof pw_sa0154_01 w.params).In s.heap := Frag.in_of (Kas_eq _ _) e
noncomputable abbrev rwW : RowW := rw_sa0154_01.row.toRowW
noncomputable abbrev WalkSt : Prop := WalkO (view pw_sa0154_01 keepI) looseV (XL (view pw_sa0154_01 keepI) []) (InK (Kof pw_sa0154_01)) rwW (lawS pw_sa0154_01) [] (fun f vs => PySem.call f vs)
theorem defE : defOf (view pw_sa0154_01 keepI) rw_sa0154_01.row.name = some (lawS pw_sa0154_01, []) := by kernel_rfl
theorem theDefE : rw_sa0154_01.row.prog.theDef rw_sa0154_01.row.name = some ((lawS pw_sa0154_01).params, (lawS pw_sa0154_01).body, (lawS pw_sa0154_01).scope) := by kernel_rfl
theorem lawSaid : OpenLaw.wellSaid rw_sa0154_01 = true := by kernel_rfl
theorem head (walk : WalkSt) : rw_sa0154_01.Holds := by
  w_on
  refine holds_law lawSaid fun said => ?_
  refine holds_open (q := view pw_sa0154_01 keepI) (loose := looseV) (Xt := XtV pw_sa0154_01) (XP := XL (view pw_sa0154_01 keepI) []) (Yf := AsOf) (Ya := KsOf) (YP := InK (Kof pw_sa0154_01)) (N := 7216) left
    (fun w s e => obs_says w s e) InK.keeps (fun s e => xl_of s (Bool.and_eq_true_iff.mp e).1) XL.keeps defE theDefE (by rfl) (fun s e => recFacts_of (Bool.and_eq_true_iff.mp e).2) (by rfl) (by assumption) (by decide +kernel) ⟨rfl, rfl, rfl, rfl, rfl, by decide +kernel⟩ ?hw walk
  case hw => w_witness2
end Mine
end
section
open PySem PySem.W PySem.Calls PyProof.Rows PySem.Challenge

namespace Mine
/-! ## Model values, the stable part of the heap, the mutable objects -/
inductive MV where
  | none
  | bool (b : Bool)
  | int (i : Int)
  | str (s : Str)
  | tup (xs : List MV)
  | ref (a : Addr)
  | inst (C a d : Addr)
noncomputable abbrev Stab := Addr → Option Obj
noncomputable abbrev tupO (vs : List Value) (n : Nat) : Obj := { cls := .type "tuple", data := .seq vs.toArray n }
mutual
noncomputable def VR (g : Stab) : MV → Value → Prop
  | .none, v => v = .none
  | .bool b, v => v = .bool b
  | .int i, v => ∃ t, v = .int i t
  | .str s, v => ∃ t, v = .str s t
  | .tup xs, v => ∃ a vs o n, v = .ref a ∧ g a = some o ∧ o.cls = .type "tuple" ∧ o.data = .seq (List.toArray vs) n ∧ VRs g xs vs
  | .ref a, v => v = .ref a
  | .inst C a d, v => v = .ref a ∧ g a = some (instObj C d)
noncomputable def VRs (g : Stab) : List MV → List Value → Prop
  | [], vs => vs = []
  | x :: xs, vs => ∃ v vs', vs = v :: vs' ∧ VR g x v ∧ VRs g xs vs'
end
noncomputable def Ext (g g' : Stab) : Prop := ∀ a o, g a = some o → g' a = some o
theorem Ext.refl (g : Stab) : Ext g g := fun _ _ e => e
theorem Ext.trans {g g' g'' : Stab} (x : Ext g g') (y : Ext g' g'') : Ext g g'' := fun a o e => y a o (x a o e)
mutual
theorem VR.mono {g g' : Stab} (x : Ext g g') : ∀ {mv : MV} {v : Value}, VR g mv v → VR g' mv v
  | .none, _, h => by simpa only [VR] using h
  | .bool _, _, h => by simpa only [VR] using h
  | .int _, _, h => by simpa only [VR] using h
  | .str _, _, h => by simpa only [VR] using h
  | .tup xs, _, h => by
    simp only [VR] at h ⊢
    obtain ⟨a, vs, o, n, h1, h2, h3, h4, h5⟩ := h
    exact ⟨a, vs, o, n, h1, x _ _ h2, h3, h4, VRs.mono x h5⟩
  | .ref _, _, h => by simpa only [VR] using h
  | .inst _ _ _, _, h => by
    simp only [VR] at h ⊢
    exact ⟨h.1, x _ _ h.2⟩
theorem VRs.mono {g g' : Stab} (x : Ext g g') : ∀ {xs : List MV} {vs : List Value}, VRs g xs vs → VRs g' xs vs
  | [], _, h => by simpa only [VRs] using h
  | _ :: _, _, h => by
    simp only [VRs] at h ⊢
    obtain ⟨v, vs', h1, h2, h3⟩ := h
    exact ⟨v, vs', h1, VR.mono x h2, VRs.mono x h3⟩
end
theorem VRs.length {g : Stab} : ∀ {xs : List MV} {vs : List Value}, VRs g xs vs → vs.length = xs.length
  | [], _, h => by simp only [VRs] at h; rw [h]; rfl
  | _ :: _, _, h => by
    simp only [VRs] at h
    obtain ⟨v, vs', h1, _, h3⟩ := h
    rw [h1, List.length_cons, List.length_cons, h3.length]
theorem VRs.get {g : Stab} : ∀ {xs : List MV} {vs : List Value}, VRs g xs vs → ∀ {i : Nat} {x : MV}, xs[i]? = some x → ∃ v, vs[i]? = some v ∧ VR g x v
  | [], _, _, i, x, e => by simp at e
  | _ :: _, _, h, i, x, e => by
    simp only [VRs] at h
    obtain ⟨v, vs', rfl, h2, h3⟩ := h
    cases i with
    | zero => simp only [List.getElem?_cons_zero, Option.some.injEq] at e; subst e; exact ⟨v, rfl, h2⟩
    | succ i => simp only [List.getElem?_cons_succ] at e ⊢; exact h3.get e
theorem VRs.append {g : Stab} : ∀ {xs : List MV} {vs : List Value} {ys : List MV} {ws : List Value}, VRs g xs vs → VRs g ys ws → VRs g (xs ++ ys) (vs ++ ws)
  | [], _, _, _, h, k => by simp only [VRs] at h; rw [h]; exact k
  | _ :: _, _, _, _, h, k => by
    simp only [VRs] at h
    obtain ⟨v, vs', rfl, h2, h3⟩ := h
    simp only [List.cons_append, VRs]
    exact ⟨v, _, rfl, h2, h3.append k⟩
theorem VRs.nil {g : Stab} : VRs g [] [] := by simp only [VRs]
theorem VRs.cons {g : Stab} {x : MV} {v : Value} {xs : List MV} {vs : List Value} (h : VR g x v) (k : VRs g xs vs) : VRs g (x :: xs) (v :: vs) := by simp only [VRs]; exact ⟨v, vs, rfl, h, k⟩
theorem VRs.one {g : Stab} {x : MV} {v : Value} (h : VR g x v) : VRs g [x] [v] := .cons h .nil
theorem VRs.inv {g : Stab} {x : MV} {xs : List MV} {ws : List Value} (h : VRs g (x :: xs) ws) : ∃ v vs, ws = v :: vs ∧ VR g x v ∧ VRs g xs vs := by simpa only [VRs] using h
theorem VRs.inv_nil {g : Stab} {ws : List Value} (h : VRs g [] ws) : ws = [] := by simpa only [VRs] using h
theorem VRs.take {g : Stab} : ∀ {xs : List MV} {vs : List Value} (n : Nat), VRs g xs vs → VRs g (xs.take n) (vs.take n)
  | [], _, n, h => by rw [h.inv_nil, List.take_nil, List.take_nil]; exact .nil
  | _ :: _, _, 0, h => by rw [List.take_zero, List.take_zero]; exact .nil
  | _ :: _, _, n + 1, h => by
    obtain ⟨v, vs, rfl, h1, h2⟩ := h.inv
    rw [List.take_succ_cons, List.take_succ_cons]; exact .cons h1 (h2.take n)
theorem VRs.drop {g : Stab} : ∀ {xs : List MV} {vs : List Value} (n : Nat), VRs g xs vs → VRs g (xs.drop n) (vs.drop n)
  | [], _, n, h => by rw [h.inv_nil, List.drop_nil, List.drop_nil]; exact .nil
  | _ :: _, _, 0, h => by rw [List.drop_zero, List.drop_zero]; exact h
  | _ :: _, _, n + 1, h => by
    obtain ⟨v, vs, rfl, h1, h2⟩ := h.inv
    rw [List.drop_succ_cons, List.drop_succ_cons]; exact h2.drop n

theorem VRs.snoc {g : Stab} {x : MV} : ∀ {xs : List MV} {ws : List Value}, VRs g (xs ++ [x]) ws → ∃ us y, ws = us ++ [y] ∧ VRs g xs us ∧ VR g x y
  | [], ws, h => by
    obtain ⟨v, vs, rfl, h1, h2⟩ := h.inv
    rw [h2.inv_nil]
    exact ⟨[], v, rfl, .nil, h1⟩
  | _ :: xs, ws, h => by
    obtain ⟨v, vs, rfl, h1, h2⟩ := h.inv
    obtain ⟨us, y, rfl, h3, h4⟩ := VRs.snoc h2
    exact ⟨v :: us, y, rfl, .cons h1 h3, h4⟩
inductive MObj where
  | list (xs : List MV)
  | ns (fs : List (Str × MV))
  | dI (kvs : List (Int × MV))
  | dS (kvs : List (Str × MV))
  | dT (kvs : List (List Int × MV))
  | exc (d : Option Addr)
noncomputable abbrev Sto := Addr → Option MObj
noncomputable def Sto.set (σ : Sto) (a : Addr) (o : MObj) : Sto := fun b => if b = a then some o else σ b
@[simp] theorem Sto.set_self (σ : Sto) (a : Addr) (o : MObj) : σ.set a o a = some o := by simp [Sto.set]
theorem Sto.set_ne (σ : Sto) {a b : Addr} (o : MObj) (h : b ≠ a) : σ.set a o b = σ b := by simp [Sto.set, h]

/-- an object's fields as a dict's entries -/
noncomputable def NsR (P : Params) (g : Stab) : List DictEntry → List (Str × MV) → Prop
  | [], fs => fs = []
  | e :: es, fs => ∃ x mv fs' t v, fs = (x, mv) :: fs' ∧ e = ⟨PyData.keyHash P x, .str x t, v⟩ ∧ VR g mv v ∧ NsR P g es fs'
theorem NsR.mono {P : Params} {g g' : Stab} (x : Ext g g') : ∀ {es : List DictEntry} {fs : List (Str × MV)}, NsR P g es fs → NsR P g' es fs
  | [], _, h => h
  | _ :: _, _, ⟨y, mv, fs', t, v, h1, h2, h3, h4⟩ => ⟨y, mv, fs', t, v, h1, h2, h3.mono x, h4.mono x⟩
/-- pairs of a key and a value -/
noncomputable def KR {K : Type} (g : Stab) : List (K × MV) → List (K × Value) → Prop
  | [], vs => vs = []
  | (k, mv) :: r, vs => ∃ v vs', vs = (k, v) :: vs' ∧ VR g mv v ∧ KR g r vs'
theorem KR.mono {K : Type} {g g' : Stab} (x : Ext g g') : ∀ {kvs : List (K × MV)} {vs : List (K × Value)}, KR g kvs vs → KR g' kvs vs
  | [], _, h => h
  | _ :: _, _, ⟨v, vs', h1, h2, h3⟩ => ⟨v, vs', h1, h2.mono x, h3.mono x⟩
noncomputable def TR (g : Stab) : List (List Int × MV) → List (List Int × Addr × Value) → Prop
  | [], vs => vs = []
  | (k, mv) :: r, vs => ∃ a v vs', vs = (k, a, v) :: vs' ∧ VR g mv v ∧ TR g r vs'
theorem TR.mono {g g' : Stab} (x : Ext g g') : ∀ {kvs : List (List Int × MV)} {vs : List (List Int × Addr × Value)}, TR g kvs vs → TR g' kvs vs
  | [], _, h => h
  | _ :: _, _, ⟨a, v, vs', h1, h2, h3⟩ => ⟨a, v, vs', h1, h2.mono x, h3.mono x⟩
noncomputable abbrev tkind (w : World) : HeapKind pw_sa0154_01 w (List Int) := tupleKind (intKind pw_sa0154_01 w)
noncomputable def TKeys (w : World) (g : Stab) (xs : List (List Int × Addr × Value)) : Prop := ∀ x ∈ xs, ∃ o items n, g x.2.1 = some o ∧ o.cls = .type "tuple" ∧ o.data = .seq items n ∧ ItemsAre (intKind pw_sa0154_01 w) x.1 items.toList
theorem TKeys.mono {w : World} {g g' : Stab} (x : Ext g g') {xs : List (List Int × Addr × Value)} (h : TKeys w g xs) : TKeys w g' xs := fun y hy => let ⟨o, items, n, a, r⟩ := h y hy; ⟨o, items, n, x _ _ a, r⟩
/-- an exception of the text's own class that was never raised -/
noncomputable abbrev excObj (t : Addr) (d : Option Addr) : Obj := { cls := .ref 51, dict := d, data := .fields #[.ref t, .none, .none, .none, .bool false, .none] }
noncomputable def ObjAt (w : World) (g : Stab) (h : Heap) (a : Addr) : MObj → Prop
  | .list xs => ∃ vs n, h.get? a = some (listOf (List.toArray vs) n) ∧ VRs g xs vs
  | .ns fs => ∃ es n, h.get? a = some (dictOf es n) ∧ NsR w.params g es fs
  | .dI kvs => ∃ o vs, h.get? a = some o ∧ o.IsDictOf (intKind pw_sa0154_01 w) vs ∧ KR g kvs vs
  | .dS kvs => ∃ o vs, h.get? a = some o ∧ o.IsDictOf (strKind pw_sa0154_01 w) vs ∧ KR g kvs vs
  | .dT kvs => ∃ o es ep xs, h.get? a = some o ∧ o.ExactDict ∧ o.data = .dict es ep ∧ es.toList = xs.map (entryOfKey (tkind w)) ∧ TKeys w g xs ∧ (xs.map (·.1)).Nodup ∧ TR g kvs xs
  | .exc d => ∃ t, h.get? a = some (excObj t d)
theorem ObjAt.mono {w : World} {g g' : Stab} (x : Ext g g') {h : Heap} {a : Addr} : ∀ {mo : MObj}, ObjAt w g h a mo → ObjAt w g' h a mo
  | .list _, ⟨vs, n, e, r⟩ => ⟨vs, n, e, r.mono x⟩
  | .ns _, ⟨vs, n, e, r⟩ => ⟨vs, n, e, r.mono x⟩
  | .dI _, ⟨o, vs, e, d, r⟩ => ⟨o, vs, e, d, r.mono x⟩
  | .dS _, ⟨o, vs, e, d, r⟩ => ⟨o, vs, e, d, r.mono x⟩
  | .dT _, ⟨o, es, ep, xs, e, d1, d2, d3, d4, d5, r⟩ => ⟨o, es, ep, xs, e, d1, d2, d3, d4.mono x, d5, r.mono x⟩
  | .exc _, h => h
theorem ObjAt.get {w : World} {g : Stab} {h : Heap} {a : Addr} : ∀ {mo : MObj}, ObjAt w g h a mo → ∃ o, h.get? a = some o
  | .list _, ⟨_, _, e, _⟩ => ⟨_, e⟩
  | .ns _, ⟨_, _, e, _⟩ => ⟨_, e⟩
  | .dI _, ⟨_, _, e, _⟩ => ⟨_, e⟩
  | .dS _, ⟨_, _, e, _⟩ => ⟨_, e⟩
  | .dT _, ⟨_, _, _, _, e, _⟩ => ⟨_, e⟩
  | .exc _, ⟨_, e⟩ => ⟨_, e⟩
theorem ObjAt.at {w : World} {g : Stab} {h h' : Heap} {a : Addr} (k : ∀ o, h.get? a = some o → h'.get? a = some o) : ∀ {mo : MObj}, ObjAt w g h a mo → ObjAt w g h' a mo
  | .list _, ⟨vs, n, e, r⟩ => ⟨vs, n, k _ e, r⟩
  | .ns _, ⟨vs, n, e, r⟩ => ⟨vs, n, k _ e, r⟩
  | .dI _, ⟨o, vs, e, d, r⟩ => ⟨o, vs, k _ e, d, r⟩
  | .dS _, ⟨o, vs, e, d, r⟩ => ⟨o, vs, k _ e, d, r⟩
  | .dT _, ⟨o, es, ep, xs, e, r⟩ => ⟨o, es, ep, xs, k _ e, r⟩
  | .exc _, ⟨t, e⟩ => ⟨t, k _ e⟩
end Mine
end
section
open PySem PySem.W PySem.Calls PyProof.Rows PySem.Challenge

namespace Mine
noncomputable abbrev Pw : Program := pw_sa0154_01
/-- what stood before the law's call -/
structure Cx where
  w : World
  h₁ : Heap
  os₀ : OsState
  mg : Str → Option Value
  mb : Str → Option Value
  T : TopRead (view Pw keepI) (looseW (view Pw keepI) looseV) mg mb h₁
  K : (Kof Pw w.params).In h₁
noncomputable abbrev Cx.KK (C : Cx) : Frag := Kof Pw C.w.params
noncomputable abbrev Cx.M (C : Cx) : Model := model Pw C.w
noncomputable abbrev Frm := Env × Addr × (Str → Option Value)

/-- every object of the heap beyond the base, but the frame at L -/
noncomputable def restOf (b : Heap) (L : Addr) (h : Heap) : List (Addr × Obj) :=
  (List.range h.objs.size).filterMap fun a => if a = L ∨ (b.get? a).isSome then none else (h.get? a).map fun o => (a, o)
theorem mem_restOf {b : Heap} {L : Addr} {h : Heap} {p : Addr × Obj} : p ∈ restOf b L h ↔ h.get? p.1 = some p.2 ∧ p.1 ≠ L ∧ b.get? p.1 = none := by
  unfold restOf
  rw [List.mem_filterMap]
  constructor
  · rintro ⟨a, ha, e⟩
    split at e
    · cases e
    · rename_i q
      obtain ⟨o, ho, rfl⟩ := Option.map_eq_some_iff.mp e
      simp only [not_or, Option.not_isSome_iff_eq_none] at q
      exact ⟨ho, q.1, q.2⟩
  · rintro ⟨h1, h2, h3⟩
    refine ⟨p.1, List.mem_range.mpr (Heap.lt_size h1), ?_⟩
    rw [if_neg (by simp [h2, h3]), h1]; rfl
theorem restOf_keys {b : Heap} {L : Addr} {h : Heap} : ((restOf b L h).map (·.1)).Pairwise (· < ·) := by
  unfold restOf
  have key : ∀ l : List Nat, l.Pairwise (· < ·) → ((l.filterMap fun a => if a = L ∨ (b.get? a).isSome then none else (h.get? a).map fun o => (a, o)).map (·.1)).Pairwise (· < ·) := by
    intro l
    induction l with
    | nil => intro _; exact .nil
    | cons a r ih =>
      intro hp
      obtain ⟨h1, h2⟩ := List.pairwise_cons.mp hp
      rw [List.filterMap_cons]
      split
      · exact ih h2
      · rename_i p e
        rw [List.map_cons, List.pairwise_cons]
        refine ⟨?_, ih h2⟩
        intro c hc
        obtain ⟨q, hq, rfl⟩ := List.mem_map.mp hc
        obtain ⟨a', ha', e'⟩ := List.mem_filterMap.mp hq
        have ea : p.1 = a := by
          split at e
          · cases e
          · obtain ⟨o, _, rfl⟩ := Option.map_eq_some_iff.mp e; rfl
        have eq' : q.1 = a' := by
          split at e'
          · cases e'
          · obtain ⟨o, _, rfl⟩ := Option.map_eq_some_iff.mp e'; rfl
        rw [ea, eq']
        exact h1 a' ha'
  exact key _ List.pairwise_lt_range
theorem restOf_split {b : Heap} {L : Addr} {h : Heap} {D : Addr} {o : Obj} (hD : h.get? D = some o) (hL : D ≠ L) (hb : b.get? D = none) :
    ∃ pre post, restOf b L h = pre ++ (D, o) :: post ∧ (∀ p ∈ pre, p.1 ≠ D) ∧ (∀ p ∈ post, p.1 ≠ D) := by
  obtain ⟨pre, post, e⟩ := List.append_of_mem (mem_restOf.mpr ⟨hD, hL, hb⟩ : (D, o) ∈ restOf b L h)
  have k := restOf_keys (b := b) (L := L) (h := h)
  rw [e, List.map_append, List.map_cons] at k
  obtain ⟨k1, k2, k3⟩ := List.pairwise_append.mp k
  exact ⟨pre, post, e, fun p hp => Nat.ne_of_lt (k3 p.1 (List.mem_map_of_mem hp) D (.head _)), fun p hp => Nat.ne_of_gt ((List.pairwise_cons.mp k2).1 p.1 (List.mem_map_of_mem hp))⟩

noncomputable def FrmsOk (C : Cx) (g : Stab) (σ : Sto) (h : Heap) : List Frm → Prop
  | [] => True
  | (env, L, m) :: r => (env.frame = some L ∧ env.scope.kind = .function ∧ h.Ns L m ∧ C.h₁.objs.size ≤ L ∧ g L = none ∧ σ L = none ∧ (∀ q ∈ r, q.2.1 ≠ L)) ∧ FrmsOk C g σ h r
structure Rel (C : Cx) (g : Stab) (σ : Sto) (frs : List Frm) (s : Shared) : Prop where
  base : ∀ a o, C.h₁.get? a = some o → g a = some o
  keep : ∀ a o, g a = some o → s.heap.get? a = some o
  objs : ∀ a mo, σ a = some mo → g a = none ∧ ObjAt C.w g s.heap a mo
  frs : FrmsOk C g σ s.heap frs
  gens : s.gens = #[]
  os : s.os = C.os₀
theorem Rel.keepsB {C : Cx} {g : Stab} {σ : Sto} {frs : List Frm} {s : Shared} (R : Rel C g σ frs s) : ∀ a o, C.h₁.get? a = some o → s.heap.get? a = some o := fun a o e => R.keep a o (R.base a o e)
theorem Rel.Kin {C : Cx} {g : Stab} {σ : Sto} {frs : List Frm} {s : Shared} (R : Rel C g σ frs s) : C.KK.In s.heap := C.K.keeps R.keepsB
theorem Rel.F {C : Cx} {g : Stab} {σ : Sto} {env : Env} {L : Addr} {m : Str → Option Value} {frs : List Frm} {s : Shared} (R : Rel C g σ ((env, L, m) :: frs) s) : Fr C.h₁ L s.heap m :=
  ⟨R.frs.1.2.2.1, R.keepsB, R.frs.1.2.2.2.1⟩
theorem Rel.N {C : Cx} {g : Stab} {σ : Sto} {frs : List Frm} {s : Shared} (_R : Rel C g σ frs s) (L : Addr) : News C.h₁ L s.heap (restOf C.h₁ L s.heap) := fun p hp => mem_restOf.mp hp
theorem FrmsOk.mem {C : Cx} {g : Stab} {σ : Sto} {h : Heap} {l : List Frm} (H : FrmsOk C g σ h l) : ∀ p ∈ l, p.1.frame = some p.2.1 ∧ p.1.scope.kind = .function ∧ h.Ns p.2.1 p.2.2 ∧ C.h₁.objs.size ≤ p.2.1 ∧ g p.2.1 = none ∧ σ p.2.1 = none := by
  induction l with
  | nil => intro p hp; cases hp
  | cons q l ih =>
    obtain ⟨env, L, m⟩ := q
    obtain ⟨⟨a1, a2, a3, a4, a5, a6, _⟩, r⟩ := H
    intro p hp
    rcases List.mem_cons.mp hp with rfl | hp
    · exact ⟨a1, a2, a3, a4, a5, a6⟩
    · exact ih r p hp
/-- frames stand in another heap, over another part and store -/
theorem FrmsOk.to {C : Cx} {g g' : Stab} {σ σ' : Sto} {h h' : Heap} : ∀ {l : List Frm}, FrmsOk C g σ h l → (∀ p ∈ l, ∀ m, h.Ns p.2.1 m → h'.Ns p.2.1 m) → (∀ p ∈ l, g p.2.1 = none → g' p.2.1 = none) → (∀ p ∈ l, σ p.2.1 = none → σ' p.2.1 = none) → FrmsOk C g' σ' h' l
  | [], _, _, _, _ => trivial
  | (_, _, _) :: _, ⟨⟨a1, a2, a3, a4, a5, a6, a7⟩, r⟩, k1, k2, k3 =>
    ⟨⟨a1, a2, k1 _ (.head _) _ a3, a4, k2 _ (.head _) a5, k3 _ (.head _) a6, a7⟩, r.to (fun p hp => k1 p (.tail _ hp)) (fun p hp => k2 p (.tail _ hp)) (fun p hp => k3 p (.tail _ hp))⟩
section
variable {C : Cx} {g : Stab} {σ : Sto} {env : Env} {L : Addr} {m : Str → Option Value} {frs : List Frm} {s : Shared}
theorem Rel.live {frs : List Frm} (R : Rel C g σ frs s) {p : Frm} (hp : p ∈ frs) : ∃ o, s.heap.get? p.2.1 = some o := by
  obtain ⟨_, _, ⟨o, _, _, e, _⟩, _⟩ := R.frs.mem p hp
  exact ⟨o, e⟩
/-- another heap that keeps all but the frame at hand, whose names it keeps too -/
theorem Rel.keepAll (R : Rel C g σ ((env, L, m) :: frs) s) {h' : Heap} (same : ∀ b o, b ≠ L → s.heap.get? b = some o → h'.get? b = some o) (ns : h'.Ns L m) (t : Nat) : Rel C g σ ((env, L, m) :: frs) { s with heap := h', toks := t } := by
  obtain ⟨⟨f1, f2, f3, f4, f5, f6, f7⟩, fr⟩ := R.frs
  refine ⟨R.base, fun a o e => same a o ?_ (R.keep a o e), fun a mo e => ⟨(R.objs a mo e).1, (R.objs a mo e).2.at fun o e' => same a o ?_ e'⟩, ⟨⟨f1, f2, ns, f4, f5, f6, f7⟩, fr.to (fun p hp mm hn => ?_) (fun _ _ z => z) fun _ _ z => z⟩, R.gens, R.os⟩
  · rintro rfl; rw [f5] at e; cases e
  · rintro rfl; rw [f6] at e; cases e
  · obtain ⟨o, es, ep, e1, r⟩ := hn
    exact ⟨o, es, ep, same _ _ (f7 p hp) e1, r⟩
/-- a heap where one object is another -/
theorem Rel.change (R : Rel C g σ ((env, L, m) :: frs) s) {h' : Heap} {D : Addr} {mo mo' : MObj} (hD : σ D = some mo) (same : ∀ b o, b ≠ D → b ≠ L → s.heap.get? b = some o → h'.get? b = some o) (ns : h'.Ns L m) (o' : ObjAt C.w g h' D mo') (t : Nat) :
    Rel C g (σ.set D mo') ((env, L, m) :: frs) { s with heap := h', toks := t } := by
  obtain ⟨⟨f1, f2, f3, f4, f5, f6, f7⟩, fr⟩ := R.frs
  have gD := (R.objs D mo hD).1
  have LD : L ≠ D := by rintro rfl; rw [f6] at hD; cases hD
  refine ⟨R.base, fun a o e => same a o ?_ ?_ (R.keep a o e), fun a ma e => ?_, ⟨⟨f1, f2, ns, f4, f5, ?_, f7⟩, fr.to (fun p hp mm hn => ?_) (fun _ _ z => z) fun p hp z => ?_⟩, R.gens, R.os⟩
  · rintro rfl; rw [gD] at e; cases e
  · rintro rfl; rw [f5] at e; cases e
  · by_cases q : a = D
    · subst q
      rw [Sto.set_self] at e; cases e
      exact ⟨gD, o'⟩
    · rw [Sto.set_ne _ _ q] at e
      refine ⟨(R.objs a ma e).1, (R.objs a ma e).2.at fun o e' => same a o q ?_ e'⟩
      rintro rfl; rw [f6] at e; cases e
  · rw [Sto.set_ne _ _ LD]; exact f6
  · obtain ⟨o, es, ep, e1, r⟩ := hn
    have z := (fr.mem p hp).2.2.2.2.2
    refine ⟨o, es, ep, same _ _ ?_ (f7 p hp) e1, r⟩
    intro q; rw [q, hD] at z; cases z
  · have : p.2.1 ≠ D := by intro q; rw [q, hD] at z; cases z
    rw [Sto.set_ne _ _ this]; exact z
/-- an address that is new -/
structure Fresh (g : Stab) (σ : Sto) (frs : List Frm) (D : Addr) : Prop where
  g : g D = none
  s : σ D = none
  f : ∀ p ∈ frs, p.2.1 ≠ D
theorem Rel.fresh {frs : List Frm} (R : Rel C g σ frs s) {D : Addr} (h : s.heap.get? D = none) : Fresh g σ frs D := by
  refine ⟨?_, ?_, fun p hp q => ?_⟩
  · cases q : g D with
    | none => rfl
    | some o => rw [R.keep _ _ q] at h; cases h
  · cases q : σ D with
    | none => rfl
    | some mo => obtain ⟨o, e⟩ := (R.objs _ _ q).2.get; rw [e] at h; cases h
  · obtain ⟨o, e⟩ := R.live hp
    rw [q, h] at e; cases e
noncomputable def Stab.add (g : Stab) (D : Addr) (o : Obj) : Stab := fun b => if b = D then some o else g b
theorem Stab.add_self (g : Stab) (D : Addr) (o : Obj) : g.add D o D = some o := by simp [Stab.add]
theorem Stab.add_ext {g : Stab} {D : Addr} {o : Obj} (h : g D = none) : Ext g (g.add D o) := fun a x e => by
  unfold Stab.add
  rw [if_neg ?_]
  · exact e
  · rintro rfl; rw [h] at e; cases e
theorem Rel.addG {frs : List Frm} (R : Rel C g σ frs s) {D : Addr} {o : Obj} (N : Fresh g σ frs D) (ho : s.heap.get? D = some o) : Rel C (g.add D o) σ frs s := by
  have x := Stab.add_ext (o := o) N.g
  refine ⟨fun a y e => x _ _ (R.base a y e), fun a y e => ?_, fun a mo e => ⟨?_, (R.objs a mo e).2.mono x⟩, R.frs.to (fun _ _ _ z => z) (fun p hp z => ?_) fun _ _ z => z, R.gens, R.os⟩
  · unfold Stab.add at e
    split at e
    · rename_i q; cases e; rw [q]; exact ho
    · exact R.keep _ _ e
  · unfold Stab.add
    rw [if_neg ?_]
    · exact (R.objs a mo e).1
    · rintro rfl; rw [N.s] at e; cases e
  · unfold Stab.add
    rw [if_neg (N.f p hp)]; exact z
theorem Rel.addS {frs : List Frm} (R : Rel C g σ frs s) {D : Addr} {mo : MObj} (N : Fresh g σ frs D) (ho : ObjAt C.w g s.heap D mo) : Rel C g (σ.set D mo) frs s := by
  refine ⟨R.base, R.keep, fun a ma e => ?_, R.frs.to (fun _ _ _ z => z) (fun _ _ z => z) fun p hp z => ?_, R.gens, R.os⟩
  · by_cases q : a = D
    · subst q; rw [Sto.set_self] at e; cases e; exact ⟨N.g, ho⟩
    · rw [Sto.set_ne _ _ q] at e; exact R.objs a ma e
  · rw [Sto.set_ne _ _ (N.f p hp)]; exact z
/-- what the library's rules hand back, over all that lies beyond the base -/
theorem Rel.ofNews (R : Rel C g σ ((env, L, m) :: frs) s) {h' : Heap} {extra : List (Addr × Obj)} (F : Fr C.h₁ L h' m) (N : News C.h₁ L h' (extra ++ restOf C.h₁ L s.heap)) (t : Nat) : Rel C g σ ((env, L, m) :: frs) { s with heap := h', toks := t } := by
  refine R.keepAll (fun b o hb e => ?_) F.ns t
  cases q : C.h₁.get? b with
  | some x =>
    have := R.keepsB _ _ q
    rw [e] at this; cases this
    exact F.keep _ _ q
  | none => exact (N (b, o) (List.mem_append_right _ (mem_restOf.mpr ⟨e, hb, q⟩))).1
theorem Rel.ofUpd (R : Rel C g σ ((env, L, m) :: frs) s) {h' : Heap} {D : Addr} {o o' : Obj} {mo mo' : MObj} {pre post : List (Addr × Obj)} (hD : σ D = some mo) (e : restOf C.h₁ L s.heap = pre ++ (D, o) :: post) (F : Fr C.h₁ L h' m) (N : News C.h₁ L h' (pre ++ (D, o') :: post))
    (ob : h'.get? D = some o' → ObjAt C.w g h' D mo') (t : Nat) : Rel C g (σ.set D mo') ((env, L, m) :: frs) { s with heap := h', toks := t } := by
  refine R.change hD (fun b x h1 h2 h3 => ?_) F.ns (ob (N (D, o') (by simp)).1) t
  cases q : C.h₁.get? b with
  | some y =>
    have := R.keepsB _ _ q
    rw [h3] at this; cases this
    exact F.keep _ _ q
  | none =>
    have hm : (b, x) ∈ restOf C.h₁ L s.heap := mem_restOf.mpr ⟨h3, h2, q⟩
    rw [e] at hm
    rcases List.mem_append.mp hm with hm | hm
    · exact (N (b, x) (List.mem_append_left _ hm)).1
    · rcases List.mem_cons.mp hm with hm | hm
      · cases hm; exact absurd rfl h1
      · exact (N (b, x) (List.mem_append_right _ (.tail _ hm))).1
/-- the object at D, among all that lies beyond the base -/
theorem Rel.split (R : Rel C g σ ((env, L, m) :: frs) s) {D : Addr} {mo : MObj} {o : Obj} (hD : σ D = some mo) (ho : s.heap.get? D = some o) : ∃ pre post, restOf C.h₁ L s.heap = pre ++ (D, o) :: post ∧ (∀ p ∈ pre, p.1 ≠ D) ∧ (∀ p ∈ post, p.1 ≠ D) := by
  refine restOf_split ho ?_ ?_
  · rintro rfl
    rw [R.frs.1.2.2.2.2.2.1] at hD; cases hD
  · cases q : C.h₁.get? D with
    | none => rfl
    | some x => have := (R.objs _ _ hD).1; rw [R.base _ _ q] at this; cases this
theorem upd_of {D : Addr} {o o' : Obj} : ∀ {pre post : List (Addr × Obj)}, (∀ p ∈ pre, p.1 ≠ D) → (∀ p ∈ post, p.1 ≠ D) → Upd D o o' (pre ++ (D, o) :: post) (pre ++ (D, o') :: post)
  | [], _, _, h2 => .head h2
  | p :: _, _, h1, h2 => .tail (h1 p (.head _)) (upd_of (fun q hq => h1 q (.tail _ hq)) h2)
end
end Mine
end
section
open PySem PySem.W PySem.Calls PyProof.Rows PySem.Challenge

namespace Mine
structure FI where
  fd : FuncData
  addr : Addr
noncomputable abbrev FI.env (f : FI) (L : Addr) : Env := callEnv f.fd L f.addr
noncomputable abbrev Loc (g : Stab) (ρ : List (Str × MV)) (m : Str → Option Value) : Prop := ∀ p ∈ ρ, ∃ v, m p.1 = some v ∧ VR g p.2 v
theorem Loc.mono {g g' : Stab} {ρ : List (Str × MV)} {m : Str → Option Value} (x : Ext g g') (h : Loc g ρ m) : Loc g' ρ m := fun p hp => let ⟨v, a, b⟩ := h p hp; ⟨v, a, b.mono x⟩
structure Room (A : Around) (k : Nat) (frs : List Frm) : Prop where
  depth : A.depth + k < recursionLimit
  units : A.units + 20 * k + 20 < cLine
  frames : A.frames = some (frs.map (·.1))
  handled : 2 ≤ k → A.handled = none
/-- the traceback's cell of an exception: none yet, or one with the flight fl -/
noncomputable def TbAt (g : Stab) (σ : Sto) (frs : List Frm) (h : Heap) (e : Addr) (vs : Array Value) : Option Value → Prop
  | none => vs[1]? = some .none
  | some fl => ∃ T oT ts, vs[1]? = some (.ref T) ∧ Fresh g σ frs T ∧ T ≠ e ∧ h.get? T = some oT ∧ oT.data = .fields ts ∧ ts[3]? = some fl
/-- an exception of the text's own class on its way -/
structure Air (C : Cx) (g : Stab) (σ : Sto) (frs : List Frm) (s : Shared) (e d : Addr) (fl : Option Value) : Prop where
  rel : Rel C g σ frs s
  new : Fresh g σ frs e
  obj : ∃ oe vs, s.heap.get? e = some oe ∧ oe.cls = .ref 51 ∧ oe.dict = some d ∧ oe.data = .fields vs ∧ vs[2]? = some .none ∧ TbAt g σ frs s.heap e vs fl
noncomputable def FlOk : List Frm → Option Value → Prop
  | _, none => True
  | [], some v => v = .none
  | (_, L, _) :: _, some v => v = .none ∨ v = rawInt L
noncomputable def Flies (C : Cx) (g : Stab) (σ : Sto) (frs : List Frm) (s : Shared) (e d : Addr) : Prop := ∃ fl, FlOk frs fl ∧ Air C g σ frs s e d fl
noncomputable abbrev ExcP := Addr → Sto → Prop
noncomputable abbrev NoX : ExcP := fun _ _ => False
noncomputable def PostV (C : Cx) (g : Stab) (frs : List Frm) (Q : MV → Sto → Prop) : Value → Shared → Prop := fun v s' => ∃ mv g' σ', Ext g g' ∧ Rel C g' σ' frs s' ∧ VR g' mv v ∧ Q mv σ'
noncomputable def PostX (C : Cx) (g : Stab) (frs : List Frm) (X : ExcP) : Value → Shared → Prop := fun e s' => ∃ ea d g' σ', e = .ref ea ∧ Ext g g' ∧ Flies C g' σ' frs s' ea d ∧ X d σ'
theorem PostV.ext {C : Cx} {g g' : Stab} {frs : List Frm} {Q : MV → Sto → Prop} {v : Value} {s : Shared} (x : Ext g g') (h : PostV C g' frs Q v s) : PostV C g frs Q v s :=
  let ⟨mv, g'', σ', a, b⟩ := h; ⟨mv, g'', σ', x.trans a, b⟩
theorem PostX.ext {C : Cx} {g g' : Stab} {frs : List Frm} {X : ExcP} {v : Value} {s : Shared} (x : Ext g g') (h : PostX C g' frs X v s) : PostX C g frs X v s :=
  let ⟨ea, d, g'', σ', e, a, b⟩ := h; ⟨ea, d, g'', σ', e, x.trans a, b⟩
inductive MF where
  | next
  | brk
  | cont
  | ret (v : MV)
noncomputable def FR (g : Stab) : MF → Flow → Prop
  | .next, f => f = .next
  | .brk, f => f = .brk
  | .cont, f => f = .cont
  | .ret mv, f => ∃ v, f = .ret v ∧ VR g mv v
noncomputable abbrev Env1 := List (Str × MV)
noncomputable def PostS (C : Cx) (g : Stab) (env : Env) (L : Addr) (frs : List Frm) (Q : MF → Env1 → Sto → Prop) : Flow → Shared → Prop :=
  fun fl s' => ∃ mf ρ' m' g' σ', Ext g g' ∧ Rel C g' σ' ((env, L, m') :: frs) s' ∧ Loc g' ρ' m' ∧ FR g' mf fl ∧ Q mf ρ' σ'
noncomputable abbrev ExcS := Addr → Env1 → Sto → Prop
noncomputable abbrev NoXS : ExcS := fun _ _ _ => False
noncomputable def PostXS (C : Cx) (g : Stab) (env : Env) (L : Addr) (frs : List Frm) (X : ExcS) : Value → Shared → Prop :=
  fun e s' => ∃ ea d ρ' m' g' σ', e = .ref ea ∧ Ext g g' ∧ Flies C g' σ' ((env, L, m') :: frs) s' ea d ∧ Loc g' ρ' m' ∧ X d ρ' σ'
theorem PostS.ext {C : Cx} {g g' : Stab} {env : Env} {L : Addr} {frs : List Frm} {Q : MF → Env1 → Sto → Prop} {v : Flow} {s : Shared} (x : Ext g g') (h : PostS C g' env L frs Q v s) : PostS C g env L frs Q v s :=
  let ⟨mf, ρ, m, g'', σ', a, b⟩ := h; ⟨mf, ρ, m, g'', σ', x.trans a, b⟩
theorem PostXS.ext {C : Cx} {g g' : Stab} {env : Env} {L : Addr} {frs : List Frm} {X : ExcS} {v : Value} {s : Shared} (x : Ext g g') (h : PostXS C g' env L frs X v s) : PostXS C g env L frs X v s :=
  let ⟨ea, d, ρ, m, g'', σ', e, a, b⟩ := h; ⟨ea, d, ρ, m, g'', σ', e, x.trans a, b⟩
noncomputable def EVt (C : Cx) (k : Nat) (f : FI) (t : Env → Sem Value) (ρ : Env1) (σ : Sto) (Q : MV → Sto → Prop) (X : ExcP) : Prop :=
  ∀ A L m frs g s, Room A k ((f.env L, L, m) :: frs) → Rel C g σ ((f.env L, L, m) :: frs) s → Loc g ρ m →
    wpAny C.M A (t (f.env L)) (PostV C g ((f.env L, L, m) :: frs) Q) (PostX C g ((f.env L, L, m) :: frs) X) s
noncomputable abbrev EV (C : Cx) (k : Nat) (f : FI) (e : Expr) (ρ : Env1) (σ : Sto) (Q : MV → Sto → Prop) (X : ExcP) : Prop := EVt C k f (eval e) ρ σ Q X
/-- a test's truth -/
noncomputable def TV (C : Cx) (k : Nat) (f : FI) (e : Expr) (ρ : Env1) (σ : Sto) (Q : Bool → Sto → Prop) (X : ExcP) : Prop :=
  ∀ A L m frs g s, Room A k ((f.env L, L, m) :: frs) → Rel C g σ ((f.env L, L, m) :: frs) s → Loc g ρ m →
    wpAny C.M A (isTrue e (f.env L) (eval e (f.env L))) (fun b s' => ∃ g' σ', Ext g g' ∧ Rel C g' σ' ((f.env L, L, m) :: frs) s' ∧ Q b σ') (PostX C g ((f.env L, L, m) :: frs) X) s
noncomputable def SVt (C : Cx) (k : Nat) (f : FI) (t : Env → Sem Flow) (ρ : Env1) (σ : Sto) (Q : MF → Env1 → Sto → Prop) (X : ExcS) : Prop :=
  ∀ A L m frs g s, Room A k ((f.env L, L, m) :: frs) → Rel C g σ ((f.env L, L, m) :: frs) s → Loc g ρ m →
    wpAny C.M A (t (f.env L)) (PostS C g (f.env L) L frs Q) (PostXS C g (f.env L) L frs X) s
noncomputable abbrev SV (C : Cx) (k : Nat) (f : FI) (ss : List Stmt) (ρ : Env1) (σ : Sto) (Q : MF → Env1 → Sto → Prop) (X : ExcS) : Prop := SVt C k f (execs ss) ρ σ Q X
noncomputable abbrev SV1 (C : Cx) (k : Nat) (f : FI) (st : Stmt) (ρ : Env1) (σ : Sto) (Q : MF → Env1 → Sto → Prop) (X : ExcS) : Prop := SVt C k f (exec st) ρ σ Q X
noncomputable def PostR (C : Cx) (g : Stab) (frs : List Frm) (Q : MV → Sto → Prop) (X : ExcP) : Result → Shared → Prop := fun r s' => match r with
  | .ok (.ret v) => PostV C g frs Q v s'
  | .ok _ => False
  | .error e => PostX C g frs X e s'
/-- a call of the function value fv -/
noncomputable def CV (C : Cx) (k : Nat) (fv : Value) (args : List MV) (σ : Sto) (Q : MV → Sto → Prop) (X : ExcP) : Prop :=
  ∀ A frs g s vs, frs ≠ [] → Room A k frs → Rel C g σ frs s → VRs g args vs → codeAny C.M A (.call fv ⟨vs, []⟩) (PostR C g frs Q X) s

section
variable {C : Cx} {k : Nat} {f : FI} {ρ : Env1} {σ : Sto} {X : ExcP} {XS : ExcS}
theorem EVt.mono {t : Env → Sem Value} {Q Q' : MV → Sto → Prop} {X' : ExcP} (h : EVt C k f t ρ σ Q X) (hQ : ∀ v σ', Q v σ' → Q' v σ') (hX : ∀ d σ', X d σ' → X' d σ') : EVt C k f t ρ σ Q' X' :=
  fun A L m frs g s r R l => wpAny_mono (h A L m frs g s r R l) (fun _ _ ⟨mv, g', σ', a, b, c, q⟩ => ⟨mv, g', σ', a, b, c, hQ _ _ q⟩) (fun _ _ ⟨ea, d, g', σ', e, a, b, q⟩ => ⟨ea, d, g', σ', e, a, b, hX _ _ q⟩)
/-- what comes behind an expression's value -/
theorem EVt.then {t : Env → Sem Value} {Q₁ : MV → Sto → Prop} {A : Around} {L : Addr} {m : Str → Option Value} {frs : List Frm} {g : Stab} {s : Shared} {W : Value → Shared → Prop} {E : Value → Shared → Prop}
    (h : EVt C k f t ρ σ Q₁ X) (r : Room A k ((f.env L, L, m) :: frs)) (R : Rel C g σ ((f.env L, L, m) :: frs) s) (l : Loc g ρ m) (hE : ∀ v s', PostX C g ((f.env L, L, m) :: frs) X v s' → E v s')
    (cont : ∀ mv g' σ' v s', Ext g g' → Rel C g' σ' ((f.env L, L, m) :: frs) s' → Loc g' ρ m → VR g' mv v → Q₁ mv σ' → W v s') : wpAny C.M A (t (f.env L)) W E s :=
  wpAny_mono (h A L m frs g s r R l) (fun v s' ⟨mv, g', σ', a, b, c, q⟩ => cont mv g' σ' v s' a b (l.mono a) c q) (fun v s' z => hE v s' z)
end
end Mine
end
section
open PySem PySem.W PySem.Calls PyProof.Rows PySem.Challenge

namespace Mine
theorem Rel.toks {C : Cx} {g : Stab} {σ : Sto} {frs : List Frm} {s : Shared} (R : Rel C g σ frs s) (t : Nat) : Rel C g σ frs { s with toks := t } :=
  ⟨R.base, R.keep, R.objs, R.frs, R.gens, R.os⟩
theorem PostV.mk {C : Cx} {g : Stab} {σ : Sto} {frs : List Frm} {s : Shared} {Q : MV → Sto → Prop} {mv : MV} {v : Value} (R : Rel C g σ frs s) (h : VR g mv v) (q : Q mv σ) : PostV C g frs Q v s :=
  ⟨mv, g, σ, .refl g, R, h, q⟩
theorem VR.int {g : Stab} (i : Int) (t : Tok) : VR g (.int i) (.int i t) := by simp only [VR]; exact ⟨t, rfl⟩
theorem VR.str {g : Stab} (x : Str) (t : Tok) : VR g (.str x) (.str x t) := by simp only [VR]; exact ⟨t, rfl⟩
theorem VR.bool {g : Stab} (b : Bool) : VR g (.bool b) (.bool b) := by simp only [VR]
theorem VR.none {g : Stab} : VR g .none .none := by simp only [VR]
theorem VR.ref {g : Stab} (a : Addr) : VR g (.ref a) (.ref a) := by simp only [VR]
theorem VR.intI {g : Stab} {i : Int} {v : Value} (h : VR g (.int i) v) : ∃ t, v = .int i t := by simpa only [VR] using h
theorem VR.strI {g : Stab} {i : Str} {v : Value} (h : VR g (.str i) v) : ∃ t, v = .str i t := by simpa only [VR] using h
theorem VR.boolI {g : Stab} {i : Bool} {v : Value} (h : VR g (.bool i) v) : v = .bool i := by simpa only [VR] using h
theorem VR.noneI {g : Stab} {v : Value} (h : VR g .none v) : v = .none := by simpa only [VR] using h
theorem VR.refI {g : Stab} {a : Addr} {v : Value} (h : VR g (.ref a) v) : v = .ref a := by simpa only [VR] using h
theorem VR.instI {g : Stab} {c a d : Addr} {v : Value} (h : VR g (.inst c a d) v) : v = .ref a ∧ g a = some (instObj c d) := by simpa only [VR] using h
theorem VR.tupI {g : Stab} {xs : List MV} {v : Value} (h : VR g (.tup xs) v) : ∃ a vs o n, v = .ref a ∧ g a = some o ∧ o.cls = .type "tuple" ∧ o.data = .seq (List.toArray vs) n ∧ VRs g xs vs := by simpa only [VR] using h

/-- an operation on two values -/
noncomputable def BV (C : Cx) (k : Nat) (t : Value → Value → Sem Value) (a b : MV) (σ : Sto) (Q : MV → Sto → Prop) (X : ExcP) : Prop :=
  ∀ A env L m frs g s va vb, Room A k ((env, L, m) :: frs) → Rel C g σ ((env, L, m) :: frs) s → VR g a va → VR g b vb → wpAny C.M A (t va vb) (PostV C g ((env, L, m) :: frs) Q) (PostX C g ((env, L, m) :: frs) X) s
noncomputable def UV (C : Cx) (k : Nat) (t : Value → Sem Value) (a : MV) (σ : Sto) (Q : MV → Sto → Prop) (X : ExcP) : Prop :=
  ∀ A env L m frs g s va, Room A k ((env, L, m) :: frs) → Rel C g σ ((env, L, m) :: frs) s → VR g a va → wpAny C.M A (t va) (PostV C g ((env, L, m) :: frs) Q) (PostX C g ((env, L, m) :: frs) X) s
noncomputable def PostB (C : Cx) (g : Stab) (frs : List Frm) (Q : Bool → Sto → Prop) : Bool → Shared → Prop := fun b s' => ∃ g' σ', Ext g g' ∧ Rel C g' σ' frs s' ∧ Q b σ'
theorem PostB.ext {C : Cx} {g g' : Stab} {frs : List Frm} {Q : Bool → Sto → Prop} {v : Bool} {s : Shared} (x : Ext g g') (h : PostB C g' frs Q v s) : PostB C g frs Q v s :=
  let ⟨g'', σ', a, b⟩ := h; ⟨g'', σ', x.trans a, b⟩
theorem PostB.mk {C : Cx} {g : Stab} {σ : Sto} {frs : List Frm} {s : Shared} {Q : Bool → Sto → Prop} {b : Bool} (R : Rel C g σ frs s) (q : Q b σ) : PostB C g frs Q b s := ⟨g, σ, .refl g, R, q⟩
/-- a value's truth -/
noncomputable def UB (C : Cx) (k : Nat) (a : MV) (σ : Sto) (Q : Bool → Sto → Prop) (X : ExcP) : Prop :=
  ∀ A env L m frs g s va, Room A k ((env, L, m) :: frs) → Rel C g σ ((env, L, m) :: frs) s → VR g a va → wpAny C.M A (truthy va) (PostB C g ((env, L, m) :: frs) Q) (PostX C g ((env, L, m) :: frs) X) s

section
variable {C : Cx} {k : Nat} {f : FI} {ρ : Env1} {σ : Sto} {X : ExcP} {XS : ExcS} {Q : MV → Sto → Prop} {QB : Bool → Sto → Prop}
/-! ### names and constants -/
theorem EV_local {x : Str} {pos : Pos} {mv : MV} (hm : (x, mv) ∈ ρ) (q : Q mv σ) (hk : f.fd.scope.kind = .function) (hx : f.fd.scope.names.lookup x = some .local) (hd : (x == ("__debug__" : Str)) = false) : EV C k f (.Name x pos) ρ σ Q X :=
  fun A L m frs g s r R l => by
    obtain ⟨v, hv, hr⟩ := l _ hm
    exact wpAny_Name (wpAny_loadName_local (env := f.env L) hk hx R.F.ns hv (.mk R hr q)) hd
theorem EV_int {i : Int} {kk : Nat} {pos : Pos} (q : Q (.int i) σ) : EV C k f (.Constant (.int i) kk pos) ρ σ Q X :=
  fun _ _ _ _ _ _ _ R _ => wpAny_Constant_int (.mk (R.toks _) (.int ..) q)
theorem EV_str {x : Str} {kk : Nat} {pos : Pos} (q : Q (.str x) σ) : EV C k f (.Constant (.str x) kk pos) ρ σ Q X :=
  fun _ _ _ _ _ _ _ R _ => wpAny_Constant_str (.mk (R.toks _) (.str ..) q)
theorem EV_bool {b : Bool} {kk : Nat} {pos : Pos} (q : Q (.bool b) σ) : EV C k f (.Constant (.bool b) kk pos) ρ σ Q X :=
  fun _ _ _ _ _ _ _ R _ => wpAny_Constant_bool (.mk R (.bool ..) q)
theorem EV_none {kk : Nat} {pos : Pos} (q : Q .none σ) : EV C k f (.Constant .none kk pos) ρ σ Q X :=
  fun _ _ _ _ _ _ _ R _ => wpAny_Constant_none (.mk R .none q)
/-- a value of the top: an int, a text, or a tuple of such -/
noncomputable def TopV (K : Frag) : MV → Value → Prop
  | mv, v => ∀ g : Stab, (∀ a o, K.lookup a = some o → g a = some o) → VR g mv v
theorem EV_global {x : Str} {pos : Pos} {mv : MV} {v : Value} (hn : nsIn C.KK mainGlobals x = some (some v)) (hv : TopV C.KK mv v) (q : Q mv σ) (hk : f.fd.scope.kind = .function) (hgl : f.fd.globals = mainGlobals) (hx : f.fd.scope.names.lookup x = some .globalImplicit) (hd : (x == ("__debug__" : Str)) = false) :
    EV C k f (.Name x pos) ρ σ Q X :=
  fun A L m frs g s r R l => by
    refine Name_function_global (env := f.env L) hk hx (loadGlobal_global (env := f.env L) (mg := C.mg) ?_ (mg_of C.K C.T.g hn) ?_) hd
    · show s.heap.Ns f.fd.globals C.mg
      rw [hgl]
      exact C.T.g.keeps R.keepsB
    · exact .mk R (hv g fun a o e => R.base _ _ (C.K _ _ e)) q
/-! ### operations -/
theorem EV_BinOp {l r : Expr} {op : Operator} {pos : Pos} (h : EV C k f l ρ σ (fun a σ₁ => EV C k f r ρ σ₁ (fun b σ₂ => BV C k (binaryOp op) a b σ₂ Q X) X) X) : EV C k f (.BinOp l op r pos) ρ σ Q X :=
  fun A L m frs g s rm R lc => by
    refine wpAny_BinOp (h.then rm R lc (fun _ _ z => z) fun ma g₁ σ₁ va s₁ e₁ R₁ l₁ r₁ q₁ => ?_)
    refine q₁.then rm R₁ l₁ (fun _ _ z => z.ext e₁) fun mb g₂ σ₂ vb s₂ e₂ R₂ l₂ r₂ q₂ => ?_
    exact wpAny_mono (q₂ _ _ _ _ _ _ _ _ _ rm R₂ (r₁.mono e₂) r₂) (fun _ _ z => z.ext (e₁.trans e₂)) fun _ _ z => z.ext (e₁.trans e₂)
theorem EV_UnaryOp {x : Expr} {op : UnaryOp} {pos : Pos} (h : EV C k f x ρ σ (fun a σ₁ => UV C k (unaryOp op) a σ₁ Q X) X) : EV C k f (.UnaryOp op x pos) ρ σ Q X :=
  fun A L m frs g s rm R lc => by
    refine wpAny_UnaryOp (h.then rm R lc (fun _ _ z => z) fun ma g₁ σ₁ va s₁ e₁ R₁ l₁ r₁ q₁ => ?_)
    exact wpAny_mono (q₁ _ _ _ _ _ _ _ _ rm R₁ r₁) (fun _ _ z => z.ext e₁) fun _ _ z => z.ext e₁
theorem EV_Compare {l r : Expr} {op : CmpOp} {pos : Pos} (hm : behindInMarks op r = false) (h : EV C k f l ρ σ (fun a σ₁ => EV C k f r ρ σ₁ (fun b σ₂ => BV C k (compareOp op) a b σ₂ Q X) X) X) : EV C k f (.Compare l [op] [r] pos) ρ σ Q X :=
  fun A L m frs g s rm R lc => by
    refine wpAny_Compare1 (hm := hm) (h.then rm R lc (fun _ _ z => z) fun ma g₁ σ₁ va s₁ e₁ R₁ l₁ r₁ q₁ => ?_)
    refine q₁.then rm R₁ l₁ (fun _ _ z => z.ext e₁) fun mb g₂ σ₂ vb s₂ e₂ R₂ l₂ r₂ q₂ => ?_
    exact wpAny_mono (q₂ _ _ _ _ _ _ _ _ _ rm R₂ (r₁.mono e₂) r₂) (fun _ _ z => z.ext (e₁.trans e₂)) fun _ _ z => z.ext (e₁.trans e₂)
/-! ### tests -/
theorem TV_val {e : Expr} (h : EV C k f e ρ σ (fun a σ₁ => UB C k a σ₁ QB X) X) (he : ∀ env whole, isTrue e env whole = (do let v ← whole; standAt e.pos; holding [v] (truthy v))) : TV C k f e ρ σ QB X :=
  fun A L m frs g s rm R lc => by
    refine wpAny_isTrue_value (he := he _ _) (h.then rm R lc (fun _ _ z => z) fun ma g₁ σ₁ va s₁ e₁ R₁ l₁ r₁ q₁ => ?_)
    exact wpAny_mono (q₁ _ _ _ _ _ _ _ _ rm R₁ r₁) (fun _ _ z => z.ext e₁) fun _ _ z => z.ext e₁
theorem TV_cmp {l r : Expr} {op : CmpOp} {pos : Pos} (hm : behindInMarks op r = false) (h : EV C k f l ρ σ (fun a σ₁ => EV C k f r ρ σ₁ (fun b σ₂ => BV C k (compareOp op) a b σ₂ (fun c σ₃ => ∃ b, c = .bool b ∧ QB b σ₃) X) X) X) : TV C k f (.Compare l [op] [r] pos) ρ σ QB X :=
  fun A L m frs g s rm R lc => by
    refine wpAny_isTrue_Compare1 (hm := hm) (h.then rm R lc (fun _ _ z => z) fun ma g₁ σ₁ va s₁ e₁ R₁ l₁ r₁ q₁ => ?_)
    refine q₁.then rm R₁ l₁ (fun _ _ z => z.ext e₁) fun mb g₂ σ₂ vb s₂ e₂ R₂ l₂ r₂ q₂ => ?_
    refine wpAny_mono (q₂ _ _ _ _ _ _ _ _ _ rm R₂ (r₁.mono e₂) r₂) (fun v s' z => ?_) fun _ _ z => z.ext (e₁.trans e₂)
    obtain ⟨mv, g', σ', x, R', vr, b, rfl, q⟩ := z
    rw [vr.boolI]
    exact wpAny_truthy_bool ⟨g', σ', (e₁.trans e₂).trans x, R', q⟩
theorem TV_not {x : Expr} {pos : Pos} (h : TV C k f x ρ σ (fun b σ' => QB (!b) σ') X) : TV C k f (.UnaryOp .Not x pos) ρ σ QB X :=
  fun A L m frs g s rm R lc => wpAny_isTrue_Not (h A L m frs g s rm R lc)
/-- allTrue -/
noncomputable def AT (C : Cx) (k : Nat) (f : FI) (op : BoolOp) (es : List Expr) (ρ : Env1) (σ : Sto) (QB : Bool → Sto → Prop) (X : ExcP) : Prop :=
  ∀ A L m frs g s, Room A k ((f.env L, L, m) :: frs) → Rel C g σ ((f.env L, L, m) :: frs) s → Loc g ρ m →
    wpAny C.M A (allTrue op es (f.env L)) (PostB C g ((f.env L, L, m) :: frs) QB) (PostX C g ((f.env L, L, m) :: frs) X) s
theorem TV_bool {op : BoolOp} {es : List Expr} {pos : Pos} (h : AT C k f op es ρ σ QB X) : TV C k f (.BoolOp op es pos) ρ σ QB X :=
  fun A L m frs g s rm R lc => wpAny_isTrue_BoolOp (h A L m frs g s rm R lc)
theorem AT_and_nil (q : QB true σ) : AT C k f .And [] ρ σ QB X := fun _ _ _ _ _ _ _ R _ => wpAny_allTrue_And_nil (.mk R q)
theorem AT_or_nil (q : QB false σ) : AT C k f .Or [] ρ σ QB X := fun _ _ _ _ _ _ _ R _ => wpAny_allTrue_Or_nil (.mk R q)
theorem AT_and {x : Expr} {es : List Expr} (h : TV C k f x ρ σ (fun b σ' => if b then AT C k f .And es ρ σ' QB X else QB false σ') X) : AT C k f .And (x :: es) ρ σ QB X :=
  fun A L m frs g s rm R lc => by
    refine wpAny_allTrue_And_cons (wpAny_mono (h A L m frs g s rm R lc) (fun b s' z => ?_) fun _ _ z => z)
    obtain ⟨g', σ', x, R', q⟩ := z
    cases b with
    | false => exact ⟨g', σ', x, R', q⟩
    | true => exact wpAny_mono (q A L m frs g' s' rm R' (lc.mono x)) (fun _ _ z => PostB.ext x z) (fun _ _ z => PostX.ext x z)
theorem AT_or {x : Expr} {es : List Expr} (h : TV C k f x ρ σ (fun b σ' => if b then QB true σ' else AT C k f .Or es ρ σ' QB X) X) : AT C k f .Or (x :: es) ρ σ QB X :=
  fun A L m frs g s rm R lc => by
    refine wpAny_allTrue_Or_cons (wpAny_mono (h A L m frs g s rm R lc) (fun b s' z => ?_) fun _ _ z => z)
    obtain ⟨g', σ', x, R', q⟩ := z
    cases b with
    | true => exact ⟨g', σ', x, R', q⟩
    | false => exact wpAny_mono (q A L m frs g' s' rm R' (lc.mono x)) (fun _ _ z => PostB.ext x z) (fun _ _ z => PostX.ext x z)
theorem EV_IfExp {t b o : Expr} {pos : Pos} (h : TV C k f t ρ σ (fun c σ' => if c then EV C k f b ρ σ' Q X else EV C k f o ρ σ' Q X) X) : EV C k f (.IfExp t b o pos) ρ σ Q X :=
  fun A L m frs g s rm R lc => by
    refine wpAny_IfExp (wpAny_mono (h A L m frs g s rm R lc) (fun c s' z => ?_) fun _ _ z => z)
    obtain ⟨g', σ', x, R', q⟩ := z
    cases c <;> exact wpAny_mono (q A L m frs g' s' rm R' (lc.mono x)) (fun _ _ z => PostV.ext x z) (fun _ _ z => PostX.ext x z)
/-- boolOp for its value -/
noncomputable def BL (C : Cx) (k : Nat) (f : FI) (op : BoolOp) (es : List Expr) (ρ : Env1) (σ : Sto) (Q : MV → Sto → Prop) (X : ExcP) : Prop :=
  ∀ pos, EVt C k f (fun env => boolOp pos op (evalEach es env)) ρ σ Q X
theorem EV_BoolOp {op : BoolOp} {es : List Expr} {pos : Pos} (h : BL C k f op es ρ σ Q X) : EV C k f (.BoolOp op es pos) ρ σ Q X := h pos
theorem BL_one {op : BoolOp} {x : Expr} (h : EV C k f x ρ σ Q X) : BL C k f op [x] ρ σ Q X := fun _ => h
theorem BL_cons {op : BoolOp} {x y : Expr} {es : List Expr} (h : EV C k f x ρ σ (fun a σ₁ => UB C k a σ₁ (fun b σ₂ => if (match op with | .And => b | .Or => !b) then BL C k f op (y :: es) ρ σ₂ Q X else Q a σ₂) X) X) : BL C k f op (x :: y :: es) ρ σ Q X :=
  fun pos A L m frs g s rm R lc => by
    show wpAny C.M A (eval x (f.env L) >>= _) _ _ s
    refine wpAny_bind (h.then rm R lc (fun _ _ z => z) fun ma g₁ σ₁ va s₁ e₁ R₁ l₁ r₁ q₁ => ?_)
    refine wpAny_bind (wpAny_standAt (wpAny_bind (wpAny_holding ?_)))
    refine wpAny_mono (q₁ _ _ _ _ _ _ _ _ rm R₁ r₁) (fun b s' z => ?_) fun _ _ z => z.ext e₁
    obtain ⟨g', σ', e', R', q⟩ := z
    cases op <;> cases b <;> first
      | exact wpAny_pure ⟨_, g', σ', e₁.trans e', R', r₁.mono e', q⟩
      | exact wpAny_mono (q pos A L m frs g' s' rm R' (l₁.mono e')) (fun _ _ z => PostV.ext (e₁.trans e') z) (fun _ _ z => PostX.ext (e₁.trans e') z)
end
end Mine
end
section
open PySem PySem.W PySem.Calls PyProof.Rows PySem.Challenge

namespace Mine
section
variable {C : Cx} {k : Nat} {f : FI} {ρ : Env1} {σ : Sto} {X : ExcP} {XS : ExcS} {Q : MV → Sto → Prop} {QB : Bool → Sto → Prop} {QS : MF → Env1 → Sto → Prop}
/-! ### ints, texts -/
theorem BV_add {x y : Int} (q : Q (.int (x + y)) σ) : BV C k (binaryOp .Add) (.int x) (.int y) σ Q X := fun A env L m frs g s va vb rm R a b => by
  obtain ⟨t, rfl⟩ := a.intI; obtain ⟨u, rfl⟩ := b.intI
  exact wpAny_add_int (.mk (R.toks _) (.int ..) q)
theorem BV_sub {x y : Int} (q : Q (.int (x - y)) σ) : BV C k (binaryOp .Sub) (.int x) (.int y) σ Q X := fun A env L m frs g s va vb rm R a b => by
  obtain ⟨t, rfl⟩ := a.intI; obtain ⟨u, rfl⟩ := b.intI
  exact sub_int' (.mk (R.toks _) (.int ..) q)
theorem BV_mul {x y : Int} (hm : Builtin.Int.intBits x ≤ 64) (q : Q (.int (x * y)) σ) : BV C k (binaryOp .Mult) (.int x) (.int y) σ Q X := fun A env L m frs g s va vb rm R a b => by
  obtain ⟨t, rfl⟩ := a.intI; obtain ⟨u, rfl⟩ := b.intI
  exact PyProof.Rows.mul_int (.mk (R.toks _) (.int ..) q) (IntMulOk.of_left hm)
theorem BV_mod {x y : Int} (hy : y ≠ 0) (q : Q (.int (x.fmod y)) σ) : BV C k (binaryOp .Mod) (.int x) (.int y) σ Q X := fun A env L m frs g s va vb rm R a b => by
  obtain ⟨t, rfl⟩ := a.intI; obtain ⟨u, rfl⟩ := b.intI
  exact mod_int' hy (.mk (R.toks _) (.int ..) q)
theorem BV_fdiv {x y : Int} (hy : y ≠ 0) (hp : Builtin.divisionGoesByPylong x y = false) (q : Q (.int (x.fdiv y)) σ) : BV C k (binaryOp .FloorDiv) (.int x) (.int y) σ Q X := fun A env L m frs g s va vb rm R a b => by
  obtain ⟨t, rfl⟩ := a.intI; obtain ⟨u, rfl⟩ := b.intI
  exact floordiv_int hy (.mk (R.toks _) (.int ..) q) (.inl hp)
theorem UV_neg {x : Int} (q : Q (.int (-x)) σ) : UV C k (unaryOp .USub) (.int x) σ Q X := fun A env L m frs g s va rm R a => by
  obtain ⟨t, rfl⟩ := a.intI
  exact PyProof.Rows.neg_int (.mk (R.toks _) (.int ..) q)
theorem BV_eq_int {x y : Int} (q : Q (.bool (x == y)) σ) : BV C k (compareOp .Eq) (.int x) (.int y) σ Q X := fun A env L m frs g s va vb rm R a b => by
  obtain ⟨t, rfl⟩ := a.intI; obtain ⟨u, rfl⟩ := b.intI
  exact PyProof.Rows.eq_int (.mk R (.bool ..) q)
theorem BV_ne_int {x y : Int} (q : Q (.bool (x != y)) σ) : BV C k (compareOp .NotEq) (.int x) (.int y) σ Q X := fun A env L m frs g s va vb rm R a b => by
  obtain ⟨t, rfl⟩ := a.intI; obtain ⟨u, rfl⟩ := b.intI
  exact PyProof.Rows.ne_int (.mk R (.bool ..) q)
theorem BV_lt_int {x y : Int} (q : Q (.bool (decide (x < y))) σ) : BV C k (compareOp .Lt) (.int x) (.int y) σ Q X := fun A env L m frs g s va vb rm R a b => by
  obtain ⟨t, rfl⟩ := a.intI; obtain ⟨u, rfl⟩ := b.intI
  exact PyProof.Rows.lt_int (.mk R (.bool ..) q)
theorem BV_gt_int {x y : Int} (q : Q (.bool (decide (y < x))) σ) : BV C k (compareOp .Gt) (.int x) (.int y) σ Q X := fun A env L m frs g s va vb rm R a b => by
  obtain ⟨t, rfl⟩ := a.intI; obtain ⟨u, rfl⟩ := b.intI
  exact PyProof.Rows.gt_int (.mk R (.bool ..) q)
theorem BV_le_int {x y : Int} (q : Q (.bool (decide (x ≤ y))) σ) : BV C k (compareOp .LtE) (.int x) (.int y) σ Q X := fun A env L m frs g s va vb rm R a b => by
  obtain ⟨t, rfl⟩ := a.intI; obtain ⟨u, rfl⟩ := b.intI
  exact PyProof.Rows.le_int (.mk R (.bool ..) q)
theorem BV_ge_int {x y : Int} (q : Q (.bool (decide (y ≤ x))) σ) : BV C k (compareOp .GtE) (.int x) (.int y) σ Q X := fun A env L m frs g s va vb rm R a b => by
  obtain ⟨t, rfl⟩ := a.intI; obtain ⟨u, rfl⟩ := b.intI
  exact PyProof.Rows.ge_int (.mk R (.bool ..) q)
theorem BV_eq_str {x y : Str} (q : Q (.bool (x == y)) σ) : BV C k (compareOp .Eq) (.str x) (.str y) σ Q X := fun A env L m frs g s va vb rm R a b => by
  obtain ⟨t, rfl⟩ := a.strI; obtain ⟨u, rfl⟩ := b.strI
  exact PyProof.Rows.eq_str (.mk R (.bool ..) q)
theorem BV_ne_str {x y : Str} (q : Q (.bool (x != y)) σ) : BV C k (compareOp .NotEq) (.str x) (.str y) σ Q X := fun A env L m frs g s va vb rm R a b => by
  obtain ⟨t, rfl⟩ := a.strI; obtain ⟨u, rfl⟩ := b.strI
  exact PyProof.Rows.ne_str (.mk R (.bool ..) q)
noncomputable def MV.isNone : MV → Bool
  | .none => true
  | _ => false
theorem VR.isNone {g : Stab} {mv : MV} {v : Value} (h : VR g mv v) : (v == Value.none) = mv.isNone := by
  cases mv with
  | none => rw [h.noneI]; rfl
  | bool b => rw [h.boolI]; rfl
  | int i => obtain ⟨t, rfl⟩ := h.intI; rfl
  | str i => obtain ⟨t, rfl⟩ := h.strI; rfl
  | tup xs => obtain ⟨a, vs, o, n, rfl, _⟩ := h.tupI; rfl
  | ref a => rw [h.refI]; rfl
  | inst c a d => rw [h.instI.1]; rfl
theorem BV_is_none {a : MV} (q : Q (.bool a.isNone) σ) : BV C k (compareOp .Is) a .none σ Q X := fun A env L m frs g s va vb rm R ha hb => by
  rw [hb.noneI]
  exact is_none (.mk R (.bool ..) (by rw [ha.isNone]; exact q))
theorem UB_bool {b : Bool} (q : QB b σ) : UB C k (.bool b) σ QB X := fun A env L m frs g s va rm R ha => by
  rw [ha.boolI]; exact wpAny_truthy_bool (.mk R q)
/-! ### statements -/
theorem SV_nil (q : QS .next ρ σ) : SV C k f [] ρ σ QS XS := fun A L m frs g s rm R lc => wpAny_execs_nil ⟨.next, ρ, m, g, σ, .refl g, R, lc, rfl, q⟩
theorem SV_cons {st : Stmt} {rest : List Stmt} (h : SV1 C k f st ρ σ (fun mf ρ' σ' => match mf with | .next => SV C k f rest ρ' σ' QS XS | mf => QS mf ρ' σ') XS) : SV C k f (st :: rest) ρ σ QS XS :=
  fun A L m frs g s rm R lc => wpAny_execs_cons (wpAny_mono (h A L m frs g s rm R lc) (fun fl s' z => by
    obtain ⟨mf, ρ', m', g', σ', x, R', l', fr, q⟩ := z
    cases mf with
    | next =>
      obtain rfl : fl = .next := fr
      exact wpAny_mono (q A L m' frs g' s' ⟨rm.depth, rm.units, rm.frames, rm.handled⟩ R' l') (fun _ _ z => z.ext x) (fun _ _ z => z.ext x)
    | brk => obtain rfl : fl = .brk := fr; exact ⟨.brk, ρ', m', g', σ', x, R', l', rfl, q⟩
    | cont => obtain rfl : fl = .cont := fr; exact ⟨.cont, ρ', m', g', σ', x, R', l', rfl, q⟩
    | ret v => obtain ⟨v', rfl, hv⟩ := fr; exact ⟨.ret v, ρ', m', g', σ', x, R', l', ⟨v', rfl, hv⟩, q⟩) fun _ _ z => z)
/-- an expression's exceptions as a statement's -/
theorem PostX.toS {g : Stab} {env : Env} {L : Addr} {m : Str → Option Value} {frs : List Frm} {e : Value} {s : Shared} {XP : ExcP} (lc : Loc g ρ m) (hX : ∀ d σ', XP d σ' → XS d ρ σ') (z : PostX C g ((env, L, m) :: frs) XP e s) : PostXS C g env L frs XS e s := by
  obtain ⟨ea, d, g', σ', rfl, x, fl, q⟩ := z
  exact ⟨ea, d, ρ, m, g', σ', rfl, x, fl, lc.mono x, hX _ _ q⟩
theorem SV_Return {e : Expr} {pos : Pos} (h : EV C k f e ρ σ (fun v σ' => QS (.ret v) ρ σ') (fun d σ' => XS d ρ σ')) : SV1 C k f (.Return (some e) pos) ρ σ QS XS :=
  fun A L m frs g s rm R lc => wpAny_Return_some (h.then rm R lc (fun _ _ z => z.toS lc fun _ _ q => q) fun mv g' σ' v s' x R' l' vr q => ⟨.ret mv, ρ, m, g', σ', x, R', l', ⟨v, rfl, vr⟩, q⟩)
theorem SV_If {t : Expr} {b o : List Stmt} {pos : Pos} (h : TV C k f t ρ σ (fun c σ' => if c then SV C k f b ρ σ' QS XS else SV C k f o ρ σ' QS XS) (fun d σ' => XS d ρ σ')) : SV1 C k f (.If t b o pos) ρ σ QS XS :=
  fun A L m frs g s rm R lc => wpAny_If (wpAny_mono (h A L m frs g s rm R lc) (fun c s' z => by
    obtain ⟨g', σ', x, R', q⟩ := z
    cases c <;> exact wpAny_mono (q A L m frs g' s' rm R' (lc.mono x)) (fun _ _ z => z.ext x) (fun _ _ z => z.ext x)) fun _ _ z => z.toS lc fun _ _ q => q)
/-- a name bound anew -/
inductive Put (x : Str) (v : MV) : Env1 → Env1 → Prop where
  | nil : Put x v [] [(x, v)]
  | head {v₀ : MV} {r : Env1} : Put x v ((x, v₀) :: r) ((x, v) :: r)
  | tail {p : Str × MV} {r r' : Env1} : Put x v r r' → Put x v (p :: r) (p :: r')
noncomputable def onceKey (x : Str) (ρ : Env1) : Bool := (ρ.filter fun p => p.1 == x).length == 1
theorem Put.mem {x : Str} {v : MV} {ρ ρ' : Env1} (h : Put x v ρ ρ') : (x, v) ∈ ρ' := by
  induction h with
  | nil => exact .head _
  | head => exact .head _
  | tail _ ih => exact .tail _ ih
theorem Put.of {x : Str} {v : MV} {ρ ρ' : Env1} (h : Put x v ρ ρ') : ∀ p ∈ ρ', p.1 ≠ x → p ∈ ρ := by
  induction h with
  | nil =>
    intro p hp hne
    rw [List.mem_singleton] at hp
    rw [hp] at hne; exact absurd rfl hne
  | head =>
    intro p hp hne
    rcases List.mem_cons.mp hp with rfl | hp
    · exact absurd rfl hne
    · exact .tail _ hp
  | tail _ ih =>
    intro p hp hne
    rcases List.mem_cons.mp hp with rfl | hp
    · exact .head _
    · exact .tail _ (ih p hp hne)
theorem onceKey_eq {x : Str} {ρ : Env1} (h : onceKey x ρ = true) {p q : Str × MV} (hp : p ∈ ρ) (hq : q ∈ ρ) (ep : p.1 = x) (eq : q.1 = x) : p = q := by
  unfold onceKey at h
  have hl := beq_iff_eq.mp h
  have mp : p ∈ ρ.filter fun p => p.1 == x := List.mem_filter.mpr ⟨hp, by simp [ep]⟩
  have mq : q ∈ ρ.filter fun p => p.1 == x := List.mem_filter.mpr ⟨hq, by simp [eq]⟩
  obtain ⟨a, ha⟩ := List.length_eq_one_iff.mp hl
  rw [ha] at mp mq
  rw [List.mem_singleton.mp mp, List.mem_singleton.mp mq]
theorem Loc.put {g : Stab} {m : Str → Option Value} {x : Str} {mv : MV} {v : Value} {ρ ρ' : Env1} (lc : Loc g ρ m) (h : Put x mv ρ ρ') (ho : onceKey x ρ' = true) (vr : VR g mv v) : Loc g ρ' (fun y => if y = x then some v else m y) := fun p hp => by
  by_cases e : p.1 = x
  · have := onceKey_eq ho hp h.mem e rfl
    subst this
    exact ⟨v, by simp, vr⟩
  · obtain ⟨v', a, b⟩ := lc p (h.of p hp e)
    exact ⟨v', by simp [e, a], b⟩
theorem Rel.frame {g : Stab} {env : Env} {L : Addr} {m m' : Str → Option Value} {frs : List Frm} {s : Shared} {h' : Heap} (t : Nat) (R : Rel C g σ ((env, L, m) :: frs) s) (hn : h'.Ns L m') (hs : Heap.SameBut L s.heap h') : Rel C g σ ((env, L, m') :: frs) { s with heap := h', toks := t } := by
  obtain ⟨⟨f1, f2, f3, f4, f5, f6, f7⟩, fr⟩ := R.frs
  refine ⟨R.base, fun a o e => (hs.2 a ?_).trans (R.keep a o e), fun a mo e => ⟨(R.objs a mo e).1, (R.objs a mo e).2.at fun o e' => (hs.2 a ?_).trans e'⟩, ⟨⟨f1, f2, hn, f4, f5, f6, f7⟩, fr.to (fun p hp mm z => z.sameBut hs (f7 p hp)) (fun _ _ z => z) fun _ _ z => z⟩, R.gens, R.os⟩
  · rintro rfl; rw [f5] at e; cases e
  · rintro rfl; rw [f6] at e; cases e
theorem SV_Assign {x : Str} {p' pos : Pos} {e : Expr} (h : EV C k f e ρ σ (fun v σ' => ∃ ρ', Put x v ρ ρ' ∧ onceKey x ρ' = true ∧ QS .next ρ' σ') (fun d σ' => XS d ρ σ'))
    (hs : ∀ env, swapsWith e (some (.Name x p')) pos.line env = pure false) (hk : f.fd.scope.kind = .function) (hx : f.fd.scope.names.lookup x = some .local) : SV1 C k f (.Assign [.Name x p'] e pos) ρ σ QS XS :=
  fun A L m frs g s rm R lc => wpAny_Assign_Name (hs := hs _) (h.then rm R lc (fun _ _ z => z.toS lc fun _ _ q => q) fun mv g' σ' v s' x' R' l' vr q => by
    obtain ⟨ρ', q1, q2, q3⟩ := q
    refine wpAny_storeName_local (env := f.env L) hx R'.F.ns (fun h' hn hsb => ?_) ?_
    · exact ⟨.next, ρ', _, g', σ', x', R'.frame _ hn hsb, l'.put q1 q2 vr, rfl, q3⟩
    · show (f.fd.scope.kind == .class || (f.fd.scope.kind == .module && _)) = false
      rw [hk]; rfl)
end
end Mine
end
section
open PySem PySem.W PySem.Calls PyProof.Rows PySem.Challenge

namespace Mine
section
variable {C : Cx} {k : Nat} {f : FI} {ρ : Env1} {σ : Sto} {X : ExcP} {XS : ExcS} {Q : MV → Sto → Prop} {QB : Bool → Sto → Prop} {QS : MF → Env1 → Sto → Prop} {g : Stab}
theorem NsR.inv_nil {P : Params} {fs : List (Str × MV)} (h : NsR P g [] fs) : fs = [] := h
theorem NsR.length {P : Params} : ∀ {es : List DictEntry} {fs : List (Str × MV)}, NsR P g es fs → es.length = fs.length
  | [], _, h => by rw [h.inv_nil]; rfl
  | _ :: _, _, ⟨_, _, fs', _, _, h1, _, _, h4⟩ => by rw [h1, List.length_cons, List.length_cons, h4.length]
theorem isStr_self (x : Str) (t : Tok) : (Value.str x t).isStr x = true := by simp [Value.isStr]
theorem isStr_other {x y : Str} (t : Tok) (h : y ≠ x) : (Value.str y t).isStr x = false := by simp [Value.isStr, h]
theorem onceKey_cons_self {x : Str} {v : MV} {fs : Env1} (h : onceKey x ((x, v) :: fs) = true) : ∀ p ∈ fs, p.1 ≠ x := fun p hp e => by
  unfold onceKey at h
  rw [List.filter_cons_of_pos (by simp)] at h
  have hl := beq_iff_eq.mp h
  rw [List.length_cons] at hl
  have : p ∈ fs.filter fun p => p.1 == x := List.mem_filter.mpr ⟨hp, by simp [e]⟩
  have e0 : (fs.filter fun p => p.1 == x).length = 0 := by omega
  rw [List.eq_nil_of_length_eq_zero e0] at this
  cases this
theorem onceKey_cons_other {x : Str} {p : Str × MV} {fs : Env1} (h : onceKey x (p :: fs) = true) (hm : ∃ v, (x, v) ∈ fs) : p.1 ≠ x ∧ onceKey x fs = true := by
  obtain ⟨v, hv⟩ := hm
  by_cases e : p.1 = x
  · obtain ⟨y, w⟩ := p
    obtain rfl : y = x := e
    exact absurd rfl (onceKey_cons_self h _ hv)
  · refine ⟨e, ?_⟩
    unfold onceKey at h ⊢
    rwa [List.filter_cons_of_neg (by simpa using e)] at h
theorem NsR.getL {P : Params} {x : Str} {mv : MV} : ∀ {es : List DictEntry} {fs : Env1}, NsR P g es fs → (x, mv) ∈ fs → onceKey x fs = true → ∃ v, PySem.W.getL x es = some (some v) ∧ VR g mv v
  | [], _, h, hm, _ => by rw [h.inv_nil] at hm; cases hm
  | _ :: es, _, ⟨y, w, fs', t, v, h1, h2, h3, h4⟩, hm, ho => by
    subst h1 h2
    unfold PySem.W.getL
    rw [List.find?_cons]
    by_cases e : y = x
    · subst e
      rw [isStr_self]
      rcases List.mem_cons.mp hm with q | q
      · cases q; exact ⟨v, rfl, h3⟩
      · exact absurd rfl (onceKey_cons_self ho _ q)
    · rw [isStr_other t e]
      rcases List.mem_cons.mp hm with q | q
      · cases q; exact absurd rfl e
      · obtain ⟨v', a, b⟩ := NsR.getL h4 q (onceKey_cons_other ho ⟨mv, q⟩).2
        refine ⟨v', ?_, b⟩
        unfold PySem.W.getL at a
        dsimp only at a ⊢
        split at a
        · rename_i e' he
          rw [he]; exact a
        · split at a <;> cases a
theorem NsR.noKey {P : Params} {x : Str} : ∀ {es : List DictEntry} {fs : Env1}, NsR P g es fs → (fs.all fun p => !(p.1 == x)) = true → (es.find? (·.key.isStr x)) = none ∧ es.any (·.refKey) = false
  | [], _, _, _ => ⟨rfl, rfl⟩
  | _ :: es, _, ⟨y, w, fs', t, v, h1, h2, h3, h4⟩, ho => by
    subst h1 h2
    rw [List.all_cons, Bool.and_eq_true] at ho
    obtain ⟨a, b⟩ := NsR.noKey h4 ho.2
    refine ⟨?_, ?_⟩
    · rw [List.find?_cons, isStr_other t (by simpa using ho.1)]; exact a
    · rw [List.any_cons, b]; rfl
theorem NsR.getL_none {P : Params} {x : Str} {es : List DictEntry} {fs : Env1} (h : NsR P g es fs) (ho : (fs.all fun p => !(p.1 == x)) = true) : PySem.W.getL x es = some none := by
  obtain ⟨a, b⟩ := h.noKey ho
  unfold PySem.W.getL
  rw [a]; dsimp only; rw [b]; rfl
theorem NsR.find {P : Params} {x : Str} : ∀ {es : List DictEntry} {fs : Env1}, NsR P g es fs → (PySem.W.getL x es).isSome = true
  | [], _, _ => rfl
  | _ :: es, _, ⟨y, w, fs', t, v, h1, h2, h3, h4⟩ => by
    subst h2
    have ih := NsR.find (x := x) h4
    unfold PySem.W.getL at ih ⊢
    rw [List.find?_cons]
    by_cases e : y = x
    · subst e; rw [isStr_self]; rfl
    · rw [isStr_other t e]
      dsimp only
      split
      · rfl
      · rename_i hn
        rw [hn] at ih
        dsimp only at ih
        rw [List.any_cons]
        split at ih
        · cases ih
        · rename_i q; rw [if_neg (by rw [Bool.or_eq_true]; rintro (z | z); cases z; exact q z)]; rfl
theorem NsR.put {P : Params} {x : Str} {mv : MV} {v : Value} {t : Tok} : ∀ {es : List DictEntry} {fs fs' : Env1}, NsR P g es fs → Put x mv fs fs' → onceKey x fs' = true → VR g mv v → NsR P g (putL x (PyData.keyHash P x) (.str x t) v es) fs'
  | [], _, _, h, hp, _, vr => by
    rw [h.inv_nil] at hp
    cases hp
    exact ⟨x, mv, [], t, v, rfl, rfl, vr, rfl⟩
  | _ :: es, _, _, ⟨y, w, fs₁, t', v', h1, h2, h3, h4⟩, hp, ho, vr => by
    subst h1 h2
    unfold putL
    cases hp with
    | head =>
      rw [if_pos (isStr_self x t')]
      exact ⟨x, mv, _, t', v, rfl, rfl, vr, h4⟩
    | tail hp' =>
      obtain ⟨a, b⟩ := onceKey_cons_other ho ⟨mv, hp'.mem⟩
      rw [if_neg (by rw [isStr_other t' a]; decide)]
      exact ⟨y, w, _, t', v', rfl, rfl, h3, NsR.put h4 hp' b vr⟩
theorem VR.handed {mv : MV} {v : Value} (h : VR g mv v) : handedIn v = true := by
  cases mv with
  | none => rw [h.noneI]; rfl
  | bool b => rw [h.boolI]; rfl
  | int i => obtain ⟨t, rfl⟩ := h.intI; rfl
  | str i => obtain ⟨t, rfl⟩ := h.strI; rfl
  | tup xs => obtain ⟨a, vs, o, n, rfl, _⟩ := h.tupI; rfl
  | ref a => rw [h.refI]; rfl
  | inst c a d => rw [h.instI.1]; rfl
/-! ### attributes -/
noncomputable def getOk (K : Frag) (c : Addr) (x : Str) : Bool := plainGet K c x && hasDictIn K c && (match findIn K (.ref c) x with | some a => noGet K a | none => false)
theorem UV_get {c a d : Addr} {x : Str} {mv : MV} {fs : Env1} (hσ : σ d = some (.ns fs)) (hm : (x, mv) ∈ fs) (ho : onceKey x fs = true) (hok : getOk C.KK c x = true) (q : Q mv σ) : UV C k (fun v => getAttr v x true) (.inst c a d) σ Q X :=
  fun A env L m frs g s va rm R ha => by
    obtain ⟨rfl, hg⟩ := ha.instI
    obtain ⟨es, n, he, hr⟩ := (R.objs _ _ hσ).2
    obtain ⟨v, hv, vr⟩ := hr.getL hm ho
    unfold getOk at hok
    simp only [Bool.and_eq_true] at hok
    obtain ⟨⟨h1, h2⟩, h3⟩ := hok
    split at h3
    · rename_i at_ hat
      exact get_own (x := a) (ox := instObj c d) (C := c) (es := es) (n := n) R.F C.K ⟨R.keep _ _ hg, rfl, rfl, he⟩ h1 h2 hat h3 hv vr.handed (.mk (R.toks _) vr q)
    · cases h3
theorem EV_Attr {e : Expr} {x : Str} {pos : Pos} (h : EV C k f e ρ σ (fun a σ₁ => UV C k (fun v => getAttr v x true) a σ₁ Q X) X) (hb : ∀ env whole, attributeBase e x env whole = whole) : EV C k f (.Attribute e x pos) ρ σ Q X :=
  fun A L m frs g s rm R lc => by
    show wpAny C.M A (do
      let o ← attributeBase e x (f.env L) (eval e (f.env L))
      standAt pos.atName
      let r ← holding [o] (getAttr o x true)
      letTemporaryGo e o r
      pure r) _ _ s
    rw [hb]
    refine wpAny_bind (h.then rm R lc (fun _ _ z => z) fun ma g₁ σ₁ va s₁ e₁ R₁ l₁ r₁ q₁ => ?_)
    refine wpAny_bind (wpAny_standAt (wpAny_bind (wpAny_holding ?_)))
    refine wpAny_mono (q₁ _ _ _ _ _ _ _ _ rm R₁ r₁) (fun v s' z => ?_) fun _ _ z => z.ext e₁
    exact wpAny_bind (wpAny_letTemporaryGo (wpAny_pure (z.ext e₁)))
/-- a store into an attribute -/
noncomputable def SetA (C : Cx) (k : Nat) (o : MV) (x : Str) (b : MV) (σ : Sto) (P : Sto → Prop) (X : ExcP) : Prop :=
  ∀ A env L m frs g s vo vb, Room A k ((env, L, m) :: frs) → Rel C g σ ((env, L, m) :: frs) s → VR g o vo → VR g b vb →
    wpAny C.M A (setAttr vo x vb) (fun _ s' => ∃ g' σ', Ext g g' ∧ Rel C g' σ' ((env, L, m) :: frs) s' ∧ P σ') (PostX C g ((env, L, m) :: frs) X) s
noncomputable def setOk (K : Frag) (c : Addr) (x : Str) : Bool := findIn K (.ref c) "__setattr__" == some (some (.builtin "object.__setattr__")) && plainOver K c && (takerIn K c x == some none) && hasDictIn K c
theorem SetA_inst {c a d : Addr} {x : Str} {b : MV} {fs fs' : Env1} {P : Sto → Prop} (hσ : σ d = some (.ns fs)) (hp : Put x b fs fs') (ho : onceKey x fs' = true) (hok : setOk C.KK c x = true) (hl : fs'.length ≤ 1000) (q : P (σ.set d (.ns fs'))) : SetA C k (.inst c a d) x b σ P X :=
  fun A env L m frs g s vo vb rm R ha hb => by
    obtain ⟨rfl, hg⟩ := ha.instI
    obtain ⟨es, n, he, hr⟩ := (R.objs _ _ hσ).2
    unfold setOk at hok
    simp only [Bool.and_eq_true, beq_iff_eq] at hok
    obtain ⟨⟨⟨h1, h2⟩, h3⟩, h4⟩ := hok
    obtain ⟨pre, post, e, p1, p2⟩ := R.split hσ he
    have hr' := hr.put (t := s.toks + 1) hp ho hb
    have N := R.N L
    rw [e] at N
    refine PySem.W.set_dict (x := a) (ox := instObj c d) (C := c) (dx := d) (es := es) (n := n) R.F C.K N ⟨R.keep _ _ hg, rfl, rfl, he⟩ rfl h1 h2 h3 h4 hr.find rfl (upd_of p1 p2) (by rw [hr'.length]; exact hl) fun h' F' N' => ?_
    exact ⟨g, _, .refl g, R.ofUpd (mo' := .ns fs') hσ e F' N' (fun e' => ⟨_, _, e', hr'⟩) _, q⟩
theorem SV_setattr {o e : Expr} {x : Str} {p' pos : Pos} (h : EV C k f e ρ σ (fun b σ₁ => EV C k f o ρ σ₁ (fun a σ₂ => SetA C k a x b σ₂ (fun σ₃ => QS .next ρ σ₃) (fun d σ' => XS d ρ σ')) (fun d σ' => XS d ρ σ')) (fun d σ' => XS d ρ σ'))
    (hs : ∀ env, swapsWith e (some (.Attribute o x p')) pos.line env = pure false) : SV1 C k f (.Assign [.Attribute o x p'] e pos) ρ σ QS XS :=
  fun A L m frs g s rm R lc => by
    refine plainObj_wpAny_Assign_Attribute (hs := hs _) (h.then rm R lc (fun _ _ z => z.toS lc fun _ _ q => q) fun mb g₁ σ₁ vb s₁ e₁ R₁ l₁ r₁ q₁ => ?_)
    refine q₁.then rm R₁ l₁ (fun _ _ z => (z.toS l₁ fun _ _ q => q).ext e₁) fun ma g₂ σ₂ va s₂ e₂ R₂ l₂ r₂ q₂ => ?_
    refine wpAny_mono (q₂ _ _ _ _ _ _ _ _ _ rm R₂ r₂ (r₁.mono e₂)) (fun _ s' z => ?_) fun _ _ z => (z.toS l₂ fun _ _ q => q).ext (e₁.trans e₂)
    obtain ⟨g', σ', x', R', q⟩ := z
    exact ⟨.next, ρ, m, g', σ', (e₁.trans e₂).trans x', R', l₂.mono x', rfl, q⟩
/-! ### calls -/
/-- arguments, from left to right -/
noncomputable def AV (C : Cx) (k : Nat) (f : FI) (es : List Expr) (ρ : Env1) (σ : Sto) (Qs : List MV → Sto → Prop) (X : ExcP) : Prop :=
  ∀ pos A L m frs g s, Room A k ((f.env L, L, m) :: frs) → Rel C g σ ((f.env L, L, m) :: frs) s → Loc g ρ m →
    wpAny C.M A (spliced (backTo pos (starEach es (f.env L)))) (fun vs s' => ∃ mvs g' σ', Ext g g' ∧ Rel C g' σ' ((f.env L, L, m) :: frs) s' ∧ VRs g' mvs vs ∧ Qs mvs σ') (PostX C g ((f.env L, L, m) :: frs) X) s
theorem AV_nil {Qs : List MV → Sto → Prop} (q : Qs [] σ) : AV C k f [] ρ σ Qs X := fun pos A L m frs g s rm R lc => by
  show wpAny C.M A (spliced []) _ _ s
  unfold spliced
  exact wpAny_pure ⟨[], g, σ, .refl g, R, .nil, q⟩
theorem AV_cons {e : Expr} {es : List Expr} {Qs : List MV → Sto → Prop} (h : EV C k f e ρ σ (fun a σ₁ => AV C k f es ρ σ₁ (fun as σ₂ => Qs (a :: as) σ₂) X) X) (he : ∀ env, starEach (e :: es) env = (false, eval e env) :: starEach es env) : AV C k f (e :: es) ρ σ Qs X :=
  fun pos A L m frs g s rm R lc => by
    rw [he]
    show wpAny C.M A (spliced ((false, eval e (f.env L)) :: backTo pos (starEach es (f.env L)))) _ _ s
    refine spliced_cons (h.then rm R lc (fun _ _ z => z) fun ma g₁ σ₁ va s₁ e₁ R₁ l₁ r₁ q₁ => ?_)
    refine wpAny_mono (q₁ pos A L m frs g₁ s₁ rm R₁ l₁) (fun vs s' z => ?_) fun _ _ z => z.ext e₁
    obtain ⟨mvs, g', σ', x, R', vr, q⟩ := z
    exact ⟨ma :: mvs, g', σ', e₁.trans x, R', .cons (r₁.mono x) vr, q⟩
theorem CV.apply {fv : Value} {args : List MV} {A : Around} {env : Env} {L : Addr} {m : Str → Option Value} {frs : List Frm} {s : Shared} {vs : List Value} (h : CV C k fv args σ Q X) (rm : Room A k ((env, L, m) :: frs)) (R : Rel C g σ ((env, L, m) :: frs) s) (vr : VRs g args vs) :
    wpAny C.M A (call fv vs) (PostV C g ((env, L, m) :: frs) Q) (PostX C g ((env, L, m) :: frs) X) s :=
  wpAny_call (codeAny_mono (h A _ g s vs (by simp) rm R vr) fun r s' z => by
    rcases r with e | (v | _ | _ | _) <;> exact z)
theorem callWith_ev0 {fv : Value} {first : List MV} {vf : List Value} {pos : Pos} {A : Around} {L : Addr} {m : Str → Option Value} {frs : List Frm} {s : Shared} (hk : keepIn C.KK fv = true)
    (h : CV C k fv first σ Q X) (rm : Room A k ((f.env L, L, m) :: frs)) (R : Rel C g σ ((f.env L, L, m) :: frs) s) (vr : VRs g first vf) :
    wpAny C.M A (callWith pos fv vf (backTo pos (starEach [] (f.env L))) []) (PostV C g ((f.env L, L, m) :: frs) Q) (PostX C g ((f.env L, L, m) :: frs) X) s := by
  refine callWith_K0 R.Kin hk ?_
  rw [List.append_nil]
  exact h.apply rm R vr
theorem callWith_ev {fv : Value} {first : List MV} {vf : List Value} {e : Expr} {r : List Expr} {pos : Pos} {A : Around} {L : Addr} {m : Str → Option Value} {frs : List Frm} {s : Shared} (hk : keepIn C.KK fv = true)
    (h : AV C k f (e :: r) ρ σ (fun as σ₁ => CV C k fv (first ++ as) σ₁ Q X) X) (he : ∀ env, starEach (e :: r) env = (false, eval e env) :: starEach r env) (hpl : ∀ env pos, (backTo pos (starEach r env)).any (·.1) = false)
    (rm : Room A k ((f.env L, L, m) :: frs)) (R : Rel C g σ ((f.env L, L, m) :: frs) s) (lc : Loc g ρ m) (vr : VRs g first vf) :
    wpAny C.M A (callWith pos fv vf (backTo pos (starEach (e :: r) (f.env L))) []) (PostV C g ((f.env L, L, m) :: frs) Q) (PostX C g ((f.env L, L, m) :: frs) X) s := by
  refine callWith_K (h₀ := C.h₁) C.K hk (wpAny_mono (h pos A L m frs g s rm R lc) (fun vs s' z => ?_) fun _ _ z => z) (he _) (hpl _ _)
  obtain ⟨mvs, g', σ', x, R', vr', q⟩ := z
  exact ⟨R'.Kin, wpAny_mono (q.apply rm R' ((vr.mono x).append vr')) (fun _ _ z => z.ext x) fun _ _ z => z.ext x⟩
/-- a def of the top called by its name -/
theorem EV_call0 {x : Str} {p' pos : Pos} {fv : Value} (hn : nsIn C.KK mainGlobals x = some (some fv)) (hk : keepIn C.KK fv = true) (h : CV C k fv [] σ Q X)
    (hkd : f.fd.scope.kind = .function) (hgl : f.fd.globals = mainGlobals) (hx : f.fd.scope.names.lookup x = some .globalImplicit) (hd : (x == ("__debug__" : Str)) = false) : EV C k f (.Call (.Name x p') [] [] pos) ρ σ Q X :=
  fun A L m frs g s rm R lc => by
    show wpAny C.M A (do callWith pos (← eval (.Name x p') (f.env L)) [] (backTo pos (starEach [] (f.env L))) []) _ _ s
    refine wpAny_bind (Name_function_global (env := f.env L) hkd hx (loadGlobal_global (env := f.env L) (mg := C.mg) ?_ (mg_of C.K C.T.g hn) ?_) hd)
    · show s.heap.Ns f.fd.globals C.mg
      rw [hgl]; exact C.T.g.keeps R.keepsB
    · exact callWith_ev0 hk h rm R .nil
theorem EV_call {x : Str} {p' pos : Pos} {fv : Value} {e : Expr} {r : List Expr} (hn : nsIn C.KK mainGlobals x = some (some fv)) (hk : keepIn C.KK fv = true) (h : AV C k f (e :: r) ρ σ (fun as σ₁ => CV C k fv as σ₁ Q X) X)
    (he : ∀ env, starEach (e :: r) env = (false, eval e env) :: starEach r env) (hpl : ∀ env pos, (backTo pos (starEach r env)).any (·.1) = false)
    (hkd : f.fd.scope.kind = .function) (hgl : f.fd.globals = mainGlobals) (hx : f.fd.scope.names.lookup x = some .globalImplicit) (hd : (x == ("__debug__" : Str)) = false) : EV C k f (.Call (.Name x p') (e :: r) [] pos) ρ σ Q X :=
  fun A L m frs g s rm R lc => by
    show wpAny C.M A (do callWith pos (← eval (.Name x p') (f.env L)) [] (backTo pos (starEach (e :: r) (f.env L))) []) _ _ s
    refine wpAny_bind (Name_function_global (env := f.env L) hkd hx (loadGlobal_global (env := f.env L) (mg := C.mg) ?_ (mg_of C.K C.T.g hn) ?_) hd)
    · show s.heap.Ns f.fd.globals C.mg
      rw [hgl]; exact C.T.g.keeps R.keepsB
    · exact callWith_ev (first := []) hk h he hpl rm R lc .nil
noncomputable def methIn (K : Frag) (c : Addr) (x : Str) (fa : Addr) : Bool := plainGet K c x && (findIn K (.ref c) x == some (some (.ref fa))) && isFn K (.ref fa) && keepIn K (.ref fa)
theorem getMethod_ev {c a d : Addr} {x : Str} {fa : Addr} {fs : Env1} {A : Around} {env : Env} {L : Addr} {m : Str → Option Value} {frs : List Frm} {s : Shared} {pl : Sem Bool} {W : Value × List Value → Shared → Prop} {E : Value → Shared → Prop}
    (hσ : σ d = some (.ns fs)) (hno : (fs.all fun p => !(p.1 == x)) = true) (hm : methIn C.KK c x fa = true) (R : Rel C g σ ((env, L, m) :: frs) s) (hg : g a = some (instObj c d)) (h : W (.ref fa, [.ref a]) s) :
    wpAny C.M A (getMethod (.ref a) x pl) W E s := by
  obtain ⟨es, n, he, hr⟩ := (R.objs _ _ hσ).2
  unfold methIn at hm
  simp only [Bool.and_eq_true, beq_iff_eq] at hm
  obtain ⟨⟨⟨h1, h2⟩, h3⟩, h4⟩ := hm
  exact method_inst (x := a) (ox := instObj c d) (C := c) (es := es) (n := n) R.F C.K ⟨R.keep _ _ hg, rfl, rfl, he⟩ h1 h2 h3 (hr.getL_none hno) h
/-- a call of what an attribute names: the receiver, then the way its method is met -/
theorem wp_call_attr {M : Model} {A : Around} {env : Env} {o : Expr} {name : Str} {apos pos : Pos} {args : List Expr} {W : Value → Shared → Prop} {E : Value → Shared → Prop} {s : Shared}
    (hb : ∀ whole, attributeBase o name env whole = whole) (hfew : methodCallForm (args.length + ([] : List Keyword).length) (backTo pos (starEach args env)) (backToKw pos (keywordEach [] env)) = true) (hline : (apos.endLine == pos.line) = true)
    (h : wpAny M A (eval o env) (fun ov s₁ => ∀ pl, wpAny M A (getMethod ov name pl) (fun r s₂ => wpAny M A (callWith pos r.1 r.2 (backTo pos (starEach args env)) []) W E s₂) E s₁) E s) :
    wpAny M A (eval (.Call (.Attribute o name apos) args [] pos) env) W E s := by
  rw [arm_eval_Call, hb]
  refine wpAny_bind (wpAny_mono h (fun ov s₁ h₁ => ?_) fun _ _ z => z)
  refine wpAny_bind (wpAny_standAt ?_)
  unfold methodCall
  rw [hfew]
  refine wpAny_bind (wpAny_holding ?_)
  unfold calleeOf
  simp only [if_true]
  refine wpAny_mono (h₁ _) (fun r s₂ h₂ => ?_) fun _ _ z => z
  unfold methodCallPos
  simp only [Bool.not_true, Bool.false_or, hline, if_true]
  exact wpAny_bind (wpAny_pure h₂)
theorem EV_meth0 {o : Expr} {x : Str} {apos pos : Pos} (h : EV C k f o ρ σ (fun ov σ₁ => ∃ c a d fs fa, ov = .inst c a d ∧ σ₁ d = some (.ns fs) ∧ (fs.all fun p => !(p.1 == x)) = true ∧ methIn C.KK c x fa = true ∧ CV C k (.ref fa) [.inst c a d] σ₁ Q X) X)
    (hb : ∀ env whole, attributeBase o x env whole = whole) (hline : (apos.endLine == pos.line) = true) : EV C k f (.Call (.Attribute o x apos) [] [] pos) ρ σ Q X :=
  fun A L m frs g s rm R lc => by
    refine wp_call_attr (hb _) rfl hline (h.then rm R lc (fun _ _ z => z) fun ov g₁ σ₁ va s₁ e₁ R₁ l₁ r₁ q₁ => ?_)
    obtain ⟨c, a, d, fs, fa, rfl, h1, h2, h3, h4⟩ := q₁
    obtain ⟨rfl, hg⟩ := r₁.instI
    intro pl
    refine getMethod_ev h1 h2 h3 R₁ hg ?_
    have hk : keepIn C.KK (.ref fa) = true := by unfold methIn at h3; simp only [Bool.and_eq_true] at h3; exact h3.2
    exact wpAny_mono (callWith_ev0 hk h4 rm R₁ (.one r₁)) (fun _ _ z => z.ext e₁) fun _ _ z => z.ext e₁
theorem EV_meth {o : Expr} {x : Str} {apos pos : Pos} {e : Expr} {r : List Expr} (h : EV C k f o ρ σ (fun ov σ₁ => ∃ c a d fs fa, ov = .inst c a d ∧ σ₁ d = some (.ns fs) ∧ (fs.all fun p => !(p.1 == x)) = true ∧ methIn C.KK c x fa = true ∧
      AV C k f (e :: r) ρ σ₁ (fun as σ₂ => CV C k (.ref fa) (.inst c a d :: as) σ₂ Q X) X) X)
    (hb : ∀ env whole, attributeBase o x env whole = whole) (hline : (apos.endLine == pos.line) = true) (hfew : ∀ env, methodCallForm ((e :: r).length + 0) (backTo pos (starEach (e :: r) env)) (backToKw pos (keywordEach [] env)) = true)
    (he : ∀ env, starEach (e :: r) env = (false, eval e env) :: starEach r env) (hpl : ∀ env pos, (backTo pos (starEach r env)).any (·.1) = false) : EV C k f (.Call (.Attribute o x apos) (e :: r) [] pos) ρ σ Q X :=
  fun A L m frs g s rm R lc => by
    refine wp_call_attr (hb _) (hfew _) hline (h.then rm R lc (fun _ _ z => z) fun ov g₁ σ₁ va s₁ e₁ R₁ l₁ r₁ q₁ => ?_)
    obtain ⟨c, a, d, fs, fa, rfl, h1, h2, h3, h4⟩ := q₁
    obtain ⟨rfl, hg⟩ := r₁.instI
    intro pl
    refine getMethod_ev h1 h2 h3 R₁ hg ?_
    have hk : keepIn C.KK (.ref fa) = true := by unfold methIn at h3; simp only [Bool.and_eq_true] at h3; exact h3.2
    exact wpAny_mono (callWith_ev (first := [.inst c a d]) hk h4 he hpl rm R₁ l₁ (.one r₁)) (fun _ _ z => z.ext e₁) fun _ _ z => z.ext e₁
end
end Mine
end
section
open PySem PySem.W PySem.Calls PyProof.Rows PySem.Challenge

namespace Mine
section
variable {C : Cx} {k : Nat} {f : FI} {ρ : Env1} {σ : Sto} {X : ExcP} {XS : ExcS} {Q : MV → Sto → Prop} {QB : Bool → Sto → Prop} {QS : MF → Env1 → Sto → Prop} {g : Stab}
theorem Rel.drop {p : Frm} {frs : List Frm} {s : Shared} (R : Rel C g σ (p :: frs) s) : Rel C g σ frs s := ⟨R.base, R.keep, R.objs, R.frs.2, R.gens, R.os⟩
theorem Room.call {A : Around} {frs : List Frm} {env : Env} {L : Addr} {m : Str → Option Value} (r : Room A (k + 1) frs) : Room (A.deeper env) k ((env, L, m) :: frs) := by
  refine ⟨?_, ?_, ?_, fun hk => r.handled (by omega)⟩
  · have := r.depth; show A.depth + 1 + k < _; omega
  · have := r.units; show A.units + 3 + 20 * k + 20 < _; omega
  · show A.frames.map (env :: ·) = _; rw [r.frames]; rfl
theorem Room.less {A : Around} {frs : List Frm} {k' : Nat} (r : Room A k frs) (h : k' ≤ k) : Room A k' frs := ⟨by have := r.depth; omega, by have := r.units; omega, r.frames, fun hk => r.handled (by omega)⟩
theorem loc_zip : ∀ {names : List Str} {args : List MV} {vs : List Value}, VRs g args vs → names.Nodup → args.length = names.length → Loc g (names.zip args) (fun x => (names.zip vs).reverse.lookup x)
  | [], _, _, _, _, _ => by intro p hp; simp at hp
  | n :: ns, [], _, _, _, h => by simp at h
  | n :: ns, a :: as, vs, vr, nd, hl => by
    obtain ⟨v, vs', rfl, h1, h2⟩ := vr.inv
    obtain ⟨hn, nd'⟩ := List.nodup_cons.mp nd
    have ih := loc_zip h2 nd' (by simpa using hl)
    intro p hp
    rw [List.zip_cons_cons] at hp
    rw [List.zip_cons_cons]
    have key : ∀ y, (((n, v) :: ns.zip vs').reverse.lookup y) = ((ns.zip vs').reverse.lookup y).or (if y = n then some v else none) := by
      intro y
      rw [List.reverse_cons, List.lookup_append]
      congr 1
      rw [List.lookup_cons]
      by_cases e : y = n
      · subst e; simp
      · have eb : (y == n) = false := by simpa using e
        rw [eb, if_neg e]; rfl
    rcases List.mem_cons.mp hp with rfl | hp
    · refine ⟨v, ?_, h1⟩
      show (((n, v) :: ns.zip vs').reverse.lookup n) = some v
      rw [key, if_pos rfl]
      have : (ns.zip vs').reverse.lookup n = none := by
        rw [List.lookup_eq_none_iff]
        intro q hq
        have := (List.of_mem_zip (List.mem_reverse.mp hq)).1
        have ne : n ≠ q.1 := fun e => hn (e ▸ this)
        simpa using ne
      rw [this]; rfl
    · obtain ⟨v', a', b'⟩ := ih p hp
      refine ⟨v', ?_, b'⟩
      show (((n, v) :: ns.zip vs').reverse.lookup p.1) = some v'
      rw [key, show (ns.zip vs').reverse.lookup p.1 = some v' from a']; rfl
/-- what K says of a def -/
structure DefIn (K : Frag) (f : FI) (names : List Str) (body : List Stmt) : Prop where
  at_ : K.lookup f.addr = some ⟨.type "function", none, .func f.fd, #[]⟩
  body : f.fd.body = .stmts body
  code : codeIn K f.fd.code f.fd.qualname = true
  kind : f.fd.scope.kind = .function
  gen : f.fd.scope.isGenerator = false
  co : f.fd.scope.isCoroutine = false
  cell : (f.fd.scope.names.all fun x => !(x.2 == .cell)) = true
  locs : (names.all fun x => f.fd.scope.names.lookup x == some .local) = true
  nodup : names.Nodup
  bind : ∀ (s : Shared) (vs : List Value), K.In s.heap → vs.length = names.length → BindsTo s f.fd ⟨vs, []⟩ (names.zip vs)
noncomputable abbrev FnQ (Q : MV → Sto → Prop) : MF → Env1 → Sto → Prop := fun mf _ σ' => match mf with
  | .ret v => Q v σ'
  | .next => Q .none σ'
  | _ => False
theorem CV_def {names : List Str} {body : List Stmt} {args : List MV} (D : DefIn C.KK f names body) (hl : args.length = names.length) (h : SV C k f body (names.zip args) σ (FnQ Q) NoXS) : CV C (k + 1) (.ref f.addr) args σ Q X :=
  fun A frs g s vs hne rm R vr => by
    have hlen : vs.length = names.length := by rw [vr.length, hl]
    refine codeAny_call_def (fd := f.fd) (body := body) (binds := names.zip vs) (by have := rm.depth; omega) (R.Kin _ _ D.at_) rfl (C.T.nolimit.keeps R.keepsB) (codeRec_of R.Kin D.code) D.body (D.bind s vs R.Kin hlen) ?_ ?_ (fun h₀ hns hk => ?_) D.co D.gen D.kind
    · intro x hx
      have := List.all_eq_true.mp D.cell x hx
      simpa using this
    · intro x hx
      have hx' := (List.of_mem_zip hx).1
      have := List.all_eq_true.mp D.locs x.1 hx'
      simpa using this
    · have fresh : s.heap.get? s.heap.objs.size = none := by
        cases q : s.heap.get? s.heap.objs.size with
        | none => rfl
        | some o => exact absurd (Heap.lt_size q) (Nat.lt_irrefl _)
      have N := R.fresh fresh
      have R' : Rel C g σ ((f.env s.heap.objs.size, s.heap.objs.size, fun x => (names.zip vs).reverse.lookup x) :: frs) { s with heap := h₀, toks := s.toks + (names.zip vs).length } := by
        refine ⟨R.base, fun a o e => hk a o (R.keep a o e), fun a mo e => ⟨(R.objs a mo e).1, (R.objs a mo e).2.at fun o => hk a o⟩, ⟨⟨rfl, D.kind, hns, ?_, N.g, N.s, N.f⟩, R.frs.to (fun p hp mm z => ?_) (fun _ _ z => z) fun _ _ z => z⟩, R.gens, R.os⟩
        · cases frs with
          | nil => exact absurd rfl hne
          | cons p r =>
            obtain ⟨o, e⟩ := R.live (.head _)
            exact Nat.le_trans (R.frs.mem p (.head _)).2.2.2.1 (Nat.le_of_lt (Heap.lt_size e))
        · obtain ⟨o, es, ep, e1, r⟩ := z
          exact ⟨o, es, ep, hk _ _ e1, r⟩
      refine wpAny_mono (h (A.deeper (f.env s.heap.objs.size)) s.heap.objs.size _ frs g _ rm.call R' (loc_zip vr D.nodup hl)) (fun fl s' z => ?_) fun e s' z => ?_
      · obtain ⟨mf, ρ', m', g', σ', x, R'', l', fr, q⟩ := z
        cases mf with
        | next => obtain rfl : fl = .next := fr; exact ⟨.none, g', σ', x, R''.drop, .none, q⟩
        | ret v => obtain ⟨v', rfl, hv⟩ := fr; exact ⟨v, g', σ', x, R''.drop, hv, q⟩
        | brk => exact q.elim
        | cont => exact q.elim
      · obtain ⟨_, _, _, _, _, _, _, _, _, _, q⟩ := z
        exact q.elim
end
end Mine
end
section
open PySem PySem.W PySem.Calls PyProof.Rows PySem.Challenge

namespace Mine
section
variable {C : Cx} {k : Nat} {f : FI} {ρ : Env1} {σ : Sto} {X : ExcP} {XS : ExcS} {Q : MV → Sto → Prop} {QB : Bool → Sto → Prop} {QS : MF → Env1 → Sto → Prop} {g : Stab} {env : Env} {L : Addr} {m : Str → Option Value} {frs : List Frm} {s : Shared}
theorem Rel.newObj (R : Rel C g σ ((env, L, m) :: frs) s) {h' : Heap} {D : Addr} {o : Obj} (hD : s.heap.get? D = none) (F : Fr C.h₁ L h' m) (N : News C.h₁ L h' ((D, o) :: restOf C.h₁ L s.heap)) (t : Nat) :
    Rel C g σ ((env, L, m) :: frs) { s with heap := h', toks := t } ∧ Fresh g σ ((env, L, m) :: frs) D ∧ h'.get? D = some o :=
  ⟨R.ofNews (extra := [(D, o)]) F N t, R.fresh hD, (N _ (.head _)).1⟩
theorem noneAt (h : Heap) : h.get? h.objs.size = none := by
  cases q : h.get? h.objs.size with
  | none => rfl
  | some o => exact absurd (Heap.lt_size q) (Nat.lt_irrefl _)
theorem PostV.newList {σ : Sto} (R : Rel C g σ ((env, L, m) :: frs) s) {h' : Heap} {D : Addr} {vs : List Value} {xs : List MV} (hD : s.heap.get? D = none) (F : Fr C.h₁ L h' m) (N : News C.h₁ L h' ((D, listOf vs.toArray 0) :: restOf C.h₁ L s.heap)) (t : Nat) (vr : VRs g xs vs)
    (q : ∀ a, σ a = none → Q (.ref a) (σ.set a (.list xs))) : PostV C g ((env, L, m) :: frs) Q (.ref D) { s with heap := h', toks := t } := by
  obtain ⟨R', Fd, e⟩ := R.newObj hD F N t
  exact ⟨.ref D, g, _, .refl g, R'.addS (mo := .list xs) Fd ⟨vs, 0, e, vr⟩, .ref D, q D Fd.s⟩
theorem PostV.newTup {σ : Sto} (R : Rel C g σ ((env, L, m) :: frs) s) {h' : Heap} {D : Addr} {vs : List Value} {xs : List MV} (hD : s.heap.get? D = none) (F : Fr C.h₁ L h' m) (N : News C.h₁ L h' ((D, tupO vs 0) :: restOf C.h₁ L s.heap)) (t : Nat) (vr : VRs g xs vs)
    (q : Q (.tup xs) σ) : PostV C g ((env, L, m) :: frs) Q (.ref D) { s with heap := h', toks := t } := by
  obtain ⟨R', Fd, e⟩ := R.newObj hD F N t
  refine ⟨.tup xs, g.add D (tupO vs 0), σ, Stab.add_ext Fd.g, R'.addG Fd e, ?_, q⟩
  simp only [VR]
  exact ⟨D, vs, _, 0, rfl, Stab.add_self .., rfl, rfl, vr.mono (Stab.add_ext Fd.g)⟩
/-! ### displays -/
theorem EV_List {es : List Expr} {pos : Pos} (h : AV C k f es ρ σ (fun as σ₁ => as.length ≤ 1000 ∧ ∀ a, σ₁ a = none → Q (.ref a) (σ₁.set a (.list as))) X) : EV C k f (.List es pos) ρ σ Q X :=
  fun A L m frs g s rm R lc => by
    refine List_ (wpAny_mono (h pos A L m frs g s rm R lc) (fun vs s' z => ?_) fun _ _ z => z)
    obtain ⟨mvs, g', σ', x, R', vr, hl, q⟩ := z
    refine newList_N R'.F (R'.N L) (fun h' F' N' => (PostV.newList R' (noneAt _) F' N' s'.toks vr q).ext x) ?_
    rw [vr.length, sizeLine_eq]; omega
theorem EV_Tuple {es : List Expr} {kk : Nat} {pos : Pos} (h : AV C k f es ρ σ (fun as σ₁ => as.length ≤ 1000 ∧ Q (.tup as) σ₁) X) : EV C k f (.Tuple es kk pos) ρ σ Q X :=
  fun A L m frs g s rm R lc => by
    refine Tuple_ (wpAny_mono (h pos A L m frs g s rm R lc) (fun vs s' z => ?_) fun _ _ z => z)
    obtain ⟨mvs, g', σ', x, R', vr, hl, q⟩ := z
    refine newTuple_N R'.F (R'.N L) (fun h' F' N' => (PostV.newTup R' (noneAt _) F' N' s'.toks vr q).ext x) ?_
    rw [vr.length, sizeLine_eq]; omega
/-! ### subscripts -/
noncomputable def SubV (C : Cx) (k : Nat) (value slice : Expr) (a i : MV) (σ : Sto) (Q : MV → Sto → Prop) (X : ExcP) : Prop :=
  ∀ A env L m frs g s va vi, Room A k ((env, L, m) :: frs) → Rel C g σ ((env, L, m) :: frs) s → VR g a va → VR g i vi → wpAny C.M A (subscriptTail value slice va vi) (PostV C g ((env, L, m) :: frs) Q) (PostX C g ((env, L, m) :: frs) X) s
theorem EV_Sub {value slice : Expr} {pos : Pos} (h : EV C k f value ρ σ (fun a σ₁ => EV C k f slice ρ σ₁ (fun i σ₂ => SubV C k value slice a i σ₂ Q X) X) X) : EV C k f (.Subscript value slice pos) ρ σ Q X :=
  fun A L m frs g s rm R lc => by
    refine Subscript_ (h.then rm R lc (fun _ _ z => z) fun ma g₁ σ₁ va s₁ e₁ R₁ l₁ r₁ q₁ => ?_)
    refine q₁.then rm R₁ l₁ (fun _ _ z => z.ext e₁) fun mb g₂ σ₂ vb s₂ e₂ R₂ l₂ r₂ q₂ => ?_
    exact wpAny_mono (q₂ _ _ _ _ _ _ _ _ _ rm R₂ (r₁.mono e₂) r₂) (fun _ _ z => z.ext (e₁.trans e₂)) fun _ _ z => z.ext (e₁.trans e₂)
noncomputable abbrev PlainIx (slice : Expr) : Prop := ∀ o i, subscripted slice false o i = operate [o, i] (getItem o i)
theorem list_at {σ : Sto} {a : Addr} {xs : List MV} (R : Rel C g σ frs s) (h : σ a = some (.list xs)) : ∃ vs n, s.heap.get? a = some (listOf (List.toArray vs) n) ∧ VRs g xs vs := (R.objs _ _ h).2
theorem isList_of {h : Heap} {a : Addr} {vs : List Value} {n : Nat} (e : h.get? a = some (listOf (List.toArray vs) n)) : h.IsList a vs.toArray := ⟨_, e, rfl, n, rfl⟩
theorem SubV_list {value slice : Expr} {a : Addr} {xs : List MV} {i : Int} {x : MV} (hσ : σ a = some (.list xs)) (h0 : 0 ≤ i) (hx : xs[i.toNat]? = some x) (hs : PlainIx slice) (hb : xs.length ≤ 1000000) (q : Q x σ) : SubV C k value slice (.ref a) (.int i) σ Q X :=
  fun A env L m frs g s va vi rm R ra ri => by
    rw [ra.refI]
    obtain ⟨t, rfl⟩ := ri.intI
    obtain ⟨vs, n, e, vr⟩ := list_at R hσ
    obtain ⟨v, hv, r⟩ := vr.get hx
    have hlt : i.toNat < xs.length := (List.getElem?_eq_some_iff.mp hx).1
    exact tail_any (isList_of e).typeIs slot_list_getitem.lookup (wpAny_getItem_list (isList_of e) h0 (by omega) (by simpa using hv) (.mk R r q)) (hs _ _)
theorem SubV_list_neg {value slice : Expr} {a : Addr} {xs : List MV} {i : Int} {x : MV} (hσ : σ a = some (.list xs)) (h0 : i < 0) (h1 : -(xs.length : Int) ≤ i) (hx : xs[(i + xs.length).toNat]? = some x) (hs : PlainIx slice) (hb : xs.length ≤ 1000000) (q : Q x σ) : SubV C k value slice (.ref a) (.int i) σ Q X :=
  fun A env L m frs g s va vi rm R ra ri => by
    rw [ra.refI]
    obtain ⟨t, rfl⟩ := ri.intI
    obtain ⟨vs, n, e, vr⟩ := list_at R hσ
    obtain ⟨v, hv, r⟩ := vr.get hx
    have hl := vr.length
    exact tail_any (isList_of e).typeIs slot_list_getitem.lookup (wpAny_getItem_list_neg (isList_of e) h0 (by rw [List.size_toArray, hl]; exact h1) (by omega) (by rw [List.size_toArray, hl]; simpa using hv) (.mk R r q)) (hs _ _)
theorem isTup_of {a : Addr} {o : Obj} {vs : List Value} {n : Nat} {h : Heap} (e : h.get? a = some o) (hc : o.cls = .type "tuple") (hd : o.data = .seq (List.toArray vs) n) : IsTup h a vs.toArray := ⟨o, e, hc, n, hd⟩
theorem SubV_tup {value slice : Expr} {xs : List MV} {i : Int} {j : Nat} {x : MV} (hj : seqIndex? i xs.length = some j) (hx : xs[j]? = some x) (hs : PlainIx slice) (hb : -(2 ^ 63) ≤ i ∧ i < 2 ^ 63) (q : Q x σ) : SubV C k value slice (.tup xs) (.int i) σ Q X :=
  fun A env L m frs g s va vi rm R ra ri => by
    obtain ⟨a, vs, o, n, rfl, hg, hc, hd, vr⟩ := ra.tupI
    obtain ⟨t, rfl⟩ := ri.intI
    obtain ⟨v, hv, r⟩ := vr.get hx
    have T := isTup_of (R.keep _ _ hg) hc hd
    exact tail_any T.typeIs slot_tuple_getitem.lookup (getItem_tuple T hb.1 hb.2 (by rw [List.size_toArray, vr.length]; exact hj) (by simpa using hv) (.mk R r q)) (hs _ _)
theorem SubV_str {value slice : Expr} {x : Str} {i : Int} {c : Nat} (hc : (seqIndex? i x.length).bind (x.cps[·]?) = some c) (hs : PlainIx slice) (hb : (decide (i < -(2 ^ 63 : Int)) || decide (i ≥ 2 ^ 63)) = false) (q : Q (.str ⟨#[c]⟩) σ) : SubV C k value slice (.str x) (.int i) σ Q X :=
  fun A env L m frs g s va vi rm R ra ri => by
    obtain ⟨t, rfl⟩ := ra.strI
    obtain ⟨u, rfl⟩ := ri.intI
    exact tail_any (typeIs_str s x t) PySem.F.slot_str_getitem.lookup (P.getItem_str hb hc (.mk (R.toks _) (.str ..) q)) (hs _ _)
/-- a slice of a list -/
noncomputable def slMV (xs : List MV) (lo hi : Option Int) : List MV := (xs.drop (lo.elim 0 (clipAt xs.length))).take (hi.elim xs.length (clipAt xs.length) - lo.elim 0 (clipAt xs.length))
noncomputable def PV (C : Cx) (k : Nat) (f : FI) : Option Expr → Env1 → Sto → (Option Int → Sto → Prop) → ExcP → Prop
  | .none, _, σ, Qp, _ => Qp .none σ
  | .some e, ρ, σ, Qp, X => EV C k f e ρ σ (fun v σ' => ∃ i, v = .int i ∧ Qp (some i) σ') X
theorem PV.then {e : Option Expr} {Qp : Option Int → Sto → Prop} {A : Around} {s : Shared} {W : Value → Shared → Prop} {E : Value → Shared → Prop}
    (h : PV C k f e ρ σ Qp X) (r : Room A k ((f.env L, L, m) :: frs)) (R : Rel C g σ ((f.env L, L, m) :: frs) s) (l : Loc g ρ m) (hE : ∀ v s', PostX C g ((f.env L, L, m) :: frs) X v s' → E v s')
    (cont : ∀ i g' σ' v s', Ext g g' → Rel C g' σ' ((f.env L, L, m) :: frs) s' → Loc g' ρ m → IsPart v i → Qp i σ' → W v s') : wpAny C.M A (evalPart e (f.env L)) W E s := by
  cases e with
  | none => rw [evalPart_none]; exact wpAny_pure (cont _ g σ _ _ (.refl g) R l .none h)
  | some e =>
    rw [evalPart_some]
    refine EVt.then (t := eval e) h r R l hE fun mv g' σ' v s' x R' l' vr q => ?_
    obtain ⟨i, rfl, q⟩ := q
    obtain ⟨t, rfl⟩ := vr.intI
    exact cont _ g' σ' _ _ x R' l' (.int i t) q
theorem push2 (R : Rel C g σ ((env, L, m) :: frs) s) (o₁ o₂ : Obj) : Rel C g σ ((env, L, m) :: frs) { s with heap := (s.heap.push o₁).push o₂ } := by
  refine R.keepAll (fun b o _ e => Heap.get?_push_of_some _ (Heap.get?_push_of_some _ e)) ?_ s.toks
  obtain ⟨o, es, ep, e, r⟩ := R.frs.1.2.2.1
  exact ⟨o, es, ep, Heap.get?_push_of_some _ (Heap.get?_push_of_some _ e), r⟩
theorem noneAt1 (h : Heap) : h.get? (h.objs.size + 1) = none := by
  cases q : h.get? (h.objs.size + 1) with
  | none => rfl
  | some o => exact absurd (Heap.lt_size q) (Nat.not_lt.mpr (Nat.le_succ _))
theorem slMV_vrs {xs : List MV} {vs : List Value} (vr : VRs g xs vs) (lo hi : Option Int) : ∃ ws, slicePick vs.toArray lo hi none = List.toArray ws ∧ VRs g (slMV xs lo hi) ws := by
  refine ⟨_, slicePick_plain _ lo hi, ?_⟩
  unfold slMV
  rw [List.size_toArray, vr.length]
  exact (vr.drop _).take _
theorem EV_slice {value : Expr} {lo hi : Option Expr} {p pos : Pos}
    (hv : EV C k f value ρ σ (fun a σ₁ => PV C k f lo ρ σ₁ (fun l σ₂ => PV C k f hi ρ σ₂ (fun u σ₃ => ∃ b xs, a = .ref b ∧ σ₃ b = some (.list xs) ∧ xs.length ≤ 1000000 ∧ ∀ c, σ₃ c = none → Q (.ref c) (σ₃.set c (.list (slMV xs l u)))) X) X) X)
    (ht : ∀ o r, letTemporaryGo value o r = pure ()) : EV C k f (.Subscript value (.Slice lo hi none p) pos) ρ σ Q X :=
  fun A L m frs g s rm R lc => by
    refine wpAny_Subscript_list_slice (ht := ht) (hv.then rm R lc (fun _ _ z => z) fun ma g₁ σ₁ va s₁ e₁ R₁ l₁ r₁ q₁ => ?_)
    refine q₁.then rm R₁ l₁ (fun _ _ z => z.ext e₁) fun i g₂ σ₂ vl s₂ e₂ R₂ l₂ p₂ q₂ => ?_
    refine q₂.then rm R₂ l₂ (fun _ _ z => z.ext (e₁.trans e₂)) fun u g₃ σ₃ vu s₃ e₃ R₃ l₃ p₃ q₃ => ?_
    obtain ⟨b, xs, rfl, hb, hl, q⟩ := q₃
    obtain ⟨vs, n, e, vr⟩ := list_at R₃ hb
    refine ⟨b, vs.toArray, i, u, r₁.refI, isList_of e, ?_, p₂, p₃, ?_⟩
    · rw [List.size_toArray, vr.length, sizeLine_eq]; omega
    · have R₄ := push2 R₃ { cls := .type "slice", data := .fields #[vl, vu, .none] } { cls := .type "list", data := .seq (slicePick vs.toArray i u none) }
      have Fd := R₃.fresh (noneAt1 s₃.heap)
      obtain ⟨ws, hw, vw⟩ := slMV_vrs vr i u
      refine ⟨.ref _, g₃, _, (e₁.trans e₂).trans e₃, R₄.addS (mo := .list (slMV xs i u)) Fd ⟨ws, 0, ?_, vw⟩, .ref _, q _ Fd.s⟩
      show ((s₃.heap.push _).push _).get? _ = _
      rw [hw]
      have := Heap.get?_push_size (s₃.heap.push { cls := .type "slice", data := .fields #[vl, vu, .none] }) (o := { cls := .type "list", data := .seq ws.toArray }) rfl
      rw [Heap.size_push] at this
      exact this
end
end Mine
end
section
open PySem PySem.W PySem.Calls PyProof.Rows PySem.Challenge

namespace Mine
/-- a call as an operation -/
noncomputable def OpC (C : Cx) (k : Nat) (fv : Value) (args : List MV) (σ : Sto) (Q : MV → Sto → Prop) (X : ExcP) : Prop :=
  ∀ A env L m frs g s vs, Room A k ((env, L, m) :: frs) → Rel C g σ ((env, L, m) :: frs) s → VRs g args vs → wpAny C.M A (call fv vs) (PostV C g ((env, L, m) :: frs) Q) (PostX C g ((env, L, m) :: frs) X) s
section
variable {C : Cx} {k : Nat} {f : FI} {ρ : Env1} {σ : Sto} {X : ExcP} {XS : ExcS} {Q : MV → Sto → Prop} {QB : Bool → Sto → Prop} {QS : MF → Env1 → Sto → Prop} {g : Stab} {env : Env} {L : Addr} {m : Str → Option Value} {frs : List Frm} {s : Shared}
noncomputable abbrev MachV (fv : Value) : Prop := keeperOf fv = pure .machine
theorem mach_builtin (id : String) : MachV (.builtin id) := rfl
theorem mach_type (id : String) : MachV (.type id) := rfl
theorem callM_ev {fv : Value} {first : List MV} {vf : List Value} {e : Expr} {r : List Expr} {pos : Pos} {A : Around} {L : Addr} {m : Str → Option Value} {frs : List Frm} {s : Shared} (hk : MachV fv)
    (h : AV C k f (e :: r) ρ σ (fun as σ₁ => OpC C k fv (first ++ as) σ₁ Q X) X) (he : ∀ env, starEach (e :: r) env = (false, eval e env) :: starEach r env) (hpl : ∀ env pos, (backTo pos (starEach r env)).any (·.1) = false)
    (rm : Room A k ((f.env L, L, m) :: frs)) (R : Rel C g σ ((f.env L, L, m) :: frs) s) (lc : Loc g ρ m) (vr : VRs g first vf) :
    wpAny C.M A (callWith pos fv vf (backTo pos (starEach (e :: r) (f.env L))) []) (PostV C g ((f.env L, L, m) :: frs) Q) (PostX C g ((f.env L, L, m) :: frs) X) s := by
  have h' := h pos A L m frs g s rm R lc
  rw [he] at h' ⊢
  refine callWith_of (P := fun _ => True) (by show ((false || (backTo pos (starEach r (f.env L))).any (·.1)) || false) = false; rw [hpl]; rfl) (fun _ _ => ⟨.machine, .inr (.inl rfl), Looks.of_pure hk⟩) (evalArgs_plain (wpAny_mono h' (fun vs s' z => ?_) fun _ _ z => z))
  obtain ⟨mvs, g', σ', x, R', vr', q⟩ := z
  exact ⟨trivial, wpAny_mono (q A _ L m frs g' s' _ rm R' ((vr.mono x).append vr')) (fun _ _ z => z.ext x) fun _ _ z => z.ext x⟩
theorem callM_ev0 {fv : Value} {first : List MV} {vf : List Value} {pos : Pos} {A : Around} {L : Addr} {m : Str → Option Value} {frs : List Frm} {s : Shared} (hk : MachV fv) (h : OpC C k fv first σ Q X)
    (rm : Room A k ((f.env L, L, m) :: frs)) (R : Rel C g σ ((f.env L, L, m) :: frs) s) (vr : VRs g first vf) :
    wpAny C.M A (callWith pos fv vf (backTo pos (starEach [] (f.env L))) []) (PostV C g ((f.env L, L, m) :: frs) Q) (PostX C g ((f.env L, L, m) :: frs) X) s := by
  refine callWith_of (P := fun _ => True) rfl (fun _ _ => ⟨.machine, .inr (.inl rfl), Looks.of_pure hk⟩) (evalArgs_nil3 ⟨trivial, ?_⟩)
  show wpAny C.M A (call fv (vf ++ []) []) _ _ s
  rw [List.append_nil]
  exact h A _ L m frs g s _ rm R vr
/-- a built-in called by its name -/
theorem EV_bcall {x : Str} {p' pos : Pos} {fv : Value} {e : Expr} {r : List Expr} (hn : nsIn C.KK mainGlobals x = some none) (hb : bootBuiltins x = some fv) (hnn : x ≠ "__name__") (hk : MachV fv) (h : AV C k f (e :: r) ρ σ (fun as σ₁ => OpC C k fv as σ₁ Q X) X)
    (he : ∀ env, starEach (e :: r) env = (false, eval e env) :: starEach r env) (hpl : ∀ env pos, (backTo pos (starEach r env)).any (·.1) = false)
    (hkd : f.fd.scope.kind = .function) (hgl : f.fd.globals = mainGlobals) (hbl : f.fd.builtins = builtinsNs) (hx : f.fd.scope.names.lookup x = some .globalImplicit) (hd : (x == ("__debug__" : Str)) = false) : EV C k f (.Call (.Name x p') (e :: r) [] pos) ρ σ Q X :=
  fun A L m frs g s rm R lc => by
    show wpAny C.M A (do callWith pos (← eval (.Name x p') (f.env L)) [] (backTo pos (starEach (e :: r) (f.env L))) []) _ _ s
    refine wpAny_bind (Name_function_global (env := f.env L) hkd hx (loadGlobal_builtin (env := f.env L) (mg := C.mg) (mb := C.mb) ?_ (mg_none_of C.K C.T.g hn) ?_ ((C.T.builtins x hnn).trans hb) ?_) hd)
    · show s.heap.Ns f.fd.globals C.mg
      rw [hgl]; exact C.T.g.keeps R.keepsB
    · show s.heap.Ns f.fd.builtins C.mb
      rw [hbl]; exact C.T.b.keeps R.keepsB
    · exact callM_ev (first := []) hk h he hpl rm R lc .nil
theorem OpC_len_list {a : Addr} {xs : List MV} (hσ : σ a = some (.list xs)) (hb : xs.length ≤ 1000000) (q : Q (.int xs.length) σ) : OpC C k (.builtin "len") [.ref a] σ Q X := fun A env L m frs g s vs rm R vr => by
  obtain ⟨v, vs', rfl, h1, h2⟩ := vr.inv
  rw [h2.inv_nil, h1.refI]
  obtain ⟨ws, n, e, vw⟩ := list_at R hσ
  refine Calls.call_len_list (isList_of e) (by rw [List.size_toArray, vw.length]; omega) ?_
  rw [List.size_toArray, vw.length]
  exact .mk (R.toks _) (.int ..) q
theorem OpC_len_tup {xs : List MV} (hb : xs.length ≤ 1000000) (q : Q (.int xs.length) σ) : OpC C k (.builtin "len") [.tup xs] σ Q X := fun A env L m frs g s vs rm R vr => by
  obtain ⟨v, vs', rfl, h1, h2⟩ := vr.inv
  obtain ⟨a, ws, o, n, rfl, hg, hc, hd, vw⟩ := h1.tupI
  rw [h2.inv_nil]
  refine len_tuple (isTup_of (R.keep _ _ hg) hc hd) (by rw [List.size_toArray, vw.length]; omega) ?_
  rw [List.size_toArray, vw.length]
  exact .mk (R.toks _) (.int ..) q
theorem OpC_int {i : Int} (q : Q (.int i) σ) : OpC C k (.type "int") [.int i] σ Q X := fun A env L m frs g s vs rm R vr => by
  obtain ⟨v, vs', rfl, h1, h2⟩ := vr.inv
  obtain ⟨t, rfl⟩ := h1.intI
  rw [h2.inv_nil]
  exact call_int_int (.mk R (.int ..) q)
/-! ### a list's methods -/
theorem kl_methodR {σ : Sto} {a : Addr} {xs : List MV} {name : Str} {id : String} {pl : Sem Bool} {W : Value × List Value → Shared → Prop} {E : Value → Shared → Prop} {A : Around} (hσ : σ a = some (.list xs)) (R : Rel C g σ ((env, L, m) :: frs) s) (slot : Slot "list" name id) (hty : typeOf (.builtin id) = pure (.type "method_descriptor"))
    (h : W (.builtin id, [.ref a]) s) : wpAny C.M A (getMethod (.ref a) name pl) W E s := by
  obtain ⟨ws, n, e, vw⟩ := list_at R hσ
  obtain ⟨pre, post, e', _, _⟩ := R.split hσ e
  exact kl_method (R.N L) (by rw [e']; exact List.mem_append_right _ (.head _)) slot hty h
theorem OpC_append {a : Addr} {xs : List MV} {x : MV} (hσ : σ a = some (.list xs)) (hb : xs.length ≤ 1000000) (q : Q .none (σ.set a (.list (xs ++ [x])))) : OpC C k (.builtin "list.append") [.ref a, x] σ Q X := fun A env L m frs g s vs rm R vr => by
  obtain ⟨v, vs', rfl, h1, h2⟩ := vr.inv
  obtain ⟨w, vs'', rfl, h3, h4⟩ := h2.inv
  rw [h4.inv_nil, h1.refI]
  obtain ⟨ws, n, e, vw⟩ := list_at R hσ
  obtain ⟨pre, post, e', p1, p2⟩ := R.split hσ e
  have N := R.N L
  rw [e'] at N
  refine append_K R.F N (upd_of p1 p2) (fun h' F' N' => ?_) (by rw [List.size_toArray, vw.length, sizeLine_eq]; omega)
  refine ⟨.none, g, _, .refl g, R.ofUpd (mo' := .list (xs ++ [x])) hσ e' F' N' (fun e'' => ⟨ws ++ [w], n + 1, ?_, vw.append (.one h3)⟩) s.toks, .none, q⟩
  rw [e'', List.push_toArray]
theorem OpC_pop {a : Addr} {xs : List MV} {x : MV} (hσ : σ a = some (.list (xs ++ [x]))) (hb : xs.length ≤ 1000000) (q : Q x (σ.set a (.list xs))) : OpC C k (.builtin "list.pop") [.ref a] σ Q X := fun A env L m frs g s vs rm R vr => by
  obtain ⟨v, vs', rfl, h1, h2⟩ := vr.inv
  rw [h2.inv_nil, h1.refI]
  obtain ⟨ws, n, e, vw⟩ := list_at R hσ
  obtain ⟨pre, post, e', p1, p2⟩ := R.split hσ e
  have N := R.N L
  rw [e'] at N
  obtain ⟨us, y, rfl, vu, vy⟩ : ∃ us y, ws = us ++ [y] ∧ VRs g xs us ∧ VR g x y := vw.snoc
  refine kl_pop (p := us) (y := y) R.F N (by rw [List.toList_toArray]; exact kpa_last y us) (upd_of p1 p2) (by rw [List.toList_toArray, List.length_append, vu.length, sizeLine_eq]; simp; omega) (fun h' F' N' => ?_)
  exact ⟨x, g, _, .refl g, R.ofUpd (mo' := .list xs) hσ e' F' N' (fun e'' => ⟨us, n + 1, e'', vu⟩) s.toks, vy, q⟩
/-- a call of a list's method -/
theorem EV_lmeth {o : Expr} {name : Str} {id : String} {apos pos : Pos} {e : Expr} {r : List Expr} (slot : Slot "list" name id) (hty : typeOf (.builtin id) = pure (.type "method_descriptor"))
    (h : EV C k f o ρ σ (fun ov σ₁ => ∃ a xs, ov = .ref a ∧ σ₁ a = some (.list xs) ∧ AV C k f (e :: r) ρ σ₁ (fun as σ₂ => OpC C k (.builtin id) (.ref a :: as) σ₂ Q X) X) X)
    (hb : ∀ env whole, attributeBase o name env whole = whole) (hline : (apos.endLine == pos.line) = true) (hfew : ∀ env, methodCallForm ((e :: r).length + 0) (backTo pos (starEach (e :: r) env)) (backToKw pos (keywordEach [] env)) = true)
    (he : ∀ env, starEach (e :: r) env = (false, eval e env) :: starEach r env) (hpl : ∀ env pos, (backTo pos (starEach r env)).any (·.1) = false) : EV C k f (.Call (.Attribute o name apos) (e :: r) [] pos) ρ σ Q X :=
  fun A L m frs g s rm R lc => by
    refine wp_call_attr (hb _) (hfew _) hline (h.then rm R lc (fun _ _ z => z) fun ov g₁ σ₁ va s₁ e₁ R₁ l₁ r₁ q₁ => ?_)
    obtain ⟨a, xs, rfl, h1, h2⟩ := q₁
    rw [r₁.refI]
    intro pl
    refine kl_methodR h1 R₁ slot hty ?_
    exact wpAny_mono (callM_ev (first := [.ref a]) (mach_builtin _) h2 he hpl rm R₁ l₁ (.one (.ref a))) (fun _ _ z => z.ext e₁) fun _ _ z => z.ext e₁
theorem EV_lmeth0 {o : Expr} {name : Str} {id : String} {apos pos : Pos} (slot : Slot "list" name id) (hty : typeOf (.builtin id) = pure (.type "method_descriptor"))
    (h : EV C k f o ρ σ (fun ov σ₁ => ∃ a xs, ov = .ref a ∧ σ₁ a = some (.list xs) ∧ OpC C k (.builtin id) [.ref a] σ₁ Q X) X)
    (hb : ∀ env whole, attributeBase o name env whole = whole) (hline : (apos.endLine == pos.line) = true) : EV C k f (.Call (.Attribute o name apos) [] [] pos) ρ σ Q X :=
  fun A L m frs g s rm R lc => by
    refine wp_call_attr (hb _) rfl hline (h.then rm R lc (fun _ _ z => z) fun ov g₁ σ₁ va s₁ e₁ R₁ l₁ r₁ q₁ => ?_)
    obtain ⟨a, xs, rfl, h1, h2⟩ := q₁
    rw [r₁.refI]
    intro pl
    refine kl_methodR h1 R₁ slot hty ?_
    exact wpAny_mono (callM_ev0 (first := [.ref a]) (mach_builtin _) h2 rm R₁ (.one (.ref a))) (fun _ _ z => z.ext e₁) fun _ _ z => z.ext e₁
theorem UB_list {a : Addr} {xs : List MV} (hσ : σ a = some (.list xs)) (hb : xs.length ≤ 1000000) (q : QB (!xs.isEmpty) σ) : UB C k (.ref a) σ QB X := fun A env L m frs g s va rm R ha => by
  rw [ha.refI]
  obtain ⟨ws, n, e, vw⟩ := list_at R hσ
  refine wpAny_truthy_list (isList_of e) (by rw [List.size_toArray, vw.length]; omega) ?_
  have : ws.toArray.isEmpty = xs.isEmpty := by
    rw [List.isEmpty_toArray]
    have := vw.length
    cases ws <;> cases xs <;> simp_all
  rw [this]
  exact .mk (R.toks _) q
theorem SV_Expr {e : Expr} {pos : Pos} (h : EV C k f e ρ σ (fun v σ' => QS .next ρ σ') (fun d σ' => XS d ρ σ')) (hi : ∀ L, interactive (f.env L) = false) (hs : ∀ env, swapsWith e none pos.line env = pure false) : SV1 C k f (.Expr e pos) ρ σ QS XS :=
  fun A L m frs g s rm R lc => wpAny_Expr_any (hi := hi L) (hs := hs _) (h.then rm R lc (fun _ _ z => z.toS lc fun _ _ q => q) fun mv g' σ' v s' x R' l' vr q => ⟨.next, ρ, m, g', σ', x, R', l', rfl, q⟩)
end
end Mine
end
section
open PySem PySem.W PySem.Calls PyProof.Rows PySem.Challenge

namespace Mine
/-! ### an object that leaves the stable part -/
noncomputable def Stab.del (g : Stab) (D : Addr) : Stab := fun b => if b = D then none else g b
structure Plain (o : Obj) : Prop where
  tup : o.cls ≠ .type "tuple"
  inst : ∀ c d, o ≠ instObj c d
theorem Stab.del_some {g : Stab} {D a : Addr} {o oD : Obj} (hD : g D = some oD) (h : g a = some o) (ne : oD ≠ o) : g.del D a = some o := by
  unfold Stab.del
  rw [if_neg ?_]
  · exact h
  · rintro rfl; rw [hD] at h; cases h; exact ne rfl
mutual
theorem VR.del {g : Stab} {D : Addr} {oD : Obj} (hD : g D = some oD) (p : Plain oD) : ∀ {mv : MV} {v : Value}, VR g mv v → VR (g.del D) mv v
  | .none, _, h => by simpa only [VR] using h
  | .bool _, _, h => by simpa only [VR] using h
  | .int _, _, h => by simpa only [VR] using h
  | .str _, _, h => by simpa only [VR] using h
  | .tup xs, _, h => by
    simp only [VR] at h ⊢
    obtain ⟨a, vs, o, n, h1, h2, h3, h4, h5⟩ := h
    exact ⟨a, vs, o, n, h1, Stab.del_some hD h2 (by rintro rfl; exact p.tup h3), h3, h4, VRs.del hD p h5⟩
  | .ref _, _, h => by simpa only [VR] using h
  | .inst c a d, _, h => by
    simp only [VR] at h ⊢
    exact ⟨h.1, Stab.del_some hD h.2 (p.inst c d)⟩
theorem VRs.del {g : Stab} {D : Addr} {oD : Obj} (hD : g D = some oD) (p : Plain oD) : ∀ {xs : List MV} {vs : List Value}, VRs g xs vs → VRs (g.del D) xs vs
  | [], _, h => by simpa only [VRs] using h
  | _ :: _, _, h => by
    simp only [VRs] at h ⊢
    obtain ⟨v, vs', h1, h2, h3⟩ := h
    exact ⟨v, vs', h1, VR.del hD p h2, VRs.del hD p h3⟩
end
section
variable {C : Cx} {k : Nat} {f : FI} {ρ : Env1} {σ : Sto} {X : ExcP} {XS : ExcS} {Q : MV → Sto → Prop} {QB : Bool → Sto → Prop} {QS : MF → Env1 → Sto → Prop} {g : Stab} {env : Env} {L : Addr} {m : Str → Option Value} {frs : List Frm} {s : Shared}
theorem NsR.del {P : Params} {D : Addr} {oD : Obj} (hD : g D = some oD) (p : Plain oD) : ∀ {es : List DictEntry} {fs : List (Str × MV)}, NsR P g es fs → NsR P (g.del D) es fs
  | [], _, h => h
  | _ :: _, _, ⟨y, mv, fs', t, v, h1, h2, h3, h4⟩ => ⟨y, mv, fs', t, v, h1, h2, h3.del hD p, h4.del hD p⟩
theorem KR.del {K : Type} {D : Addr} {oD : Obj} (hD : g D = some oD) (p : Plain oD) : ∀ {kvs : List (K × MV)} {vs : List (K × Value)}, KR g kvs vs → KR (g.del D) kvs vs
  | [], _, h => h
  | _ :: _, _, ⟨v, vs', h1, h2, h3⟩ => ⟨v, vs', h1, h2.del hD p, h3.del hD p⟩
theorem TR.del {D : Addr} {oD : Obj} (hD : g D = some oD) (p : Plain oD) : ∀ {kvs : List (List Int × MV)} {vs : List (List Int × Addr × Value)}, TR g kvs vs → TR (g.del D) kvs vs
  | [], _, h => h
  | _ :: _, _, ⟨a, v, vs', h1, h2, h3⟩ => ⟨a, v, vs', h1, h2.del hD p, h3.del hD p⟩
theorem ObjAt.del {w : World} {D : Addr} {oD : Obj} (hD : g D = some oD) (p : Plain oD) {h : Heap} {a : Addr} : ∀ {mo : MObj}, ObjAt w g h a mo → ObjAt w (g.del D) h a mo
  | .list _, ⟨vs, n, e, r⟩ => ⟨vs, n, e, r.del hD p⟩
  | .ns _, ⟨vs, n, e, r⟩ => ⟨vs, n, e, r.del hD p⟩
  | .dI _, ⟨o, vs, e, d, r⟩ => ⟨o, vs, e, d, r.del hD p⟩
  | .dS _, ⟨o, vs, e, d, r⟩ => ⟨o, vs, e, d, r.del hD p⟩
  | .dT _, ⟨o, es, ep, xs, e, d1, d2, d3, d4, d5, r⟩ => ⟨o, es, ep, xs, e, d1, d2, d3, (fun x hx => by
      obtain ⟨to, items, n, a, b, c⟩ := d4 x hx
      exact ⟨to, items, n, Stab.del_some hD a (by rintro rfl; exact p.tup b), b, c⟩), d5, r.del hD p⟩
  | .exc _, h => h
theorem Loc.del {D : Addr} {oD : Obj} (hD : g D = some oD) (p : Plain oD) (l : Loc g ρ m) : Loc (g.del D) ρ m := fun q hq => let ⟨v, a, b⟩ := l q hq; ⟨v, a, b.del hD p⟩
theorem Rel.del {frs : List Frm} (R : Rel C g σ frs s) {D : Addr} {oD : Obj} (hD : g D = some oD) (p : Plain oD) (hb : C.h₁.get? D = none) : Rel C (g.del D) σ frs s := by
  refine ⟨fun a o e => ?_, fun a o e => R.keep a o ?_, fun a mo e => ⟨?_, (R.objs a mo e).2.del hD p⟩, R.frs.to (fun _ _ _ z => z) (fun q hq z => ?_) fun _ _ z => z, R.gens, R.os⟩
  · unfold Stab.del
    rw [if_neg ?_]
    · exact R.base a o e
    · rintro rfl; rw [hb] at e; cases e
  · unfold Stab.del at e
    split at e
    · cases e
    · exact e
  · unfold Stab.del
    split
    · rfl
    · exact (R.objs a mo e).1
  · unfold Stab.del
    split
    · rfl
    · exact z
theorem Ext.del {g g' : Stab} {D : Addr} (x : Ext g g') (h : g D = none) : Ext g (g'.del D) := fun a o e => by
  unfold Stab.del
  rw [if_neg ?_]
  · exact x a o e
  · rintro rfl; rw [h] at e; cases e
theorem Rel.notMods {frs : List Frm} (R : Rel C g σ frs s) {d : Addr} {mo : MObj} (h : σ d = some mo) : (d == sysModules) = false := by
  rw [beq_eq_false_iff_ne]
  rintro rfl
  have e : C.KK.lookup sysModules = some (boot_o_1 C.w.params) := by kernel_rfl
  have := (R.objs _ _ h).1
  rw [R.base _ _ (C.K _ _ e)] at this
  cases this
theorem Rel.inRest (R : Rel C g σ ((env, L, m) :: frs) s) {D : Addr} {mo : MObj} {o : Obj} (hD : σ D = some mo) (ho : s.heap.get? D = some o) : (D, o) ∈ restOf C.h₁ L s.heap := by
  obtain ⟨pre, post, e, _, _⟩ := R.split hD ho
  rw [e]; exact List.mem_append_right _ (.head _)
/-! ### dicts -/
noncomputable def lookK {K : Type} [DecidableEq K] (kvs : List (K × MV)) (k : K) : Option MV := (kvs.find? fun p => p.1 = k).map (·.2)
theorem KR.look {K : Type} [DecidableEq K] {k : K} : ∀ {kvs : List (K × MV)} {vs : List (K × Value)}, KR g kvs vs → match lookK kvs k with
    | some mv => ∃ v, valueAt vs k = some v ∧ VR g mv v
    | none => valueAt vs k = none
  | [], vs, h => by rw [show vs = [] from h]; rfl
  | (j, mv) :: r, vs, h => by
    obtain ⟨v, vs', rfl, h1, h2⟩ := h
    by_cases e : j = k
    · subst e
      have a : lookK ((j, mv) :: r) j = some mv := by simp [lookK]
      have b : valueAt ((j, v) :: vs') j = some v := by simp [valueAt]
      rw [a]; exact ⟨v, b, h1⟩
    · have a : lookK ((j, mv) :: r) k = lookK r k := by simp [lookK, e]
      have b : valueAt ((j, v) :: vs') k = valueAt vs' k := by simp [valueAt, e]
      rw [a, b]; exact h2.look
theorem KR.lookD {K : Type} [DecidableEq K] {k : K} {kvs : List (K × MV)} {vs : List (K × Value)} (h : KR g kvs vs) {d : MV} {dv : Value} (hd : VR g d dv) : VR g ((lookK kvs k).getD d) ((valueAt vs k).getD dv) := by
  have z := h.look (k := k)
  cases q : lookK kvs k with
  | none => rw [q] at z; rw [z]; exact hd
  | some mv => rw [q] at z; obtain ⟨v, a, b⟩ := z; rw [a]; exact b
theorem KR.isSome {K : Type} [DecidableEq K] {k : K} {kvs : List (K × MV)} {vs : List (K × Value)} (h : KR g kvs vs) : (valueAt vs k).isSome = (lookK kvs k).isSome := by
  have z := h.look (k := k)
  cases q : lookK kvs k with
  | none => rw [q] at z; rw [show valueAt vs k = none from z]; rfl
  | some mv => rw [q] at z; obtain ⟨v, a, b⟩ := z; rw [a]; rfl
theorem KR.length {K : Type} : ∀ {kvs : List (K × MV)} {vs : List (K × Value)}, KR g kvs vs → vs.length = kvs.length
  | [], vs, h => by rw [show vs = [] from h]; rfl
  | (_, _) :: _, _, ⟨v, vs', h1, _, h3⟩ => by rw [h1, List.length_cons, List.length_cons, h3.length]
noncomputable def storeK {K : Type} [DecidableEq K] (kvs : List (K × MV)) (k : K) (v : MV) : List (K × MV) :=
  if kvs.any (fun kv => kv.1 = k) then kvs.map (fun kv => if kv.1 = k then (kv.1, v) else kv) else kvs ++ [(k, v)]
theorem KR.any {K : Type} [DecidableEq K] {k : K} : ∀ {kvs : List (K × MV)} {vs : List (K × Value)}, KR g kvs vs → vs.any (fun kv => kv.1 = k) = kvs.any (fun kv => kv.1 = k)
  | [], vs, h => by rw [show vs = [] from h]; rfl
  | (_, _) :: _, _, ⟨v, vs', h1, _, h3⟩ => by rw [h1, List.any_cons, List.any_cons, h3.any]
theorem KR.map {K : Type} [DecidableEq K] {k : K} {mv : MV} {v : Value} (hv : VR g mv v) : ∀ {kvs : List (K × MV)} {vs : List (K × Value)}, KR g kvs vs → KR g (kvs.map fun kv => if kv.1 = k then (kv.1, mv) else kv) (vs.map fun kv => if kv.1 = k then (kv.1, v) else kv)
  | [], vs, h => by rw [show vs = [] from h]; exact rfl
  | (j, _) :: _, _, ⟨w, vs', h1, h2, h3⟩ => by
    subst h1
    rw [List.map_cons, List.map_cons]
    by_cases e : j = k
    · simp only [e, if_true]; exact ⟨v, _, rfl, hv, KR.map hv h3⟩
    · simp only [e, if_false]; exact ⟨w, _, rfl, h2, KR.map hv h3⟩
theorem KR.snoc {K : Type} {k : K} {mv : MV} {v : Value} (hv : VR g mv v) : ∀ {kvs : List (K × MV)} {vs : List (K × Value)}, KR g kvs vs → KR g (kvs ++ [(k, mv)]) (vs ++ [(k, v)])
  | [], vs, h => by rw [show vs = [] from h]; exact ⟨v, [], rfl, hv, rfl⟩
  | (j, _) :: _, _, ⟨w, vs', h1, h2, h3⟩ => by subst h1; exact ⟨w, _, rfl, h2, KR.snoc hv h3⟩
theorem KR.store {K : Type} [DecidableEq K] {k : K} {mv : MV} {v : Value} (hv : VR g mv v) {kvs : List (K × MV)} {vs : List (K × Value)} (h : KR g kvs vs) : KR g (storeK kvs k mv) (stored vs k v) := by
  unfold storeK stored
  rw [h.any]
  split
  · exact h.map hv
  · exact h.snoc hv
theorem intIs (w : World) (i : Int) (t : Tok) : (intKind pw_sa0154_01 w).is i (.int i t) = true := intKind_is _ _ _ _
theorem strIs (w : World) (i : Str) (t : Tok) : (strKind pw_sa0154_01 w).is i (.str i t) = true := strKind_is _ _ _ _
theorem OpC_get1_I {a : Addr} {i : Int} {kvs : List (Int × MV)} (hσ : σ a = some (.dI kvs)) (q : Q ((lookK kvs i).getD .none) σ) : OpC C k (.builtin "dict.get") [.ref a, .int i] σ Q X := fun A env L m frs g s vs rm R vr => by
  obtain ⟨v, vs', rfl, h1, h2⟩ := vr.inv
  obtain ⟨w, vs'', rfl, h3, h4⟩ := h2.inv
  obtain ⟨t, rfl⟩ := h3.intI
  rw [h4.inv_nil, h1.refI]
  obtain ⟨o, ws, e, d, r⟩ := (R.objs _ _ hσ).2
  exact kdg_get1 (R.N L) (R.inRest hσ e) d (R.notMods hσ) (intIs ..) _ rfl (.mk (R.toks _) (r.lookD .none) q)
theorem OpC_get2_S {a : Addr} {i : Str} {d₀ : MV} {kvs : List (Str × MV)} (hσ : σ a = some (.dS kvs)) (q : Q ((lookK kvs i).getD d₀) σ) : OpC C k (.builtin "dict.get") [.ref a, .str i, d₀] σ Q X := fun A env L m frs g s vs rm R vr => by
  obtain ⟨v, vs', rfl, h1, h2⟩ := vr.inv
  obtain ⟨w, vs'', rfl, h3, h4⟩ := h2.inv
  obtain ⟨x, vs₃, rfl, h5, h6⟩ := h4.inv
  obtain ⟨t, rfl⟩ := h3.strI
  rw [h6.inv_nil, h1.refI]
  obtain ⟨o, ws, e, d, r⟩ := (R.objs _ _ hσ).2
  exact kdg_get2 (R.N L) (R.inRest hσ e) d (R.notMods hσ) (strIs ..) _ rfl (.mk (R.toks _) (r.lookD h5) q)
theorem BV_in_I {a : Addr} {i : Int} {kvs : List (Int × MV)} (hσ : σ a = some (.dI kvs)) (q : Q (.bool (lookK kvs i).isSome) σ) : BV C k (compareOp .In) (.int i) (.ref a) σ Q X := fun A env L m frs g s va vb rm R ha hb => by
  obtain ⟨t, rfl⟩ := ha.intI
  rw [hb.refI]
  obtain ⟨o, ws, e, d, r⟩ := (R.objs _ _ hσ).2
  exact kda_in (R.N L) (R.inRest hσ e) d (R.notMods hσ) (intIs ..) _ (r.isSome) (.mk (R.toks _) (.bool _) q)
/-- a store by a key -/
noncomputable def SetI (C : Cx) (k : Nat) (o i b : MV) (σ : Sto) (P : Sto → Prop) (X : ExcP) : Prop :=
  ∀ A env L m frs g s vo vi vb, Room A k ((env, L, m) :: frs) → Rel C g σ ((env, L, m) :: frs) s → VR g o vo → VR g i vi → VR g b vb →
    wpAny C.M A (setItem vo vi vb) (fun _ s' => ∃ g' σ', Ext g g' ∧ Rel C g' σ' ((env, L, m) :: frs) s' ∧ P σ') (PostX C g ((env, L, m) :: frs) X) s
theorem updF_of {D : Addr} {o : Obj} : ∀ {pre post : List (Addr × Obj)}, (∀ p ∈ pre, p.1 ≠ D) → (∀ p ∈ post, p.1 ≠ D) → UpdF D o (pre ++ (D, o) :: post) (fun o' => pre ++ (D, o') :: post)
  | [], _, _, h2 => .head h2
  | p :: _, _, h1, h2 => .tail (h1 p (.head _)) (updF_of (fun q hq => h1 q (.tail _ hq)) h2)
theorem SetI_I {a : Addr} {i : Int} {b : MV} {kvs : List (Int × MV)} {P : Sto → Prop} (hσ : σ a = some (.dI kvs)) (hl : kvs.length ≤ 1000000) (q : P (σ.set a (.dI (storeK kvs i b)))) : SetI C k (.ref a) (.int i) b σ P X :=
  fun A env L m frs g s vo vi vb rm R ra ri rb => by
    rw [ra.refI]
    obtain ⟨t, rfl⟩ := ri.intI
    obtain ⟨o, ws, e, d, r⟩ := (R.objs _ _ hσ).2
    obtain ⟨pre, post, e', p1, p2⟩ := R.split hσ e
    have N := R.N L
    rw [e'] at N
    refine kda_set R.F N (updF_of p1 p2) d (intIs ..) (by rw [r.length, sizeLine_eq]; omega) fun h' o' F' N' d' => ?_
    exact ⟨g, _, .refl g, R.ofUpd (mo' := .dI (storeK kvs i b)) hσ e' F' N' (fun e'' => ⟨o', _, e'', d', r.store rb⟩) _, q⟩
theorem SetI_S {a : Addr} {i : Str} {b : MV} {kvs : List (Str × MV)} {P : Sto → Prop} (hσ : σ a = some (.dS kvs)) (hl : kvs.length ≤ 1000000) (q : P (σ.set a (.dS (storeK kvs i b)))) : SetI C k (.ref a) (.str i) b σ P X :=
  fun A env L m frs g s vo vi vb rm R ra ri rb => by
    rw [ra.refI]
    obtain ⟨t, rfl⟩ := ri.strI
    obtain ⟨o, ws, e, d, r⟩ := (R.objs _ _ hσ).2
    obtain ⟨pre, post, e', p1, p2⟩ := R.split hσ e
    have N := R.N L
    rw [e'] at N
    refine kda_set R.F N (updF_of p1 p2) d (strIs ..) (by rw [r.length, sizeLine_eq]; omega) fun h' o' F' N' d' => ?_
    exact ⟨g, _, .refl g, R.ofUpd (mo' := .dS (storeK kvs i b)) hσ e' F' N' (fun e'' => ⟨o', _, e'', d', r.store rb⟩) _, q⟩
theorem SV_setitem {o i e : Expr} {p' pos : Pos} (h : EV C k f e ρ σ (fun b σ₁ => EV C k f o ρ σ₁ (fun a σ₂ => EV C k f i ρ σ₂ (fun j σ₃ => SetI C k a j b σ₃ (fun σ₄ => QS .next ρ σ₄) (fun d σ' => XS d ρ σ')) (fun d σ' => XS d ρ σ')) (fun d σ' => XS d ρ σ')) (fun d σ' => XS d ρ σ'))
    (hs : ∀ env, swapsWith e (some (.Subscript o i p')) pos.line env = pure false) : SV1 C k f (.Assign [.Subscript o i p'] e pos) ρ σ QS XS :=
  fun A L m frs g s rm R lc => by
    refine wpAny_Assign_Subscript (hs := hs _) (h.then rm R lc (fun _ _ z => z.toS lc fun _ _ q => q) fun mb g₁ σ₁ vb s₁ e₁ R₁ l₁ r₁ q₁ => ?_)
    refine q₁.then rm R₁ l₁ (fun _ _ z => (z.toS l₁ fun _ _ q => q).ext e₁) fun ma g₂ σ₂ va s₂ e₂ R₂ l₂ r₂ q₂ => ?_
    refine q₂.then rm R₂ l₂ (fun _ _ z => (z.toS l₂ fun _ _ q => q).ext (e₁.trans e₂)) fun mj g₃ σ₃ vj s₃ e₃ R₃ l₃ r₃ q₃ => ?_
    refine wpAny_mono (q₃ _ _ _ _ _ _ _ _ _ _ rm R₃ (r₂.mono e₃) r₃ (r₁.mono (e₂.trans e₃))) (fun _ s' z => ?_) fun _ _ z => (z.toS l₃ fun _ _ q => q).ext ((e₁.trans e₂).trans e₃)
    obtain ⟨g', σ', x', R', q⟩ := z
    exact ⟨.next, ρ, m, g', σ', ((e₁.trans e₂).trans e₃).trans x', R', l₃.mono x', rfl, q⟩
/-- a call of a dict's get -/
theorem EV_dget {o : Expr} {apos pos : Pos} {e : Expr} {r : List Expr}
    (h : EV C k f o ρ σ (fun ov σ₁ => ∃ a, ov = .ref a ∧ ((∃ kvs, σ₁ a = some (.dI kvs)) ∨ (∃ kvs, σ₁ a = some (.dS kvs))) ∧ AV C k f (e :: r) ρ σ₁ (fun as σ₂ => OpC C k (.builtin "dict.get") (.ref a :: as) σ₂ Q X) X) X)
    (hb : ∀ env whole, attributeBase o "get" env whole = whole) (hline : (apos.endLine == pos.line) = true) (hfew : ∀ env, methodCallForm ((e :: r).length + 0) (backTo pos (starEach (e :: r) env)) (backToKw pos (keywordEach [] env)) = true)
    (he : ∀ env, starEach (e :: r) env = (false, eval e env) :: starEach r env) (hpl : ∀ env pos, (backTo pos (starEach r env)).any (·.1) = false) : EV C k f (.Call (.Attribute o "get" apos) (e :: r) [] pos) ρ σ Q X :=
  fun A L m frs g s rm R lc => by
    refine wp_call_attr (hb _) (hfew _) hline (h.then rm R lc (fun _ _ z => z) fun ov g₁ σ₁ va s₁ e₁ R₁ l₁ r₁ q₁ => ?_)
    obtain ⟨a, rfl, h1, h2⟩ := q₁
    rw [r₁.refI]
    intro pl
    have fin := wpAny_mono (callM_ev (pos := pos) (first := [.ref a]) (mach_builtin _) h2 he hpl rm R₁ l₁ (.one (.ref a))) (fun _ _ z => z.ext e₁) fun _ _ z => z.ext e₁
    rcases h1 with ⟨kvs, h1⟩ | ⟨kvs, h1⟩
    · obtain ⟨o, ws, e', d, r⟩ := (R₁.objs _ _ h1).2
      exact kdg_method (R₁.N L) (R₁.inRest h1 e') d fin
    · obtain ⟨o, ws, e', d, r⟩ := (R₁.objs _ _ h1).2
      exact kdg_method (R₁.N L) (R₁.inRest h1 e') d fin
end
end Mine
end
section
open PySem PySem.W PySem.Calls PyProof.Rows PySem.Challenge

namespace Mine
section
variable {C : Cx} {k : Nat} {f : FI} {ρ : Env1} {σ : Sto} {X : ExcP} {XS : ExcS} {Q : MV → Sto → Prop} {QB : Bool → Sto → Prop} {QS : MF → Env1 → Sto → Prop} {g : Stab} {env : Env} {L : Addr} {m : Str → Option Value} {frs : List Frm} {s : Shared}
/-! ### a dict by pairs of ints -/
noncomputable def tupI (l : List Int) : MV := .tup (l.map MV.int)
theorem itemsAre {w : World} : ∀ {l : List Int} {vs : List Value}, VRs g (l.map MV.int) vs → ItemsAre (intKind pw_sa0154_01 w) l vs
  | [], vs, h => by rw [h.inv_nil]; exact .nil
  | i :: l, vs, h => by
    rw [List.map_cons] at h
    obtain ⟨v, vs', rfl, h1, h2⟩ := h.inv
    obtain ⟨t, rfl⟩ := h1.intI
    exact .cons (intIs ..) (itemsAre h2)
theorem tupKey {frs : List Frm} (R : Rel C g σ frs s) {l : List Int} {v : Value} (h : VR g (tupI l) v) : ∃ a, v = .ref a ∧ IsTupleKey (intKind Pw C.w) s.heap l a ∧ ∃ o items n, g a = some o ∧ o.cls = .type "tuple" ∧ o.data = .seq items n ∧ ItemsAre (intKind Pw C.w) l items.toList := by
  obtain ⟨a, vs, o, n, rfl, h1, h2, h3, h4⟩ := h.tupI
  exact ⟨a, rfl, ⟨o, _, n, R.keep _ _ h1, h2, h3, itemsAre h4⟩, ⟨o, _, n, h1, h2, h3, itemsAre h4⟩⟩
theorem TR.look {k : List Int} : ∀ {kvs : List (List Int × MV)} {vs : List (List Int × Addr × Value)}, TR g kvs vs → match lookK kvs k with
    | some mv => ∃ v, (atKey vs k).map (·.2) = some v ∧ VR g mv v
    | none => atKey vs k = none
  | [], vs, h => by rw [show vs = [] from h]; rfl
  | (j, mv) :: r, vs, h => by
    obtain ⟨a, v, vs', rfl, h1, h2⟩ := h
    by_cases e : j = k
    · subst e
      have x : lookK ((j, mv) :: r) j = some mv := by simp [lookK]
      have y : atKey ((j, a, v) :: vs') j = some (a, v) := by simp [atKey]
      rw [x]; exact ⟨v, by rw [y]; rfl, h1⟩
    · have x : lookK ((j, mv) :: r) k = lookK r k := by simp [lookK, e]
      have y : atKey ((j, a, v) :: vs') k = atKey vs' k := by simp [atKey, e]
      rw [x, y]; exact h2.look
theorem TR.length : ∀ {kvs : List (List Int × MV)} {vs : List (List Int × Addr × Value)}, TR g kvs vs → vs.length = kvs.length
  | [], vs, h => by rw [show vs = [] from h]; rfl
  | (_, _) :: _, _, ⟨a, v, vs', h1, _, h3⟩ => by rw [h1, List.length_cons, List.length_cons, h3.length]
theorem TR.snoc {k : List Int} {a : Addr} {mv : MV} {v : Value} (hv : VR g mv v) : ∀ {kvs : List (List Int × MV)} {vs : List (List Int × Addr × Value)}, TR g kvs vs → TR g (kvs ++ [(k, mv)]) (vs ++ [(k, a, v)])
  | [], vs, h => by rw [show vs = [] from h]; exact ⟨a, v, [], rfl, hv, rfl⟩
  | (j, _) :: _, _, ⟨b, w, vs', h1, h2, h3⟩ => by subst h1; exact ⟨b, w, _, rfl, h2, TR.snoc hv h3⟩
theorem dictT_at {frs : List Frm} {a : Addr} {kvs : List (List Int × MV)} (R : Rel C g σ frs s) (h : σ a = some (.dT kvs)) : ∃ o es ep xs, s.heap.get? a = some o ∧ o.ExactDict ∧ o.data = .dict es ep ∧ es.toList = xs.map (entryOfKey (tkind C.w)) ∧ TKeys C.w g xs ∧ (xs.map (·.1)).Nodup ∧ TR g kvs xs := (R.objs _ _ h).2
theorem dictT_H {frs : List Frm} {a : Addr} {o : Obj} {es : Array DictEntry} {ep : Nat} {xs : List (List Int × Addr × Value)} (R : Rel C g σ frs s) (e : s.heap.get? a = some o) (h1 : o.ExactDict) (h2 : o.data = .dict es ep) (h3 : es.toList = xs.map (entryOfKey (tkind C.w))) (h4 : TKeys C.w g xs) (h5 : (xs.map (·.1)).Nodup) :
    s.heap.DictOfH (tkind C.w) a xs := ⟨o, es, ep, e, h1, h2, h3, fun x hx => by
      obtain ⟨to, items, n, a1, a2, a3, a4⟩ := h4 x hx
      exact ⟨to, items, n, R.keep _ _ a1, a2, a3, a4⟩, h5⟩
theorem EV_dgetT {o : Expr} {apos pos : Pos} {e₁ e₂ : Expr}
    (h : EV C k f o ρ σ (fun ov σ₁ => ∃ a kvs₁, ov = MV.ref a ∧ σ₁ a = some (.dT kvs₁) ∧ EV C k f e₁ ρ σ₁ (fun key σ₂ => EV C k f e₂ ρ σ₂ (fun d σ₃ => ∃ l kvs, key = tupI l ∧ σ₃ a = some (.dT kvs) ∧ Q ((lookK kvs l).getD d) σ₃) X) X) X)
    (hb : ∀ env whole, attributeBase o "get" env whole = whole) (hline : (apos.endLine == pos.line) = true) (hfew : ∀ env, methodCallForm ([e₁, e₂].length + 0) (backTo pos (starEach [e₁, e₂] env)) (backToKw pos (keywordEach [] env)) = true)
    (ht : ∀ env, backTo pos (starEach [e₁, e₂] env) = [(false, eval e₁ env), (false, eval e₂ env)]) : EV C k f (.Call (.Attribute o "get" apos) [e₁, e₂] [] pos) ρ σ Q X :=
  fun A L m frs g s rm R lc => by
    refine wp_call_attr (hb _) (hfew _) hline (h.then rm R lc (fun _ _ z => z) fun ov g₁ σ₁ va s₁ x₁ R₁ l₁ r₁ q₁ => ?_)
    obtain ⟨a, kvs₁, rfl, ha, q₁⟩ := q₁
    rw [r₁.refI]
    intro pl
    obtain ⟨o', es, ep, xs, e, d1, d2, d3, d4, d5, d6⟩ := dictT_at R₁ ha
    refine getMethod_builtin ⟨_, e, d1.1⟩ PySem.F.plainAttrs_dict PySem.F.slot_dict_get PySem.F.type_dict_get (fun a' e' => by cases e'; exact ⟨o', e, d1.2.1⟩) ?_
    rw [ht]
    refine wpAny_dict_get2_heap (knd := tkind C.w) ?_ (R₁.notMods ha) (q₁.then rm R₁ l₁ (fun _ _ z => z.ext x₁) fun key g₂ σ₂ vk s₂ x₂ R₂ l₂ r₂ q₂ => ?_)
    · have := rm.units; show A.units + 1 < cLine; rw [show cLine = 9900 from rfl] at *; omega
    refine q₂.then rm R₂ l₂ (fun _ _ z => z.ext (x₁.trans x₂)) fun d g₃ σ₃ vd s₃ x₃ R₃ l₃ r₃ q₃ => ?_
    obtain ⟨l, kvs, rfl, h3, q⟩ := q₃
    obtain ⟨b, rfl, hk, _⟩ := tupKey R₃ (r₂.mono x₃)
    obtain ⟨o₃, es₃, ep₃, xs₃, f0, f1, f2, f3, f4, f5, f6⟩ := dictT_at R₃ h3
    refine ⟨b, l, xs₃, rfl, hk, dictT_H R₃ f0 f1 f2 f3 f4 f5, ?_⟩
    refine PostV.ext ((x₁.trans x₂).trans x₃) (.mk (R₃.toks _) ?_ q)
    have z := f6.look (k := l)
    cases qq : lookK kvs l with
    | none => rw [qq] at z; rw [show atKey xs₃ l = none from z]; exact r₃
    | some mv => rw [qq] at z; obtain ⟨v, z1, z2⟩ := z; rw [z1]; exact z2
theorem SetI_T {a : Addr} {l : List Int} {b : MV} {kvs : List (List Int × MV)} {P : Sto → Prop} (hσ : σ a = some (.dT kvs)) (hn : lookK kvs l = none) (hl : kvs.length ≤ 1000000) (q : P (σ.set a (.dT (kvs ++ [(l, b)])))) : SetI C k (.ref a) (tupI l) b σ P X :=
  fun A env L m frs g s vo vi vb rm R ra ri rb => by
    rw [ra.refI]
    obtain ⟨ka, rfl, hk, hk'⟩ := tupKey R ri
    obtain ⟨o, es, ep, xs, f0, f1, f2, f3, f4, f5, f6⟩ := dictT_at R hσ
    have ha : atKey xs l = none := by have z := f6.look (k := l); rw [hn] at z; exact z
    refine wpAny_setItem_heap (knd := tkind C.w) (k := l) (xs := xs) ?_ hk (dictT_H R f0 f1 f2 f3 f4 f5) (fun h' hd hs => ?_) (by rw [f6.length, sizeLine_eq]; omega)
    · have := rm.units; show A.units + 1 < cLine; rw [show cLine = 9900 from rfl] at *; omega
    rw [storedH_new ha] at hd
    obtain ⟨o', es', ep', e0, e1, e2, e3, e4, e5⟩ := hd
    refine ⟨g, _, .refl g, R.change (mo' := .dT (kvs ++ [(l, b)])) hσ (fun c x h1 _ h3 => (hs.2 c h1).trans h3) ?_ ⟨o', es', ep', _, e0, e1, e2, e3, ?_, e5, f6.snoc rb⟩ _, q⟩
    · have hL : L ≠ a := by rintro rfl; have := R.frs.1.2.2.2.2.2.1; rw [this] at hσ; cases hσ
      exact R.frs.1.2.2.1.sameBut hs hL
    · intro y hy
      rcases List.mem_append.mp hy with hy | hy
      · exact f4 y hy
      · rw [List.mem_singleton] at hy; subst hy; exact hk'
end
end Mine
end
section
open PySem PySem.W PySem.Calls PyProof.Rows PySem.Challenge

namespace Mine
section
variable {C : Cx} {k : Nat} {f : FI} {ρ : Env1} {σ : Sto} {X : ExcP} {XS : ExcS} {Q : MV → Sto → Prop} {QB : Bool → Sto → Prop} {QS : MF → Env1 → Sto → Prop} {g : Stab} {env : Env} {L : Addr} {m : Str → Option Value} {frs : List Frm} {s : Shared}
/-! ### loops -/
theorem Rel.other {frs : List Frm} (R : Rel C g σ frs s) {h' : Heap} {it : Addr} (N : Fresh g σ frs it) (same : Heap.ExtBut it s.heap h') (t : Nat) : Rel C g σ frs { s with heap := h', toks := t } := by
  refine ⟨R.base, fun a o e => same a o ?_ (R.keep a o e), fun a mo e => ⟨(R.objs a mo e).1, (R.objs a mo e).2.at fun o e' => same a o ?_ e'⟩, R.frs.to (fun p hp mm z => z.extBut same (N.f p hp)) (fun _ _ z => z) fun _ _ z => z, R.gens, R.os⟩
  · rintro rfl; rw [N.g] at e; cases e
  · rintro rfl; rw [N.s] at e; cases e
/-- what a walk over a value takes: n items, each known, over stores that S allows -/
structure ItAt (C : Cx) (k : Nat) (it : Addr) (n : Nat) (item : Nat → MV) (S : Sto → Prop) (Kd : Nat → Obj → Prop) (g : Stab) : Prop where
  plain : ∀ i o, Kd i o → Plain o
  step : ∀ i, i < n → ∀ (A : Around) (frs : List Frm) (g' : Stab) (σ' : Sto) (s' : Shared) (o : Obj) (W : Option Value → Shared → Prop) (E : Value → Shared → Prop), (2 ≤ k → A.handled = none) → Ext g g' → Rel C g' σ' frs s' → S σ' → s'.heap.get? it = some o → Kd i o →
    (∀ v h' o' t, VR g' (item i) v → h'.get? it = some o' → Kd (i + 1) o' → Heap.ExtBut it s'.heap h' → W (some v) { s' with heap := h', toks := t }) → wpAny C.M A (pyNext (.ref it)) W E s'
  stop : ∀ (A : Around) (frs : List Frm) (g' : Stab) (σ' : Sto) (s' : Shared) (o : Obj) (W : Option Value → Shared → Prop) (E : Value → Shared → Prop), (2 ≤ k → A.handled = none) → Ext g g' → Rel C g' σ' frs s' → S σ' → s'.heap.get? it = some o → Kd n o →
    (∀ h' t, Heap.ExtBut it s'.heap h' → W none { s' with heap := h', toks := t }) → wpAny C.M A (pyNext (.ref it)) W E s'
/-- a value that a loop may walk over -/
noncomputable def ItV (C : Cx) (k : Nat) (src : MV) (n : Nat) (item : Nat → MV) (S : Sto → Prop) : Prop :=
  ∀ (A : Around) (frs : List Frm) (g : Stab) (σ : Sto) (s : Shared) (v : Value) (W : Value → Shared → Prop) (E : Value → Shared → Prop), Rel C g σ frs s → VR g src v → S σ →
    (∀ it o h' t Kd, s.heap.get? it = none → (∀ b o, s.heap.get? b = some o → h'.get? b = some o) → h'.get? it = some o → Kd 0 o → ItAt C k it n item S Kd g → W (.ref it) { s with heap := h', toks := t }) →
    wpAny C.M A (pyIter v) W E s
theorem plain_cls {o : Obj} {T : String} (h : o.cls = .type T) (ne : T ≠ "tuple") : Plain o := ⟨by rw [h]; intro q; cases q; exact ne rfl, fun c d e => by rw [e] at h; cases h⟩
theorem ItV_list {a : Addr} {xs : List MV} : ItV C (k + 2) (.ref a) xs.length (fun i => xs[i]?.getD .none) (fun σ => σ a = some (.list xs)) := fun A frs g σ s v W E R hv hS h => by
  rw [hv.refI]
  obtain ⟨vs, n, e, vr⟩ := list_at R hS
  refine wpAny_pyIter_list (isList_of e) (h s.heap.objs.size _ _ s.toks (fun i o => o.cls = .type "list_iterator" ∧ o.data = .fields #[.ref a, .int i 0]) (noneAt _) (fun b o e => Heap.get?_push_of_some _ e) (Heap.get?_push_size _ rfl) ⟨rfl, rfl⟩ ⟨fun i o ⟨z, _⟩ => plain_cls z (by decide), ?_, ?_⟩)
  · intro i hi A' frs' g' σ' s' o W' E' hh x R' hS' ho hk hW
    obtain ⟨vs', n', e', vr'⟩ := list_at R' hS'
    obtain ⟨v, hv, r⟩ := vr'.get (List.getElem?_eq_getElem hi)
    refine wpAny_pyNext_list_item (i := i) ⟨o, ho, hk⟩ (isList_of e') (by simpa using hv) fun h' hit hs => ?_
    obtain ⟨o', ho', hk'⟩ := hit
    exact hW v h' o' _ (by rw [List.getElem?_eq_getElem hi]; exact r) ho' hk' hs.extBut
  · intro A' frs' g' σ' s' o W' E' hh x R' hS' ho hk hW
    obtain ⟨vs', n', e', vr'⟩ := list_at R' hS'
    exact wpAny_pyNext_list_end (i := xs.length) (hh (by omega)) ⟨o, ho, hk⟩ (isList_of e') (by simp [vr'.length]) fun h' hs => hW h' _ hs
theorem ItV_tup {xs : List MV} : ItV C (k + 2) (.tup xs) xs.length (fun i => xs[i]?.getD .none) (fun _ => True) := fun A frs g σ s v W E R hv hS h => by
  obtain ⟨a, vs, o, n, rfl, hg, hc, hd, vr⟩ := hv.tupI
  have T : s.heap.IsTuple a vs.toArray := ⟨o, R.keep _ _ hg, hc, n, hd⟩
  refine wpAny_pyIter_tuple T (h s.heap.objs.size _ _ s.toks (fun i o => o.cls = .type "tuple_iterator" ∧ o.data = .fields #[.ref a, .int i 0]) (noneAt _) (fun b o e => Heap.get?_push_of_some _ e) (Heap.get?_push_size _ rfl) ⟨rfl, rfl⟩ ⟨fun i o ⟨z, _⟩ => plain_cls z (by decide), ?_, ?_⟩)
  · intro i hi A' frs' g' σ' s' o W' E' hh x R' hS' ho hk hW
    have T' : s'.heap.IsTuple a vs.toArray := ⟨_, R'.keep _ _ (x _ _ hg), hc, n, hd⟩
    obtain ⟨v, hv, r⟩ := vr.get (List.getElem?_eq_getElem hi)
    refine wpAny_pyNext_tuple_item (i := i) ⟨o, ho, hk⟩ T' (by simpa using hv) fun h' hit hs => ?_
    obtain ⟨o', ho', hk'⟩ := hit
    exact hW v h' o' _ (by rw [List.getElem?_eq_getElem hi]; exact r.mono x) ho' hk' hs.extBut
  · intro A' frs' g' σ' s' o W' E' hh x R' hS' ho hk hW
    have T' : s'.heap.IsTuple a vs.toArray := ⟨_, R'.keep _ _ (x _ _ hg), hc, n, hd⟩
    exact wpAny_pyNext_tuple_end (i := xs.length) (hh (by omega)) ⟨o, ho, hk⟩ T' (by simp [vr.length]) fun h' hs => hW h' _ hs
/-- a loop's turn, the walked value's iterator kept aside -/
theorem forRun {x : Str} {px : Pos} {body : List Stmt} {n : Nat} {item : Nat → MV} {S : Sto → Prop} {Kd : Nat → Obj → Prop} {it : Addr} {o : Obj} {A : Around}
    (I : Nat → Env1 → Sto → Prop) (hI : ∀ i ρ' σ', I i ρ' σ' → S σ')
    (body_ : ∀ i ρ' σ', i < n → I i ρ' σ' → ∃ ρ'', Put x (item i) ρ' ρ'' ∧ onceKey x ρ'' = true ∧ SV C k f body ρ'' σ' (fun mf ρ₃ σ₃ => match mf with | .next => I (i + 1) ρ₃ σ₃ | .cont => I (i + 1) ρ₃ σ₃ | .brk => QS .next ρ₃ σ₃ | .ret v => QS (.ret v) ρ₃ σ₃) NoXS)
    (done : ∀ ρ' σ', I n ρ' σ' → QS .next ρ' σ')
    (hk : f.fd.scope.kind = .function) (hx : f.fd.scope.names.lookup x = some .local)
    (P : ItAt C k it n item S Kd g) (rm : ∀ m, Room A k ((f.env L, L, m) :: frs)) (h0 : I 0 ρ σ) (R : Rel C g σ ((f.env L, L, m) :: frs) s) (lc : Loc g ρ m) (Fi : Fresh g σ ((f.env L, L, m) :: frs) it) (hb : C.h₁.get? it = none) (ho : s.heap.get? it = some o) (hkd : Kd 0 o) :
    codeAny C.M A (.forLoop (.Name x px) (.ref it) body [] (f.env L)) (fun r s' => match r with | .ok fl => PostS C g (f.env L) L frs QS fl s' | .error e => False) s := by
  refine codeAny_forLoop
    (fun kk s' => ∃ i ρ' m' g' σ' o', i ≤ n ∧ kk = n + 1 - i ∧ Ext g g' ∧ Rel C g' σ' ((f.env L, L, m') :: frs) s' ∧ Loc g' ρ' m' ∧ Fresh g' σ' ((f.env L, L, m') :: frs) it ∧ s'.heap.get? it = some o' ∧ Kd i o' ∧ I i ρ' σ') ?_ (n + 1)
    ⟨0, ρ, m, g, σ, o, Nat.zero_le _, rfl, .refl g, R, lc, Fi, ho, hkd, h0⟩
  rintro kk s' ⟨i, ρ', m', g', σ', o', hi, rfl, x', R', lc', Fi', ho', hkd', hI'⟩
  have rm' := rm m'
  by_cases hlt : i < n
  · refine P.step i hlt A _ g' σ' s' o' _ _ rm'.handled x' R' (hI _ _ _ hI') ho' hkd' fun v h' o₁ t vr ho₁ hkd₁ same => ?_
    have R₁ := R'.other Fi' same t
    have Rg := R₁.addG Fi' ho₁
    have xg : Ext g' (g'.add it o₁) := Stab.add_ext Fi'.g
    obtain ⟨ρ₂, p1, p2, hb'⟩ := body_ i ρ' σ' hlt hI'
    refine wpAny_assign_Name (wpAny_storeName_local (env := f.env L) hx R₁.F.ns (fun h₂ hn₂ hs₂ => ?_) ?_)
    · have R₂ := Rg.frame (t + 1) hn₂ hs₂
      refine wpAny_mono (hb' A L _ frs _ _ (rm _) R₂ ((lc'.mono xg).put p1 p2 (vr.mono xg))) (fun fl s₃ z => ?_) fun e s₃ z => ?_
      · obtain ⟨mf, ρ₃, m₃, g₃, σ₃, x₃, R₃, l₃, fr, q⟩ := z
        have hg₃ : g₃ it = some o₁ := x₃ _ _ (Stab.add_self ..)
        have pl := P.plain _ _ hkd₁
        have R₄ := R₃.del hg₃ pl hb
        have l₄ : Loc (g₃.del it) ρ₃ m₃ := l₃.del hg₃ pl
        have x₄ : Ext g' (g₃.del it) := (xg.trans x₃).del Fi'.g
        have N₄ : Fresh (g₃.del it) σ₃ ((f.env L, L, m₃) :: frs) it := by
          refine ⟨by simp [Stab.del], ?_, fun p hp e => ?_⟩
          · cases q : σ₃ it with
            | none => rfl
            | some mo => have := (R₃.objs _ _ q).1; rw [hg₃] at this; cases this
          · have := (R₃.frs.mem p hp).2.2.2.2.1
            rw [e, hg₃] at this; cases this
        cases mf with
        | next => obtain rfl : fl = .next := fr; exact ⟨n + 1 - (i + 1), by omega, i + 1, ρ₃, m₃, _, σ₃, o₁, hlt, rfl, x'.trans x₄, R₄, l₄, N₄, R₃.keep _ _ hg₃, hkd₁, q⟩
        | cont => obtain rfl : fl = .cont := fr; exact ⟨n + 1 - (i + 1), by omega, i + 1, ρ₃, m₃, _, σ₃, o₁, hlt, rfl, x'.trans x₄, R₄, l₄, N₄, R₃.keep _ _ hg₃, hkd₁, q⟩
        | brk => obtain rfl : fl = .brk := fr; exact ⟨.next, ρ₃, m₃, _, σ₃, x'.trans x₄, R₄, l₄, rfl, q⟩
        | ret w => obtain ⟨v', rfl, hv⟩ := fr; exact ⟨.ret w, ρ₃, m₃, _, σ₃, x'.trans x₄, R₄, l₄, ⟨v', rfl, hv.del hg₃ pl⟩, q⟩
      · obtain ⟨_, _, _, _, _, _, _, _, _, _, q⟩ := z; exact q.elim
    · show (f.fd.scope.kind == .class || (f.fd.scope.kind == .module && _)) = false
      rw [hk]; rfl
  · obtain rfl : i = n := by omega
    refine P.stop A _ g' σ' s' o' _ _ rm'.handled x' R' (hI _ _ _ hI') ho' hkd' fun h' t same => ?_
    exact wpAny_execs_nil ⟨.next, ρ', m', g', σ', x', R'.other Fi' same t, lc', rfl, done _ _ hI'⟩
theorem SV_For {x : Str} {px pos : Pos} {iter : Expr} {body : List Stmt}
    (h : EV C k f iter ρ σ (fun v σ₁ => ∃ n item S, ItV C k v n item S ∧ ∃ I : Nat → Env1 → Sto → Prop, (∀ i ρ' σ', I i ρ' σ' → S σ') ∧ I 0 ρ σ₁ ∧
      (∀ i ρ' σ', i < n → I i ρ' σ' → ∃ ρ'', Put x (item i) ρ' ρ'' ∧ onceKey x ρ'' = true ∧ SV C k f body ρ'' σ' (fun mf ρ₃ σ₃ => match mf with | .next => I (i + 1) ρ₃ σ₃ | .cont => I (i + 1) ρ₃ σ₃ | .brk => QS .next ρ₃ σ₃ | .ret v => QS (.ret v) ρ₃ σ₃) NoXS) ∧
      (∀ ρ' σ', I n ρ' σ' → QS .next ρ' σ')) (fun d σ' => XS d ρ σ'))
    (hs : ∀ env x, foldedSetIterable iter env x = pure x) (hk : f.fd.scope.kind = .function) (hx : f.fd.scope.names.lookup x = some .local) : SV1 C k f (.For (.Name x px) iter body [] pos) ρ σ QS XS :=
  fun A L m frs g s rm R lc => wpAny_For (hs := hs _) (h.then rm R lc (fun _ _ z => z.toS lc fun _ _ q => q) fun mv g₁ σ₁ v s₁ x₁ R₁ l₁ r₁ q₁ => by
    obtain ⟨n, item, S, hit, I, hI, h0, hbody, hdone⟩ := q₁
    refine hit A _ g₁ σ₁ s₁ v _ _ R₁ r₁ (hI _ _ _ h0) fun it o h' t Kd e1 e2 e3 e4 P => ?_
    have Fi := R₁.fresh e1
    have R₂ := R₁.other (h' := h') Fi (fun a o _ e => e2 a o e) t
    have hb : C.h₁.get? it = none := by
      cases q : C.h₁.get? it with
      | none => rfl
      | some y => rw [R₁.keepsB _ _ q] at e1; cases e1
    refine codeAny_mono (forRun (QS := QS) I hI hbody hdone hk hx P (fun m' => ⟨rm.depth, rm.units, rm.frames, rm.handled⟩) h0 R₂ l₁ Fi hb e3 e4) fun r s' z => ?_
    rcases r with e | fl
    · exact z.elim
    · exact z.ext x₁)
end
end Mine
end
section
open PySem PySem.W PySem.Calls PyProof.Rows PySem.Challenge

namespace Mine
section
variable {C : Cx} {k : Nat} {f : FI} {ρ : Env1} {σ : Sto} {X : ExcP} {XS : ExcS} {Q : MV → Sto → Prop} {QB : Bool → Sto → Prop} {QS : MF → Env1 → Sto → Prop} {g : Stab} {env : Env} {L : Addr} {m : Str → Option Value} {frs : List Frm} {s : Shared}
theorem CV.mono {fv : Value} {args : List MV} {Q Q' : MV → Sto → Prop} {X' : ExcP} (h : CV C k fv args σ Q X) (hQ : ∀ v σ', Q v σ' → Q' v σ') (hX : ∀ d σ', X d σ' → X' d σ') : CV C k fv args σ Q' X' :=
  fun A frs g s vs hne rm R vr => codeAny_mono (h A frs g s vs hne rm R vr) fun r s' z => by
    rcases r with e | (v | _ | _ | _)
    · obtain ⟨ea, d, g', σ', e, a, b, q⟩ := z; exact ⟨ea, d, g', σ', e, a, b, hX _ _ q⟩
    all_goals first | exact z.elim | skip
    obtain ⟨mv, g', σ', a, b, c, q⟩ := z; exact ⟨mv, g', σ', a, b, c, hQ _ _ q⟩
theorem CV.less {fv : Value} {args : List MV} {k' : Nat} (h : CV C k' fv args σ Q X) (hk : k' ≤ k) : CV C k fv args σ Q X :=
  fun A frs g s vs hne rm R vr => h A frs g s vs hne (rm.less hk) R vr
theorem tc_weight (c : Addr) (l : List Value) : (Code.builtin "type.__call__" ⟨.ref c :: l, []⟩).weight = 1 := by kernel_rfl
theorem tc_units (l : List Value) : (Code.builtin "type.__call__" ⟨l, []⟩).cUnits = 1 := by kernel_rfl
/-- a class of the text called -/
theorem CV_class {c fI : Addr} {args : List MV} (hm : makesIn C.KK c = true) (hi : findIn C.KK (.ref c) "__init__" = some (some (.ref fI))) (hf : typeIn C.KK (.ref fI) = some (.type "function"))
    (h : ∀ a d, σ a = none → σ d = none → CV C k (.ref fI) (.inst c a d :: args) (σ.set d (.ns [])) (fun v σ' => v = .none ∧ Q (.inst c a d) σ') X) : CV C (k + 1) (.ref c) args σ Q X :=
  fun A frs g s vs hne rm R vr => by
    obtain ⟨hh, gs, dr, t, os⟩ := s
    refine make_core (makes_of R.Kin hm) (looks_findIn R.Kin hi) (fun self => bind_fn R.Kin self hf) (.inl rfl) ?_
    have nd : hh.get? hh.objs.size = none := noneAt hh
    have na : hh.get? (hh.objs.size + 1) = none := noneAt1 hh
    have Fd := R.fresh nd
    have Fa := R.fresh na
    have up : ∀ b o, hh.get? b = some o → ((hh.push emptyDict).push (instObj c hh.objs.size)).get? b = some o := fun b o e => Heap.get?_push_of_some _ (Heap.get?_push_of_some _ e)
    have hd : ((hh.push emptyDict).push (instObj c hh.objs.size)).get? hh.objs.size = some emptyDict := Heap.get?_push_of_some _ (Heap.get?_push_size _ rfl)
    have ha : ((hh.push emptyDict).push (instObj c hh.objs.size)).get? (hh.objs.size + 1) = some (instObj c hh.objs.size) := by
      have := Heap.get?_push_size (hh.push emptyDict) (o := instObj c hh.objs.size) rfl
      rwa [Heap.size_push] at this
    have R₁ : Rel C g σ frs { heap := (hh.push emptyDict).push (instObj c hh.objs.size), gens := gs, drawn := dr, toks := t, os := os } :=
      ⟨R.base, fun a o e => up _ _ (R.keep a o e), fun a mo e => ⟨(R.objs a mo e).1, (R.objs a mo e).2.at fun o => up _ _⟩, R.frs.to (fun p hp mm z => z.keeps up) (fun _ _ z => z) fun _ _ z => z, R.gens, R.os⟩
    have R₂ := R₁.addS (mo := .ns []) Fd ⟨[], 0, hd, rfl⟩
    have Fa' : Fresh g (σ.set hh.objs.size (.ns [])) frs (hh.objs.size + 1) := ⟨Fa.g, by rw [Sto.set_ne _ _ (Nat.succ_ne_self _)]; exact Fa.s, Fa.f⟩
    have R₃ := R₂.addG Fa' ha
    have xg : Ext g (g.add (hh.objs.size + 1) (instObj c hh.objs.size)) := Stab.add_ext Fa.g
    have rm' : Room (A.under (.builtin "type.__call__" ⟨.ref c :: vs, []⟩)) k frs := by
      refine ⟨?_, ?_, ?_, fun hk => rm.handled (by omega)⟩
      · have := rm.depth; show A.depth + (Code.builtin "type.__call__" ⟨.ref c :: vs, []⟩).weight + k < _; rw [tc_weight]; omega
      · have := rm.units; show A.units + (Code.builtin "type.__call__" ⟨.ref c :: vs, []⟩).cUnits + 20 * k + 20 < _
        rw [tc_units]; omega
      · show pushEnvs [] A.frames = _
        rw [rm.frames]; rfl
    refine codeAny_mono (h _ _ Fa.s Fd.s (A.under (.builtin "type.__call__" ⟨.ref c :: vs, []⟩)) frs _ _ _ hne rm' R₃ (.cons ?_ (vr.mono xg))) fun r s' z => ?_
    · simp only [VR, true_and]; exact Stab.add_self ..
    · rcases r with e | (v | _ | _ | _)
      · exact PostX.ext xg z
      all_goals first | exact z.elim | skip
      obtain ⟨mv, g', σ', x, R', v', rfl, q⟩ := z
      refine ⟨v'.noneI, .inst c (hh.objs.size + 1) hh.objs.size, g', σ', xg.trans x, R', ?_, q⟩
      simp only [VR, true_and]; exact x _ _ (Stab.add_self ..)
end
end Mine
end
section
open PySem PySem.W PySem.Calls PyProof.Rows PySem.Challenge PySem.SeqAt

namespace Mine
section
variable {C : Cx} {k : Nat} {f : FI} {ρ : Env1} {σ : Sto} {X : ExcP} {XS : ExcS} {Q : MV → Sto → Prop} {QB : Bool → Sto → Prop} {QS : MF → Env1 → Sto → Prop} {g : Stab} {env : Env} {L : Addr} {m : Str → Option Value} {frs : List Frm} {s : Shared}
/-! ### values as data -/
mutual
noncomputable def MV.dat : MV → PyData
  | .none => .none
  | .bool b => .bool b
  | .int i => .int i
  | .str x => .str x
  | .tup xs => .tuple (dats xs)
  | .ref _ => .none
  | .inst _ _ _ => .none
noncomputable def dats : List MV → List PyData
  | [] => []
  | x :: xs => x.dat :: dats xs
end
mutual
/-- texts, ints and tuples of such -/
noncomputable def MV.fo : MV → Bool
  | .none => true
  | .bool _ => true
  | .int _ => true
  | .str x => PyData.strOk x
  | .tup xs => fos xs
  | .ref _ => false
  | .inst _ _ _ => false
noncomputable def fos : List MV → Bool
  | [] => true
  | x :: xs => x.fo && fos xs
end
mutual
theorem MV.lay : ∀ {a : MV}, a.fo = true → a.dat.canLay0 = true
  | .none, _ => rfl
  | .bool _, _ => rfl
  | .int _, _ => rfl
  | .str x, h => by simpa [MV.fo, MV.dat, PyData.canLay0] using h
  | .tup xs, h => by
    simp only [MV.fo] at h
    simp only [MV.dat, PyData.canLay0]
    exact lays h
theorem lays : ∀ {xs : List MV}, fos xs = true → PyData.canLayAll0 (dats xs) = true
  | [], _ => rfl
  | x :: xs, h => by
    simp only [fos, Bool.and_eq_true] at h
    simp only [dats, PyData.canLayAll0, Bool.and_eq_true]
    exact ⟨MV.lay h.1, lays h.2⟩
end
mutual
theorem VR.reads {h : Heap} (hk : ∀ a o, g a = some o → h.get? a = some o) : ∀ {a : MV} {v : Value}, a.fo = true → VR g a v → ∃ as, Reads h v a.dat as
  | .none, v, _, r => by rw [r.noneI]; exact ⟨_, .none⟩
  | .bool b, v, _, r => by rw [r.boolI]; exact ⟨_, .bool b⟩
  | .int i, v, _, r => by obtain ⟨t, rfl⟩ := r.intI; exact ⟨_, .int i t⟩
  | .str x, v, _, r => by obtain ⟨t, rfl⟩ := r.strI; exact ⟨_, .str x t⟩
  | .tup xs, v, hf, r => by
    obtain ⟨a, vs, o, n, rfl, h1, h2, h3, h4⟩ := r.tupI
    simp only [MV.fo] at hf
    obtain ⟨as, ha⟩ := VRs.reads hk hf h4
    refine ⟨as, ?_⟩
    simp only [MV.dat]
    exact .tuple (hk _ _ h1) h2 h3 (by simpa using ha)
  | .ref _, _, hf, _ => by simp [MV.fo] at hf
  | .inst _ _ _, _, hf, _ => by simp [MV.fo] at hf
theorem VRs.reads {h : Heap} (hk : ∀ a o, g a = some o → h.get? a = some o) : ∀ {xs : List MV} {vs : List Value}, fos xs = true → VRs g xs vs → ∃ as, ReadsAll h vs (dats xs) as
  | [], vs, _, r => by rw [r.inv_nil]; exact ⟨_, .nil⟩
  | x :: xs, vs, hf, r => by
    obtain ⟨v, vs', rfl, h1, h2⟩ := r.inv
    simp only [fos, Bool.and_eq_true] at hf
    obtain ⟨as, ha⟩ := VR.reads hk hf.1 h1
    obtain ⟨bs, hb⟩ := VRs.reads hk hf.2 h2
    exact ⟨_, .cons ha hb⟩
end
theorem BV_eq_fo {a b : MV} (ha : a.fo = true) (hb : b.fo = true) (hd : min a.dat.depth b.dat.depth ≤ 20) (q : Q (.bool (PyData.eqv a.dat b.dat)) σ) : BV C k (compareOp .Eq) a b σ Q X := fun A env L m frs g s va vb rm R ra rb => by
  obtain ⟨as, h1⟩ := ra.reads R.keep ha
  obtain ⟨bs, h2⟩ := rb.reads R.keep hb
  exact compareEq_reads h1 h2 (MV.lay ha) (MV.lay hb) (by have := rm.units; omega) (.mk R (.bool _) q)
theorem list_reads {frs : List Frm} {a : Addr} {xs : List MV} (R : Rel C g σ frs s) (h : σ a = some (.list xs)) (hf : fos xs = true) : ∃ as, Reads s.heap (.ref a) (.list (dats xs)) as := by
  obtain ⟨vs, n, e, vr⟩ := list_at R h
  obtain ⟨as, ha⟩ := vr.reads R.keep hf
  exact ⟨_, .list e rfl rfl (by simpa using ha)⟩
theorem BV_eq_list {a b : Addr} {xs ys : List MV} (ha : σ a = some (.list xs)) (hb : σ b = some (.list ys)) (fa : fos xs = true) (fb : fos ys = true) (hd : min (PyData.list (dats xs)).depth (PyData.list (dats ys)).depth ≤ 20) (q : Q (.bool (PyData.eqvAll (dats xs) (dats ys))) σ) :
    BV C k (compareOp .Eq) (.ref a) (.ref b) σ Q X := fun A env L m frs g s va vb rm R ra rb => by
  rw [ra.refI, rb.refI]
  obtain ⟨as, h1⟩ := list_reads R ha fa
  obtain ⟨bs, h2⟩ := list_reads R hb fb
  exact compareEq_reads h1 h2 (by simp only [PyData.canLay0]; exact lays fa) (by simp only [PyData.canLay0]; exact lays fb) (by have := rm.units; omega) (.mk R (.bool _) (by rw [PyData.eqv]; exact q))
theorem BV_ne_list {a b : Addr} {xs ys : List MV} (ha : σ a = some (.list xs)) (hb : σ b = some (.list ys)) (fa : fos xs = true) (fb : fos ys = true) (hd : min (PyData.list (dats xs)).depth (PyData.list (dats ys)).depth ≤ 20) (q : Q (.bool (!PyData.eqvAll (dats xs) (dats ys))) σ) :
    BV C k (compareOp .NotEq) (.ref a) (.ref b) σ Q X := fun A env L m frs g s va vb rm R ra rb => by
  rw [ra.refI, rb.refI]
  obtain ⟨as, h1⟩ := list_reads R ha fa
  obtain ⟨bs, h2⟩ := list_reads R hb fb
  exact compareNe_reads h1 h2 (by simp only [PyData.canLay0]; exact lays fa) (by simp only [PyData.canLay0]; exact lays fb) (by have := rm.units; omega) (.mk R (.bool _) (by rw [PyData.eqv]; exact q))
theorem BV_in_list {a : MV} {b : Addr} {ys : List MV} (fa : a.fo = true) (hb : σ b = some (.list ys)) (fb : fos ys = true) (hd : a.dat.depth ≤ 10) (q : Q (.bool ((dats ys).any fun y => PyData.eqv y a.dat)) σ) : BV C k (compareOp .In) a (.ref b) σ Q X := fun A env L m frs g s va vb rm R ra rb => by
  rw [rb.refI]
  obtain ⟨as, h1⟩ := ra.reads R.keep fa
  obtain ⟨bs, h2⟩ := list_reads R hb fb
  exact in_list_reads h2 h1 (lays fb) (MV.lay fa) (by have := rm.units; have := Nat.min_le_right (PyData.depthAll (dats ys)) a.dat.depth; omega) (.mk R (.bool _) q)
theorem strsAre : ∀ {ys : List Str} {vs : List Value}, VRs g (ys.map MV.str) vs → StrsAre vs ys
  | [], vs, h => by rw [h.inv_nil]; exact .nil
  | y :: ys, vs, h => by
    rw [List.map_cons] at h
    obtain ⟨v, vs', rfl, h1, h2⟩ := h.inv
    obtain ⟨t, rfl⟩ := h1.strI
    exact .cons _ _ (strsAre h2)
theorem BV_in_strs {x : Str} {ys : List Str} (q : Q (.bool (ys.any (· == x))) σ) : BV C k (compareOp .In) (.str x) (.tup (ys.map MV.str)) σ Q X := fun A env L m frs g s va vb rm R ra rb => by
  obtain ⟨t, rfl⟩ := ra.strI
  obtain ⟨a, vs, o, n, rfl, hg, hc, hd, vr⟩ := rb.tupI
  exact in_tuple_strs (isTup_of (R.keep _ _ hg) hc hd) (by simpa using strsAre vr) (.mk R (.bool _) q)
theorem BV_isnot_none {a : MV} (q : Q (.bool (!a.isNone)) σ) : BV C k (compareOp .IsNot) a .none σ Q X := fun A env L m frs g s va vb rm R ha hb => by
  rw [hb.noneI]
  exact isNot_none (.mk R (.bool ..) (by rw [ha.isNone]; exact q))
/-! ### lists -/
theorem BV_add_list {a b : Addr} {xs ys : List MV} (ha : σ a = some (.list xs)) (hb : σ b = some (.list ys)) (hl : xs.length + ys.length ≤ 1000000) (q : ∀ c, σ c = none → Q (.ref c) (σ.set c (.list (xs ++ ys)))) : BV C k (binaryOp .Add) (.ref a) (.ref b) σ Q X := fun A env L m frs g s va vb rm R ra rb => by
  rw [ra.refI, rb.refI]
  obtain ⟨vs, n, e, vr⟩ := list_at R ha
  obtain ⟨ws, n', e', wr⟩ := list_at R hb
  exact add_lists R.F (R.N L) (isList_of e) (isList_of e') (fun h' F' N' => PostV.newList R (noneAt _) F' N' s.toks (vr.append wr) q) (by rw [vr.length, wr.length, sizeLine_eq]; omega)
theorem iadd_lists {prog : Program} {w : World} {A : Around} {E : Value → Shared → Prop} {s : Shared} {l b : Addr} {items items2 : Array Value} {n n2 : Nat} {W : Value → Shared → Prop}
    (hl : s.heap.get? l = some { cls := .type "list", dict := none, data := .seq items n, slots := #[] }) (hb : s.heap.get? b = some { cls := .type "list", dict := none, data := .seq items2 n2, slots := #[] }) (hsz : items.size + items2.size ≤ 1000000)
    (h : W (.ref l) { s with heap := s.heap.update l (Obj.mapSeq fun x => x ++ items2) }) : wpAny (model prog w) A (inplaceOp .Add (.ref l) (.ref b)) W E s := by
  have ha : s.TypeIs (.ref l) "list" := ⟨_, hl, rfl⟩
  have hb' : s.TypeIs (.ref b) "list" := ⟨_, hb, rfl⟩
  have hs : isSeqSlot (some (.builtin "list.__iadd__")) = true := by decide +kernel
  have hseq : seqSlot? (.type "list") (dunderI "add") = pure (some (.builtin "list.__iadd__")) := PySem.seqSlot_of PySem.F.slot_list_iadd.lookup hs
  unfold inplaceOp
  refine wpAny_holding ?_
  have hfi : fillsInplaceSlot (.type "list") "add" (Operator.Add == .Add) = pure false := by
    unfold fillsInplaceSlot
    show (typeLookup (.type "list") (dunderI "add") >>= fun fi => pure (fi.isSome && !isSeqSlot fi)) = pure false
    rw [PySem.F.slot_list_iadd.lookup, pure_bind, hs]; rfl
  refine wpAny_bind (wpAny_typeOf ha (wpAny_bind (wpAny_of_eq hfi ?_)))
  show wpAny _ A (if false = true then _ else _) W E s
  rw [if_neg Bool.false_ne_true]
  refine wpAny_bind (wpAny_binaryOp1_none (nm := "add") ha hb' noFill_list_add ?_)
  refine wpAny_bind (wpAny_of_eq hseq ?_)
  refine wpAny_bind (wpAny_rule ?_)
  refine call_meets PySem.F.slot_list_iadd ha PySem.F.entry_list_iadd (PySem.F.args_list_iadd_2 _ _) (AutoSeq1.list___iadd___list_list_0 l items n b items2 n2 ?_ ?_ ?_) ⟨hl, hb, h⟩
  · simp only [Builtin.List.listTooLong, sizeLine_eq]; simp; intro _; omega
  · rw [sizeLine_eq]; omega
  · rw [sizeLine_eq]; omega
theorem upd_list {h : Heap} {a : Addr} {vs ws : List Value} {n : Nat} (e : h.get? a = some (listOf (List.toArray vs) n)) : ∃ n', (h.update a (Obj.mapSeq fun x => x ++ ws.toArray)).get? a = some (listOf (List.toArray (vs ++ ws)) n') := by
  refine ⟨if ((vs.toArray ++ ws.toArray).size == vs.toArray.size) = true then n else n + 1, (Heap.get?_update_self _ e rfl).trans ?_⟩
  show some _ = some _
  unfold Obj.mapSeq W.listOf
  simp
theorem IV_add_list {a b : Addr} {xs ys : List MV} (ha : σ a = some (.list xs)) (hb : σ b = some (.list ys)) (hl : xs.length + ys.length ≤ 1000000) (q : Q (.ref a) (σ.set a (.list (xs ++ ys)))) : BV C k (inplaceOp .Add) (.ref a) (.ref b) σ Q X := fun A env L m frs g s va vb rm R ra rb => by
  rw [ra.refI, rb.refI]
  obtain ⟨vs, n, e, vr⟩ := list_at R ha
  obtain ⟨ws, n', e', wr⟩ := list_at R hb
  refine iadd_lists e e' (by simp [vr.length, wr.length]; omega) ?_
  have hL : L ≠ a := by rintro rfl; have := R.frs.1.2.2.2.2.2.1; rw [this] at ha; cases ha
  have sb : Heap.SameBut a s.heap (s.heap.update a (Obj.mapSeq fun x => x ++ ws.toArray)) := Heap.SameBut.update ..
  obtain ⟨n'', e''⟩ := upd_list (ws := ws) e
  exact ⟨.ref a, g, _, .refl g, R.change (mo' := .list (xs ++ ys)) ha (fun c x h1 _ h3 => (sb.2 c h1).trans h3) (R.frs.1.2.2.1.sameBut sb hL) ⟨vs ++ ws, n'', e'', vr.append wr⟩ s.toks, .ref a, q⟩
theorem IV_fdiv {x y : Int} (hy : y ≠ 0) (hp : Builtin.divisionGoesByPylong x y = false) (q : Q (.int (x.fdiv y)) σ) : BV C k (inplaceOp .FloorDiv) (.int x) (.int y) σ Q X := fun A env L m frs g s va vb rm R a b => by
  obtain ⟨t, rfl⟩ := a.intI; obtain ⟨u, rfl⟩ := b.intI
  exact AutoIntOps.ifloordiv_1 (by simpa using hy) (by rw [hp]; decide) (.mk (R.toks _) (.int ..) q)
theorem BV_pow {x n : Int} (hn : 0 ≤ n) (hsz : (Builtin.Int.intBits x : Int) * n ≤ 2 ^ 27) (q : Q (.int (x ^ n.toNat)) σ) : BV C k (binaryOp .Pow) (.int x) (.int n) σ Q X := fun A env L m frs g s va vb rm R a b => by
  obtain ⟨t, rfl⟩ := a.intI; obtain ⟨u, rfl⟩ := b.intI
  exact pow_int hn hsz (.mk (R.toks _) (.int ..) q)
theorem SV_AugName {x : Str} {p' pos : Pos} {op : Operator} {e : Expr} {a : MV} (hm : (x, a) ∈ ρ) (h : EV C k f e ρ σ (fun b σ₁ => BV C k (inplaceOp op) a b σ₁ (fun v σ' => ∃ ρ', Put x v ρ ρ' ∧ onceKey x ρ' = true ∧ QS .next ρ' σ') (fun d σ' => XS d ρ σ')) (fun d σ' => XS d ρ σ'))
    (hk : f.fd.scope.kind = .function) (hx : f.fd.scope.names.lookup x = some .local) : SV1 C k f (.AugAssign (.Name x p') op e pos) ρ σ QS XS :=
  fun A L m frs g s rm R lc => by
    obtain ⟨va, hv, hr⟩ := lc _ hm
    refine wpAny_AugAssign_Name (wpAny_loadName_local (env := f.env L) hk hx R.F.ns hv ?_)
    refine h.then rm R lc (fun _ _ z => z.toS lc fun _ _ q => q) fun mb g₁ σ₁ vb s₁ x₁ R₁ l₁ r₁ q₁ => ?_
    refine wpAny_mono (q₁ _ _ _ _ _ _ _ _ _ rm R₁ (hr.mono x₁) r₁) (fun v s' z => ?_) fun _ _ z => (z.toS l₁ fun _ _ q => q).ext x₁
    obtain ⟨mv, g', σ', x', R', vr, ρ', q1, q2, q3⟩ := z
    refine wpAny_storeName_local (env := f.env L) hx R'.F.ns (fun h' hn hsb => ?_) ?_
    · exact ⟨.next, ρ', _, g', σ', x₁.trans x', R'.frame _ hn hsb, (l₁.mono x').put q1 q2 vr, rfl, q3⟩
    · show (f.fd.scope.kind == .class || (f.fd.scope.kind == .module && _)) = false
      rw [hk]; rfl
/-! ### tuples -/
theorem OpC_tuple {xs : List MV} (q : Q (.tup xs) σ) : OpC C k (.type "tuple") [.tup xs] σ Q X := fun A env L m frs g s vs rm R vr => by
  obtain ⟨v, vs', rfl, h1, h2⟩ := vr.inv
  rw [h2.inv_nil]
  obtain ⟨a, vs, o, n, rfl, hg, hc, hd, vr'⟩ := h1.tupI
  refine call_tuple_tup (isTup_of (R.keep _ _ hg) hc hd) (.mk R ?_ q)
  exact h1
/-- two names bound from a pair -/
theorem SV_Unpack2 {x y : Str} {px py tp pos : Pos} {kk : Nat} {e : Expr}
    (h : EV C (k + 2) f e ρ σ (fun v σ' => ∃ a b, v = .tup [a, b] ∧ ∃ ρ₁ ρ₂, Put x a ρ ρ₁ ∧ onceKey x ρ₁ = true ∧ Put y b ρ₁ ρ₂ ∧ onceKey y ρ₂ = true ∧ QS .next ρ₂ σ') (fun d σ' => XS d ρ σ'))
    (hs : ∀ env, swapsWithSole [.Tuple [.Name x px, .Name y py] kk tp] e pos.line env = pure false) (hw : ∀ env, swappedStores [.Tuple [.Name x px, .Name y py] kk tp] e env = pure none)
    (hk : f.fd.scope.kind = .function) (hx : f.fd.scope.names.lookup x = some .local) (hy : f.fd.scope.names.lookup y = some .local) : SV1 C (k + 2) f (.Assign [.Tuple [.Name x px, .Name y py] kk tp] e pos) ρ σ QS XS :=
  fun A L m frs g s rm R lc => Assign_Tuple (hs := hs _) (hw := hw _) (h.then rm R lc (fun _ _ z => z.toS lc fun _ _ q => q) fun mv g₁ σ₁ v s₁ x₁ R₁ l₁ r₁ q₁ => by
    obtain ⟨a, b, rfl, ρ₁, ρ₂, p1, o1, p2, o2, q⟩ := q₁
    obtain ⟨t, vs, o, n, rfl, hg, hc, hd, vr⟩ := r₁.tupI
    obtain ⟨va, vs, rfl, ha, vr⟩ := vr.inv
    obtain ⟨vb, vs, rfl, hb, vr⟩ := vr.inv
    rw [vr.inv_nil] at hd
    have kd : (f.fd.scope.kind == .class || (f.fd.scope.kind == .module && (f.env L).locals != (f.env L).globals)) = false := by rw [hk]; rfl
    refine assign_Tuple_tuple (rm.handled (by omega)) (isTup_of (R₁.keep _ _ hg) hc hd) rfl rfl fun h' he => ?_
    have R₂ := R₁.other (h' := h') (R₁.fresh (noneAt _)) he s₁.toks
    refine assignInOrder_cons (PyProof.Rows.assign_Name (wpAny_storeName_local (env := f.env L) hx R₂.F.ns (fun h₂ hn₂ hs₂ => ?_) kd))
    have R₃ := R₂.frame (s₁.toks + 1) hn₂ hs₂
    have l₃ := l₁.put p1 o1 ha
    refine assignInOrder_cons (PyProof.Rows.assign_Name (wpAny_storeName_local (env := f.env L) hy R₃.F.ns (fun h₄ hn₄ hs₄ => ?_) kd))
    have R₅ := R₃.frame (s₁.toks + 1 + 1) hn₄ hs₄
    exact assignInOrder_nil ⟨.next, ρ₂, _, g₁, σ₁, x₁, R₅, l₃.put p2 o2 hb, rfl, q⟩)
end
end Mine
end
section
open PySem PySem.W PySem.Calls PyProof.Rows PySem.Challenge PySem.SeqAt

namespace Mine
section
variable {C : Cx} {k : Nat} {f : FI} {ρ : Env1} {σ : Sto} {X : ExcP} {XS : ExcS} {Q : MV → Sto → Prop} {QB : Bool → Sto → Prop} {QS : MF → Env1 → Sto → Prop} {g : Stab} {env : Env} {L : Addr} {m : Str → Option Value} {frs : List Frm} {s : Shared}
/-! ### displays of dicts -/
inductive EmptyD : MObj → Prop where
  | dI : EmptyD (.dI [])
  | dS : EmptyD (.dS [])
  | dT : EmptyD (.dT [])
theorem emptyD_at {w : World} {h : Heap} {mo : MObj} (e : EmptyD mo) : ObjAt w g (h.push emptyDict) h.objs.size mo := by
  cases e with
  | dI => obtain ⟨o, a, b⟩ := Heap.dictOf_iff.mp (Heap.DictOf.new (knd := intKind pw_sa0154_01 w) h); exact ⟨o, [], a, b, rfl⟩
  | dS => obtain ⟨o, a, b⟩ := Heap.dictOf_iff.mp (Heap.DictOf.new (knd := strKind pw_sa0154_01 w) h); exact ⟨o, [], a, b, rfl⟩
  | dT => exact ⟨emptyDict, #[], 0, [], Heap.get?_push_size _ rfl, ⟨rfl, rfl, rfl⟩, rfl, rfl, (fun x hx => nomatch hx), .nil, rfl⟩
theorem EV_Dict0 {pos : Pos} (mo : MObj) (he : EmptyD mo) (q : ∀ a, σ a = none → Q (.ref a) (σ.set a mo)) : EV C k f (.Dict [] [] pos) ρ σ Q X :=
  fun A L m frs g s rm R lc => wpAny_Dict_empty (by
    have Fd := R.fresh (noneAt s.heap)
    have R₁ := R.keepAll (h' := s.heap.push emptyDict) (fun b o _ e => Heap.get?_push_of_some _ e) (R.frs.1.2.2.1.push _) s.toks
    exact ⟨.ref _, g, _, .refl g, R₁.addS Fd (emptyD_at he), .ref _, q _ Fd.s⟩)
noncomputable def DV (C : Cx) (k : Nat) (f : FI) : List (Str × Nat × Pos × Expr) → Env1 → Sto → (List (Str × MV) → Sto → Prop) → ExcP → Prop
  | [], _, σ, Qs, _ => Qs [] σ
  | (x, _, _, e) :: r, ρ, σ, Qs, X => EV C k f e ρ σ (fun v σ₁ => DV C k f r ρ σ₁ (fun kvs σ₂ => Qs ((x, v) :: kvs) σ₂) X) X
noncomputable def pairSems (env : Env) (pos : Pos) : List (Str × Nat × Pos × Expr) → List (Sem Value × Sem Value)
  | [] => []
  | (x, kk, p, e) :: r => (eval (.Constant (.str x) kk p) env, do let v ← eval e env; standAt pos; pure v) :: pairSems env pos r
noncomputable def PR (g : Stab) : List (Str × MV) → List (Value × Value) → Prop
  | [], vs => vs = []
  | (x, mv) :: r, vs => ∃ t v vs', vs = (.str x t, v) :: vs' ∧ VR g mv v ∧ PR g r vs'
theorem PR.carries {w : World} : ∀ {kvs : List (Str × MV)} {vs : List (Value × Value)}, PR g kvs vs → ∃ ws, Carries (strKind pw_sa0154_01 w) vs ws ∧ KR g kvs ws ∧ ws.map (·.1) = kvs.map (·.1)
  | [], vs, h => by rw [show vs = [] from h]; exact ⟨[], trivial, rfl, rfl⟩
  | (x, mv) :: r, vs, ⟨t, v, vs', e, h1, h2⟩ => by
    subst e
    obtain ⟨ws, a, b, c⟩ := h2.carries (w := w)
    exact ⟨(x, v) :: ws, ⟨strIs w x t, rfl, a⟩, ⟨v, ws, rfl, h1, b⟩, by rw [List.map_cons, List.map_cons, c]⟩
theorem evalPairs_ev {pos : Pos} {A : Around} : ∀ {l : List (Str × Nat × Pos × Expr)} {σ : Sto} {Qs : List (Str × MV) → Sto → Prop} {g : Stab} {s : Shared}, DV C k f l ρ σ Qs X → Room A k ((f.env L, L, m) :: frs) → Rel C g σ ((f.env L, L, m) :: frs) s → Loc g ρ m →
    wpAny C.M A (evalPairs (pairSems (f.env L) pos l)) (fun vs s' => ∃ kvs g' σ', Ext g g' ∧ Rel C g' σ' ((f.env L, L, m) :: frs) s' ∧ PR g' kvs vs ∧ Qs kvs σ') (PostX C g ((f.env L, L, m) :: frs) X) s
  | [], σ, Qs, g, s, h, rm, R, lc => evalPairs_nil ⟨[], g, σ, .refl g, R, rfl, h⟩
  | (x, kk, p, e) :: r, σ, Qs, g, s, h, rm, R, lc => by
    refine evalPairs_cons (wpAny_Constant_str (wpAny_bind (EVt.then (t := eval e) h rm (R.toks _) lc (fun _ _ z => z) fun mv g₁ σ₁ v s₁ x₁ R₁ l₁ r₁ q₁ => wpAny_bind (wpAny_standAt (wpAny_pure ?_)))))
    refine wpAny_mono (evalPairs_ev (l := r) q₁ rm R₁ l₁) (fun vs s' z => ?_) fun _ _ z => z.ext x₁
    obtain ⟨kvs, g', σ', x', R', pr, q⟩ := z
    exact ⟨(x, mv) :: kvs, g', σ', x₁.trans x', R', ⟨_, v, vs, rfl, r₁.mono x', pr⟩, q⟩
theorem plainDict : Mine.Plain emptyDict := plain_cls (T := "dict") rfl (by decide)
theorem EV_DictL {keys : List (Option Expr)} {values : List Expr} {pos : Pos} (l : List (Str × Nat × Pos × Expr))
    (hshape : ∀ env, (evalEachOpt keys env).zip ((evalEach values env).map fun v => do let x ← v; standAt pos; pure x) = (pairSems env pos l).map fun p => (some p.1, p.2)) (h0 : l ≠ []) (hlen : l.length ≤ 15) (hn : (l.map (·.1)).Nodup)
    (h : DV C k f l ρ σ (fun kvs σ' => kvs.map (·.1) = l.map (·.1) ∧ ∀ a, σ' a = none → Q (.ref a) (σ'.set a (.dS kvs))) X) : EV C k f (.Dict keys values pos) ρ σ Q X :=
  fun A L m frs g s rm R lc => by
    have Fd := R.fresh (noneAt s.heap)
    have nb : C.h₁.get? s.heap.objs.size = none := by
      cases q : C.h₁.get? s.heap.objs.size with
      | none => rfl
      | some y => have := R.keepsB _ _ q; rw [noneAt] at this; cases this
    have R₁ := R.keepAll (h' := s.heap.push emptyDict) (fun b o _ e => Heap.get?_push_of_some _ e) (R.frs.1.2.2.1.push _) s.toks
    have Rg := R₁.addG Fd (Heap.get?_push_size _ rfl)
    have xg : Ext g (g.add s.heap.objs.size emptyDict) := Stab.add_ext Fd.g
    have ln : ∀ l : List (Str × Nat × Pos × Expr), (pairSems (f.env L) pos l).length = l.length := fun l => by
      induction l with
      | nil => rfl
      | cons p r ih => obtain ⟨x, kk, p, e⟩ := p; show _ + 1 = _ + 1; rw [ih]
    refine wpAny_Dict_pairs (knd := strKind pw_sa0154_01 C.w) (hshape _) (by cases l with | nil => exact absurd rfl h0 | cons p r => obtain ⟨x, kk, p, e⟩ := p; intro q; cases q) (by rw [ln]; exact hlen) ?_
    refine wpAny_mono (evalPairs_ev h rm Rg (lc.mono xg)) (fun vs s₁ z => ?_) fun _ _ z => z.ext xg
    obtain ⟨kvs, g₁, σ₁, x₁, R₂, pr, hk, q⟩ := z
    obtain ⟨ws, c1, c2, c3⟩ := pr.carries (w := C.w)
    have hg : g₁ s.heap.objs.size = some emptyDict := x₁ _ _ (Stab.add_self ..)
    refine ⟨ws, c1, Heap.dictOf_iff.mpr ⟨emptyDict, R₂.keep _ _ hg, ?_⟩, fun h' hd hs => ?_⟩
    · obtain ⟨o, a, b⟩ := Heap.dictOf_iff.mp (Heap.DictOf.new (knd := strKind pw_sa0154_01 C.w) s.heap)
      rw [Heap.get?_push_size _ rfl] at a; cases a; exact b
    · rw [merged_nil_of_nodup _ (by rw [c3, hk]; exact hn)] at hd
      obtain ⟨o, a, b⟩ := Heap.dictOf_iff.mp hd
      have R₃ := R₂.del hg plainDict nb
      have x₃ : Ext g (g₁.del s.heap.objs.size) := (xg.trans x₁).del Fd.g
      have N₃ : Fresh (g₁.del s.heap.objs.size) σ₁ ((f.env L, L, m) :: frs) s.heap.objs.size := by
        refine ⟨by simp [Stab.del], ?_, fun p hp e => ?_⟩
        · cases q : σ₁ s.heap.objs.size with
          | none => rfl
          | some mo => have := (R₂.objs _ _ q).1; rw [hg] at this; cases this
        · have := (R₂.frs.mem p hp).2.2.2.2.1
          rw [e, hg] at this; cases this
      have R₄ := R₃.other (h' := h') N₃ hs.extBut (s₁.toks + vs.length)
      refine ⟨.ref _, _, _, x₃, R₄.addS (mo := .dS kvs) N₃ ⟨o, ws, a, b, c2.del hg plainDict⟩, .ref _, q _ N₃.s⟩
theorem EV_Dict1 {x : Str} {kk : Nat} {p pos : Pos} {e : Expr} (h : EV C k f e ρ σ (fun v σ₁ => ∀ a, σ₁ a = none → Q (.ref a) (σ₁.set a (.dS [(x, v)]))) X) : EV C k f (.Dict [some (.Constant (.str x) kk p)] [e] pos) ρ σ Q X :=
  EV_DictL [(x, kk, p, e)] (fun _ => rfl) (by simp) (by simp) (by simp) (EVt.mono h (fun v σ' q => ⟨rfl, q⟩) fun _ _ q => q)
theorem EV_Dict3 {x₁ x₂ x₃ : Str} {k₁ k₂ k₃ : Nat} {p₁ p₂ p₃ pos : Pos} {e₁ e₂ e₃ : Expr} (hn : [x₁, x₂, x₃].Nodup)
    (h : EV C k f e₁ ρ σ (fun v₁ σ₁ => EV C k f e₂ ρ σ₁ (fun v₂ σ₂ => EV C k f e₃ ρ σ₂ (fun v₃ σ₃ => ∀ a, σ₃ a = none → Q (.ref a) (σ₃.set a (.dS [(x₁, v₁), (x₂, v₂), (x₃, v₃)]))) X) X) X) :
    EV C k f (.Dict [some (.Constant (.str x₁) k₁ p₁), some (.Constant (.str x₂) k₂ p₂), some (.Constant (.str x₃) k₃ p₃)] [e₁, e₂, e₃] pos) ρ σ Q X :=
  EV_DictL [(x₁, k₁, p₁, e₁), (x₂, k₂, p₂, e₂), (x₃, k₃, p₃, e₃)] (fun _ => rfl) (by simp) (by simp) hn
    (EVt.mono h (fun v₁ σ₁ q => EVt.mono q (fun v₂ σ₂ q => EVt.mono q (fun v₃ σ₃ q => ⟨rfl, q⟩) fun _ _ q => q) fun _ _ q => q) fun _ _ q => q)
/-! ### range -/
theorem ItAt_range {it : Addr} {n : Nat} : ItAt C (k + 2) it n (fun i => .int i) (fun _ => True) (fun i o => o = { cls := .type "range_iterator", dict := none, data := .fields #[rawInt i, rawInt ((n : Int) - i), rawInt 1], slots := #[] }) g where
  plain := fun i o e => plain_cls (T := "range_iterator") (by rw [e]) (by decide)
  step := fun i hi A frs g' σ' s' o W E hh x R hS ho hk hW => by
    subst hk
    refine wpAny_pyNext_range_item (x := i) (left := n - i) (step := 1) ho (by omega) fun h' hit hs => ?_
    refine hW _ h' _ _ (.int ..) hit ?_ hs.extBut
    show _ = _
    have e1 : ((i + 1 : Nat) : Int) = (i : Int) + 1 := by omega
    have e2 : (n : Int) - ((i + 1 : Nat) : Int) = (n : Int) - i - 1 := by omega
    rw [e2, e1]
  stop := fun A frs g' σ' s' o W E hh x R hS ho hk hW => by
    subst hk
    exact wpAny_pyNext_range_end (x := n) (left := n - n) (step := 1) (hh (by omega)) ho (by omega) fun h' hs => hW h' _ hs
theorem SV_ForRange {x : Str} {px pos p' pc : Pos} {e : Expr} {body : List Stmt}
    (h : EV C (k + 2) f e ρ σ (fun v σ₁ => ∃ n : Nat, v = .int n ∧ n ≤ 1000000 ∧ ∃ I : Nat → Env1 → Sto → Prop, I 0 ρ σ₁ ∧
      (∀ i ρ' σ', i < n → I i ρ' σ' → ∃ ρ'', Put x (.int i) ρ' ρ'' ∧ onceKey x ρ'' = true ∧ SV C (k + 2) f body ρ'' σ' (fun mf ρ₃ σ₃ => match mf with | .next => I (i + 1) ρ₃ σ₃ | .cont => I (i + 1) ρ₃ σ₃ | .brk => QS .next ρ₃ σ₃ | .ret v => QS (.ret v) ρ₃ σ₃) NoXS) ∧
      (∀ ρ' σ', I n ρ' σ' → QS .next ρ' σ')) (fun d σ' => XS d ρ σ'))
    (hn : nsIn C.KK mainGlobals "range" = some none) (he : ∀ env, starEach [e] env = [(false, eval e env)])
    (hs : ∀ env x, foldedSetIterable (.Call (.Name "range" p') [e] [] pc) env x = pure x) (hk : f.fd.scope.kind = .function) (hgl : f.fd.globals = mainGlobals) (hbl : f.fd.builtins = builtinsNs) (hr : f.fd.scope.names.lookup ("range" : Str) = some .globalImplicit) (hx : f.fd.scope.names.lookup x = some .local) :
    SV1 C (k + 2) f (.For (.Name x px) (.Call (.Name "range" p') [e] [] pc) body [] pos) ρ σ QS XS :=
  fun A L m frs g s rm R lc => wpAny_For (hs := hs _) (by
    show wpAny C.M A (do callWith pc (← eval (.Name "range" p') (f.env L)) [] (backTo pc (starEach [e] (f.env L))) []) _ _ s
    refine wpAny_bind (Name_function_global (env := f.env L) hk hr (loadGlobal_builtin (env := f.env L) (mg := C.mg) (mb := C.mb) ?_ (mg_none_of C.K C.T.g hn) ?_ (v := .type "range") ((C.T.builtins "range" (by decide)).trans (by kernel_rfl)) ?_) (by decide))
    · show s.heap.Ns f.fd.globals C.mg
      rw [hgl]; exact C.T.g.keeps R.keepsB
    · show s.heap.Ns f.fd.builtins C.mb
      rw [hbl]; exact C.T.b.keeps R.keepsB
    · rw [he]
      refine callWith_of (P := fun _ => True) rfl (fun _ _ => ⟨.machine, .inr (.inl rfl), Looks.of_pure (mach_type _)⟩) (evalArgs_plain ?_)
      show wpAny C.M A (spliced [(false, eval e (f.env L))]) _ _ s
      refine spliced_cons (h.then rm R lc (fun _ _ z => z.toS lc fun _ _ q => q) fun mv g₁ σ₁ v s₁ x₁ R₁ l₁ r₁ q₁ => ?_)
      obtain ⟨n, rfl, hle, I, h0, hbody, hdone⟩ := q₁
      obtain ⟨t, rfl⟩ := r₁.intI
      unfold spliced
      refine wpAny_pure ⟨trivial, ?_⟩
      refine call_range_1 ?_
      refine wpAny_pyIter_range (IsRange.new ..) (small_one (by decide) (by decide) (by omega) (by omega)) ?_
      rw [rangeSize_one]
      have e0 : (if (0 : Int) < n then (n : Int) - 0 else 0) = (n : Int) - (0 : Nat) := by split <;> omega
      rw [e0]
      have R₂ := R₁.keepAll (h' := (s₁.heap.push { cls := .type "range", data := .fields #[.int 0 s₁.toks, .int n t, .int 1 (s₁.toks + 1)] })) (fun b o _ e => Heap.get?_push_of_some _ e) (R₁.frs.1.2.2.1.push _) (s₁.toks + 1 + 1)
      have Fi := R₂.fresh (noneAt _)
      have nb : C.h₁.get? (s₁.heap.push { cls := .type "range", data := .fields #[.int 0 s₁.toks, .int n t, .int 1 (s₁.toks + 1)] }).objs.size = none := by
        cases q : C.h₁.get? (s₁.heap.push { cls := .type "range", data := .fields #[.int 0 s₁.toks, .int n t, .int 1 (s₁.toks + 1)] }).objs.size with
        | none => rfl
        | some y => have := R₂.keepsB _ _ q; rw [noneAt] at this; cases this
      have R₃ := R₂.keepAll (h' := (s₁.heap.push { cls := .type "range", data := .fields #[.int 0 s₁.toks, .int n t, .int 1 (s₁.toks + 1)] }).push { cls := .type "range_iterator", data := .fields #[rawInt 0, rawInt ((n : Int) - (0 : Nat)), rawInt 1] }) (fun b o _ e => Heap.get?_push_of_some _ e) (R₂.frs.1.2.2.1.push _) (s₁.toks + 1 + 1)
      refine codeAny_mono (forRun (QS := QS) I (S := fun _ => True) (fun _ _ _ _ => trivial) hbody hdone hk hx ItAt_range (fun m' => ⟨rm.depth, rm.units, rm.frames, rm.handled⟩) h0 R₃ l₁ Fi nb (Heap.get?_push_size _ rfl) rfl) fun r s' z => ?_
      rcases r with e | fl
      · exact z.elim
      · exact z.ext x₁)
/-! ### a list taken n times -/
theorem BV_mul_list {a : Addr} {xs : List MV} {n : Nat} (ha : σ a = some (.list xs)) (hl : xs.length * n ≤ 1000000) (hn : n ≤ 1000000) (q : ∀ c, σ c = none → Q (.ref c) (σ.set c (.list (List.replicate n xs).flatten))) : BV C k (binaryOp .Mult) (.ref a) (.int n) σ Q X := fun A env L m frs g s va vb rm R ra rb => by
  rw [ra.refI]
  obtain ⟨t, rfl⟩ := rb.intI
  obtain ⟨vs, n', e, vr⟩ := list_at R ha
  refine mul_list R.F (R.N L) e (by omega) (by omega) (by simp [vr.length]; omega) fun h' F' N' => ?_
  have e1 : List.foldl (fun x1 x2 => x1 ++ x2) #[] (List.replicate (if (vs.toArray).isEmpty = true then 0 else (n : Int).toNat) vs.toArray) = (List.replicate n vs).flatten.toArray := by
    have := listMul_foldl_if vs.toArray (n : Int).toNat
    rw [Int.toNat_natCast] at this ⊢
    exact this
  rw [e1] at N'
  have vv : ∀ n, VRs g (List.replicate n xs).flatten (List.replicate n vs).flatten := fun n => by
    induction n with
    | zero => exact .nil
    | succ n ih => rw [List.replicate_succ, List.replicate_succ, List.flatten_cons, List.flatten_cons]; exact vr.append ih
  exact PostV.newList R (noneAt _) F' N' s.toks (vv n) q
end
end Mine
end
section
open PySem PySem.W PySem.Calls PyProof.Rows PySem.Challenge PySem.SeqAt

namespace Mine
/-- what is handled, if anything, is an exception without a context -/
noncomputable def HandOk (A : Around) (h : Heap) : Prop := A.handled = none ∨ ∃ ea o fs, A.handled = some (.ref ea) ∧ h.get? ea = some o ∧ o.data = .fields fs ∧ fs[2]? = some Value.none
theorem entry_unchain : entryFor table "proto.unchain" = some Builtin.«proto.unchain» := entryFor_of_tree (by kernel_rfl)
section
variable {prog : Program} {w : World} {A : Around} {E : Value → Shared → Prop} {s : Shared}
theorem raiseNew_H {α : Type} {e : Addr} {oe : Obj} {fs : Array Value} {Q : α → Shared → Prop} (ho : s.heap.get? e = some oe) (hd : oe.data = .fields fs) (h2 : 2 < fs.size) (hH : HandOk A s.heap)
    (h : ∀ h' o', Heap.ExtBut e s.heap h' → h'.get? e = some o' → o'.cls = oe.cls → E (.ref e) { s with heap := h' }) : wpAny (model prog w) A (raiseNew (.ref e) : Sem α) Q E s := by
  unfold raiseNew
  refine wpAny_bind (wpAny_handled ?_)
  rcases hH with hh | ⟨ea, o, fs', hh, he, hf, hn⟩
  · rw [hh]
    exact wpAny_bind (wpAny_pure (wpAny_throw (h s.heap oe (fun a o _ e => e) ho rfl)))
  · rw [hh]
    by_cases q : ea = e
    · subst q
      dsimp only
      rw [if_neg (by simp)]
      exact wpAny_bind (wpAny_pure (wpAny_throw (h s.heap oe (fun a o _ e => e) ho rfl)))
    · dsimp only
      rw [if_pos (by simpa using q)]
      refine wpAny_bind (wpAny_holding (wpAny_runValue (codeAny_builtin entry_unchain ?_)))
      unfold Builtin.«proto.unchain»
      dsimp only
      refine wpAny_bind (wpAny_field he hf hn ?_)
      rw [if_pos (by rfl)]
      refine wpAny_bind (wpAny_pure ?_)
      refine wpAny_pure (M := model prog w) (A := A.under (.builtin "proto.unchain" ⟨[.ref e, .ref ea, .ref ea, .bool false], []⟩)) (a := Fin.done (.ret .none)) ?_
      dsimp only
      unfold updateField
      refine wpAny_bind (wpAny_bind (wpAny_load ho ?_))
      rw [hd]
      dsimp only
      rw [if_pos h2]
      refine wpAny_update ho ?_
      exact wpAny_throw (h _ _ (Heap.SameBut.update ..).extBut (Heap.get?_update_self _ ho (Obj.isFreed_of_fields (Obj.data_mapFields hd _))) (Obj.cls_mapFields ..))
theorem pyNext_list_endH {it l : Addr} {i : Nat} {items : Array Value} {Q : Option Value → Shared → Prop} (hH : HandOk A s.heap)
    (hne : ∀ ea, A.handled = some (.ref ea) → ea ≠ it)
    (hit : s.heap.IsListIter it l i) (hl : s.heap.IsList l items) (hx : items[i]? = none)
    (hQ : ∀ h', Heap.ExtBut it s.heap h' → Q none { s with heap := h' }) : wpAny (model prog w) A (pyNext (.ref it)) Q E s := by
  obtain ⟨o, ho, hc, hd⟩ := id hit
  obtain ⟨ol, hol, _, nl, hdl⟩ := hl
  unfold pyNext
  refine wpAny_bind (wpAny_attempt (wpAny_callSpecial?_slot (name := Str.ofString "__next__") hit.typeIs slot_listiter_next
    (wpAny_call_entry slot_listiter_next hit.typeIs entry_listiter_next ?_ (args_listiter_next _))))
  show wpAny _ _ (field (.ref it) 0 >>= _) _ _ s
  refine wpAny_bind (wpAny_field ho hd (x := .ref l) rfl ?_)
  show wpAny _ _ (if (Value.ref l == Value.none) = true then _ else _) _ _ s
  rw [if_neg (show ¬ ((Value.ref l == Value.none) = true) from Bool.false_ne_true)]
  show wpAny _ _ (field (.ref it) 1 >>= _) _ _ s
  refine wpAny_bind (wpAny_field ho hd (x := .int i 0) rfl ?_)
  show wpAny _ _ (seqItems? (.ref l) >>= _) _ _ s
  refine wpAny_bind (wpAny_seqItems hol hdl ?_)
  simp only [Int.toNat_natCast, hx]
  refine wpAny_bind (wpAny_rule (wpAny_bind (wpAny_setField ho hd (by simp) ?_)))
  show wpAny _ _ (newExc (.type "StopIteration") [] >>= _) _ _ _
  refine wpAny_bind ?_
  simp only [newExc, newTuple]
  refine wpAny_bind (wpAny_newObj_type ?_ (by size_fits))
  refine wpAny_bind (m := firstArgMember _ _) (wpAny_of_eq (a := Value.none) (by first | rfl | (simp only [firstArgMember]; rfl)) ?_)
  refine wpAny_newObj_type ?_
  refine raiseNew_H (Heap.get?_push_size _ rfl) rfl (by rw [Array.size_append]; show 2 < 6 + _; omega) ?_ fun h' o' he ho' hcl => ?_
  · rcases hH with hh | ⟨ea, o₁, fs, hh, e1, e2, e3⟩
    · exact .inl hh
    · exact .inr ⟨ea, o₁, fs, hh, Heap.get?_push_of_some _ (Heap.get?_push_of_some _ ((Heap.SameBut.update ..).extBut _ _ (hne _ hh) e1)), e2, e3⟩
  · refine wpAny_bind (wpAny_isInstance (T := "StopIteration") (b := true) ⟨_, ho', hcl⟩ isSubtype_stop ?_)
    refine wpAny_pure (hQ _ fun a y ha e => ?_)
    have e₁ : (s.heap.update it (Obj.mapFields fun x => x.setIfInBounds 0 Value.none)).get? a = some y := (Heap.SameBut.update ..).extBut _ _ ha e
    refine he a y ?_ (Heap.get?_push_of_some _ (Heap.get?_push_of_some _ e₁))
    intro q
    have lt := Heap.lt_size e₁
    rw [q, Heap.size_push] at lt
    exact absurd lt (Nat.not_lt.mpr (Nat.le_succ _))
noncomputable def hadr (A : Around) : List Addr := match A.handled with | some (.ref ea) => [ea] | _ => []
/-- the walk of a comprehension over a list -/
theorem walksH {I ax : Addr} {items : Array Value} (hne : ax ≠ I) (hp : ∀ ea, A.handled = some (.ref ea) → ea ≠ I) :
    Walks prog w A I (I :: ax :: hadr A) [I] items.size (fun i v => items[i]? = some v) (fun i h => h.IsListIter I ax i ∧ h.IsList ax items ∧ HandOk A h) where
  sub := fun b hb => by simp at hb; simp [hb]
  frame := fun i h h' st hk => ⟨st.1.at fun o e => hk I (by simp) o e, st.2.1.at fun o e => hk ax (by simp) o e, by
    rcases st.2.2 with hh | ⟨ea, o, fs, hh, e1, e2, e3⟩
    · exact .inl hh
    · exact .inr ⟨ea, o, fs, hh, hk ea (by simp [hadr, hh]) o e1, e2, e3⟩⟩
  item := fun i s Q E hi st hQ => by
    refine wpAny_pyNext_list_item st.1 st.2.1 (x := items[i]) (by simp [hi]) fun h' hit' hs' => ?_
    refine hQ _ h' s.toks (by simp [hi]) ⟨hit', st.2.1.extBut hs'.extBut hne, ?_⟩ fun b o hb e => hs'.extBut b o (fun h => hb (by simp [h])) e
    rcases st.2.2 with hh | ⟨ea, o, fs, hh, e1, e2, e3⟩
    · exact .inl hh
    · exact .inr ⟨ea, o, fs, hh, hs'.extBut ea o (hp ea hh) e1, e2, e3⟩
  done := fun s Q E st hQ => pyNext_list_endH st.2.2 hp st.1 st.2.1 (by simp) fun h' he' => hQ h' s.toks fun b o hb e => he' b o (fun h => hb (by simp [h])) e
  self := fun _ _ _ _ st hQ => wpAny_pyIter_listiter st.1 hQ
end
section
variable {C : Cx} {k : Nat} {f : FI} {ρ : Env1} {σ : Sto} {X : ExcP} {XS : ExcS} {Q : MV → Sto → Prop} {QB : Bool → Sto → Prop} {QS : MF → Env1 → Sto → Prop} {g : Stab} {env : Env} {L : Addr} {m : Str → Option Value} {frs : List Frm} {s : Shared}
/-- the items taken out of a list of tuples -/
theorem comp_rest {A : Around} {x : Str} {px ps pc : Pos} {kk : Nat} {scope : Scope} {cl : List (Str × Addr)} {j : Int} {jn : Nat} {ys zs : List MV} {vs : List Value} {news₀ : List (Addr × Obj)} {S : List (Addr × Obj) → Prop} {Fin : List Value → List (Addr × Obj) → Prop}
    (hkind : scope.kind = .function) (hx : scope.names.lookup x = some .local) (hd : (x == ("__debug__" : Str)) = false) (hb : -(2 ^ 63) ≤ j ∧ j < 2 ^ 63)
    (vr : VRs g ys vs) (hg : ∀ a o, g a = some o → C.h₁.get? a = some o ∨ (a, o) ∈ news₀)
    (hS : ∀ nw, S nw → ∀ p ∈ news₀, p ∈ nw)
    (hit : ∀ (i : Nat) (y : MV), ys[i]? = some y → ∃ (ws : List MV) (z : MV), y = MV.tup ws ∧ seqIndex? j ws.length = some jn ∧ ws[jn]? = some z ∧ zs[i]? = some z)
    (fin : ∀ us nw, VRs g (zs.take ys.length) us → S nw → Fin us nw) :
    ∀ n i us nw, i + n = ys.length → us.length = i → VRs g (zs.take i) us → S nw → LCg.CompRest Pw C.w A C.h₁ L m (f.env L) (.Subscript (.Name x px) (.Constant (.int j) kk pc) ps) x scope cl s S (fun i v => (vs.toArray)[i]? = some v) Fin n i us nw
  | 0, i, us, nw, hi, hu, hr, hS' => by
    have e : i = ys.length := by omega
    subst e
    exact fin us nw hr hS'
  | n + 1, i, us, nw, hi, hu, hr, hS' => by
    refine LCg.CompRest.succ fun v I oI Cc oC D m₂ h tk E' hv hn hm F N off ne => ?_
    have hlt : i < ys.length := by omega
    obtain ⟨ws, z, e1, e2, e3, e4⟩ := hit i _ (List.getElem?_eq_getElem hlt)
    obtain ⟨v', hv', r⟩ := vr.get (List.getElem?_eq_getElem hlt)
    have : v = v' := by
      have hv2 : vs[i]? = some v := by simpa using hv
      rw [hv'] at hv2; exact (Option.some.inj hv2).symm
    subst this
    rw [e1] at r
    obtain ⟨a, us', o, n', rfl, hga, hc, hdt, vr'⟩ := r.tupI
    obtain ⟨y, hy, ry⟩ := vr'.get e3
    have ha : h.get? a = some o := by
      rcases hg a o hga with q | q
      · exact F.keep _ _ q
      · exact (N (a, o) (List.mem_cons_of_mem _ (List.mem_cons_of_mem _ (List.mem_cons_of_mem _ (hS _ hS' _ q))))).1
    have T : IsTup h a us'.toArray := isTup_of ha hc hdt
    have hC : h.get? Cc = some oC := (N (Cc, oC) (List.mem_cons_of_mem _ List.mem_cons_self)).1
    refine Subscript_ (wpAny_Name (wpAny_loadName_local (env := compEnvC scope cl Cc (f.env L)) hkind (lookup_relabel_local hx) (hn.ns hC) hm (wpAny_Constant_int ?_)) hd)
    refine tail_any (IsTup.typeIs (s := { s with heap := h, toks := tk + 1 }) T) slot_tuple_getitem.lookup (getItem_tuple (s := { s with heap := h, toks := tk + 1 }) T hb.1 hb.2 (by rw [List.size_toArray, vr'.length]; exact e2) (by simpa using hy) ?_) rfl
    refine LCg.CompEnd.intro F N nw (fun p hp => hp) off hS' ?_
    refine comp_rest hkind hx hd hb vr hg hS hit fin n (i + 1) (us ++ [y]) nw (by omega) (by rw [List.length_append, hu]; rfl) ?_ hS'
    have e5 : zs.take (i + 1) = zs.take i ++ [z] := by rw [List.take_add_one, e4]; rfl
    rw [e5]
    exact hr.append (.one ry)
theorem off1_mem {D : Addr} : ∀ {l : List (Addr × Obj)}, LCg.Off1 D l → ∀ p ∈ l, p.1 ≠ D
  | [], _, _, h => nomatch h
  | _ :: _, x, p, h => by
    rcases List.mem_cons.mp h with rfl | h
    · exact x.1
    · exact off1_mem x.2 p h
/-- `[x[j] for x in …]` -/
theorem comp_low {A : Around} {iter : Expr} {x : Str} {px px2 ps pc pos : Pos} {kk : Nat} {scope : Scope} {j : Int} {jn : Nat}
    (hH : A.handled = none ∨ ∃ ea o fs, A.handled = some (.ref ea) ∧ g ea = some o ∧ o.data = .fields fs ∧ fs[2]? = some Value.none)
    (hs : ∀ env x, foldedSetIterable iter env x = pure x)
    (hfree : ∀ y ∈ scope.names, y.2 ≠ .free) (hcell : ∀ y ∈ scope.names, y.2 ≠ .cell) (hkind : scope.kind = .function) (hnames : ∀ y ∈ scope.names, y.2 = .local → scope.names.lookup y.1 = some .local)
    (hx : scope.names.lookup x = some .local) (hd : (x == ("__debug__" : Str)) = false) (hb : -(2 ^ 63) ≤ j ∧ j < 2 ^ 63)
    (h : wpAny C.M A (eval iter (f.env L)) (PostV C g ((f.env L, L, m) :: frs) (fun v σ₁ => ∃ a ys zs, v = .ref a ∧ σ₁ a = some (.list ys) ∧ ys.length ≤ 1000000 ∧ zs.length = ys.length ∧
      (∀ (i : Nat) (y : MV), ys[i]? = some y → ∃ (ws : List MV) (z : MV), y = MV.tup ws ∧ seqIndex? j ws.length = some jn ∧ ws[jn]? = some z ∧ zs[i]? = some z) ∧ ∀ c, σ₁ c = none → Q (.ref c) (σ₁.set c (.list zs)))) (PostX C g ((f.env L, L, m) :: frs) X) s) :
    wpAny C.M A (eval (.ListComp (.Subscript (.Name x px) (.Constant (.int j) kk pc) ps) [⟨.Name x px2, iter, [], 0⟩] scope pos) (f.env L)) (PostV C g ((f.env L, L, m) :: frs) Q) (PostX C g ((f.env L, L, m) :: frs) X) s := by
  rw [eval_ListComp]
  refine wpAny_comprehension_free (use := none) rfl (hs _) (closureFor_none hfree) hkind hnames (wpAny_mono h (fun xv s₁ z => ?_) fun _ _ e => e)
  obtain ⟨mv, g₁, σ₁, x₁, R₁, r₁, ax, ys, zs, rfl, ha, hl, hz, hit, q⟩ := z
  rw [r₁.refI]
  obtain ⟨vs, n, e, vr⟩ := list_at R₁ ha
  have hlist := isList_of e
  have hlt : ax < s₁.heap.objs.size := Heap.lt_size e
  refine wpAny_pyIter_list hlist ?_
  have up : ∀ b o, s₁.heap.get? b = some o → (s₁.heap.push { cls := .type "list_iterator", data := .fields #[.ref ax, .int 0 0] }).get? b = some o := fun b o e => Heap.get?_push_of_some _ e
  have F := R₁.F
  have N := R₁.N L
  have gin : ∀ a o, g₁ a = some o → C.h₁.get? a = some o ∨ (a, o) ∈ restOf C.h₁ L s₁.heap := fun a o e => by
    cases q : C.h₁.get? a with
    | some y => left; have := R₁.base _ _ q; rw [this] at e; cases e; rfl
    | none => right; exact mem_restOf.mpr ⟨R₁.keep _ _ e, (fun q => by have := R₁.frs.1.2.2.2.2.1; dsimp only at q; rw [q, this] at e; cases e), q⟩
  have hHand : A.handled = none ∨ ∃ ea o fs, A.handled = some (.ref ea) ∧ g₁ ea = some o ∧ o.data = .fields fs ∧ fs[2]? = some Value.none := by
    rcases hH with h0 | ⟨ea, o, fs, h0, h1, h2⟩
    · exact .inl h0
    · exact .inr ⟨ea, o, fs, h0, x₁ _ _ h1, h2⟩
  have hne : ∀ ea, A.handled = some (.ref ea) → ea < s₁.heap.objs.size := fun ea hh => by
    rcases hHand with h0 | ⟨ea', o, fs, h0, h1, _⟩
    · rw [h0] at hh; cases hh
    · rw [h0] at hh; cases hh; exact Heap.lt_size (R₁.keep _ _ h1)
  refine LCg.block_U (S := fun nw => ∀ p ∈ restOf C.h₁ L s₁.heap, p ∈ nw) (m := m) (L := L) (h₀ := C.h₁) (Fin := LCg.FinE C.h₁ L m { s₁ with heap := s₁.heap.push { cls := .type "list_iterator", data := .fields #[.ref ax, .int 0 0] } } (PostV C g ((f.env L, L, m) :: frs) Q))
    (walksH (I := s₁.heap.objs.size) (ax := ax) (items := vs.toArray) (Nat.ne_of_lt hlt) (fun ea hh => Nat.ne_of_lt (hne ea hh))) (by rw [List.size_toArray, vr.length, sizeLine_eq]; omega) (fun i h st => by obtain ⟨o, e, _⟩ := st.1; exact ⟨o, e⟩)
    (fun i h h' o nw st e1 e2 kb N' S' => ?_) hcell hkind hx ⟨⟨_, Heap.get?_push_size _ rfl, rfl, rfl⟩, hlist.push _, ?_⟩ (fun b hb => ?_) (F.keeps up) (N.grown up) (Nat.ne_of_lt F.ns.lt) (next_is_new F) (fun p hp => Nat.ne_of_lt (Heap.lt_size (N p hp).1)) (fun p hp => hp)
    ?_ ?_
  · refine ⟨?_, ?_, ?_⟩
    · obtain ⟨o', q, r⟩ := st.1; rw [e1] at q; cases q; exact ⟨o, e2, r⟩
    · exact ⟨W.listOf vs.toArray n, (N' _ (S' _ (R₁.inRest ha e))).1, rfl, n, rfl⟩
    · rcases hHand with h0 | ⟨ea, o', fs, h0, h1, h2, h3⟩
      · exact .inl h0
      · refine .inr ⟨ea, o', fs, h0, ?_, h2, h3⟩
        rcases gin ea o' h1 with q | q
        · exact kb _ _ q
        · exact (N' _ (S' _ q)).1
  · rcases hHand with h0 | ⟨ea, o', fs, h0, h1, h2, h3⟩
    · exact .inl h0
    · exact .inr ⟨ea, o', fs, h0, up _ _ (R₁.keep _ _ h1), h2, h3⟩
  · show b < (s₁.heap.push _).objs.size
    rw [Heap.size_push]
    rcases List.mem_cons.mp hb with rfl | hb
    · exact Nat.lt_succ_self _
    · rcases List.mem_cons.mp hb with rfl | hb
      · exact Nat.lt_succ_of_lt hlt
      · unfold hadr at hb
        split at hb
        · rename_i ea hh
          rw [List.mem_singleton.mp hb]; exact Nat.lt_succ_of_lt (hne _ hh)
        · cases hb
  · rw [List.size_toArray]
    refine comp_rest hkind hx hd hb vr gin (fun nw hS => hS) hit (fun us nw hr hS D hp tk F' N' o1 => ?_) _ 0 [] _ (by simp [vr.length]) rfl (by rw [List.take_zero]; exact .nil) fun p hp => hp
    have R₂ := R₁.ofNews (h' := hp) (extra := [(D, LCg.lst us)]) F' (fun p hp => by
      rcases List.mem_cons.mp hp with rfl | hp
      · exact N' _ (.head _)
      · exact N' _ (.tail _ (hS _ hp))) tk
    have fresh : Fresh g₁ σ₁ ((f.env L, L, m) :: frs) D := by
      refine R₁.fresh ?_
      cases q : s₁.heap.get? D with
      | none => rfl
      | some y =>
        have z1 := N' (D, LCg.lst us) (.head _)
        have z2 : (D, y) ∈ restOf C.h₁ L s₁.heap := mem_restOf.mpr ⟨q, z1.2.1, z1.2.2⟩
        exact absurd rfl (off1_mem o1 _ (hS _ z2))
    have e5 : zs.take ys.length = zs := by rw [← hz]; exact List.take_length
    rw [e5] at hr
    exact ⟨.ref D, g₁, _, x₁, R₂.addS (mo := .list zs) fresh ⟨us, us.length, (N' _ (.head _)).1, hr⟩, .ref D, q D fresh.s⟩
  · intro D Cc h tk m' us news' F' N' o1 hn hC₀ hD₀ hCL hDL hCD offC fin
    refine ⟨m', hn, fun h'' hs'' => fin D h'' tk (F'.change hs'' hCL hC₀) (fun p hp => ?_) o1⟩
    refine ⟨hs''.extBut _ _ ?_ (N' p hp).1, (N' p hp).2⟩
    rcases List.mem_cons.mp hp with rfl | hp
    · exact Ne.symm hCD
    · exact offC p hp
theorem EV_CompItem {iter : Expr} {x : Str} {px px2 ps pc pos : Pos} {kk : Nat} {scope : Scope} {j : Int} (jn : Nat)
    (h : EV C (k + 2) f iter ρ σ (fun v σ₁ => ∃ a ys zs, v = .ref a ∧ σ₁ a = some (.list ys) ∧ ys.length ≤ 1000000 ∧ zs.length = ys.length ∧
      (∀ (i : Nat) (y : MV), ys[i]? = some y → ∃ (ws : List MV) (z : MV), y = MV.tup ws ∧ seqIndex? j ws.length = some jn ∧ ws[jn]? = some z ∧ zs[i]? = some z) ∧ ∀ c, σ₁ c = none → Q (.ref c) (σ₁.set c (.list zs))) X)
    (hs : ∀ env x, foldedSetIterable iter env x = pure x)
    (hok : ((scope.names.all fun y => !(y.2 == .free) && !(y.2 == .cell) && (!(y.2 == .local) || scope.names.lookup y.1 == some .local)) && (scope.kind == .function)) = true)
    (hx : scope.names.lookup x = some .local) (hd : (x == ("__debug__" : Str)) = false) (hb : (decide (-(2 ^ 63) ≤ j) && decide (j < 2 ^ 63)) = true) :
    EV C (k + 2) f (.ListComp (.Subscript (.Name x px) (.Constant (.int j) kk pc) ps) [⟨.Name x px2, iter, [], 0⟩] scope pos) ρ σ Q X :=
  fun A L m frs g s rm R lc => by
    rw [Bool.and_eq_true, List.all_eq_true] at hok
    rw [Bool.and_eq_true, decide_eq_true_eq, decide_eq_true_eq] at hb
    have hok1 := hok.1
    refine comp_low (.inl (rm.handled (by omega))) hs (fun y hy q => ?_) (fun y hy q => ?_) (by simpa using hok.2) (fun y hy q => ?_) hx hd hb (h A L m frs g s rm R lc)
    · have := hok1 y hy; rw [q] at this; simp at this
    · have := hok1 y hy; rw [q] at this; simp at this
    · have := hok1 y hy; rw [q] at this; simpa using this
end
end Mine
end
section
open PySem PySem.W PySem.Calls PyProof.Rows PySem.Challenge PySem.SeqAt
set_option maxHeartbeats 2000000
namespace Mine
noncomputable abbrev bmE : List Value := [.type "Exception", .type "BaseException", .type "object"]
section
variable {C : Cx} {k : Nat} {f : FI} {ρ : Env1} {σ : Sto} {X : ExcP} {XS : ExcS} {Q : MV → Sto → Prop} {QB : Bool → Sto → Prop} {QS : MF → Env1 → Sto → Prop} {g : Stab} {env : Env} {L : Addr} {m : Str → Option Value} {frs : List Frm} {s : Shared}
theorem exc_cls {h : Heap} (X : C.KK.In h) : h.get? 51 = some (excClassObj "SyntaxFault" "SyntaxFault" 51 50 [.ref 31] (.ref 31 :: bmE) true [] [] false none none (some (.ref 35)) none (some (.str "SyntaxFault" 216)) (some (.str "SyntaxFault" 224)) (some (.bool true)) "Exception.__new__") :=
  X _ _ (by kernel_rfl)
theorem exc_tail {h : Heap} (X : C.KK.In h) : OwnTail h bmE (.ref 31 :: bmE) := tail_of_in X (by kernel_rfl)
/-- the exception's class called -/
theorem CV_exc {kk : Nat} {args : List MV} (hl : args.length ≤ 1000) (h : ∀ a, σ a = none → CV C kk (.ref 48) (.ref a :: args) (σ.set a (.exc none)) (fun v σ' => v = .none ∧ Q (.ref a) σ') X) : CV C (kk + 1) (.ref 51) args σ Q X :=
  fun A frs g s vs hne rm R vr => by
    obtain ⟨hh, gs, dr, t, os⟩ := s
    have XK : C.KK.In hh := R.Kin
    have hC := exc_cls XK
    have T := exc_tail XK
    have call_ : Looks C.M hh (specialOf (.ref 51) "__call__") (some (.builtin "type.__call__")) := looks_specialIn XK (by kernel_rfl)
    have typ : Looks C.M hh (isInstance (.ref 51) (.type "type")) true := looks_instIn XK (by kernel_rfl)
    have hm : Looks C.M hh (mroOf (.ref 51)) (.ref 51 :: .ref 31 :: bmE) := ((Looks.ld (part := none) hC).andThen .now).andThen .now
    have self : Looks C.M hh (isSubtype (.ref 51) (.ref 51)) true := looks_mroIn XK (by kernel_rfl)
    have hi : Looks C.M hh (typeLookup (.ref 51) "__init__") (some (.ref 48)) := looks_findIn XK (by kernel_rfl)
    have made : ∀ {A E Q}, Q (some "Exception.__new__") ⟨hh, gs, dr, t, os⟩ → wpAny C.M A (Bind.madeBy (.ref 51)) Q E ⟨hh, gs, dr, t, os⟩ := fun q => wpAny_madeBy_exc hC q
    refine codeAny_of_tree ?_
    show wpAny _ _ (callAny (.ref 51) _) _ _ _
    refine nd_load hC ?_
    show wpAny _ _ (callAny.viaDunder (.ref 51) _) _ _ _
    unfold callAny.viaDunder
    refine wpAny_bind (call_.at ?_)
    dsimp only
    rw [tc_bind]
    refine wpAny_bind (wpAny_pure (wpAny_bind (wpAny_pure ?_)))
    refine wpAny_pure (a := Fin.again (.call (.builtin "type.__call__") ⟨.ref 51 :: vs, []⟩)) (And.intro rfl ?_)
    refine codeAny_call_builtin_at (Code.quiet_builtin _ (by decide +kernel)) entry_typeCall (check_slot tc_kind tc_split typ (tc_args _ _ _) ?_)
    unfold Builtin.«type.__call__»
    dsimp only
    repeat (first | simp only [Bool.false_eq_true, if_false] | with_reducible refine made ?_ | with_reducible refine wpAny_call ?_ | lk)
    have hb : bmE.contains (.type "Exception") = true := by decide +kernel
    refine codeAny_call_builtin_code (Code.quiet_builtin _ PySem.F.excBase_Exception.quiet) (wpAny_check_new_subU PySem.F.excBase_Exception hb T hC ?_)
    refine codeAny_exc_new_subU PySem.F.excBase_Exception hb PySem.F.excBase_Exception T hC ?_ (by rw [vr.length, sizeLine_eq]; omega)
    have tup : Obj := { cls := .type "tuple", data := .seq vs.toArray }
    have k : ∀ b o, hh.get? b = some o → ((hh.push { cls := .type "tuple", data := .seq vs.toArray }).push (excObj hh.objs.size none)).get? b = some o := fun b o e => Heap.get?_push_of_some _ (Heap.get?_push_of_some _ e)
    have hx : ((hh.push { cls := .type "tuple", data := .seq vs.toArray }).push (excObj hh.objs.size none)).get? (hh.objs.size + 1) = some (excObj hh.objs.size none) := by
      have := Heap.get?_push_size (hh.push { cls := .type "tuple", data := .seq vs.toArray }) (o := excObj hh.objs.size none) rfl
      rwa [Heap.size_push] at this
    have na : hh.get? (hh.objs.size + 1) = none := noneAt1 hh
    have Fa := R.fresh na
    have R₁ : Rel C g σ frs { heap := (hh.push { cls := .type "tuple", data := .seq vs.toArray }).push (excObj hh.objs.size none), gens := gs, drawn := dr, toks := t, os := os } :=
      ⟨R.base, fun a o e => k _ _ (R.keep a o e), fun a mo e => ⟨(R.objs a mo e).1, (R.objs a mo e).2.at fun o => k _ _⟩, R.frs.to (fun p hp mm z => z.keeps k) (fun _ _ z => z) fun _ _ z => z, R.gens, R.os⟩
    have R₂ := R₁.addS (mo := .exc none) Fa ⟨_, hx⟩
    have t1 : Looks C.M ((hh.push { cls := .type "tuple", data := .seq vs.toArray }).push (excObj hh.objs.size none)) (typeOf (.ref (hh.objs.size + 1))) (.ref 51) := (Looks.ld hx).andThen .now
    have s1 := self.keeps k
    have i1 := hi.keeps k
    have b1 : Looks C.M ((hh.push { cls := .type "tuple", data := .seq vs.toArray }).push (excObj hh.objs.size none)) (bindSpecial (.ref 48) (.ref (hh.objs.size + 1))) (.ref 48, [.ref (hh.objs.size + 1)]) := bind_fn R₂.Kin (.ref (hh.objs.size + 1)) (by kernel_rfl)
    have rm' : Room (A.under (.builtin "type.__call__" ⟨.ref 51 :: vs, []⟩)) kk frs := by
      refine ⟨?_, ?_, ?_, fun hk => rm.handled (by omega)⟩
      · have := rm.depth; show A.depth + (Code.builtin "type.__call__" ⟨.ref 51 :: vs, []⟩).weight + kk < _; rw [tc_weight]; omega
      · have := rm.units; show A.units + (Code.builtin "type.__call__" ⟨.ref 51 :: vs, []⟩).cUnits + 20 * kk + 20 < _
        rw [tc_units]; omega
      · show pushEnvs [] A.frames = _
        rw [rm.frames]; rfl
    dsimp only
    unfold isInstance callSpecial? specialOf
    repeat (first | with_reducible refine wpAny_call ?_ | lk)
    refine codeAny_mono (h _ Fa.s (A.under (.builtin "type.__call__" ⟨.ref 51 :: vs, []⟩)) frs g _ _ hne rm' R₂ (.cons (.ref _) vr)) fun r s' z => ?_
    rcases r with e | (v | _ | _ | _)
    · exact z
    all_goals first | exact z.elim | skip
    obtain ⟨mv, g', σ', x, R', v', rfl, q⟩ := z
    rw [v'.noneI]
    exact wpAny_pure (wpAny_pure ⟨_, g', σ', x, R', .ref _, q⟩)
end
end Mine
end
section
open PySem PySem.W PySem.Calls PyProof.Rows PySem.Challenge PySem.SeqAt PySem.Builtin PySem.Builtin.ObjectAttr
set_option maxHeartbeats 2000000
namespace Mine
section
variable {C : Cx} {k : Nat} {f : FI} {ρ : Env1} {σ : Sto} {X : ExcP} {XS : ExcS} {Q : MV → Sto → Prop} {QB : Bool → Sto → Prop} {QS : MF → Env1 → Sto → Prop} {g : Stab} {env : Env} {L : Addr} {m : Str → Option Value} {frs : List Frm} {s : Shared}
noncomputable abbrev cdE : ClassData := { name := "SyntaxFault", bases := [.ref 31], mro := .ref 51 :: .ref 31 :: bmE, ns := 50, qualname := "SyntaxFault", hasDict := true, slotNames := [], subclasses := [], abstract := false, collection := none, hasDel := false }
theorem cdE_in : clsIn C.KK 51 = some cdE := by kernel_rfl
theorem refuse_exc (self : Value) : refuseLoop self "__setattr__" (.ref 51 :: .ref 31 :: bmE) = pure () := by
  rw [refuseLoop_ref, refuseLoop_ref]; kernel_rfl
theorem osaX {A : Around} {a t : Addr} {dd : Option Addr} {x : Str} {tk : Tok} {v : Value} {Rr : Result → Shared → Prop} (XK : C.KK.In s.heap) (ho : s.heap.get? a = some (excObj t dd)) (ht : takerIn C.KK 51 x = some none)
    (h : ∀ b, wpAny C.M A.in1 (storeInOwnDict (.ref a) (.ref 51) (.str x tk) x v b) (fun fin s' => match fin with | .done f => Rr (.ok f) s' | .again c' => c'.quiet = true ∧ codeAny C.M A c' Rr s') (fun e s' => Rr (.error e) s') s) :
    codeAny C.M A (.call (.builtin "object.__setattr__") ⟨[.ref a, .str x tk, v], []⟩) Rr s := by
  have SF := PySem.F.store_object
  have ty : Looks C.M s.heap (typeOf (.ref a)) (.ref 51) := (Looks.ld ho).andThen .now
  have sub : Looks C.M s.heap (isInstance (.ref a) (.type "object")) true := ty.andThen (looks_mroIn XK (by kernel_rfl))
  have hm : Looks C.M s.heap (mroOf (.ref 51)) (.ref 51 :: .ref 31 :: bmE) := ((Looks.ld (part := none) (exc_cls XK)).andThen .now).andThen .now
  refine codeAny_call_builtin SF.slot.plain SF.entry (@check_slot C.M _ _ s "object.__setattr__" "object" "__setattr__" (.ref a) [.str x tk, v] [] _ SF.kind SF.split sub (SF.args (.ref a) (.str x tk) v) ?_)
  obtain ⟨attr, ha, hr⟩ := Option.bind_eq_some_iff.mp ht
  have L3 : Looks C.M s.heap (storeTaker? attr) none := by
    cases attr with
    | none => cases hr; exact .now
    | some a =>
      obtain ⟨b, hb, e⟩ := Option.map_eq_some_iff.mp hr
      refine (looks_takesIn XK hb).andThen ?_
      cases b with
      | true => cases e
      | false => exact .now
  rw [osa_eq, refuse_eq]
  refine wpAny_bind (wpAny_bind (ty.here (wpAny_bind (hm.here ?_))))
  rw [refuse_exc]
  refine wpAny_pure (wpAny_bind (ty.here (wpAny_bind ((looks_findIn XK ha).here (wpAny_bind (L3.here ?_))))))
  exact h _
/-- a store into a dict of names -/
theorem store_ns {A : Around} {d : Addr} {x : Str} {tk : Tok} {v : Value} {es : List DictEntry} {n : Nat} {W : Fin → Shared → Prop} {E : Value → Shared → Prop} (he : s.heap.get? d = some (dictOf es n)) (hl : (PySem.W.getL x es).isSome = true) (hz : (putL x (PyData.keyHash C.w.params x) (.str x s.toks) v es).length ≤ 1000)
    (h : ∀ h', h'.get? d = some (dictOf (putL x (PyData.keyHash C.w.params x) (.str x s.toks) v es) (putN x es n)) → Heap.SameBut d s.heap h' → W (.done (.ret .none)) { s with heap := h', toks := s.toks + 1 }) :
    wpAny C.M A (storeInDict d (.str x tk) x v) W E s := by
  refine wpAny_bind (wpAny_pure (wpAny_bind ?_))
  unfold nsSet
  refine wpAny_bind (wpAny_bind (wpAny_askSetting (wpAny_pure (wpAny_bind (wpAny_mkText (wpAny_bind (wpAny_loadPart he ?_)))))))
  dsimp only
  have c : (!(es.toArray).any (·.key.isStr x) && (es.toArray).any (·.refKey)) = false := by
    rw [← Array.any_toList, ← Array.any_toList]
    unfold PySem.W.getL at hl
    dsimp only
    split at hl
    · rename_i en he
      rw [List.any_eq_true.mpr ⟨en, List.mem_of_find?_eq_some he, List.find?_some he⟩]; rfl
    · split at hl
      · cases hl
      · rename_i z; rw [Bool.not_eq_true] at z; rw [z, Bool.and_false]
  rw [aRefKeyMayBeTheName_at, c]
  refine wpAny_updatePart he ?_
  have e1 := putName_dict x (PyData.keyHash C.w.params x) (.str x s.toks) v es n
  have D' : (s.heap.update d (Obj.putName x (PyData.keyHash C.w.params x) (.str x s.toks) v)).get? d = some (dictOf (putL x (PyData.keyHash C.w.params x) (.str x s.toks) v es) (putN x es n)) := by
    rw [Heap.get?_update_self _ he (by rw [e1]; rfl), e1]
  refine wpAny_bind (wpAny_lookBehind D' (pastItsLine_dict (by rw [List.size_toArray, sizeLine_eq]; omega)) ?_)
  exact wpAny_pure (h _ D' (Heap.SameBut.update ..))
theorem own1 {A : Around} {a t d : Addr} {W : Option Addr → Shared → Prop} {E : Value → Shared → Prop} (XK : C.KK.In s.heap) (hx : s.heap.get? a = some (excObj t (some d))) (h : W (some d) s) : wpAny C.M A (ownDictForStores (.ref a)) W E s := by
  refine wpAny_bind (wpAny_loadPart hx (wpAny_bind ((looks_clsIn XK (cdE_in (C := C))).here ?_)))
  exact wpAny_pure h
theorem own0 {A : Around} {a t : Addr} {W : Option Addr → Shared → Prop} {E : Value → Shared → Prop} (XK : C.KK.In s.heap) (hx : s.heap.get? a = some (excObj t none))
    (h : ∀ h', h'.get? s.heap.objs.size = some emptyDict → h'.get? a = some (excObj t (some s.heap.objs.size)) → Heap.ExtBut a s.heap h' → W (some s.heap.objs.size) { s with heap := h' }) : wpAny C.M A (ownDictForStores (.ref a)) W E s := by
  refine wpAny_bind (wpAny_loadPart hx (wpAny_bind ((looks_clsIn XK (cdE_in (C := C))).here ?_)))
  show wpAny _ _ (do
    let d ← alloc { cls := .type "dict", data := .dict #[] }
    update a fun o => { o with dict := some d }
    dictMade (.ref 51) a d) _ _ _
  refine wpAny_bind (wpAny_alloc (wpAny_bind ?_))
  have hx' : (s.heap.push emptyDict).get? a = some (excObj t none) := Heap.get?_push_of_some _ hx
  have hne : s.heap.objs.size ≠ a := Nat.ne_of_gt (Heap.lt_size hx)
  refine wpAny_update hx' (wpAny_pure (h _ ?_ ?_ ?_))
  · rw [Heap.get?_update_other _ _ (Ne.symm hne)]; exact Heap.get?_push_size _ rfl
  · exact Heap.get?_update_self _ hx' rfl
  · intro b o hb e
    rw [Heap.get?_update_other _ _ (Ne.symm hb)]; exact Heap.get?_push_of_some _ e
theorem SetA_exc1 {a d : Addr} {x : Str} {b : MV} {fs fs' : Env1} {P : Sto → Prop} (ha : σ a = some (.exc (some d))) (hσ : σ d = some (.ns fs)) (hp : Put x b fs fs') (ho : onceKey x fs' = true) (ht : takerIn C.KK 51 x = some none) (hl : fs'.length ≤ 1000) (q : P (σ.set d (.ns fs'))) : SetA C k (.ref a) x b σ P X :=
  fun A env L m frs g s vo vb rm R ra hb => by
    rw [ra.refI]
    obtain ⟨t, hx⟩ := (R.objs _ _ ha).2
    obtain ⟨es, n, he, hr⟩ := (R.objs _ _ hσ).2
    have I : InstAt s.heap a (excObj t (some d)) 51 (some (dictOf es n)) := ⟨hx, rfl, rfl, he⟩
    have hr' := hr.put (t := s.toks + 1) hp ho hb
    refine set_plain R.Kin I (by kernel_rfl) (osaX (s := { s with toks := s.toks + 1 }) R.Kin hx ht fun b' => ?_)
    refine wpAny_bind (wpAny_pure (wpAny_bind (own1 (s := { s with toks := s.toks + 1 }) R.Kin hx (store_ns (s := { s with toks := s.toks + 1 }) he hr.find (by rw [hr'.length]; exact hl) fun h' hd hs => ?_))))
    have hL : L ≠ d := by rintro rfl; have := R.frs.1.2.2.2.2.2.1; rw [this] at hσ; cases hσ
    exact ⟨g, _, .refl g, R.change (mo' := .ns fs') hσ (fun c y h1 _ h3 => (hs.2 c h1).trans h3) (R.frs.1.2.2.1.sameBut hs hL) ⟨_, _, hd, hr'⟩ _, q⟩
theorem SetA_exc0 {a : Addr} {x : Str} {b : MV} {P : Sto → Prop} (ha : σ a = some (.exc none)) (ht : takerIn C.KK 51 x = some none) (q : ∀ d, σ d = none → d ≠ a → P ((σ.set a (.exc (some d))).set d (.ns [(x, b)]))) : SetA C k (.ref a) x b σ P X :=
  fun A env L m frs g s vo vb rm R ra hb => by
    rw [ra.refI]
    obtain ⟨t, hx⟩ := (R.objs _ _ ha).2
    have I : InstAt s.heap a (excObj t none) 51 none := ⟨hx, rfl, rfl, trivial⟩
    have Fd := R.fresh (noneAt s.heap)
    have hL : L ≠ a := by rintro rfl; have := R.frs.1.2.2.2.2.2.1; rw [this] at ha; cases ha
    refine set_plain R.Kin I (by kernel_rfl) (osaX (s := { s with toks := s.toks + 1 }) R.Kin hx ht fun b' => ?_)
    refine wpAny_bind (wpAny_pure (wpAny_bind (own0 (s := { s with toks := s.toks + 1 }) R.Kin hx fun h₁ e1 e2 e3 => ?_)))
    have R₁ := R.change (mo' := .exc (some s.heap.objs.size)) ha (fun c y h1 _ h3 => e3 c y h1 h3) (R.frs.1.2.2.1.extBut e3 hL) ⟨t, e2⟩ (s.toks + 1)
    have hda : s.heap.objs.size ≠ a := Nat.ne_of_gt (Heap.lt_size hx)
    have Fd' : Fresh g (σ.set a (.exc (some s.heap.objs.size))) ((env, L, m) :: frs) s.heap.objs.size := ⟨Fd.g, by rw [Sto.set_ne _ _ hda]; exact Fd.s, Fd.f⟩
    have R₂ := R₁.addS (mo := .ns []) Fd' ⟨[], 0, e1, rfl⟩
    have hr' : NsR C.w.params g (putL x (PyData.keyHash C.w.params x) (.str x (s.toks + 1)) vb []) [(x, b)] := NsR.put (es := []) (fs := []) (t := s.toks + 1) rfl .nil (by simp [onceKey]) hb
    refine store_ns (s := { s with heap := h₁, toks := s.toks + 1 }) (es := []) (n := 0) e1 rfl (by rw [hr'.length]; simp) fun h' hd hs => ?_
    have hL2 : L ≠ s.heap.objs.size := by intro q; exact Fd.f _ (.head _) q
    have R₃ := R₂.change (mo' := .ns [(x, b)]) (Sto.set_self ..) (fun c y h1 _ h3 => (hs.2 c h1).trans h3) (R₂.frs.1.2.2.1.sameBut hs hL2) ⟨_, _, hd, hr'⟩ (s.toks + 1 + 1)
    have e : (((σ.set a (.exc (some s.heap.objs.size))).set s.heap.objs.size (.ns [])).set s.heap.objs.size (.ns [(x, b)])) = ((σ.set a (.exc (some s.heap.objs.size))).set s.heap.objs.size (.ns [(x, b)])) := by
      funext c; unfold Sto.set; split <;> rfl
    rw [e] at R₃
    exact ⟨g, _, .refl g, R₃, q _ Fd.s hda⟩
end
end Mine
end
section
open PySem PySem.W PySem.Calls PyProof.Rows PySem.Challenge PySem.SeqAt PySem.Builtin PySem.Builtin.ObjectAttr
set_option maxHeartbeats 2000000
namespace Mine
noncomputable def Sto.del (σ : Sto) (a : Addr) : Sto := fun b => if b = a then none else σ b
section
variable {C : Cx} {k : Nat} {f : FI} {ρ : Env1} {σ : Sto} {X : ExcP} {XS : ExcS} {Q : MV → Sto → Prop} {QB : Bool → Sto → Prop} {QS : MF → Env1 → Sto → Prop} {g : Stab} {env : Env} {L : Addr} {m : Str → Option Value} {frs : List Frm} {s : Shared}
theorem Rel.delS {frs : List Frm} (R : Rel C g σ frs s) (a : Addr) : Rel C g (σ.del a) frs s := by
  refine ⟨R.base, R.keep, fun b mo e => ?_, R.frs.to (fun _ _ _ z => z) (fun _ _ z => z) fun p hp z => ?_, R.gens, R.os⟩
  · unfold Sto.del at e
    split at e
    · cases e
    · exact R.objs b mo e
  · unfold Sto.del; split <;> first | rfl | exact z
theorem Rel.live_ne {frs : List Frm} (R : Rel C g σ frs s) {a : Addr} {mo : MObj} (h : σ a = some mo) : ∀ p ∈ frs, p.2.1 ≠ a := fun p hp q => by
  have := (R.frs.mem p hp).2.2.2.2.2
  rw [q, h] at this; cases this
theorem raise_exc {A : Around} {W : Flow → Shared → Prop} {E : Value → Shared → Prop} {tm : Sem Value} (hh : A.handled = none)
    (h : wpAny C.M A tm (fun v s₁ => ∃ a t dd, v = .ref a ∧ C.KK.In s₁.heap ∧ s₁.heap.get? a = some (excObj t dd) ∧ E (.ref a) s₁) E s) :
    wpAny C.M A (raiseStmt env (some tm) none) W E s := by
  unfold raiseStmt
  refine wpAny_bind (wpAny_mono h (fun v s₁ z => ?_) fun _ _ z => z)
  obtain ⟨a, t, dd, rfl, XK, hx, hE⟩ := z
  have ty : Looks C.M s₁.heap (typeOf (.ref a)) (.ref 51) := (Looks.ld hx).andThen .now
  have ty2 : Looks C.M s₁.heap (typeOf (.ref 51)) (.type "type") := looks_typeIn XK (by kernel_rfl)
  have isb : Looks C.M s₁.heap (isInstance (.ref a) (.type "BaseException")) true := ty.andThen (looks_mroIn XK (by kernel_rfl))
  have f1 : Looks C.M s₁.heap (field (.ref a) 1) .none := looks_field hx 1 rfl
  obtain ⟨hp, gs, dr, tk, os⟩ := s₁
  have isT : Looks C.M hp (isType (.ref a)) false := (Looks.ld hx).andThen .now
  have isE : Looks C.M hp (isExcClass (.ref a)) false := isT.andThen .now
  have rI : Looks C.M hp (raisedInstance (.ref a)) (.ref a) := ty.andThen (ty2.andThen .now)
  have eF : Looks C.M hp (excFromValue (.ref a) "exceptions must derive from BaseException") (.ref a) := isE.andThen (isb.andThen .now)
  have sF : Looks C.M hp (setFlight (.ref a) none) () := f1.andThen .now
  refine wpAny_bind (wpAny_pure (wpAny_bind (wpAny_holding (eF.at ?_))))
  refine wpAny_bind (isT.at (wpAny_bind (rI.at (wpAny_bind (sF.at ?_)))))
  exact wpAny_raiseNew_none hh hE
theorem SV_Raise {e : Expr} {pos : Pos} (h : EV C (k + 2) f e ρ σ (fun v σ' => ∃ a d, v = .ref a ∧ σ' a = some (.exc (some d)) ∧ XS d ρ (σ'.del a)) (fun d σ' => XS d ρ σ')) : SV1 C (k + 2) f (.Raise (some e) none pos) ρ σ QS XS :=
  fun A L m frs g s rm R lc => by
    rw [arm_exec_Raise]
    refine wpAny_bind (wpAny_standAt ?_)
    have done : ∀ (a t d : Addr) (g₁ : Stab) (σ₁ : Sto) (s₁ : Shared), Ext g g₁ → Rel C g₁ σ₁ ((f.env L, L, m) :: frs) s₁ → Loc g₁ ρ m → σ₁ a = some (.exc (some d)) → XS d ρ (σ₁.del a) → PostXS C g (f.env L) L frs XS (.ref a) s₁ := fun a t d g₁ σ₁ s₁ x₁ R₁ l₁ ha q => by
      obtain ⟨t, hx⟩ := (R₁.objs _ _ ha).2
      exact ⟨a, d, ρ, m, g₁, σ₁.del a, rfl, x₁, ⟨none, trivial, R₁.delS a, ⟨(R₁.objs _ _ ha).1, by simp [Sto.del], R₁.live_ne ha⟩, _, _, hx, rfl, rfl, rfl, rfl, rfl⟩, l₁, q⟩
    have hk : A.handled = none := rm.handled (by omega)
    refine raise_exc hk (wpAny_bind (h.then rm R lc (fun _ _ z => z.toS lc fun _ _ q => q) fun mv g₁ σ₁ v s₁ x₁ R₁ l₁ r₁ q₁ => wpAny_bind (wpAny_standAt (wpAny_pure ?_))))
    obtain ⟨a, d, rfl, ha, q⟩ := q₁
    obtain ⟨t, hx⟩ := (R₁.objs _ _ ha).2
    exact ⟨a, t, _, r₁.refI, R₁.Kin, hx, done a t d g₁ σ₁ s₁ x₁ R₁ l₁ ha q⟩
end
end Mine
end
section
open PySem PySem.W PySem.Calls PyProof.Rows PySem.Challenge PySem.SeqAt PySem.Builtin PySem.Builtin.ObjectAttr
set_option maxHeartbeats 2000000
namespace Mine
section
variable {C : Cx} {k : Nat} {f : FI} {ρ : Env1} {σ : Sto} {X : ExcP} {XS : ExcS} {Q : MV → Sto → Prop} {QB : Bool → Sto → Prop} {QS : MF → Env1 → Sto → Prop} {g : Stab} {env : Env} {L : Addr} {m : Str → Option Value} {frs : List Frm} {s : Shared} {A : Around} {E : Value → Shared → Prop}
noncomputable abbrev h0 : Heap := { objs := #[] }
theorem h0_none (a : Addr) : h0.get? a = none := by
  cases q : h0.get? a with
  | none => rfl
  | some o => exact absurd (Heap.lt_size q) (Nat.not_lt_zero _)
theorem FrmsOk.fun_ {h : Heap} : ∀ {l : List Frm}, FrmsOk C g σ h l → h.FunFrames h0 (l.map (·.1))
  | [], _ => trivial
  | (e, L, m) :: r, ⟨⟨a1, a2, ⟨o, es, ep, e1, e2, _⟩, _⟩, t⟩ => ⟨by rw [a2]; decide, ⟨L, o, a1, h0_none L, e1, fun vs q => by rw [e2] at q; cases q⟩, FrmsOk.fun_ t⟩
theorem FrmsOk.addrs {h : Heap} : ∀ {l : List Frm}, FrmsOk C g σ h l → ∀ b ∈ (l.map (·.1)).filterMap (·.frame), ∃ p ∈ l, p.2.1 = b
  | [], _, b, hb => nomatch hb
  | (e, L, m) :: r, ⟨⟨a1, _⟩, t⟩, b, hb => by
    rw [List.map_cons, List.filterMap_cons] at hb
    dsimp only at hb
    rw [a1] at hb
    rcases List.mem_cons.mp hb with rfl | hb
    · exact ⟨_, .head _, rfl⟩
    · obtain ⟨p, hp, e⟩ := FrmsOk.addrs t b hb
      exact ⟨p, .tail _ hp, e⟩
theorem Rel.slots {frs : List Frm} (R : Rel C g σ frs s) {h' : Heap} (hs : Heap.SlotsOnly ((frs.map (·.1)).filterMap (·.frame)) s.heap h') (t : Nat) : Rel C g σ frs { s with heap := h', toks := t } := by
  have off : ∀ a, (∀ p ∈ frs, p.2.1 ≠ a) → h'.get? a = s.heap.get? a := fun a ha => hs.2.1 a fun hm => by
    obtain ⟨p, hp, e⟩ := R.frs.addrs a hm
    exact ha p hp e
  have gf : ∀ a o, g a = some o → ∀ p ∈ frs, p.2.1 ≠ a := fun a o e p hp q => by
    have := (R.frs.mem p hp).2.2.2.2.1
    rw [q, e] at this; cases this
  refine ⟨R.base, fun a o e => (off a (gf a o e)).trans (R.keep a o e), fun a mo e => ⟨(R.objs a mo e).1, (R.objs a mo e).2.at fun o e' => (off a (R.live_ne e)).trans e'⟩, R.frs.to (fun p hp mm z => ?_) (fun _ _ z => z) fun _ _ z => z, R.gens, R.os⟩
  obtain ⟨o, es, ep, e1, r⟩ := z
  obtain ⟨sl, e2⟩ := hs.2.2 _ _ e1
  exact ⟨_, es, ep, e2, r⟩
theorem Fresh.slots {h h' : Heap} {a : Addr} {o : Obj} (R : Rel C g σ frs s) (N : Fresh g σ frs a) (hs : Heap.SlotsOnly ((frs.map (·.1)).filterMap (·.frame)) s.heap h') : h'.get? a = s.heap.get? a :=
  hs.2.1 a fun hm => by
    obtain ⟨p, hp, e⟩ := R.frs.addrs a hm
    exact N.f p hp e
/-- a new entry of the traceback -/
theorem entry_X {e d : Addr} {oe : Obj} {vs : Array Value} {head : Value} {hadNext : Bool} {W : Unit → Shared → Prop} (hfr : A.frames = some (((env, L, m) :: frs).map (·.1)))
    (R : Rel C g σ ((env, L, m) :: frs) s) (N : Fresh g σ ((env, L, m) :: frs) e) (he : s.heap.get? e = some oe) (hc : oe.cls = .ref 51) (hdi : oe.dict = some d) (hd : oe.data = .fields vs) (h1 : 1 < vs.size) (h2 : vs[2]? = some .none)
    (h : ∀ s', Air C g σ ((env, L, m) :: frs) s' e d (some (rawInt L)) → W () s') :
    wpAny C.M A (do let a ← frameOf env; let pl ← entryPlaceOf L hadNext; let b ← EntryCells.newEntry head a .none (rawInt L) .none pl; setField (.ref e) 1 b) W E s := by
  have hf : env.frame = some L := R.frs.1.1
  refine wpAny_bind (wpAny_frameOf_fun (base := h0) (outer := frs.map fun p : Frm => p.1) hfr (FrmsOk.fun_ R.frs) hf fun h₁ hs₁ => ?_)
  refine wpAny_bind (wpAny_entryPlaceOf fun pl hpl => ?_)
  unfold EntryCells.newEntry newFields
  refine wpAny_bind (wpAny_newObj_type ?_ (hpl.sizeOk5 _ _ _ _ _))
  have R₁ := R.slots (h' := h₁) hs₁ s.toks
  have he₁ : h₁.get? e = some oe := (Fresh.slots (h := h₁) (o := oe) R N hs₁).trans he
  generalize hO : ({ cls := .type "traceback", dict := none, data := .fields ([head, .ref L, .none, rawInt L, .none] ++ (if pl.isEmpty then List.replicate 6 Value.none else pl)).toArray } : Obj) = O
  have he₂ := Heap.get?_push_of_some (h := h₁) O he₁
  refine wpAny_setField he₂ hd h1 (h _ ?_)
  have T := noneAt h₁
  have NT := R₁.fresh T
  have hTe : h₁.objs.size ≠ e := Nat.ne_of_gt (Heap.lt_size he₁)
  have hd₃ := Obj.data_mapFields hd (·.setIfInBounds 1 (Value.ref h₁.objs.size))
  have keep : Heap.ExtBut e h₁ ((h₁.push O).update e (Obj.mapFields (·.setIfInBounds 1 (Value.ref h₁.objs.size)))) := fun b o hb q => by
    rw [Heap.get?_update_other _ _ (Ne.symm hb)]; exact Heap.get?_push_of_some _ q
  refine ⟨R₁.other N keep s.toks, N, Obj.mapFields (·.setIfInBounds 1 (Value.ref h₁.objs.size)) oe, _, Heap.get?_update_self _ he₂ (Obj.isFreed_of_fields hd₃), (Obj.cls_mapFields ..).trans hc, ?_, hd₃, ?_, h₁.objs.size, O, _, ?_, NT, hTe, ?_, (by rw [← hO]), ?_⟩
  · obtain ⟨oc, od, oda, osl⟩ := oe
    dsimp only at hd hdi
    subst hd hdi
    rfl
  · rw [Array.getElem?_setIfInBounds_ne (by decide)]; exact h2
  · simp [h1]
  · rw [Heap.get?_update_other _ _ (Ne.symm hTe)]; exact Heap.get?_push_size _ (by rw [← hO]; rfl)
  · first | (simp; done) | (rcases hpl with rfl | ⟨_, _, _, _, _, _, _, rfl⟩ <;> simp)
/-- the frame at hand noted -/
theorem Air.note {e d : Addr} {fl : Option Value} {W : Unit → Shared → Prop} (hfr : A.frames = some (((env, L, m) :: frs).map (·.1))) (a : Air C g σ ((env, L, m) :: frs) s e d fl) (hfl : FlOk ((env, L, m) :: frs) fl)
    (h : ∀ s', Air C g σ ((env, L, m) :: frs) s' e d (some (rawInt L)) → W () s') : wpAny C.M A (noteFrame (.ref e) env) W E s := by
  obtain ⟨R, N, oe, vs, he, hc, hdi, hd, h2, tb⟩ := a
  have hf : env.frame = some L := R.frs.1.1
  have hsz : 2 < vs.size := (Array.getElem?_eq_some_iff.mp h2).1
  unfold noteFrame
  simp only [hf]
  cases fl with
  | none =>
    refine wpAny_bind (wpAny_field he hd (x := .none) tb ?_)
    rw [if_neg (by decide)]
    exact entry_X hfr R N he hc hdi hd (by omega) h2 h
  | some fl =>
    obtain ⟨T, oT, ts, t1, t2, t3, t4, t5, t6⟩ := tb
    refine wpAny_bind (wpAny_field he hd t1 ?_)
    rw [if_pos (show (Value.ref T != Value.none) = true from by simp)]
    refine wpAny_bind (wpAny_field t4 t5 t6 ?_)
    rcases hfl with rfl | rfl
    · rw [if_neg (show ¬ ((Value.none == rawInt L) = true) from by simp [rawInt])]
      refine wpAny_bind (wpAny_setField t4 t5 (Array.getElem?_eq_some_iff.mp t6).1 ?_)
      have keep : Heap.ExtBut T s.heap (s.heap.update T (Obj.mapFields (·.setIfInBounds 3 Value.none))) := (Heap.SameBut.update ..).extBut
      exact entry_X (s := { s with heap := s.heap.update T (Obj.mapFields (·.setIfInBounds 3 Value.none)) }) hfr (R.other t2 keep s.toks) N (keep _ _ (Ne.symm t3) he) hc hdi hd (by omega) h2 h
    · rw [if_pos (show (rawInt L == rawInt L) = true from by simp)]
      exact wpAny_pure (h _ ⟨R, N, oe, vs, he, hc, hdi, hd, h2, T, oT, ts, t1, t2, t3, t4, t5, t6⟩)
theorem Air.flight {frs : List Frm} {e d : Addr} {fl : Value} {fr : Option Addr} {W : Unit → Shared → Prop} (a : Air C g σ frs s e d (some fl)) (h : ∀ s', Air C g σ frs s' e d (some (fr.elim .none fun f => rawInt f)) → W () s') : wpAny C.M A (setFlight (.ref e) fr) W E s := by
  obtain ⟨R, N, oe, vs, he, hc, hdi, hd, h2, T, oT, ts, t1, t2, t3, t4, t5, t6⟩ := a
  unfold setFlight
  refine wpAny_bind (wpAny_field he hd t1 ?_)
  rw [if_pos (show (Value.ref T != Value.none) = true from by simp)]
  have hsz := (Array.getElem?_eq_some_iff.mp t6).1
  refine wpAny_setField t4 t5 hsz (h _ ?_)
  have keep : Heap.ExtBut T s.heap (s.heap.update T (Obj.mapFields (·.setIfInBounds 3 (fr.elim Value.none fun f => rawInt f)))) := (Heap.SameBut.update ..).extBut
  have hdT := Obj.data_mapFields t5 (·.setIfInBounds 3 (fr.elim Value.none fun f => rawInt f))
  exact ⟨R.other t2 keep s.toks, N, oe, vs, keep _ _ (Ne.symm t3) he, hc, hdi, hd, h2, T, _, _, t1, t2, t3, Heap.get?_update_self _ t4 (Obj.isFreed_of_fields hdT), hdT, by simp [hsz]⟩
theorem Air.drop {p : Frm} {frs : List Frm} {e d : Addr} {fl : Option Value} (a : Air C g σ (p :: frs) s e d fl) : Air C g σ frs s e d fl := by
  obtain ⟨R, N, oe, vs, he, hc, hdi, hd, h2, tb⟩ := a
  refine ⟨R.drop, ⟨N.g, N.s, fun q hq => N.f q (.tail _ hq)⟩, oe, vs, he, hc, hdi, hd, h2, ?_⟩
  cases fl with
  | none => exact tb
  | some fl =>
    obtain ⟨T, oT, ts, t1, t2, t3, t4⟩ := tb
    exact ⟨T, oT, ts, t1, ⟨t2.g, t2.s, fun q hq => t2.f q (.tail _ hq)⟩, t3, t4⟩
/-- a frame left -/
theorem Air.leave {e d : Addr} {fl : Option Value} {W : Unit → Shared → Prop} (hfr : A.frames = some (((env, L, m) :: frs).map (·.1))) (a : Air C g σ ((env, L, m) :: frs) s e d fl) (hfl : FlOk ((env, L, m) :: frs) fl)
    (h : ∀ s', Air C g σ frs s' e d (some .none) → W () s') : wpAny C.M A (leaving env (.ref e)) W E s :=
  wpAny_bind (a.note hfr hfl fun s' a' => a'.flight (fr := none) fun s'' a'' => h _ a''.drop)
end
end Mine
end
section
open PySem PySem.W PySem.Calls PyProof.Rows PySem.Challenge PySem.SeqAt PySem.Builtin PySem.Builtin.ObjectAttr
set_option maxHeartbeats 2000000
namespace Mine
section
variable {C : Cx} {k : Nat} {f : FI} {ρ : Env1} {σ : Sto} {X : ExcP} {XS : ExcS} {Q : MV → Sto → Prop} {QB : Bool → Sto → Prop} {QS : MF → Env1 → Sto → Prop} {g : Stab} {env : Env} {L : Addr} {m : Str → Option Value} {frs : List Frm} {s : Shared} {A : Around} {E : Value → Shared → Prop}
/-- a loop's end by an exception, noted -/
theorem noted_X {e : Value} {W : Value → Shared → Prop} (hfr : A.frames = some (((env, L, m) :: frs).map (·.1))) (z : PostXS C g env L frs XS e s)
    (h : ∀ ea d ρ' m' g' σ' s', e = .ref ea → Ext g g' → Air C g' σ' ((env, L, m') :: frs) s' ea d (some (rawInt L)) → Loc g' ρ' m' → XS d ρ' σ' → W e s') : notedBy C.M A env W e s := by
  obtain ⟨ea, d, ρ', m', g', σ', rfl, x, ⟨fl, hfl, a⟩, l, q⟩ := z
  exact a.note (m := m') hfr hfl fun s' a' => h ea d ρ' m' g' σ' s' rfl x a' l q
theorem back_X {ea d : Addr} {fl : Value} {W : Value → Shared → Prop} (hf : env.frame = some L) (a : Air C g σ frs s ea d (some fl)) (h : ∀ s', Air C g σ frs s' ea d (some (rawInt L)) → W (.ref ea) s') : cameBackBy C.M A env W (.ref ea) s := by
  have a' := a
  obtain ⟨R, N, oe, vs, he, hc, hdi, hd, h2, T, oT, ts, t1, t2, t3, t4, t5, t6⟩ := a
  refine wpAny_bind (wpAny_field he hd t1 ?_)
  rw [if_neg (show ¬ ((Value.ref T == Value.none) = true) from by simp)]
  rw [hf]
  exact a'.flight h
theorem CV_defX {names : List Str} {body : List Stmt} {args : List MV} (D : DefIn C.KK f names body) (hl : args.length = names.length) (h : SV C k f body (names.zip args) σ (FnQ Q) (fun d _ σ' => X d σ')) : CV C (k + 1) (.ref f.addr) args σ Q X :=
  fun A frs g s vs hne rm R vr => by
    have hlen : vs.length = names.length := by rw [vr.length, hl]
    refine codeAny_call_def (fd := f.fd) (body := body) (binds := names.zip vs) (by have := rm.depth; omega) (R.Kin _ _ D.at_) rfl (C.T.nolimit.keeps R.keepsB) (codeRec_of R.Kin D.code) D.body (D.bind s vs R.Kin hlen) ?_ ?_ (fun h₀ hns hk => ?_) D.co D.gen D.kind
    · intro x hx
      have := List.all_eq_true.mp D.cell x hx
      simpa using this
    · intro x hx
      have hx' := (List.of_mem_zip hx).1
      have := List.all_eq_true.mp D.locs x.1 hx'
      simpa using this
    · have N := R.fresh (noneAt s.heap)
      have R' : Rel C g σ ((f.env s.heap.objs.size, s.heap.objs.size, fun x => (names.zip vs).reverse.lookup x) :: frs) { s with heap := h₀, toks := s.toks + (names.zip vs).length } := by
        refine ⟨R.base, fun a o e => hk a o (R.keep a o e), fun a mo e => ⟨(R.objs a mo e).1, (R.objs a mo e).2.at fun o => hk a o⟩, ⟨⟨rfl, D.kind, hns, ?_, N.g, N.s, N.f⟩, R.frs.to (fun p hp mm z => ?_) (fun _ _ z => z) fun _ _ z => z⟩, R.gens, R.os⟩
        · cases frs with
          | nil => exact absurd rfl hne
          | cons p r =>
            obtain ⟨o, e⟩ := R.live (.head _)
            exact Nat.le_trans (R.frs.mem p (.head _)).2.2.2.1 (Nat.le_of_lt (Heap.lt_size e))
        · obtain ⟨o, es, ep, e1, r⟩ := z
          exact ⟨o, es, ep, hk _ _ e1, r⟩
      refine wpAny_mono (h (A.deeper (f.env s.heap.objs.size)) s.heap.objs.size _ frs g _ rm.call R' (loc_zip vr D.nodup hl)) (fun fl s' z => ?_) fun e s' z => ?_
      · obtain ⟨mf, ρ', m', g', σ', x, R'', l', fr, q⟩ := z
        cases mf with
        | next => obtain rfl : fl = .next := fr; exact ⟨.none, g', σ', x, R''.drop, .none, q⟩
        | ret v => obtain ⟨v', rfl, hv⟩ := fr; exact ⟨v, g', σ', x, R''.drop, hv, q⟩
        | brk => exact q.elim
        | cont => exact q.elim
      · obtain ⟨ea, d, ρ', m', g', σ', rfl, x, ⟨fl, hfl, a⟩, l', q⟩ := z
        have hfr : (A.deeper (f.env s.heap.objs.size)).frames = some (((f.env s.heap.objs.size, s.heap.objs.size, m') :: frs).map (·.1)) := by
          show A.frames.map (f.env s.heap.objs.size :: ·) = _
          rw [rm.frames]; rfl
        exact a.leave hfr hfl fun s'' a' => ⟨ea, d, g', σ', rfl, x, ⟨some .none, by cases frs with | nil => rfl | cons p r => obtain ⟨_, _, _⟩ := p; exact .inl rfl, a'⟩, q⟩
end
end Mine
end
section
open PySem PySem.W PySem.Calls PyProof.Rows PySem.Challenge PySem.SeqAt PySem.Builtin PySem.Builtin.ObjectAttr
set_option maxHeartbeats 2000000
namespace Mine
section
variable {C : Cx} {k : Nat} {f : FI} {ρ : Env1} {σ : Sto} {X : ExcP} {XS : ExcS} {Q : MV → Sto → Prop} {QB : Bool → Sto → Prop} {QS : MF → Env1 → Sto → Prop} {g : Stab} {env : Env} {L : Addr} {m : Str → Option Value} {frs : List Frm} {s : Shared} {A : Around} {E : Value → Shared → Prop}
/-- an attribute of an exception of the text's own class -/
theorem get_exc {a : Addr} {oe : Obj} {x : Str} {es : List DictEntry} {n : Nat} {v : Value} {Q : Value → Shared → Prop} (XK : C.KK.In s.heap) (I : InstAt s.heap a oe 51 (some (dictOf es n))) (hf : findIn C.KK (.ref 51) x = some none) (hh : hasDictIn C.KK 51 = true)
    (hl : PySem.W.getL x es = some (some v)) (hv : handedIn v = true) (h : Q v { s with toks := s.toks + 1 }) : wpAny C.M A (getAttr (.ref a) x true) Q E s := by
  obtain ⟨hp, gs, dr, t, os⟩ := s
  have L0 : Looks C.M hp (typeOf (.ref a)) (.ref 51) := I.type (M := C.M)
  have L1 : Looks C.M hp (typeLookup (.ref 51) "__getattribute__") (some (.builtin "BaseException.__getattribute__")) := looks_findIn XK (by kernel_rfl)
  have L2 : Looks C.M hp (typeLookup (.ref 51) "__getattr__") none := looks_findIn XK (by kernel_rfl)
  have L3 : Looks C.M hp (find (.ref a) (.ref 51) x) (.value v) := looks_find (M := C.M) XK I (findObj_own hh hf (by rfl) hl)
  have isb : Looks C.M hp (isInstance (.ref a) (.type "BaseException")) true := L0.andThen (looks_mroIn XK (by kernel_rfl))
  have hk : builtinKind "BaseException.__getattribute__" = some .slot := by decide +kernel
  have hsplit : splitId "BaseException.__getattribute__" = some ("BaseException", "__getattribute__") := by decide +kernel
  unfold getAttr getAttrBy
  refine wpAny_bind (wpAny_mkText (wpAny_holding (wpAny_bind (L0.at (wpAny_bind (L1.at ?_))))))
  show wpAny _ _ (getAttrByItsOwn _ _ _ _ _ _) _ _ _
  unfold getAttrByItsOwn
  refine wpAny_bind ?_
  show wpAny _ _ (typeLookup (.ref 51) "__getattr__") _ _ _
  refine L2.at ?_
  refine wpAny_bind (wpAny_attempt ?_)
  show wpAny _ _ (boundAndCalled _ _ _) _ _ _
  unfold boundAndCalled
  rw [PySem.F.excAttr_ValueError.ga.bind]
  refine wpAny_bind (wpAny_pure ?_)
  refine wpAny_call ?_
  show codeAny C.M _ (.call (.builtin "BaseException.__getattribute__") ⟨[.ref a, .str x t], []⟩) _ ⟨hp, gs, dr, t + 1, os⟩
  refine codeAny_call_builtin PySem.F.excAttr_ValueError.ga.plain PySem.F.entry_bexc_ga (@check_slot C.M _ _ ⟨hp, gs, dr, t + 1, os⟩ "BaseException.__getattribute__" "BaseException" "__getattribute__" (.ref a) [.str x t] [] _ hk hsplit isb (PySem.F.args_bexc_ga _ _) ?_)
  refine wpAny_bind (wpAny_pure (wpAny_bind (wpAny_pure (wpAny_bind (L0.at (wpAny_bind (L3.at ?_)))))))
  refine wpAny_pure ?_
  show wpAny C.M A (handedOut v) Q E ⟨hp, gs, dr, t + 1, os⟩
  rw [handedOut_of hv]; exact wpAny_pure h
end
end Mine
end
section
open PySem PySem.W PySem.Calls PyProof.Rows PySem.Challenge PySem.SeqAt PySem.Builtin PySem.Builtin.ObjectAttr
set_option maxHeartbeats 400000
namespace Mine
section
variable {C : Cx} {k : Nat} {f : FI} {ρ : Env1} {σ : Sto} {X : ExcP} {XS : ExcS} {Q : MV → Sto → Prop} {QB : Bool → Sto → Prop} {QS : MF → Env1 → Sto → Prop} {g : Stab} {env : Env} {L : Addr} {m : Str → Option Value} {frs : List Frm} {s : Shared} {A : Around} {E : Value → Shared → Prop}
/-- a loop whose turns may raise -/
theorem SV_WhileX {test : Expr} {body : List Stmt} {pos : Pos} (I : Nat → Env1 → Sto → Prop) (n : Nat) (h0 : I n ρ σ)
    (turn : ∀ n ρ' σ', I n ρ' σ' → TV C k f test ρ' σ' (fun b σ₂ => if b then SV C k f body ρ' σ₂ (fun mf ρ₃ σ₃ => match mf with | .next => ∃ j, j < n ∧ I j ρ₃ σ₃ | .cont => ∃ j, j < n ∧ I j ρ₃ σ₃ | .brk => QS .next ρ₃ σ₃ | .ret v => QS (.ret v) ρ₃ σ₃) XS else QS .next ρ' σ₂) NoX) :
    SV1 C k f (.While test body [] pos) ρ σ QS XS :=
  fun A L m frs g s rm R lc => wpAny_While (by
    refine codeAny_whileLoop (fun n s' => ∃ ρ' m' g' σ', Ext g g' ∧ Rel C g' σ' ((f.env L, L, m') :: frs) s' ∧ Loc g' ρ' m' ∧ I n ρ' σ') ?_ n ⟨ρ, m, g, σ, .refl g, R, lc, h0⟩
    rintro n s' ⟨ρ', m', g', σ', x', R', lc', hI⟩
    have rm' : Room A k ((f.env L, L, m') :: frs) := ⟨rm.depth, rm.units, rm.frames, rm.handled⟩
    refine wpAny_mono (turn n ρ' σ' hI A L m' frs g' s' rm' R' lc') (fun b s₂ z => ?_) fun e s₂ z => ?_
    · obtain ⟨g₂, σ₂, x₂, R₂, q⟩ := z
      cases b with
      | false => exact wpAny_execs_nil ⟨.next, ρ', m', g₂, σ₂, x'.trans x₂, R₂, lc'.mono x₂, rfl, q⟩
      | true =>
        refine wpAny_mono (q A L m' frs g₂ s₂ rm' R₂ (lc'.mono x₂)) (fun fl s₃ z => ?_) fun e s₃ z => ?_
        · obtain ⟨mf, ρ₃, m₃, g₃, σ₃, x₃, R₃, l₃, fr, q⟩ := z
          have xx := (x'.trans x₂).trans x₃
          cases mf with
          | next => obtain rfl : fl = .next := fr; obtain ⟨j, hj, q⟩ := q; exact ⟨j, hj, ρ₃, m₃, g₃, σ₃, xx, R₃, l₃, q⟩
          | cont => obtain rfl : fl = .cont := fr; obtain ⟨j, hj, q⟩ := q; exact ⟨j, hj, ρ₃, m₃, g₃, σ₃, xx, R₃, l₃, q⟩
          | brk => obtain rfl : fl = .brk := fr; exact ⟨.next, ρ₃, m₃, g₃, σ₃, xx, R₃, l₃, rfl, q⟩
          | ret w => obtain ⟨v', rfl, hv⟩ := fr; exact ⟨.ret w, ρ₃, m₃, g₃, σ₃, xx, R₃, l₃, ⟨v', rfl, hv⟩, q⟩
        · refine noted_X (m := m') rm.frames z fun ea d ρ₃ m₃ g₃ σ₃ s₄ e₁ x₃ a l₃ q₃ => ?_
          subst e₁
          exact back_X (env := f.env L) rfl a fun s₅ a₅ => ⟨ea, d, ρ₃, m₃, g₃, σ₃, rfl, (x'.trans x₂).trans x₃, ⟨some (rawInt L), by exact Or.inr rfl, a₅⟩, l₃, q₃⟩
    · obtain ⟨_, _, _, _, _, _, _, q⟩ := z; exact q.elim)
/-- a try whose one clause names the exception -/
theorem SV_TryAs {body : List Stmt} {tn n : Str} {pt ph pos : Pos} {b₀ : Stmt} {suite : List Stmt} {XS' : ExcS} (hb : SV C (k + 2) f body ρ σ QS XS')
    (ht : nsIn C.KK mainGlobals tn = some (some (.ref 51))) (hk : f.fd.scope.kind = .function) (hgl : f.fd.globals = mainGlobals) (hxt : f.fd.scope.names.lookup tn = some .globalImplicit) (hd : (tn == ("__debug__" : Str)) = false) (hn : f.fd.scope.names.lookup n = some .local)
    (hs : ∀ ea d oe ρ' σ' A L m' frs g s', XS' d ρ' σ' → Room A 1 ((f.env L, L, m') :: frs) → A.handled = some (.ref ea) → g ea = some oe → oe.cls = .ref 51 → oe.dict = some d → (∃ vs, oe.data = .fields vs ∧ vs[2]? = some .none) →
      Rel C g σ' ((f.env L, L, m') :: frs) s' → (∀ ρ'', Put n (.ref ea) ρ' ρ'' → onceKey n ρ'' = true → Loc g ρ'' m') →
      wpAny C.M A (execs (b₀ :: suite) (f.env L)) (fun fl s'' => ∃ mv v g' σ'' m'', fl = .ret v ∧ Ext g g' ∧ Rel C g' σ'' ((f.env L, L, m'') :: frs) s'' ∧ VR g' mv v ∧ QS (.ret mv) [] σ'') (fun _ _ => False) s') :
    SV1 C (k + 2) f (.Try body [.ExceptHandler (some (.Name tn pt)) (some n) (b₀ :: suite) ph] [] [] pos) ρ σ QS XS :=
  fun A L m frs g s rm R lc => by
    refine wpAny_Try_except (wpAny_mono (hb A L m frs g s rm R lc) (fun fl s₁ z => ?_) fun e s₁ z => ?_)
    · obtain ⟨mf, ρ', m', g', σ', x, R', l', fr, q⟩ := z
      cases mf with
      | next => obtain rfl : fl = .next := fr; exact wpAny_execs_nil ⟨.next, ρ', m', g', σ', x, R', l', rfl, q⟩
      | cont => obtain rfl : fl = .cont := fr; exact ⟨.cont, ρ', m', g', σ', x, R', l', rfl, q⟩
      | brk => obtain rfl : fl = .brk := fr; exact ⟨.brk, ρ', m', g', σ', x, R', l', rfl, q⟩
      | ret w => obtain ⟨v', rfl, hv⟩ := fr; exact ⟨.ret w, ρ', m', g', σ', x, R', l', ⟨v', rfl, hv⟩, q⟩
    · obtain ⟨ea, d, ρ', m', g', σ', rfl, x, ⟨fl, hfl, a⟩, l', q⟩ := z
      refine a.note (m := m') rm.frames hfl fun s₂ a₂ => a₂.flight (fr := none) fun s₃ a₃ => ?_
      have XK := a₃.rel.Kin
      obtain ⟨R₃, N₃, oe, vs, he, hc, hdi, hda, h2, tb⟩ := id a₃
      refine wpAny_handleBy_cons (codeAny_handlers_test ?_) (by intro q; cases q)
      refine Name_function_global (env := f.env L) hk hxt (loadGlobal_global (env := f.env L) (mg := C.mg) ?_ (mg_of C.K C.T.g ht) ?_) hd
      · show s₃.heap.Ns f.fd.globals C.mg
        rw [hgl]
        exact C.T.g.keeps R₃.keepsB
      obtain ⟨hp, gs, dr, tk, os⟩ := s₃
      refine wpAny_excMatches_sub_self (exc_cls XK) he hc ((exc_tail XK).hasType (by kernel_rfl)) ?_
      refine codeAny_handlers_suite_as (a₃.flight (fr := none) fun s₄ a₄ => ?_)
      obtain ⟨R₄, N₄, oe, vs, he, hc, hdi, hda, h2, tb⟩ := a₄
      refine wpAny_storeName_local (env := f.env L) hn R₄.F.ns (fun h' hns hsb => ?_) ?_
      · have R₅ := R₄.frame (s₄.toks + 1) hns hsb
        have hne : ea ≠ L := Ne.symm (N₄.f _ (.head _))
        have he₅ : h'.get? ea = some oe := (hsb.2 ea hne).trans he
        have N₅ : Fresh g' σ' ((f.env L, L, fun y => if y = n then some (Value.ref ea) else m' y) :: frs) ea := ⟨N₄.g, N₄.s, fun p hp => by
          rcases List.mem_cons.mp hp with rfl | hp
          · exact Ne.symm hne
          · exact N₄.f p (.tail _ hp)⟩
        have xg := Stab.add_ext (o := oe) N₅.g
        have rm₁ : Room (A.mark (some (.ref ea))) 1 ((f.env L, L, fun y => if y = n then some (Value.ref ea) else m' y) :: frs) :=
          ⟨by show A.depth + 1 < _; have := rm.depth; omega, by show A.units + 20 * 1 + 20 < _; have := rm.units; omega, rm.frames, fun h => absurd h (by decide)⟩
        refine wpAny_mono (hs ea d oe ρ' σ' (A.mark (some (.ref ea))) L _ frs (g'.add ea oe) _ q rm₁ rfl (Stab.add_self ..) hc hdi ⟨vs, hda, h2⟩ (R₅.addG N₅ he₅) (fun ρ'' hp ho => (l'.mono xg).put hp ho (by simp only [VR]))) (fun fl s₅ z => ?_) fun _ _ z => z.elim
        obtain ⟨mv, v, g'', σ'', m'', rfl, x'', R'', vr, q''⟩ := z
        refine wpAny_nameGoes (show (f.env L).kindOf n = some .local from hn) R''.F.ns ?_ fun h₆ m₆ hn₆ hs₆ => ?_
        · show (f.fd.scope.kind == .class || (f.fd.scope.kind == .module && _)) = false
          rw [hk]; rfl
        exact ⟨.ret mv, [], m₆, g'', σ'', (x.trans xg).trans x'', R''.frame _ hn₆ hs₆, (by intro p hp; cases hp), ⟨v, rfl, vr⟩, q''⟩
      · show (f.fd.scope.kind == .class || (f.fd.scope.kind == .module && _)) = false
        rw [hk]; rfl
end
end Mine
end
section
open PySem PySem.W PySem.Calls PyProof.Rows PySem.Challenge

namespace Mine
theorem lenS {n : Nat} {vs : List Value} (h : vs.length = n + 1) : ∃ a r, vs = a :: r ∧ r.length = n := by
  cases vs with
  | nil => cases h
  | cons a r => exact ⟨a, r, rfl, Nat.succ.inj h⟩
theorem lenIs0 {vs : List Value} (h : vs.length = 0) : vs = [] := List.eq_nil_of_length_eq_zero h
theorem lenIs1 {vs : List Value} (h : vs.length = 1) : ∃ a0, vs = [a0] := by
  obtain ⟨a0, r, rfl, h'⟩ := lenS h
  obtain rfl := lenIs0 h'
  exact ⟨a0, rfl⟩
theorem lenIs2 {vs : List Value} (h : vs.length = 2) : ∃ a0 a1, vs = [a0, a1] := by
  obtain ⟨a0, r, rfl, h'⟩ := lenS h
  obtain ⟨a1, rfl⟩ := lenIs1 h'
  exact ⟨a0, a1, rfl⟩
theorem lenIs3 {vs : List Value} (h : vs.length = 3) : ∃ a0 a1 a2, vs = [a0, a1, a2] := by
  obtain ⟨a0, r, rfl, h'⟩ := lenS h
  obtain ⟨a1, a2, rfl⟩ := lenIs2 h'
  exact ⟨a0, a1, a2, rfl⟩
theorem lenIs4 {vs : List Value} (h : vs.length = 4) : ∃ a0 a1 a2 a3, vs = [a0, a1, a2, a3] := by
  obtain ⟨a0, r, rfl, h'⟩ := lenS h
  obtain ⟨a1, a2, a3, rfl⟩ := lenIs3 h'
  exact ⟨a0, a1, a2, a3, rfl⟩
theorem lenIs5 {vs : List Value} (h : vs.length = 5) : ∃ a0 a1 a2 a3 a4, vs = [a0, a1, a2, a3, a4] := by
  obtain ⟨a0, r, rfl, h'⟩ := lenS h
  obtain ⟨a1, a2, a3, a4, rfl⟩ := lenIs4 h'
  exact ⟨a0, a1, a2, a3, a4, rfl⟩
noncomputable def f_SyntaxFault_init : FI := ⟨fdOf (mtS pw_sa0154_01 3 0) (Str.ofString "__init__") (Str.ofString "SyntaxFault.__init__") .none .none .none (.str (Str.ofString "clausemill.symbols") 194) (.ref 47) .none, 48⟩
theorem d_SyntaxFault_init (C : Cx) : DefIn C.KK f_SyntaxFault_init [Str.ofString "self", Str.ofString "kind", Str.ofString "at", Str.ofString "row", Str.ofString "column"] (bodO (mtS pw_sa0154_01 3 0)) where
  at_ := by kernel_rfl
  body := rfl
  code := by kernel_rfl
  kind := by kernel_rfl
  gen := by kernel_rfl
  co := by kernel_rfl
  cell := by kernel_rfl
  locs := by kernel_rfl
  nodup := by decide +kernel
  bind := fun s vs X h => by obtain ⟨a0, a1, a2, a3, a4, rfl⟩ := lenIs5 h; exact .of_eq (by kernel_rfl)
noncomputable def f_fixed_atoms : FI := ⟨fdOf (fnS pw_sa0154_01 10) (Str.ofString "fixed_atoms") (Str.ofString "fixed_atoms") .none .none .none (.str (Str.ofString "clausemill.symbols") 194) (.ref 59) .none, 60⟩
theorem d_fixed_atoms (C : Cx) : DefIn C.KK f_fixed_atoms [] (bodO (fnS pw_sa0154_01 10)) where
  at_ := by kernel_rfl
  body := rfl
  code := by kernel_rfl
  kind := by kernel_rfl
  gen := by kernel_rfl
  co := by kernel_rfl
  cell := by kernel_rfl
  locs := by kernel_rfl
  nodup := by decide +kernel
  bind := fun s vs X h => by obtain rfl := lenIs0 h; exact .of_eq (by kernel_rfl)
noncomputable def f_fixed_functors : FI := ⟨fdOf (fnS pw_sa0154_01 11) (Str.ofString "fixed_functors") (Str.ofString "fixed_functors") .none .none .none (.str (Str.ofString "clausemill.symbols") 194) (.ref 66) .none, 67⟩
theorem d_fixed_functors (C : Cx) : DefIn C.KK f_fixed_functors [] (bodO (fnS pw_sa0154_01 11)) where
  at_ := by kernel_rfl
  body := rfl
  code := by kernel_rfl
  kind := by kernel_rfl
  gen := by kernel_rfl
  co := by kernel_rfl
  cell := by kernel_rfl
  locs := by kernel_rfl
  nodup := by decide +kernel
  bind := fun s vs X h => by obtain rfl := lenIs0 h; exact .of_eq (by kernel_rfl)
noncomputable def f_Symbols_init : FI := ⟨fdOf (mtS pw_sa0154_01 12 0) (Str.ofString "__init__") (Str.ofString "Symbols.__init__") .none .none .none (.str (Str.ofString "clausemill.symbols") 194) (.ref 80) .none, 81⟩
theorem d_Symbols_init (C : Cx) : DefIn C.KK f_Symbols_init [Str.ofString "self"] (bodO (mtS pw_sa0154_01 12 0)) where
  at_ := by kernel_rfl
  body := rfl
  code := by kernel_rfl
  kind := by kernel_rfl
  gen := by kernel_rfl
  co := by kernel_rfl
  cell := by kernel_rfl
  locs := by kernel_rfl
  nodup := by decide +kernel
  bind := fun s vs X h => by obtain ⟨a0, rfl⟩ := lenIs1 h; exact .of_eq (by kernel_rfl)
noncomputable def f_Symbols_atom : FI := ⟨fdOf (mtS pw_sa0154_01 12 1) (Str.ofString "atom") (Str.ofString "Symbols.atom") .none .none .none (.str (Str.ofString "clausemill.symbols") 194) (.ref 87) .none, 88⟩
theorem d_Symbols_atom (C : Cx) : DefIn C.KK f_Symbols_atom [Str.ofString "self", Str.ofString "text"] (bodO (mtS pw_sa0154_01 12 1)) where
  at_ := by kernel_rfl
  body := rfl
  code := by kernel_rfl
  kind := by kernel_rfl
  gen := by kernel_rfl
  co := by kernel_rfl
  cell := by kernel_rfl
  locs := by kernel_rfl
  nodup := by decide +kernel
  bind := fun s vs X h => by obtain ⟨a0, a1, rfl⟩ := lenIs2 h; exact .of_eq (by kernel_rfl)
noncomputable def f_Symbols_text : FI := ⟨fdOf (mtS pw_sa0154_01 12 2) (Str.ofString "text") (Str.ofString "Symbols.text") .none .none .none (.str (Str.ofString "clausemill.symbols") 194) (.ref 94) .none, 95⟩
theorem d_Symbols_text (C : Cx) : DefIn C.KK f_Symbols_text [Str.ofString "self", Str.ofString "number"] (bodO (mtS pw_sa0154_01 12 2)) where
  at_ := by kernel_rfl
  body := rfl
  code := by kernel_rfl
  kind := by kernel_rfl
  gen := by kernel_rfl
  co := by kernel_rfl
  cell := by kernel_rfl
  locs := by kernel_rfl
  nodup := by decide +kernel
  bind := fun s vs X h => by obtain ⟨a0, a1, rfl⟩ := lenIs2 h; exact .of_eq (by kernel_rfl)
noncomputable def f_Symbols_functor : FI := ⟨fdOf (mtS pw_sa0154_01 12 3) (Str.ofString "functor") (Str.ofString "Symbols.functor") .none .none .none (.str (Str.ofString "clausemill.symbols") 194) (.ref 101) .none, 102⟩
theorem d_Symbols_functor (C : Cx) : DefIn C.KK f_Symbols_functor [Str.ofString "self", Str.ofString "atom", Str.ofString "arity"] (bodO (mtS pw_sa0154_01 12 3)) where
  at_ := by kernel_rfl
  body := rfl
  code := by kernel_rfl
  kind := by kernel_rfl
  gen := by kernel_rfl
  co := by kernel_rfl
  cell := by kernel_rfl
  locs := by kernel_rfl
  nodup := by decide +kernel
  bind := fun s vs X h => by obtain ⟨a0, a1, a2, rfl⟩ := lenIs3 h; exact .of_eq (by kernel_rfl)
noncomputable def f_Symbols_func : FI := ⟨fdOf (mtS pw_sa0154_01 12 4) (Str.ofString "func") (Str.ofString "Symbols.func") .none .none .none (.str (Str.ofString "clausemill.symbols") 194) (.ref 108) .none, 109⟩
theorem d_Symbols_func (C : Cx) : DefIn C.KK f_Symbols_func [Str.ofString "self", Str.ofString "text", Str.ofString "arity"] (bodO (mtS pw_sa0154_01 12 4)) where
  at_ := by kernel_rfl
  body := rfl
  code := by kernel_rfl
  kind := by kernel_rfl
  gen := by kernel_rfl
  co := by kernel_rfl
  cell := by kernel_rfl
  locs := by kernel_rfl
  nodup := by decide +kernel
  bind := fun s vs X h => by obtain ⟨a0, a1, a2, rfl⟩ := lenIs3 h; exact .of_eq (by kernel_rfl)
noncomputable def f_Symbols_name : FI := ⟨fdOf (mtS pw_sa0154_01 12 5) (Str.ofString "name") (Str.ofString "Symbols.name") .none .none .none (.str (Str.ofString "clausemill.symbols") 194) (.ref 115) .none, 116⟩
theorem d_Symbols_name (C : Cx) : DefIn C.KK f_Symbols_name [Str.ofString "self", Str.ofString "functor"] (bodO (mtS pw_sa0154_01 12 5)) where
  at_ := by kernel_rfl
  body := rfl
  code := by kernel_rfl
  kind := by kernel_rfl
  gen := by kernel_rfl
  co := by kernel_rfl
  cell := by kernel_rfl
  locs := by kernel_rfl
  nodup := by decide +kernel
  bind := fun s vs X h => by obtain ⟨a0, a1, rfl⟩ := lenIs2 h; exact .of_eq (by kernel_rfl)
noncomputable def f_atom : FI := ⟨fdOf (fnS pw_sa0154_01 16) (Str.ofString "atom") (Str.ofString "atom") .none .none .none (.str (Str.ofString "clausemill.terms") 390) (.ref 172) .none, 173⟩
theorem d_atom (C : Cx) : DefIn C.KK f_atom [Str.ofString "number"] (bodO (fnS pw_sa0154_01 16)) where
  at_ := by kernel_rfl
  body := rfl
  code := by kernel_rfl
  kind := by kernel_rfl
  gen := by kernel_rfl
  co := by kernel_rfl
  cell := by kernel_rfl
  locs := by kernel_rfl
  nodup := by decide +kernel
  bind := fun s vs X h => by obtain ⟨a0, rfl⟩ := lenIs1 h; exact .of_eq (by kernel_rfl)
noncomputable def f_integer : FI := ⟨fdOf (fnS pw_sa0154_01 17) (Str.ofString "integer") (Str.ofString "integer") .none .none .none (.str (Str.ofString "clausemill.terms") 390) (.ref 179) .none, 180⟩
theorem d_integer (C : Cx) : DefIn C.KK f_integer [Str.ofString "whole"] (bodO (fnS pw_sa0154_01 17)) where
  at_ := by kernel_rfl
  body := rfl
  code := by kernel_rfl
  kind := by kernel_rfl
  gen := by kernel_rfl
  co := by kernel_rfl
  cell := by kernel_rfl
  locs := by kernel_rfl
  nodup := by decide +kernel
  bind := fun s vs X h => by obtain ⟨a0, rfl⟩ := lenIs1 h; exact .of_eq (by kernel_rfl)
noncomputable def f_struct : FI := ⟨fdOf (fnS pw_sa0154_01 18) (Str.ofString "struct") (Str.ofString "struct") .none .none .none (.str (Str.ofString "clausemill.terms") 390) (.ref 186) .none, 187⟩
theorem d_struct (C : Cx) : DefIn C.KK f_struct [Str.ofString "functor", Str.ofString "args"] (bodO (fnS pw_sa0154_01 18)) where
  at_ := by kernel_rfl
  body := rfl
  code := by kernel_rfl
  kind := by kernel_rfl
  gen := by kernel_rfl
  co := by kernel_rfl
  cell := by kernel_rfl
  locs := by kernel_rfl
  nodup := by decide +kernel
  bind := fun s vs X h => by obtain ⟨a0, a1, rfl⟩ := lenIs2 h; exact .of_eq (by kernel_rfl)
noncomputable def f_fixity : FI := ⟨fdOf (fnS pw_sa0154_01 26) (Str.ofString "fixity") (Str.ofString "fixity") .none .none .none (.str (Str.ofString "clausemill.operators") 433) (.ref 211) .none, 212⟩
theorem d_fixity (C : Cx) : DefIn C.KK f_fixity [Str.ofString "type_text"] (bodO (fnS pw_sa0154_01 26)) where
  at_ := by kernel_rfl
  body := rfl
  code := by kernel_rfl
  kind := by kernel_rfl
  gen := by kernel_rfl
  co := by kernel_rfl
  cell := by kernel_rfl
  locs := by kernel_rfl
  nodup := by decide +kernel
  bind := fun s vs X h => by obtain ⟨a0, rfl⟩ := lenIs1 h; exact .of_eq (by kernel_rfl)
noncomputable def f_bounds : FI := ⟨fdOf (fnS pw_sa0154_01 27) (Str.ofString "bounds") (Str.ofString "bounds") .none .none .none (.str (Str.ofString "clausemill.operators") 433) (.ref 218) .none, 219⟩
theorem d_bounds (C : Cx) : DefIn C.KK f_bounds [Str.ofString "priority", Str.ofString "type_text"] (bodO (fnS pw_sa0154_01 27)) where
  at_ := by kernel_rfl
  body := rfl
  code := by kernel_rfl
  kind := by kernel_rfl
  gen := by kernel_rfl
  co := by kernel_rfl
  cell := by kernel_rfl
  locs := by kernel_rfl
  nodup := by decide +kernel
  bind := fun s vs X h => by obtain ⟨a0, a1, rfl⟩ := lenIs2 h; exact .of_eq (by kernel_rfl)
noncomputable def f_OperatorTable_init : FI := ⟨fdOf (mtS pw_sa0154_01 28 0) (Str.ofString "__init__") (Str.ofString "OperatorTable.__init__") (.ref 227) .none .none (.str (Str.ofString "clausemill.operators") 433) (.ref 233) .none, 234⟩
theorem d_OperatorTable_init (C : Cx) : DefIn C.KK f_OperatorTable_init [Str.ofString "self", Str.ofString "symbols", Str.ofString "standard"] (bodO (mtS pw_sa0154_01 28 0)) where
  at_ := by kernel_rfl
  body := rfl
  code := by kernel_rfl
  kind := by kernel_rfl
  gen := by kernel_rfl
  co := by kernel_rfl
  cell := by kernel_rfl
  locs := by kernel_rfl
  nodup := by decide +kernel
  bind := fun s vs X h => by obtain ⟨a0, a1, a2, rfl⟩ := lenIs3 h; exact BindsTo.of_defaults (T := 227) (o := ⟨.type "tuple", none, .seq [.bool true].toArray 0, [].toArray⟩) rfl (X _ _ (by kernel_rfl)) rfl rfl rfl
noncomputable def f_OperatorTable_prefix : FI := ⟨fdOf (mtS pw_sa0154_01 28 1) (Str.ofString "prefix") (Str.ofString "OperatorTable.prefix") .none .none .none (.str (Str.ofString "clausemill.operators") 433) (.ref 240) .none, 241⟩
theorem d_OperatorTable_prefix (C : Cx) : DefIn C.KK f_OperatorTable_prefix [Str.ofString "self", Str.ofString "a"] (bodO (mtS pw_sa0154_01 28 1)) where
  at_ := by kernel_rfl
  body := rfl
  code := by kernel_rfl
  kind := by kernel_rfl
  gen := by kernel_rfl
  co := by kernel_rfl
  cell := by kernel_rfl
  locs := by kernel_rfl
  nodup := by decide +kernel
  bind := fun s vs X h => by obtain ⟨a0, a1, rfl⟩ := lenIs2 h; exact .of_eq (by kernel_rfl)
noncomputable def f_OperatorTable_infix : FI := ⟨fdOf (mtS pw_sa0154_01 28 2) (Str.ofString "infix") (Str.ofString "OperatorTable.infix") .none .none .none (.str (Str.ofString "clausemill.operators") 433) (.ref 247) .none, 248⟩
theorem d_OperatorTable_infix (C : Cx) : DefIn C.KK f_OperatorTable_infix [Str.ofString "self", Str.ofString "a"] (bodO (mtS pw_sa0154_01 28 2)) where
  at_ := by kernel_rfl
  body := rfl
  code := by kernel_rfl
  kind := by kernel_rfl
  gen := by kernel_rfl
  co := by kernel_rfl
  cell := by kernel_rfl
  locs := by kernel_rfl
  nodup := by decide +kernel
  bind := fun s vs X h => by obtain ⟨a0, a1, rfl⟩ := lenIs2 h; exact .of_eq (by kernel_rfl)
noncomputable def f_OperatorTable_postfix : FI := ⟨fdOf (mtS pw_sa0154_01 28 3) (Str.ofString "postfix") (Str.ofString "OperatorTable.postfix") .none .none .none (.str (Str.ofString "clausemill.operators") 433) (.ref 254) .none, 255⟩
theorem d_OperatorTable_postfix (C : Cx) : DefIn C.KK f_OperatorTable_postfix [Str.ofString "self", Str.ofString "a"] (bodO (mtS pw_sa0154_01 28 3)) where
  at_ := by kernel_rfl
  body := rfl
  code := by kernel_rfl
  kind := by kernel_rfl
  gen := by kernel_rfl
  co := by kernel_rfl
  cell := by kernel_rfl
  locs := by kernel_rfl
  nodup := by decide +kernel
  bind := fun s vs X h => by obtain ⟨a0, a1, rfl⟩ := lenIs2 h; exact .of_eq (by kernel_rfl)
noncomputable def f_OperatorTable_is_operator : FI := ⟨fdOf (mtS pw_sa0154_01 28 4) (Str.ofString "is_operator") (Str.ofString "OperatorTable.is_operator") .none .none .none (.str (Str.ofString "clausemill.operators") 433) (.ref 261) .none, 262⟩
theorem d_OperatorTable_is_operator (C : Cx) : DefIn C.KK f_OperatorTable_is_operator [Str.ofString "self", Str.ofString "a"] (bodO (mtS pw_sa0154_01 28 4)) where
  at_ := by kernel_rfl
  body := rfl
  code := by kernel_rfl
  kind := by kernel_rfl
  gen := by kernel_rfl
  co := by kernel_rfl
  cell := by kernel_rfl
  locs := by kernel_rfl
  nodup := by decide +kernel
  bind := fun s vs X h => by obtain ⟨a0, a1, rfl⟩ := lenIs2 h; exact .of_eq (by kernel_rfl)
noncomputable def f_OperatorTable_table_of : FI := ⟨fdOf (mtS pw_sa0154_01 28 5) (Str.ofString "table_of") (Str.ofString "OperatorTable.table_of") .none .none .none (.str (Str.ofString "clausemill.operators") 433) (.ref 268) .none, 269⟩
theorem d_OperatorTable_table_of (C : Cx) : DefIn C.KK f_OperatorTable_table_of [Str.ofString "self", Str.ofString "type_text"] (bodO (mtS pw_sa0154_01 28 5)) where
  at_ := by kernel_rfl
  body := rfl
  code := by kernel_rfl
  kind := by kernel_rfl
  gen := by kernel_rfl
  co := by kernel_rfl
  cell := by kernel_rfl
  locs := by kernel_rfl
  nodup := by decide +kernel
  bind := fun s vs X h => by obtain ⟨a0, a1, rfl⟩ := lenIs2 h; exact .of_eq (by kernel_rfl)
noncomputable def f_OperatorTable_add : FI := ⟨fdOf (mtS pw_sa0154_01 28 6) (Str.ofString "add") (Str.ofString "OperatorTable.add") .none .none .none (.str (Str.ofString "clausemill.operators") 433) (.ref 275) .none, 276⟩
theorem d_OperatorTable_add (C : Cx) : DefIn C.KK f_OperatorTable_add [Str.ofString "self", Str.ofString "priority", Str.ofString "type_text", Str.ofString "a"] (bodO (mtS pw_sa0154_01 28 6)) where
  at_ := by kernel_rfl
  body := rfl
  code := by kernel_rfl
  kind := by kernel_rfl
  gen := by kernel_rfl
  co := by kernel_rfl
  cell := by kernel_rfl
  locs := by kernel_rfl
  nodup := by decide +kernel
  bind := fun s vs X h => by obtain ⟨a0, a1, a2, a3, rfl⟩ := lenIs4 h; exact .of_eq (by kernel_rfl)
noncomputable def f_Frame_init : FI := ⟨fdOf (mtS pw_sa0154_01 37 0) (Str.ofString "__init__") (Str.ofString "Frame.__init__") .none .none .none (.str (Str.ofString "clausemill.parser") 569) (.ref 305) .none, 306⟩
theorem d_Frame_init (C : Cx) : DefIn C.KK f_Frame_init [Str.ofString "self", Str.ofString "kind", Str.ofString "limit"] (bodO (mtS pw_sa0154_01 37 0)) where
  at_ := by kernel_rfl
  body := rfl
  code := by kernel_rfl
  kind := by kernel_rfl
  gen := by kernel_rfl
  co := by kernel_rfl
  cell := by kernel_rfl
  locs := by kernel_rfl
  nodup := by decide +kernel
  bind := fun s vs X h => by obtain ⟨a0, a1, a2, rfl⟩ := lenIs3 h; exact .of_eq (by kernel_rfl)
noncomputable def f_ends_operand : FI := ⟨fdOf (fnS pw_sa0154_01 38) (Str.ofString "ends_operand") (Str.ofString "ends_operand") .none .none .none (.str (Str.ofString "clausemill.parser") 569) (.ref 319) .none, 320⟩
theorem d_ends_operand (C : Cx) : DefIn C.KK f_ends_operand [Str.ofString "token"] (bodO (fnS pw_sa0154_01 38)) where
  at_ := by kernel_rfl
  body := rfl
  code := by kernel_rfl
  kind := by kernel_rfl
  gen := by kernel_rfl
  co := by kernel_rfl
  cell := by kernel_rfl
  locs := by kernel_rfl
  nodup := by decide +kernel
  bind := fun s vs X h => by obtain ⟨a0, rfl⟩ := lenIs1 h; exact .of_eq (by kernel_rfl)
noncomputable def f_closes : FI := ⟨fdOf (fnS pw_sa0154_01 39) (Str.ofString "closes") (Str.ofString "closes") .none .none .none (.str (Str.ofString "clausemill.parser") 569) (.ref 326) .none, 327⟩
theorem d_closes (C : Cx) : DefIn C.KK f_closes [Str.ofString "token"] (bodO (fnS pw_sa0154_01 39)) where
  at_ := by kernel_rfl
  body := rfl
  code := by kernel_rfl
  kind := by kernel_rfl
  gen := by kernel_rfl
  co := by kernel_rfl
  cell := by kernel_rfl
  locs := by kernel_rfl
  nodup := by decide +kernel
  bind := fun s vs X h => by obtain ⟨a0, rfl⟩ := lenIs1 h; exact .of_eq (by kernel_rfl)
noncomputable def f_is_punct : FI := ⟨fdOf (fnS pw_sa0154_01 40) (Str.ofString "is_punct") (Str.ofString "is_punct") .none .none .none (.str (Str.ofString "clausemill.parser") 569) (.ref 333) .none, 334⟩
theorem d_is_punct (C : Cx) : DefIn C.KK f_is_punct [Str.ofString "token", Str.ofString "text"] (bodO (fnS pw_sa0154_01 40)) where
  at_ := by kernel_rfl
  body := rfl
  code := by kernel_rfl
  kind := by kernel_rfl
  gen := by kernel_rfl
  co := by kernel_rfl
  cell := by kernel_rfl
  locs := by kernel_rfl
  nodup := by decide +kernel
  bind := fun s vs X h => by obtain ⟨a0, a1, rfl⟩ := lenIs2 h; exact .of_eq (by kernel_rfl)
noncomputable def f_Parser_init : FI := ⟨fdOf (mtS pw_sa0154_01 41 0) (Str.ofString "__init__") (Str.ofString "Parser.__init__") .none .none .none (.str (Str.ofString "clausemill.parser") 569) (.ref 347) .none, 348⟩
theorem d_Parser_init (C : Cx) : DefIn C.KK f_Parser_init [Str.ofString "self", Str.ofString "symbols", Str.ofString "operators", Str.ofString "mode", Str.ofString "tokens"] (bodO (mtS pw_sa0154_01 41 0)) where
  at_ := by kernel_rfl
  body := rfl
  code := by kernel_rfl
  kind := by kernel_rfl
  gen := by kernel_rfl
  co := by kernel_rfl
  cell := by kernel_rfl
  locs := by kernel_rfl
  nodup := by decide +kernel
  bind := fun s vs X h => by obtain ⟨a0, a1, a2, a3, a4, rfl⟩ := lenIs5 h; exact .of_eq (by kernel_rfl)
noncomputable def f_Parser_peek : FI := ⟨fdOf (mtS pw_sa0154_01 41 3) (Str.ofString "peek") (Str.ofString "Parser.peek") .none .none .none (.str (Str.ofString "clausemill.parser") 569) (.ref 368) .none, 369⟩
theorem d_Parser_peek (C : Cx) : DefIn C.KK f_Parser_peek [Str.ofString "self"] (bodO (mtS pw_sa0154_01 41 3)) where
  at_ := by kernel_rfl
  body := rfl
  code := by kernel_rfl
  kind := by kernel_rfl
  gen := by kernel_rfl
  co := by kernel_rfl
  cell := by kernel_rfl
  locs := by kernel_rfl
  nodup := by decide +kernel
  bind := fun s vs X h => by obtain ⟨a0, rfl⟩ := lenIs1 h; exact .of_eq (by kernel_rfl)
noncomputable def f_Parser_take : FI := ⟨fdOf (mtS pw_sa0154_01 41 4) (Str.ofString "take") (Str.ofString "Parser.take") .none .none .none (.str (Str.ofString "clausemill.parser") 569) (.ref 375) .none, 376⟩
theorem d_Parser_take (C : Cx) : DefIn C.KK f_Parser_take [Str.ofString "self"] (bodO (mtS pw_sa0154_01 41 4)) where
  at_ := by kernel_rfl
  body := rfl
  code := by kernel_rfl
  kind := by kernel_rfl
  gen := by kernel_rfl
  co := by kernel_rfl
  cell := by kernel_rfl
  locs := by kernel_rfl
  nodup := by decide +kernel
  bind := fun s vs X h => by obtain ⟨a0, rfl⟩ := lenIs1 h; exact .of_eq (by kernel_rfl)
noncomputable def f_Parser_fault : FI := ⟨fdOf (mtS pw_sa0154_01 41 5) (Str.ofString "fault") (Str.ofString "Parser.fault") .none .none .none (.str (Str.ofString "clausemill.parser") 569) (.ref 382) .none, 383⟩
theorem d_Parser_fault (C : Cx) : DefIn C.KK f_Parser_fault [Str.ofString "self", Str.ofString "kind", Str.ofString "token"] (bodO (mtS pw_sa0154_01 41 5)) where
  at_ := by kernel_rfl
  body := rfl
  code := by kernel_rfl
  kind := by kernel_rfl
  gen := by kernel_rfl
  co := by kernel_rfl
  cell := by kernel_rfl
  locs := by kernel_rfl
  nodup := by decide +kernel
  bind := fun s vs X h => by obtain ⟨a0, a1, a2, rfl⟩ := lenIs3 h; exact .of_eq (by kernel_rfl)
noncomputable def f_Parser_misplaced : FI := ⟨fdOf (mtS pw_sa0154_01 41 6) (Str.ofString "misplaced") (Str.ofString "Parser.misplaced") .none .none .none (.str (Str.ofString "clausemill.parser") 569) (.ref 389) .none, 390⟩
theorem d_Parser_misplaced (C : Cx) : DefIn C.KK f_Parser_misplaced [Str.ofString "self", Str.ofString "token", Str.ofString "otherwise"] (bodO (mtS pw_sa0154_01 41 6)) where
  at_ := by kernel_rfl
  body := rfl
  code := by kernel_rfl
  kind := by kernel_rfl
  gen := by kernel_rfl
  co := by kernel_rfl
  cell := by kernel_rfl
  locs := by kernel_rfl
  nodup := by decide +kernel
  bind := fun s vs X h => by obtain ⟨a0, a1, a2, rfl⟩ := lenIs3 h; exact .of_eq (by kernel_rfl)
noncomputable def f_Parser_settle : FI := ⟨fdOf (mtS pw_sa0154_01 41 8) (Str.ofString "settle") (Str.ofString "Parser.settle") .none .none .none (.str (Str.ofString "clausemill.parser") 569) (.ref 403) .none, 404⟩
theorem d_Parser_settle (C : Cx) : DefIn C.KK f_Parser_settle [Str.ofString "self", Str.ofString "term", Str.ofString "priority"] (bodO (mtS pw_sa0154_01 41 8)) where
  at_ := by kernel_rfl
  body := rfl
  code := by kernel_rfl
  kind := by kernel_rfl
  gen := by kernel_rfl
  co := by kernel_rfl
  cell := by kernel_rfl
  locs := by kernel_rfl
  nodup := by decide +kernel
  bind := fun s vs X h => by obtain ⟨a0, a1, a2, rfl⟩ := lenIs3 h; exact .of_eq (by kernel_rfl)
noncomputable def f_Parser_enter : FI := ⟨fdOf (mtS pw_sa0154_01 41 9) (Str.ofString "enter") (Str.ofString "Parser.enter") .none .none .none (.str (Str.ofString "clausemill.parser") 569) (.ref 410) .none, 411⟩
theorem d_Parser_enter (C : Cx) : DefIn C.KK f_Parser_enter [Str.ofString "self", Str.ofString "kind", Str.ofString "name", Str.ofString "most"] (bodO (mtS pw_sa0154_01 41 9)) where
  at_ := by kernel_rfl
  body := rfl
  code := by kernel_rfl
  kind := by kernel_rfl
  gen := by kernel_rfl
  co := by kernel_rfl
  cell := by kernel_rfl
  locs := by kernel_rfl
  nodup := by decide +kernel
  bind := fun s vs X h => by obtain ⟨a0, a1, a2, a3, rfl⟩ := lenIs4 h; exact .of_eq (by kernel_rfl)
noncomputable def f_Parser_operand : FI := ⟨fdOf (mtS pw_sa0154_01 41 10) (Str.ofString "operand") (Str.ofString "Parser.operand") .none .none .none (.str (Str.ofString "clausemill.parser") 569) (.ref 417) .none, 418⟩
theorem d_Parser_operand (C : Cx) : DefIn C.KK f_Parser_operand [Str.ofString "self"] (bodO (mtS pw_sa0154_01 41 10)) where
  at_ := by kernel_rfl
  body := rfl
  code := by kernel_rfl
  kind := by kernel_rfl
  gen := by kernel_rfl
  co := by kernel_rfl
  cell := by kernel_rfl
  locs := by kernel_rfl
  nodup := by decide +kernel
  bind := fun s vs X h => by obtain ⟨a0, rfl⟩ := lenIs1 h; exact .of_eq (by kernel_rfl)
noncomputable def f_Parser_named : FI := ⟨fdOf (mtS pw_sa0154_01 41 11) (Str.ofString "named") (Str.ofString "Parser.named") .none .none .none (.str (Str.ofString "clausemill.parser") 569) (.ref 424) .none, 425⟩
theorem d_Parser_named (C : Cx) : DefIn C.KK f_Parser_named [Str.ofString "self", Str.ofString "a", Str.ofString "token"] (bodO (mtS pw_sa0154_01 41 11)) where
  at_ := by kernel_rfl
  body := rfl
  code := by kernel_rfl
  kind := by kernel_rfl
  gen := by kernel_rfl
  co := by kernel_rfl
  cell := by kernel_rfl
  locs := by kernel_rfl
  nodup := by decide +kernel
  bind := fun s vs X h => by obtain ⟨a0, a1, a2, rfl⟩ := lenIs3 h; exact .of_eq (by kernel_rfl)
noncomputable def f_Parser_operator_operand : FI := ⟨fdOf (mtS pw_sa0154_01 41 12) (Str.ofString "operator_operand") (Str.ofString "Parser.operator_operand") .none .none .none (.str (Str.ofString "clausemill.parser") 569) (.ref 431) .none, 432⟩
theorem d_Parser_operator_operand (C : Cx) : DefIn C.KK f_Parser_operator_operand [Str.ofString "self", Str.ofString "a", Str.ofString "token"] (bodO (mtS pw_sa0154_01 41 12)) where
  at_ := by kernel_rfl
  body := rfl
  code := by kernel_rfl
  kind := by kernel_rfl
  gen := by kernel_rfl
  co := by kernel_rfl
  cell := by kernel_rfl
  locs := by kernel_rfl
  nodup := by decide +kernel
  bind := fun s vs X h => by obtain ⟨a0, a1, a2, rfl⟩ := lenIs3 h; exact .of_eq (by kernel_rfl)
noncomputable def f_Parser_stands_alone : FI := ⟨fdOf (mtS pw_sa0154_01 41 13) (Str.ofString "stands_alone") (Str.ofString "Parser.stands_alone") .none .none .none (.str (Str.ofString "clausemill.parser") 569) (.ref 438) .none, 439⟩
theorem d_Parser_stands_alone (C : Cx) : DefIn C.KK f_Parser_stands_alone [Str.ofString "self"] (bodO (mtS pw_sa0154_01 41 13)) where
  at_ := by kernel_rfl
  body := rfl
  code := by kernel_rfl
  kind := by kernel_rfl
  gen := by kernel_rfl
  co := by kernel_rfl
  cell := by kernel_rfl
  locs := by kernel_rfl
  nodup := by decide +kernel
  bind := fun s vs X h => by obtain ⟨a0, rfl⟩ := lenIs1 h; exact .of_eq (by kernel_rfl)
noncomputable def f_Parser_operator_name : FI := ⟨fdOf (mtS pw_sa0154_01 41 16) (Str.ofString "operator_name") (Str.ofString "Parser.operator_name") .none .none .none (.str (Str.ofString "clausemill.parser") 569) (.ref 457) .none, 458⟩
theorem d_Parser_operator_name (C : Cx) : DefIn C.KK f_Parser_operator_name [Str.ofString "self", Str.ofString "token"] (bodO (mtS pw_sa0154_01 41 16)) where
  at_ := by kernel_rfl
  body := rfl
  code := by kernel_rfl
  kind := by kernel_rfl
  gen := by kernel_rfl
  co := by kernel_rfl
  cell := by kernel_rfl
  locs := by kernel_rfl
  nodup := by decide +kernel
  bind := fun s vs X h => by obtain ⟨a0, a1, rfl⟩ := lenIs2 h; exact .of_eq (by kernel_rfl)
noncomputable def f_Parser_operator : FI := ⟨fdOf (mtS pw_sa0154_01 41 17) (Str.ofString "operator") (Str.ofString "Parser.operator") .none .none .none (.str (Str.ofString "clausemill.parser") 569) (.ref 464) .none, 465⟩
theorem d_Parser_operator (C : Cx) : DefIn C.KK f_Parser_operator [Str.ofString "self"] (bodO (mtS pw_sa0154_01 41 17)) where
  at_ := by kernel_rfl
  body := rfl
  code := by kernel_rfl
  kind := by kernel_rfl
  gen := by kernel_rfl
  co := by kernel_rfl
  cell := by kernel_rfl
  locs := by kernel_rfl
  nodup := by decide +kernel
  bind := fun s vs X h => by obtain ⟨a0, rfl⟩ := lenIs1 h; exact .of_eq (by kernel_rfl)
noncomputable def f_Parser_admits : FI := ⟨fdOf (mtS pw_sa0154_01 41 18) (Str.ofString "admits") (Str.ofString "Parser.admits") .none .none .none (.str (Str.ofString "clausemill.parser") 569) (.ref 471) .none, 472⟩
theorem d_Parser_admits (C : Cx) : DefIn C.KK f_Parser_admits [Str.ofString "self", Str.ofString "entry"] (bodO (mtS pw_sa0154_01 41 18)) where
  at_ := by kernel_rfl
  body := rfl
  code := by kernel_rfl
  kind := by kernel_rfl
  gen := by kernel_rfl
  co := by kernel_rfl
  cell := by kernel_rfl
  locs := by kernel_rfl
  nodup := by decide +kernel
  bind := fun s vs X h => by obtain ⟨a0, a1, rfl⟩ := lenIs2 h; exact .of_eq (by kernel_rfl)
noncomputable def f_Parser_shift_infix : FI := ⟨fdOf (mtS pw_sa0154_01 41 19) (Str.ofString "shift_infix") (Str.ofString "Parser.shift_infix") .none .none .none (.str (Str.ofString "clausemill.parser") 569) (.ref 478) .none, 479⟩
theorem d_Parser_shift_infix (C : Cx) : DefIn C.KK f_Parser_shift_infix [Str.ofString "self", Str.ofString "a"] (bodO (mtS pw_sa0154_01 41 19)) where
  at_ := by kernel_rfl
  body := rfl
  code := by kernel_rfl
  kind := by kernel_rfl
  gen := by kernel_rfl
  co := by kernel_rfl
  cell := by kernel_rfl
  locs := by kernel_rfl
  nodup := by decide +kernel
  bind := fun s vs X h => by obtain ⟨a0, a1, rfl⟩ := lenIs2 h; exact .of_eq (by kernel_rfl)
noncomputable def f_Parser_apply_postfix : FI := ⟨fdOf (mtS pw_sa0154_01 41 20) (Str.ofString "apply_postfix") (Str.ofString "Parser.apply_postfix") .none .none .none (.str (Str.ofString "clausemill.parser") 569) (.ref 485) .none, 486⟩
theorem d_Parser_apply_postfix (C : Cx) : DefIn C.KK f_Parser_apply_postfix [Str.ofString "self", Str.ofString "a"] (bodO (mtS pw_sa0154_01 41 20)) where
  at_ := by kernel_rfl
  body := rfl
  code := by kernel_rfl
  kind := by kernel_rfl
  gen := by kernel_rfl
  co := by kernel_rfl
  cell := by kernel_rfl
  locs := by kernel_rfl
  nodup := by decide +kernel
  bind := fun s vs X h => by obtain ⟨a0, a1, rfl⟩ := lenIs2 h; exact .of_eq (by kernel_rfl)
noncomputable def f_Parser_reduce : FI := ⟨fdOf (mtS pw_sa0154_01 41 21) (Str.ofString "reduce") (Str.ofString "Parser.reduce") .none .none .none (.str (Str.ofString "clausemill.parser") 569) (.ref 492) .none, 493⟩
theorem d_Parser_reduce (C : Cx) : DefIn C.KK f_Parser_reduce [Str.ofString "self"] (bodO (mtS pw_sa0154_01 41 21)) where
  at_ := by kernel_rfl
  body := rfl
  code := by kernel_rfl
  kind := by kernel_rfl
  gen := by kernel_rfl
  co := by kernel_rfl
  cell := by kernel_rfl
  locs := by kernel_rfl
  nodup := by decide +kernel
  bind := fun s vs X h => by obtain ⟨a0, rfl⟩ := lenIs1 h; exact .of_eq (by kernel_rfl)
noncomputable def f_Parser_close : FI := ⟨fdOf (mtS pw_sa0154_01 41 22) (Str.ofString "close") (Str.ofString "Parser.close") .none .none .none (.str (Str.ofString "clausemill.parser") 569) (.ref 499) .none, 500⟩
theorem d_Parser_close (C : Cx) : DefIn C.KK f_Parser_close [Str.ofString "self", Str.ofString "token"] (bodO (mtS pw_sa0154_01 41 22)) where
  at_ := by kernel_rfl
  body := rfl
  code := by kernel_rfl
  kind := by kernel_rfl
  gen := by kernel_rfl
  co := by kernel_rfl
  cell := by kernel_rfl
  locs := by kernel_rfl
  nodup := by decide +kernel
  bind := fun s vs X h => by obtain ⟨a0, a1, rfl⟩ := lenIs2 h; exact .of_eq (by kernel_rfl)
noncomputable def f_Parser_separated : FI := ⟨fdOf (mtS pw_sa0154_01 41 23) (Str.ofString "separated") (Str.ofString "Parser.separated") .none .none .none (.str (Str.ofString "clausemill.parser") 569) (.ref 506) .none, 507⟩
theorem d_Parser_separated (C : Cx) : DefIn C.KK f_Parser_separated [Str.ofString "self", Str.ofString "kind"] (bodO (mtS pw_sa0154_01 41 23)) where
  at_ := by kernel_rfl
  body := rfl
  code := by kernel_rfl
  kind := by kernel_rfl
  gen := by kernel_rfl
  co := by kernel_rfl
  cell := by kernel_rfl
  locs := by kernel_rfl
  nodup := by decide +kernel
  bind := fun s vs X h => by obtain ⟨a0, a1, rfl⟩ := lenIs2 h; exact .of_eq (by kernel_rfl)
noncomputable def f_Parser_closed : FI := ⟨fdOf (mtS pw_sa0154_01 41 24) (Str.ofString "closed") (Str.ofString "Parser.closed") .none .none .none (.str (Str.ofString "clausemill.parser") 569) (.ref 513) .none, 514⟩
theorem d_Parser_closed (C : Cx) : DefIn C.KK f_Parser_closed [Str.ofString "self", Str.ofString "term"] (bodO (mtS pw_sa0154_01 41 24)) where
  at_ := by kernel_rfl
  body := rfl
  code := by kernel_rfl
  kind := by kernel_rfl
  gen := by kernel_rfl
  co := by kernel_rfl
  cell := by kernel_rfl
  locs := by kernel_rfl
  nodup := by decide +kernel
  bind := fun s vs X h => by obtain ⟨a0, a1, rfl⟩ := lenIs2 h; exact .of_eq (by kernel_rfl)
noncomputable def f_llaw_figures : FI := ⟨fdOf (fnS pw_sa0154_01 43) (Str.ofString "_law_figures") (Str.ofString "_law_figures") .none .none .none (.str (Str.ofString "law_sa0154_01") 902) (.ref 527) .none, 528⟩
theorem d_llaw_figures (C : Cx) : DefIn C.KK f_llaw_figures [Str.ofString "script", Str.ofString "wanted"] (bodO (fnS pw_sa0154_01 43)) where
  at_ := by kernel_rfl
  body := rfl
  code := by kernel_rfl
  kind := by kernel_rfl
  gen := by kernel_rfl
  co := by kernel_rfl
  cell := by kernel_rfl
  locs := by kernel_rfl
  nodup := by decide +kernel
  bind := fun s vs X h => by obtain ⟨a0, a1, rfl⟩ := lenIs2 h; exact .of_eq (by kernel_rfl)
noncomputable def f_llaw_tokens : FI := ⟨fdOf (fnS pw_sa0154_01 44) (Str.ofString "_law_tokens") (Str.ofString "_law_tokens") .none .none .none (.str (Str.ofString "law_sa0154_01") 902) (.ref 534) .none, 535⟩
theorem d_llaw_tokens (C : Cx) : DefIn C.KK f_llaw_tokens [Str.ofString "figures"] (bodO (fnS pw_sa0154_01 44)) where
  at_ := by kernel_rfl
  body := rfl
  code := by kernel_rfl
  kind := by kernel_rfl
  gen := by kernel_rfl
  co := by kernel_rfl
  cell := by kernel_rfl
  locs := by kernel_rfl
  nodup := by decide +kernel
  bind := fun s vs X h => by obtain ⟨a0, rfl⟩ := lenIs1 h; exact .of_eq (by kernel_rfl)
noncomputable def f_llaw_sides : FI := ⟨fdOf (fnS pw_sa0154_01 45) (Str.ofString "_law_sides") (Str.ofString "_law_sides") .none .none .none (.str (Str.ofString "law_sa0154_01") 902) (.ref 541) .none, 542⟩
theorem d_llaw_sides (C : Cx) : DefIn C.KK f_llaw_sides [Str.ofString "entry"] (bodO (fnS pw_sa0154_01 45)) where
  at_ := by kernel_rfl
  body := rfl
  code := by kernel_rfl
  kind := by kernel_rfl
  gen := by kernel_rfl
  co := by kernel_rfl
  cell := by kernel_rfl
  locs := by kernel_rfl
  nodup := by decide +kernel
  bind := fun s vs X h => by obtain ⟨a0, rfl⟩ := lenIs1 h; exact .of_eq (by kernel_rfl)
noncomputable def f_llaw_unfold : FI := ⟨fdOf (fnS pw_sa0154_01 46) (Str.ofString "_law_unfold") (Str.ofString "_law_unfold") .none .none .none (.str (Str.ofString "law_sa0154_01") 902) (.ref 548) .none, 549⟩
theorem d_llaw_unfold (C : Cx) : DefIn C.KK f_llaw_unfold [Str.ofString "book", Str.ofString "entries", Str.ofString "term"] (bodO (fnS pw_sa0154_01 46)) where
  at_ := by kernel_rfl
  body := rfl
  code := by kernel_rfl
  kind := by kernel_rfl
  gen := by kernel_rfl
  co := by kernel_rfl
  cell := by kernel_rfl
  locs := by kernel_rfl
  nodup := by decide +kernel
  bind := fun s vs X h => by obtain ⟨a0, a1, a2, rfl⟩ := lenIs3 h; exact .of_eq (by kernel_rfl)
noncomputable def f_llaw_sound : FI := ⟨fdOf (fnS pw_sa0154_01 47) (Str.ofString "_law_sound") (Str.ofString "_law_sound") .none .none .none (.str (Str.ofString "law_sa0154_01") 902) (.ref 553) .none, 554⟩
theorem d_llaw_sound (C : Cx) : DefIn C.KK f_llaw_sound [Str.ofString "book", Str.ofString "entries", Str.ofString "parser", Str.ofString "tokens", Str.ofString "state"] (bodO (fnS pw_sa0154_01 47)) where
  at_ := by kernel_rfl
  body := rfl
  code := by kernel_rfl
  kind := by kernel_rfl
  gen := by kernel_rfl
  co := by kernel_rfl
  cell := by kernel_rfl
  locs := by kernel_rfl
  nodup := by decide +kernel
  bind := fun s vs X h => by obtain ⟨a0, a1, a2, a3, a4, rfl⟩ := lenIs5 h; exact .of_eq (by kernel_rfl)
noncomputable def f_law : FI := ⟨fdOf (fnS pw_sa0154_01 48) (Str.ofString "law") (Str.ofString "law") .none .none .none (.str (Str.ofString "law_sa0154_01") 902) (.ref 558) .none, 559⟩
theorem d_law (C : Cx) : DefIn C.KK f_law [Str.ofString "script"] (bodO (fnS pw_sa0154_01 48)) where
  at_ := by kernel_rfl
  body := rfl
  code := by kernel_rfl
  kind := by kernel_rfl
  gen := by kernel_rfl
  co := by kernel_rfl
  cell := by kernel_rfl
  locs := by kernel_rfl
  nodup := by decide +kernel
  bind := fun s vs X h => by obtain ⟨a0, rfl⟩ := lenIs1 h; exact .of_eq (by kernel_rfl)
end Mine
end
section
open PySem PySem.W PySem.Calls PyProof.Rows PySem.Challenge

namespace Mine
noncomputable abbrev S (x : String) : Str := Str.ofString x
theorem it {a b : Prop} (h : a) : if true = true then a else b := h
/-- a test's value given -/
theorem tb {P : Bool → Prop} {b : Bool} (h : P b) : ∃ b', MV.bool b = .bool b' ∧ P b' := ⟨b, rfl, h⟩
section
variable {C : Cx} {k : Nat} {f : FI} {ρ : Env1} {σ : Sto} {X : ExcP} {XS : ExcS} {Q : MV → Sto → Prop}
theorem BV_eq_str' {x y : Str} {b : Bool} (h : (x == y) = b) (q : Q (.bool b) σ) : BV C k (compareOp .Eq) (.str x) (.str y) σ Q X := BV_eq_str (by rw [h]; exact q)
theorem BV_eq_int' {x y : Int} {b : Bool} (h : (x == y) = b) (q : Q (.bool b) σ) : BV C k (compareOp .Eq) (.int x) (.int y) σ Q X := BV_eq_int (by rw [h]; exact q)
theorem SubV_t0 {value slice : Expr} {a : MV} {r : List MV} (h : PlainIx slice) (q : Q a σ) : SubV C k value slice (.tup (a :: r)) (.int 0) σ Q X :=
  SubV_tup (j := 0) (by unfold seqIndex?; simp) rfl h (by decide) q
theorem SubV_t1 {value slice : Expr} {a b : MV} {r : List MV} (h : PlainIx slice) (q : Q b σ) : SubV C k value slice (.tup (a :: b :: r)) (.int 1) σ Q X :=
  SubV_tup (j := 1) (by unfold seqIndex?; simp; omega) rfl h (by decide) q
theorem SubV_t2 {value slice : Expr} {a b c : MV} {r : List MV} (h : PlainIx slice) (q : Q c σ) : SubV C k value slice (.tup (a :: b :: c :: r)) (.int 2) σ Q X :=
  SubV_tup (j := 2) (by unfold seqIndex?; simp; omega) rfl h (by decide) q
theorem SV_body {b : List Stmt} {st : Stmt} {rest : List Stmt} {QS : MF → Env1 → Sto → Prop} (e : b = st :: rest) (h : SV C k f (st :: rest) ρ σ QS XS) : SV C k f b ρ σ QS XS := e ▸ h
/-! ### which kind of goal -/
theorem gB {t : Value → Value → Sem Value} {a b : MV} (h : BV C k t a b σ Q X) : BV C k t a b σ Q X := h
end
end Mine
end
section
open PySem PySem.W PySem.Calls PyProof.Rows PySem.Challenge

namespace Mine
theorem g_A_NIL (C : Cx) : nsIn C.KK mainGlobals (Str.ofString "A_NIL") = some (some (.int 0 247)) := by kernel_rfl
theorem g_A_CURLY (C : Cx) : nsIn C.KK mainGlobals (Str.ofString "A_CURLY") = some (some (.int 2 249)) := by kernel_rfl
theorem g_A_COMMA (C : Cx) : nsIn C.KK mainGlobals (Str.ofString "A_COMMA") = some (some (.int 7 251)) := by kernel_rfl
theorem g_A_BAR (C : Cx) : nsIn C.KK mainGlobals (Str.ofString "A_BAR") = some (some (.int 8 253)) := by kernel_rfl
theorem g_F_DOT (C : Cx) : nsIn C.KK mainGlobals (Str.ofString "F_DOT") = some (some (.int 0 255)) := by kernel_rfl
theorem g_F_CURLY (C : Cx) : nsIn C.KK mainGlobals (Str.ofString "F_CURLY") = some (some (.int 9 257)) := by kernel_rfl
theorem g_COMMA_PRIORITY (C : Cx) : nsIn C.KK mainGlobals (Str.ofString "COMMA_PRIORITY") = some (some (.int 1000 435)) := by kernel_rfl
theorem g_CLAUSE_PRIORITY (C : Cx) : nsIn C.KK mainGlobals (Str.ofString "CLAUSE_PRIORITY") = some (some (.int 1200 571)) := by kernel_rfl
theorem g_ARGUMENT_PRIORITY (C : Cx) : nsIn C.KK mainGlobals (Str.ofString "ARGUMENT_PRIORITY") = some (some (.int 999 573)) := by kernel_rfl
theorem g_WANT_OPERAND (C : Cx) : nsIn C.KK mainGlobals (Str.ofString "WANT_OPERAND") = some (some (.int 0 575)) := by kernel_rfl
theorem g_WANT_OPERATOR (C : Cx) : nsIn C.KK mainGlobals (Str.ofString "WANT_OPERATOR") = some (some (.int 1 577)) := by kernel_rfl
theorem g_DONE (C : Cx) : nsIn C.KK mainGlobals (Str.ofString "DONE") = some (some (.int 2 579)) := by kernel_rfl
noncomputable abbrev t_PREFIX_TYPES : List Str := [Str.ofString "fx", Str.ofString "fy"]
theorem g_PREFIX_TYPES (C : Cx) : nsIn C.KK mainGlobals (Str.ofString "PREFIX_TYPES") = some (some (.ref 196)) := by kernel_rfl
theorem v_PREFIX_TYPES (C : Cx) : TopV C.KK (.tup (t_PREFIX_TYPES.map MV.str)) (.ref 196) := fun g h => by
  simp only [VR]
  exact ⟨196, [.str (Str.ofString "fx") 437, .str (Str.ofString "fy") 438], _, 0, rfl, h 196 { cls := .type "tuple", data := .seq (List.toArray [.str (Str.ofString "fx") 437, .str (Str.ofString "fy") 438]) 0 } (by kernel_rfl), rfl, rfl, (.cons (.str ..) (.cons (.str ..) .nil))⟩
noncomputable abbrev t_INFIX_TYPES : List Str := [Str.ofString "xfx", Str.ofString "xfy", Str.ofString "yfx"]
theorem g_INFIX_TYPES (C : Cx) : nsIn C.KK mainGlobals (Str.ofString "INFIX_TYPES") = some (some (.ref 197)) := by kernel_rfl
theorem v_INFIX_TYPES (C : Cx) : TopV C.KK (.tup (t_INFIX_TYPES.map MV.str)) (.ref 197) := fun g h => by
  simp only [VR]
  exact ⟨197, [.str (Str.ofString "xfx") 440, .str (Str.ofString "xfy") 441, .str (Str.ofString "yfx") 442], _, 0, rfl, h 197 { cls := .type "tuple", data := .seq (List.toArray [.str (Str.ofString "xfx") 440, .str (Str.ofString "xfy") 441, .str (Str.ofString "yfx") 442]) 0 } (by kernel_rfl), rfl, rfl, (.cons (.str ..) (.cons (.str ..) (.cons (.str ..) .nil)))⟩
noncomputable abbrev t_POSTFIX_TYPES : List Str := [Str.ofString "xf", Str.ofString "yf"]
theorem g_POSTFIX_TYPES (C : Cx) : nsIn C.KK mainGlobals (Str.ofString "POSTFIX_TYPES") = some (some (.ref 198)) := by kernel_rfl
theorem v_POSTFIX_TYPES (C : Cx) : TopV C.KK (.tup (t_POSTFIX_TYPES.map MV.str)) (.ref 198) := fun g h => by
  simp only [VR]
  exact ⟨198, [.str (Str.ofString "xf") 444, .str (Str.ofString "yf") 445], _, 0, rfl, h 198 { cls := .type "tuple", data := .seq (List.toArray [.str (Str.ofString "xf") 444, .str (Str.ofString "yf") 445]) 0 } (by kernel_rfl), rfl, rfl, (.cons (.str ..) (.cons (.str ..) .nil))⟩
noncomputable abbrev t_CLOSERS : List Str := [Str.ofString ")", Str.ofString "]", Str.ofString "}"]
theorem g_CLOSERS (C : Cx) : nsIn C.KK mainGlobals (Str.ofString "CLOSERS") = some (some (.ref 291)) := by kernel_rfl
theorem v_CLOSERS (C : Cx) : TopV C.KK (.tup (t_CLOSERS.map MV.str)) (.ref 291) := fun g h => by
  simp only [VR]
  exact ⟨291, [.str (Str.ofString ")") 581, .str (Str.ofString "]") 582, .str (Str.ofString "}") 583], _, 0, rfl, h 291 { cls := .type "tuple", data := .seq (List.toArray [.str (Str.ofString ")") 581, .str (Str.ofString "]") 582, .str (Str.ofString "}") 583]) 0 } (by kernel_rfl), rfl, rfl, (.cons (.str ..) (.cons (.str ..) (.cons (.str ..) .nil)))⟩
noncomputable abbrev t_SEPARATORS : List Str := [Str.ofString ",", Str.ofString "|"]
theorem g_SEPARATORS (C : Cx) : nsIn C.KK mainGlobals (Str.ofString "SEPARATORS") = some (some (.ref 292)) := by kernel_rfl
theorem v_SEPARATORS (C : Cx) : TopV C.KK (.tup (t_SEPARATORS.map MV.str)) (.ref 292) := fun g h => by
  simp only [VR]
  exact ⟨292, [.str (Str.ofString ",") 585, .str (Str.ofString "|") 586], _, 0, rfl, h 292 { cls := .type "tuple", data := .seq (List.toArray [.str (Str.ofString ",") 585, .str (Str.ofString "|") 586]) 0 } (by kernel_rfl), rfl, rfl, (.cons (.str ..) (.cons (.str ..) .nil))⟩
theorem c_fixed_atoms (C : Cx) : nsIn C.KK mainGlobals (Str.ofString "fixed_atoms") = some (some (.ref 60)) := by kernel_rfl
theorem k_fixed_atoms (C : Cx) : keepIn C.KK (.ref 60) = true := by kernel_rfl
theorem c_fixed_functors (C : Cx) : nsIn C.KK mainGlobals (Str.ofString "fixed_functors") = some (some (.ref 67)) := by kernel_rfl
theorem k_fixed_functors (C : Cx) : keepIn C.KK (.ref 67) = true := by kernel_rfl
theorem m_Symbols_atom (C : Cx) : methIn C.KK 154 (Str.ofString "atom") 88 = true := by kernel_rfl
theorem m_Symbols_text (C : Cx) : methIn C.KK 154 (Str.ofString "text") 95 = true := by kernel_rfl
theorem m_Symbols_functor (C : Cx) : methIn C.KK 154 (Str.ofString "functor") 102 = true := by kernel_rfl
theorem m_Symbols_func (C : Cx) : methIn C.KK 154 (Str.ofString "func") 109 = true := by kernel_rfl
theorem m_Symbols_name (C : Cx) : methIn C.KK 154 (Str.ofString "name") 116 = true := by kernel_rfl
theorem c_atom (C : Cx) : nsIn C.KK mainGlobals (Str.ofString "atom") = some (some (.ref 173)) := by kernel_rfl
theorem k_atom (C : Cx) : keepIn C.KK (.ref 173) = true := by kernel_rfl
theorem c_integer (C : Cx) : nsIn C.KK mainGlobals (Str.ofString "integer") = some (some (.ref 180)) := by kernel_rfl
theorem k_integer (C : Cx) : keepIn C.KK (.ref 180) = true := by kernel_rfl
theorem c_struct (C : Cx) : nsIn C.KK mainGlobals (Str.ofString "struct") = some (some (.ref 187)) := by kernel_rfl
theorem k_struct (C : Cx) : keepIn C.KK (.ref 187) = true := by kernel_rfl
theorem c_fixity (C : Cx) : nsIn C.KK mainGlobals (Str.ofString "fixity") = some (some (.ref 212)) := by kernel_rfl
theorem k_fixity (C : Cx) : keepIn C.KK (.ref 212) = true := by kernel_rfl
theorem c_bounds (C : Cx) : nsIn C.KK mainGlobals (Str.ofString "bounds") = some (some (.ref 219)) := by kernel_rfl
theorem k_bounds (C : Cx) : keepIn C.KK (.ref 219) = true := by kernel_rfl
theorem m_OperatorTable_prefix (C : Cx) : methIn C.KK 286 (Str.ofString "prefix") 241 = true := by kernel_rfl
theorem m_OperatorTable_infix (C : Cx) : methIn C.KK 286 (Str.ofString "infix") 248 = true := by kernel_rfl
theorem m_OperatorTable_postfix (C : Cx) : methIn C.KK 286 (Str.ofString "postfix") 255 = true := by kernel_rfl
theorem m_OperatorTable_is_operator (C : Cx) : methIn C.KK 286 (Str.ofString "is_operator") 262 = true := by kernel_rfl
theorem m_OperatorTable_table_of (C : Cx) : methIn C.KK 286 (Str.ofString "table_of") 269 = true := by kernel_rfl
theorem m_OperatorTable_add (C : Cx) : methIn C.KK 286 (Str.ofString "add") 276 = true := by kernel_rfl
theorem c_ends_operand (C : Cx) : nsIn C.KK mainGlobals (Str.ofString "ends_operand") = some (some (.ref 320)) := by kernel_rfl
theorem k_ends_operand (C : Cx) : keepIn C.KK (.ref 320) = true := by kernel_rfl
theorem c_closes (C : Cx) : nsIn C.KK mainGlobals (Str.ofString "closes") = some (some (.ref 327)) := by kernel_rfl
theorem k_closes (C : Cx) : keepIn C.KK (.ref 327) = true := by kernel_rfl
theorem c_is_punct (C : Cx) : nsIn C.KK mainGlobals (Str.ofString "is_punct") = some (some (.ref 334)) := by kernel_rfl
theorem k_is_punct (C : Cx) : keepIn C.KK (.ref 334) = true := by kernel_rfl
theorem m_Parser_peek (C : Cx) : methIn C.KK 517 (Str.ofString "peek") 369 = true := by kernel_rfl
theorem m_Parser_take (C : Cx) : methIn C.KK 517 (Str.ofString "take") 376 = true := by kernel_rfl
theorem m_Parser_fault (C : Cx) : methIn C.KK 517 (Str.ofString "fault") 383 = true := by kernel_rfl
theorem m_Parser_misplaced (C : Cx) : methIn C.KK 517 (Str.ofString "misplaced") 390 = true := by kernel_rfl
theorem m_Parser_settle (C : Cx) : methIn C.KK 517 (Str.ofString "settle") 404 = true := by kernel_rfl
theorem m_Parser_enter (C : Cx) : methIn C.KK 517 (Str.ofString "enter") 411 = true := by kernel_rfl
theorem m_Parser_operand (C : Cx) : methIn C.KK 517 (Str.ofString "operand") 418 = true := by kernel_rfl
theorem m_Parser_named (C : Cx) : methIn C.KK 517 (Str.ofString "named") 425 = true := by kernel_rfl
theorem m_Parser_operator_operand (C : Cx) : methIn C.KK 517 (Str.ofString "operator_operand") 432 = true := by kernel_rfl
theorem m_Parser_stands_alone (C : Cx) : methIn C.KK 517 (Str.ofString "stands_alone") 439 = true := by kernel_rfl
theorem m_Parser_operator_name (C : Cx) : methIn C.KK 517 (Str.ofString "operator_name") 458 = true := by kernel_rfl
theorem m_Parser_operator (C : Cx) : methIn C.KK 517 (Str.ofString "operator") 465 = true := by kernel_rfl
theorem m_Parser_admits (C : Cx) : methIn C.KK 517 (Str.ofString "admits") 472 = true := by kernel_rfl
theorem m_Parser_shift_infix (C : Cx) : methIn C.KK 517 (Str.ofString "shift_infix") 479 = true := by kernel_rfl
theorem m_Parser_apply_postfix (C : Cx) : methIn C.KK 517 (Str.ofString "apply_postfix") 486 = true := by kernel_rfl
theorem m_Parser_reduce (C : Cx) : methIn C.KK 517 (Str.ofString "reduce") 493 = true := by kernel_rfl
theorem m_Parser_close (C : Cx) : methIn C.KK 517 (Str.ofString "close") 500 = true := by kernel_rfl
theorem m_Parser_separated (C : Cx) : methIn C.KK 517 (Str.ofString "separated") 507 = true := by kernel_rfl
theorem m_Parser_closed (C : Cx) : methIn C.KK 517 (Str.ofString "closed") 514 = true := by kernel_rfl
theorem c__law_figures (C : Cx) : nsIn C.KK mainGlobals (Str.ofString "_law_figures") = some (some (.ref 528)) := by kernel_rfl
theorem k__law_figures (C : Cx) : keepIn C.KK (.ref 528) = true := by kernel_rfl
theorem c__law_tokens (C : Cx) : nsIn C.KK mainGlobals (Str.ofString "_law_tokens") = some (some (.ref 535)) := by kernel_rfl
theorem k__law_tokens (C : Cx) : keepIn C.KK (.ref 535) = true := by kernel_rfl
theorem c__law_sides (C : Cx) : nsIn C.KK mainGlobals (Str.ofString "_law_sides") = some (some (.ref 542)) := by kernel_rfl
theorem k__law_sides (C : Cx) : keepIn C.KK (.ref 542) = true := by kernel_rfl
theorem c__law_unfold (C : Cx) : nsIn C.KK mainGlobals (Str.ofString "_law_unfold") = some (some (.ref 549)) := by kernel_rfl
theorem k__law_unfold (C : Cx) : keepIn C.KK (.ref 549) = true := by kernel_rfl
theorem c__law_sound (C : Cx) : nsIn C.KK mainGlobals (Str.ofString "_law_sound") = some (some (.ref 554)) := by kernel_rfl
theorem k__law_sound (C : Cx) : keepIn C.KK (.ref 554) = true := by kernel_rfl
theorem c_law (C : Cx) : nsIn C.KK mainGlobals (Str.ofString "law") = some (some (.ref 559)) := by kernel_rfl
theorem c_Symbols (C : Cx) : nsIn C.KK mainGlobals (Str.ofString "Symbols") = some (some (.ref 154)) := by kernel_rfl
theorem k_Symbols (C : Cx) : keepIn C.KK (.ref 154) = true := by kernel_rfl
theorem mk_Symbols (C : Cx) : makesIn C.KK 154 = true ∧ findIn C.KK (.ref 154) "__init__" = some (some (.ref 81)) ∧ typeIn C.KK (.ref 81) = some (.type "function") := ⟨by kernel_rfl, by kernel_rfl, by kernel_rfl⟩
theorem c_OperatorTable (C : Cx) : nsIn C.KK mainGlobals (Str.ofString "OperatorTable") = some (some (.ref 286)) := by kernel_rfl
theorem k_OperatorTable (C : Cx) : keepIn C.KK (.ref 286) = true := by kernel_rfl
theorem mk_OperatorTable (C : Cx) : makesIn C.KK 286 = true ∧ findIn C.KK (.ref 286) "__init__" = some (some (.ref 234)) ∧ typeIn C.KK (.ref 234) = some (.type "function") := ⟨by kernel_rfl, by kernel_rfl, by kernel_rfl⟩
theorem c_Frame (C : Cx) : nsIn C.KK mainGlobals (Str.ofString "Frame") = some (some (.ref 309)) := by kernel_rfl
theorem k_Frame (C : Cx) : keepIn C.KK (.ref 309) = true := by kernel_rfl
theorem mk_Frame (C : Cx) : makesIn C.KK 309 = true ∧ findIn C.KK (.ref 309) "__init__" = some (some (.ref 306)) ∧ typeIn C.KK (.ref 306) = some (.type "function") := ⟨by kernel_rfl, by kernel_rfl, by kernel_rfl⟩
theorem c_Parser (C : Cx) : nsIn C.KK mainGlobals (Str.ofString "Parser") = some (some (.ref 517)) := by kernel_rfl
theorem k_Parser (C : Cx) : keepIn C.KK (.ref 517) = true := by kernel_rfl
theorem mk_Parser (C : Cx) : makesIn C.KK 517 = true ∧ findIn C.KK (.ref 517) "__init__" = some (some (.ref 348)) ∧ typeIn C.KK (.ref 348) = some (.type "function") := ⟨by kernel_rfl, by kernel_rfl, by kernel_rfl⟩
theorem c_SyntaxFault (C : Cx) : nsIn C.KK mainGlobals (Str.ofString "SyntaxFault") = some (some (.ref 51)) := by kernel_rfl
theorem k_SyntaxFault (C : Cx) : keepIn C.KK (.ref 51) = true := by kernel_rfl
theorem b_len (C : Cx) : nsIn C.KK mainGlobals (Str.ofString "len") = some none := by kernel_rfl
theorem bb_len : bootBuiltins (Str.ofString "len") = some (.builtin "len") := by kernel_rfl
theorem b_int (C : Cx) : nsIn C.KK mainGlobals (Str.ofString "int") = some none := by kernel_rfl
theorem bb_int : bootBuiltins (Str.ofString "int") = some (.type "int") := by kernel_rfl
theorem b_tuple (C : Cx) : nsIn C.KK mainGlobals (Str.ofString "tuple") = some none := by kernel_rfl
theorem bb_tuple : bootBuiltins (Str.ofString "tuple") = some (.type "tuple") := by kernel_rfl
theorem b_range (C : Cx) : nsIn C.KK mainGlobals (Str.ofString "range") = some none := by kernel_rfl
section
variable {C : Cx} {k : Nat} {f : FI} {ρ : Env1} {σ : Sto} {X : ExcP} {XS : ExcS} {Q : MV → Sto → Prop}
end
end Mine
end
section
open PySem PySem.W PySem.Calls PyProof.Rows PySem.Challenge

namespace Mine
/-! ## a store by its written part -/
structure Has (σ : Sto) (l : List (Addr × MObj)) : Prop where
  nodup : (l.map (·.1)).Nodup
  at_ : ∀ p ∈ l, σ p.1 = some p.2
theorem Has.get {σ : Sto} {l : List (Addr × MObj)} (h : Has σ l) {a : Addr} {o : MObj} (m : (a, o) ∈ l) : σ a = some o := h.at_ _ m
/-- one object changed -/
inductive UpdL (a : Addr) (o o' : MObj) : List (Addr × MObj) → List (Addr × MObj) → Prop where
  | head {r} : UpdL a o o' ((a, o) :: r) ((a, o') :: r)
  | tail {p r r'} : UpdL a o o' r r' → UpdL a o o' (p :: r) (p :: r')
theorem UpdL.keys {a : Addr} {o o' : MObj} {l l' : List (Addr × MObj)} (u : UpdL a o o' l l') : l'.map (·.1) = l.map (·.1) := by
  induction u with
  | head => rfl
  | tail _ ih => rw [List.map_cons, List.map_cons, ih]
theorem UpdL.mem {a : Addr} {o o' : MObj} {l l' : List (Addr × MObj)} (u : UpdL a o o' l l') : (a, o) ∈ l := by
  induction u with
  | head => exact .head _
  | tail _ ih => exact .tail _ ih
theorem UpdL.of {a : Addr} {o o' : MObj} {l l' : List (Addr × MObj)} (u : UpdL a o o' l l') (n : (l.map (·.1)).Nodup) : ∀ p ∈ l', p = (a, o') ∨ (p ∈ l ∧ p.1 ≠ a) := by
  induction u with
  | head =>
    intro p hp
    rcases List.mem_cons.mp hp with rfl | hp
    · exact .inl rfl
    · rw [List.map_cons, List.nodup_cons] at n
      exact .inr ⟨.tail _ hp, fun e => n.1 (by rw [← e]; exact List.mem_map.mpr ⟨p, hp, rfl⟩)⟩
  | @tail q r r' u ih =>
    intro p hp
    rw [List.map_cons, List.nodup_cons] at n
    rcases List.mem_cons.mp hp with rfl | hp
    · exact .inr ⟨.head _, fun e => n.1 (e ▸ List.mem_map_of_mem u.mem)⟩
    · rcases ih n.2 p hp with e | ⟨h1, h2⟩
      · exact .inl e
      · exact .inr ⟨.tail _ h1, h2⟩
theorem Has.upd {σ : Sto} {l l' : List (Addr × MObj)} {a : Addr} {o o' : MObj} (h : Has σ l) (u : UpdL a o o' l l') : Has (σ.set a o') l' := by
  refine ⟨by rw [u.keys]; exact h.nodup, fun p hp => ?_⟩
  rcases u.of h.nodup p hp with rfl | ⟨h1, h2⟩
  · exact Sto.set_self ..
  · rw [Sto.set_ne _ _ h2]; exact h.at_ p h1
theorem Has.new {σ : Sto} {l : List (Addr × MObj)} {a : Addr} {o : MObj} (h : Has σ l) (e : σ a = none) : Has (σ.set a o) ((a, o) :: l) := by
  refine ⟨?_, fun p hp => ?_⟩
  · rw [List.map_cons, List.nodup_cons]
    refine ⟨fun hm => ?_, h.nodup⟩
    obtain ⟨p, hp, rfl⟩ := List.mem_map.mp hm
    rw [h.at_ p hp] at e; cases e
  · rcases List.mem_cons.mp hp with rfl | hp
    · exact Sto.set_self ..
    · have : p.1 ≠ a := by intro q; rw [← q, h.at_ p hp] at e; cases e
      rw [Sto.set_ne _ _ this]; exact h.at_ p hp
theorem Has.sub {σ : Sto} {l l' : List (Addr × MObj)} (h : Has σ l) (s : List.Sublist l' l) : Has σ l' := ⟨(s.map _).nodup h.nodup, fun p hp => h.at_ p (s.subset hp)⟩
theorem Has.drop1 {σ : Sto} {p : Addr × MObj} {l : List (Addr × MObj)} (h : Has σ (p :: l)) : Has σ l := h.sub (List.sublist_cons_self ..)
theorem Has.perm {σ : Sto} {l l' : List (Addr × MObj)} (h : Has σ l) (s : l.Perm l') : Has σ l' := ⟨(s.map _).nodup_iff.mp h.nodup, fun p hp => h.at_ p (s.mem_iff.mpr hp)⟩
theorem Has.del {σ : Sto} {a : Addr} {o : MObj} {l : List (Addr × MObj)} (h : Has σ ((a, o) :: l)) : Has (σ.del a) l := by
  have n := h.nodup
  rw [List.map_cons, List.nodup_cons] at n
  refine ⟨n.2, fun p hp => ?_⟩
  have : p.1 ≠ a := fun e => n.1 (by rw [← e]; exact List.mem_map.mpr ⟨p, hp, rfl⟩)
  unfold Sto.del; rw [if_neg this]; exact h.at_ p (.tail _ hp)
section
variable {C : Cx} {k : Nat} {f : FI} {ρ : Env1} {σ : Sto} {X : ExcP} {XS : ExcS} {Q : MV → Sto → Prop} {l l' : List (Addr × MObj)}
/-! ### the rules that change the store, over its written part -/
theorem SetI_IH {a : Addr} {i : Int} {b : MV} {kvs : List (Int × MV)} {P : Sto → Prop} (H : Has σ l) (u : UpdL a (.dI kvs) (.dI (storeK kvs i b)) l l') (hl : kvs.length ≤ 1000000) (q : ∀ σ', Has σ' l' → P σ') : SetI C k (.ref a) (.int i) b σ P X := SetI_I (H.get u.mem) hl (q _ (H.upd u))
theorem SetI_SH {a : Addr} {i : Str} {b : MV} {kvs : List (Str × MV)} {P : Sto → Prop} (H : Has σ l) (u : UpdL a (.dS kvs) (.dS (storeK kvs i b)) l l') (hl : kvs.length ≤ 1000000) (q : ∀ σ', Has σ' l' → P σ') : SetI C k (.ref a) (.str i) b σ P X := SetI_S (H.get u.mem) hl (q _ (H.upd u))
theorem SetI_TH {a : Addr} {i : List Int} {b : MV} {kvs : List (List Int × MV)} {P : Sto → Prop} (H : Has σ l) (u : UpdL a (.dT kvs) (.dT (kvs ++ [(i, b)])) l l') (hn : lookK kvs i = none) (hl : kvs.length ≤ 1000000) (q : ∀ σ', Has σ' l' → P σ') : SetI C k (.ref a) (tupI i) b σ P X := SetI_T (H.get u.mem) hn hl (q _ (H.upd u))
theorem append_H {a : Addr} {xs : List MV} {x : MV} (H : Has σ l) (u : UpdL a (.list xs) (.list (xs ++ [x])) l l') (hb : xs.length ≤ 1000000) (q : ∀ σ', Has σ' l' → Q .none σ') : OpC C k (.builtin "list.append") [.ref a, x] σ Q X := OpC_append (H.get u.mem) hb (q _ (H.upd u))
theorem pop_H {a : Addr} {xs : List MV} {x : MV} (H : Has σ l) (u : UpdL a (.list (xs ++ [x])) (.list xs) l l') (hb : xs.length ≤ 1000000) (q : ∀ σ', Has σ' l' → Q x σ') : OpC C k (.builtin "list.pop") [.ref a] σ Q X := OpC_pop (H.get u.mem) hb (q _ (H.upd u))
theorem iadd_H {a b : Addr} {xs ys : List MV} (H : Has σ l) (u : UpdL a (.list xs) (.list (xs ++ ys)) l l') (hb : σ b = some (.list ys)) (hl : xs.length + ys.length ≤ 1000000) (q : ∀ σ', Has σ' l' → Q (.ref a) σ') : BV C k (inplaceOp .Add) (.ref a) (.ref b) σ Q X := IV_add_list (H.get u.mem) hb hl (q _ (H.upd u))
theorem newOf {o : MObj} (H : Has σ l) (q : ∀ a σ', Has σ' ((a, o) :: l) → Q (.ref a) σ') : ∀ a, σ a = none → Q (.ref a) (σ.set a o) := fun a e => q a _ (H.new e)
theorem CV_class_H {c fI : Addr} {args : List MV} (H : Has σ l) (hm : makesIn C.KK c = true ∧ findIn C.KK (.ref c) "__init__" = some (some (.ref fI)) ∧ typeIn C.KK (.ref fI) = some (.type "function"))
    (h : ∀ a d σ', Has σ' ((d, .ns []) :: l) → CV C k (.ref fI) (.inst c a d :: args) σ' (fun v σ'' => v = .none ∧ Q (.inst c a d) σ'') X) : CV C (k + 1) (.ref c) args σ Q X :=
  CV_class hm.1 hm.2.1 hm.2.2 fun a d _ hd => h a d _ (H.new hd)
/-! ### what makes new objects -/
theorem add_listH {a b : Addr} {xs ys : List MV} (ha : σ a = some (.list xs)) (hb : σ b = some (.list ys)) (hl : xs.length + ys.length ≤ 1000000) (H : Has σ l) (q : ∀ c σ', Has σ' ((c, .list (xs ++ ys)) :: l) → Q (.ref c) σ') : BV C k (binaryOp .Add) (.ref a) (.ref b) σ Q X := BV_add_list ha hb hl (newOf H q)
theorem mul_listH {a : Addr} {xs : List MV} {n : Nat} (ha : σ a = some (.list xs)) (hl : xs.length * n ≤ 1000000) (hn : n ≤ 1000000) (H : Has σ l) (q : ∀ c σ', Has σ' ((c, .list (List.replicate n xs).flatten) :: l) → Q (.ref c) σ') : BV C k (binaryOp .Mult) (.ref a) (.int n) σ Q X := BV_mul_list ha hl hn (newOf H q)
theorem EV_Dict0H {pos : Pos} (mo : MObj) (he : EmptyD mo) (H : Has σ l) (q : ∀ a σ', Has σ' ((a, mo) :: l) → Q (.ref a) σ') : EV C k f (.Dict [] [] pos) ρ σ Q X := EV_Dict0 mo he (newOf H q)
theorem EV_Dict1H {x : Str} {kk : Nat} {p pos : Pos} {e : Expr} (h : EV C k f e ρ σ (fun v σ₁ => ∃ l, Has σ₁ l ∧ ∀ a σ', Has σ' ((a, .dS [(x, v)]) :: l) → Q (.ref a) σ') X) : EV C k f (.Dict [some (.Constant (.str x) kk p)] [e] pos) ρ σ Q X :=
  EV_Dict1 (EVt.mono h (fun v σ₁ ⟨l, H, q⟩ => newOf H q) fun _ _ z => z)
theorem OpC_tupleL {a : Addr} {xs : List MV} (hσ : σ a = some (.list xs)) (hl : xs.length ≤ 1000000) (q : Q (.tup xs) σ) : OpC C k (.type "tuple") [.ref a] σ Q X := fun A env L m frs g s vs rm R vr => by
  obtain ⟨v, vs', rfl, h1, h2⟩ := vr.inv
  rw [h2.inv_nil, h1.refI]
  obtain ⟨ws, n, e, vw⟩ := list_at R hσ
  refine call_tuple_list (isList_of e) (fun h' hk => ?_) (by rw [List.size_toArray, vw.length, sizeLine_eq]; omega)
  have R₁ := R.keepAll (h' := h') (fun b o _ e => hk b o e) (R.frs.1.2.2.1.keeps hk) s.toks
  have Fd := R₁.fresh (noneAt h')
  have R₂ := R₁.keepAll (h' := h'.push { cls := .type "tuple", data := .seq ws.toArray }) (fun b o _ e => Heap.get?_push_of_some _ e) (R₁.frs.1.2.2.1.push _) s.toks
  refine ⟨.tup xs, g.add h'.objs.size { cls := .type "tuple", data := .seq ws.toArray }, σ, Stab.add_ext Fd.g, R₂.addG Fd (Heap.get?_push_size _ rfl), ?_, q⟩
  simp only [VR]
  exact ⟨h'.objs.size, ws, _, 0, rfl, Stab.add_self .., rfl, rfl, vw.mono (Stab.add_ext Fd.g)⟩
end
end Mine
end
section
open PySem PySem.W PySem.Calls PyProof.Rows PySem.Challenge

namespace Mine
section
variable {C : Cx} {k : Nat} {f : FI} {ρ : Env1} {σ : Sto} {X : ExcP} {XS : ExcS} {Q : MV → Sto → Prop} {QS : MF → Env1 → Sto → Prop}
end
end Mine
end
section
open PySem PySem.W PySem.Calls PyProof.Rows PySem.Challenge

namespace Mine
/-! ## the book of names and functors -/
structure Bk where
  texts : List Str
  funs : List (Int × Int)
noncomputable def Bk.pos (b : Bk) (t : Str) : Option Nat := b.texts.findIdx? (· == t)
noncomputable def Bk.fpos (b : Bk) (p : Int × Int) : Option Nat := b.funs.findIdx? (· == p)
noncomputable def Bk.atom (b : Bk) (t : Str) : Nat × Bk := match b.pos t with
  | some i => (i, b)
  | none => (b.texts.length, ⟨b.texts ++ [t], b.funs⟩)
noncomputable def Bk.functor (b : Bk) (p : Int × Int) : Nat × Bk := match b.fpos p with
  | some i => (i, b)
  | none => (b.funs.length, ⟨b.texts, b.funs ++ [p]⟩)
noncomputable def Bk.size (b : Bk) : Nat := b.texts.length + b.funs.length
@[reducible] noncomputable def fmv (p : Int × Int) : MV := tupI [p.1, p.2]
structure BA where
  b : Addr
  d : Addr
  tx : Addr
  an : Addr
  fn : Addr
  fnn : Addr
structure BkOk (B : Bk) (kv : List (Str × MV)) (kt : List (List Int × MV)) : Prop where
  s : ∀ t, lookK kv t = (B.pos t).map fun i : Nat => MV.int (i : Int)
  t : ∀ p : Int × Int, lookK kt [p.1, p.2] = (B.fpos p).map fun i : Nat => MV.int (i : Int)
  ls : kv.length = B.texts.length
  lt : kt.length = B.funs.length
@[reducible] noncomputable def BA.mv (a : BA) : MV := .inst 154 a.b a.d
noncomputable abbrev bookL (a : BA) (B : Bk) (kv : List (Str × MV)) (kt : List (List Int × MV)) (r : List (Addr × MObj)) : List (Addr × MObj) :=
  (a.d, .ns [(Str.ofString "texts", .ref a.tx), (Str.ofString "atom_numbers", .ref a.an), (Str.ofString "functors", .ref a.fn), (Str.ofString "functor_numbers", .ref a.fnn)]) ::
  (a.tx, .list (B.texts.map .str)) :: (a.an, .dS kv) :: (a.fn, .list (B.funs.map fmv)) :: (a.fnn, .dT kt) :: r
noncomputable def BookIn (σ : Sto) (a : BA) (B : Bk) (r : List (Addr × MObj)) : Prop := ∃ kv kt, BkOk B kv kt ∧ Has σ (bookL a B kv kt r)
theorem lookK_store {K : Type} [DecidableEq K] (kvs : List (K × MV)) (k : K) (v : MV) (h : lookK kvs k = none) : storeK kvs k v = kvs ++ [(k, v)] := by
  unfold storeK
  rw [if_neg]
  intro q
  obtain ⟨p, hp, e⟩ := List.any_eq_true.mp q
  unfold lookK at h
  rw [Option.map_eq_none_iff, List.find?_eq_none] at h
  exact h p hp e
theorem lookK_snoc {K : Type} [DecidableEq K] (kvs : List (K × MV)) (k k' : K) (v : MV) : lookK (kvs ++ [(k, v)]) k' = (lookK kvs k').or (if k = k' then some v else none) := by
  unfold lookK
  rw [List.find?_append, Option.map_or]
  congr 1
  by_cases e : k = k' <;> simp [e]
theorem findIdx?_snoc {α : Type} [DecidableEq α] [BEq α] [LawfulBEq α] (l : List α) (a b : α) : (l ++ [a]).findIdx? (· == b) = (l.findIdx? (· == b)).or (if a = b then some l.length else none) := by
  rw [List.findIdx?_append]
  congr 1
  by_cases e : a = b <;> simp [e]
theorem BkOk.addS {B : Bk} {kv : List (Str × MV)} {kt : List (List Int × MV)} (o : BkOk B kv kt) {t : Str} (h : B.pos t = none) : BkOk ⟨B.texts ++ [t], B.funs⟩ (storeK kv t (.int B.texts.length)) kt := by
  have hl : lookK kv t = none := by rw [o.s, h]; rfl
  rw [lookK_store _ _ _ hl]
  refine ⟨fun t' => ?_, o.t, by rw [List.length_append, List.length_append, o.ls]; rfl, o.lt⟩
  rw [lookK_snoc, o.s]
  unfold Bk.pos
  dsimp only
  rw [findIdx?_snoc, Option.map_or]
  congr 1
  by_cases e : t = t' <;> simp [e]
theorem BkOk.addT {B : Bk} {kv : List (Str × MV)} {kt : List (List Int × MV)} (o : BkOk B kv kt) {p : Int × Int} (h : B.fpos p = none) : BkOk ⟨B.texts, B.funs ++ [p]⟩ kv (kt ++ [([p.1, p.2], .int B.funs.length)]) := by
  refine ⟨o.s, fun p' => ?_, o.ls, by rw [List.length_append, List.length_append, o.lt]; rfl⟩
  rw [lookK_snoc, o.t]
  unfold Bk.fpos
  dsimp only
  rw [findIdx?_snoc, Option.map_or]
  congr 1
  by_cases e : p = p'
  · subst e; simp
  · rw [if_neg e, if_neg]
    · rfl
    · intro q
      simp only [List.cons.injEq, and_true] at q
      exact e (Prod.ext q.1 q.2)
theorem Bk.atom_size (B : Bk) (t : Str) : (B.atom t).2.size ≤ B.size + 1 := by
  unfold Bk.atom Bk.size
  split <;> simp <;> omega
theorem Bk.functor_size (B : Bk) (p : Int × Int) : (B.functor p).2.size ≤ B.size + 1 := by
  unfold Bk.functor Bk.size
  split <;> simp <;> omega
end Mine
end
section
open PySem PySem.W PySem.Calls PyProof.Rows PySem.Challenge

namespace Mine
/-! ## the walk as a function: what is left to show, computed by the kernel -/
structure Stp (P : Prop) : Prop where
  go : P
noncomputable def lq : List Nat → List Nat → Bool
  | [], [] => true
  | a :: r, b :: s => match Nat.beq a b with
    | true => lq r s
    | false => false
  | _, _ => false
theorem lq_iff : ∀ {a b : List Nat}, lq a b = true ↔ a = b
  | [], [] => by simp [lq]
  | [], b :: s => by simp [lq]
  | a :: r, [] => by simp [lq]
  | a :: r, b :: s => by
    unfold lq
    cases h : Nat.beq a b with
    | true => rw [Nat.eq_of_beq_eq_true h]; simp [lq_iff]
    | false => have := Nat.ne_of_beq_eq_false h; simp [this]
noncomputable def sq (a b : Str) : Bool := lq a.cps.toList b.cps.toList
theorem sq_iff {a b : Str} : sq a b = true ↔ a = b := by
  unfold sq
  rw [lq_iff]
  constructor
  · intro h
    obtain ⟨a⟩ := a; obtain ⟨b⟩ := b
    exact congrArg Str.mk (Array.toList_inj.mp h)
  · rintro rfl; rfl
noncomputable def lk {α : Type} : List (Str × α) → Str → Option α
  | [], _ => none
  | (y, v) :: r, x => match sq y x with
    | true => some v
    | false => lk r x
theorem lk_mem {α : Type} {l : List (Str × α)} {x : Str} {v : α} (h : lk l x = some v) : (x, v) ∈ l := by
  induction l with
  | nil => cases h
  | cons p r ih =>
    obtain ⟨y, w⟩ := p
    unfold lk at h
    split at h
    · rename_i e; cases h; rw [sq_iff.mp e]; exact .head _
    · exact .tail _ (ih h)
theorem lk_eq {α : Type} {l : List (Str × α)} {x : Str} : lk l x = l.lookup x := by
  induction l with
  | nil => rfl
  | cons p r ih =>
    obtain ⟨y, w⟩ := p
    unfold lk
    rw [List.lookup_cons]
    cases h : sq y x with
    | true => rw [sq_iff.mp h]; simp
    | false =>
      have : (x == y) = false := by
        rw [beq_eq_false_iff_ne]
        intro e; rw [e, sq_iff.mpr rfl] at h; cases h
      simp [this, ih]
/-! ### names bound -/
noncomputable def noKey (x : Str) : Env1 → Bool
  | [] => true
  | p :: r => match sq p.1 x with
    | true => false
    | false => noKey x r
noncomputable def kCell {α : Type} (p : α) (K : List α → Prop) : List α → Prop := fun r => K (p :: r)
noncomputable def putK (x : Str) (v : MV) : Env1 → (Env1 → Prop) → Prop
  | [], K => K [(x, v)]
  | p :: r, K => match sq p.1 x with
    | true => match noKey x r with
      | true => K ((x, v) :: r)
      | false => False
    | false => putK x v r (kCell p K)
theorem noKey_filter {x : Str} {r : Env1} (h : noKey x r = true) : (r.filter fun p => p.1 == x) = [] := by
  induction r with
  | nil => rfl
  | cons p r ih =>
    unfold noKey at h
    split at h
    · cases h
    · rename_i e
      have : (p.1 == x) = false := by
        rw [beq_eq_false_iff_ne]; intro e'; rw [e', sq_iff.mpr rfl] at e; cases e
      rw [List.filter_cons, this]; simpa using ih h
theorem putK_ok {x : Str} {v : MV} {ρ : Env1} {K : Env1 → Prop} (h : putK x v ρ K) : ∃ ρ', Put x v ρ ρ' ∧ onceKey x ρ' = true ∧ K ρ' := by
  induction ρ generalizing K with
  | nil => exact ⟨_, .nil, by simp [onceKey], h⟩
  | cons p r ih =>
    unfold putK at h
    split at h
    · rename_i e
      split at h
      · rename_i e2
        obtain ⟨y, w⟩ := p
        obtain rfl := sq_iff.mp e
        refine ⟨_, .head, ?_, h⟩
        simp [onceKey, noKey_filter e2]
      · exact h.elim
    · rename_i e
      obtain ⟨ρ', h1, h2, h3⟩ := ih h
      refine ⟨_, .tail h1, ?_, h3⟩
      have : (p.1 == x) = false := by
        rw [beq_eq_false_iff_ne]; intro e'; rw [e', sq_iff.mpr rfl] at e; cases e
      unfold onceKey at h2 ⊢
      rw [List.filter_cons, this]; simpa using h2
noncomputable def zipK : List Str → List MV → (Env1 → Prop) → Prop
  | [], [], K => K []
  | x :: xs, v :: vs, K => zipK xs vs (kCell (x, v) K)
  | _, _, _ => False
theorem zipK_ok {xs : List Str} {vs : List MV} {K : Env1 → Prop} (h : zipK xs vs K) : vs.length = xs.length ∧ K (xs.zip vs) := by
  induction xs generalizing vs K with
  | nil =>
    cases vs with
    | nil => exact ⟨rfl, h⟩
    | cons v vs => exact h.elim
  | cons x xs ih =>
    cases vs with
    | nil => exact h.elim
    | cons v vs =>
      obtain ⟨a, b⟩ := ih h
      exact ⟨by simp [a], b⟩
/-! ### parts of the text -/
noncomputable def e1 : Expr → Expr
  | .BinOp l _ _ _ => l
  | .UnaryOp _ x _ => x
  | .Compare l _ _ _ => l
  | .Attribute v _ _ => v
  | .Subscript v _ _ => v
  | .IfExp t _ _ _ => t
  | .Call (.Attribute o _ _) _ _ _ => o
  | e => e
noncomputable def e2 : Expr → Expr
  | .BinOp _ _ r _ => r
  | .Compare _ _ (r :: _) _ => r
  | .Subscript _ s _ => s
  | .IfExp _ b _ _ => b
  | e => e
noncomputable def e3 : Expr → Expr
  | .IfExp _ _ o _ => o
  | e => e
noncomputable def ea : Expr → List Expr
  | .Call _ as _ _ => as
  | .List es _ => es
  | .Tuple es _ _ => es
  | .BoolOp _ es _ => es
  | _ => []
noncomputable def s1 : Stmt → Expr
  | .Return (some e) _ => e
  | .If t _ _ _ => t
  | .While t _ _ _ => t
  | .Assign _ e _ => e
  | .AugAssign _ _ e _ => e
  | .Expr e _ => e
  | .Raise (some e) _ _ => e
  | .For _ i _ _ _ => i
  | _ => .Name ⟨#[]⟩ default
noncomputable def s2 : Stmt → Expr
  | .Assign [.Attribute o _ _] _ _ => o
  | .Assign [.Subscript o _ _] _ _ => o
  | _ => .Name ⟨#[]⟩ default
noncomputable def s3 : Stmt → Expr
  | .Assign [.Subscript _ i _] _ _ => i
  | _ => .Name ⟨#[]⟩ default
noncomputable def sb : Stmt → List Stmt
  | .If _ b _ _ => b
  | .While _ b _ _ => b
  | .For _ _ b _ _ => b
  | _ => []
noncomputable def so : Stmt → List Stmt
  | .If _ _ o _ => o
  | _ => []
noncomputable def isN {α : Type} : List α → Bool
  | [] => true
  | _ :: _ => false
noncomputable def hE : List Expr → Expr
  | e :: _ => e
  | [] => .Name ⟨#[]⟩ default
noncomputable def hS : List Stmt → Stmt
  | s :: _ => s
  | [] => .Pass default
noncomputable def tL {α : Type} : List α → List α
  | _ :: r => r
  | [] => []
noncomputable def shrt {α : Type} : Nat → List α → Bool
  | _, [] => true
  | n + 1, _ :: r => shrt n r
  | 0, _ :: _ => false
theorem shrt_ok {α : Type} : ∀ {n : Nat} {l : List α}, shrt n l = true → l.length ≤ n
  | _, [], _ => Nat.zero_le _
  | n + 1, _ :: r, h => Nat.succ_le_succ (shrt_ok (n := n) h)
noncomputable def noStar : List Expr → Bool
  | [] => true
  | .Starred _ _ :: _ => false
  | _ :: r => noStar r
theorem star_cons {e : Expr} {r : List Expr} (h : noStar (e :: r) = true) (env : Env) : starEach (e :: r) env = (false, eval e env) :: starEach r env := by
  cases e <;> first | rfl | cases h
theorem noStar_tl {e : Expr} {r : List Expr} (h : noStar (e :: r) = true) : noStar r = true := by
  cases e <;> first | exact h | cases h
theorem star_plain {env : Env} {pos : Pos} : ∀ {r : List Expr}, noStar r = true → (backTo pos (starEach r env)).any (·.1) = false
  | [], _ => rfl
  | e :: r, h => by
    rw [star_cons h]
    show (false || (backTo pos (starEach r env)).any (·.1)) = false
    rw [star_plain (noStar_tl h)]; rfl
theorem star_form {env : Env} {pos : Pos} {es : List Expr} {n : Nat} (h : noStar es = true) (hn : n < 30) : methodCallForm n (backTo pos (starEach es env)) (backToKw pos (keywordEach [] env)) = true := by
  have a : (backTo pos (starEach es env)).all (!·.1) = true := by
    have := star_plain (env := env) (pos := pos) h
    rw [List.any_eq_false] at this
    rw [List.all_eq_true]
    intro x hx
    have := this x hx
    simp only [Bool.not_eq_true] at this
    rw [this]; rfl
  show ((backTo pos (starEach es env)).all (!·.1) && true && decide (n + 0 < 30)) = true
  rw [a]; simpa using hn
noncomputable def nc0 : Expr → Bool
  | .Call (.Name _ _) [] [] _ => false
  | _ => true
theorem nc0_ok {o : Expr} {x : Str} (h : nc0 o = true) (env : Env) (whole : Sem Value) : attributeBase o x env whole = whole := by
  cases o with
  | Call g as ks p =>
    cases g with
    | Name y q =>
      cases as with
      | nil => cases ks with
        | nil => cases h
        | cons _ _ => rfl
      | cons _ _ => rfl
    | _ => rfl
  | _ => rfl
noncomputable def two : Nat → Bool
  | _ + 2 => true
  | _ => false
theorem two_ok {k : Nat} (h : two k = true) : ∃ k', k = k' + 2 := by
  match k, h with
  | k' + 2, _ => exact ⟨k', rfl⟩
noncomputable def comp : Expr → Bool
  | .ListComp .. => true
  | .SetComp .. => true
  | .DictComp .. => true
  | _ => false
theorem comp_ok {e : Expr} (h : comp e = false) (t : Option Expr) (n : Nat) (env : Env) : swapsWith e t n env = pure false := by
  cases e <;> first | rfl | cases h
end Mine
end
section
open PySem PySem.W PySem.Calls PyProof.Rows PySem.Challenge

namespace Mine
/-! ### what the top says of names -/
noncomputable def gTab : List (Str × MV) := [
  (Str.ofString "A_NIL", .int 0), (Str.ofString "A_CURLY", .int 2), (Str.ofString "A_COMMA", .int 7), (Str.ofString "A_BAR", .int 8),
  (Str.ofString "F_DOT", .int 0), (Str.ofString "F_CURLY", .int 9), (Str.ofString "COMMA_PRIORITY", .int 1000), (Str.ofString "CLAUSE_PRIORITY", .int 1200),
  (Str.ofString "ARGUMENT_PRIORITY", .int 999), (Str.ofString "WANT_OPERAND", .int 0), (Str.ofString "WANT_OPERATOR", .int 1), (Str.ofString "DONE", .int 2),
  (Str.ofString "PREFIX_TYPES", .tup (t_PREFIX_TYPES.map MV.str)), (Str.ofString "INFIX_TYPES", .tup (t_INFIX_TYPES.map MV.str)), (Str.ofString "POSTFIX_TYPES", .tup (t_POSTFIX_TYPES.map MV.str)),
  (Str.ofString "CLOSERS", .tup (t_CLOSERS.map MV.str)), (Str.ofString "SEPARATORS", .tup (t_SEPARATORS.map MV.str))]
theorem gTab_ok (C : Cx) : ∀ p ∈ gTab, ∃ v, nsIn C.KK mainGlobals p.1 = some (some v) ∧ TopV C.KK p.2 v := by
  unfold gTab
  refine List.forall_mem_cons.mpr ⟨⟨_, g_A_NIL C, fun g _ => .int _ _⟩, ?_⟩
  refine List.forall_mem_cons.mpr ⟨⟨_, g_A_CURLY C, fun g _ => .int _ _⟩, ?_⟩
  refine List.forall_mem_cons.mpr ⟨⟨_, g_A_COMMA C, fun g _ => .int _ _⟩, ?_⟩
  refine List.forall_mem_cons.mpr ⟨⟨_, g_A_BAR C, fun g _ => .int _ _⟩, ?_⟩
  refine List.forall_mem_cons.mpr ⟨⟨_, g_F_DOT C, fun g _ => .int _ _⟩, ?_⟩
  refine List.forall_mem_cons.mpr ⟨⟨_, g_F_CURLY C, fun g _ => .int _ _⟩, ?_⟩
  refine List.forall_mem_cons.mpr ⟨⟨_, g_COMMA_PRIORITY C, fun g _ => .int _ _⟩, ?_⟩
  refine List.forall_mem_cons.mpr ⟨⟨_, g_CLAUSE_PRIORITY C, fun g _ => .int _ _⟩, ?_⟩
  refine List.forall_mem_cons.mpr ⟨⟨_, g_ARGUMENT_PRIORITY C, fun g _ => .int _ _⟩, ?_⟩
  refine List.forall_mem_cons.mpr ⟨⟨_, g_WANT_OPERAND C, fun g _ => .int _ _⟩, ?_⟩
  refine List.forall_mem_cons.mpr ⟨⟨_, g_WANT_OPERATOR C, fun g _ => .int _ _⟩, ?_⟩
  refine List.forall_mem_cons.mpr ⟨⟨_, g_DONE C, fun g _ => .int _ _⟩, ?_⟩
  refine List.forall_mem_cons.mpr ⟨⟨_, g_PREFIX_TYPES C, v_PREFIX_TYPES C⟩, ?_⟩
  refine List.forall_mem_cons.mpr ⟨⟨_, g_INFIX_TYPES C, v_INFIX_TYPES C⟩, ?_⟩
  refine List.forall_mem_cons.mpr ⟨⟨_, g_POSTFIX_TYPES C, v_POSTFIX_TYPES C⟩, ?_⟩
  refine List.forall_mem_cons.mpr ⟨⟨_, g_CLOSERS C, v_CLOSERS C⟩, ?_⟩
  refine List.forall_mem_cons.mpr ⟨⟨_, g_SEPARATORS C, v_SEPARATORS C⟩, ?_⟩
  exact List.forall_mem_nil _
/-- defs and classes by name -/
noncomputable def fTab : List (Str × Value) := [
  (Str.ofString "is_punct", .ref 334), (Str.ofString "closes", .ref 327), (Str.ofString "ends_operand", .ref 320), (Str.ofString "bounds", .ref 219), (Str.ofString "fixity", .ref 212),
  (Str.ofString "atom", .ref 173), (Str.ofString "integer", .ref 180), (Str.ofString "struct", .ref 187), (Str.ofString "fixed_atoms", .ref 60), (Str.ofString "fixed_functors", .ref 67),
  (Str.ofString "_law_figures", .ref 528), (Str.ofString "_law_tokens", .ref 535), (Str.ofString "_law_sides", .ref 542), (Str.ofString "_law_unfold", .ref 549), (Str.ofString "_law_sound", .ref 554),
  (Str.ofString "Symbols", .ref 154), (Str.ofString "OperatorTable", .ref 286), (Str.ofString "Frame", .ref 309), (Str.ofString "Parser", .ref 517), (Str.ofString "SyntaxFault", .ref 51)]
theorem fTab_ok (C : Cx) : ∀ p ∈ fTab, nsIn C.KK mainGlobals p.1 = some (some p.2) ∧ keepIn C.KK p.2 = true := by
  unfold fTab
  refine List.forall_mem_cons.mpr ⟨⟨c_is_punct C, k_is_punct C⟩, ?_⟩
  refine List.forall_mem_cons.mpr ⟨⟨c_closes C, k_closes C⟩, ?_⟩
  refine List.forall_mem_cons.mpr ⟨⟨c_ends_operand C, k_ends_operand C⟩, ?_⟩
  refine List.forall_mem_cons.mpr ⟨⟨c_bounds C, k_bounds C⟩, ?_⟩
  refine List.forall_mem_cons.mpr ⟨⟨c_fixity C, k_fixity C⟩, ?_⟩
  refine List.forall_mem_cons.mpr ⟨⟨c_atom C, k_atom C⟩, ?_⟩
  refine List.forall_mem_cons.mpr ⟨⟨c_integer C, k_integer C⟩, ?_⟩
  refine List.forall_mem_cons.mpr ⟨⟨c_struct C, k_struct C⟩, ?_⟩
  refine List.forall_mem_cons.mpr ⟨⟨c_fixed_atoms C, k_fixed_atoms C⟩, ?_⟩
  refine List.forall_mem_cons.mpr ⟨⟨c_fixed_functors C, k_fixed_functors C⟩, ?_⟩
  refine List.forall_mem_cons.mpr ⟨⟨c__law_figures C, k__law_figures C⟩, ?_⟩
  refine List.forall_mem_cons.mpr ⟨⟨c__law_tokens C, k__law_tokens C⟩, ?_⟩
  refine List.forall_mem_cons.mpr ⟨⟨c__law_sides C, k__law_sides C⟩, ?_⟩
  refine List.forall_mem_cons.mpr ⟨⟨c__law_unfold C, k__law_unfold C⟩, ?_⟩
  refine List.forall_mem_cons.mpr ⟨⟨c__law_sound C, k__law_sound C⟩, ?_⟩
  refine List.forall_mem_cons.mpr ⟨⟨c_Symbols C, k_Symbols C⟩, ?_⟩
  refine List.forall_mem_cons.mpr ⟨⟨c_OperatorTable C, k_OperatorTable C⟩, ?_⟩
  refine List.forall_mem_cons.mpr ⟨⟨c_Frame C, k_Frame C⟩, ?_⟩
  refine List.forall_mem_cons.mpr ⟨⟨c_Parser C, k_Parser C⟩, ?_⟩
  refine List.forall_mem_cons.mpr ⟨⟨c_SyntaxFault C, k_SyntaxFault C⟩, ?_⟩
  exact List.forall_mem_nil _
noncomputable def bTab : List (Str × Value) := [(Str.ofString "len", .builtin "len"), (Str.ofString "int", .type "int"), (Str.ofString "tuple", .type "tuple")]
theorem bTab_ok (C : Cx) : ∀ p ∈ bTab, nsIn C.KK mainGlobals p.1 = some none ∧ bootBuiltins p.1 = some p.2 ∧ p.1 ≠ ("__name__" : Str) ∧ MachV p.2 := by
  unfold bTab
  refine List.forall_mem_cons.mpr ⟨⟨b_len C, bb_len, by decide +kernel, rfl⟩, ?_⟩
  refine List.forall_mem_cons.mpr ⟨⟨b_int C, bb_int, by decide +kernel, rfl⟩, ?_⟩
  refine List.forall_mem_cons.mpr ⟨⟨b_tuple C, bb_tuple, by decide +kernel, rfl⟩, ?_⟩
  exact List.forall_mem_nil _
/-- methods by class and name -/
noncomputable def mS : List (Str × Addr) := [(Str.ofString "atom", 88), (Str.ofString "text", 95), (Str.ofString "functor", 102), (Str.ofString "func", 109), (Str.ofString "name", 116)]
noncomputable def mO : List (Str × Addr) := [(Str.ofString "prefix", 241), (Str.ofString "infix", 248), (Str.ofString "postfix", 255), (Str.ofString "is_operator", 262), (Str.ofString "table_of", 269), (Str.ofString "add", 276)]
noncomputable def mP : List (Str × Addr) := [(Str.ofString "peek", 369), (Str.ofString "take", 376), (Str.ofString "fault", 383), (Str.ofString "misplaced", 390), (Str.ofString "settle", 404), (Str.ofString "enter", 411), (Str.ofString "operand", 418),
  (Str.ofString "named", 425), (Str.ofString "operator_operand", 432), (Str.ofString "stands_alone", 439), (Str.ofString "operator_name", 458), (Str.ofString "operator", 465), (Str.ofString "admits", 472),
  (Str.ofString "shift_infix", 479), (Str.ofString "apply_postfix", 486), (Str.ofString "reduce", 493), (Str.ofString "close", 500), (Str.ofString "separated", 507), (Str.ofString "closed", 514)]
noncomputable def methsT (C : Cx) (c : Addr) (l : List (Str × Addr)) : Prop := ∀ p ∈ l, methIn C.KK c p.1 p.2 = true
theorem mS_ok (C : Cx) : methsT C 154 mS :=
  List.forall_mem_cons.mpr ⟨m_Symbols_atom C, List.forall_mem_cons.mpr ⟨m_Symbols_text C, List.forall_mem_cons.mpr ⟨m_Symbols_functor C, List.forall_mem_cons.mpr ⟨m_Symbols_func C, List.forall_mem_cons.mpr ⟨m_Symbols_name C, List.forall_mem_nil _⟩⟩⟩⟩⟩
theorem mO_ok (C : Cx) : methsT C 286 mO :=
  List.forall_mem_cons.mpr ⟨m_OperatorTable_prefix C, List.forall_mem_cons.mpr ⟨m_OperatorTable_infix C, List.forall_mem_cons.mpr ⟨m_OperatorTable_postfix C, List.forall_mem_cons.mpr ⟨m_OperatorTable_is_operator C, List.forall_mem_cons.mpr ⟨m_OperatorTable_table_of C, List.forall_mem_cons.mpr ⟨m_OperatorTable_add C, List.forall_mem_nil _⟩⟩⟩⟩⟩⟩
theorem mP_ok (C : Cx) : methsT C 517 mP := by
  unfold mP
  refine List.forall_mem_cons.mpr ⟨m_Parser_peek C, ?_⟩
  refine List.forall_mem_cons.mpr ⟨m_Parser_take C, ?_⟩
  refine List.forall_mem_cons.mpr ⟨m_Parser_fault C, ?_⟩
  refine List.forall_mem_cons.mpr ⟨m_Parser_misplaced C, ?_⟩
  refine List.forall_mem_cons.mpr ⟨m_Parser_settle C, ?_⟩
  refine List.forall_mem_cons.mpr ⟨m_Parser_enter C, ?_⟩
  refine List.forall_mem_cons.mpr ⟨m_Parser_operand C, ?_⟩
  refine List.forall_mem_cons.mpr ⟨m_Parser_named C, ?_⟩
  refine List.forall_mem_cons.mpr ⟨m_Parser_operator_operand C, ?_⟩
  refine List.forall_mem_cons.mpr ⟨m_Parser_stands_alone C, ?_⟩
  refine List.forall_mem_cons.mpr ⟨m_Parser_operator_name C, ?_⟩
  refine List.forall_mem_cons.mpr ⟨m_Parser_operator C, ?_⟩
  refine List.forall_mem_cons.mpr ⟨m_Parser_admits C, ?_⟩
  refine List.forall_mem_cons.mpr ⟨m_Parser_shift_infix C, ?_⟩
  refine List.forall_mem_cons.mpr ⟨m_Parser_apply_postfix C, ?_⟩
  refine List.forall_mem_cons.mpr ⟨m_Parser_reduce C, ?_⟩
  refine List.forall_mem_cons.mpr ⟨m_Parser_close C, ?_⟩
  refine List.forall_mem_cons.mpr ⟨m_Parser_separated C, ?_⟩
  refine List.forall_mem_cons.mpr ⟨m_Parser_closed C, ?_⟩
  exact List.forall_mem_nil _
noncomputable def mthT (c : Addr) (x : Str) : Option Addr := match Nat.beq c 517 with
  | true => lk mP x
  | false => match Nat.beq c 286 with
    | true => lk mO x
    | false => match Nat.beq c 154 with
      | true => lk mS x
      | false => none
theorem mthT_ok (C : Cx) {c : Addr} {x : Str} {fa : Addr} (h : mthT c x = some fa) : methIn C.KK c x fa = true := by
  unfold mthT at h
  split at h
  · rename_i e; rw [Nat.eq_of_beq_eq_true e]; exact mP_ok C _ (lk_mem h)
  · split at h
    · rename_i e; rw [Nat.eq_of_beq_eq_true e]; exact mO_ok C _ (lk_mem h)
    · split at h
      · rename_i e; rw [Nat.eq_of_beq_eq_true e]; exact mS_ok C _ (lk_mem h)
      · cases h
/-! ### attributes that may be read and written -/
noncomputable def aS : List Str := [Str.ofString "texts", Str.ofString "atom_numbers", Str.ofString "functors", Str.ofString "functor_numbers"]
noncomputable def aO : List Str := [Str.ofString "symbols", Str.ofString "prefixes", Str.ofString "infixes", Str.ofString "postfixes"]
noncomputable def aF : List Str := [Str.ofString "kind", Str.ofString "limit", Str.ofString "functor", Str.ofString "name", Str.ofString "priority", Str.ofString "left", Str.ofString "items"]
noncomputable def aP : List Str := [Str.ofString "symbols", Str.ofString "operators", Str.ofString "mode", Str.ofString "tokens", Str.ofString "place", Str.ofString "frames", Str.ofString "limit", Str.ofString "term", Str.ofString "priority",
  Str.ofString "numbers", Str.ofString "names", Str.ofString "counts", Str.ofString "next_number"]
noncomputable def atrT (c : Addr) (x : Str) : Bool := (match Nat.beq c 517 with
  | true => aP
  | false => match Nat.beq c 309 with
    | true => aF
    | false => match Nat.beq c 286 with
      | true => aO
      | false => match Nat.beq c 154 with
        | true => aS
        | false => []).any (sq · x)
noncomputable def attrsT (C : Cx) (c : Addr) (l : List Str) : Prop := ∀ x ∈ l, getOk C.KK c x = true ∧ setOk C.KK c x = true
theorem aS_ok (C : Cx) : attrsT C 154 aS := by
  refine List.forall_mem_cons.mpr ⟨⟨by kernel_rfl, by kernel_rfl⟩, ?_⟩
  refine List.forall_mem_cons.mpr ⟨⟨by kernel_rfl, by kernel_rfl⟩, ?_⟩
  refine List.forall_mem_cons.mpr ⟨⟨by kernel_rfl, by kernel_rfl⟩, ?_⟩
  refine List.forall_mem_cons.mpr ⟨⟨by kernel_rfl, by kernel_rfl⟩, ?_⟩
  exact List.forall_mem_nil _
theorem aO_ok (C : Cx) : attrsT C 286 aO := by
  refine List.forall_mem_cons.mpr ⟨⟨by kernel_rfl, by kernel_rfl⟩, ?_⟩
  refine List.forall_mem_cons.mpr ⟨⟨by kernel_rfl, by kernel_rfl⟩, ?_⟩
  refine List.forall_mem_cons.mpr ⟨⟨by kernel_rfl, by kernel_rfl⟩, ?_⟩
  refine List.forall_mem_cons.mpr ⟨⟨by kernel_rfl, by kernel_rfl⟩, ?_⟩
  exact List.forall_mem_nil _
theorem aF_ok (C : Cx) : attrsT C 309 aF := by
  refine List.forall_mem_cons.mpr ⟨⟨by kernel_rfl, by kernel_rfl⟩, ?_⟩
  refine List.forall_mem_cons.mpr ⟨⟨by kernel_rfl, by kernel_rfl⟩, ?_⟩
  refine List.forall_mem_cons.mpr ⟨⟨by kernel_rfl, by kernel_rfl⟩, ?_⟩
  refine List.forall_mem_cons.mpr ⟨⟨by kernel_rfl, by kernel_rfl⟩, ?_⟩
  refine List.forall_mem_cons.mpr ⟨⟨by kernel_rfl, by kernel_rfl⟩, ?_⟩
  refine List.forall_mem_cons.mpr ⟨⟨by kernel_rfl, by kernel_rfl⟩, ?_⟩
  refine List.forall_mem_cons.mpr ⟨⟨by kernel_rfl, by kernel_rfl⟩, ?_⟩
  exact List.forall_mem_nil _
theorem aP_ok (C : Cx) : attrsT C 517 aP := by
  refine List.forall_mem_cons.mpr ⟨⟨by kernel_rfl, by kernel_rfl⟩, ?_⟩
  refine List.forall_mem_cons.mpr ⟨⟨by kernel_rfl, by kernel_rfl⟩, ?_⟩
  refine List.forall_mem_cons.mpr ⟨⟨by kernel_rfl, by kernel_rfl⟩, ?_⟩
  refine List.forall_mem_cons.mpr ⟨⟨by kernel_rfl, by kernel_rfl⟩, ?_⟩
  refine List.forall_mem_cons.mpr ⟨⟨by kernel_rfl, by kernel_rfl⟩, ?_⟩
  refine List.forall_mem_cons.mpr ⟨⟨by kernel_rfl, by kernel_rfl⟩, ?_⟩
  refine List.forall_mem_cons.mpr ⟨⟨by kernel_rfl, by kernel_rfl⟩, ?_⟩
  refine List.forall_mem_cons.mpr ⟨⟨by kernel_rfl, by kernel_rfl⟩, ?_⟩
  refine List.forall_mem_cons.mpr ⟨⟨by kernel_rfl, by kernel_rfl⟩, ?_⟩
  refine List.forall_mem_cons.mpr ⟨⟨by kernel_rfl, by kernel_rfl⟩, ?_⟩
  refine List.forall_mem_cons.mpr ⟨⟨by kernel_rfl, by kernel_rfl⟩, ?_⟩
  refine List.forall_mem_cons.mpr ⟨⟨by kernel_rfl, by kernel_rfl⟩, ?_⟩
  refine List.forall_mem_cons.mpr ⟨⟨by kernel_rfl, by kernel_rfl⟩, ?_⟩
  exact List.forall_mem_nil _
theorem atrT_ok (C : Cx) {c : Addr} {x : Str} (h : atrT c x = true) : getOk C.KK c x = true ∧ setOk C.KK c x = true := by
  unfold atrT at h
  rw [List.any_eq_true] at h
  obtain ⟨y, hy, e⟩ := h
  obtain rfl := sq_iff.mp e
  split at hy
  · rename_i e; rw [Nat.eq_of_beq_eq_true e]; exact aP_ok C _ hy
  · split at hy
    · rename_i e; rw [Nat.eq_of_beq_eq_true e]; exact aF_ok C _ hy
    · split at hy
      · rename_i e; rw [Nat.eq_of_beq_eq_true e]; exact aO_ok C _ hy
      · split at hy
        · rename_i e; rw [Nat.eq_of_beq_eq_true e]; exact aS_ok C _ hy
        · cases hy
end Mine
end
section
open PySem PySem.W PySem.Calls PyProof.Rows PySem.Challenge

namespace Mine
/-! ## what is left to show, as a function of the text -/
/-- what a def must be for it -/
structure FOk (f : FI) : Prop where
  kind : f.fd.scope.kind = .function
  gl : f.fd.globals = mainGlobals
  bl : f.fd.builtins = builtinsNs
  dbg : f.fd.scope.names.lookup ("__debug__" : Str) = none
inductive Tg where
  | loc (x : Str)
  | cst (v : MV)
  | bin (op : Operator)
  | cmp (op : CmpOp)
  | un (op : UnaryOp)
  | attr (x : Str)
  | sub
  | ifx
  | bl (op : BoolOp)
  | lst
  | tup
  | call (fv : Value)
  | call0 (fv : Value)
  | bcall (fv : Value)
  | meth (x : Str)
  | app
  | pop
  | get
  | oth
inductive NTg where
  | loc
  | glo
  | oth
noncomputable def ntg (f : FI) (x : Str) : NTg := match lk f.fd.scope.names x with
  | some .local => .loc
  | some .globalImplicit => .glo
  | _ => .oth
/-- a name read -/
noncomputable def nmC : Option MV → Tg
  | some v => .cst v
  | none => .oth
noncomputable def nmT (x : Str) : NTg → Tg
  | .loc => .loc x
  | .glo => nmC (lk gTab x)
  | .oth => .oth
noncomputable def coT : Const → Tg
  | .int i => .cst (.int i)
  | .str i => .cst (.str i)
  | .bool i => .cst (.bool i)
  | .none => .cst .none
  | _ => .oth
noncomputable def bo1 {α : Type} (a b : α) : Bool → α
  | true => a
  | false => b
noncomputable def cmO : List CmpOp → List Expr → Option CmpOp
  | op :: ops, e :: es => bo1 (some op) none (isN ops && (isN es && !(behindInMarks op e)))
  | _, _ => none
noncomputable def cmT : Option CmpOp → Tg
  | some op => .cmp op
  | none => .oth
noncomputable def isSl : Expr → Bool
  | .Slice .. => true
  | _ => false
/-- a def or class called by name -/
noncomputable def f2T (n : Bool) : Option Value → Tg
  | some v => bo1 .oth (.bcall v) n
  | none => .oth
noncomputable def f1T (x : Str) (n : Bool) : Option Value → Tg
  | some v => bo1 (.call0 v) (.call v) n
  | none => f2T n (lk bTab x)
noncomputable def glT (x : Str) (n : Bool) : NTg → Tg
  | .glo => f1T x n (lk fTab x)
  | _ => .oth
/-- a method -/
noncomputable def mtT (x : Str) (n : Bool) : Tg := bo1 (bo1 .oth .app n) (bo1 (bo1 .pop .oth n) (bo1 (bo1 .oth .get n) (.meth x) (sq x (Str.ofString "get"))) (sq x (Str.ofString "pop"))) (sq x (Str.ofString "append"))
/-- the one dict keyed by pairs stays by hand -/
noncomputable def nFn : Expr → Bool
  | .Attribute _ y _ => !(sq y (Str.ofString "functor_numbers"))
  | _ => true
noncomputable def cTg (f : FI) (es : List Expr) (pos : Pos) : Expr → Tg
  | .Name x _ => bo1 (glT x (isN es) (ntg f x)) .oth (noStar es)
  | .Attribute o x ap => bo1 (mtT x (isN es)) .oth (nFn o && (nc0 o && Nat.beq ap.endLine pos.line && noStar es && shrt 20 es))
  | _ => .oth
noncomputable def tg (f : FI) : Expr → Tg
  | .Name x _ => nmT x (ntg f x)
  | .Constant c _ _ => coT c
  | .BinOp _ op _ _ => .bin op
  | .UnaryOp op _ _ => .un op
  | .Compare _ ops es _ => cmT (cmO ops es)
  | .Attribute o x _ => bo1 (.attr x) .oth (nc0 o)
  | .Subscript _ s _ => bo1 .oth .sub (isSl s)
  | .IfExp _ _ _ _ => .ifx
  | .BoolOp op es _ => bo1 .oth (.bl op) (isN es)
  | .List es _ => bo1 .lst .oth (noStar es)
  | .Tuple es _ _ => bo1 .tup .oth (noStar es)
  | .Call g es ks pos => bo1 (cTg f es pos g) .oth (isN ks)
  | _ => .oth
inductive TTg where
  | nt
  | bl (op : BoolOp)
  | cmp (op : CmpOp)
  | val
  | oth
noncomputable def unT : UnaryOp → TTg
  | .Not => .nt
  | _ => .val
noncomputable def tcT : Option CmpOp → TTg
  | some op => .cmp op
  | none => .oth
noncomputable def ttg : Expr → TTg
  | .UnaryOp op _ _ => unT op
  | .BoolOp op _ _ => .bl op
  | .IfExp _ _ _ _ => .oth
  | .Compare _ ops es _ => tcT (cmO ops es)
  | _ => .val
inductive STg where
  | ret
  | ifs
  | asg (x : Str)
  | sat (x : Str)
  | sit
  | exp
  | aug (x : Str) (op : Operator)
  | ras
  | unp (x y : Str)
  | for_ (x : Str)
  | forr (x : Str)
  | whl
  | brk
  | oth
noncomputable def loT (t : STg) : NTg → STg
  | .loc => t
  | _ => .oth
noncomputable def lone {α : Type} : List α → Bool
  | _ :: r => isN r
  | [] => false
noncomputable def valO {α : Type} {P : α → Prop} : Option (Subtype P) → Option α
  | some x => some x.1
  | none => none
theorem valO_of {α : Type} {P : α → Prop} {o : Option (Subtype P)} {x : α} (h : valO o = some x) : P x := by
  cases o with
  | none => cases h
  | some y => cases h; exact y.2
noncomputable def nmV : (e : Expr) → Option {x : Str // ∃ p, e = .Name x p}
  | .Name x p => some ⟨x, p, rfl⟩
  | _ => none
noncomputable def nm (e : Expr) : Option Str := valO (nmV e)
theorem nm_of {e : Expr} {x : Str} (h : nm e = some x) : ∃ p, e = .Name x p := valO_of (o := nmV e) h
noncomputable def isTu : Expr → Bool
  | .Tuple .. => true
  | _ => false
noncomputable def isSe : Expr → Bool
  | .Set .. => true
  | _ => false
/-- two names to be bound -/
noncomputable def twoM : Option Str → Option Str → Bool → Option (Str × Str)
  | some x, some y, true => some (x, y)
  | _, _, _ => none
noncomputable def twoN : List Expr → Option (Str × Str)
  | [] => none
  | a :: r => match r with
    | [] => none
    | b :: r => twoM (nm a) (nm b) (isN r)
theorem twoN_of {es : List Expr} {p : Str × Str} (h : twoN es = some p) : ∃ px py, es = [.Name p.1 px, .Name p.2 py] := by
  cases es with
  | nil => cases h
  | cons a r =>
    cases r with
    | nil => cases h
    | cons b r =>
      change twoM (nm a) (nm b) (isN r) = _ at h
      cases ha : nm a with
      | none => rw [ha] at h; cases h
      | some x =>
        cases hb : nm b with
        | none => rw [ha, hb] at h; cases h
        | some y =>
          cases r with
          | cons _ _ => rw [ha, hb] at h; cases h
          | nil =>
            rw [ha, hb] at h; cases h
            obtain ⟨px, rfl⟩ := nm_of ha
            obtain ⟨py, rfl⟩ := nm_of hb
            exact ⟨px, py, rfl⟩
noncomputable def upT (f : FI) : Option (Str × Str) → STg
  | some (x, y) => loT (loT (.unp x y) (ntg f y)) (ntg f x)
  | none => .oth
/-- range(e) -/
noncomputable def callV : (e : Expr) → Option {q : Expr × List Expr × List Keyword // ∃ p, e = .Call q.1 q.2.1 q.2.2 p}
  | .Call g es ks p => some ⟨(g, es, ks), p, rfl⟩
  | _ => none
noncomputable def rgT (es : List Expr) (ks : List Keyword) : Option Str → Bool
  | some x => sq x (Str.ofString "range") && isN ks && lone es && noStar es
  | none => false
noncomputable def isRgO : Option (Expr × List Expr × List Keyword) → Bool
  | some q => rgT q.2.1 q.2.2 (nm q.1)
  | none => false
noncomputable def isRg (i : Expr) : Bool := isRgO (valO (callV i))
theorem rg_of {i : Expr} (h : isRg i = true) : ∃ p' e pc, i = .Call (.Name (Str.ofString "range") p') [e] [] pc ∧ noStar [e] = true := by
  unfold isRg at h
  cases hc : valO (callV i) with
  | none => rw [hc] at h; cases h
  | some q =>
    rw [hc] at h
    obtain ⟨pc, rfl⟩ := valO_of (o := callV i) hc
    clear hc
    obtain ⟨g, es, ks⟩ := q
    change rgT es ks (nm g) = true at h
    cases hg : nm g with
    | none => rw [hg] at h; cases h
    | some x =>
      rw [hg] at h
      obtain ⟨p', rfl⟩ := nm_of hg
      clear hg
      change (sq x (Str.ofString "range") && isN ks && lone es && noStar es) = true at h
      rw [Bool.and_eq_true, Bool.and_eq_true, Bool.and_eq_true] at h
      obtain ⟨⟨⟨h1, h2⟩, h3⟩, h4⟩ := h
      obtain rfl := sq_iff.mp h1
      cases ks with
      | cons _ _ => cases h2
      | nil =>
        cases es with
        | nil => cases h3
        | cons e es =>
          cases es with
          | cons _ _ => cases h3
          | nil => exact ⟨p', e, pc, rfl, h4⟩
noncomputable def glB : NTg → Bool
  | .glo => true
  | _ => false
noncomputable def foT (f : FI) (i : Expr) : Option Str → STg
  | some x => loT (bo1 (bo1 (.forr x) .oth (glB (ntg f (Str.ofString "range")))) (bo1 .oth (.for_ x) (isSe i)) (isRg i)) (ntg f x)
  | none => .oth
noncomputable def asT (f : FI) (c : Bool) (e : Expr) : Expr → STg
  | .Tuple ts _ _ => bo1 .oth (upT f (twoN ts)) (c || isTu e)
  | .Name x _ => bo1 .oth (loT (.asg x) (ntg f x)) c
  | .Attribute _ x _ => bo1 .oth (.sat x) c
  | .Subscript _ _ _ => bo1 .oth .sit c
  | _ => .oth
noncomputable def auT (f : FI) (op : Operator) : Expr → STg
  | .Name x _ => loT (.aug x op) (ntg f x)
  | _ => .oth
noncomputable def opB {α : Type} : Option α → Bool
  | some _ => true
  | none => false
noncomputable def stg (f : FI) : Stmt → STg
  | .Return e _ => bo1 .ret .oth (opB e)
  | .If _ _ _ _ => .ifs
  | .Assign ts e _ => bo1 (asT f (comp e) e (hE ts)) .oth (lone ts)
  | .Expr e _ => bo1 .oth .exp (comp e)
  | .AugAssign t op _ _ => auT f op t
  | .Raise e c _ => bo1 .oth (bo1 .ras .oth (opB e)) (opB c)
  | .For x i _ o _ => bo1 (foT f i (nm x)) .oth (isN o)
  | .While _ _ o _ => bo1 .whl .oth (isN o)
  | .Break _ => .brk
  | _ => .oth
/-- a list made -/
noncomputable def NL (o : MObj) (σ : Sto) (Q : MV → Sto → Prop) : Prop := ∀ a, σ a = none → Q (.ref a) (σ.set a o)
/-- an attribute read, a method found, an attribute stored -/
noncomputable def AtV (d : Addr) (x : Str) (σ : Sto) (Q : MV → Sto → Prop) : Prop := ∃ fs v, σ d = some (.ns fs) ∧ (x, v) ∈ fs ∧ onceKey x fs = true ∧ Q v σ
noncomputable def MtV (d : Addr) (x : Str) (σ : Sto) (K : Prop) : Prop := ∃ fs, σ d = some (.ns fs) ∧ (fs.all fun p => !(p.1 == x)) = true ∧ K
noncomputable def SatV (d : Addr) (x : Str) (b : MV) (σ : Sto) (P : Sto → Prop) : Prop := ∃ fs fs', σ d = some (.ns fs) ∧ Put x b fs fs' ∧ onceKey x fs' = true ∧ fs'.length ≤ 1000 ∧ P (σ.set d (.ns fs'))
noncomputable abbrev KV := MV → Sto → Prop
noncomputable abbrev KB := Bool → Sto → Prop
noncomputable abbrev KA := List MV → Sto → Prop
noncomputable abbrev KS := MF → Env1 → Sto → Prop
structure VF where
  E : Expr → Env1 → Sto → KV → ExcP → Prop
  T : Expr → Env1 → Sto → KB → ExcP → Prop
  A : List Expr → Env1 → Sto → KA → ExcP → Prop
  N : BoolOp → List Expr → Env1 → Sto → KB → ExcP → Prop
  L : BoolOp → List Expr → Env1 → Sto → KV → ExcP → Prop
  S : List Stmt → Env1 → Sto → KS → ExcS → Prop
  S1 : Stmt → Env1 → Sto → KS → ExcS → Prop
section
variable (C : Cx) (k : Nat) (r : VF)
/-! ### what comes behind (no binder: what lies beneath is shared) -/
noncomputable def kBV2 (t : Value → Value → Sem Value) (Q : KV) (X : ExcP) (a : MV) : KV := fun b σ => Stp (BV C k t a b σ Q X)
noncomputable def kBV (t : Value → Value → Sem Value) (e : Expr) (ρ : Env1) (Q : KV) (X : ExcP) : KV := fun a σ => r.E e ρ σ (kBV2 C k t Q X a) X
noncomputable def kUV (t : Value → Sem Value) (Q : KV) (X : ExcP) : KV := fun a σ => Stp (UV C k t a σ Q X)
noncomputable def oAt (d : Addr) (x : Str) (σ : Sto) (Q : KV) : Bool → Prop
  | true => Stp (AtV d x σ Q)
  | false => False
noncomputable def kAt (x : Str) (Q : KV) (X : ExcP) : KV := fun a σ => match a with
  | .inst c _ d => oAt d x σ Q (atrT c x)
  | a => Stp (UV C k (fun v => getAttr v x true) a σ Q X)
noncomputable def kSub2 (v s : Expr) (Q : KV) (X : ExcP) (a : MV) : KV := fun i σ => Stp (SubV C k v s a i σ Q X)
noncomputable def kSub (v s : Expr) (ρ : Env1) (Q : KV) (X : ExcP) : KV := fun a σ => r.E s ρ σ (kSub2 C k v s Q X a) X
noncomputable def kIfx (b o : Expr) (ρ : Env1) (Q : KV) (X : ExcP) : KB := fun c σ => match c with
  | true => r.E b ρ σ Q X
  | false => r.E o ρ σ Q X
noncomputable def oNL (as : List MV) (σ : Sto) (Q : KV) : Bool → Prop
  | true => Stp (NL (.list as) σ Q)
  | false => False
noncomputable def kLst (Q : KV) : KA := fun as σ => oNL as σ Q (shrt 40 as)
noncomputable def oTup (as : List MV) (σ : Sto) (Q : KV) : Bool → Prop
  | true => Q (.tup as) σ
  | false => False
noncomputable def kTup (Q : KV) : KA := fun as σ => oTup as σ Q (shrt 20 as)
noncomputable def kCV (fv : Value) (Q : KV) (X : ExcP) : KA := fun as σ => Stp (CV C k fv as σ Q X)
noncomputable def kCM (fa : Addr) (o : MV) (Q : KV) (X : ExcP) : KA := fun as σ => Stp (CV C k (.ref fa) (o :: as) σ Q X)
noncomputable def kOp (fv : Value) (Q : KV) (X : ExcP) : KA := fun as σ => Stp (OpC C k fv as σ Q X)
noncomputable def kOM (fv : Value) (o : MV) (Q : KV) (X : ExcP) : KA := fun as σ => Stp (OpC C k fv (o :: as) σ Q X)
noncomputable def oMt (x : Str) (c o d : Addr) (es : List Expr) (ρ : Env1) (Q : KV) (X : ExcP) (σ : Sto) : Option Addr → Prop
  | some fa => Stp (MtV d x σ (r.A es ρ σ (kCM C k fa (.inst c o d) Q X) X))
  | none => False
noncomputable def kMt (x : Str) (es : List Expr) (ρ : Env1) (Q : KV) (X : ExcP) : KV := fun a σ => match a with
  | .inst c o d => oMt C k r x c o d es ρ Q X σ (mthT c x)
  | _ => False
noncomputable def kApp (es : List Expr) (ρ : Env1) (Q : KV) (X : ExcP) : KV := fun ov σ => ∃ a xs, ov = .ref a ∧ σ a = some (.list xs) ∧ r.A es ρ σ (kOM C k (.builtin "list.append") (.ref a) Q X) X
noncomputable def kPop (Q : KV) (X : ExcP) : KV := fun ov σ => ∃ a xs, ov = .ref a ∧ σ a = some (.list xs) ∧ Stp (OpC C k (.builtin "list.pop") [.ref a] σ Q X)
noncomputable def kGet (es : List Expr) (ρ : Env1) (Q : KV) (X : ExcP) : KV := fun ov σ => ∃ a, ov = .ref a ∧ ((∃ kvs, σ a = some (.dI kvs)) ∨ (∃ kvs, σ a = some (.dS kvs))) ∧ r.A es ρ σ (kOM C k (.builtin "dict.get") (.ref a) Q X) X
noncomputable def kNot (Q : KB) : KB := fun b σ => Q (!b) σ
noncomputable def kB (Q : KB) : KV := fun c σ => match c with
  | .bool b => Q b σ
  | _ => False
noncomputable def kVal (Q : KB) (X : ExcP) : KV := fun a σ => match a with
  | .bool b => Q b σ
  | a => Stp (UB C k a σ Q X)
noncomputable def kCons (a : MV) (Q : KA) : KA := fun as σ => Q (a :: as) σ
noncomputable def kArg (es : List Expr) (ρ : Env1) (Q : KA) (X : ExcP) : KV := fun a σ => r.A es ρ σ (kCons a Q) X
noncomputable def kN (op : BoolOp) (es : List Expr) (ρ : Env1) (Q : KB) (X : ExcP) : KB := fun b σ => match b, op with
  | true, .And => r.N op es ρ σ Q X
  | true, .Or => Q true σ
  | false, .And => Q false σ
  | false, .Or => r.N op es ρ σ Q X
noncomputable def kL2 (op : BoolOp) (es : List Expr) (ρ : Env1) (Q : KV) (X : ExcP) (a : MV) : KB := fun b σ => match b, op with
  | true, .And => r.L op es ρ σ Q X
  | true, .Or => Q a σ
  | false, .And => Q a σ
  | false, .Or => r.L op es ρ σ Q X
noncomputable def kL (op : BoolOp) (es : List Expr) (ρ : Env1) (Q : KV) (X : ExcP) : KV := fun a σ => match a with
  | .bool b => kL2 r op es ρ Q X (.bool b) b σ
  | a => Stp (UB C k a σ (kL2 r op es ρ Q X a) X)
noncomputable def kSeq (ss : List Stmt) (Q : KS) (X : ExcS) : KS := fun mf ρ σ => match mf with
  | .next => r.S ss ρ σ Q X
  | mf => Q mf ρ σ
noncomputable def kX (X : ExcS) (ρ : Env1) : ExcP := fun d σ => X d ρ σ
noncomputable def kRet (Q : KS) (ρ : Env1) : KV := fun v σ => Q (.ret v) ρ σ
noncomputable def kIf (b o : List Stmt) (ρ : Env1) (Q : KS) (X : ExcS) : KB := fun c σ => match c with
  | true => r.S b ρ σ Q X
  | false => r.S o ρ σ Q X
noncomputable def kNx (Q : KS) (σ : Sto) : Env1 → Prop := fun ρ => Q .next ρ σ
noncomputable def kAsg (x : Str) (ρ : Env1) (Q : KS) : KV := fun v σ => putK x v ρ (kNx Q σ)
noncomputable def oSat (d : Addr) (x : Str) (b : MV) (σ : Sto) (P : Sto → Prop) : Bool → Prop
  | true => Stp (SatV d x b σ P)
  | false => False
noncomputable def kSat2 (x : Str) (b : MV) (ρ : Env1) (Q : KS) (X : ExcS) : KV := fun a σ => match a with
  | .inst c _ d => oSat d x b σ (Q .next ρ) (atrT c x)
  | a => Stp (SetA C k a x b σ (Q .next ρ) (kX X ρ))
noncomputable def kSat (x : Str) (e : Expr) (ρ : Env1) (Q : KS) (X : ExcS) : KV := fun b σ => r.E e ρ σ (kSat2 C k x b ρ Q X) (kX X ρ)
noncomputable def kSit3 (a b : MV) (ρ : Env1) (Q : KS) (X : ExcS) : KV := fun j σ => Stp (SetI C k a j b σ (Q .next ρ) (kX X ρ))
noncomputable def kSit2 (i : Expr) (b : MV) (ρ : Env1) (Q : KS) (X : ExcS) : KV := fun a σ => r.E i ρ σ (kSit3 C k a b ρ Q X) (kX X ρ)
noncomputable def kSit (o i : Expr) (ρ : Env1) (Q : KS) (X : ExcS) : KV := fun b σ => r.E o ρ σ (kSit2 C k r i b ρ Q X) (kX X ρ)
noncomputable def kExp (ρ : Env1) (Q : KS) : KV := fun _ σ => Q .next ρ σ
noncomputable def kAug (op : Operator) (a : MV) (x : Str) (ρ : Env1) (Q : KS) (X : ExcS) : KV := fun b σ => Stp (BV C k (inplaceOp op) a b σ (kAsg x ρ Q) (kX X ρ))
noncomputable def oAug (op : Operator) (x : Str) (e : Expr) (ρ : Env1) (σ : Sto) (Q : KS) (X : ExcS) : Option MV → Prop
  | some a => r.E e ρ σ (kAug C k op a x ρ Q X) (kX X ρ)
  | none => False
noncomputable def kRas (X : ExcS) (ρ : Env1) : KV := fun v σ => ∃ a d, v = .ref a ∧ σ a = some (.exc (some d)) ∧ X d ρ (σ.del a)
noncomputable def oRas (e : Expr) (ρ : Env1) (σ : Sto) (X : ExcS) : Bool → Prop
  | true => r.E e ρ σ (kRas X ρ) (kX X ρ)
  | false => False
noncomputable def kUnp2 (y : Str) (b : MV) (Q : KS) (σ : Sto) : Env1 → Prop := fun ρ => putK y b ρ (kNx Q σ)
noncomputable def kUnpL (x y : Str) (ρ : Env1) (Q : KS) (σ : Sto) : List MV → Prop
  | [] => False
  | a :: r => match r with
    | [] => False
    | b :: r => match isN r with
      | true => putK x a ρ (kUnp2 y b Q σ)
      | false => False
noncomputable def kUnp (x y : Str) (ρ : Env1) (Q : KS) : KV := fun v σ => match v with
  | .tup l => kUnpL x y ρ Q σ l
  | _ => False
theorem kUnp_of {x y : Str} {ρ : Env1} {Q : KS} {v : MV} {σ : Sto} (h : kUnp x y ρ Q v σ) : ∃ a b, v = .tup [a, b] ∧ putK x a ρ (kUnp2 y b Q σ) := by
  cases v with
  | tup l =>
    cases l with
    | nil => exact h.elim
    | cons a r =>
      cases r with
      | nil => exact h.elim
      | cons b r =>
        cases r with
        | nil => exact ⟨a, b, rfl, h⟩
        | cons _ _ => exact h.elim
  | _ => exact h.elim
noncomputable def oUnp (x y : Str) (e : Expr) (ρ : Env1) (σ : Sto) (Q : KS) (X : ExcS) : Bool → Prop
  | true => r.E e ρ σ (kUnp x y ρ Q) (kX X ρ)
  | false => False
/-- loops -/
noncomputable def kLp (I : Nat → Env1 → Sto → Prop) (i : Nat) (Q : KS) : KS := fun mf ρ σ => match mf with
  | .next => I (i + 1) ρ σ
  | .cont => I (i + 1) ρ σ
  | .brk => Q .next ρ σ
  | .ret v => Q (.ret v) ρ σ
noncomputable def kFb (f : FI) (ss : List Stmt) (I : Nat → Env1 → Sto → Prop) (i : Nat) (Q : KS) (σ : Sto) : Env1 → Prop := fun ρ => Stp (SV C k f ss ρ σ (kLp I i Q) NoXS)
noncomputable def ForV (f : FI) (x : Str) (ss : List Stmt) (v : MV) (ρ : Env1) (σ : Sto) (Q : KS) : Prop := ∃ n item S, ItV C k v n item S ∧ ∃ I : Nat → Env1 → Sto → Prop, (∀ i ρ' σ', I i ρ' σ' → S σ') ∧ I 0 ρ σ ∧
  (∀ i ρ' σ', i < n → I i ρ' σ' → putK x (item i) ρ' (kFb C k f ss I i Q σ')) ∧ (∀ ρ' σ', I n ρ' σ' → Q .next ρ' σ')
noncomputable def kFor (f : FI) (x : Str) (ss : List Stmt) (ρ : Env1) (Q : KS) : KV := fun v σ => Stp (ForV C k f x ss v ρ σ Q)
noncomputable def FrV (f : FI) (x : Str) (ss : List Stmt) (v : MV) (ρ : Env1) (σ : Sto) (Q : KS) : Prop := ∃ n : Nat, v = .int n ∧ n ≤ 1000000 ∧ ∃ I : Nat → Env1 → Sto → Prop, I 0 ρ σ ∧
  (∀ i ρ' σ', i < n → I i ρ' σ' → putK x (.int i) ρ' (kFb C k f ss I i Q σ')) ∧ (∀ ρ' σ', I n ρ' σ' → Q .next ρ' σ')
noncomputable def kForr (f : FI) (x : Str) (ss : List Stmt) (ρ : Env1) (Q : KS) : KV := fun v σ => Stp (FrV C k f x ss v ρ σ Q)
noncomputable def oForr (f : FI) (x : Str) (e : Expr) (ss : List Stmt) (ρ : Env1) (σ : Sto) (Q : KS) (X : ExcS) : Bool → Prop
  | true => r.E e ρ σ (kForr C k f x ss ρ Q) (kX X ρ)
  | false => False
noncomputable def kWl (I : Nat → Env1 → Sto → Prop) (n : Nat) (Q : KS) : KS := fun mf ρ σ => match mf with
  | .next => ∃ j, j < n ∧ I j ρ σ
  | .cont => ∃ j, j < n ∧ I j ρ σ
  | .brk => Q .next ρ σ
  | .ret v => Q (.ret v) ρ σ
noncomputable def kWh (f : FI) (ss : List Stmt) (I : Nat → Env1 → Sto → Prop) (n : Nat) (ρ : Env1) (Q : KS) (X : ExcS) : KB := fun b σ => match b with
  | true => Stp (SV C k f ss ρ σ (kWl I n Q) X)
  | false => Q .next ρ σ
noncomputable def WhV (f : FI) (t : Expr) (ss : List Stmt) (ρ : Env1) (σ : Sto) (Q : KS) (X : ExcS) : Prop := ∃ (I : Nat → Env1 → Sto → Prop) (n : Nat), I n ρ σ ∧ ∀ n ρ' σ', I n ρ' σ' → TV C k f t ρ' σ' (kWh C k f ss I n ρ' Q X) NoX
noncomputable def oLoc (σ : Sto) (Q : KV) : Option MV → Prop
  | some v => Q v σ
  | none => False
end
noncomputable def vE (C : Cx) (k : Nat) (f : FI) (r : VF) (e : Expr) (ρ : Env1) (σ : Sto) (Q : KV) (X : ExcP) : Tg → Prop
  | .loc x => oLoc σ Q (lk ρ x)
  | .cst v => Q v σ
  | .bin op => r.E (e1 e) ρ σ (kBV C k r (binaryOp op) (e2 e) ρ Q X) X
  | .cmp op => r.E (e1 e) ρ σ (kBV C k r (compareOp op) (e2 e) ρ Q X) X
  | .un op => r.E (e1 e) ρ σ (kUV C k (unaryOp op) Q X) X
  | .attr x => r.E (e1 e) ρ σ (kAt C k x Q X) X
  | .sub => r.E (e1 e) ρ σ (kSub C k r (e1 e) (e2 e) ρ Q X) X
  | .ifx => r.T (e1 e) ρ σ (kIfx r (e2 e) (e3 e) ρ Q X) X
  | .bl op => r.L op (ea e) ρ σ Q X
  | .lst => r.A (ea e) ρ σ (kLst Q) X
  | .tup => r.A (ea e) ρ σ (kTup Q) X
  | .call fv => r.A (ea e) ρ σ (kCV C k fv Q X) X
  | .call0 fv => Stp (CV C k fv [] σ Q X)
  | .bcall fv => r.A (ea e) ρ σ (kOp C k fv Q X) X
  | .meth x => r.E (e1 e) ρ σ (kMt C k r x (ea e) ρ Q X) X
  | .app => r.E (e1 e) ρ σ (kApp C k r (ea e) ρ Q X) X
  | .pop => r.E (e1 e) ρ σ (kPop C k Q X) X
  | .get => r.E (e1 e) ρ σ (kGet C k r (ea e) ρ Q X) X
  | .oth => Stp (EV C k f e ρ σ Q X)
noncomputable def vT (C : Cx) (k : Nat) (f : FI) (r : VF) (e : Expr) (ρ : Env1) (σ : Sto) (Q : KB) (X : ExcP) : TTg → Prop
  | .nt => r.T (e1 e) ρ σ (kNot Q) X
  | .bl op => r.N op (ea e) ρ σ Q X
  | .cmp op => r.E (e1 e) ρ σ (kBV C k r (compareOp op) (e2 e) ρ (kB Q) X) X
  | .val => r.E e ρ σ (kVal C k Q X) X
  | .oth => Stp (TV C k f e ρ σ Q X)
noncomputable def vS1 (C : Cx) (k : Nat) (f : FI) (r : VF) (st : Stmt) (ρ : Env1) (σ : Sto) (Q : KS) (X : ExcS) : STg → Prop
  | .ret => r.E (s1 st) ρ σ (kRet Q ρ) (kX X ρ)
  | .ifs => r.T (s1 st) ρ σ (kIf r (sb st) (so st) ρ Q X) (kX X ρ)
  | .asg x => r.E (s1 st) ρ σ (kAsg x ρ Q) (kX X ρ)
  | .sat x => r.E (s1 st) ρ σ (kSat C k r x (s2 st) ρ Q X) (kX X ρ)
  | .sit => r.E (s1 st) ρ σ (kSit C k r (s2 st) (s3 st) ρ Q X) (kX X ρ)
  | .exp => r.E (s1 st) ρ σ (kExp ρ Q) (kX X ρ)
  | .aug x op => oAug C k r op x (s1 st) ρ σ Q X (lk ρ x)
  | .ras => oRas r (s1 st) ρ σ X (two k)
  | .unp x y => oUnp r x y (s1 st) ρ σ Q X (two k)
  | .for_ x => r.E (s1 st) ρ σ (kFor C k f x (sb st) ρ Q) (kX X ρ)
  | .forr x => oForr C k r f x (hE (ea (s1 st))) (sb st) ρ σ Q X (two k)
  | .whl => Stp (WhV C k f (s1 st) (sb st) ρ σ Q X)
  | .brk => Q .brk ρ σ
  | .oth => Stp (SV1 C k f st ρ σ Q X)
noncomputable def vA (r : VF) (es : List Expr) (ρ : Env1) (σ : Sto) (Q : KA) (X : ExcP) : Bool → Prop
  | true => Q [] σ
  | false => r.E (hE es) ρ σ (kArg r (tL es) ρ Q X) X
noncomputable def nil0 : BoolOp → Bool
  | .And => true
  | .Or => false
noncomputable def vN (r : VF) (op : BoolOp) (es : List Expr) (ρ : Env1) (σ : Sto) (Q : KB) (X : ExcP) : Bool → Prop
  | true => Q (nil0 op) σ
  | false => r.T (hE es) ρ σ (kN r op (tL es) ρ Q X) X
noncomputable def vL (C : Cx) (k : Nat) (r : VF) (op : BoolOp) (es : List Expr) (ρ : Env1) (σ : Sto) (Q : KV) (X : ExcP) : Bool → Prop
  | true => r.E (hE es) ρ σ Q X
  | false => r.E (hE es) ρ σ (kL C k r op (tL es) ρ Q X) X
noncomputable def vS (r : VF) (ss : List Stmt) (ρ : Env1) (σ : Sto) (Q : KS) (X : ExcS) : Bool → Prop
  | true => Q .next ρ σ
  | false => r.S1 (hS ss) ρ σ (kSeq r (tL ss) Q X) X
noncomputable def vstep (C : Cx) (k : Nat) (f : FI) (r : VF) : VF where
  E e ρ σ Q X := vE C k f r e ρ σ Q X (tg f e)
  T e ρ σ Q X := vT C k f r e ρ σ Q X (ttg e)
  A es ρ σ Q X := vA r es ρ σ Q X (isN es)
  N op es ρ σ Q X := vN r op es ρ σ Q X (isN es)
  L op es ρ σ Q X := vL C k r op es ρ σ Q X (isN (tL es))
  S ss ρ σ Q X := vS r ss ρ σ Q X (isN ss)
  S1 st ρ σ Q X := vS1 C k f r st ρ σ Q X (stg f st)
noncomputable def vf (C : Cx) (k : Nat) (f : FI) : Nat → VF
  | 0 => ⟨fun _ _ _ _ _ => False, fun _ _ _ _ _ => False, fun _ _ _ _ _ => False, fun _ _ _ _ _ _ => False, fun _ _ _ _ _ _ => False, fun _ _ _ _ _ => False, fun _ _ _ _ _ => False⟩
  | n + 1 => vstep C k f (vf C k f n)
end Mine
end
section
open PySem PySem.W PySem.Calls PyProof.Rows PySem.Challenge

namespace Mine
section
variable {C : Cx} {k : Nat} {f : FI} {ρ : Env1} {σ : Sto} {X : ExcP} {XS : ExcS} {r : VF}
theorem TV.mono {e : Expr} {Q Q' : KB} (h : TV C k f e ρ σ Q X) (hQ : ∀ v σ', Q v σ' → Q' v σ') : TV C k f e ρ σ Q' X :=
  fun A L m frs g s r R l => wpAny_mono (h A L m frs g s r R l) (fun _ _ ⟨g', σ', a, b, q⟩ => ⟨g', σ', a, b, hQ _ _ q⟩) fun _ _ z => z
theorem AV.mono {es : List Expr} {Q Q' : KA} (h : AV C k f es ρ σ Q X) (hQ : ∀ v σ', Q v σ' → Q' v σ') : AV C k f es ρ σ Q' X :=
  fun pos A L m frs g s r R l => wpAny_mono (h pos A L m frs g s r R l) (fun _ _ ⟨mv, g', σ', a, b, c, q⟩ => ⟨mv, g', σ', a, b, c, hQ _ _ q⟩) fun _ _ z => z
theorem BV.mono {t : Value → Value → Sem Value} {a b : MV} {Q Q' : KV} (h : BV C k t a b σ Q X) (hQ : ∀ v σ', Q v σ' → Q' v σ') : BV C k t a b σ Q' X :=
  fun A env L m frs g s va vb r R ha hb => wpAny_mono (h A env L m frs g s va vb r R ha hb) (fun _ _ ⟨mv, g', σ', a, b, c, q⟩ => ⟨mv, g', σ', a, b, c, hQ _ _ q⟩) fun _ _ z => z
theorem UB.mono {a : MV} {Q Q' : KB} (h : UB C k a σ Q X) (hQ : ∀ v σ', Q v σ' → Q' v σ') : UB C k a σ Q' X :=
  fun A env L m frs g s va r R ha => wpAny_mono (h A env L m frs g s va r R ha) (fun _ _ ⟨g', σ', a, b, q⟩ => ⟨g', σ', a, b, hQ _ _ q⟩) fun _ _ z => z
theorem SVt.mono {t : Env → Sem Flow} {Q Q' : KS} (h : SVt C k f t ρ σ Q XS) (hQ : ∀ v ρ' σ', Q v ρ' σ' → Q' v ρ' σ') : SVt C k f t ρ σ Q' XS :=
  fun A L m frs g s r R l => wpAny_mono (h A L m frs g s r R l) (fun _ _ ⟨mv, ρ', m', g', σ', a, b, c, d, q⟩ => ⟨mv, ρ', m', g', σ', a, b, c, d, hQ _ _ _ q⟩) fun _ _ z => z
structure VOk (C : Cx) (k : Nat) (f : FI) (r : VF) : Prop where
  E : ∀ {e ρ σ Q X}, r.E e ρ σ Q X → EV C k f e ρ σ Q X
  T : ∀ {e ρ σ Q X}, r.T e ρ σ Q X → TV C k f e ρ σ Q X
  A : ∀ {es ρ σ Q X}, noStar es = true → r.A es ρ σ Q X → AV C k f es ρ σ Q X
  N : ∀ {op es ρ σ Q X}, r.N op es ρ σ Q X → AT C k f op es ρ σ Q X
  L : ∀ {op e es ρ σ Q X}, r.L op (e :: es) ρ σ Q X → BL C k f op (e :: es) ρ σ Q X
  S : ∀ {ss ρ σ Q X}, r.S ss ρ σ Q X → SV C k f ss ρ σ Q X
  S1 : ∀ {st ρ σ Q X}, r.S1 st ρ σ Q X → SV1 C k f st ρ σ Q X
  A0 : ∀ {ρ σ Q X}, r.A [] ρ σ Q X → Q [] σ
theorem VOk.E' {r : VF} (O : VOk C k f r) {e : Expr} {Q Q' : KV} (h : r.E e ρ σ Q X) (hQ : ∀ v σ', Q v σ' → Q' v σ') : EV C k f e ρ σ Q' X := EVt.mono (O.E h) hQ fun _ _ z => z
theorem VOk.T' {r : VF} (O : VOk C k f r) {e : Expr} {Q Q' : KB} (h : r.T e ρ σ Q X) (hQ : ∀ v σ', Q v σ' → Q' v σ') : TV C k f e ρ σ Q' X := TV.mono (O.T h) hQ
theorem VOk.A' {r : VF} (O : VOk C k f r) {es : List Expr} {Q Q' : KA} (hn : noStar es = true) (h : r.A es ρ σ Q X) (hQ : ∀ v σ', Q v σ' → Q' v σ') : AV C k f es ρ σ Q' X := AV.mono (O.A hn h) hQ
theorem loc_of {x : Str} (h : ntg f x = .loc) : f.fd.scope.names.lookup x = some .local := by
  unfold ntg at h
  rw [lk_eq] at h
  split at h
  · assumption
  · cases h
  · cases h
theorem glo_of {x : Str} (h : ntg f x = .glo) : f.fd.scope.names.lookup x = some .globalImplicit := by
  unfold ntg at h
  rw [lk_eq] at h
  split at h
  · cases h
  · assumption
  · cases h
theorem FOk.nd (F : FOk f) {x : Str} {t : NameKind} (h : f.fd.scope.names.lookup x = some t) : (x == ("__debug__" : Str)) = false := by
  rw [beq_eq_false_iff_ne]
  rintro rfl
  rw [F.dbg] at h; cases h
/-! ### args, tests -/
theorem ok_A (O : VOk C k f r) {es : List Expr} {Q : KA} (hn : noStar es = true) (h : vA r es ρ σ Q X (isN es)) : AV C k f es ρ σ Q X := by
  cases es with
  | nil => exact AV_nil h
  | cons e es => exact AV_cons (O.E' h fun a σ₁ h => O.A (noStar_tl hn) h) (star_cons hn)
theorem ok_N (O : VOk C k f r) {op : BoolOp} {es : List Expr} {Q : KB} (h : vN r op es ρ σ Q X (isN es)) : AT C k f op es ρ σ Q X := by
  cases es with
  | nil => cases op with
    | And => exact AT_and_nil h
    | Or => exact AT_or_nil h
  | cons e es =>
    cases op with
    | And => exact AT_and (O.T' h fun b σ₁ h => by cases b with | true => exact O.N h | false => exact h)
    | Or => exact AT_or (O.T' h fun b σ₁ h => by cases b with | true => exact h | false => exact O.N h)
theorem ok_L (O : VOk C k f r) {op : BoolOp} {e : Expr} {es : List Expr} {Q : KV} (h : vL C k r op (e :: es) ρ σ Q X (isN es)) : BL C k f op (e :: es) ρ σ Q X := by
  cases es with
  | nil => exact BL_one (O.E h)
  | cons y es =>
    have k2 : ∀ a b σ₁, kL2 r op (y :: es) ρ Q X a b σ₁ → if (match op with | .And => b | .Or => !b) then BL C k f op (y :: es) ρ σ₁ Q X else Q a σ₁ := fun a b σ₁ h => by
      cases b <;> cases op <;> first | exact h | exact O.L h
    refine BL_cons (O.E' h fun a σ₁ h => ?_)
    cases a with
    | bool b => exact UB_bool (k2 _ _ _ h)
    | _ => exact UB.mono h.go fun b σ₂ h => k2 _ _ _ h
theorem ok_S (O : VOk C k f r) {ss : List Stmt} {Q : KS} (h : vS r ss ρ σ Q XS (isN ss)) : SV C k f ss ρ σ Q XS := by
  cases ss with
  | nil => exact SV_nil h
  | cons s ss =>
    refine SV_cons (SVt.mono (O.S1 h) fun mf ρ' σ' h => ?_)
    cases mf <;> first | exact O.S h | exact h
theorem cmO_of {ops : List CmpOp} {es : List Expr} {op : CmpOp} (h : cmO ops es = some op) : ∃ e, ops = [op] ∧ es = [e] ∧ behindInMarks op e = false := by
  cases ops with
  | nil => cases h
  | cons op' ops =>
    cases es with
    | nil => cases h
    | cons e es =>
      change bo1 (some op') none (isN ops && (isN es && !(behindInMarks op' e))) = some op at h
      cases hb : (isN ops && (isN es && !(behindInMarks op' e))) with
      | false => rw [hb] at h; cases h
      | true =>
        rw [hb] at h
        cases h
        rw [Bool.and_eq_true, Bool.and_eq_true, Bool.not_eq_true'] at hb
        obtain ⟨h1, h2, h3⟩ := hb
        cases ops with
        | cons _ _ => cases h1
        | nil =>
          cases es with
          | cons _ _ => cases h2
          | nil => exact ⟨e, rfl, rfl, h3⟩
theorem ok_val (O : VOk C k f r) {e : Expr} {Q : KB} (he : ∀ env whole, isTrue e env whole = (do let v ← whole; standAt e.pos; holding [v] (truthy v))) (h : r.E e ρ σ (kVal C k Q X) X) : TV C k f e ρ σ Q X :=
  TV_val (O.E' h fun a σ₁ h => by cases a <;> first | exact UB_bool h | exact h.go) he
theorem ok_T (O : VOk C k f r) {e : Expr} {Q : KB} (h : vT C k f r e ρ σ Q X (ttg e)) : TV C k f e ρ σ Q X := by
  cases e with
  | UnaryOp op x pos =>
    cases op with
    | Not => exact TV_not (O.T h)
    | _ => exact ok_val O (fun _ _ => rfl) h
  | BoolOp op es pos => exact TV_bool (O.N h)
  | IfExp a b c pos => exact h.go
  | Compare l ops es pos =>
    change vT C k f r _ ρ σ Q X (tcT (cmO ops es)) at h
    cases hc : cmO ops es with
    | none => rw [hc] at h; exact h.go
    | some op =>
        rw [hc] at h
        obtain ⟨e, rfl, rfl, hb⟩ := cmO_of hc
        exact TV_cmp hb (O.E' h fun a σ₁ h => O.E' h fun b σ₂ h => BV.mono h.go fun c σ₃ h => by cases c <;> first | exact h.elim | exact ⟨_, rfl, h⟩)
  | _ => exact ok_val O (fun _ _ => rfl) h
/-! ### expressions -/
theorem ok_name (F : FOk f) {x : Str} {pos : Pos} {Q : KV} (h : vE C k f r (.Name x pos) ρ σ Q X (nmT x (ntg f x))) : EV C k f (.Name x pos) ρ σ Q X := by
  cases hn : ntg f x with
  | oth => rw [hn] at h; exact h.go
  | loc =>
    rw [hn] at h
    change oLoc σ Q (lk ρ x) at h
    cases hl : lk ρ x with
    | none => rw [hl] at h; exact h.elim
    | some v => rw [hl] at h; exact EV_local (lk_mem hl) h F.kind (loc_of hn) (F.nd (loc_of hn))
  | glo =>
    rw [hn] at h
    change vE C k f r _ ρ σ Q X (nmC (lk gTab x)) at h
    cases hl : lk gTab x with
    | none => rw [hl] at h; exact h.go
    | some v =>
      rw [hl] at h
      obtain ⟨w, h1, h2⟩ := gTab_ok C _ (lk_mem hl)
      exact EV_global h1 h2 h F.kind F.gl (glo_of hn) (F.nd (glo_of hn))
theorem ok_fun (F : FOk f) (O : VOk C k f r) {x : Str} {es : List Expr} {p' pos : Pos} {Q : KV} (hs : noStar es = true) (h : vE C k f r (.Call (.Name x p') es [] pos) ρ σ Q X (glT x (isN es) (ntg f x))) : EV C k f (.Call (.Name x p') es [] pos) ρ σ Q X := by
  cases hn : ntg f x with
  | oth => rw [hn] at h; exact h.go
  | loc => rw [hn] at h; exact h.go
  | glo =>
    rw [hn] at h
    change vE C k f r _ ρ σ Q X (f1T x (isN es) (lk fTab x)) at h
    cases hf : lk fTab x with
    | some fv =>
      rw [hf] at h
      obtain ⟨h1, h2⟩ := fTab_ok C _ (lk_mem hf)
      cases es with
      | nil => exact EV_call0 h1 h2 h.go F.kind F.gl (glo_of hn) (F.nd (glo_of hn))
      | cons e es => exact EV_call h1 h2 (O.A' hs h fun as σ₁ h => h.go) (star_cons hs) (fun _ _ => star_plain (noStar_tl hs)) F.kind F.gl (glo_of hn) (F.nd (glo_of hn))
    | none =>
      rw [hf] at h
      change vE C k f r _ ρ σ Q X (f2T (isN es) (lk bTab x)) at h
      cases hb : lk bTab x with
      | none => rw [hb] at h; exact h.go
      | some fv =>
        rw [hb] at h
        cases es with
        | nil => exact h.go
        | cons e es =>
          obtain ⟨h1, h2, h3, h4⟩ := bTab_ok C _ (lk_mem hb)
          exact EV_bcall h1 h2 h3 h4 (O.A' hs h fun as σ₁ h => h.go) (star_cons hs) (fun _ _ => star_plain (noStar_tl hs)) F.kind F.gl F.bl (glo_of hn) (F.nd (glo_of hn))
theorem ok_meth (O : VOk C k f r) {o : Expr} {x : Str} {ap pos : Pos} {es : List Expr} {Q : KV} (hc0 : nc0 o = true) (hli : (ap.endLine == pos.line) = true) (hs : noStar es = true) (hsh : es.length ≤ 20) (h : r.E o ρ σ (kMt C k r x es ρ Q X) X) : EV C k f (.Call (.Attribute o x ap) es [] pos) ρ σ Q X := by
  cases es with
  | nil =>
    refine EV_meth0 (O.E' h fun ov σ₁ h => ?_) (nc0_ok hc0) hli
    cases ov with
    | inst c o d =>
      change oMt C k r x c o d _ ρ Q X σ₁ (mthT c x) at h
      cases hm : mthT c x with
      | none => rw [hm] at h; exact h.elim
      | some fa =>
        rw [hm] at h
        obtain ⟨fs, h1, h2, h3⟩ := h.go
        exact ⟨c, o, d, fs, fa, rfl, h1, h2, mthT_ok C hm, (O.A0 h3).go⟩
    | _ => exact h.elim
  | cons e es =>
    refine EV_meth (O.E' h fun ov σ₁ h => ?_) (nc0_ok hc0) hli (fun env => star_form hs (by omega)) (star_cons hs) (fun _ _ => star_plain (noStar_tl hs))
    cases ov with
    | inst c o d =>
      change oMt C k r x c o d _ ρ Q X σ₁ (mthT c x) at h
      cases hm : mthT c x with
      | none => rw [hm] at h; exact h.elim
      | some fa =>
        rw [hm] at h
        obtain ⟨fs, h1, h2, h3⟩ := h.go
        exact ⟨c, o, d, fs, fa, rfl, h1, h2, mthT_ok C hm, O.A' hs h3 fun as σ₂ h => h.go⟩
    | _ => exact h.elim
theorem ok_mtT (O : VOk C k f r) {o : Expr} {x : Str} {ap pos : Pos} {es : List Expr} {Q : KV} (hc0 : nc0 o = true) (hli : (ap.endLine == pos.line) = true) (hs : noStar es = true) (hsh : es.length ≤ 20) (h : vE C k f r (.Call (.Attribute o x ap) es [] pos) ρ σ Q X (mtT x (isN es))) : EV C k f (.Call (.Attribute o x ap) es [] pos) ρ σ Q X := by
  unfold mtT at h
  cases ha : sq x (Str.ofString "append") with
  | true =>
    rw [ha] at h
    obtain rfl := sq_iff.mp ha
    cases es with
    | nil => exact h.go
    | cons e es => exact EV_lmeth PySem.F.slot_list_append PySem.F.type_list_append (O.E' h fun ov σ₁ ⟨a, xs, h1, h2, h3⟩ => ⟨a, xs, h1, h2, O.A' hs h3 fun as σ₂ h => h.go⟩) (nc0_ok hc0) hli (fun env => star_form hs (by omega)) (star_cons hs) (fun _ _ => star_plain (noStar_tl hs))
  | false =>
    cases hp : sq x (Str.ofString "pop") with
    | true =>
      rw [ha, hp] at h
      obtain rfl := sq_iff.mp hp
      cases es with
      | nil => exact EV_lmeth0 PySem.F.slot_list_pop PySem.F.type_list_pop (O.E' h fun ov σ₁ ⟨a, xs, h1, h2, h3⟩ => ⟨a, xs, h1, h2, h3.go⟩) (nc0_ok hc0) hli
      | cons e es => exact h.go
    | false =>
      cases hg : sq x (Str.ofString "get") with
      | true =>
        rw [ha, hp, hg] at h
        obtain rfl := sq_iff.mp hg
        cases es with
        | nil => exact h.go
        | cons e es => exact EV_dget (O.E' h fun ov σ₁ ⟨a, h1, h2, h3⟩ => ⟨a, h1, h2, O.A' hs h3 fun as σ₂ h => h.go⟩) (nc0_ok hc0) hli (fun env => star_form hs (by omega)) (star_cons hs) (fun _ _ => star_plain (noStar_tl hs))
      | false =>
        rw [ha, hp, hg] at h
        exact ok_meth O hc0 hli hs hsh h
theorem ok_E (F : FOk f) (O : VOk C k f r) {e : Expr} {Q : KV} (h : vE C k f r e ρ σ Q X (tg f e)) : EV C k f e ρ σ Q X := by
  cases e with
  | Name x pos => exact ok_name F h
  | Constant c kk pos =>
    cases c with
    | int i => exact EV_int h
    | str i => exact EV_str h
    | bool i => exact EV_bool h
    | none => exact EV_none h
    | _ => exact h.go
  | BinOp l op r pos => exact EV_BinOp (O.E' h fun a σ₁ h => O.E' h fun b σ₂ h => h.go)
  | UnaryOp op x pos => exact EV_UnaryOp (O.E' h fun a σ₁ h => h.go)
  | Compare l ops es pos =>
    change vE C k f r _ ρ σ Q X (cmT (cmO ops es)) at h
    cases hc : cmO ops es with
    | none => rw [hc] at h; exact h.go
    | some op =>
      rw [hc] at h
      obtain ⟨e, rfl, rfl, hb⟩ := cmO_of hc
      exact EV_Compare hb (O.E' h fun a σ₁ h => O.E' h fun b σ₂ h => h.go)
  | Attribute o x pos =>
    change vE C k f r _ ρ σ Q X (bo1 (.attr x) .oth (nc0 o)) at h
    cases hc : nc0 o with
    | false => rw [hc] at h; exact h.go
    | true =>
      rw [hc] at h
      refine EV_Attr (O.E' h fun a σ₁ h => ?_) (nc0_ok hc)
      cases a with
      | inst c o d =>
        change oAt d x σ₁ Q (atrT c x) at h
        cases ha : atrT c x with
        | true =>
          rw [ha] at h
          obtain ⟨fs, v, h1, h2, h3, h4⟩ := h.go
          exact UV_get h1 h2 h3 (atrT_ok C ha).1 h4
        | false => rw [ha] at h; exact h.elim
      | _ => exact h.go
  | Subscript v s pos =>
    change vE C k f r _ ρ σ Q X (bo1 .oth .sub (isSl s)) at h
    cases hc : isSl s with
    | true => rw [hc] at h; exact h.go
    | false => rw [hc] at h; exact EV_Sub (O.E' h fun a σ₁ h => O.E' h fun b σ₂ h => h.go)
  | IfExp t b o pos => exact EV_IfExp (O.T' h fun c σ₁ h => by cases c <;> exact O.E h)
  | BoolOp op es pos =>
    cases es with
    | nil => exact h.go
    | cons e es => exact EV_BoolOp (O.L h)
  | List es pos =>
    change vE C k f r _ ρ σ Q X (bo1 .lst .oth (noStar es)) at h
    cases hn : noStar es with
    | false => rw [hn] at h; exact h.go
    | true =>
      rw [hn] at h
      refine EV_List (O.A' hn h fun as σ₁ h => ?_)
      change oNL as σ₁ Q (shrt 40 as) at h
      cases hs : shrt 40 as with
      | false => rw [hs] at h; exact h.elim
      | true => rw [hs] at h; exact ⟨Nat.le_trans (shrt_ok hs) (by decide), h.go⟩
  | Tuple es kk pos =>
    change vE C k f r _ ρ σ Q X (bo1 .tup .oth (noStar es)) at h
    cases hn : noStar es with
    | false => rw [hn] at h; exact h.go
    | true =>
      rw [hn] at h
      refine EV_Tuple (O.A' hn h fun as σ₁ h => ?_)
      change oTup as σ₁ Q (shrt 20 as) at h
      cases hs : shrt 20 as with
      | false => rw [hs] at h; exact h.elim
      | true => rw [hs] at h; exact ⟨Nat.le_trans (shrt_ok hs) (by decide), h⟩
  | Call g es kws pos =>
    cases kws with
    | cons _ _ => exact h.go
    | nil =>
      cases g with
      | Name x p' =>
        change vE C k f r _ ρ σ Q X (bo1 (glT x (isN es) (ntg f x)) .oth (noStar es)) at h
        cases hs : noStar es with
        | false => rw [hs] at h; exact h.go
        | true => rw [hs] at h; exact ok_fun F O hs h
      | Attribute o x ap =>
        change vE C k f r _ ρ σ Q X (bo1 (mtT x (isN es)) .oth (nFn o && (nc0 o && Nat.beq ap.endLine pos.line && noStar es && shrt 20 es))) at h
        cases hc : (nFn o && (nc0 o && Nat.beq ap.endLine pos.line && noStar es && shrt 20 es)) with
        | false => rw [hc] at h; exact h.go
        | true =>
          rw [hc] at h
          rw [Bool.and_eq_true, Bool.and_eq_true, Bool.and_eq_true, Bool.and_eq_true] at hc
          obtain ⟨_, ⟨⟨hc0, hli⟩, hs⟩, hsh⟩ := hc
          exact ok_mtT O hc0 (by rw [Nat.eq_of_beq_eq_true hli]; simp) hs (shrt_ok hsh) h
      | _ => exact h.go
  | _ => exact h.go
/-! ### statements -/
theorem SV_Break {QS : KS} {XS : ExcS} {pos : Pos} (q : QS .brk ρ σ) : SV1 C k f (.Break pos) ρ σ QS XS :=
  fun A L m frs g s r R l => wpAny_Break ⟨.brk, ρ, m, g, σ, .refl g, R, l, rfl, q⟩
theorem loT_h {st : Stmt} {t : STg} {n : NTg} {Q : KS} (h : vS1 C k f r st ρ σ Q XS (loT t n)) (q : n = .loc → vS1 C k f r st ρ σ Q XS t → SV1 C k f st ρ σ Q XS) : SV1 C k f st ρ σ Q XS := by
  cases n with
  | loc => exact q rfl h
  | _ => exact h.go
theorem ok_unp (F : FOk f) (O : VOk C k f r) {ts : List Expr} {kk : Nat} {tp pos : Pos} {e : Expr} {Q : KS} (hc : (comp e || isTu e) = false) (h : vS1 C k f r (.Assign [.Tuple ts kk tp] e pos) ρ σ Q XS (upT f (twoN ts))) : SV1 C k f (.Assign [.Tuple ts kk tp] e pos) ρ σ Q XS := by
  cases ht : twoN ts with
  | none => rw [ht] at h; exact h.go
  | some p =>
    obtain ⟨x, y⟩ := p
    rw [ht] at h
    obtain ⟨px, py, rfl⟩ := twoN_of ht
    rw [Bool.or_eq_false_iff] at hc
    refine loT_h h fun hx h => loT_h h fun hy h3 => ?_
    change oUnp r x y e ρ σ Q XS (two k) at h3
    cases hk : two k with
    | false => rw [hk] at h3; exact h3.elim
    | true =>
      rw [hk] at h3
      obtain ⟨k, rfl⟩ := two_ok hk
      refine SV_Unpack2 (O.E' h3 fun v σ₁ h => ?_) (fun env => (comp_ok hc.1 (some (.Tuple [.Name x px, .Name y py] kk tp)) pos.line env :)) (fun env => ?_) F.kind (loc_of hx) (loc_of hy)
      · obtain ⟨a, b, rfl, h⟩ := kUnp_of h
        obtain ⟨ρ₁, p1, o1, h⟩ := putK_ok h
        obtain ⟨ρ₂, p2, o2, h⟩ := putK_ok h
        exact ⟨_, _, rfl, ρ₁, ρ₂, p1, o1, p2, o2, h⟩
      · have hc2 := hc.2
        cases e <;> first | rfl | cases hc2
theorem ok_for (F : FOk f) (O : VOk C k f r) {x i : Expr} {b : List Stmt} {pos : Pos} {Q : KS} (h : vS1 C k f r (.For x i b [] pos) ρ σ Q XS (foT f i (nm x))) : SV1 C k f (.For x i b [] pos) ρ σ Q XS := by
  cases hx : nm x with
  | none => rw [hx] at h; exact h.go
  | some y =>
    rw [hx] at h
    obtain ⟨px, rfl⟩ := nm_of hx
    refine loT_h h fun hy h3 => ?_
    clear h
    cases hr : isRg i with
    | true =>
      rw [hr] at h3
      cases hg : ntg f (Str.ofString "range") with
      | glo =>
        rw [hg] at h3
        obtain ⟨p', e, pc, rfl, hs⟩ := rg_of hr
        change oForr C k r f y e b ρ σ Q XS (two k) at h3
        cases hk : two k with
        | false => rw [hk] at h3; exact h3.elim
        | true =>
          rw [hk] at h3
          obtain ⟨k, rfl⟩ := two_ok hk
          refine SV_ForRange (O.E' h3 fun v σ₁ h => ?_) (b_range C) (fun env => star_cons hs env) (fun _ _ => rfl) F.kind F.gl F.bl (glo_of hg) (loc_of hy)
          obtain ⟨n, h1, h2, I, h3, h4, h5⟩ := h.go
          refine ⟨n, h1, h2, I, h3, fun i ρ' σ' hi hI => ?_, h5⟩
          obtain ⟨ρ'', p1, o1, h⟩ := putK_ok (h4 i ρ' σ' hi hI)
          exact ⟨ρ'', p1, o1, SVt.mono h.go fun mf ρ₃ σ₃ h => by cases mf <;> exact h⟩
      | _ => rw [hg] at h3; exact h3.go
    | false =>
      rw [hr] at h3
      change vS1 C k f r _ ρ σ Q XS (bo1 .oth (.for_ y) (isSe i)) at h3
      cases hi : isSe i with
      | true => rw [hi] at h3; exact h3.go
      | false =>
        rw [hi] at h3
        refine SV_For (O.E' h3 fun v σ₁ h => ?_) (fun env z => by cases i <;> first | rfl | cases hi) F.kind (loc_of hy)
        obtain ⟨n, item, S, h1, I, h2, h3, h4, h5⟩ := h.go
        refine ⟨n, item, S, h1, I, h2, h3, fun i ρ' σ' hi hI => ?_, h5⟩
        obtain ⟨ρ'', p1, o1, h⟩ := putK_ok (h4 i ρ' σ' hi hI)
        exact ⟨ρ'', p1, o1, SVt.mono h.go fun mf ρ₃ σ₃ h => by cases mf <;> exact h⟩
theorem ok_S1 (F : FOk f) (O : VOk C k f r) {st : Stmt} {Q : KS} (h : vS1 C k f r st ρ σ Q XS (stg f st)) : SV1 C k f st ρ σ Q XS := by
  cases st with
  | Return e pos =>
    cases e with
    | none => exact h.go
    | some e => exact SV_Return (O.E h)
  | If t b o pos => exact SV_If (O.T' h fun c σ₁ h => by cases c <;> exact O.S h)
  | Expr e pos =>
    change vS1 C k f r _ ρ σ Q XS (bo1 .oth .exp (comp e)) at h
    cases hc : comp e with
    | true => rw [hc] at h; exact h.go
    | false => rw [hc] at h; exact SV_Expr (O.E h) (fun L => by unfold interactive; rw [show (f.env L).scope.kind = .function from F.kind]; rfl) (comp_ok hc _ _)
  | Assign ts e pos =>
    change vS1 C k f r _ ρ σ Q XS (bo1 (asT f (comp e) e (hE ts)) .oth (lone ts)) at h
    cases ts with
    | nil => exact h.go
    | cons t ts =>
      cases ts with
      | cons _ _ => exact h.go
      | nil =>
        change vS1 C k f r _ ρ σ Q XS (asT f (comp e) e t) at h
        cases t with
        | Name x p' =>
          change vS1 C k f r _ ρ σ Q XS (bo1 .oth (loT (.asg x) (ntg f x)) (comp e)) at h
          cases hc : comp e with
          | true => rw [hc] at h; exact h.go
          | false =>
            rw [hc] at h
            change vS1 C k f r _ ρ σ Q XS (loT (.asg x) (ntg f x)) at h
            cases hn : ntg f x with
            | loc => rw [hn] at h; exact SV_Assign (O.E' h fun v σ₁ h => putK_ok h) (comp_ok hc _ _) F.kind (loc_of hn)
            | _ => rw [hn] at h; exact h.go
        | Attribute o x p' =>
          change vS1 C k f r _ ρ σ Q XS (bo1 .oth (.sat x) (comp e)) at h
          cases hc : comp e with
          | true => rw [hc] at h; exact h.go
          | false =>
            rw [hc] at h
            refine SV_setattr (O.E' h fun b σ₁ h => O.E' h fun a σ₂ h => ?_) (comp_ok hc _ _)
            cases a with
            | inst c o d =>
              change oSat d x b σ₂ (Q .next ρ) (atrT c x) at h
              cases ha : atrT c x with
              | true =>
                rw [ha] at h
                obtain ⟨fs, fs', h1, h2, h3, h4, h5⟩ := h.go
                exact SetA_inst h1 h2 h3 (atrT_ok C ha).2 h4 h5
              | false => rw [ha] at h; exact h.elim
            | _ => exact h.go
        | Subscript o i p' =>
          change vS1 C k f r _ ρ σ Q XS (bo1 .oth .sit (comp e)) at h
          cases hc : comp e with
          | true => rw [hc] at h; exact h.go
          | false => rw [hc] at h; exact SV_setitem (O.E' h fun b σ₁ h => O.E' h fun a σ₂ h => O.E' h fun j σ₃ h => h.go) (comp_ok hc _ _)
        | Tuple ts kk tp =>
          change vS1 C k f r _ ρ σ Q XS (bo1 .oth (upT f (twoN ts)) (comp e || isTu e)) at h
          cases hc : comp e || isTu e with
          | true => rw [hc] at h; exact h.go
          | false => rw [hc] at h; exact ok_unp F O hc h
        | _ => exact h.go
  | AugAssign t op e pos =>
    cases t with
    | Name x p' =>
      change vS1 C k f r _ ρ σ Q XS (loT (.aug x op) (ntg f x)) at h
      cases hn : ntg f x with
      | loc =>
        rw [hn] at h
        change oAug C k r op x _ ρ σ Q XS (lk ρ x) at h
        cases hl : lk ρ x with
        | none => rw [hl] at h; exact h.elim
        | some a => rw [hl] at h; exact SV_AugName (lk_mem hl) (O.E' h fun b σ₁ h => BV.mono h.go fun v σ₂ h => putK_ok h) F.kind (loc_of hn)
      | _ => rw [hn] at h; exact h.go
    | _ => exact h.go
  | Raise e c pos =>
    cases e with
    | none => cases c <;> exact h.go
    | some e =>
      cases c with
      | some c => exact h.go
      | none =>
        change oRas r e ρ σ XS (two k) at h
        cases hk : two k with
        | false => rw [hk] at h; exact h.elim
        | true =>
          rw [hk] at h
          obtain ⟨k, rfl⟩ := two_ok hk
          exact SV_Raise (O.E h)
  | For x i b o pos =>
    change vS1 C k f r _ ρ σ Q XS (bo1 (foT f i (nm x)) .oth (isN o)) at h
    cases o with
    | cons _ _ => exact h.go
    | nil => exact ok_for F O h
  | While t b o pos =>
    cases o with
    | cons _ _ => exact h.go
    | nil =>
      obtain ⟨I, n, h0, h⟩ := h.go
      exact SV_WhileX I n h0 fun n ρ' σ' hI => TV.mono (h n ρ' σ' hI) fun b σ₂ h => by
        cases b with
        | false => exact h
        | true => exact SVt.mono h.go fun mf ρ₃ σ₃ h => by cases mf <;> exact h
  | Break pos => exact SV_Break h
  | _ => exact h.go
theorem vf_ok (F : FOk f) : ∀ n, VOk C k f (vf C k f n)
  | 0 => ⟨fun h => h.elim, fun h => h.elim, fun _ h => h.elim, fun h => h.elim, fun h => h.elim, fun h => h.elim, fun h => h.elim, fun h => h.elim⟩
  | n + 1 => by
    have O := vf_ok F n
    exact ⟨fun h => ok_E F O h, fun h => ok_T O h, fun a h => ok_A O a h, fun h => ok_N O h, fun h => ok_L O h, fun h => ok_S O h, fun h => ok_S1 F O h, fun h => h⟩
end
end Mine
end
section
open PySem PySem.W PySem.Calls PyProof.Rows PySem.Challenge

namespace Mine
section
variable {C : Cx} {k : Nat} {f : FI} {ρ : Env1} {σ : Sto} {X : ExcP} {XS : ExcS} {Q : MV → Sto → Prop} {QS : MF → Env1 → Sto → Prop} {l : List (Addr × MObj)}
noncomputable def kX0 (X : ExcP) : ExcS := fun d _ σ => X d σ
noncomputable def kBody (C : Cx) (k : Nat) (f : FI) (body : List Stmt) (σ : Sto) (Q : KV) (X : ExcP) : Env1 → Prop := fun ρ => (vf C k f 60).S body ρ σ (FnQ Q) (kX0 X)
/-- a def's call -/
theorem CV_V {names : List Str} {body : List Stmt} {args : List MV} (F : FOk f) (D : DefIn C.KK f names body)
    (h : zipK names args (kBody C k f body σ Q X)) : CV C (k + 1) (.ref f.addr) args σ Q X :=
  let ⟨hl, h⟩ := zipK_ok h
  CV_defX D hl ((vf_ok F 60).S h)
/-! ### cells by their place -/
theorem nth0 {α : Type} {a : α} {r : List α} : (a :: r)[0]? = some a := rfl
theorem nth1 {α : Type} {a b : α} {r : List α} : (b :: a :: r)[1]? = some a := rfl
theorem nth2 {α : Type} {a b c : α} {r : List α} : (b :: c :: a :: r)[2]? = some a := rfl
theorem nth3 {α : Type} {a b c d : α} {r : List α} : (b :: c :: d :: a :: r)[3]? = some a := rfl
theorem nth4 {α : Type} {a b c d e : α} {r : List α} : (b :: c :: d :: e :: a :: r)[4]? = some a := rfl
theorem nth5 {α : Type} {a b c d e f : α} {r : List α} : (b :: c :: d :: e :: f :: a :: r)[5]? = some a := rfl
theorem nth6 {α : Type} {a b c d e f g : α} {r : List α} : (b :: c :: d :: e :: f :: g :: a :: r)[6]? = some a := rfl
theorem nth7 {α : Type} {a b c d e f g : α} {r : List α} {i : Nat} (h : r[i]? = some a) : (b :: c :: d :: e :: f :: g :: r)[i + 6]? = some a := h
theorem Has.nth {a : Addr} {o : MObj} {i : Nat} (h : Has σ l) (e : l[i]? = some (a, o)) : σ a = some o := h.at_ _ (List.mem_of_getElem? e)
noncomputable def setK : List (Addr × MObj) → Nat → MObj → (List (Addr × MObj) → Prop) → Prop
  | [], _, _, _ => False
  | p :: r, 0, o, K => K ((p.1, o) :: r)
  | p :: r, i + 1, o, K => setK r i o (kCell p K)
theorem setK_ok {l : List (Addr × MObj)} {i : Nat} {a : Addr} {o o' : MObj} {K : List (Addr × MObj) → Prop} (e : l[i]? = some (a, o)) (h : setK l i o' K) : ∃ l', UpdL a o o' l l' ∧ K l' := by
  induction l generalizing i K with
  | nil => cases e
  | cons p r ih =>
    cases i with
    | zero =>
      obtain rfl : p = (a, o) := by simpa using e
      exact ⟨_, .head, h⟩
    | succ i =>
      obtain ⟨l', u, q⟩ := ih (i := i) (by simpa using e) h
      exact ⟨_, .tail u, q⟩
theorem At_mk {d : Addr} {x : Str} {fs : Env1} {v : MV} (s : σ d = some (.ns fs)) (m : lk fs x = some v) (o : onceKey x fs = true) (q : Q v σ) : AtV d x σ Q := ⟨fs, v, s, lk_mem m, o, q⟩
theorem Mt_mk {d : Addr} {x : Str} {K : Prop} {fs : Env1} (s : σ d = some (.ns fs)) (o : (fs.all fun p => !(p.1 == x)) = true) (q : K) : MtV d x σ K := ⟨fs, s, o, q⟩
theorem Put.len {x : Str} {v : MV} {ρ ρ' : Env1} (p : Put x v ρ ρ') : ρ'.length ≤ ρ.length + 1 := by
  induction p with
  | nil => simp
  | head => simp
  | tail _ ih => simp only [List.length_cons]; omega
noncomputable def kHas (P : Sto → Prop) : List (Addr × MObj) → Prop := fun l => ∀ σ', Has σ' l → P σ'
noncomputable def kSet (l : List (Addr × MObj)) (i : Nat) (P : Sto → Prop) : Env1 → Prop := fun fs => setK l i (.ns fs) (kHas P)
theorem Sat_mk {d : Addr} {x : Str} {b : MV} {P : Sto → Prop} {fs : Env1} {i : Nat} (H : Has σ l) (e : l[i]? = some (d, .ns fs)) (hl : shrt 30 fs = true)
    (q : putK x b fs (kSet l i P)) : SatV d x b σ P := by
  obtain ⟨fs', p, o, q⟩ := putK_ok q
  obtain ⟨l', u, q⟩ := setK_ok e q
  have n := p.len
  exact ⟨fs, fs', H.get u.mem, p, o, by have := shrt_ok hl; omega, q _ (H.upd u)⟩
theorem Sat_u {d : Addr} {x : Str} {b : MV} {P : Sto → Prop} {fs fs' : Env1} {l' : List (Addr × MObj)} (H : Has σ l) (u : UpdL d (.ns fs) (.ns fs') l l') (p : Put x b fs fs') (o : onceKey x fs' = true) (hl : shrt 30 fs' = true) (q : ∀ σ', Has σ' l' → P σ') : SatV d x b σ P :=
  ⟨fs, fs', H.get u.mem, p, o, Nat.le_trans (shrt_ok hl) (by decide), q _ (H.upd u)⟩
theorem NL_mk {o : MObj} (H : Has σ l) (q : ∀ a σ', Has σ' ((a, o) :: l) → Q (.ref a) σ') : NL o σ Q := newOf H q
/-! ### loops -/
section
variable {x : Str} {ss : List Stmt}
theorem ForT {xs : List MV} (I : Nat → Env1 → Sto → Prop) (h0 : I 0 ρ σ) (hb : ∀ i y ρ' σ', xs[i]? = some y → I i ρ' σ' → putK x y ρ' (kFb C (k + 2) f ss I i QS σ')) (hd : ∀ ρ' σ', I xs.length ρ' σ' → QS .next ρ' σ') : ForV C (k + 2) f x ss (.tup xs) ρ σ QS :=
  ⟨xs.length, _, _, ItV_tup, I, fun _ _ _ _ => trivial, h0, fun i ρ' σ' hi hI => by
    have := hb i _ ρ' σ' (List.getElem?_eq_getElem hi) hI
    rw [List.getElem?_eq_getElem hi]
    exact this, hd⟩
theorem ForL {a : Addr} {xs : List MV} (I : Nat → Env1 → Sto → Prop) (hI : ∀ i ρ' σ', I i ρ' σ' → σ' a = some (.list xs)) (h0 : I 0 ρ σ) (hb : ∀ i y ρ' σ', xs[i]? = some y → I i ρ' σ' → putK x y ρ' (kFb C (k + 2) f ss I i QS σ')) (hd : ∀ ρ' σ', I xs.length ρ' σ' → QS .next ρ' σ') : ForV C (k + 2) f x ss (.ref a) ρ σ QS :=
  ⟨xs.length, _, _, ItV_list, I, hI, h0, fun i ρ' σ' hi hI' => by
    have := hb i _ ρ' σ' (List.getElem?_eq_getElem hi) hI'
    rw [List.getElem?_eq_getElem hi]
    exact this, hd⟩
theorem ForR {n : Nat} (I : Nat → Env1 → Sto → Prop) (hn : n ≤ 1000000) (h0 : I 0 ρ σ) (hb : ∀ i ρ' σ', i < n → I i ρ' σ' → putK x (.int i) ρ' (kFb C (k + 2) f ss I i QS σ')) (hd : ∀ ρ' σ', I n ρ' σ' → QS .next ρ' σ') : FrV C (k + 2) f x ss (.int n) ρ σ QS := ⟨n, rfl, hn, I, h0, hb, hd⟩
theorem WhI {t : Expr} (I : Nat → Env1 → Sto → Prop) (n : Nat) (h0 : I n ρ σ) (hb : ∀ n ρ' σ', I n ρ' σ' → TV C k f t ρ' σ' (kWh C k f ss I n ρ' QS XS) NoX) : WhV C k f t ss ρ σ QS XS := ⟨I, n, h0, hb⟩
end
/-! ### a display of three -/
section
variable (r : VF)
noncomputable def kD3 (x y z : Str) (u v : MV) (Q : KV) : KV := fun c σ => Stp (NL (.dS [(x, u), (y, v), (z, c)]) σ Q)
noncomputable def kD2 (x y z : Str) (e : Expr) (ρ : Env1) (u : MV) (Q : KV) (X : ExcP) : KV := fun v σ => r.E e ρ σ (kD3 x y z u v Q) X
noncomputable def kD1 (x y z : Str) (e e' : Expr) (ρ : Env1) (Q : KV) (X : ExcP) : KV := fun u σ => r.E e ρ σ (kD2 r x y z e' ρ u Q X) X
end
noncomputable def dv : Expr → List Expr
  | .Dict _ vs _ => vs
  | _ => []
theorem EV_Dict3V (F : FOk f) {x y z : Str} {e : Expr} (he : ∃ k1 p1 k2 p2 k3 p3 pos, e = .Dict [some (.Constant (.str x) k1 p1), some (.Constant (.str y) k2 p2), some (.Constant (.str z) k3 p3)] [hE (dv e), hE (tL (dv e)), hE (tL (tL (dv e)))] pos) (hn : [x, y, z].Nodup)
    (h : (vf C k f 60).E (hE (dv e)) ρ σ (kD1 (vf C k f 60) x y z (hE (tL (dv e))) (hE (tL (tL (dv e)))) ρ Q X) X) : EV C k f e ρ σ Q X := by
  obtain ⟨k1, p1, k2, p2, k3, p3, pos, he⟩ := he
  generalize hE (dv e) = u at he h
  generalize hE (tL (dv e)) = v at he h
  generalize hE (tL (tL (dv e))) = w at he h
  subst he
  exact EV_Dict3 hn ((vf_ok F 60).E' h fun _ _ h => (vf_ok F 60).E' h fun _ _ h => (vf_ok F 60).E' h fun _ _ h => h.go)
/-! ### slices -/
section
variable (r : VF)
noncomputable def pV (e : Option Expr) (ρ : Env1) (σ : Sto) (K : Option Int → Sto → Prop) (X : ExcP) : Prop := match e with
  | none => K none σ
  | some e => r.E e ρ σ (fun v σ' => match v with
    | .int i => K (some i) σ'
    | _ => False) X
noncomputable def SlV (a : MV) (u v : Option Int) (σ : Sto) (Q : KV) : Prop := ∃ b xs, a = .ref b ∧ σ b = some (.list xs) ∧ xs.length ≤ 1000000 ∧ NL (.list (slMV xs u v)) σ Q
noncomputable def kSl3 (a : MV) (u : Option Int) (Q : KV) : Option Int → Sto → Prop := fun v σ => Stp (SlV a u v σ Q)
noncomputable def kSl2 (hi : Option Expr) (ρ : Env1) (Q : KV) (X : ExcP) (a : MV) : Option Int → Sto → Prop := fun u σ => pV r hi ρ σ (kSl3 a u Q) X
noncomputable def kSl (lo hi : Option Expr) (ρ : Env1) (Q : KV) (X : ExcP) : KV := fun a σ => pV r lo ρ σ (kSl2 r hi ρ Q X a) X
end
theorem PV_of (F : FOk f) {e : Option Expr} {K K' : Option Int → Sto → Prop} {n : Nat} (h : pV (vf C k f n) e ρ σ K X) (hK : ∀ i σ', K i σ' → K' i σ') : PV C k f e ρ σ K' X := by
  cases e with
  | none => exact hK _ _ h
  | some e => exact (vf_ok F n).E' h fun v σ' h => by cases v <;> first | exact h.elim | exact ⟨_, rfl, hK _ _ h⟩
theorem EV_sliceV (F : FOk f) {value : Expr} {lo hi : Option Expr} {p pos : Pos} (h : (vf C k f 60).E value ρ σ (kSl (vf C k f 60) lo hi ρ Q X) X) (ht : ∀ o r, letTemporaryGo value o r = pure ()) : EV C k f (.Subscript value (.Slice lo hi none p) pos) ρ σ Q X :=
  EV_slice ((vf_ok F 60).E' h fun a σ₁ h => PV_of F h fun u σ₂ h => PV_of F h fun v σ₃ h => h.go) ht
theorem Sl_mk {b : Addr} {xs : List MV} {u v : Option Int} (h1 : σ b = some (.list xs)) (h2 : xs.length ≤ 1000000) (H : Has σ l) (q : ∀ c σ', Has σ' ((c, .list (slMV xs u v)) :: l) → Q (.ref c) σ') : SlV (.ref b) u v σ Q := ⟨b, xs, rfl, h1, h2, newOf H q⟩
/-! ### back into it -/
noncomputable def kCut (C : Cx) (k : Nat) (f : FI) (ss : List Stmt) (Q : KS) (X : ExcS) : KS := fun mf ρ σ => match mf with
  | .next => Stp (SV C k f ss ρ σ Q X)
  | mf => Q mf ρ σ
theorem vS_cut' (F : FOk f) {b : List Stmt} : ∀ (n : Nat) {a : List Stmt} {ρ : Env1} {σ : Sto}, (vf C k f n).S a ρ σ (kCut C k f b QS XS) XS → SV C k f (a ++ b) ρ σ QS XS
  | 0, _, _, _, h => h.elim
  | n + 1, [], _, _, h => h.go
  | n + 1, s :: a, _, _, h => SV_cons (SVt.mono ((vf_ok F n).S1 h) fun mf ρ' σ' h => by
      cases mf with
      | next => exact vS_cut' F n h
      | _ => exact h)
noncomputable def cutS : Nat → List Stmt → List Stmt
  | 0, _ => []
  | n + 1, ss => hS ss :: cutS n (tL ss)
noncomputable def dropS : Nat → List Stmt → List Stmt
  | 0, ss => ss
  | n + 1, ss => dropS n (tL ss)
noncomputable def lgS : Nat → List Stmt → Bool
  | 0, _ => true
  | _ + 1, [] => false
  | n + 1, _ :: r => lgS n r
theorem cut_eq : ∀ {n : Nat} {ss : List Stmt}, lgS n ss = true → cutS n ss ++ dropS n ss = ss
  | 0, _, _ => rfl
  | n + 1, _ :: r, h => by
    show _ :: (cutS n r ++ dropS n r) = _
    rw [cut_eq (n := n) h]; rfl
noncomputable def kBodyC (C : Cx) (k : Nat) (f : FI) (n : Nat) (body : List Stmt) (σ : Sto) (Q : KV) (X : ExcP) : Env1 → Prop := fun ρ => (vf C k f 60).S (cutS n body) ρ σ (kCut C k f (dropS n body) (FnQ Q) (kX0 X)) (kX0 X)
/-- a def's call, its first n statements -/
theorem CV_Vc {names : List Str} {body : List Stmt} {args : List MV} (F : FOk f) (D : DefIn C.KK f names body) (n : Nat) (hn : lgS n body = true) (h : zipK names args (kBodyC C k f n body σ Q X)) : CV C (k + 1) (.ref f.addr) args σ Q X :=
  let ⟨hl, h⟩ := zipK_ok h
  CV_defX D hl (cut_eq hn ▸ vS_cut' F 60 h)
/-- the first n statements; what stands behind stays -/
theorem vS_cut (F : FOk f) (n : Nat) {ss : List Stmt} (hn : lgS n ss = true) (h : (vf C k f 60).S (cutS n ss) ρ σ (kCut C k f (dropS n ss) QS XS) XS) : SV C k f ss ρ σ QS XS := cut_eq hn ▸ vS_cut' F 60 h
theorem vE_in (F : FOk f) {e : Expr} (h : (vf C k f 60).E e ρ σ Q X) : EV C k f e ρ σ Q X := (vf_ok F 60).E h
theorem vS_in (F : FOk f) {ss : List Stmt} (h : (vf C k f 60).S ss ρ σ QS XS) : SV C k f ss ρ σ QS XS := (vf_ok F 60).S h
theorem vT_in (F : FOk f) {e : Expr} {QB : KB} (h : (vf C k f 60).T e ρ σ QB X) : TV C k f e ρ σ QB X := (vf_ok F 60).T h
end
theorem o_SyntaxFault_init : FOk f_SyntaxFault_init := ⟨by kernel_rfl, by kernel_rfl, by kernel_rfl, by kernel_rfl⟩
theorem o_Symbols_init : FOk f_Symbols_init := ⟨by kernel_rfl, by kernel_rfl, by kernel_rfl, by kernel_rfl⟩
theorem o_Symbols_atom : FOk f_Symbols_atom := ⟨by kernel_rfl, by kernel_rfl, by kernel_rfl, by kernel_rfl⟩
theorem o_Symbols_text : FOk f_Symbols_text := ⟨by kernel_rfl, by kernel_rfl, by kernel_rfl, by kernel_rfl⟩
theorem o_Symbols_functor : FOk f_Symbols_functor := ⟨by kernel_rfl, by kernel_rfl, by kernel_rfl, by kernel_rfl⟩
theorem o_Symbols_func : FOk f_Symbols_func := ⟨by kernel_rfl, by kernel_rfl, by kernel_rfl, by kernel_rfl⟩
theorem o_Symbols_name : FOk f_Symbols_name := ⟨by kernel_rfl, by kernel_rfl, by kernel_rfl, by kernel_rfl⟩
theorem o_atom : FOk f_atom := ⟨by kernel_rfl, by kernel_rfl, by kernel_rfl, by kernel_rfl⟩
theorem o_integer : FOk f_integer := ⟨by kernel_rfl, by kernel_rfl, by kernel_rfl, by kernel_rfl⟩
theorem o_struct : FOk f_struct := ⟨by kernel_rfl, by kernel_rfl, by kernel_rfl, by kernel_rfl⟩
theorem o_fixity : FOk f_fixity := ⟨by kernel_rfl, by kernel_rfl, by kernel_rfl, by kernel_rfl⟩
theorem o_bounds : FOk f_bounds := ⟨by kernel_rfl, by kernel_rfl, by kernel_rfl, by kernel_rfl⟩
theorem o_OperatorTable_init : FOk f_OperatorTable_init := ⟨by kernel_rfl, by kernel_rfl, by kernel_rfl, by kernel_rfl⟩
theorem o_OperatorTable_prefix : FOk f_OperatorTable_prefix := ⟨by kernel_rfl, by kernel_rfl, by kernel_rfl, by kernel_rfl⟩
theorem o_OperatorTable_infix : FOk f_OperatorTable_infix := ⟨by kernel_rfl, by kernel_rfl, by kernel_rfl, by kernel_rfl⟩
theorem o_OperatorTable_postfix : FOk f_OperatorTable_postfix := ⟨by kernel_rfl, by kernel_rfl, by kernel_rfl, by kernel_rfl⟩
theorem o_OperatorTable_is_operator : FOk f_OperatorTable_is_operator := ⟨by kernel_rfl, by kernel_rfl, by kernel_rfl, by kernel_rfl⟩
theorem o_OperatorTable_table_of : FOk f_OperatorTable_table_of := ⟨by kernel_rfl, by kernel_rfl, by kernel_rfl, by kernel_rfl⟩
theorem o_OperatorTable_add : FOk f_OperatorTable_add := ⟨by kernel_rfl, by kernel_rfl, by kernel_rfl, by kernel_rfl⟩
theorem o_Frame_init : FOk f_Frame_init := ⟨by kernel_rfl, by kernel_rfl, by kernel_rfl, by kernel_rfl⟩
theorem o_ends_operand : FOk f_ends_operand := ⟨by kernel_rfl, by kernel_rfl, by kernel_rfl, by kernel_rfl⟩
theorem o_closes : FOk f_closes := ⟨by kernel_rfl, by kernel_rfl, by kernel_rfl, by kernel_rfl⟩
theorem o_is_punct : FOk f_is_punct := ⟨by kernel_rfl, by kernel_rfl, by kernel_rfl, by kernel_rfl⟩
theorem o_Parser_init : FOk f_Parser_init := ⟨by kernel_rfl, by kernel_rfl, by kernel_rfl, by kernel_rfl⟩
theorem o_Parser_peek : FOk f_Parser_peek := ⟨by kernel_rfl, by kernel_rfl, by kernel_rfl, by kernel_rfl⟩
theorem o_Parser_take : FOk f_Parser_take := ⟨by kernel_rfl, by kernel_rfl, by kernel_rfl, by kernel_rfl⟩
theorem o_Parser_fault : FOk f_Parser_fault := ⟨by kernel_rfl, by kernel_rfl, by kernel_rfl, by kernel_rfl⟩
theorem o_Parser_misplaced : FOk f_Parser_misplaced := ⟨by kernel_rfl, by kernel_rfl, by kernel_rfl, by kernel_rfl⟩
theorem o_Parser_settle : FOk f_Parser_settle := ⟨by kernel_rfl, by kernel_rfl, by kernel_rfl, by kernel_rfl⟩
theorem o_Parser_enter : FOk f_Parser_enter := ⟨by kernel_rfl, by kernel_rfl, by kernel_rfl, by kernel_rfl⟩
theorem o_Parser_operand : FOk f_Parser_operand := ⟨by kernel_rfl, by kernel_rfl, by kernel_rfl, by kernel_rfl⟩
theorem o_Parser_named : FOk f_Parser_named := ⟨by kernel_rfl, by kernel_rfl, by kernel_rfl, by kernel_rfl⟩
theorem o_Parser_operator_operand : FOk f_Parser_operator_operand := ⟨by kernel_rfl, by kernel_rfl, by kernel_rfl, by kernel_rfl⟩
theorem o_Parser_stands_alone : FOk f_Parser_stands_alone := ⟨by kernel_rfl, by kernel_rfl, by kernel_rfl, by kernel_rfl⟩
theorem o_Parser_operator_name : FOk f_Parser_operator_name := ⟨by kernel_rfl, by kernel_rfl, by kernel_rfl, by kernel_rfl⟩
theorem o_Parser_operator : FOk f_Parser_operator := ⟨by kernel_rfl, by kernel_rfl, by kernel_rfl, by kernel_rfl⟩
theorem o_Parser_admits : FOk f_Parser_admits := ⟨by kernel_rfl, by kernel_rfl, by kernel_rfl, by kernel_rfl⟩
theorem o_Parser_shift_infix : FOk f_Parser_shift_infix := ⟨by kernel_rfl, by kernel_rfl, by kernel_rfl, by kernel_rfl⟩
theorem o_Parser_apply_postfix : FOk f_Parser_apply_postfix := ⟨by kernel_rfl, by kernel_rfl, by kernel_rfl, by kernel_rfl⟩
theorem o_Parser_reduce : FOk f_Parser_reduce := ⟨by kernel_rfl, by kernel_rfl, by kernel_rfl, by kernel_rfl⟩
theorem o_Parser_close : FOk f_Parser_close := ⟨by kernel_rfl, by kernel_rfl, by kernel_rfl, by kernel_rfl⟩
theorem o_Parser_separated : FOk f_Parser_separated := ⟨by kernel_rfl, by kernel_rfl, by kernel_rfl, by kernel_rfl⟩
theorem o_Parser_closed : FOk f_Parser_closed := ⟨by kernel_rfl, by kernel_rfl, by kernel_rfl, by kernel_rfl⟩
theorem o_llaw_figures : FOk f_llaw_figures := ⟨by kernel_rfl, by kernel_rfl, by kernel_rfl, by kernel_rfl⟩
theorem o_llaw_tokens : FOk f_llaw_tokens := ⟨by kernel_rfl, by kernel_rfl, by kernel_rfl, by kernel_rfl⟩
theorem o_llaw_sides : FOk f_llaw_sides := ⟨by kernel_rfl, by kernel_rfl, by kernel_rfl, by kernel_rfl⟩
theorem o_llaw_unfold : FOk f_llaw_unfold := ⟨by kernel_rfl, by kernel_rfl, by kernel_rfl, by kernel_rfl⟩
theorem o_llaw_sound : FOk f_llaw_sound := ⟨by kernel_rfl, by kernel_rfl, by kernel_rfl, by kernel_rfl⟩
theorem o_law : FOk f_law := ⟨by kernel_rfl, by kernel_rfl, by kernel_rfl, by kernel_rfl⟩
end Mine
end
section
open PySem PySem.W PySem.Calls PyProof.Rows PySem.Challenge
set_option maxHeartbeats 4000000
namespace Mine
theorem SubV_dD {C : Cx} {k : Nat} {σ : Sto} {X : ExcP} {Q : MV → Sto → Prop} {value slice : Expr} {a : Addr} {i : Str} {x : MV} {kvs : List (Str × MV)} (hσ : σ a = some (.dS kvs)) (hx : lookK kvs i = some x) (hs : PlainIx slice) (q : Q x σ) : SubV C k value slice (.ref a) (.str i) σ Q X :=
  fun A env L m frs g s va vi rm R ra ri => by
    rw [ra.refI]
    obtain ⟨t, rfl⟩ := ri.strI
    obtain ⟨o, ws, e, d, r⟩ := (R.objs _ _ hσ).2
    have z := r.look (k := i)
    rw [hx] at z
    obtain ⟨v, hv, vr⟩ := z
    have hD := kda_dict (R.N L) (R.inRest hσ e) d
    exact tail_any hD.typeIs slot_dict_getitem.lookup (wpAny_getItem_of (strIs ..) hD.mapOf hv (.mk (R.toks _) vr q)) (hs _ _)
theorem EV_tupFromA {C : Cx} {k : Nat} {f : FI} {ρ : Env1} {σ : Sto} {X : ExcP} {Q : MV → Sto → Prop} {value : Expr} {i : Int} {kk : Nat} {p pc pos : Pos} (h : EV C k f value ρ σ (fun a σ₁ => ∃ xs, a = .tup xs ∧ 1 ≤ i ∧ i.toNat ≤ xs.length ∧ xs.length ≤ 1000000 ∧ Q (.tup (xs.drop i.toNat)) σ₁) X) : EV C k f (.Subscript value (.Slice (some (.Constant (.int i) kk pc)) none none p) pos) ρ σ Q X :=
  fun A L m frs g s rm R lc => Subscript_ (h.then rm R lc (fun _ _ z => z) fun mv g₁ σ₁ v s₁ x₁ R₁ l₁ r₁ q₁ => by
    obtain ⟨xs, rfl, h1, h2, h3, q⟩ := q₁
    obtain ⟨t, vs, o, n, rfl, hg, hc, hd, vr⟩ := r₁.tupI
    obtain ⟨j, rfl⟩ : ∃ j : Nat, i = j := ⟨i.toNat, by omega⟩
    show wpAny C.M A (do
      let l ← valueOrNone (evalOpt (some (.Constant (.int j) kk pc)) (f.env L))
      let u ← holding [l] (valueOrNone (evalOpt none (f.env L)))
      let st ← holding [l, u] (valueOrNone (evalOpt none (f.env L)))
      newFields "slice" [l, u, st]) _ _ _
    refine wpAny_bind (wpAny_Constant_int (k := kk) (pos := pc) ?_)
    refine wpAny_bind (wpAny_holding (wpAny_pure (wpAny_bind (wpAny_holding (wpAny_pure (wpAny_newObj_type ?_))))))
    have T := isTup_of (h := s₁.heap) (R₁.keep _ _ hg) hc hd
    refine kba_turn (value' := .Name (Str.ofString "_") ⟨0, 0, 0, 0⟩) (fun _ => rfl) ?_
    refine slice_tuple_from (s := { s₁ with toks := s₁.toks + 1 }) (R₁.toks (s₁.toks + 1)).F ((R₁.toks (s₁.toks + 1)).N L) T (by omega) (by rw [List.size_toArray, vr.length]; simpa using h2) (fun h' F' N' => ?_) rfl (fun _ => rfl) (by rw [List.size_toArray, vr.length, sizeLine_eq]; omega)
    have z := PostV.newTup (Q := Q) (xs := xs.drop j) (vs := vs.drop j) (R₁.toks (s₁.toks + 1)) (noneAt1 s₁.heap) F' (by simpa using N') (s₁.toks + 1) (vr.drop j) (by simpa using q)
    exact z.ext x₁)
/-- what stands behind may forget names -/
theorem SV_drop {C : Cx} {k : Nat} {f : FI} {ρ : Env1} {σ : Sto} {QS : MF → Env1 → Sto → Prop} {XS : ExcS} {ss : List Stmt}
    (h : SV C k f ss ρ σ (fun mf ρ' σ' => ∃ ρ'', (∀ p ∈ ρ'', p ∈ ρ') ∧ QS mf ρ'' σ') XS) : SV C k f ss ρ σ QS XS :=
  fun A L m frs g s r R l => wpAny_mono (h A L m frs g s r R l) (fun _ _ ⟨mf, ρ', m', g', σ', a, b, c, d, ρ'', e, q⟩ => ⟨mf, ρ'', m', g', σ', a, b, fun p hp => c p (e p hp), d, q⟩) fun _ _ z => z
theorem SV_weak {C : Cx} {k : Nat} {f : FI} {ρ ρ₀ : Env1} {σ : Sto} {QS : MF → Env1 → Sto → Prop} {XS : ExcS} {ss : List Stmt}
    (e : ∀ p ∈ ρ₀, p ∈ ρ) (h : SV C k f ss ρ₀ σ QS XS) : SV C k f ss ρ σ QS XS :=
  fun A L m frs g s r R l => h A L m frs g s r R fun p hp => l p (e p hp)
theorem clip_cast (n i : Nat) : clipAt n (i : Int) = min i n := by
  unfold clipAt
  rw [if_neg (Int.not_lt.mpr (Int.natCast_nonneg i))]
  rcases Nat.le_total i n with h | h
  · rw [Int.min_eq_left (Int.ofNat_le.mpr h), Int.max_eq_right (Int.natCast_nonneg _), Int.toNat_natCast, Nat.min_eq_left h]
  · rw [Int.min_eq_right (Int.ofNat_le.mpr h), Int.max_eq_right (Int.natCast_nonneg _), Int.toNat_natCast, Nat.min_eq_right h]
theorem slMV_take (xs : List MV) {n : Nat} (h : n ≤ xs.length) : slMV xs .none (some (n : Int)) = xs.take n := by
  unfold slMV
  show (xs.drop 0).take (clipAt xs.length (n : Int) - 0) = _
  rw [clip_cast, Nat.min_eq_left h]; rfl
theorem slMV_mid (xs : List MV) {m n : Nat} (h : m ≤ xs.length) : slMV xs (some (m : Int)) (some (n : Int)) = (xs.drop m).take (min n xs.length - m) := by
  unfold slMV
  show (xs.drop (clipAt xs.length (m : Int))).take (clipAt xs.length (n : Int) - clipAt xs.length (m : Int)) = _
  rw [clip_cast, clip_cast, Nat.min_eq_left h]
theorem sub1 (m : Nat) : ((m + 1 : Nat) : Int) - 1 = (m : Nat) := by omega
theorem add1 (m : Nat) : ((m + 1 : Nat) : Int) + 1 = (m + 2 : Nat) := by omega
theorem near_mem {α : Type} {ts : List α} {m i : Nat} {t : α} (hi : i = m + 1 ∨ i = m) (ht : ts[i]? = some t) : t ∈ (ts.drop m).take (min (m + 2) ts.length - m) := by
  have hl := (List.getElem?_eq_some_iff.mp ht).1
  have h2 : m + (i - m) = i := by omega
  have h3 : i - m < min (m + 2) ts.length - m := by
    clear h2
    rcases hi with rfl | rfl
    · rw [Nat.min_eq_left hl]; omega
    · rw [Nat.sub_self]; exact Nat.sub_pos_of_lt (Nat.lt_min.mpr ⟨by omega, hl⟩)
  refine List.mem_of_getElem? (i := i - m) ?_
  rw [List.getElem?_take_of_lt h3, List.getElem?_drop, h2]; exact ht
/-- the head of a list, of any expression -/
theorem EV_headA {C : Cx} {k : Nat} {f : FI} {ρ : Env1} {σ : Sto} {X : ExcP} {Q : MV → Sto → Prop} {value e : Expr} {p pos : Pos}
    (h : EV C k f value ρ σ (fun a σ₁ => EV C k f e ρ σ₁ (fun u σ₂ => ∃ b xs i l, a = .ref b ∧ u = .int i ∧ σ₂ b = some (.list xs) ∧ xs.length ≤ 1000000 ∧ Has σ₂ l ∧ ∀ c σ', Has σ' ((c, .list (slMV xs .none (some i))) :: l) → Q (.ref c) σ') X) X) :
    EV C k f (.Subscript value (.Slice none (some e) none p) pos) ρ σ Q X :=
  fun A L m frs g s rm R lc => Subscript_ (h.then rm R lc (fun _ _ z => z) fun mv g₁ σ₁ v s₁ x₁ R₁ l₁ r₁ q₁ => by
    show wpAny C.M A (do
      let l ← valueOrNone (evalOpt none (f.env L))
      let u ← holding [l] (valueOrNone (evalOpt (some e) (f.env L)))
      let st ← holding [l, u] (valueOrNone (evalOpt none (f.env L)))
      newFields "slice" [l, u, st]) _ _ _
    refine wpAny_bind (wpAny_pure (wpAny_bind (wpAny_holding ?_)))
    refine EVt.then (t := eval e) q₁ rm R₁ l₁ (fun _ _ z => z.ext x₁) fun mu g₂ σ₂ u s₂ x₂ R₂ l₂ r₂ q₂ => ?_
    obtain ⟨b, xs, i, ll, rfl, rfl, hb, hl, H, q⟩ := q₂
    obtain ⟨t, rfl⟩ := r₂.intI
    rw [r₁.refI]
    refine wpAny_bind (wpAny_holding (wpAny_pure (wpAny_newObj_type ?_)))
    refine kba_turn (value' := .Name (Str.ofString "_") ⟨0, 0, 0, 0⟩) (fun _ => rfl) ?_
    obtain ⟨vs, n, e', vr⟩ := list_at R₂ hb
    obtain ⟨ws, hw, vw⟩ := slMV_vrs vr .none (some i)
    refine slice_list R₂.F (R₂.N L) (isList_of e') .none (.int i t) (fun h' F' N' => ?_) rfl (fun _ => rfl) (by rw [List.size_toArray, vr.length, sizeLine_eq]; omega)
    rw [hw] at N'
    exact (PostV.newList R₂ (noneAt1 _) F' N' s₂.toks vw (newOf H q)).ext (x₁.trans x₂))
/-- the head of a list that stood before the call -/
theorem EV_headG {C : Cx} {k : Nat} {f : FI} {ρ : Env1} {σ : Sto} {X : ExcP} {Q : MV → Sto → Prop} {value e : Expr} {p pos : Pos}
    (h : EV C k f value ρ σ (fun a σ₁ => EV C k f e ρ σ₁ (fun u σ₂ => ∃ b xs i l, a = .ref b ∧ u = .int i ∧ (∃ vs, C.h₁.IsList b (List.toArray vs) ∧ ∀ g, VRs g xs vs) ∧ xs.length ≤ 1000000 ∧ Has σ₂ l ∧ ∀ c σ', Has σ' ((c, .list (slMV xs .none (some i))) :: l) → Q (.ref c) σ') X) X) :
    EV C k f (.Subscript value (.Slice none (some e) none p) pos) ρ σ Q X :=
  fun A L m frs g s rm R lc => Subscript_ (h.then rm R lc (fun _ _ z => z) fun mv g₁ σ₁ v s₁ x₁ R₁ l₁ r₁ q₁ => by
    show wpAny C.M A (do
      let l ← valueOrNone (evalOpt none (f.env L))
      let u ← holding [l] (valueOrNone (evalOpt (some e) (f.env L)))
      let st ← holding [l, u] (valueOrNone (evalOpt none (f.env L)))
      newFields "slice" [l, u, st]) _ _ _
    refine wpAny_bind (wpAny_pure (wpAny_bind (wpAny_holding ?_)))
    refine EVt.then (t := eval e) q₁ rm R₁ l₁ (fun _ _ z => z.ext x₁) fun mu g₂ σ₂ u s₂ x₂ R₂ l₂ r₂ q₂ => ?_
    obtain ⟨b, xs, i, ll, rfl, rfl, hb, hl, H, q⟩ := q₂
    obtain ⟨t, rfl⟩ := r₂.intI
    rw [r₁.refI]
    refine wpAny_bind (wpAny_holding (wpAny_pure (wpAny_newObj_type ?_)))
    refine kba_turn (value' := .Name (Str.ofString "_") ⟨0, 0, 0, 0⟩) (fun _ => rfl) ?_
    obtain ⟨vs, ⟨ol, e0, ec, n, ed⟩, vr0⟩ := hb
    have e' : s₂.heap.IsList b (List.toArray vs) := ⟨ol, R₂.keepsB _ _ e0, ec, n, ed⟩
    have vr := vr0 g₂
    obtain ⟨ws, hw, vw⟩ := slMV_vrs vr .none (some i)
    refine slice_list R₂.F (R₂.N L) e' .none (.int i t) (fun h' F' N' => ?_) rfl (fun _ => rfl) (by rw [List.size_toArray, vr.length, sizeLine_eq]; omega)
    rw [hw] at N'
    exact (PostV.newList R₂ (noneAt1 _) F' N' s₂.toks vw (newOf H q)).ext (x₁.trans x₂))
noncomputable def handBody : Stmt → List Stmt
  | .Try _ [.ExceptHandler _ _ b _] _ _ _ => b
  | _ => []
section
variable {C : Cx} {f : FI} {g : Stab} {L : Addr} {m : Str → Option Value} {frs : List Frm} {s : Shared} {A : Around} {ρ : Env1} {σ : Sto}
theorem execs_ret {b : List Stmt} {e : Expr} {pos : Pos} {Q : Flow → Shared → Prop} {E : Value → Shared → Prop} {env : Env} (hb : b = [.Return (some e) pos]) (h : wpAny C.M A (eval e env) (fun v s' => Q (.ret v) s') E s) : wpAny C.M A (execs b env) Q E s := by
  subst hb
  exact wpAny_execs_cons (wpAny_Return_some h)
theorem EV_use {k : Nat} {e : Expr} {Q : MV → Sto → Prop} {X : ExcP} (rm : Room A k ((f.env L, L, m) :: frs)) (R : Rel C g σ ((f.env L, L, m) :: frs) s) (lc : Loc g ρ m) (h : EV C k f e ρ σ Q X) :
    wpAny C.M A (eval e (f.env L)) (PostV C g ((f.env L, L, m) :: frs) Q) (PostX C g ((f.env L, L, m) :: frs) X) s := h A L m frs g s rm R lc
/-- a conjunction's first part by itself -/
theorem and_at {x y : Expr} {pos : Pos} {Q : MV → Sto → Prop} {X : ExcP} (rm : Room A 1 ((f.env L, L, m) :: frs)) (lc : Loc g ρ m)
    (h : wpAny C.M A (eval x (f.env L)) (PostV C g ((f.env L, L, m) :: frs) (fun v σ' => v = .bool true ∧ EV C 1 f y ρ σ' Q X)) (PostX C g ((f.env L, L, m) :: frs) X) s) :
    wpAny C.M A (eval (.BoolOp .And [x, y] pos) (f.env L)) (PostV C g ((f.env L, L, m) :: frs) Q) (PostX C g ((f.env L, L, m) :: frs) X) s := by
  show wpAny C.M A (eval x (f.env L) >>= _) _ _ s
  refine wpAny_bind (wpAny_mono h (fun v s₁ z => ?_) fun _ _ z => z)
  obtain ⟨mv, g', σ', x', R', vr, rfl, q⟩ := z
  refine wpAny_bind (wpAny_standAt (wpAny_bind (wpAny_holding ?_)))
  have hu : UB C 1 (.bool true) σ' (fun b σ₂ => b = true ∧ σ₂ = σ') X := UB_bool ⟨rfl, rfl⟩
  refine wpAny_mono (hu _ _ _ _ _ _ _ _ rm R' vr) (fun b s' z => ?_) fun _ _ z => z.ext x'
  obtain ⟨g'', σ'', e', R'', rfl, rfl⟩ := z
  exact wpAny_mono (BL_one (op := .And) q pos A L m frs g'' s' rm R'' ((lc.mono x').mono e')) (fun _ _ z => PostV.ext (x'.trans e') z) (fun _ _ z => PostX.ext (x'.trans e') z)
theorem cmp_at {l r : Expr} {op : CmpOp} {pos : Pos} {Q₁ Q : MV → Sto → Prop} {X : ExcP} (hm : behindInMarks op r = false) (lc : Loc g ρ m) (rm : Room A 1 ((f.env L, L, m) :: frs))
    (h1 : wpAny C.M A (eval l (f.env L)) (PostV C g ((f.env L, L, m) :: frs) Q₁) (PostX C g ((f.env L, L, m) :: frs) X) s)
    (h2 : ∀ a g' σ' s', Ext g g' → Q₁ a σ' → Rel C g' σ' ((f.env L, L, m) :: frs) s' → wpAny C.M A (eval r (f.env L)) (PostV C g' ((f.env L, L, m) :: frs) (fun b σ₂ => BV C 1 (compareOp op) a b σ₂ Q X)) (PostX C g' ((f.env L, L, m) :: frs) X) s') :
    wpAny C.M A (eval (.Compare l [op] [r] pos) (f.env L)) (PostV C g ((f.env L, L, m) :: frs) Q) (PostX C g ((f.env L, L, m) :: frs) X) s := by
  refine wpAny_Compare1 (hm := hm) (wpAny_mono h1 (fun va s₁ z => ?_) fun _ _ z => z)
  obtain ⟨ma, g₁, σ₁, x₁, R₁, r₁, q₁⟩ := z
  refine wpAny_mono (h2 ma g₁ σ₁ s₁ x₁ q₁ R₁) (fun vb s₂ z => ?_) fun _ _ z => z.ext x₁
  obtain ⟨mb, g₂, σ₂, x₂, R₂, r₂, q₂⟩ := z
  exact wpAny_mono (q₂ _ _ _ _ _ _ _ _ _ rm R₂ (r₁.mono x₂) r₂) (fun _ _ z => z.ext (x₁.trans x₂)) fun _ _ z => z.ext (x₁.trans x₂)
/-- the exception's own attribute -/
theorem exc_at {e : Expr} {x : Str} {pos : Pos} {ea d : Addr} {oe : Obj} {mv : MV} {fs : Env1} {Q : MV → Sto → Prop} {X : ExcP} (rm : Room A 1 ((f.env L, L, m) :: frs)) (R : Rel C g σ ((f.env L, L, m) :: frs) s) (lc : Loc g ρ m)
    (he : EV C 1 f e ρ σ (fun v σ' => v = .ref ea ∧ σ' = σ) X) (hb : ∀ env whole, attributeBase e x env whole = whole) (ho : g ea = some oe) (hc : oe.cls = .ref 51) (hd : oe.dict = some d) (hv : ∃ vs, oe.data = .fields vs ∧ vs[2]? = some .none)
    (hσ : σ d = some (.ns fs)) (hm : (x, mv) ∈ fs) (h1 : onceKey x fs = true) (hf : findIn C.KK (.ref 51) x = some none) (hh : hasDictIn C.KK 51 = true) (q : Q mv σ) :
    wpAny C.M A (eval (.Attribute e x pos) (f.env L)) (PostV C g ((f.env L, L, m) :: frs) Q) (PostX C g ((f.env L, L, m) :: frs) X) s := by
  show wpAny C.M A (do
      let o ← attributeBase e x (f.env L) (eval e (f.env L))
      standAt pos.atName
      let r ← holding [o] (getAttr o x true)
      letTemporaryGo e o r
      pure r) _ _ s
  rw [hb]
  refine wpAny_bind (EVt.then (t := eval e) he rm R lc (fun _ _ z => z) fun ma g₁ σ₁ va s₁ x₁ R₁ l₁ r₁ q₁ => ?_)
  obtain ⟨rfl, rfl⟩ := q₁
  rw [r₁.refI]
  obtain ⟨vs, hda, _⟩ := hv
  obtain ⟨es, n, hes, hr⟩ := (R₁.objs _ _ hσ).2
  obtain ⟨v, hv, vr⟩ := hr.getL hm h1
  have I : InstAt s₁.heap ea oe 51 (some (dictOf es n)) := ⟨R₁.keep _ _ (x₁ _ _ ho), hc, by unfold notCls; rw [hda], by rw [hd]; exact hes⟩
  refine wpAny_bind (wpAny_standAt (wpAny_bind (wpAny_holding (get_exc R₁.Kin I hf hh hv vr.handed ?_))))
  refine wpAny_bind (wpAny_letTemporaryGo (wpAny_pure ?_))
  exact ⟨mv, g₁, _, x₁, R₁.toks _, vr, q⟩
end
theorem CV_mono {C : Cx} {k : Nat} {fv : Value} {args : List MV} {σ : Sto} {Q Q' : MV → Sto → Prop} {X X' : ExcP} (h : CV C k fv args σ Q X) (hQ : ∀ v σ', Q v σ' → Q' v σ') (hX : ∀ d σ', X d σ' → X' d σ') : CV C k fv args σ Q' X' :=
  fun A frs g s vs hne rm R vr => codeAny_mono (h A frs g s vs hne rm R vr) fun r s' z => by
    rcases r with e | fl
    · obtain ⟨ea, d, g', σ', a, b, c, q⟩ := z
      exact ⟨ea, d, g', σ', a, b, c, hX _ _ q⟩
    · cases fl with
      | ret v =>
        obtain ⟨mv, g', σ', a, b, c, q⟩ := z
        exact ⟨mv, g', σ', a, b, c, hQ _ _ q⟩
      | _ => exact z.elim
theorem slMV_all (xs : List MV) : slMV xs .none .none = xs := by
  unfold slMV; simp
local macro_rules | `(tactic| walk_at "nth") => `(tactic| first | with_reducible exact nth0 | with_reducible exact nth1 | with_reducible exact nth2 | with_reducible exact nth3 | with_reducible exact nth4 | with_reducible exact nth5 | with_reducible exact nth6 | ((with_reducible refine' nth7 ?e); (case e => walk_at "nth")))
local macro_rules | `(tactic| walk_at "mem") => `(tactic| first | with_reducible exact List.mem_cons_self | with_reducible assumption | ((with_reducible refine List.mem_cons_of_mem _ ?_); walk_at "mem"))
local macro_rules | `(tactic| walk_at "put") => `(tactic| first | with_reducible exact Put.head | ((with_reducible refine' Put.tail ?q); (case q => walk_at "put")) | with_reducible exact Put.nil)
local macro_rules | `(tactic| walk_at "upd") => `(tactic| first | with_reducible exact UpdL.head | ((with_reducible refine' UpdL.tail ?q); (case q => walk_at "upd")))
/-- what stands in the store -/
local macro_rules | `(tactic| walk_at "sto") => `(tactic| first | with_reducible assumption | with_reducible exact Has.get (by assumption) (by assumption) | ((with_reducible refine' Has.nth (by with_reducible assumption) ?e); (case e => walk_at "nth")) | ((with_reducible refine Has.get (by with_reducible assumption) ?_); walk_at "mem"))
/-- a list's method: its receiver known -/
local macro_rules | `(tactic| walk_at "lst") => `(tactic| ((refine' ⟨_, _, rfl, ?s, ?_⟩); (case s => walk_at "sto")))
local macro_rules | `(tactic| walk_at "app") => `(tactic| ((try refine ⟨?_⟩); (with_reducible refine' append_H (by with_reducible assumption) ?u ?hb ?_); (case u => walk_at "upd")))
local macro_rules | `(tactic| walk_at "pop") => `(tactic| ((try refine ⟨?_⟩); (with_reducible refine' pop_H (by with_reducible assumption) ?u ?hb ?_); (case u => walk_at "upd")))
/-- what is done of itself at a stop -/
local macro_rules | `(tactic| walk_at "h") => `(tactic| first
  | ((with_reducible refine' At_mk ?s ?m ?o ?_); (case s => walk_at "sto"); (case m => exact rfl); (case o => kernel_rfl))
  | ((with_reducible refine' Mt_mk ?s ?o ?_); (case s => walk_at "sto"); (case o => kernel_rfl))
  | ((with_reducible refine' Sat_mk (by with_reducible assumption) ?e ?l ?_); (case e => walk_at "nth"); (case l => kernel_rfl); intro _ _)
  | ((with_reducible refine NL_mk (by with_reducible assumption) ?_); intro _ _ _)
  | with_reducible refine BV_is_none ?_
  | with_reducible refine BV_isnot_none ?_
  | ((with_reducible refine gB ?_); first
    | ((with_reducible refine BV_eq_str' (b := true) ?e ?_); (case e => decide))
    | ((with_reducible refine BV_eq_str' (b := false) ?e ?_); (case e => decide))
    | ((with_reducible refine BV_eq_int' (b := true) ?e ?_); (case e => decide))
    | ((with_reducible refine BV_eq_int' (b := false) ?e ?_); (case e => decide)))
  | ((with_reducible refine SubV_t0 ?h ?_); (case h => intro _ _; rfl))
  | ((with_reducible refine SubV_t1 ?h ?_); (case h => intro _ _; rfl))
  | ((with_reducible refine SubV_t2 ?h ?_); (case h => intro _ _; rfl))
  | with_reducible refine UV_neg ?_)
/-- as far as the written text leads -/
local macro_rules | `(tactic| walk_at "w") => `(tactic| repeat (first | ((refine ⟨?_⟩); try walk_at "h") | walk_at "h"))
local macro_rules | `(tactic| walk_at "addl") => `(tactic| ((with_reducible refine' add_listH ?a ?b ?n (by with_reducible assumption) ?_); (case a => walk_at "sto"); (case b => walk_at "sto"); (case n => ((try simp only [List.length_cons, List.length_nil, List.length_append]); omega)); intro _ _ _))
local macro_rules | `(tactic| walk_at "dS") => `(tactic| ((with_reducible refine' SubV_dD ?s ?h ?p ?_); (case s => walk_at "sto"); (case p => intro _ _; rfl)))
local macro_rules | `(tactic| walk_at "fin") => `(tactic| ((refine Has.sub (by with_reducible assumption) ?_); repeat (first | with_reducible exact List.Sublist.refl _ | with_reducible apply List.Sublist.cons_cons | with_reducible apply List.Sublist.cons)))
local macro_rules | `(tactic| walk_at "sub") => `(tactic| first | exact List.forall_mem_nil _ | ((refine List.forall_mem_cons.mpr ⟨?m, ?r⟩); (case m => walk_at "mem"); (case r => walk_at "sub")))
local macro_rules | `(tactic| walk_at "iadd") => `(tactic| ((with_reducible refine' iadd_H (by with_reducible assumption) ?u ?b ?n ?_); (case u => walk_at "upd"); (case b => walk_at "sto"); (case n => ((try simp only [List.length_cons, List.length_nil, List.length_append]); omega)); intro _ _))
local macro_rules | `(tactic| walk_at "dgT") => `(tactic| ((refine' EV_dgetT ?_ ?b ?l ?w ?t); (case b => intro _ _; rfl); (case l => kernel_rfl); (case w => intro _; rfl); (case t => intro _; rfl)))
/-! ### tokens -/
inductive TK where
  | num (i : Int)
  | pun (x : Str)
  | nam (x : Str)
  | oct
  | eof
structure Tk where
  k : TK
  at_ : Int
@[reducible] noncomputable def TK.kd : TK → Str
  | .num _ => S "int"
  | .pun _ => S "punct"
  | .nam _ => S "name"
  | .oct => S "open_ct"
  | .eof => S "end"
@[reducible] noncomputable def TK.val : TK → MV
  | .num i => .int i
  | .pun x => .str x
  | .nam x => .str x
  | .oct => .str (S "(")
  | .eof => .str (S ".")
@[reducible] noncomputable def Tk.mv (t : Tk) : MV := .tup [.str t.k.kd, t.k.val, .int t.at_]
noncomputable def TK.closes : TK → Bool
  | .eof => true
  | .pun x => t_CLOSERS.any (· == x)
  | _ => false
noncomputable def TK.isP (y : Str) : TK → Bool
  | .pun x => x == y
  | _ => false
noncomputable def TK.ends : TK → Bool
  | .eof => true
  | .pun x => t_CLOSERS.any (· == x) || t_SEPARATORS.any (· == x)
  | _ => false
section
variable {C : Cx} {k : Nat} {σ : Sto} {X : ExcP} {Q : MV → Sto → Prop}
theorem is_punct_spec {t : Tk} {y : Str} (q : Q (.bool (t.k.isP y)) σ) : CV C (k + 1) (.ref 334) [t.mv, .str y] σ Q X := by
  refine CV_V o_is_punct (d_is_punct C) ?_
  obtain ⟨tk, at_⟩ := t
  cases tk <;> dsimp only [Tk.mv, TK.kd, TK.val]
  case pun x =>
    walk_at "w"
    exact BV_eq_str q
  all_goals (walk_at "w"; exact q)
theorem closes_spec {t : Tk} (q : Q (.bool t.k.closes) σ) : CV C (k + 1) (.ref 327) [t.mv] σ Q X := by
  refine CV_V o_closes (d_closes C) ?_
  obtain ⟨tk, at_⟩ := t
  cases tk <;> dsimp only [Tk.mv, TK.kd, TK.val]
  case pun x =>
    walk_at "w"
    exact BV_in_strs q
  all_goals (walk_at "w"; exact q)
theorem ends_spec {t : Tk} (q : Q (.bool t.k.ends) σ) : CV C (k + 1) (.ref 320) [t.mv] σ Q X := by
  refine CV_V o_ends_operand (d_ends_operand C) ?_
  obtain ⟨tk, at_⟩ := t
  cases tk <;> dsimp only [Tk.mv, TK.kd, TK.val]
  case pun x =>
    walk_at "w"
    refine BV_in_strs ?_
    have e : TK.ends (.pun x) = (t_CLOSERS.any (· == x) || t_SEPARATORS.any (· == x)) := rfl
    dsimp only at q
    rw [e] at q
    cases h : t_CLOSERS.any (· == x) with
    | true => rw [h] at q; walk_at "w"; exact q
    | false => rw [h] at q; walk_at "w"; exact BV_in_strs q
  all_goals (walk_at "w"; exact q)
end
section
variable {C : Cx} {k : Nat} {σ : Sto} {X : ExcP} {Q : MV → Sto → Prop} {a : BA} {B : Bk} {r : List (Addr × MObj)}
theorem atom_spec {t : Str} (H : BookIn σ a B r) (hl : B.size ≤ 100000) (q : ∀ σ', BookIn σ' a (B.atom t).2 r → Q (.int (B.atom t).1) σ') : CV C (k + 1) (.ref 88) [a.mv, .str t] σ Q X := by
  obtain ⟨kv, kt, o, H⟩ := H
  have hsz : B.texts.length ≤ 100000 := by unfold Bk.size at hl; omega
  refine CV_V o_Symbols_atom (d_Symbols_atom C) ?_
  dsimp only [BA.mv]
  walk_at "w"
  refine ⟨a.an, rfl, .inr ⟨_, H.get (by walk_at "mem")⟩, ?_⟩
  walk_at "w"
  refine OpC_get2_S (H.get (by walk_at "mem")) ?_
  rw [o.s]
  cases hp : B.pos t with
  | some i =>
    have e : B.atom t = (i, B) := by unfold Bk.atom; rw [hp]
    rw [e] at q
    dsimp only [Option.map_some, Option.getD_some]
    walk_at "w"
    refine BV_ge_int ?_
    rw [show decide ((0 : Int) ≤ (i : Int)) = true from by simp]
    walk_at "w"
    exact q σ ⟨kv, kt, o, H⟩
  | none =>
    have e : B.atom t = (B.texts.length, ⟨B.texts ++ [t], B.funs⟩) := by unfold Bk.atom; rw [hp]
    rw [e] at q
    dsimp only [Option.map_none, Option.getD_none]
    walk_at "w"
    refine BV_ge_int ?_
    rw [show decide ((0 : Int) ≤ -1) = false from rfl]
    walk_at "w"
    refine OpC_len_list (H.get (by walk_at "mem")) (by simp; omega) ?_
    rw [List.length_map]
    walk_at "w"
    refine ⟨a.tx, _, rfl, H.get (by walk_at "mem"), ?_⟩
    walk_at "w"
    refine append_H H (by walk_at "upd") (by simp; omega) fun σ₁ H₁ => ?_
    walk_at "w"
    refine SetI_SH H₁ (by walk_at "upd") (by rw [o.ls]; omega) fun σ₂ H₂ => ?_
    walk_at "w"
    refine q σ₂ ⟨_, kt, o.addS hp, ?_⟩
    simpa [bookL] using H₂
theorem functor_spec {x n : Int} (H : BookIn σ a B r) (hl : B.size ≤ 100000) (q : ∀ σ', BookIn σ' a (B.functor (x, n)).2 r → Q (.int (B.functor (x, n)).1) σ') : CV C (k + 1) (.ref 102) [a.mv, .int x, .int n] σ Q X := by
  obtain ⟨kv, kt, o, H⟩ := H
  have hsz : B.funs.length ≤ 100000 := by unfold Bk.size at hl; omega
  refine CV_V o_Symbols_functor (d_Symbols_functor C) ?_
  dsimp only [BA.mv]
  walk_at "w"
  walk_at "dgT"
  refine vE_in o_Symbols_functor ?_
  walk_at "w"
  refine ⟨a.fnn, kt, rfl, H.get (by walk_at "mem"), ?_⟩
  refine vE_in o_Symbols_functor ?_
  walk_at "w"
  refine vE_in o_Symbols_functor ?_
  walk_at "w"
  refine ⟨[x, n], kt, rfl, H.get (by walk_at "mem"), ?_⟩
  rw [o.t (x, n)]
  cases hp : B.fpos (x, n) with
  | some i =>
    have e : B.functor (x, n) = (i, B) := by unfold Bk.functor; rw [hp]
    rw [e] at q
    dsimp only [Option.map_some, Option.getD_some]
    walk_at "w"
    refine BV_ge_int ?_
    rw [show decide ((0 : Int) ≤ (i : Int)) = true from by simp]
    walk_at "w"
    exact q σ ⟨kv, kt, o, H⟩
  | none =>
    have e : B.functor (x, n) = (B.funs.length, ⟨B.texts, B.funs ++ [(x, n)]⟩) := by unfold Bk.functor; rw [hp]
    rw [e] at q
    dsimp only [Option.map_none, Option.getD_none]
    walk_at "w"
    refine BV_ge_int ?_
    rw [show decide ((0 : Int) ≤ -1) = false from rfl]
    walk_at "w"
    refine OpC_len_list (H.get (by walk_at "mem")) (by simp; omega) ?_
    rw [List.length_map]
    walk_at "w"
    refine ⟨a.fn, _, rfl, H.get (by walk_at "mem"), ?_⟩
    walk_at "w"
    refine append_H H (by walk_at "upd") (by simp; omega) fun σ₁ H₁ => ?_
    walk_at "w"
    have hn : lookK kt [x, n] = none := by rw [o.t (x, n), hp]; rfl
    refine SetI_TH (i := [x, n]) H₁ (by walk_at "upd") hn (by rw [o.lt]; omega) fun σ₂ H₂ => ?_
    walk_at "w"
    refine q σ₂ ⟨kv, _, o.addT hp, ?_⟩
    simpa [bookL, fmv, tupI] using H₂
theorem func_spec {t : Str} {n : Int} (H : BookIn σ a B r) (hl : B.size ≤ 90000) (q : ∀ σ', BookIn σ' a ((B.atom t).2.functor ((B.atom t).1, n)).2 r → Q (.int ((B.atom t).2.functor ((B.atom t).1, n)).1) σ') : CV C (k + 2) (.ref 109) [a.mv, .str t, .int n] σ Q X := by
  obtain ⟨kv, kt, o, H'⟩ := id H
  have hs := B.atom_size t
  refine CV_V o_Symbols_func (d_Symbols_func C) ?_
  dsimp only [BA.mv]
  walk_at "w"
  refine atom_spec H (by omega) fun σ₁ H₁ => ?_
  walk_at "w"
  exact functor_spec H₁ (by omega) q
end
inductive Fx where
  | fx | fy | xf | yf | xfx | xfy | yfx
  deriving DecidableEq
@[reducible] noncomputable def Fx.str : Fx → Str
  | .fx => Str.ofString "fx"
  | .fy => Str.ofString "fy"
  | .xf => Str.ofString "xf"
  | .yf => Str.ofString "yf"
  | .xfx => Str.ofString "xfx"
  | .xfy => Str.ofString "xfy"
  | .yfx => Str.ofString "yfx"
noncomputable def Fx.lo (p : Int) : Fx → Int
  | .fx => 0 | .fy => 0 | .xf => p - 1 | .yf => p | .xfx => p - 1 | .xfy => p - 1 | .yfx => p
noncomputable def Fx.hi (p : Int) : Fx → Int
  | .fx => p - 1 | .fy => p | .xf => 0 | .yf => 0 | .xfx => p - 1 | .xfy => p | .yfx => p - 1
structure En where
  p : Int
  t : Fx
@[reducible] noncomputable def En.mv (e : En) : MV := .tup [.int e.p, .str e.t.str]
structure OA where
  o : Addr
  d : Addr
  pre : Addr
  inf : Addr
  post : Addr
@[reducible] noncomputable def OA.mv (a : OA) : MV := .inst 286 a.o a.d
noncomputable abbrev opNs (b : BA) (a : OA) : Env1 := [(Str.ofString "symbols", b.mv), (Str.ofString "prefixes", .ref a.pre), (Str.ofString "infixes", .ref a.inf), (Str.ofString "postfixes", .ref a.post)]
noncomputable abbrev opsL (b : BA) (a : OA) (kp ki ko : List (Int × MV)) (r : List (Addr × MObj)) : List (Addr × MObj) :=
  (a.d, .ns (opNs b a)) :: (a.pre, .dI kp) :: (a.inf, .dI ki) :: (a.post, .dI ko) :: r
section
variable {C : Cx} {k : Nat} {σ : Sto} {X : ExcP} {Q : MV → Sto → Prop} {b : BA} {a : OA} {B : Bk} {r : List (Addr × MObj)}
theorem tatom_spec {i : Int} (q : Q (.tup [.str (Str.ofString "a"), .int i]) σ) : CV C (k + 1) (.ref 173) [.int i] σ Q X := by
  refine CV_V o_atom (d_atom C) ?_
  walk_at "w"
  exact q
theorem integer_spec {i : Int} (q : Q (.tup [.str (Str.ofString "i"), .int i]) σ) : CV C (k + 1) (.ref 180) [.int i] σ Q X := by
  refine CV_V o_integer (d_integer C) ?_
  walk_at "w"
  exact q
theorem struct_spec {i : Int} {ts : List MV} (q : Q (.tup [.str (Str.ofString "s"), .int i, .tup ts]) σ) : CV C (k + 1) (.ref 187) [.int i, .tup ts] σ Q X := by
  refine CV_V o_struct (d_struct C) ?_
  walk_at "w"
  refine OpC_tuple ?_
  walk_at "w"
  exact q
theorem prefix_spec {i : Int} {kvs : List (Int × MV)} (h1 : σ a.d = some (.ns (opNs b a))) (h2 : σ a.pre = some (.dI kvs)) (q : Q ((lookK kvs i).getD .none) σ) : CV C (k + 1) (.ref 241) [a.mv, .int i] σ Q X := by
  refine CV_V o_OperatorTable_prefix (d_OperatorTable_prefix C) ?_
  dsimp only [OA.mv]
  walk_at "w"
  refine ⟨a.pre, rfl, .inl ⟨_, h2⟩, ?_⟩
  walk_at "w"
  exact OpC_get1_I h2 q
theorem infix_spec {i : Int} {kvs : List (Int × MV)} (h1 : σ a.d = some (.ns (opNs b a))) (h2 : σ a.inf = some (.dI kvs)) (q : Q ((lookK kvs i).getD .none) σ) : CV C (k + 1) (.ref 248) [a.mv, .int i] σ Q X := by
  refine CV_V o_OperatorTable_infix (d_OperatorTable_infix C) ?_
  dsimp only [OA.mv]
  walk_at "w"
  refine ⟨a.inf, rfl, .inl ⟨_, h2⟩, ?_⟩
  walk_at "w"
  exact OpC_get1_I h2 q
theorem postfix_spec {i : Int} {kvs : List (Int × MV)} (h1 : σ a.d = some (.ns (opNs b a))) (h2 : σ a.post = some (.dI kvs)) (q : Q ((lookK kvs i).getD .none) σ) : CV C (k + 1) (.ref 255) [a.mv, .int i] σ Q X := by
  refine CV_V o_OperatorTable_postfix (d_OperatorTable_postfix C) ?_
  dsimp only [OA.mv]
  walk_at "w"
  refine ⟨a.post, rfl, .inl ⟨_, h2⟩, ?_⟩
  walk_at "w"
  exact OpC_get1_I h2 q
theorem is_operator_spec {i : Int} {kp ki ko : List (Int × MV)} (h1 : σ a.d = some (.ns (opNs b a))) (h2 : σ a.pre = some (.dI kp)) (h3 : σ a.inf = some (.dI ki)) (h4 : σ a.post = some (.dI ko)) (q : Q (.bool ((lookK kp i).isSome || ((lookK ki i).isSome || (lookK ko i).isSome))) σ) : CV C (k + 1) (.ref 262) [a.mv, .int i] σ Q X := by
  refine CV_V o_OperatorTable_is_operator (d_OperatorTable_is_operator C) ?_
  dsimp only [OA.mv]
  walk_at "w"
  refine BV_in_I h2 ?_
  cases e1 : (lookK kp i).isSome with
  | true => rw [e1] at q; walk_at "w"; exact q
  | false =>
    rw [e1] at q
    walk_at "w"
    refine BV_in_I h3 ?_
    cases e2 : (lookK ki i).isSome with
    | true => rw [e2] at q; walk_at "w"; exact q
    | false =>
      rw [e2] at q
      walk_at "w"
      exact BV_in_I h4 q
theorem bounds_spec {p : Int} {t : Fx} (q : Q (.tup [.int (t.lo p), .int (t.hi p)]) σ) : CV C (k + 1) (.ref 219) [.int p, .str t.str] σ Q X := by
  refine CV_V o_bounds (d_bounds C) ?_
  cases t <;> dsimp only [Fx.str]
  all_goals
    (walk_at "w"
     refine BV_sub ?_
     walk_at "w"
     exact q)
end
theorem UpdL.mid {a : Addr} {o o' : MObj} {l l' : List (Addr × MObj)} (u : UpdL a o o' l l') (o₁ : MObj) : ∃ l₁, UpdL a o o₁ l l₁ ∧ UpdL a o₁ o' l₁ l' := by
  induction u with
  | head => exact ⟨_, .head, .head⟩
  | tail _ ih => obtain ⟨l₁, h1, h2⟩ := ih; exact ⟨_, .tail h1, .tail h2⟩
theorem UpdL.keep {a : Addr} {o o' : MObj} {l l' : List (Addr × MObj)} (u : UpdL a o o' l l') {p : Addr × MObj} (h : p ∈ l) (ne : p.2 ≠ o) : p ∈ l' := by
  induction u with
  | head =>
    rcases List.mem_cons.mp h with rfl | h
    · exact absurd rfl ne
    · exact .tail _ h
  | tail _ ih =>
    rcases List.mem_cons.mp h with rfl | h
    · exact .head _
    · exact .tail _ (ih h)
/-! ### the parser's objects -/
structure PA where
  o : Addr
  d : Addr
  tk : Addr
  fr : Addr
  nu : Addr
  na : Addr
  co : Addr
structure PS where
  place : Int
  limit : Int
  term : MV
  prio : Int
  next : Int
structure Fr0 where
  o : Addr
  d : Addr
  it : Addr
  kind : Str
  limit : Int
  functor : Int
  name : Int
  prio : Int
  left : MV
  items : List MV
@[reducible] noncomputable def PA.mv (a : PA) : MV := .inst 517 a.o a.d
@[reducible] noncomputable def Fr0.mv (f : Fr0) : MV := .inst 309 f.o f.d
noncomputable abbrev parNs (b : BA) (op : OA) (a : PA) (p : PS) : Env1 := [(Str.ofString "symbols", b.mv), (Str.ofString "operators", op.mv), (Str.ofString "mode", .str (Str.ofString "codes")), (Str.ofString "tokens", .ref a.tk), (Str.ofString "place", .int p.place), (Str.ofString "frames", .ref a.fr), (Str.ofString "limit", .int p.limit), (Str.ofString "term", p.term), (Str.ofString "priority", .int p.prio), (Str.ofString "numbers", .ref a.nu), (Str.ofString "names", .ref a.na), (Str.ofString "counts", .ref a.co), (Str.ofString "next_number", .int p.next)]
noncomputable abbrev frNs (f : Fr0) : Env1 := [(Str.ofString "kind", .str f.kind), (Str.ofString "limit", .int f.limit), (Str.ofString "functor", .int f.functor), (Str.ofString "name", .int f.name), (Str.ofString "priority", .int f.prio), (Str.ofString "left", f.left), (Str.ofString "items", .ref f.it)]
noncomputable def frL : List Fr0 → List (Addr × MObj) → List (Addr × MObj)
  | [], r => r
  | f :: fs, r => (f.d, .ns (frNs f)) :: (f.it, .list f.items) :: frL fs r
noncomputable def frMVs : List Fr0 → List MV
  | [] => []
  | f :: fs => frMVs fs ++ [f.mv]
theorem frMVs_length : ∀ fs : List Fr0, (frMVs fs).length = fs.length
  | [] => rfl
  | f :: fs => by rw [frMVs, List.length_append, frMVs_length fs]; rfl
section
variable {C : Cx} {k : Nat} {σ : Sto} {X : ExcP} {Q : MV → Sto → Prop} {b : BA} {op : OA} {a : PA} {p : PS} {B : Bk} {r l l' : List (Addr × MObj)}
theorem peek_spec {toks : List MV} {x : MV} (H : Has σ l) (m1 : (a.d, .ns (parNs b op a p)) ∈ l) (m2 : (a.tk, .list toks) ∈ l) (h0 : 0 ≤ p.place) (hx : toks[p.place.toNat]? = some x) (hl : toks.length ≤ 1000) (q : Q x σ) : CV C (k + 1) (.ref 369) [a.mv] σ Q X := by
  have h1 := H.get m1
  refine CV_V o_Parser_peek (d_Parser_peek C) ?_
  dsimp only [PA.mv]
  walk_at "w"
  exact SubV_list (H.get m2) h0 hx (fun _ _ => rfl) (by omega) q
theorem take_spec {toks : List MV} {x : MV} (H : Has σ l) (u : UpdL a.d (.ns (parNs b op a p)) (.ns (parNs b op a { p with place := p.place + 1 })) l l') (m2 : (a.tk, .list toks) ∈ l) (h0 : 0 ≤ p.place) (hx : toks[p.place.toNat]? = some x) (hl : toks.length ≤ 1000) (q : ∀ σ', Has σ' l' → Q x σ') : CV C (k + 1) (.ref 376) [a.mv] σ Q X := by
  have h1 := H.get u.mem
  refine CV_V o_Parser_take (d_Parser_take C) ?_
  dsimp only [PA.mv]
  walk_at "w"
  refine SubV_list (H.get m2) h0 hx (fun _ _ => rfl) (by omega) ?_
  walk_at "w"
  refine BV_add ?_
  walk_at "w"
  refine Sat_u H u (by walk_at "put") (by kernel_rfl) (by kernel_rfl) fun σ' H' => ?_
  walk_at "w"
  exact q _ H'
theorem settle_spec {t : MV} {n : Int} (H : Has σ l) (u : UpdL a.d (.ns (parNs b op a p)) (.ns (parNs b op a { p with term := t, prio := n })) l l') (q : ∀ σ', Has σ' l' → Q (.int 1) σ') : CV C (k + 1) (.ref 404) [a.mv, t, .int n] σ Q X := by
  have h1 := H.get u.mem
  refine CV_V o_Parser_settle (d_Parser_settle C) ?_
  dsimp only [PA.mv]
  obtain ⟨l₁, u1, u2⟩ := u.mid (.ns (parNs b op a { p with term := t }))
  walk_at "w"
  refine Sat_u H u1 (by walk_at "put") (by kernel_rfl) (by kernel_rfl) fun σ' H' => ?_
  walk_at "w"
  refine Sat_u H' u2 (by walk_at "put") (by kernel_rfl) (by kernel_rfl) fun σ' H'' => ?_
  walk_at "w"
  exact q _ H''
theorem frame_init {o d : Addr} {kd : Str} {n : Int} (H : Has σ ((d, .ns []) :: l)) (q : ∀ it σ', Has σ' ((it, .list []) :: (d, .ns (frNs ⟨o, d, it, kd, n, -1, -1, 0, .none, []⟩)) :: l) → Q .none σ') : CV C (k + 1) (.ref 306) [.inst 309 o d, .str kd, .int n] σ Q X := by
  refine CV_V o_Frame_init (d_Frame_init C) ?_
  walk_at "w"
  exact q _ _ (by with_reducible assumption)
theorem Has.move {x y : Addr × MObj} {pre r : List (Addr × MObj)} (h : Has σ (x :: y :: (pre ++ r))) : Has σ (pre ++ y :: x :: r) := by
  refine h.perm ?_
  have h1 : (x :: y :: (pre ++ r)).Perm (y :: x :: (pre ++ r)) := List.Perm.swap ..
  exact h1.trans ((List.perm_append_comm_assoc [y, x] pre r).trans (List.Perm.refl _))
end
/-- all that a parser reaches -/
structure Wd where
  b : BA
  op : OA
  a : PA
  kp : List (Int × MV)
  ki : List (Int × MV)
  ko : List (Int × MV)
  toks : List MV
noncomputable abbrev FullL (w : Wd) (B : Bk) (kv : List (Str × MV)) (kt : List (List Int × MV)) (p : PS) (fs : List Fr0) (r : List (Addr × MObj)) : List (Addr × MObj) :=
  bookL w.b B kv kt (opsL w.b w.op w.kp w.ki w.ko ((w.a.d, .ns (parNs w.b w.op w.a p)) :: (w.a.tk, .list w.toks) :: (w.a.fr, .list (frMVs fs)) :: frL fs r))
noncomputable def InW (σ : Sto) (w : Wd) (B : Bk) (p : PS) (fs : List Fr0) (r : List (Addr × MObj)) : Prop := ∃ kv kt, BkOk B kv kt ∧ Has σ (FullL w B kv kt p fs r)
section
variable {C : Cx} {k : Nat} {σ : Sto} {X : ExcP} {Q : MV → Sto → Prop} {w : Wd} {p : PS} {B : Bk} {fs : List Fr0} {r : List (Addr × MObj)}
theorem InW.book (H : InW σ w B p fs r) : BookIn σ w.b B (opsL w.b w.op w.kp w.ki w.ko ((w.a.d, .ns (parNs w.b w.op w.a p)) :: (w.a.tk, .list w.toks) :: (w.a.fr, .list (frMVs fs)) :: frL fs r)) := H
/-- two new cells, taken to the head of the frames -/
theorem InW.frame {kv : List (Str × MV)} {kt : List (List Int × MV)} {f : Fr0} (o : BkOk B kv kt) (H : Has σ ((f.it, .list f.items) :: (f.d, .ns (frNs f)) :: bookL w.b B kv kt (opsL w.b w.op w.kp w.ki w.ko ((w.a.d, .ns (parNs w.b w.op w.a p)) :: (w.a.tk, .list w.toks) :: (w.a.fr, .list (frMVs fs ++ [f.mv])) :: frL fs r)))) : InW σ w B p (f :: fs) r :=
  ⟨kv, kt, o, Has.move (pre := bookL w.b B kv kt (opsL w.b w.op w.kp w.ki w.ko [(w.a.d, .ns (parNs w.b w.op w.a p)), (w.a.tk, .list w.toks), (w.a.fr, .list (frMVs fs ++ [f.mv]))])) (r := frL fs r) H⟩
/-- a new frame, pushed and named -/
theorem enter_spec {kd : Str} {nm most : Int} (H : InW σ w B p fs r) (hx : fs.length ≤ 1000) (q : ∀ o d it σ', InW σ' w B { p with limit := most } (⟨o, d, it, kd, p.limit, -1, nm, 0, .none, []⟩ :: fs) r → Q (.int 0) σ') : CV C (k + 3) (.ref 411) [w.a.mv, .str kd, .int nm, .int most] σ Q X := by
  obtain ⟨kv, kt, ok, H⟩ := H
  refine CV_V o_Parser_enter (d_Parser_enter C) ?_
  dsimp only [PA.mv]
  walk_at "w"
  refine CV_class_H H (mk_Frame C) fun o d σ₁ H₁ => ?_
  refine frame_init H₁ fun it σ₂ H₂ => ?_
  refine ⟨rfl, ?_⟩
  walk_at "w"
  walk_at "lst"
  walk_at "w"
  walk_at "app"
  case hb => rw [frMVs_length]; omega
  intro σ₃ H₃
  walk_at "w"
  exact q o d it _ (InW.frame (f := ⟨o, d, it, kd, p.limit, -1, nm, 0, .none, []⟩) ok (by with_reducible assumption))
theorem peek_W {x : MV} (H : InW σ w B p fs r) (h0 : 0 ≤ p.place) (hx : w.toks[p.place.toNat]? = some x) (hl : w.toks.length ≤ 1000) (q : Q x σ) : CV C (k + 1) (.ref 369) [w.a.mv] σ Q X := by
  obtain ⟨kv, kt, ok, H⟩ := H
  exact peek_spec (p := p) (b := w.b) (op := w.op) H (by walk_at "mem") (by walk_at "mem") h0 hx hl q
theorem take_W {x : MV} (H : InW σ w B p fs r) (h0 : 0 ≤ p.place) (hx : w.toks[p.place.toNat]? = some x) (hl : w.toks.length ≤ 1000) (q : ∀ σ', InW σ' w B { p with place := p.place + 1 } fs r → Q x σ') : CV C (k + 1) (.ref 376) [w.a.mv] σ Q X := by
  obtain ⟨kv, kt, ok, H⟩ := H
  exact take_spec (p := p) (b := w.b) (op := w.op) H (by walk_at "upd") (by walk_at "mem") h0 hx hl fun σ' H' => q σ' ⟨kv, kt, ok, H'⟩
theorem settle_W {t : MV} {n : Int} (H : InW σ w B p fs r) (q : ∀ σ', InW σ' w B { p with term := t, prio := n } fs r → Q (.int 1) σ') : CV C (k + 1) (.ref 404) [w.a.mv, t, .int n] σ Q X := by
  obtain ⟨kv, kt, ok, H⟩ := H
  exact settle_spec (p := p) (b := w.b) (op := w.op) H (by walk_at "upd") fun σ' H' => q σ' ⟨kv, kt, ok, H'⟩
theorem atom_W {t : Str} (H : InW σ w B p fs r) (hl : B.size ≤ 100000) (q : ∀ σ', InW σ' w (B.atom t).2 p fs r → Q (.int (B.atom t).1) σ') : CV C (k + 1) (.ref 88) [w.b.mv, .str t] σ Q X := atom_spec H.book hl q
theorem functor_W {x n : Int} (H : InW σ w B p fs r) (hl : B.size ≤ 100000) (q : ∀ σ', InW σ' w (B.functor (x, n)).2 p fs r → Q (.int (B.functor (x, n)).1) σ') : CV C (k + 1) (.ref 102) [w.b.mv, .int x, .int n] σ Q X := functor_spec H.book hl q
theorem InW.opd (H : InW σ w B p fs r) : σ w.op.d = some (.ns (opNs w.b w.op)) := by obtain ⟨kv, kt, ok, H⟩ := H; exact H.get (by walk_at "mem")
theorem InW.kp_ (H : InW σ w B p fs r) : σ w.op.pre = some (.dI w.kp) := by obtain ⟨kv, kt, ok, H⟩ := H; exact H.get (by walk_at "mem")
theorem InW.ki_ (H : InW σ w B p fs r) : σ w.op.inf = some (.dI w.ki) := by obtain ⟨kv, kt, ok, H⟩ := H; exact H.get (by walk_at "mem")
theorem InW.ko_ (H : InW σ w B p fs r) : σ w.op.post = some (.dI w.ko) := by obtain ⟨kv, kt, ok, H⟩ := H; exact H.get (by walk_at "mem")
theorem InW.par (H : InW σ w B p fs r) : σ w.a.d = some (.ns (parNs w.b w.op w.a p)) := by obtain ⟨kv, kt, ok, H⟩ := H; exact H.get (by walk_at "mem")
theorem InW.tk (H : InW σ w B p fs r) : σ w.a.tk = some (.list w.toks) := by obtain ⟨kv, kt, ok, H⟩ := H; exact H.get (by walk_at "mem")
theorem InW.fr (H : InW σ w B p fs r) : σ w.a.fr = some (.list (frMVs fs)) := by obtain ⟨kv, kt, ok, H⟩ := H; exact H.get (by walk_at "mem")
theorem InW.bk (H : InW σ w B p fs r) : σ w.b.d = some (.ns [(Str.ofString "texts", .ref w.b.tx), (Str.ofString "atom_numbers", .ref w.b.an), (Str.ofString "functors", .ref w.b.fn), (Str.ofString "functor_numbers", .ref w.b.fnn)]) := by obtain ⟨kv, kt, ok, H⟩ := H; exact H.get (by walk_at "mem")
/-- the top frame -/
theorem InW.top {f : Fr0} (H : InW σ w B p (f :: fs) r) : σ f.d = some (.ns (frNs f)) ∧ σ f.it = some (.list f.items) := by
  obtain ⟨kv, kt, ok, H⟩ := H
  exact ⟨H.get (by simp [FullL, bookL, opsL, frL]), H.get (by simp [FullL, bookL, opsL, frL])⟩
end
noncomputable def Bk.opn (B : Bk) : TK → Int × Bk
  | .nam x => (((B.atom x).1 : Nat), (B.atom x).2)
  | .pun x => (if x == Str.ofString "," then 7 else if x == Str.ofString "|" then 8 else -1, B)
  | _ => (-1, B)
noncomputable def oMV : Option En → MV
  | none => .none
  | some e => e.mv
structure WOk (w : Wd) (tp ti to : Int → Option En) : Prop where
  p : ∀ a, lookK w.kp a = (tp a).map En.mv
  i : ∀ a, lookK w.ki a = (ti a).map En.mv
  o : ∀ a, lookK w.ko a = (to a).map En.mv
theorem oMV_get {kvs : List (Int × MV)} {a : Int} {e : Option En} (h : lookK kvs a = e.map En.mv) : (lookK kvs a).getD .none = oMV e := by
  rw [h]; cases e <;> rfl
noncomputable def admitsB (p : PS) : Option En → Bool
  | none => false
  | some e => decide (e.p ≤ p.limit) && decide (p.prio ≤ e.t.lo e.p)
section
variable {C : Cx} {k : Nat} {σ : Sto} {X : ExcP} {Q : MV → Sto → Prop} {w : Wd} {p : PS} {B : Bk} {fs : List Fr0} {r : List (Addr × MObj)} {tp ti to : Int → Option En}
theorem is_punct' {t : Tk} {y : Str} (b : Bool) (h : t.k.isP y = b) (q : Q (.bool b) σ) : CV C (k + 1) (.ref 334) [t.mv, .str y] σ Q X := is_punct_spec (by rw [h]; exact q)
theorem closes' {t : Tk} (b : Bool) (h : t.k.closes = b) (q : Q (.bool b) σ) : CV C (k + 1) (.ref 327) [t.mv] σ Q X := closes_spec (by rw [h]; exact q)
theorem ends' {t : Tk} (b : Bool) (h : t.k.ends = b) (q : Q (.bool b) σ) : CV C (k + 1) (.ref 320) [t.mv] σ Q X := ends_spec (by rw [h]; exact q)
theorem opname_spec {t : Tk} (H : InW σ w B p fs r) (hl : B.size ≤ 100000) (q : ∀ σ', InW σ' w (B.opn t.k).2 p fs r → Q (.int (B.opn t.k).1) σ') : CV C (k + 2) (.ref 458) [w.a.mv, t.mv] σ Q X := by
  have h1 := H.par
  have h2 := H.bk
  refine CV_V o_Parser_operator_name (d_Parser_operator_name C) ?_
  obtain ⟨tk, at_⟩ := t
  cases tk <;> dsimp only [Tk.mv, TK.kd, TK.val, PA.mv]
  case nam x =>
    walk_at "w"
    exact atom_W H hl q
  case pun x =>
    dsimp only [Bk.opn] at q
    walk_at "w"
    cases e : x == Str.ofString "," with
    | true => rw [e] at q; refine is_punct' (t := ⟨.pun x, at_⟩) true e ?_; walk_at "w"; exact q σ H
    | false =>
      rw [e] at q
      refine is_punct' (t := ⟨.pun x, at_⟩) false e ?_
      walk_at "w"
      cases e : x == Str.ofString "|" with
      | true => rw [e] at q; refine is_punct' (t := ⟨.pun x, at_⟩) true e ?_; walk_at "w"; exact q σ H
      | false => rw [e] at q; refine is_punct' (t := ⟨.pun x, at_⟩) false e ?_; walk_at "w"; exact q σ H
  case num i =>
    walk_at "w"
    refine is_punct' (t := ⟨.num i, at_⟩) false rfl ?_
    walk_at "w"
    refine is_punct' (t := ⟨.num i, at_⟩) false rfl ?_
    walk_at "w"
    exact q σ H
  case oct =>
    walk_at "w"
    refine is_punct' (t := ⟨.oct, at_⟩) false rfl ?_
    walk_at "w"
    refine is_punct' (t := ⟨.oct, at_⟩) false rfl ?_
    walk_at "w"
    exact q σ H
  case eof =>
    walk_at "w"
    refine is_punct' (t := ⟨.eof, at_⟩) false rfl ?_
    walk_at "w"
    refine is_punct' (t := ⟨.eof, at_⟩) false rfl ?_
    walk_at "w"
    exact q σ H
theorem admits_spec {e : Option En} (H : InW σ w B p fs r) (q : Q (.bool (admitsB p e)) σ) : CV C (k + 2) (.ref 472) [w.a.mv, oMV e] σ Q X := by
  have h1 := H.par
  refine CV_V o_Parser_admits (d_Parser_admits C) ?_
  dsimp only [PA.mv]
  cases e with
  | none =>
    dsimp only [oMV]
    walk_at "w"
    exact q
  | some e =>
    obtain ⟨ep, et⟩ := e
    dsimp only [oMV, En.mv]
    walk_at "w"
    refine BV_gt_int ?_
    dsimp only [admitsB] at q
    by_cases hlt : ep ≤ p.limit
    · rw [show decide (p.limit < ep) = false from decide_eq_false (by omega)]
      rw [show decide (ep ≤ p.limit) = true from decide_eq_true hlt] at q
      walk_at "w"
      refine bounds_spec ?_
      walk_at "w"
      exact BV_le_int q
    · rw [show decide (p.limit < ep) = true from decide_eq_true (by omega)]
      rw [show decide (ep ≤ p.limit) = false from decide_eq_false hlt] at q
      walk_at "w"
      exact q
theorem Has.move2 {x y : Addr × MObj} {pre pre' r : List (Addr × MObj)} (h : Has σ (pre ++ x :: y :: (pre' ++ r))) : Has σ (pre ++ (pre' ++ x :: y :: r)) := by
  refine h.perm (List.Perm.append_left pre ?_)
  exact (List.perm_append_comm_assoc [x, y] pre' r).trans (List.Perm.refl _)
/-- two new cells right behind the book -/
theorem behind {x y : Addr × MObj} {kv : List (Str × MV)} {kt : List (List Int × MV)} {b : BA} {rr : List (Addr × MObj)} (h : Has σ (x :: y :: bookL b B kv kt rr)) : Has σ (bookL b B kv kt (y :: x :: rr)) :=
  Has.move (pre := bookL b B kv kt []) (r := rr) h
theorem InW.frame2 {kv : List (Str × MV)} {kt : List (List Int × MV)} {f : Fr0} (o : BkOk B kv kt) (H : Has σ (bookL w.b B kv kt ((f.d, .ns (frNs f)) :: (f.it, .list f.items) :: opsL w.b w.op w.kp w.ki w.ko ((w.a.d, .ns (parNs w.b w.op w.a p)) :: (w.a.tk, .list w.toks) :: (w.a.fr, .list (frMVs fs ++ [f.mv])) :: frL fs r)))) : InW σ w B p (f :: fs) r :=
  ⟨kv, kt, o, Has.move2 (pre := bookL w.b B kv kt []) (pre' := opsL w.b w.op w.kp w.ki w.ko [(w.a.d, .ns (parNs w.b w.op w.a p)), (w.a.tk, .list w.toks), (w.a.fr, .list (frMVs fs ++ [f.mv]))]) (r := frL fs r) H⟩
theorem shift_infix_spec {i : Int} {x : MV} (W : WOk w tp ti to) (H : InW σ w B p fs r) (hB : B.size ≤ 100000) (hf : fs.length ≤ 1000) (h0 : 0 ≤ p.place) (hx : w.toks[p.place.toNat]? = some x) (hl : w.toks.length ≤ 1000)
    (qn : admitsB p (ti i) = false → Q (.bool false) σ)
    (qy : ∀ e, ti i = some e → admitsB p (some e) = true → ∀ o d it σ', InW σ' w (B.functor (i, 2)).2 { p with place := p.place + 1, limit := e.t.hi e.p } (⟨o, d, it, Str.ofString "operator", p.limit, (B.functor (i, 2)).1, -1, e.p, p.term, []⟩ :: fs) r → Q (.bool true) σ') :
    CV C (k + 3) (.ref 479) [w.a.mv, .int i] σ Q X := by
  have h1 := H.par
  have h2 := H.opd
  refine CV_V o_Parser_shift_infix (d_Parser_shift_infix C) ?_
  dsimp only [PA.mv]
  walk_at "w"
  refine infix_spec (a := w.op) (b := w.b) h2 H.ki_ ?_
  rw [oMV_get (W.i i)]
  walk_at "w"
  refine admits_spec (p := p) H ?_
  walk_at "w"
  cases he : ti i with
  | none =>
    rw [he] at qn
    dsimp only [admitsB]
    walk_at "w"
    exact qn rfl
  | some e =>
    obtain ⟨ep, et⟩ := e
    cases ha : admitsB p (some ⟨ep, et⟩) with
    | false =>
      rw [he, ha] at qn
      walk_at "w"
      exact qn rfl
    | true =>
      dsimp only [oMV, En.mv]
      walk_at "w"
      refine take_W H h0 hx hl fun σ₁ H₁ => ?_
      walk_at "w"
      have h1 := H₁.par
      walk_at "w"
      obtain ⟨kv, kt, ok, H₁⟩ := H₁
      refine CV_class_H H₁ (mk_Frame C) fun o d σ₂ H₂ => ?_
      refine frame_init H₂ fun it σ₃ H₃ => ?_
      have H₃ := behind H₃
      refine ⟨rfl, ?_⟩
      walk_at "w"
      have hB' := B.functor_size (i, 2)
      refine functor_spec ⟨kv, kt, ok, H₃⟩ hB fun σ₄ H₄ => ?_
      obtain ⟨kv, kt, ok, H₄⟩ := H₄
      walk_at "w"
      walk_at "lst"
      walk_at "w"
      walk_at "app"
      case hb => rw [frMVs_length]; omega
      intro σ₅ H₅
      walk_at "w"
      refine bounds_spec ?_
      walk_at "w"
      exact qy ⟨ep, et⟩ he ha o d it _ (InW.frame2 (f := ⟨o, d, it, Str.ofString "operator", p.limit, (B.functor (i, 2)).1, -1, ep, p.term, []⟩) ok (by with_reducible assumption))
end
theorem TK.pun_or (t : TK) : (∃ x, t = .pun x) ∨ (t.kd == Str.ofString "punct") = false := by
  cases t <;> first | exact .inl ⟨_, rfl⟩ | (refine .inr ?_; dsimp only [TK.kd]; decide)
noncomputable abbrev excNs (kd : Str) (at_ : Int) : Env1 := [(Str.ofString "kind", .str kd), (Str.ofString "at", .int at_), (Str.ofString "row", .int 0), (Str.ofString "column", .int 0)]
section
variable {C : Cx} {k : Nat} {σ : Sto} {X : ExcP} {Q : MV → Sto → Prop} {w : Wd} {p : PS} {B : Bk} {fs : List Fr0} {r l : List (Addr × MObj)} {tp ti to : Int → Option En}
theorem SetA_X0 {a : Addr} {x : Str} {b : MV} {P : Sto → Prop} (H : Has σ ((a, .exc none) :: l)) (ht : takerIn C.KK 51 x = some none) (q : ∀ d σ', Has σ' ((d, .ns [(x, b)]) :: (a, .exc (some d)) :: l) → P σ') : SetA C k (.ref a) x b σ P X :=
  SetA_exc0 (H.get (.head _)) ht fun d hd hne => q d _ ((H.upd (o' := .exc (some d)) .head).new (by rw [Sto.set_ne _ _ hne]; exact hd))
theorem SetA_X1 {a d : Addr} {x : Str} {b : MV} {fs fs' : Env1} {P : Sto → Prop} (H : Has σ ((d, .ns fs) :: (a, .exc (some d)) :: l)) (hp : Put x b fs fs') (ho : onceKey x fs' = true) (ht : takerIn C.KK 51 x = some none) (hl : fs'.length ≤ 1000) (q : ∀ σ', Has σ' ((d, .ns fs') :: (a, .exc (some d)) :: l) → P σ') : SetA C k (.ref a) x b σ P X :=
  SetA_exc1 (H.get (.tail _ (.head _))) (H.get (.head _)) hp ho ht hl (q _ (H.upd .head))
theorem fault_init {a : Addr} {kd : Str} {at_ : Int} (H : Has σ ((a, .exc none) :: l)) (q : ∀ d σ', Has σ' ((d, .ns (excNs kd at_)) :: (a, .exc (some d)) :: l) → Q .none σ') : CV C (k + 1) (.ref 48) [.ref a, .str kd, .int at_, .int 0, .int 0] σ Q X := by
  refine CV_V o_SyntaxFault_init (d_SyntaxFault_init C) ?_
  walk_at "w"
  refine SetA_X0 H (by kernel_rfl) fun d σ₁ H₁ => ?_
  walk_at "w"
  refine SetA_X1 H₁ (by walk_at "put") (by kernel_rfl) (by kernel_rfl) (by simp) fun σ₂ H₂ => ?_
  walk_at "w"
  refine SetA_X1 H₂ (by walk_at "put") (by kernel_rfl) (by kernel_rfl) (by simp) fun σ₃ H₃ => ?_
  walk_at "w"
  refine SetA_X1 H₃ (by walk_at "put") (by kernel_rfl) (by kernel_rfl) (by simp) fun σ₄ H₄ => ?_
  walk_at "w"
  exact q d _ H₄
theorem fault_spec {kd : Str} {t : Tk} (H : Has σ l) (q : ∀ e d σ', Has σ' ((d, .ns (excNs kd t.at_)) :: (e, .exc (some d)) :: l) → Q (.ref e) σ') : CV C (k + 3) (.ref 383) [w.a.mv, .str kd, t.mv] σ Q X := by
  refine CV_V o_Parser_fault (d_Parser_fault C) ?_
  dsimp only [Tk.mv, PA.mv]
  walk_at "w"
  refine CV_exc (by simp) fun a ha => ?_
  refine fault_init (H.new ha) fun d σ₁ H₁ => ?_
  exact ⟨rfl, q a d σ₁ H₁⟩
theorem misplaced_spec {ot : Str} {t : Tk} (W : WOk w tp ti to) (H : InW σ w B p fs r) (hB : B.size ≤ 100000)
    (q : ∀ e d kd σ' B' kv kt, BkOk B' kv kt → Has σ' ((d, .ns (excNs kd t.at_)) :: (e, .exc (some d)) :: FullL w B' kv kt p fs r) → Q (.ref e) σ') : CV C (k + 4) (.ref 390) [w.a.mv, t.mv, .str ot] σ Q X := by
  have h1 := H.par
  have h2 := H.opd
  obtain ⟨kv, kt, ok, H0⟩ := id H
  refine CV_V o_Parser_misplaced (d_Parser_misplaced C) ?_
  obtain ⟨tk, at_⟩ := t
  dsimp only [PA.mv]
  walk_at "w"
  cases hc : TK.closes tk with
  | true =>
    refine closes' (t := ⟨tk, at_⟩) true hc ?_
    walk_at "w"
    refine fault_spec (w := w) (t := ⟨tk, at_⟩) H0 fun e d σ₁ H₁ => ?_
    exact q e d _ σ₁ B kv kt ok H₁
  | false =>
    refine closes' (t := ⟨tk, at_⟩) false hc ?_
    walk_at "w"
    rcases TK.pun_or tk with ⟨x, rfl⟩ | hne
    · refine BV_eq_str' (b := true) rfl ?_
      walk_at "w"
      refine BV_in_strs (x := x) ?_
      generalize t_SEPARATORS.any (· == x) = sb
      cases sb with
      | true =>
        walk_at "w"
        refine fault_spec (w := w) (t := ⟨.pun x, at_⟩) H0 fun e d σ₁ H₁ => ?_
        exact q e d _ σ₁ B kv kt ok H₁
      | false =>
        generalize htk : TK.pun x = tk at *
        walk_at "w"
        refine opname_spec (t := ⟨tk, at_⟩) H hB fun σ₁ H₁ => ?_
        have h1 := H₁.par
        have h2 := H₁.opd
        obtain ⟨kv', kt', ok', H1⟩ := id H₁
        walk_at "w"
        refine BV_ge_int ?_
        generalize decide (0 ≤ (B.opn tk).1) = bb
        cases bb with
        | false =>
          walk_at "w"
          refine fault_spec (w := w) (t := ⟨tk, at_⟩) H1 fun e d σ₂ H₂ => ?_
          exact q e d _ σ₂ _ _ _ ok' H₂
        | true =>
          walk_at "w"
          refine infix_spec (a := w.op) (b := w.b) h2 H₁.ki_ ?_
          rw [oMV_get (W.i _)]
          cases ti (B.opn tk).1 with
          | some en =>
            dsimp only [oMV, En.mv]
            walk_at "w"
            refine fault_spec (w := w) (t := ⟨tk, at_⟩) H1 fun e d σ₂ H₂ => ?_
            exact q e d _ σ₂ _ _ _ ok' H₂
          | none =>
            dsimp only [oMV]
            walk_at "w"
            refine postfix_spec (a := w.op) (b := w.b) h2 H₁.ko_ ?_
            rw [oMV_get (W.o _)]
            cases to (B.opn tk).1 with
            | some en =>
              dsimp only [oMV, En.mv]
              walk_at "w"
              refine fault_spec (w := w) (t := ⟨tk, at_⟩) H1 fun e d σ₂ H₂ => ?_
              exact q e d _ σ₂ _ _ _ ok' H₂
            | none =>
              dsimp only [oMV]
              walk_at "w"
              refine fault_spec (w := w) (t := ⟨tk, at_⟩) H1 fun e d σ₂ H₂ => ?_
              exact q e d _ σ₂ _ _ _ ok' H₂
    · refine BV_eq_str' (b := false) hne ?_
      walk_at "w"
      refine opname_spec (t := ⟨tk, at_⟩) H hB fun σ₁ H₁ => ?_
      have h1 := H₁.par
      have h2 := H₁.opd
      obtain ⟨kv', kt', ok', H1⟩ := id H₁
      walk_at "w"
      refine BV_ge_int ?_
      generalize decide (0 ≤ (B.opn tk).1) = bb
      cases bb with
      | false =>
        walk_at "w"
        refine fault_spec (w := w) (t := ⟨tk, at_⟩) H1 fun e d σ₂ H₂ => ?_
        exact q e d _ σ₂ _ _ _ ok' H₂
      | true =>
        walk_at "w"
        refine infix_spec (a := w.op) (b := w.b) h2 H₁.ki_ ?_
        rw [oMV_get (W.i _)]
        cases ti (B.opn tk).1 with
        | some en =>
          dsimp only [oMV, En.mv]
          walk_at "w"
          refine fault_spec (w := w) (t := ⟨tk, at_⟩) H1 fun e d σ₂ H₂ => ?_
          exact q e d _ σ₂ _ _ _ ok' H₂
        | none =>
          dsimp only [oMV]
          walk_at "w"
          refine postfix_spec (a := w.op) (b := w.b) h2 H₁.ko_ ?_
          rw [oMV_get (W.o _)]
          cases to (B.opn tk).1 with
          | some en =>
            dsimp only [oMV, En.mv]
            walk_at "w"
            refine fault_spec (w := w) (t := ⟨tk, at_⟩) H1 fun e d σ₂ H₂ => ?_
            exact q e d _ σ₂ _ _ _ ok' H₂
          | none =>
            dsimp only [oMV]
            walk_at "w"
            refine fault_spec (w := w) (t := ⟨tk, at_⟩) H1 fun e d σ₂ H₂ => ?_
            exact q e d _ σ₂ _ _ _ ok' H₂
end
@[reducible] noncomputable def sT (f : Int) (as : List MV) : MV := .tup [.str (Str.ofString "s"), .int f, .tup as]
section
variable {C : Cx} {k : Nat} {σ : Sto} {X : ExcP} {Q : MV → Sto → Prop} {w : Wd} {p : PS} {B : Bk} {fs : List Fr0} {f : Fr0} {r l : List (Addr × MObj)} {tp ti to : Int → Option En}
theorem apply_postfix_spec {i : Int} {x : MV} (W : WOk w tp ti to) (H : InW σ w B p fs r) (hB : B.size ≤ 100000) (h0 : 0 ≤ p.place) (hx : w.toks[p.place.toNat]? = some x) (hl : w.toks.length ≤ 1000)
    (qn : admitsB p (to i) = false → Q (.bool false) σ)
    (qy : ∀ e, to i = some e → admitsB p (some e) = true → ∀ σ', InW σ' w (B.functor (i, 1)).2 { p with place := p.place + 1, term := sT (B.functor (i, 1)).1 [p.term], prio := e.p } fs r → Q (.bool true) σ') :
    CV C (k + 3) (.ref 486) [w.a.mv, .int i] σ Q X := by
  have h1 := H.par
  have h2 := H.opd
  refine CV_V o_Parser_apply_postfix (d_Parser_apply_postfix C) ?_
  dsimp only [PA.mv]
  walk_at "w"
  refine postfix_spec (a := w.op) (b := w.b) h2 H.ko_ ?_
  rw [oMV_get (W.o i)]
  walk_at "w"
  refine admits_spec (p := p) H ?_
  walk_at "w"
  cases he : to i with
  | none =>
    rw [he] at qn
    dsimp only [admitsB]
    walk_at "w"
    exact qn rfl
  | some e =>
    obtain ⟨ep, et⟩ := e
    cases ha : admitsB p (some ⟨ep, et⟩) with
    | false =>
      rw [he, ha] at qn
      walk_at "w"
      exact qn rfl
    | true =>
      dsimp only [oMV, En.mv]
      walk_at "w"
      refine take_W H h0 hx hl fun σ₁ H₁ => ?_
      have h1 := H₁.par
      have h2 := H₁.bk
      walk_at "w"
      refine functor_W H₁ hB fun σ₂ H₂ => ?_
      have h1 := H₂.par
      walk_at "w"
      refine struct_spec ?_
      walk_at "w"
      refine settle_W H₂ fun σ₃ H₃ => ?_
      walk_at "w"
      exact qy ⟨ep, et⟩ he ha σ₃ H₃
noncomputable abbrev FullG (w : Wd) (B : Bk) (kv : List (Str × MV)) (kt : List (List Int × MV)) (p : PS) (frs : List MV) (t : List (Addr × MObj)) : List (Addr × MObj) :=
  bookL w.b B kv kt (opsL w.b w.op w.kp w.ki w.ko ((w.a.d, .ns (parNs w.b w.op w.a p)) :: (w.a.tk, .list w.toks) :: (w.a.fr, .list frs) :: t))
/-- the top frame taken off, its cells let go -/
theorem InW.popped {kv : List (Str × MV)} {kt : List (List Int × MV)} {x y : Addr × MObj} (ok : BkOk B kv kt) (H : Has σ (FullG w B kv kt p (frMVs fs) (x :: y :: frL fs r))) : InW σ w B p fs r :=
  ⟨kv, kt, ok, H.sub (List.Sublist.append_left (l₁ := frL fs r) (l₂ := x :: y :: frL fs r) (.cons _ (.cons _ (List.Sublist.refl _))) (FullG w B kv kt p (frMVs fs) []))⟩
theorem reduce_spec (H : InW σ w B p (f :: fs) r) (hf : fs.length ≤ 1000) (hleft : f.left = .none ∨ ∃ xs, f.left = .tup xs)
    (q : ∀ σ', InW σ' w B { p with limit := f.limit, term := sT f.functor (match f.left with | .none => [p.term] | t => [t, p.term]), prio := f.prio } fs r → Q .none σ') : CV C (k + 3) (.ref 493) [w.a.mv] σ Q X := by
  obtain ⟨kv, kt, ok, H0⟩ := H
  have H0 : Has σ (FullG w B kv kt p (frMVs fs ++ [f.mv]) ((f.d, .ns (frNs f)) :: (f.it, .list f.items) :: frL fs r)) := H0
  refine CV_V o_Parser_reduce (d_Parser_reduce C) ?_
  dsimp only [PA.mv]
  walk_at "w"
  walk_at "lst"
  walk_at "pop"
  case hb => rw [frMVs_length]; omega
  intro σ₁ H₁
  dsimp only [Fr0.mv]
  walk_at "w"
  rcases hleft with hleft | ⟨xs, hleft⟩
  · rw [hleft] at q ⊢
    walk_at "w"
    refine struct_spec ?_
    walk_at "w"
    refine settle_W (InW.popped (p := { p with limit := f.limit }) (fs := fs) (r := r) (x := (f.d, .ns (frNs f))) (y := (f.it, .list f.items)) ok (by assumption)) fun σ₃ H₃ => ?_
    walk_at "w"
    exact q σ₃ H₃
  · rw [hleft] at q ⊢
    walk_at "w"
    refine struct_spec ?_
    walk_at "w"
    refine settle_W (InW.popped (p := { p with limit := f.limit }) (fs := fs) (r := r) (x := (f.d, .ns (frNs f))) (y := (f.it, .list f.items)) ok (by assumption)) fun σ₃ H₃ => ?_
    walk_at "w"
    rw [hleft] at H₃
    exact q σ₃ H₃
theorem closed_spec {t x : MV} (H : InW σ w B p (f :: fs) r) (hf : fs.length ≤ 1000) (h0 : 0 ≤ p.place) (hx : w.toks[p.place.toNat]? = some x) (hl : w.toks.length ≤ 1000)
    (q : ∀ σ', InW σ' w B { p with place := p.place + 1, limit := f.limit, term := t, prio := 0 } fs r → Q (.int 1) σ') : CV C (k + 3) (.ref 514) [w.a.mv, t] σ Q X := by
  have h1 := H.par
  refine CV_V o_Parser_closed (d_Parser_closed C) ?_
  dsimp only [PA.mv]
  walk_at "w"
  refine take_W H h0 hx hl fun σ₁ H₁ => ?_
  obtain ⟨kv, kt, ok, H0⟩ := H₁
  have H0 : Has σ₁ (FullG w B kv kt { p with place := p.place + 1 } (frMVs fs ++ [f.mv]) ((f.d, .ns (frNs f)) :: (f.it, .list f.items) :: frL fs r)) := H0
  walk_at "w"
  walk_at "lst"
  walk_at "pop"
  case hb => rw [frMVs_length]; omega
  intro σ₂ H₂
  dsimp only [Fr0.mv]
  walk_at "w"
  refine settle_W (InW.popped (p := { p with place := p.place + 1, limit := f.limit }) (fs := fs) (r := r) (x := (f.d, .ns (frNs f))) (y := (f.it, .list f.items)) ok (by assumption)) fun σ₃ H₃ => ?_
  walk_at "w"
  exact q σ₃ H₃
theorem separated_spec {kd : Str} {x : MV} (H : InW σ w B p (f :: fs) r) (hf : fs.length ≤ 1000) (hi : f.items.length ≤ 1000) (h0 : 0 ≤ p.place) (hx : w.toks[p.place.toNat]? = some x) (hl : w.toks.length ≤ 1000)
    (q : ∀ σ', InW σ' w B { p with place := p.place + 1, limit := 999 } ({ f with kind := kd, items := f.items ++ [p.term] } :: fs) r → Q (.int 0) σ') : CV C (k + 3) (.ref 507) [w.a.mv, .str kd] σ Q X := by
  have h1 := H.par
  refine CV_V o_Parser_separated (d_Parser_separated C) ?_
  dsimp only [PA.mv]
  walk_at "w"
  refine take_W H h0 hx hl fun σ₁ H₁ => ?_
  obtain ⟨kv, kt, ok, H0⟩ := H₁
  have H0 : Has σ₁ (FullG w B kv kt { p with place := p.place + 1 } (frMVs fs ++ [f.mv]) ((f.d, .ns (frNs f)) :: (f.it, .list f.items) :: frL fs r)) := H0
  walk_at "w"
  refine SubV_list_neg (x := f.mv) (by walk_at "sto") (by decide) (by rw [List.length_append, frMVs_length]; simp; omega) ?_ (fun _ _ => rfl) (by rw [List.length_append, frMVs_length]; simp; omega) ?_
  · rw [List.length_append]
    have : ((-1 : Int) + ((frMVs fs).length + [f.mv].length : Nat)).toNat = (frMVs fs).length := by simp; omega
    rw [this]; simp
  dsimp only [Fr0.mv]
  walk_at "w"
  walk_at "lst"
  walk_at "w"
  walk_at "app"
  case hb => omega
  intro σ₂ H₂
  walk_at "w"
  exact q _ ⟨kv, kt, ok, by assumption⟩
end
section
variable {C : Cx} {k : Nat} {σ : Sto} {X : ExcP} {Q : MV → Sto → Prop} {w : Wd} {p : PS} {B : Bk} {fs : List Fr0} {f : Fr0} {r l : List (Addr × MObj)} {tp ti to : Int → Option En} {t : Tk} {b : BA}
theorem Has.exc {x : Addr × MObj} {e : Addr} {o : MObj} (h : Has σ (x :: (e, o) :: l)) : Has (σ.del e) (x :: l) := (h.perm (List.Perm.swap ..)).del
theorem Has.unbehind {x y : Addr × MObj} {kv : List (Str × MV)} {kt : List (List Int × MV)} {rr : List (Addr × MObj)} (h : Has σ (bookL b B kv kt (x :: y :: rr))) : Has σ (bookL b B kv kt rr) :=
  h.sub (List.Sublist.append_left (l₁ := rr) (l₂ := x :: y :: rr) (.cons _ (.cons _ (List.Sublist.refl _))) (bookL b B kv kt []))
theorem frames_last (H : σ w.a.fr = some (.list (frMVs fs ++ [f.mv]))) (hf : fs.length ≤ 1000) {value slice : Expr} (hs : PlainIx slice) (q : Q f.mv σ) : SubV C k value slice (.ref w.a.fr) (.int (-1)) σ Q X := by
  refine SubV_list_neg (x := f.mv) H (by decide) (by rw [List.length_append, frMVs_length]; simp; omega) ?_ hs (by rw [List.length_append, frMVs_length]; simp; omega) q
  rw [List.length_append]
  have : ((-1 : Int) + ((frMVs fs).length + [f.mv].length : Nat)).toNat = (frMVs fs).length := by simp; omega
  rw [this]; simp
theorem close_curly (W : WOk w tp ti to) (H : InW σ w B p (f :: fs) r) (hB : B.size ≤ 100000) (hf : fs.length ≤ 1000) (hk : f.kind = Str.ofString "curly") (h0 : 0 ≤ p.place) (hx : w.toks[p.place.toNat]? = some t.mv) (hl : w.toks.length ≤ 1000)
    (qy : t.k.isP (Str.ofString "}") = true → ∀ σ', InW σ' w B { p with place := p.place + 1, limit := f.limit, term := sT 9 [p.term], prio := 0 } fs r → Q (.int 1) σ')
    (qx : ∀ d kd σ' B' kv kt, BkOk B' kv kt → Has σ' ((d, .ns (excNs kd t.at_)) :: FullL w B' kv kt p (f :: fs) r) → X d σ') : CV C (k + 6) (.ref 500) [w.a.mv, t.mv] σ Q X := by
  have h1 := H.par
  have h2 := H.fr
  have h3 := H.top.1
  rw [show frNs f = [(Str.ofString "kind", .str (Str.ofString "curly")), (Str.ofString "limit", .int f.limit), (Str.ofString "functor", .int f.functor), (Str.ofString "name", .int f.name), (Str.ofString "priority", .int f.prio), (Str.ofString "left", f.left), (Str.ofString "items", .ref f.it)] from by unfold frNs; rw [hk]] at h3
  refine CV_V o_Parser_close (d_Parser_close C) ?_
  dsimp only [PA.mv]
  walk_at "w"
  refine frames_last (f := f) (fs := fs) h2 hf (fun _ _ => rfl) ?_
  dsimp only [Fr0.mv]
  walk_at "w"
  cases hc : t.k.isP (Str.ofString "}") with
  | true =>
    refine is_punct' true hc ?_
    walk_at "w"
    refine struct_spec ?_
    walk_at "w"
    refine closed_spec H hf h0 hx hl fun σ₁ H₁ => ?_
    walk_at "w"
    exact qy hc σ₁ H₁
  | false =>
    refine is_punct' false hc ?_
    walk_at "w"
    refine misplaced_spec (k := k + 1) W H hB fun e d kd σ₁ B' kv kt ok H₁ => ?_
    exact ⟨e, d, rfl, H₁.get (.tail _ (.head _)), qx d kd _ B' kv kt ok H₁.exc⟩
theorem close_args (W : WOk w tp ti to) (H : InW σ w B p (f :: fs) r) (hB : B.size ≤ 100000) (hf : fs.length ≤ 1000) (hi : f.items.length ≤ 900) (hk : f.kind = Str.ofString "args") (h0 : 0 ≤ p.place) (hx : w.toks[p.place.toNat]? = some t.mv) (hl : w.toks.length ≤ 1000)
    (qc : t.k.isP (Str.ofString ",") = true → ∀ σ', InW σ' w B { p with place := p.place + 1, limit := 999 } ({ f with items := f.items ++ [p.term] } :: fs) r → Q (.int 0) σ')
    (qy : t.k.isP (Str.ofString ",") = false → t.k.isP (Str.ofString ")") = true → ∀ σ', InW σ' w (B.functor (f.name, (f.items.length : Int) + 1)).2 { p with place := p.place + 1, limit := f.limit, term := sT (B.functor (f.name, (f.items.length : Int) + 1)).1 (f.items ++ [p.term]), prio := 0 } fs r → Q (.int 1) σ')
    (qx : t.k.isP (Str.ofString ",") = false → t.k.isP (Str.ofString ")") = false → ∀ d kd σ' B' kv kt, BkOk B' kv kt → Has σ' ((d, .ns (excNs kd t.at_)) :: FullL w B' kv kt p (f :: fs) r) → X d σ') : CV C (k + 6) (.ref 500) [w.a.mv, t.mv] σ Q X := by
  have h1 := H.par
  have h2 := H.fr
  have h3 := H.top.1
  have h4 := H.top.2
  rw [show frNs f = [(Str.ofString "kind", .str (Str.ofString "args")), (Str.ofString "limit", .int f.limit), (Str.ofString "functor", .int f.functor), (Str.ofString "name", .int f.name), (Str.ofString "priority", .int f.prio), (Str.ofString "left", f.left), (Str.ofString "items", .ref f.it)] from by unfold frNs; rw [hk]] at h3
  refine CV_V o_Parser_close (d_Parser_close C) ?_
  dsimp only [PA.mv]
  walk_at "w"
  refine frames_last (f := f) (fs := fs) h2 hf (fun _ _ => rfl) ?_
  dsimp only [Fr0.mv]
  walk_at "w"
  cases hc : t.k.isP (Str.ofString ",") with
  | true =>
    refine is_punct' true hc ?_
    walk_at "w"
    refine separated_spec (kd := Str.ofString "args") H hf (by omega) h0 hx hl fun σ₁ H₁ => ?_
    walk_at "w"
    refine qc hc σ₁ ?_
    rw [← hk] at H₁
    exact H₁
  | false =>
    refine is_punct' false hc ?_
    walk_at "w"
    cases hd : t.k.isP (Str.ofString ")") with
    | true =>
      refine is_punct' true hd ?_
      walk_at "w"
      obtain ⟨kv, kt, ok, H0⟩ := id H
      refine NL_mk H0 fun a₁ σ₁ H₁ => ?_
      have g1 := H₁.get (.head _)
      have g2 := (InW.top (σ := σ₁) (w := w) (B := B) (p := p) (f := f) (fs := fs) (r := r) ⟨kv, kt, ok, H₁.drop1⟩).2
      walk_at "w"
      refine add_listH g2 g1 (by simp; omega) H₁ fun a₂ σ₂ H₂ => ?_
      have g3 := H₂.get (.head _)
      have H' : InW σ₂ w B p (f :: fs) r := ⟨kv, kt, ok, H₂.drop1.drop1⟩
      have h1 := H'.par
      have h4 := H'.bk
      have h5 := H'.top.1
      rw [show frNs f = [(Str.ofString "kind", .str (Str.ofString "args")), (Str.ofString "limit", .int f.limit), (Str.ofString "functor", .int f.functor), (Str.ofString "name", .int f.name), (Str.ofString "priority", .int f.prio), (Str.ofString "left", f.left), (Str.ofString "items", .ref f.it)] from by unfold frNs; rw [hk]] at h5
      walk_at "w"
      refine OpC_len_list g3 (by simp; omega) ?_
      walk_at "w"
      have H₃ := behind H₂
      refine functor_spec ⟨kv, kt, ok, H₃⟩ hB fun σ₄ H₄ => ?_
      obtain ⟨kv', kt', ok', H₄⟩ := H₄
      have H₅ : InW σ₄ w _ p (f :: fs) r := ⟨kv', kt', ok', H₄.unbehind⟩
      have e1 : ((f.items ++ [p.term]).length : Int) = (f.items.length : Int) + 1 := by simp
      have g4 : σ₄ a₂ = some (.list (f.items ++ [p.term])) := H₄.get (by walk_at "mem")
      walk_at "w"
      refine OpC_tupleL g4 (by simp; omega) ?_
      walk_at "w"
      refine struct_spec ?_
      walk_at "w"
      rw [e1] at H₅ ⊢
      refine closed_spec H₅ hf h0 hx hl fun σ₆ H₆ => ?_
      walk_at "w"
      exact qy hc hd σ₆ H₆
    | false =>
      refine is_punct' false hd ?_
      walk_at "w"
      refine misplaced_spec (k := k + 1) W H hB fun e d kd σ₁ B' kv kt ok H₁ => ?_
      exact ⟨e, d, rfl, H₁.get (.tail _ (.head _)), qx hc hd d kd _ B' kv kt ok H₁.exc⟩
end
section
variable {C : Cx} {k : Nat} {σ : Sto} {X : ExcP} {Q : MV → Sto → Prop} {w : Wd} {p : PS} {B : Bk} {fs : List Fr0} {f : Fr0} {r l : List (Addr × MObj)} {tp ti to : Int → Option En} {t : Tk} {b : BA}
theorem Bk.opn_size (B : Bk) (t : TK) : (B.opn t).2.size ≤ B.size + 1 := by
  cases t with
  | nam x => exact B.atom_size x
  | _ => exact Nat.le_succ _
/-- what the parser's operator() does, by cases -/
structure OpQ (w : Wd) (p : PS) (B : Bk) (fs : List Fr0) (r : List (Addr × MObj)) (t : Tk) (ti to : Int → Option En) (Q : MV → Sto → Prop) (X : ExcP) : Prop where
  shift : ∀ e, 0 ≤ (B.opn t.k).1 → ti (B.opn t.k).1 = some e → admitsB p (some e) = true → ∀ o d it σ', InW σ' w ((B.opn t.k).2.functor ((B.opn t.k).1, 2)).2 { p with place := p.place + 1, limit := e.t.hi e.p } (⟨o, d, it, Str.ofString "operator", p.limit, ((B.opn t.k).2.functor ((B.opn t.k).1, 2)).1, -1, e.p, p.term, []⟩ :: fs) r → Q (.int 0) σ'
  post : ∀ e, 0 ≤ (B.opn t.k).1 → admitsB p (ti (B.opn t.k).1) = false → to (B.opn t.k).1 = some e → admitsB p (some e) = true → ∀ σ', InW σ' w ((B.opn t.k).2.functor ((B.opn t.k).1, 1)).2 { p with place := p.place + 1, term := sT ((B.opn t.k).2.functor ((B.opn t.k).1, 1)).1 [p.term], prio := e.p } fs r → Q (.int 1) σ'
  done : (0 ≤ (B.opn t.k).1 → admitsB p (ti (B.opn t.k).1) = false ∧ admitsB p (to (B.opn t.k).1) = false) → fs = [] → ∀ σ', InW σ' w (B.opn t.k).2 p fs r → Q (.int 2) σ'
  red : ∀ f fs', (0 ≤ (B.opn t.k).1 → admitsB p (ti (B.opn t.k).1) = false ∧ admitsB p (to (B.opn t.k).1) = false) → fs = f :: fs' → f.kind = Str.ofString "operator" →
    (f.left = .none ∨ ∃ xs, f.left = .tup xs) ∧ ∀ σ', InW σ' w (B.opn t.k).2 { p with limit := f.limit, term := sT f.functor (match f.left with | .none => [p.term] | t => [t, p.term]), prio := f.prio } fs' r → Q (.int 1) σ'
  curly : ∀ f fs', (0 ≤ (B.opn t.k).1 → admitsB p (ti (B.opn t.k).1) = false ∧ admitsB p (to (B.opn t.k).1) = false) → fs = f :: fs' → f.kind = Str.ofString "curly" →
    (t.k.isP (Str.ofString "}") = true → ∀ σ', InW σ' w (B.opn t.k).2 { p with place := p.place + 1, limit := f.limit, term := sT 9 [p.term], prio := 0 } fs' r → Q (.int 1) σ')
  args : ∀ f fs', (0 ≤ (B.opn t.k).1 → admitsB p (ti (B.opn t.k).1) = false ∧ admitsB p (to (B.opn t.k).1) = false) → fs = f :: fs' → f.kind = Str.ofString "args" → f.items.length ≤ 900 ∧
    (t.k.isP (Str.ofString ",") = true → ∀ σ', InW σ' w (B.opn t.k).2 { p with place := p.place + 1, limit := 999 } ({ f with items := f.items ++ [p.term] } :: fs') r → Q (.int 0) σ') ∧
    (t.k.isP (Str.ofString ",") = false → t.k.isP (Str.ofString ")") = true → ∀ σ', InW σ' w ((B.opn t.k).2.functor (f.name, (f.items.length : Int) + 1)).2 { p with place := p.place + 1, limit := f.limit, term := sT ((B.opn t.k).2.functor (f.name, (f.items.length : Int) + 1)).1 (f.items ++ [p.term]), prio := 0 } fs' r → Q (.int 1) σ')
  kinds : ∀ f fs', fs = f :: fs' → f.kind = Str.ofString "operator" ∨ f.kind = Str.ofString "curly" ∨ f.kind = Str.ofString "args"
  exc : ∀ d kd σ' B' kv kt, BkOk B' kv kt → Has σ' ((d, .ns (excNs kd t.at_)) :: FullL w B' kv kt p fs r) → X d σ'
theorem operator_spec (W : WOk w tp ti to) (H : InW σ w B p fs r) (hB : B.size ≤ 90000) (hf : fs.length ≤ 900) (h0 : 0 ≤ p.place) (hx : w.toks[p.place.toNat]? = some t.mv) (hl : w.toks.length ≤ 1000) (q : OpQ w p B fs r t ti to Q X) : CV C (k + 8) (.ref 465) [w.a.mv] σ Q X := by
  have h1 := H.par
  have hB1 := B.opn_size t.k
  refine CV_V o_Parser_operator (d_Parser_operator C) ?_
  dsimp only [PA.mv]
  walk_at "w"
  refine peek_W H h0 hx hl ?_
  walk_at "w"
  refine opname_spec H (by omega) fun σ₁ H₁ => ?_
  have h1 := H₁.par
  walk_at "w"
  refine BV_ge_int ?_
  cases hge : decide (0 ≤ (B.opn t.k).1) with
  | false =>
    have cond : 0 ≤ (B.opn t.k).1 → admitsB p (ti (B.opn t.k).1) = false ∧ admitsB p (to (B.opn t.k).1) = false := fun h => by rw [decide_eq_true h] at hge; cases hge
    walk_at "w"
    refine BV_ge_int ?_
    rw [hge]
    walk_at "w"
    cases hfs : fs with
    | nil =>
      subst hfs
      have h2 : σ₁ w.a.fr = some (.list []) := H₁.fr
      refine UB_list h2 (by simp) ?_
      rw [show (!([] : List MV).isEmpty) = false from rfl]
      walk_at "w"
      exact q.done cond rfl σ₁ H₁
    | cons f fs' =>
      subst hfs
      have h2 : σ₁ w.a.fr = some (.list (frMVs fs' ++ [f.mv])) := H₁.fr
      refine UB_list h2 (by rw [List.length_append, frMVs_length]; simp at hf ⊢; omega) ?_
      rw [show (!(frMVs fs' ++ [f.mv]).isEmpty) = true from by simp]
      walk_at "w"
      have h3 := H₁.top.1
      refine frames_last (f := f) (fs := fs') h2 (by simp at hf; omega) (fun _ _ => rfl) ?_
      dsimp only [Fr0.mv]
      have hf' : fs'.length ≤ 899 := by simp at hf; omega
      rcases q.kinds f fs' rfl with hk | hk | hk
      · obtain ⟨hleft, qr⟩ := q.red f fs' cond rfl hk
        rw [show frNs f = [(Str.ofString "kind", .str (Str.ofString "operator")), (Str.ofString "limit", .int f.limit), (Str.ofString "functor", .int f.functor), (Str.ofString "name", .int f.name), (Str.ofString "priority", .int f.prio), (Str.ofString "left", f.left), (Str.ofString "items", .ref f.it)] from by unfold frNs; rw [hk]] at h3
        walk_at "w"
        refine reduce_spec H₁ (by omega) hleft fun σ₂ H₂ => ?_
        walk_at "w"
        exact qr σ₂ H₂
      · rw [show frNs f = [(Str.ofString "kind", .str (Str.ofString "curly")), (Str.ofString "limit", .int f.limit), (Str.ofString "functor", .int f.functor), (Str.ofString "name", .int f.name), (Str.ofString "priority", .int f.prio), (Str.ofString "left", f.left), (Str.ofString "items", .ref f.it)] from by unfold frNs; rw [hk]] at h3
        walk_at "w"
        refine close_curly (k := k + 1) W H₁ (by omega) (by omega) hk h0 hx hl (fun hc σ₂ H₂ => ?_) fun d kd σ₂ B' kv kt ok H₂ => ?_
        · walk_at "w"
          exact q.curly f fs' cond rfl hk hc σ₂ H₂
        · exact q.exc d kd σ₂ B' kv kt ok H₂
      · rw [show frNs f = [(Str.ofString "kind", .str (Str.ofString "args")), (Str.ofString "limit", .int f.limit), (Str.ofString "functor", .int f.functor), (Str.ofString "name", .int f.name), (Str.ofString "priority", .int f.prio), (Str.ofString "left", f.left), (Str.ofString "items", .ref f.it)] from by unfold frNs; rw [hk]] at h3
        walk_at "w"
        obtain ⟨hi, qa, qb⟩ := q.args f fs' cond rfl hk
        refine close_args (k := k + 1) W H₁ (by omega) (by omega) hi hk h0 hx hl (fun hc σ₂ H₂ => ?_) (fun hc hd σ₂ H₂ => ?_) fun _ _ d kd σ₂ B' kv kt ok H₂ => ?_
        · walk_at "w"
          exact qa hc σ₂ H₂
        · walk_at "w"
          exact qb hc hd σ₂ H₂
        · exact q.exc d kd σ₂ B' kv kt ok H₂
  | true =>
    have hge' := of_decide_eq_true hge
    walk_at "w"
    refine shift_infix_spec (k := k + 4) W H₁ (by omega) (by omega) h0 hx hl (fun hsh => ?_) fun e he ha o d it σ₂ H₂ => ?_
    · walk_at "w"
      refine BV_ge_int ?_
      rw [hge]
      walk_at "w"
      refine apply_postfix_spec (k := k + 4) W H₁ (by omega) h0 hx hl (fun hpo => ?_) fun e he ha σ₂ H₂ => ?_
      · have cond : 0 ≤ (B.opn t.k).1 → admitsB p (ti (B.opn t.k).1) = false ∧ admitsB p (to (B.opn t.k).1) = false := fun _ => ⟨hsh, hpo⟩
        walk_at "w"
        cases hfs : fs with
        | nil =>
          subst hfs
          have h2 : σ₁ w.a.fr = some (.list []) := H₁.fr
          refine UB_list h2 (by simp) ?_
          rw [show (!([] : List MV).isEmpty) = false from rfl]
          walk_at "w"
          exact q.done cond rfl σ₁ H₁
        | cons f fs' =>
          subst hfs
          have h2 : σ₁ w.a.fr = some (.list (frMVs fs' ++ [f.mv])) := H₁.fr
          refine UB_list h2 (by rw [List.length_append, frMVs_length]; simp at hf ⊢; omega) ?_
          rw [show (!(frMVs fs' ++ [f.mv]).isEmpty) = true from by simp]
          walk_at "w"
          have h3 := H₁.top.1
          refine frames_last (f := f) (fs := fs') h2 (by simp at hf; omega) (fun _ _ => rfl) ?_
          dsimp only [Fr0.mv]
          have hf' : fs'.length ≤ 899 := by simp at hf; omega
          rcases q.kinds f fs' rfl with hk | hk | hk
          · obtain ⟨hleft, qr⟩ := q.red f fs' cond rfl hk
            rw [show frNs f = [(Str.ofString "kind", .str (Str.ofString "operator")), (Str.ofString "limit", .int f.limit), (Str.ofString "functor", .int f.functor), (Str.ofString "name", .int f.name), (Str.ofString "priority", .int f.prio), (Str.ofString "left", f.left), (Str.ofString "items", .ref f.it)] from by unfold frNs; rw [hk]] at h3
            walk_at "w"
            refine reduce_spec H₁ (by omega) hleft fun σ₂ H₂ => ?_
            walk_at "w"
            exact qr σ₂ H₂
          · rw [show frNs f = [(Str.ofString "kind", .str (Str.ofString "curly")), (Str.ofString "limit", .int f.limit), (Str.ofString "functor", .int f.functor), (Str.ofString "name", .int f.name), (Str.ofString "priority", .int f.prio), (Str.ofString "left", f.left), (Str.ofString "items", .ref f.it)] from by unfold frNs; rw [hk]] at h3
            walk_at "w"
            refine close_curly (k := k + 1) W H₁ (by omega) (by omega) hk h0 hx hl (fun hc σ₂ H₂ => ?_) fun d kd σ₂ B' kv kt ok H₂ => ?_
            · walk_at "w"
              exact q.curly f fs' cond rfl hk hc σ₂ H₂
            · exact q.exc d kd σ₂ B' kv kt ok H₂
          · rw [show frNs f = [(Str.ofString "kind", .str (Str.ofString "args")), (Str.ofString "limit", .int f.limit), (Str.ofString "functor", .int f.functor), (Str.ofString "name", .int f.name), (Str.ofString "priority", .int f.prio), (Str.ofString "left", f.left), (Str.ofString "items", .ref f.it)] from by unfold frNs; rw [hk]] at h3
            walk_at "w"
            obtain ⟨hi, qa, qb⟩ := q.args f fs' cond rfl hk
            refine close_args (k := k + 1) W H₁ (by omega) (by omega) hi hk h0 hx hl (fun hc σ₂ H₂ => ?_) (fun hc hd σ₂ H₂ => ?_) fun _ _ d kd σ₂ B' kv kt ok H₂ => ?_
            · walk_at "w"
              exact qa hc σ₂ H₂
            · walk_at "w"
              exact qb hc hd σ₂ H₂
            · exact q.exc d kd σ₂ B' kv kt ok H₂
      · walk_at "w"
        exact q.post e hge' hsh he ha σ₂ H₂
    · walk_at "w"
      exact q.shift e hge' he ha o d it σ₂ H₂
end
@[reducible] noncomputable def aT (i : Int) : MV := .tup [.str (Str.ofString "a"), .int i]
@[reducible] noncomputable def iT (i : Int) : MV := .tup [.str (Str.ofString "i"), .int i]
noncomputable def onOp : List Fr0 → Bool
  | f :: _ => f.kind == Str.ofString "operator"
  | [] => false
noncomputable def saB (p : PS) (fs : List Fr0) (n : Tk) : Bool := !onOp fs && ((p.limit == 999) || n.k.closes)
section
variable {C : Cx} {k : Nat} {σ : Sto} {X : ExcP} {Q : MV → Sto → Prop} {w : Wd} {p : PS} {B : Bk} {fs : List Fr0} {f : Fr0} {r l : List (Addr × MObj)} {tp ti to : Int → Option En} {t n : Tk} {b : BA}
theorem stands_alone_spec (H : InW σ w B p fs r) (hf : fs.length ≤ 900) (h0 : 0 ≤ p.place) (hx : w.toks[p.place.toNat]? = some n.mv) (hl : w.toks.length ≤ 1000) (q : Q (.bool (saB p fs n)) σ) : CV C (k + 3) (.ref 439) [w.a.mv] σ Q X := by
  have h1 := H.par
  refine CV_V o_Parser_stands_alone (d_Parser_stands_alone C) ?_
  dsimp only [PA.mv]
  have fin : onOp fs = false → Q (.bool ((p.limit == 999) || n.k.closes)) σ := fun h => by unfold saB at q; rw [h] at q; exact q
  walk_at "w"
  cases hfs : fs with
  | nil =>
    subst hfs
    have h2 : σ w.a.fr = some (.list []) := H.fr
    refine UB_list h2 (by simp) ?_
    rw [show (!([] : List MV).isEmpty) = false from rfl]
    walk_at "w"
    have hop : onOp ([] : List Fr0) = false := rfl
    cases hli : p.limit == 999 with
    | true =>
      rw [hli] at fin
      refine BV_eq_int' (b := true) hli ?_
      walk_at "w"
      exact fin hop
    | false =>
      rw [hli] at fin
      refine BV_eq_int' (b := false) hli ?_
      walk_at "w"
      refine peek_W H h0 hx hl ?_
      walk_at "w"
      refine closes_spec ?_
      exact fin hop
  | cons f fs' =>
    subst hfs
    have h2 : σ w.a.fr = some (.list (frMVs fs' ++ [f.mv])) := H.fr
    refine UB_list h2 (by rw [List.length_append, frMVs_length]; simp at hf ⊢; omega) ?_
    rw [show (!(frMVs fs' ++ [f.mv]).isEmpty) = true from by simp]
    walk_at "w"
    have h3 := H.top.1
    refine frames_last (f := f) (fs := fs') h2 (by simp at hf; omega) (fun _ _ => rfl) ?_
    dsimp only [Fr0.mv]
    walk_at "w"
    cases hk : f.kind == Str.ofString "operator" with
    | true =>
      refine BV_eq_str' (b := true) hk ?_
      walk_at "w"
      have hop : onOp (f :: fs') = true := hk
      unfold saB at q
      rw [hop] at q
      exact q
    | false =>
      have hop : onOp (f :: fs') = false := hk
      refine BV_eq_str' (b := false) hk ?_
      walk_at "w"
      cases hli : p.limit == 999 with
      | true =>
        rw [hli] at fin
        refine BV_eq_int' (b := true) hli ?_
        walk_at "w"
        exact fin hop
      | false =>
        rw [hli] at fin
        refine BV_eq_int' (b := false) hli ?_
        walk_at "w"
        refine peek_W H h0 hx hl ?_
        walk_at "w"
        refine closes_spec ?_
        exact fin hop
/-- operator_operand, by cases -/
theorem operator_operand_spec {i : Int} (W : WOk w tp ti to) (H : InW σ w B p fs r) (hB : B.size ≤ 100000) (hf : fs.length ≤ 900) (h0 : 0 ≤ p.place) (hx : w.toks[p.place.toNat]? = some n.mv) (hl : w.toks.length ≤ 1000)
    (q1 : n.k.ends = true → saB p fs n = true → ∀ σ', InW σ' w B { p with term := aT i, prio := 0 } fs r → Q (.int 1) σ')
    (q2 : n.k.ends = false → ∀ e, tp i = some e → e.p ≤ p.limit → ∀ o d it σ', InW σ' w (B.functor (i, 1)).2 { p with limit := e.t.hi e.p } (⟨o, d, it, Str.ofString "operator", p.limit, (B.functor (i, 1)).1, -1, e.p, .none, []⟩ :: fs) r → Q (.int 0) σ')
    (qx : ∀ d kd σ' kv kt, BkOk B kv kt → Has σ' ((d, .ns (excNs kd t.at_)) :: FullL w B kv kt p fs r) → X d σ') : CV C (k + 6) (.ref 432) [w.a.mv, .int i, t.mv] σ Q X := by
  have h1 := H.par
  have h2 := H.opd
  obtain ⟨kv, kt, ok, H0⟩ := id H
  refine CV_V o_Parser_operator_operand (d_Parser_operator_operand C) ?_
  dsimp only [PA.mv]
  walk_at "w"
  refine peek_W H h0 hx hl ?_
  walk_at "w"
  cases he : n.k.ends with
  | true =>
    refine ends' true he ?_
    walk_at "w"
    refine stands_alone_spec H hf h0 hx hl ?_
    cases hs : saB p fs n with
    | true =>
      walk_at "w"
      refine tatom_spec ?_
      walk_at "w"
      refine settle_W H fun σ₁ H₁ => ?_
      walk_at "w"
      exact q1 he hs σ₁ H₁
    | false =>
      walk_at "w"
      refine fault_spec (w := w) H0 fun e d σ₁ H₁ => ?_
      exact ⟨e, d, rfl, H₁.get (.tail _ (.head _)), qx d _ _ kv kt ok H₁.exc⟩
  | false =>
    refine ends' false he ?_
    walk_at "w"
    refine prefix_spec (a := w.op) (b := w.b) h2 H.kp_ ?_
    rw [oMV_get (W.p i)]
    cases hp : tp i with
    | none =>
      dsimp only [oMV]
      walk_at "w"
      refine fault_spec (w := w) H0 fun e d σ₁ H₁ => ?_
      exact ⟨e, d, rfl, H₁.get (.tail _ (.head _)), qx d _ _ kv kt ok H₁.exc⟩
    | some en =>
      obtain ⟨ep, et⟩ := en
      dsimp only [oMV, En.mv]
      walk_at "w"
      refine BV_gt_int ?_
      cases hgt : decide (p.limit < ep) with
      | true =>
        walk_at "w"
        refine fault_spec (w := w) H0 fun e d σ₁ H₁ => ?_
        exact ⟨e, d, rfl, H₁.get (.tail _ (.head _)), qx d _ _ kv kt ok H₁.exc⟩
      | false =>
        walk_at "w"
        refine CV_class_H H0 (mk_Frame C) fun o d σ₂ H₂ => ?_
        refine frame_init H₂ fun it σ₃ H₃ => ?_
        have H₃ := behind H₃
        refine ⟨rfl, ?_⟩
        walk_at "w"
        refine functor_spec ⟨kv, kt, ok, H₃⟩ hB fun σ₄ H₄ => ?_
        obtain ⟨kv, kt, ok, H₄⟩ := H₄
        walk_at "w"
        walk_at "lst"
        walk_at "w"
        walk_at "app"
        case hb => rw [frMVs_length]; omega
        intro σ₅ H₅
        walk_at "w"
        refine bounds_spec ?_
        walk_at "w"
        exact q2 he ⟨ep, et⟩ hp (by have := of_decide_eq_false hgt; show ep ≤ _; omega) o d it _ (InW.frame2 (f := ⟨o, d, it, Str.ofString "operator", p.limit, (B.functor (i, 1)).1, -1, ep, .none, []⟩) ok (by assumption))
/-- what the parser's named() does, by cases -/
structure NmQ (w : Wd) (p : PS) (B : Bk) (fs : List Fr0) (r : List (Addr × MObj)) (i : Int) (t n : Tk) (tp ti to : Int → Option En) (Q : MV → Sto → Prop) (X : ExcP) : Prop where
  args : n.k = .oct → ∀ o d it σ', InW σ' w B { p with place := p.place + 1, limit := 999 } (⟨o, d, it, Str.ofString "args", p.limit, -1, i, 0, .none, []⟩ :: fs) r → Q (.int 0) σ'
  plain : n.k ≠ .oct → tp i = none → ti i = none → to i = none → ∀ σ', InW σ' w B { p with term := aT i, prio := 0 } fs r → Q (.int 1) σ'
  alone : n.k ≠ .oct → ((tp i).isSome || ((ti i).isSome || (to i).isSome)) = true → n.k.ends = true → saB p fs n = true → ∀ σ', InW σ' w B { p with term := aT i, prio := 0 } fs r → Q (.int 1) σ'
  pre : n.k ≠ .oct → n.k.ends = false → ∀ e, tp i = some e → e.p ≤ p.limit → ∀ o d it σ', InW σ' w (B.functor (i, 1)).2 { p with limit := e.t.hi e.p } (⟨o, d, it, Str.ofString "operator", p.limit, (B.functor (i, 1)).1, -1, e.p, .none, []⟩ :: fs) r → Q (.int 0) σ'
  exc : ((tp i).isSome || ((ti i).isSome || (to i).isSome)) = true → ∀ d kd σ' kv kt, BkOk B kv kt → Has σ' ((d, .ns (excNs kd t.at_)) :: FullL w B kv kt p fs r) → X d σ'
theorem map_isSome {kvs : List (Int × MV)} {a : Int} {e : Option En} (h : lookK kvs a = e.map En.mv) : (lookK kvs a).isSome = e.isSome := by rw [h]; cases e <;> rfl
theorem named_spec {i : Int} (W : WOk w tp ti to) (H : InW σ w B p fs r) (hB : B.size ≤ 100000) (hf : fs.length ≤ 900) (h0 : 0 ≤ p.place) (hx : w.toks[p.place.toNat]? = some n.mv) (hl : w.toks.length ≤ 1000)
    (ht : (∃ x, t.k = .nam x ∧ (x == Str.ofString "-") = false) ∨ ∃ x, t.k = .pun x) (q : NmQ w p B fs r i t n tp ti to Q X) : CV C (k + 8) (.ref 425) [w.a.mv, .int i, t.mv] σ Q X := by
  have h1 := H.par
  have h2 := H.opd
  refine CV_V o_Parser_named (d_Parser_named C) ?_
  dsimp only [PA.mv]
  walk_at "w"
  refine peek_W H h0 hx hl ?_
  walk_at "w"
  by_cases ho : n.k = .oct
  · refine BV_eq_str' (b := true) (by rw [ho]; decide) ?_
    walk_at "w"
    refine take_W H h0 hx hl fun σ₁ H₁ => ?_
    have h1 := H₁.par
    walk_at "w"
    refine enter_spec (k := k + 4) H₁ (by omega) fun o d it σ₂ H₂ => ?_
    walk_at "w"
    exact q.args ho o d it σ₂ H₂
  · refine BV_eq_str' (b := false) (by revert ho; cases n.k <;> intro ho <;> first | exact absurd rfl ho | (dsimp only [TK.kd]; decide)) ?_
    obtain ⟨tk, at_⟩ := t
    dsimp only at ht
    rcases ht with ⟨x, rfl, hm⟩ | ⟨x, rfl⟩
    · walk_at "w"
      refine BV_eq_str' (b := true) rfl ?_
      walk_at "w"
      refine BV_eq_str' (x := x) (b := false) hm ?_
      walk_at "w"
      refine is_operator_spec (a := w.op) (b := w.b) h2 H.kp_ H.ki_ H.ko_ ?_
      rw [map_isSome (W.p i), map_isSome (W.i i), map_isSome (W.o i)]
      cases hop : ((tp i).isSome || ((ti i).isSome || (to i).isSome)) with
      | true =>
        walk_at "w"
        refine operator_operand_spec (k := k + 1) (t := ⟨.nam x, at_⟩) W H hB hf h0 hx hl (fun he hs σ₁ H₁ => ?_) (fun he e hp hle o d it σ₁ H₁ => ?_) fun d kd σ₁ kv kt ok H₁ => ?_
        · walk_at "w"
          exact q.alone ho hop he hs σ₁ H₁
        · walk_at "w"
          exact q.pre ho he e hp hle o d it σ₁ H₁
        · exact q.exc hop d kd σ₁ kv kt ok H₁
      | false =>
        simp only [Bool.or_eq_false_iff, Option.isSome_eq_false_iff, Option.isNone_iff_eq_none] at hop
        walk_at "w"
        refine tatom_spec ?_
        walk_at "w"
        refine settle_W H fun σ₁ H₁ => ?_
        walk_at "w"
        exact q.plain ho hop.1 hop.2.1 hop.2.2 σ₁ H₁
    · walk_at "w"
      refine BV_eq_str' (b := false) (by dsimp only [TK.kd]; decide) ?_
      walk_at "w"
      refine is_operator_spec (a := w.op) (b := w.b) h2 H.kp_ H.ki_ H.ko_ ?_
      rw [map_isSome (W.p i), map_isSome (W.i i), map_isSome (W.o i)]
      cases hop : ((tp i).isSome || ((ti i).isSome || (to i).isSome)) with
      | true =>
        walk_at "w"
        refine operator_operand_spec (k := k + 1) (t := ⟨.pun x, at_⟩) W H hB hf h0 hx hl (fun he hs σ₁ H₁ => ?_) (fun he e hp hle o d it σ₁ H₁ => ?_) fun d kd σ₁ kv kt ok H₁ => ?_
        · walk_at "w"
          exact q.alone ho hop he hs σ₁ H₁
        · walk_at "w"
          exact q.pre ho he e hp hle o d it σ₁ H₁
        · exact q.exc hop d kd σ₁ kv kt ok H₁
      | false =>
        simp only [Bool.or_eq_false_iff, Option.isSome_eq_false_iff, Option.isNone_iff_eq_none] at hop
        walk_at "w"
        refine tatom_spec ?_
        walk_at "w"
        refine settle_W H fun σ₁ H₁ => ?_
        walk_at "w"
        exact q.plain ho hop.1 hop.2.1 hop.2.2 σ₁ H₁
end
section
variable {C : Cx} {k : Nat} {σ : Sto} {X : ExcP} {Q : MV → Sto → Prop} {w : Wd} {p : PS} {B : Bk} {fs : List Fr0} {f : Fr0} {r l : List (Addr × MObj)} {tp ti to : Int → Option En} {t n : Tk} {b : BA}
/-- what the parser's operand() does, by cases -/
structure OdQ (w : Wd) (p : PS) (B : Bk) (fs : List Fr0) (r : List (Addr × MObj)) (t : Tk) (tp ti to : Int → Option En) (Q : MV → Sto → Prop) (X : ExcP) : Prop where
  num : ∀ i, t.k = .num i → ∀ σ', InW σ' w B { p with place := p.place + 1, term := iT i, prio := 0 } fs r → Q (.int 1) σ'
  nam : ∀ x, t.k = .nam x → (x == Str.ofString "-") = false ∧ ∃ n : Tk, w.toks[(p.place + 1).toNat]? = some n.mv ∧ NmQ w { p with place := p.place + 1 } (B.atom x).2 fs r (B.atom x).1 t n tp ti to Q X
  cur : ∀ x, t.k = .pun x → x = Str.ofString "{" → ∃ n : Tk, w.toks[(p.place + 1).toNat]? = some n.mv ∧
    (n.k.isP (Str.ofString "}") = false → ∀ o d it σ', InW σ' w B { p with place := p.place + 1, limit := 1200 } (⟨o, d, it, Str.ofString "curly", p.limit, -1, -1, 0, .none, []⟩ :: fs) r → Q (.int 0) σ') ∧
    (n.k.isP (Str.ofString "}") = true → ∃ n2 : Tk, w.toks[(p.place + 1 + 1).toNat]? = some n2.mv ∧ NmQ w { p with place := p.place + 1 + 1 } B fs r 2 t n2 tp ti to Q X)
  sq : ∀ x, t.k = .pun x → (x == Str.ofString "[") = false
  noct : t.k ≠ .oct
  exc : ∀ d kd σ' kv kt, BkOk B kv kt → Has σ' ((d, .ns (excNs kd t.at_)) :: FullL w B kv kt { p with place := p.place + 1 } fs r) → X d σ'
theorem operand_spec (W : WOk w tp ti to) (H : InW σ w B p fs r) (hB : B.size ≤ 90000) (hf : fs.length ≤ 900) (h0 : 0 ≤ p.place) (hx : w.toks[p.place.toNat]? = some t.mv) (hl : w.toks.length ≤ 1000) (q : OdQ w p B fs r t tp ti to Q X) : CV C (k + 10) (.ref 418) [w.a.mv] σ Q X := by
  have h1 := H.par
  refine CV_V o_Parser_operand (d_Parser_operand C) ?_
  dsimp only [PA.mv]
  walk_at "w"
  refine take_W H h0 hx hl fun σ₁ H₁ => ?_
  have h1 := H₁.par
  have h2 := H₁.bk
  obtain ⟨kv, kt, ok, H0⟩ := id H₁
  obtain ⟨tk, at_⟩ := t
  cases tk with
  | oct => exact absurd rfl q.noct
  | num i =>
    dsimp only [Tk.mv, TK.kd, TK.val]
    walk_at "w"
    refine integer_spec ?_
    walk_at "w"
    refine settle_W H₁ fun σ₂ H₂ => ?_
    walk_at "w"
    exact q.num i rfl σ₂ H₂
  | nam x =>
    obtain ⟨hm, n, hn, qn⟩ := q.nam x rfl
    have hs := B.atom_size x
    dsimp only [Tk.mv, TK.kd, TK.val]
    walk_at "w"
    refine atom_W H₁ (by omega) fun σ₂ H₂ => ?_
    walk_at "w"
    exact named_spec (k := k + 1) (t := ⟨.nam x, at_⟩) W H₂ (by omega) hf (by show (0 : Int) ≤ p.place + 1; omega) hn hl (.inl ⟨x, rfl, hm⟩) qn
  | eof =>
    dsimp only [Tk.mv, TK.kd, TK.val]
    walk_at "w"
    refine is_punct' (t := ⟨.eof, at_⟩) false rfl ?_
    walk_at "w"
    refine is_punct' (t := ⟨.eof, at_⟩) false rfl ?_
    walk_at "w"
    refine fault_spec (t := ⟨.eof, at_⟩) (w := w) H0 fun e d σ₁ H₁ => ?_
    exact ⟨e, d, rfl, H₁.get (.tail _ (.head _)), q.exc d _ _ kv kt ok H₁.exc⟩
  | pun x =>
    dsimp only [Tk.mv, TK.kd, TK.val]
    walk_at "w"
    refine is_punct' (t := ⟨.pun x, at_⟩) false (q.sq x rfl) ?_
    walk_at "w"
    cases hc : x == Str.ofString "{" with
    | false =>
      refine is_punct' (t := ⟨.pun x, at_⟩) false hc ?_
      walk_at "w"
      refine fault_spec (t := ⟨.pun x, at_⟩) (w := w) H0 fun e d σ₁ H₁ => ?_
      exact ⟨e, d, rfl, H₁.get (.tail _ (.head _)), q.exc d _ _ kv kt ok H₁.exc⟩
    | true =>
      obtain ⟨n, hn, qa, qb⟩ := q.cur x rfl (by simpa using hc)
      have hp : 0 ≤ ({ p with place := p.place + 1 } : PS).place := by show (0 : Int) ≤ p.place + 1; omega
      refine is_punct' (t := ⟨.pun x, at_⟩) true hc ?_
      walk_at "w"
      refine peek_W H₁ hp hn hl ?_
      walk_at "w"
      cases hd : n.k.isP (Str.ofString "}") with
      | false =>
        refine is_punct' false hd ?_
        walk_at "w"
        refine enter_spec (k := k + 6) H₁ (by omega) fun o d it σ₂ H₂ => ?_
        walk_at "w"
        exact qa hd o d it σ₂ H₂
      | true =>
        obtain ⟨n2, hn2, qn⟩ := qb hd
        refine is_punct' true hd ?_
        walk_at "w"
        refine take_W H₁ hp hn hl fun σ₂ H₂ => ?_
        have h1 := H₂.par
        walk_at "w"
        exact named_spec (k := k + 1) (t := ⟨.pun x, at_⟩) W H₂ (by omega) hf (by show (0 : Int) ≤ p.place + 1 + 1; omega) hn2 hl (.inr ⟨x, rfl⟩) qn
end
/-! ## the pure law: what the law's own reader makes of a term, and the states it calls sound -/
noncomputable abbrev sc (s : String) : Str := Str.ofString s
structure Es where
  pre : Str → Option En
  inf : Str → Option En
  post : Str → Option En
noncomputable def Fx.sl (p : Int) : Fx → Int
  | .yf => p | .yfx => p | _ => p - 1
noncomputable def Fx.sr (p : Int) : Fx → Int
  | .fy => p | .xfy => p | _ => p - 1
theorem Fx.sr_ge (p : Int) (t : Fx) : p - 1 ≤ t.sr p := by cases t <;> simp [Fx.sr] <;> omega
noncomputable def Bk.fname (B : Bk) (f : Int) (nm : Str) (n : Int) : Prop := ∃ a, 0 ≤ f ∧ B.funs[f.toNat]? = some (a, n) ∧ 0 ≤ a ∧ B.texts[a.toNat]? = some nm
noncomputable def Bk.txt (B : Bk) (a : Int) (nm : Str) : Prop := 0 ≤ a ∧ B.texts[a.toNat]? = some nm
noncomputable def Bk.le (B B' : Bk) : Prop := B.texts <+: B'.texts ∧ B.funs <+: B'.funs
theorem Bk.le_refl (B : Bk) : B.le B := ⟨List.prefix_rfl, List.prefix_rfl⟩
theorem Bk.le.trans {B B' B'' : Bk} (h : B.le B') (k : B'.le B'') : B.le B'' := ⟨h.1.trans k.1, h.2.trans k.2⟩
theorem pre_get {α : Type} {l l' : List α} (h : l <+: l') {i : Nat} {x : α} (e : l[i]? = some x) : l'[i]? = some x := by
  obtain ⟨t, rfl⟩ := h
  rw [List.getElem?_append_left (List.getElem?_eq_some_iff.mp e).1]; exact e
theorem Bk.txt.mono {B B' : Bk} {a : Int} {nm : Str} (h : B.txt a nm) (l : B.le B') : B'.txt a nm := ⟨h.1, pre_get l.1 h.2⟩
theorem Bk.fname.mono {B B' : Bk} {f n : Int} {nm : Str} (h : B.fname f nm n) (l : B.le B') : B'.fname f nm n := by
  obtain ⟨a, h1, h2, h3, h4⟩ := h
  exact ⟨a, h1, pre_get l.2 h2, h3, pre_get l.1 h4⟩
theorem Bk.txt.uniq {B : Bk} {a : Int} {x y : Str} (h : B.txt a x) (k : B.txt a y) : x = y := Option.some.inj (h.2.symm.trans k.2)
theorem Bk.fname.uniq {B : Bk} {f n m : Int} {x y : Str} (h : B.fname f x n) (k : B.fname f y m) : x = y ∧ n = m := by
  obtain ⟨a, h1, h2, h3, h4⟩ := h
  obtain ⟨b, k1, k2, k3, k4⟩ := k
  rw [h2] at k2
  cases k2
  rw [h4] at k4
  cases k4
  exact ⟨rfl, rfl⟩
theorem Bk.pos_mono {B B' : Bk} (l : B.le B') {x : Str} {i : Nat} (h : B.pos x = some i) : B'.pos x = some i := by
  obtain ⟨⟨t, e⟩, _⟩ := l
  unfold Bk.pos at h ⊢
  rw [← e, List.findIdx?_append, h]; rfl
theorem Bk.pos_txt {B : Bk} {x : Str} {i : Nat} (h : B.pos x = some i) : B.txt i x := by
  unfold Bk.pos at h
  obtain ⟨h1, h2, _⟩ := List.findIdx?_eq_some_iff_getElem.mp h
  refine ⟨by omega, ?_⟩
  rw [Int.toNat_natCast, List.getElem?_eq_getElem h1]
  exact congrArg some (by simpa using h2)
theorem Bk.fpos_get {B : Bk} {x : Int × Int} {i : Nat} (h : B.fpos x = some i) : B.funs[i]? = some x := by
  unfold Bk.fpos at h
  obtain ⟨h1, h2, _⟩ := List.findIdx?_eq_some_iff_getElem.mp h
  rw [List.getElem?_eq_getElem h1]
  exact congrArg some (by simpa using h2)
theorem Bk.atom_le (B : Bk) (t : Str) : B.le (B.atom t).2 := by
  unfold Bk.atom
  split
  · exact B.le_refl
  · exact ⟨List.prefix_append .., List.prefix_rfl⟩
theorem Bk.atom_txt (B : Bk) (t : Str) : (B.atom t).2.txt ((B.atom t).1 : Nat) t := by
  unfold Bk.atom
  split
  · rename_i i h; exact Bk.pos_txt h
  · refine ⟨by dsimp only; omega, ?_⟩
    dsimp only
    rw [Int.toNat_natCast]; simp
theorem Bk.atom_pos {B : Bk} {t : Str} {i : Nat} (h : B.pos t = some i) : B.atom t = (i, B) := by unfold Bk.atom; rw [h]
theorem Bk.functor_le (B : Bk) (p : Int × Int) : B.le (B.functor p).2 := by
  unfold Bk.functor
  split
  · exact B.le_refl
  · exact ⟨List.prefix_rfl, List.prefix_append ..⟩
theorem Bk.functor_name {B : Bk} {a n : Int} {nm : Str} (h : B.txt a nm) : (B.functor (a, n)).2.fname ((B.functor (a, n)).1 : Nat) nm n := by
  unfold Bk.functor
  split
  · rename_i i hi
    exact ⟨a, by dsimp only; omega, by rw [Int.toNat_natCast]; exact Bk.fpos_get hi, h.1, h.2⟩
  · exact ⟨a, by dsimp only; omega, by dsimp only; rw [Int.toNat_natCast]; simp, h.1, h.2⟩
/-- parts with commas between -/
noncomputable def J : List (List MV × Int) → List MV
  | [] => []
  | [p] => p.1
  | p :: q :: r => p.1 ++ [.str (sc ",")] ++ J (q :: r)
noncomputable def Jc (ps : List (List MV × Int)) : List MV := ps.flatMap fun p => p.1 ++ [.str (sc ",")]
theorem J_cons (p : List MV × Int) : ∀ {r : List (List MV × Int)}, r ≠ [] → J (p :: r) = p.1 ++ [.str (sc ",")] ++ J r
  | [], h => absurd rfl h
  | _ :: _, _ => rfl
theorem J_last : ∀ (ps : List (List MV × Int)) (q : List MV × Int), J (ps ++ [q]) = Jc ps ++ q.1
  | [], q => rfl
  | p :: r, q => by
    rw [List.cons_append, J_cons p (by simp), J_last r q]
    simp [Jc]
theorem J_snoc {ps : List (List MV × Int)} (h : ps ≠ []) (q : List MV × Int) : J (ps ++ [q]) = J ps ++ [.str (sc ",")] ++ q.1 := by
  rw [J_last]
  obtain ⟨l, x, rfl⟩ := List.eq_nil_or_concat ps |>.resolve_left h
  rw [List.concat_eq_append, J_last]
  simp [Jc]
theorem Jc_snoc (ps : List (List MV × Int)) (q : List MV × Int) : Jc (ps ++ [q]) = Jc ps ++ q.1 ++ [.str (sc ",")] := by simp [Jc]
noncomputable def okArg (h : Int) : Prop := h ≤ 999 ∨ h = 1201
/-- a term that the law's reader takes: its row and its height -/
inductive Un (B : Bk) (E : Es) : MV → List MV → Int → Prop
  | c0 : Un B E (aT 2) [.str (sc "{"), .str (sc "}")] 0
  | num (i : Int) : Un B E (iT i) [.int i] 0
  | at (i : Int) (nm : Str) : i ≠ 2 → B.txt i nm → Un B E (aT i) [.str nm] (if nm = sc "c" then 0 else 1201)
  | cur (t : MV) (row : List MV) (h : Int) (nm : Str) (n : Int) : Un B E t row h → h ≤ 1201 → B.fname 9 nm n → Un B E (sT 9 [t]) ([.str (sc "{")] ++ row ++ [.str (sc "}")]) 0
  | call (f n : Int) (ts : List MV) (ps : List (List MV × Int)) : ts ≠ [] → ts.length = ps.length → f ≠ 9 → B.fname f (sc "f") n →
      (∀ (i : Nat) (t : MV) (p : List MV × Int), ts[i]? = some t → ps[i]? = some p → Un B E t p.1 p.2) → (∀ p ∈ ps, okArg p.2) → Un B E (sT f ts) ([.str (sc "f"), .str (sc "(")] ++ J ps ++ [.str (sc ")")]) 0
  | inf (f n : Int) (nm : Str) (l r : MV) (e : En) (row tail : List MV) (hl hr : Int) : f ≠ 9 → nm ≠ sc "f" → B.fname f nm n → E.inf nm = some e →
      Un B E l row hl → Un B E r tail hr → hl ≤ e.t.sl e.p → hr ≤ e.t.sr e.p → Un B E (sT f [l, r]) (row ++ [.str nm] ++ tail) e.p
  | post (f n : Int) (t : MV) (e : En) (row : List MV) (h : Int) : f ≠ 9 → B.fname f (sc "q") n → E.post (sc "q") = some e → Un B E t row h → h ≤ e.t.sl e.p → Un B E (sT f [t]) (row ++ [.str (sc "q")]) e.p
  | pre (f n : Int) (nm : Str) (t : MV) (e : En) (row : List MV) (h : Int) : f ≠ 9 → nm ≠ sc "f" → nm ≠ sc "q" → B.fname f nm n → E.pre nm = some e → Un B E t row h → h ≤ e.t.sr e.p → Un B E (sT f [t]) ([.str nm] ++ row) e.p
theorem Un.mono {B B' : Bk} {E : Es} (l : B.le B') {t : MV} {row : List MV} {h : Int} (u : Un B E t row h) : Un B' E t row h := by
  induction u with
  | c0 => exact .c0
  | num i => exact .num i
  | «at» i nm a b => exact .at i nm a (b.mono l)
  | cur t row h nm n _ b c ih => exact .cur t row h nm n ih b (c.mono l)
  | call f n ts ps a b c d _ g ih => exact .call f n ts ps a b c (d.mono l) ih g
  | inf f n nm x y e row tail hl hr a b c d _ _ g h i1 i2 => exact .inf f n nm x y e row tail hl hr a b (c.mono l) d i1 i2 g h
  | post f n t e row h a b c _ d ih => exact .post f n t e row h a (b.mono l) c ih d
  | pre f n nm t e row h a b c d e' _ g ih => exact .pre f n nm t e row h a b c (d.mono l) e' ih g
theorem Un.tup {B : Bk} {E : Es} {t : MV} {row : List MV} {h : Int} (u : Un B E t row h) : ∃ xs, t = .tup xs := by cases u <;> exact ⟨_, rfl⟩
theorem Un.ne {B : Bk} {E : Es} {t : MV} {row : List MV} {h : Int} (u : Un B E t row h) : 1 ≤ row.length := by cases u <;> first | (simp; done) | (simp only [List.length_append, List.length_cons]; omega)
structure EsOk (E : Es) : Prop where
  p : ∀ nm e, E.pre nm = some e → 1 ≤ e.p ∧ e.p ≤ 1200 ∧ nm ≠ sc "f" ∧ nm ≠ sc "q" ∧ nm ≠ sc "{}" ∧ e.t.hi e.p = e.t.sr e.p
  i : ∀ nm e, E.inf nm = some e → 1 ≤ e.p ∧ e.p ≤ 1200 ∧ nm ≠ sc "f" ∧ (nm = sc "," → e.p = 1000) ∧ e.t.hi e.p = e.t.sr e.p ∧ e.t.lo e.p = e.t.sl e.p ∧ nm ≠ sc "{}"
  o : ∀ nm e, E.post nm = some e → 1 ≤ e.p ∧ e.p ≤ 1200 ∧ nm = sc "q" ∧ e.t.lo e.p = e.t.sl e.p
theorem Un.high {B : Bk} {E : Es} (K : EsOk E) {t : MV} {row : List MV} {h : Int} (u : Un B E t row h) : 0 ≤ h ∧ (h ≤ 1200 ∨ h = 1201) := by
  cases u with
  | «at» i nm => split <;> omega
  | inf _ _ _ _ _ e _ _ _ _ _ _ _ d => have := K.i _ _ d; omega
  | post _ _ _ e _ _ _ _ d => have := K.o _ _ d; omega
  | pre _ _ _ _ e _ _ _ _ _ _ d => have := K.p _ _ d; omega
  | _ => omega
/-- a frame, its part of the row and the limit behind it -/
inductive FrP (B : Bk) (E : Es) (most : Int) (f : Fr0) : List MV → Int → Prop
  | cur : f.kind = sc "curly" → f.limit = most → FrP B E most f [.str (sc "{")] 1200
  | args (ps : List (List MV × Int)) : f.kind = sc "args" → f.limit = most → B.txt f.name (sc "f") → f.items.length = ps.length →
      (∀ (i : Nat) (t : MV) (p : List MV × Int), f.items[i]? = some t → ps[i]? = some p → Un B E t p.1 p.2) → (∀ p ∈ ps, okArg p.2) → FrP B E most f ([.str (sc "f"), .str (sc "(")] ++ Jc ps) 999
  | pre (nm : Str) (e : En) : f.kind = sc "operator" → f.limit = most → f.left = .none → B.fname f.functor nm 1 → E.pre nm = some e → f.prio = e.p → e.p ≤ most → FrP B E most f [.str nm] (e.t.sr e.p)
  | inf (nm : Str) (e : En) (part : List MV) (h : Int) : f.kind = sc "operator" → f.limit = most → Un B E f.left part h → h ≤ e.t.sl e.p → B.fname f.functor nm 2 → E.inf nm = some e → f.prio = e.p → e.p ≤ most → FrP B E most f (part ++ [.str nm]) (e.t.sr e.p)
inductive FrOk (B : Bk) (E : Es) : List Fr0 → List MV → Int → Prop
  | nil : FrOk B E [] [] 1200
  | cons {f : Fr0} {fs : List Fr0} {row piece : List MV} {most m : Int} : FrOk B E fs row most → FrP B E most f piece m → FrOk B E (f :: fs) (row ++ piece) m
theorem FrP.mono {B B' : Bk} {E : Es} (l : B.le B') {most m : Int} {f : Fr0} {piece : List MV} (h : FrP B E most f piece m) : FrP B' E most f piece m := by
  cases h with
  | cur a b => exact .cur a b
  | args ps a b c d e g => exact .args ps a b (c.mono l) d (fun i t p x y => (e i t p x y).mono l) g
  | pre nm en a b c d e g h => exact .pre nm en a b c (d.mono l) e g h
  | inf nm en part h a b c d e g i j => exact .inf nm en part h a b (c.mono l) d (e.mono l) g i j
theorem FrOk.mono {B B' : Bk} {E : Es} (l : B.le B') {fs : List Fr0} {row : List MV} {m : Int} (h : FrOk B E fs row m) : FrOk B' E fs row m := by
  induction h with
  | nil => exact .nil
  | cons _ p ih => exact .cons ih (p.mono l)
theorem FrP.most {B : Bk} {E : Es} (K : EsOk E) {most m : Int} {f : Fr0} {piece : List MV} (h : FrP B E most f piece m) : 0 ≤ m ∧ 1 ≤ piece.length := by
  cases h with
  | cur => simp
  | args => simp
  | pre nm e a b c d g => have := K.p _ _ g; have := Fx.sr_ge e.p e.t; simp; omega
  | inf nm e part h a b c d g i => have := K.i _ _ i; have := Fx.sr_ge e.p e.t; simp; omega
theorem FrOk.most {B : Bk} {E : Es} (K : EsOk E) {fs : List Fr0} {row : List MV} {m : Int} (h : FrOk B E fs row m) : 0 ≤ m ∧ fs.length ≤ row.length := by
  induction h with
  | nil => simp
  | cons _ p ih => have := p.most K; rw [List.length_append, List.length_cons]; omega
/-- the frames from the outermost inwards -/
inductive Path (B : Bk) (E : Es) (R : List MV) (M : Int) : List MV → Int → List Fr0 → Prop
  | nil : Path B E R M R M []
  | cons {f : Fr0} {fs : List Fr0} {row piece : List MV} {most m : Int} : FrP B E most f piece m → Path B E R M (row ++ piece) m fs → Path B E R M row most (f :: fs)
theorem FrOk.path' {B : Bk} {E : Es} {R : List MV} {M : Int} : ∀ {fs : List Fr0} {row : List MV} {m : Int} {gs : List Fr0}, FrOk B E fs row m → Path B E R M row m gs → Path B E R M [] 1200 (fs.reverse ++ gs)
  | _, _, _, gs, .nil, p => p
  | _, _, _, gs, .cons (f := f) (fs := fs) h q, p => by
    rw [List.reverse_cons, List.append_assoc]
    exact FrOk.path' h (.cons q p)
theorem FrOk.path {B : Bk} {E : Es} {fs : List Fr0} {row : List MV} {m : Int} (h : FrOk B E fs row m) : Path B E row m [] 1200 fs.reverse := by
  have := h.path' Path.nil
  rwa [List.append_nil] at this
/-! ### the tokens -/
noncomputable def Names : List Str := [sc "c", sc "u", sc "+", sc "w", sc "q", sc "f"]
noncomputable def Puns : List Str := [sc "{", sc "}", sc ")", sc ","]
structure TsOk (ts : List Tk) : Prop where
  len : ts.length ≤ 100
  ne : ts ≠ []
  last : ∀ i t, ts[i]? = some t → t.k ≠ .eof → i + 1 < ts.length
  nam : ∀ (i : Nat) (t : Tk) x, ts[i]? = some t → t.k = .nam x → x ∈ Names
  pun : ∀ (i : Nat) (t : Tk) x, ts[i]? = some t → t.k = .pun x → x ∈ Puns
  oct : ∀ i t, ts[i + 1]? = some t → t.k = .oct → ∃ u, ts[i]? = some u ∧ u.k = .nam (sc "f")
  oct0 : ∀ t, ts[0]? = some t → t.k ≠ .oct
  fun_ : ∀ i t, ts[i]? = some t → t.k = .nam (sc "f") → ∃ u, ts[i + 1]? = some u ∧ u.k = .oct
noncomputable abbrev vals (ts : List Tk) (n : Nat) : List MV := (ts.take n).map fun t => t.k.val
theorem vals_snoc {ts : List Tk} {n : Nat} {t : Tk} (h : ts[n]? = some t) : vals ts (n + 1) = vals ts n ++ [t.k.val] := by
  unfold vals
  rw [List.take_add_one, h]; simp
structure Tb (B1 : Bk) (E : Es) (tp ti to : Int → Option En) : Prop where
  p : ∀ a e, tp a = some e → ∃ nm, B1.txt a nm ∧ E.pre nm = some e
  i : ∀ a e, ti a = some e → ∃ nm, B1.txt a nm ∧ E.inf nm = some e
  o : ∀ a e, to a = some e → ∃ nm, B1.txt a nm ∧ E.post nm = some e
  op : ∀ x ∈ [sc "u", sc "+", sc "w", sc "q"], ∃ i : Nat, B1.pos x = some i ∧ ((tp i).isSome || ((ti i).isSome || (to i).isSome)) = true
  nine : B1.fname 9 (sc "{}") 1
  two : B1.txt 2 (sc "{}")
  seven : B1.txt 7 (sc ",")
  es : EsOk E
structure Gd0 (B1 : Bk) (E : Es) (ts : List Tk) (B : Bk) (p : PS) (fs : List Fr0) (n : Nat) : Prop where
  le : B1.le B
  pl : p.place = (n : Int)
  lt : n < ts.length
  oct : ∀ t, ts[n]? = some t → t.k ≠ .oct
  fr : FrOk B E fs (vals ts n) p.limit
structure Gd1 (B1 : Bk) (E : Es) (ts : List Tk) (B : Bk) (p : PS) (fs : List Fr0) (n : Nat) (row part : List MV) (h : Int) : Prop where
  le : B1.le B
  pl : p.place = (n : Int)
  lt : n < ts.length
  oct : ∀ t, ts[n]? = some t → t.k ≠ .oct
  fr : FrOk B E fs row p.limit
  rw_ : vals ts n = row ++ part
  un : Un B E p.term part h
  pr : p.prio = if h = 1201 then 0 else h
  pm : p.prio ≤ p.limit
  al : h = 1201 → onOp fs = false ∧ ∀ t, ts[n]? = some t → t.k.closes = true ∨ (p.limit = 999 ∧ t.k = .pun (sc ","))
noncomputable def meas (ts : List Tk) (n : Nat) (fs : List Fr0) : Int := 2 * ((ts.length : Int) - n) + fs.length
noncomputable def Nx (w : Wd) (r : List (Addr × MObj)) (ts : List Tk) (E : Es) (B1 B : Bk) (n : Nat) (fs : List Fr0) (v : MV) (σ' : Sto) : Prop :=
  ∃ B' p' fs' n', InW σ' w B' p' fs' r ∧ B'.size ≤ B.size + 2 ∧
    ((v = .int 2 ∧ fs' = [] ∧ ∃ row part h, Gd1 B1 E ts B' p' fs' n' row part h) ∨ (v = .int 0 ∧ meas ts n' fs' < meas ts n fs ∧ Gd0 B1 E ts B' p' fs' n') ∨
     (v = .int 1 ∧ meas ts n' fs' < meas ts n fs ∧ ∃ row part h, Gd1 B1 E ts B' p' fs' n' row part h))
noncomputable def Xx (w : Wd) (r : List (Addr × MObj)) (ts : List Tk) : ExcP := fun d σ' =>
  ∃ kd at_ B' p' fs' kv kt, ∃ n' : Nat, BkOk B' kv kt ∧ Has σ' ((d, .ns (excNs kd at_)) :: FullL w B' kv kt p' fs' r) ∧ p'.place = (n' : Int) ∧ 1 ≤ n' ∧ n' ≤ ts.length ∧ ∃ t i, (i = n' ∨ i + 1 = n') ∧ ts[i]? = some t ∧ t.at_ = at_
section
variable {ts : List Tk} {n : Nat} {f g : Fr0} {fs : List Fr0}
theorem meas_f : meas ts (n + 1) (f :: fs) < meas ts n fs := by unfold meas; rw [List.length_cons]; omega
theorem meas_n : meas ts (n + 1) fs < meas ts n fs := by unfold meas; omega
theorem meas_p : meas ts n fs < meas ts n (f :: fs) := by unfold meas; rw [List.length_cons]; omega
theorem meas_np : meas ts (n + 1) fs < meas ts n (f :: fs) := by unfold meas; rw [List.length_cons]; omega
theorem meas_nf : meas ts (n + 1) (g :: fs) < meas ts n (f :: fs) := by unfold meas; rw [List.length_cons, List.length_cons]; omega
end
theorem pl1 {x : Int} {n : Nat} (h : x = (n : Int)) : x + 1 = ((n + 1 : Nat) : Int) := by rw [h]; rfl
section
variable {w : Wd} {r : List (Addr × MObj)} {ts : List Tk} {E : Es} {B1 B B' : Bk} {p' : PS} {fs fs' : List Fr0} {n n' : Nat} {σ' : Sto} {row part : List MV} {h : Int}
theorem Nx.i0 (H : InW σ' w B' p' fs' r) (hs : B'.size ≤ B.size + 2) (hm : meas ts n' fs' < meas ts n fs) (G : Gd0 B1 E ts B' p' fs' n') : Nx w r ts E B1 B n fs (.int 0) σ' :=
  ⟨_, _, _, n', H, hs, .inr (.inl ⟨rfl, hm, G⟩)⟩
theorem Nx.i1 (H : InW σ' w B' p' fs' r) (hs : B'.size ≤ B.size + 2) (hm : meas ts n' fs' < meas ts n fs) (G : Gd1 B1 E ts B' p' fs' n' row part h) : Nx w r ts E B1 B n fs (.int 1) σ' :=
  ⟨_, _, _, n', H, hs, .inr (.inr ⟨rfl, hm, row, part, h, G⟩)⟩
theorem Nx.i2 (H : InW σ' w B' p' fs' r) (hs : B'.size ≤ B.size + 2) (hf : fs' = []) (G : Gd1 B1 E ts B' p' fs' n' row part h) : Nx w r ts E B1 B n fs (.int 2) σ' :=
  ⟨_, _, _, n', H, hs, .inl ⟨rfl, hf, row, part, h, G⟩⟩
end
theorem noct_next {ts : List Tk} (K : TsOk ts) {n : Nat} {t : Tk} (h : ts[n]? = some t) (hf : t.k ≠ .nam (sc "f")) : ∀ u, ts[n + 1]? = some u → u.k ≠ .oct := by
  intro u hu ho
  obtain ⟨v, hv, e⟩ := K.oct n u hu ho
  rw [h] at hv
  cases hv
  exact hf e
theorem next_some {ts : List Tk} (K : TsOk ts) {n : Nat} {t : Tk} (h : ts[n]? = some t) (hf : t.k ≠ .eof) : ∃ u, ts[n + 1]? = some u := ⟨_, List.getElem?_eq_getElem (K.last n t h hf)⟩
theorem tok_at {w : Wd} {ts : List Tk} (hw : w.toks = ts.map Tk.mv) {n : Nat} {t : Tk} (h : ts[n]? = some t) {i : Int} (e : i = n) : w.toks[i.toNat]? = some t.mv := by
  rw [e, Int.toNat_natCast, hw, List.getElem?_map, h]; rfl
section
variable {w : Wd} {r : List (Addr × MObj)} {ts : List Tk} {E : Es} {B1 B : Bk} {p : PS} {fs : List Fr0} {n : Nat} {t : Tk} {tp ti to : Int → Option En}
/-- a name or a closed curly taken: what may come -/
theorem nm_step (T : Tb B1 E tp ti to) (K : TsOk ts) (le : B1.le B) (G : FrOk B E fs (vals ts n) p.limit) {B0 : Bk} (hs : B.size ≤ B0.size + 1) {m : Nat} {x : List MV} {i : Int} {h : Int} (hnm : n < m)
    (hx : vals ts m = vals ts n ++ x) (pl : p.place = (m : Int)) {nx : Tk} (hn : ts[m]? = some nx)
    (un : Un B E (aT i) x h) (hz : h = 0 ∨ h = 1201)
    (hoct : nx.k = .oct → x = [.str (sc "f")] ∧ B.txt i (sc "f"))
    (hplain : nx.k ≠ .oct → tp i = none → ti i = none → to i = none → h = 0)
    (hpre : ∀ e, tp i = some e → ∃ nm, x = [.str nm] ∧ B.txt i nm ∧ E.pre nm = some e ∧ m = n + 1)
    (hat : (∃ e, tp i = some e ∨ ti i = some e ∨ to i = some e) → m = n + 1) (ht : ts[n]? = some t) (noct : ∀ u, nx.k ≠ .oct → ts[m]? = some u → u.k ≠ .oct) :
    NmQ w p B fs r i t nx tp ti to (Nx w r ts E B1 B0 n fs) (Xx w r ts) := by
  have hlt : m < ts.length := (List.getElem?_eq_some_iff.mp hn).1
  have hm0 := G.most T.es
  have noct' : nx.k ≠ .oct → ∀ u, ts[m]? = some u → u.k ≠ .oct := fun a u => noct u a
  refine ⟨fun ho o d it σ' H => ?_, fun ho a b c σ' H => ?_, fun ho a b c σ' H => ?_, fun ho a e he hle o d it σ' H => ?_, fun hop d kd σ' kv kt ok H => ?_⟩
  · obtain ⟨rfl, hf⟩ := hoct ho
    have hlt' := K.last m nx hn (by rw [ho]; intro z; cases z)
    refine ⟨B, _, _, m + 1, H, by omega, .inr (.inl ⟨rfl, ?_, ?_⟩)⟩
    · unfold meas; rw [List.length_cons]; omega
    · refine ⟨le, by show p.place + 1 = _; omega, hlt', noct_next K hn (by rw [ho]; intro z; cases z), ?_⟩
      rw [vals_snoc hn, hx, List.append_assoc, ho]
      exact .cons G (.args [] rfl rfl hf rfl (by simp) (by simp))
  · have h0 := hplain ho a b c
    subst h0
    exact ⟨B, _, _, m, H, by omega, .inr (.inr ⟨rfl, by unfold meas; omega, _, _, _, le, pl, hlt, noct' ho, G, hx, un, rfl, hm0.1, fun z => absurd z (by decide)⟩)⟩
  · refine ⟨B, _, _, m, H, by omega, .inr (.inr ⟨rfl, by unfold meas; omega, _, _, _, le, pl, hlt, noct' ho, G, hx, un, ?_, hm0.1, fun z => ?_⟩)⟩
    · show (0 : Int) = _
      rcases hz with rfl | rfl <;> rfl
    · simp only [saB, Bool.and_eq_true, Bool.not_eq_true', Bool.or_eq_true, beq_iff_eq] at c
      refine ⟨c.1, fun u hu => ?_⟩
      rw [hn] at hu
      cases hu
      rcases c.2 with c | c
      · cases hk : nx.k with
        | eof => exact .inl rfl
        | pun y =>
          have hp := K.pun _ _ _ hn hk
          rw [hk] at b
          unfold Puns at hp
          simp only [List.mem_cons, List.not_mem_nil, or_false] at hp
          rcases hp with rfl | rfl | rfl | rfl
          · exact absurd b (by decide)
          · exact .inl (by decide)
          · exact .inl (by decide)
          · exact .inr ⟨c, rfl⟩
        | _ => rw [hk] at b; exact absurd b (by simp [TK.ends])
      · exact .inl c
  · obtain ⟨nm, rfl, htx, hE, rfl⟩ := hpre e he
    have hes := T.es.p _ _ hE
    have hsz := B.functor_size (i, 1)
    refine ⟨_, _, _, _, H, by omega, .inr (.inl ⟨rfl, by unfold meas; rw [List.length_cons]; omega, le.trans (B.functor_le _), pl, hlt, noct' ho, ?_⟩)⟩
    rw [hx]
    refine .cons (G.mono (B.functor_le _)) ?_
    dsimp only
    rw [hes.2.2.2.2.2]
    exact .pre nm e rfl rfl rfl (Bk.functor_name htx) hE rfl hle
  · have hmn : m = n + 1 := hat (by
      cases h1 : tp i with
      | some e => exact ⟨e, .inl rfl⟩
      | none => cases h2 : ti i with
        | some e => exact ⟨e, .inr (.inl rfl)⟩
        | none => cases h3 : to i with
          | some e => exact ⟨e, .inr (.inr rfl)⟩
          | none => rw [h1, h2, h3] at hop; cases hop)
    exact ⟨kd, t.at_, B, p, fs, kv, kt, m, ok, H, pl, by omega, by omega, t, n, .inr hmn.symm, ht, rfl⟩
theorem od_step (T : Tb B1 E tp ti to) (K : TsOk ts) (G : Gd0 B1 E ts B p fs n) (ht : ts[n]? = some t) (hw : w.toks = ts.map Tk.mv) :
    OdQ w p B fs r t tp ti to (Nx w r ts E B1 B n fs) (Xx w r ts) := by
  have hm0 := G.fr.most T.es
  have hpl := G.pl
  refine ⟨fun i hk σ' H => ?_, fun x hk => ?_, fun x hk hc => ?_, fun x hk => ?_, G.oct t ht, fun d kd σ' kv kt ok H => ?_⟩
  · have hne : t.k ≠ .eof := by rw [hk]; intro z; cases z
    refine Nx.i1 (n' := n + 1) (row := vals ts n) (part := [.int i]) (h := 0) H (Nat.le_add_right _ 2) meas_n ⟨G.le, pl1 hpl, K.last n t ht hne, noct_next K ht (by rw [hk]; intro z; cases z), G.fr, ?_, .num i, rfl, hm0.1, fun z => absurd z (by decide)⟩
    rw [vals_snoc ht, hk]
  · have hN := K.nam n t x ht hk
    have hne : t.k ≠ .eof := by rw [hk]; intro z; cases z
    obtain ⟨nx, hn⟩ := next_some K ht hne
    have htx := B.atom_txt x
    have hle : B1.le (B.atom x).2 := G.le.trans (B.atom_le x)
    have hi2 : ((B.atom x).1 : Int) ≠ 2 := by
      intro z
      rw [z] at htx
      have := htx.uniq (T.two.mono hle)
      rw [this] at hN
      exact absurd hN (by decide)
    have htab : ∀ {tb : Int → Option En} {g : Str → Option En}, (∀ a e, tb a = some e → ∃ nm, B1.txt a nm ∧ g nm = some e) → ∀ e, tb (B.atom x).1 = some e → g x = some e := by
      intro tb g h e he
      obtain ⟨nm, h1, h2⟩ := h _ _ he
      have := (h1.mono hle).uniq htx
      rwa [this] at h2
    refine ⟨?_, nx, tok_at hw hn (by omega), nm_step (p := { p with place := p.place + 1 }) T K hle (G.fr.mono (B.atom_le x)) (B.atom_size x) (m := n + 1) (x := [.str x]) (h := if x = sc "c" then 0 else 1201) (by omega) (by rw [vals_snoc ht, hk]) (pl1 hpl) hn (.at _ _ hi2 htx) (by split <;> simp) ?_ ?_ ?_ (fun _ => rfl) ht ?_⟩
    · clear htab hi2 htx hle
      unfold Names at hN
      simp only [List.mem_cons, List.not_mem_nil, or_false] at hN
      rcases hN with rfl | rfl | rfl | rfl | rfl | rfl <;> decide
    · intro ho
      obtain ⟨u, hu, e⟩ := K.oct n nx hn ho
      rw [ht] at hu
      cases hu
      rw [hk] at e
      cases e
      exact ⟨rfl, htx⟩
    · intro ho a b c
      have hop : ∀ y ∈ [sc "u", sc "+", sc "w", sc "q"], x ≠ y := by
        rintro y hy rfl
        obtain ⟨j, hj, ho⟩ := T.op x hy
        have := Bk.pos_mono G.le hj
        rw [Bk.atom_pos this] at a b c
        rw [a, b, c] at ho
        cases ho
      have hf : x ≠ sc "f" := by
        rintro rfl
        obtain ⟨u, hu, e⟩ := K.fun_ n t ht hk
        rw [hn] at hu
        cases hu
        exact ho e
      unfold Names at hN
      simp only [List.mem_cons, List.not_mem_nil, or_false] at hN
      rcases hN with rfl | rfl | rfl | rfl | rfl | rfl
      · rw [if_pos rfl]
      · exact absurd rfl (hop _ (by simp))
      · exact absurd rfl (hop _ (by simp))
      · exact absurd rfl (hop _ (by simp))
      · exact absurd rfl (hop _ (by simp))
      · exact absurd rfl hf
    · exact fun e he => ⟨x, rfl, htx, htab T.p e he, rfl⟩
    · intro u hno hu
      rw [hn] at hu
      cases hu
      exact hno
  · subst hc
    have hne : t.k ≠ .eof := by rw [hk]; intro z; cases z
    obtain ⟨nx, hn⟩ := next_some K ht hne
    have hlt := (List.getElem?_eq_some_iff.mp hn).1
    refine ⟨nx, tok_at hw hn (by omega), fun hnp o d it σ' H => ?_, fun hyp => ?_⟩
    · refine Nx.i0 (n' := n + 1) H (Nat.le_add_right _ 2) meas_f ⟨G.le, pl1 hpl, hlt, noct_next K ht (by rw [hk]; intro z; cases z), ?_⟩
      rw [vals_snoc ht, hk]
      exact .cons G.fr (.cur rfl rfl)
    · have hk2 : nx.k = .pun (sc "}") := by
        revert hyp
        cases nx.k with
        | pun y => intro h; simp only [TK.isP, beq_iff_eq] at h; rw [h]
        | _ => intro h; simp [TK.isP] at h
      have hne2 : nx.k ≠ .eof := by rw [hk2]; intro z; cases z
      obtain ⟨n2, hn2⟩ := next_some K hn hne2
      have no2 := noct_next K hn (by rw [hk2]; intro z; cases z) n2 hn2
      have hnone : ∀ {tb : Int → Option En} {g : Str → Option En}, (∀ a e, tb a = some e → ∃ nm, B1.txt a nm ∧ g nm = some e) → (∀ e, g (sc "{}") = some e → False) → tb 2 = none := by
        intro tb g h k
        cases hb : tb 2 with
        | none => rfl
        | some e =>
          obtain ⟨nm, h1, h2⟩ := h _ _ hb
          rw [h1.uniq T.two] at h2
          exact (k e h2).elim
      have p2 := hnone T.p fun e h => (T.es.p _ _ h).2.2.2.2.1 rfl
      refine ⟨n2, tok_at hw hn2 (by omega), ?_⟩
      refine nm_step (p := { p with place := p.place + 1 + 1 }) T K G.le G.fr (B0 := B) (by omega) (m := n + 1 + 1) (x := [.str (sc "{"), .str (sc "}")]) (h := 0) (by omega) (by rw [vals_snoc hn, vals_snoc ht, hk, hk2, List.append_assoc]; rfl) (pl1 (pl1 hpl)) hn2 .c0 (.inl rfl) (fun ho => absurd ho no2) (fun _ _ _ _ => rfl) (fun e he => by rw [p2] at he; cases he) (fun ⟨e, he⟩ => ?_) ht (fun u hno hu => by rw [hn2] at hu; cases hu; exact hno)
      rcases he with he | he | he
      · rw [p2] at he; cases he
      · obtain ⟨nm, h1, h2⟩ := T.i _ _ he
        exact absurd (h1.uniq T.two) (T.es.i _ _ h2).2.2.2.2.2.2
      · obtain ⟨nm, h1, h2⟩ := T.o _ _ he
        rw [(T.es.o _ _ h2).2.2.1] at h1
        exact absurd (h1.uniq T.two) (by decide)
  · have := K.pun n t x ht hk
    unfold Puns at this
    simp only [List.mem_cons, List.not_mem_nil, or_false] at this
    rcases this with rfl | rfl | rfl | rfl <;> decide
  · exact ⟨kd, t.at_, B, _, fs, kv, kt, n + 1, ok, H, pl1 hpl, Nat.succ_pos _, G.lt, t, n, .inr rfl, ht, rfl⟩
end
theorem Bk.opn_le (B : Bk) (k : TK) : B.le (B.opn k).2 := by
  cases k <;> first | exact B.le_refl | exact B.atom_le _
theorem vals_len {ts : List Tk} {n : Nat} (h : n ≤ ts.length) : (vals ts n).length = n := by unfold vals; rw [List.length_map, List.length_take]; omega
theorem opn_txt {ts : List Tk} {B1 B : Bk} {E : Es} {tp ti to : Int → Option En} (T : Tb B1 E tp ti to) (K : TsOk ts) (le : B1.le B) {n : Nat} {t : Tk} (ht : ts[n]? = some t) (h : 0 ≤ (B.opn t.k).1) :
    ∃ x, t.k.val = .str x ∧ (B.opn t.k).2.txt (B.opn t.k).1 x ∧ (t.k = .nam x ∨ (t.k = .pun x ∧ x = sc ",")) := by
  revert h
  cases hk : t.k with
  | nam x => exact fun _ => ⟨x, rfl, B.atom_txt x, .inl rfl⟩
  | pun x =>
    intro h
    have := K.pun n t x ht hk
    unfold Puns at this
    simp only [List.mem_cons, List.not_mem_nil, or_false] at this
    rcases this with rfl | rfl | rfl | rfl
    · rw [show (B.opn (.pun (sc "{"))).1 = -1 from rfl] at h; omega
    · rw [show (B.opn (.pun (sc "}"))).1 = -1 from rfl] at h; omega
    · rw [show (B.opn (.pun (sc ")"))).1 = -1 from rfl] at h; omega
    · refine ⟨_, rfl, ?_, .inr ⟨rfl, rfl⟩⟩
      have h7 : (B.opn (.pun (sc ","))).1 = 7 := rfl
      rw [h7]
      exact T.seven.mono le
  | _ => intro h; exact absurd h (by show ¬ (0 : Int) ≤ -1; omega)
theorem admits_iff {p : PS} {e : En} (h : admitsB p (some e) = true) : e.p ≤ p.limit ∧ p.prio ≤ e.t.lo e.p := by
  simpa [admitsB] using h
theorem isP_eq {k : TK} {y : Str} (h : k.isP y = true) : k = .pun y := by
  revert h
  cases k with
  | pun x => intro h; simp only [TK.isP, beq_iff_eq] at h; rw [h]
  | _ => intro h; simp [TK.isP] at h
theorem FrOk.inv {B : Bk} {E : Es} {f : Fr0} {fs : List Fr0} {row : List MV} {m : Int} (h : FrOk B E (f :: fs) row m) : ∃ row0 piece most, FrOk B E fs row0 most ∧ FrP B E most f piece m ∧ row = row0 ++ piece := by
  cases h with
  | cons a b => exact ⟨_, _, _, a, b, rfl⟩
section
variable {w : Wd} {r : List (Addr × MObj)} {ts : List Tk} {E : Es} {B1 B : Bk} {p : PS} {fs : List Fr0} {n : Nat} {t : Tk} {tp ti to : Int → Option En} {row part : List MV} {h : Int}
theorem Jc_len (ps : List (List MV × Int)) : ps.length ≤ (Jc ps).length := by
  induction ps with
  | nil => simp [Jc]
  | cons q r ih => simp only [Jc, List.flatMap_cons, List.length_append, List.length_cons] at ih ⊢; omega
theorem zip_snoc {B : Bk} {E : Es} {l : List MV} {ps : List (List MV × Int)} {t : MV} {q : List MV × Int} (hl : l.length = ps.length) (g : ∀ (i : Nat) (t : MV) (p : List MV × Int), l[i]? = some t → ps[i]? = some p → Un B E t p.1 p.2) (u : Un B E t q.1 q.2) :
    ∀ (i : Nat) (x : MV) (p : List MV × Int), (l ++ [t])[i]? = some x → (ps ++ [q])[i]? = some p → Un B E x p.1 p.2 := by
  intro i x p hx hp
  rcases Nat.lt_trichotomy i l.length with hi | hi | hi
  · rw [List.getElem?_append_left hi] at hx
    rw [List.getElem?_append_left (by omega)] at hp
    exact g i x p hx hp
  · subst hi
    rw [List.getElem?_append_right (by omega), Nat.sub_self] at hx
    rw [List.getElem?_append_right (by omega), hl, Nat.sub_self] at hp
    cases hx; cases hp
    exact u
  · rw [List.getElem?_eq_none (by rw [List.length_append]; simp; omega)] at hx
    cases hx
theorem op_step (T : Tb B1 E tp ti to) (K : TsOk ts) (G : Gd1 B1 E ts B p fs n row part h) (ht : ts[n]? = some t) (hw : w.toks = ts.map Tk.mv) :
    OpQ w p B fs r t ti to (Nx w r ts E B1 B n fs) (Xx w r ts) := by
  have hm0 := G.fr.most T.es
  have hpl := G.pl
  have hle := G.le
  have hL : n = row.length + part.length := by rw [← List.length_append, ← G.rw_, vals_len (by have := G.lt; omega)]
  have hpl1 := G.un.ne
  have hle1 : B1.le (B.opn t.k).2 := hle.trans (B.opn_le t.k)
  have hs1 := B.opn_size t.k
  have hin : ∀ e, ti (B.opn t.k).1 = some e → ∀ x, (B.opn t.k).2.txt (B.opn t.k).1 x → E.inf x = some e := fun e he x hx => by
    obtain ⟨nm, a, b⟩ := T.i _ _ he
    rwa [(a.mono hle1).uniq hx] at b
  have hon : ∀ e, to (B.opn t.k).1 = some e → ∀ x, (B.opn t.k).2.txt (B.opn t.k).1 x → E.post x = some e := fun e he x hx => by
    obtain ⟨nm, a, b⟩ := T.o _ _ he
    rwa [(a.mono hle1).uniq hx] at b
  have hnc : ∀ x, (t.k = .nam x ∨ (t.k = .pun x ∧ x = sc ",")) → t.k.closes = false := by
    rintro x (e | ⟨e, rfl⟩)
    · rw [e]; rfl
    · rw [e]; decide
  have hne : ∀ x, (t.k = .nam x ∨ (t.k = .pun x ∧ x = sc ",")) → t.k ≠ .eof := by
    rintro x (e | ⟨e, rfl⟩) <;> rw [e] <;> intro z <;> cases z
  have hnf : ∀ x, (t.k = .nam x ∨ (t.k = .pun x ∧ x = sc ",")) → x ≠ sc "f" → t.k ≠ .nam (sc "f") := by
    rintro x (e | ⟨e, rfl⟩) hx <;> rw [e] <;> intro z <;> cases z
    exact hx rfl
  have hv : vals ts (n + 1) = row ++ part ++ [t.k.val] := by rw [vals_snoc ht, G.rw_]
  refine ⟨fun e h0 he ha o d it σ' H => ?_, fun e h0 hna he ha σ' H => ?_, fun hna hfs σ' H => ?_, fun f fs' hna hfs hk => ?_, fun f fs' hna hfs hk hp σ' H => ?_, fun f fs' hna hfs hk => ?_, fun f fs' hfs => ?_, fun d kd σ' B' kv kt ok H => ?_⟩
  · obtain ⟨x, hx, htx, hk⟩ := opn_txt T K hle ht h0
    have hE := hin e he x htx
    have hes := T.es.i _ _ hE
    have had := admits_iff ha
    have hh : h ≠ 1201 := by
      intro z
      rcases (G.al z).2 t ht with c | ⟨c1, c2⟩
      · rw [hnc x hk] at c; cases c
      · have : x = sc "," := by rw [c2] at hx; cases hx; rfl
        have := hes.2.2.2.1 this
        omega
    have hpr := G.pr
    rw [if_neg hh] at hpr
    have hsz := (B.opn t.k).2.functor_size ((B.opn t.k).1, 2)
    have hlf := (B.opn t.k).2.functor_le ((B.opn t.k).1, 2)
    refine Nx.i0 (n' := n + 1) H (Nat.le_trans hsz (Nat.succ_le_succ hs1)) meas_f ⟨hle1.trans hlf, pl1 hpl, K.last n t ht (hne x hk), noct_next K ht (hnf x hk hes.2.2.1), ?_⟩
    rw [hv, List.append_assoc, hx]
    refine .cons (G.fr.mono ((B.opn_le t.k).trans hlf)) ?_
    dsimp only
    rw [hes.2.2.2.2.1]
    exact .inf x e part h rfl rfl (G.un.mono ((B.opn_le t.k).trans hlf)) (by show h ≤ _; have := hes.2.2.2.2.2.1; omega) (Bk.functor_name htx) hE rfl had.1
  · obtain ⟨x, hx, htx, hk⟩ := opn_txt T K hle ht h0
    have hE := hon e he x htx
    have hes := T.es.o _ _ hE
    have had := admits_iff ha
    have hq := hes.2.2.1
    subst hq
    have hh : h ≠ 1201 := by
      intro z
      rcases (G.al z).2 t ht with c | ⟨c1, c2⟩
      · rw [hnc _ hk] at c; cases c
      · rw [c2] at hx; exact absurd hx (by intro z; injection z with z; exact absurd z (by decide))
    have hpr := G.pr
    rw [if_neg hh] at hpr
    have hsz := (B.opn t.k).2.functor_size ((B.opn t.k).1, 1)
    have hlf := (B.opn t.k).2.functor_le ((B.opn t.k).1, 1)
    have hfn := Bk.functor_name (n := 1) htx
    refine Nx.i1 (n' := n + 1) (row := row) (part := part ++ [.str (sc "q")]) (h := e.p) H (Nat.le_trans hsz (Nat.succ_le_succ hs1)) meas_n ⟨hle1.trans hlf, pl1 hpl, K.last n t ht (hne _ hk), noct_next K ht (hnf _ hk (by decide)), G.fr.mono ((B.opn_le t.k).trans hlf), ?_, ?_, ?_, had.1, fun z => ?_⟩
    · rw [hv, List.append_assoc, hx]
    · refine .post _ 1 _ e _ h ?_ hfn hE (G.un.mono ((B.opn_le t.k).trans hlf)) (by have := hes.2.2.2; omega)
      intro z
      rw [z] at hfn
      exact absurd (hfn.uniq (T.nine.mono (hle1.trans hlf))).1 (by decide)
    · show e.p = _
      rw [if_neg (by omega)]
    · omega
  · refine Nx.i2 (n' := n) (row := row) (part := part) (h := h) H (Nat.le_succ_of_le hs1) hfs ⟨hle1, hpl, G.lt, G.oct, G.fr.mono (B.opn_le t.k), G.rw_, G.un.mono (B.opn_le t.k), G.pr, G.pm, G.al⟩
  · subst hfs
    have hh : h ≠ 1201 := by
      intro z
      have := (G.al z).1
      simp only [onOp, hk] at this
      exact absurd this (by decide)
    have hpr := G.pr
    rw [if_neg hh] at hpr
    have hpm := G.pm
    obtain ⟨row0, piece, most, h1, h2, rfl⟩ := G.fr.inv
    generalize hM : p.limit = M at h2
    have hrw := G.rw_
    cases h2 with
    | cur a => rw [a] at hk; exact absurd hk (by decide)
    | args _ a => rw [a] at hk; exact absurd hk (by decide)
    | pre nm e a b c dd g i j =>
      refine ⟨.inl c, fun σ' H => ?_⟩
      rw [c] at H
      dsimp only at H
      have hes := T.es.p _ _ g
      have hfn := dd.mono (B.opn_le t.k)
      refine Nx.i1 (n' := n) (row := row0) (part := [.str nm] ++ part) (h := e.p) H (Nat.le_succ_of_le hs1) meas_p ⟨hle1, hpl, G.lt, G.oct, ?_, by rw [hrw, List.append_assoc], ?_, ?_, ?_, fun z => by omega⟩
      · dsimp only; rw [b]; exact h1.mono (B.opn_le t.k)
      · refine .pre _ 1 nm _ e _ h ?_ hes.2.2.1 hes.2.2.2.1 hfn g (G.un.mono (B.opn_le t.k)) (by omega)
        intro z
        rw [z] at hfn
        exact hes.2.2.2.2.1 (hfn.uniq (T.nine.mono hle1)).1
      · show f.prio = _
        rw [if_neg (by omega)]; exact i
      · show f.prio ≤ f.limit
        omega
    | inf nm e prt hh2 a b c dd g i j l =>
      obtain ⟨xs, hxs⟩ := c.tup
      refine ⟨.inr ⟨xs, hxs⟩, fun σ' H => ?_⟩
      rw [hxs] at H
      dsimp only at H
      rw [hxs] at c
      have hes := T.es.i _ _ i
      have hfn := g.mono (B.opn_le t.k)
      refine Nx.i1 (n' := n) (row := row0) (part := prt ++ [.str nm] ++ part) (h := e.p) H (Nat.le_succ_of_le hs1) meas_p ⟨hle1, hpl, G.lt, G.oct, ?_, by rw [hrw]; simp only [List.append_assoc], ?_, ?_, ?_, fun z => by omega⟩
      · dsimp only; rw [b]; exact h1.mono (B.opn_le t.k)
      · refine .inf _ 2 nm _ _ e _ _ hh2 h ?_ hes.2.2.1 hfn i (c.mono (B.opn_le t.k)) (G.un.mono (B.opn_le t.k)) dd (by omega)
        intro z
        rw [z] at hfn
        exact absurd (hfn.uniq (T.nine.mono hle1)).2 (by decide)
      · show f.prio = _
        rw [if_neg (by omega)]; exact j
      · show f.prio ≤ f.limit
        omega
  · subst hfs
    have hkp := isP_eq hp
    obtain ⟨row0, piece, most, h1, h2, rfl⟩ := G.fr.inv
    generalize hM : p.limit = M at h2
    have hrw := G.rw_
    have hm1 := h1.most T.es
    have hhi := G.un.high T.es
    cases h2 with
    | pre _ _ a => rw [a] at hk; exact absurd hk (by decide)
    | inf _ _ _ _ a => rw [a] at hk; exact absurd hk (by decide)
    | args _ a => rw [a] at hk; exact absurd hk (by decide)
    | cur a b =>
      have hne : t.k ≠ .eof := by rw [hkp]; intro z; cases z
      refine Nx.i1 (n' := n + 1) (row := row0) (part := [.str (sc "{")] ++ part ++ [.str (sc "}")]) (h := 0) H (Nat.le_succ_of_le hs1) meas_np ⟨hle1, pl1 hpl, K.last n t ht hne, noct_next K ht (by rw [hkp]; intro z; cases z), ?_, by rw [hv, hkp]; simp only [List.append_assoc], ?_, rfl, ?_, fun z => by omega⟩
      · dsimp only; rw [b]; exact h1.mono (B.opn_le t.k)
      · exact .cur _ _ h _ 1 (G.un.mono (B.opn_le t.k)) (by omega) (T.nine.mono hle1)
      · show (0 : Int) ≤ f.limit
        omega
  · subst hfs
    obtain ⟨row0, piece, most, h1, h2, rfl⟩ := G.fr.inv
    generalize hM : p.limit = M at h2
    have hrw := G.rw_
    have hm1 := h1.most T.es
    have hhi := G.un.high T.es
    have hpm := G.pm
    have hpr := G.pr
    cases h2 with
    | pre _ _ a => rw [a] at hk; exact absurd hk (by decide)
    | inf _ _ _ _ a => rw [a] at hk; exact absurd hk (by decide)
    | cur a => rw [a] at hk; exact absurd hk (by decide)
    | args ps a b c dd g i =>
      have hJ := Jc_len ps
      have hlt := G.lt
      have hKl := K.len
      have hok : okArg h := by
        unfold okArg
        by_cases z : h = 1201
        · exact .inr z
        · rw [if_neg z] at hpr; omega
      have hok' : ∀ q ∈ ps ++ [(part, h)], okArg q.2 := by
        intro q hq
        rcases List.mem_append.mp hq with hq | hq
        · exact i q hq
        · rw [List.mem_singleton.mp hq]; exact hok
      have hz : ∀ {B' : Bk}, B.le B' → ∀ (i : Nat) (x : MV) (p' : List MV × Int), (f.items ++ [p.term])[i]? = some x → (ps ++ [(part, h)])[i]? = some p' → Un B' E x p'.1 p'.2 := fun l => zip_snoc dd (fun i t p x y => (g i t p x y).mono l) (G.un.mono l)
      refine ⟨by simp only [List.length_append, List.length_cons] at hL; omega, fun hc σ' H => ?_, fun _ hc σ' H => ?_⟩
      · have hkp := isP_eq hc
        have hne : t.k ≠ .eof := by rw [hkp]; intro z; cases z
        refine Nx.i0 (n' := n + 1) H (Nat.le_succ_of_le hs1) meas_nf ⟨hle1, pl1 hpl, K.last n t ht hne, noct_next K ht (by rw [hkp]; intro z; cases z), ?_⟩
        rw [hv, show t.k.val = MV.str (sc ",") by rw [hkp]]
        have := FrOk.cons (f := { f with items := f.items ++ [p.term] }) (h1.mono (B.opn_le t.k)) (.args (ps ++ [(part, h)]) a b (c.mono (B.opn_le t.k)) (by simp [dd]) (hz (B.opn_le t.k)) hok')
        rw [Jc_snoc] at this
        simp only [List.append_assoc] at this ⊢
        exact this
      · have hkp := isP_eq hc
        have hne : t.k ≠ .eof := by rw [hkp]; intro z; cases z
        have hsz := (B.opn t.k).2.functor_size (f.name, (f.items.length : Int) + 1)
        have hlf := (B.opn t.k).2.functor_le (f.name, (f.items.length : Int) + 1)
        have hle2 := (B.opn_le t.k).trans hlf
        have hfn := Bk.functor_name (n := (f.items.length : Int) + 1) (c.mono (B.opn_le t.k))
        refine Nx.i1 (n' := n + 1) (row := row0) (part := [.str (sc "f"), .str (sc "(")] ++ J (ps ++ [(part, h)]) ++ [.str (sc ")")]) (h := 0) H (Nat.le_trans hsz (Nat.succ_le_succ hs1)) meas_np ⟨hle1.trans hlf, pl1 hpl, K.last n t ht hne, noct_next K ht (by rw [hkp]; intro z; cases z), ?_, ?_, ?_, rfl, ?_, fun z => by omega⟩
        · dsimp only; rw [b]; exact h1.mono hle2
        · rw [hv, hkp, J_last]; simp only [List.append_assoc]
        · refine .call _ _ _ _ (by simp) (by simp [dd]) ?_ hfn (hz hle2) hok'
          intro z
          rw [z] at hfn
          exact absurd (hfn.uniq (T.nine.mono (hle1.trans hlf))).1 (by decide)
        · show (0 : Int) ≤ f.limit
          omega
  · subst hfs
    obtain ⟨row0, piece, most, h1, h2, rfl⟩ := G.fr.inv
    generalize hM : p.limit = M at h2
    cases h2 with
    | pre _ _ a => exact .inl a
    | inf _ _ _ _ a => exact .inl a
    | cur a => exact .inr (.inl a)
    | args _ a => exact .inr (.inr a)
  · exact ⟨kd, t.at_, B', p, fs, kv, kt, n, ok, H, hpl, by omega, by have := G.lt; omega, t, n, .inl rfl, ht, rfl⟩
end
noncomputable def Fx.kd : Fx → Nat
  | .fx => 0 | .fy => 0 | .xf => 2 | .yf => 2 | .xfx => 1 | .xfy => 1 | .yfx => 1
@[reducible] noncomputable def kdS : Nat → Str
  | 0 => Str.ofString "prefix"
  | 1 => Str.ofString "infix"
  | _ => Str.ofString "postfix"
@[reducible] noncomputable def OA.tab (a : OA) : Nat → Addr
  | 0 => a.pre
  | 1 => a.inf
  | _ => a.post
section
variable {C : Cx} {k : Nat} {σ : Sto} {X : ExcP} {Q : MV → Sto → Prop} {b : BA} {a : OA} {l l' : List (Addr × MObj)}
theorem fixity_spec {t : Fx} (q : Q (.str (kdS t.kd)) σ) : CV C (k + 1) (.ref 212) [.str t.str] σ Q X := by
  refine CV_V o_fixity (d_fixity C) ?_
  cases t <;> dsimp only [Fx.str]
  all_goals
    (walk_at "w"
     refine BV_in_strs ?_
     first
       | (rw [show (t_PREFIX_TYPES.any _) = true from by decide]; walk_at "w"; exact q)
       | (rw [show (t_PREFIX_TYPES.any _) = false from by decide]; walk_at "w"
          refine BV_in_strs ?_
          first
            | (rw [show (t_INFIX_TYPES.any _) = true from by decide]; walk_at "w"; exact q)
            | (rw [show (t_INFIX_TYPES.any _) = false from by decide]; walk_at "w"
               refine BV_in_strs ?_
               rw [show (t_POSTFIX_TYPES.any _) = true from by decide]; walk_at "w"; exact q)))
theorem table_of_spec {t : Fx} (h : σ a.d = some (.ns (opNs b a))) (q : Q (.ref (a.tab t.kd)) σ) : CV C (k + 2) (.ref 269) [a.mv, .str t.str] σ Q X := by
  refine CV_V o_OperatorTable_table_of (d_OperatorTable_table_of C) ?_
  dsimp only [OA.mv]
  walk_at "w"
  refine fixity_spec ?_
  cases t <;> dsimp only [Fx.kd, kdS]
  all_goals (walk_at "w"; exact q)
theorem add_spec {e : En} {i : Int} {kvs : List (Int × MV)} (h : σ a.d = some (.ns (opNs b a))) (H : Has σ l) (u : UpdL (a.tab e.t.kd) (.dI kvs) (.dI (storeK kvs i e.mv)) l l') (hp : 0 < e.p) (hl : kvs.length ≤ 1000) (q : ∀ σ', Has σ' l' → Q .none σ') : CV C (k + 3) (.ref 276) [a.mv, .int e.p, .str e.t.str, .int i] σ Q X := by
  refine CV_V o_OperatorTable_add (d_OperatorTable_add C) ?_
  dsimp only [OA.mv]
  walk_at "w"
  refine table_of_spec (b := b) (a := a) h ?_
  walk_at "w"
  refine BV_gt_int ?_
  rw [show decide ((0 : Int) < e.p) = true from decide_eq_true hp]
  walk_at "w"
  refine SetI_IH H u (by omega) fun σ' H' => ?_
  walk_at "w"
  exact q σ' H'
end
section
variable {C : Cx} {k : Nat} {σ : Sto} {X : ExcP} {Q : MV → Sto → Prop} {b : BA} {a : OA} {l l' : List (Addr × MObj)}
/-- OperatorTable(symbols, False) -/
theorem opinit_spec {o d : Addr} (H : Has σ ((d, .ns []) :: l)) (q : ∀ pre inf post σ', Has σ' (opsL b ⟨o, d, pre, inf, post⟩ [] [(7, En.mv ⟨1000, .xfy⟩)] [] l) → Q .none σ') : CV C (k + 4) (.ref 234) [.inst 286 o d, b.mv, .bool false] σ Q X := by
  refine CV_V o_OperatorTable_init (d_OperatorTable_init C) ?_
  walk_at "w"
  refine EV_Dict0H (.dI []) .dI (by with_reducible assumption) fun pre σ₁ H₁ => ?_
  walk_at "w"
  refine EV_Dict0H (.dI []) .dI (by with_reducible assumption) fun inf σ₂ H₂ => ?_
  walk_at "w"
  refine EV_Dict0H (.dI []) .dI (by with_reducible assumption) fun post σ₃ H₃ => ?_
  walk_at "w"
  rename_i σx Hx
  refine add_spec (k := k) (e := ⟨1000, .xfy⟩) (a := ⟨o, d, pre, inf, post⟩) (b := b) (kvs := []) (Hx.get (by walk_at "mem")) Hx (.tail .head) (by decide) (by simp) fun σ₄ H₄ => ?_
  walk_at "w"
  refine q pre inf post σ₄ ?_
  exact H₄.perm (List.Perm.append_right l (List.reverse_perm [(d, MObj.ns (opNs b ⟨o, d, pre, inf, post⟩)), (pre, MObj.dI []), (inf, MObj.dI [(7, En.mv ⟨1000, .xfy⟩)]), (post, MObj.dI [])]))
/-- Parser(symbols, operators, 'codes', tokens) -/
theorem parinit_spec {o d tk : Addr} (H : Has σ ((d, .ns []) :: l)) (q : ∀ fr nu na co σ', Has σ' ((d, .ns (parNs b a ⟨o, d, tk, fr, nu, na, co⟩ ⟨0, 1200, .none, 0, 0⟩)) :: (fr, .list []) :: l) → Q .none σ') : CV C (k + 4) (.ref 348) [.inst 517 o d, b.mv, a.mv, .str (Str.ofString "codes"), .ref tk] σ Q X := by
  refine CV_V o_Parser_init (d_Parser_init C) ?_
  walk_at "w"
  refine EV_Dict0H (.dS []) .dS (by with_reducible assumption) fun nu σ₁ H₁ => ?_
  walk_at "w"
  refine EV_Dict0H (.dS []) .dS (by with_reducible assumption) fun co σ₂ H₂ => ?_
  walk_at "w"
  rename_i σx Hx
  exact q _ nu _ co σx (Hx.drop1.drop1.drop1.perm (List.Perm.swap ..))
end
/-- texts and ints written in the program -/
inductive LitOf : Expr → MV → Prop where
  | str (x k p) : LitOf (.Constant (.str x) k p) (.str x)
  | int (i k p) : LitOf (.Constant (.int i) k p) (.int i)
inductive PairOf : Expr → MV → Prop where
  | mk (a b x y k p) (hx : LitOf a x) (hy : LitOf b y) : PairOf (.Tuple [a, b] k p) (.tup [x, y])
noncomputable def litV : (e : Expr) → Option {v : MV // LitOf e v}
  | .Constant c k p => match c with
    | .str x => some ⟨_, .str x k p⟩
    | .int i => some ⟨_, .int i k p⟩
    | _ => none
  | _ => none
noncomputable def pairL (k : Nat) (p : Pos) : (l : List Expr) → Option {v : MV // PairOf (.Tuple l k p) v}
  | a :: b :: [] => match litV a, litV b with
    | some x, some y => some ⟨_, .mk a b _ _ k p x.2 y.2⟩
    | _, _ => none
  | _ => none
noncomputable def pairV : (e : Expr) → Option {v : MV // PairOf e v}
  | .Tuple l k p => pairL k p l
  | _ => none
noncomputable def litMV (e : Expr) : Option MV := valO (litV e)
noncomputable def pairMV (e : Expr) : Option MV := valO (pairV e)
noncomputable def tupV : (e : Expr) → Option {es : List Expr // ∃ kk p, e = .Tuple es kk p}
  | .Tuple es kk p => some ⟨es, kk, p, rfl⟩
  | _ => none
noncomputable def retV : (s : Stmt) → Option {es : List Expr // ∃ kk p p', s = .Return (some (.Tuple es kk p)) p'}
  | .Return (some e) p' => match tupV e with
    | some ⟨es, h⟩ => some ⟨es, h.elim fun kk h => h.elim fun p h => ⟨kk, p, p', by rw [h]⟩⟩
    | none => none
  | _ => none
noncomputable def retTup (b : List Stmt) : List Expr := (valO (retV (hS b))).getD []
noncomputable def allMV (g : Expr → Option MV) : List Expr → Option (List MV)
  | [] => some []
  | e :: r => (g e).bind fun v => (allMV g r).map fun vs => v :: vs
section
variable {C : Cx} {k : Nat} {f : FI} {ρ : Env1} {σ : Sto} {X : ExcP} {Q : MV → Sto → Prop} {Qs : List MV → Sto → Prop}
theorem EV_lit {e : Expr} {v : MV} (h : litMV e = some v) (q : Q v σ) : EV C k f e ρ σ Q X := by
  cases valO_of (o := litV e) h with
  | str => exact EV_str q
  | int => exact EV_int q
theorem lit_star {e : Expr} {v : MV} {es : List Expr} {env : Env} (h : litMV e = some v) : starEach (e :: es) env = (false, eval e env) :: starEach es env := by
  cases valO_of (o := litV e) h <;> rfl
theorem pair_star {e : Expr} {v : MV} {es : List Expr} {env : Env} (h : pairMV e = some v) : starEach (e :: es) env = (false, eval e env) :: starEach es env := by
  cases valO_of (o := pairV e) h; rfl
theorem EV_litO {e : Expr} {v : MV} (h : LitOf e v) (q : Q v σ) : EV C k f e ρ σ Q X := by
  cases h with
  | str => exact EV_str q
  | int => exact EV_int q
theorem litO_star {e : Expr} {v : MV} {es : List Expr} {env : Env} (h : LitOf e v) : starEach (e :: es) env = (false, eval e env) :: starEach es env := by
  cases h <;> rfl
theorem EV_pair {e : Expr} {v : MV} (h : pairMV e = some v) (q : Q v σ) : EV C k f e ρ σ Q X := by
  cases valO_of (o := pairV e) h with
  | mk a b x y n p hx hy => exact EV_Tuple (AV_cons (EV_litO hx (AV_cons (EV_litO hy (AV_nil ⟨by simp, q⟩)) fun env => litO_star hy)) fun env => litO_star hx)
theorem AV_all {g : Expr → Option MV} (he : ∀ {e v} {Q : MV → Sto → Prop}, g e = some v → Q v σ → EV C k f e ρ σ Q X) (hs : ∀ {e v es env}, g e = some v → starEach (e :: es) env = (false, eval e env) :: starEach es env) :
    ∀ {es : List Expr} {vs : List MV} {Qs : List MV → Sto → Prop}, allMV g es = some vs → Qs vs σ → AV C k f es ρ σ Qs X
  | [], vs, Qs, h, q => by cases h; exact AV_nil q
  | e :: r, vs, Qs, h, q => by
    obtain ⟨v, hv, h⟩ := Option.bind_eq_some_iff.mp h
    obtain ⟨ws, hw, rfl⟩ := Option.map_eq_some_iff.mp h
    exact AV_cons (he hv (AV_all he hs hw q)) fun env => hs hv
end
noncomputable def strOf : MV → Str
  | .str x => x
  | _ => ⟨#[]⟩
noncomputable def intOf : MV → Int
  | .int i => i
  | _ => 0
noncomputable def atoms0 : List MV := (allMV litMV (retTup (bodO (fnS pw_sa0154_01 10)))).getD []
noncomputable def atomsS : List Str := atoms0.map strOf
noncomputable def funs0 : List MV := (allMV pairMV (retTup (bodO (fnS pw_sa0154_01 11)))).getD []
noncomputable def rowOf : MV → Str × Int
  | .tup [a, b] => (strOf a, intOf b)
  | _ => (⟨#[]⟩, 0)
noncomputable def funsS : List (Str × Int) := funs0.map rowOf
theorem atoms0_eq : atoms0 = atomsS.map MV.str := by kernel_rfl
theorem funs0_eq : funs0 = funsS.map fun p => MV.tup [.str p.1, .int p.2] := by kernel_rfl
section
variable {C : Cx} {k : Nat} {σ : Sto} {X : ExcP} {Q : MV → Sto → Prop}
noncomputable def isRet (b : List Stmt) : Bool := opB (valO (retV (hS b))) && isN (tL b) && !isN b
theorem ret_of {b : List Stmt} (h : isRet b = true) : ∃ kk p p', b = [.Return (some (.Tuple (retTup b) kk p)) p'] := by
  cases b with
  | nil => cases h
  | cons s r =>
    cases r with
    | cons _ _ => unfold isRet at h; rw [show isN (tL (s :: _ :: _)) = false from rfl, Bool.and_false] at h; cases h
    | nil =>
      change (opB (valO (retV s)) && true && true) = true at h
      rw [Bool.and_true, Bool.and_true] at h
      cases hr : valO (retV s) with
      | none => rw [hr] at h; cases h
      | some es =>
        obtain ⟨kk, p, p', rfl⟩ := valO_of (o := retV s) hr
        exact ⟨kk, p, p', by unfold retTup; rw [show hS [Stmt.Return (some (.Tuple es kk p)) p'] = .Return (some (.Tuple es kk p)) p' from rfl, hr]; rfl⟩
theorem fixed_atoms_spec (q : Q (.tup (atomsS.map MV.str)) σ) : CV C (k + 1) (.ref 60) [] σ Q X := by
  refine CV_def (f := f_fixed_atoms) (d_fixed_atoms C) rfl ?_
  obtain ⟨kk, p, p', e⟩ := ret_of (b := bodO (fnS pw_sa0154_01 10)) (by kernel_rfl)
  rw [e]
  with_reducible refine SV_cons ?_
  with_reducible refine SV_Return ?_
  with_reducible refine EV_Tuple ?_
  with_reducible refine AV_all (g := litMV) ?_ ?_ (vs := atoms0) ?_ ?_
  case refine_1 => intro e v Q h q; exact EV_lit h q
  case refine_2 => intro e v es env h; exact lit_star h
  case refine_3 => kernel_rfl
  refine ⟨by rw [atoms0_eq, List.length_map]; exact of_decide_eq_true (by kernel_rfl), ?_⟩
  rw [atoms0_eq]
  exact q
theorem fixed_functors_spec (q : Q (.tup (funsS.map fun p => MV.tup [.str p.1, .int p.2])) σ) : CV C (k + 1) (.ref 67) [] σ Q X := by
  refine CV_def (f := f_fixed_functors) (d_fixed_functors C) rfl ?_
  obtain ⟨kk, p, p', e⟩ := ret_of (b := bodO (fnS pw_sa0154_01 11)) (by kernel_rfl)
  rw [e]
  with_reducible refine SV_cons ?_
  with_reducible refine SV_Return ?_
  with_reducible refine EV_Tuple ?_
  with_reducible refine AV_all (g := pairMV) ?_ ?_ (vs := funs0) ?_ ?_
  case refine_1 => intro e v Q h q; exact EV_pair h q
  case refine_2 => intro e v es env h; exact pair_star h
  case refine_3 => kernel_rfl
  refine ⟨by rw [funs0_eq, List.length_map]; exact of_decide_eq_true (by kernel_rfl), ?_⟩
  rw [funs0_eq]
  exact q
end
noncomputable def funcB (B : Bk) (p : Str × Int) : Bk := ((B.atom p.1).2.functor ((B.atom p.1).1, p.2)).2
noncomputable def atomB (B : Bk) (t : Str) : Bk := (B.atom t).2
@[irreducible] noncomputable def B0 : Bk := funsS.foldl funcB (atomsS.foldl atomB ⟨[], []⟩)
theorem B0_eq : funsS.foldl funcB (atomsS.foldl atomB ⟨[], []⟩) = B0 := by unfold B0; rfl
section
variable {C : Cx} {k : Nat} {σ : Sto} {X : ExcP} {Q : MV → Sto → Prop} {l l' : List (Addr × MObj)}
theorem foldl_take {α β : Type} (f : β → α → β) (b : β) : ∀ (xs : List α) (i : Nat) (x : α), xs[i]? = some x → (xs.take (i + 1)).foldl f b = f ((xs.take i).foldl f b) x := by
  intro xs i x h
  rw [List.take_add_one, h, List.foldl_append]; rfl
theorem foldl_size {α : Type} (f : Bk → α → Bk) (c : Nat) (h : ∀ B x, (f B x).size ≤ B.size + c) (B : Bk) : ∀ xs : List α, (xs.foldl f B).size ≤ B.size + c * xs.length := by
  intro xs
  induction xs generalizing B with
  | nil => simp
  | cons x r ih =>
    rw [List.foldl_cons]
    have h1 := ih (f B x)
    have h2 := h B x
    rw [List.length_cons, Nat.mul_add, Nat.mul_one]
    omega
theorem atomB_size (B : Bk) (t : Str) : (atomB B t).size ≤ B.size + 1 := B.atom_size t
theorem funcB_size (B : Bk) (p : Str × Int) : (funcB B p).size ≤ B.size + 2 := by
  have h1 := B.atom_size p.1
  have h2 := (B.atom p.1).2.functor_size ((B.atom p.1).1, p.2)
  unfold funcB; omega
theorem lensS : atomsS.length ≤ 100 ∧ funsS.length ≤ 100 := ⟨of_decide_eq_true (by kernel_rfl), of_decide_eq_true (by kernel_rfl)⟩
theorem book0 {o d tx an fn fnn : Addr} (h : Has σ ((fnn, .dT []) :: (fn, .list []) :: (an, .dS []) :: (tx, .list []) :: (d, .ns [(Str.ofString "texts", .ref tx), (Str.ofString "atom_numbers", .ref an), (Str.ofString "functors", .ref fn), (Str.ofString "functor_numbers", .ref fnn)]) :: l)) : BookIn σ ⟨o, d, tx, an, fn, fnn⟩ ⟨[], []⟩ l :=
  ⟨[], [], ⟨fun _ => rfl, fun _ => rfl, rfl, rfl⟩, h.perm (by
    have := (List.reverse_perm ([(d, MObj.ns [(Str.ofString "texts", .ref tx), (Str.ofString "atom_numbers", .ref an), (Str.ofString "functors", .ref fn), (Str.ofString "functor_numbers", .ref fnn)]), (tx, MObj.list []), (an, MObj.dS []), (fn, MObj.list []), (fnn, MObj.dT [])] : List (Addr × MObj))).append_right l
    exact this)⟩
theorem BookIn.ns {a : BA} {B : Bk} (h : BookIn σ a B l) : σ a.d = some (.ns [(Str.ofString "texts", .ref a.tx), (Str.ofString "atom_numbers", .ref a.an), (Str.ofString "functors", .ref a.fn), (Str.ofString "functor_numbers", .ref a.fnn)]) := by
  obtain ⟨kv, kt, ok, h⟩ := h
  exact h.get (.head _)
theorem szA (i : Nat) : ((atomsS.take i).foldl atomB ⟨[], []⟩).size ≤ 100 := by
  have h1 := foldl_size atomB 1 atomB_size ⟨[], []⟩ (atomsS.take i)
  have h2 : (⟨[], []⟩ : Bk).size = 0 := rfl
  have h3 := lensS.1
  have h4 := List.length_take (i := i) (l := atomsS)
  omega
theorem szF (i : Nat) : ((funsS.take i).foldl funcB (atomsS.foldl atomB ⟨[], []⟩)).size ≤ 300 := by
  have h1 := foldl_size funcB 2 funcB_size (atomsS.foldl atomB ⟨[], []⟩) (funsS.take i)
  have h2 := szA atomsS.length
  rw [List.take_length] at h2
  have h3 := lensS.2
  have h4 := List.length_take (i := i) (l := funsS)
  omega
theorem syminit_spec {o d : Addr} (H : Has σ ((d, .ns []) :: l)) (q : ∀ tx an fn fnn σ', BookIn σ' ⟨o, d, tx, an, fn, fnn⟩ B0 l → Q .none σ') : CV C (k + 8) (.ref 81) [.inst 154 o d] σ Q X := by
  refine CV_V o_Symbols_init (d_Symbols_init C) ?_
  walk_at "w"
  refine EV_Dict0H (.dS []) .dS (by with_reducible assumption) fun an σ₁ H₁ => ?_
  walk_at "w"
  refine EV_Dict0H (.dT []) .dT (by with_reducible assumption) fun fnn σ₂ H₂ => ?_
  walk_at "w"
  rename_i σx Hx
  obtain ⟨tx, fn, HB⟩ : ∃ tx fn, BookIn σx ⟨o, d, tx, an, fn, fnn⟩ ⟨[], []⟩ l := ⟨_, _, book0 Hx⟩
  clear Hx
  refine fixed_atoms_spec ?_
  walk_at "w"
  refine ForT (k := k + 5) (fun i ρ σ => (ρ = [(Str.ofString "self", .inst 154 o d)] ∨ ∃ v, ρ = [(Str.ofString "self", .inst 154 o d), (Str.ofString "text", v)]) ∧ BookIn σ ⟨o, d, tx, an, fn, fnn⟩ ((atomsS.take i).foldl atomB ⟨[], []⟩) l) ⟨.inl rfl, HB⟩ ?_ ?_
  · rintro i y ρ' σ' hy ⟨hρ, HI⟩
    rw [List.getElem?_map] at hy
    obtain ⟨x, hx, rfl⟩ := Option.map_eq_some_iff.mp hy
    have hI' : ∀ σ'', BookIn σ'' ⟨o, d, tx, an, fn, fnn⟩ (((atomsS.take i).foldl atomB ⟨[], []⟩).atom x).2 l → BookIn σ'' ⟨o, d, tx, an, fn, fnn⟩ ((atomsS.take (i + 1)).foldl atomB ⟨[], []⟩) l := fun σ'' h => by
      rw [foldl_take atomB ⟨[], []⟩ atomsS i x hx]; exact h
    have h1 := HI.ns
    rcases hρ with rfl | ⟨v, rfl⟩ <;>
    (walk_at "w"
     refine vS_in o_Symbols_init ?_
     walk_at "w"
     refine atom_spec HI (by have := szA i; omega) fun σ₃ H₃ => ?_
     exact ⟨.inr ⟨_, rfl⟩, hI' _ H₃⟩)
  · rintro ρ' σ' ⟨hρ, HI⟩
    rw [List.length_map, List.take_length] at HI
    rcases hρ with rfl | ⟨v, rfl⟩ <;>
    (walk_at "w"
     refine fixed_functors_spec ?_
     walk_at "w"
     refine ForT (k := k + 5) (fun i ρ σ => ((∃ v, ρ = [(Str.ofString "self", .inst 154 o d), (Str.ofString "text", v)]) ∨ (∃ v u, ρ = [(Str.ofString "self", .inst 154 o d), (Str.ofString "text", v), (Str.ofString "row", u)]) ∨ ρ = [(Str.ofString "self", .inst 154 o d)] ∨ ∃ u, ρ = [(Str.ofString "self", .inst 154 o d), (Str.ofString "row", u)]) ∧ BookIn σ ⟨o, d, tx, an, fn, fnn⟩ ((funsS.take i).foldl funcB (atomsS.foldl atomB ⟨[], []⟩)) l) ⟨?_, HI⟩ ?_ ?_
     · first | exact .inr (.inr (.inl rfl)) | exact .inl ⟨_, rfl⟩
     · rintro i y ρ' σ' hy ⟨hρ, HI⟩
       rw [List.getElem?_map] at hy
       obtain ⟨⟨x, m⟩, hx, rfl⟩ := Option.map_eq_some_iff.mp hy
       have hI' : ∀ σ'', BookIn σ'' ⟨o, d, tx, an, fn, fnn⟩ (((((funsS.take i).foldl funcB (atomsS.foldl atomB ⟨[], []⟩)).atom x).2.functor ((((funsS.take i).foldl funcB (atomsS.foldl atomB ⟨[], []⟩)).atom x).1, m)).2) l → BookIn σ'' ⟨o, d, tx, an, fn, fnn⟩ ((funsS.take (i + 1)).foldl funcB (atomsS.foldl atomB ⟨[], []⟩)) l := fun σ'' h => by
         rw [foldl_take funcB _ funsS i (x, m) hx]; exact h
       have h1 := HI.ns
       rcases hρ with ⟨v, rfl⟩ | ⟨v, u, rfl⟩ | rfl | ⟨u, rfl⟩ <;>
       (walk_at "w"
        refine vS_in o_Symbols_init ?_
        walk_at "w"
        refine func_spec HI (by have := szF i; omega) fun σ₃ H₃ => ?_
        first | exact ⟨.inr (.inl ⟨_, _, rfl⟩), hI' _ H₃⟩ | exact ⟨.inr (.inr (.inr ⟨_, rfl⟩)), hI' _ H₃⟩)
     · rintro ρ' σ' ⟨hρ, HI⟩
       rw [List.length_map, List.take_length, B0_eq] at HI
       exact q tx an fn fnn σ' HI)
end
noncomputable def Fx.c0 : Fx → Nat
  | .fx => 102 | .fy => 102 | .yf => 121 | .yfx => 121 | _ => 120
noncomputable def Fx.c1 : Fx → Nat
  | .xf => 102 | .yf => 102 | .fy => 121 | .xfy => 121 | _ => 120
noncomputable def Fx.y0 : Fx → Bool
  | .yf => true | .yfx => true | _ => false
noncomputable def Fx.y1 : Fx → Bool
  | .fy => true | .xfy => true | _ => false
theorem Fx.sl_y (t : Fx) (p : Int) : t.sl p = if t.y0 then p else p - 1 := by cases t <;> rfl
theorem Fx.sr_y (t : Fx) (p : Int) : t.sr p = if t.y1 then p else p - 1 := by cases t <;> rfl
section
variable {C : Cx} {k : Nat} {σ : Sto} {X : ExcP} {Q : MV → Sto → Prop} {l l' : List (Addr × MObj)}
theorem sides_spec {p : Int} {t : Fx} (q : Q (.tup [.int (t.sl p), .int (t.sr p)]) σ) : CV C (k + 3) (.ref 542) [.tup [.int p, .str t.str]] σ Q X := by
  rw [Fx.sl_y, Fx.sr_y] at q
  refine CV_V o_llaw_sides (d_llaw_sides C) ?_
  walk_at "w"
  refine SubV_str (c := t.c0) (by cases t <;> kernel_rfl) (fun _ _ => rfl) (by decide) ?_
  walk_at "w"
  refine BV_eq_str' (b := t.y0) (by cases t <;> decide) ?_
  cases h0 : t.y0 <;> cases h1 : t.y1 <;> rw [h0, h1] at q
  all_goals
    walk_at "w"
    try refine BV_sub ?_
    walk_at "w"
    refine SubV_str (c := t.c1) (by cases t <;> kernel_rfl) (fun _ _ => rfl) (by decide) ?_
    walk_at "w"
    refine BV_eq_str' (b := t.y1) (by cases t <;> decide) ?_
    rw [h1]
    walk_at "w"
    try refine BV_sub ?_
    walk_at "w"
    try exact q
end
theorem Un.fo {B : Bk} {E : Es} {t : MV} {row : List MV} {h : Int} (u : Un B E t row h) : t.fo = true := by
  have ha : PyData.strOk (Str.ofString "a") = true := by kernel_rfl
  have hi : PyData.strOk (Str.ofString "i") = true := by kernel_rfl
  have hs : PyData.strOk (Str.ofString "s") = true := by kernel_rfl
  have hf : ∀ l : List MV, (∀ (i : Nat) (t : MV), l[i]? = some t → t.fo = true) → fos l = true := by
    intro l
    induction l with
    | nil => intro _; rfl
    | cons x r ih => intro g; rw [fos, g 0 x rfl, ih fun i t e => g (i + 1) t e]; rfl
  induction u with
  | c0 => simp [aT, MV.fo, fos, ha]
  | num i => simp [iT, MV.fo, fos, hi]
  | «at» i nm => simp [aT, MV.fo, fos, ha]
  | cur t row h nm n _ _ _ ih => simp [sT, MV.fo, fos, hs, ih]
  | call f n ts ps a b c d _ g ih =>
    have : fos ts = true := hf ts fun i t e => by
      have hl := (List.getElem?_eq_some_iff.mp e).1
      exact ih i t ps[i] e (List.getElem?_eq_getElem (by omega))
    simp [sT, MV.fo, fos, hs, this]
  | inf f n nm x y e row tail hl hr a b c d _ _ g h i1 i2 => simp [sT, MV.fo, fos, hs, i1, i2]
  | post f n t e row h a b c _ d ih => simp [sT, MV.fo, fos, hs, ih]
  | pre f n nm t e row h a b c d e' _ g ih => simp [sT, MV.fo, fos, hs, ih]
structure EA where
  e : Addr
  p : Addr
  i : Addr
  o : Addr
structure EOk (E : Es) (kp ki ko : List (Str × MV)) : Prop where
  p : ∀ x, lookK kp x = (E.pre x).map En.mv
  i : ∀ x, lookK ki x = (E.inf x).map En.mv
  o : ∀ x, lookK ko x = (E.post x).map En.mv
noncomputable abbrev entD (a : EA) : List (Str × MV) := [(Str.ofString "prefix", .ref a.p), (Str.ofString "infix", .ref a.i), (Str.ofString "postfix", .ref a.o)]
noncomputable abbrev bkNs (a : BA) : Env1 := [(Str.ofString "texts", .ref a.tx), (Str.ofString "atom_numbers", .ref a.an), (Str.ofString "functors", .ref a.fn), (Str.ofString "functor_numbers", .ref a.fnn)]
/-- what the reader looks at: the book and the entries -/
structure RdL (l : List (Addr × MObj)) (b : BA) (B : Bk) (a : EA) (kp ki ko : List (Str × MV)) : Prop where
  d : (b.d, .ns (bkNs b)) ∈ l
  tx : (b.tx, .list (B.texts.map .str)) ∈ l
  fn : (b.fn, .list (B.funs.map fmv)) ∈ l
  e : (a.e, .dS (entD a)) ∈ l
  p : (a.p, .dS kp) ∈ l
  i : (a.i, .dS ki) ∈ l
  o : (a.o, .dS ko) ∈ l
theorem RdL.cons {l : List (Addr × MObj)} {b : BA} {B : Bk} {a : EA} {kp ki ko : List (Str × MV)} (h : RdL l b B a kp ki ko) (x : Addr × MObj) : RdL (x :: l) b B a kp ki ko :=
  ⟨.tail _ h.d, .tail _ h.tx, .tail _ h.fn, .tail _ h.e, .tail _ h.p, .tail _ h.i, .tail _ h.o⟩
section
variable {C : Cx} {k : Nat} {f : FI} {ρ : Env1} {σ : Sto} {X : ExcP} {Q : MV → Sto → Prop} {l l' : List (Addr × MObj)} {b : BA} {B : Bk} {a : EA} {kp ki ko : List (Str × MV)} {E : Es}
theorem BV_le_t {x y : Int} (h : x ≤ y) (q : Q (.bool true) σ) : BV C k (compareOp .LtE) (.int x) (.int y) σ Q X := BV_le_int (by rw [decide_eq_true h]; exact q)
theorem BV_le_f {x y : Int} (h : ¬ x ≤ y) (q : Q (.bool false) σ) : BV C k (compareOp .LtE) (.int x) (.int y) σ Q X := BV_le_int (by rw [decide_eq_false h]; exact q)
theorem BV_eqi_t {x y : Int} (h : x = y) (q : Q (.bool true) σ) : BV C k (compareOp .Eq) (.int x) (.int y) σ Q X := BV_eq_int' (b := true) (by simp [h]) q
theorem BV_eqi_f {x y : Int} (h : x ≠ y) (q : Q (.bool false) σ) : BV C k (compareOp .Eq) (.int x) (.int y) σ Q X := BV_eq_int' (b := false) (by simp [h]) q
theorem BV_eqs_f {x y : Str} (h : x ≠ y) (q : Q (.bool false) σ) : BV C k (compareOp .Eq) (.str x) (.str y) σ Q X := BV_eq_str' (b := false) (by simp [h]) q
theorem text_spec' {tx : Str} {i : Int} (H : Has σ l) (R : RdL l b B a kp ki ko) (h : B.txt i tx) (hl : B.size ≤ 100000) (q : Q (.str tx) σ) : CV C (k + 1) (.ref 95) [b.mv, .int i] σ Q X := by
  have m1 := R.d
  refine CV_V o_Symbols_text (d_Symbols_text C) ?_
  dsimp only [BA.mv]
  walk_at "w"
  refine SubV_list (x := .str tx) (H.get R.tx) h.1 (by rw [List.getElem?_map, h.2]; rfl) (fun _ _ => rfl) (by unfold Bk.size at hl; simp; omega) q
theorem name_spec' {i x n : Int} (H : Has σ l) (R : RdL l b B a kp ki ko) (h0 : 0 ≤ i) (hx : B.funs[i.toNat]? = some (x, n)) (hl : B.size ≤ 100000) (q : Q (.int x) σ) : CV C (k + 1) (.ref 116) [b.mv, .int i] σ Q X := by
  have m1 := R.d
  refine CV_V o_Symbols_name (d_Symbols_name C) ?_
  dsimp only [BA.mv]
  walk_at "w"
  refine SubV_list (x := .tup [.int x, .int n]) (H.get R.fn) h0 (by rw [List.getElem?_map, hx]; rfl) (fun _ _ => rfl) (by unfold Bk.size at hl; simp; omega) ?_
  walk_at "w"
  exact q
theorem eq_curly {t : MV} {row : List MV} {h : Int} (u : Un B E t row h) {v : Bool} (hv : PyData.eqv t.dat (aT 2).dat = v) (q : Q (.bool v) σ) : BV C k (compareOp .Eq) t (aT 2) σ Q X :=
  BV_eq_fo u.fo (by kernel_rfl) (Nat.le_trans (Nat.min_le_right _ _) (by decide)) (by rw [hv]; exact q)
end
section
variable {C : Cx} {k : Nat} {f : FI} {ρ : Env1} {σ : Sto} {X : ExcP} {Q : MV → Sto → Prop} {l l' : List (Addr × MObj)} {b : BA} {B : Bk} {a : EA} {kp ki ko : List (Str × MV)} {E : Es}
theorem eqv_s (f : Int) (xs : List MV) : PyData.eqv (sT f xs).dat (aT 2).dat = false := by
  simp [MV.dat, dats, PyData.eqv, PyData.eqvAll]
theorem ok_or {v : Int} {Q : KV} (h : okArg v) (hb : v = 1201 → Q (.bool true) σ → Q (.bool false) σ) (q : Q (.bool true) σ) : BV C k (compareOp .LtE) (.int v) (.int 999) σ Q X := by
  rcases h with h | h
  · exact BV_le_t h q
  · exact BV_le_f (by omega) (hb h q)
theorem lookK_1 (u v w : MV) : lookK [(Str.ofString "prefix", u), (Str.ofString "infix", v), (Str.ofString "postfix", w)] (Str.ofString "prefix") = some u := rfl
theorem lookK_2 (u v w : MV) : lookK [(Str.ofString "prefix", u), (Str.ofString "infix", v), (Str.ofString "postfix", w)] (Str.ofString "infix") = some v := rfl
theorem lookK_3 (u v w : MV) : lookK [(Str.ofString "prefix", u), (Str.ofString "infix", v), (Str.ofString "postfix", w)] (Str.ofString "postfix") = some w := rfl
theorem J_ge (ps : List (List MV × Int)) (h : ∀ p ∈ ps, 1 ≤ p.1.length) : ps.length ≤ (J ps).length := by
  induction ps with
  | nil => simp
  | cons p r ih =>
    have h1 := h p (.head _)
    have h2 := ih fun p hp => h p (.tail _ hp)
    cases r with
    | nil => simpa [J] using h1
    | cons p' r' =>
      rw [J_cons p (by simp)]
      simp only [List.length_append, List.length_cons] at h2 ⊢
      omega
noncomputable abbrev lpE (b : BA) (a : EA) (t : MV) (c : Addr) (hh : Int) : Env1 := [(Str.ofString "book", b.mv), (Str.ofString "entries", MV.ref a.e), (Str.ofString "term", t), (Str.ofString "name", MV.str (sc "f")), (Str.ofString "row", MV.ref c), (Str.ofString "high", MV.int hh), (Str.ofString "good", MV.bool true)]
noncomputable abbrev lpG (b : BA) (a : EA) (t : MV) (c : Addr) (hh : Int) (v w : MV) : Env1 := [(Str.ofString "book", b.mv), (Str.ofString "entries", MV.ref a.e), (Str.ofString "term", t), (Str.ofString "name", MV.str (sc "f")), (Str.ofString "row", MV.ref c), (Str.ofString "high", MV.int hh), (Str.ofString "good", MV.bool true), (Str.ofString "part", v), (Str.ofString "tail", w)]
theorem J_take (ps : List (List MV × Int)) (i : Nat) : (J (ps.take i)).length + (if h : i < ps.length then ps[i].1.length + 1 else 0) ≤ (J ps).length + 1 := by
  induction ps generalizing i with
  | nil => simp [J]
  | cons p r ih =>
    cases r with
    | nil =>
      cases i with
      | zero => simp [J]
      | succ i => simp [J]
    | cons p' r' =>
      cases i with
      | zero =>
        rw [J_cons p (by simp)]
        simp [J]
      | succ i =>
        have := ih i
        rw [J_cons p (by simp), List.take_succ_cons]
        cases i with
        | zero => simp [J] at this ⊢; omega
        | succ i =>
          rw [J_cons p (by simp)]
          simp only [List.length_append, List.length_cons, List.getElem_cons_succ, Nat.add_lt_add_iff_right] at this ⊢
          omega
theorem eqv_i (i : Int) : PyData.eqv (iT i).dat (aT 2).dat = false := by
  have : (Str.ofString "i" == Str.ofString "a") = false := by decide
  simp [MV.dat, dats, PyData.eqv, PyData.eqvAll] at this ⊢
  intro h; exact absurd h this

/-- the reader's answer at a term -/
noncomputable def UnfS (C : Cx) (b : BA) (B : Bk) (a : EA) (kp ki ko : List (Str × MV)) (t : MV) (row : List MV) (h : Int) : Prop :=
  ∀ {K : Nat} {σ : Sto} {l : List (Addr × MObj)} {X : ExcP} {Q : MV → Sto → Prop}, row.length + 4 ≤ K → row.length ≤ 200 → Has σ l → RdL l b B a kp ki ko → (∀ c σ', Has σ' ((c, .list row) :: l) → Q (.tup [.ref c, .int h]) σ') → CV C K (.ref 549) [b.mv, .ref a.e, t] σ Q X
theorem unf_c0 (hB : B.size ≤ 100000)  : UnfS C b B a kp ki ko (aT 2) [.str (sc "{"), .str (sc "}")] 0 := by
  intro K σ l X Q hK hR H R q
  obtain ⟨K, rfl⟩ : ∃ K', K = K' + 1 := ⟨K - 1, by omega⟩
  refine CV_V o_llaw_unfold (d_llaw_unfold C) ?_
  walk_at "w"
  refine eq_curly .c0 (E := ⟨fun _ => none, fun _ => none, fun _ => none⟩) (B := B) (v := true) (by kernel_rfl) ?_
  walk_at "w"
  exact q _ _ (by with_reducible assumption)
theorem unf_num (hB : B.size ≤ 100000) (i : Int) : UnfS C b B a kp ki ko (iT i) [.int i] 0 := by
  intro K σ l X Q hK hR H R q
  obtain ⟨K, rfl⟩ : ∃ K', K = K' + 1 := ⟨K - 1, by omega⟩
  refine CV_V o_llaw_unfold (d_llaw_unfold C) ?_
  walk_at "w"
  refine eq_curly (.num i) (E := ⟨fun _ => none, fun _ => none, fun _ => none⟩) (B := B) (v := false) (eqv_i i) ?_
  walk_at "w"
  exact q _ _ (by with_reducible assumption)
theorem unf_at (hB : B.size ≤ 100000) (i : Int) (nm : Str) (hi : i ≠ 2) (htx : B.txt i nm) : UnfS C b B a kp ki ko (aT i) [.str nm] (if nm = sc "c" then 0 else 1201) := by
  intro K σ l X Q hK hR H R q
  obtain ⟨K, rfl⟩ : ∃ K', K = K' + 2 := ⟨K - 2, by omega⟩
  refine CV_V o_llaw_unfold (d_llaw_unfold C) ?_
  have m1 := R.d
  walk_at "w"
  refine eq_curly (.at i nm hi htx) (E := ⟨fun _ => none, fun _ => none, fun _ => none⟩) (v := false) (by simp [MV.dat, dats, PyData.eqv, PyData.eqvAll, hi]) ?_
  walk_at "w"
  refine text_spec' H R htx hB ?_
  walk_at "w"
  by_cases hc : nm = sc "c"
  · subst hc
    rw [if_pos rfl] at q
    walk_at "w"
    exact q _ _ (by with_reducible assumption)
  · rw [if_neg hc] at q
    refine BV_eqs_f hc ?_
    walk_at "w"
    exact q _ _ (by with_reducible assumption)
theorem unf_cur (hB : B.size ≤ 100000) (t : MV) (row : List MV) (h : Int) (nm : Str) (n : Int) (u : Un B E t row h) (hh : h ≤ 1201) (hf : B.fname 9 nm n) (ih : UnfS C b B a kp ki ko t row h) : UnfS C b B a kp ki ko (sT 9 [t]) ([.str (sc "{")] ++ row ++ [.str (sc "}")]) 0 := by
  intro K σ l X Q hK hR H R q
  obtain ⟨K, rfl⟩ : ∃ K', K = K' + 3 := ⟨K - 3, by omega⟩
  refine CV_V o_llaw_unfold (d_llaw_unfold C) ?_
  have m1 := R.d
  obtain ⟨ai, hf1, hf2, hf3, hf4⟩ := hf
  simp only [List.length_append, List.length_cons, List.length_nil] at hK hR
  walk_at "w"
  refine eq_curly (.cur t row h nm n u hh ⟨ai, hf1, hf2, hf3, hf4⟩) (E := E) (v := false) (eqv_s _ _) ?_
  walk_at "w"
  refine name_spec' H R hf1 hf2 hB ?_
  walk_at "w"
  refine text_spec' H R ⟨hf3, hf4⟩ hB ?_
  walk_at "w"
  refine ih (by omega) (by omega) H R fun c σ₁ H₁ => ?_
  walk_at "w"
  walk_at "addl"
  walk_at "w"
  walk_at "addl"
  walk_at "w"
  refine BV_le_t hh ?_
  walk_at "w"
  exact q _ _ (by walk_at "fin")
theorem unf_call (hB : B.size ≤ 100000) (f n : Int) (ts : List MV) (ps : List (List MV × Int)) (h1 : ts ≠ []) (h2 : ts.length = ps.length) (h3 : f ≠ 9) (h4 : B.fname f (sc "f") n) (h5 : ∀ (i : Nat) (t : MV) (p : List MV × Int), ts[i]? = some t → ps[i]? = some p → Un B E t p.1 p.2) (h6 : ∀ p ∈ ps, okArg p.2) (ih : ∀ (i : Nat) (t : MV) (p : List MV × Int), ts[i]? = some t → ps[i]? = some p → UnfS C b B a kp ki ko t p.1 p.2) : UnfS C b B a kp ki ko (sT f ts) ([.str (sc "f"), .str (sc "(")] ++ J ps ++ [.str (sc ")")]) 0 := by
  intro K σ l X Q hK hR H R q
  obtain ⟨K, rfl⟩ : ∃ K', K = K' + 4 := ⟨K - 4, by omega⟩
  refine CV_V o_llaw_unfold (d_llaw_unfold C) ?_
  have m1 := R.d
  have u := Un.call f n ts ps h1 h2 h3 h4 h5 h6
  obtain ⟨ai, hf1, hf2, hf3, hf4⟩ := h4
  obtain ⟨t0, ts, rfl⟩ := List.exists_cons_of_ne_nil h1
  obtain ⟨p0, ps, rfl⟩ : ∃ p0 ps', ps = p0 :: ps' := by
    cases ps with
    | nil => simp at h2
    | cons a b => exact ⟨_, _, rfl⟩
  simp only [List.length_append, List.length_cons, List.length_nil] at hK hR h2
  have hJ : ∀ i, (J ((p0 :: ps).take i)).length + (if h : i < (p0 :: ps).length then ((p0 :: ps)[i]).1.length + 1 else 0) ≤ (J (p0 :: ps)).length + 1 := J_take _
  walk_at "w"
  refine eq_curly u (v := false) (eqv_s _ _) ?_
  walk_at "w"
  refine name_spec' H R hf1 hf2 hB ?_
  walk_at "w"
  refine text_spec' H R ⟨hf3, hf4⟩ hB ?_
  walk_at "w"
  have hj0 := hJ 0
  rw [dif_pos (by simp)] at hj0
  simp only [List.take_zero, J, List.length_nil, List.getElem_cons_zero] at hj0
  refine ih 0 t0 p0 rfl rfl (by omega) (by omega) H R fun c σ₁ H₁ => ?_
  walk_at "w"
  refine BV_eqi_f h3 ?_
  walk_at "w"
  refine ok_or (h6 p0 (by simp)) (fun hv q' => ?_) ?_
  · walk_at "w"; refine BV_eqi_t hv ?_; exact q'
  walk_at "w"
  walk_at "addl"
  walk_at "w"
  refine EV_tupFromA ?_
  refine vE_in o_llaw_unfold ?_
  walk_at "w"
  have hts : ts.length ≤ (J (p0 :: ps)).length := by
    have := J_ge (p0 :: ps) (fun p hp => by
      obtain ⟨i, hi, rfl⟩ := List.getElem_of_mem hp
      exact (h5 i _ _ (List.getElem?_eq_getElem (by simp only [List.length_cons] at hi ⊢; omega)) (List.getElem?_eq_getElem hi)).ne)
    simp only [List.length_cons] at this; omega
  refine ⟨_, rfl, by omega, by simp, by simp only [List.length_cons]; omega, ?_⟩
  walk_at "w"
  refine ForT (k := K + 1) (xs := ts) (fun i ρ σ => ∃ c hh, Has σ ((c, .list ([.str (sc "f"), .str (sc "(")] ++ J ((p0 :: ps).take (i + 1)))) :: l) ∧ (ρ = lpE b a (sT f (t0 :: ts)) c hh ∨ ∃ v w, ρ = lpG b a (sT f (t0 :: ts)) c hh v w)) ⟨_, _, by rw [show J ((p0 :: ps).take (0 + 1)) = p0.1 from rfl]; walk_at "fin", .inl rfl⟩ ?_ ?_
  · rintro i y ρ' σ' hy ⟨c, hh, HI, hρ⟩
    have hi : i < ps.length := by have := (List.getElem?_eq_some_iff.mp hy).1; omega
    have hp : (p0 :: ps)[i + 1]? = some ps[i] := by rw [List.getElem?_cons_succ]; exact List.getElem?_eq_getElem hi
    have hj := hJ (i + 1)
    rw [dif_pos (by simp; omega)] at hj
    simp only [List.getElem_cons_succ] at hj
    have hok := h6 ps[i] (.tail _ (List.getElem_mem hi))
    have hJs : [.str (sc "f"), .str (sc "(")] ++ J ((p0 :: ps).take (i + 1)) ++ [.str (sc ",")] ++ ps[i].1 = [.str (sc "f"), .str (sc "(")] ++ J ((p0 :: ps).take (i + 1 + 1)) := by
      rw [show (p0 :: ps).take (i + 1 + 1) = (p0 :: ps).take (i + 1) ++ [ps[i]] by rw [List.take_add_one (i := i + 1), hp]; rfl, J_snoc (by simp)]
      simp only [List.append_assoc]
    have RI := R.cons (c, .list ([.str (sc "f"), .str (sc "(")] ++ J ((p0 :: ps).take (i + 1))))
    generalize (p0 :: ps).take (i + 1) = pi at *
    rcases hρ with rfl | ⟨v, w, rfl⟩
    · walk_at "w"
      refine vS_in o_llaw_unfold ?_
      walk_at "w"
      refine ih (i + 1) y ps[i] hy hp (by omega) (by omega) HI RI fun c2 σ₂ H₂ => ?_
      walk_at "w"
      walk_at "addl"
      walk_at "w"
      walk_at "addl"
      walk_at "w"
      refine ok_or hok (fun hv q' => ?_) ?_
      · walk_at "w"; refine BV_eqi_t hv ?_; exact q'
      walk_at "w"
      exact ⟨_, _, by rw [← hJs]; walk_at "fin", .inr ⟨_, _, rfl⟩⟩
    · walk_at "w"
      refine vS_in o_llaw_unfold ?_
      walk_at "w"
      refine ih (i + 1) y ps[i] hy hp (by omega) (by omega) HI RI fun c2 σ₂ H₂ => ?_
      walk_at "w"
      walk_at "addl"
      walk_at "w"
      walk_at "addl"
      walk_at "w"
      refine ok_or hok (fun hv q' => ?_) ?_
      · walk_at "w"; refine BV_eqi_t hv ?_; exact q'
      walk_at "w"
      exact ⟨_, _, by rw [← hJs]; walk_at "fin", .inr ⟨_, _, rfl⟩⟩
  · rintro ρ' σ' ⟨c, hh, HI, hρ⟩
    rw [List.take_of_length_le (by simp only [List.length_cons]; omega)] at HI
    rcases hρ with rfl | ⟨v, w, rfl⟩
    · walk_at "w"
      walk_at "addl"
      walk_at "w"
      exact q _ _ (by walk_at "fin")
    · walk_at "w"
      walk_at "addl"
      walk_at "w"
      exact q _ _ (by walk_at "fin")
theorem unf_inf (eo : EOk E kp ki ko) (hB : B.size ≤ 100000) (f n : Int) (nm : Str) (x y : MV) (e : En) (row tail : List MV) (hl hr : Int) (h1 : f ≠ 9) (h2 : nm ≠ sc "f") (h3 : B.fname f nm n) (h4 : E.inf nm = some e) (h5 : Un B E x row hl) (h6 : Un B E y tail hr) (h7 : hl ≤ e.t.sl e.p) (h8 : hr ≤ e.t.sr e.p) (i1 : UnfS C b B a kp ki ko x row hl) (i2 : UnfS C b B a kp ki ko y tail hr) : UnfS C b B a kp ki ko (sT f [x, y]) (row ++ [.str nm] ++ tail) e.p := by
  intro K σ l X Q hK hR H R q
  obtain ⟨K, rfl⟩ : ∃ K', K = K' + 4 := ⟨K - 4, by omega⟩
  refine CV_V o_llaw_unfold (d_llaw_unfold C) ?_
  have m1 := R.d
  have m2 := R.e
  have m3 := R.p
  have m4 := R.i
  have m5 := R.o
  obtain ⟨ai, hf1, hf2, hf3, hf4⟩ := h3
  simp only [List.length_append, List.length_cons, List.length_nil] at hK hR
  walk_at "w"
  refine eq_curly (.inf f n nm x y e row tail hl hr h1 h2 ⟨ai, hf1, hf2, hf3, hf4⟩ h4 h5 h6 h7 h8) (E := E) (v := false) (eqv_s _ _) ?_
  walk_at "w"
  refine name_spec' H R hf1 hf2 hB ?_
  walk_at "w"
  refine text_spec' H R ⟨hf3, hf4⟩ hB ?_
  walk_at "w"
  refine i1 (by omega) (by omega) H R fun c σ₁ H₁ => ?_
  have R₁ := R.cons (c, .list row)
  walk_at "w"
  refine BV_eqi_f h1 ?_
  walk_at "w"
  refine BV_eqs_f h2 ?_
  walk_at "w"
  refine OpC_len_tup (by simp) ?_
  walk_at "w"
  refine BV_eqi_t rfl ?_
  walk_at "w"
  walk_at "dS"
  case h => exact lookK_2 _ _ _
  walk_at "w"
  walk_at "dS"
  case h => exact (eo.i nm).trans (by rw [h4]; rfl)
  walk_at "w"
  refine i2 (by omega) (by omega) H₁ R₁ fun c2 σ₂ H₂ => ?_
  walk_at "w"
  refine sides_spec ?_
  walk_at "w"
  walk_at "addl"
  walk_at "w"
  walk_at "addl"
  walk_at "w"
  refine BV_le_t h7 ?_
  walk_at "w"
  refine BV_le_t h8 ?_
  walk_at "w"
  exact q _ _ (by walk_at "fin")
theorem unf_post (eo : EOk E kp ki ko) (hB : B.size ≤ 100000) (f n : Int) (t : MV) (e : En) (row : List MV) (h : Int) (h1 : f ≠ 9) (h2 : B.fname f (sc "q") n) (h3 : E.post (sc "q") = some e) (u : Un B E t row h) (h5 : h ≤ e.t.sl e.p) (ih : UnfS C b B a kp ki ko t row h) : UnfS C b B a kp ki ko (sT f [t]) (row ++ [.str (sc "q")]) e.p := by
  intro K σ l X Q hK hR H R q
  obtain ⟨K, rfl⟩ : ∃ K', K = K' + 4 := ⟨K - 4, by omega⟩
  refine CV_V o_llaw_unfold (d_llaw_unfold C) ?_
  have m1 := R.d
  have m2 := R.e
  have m3 := R.p
  have m4 := R.i
  have m5 := R.o
  obtain ⟨ai, hf1, hf2, hf3, hf4⟩ := h2
  simp only [List.length_append, List.length_cons, List.length_nil] at hK hR
  walk_at "w"
  refine eq_curly (.post f n t e row h h1 ⟨ai, hf1, hf2, hf3, hf4⟩ h3 u h5) (E := E) (v := false) (eqv_s _ _) ?_
  walk_at "w"
  refine name_spec' H R hf1 hf2 hB ?_
  walk_at "w"
  refine text_spec' H R ⟨hf3, hf4⟩ hB ?_
  walk_at "w"
  refine ih (by omega) (by omega) H R fun c σ₁ H₁ => ?_
  have R₁ := R.cons (c, .list row)
  walk_at "w"
  refine BV_eqi_f h1 ?_
  walk_at "w"
  refine OpC_len_tup (by simp) ?_
  walk_at "w"
  refine BV_eqi_f (by simp) ?_
  walk_at "w"
  walk_at "dS"
  case h => exact lookK_3 _ _ _
  walk_at "w"
  walk_at "dS"
  case h => exact (eo.o _).trans (by rw [h3]; rfl)
  walk_at "w"
  walk_at "addl"
  walk_at "w"
  refine sides_spec ?_
  walk_at "w"
  refine BV_le_t h5 ?_
  walk_at "w"
  exact q _ _ (by walk_at "fin")
theorem unf_pre (eo : EOk E kp ki ko) (hB : B.size ≤ 100000) (f n : Int) (nm : Str) (t : MV) (e : En) (row : List MV) (h : Int) (h1 : f ≠ 9) (h2 : nm ≠ sc "f") (h3 : nm ≠ sc "q") (h4 : B.fname f nm n) (h5 : E.pre nm = some e) (u : Un B E t row h) (h7 : h ≤ e.t.sr e.p) (ih : UnfS C b B a kp ki ko t row h) : UnfS C b B a kp ki ko (sT f [t]) ([.str nm] ++ row) e.p := by
  intro K σ l X Q hK hR H R q
  obtain ⟨K, rfl⟩ : ∃ K', K = K' + 4 := ⟨K - 4, by omega⟩
  refine CV_V o_llaw_unfold (d_llaw_unfold C) ?_
  have m1 := R.d
  have m2 := R.e
  have m3 := R.p
  have m4 := R.i
  have m5 := R.o
  obtain ⟨ai, hf1, hf2, hf3, hf4⟩ := h4
  simp only [List.length_append, List.length_cons, List.length_nil] at hK hR
  walk_at "w"
  refine eq_curly (.pre f n nm t e row h h1 h2 h3 ⟨ai, hf1, hf2, hf3, hf4⟩ h5 u h7) (E := E) (v := false) (eqv_s _ _) ?_
  walk_at "w"
  refine name_spec' H R hf1 hf2 hB ?_
  walk_at "w"
  refine text_spec' H R ⟨hf3, hf4⟩ hB ?_
  walk_at "w"
  refine ih (by omega) (by omega) H R fun c σ₁ H₁ => ?_
  have R₁ := R.cons (c, .list row)
  walk_at "w"
  refine BV_eqi_f h1 ?_
  walk_at "w"
  refine BV_eqs_f h2 ?_
  walk_at "w"
  refine OpC_len_tup (by simp) ?_
  walk_at "w"
  refine BV_eqi_f (by simp) ?_
  walk_at "w"
  refine BV_eqs_f h3 ?_
  walk_at "w"
  walk_at "dS"
  case h => exact lookK_1 _ _ _
  walk_at "w"
  walk_at "dS"
  case h => exact (eo.p _).trans (by rw [h5]; rfl)
  walk_at "w"
  walk_at "addl"
  walk_at "w"
  refine sides_spec ?_
  walk_at "w"
  refine BV_le_t h7 ?_
  walk_at "w"
  exact q _ _ (by walk_at "fin")
theorem unfold_spec (eo : EOk E kp ki ko) (hB : B.size ≤ 100000) {t : MV} {row : List MV} {h : Int} (u : Un B E t row h) : UnfS C b B a kp ki ko t row h := by
  induction u with
  | c0 => exact unf_c0 hB
  | num i => exact unf_num hB i
  | «at» i nm hi htx => exact unf_at hB i nm hi htx
  | cur t row h nm n u hh hf ih => exact unf_cur (E := E) hB t row h nm n u hh hf ih
  | call f n ts ps h1 h2 h3 h4 h5 h6 ih => exact unf_call (E := E) hB f n ts ps h1 h2 h3 h4 h5 h6 ih
  | inf f n nm x y e row tail hl hr h1 h2 h3 h4 h5 h6 h7 h8 i1 i2 => exact unf_inf eo hB f n nm x y e row tail hl hr h1 h2 h3 h4 h5 h6 h7 h8 i1 i2
  | post f n t e row h h1 h2 h3 u h5 ih => exact unf_post eo hB f n t e row h h1 h2 h3 u h5 ih
  | pre f n nm t e row h h1 h2 h3 h4 h5 u h7 ih => exact unf_pre eo hB f n nm t e row h h1 h2 h3 h4 h5 u h7 ih
end
theorem mem_frL {f : Fr0} : ∀ {fs : List Fr0} {r : List (Addr × MObj)}, f ∈ fs → (f.d, .ns (frNs f)) ∈ frL fs r ∧ (f.it, .list f.items) ∈ frL fs r
  | g :: gs, r, h => by
    rcases List.mem_cons.mp h with rfl | h
    · exact ⟨.head _, .tail _ (.head _)⟩
    · obtain ⟨a, b⟩ := mem_frL (r := r) h
      exact ⟨.tail _ (.tail _ a), .tail _ (.tail _ b)⟩
theorem frMVs_rev : ∀ fs : List Fr0, frMVs fs = fs.reverse.map Fr0.mv
  | [] => rfl
  | f :: fs => by rw [frMVs, frMVs_rev fs, List.reverse_cons, List.map_append]; rfl
/-- what the law's reader of a state looks at -/
structure SdL (l : List (Addr × MObj)) (w : Wd) (B : Bk) (p : PS) (fs : List Fr0) (ts : List Tk) (tk : Addr) (a : EA) (kp ki ko : List (Str × MV)) : Prop where
  rd : RdL l w.b B a kp ki ko
  par : (w.a.d, .ns (parNs w.b w.op w.a p)) ∈ l
  fr : (w.a.fr, .list (frMVs fs)) ∈ l
  fs : ∀ f ∈ fs, (f.d, .ns (frNs f)) ∈ l ∧ (f.it, .list f.items) ∈ l
  tk : (tk, .list (ts.map Tk.mv)) ∈ l
theorem SdL.cons {l : List (Addr × MObj)} {w : Wd} {B : Bk} {p : PS} {fs : List Fr0} {ts : List Tk} {tk : Addr} {a : EA} {kp ki ko : List (Str × MV)} (h : SdL l w B p fs ts tk a kp ki ko) (x : Addr × MObj) : SdL (x :: l) w B p fs ts tk a kp ki ko :=
  ⟨h.rd.cons x, .tail _ h.par, .tail _ h.fr, fun f hf => ⟨.tail _ (h.fs f hf).1, .tail _ (h.fs f hf).2⟩, .tail _ h.tk⟩
noncomputable abbrev sdE (w : Wd) (a : EA) (tk : Addr) (st : Int) (row : Addr) (most : Int) : Env1 := [(Str.ofString "book", w.b.mv), (Str.ofString "entries", MV.ref a.e), (Str.ofString "parser", w.a.mv), (Str.ofString "tokens", MV.ref tk), (Str.ofString "state", MV.int st), (Str.ofString "row", MV.ref row), (Str.ofString "most", MV.int most)]
noncomputable abbrev sdF (w : Wd) (a : EA) (tk : Addr) (st : Int) (row : Addr) (most : Int) (v : MV) : Env1 := [(Str.ofString "book", w.b.mv), (Str.ofString "entries", MV.ref a.e), (Str.ofString "parser", w.a.mv), (Str.ofString "tokens", MV.ref tk), (Str.ofString "state", MV.int st), (Str.ofString "row", MV.ref row), (Str.ofString "most", MV.int most), (Str.ofString "frame", v)]
theorem Jc_take (ps : List (List MV × Int)) (i : Nat) : (Jc (ps.take i)).length ≤ (Jc ps).length := by
  have : Jc ps = Jc (ps.take i) ++ Jc (ps.drop i) := by unfold Jc; rw [← List.flatMap_append, List.take_append_drop]
  rw [this, List.length_append]; omega
section
variable {C : Cx} {k : Nat} {f : FI} {ρ : Env1} {σ : Sto} {X : ExcP} {Q : MV → Sto → Prop} {l l' : List (Addr × MObj)} {w : Wd} {B : Bk} {p : PS} {fs : List Fr0} {ts : List Tk} {tk : Addr} {a : EA} {kp ki ko : List (Str × MV)} {E : Es}
theorem BV_nei_f {x y : Int} (h : x = y) (q : Q (.bool false) σ) : BV C k (compareOp .NotEq) (.int x) (.int y) σ Q X := BV_ne_int (by rw [h]; simpa using q)
theorem BV_nes_f {x y : Str} (h : x = y) (q : Q (.bool false) σ) : BV C k (compareOp .NotEq) (.str x) (.str y) σ Q X := BV_ne_str (by rw [h]; simpa using q)
theorem BV_gt_t {x y : Int} (h : y < x) (q : Q (.bool true) σ) : BV C k (compareOp .Gt) (.int x) (.int y) σ Q X := BV_gt_int (by rw [decide_eq_true h]; exact q)
theorem BV_gt_f {x y : Int} (h : ¬ y < x) (q : Q (.bool false) σ) : BV C k (compareOp .Gt) (.int x) (.int y) σ Q X := BV_gt_int (by rw [decide_eq_false h]; exact q)
noncomputable def forBody : Stmt → List Stmt
  | .For _ _ b _ _ => b
  | _ => []
noncomputable def nthS (b : List Stmt) (i : Nat) : Stmt := (b[i]?).getD (.Pass ⟨0, 0, 0, 0⟩)
theorem ok_and {v : Int} {Q : KB} (h : okArg v) (hb : v = 1201 → Q false σ → Q true σ) (q : Q false σ) : BV C k (compareOp .Gt) (.int v) (.int 999) σ (kB Q) X := by
  rcases h with h | h
  · exact BV_gt_f (by omega) q
  · exact BV_gt_t (by omega) (hb h q)
/-- one turn over the frames -/
theorem frame_turn (eo : EOk E kp ki ko) (K : EsOk E) (hB : B.size ≤ 100000) {g : Fr0} {st most m : Int} {row piece : List MV} {r : Addr} (P : FrP B E most g piece m) (hR : row.length + piece.length ≤ 100)
    (H : Has σ ((r, .list row) :: l)) (S : SdL l w B p fs ts tk a kp ki ko) (hg : g ∈ fs) {b : List Stmt} {QS : MF → Env1 → Sto → Prop} (hb : b = forBody (nthS (bodO (fnS pw_sa0154_01 47)) 2))
    (q : ∀ σ', Has σ' ((r, .list (row ++ piece)) :: l) → QS .next (sdE w a tk st r m) σ') :
    SV C (k + 110) f_llaw_sound b (sdF w a tk st r most g.mv) σ QS NoXS := by
  subst hb
  refine SV_drop ?_
  have m1 := S.rd.d
  have m2 := S.rd.e
  have m3 := S.rd.p
  have m4 := S.rd.i
  obtain ⟨m5, m6⟩ := S.fs g hg
  obtain ⟨go, gd, git, gk, gl, gf, gn, gp, gleft, gi⟩ := g
  cases P with
  | cur hk hl =>
    dsimp only at hk hl m5 m6
    subst hk hl
    dsimp only [frNs] at m5
    dsimp only [Fr0.mv, sdF]
    refine vS_in o_llaw_sound ?_
    walk_at "w"
    refine BV_nei_f rfl ?_
    walk_at "w"
    walk_at "lst"
    walk_at "w"
    walk_at "app"
    case hb => omega
    intro σ₁ H₁
    walk_at "w"
    refine ⟨sdE w a tk st r 1200, by walk_at "sub", q σ₁ H₁⟩
  | args ps hk hl hn hi hu ho =>
    dsimp only at hk hl m5 m6 hi hu
    subst hk hl
    dsimp only [frNs] at m5
    dsimp only [Fr0.mv, sdF]
    refine vS_in o_llaw_sound ?_
    walk_at "w"
    refine BV_nei_f rfl ?_
    walk_at "w"
    walk_at "iadd"
    walk_at "w"
    rename_i σx Hx
    have hJl := Jc_len ps
    simp only [List.length_append, List.length_cons, List.length_nil] at hR
    refine ForL (k := k + 108) (xs := gi) (fun i ρ σ => ρ = sdF w a tk st r gl (.inst 309 go gd) ∧ Has σ ((r, .list (row ++ [.str (sc "f"), .str (sc "(")] ++ Jc (ps.take i))) :: l)) ?_ ⟨rfl, ?_⟩ ?_ ?_
    · rintro i ρ' σ' ⟨_, HI⟩
      exact HI.get (.tail _ m6)
    · rw [show Jc (List.take 0 ps) = [] from rfl, List.append_nil]; walk_at "fin"
    · rintro i y ρ' σ' hy ⟨rfl, HI⟩
      have hlt : i < ps.length := by have := (List.getElem?_eq_some_iff.mp hy).1; omega
      have hp : ps[i]? = some ps[i] := List.getElem?_eq_getElem hlt
      have hu1 := hu i y ps[i] hy hp
      have hok := ho ps[i] (List.getElem_mem hlt)
      have hJs : Jc (ps.take (i + 1)) = Jc (ps.take i) ++ (ps[i].1 ++ [.str (sc ",")]) := by
        rw [List.take_add_one, hp, Option.toList_some, Jc_snoc, List.append_assoc]
      have hJ2 := Jc_take ps (i + 1)
      rw [hJs] at hJ2
      simp only [List.length_append, List.length_cons, List.length_nil] at hJ2
      have R₁ := S.rd.cons (r, .list (row ++ [.str (sc "f"), .str (sc "(")] ++ Jc (ps.take i)))
      walk_at "w"
      refine SV_drop ?_
      refine vS_in o_llaw_sound ?_
      walk_at "w"
      refine unfold_spec eo hB hu1 (by omega) (by omega) HI R₁ fun c σ₁ H₁ => ?_
      walk_at "w"
      refine ok_and hok (fun hv q' => ?_) ?_
      · walk_at "w"; refine BV_nei_f hv ?_; exact q'
      walk_at "w"
      walk_at "addl"
      walk_at "w"
      walk_at "iadd"
      walk_at "w"
      refine ⟨_, ?_, rfl, by rw [hJs, ← List.append_assoc]; walk_at "fin"⟩
      walk_at "sub"
    · rintro ρ' σ' ⟨rfl, HI⟩
      rw [List.take_of_length_le (by omega)] at HI
      walk_at "w"
      refine ⟨sdE w a tk st r 999, by walk_at "sub", q _ ?_⟩
      rw [← List.append_assoc]; exact HI
  | pre nm e hk hl hleft hf he hp hm =>
    dsimp only at hk hl m5 m6 hleft hf hp
    subst hk hl hleft hp
    dsimp only [frNs] at m5
    dsimp only [Fr0.mv, sdF]
    refine vS_in o_llaw_sound ?_
    obtain ⟨ai, hf1, hf2, hf3, hf4⟩ := hf
    have R₁ := S.rd.cons (r, .list row)
    walk_at "w"
    refine BV_nei_f rfl ?_
    walk_at "w"
    refine name_spec' H R₁ hf1 hf2 hB ?_
    walk_at "w"
    refine text_spec' H R₁ ⟨hf3, hf4⟩ hB ?_
    walk_at "w"
    walk_at "dS"
    case h => exact lookK_1 _ _ _
    walk_at "w"
    refine ⟨_, rfl, .inr ⟨_, H.get (.tail _ m3)⟩, ?_⟩
    walk_at "w"
    refine OpC_get2_S (H.get (.tail _ m3)) ?_
    rw [show (lookK kp nm).getD (.tup [.int 9999, .str (Str.ofString "xfx")]) = e.mv by rw [eo.p, he]; rfl]
    walk_at "w"
    refine BV_nes_f rfl ?_
    walk_at "w"
    refine BV_nei_f rfl ?_
    walk_at "w"
    refine BV_gt_f (by omega) ?_
    walk_at "w"
    walk_at "lst"
    walk_at "w"
    walk_at "app"
    case hb => omega
    intro σ₁ H₁
    walk_at "w"
    refine sides_spec ?_
    walk_at "w"
    refine ⟨sdE w a tk st r (e.t.sr e.p), by walk_at "sub", q _ H₁⟩
  | inf nm e part h hk hl hu hh hf he hp hm =>
    obtain ⟨xs, hxs⟩ := hu.tup
    dsimp only at hk hl m5 m6 hu hf hp hxs
    subst hk hl hxs hp
    dsimp only [frNs] at m5
    dsimp only [Fr0.mv, sdF]
    refine vS_in o_llaw_sound ?_
    simp only [List.length_append, List.length_cons, List.length_nil] at hR
    obtain ⟨ai, hf1, hf2, hf3, hf4⟩ := hf
    have R₁ := S.rd.cons (r, .list row)
    walk_at "w"
    refine BV_nei_f rfl ?_
    walk_at "w"
    refine name_spec' H R₁ hf1 hf2 hB ?_
    walk_at "w"
    refine text_spec' H R₁ ⟨hf3, hf4⟩ hB ?_
    walk_at "w"
    walk_at "dS"
    case h => exact lookK_2 _ _ _
    walk_at "w"
    refine ⟨_, rfl, .inr ⟨_, H.get (.tail _ m4)⟩, ?_⟩
    walk_at "w"
    refine OpC_get2_S (H.get (.tail _ m4)) ?_
    rw [show (lookK ki nm).getD (.tup [.int 9999, .str (Str.ofString "xfx")]) = e.mv by rw [eo.i, he]; rfl]
    walk_at "w"
    refine BV_nes_f rfl ?_
    walk_at "w"
    refine BV_nei_f rfl ?_
    walk_at "w"
    refine BV_gt_f (by omega) ?_
    walk_at "w"
    refine unfold_spec eo hB hu (by omega) (by omega) H R₁ fun c σ₁ H₁ => ?_
    walk_at "w"
    refine sides_spec ?_
    walk_at "w"
    refine BV_gt_f (by omega) ?_
    walk_at "w"
    walk_at "iadd"
    walk_at "w"
    walk_at "lst"
    walk_at "w"
    walk_at "app"
    case hb => simp only [List.length_append]; omega
    intro σ₃ H₃
    walk_at "w"
    refine sides_spec ?_
    walk_at "w"
    refine ⟨sdE w a tk st r (e.t.sr e.p), by walk_at "sub", q _ ?_⟩
    rw [← List.append_assoc]; walk_at "fin"
end
theorem vals_fo {ts : List Tk} (K : TsOk ts) (n : Nat) : fos (vals ts n) = true := by
  have hf : ∀ l : List MV, (∀ t ∈ l, t.fo = true) → fos l = true := by
    intro l
    induction l with
    | nil => intro _; rfl
    | cons x r ih => intro g; rw [fos, g x (.head _), ih fun t e => g t (.tail _ e)]; rfl
  refine hf _ fun v hv => ?_
  obtain ⟨t, ht, rfl⟩ := List.mem_map.mp hv
  obtain ⟨i, hi, rfl⟩ := List.getElem_of_mem (List.mem_of_mem_take ht)
  have ht := List.getElem?_eq_getElem hi
  cases hk : ts[i].k with
  | num i => rfl
  | oct => kernel_rfl
  | eof => kernel_rfl
  | nam x =>
    have := K.nam _ _ _ ht hk
    unfold Names at this
    simp only [List.mem_cons, List.not_mem_nil, or_false] at this
    rcases this with rfl | rfl | rfl | rfl | rfl | rfl <;> kernel_rfl
  | pun x =>
    have := K.pun _ _ _ ht hk
    unfold Puns at this
    simp only [List.mem_cons, List.not_mem_nil, or_false] at this
    rcases this with rfl | rfl | rfl | rfl <;> kernel_rfl
theorem vals_atom {ts : List Tk} {n : Nat} {v : MV} (h : v ∈ vals ts n) : (∃ i, v = .int i) ∨ ∃ x, v = .str x := by
  obtain ⟨t, ht, rfl⟩ := List.mem_map.mp h
  cases t.k with
  | num i => exact .inl ⟨_, rfl⟩
  | _ => exact .inr ⟨_, rfl⟩
theorem depth_atoms : ∀ {l : List MV}, (∀ v ∈ l, (∃ i, v = .int i) ∨ ∃ x, v = .str x) → PyData.depthAll (dats l) ≤ 1
  | [], _ => by simp [dats, PyData.depthAll]
  | x :: r, h => by
    have h1 := depth_atoms (l := r) fun v hv => h v (.tail _ hv)
    rcases h x (.head _) with ⟨i, rfl⟩ | ⟨y, rfl⟩ <;> simp only [dats, MV.dat, PyData.depthAll, PyData.depth] <;> omega
theorem eqv_atoms : ∀ {l : List MV}, (∀ v ∈ l, (∃ i, v = .int i) ∨ ∃ x, v = .str x) → PyData.eqvAll (dats l) (dats l) = true
  | [], _ => by simp [dats, PyData.eqvAll]
  | x :: r, h => by
    have h1 := eqv_atoms (l := r) fun v hv => h v (.tail _ hv)
    rcases h x (.head _) with ⟨i, rfl⟩ | ⟨y, rfl⟩ <;> simp [dats, MV.dat, PyData.eqvAll, PyData.eqv, h1]
theorem Path.len {B : Bk} {E : Es} {R : List MV} {M : Int} {row : List MV} {m : Int} {gs : List Fr0} (h : Path B E R M row m gs) : row.length ≤ R.length := by
  induction h with
  | nil => omega
  | cons _ _ ih => rw [List.length_append] at ih; omega
section
variable {C : Cx} {k : Nat} {f : FI} {ρ : Env1} {σ : Sto} {X : ExcP} {Q : MV → Sto → Prop} {l l' : List (Addr × MObj)} {w : Wd} {B : Bk} {p : PS} {fs : List Fr0} {ts : List Tk} {tk : Addr} {a : EA} {kp ki ko : List (Str × MV)} {E : Es}
theorem sound_ret {st : Int} {r : Addr} {n : Nat} {XS : ExcS} (K : TsOk ts) (H : Has σ ((r, .list (vals ts n)) :: l)) (S : SdL l w B p fs ts tk a kp ki ko) (hn : p.place = (n : Int)) (hl : n ≤ ts.length) {QS : MF → Env1 → Sto → Prop}
    (q : ∀ ρ σ', Has σ' l → QS (.ret (.bool true)) ρ σ') : SV C (k + 110) f_llaw_sound (dropS 4 (bodO (fnS pw_sa0154_01 47))) (sdE w a tk st r p.limit) σ QS XS := by
  refine vS_in o_llaw_sound ?_
  have m1 := S.par
  have m2 := S.tk
  walk_at "w"
  refine BV_eqi_t rfl ?_
  walk_at "w"
  refine EV_CompItem (k := k + 108) 1 ?_ (fun _ _ => rfl) (by kernel_rfl) (by kernel_rfl) (by kernel_rfl) (by kernel_rfl)
  refine EV_sliceV o_llaw_sound ?_ (fun _ _ => rfl)
  walk_at "w"
  have hlen := K.len
  rw [hn]
  refine Sl_mk (H.get (.tail _ S.tk)) (by rw [List.length_map]; omega) H fun c σ₁ H₁ => ?_
  rw [slMV_take _ (by rw [List.length_map]; exact hl), ← List.map_take] at H₁
  refine ⟨c, _, vals ts n, rfl, H₁.get (.head _), by simp only [List.length_map, List.length_take]; omega, by simp [vals], ?_, fun d hd => ?_⟩
  · intro i y hy
    rw [List.getElem?_map] at hy
    obtain ⟨t, ht, rfl⟩ := Option.map_eq_some_iff.mp hy
    exact ⟨_, t.k.val, rfl, rfl, rfl, by unfold vals; rw [List.getElem?_map, ht]; rfl⟩
  · have H₂ := H₁.new (o := .list (vals ts n)) hd
    walk_at "w"
    refine BV_eq_list (H₂.get (.tail _ (.tail _ (.head _)))) (H₂.get (.head _)) (vals_fo K n) (vals_fo K n) ?_ ?_
    · have := depth_atoms fun v hv => vals_atom (ts := ts) (n := n) hv
      simp only [PyData.depth]; omega
    · rw [eqv_atoms fun v hv => vals_atom (ts := ts) (n := n) hv]
      walk_at "w"
      exact q _ _ (by walk_at "fin")
end
section
variable {C : Cx} {k : Nat} {f : FI} {ρ : Env1} {σ : Sto} {X : ExcP} {Q : MV → Sto → Prop} {l l' : List (Addr × MObj)} {w : Wd} {B : Bk} {p : PS} {fs : List Fr0} {ts : List Tk} {tk : Addr} {a : EA} {kp ki ko : List (Str × MV)} {E : Es}
theorem sound_spec {st : Int} {n : Nat} {row : List MV} (eo : EOk E kp ki ko) (KE : EsOk E) (hB : B.size ≤ 100000) (K : TsOk ts) (FR : FrOk B E fs row p.limit) (hn : p.place = (n : Int)) (hl : n ≤ ts.length)
    (hst : (st = 0 ∧ row = vals ts n) ∨ (st = 1 ∧ ∃ part h, Un B E p.term part h ∧ vals ts n = row ++ part ∧ p.prio = (if h = 1201 then 0 else h) ∧ p.prio ≤ p.limit))
    (H : Has σ l) (S : SdL l w B p fs ts tk a kp ki ko) (q : ∀ σ', Has σ' l → Q (.bool true) σ') : CV C (k + 111) (.ref 554) [w.b.mv, .ref a.e, w.a.mv, .ref tk, .int st] σ Q X := by
  have m1 := S.par
  have hvl := vals_len hl
  have hKl := K.len
  have hrl : row.length ≤ 100 := by
    rcases hst with ⟨_, e⟩ | ⟨_, part, h, _, e, _⟩
    · rw [e]; omega
    · have := congrArg List.length e; rw [List.length_append] at this; omega
  refine CV_Vc o_llaw_sound (d_llaw_sound C) 4 (by kernel_rfl) ?_
  walk_at "w"
  rename_i r σ₁ H₁
  have hfl := (FR.most KE).2
  refine ForL (k := k + 108) (xs := frMVs fs) (fun i ρ σ => ∃ Rw mo, ρ = sdE w a tk st r mo ∧ Has σ ((r, .list Rw) :: l) ∧ Path B E row p.limit Rw mo (fs.reverse.drop i)) ?_ ⟨[], 1200, rfl, H₁, FR.path⟩ ?_ ?_
  · rintro i ρ' σ' ⟨Rw, mo, _, HI, _⟩
    exact HI.get (.tail _ S.fr)
  · rintro i y ρ' σ' hy ⟨Rw, mo, rfl, HI, P⟩
    rw [frMVs_rev, List.getElem?_map] at hy
    obtain ⟨g, hg, rfl⟩ := Option.map_eq_some_iff.mp hy
    have hgl := (List.getElem?_eq_some_iff.mp hg).1
    have hd : fs.reverse.drop i = g :: fs.reverse.drop (i + 1) := by
      rw [List.drop_eq_getElem_cons hgl]
      congr 1
      exact Option.some.inj ((List.getElem?_eq_getElem hgl).symm.trans hg)
    rw [hd] at P
    cases P with
    | cons h1 h2 =>
    have hlen := h2.len
    rw [List.length_append] at hlen
    walk_at "w"
    exact frame_turn eo KE hB h1 (by omega) HI S (List.mem_reverse.mp (List.mem_of_getElem? hg)) rfl fun σ₂ H₂ => ⟨_, _, rfl, H₂, h2⟩
  · rintro ρ' σ' ⟨Rw, mo, rfl, HI, P⟩
    rw [frMVs_rev, List.length_map, List.drop_length] at P
    cases P
    rcases hst with ⟨rfl, rfl⟩ | ⟨rfl, part, h, hu, hrw, hpr, hpm⟩
    · walk_at "w"
      exact sound_ret K HI S hn hl fun ρ σ' h => q σ' h
    · walk_at "w"
      have hp1 : 1 ≤ part.length := hu.ne
      have hpl : row.length + part.length = n := by rw [← List.length_append, ← hrw]; exact hvl
      refine unfold_spec eo hB hu (by omega) (by omega) HI (S.rd.cons _) fun c σ₂ H₂ => ?_
      walk_at "w"
      have fin : ∀ σ₃, Has σ₃ ((c, .list part) :: (r, .list (row ++ part)) :: l) → Has σ₃ ((r, .list (vals ts n)) :: l) := fun σ₃ H₃ => by rw [hrw]; exact H₃.sub (.cons _ (List.Sublist.refl _))
      by_cases h1 : h = 1201
      · refine BV_eqi_t h1 ?_
        walk_at "w"
        refine BV_nei_f (by rw [hpr]; simp [h1]) ?_
        walk_at "w"
        refine BV_gt_f (by omega) ?_
        walk_at "w"
        walk_at "iadd"
        rename_i σ₃ H₃
        walk_at "w"
        refine SV_weak (ρ₀ := sdE w a tk 1 r p.limit) (by walk_at "sub") ?_
        exact sound_ret K (fin _ H₃) S hn hl fun ρ σ' h => q σ' h
      · refine BV_eqi_f h1 ?_
        walk_at "w"
        refine BV_nei_f (by rw [hpr]; simp [h1]) ?_
        walk_at "w"
        refine BV_gt_f (by omega) ?_
        walk_at "w"
        walk_at "iadd"
        rename_i σ₃ H₃
        walk_at "w"
        refine SV_weak (ρ₀ := sdE w a tk 1 r p.limit) (by walk_at "sub") ?_
        exact sound_ret K (fin _ H₃) S hn hl fun ρ σ' h => q σ' h
end

theorem noPylong (x : Int) : Builtin.divisionGoesByPylong x 96 = false := by
  unfold Builtin.divisionGoesByPylong
  have : decide (((if (96 : Int) == 0 then 0 else (96 : Int).natAbs.log2 / 30 + 1) : Nat) > 300) = false := by kernel_rfl
  simp only [this, Bool.false_and]
theorem fmod_bd {x y : Int} (h : 0 < y) : 0 ≤ x.fmod y ∧ x.fmod y < y := ⟨Int.fmod_nonneg_of_pos x h, Int.fmod_lt_of_pos x h⟩
noncomputable abbrev rowOk (fs : List Int) : Prop := ∀ x ∈ fs, 0 ≤ x ∧ x < 96
theorem rowOk.snoc {fs : List Int} (h : rowOk fs) (x : Int) : rowOk (fs ++ [x.fmod 96]) := by
  intro y hy
  rcases List.mem_append.mp hy with hy | hy
  · exact h y hy
  · rw [List.mem_singleton.mp hy]; exact fmod_bd (by decide)
theorem div_lt {x : Int} {n : Nat} (h0 : 0 ≤ x) (h : x < 96 ^ (n + 1)) : 0 ≤ x.fdiv 96 ∧ x.fdiv 96 < 96 ^ n := by
  rw [Int.fdiv_eq_ediv_of_nonneg x (by decide)]
  refine ⟨Int.ediv_nonneg h0 (by decide), Int.ediv_lt_of_lt_mul (by decide) ?_⟩
  rw [Int.pow_succ] at h; exact h
section
variable {C : Cx} {k : Nat} {f : FI} {ρ : Env1} {σ : Sto} {X : ExcP} {Q : MV → Sto → Prop} {l l' : List (Addr × MObj)}
noncomputable abbrev fgR (a r : Addr) (c : MV) (x : Int) : Env1 := [(Str.ofString "script", MV.ref a), (Str.ofString "wanted", MV.int 20), (Str.ofString "row", MV.ref r), (Str.ofString "cell", c), (Str.ofString "rest", MV.int x)]
noncomputable abbrev fgE (a r : Addr) : Env1 := [(Str.ofString "script", MV.ref a), (Str.ofString "wanted", MV.int 20), (Str.ofString "row", MV.ref r)]
theorem map_snoc (fs : List Int) (x : Int) : (fs ++ [x]).map MV.int = fs.map MV.int ++ [.int x] := by simp
theorem fig_ret {a r : Addr} {fs : List Int} (H : Has σ ((r, .list (fs.map .int)) :: l)) (hl : fs.length ≤ 100000) (hok : rowOk fs)
    (q : ∀ c figs σ', figs.length = 20 → rowOk figs → Has σ' ((c, .list (figs.map .int)) :: l) → Q (.ref c) σ') {m : Nat} {XS : ExcS} :
    (vf C (k + 9) f_llaw_figures (m + 30)).S (tL (tL (bodO (fnS pw_sa0154_01 43)))) (fgE a r) σ (FnQ Q) XS := by
  walk_at "w"
  refine EV_headA ?_
  refine vE_in o_llaw_figures ?_
  walk_at "w"
  refine mul_listH (n := 20) (by walk_at "sto") (by simp) (by decide) (by with_reducible assumption) fun c₂ σ₂ H₂ => ?_
  walk_at "w"
  refine add_listH (by walk_at "sto") (by walk_at "sto") (by rw [List.length_map, show (List.replicate 20 [MV.int 0]).flatten.length = 20 from rfl]; omega) (by with_reducible assumption) fun c₃ σ₃ H₃ => ?_
  refine vE_in o_llaw_figures ?_
  walk_at "w"
  refine ⟨c₃, _, 20, _, rfl, rfl, by walk_at "sto", ?_, H₃, fun c₄ σ₄ H₄ => ?_⟩
  · simp; omega
  · have hz : (List.replicate 20 [MV.int 0]).flatten = (List.replicate 20 (0 : Int)).map MV.int := rfl
    rw [hz, ← List.map_append, show (20 : Int) = ((20 : Nat) : Int) from rfl, slMV_take _ (by simp), ← List.map_take] at H₄
    refine q c₄ ((fs ++ List.replicate 20 0).take 20) σ₄ (by simp) ?_ (by walk_at "fin")
    intro x hx
    rcases List.mem_append.mp (List.mem_of_mem_take hx) with hx | hx
    · exact hok x hx
    · rw [List.eq_of_mem_replicate hx]; decide
theorem figures_spec {a : Addr} {xs : List Int} (H : Has σ l) (ha : ∃ vs, C.h₁.IsList a (List.toArray vs) ∧ ∀ g, VRs g (xs.map .int) vs) (hx : xs.length ≤ 1000)
    (q : ∀ c figs σ', figs.length = 20 → rowOk figs → Has σ' ((c, .list (figs.map .int)) :: l) → Q (.ref c) σ') : CV C (k + 10) (.ref 528) [.ref a, .int 20] σ Q X := by
  refine CV_V o_llaw_figures (d_llaw_figures C) ?_
  walk_at "w"
  rename_i r σ₁ H₁
  refine EV_headG ?_
  refine vE_in o_llaw_figures ?_
  walk_at "w"
  refine vE_in o_llaw_figures ?_
  walk_at "w"
  refine ⟨a, xs.map .int, 20, _, rfl, rfl, ha, by rw [List.length_map]; omega, H₁, fun c σ₂ H₂ => ?_⟩
  generalize hsl : slMV (xs.map .int) none (some 20) = ys at H₂
  have hy : ys.length ≤ 1000 ∧ ∀ y ∈ ys, ∃ i : Int, y = .int i := by
    rw [← hsl]
    refine ⟨?_, fun y hy => ?_⟩
    · unfold slMV; rw [List.length_take, List.length_drop, List.length_map]; omega
    · unfold slMV at hy
      obtain ⟨i, _, rfl⟩ := List.mem_map.mp (List.mem_of_mem_drop (List.mem_of_mem_take hy))
      exact ⟨i, rfl⟩
  walk_at "w"
  refine ForL (k := k + 7) (xs := ys) (fun i ρ σ => ρ = fgE a r ∧ ∃ fs : List Int, fs.length ≤ 24 * i ∧ rowOk fs ∧ Has σ ((c, .list ys) :: (r, .list (fs.map .int)) :: l)) ?_ ⟨rfl, [], by simp, (by intro x hx; cases hx), H₂⟩ ?_ ?_
  · rintro i ρ' σ' ⟨_, fs, _, _, HI⟩
    exact HI.get (.head _)
  · rintro i y ρ' σ' hyi ⟨rfl, fs, hfl, hok, HI⟩
    have hil := (List.getElem?_eq_some_iff.mp hyi).1
    obtain ⟨v, rfl⟩ := hy.2 y (List.mem_of_getElem? hyi)
    walk_at "w"
    refine SV_drop ?_
    refine vS_in o_llaw_figures ?_
    have hil' : i < 1000 := by omega
    walk_at "w"
    refine OpC_int ?_
    walk_at "w"
    refine BV_pow (by decide) (of_decide_eq_true (by kernel_rfl)) ?_
    have hP : (0 : Int) < 96 ^ (24 : Int).toNat := Int.pow_pos (by decide)
    walk_at "w"
    refine BV_mod (Int.ne_of_gt hP) ?_
    have hb := fmod_bd (x := v) hP
    generalize v.fmod (96 ^ (24 : Int).toNat) = rest at hb
    walk_at "w"
    walk_at "lst"
    walk_at "w"
    refine BV_mod (by decide) ?_
    walk_at "w"
    walk_at "app"
    case hb => rw [List.length_map]; omega
    intro σ₄ H₄
    walk_at "w"
    refine IV_fdiv (by decide) (noPylong _) ?_
    have hd := div_lt (n := 23) hb.1 hb.2
    walk_at "w"
    refine WhI (fun n ρ σ => ∃ (fs : List Int) (x : Int), ρ = fgR a r (.int v) x ∧ 0 ≤ x ∧ x < 96 ^ n ∧ fs.length + n ≤ 24 * (i + 1) ∧ rowOk fs ∧ Has σ ((c, .list ys) :: (r, .list (fs.map .int)) :: l)) 23 ⟨fs ++ [rest.fmod 96], _, rfl, hd.1, hd.2, by rw [List.length_append]; simp only [List.length_cons, List.length_nil]; omega, hok.snoc _, by rw [map_snoc]; exact H₄⟩ ?_
    rintro n ρ' σ' ⟨fs, x, rfl, hx0, hxn, hfl, hok, HI⟩
    refine vT_in o_llaw_figures ?_
    walk_at "w"
    by_cases hx : 0 < x
    · refine BV_gt_t hx ?_
      obtain ⟨n, rfl⟩ : ∃ n', n = n' + 1 := by
        cases n with
        | zero => rw [Int.pow_zero] at hxn; omega
        | succ n => exact ⟨n, rfl⟩
      have hd := div_lt hx0 hxn
      walk_at "w"
      refine vS_in o_llaw_figures ?_
      walk_at "w"
      walk_at "lst"
      walk_at "w"
      refine BV_mod (by decide) ?_
      walk_at "w"
      walk_at "app"
      case hb => rw [List.length_map]; omega
      intro σ₅ H₅
      walk_at "w"
      refine IV_fdiv (by decide) (noPylong _) ?_
      walk_at "w"
      exact ⟨n, Nat.lt_succ_self n, fs ++ [x.fmod 96], _, rfl, hd.1, hd.2, by rw [List.length_append]; simp only [List.length_cons, List.length_nil]; omega, hok.snoc _, by rw [map_snoc]; exact H₅⟩
    · refine BV_gt_f hx ?_
      walk_at "w"
      refine OpC_len_list (HI.get (.tail _ (.head _))) (by rw [List.length_map]; omega) ?_
      walk_at "w"
      refine BV_ge_int ?_
      rw [List.length_map]
      generalize decide ((20 : Int) ≤ (fs.length : Int)) = bb
      cases bb with
      | true =>
        refine ⟨fgE a r, by walk_at "sub", ?_⟩
        exact fig_ret (HI.sub (.cons _ (List.Sublist.refl _))) (by omega) hok q
      | false =>
        walk_at "w"
        exact ⟨_, by walk_at "sub", rfl, fs, by omega, hok, HI⟩
  · rintro ρ' σ' ⟨rfl, fs, hfl, hok, HI⟩
    have HI' : Has σ' ((r, .list (fs.map .int)) :: l) := HI.sub (.cons _ (List.Sublist.refl _))
    exact fig_ret HI' (by omega) hok q
end
/-! ### the law's tokens -/
structure TsP (ts : List Tk) : Prop where
  nam : ∀ (i : Nat) (t : Tk) x, ts[i]? = some t → t.k = .nam x → x ∈ Names
  pun : ∀ (i : Nat) (t : Tk) x, ts[i]? = some t → t.k = .pun x → x ∈ Puns
  eof : ∀ (i : Nat) (t : Tk), ts[i]? = some t → t.k ≠ .eof
  oct : ∀ i t, ts[i + 1]? = some t → t.k = .oct → ∃ u, ts[i]? = some u ∧ u.k = .nam (sc "f")
  oct0 : ∀ t, ts[0]? = some t → t.k ≠ .oct
  fun_ : ∀ i t, ts[i]? = some t → t.k = .nam (sc "f") → ∃ u, ts[i + 1]? = some u ∧ u.k = .oct
theorem TsP.nil : TsP [] := ⟨fun i t x h => (by simp at h), fun i t x h => (by simp at h), fun i t h => (by simp at h), fun i t h => (by simp at h), fun t h => (by simp at h), fun i t h => (by simp at h)⟩
theorem snoc_get {ts : List Tk} {u t : Tk} {i : Nat} (h : (ts ++ [u])[i]? = some t) : (i < ts.length ∧ ts[i]? = some t) ∨ (i = ts.length ∧ t = u) := by
  rcases Nat.lt_trichotomy i ts.length with hi | hi | hi
  · rw [List.getElem?_append_left hi] at h; exact .inl ⟨hi, h⟩
  · subst hi
    rw [List.getElem?_append_right (by omega), Nat.sub_self] at h
    cases h; exact .inr ⟨rfl, rfl⟩
  · rw [List.getElem?_eq_none (by rw [List.length_append]; simp; omega)] at h; cases h
theorem get_snoc {ts : List Tk} {u t : Tk} {i : Nat} (h : ts[i]? = some t) : (ts ++ [u])[i]? = some t := by
  rw [List.getElem?_append_left (List.getElem?_eq_some_iff.mp h).1]; exact h
theorem TsP.snoc {ts : List Tk} (h : TsP ts) {u : Tk} (h1 : ∀ x, u.k = .nam x → x ∈ Names) (h2 : ∀ x, u.k = .pun x → x ∈ Puns) (h3 : u.k ≠ .eof) (h4 : u.k ≠ .oct) (h5 : u.k ≠ .nam (sc "f")) : TsP (ts ++ [u]) where
  nam i t x hi hk := by rcases snoc_get hi with ⟨_, e⟩ | ⟨_, rfl⟩ <;> first | exact h.nam i t x e hk | exact h1 x hk
  pun i t x hi hk := by rcases snoc_get hi with ⟨_, e⟩ | ⟨_, rfl⟩ <;> first | exact h.pun i t x e hk | exact h2 x hk
  eof i t hi := by rcases snoc_get hi with ⟨_, e⟩ | ⟨_, rfl⟩ <;> first | exact h.eof i t e | exact h3
  oct i t hi hk := by
    rcases snoc_get hi with ⟨_, e⟩ | ⟨_, rfl⟩
    · obtain ⟨v, a, b⟩ := h.oct i t e hk; exact ⟨v, get_snoc a, b⟩
    · exact absurd hk h4
  oct0 t hi := by rcases snoc_get hi with ⟨_, e⟩ | ⟨_, rfl⟩ <;> first | exact h.oct0 t e | exact h4
  fun_ i t hi hk := by
    rcases snoc_get hi with ⟨_, e⟩ | ⟨_, rfl⟩
    · obtain ⟨v, a, b⟩ := h.fun_ i t e hk; exact ⟨v, get_snoc a, b⟩
    · exact absurd hk h5
theorem TsP.snocF {ts : List Tk} (h : TsP ts) (a b : Int) : TsP (ts ++ [⟨.nam (sc "f"), a⟩] ++ [⟨.oct, b⟩]) where
  nam i t x hi hk := by
    rcases snoc_get hi with ⟨_, e⟩ | ⟨_, rfl⟩
    · rcases snoc_get e with ⟨_, e⟩ | ⟨_, rfl⟩
      · exact h.nam i t x e hk
      · cases hk; decide
    · cases hk
  pun i t x hi hk := by
    rcases snoc_get hi with ⟨_, e⟩ | ⟨_, rfl⟩
    · rcases snoc_get e with ⟨_, e⟩ | ⟨_, rfl⟩
      · exact h.pun i t x e hk
      · cases hk
    · cases hk
  eof i t hi := by
    rcases snoc_get hi with ⟨_, e⟩ | ⟨_, rfl⟩
    · rcases snoc_get e with ⟨_, e⟩ | ⟨_, rfl⟩
      · exact h.eof i t e
      · intro z; cases z
    · intro z; cases z
  oct i t hi hk := by
    rcases snoc_get hi with ⟨_, e⟩ | ⟨e, rfl⟩
    · rcases snoc_get e with ⟨_, e⟩ | ⟨_, rfl⟩
      · obtain ⟨v, a, b⟩ := h.oct i t e hk; exact ⟨v, get_snoc (get_snoc a), b⟩
      · cases hk
    · refine ⟨⟨.nam (sc "f"), a⟩, ?_, rfl⟩
      have : i = ts.length := by rw [List.length_append] at e; simp at e; omega
      subst this
      refine get_snoc ?_
      rw [List.getElem?_append_right (by omega), Nat.sub_self]; rfl
  oct0 t hi := by
    rcases snoc_get hi with ⟨_, e⟩ | ⟨e, rfl⟩
    · rcases snoc_get e with ⟨_, e⟩ | ⟨_, rfl⟩
      · exact h.oct0 t e
      · intro z; cases z
    · rw [List.length_append] at e; simp at e
  fun_ i t hi hk := by
    rcases snoc_get hi with ⟨_, e⟩ | ⟨e, rfl⟩
    · rcases snoc_get e with ⟨_, e⟩ | ⟨e2, rfl⟩
      · obtain ⟨v, a, b⟩ := h.fun_ i t e hk; exact ⟨v, get_snoc (get_snoc a), b⟩
      · subst e2
        refine ⟨⟨.oct, b⟩, ?_, rfl⟩
        rw [List.getElem?_append_right (by simp)]; simp
    · cases hk
theorem TsP.fin {ts : List Tk} (h : TsP ts) (hl : ts.length ≤ 99) : TsOk (ts ++ [⟨.eof, 99⟩]) where
  len := by rw [List.length_append]; simp; omega
  ne := by simp
  last i t hi hk := by
    rcases snoc_get hi with ⟨hi, e⟩ | ⟨_, rfl⟩
    · rw [List.length_append]; simp; omega
    · exact absurd rfl hk
  nam i t x hi hk := by
    rcases snoc_get hi with ⟨_, e⟩ | ⟨_, rfl⟩
    · exact h.nam i t x e hk
    · cases hk
  pun i t x hi hk := by
    rcases snoc_get hi with ⟨_, e⟩ | ⟨_, rfl⟩
    · exact h.pun i t x e hk
    · cases hk
  oct i t hi hk := by
    rcases snoc_get hi with ⟨_, e⟩ | ⟨_, rfl⟩
    · obtain ⟨v, a, b⟩ := h.oct i t e hk; exact ⟨v, get_snoc a, b⟩
    · cases hk
  oct0 t hi := by
    rcases snoc_get hi with ⟨_, e⟩ | ⟨_, rfl⟩
    · exact h.oct0 t e
    · intro z; cases z
  fun_ i t hi hk := by
    rcases snoc_get hi with ⟨_, e⟩ | ⟨_, rfl⟩
    · obtain ⟨v, a, b⟩ := h.fun_ i t e hk; exact ⟨v, get_snoc a, b⟩
    · cases hk
noncomputable def sOf : MV → Str
  | .str x => x
  | _ => ⟨#[]⟩
noncomputable def Alpha : List Str := [sc "c", sc "u", sc "+", sc "w", sc "q", sc ",", sc "{", sc "}", sc ")", sc "5", sc "f"]
noncomputable abbrev opOk (op : List Str) : Prop := ∀ x ∈ op, x = sc ")" ∨ x = sc "}"
noncomputable abbrev tkE (fg tk oa : Addr) (b : Bool) : Env1 := [(Str.ofString "figures", MV.ref fg), (Str.ofString "tokens", MV.ref tk), (Str.ofString "opened", MV.ref oa), (Str.ofString "waiting", MV.bool b)]
noncomputable abbrev tkS (fg tk oa : Addr) (b : Bool) (i : Int) : Env1 := [(Str.ofString "figures", MV.ref fg), (Str.ofString "tokens", MV.ref tk), (Str.ofString "opened", MV.ref oa), (Str.ofString "waiting", MV.bool b), (Str.ofString "step", MV.int i)]
noncomputable abbrev tkB (fg tk oa : Addr) (b : Bool) (i : Int) (x : Str) : Env1 := [(Str.ofString "figures", MV.ref fg), (Str.ofString "tokens", MV.ref tk), (Str.ofString "opened", MV.ref oa), (Str.ofString "waiting", MV.bool b), (Str.ofString "step", MV.int i), (Str.ofString "sign", MV.str x)]
section
variable {C : Cx} {k : Nat} {f : FI} {ρ : Env1} {σ : Sto} {X : ExcP} {Q : MV → Sto → Prop} {l l' : List (Addr × MObj)}
theorem BV_in_v {vs : List MV} {x : Str} (b : Bool) (e : vs = (vs.map sOf).map MV.str) (h : ((vs.map sOf).any (· == x)) = b) (q : Q (.bool b) σ) : BV C k (compareOp .In) (.str x) (.tup vs) σ Q X := by
  rw [e]; exact BV_in_strs (by rw [h]; exact q)
theorem tok_snoc {ts : List Tk} {t : Tk} : (ts ++ [t]).map Tk.mv = ts.map Tk.mv ++ [t.mv] := by simp
theorem tokB_num {fg tk oa : Addr} {b : Bool} {i : Nat} {ts : List Tk} {op : List Str} (H : Has σ ((tk, .list (ts.map Tk.mv)) :: (oa, .list (op.map .str)) :: l)) (ht : TsP ts) (htl : ts.length ≤ 1000) (hol : op.length ≤ 1000) (hop : opOk op) {ss : List Stmt} {QS : MF → Env1 → Sto → Prop} (hb : ss = (forBody (nthS (bodO (fnS pw_sa0154_01 44)) 3)).drop 3)
    (q : ∀ ts' op' b' σ', TsP ts' → ts'.length ≤ ts.length + 2 → opOk op' → op'.length ≤ op.length + 1 → Has σ' ((tk, .list (ts'.map Tk.mv)) :: (oa, .list (op'.map .str)) :: l) → QS .next (tkE fg tk oa b') σ') :
    SV C (k + 8) f_llaw_tokens ss (tkB fg tk oa b i (sc "5")) σ QS NoXS := by
  subst hb
  refine SV_drop ?_
  dsimp only [tkB]
  refine vS_in o_llaw_tokens ?_
  walk_at "w"
  refine BV_mul (of_decide_eq_true (by kernel_rfl)) ?_
  walk_at "w"
  walk_at "lst"
  walk_at "w"
  walk_at "app"
  case hb => simp only [List.length_append, List.length_map, List.length_cons, List.length_nil]; omega
  intro σ1 H1
  walk_at "w"
  refine BV_in_v false rfl (by decide) ?_
  walk_at "w"
  refine BV_in_v false rfl (by decide) ?_
  walk_at "w"
  refine BV_in_v false rfl (by decide) ?_
  walk_at "w"
  refine ⟨tkE fg tk oa _, by walk_at "sub", q (ts ++ [⟨.num i, 4 * i⟩]) op _ _ ?_ (by simp only [List.length_append, List.length_cons, List.length_nil]; omega) hop (by omega) (by simp only [List.map_append, List.map_cons, List.map_nil]; exact H1)⟩
  exact ht.snoc (fun _ z => by cases z) (fun _ z => by cases z) (fun z => by cases z) (fun z => by cases z) (fun z => by cases z)
theorem tokB_open {fg tk oa : Addr} {b : Bool} {i : Nat} {ts : List Tk} {op : List Str} (H : Has σ ((tk, .list (ts.map Tk.mv)) :: (oa, .list (op.map .str)) :: l)) (ht : TsP ts) (htl : ts.length ≤ 1000) (hol : op.length ≤ 1000) (hop : opOk op) {ss : List Stmt} {QS : MF → Env1 → Sto → Prop} (hb : ss = (forBody (nthS (bodO (fnS pw_sa0154_01 44)) 3)).drop 3)
    (q : ∀ ts' op' b' σ', TsP ts' → ts'.length ≤ ts.length + 2 → opOk op' → op'.length ≤ op.length + 1 → Has σ' ((tk, .list (ts'.map Tk.mv)) :: (oa, .list (op'.map .str)) :: l) → QS .next (tkE fg tk oa b') σ') :
    SV C (k + 8) f_llaw_tokens ss (tkB fg tk oa b i (sc "{")) σ QS NoXS := by
  subst hb
  refine SV_drop ?_
  dsimp only [tkB]
  refine vS_in o_llaw_tokens ?_
  walk_at "w"
  refine BV_mul (of_decide_eq_true (by kernel_rfl)) ?_
  walk_at "w"
  refine BV_in_v true rfl (by decide) ?_
  walk_at "w"
  walk_at "lst"
  walk_at "w"
  walk_at "app"
  case hb => simp only [List.length_append, List.length_map, List.length_cons, List.length_nil]; omega
  intro σ1 H1
  walk_at "w"
  refine BV_in_v true rfl (by decide) ?_
  walk_at "w"
  walk_at "lst"
  walk_at "w"
  walk_at "app"
  case hb => simp only [List.length_append, List.length_map, List.length_cons, List.length_nil]; omega
  intro σ2 H2
  walk_at "w"
  refine BV_in_v true rfl (by decide) ?_
  walk_at "w"
  refine ⟨tkE fg tk oa _, by walk_at "sub", q (ts ++ [⟨.pun (sc "{"), 4 * i⟩]) (op ++ [sc "}"]) _ _ ?_ (by simp only [List.length_append, List.length_cons, List.length_nil]; omega) (by intro y hy; rcases List.mem_append.mp hy with hy | hy; exact hop y hy; rw [List.mem_singleton.mp hy]; exact .inr rfl) (by simp only [List.length_append, List.length_cons, List.length_nil]; omega) (by simp only [List.map_append, List.map_cons, List.map_nil]; exact H2)⟩
  exact ht.snoc (fun _ z => by cases z) (fun _ z => by cases z; decide) (fun z => by cases z) (fun z => by cases z) (fun z => by cases z)
theorem tokB_comma {fg tk oa : Addr} {b : Bool} {i : Nat} {ts : List Tk} {op : List Str} (H : Has σ ((tk, .list (ts.map Tk.mv)) :: (oa, .list (op.map .str)) :: l)) (ht : TsP ts) (htl : ts.length ≤ 1000) (hol : op.length ≤ 1000) (hop : opOk op) {ss : List Stmt} {QS : MF → Env1 → Sto → Prop} (hb : ss = (forBody (nthS (bodO (fnS pw_sa0154_01 44)) 3)).drop 3)
    (q : ∀ ts' op' b' σ', TsP ts' → ts'.length ≤ ts.length + 2 → opOk op' → op'.length ≤ op.length + 1 → Has σ' ((tk, .list (ts'.map Tk.mv)) :: (oa, .list (op'.map .str)) :: l) → QS .next (tkE fg tk oa b') σ') :
    SV C (k + 8) f_llaw_tokens ss (tkB fg tk oa b i (sc ",")) σ QS NoXS := by
  subst hb
  refine SV_drop ?_
  dsimp only [tkB]
  refine vS_in o_llaw_tokens ?_
  walk_at "w"
  refine BV_mul (of_decide_eq_true (by kernel_rfl)) ?_
  walk_at "w"
  refine BV_in_v true rfl (by decide) ?_
  walk_at "w"
  walk_at "lst"
  walk_at "w"
  walk_at "app"
  case hb => simp only [List.length_append, List.length_map, List.length_cons, List.length_nil]; omega
  intro σ1 H1
  walk_at "w"
  refine BV_in_v false rfl (by decide) ?_
  walk_at "w"
  refine BV_in_v false rfl (by decide) ?_
  walk_at "w"
  refine BV_in_v true rfl (by decide) ?_
  walk_at "w"
  refine ⟨tkE fg tk oa _, by walk_at "sub", q (ts ++ [⟨.pun (sc ","), 4 * i⟩]) op _ _ ?_ (by simp only [List.length_append, List.length_cons, List.length_nil]; omega) hop (by omega) (by simp only [List.map_append, List.map_cons, List.map_nil]; exact H1)⟩
  exact ht.snoc (fun _ z => by cases z) (fun _ z => by cases z; decide) (fun z => by cases z) (fun z => by cases z) (fun z => by cases z)
theorem tokB_fun {fg tk oa : Addr} {b : Bool} {i : Nat} {ts : List Tk} {op : List Str} (H : Has σ ((tk, .list (ts.map Tk.mv)) :: (oa, .list (op.map .str)) :: l)) (ht : TsP ts) (htl : ts.length ≤ 1000) (hol : op.length ≤ 1000) (hop : opOk op) {ss : List Stmt} {QS : MF → Env1 → Sto → Prop} (hb : ss = (forBody (nthS (bodO (fnS pw_sa0154_01 44)) 3)).drop 3)
    (q : ∀ ts' op' b' σ', TsP ts' → ts'.length ≤ ts.length + 2 → opOk op' → op'.length ≤ op.length + 1 → Has σ' ((tk, .list (ts'.map Tk.mv)) :: (oa, .list (op'.map .str)) :: l) → QS .next (tkE fg tk oa b') σ') :
    SV C (k + 8) f_llaw_tokens ss (tkB fg tk oa b i (sc "f")) σ QS NoXS := by
  subst hb
  refine SV_drop ?_
  dsimp only [tkB]
  refine vS_in o_llaw_tokens ?_
  walk_at "w"
  refine BV_mul (of_decide_eq_true (by kernel_rfl)) ?_
  walk_at "w"
  refine BV_in_v false rfl (by decide) ?_
  walk_at "w"
  walk_at "lst"
  walk_at "w"
  walk_at "app"
  case hb => simp only [List.length_append, List.length_map, List.length_cons, List.length_nil]; omega
  intro σ1 H1
  walk_at "w"
  walk_at "lst"
  walk_at "w"
  refine BV_add ?_
  walk_at "w"
  walk_at "app"
  case hb => simp only [List.length_append, List.length_map, List.length_cons, List.length_nil]; omega
  intro σ2 H2
  walk_at "w"
  refine BV_in_v true rfl (by decide) ?_
  walk_at "w"
  walk_at "lst"
  walk_at "w"
  walk_at "app"
  case hb => simp only [List.length_append, List.length_map, List.length_cons, List.length_nil]; omega
  intro σ3 H3
  walk_at "w"
  refine BV_in_v true rfl (by decide) ?_
  walk_at "w"
  refine ⟨tkE fg tk oa _, by walk_at "sub", q (ts ++ [⟨.nam (sc "f"), 4 * i⟩] ++ [⟨.oct, 4 * i + 1⟩]) (op ++ [sc ")"]) _ _ ?_ (by simp only [List.length_append, List.length_cons, List.length_nil]; omega) (by intro y hy; rcases List.mem_append.mp hy with hy | hy; exact hop y hy; rw [List.mem_singleton.mp hy]; exact .inl rfl) (by simp only [List.length_append, List.length_cons, List.length_nil]; omega) (by simp only [List.map_append, List.map_cons, List.map_nil]; exact H3)⟩
  exact ht.snocF _ _
theorem tokB_name {fg tk oa : Addr} {b : Bool} {i : Nat} {ts : List Tk} {op : List Str} {x : Str} (hx : x = sc "c" ∨ x = sc "u" ∨ x = sc "+" ∨ x = sc "w" ∨ x = sc "q") (H : Has σ ((tk, .list (ts.map Tk.mv)) :: (oa, .list (op.map .str)) :: l)) (ht : TsP ts) (htl : ts.length ≤ 1000) (hol : op.length ≤ 1000) (hop : opOk op) {ss : List Stmt} {QS : MF → Env1 → Sto → Prop} (hb : ss = (forBody (nthS (bodO (fnS pw_sa0154_01 44)) 3)).drop 3)
    (q : ∀ ts' op' b' σ', TsP ts' → ts'.length ≤ ts.length + 2 → opOk op' → op'.length ≤ op.length + 1 → Has σ' ((tk, .list (ts'.map Tk.mv)) :: (oa, .list (op'.map .str)) :: l) → QS .next (tkE fg tk oa b') σ') :
    SV C (k + 8) f_llaw_tokens ss (tkB fg tk oa b i x) σ QS NoXS := by
  subst hb
  refine SV_drop ?_
  dsimp only [tkB]
  refine vS_in o_llaw_tokens ?_
  walk_at "w"
  refine BV_mul (of_decide_eq_true (by kernel_rfl)) ?_
  walk_at "w"
  refine BV_eqs_f (by rcases hx with rfl | rfl | rfl | rfl | rfl <;> decide) ?_
  walk_at "w"
  refine BV_in_v false rfl (by rcases hx with rfl | rfl | rfl | rfl | rfl <;> decide) ?_
  walk_at "w"
  walk_at "lst"
  walk_at "w"
  walk_at "app"
  case hb => simp only [List.length_append, List.length_map, List.length_cons, List.length_nil]; omega
  intro σ1 H1
  walk_at "w"
  refine BV_eqs_f (by rcases hx with rfl | rfl | rfl | rfl | rfl <;> decide) ?_
  walk_at "w"
  refine BV_in_v false rfl (by rcases hx with rfl | rfl | rfl | rfl | rfl <;> decide) ?_
  walk_at "w"
  refine BV_in_v false rfl (by rcases hx with rfl | rfl | rfl | rfl | rfl <;> decide) ?_
  walk_at "w"
  refine BV_in_v _ rfl rfl ?_
  walk_at "w"
  refine ⟨tkE fg tk oa _, by walk_at "sub", q (ts ++ [⟨.nam x, 4 * i⟩]) op _ _ ?_ (by simp only [List.length_append, List.length_cons, List.length_nil]; omega) hop (by omega) (by simp only [List.map_append, List.map_cons, List.map_nil]; exact H1)⟩
  exact ht.snoc (fun y z => by cases z; rcases hx with rfl | rfl | rfl | rfl | rfl <;> decide) (fun _ z => by cases z) (fun z => by cases z) (fun z => by cases z) (fun z => by injection z with z; revert z; rcases hx with rfl | rfl | rfl | rfl | rfl <;> decide)
theorem op_fo {op : List Str} (h : opOk op) : fos (op.map .str) = true := by
  induction op with
  | nil => rfl
  | cons x r ih =>
    rw [List.map_cons, fos, ih fun y hy => h y (.tail _ hy)]
    rcases h x (.head _) with rfl | rfl <;> kernel_rfl
theorem ne_nil_op {a c : Addr} {op : List Str} (h : opOk op) (ha : σ a = some (.list (op.map .str))) (hc : σ c = some (.list [])) (q : Q (.bool (!op.isEmpty)) σ) : BV C k (compareOp .NotEq) (.ref a) (.ref c) σ Q X := by
  refine BV_ne_list ha hc (op_fo h) rfl (Nat.le_trans (Nat.min_le_right _ _) (by decide)) ?_
  cases op <;> simpa [dats, PyData.eqvAll] using q
theorem tokB_close {fg tk oa : Addr} {b : Bool} {i : Nat} {ts : List Tk} {op : List Str} {x : Str} (hx : x = sc "}" ∨ x = sc ")") (H : Has σ ((tk, .list (ts.map Tk.mv)) :: (oa, .list (op.map .str)) :: l)) (ht : TsP ts) (htl : ts.length ≤ 1000) (hol : op.length ≤ 1000) (hop : opOk op) {ss : List Stmt} {QS : MF → Env1 → Sto → Prop} (hb : ss = (forBody (nthS (bodO (fnS pw_sa0154_01 44)) 3)).drop 3)
    (q : ∀ ts' op' b' σ', TsP ts' → ts'.length ≤ ts.length + 2 → opOk op' → op'.length ≤ op.length + 1 → Has σ' ((tk, .list (ts'.map Tk.mv)) :: (oa, .list (op'.map .str)) :: l) → QS .next (tkE fg tk oa b') σ') :
    SV C (k + 8) f_llaw_tokens ss (tkB fg tk oa b i x) σ QS NoXS := by
  subst hb
  refine SV_drop ?_
  dsimp only [tkB]
  refine vS_in o_llaw_tokens ?_
  walk_at "w"
  refine BV_mul (of_decide_eq_true (by kernel_rfl)) ?_
  walk_at "w"
  refine BV_eqs_f (by rcases hx with rfl | rfl <;> decide) ?_
  walk_at "w"
  refine BV_in_v true rfl (by rcases hx with rfl | rfl <;> decide) ?_
  walk_at "w"
  walk_at "lst"
  walk_at "w"
  walk_at "app"
  case hb => simp only [List.length_append, List.length_map, List.length_cons, List.length_nil]; omega
  intro σ1 H1
  walk_at "w"
  refine BV_eqs_f (by rcases hx with rfl | rfl <;> decide) ?_
  walk_at "w"
  refine BV_in_v false rfl (by rcases hx with rfl | rfl <;> decide) ?_
  walk_at "w"
  refine BV_in_v true rfl (by rcases hx with rfl | rfl <;> decide) ?_
  walk_at "w"
  refine ne_nil_op hop (by walk_at "sto") (by walk_at "sto") ?_
  rcases List.eq_nil_or_concat op with rfl | ⟨op', y, rfl⟩
  · rw [show (!([] : List Str).isEmpty) = false from rfl]
    walk_at "w"
    refine BV_in_v false rfl (by rcases hx with rfl | rfl <;> decide) ?_
    walk_at "w"
    rename_i H2
    refine ⟨tkE fg tk oa _, by walk_at "sub", q (ts ++ [⟨.pun x, 4 * i⟩]) [] _ _ ?_ (by simp only [List.length_append, List.length_cons, List.length_nil]; omega) hop (by omega) (by simp only [List.map_append, List.map_cons, List.map_nil]; exact H2.drop1)⟩
    exact ht.snoc (fun _ z => by cases z) (fun _ z => by cases z; rcases hx with rfl | rfl <;> decide) (fun z => by cases z) (fun z => by cases z) (fun z => by cases z)
  · rw [List.concat_eq_append] at *
    rw [show (!(op' ++ [y]).isEmpty) = true by simp]
    walk_at "w"
    walk_at "lst"
    rename_i H2
    rw [List.map_append, List.map_cons, List.map_nil] at H2
    walk_at "pop"
    case hb => simp only [List.length_append, List.length_map] at hol ⊢; omega
    intro σ3 H3
    walk_at "w"
    refine BV_in_v false rfl (by rcases hx with rfl | rfl <;> decide) ?_
    walk_at "w"
    refine ⟨tkE fg tk oa _, by walk_at "sub", q (ts ++ [⟨.pun x, 4 * i⟩]) op' _ _ ?_ (by simp only [List.length_append, List.length_cons, List.length_nil]; omega) (fun z hz => hop z (List.mem_append_left _ hz)) (by simp only [List.length_append]; omega) (by simp only [List.map_append, List.map_cons, List.map_nil]; exact H3.drop1)⟩
    exact ht.snoc (fun _ z => by cases z) (fun _ z => by cases z; rcases hx with rfl | rfl <;> decide) (fun z => by cases z) (fun z => by cases z) (fun z => by cases z)
end
section
variable {C : Cx} {k : Nat} {f : FI} {ρ : Env1} {σ : Sto} {X : ExcP} {Q : MV → Sto → Prop} {l l' : List (Addr × MObj)}
theorem noPylong5 (x : Int) : Builtin.divisionGoesByPylong x 5 = false := by
  unfold Builtin.divisionGoesByPylong
  have : decide (((if (5 : Int) == 0 then 0 else (5 : Int).natAbs.log2 / 30 + 1) : Nat) > 300) = false := by kernel_rfl
  simp only [this, Bool.false_and]
theorem BV_lt_t {x y : Int} (h : x < y) (q : Q (.bool true) σ) : BV C k (compareOp .Lt) (.int x) (.int y) σ Q X := BV_lt_int (by rw [decide_eq_true h]; exact q)
theorem BV_lt_f {x y : Int} (h : ¬ x < y) (q : Q (.bool false) σ) : BV C k (compareOp .Lt) (.int x) (.int y) σ Q X := BV_lt_int (by rw [decide_eq_false h]; exact q)
theorem partB {fg tk oa : Addr} {b : Bool} {i : Nat} {ts : List Tk} {op : List Str} {x : Str} (hx : x ∈ Alpha) (H : Has σ ((tk, .list (ts.map Tk.mv)) :: (oa, .list (op.map .str)) :: l)) (ht : TsP ts) (htl : ts.length ≤ 1000) (hol : op.length ≤ 1000) (hop : opOk op) {ss : List Stmt} {QS : MF → Env1 → Sto → Prop} (hb : ss = (forBody (nthS (bodO (fnS pw_sa0154_01 44)) 3)).drop 3)
    (q : ∀ ts' op' b' σ', TsP ts' → ts'.length ≤ ts.length + 2 → opOk op' → op'.length ≤ op.length + 1 → Has σ' ((tk, .list (ts'.map Tk.mv)) :: (oa, .list (op'.map .str)) :: l) → QS .next (tkE fg tk oa b') σ') :
    SV C (k + 8) f_llaw_tokens ss (tkB fg tk oa b i x) σ QS NoXS := by
  unfold Alpha at hx
  simp only [List.mem_cons, List.not_mem_nil, or_false] at hx
  rcases hx with h | h | h | h | h | rfl | rfl | h | h | rfl | rfl
  · exact tokB_name (.inl h) H ht htl hol hop hb q
  · exact tokB_name (.inr (.inl h)) H ht htl hol hop hb q
  · exact tokB_name (.inr (.inr (.inl h))) H ht htl hol hop hb q
  · exact tokB_name (.inr (.inr (.inr (.inl h)))) H ht htl hol hop hb q
  · exact tokB_name (.inr (.inr (.inr (.inr h)))) H ht htl hol hop hb q
  · exact tokB_comma H ht htl hol hop hb q
  · exact tokB_open H ht htl hol hop hb q
  · exact tokB_close (.inl h) H ht htl hol hop hb q
  · exact tokB_close (.inr h) H ht htl hol hop hb q
  · exact tokB_num H ht htl hol hop hb q
  · exact tokB_fun H ht htl hol hop hb q
theorem pick {value slice : Expr} {c : Addr} {xs : List MV} {j : Int} (hc : σ c = some (.list xs)) (h0 : 0 ≤ j) (h1 : j < xs.length) (hl : xs.length ≤ 1000) (ha : (xs.all fun y => Alpha.contains (sOf y)) = true) (he : xs = (xs.map sOf).map MV.str) (hs : PlainIx slice) (q : ∀ s, s ∈ Alpha → Q (.str s) σ) : SubV C k value slice (.ref c) (.int j) σ Q X := by
  have hj : j.toNat < xs.length := by omega
  refine SubV_list hc h0 (List.getElem?_eq_getElem hj) hs (by omega) ?_
  have hm := List.all_eq_true.mp ha _ (List.getElem_mem hj)
  have hv : xs[j.toNat] = .str (sOf xs[j.toNat]) := by
    have h2 : ((xs.map sOf).map MV.str)[j.toNat]? = some (.str (sOf xs[j.toNat])) := by rw [List.getElem?_map, List.getElem?_map, List.getElem?_eq_getElem hj]; rfl
    rw [← he, List.getElem?_eq_getElem hj] at h2
    exact Option.some.inj h2
  rw [hv]
  exact q _ (by simpa using hm)
theorem tok_turn {fg tk oa : Addr} {b : Bool} {i : Nat} {figs : List Int} {ts : List Tk} {op : List Str} (H : Has σ ((tk, .list (ts.map Tk.mv)) :: (oa, .list (op.map .str)) :: l)) (hf : (fg, .list (figs.map .int)) ∈ l) (hi : i + 1 < figs.length) (hfl : figs.length ≤ 100) (hfo : rowOk figs) (ht : TsP ts) (htl : ts.length ≤ 1000) (hol : op.length ≤ 1000) (hop : opOk op) {ss : List Stmt} {QS : MF → Env1 → Sto → Prop} (hb : ss = forBody (nthS (bodO (fnS pw_sa0154_01 44)) 3))
    (q : ∀ ts' op' b' σ', TsP ts' → ts'.length ≤ ts.length + 2 → opOk op' → op'.length ≤ op.length + 1 → Has σ' ((tk, .list (ts'.map Tk.mv)) :: (oa, .list (op'.map .str)) :: l) → QS .next (tkE fg tk oa b') σ') :
    SV C (k + 8) f_llaw_tokens ss (tkS fg tk oa b i) σ QS NoXS := by
  subst hb
  dsimp only [tkS]
  refine vS_cut o_llaw_tokens 3 (by kernel_rfl) ?_
  walk_at "w"
  refine BV_add ?_
  have h1 : (figs.map MV.int)[(1 + (i : Int)).toNat]? = some (.int figs[i + 1]) := by
    rw [show (1 + (i : Int)).toNat = i + 1 by omega, List.getElem?_map, List.getElem?_eq_getElem hi]; rfl
  walk_at "w"
  refine SubV_list (by walk_at "sto") (by omega) h1 (fun _ _ => rfl) (by rw [List.length_map]; omega) ?_
  generalize figs[i + 1] = fx
  walk_at "w"
  refine BV_mod (by decide) ?_
  have hb12 := fmod_bd (x := fx) (y := 12) (by decide)
  walk_at "w"
  refine pick (by walk_at "sto") hb12.1 (by simp only [List.length_cons, List.length_nil]; omega) (by simp) (by decide) rfl (fun _ _ => rfl) fun s hs => ?_
  walk_at "w"
  by_cases hlt : fx < 84
  · refine BV_lt_t hlt ?_
    cases b with
    | true =>
      walk_at "w"
      refine BV_mod (by decide) ?_
      have hb7 := fmod_bd (x := fx) (y := 7) (by decide)
      walk_at "w"
      refine pick (by walk_at "sto") hb7.1 (by simp only [List.length_cons, List.length_nil]; omega) (by simp) (by decide) rfl (fun _ _ => rfl) fun s' hs' => ?_
      walk_at "w"
      refine SV_weak (ρ₀ := tkB fg tk oa true i s') (by walk_at "sub") ?_
      exact partB hs' (by walk_at "fin") ht htl hol hop rfl q
    | false =>
      walk_at "w"
      refine BV_lt_t hlt ?_
      walk_at "w"
      refine BV_mod (by decide) ?_
      have hb5 := fmod_bd (x := fx) (y := 5) (by decide)
      walk_at "w"
      refine pick (by walk_at "sto") hb5.1 (by simp only [List.length_cons, List.length_nil]; omega) (by simp) (by decide) rfl (fun _ _ => rfl) fun s' hs' => ?_
      walk_at "w"
      refine ne_nil_op hop (by walk_at "sto") (by walk_at "sto") ?_
      rcases List.eq_nil_or_concat op with rfl | ⟨op', y, rfl⟩
      · rw [show (!([] : List Str).isEmpty) = false from rfl]
        walk_at "w"
        refine SV_weak (ρ₀ := tkB fg tk oa false i s') (by walk_at "sub") ?_
        exact partB hs' (by walk_at "fin") ht htl hol hop rfl q
      · rw [List.concat_eq_append] at *
        rw [show (!(op' ++ [y]).isEmpty) = true by simp]
        walk_at "w"
        refine BV_fdiv (by decide) (noPylong5 _) ?_
        walk_at "w"
        refine BV_mod (by decide) ?_
        walk_at "w"
        by_cases h3 : (fx.fdiv 5).fmod 3 = 2
        · refine BV_eqi_t h3 ?_
          walk_at "w"
          have hy : y ∈ Alpha := by rcases hop y (List.mem_append_right _ (.head _)) with rfl | rfl <;> decide
          refine SubV_list_neg (x := .str y) (by walk_at "sto") (by decide) (by rw [List.length_map, List.length_append]; simp only [List.length_cons, List.length_nil]; omega) ?_ (fun _ _ => rfl) (by rw [List.length_map]; omega) ?_
          · rw [List.length_map, List.length_append, List.map_append]
            simp only [List.length_cons, List.length_nil]
            rw [show (-1 + ((op'.length + (0 + 1) : Nat) : Int)).toNat = op'.length by omega, List.getElem?_append_right (by rw [List.length_map]; omega)]
            simp
          walk_at "w"
          refine SV_weak (ρ₀ := tkB fg tk oa false i y) (by walk_at "sub") ?_
          exact partB hy (by walk_at "fin") ht htl hol hop rfl q
        · refine BV_eqi_f h3 ?_
          walk_at "w"
          refine SV_weak (ρ₀ := tkB fg tk oa false i s') (by walk_at "sub") ?_
          exact partB hs' (by walk_at "fin") ht htl hol hop rfl q
  · refine BV_lt_f hlt ?_
    walk_at "w"
    refine BV_lt_f hlt ?_
    walk_at "w"
    refine SV_weak (ρ₀ := tkB fg tk oa b i s) (by walk_at "sub") ?_
    exact partB hs (by walk_at "fin") ht htl hol hop rfl q
end
section
variable {C : Cx} {k : Nat} {f : FI} {ρ : Env1} {σ : Sto} {X : ExcP} {Q : MV → Sto → Prop} {l l' : List (Addr × MObj)}
theorem tok_ret {fg tk oa : Addr} {b : Bool} {ts : List Tk} {op : List Str} (H : Has σ ((tk, .list (ts.map Tk.mv)) :: (oa, .list (op.map .str)) :: l)) (ht : TsP ts) (htl : ts.length ≤ 99) {ss : List Stmt} (hb : ss = (bodO (fnS pw_sa0154_01 44)).drop 5)
    (q : ∀ tk ts σ', TsOk ts → Has σ' ((tk, .list (ts.map Tk.mv)) :: l) → Q (.ref tk) σ') {XS : ExcS} : SV C (k + 8) f_llaw_tokens ss (tkE fg tk oa b) σ (FnQ Q) XS := by
  subst hb
  dsimp only [tkE]
  refine vS_in o_llaw_tokens ?_
  walk_at "w"
  walk_at "lst"
  walk_at "w"
  walk_at "app"
  case hb => rw [List.length_map]; omega
  intro σ1 H1
  walk_at "w"
  refine q tk (ts ++ [⟨.eof, 99⟩]) _ (ht.fin htl) ?_
  rw [tok_snoc]
  walk_at "fin"
noncomputable abbrev tkW : Stmt := hS (tL (sb (hS (tL (tL (tL (tL (bodO (fnS pw_sa0154_01 44)))))))))
theorem tok_close {fg tk oa : Addr} {b : Bool} {ts : List Tk} {op : List Str} (H : Has σ ((tk, .list (ts.map Tk.mv)) :: (oa, .list (op.map .str)) :: l)) (ht : TsP ts) (htl : ts.length + op.length ≤ 99) (hop : opOk op) 
    {QS : MF → Env1 → Sto → Prop} {XS : ExcS} (q : ∀ ts σ', TsP ts → ts.length ≤ 99 → Has σ' ((tk, .list (ts.map Tk.mv)) :: (oa, .list []) :: l) → QS .next (tkE fg tk oa b) σ') : WhV C (k + 8) f_llaw_tokens (s1 tkW) (sb tkW) (tkE fg tk oa b) σ QS XS := by
  refine WhI (fun n ρ σ => ∃ ts op, ρ = tkE fg tk oa b ∧ op.length = n ∧ TsP ts ∧ ts.length + op.length ≤ 99 ∧ opOk op ∧ Has σ ((tk, .list (ts.map Tk.mv)) :: (oa, .list (op.map .str)) :: l)) op.length ⟨ts, op, rfl, rfl, ht, htl, hop, H⟩ ?_
  rintro n ρ' σ' ⟨ts, op, rfl, rfl, ht, htl, hop, HI⟩
  refine vT_in o_llaw_tokens ?_
  walk_at "w"
  rename_i H2
  refine ne_nil_op hop (by walk_at "sto") (by walk_at "sto") ?_
  rcases List.eq_nil_or_concat op with rfl | ⟨op', y, rfl⟩
  · rw [show (!([] : List Str).isEmpty) = false from rfl]
    walk_at "w"
    exact q ts _ ht (by simp only [List.length_nil] at htl; omega) H2.drop1
  · rw [List.concat_eq_append] at *
    rw [show (!(op' ++ [y]).isEmpty) = true by simp]
    simp only [List.length_append, List.length_cons, List.length_nil] at htl
    walk_at "w"
    refine vS_in o_llaw_tokens ?_
    walk_at "w"
    walk_at "lst"
    walk_at "w"
    walk_at "lst"
    rw [List.map_append, List.map_cons, List.map_nil] at H2
    walk_at "pop"
    case hb => rw [List.length_map]; omega
    intro σ3 H3
    walk_at "w"
    refine OpC_len_list (by walk_at "sto") (by rw [List.length_map]; omega) ?_
    walk_at "w"
    refine BV_add ?_
    walk_at "w"
    walk_at "app"
    case hb => rw [List.length_map]; omega
    intro σ4 H4
    walk_at "w"
    have hy := hop y (List.mem_append_right _ (.head _))
    refine ⟨op'.length, by simp, ts ++ [⟨.pun y, 64 + ((ts.map Tk.mv).length : Int)⟩], op', rfl, rfl, ht.snoc (fun _ z => by cases z) (fun _ z => by cases z; rcases hy with rfl | rfl <;> decide) (fun z => by cases z) (fun z => by cases z) (fun z => by cases z), by simp only [List.length_append, List.length_cons, List.length_nil]; omega, fun z hz => hop z (List.mem_append_left _ hz), ?_⟩
    rw [tok_snoc]
    exact H4.drop1
theorem tokens_spec {fg : Addr} {figs : List Int} (H : Has σ l) (hf : (fg, .list (figs.map .int)) ∈ l) (hfl : figs.length = 20) (hfo : rowOk figs)
    (q : ∀ tk ts σ', TsOk ts → Has σ' ((tk, .list (ts.map Tk.mv)) :: l) → Q (.ref tk) σ') : CV C (k + 9) (.ref 535) [.ref fg] σ Q X := by
  refine CV_Vc o_llaw_tokens (d_llaw_tokens C) 5 (by kernel_rfl) ?_
  have hg : ∀ j, (hj : j < 20) → (figs.map MV.int)[j]? = some (.int (figs[j]'(by omega))) := fun j hj => by
    rw [List.getElem?_map, List.getElem?_eq_getElem (by omega)]; rfl
  walk_at "w"
  rename_i tk σ₁ H₁ oa σ₂ H₂
  have H₂ := H₂.perm (List.Perm.swap ..)
  refine SubV_list (by walk_at "sto") (by decide) (hg 0 (by decide)) (fun _ _ => rfl) (by rw [List.length_map]; omega) ?_
  generalize figs[0] = f0
  walk_at "w"
  refine BV_mod (by decide) ?_
  have hb := fmod_bd (x := f0) (y := 11) (by decide)
  generalize f0.fmod 11 = m0 at hb
  walk_at "w"
  refine BV_add ?_
  walk_at "w"
  rw [show 1 + m0 = ((1 + m0).toNat : Int) by omega]
  refine ForR (k := k + 6) (fun i ρ σ => ∃ ts op b, ρ = tkE fg tk oa b ∧ TsP ts ∧ ts.length ≤ 2 * i ∧ opOk op ∧ op.length ≤ i ∧ Has σ ((tk, .list (ts.map Tk.mv)) :: (oa, .list (op.map .str)) :: l)) (by omega) ⟨[], [], true, rfl, .nil, by simp, (by intro x hx; cases hx), by simp, H₂⟩ ?_ ?_
  · rintro i ρ' σ' hi ⟨ts, op, b, rfl, ht, htl, hop, hol, HI⟩
    walk_at "w"
    exact tok_turn HI hf (by omega) (by omega) hfo ht (by omega) (by omega) hop rfl fun ts' op' b' σ' ht' htl' hop' hol' H' => ⟨ts', op', b', rfl, ht', by omega, hop', by omega, H'⟩
  · rintro ρ' σ' ⟨ts, op, b, rfl, ht, htl, hop, hol, HI⟩
    walk_at "w"
    refine SubV_list (by walk_at "sto") (by decide) (hg 12 (by decide)) (fun _ _ => rfl) (by rw [List.length_map]; omega) ?_
    walk_at "w"
    refine BV_mod (by decide) ?_
    walk_at "w"
    refine BV_lt_int ?_
    generalize decide ((figs[12].fmod 4 : Int) < 3) = c3
    cases c3 with
    | false =>
      walk_at "w"
      exact tok_ret HI ht (by omega) rfl q
    | true =>
      cases b with
      | false =>
        walk_at "w"
        refine tok_close HI ht (by omega) hop fun ts' σ₄ ht' htl' H' => ?_
        walk_at "w"
        exact tok_ret (op := []) H' ht' htl' rfl q
      | true =>
        walk_at "w"
        walk_at "lst"
        walk_at "w"
        walk_at "app"
        case hb => rw [List.length_map]; omega
        intro σ₃ H₃
        walk_at "w"
        refine tok_close (ts := ts ++ [⟨.nam (sc "c"), 60⟩]) (by rw [tok_snoc]; exact H₃) (ht.snoc (fun y z => by cases z; decide) (fun _ z => by cases z) (fun z => by cases z) (fun z => by cases z) (fun z => by injection z with z; revert z; decide)) (by rw [List.length_append]; simp only [List.length_cons, List.length_nil]; omega) hop fun ts' σ₄ ht' htl' H' => ?_
        walk_at "w"
        exact tok_ret (op := []) H' ht' htl' rfl q
end

noncomputable abbrev lawE (w : Wd) (a : EA) (tk : Addr) (st lf : Int) : Env1 := [(Str.ofString "book", w.b.mv), (Str.ofString "entries", MV.ref a.e), (Str.ofString "tokens", MV.ref tk), (Str.ofString "handed", MV.ref w.a.tk), (Str.ofString "parser", w.a.mv), (Str.ofString "state", MV.int st), (Str.ofString "left", MV.int lf)]
noncomputable abbrev lawF (w : Wd) (a : EA) (tk : Addr) (st lf : Int) (ea : Addr) : Env1 := [(Str.ofString "book", w.b.mv), (Str.ofString "entries", MV.ref a.e), (Str.ofString "tokens", MV.ref tk), (Str.ofString "handed", MV.ref w.a.tk), (Str.ofString "parser", w.a.mv), (Str.ofString "state", MV.int st), (Str.ofString "left", MV.int lf), (Str.ofString "fault", MV.ref ea)]
theorem mv_fo {ts : List Tk} (K : TsOk ts) : fos (ts.map Tk.mv) = true := by
  have hf : ∀ l : List MV, (∀ t ∈ l, t.fo = true) → fos l = true := by
    intro l
    induction l with
    | nil => intro _; rfl
    | cons x r ih => intro g; rw [fos, g x (.head _), ih fun t e => g t (.tail _ e)]; rfl
  refine hf _ fun v hv => ?_
  obtain ⟨t, ht, rfl⟩ := List.mem_map.mp hv
  obtain ⟨i, hi, rfl⟩ := List.getElem_of_mem ht
  have ht := List.getElem?_eq_getElem hi
  have hk : PyData.strOk ts[i].k.kd = true := by cases ts[i].k <;> kernel_rfl
  have hv : ts[i].k.val.fo = true := by
    have h1 := vals_fo K ts.length
    have : ∀ l : List MV, fos l = true → ∀ v ∈ l, v.fo = true := by
      intro l
      induction l with
      | nil => intro _ v hv; cases hv
      | cons x r ih =>
        intro g v hv
        rw [fos, Bool.and_eq_true] at g
        rcases List.mem_cons.mp hv with rfl | hv
        · exact g.1
        · exact ih g.2 v hv
    refine this _ h1 _ ?_
    unfold vals
    rw [List.take_length]
    exact List.mem_map.mpr ⟨_, List.getElem_mem hi, rfl⟩
  dsimp only [Tk.mv]
  rw [MV.fo, fos, fos, fos, fos, hv]
  rw [show (MV.str ts[i].k.kd).fo = true from hk]
  rfl
theorem depth_mv (ts : List Tk) : PyData.depthAll (dats (ts.map Tk.mv)) ≤ 2 := by
  induction ts with
  | nil => simp [dats, PyData.depthAll]
  | cons t r ih =>
    have h1 : PyData.depthAll (dats [.str t.k.kd, t.k.val, .int t.at_]) ≤ 1 := depth_atoms fun v hv => by
      simp only [List.mem_cons, List.not_mem_nil, or_false] at hv
      rcases hv with rfl | rfl | rfl
      · exact .inr ⟨_, rfl⟩
      · cases t.k with
        | num i => exact .inl ⟨_, rfl⟩
        | _ => exact .inr ⟨_, rfl⟩
      · exact .inl ⟨_, rfl⟩
    rw [List.map_cons, dats, PyData.depthAll]
    have : (Tk.mv t).dat.depth ≤ 2 := by
      dsimp only [Tk.mv]
      rw [MV.dat, PyData.depth]; omega
    omega
theorem eqv_mv (ts : List Tk) : PyData.eqvAll (dats (ts.map Tk.mv)) (dats (ts.map Tk.mv)) = true := by
  induction ts with
  | nil => simp [dats, PyData.eqvAll]
  | cons t r ih =>
    have h1 : PyData.eqvAll (dats [.str t.k.kd, t.k.val, .int t.at_]) (dats [.str t.k.kd, t.k.val, .int t.at_]) = true := eqv_atoms fun v hv => by
      simp only [List.mem_cons, List.not_mem_nil, or_false] at hv
      rcases hv with rfl | rfl | rfl
      · exact .inr ⟨_, rfl⟩
      · cases t.k with
        | num i => exact .inl ⟨_, rfl⟩
        | _ => exact .inr ⟨_, rfl⟩
      · exact .inl ⟨_, rfl⟩
    rw [List.map_cons, dats, PyData.eqvAll, ih]
    dsimp only [Tk.mv]
    rw [MV.dat, PyData.eqv, h1]; rfl
section
variable {C : Cx} {k : Nat} {f : FI} {ρ : Env1} {σ : Sto} {X : ExcP} {Q : MV → Sto → Prop} {l l' : List (Addr × MObj)} {w : Wd} {p : PS} {ts : List Tk} {tk : Addr} {a : EA}
/-- both lists still alike -/
theorem handed_eq {b c : Addr} (K : TsOk ts) (hb : σ b = some (.list (ts.map Tk.mv))) (hc : σ c = some (.list (ts.map Tk.mv))) (q : Q (.bool true) σ) : BV C k (compareOp .Eq) (.ref b) (.ref c) σ Q X :=
  BV_eq_list hb hc (mv_fo K) (mv_fo K) (by have := depth_mv ts; simp only [PyData.depth]; omega) (by rw [eqv_mv]; exact q)
theorem ints_fo (us : List Tk) : fos (us.map fun t => MV.int t.at_) = true := by
  induction us with
  | nil => rfl
  | cons t r ih => rw [List.map_cons, fos, ih]; rfl
theorem any_at {us : List Tk} {t : Tk} {at_ : Int} (h : t ∈ us) (e : t.at_ = at_) : ((dats (us.map fun t => MV.int t.at_)).any fun y => PyData.eqv y (MV.int at_).dat) = true := by
  induction us with
  | nil => cases h
  | cons u r ih =>
    rw [List.map_cons, dats, List.any_cons]
    rcases List.mem_cons.mp h with rfl | h
    · simp [MV.dat, PyData.eqv, e]
    · rw [ih h, Bool.or_true]
theorem suite_ok {st lf : Int} {ea d : Addr} {oe : Obj} {kd : Str} {at_ : Int} {n' i : Nat} {t : Tk} {A : Around} {L : Addr} {m : Str → Option Value} {frs : List Frm} {g : Stab} {s : Shared} {b : List Stmt} (hbb : b = handBody (nthS (bodO (fnS pw_sa0154_01 48)) 11))
    (K : TsOk ts) (H : Has σ ((d, .ns (excNs kd at_)) :: l)) (m1 : (w.a.d, .ns (parNs w.b w.op w.a p)) ∈ l) (m2 : (tk, .list (ts.map Tk.mv)) ∈ l) (m3 : (w.a.tk, .list (ts.map Tk.mv)) ∈ l)
    (hp : p.place = (n' : Int)) (h1 : 1 ≤ n') (h2 : n' ≤ ts.length) (hi : i = n' ∨ i + 1 = n') (ht : ts[i]? = some t) (hat : t.at_ = at_)
    (rm : Room A 1 ((f_law.env L, L, m) :: frs)) (hH : A.handled = some (.ref ea)) (ho : g ea = some oe) (hc : oe.cls = .ref 51) (hd : oe.dict = some d) (hv : ∃ vs, oe.data = .fields vs ∧ vs[2]? = some .none)
    (R : Rel C g σ ((f_law.env L, L, m) :: frs) s) (lc : Loc g (lawF w a tk st lf ea) m) {QS : MV → Sto → Prop} (q : ∀ σ', QS (.bool true) σ') :
    wpAny C.M A (execs b (f_law.env L)) (fun fl s'' => ∃ mv v g' σ'' m'', fl = .ret v ∧ Ext g g' ∧ Rel C g' σ'' ((f_law.env L, L, m'') :: frs) s'' ∧ VR g' mv v ∧ QS mv σ'') (fun _ _ => False) s := by
  refine execs_ret (hbb.trans rfl) ?_
  have fin : ∀ {T : Sem Value}, wpAny C.M A T (PostV C g ((f_law.env L, L, m) :: frs) QS) (PostX C g ((f_law.env L, L, m) :: frs) NoX) s →
      wpAny C.M A T (fun v s'' => ∃ mv v' g' σ'' m'', Flow.ret v = .ret v' ∧ Ext g g' ∧ Rel C g' σ'' ((f_law.env L, L, m'') :: frs) s'' ∧ VR g' mv v' ∧ QS mv σ'') (fun _ _ => False) s :=
    fun h => wpAny_mono h (fun v s'' ⟨mv, g', σ'', x, R', vr, q⟩ => ⟨mv, v, g', σ'', m, rfl, x, R', vr, q⟩) fun e s'' ⟨_, _, _, _, _, _, _, z⟩ => z.elim
  refine fin ?_
  refine and_at rm lc ?_
  refine cmp_at (Q₁ := fun v σ' => v = .int at_ ∧ σ' = σ) (by kernel_rfl) lc rm ?_ ?_
  · refine exc_at (mv := .int at_) rm R lc ?_ (fun _ _ => rfl) ho hc hd hv (H.get (.head _)) (by simp) (by kernel_rfl) (by kernel_rfl) (by kernel_rfl) ⟨rfl, rfl⟩
    refine vE_in o_law ?_
    walk_at "w"
    exact ⟨rfl, rfl⟩
  · rintro _ g' σ' s' x' ⟨rfl, rfl⟩ R'
    have hH' : A.handled = none ∨ ∃ ea o fs, A.handled = some (.ref ea) ∧ g' ea = some o ∧ o.data = .fields fs ∧ fs[2]? = some Value.none := by
      obtain ⟨vs, h3, h4⟩ := hv
      exact .inr ⟨ea, oe, vs, hH, x' _ _ ho, h3, h4⟩
    refine comp_low (jn := 2) hH' (fun _ _ => rfl) (by decide) (by decide) (by kernel_rfl) (by decide) (by kernel_rfl) (by kernel_rfl) (by decide) ?_
    refine EV_use (ρ := lawF w a tk st lf ea) rm R' (lc.mono x') ?_
    refine EV_sliceV o_law ?_ (fun _ _ => rfl)
    walk_at "w"
    refine BV_sub ?_
    walk_at "w"
    refine BV_add ?_
    walk_at "w"
    refine Sl_mk (H.get (.tail _ m2)) (by rw [List.length_map]; exact Nat.le_trans K.len (by decide)) H fun c σ₁ H₁ => ?_
    obtain ⟨mm, rfl⟩ : ∃ mm, n' = mm + 1 := ⟨n' - 1, (Nat.sub_add_cancel h1).symm⟩
    have hsl : slMV (ts.map Tk.mv) (some (p.place - 1)) (some (p.place + 1)) = ((ts.drop mm).take (min (mm + 2) ts.length - mm)).map Tk.mv := by
      rw [List.map_take, List.map_drop, hp, sub1, add1, slMV_mid _ (by rw [List.length_map]; exact Nat.le_of_succ_le h2), List.length_map]
    rw [hsl] at H₁
    have hmem : t ∈ (ts.drop mm).take (min (mm + 2) ts.length - mm) := near_mem (hi.imp id Nat.succ.inj) ht
    have hul : ((ts.drop mm).take (min (mm + 2) ts.length - mm)).length ≤ 1000 := Nat.le_trans (List.length_take_le' _ _) (by rw [List.length_drop]; exact Nat.le_trans (Nat.sub_le _ _) (Nat.le_trans K.len (by decide)))
    generalize (ts.drop mm).take (min (mm + 2) ts.length - mm) = us at H₁ hmem hul
    refine ⟨c, _, us.map fun t => .int t.at_, rfl, H₁.get (.head _), ?_, by simp, ?_, fun e he => ?_⟩
    · rw [List.length_map]; exact Nat.le_trans hul (by decide)
    · intro i y hy
      rw [List.getElem?_map] at hy
      obtain ⟨t, ht, rfl⟩ := Option.map_eq_some_iff.mp hy
      exact ⟨_, .int t.at_, rfl, rfl, rfl, by rw [List.getElem?_map, ht]; rfl⟩
    · have H₂ := H₁.new (o := .list (us.map fun t => .int t.at_)) he
      refine BV_in_list rfl (H₂.get (.head _)) (ints_fo _) (by simp [MV.dat, PyData.depth]) ⟨?_, ?_⟩
      · congr 1
        exact any_at hmem hat
      · refine vE_in o_law ?_
        walk_at "w"
        exact handed_eq K (H₂.get (.tail _ (.tail _ (.tail _ m3)))) (H₂.get (.tail _ (.tail _ (.tail _ m2)))) (q _)
end
noncomputable abbrev lawR (ts : List Tk) (tk : Addr) (a : EA) (kp ki ko : List (Str × MV)) : List (Addr × MObj) := [(tk, .list (ts.map Tk.mv)), (a.e, .dS (entD a)), (a.p, .dS kp), (a.i, .dS ki), (a.o, .dS ko)]
theorem mem_frR {x : Addr × MObj} : ∀ {fs : List Fr0} {r : List (Addr × MObj)}, x ∈ r → x ∈ frL fs r
  | [], _, h => h
  | _ :: fs, _, h => .tail _ (.tail _ (mem_frR h))
theorem sdl_of {w : Wd} {B : Bk} {kv : List (Str × MV)} {kt : List (List Int × MV)} {p : PS} {fs : List Fr0} {ts : List Tk} {tk : Addr} {a : EA} {kp ki ko : List (Str × MV)} : SdL (FullL w B kv kt p fs (lawR ts tk a kp ki ko)) w B p fs ts tk a kp ki ko := by
  have h5 : ∀ x ∈ opsL w.b w.op w.kp w.ki w.ko ((w.a.d, .ns (parNs w.b w.op w.a p)) :: (w.a.tk, .list w.toks) :: (w.a.fr, .list (frMVs fs)) :: frL fs (lawR ts tk a kp ki ko)), x ∈ FullL w B kv kt p fs (lawR ts tk a kp ki ko) :=
    fun x hx => List.mem_append_right (bookL w.b B kv kt []) hx
  have h9 : ∀ x ∈ (w.a.d, MObj.ns (parNs w.b w.op w.a p)) :: (w.a.tk, .list w.toks) :: (w.a.fr, .list (frMVs fs)) :: frL fs (lawR ts tk a kp ki ko), x ∈ FullL w B kv kt p fs (lawR ts tk a kp ki ko) :=
    fun x hx => h5 x (List.mem_append_right (opsL w.b w.op w.kp w.ki w.ko []) hx)
  have h12 : ∀ x ∈ frL fs (lawR ts tk a kp ki ko), x ∈ FullL w B kv kt p fs (lawR ts tk a kp ki ko) := fun x hx => h9 x (.tail _ (.tail _ (.tail _ hx)))
  have hr : ∀ x ∈ lawR ts tk a kp ki ko, x ∈ FullL w B kv kt p fs (lawR ts tk a kp ki ko) := fun x hx => h12 x (mem_frR hx)
  exact ⟨⟨.head _, .tail _ (.head _), .tail _ (.tail _ (.tail _ (.head _))), hr _ (.tail _ (.head _)), hr _ (.tail _ (.tail _ (.head _))), hr _ (.tail _ (.tail _ (.tail _ (.head _)))), hr _ (.tail _ (.tail _ (.tail _ (.tail _ (.head _)))))⟩,
    h9 _ (.head _), h9 _ (.tail _ (.tail _ (.head _))), fun f hf => ⟨h12 _ (mem_frL hf).1, h12 _ (mem_frL hf).2⟩, hr _ (.head _)⟩
section
variable {C : Cx} {k : Nat} {f : FI} {ρ : Env1} {σ : Sto} {X : ExcP} {Q : MV → Sto → Prop} {w : Wd} {B B1 : Bk} {p : PS} {fs : List Fr0} {ts : List Tk} {tk : Addr} {a : EA} {kp ki ko : List (Str × MV)} {E : Es} {tp ti to : Int → Option En}
/-- the state is sound: the law's own reader says so -/
theorem snd0 {n : Nat} (eo : EOk E kp ki ko) (KE : EsOk E) (hB : B.size ≤ 100000) (K : TsOk ts) (G : Gd0 B1 E ts B p fs n) (H : InW σ w B p fs (lawR ts tk a kp ki ko)) (q : ∀ σ', InW σ' w B p fs (lawR ts tk a kp ki ko) → Q (.bool true) σ') : CV C (k + 111) (.ref 554) [w.b.mv, .ref a.e, w.a.mv, .ref tk, .int 0] σ Q X := by
  obtain ⟨kv, kt, ok, H⟩ := H
  have hl := G.lt
  exact sound_spec eo KE hB K G.fr G.pl (by omega) (.inl ⟨rfl, rfl⟩) H sdl_of fun σ' H' => q σ' ⟨kv, kt, ok, H'⟩
theorem snd1 {n : Nat} {row part : List MV} {h : Int} (eo : EOk E kp ki ko) (KE : EsOk E) (hB : B.size ≤ 100000) (K : TsOk ts) (G : Gd1 B1 E ts B p fs n row part h) (H : InW σ w B p fs (lawR ts tk a kp ki ko)) (q : ∀ σ', InW σ' w B p fs (lawR ts tk a kp ki ko) → Q (.bool true) σ') : CV C (k + 111) (.ref 554) [w.b.mv, .ref a.e, w.a.mv, .ref tk, .int 1] σ Q X := by
  obtain ⟨kv, kt, ok, H⟩ := H
  have hl := G.lt
  exact sound_spec eo KE hB K G.fr G.pl (by omega) (.inr ⟨rfl, part, h, G.un, G.rw_, G.pr, G.pm⟩) H sdl_of fun σ' H' => q σ' ⟨kv, kt, ok, H'⟩
end
section
variable {C : Cx} {k : Nat} {f : FI} {ρ : Env1} {σ : Sto} {X : ExcP} {Q : MV → Sto → Prop} {w : Wd} {B B1 : Bk} {p : PS} {fs : List Fr0} {ts : List Tk} {tk : Addr} {a : EA} {kp ki ko : List (Str × MV)} {E : Es} {tp ti to : Int → Option En}
noncomputable def tryBody : Stmt → List Stmt
  | .Try b _ _ _ _ => b
  | _ => []
noncomputable def whileBody : Stmt → List Stmt
  | .While _ b _ _ => b
  | _ => []
noncomputable abbrev lawLoop : Stmt := nthS (tryBody (nthS (bodO (fnS pw_sa0154_01 48)) 11)) 0
/-- what the loop keeps -/
noncomputable def LI (w : Wd) (ts : List Tk) (tk : Addr) (a : EA) (kp ki ko : List (Str × MV)) (E : Es) (B1 : Bk) (n : Nat) (ρ : Env1) (σ : Sto) : Prop :=
  ∃ B p fs st nn, ρ = lawE w a tk st (meas ts nn fs) ∧ InW σ w B p fs (lawR ts tk a kp ki ko) ∧ ((st = 0 ∧ Gd0 B1 E ts B p fs nn) ∨ (st = 1 ∧ ∃ row part h, Gd1 B1 E ts B p fs nn row part h)) ∧ meas ts nn fs = n ∧ B.size + 2 * n ≤ 80000 ∧ n ≤ 300
theorem meas_ge {ts : List Tk} {n : Nat} {fs : List Fr0} (h : n < ts.length) : 0 ≤ meas ts n fs := by unfold meas; omega
theorem meas_small {ts : List Tk} {n m : Nat} {fs : List Fr0} (hn : n < ts.length) (h : meas ts n fs < (m : Nat)) : fs.length ≤ m := by unfold meas at h; omega
theorem meas_next {x y : Int} {m b b' : Nat} (h0 : 0 ≤ x) (h : x < y) (hy : y = m) (hb : b + 2 * m ≤ 80000) (hs : b' ≤ b + 2) (hm : m ≤ 300) : x.toNat < m ∧ x = (x.toNat : Nat) ∧ b' + 2 * x.toNat ≤ 80000 ∧ x.toNat ≤ 300 := by omega
theorem size_ok {b b' m : Nat} (hb : b + 2 * m ≤ 80000) (hs : b' ≤ b + 2) : b' ≤ 100000 := by omega
/-- behind the step -/
theorem loop_rest {v : MV} {nn : Nat} {ss : List Stmt} {QS : MF → Env1 → Sto → Prop} {XS : ExcS} {m : Nat} (hb : ss = (whileBody lawLoop).drop 1) (hw : w.toks = ts.map Tk.mv) (eo : EOk E kp ki ko) (KE : EsOk E) (K : TsOk ts) (hm : meas ts nn fs = m) (hB : B.size + 2 * m ≤ 80000) (hm3 : m ≤ 300)
    (hN : Nx w (lawR ts tk a kp ki ko) ts E B1 B nn fs v σ)
    (qr : ∀ ρ σ', QS (.ret (.bool true)) ρ σ') (qn : ∀ j ρ σ', j < m → LI w ts tk a kp ki ko E B1 j ρ σ' → QS .next ρ σ') :
    SV C (k + 111) f_law ss [(Str.ofString "book", w.b.mv), (Str.ofString "entries", MV.ref a.e), (Str.ofString "tokens", MV.ref tk), (Str.ofString "handed", MV.ref w.a.tk), (Str.ofString "parser", w.a.mv), (Str.ofString "state", v), (Str.ofString "left", MV.int (meas ts nn fs))] σ QS XS := by
  subst hb
  obtain ⟨B', p', fs', n', H, hs, hc⟩ := hN
  have h1 := H.par
  have h2 := H.fr
  have h3 := H.tk
  rw [hw] at h3
  refine SV_drop ?_
  refine vS_in o_law ?_
  rcases hc with ⟨rfl, rfl, row, part, h, G⟩ | hc
  · obtain ⟨kv, kt, ok, H0⟩ := id H
    walk_at "w"
    rename_i c σ₁ H₁
    refine BV_eq_list (xs := []) (ys := []) ?_ (H₁.get (.head _)) rfl rfl (by decide) ?_
    · exact H₁.drop1.get (by simp [FullL, bookL, opsL, frMVs])
    have H₂ : InW σ₁ w B' p' [] (lawR ts tk a kp ki ko) := ⟨kv, kt, ok, H₁.drop1⟩
    rw [show PyData.eqvAll (dats []) (dats []) = true by simp [dats, PyData.eqvAll]]
    walk_at "w"
    refine snd1 eo KE (size_ok hB hs) K G H₂ fun σ₃ H₃ => ?_
    walk_at "w"
    obtain ⟨kv', kt', ok', H₄⟩ := id H₃
    refine handed_eq K (by have := H₃.tk; rwa [hw] at this) (H₄.get (sdl_of (fs := [])).tk) ?_
    refine ⟨_, by walk_at "sub", qr _ _⟩
  · have hlt : meas ts n' fs' < meas ts nn fs := by rcases hc with ⟨_, h, _⟩ | ⟨_, h, _⟩ <;> exact h
    have hn' : n' < ts.length := by rcases hc with ⟨_, _, G⟩ | ⟨_, _, _, _, _, G⟩ <;> exact G.lt
    have hpl : p'.place = (n' : Int) := by rcases hc with ⟨_, _, G⟩ | ⟨_, _, _, _, _, G⟩ <;> exact G.pl
    obtain ⟨st', rfl, hst⟩ : ∃ st' : Int, v = .int st' ∧ ((st' = 0 ∧ Gd0 B1 E ts B' p' fs' n') ∨ (st' = 1 ∧ ∃ row part h, Gd1 B1 E ts B' p' fs' n' row part h)) := by
      rcases hc with ⟨rfl, _, G⟩ | ⟨rfl, _, G⟩
      · exact ⟨0, rfl, .inl ⟨rfl, G⟩⟩
      · exact ⟨1, rfl, .inr ⟨rfl, G⟩⟩
    obtain ⟨kv, kt, ok, H0⟩ := id H
    have h4 : σ tk = some (.list (ts.map Tk.mv)) := H0.get sdl_of.tk
    walk_at "w"
    refine BV_eqi_f (by rcases hst with ⟨rfl, _⟩ | ⟨rfl, _⟩ <;> decide) ?_
    walk_at "w"
    refine OpC_len_list h4 (by rw [List.length_map]; exact Nat.le_trans K.len (by decide)) ?_
    walk_at "w"
    refine BV_sub ?_
    walk_at "w"
    refine BV_mul (of_decide_eq_true (by kernel_rfl)) ?_
    walk_at "w"
    have hfl : fs'.length ≤ 1000000 := Nat.le_trans (meas_small hn' (hm ▸ hlt)) (Nat.le_trans hm3 (by decide))
    refine OpC_len_list h2 (by rw [frMVs_length]; exact hfl) ?_
    walk_at "w"
    refine BV_add ?_
    have hnow : 2 * (((ts.map Tk.mv).length : Int) - p'.place) + ((frMVs fs').length : Int) = meas ts n' fs' := by
      rw [List.length_map, frMVs_length, hpl]; rfl
    rw [hnow]
    walk_at "w"
    refine BV_ge_int ?_
    rw [show decide (meas ts nn fs ≤ meas ts n' fs') = false from decide_eq_false (Int.not_le.mpr hlt)]
    walk_at "w"
    obtain ⟨e1, e2, e3, e4⟩ := meas_next (meas_ge (fs := fs') hn') hlt hm hB hs hm3
    exact ⟨lawE w a tk st' (meas ts n' fs'), by walk_at "sub", qn (meas ts n' fs').toNat _ _ e1 ⟨B', p', fs', st', n', rfl, H, hst, e2, e3, e4⟩⟩
end
section
variable {C : Cx} {k : Nat} {f : FI} {ρ : Env1} {σ : Sto} {X : ExcP} {Q : MV → Sto → Prop} {w : Wd} {B B1 : Bk} {p : PS} {fs : List Fr0} {ts : List Tk} {tk : Addr} {a : EA} {kp ki ko : List (Str × MV)} {E : Es} {tp ti to : Int → Option En}
noncomputable def LX (w : Wd) (ts : List Tk) (tk : Addr) (a : EA) (kp ki ko : List (Str × MV)) : ExcS := fun d ρ σ => ∃ st lf, ρ = lawE w a tk st lf ∧ Xx w (lawR ts tk a kp ki ko) ts d σ
theorem loop_ok {QS : MF → Env1 → Sto → Prop} {n : Nat} (hw : w.toks = ts.map Tk.mv) (W : WOk w tp ti to) (T : Tb B1 E tp ti to) (eo : EOk E kp ki ko) (K : TsOk ts) (hI : LI w ts tk a kp ki ko E B1 n ρ σ) (qr : ∀ ρ σ', QS (.ret (.bool true)) ρ σ') :
    SV1 C (k + 111) f_law lawLoop ρ σ QS (LX w ts tk a kp ki ko) := by
  refine (vf_ok o_law 60).S1 ?_
  walk_at "w"
  refine WhI (LI w ts tk a kp ki ko E B1) n hI ?_
  clear hI
  rintro n ρ σ ⟨B, p, fs, st, nn, rfl, H, hst, hm, hB, hn⟩
  have hlen := K.len
  have hlt : nn < ts.length := by rcases hst with ⟨_, G⟩ | ⟨_, _, _, _, G⟩ <;> exact G.lt
  have hpl : p.place = (nn : Int) := by rcases hst with ⟨_, G⟩ | ⟨_, _, _, _, G⟩ <;> exact G.pl
  have hfl : fs.length ≤ 900 := by unfold meas at hm; omega
  have hl : w.toks.length ≤ 1000 := by rw [hw, List.length_map]; omega
  obtain ⟨tt, htt⟩ : ∃ tt, ts[nn]? = some tt := ⟨_, List.getElem?_eq_getElem hlt⟩
  have hx : w.toks[p.place.toNat]? = some tt.mv := tok_at hw htt hpl
  rcases hst with ⟨rfl, G⟩ | ⟨rfl, row, part, h, G⟩
  · refine vT_in o_law ?_
    walk_at "w"
    refine snd0 eo T.es (by omega) K G H fun σ₁ H₁ => ?_
    have h1 := H₁.par
    walk_at "w"
    refine vS_cut o_law 1 (by kernel_rfl) ?_
    walk_at "w"
    refine CV_mono (operand_spec (k := k + 101) W H₁ (by omega) hfl (by omega) hx hl (od_step T K G htt hw)) (fun v σ₂ hN => ?_) fun d σ₂ hX => ⟨_, _, rfl, hX⟩
    walk_at "w"
    exact loop_rest rfl hw eo T.es K hm (by omega) hn hN (fun ρ σ' => qr ρ σ') fun j ρ σ' hj hL => ⟨j, hj, hL⟩
  · refine vT_in o_law ?_
    walk_at "w"
    refine snd1 eo T.es (by omega) K G H fun σ₁ H₁ => ?_
    have h1 := H₁.par
    walk_at "w"
    refine vS_cut o_law 1 (by kernel_rfl) ?_
    walk_at "w"
    refine CV_mono (operator_spec (k := k + 103) W H₁ (by omega) hfl (by omega) hx hl (op_step T K G htt hw)) (fun v σ₂ hN => ?_) fun d σ₂ hX => ⟨_, _, rfl, hX⟩
    walk_at "w"
    exact loop_rest rfl hw eo T.es K hm (by omega) hn hN (fun ρ σ' => qr ρ σ') fun j ρ σ' hj hL => ⟨j, hj, hL⟩
theorem try_ok {n : Nat} (hw : w.toks = ts.map Tk.mv) (W : WOk w tp ti to) (T : Tb B1 E tp ti to) (eo : EOk E kp ki ko) (K : TsOk ts) (hI : LI w ts tk a kp ki ko E B1 n ρ σ) {ss : List Stmt} (hss : ss = (bodO (fnS pw_sa0154_01 48)).drop 11) (q : ∀ σ', Q (.bool true) σ') :
    SV C (k + 111) f_law ss ρ σ (FnQ Q) NoXS := by
  subst hss
  refine SV_body rfl ?_
  refine SV_cons ?_
  refine SV_TryAs (k := k + 109) (XS' := LX w ts tk a kp ki ko) (SV_cons ?_) (by kernel_rfl) (by kernel_rfl) (by kernel_rfl) (by kernel_rfl) (by kernel_rfl) (by kernel_rfl) ?_
  · exact loop_ok hw W T eo K hI fun ρ σ' => q σ'
  · rintro ea d oe ρ' σ' A L m' frs g s' ⟨st, lf, rfl, kd, at_, B', p', fs', kv, kt, n', ok, H, hp, h1, h2, t, i, hi, ht, hat⟩ rm hH ho hc hd hv R hlc
    have lc : Loc g (lawF w a tk st lf ea) m' := hlc _ (by walk_at "put") (by kernel_rfl)
    have hS := sdl_of (w := w) (B := B') (kv := kv) (kt := kt) (p := p') (fs := fs') (ts := ts) (tk := tk) (a := a) (kp := kp) (ki := ki) (ko := ko)
    refine suite_ok (w := w) (p := p') (a := a) rfl K H hS.par hS.tk ?_ hp h1 h2 hi ht hat rm hH ho hc hd hv R lc fun σ'' => q σ''
    rw [← hw]
    simp [FullL, bookL, opsL]
end
noncomputable abbrev stL (b : BA) (B : Bk) (kv : List (Str × MV)) (kt : List (List Int × MV)) (op : OA) (kp ki ko : List (Int × MV)) (a : EA) (ep ei eo : List (Str × MV)) (fg : Addr) (figs : List Int) : List (Addr × MObj) :=
  bookL b B kv kt (opsL b op kp ki ko ((a.e, .dS (entD a)) :: (a.p, .dS ep) :: (a.i, .dS ei) :: (a.o, .dS eo) :: (fg, .list (figs.map .int)) :: []))
noncomputable def StIn (σ : Sto) (b : BA) (B : Bk) (op : OA) (kp ki ko : List (Int × MV)) (a : EA) (ep ei eo : List (Str × MV)) (fg : Addr) (figs : List Int) : Prop := ∃ kv kt, BkOk B kv kt ∧ Has σ (stL b B kv kt op kp ki ko a ep ei eo fg figs)
noncomputable abbrev stE (b : BA) (op : OA) (a : EA) (fg : Addr) (st : Int) : Env1 := [(Str.ofString "figures", MV.ref fg), (Str.ofString "book", b.mv), (Str.ofString "operators", op.mv), (Str.ofString "start", MV.int st), (Str.ofString "entries", MV.ref a.e)]
noncomputable abbrev stS (b : BA) (op : OA) (a : EA) (fg : Addr) (st j : Int) : Env1 := [(Str.ofString "figures", MV.ref fg), (Str.ofString "book", b.mv), (Str.ofString "operators", op.mv), (Str.ofString "start", MV.int st), (Str.ofString "entries", MV.ref a.e), (Str.ofString "step", MV.int j)]
/-! three of a kind -/
noncomputable def tri {α : Type} (x y z : α) : Nat → α
  | 0 => x
  | 1 => y
  | _ => z
noncomputable def put3 {α : Type} (T : Nat → α) (m : Nat) (v : α) : Nat → α := fun i => match Nat.beq i m with
  | true => v
  | false => T i
@[reducible] noncomputable def EA.tab (a : EA) : Nat → Addr
  | 0 => a.p
  | 1 => a.i
  | _ => a.o
noncomputable def fixL : Nat → List Fx
  | 0 => [.fy, .fx]
  | 1 => [.yfx, .xfy, .xfx]
  | _ => [.yf, .xf]
theorem fixL_kd {m : Nat} (hm : m < 3) {t : Fx} (h : t ∈ fixL m) : t.kd = m := by
  rcases (by omega : m = 0 ∨ m = 1 ∨ m = 2) with rfl | rfl | rfl <;> (revert h; cases t <;> decide)
theorem fixL_len (m : Nat) : 0 < (fixL m).length ∧ (fixL m).length ≤ 3 := by
  unfold fixL; split <;> decide
theorem look3 {m : Nat} (hm : m < 3) (u v w : Addr) : lookK [(Str.ofString "prefix", MV.ref u), (Str.ofString "infix", MV.ref v), (Str.ofString "postfix", MV.ref w)] (kdS m) = some (.ref (tri u v w m)) := by
  rcases (by omega : m = 0 ∨ m = 1 ∨ m = 2) with rfl | rfl | rfl <;> rfl
theorem tabE (a : EA) (m : Nat) : tri a.p a.i a.o m = a.tab m := by
  unfold tri EA.tab; split <;> rfl
section
variable {C : Cx} {k : Nat} {f : FI} {ρ : Env1} {σ : Sto} {X : ExcP} {Q : MV → Sto → Prop} {l l' : List (Addr × MObj)} {b : BA} {B : Bk} {op : OA} {a : EA} {fg : Addr} {figs : List Int}
theorem at3 {m : Nat} (hm : m < 3) {c₁ c₂ c₃ : Addr} {r : List (Addr × MObj)} (H : Has σ ((c₃, .list ((fixL 2).map fun t => .str t.str)) :: (c₂, .list ((fixL 1).map fun t => .str t.str)) :: (c₁, .list ((fixL 0).map fun t => .str t.str)) :: r)) : σ (tri c₁ c₂ c₃ m) = some (.list ((fixL m).map fun t => .str t.str)) := by
  rcases (by omega : m = 0 ∨ m = 1 ∨ m = 2) with rfl | rfl | rfl
  · exact H.get (.tail _ (.tail _ (.head _)))
  · exact H.get (.tail _ (.head _))
  · exact H.get (.head _)
theorem updE {m : Nat} (hm : m < 3) (T : Nat → List (Int × MV)) (E : Nat → List (Str × MV)) (v : List (Str × MV)) (kv : List (Str × MV)) (kt : List (List Int × MV)) :
    UpdL (a.tab m) (.dS (E m)) (.dS v) (stL b B kv kt op (T 0) (T 1) (T 2) a (E 0) (E 1) (E 2) fg figs) (stL b B kv kt op (T 0) (T 1) (T 2) a (put3 E m v 0) (put3 E m v 1) (put3 E m v 2) fg figs) := by
  rcases (by omega : m = 0 ∨ m = 1 ∨ m = 2) with rfl | rfl | rfl
  · show UpdL a.p _ _ _ (stL _ _ _ _ _ _ _ _ _ v (E 1) (E 2) _ _)
    walk_at "upd"
  · show UpdL a.i _ _ _ (stL _ _ _ _ _ _ _ _ _ (E 0) v (E 2) _ _)
    walk_at "upd"
  · show UpdL a.o _ _ _ (stL _ _ _ _ _ _ _ _ _ (E 0) (E 1) v _ _)
    walk_at "upd"
theorem updT {m : Nat} (hm : m < 3) (T : Nat → List (Int × MV)) (e0 e1 e2 : List (Str × MV)) (v : List (Int × MV)) (kv : List (Str × MV)) (kt : List (List Int × MV)) :
    UpdL (op.tab m) (.dI (T m)) (.dI v) (stL b B kv kt op (T 0) (T 1) (T 2) a e0 e1 e2 fg figs) (stL b B kv kt op (put3 T m v 0) (put3 T m v 1) (put3 T m v 2) a e0 e1 e2 fg figs) := by
  rcases (by omega : m = 0 ∨ m = 1 ∨ m = 2) with rfl | rfl | rfl
  · show UpdL op.pre _ _ _ (stL _ _ _ _ _ v (T 1) (T 2) _ _ _ _ _ _)
    walk_at "upd"
  · show UpdL op.inf _ _ _ (stL _ _ _ _ _ (T 0) v (T 2) _ _ _ _ _ _)
    walk_at "upd"
  · show UpdL op.post _ _ _ (stL _ _ _ _ _ (T 0) (T 1) v _ _ _ _ _ _)
    walk_at "upd"
theorem pickF {value slice : Expr} {c : Addr} {fx : List Fx} {j : Int} (hc : σ c = some (.list (fx.map fun t => MV.str t.str))) (h0 : 0 ≤ j) (h1 : j < fx.length) (hl : fx.length ≤ 1000) (hs : PlainIx slice) (q : ∀ t, t ∈ fx → Q (.str t.str) σ) : SubV C k value slice (.ref c) (.int j) σ Q X := by
  have hj : j.toNat < fx.length := by omega
  refine SubV_list (x := .str fx[j.toNat].str) hc h0 ?_ hs (by rw [List.length_map]; omega) (q _ (List.getElem_mem hj))
  rw [List.getElem?_map, List.getElem?_eq_getElem hj]; rfl
/-- what a turn is about: its number, its kind, its name -/
structure TurnOk (j m : Nat) (x : Str) (c : Nat) : Prop where
  hm : m < 3
  hj : j < 5
  kd : ([.str (Str.ofString "prefix"), .str (Str.ofString "prefix"), .str (Str.ofString "infix"), .str (Str.ofString "infix"), .str (Str.ofString "postfix")] : List MV)[j]? = some (.str (kdS m))
  ch : (seqIndex? (j : Int) (Str.ofString "u++wq").length).bind ((Str.ofString "u++wq").cps[·]?) = some c
  nm : (⟨#[c]⟩ : Str) = x
theorem step_g {j m : Nat} {x : Str} {c : Nat} (J : TurnOk j m x c) {T : Nat → List (Int × MV)} {E : Nat → List (Str × MV)} {st : Int} {ss : List Stmt} {QS : MF → Env1 → Sto → Prop} (H : StIn σ b B op (T 0) (T 1) (T 2) a (E 0) (E 1) (E 2) fg figs) (hB : B.size ≤ 1000) (hk : (T m).length ≤ 100) (he : (E m).length ≤ 100) (hf : figs.length = 20) (hb : ss = forBody (nthS (bodO (fnS pw_sa0154_01 48)) 5))
    (q : ∀ (e : En) σ', 1 ≤ e.p ∧ e.p ≤ 1200 → e.t ∈ fixL m → StIn σ' b (B.atom x).2 op (put3 T m (storeK (T m) ((B.atom x).1 : Nat) e.mv) 0) (put3 T m (storeK (T m) ((B.atom x).1 : Nat) e.mv) 1) (put3 T m (storeK (T m) ((B.atom x).1 : Nat) e.mv) 2) a (put3 E m (storeK (E m) x e.mv) 0) (put3 E m (storeK (E m) x e.mv) 1) (put3 E m (storeK (E m) x e.mv) 2) fg figs → QS .next (stE b op a fg st) σ') :
    SV C (k + 20) f_law ss (stS b op a fg st j) σ QS NoXS := by
  subst hb
  obtain ⟨kv, kt, ok, H⟩ := H
  obtain ⟨hm, hj5, hkd, hch, hnm⟩ := J
  have hfn := fixL_len m
  refine SV_drop ?_
  dsimp only [stS]
  refine vS_in o_law ?_
  walk_at "w"
  refine SubV_list (by walk_at "sto") (Int.natCast_nonneg j) (by rw [Int.toNat_natCast]; exact hkd) (fun _ _ => rfl) (by decide) ?_
  walk_at "w"
  refine BV_add ?_
  have hj : 15 + j < figs.length := by omega
  walk_at "w"
  refine SubV_list (x := .int figs[15 + j]) (by walk_at "sto") (by omega) (by rw [show ((15 : Int) + (j : Int)).toNat = 15 + j by omega, List.getElem?_map, List.getElem?_eq_getElem hj]; rfl) (fun _ _ => rfl) (by rw [List.length_map]; omega) ?_
  generalize figs[15 + j] = fi
  walk_at "w"
  with_reducible refine' EV_Dict3V o_law (x := sc "prefix") (y := sc "infix") (z := sc "postfix") ?d1 ?d3 ?_
  case d1 => exact ⟨_, _, _, _, _, _, _, rfl⟩
  case d3 => decide
  walk_at "w"
  rename_i c₁ σ₁ H₁ c₂ σ₂ H₂ c₃ σ₃ H₃ c₄ σ₄ H₄
  walk_at "w"
  refine SubV_dD (H₄.get (.head _)) (look3 hm _ _ _) (fun _ _ => rfl) ?_
  walk_at "w"
  refine BV_mod (by decide) ?_
  walk_at "w"
  refine BV_mul (of_decide_eq_true (by kernel_rfl)) ?_
  walk_at "w"
  refine BV_add ?_
  walk_at "w"
  refine BV_mod (by decide) ?_
  walk_at "w"
  refine BV_add ?_
  have hb1 := fmod_bd (x := st + 250 * fi.fmod 5) (y := 1200) (by decide)
  generalize (st + 250 * fi.fmod 5).fmod 1200 = m1 at hb1
  walk_at "w"
  refine BV_fdiv (by decide) (noPylong5 _) ?_
  have h3 := at3 hm H₄.drop1
  walk_at "w"
  refine OpC_len_list h3 (by rw [List.length_map]; omega) ?_
  walk_at "w"
  rw [List.length_map]
  refine BV_mod (by omega) ?_
  have hb2 := fmod_bd (x := fi.fdiv 5) (y := ((fixL m).length : Nat)) (by omega)
  walk_at "w"
  refine pickF h3 hb2.1 hb2.2 (by omega) (fun _ _ => rfl) fun t ht => ?_
  walk_at "w"
  refine SubV_dD (by walk_at "sto") (look3 hm _ _ _) (fun _ _ => rfl) ?_
  rw [tabE]
  walk_at "w"
  refine SubV_str (c := c) hch (fun _ _ => rfl) (by rw [decide_eq_false (by omega), decide_eq_false (by omega)]; rfl) ?_
  rw [hnm]
  walk_at "w"
  have H₅ : Has σ₄ (stL b B kv kt op (T 0) (T 1) (T 2) a (E 0) (E 1) (E 2) fg figs) := H₄.sub (.cons _ (.cons _ (.cons _ (.cons _ (.cons _ (List.Sublist.refl _))))))
  clear H₁ H₂ H₃ H₄ h3
  refine SetI_SH H₅ (updE hm T E _ kv kt) (by omega) fun σ₅ H₆ => ?_
  walk_at "w"
  refine SubV_str (c := c) hch (fun _ _ => rfl) (by rw [decide_eq_false (by omega), decide_eq_false (by omega)]; rfl) ?_
  rw [hnm]
  walk_at "w"
  walk_at "w"
  refine atom_spec (a := b) ⟨kv, kt, ok, H₆⟩ (by omega) fun σ₆ H₇ => ?_
  obtain ⟨kv', kt', ok', H₇⟩ := H₇
  walk_at "w"
  have hkt := fixL_kd hm ht
  refine add_spec (kvs := T m) (e := ⟨1 + m1, t⟩) (a := op) (b := b) (H₇.get (by simp [bookL, opsL])) H₇ (by rw [hkt]; exact updT hm T _ _ _ _ kv' kt') (show (0 : Int) < 1 + m1 by omega) (by omega) fun σ₈ H₈ => ?_
  walk_at "w"
  exact ⟨_, by walk_at "sub", q ⟨1 + m1, t⟩ σ₈ (show 1 ≤ 1 + m1 ∧ 1 + m1 ≤ 1200 by omega) ht ⟨kv', kt', ok', H₈⟩⟩
end
theorem turn0 : TurnOk 0 0 (sc "u") 117 := ⟨by decide, by decide, rfl, by kernel_rfl, by kernel_rfl⟩
theorem turn1 : TurnOk 1 0 (sc "+") 43 := ⟨by decide, by decide, rfl, by kernel_rfl, by kernel_rfl⟩
theorem turn2 : TurnOk 2 1 (sc "+") 43 := ⟨by decide, by decide, rfl, by kernel_rfl, by kernel_rfl⟩
theorem turn3 : TurnOk 3 1 (sc "w") 119 := ⟨by decide, by decide, rfl, by kernel_rfl, by kernel_rfl⟩
theorem turn4 : TurnOk 4 2 (sc "q") 113 := ⟨by decide, by decide, rfl, by kernel_rfl, by kernel_rfl⟩
@[irreducible] noncomputable def Bu : Bk := (B0.atom (sc "u")).2
@[irreducible] noncomputable def Bp : Bk := (Bu.atom (sc "+")).2
@[irreducible] noncomputable def Bp2 : Bk := (Bp.atom (sc "+")).2
@[irreducible] noncomputable def Bw : Bk := (Bp2.atom (sc "w")).2
@[irreducible] noncomputable def Bq : Bk := (Bw.atom (sc "q")).2
theorem nU : (B0.atom (sc "u")).1 = 29 := by kernel_rfl
theorem nP : (Bu.atom (sc "+")).1 = 4 := by kernel_rfl
theorem nP2 : (Bp.atom (sc "+")).1 = 4 := by kernel_rfl
theorem nW : (Bp2.atom (sc "w")).1 = 30 := by kernel_rfl
theorem nQ : (Bw.atom (sc "q")).1 = 31 := by kernel_rfl
noncomputable abbrev c7 : MV := En.mv ⟨1000, .xfy⟩
noncomputable abbrev okE (e : En) (fx : List Fx) : Prop := (1 ≤ e.p ∧ e.p ≤ 1200) ∧ e.t ∈ fx
noncomputable def kp1 (e0 : En) : List (Int × MV) := storeK [] (29 : Int) e0.mv
noncomputable def kp2 (e0 e1 : En) : List (Int × MV) := storeK (kp1 e0) (4 : Int) e1.mv
noncomputable def ki1 (e2 : En) : List (Int × MV) := storeK [((7 : Int), c7)] (4 : Int) e2.mv
noncomputable def ki2 (e2 e3 : En) : List (Int × MV) := storeK (ki1 e2) (30 : Int) e3.mv
noncomputable def ko1 (e4 : En) : List (Int × MV) := storeK [] (31 : Int) e4.mv
noncomputable def ep1 (e0 : En) : List (Str × MV) := storeK [] (sc "u") e0.mv
noncomputable def ep2 (e0 e1 : En) : List (Str × MV) := storeK (ep1 e0) (sc "+") e1.mv
noncomputable def ei1 (e2 : En) : List (Str × MV) := storeK [(sc ",", c7)] (sc "+") e2.mv
noncomputable def ei2 (e2 e3 : En) : List (Str × MV) := storeK (ei1 e2) (sc "w") e3.mv
noncomputable def eo1 (e4 : En) : List (Str × MV) := storeK [] (sc "q") e4.mv
theorem storeK_len {K : Type} [DecidableEq K] (kvs : List (K × MV)) (k : K) (v : MV) : (storeK kvs k v).length ≤ kvs.length + 1 := by
  unfold storeK
  split
  · rw [List.length_map]; omega
  · rw [List.length_append]; simp
theorem lookK_storeK {K : Type} [DecidableEq K] (kvs : List (K × MV)) (k a : K) (v : MV) : lookK (storeK kvs k v) a = if a = k then some v else lookK kvs a := by
  unfold storeK
  split
  · rename_i h
    induction kvs with
    | nil => simp at h
    | cons p r ih =>
      unfold lookK
      rw [List.map_cons, List.find?_cons, List.find?_cons]
      by_cases hp : p.1 = k
      · rw [if_pos hp]
        dsimp only
        by_cases ha : a = k
        · subst ha; simp [hp]
        · rw [if_neg ha]
          have : decide (p.1 = a) = false := by rw [hp]; exact decide_eq_false fun z => ha z.symm
          rw [this]
          dsimp only
          clear h ih
          induction r with
          | nil => rfl
          | cons p' r' ih' =>
            rw [List.map_cons, List.find?_cons, List.find?_cons]
            by_cases hp' : p'.1 = k
            · rw [if_pos hp']
              have : decide (p'.1 = a) = false := by rw [hp']; exact decide_eq_false fun z => ha z.symm
              dsimp only
              rw [this]; exact ih'
            · rw [if_neg hp']
              cases decide (p'.1 = a)
              · exact ih'
              · rfl
      · rw [if_neg hp]
        by_cases ha : a = p.1
        · subst ha
          simp [hp]
        · have : decide (p.1 = a) = false := decide_eq_false fun z => ha z.symm
          rw [this]
          dsimp only
          have h' : (r.any fun kv => decide (kv.1 = k)) = true := by
            rw [List.any_cons, decide_eq_false hp, Bool.false_or] at h; exact h
          exact ih h'
  · rename_i h
    rw [lookK_snoc]
    by_cases ha : a = k
    · subst ha
      rw [if_pos rfl, if_pos rfl]
      have : lookK kvs a = none := by
        unfold lookK
        rw [Option.map_eq_none_iff, List.find?_eq_none]
        intro p hp z
        exact h (List.any_eq_true.mpr ⟨p, hp, z⟩)
      rw [this]; rfl
    · rw [if_neg ha, if_neg fun z => ha z.symm]; simp
noncomputable def tpF (e0 e1 : En) : Int → Option En := fun a => if a = 4 then some e1 else if a = 29 then some e0 else none
noncomputable def tiF (e2 e3 : En) : Int → Option En := fun a => if a = 30 then some e3 else if a = 4 then some e2 else if a = 7 then some ⟨1000, .xfy⟩ else none
noncomputable def toF (e4 : En) : Int → Option En := fun a => if a = 31 then some e4 else none
noncomputable def EsF (e0 e1 e2 e3 e4 : En) : Es where
  pre x := if x = sc "+" then some e1 else if x = sc "u" then some e0 else none
  inf x := if x = sc "w" then some e3 else if x = sc "+" then some e2 else if x = sc "," then some ⟨1000, .xfy⟩ else none
  post x := if x = sc "q" then some e4 else none
theorem lookK_one {K : Type} [DecidableEq K] (k a : K) (v : MV) : lookK [(k, v)] a = if a = k then some v else none := by
  unfold lookK
  rw [List.find?_cons]
  by_cases h : k = a
  · subst h; simp
  · rw [decide_eq_false h, if_neg fun z => h z.symm]; rfl
theorem lookK_nil {K : Type} [DecidableEq K] (a : K) : lookK ([] : List (K × MV)) a = none := rfl
theorem eok (e0 e1 e2 e3 e4 : En) : EOk (EsF e0 e1 e2 e3 e4) (ep2 e0 e1) (ei2 e2 e3) (eo1 e4) := by
  refine ⟨fun x => ?_, fun x => ?_, fun x => ?_⟩
  · unfold ep2 ep1 EsF
    rw [lookK_storeK, lookK_storeK, lookK_nil]
    dsimp only
    split
    · rfl
    · split <;> rfl
  · unfold ei2 ei1 EsF
    rw [lookK_storeK, lookK_storeK, lookK_one]
    dsimp only
    split
    · rfl
    · split
      · rfl
      · split <;> rfl
  · unfold eo1 EsF
    rw [lookK_storeK, lookK_nil]
    dsimp only
    split <;> rfl
theorem wok (e0 e1 e2 e3 e4 : En) (b : BA) (op : OA) (pa : PA) (tm : List MV) : WOk ⟨b, op, pa, kp2 e0 e1, ki2 e2 e3, ko1 e4, tm⟩ (tpF e0 e1) (tiF e2 e3) (toF e4) := by
  refine ⟨fun x => ?_, fun x => ?_, fun x => ?_⟩
  · dsimp only
    unfold kp2 kp1 tpF
    rw [lookK_storeK, lookK_storeK, lookK_nil]
    split
    · rfl
    · split <;> rfl
  · dsimp only
    unfold ki2 ki1 tiF
    rw [lookK_storeK, lookK_storeK, lookK_one]
    split
    · rfl
    · split
      · rfl
      · split <;> rfl
  · dsimp only
    unfold ko1 toF
    rw [lookK_storeK, lookK_nil]
    split <;> rfl
theorem esok {e0 e1 e2 e3 e4 : En} (h0 : okE e0 [.fy, .fx]) (h1 : okE e1 [.fy, .fx]) (h2 : okE e2 [.yfx, .xfy, .xfx]) (h3 : okE e3 [.yfx, .xfy, .xfx]) (h4 : okE e4 [.yf, .xf]) : EsOk (EsF e0 e1 e2 e3 e4) := by
  have pf : ∀ e : En, okE e [.fy, .fx] → e.t.hi e.p = e.t.sr e.p := by
    rintro ⟨p, t⟩ ⟨_, h⟩
    simp only [List.mem_cons, List.not_mem_nil, or_false] at h
    rcases h with rfl | rfl <;> rfl
  have nf : ∀ e : En, okE e [.yfx, .xfy, .xfx] → e.t.hi e.p = e.t.sr e.p ∧ e.t.lo e.p = e.t.sl e.p := by
    rintro ⟨p, t⟩ ⟨_, h⟩
    simp only [List.mem_cons, List.not_mem_nil, or_false] at h
    rcases h with rfl | rfl | rfl <;> exact ⟨rfl, rfl⟩
  have of : ∀ e : En, okE e [.yf, .xf] → e.t.lo e.p = e.t.sl e.p := by
    rintro ⟨p, t⟩ ⟨_, h⟩
    simp only [List.mem_cons, List.not_mem_nil, or_false] at h
    rcases h with rfl | rfl <;> rfl
  refine ⟨fun nm e he => ?_, fun nm e he => ?_, fun nm e he => ?_⟩
  · unfold EsF at he
    dsimp only at he
    split at he
    · rename_i hn; cases he; subst hn; exact ⟨h1.1.1, h1.1.2, by decide, by decide, by decide, pf _ h1⟩
    · split at he
      · rename_i hn; cases he; subst hn; exact ⟨h0.1.1, h0.1.2, by decide, by decide, by decide, pf _ h0⟩
      · cases he
  · unfold EsF at he
    dsimp only at he
    split at he
    · rename_i hn; cases he; subst hn; exact ⟨h3.1.1, h3.1.2, by decide, fun z => absurd z (by decide), (nf _ h3).1, (nf _ h3).2, by decide⟩
    · split at he
      · rename_i hn; cases he; subst hn; exact ⟨h2.1.1, h2.1.2, by decide, fun z => absurd z (by decide), (nf _ h2).1, (nf _ h2).2, by decide⟩
      · split at he
        · rename_i hn; cases he; subst hn; exact ⟨by decide, by decide, by decide, fun _ => rfl, rfl, rfl, by decide⟩
        · cases he
  · unfold EsF at he
    dsimp only at he
    split at he
    · rename_i hn; cases he; subst hn; exact ⟨h4.1.1, h4.1.2, rfl, of _ h4⟩
    · cases he
theorem tb_ok {e0 e1 e2 e3 e4 : En} (h0 : okE e0 [.fy, .fx]) (h1 : okE e1 [.fy, .fx]) (h2 : okE e2 [.yfx, .xfy, .xfx]) (h3 : okE e3 [.yfx, .xfy, .xfx]) (h4 : okE e4 [.yf, .xf]) : Tb Bq (EsF e0 e1 e2 e3 e4) (tpF e0 e1) (tiF e2 e3) (toF e4) := by
  have t4 : Bq.txt 4 (sc "+") := ⟨by decide, by kernel_rfl⟩
  have t29 : Bq.txt 29 (sc "u") := ⟨by decide, by kernel_rfl⟩
  have t30 : Bq.txt 30 (sc "w") := ⟨by decide, by kernel_rfl⟩
  have t31 : Bq.txt 31 (sc "q") := ⟨by decide, by kernel_rfl⟩
  have t7 : Bq.txt 7 (sc ",") := ⟨by decide, by kernel_rfl⟩
  have t2 : Bq.txt 2 (sc "{}") := ⟨by decide, by kernel_rfl⟩
  refine ⟨fun a e he => ?_, fun a e he => ?_, fun a e he => ?_, fun x hx => ?_, ⟨2, by decide, by kernel_rfl, by decide, t2.2⟩, t2, t7, esok h0 h1 h2 h3 h4⟩
  · unfold tpF at he
    split at he
    · rename_i hn; cases he; subst hn; exact ⟨_, t4, by rfl⟩
    · split at he
      · rename_i hn; cases he; subst hn; exact ⟨_, t29, by rfl⟩
      · cases he
  · unfold tiF at he
    split at he
    · rename_i hn; cases he; subst hn; exact ⟨_, t30, by rfl⟩
    · split at he
      · rename_i hn; cases he; subst hn; exact ⟨_, t4, by rfl⟩
      · split at he
        · rename_i hn; cases he; subst hn; exact ⟨_, t7, by rfl⟩
        · cases he
  · unfold toF at he
    split at he
    · rename_i hn; cases he; subst hn; exact ⟨_, t31, by rfl⟩
    · cases he
  · simp only [List.mem_cons, List.not_mem_nil, or_false] at hx
    rcases hx with rfl | rfl | rfl | rfl
    · exact ⟨29, by kernel_rfl, rfl⟩
    · exact ⟨4, by kernel_rfl, rfl⟩
    · exact ⟨30, by kernel_rfl, rfl⟩
    · exact ⟨31, by kernel_rfl, rfl⟩
section
variable {C : Cx} {k : Nat} {f : FI} {ρ : Env1} {σ : Sto} {X : ExcP} {Q : MV → Sto → Prop} {l l' : List (Addr × MObj)} {b : BA} {B : Bk} {op : OA} {a : EA} {fg : Addr} {figs : List Int}
theorem small_bits {x : Int} (h0 : 0 ≤ x) (h : x < 96) : Builtin.Int.intBits x ≤ 64 := by
  obtain ⟨n, rfl⟩ := Int.eq_ofNat_of_zero_le h0
  have hn : n < 96 := by omega
  have : ∀ m : Fin 96, Builtin.Int.intBits ((m.val : Nat) : Int) ≤ 64 := by decide +kernel
  exact this ⟨n, hn⟩
theorem lay {kv : List (Str × MV)} {kt : List (List Int × MV)} {kp ki ko : List (Int × MV)} {ep ei eo : List (Str × MV)} {d fr hd tk : Addr} {x y z u : MObj} (H : Has σ ((d, x) :: (fr, y) :: (hd, z) :: (tk, u) :: stL b B kv kt op kp ki ko a ep ei eo fg figs)) :
    Has σ (bookL b B kv kt (opsL b op kp ki ko ((d, x) :: (hd, z) :: (fr, y) :: (tk, u) :: (a.e, .dS (entD a)) :: (a.p, .dS ep) :: (a.i, .dS ei) :: (a.o, .dS eo) :: []))) := by
  have h1 := H.perm (List.perm_append_comm_assoc [(d, x), (fr, y), (hd, z), (tk, u)] (bookL b B kv kt (opsL b op kp ki ko [])) [(a.e, .dS (entD a)), (a.p, .dS ep), (a.i, .dS ei), (a.o, .dS eo), (fg, .list (figs.map .int))])
  have h2 := h1.perm (List.Perm.append_left (bookL b B kv kt (opsL b op kp ki ko [])) (List.Perm.cons (d, x) (List.Perm.swap (hd, z) (fr, y) ((tk, u) :: [(a.e, .dS (entD a)), (a.p, .dS ep), (a.i, .dS ei), (a.o, .dS eo), (fg, .list (figs.map .int))]))))
  exact h2.sub (List.Sublist.append_left (List.sublist_append_left [(d, x), (hd, z), (fr, y), (tk, u), (a.e, .dS (entD a)), (a.p, .dS ep), (a.i, .dS ei), (a.o, .dS eo)] [(fg, .list (figs.map .int))]) (bookL b B kv kt (opsL b op kp ki ko [])))
/-- behind the entries -/
theorem law_tail {e0 e1 e2 e3 e4 : En} {st : Int} (h0 : okE e0 [.fy, .fx]) (h1 : okE e1 [.fy, .fx]) (h2 : okE e2 [.yfx, .xfy, .xfx]) (h3 : okE e3 [.yfx, .xfy, .xfx]) (h4 : okE e4 [.yf, .xf]) (hfl : figs.length = 20) (hfo : rowOk figs)
    (H : StIn σ b Bq op (kp2 e0 e1) (ki2 e2 e3) (ko1 e4) a (ep2 e0 e1) (ei2 e2 e3) (eo1 e4) fg figs) {ss : List Stmt} (hss : ss = (bodO (fnS pw_sa0154_01 48)).drop 6) (q : ∀ σ', Q (.bool true) σ') : SV C (k + 111) f_law ss (stE b op a fg st) σ (FnQ Q) NoXS := by
  subst hss
  obtain ⟨kv, kt, ok, H⟩ := H
  dsimp only [stE]
  refine vS_cut o_law 5 (by kernel_rfl) ?_
  walk_at "w"
  refine tokens_spec H (by simp) hfl hfo fun tk ts σ₁ K H₁ => ?_
  have hlen := K.len
  walk_at "w"
  refine EV_sliceV o_law ?_ (fun _ _ => rfl)
  walk_at "w"
  refine Sl_mk (H₁.get (.head _)) (by rw [List.length_map]; omega) H₁ fun hd σ₂ H₂ => ?_
  rw [slMV_all] at H₂
  walk_at "w"
  refine CV_class_H H₂ (mk_Parser C) fun o d σ₃ H₃ => ?_
  refine parinit_spec (b := b) (a := op) H₃ fun fr nu na co σ₄ H₄ => ?_
  refine ⟨rfl, ?_⟩
  walk_at "w"
  refine OpC_len_list (H₄.get (.tail _ (.tail _ (.tail _ (.head _))))) (by rw [List.length_map]; omega) ?_
  walk_at "w"
  refine BV_mul (of_decide_eq_true (by kernel_rfl)) ?_
  have hm : 2 * (((ts.map Tk.mv).length : Nat) : Int) = meas ts 0 [] := by unfold meas; rw [List.length_map]; simp
  rw [hm]
  walk_at "w"
  have hI : InW σ₄ ⟨b, op, ⟨o, d, hd, fr, nu, na, co⟩, kp2 e0 e1, ki2 e2 e3, ko1 e4, ts.map Tk.mv⟩ Bq ⟨0, 1200, .none, 0, 0⟩ [] (lawR ts tk a (ep2 e0 e1) (ei2 e2 e3) (eo1 e4)) :=
    ⟨kv, kt, ok, lay H₄⟩
  refine SV_weak (ρ₀ := lawE ⟨b, op, ⟨o, d, hd, fr, nu, na, co⟩, kp2 e0 e1, ki2 e2 e3, ko1 e4, ts.map Tk.mv⟩ a tk 0 (meas ts 0 [])) (by walk_at "sub") ?_
  have hm2 : meas ts 0 [] = (2 * ts.length : Nat) := by unfold meas; simp
  have hsz : Bq.size ≤ 400 := of_decide_eq_true (by kernel_rfl)
  have hpos : 0 < ts.length := List.length_pos_iff.mpr K.ne
  exact try_ok (n := 2 * ts.length) rfl (wok e0 e1 e2 e3 e4 b op _ _) (tb_ok h0 h1 h2 h3 h4) (eok e0 e1 e2 e3 e4) K
    ⟨Bq, ⟨0, 1200, .none, 0, 0⟩, [], 0, 0, rfl, hI, .inl ⟨rfl, Bk.le_refl _, rfl, hpos, K.oct0, .nil⟩, hm2, by omega, by omega⟩ rfl q
end
section
variable {C : Cx} {k : Nat} {f : FI} {ρ : Env1} {σ : Sto} {X : ExcP} {Q : MV → Sto → Prop} {l l' : List (Addr × MObj)} {b : BA} {B : Bk} {op : OA} {a : EA} {fg : Addr} {figs : List Int}
theorem perm4 {α : Type} {E O K F E' : List α} (h : (E ++ F).Perm E') : (E ++ (O ++ (K ++ F))).Perm (K ++ (O ++ E')) := by
  have h1 : (E ++ (O ++ (K ++ F))).Perm (E ++ (K ++ (O ++ F))) := List.Perm.append_left E (List.perm_append_comm_assoc O K F)
  have h2 : (E ++ (K ++ (O ++ F))).Perm (K ++ (E ++ (O ++ F))) := List.perm_append_comm_assoc E K (O ++ F)
  have h3 : (K ++ (E ++ (O ++ F))).Perm (K ++ (O ++ (E ++ F))) := List.Perm.append_left K (List.perm_append_comm_assoc E O F)
  exact ((h1.trans h2).trans h3).trans (List.Perm.append_left K (List.Perm.append_left O h))
theorem lay2 {kv : List (Str × MV)} {kt : List (List Int × MV)} {kp ki ko : List (Int × MV)} {ep ei eo : List (Str × MV)} (H : Has σ ((a.e, .dS (entD a)) :: (a.o, .dS eo) :: (a.i, .dS ei) :: (a.p, .dS ep) :: opsL b op kp ki ko (bookL b B kv kt [(fg, .list (figs.map .int))]))) :
    Has σ (stL b B kv kt op kp ki ko a ep ei eo fg figs) := by
  have p3 : (((a.e, MObj.dS (entD a)) :: (a.o, MObj.dS eo) :: (a.i, MObj.dS ei) :: (a.p, MObj.dS ep) :: []) ++ [(fg, MObj.list (figs.map MV.int))]).Perm ((a.e, MObj.dS (entD a)) :: (a.p, MObj.dS ep) :: (a.i, MObj.dS ei) :: (a.o, MObj.dS eo) :: (fg, MObj.list (figs.map MV.int)) :: []) :=
    List.Perm.cons _ ((List.reverse_perm ((a.p, MObj.dS ep) :: (a.i, MObj.dS ei) :: (a.o, MObj.dS eo) :: [])).append_right [(fg, MObj.list (figs.map MV.int))])
  exact H.perm (perm4 (O := opsL b op kp ki ko []) (K := bookL b B kv kt []) p3)
/-- what the five turns keep -/
noncomputable def FI5 (b : BA) (op : OA) (a : EA) (fg : Addr) (figs : List Int) (st : Int) (i : Nat) (ρ : Env1) (σ : Sto) : Prop := ρ = stE b op a fg st ∧
  match i with
  | 0 => StIn σ b B0 op [] [(7, c7)] [] a [] [(sc ",", c7)] [] fg figs
  | 1 => ∃ e0, okE e0 [.fy, .fx] ∧ StIn σ b Bu op (kp1 e0) [(7, c7)] [] a (ep1 e0) [(sc ",", c7)] [] fg figs
  | 2 => ∃ e0 e1, okE e0 [.fy, .fx] ∧ okE e1 [.fy, .fx] ∧ StIn σ b Bp op (kp2 e0 e1) [(7, c7)] [] a (ep2 e0 e1) [(sc ",", c7)] [] fg figs
  | 3 => ∃ e0 e1 e2, okE e0 [.fy, .fx] ∧ okE e1 [.fy, .fx] ∧ okE e2 [.yfx, .xfy, .xfx] ∧ StIn σ b Bp2 op (kp2 e0 e1) (ki1 e2) [] a (ep2 e0 e1) (ei1 e2) [] fg figs
  | 4 => ∃ e0 e1 e2 e3, okE e0 [.fy, .fx] ∧ okE e1 [.fy, .fx] ∧ okE e2 [.yfx, .xfy, .xfx] ∧ okE e3 [.yfx, .xfy, .xfx] ∧ StIn σ b Bw op (kp2 e0 e1) (ki2 e2 e3) [] a (ep2 e0 e1) (ei2 e2 e3) [] fg figs
  | _ => ∃ e0 e1 e2 e3 e4, okE e0 [.fy, .fx] ∧ okE e1 [.fy, .fx] ∧ okE e2 [.yfx, .xfy, .xfx] ∧ okE e3 [.yfx, .xfy, .xfx] ∧ okE e4 [.yf, .xf] ∧ StIn σ b Bq op (kp2 e0 e1) (ki2 e2 e3) (ko1 e4) a (ep2 e0 e1) (ei2 e2 e3) (eo1 e4) fg figs
theorem sizes : B0.size ≤ 300 ∧ Bu.size ≤ 300 ∧ Bp.size ≤ 300 ∧ Bp2.size ≤ 300 ∧ Bw.size ≤ 300 :=
  ⟨of_decide_eq_true (by kernel_rfl), of_decide_eq_true (by kernel_rfl), of_decide_eq_true (by kernel_rfl), of_decide_eq_true (by kernel_rfl), of_decide_eq_true (by kernel_rfl)⟩
theorem Bu_eq : (B0.atom (sc "u")).2 = Bu := by unfold Bu; rfl
theorem Bp_eq : (Bu.atom (sc "+")).2 = Bp := by unfold Bp; rfl
theorem Bp2_eq : (Bp.atom (sc "+")).2 = Bp2 := by unfold Bp2; rfl
theorem Bw_eq : (Bp2.atom (sc "w")).2 = Bw := by unfold Bw; rfl
theorem Bq_eq : (Bw.atom (sc "q")).2 = Bq := by unfold Bq; rfl
theorem nU' : (((B0.atom (sc "u")).1 : Nat) : Int) = 29 := by rw [nU]; rfl
theorem nP' : (((Bu.atom (sc "+")).1 : Nat) : Int) = 4 := by rw [nP]; rfl
theorem nP2' : (((Bp.atom (sc "+")).1 : Nat) : Int) = 4 := by rw [nP2]; rfl
theorem nW' : (((Bp2.atom (sc "w")).1 : Nat) : Int) = 30 := by rw [nW]; rfl
theorem nQ' : (((Bw.atom (sc "q")).1 : Nat) : Int) = 31 := by rw [nQ]; rfl
theorem len_l1 : ∀ e0, (kp1 e0).length ≤ 100 := fun e0 => Nat.le_trans (storeK_len _ _ _) (by simp)
theorem len_l3 : ∀ e2, (ki1 e2).length ≤ 100 := fun e2 => Nat.le_trans (storeK_len _ _ _) (by simp)
theorem len_m1 : ∀ e0, (ep1 e0).length ≤ 100 := fun e0 => Nat.le_trans (storeK_len _ _ _) (by simp)
theorem len_m3 : ∀ e2, (ei1 e2).length ≤ 100 := fun e2 => Nat.le_trans (storeK_len _ _ _) (by simp)
theorem five_0 {st : Int} {ss : List Stmt} {QS : MF → Env1 → Sto → Prop} (hfl : figs.length = 20) (hss : ss = forBody (nthS (bodO (fnS pw_sa0154_01 48)) 5)) (H : StIn σ b B0 op [] [(7, c7)] [] a [] [(sc ",", c7)] [] fg figs)
    (q : ∀ σ' e, okE e [.fy, .fx] → StIn σ' b Bu op (kp1 e) [(7, c7)] [] a (ep1 e) [(sc ",", c7)] [] fg figs → QS .next (stE b op a fg st) σ') : SV C (k + 20) f_law ss (stS b op a fg st (0 : Nat)) σ QS NoXS := by
  have z := sizes
  refine step_g turn0 (T := tri [] [(7, c7)] []) (E := tri [] [(sc ",", c7)] []) H (by omega) (Nat.zero_le _) (Nat.zero_le _) hfl hss fun e σ' h1 h2 H' => ?_
  rw [nU', Bu_eq] at H'
  exact q σ' e ⟨h1, h2⟩ H'
theorem five_1 {st : Int} {ss : List Stmt} {QS : MF → Env1 → Sto → Prop} (hfl : figs.length = 20) (hss : ss = forBody (nthS (bodO (fnS pw_sa0154_01 48)) 5)) {e0 : En} (H : StIn σ b Bu op (kp1 e0) [(7, c7)] [] a (ep1 e0) [(sc ",", c7)] [] fg figs)
    (q : ∀ σ' e, okE e [.fy, .fx] → StIn σ' b Bp op (kp2 e0 e) [(7, c7)] [] a (ep2 e0 e) [(sc ",", c7)] [] fg figs → QS .next (stE b op a fg st) σ') : SV C (k + 20) f_law ss (stS b op a fg st (1 : Nat)) σ QS NoXS := by
  have z := sizes
  refine step_g turn1 (T := tri (kp1 e0) [(7, c7)] []) (E := tri (ep1 e0) [(sc ",", c7)] []) H (by omega) (len_l1 _) (len_m1 _) hfl hss fun e σ' h1 h2 H' => ?_
  rw [nP', Bp_eq] at H'
  exact q σ' e ⟨h1, h2⟩ H'
theorem five_2 {st : Int} {ss : List Stmt} {QS : MF → Env1 → Sto → Prop} (hfl : figs.length = 20) (hss : ss = forBody (nthS (bodO (fnS pw_sa0154_01 48)) 5)) {e0 e1 : En} (H : StIn σ b Bp op (kp2 e0 e1) [(7, c7)] [] a (ep2 e0 e1) [(sc ",", c7)] [] fg figs)
    (q : ∀ σ' e, okE e [.yfx, .xfy, .xfx] → StIn σ' b Bp2 op (kp2 e0 e1) (ki1 e) [] a (ep2 e0 e1) (ei1 e) [] fg figs → QS .next (stE b op a fg st) σ') : SV C (k + 20) f_law ss (stS b op a fg st (2 : Nat)) σ QS NoXS := by
  have z := sizes
  refine step_g turn2 (T := tri (kp2 e0 e1) [(7, c7)] []) (E := tri (ep2 e0 e1) [(sc ",", c7)] []) H (by omega) (of_decide_eq_true rfl) (of_decide_eq_true rfl) hfl hss fun e σ' h1 h2 H' => ?_
  rw [nP2', Bp2_eq] at H'
  exact q σ' e ⟨h1, h2⟩ H'
theorem five_3 {st : Int} {ss : List Stmt} {QS : MF → Env1 → Sto → Prop} (hfl : figs.length = 20) (hss : ss = forBody (nthS (bodO (fnS pw_sa0154_01 48)) 5)) {e0 e1 e2 : En} (H : StIn σ b Bp2 op (kp2 e0 e1) (ki1 e2) [] a (ep2 e0 e1) (ei1 e2) [] fg figs)
    (q : ∀ σ' e, okE e [.yfx, .xfy, .xfx] → StIn σ' b Bw op (kp2 e0 e1) (ki2 e2 e) [] a (ep2 e0 e1) (ei2 e2 e) [] fg figs → QS .next (stE b op a fg st) σ') : SV C (k + 20) f_law ss (stS b op a fg st (3 : Nat)) σ QS NoXS := by
  have z := sizes
  refine step_g turn3 (T := tri (kp2 e0 e1) (ki1 e2) []) (E := tri (ep2 e0 e1) (ei1 e2) []) H (by omega) (len_l3 _) (len_m3 _) hfl hss fun e σ' h1 h2 H' => ?_
  rw [nW', Bw_eq] at H'
  exact q σ' e ⟨h1, h2⟩ H'
theorem five_4 {st : Int} {ss : List Stmt} {QS : MF → Env1 → Sto → Prop} (hfl : figs.length = 20) (hss : ss = forBody (nthS (bodO (fnS pw_sa0154_01 48)) 5)) {e0 e1 e2 e3 : En} (H : StIn σ b Bw op (kp2 e0 e1) (ki2 e2 e3) [] a (ep2 e0 e1) (ei2 e2 e3) [] fg figs)
    (q : ∀ σ' e, okE e [.yf, .xf] → StIn σ' b Bq op (kp2 e0 e1) (ki2 e2 e3) (ko1 e) a (ep2 e0 e1) (ei2 e2 e3) (eo1 e) fg figs → QS .next (stE b op a fg st) σ') : SV C (k + 20) f_law ss (stS b op a fg st (4 : Nat)) σ QS NoXS := by
  have z := sizes
  refine step_g turn4 (T := tri (kp2 e0 e1) (ki2 e2 e3) []) (E := tri (ep2 e0 e1) (ei2 e2 e3) []) H (by omega) (Nat.zero_le _) (Nat.zero_le _) hfl hss fun e σ' h1 h2 H' => ?_
  rw [nQ', Bq_eq] at H'
  exact q σ' e ⟨h1, h2⟩ H'
theorem five {st : Int} {i : Nat} (hi : i < 5) (hfl : figs.length = 20) (hI : FI5 b op a fg figs st i ρ σ) {ss : List Stmt} {QS : MF → Env1 → Sto → Prop} (hss : ss = forBody (nthS (bodO (fnS pw_sa0154_01 48)) 5)) (q : ∀ ρ σ', FI5 b op a fg figs st (i + 1) ρ σ' → QS .next ρ σ') :
    SV C (k + 20) f_law ss (stS b op a fg st i) σ QS NoXS := by
  obtain ⟨rfl, hI⟩ := hI
  rcases (by omega : i = 0 ∨ i = 1 ∨ i = 2 ∨ i = 3 ∨ i = 4) with rfl | rfl | rfl | rfl | rfl
  · exact five_0 hfl hss hI fun σ' e h H' => q _ _ ⟨rfl, e, h, H'⟩
  · obtain ⟨e0, h0, H⟩ := hI
    exact five_1 hfl hss H fun σ' e h H' => q _ _ ⟨rfl, e0, e, h0, h, H'⟩
  · obtain ⟨e0, e1, h0, h1, H⟩ := hI
    exact five_2 hfl hss H fun σ' e h H' => q _ _ ⟨rfl, e0, e1, e, h0, h1, h, H'⟩
  · obtain ⟨e0, e1, e2, h0, h1, h2, H⟩ := hI
    exact five_3 hfl hss H fun σ' e h H' => q _ _ ⟨rfl, e0, e1, e2, e, h0, h1, h2, h, H'⟩
  · obtain ⟨e0, e1, e2, e3, h0, h1, h2, h3, H⟩ := hI
    exact five_4 hfl hss H fun σ' e h H' => q _ _ ⟨rfl, e0, e1, e2, e3, e, h0, h1, h2, h3, h, H'⟩
theorem law_body {sa : Addr} {xs : List Int} (hS : ∃ vs, C.h₁.IsList sa (List.toArray vs) ∧ ∀ g, VRs g (xs.map .int) vs) (hx : xs.length ≤ 1000) (H : Has σ []) (q : ∀ σ', Q (.bool true) σ') :
    SV C (k + 111) f_law (bodO (fnS pw_sa0154_01 48)) [(Str.ofString "script", .ref sa)] σ (FnQ Q) NoXS := by
  refine vS_cut o_law 5 (by kernel_rfl) ?_
  walk_at "w"
  refine figures_spec H hS hx fun fg figs σ₁ hfl hfo H₁ => ?_
  walk_at "w"
  refine CV_class_H H₁ (mk_Symbols C) fun o d σ₂ H₂ => ?_
  refine syminit_spec H₂ fun tx an fn fnn σ₃ H₃ => ?_
  refine ⟨rfl, ?_⟩
  obtain ⟨kv, kt, ok, H₃⟩ := H₃
  walk_at "w"
  refine CV_class_H H₃ (mk_OperatorTable C) fun o2 d2 σ₄ H₄ => ?_
  refine opinit_spec (b := ⟨o, d, tx, an, fn, fnn⟩) H₄ fun pre inf post σ₅ H₅ => ?_
  refine ⟨rfl, ?_⟩
  walk_at "w"
  have hg : ∀ j, (hj : j < 20) → (figs.map MV.int)[j]? = some (.int (figs[j]'(by omega))) := fun j hj => by
    rw [List.getElem?_map, List.getElem?_eq_getElem (by omega)]; rfl
  have hb13 := hfo _ (List.getElem_mem (show 13 < figs.length by omega))
  have hfgm : (fg, MObj.list (figs.map MV.int)) ∈ opsL ⟨o, d, tx, an, fn, fnn⟩ ⟨o2, d2, pre, inf, post⟩ [] [(7, En.mv ⟨1000, .xfy⟩)] [] (bookL ⟨o, d, tx, an, fn, fnn⟩ B0 kv kt [(fg, .list (figs.map .int))]) := by simp [opsL, bookL]
  refine SubV_list (H₅.get hfgm) (by decide) (hg 13 (by decide)) (fun _ _ => rfl) (by rw [List.length_map]; omega) ?_
  walk_at "w"
  refine BV_mul (small_bits hb13.1 hb13.2) ?_
  walk_at "w"
  refine SubV_list (H₅.get hfgm) (by decide) (hg 14 (by decide)) (fun _ _ => rfl) (by rw [List.length_map]; omega) ?_
  walk_at "w"
  refine BV_add ?_
  generalize figs[13] * 96 + figs[14] = st
  walk_at "w"
  with_reducible refine' EV_Dict3V o_law (x := sc "prefix") (y := sc "infix") (z := sc "postfix") ?d1 ?d3 ?_
  case d1 => exact ⟨_, _, _, _, _, _, _, rfl⟩
  case d3 => decide
  walk_at "w"
  refine EV_Dict0H (.dS []) .dS H₅ fun ap σ₆ H₆ => ?_
  walk_at "w"
  refine EV_Dict1H (vE_in o_law ?_)
  walk_at "w"
  refine ⟨_, H₆, fun ai σ₇ H₇ => ?_⟩
  walk_at "w"
  refine EV_Dict0H (.dS []) .dS H₇ fun ao σ₈ H₈ => ?_
  walk_at "w"
  rename_i ae σ₉ H₉
  have HS : StIn σ₉ ⟨o, d, tx, an, fn, fnn⟩ B0 ⟨o2, d2, pre, inf, post⟩ [] [(7, c7)] [] ⟨ae, ap, ai, ao⟩ [] [(sc ",", c7)] [] fg figs := ⟨kv, kt, ok, lay2 (a := ⟨ae, ap, ai, ao⟩) H₉⟩
  refine SV_weak (ρ₀ := stE ⟨o, d, tx, an, fn, fnn⟩ ⟨o2, d2, pre, inf, post⟩ ⟨ae, ap, ai, ao⟩ fg st) (by walk_at "sub") ?_
  refine SV_body rfl ?_
  refine SV_cons ?_
  refine SV_ForRange (k := k + 109) ?_ (by kernel_rfl) (fun _ => rfl) (fun _ _ => rfl) (by kernel_rfl) (by kernel_rfl) (by kernel_rfl) (by kernel_rfl) (by kernel_rfl)
  refine EV_int ?_
  refine ⟨5, rfl, by decide, FI5 ⟨o, d, tx, an, fn, fnn⟩ ⟨o2, d2, pre, inf, post⟩ ⟨ae, ap, ai, ao⟩ fg figs st, ⟨rfl, HS⟩, ?_, ?_⟩
  · rintro i ρ' σ' hi hI
    obtain ⟨rfl, _⟩ := id hI
    refine ⟨stS ⟨o, d, tx, an, fn, fnn⟩ ⟨o2, d2, pre, inf, post⟩ ⟨ae, ap, ai, ao⟩ fg st i, by walk_at "put", rfl, ?_⟩
    exact five (k := k + 91) hi hfl hI rfl fun ρ σ' h => h
  · rintro ρ' σ' ⟨rfl, e0, e1, e2, e3, e4, h0, h1, h2, h3, h4, HT⟩
    exact law_tail h0 h1 h2 h3 h4 hfl hfo HT rfl q
end
end Mine
end
section
open PySem PySem.W PySem.Calls PyProof.Rows PySem.Challenge
set_option maxHeartbeats 400000
namespace Mine
section
variable {C : Cx} {k : Nat} {f : FI} {ρ : Env1} {σ : Sto} {X : ExcP} {Q : MV → Sto → Prop} {g : Stab} {s : Shared} {A : Around}
/-- the first call of all -/
theorem CV_top {names : List Str} {body : List Stmt} {args : List MV} {vs : List Value} (D : DefIn C.KK f names body) (hl : args.length = names.length) (h : SV C k f body (names.zip args) σ (FnQ Q) NoXS)
    (hs : C.h₁.objs.size ≤ s.heap.objs.size) (rm : Room A (k + 1) []) (R : Rel C g σ [] s) (vr : VRs g args vs) : codeAny C.M A (.call (.ref f.addr) ⟨vs, []⟩) (PostR C g [] Q NoX) s := by
  have hlen : vs.length = names.length := by rw [vr.length, hl]
  refine codeAny_call_def (fd := f.fd) (body := body) (binds := names.zip vs) (by have := rm.depth; omega) (R.Kin _ _ D.at_) rfl (C.T.nolimit.keeps R.keepsB) (codeRec_of R.Kin D.code) D.body (D.bind s vs R.Kin hlen) ?_ ?_ (fun h₀ hns hk => ?_) D.co D.gen D.kind
  · intro x hx
    have := List.all_eq_true.mp D.cell x hx
    simpa using this
  · intro x hx
    have hx' := (List.of_mem_zip hx).1
    have := List.all_eq_true.mp D.locs x.1 hx'
    simpa using this
  · have N := R.fresh (noneAt s.heap)
    have R' : Rel C g σ ((f.env s.heap.objs.size, s.heap.objs.size, fun x => (names.zip vs).reverse.lookup x) :: []) { s with heap := h₀, toks := s.toks + (names.zip vs).length } :=
      ⟨R.base, fun a o e => hk a o (R.keep a o e), fun a mo e => ⟨(R.objs a mo e).1, (R.objs a mo e).2.at fun o => hk a o⟩, ⟨⟨rfl, D.kind, hns, hs, N.g, N.s, N.f⟩, trivial⟩, R.gens, R.os⟩
    refine wpAny_mono (h (A.deeper (f.env s.heap.objs.size)) s.heap.objs.size _ [] g _ rm.call R' (loc_zip vr D.nodup hl)) (fun fl s' z => ?_) fun e s' z => ?_
    · obtain ⟨mf, ρ', m', g', σ', x, R'', l', fr, q⟩ := z
      cases mf with
      | next => obtain rfl : fl = .next := fr; exact ⟨.none, g', σ', x, R''.drop, .none, q⟩
      | ret v => obtain ⟨v', rfl, hv⟩ := fr; exact ⟨v, g', σ', x, R''.drop, hv, q⟩
      | brk => exact q.elim
      | cont => exact q.elim
    · obtain ⟨_, _, _, _, _, _, _, _, _, _, q⟩ := z
      exact q.elim
end
theorem items_int {R : WRecords} : ∀ {xs : List WData}, WShape.hasItems R xs .int = true → ∃ ns : List Int, xs = ns.map .int
  | [], _ => ⟨[], rfl⟩
  | x :: r, h => by
    simp only [WShape.hasItems, Bool.and_eq_true] at h
    obtain ⟨i, rfl⟩ := hasW_int h.1
    obtain ⟨ns, rfl⟩ := items_int h.2
    exact ⟨i :: ns, rfl⟩
theorem reads_ints {R : WRecords} {cl : Str → Option Addr} {h : Heap} {vs : List Value} {ns : List Int} {as : List Addr} (r : ReadsAllW R cl h vs (ns.map .int) as) (g : Stab) : VRs g (ns.map MV.int) vs := by
  induction ns generalizing vs as with
  | nil => cases r; exact .nil
  | cons n ns ih =>
    rw [List.map_cons] at r
    cases r with
    | cons r1 r2 =>
      cases r1 with
      | int i t => exact .cons (by simp only [VR]; exact ⟨t, rfl⟩) (ih r2)
theorem walk : WalkSt := by
  intro w s₀ s₁ mg mb G Y a o pm cd doc dV kV ha hd hcd hdf hmg hgens args vals as hpre hlay hrd hwell hsys
  let C : Cx := ⟨w, s₁.heap, s₁.os, mg, mb, topRead_of G.T, Y⟩
  have hlaw : mg (Str.ofString "law") = some (.ref 559) := mg_of C.K C.T.g (c_law C)
  have ha' : a = 559 := by
    have h1 : mg (Str.ofString "law") = some (.ref a) := hmg
    rw [hlaw] at h1
    cases h1
    rfl
  subst ha'
  obtain ⟨h1, h2⟩ := pre_splitW hpre
  obtain ⟨d, r, rfl, h3, h4⟩ := hasAllW_cons (show WShape.hasAll rwW.records args [.list .int] = true from h1)
  obtain rfl := hasAllW_nil h4
  obtain ⟨xs, rfl, h5⟩ := hasW_list h3
  obtain ⟨ns, rfl⟩ := items_int h5
  have hlen : ns.length ≤ 1000 := by
    have h6 : (WTm.and (.not (.lt (.lit (.int 63)) (.len (.arg 0)))) (.lit (.bool true))).holds rwW.records { args := [.list (ns.map .int)] } = true := h2
    by_cases hc : (63 : Int) < ns.length
    · have : less? (.int 63) (.int ns.length) = some true := by unfold PySem.W.less?; simp [Num.less?, hc]
      simp [WTm.holds, WTm.value, this] at h6
    · omega
  cases hrd with
  | cons r1 r2 =>
  cases r2
  cases r1 with
  | list ho hc hdat hels =>
  rename_i sa ol vs n as'
  have R0 : Rel C C.h₁.get? (fun _ => none) [] s₁ := ⟨fun _ _ e => e, fun _ _ e => e, fun _ _ e => (by cases e), trivial, hgens, rfl⟩
  have rm : Room callerA (111 + 1) [] := ⟨by decide, by decide, rfl, fun _ => rfl⟩
  have hS : ∃ vs, C.h₁.IsList sa (List.toArray vs) ∧ ∀ g, VRs g (ns.map MV.int) vs := ⟨vs.toList, ⟨ol, ho, hc, n, by simpa using hdat⟩, reads_ints hels⟩
  have H0 : Has (fun _ => none) [] := ⟨List.nodup_nil, fun p hp => (by cases hp)⟩
  refine wpAny_call (codeAny_mono (CV_top (C := C) (k := 111) (f := f_law) (args := [.ref sa]) (Q := fun v _ => v = .bool true) (d_law C) rfl (law_body (k := 0) hS hlen H0 fun _ => rfl) (Nat.le_refl _) rm R0 (.one (.ref sa))) fun r s' z => ?_)
  rcases r with e | fl
  · obtain ⟨_, _, _, _, _, _, _, q⟩ := z; exact q.elim
  · cases fl with
    | ret v =>
      obtain ⟨mv, g', σ', x, R', vr, rfl⟩ := z
      have hv : v = .bool true := by simpa only [VR] using vr
      subst hv
      refine ⟨.inl ⟨.bool true, .bool true, [], rfl, fun _ => rfl, .bool true, ?_, fun _ => ⟨List.nodup_nil, fun a ha => (by cases ha)⟩⟩, .of_keep R'.keepsB, R'.os, ?_⟩
      · show (WShape.has rwW.records (.bool true) .bool && (WTm.eq .res (.lit (.bool true))).holds rwW.records { args := [.list (ns.map .int)], res := some (.bool true), after := [.list (ns.map .int)] }) = true
        have : same (.bool true) (.bool true) = true := by simp [same]
        simp [WShape.has, WShape.arms, WTm.holds, WTm.value, this]
      · exact .of_eq R'.gens
    | _ => exact z.elim
end Mine
end
theorem PySem.Challenge.cw_sa0154_01_holds : PySem.Challenge.rw_sa0154_01.Holds := by
  exact Mine.head Mine.walk
