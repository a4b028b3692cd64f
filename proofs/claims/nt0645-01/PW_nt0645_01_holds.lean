import PyProof.Rows.All
import Wide.All
import OpenK.AllK
import Wide.FinOn
import Lean
import PySem.Challenge.RW_nt0645_01
open PySem.Str renaming ofString->cV1
open Bool renaming noConfusion->cV2, and_eq_true->cX7, and_eq_true_iff->cZ7, or_eq_true_iff->db7, not_eq_true'->db8, or_eq_false_iff->dc0, and_false->dd6, false_ne_true->de8, or_false->df0
open Nat renaming le_of_ble_eq_true->cV3, le_trans->cV5, add_le_add->cW8, le_refl->cX4, zero_le->cY8, lt_succ_self->cZ9, ne_of_lt->da3, lt_of_lt_of_le->da7, lt_of_le_of_lt->db2, add_le_add_right->dc8, mul_le_mul_left->dd5, le_add_right->de6, succ_pos->dg3, lt_trans->dh6, le_of_eq->dh7, lt_irrefl->di0
open PySem renaming wpAny_bind->cV4, wpAny_pure->cW4, mainGlobals->cW5, starEach->cW7, wpAny_loadName_local->cW9, swappedStores->cX1, builtinLookup_eq_fast->cY3, compareOp->cZ0, wpAny_items_nil->cZ1, builtinsNs->cZ8, wpAny_specialOf->da5, typeLookup_type->da6, wpAny_holding->da9, wpAny_Name->db9, holding->dc2, wpAny_of_eq->dc5, wpAny_field->dc6, keywordEach->dd1, swapsWith->dd3, standAt->dd4, OsState->de5, isSubtype_type->df1, wpAny_truthy_bool->df3, sizeLine_eq->df4, wpAny_mono->df8, swapsWithSole->df9, entryFor_of_tree->dg1, assignEach->dg2, treeTable->dg4, getMethod->dg5
open PySem.Heap renaming get?_push_of_some->cV6, get?_push_size->cX3, lt_size->cY9, get?_update_self->da8, SameBut->db1, get?_update_other->dc4
open List renaming length_append->cV7, getD_eq_getElem?_getD->cV8, mem_singleton->cW0, mem_of_getElem?->cW1, getElem?_eq_getElem->cW2, length_map->cW3, append_assoc->cW6, getElem?_map->cX2, mem_cons_self->cX5, getElem?_eq_some_iff->cX6, mem_cons->cY1, mem_cons_of_mem->cZ2, all_eq_true->cZ3, append_nil->cZ4, length_cons->da0, getElem?_set->db0, replicate->db4, getElem_mem->db5, lookup_cons->dc3, not_mem_nil->dc9, size_toArray->dd2, suffix_rfl->dd7, mem_append->dd8, map_append->dd9, length_filter_le->de1, contains_iff_mem->de2, drop_eq_getElem_cons->de7, length->df5, getElem?_cons_succ->df6, nodup_cons->dh2, length_nil->dh3, take_add_one->dh5
open PySem.BindsTo renaming of_eq->cV9
open PySem.W.Fast renaming tw14364793385576792824->cX0, te14364793385576792824->cX8, tw12563942051412417395->cY4, tw10110043849684766642->cY5, te12563942051412417395->cY6, te10110043849684766642->cY7
open False renaming elim->cX9
open PySem.Challenge renaming rw_nt0645_01->cY0
open Option.some renaming inj->cY2
open Int renaming le_refl->cZ5, fmod_nonneg_of_pos->cZ6, natCast_nonneg->da1, fmod_lt_of_pos->da2, le_trans->da4, add_zero->db6, add_assoc->de9, ofNat_lt->dh8
open Exists renaming elim->db3
open Array renaming getElem?_eq_some_iff->dc1
open PySem.Obj renaming putNameByArray->dc7, putName_eq->dg7, mapFields->dh9
open PySem.Builtin.Bytes renaming window->dd0, buffer?->de3, literal->dh0, literalAsked->dh4
open PySem.Calls renaming Name_function_global->de0
open PySem.Stmt renaming Assign->de4
open PySem.Value renaming ref->df2, none->dh1
open PySem.Heap.SameBut renaming update->df7
open PySem.W renaming instObj->dg0
open PySem.Sem renaming wp_mono->dg6
open PySem.Builtin renaming bitAnd->dg8
open PySem.F renaming slot_dict_get->dg9
open PySem PySem.W PyProof.Rows
set_option Elab.async false
set_option maxRecDepth 100000
set_option linter.all false
set_option tactic.hygienic false
set_option genSizeOf false
set_option genInjectivity false
set_option maxHeartbeats 0
namespace Mine
theorem ws:PySem.Challenge.rw_nt0645_01.wellSaid=true:=by kernel_rfl
theorem bh0(h:PySem.Challenge.rw_nt0645_01.row.wellSaid=true->PySem.Challenge.rw_nt0645_01.row.Holds):PySem.Challenge.rw_nt0645_01.Holds:=holds_law ws h
noncomputable abbrev pw:Program:=PySem.Challenge.pw_nt0645_01
noncomputable abbrev rw0:RowW:=PySem.Challenge.rw_nt0645_01.row.toRowW
noncomputable def qv:Program:= {pw with main:= {pw.main with body:=pw.main.body.drop 77}}
noncomputable def ap5:List Str:=[cV1 "_wall",cV1 "BLANKS",cV1 "Limits",cV1 "LuaError",cV1 "LuaSyntaxError",cV1 "is_number",cV1 "wrap",cV1 "is_blank",cV1 "is_blank_values",cV1 "digit_of",cV1 "read_digits",cV1 "skip_blanks",cV1 "str_to_number",cV1 "text_in_base",cV1 "number_text",cV1 "to_text",cV1 "c_text",cV1 "first_line",cV1 "chunk_id",cV1 "END_OF_TEXT",cV1 "FIRST_RESERVED",cV1 "RESERVED",cV1 "TK_AND",cV1 "TK_CONCAT",cV1 "TK_DOTS",cV1 "TK_EQ",cV1 "TK_GE",cV1 "TK_LE",cV1 "TK_NE",cV1 "TK_NUMBER",cV1 "TK_NAME",cV1 "TK_STRING",cV1 "TK_EOS",cV1 "OTHER_TEXTS",cV1 "SOURCE_SIZE",cV1 "MOST_LINES",cV1 "NEWLINE",cV1 "RETURN",cV1 "QUOTE_DOUBLE",cV1 "QUOTE_SINGLE",cV1 "PLUS",cV1 "MINUS",cV1 "DOT",cV1 "LESS",cV1 "EQUALS",cV1 "GREATER",cV1 "BRACKET_OPEN",cV1 "BACKSLASH",cV1 "BRACKET_CLOSE",cV1 "UNDERSCORE",cV1 "TILDE",cV1 "is_digit",cV1 "is_letter",cV1 "is_name_sign",cV1 "is_blank_lexer",cV1 "is_control",cV1 "is_newline",cV1 "escaped_sign",cV1 "reserved_kinds",cV1 "token_text",cV1 "Token",cV1 "Lexer",cV1 "all_tokens",cV1 "_law_words",cV1 "_law_gaps",cV1 "_law_bad",cV1 "_law_signs",cV1 "_law_octets",cV1 "_law_quoted",cV1 "_law_long",cV1 "_law_digits",cV1 "_law_token",cV1 "_law_refused"]
noncomputable def Heap.incl(a b:Heap):Prop:=∀x o,a.get? x=some o->b.get? x=some o
noncomputable abbrev Xt:Shared->Bool:=λs=>xlAt qv [] s&&recOk (RowW.records rw0) s
noncomputable def at_(p:Program)(i:Nat):Stmt:=p.main.body.getD i (.Pass default)
noncomputable def me(p:Program)(i j:Nat):Stmt:=match at_ p i with
 | .ClassDef _ _ _ b _ _ _ _ _ _ _=>b.getD j (.Pass default)
 |s=>s
noncomputable def S(s:String)(t:Nat):Value:= .str (cV1 s) t
noncomputable def I(i:Int)(t:Nat):Value:= .int i t
noncomputable def B(l:List UInt8)(t:Nat):Value:= .bytes l.toArray t
noncomputable def tup(l:List Value):Obj:= {cls:= .type "tuple",data:= .seq l.toArray}
noncomputable def lst(l:List Value):Obj:= {cls:= .type "list",data:= .seq l.toArray}
noncomputable def fld(l:List Value):Obj:= {cls:= .none,data:= .fields l.toArray}
noncomputable def dct(P:Params)(l:List (String×Nat×Value)):Array DictEntry:=(l.map λx=>(⟨PyData.keyHash P (cV1 x.1), .str (cV1 x.1) x.2.1,x.2.2⟩:DictEntry)).toArray
noncomputable def fd(st:Stmt)(q:String):Obj:=match st with
 | .FunctionDef n a b _ _ _ sc _ _ _=> {cls:= .none,data:= .func {name:=n,qualname:=cV1 q,params:=a,body:= .stmts b,scope:=sc,globals:=0,closure:=[],defaults:= .none,kwdefaults:= .none}}
 |_=>default
noncomputable def fn(st:Stmt)(q:String)(dflt md cd:Value):Obj:=match st with
 | .FunctionDef n a b _ _ _ sc _ _ _=> {cls:= .type "function",data:= .func {name:=n,qualname:=cV1 q,params:=a,body:= .stmts b,scope:=sc,globals:=3,closure:=[],defaults:=dflt,kwdefaults:= .none,pyModule:=md,code:=cd}}
 |_=>default
noncomputable def cl(n q:String)(bs mro:List Value)(ns:Nat)(subs:List Value):ClassData:= {name:=cV1 n,bases:=bs,mro:=mro,ns:=ns,qualname:=cV1 q,subclasses:=subs}
noncomputable def glr(ib:Nat):List (String×Nat×Value):=[("__doc__",166, .none),("__package__",167, .none),("__loader__",168, .builtin "__main__.__loader__#opaque"),("__spec__",169, .none),("__annotations__",170, .ref 6),("__builtins__",171, .ref 4),("__file__",173,S "/claim/cut.py" 172),("__cached__",174, .none),("_wall",193, .ref 21),("BLANKS",197,B [32,9,10,11,12,13] 196),("Limits",268, .ref 53),("LuaError",298, .ref 74),("LuaSyntaxError",314, .ref 87),("is_number",321, .ref 96),("wrap",330, .ref 103),("is_blank",337, .ref ib),("is_blank_values",338, .ref 110),("digit_of",345, .ref 117),("read_digits",356, .ref 124),("skip_blanks",364, .ref 131),("str_to_number",372, .ref 138),("text_in_base",386, .ref 145),("number_text",395, .ref 152),("to_text",402, .ref 159),("c_text",410, .ref 166),("first_line",418, .ref 173),("chunk_id",429, .ref 180),("END_OF_TEXT",434,I (-1) 433),("FIRST_RESERVED",436,I 257 435),("RESERVED",458, .ref 181),("TK_AND",460,I 257 459),("TK_CONCAT",462,I 278 461),("TK_DOTS",464,I 279 463),("TK_EQ",466,I 280 465),("TK_GE",468,I 281 467),("TK_LE",470,I 282 469),("TK_NE",472,I 283 471),("TK_NUMBER",474,I 284 473),("TK_NAME",476,I 285 475),("TK_STRING",478,I 286 477),("TK_EOS",480,I 287 479),("OTHER_TEXTS",491, .ref 182),("SOURCE_SIZE",493,I 80 492),("MOST_LINES",495,I 2147483645 494),("NEWLINE",497,I 10 496),("RETURN",499,I 13 498),("QUOTE_DOUBLE",501,I 34 500),("QUOTE_SINGLE",503,I 39 502),("PLUS",505,I 43 504),("MINUS",507,I 45 506),("DOT",509,I 46 508),("LESS",511,I 60 510),("EQUALS",513,I 61 512),("GREATER",515,I 62 514),("BRACKET_OPEN",517,I 91 516),("BACKSLASH",519,I 92 518),("BRACKET_CLOSE",521,I 93 520),("UNDERSCORE",523,I 95 522),("TILDE",525,I 126 524),("is_digit",532, .ref 189),("is_letter",539, .ref 196),("is_name_sign",546, .ref 203),("is_blank_lexer",554, .ref 210),("is_control",561, .ref 217),("is_newline",568, .ref 224),("escaped_sign",576, .ref 231),("reserved_kinds",585, .ref 238),("token_text",593, .ref 245),("Token",624, .ref 262),("Lexer",873, .ref 465),("all_tokens",885, .ref 476),("_law_words",893, .ref 483),("_law_gaps",899, .ref 490),("_law_bad",905, .ref 497),("_law_signs",913, .ref 504),("_law_octets",922, .ref 511),("_law_quoted",936, .ref 518),("_law_long",942, .ref 523),("_law_digits",951, .ref 530),("_law_token",967, .ref 537),("_law_refused",975, .ref 544),("law",981, .ref 549)]
noncomputable def tblr:List Value:=[I 1 0,I 0 0, .ref 20,I 6 0,I 0 0, .ref 27,I 25 0,I 0 0, .ref 63,I 30 0,I 0 0, .ref 83,I 32 0,I 0 0, .ref 95,I 34 0,I 0 0, .ref 102,I 39 0,I 0 0, .ref 109,I 42 0,I 0 0, .ref 116,I 50 0,I 0 0, .ref 123,I 59 0,I 0 0, .ref 130,I 63 0,I 0 0, .ref 137,I 65 0,I 0 0, .ref 144,I 77 0,I 0 0, .ref 151,I 87 0,I 0 0, .ref 158,I 93 0,I 0 0, .ref 165,I 98 0,I 0 0, .ref 172,I 103 0,I 0 0, .ref 179,I 149 0,I 0 0, .ref 188,I 151 0,I 0 0, .ref 195,I 153 0,I 0 0, .ref 202,I 155 0,I 0 0, .ref 209,I 158 0,I 0 0, .ref 216,I 160 0,I 0 0, .ref 223,I 162 0,I 0 0, .ref 230,I 165 0,I 0 0, .ref 237,I 170 0,I 0 0, .ref 244,I 177 0,I 0 0, .ref 251,I 182 0,I 0 0, .ref 272,I 435 0,I 0 0, .ref 475,I 443 0,I 0 0, .ref 482,I 445 0,I 0 0, .ref 489,I 447 0,I 0 0, .ref 496,I 449 0,I 0 0, .ref 503,I 454 0,I 0 0, .ref 510,I 460 0,I 0 0, .ref 517,I 476 0,I 0 0, .ref 522,I 487 0,I 0 0, .ref 529,I 493 0,I 0 0, .ref 536,I 514 0,I 0 0, .ref 543,I 520 0,I 0 0, .ref 548]
noncomputable def sta:Params->Obj:=λP=>⟨.none,none, .dict (dct P [("type.__subclasses__.Exception.0",295,I 74 0),("type.__subclasses__.Exception.n",296,I 1 0)]) 2, #[]⟩
noncomputable def c0(P:Params)(s2:Obj)(nm:Value)(ib n t:Nat):List Obj:=[
 ⟨.type "dict",none, .dict (dct P [("__name__",1,S "builtins" 160),("__doc__",2, .builtin "builtins.__doc__:str#opaque"),("__package__",3, .builtin "builtins.__package__:str#opaque"),("__loader__",4, .builtin "builtins.__loader__:shared#opaque"),("__spec__",5, .builtin "builtins.__spec__#opaque"),("__build_class__",6, .builtin "__build_class__"),("__import__",7, .builtin "__import__"),("abs",8, .builtin "abs"),("all",9, .builtin "all"),("any",10, .builtin "any"),("ascii",11, .builtin "ascii"),("bin",12, .builtin "bin"),("breakpoint",13, .builtin "breakpoint"),("callable",14, .builtin "callable"),("chr",15, .builtin "chr"),("compile",16, .builtin "compile"),("delattr",17, .builtin "delattr"),("dir",18, .builtin "dir"),("divmod",19, .builtin "divmod"),("eval",20, .builtin "eval"),("exec",21, .builtin "exec"),("format",22, .builtin "format"),("getattr",23, .builtin "getattr"),("globals",24, .builtin "globals"),("hasattr",25, .builtin "hasattr"),("hash",26, .builtin "hash"),("hex",27, .builtin "hex"),("id",28, .builtin "id"),("input",29, .builtin "input"),("isinstance",30, .builtin "isinstance"),("issubclass",31, .builtin "issubclass"),("iter",32, .builtin "iter"),("aiter",33, .builtin "aiter"),("len",34, .builtin "len"),("locals",35, .builtin "locals"),("max",36, .builtin "max"),("min",37, .builtin "min"),("next",38, .builtin "next"),("anext",39, .builtin "anext"),("oct",40, .builtin "oct"),("ord",41, .builtin "ord"),("pow",42, .builtin "pow"),("print",43, .builtin "print"),("repr",44, .builtin "repr"),("round",45, .builtin "round"),("setattr",46, .builtin "setattr"),("sorted",47, .builtin "sorted"),("sum",48, .builtin "sum"),("vars",49, .builtin "vars"),("None",50, .none),("Ellipsis",51, .ellipsis),("NotImplemented",52, .notImplemented),("False",53, .bool false),("True",54, .bool true),("bool",55, .type "bool"),("memoryview",56, .type "memoryview"),("bytearray",57, .type "bytearray"),("bytes",58, .type "bytes"),("classmethod",59, .type "classmethod"),("complex",60, .type "complex"),("dict",61, .type "dict"),("enumerate",62, .type "enumerate"),("filter",63, .type "filter"),("float",64, .type "float"),("frozenset",65, .type "frozenset"),("property",66, .type "property"),("int",67, .type "int"),("list",68, .type "list"),("map",69, .type "map"),("object",70, .type "object"),("range",71, .type "range"),("reversed",72, .type "reversed"),("set",73, .type "set"),("slice",74, .type "slice"),("staticmethod",75, .type "staticmethod"),("str",76, .type "str"),("super",77, .type "super"),("tuple",78, .type "tuple"),("type",79, .type "type"),("zip",80, .type "zip"),("__debug__",81, .bool true),("BaseException",82, .type "BaseException"),("BaseExceptionGroup",83, .type "BaseExceptionGroup"),("Exception",84, .type "Exception"),("GeneratorExit",85, .type "GeneratorExit"),("KeyboardInterrupt",86, .type "KeyboardInterrupt"),("SystemExit",87, .type "SystemExit"),("ArithmeticError",88, .type "ArithmeticError"),("AssertionError",89, .type "AssertionError"),("AttributeError",90, .type "AttributeError"),("BufferError",91, .type "BufferError"),("EOFError",92, .type "EOFError"),("ImportError",93, .type "ImportError"),("LookupError",94, .type "LookupError"),("MemoryError",95, .type "MemoryError"),("NameError",96, .type "NameError"),("OSError",97, .type "OSError"),("ReferenceError",98, .type "ReferenceError"),("RuntimeError",99, .type "RuntimeError"),("StopAsyncIteration",100, .type "StopAsyncIteration"),("StopIteration",101, .type "StopIteration"),("SyntaxError",102, .type "SyntaxError"),("SystemError",103, .type "SystemError"),("TypeError",104, .type "TypeError"),("ValueError",105, .type "ValueError"),("Warning",106, .type "Warning"),("FloatingPointError",107, .type "FloatingPointError"),("OverflowError",108, .type "OverflowError"),("ZeroDivisionError",109, .type "ZeroDivisionError"),("BytesWarning",110, .type "BytesWarning"),("DeprecationWarning",111, .type "DeprecationWarning"),("EncodingWarning",112, .type "EncodingWarning"),("FutureWarning",113, .type "FutureWarning"),("ImportWarning",114, .type "ImportWarning"),("PendingDeprecationWarning",115, .type "PendingDeprecationWarning"),("ResourceWarning",116, .type "ResourceWarning"),("RuntimeWarning",117, .type "RuntimeWarning"),("SyntaxWarning",118, .type "SyntaxWarning"),("UnicodeWarning",119, .type "UnicodeWarning"),("UserWarning",120, .type "UserWarning"),("BlockingIOError",121, .type "BlockingIOError"),("ChildProcessError",122, .type "ChildProcessError"),("ConnectionError",123, .type "ConnectionError"),("FileExistsError",124, .type "FileExistsError"),("FileNotFoundError",125, .type "FileNotFoundError"),("InterruptedError",126, .type "InterruptedError"),("IsADirectoryError",127, .type "IsADirectoryError"),("NotADirectoryError",128, .type "NotADirectoryError"),("PermissionError",129, .type "PermissionError"),("ProcessLookupError",130, .type "ProcessLookupError"),("TimeoutError",131, .type "TimeoutError"),("IndentationError",132, .type "IndentationError"),("_IncompleteInputError",133, .type "_IncompleteInputError"),("IndexError",134, .type "IndexError"),("KeyError",135, .type "KeyError"),("ModuleNotFoundError",136, .type "ModuleNotFoundError"),("NotImplementedError",137, .type "NotImplementedError"),("PythonFinalizationError",138, .type "PythonFinalizationError"),("RecursionError",139, .type "RecursionError"),("UnboundLocalError",140, .type "UnboundLocalError"),("UnicodeError",141, .type "UnicodeError"),("BrokenPipeError",142, .type "BrokenPipeError"),("ConnectionAbortedError",143, .type "ConnectionAbortedError"),("ConnectionRefusedError",144, .type "ConnectionRefusedError"),("ConnectionResetError",145, .type "ConnectionResetError"),("TabError",146, .type "TabError"),("UnicodeDecodeError",147, .type "UnicodeDecodeError"),("UnicodeEncodeError",148, .type "UnicodeEncodeError"),("UnicodeTranslateError",149, .type "UnicodeTranslateError"),("ExceptionGroup",150, .type "ExceptionGroup"),("EnvironmentError",151, .type "OSError"),("IOError",152, .type "OSError"),("open",153, .builtin "open"),("quit",154, .builtin "builtins.quit#opaque"),("exit",155, .builtin "builtins.exit#opaque"),("copyright",156, .builtin "builtins.copyright#opaque"),("credits",157, .builtin "builtins.credits#opaque"),("license",158, .builtin "builtins.license#opaque"),("help",159, .builtin "builtins.help#opaque")]) 159, #[]⟩,
 ⟨.type "dict",none, .dict (dct P [("builtins",162, .ref 4),("__main__",163, .ref 5)]) 2, #[]⟩,
 s2,
 ⟨.type "dict",none, .dict (dct P (("__name__",165,nm)::(glr ib).take (n - 1))) n, #[]⟩,
 ⟨.type "module",some 0, .plain,[].toArray⟩,
 ⟨.type "module",some 3, .plain,[].toArray⟩,
 ⟨.type "dict",none, .dict (dct P []) 0, #[]⟩,
 tup [],
 fld [],
 ⟨.type "code",none, .fields [S "<module>" 176,S "<module>" 177,S "/claim/cut.py" 178,I 1 0,I 0 0,I 0 0,I 0 0,I 0 0, .ref 7, .bool false,I 175 0, .ref 8, .none, .none, .none, .none,I 179 0,I 1 0,S "/claim/cut.py" 180].toArray, #[]⟩,
 ⟨.type "frame",none, .plain,[some (.ref 9),some (.ref 3),some (.ref 3),none,some (S "__main__" 164),none,some (.ref 0)].toArray⟩,
 tup [],
 fld (tblr.take (3 * t)),
 ⟨.type "code",none, .fields [S "<module>" 182,S "<module>" 183,S "/claim/cut.py" 184,I 1 0,I 0 0,I 0 0,I 0 0,I 0 0, .ref 11, .bool false,I 181 0, .ref 12, .none, .none, .none, .none,I 185 0,I 1 0,S "/claim/cut.py" 186].toArray, #[]⟩,
 ⟨.type "frame",none, .plain,[some (.ref 13),some (.ref 3),some (.ref 3),none,some (S "__main__" 164),none,some (.ref 0)].toArray⟩]
noncomputable def c1(p:Program)(P:Params):List Obj:=[
 tup [],
 fld [],
 tup [S "k" 190],
 tup [],
 fd (at_ p 0) "_wall",
 ⟨.type "code",none, .fields [S "_wall" 187,S "_wall" 188,S "/claim/cut.py" 189,I 1 0,I 1 0,I 0 0,I 0 0,I 3 0, .ref 15, .bool true,I 181 0, .ref 16, .none, .ref 17, .ref 18, .ref 19,I 191 0,I 1 0,S "/claim/cut.py" 192].toArray, #[]⟩,
 fn (at_ p 0) "_wall" .none (S "__main__" 164) (.ref 20),
 tup [],
 ⟨.type "builtin_function_or_method",none, .fields [.builtin "type.__prepare__", .type "type"].toArray, #[]⟩,
 ⟨.type "dict",none, .dict (dct P [("__module__",205,S "lua.values" 194),("__qualname__",207,S "Limits" 206),("__firstlineno__",209,I 6 208),("__init__",236, .ref 36),("greatest",243, .ref 43),("least",250, .ref 50),("__static_attributes__",261, .ref 51)]) 7, #[]⟩,
 tup [],
 fld [I 8 0,I 4 0, .ref 35,I 20 0,I 4 0, .ref 42,I 23 0,I 4 0, .ref 49],
 ⟨.type "code",none, .fields [S "Limits" 200,S "Limits" 201,S "/claim/cut.py" 202,I 6 0,I 0 0,I 0 0,I 0 0,I 0 0, .ref 25, .bool false,I 181 0, .ref 26, .none, .none, .none, .none,I 203 0,I 6 0,S "/claim/cut.py" 204].toArray, #[]⟩,
 ⟨.type "frame",none, .plain,[some (.ref 27),some (.ref 3),some (.ref 24),none,some (S "lua.values" 194),none,some (.ref 0)].toArray⟩,
 tup [I 64 210,I 250 211,I 60 212,I 200 213,I 40 214,I 200 215,I 2000 216,I 50 217,I 1000000000 218,I 1000000 219],
 tup [],
 fld [],
 tup [S "self" 223,S "width" 224,S "registers" 225,S "upvalues" 226,S "local_names" 227,S "ccalls" 228,S "frames" 229,S "stack" 230,S "flush" 231,S "steps" 232,S "text" 233],
 tup [],
 fd (me p 3 0) "Limits.__init__",
 ⟨.type "code",none, .fields [S "__init__" 220,S "Limits.__init__" 221,S "/claim/cut.py" 222,I 8 0,I 11 0,I 0 0,I 0 0,I 3 0, .ref 30, .bool true,I 181 0, .ref 31, .none, .ref 32, .ref 33, .ref 34,I 234 0,I 8 0,S "/claim/cut.py" 235].toArray, #[]⟩,
 fn (me p 3 0) "Limits.__init__" (.ref 29) (S "lua.values" 194) (.ref 35),
 tup [],
 fld [],
 tup [S "self" 240],
 tup [],
 fd (me p 3 1) "Limits.greatest",
 ⟨.type "code",none, .fields [S "greatest" 237,S "Limits.greatest" 238,S "/claim/cut.py" 239,I 20 0,I 1 0,I 0 0,I 0 0,I 3 0, .ref 37, .bool true,I 181 0, .ref 38, .none, .ref 39, .ref 40, .ref 41,I 241 0,I 20 0,S "/claim/cut.py" 242].toArray, #[]⟩,
 fn (me p 3 1) "Limits.greatest" .none (S "lua.values" 194) (.ref 42),
 tup [],
 fld [],
 tup [S "self" 247],
 tup [],
 fd (me p 3 2) "Limits.least",
 ⟨.type "code",none, .fields [S "least" 244,S "Limits.least" 245,S "/claim/cut.py" 246,I 23 0,I 1 0,I 0 0,I 0 0,I 3 0, .ref 44, .bool true,I 181 0, .ref 45, .none, .ref 46, .ref 47, .ref 48,I 248 0,I 23 0,S "/claim/cut.py" 249].toArray, #[]⟩,
 fn (me p 3 2) "Limits.least" .none (S "lua.values" 194) (.ref 49),
 tup [S "ccalls" 251,S "flush" 252,S "frames" 253,S "local_names" 254,S "registers" 255,S "stack" 256,S "steps" 257,S "text" 258,S "upvalues" 259,S "width" 260],
 ⟨.type "dict",none, .dict (dct P [("__module__",205,S "lua.values" 194),("__firstlineno__",209,I 6 208),("__init__",236, .ref 36),("greatest",243, .ref 43),("least",250, .ref 50),("__static_attributes__",261, .ref 51),("__dict__",263, .ref 54),("__weakref__",265, .ref 55),("__doc__",266, .none)]) 4, #[]⟩,
 ⟨.type "type",none, .cls (cl "Limits" "Limits" [.type "object"] [.ref 53, .type "object"] 52 []),[none,none,some (S "Limits" 198),some (S "Limits" 206),some (.builtin "object.__new__"),some (.bool true)].toArray⟩,
 ⟨.type "getset_descriptor",none, .fields [S "__dict__" 262, .ref 53, .builtin "function.__dict__", .builtin "function.__dict__#set"].toArray, #[]⟩,
 ⟨.type "getset_descriptor",none, .fields [S "__weakref__" 264, .ref 53, .builtin "ExceptionGroup.__weakref__", .none].toArray, #[]⟩,
 ⟨.type "super",none, .fields [.ref 53, .ref 53, .ref 53].toArray, #[]⟩,
 ⟨.type "builtin_function_or_method",none, .fields [.builtin "object.__init_subclass__", .ref 53].toArray, #[]⟩]
noncomputable def c2(p:Program)(P:Params):List Obj:=[
 tup [.type "Exception"],
 ⟨.type "builtin_function_or_method",none, .fields [.builtin "type.__prepare__", .type "type"].toArray, #[]⟩,
 ⟨.type "dict",none, .dict (dct P [("__module__",276,S "lua.values" 194),("__qualname__",278,S "LuaError" 277),("__firstlineno__",280,I 25 279),("__init__",288, .ref 71),("__static_attributes__",291, .ref 72)]) 5, #[]⟩,
 tup [],
 fld [I 27 0,I 4 0, .ref 70],
 ⟨.type "code",none, .fields [S "LuaError" 271,S "LuaError" 272,S "/claim/cut.py" 273,I 25 0,I 0 0,I 0 0,I 0 0,I 0 0, .ref 61, .bool false,I 181 0, .ref 62, .none, .none, .none, .none,I 274 0,I 25 0,S "/claim/cut.py" 275].toArray, #[]⟩,
 ⟨.type "frame",none, .plain,[some (.ref 63),some (.ref 3),some (.ref 60),none,some (S "lua.values" 194),none,some (.ref 0)].toArray⟩,
 tup [],
 fld [],
 tup [S "self" 284,S "value" 285],
 tup [],
 fd (me p 4 0) "LuaError.__init__",
 ⟨.type "code",none, .fields [S "__init__" 281,S "LuaError.__init__" 282,S "/claim/cut.py" 283,I 27 0,I 2 0,I 0 0,I 0 0,I 3 0, .ref 65, .bool true,I 181 0, .ref 66, .none, .ref 67, .ref 68, .ref 69,I 286 0,I 27 0,S "/claim/cut.py" 287].toArray, #[]⟩,
 fn (me p 4 0) "LuaError.__init__" .none (S "lua.values" 194) (.ref 70),
 tup [S "trace" 289,S "value" 290],
 ⟨.type "dict",none, .dict (dct P [("__module__",276,S "lua.values" 194),("__firstlineno__",280,I 25 279),("__init__",288, .ref 71),("__static_attributes__",291, .ref 72),("__weakref__",293, .ref 75),("__doc__",294, .none)]) 3, #[]⟩,
 ⟨.type "type",none, .cls (cl "LuaError" "LuaError" [.type "Exception"] [.ref 74, .type "Exception", .type "BaseException", .type "object"] 73 [.ref 87]),[some (.ref 58),none,some (S "LuaError" 269),some (S "LuaError" 277),some (.builtin "Exception.__new__"),some (.bool true)].toArray⟩,
 ⟨.type "getset_descriptor",none, .fields [S "__weakref__" 292, .ref 74, .builtin "ExceptionGroup.__weakref__", .none].toArray, #[]⟩,
 ⟨.type "super",none, .fields [.ref 74, .ref 74, .ref 74].toArray, #[]⟩,
 ⟨.type "builtin_function_or_method",none, .fields [.builtin "object.__init_subclass__", .ref 74].toArray, #[]⟩,
 tup [.ref 74],
 ⟨.type "builtin_function_or_method",none, .fields [.builtin "type.__prepare__", .type "type"].toArray, #[]⟩,
 ⟨.type "dict",none, .dict (dct P [("__module__",306,S "lua.values" 194),("__qualname__",308,S "LuaSyntaxError" 307),("__firstlineno__",310,I 30 309),("__static_attributes__",311, .ref 85)]) 4, #[]⟩,
 tup [],
 fld [],
 ⟨.type "code",none, .fields [S "LuaSyntaxError" 301,S "LuaSyntaxError" 302,S "/claim/cut.py" 303,I 30 0,I 0 0,I 0 0,I 0 0,I 0 0, .ref 81, .bool false,I 181 0, .ref 82, .none, .none, .none, .none,I 304 0,I 30 0,S "/claim/cut.py" 305].toArray, #[]⟩,
 ⟨.type "frame",none, .plain,[some (.ref 83),some (.ref 3),some (.ref 80),none,some (S "lua.values" 194),none,some (.ref 0)].toArray⟩,
 tup [],
 ⟨.type "dict",none, .dict (dct P [("__module__",306,S "lua.values" 194),("__firstlineno__",310,I 30 309),("__static_attributes__",311, .ref 85),("__doc__",312, .none)]) 2, #[]⟩,
 ⟨.type "type",none, .cls (cl "LuaSyntaxError" "LuaSyntaxError" [.ref 74] [.ref 87, .ref 74, .type "Exception", .type "BaseException", .type "object"] 86 []),[some (.ref 78),none,some (S "LuaSyntaxError" 299),some (S "LuaSyntaxError" 307),some (.builtin "Exception.__new__"),some (.bool true)].toArray⟩,
 ⟨.type "super",none, .fields [.ref 87, .ref 87, .ref 87].toArray, #[]⟩,
 ⟨.type "builtin_function_or_method",none, .fields [.builtin "object.__init_subclass__", .ref 87].toArray, #[]⟩]
noncomputable def c3(p:Program)(P:Params):List Obj:=[
 tup [],
 fld [],
 tup [S "value" 318],
 tup [],
 fd (at_ p 6) "is_number",
 ⟨.type "code",none, .fields [S "is_number" 315,S "is_number" 316,S "/claim/cut.py" 317,I 32 0,I 1 0,I 0 0,I 0 0,I 3 0, .ref 90, .bool true,I 181 0, .ref 91, .none, .ref 92, .ref 93, .ref 94,I 319 0,I 32 0,S "/claim/cut.py" 320].toArray, #[]⟩,
 fn (at_ p 6) "is_number" .none (S "lua.values" 194) (.ref 95),
 tup [],
 fld [],
 tup [S "n" 325,S "width" 326,S "low" 327],
 tup [],
 fd (at_ p 7) "wrap",
 ⟨.type "code",none, .fields [S "wrap" 322,S "wrap" 323,S "/claim/cut.py" 324,I 34 0,I 2 0,I 0 0,I 0 0,I 3 0, .ref 97, .bool true,I 181 0, .ref 98, .none, .ref 99, .ref 100, .ref 101,I 328 0,I 34 0,S "/claim/cut.py" 329].toArray, #[]⟩,
 fn (at_ p 7) "wrap" .none (S "lua.values" 194) (.ref 102),
 tup [],
 fld [],
 tup [S "octet" 334],
 tup [],
 fd (at_ p 8) "is_blank",
 ⟨.type "code",none, .fields [S "is_blank" 331,S "is_blank" 332,S "/claim/cut.py" 333,I 39 0,I 1 0,I 0 0,I 0 0,I 3 0, .ref 104, .bool true,I 181 0, .ref 105, .none, .ref 106, .ref 107, .ref 108,I 335 0,I 39 0,S "/claim/cut.py" 336].toArray, #[]⟩,
 fn (at_ p 8) "is_blank" .none (S "lua.values" 194) (.ref 109),
 tup [],
 fld [],
 tup [S "octet" 342],
 tup [],
 fd (at_ p 10) "digit_of",
 ⟨.type "code",none, .fields [S "digit_of" 339,S "digit_of" 340,S "/claim/cut.py" 341,I 42 0,I 1 0,I 0 0,I 0 0,I 3 0, .ref 111, .bool true,I 181 0, .ref 112, .none, .ref 113, .ref 114, .ref 115,I 343 0,I 42 0,S "/claim/cut.py" 344].toArray, #[]⟩,
 fn (at_ p 10) "digit_of" .none (S "lua.values" 194) (.ref 116),
 tup [],
 fld [],
 tup [S "text" 349,S "at" 350,S "base" 351,S "found" 352,S "digit" 353],
 tup [],
 fd (at_ p 11) "read_digits",
 ⟨.type "code",none, .fields [S "read_digits" 346,S "read_digits" 347,S "/claim/cut.py" 348,I 50 0,I 3 0,I 0 0,I 0 0,I 3 0, .ref 118, .bool true,I 181 0, .ref 119, .none, .ref 120, .ref 121, .ref 122,I 354 0,I 50 0,S "/claim/cut.py" 355].toArray, #[]⟩,
 fn (at_ p 11) "read_digits" .none (S "lua.values" 194) (.ref 123),
 tup [],
 fld [],
 tup [S "text" 360,S "at" 361],
 tup [],
 fd (at_ p 12) "skip_blanks",
 ⟨.type "code",none, .fields [S "skip_blanks" 357,S "skip_blanks" 358,S "/claim/cut.py" 359,I 59 0,I 2 0,I 0 0,I 0 0,I 3 0, .ref 125, .bool true,I 181 0, .ref 126, .none, .ref 127, .ref 128, .ref 129,I 362 0,I 59 0,S "/claim/cut.py" 363].toArray, #[]⟩,
 fn (at_ p 12) "skip_blanks" .none (S "lua.values" 194) (.ref 130),
 tup [],
 fld [],
 tup [S "text" 368,S "limits" 369],
 tup [],
 fd (at_ p 13) "str_to_number",
 ⟨.type "code",none, .fields [S "str_to_number" 365,S "str_to_number" 366,S "/claim/cut.py" 367,I 63 0,I 2 0,I 0 0,I 0 0,I 3 0, .ref 132, .bool true,I 181 0, .ref 133, .none, .ref 134, .ref 135, .ref 136,I 370 0,I 63 0,S "/claim/cut.py" 371].toArray, #[]⟩,
 fn (at_ p 13) "str_to_number" .none (S "lua.values" 194) (.ref 137),
 tup [],
 fld [],
 tup [S "text" 376,S "base" 377,S "limits" 378,S "at" 379,S "is_below" 380,S "is_marked" 381,S "found" 382,S "end" 383],
 tup [],
 fd (at_ p 14) "text_in_base",
 ⟨.type "code",none, .fields [S "text_in_base" 373,S "text_in_base" 374,S "/claim/cut.py" 375,I 65 0,I 3 0,I 0 0,I 0 0,I 3 0, .ref 139, .bool true,I 181 0, .ref 140, .none, .ref 141, .ref 142, .ref 143,I 384 0,I 65 0,S "/claim/cut.py" 385].toArray, #[]⟩,
 fn (at_ p 14) "text_in_base" .none (S "lua.values" 194) (.ref 144),
 tup [],
 fld [],
 tup [S "n" 390,S "left" 391,S "found" 392],
 tup [],
 fd (at_ p 15) "number_text",
 ⟨.type "code",none, .fields [S "number_text" 387,S "number_text" 388,S "/claim/cut.py" 389,I 77 0,I 1 0,I 0 0,I 0 0,I 3 0, .ref 146, .bool true,I 181 0, .ref 147, .none, .ref 148, .ref 149, .ref 150,I 393 0,I 77 0,S "/claim/cut.py" 394].toArray, #[]⟩,
 fn (at_ p 15) "number_text" .none (S "lua.values" 194) (.ref 151),
 tup [],
 fld [],
 tup [S "value" 399],
 tup [],
 fd (at_ p 16) "to_text",
 ⟨.type "code",none, .fields [S "to_text" 396,S "to_text" 397,S "/claim/cut.py" 398,I 87 0,I 1 0,I 0 0,I 0 0,I 3 0, .ref 153, .bool true,I 181 0, .ref 154, .none, .ref 155, .ref 156, .ref 157,I 400 0,I 87 0,S "/claim/cut.py" 401].toArray, #[]⟩,
 fn (at_ p 16) "to_text" .none (S "lua.values" 194) (.ref 158),
 tup [],
 fld [],
 tup [S "text" 406,S "at" 407],
 tup [],
 fd (at_ p 17) "c_text",
 ⟨.type "code",none, .fields [S "c_text" 403,S "c_text" 404,S "/claim/cut.py" 405,I 93 0,I 1 0,I 0 0,I 0 0,I 3 0, .ref 160, .bool true,I 181 0, .ref 161, .none, .ref 162, .ref 163, .ref 164,I 408 0,I 93 0,S "/claim/cut.py" 409].toArray, #[]⟩,
 fn (at_ p 17) "c_text" .none (S "lua.values" 194) (.ref 165),
 tup [],
 fld [],
 tup [S "text" 414,S "at" 415],
 tup [],
 fd (at_ p 18) "first_line",
 ⟨.type "code",none, .fields [S "first_line" 411,S "first_line" 412,S "/claim/cut.py" 413,I 98 0,I 1 0,I 0 0,I 0 0,I 3 0, .ref 167, .bool true,I 181 0, .ref 168, .none, .ref 169, .ref 170, .ref 171,I 416 0,I 98 0,S "/claim/cut.py" 417].toArray, #[]⟩,
 fn (at_ p 18) "first_line" .none (S "lua.values" 194) (.ref 172),
 tup [],
 fld [],
 tup [S "source" 422,S "size" 423,S "room" 424,S "name" 425,S "line" 426],
 tup [],
 fd (at_ p 19) "chunk_id",
 ⟨.type "code",none, .fields [S "chunk_id" 419,S "chunk_id" 420,S "/claim/cut.py" 421,I 103 0,I 2 0,I 0 0,I 0 0,I 3 0, .ref 174, .bool true,I 181 0, .ref 175, .none, .ref 176, .ref 177, .ref 178,I 427 0,I 103 0,S "/claim/cut.py" 428].toArray, #[]⟩,
 fn (at_ p 19) "chunk_id" .none (S "lua.values" 194) (.ref 179)]
noncomputable def c4(p:Program)(P:Params):List Obj:=[
 lst [B [97,110,100] 437,B [98,114,101,97,107] 438,B [100,111] 439,B [101,108,115,101] 440,B [101,108,115,101,105,102] 441,B [101,110,100] 442,B [102,97,108,115,101] 443,B [102,111,114] 444,B [102,117,110,99,116,105,111,110] 445,B [105,102] 446,B [105,110] 447,B [108,111,99,97,108] 448,B [110,105,108] 449,B [110,111,116] 450,B [111,114] 451,B [114,101,112,101,97,116] 452,B [114,101,116,117,114,110] 453,B [116,104,101,110] 454,B [116,114,117,101] 455,B [117,110,116,105,108] 456,B [119,104,105,108,101] 457],
 lst [B [46,46] 481,B [46,46,46] 482,B [61,61] 483,B [62,61] 484,B [60,61] 485,B [126,61] 486,B [60,110,117,109,98,101,114,62] 487,B [60,110,97,109,101,62] 488,B [60,115,116,114,105,110,103,62] 489,B [60,101,111,102,62] 490],
 tup [],
 fld [],
 tup [S "sign" 529],
 tup [],
 fd (at_ p 53) "is_digit",
 ⟨.type "code",none, .fields [S "is_digit" 526,S "is_digit" 527,S "/claim/cut.py" 528,I 149 0,I 1 0,I 0 0,I 0 0,I 3 0, .ref 183, .bool true,I 181 0, .ref 184, .none, .ref 185, .ref 186, .ref 187,I 530 0,I 149 0,S "/claim/cut.py" 531].toArray, #[]⟩,
 fn (at_ p 53) "is_digit" .none (S "lua.lexer" 430) (.ref 188),
 tup [],
 fld [],
 tup [S "sign" 536],
 tup [],
 fd (at_ p 54) "is_letter",
 ⟨.type "code",none, .fields [S "is_letter" 533,S "is_letter" 534,S "/claim/cut.py" 535,I 151 0,I 1 0,I 0 0,I 0 0,I 3 0, .ref 190, .bool true,I 181 0, .ref 191, .none, .ref 192, .ref 193, .ref 194,I 537 0,I 151 0,S "/claim/cut.py" 538].toArray, #[]⟩,
 fn (at_ p 54) "is_letter" .none (S "lua.lexer" 430) (.ref 195),
 tup [],
 fld [],
 tup [S "sign" 543],
 tup [],
 fd (at_ p 55) "is_name_sign",
 ⟨.type "code",none, .fields [S "is_name_sign" 540,S "is_name_sign" 541,S "/claim/cut.py" 542,I 153 0,I 1 0,I 0 0,I 0 0,I 3 0, .ref 197, .bool true,I 181 0, .ref 198, .none, .ref 199, .ref 200, .ref 201,I 544 0,I 153 0,S "/claim/cut.py" 545].toArray, #[]⟩,
 fn (at_ p 55) "is_name_sign" .none (S "lua.lexer" 430) (.ref 202),
 tup [],
 fld [],
 tup [S "sign" 550],
 tup [],
 fd (at_ p 56) "is_blank",
 ⟨.type "code",none, .fields [S "is_blank" 547,S "is_blank" 548,S "/claim/cut.py" 549,I 155 0,I 1 0,I 0 0,I 0 0,I 3 0, .ref 204, .bool true,I 181 0, .ref 205, .none, .ref 206, .ref 207, .ref 208,I 551 0,I 155 0,S "/claim/cut.py" 552].toArray, #[]⟩,
 fn (at_ p 56) "is_blank" .none (S "lua.lexer" 430) (.ref 209),
 tup [],
 fld [],
 tup [S "sign" 558],
 tup [],
 fd (at_ p 58) "is_control",
 ⟨.type "code",none, .fields [S "is_control" 555,S "is_control" 556,S "/claim/cut.py" 557,I 158 0,I 1 0,I 0 0,I 0 0,I 3 0, .ref 211, .bool true,I 181 0, .ref 212, .none, .ref 213, .ref 214, .ref 215,I 559 0,I 158 0,S "/claim/cut.py" 560].toArray, #[]⟩,
 fn (at_ p 58) "is_control" .none (S "lua.lexer" 430) (.ref 216),
 tup [],
 fld [],
 tup [S "sign" 565],
 tup [],
 fd (at_ p 59) "is_newline",
 ⟨.type "code",none, .fields [S "is_newline" 562,S "is_newline" 563,S "/claim/cut.py" 564,I 160 0,I 1 0,I 0 0,I 0 0,I 3 0, .ref 218, .bool true,I 181 0, .ref 219, .none, .ref 220, .ref 221, .ref 222,I 566 0,I 160 0,S "/claim/cut.py" 567].toArray, #[]⟩,
 fn (at_ p 59) "is_newline" .none (S "lua.lexer" 430) (.ref 223),
 tup [],
 fld [],
 tup [S "sign" 572,S "at" 573],
 tup [],
 fd (at_ p 60) "escaped_sign",
 ⟨.type "code",none, .fields [S "escaped_sign" 569,S "escaped_sign" 570,S "/claim/cut.py" 571,I 162 0,I 1 0,I 0 0,I 0 0,I 3 0, .ref 225, .bool true,I 181 0, .ref 226, .none, .ref 227, .ref 228, .ref 229,I 574 0,I 162 0,S "/claim/cut.py" 575].toArray, #[]⟩,
 fn (at_ p 60) "escaped_sign" .none (S "lua.lexer" 430) (.ref 230),
 tup [],
 fld [],
 tup [S "kinds" 580,S "at" 581,S "word" 582],
 tup [],
 fd (at_ p 61) "reserved_kinds",
 ⟨.type "code",none, .fields [S "reserved_kinds" 577,S "reserved_kinds" 578,S "/claim/cut.py" 579,I 165 0,I 0 0,I 0 0,I 0 0,I 3 0, .ref 232, .bool true,I 181 0, .ref 233, .none, .ref 234, .ref 235, .ref 236,I 583 0,I 165 0,S "/claim/cut.py" 584].toArray, #[]⟩,
 fn (at_ p 61) "reserved_kinds" .none (S "lua.lexer" 430) (.ref 237),
 tup [],
 fld [],
 tup [S "kind" 589,S "at" 590],
 tup [],
 fd (at_ p 62) "token_text",
 ⟨.type "code",none, .fields [S "token_text" 586,S "token_text" 587,S "/claim/cut.py" 588,I 170 0,I 1 0,I 0 0,I 0 0,I 3 0, .ref 239, .bool true,I 181 0, .ref 240, .none, .ref 241, .ref 242, .ref 243,I 591 0,I 170 0,S "/claim/cut.py" 592].toArray, #[]⟩,
 fn (at_ p 62) "token_text" .none (S "lua.lexer" 430) (.ref 244)]
noncomputable def c5(p:Program)(P:Params):List Obj:=[
 tup [],
 ⟨.type "builtin_function_or_method",none, .fields [.builtin "type.__prepare__", .type "type"].toArray, #[]⟩,
 ⟨.type "dict",none, .dict (dct P [("__module__",601,S "lua.lexer" 430),("__qualname__",603,S "Token" 602),("__firstlineno__",605,I 177 604),("__init__",614, .ref 259),("__static_attributes__",617, .ref 260)]) 5, #[]⟩,
 tup [],
 fld [I 179 0,I 4 0, .ref 258],
 ⟨.type "code",none, .fields [S "Token" 596,S "Token" 597,S "/claim/cut.py" 598,I 177 0,I 0 0,I 0 0,I 0 0,I 0 0, .ref 249, .bool false,I 181 0, .ref 250, .none, .none, .none, .none,I 599 0,I 177 0,S "/claim/cut.py" 600].toArray, #[]⟩,
 ⟨.type "frame",none, .plain,[some (.ref 251),some (.ref 3),some (.ref 248),none,some (S "lua.lexer" 430),none,some (.ref 0)].toArray⟩,
 tup [],
 fld [],
 tup [S "self" 609,S "kind" 610,S "value" 611],
 tup [],
 fd (me p 63 0) "Token.__init__",
 ⟨.type "code",none, .fields [S "__init__" 606,S "Token.__init__" 607,S "/claim/cut.py" 608,I 179 0,I 3 0,I 0 0,I 0 0,I 3 0, .ref 253, .bool true,I 181 0, .ref 254, .none, .ref 255, .ref 256, .ref 257,I 612 0,I 179 0,S "/claim/cut.py" 613].toArray, #[]⟩,
 fn (me p 63 0) "Token.__init__" .none (S "lua.lexer" 430) (.ref 258),
 tup [S "kind" 615,S "value" 616],
 ⟨.type "dict",none, .dict (dct P [("__module__",601,S "lua.lexer" 430),("__firstlineno__",605,I 177 604),("__init__",614, .ref 259),("__static_attributes__",617, .ref 260),("__dict__",619, .ref 263),("__weakref__",621, .ref 264),("__doc__",622, .none)]) 4, #[]⟩,
 ⟨.type "type",none, .cls (cl "Token" "Token" [.type "object"] [.ref 262, .type "object"] 261 []),[none,none,some (S "Token" 594),some (S "Token" 602),some (.builtin "object.__new__"),some (.bool true)].toArray⟩,
 ⟨.type "getset_descriptor",none, .fields [S "__dict__" 618, .ref 262, .builtin "function.__dict__", .builtin "function.__dict__#set"].toArray, #[]⟩,
 ⟨.type "getset_descriptor",none, .fields [S "__weakref__" 620, .ref 262, .builtin "ExceptionGroup.__weakref__", .none].toArray, #[]⟩,
 ⟨.type "super",none, .fields [.ref 262, .ref 262, .ref 262].toArray, #[]⟩,
 ⟨.type "builtin_function_or_method",none, .fields [.builtin "object.__init_subclass__", .ref 262].toArray, #[]⟩]
noncomputable def c6(p:Program)(P:Params):List Obj:=[
 tup [],
 ⟨.type "builtin_function_or_method",none, .fields [.builtin "type.__prepare__", .type "type"].toArray, #[]⟩,
 ⟨.type "dict",none, .dict (dct P [("__module__",632,S "lua.lexer" 430),("__qualname__",634,S "Lexer" 633),("__firstlineno__",636,I 182 635),("__init__",646, .ref 280),("next",653, .ref 287),("lookahead",660, .ref 294),("error",670, .ref 301),("syntax_error",678, .ref 308),("near_text",686, .ref 315),("move",693, .ref 322),("keep",701, .ref 329),("keep_and_move",708, .ref 336),("keep_if",716, .ref 343),("clear",723, .ref 350),("end_line",731, .ref 357),("read",739, .ref 364),("skip_blank",746, .ref 371),("sign_behind",753, .ref 378),("skip_comment",761, .ref 385),("read_compared",769, .ref 392),("read_dots",776, .ref 399),("read_word",785, .ref 406),("read_numeral",793, .ref 413),("read_bracket",801, .ref 420),("read_level",810, .ref 427),("read_long",820, .ref 434),("read_inner",828, .ref 441),("read_string",836, .ref 448),("read_escape",844, .ref 455),("read_digits",853, .ref 462),("__static_attributes__",866, .ref 463)]) 31, #[]⟩,
 tup [],
 fld [I 184 0,I 4 0, .ref 279,I 198 0,I 4 0, .ref 286,I 207 0,I 4 0, .ref 293,I 212 0,I 4 0, .ref 300,I 218 0,I 4 0, .ref 307,I 221 0,I 4 0, .ref 314,I 226 0,I 4 0, .ref 321,I 230 0,I 4 0, .ref 328,I 235 0,I 4 0, .ref 335,I 239 0,I 4 0, .ref 342,I 245 0,I 4 0, .ref 349,I 248 0,I 4 0, .ref 356,I 257 0,I 4 0, .ref 363,I 282 0,I 4 0, .ref 370,I 294 0,I 4 0, .ref 377,I 297 0,I 4 0, .ref 384,I 310 0,I 4 0, .ref 391,I 321 0,I 4 0, .ref 398,I 331 0,I 4 0, .ref 405,I 338 0,I 4 0, .ref 412,I 350 0,I 4 0, .ref 419,I 358 0,I 4 0, .ref 426,I 367 0,I 4 0, .ref 433,I 391 0,I 4 0, .ref 440,I 397 0,I 4 0, .ref 447,I 412 0,I 4 0, .ref 454,I 426 0,I 4 0, .ref 461],
 ⟨.type "code",none, .fields [S "Lexer" 627,S "Lexer" 628,S "/claim/cut.py" 629,I 182 0,I 0 0,I 0 0,I 0 0,I 0 0, .ref 270, .bool false,I 181 0, .ref 271, .none, .none, .none, .none,I 630 0,I 182 0,S "/claim/cut.py" 631].toArray, #[]⟩,
 ⟨.type "frame",none, .plain,[some (.ref 272),some (.ref 3),some (.ref 269),none,some (S "lua.lexer" 430),none,some (.ref 0)].toArray⟩,
 tup [],
 fld [],
 tup [S "self" 640,S "text" 641,S "chunk" 642,S "limits" 643],
 tup [],
 fd (me p 64 0) "Lexer.__init__",
 ⟨.type "code",none, .fields [S "__init__" 637,S "Lexer.__init__" 638,S "/claim/cut.py" 639,I 184 0,I 4 0,I 0 0,I 0 0,I 3 0, .ref 274, .bool true,I 181 0, .ref 275, .none, .ref 276, .ref 277, .ref 278,I 644 0,I 184 0,S "/claim/cut.py" 645].toArray, #[]⟩,
 fn (me p 64 0) "Lexer.__init__" .none (S "lua.lexer" 430) (.ref 279),
 tup [],
 fld [],
 tup [S "self" 650],
 tup [],
 fd (me p 64 1) "Lexer.next",
 ⟨.type "code",none, .fields [S "next" 647,S "Lexer.next" 648,S "/claim/cut.py" 649,I 198 0,I 1 0,I 0 0,I 0 0,I 3 0, .ref 281, .bool true,I 181 0, .ref 282, .none, .ref 283, .ref 284, .ref 285,I 651 0,I 198 0,S "/claim/cut.py" 652].toArray, #[]⟩,
 fn (me p 64 1) "Lexer.next" .none (S "lua.lexer" 430) (.ref 286),
 tup [],
 fld [],
 tup [S "self" 657],
 tup [],
 fd (me p 64 2) "Lexer.lookahead",
 ⟨.type "code",none, .fields [S "lookahead" 654,S "Lexer.lookahead" 655,S "/claim/cut.py" 656,I 207 0,I 1 0,I 0 0,I 0 0,I 3 0, .ref 288, .bool true,I 181 0, .ref 289, .none, .ref 290, .ref 291, .ref 292,I 658 0,I 207 0,S "/claim/cut.py" 659].toArray, #[]⟩,
 fn (me p 64 2) "Lexer.lookahead" .none (S "lua.lexer" 430) (.ref 293),
 tup [],
 fld [],
 tup [S "self" 664,S "text" 665,S "kind" 666,S "message" 667],
 tup [],
 fd (me p 64 3) "Lexer.error",
 ⟨.type "code",none, .fields [S "error" 661,S "Lexer.error" 662,S "/claim/cut.py" 663,I 212 0,I 3 0,I 0 0,I 0 0,I 3 0, .ref 295, .bool true,I 181 0, .ref 296, .none, .ref 297, .ref 298, .ref 299,I 668 0,I 212 0,S "/claim/cut.py" 669].toArray, #[]⟩,
 fn (me p 64 3) "Lexer.error" .none (S "lua.lexer" 430) (.ref 300),
 tup [],
 fld [],
 tup [S "self" 674,S "text" 675],
 tup [],
 fd (me p 64 4) "Lexer.syntax_error",
 ⟨.type "code",none, .fields [S "syntax_error" 671,S "Lexer.syntax_error" 672,S "/claim/cut.py" 673,I 218 0,I 2 0,I 0 0,I 0 0,I 3 0, .ref 302, .bool true,I 181 0, .ref 303, .none, .ref 304, .ref 305, .ref 306,I 676 0,I 218 0,S "/claim/cut.py" 677].toArray, #[]⟩,
 fn (me p 64 4) "Lexer.syntax_error" .none (S "lua.lexer" 430) (.ref 307),
 tup [],
 fld [],
 tup [S "self" 682,S "kind" 683],
 tup [],
 fd (me p 64 5) "Lexer.near_text",
 ⟨.type "code",none, .fields [S "near_text" 679,S "Lexer.near_text" 680,S "/claim/cut.py" 681,I 221 0,I 2 0,I 0 0,I 0 0,I 3 0, .ref 309, .bool true,I 181 0, .ref 310, .none, .ref 311, .ref 312, .ref 313,I 684 0,I 221 0,S "/claim/cut.py" 685].toArray, #[]⟩,
 fn (me p 64 5) "Lexer.near_text" .none (S "lua.lexer" 430) (.ref 314),
 tup [],
 fld [],
 tup [S "self" 690],
 tup [],
 fd (me p 64 6) "Lexer.move",
 ⟨.type "code",none, .fields [S "move" 687,S "Lexer.move" 688,S "/claim/cut.py" 689,I 226 0,I 1 0,I 0 0,I 0 0,I 3 0, .ref 316, .bool true,I 181 0, .ref 317, .none, .ref 318, .ref 319, .ref 320,I 691 0,I 226 0,S "/claim/cut.py" 692].toArray, #[]⟩,
 fn (me p 64 6) "Lexer.move" .none (S "lua.lexer" 430) (.ref 321),
 tup [],
 fld [],
 tup [S "self" 697,S "sign" 698],
 tup [],
 fd (me p 64 7) "Lexer.keep",
 ⟨.type "code",none, .fields [S "keep" 694,S "Lexer.keep" 695,S "/claim/cut.py" 696,I 230 0,I 2 0,I 0 0,I 0 0,I 3 0, .ref 323, .bool true,I 181 0, .ref 324, .none, .ref 325, .ref 326, .ref 327,I 699 0,I 230 0,S "/claim/cut.py" 700].toArray, #[]⟩,
 fn (me p 64 7) "Lexer.keep" .none (S "lua.lexer" 430) (.ref 328),
 tup [],
 fld [],
 tup [S "self" 705],
 tup [],
 fd (me p 64 8) "Lexer.keep_and_move",
 ⟨.type "code",none, .fields [S "keep_and_move" 702,S "Lexer.keep_and_move" 703,S "/claim/cut.py" 704,I 235 0,I 1 0,I 0 0,I 0 0,I 3 0, .ref 330, .bool true,I 181 0, .ref 331, .none, .ref 332, .ref 333, .ref 334,I 706 0,I 235 0,S "/claim/cut.py" 707].toArray, #[]⟩,
 fn (me p 64 8) "Lexer.keep_and_move" .none (S "lua.lexer" 430) (.ref 335),
 tup [],
 fld [],
 tup [S "self" 712,S "signs" 713],
 tup [],
 fd (me p 64 9) "Lexer.keep_if",
 ⟨.type "code",none, .fields [S "keep_if" 709,S "Lexer.keep_if" 710,S "/claim/cut.py" 711,I 239 0,I 2 0,I 0 0,I 0 0,I 3 0, .ref 337, .bool true,I 181 0, .ref 338, .none, .ref 339, .ref 340, .ref 341,I 714 0,I 239 0,S "/claim/cut.py" 715].toArray, #[]⟩,
 fn (me p 64 9) "Lexer.keep_if" .none (S "lua.lexer" 430) (.ref 342),
 tup [],
 fld [],
 tup [S "self" 720],
 tup [],
 fd (me p 64 10) "Lexer.clear",
 ⟨.type "code",none, .fields [S "clear" 717,S "Lexer.clear" 718,S "/claim/cut.py" 719,I 245 0,I 1 0,I 0 0,I 0 0,I 3 0, .ref 344, .bool true,I 181 0, .ref 345, .none, .ref 346, .ref 347, .ref 348,I 721 0,I 245 0,S "/claim/cut.py" 722].toArray, #[]⟩,
 fn (me p 64 10) "Lexer.clear" .none (S "lua.lexer" 430) (.ref 349),
 tup [],
 fld [],
 tup [S "self" 727,S "first" 728],
 tup [],
 fd (me p 64 11) "Lexer.end_line",
 ⟨.type "code",none, .fields [S "end_line" 724,S "Lexer.end_line" 725,S "/claim/cut.py" 726,I 248 0,I 1 0,I 0 0,I 0 0,I 3 0, .ref 351, .bool true,I 181 0, .ref 352, .none, .ref 353, .ref 354, .ref 355,I 729 0,I 248 0,S "/claim/cut.py" 730].toArray, #[]⟩,
 fn (me p 64 11) "Lexer.end_line" .none (S "lua.lexer" 430) (.ref 356),
 tup [],
 fld [],
 tup [S "self" 735,S "sign" 736],
 tup [],
 fd (me p 64 12) "Lexer.read",
 ⟨.type "code",none, .fields [S "read" 732,S "Lexer.read" 733,S "/claim/cut.py" 734,I 257 0,I 1 0,I 0 0,I 0 0,I 3 0, .ref 358, .bool true,I 181 0, .ref 359, .none, .ref 360, .ref 361, .ref 362,I 737 0,I 257 0,S "/claim/cut.py" 738].toArray, #[]⟩,
 fn (me p 64 12) "Lexer.read" .none (S "lua.lexer" 430) (.ref 363),
 tup [],
 fld [],
 tup [S "self" 743],
 tup [],
 fd (me p 64 13) "Lexer.skip_blank",
 ⟨.type "code",none, .fields [S "skip_blank" 740,S "Lexer.skip_blank" 741,S "/claim/cut.py" 742,I 282 0,I 1 0,I 0 0,I 0 0,I 3 0, .ref 365, .bool true,I 181 0, .ref 366, .none, .ref 367, .ref 368, .ref 369,I 744 0,I 282 0,S "/claim/cut.py" 745].toArray, #[]⟩,
 fn (me p 64 13) "Lexer.skip_blank" .none (S "lua.lexer" 430) (.ref 370),
 tup [],
 fld [],
 tup [S "self" 750],
 tup [],
 fd (me p 64 14) "Lexer.sign_behind",
 ⟨.type "code",none, .fields [S "sign_behind" 747,S "Lexer.sign_behind" 748,S "/claim/cut.py" 749,I 294 0,I 1 0,I 0 0,I 0 0,I 3 0, .ref 372, .bool true,I 181 0, .ref 373, .none, .ref 374, .ref 375, .ref 376,I 751 0,I 294 0,S "/claim/cut.py" 752].toArray, #[]⟩,
 fn (me p 64 14) "Lexer.sign_behind" .none (S "lua.lexer" 430) (.ref 377),
 tup [],
 fld [],
 tup [S "self" 757,S "level" 758],
 tup [],
 fd (me p 64 15) "Lexer.skip_comment",
 ⟨.type "code",none, .fields [S "skip_comment" 754,S "Lexer.skip_comment" 755,S "/claim/cut.py" 756,I 297 0,I 1 0,I 0 0,I 0 0,I 3 0, .ref 379, .bool true,I 181 0, .ref 380, .none, .ref 381, .ref 382, .ref 383,I 759 0,I 297 0,S "/claim/cut.py" 760].toArray, #[]⟩,
 fn (me p 64 15) "Lexer.skip_comment" .none (S "lua.lexer" 430) (.ref 384),
 tup [],
 fld [],
 tup [S "self" 765,S "sign" 766],
 tup [],
 fd (me p 64 16) "Lexer.read_compared",
 ⟨.type "code",none, .fields [S "read_compared" 762,S "Lexer.read_compared" 763,S "/claim/cut.py" 764,I 310 0,I 2 0,I 0 0,I 0 0,I 3 0, .ref 386, .bool true,I 181 0, .ref 387, .none, .ref 388, .ref 389, .ref 390,I 767 0,I 310 0,S "/claim/cut.py" 768].toArray, #[]⟩,
 fn (me p 64 16) "Lexer.read_compared" .none (S "lua.lexer" 430) (.ref 391),
 tup [],
 fld [],
 tup [S "self" 773],
 tup [],
 fd (me p 64 17) "Lexer.read_dots",
 ⟨.type "code",none, .fields [S "read_dots" 770,S "Lexer.read_dots" 771,S "/claim/cut.py" 772,I 321 0,I 1 0,I 0 0,I 0 0,I 3 0, .ref 393, .bool true,I 181 0, .ref 394, .none, .ref 395, .ref 396, .ref 397,I 774 0,I 321 0,S "/claim/cut.py" 775].toArray, #[]⟩,
 fn (me p 64 17) "Lexer.read_dots" .none (S "lua.lexer" 430) (.ref 398),
 tup [],
 fld [],
 tup [S "self" 780,S "word" 781,S "kind" 782],
 tup [],
 fd (me p 64 18) "Lexer.read_word",
 ⟨.type "code",none, .fields [S "read_word" 777,S "Lexer.read_word" 778,S "/claim/cut.py" 779,I 331 0,I 1 0,I 0 0,I 0 0,I 3 0, .ref 400, .bool true,I 181 0, .ref 401, .none, .ref 402, .ref 403, .ref 404,I 783 0,I 331 0,S "/claim/cut.py" 784].toArray, #[]⟩,
 fn (me p 64 18) "Lexer.read_word" .none (S "lua.lexer" 430) (.ref 405),
 tup [],
 fld [],
 tup [S "self" 789,S "value" 790],
 tup [],
 fd (me p 64 19) "Lexer.read_numeral",
 ⟨.type "code",none, .fields [S "read_numeral" 786,S "Lexer.read_numeral" 787,S "/claim/cut.py" 788,I 338 0,I 1 0,I 0 0,I 0 0,I 3 0, .ref 407, .bool true,I 181 0, .ref 408, .none, .ref 409, .ref 410, .ref 411,I 791 0,I 338 0,S "/claim/cut.py" 792].toArray, #[]⟩,
 fn (me p 64 19) "Lexer.read_numeral" .none (S "lua.lexer" 430) (.ref 412),
 tup [],
 fld [],
 tup [S "self" 797,S "level" 798],
 tup [],
 fd (me p 64 20) "Lexer.read_bracket",
 ⟨.type "code",none, .fields [S "read_bracket" 794,S "Lexer.read_bracket" 795,S "/claim/cut.py" 796,I 350 0,I 1 0,I 0 0,I 0 0,I 3 0, .ref 414, .bool true,I 181 0, .ref 415, .none, .ref 416, .ref 417, .ref 418,I 799 0,I 350 0,S "/claim/cut.py" 800].toArray, #[]⟩,
 fn (me p 64 20) "Lexer.read_bracket" .none (S "lua.lexer" 430) (.ref 419),
 tup [],
 fld [],
 tup [S "self" 805,S "bracket" 806,S "many" 807],
 tup [],
 fd (me p 64 21) "Lexer.read_level",
 ⟨.type "code",none, .fields [S "read_level" 802,S "Lexer.read_level" 803,S "/claim/cut.py" 804,I 358 0,I 1 0,I 0 0,I 0 0,I 3 0, .ref 421, .bool true,I 181 0, .ref 422, .none, .ref 423, .ref 424, .ref 425,I 808 0,I 358 0,S "/claim/cut.py" 809].toArray, #[]⟩,
 fn (me p 64 21) "Lexer.read_level" .none (S "lua.lexer" 430) (.ref 426),
 tup [],
 fld [],
 tup [S "self" 814,S "level" 815,S "is_text" 816,S "begin" 817],
 tup [],
 fd (me p 64 22) "Lexer.read_long",
 ⟨.type "code",none, .fields [S "read_long" 811,S "Lexer.read_long" 812,S "/claim/cut.py" 813,I 367 0,I 3 0,I 0 0,I 0 0,I 3 0, .ref 428, .bool true,I 181 0, .ref 429, .none, .ref 430, .ref 431, .ref 432,I 818 0,I 367 0,S "/claim/cut.py" 819].toArray, #[]⟩,
 fn (me p 64 22) "Lexer.read_long" .none (S "lua.lexer" 430) (.ref 433),
 tup [],
 fld [],
 tup [S "self" 824,S "level" 825],
 tup [],
 fd (me p 64 23) "Lexer.read_inner",
 ⟨.type "code",none, .fields [S "read_inner" 821,S "Lexer.read_inner" 822,S "/claim/cut.py" 823,I 391 0,I 2 0,I 0 0,I 0 0,I 3 0, .ref 435, .bool true,I 181 0, .ref 436, .none, .ref 437, .ref 438, .ref 439,I 826 0,I 391 0,S "/claim/cut.py" 827].toArray, #[]⟩,
 fn (me p 64 23) "Lexer.read_inner" .none (S "lua.lexer" 430) (.ref 440),
 tup [],
 fld [],
 tup [S "self" 832,S "quote" 833],
 tup [],
 fd (me p 64 24) "Lexer.read_string",
 ⟨.type "code",none, .fields [S "read_string" 829,S "Lexer.read_string" 830,S "/claim/cut.py" 831,I 397 0,I 2 0,I 0 0,I 0 0,I 3 0, .ref 442, .bool true,I 181 0, .ref 443, .none, .ref 444, .ref 445, .ref 446,I 834 0,I 397 0,S "/claim/cut.py" 835].toArray, #[]⟩,
 fn (me p 64 24) "Lexer.read_string" .none (S "lua.lexer" 430) (.ref 447),
 tup [],
 fld [],
 tup [S "self" 840,S "told" 841],
 tup [],
 fd (me p 64 25) "Lexer.read_escape",
 ⟨.type "code",none, .fields [S "read_escape" 837,S "Lexer.read_escape" 838,S "/claim/cut.py" 839,I 412 0,I 1 0,I 0 0,I 0 0,I 3 0, .ref 449, .bool true,I 181 0, .ref 450, .none, .ref 451, .ref 452, .ref 453,I 842 0,I 412 0,S "/claim/cut.py" 843].toArray, #[]⟩,
 fn (me p 64 25) "Lexer.read_escape" .none (S "lua.lexer" 430) (.ref 454),
 tup [],
 fld [],
 tup [S "self" 848,S "value" 849,S "many" 850],
 tup [],
 fd (me p 64 26) "Lexer.read_digits",
 ⟨.type "code",none, .fields [S "read_digits" 845,S "Lexer.read_digits" 846,S "/claim/cut.py" 847,I 426 0,I 1 0,I 0 0,I 0 0,I 3 0, .ref 456, .bool true,I 181 0, .ref 457, .none, .ref 458, .ref 459, .ref 460,I 851 0,I 426 0,S "/claim/cut.py" 852].toArray, #[]⟩,
 fn (me p 64 26) "Lexer.read_digits" .none (S "lua.lexer" 430) (.ref 461),
 tup [S "ahead" 854,S "at" 855,S "buffer" 856,S "chunk" 857,S "current" 858,S "kinds" 859,S "last_line" 860,S "limits" 861,S "line" 862,S "sign" 863,S "source" 864,S "text" 865],
 ⟨.type "dict",none, .dict (dct P [("__module__",632,S "lua.lexer" 430),("__firstlineno__",636,I 182 635),("__init__",646, .ref 280),("next",653, .ref 287),("lookahead",660, .ref 294),("error",670, .ref 301),("syntax_error",678, .ref 308),("near_text",686, .ref 315),("move",693, .ref 322),("keep",701, .ref 329),("keep_and_move",708, .ref 336),("keep_if",716, .ref 343),("clear",723, .ref 350),("end_line",731, .ref 357),("read",739, .ref 364),("skip_blank",746, .ref 371),("sign_behind",753, .ref 378),("skip_comment",761, .ref 385),("read_compared",769, .ref 392),("read_dots",776, .ref 399),("read_word",785, .ref 406),("read_numeral",793, .ref 413),("read_bracket",801, .ref 420),("read_level",810, .ref 427),("read_long",820, .ref 434),("read_inner",828, .ref 441),("read_string",836, .ref 448),("read_escape",844, .ref 455),("read_digits",853, .ref 462),("__static_attributes__",866, .ref 463),("__dict__",868, .ref 466),("__weakref__",870, .ref 467),("__doc__",871, .none)]) 4, #[]⟩,
 ⟨.type "type",none, .cls (cl "Lexer" "Lexer" [.type "object"] [.ref 465, .type "object"] 464 []),[none,none,some (S "Lexer" 625),some (S "Lexer" 633),some (.builtin "object.__new__"),some (.bool true)].toArray⟩,
 ⟨.type "getset_descriptor",none, .fields [S "__dict__" 867, .ref 465, .builtin "function.__dict__", .builtin "function.__dict__#set"].toArray, #[]⟩,
 ⟨.type "getset_descriptor",none, .fields [S "__weakref__" 869, .ref 465, .builtin "ExceptionGroup.__weakref__", .none].toArray, #[]⟩,
 ⟨.type "super",none, .fields [.ref 465, .ref 465, .ref 465].toArray, #[]⟩,
 ⟨.type "builtin_function_or_method",none, .fields [.builtin "object.__init_subclass__", .ref 465].toArray, #[]⟩]
noncomputable def c7(p:Program)(P:Params):List Obj:=[
 tup [],
 fld [],
 tup [S "text" 877,S "chunk" 878,S "limits" 879,S "lexer" 880,S "found" 881,S "token" 882],
 tup [],
 fd (at_ p 65) "all_tokens",
 ⟨.type "code",none, .fields [S "all_tokens" 874,S "all_tokens" 875,S "/claim/cut.py" 876,I 435 0,I 3 0,I 0 0,I 0 0,I 3 0, .ref 470, .bool true,I 181 0, .ref 471, .none, .ref 472, .ref 473, .ref 474,I 883 0,I 435 0,S "/claim/cut.py" 884].toArray, #[]⟩,
 fn (at_ p 65) "all_tokens" .none (S "lua.lexer" 430) (.ref 475),
 tup [],
 fld [],
 tup [],
 tup [],
 fd (at_ p 67) "_law_words",
 ⟨.type "code",none, .fields [S "_law_words" 888,S "_law_words" 889,S "/claim/cut.py" 890,I 443 0,I 0 0,I 0 0,I 0 0,I 3 0, .ref 477, .bool true,I 181 0, .ref 478, .none, .ref 479, .ref 480, .ref 481,I 891 0,I 443 0,S "/claim/cut.py" 892].toArray, #[]⟩,
 fn (at_ p 67) "_law_words" .none (S "law_nt0645_01" 886) (.ref 482),
 tup [],
 fld [],
 tup [],
 tup [],
 fd (at_ p 68) "_law_gaps",
 ⟨.type "code",none, .fields [S "_law_gaps" 894,S "_law_gaps" 895,S "/claim/cut.py" 896,I 445 0,I 0 0,I 0 0,I 0 0,I 3 0, .ref 484, .bool true,I 181 0, .ref 485, .none, .ref 486, .ref 487, .ref 488,I 897 0,I 445 0,S "/claim/cut.py" 898].toArray, #[]⟩,
 fn (at_ p 68) "_law_gaps" .none (S "law_nt0645_01" 886) (.ref 489),
 tup [],
 fld [],
 tup [],
 tup [],
 fd (at_ p 69) "_law_bad",
 ⟨.type "code",none, .fields [S "_law_bad" 900,S "_law_bad" 901,S "/claim/cut.py" 902,I 447 0,I 0 0,I 0 0,I 0 0,I 3 0, .ref 491, .bool true,I 181 0, .ref 492, .none, .ref 493, .ref 494, .ref 495,I 903 0,I 447 0,S "/claim/cut.py" 904].toArray, #[]⟩,
 fn (at_ p 69) "_law_bad" .none (S "law_nt0645_01" 886) (.ref 496),
 tup [],
 fld [],
 tup [S "found" 909,S "one" 910],
 tup [],
 fd (at_ p 70) "_law_signs",
 ⟨.type "code",none, .fields [S "_law_signs" 906,S "_law_signs" 907,S "/claim/cut.py" 908,I 449 0,I 0 0,I 0 0,I 0 0,I 3 0, .ref 498, .bool true,I 181 0, .ref 499, .none, .ref 500, .ref 501, .ref 502,I 911 0,I 449 0,S "/claim/cut.py" 912].toArray, #[]⟩,
 fn (at_ p 70) "_law_signs" .none (S "law_nt0645_01" 886) (.ref 503),
 tup [],
 fld [],
 tup [S "number" 917,S "found" 918,S "turn" 919],
 tup [],
 fd (at_ p 71) "_law_octets",
 ⟨.type "code",none, .fields [S "_law_octets" 914,S "_law_octets" 915,S "/claim/cut.py" 916,I 454 0,I 1 0,I 0 0,I 0 0,I 3 0, .ref 505, .bool true,I 181 0, .ref 506, .none, .ref 507, .ref 508, .ref 509,I 920 0,I 454 0,S "/claim/cut.py" 921].toArray, #[]⟩,
 fn (at_ p 71) "_law_octets" .none (S "law_nt0645_01" 886) (.ref 510),
 tup [],
 fld [],
 tup [S "number" 926,S "octets" 927,S "mark" 928,S "found" 929,S "ends" 930,S "one" 931,S "plain" 932,S "letter" 933],
 tup [],
 fd (at_ p 72) "_law_quoted",
 ⟨.type "code",none, .fields [S "_law_quoted" 923,S "_law_quoted" 924,S "/claim/cut.py" 925,I 460 0,I 2 0,I 0 0,I 0 0,I 3 0, .ref 512, .bool true,I 181 0, .ref 513, .none, .ref 514, .ref 515, .ref 516,I 934 0,I 460 0,S "/claim/cut.py" 935].toArray, #[]⟩,
 fn (at_ p 72) "_law_quoted" .none (S "law_nt0645_01" 886) (.ref 517),
 tup [],
 fld [],
 fd (at_ p 73) "_law_long",
 ⟨.type "code",none, .fields [S "_law_long" 937,S "_law_long" 938,S "/claim/cut.py" 939,I 476 0,I 2 0,I 0 0,I 0 0,I 3 0, .ref 519, .bool true,I 181 0, .ref 520, .none, .none, .none, .ref 521,I 940 0,I 476 0,S "/claim/cut.py" 941].toArray, #[]⟩,
 fn (at_ p 73) "_law_long" .none (S "law_nt0645_01" 886) (.ref 522),
 tup [],
 fld [],
 tup [S "number" 946,S "base" 947,S "found" 948],
 tup [],
 fd (at_ p 74) "_law_digits",
 ⟨.type "code",none, .fields [S "_law_digits" 943,S "_law_digits" 944,S "/claim/cut.py" 945,I 487 0,I 2 0,I 0 0,I 0 0,I 3 0, .ref 524, .bool true,I 181 0, .ref 525, .none, .ref 526, .ref 527, .ref 528,I 949 0,I 487 0,S "/claim/cut.py" 950].toArray, #[]⟩,
 fn (at_ p 74) "_law_digits" .none (S "law_nt0645_01" 886) (.ref 529),
 tup [],
 fld [],
 tup [S "number" 955,S "form" 956,S "rest" 957,S "at" 958,S "name" 959,S "octets" 960,S "piece" 961,S "ends" 962,S "told" 963,S "kind" 964],
 tup [],
 fd (at_ p 75) "_law_token",
 ⟨.type "code",none, .fields [S "_law_token" 952,S "_law_token" 953,S "/claim/cut.py" 954,I 493 0,I 1 0,I 0 0,I 0 0,I 3 0, .ref 531, .bool true,I 181 0, .ref 532, .none, .ref 533, .ref 534, .ref 535,I 965 0,I 493 0,S "/claim/cut.py" 966].toArray, #[]⟩,
 fn (at_ p 75) "_law_token" .none (S "law_nt0645_01" 886) (.ref 536),
 tup [],
 fld [],
 tup [S "piece" 971,S "caught" 972],
 tup [],
 fd (at_ p 76) "_law_refused",
 ⟨.type "code",none, .fields [S "_law_refused" 968,S "_law_refused" 969,S "/claim/cut.py" 970,I 514 0,I 1 0,I 0 0,I 0 0,I 3 0, .ref 538, .bool true,I 181 0, .ref 539, .none, .ref 540, .ref 541, .ref 542,I 973 0,I 514 0,S "/claim/cut.py" 974].toArray, #[]⟩,
 fn (at_ p 76) "_law_refused" .none (S "law_nt0645_01" 886) (.ref 543),
 tup [],
 fld [],
 fd (at_ p 77) "law",
 ⟨.type "code",none, .fields [S "law" 976,S "law" 977,S "/claim/cut.py" 978,I 520 0,I 1 0,I 0 0,I 0 0,I 3 0, .ref 545, .bool true,I 181 0, .ref 546, .none, .none, .none, .ref 547,I 979 0,I 520 0,S "/claim/cut.py" 980].toArray, #[]⟩,
 fn (at_ p 77) "law" .none (S "law_nt0645_01" 886) (.ref 548)]
noncomputable def h0(P:Params):List Obj:=c0 P (⟨.none,none, .dict (dct P []) 0, #[]⟩:Obj) (S "__main__" 164) 0 9 0
noncomputable def h1(p:Program)(P:Params):List Obj:=c0 P (⟨.none,none, .dict (dct P []) 0, #[]⟩:Obj) (S "lua.values" 194) 0 12 2++(c1 p P)
noncomputable def h2(p:Program)(P:Params):List Obj:=c0 P (sta P) (S "lua.values" 194) 0 14 4++(c1 p P++c2 p P)
noncomputable def h3(p:Program)(P:Params):List Obj:=c0 P (sta P) (S "lua.values" 194) 110 28 17++(c1 p P++c2 p P++c3 p P)
noncomputable def h4(p:Program)(P:Params):List Obj:=c0 P (sta P) (S "lua.lexer" 430) 210 69 26++(c1 p P++c2 p P++c3 p P++c4 p P)
noncomputable def h5(p:Program)(P:Params):List Obj:=c0 P (sta P) (S "lua.lexer" 430) 210 70 27++(c1 p P++c2 p P++c3 p P++c4 p P++c5 p P)
noncomputable def h6(p:Program)(P:Params):List Obj:=c0 P (sta P) (S "lua.lexer" 430) 210 71 28++(c1 p P++c2 p P++c3 p P++c4 p P++c5 p P++c6 p P)
noncomputable def h7(p:Program)(P:Params):List Obj:=c0 P (sta P) (S "law_nt0645_01" 886) 210 83 40++(c1 p P++c2 p P++c3 p P++c4 p P++c5 p P++c6 p P++c7 p P)
noncomputable def sp{α:Type}(l:List α):List α×List α:=List.rec (motive:=λH=>List α×List α) ([],[]) (λa H ih=>(a::ih.2,ih.1)) l
noncomputable def bt:Nat->List Obj->BT
 |0,_=> .nil
 |_+1,[]=> .nil
 |n+1,x::r=> .node x (bt n (sp r).1) (bt n (sp r).2)
theorem bp7{α:Type}(a:α)(l:List α):sp (a::l)=(a::(sp l).2,(sp l).1):=rfl
theorem aJ6{α:Type}(l:List α):∀j,(sp l).1[j]? =l[2 * j]? /\(sp l).2[j]? =l[2 * j+1]? :=by
 induction l with
 |nil=>intro j;simp[sp]
 |cons a l ih=>
  intro j
  rw[bp7]
  cases j with
  |zero=>exact⟨rfl,by simpa using (ih 0).1⟩
  |succ j=>
   refine⟨?_, ?_⟩
   ·rw[df6,(ih j).2,show 2 * (j+1)=(2 * j+1)+1 by lia,df6]
   ·rw[(ih (j+1)).1,show 2 * (j+1)+1=(2 * (j+1))+1 by lia,df6]
theorem ce8{α:Type}(l:List α):(sp l).1.length<=(l.length+1) / 2/\(sp l).2.length<=l.length / 2:=by
 induction l with
 |nil=>exact⟨cY8 _,cY8 _⟩
 |cons a l ih=>exact⟨cV5 (Nat.succ_le_succ ih.2) (dh7 (Nat.add_div_right l.length (by decide:0 < 2)).symm),ih.1⟩
theorem ct7(k:Nat):∃j,k=2 * j∨k=2 * j+1:=⟨k / 2,(Nat.mod_two_eq_zero_or_one k).imp (λe=>by have:=Nat.div_add_mod k 2;rw[e]at this;exact this.symm) λe=>by have:=Nat.div_add_mod k 2;rw[e]at this;exact this.symm⟩
theorem ay7:∀(n:Nat) (l:List Obj),l.length < 2 ^ n->∀i,(bt n l).get i=l[i]?
 |0,l,h,i=>by
  obtain rfl:l=[]:=List.eq_nil_of_length_eq_zero (Nat.lt_one_iff.mp h)
  simp[bt,BT.get]
 |n+1,[],_,i=>by simp[bt,BT.get]
 |n+1,x::r,h,i=>by
  have hl:=ce8 r
  have h':(r.length+1) / 2 < 2 ^ n:=Nat.div_lt_of_lt_mul (by rw[Nat.mul_comm, ←Nat.pow_succ];exact h)
  show(BT.node x (bt n (sp r).1) (bt n (sp r).2)).get i=_
  rw[BT.get_node]
  cases i with
  |zero=>rfl
  |succ k=>
   rw[if_neg (Nat.succ_ne_zero k)]
   obtain⟨j,rfl|rfl⟩:=ct7 k
   ·rw[if_pos (Nat.mul_add_mod 2 j 1),Nat.mul_add_div (by decide) j 1,ay7 n _ (db2 hl.1 h')];exact(aJ6 r j).1
   ·rw[if_neg (λe=>by rw[Nat.add_assoc,Nat.mul_add_mod 2 j 2]at e;exact Nat.noConfusion e),Nat.add_assoc,Nat.mul_add_div (by decide) j 2,ay7 n _ (db2 hl.2 (db2 (Nat.div_le_div_right (Nat.le_succ _)) h'))];exact(aJ6 r j).2
theorem aK2{n k:Nat}{l:List Obj}{life:Life}(h:l.length < 2 ^ n)(hk:l.length=k):absHeap (bt n l) k life=⟨l.toArray,life⟩:=by
 have:((bt n l).list k)=l:=by
  subst hk
  apply List.ext_getElem?
  intro i
  unfold BT.list
  rw[cX2]
  by_cases hi:i < l.length
  ·rw[List.getElem?_range hi,Option.map_some,ay7 n l h,cW2 hi];rfl
  ·rw[List.getElem?_eq_none (by rw[List.length_range];lia),List.getElem?_eq_none (by lia)];rfl
 show Heap.mk _ _=_
 rw[this]
noncomputable def bl2(p:Program):Env:= {scope:=p.main.scope,locals:=mainNs,globals:=mainNs,cells:=[],code:= .ref 13,frame:=some 14}
noncomputable def u7(p:Program):Code:= .body p.main.body (bl2 p)
noncomputable def frB:List Frame:=[topFrame default]
noncomputable def N7(l:List Obj)(n t:Nat)(os:de5):SharedT:=⟨bt 10 l,n, {}, #[], {},t,os⟩
noncomputable def thr(ex:List Stmt->Env->Sem Flow)(p:Program)(l:List Stmt)(pos:Pos):Thread:=⟨(ex l (bl2 p)).wrap doneF deadEnd id id,u7 p,pos,frB⟩
theorem co4(w:World)(os:de5):cY5 cX0 pw w 11 (some (.ref 6)) 1 361 (N7 (h0 w.params) 15 187 os) (thr cY4 pw ((pw.main.body.drop 0).take 4) default)=some (.next,N7 (h1 pw w.params) 58 269 os,u7 pw,⟨6,0,24,16⟩):=by kernel_rfl
theorem cs5(w:World)(os:de5):cY5 cX0 pw w 11 (some (.ref 6)) 1 443 (N7 (h1 pw w.params) 58 269 os) (thr cY4 pw ((pw.main.body.drop 4).take 2) (⟨6,0,24,16⟩:Pos))=some (.next,N7 (h2 pw w.params) 90 315 os,u7 pw,⟨30,0,31,8⟩):=by kernel_rfl
theorem cD3(w:World)(os:de5):cY5 cX0 pw w 11 (some (.ref 6)) 1 411 (N7 (h2 pw w.params) 90 315 os) (thr cY4 pw ((pw.main.body.drop 6).take 14) (⟨30,0,31,8⟩:Pos))=some (.next,N7 (h3 pw w.params) 181 430 os,u7 pw,⟨103,0,115,38⟩):=by kernel_rfl
theorem cF6(w:World)(os:de5):cY5 cX0 pw w 11 (some (.ref 6)) 1 611 (N7 (h3 pw w.params) 181 430 os) (thr cY4 pw ((pw.main.body.drop 20).take 43) (⟨103,0,115,38⟩:Pos))=some (.next,N7 (h4 pw w.params) 246 594 os,u7 pw,⟨170,0,176,82⟩):=by kernel_rfl
theorem cp3(w:World)(os:de5):cY5 cX0 pw w 11 (some (.ref 6)) 1 225 (N7 (h4 pw w.params) 246 594 os) (thr cY4 pw ((pw.main.body.drop 63).take 1) (⟨170,0,176,82⟩:Pos))=some (.next,N7 (h5 pw w.params) 267 625 os,u7 pw,⟨177,0,181,26⟩):=by kernel_rfl
theorem cl7(w:World)(os:de5):cY5 cX0 pw w 11 (some (.ref 6)) 1 1067 (N7 (h5 pw w.params) 267 625 os) (thr cY4 pw ((pw.main.body.drop 64).take 1) (⟨177,0,181,26⟩:Pos))=some (.next,N7 (h6 pw w.params) 470 874 os,u7 pw,⟨182,0,434,24⟩):=by kernel_rfl
theorem cp7(w:World)(os:de5):cY5 cX0 pw w 11 (some (.ref 6)) 1 376 (N7 (h6 pw w.params) 470 874 os) (thr cY4 pw ((pw.main.body.drop 65).take 13) (⟨182,0,434,24⟩:Pos))=some (.next,N7 (h7 pw w.params) 550 982 os,u7 pw,⟨520,0,550,58⟩):=by kernel_rfl
theorem cS5(w:World)(os:de5):segRun dg4 pw w 11 (some (.ref 6)) 1 361 (N7 (h0 w.params) 15 187 os).abs (thr execs pw ((pw.main.body.drop 0).take 4) default)=some (.next,(N7 (h1 pw w.params) 58 269 os).abs,u7 pw,⟨6,0,24,16⟩):=by
 have h:=co4 w os
 rw[←cY7, ←cX8, ←cY6]at h
 exact segRun_of h
theorem cO4(w:World)(os:de5):segRun dg4 pw w 11 (some (.ref 6)) 1 443 (N7 (h1 pw w.params) 58 269 os).abs (thr execs pw ((pw.main.body.drop 4).take 2) (⟨6,0,24,16⟩:Pos))=some (.next,(N7 (h2 pw w.params) 90 315 os).abs,u7 pw,⟨30,0,31,8⟩):=by
 have h:=cs5 w os
 rw[←cY7, ←cX8, ←cY6]at h
 exact segRun_of h
theorem cI7(w:World)(os:de5):segRun dg4 pw w 11 (some (.ref 6)) 1 411 (N7 (h2 pw w.params) 90 315 os).abs (thr execs pw ((pw.main.body.drop 6).take 14) (⟨30,0,31,8⟩:Pos))=some (.next,(N7 (h3 pw w.params) 181 430 os).abs,u7 pw,⟨103,0,115,38⟩):=by
 have h:=cD3 w os
 rw[←cY7, ←cX8, ←cY6]at h
 exact segRun_of h
theorem cR3(w:World)(os:de5):segRun dg4 pw w 11 (some (.ref 6)) 1 611 (N7 (h3 pw w.params) 181 430 os).abs (thr execs pw ((pw.main.body.drop 20).take 43) (⟨103,0,115,38⟩:Pos))=some (.next,(N7 (h4 pw w.params) 246 594 os).abs,u7 pw,⟨170,0,176,82⟩):=by
 have h:=cF6 w os
 rw[←cY7, ←cX8, ←cY6]at h
 exact segRun_of h
theorem cP3(w:World)(os:de5):segRun dg4 pw w 11 (some (.ref 6)) 1 225 (N7 (h4 pw w.params) 246 594 os).abs (thr execs pw ((pw.main.body.drop 63).take 1) (⟨170,0,176,82⟩:Pos))=some (.next,(N7 (h5 pw w.params) 267 625 os).abs,u7 pw,⟨177,0,181,26⟩):=by
 have h:=cp3 w os
 rw[←cY7, ←cX8, ←cY6]at h
 exact segRun_of h
theorem cT2(w:World)(os:de5):segRun dg4 pw w 11 (some (.ref 6)) 1 1067 (N7 (h5 pw w.params) 267 625 os).abs (thr execs pw ((pw.main.body.drop 64).take 1) (⟨177,0,181,26⟩:Pos))=some (.next,(N7 (h6 pw w.params) 470 874 os).abs,u7 pw,⟨182,0,434,24⟩):=by
 have h:=cl7 w os
 rw[←cY7, ←cX8, ←cY6]at h
 exact segRun_of h
theorem cJ1(w:World)(os:de5):segRun dg4 pw w 11 (some (.ref 6)) 1 376 (N7 (h6 pw w.params) 470 874 os).abs (thr execs pw ((pw.main.body.drop 65).take 13) (⟨182,0,434,24⟩:Pos))=some (.next,(N7 (h7 pw w.params) 550 982 os).abs,u7 pw,⟨520,0,550,58⟩):=by
 have h:=cp7 w os
 rw[←cY7, ←cX8, ←cY6]at h
 exact segRun_of h
noncomputable def H₁(P:Params):Heap:=⟨(h7 pw P).toArray, {}⟩
noncomputable def Sa(w:World)(os:de5):Shared:=⟨⟨(h0 w.params).toArray, {}⟩, #[], {},187,os⟩
theorem cP9(w:World)(os:de5):PySem.W.Fast.tw15667345088766844465 cX0 pw w 11 (some (.ref 6)) 12 ⟨boot_heap w.params, #[],boot_drawn,boot_toks,os⟩ (topStub pw)=some (Sa w os,⟨PySem.W.Fast.tw11892475500146522536 cX0 (u7 pw),u7 pw,default,frB⟩):=by kernel_rfl
theorem cN6(w:World)(os:de5):topGo dg4 pw w 11 (some (.ref 6)) 12 ⟨boot_heap w.params, #[],boot_drawn,boot_toks,os⟩ (topStub pw)=some (Sa w os,⟨denote dg4 (u7 pw),u7 pw,default,frB⟩):=by
 have h:=cP9 w os
 rw[←PySem.W.Fast.te15667345088766844465, ←PySem.W.Fast.te11892475500146522536, ←cX8]at h
 exact h
theorem cU2(w:World)(os:de5):(N7 (h0 w.params) 15 187 os).abs=Sa w os:=by
 show(⟨absHeap (bt 10 (h0 w.params)) 15 {}, #[], {},187,os⟩:Shared)=_
 rw[aK2 (n:=10) (k:=15) (l:=h0 w.params) (show 15 < 2 ^ 10 by decide) rfl];rfl
theorem ch2(P:Params):(h7 pw P).length=550:=by kernel_rfl
theorem cq3(w:World)(os:de5):(N7 (h7 pw w.params) 550 982 os).abs=⟨H₁ w.params, #[], {},982,os⟩:=by
 show(⟨absHeap (bt 10 (h7 pw w.params)) 550 {}, #[], {},982,os⟩:Shared)=_
 rw[aK2 (n:=10) (k:=550) (l:=h7 pw w.params) (by rw[ch2];decide) (ch2 _)];rfl
theorem bY0(w:World)(os:de5):segRun dg4 pw w 11 (some (.ref 6)) 1 1 (Sa w os) (blockOf pw.main.body (bl2 pw) (u7 pw) default frB)=some (.next,Sa w os,u7 pw,default):=by kernel_rfl
theorem cK5(w:World)(os:de5)(pos:Pos):topRun dg4 pw w 11 (some (.ref 6)) 2 ⟨H₁ w.params, #[], {},982,os⟩ ⟨doneF .next,u7 pw,pos,frB⟩=some ⟨H₁ w.params, #[], {},982,os⟩:=rfl
theorem bR0:pw.main.body=((pw.main.body.drop 0).take 4)++(((pw.main.body.drop 4).take 2)++(((pw.main.body.drop 6).take 14)++(((pw.main.body.drop 20).take 43)++(((pw.main.body.drop 63).take 1)++(((pw.main.body.drop 64).take 1)++(((pw.main.body.drop 65).take 13)++[])))))):=by kernel_rfl
theorem be7(w:World)(os:de5):topRun dg4 pw w 11 (some (.ref 6)) (12+ (1+ (361+ (443+ (411+ (611+ (225+ (1067+ (376+2))))))))) ⟨boot_heap w.params, #[],boot_drawn,boot_toks,os⟩ (topStub pw)=some ⟨H₁ w.params, #[], {},982,os⟩:=by
 refine go_top (cN6 w os) (piece_block (bY0 w os) ?_)
 show topRun dg4 pw w 11 (some (.ref 6)) _ (Sa w os) (restOf pw.main.body (bl2 pw) (u7 pw) default [topFrame default])=_
 rw[bR0]
 have e7:=cq3 w os
 rw[←cU2]
 refine piece_app (cS5 w os) (piece_app (cO4 w os) (piece_app (cI7 w os) (piece_app (cR3 w os) (piece_app (cP3 w os) (piece_app (cT2 w os) (piece_app (cJ1 w os) (?_)))))))
 rw[cq3]
 exact piece_nil (cK5 w os _)
theorem ct3:∀w:World,(fencedOpening dg4 pw w 7100).map (λs=>(s.heap,s.gens,s.drawn,s.toks))=some (boot_heap w.params,Array.mk [],boot_drawn,boot_toks):=
 boot_open (by kernel_rfl) (by decide+kernel) (λs=>by kernel_rfl)
theorem ci4(w:World):((boot_heap w.params).isNs cW5&& (#[]:Array GenState).size==0,(boot_heap w.params).objs.size,(boot_heap w.params).nsMap cW5 "__annotations__")=(true,11,some (.ref 6)):=by kernel_rfl
theorem cB9(P:Params):staticsOk (importedModules pw.main.body) (boot_heap P) (H₁ P)=true:=by kernel_rfl
theorem cF1(P:Params):namesBound pw (H₁ P)=true:=by kernel_rfl
theorem cy3(w:World)(os:de5):gensDone ⟨H₁ w.params, #[], {},982,os⟩=true:=by kernel_rfl
theorem cz8(P:Params):laidKept (boot_heap P) (H₁ P)=true:=by kernel_rfl
theorem cn1(w:World)(os:de5):openSeen qv ap5 (importedModules pw.main.body) Xt true ⟨H₁ w.params, #[], {},982,os⟩=openGood qv ap5:=by kernel_rfl
theorem cn3:LeftO pw qv ap5 Xt (λs=>s.heap) (λw=>H₁ w.params) 7100:=by
 refine LeftO.of_pieces (H₀:=boot_heap) (H₁:=H₁) (gs₀:=Array.mk []) (gs₁:= #[]) (d₀:=boot_drawn) (d₁:= {}) (k₀:=boot_toks) (k₁:=982) (m₀:=11) (ann:=some (.ref 6)) ct3 ci4 be7 (by decide+kernel) (λw=>funext λos=> ?_)
 rw[cB9,cF1,cy3,cz8,cn1]
 rfl
end Mine
set_option maxHeartbeats 1000000
namespace Mine
section
noncomputable def KP(P:Params):Frag:=(List.range 550).zip (h7 pw P)
theorem Y8{α:Type}:∀(l:List α) (k a:Nat) (o:α),((List.range' k l.length).zip l).lookup a=some o->k<=a/\l[a - k]? =some o
 | [],_,_,_,h=>by simp at h
 |x::l,k,a,o,h=>by
  rw[da0,List.range'_succ,List.zip_cons_cons,dc3]at h
  by_cases e:a=k
  ·subst e;simp at h;subst h;simp
  ·have e':(a==k)=false:=by simpa using e
   rw[e']at h
   have⟨h1,h2⟩:=Y8 l (k+1) a o h
   refine⟨by lia, ?_⟩
   rw[show a - k=(a - (k+1))+1 by lia,df6];exact h2
theorem cG0{P:Params}{a:Nat}{o:Obj}(h:(h7 pw P)[a]? =some o)(hf:o.isFreed=false):(H₁ P).get? a=some o:=
 Heap.get?_some_iff.mpr ⟨by show(h7 pw P).toArray[a]? =_;rw[List.getElem?_toArray];exact h,hf⟩
noncomputable def P7:List Obj->Bool
 | []=>true
 |o::r=>match o.isFreed with|true=>false|false=>P7 r
set_option tactic.hygienic true in
theorem Q8:∀ {l:List Obj},P7 l=true->∀(i:Nat) (o:Obj),l[i]? =some o->o.isFreed=false
 | [],_,_,_,e=>by simp at e
 |x::l,h,i,o,e=>by
  unfold P7 at h
  split at h
  ·exact cV2 h
  ·rename_i q
   cases i with
   |zero=>simp at e;subst e;exact q
   |succ i=>exact Q8 h i o (by simpa using e)
theorem nf7(P:Params):P7 (h7 pw P)=true:=by kernel_rfl
theorem bv9(P:Params):(KP P).In (H₁ P):=by
 intro a o h
 unfold KP at h
 rw[List.range_eq_range', ←ch2 P]at h
 have⟨_,h2⟩:=Y8 _ _ _ _ h
 rw[Nat.sub_zero]at h2
 exact cG0 h2 (Q8 (nf7 P) _ _ h2)
structure Cx where
 w:World
 H₀:Heap
 os:de5
 inc:Heap.incl (H₁ w.params) H₀
namespace Cx
variable (X:Cx)
noncomputable abbrev M:Model:=model pw X.w
noncomputable abbrev K:Frag:=KP X.w.params
theorem kin:X.K.In X.H₀:=λa o h=>X.inc a o (bv9 _ a o h)
end Cx
noncomputable abbrev PM:=Addr->Option Obj
noncomputable def PM.le(φ φ':PM):Prop:=∀a o,φ a=some o->φ' a=some o
theorem PM.le.refl(φ:PM):φ.le φ:=λH H h=>h
theorem PM.le.trans{a b c:PM}(h:a.le b)(k:b.le c):a.le c:=λx o e=>k x o (h x o e)
noncomputable def PM.set(φ:PM)(a:Addr)(o:Obj):PM:=λx=>if x=a then some o else φ x
noncomputable def PM.del(φ:PM)(a:Addr):PM:=λx=>if x=a then none else φ x
noncomputable def PM.or(φ ψ:PM):PM:=λx=>(φ x).or (ψ x)
noncomputable def PM.emp:PM:=λH=>none
structure Sep(X:Cx)(φ ψ ω:PM)(s:Shared):Prop where
 kφ:∀a o,φ a=some o->s.heap.get? a=some o
 kψ:∀a o,ψ a=some o->s.heap.get? a=some o
 kω:∀a o,ω a=some o->s.heap.get? a=some o
 d1:∀a,φ a≠none->ψ a=none
 d2:∀a,φ a≠none->ω a=none
 d3:∀a,ψ a≠none->ω a=none
 base:∀a o,X.H₀.get? a=some o->φ a=some o
 os:s.os=X.os
 gens:s.gens= #[]
section
variable {X:Cx} {φ ψ ω:PM} {s:Shared}
theorem Sep.heap0(S:Sep X φ ψ ω s):∀a o,X.H₀.get? a=some o->s.heap.get? a=some o:=λa o h=>S.kφ a o (S.base a o h)
theorem Sep.kin(S:Sep X φ ψ ω s):X.K.In s.heap:=X.kin.keeps S.heap0
theorem Sep.toks(S:Sep X φ ψ ω s)(t:Nat):Sep X φ ψ ω {s with toks:=t}:=⟨S.kφ,S.kψ,S.kω,S.d1,S.d2,S.d3,S.base,S.os,S.gens⟩
theorem Sep.fresh(S:Sep X φ ψ ω s):φ s.heap.objs.size=none/\ψ s.heap.objs.size=none/\ω s.heap.objs.size=none:=by
 refine⟨?_, ?_, ?_⟩
 ·cases h:φ s.heap.objs.size with
  |none=>rfl
  |some o=>exact absurd (cY9 (S.kφ _ _ h)) (di0 _)
 ·cases h:ψ s.heap.objs.size with
  |none=>rfl
  |some o=>exact absurd (cY9 (S.kψ _ _ h)) (di0 _)
 ·cases h:ω s.heap.objs.size with
  |none=>rfl
  |some o=>exact absurd (cY9 (S.kω _ _ h)) (di0 _)
set_option tactic.hygienic true in
theorem Sep.change{a:Addr}{o o':Obj}{h':Heap}{t:Nat}(S:Sep X φ ψ ω s)(ha:ω a=some o)(hs:db1 a s.heap h')(he:h'.get? a=some o'):
 Sep X φ ψ (ω.set a o') {s with heap:=h',toks:=t}:=by
 refine⟨λb x e=> ?_,λb x e=> ?_,λb x e=> ?_,S.d1,λb hb=> ?_,λb hb=> ?_,S.base,S.os,S.gens⟩
 ·have:b≠a:=by rintro rfl;rw[S.d2 b (by rw[e];simp)]at ha;exact nomatch ha
  exact(hs.2 b this).trans (S.kφ b x e)
 ·have:b≠a:=by rintro rfl;rw[S.d3 b (by rw[e];simp)]at ha;exact nomatch ha
  exact(hs.2 b this).trans (S.kψ b x e)
 ·unfold PM.set at e
  split at e
  ·rename_i q;subst q;cases e;exact he
  ·rename_i q;exact(hs.2 b q).trans (S.kω b x e)
 ·unfold PM.set
  split
  ·rename_i q;subst q;have:=S.d2 b hb;rw[ha]at this;exact nomatch this
  ·exact S.d2 b hb
 ·unfold PM.set
  split
  ·rename_i q;subst q;have:=S.d3 b hb;rw[ha]at this;exact nomatch this
  ·exact S.d3 b hb
set_option tactic.hygienic true in
theorem Sep.pushω(S:Sep X φ ψ ω s)(o:Obj)(hf:o.isFreed=false)(t:Nat):Sep X φ ψ (ω.set s.heap.objs.size o) {s with heap:=s.heap.push o,toks:=t}:=by
 obtain⟨f1,f2,f3⟩:=S.fresh
 refine⟨λb x e=>cV6 o (S.kφ b x e),λb x e=>cV6 o (S.kψ b x e),λb x e=> ?_,S.d1,λb hb=> ?_,λb hb=> ?_,S.base,S.os,S.gens⟩
 ·unfold PM.set at e
  split at e
  ·rename_i q;subst q;cases e;exact cX3 _ hf
  ·exact cV6 o (S.kω b x e)
 ·unfold PM.set
  split
  ·rename_i q;subst q;exact absurd f1 hb
  ·exact S.d2 b hb
 ·unfold PM.set
  split
  ·rename_i q;subst q;exact absurd f2 hb
  ·exact S.d3 b hb
set_option tactic.hygienic true in
theorem Sep.freeze{a:Addr}{o:Obj}(S:Sep X φ ψ ω s)(ha:ω a=some o):Sep X (φ.set a o) ψ (ω.del a) s/\φ.le (φ.set a o):=by
 have fa:φ a=none:=by
  cases h:φ a with
  |none=>rfl
  |some x=>have:=S.d2 a (by rw[h];simp);rw[ha]at this;exact nomatch this
 have pa:ψ a=none:=by
  cases h:ψ a with
  |none=>rfl
  |some x=>have:=S.d3 a (by rw[h];simp);rw[ha]at this;exact nomatch this
 have le:φ.le (φ.set a o):=λb x e=>by
  unfold PM.set
  split
  ·rename_i q;subst q;rw[fa]at e;exact nomatch e
  ·exact e
 refine⟨⟨λb x e=> ?_,S.kψ,λb x e=> ?_,λb hb=> ?_,λb hb=> ?_,λb hb=> ?_,λb x e=>le _ _ (S.base b x e),S.os,S.gens⟩,le⟩
 ·unfold PM.set at e
  split at e
  ·rename_i q;subst q;cases e;exact S.kω _ _ ha
  ·exact S.kφ b x e
 ·unfold PM.del at e
  split at e
  ·exact nomatch e
  ·exact S.kω b x e
 ·unfold PM.set at hb
  split at hb
  ·rename_i q;subst q;exact pa
  ·exact S.d1 b hb
 ·unfold PM.set at hb
  unfold PM.del
  split
  ·rfl
  ·rename_i q;rw[if_neg q]at hb;exact S.d2 b hb
 ·unfold PM.del
  split
  ·rfl
  ·exact S.d3 b hb
theorem Sep.sub{ω':PM}(S:Sep X φ ψ ω s)(h:ω'.le ω):Sep X φ ψ ω' s:=by
 refine⟨S.kφ,S.kψ,λb x e=>S.kω b x (h b x e),S.d1,λb hb=> ?_,λb hb=> ?_,S.base,S.os,S.gens⟩
 ·cases q:ω' b with
  |none=>rfl
  |some x=>have:=S.d2 b hb;rw[h b x q]at this;exact nomatch this
 ·cases q:ω' b with
  |none=>rfl
  |some x=>have:=S.d3 b hb;rw[h b x q]at this;exact nomatch this
theorem PM.del_le(ω:PM)(a:Addr):(ω.del a).le ω:=λb x e=>by
 unfold PM.del at e
 split at e
 ·exact nomatch e
 ·exact e
theorem Sep.pushφ(S:Sep X φ ψ ω s)(o:Obj)(hf:o.isFreed=false)(t:Nat):Sep X (φ.set s.heap.objs.size o) ψ ω {s with heap:=s.heap.push o,toks:=t}/\φ.le (φ.set s.heap.objs.size o):=by
 have h:=(S.pushω o hf t).freeze (a:=s.heap.objs.size) (o:=o) (by unfold PM.set;rw[if_pos rfl])
 refine⟨h.1.sub λb x e=> ?_,h.2⟩
 unfold PM.del PM.set
 have:b≠s.heap.objs.size:=by rintro rfl;rw[S.fresh.2.2]at e;exact nomatch e
 rw[if_neg this,if_neg this];exact e
theorem Sep.enter{ω₁ ω₂:PM}(S:Sep X φ ψ ω s)(h1:ω₁.le ω)(h2:ω₂.le ω)(hd:∀a,ω₁ a≠none->ω₂ a=none):Sep X φ (ψ.or ω₁) ω₂ s:=by
 refine⟨S.kφ,λb x e=> ?_,(S.sub h2).kω,λb hb=> ?_,(S.sub h2).d2,λb hb=> ?_,S.base,S.os,S.gens⟩
 ·unfold PM.or at e
  cases q:ψ b with
  |some y=>rw[q]at e;cases e;exact S.kψ _ _ q
  |none=>rw[q]at e;exact S.kω _ _ (h1 _ _ e)
 ·show(ψ b).or (ω₁ b)=none
  rw[S.d1 b hb,(S.sub h1).d2 b hb];rfl
 ·unfold PM.or at hb
  cases q:ψ b with
  |some y=>exact(S.sub h2).d3 b (by rw[q];simp)
  |none=>rw[q]at hb;exact hd b hb
theorem Sep.leave{φ' ω₁ ω₂:PM}{s':Shared}(S:Sep X φ' (ψ.or ω₁) ω₂ s')(hd:∀a,ω₁ a≠none->ψ a=none):Sep X φ' ψ (ω₁.or ω₂) s':=by
 refine⟨S.kφ,λb x e=>S.kψ b x (by unfold PM.or;rw[e];rfl),λb x e=> ?_,λb hb=> ?_,λb hb=> ?_,λb hb=> ?_,S.base,S.os,S.gens⟩
 ·unfold PM.or at e
  cases q:ω₁ b with
  |some y=>rw[q]at e;cases e;exact S.kψ b _ (by unfold PM.or;rw[hd b (by rw[q];simp),q];rfl)
  |none=>rw[q]at e;exact S.kω b x e
 ·have:=S.d1 b hb
  unfold PM.or at this
  cases q:ψ b with
  |none=>rfl
  |some y=>rw[q]at this;exact nomatch this
 ·have h1:=S.d1 b hb
  unfold PM.or at h1⊢
  cases q:ψ b with
  |some y=>rw[q]at h1;exact nomatch h1
  |none=>rw[q]at h1;rw[show ω₁ b=none from h1,S.d2 b hb];rfl
 ·unfold PM.or
  have h1:ω₁ b=none:=by
   cases q:ω₁ b with
   |none=>rfl
   |some y=>exact absurd (hd b (by rw[q];simp)) hb
  rw[h1,S.d3 b (by unfold PM.or;cases q:ψ b with|none=>exact absurd q hb|some y=>simp)];rfl
end
end
noncomputable def forb:List String:=Builtin.Bytes.decodersThatHold++["bytearray.__contains__","bytearray.__mod__","bytearray.__rmod__","_struct.pack_into.held","bytearray.find.held"]
noncomputable def aN0:Code->Bool
 | .builtin id _=>forb.contains id
 |_=>false
theorem nf{id s:String}(hb:forb.contains id=false)(h:forb.contains s=true):¬ id=s:=λe=>by rw[e,h]at hb;exact cV2 hb
theorem R4{p:Prop}[Decidable p]{t:p->Bool}{e:¬ p->Bool}(h:¬ p)(k:e h=false):dite p t e=false:=(dif_neg h).trans k
theorem bn4(self:Value):∃f:Code×Pos->Bool,Builtin.Bytes.exported self=(stack>>= λl=>pure (l.any f))/\∀x,aN0 x.1=false->f x=false:=by
 refine⟨_,rfl,λx hb=> ?_⟩
 delta PySem.Builtin.Bytes.exported.match_1
 obtain⟨c,p⟩:=x
 cases c with
 |builtin id a=>
  refine R4 (nf hb (by decide)) (R4 (nf hb (by decide)) (R4 (nf hb (by decide)) (R4 (nf hb (by decide)) (R4 (nf hb (by decide)) ?_))))
  obtain⟨pos,kw⟩:=a
  cases pos with
  |nil=>rfl
  |cons v l=>
   refine Bool.and_eq_false_iff.mpr (.inr ?_)
   have hb:forb.contains id=false:=hb
   unfold forb at hb
   rw[List.contains_eq_any_beq,List.any_append,dc0]at hb
   rw[List.contains_eq_any_beq];exact hb.1
 |_=>rfl
noncomputable def ClB(Γ:Ctx):Prop:=∀x∈Γ.below,aN0 x.1=false
noncomputable def Cl(Γ:Ctx):Prop:=aN0 Γ.code=false/\ClB Γ
noncomputable def d6{α:Type}(M:Model)(A:Around)(t:Sem α)(Q:α->Shared->Prop)(E:Value->Shared->Prop)(s:Shared):Prop:=
 ∀Γ p,Γ.In A->Cl Γ->Sem.wp M Γ t (λa H s'=>Q a s') (λe H s'=>E e s') p s
noncomputable def o7(M:Model)(A:Around)(c:Code)(R:Result->Shared->Prop)(s:Shared):Prop:=
 ∀Γ p,Γ.code=c->Γ.Below A->ClB Γ->wpCode M Γ R p s
section
variable {α β:Type} {M:Model} {A:Around} {E:Value->Shared->Prop} {s:Shared} {R:Result->Shared->Prop}
theorem i9{t:Sem α}{Q:α->Shared->Prop}(h:wpAny M A t Q E s):d6 M A t Q E s:=λΓ p hΓ H=>h Γ p hΓ
theorem cb5{c:Code}(h:codeAny M A c R s):o7 M A c R s:=λΓ p e hΓ H=>h Γ p e hΓ
theorem j4{t:Sem α}{Q Q':α->Shared->Prop}{E':Value->Shared->Prop}(h:d6 M A t Q E s)(hQ:∀a s',Q a s'->Q' a s')(hE:∀e s',E e s'->E' e s'):d6 M A t Q' E' s:=
 λΓ p hΓ hc=>dg6 M Γ _ (λa H s'=>hQ a s') (λe H s'=>hE e s') p s (h Γ p hΓ hc)
theorem a0{t:Sem α}{f:α->Sem β}{Q:β->Shared->Prop}(h:d6 M A t (λa s'=>d6 M A (f a) Q E s') E s):d6 M A (t>>= f) Q E s:=λΓ p hΓ hc=>by
 rw[Sem.wp_bind']
 exact dg6 M Γ _ (λa p' s' h'=>h' Γ p' hΓ hc) (λH H H h'=>h') p s (h Γ p hΓ hc)
theorem b7{a:α}{Q:α->Shared->Prop}(h:Q a s):d6 M A (pure a) Q E s:=i9 (cW4 h)
theorem i4{vs:List Value}{t:Sem α}{Q:α->Shared->Prop}(h:d6 M A t Q E s):d6 M A (dc2 vs t) Q E s:=λΓ p hΓ hc=>by
 rw[Sem.wp_holding];exact h Γ p hΓ hc
theorem v3{vs:List Value}{m:Sem Value}{Q:Value->Shared->Prop}(h:d6 M A m Q E s):d6 M A (operate vs m) Q E s:=λΓ p hΓ hc=>by
 rw[Sem.wp_operate];exact h Γ p hΓ hc
theorem t5{t:Sem α}{a:α}{Q:α->Shared->Prop}(e:t=pure a)(h:Q a s):d6 M A t Q E s:=i9 (dc5 e h)
theorem U7{p:Pos}{Q:Unit->Shared->Prop}(h:Q () s):d6 M A (dd4 p) Q E s:=i9 (wpAny_standAt h)
theorem E4{m:Sem α}{k:Value->Sem Unit}{Q:α->Shared->Prop}
 (h:d6 M A m Q (λe s'=>d6 M A (k e) (λH s''=>E e s'') E s') s):d6 M A (m.onRaise k) Q E s:=λΓ p hΓ hc=>by
 rw[Sem.wp_onRaise]
 exact dg6 M Γ m (λH H H h'=>h') (λe p' s' h'=>h' Γ p' hΓ hc) p s (h Γ p hΓ hc)
theorem ClB.enter{Γ:Ctx}(h:Cl Γ)(c:Code)(hd:Option Value)(p:Pos):ClB (Γ.enter c hd p):=λx hx=>by
 rcases cY1.mp hx with rfl|hx
 ·exact h.1
 ·exact h.2 x hx
theorem br2{c:Code}{hd:Option Value}{Q:Flow->Shared->Prop}(hc:o7 M (A.mark hd) c (λr s'=>match r with| .ok f=>Q f s'| .error e=>E e s') s)(hnb:hd≠some byPass):
 d6 M A (run c hd) Q E s:=λΓ p hΓ hcl=>by
 rw[Sem.wp_run]
 exact hc _ p rfl (hΓ.enter c hd p hnb) (ClB.enter hcl c hd p)
theorem ak5{c:Code}{Q:Value->Shared->Prop}
 (hc:o7 M A c (λr s'=>match r with| .ok (.ret v)=>Q v s'| .ok _=>False| .error e=>E e s') s):d6 M A (runValue c) Q E s:=λΓ p hΓ hcl=>by
 rw[Sem.wp_runValue];exact hc _ p rfl (hΓ.enter c none p (by intro x;cases x)) (ClB.enter hcl c none p)
theorem q9{f:Value}{pos:List Value}{kw:List (Str×Value)}{Q:Value->Shared->Prop}
 (hc:o7 M A (.call f ⟨pos,kw⟩) (λr s'=>match r with| .ok (.ret v)=>Q v s'| .ok _=>False| .error e=>E e s') s):d6 M A (call f pos kw) Q E s:=ak5 hc
theorem Y0{c:Code}{R':Result->Shared->Prop}(h:o7 M A c R s)(k:∀r s',R r s'->R' r s'):o7 M A c R' s:=λΓ p e hΓ hc=>wpCode_mono k (h Γ p e hΓ hc)
theorem o6{c:Code}(hb:aN0 c=false)
 (h:d6 M (A.under c) (M.den c) (λfin s'=>match fin with| .done f=>R (.ok f) s'| .again c'=>c'.quiet=true/\o7 M A c' R s')
  (λe s'=>R (.error e) s') s):o7 M A c R s:=λΓ p hc hΓ hcl=>by
 rw[wpCode_iff_wp,hc]
 refine dg6 M Γ _ (λfin p' s' h'=> ?_) (λH H H h'=>h') p s (h Γ p (hc▸hΓ.in) ⟨by rw[hc];exact hb,hcl⟩)
 cases fin with
 |done f=>exact h'
 |again c'=>exact⟨h'.1,h'.2 (Γ.goto c') p' rfl (hΓ.goto c') hcl⟩
theorem Y6{c:Code}(hb:aN0 c=false)(hq:c.quiet=true)(I:Nat->Shared->Prop)
 (turn:∀n s,I n s->d6 M (A.under c) (M.den c)
  (λfin s'=>match fin with
   | .done f=>R (.ok f) s'
   | .again c'=>(c'=c/\∃m,m < n/\I m s')∨(c'.quiet=true/\o7 M A c' R s')) (λe s'=>R (.error e) s') s)
 (n:Nat) (h:I n s):o7 M A c R s:=by
 induction n using Nat.strongRecOn generalizing s with
 |ind n ih=>
  refine o6 hb (j4 (turn n s h) (λfin s' hf=> ?_) λH H h'=>h')
  cases fin with
  |done f=>exact hf
  |again c'=>
   rcases hf with⟨rfl,m,hm,hI⟩|hf
   ·exact⟨hq,ih m hm hI⟩
   ·exact hf
theorem R0{self:Value}{Q:Bool->Shared->Prop}(h:Q false s):d6 M A (Builtin.Bytes.exported self) Q E s:=λΓ p hΓ hc=>by
 obtain⟨f,e,hf⟩:=bn4 self
 have hl:((Γ.code,p)::Γ.below).any f=false:=List.any_eq_false.mpr λx hx=>by
  rw[hf x ((cY1.mp hx).elim (λe=>e▸hc.1) (hc.2 x))];exact de8
 rw[e,Sem.wp_bind']
 unfold stack
 rw[Sem.wp_stack,Sem.wp_pure,Sem.wp_pure',hl]
 exact h
end
section
variable {prog:Program} {w:World} {A:Around} {E:Value->Shared->Prop} {s:Shared} {env:Env} {R:Result->Shared->Prop}
theorem e9{α β:Type}{M:Model}{t:Sem α}{f:α->Sem β}{P:α->Shared->Prop}{Q:β->Shared->Prop}(h:d6 M A t P E s)(k:∀a s',P a s'->d6 M A (f a) Q E s'):d6 M A (t>>= f) Q E s:=
 a0 (j4 h k λH H x=>x)
theorem i6{β:Type}{M:Model}{p:Pos}{f:Unit->Sem β}{Q:β->Shared->Prop}(h:d6 M A (f ()) Q E s):d6 M A (dd4 p>>= f) Q E s:=a0 (U7 h)
theorem f9{α β:Type}{M:Model}{vs:List Value}{t:Sem α}{f:α->Sem β}{P:α->Shared->Prop}{Q:β->Shared->Prop}(h:d6 M A t P E s)(k:∀a s',P a s'->d6 M A (f a) Q E s'):d6 M A (dc2 vs t>>= f) Q E s:=
 a0 (i4 (j4 h k λH H x=>x))
theorem ae8{l op r pos}{Q:Value->Shared->Prop}
 (h:d6 (model prog w) A (eval l env) (λa s₁=>d6 (model prog w) A (eval r env) (λb s₂=>d6 (model prog w) A (binaryOp op a b) Q E s₂) E s₁) E s):
 d6 (model prog w) A (eval (.BinOp l op r pos) env) Q E s:=by
 rw[eval_BinOp]
 exact e9 h λa s₁ h₁=>f9 h₁ λb s₂ h₂=>i6 (v3 h₂)
theorem N9{l op r pos}{Q:Value->Shared->Prop}
 (h:d6 (model prog w) A (eval l env) (λa s₁=>d6 (model prog w) A (eval r env) (λb s₂=>d6 (model prog w) A (cZ0 op a b) Q E s₂) E s₁) E s)
 (hm:behindInMarks op r=false:=by with_unfolding_all rfl):d6 (model prog w) A (eval (.Compare l [op] [r] pos) env) Q E s:=by
 rw[eval_Compare1,markedBehindIn_of_false hm]
 exact e9 h λa s₁ h₁=>f9 h₁ λb s₂ h₂=>i6 (v3 h₂)
theorem K9{l op r pos whole}{Q:Bool->Shared->Prop}
 (h:d6 (model prog w) A (eval l env) (λa s₁=>d6 (model prog w) A (eval r env) (λb s₂=>d6 (model prog w) A (cZ0 op a b)
  (λc s₃=>d6 (model prog w) A (truthy c) Q E s₃) E s₂) E s₁) E s)
 (hm:behindInMarks op r=false:=by with_unfolding_all rfl):d6 (model prog w) A (isTrue (.Compare l [op] [r] pos) env whole) Q E s:=by
 rw[isTrue_Compare1,markedBehindIn_of_false hm]
 exact e9 h λa s₁ h₁=>f9 h₁ λb s₂ h₂=>i6 (a0 (v3 (j4 h₂ (λc s₃ h₃=>i4 h₃) λH H x=>x)))
theorem ap9{op:UnaryOp}{x:Expr}{pos:Pos}{Q:Value->Shared->Prop}(h:d6 (model prog w) A (eval x env) (λv s₁=>d6 (model prog w) A (unaryOp op v) Q E s₁) E s):
 d6 (model prog w) A (eval (.UnaryOp op x pos) env) Q E s:=by
 rw[arm_eval_UnaryOp]
 exact e9 h λv s₁ h₁=>i6 (i4 h₁)
theorem T5{e:Expr}{whole:Sem Value}{Q:Bool->Shared->Prop}(h:d6 (model prog w) A whole (λv s₁=>d6 (model prog w) A (truthy v) Q E s₁) E s)
 (he:isTrue e env whole=(do let v ←whole;dd4 e.pos;dc2 [v] (truthy v)):=by rfl):d6 (model prog w) A (isTrue e env whole) Q E s:=by
 rw[he]
 exact e9 h λv s₁ h₁=>i6 (i4 h₁)
theorem Y4{x:Expr}{pos:Pos}{whole:Sem Value}{Q:Bool->Shared->Prop}(h:d6 (model prog w) A (isTrue x env (eval x env)) (λb s₁=>Q (!b) s₁) E s):
 d6 (model prog w) A (isTrue (.UnaryOp .Not x pos) env whole) Q E s:=by
 rw[arm_isTrue_UnaryOp]
 exact e9 h λb s₁ h₁=>b7 h₁
theorem Q4{op:BoolOp}{values:List Expr}{pos:Pos}{whole:Sem Value}{Q:Bool->Shared->Prop}(h:d6 (model prog w) A (allTrue op values env) Q E s):
 d6 (model prog w) A (isTrue (.BoolOp op values pos) env whole) Q E s:=by rw[arm_isTrue_BoolOp];exact h
theorem L5{Q:Bool->Shared->Prop}(h:Q true s):d6 (model prog w) A (allTrue .And [] env) Q E s:=b7 h
theorem M8{Q:Bool->Shared->Prop}(h:Q false s):d6 (model prog w) A (allTrue .Or [] env) Q E s:=b7 h
theorem J9{x:Expr}{rest:List Expr}{Q:Bool->Shared->Prop}
 (h:d6 (model prog w) A (isTrue x env (eval x env)) (λb s₁=>if b then d6 (model prog w) A (allTrue .And rest env) Q E s₁ else Q false s₁) E s):d6 (model prog w) A (allTrue .And (x::rest) env) Q E s:=by
 show d6 _ A (isTrue x env (eval x env) >>= λb=>match BoolOp.And,b with| .And,false=>pure false| .Or,true=>pure true|_,_=>allTrue .And rest env) Q E s
 refine e9 h λb s₁ h₁=> ?_
 cases b
 ·exact b7 h₁
 ·exact h₁
theorem K8{x:Expr}{rest:List Expr}{Q:Bool->Shared->Prop}
 (h:d6 (model prog w) A (isTrue x env (eval x env)) (λb s₁=>if b then Q true s₁ else d6 (model prog w) A (allTrue .Or rest env) Q E s₁) E s):d6 (model prog w) A (allTrue .Or (x::rest) env) Q E s:=by
 show d6 _ A (isTrue x env (eval x env) >>= λb=>match BoolOp.Or,b with| .And,false=>pure false| .Or,true=>pure true|_,_=>allTrue .Or rest env) Q E s
 refine e9 h λb s₁ h₁=> ?_
 cases b
 ·exact h₁
 ·exact b7 h₁
theorem aI0{test body orelse:Expr}{pos:Pos}{Q:Value->Shared->Prop}
 (h:d6 (model prog w) A (isTrue test env (eval test env)) (λb s₁=>if b then d6 (model prog w) A (eval body env) Q E s₁ else d6 (model prog w) A (eval orelse env) Q E s₁) E s):
 d6 (model prog w) A (eval (.IfExp test body orelse pos) env) Q E s:=by
 rw[arm_eval_IfExp]
 refine e9 h λb s₁ h₁=> ?_
 cases b<;>exact h₁
theorem aP2{x y:Expr}{pos:Pos}{Q:Value->Shared->Prop}
 (h:d6 (model prog w) A (eval x env) (λv s₁=>d6 (model prog w) A (truthy v) (λt s₂=>if t then d6 (model prog w) A (eval y env) Q E s₂ else Q v s₂) E s₁) E s):
 d6 (model prog w) A (eval (.BoolOp .And [x,y] pos) env) Q E s:=by
 show d6 (model prog w) A (eval x env>>= λv=>dd4 pos>>= λH=>dc2 [v] (truthy v) >>= λt=>match BoolOp.And,t with
  | .And,false| .Or,true=>pure v
  |_,_=>boolOp pos .And [eval y env]) Q E s
 refine e9 h λv s₁ h₁=>i6 (f9 h₁ λt s₂ h₂=> ?_)
 cases t with
 |false=>exact b7 h₂
 |true=>exact h₂
theorem bi3{x y:Expr}{pos:Pos}{Q:Value->Shared->Prop}
 (h:d6 (model prog w) A (eval x env) (λv s₁=>d6 (model prog w) A (truthy v) (λt s₂=>if t then Q v s₂ else d6 (model prog w) A (eval y env) Q E s₂) E s₁) E s):
 d6 (model prog w) A (eval (.BoolOp .Or [x,y] pos) env) Q E s:=by
 show d6 (model prog w) A (eval x env>>= λv=>dd4 pos>>= λH=>dc2 [v] (truthy v) >>= λt=>match BoolOp.Or,t with
  | .And,false| .Or,true=>pure v
  |_,_=>boolOp pos .Or [eval y env]) Q E s
 refine e9 h λv s₁ h₁=>i6 (f9 h₁ λt s₂ h₂=> ?_)
 cases t with
 |false=>exact h₂
 |true=>exact b7 h₂
theorem ac8{l op1 op2 r₁ r₂ pos whole}{Q:Bool->Shared->Prop}
 (h:d6 (model prog w) A (eval l env) (λa s₁=>d6 (model prog w) A (testChain pos a [op1,op2] [eval r₁ env,eval r₂ env]) Q E s₁) E s)
 (hm:lastMarks [op1,op2] [r₁,r₂]=false:=by with_unfolding_all rfl):d6 (model prog w) A (isTrue (.Compare l [op1,op2] [r₁,r₂] pos) env whole) Q E s:=by
 show d6 _ A (eval l env>>= λa=>testChain pos a [op1,op2] (markedEach [op1,op2] [r₁,r₂] (evalEach [r₁,r₂] env))) Q E s
 rw[markedEach_of_false _ _ _ hm]
 exact a0 h
theorem ab7{l op1 op2 r₁ r₂ pos}{Q:Value->Shared->Prop}
 (h:d6 (model prog w) A (eval l env) (λa s₁=>d6 (model prog w) A (compareChain pos a [op1,op2] [eval r₁ env,eval r₂ env]) Q E s₁) E s)
 (hm:lastMarks [op1,op2] [r₁,r₂]=false:=by with_unfolding_all rfl):d6 (model prog w) A (eval (.Compare l [op1,op2] [r₁,r₂] pos) env) Q E s:=by
 show d6 _ A (eval l env>>= λa=>compareChain pos a [op1,op2] (markedEach [op1,op2] [r₁,r₂] (evalEach [r₁,r₂] env))) Q E s
 rw[markedEach_of_false _ _ _ hm]
 exact a0 h
theorem at6{pos:Pos}{a:Value}{op op':CmpOp}{ops:List CmpOp}{r r':Sem Value}{rs:List (Sem Value)}{Q:Bool->Shared->Prop}
 (h:d6 (model prog w) A r (λb s₁=>d6 (model prog w) A (cZ0 op a b) (λc s₂=>d6 (model prog w) A (truthy c)
  (λt s₃=>if t then d6 (model prog w) A (testChain pos b (op'::ops) (r'::rs)) Q E s₃ else Q false s₃) E s₂) E s₁) E s):
 d6 (model prog w) A (testChain pos a (op::op'::ops) (r::r'::rs)) Q E s:=by
 show d6 _ A (dc2 [a] r>>= λrv=>dd4 pos>>= λH=>dc2 [a,rv] (cZ0 op a rv) >>= λc=>release [a,rv] [c] >>= λH=>dc2 [c,rv] (truthy c) >>= λt=>
  if t=true then testChain pos rv (op'::ops) (r'::rs)else pure false) Q E s
 refine f9 h λb s₁ h₁=>i6 (f9 h₁ λc s₂ h₂=>a0 (i9 (wpAny_release' (f9 h₂ λt s₃ h₃=> ?_))))
 cases t with
 |false=>exact b7 h₃
 |true=>exact h₃
theorem as9{pos:Pos}{a:Value}{op:CmpOp}{r:Sem Value}{Q:Bool->Shared->Prop}
 (h:d6 (model prog w) A r (λb s₁=>d6 (model prog w) A (cZ0 op a b) (λc s₂=>d6 (model prog w) A (truthy c) Q E s₂) E s₁) E s):d6 (model prog w) A (testChain pos a [op] [r]) Q E s:=by
 show d6 _ A (dc2 [a] r>>= λrv=>dd4 pos>>= λH=>operate [a,rv] (cZ0 op a rv) >>= λc=>dc2 [c] (truthy c)) Q E s
 exact f9 h λb s₁ h₁=>i6 (a0 (v3 (j4 h₁ (λc s₂ h₂=>i4 h₂) λH H x=>x)))
theorem aq9{pos:Pos}{a:Value}{op op':CmpOp}{ops:List CmpOp}{r r':Sem Value}{rs:List (Sem Value)}{Q:Value->Shared->Prop}
 (h:d6 (model prog w) A r (λb s₁=>d6 (model prog w) A (cZ0 op a b) (λc s₂=>d6 (model prog w) A (truthy c)
  (λt s₃=>if t then d6 (model prog w) A (compareChain pos b (op'::ops) (r'::rs)) Q E s₃ else Q c s₃) E s₂) E s₁) E s):
 d6 (model prog w) A (compareChain pos a (op::op'::ops) (r::r'::rs)) Q E s:=by
 show d6 _ A (dc2 [a] r>>= λrv=>dd4 pos>>= λH=>dc2 [a,rv] (cZ0 op a rv) >>= λc=>release [a,rv] [c] >>= λH=>dc2 [c,rv] (truthy c) >>= λt=>
  if t=true then compareChain pos rv (op'::ops) (r'::rs)else pure c) Q E s
 refine f9 h λb s₁ h₁=>i6 (f9 h₁ λc s₂ h₂=>a0 (i9 (wpAny_release' (f9 h₂ λt s₃ h₃=> ?_))))
 cases t with
 |false=>exact b7 h₃
 |true=>exact h₃
theorem ar7{pos:Pos}{a:Value}{op:CmpOp}{r:Sem Value}{Q:Value->Shared->Prop}
 (h:d6 (model prog w) A r (λb s₁=>d6 (model prog w) A (cZ0 op a b) Q E s₁) E s):d6 (model prog w) A (compareChain pos a [op] [r]) Q E s:=by
 show d6 _ A (dc2 [a] r>>= λrv=>dd4 pos>>= λH=>operate [a,rv] (cZ0 op a rv)) Q E s
 exact f9 h λb s₁ h₁=>i6 (v3 h₁)
theorem F4{x:Sem Value}{rest:List (Bool×Sem Value)}{Q:List Value->Shared->Prop}
 (h:d6 (model prog w) A x (λv s₁=>d6 (model prog w) A (spliced rest) (λvs s₂=>Q (v::vs) s₂) E s₁) E s):d6 (model prog w) A (spliced ((false,x)::rest)) Q E s:=by
 show d6 _ A (x>>= λv=>(pure [v]:Sem (List Value)) >>= λhere=>dc2 here (spliced rest) >>= λmore=>pure (here++more)) Q E s
 exact e9 h λv s₁ h₁=>a0 (b7 (f9 h₁ λvs s₂ h₂=>b7 h₂))
theorem d9{pos:Pos}{e:Expr}{rest:List Expr}{Q:List Value->Shared->Prop}
 (h:d6 (model prog w) A (eval e env) (λv s₁=>d6 (model prog w) A (spliced (backTo pos (cW7 rest env))) (λvs s₂=>Q (v::vs) s₂) E s₁) E s)
 (he:cW7 (e::rest) env=(false,eval e env)::cW7 rest env:=by rfl):d6 (model prog w) A (spliced (backTo pos (cW7 (e::rest) env))) Q E s:=by
 rw[he]
 exact F4 h
theorem F3{elts:List Expr}{k:Nat}{pos:Pos}{Q:Value->Shared->Prop}
 (h:d6 (model prog w) A (spliced (backTo pos (cW7 elts env)))
  (λvs s₁=>vs.length<=sizeLine/\Q (.ref s₁.heap.objs.size) {s₁ with heap:=s₁.heap.push {cls:= .type "tuple",data:= .seq vs.toArray}}) E s):d6 (model prog w) A (eval (.Tuple elts k pos) env) Q E s:=by
 rw[arm_eval_Tuple]
 exact i6 (e9 h λvs s₁ h₁=>i9 (wpAny_newObj_type h₁.2 (by show vs.toArray.size<=sizeLine;rw[dd2];exact h₁.1)))
theorem D8{elts:List Expr}{pos:Pos}{Q:Value->Shared->Prop}
 (h:d6 (model prog w) A (spliced (backTo pos (cW7 elts env)))
  (λvs s₁=>vs.length<=sizeLine/\Q (.ref s₁.heap.objs.size) {s₁ with heap:=s₁.heap.push {cls:= .type "list",data:= .seq vs.toArray}}) E s):d6 (model prog w) A (eval (.List elts pos) env) Q E s:=by
 rw[arm_eval_List]
 exact i6 (e9 h λvs s₁ h₁=>i9 (wpAny_newObj_type h₁.2 (by show vs.toArray.size<=sizeLine;rw[dd2];exact h₁.1)))
theorem af6{lower upper step:Option Expr}{p:Pos}{Q:Value->Shared->Prop}
 (h:d6 (model prog w) A (evalPart lower env) (λl s₁=>d6 (model prog w) A (evalPart upper env) (λu s₂=>d6 (model prog w) A (evalPart step env) (λst s₃=>
  Q (.ref s₃.heap.objs.size) {s₃ with heap:=s₃.heap.push {cls:= .type "slice",data:= .fields #[l,u,st]}}) E s₂) E s₁) E s):
 d6 (model prog w) A (eval (.Slice lower upper step p) env) Q E s:=by
 rw[arm_eval_Slice]
 exact e9 h λl s₁ h₁=>f9 h₁ λu s₂ h₂=>f9 h₂ λst s₃ h₃=>i9 (wpAny_newObj_type h₃)
set_option tactic.hygienic true in
theorem l7{st rest}{Q:Flow->Shared->Prop}
 (h:d6 (model prog w) A (exec st env) (λf s'=>match f with| .next=>d6 (model prog w) A (execs rest env) Q E s'|f=>Q f s') E s):d6 (model prog w) A (execs (st::rest) env) Q E s:=by
 rw[execs_cons]
 refine e9 h λf s' h'=> ?_
 cases f<;>first|exact h'|exact b7 h'
theorem cd2{test body orelse pos}{Q:Flow->Shared->Prop}
 (h:d6 (model prog w) A (isTrue test env (eval test env)) (λb s₂=>if b then d6 (model prog w) A (execs body env) Q E s₂ else d6 (model prog w) A (execs orelse env) Q E s₂) E s):
 d6 (model prog w) A (exec (.If test body orelse pos) env) Q E s:=by
 rw[exec_If]
 refine i6 (e9 h λb s₂ h₂=> ?_)
 cases b<;>exact h₂
theorem C1{e pos}{Q:Flow->Shared->Prop}(h:d6 (model prog w) A (eval e env) (λv=>Q (.ret v)) E s):d6 (model prog w) A (exec (.Return (some e) pos) env) Q E s:=by
 rw[exec_Return_some]
 exact i6 (e9 h λv s₁ h₁=>by first|exact b7 h₁|exact i6 (b7 h₁))
theorem Q6{e pos}{Q:Flow->Shared->Prop}(h:d6 (model prog w) A (eval e env) (λH=>Q .next) E s)
 (hi:interactive env=false:=by rfl) (hs:dd3 e none pos.line env=pure false:=by rfl):d6 (model prog w) A (exec (.Expr e pos) env) Q E s:=by
 rw[exec_Expr env e pos hi hs]
 exact i6 (e9 h λv s' h'=>i9 (wpAny_dropValue h'))
theorem t8{x pos' value pos}{Q:Flow->Shared->Prop}
 (h:d6 (model prog w) A (eval value env) (λv s₁=>wpAny (model prog w) A (storeName env x v) (λH=>Q .next) E s₁) E s)
 (hs:dd3 value (some (.Name x pos')) pos.line env=pure false:=by rfl):d6 (model prog w) A (exec (.Assign [.Name x pos'] value pos) env) Q E s:=by
 rw[exec_Assign_Name env x pos' value pos hs]
 exact i6 (e9 h λv s₁ h₁=>by first|exact i6 (a0 (i9 (wpAny_bindName (df8 h₁ (λH H x=>b7 x) λH H x=>x))))|exact a0 (i9 (wpAny_bindName (df8 h₁ (λH H x=>b7 x) λH H x=>x))))
theorem M7{x pos' op value pos}{Q:Flow->Shared->Prop}
 (h:wpAny (model prog w) A (loadName env x) (λold s₁=>d6 (model prog w) A (eval value env) (λv s₂=>d6 (model prog w) A (inplaceOp op old v)
  (λr s₃=>wpAny (model prog w) A (storeName env x r) (λH=>Q .next) E s₃) E s₂) E s₁) E s):d6 (model prog w) A (exec (.AugAssign (.Name x pos') op value pos) env) Q E s:=by
 rw[exec_AugAssign_Name]
 refine i6 (e9 (i9 h) λold s₁ h₁=>f9 h₁ λv s₂ h₂=> ?_)
 refine i6 (a0 (v3 (j4 h₂ (λr s₃ h₃=> ?_) λH H x=>x)))
 first|exact i6 (a0 (i9 (wpAny_bindName (df8 h₃ (λH H x=>b7 x) λH H x=>x))))|exact a0 (i9 (wpAny_bindName (df8 h₃ (λH H x=>b7 x) λH H x=>x)))
theorem z7{value:Expr}{attr:Str}{pos:Pos}{Q:Value->Shared->Prop}
 (h:d6 (model prog w) A (eval value env) (λo s₁=>d6 (model prog w) A (getAttr o attr true) Q E s₁) E s)
 (he:eval (.Attribute value attr pos) env=(do
  let o ←eval value env
  dd4 pos.atName
  let r ←dc2 [o] (getAttr o attr true)
  letTemporaryGo value o r
  pure r):=by with_unfolding_all rfl):d6 (model prog w) A (eval (.Attribute value attr pos) env) Q E s:=by
 rw[he]
 exact e9 h λo s₁ h₁=>i6 (f9 h₁ λr s₂ h₂=>a0 (i9 (wpAny_letTemporaryGo (b7 h₂))))
theorem B8{o attr pos' value pos}{Q:Flow->Shared->Prop}
 (h:d6 (model prog w) A (eval value env) (λv s₁=>d6 (model prog w) A (eval o env) (λov s₂=>d6 (model prog w) A (setAttr ov attr v) (λH=>Q .next) E s₂) E s₁) E s)
 (hs:dd3 value (some (.Attribute o attr pos')) pos.line env=pure false:=by rfl):d6 (model prog w) A (exec (.Assign [.Attribute o attr pos'] value pos) env) Q E s:=λΓ p hΓ hc=>by
 simp only[plainObj_exec_Assign_Attribute o attr pos' value pos hs,assign_Attribute,Sem.wp_bind',Sem.wp_holding,Sem.wp_cmd_standAt,Sem.wp_release,Sem.wp_pure']
 exact dg6 _ Γ _ (λv p₁ s₁ h₁=>dg6 _ Γ _ (λov H s₂ h₂=>h₂ Γ _ hΓ hc) (λH H H h'=>h') _ _ (h₁ Γ p₁ hΓ hc)) (λH H H h'=>h') _ _ (h Γ _ hΓ hc)
theorem F5{o value:Expr}{attr:Str}{tpos pos:Pos}{op:Operator}{Q:Flow->Shared->Prop}
 (h:d6 (model prog w) A (eval o env) (λov s₁=>d6 (model prog w) A (getAttr ov attr true) (λold s₂=>
  d6 (model prog w) A (eval value env) (λv s₃=>d6 (model prog w) A (inplaceOp op old v) (λnew s₄=>
   d6 (model prog w) A (setAttr ov attr new) (λH=>Q .next) E s₄) E s₃) E s₂) E s₁) E s):d6 (model prog w) A (exec (.AugAssign (.Attribute o attr tpos) op value pos) env) Q E s:=by
 have e:exec (.AugAssign (.Attribute o attr tpos) op value pos) env=(do
  dd4 pos
  let ov ←eval o env
  let new ←dc2 [ov] do
   dd4 tpos.atName
   let old ←getAttr ov attr true
   let v ←dc2 [old] (eval value env)
   dd4 pos
   operate [old,v] (inplaceOp op old v)
  dd4 tpos.atName
  dc2 [new,ov] (setAttr ov attr new)
  release [new,ov] []
  pure .next):=rfl
 rw[e]
 refine i6 (e9 h λov s₁ h₁=>a0 (i4 (i6 (e9 h₁ λold s₂ h₂=>f9 h₂ λv s₃ h₃=>i6 (v3 (j4 h₃ (λnew s₄ h₄=> ?_) λH H x=>x))))))
 exact i6 (f9 h₄ λH H h₅=>a0 (i9 (wpAny_release (b7 h₅))))
theorem C2{f:Value}{x:Sem Value}{rest:List (Bool×Sem Value)}{Q:Args->Shared->Prop}
 (h:d6 (model prog w) A (spliced ((false,x)::rest)) (λvs s'=>Q ⟨vs,[]⟩ s') E s):d6 (model prog w) A (evalArgs f true ((false,x)::rest) []) Q E s:=by
 unfold evalArgs
 show d6 _ A (spliced ((false,x)::rest) >>= _) Q E s
 exact e9 h λvs s' h'=>i4 (a0 (b7 (a0 (b7 (b7 h')))))
theorem v6{pos:Pos}{f:Value}{first:List Value}{Q:Value->Shared->Prop}{P:Heap->Prop}{args:List (Bool×Sem Value)}(hplain:args.any (·.1)=false)
 (hk:∀h,P h->∃k,(k=Keeper.frame∨k=Keeper.machine∨k=Keeper.boundFrame)/\Looks (model prog w) h (keeperOf f) k)
 (h:d6 (model prog w) A (evalArgs f true args []) (λa s₁=>P s₁.heap/\d6 (model prog w) A (call f (first++a.pos) a.kw) Q E s₁) E s):d6 (model prog w) A (callWith pos f first args []) Q E s:=by
 unfold callWith
 refine f9 h λa s₁ h₁=>i6 ?_
 obtain⟨k,hk',L⟩:=hk _ h₁.1
 simp only[hplain,List.any_nil,df0]
 refine a0 (i9 (L.here ?_))
 have tail:∀ {t:Sem Value},d6 (model prog w) A t Q E s₁->d6 (model prog w) A (t>>= λr=>dc2 [r] point>>= λH=>pure r) Q E s₁:=
  λht=>e9 ht λr s₂ hr=>a0 (i4 (i9 (wpAny_point (b7 hr))))
 have marked (mk:Value):d6 (model prog w) A (callMarked mk f (first++a.pos) a.kw) Q E s₁:=λΓ p hΓ hc=>by
  unfold callMarked
  rw[Sem.wp_keep]
  exact h₁.2 Γ p hΓ hc
 rcases hk' with rfl|rfl|rfl<;>dsimp only<;>first|exact tail h₁.2|(split<;>first|exact tail h₁.2|exact tail (marked _))
theorem u9{K:Frag}{h₀:Heap}{f:Value}{first:List Value}{pos:Pos}{e:Expr}{rest:List Expr}{Q:Value->Shared->Prop}(_X:K.In h₀)(hk:keepIn K f=true)(h:d6 (model prog w) A (spliced (backTo pos (cW7 (e::rest) env))) (λvs s₁=>K.In s₁.heap/\d6 (model prog w) A (call f (first++vs)) Q E s₁) E s)
 (he:cW7 (e::rest) env=(false,eval e env)::cW7 rest env:=by rfl) (hplain:(backTo pos (cW7 rest env)).any (·.1)=false:=by rfl):
 d6 (model prog w) A (callWith pos f first (backTo pos (cW7 (e::rest) env)) []) Q E s:=by
 rw[he]at h⊢
 exact v6 (by show(false|| (backTo pos (cW7 rest env)).any (·.1))=false;rw[hplain];rfl) (keeps_K hk) (C2 h)
theorem P9{K:Frag}{f:Value}{first:List Value}{pos:Pos}{Q:Value->Shared->Prop}(X:K.In s.heap)(hk:keepIn K f=true)(h:d6 (model prog w) A (call f (first++[])) Q E s):d6 (model prog w) A (callWith pos f first (backTo pos (cW7 [] env)) []) Q E s:=
 v6 rfl (keeps_K hk) (i9 (evalArgs_nil3 ⟨X,h⟩))
theorem n4{pos:Pos}{id:String}{first:List Value}{e:Expr}{rest:List Expr}{Q:Value->Shared->Prop}
 (h:d6 (model prog w) A (spliced (backTo pos (cW7 (e::rest) env))) (λvs s₁=>d6 (model prog w) A (call (.builtin id) (first++vs)) Q E s₁) E s)
 (he:cW7 (e::rest) env=(false,eval e env)::cW7 rest env:=by rfl)
 (hplain:(backTo pos (cW7 rest env)).any (·.1)=false:=by rfl):d6 (model prog w) A (callWith pos (.builtin id) first (backTo pos (cW7 (e::rest) env)) []) Q E s:=by
 rw[he]at h⊢
 exact v6 (P:=λH=>True) (by show(false|| (backTo pos (cW7 rest env)).any (·.1))=false;rw[hplain];rfl) (λH H=>⟨.machine, .inr (.inl rfl),Looks.of_pure rfl⟩) (j4 (C2 (j4 h (λH H x=>(⟨trivial,x⟩:True/\_)) λH H x=>x)) (λH H x=>x) λH H x=>x)
theorem C7{pos:Pos}{T:String}{e:Expr}{rest:List Expr}{Q:Value->Shared->Prop}
 (h:d6 (model prog w) A (spliced (backTo pos (cW7 (e::rest) env))) (λvs s₁=>d6 (model prog w) A (call (.type T) vs) Q E s₁) E s)
 (he:cW7 (e::rest) env=(false,eval e env)::cW7 rest env:=by rfl)
 (hplain:(backTo pos (cW7 rest env)).any (·.1)=false:=by rfl):d6 (model prog w) A (callWith pos (.type T) [] (backTo pos (cW7 (e::rest) env)) []) Q E s:=by
 rw[he]at h⊢
 exact v6 (P:=λH=>True) (by show(false|| (backTo pos (cW7 rest env)).any (·.1))=false;rw[hplain];rfl) (λH H=>⟨.machine, .inr (.inl rfl),Looks.of_pure rfl⟩) (j4 (C2 (j4 h (λH H x=>(⟨trivial,x⟩:True/\_)) λH H x=>x)) (λH H x=>x) λH H x=>x)
theorem m8{x:Str}{p pos:Pos}{args:List Expr}{Q:Value->Shared->Prop}
 (h:wpAny (model prog w) A (eval (.Name x p) env) (λf s₁=>d6 (model prog w) A (callWith pos f [] (backTo pos (cW7 args env)) []) Q E s₁) E s):d6 (model prog w) A (eval (.Call (.Name x p) args [] pos) env) Q E s:=
 a0 (i9 h)
theorem v2{o:Expr}{name:Str}{apos pos:Pos}{args:List Expr}{kws:List Keyword}{pl:Sem Bool}{Q:Value->Shared->Prop}
 (h:d6 (model prog w) A (eval o env) (λov s₁=>d6 (model prog w) A (dg5 ov name pl) (λfx s₂=>d6 (model prog w) A (callWith pos fx.1 fx.2 (backTo pos (cW7 args env)) (backToKw pos (dd1 kws env))) Q E s₂) E s₁) E s)
 (he:eval (.Call (.Attribute o name apos) args kws pos) env=(do
  let ov ←eval o env
  dd4 apos.atName
  let(f,first) ←dc2 [ov] (dg5 ov name pl)
  callWith pos f first (backTo pos (cW7 args env)) (backToKw pos (dd1 kws env))):=by rfl):d6 (model prog w) A (eval (.Call (.Attribute o name apos) args kws pos) env) Q E s:=by
 rw[he]
 exact e9 h λov s₁ h₁=>i6 (f9 h₁ λfx s₂ h₂=>h₂)
theorem u0{elts k tpos value pos}{names:List Str}{Q:Flow->Shared->Prop}
 (h:d6 (model prog w) A (eval value env) (λv s₁=>wpAny (model prog w) A (unpackItems v names.length none) (λitems s₂=>
  wpAny (model prog w) A (assignInOrder (names.reverse.map λn=>bindName env n) items.reverse) (λH=>Q .next) E s₂) E s₁) E s)
 (hs:df9 [.Tuple elts k tpos] value pos.line env=pure false:=by rfl)
 (hw:cX1 [.Tuple elts k tpos] value env=pure (some names):=by rfl):d6 (model prog w) A (exec (.Assign [.Tuple elts k tpos] value pos) env) Q E s:=by
 rw[exec_Assign]
 refine i6 ?_
 rw[hs]
 refine a0 (b7 ?_)
 rw[if_neg (by decide)]
 refine e9 h λv s₁ h₁=> ?_
 rw[hw]
 refine a0 (b7 ?_)
 show d6 _ A (do rule "assign.swapped-stores";let items ←unpackItems v names.length none;assignInOrder (names.reverse.map λn=>bindName env n) items.reverse;pure .next) Q E s₁
 exact a0 (i9 (wpAny_rule (i9 (cV4 (df8 h₁ (λitems s₂ h₂=>cV4 (df8 h₂ (λH H x=>cW4 x) λH H x=>x)) λH H x=>x)))))
theorem M2{elts k tpos value pos}{Q:Flow->Shared->Prop}
 (h:d6 (model prog w) A (eval value env) (λv s₁=>wpAny (model prog w) A (assign (.Tuple elts k tpos) env v) (λH=>Q .next) E s₁) E s)
 (hs:df9 [.Tuple elts k tpos] value pos.line env=pure false:=by rfl)
 (hw:cX1 [.Tuple elts k tpos] value env=pure none:=by rfl):d6 (model prog w) A (exec (.Assign [.Tuple elts k tpos] value pos) env) Q E s:=by
 rw[exec_Assign]
 refine i6 ?_
 rw[hs]
 refine a0 (b7 ?_)
 rw[if_neg (by decide)]
 refine e9 h λv s₁ h₁=> ?_
 rw[hw]
 refine a0 (b7 ?_)
 show d6 _ A (do assignAll v [assign (.Tuple elts k tpos) env];pure .next) Q E s₁
 exact i9 (cV4 (df8 h₁ (λH H x=>cW4 x) λH H x=>x))
end
section
variable {prog:Program} {w:World} {A:Around} {E:Value->Shared->Prop} {s:Shared} {env:Env} {R:Result->Shared->Prop}
theorem Z2{c:Code}{hd:Option Value}{Q:Flow->Shared->Prop}
 (hc:o7 (model prog w) (A.mark hd) c (λr s'=>match r with| .ok f=>Q f s'| .error e=>cameBackBy (model prog w) A env E e s') s) (hnb:hd≠some byPass:=by intro x;exact nomatch x):
 d6 (model prog w) A (runOwn c env hd) Q E s:=by
 exact E4 (j4 (br2 hc hnb) (λH H x=>x) λH H x=>i9 x)
theorem T1{α:Type}{m:Sem α}{Q:α->Shared->Prop}(h:d6 (model prog w) A m Q (notedBy (model prog w) A env E) s):d6 (model prog w) A (m.onRaise λx=>do noteFrame x env;theTreesLotGoes x) Q E s:=
 E4 (j4 h (λH H q=>q) λH H hx=>i9 (cV4 (df8 hx (λH H e=>wpAny_theTreesLotGoes e) λH H e=>e)))
theorem aF1{test body orelse pos}{Q:Flow->Shared->Prop}
 (h:o7 (model prog w) A (.whileLoop test body orelse env) (λr s'=>match r with| .ok f=>Q f s'| .error e=>cameBackBy (model prog w) A env E e s') s):
 d6 (model prog w) A (exec (.While test body orelse pos) env) Q E s:=by
 rw[exec_While];exact i6 (Z2 h)
set_option tactic.hygienic true in
theorem V3{test body env}(I:Nat->Shared->Prop)
 (turn:∀n s,I n s->
  d6 (model prog w) A (isTrue test env (eval test env)) (λb s₂=>
   if b then d6 (model prog w) A (execs body env) (λf s₃=>match f with
    | .next| .cont=>∃m,m < n/\I m s₃
    | .brk=>R (.ok .next) s₃
    | .ret v=>R (.ok (.ret v)) s₃) (notedBy (model prog w) A env λe s'=>R (.error e) s') s₂
   else R (.ok .next) s₂)
   (notedBy (model prog w) A env λe s'=>R (.error e) s') s)
 (n:Nat) (h:I n s):o7 (model prog w) A (.whileLoop test body [] env) R s:=by
 refine Y6 rfl rfl I (λn s hI=> ?_) n h
 show d6 _ A ((whileTurn test body [] env).onRaise (λx=>do noteFrame x env;theTreesLotGoes x)) _ _ s
 refine T1 ?_
 refine e9 (turn n s hI) λb s₂ h₂=> ?_
 cases b with
 |false=>
  simp only[Bool.false_eq_true,if_false]at h₂⊢
  exact a0 (i9 (wpAny_execs_nil (b7 h₂)))
 |true=>
  simp only[if_true]at h₂⊢
  refine e9 h₂ λf s₃ h₃=> ?_
  cases f with
  |next=>exact b7 (.inl ⟨rfl,h₃⟩)
  |cont=>exact b7 (.inl ⟨rfl,h₃⟩)
  |brk=>exact b7 h₃
  |ret v=>exact b7 h₃
theorem W3{target iter body orelse pos}{Q:Flow->Shared->Prop}
 (h:d6 (model prog w) A (eval iter env) (λx s₁=>d6 (model prog w) A (pyIter x) (λit s₂=>
  o7 (model prog w) A (.forLoop target it body orelse env) (λr s'=>match r with| .ok f=>Q f s'| .error e=>cameBackBy (model prog w) A env E e s') s₂) E s₁) E s)
 (hs:∀x,foldedSetIterable iter env x=pure x:=by intro _;rfl):d6 (model prog w) A (exec (.For target iter body orelse pos) env) Q E s:=by
 rw[exec_For]
 exact i6 (e9 h λx s₁ h₁=>a0 (t5 (hs x) (i6 (f9 h₁ λit s₂ h₂=>Z2 h₂))))
theorem V9{R:Result->Shared->Prop}(h:R (.ok .next) s):o7 (model prog w) A (.block [] env) R s:=by
 refine o6 rfl ?_
 exact a0 (T1 (i9 (wpAny_execs_nil (b7 h))))
set_option tactic.hygienic true in
theorem M0{target it body}(I:Nat->Shared->Prop)
 (turn:∀n s,I n s->d6 (model prog w) A (pyNext it) (λr s₁=>match r with
  |none=>R (.ok .next) s₁
  |some v=>d6 (model prog w) A (letOwnedTupleGo target it v) (λH s1'=>
   d6 (model prog w) A (assign target env v) (λH s₂=>d6 (model prog w) A (execs body env) (λf s₃=>match f with
    | .next| .cont=>∃m,m < n/\I m s₃
    | .brk=>R (.ok .next) s₃
    | .ret v=>R (.ok (.ret v)) s₃) (notedBy (model prog w) A env λe s'=>R (.error e) s') s₂) (notedBy (model prog w) A env λe s'=>R (.error e) s') s1') (notedBy (model prog w) A env λe s'=>R (.error e) s') s₁) (notedBy (model prog w) A env λe s'=>R (.error e) s') s)
 (n:Nat) (h:I n s):o7 (model prog w) A (.forLoop target it body [] env) R s:=by
 refine Y6 rfl rfl I (λn s hI=> ?_) n h
 show d6 _ A ((forTurn target it body [] env).onRaise (λx=>do noteFrame x env;theTreesLotGoes x)) _ _ s
 refine T1 ?_
 refine i6 (a0 (E4 (j4 (turn n s hI) (λr s₁ h₁=> ?_) λH H h'=>U7 h')))
 cases r with
 |none=>exact b7 (.inr ⟨rfl,V9 h₁⟩)
 |some v=>
  refine e9 h₁ λH s1' h₁'=>e9 h₁' λH s₂ h₂=>e9 h₂ λf s₃ h₃=> ?_
  cases f with
  |next=>exact b7 (.inl ⟨rfl,h₃⟩)
  |cont=>exact b7 (.inl ⟨rfl,h₃⟩)
  |brk=>exact b7 h₃
  |ret v=>exact b7 h₃
theorem av4{body env}
 (h:d6 (model prog w) (A.deeper env) (execs body env) (λf s'=>R (.ok (.ret (match f with| .ret v=>v|_=> .none))) s')
  (λe s'=>wpAny (model prog w) (A.deeper env) (leaving env e) (λH s''=>R (.error e) s'') (λe' s''=>R (.error e') s'') s') s):
 o7 (model prog w) A (.func body env) R s:=by
 refine o6 rfl ?_
 show d6 _ (A.deeper env) (do point;match ← (execs body env).onRaise (leaving env)with| .ret v=>ret v|_=>ret .none) _ _ s
 refine a0 (i9 (wpAny_point (a0 (E4 (j4 h (λf s' h'=> ?_) λH H h'=>i9 h')))))
 cases f<;>exact b7 h'
theorem Y2{a:Addr}{o:Obj}{fd:FuncData}{body:List Stmt}{args:Args}{binds:List (Str×Value)}
 (hroom:A.depth < recursionLimit) (ho:s.heap.get? a=some o) (hdata:o.data= .func fd) (hlim:s.heap.NoLimit) (hcd:s.heap.CodeRec fd.code fd.qualname)
 (hbody:fd.body= .stmts body) (hbind:BindsTo s fd args binds)
 (hcell:∀x∈fd.scope.names,x.2≠ .cell) (hloc:∀x∈binds,fd.scope.names.lookup x.1=some .local)
 (h:∀h₀,h₀.Ns s.heap.objs.size (λx=>binds.reverse.lookup x)->(∀b o,s.heap.get? b=some o->h₀.get? b=some o)->
  d6 (model prog w) (A.deeper (callEnv fd s.heap.objs.size a)) (execs body (callEnv fd s.heap.objs.size a)) (λf s'=>R (.ok (.ret (match f with| .ret v=>v|_=> .none))) s')
   (λe s'=>wpAny (model prog w) (A.deeper (callEnv fd s.heap.objs.size a)) (leaving (callEnv fd s.heap.objs.size a) e) (λH s''=>R (.error e) s'') (λe' s''=>R (.error e') s'') s')
   {s with heap:=h₀,toks:=s.toks+binds.length})
 (hco:fd.scope.isCoroutine=false) (hgen:fd.scope.isGenerator=false) (hk:fd.scope.kind= .function):
 o7 (model prog w) A (.call (.ref a) args) R s:=by
 refine o6 rfl ?_
 show d6 _ A.in1 (callAny (.ref a) args) _ _ s
 refine a0 (i9 (wpAny_load ho ?_))
 obtain⟨c,oc,vs,tq,hc,hoc,hdc,hq⟩:=hcd
 simp only[hdata,callFunction,hco,hgen,hbody,hc]
 refine a0 (t:=field (.ref c) 1) (i9 (dc6 hoc hdc hq (a0 (b7 ?_))))
 refine a0 (i9 (hbind _ _ _ _ ?_))
 refine a0 (i9 (wpAny_newFunctionEnv hcell hloc (λh₀ hns0 hsb0=> ?_) hk))
 have keep:∀b o,s.heap.get? b=some o->h₀.get? b=some o:=λb o e=>hsb0.extBut b o (da3 (cY9 e)) (cV6 _ e)
 refine a0 (i9 (wpAny_enterFrame (hlim.fresh _ hsb0) hroom (b7 (And.intro rfl ?_))))
 have:=av4 (h h₀ hns0 keep)
 unfold callEnv at this
 rw[hc]at this
 exact this
end
section
variable {prog:Program} {w:World} {A:Around} {C:Addr} {R:Result->Shared->Prop} {h:Heap} {g:Array GenState} {d:Drawn} {t:Nat} {os:de5}
theorem M3{s:Shared}{R:Result->Shared->Prop}{id:String}{args:Args}{b:Builtin}(hf:forb.contains id=false)(hb:entryFor table id=some b)
 (h:d6 (model prog w) (A.under (.builtin id args)) (b args)
  (λfin s'=>match fin with| .done f=>R (.ok f) s'| .again c'=>c'.quiet=true/\o7 (model prog w) A c' R s') (λe s'=>R (.error e) s') s):
 o7 (model prog w) A (.builtin id args) R s:=by
 refine o6 hf ?_
 show d6 _ _ (match entryFor table id with|some b=>b args|none=>unsupported ((withoutEnding? id "#data").getD id)) _ _ s
 rw[hb];exact h
theorem u4{s:Shared}{R:Result->Shared->Prop}{id:String}{args:Args}{b:Builtin}(hf:forb.contains id=false)(hq:(Code.builtin id args).quiet=true)(hb:entryFor table id=some b)
 (h:wpAny (model prog w) A.in1 (checkBuiltinCall id args) (λH s₁=>d6 (model prog w) (A.under (.builtin id args)) (b args)
  (λfin s'=>match fin with| .done f=>R (.ok f) s'| .again c'=>c'.quiet=true/\o7 (model prog w) A c' R s') (λe s'=>R (.error e) s') s₁)
  (λe s'=>R (.error e) s') s):o7 (model prog w) A (.call (.builtin id) args) R s:=by
 refine o6 rfl ?_
 exact a0 (j4 (i9 h) (λH s₁ h₁=>b7 (And.intro hq (M3 hf hb h₁))) λH H h'=>h')
theorem o8{α:Type}{M:Model}{E:Value->Shared->Prop}{s:Shared}{c:Bool}{a b:Sem α}{Q:α->Shared->Prop}(hc:c=false)(h:d6 M A b Q E s):d6 M A (if c=true then a else b) Q E s:=by
 subst hc
 exact h
theorem ax0{rest:List Value}{kw:List (Str×Value)}{init:Value}(Y:Makes (model prog w) h C)(hi:Looks (model prog w) h (typeLookup (.ref C) "__init__") (some init))
 (hb:∀self,Looks (model prog w) h (bindSpecial init self) (init,[self])) (hne:(some init != some (Value.builtin "object.__init__"))=true∨(rest=[]/\kw=[]))
 (hq:o7 (model prog w) (A.under (.builtin "type.__call__" ⟨.ref C::rest,kw⟩)) (.call init ⟨.ref (h.objs.size+1)::rest,kw⟩) (InitBack (h.objs.size+1) R) ⟨(h.push emptyDict).push (dg0 C h.objs.size),g,d,t,os⟩):
 o7 (model prog w) A (.call (.ref C) ⟨rest,kw⟩) R ⟨h,g,d,t,os⟩:=by
 have Y':=Y
 obtain⟨⟨oc,od,cd,sl,hC,e1,e2,e4⟩,made,base,self,top,call,typ⟩:=Y
 refine o6 rfl ?_
 refine(λk Γ p hΓ hc=>⟨_,hC,k Γ p hΓ hc⟩:d6 _ _ (callAny.viaDunder (.ref C) _) _ _ _->_) ?_
 refine a0 (i9 (call.at ?_))
 dsimp only
 rw[tc_bind]
 refine a0 (b7 (a0 (b7 ?_)))
 refine b7 (a:=Fin.again (.call (.builtin "type.__call__") ⟨.ref C::rest,kw⟩)) (And.intro rfl ?_)
 refine u4 (by decide+kernel) (Code.quiet_builtin _ (by decide+kernel)) entry_typeCall (check_slot tc_kind tc_split typ (tc_args _ _ _) ?_)
 unfold Builtin.«type.__call__»
 have hm:Looks (model prog w) h (mroOf (.ref C)) cd.mro:=((Looks.ld (part:=none) hC).andThen .now).andThen .now
 have k:∀b o,h.get? b=some o->((h.push emptyDict).push (dg0 C h.objs.size)).get? b=some o:=λb o e=>cV6 _ (cV6 _ e)
 have hx:((h.push emptyDict).push (dg0 C h.objs.size)).get? (h.objs.size+1)=some (dg0 C h.objs.size):=by heap_get
 have t1:Looks (model prog w) ((h.push emptyDict).push (dg0 C h.objs.size)) (typeOf (.ref (h.objs.size+1))) (.ref C):=(Looks.ld hx).andThen .now
 refine o8 rfl (a0 (i9 (hm.at (o8 e4 (a0 (i9 (made.at ?_)))))))
 refine a0 (b7 (a0 (i4 (q9 (cb5 (new_K Y' hi hne ?_))))))
 have hI:Looks (model prog w) ((h.push emptyDict).push (dg0 C h.objs.size)) (isInstance (.ref (h.objs.size+1)) (.ref C)) true:=t1.andThen (self.keeps k)
 have hS:Looks (model prog w) ((h.push emptyDict).push (dg0 C h.objs.size)) (specialOf (.ref (h.objs.size+1)) "__init__") (some init):=t1.andThen (hi.keeps k)
 refine a0 (i9 (hI.at (o8 rfl ?_)))
 unfold callSpecial?
 refine a0 (i4 (a0 (i9 (hS.at ?_))))
 refine i4 (a0 (i9 (((hb (.ref (h.objs.size+1))).keeps k).at ?_)))
 refine a0 (q9 (Y0 hq λr s' z=> ?_))
 rcases r with e|(v|_|_|_)<;>first|exact z|exact z.elim|skip
 obtain⟨rfl,z⟩:=z
 exact b7 (o8 rfl (b7 z))
end
section
theorem aA5{P:Prop}(h:false=true):P:=nomatch h
theorem n7{α:Type}{b:α}{P:Prop}(h:none=some b):P:=nomatch h
set_option genInjectivity true in
inductive V
 |none|bool (b:Bool)|int (i:Int)|bytes (l:List UInt8)|str (s:Str)
 |tup (l:List V)|lst (l:List V)|rcd (C:Nat) (fs:List (String×V))|dic (l:List (List UInt8×Int))
 deriving Inhabited
noncomputable abbrev z9(vs:List Value):Obj:= {cls:= .type "tuple",data:= .seq vs.toArray}
noncomputable abbrev j0(vs:List Value)(n:Nat):Obj:= {cls:= .type "list",data:= .seq vs.toArray n}
noncomputable abbrev z5(l:List UInt8):Obj:= {cls:= .type "bytearray",data:= .bytearray l.toArray}
noncomputable def ObjNs(o:Obj)(m:Str->Option Value):Prop:=∃es ep,o.data= .dict es ep/\StrKeys es/\∀name,nsFind es name=m name
theorem ObjNs.ns{o:Obj}{m}{h:Heap}{a:Addr}(x:ObjNs o m)(ha:h.get? a=some o):h.Ns a m:=let⟨es,ep,b⟩:=x;⟨o,es,ep,ha,b⟩
theorem ObjNs.of{h:Heap}{a:Addr}{m}(x:h.Ns a m):∃o,h.get? a=some o/\ObjNs o m:=let⟨o,es,ep,a,b⟩:=x;⟨o,a,es,ep,b⟩
theorem ObjNs.noFields{o:Obj}{m}(x:ObjNs o m):∀vs,o.data≠ .fields vs:=λvs e=>let⟨_,_,a,_⟩:=x;by rw[a]at e;cases e
theorem ObjNs.noSeq{o:Obj}{m}(x:ObjNs o m):∀vs n,o.data≠ .seq vs n:=λvs n e=>let⟨_,_,a,_⟩:=x;by rw[a]at e;cases e
theorem ObjNs.noBa{o:Obj}{m}(x:ObjNs o m):∀l,o≠z5 l:=λl e=>let⟨_,_,a,_⟩:=x;by rw[e]at a;cases a
noncomputable def Z5(o:Obj)(k:Nat):Prop:=∃es ep,o.data= .dict es ep/\es.size<=k
noncomputable def DkR:Option Int->Option Value->Prop
 |none,r=>r=none
 |some i,r=>∃t,r=some (.int i t)
noncomputable def bl6(X:Cx)(l:List (List UInt8×Int))(o:Obj):Prop:=∃es ep,o.ExactDict/\o.data= .dict es ep/\KeysOf (bytesKind pw X.w) es/\∀k,DkR (l.lookup k) (findBy (bytesKind pw X.w).is es k)
mutual
inductive RV(X:Cx)(φ:PM):V->Value->Prop
 |none:RV X φ .none .none
 |bool {b}:RV X φ (.bool b) (.bool b)
 |int {i t}:RV X φ (.int i) (.int i t)
 |bytes {l t}:RV X φ (.bytes l) (.bytes l.toArray t)
 |str {x t}:RV X φ (.str x) (.str x t)
 |tup {l a vs}:φ a=some (z9 vs)->RVs X φ l vs->RV X φ (.tup l) (.ref a)
 |lst {l a vs n}:φ a=some (j0 vs n)->RVs X φ l vs->RV X φ (.lst l) (.ref a)
 |rcd {C fs a d o m}:φ a=some (dg0 C d)->φ d=some o->ObjNs o m->RFs X φ fs m->RV X φ (.rcd C fs) (.ref a)
 |dic {l a o}:φ a=some o->bl6 X l o->(a==sysModules)=false->RV X φ (.dic l) (.ref a)
inductive RVs(X:Cx)(φ:PM):List V->List Value->Prop
 |nil:RVs X φ [] []
 |cons {v r l vs}:RV X φ v r->RVs X φ l vs->RVs X φ (v::l) (r::vs)
inductive RFs(X:Cx)(φ:PM):List (String×V)->(Str->Option Value)->Prop
 |nil {m}:RFs X φ [] m
 |cons {x v fs r m}:m (cV1 x)=some r->RV X φ v r->RFs X φ fs m->RFs X φ ((x,v)::fs) m
end
section
variable {X:Cx} {φ φ':PM}
@[elab_as_elim] theorem RVs.nilE {P:List Value->Prop} {vs:List Value} (h:RVs X φ [] vs) (k:P []):P vs:=by cases h;exact k
@[elab_as_elim] theorem RVs.consE {v:V} {l:List V} {P:List Value->Prop} {vs:List Value} (h:RVs X φ (v::l) vs) (k:∀r rs,RV X φ v r->RVs X φ l rs->P (r::rs)):P vs:=by cases h with|cons a b=>exact k _ _ a b
theorem RV.mono(h:φ.le φ'){v:V}{r:Value}(x:RV X φ v r):RV X φ' v r:=
 RV.rec (motive_1:=λv r H=>RV X φ' v r) (motive_2:=λl vs H=>RVs X φ' l vs) (motive_3:=λfs m H=>RFs X φ' fs m) .none .bool .int .bytes .str (λa H b=> .tup (h _ _ a) b) (λa H b=> .lst (h _ _ a) b) (λa b c H d=> .rcd (h _ _ a) (h _ _ b) c d) (λa b c=> .dic (h _ _ a) b c) .nil (λH H a b=> .cons a b) .nil (λe H H a b=> .cons e a b) x
theorem RVs.mono(h:φ.le φ'){l:List V}:∀ {vs:List Value},RVs X φ l vs->RVs X φ' l vs:=by
 induction l with
 |nil=>exact λx=>x.nilE .nil
 |cons v l ih=>exact λx=>x.consE λr rs a b=> .cons (a.mono h) (ih b)
theorem RFs.mono(h:φ.le φ'){fs:List (String×V)}{m:Str->Option Value}(x:RFs X φ fs m):RFs X φ' fs m:=
 RFs.rec (motive_1:=λv r H=>RV X φ' v r) (motive_2:=λl vs H=>RVs X φ' l vs) (motive_3:=λfs m H=>RFs X φ' fs m) .none .bool .int .bytes .str (λa H b=> .tup (h _ _ a) b) (λa H b=> .lst (h _ _ a) b) (λa b c H d=> .rcd (h _ _ a) (h _ _ b) c d) (λa b c=> .dic (h _ _ a) b c) .nil (λH H a b=> .cons a b) .nil (λe H H a b=> .cons e a b) x
noncomputable def RVI(X:Cx)(φ:PM):V->Value->Prop
 | .none,r=>r= .none
 | .bool b,r=>r= .bool b
 | .int i,r=>∃t,r= .int i t
 | .bytes l,r=>∃t,r= .bytes l.toArray t
 | .str l,r=>∃t,r= .str l t
 | .tup l,r=>∃a,r= .ref a/\∃vs,φ a=some (z9 vs)/\RVs X φ l vs
 | .lst l,r=>∃a,r= .ref a/\∃vs n,φ a=some (j0 vs n)/\RVs X φ l vs
 | .rcd C fs,r=>∃a,r= .ref a/\∃d o m,φ a=some (dg0 C d)/\φ d=some o/\ObjNs o m/\RFs X φ fs m
 | .dic l,r=>∃a,r= .ref a/\∃o,φ a=some o/\bl6 X l o/\(a==sysModules)=false
theorem RV.inv{v:V}{r:Value}(h:RV X φ v r):RVI X φ v r:=by
 cases h with
 |none=>exact rfl
 |bool=>exact rfl
 |int=>exact⟨_,rfl⟩
 |bytes=>exact⟨_,rfl⟩
 |str=>exact⟨_,rfl⟩
 |tup a b=>exact⟨_,rfl,_,a,b⟩
 |lst a b=>exact⟨_,rfl,_,_,a,b⟩
 |rcd a b c d=>exact⟨_,rfl,_,_,_,a,b,c,d⟩
 |dic a b c=>exact⟨_,rfl,_,a,b,c⟩
@[elab_as_elim] theorem RV.noneE {P:Value->Prop} {r:Value} (h:RV X φ .none r) (k:P .none):P r:=Eq.subst (motive:=P) (Eq.symm h.inv) k
@[elab_as_elim] theorem RV.boolE {b:Bool} {P:Value->Prop} {r:Value} (h:RV X φ (.bool b) r) (k:P (.bool b)):P r:=Eq.subst (motive:=P) (Eq.symm h.inv) k
@[elab_as_elim] theorem RV.intE {i:Int} {P:Value->Prop} {r:Value} (h:RV X φ (.int i) r) (k:∀t,P (.int i t)):P r:=db3 h.inv λt e=>Eq.subst (motive:=P) (Eq.symm e) (k t)
@[elab_as_elim] theorem RV.bytesE {l:List UInt8} {P:Value->Prop} {r:Value} (h:RV X φ (.bytes l) r) (k:∀t,P (.bytes l.toArray t)):P r:=db3 h.inv λt e=>Eq.subst (motive:=P) (Eq.symm e) (k t)
@[elab_as_elim] theorem RV.strE {l:Str} {P:Value->Prop} {r:Value} (h:RV X φ (.str l) r) (k:∀t,P (.str l t)):P r:=db3 h.inv λt e=>Eq.subst (motive:=P) (Eq.symm e) (k t)
@[elab_as_elim] theorem RV.tupE {l:List V} {P:Value->Prop} {r:Value} (h:RV X φ (.tup l) r) (k:∀a vs,φ a=some (z9 vs)->RVs X φ l vs->P (.ref a)):P r:=db3 h.inv λa e=>Eq.subst (motive:=P) (Eq.symm e.1) (db3 e.2 λvs e=>k a vs e.1 e.2)
@[elab_as_elim] theorem RV.lstE {l:List V} {P:Value->Prop} {r:Value} (h:RV X φ (.lst l) r) (k:∀a vs n,φ a=some (j0 vs n)->RVs X φ l vs->P (.ref a)):P r:=db3 h.inv λa e=>Eq.subst (motive:=P) (Eq.symm e.1) (db3 e.2 λvs e=>db3 e λn e=>k a vs n e.1 e.2)
@[elab_as_elim] theorem RV.rcdE {C:Nat} {fs:List (String×V)} {P:Value->Prop} {r:Value} (h:RV X φ (.rcd C fs) r) (k:∀a d o m,φ a=some (dg0 C d)->φ d=some o->ObjNs o m->RFs X φ fs m->P (.ref a)):P r:=db3 h.inv λa e=>Eq.subst (motive:=P) (Eq.symm e.1) (db3 e.2 λd e=>db3 e λo e=>db3 e λm e=>k a d o m e.1 e.2.1 e.2.2.1 e.2.2.2)
@[elab_as_elim] theorem RV.dicE {l:List (List UInt8×Int)} {P:Value->Prop} {r:Value} (h:RV X φ (.dic l) r) (k:∀a o,φ a=some o->bl6 X l o->(a==sysModules)=false->P (.ref a)):P r:=db3 h.inv λa e=>Eq.subst (motive:=P) (Eq.symm e.1) (db3 e.2 λo e=>k a o e.1 e.2.1 e.2.2)
@[elab_as_elim] theorem RVs.oneE {v:V} {P:List Value->Prop} {vs:List Value} (h:RVs X φ [v] vs) (k:∀r,RV X φ v r->P [r]):P vs:=h.consE λr H a b=>b.nilE (k r a)
@[elab_as_elim] theorem RVs.twoE {v w:V} {P:List Value->Prop} {vs:List Value} (h:RVs X φ [v,w] vs) (k:∀r q,RV X φ v r->RV X φ w q->P [r,q]):P vs:=h.consE λr H a b=>b.oneE λq c=>k r q a c
theorem RVs.len{l:List V}{vs:List Value}(h:RVs X φ l vs):vs.length=l.length:=by
 induction l generalizing vs with
 |nil=>cases h;rfl
 |cons v l ih=>cases h with|cons a b=>simp[ih b]
theorem RVs.get{l:List V}{vs:List Value}(h:RVs X φ l vs):∀ {i:Nat} {v:V},l[i]? =some v->∃r,vs[i]? =some r/\RV X φ v r:=by
 induction l generalizing vs with
 |nil=>intro i v e;simp at e
 |cons x l ih=>
  cases h with
  |cons a b=>
   intro i v e
   cases i with
   |zero=>simp at e;subst e;exact⟨_,rfl,a⟩
   |succ i=>simp at e;obtain⟨r,h1,h2⟩:=ih b e;exact⟨r,by simpa using h1,h2⟩
theorem RVs.append{l l':List V}{vs vs':List Value}(h:RVs X φ l vs)(h':RVs X φ l' vs'):RVs X φ (l++l') (vs++vs'):=by
 induction l generalizing vs with
 |nil=>cases h;exact h'
 |cons x l ih=>cases h with|cons a b=>exact .cons a (ih b)
end
inductive Fv
 |val (v:V)|buf (l:List UInt8)
noncomputable def FvR(X:Cx)(φ ω:PM):Fv->Value->Prop
 | .val v,r=>RV X φ v r
 | .buf l,r=>∃b,r= .ref b/\ω b=some (z5 l)
inductive EsR(X:Cx)(φ ω:PM):List (String×Fv)->(Str->Option Value)->Prop
 |nil {m}:EsR X φ ω [] m
 |cons {x f fs r m}:m (cV1 x)=some r->FvR X φ ω f r->EsR X φ ω fs m->EsR X φ ω ((x,f)::fs) m
noncomputable def nmS(fs:List (String×Fv)):List Str:=fs.map λp=>cV1 p.1
set_option genInjectivity true in
inductive Sl
 |un|val (v:V)|me|own (a:Addr) (l:List V)
set_option genInjectivity true in
structure St where
 loc:List Sl
 me:Option (List (String×Fv)):=none
structure Frm where
 qual:Str
 scope:Scope
 L:Addr
 f:Addr
 cd:Value
 nm:List Str
 ψ:PM
 outer:List Env
 lx:Addr:=0
 C:Addr:=0
namespace Frm
noncomputable def env(F:Frm):Env:=envOf F.qual F.scope F.L F.f F.cd
end Frm
noncomputable def SlL(X:Cx)(lx:Addr)(φ ω:PM)(m:Str->Option Value)(x:Str)(sl:Sl):Prop:=match sl with
 | .un=>True
 | .val v=>∃r,m x=some r/\RV X φ v r
 | .me=>m x=some (.ref lx)
 | .own a _=>m x=some (.ref a)
noncomputable abbrev SlR(X:Cx)(F:Frm)(φ ω:PM)(m:Str->Option Value)(x:Str)(sl:Sl):Prop:=SlL X F.lx φ ω m x sl
noncomputable def MeR(X:Cx)(lx C:Addr)(φ ω:PM):Option (List (String×Fv))->Addr->Prop
 |none,_=>True
 |some fs,d=>φ lx=some (dg0 C d)/\∃o m,ω d=some o/\ObjNs o m/\EsR X φ ω fs m/\(∀x,x∉nmS fs->m x=none)/\Z5 o fs.length
noncomputable def Outer(X:Cx)(ψ:PM)(outer:List Env):Prop:=∀e∈outer,e.scope.kind≠ .module/\∃L o,e.frame=some L/\X.H₀.get? L=none/\ψ L=some o/\∀vs,o.data≠ .fields vs
structure cT1(X:Cx)(L:Addr)(nm:List Str)(lx C:Addr)(φ ω:PM)(st:St)(hp:Heap)(m:Str->Option Value)(oL:Obj)(d:Addr):Prop where
 h1:ω L=some oL
 h1a:∀vs n,oL.data≠ .seq vs n
 h1b:∀l,oL≠z5 l
 h2:hp.Ns L m
 h3:∀(i:Nat) x sl,nm[i]? =some x->st.loc[i]? =some sl->SlL X lx φ ω m x sl
 h3b:∀(i:Nat) a l,st.loc[i]? =some (.own a l)->∃vs k,ω a=some (j0 vs k)/\RVs X φ l vs
 h4:∀(i j:Nat) a b l l',st.loc[i]? =some (.own a l)->st.loc[j]? =some (.own b l')->i≠j->a≠b
 h5:st.me≠none->L≠d
 h6:MeR X lx C φ ω st.me d
structure Inv(X:Cx)(F:Frm)(φ ω:PM)(st:St)(s:Shared):Prop where
 S:Sep X φ F.ψ ω s
 ex:∃m oL d,cT1 X F.L F.nm F.lx F.C φ ω st s.heap m oL d
 out:Outer X F.ψ F.outer
 new:X.H₀.get? F.L=none
structure FOk(F:Frm):Prop where
 kind:F.scope.kind= .function
 loc:∀x∈F.nm,F.scope.names.lookup x=some .local
 nodup:F.nm.Nodup
structure Rm(outer:List Env)(A:Around)(n:Nat):Prop where
 handled:A.handled=none
 depth:A.depth+3 * n+20<=recursionLimit
 units:A.units+40 * n+200<=cLine
 frames:A.frames=some outer
 guards:A.guards=some []
structure cp5(X:Cx)(hp:Heap)(x:Addr)(msg:List UInt8)(K:Array Value->Prop)(oe:Obj)(vs:Array Value)(dx:Addr)(od:Obj)(es:Array DictEntry)(n:Nat)(t:Tok):Prop where
 a1:hp.get? x=some oe
 a2:oe.cls= .ref 87
 a3:oe.data= .fields vs
 a4:oe.dict=some dx
 a5:X.H₀.get? x=none
 a6:hp.get? dx=some od
 a7:od.data= .dict es n
 a8:nsFind es (cV1 "value")=some (.bytes msg.toArray t)
 a9:StrKeys es
 a10:K vs
structure ExIn(X:Cx)(ψ:PM)(L:Addr)(s:Shared)(x:Addr)(msg:List UInt8):Prop where
 base:∀a o,X.H₀.get? a=some o->s.heap.get? a=some o
 psi:∀a o,ψ a=some o->(∀vs,o.data≠ .fields vs)->∃sl,s.heap.get? a=some {o with slots:=sl}
 own:X.H₀.get? L=none/\∃o,s.heap.get? L=some o/\∀vs,o.data≠ .fields vs
 exc:∃oe vs dx od es n t,cp5 X s.heap x msg (λvs=>vs[1]? =some .none∨∃T oT ts,vs[1]? =some (.ref T)/\X.H₀.get? T=none/\T≠x/\s.heap.get? T=some oT/\oT.data= .fields ts/\(ts[3]? =some .none∨ts[3]? =some (rawInt L))) oe vs dx od es n t
 os:s.os=X.os
 gens:s.gens= #[]
noncomputable abbrev KQ{α β:Type}(X:Cx)(F:Frm)(φ:PM)(Rl:PM->α->β->Prop)(Q:α->St->Prop)(Qr:β->Shared->Prop):Prop:=
 ∀v st' r s' φ' ω',Q v st'->Inv X F φ' ω' st' s'->φ.le φ'->Rl φ' v r->Qr r s'
noncomputable abbrev KE(X:Cx)(F:Frm)(R:List UInt8->Prop)(Er:Value->Shared->Prop):Prop:=∀x s' msg,R msg->ExIn X F.ψ F.L s' x msg->Er (.ref x) s'
noncomputable def Tr{α β:Type}(X:Cx)(F:Frm)(n:Nat)(t:Sem β)(Rl:PM->α->β->Prop)(st:St)(Q:α->St->Prop)(R:List UInt8->Prop):Prop:=
 ∀A s φ ω Qr Er,Rm (F.env::F.outer) A n->Inv X F φ ω st s->KQ X F φ Rl Q Qr->KE X F R Er->d6 X.M A t Qr Er s
noncomputable abbrev Ev(X:Cx)(F:Frm)(n:Nat)(e:Expr)(st:St)(Q:V->St->Prop)(R:List UInt8->Prop):Prop:=Tr X F n (eval e F.env) (λφ=>RV X φ) st Q R
noncomputable abbrev Tst(X:Cx)(F:Frm)(n:Nat)(e:Expr)(st:St)(Q:Bool->St->Prop)(R:List UInt8->Prop):Prop:=Tr X F n (isTrue e F.env (eval e F.env)) (λ_ (a b:Bool)=>a=b) st Q R
inductive Fl
 |next|brk|cont|ret (v:V)|retMe
set_option tactic.hygienic true in
noncomputable def FlR(X:Cx)(F:Frm)(φ:PM):Fl->Flow->Prop
 | .next,f=>f= .next
 | .brk,f=>f= .brk
 | .cont,f=>f= .cont
 | .ret v,f=>∃r,f= .ret r/\RV X φ v r
 | .retMe,f=>f= .ret (.ref F.lx)
noncomputable abbrev Ex(X:Cx)(F:Frm)(n:Nat)(c:Stmt)(st:St)(Q:Fl->St->Prop)(R:List UInt8->Prop):Prop:=Tr X F n (exec c F.env) (λφ=>FlR X F φ) st Q R
noncomputable abbrev J7(X:Cx)(F:Frm)(n:Nat)(c:List Stmt)(st:St)(Q:Fl->St->Prop)(R:List UInt8->Prop):Prop:=Tr X F n (execs c F.env) (λφ=>FlR X F φ) st Q R
noncomputable def Pu{β:Type}(X:Cx)(n:Nat)(vs:List V)(t:List Value->Sem β)(P:PM->β->Prop):Prop:=
 ∀F A s φ ω st Qr Er rs,Rm (F.env::F.outer) A n->Inv X F φ ω st s->RVs X φ vs rs->(∀r s' φ',Inv X F φ' ω st s'->φ.le φ'->P φ' r->Qr r s')->wpAny X.M A (t rs) Qr Er s
noncomputable def t1{β:Type}(t:Value->Sem β):List Value->Sem β| [a]=>t a|_=>unsupported ""
noncomputable def t2{β:Type}(t:Value->Value->Sem β):List Value->Sem β| [a,b]=>t a b|_=>unsupported ""
noncomputable abbrev Pu1(X:Cx)(n:Nat)(t:Value->Sem Value)(v w:V):Prop:=Pu X n [v] (t1 t) (λφ=>RV X φ w)
noncomputable abbrev Pu2(X:Cx)(n:Nat)(t:Value->Value->Sem Value)(v v' w:V):Prop:=Pu X n [v,v'] (t2 t) (λφ=>RV X φ w)
noncomputable abbrev PuT(X:Cx)(n:Nat)(v:V)(b:Bool):Prop:=Pu X n [v] (t1 truthy) (λH c=>c=b)
section
variable {X:Cx} {F:Frm} {n:Nat} {st:St} {R:List UInt8->Prop} {α β γ δ:Type}
theorem Inv.toks{φ ω:PM}{s:Shared}(I:Inv X F φ ω st s)(t:Nat):Inv X F φ ω st {s with toks:=t}:=⟨I.S.toks t,I.ex,I.out,I.new⟩
theorem FvR.mono{φ φ' ω:PM}(h:φ.le φ'):∀ {f:Fv} {r:Value},FvR X φ ω f r->FvR X φ' ω f r:=λ {f r} x=>by
 cases f with
 |val v=>exact RV.mono h x
 |buf l=>exact x
theorem EsR.mono{φ φ' ω:PM}(h:φ.le φ'){fs:List (String×Fv)}{m:Str->Option Value}(x:EsR X φ ω fs m):EsR X φ' ω fs m:=by
 induction x with
 |nil=>exact .nil
 |cons e a _ ih=>exact .cons e (a.mono h) ih
theorem MeR.mono{φ φ' ω:PM}(h:φ.le φ'){lx C:Addr}{fs}{d}(M:MeR X lx C φ ω fs d):MeR X lx C φ' ω fs d:=match fs,M with
 |none,_=>trivial
 |some _,⟨a,o,m,b,c,d,e⟩=>⟨h _ _ a,o,m,b,c,d.mono h,e⟩
theorem SlL.mono{lx:Addr}{φ φ' ω:PM}(h:φ.le φ'){m x sl}(M:SlL X lx φ ω m x sl):SlL X lx φ' ω m x sl:=match sl,M with
 | .un,_=>trivial
 | .val _,⟨r,a,b⟩=>⟨r,a,b.mono h⟩
 | .me,a=>a
 | .own _ _,a=>a
theorem Inv.more{φ φ' ω:PM}{s s':Shared}(I:Inv X F φ ω st s)(S:Sep X φ' F.ψ ω s')(h:φ.le φ'):Inv X F φ' ω st s':=by
 obtain⟨m,oL,d,h1,h1a,h1b,h2,h3,h3b,h4,h5,h6⟩:=I.ex
 refine⟨S,⟨m,oL,d,h1,h1a,h1b,h2.at λo e=> ?_,λi x sl a b=>(h3 i x sl a b).mono h,λi a l e=>let⟨vs,k,a,b⟩:=h3b i a l e;⟨vs,k,a,b.mono h⟩,h4,h5,h6.mono h⟩,I.out,I.new⟩
 rw[I.S.kω _ _ h1]at e;cases e;exact S.kω _ _ h1
theorem Inv.push{φ ω:PM}{s:Shared}(I:Inv X F φ ω st s)(o:Obj)(t:Nat)(hf:o.isFreed=false:=by rfl):
 Inv X F (φ.set s.heap.objs.size o) ω st {s with heap:=s.heap.push o,toks:=t}/\φ.le (φ.set s.heap.objs.size o)/\(φ.set s.heap.objs.size o) s.heap.objs.size=some o:=
 have h:=I.S.pushφ o hf t
 ⟨I.more h.1 h.2,h.2,by unfold PM.set;rw[if_pos rfl]⟩
theorem Inv.junk{φ ω:PM}{s s':Shared}(I:Inv X F φ ω st s)(h:∀a o,s.heap.get? a=some o->s'.heap.get? a=some o)(ho:s'.os=s.os)(hg:s'.gens=s.gens):Inv X F φ ω st s':=
 I.more ⟨λa o e=>h _ _ (I.S.kφ a o e),λa o e=>h _ _ (I.S.kψ a o e),λa o e=>h _ _ (I.S.kω a o e),I.S.d1,I.S.d2,I.S.d3,I.S.base,ho.trans I.S.os,hg.trans I.S.gens⟩ (PM.le.refl _)
theorem Tr.mono{t:Sem β}{Rl:PM->α->β->Prop}{Q Q':α->St->Prop}(h:Tr X F n t Rl st Q R)(k:∀v st,Q v st->Q' v st):Tr X F n t Rl st Q' R:=
 λA s φ ω Qr Er hA hI hQ hE=>h A s φ ω Qr Er hA hI (λv st' r s' φ' ω' hq=>hQ v st' r s' φ' ω' (k v st' hq)) hE
theorem RVs.one{φ:PM}{v:V}{r:Value}(h:RV X φ v r):RVs X φ [v] [r]:= .cons h .nil
theorem RVs.two{φ:PM}{v w:V}{r q:Value}(h:RV X φ v r)(k:RV X φ w q):RVs X φ [v,w] [r,q]:= .cons h (.cons k .nil)
end
end
noncomputable def P4(K:Frag)(a:Addr):Bool:=match K.lookup a with
 |some ⟨_,_, .dict es _,_⟩=>es.toList.all λe=>match e.key with| .str .. =>true|_=>false
 |_=>false
noncomputable def Y7(K:Frag)(a:Addr)(x:Str):Option Value:=match K.lookup a with
 |some ⟨_,_, .dict es _,_⟩=>nsFind es x
 |_=>none
set_option tactic.hygienic true in
theorem J3{K:Frag}{h:Heap}{a:Addr}(I:K.In h)(k:P4 K a=true):h.Ns a (Y7 K a):=by
 unfold P4 at k
 split at k
 ·rename_i c d es n sl q
  refine⟨_,es,n,I _ _ q,rfl,λe he=> ?_,λx=>by unfold Y7;rw[q]⟩
  have:=cZ3.mp k e (by simpa using he)
  split at this
  ·rename_i y t e';exact⟨y,t,e'⟩
  ·exact cV2 this
 ·exact cV2 k
set_option tactic.hygienic true in
theorem J4{K:Frag}{a:Addr}{x:Str}{v:Value}(e:nsIn K a x=some (some v)):Y7 K a x=some v:=by
 unfold nsIn at e
 unfold Y7
 split at e
 ·rename_i c d es n sl q
  rw[q]
  split at e
  ·rename_i en he
   cases e
   show nsFind es x=_
   unfold nsFind findBy
   rw[←Array.find?_toList,he];rfl
  ·split at e<;>exact nomatch e
 ·exact nomatch e
set_option tactic.hygienic true in
theorem N3{K:Frag}{a:Addr}{x:Str}(e:nsIn K a x=some none):Y7 K a x=none:=by
 unfold nsIn at e
 unfold Y7
 split at e
 ·rename_i c d es n sl q
  rw[q]
  split at e
  ·exact nomatch e
  ·rename_i he
   show nsFind es x=_
   unfold nsFind findBy
   rw[←Array.find?_toList,he];rfl
 ·exact nomatch e
theorem X5(P:Params):P4 (KP P) 3=true:=by kernel_rfl
theorem aQ2(P:Params):P4 (KP P) 0=true:=by kernel_rfl
section
variable {X:Cx} {F:Frm} {n:Nat} {st:St} {R:List UInt8->Prop} {α β γ δ:Type}
theorem bn7{k pos}{Q:V->St->Prop}(h:Q .none st):Ev X F n (.Constant .none k pos) st Q R:=λH s φ ω H H H hI hQ H=>λH H H H=>hQ _ _ _ _ _ _ h hI (PM.le.refl _) .none
theorem be9{b k pos}{Q:V->St->Prop}(h:Q (.bool b) st):Ev X F n (.Constant (.bool b) k pos) st Q R:=λH s φ ω H H H hI hQ H=>λH H H H=>hQ _ _ _ _ _ _ h hI (PM.le.refl _) .bool
theorem bV8{i k pos}{Q:V->St->Prop}(h:Q (.int i) st):Ev X F n (.Constant (.int i) k pos) st Q R:=λH s φ ω H H H hI hQ H=>i9 (wpAny_Constant_int (hQ _ _ _ _ _ _ h (hI.toks _) (PM.le.refl _) .int))
theorem Z9{b k pos}{Q:V->St->Prop}(h:Q (.bytes b) st):Ev X F n (.Constant (.bytes b) k pos) st Q R:=λH s φ ω Qr H H hI hQ H=>
 i9 (show wpAny _ _ (mkTextBytes b.toArray) _ _ s from cV4 (wpAny_fresh (cW4 (hQ _ _ _ _ _ _ h (hI.toks _) (PM.le.refl _) .bytes))))
theorem u5(i:Nat){x:Str}{pos}{v:V}{Q:V->St->Prop}(O:FOk F)(hx:F.nm[i]? =some x)(hl:st.loc[i]? =some (.val v))(h:Q v st)(hd:(x== ("__debug__":Str))=false:=by decide):
 Ev X F n (.Name x pos) st Q R:=λH s φ ω H H H hI hQ H=>by
 obtain⟨m,oL,d,h1,h1a,h1b,h2,h3,h3b,h4,h5⟩:=hI.ex
 obtain⟨r,hr,hv⟩:=h3 i x _ hx hl
 exact i9 (db9 (cW9 O.kind (O.loc x (cW1 hx)) h2 hr (hQ _ _ _ _ _ _ h hI (PM.le.refl _) hv)) hd)
theorem gl{x:Str}{pos}{r:Value}{A:Around}{s:Shared}{φ ω:PM}{Q E}(O:FOk F)(I:Inv X F φ ω st s)(hk:F.scope.names.lookup x=some .globalImplicit)(hg:nsIn X.K cW5 x=some (some r))(h:Q r s)(hd:(x== ("__debug__":Str))=false:=by decide):
 wpAny X.M A (eval (.Name x pos) F.env) Q E s:=
 de0 O.kind hk (Calls.loadGlobal_global (J3 I.S.kin (X5 _)) (J4 hg) h) hd
theorem bi{x:Str}{pos}{r:Value}{A:Around}{s:Shared}{φ ω:PM}{Q E}(O:FOk F)(I:Inv X F φ ω st s)(hk:F.scope.names.lookup x=some .globalImplicit)(hg:nsIn X.K cW5 x=some none)(hb:nsIn X.K cZ8 x=some (some r))(h:Q r s)(hd:(x== ("__debug__":Str))=false:=by decide):
 wpAny X.M A (eval (.Name x pos) F.env) Q E s:=
 de0 O.kind hk (Calls.loadGlobal_builtin (J3 I.S.kin (X5 _)) (N3 hg) (J3 I.S.kin (aQ2 _)) (J4 hb) h) hd
theorem ai2{x:Str}{pos}{v:V}{r:Value}{Q:V->St->Prop}(O:FOk F)(hk:F.scope.names.lookup x=some .globalImplicit)(hg:nsIn X.K cW5 x=some (some r))(hv:RV X (X.H₀.get?) v r)(h:Q v st)(hd:(x== ("__debug__":Str))=false:=by decide):
 Ev X F n (.Name x pos) st Q R:=λH s φ ω H H H hI hQ H=>
 i9 (gl O hI hk hg (hQ _ _ _ _ _ _ h hI (PM.le.refl _) (hv.mono hI.S.base)) hd)
theorem aj9{l r op pos}{Q:V->St->Prop}(h:Ev X F n l st (λv st1=>Ev X F n r st1 (λv' st2=>∃w,Pu2 X n (binaryOp op) v v' w/\Q w st2) R) R):Ev X F n (.BinOp l op r pos) st Q R:=
 λA s φ ω Qr Er hA hI hQ hE=>ae8 (h A s φ ω _ Er hA hI (λv st1 r₁ s₁ φ1 ω₁ hq hI1 hl1 hv=>
  hq A s₁ φ1 ω₁ _ Er hA hI1 (λv' st2 r₂ s₂ φ2 ω₂ ⟨w,hp,hw⟩ hI2 hl₂ hv'=>
   i9 (hp F A s₂ φ2 ω₂ st2 Qr Er _ hA hI2 (.two (hv.mono hl₂) hv') λr₃ s₃ φ3 hI3 hl3 hr=>hQ _ _ _ _ _ _ hw hI3 (hl1.trans (hl₂.trans hl3)) hr)) hE) hE)
theorem ay2{l r op pos}{Q:V->St->Prop}(h:Ev X F n l st (λv st1=>Ev X F n r st1 (λv' st2=>∃w,Pu2 X n (cZ0 op) v v' w/\Q w st2) R) R)(hm:behindInMarks op r=false:=by with_unfolding_all rfl):Ev X F n (.Compare l [op] [r] pos) st Q R:=
 λA s φ ω Qr Er hA hI hQ hE=>N9 (h A s φ ω _ Er hA hI (λv st1 r₁ s₁ φ1 ω₁ hq hI1 hl1 hv=>
  hq A s₁ φ1 ω₁ _ Er hA hI1 (λv' st2 r₂ s₂ φ2 ω₂ ⟨w,hp,hw⟩ hI2 hl₂ hv'=>
   i9 (hp F A s₂ φ2 ω₂ st2 Qr Er _ hA hI2 (.two (hv.mono hl₂) hv') λr₃ s₃ φ3 hI3 hl3 hr=>hQ _ _ _ _ _ _ hw hI3 (hl1.trans (hl₂.trans hl3)) hr)) hE) hE) hm
set_option tactic.hygienic true in
theorem ah8{l r op pos}{Q:Bool->St->Prop}(h:Ev X F n l st (λv st1=>Ev X F n r st1 (λv' st2=>∃b,Pu2 X n (cZ0 op) v v' (.bool b)/\Q b st2) R) R)(hm:behindInMarks op r=false:=by with_unfolding_all rfl):Tst X F n (.Compare l [op] [r] pos) st Q R:=
 λA s φ ω Qr Er hA hI hQ hE=>K9 (h A s φ ω _ Er hA hI (λv st1 r₁ s₁ φ1 ω₁ hq hI1 hl1 hv=>
  hq A s₁ φ1 ω₁ _ Er hA hI1 (λv' st2 r₂ s₂ φ2 ω₂ ⟨w,hp,hw⟩ hI2 hl₂ hv'=>
   i9 (hp F A s₂ φ2 ω₂ st2 _ Er _ hA hI2 (.two (hv.mono hl₂) hv') λr₃ s₃ φ3 hI3 hl3 hr=>by
    refine hr.boolE ?_;exact i9 (df3 (hQ _ _ _ _ _ _ hw hI3 (hl1.trans (hl₂.trans hl3)) rfl)))) hE) hE) hm
theorem bK6{x op pos}{Q:V->St->Prop}(h:Ev X F n x st (λv st1=>∃w,Pu1 X n (unaryOp op) v w/\Q w st1) R):Ev X F n (.UnaryOp op x pos) st Q R:=
 λA s φ ω Qr Er hA hI hQ hE=>ap9 (h A s φ ω _ Er hA hI (λv st1 r₁ s₁ φ1 ω₁ ⟨w,hp,hw⟩ hI1 hl1 hv=>
  i9 (hp F A s₁ φ1 ω₁ st1 Qr Er _ hA hI1 (.one hv) λr₃ s₃ φ3 hI3 hl3 hr=>hQ _ _ _ _ _ _ hw hI3 (hl1.trans hl3) hr)) hE)
theorem bp4{e}{Q:Bool->St->Prop}(h:Ev X F n e st (λv st1=>∃b,PuT X n v b/\Q b st1) R)(he:isTrue e F.env (eval e F.env)=(do let v ←eval e F.env;dd4 e.pos;dc2 [v] (truthy v)):=by rfl):Tst X F n e st Q R:=
 λA s φ ω Qr Er hA hI hQ hE=>T5 (h A s φ ω _ Er hA hI (λv st1 r₁ s₁ φ1 ω₁ ⟨b,hp,hb⟩ hI1 hl1 hv=>
  i9 (hp F A s₁ φ1 ω₁ st1 Qr Er _ hA hI1 (.one hv) λc s₃ φ3 hI3 hl3 hr=>hQ _ _ _ _ _ _ hb hI3 (hl1.trans hl3) hr.symm)) hE) he
theorem bm7{x pos}{Q:Bool->St->Prop}(h:Tst X F n x st (λb=>Q (!b)) R):Tst X F n (.UnaryOp .Not x pos) st Q R:=
 λA s φ ω Qr Er hA hI hQ hE=>Y4 (h A s φ ω _ Er hA hI (λv st1 r₁ s₁ φ1 ω₁ hq hI1 hl1 hv=>hQ _ _ _ _ _ _ hq hI1 hl1 (by subst hv;rfl)) hE)
noncomputable abbrev All(X:Cx)(F:Frm)(n:Nat)(op:BoolOp)(l:List Expr)(st:St)(Q:Bool->St->Prop)(R:List UInt8->Prop):Prop:=Tr X F n (allTrue op l F.env) (λ_ (a b:Bool)=>a=b) st Q R
theorem ar8{op l pos}{Q:Bool->St->Prop}(h:All X F n op l st Q R):Tst X F n (.BoolOp op l pos) st Q R:=
 λA s φ ω Qr Er hA hI hQ hE=>Q4 (h A s φ ω Qr Er hA hI hQ hE)
theorem bq0{Q:Bool->St->Prop}(h:Q true st):All X F n .And [] st Q R:=λA s φ ω Qr Er hA hI hQ hE=>L5 (hQ _ _ _ _ _ _ h hI (PM.le.refl _) rfl)
theorem bO2{Q:Bool->St->Prop}(h:Q false st):All X F n .Or [] st Q R:=λA s φ ω Qr Er hA hI hQ hE=>M8 (hQ _ _ _ _ _ _ h hI (PM.le.refl _) rfl)
theorem bb6{x l}{Q:Bool->St->Prop}(h:Tst X F n x st (λb st1=>(b=true->All X F n .And l st1 Q R)/\(b=false->Q false st1)) R):All X F n .And (x::l) st Q R:=
 λA s φ ω Qr Er hA hI hQ hE=>J9 (h A s φ ω _ Er hA hI (λv st1 r₁ s₁ φ1 ω₁ hq hI1 hl1 hv=>by
  subst hv
  cases v with
  |true=>exact hq.1 rfl A s₁ φ1 ω₁ Qr Er hA hI1 (λv' st2 r₂ s₂ φ2 ω₂ hq2 hI2 hl₂ hv₂=>hQ _ _ _ _ _ _ hq2 hI2 (hl1.trans hl₂) hv₂) hE
  |false=>exact hQ _ _ _ _ _ _ (hq.2 rfl) hI1 hl1 rfl) hE)
theorem bh4{x l}{Q:Bool->St->Prop}(h:Tst X F n x st (λb st1=>(b=true->Q true st1)/\(b=false->All X F n .Or l st1 Q R)) R):All X F n .Or (x::l) st Q R:=
 λA s φ ω Qr Er hA hI hQ hE=>K8 (h A s φ ω _ Er hA hI (λv st1 r₁ s₁ φ1 ω₁ hq hI1 hl1 hv=>by
  subst hv
  cases v with
  |true=>exact hQ _ _ _ _ _ _ (hq.1 rfl) hI1 hl1 rfl
  |false=>exact hq.2 rfl A s₁ φ1 ω₁ Qr Er hA hI1 (λv' st2 r₂ s₂ φ2 ω₂ hq2 hI2 hl₂ hv₂=>hQ _ _ _ _ _ _ hq2 hI2 (hl1.trans hl₂) hv₂) hE) hE)
theorem ct5{t a b pos}{Q:V->St->Prop}(h:Tst X F n t st (λc st1=>(c=true->Ev X F n a st1 Q R)/\(c=false->Ev X F n b st1 Q R)) R):Ev X F n (.IfExp t a b pos) st Q R:=
 λA s φ ω Qr Er hA hI hQ hE=>aI0 (h A s φ ω _ Er hA hI (λv st1 r₁ s₁ φ1 ω₁ hq hI1 hl1 hv=>by
  subst hv
  cases v with
  |true=>exact hq.1 rfl A s₁ φ1 ω₁ Qr Er hA hI1 (λv' st2 r₂ s₂ φ2 ω₂ hq2 hI2 hl₂ hv₂=>hQ _ _ _ _ _ _ hq2 hI2 (hl1.trans hl₂) hv₂) hE
  |false=>exact hq.2 rfl A s₁ φ1 ω₁ Qr Er hA hI1 (λv' st2 r₂ s₂ φ2 ω₂ hq2 hI2 hl₂ hv₂=>hQ _ _ _ _ _ _ hq2 hI2 (hl1.trans hl₂) hv₂) hE) hE)
theorem be1{x y pos}{Q:V->St->Prop}(h:Ev X F n x st (λv st1=>∃b,PuT X n v b/\(b=true->Ev X F n y st1 Q R)/\(b=false->Q v st1)) R):Ev X F n (.BoolOp .And [x,y] pos) st Q R:=
 λA s φ ω Qr Er hA hI hQ hE=>aP2 (h A s φ ω _ Er hA hI (λv st1 r₁ s₁ φ1 ω₁ ⟨b,hp,h1,h2⟩ hI1 hl1 hv=>
  i9 <| hp F A s₁ φ1 ω₁ st1 _ Er _ hA hI1 (.one hv) λc s₃ φ3 hI3 hl3 hr=>by
   subst hr
   cases c with
   |true=>exact h1 rfl A s₃ φ3 ω₁ Qr Er hA hI3 (λv' st2 r₂ s₂ φ2 ω₂ hq2 hI2 hl₂ hv₂=>hQ _ _ _ _ _ _ hq2 hI2 (hl1.trans (hl3.trans hl₂)) hv₂) hE
   |false=>exact hQ _ _ _ _ _ _ (h2 rfl) hI3 (hl1.trans hl3) (hv.mono hl3)) hE)
theorem bT7{x y pos}{Q:V->St->Prop}(h:Ev X F n x st (λv st1=>∃b,PuT X n v b/\(b=true->Q v st1)/\(b=false->Ev X F n y st1 Q R)) R):Ev X F n (.BoolOp .Or [x,y] pos) st Q R:=
 λA s φ ω Qr Er hA hI hQ hE=>bi3 (h A s φ ω _ Er hA hI (λv st1 r₁ s₁ φ1 ω₁ ⟨b,hp,h1,h2⟩ hI1 hl1 hv=>
  i9 <| hp F A s₁ φ1 ω₁ st1 _ Er _ hA hI1 (.one hv) λc s₃ φ3 hI3 hl3 hr=>by
   subst hr
   cases c with
   |false=>exact h2 rfl A s₃ φ3 ω₁ Qr Er hA hI3 (λv' st2 r₂ s₂ φ2 ω₂ hq2 hI2 hl₂ hv₂=>hQ _ _ _ _ _ _ hq2 hI2 (hl1.trans (hl3.trans hl₂)) hv₂) hE
   |true=>exact hQ _ _ _ _ _ _ (h1 rfl) hI3 (hl1.trans hl3) (hv.mono hl3)) hE)
end
section
variable {X:Cx} {F:Frm} {n:Nat} {st:St} {R:List UInt8->Prop} {α β γ δ:Type}
theorem aF5{l op op' r r' pos}{Q:Bool->St->Prop}(h:Ev X F n l st (λv st1=>Ev X F n r st1 (λv' st2=>∃b,Pu2 X n (cZ0 op) v v' (.bool b)/\(b=false->Q false st2)/\
 (b=true->Ev X F n r' st2 (λv'' st3=>∃c,Pu2 X n (cZ0 op') v' v'' (.bool c)/\Q c st3) R)) R) R) (hm:lastMarks [op,op'] [r,r']=false:=by with_unfolding_all rfl):Tst X F n (.Compare l [op,op'] [r,r'] pos) st Q R:=
 λA s φ ω Qr Er hA hI hQ hE=>ac8 (h A s φ ω _ Er hA hI (λv st1 r₁ s₁ φ1 ω₁ hq hI1 hl1 hv=>
  at6 (hq A s₁ φ1 ω₁ _ Er hA hI1 (λv' st2 r₂ s₂ φ2 ω₂ ⟨b,hp,hf,ht⟩ hI2 hl₂ hv'=>
   i9 <| hp F A s₂ φ2 ω₂ st2 _ Er _ hA hI2 (.two (hv.mono hl₂) hv') λr₃ s₃ φ3 hI3 hl3 hr=>by
    refine hr.boolE ?_
    refine i9 (df3 ?_)
    cases b with
    |false=>exact hQ _ _ _ _ _ _ (hf rfl) hI3 (hl1.trans (hl₂.trans hl3)) rfl
    |true=>
     exact as9 (ht rfl A s₃ φ3 ω₂ _ Er hA hI3 (λv'' st4 r₄ s₄ φ4 ω₄ ⟨c,hp',hc⟩ hI4 hl4 hv''=>
      i9 <| hp' F A s₄ φ4 ω₄ st4 _ Er _ hA hI4 (.two ((hv'.mono hl3).mono hl4) hv'') λr5 s₅ φ5 hI5 hl5 hr'=>by
       refine hr'.boolE ?_
       exact i9 <| df3 (hQ _ _ _ _ _ _ hc hI5 (hl1.trans (hl₂.trans (hl3.trans (hl4.trans hl5)))) rfl)) hE)) hE)) hE) hm
theorem aP5{l op op' r r' pos}{Q:V->St->Prop}(h:Ev X F n l st (λv st1=>Ev X F n r st1 (λv' st2=>∃b,Pu2 X n (cZ0 op) v v' (.bool b)/\(b=false->Q (.bool false) st2)/\
 (b=true->Ev X F n r' st2 (λv'' st3=>∃w,Pu2 X n (cZ0 op') v' v'' w/\Q w st3) R)) R) R) (hm:lastMarks [op,op'] [r,r']=false:=by with_unfolding_all rfl):Ev X F n (.Compare l [op,op'] [r,r'] pos) st Q R:=
 λA s φ ω Qr Er hA hI hQ hE=>ab7 (h A s φ ω _ Er hA hI (λv st1 r₁ s₁ φ1 ω₁ hq hI1 hl1 hv=>
  aq9 (hq A s₁ φ1 ω₁ _ Er hA hI1 (λv' st2 r₂ s₂ φ2 ω₂ ⟨b,hp,hf,ht⟩ hI2 hl₂ hv'=>
   i9 <| hp F A s₂ φ2 ω₂ st2 _ Er _ hA hI2 (.two (hv.mono hl₂) hv') λr₃ s₃ φ3 hI3 hl3 hr=>by
    refine hr.boolE ?_
    refine i9 (df3 ?_)
    cases b with
    |false=>exact hQ _ _ _ _ _ _ (hf rfl) hI3 (hl1.trans (hl₂.trans hl3)) .bool
    |true=>
     exact ar7 (ht rfl A s₃ φ3 ω₂ _ Er hA hI3 (λv'' st4 r₄ s₄ φ4 ω₄ ⟨c,hp',hc⟩ hI4 hl4 hv''=>
      i9 <| hp' F A s₄ φ4 ω₄ st4 _ Er _ hA hI4 (.two ((hv'.mono hl3).mono hl4) hv'') λr5 s₅ φ5 hI5 hl5 hr'=>
       hQ _ _ _ _ _ _ hc hI5 (hl1.trans (hl₂.trans (hl3.trans (hl4.trans hl5)))) hr') hE)) hE)) hE) hm
noncomputable abbrev Evs(X:Cx)(F:Frm)(n:Nat)(es:List Expr)(pos:Pos)(st:St)(Q:List V->St->Prop)(R:List UInt8->Prop):Prop:=Tr X F n (spliced (backTo pos (cW7 es F.env))) (λφ=>RVs X φ) st Q R
theorem ai8{pos}{Q:List V->St->Prop}(h:Q [] st):Evs X F n [] pos st Q R:=λA s φ ω Qr Er hA hI hQ hE=>i9 (cZ1 (hQ _ _ _ _ _ _ h hI (PM.le.refl _) .nil))
theorem I9{e es pos}{Q:List V->St->Prop}(h:Ev X F n e st (λv st1=>Evs X F n es pos st1 (λvs st2=>Q (v::vs) st2) R) R)(he:cW7 (e::es) F.env=(false,eval e F.env)::cW7 es F.env:=by rfl):Evs X F n (e::es) pos st Q R:=
 λA s φ ω Qr Er hA hI hQ hE=>d9 (h A s φ ω _ Er hA hI (λv st1 r₁ s₁ φ1 ω₁ hq hI1 hl1 hv=>
  hq A s₁ φ1 ω₁ _ Er hA hI1 (λvs st2 r₂ s₂ φ2 ω₂ hq2 hI2 hl₂ hvs=>hQ _ _ _ _ _ _ hq2 hI2 (hl1.trans hl₂) (.cons (hv.mono hl₂) hvs)) hE) hE) he
theorem aZ6{es k pos}{Q:V->St->Prop}(h:Evs X F n es pos st (λvs st1=>vs.length<=sizeLine/\Q (.tup vs) st1) R):Ev X F n (.Tuple es k pos) st Q R:=
 λA s φ ω Qr Er hA hI hQ hE=>F3 (h A s φ ω _ Er hA hI (λvs st1 r₁ s₁ φ1 ω₁ ⟨hz,hq⟩ hI1 hl1 hv=>by
  have P:=hI1.push (z9 r₁) s₁.toks
  exact⟨by rw[hv.len];exact hz,hQ _ _ _ _ _ _ hq P.1 (hl1.trans P.2.1) (.tup P.2.2 (hv.mono P.2.1))⟩) hE)
theorem bl8{es pos}{Q:V->St->Prop}(h:Evs X F n es pos st (λvs st1=>vs.length<=sizeLine/\Q (.lst vs) st1) R):Ev X F n (.List es pos) st Q R:=
 λA s φ ω Qr Er hA hI hQ hE=>D8 (h A s φ ω _ Er hA hI (λvs st1 r₁ s₁ φ1 ω₁ ⟨hz,hq⟩ hI1 hl1 hv=>by
  have P:=hI1.push (j0 r₁ 0) s₁.toks
  exact⟨by rw[hv.len];exact hz,hQ _ _ _ _ _ _ hq P.1 (hl1.trans P.2.1) (.lst P.2.2 (hv.mono P.2.1))⟩) hE)
inductive ItemTy:V->String->String->Prop
 |bytes (l):ItemTy (.bytes l) "bytes" "bytes.__getitem__"
 |lst (l):ItemTy (.lst l) "list" "list.__getitem__"
 |tup (l):ItemTy (.tup l) "tuple" "tuple.__getitem__"
theorem ItemTy.lookup{v:V}{T id:String}(h:ItemTy v T id):typeLookup (.type T) "__getitem__"=pure (some (.builtin id)):=by
 cases h
 ·exact FB.slot_bytes_getitem.lookup
 ·exact slot_list_getitem.lookup
 ·exact F.slot_tuple_getitem.lookup
theorem ItemTy.is{v:V}{T id:String}(h:ItemTy v T id){φ ω:PM}{ψ:PM}{s:Shared}(S:Sep X φ ψ ω s){r:Value}(hr:RV X φ v r):s.TypeIs r T:=by
 cases h
 ·exact hr.bytesE λH=>rfl
 ·exact hr.lstE λH H H a b=>⟨_,S.kφ _ _ a,rfl⟩
 ·exact hr.tupE λH H a b=>⟨_,S.kφ _ _ a,rfl⟩
theorem bW3{value slice pos}{Q:V->St->Prop}(h:Ev X F n value st (λv st1=>Ev X F n slice st1 (λv' st2=>∃T id w,ItemTy v T id/\Pu2 X n getItem v v' w/\Q w st2) R) R)
 (hs:∃l:Value->Value->List Value,∀o i,subscripted slice false o i=operate (l o i) (getItem o i):=by exact⟨_,λH H=>rfl⟩):Ev X F n (.Subscript value slice pos) st Q R:=
 λA s φ ω Qr Er hA hI hQ hE=>by
  obtain⟨l,hs⟩:=hs
  rw[eval_Subscript]
  refine a0 (h A s φ ω _ Er hA hI (λv st1 o s₁ φ1 ω₁ hq hI1 hl1 hv=>a0 (i4 (hq A s₁ φ1 ω₁ _ Er hA hI1 (λv' st2 i s₂ φ2 ω₂ hx hI2 hl₂ hv'=> ?_) hE))) hE)
  obtain⟨T,id,w,hT,hp,hw⟩:=hx
  have ty:=hT.is hI2.S (hv.mono hl₂)
  refine i9 <| cV4 (wpAny_standAt (cV4 ?_))
  rw[getitemInPython_of_ne ty.not_modules]
  refine cV4 (da5 ty hT.lookup (cW4 ?_))
  rw[hs]
  exact cV4 (wpAny_operating (hp F A s₂ φ2 ω₂ st2 _ Er _ hA hI2 (.two (hv.mono hl₂) hv') λr₃ s₃ φ3 hI3 hl3 hr=>
   cV4 (wpAny_letTemporaryGo (cW4 (hQ _ _ _ _ _ _ hw hI3 (hl1.trans (hl₂.trans hl3)) hr)))))
noncomputable def BdR:Option Int->Value->Prop:=λo v=>IsPart v o
noncomputable abbrev EvB(X:Cx)(F:Frm)(n:Nat)(e:Option Expr)(st:St)(Q:Option Int->St->Prop)(R:List UInt8->Prop):Prop:=Tr X F n (evalPart e F.env) (λH=>BdR) st Q R
theorem aZ4{Q:Option Int->St->Prop}(h:Q none st):EvB X F n none st Q R:=λA s φ ω Qr Er hA hI hQ hE=>b7 (hQ _ _ _ _ _ _ h hI (PM.le.refl _) IsPart.none)
theorem aS5{e}{Q:Option Int->St->Prop}(h:Ev X F n e st (λv st1=>∃i,v= .int i/\Q (some i) st1) R):EvB X F n (some e) st Q R:=
 λA s φ ω Qr Er hA hI hQ hE=>h A s φ ω Qr Er hA hI (λv st1 r₁ s₁ φ1 ω₁ ⟨i,e,hq⟩ hI1 hl1 hv=>by subst e;refine hv.intE λu=> ?_;exact hQ _ _ _ _ _ _ hq hI1 hl1 (IsPart.int _ _)) hE
noncomputable def PuS(X:Cx)(n:Nat)(v:V)(lo hi:Option Int)(w:V):Prop:=∀F A s φ ω st Qr Er r a l u,Rm (F.env::F.outer) A n->Inv X F φ ω st s->RV X φ v r->s.heap.IsSliceOf a l u .none->IsPart l lo->IsPart u hi->
 (∀r s' φ',Inv X F φ' ω st s'->φ.le φ'->RV X φ' w r->Qr r s')->wpAny X.M A (getItem r (.ref a)) Qr Er s
theorem aZ9{value lo hi p pos}{Q:V->St->Prop}(h:Ev X F n value st (λv st1=>EvB X F n lo st1 (λi st2=>EvB X F n hi st2 (λj st3=>∃T id w,ItemTy v T id/\PuS X n v i j w/\Q w st3) R) R) R):
 Ev X F n (.Subscript value (.Slice lo hi none p) pos) st Q R:=
 λA s φ ω Qr Er hA hI hQ hE=>by
  rw[eval_Subscript]
  refine a0 (h A s φ ω _ Er hA hI (λv st1 o s₁ φ1 ω₁ hq hI1 hl1 hv=>a0 (i4 (af6 (hq A s₁ φ1 ω₁ _ Er hA hI1 (λi st2 l s₂ φ2 ω₂ hx hI2 hl₂ hi=>
   hx A s₂ φ2 ω₂ _ Er hA hI2 (λj st3 u s₃ φ3 ω₃ hy hI3 hl3 hj=> ?_) hE) hE)))) hE)
  rw[evalPart_none]
  refine b7 ?_
  obtain⟨T,id,w,hT,hp,hw⟩:=hy
  have P:=hI3.push {cls:= .type "slice",data:= .fields #[l,u, .none]} s₃.toks
  have hv':=(hv.mono (hl₂.trans hl3)).mono P.2.1
  have ty:=hT.is P.1.S hv'
  refine i9 <| cV4 (wpAny_standAt (cV4 ?_))
  rw[getitemInPython_of_ne ty.not_modules]
  refine cV4 (da5 ty hT.lookup (cW4 ?_))
  show wpAny _ _ (operate _ (getItem o _) >>= _) _ _ _
  exact cV4 (wpAny_operating (hp F A _ _ ω₃ st3 _ Er _ _ l u hA P.1 hv' (Heap.IsSliceOf.new _ _ _ _) hi hj λr₄ s₄ φ4 hI4 hl4 hr=>
   cV4 (wpAny_letTemporaryGo (cW4 (hQ _ _ _ _ _ _ hw hI4 (hl1.trans (hl₂.trans (hl3.trans (P.2.1.trans hl4)))) hr)))))
end
section
variable {X:Cx} {n:Nat} {β:Type}
theorem Pu.mk1{t:Value->Sem β}{v:V}{P:PM->β->Prop}(h:∀F A s φ ω st Qr Er r,Rm (F.env::F.outer) A n->Inv X F φ ω st s->RV X φ v r->(∀r s' φ',Inv X F φ' ω st s'->φ.le φ'->P φ' r->Qr r s')->wpAny X.M A (t r) Qr Er s):Pu X n [v] (t1 t) P:=
 λF A s φ ω st Qr Er rs hA hI hv hQ=>by
  refine hv.oneE λr h1=> ?_
  exact h F A s φ ω st Qr Er _ hA hI h1 hQ
theorem Pu.mk2{t:Value->Value->Sem β}{v v':V}{P:PM->β->Prop}(h:∀F A s φ ω st Qr Er r r',Rm (F.env::F.outer) A n->Inv X F φ ω st s->RV X φ v r->RV X φ v' r'->(∀r s' φ',Inv X F φ' ω st s'->φ.le φ'->P φ' r->Qr r s')->wpAny X.M A (t r r') Qr Er s):Pu X n [v,v'] (t2 t) P:=
 λF A s φ ω st Qr Er rs hA hI hv hQ=>by
  refine hv.twoE λr r' h1 h2=> ?_
  exact h F A s φ ω st Qr Er _ _ hA hI h1 h2 hQ
theorem Pu2.ii{t:Value->Value->Sem Value}{a b:Int}{w:V}(h:∀A s Q E u u',(∀k r,RV X PM.emp w r->Q r {s with toks:=k})->wpAny X.M A (t (.int a u) (.int b u')) Q E s):Pu2 X n t (.int a) (.int b) w:=
 Pu.mk2 λF A s φ ω st Qr Er r r' hA hI h1 h2 hQ=>by
  refine h1.intE λu=>h2.intE λu'=> ?_
  exact h A s Qr Er _ _ λk r hr=>hQ r _ φ (hI.toks _) (PM.le.refl _) (hr.mono λa o e=>by cases e)
theorem av5{a b:Int}:Pu2 X n (binaryOp .Add) (.int a) (.int b) (.int (a+b)):=Pu2.ii λA s Q E u u' h=>P.add_int (h _ _ .int)
theorem aT3{a b:Int}:Pu2 X n (binaryOp .Sub) (.int a) (.int b) (.int (a - b)):=Pu2.ii λA s Q E u u' h=>P.sub_int (h _ _ .int)
theorem bZ1{a b:Int}(hm:IntMulOk a b):Pu2 X n (binaryOp .Mult) (.int a) (.int b) (.int (a * b)):=Pu2.ii λA s Q E u u' h=>P.mul_int (h _ _ .int) hm
theorem al9{a b:Int}(hb:b≠0)(hs:b.natAbs < 1073741824):Pu2 X n (binaryOp .FloorDiv) (.int a) (.int b) (.int (a.fdiv b)):=Pu2.ii λA s Q E u u' h=>floordiv_int hb (h _ _ .int) (.inl (PyProof.noPylong_small hs))
theorem cc3{a b:Int}(hb:b≠0):Pu2 X n (binaryOp .Mod) (.int a) (.int b) (.int (a.fmod b)):=Pu2.ii λA s Q E u u' h=>mod_int' hb (h _ _ .int)
theorem cd6{a b:Int}:Pu2 X n (binaryOp .BitAnd) (.int a) (.int b) (.int (dg8 a b)):=Pu2.ii λA s Q E u u' h=>and_int (h _ _ .int)
theorem aI2{a b:Int}(h0:0<=b)(h1:b<=1000000)(ha:a.natAbs < 2 ^ 64):Pu2 X n (binaryOp .LShift) (.int a) (.int b) (.int (a * 2 ^ b.toNat)):=Pu2.ii λA s Q E u u' h=>lshift_int_small h0 h1 ha (h _ _ .int)
theorem cf5{a b:Int}(h0:0<=b)(hs:(Builtin.Int.intBits a:Int) * b<=2 ^ 27):Pu2 X n (binaryOp .Pow) (.int a) (.int b) (.int (a ^ b.toNat)):=Pu2.ii λA s Q E u u' h=>pow_int h0 hs (h _ _ .int)
theorem cu0{a b:Int}:Pu2 X n (cZ0 .Eq) (.int a) (.int b) (.bool (a==b)):=Pu2.ii λA s Q E u u' h=>P.eq_int (h _ _ .bool)
theorem by1{a b:Int}:Pu2 X n (cZ0 .NotEq) (.int a) (.int b) (.bool (a != b)):=Pu2.ii λA s Q E u u' h=>P.ne_int (h _ _ .bool)
theorem cs9{a b:Int}:Pu2 X n (cZ0 .Lt) (.int a) (.int b) (.bool (decide (a < b))):=Pu2.ii λA s Q E u u' h=>P.lt_int (h _ _ .bool)
theorem cr9{a b:Int}:Pu2 X n (cZ0 .LtE) (.int a) (.int b) (.bool (decide (a<=b))):=Pu2.ii λA s Q E u u' h=>P.le_int (h _ _ .bool)
theorem cl6{a b:Int}:Pu2 X n (cZ0 .Gt) (.int a) (.int b) (.bool (decide (a> b))):=Pu2.ii λA s Q E u u' h=>P.gt_int (h _ _ .bool)
theorem cl0{a b:Int}:Pu2 X n (cZ0 .GtE) (.int a) (.int b) (.bool (decide (a≥ b))):=Pu2.ii λA s Q E u u' h=>P.ge_int (h _ _ .bool)
theorem bZ8{a:Int}:Pu1 X n (unaryOp .USub) (.int a) (.int (-a)):=Pu.mk1 λF A s φ ω st Qr Er r hA hI h1 hQ=>by
 refine h1.intE λu=> ?_;exact P.neg_int (hQ _ _ φ (hI.toks _) (PM.le.refl _) .int)
theorem bm4{b:Bool}:PuT X n (.bool b) b:=Pu.mk1 λF A s φ ω st Qr Er r hA hI h1 hQ=>by
 refine h1.boolE ?_;exact df3 (hQ _ _ φ hI (PM.le.refl _) rfl)
theorem bO1{a:Int}:PuT X n (.int a) (a != 0):=Pu.mk1 λF A s φ ω st Qr Er r hA hI h1 hQ=>by
 refine h1.intE λu=> ?_;exact P.truthy_int (hQ _ _ φ hI (PM.le.refl _) rfl)
noncomputable def isNone:V->Bool| .none=>true|_=>false
theorem RV.isNone{φ:PM}{v:V}{r:Value}(h:RV X φ v r):(r==dh1)=Mine.isNone v:=by cases h<;>rfl
theorem cr6{v:V}:Pu2 X n (cZ0 .Is) v .none (.bool (isNone v)):=Pu.mk2 λF A s φ ω st Qr Er r r' hA hI h1 h2 hQ=>by
 refine h2.noneE ?_;exact is_none (hQ _ _ φ hI (PM.le.refl _) (by rw[h1.isNone];exact .bool))
theorem ba8{v:V}:Pu2 X n (cZ0 .IsNot) v .none (.bool (!isNone v)):=Pu.mk2 λF A s φ ω st Qr Er r r' hA hI h1 h2 hQ=>by
 refine h2.noneE ?_;exact isNot_none (hQ _ _ φ hI (PM.le.refl _) (by rw[h1.isNone];exact .bool))
theorem al2{a b:List UInt8}(hz:a.length+b.length<=16777216):Pu2 X n (binaryOp .Add) (.bytes a) (.bytes b) (.bytes (a++b)):=Pu.mk2 λF A s φ ω st Qr Er r r' hA hI h1 h2 hQ=>by
 refine h1.bytesE λu=>h2.bytesE λu'=> ?_
 exact KBy.add_bytes (by simpa using hz) λt k=>hQ _ _ φ (hI.toks _) (PM.le.refl _) (by rw[List.append_toArray];exact .bytes)
theorem bP3{a b:List UInt8}:Pu2 X n (cZ0 .Eq) (.bytes a) (.bytes b) (.bool (a==b)):=Pu.mk2 λF A s φ ω st Qr Er r r' hA hI h1 h2 hQ=>by
 refine h1.bytesE λu=>h2.bytesE λu'=> ?_;exact eq_bytes (hQ _ _ φ hI (PM.le.refl _) .bool)
theorem aW3{a b:List UInt8}:Pu2 X n (cZ0 .NotEq) (.bytes a) (.bytes b) (.bool (a != b)):=Pu.mk2 λF A s φ ω st Qr Er r r' hA hI h1 h2 hQ=>by
 refine h1.bytesE λu=>h2.bytesE λu'=> ?_;exact ne_bytes (hQ _ _ φ hI (PM.le.refl _) .bool)
theorem aY0{l:List UInt8}{i:Int}(hz:l.length<=16777216)(h0:0<=i)(h1:i < l.length):Pu2 X n getItem (.bytes l) (.int i) (.int (l.getD i.toNat 0).toNat):=Pu.mk2 λF A s φ ω st Qr Er r r' hA hI hr hr' hQ=>by
 refine hr.bytesE λu=>hr'.intE λu'=> ?_;exact getItem_bytes (by lia) h0 h1 (hQ _ _ φ (hI.toks _) (PM.le.refl _) .int)
theorem Y3{b:Array UInt8}{t u:Tok}{i:Int}(h0:0<=i)(h1:i < 256):Gives (Builtin.«bytes.__contains__» ⟨[.bytes b t, .int i u],[]⟩) (.val (.bool (b.contains i.toNat.toUInt8))):=by
 refine .of_wp λM A E s Q hq=> ?_
 show wpAny M A (Builtin.Bytes.containsIn _ (.bytes b t) (.int i u) >>= λr=>_) _ E s
 refine cV4 ?_
 refine cV4 (dc5 (a:= .ok i) rfl ?_)
 refine cV4 (dc5 KBy.buffer_eq ?_)
 show wpAny M A (if(decide (i < 0) ||decide (i≥ 256))=true then _ else _) _ E s
 rw[if_neg (by simp;lia)]
 exact cW4 (cW4 ⟨_,rfl,hq⟩)
theorem bX3{l:List UInt8}{i:Int}(h0:0<=i)(h1:i < 256):Pu2 X n (cZ0 .In) (.int i) (.bytes l) (.bool (l.contains i.toNat.toUInt8)):=Pu.mk2 λF A s φ ω st Qr Er r r' hA hI hr hr' hQ=>by
 refine hr.intE λu=>hr'.bytesE λu'=> ?_
 refine SeqRoads2.in_meets (typeIs_bytes s _ _) FB.slot_bytes_contains FB.entry_bytes_contains (FB.args_bytes_contains_2 _ _) (Y3 h0 h1).meets ?_
 exact⟨_,rfl,by simpa using hQ _ _ φ hI (PM.le.refl _) .bool⟩
noncomputable def eqV:V->V->Option Bool
 | .none, .none=>some true
 | .int a, .int b=>some (a==b)
 | .bytes a, .bytes b=>some (a==b)
 | .bool a, .bool b=>some (a==b)
 |_,_=>none
theorem aD3{P:V->V->Bool->Prop}(h0:P .none .none true)(h1:∀a b,P (.int a) (.int b) (a==b))(h2:∀a b,P (.bytes a) (.bytes b) (a==b))(h3:∀a b,P (.bool a) (.bool b) (a==b)){v w:V}{b:Bool}(h:eqV v w=some b):P v w b:=by
 cases v with
 |none=>cases w with
  |none=>exact(cY2 h)▸h0
  |_=>exact n7 h
 |int x=>cases w with
  |int y=>exact(cY2 h)▸h1 x y
  |_=>exact n7 h
 |bytes x=>cases w with
  |bytes y=>exact(cY2 h)▸h2 x y
  |_=>exact n7 h
 |bool x=>cases w with
  |bool y=>exact(cY2 h)▸h3 x y
  |_=>exact n7 h
 |_=>exact n7 h
theorem ct1{φ:PM}{v w:V}{r q:Value}{b:Bool}(h:RV X φ v r)(k:RV X φ w q)(e:eqV v w=some b)(A:Around)(s:Shared):SeqAt.EqAt A s r q b:=by
 refine aD3 (P:=λv w b=>RV X φ v r->RV X φ w q->SeqAt.EqAt A s r q b) (λh k=> ?_) (λx y h k=> ?_) (λx y h k=> ?_) (λx y h k=> ?_) e h k
 ·refine h.noneE (k.noneE ?_)
  exact λprog w E Q hq=>by
   refine da9 ?_
   rw[if_pos (by rfl)]
   exact cV4 (wpAny_rule (cW4 hq))
 ·exact h.intE λt=>k.intE λu=>SeqAt.EqAt.int_int _ _ _ _
 ·refine h.bytesE λt=>k.bytesE λu=> ?_
  exact λprog w E Q hq=>eqBool_bytes (by rw[show decide (x=y)=(x==y)from by rw[Bool.eq_iff_iff];simp];exact hq)
 ·exact h.boolE (k.boolE (SeqAt.EqAt.bool_bool _ _))
theorem v7{φ ω ψ:PM}{s:Shared}{a:Addr}{vs:List Value}{k:Nat}(S:Sep X φ ψ ω s)(h:φ a=some (j0 vs k)):s.heap.IsList a vs.toArray:=⟨_,S.kφ _ _ h,rfl,k,rfl⟩
theorem G2{φ ω ψ:PM}{s:Shared}{a:Addr}{vs:List Value}(S:Sep X φ ψ ω s)(h:φ a=some (z9 vs)):s.heap.IsTuple a vs.toArray:=⟨_,S.kφ _ _ h,rfl,0,rfl⟩
noncomputable def n9:List V->Bool
 | []=>true
 | .int _::l=>n9 l
 |_=>false
noncomputable def i5:List V->List Int
 | .int i::l=>i::i5 l
 |_=>[]
theorem G0{φ:PM}{l:List V}:∀ {vs:List Value},RVs X φ l vs->n9 l=true->IntsAre vs (i5 l):=by
 induction l with
 |nil=>intro vs h e;cases h;exact .nil
 |cons v l ih=>
  intro vs h e
  cases h with|cons a b=>
  cases a<;>first|(exact cV2 e;done)|exact .cons _ _ (ih b e)
theorem aw7{φ:PM}{l:List V}{vs:List Value}(h:RVs X φ l vs)(e:n9 l=true)(k:Int):vs.toArray.any (isInt k)=(i5 l).contains k:=by
 rw[List.any_toArray,any_isInt k (G0 h e)]
 induction i5 l with
 |nil=>rfl
 |cons x l ih=>rw[List.any_cons,ih,List.contains_cons];congr 1;exact BEq.comm
theorem bT6{k:Int}{l:List V}(e:n9 l=true):Pu2 X n (cZ0 .In) (.int k) (.tup l) (.bool ((i5 l).contains k)):=Pu.mk2 λF A s φ ω st Qr Er r r' hA hI hr hr' hQ=>by
 refine hr.intE λu=>hr'.tupE λa vs ha hv=> ?_
 exact SeqAt.in_tupleAt (isInt k) (G2 hI.S ha) (λy hy=>(eq_isInt k _ (G0 hv e) y (by simpa using hy)).at _ _) (by rw[aw7 hv e];exact hQ _ _ φ hI (PM.le.refl _) .bool)
theorem bo7{k:Int}{l:List V}(e:n9 l=true):Pu2 X n (cZ0 .NotIn) (.int k) (.tup l) (.bool (!(i5 l).contains k)):=Pu.mk2 λF A s φ ω st Qr Er r r' hA hI hr hr' hQ=>by
 refine hr.intE λu=>hr'.tupE λa vs ha hv=> ?_
 exact SeqAt.notIn_tupleAt (isInt k) (G2 hI.S ha) (λy hy=>(eq_isInt k _ (G0 hv e) y (by simpa using hy)).at _ _) (by rw[aw7 hv e];exact hQ _ _ φ hI (PM.le.refl _) .bool)
theorem bW0{k:Int}{l:List V}(e:n9 l=true):Pu2 X n (cZ0 .In) (.int k) (.lst l) (.bool ((i5 l).contains k)):=Pu.mk2 λF A s φ ω st Qr Er r r' hA hI hr hr' hQ=>by
 refine hr.intE λu=>hr'.lstE λa vs k' ha hv=> ?_
 exact SeqAt.in_listAt (isInt k) (v7 hI.S ha) (λy hy=>(eq_isInt k _ (G0 hv e) y (by simpa using hy)).at _ _) (by rw[aw7 hv e];exact hQ _ _ φ hI (PM.le.refl _) .bool)
theorem aN8{l:List V}{i:Int}{v:V}(h0:0<=i)(hz:i < 2 ^ 63)(h:l[i.toNat]? =some v):Pu2 X n getItem (.tup l) (.int i) v:=Pu.mk2 λF A s φ ω st Qr Er r r' hA hI hr hr' hQ=>by
 refine hr'.intE λu=>hr.tupE λa vs ha hv=> ?_
 obtain⟨q,e,hq⟩:=hv.get h
 have hi:i.toNat < _:=(cX6.mp e).1
 exact P.getItem_tuple (n:=0) (hI.S.kφ _ _ ha) (by lia) hz (k:=i.toNat) (seqIndex_of h0 (by simp;lia)) (by simpa using e) (hQ _ _ φ hI (PM.le.refl _) hq)
theorem aQ5{l:List V}{i:Int}{v:V}(h0:0<=i)(hz:i < 2 ^ 63)(h:l[i.toNat]? =some v):Pu2 X n getItem (.lst l) (.int i) v:=Pu.mk2 λF A s φ ω st Qr Er r r' hA hI hr hr' hQ=>by
 refine hr'.intE λu=>hr.lstE λa vs k' ha hv=> ?_
 obtain⟨q,e,hq⟩:=hv.get h
 exact wpAny_getItem_list (v7 hI.S ha) h0 hz (by simpa using e) (hQ _ _ φ hI (PM.le.refl _) hq)
set_option tactic.hygienic true in
theorem bq4{l l':List V}(hz:l.length+l'.length<=sizeLine):Pu2 X n (binaryOp .Add) (.lst l) (.lst l') (.lst (l++l')):=Pu.mk2 λF A s φ ω st Qr Er r r' hA hI hr hr' hQ=>by
 refine hr.lstE λa vs k ha hv=>hr'.lstE λb ws k' hb hw=> ?_
 have e:vs.toArray++ws.toArray=(vs++ws).toArray:=by simp
 refine concat_meets ⟨_,hI.S.kφ _ _ ha,rfl⟩ ⟨_,hI.S.kφ _ _ hb,rfl⟩ noFill_list_add seq_list_add PySem.F.slot_list_add PySem.F.entry_list_add (PySem.F.args_list_add_2 _ _) (list_addW a b vs.toArray ws.toArray k k' none none #[] #[] (by simpa[hv.len,hw.len]using hz)) ⟨hI.S.kφ _ _ ha,hI.S.kφ _ _ hb, ?_⟩
 rw[e]
 have P:=hI.push (j0 (vs++ws) 0) s.toks
 exact hQ _ _ _ P.1 P.2.1 (.lst P.2.2 ((hv.mono P.2.1).append (hw.mono P.2.1)))
noncomputable def S7:List V->List V->Option (List Bool)
 | [],[]=>some []
 |v::l,w::k=>(eqV v w).bind λb=>(S7 l k).map (b:: ·)
 |_,_=>none
theorem ai5{φ:PM}:∀ {l k:List V} {vs ws:List Value} {bs:List Bool},RVs X φ l vs->RVs X φ k ws->S7 l k=some bs->vs.length=bs.length/\ws.length=bs.length/\∀(A:Around) (s:Shared) j (h1:j < vs.length) (h2:j < ws.length),SeqAt.EqAt A s vs[j] ws[j] (bs.getD j false)
 |_,_,_,_,_, .nil, .nil,h=>by cases h;exact⟨rfl,rfl,λH H j h1=>by cases h1⟩
 |_,_,_,_,_, .nil, .cons _ _,h=>by cases h
 |_,_,_,_,_, .cons _ _, .nil,h=>by cases h
 |v::l,w::k,_,_,bs, .cons a b, .cons c d,h=>by
  unfold S7 at h
  cases e:eqV v w with
  |none=>rw[e]at h;cases h
  |some x=>
   rw[e]at h
   cases e':S7 l k with
   |none=>rw[e']at h;cases h
   |some y=>
    rw[e']at h
    cases h
    obtain⟨h1,h2,h3⟩:=ai5 b d e'
    refine⟨by simp[h1],by simp[h2],λA s j g1 g2=> ?_⟩
    cases j with
    |zero=>exact ct1 a c e A s
    |succ j=>exact h3 A s j (by simpa using g1) (by simpa using g2)
theorem af4(bs:List Bool)(k:Nat)(h:k=bs.length):(List.range k).all (λj=>bs.getD j false)=bs.all id:=by
 subst h
 rw[Bool.eq_iff_iff,cZ3,cZ3]
 refine⟨λh x hx=> ?_,λh j hj=> ?_⟩
 ·obtain⟨i,hi,rfl⟩:=List.getElem_of_mem hx
  have:=h i (by simpa using hi)
  simpa[cV8,hi]using this
 ·have hj:j < bs.length:=by simpa using hj
  simpa[cV8,hj]using h _ (db5 hj)
theorem Rm.lt{outer:List Env}{A:Around}(h:Rm outer A n):A.units < cLine:=by have:=h.units;lia
theorem RVs.drop{φ:PM}{l:List V}{vs:List Value}(h:RVs X φ l vs):∀k,RVs X φ (l.drop k) (vs.drop k):=by
 induction l generalizing vs with
 |nil=>cases h;intro k;simpa using RVs.nil
 |cons x l ih=>cases h with|cons a b=>intro k;cases k with|zero=>exact .cons a b|succ k=>exact ih b k
theorem RVs.take{φ:PM}{l:List V}{vs:List Value}(h:RVs X φ l vs):∀k,RVs X φ (l.take k) (vs.take k):=by
 induction l generalizing vs with
 |nil=>cases h;intro k;simpa using RVs.nil
 |cons x l ih=>cases h with|cons a b=>intro k;cases k with|zero=>exact .nil|succ k=>exact .cons a (ih b k)
theorem cb4{l k:List V}{bs:List Bool}(e:S7 l k=some bs):Pu2 X n (cZ0 .NotEq) (.tup l) (.tup k) (.bool (!bs.all id)):=Pu.mk2 λF A s φ ω st Qr Er r r' hA hI hr hr' hQ=>by
 refine hr.tupE λa vs ha hv=>hr'.tupE λb ws hb hw=> ?_
 obtain⟨h1,h2,h3⟩:=ai5 hv hw e
 refine SeqAt.RcNeAt.tuples (G2 hI.S ha) (G2 hI.S hb) hA.lt (e:=λj=>bs.getD j false) (λj g1 g2=>by simpa using h3 _ _ j (by simpa using g1) (by simpa using g2)) _ _ _ _ ?_
 rw[af4 bs _ (by simp[h1,h2])]
 simp only[dd2,h1,h2,BEq.rfl,Bool.and_true]
 exact hQ _ _ φ hI (PM.le.refl _) .bool
theorem cg2{l k:List V}{bs:List Bool}(e:S7 l k=some bs):Pu2 X n (cZ0 .Eq) (.lst l) (.lst k) (.bool (bs.all id)):=Pu.mk2 λF A s φ ω st Qr Er r r' hA hI hr hr' hQ=>by
 refine hr.lstE λa vs k ha hv=>hr'.lstE λb ws k' hb hw=> ?_
 obtain⟨h1,h2,h3⟩:=ai5 hv hw e
 refine SeqAt.eq_listAt (v7 hI.S ha) (v7 hI.S hb) (by simp[h1,h2]) hA.lt (e:=λj=>bs.getD j false) (λj g1 g2=>by simpa using h3 _ _ j (by simpa using g1) (by simpa using g2)) ?_
 rw[af4 bs _ (by simp[h1])]
 exact hQ _ _ φ hI (PM.le.refl _) .bool
theorem aw1{l k:List V}(e:(l.length != k.length)=true):Pu2 X n (cZ0 .Eq) (.lst l) (.lst k) (.bool false):=Pu.mk2 λF A s φ ω st Qr Er r r' hA hI hr hr' hQ=>by
 refine hr.lstE λa vs k ha hv=>hr'.lstE λb ws k' hb hw=> ?_
 exact SeqAt.eq_list_lengthsAt (v7 hI.S ha) (v7 hI.S hb) (by simpa[hv.len,hw.len]using e) hA.lt (hQ _ _ φ hI (PM.le.refl _) .bool)
theorem aH6:Pu2 X n (cZ0 .NotEq) .none .none (.bool false):=Pu.mk2 λF A s φ ω st Qr Er r r' hA hI hr hr' hQ=>by
 refine hr.noneE (hr'.noneE ?_);exact SeqAt.RcNeAt.none_none _ _ _ _ (hQ _ _ φ hI (PM.le.refl _) .bool)
theorem bW5{a b:Str}:Pu2 X n (cZ0 .NotEq) (.str a) (.str b) (.bool (!(a==b))):=Pu.mk2 λF A s φ ω st Qr Er r r' hA hI hr hr' hQ=>by
 refine hr.strE λu=>hr'.strE λu'=> ?_;exact SeqAt.RcNeAt.str_str _ _ _ _ _ _ _ _ (hQ _ _ φ hI (PM.le.refl _) .bool)
noncomputable def F2{α:Type}(l:List α)(lo hi:Option Int):List α:=(l.drop (lo.elim 0 (clipAt l.length))).take (hi.elim l.length (clipAt l.length) - lo.elim 0 (clipAt l.length))
theorem ay3{α:Type}(l:List α)(lo hi:Option Int):(F2 l lo hi).length<=l.length:=by
 unfold F2;rw[List.length_take,List.length_drop];exact cV5 (Nat.min_le_right _ _) (Nat.sub_le _ _)
theorem ilt{i n:Nat}(h:decide ((i:Int)< (n:Int))=true):i < n:=dh8.mp (of_decide_eq_true h)
theorem ige{i n:Nat}(h:decide ((i:Int)< (n:Int))=false):n<=i:=Nat.le_of_not_lt λh'=>of_decide_eq_false h (dh8.mpr h')
theorem aE1{i n:Nat}(h:decide ((i:Int)< (n:Int))=true):n - (i+1)< n - i:=Nat.sub_lt_sub_left (ilt h) (cZ9 i)
theorem cp4{n i:Nat}(h:i < n):n - i=(n - (i+1))+1:=(Nat.succ_pred_eq_of_pos (Nat.sub_pos_of_lt h)).symm
theorem J6(n k:Nat):clipAt n (k:Int)=min k n:=by
 unfold clipAt;rw[if_neg (Int.not_lt.mpr (da1 k))]
 rcases Nat.le_total k n with h|h
 ·rw[Int.min_eq_left (Int.ofNat_le.mpr h),Nat.min_eq_left h,Int.max_eq_right (da1 _)];rfl
 ·rw[Int.min_eq_right (Int.ofNat_le.mpr h),Nat.min_eq_right h,Int.max_eq_right (da1 _)];rfl
theorem aS4{l:List UInt8}{lo hi:Option Int}(hz:l.length<=16777216):PuS X n (.bytes l) lo hi (.bytes (F2 l lo hi)):=λF A s φ ω st Qr Er r a u v hA hI hr hs hu hv hQ=>by
 refine hr.bytesE λu1=> ?_
 refine getItem_meets (typeIs_bytes _ _ _) (by decide) FB.slot_bytes_getitem FB.entry_bytes_getitem (FB.args_bytes_getitem_2 _ _) (KBc.meets_slice2 _ _ _ hu hv) ⟨hs,cV5 (KBc.size_picked_le _ _ _) (by rw[df4];simpa using hz),λt k=> ?_⟩
 rw[KBc.picked_eq]
 exact hQ _ _ φ (hI.toks _) (PM.le.refl _) (by simpa[F2]using .bytes)
set_option tactic.hygienic true in
theorem bq3{l:List V}{lo hi:Option Int}(hz:l.length<=sizeLine):PuS X n (.lst l) lo hi (.lst (F2 l lo hi)):=λF A s φ ω st Qr Er r a u v hA hI hr hs hu hv hQ=>by
 cases hr with|lst ha hw=>
 rename_i c vs k
 refine wpAny_getItem_list_slice (v7 hI.S ha) hs hu hv .none (by simp) ?_ (by simpa[hw.len]using hz)
 have e:slicePick vs.toArray lo hi none=(F2 vs lo hi).toArray:=by
  unfold slicePick F2
  rw[sliceBounds_plain]
  simp only[sliceRange_one,pick_run]
  simp
 rw[e]
 have P:=hI.push (j0 (F2 vs lo hi) 0) s.toks
 exact hQ _ _ _ P.1 P.2.1 (.lst P.2.2 (RVs.mono P.2.1 (by unfold F2;rw[hw.len];exact(hw.drop _).take _)))
end
section
variable {X:Cx} {F:Frm} {n:Nat} {st:St} {R:List UInt8->Prop} {α β γ δ:Type}
noncomputable def SlI(X:Cx)(F:Frm)(φ ω₀ ω:PM)(r:Value):Sl->Prop
 | .un=>True
 | .val v=>RV X φ v r
 | .me=>r= .ref F.lx
 | .own a l=>r= .ref a/\ω₀ a=none/\∃vs k,ω a=some (j0 vs k)/\RVs X φ l vs
theorem FvR.own{φ ω ω':PM}(hω:∀b l,ω b=some (z5 l)->ω' b=some (z5 l)){f:Fv}{r:Value}(x:FvR X φ ω f r):FvR X φ ω' f r:=by
 cases f with
 |val v=>exact x
 |buf l=>exact db3 x λc e=>⟨c,e.1,hω _ _ e.2⟩
theorem EsR.own{φ ω ω':PM}(h:∀b l,ω b=some (z5 l)->ω' b=some (z5 l)){fs:List (String×Fv)}{m:Str->Option Value}(x:EsR X φ ω fs m):EsR X φ ω' fs m:=by
 induction x with
 |nil=>exact .nil
 |cons e a _ ih=>exact .cons e (a.own h) ih
theorem Inv.store{φ ω₀ ω:PM}{s:Shared}(I:Inv X F φ ω₀ st s)(S:Sep X φ F.ψ ω s)(hle:ω₀.le ω)(O:FOk F)(i:Nat){x:Str}(hx:F.nm[i]? =some x){r:Value}(sl:Sl)(hsl:SlI X F φ ω₀ ω r sl)
 {A:Around} {Q:Unit->Shared->Prop} {E:Value->Shared->Prop} (h:∀h' ω',Inv X F φ ω' {st with loc:=st.loc.set i sl} {s with heap:=h',toks:=s.toks+1}->Q () {s with heap:=h',toks:=s.toks+1}):
 wpAny X.M A (storeName F.env x r) Q E s:=by
 obtain⟨m,oL,d,h1,h1a,h1b,h2,h3,h3b,h4,h5,h6⟩:=I.ex
 refine wpAny_storeName_local (m:=m) (O.loc x (cW1 hx)) h2 (λh' hn hs=> ?_) (by show(F.scope.kind== .class|| (F.scope.kind== .module&&F.L != cW5))=false;rw[O.kind];rfl)
 obtain⟨o',es,ep,ho',hd',hk',hf'⟩:=id hn
 have S':=S.change (hle _ _ h1) hs ho' (t:=s.toks+1)
 have hself:(ω.set F.L o') F.L=some o':=by unfold PM.set;rw[if_pos rfl]
 refine h h' (ω.set F.L o') ⟨S',⟨(λy=>if y=x then some r else m y),o',d,hself,(λvs k e=>by rw[hd']at e;exact nomatch e),(λl e=>by rw[e]at hd';exact nomatch hd'),hn,(λj y sl' hj hsl'=> ?_),(λj a l hj=> ?_),(λj k a b l l' hj hk hne=> ?_),h5, ?_⟩,I.out,I.new⟩
 ·try dsimp only
  rw[db0]at hsl'
  by_cases e:i=j
  ·subst e
   rw[if_pos rfl]at hsl'
   split at hsl'
   ·cases hsl'
    have:y=x:=by rw[hx]at hj;cases hj;rfl
    subst this
    cases sl with
    |un=>trivial
    |val v=>exact⟨r,by simp,hsl⟩
    |me=>show(if _ then _ else _)=_;simp;exact hsl
    |own a l=>
     show(if _ then _ else _)=_
     simp[hsl.1]
   ·exact nomatch hsl'
  ·rw[if_neg e]at hsl'
   have g:=h3 j y sl' hj hsl'
   have hxy:y≠x:=by
    intro e'
    subst e'
    have h1:=cX6.mp hx
    have h2:=cX6.mp hj
    exact e ((List.getElem_inj O.nodup).mp (h1.2.trans h2.2.symm))
   cases sl' with
   |un=>trivial
   |val v=>obtain⟨q,g1,g2⟩:=g;exact⟨q,by dsimp only;rw[if_neg hxy];exact g1,g2⟩
   |me=>show(if _ then _ else _)=_;rw[if_neg hxy];exact g
   |own a l=>
    show(if _ then _ else _)=_
    rw[if_neg hxy];exact g
 ·try dsimp only
  rw[db0]at hj
  have key:∀b vs k,ω b=some (j0 vs k)->(ω.set F.L o') b=some (j0 vs k):=by
   intro b vs k e
   unfold PM.set
   rw[if_neg]
   ·exact e
   ·intro e';rw[e',hle _ _ h1]at e;cases e;exact h1a _ _ rfl
  by_cases e:i=j
  ·subst e
   rw[if_pos rfl]at hj
   split at hj
   ·cases hj
    obtain⟨e1,e2,vs,k,e3,e4⟩:=hsl
    exact⟨vs,k,key _ _ _ e3,e4⟩
   ·exact nomatch hj
  ·rw[if_neg e]at hj
   obtain⟨vs,k,g2,g3⟩:=h3b j a l hj
   exact⟨vs,k,key _ _ _ (hle _ _ g2),g3⟩
 ·try dsimp only
  rw[db0]at hj hk
  have key:∀(j:Nat) b l,j≠i->st.loc[j]? =some (.own b l)->∀c l',sl= .own c l'->c≠b:=by
   intro j1 b₁ l₁ hji hj1 c l' e
   subst e
   obtain⟨e1,e2,_⟩:=hsl
   intro e'
   obtain⟨vs,k,g,_⟩:=h3b j1 b₁ l₁ hj1
   rw[←e',e2]at g;exact nomatch g
  by_cases e:i=j
  ·subst e
   rw[if_neg hne]at hk
   rw[if_pos rfl]at hj
   split at hj
   ·cases hj
    exact key k b l' (λe=>hne e.symm) hk _ _ rfl
   ·exact nomatch hj
  ·rw[if_neg e]at hj
   by_cases e':i=k
   ·subst e'
    rw[if_pos rfl]at hk
    split at hk
    ·cases hk
     exact λe'=>key j a l (λe'=>e e'.symm) hj _ _ rfl e'.symm
    ·exact nomatch hk
   ·rw[if_neg e']at hk
    exact h4 j k a b l l' hj hk hne
 ·show MeR X F.lx F.C φ _ st.me d
  cases hm:st.me with
  |none=>trivial
  |some fs=>
   rw[hm]at h6
   obtain⟨g1,o₂,m₂,g2,g2',g3,g4⟩:=h6
   refine⟨g1,o₂,m₂, ?_,g2',g3.own λb l hb=> ?_,g4⟩
   ·unfold PM.set
    rw[if_neg (λe=>h5 (by rw[hm];simp) e.symm)]
    exact hle _ _ g2
   ·unfold PM.set
    rw[if_neg]
    ·exact hle _ _ hb
    ·intro e;rw[e,h1]at hb;cases hb;exact h1b _ rfl
end
section
variable {X:Cx} {F:Frm} {n:Nat} {st:St} {R:List UInt8->Prop} {α β γ δ:Type}
noncomputable abbrev Nx(K:St->Prop)(Q:Fl->St->Prop):Fl->St->Prop
 | .next,st=>K st
 | .brk,st=>Q .brk st
 | .cont,st=>Q .cont st
 | .ret v,st=>Q (.ret v) st
 | .retMe,st=>Q .retMe st
set_option tactic.hygienic true in
theorem ah9{Q:Fl->St->Prop}(h:Q .next st):J7 X F n [] st Q R:=λA s φ ω Qr Er hA hI hQ hE=>i9 <| wpAny_execs_nil (hQ _ _ _ _ _ _ h hI (PM.le.refl _) rfl)
set_option tactic.hygienic true in
theorem t4{c cs}{Q:Fl->St->Prop}(h:Ex X F n c st (Nx (λst1=>J7 X F n cs st1 Q R) Q) R):J7 X F n (c::cs) st Q R:=
 λA s φ ω Qr Er hA hI hQ hE=>l7 (h A s φ ω _ Er hA hI (λf st1 r₁ s₁ φ1 ω₁ hq hI1 hl1 hv=>by
  cases f with
  |next=>subst hv;exact hq A s₁ φ1 ω₁ Qr Er hA hI1 (λv' st2 r₂ s₂ φ2 ω₂ hq2 hI2 hl₂ hv₂=>hQ _ _ _ _ _ _ hq2 hI2 (hl1.trans hl₂) hv₂) hE
  |brk=>subst hv;exact hQ _ _ _ _ _ _ hq hI1 hl1 rfl
  |cont=>subst hv;exact hQ _ _ _ _ _ _ hq hI1 hl1 rfl
  |ret v=>obtain⟨r,rfl,hr⟩:=hv;exact hQ _ _ _ _ _ _ hq hI1 hl1 ⟨r,rfl,hr⟩
  |retMe=>subst hv;exact hQ _ _ _ _ _ _ hq hI1 hl1 rfl) hE)
set_option tactic.hygienic true in
theorem bi1{pos}{Q:Fl->St->Prop}(h:Q .next st):Ex X F n (.Pass pos) st Q R:=λA s φ ω Qr Er hA hI hQ hE=>i9 <| wpAny_Pass (hQ _ _ _ _ _ _ h hI (PM.le.refl _) rfl)
theorem aK7{pos}{Q:Fl->St->Prop}(h:Q .brk st):Ex X F n (.Break pos) st Q R:=λA s φ ω Qr Er hA hI hQ hE=>i9 <| wpAny_Break (hQ _ _ _ _ _ _ h hI (PM.le.refl _) rfl)
theorem cE8{t a b pos}{Q:Fl->St->Prop}(h:Tst X F n t st (λc st1=>(c=true->J7 X F n a st1 Q R)/\(c=false->J7 X F n b st1 Q R)) R):Ex X F n (.If t a b pos) st Q R:=
 λA s φ ω Qr Er hA hI hQ hE=>cd2 (h A s φ ω _ Er hA hI (λc st1 r₁ s₁ φ1 ω₁ hq hI1 hl1 hv=>by
  subst hv
  cases c with
  |true=>exact hq.1 rfl A s₁ φ1 ω₁ Qr Er hA hI1 (λv' st2 r₂ s₂ φ2 ω₂ hq2 hI2 hl₂ hv₂=>hQ _ _ _ _ _ _ hq2 hI2 (hl1.trans hl₂) hv₂) hE
  |false=>exact hq.2 rfl A s₁ φ1 ω₁ Qr Er hA hI1 (λv' st2 r₂ s₂ φ2 ω₂ hq2 hI2 hl₂ hv₂=>hQ _ _ _ _ _ _ hq2 hI2 (hl1.trans hl₂) hv₂) hE) hE)
theorem cf2{e pos}{Q:Fl->St->Prop}(h:Ev X F n e st (λv=>Q (.ret v)) R):Ex X F n (.Return (some e) pos) st Q R:=
 λA s φ ω Qr Er hA hI hQ hE=>C1 (h A s φ ω _ Er hA hI (λv st1 r₁ s₁ φ1 ω₁ hq hI1 hl1 hv=>hQ _ _ _ _ _ _ hq hI1 hl1 ⟨r₁,rfl,hv⟩) hE)
theorem bl1{pos}{Q:Fl->St->Prop}(h:Q (.ret .none) st):Ex X F n (.Return none pos) st Q R:=
 λA s φ ω Qr Er hA hI hQ hE=>i9 <| wpAny_Return_none (hQ _ _ _ _ _ _ h hI (PM.le.refl _) ⟨_,rfl, .none⟩)
theorem bg8{e pos}{Q:Fl->St->Prop}(h:Ev X F n e st (λH=>Q .next) R)(O:FOk F)(hs:dd3 e none pos.line F.env=pure false:=by rfl):Ex X F n (.Expr e pos) st Q R:=
 λA s φ ω Qr Er hA hI hQ hE=>Q6 (h A s φ ω _ Er hA hI (λv st1 r₁ s₁ φ1 ω₁ hq hI1 hl1 hv=>hQ _ _ _ _ _ _ hq hI1 hl1 rfl) hE) (by unfold interactive;show(F.scope.kind== .module&&_)=false;rw[O.kind];rfl) hs
theorem bS4(i:Nat){x:Str}{p' e pos}{Q:Fl->St->Prop}(O:FOk F)(hx:F.nm[i]? =some x)(h:Ev X F n e st (λv st1=>Q .next {st1 with loc:=st1.loc.set i (.val v)}) R)(hs:dd3 e (some (.Name x p')) pos.line F.env=pure false:=by rfl):Ex X F n (.Assign [.Name x p'] e pos) st Q R:=
 λA s φ ω Qr Er hA hI hQ hE=>t8 (h A s φ ω _ Er hA hI (λv st1 r₁ s₁ φ1 ω₁ hq hI1 hl1 hv=>
  hI1.store hI1.S (PM.le.refl _) O i hx (.val v) hv λh' ω' I'=>hQ _ _ _ _ _ _ hq I' hl1 rfl) hE) hs
theorem bZ3(i:Nat){x:Str}{p' e pos op}{v₀:V}{Q:Fl->St->Prop}(O:FOk F)(hx:F.nm[i]? =some x)(hl:st.loc[i]? =some (.val v₀))(h:Ev X F n e st (λv st1=>∃w,Pu2 X n (inplaceOp op) v₀ v w/\Q .next {st1 with loc:=st1.loc.set i (.val w)}) R):Ex X F n (.AugAssign (.Name x p') op e pos) st Q R:=
 λA s φ ω Qr Er hA hI hQ hE=>M7 (by
  obtain⟨m,oL,d,h1,h1a,h1b,h2,h3,h3b,h4,h5⟩:=hI.ex
  obtain⟨r,hr,hv⟩:=h3 i x _ hx hl
  refine cW9 O.kind (O.loc x (cW1 hx)) h2 hr (h A s φ ω _ Er hA hI (λv st1 r₁ s₁ φ1 ω₁ ⟨w,hp,hw⟩ hI1 hl1 hv1=> ?_) hE)
  exact i9 <| hp F A s₁ φ1 ω₁ st1 _ Er _ hA hI1 (.two (hv.mono hl1) hv1) λr₂ s₂ φ2 hI2 hl₂ hr₂=>
   hI2.store hI2.S (PM.le.refl _) O i hx (.val w) hr₂ λh' ω' I'=>hQ _ _ _ _ _ _ hw I' (hl1.trans hl₂) rfl)
theorem aD9{a b:Int}:Pu2 X n (inplaceOp .Add) (.int a) (.int b) (.int (a+b)):=Pu2.ii λA s Q E u u' h=>P.iadd_int (h _ _ .int)
theorem Inv.extBut{φ ω:PM}{s:Shared}{h':Heap}{t:Nat}(I:Inv X F φ ω st s)(he:Heap.ExtBut s.heap.objs.size s.heap h'):Inv X F φ ω st {s with heap:=h',toks:=t}:=
 I.junk (λa o e=>he a o (da3 (cY9 e)) e) rfl rfl
noncomputable def A4(st:St):List (Nat×V)->St
 | []=>st
 |(i,v)::l=>A4 {st with loc:=st.loc.set i (.val v)} l
inductive Tg(X:Cx)(F:Frm):List (Value->Sem Unit)->List Nat->Prop
 |nil:Tg X F [] []
 |cons {t ts i is x}:F.nm[i]? =some x->(∀r Q E A s,wpAny X.M A (storeName F.env x r) Q E s->wpAny X.M A (t r) Q E s)->Tg X F ts is->Tg X F (t::ts) (i::is)
theorem aj6(O:FOk F){ts:List (Value->Sem Unit)}{is:List Nat}(T:Tg X F ts is):∀ {vs:List V} {rs:List Value} {st:St} {s:Shared} {φ ω:PM} {A:Around} {Q:Unit->Shared->Prop} {E:Value->Shared->Prop},
 vs.length=is.length->RVs X φ vs rs->Inv X F φ ω st s->
 (∀s' ω',Inv X F φ ω' (A4 st (is.zip vs)) s'->Q () s')->wpAny X.M A (assignInOrder ts rs) Q E s:=by
 induction T with
 |nil=>intro vs rs st s φ ω A Q E hl hv hI hQ;cases hv with
  |nil=>exact cW4 (hQ s ω hI)
  |cons a b=>simp at hl
 |cons hx ht T ih=>
  intro vs rs st s φ ω A Q E hl hv hI hQ
  cases hv with
  |nil=>simp at hl
  |cons a b=>
   refine cV4 (da9 (ht _ _ _ _ _ ?_))
   exact hI.store hI.S (PM.le.refl _) O _ hx (.val _) a λh' ω' I'=>ih (by simpa using hl) b I' hQ
end
section
variable {X:Cx} {F:Frm} {n:Nat} {st:St} {R:List UInt8->Prop} {α β γ δ:Type}
structure ExNo(X:Cx)(ψ:PM)(L:Addr)(s:Shared)(x:Addr)(msg:List UInt8):Prop where
 base:∀a o,X.H₀.get? a=some o->s.heap.get? a=some o
 psi:∀a o,ψ a=some o->(∀vs,o.data≠ .fields vs)->∃sl,s.heap.get? a=some {o with slots:=sl}
 own:X.H₀.get? L=none/\∃o,s.heap.get? L=some o/\∀vs,o.data≠ .fields vs
 exc:∃oe vs dx od es n t,cp5 X s.heap x msg (λvs=>∃T oT ts,vs[1]? =some (.ref T)/\X.H₀.get? T=none/\T≠x/\s.heap.get? T=some oT/\oT.data= .fields ts/\ts[3]? =some (rawInt L)) oe vs dx od es n t
 os:s.os=X.os
 gens:s.gens= #[]
theorem ExNo.ex{ψ:PM}{L:Addr}{s:Shared}{x:Addr}{msg}(h:ExNo X ψ L s x msg):ExIn X ψ L s x msg:=by
 obtain⟨oe,vs,dx,od,es,n,t,a1,a2,a3,a4,a5,a6,a7,a8,a9,T,oT,ts,b1,b2,b3,b4,b5,b6⟩:=h.exc
 exact⟨h.base,h.psi,h.own,⟨oe,vs,dx,od,es,n,t,a1,a2,a3,a4,a5,a6,a7,a8,a9, .inr ⟨T,oT,ts,b1,b2,b3,b4,b5, .inr b6⟩⟩,h.os,h.gens⟩
theorem aw5{ψ:PM}{L:Addr}{s:Shared}{x:Addr}{msg}{env:Env}{outer:List Env}(h:ExIn X ψ L s x msg)(hk:env.scope.kind= .function)(hf:env.frame=some L)(ho:Outer X ψ outer):s.heap.FunFrames X.H₀ (env::outer):=by
 refine⟨by rw[hk];decide,⟨L, ?_⟩, ?_⟩
 ·obtain⟨h1,o,h2,h3⟩:=h.own
  exact⟨o,hf,h1,h2,h3⟩
 ·clear hf hk
  induction outer with
  |nil=>trivial
  |cons e r ih=>
   obtain⟨k1,L',o,k2,k3,k4,k5⟩:=ho e (cX5 ..)
   obtain⟨sl,k6⟩:=h.psi L' o k4 k5
   exact⟨k1,⟨L',_,k2,k3,k6,k5⟩,ih λe' he=>ho e' (cZ2 _ he)⟩
theorem V1{A:Around}{s:Shared}{env:Env}{outer:List Env}{L e:Addr}{base:Heap}{oe:Obj}{vs:Array Value}{head:Value}{hadNext:Bool}{Q:Unit->Shared->Prop}{E:Value->Shared->Prop}
 (hfr:A.frames=some (env::outer)) (hl:s.heap.FunFrames base (env::outer)) (hf:env.frame=some L)
 (he:s.heap.get? e=some oe) (hkb:base.StaysIn s.heap) (hen:base.get? e=none) (hd:oe.data= .fields vs) (hsz:1 < vs.size)
 (h:∀h' T oT ts,base.StaysIn h'->(∀b o,s.heap.get? b=some o->(∀vs,o.data≠ .fields vs)->∃sl,h'.get? b=some {o with slots:=sl})->
  h'.get? e=some (dh9 (·.setIfInBounds 1 (.ref T)) oe)->T≠e->base.get? T=none->h'.get? T=some oT->oT.data= .fields ts->ts[3]? =some (rawInt L)->Q () {s with heap:=h'}):
 wpAny X.M A (do let a ←frameOf env;let pl ←entryPlaceOf L hadNext;let b ←EntryCells.newEntry head a .none (rawInt L) .none pl;setField (.ref e) 1 b) Q E s:=by
 have hene:e∉ (env::outer).filterMap (·.frame):=λhm=>by
  obtain⟨_,o,ho,hnf⟩:=hl.mem hm
  rw[he]at ho;injection ho with ho;subst ho;exact hnf vs hd
 refine cV4 (wpAny_frameOf_fun hfr hl hf λh₁ hs1=> ?_)
 refine cV4 (wpAny_entryPlaceOf λpl hpl=> ?_)
 refine cV4 (wpAny_newObj_type ?_ (hpl.sizeOk5 _ _ _ _ _))
 have he1:h₁.get? e=some oe:=(hs1.2.1 e hene).trans he
 have kb₁:base.StaysIn h₁:=λb o hbo=>(hs1.2.1 b λhm=>by rw[(hl.mem hm).1]at hbo;exact nomatch hbo).trans (hkb b o hbo)
 have he2:=cV6 (h:=h₁) {cls:= .type "traceback",dict:=none,data:= .fields ([head, .ref L, .none,rawInt L, .none]++(if pl.isEmpty then db4 6 dh1 else pl)).toArray} he1
 refine wpAny_setField he2 hd hsz ?_
 have hTe:h₁.objs.size≠e:=Nat.ne_of_gt (cY9 he1)
 have hd3:=Obj.data_mapFields hd (·.setIfInBounds 1 (df2 h₁.objs.size))
 have he3:=da8 (dh9 (·.setIfInBounds 1 (df2 h₁.objs.size))) he2 (Obj.isFreed_of_fields hd3)
 have hT3:=(dc4 (h₁.push {cls:= .type "traceback",dict:=none,data:= .fields ([head, .ref L, .none,rawInt L, .none]++(if pl.isEmpty then db4 6 dh1 else pl)).toArray})
  (dh9 (·.setIfInBounds 1 (df2 h₁.objs.size))) (Ne.symm hTe)).trans (cX3 h₁ rfl)
 have keep:∀b o,b≠e->h₁.get? b=some o->
  ((h₁.push {cls:= .type "traceback",dict:=none,data:= .fields ([head, .ref L, .none,rawInt L, .none]++(if pl.isEmpty then db4 6 dh1 else pl)).toArray}).update e (dh9 (·.setIfInBounds 1 (df2 h₁.objs.size)))).get? b=some o:=λb o hbe hb=>by
  rw[dc4 _ _ (Ne.symm hbe)]
  exact cV6 _ hb
 have noRecord:∀b o,s.heap.get? b=some o->(∀vs,o.data≠ .fields vs)->b≠e:=λb o hb hnf q=>by
  rw[q,he]at hb;injection hb with hb;subst hb;exact hnf vs hd
 refine h _ h₁.objs.size _ _ (λb o hbo=>keep b o (λq=>by rw[q,hen]at hbo;exact nomatch hbo) (kb₁ b o hbo)) (λb o hb hnf=> ?_) he3 hTe kb₁.fresh hT3 rfl (by first|(simp;done)|(rcases hpl with rfl|⟨_,_,_,_,_,_,_,rfl⟩<;>simp))
 obtain⟨sl,hs⟩:=hs1.2.2 b o hb
 exact⟨sl,keep b _ (noRecord b o hb hnf) hs⟩
theorem ExIn.note{ψ:PM}{L:Addr}{s:Shared}{x:Addr}{msg}{env:Env}{outer:List Env}{A:Around}{Q:Unit->Shared->Prop}{E:Value->Shared->Prop}(h:ExIn X ψ L s x msg)(hk:env.scope.kind= .function)(hf:env.frame=some L)(ho:Outer X ψ outer)(hfr:A.frames=some (env::outer))
 (hQ:∀s',ExNo X ψ L s' x msg->Q () s'):wpAny X.M A (noteFrame (.ref x) env) Q E s:=by
 have hl:=aw5 h hk hf ho
 obtain⟨oe,vs,dx,od,es,n,t,a1,a2,a3,a4,a5,a6,a7,a8,a9,a10⟩:=h.exc
 obtain⟨ob1,ob,ob2,ob3⟩:=h.own
 have fin:∀(s₁:Shared),s₁.os=s.os->s₁.gens=s.gens->s₁.heap.get? x=some oe->(∀b o,s.heap.get? b=some o->(∀vs,o.data≠ .fields vs)->s₁.heap.get? b=some o)->X.H₀.StaysIn s₁.heap->1 < vs.size->s₁.heap.FunFrames X.H₀ (env::outer)->∀head hadNext,
  wpAny X.M A (do let a ←frameOf env;let pl ←entryPlaceOf L hadNext;let b ←EntryCells.newEntry head a .none (rawInt L) .none pl;setField (.ref x) 1 b) Q E s₁:=by
  intro s₁ e1 e2 e3 e4 e5 e6 e7 head hadNext
  refine V1 hfr e7 hf e3 e5 a5 a3 e6 λh' T oT ts k1 k2 k3 k4 k5 k6 k7 k8=>hQ _ ⟨k1,λa o g1 g2=> ?_,⟨ob1, ?_⟩, ?_,e1.trans h.os,e2.trans h.gens⟩
  ·obtain⟨sl,g3⟩:=h.psi a o g1 g2
   obtain⟨sl',g4⟩:=k2 a _ (e4 a _ g3 g2) g2
   exact⟨sl',g4⟩
  ·obtain⟨sl,g⟩:=k2 L ob (e4 L ob ob2 ob3) ob3
   exact⟨_,g,ob3⟩
  ·have hnd:∀vs,od.data≠ .fields vs:=λvs e=>by rw[a7]at e;exact nomatch e
   obtain⟨sl,g⟩:=k2 dx od (e4 dx od a6 hnd) hnd
   exact⟨_,_,dx,_,es,n,t,k3,(Obj.cls_mapFields _ _).trans a2,Obj.data_mapFields a3 _,by rw[←a4];unfold dh9;split<;>rfl,a5,g,a7,a8,a9,T,oT,ts,by simp[e6],k5,k4,k6,k7,k8⟩
 unfold noteFrame
 simp only[hf]
 rcases a10 with b1|⟨T,oT,ts,b1,b2,b3,b4,b5,b6⟩
 ·refine cV4 (dc6 a1 a3 b1 ?_)
  rw[if_neg (by decide)]
  exact fin s rfl rfl a1 (λH H e H=>e) h.base (dc1.mp b1).1 hl _ _
 ·refine cV4 (dc6 a1 a3 b1 ?_)
  rw[if_pos (show(df2 T != dh1)=true from by simp)]
  rcases b6 with b6|b6
  ·refine cV4 (dc6 b4 b5 b6 ?_)
   rw[if_neg (show ¬ ((dh1==rawInt L)=true)from by simp[rawInt])]
   refine cV4 (wpAny_setField b4 b5 (dc1.mp b6).1 ?_)
   have other:∀b,b≠T->(s.heap.update T (dh9 (·.setIfInBounds 3 dh1))).get? b=s.heap.get? b:=λb hb=>dc4 _ _ (Ne.symm hb)
   have noRecord:∀b o,s.heap.get? b=some o->(∀vs,o.data≠ .fields vs)->b≠T:=λb o hb hnf q=>by
    rw[q,b4]at hb;injection hb with hb;subst hb;exact hnf ts b5
   exact fin {s with heap:=s.heap.update T (dh9 (·.setIfInBounds 3 dh1))} rfl rfl ((other x (Ne.symm b3)).trans a1) (λb o e1 e2=>(other b (noRecord b o e1 e2)).trans e1) (λb o hbo=>(other b λq=>by rw[q,b2]at hbo;exact nomatch hbo).trans (h.base b o hbo)) (dc1.mp b1).1
    (hl.of_keeps λb o hb hnf=>⟨o,(other b (noRecord b o hb hnf)).trans hb,rfl⟩) _ _
  ·refine cV4 (dc6 b4 b5 b6 ?_)
   rw[if_pos (show(rawInt L==rawInt L)=true from by simp)]
   exact cW4 (hQ s ⟨h.base,h.psi,h.own,⟨oe,vs,dx,od,es,n,t,a1,a2,a3,a4,a5,a6,a7,a8,a9,T,oT,ts,b1,b2,b3,b4,b5,b6⟩,h.os,h.gens⟩)
theorem ExIn.flight{ψ:PM}{L:Addr}{s:Shared}{x:Addr}{msg}{A:Around}{Q:Unit->Shared->Prop}{E:Value->Shared->Prop}(h:ExIn X ψ L s x msg)(f:Option Addr)(L':Addr)(hL:f=none∨f=some L')
 (hown:X.H₀.get? L'=none/\((∃o,ψ L'=some o/\∀vs,o.data≠ .fields vs)∨L'=L))
 (hQ:∀s',ExIn X ψ L' s' x msg->Q () s'):wpAny X.M A (setFlight (.ref x) f) Q E s:=by
 obtain⟨oe,vs,dx,od,es,n,t,a1,a2,a3,a4,a5,a6,a7,a8,a9,a10⟩:=h.exc
 have ow:∀s':Shared,(∀(a:Addr) (o:Obj),s.heap.get? a=some o->(∀vs,o.data≠ .fields vs)->s'.heap.get? a=some o)->X.H₀.get? L'=none/\∃o,s'.heap.get? L'=some o/\∀vs,o.data≠ .fields vs:=λs' k=>⟨hown.1,hown.2.elim (λ⟨o,g1,g2⟩=>let⟨sl,g3⟩:=h.psi L' o g1 g2;⟨_,k _ _ g3 g2,g2⟩) λe=>let⟨_,o,g1,g2⟩:=h.own;⟨o,k _ _ (e▸g1) g2,g2⟩⟩
 rcases a10 with b1|⟨T,oT,ts,b1,b2,b3,b4,b5,b6⟩
 ·refine cV4 (dc6 a1 a3 b1 ?_)
  exact cW4 (hQ s ⟨h.base,h.psi,ow s λH H e H=>e,⟨oe,vs,dx,od,es,n,t,a1,a2,a3,a4,a5,a6,a7,a8,a9, .inl b1⟩,h.os,h.gens⟩)
 refine cV4 (dc6 a1 a3 b1 ?_)
 rw[if_pos (show(df2 T != dh1)=true from by simp)]
 have hz:3 < ts.size:=b6.elim (λe=>(dc1.mp e).1) λe=>(dc1.mp e).1
 refine wpAny_setField b4 b5 hz ?_
 have other:∀g b,b≠T->(s.heap.update T g).get? b=s.heap.get? b:=λg b hb=>dc4 _ _ (Ne.symm hb)
 have noRecord:∀b o,s.heap.get? b=some o->(∀vs,o.data≠ .fields vs)->b≠T:=λb o hb hnf q=>by
  rw[q,b4]at hb;injection hb with hb;subst hb;exact hnf ts b5
 have hd3:=Obj.data_mapFields b5 (·.setIfInBounds 3 (f.elim dh1 λf=>rawInt f))
 have hnd:∀vs,od.data≠ .fields vs:=λvs e=>by rw[a7]at e;exact nomatch e
 refine hQ _ ⟨λb o hbo=>(other _ b λq=>by rw[q,b2]at hbo;exact nomatch hbo).trans (h.base b o hbo),λa o g1 g2=>let⟨sl,g3⟩:=h.psi a o g1 g2;⟨sl,(other _ a (noRecord a _ g3 g2)).trans g3⟩,ow _ λa o e k=>(other _ _ (noRecord a o e k)).trans e,
  ⟨oe,vs,dx,od,es,n,t,(other _ x (Ne.symm b3)).trans a1,a2,a3,a4,a5,(other _ dx (noRecord dx od a6 hnd)).trans a6,a7,a8,a9, .inr ⟨T,_,_,b1,b2,b3,da8 _ b4 (Obj.isFreed_of_fields hd3),hd3, ?_⟩⟩,h.os,h.gens⟩
 rcases hL with rfl|rfl
 ·exact .inl (by simp[hz])
 ·exact .inr (by simp[hz])
theorem ExIn.loop{ψ:PM}{L:Addr}{s:Shared}{x:Addr}{msg}{env:Env}{outer:List Env}{A:Around}{Er:Value->Shared->Prop}(h:ExIn X ψ L s x msg)(hk:env.scope.kind= .function)(hf:env.frame=some L)(ho:Outer X ψ outer)(hfr:A.frames=some (env::outer))
 (hE:∀s',ExIn X ψ L s' x msg->Er (.ref x) s'):notedBy X.M A env (λe s'=>cameBackBy X.M A env Er e s') (.ref x) s:=
 h.note hk hf ho hfr λs' h'=>by
  obtain⟨oe,vs,dx,od,es,n,t,a1,a2,a3,a4,a5,a6,a7,a8,a9,T,oT,ts,b1,b2,b3,b4,b5,b6⟩:=h'.exc
  refine cV4 (dc6 a1 a3 b1 ?_)
  rw[if_neg (by simp)]
  exact h'.ex.flight _ L (.inr hf) ⟨h'.own.1, .inr rfl⟩ hE
theorem ExIn.leave{ψ:PM}{L L':Addr}{s:Shared}{x:Addr}{msg}{env:Env}{outer:List Env}{A:Around}{Q:Unit->Shared->Prop}{E:Value->Shared->Prop}(h:ExIn X ψ L s x msg)(hk:env.scope.kind= .function)(hf:env.frame=some L)(ho:Outer X ψ outer)(hfr:A.frames=some (env::outer))
 (hL:X.H₀.get? L'=none/\∃o,ψ L'=some o/\∀vs,o.data≠ .fields vs) (hQ:∀s',ExIn X ψ L' s' x msg->Q () s'):wpAny X.M A (leaving env (.ref x)) Q E s:=by
 exact cV4 (h.note hk hf ho hfr λs' h'=>h'.ex.flight none L' (.inl rfl) ⟨hL.1, .inl hL.2⟩ hQ)
theorem ExIn.weak{ψ ψ':PM}{L:Addr}{s:Shared}{x:Addr}{msg}(h:ExIn X ψ' L s x msg)(hl:ψ.le ψ'):ExIn X ψ L s x msg:=⟨h.base,λa o e=>h.psi a o (hl a o e),h.own,h.exc,h.os,h.gens⟩
end
section
variable {X:Cx} {F:Frm} {n:Nat} {st:St} {R:List UInt8->Prop} {α β γ δ:Type}
theorem KE.noted{φ ω:PM}{s:Shared}{A:Around}{Er:Value->Shared->Prop}(O:FOk F)(hA:Rm (F.env::F.outer) A n)(out:Outer X F.ψ F.outer)(hE:KE X F R Er):KE X F R (notedBy X.M A F.env (λe s'=>cameBackBy X.M A F.env Er e s')):=
 λx s' msg hR hx=>hx.loop O.kind rfl out hA.frames λs'' h=>hE x s'' msg hR h
noncomputable abbrev aq3(J:Nat->St->Prop)(k:Nat)(Q:Fl->St->Prop):Fl->St->Prop
 | .next,st=>∃m,m < k/\J m st
 | .cont,st=>∃m,m < k/\J m st
 | .brk,st=>Q .next st
 | .ret v,st=>Q (.ret v) st
 | .retMe,st=>Q .retMe st
noncomputable abbrev F6(J:Nat->St->Prop)(k:Nat)(Q:Fl->St->Prop):Fl->St->Prop
 | .next,st=>J (k+1) st
 | .cont,st=>J (k+1) st
 | .brk,st=>Q .next st
 | .ret v,st=>Q (.ret v) st
 | .retMe,st=>Q .retMe st
set_option tactic.hygienic true in
theorem bc4{t body pos}{Q:Fl->St->Prop}(O:FOk F)(J:Nat->St->Prop)(k:Nat)(h0:J k st)
 (h:∀k st,J k st->Tst X F n t st (λc st1=>(c=true->J7 X F n body st1 (aq3 J k Q) R)/\(c=false->Q .next st1)) R):Ex X F n (.While t body [] pos) st Q R:=
 λA s φ ω Qr Er hA hI hQ hE=>aF1 (V3 (λk s'=>∃st φ' ω',J k st/\Inv X F φ' ω' st s'/\φ.le φ') (λk s' ⟨st',φ',ω',hJ,hI',hl'⟩=>by
  have hE':=KE.noted (φ:=φ') (ω:=ω') (s:=s') O hA hI.out hE
  refine h k st' hJ A s' φ' ω' _ _ hA hI' (λc st1 r₁ s₁ φ1 ω₁ hq hI1 hl1 hv=> ?_) hE'
  subst hv
  cases c with
  |false=>exact hQ _ _ _ _ _ _ (hq.2 rfl) hI1 (hl'.trans hl1) rfl
  |true=>
   refine hq.1 rfl A s₁ φ1 ω₁ _ _ hA hI1 (λf st2 r₂ s₂ φ2 ω₂ hq2 hI2 hl₂ hv₂=> ?_) hE'
   cases f with
   |next=>subst hv₂;obtain⟨m,hm,hJ'⟩:=hq2;exact⟨m,hm,st2,φ2,ω₂,hJ',hI2,hl'.trans (hl1.trans hl₂)⟩
   |cont=>subst hv₂;obtain⟨m,hm,hJ'⟩:=hq2;exact⟨m,hm,st2,φ2,ω₂,hJ',hI2,hl'.trans (hl1.trans hl₂)⟩
   |brk=>subst hv₂;exact hQ .next _ _ _ _ _ hq2 hI2 (hl'.trans (hl1.trans hl₂)) rfl
   |ret v=>obtain⟨r,rfl,hr⟩:=hv₂;exact hQ (.ret v) _ _ _ _ _ hq2 hI2 (hl'.trans (hl1.trans hl₂)) ⟨r,rfl,hr⟩
   |retMe=>subst hv₂;exact hQ .retMe _ _ _ _ _ hq2 hI2 (hl'.trans (hl1.trans hl₂)) rfl) k ⟨st,φ,ω,h0,hI,PM.le.refl _⟩)
noncomputable def C3(s:Shared)(wr:List Addr):PM:=λa=>if a∈wr then s.heap.get? a else none
set_option tactic.hygienic true in
theorem Sep.hold{φ ψ ω:PM}{s:Shared}(S:Sep X φ ψ ω s)(wr:List Addr)(h:∀a∈wr,φ a=none/\ω a=none):Sep X φ (ψ.or (C3 s wr)) ω s:=by
 refine⟨S.kφ,λa o e=> ?_,S.kω,λa ha=> ?_,S.d2,λa ha=> ?_,S.base,S.os,S.gens⟩
 ·unfold PM.or at e
  cases q:ψ a with
  |some x=>rw[q]at e;cases e;exact S.kψ _ _ q
  |none=>
   rw[q]at e
   unfold C3 at e
   simp only[Option.or]at e
   split at e
   ·exact e
   ·exact nomatch e
 ·unfold PM.or C3
  rw[S.d1 a ha,if_neg (λhm=>ha (h a hm).1)];rfl
 ·unfold PM.or C3 at ha
  cases q:ψ a with
  |some x=>exact S.d3 a (by rw[q];simp)
  |none=>
   rw[q]at ha
   simp only[Option.or]at ha
   split at ha
   ·rename_i hm;exact(h a hm).2
   ·exact absurd rfl ha
theorem Sep.unhold{φ ψ κ ω:PM}{s:Shared}(S:Sep X φ (ψ.or κ) ω s):Sep X φ ψ ω s:=by
 refine⟨S.kφ,λa o e=>S.kψ a o (by unfold PM.or;rw[e];rfl),S.kω,λa ha=> ?_,S.d2,λa ha=>S.d3 a ?_,S.base,S.os,S.gens⟩
 ·have:=S.d1 a ha
  unfold PM.or at this
  cases q:ψ a with
  |some x=>rw[q]at this;exact nomatch this
  |none=>rfl
 ·unfold PM.or
  cases q:ψ a with
  |some x=>simp
  |none=>exact absurd q ha
theorem Sep.heldNone{φ ψ ω:PM}{s s':Shared}{wr:List Addr}(S:Sep X φ (ψ.or (C3 s wr)) ω s')(hs:∀a∈wr,s.heap.get? a≠none):∀a∈wr,φ a=none/\ω a=none:=by
 intro a ha
 have hne:(ψ.or (C3 s wr)) a≠none:=by
  unfold PM.or C3
  rw[if_pos ha]
  cases q:ψ a with
  |some x=>simp
  |none=>simpa using hs a ha
 refine⟨?_,S.d3 a hne⟩
 cases q:φ a with
 |none=>rfl
 |some o=>exact absurd (S.d1 a (by rw[q];simp)) hne
noncomputable abbrev Frm.with(F:Frm)(ψ:PM):Frm:= {F with ψ:=ψ}
theorem FOk.with(O:FOk F)(ψ:PM):FOk (F.with ψ):=⟨O.kind,O.loc,O.nodup⟩
theorem Outer.mono{ψ ψ':PM}{outer:List Env}(h:Outer X ψ outer)(hl:ψ.le ψ'):Outer X ψ' outer:=λe he=>let⟨a,L,o,b,c,d,f⟩:=h e he;⟨a,L,o,b,c,hl _ _ d,f⟩
theorem PM.le_or(ψ κ:PM):ψ.le (ψ.or κ):=λa o e=>by unfold PM.or;rw[e];rfl
theorem Inv.hold{φ ω:PM}{s:Shared}(I:Inv X F φ ω st s)(wr:List Addr)(h:∀a∈wr,φ a=none/\ω a=none):Inv X (F.with (F.ψ.or (C3 s wr))) φ ω st s:=
 ⟨I.S.hold wr h,I.ex,I.out.mono (PM.le_or _ _),I.new⟩
theorem Inv.unhold{φ ω κ:PM}{s:Shared}{ψ:PM}(I:Inv X (F.with (ψ.or κ)) φ ω st s)(out:Outer X ψ F.outer):Inv X (F.with ψ) φ ω st s:=
 ⟨I.S.unhold,I.ex,out,I.new⟩
theorem Inv.wr{φ ω:PM}{s:Shared}{h':Heap}{t:Nat}(I:Inv X F φ ω st s){wr:List Addr}(h:∀a∈wr,φ a=none/\ω a=none/\F.ψ a=none)(hk:∀b o,b∉wr->s.heap.get? b=some o->h'.get? b=some o):Inv X F φ ω st {s with heap:=h',toks:=t}:=
 I.more ⟨λa o e=>hk a o (λhm=>by rw[(h a hm).1]at e;exact nomatch e) (I.S.kφ a o e),λa o e=>hk a o (λhm=>by rw[(h a hm).2.2]at e;exact nomatch e) (I.S.kψ a o e),λa o e=>hk a o (λhm=>by rw[(h a hm).2.1]at e;exact nomatch e) (I.S.kω a o e),I.S.d1,I.S.d2,I.S.d3,I.S.base,I.S.os,I.S.gens⟩ (PM.le.refl _)
noncomputable def ItR(X:Cx)(n:Nat)(v:V)(items:List V):Prop:=∀F A s φ ω st Qr Er r,Rm (F.env::F.outer) A n->Inv X F φ ω st s->RV X φ v r->
 (∀I fp wr P St s',Inv X F φ ω st s'->Walks pw X.w A I fp wr items.length P St->St 0 s'.heap->(∀a∈fp,a∈wr∨∃o,φ a=some o)->(∀a∈wr,φ a=none/\ω a=none/\F.ψ a=none)->
  (∀i h,St i h->∀a∈wr,h.get? a≠none)->(∀i v',P i v'->∃w,items[i]? =some w/\RV X φ w v')->Qr (.ref I) s')->wpAny X.M A (pyIter r) Qr Er s
set_option tactic.hygienic true in
theorem bR4(i:Nat){x px iter body pos}{Q:Fl->St->Prop}(O:FOk F)(hx:F.nm[i]? =some x)
 (h:Ev X F n iter st (λv st1=>∃(items:List V) (J:Nat->St->Prop),ItR X n v items/\J 0 st1/\
  (∀k w ψ' st,items[k]? =some w->J k st->J7 X (F.with ψ') n body {st with loc:=st.loc.set i (.val w)} (F6 J k Q) R)/\(∀st,J items.length st->Q .next st)) R) (hs:∀x,foldedSetIterable iter F.env x=pure x:=by intro _;rfl):
 Ex X F n (.For (.Name x px) iter body [] pos) st Q R:=
 λA s φ ω Qr Er hA hI hQ hE=>W3 (h A s φ ω _ Er hA hI (λv st1 r₁ s₁ φ1 ω₁ hq hI1 hl1 hv=>by
  obtain⟨items,J,hit,hJ,hb,hd⟩:=hq
  refine i9 <| hit F A s₁ φ1 ω₁ st1 _ Er r₁ hA hI1 hv λI fp wr P St s₂ hI2 W hSt hfp hwr hlive hP=> ?_
  refine M0 (λk s'=>∃j st φ' ω',k=items.length - j/\j<=items.length/\J j st/\Inv X F φ' ω' st s'/\φ1.le φ'/\St j s'.heap/\∀a∈wr,φ' a=none/\ω' a=none) ?_ items.length
   ⟨0,st1,φ1,ω₁,rfl,cY8 _,hJ,hI2,PM.le.refl _,hSt,λa ha=>⟨(hwr a ha).1,(hwr a ha).2.1⟩⟩
  rintro k s' ⟨j,st',φ',ω',rfl,hj,hJ',hI',hl',hSt',hwr'⟩
  have hE':=KE.noted (φ:=φ') (ω:=ω') (s:=s') O hA hI'.out hE
  have hall:∀a∈wr,φ' a=none/\ω' a=none/\F.ψ a=none:=λa ha=>⟨(hwr' a ha).1,(hwr' a ha).2,(hwr a ha).2.2⟩
  by_cases hlt:j < items.length
  ·refine i9 <| W.item j s' _ _ hlt hSt' λv' h₁ tk hPv hSt1 hk=> ?_
   obtain⟨w,hw,hr⟩:=hP j v' hPv
   have I₁:=hI'.wr (t:=tk) hall hk
   refine t5 (a:=()) rfl ?_
   have I1h:=I₁.hold wr hwr'
   refine i9 <| wpAny_assign_Name (I1h.store I1h.S (PM.le.refl _) (O.with _) i hx (.val w) (hr.mono hl') λh₂ ω₂ I₂=> ?_)
   refine hb j w (F.ψ.or (C3 {s' with heap:=h₁,toks:=tk} wr)) st' hw hJ' A _ φ' ω₂ _ _ hA I₂ (λf st3 r₃ s₃ φ3 ω₃ hq3 hI3 hl3 hv3=> ?_) (λx s'' msg hR hx=>hE' x s'' msg hR (hx.weak (PM.le_or _ _)))
   have I₃:=hI3.unhold hI'.out
   have hSt3:St (j+1) s₃.heap:=W.frame _ _ _ hSt1 λb hb o e=>by
    rcases hfp b hb with hm|⟨o',ho'⟩
    ·refine hI3.S.kψ b o ?_
     show(PM.or _ _) b=_
     unfold PM.or C3
     rw[(hwr b hm).2.2,if_pos hm]
     exact e
    ·have e':=I₁.S.kφ b o' (hl' _ _ ho')
     rw[e']at e;cases e
     exact hI3.S.kφ b _ (hl3 _ _ (hl' _ _ ho'))
   have hwr3:∀a∈wr,φ3 a=none/\ω₃ a=none:=hI3.S.heldNone (λa ha=>hlive _ _ hSt1 a ha)
   cases f with
   |next=>subst hv3;exact⟨items.length - (j+1),by lia,j+1,st3,φ3,ω₃,rfl,by lia,hq3,I₃,hl'.trans hl3,hSt3,hwr3⟩
   |cont=>subst hv3;exact⟨items.length - (j+1),by lia,j+1,st3,φ3,ω₃,rfl,by lia,hq3,I₃,hl'.trans hl3,hSt3,hwr3⟩
   |brk=>subst hv3;exact hQ .next _ _ _ _ _ hq3 I₃ (hl1.trans (hl'.trans hl3)) rfl
   |ret v=>obtain⟨r,rfl,hr⟩:=hv3;exact hQ (.ret v) _ _ _ _ _ hq3 I₃ (hl1.trans (hl'.trans hl3)) ⟨r,rfl,hr⟩
   |retMe=>subst hv3;exact hQ .retMe _ _ _ _ _ hq3 I₃ (hl1.trans (hl'.trans hl3)) rfl
  ·have:j=items.length:=by lia
   subst this
   refine i9 <| W.done s' _ _ hSt' λh₁ tk hk=> ?_
   exact hQ .next _ _ _ _ _ (hd st' hJ') (hI'.wr hall hk) (hl1.trans hl') rfl) hE) hs
set_option tactic.hygienic true in
theorem bm5{l:List V}:ItR X n (.lst l) l:=λF A s φ ω st Qr Er r hA hI hr hQ=>by
 refine hr.lstE λa vs k ha hv=> ?_
 refine wpAny_pyIter_list (v7 hI.S ha) ?_
 obtain⟨f1,f2,f3⟩:=hI.S.fresh
 have hne:a≠s.heap.objs.size:=λe=>by rw[e,f1]at ha;exact nomatch ha
 have W:=Walks.list (prog:=pw) (w:=X.w) hA.handled s.heap.objs.size a hne vs.toArray
 rw[show vs.toArray.size=l.length by simp[hv.len]]at W
 refine hQ _ _ _ _ _ _ (hI.junk (λb o e=>cV6 _ e) rfl rfl) W ⟨⟨_,cX3 _ rfl,rfl,rfl⟩,(v7 hI.S ha).push _⟩ (λb hb=> ?_) (λb hb=> ?_) (λi h hSt b hb=> ?_) λi v' hi=> ?_
 ·rcases cY1.mp hb with rfl|hb
  ·exact .inl (cX5 ..)
  ·rw[cW0.mp hb];exact .inr ⟨_,ha⟩
 ·rw[cW0.mp hb];exact⟨f1,f3,f2⟩
 ·rw[cW0.mp hb];obtain⟨⟨o,ho,_⟩,_⟩:=hSt;rw[ho];simp
 ·have hi:vs[i]? =some v':=by simpa using hi
  have hlt:i < l.length:=by rw[←hv.len];exact(cX6.mp hi).1
  obtain⟨q,e1,e2⟩:=hv.get (i:=i) (v:=l[i]) (by simp[hlt])
  rw[hi]at e1;cases e1
  exact⟨_,by simp[hlt],e2⟩
theorem aL7{l:List UInt8}:ItR X n (.bytes l) (l.map λc=> .int c.toNat):=λF A s φ ω st Qr Er r hA hI hr hQ=>by
 refine hr.bytesE λu=> ?_
 refine KBw.pyIter_bytes ?_
 obtain⟨f1,f2,f3⟩:=hI.S.fresh
 have W:=KBw.walks (prog:=pw) (w:=X.w) hA.handled s.heap.objs.size l.toArray (by assumption)
 rw[show l.toArray.size=(l.map λc=>V.int c.toNat).length by simp]at W
 refine hQ _ _ _ _ _ _ (hI.junk (λb o e=>cV6 _ e) rfl rfl) W ⟨_,cX3 _ rfl,rfl,rfl⟩ (λb hb=> .inl hb) (λb hb=> ?_) (λi h hSt b hb=> ?_) λi v' hi=> ?_
 ·rw[cW0.mp hb];exact⟨f1,f3,f2⟩
 ·rw[cW0.mp hb];obtain⟨o,ho,_⟩:=hSt;rw[ho];simp
 ·obtain⟨c,u,hc,rfl⟩:=hi
  exact⟨.int c.toNat,by simp at hc;simp[hc], .int⟩
end
theorem bx4(P:Params):P4 (KP P) 2=true/\nsIn (KP P) 2 "sys.recursionlimit"=some none:=by constructor<;>kernel_rfl
noncomputable def ax3(o:Obj):Bool:=match o.data with| .bytearray _=>true|_=>false
noncomputable def z8(me:Bool)(d:Addr)(ω:PM)(a:Addr):Bool:=me&& (a==d||match ω a with|some o=>ax3 o|none=>false)
noncomputable def q6(me:Bool)(d:Addr)(ω:PM):PM:=λa=>if z8 me d ω a=true then none else ω a
noncomputable def X0(me:Bool)(d:Addr)(ω:PM):PM:=λa=>if z8 me d ω a=true then ω a else none
theorem F7{me d ω}:(q6 me d ω).le ω:=λa o e=>by unfold q6 at e;split at e;exact nomatch e;exact e
theorem aZ5{me d ω}:(X0 me d ω).le ω:=λa o e=>by unfold X0 at e;split at e;exact e;exact nomatch e
set_option tactic.hygienic true in
theorem aO2{me d ω}:∀a,q6 me d ω a≠none->X0 me d ω a=none:=λa h=>by
 unfold q6 at h;unfold X0
 split
 ·rename_i q;rw[if_pos q]at h;exact absurd rfl h
 ·rfl
noncomputable def ac3(X:Cx)(outer:List Env)(ψ ω:PM)(me:Bool)(d:Addr):Prop:=∀e∈outer,e.scope.kind≠ .module/\∃L o,e.frame=some L/\X.H₀.get? L=none/\(∀vs,o.data≠ .fields vs)/\(ψ L=some o∨q6 me d ω L=some o)
section
variable {X:Cx} {F:Frm} {n:Nat} {st:St} {R:List UInt8->Prop} {α β γ δ:Type}
theorem Sep.noLimit{φ ψ ω:PM}{s:Shared}(S:Sep X φ ψ ω s):s.heap.NoLimit:=⟨_,J3 S.kin (bx4 _).1,N3 (bx4 _).2⟩
theorem Sep.keeps{φ ψ ω:PM}{s s':Shared}(S:Sep X φ ψ ω s)(h:∀a o,s.heap.get? a=some o->s'.heap.get? a=some o)(ho:s'.os=s.os)(hg:s'.gens=s.gens):Sep X φ ψ ω s':=
 ⟨λa o e=>h _ _ (S.kφ a o e),λa o e=>h _ _ (S.kψ a o e),λa o e=>h _ _ (S.kω a o e),S.d1,S.d2,S.d3,S.base,ho.trans S.os,hg.trans S.gens⟩
set_option tactic.hygienic true in
theorem Sep.add{φ ψ ω:PM}{s:Shared}(S:Sep X φ ψ ω s){a:Addr}{o:Obj}(h1:φ a=none)(h2:ψ a=none)(ho:s.heap.get? a=some o):Sep X φ ψ (ω.set a o) s:=by
 refine⟨S.kφ,S.kψ,λb x e=> ?_,S.d1,λb hb=> ?_,λb hb=> ?_,S.base,S.os,S.gens⟩
 ·unfold PM.set at e
  split at e
  ·rename_i q;subst q;cases e;exact ho
  ·exact S.kω b x e
 ·unfold PM.set
  split
  ·rename_i q;subst q;exact absurd h1 hb
  ·exact S.d2 b hb
 ·unfold PM.set
  split
  ·rename_i q;subst q;exact absurd h2 hb
  ·exact S.d3 b hb
theorem MeR.sub{φ ω ω':PM}{lx C:Addr}:∀ {fs:Option (List (String×Fv))} {d:Addr},MeR X lx C φ ω fs d->(fs≠none->∀o,ω d=some o->ω' d=some o)->(fs≠none->∀b l,ω b=some (z5 l)->ω' b=some (z5 l))->MeR X lx C φ ω' fs d
 |none,_,_,_,_=>trivial
 |some fs,d,⟨a,o,m,b,c,e,f⟩,h,k=>⟨a,o,m,h nofun _ b,c,e.own (k nofun),f⟩
noncomputable def aa7(lx:Addr):Option (List (String×Fv))->List Value|none=>[]|some _=>[.ref lx]
noncomputable abbrev aL8(Qr Er:Value->Shared->Prop):Result->Shared->Prop:=λr s'=>match r with| .ok (.ret v)=>Qr v s'| .ok _=>False| .error e=>Er e s'
noncomputable def Cs(X:Cx)(n:Nat)(f:Value)(C:Addr)(vs:List V)(me:Option (List (String×Fv)))(Q:V->Option (List (String×Fv))->Prop)(R:List UInt8->Prop):Prop:=
 ∀outer A s φ ψ ω Qr Er rs L lx d,Rm outer A n->ac3 X outer ψ ω me.isSome d->((∃msg,R msg)->X.H₀.get? L=none/\∃o,(ψ L=some o∨q6 me.isSome d ω L=some o)/\∀vs,o.data≠ .fields vs)->Sep X φ ψ ω s->RVs X φ vs rs->MeR X lx C φ ω me d->
  (∀v me' r s' φ' ω',Q v me'->me'.isSome=me.isSome->Sep X φ' ψ ω' s'->φ.le φ'->RV X φ' v r->MeR X lx C φ' ω' me' d->(∀a o,q6 me.isSome d ω a=some o->q6 me.isSome d ω' a=some o)->Qr r s')->
  (∀x s' msg,R msg->ExIn X (ψ.or (q6 me.isSome d ω)) L s' x msg->Er (.ref x) s')->
  o7 X.M A (.call f ⟨aa7 lx me++rs,[]⟩) (aL8 Qr Er) s
theorem Cs.mono{f C vs me}{Q Q':V->Option (List (String×Fv))->Prop}{R R':List UInt8->Prop}(h:Cs X n f C vs me Q R)(k:∀v m,Q v m->Q' v m)(kr:∀msg,R msg->R' msg):Cs X n f C vs me Q' R':=
 λouter A s φ ψ ω Qr Er rs L lx d hA hC hL hS hv hM hQ hE=>h outer A s φ ψ ω Qr Er rs L lx d hA hC (λ⟨m,hm⟩=>hL ⟨m,kr m hm⟩) hS hv hM (λv me' r s' φ' ω' q=>hQ v me' r s' φ' ω' (k _ _ q)) (λx s' msg hm=>hE x s' msg (kr _ hm))
theorem Rm.less{outer:List Env}{A:Around}{k:Nat}(h:Rm outer A n)(hk:k<=n):Rm outer A k:=⟨h.handled,by have:=h.depth;lia,by have:=h.units;lia,h.frames,h.guards⟩
theorem Rm.deeper{outer:List Env}{A:Around}{env:Env}(h:Rm outer A (n+1)):Rm (env::outer) (A.deeper env) n:=
 ⟨h.handled,by have:=h.depth;show A.depth+1+_+_<=_;lia,by have:=h.units;show A.units+3+_+_<=_;lia,Around.frames_deeper h.frames,h.guards⟩
noncomputable def t9(fd:FuncData)(nm:List Str)(f L:Addr)(ψ:PM)(outer:List Env)(lx C:Addr):Frm:=⟨fd.qualname,fd.scope,L,f,fd.code,nm,ψ,outer,lx,C⟩
noncomputable def V6:Option (List (String×Fv))->List Sl|none=>[]|some _=>[.me]
structure DefOk(P:Params)(f:Addr)(fd:FuncData)(body:List Stmt)(nm:List Str)(k:Nat)(dv:List Value:=[]):Prop where
 obj:(KP P).lookup f=some {cls:= .type "function",data:= .func fd}
 code:codeIn (KP P) fd.code fd.qualname=true
 body:fd.body= .stmts body
 glob:fd.globals=cW5
 clo:fd.closure=[]
 blt:fd.builtins=cZ8
 co:fd.scope.isCoroutine=false
 gen:fd.scope.isGenerator=false
 kind:fd.scope.kind= .function
 cell:∀x∈fd.scope.names,x.2≠ .cell
 loc:∀x∈nm,fd.scope.names.lookup x=some .local
 nodup:nm.Nodup
 bind:∀vals:List Value,vals.length=k->∀s:Shared,(KP P).In s.heap->BindsTo s fd ⟨vals,[]⟩ (nm.zip (vals++dv))
 few:k+dv.length<=nm.length
theorem DefOk.frm{P:Params}{f:Addr}{fd:FuncData}{body nm k dv}(D:DefOk P f fd body nm k dv)(L ψ outer lx C):FOk (t9 fd nm f L ψ outer lx C):=⟨D.kind,D.loc,D.nodup⟩
theorem ab2{P:Params}{f:Addr}{fd:FuncData}{body nm k dv}(D:DefOk P f fd body nm k dv)(L ψ outer lx C):callEnv fd L f=(t9 fd nm f L ψ outer lx C).env:=by
 unfold callEnv newEnv Frm.env envOf t9
 rw[D.glob,D.clo,D.blt]
theorem aa2{nm:List Str}{vals:List Value}{x:Str}(h:x∉nm):(nm.zip vals).reverse.lookup x=none:=by
 rw[List.lookup_eq_none_iff]
 intro p hp
 have:=List.of_mem_zip (List.mem_reverse.mp hp)
 simp only[bne_iff_ne,ne_eq,beq_eq_false_iff_ne]
 intro e
 exact h (e▸this.1)
theorem x4:∀ {nm:List Str} {vals:List Value} (hn:nm.Nodup) (i:Nat) (x:Str) (v:Value) (hx:nm[i]? =some x) (hv:vals[i]? =some v),(nm.zip vals).reverse.lookup x=some v
 | [],_,_,_,_,_,hx,_=>by simp at hx
 |_::_,[],_,_,_,_,_,hv=>by simp at hv
 |y::nm,w::vals,hn,i,x,v,hx,hv=>by
  rw[List.zip_cons_cons,List.reverse_cons,List.lookup_append]
  cases i with
  |zero=>
   simp at hx hv;subst hx hv
   rw[aa2 (dh2.mp hn).1]
   simp
  |succ i=>
   rw[x4 (dh2.mp hn).2 i x v (by simpa using hx) (by simpa using hv)]
   rfl
theorem W5{φ:PM}{me:Option (List (String×Fv))}{vs:List V}{rs:List Value}{lx:Addr}{j:Nat}(hv:RVs X φ vs rs):∀(i:Nat) (sl:Sl),(V6 me++vs.map .val++db4 j .un)[i]? =some sl->
 sl= .un∨(∃v r,sl= .val v/\(aa7 lx me++rs)[i]? =some r/\RV X φ v r)∨(sl= .me/\me≠none/\(aa7 lx me++rs)[i]? =some (.ref lx)):=by
 have base:∀ {vs:List V} {rs:List Value},RVs X φ vs rs->∀(i:Nat) (sl:Sl),(vs.map Sl.val++db4 j .un)[i]? =some sl->sl= .un∨(∃v r,sl= .val v/\rs[i]? =some r/\RV X φ v r):=by
  intro vs rs hv
  induction vs generalizing rs with
  |nil=>
   intro i sl h
   rw[List.map_nil,List.nil_append,List.getElem?_replicate]at h
   split at h
   ·exact .inl (by cases h;rfl)
   ·exact nomatch h
  |cons v vs ih=>
   cases hv with|cons a b=>
   intro i sl h
   cases i with
   |zero=>simp at h;subst h;exact .inr ⟨v,_,rfl,rfl,a⟩
   |succ i=>exact ih b i sl (by simpa using h)
 intro i sl h
 cases me with
 |none=>
  rcases base hv i sl h with e|e
  ·exact .inl e
  ·exact .inr (.inl e)
 |some fs=>
  cases i with
  |zero=>simp[V6]at h;subst h;exact .inr (.inr ⟨rfl,nofun,rfl⟩)
  |succ i=>
   rcases base hv i sl (by simpa[V6]using h)with e|e
   ·exact .inl e
   ·exact .inr (.inl e)
theorem PM.le.none{φ φ':PM}(h:φ.le φ'){a:Addr}(e:φ' a= .none):φ a= .none:=by
 cases q:φ a with
 |none=>rfl
 |some o=>exact n7 (e.symm.trans (h a o q))
theorem Sep.ψω{φ ψ ω:PM}{s:Shared}(S:Sep X φ ψ ω s){a:Addr}{o:Obj}(e:ψ a=some o):ω a=none:=S.d3 a (e▸Option.some_ne_none _)
theorem PM.or_l{ψ κ:PM}{a:Addr}{o:Obj}(e:ψ a=some o):(ψ.or κ) a=some o:=by unfold PM.or;rw[e];rfl
theorem PM.or_r{ψ κ:PM}{a:Addr}(e:ψ a=none):(ψ.or κ) a=κ a:=by unfold PM.or;rw[e];rfl
theorem aA2{φ ψ ω:PM}{s:Shared}{me d}(S:Sep X φ ψ ω s)(a:Addr)(ha:q6 me d ω a≠none):ψ a=none:=by
 cases q:ψ a with
 |none=>rfl
 |some x=>exact absurd (PM.le.none F7 (S.ψω q)) ha
theorem as6{φ ψ ω:PM}{s:Shared}{me d}(S:Sep X φ ψ ω s){a:Addr}{o:Obj}(e:q6 me d ω a=some o):(ψ.or (q6 me d ω)) a=some o:=(PM.or_r (aA2 S a (e▸Option.some_ne_none _))).trans e
theorem cq5{φ φ' ω ω':PM}{lx C d d':Addr}{m m':Option (List (String×Fv))}(M:MeR X lx C φ ω m d)(h:φ.le φ')(M':MeR X lx C φ' ω' m' d')(e:m'.isSome=m.isSome)(hm:m'≠none):d'=d:=by
 cases m' with
 |none=>exact absurd rfl hm
 |some fs=>
  cases m with
  |none=>exact cV2 e
  |some gs=>
   have q:=(h _ _ M.1).symm.trans M'.1
   cases q
   rfl
theorem MeR.at{φ ω:PM}{lx C d d':Addr}{m:Option (List (String×Fv))}(M:MeR X lx C φ ω m d')(e:m≠none->d'=d):MeR X lx C φ ω m d:=by
 cases m with
 |none=>trivial
 |some fs=>exact e nofun▸M
theorem aT6{me:Bool}{d:Addr}{ω κ:PM}{a:Addr}{o:Obj}(e:q6 me d ω a=some o):q6 me d ((q6 me d ω).or κ) a=some o:=by
 have e1:=PM.or_l (κ:=κ) e
 have hm:z8 me d ω a=false:=by
  unfold q6 at e
  cases q:z8 me d ω a with
  |false=>rfl
  |true=>rw[q]at e;exact n7 e
 show(if z8 me d ((q6 me d ω).or κ) a=true then _ else _)=_
 rw[show z8 me d ((q6 me d ω).or κ) a=z8 me d ω a from by unfold z8;rw[e1,F7 _ _ e],hm]
 exact e1
theorem Cs.enter{f:Addr}{fd body nm k dv}(D:DefOk X.w.params f fd body nm k dv){dvv:List V}(hdv:∀φ,RVs X φ dvv dv){vs:List V}{me:Option (List (String×Fv))}{C lx d:Addr}{outer:List Env}{A:Around}{rs:List Value}{R:Result->Shared->Prop}
 (hk:(V6 me).length+vs.length=k) (hA:A.depth < recursionLimit) (hC:ac3 X outer ψ ω me.isSome d) (hS:Sep X φ ψ ω s) (hv:RVs X φ vs rs) (hM:MeR X lx C φ ω me d)
 (h:∀s₁ ω₁,Inv X (t9 fd nm f s.heap.objs.size (ψ.or (q6 me.isSome d ω)) outer lx C) φ ω₁ {loc:=V6 me++(vs++dvv).map .val++db4 (nm.length - (k+dvv.length)) .un,me:=me} s₁->
  d6 X.M (A.deeper (t9 fd nm f s.heap.objs.size (ψ.or (q6 me.isSome d ω)) outer lx C).env) (execs body (t9 fd nm f s.heap.objs.size (ψ.or (q6 me.isSome d ω)) outer lx C).env) (λf s'=>R (.ok (.ret (match f with| .ret v=>v|_=> .none))) s')
   (λe s'=>wpAny X.M (A.deeper (t9 fd nm f s.heap.objs.size (ψ.or (q6 me.isSome d ω)) outer lx C).env) (leaving (t9 fd nm f s.heap.objs.size (ψ.or (q6 me.isSome d ω)) outer lx C).env e) (λH s''=>R (.error e) s'') (λe' s''=>R (.error e') s'') s') s₁):
 o7 X.M A (.call (.ref f) ⟨aa7 lx me++rs,[]⟩) R s:=by
 have hlen:(aa7 lx me++rs).length=k:=by
  rw[←hk,cV7,hv.len]
  cases me<;>simp[aa7,V6]<;>lia
 have hbind:=D.bind _ hlen s hS.kin
 rw[cW6]at hbind
 have hv:=hv.append (hdv φ)
 refine Y2 hA (hS.kin f _ D.obj) rfl hS.noLimit (codeRec_of hS.kin D.code) D.body hbind D.cell (λx hx=>D.loc x.1 (List.of_mem_zip hx).1) (λh₁ hns hkeep=> ?_) D.co D.gen D.kind
 rw[ab2 D s.heap.objs.size (ψ.or (q6 me.isSome d ω)) outer lx C]
 obtain⟨f1,f2,f3⟩:=hS.fresh
 have fl:=PM.le.none (F7 (me:=me.isSome) (d:=d)) f3
 obtain⟨o',es,ep,ho',hd',hk',hf'⟩:=id hns
 have S1:=((hS.enter F7 aZ5 aO2).keeps (s':= {s with heap:=h₁,toks:=s.toks+ (nm.zip (aa7 lx me++(rs++dv))).length}) hkeep rfl rfl).add (a:=s.heap.objs.size) (o:=o') f1 (by unfold PM.or;rw[f2,fl];rfl) ho'
 have hM':me≠none->∀b o,z8 me.isSome d ω b=true->ω b=some o->((X0 me.isSome d ω).set s.heap.objs.size o') b=some o:=λH b o hb ho=>by
  unfold PM.set X0
  rw[if_neg (λe=>by rw[e,f3]at ho;exact nomatch ho),if_pos hb];exact ho
 refine h _ ((X0 me.isSome d ω).set s.heap.objs.size o') ⟨S1,⟨_,o',d, ?_,λvs n e=> ?_,λl e=> ?_,hns,λi x sl hi hsl=> ?_,λi a l hi=> ?_,λi j a b l l' hi=> ?_,λhme=> ?_, ?_⟩,λe he=> ?_, ?_⟩
 ·unfold PM.set t9;simp
 ·rw[hd']at e;exact nomatch e
 ·rw[e]at hd';exact nomatch hd'
 ·rcases W5 (lx:=lx) hv i sl hsl with rfl|⟨v,r,rfl,e1,e2⟩|⟨rfl,_,e1⟩
  ·trivial
  ·exact⟨r,x4 D.nodup i x r hi e1,e2⟩
  ·exact x4 D.nodup i x _ hi e1
 ·rcases W5 (lx:=lx) hv i _ hi with e|⟨v,r,e,_⟩|⟨e,_⟩<;>exact nomatch e
 ·rcases W5 (lx:=lx) hv i _ hi with e|⟨v,r,e,_⟩|⟨e,_⟩<;>exact nomatch e
 ·show s.heap.objs.size≠d
  cases me with
  |none=>exact absurd rfl hme
  |some fs=>intro e;obtain⟨_,_,_,hd,_⟩:=hM;rw[←e,f3]at hd;exact nomatch hd
 ·refine hM.sub (λhme o ho=>hM' hme d o ?_ ho) (λhme b l hb=>hM' hme b _ ?_ hb)
  ·unfold z8;cases me with|none=>exact absurd rfl hme|some fs=>simp
  ·unfold z8;cases me with|none=>exact absurd rfl hme|some fs=>simp[hb,ax3]
 ·obtain⟨a,L',o,b,c,dd,e'⟩:=hC e he
  exact⟨a,L',o,b,c,e'.elim PM.or_l (as6 hS),dd⟩
 ·exact PM.le.none hS.base f1
theorem Cs.of_bodyD{f:Addr}{fd body nm k dv}(D:DefOk X.w.params f fd body nm k dv){dvv:List V}(hdv:∀φ,RVs X φ dvv dv){vs:List V}{me:Option (List (String×Fv))}{C:Addr}{Q:V->Option (List (String×Fv))->Prop}(hk:(V6 me).length+vs.length=k)
 (h:∀L ψ outer lx,J7 X (t9 fd nm f L ψ outer lx C) n body {loc:=V6 me++(vs++dvv).map .val++db4 (nm.length - (k+dvv.length)) .un,me:=me} (λfl st'=>st'.me.isSome=me.isSome/\match fl with| .ret v=>Q v st'.me| .next=>Q .none st'.me|_=>False) R):
 Cs X (n+1) (.ref f) C vs me Q R:=by
 intro outer A s φ ψ ω Qr Er rs L lx d hA hC hL hS hv hM hQ hE
 refine Cs.enter D hdv hk (by have:=hA.depth;lia) hC hS hv hM λs₁ ω₁ I=>h _ _ _ _ (A.deeper _) s₁ φ ω₁ _ _ hA.deeper I (λfl st' r s' φ' ω' hq hI' hl' hr=> ?_) (λx s' msg hR hx=> ?_)
 ·obtain⟨m',oL',d',E⟩:=hI'.ex
  have hd:=cq5 hM hl' E.h6 hq.1
  have hmono:∀b o,b≠s.heap.objs.size->ω' b=some o->((q6 me.isSome d ω).or (ω'.del s.heap.objs.size)) b=some o:=λb o hb ho=>by
   have e:q6 me.isSome d ω b=none:=by
    cases q:q6 me.isSome d ω b with
    |none=>rfl
    |some x=>exact n7 ((hI'.S.ψω (as6 hS q)).symm.trans ho)
   exact(PM.or_r e).trans ((if_neg hb).trans ho)
  have fin:∀v,Q v st'.me->∀r,RV X φ' v r->Qr r s':=λv hv r hr=>hQ v st'.me r s' φ' _ hv hq.1 ((hI'.S.sub (PM.del_le ω' s.heap.objs.size)).leave (ψ:=ψ) (ω₁:=q6 me.isSome d ω) (aA2 hS)) hl' hr
   ((E.h6.at hd).sub (λhme o=>hmono d o λe=>E.h5 hme (e.symm.trans (hd hme).symm)) λhme b l hb=>hmono b _ (λe=>E.h1b l (cY2 (E.h1.symm.trans (e▸hb)))) hb) λa o e=>aT6 e
  cases fl with
  |next=>exact fin .none hq.2 _ (by subst hr;exact .none)
  |brk=>exact hq.2.elim
  |cont=>exact hq.2.elim
  |ret v=>exact db3 hr λr h=>h.1▸fin v hq.2 r h.2
  |retMe=>exact hq.2.elim
 ·have hL':=hL ⟨msg,hR⟩
  exact hx.leave D.kind rfl I.out (Around.frames_deeper hA.frames) (L':=L) ⟨hL'.1,db3 hL'.2 λo ho=>⟨o,ho.1.elim PM.or_l (as6 hS),ho.2⟩⟩ λs'' hx'=>hE x s'' msg hR hx'
theorem Cs.of_body{f:Addr}{fd body nm k}(D:DefOk X.w.params f fd body nm k){vs:List V}{me:Option (List (String×Fv))}{C:Addr}{Q:V->Option (List (String×Fv))->Prop}(hk:(V6 me).length+vs.length=k)
 (h:∀L ψ outer lx,J7 X (t9 fd nm f L ψ outer lx C) n body {loc:=V6 me++vs.map .val++db4 (nm.length - k) .un,me:=me} (λfl st'=>st'.me.isSome=me.isSome/\match fl with| .ret v=>Q v st'.me| .next=>Q .none st'.me|_=>False) R):
 Cs X (n+1) (.ref f) C vs me Q R:=
 Cs.of_bodyD D (dvv:=[]) (λH=> .nil) hk λL ψ outer lx=>by rw[cZ4];exact h L ψ outer lx
end
theorem U5{o:Obj}{m:Str->Option Value}{x:Str}{v:Value}(h:ObjNs o m)(e:m x=some v):lookIn x o=some (some v):=by
 obtain⟨es,ep,hd,hk,hf⟩:=h
 unfold lookIn
 rw[hd]
 have:=hf x
 rw[e]at this
 unfold nsFind findBy at this
 rw[←Array.find?_toList]at this
 cases q:es.toList.find? (λen=>en.key.isStr x)with
 |none=>rw[q]at this;exact nomatch this
 |some en=>rw[q]at this;cases this;dsimp only;rw[q]
theorem al6{o:Obj}{m:Str->Option Value}{x:Str}(h:ObjNs o m)(e:m x=none):lookIn x o=some none:=by
 obtain⟨es,ep,hd,hk,hf⟩:=h
 unfold lookIn
 rw[hd]
 have:=hf x
 rw[e]at this
 unfold nsFind findBy at this
 rw[←Array.find?_toList]at this
 cases q:es.toList.find? (λen=>en.key.isStr x)with
 |some en=>rw[q]at this;exact nomatch this
 |none=>
  dsimp only
  rw[q]
  dsimp only
  rw[if_neg]
  rw[Bool.not_eq_true,List.any_eq_false]
  intro en hen
  obtain⟨n,t,hn⟩:=hk en (by simpa using hen)
  unfold DictEntry.refKey
  rw[hn];exact de8
structure A0(P:Params)(C:Addr):Prop where
 ga:findIn (KP P) (.ref C) "__getattribute__"=some (some (.builtin "object.__getattribute__"))
 gt:findIn (KP P) (.ref C) "__getattr__"=some none
 sa:findIn (KP P) (.ref C) "__setattr__"=some (some (.builtin "object.__setattr__"))
 hd:hasDictIn (KP P) C=true
 po:plainOver (KP P) C=true
structure A1(P:Params)(C:Addr)(x:Str):Prop where
 at_:findIn (KP P) (.ref C) x=some none
 tk:takerIn (KP P) C x=some none
section
variable {X:Cx} {F:Frm} {n:Nat} {st:St} {R:List UInt8->Prop} {α β γ δ:Type}
theorem EsR.get{φ ω:PM}{fs:List (String×Fv)}{m:Str->Option Value}(h:EsR X φ ω fs m):∀ {j:Nat} {x:String} {f:Fv},fs[j]? =some (x,f)->∃r,m (cV1 x)=some r/\FvR X φ ω f r:=by
 induction h with
 |nil=>intro j x f h;exact n7 (List.getElem?_nil.symm.trans h)
 |cons e a _ ih=>
  intro j x f h
  cases j with
  |zero=>cases h;exact⟨_,e,a⟩
  |succ j=>exact ih h
theorem RFs.get{φ:PM}{fs:List (String×V)}:∀ {m:Str->Option Value},RFs X φ fs m->∀ {j:Nat} {x:String} {f:V},fs[j]? =some (x,f)->∃r,m (cV1 x)=some r/\RV X φ f r:=by
 induction fs with
 |nil=>intro m _ j x f h;exact n7 (List.getElem?_nil.symm.trans h)
 |cons p fs ih=>
  intro m h j x f g
  cases h with|cons e a b=>
  cases j with
  |zero=>cases g;exact⟨_,e,a⟩
  |succ j=>exact ih b g
theorem ak2{φ ω ψ:PM}{s:Shared}{a C d:Addr}{o:Obj}(S:Sep X φ ψ ω s)(h:φ a=some (dg0 C d))(hd:s.heap.get? d=some o):InstAt s.heap a (dg0 C d) C (some o):=⟨S.kφ _ _ h,rfl,rfl,hd⟩
theorem RV.handed{φ:PM}{v:V}{r:Value}(h:RV X φ v r):handedIn r=true:=by cases h<;>rfl
theorem R1{φ ω ψ:PM}{s:Shared}{a C d:Addr}{o:Obj}{m:Str->Option Value}{x:Str}{r:Value}{A:Around}{Q:Value->Shared->Prop}{E:Value->Shared->Prop}{ex:Bool}
 (K:A0 X.w.params C) (L:A1 X.w.params C x) (S:Sep X φ ψ ω s) (h:φ a=some (dg0 C d)) (hd:s.heap.get? d=some o) (hm:ObjNs o m) (e:m x=some r) (hh:handedIn r=true) (hQ:Q r {s with toks:=s.toks+1}):
 wpAny X.M A (getAttr (.ref a) x ex) Q E s:=
 get_value S.kin (ak2 S h hd) K.ga (findObj_own K.hd L.at_ rfl (U5 hm e)) hh hQ
theorem cb9(i j:Nat){y:Str}{x:String}{p pos}{v:V}{fs:List (String×Fv)}{Q:V->St->Prop}(O:FOk F)(K:A0 X.w.params F.C)(L:A1 X.w.params F.C (cV1 x))(hy:F.nm[i]? =some y)(hl:st.loc[i]? =some .me)(hm:st.me=some fs)(hf:fs[j]? =some (x, .val v))(h:Q v st)
 (hd:(y== ("__debug__":Str))=false:=by decide):Ev X F n (.Attribute (.Name y p) (cV1 x) pos) st Q R:=λA s φ ω Qr Er hA hI hQ hE=>by
 obtain⟨m,oL,d,h1,h1a,h1b,h2,h3,h3b,h4,h5,h6⟩:=hI.ex
 refine z7 (i9 <| db9 (cW9 O.kind (O.loc y (cW1 hy)) h2 (h3 i y _ hy hl) ?_) hd)
 rw[hm]at h6
 obtain⟨g1,o,m',g2,g3,g4,g5,_⟩:=h6
 obtain⟨r,e1,e2⟩:=g4.get hf
 exact i9 <| R1 K L hI.S g1 (hI.S.kω _ _ g2) g3 e1 (RV.handed e2) (hQ _ _ _ _ _ _ h (hI.toks _) (PM.le.refl _) e2)
theorem bg0(j:Nat){e x p}{C:Nat}{Q:V->St->Prop}(K:A0 X.w.params C)(L:A1 X.w.params C (cV1 x))(h:Ev X F n e st (λv st1=>∃fs w,v= .rcd C fs/\fs[j]? =some (x,w)/\Q w st1) R)
 (he:∀env,eval (.Attribute e (cV1 x) p) env=(do
  let o ←eval e env
  dd4 p.atName
  let r ←dc2 [o] (getAttr o (cV1 x) true)
  letTemporaryGo e o r
  pure r):=by intro env;with_unfolding_all rfl):Ev X F n (.Attribute e (cV1 x) p) st Q R:=
 λA s φ ω Qr Er hA hI hQ hE=>z7 (h A s φ ω _ Er hA hI (λv st1 r₁ s₁ φ1 ω₁ ⟨fs,w,e1,e2,hq⟩ hI1 hl1 hv=>by
  subst e1
  refine hv.rcdE λH H H H a b c d=> ?_
  obtain⟨r,e3,e4⟩:=d.get e2
  exact i9 <| R1 K L hI1.S a (hI1.S.kφ _ _ b) c e3 (RV.handed e4) (hQ _ _ _ _ _ _ hq (hI1.toks _) hl1 e4)) hE) (he _)
theorem Inv.call{φ φ' ω ω':PM}{s s':Shared}{m':Option (List (String×Fv))}(I:Inv X F φ ω st s){d:Addr}(hd:∀x:List (String×Fv),st.me=some x->φ F.lx=some (dg0 F.C d))(S:Sep X φ' F.ψ ω' s')(hl:φ.le φ')(hs:m'.isSome=st.me.isSome)(M:MeR X F.lx F.C φ' ω' m' d)
 (hk:∀a o,q6 st.me.isSome d ω a=some o->q6 st.me.isSome d ω' a=some o):Inv X F φ' ω' {st with me:=m'} s':=by
 obtain⟨m,oL,d',h1,h1a,h1b,h2,h3,h3b,h4,h5,h6⟩:=I.ex
 have hdd:st.me≠none->d'=d:=λhne=>by
  cases q:st.me with
  |none=>exact absurd q hne
  |some fs=>
   rw[q]at h6
   have a:=h6.1
   rw[hd fs q]at a
   cases a;rfl
 have key:∀a o,ω a=some o->ax3 o=false->(st.me≠none->a≠d)->ω' a=some o:=λa o ho hb hne=>by
  refine F7 _ _ (hk a o ?_)
  unfold q6
  rw[if_neg]
  ·exact ho
  ·unfold z8
   rw[ho]
   cases q:st.me with
   |none=>simp
   |some fs=>simp[hb,hne (by rw[q];simp)]
 have hdo:∃x,h6=h6/\x=oL:=⟨oL,rfl,rfl⟩
 obtain⟨o2,e2,e3⟩:=ObjNs.of h2
 have eo:o2=oL:=by rw[I.S.kω _ _ h1]at e2;cases e2;rfl
 subst eo
 have hbL:ax3 o2=false:=by
  obtain⟨es,ep,hd',_⟩:=e3
  unfold ax3;rw[hd']
 have hL:ω' F.L=some o2:=key F.L o2 h1 hbL (λhne=>by rw[←hdd hne];exact h5 hne)
 refine⟨S,⟨m,o2,d,hL,h1a,h1b,h2.at λo e=> ?_,λi x sl a b=>(h3 i x sl a b).mono hl,λi a l e=> ?_,h4,λhne=> ?_,M⟩,I.out,I.new⟩
 ·rw[e2]at e;cases e;exact S.kω _ _ hL
 ·obtain⟨vs,k,a,b⟩:=h3b i a l e
  refine⟨vs,k,key _ _ a rfl (λhne e'=> ?_),b.mono hl⟩
  cases q:st.me with
  |none=>exact hne q
  |some fs=>
   rw[q]at h6
   obtain⟨_,o,m'',g2,g3,_⟩:=h6
   rw[hdd hne, ←e',a]at g2
   cases g2
   exact g3.noSeq _ _ rfl
 ·have hne':st.me≠none:=λe=>by rw[e]at hs;cases hm:m' with|none=>exact hne hm|some _=>rw[hm]at hs;exact cV2 hs
  rw[←hdd hne'];exact h5 hne'
theorem Inv.callAt{φ ω:PM}{s:Shared}(O:FOk F)(I:Inv X F φ ω st s)(me:Bool)(d:Addr)(hd:me=true->F.L≠d):ac3 X (F.env::F.outer) F.ψ ω me d/\X.H₀.get? F.L=none/\∃o,(F.ψ F.L=some o∨q6 me d ω F.L=some o)/\∀vs,o.data≠ .fields vs:=by
 obtain⟨m,oL,d',h1,h1a,h1b,h2,h3,h3b,h4,h5,h6⟩:=I.ex
 obtain⟨o2,e2,e3⟩:=ObjNs.of h2
 have eo:o2=oL:=by rw[I.S.kω _ _ h1]at e2;cases e2;rfl
 subst eo
 have hbL:ax3 o2=false:=by
  obtain⟨es,ep,hd',_⟩:=e3
  unfold ax3;rw[hd']
 have hL:q6 me d ω F.L=some o2:=by
  unfold q6
  rw[if_neg]
  ·exact h1
  ·unfold z8
   rw[h1]
   cases me with
   |false=>simp
   |true=>simp[hbL,hd rfl]
 refine⟨λe he=> ?_,I.new,o2, .inr hL,e3.noFields⟩
 rcases cY1.mp he with rfl|he
 ·exact⟨by show F.scope.kind≠_;rw[O.kind];decide,F.L,o2,rfl,I.new,e3.noFields, .inr hL⟩
 ·obtain⟨a,L,o,b,c,dd,f⟩:=I.out e he
  exact⟨a,L,o,b,c,f, .inl dd⟩
end
section
variable {X:Cx} {F:Frm} {n:Nat} {st:St} {R:List UInt8->Prop} {α β γ δ:Type}
theorem Cs.up{k:Nat}{f C vs me Q}(h:Cs X k f C vs me Q R)(hk:k<=n):Cs X n f C vs me Q R:=λouter A s φ ψ ω Qr Er rs L lx d hA=>h outer A s φ ψ ω Qr Er rs L lx d (hA.less hk)
theorem Cs.free{φ ω:PM}{s:Shared}{f:Value}{vs:List V}{rs:List Value}{A:Around}{Q:V->St->Prop}{Qr:Value->Shared->Prop}{Er:Value->Shared->Prop}{C:Addr}(O:FOk F)(hA:Rm (F.env::F.outer) A n)(hI:Inv X F φ ω st s)
 (h:Cs X n f C vs none (λv H=>Q v st) R) (hv:RVs X φ vs rs) (hQ:KQ X F φ (λφ=>RV X φ) Q Qr) (hE:KE X F R Er):d6 X.M A (call f rs) Qr Er s:=by
 have hc:=hI.callAt O false 0 (λe=>by exact cV2 e)
 refine q9 (h _ A s φ F.ψ ω Qr Er rs F.L 0 0 hA hc.1 (λH=>hc.2) hI.S hv trivial (λv me' r s' φ' ω' hq hs S hl hr M hk=> ?_) (λx s' msg hm hx=>hE x s' msg hm (hx.weak (PM.le_or _ _))))
 have hle:ω.le ω':=λa o e=>F7 _ _ (hk a o (by unfold q6 z8;simpa using e))
 exact hQ v st r s' φ' ω hq (hI.more (S.sub hle) hl) hl hr
theorem an6{y p pos}{f:Addr}{Q:V->St->Prop}(O:FOk F)(hk:F.scope.names.lookup y=some .globalImplicit)(hg:nsIn X.K cW5 y=some (some (.ref f)))(hf:keepIn X.K (.ref f)=true)
 (h:Cs X n (.ref f) 0 [] none (λv H=>Q v st) R) (hd:(y== ("__debug__":Str))=false:=by decide):Ev X F n (.Call (.Name y p) [] [] pos) st Q R:=
 λA s φ ω Qr Er hA hI hQ hE=>m8 (gl O hI hk hg (P9 hI.S.kin hf (h.free O hA hI .nil hQ hE)) hd)
theorem br1{y p a as pos}{f:Addr}{Q:V->St->Prop}(O:FOk F)(hk:F.scope.names.lookup y=some .globalImplicit)(hg:nsIn X.K cW5 y=some (some (.ref f)))(hf:keepIn X.K (.ref f)=true)
 (h:Evs X F n (a::as) pos st (λvs st1=>Cs X n (.ref f) 0 vs none (λv H=>Q v st1) R) R) (hd:(y== ("__debug__":Str))=false:=by decide)
 (he:cW7 (a::as) F.env=(false,eval a F.env)::cW7 as F.env:=by rfl) (hplain:(backTo pos (cW7 as F.env)).any (·.1)=false:=by rfl):Ev X F n (.Call (.Name y p) (a::as) [] pos) st Q R:=
 λA s φ ω Qr Er hA hI hQ hE=>m8 (gl O hI hk hg (u9 X.kin hf (h A s φ ω _ Er hA hI (λvs st1 rs s₁ φ1 ω₁ hq hI1 hl1 hvs=>
  ⟨hI1.S.kin,Cs.free O hA hI1 hq hvs (λv st' r s' φ' ω' hq' hI' hl' hr=>hQ v st' r s' φ' ω' hq' hI' (hl1.trans hl') hr) hE⟩) hE) he hplain) hd)
theorem Cs.meth{φ ω:PM}{s:Shared}{f:Value}{vs:List V}{rs:List Value}{A:Around}{Q:V->St->Prop}{Qr:Value->Shared->Prop}{Er:Value->Shared->Prop}{fs:List (String×Fv)}(O:FOk F)(hA:Rm (F.env::F.outer) A n)(hI:Inv X F φ ω st s)(hm:st.me=some fs)
 (h:Cs X n f F.C vs (some fs) (λv me'=>Q v {st with me:=me'}) R) (hv:RVs X φ vs rs) (hQ:KQ X F φ (λφ=>RV X φ) Q Qr) (hE:KE X F R Er):d6 X.M A (call f (.ref F.lx::rs)) Qr Er s:=by
 obtain⟨m,oL,d,h1,h1a,h1b,h2,h3,h3b,h4,h5,h6⟩:=hI.ex
 have hc:=hI.callAt O true d (λH=>h5 (by rw[hm];simp))
 rw[hm]at h6
 have h0:=h6.1
 refine q9 (h _ A s φ F.ψ ω Qr Er rs F.L F.lx d hA hc.1 (λH=>hc.2) hI.S hv h6 (λv me' r s' φ' ω' hq hs S hl hr M hk=> ?_) (λx s' msg hm hx=>hE x s' msg hm (hx.weak (PM.le_or _ _))))
 exact hQ v _ r s' φ' ω' hq (hI.call (λH H=>h0) S hl (by rw[hm];exact hs) M (by rw[hm];exact hk)) hl hr
structure T4(P:Params)(C:Addr)(x:Str)(f:Addr):Prop where
 at_:findIn (KP P) (.ref C) x=some (some (.ref f))
 ty:typeIn (KP P) (.ref f)=some (.type "function")
 keep:keepIn (KP P) (.ref f)=true
theorem af3{φ ω:PM}{s:Shared}{y name:Str}{p:Pos}{f:Addr}{fs:List (String×Fv)}{A:Around}{E:Value->Shared->Prop}{pl:Sem Bool}{Q:Value×List Value->Shared->Prop}(O:FOk F)(K:A0 X.w.params F.C)(M:T4 X.w.params F.C name f)(i:Nat)(hy:F.nm[i]? =some y)(hl:st.loc[i]? =some .me)(hm:st.me=some fs)(hn:name∉nmS fs)(hI:Inv X F φ ω st s)
 (hd:(y== ("__debug__":Str))=false) (h:Q (.ref f,[.ref F.lx]) s):d6 X.M A (eval (.Name y p) F.env) (λov s₁=>d6 X.M A (dg5 ov name pl) Q E s₁) E s:=by
 obtain⟨m,oL,d,h1,h1a,h1b,h2,h3,h3b,h4,h5,h6⟩:=hI.ex
 refine i9 <| db9 (cW9 O.kind (O.loc y (cW1 hy)) h2 (h3 i y _ hy hl) ?_) hd
 rw[hm]at h6
 obtain⟨g1,o,m',g2,g3,g4,g5,_⟩:=h6
 refine i9 <| method_fn hI.S.kin (ak2 hI.S g1 (hI.S.kω _ _ g2)) K.ga K.gt M.at_ M.ty ?_ h
 show(lookIn name o).map _=_
 rw[al6 g3 (g5 name hn)];rfl
theorem aM5(i:Nat){y p ap pos}{name:Str}{f:Addr}{fs:List (String×Fv)}{Q:V->St->Prop}(O:FOk F)(K:A0 X.w.params F.C)(M:T4 X.w.params F.C name f)(hy:F.nm[i]? =some y)(hl:st.loc[i]? =some .me)(hm:st.me=some fs)(hn:name∉nmS fs)
 (h:Cs X n (.ref f) F.C [] (some fs) (λv me'=>Q v {st with me:=me'}) R) (hd:(y== ("__debug__":Str))=false:=by decide)
 {pl:Sem Bool} (he:eval (.Call (.Attribute (.Name y p) name ap) [] [] pos) F.env=(do
  let ov ←eval (.Name y p) F.env
  dd4 ap.atName
  let(f,first) ←dc2 [ov] (dg5 ov name pl)
  callWith pos f first (backTo pos (cW7 [] F.env)) (backToKw pos (dd1 [] F.env))):=by rfl):Ev X F n (.Call (.Attribute (.Name y p) name ap) [] [] pos) st Q R:=
 λA s φ ω Qr Er hA hI hQ hE=>v2 (af3 O K M i hy hl hm hn hI hd (P9 hI.S.kin M.keep (h.meth O hA hI hm .nil hQ hE))) he
theorem bo2(i:Nat){y p ap a as pos}{name:Str}{f:Addr}{fs:List (String×Fv)}{Q:V->St->Prop}(O:FOk F)(K:A0 X.w.params F.C)(M:T4 X.w.params F.C name f)(hy:F.nm[i]? =some y)(hl:st.loc[i]? =some .me)(hm:st.me=some fs)(hn:name∉nmS fs)
 (h:Evs X F n (a::as) pos st (λvs st1=>∃fs1,st1.me=some fs1/\Cs X n (.ref f) F.C vs (some fs1) (λv me'=>Q v {st1 with me:=me'}) R) R) (hd:(y== ("__debug__":Str))=false:=by decide)
 (hea:cW7 (a::as) F.env=(false,eval a F.env)::cW7 as F.env:=by rfl) (hplain:(backTo pos (cW7 as F.env)).any (·.1)=false:=by rfl)
 {pl:Sem Bool} (he:eval (.Call (.Attribute (.Name y p) name ap) (a::as) [] pos) F.env=(do
  let ov ←eval (.Name y p) F.env
  dd4 ap.atName
  let(f,first) ←dc2 [ov] (dg5 ov name pl)
  callWith pos f first (backTo pos (cW7 (a::as) F.env)) (backToKw pos (dd1 [] F.env))):=by rfl):Ev X F n (.Call (.Attribute (.Name y p) name ap) (a::as) [] pos) st Q R:=
 λA s φ ω Qr Er hA hI hQ hE=>v2 (af3 O K M i hy hl hm hn hI hd (u9 X.kin M.keep (h A s φ ω _ Er hA hI (λvs st1 rs s₁ φ1 ω₁ ⟨fs1,e,hq⟩ hI1 hl1 hvs=>
  ⟨hI1.S.kin,Cs.meth O hA hI1 e hq hvs (λv st' r s' φ' ω' hq' hI' hl' hr=>hQ v st' r s' φ' ω' hq' hI' (hl1.trans hl') hr) hE⟩) hE) hea hplain)) he
theorem Q5{M:Model}{A:Around}{E:Value->Shared->Prop}{s:Shared}{a:Addr}{o:Obj}{m:Str->Option Value}{k:Nat}{name:Str}{v:Value}{Q:Unit->Shared->Prop}(ho:s.heap.get? a=some o)(hm:ObjNs o m)(hk:Z5 o k)
 (h:∀h' o',h'.get? a=some o'->ObjNs o' (λx=>if x=name then some v else m x)->Z5 o' (k+1)->(m name≠none->Z5 o' k)->db1 a s.heap h'->Q () {s with heap:=h',toks:=s.toks+1}):wpAny M A (nsSet a name v) Q E s:=λΓ p H=>by
 obtain⟨es,ep,hd,hke,hf⟩:=hm
 obtain⟨es',ep',hd',hz⟩:=hk
 rw[hd]at hd';cases hd'
 have hn:s.heap.Ns a m:=⟨o,es,ep,ho,hd,hke,hf⟩
 simp only[nsSet,strHash,Sem.wp_bind',Sem.wp_cmd_ask,Sem.wp_pure',Sem.wp_cmd_mkText]
 rw[Sem.wp_loadPart_of M Γ _ p {s with toks:=s.toks+1} (o:=o) _ ho]
 have hany:es.any (·.refKey)=false:=by
  rw[Array.any_eq_false'];intro e he;obtain⟨n,t,h⟩:=hke e he;simp[DictEntry.refKey,h]
 simp only[hd,aRefKeyMayBeTheName_eq,aRefKeyMayBeTheNameByArray,hany,dd6,Bool.false_eq_true,if_false,Sem.wp_cmd_updatePart]
 refine⟨by rw[ho];rfl, ?_⟩
 obtain⟨c,d,dt,sl⟩:=o
 dsimp only at hd
 subst hd
 cases hi:es.findIdx? (·.key.isStr name)with
 |some i=>
  refine h _ _ (da8 _ ho (by simp only[dg7,dc7,hi];rfl)) ?_ ?_ (λH=> ?_) (df7 ..)
  ·refine⟨_,ep,by simp only[dg7,dc7,hi];rfl,hke.modify _ _,λx=> ?_⟩
   show _=if x=name then some v else m x
   rw[←hf];exact findBy_modify (λn v=>v.isStr n) Value.isStr_inj es name x v i hi
  ·exact⟨_,ep,by simp only[dg7,dc7,hi];rfl,by rw[Array.size_modify];lia⟩
  ·exact⟨_,ep,by simp only[dg7,dc7,hi];rfl,by rw[Array.size_modify];lia⟩
 |none=>
  refine h _ _ (da8 _ ho (by simp only[dg7,dc7,hi];rfl)) ?_ ?_ (λhne=> ?_) (df7 ..)
  ·refine⟨_,ep+1,by simp only[dg7,dc7,hi];rfl,hke.push _ _ _ _,λx=> ?_⟩
   show _=if x=name then some v else m x
   rw[←hf]
   exact findBy_push (λn v=>v.isStr n) es name x _ _ v (λy=>by
    show(name==y)=decide (y=name)
    by_cases h:y=name
    ·subst h;simp
    ·have:¬ name=y:=λe=>h e.symm
     simp[h,this]) hi
  ·exact⟨_,ep+1,by simp only[dg7,dc7,hi];rfl,by rw[Array.size_push];lia⟩
  ·refine absurd ?_ hne
   rw[←hf]
   unfold nsFind findBy
   have:=Array.findIdx?_eq_none_iff.mp hi
   rw[Array.find?_eq_none.mpr λx hx=>by show ¬ (x.key.isStr name=true);rw[this x hx];exact de8]
   rfl
theorem bV6{φ ω ψ:PM}{s:Shared}{a C d:Addr}{o:Obj}{m:Str->Option Value}{k:Nat}{x:Str}{r:Value}{A:Around}{Q:Unit->Shared->Prop}{E:Value->Shared->Prop}
 (K:A0 X.w.params C) (L:A1 X.w.params C x) (S:Sep X φ ψ ω s) (h:φ a=some (dg0 C d)) (hd:ω d=some o) (hm:ObjNs o m) (hk:Z5 o k) (hz:k<=1000)
 (hQ:∀h' o' t,ObjNs o' (λy=>if y=x then some r else m y)->Z5 o' (k+1)->(m x≠none->Z5 o' k)->Sep X φ ψ (ω.set d o') {s with heap:=h',toks:=t}->Q () {s with heap:=h',toks:=t}):
 wpAny X.M A (setAttr (.ref a) x r) Q E s:=by
 have I:=ak2 S h (S.kω _ _ hd)
 refine set_plain S.kin I K.sa (osa_open (s:= {s with toks:=s.toks+1}) S.kin I K.po L.tk λb=> ?_)
 obtain⟨cd,hc,hd'⟩:=any_some K.hd
 refine cV4 (cW4 (cV4 (cV4 (wpAny_loadPart I.at_ (cV4 (Looks.here (s:= {s with toks:=s.toks+1}) (looks_clsIn S.kin hc) ?_))))))
 rw[hd']
 refine cW4 (a:=some d) (cV4 (cW4 (cV4 ?_)))
 refine Q5 (s:= {s with toks:=s.toks+1}) (S.kω _ _ hd) hm hk λh' o' e1 e2 e3 e4 hs=> ?_
 obtain⟨es,ep,e5,e6⟩:=id e3
 exact cV4 (wpAny_lookBehind e1 (by rw[e5];exact pastItsLine_dict (by rw[df4];lia)) (cW4 (hQ h' o' _ e2 e3 e4 (S.change hd hs e1))))
theorem aA0{fs:List (String×Fv)}{j:Nat}{x:String}{f g:Fv}(h:fs[j]? =some (x,f)):nmS (fs.set j (x,g))=nmS fs:=by
 unfold nmS
 rw[List.map_set]
 obtain⟨hj,e⟩:=cX6.mp h
 conv=>rhs;rw[←List.set_getElem_self (as:=fs.map λp=>cV1 p.1) (i:=j) (by simpa using hj)]
 simp[e]
end
section
variable {X:Cx} {F:Frm} {n:Nat} {st:St} {R:List UInt8->Prop} {α β γ δ:Type}
theorem EsR.other{φ ω ω':PM}{x:Str}{r:Value}(hω:∀b l,ω b=some (z5 l)->ω' b=some (z5 l)){fs:List (String×Fv)}{m:Str->Option Value}(h:EsR X φ ω fs m):x∉nmS fs->EsR X φ ω' fs (λy=>if y=x then some r else m y):=by
 induction h with
 |nil=>exact λH=> .nil
 |cons e a _ ih=>exact λh=> .cons ((if_neg λe'=>h (by rw[←e'];exact cX5)).trans e) (a.own hω) (ih λh'=>h (cZ2 _ h'))
theorem EsR.set'{φ ω ω':PM}{g:Fv}{x:String}{r:Value}(hv:FvR X φ ω' g r)(hω:∀b l,ω b=some (z5 l)->ω' b=some (z5 l)){fs:List (String×Fv)}{m:Str->Option Value}(h:EsR X φ ω fs m):∀ {j:Nat} {f:Fv},(nmS fs).Nodup->fs[j]? =some (x,f)->
 EsR X φ ω' (fs.set j (x,g)) (λy=>if y=cV1 x then some r else m y):=by
 induction h with
 |nil=>intro j f _ h;exact n7 (List.getElem?_nil.symm.trans h)
 |cons e a b ih=>
  intro j f hn h
  cases j with
  |zero=>cases h;exact .cons (if_pos rfl) hv (b.other hω (dh2.mp hn).1)
  |succ j=>exact .cons ((if_neg λe'=>(dh2.mp hn).1 (Eq.subst (motive:=λz=>z∈nmS _) (Eq.symm e') (List.mem_map_of_mem (f:=λp:String×Fv=>cV1 p.1) (cW1 h)))).trans e) (a.own hω) (ih (dh2.mp hn).2 h)
theorem EsR.snoc{φ ω ω':PM}{g:Fv}{x:String}{r:Value}(hv:FvR X φ ω' g r)(hω:∀b l,ω b=some (z5 l)->ω' b=some (z5 l)){fs:List (String×Fv)}{m:Str->Option Value}(h:EsR X φ ω fs m):cV1 x∉nmS fs->
 EsR X φ ω' (fs++[(x,g)]) (λy=>if y=cV1 x then some r else m y):=by
 induction h with
 |nil=>exact λH=> .cons (if_pos rfl) hv .nil
 |cons e a _ ih=>exact λh=> .cons ((if_neg λe'=>h (by rw[←e'];exact cX5)).trans e) (a.own hω) (ih λh'=>h (cZ2 _ h'))
inductive ad0(x:String)(g:Fv):List (String×Fv)->List (String×Fv)->Prop
 |old {fs f} (j:Nat):fs[j]? =some (x,f)->(nmS fs).Nodup->ad0 x g fs (fs.set j (x,g))
 |new {fs}:cV1 x∉nmS fs->ad0 x g fs (fs++[(x,g)])
set_option tactic.hygienic true in
theorem Inv.setf{φ ω:PM}{s:Shared}{fs fs':List (String×Fv)}{x:String}{g:Fv}{r:Value}{A:Around}{Q:Unit->Shared->Prop}{E:Value->Shared->Prop}(K:A0 X.w.params F.C)(L:A1 X.w.params F.C (cV1 x))(hm:st.me=some fs)(hz:fs.length<=1000)(hs:ad0 x g fs fs')
 {d:Addr} {ω₀:PM} (I0:Inv X F φ ω₀ st s) (hle:ω₀.le ω) (S:Sep X φ F.ψ ω s) (hr:FvR X φ ω g r) (hQ:∀h' t ω',Inv X F φ ω' {st with me:=some fs'} {s with heap:=h',toks:=t}->Q () {s with heap:=h',toks:=t}):wpAny X.M A (setAttr (.ref F.lx) (cV1 x) r) Q E s:=by
 obtain⟨m,oL,d,h1,h1a,h1b,h2,h3,h3b,h4,h5,h6⟩:=I0.ex
 rw[hm]at h6
 obtain⟨g1,o,m',g2,g3,g4,g5,g6⟩:=h6
 refine bV6 K L S g1 (hle _ _ g2) g3 g6 hz λh' o' t e2 e3 e4 S'=> ?_
 have hω:∀b l,ω b=some (z5 l)->(ω.set d o') b=some (z5 l):=λb l e=>by
  unfold PM.set
  rw[if_neg]
  ·exact e
  ·intro e';rw[e',hle _ _ g2]at e;cases e;exact g3.noBa _ rfl
 have hω0:∀b l,ω₀ b=some (z5 l)->(ω.set d o') b=some (z5 l):=λb l e=>hω b l (hle _ _ e)
 have hself:(ω.set d o') d=some o':=by unfold PM.set;rw[if_pos rfl]
 have M:MeR X F.lx F.C φ (ω.set d o') (some fs') d:=by
  cases hs with
  | @old f j hj hn=>
   refine⟨g1,o',_,hself,e2,EsR.set' (hr.own hω) hω0 g4 hn hj,λy hy=> ?_, ?_⟩
   ·rw[aA0 hj]at hy
    rw[if_neg]
    ·exact g5 y hy
    ·intro e;exact hy (by rw[e];exact List.mem_map_of_mem (f:=λp:String×Fv=>cV1 p.1) (cW1 hj))
   ·rw[List.length_set]
    obtain⟨q,e5,_⟩:=g4.get hj
    exact e4 (by rw[e5];simp)
  |new hn=>
   refine⟨g1,o',_,hself,e2,EsR.snoc (hr.own hω) hω0 g4 hn,λy hy=> ?_, ?_⟩
   ·have:y∉nmS fs/\y≠cV1 x:=by
     unfold nmS at hy⊢
     simpa using hy
    rw[if_neg this.2]
    exact g5 y this.1
   ·rw[cV7];exact e3
 refine hQ h' t (ω.set d o') (I0.call (m':=some fs') (λH H=>g1) S' (PM.le.refl _) (by rw[hm];rfl) M λa o₁ h=> ?_)
 rw[hm]at h⊢
 have hm1:z8 true d ω₀ a=false:=by
  unfold q6 at h
  split at h
  ·exact nomatch h
  ·rename_i q;simpa using q
 have e0:ω₀ a=some o₁:=F7 _ _ h
 have had:a≠d:=by intro e;unfold z8 at hm1;simp[e]at hm1
 have e1:(ω.set d o') a=some o₁:=by unfold PM.set;rw[if_neg had];exact hle _ _ e0
 show(if _ then _ else _)=_
 rw[if_neg]
 ·exact e1
 ·have:z8 true d (ω.set d o') a=false:=by
   unfold z8 at hm1⊢
   rw[e0]at hm1
   rw[e1];exact hm1
  show ¬ (z8 true d (ω.set d o') a=true)
  rw[this];exact de8
theorem n8(i:Nat){y p p' e pos}{x:String}{Q:Fl->St->Prop}(O:FOk F)(K:A0 X.w.params F.C)(L:A1 X.w.params F.C (cV1 x))(hy:F.nm[i]? =some y)
 (h:Ev X F n e st (λv st1=>∃fs fs',st1.me=some fs/\st1.loc[i]? =some .me/\fs.length<=1000/\ad0 x (.val v) fs fs'/\Q .next {st1 with me:=some fs'}) R)
 (hs:dd3 e (some (.Attribute (.Name y p) (cV1 x) p')) pos.line F.env=pure false:=by rfl) (hd:(y== ("__debug__":Str))=false:=by decide):
 Ex X F n (.Assign [.Attribute (.Name y p) (cV1 x) p'] e pos) st Q R:=
 λA s φ ω Qr Er hA hI hQ hE=>B8 (h A s φ ω _ Er hA hI (λv st1 r₁ s₁ φ1 ω₁ ⟨fs,fs',e1,e2,e3,e4,hq⟩ hI1 hl1 hv=>by
  obtain⟨m,oL,d,h1,h1a,h1b,h2,h3,h3b,h4,h5,h6⟩:=id hI1.ex
  refine i9 <| db9 (cW9 O.kind (O.loc y (cW1 hy)) h2 (h3 i y _ hy e2) ?_) hd
  exact i9 <| Inv.setf (d:=d) (ω₀:=ω₁) K L e1 e3 e4 hI1 (PM.le.refl _) hI1.S hv λh' t ω' I'=>hQ _ _ _ _ _ _ hq I' hl1 rfl) hE) hs
theorem aI9(i j:Nat){y p p' e pos op}{x:String}{v₀:V}{fs:List (String×Fv)}{Q:Fl->St->Prop}(O:FOk F)(K:A0 X.w.params F.C)(L:A1 X.w.params F.C (cV1 x))(hy:F.nm[i]? =some y)(hl:st.loc[i]? =some .me)(hm:st.me=some fs)(hf:fs[j]? =some (x, .val v₀))
 (h:Ev X F n e st (λv st1=>∃fs fs' w,st1.me=some fs/\fs.length<=1000/\Pu2 X n (inplaceOp op) v₀ v w/\ad0 x (.val w) fs fs'/\Q .next {st1 with me:=some fs'}) R) (hd:(y== ("__debug__":Str))=false:=by decide):
 Ex X F n (.AugAssign (.Attribute (.Name y p) (cV1 x) p') op e pos) st Q R:=
 λA s φ ω Qr Er hA hI hQ hE=>F5 (by
  obtain⟨m,oL,d,h1,h1a,h1b,h2,h3,h3b,h4,h5,h6⟩:=id hI.ex
  refine i9 <| db9 (cW9 O.kind (O.loc y (cW1 hy)) h2 (h3 i y _ hy hl) ?_) hd
  rw[hm]at h6
  obtain⟨g1,o,m',g2,g3,g4,g5,g6⟩:=h6
  obtain⟨r,e1,e2⟩:=g4.get hf
  refine i9 <| R1 K L hI.S g1 (hI.S.kω _ _ g2) g3 e1 (RV.handed e2) ?_
  refine h A _ φ ω _ Er hA (hI.toks _) (λv st1 r₁ s₁ φ1 ω₁ ⟨fs1,fs',w,e3,e4,hp,hs,hq⟩ hI1 hl1 hv=> ?_) hE
  refine i9 <| hp F A s₁ φ1 ω₁ st1 _ Er _ hA hI1 (.two (RV.mono hl1 e2) hv) λr₂ s₂ φ2 hI2 hl₂ hr=> ?_
  exact i9 <| Inv.setf (d:=d) (ω₀:=ω₁) K L e3 e4 hs hI2 (PM.le.refl _) hI2.S hr λh' t ω' I'=>hQ _ _ _ _ _ _ hq I' (hl1.trans hl₂) rfl)
end
noncomputable def bd(st:Stmt):List Stmt:=match st with
 | .FunctionDef _ _ b _ _ _ _ _ _ _=>b
 |_=>[]
noncomputable def w9(st:Stmt)(q:String)(dflt md cd:Value):FuncData:=match st with
 | .FunctionDef n a b _ _ _ sc _ _ _=> {name:=n,qualname:=cV1 q,params:=a,body:= .stmts b,scope:=sc,globals:=3,closure:=[],defaults:=dflt,kwdefaults:= .none,pyModule:=md,code:=cd}
 |_=>default
noncomputable def aX1(K:Frag)(fd:FuncData)(nm:List Str)(k:Nat):Bool:=
 codeIn K fd.code fd.qualname&&fd.globals==cW5&&fd.closure.isEmpty&&fd.builtins==cZ8&& !fd.scope.isCoroutine&& !fd.scope.isGenerator&& (fd.scope.kind== .function) &&
 (fd.scope.names.all λx=>decide (x.2≠ .cell)) && (nm.all λx=>decide (fd.scope.names.lookup x=some .local)) &&decide nm.Nodup&&decide (k<=nm.length)
noncomputable def dvL:List Value:=[I 64 210,I 250 211,I 60 212,I 200 213,I 40 214,I 200 215,I 2000 216,I 50 217,I 1000000000 218,I 1000000 219]
theorem lz{P:List Value->Prop}(h:P []):∀l:List Value,l.length=0->P l:=λl e=>by
 cases l with
 |nil=>exact h
 |cons=>cases e
theorem ls{k:Nat}{P:List Value->Prop}(h:∀a,∀l:List Value,l.length=k->P (a::l)):∀l:List Value,l.length=k+1->P l:=λl e=>by
 cases l with
 |nil=>cases e
 |cons a l=>exact h a l (Nat.succ.inj e)
theorem DefOk.mk'{P:Params}{f:Addr}{fd:FuncData}{body:List Stmt}{nm:List Str}{k:Nat}{dv:List Value}(h1:(KP P).lookup f=some {cls:= .type "function",data:= .func fd})(h2:aX1 (KP P) fd nm (k+dv.length)=true)(h3:fd.body= .stmts body)
 (h4:∀vals:List Value,vals.length=k->∀s:Shared,(KP P).In s.heap->BindsTo s fd ⟨vals,[]⟩ (nm.zip (vals++dv))):DefOk P f fd body nm k dv:=by
 unfold aX1 at h2
 simp only[cX7,decide_eq_true_eq,cZ3,beq_iff_eq,db8,List.isEmpty_iff]at h2
 obtain⟨⟨⟨⟨⟨⟨⟨⟨⟨⟨a,b⟩,c⟩,d⟩,e⟩,f⟩,g⟩,h⟩,i⟩,j⟩,l⟩:=h2
 exact⟨h1,a,h3,b,c,d,e,f,g,h,i,j,h4,l⟩
noncomputable def cU5:FuncData:=w9 (me pw 3 0) "Limits.__init__" (.ref 29) (S "lua.values" 194) (.ref 35)
noncomputable def cT9:List Stmt:=bd (me pw 3 0)
noncomputable def cM9:List Str:=[cV1 "self",cV1 "width",cV1 "registers",cV1 "upvalues",cV1 "local_names",cV1 "ccalls",cV1 "frames",cV1 "stack",cV1 "flush",cV1 "steps",cV1 "text"]
theorem D36(P:Params):DefOk P 36 cU5 cT9 cM9 1 dvL:= .mk' (by kernel_rfl) (by kernel_rfl) (by kernel_rfl) (ls λH=>lz λs X=>binds_K X (T:=29) (items:=dvL.toArray) (n:=0) rfl (o:=z9 dvL) (by kernel_rfl) rfl rfl (by kernel_rfl))
noncomputable def cN5:FuncData:=w9 (me pw 4 0) "LuaError.__init__" .none (S "lua.values" 194) (.ref 70)
noncomputable def cJ2:List Stmt:=bd (me pw 4 0)
noncomputable def nm71:List Str:=[cV1 "self",cV1 "value"]
theorem D71(P:Params):DefOk P 71 cN5 cJ2 nm71 2:= .mk' (by kernel_rfl) (by kernel_rfl) (by kernel_rfl) (ls λH=>ls λH=>lz λs X=>cV9 (by kernel_rfl))
noncomputable def cs4:FuncData:=w9 (at_ pw 6) "is_number" .none (S "lua.values" 194) (.ref 95)
noncomputable def co1:List Stmt:=bd (at_ pw 6)
noncomputable def bP7:List Str:=[cV1 "value"]
theorem D96(P:Params):DefOk P 96 cs4 co1 bP7 1:= .mk' (by kernel_rfl) (by kernel_rfl) (by kernel_rfl) (ls λH=>lz λs X=>cV9 (by kernel_rfl))
noncomputable def bJ1:FuncData:=w9 (at_ pw 7) "wrap" .none (S "lua.values" 194) (.ref 102)
noncomputable def bG6:List Stmt:=bd (at_ pw 7)
noncomputable def aS0:List Str:=[cV1 "n",cV1 "width",cV1 "low"]
theorem cS1(P:Params):DefOk P 103 bJ1 bG6 aS0 2:= .mk' (by kernel_rfl) (by kernel_rfl) (by kernel_rfl) (ls λH=>ls λH=>lz λs X=>cV9 (by kernel_rfl))
noncomputable def bN2:FuncData:=w9 (at_ pw 8) "is_blank" .none (S "lua.values" 194) (.ref 109)
noncomputable def bL7:List Stmt:=bd (at_ pw 8)
noncomputable def aT9:List Str:=[cV1 "octet"]
theorem cM7(P:Params):DefOk P 110 bN2 bL7 aT9 1:= .mk' (by kernel_rfl) (by kernel_rfl) (by kernel_rfl) (ls λH=>lz λs X=>cV9 (by kernel_rfl))
noncomputable def br7:FuncData:=w9 (at_ pw 10) "digit_of" .none (S "lua.values" 194) (.ref 116)
noncomputable def bA4:List Stmt:=bd (at_ pw 10)
noncomputable def aO0:List Str:=[cV1 "octet"]
theorem cU3(P:Params):DefOk P 117 br7 bA4 aO0 1:= .mk' (by kernel_rfl) (by kernel_rfl) (by kernel_rfl) (ls λH=>lz λs X=>cV9 (by kernel_rfl))
noncomputable def bI5:FuncData:=w9 (at_ pw 11) "read_digits" .none (S "lua.values" 194) (.ref 123)
noncomputable def bH0:List Stmt:=bd (at_ pw 11)
noncomputable def ba1:List Str:=[cV1 "text",cV1 "at",cV1 "base",cV1 "found",cV1 "digit"]
theorem cP1(P:Params):DefOk P 124 bI5 bH0 ba1 3:= .mk' (by kernel_rfl) (by kernel_rfl) (by kernel_rfl) (ls λH=>ls λH=>ls λH=>lz λs X=>cV9 (by kernel_rfl))
noncomputable def bv2:FuncData:=w9 (at_ pw 12) "skip_blanks" .none (S "lua.values" 194) (.ref 130)
noncomputable def bz7:List Stmt:=bd (at_ pw 12)
noncomputable def aM6:List Str:=[cV1 "text",cV1 "at"]
theorem cI9(P:Params):DefOk P 131 bv2 bz7 aM6 2:= .mk' (by kernel_rfl) (by kernel_rfl) (by kernel_rfl) (ls λH=>ls λH=>lz λs X=>cV9 (by kernel_rfl))
noncomputable def bw3:FuncData:=w9 (at_ pw 13) "str_to_number" .none (S "lua.values" 194) (.ref 137)
noncomputable def bs2:List Stmt:=bd (at_ pw 13)
noncomputable def aX8:List Str:=[cV1 "text",cV1 "limits"]
theorem cT0(P:Params):DefOk P 138 bw3 bs2 aX8 2:= .mk' (by kernel_rfl) (by kernel_rfl) (by kernel_rfl) (ls λH=>ls λH=>lz λs X=>cV9 (by kernel_rfl))
noncomputable def bD0:FuncData:=w9 (at_ pw 14) "text_in_base" .none (S "lua.values" 194) (.ref 144)
noncomputable def bK5:List Stmt:=bd (at_ pw 14)
noncomputable def aN1:List Str:=[cV1 "text",cV1 "base",cV1 "limits",cV1 "at",cV1 "is_below",cV1 "is_marked",cV1 "found",cV1 "end"]
theorem cL0(P:Params):DefOk P 145 bD0 bK5 aN1 3:= .mk' (by kernel_rfl) (by kernel_rfl) (by kernel_rfl) (ls λH=>ls λH=>ls λH=>lz λs X=>cV9 (by kernel_rfl))
noncomputable def bN5:FuncData:=w9 (at_ pw 15) "number_text" .none (S "lua.values" 194) (.ref 151)
noncomputable def bC3:List Stmt:=bd (at_ pw 15)
noncomputable def aP9:List Str:=[cV1 "n",cV1 "left",cV1 "found"]
theorem cP7(P:Params):DefOk P 152 bN5 bC3 aP9 1:= .mk' (by kernel_rfl) (by kernel_rfl) (by kernel_rfl) (ls λH=>lz λs X=>cV9 (by kernel_rfl))
noncomputable def bF3:FuncData:=w9 (at_ pw 16) "to_text" .none (S "lua.values" 194) (.ref 158)
noncomputable def bz4:List Stmt:=bd (at_ pw 16)
noncomputable def aW2:List Str:=[cV1 "value"]
theorem cM4(P:Params):DefOk P 159 bF3 bz4 aW2 1:= .mk' (by kernel_rfl) (by kernel_rfl) (by kernel_rfl) (ls λH=>lz λs X=>cV9 (by kernel_rfl))
noncomputable def bz8:FuncData:=w9 (at_ pw 17) "c_text" .none (S "lua.values" 194) (.ref 165)
noncomputable def bD6:List Stmt:=bd (at_ pw 17)
noncomputable def ba6:List Str:=[cV1 "text",cV1 "at"]
theorem cL6(P:Params):DefOk P 166 bz8 bD6 ba6 1:= .mk' (by kernel_rfl) (by kernel_rfl) (by kernel_rfl) (ls λH=>lz λs X=>cV9 (by kernel_rfl))
noncomputable def bt1:FuncData:=w9 (at_ pw 19) "chunk_id" .none (S "lua.values" 194) (.ref 179)
noncomputable def bv1:List Stmt:=bd (at_ pw 19)
noncomputable def aW0:List Str:=[cV1 "source",cV1 "size",cV1 "room",cV1 "name",cV1 "line"]
theorem cv5(P:Params):DefOk P 180 bt1 bv1 aW0 2:= .mk' (by kernel_rfl) (by kernel_rfl) (by kernel_rfl) (ls λH=>ls λH=>lz λs X=>cV9 (by kernel_rfl))
noncomputable def bL5:FuncData:=w9 (at_ pw 53) "is_digit" .none (S "lua.lexer" 430) (.ref 188)
noncomputable def bu9:List Stmt:=bd (at_ pw 53)
noncomputable def aT7:List Str:=[cV1 "sign"]
theorem cN0(P:Params):DefOk P 189 bL5 bu9 aT7 1:= .mk' (by kernel_rfl) (by kernel_rfl) (by kernel_rfl) (ls λH=>lz λs X=>cV9 (by kernel_rfl))
noncomputable def bu7:FuncData:=w9 (at_ pw 54) "is_letter" .none (S "lua.lexer" 430) (.ref 195)
noncomputable def bs6:List Stmt:=bd (at_ pw 54)
noncomputable def aS3:List Str:=[cV1 "sign"]
theorem cR8(P:Params):DefOk P 196 bu7 bs6 aS3 1:= .mk' (by kernel_rfl) (by kernel_rfl) (by kernel_rfl) (ls λH=>lz λs X=>cV9 (by kernel_rfl))
noncomputable def bE3:FuncData:=w9 (at_ pw 55) "is_name_sign" .none (S "lua.lexer" 430) (.ref 202)
noncomputable def bC4:List Stmt:=bd (at_ pw 55)
noncomputable def aX9:List Str:=[cV1 "sign"]
theorem cQ7(P:Params):DefOk P 203 bE3 bC4 aX9 1:= .mk' (by kernel_rfl) (by kernel_rfl) (by kernel_rfl) (ls λH=>lz λs X=>cV9 (by kernel_rfl))
noncomputable def bJ9:FuncData:=w9 (at_ pw 56) "is_blank" .none (S "lua.lexer" 430) (.ref 209)
noncomputable def bB4:List Stmt:=bd (at_ pw 56)
noncomputable def bc3:List Str:=[cV1 "sign"]
theorem cP5(P:Params):DefOk P 210 bJ9 bB4 bc3 1:= .mk' (by kernel_rfl) (by kernel_rfl) (by kernel_rfl) (ls λH=>lz λs X=>cV9 (by kernel_rfl))
noncomputable def bF1:FuncData:=w9 (at_ pw 58) "is_control" .none (S "lua.lexer" 430) (.ref 216)
noncomputable def bB1:List Stmt:=bd (at_ pw 58)
noncomputable def aP0:List Str:=[cV1 "sign"]
theorem cN3(P:Params):DefOk P 217 bF1 bB1 aP0 1:= .mk' (by kernel_rfl) (by kernel_rfl) (by kernel_rfl) (ls λH=>lz λs X=>cV9 (by kernel_rfl))
noncomputable def bz6:FuncData:=w9 (at_ pw 59) "is_newline" .none (S "lua.lexer" 430) (.ref 223)
noncomputable def bs0:List Stmt:=bd (at_ pw 59)
noncomputable def aR5:List Str:=[cV1 "sign"]
theorem cT5(P:Params):DefOk P 224 bz6 bs0 aR5 1:= .mk' (by kernel_rfl) (by kernel_rfl) (by kernel_rfl) (ls λH=>lz λs X=>cV9 (by kernel_rfl))
noncomputable def bs1:FuncData:=w9 (at_ pw 60) "escaped_sign" .none (S "lua.lexer" 430) (.ref 230)
noncomputable def bx0:List Stmt:=bd (at_ pw 60)
noncomputable def aP6:List Str:=[cV1 "sign",cV1 "at"]
theorem cJ6(P:Params):DefOk P 231 bs1 bx0 aP6 1:= .mk' (by kernel_rfl) (by kernel_rfl) (by kernel_rfl) (ls λH=>lz λs X=>cV9 (by kernel_rfl))
noncomputable def aQ7:FuncData:=w9 (at_ pw 61) "reserved_kinds" .none (S "lua.lexer" 430) (.ref 237)
noncomputable def cj1:List Stmt:=bd (at_ pw 61)
noncomputable def aE3:List Str:=[cV1 "kinds",cV1 "at",cV1 "word"]
theorem cz7(P:Params):DefOk P 238 aQ7 cj1 aE3 0:= .mk' (by kernel_rfl) (by kernel_rfl) (by kernel_rfl) (lz λs X=>cV9 (by kernel_rfl))
noncomputable def bM9:FuncData:=w9 (at_ pw 62) "token_text" .none (S "lua.lexer" 430) (.ref 244)
noncomputable def bM8:List Stmt:=bd (at_ pw 62)
noncomputable def bb2:List Str:=[cV1 "kind",cV1 "at"]
theorem cl3(P:Params):DefOk P 245 bM9 bM8 bb2 1:= .mk' (by kernel_rfl) (by kernel_rfl) (by kernel_rfl) (ls λH=>lz λs X=>cV9 (by kernel_rfl))
noncomputable def cx3:FuncData:=w9 (me pw 63 0) "Token.__init__" .none (S "lua.lexer" 430) (.ref 258)
noncomputable def cp2:List Stmt:=bd (me pw 63 0)
noncomputable def cj2:List Str:=[cV1 "self",cV1 "kind",cV1 "value"]
theorem cx7(P:Params):DefOk P 259 cx3 cp2 cj2 3:= .mk' (by kernel_rfl) (by kernel_rfl) (by kernel_rfl) (ls λH=>ls λH=>ls λH=>lz λs X=>cV9 (by kernel_rfl))
noncomputable def bI2:FuncData:=w9 (me pw 64 0) "Lexer.__init__" .none (S "lua.lexer" 430) (.ref 279)
noncomputable def bD9:List Stmt:=bd (me pw 64 0)
noncomputable def aU7:List Str:=[cV1 "self",cV1 "text",cV1 "chunk",cV1 "limits"]
theorem cH9(P:Params):DefOk P 280 bI2 bD9 aU7 4:= .mk' (by kernel_rfl) (by kernel_rfl) (by kernel_rfl) (ls λH=>ls λH=>ls λH=>ls λH=>lz λs X=>cV9 (by kernel_rfl))
noncomputable def bx7:FuncData:=w9 (me pw 64 1) "Lexer.next" .none (S "lua.lexer" 430) (.ref 286)
noncomputable def bC0:List Stmt:=bd (me pw 64 1)
noncomputable def aW9:List Str:=[cV1 "self"]
theorem cr5(P:Params):DefOk P 287 bx7 bC0 aW9 1:= .mk' (by kernel_rfl) (by kernel_rfl) (by kernel_rfl) (ls λH=>lz λs X=>cV9 (by kernel_rfl))
noncomputable def bB5:FuncData:=w9 (me pw 64 2) "Lexer.lookahead" .none (S "lua.lexer" 430) (.ref 293)
noncomputable def bv0:List Stmt:=bd (me pw 64 2)
noncomputable def bb5:List Str:=[cV1 "self"]
theorem cB3(P:Params):DefOk P 294 bB5 bv0 bb5 1:= .mk' (by kernel_rfl) (by kernel_rfl) (by kernel_rfl) (ls λH=>lz λs X=>cV9 (by kernel_rfl))
noncomputable def bF5:FuncData:=w9 (me pw 64 3) "Lexer.error" .none (S "lua.lexer" 430) (.ref 300)
noncomputable def bL6:List Stmt:=bd (me pw 64 3)
noncomputable def ba9:List Str:=[cV1 "self",cV1 "text",cV1 "kind",cV1 "message"]
theorem cR6(P:Params):DefOk P 301 bF5 bL6 ba9 3:= .mk' (by kernel_rfl) (by kernel_rfl) (by kernel_rfl) (ls λH=>ls λH=>ls λH=>lz λs X=>cV9 (by kernel_rfl))
noncomputable def bF0:FuncData:=w9 (me pw 64 5) "Lexer.near_text" .none (S "lua.lexer" 430) (.ref 314)
noncomputable def bM6:List Stmt:=bd (me pw 64 5)
noncomputable def aR3:List Str:=[cV1 "self",cV1 "kind"]
theorem cw5(P:Params):DefOk P 315 bF0 bM6 aR3 2:= .mk' (by kernel_rfl) (by kernel_rfl) (by kernel_rfl) (ls λH=>ls λH=>lz λs X=>cV9 (by kernel_rfl))
noncomputable def bC6:FuncData:=w9 (me pw 64 6) "Lexer.move" .none (S "lua.lexer" 430) (.ref 321)
noncomputable def bI7:List Stmt:=bd (me pw 64 6)
noncomputable def aV6:List Str:=[cV1 "self"]
theorem cO1(P:Params):DefOk P 322 bC6 bI7 aV6 1:= .mk' (by kernel_rfl) (by kernel_rfl) (by kernel_rfl) (ls λH=>lz λs X=>cV9 (by kernel_rfl))
noncomputable def bx6:FuncData:=w9 (me pw 64 7) "Lexer.keep" .none (S "lua.lexer" 430) (.ref 328)
noncomputable def bH4:List Stmt:=bd (me pw 64 7)
noncomputable def aP8:List Str:=[cV1 "self",cV1 "sign"]
theorem cQ1(P:Params):DefOk P 329 bx6 bH4 aP8 2:= .mk' (by kernel_rfl) (by kernel_rfl) (by kernel_rfl) (ls λH=>ls λH=>lz λs X=>cV9 (by kernel_rfl))
noncomputable def bH6:FuncData:=w9 (me pw 64 8) "Lexer.keep_and_move" .none (S "lua.lexer" 430) (.ref 335)
noncomputable def bK0:List Stmt:=bd (me pw 64 8)
noncomputable def aY4:List Str:=[cV1 "self"]
theorem cI8(P:Params):DefOk P 336 bH6 bK0 aY4 1:= .mk' (by kernel_rfl) (by kernel_rfl) (by kernel_rfl) (ls λH=>lz λs X=>cV9 (by kernel_rfl))
noncomputable def bN1:FuncData:=w9 (me pw 64 9) "Lexer.keep_if" .none (S "lua.lexer" 430) (.ref 342)
noncomputable def bH5:List Stmt:=bd (me pw 64 9)
noncomputable def aK9:List Str:=[cV1 "self",cV1 "signs"]
theorem cJ3(P:Params):DefOk P 343 bN1 bH5 aK9 2:= .mk' (by kernel_rfl) (by kernel_rfl) (by kernel_rfl) (ls λH=>ls λH=>lz λs X=>cV9 (by kernel_rfl))
noncomputable def bu3:FuncData:=w9 (me pw 64 10) "Lexer.clear" .none (S "lua.lexer" 430) (.ref 349)
noncomputable def by2:List Stmt:=bd (me pw 64 10)
noncomputable def ba7:List Str:=[cV1 "self"]
theorem cH5(P:Params):DefOk P 350 bu3 by2 ba7 1:= .mk' (by kernel_rfl) (by kernel_rfl) (by kernel_rfl) (ls λH=>lz λs X=>cV9 (by kernel_rfl))
noncomputable def bB8:FuncData:=w9 (me pw 64 11) "Lexer.end_line" .none (S "lua.lexer" 430) (.ref 356)
noncomputable def bx5:List Stmt:=bd (me pw 64 11)
noncomputable def bb0:List Str:=[cV1 "self",cV1 "first"]
theorem cR2(P:Params):DefOk P 357 bB8 bx5 bb0 1:= .mk' (by kernel_rfl) (by kernel_rfl) (by kernel_rfl) (ls λH=>lz λs X=>cV9 (by kernel_rfl))
noncomputable def bv8:FuncData:=w9 (me pw 64 12) "Lexer.read" .none (S "lua.lexer" 430) (.ref 363)
noncomputable def bt6:List Stmt:=bd (me pw 64 12)
noncomputable def aU2:List Str:=[cV1 "self",cV1 "sign"]
theorem cH8(P:Params):DefOk P 364 bv8 bt6 aU2 1:= .mk' (by kernel_rfl) (by kernel_rfl) (by kernel_rfl) (ls λH=>lz λs X=>cV9 (by kernel_rfl))
noncomputable def bA6:FuncData:=w9 (me pw 64 13) "Lexer.skip_blank" .none (S "lua.lexer" 430) (.ref 370)
noncomputable def bF8:List Stmt:=bd (me pw 64 13)
noncomputable def bb4:List Str:=[cV1 "self"]
theorem cK3(P:Params):DefOk P 371 bA6 bF8 bb4 1:= .mk' (by kernel_rfl) (by kernel_rfl) (by kernel_rfl) (ls λH=>lz λs X=>cV9 (by kernel_rfl))
noncomputable def bF4:FuncData:=w9 (me pw 64 14) "Lexer.sign_behind" .none (S "lua.lexer" 430) (.ref 377)
noncomputable def bN4:List Stmt:=bd (me pw 64 14)
noncomputable def aM7:List Str:=[cV1 "self"]
theorem cO3(P:Params):DefOk P 378 bF4 bN4 aM7 1:= .mk' (by kernel_rfl) (by kernel_rfl) (by kernel_rfl) (ls λH=>lz λs X=>cV9 (by kernel_rfl))
noncomputable def bI4:FuncData:=w9 (me pw 64 15) "Lexer.skip_comment" .none (S "lua.lexer" 430) (.ref 384)
noncomputable def bs3:List Stmt:=bd (me pw 64 15)
noncomputable def aQ8:List Str:=[cV1 "self",cV1 "level"]
theorem cT7(P:Params):DefOk P 385 bI4 bs3 aQ8 1:= .mk' (by kernel_rfl) (by kernel_rfl) (by kernel_rfl) (ls λH=>lz λs X=>cV9 (by kernel_rfl))
noncomputable def bz9:FuncData:=w9 (me pw 64 16) "Lexer.read_compared" .none (S "lua.lexer" 430) (.ref 391)
noncomputable def bA1:List Stmt:=bd (me pw 64 16)
noncomputable def aO9:List Str:=[cV1 "self",cV1 "sign"]
theorem cK0(P:Params):DefOk P 392 bz9 bA1 aO9 2:= .mk' (by kernel_rfl) (by kernel_rfl) (by kernel_rfl) (ls λH=>ls λH=>lz λs X=>cV9 (by kernel_rfl))
noncomputable def bJ5:FuncData:=w9 (me pw 64 17) "Lexer.read_dots" .none (S "lua.lexer" 430) (.ref 398)
noncomputable def by0:List Stmt:=bd (me pw 64 17)
noncomputable def aM1:List Str:=[cV1 "self"]
theorem cK6(P:Params):DefOk P 399 bJ5 by0 aM1 1:= .mk' (by kernel_rfl) (by kernel_rfl) (by kernel_rfl) (ls λH=>lz λs X=>cV9 (by kernel_rfl))
noncomputable def bN3:FuncData:=w9 (me pw 64 18) "Lexer.read_word" .none (S "lua.lexer" 430) (.ref 405)
noncomputable def bM1:List Stmt:=bd (me pw 64 18)
noncomputable def aY2:List Str:=[cV1 "self",cV1 "word",cV1 "kind"]
theorem cK4(P:Params):DefOk P 406 bN3 bM1 aY2 1:= .mk' (by kernel_rfl) (by kernel_rfl) (by kernel_rfl) (ls λH=>lz λs X=>cV9 (by kernel_rfl))
noncomputable def bN9:FuncData:=w9 (me pw 64 19) "Lexer.read_numeral" .none (S "lua.lexer" 430) (.ref 412)
noncomputable def bE0:List Stmt:=bd (me pw 64 19)
noncomputable def aW6:List Str:=[cV1 "self",cV1 "value"]
theorem cH7(P:Params):DefOk P 413 bN9 bE0 aW6 1:= .mk' (by kernel_rfl) (by kernel_rfl) (by kernel_rfl) (ls λH=>lz λs X=>cV9 (by kernel_rfl))
noncomputable def bD2:FuncData:=w9 (me pw 64 20) "Lexer.read_bracket" .none (S "lua.lexer" 430) (.ref 419)
noncomputable def bL2:List Stmt:=bd (me pw 64 20)
noncomputable def aU5:List Str:=[cV1 "self",cV1 "level"]
theorem cN2(P:Params):DefOk P 420 bD2 bL2 aU5 1:= .mk' (by kernel_rfl) (by kernel_rfl) (by kernel_rfl) (ls λH=>lz λs X=>cV9 (by kernel_rfl))
noncomputable def bu4:FuncData:=w9 (me pw 64 21) "Lexer.read_level" .none (S "lua.lexer" 430) (.ref 426)
noncomputable def br9:List Stmt:=bd (me pw 64 21)
noncomputable def aU0:List Str:=[cV1 "self",cV1 "bracket",cV1 "many"]
theorem cU0(P:Params):DefOk P 427 bu4 br9 aU0 1:= .mk' (by kernel_rfl) (by kernel_rfl) (by kernel_rfl) (ls λH=>lz λs X=>cV9 (by kernel_rfl))
noncomputable def bB0:FuncData:=w9 (me pw 64 22) "Lexer.read_long" .none (S "lua.lexer" 430) (.ref 433)
noncomputable def bB3:List Stmt:=bd (me pw 64 22)
noncomputable def aR1:List Str:=[cV1 "self",cV1 "level",cV1 "is_text",cV1 "begin"]
theorem cI5(P:Params):DefOk P 434 bB0 bB3 aR1 3:= .mk' (by kernel_rfl) (by kernel_rfl) (by kernel_rfl) (ls λH=>ls λH=>ls λH=>lz λs X=>cV9 (by kernel_rfl))
noncomputable def bB9:FuncData:=w9 (me pw 64 23) "Lexer.read_inner" .none (S "lua.lexer" 430) (.ref 440)
noncomputable def bA3:List Stmt:=bd (me pw 64 23)
noncomputable def aX4:List Str:=[cV1 "self",cV1 "level"]
theorem cR5(P:Params):DefOk P 441 bB9 bA3 aX4 2:= .mk' (by kernel_rfl) (by kernel_rfl) (by kernel_rfl) (ls λH=>ls λH=>lz λs X=>cV9 (by kernel_rfl))
noncomputable def bt4:FuncData:=w9 (me pw 64 24) "Lexer.read_string" .none (S "lua.lexer" 430) (.ref 447)
noncomputable def bt7:List Stmt:=bd (me pw 64 24)
noncomputable def aT4:List Str:=[cV1 "self",cV1 "quote"]
theorem cS3(P:Params):DefOk P 448 bt4 bt7 aT4 2:= .mk' (by kernel_rfl) (by kernel_rfl) (by kernel_rfl) (ls λH=>ls λH=>lz λs X=>cV9 (by kernel_rfl))
noncomputable def bx9:FuncData:=w9 (me pw 64 25) "Lexer.read_escape" .none (S "lua.lexer" 430) (.ref 454)
noncomputable def bB6:List Stmt:=bd (me pw 64 25)
noncomputable def aZ2:List Str:=[cV1 "self",cV1 "told"]
theorem cM0(P:Params):DefOk P 455 bx9 bB6 aZ2 1:= .mk' (by kernel_rfl) (by kernel_rfl) (by kernel_rfl) (ls λH=>lz λs X=>cV9 (by kernel_rfl))
noncomputable def bM5:FuncData:=w9 (me pw 64 26) "Lexer.read_digits" .none (S "lua.lexer" 430) (.ref 461)
noncomputable def bt5:List Stmt:=bd (me pw 64 26)
noncomputable def aT5:List Str:=[cV1 "self",cV1 "value",cV1 "many"]
theorem cG9(P:Params):DefOk P 462 bM5 bt5 aT5 1:= .mk' (by kernel_rfl) (by kernel_rfl) (by kernel_rfl) (ls λH=>lz λs X=>cV9 (by kernel_rfl))
noncomputable def by3:FuncData:=w9 (at_ pw 65) "all_tokens" .none (S "lua.lexer" 430) (.ref 475)
noncomputable def by4:List Stmt:=bd (at_ pw 65)
noncomputable def aQ0:List Str:=[cV1 "text",cV1 "chunk",cV1 "limits",cV1 "lexer",cV1 "found",cV1 "token"]
theorem cG6(P:Params):DefOk P 476 by3 by4 aQ0 3:= .mk' (by kernel_rfl) (by kernel_rfl) (by kernel_rfl) (ls λH=>ls λH=>ls λH=>lz λs X=>cV9 (by kernel_rfl))
noncomputable def bG3:FuncData:=w9 (at_ pw 67) "_law_words" .none (S "law_nt0645_01" 886) (.ref 482)
noncomputable def bE6:List Stmt:=bd (at_ pw 67)
noncomputable def aJ9:List Str:=[]
theorem cR4(P:Params):DefOk P 483 bG3 bE6 aJ9 0:= .mk' (by kernel_rfl) (by kernel_rfl) (by kernel_rfl) (lz λs X=>cV9 (by kernel_rfl))
noncomputable def bA5:FuncData:=w9 (at_ pw 68) "_law_gaps" .none (S "law_nt0645_01" 886) (.ref 489)
noncomputable def bF9:List Stmt:=bd (at_ pw 68)
noncomputable def bb9:List Str:=[]
theorem cG8(P:Params):DefOk P 490 bA5 bF9 bb9 0:= .mk' (by kernel_rfl) (by kernel_rfl) (by kernel_rfl) (lz λs X=>cV9 (by kernel_rfl))
noncomputable def bs4:FuncData:=w9 (at_ pw 69) "_law_bad" .none (S "law_nt0645_01" 886) (.ref 496)
noncomputable def bx3:List Stmt:=bd (at_ pw 69)
noncomputable def aK8:List Str:=[]
theorem cS6(P:Params):DefOk P 497 bs4 bx3 aK8 0:= .mk' (by kernel_rfl) (by kernel_rfl) (by kernel_rfl) (lz λs X=>cV9 (by kernel_rfl))
noncomputable def by5:FuncData:=w9 (at_ pw 70) "_law_signs" .none (S "law_nt0645_01" 886) (.ref 503)
noncomputable def bC7:List Stmt:=bd (at_ pw 70)
noncomputable def aJ8:List Str:=[cV1 "found",cV1 "one"]
theorem cN8(P:Params):DefOk P 504 by5 bC7 aJ8 0:= .mk' (by kernel_rfl) (by kernel_rfl) (by kernel_rfl) (lz λs X=>cV9 (by kernel_rfl))
noncomputable def bD4:FuncData:=w9 (at_ pw 71) "_law_octets" .none (S "law_nt0645_01" 886) (.ref 510)
noncomputable def bK7:List Stmt:=bd (at_ pw 71)
noncomputable def aK1:List Str:=[cV1 "number",cV1 "found",cV1 "turn"]
theorem cS2(P:Params):DefOk P 511 bD4 bK7 aK1 1:= .mk' (by kernel_rfl) (by kernel_rfl) (by kernel_rfl) (ls λH=>lz λs X=>cV9 (by kernel_rfl))
noncomputable def bJ2:FuncData:=w9 (at_ pw 72) "_law_quoted" .none (S "law_nt0645_01" 886) (.ref 517)
noncomputable def bv5:List Stmt:=bd (at_ pw 72)
noncomputable def aV0:List Str:=[cV1 "number",cV1 "octets",cV1 "mark",cV1 "found",cV1 "ends",cV1 "one",cV1 "plain",cV1 "letter"]
theorem cT4(P:Params):DefOk P 518 bJ2 bv5 aV0 2:= .mk' (by kernel_rfl) (by kernel_rfl) (by kernel_rfl) (ls λH=>ls λH=>lz λs X=>cV9 (by kernel_rfl))
noncomputable def bL1:FuncData:=w9 (at_ pw 73) "_law_long" .none (S "law_nt0645_01" 886) (.ref 522)
noncomputable def bv3:List Stmt:=bd (at_ pw 73)
noncomputable def aT2:List Str:=[cV1 "number",cV1 "octets",cV1 "turn",cV1 "level",cV1 "found",cV1 "ends",cV1 "one"]
theorem cH2(P:Params):DefOk P 523 bL1 bv3 aT2 2:= .mk' (by kernel_rfl) (by kernel_rfl) (by kernel_rfl) (ls λH=>ls λH=>lz λs X=>cV9 (by kernel_rfl))
noncomputable def bt2:FuncData:=w9 (at_ pw 74) "_law_digits" .none (S "law_nt0645_01" 886) (.ref 529)
noncomputable def bJ8:List Stmt:=bd (at_ pw 74)
noncomputable def aK4:List Str:=[cV1 "number",cV1 "base",cV1 "found"]
theorem cN1(P:Params):DefOk P 530 bt2 bJ8 aK4 2:= .mk' (by kernel_rfl) (by kernel_rfl) (by kernel_rfl) (ls λH=>ls λH=>lz λs X=>cV9 (by kernel_rfl))
noncomputable def bN8:FuncData:=w9 (at_ pw 75) "_law_token" .none (S "law_nt0645_01" 886) (.ref 536)
noncomputable def bG1:List Stmt:=bd (at_ pw 75)
noncomputable def ba4:List Str:=[cV1 "number",cV1 "form",cV1 "rest",cV1 "at",cV1 "name",cV1 "octets",cV1 "piece",cV1 "ends",cV1 "told",cV1 "kind"]
theorem cI0(P:Params):DefOk P 537 bN8 bG1 ba4 1:= .mk' (by kernel_rfl) (by kernel_rfl) (by kernel_rfl) (ls λH=>lz λs X=>cV9 (by kernel_rfl))
noncomputable def cn4:FuncData:=w9 (at_ pw 76) "_law_refused" .none (S "law_nt0645_01" 886) (.ref 543)
noncomputable def cF2:List Stmt:=bd (at_ pw 76)
noncomputable def cw8:List Str:=[cV1 "piece",cV1 "caught"]
theorem co9(P:Params):DefOk P 544 cn4 cF2 cw8 1:= .mk' (by kernel_rfl) (by kernel_rfl) (by kernel_rfl) (ls λH=>lz λs X=>cV9 (by kernel_rfl))
noncomputable def aU1:FuncData:=w9 (at_ pw 77) "law" .none (S "law_nt0645_01" 886) (.ref 548)
noncomputable def bd549:List Stmt:=bd (at_ pw 77)
noncomputable def aE8:List Str:=[cV1 "script",cV1 "some",cV1 "whole",cV1 "due",cV1 "ends",cV1 "line",cV1 "one",cV1 "gap",cV1 "more",cV1 "piece",cV1 "kind",cV1 "told",cV1 "inner",cV1 "lexer",cV1 "spot",cV1 "at",cV1 "pair",cV1 "token",cV1 "ahead",cV1 "bad",cV1 "message",cV1 "due_message"]
theorem bQ2(P:Params):DefOk P 549 aU1 bd549 aE8 1:= .mk' (by kernel_rfl) (by kernel_rfl) (by kernel_rfl) (ls λH=>lz λs X=>cV9 (by kernel_rfl))
noncomputable def an5(K:Frag)(x:Str)(i:Int):Bool:=match nsIn K cW5 x with
 |some (some (.int j _))=>j==i
 |_=>false
set_option tactic.hygienic true in
theorem aB9{K:Frag}{x:Str}{i:Int}(h:an5 K x i=true):∃t,nsIn K cW5 x=some (some (.int i t)):=by
 unfold an5 at h
 split at h
 ·rename_i j t e;exact⟨t,by rw[e,beq_iff_eq.mp h]⟩
 ·exact cV2 h
theorem bm0{X:Cx}{F:Frm}{n:Nat}{st:St}{R:List UInt8->Prop}{x:Str}{pos}{i:Int}{Q:V->St->Prop}(O:FOk F)(hk:F.scope.names.lookup x=some .globalImplicit)(hg:an5 X.K x i=true)(h:Q (.int i) st)(hd:(x== ("__debug__":Str))=false:=by decide):Ev X F n (.Name x pos) st Q R:=
 let⟨t,e⟩:=aB9 hg;ai2 O hk e .int h hd
theorem O4(P:Params):nsIn (KP P) cW5 "LuaSyntaxError"=some (some (.ref 87)):=by kernel_rfl
theorem aL5(P:Params):nsIn (KP P) cW5 "len"=some none/\nsIn (KP P) cZ8 "len"=some (some (.builtin "len")):=by constructor<;>kernel_rfl
theorem X6(P:Params):nsIn (KP P) cW5 "bytes"=some none/\nsIn (KP P) cZ8 "bytes"=some (some (.type "bytes")):=by constructor<;>kernel_rfl
theorem R2(P:Params):nsIn (KP P) cW5 "bytearray"=some none/\nsIn (KP P) cZ8 "bytearray"=some (some (.type "bytearray")):=by constructor<;>kernel_rfl
theorem ad5(P:Params):nsIn (KP P) cW5 "isinstance"=some none/\nsIn (KP P) cZ8 "isinstance"=some (some (.builtin "isinstance")):=by constructor<;>kernel_rfl
theorem cg7(P:Params):nsIn (KP P) cW5 "abs"=some none/\nsIn (KP P) cZ8 "abs"=some (some (.builtin "abs")):=by constructor<;>kernel_rfl
theorem bb3(P:Params):nsIn (KP P) cW5 "range"=some none/\nsIn (KP P) cZ8 "range"=some (some (.type "range")):=by constructor<;>kernel_rfl
theorem O2(P:Params):nsIn (KP P) cW5 "enumerate"=some none/\nsIn (KP P) cZ8 "enumerate"=some (some (.type "enumerate")):=by constructor<;>kernel_rfl
theorem bP4(P:Params):A0 P 465:=⟨by kernel_rfl,by kernel_rfl,by kernel_rfl,by kernel_rfl,by kernel_rfl⟩
noncomputable def fn465:List String:=["text","source","chunk","limits","kinds","at","sign","line","last_line","buffer","current","ahead"]
theorem ak1(P:Params):A0 P 262:=⟨by kernel_rfl,by kernel_rfl,by kernel_rfl,by kernel_rfl,by kernel_rfl⟩
theorem af7(P:Params):A1 P 262 (cV1 "kind"):=⟨by kernel_rfl,by kernel_rfl⟩
theorem X4(P:Params):A1 P 262 (cV1 "value"):=⟨by kernel_rfl,by kernel_rfl⟩
theorem H0(P:Params):A0 P 53:=⟨by kernel_rfl,by kernel_rfl,by kernel_rfl,by kernel_rfl,by kernel_rfl⟩
noncomputable def fn53:List String:=["width","registers","upvalues","local_names","ccalls","frames","stack","flush","steps","text"]
theorem aG6(P:Params):A1 P 53 (cV1 "width"):=⟨by kernel_rfl,by kernel_rfl⟩
theorem aP4(P:Params):A1 P 53 (cV1 "text"):=⟨by kernel_rfl,by kernel_rfl⟩
theorem Cs.det{X:Cx}{n k:Nat}{f:Value}{C:Addr}{vs:List V}{me m0:Option (List (String×Fv))}{v0:V}{Q:V->Option (List (String×Fv))->Prop}{R R':List UInt8->Prop}(h:Cs X k f C vs me (λv m=>v=v0/\m=m0) R)(hk:k<=n)(hr:∀msg,R msg->R' msg)(hq:Q v0 m0):Cs X n f C vs me Q R':=
 (h.up hk).mono (λ_ _ ⟨a,b⟩=>a▸b▸hq) hr
noncomputable abbrev v4:List UInt8->Prop:=λH=>False
section
variable {X:Cx} {F:Frm} {n:Nat} {st:St} {R:List UInt8->Prop} {α β γ δ:Type}
theorem cz6{y p a as pos}{id:String}{Q:V->St->Prop}(O:FOk F)(hk:F.scope.names.lookup y=some .globalImplicit)(hg:nsIn X.K cW5 y=some none/\nsIn X.K cZ8 y=some (some (.builtin id)))
 (h:Evs X F n (a::as) pos st (λvs st1=>∃w,Pu X n vs (λrs=>call (.builtin id) rs) (λφ=>RV X φ w)/\Q w st1) R) (hd:(y== ("__debug__":Str))=false:=by decide)
 (he:cW7 (a::as) F.env=(false,eval a F.env)::cW7 as F.env:=by rfl) (hplain:(backTo pos (cW7 as F.env)).any (·.1)=false:=by rfl):Ev X F n (.Call (.Name y p) (a::as) [] pos) st Q R:=
 λA s φ ω Qr Er hA hI hQ hE=>m8 (bi O hI hk hg.1 hg.2 (n4 (h A s φ ω _ Er hA hI (λvs st1 rs s₁ φ1 ω₁ ⟨w,hp,hq⟩ hI1 hl1 hvs=>
  i9 <| hp F A s₁ φ1 ω₁ st1 Qr Er rs hA hI1 hvs λr s' φ' hI' hl' hr=>hQ _ _ _ _ _ _ hq hI' (hl1.trans hl') hr) hE) he hplain) hd)
theorem cE1{y p a as pos}{T:String}{Q:V->St->Prop}(O:FOk F)(hk:F.scope.names.lookup y=some .globalImplicit)(hg:nsIn X.K cW5 y=some none/\nsIn X.K cZ8 y=some (some (.type T)))
 (h:Evs X F n (a::as) pos st (λvs st1=>∃w,Pu X n vs (λrs=>call (.type T) rs) (λφ=>RV X φ w)/\Q w st1) R) (hd:(y== ("__debug__":Str))=false:=by decide)
 (he:cW7 (a::as) F.env=(false,eval a F.env)::cW7 as F.env:=by rfl) (hplain:(backTo pos (cW7 as F.env)).any (·.1)=false:=by rfl):Ev X F n (.Call (.Name y p) (a::as) [] pos) st Q R:=
 λA s φ ω Qr Er hA hI hQ hE=>m8 (bi O hI hk hg.1 hg.2 (C7 (h A s φ ω _ Er hA hI (λvs st1 rs s₁ φ1 ω₁ ⟨w,hp,hq⟩ hI1 hl1 hvs=>
  i9 <| hp F A s₁ φ1 ω₁ st1 Qr Er rs hA hI1 hvs λr s' φ' hI' hl' hr=>hQ _ _ _ _ _ _ hq hI' (hl1.trans hl') hr) hE) he hplain) hd)
theorem Pu.one{t:List Value->Sem Value}{v w:V}(h:∀F A s φ ω st Qr Er r,Rm (F.env::F.outer) A n->Inv X F φ ω st s->RV X φ v r->(∀r s' φ',Inv X F φ' ω st s'->φ.le φ'->RV X φ' w r->Qr r s')->wpAny X.M A (t [r]) Qr Er s):Pu X n [v] t (λφ=>RV X φ w):=
 λF A s φ ω st Qr Er rs hA hI hv hQ=>by
  refine hv.oneE λr h1=> ?_
  exact h F A s φ ω st Qr Er _ hA hI h1 hQ
theorem bj3{l:List UInt8}(hz:l.length<=16777216):Pu X n [.bytes l] (λrs=>call (.builtin "len") rs) (λφ=>RV X φ (.int l.length)):=Pu.one λF A s φ ω st Qr Er r hA hI h1 hQ=>by
 refine h1.bytesE λu=> ?_
 exact len_bytes (by simp;lia) (by simpa using hQ _ _ φ (hI.toks _) (PM.le.refl _) .int)
theorem bk8{l:List V}(hz:l.length<=16777216):Pu X n [.lst l] (λrs=>call (.builtin "len") rs) (λφ=>RV X φ (.int l.length)):=Pu.one λF A s φ ω st Qr Er r hA hI h1 hQ=>by
 refine h1.lstE λa vs k ha hv=> ?_
 exact Calls.call_len_list (v7 hI.S ha) (by simp[hv.len];lia) (by simpa[hv.len]using hQ _ _ φ (hI.toks _) (PM.le.refl _) .int)
theorem bR6{i:Int}:Pu X n [.int i] (λrs=>call (.builtin "abs") rs) (λφ=>RV X φ (.int (if i < 0 then -i else i))):=Pu.one λF A s φ ω st Qr Er r hA hI h1 hQ=>by
 refine h1.intE λu=> ?_
 exact call_abs_int λu tk=>hQ _ _ φ (hI.toks _) (PM.le.refl _) .int
theorem cb1{a b:Int}:Pu X n [.int a, .int b] (λrs=>call (.builtin "max") rs) (λφ=>RV X φ (.int (if b> a then b else a))):=λF A s φ ω st Qr Er rs hA hI hv hQ=>by
 refine hv.twoE λr q h1 h2=>h1.intE λu=>h2.intE λu'=> ?_
 refine max_two_ints hA.handled λh' tk hk=>hQ _ _ φ ((hI.toks tk).junk hk rfl rfl) (PM.le.refl _) ?_
 split<;>exact .int
theorem bl9{x y z pos}{l}{Q:V->St->Prop}(h:Ev X F n x st (λv st1=>∃b,PuT X n v b/\(b=true->Ev X F n (.BoolOp .And (y::z::l) pos) st1 Q R)/\(b=false->Q v st1)) R):Ev X F n (.BoolOp .And (x::y::z::l) pos) st Q R:=
 λA s φ ω Qr Er hA hI hQ hE=>by
  show d6 _ A (do
   let v ←eval x F.env
   dd4 pos
   let t ←dc2 [v] (truthy v)
   match BoolOp.And,t with
   | .And,false| .Or,true=>pure v
   |_,_=>boolOp pos .And (evalEach (y::z::l) F.env)) Qr Er s
  refine a0 (h A s φ ω _ Er hA hI (λv st1 r₁ s₁ φ1 ω₁ ⟨b,hp,h1,h2⟩ hI1 hl1 hv=>i6 (a0 (i4
   (i9 <| hp F A s₁ φ1 ω₁ st1 _ Er _ hA hI1 (.one hv) λc s₃ φ3 hI3 hl3 hr=> ?_)))) hE)
  subst hr
  cases c with
  |true=>exact h1 rfl A s₃ φ3 ω₁ Qr Er hA hI3 (λv' st2 r₂ s₂ φ2 ω₂ hq2 hI2 hl₂ hv₂=>hQ _ _ _ _ _ _ hq2 hI2 (hl1.trans (hl3.trans hl₂)) hv₂) hE
  |false=>exact b7 (hQ _ _ _ _ _ _ (h2 rfl) hI3 (hl1.trans hl3) (hv.mono hl3))
theorem sz{k:Nat}(h:k<=16777216):k<=sizeLine:=by rw[df4];exact h
noncomputable def byt(ns:List Int):List UInt8:=ns.map λi=>i.toNat.toUInt8
theorem aZ0{l:List V}(hi:n9 l=true)(hr:∀i∈i5 l,0<=i/\i < 256)(hz:l.length<=sizeLine):Pu X n [.lst l] (λrs=>call (.type "bytes") rs) (λφ=>RV X φ (.bytes (byt (i5 l)))):=Pu.one λF A s φ ω st Qr Er r hA hI h1 hQ=>by
 refine h1.lstE λa vs k ha hv=> ?_
 refine call_bytes_ints (v7 hI.S ha) (G0 hv hi) hr (by rw[hv.len];exact hz) hA.handled λh' t k hk=>hQ _ _ φ ((hI.toks k).junk hk rfl rfl) (PM.le.refl _) ?_
 have e:byteArr (i5 l)=(byt (i5 l)).toArray:=by simp[byteArr,byt]
 rw[e];exact .bytes
end
section
variable {X:Cx} {F:Frm} {n:Nat} {st:St} {R:List UInt8->Prop} {α β γ δ:Type}
theorem az2(i:Nat){x:Str}{p' ep pos}{Q:Fl->St->Prop}(O:FOk F)(hx:F.nm[i]? =some x)(h:∀a,Q .next {st with loc:=st.loc.set i (.own a [])})
 (hs:dd3 (.List [] ep) (some (.Name x p')) pos.line F.env=pure false:=by rfl):Ex X F n (.Assign [.Name x p'] (.List [] ep) pos) st Q R:=
 λA s φ ω Qr Er hA hI hQ hE=>t8 (D8 (i9 <| cZ1 ⟨sz (by decide),by
  have S:=hI.S.pushω (j0 [] 0) rfl s.toks
  have I:=hI.junk (s':= {s with heap:=s.heap.push (j0 [] 0)}) (λa o e=>cV6 _ e) rfl rfl
  refine I.store (ω:=ω.set s.heap.objs.size (j0 [] 0)) S (λa o e=> ?_) O i hx (.own s.heap.objs.size []) ⟨rfl,hI.S.fresh.2.2,[],0, ?_, .nil⟩ λh' ω' I'=>hQ _ _ _ _ _ _ (h _) I' (PM.le.refl _) rfl
  ·unfold PM.set
   rw[if_neg]
   ·exact e
   ·intro e';rw[e',hI.S.fresh.2.2]at e;exact nomatch e
  ·unfold PM.set;rw[if_pos rfl]⟩)) hs
theorem Inv.ownSet{φ ω:PM}{s:Shared}{h':Heap}{t:Nat}{j:Nat}{a:Addr}{l l':List V}{vs':List Value}{k':Nat}(I:Inv X F φ ω st s)(hj:st.loc[j]? =some (.own a l))(hs:db1 a s.heap h')(he:h'.get? a=some (j0 vs' k'))(hv:RVs X φ l' vs'):
 Inv X F φ (ω.set a (j0 vs' k')) {st with loc:=st.loc.set j (.own a l')} {s with heap:=h',toks:=t}:=by
 obtain⟨m,oL,d,h1,h1a,h1b,h2,h3,h3b,h4,h5,h6⟩:=I.ex
 obtain⟨vs,k,g1,g2⟩:=h3b j a l hj
 have hne:∀b o,ω b=some o->(∀vs n,o.data≠ .seq vs n)->(ω.set a (j0 vs' k')) b=some o:=λb o e hn=>by
  unfold PM.set
  rw[if_neg]
  ·exact e
  ·intro e';rw[e',g1]at e;cases e;exact hn _ _ rfl
 have hLa:F.L≠a:=by intro e;rw[e,g1]at h1;cases h1;exact h1a _ _ rfl
 refine⟨I.S.change g1 hs he,⟨m,oL,d,hne _ _ h1 h1a,h1a,h1b,h2.sameBut hs hLa,λi x sl hi hsl=> ?_,λi b l₂ hi=> ?_,λi i' b c l₁ l₂ hi hi' hii=> ?_,h5, ?_⟩,I.out,I.new⟩
 ·rw[db0]at hsl
  by_cases e:j=i
  ·subst e
   rw[if_pos rfl]at hsl
   split at hsl
   ·cases hsl
    exact h3 j x _ hi hj
   ·exact nomatch hsl
  ·rw[if_neg e]at hsl
   have:=h3 i x sl hi hsl
   cases sl<;>exact this
 ·rw[db0]at hi
  by_cases e:j=i
  ·subst e
   rw[if_pos rfl]at hi
   split at hi
   ·cases hi
    exact⟨vs',k',by unfold PM.set;rw[if_pos rfl],hv⟩
   ·exact nomatch hi
  ·rw[if_neg e]at hi
   obtain⟨ws,k₂,g3,g4⟩:=h3b i b l₂ hi
   exact⟨ws,k₂,by unfold PM.set;rw[if_neg (h4 i j b a l₂ l hi hj (λe'=>e e'.symm))];exact g3,g4⟩
 ·rw[db0]at hi hi'
  have key:∀(i:Nat) b l₁,(if j=i then if j < st.loc.length then some (Sl.own a l')else none else st.loc[i]?)=some (.own b l₁)->∃l₂,st.loc[i]? =some (.own b l₂):=by
   intro i b l₁ h
   by_cases e:j=i
   ·subst e
    rw[if_pos rfl]at h
    split at h
    ·cases h;exact⟨l,hj⟩
    ·exact nomatch h
   ·rw[if_neg e]at h;exact⟨l₁,h⟩
  obtain⟨_,e1⟩:=key i b l₁ hi
  obtain⟨_,e2⟩:=key i' c l₂ hi'
  exact h4 i i' b c _ _ e1 e2 hii
 ·show MeR X F.lx F.C φ _ st.me d
  cases hm:st.me with
  |none=>trivial
  |some fs=>
   rw[hm]at h6
   refine h6.sub (λH o ho=> ?_) (λH b l hb=> ?_)
   ·obtain⟨_,o₂,_,e1,e2,_⟩:=h6
    have e1:ω d=some o₂:=e1
    rw[e1]at ho;cases ho
    exact hne _ _ e1 e2.noSeq
   ·exact hne _ _ hb (λvs n e=>by exact nomatch e)
theorem aG4(j:Nat){x:Str}{p ap e pos}{a:Addr}{l₀:List V}{Q:V->St->Prop}(O:FOk F)(hx:F.nm[j]? =some x)(hj:st.loc[j]? =some (.own a l₀))
 (h:Ev X F n e st (λv st1=>∃l,st1.loc[j]? =some (.own a l)/\l.length<=sizeLine/\Q .none {st1 with loc:=st1.loc.set j (.own a (l++[v]))}) R) (hd:(x== ("__debug__":Str))=false:=by decide)
 (hea:cW7 [e] F.env=(false,eval e F.env)::cW7 [] F.env:=by rfl)
 {pl:Sem Bool} (he:eval (.Call (.Attribute (.Name x p) (cV1 "append") ap) [e] [] pos) F.env=(do
  let ov ←eval (.Name x p) F.env
  dd4 ap.atName
  let(f,first) ←dc2 [ov] (dg5 ov (cV1 "append") pl)
  callWith pos f first (backTo pos (cW7 [e] F.env)) (backToKw pos (dd1 [] F.env))):=by rfl):Ev X F n (.Call (.Attribute (.Name x p) (cV1 "append") ap) [e] [] pos) st Q R:=
 λA s φ ω Qr Er hA hI hQ hE=>by
  obtain⟨m,oL,d,h1,h1a,h1b,h2,h3,h3b,h4,h5,h6⟩:=id hI.ex
  obtain⟨vs,k,g1,g2⟩:=h3b j a l₀ hj
  refine v2 (i9 <| db9 (cW9 O.kind (O.loc x (cW1 hx)) h2 (h3 j x _ hx hj) (i9 <| Calls.getMethod_list_append (hI.S.kω _ _ g1) rfl rfl ?_)) hd) he
  refine n4 (first:=[.ref a]) ?_ hea
  rw[hea]
  have:=h A s φ ω (λv s₁=>d6 X.M A (call (.builtin "list.append") [.ref a,v]) Qr Er s₁) Er hA hI (λv st1 r₁ s₁ φ1 ω₁ ⟨l,e1,e2,hq⟩ hI1 hl1 hv=>by
   obtain⟨_,_,_,_,_,_,_,_,h3b',_⟩:=hI1.ex
   obtain⟨ws,k₁,e3,e4⟩:=h3b' j a l e1
   have hlen:=e4.len
   refine i9 <| call_meets slot_list_append ⟨_,hI1.S.kω _ _ e3,rfl⟩ entry_list_append (args_list_append _ _) (list_append a ws.toArray k₁ r₁ (by simpa[hlen]using e2)) ⟨hI1.S.kω _ _ e3, ?_⟩
   have eo:Obj.mapSeq (λx_1=>x_1.push r₁) (j0 ws k₁)=j0 (ws++[r₁]) (k₁+1):=by rw[Obj.mapSeq_push_plain];simp
   exact hQ _ _ _ _ _ _ hq (hI1.ownSet (t:=s₁.toks) e1 (df7 ..) (by rw[da8 _ (hI1.S.kω _ _ e3) (by rw[eo];rfl),eo]) (e4.append (.cons hv .nil))) hl1 .none) hE
  exact F4 (j4 this (λv s₁ h'=>i9 (Calls.spliced_nil h')) λH H e=>e)
theorem Tr.freeze{t:Sem β}{Rl:PM->α->β->Prop}{Q:α->St->Prop}(j:Nat){a:Addr}{l:List V}(hj:st.loc[j]? =some (.own a l))(h:Tr X F n t Rl {st with loc:=st.loc.set j (.val (.lst l))} Q R):Tr X F n t Rl st Q R:=
 λA s φ ω Qr Er hA hI hQ hE=>by
  obtain⟨m,oL,d,h1,h1a,h1b,h2,h3,h3b,h4,h5,h6⟩:=id hI.ex
  obtain⟨vs,k,g1,g2⟩:=h3b j a l hj
  have P:=hI.S.freeze g1
  have hne:∀b o,ω b=some o->(∀vs n,o.data≠ .seq vs n)->(ω.del a) b=some o:=λb o e hn=>by
   unfold PM.del
   rw[if_neg]
   ·exact e
   ·intro e';rw[e',g1]at e;cases e;exact hn _ _ rfl
  have hself:(φ.set a (j0 vs k)) a=some (j0 vs k):=by unfold PM.set;rw[if_pos rfl]
  have I:Inv X F (φ.set a (j0 vs k)) (ω.del a) {st with loc:=st.loc.set j (.val (.lst l))} s:=by
   refine⟨P.1,⟨m,oL,d,hne _ _ h1 h1a,h1a,h1b,h2,λi x sl hi hsl=> ?_,λi b l₂ hi=> ?_,λi i' b c l₁ l₂ hi hi' hii=> ?_,h5, ?_⟩,hI.out,hI.new⟩
   ·rw[db0]at hsl
    by_cases e:j=i
    ·subst e
     rw[if_pos rfl]at hsl
     split at hsl
     ·cases hsl
      exact⟨_,h3 j x _ hi hj, .lst hself (g2.mono P.2)⟩
     ·exact nomatch hsl
    ·rw[if_neg e]at hsl
     have:=(h3 i x sl hi hsl).mono P.2
     cases sl<;>exact this
   ·rw[db0]at hi
    by_cases e:j=i
    ·subst e
     rw[if_pos rfl]at hi
     split at hi<;>exact nomatch hi
    ·rw[if_neg e]at hi
     obtain⟨ws,k₂,g3,g4⟩:=h3b i b l₂ hi
     exact⟨ws,k₂,by unfold PM.del;rw[if_neg (h4 i j b a l₂ l hi hj (λe'=>e e'.symm))];exact g3,g4.mono P.2⟩
   ·rw[db0]at hi hi'
    by_cases e:j=i
    ·subst e;rw[if_pos rfl]at hi;split at hi<;>exact nomatch hi
    ·by_cases e':j=i'
     ·subst e';rw[if_pos rfl]at hi';split at hi'<;>exact nomatch hi'
     ·rw[if_neg e]at hi;rw[if_neg e']at hi'
      exact h4 i i' b c _ _ hi hi' hii
   ·show MeR X F.lx F.C _ _ st.me d
    cases hm:st.me with
    |none=>trivial
    |some fs=>
     rw[hm]at h6
     refine(h6.mono P.2).sub (λH o ho=> ?_) (λH b l hb=> ?_)
     ·obtain⟨_,o₂,_,e1,e2,_⟩:=h6
      have e1:ω d=some o₂:=e1
      rw[e1]at ho;cases ho
      exact hne _ _ e1 e2.noSeq
     ·exact hne _ _ hb (λvs n e=>by exact nomatch e)
  exact h A s _ _ Qr Er hA I (λv' st2 r₂ s₂ φ2 ω₂ hq2 hI2 hl₂ hv₂=>hQ _ _ _ _ _ _ hq2 hI2 (P.2.trans hl₂) hv₂) hE
end
section
variable {X:Cx} {F:Frm} {n:Nat} {st:St} {R:List UInt8->Prop} {α β γ δ:Type}
theorem RVs.reverse{φ:PM}{l:List V}{vs:List Value}(h:RVs X φ l vs):RVs X φ l.reverse vs.reverse:=by
 induction l generalizing vs with
 |nil=>cases h;exact .nil
 |cons x l ih=>
  cases h with|cons a b=>
  rw[List.reverse_cons,List.reverse_cons]
  exact(ih b).append (.cons a .nil)
theorem bn{x:Str}:∀(r:Value) (Q:Unit->Shared->Prop) (E:Value->Shared->Prop) (A:Around) (s:Shared),wpAny X.M A (storeName F.env x r) Q E s->wpAny X.M A (bindName F.env x r) Q E s:=λH H H H H h=>wpAny_bindName h
theorem an{x:Str}{p:Pos}:∀(r:Value) (Q:Unit->Shared->Prop) (E:Value->Shared->Prop) (A:Around) (s:Shared),wpAny X.M A (storeName F.env x r) Q E s->wpAny X.M A (assign (.Name x p) F.env r) Q E s:=λH H H H H h=>wpAny_assign_Name h
theorem be5(names:List Str)(is:List Nat){elts k tpos es kv pe pos}{Q:Fl->St->Prop}(O:FOk F)(T:Tg X F (names.reverse.map λn=>bindName F.env n) is)(hl:names.length<=16777216)
 (hw:cX1 [.Tuple elts k tpos] (.Tuple es kv pe) F.env=pure (some names)) (h:Evs X F n es pe st (λvs st1=>vs.length=is.length/\vs.length=names.length/\Q .next (A4 st1 (is.zip vs.reverse))) R)
 (hs:df9 [.Tuple elts k tpos] (.Tuple es kv pe) pos.line F.env=pure false:=by rfl):Ex X F n (.Assign [.Tuple elts k tpos] (.Tuple es kv pe) pos) st Q R:=
 λA s φ ω Qr Er hA hI hQ hE=>u0 (F3 (h A s φ ω _ Er hA hI (λvs st1 rs s₁ φ1 ω₁ ⟨e1,e2,hq⟩ hI1 hl1 hv=>by
  have P:=hI1.push (z9 rs) s₁.toks
  refine⟨sz (by rw[hv.len,e2];exact hl), ?_⟩
  have ht:=G2 P.1.S P.2.2
  have:names.length=rs.toArray.size:=by simp[hv.len,e2]
  rw[this]
  refine wpAny_unpackItems_tuple hA.handled ht λh' he=> ?_
  have I':=(P.1.extBut he (t:=s₁.toks))
  exact aj6 O T (by simpa using e1) (by simpa using ((hv.mono P.2.1).reverse)) I' λs' ω' I''=>hQ _ _ _ _ _ _ hq I'' (hl1.trans P.2.1) rfl) hE)) hs hw
theorem aF6(is:List Nat){elts k tpos e pos}{Q:Fl->St->Prop}(O:FOk F)(T:Tg X F ((dg2 elts F.env).map (·.2)) is)(hstar:(dg2 elts F.env).findIdx? (·.1)=none)
 (h:Ev X F n e st (λv st1=>∃vs,v= .tup vs/\vs.length=is.length/\Q .next (A4 st1 (is.zip vs))) R)
 (hs:df9 [.Tuple elts k tpos] e pos.line F.env=pure false:=by rfl) (hw:cX1 [.Tuple elts k tpos] e F.env=pure none:=by rfl):Ex X F n (.Assign [.Tuple elts k tpos] e pos) st Q R:=
 λA s φ ω Qr Er hA hI hQ hE=>M2 (h A s φ ω _ Er hA hI (λv st1 r s₁ φ1 ω₁ ⟨vs,e1,e2,hq⟩ hI1 hl1 hv=>by
  subst e1
  refine hv.tupE λa ws ha hv=> ?_
  have hlen:(dg2 elts F.env).length=is.length:=by
   have:∀ {ts is},Tg X F ts is->ts.length=is.length:=λT=>by induction T with|nil=>rfl|cons _ _ _ ih=>simp[ih]
   simpa using this T
  refine wpAny_assign_Tuple hA.handled (G2 hI1.S ha) (by simp[hv.len,hlen,e2]) hstar λh' he=> ?_
  exact aj6 O T e2 (by simpa using hv) (hI1.extBut he (t:=s₁.toks)) λs' ω' I''=>hQ _ _ _ _ _ _ hq I'' hl1 rfl) hE) hs hw
end
section
variable {X:Cx} {F:Frm} {n:Nat} {st:St} {R:List UInt8->Prop} {α β γ δ:Type}
theorem Rm.make{outer:List Env}{A:Around}{C:Addr}{vs:List Value}(h:Rm outer A (n+1)):Rm outer (A.under (.builtin "type.__call__" ⟨.ref C::vs,[]⟩)) n:=
 ⟨h.handled,by have:=h.depth;rw[depth_under_make];lia,by have:=h.units;show A.units+1+_+_<=_;lia,h.frames,h.guards⟩
structure Z1(P:Params)(C fI:Addr):Prop where
 makes:makesIn (KP P) C=true
 ini:findIn (KP P) (.ref C) "__init__"=some (some (.ref fI))
 ty:typeIn (KP P) (.ref fI)=some (.type "function")
theorem aP3:ObjNs emptyDict (λH=>none):=⟨#[],0,rfl,λe he=>by simp at he,λname=>rfl⟩
theorem as7{d:Addr}{ω:PM}:q6 false d ω=ω:=by funext a;rfl
set_option tactic.hygienic true in
theorem aw2{A:Around}{s:Shared}{φ ψ ω:PM}{C fI L d0:Addr}{outer:List Env}{vs:List V}{rs:List Value}{fs:List (String×Fv)}{Qr Er:Value->Shared->Prop}(N:Z1 X.w.params C fI)(hA:Rm outer A (n+1))(hC:ac3 X outer ψ ω false d0)
 (hL:(∃msg,R msg)->X.H₀.get? L=none/\∃o,(ψ L=some o∨ω L=some o)/\∀vs,o.data≠ .fields vs) (hS:Sep X φ ψ ω s) (hv:RVs X φ vs rs) (h:Cs X n (.ref fI) C vs (some []) (λv m=>v= .none/\m=some fs) R)
 (hQ:∀x d s' φ' ω',Sep X φ' ψ ω' s'->φ.le φ'->ω.le ω'->ω d=none->MeR X x C φ' ω' (some fs) d->Qr (.ref x) s') (hE:∀x s' msg,R msg->ExIn X (ψ.or ω) L s' x msg->Er (.ref x) s'):o7 X.M A (.call (.ref C) ⟨rs,[]⟩) (aL8 Qr Er) s:=by
 obtain⟨hh,g,dd,t,os⟩:=s
 refine ax0 (makes_of hS.kin N.makes) (looks_findIn hS.kin N.ini) (λself=>bind_fn hS.kin self N.ty) (.inl rfl) ?_
 obtain⟨f1,f2,f3⟩:=hS.fresh
 have f1:φ hh.objs.size=none:=f1
 have f2:ψ hh.objs.size=none:=f2
 have f3:ω hh.objs.size=none:=f3
 have S1:=hS.pushω emptyDict rfl t
 have S2:=S1.pushφ (dg0 C hh.objs.size) rfl t
 have le1:ω.le (ω.set hh.objs.size emptyDict):=λa o e=>by
  unfold PM.set
  rw[if_neg]
  ·exact e
  ·intro e';rw[e',f3]at e;exact nomatch e
 have le2:(PM.emp.set hh.objs.size emptyDict).le (ω.set hh.objs.size emptyDict):=λa o e=>by
  unfold PM.set PM.emp at e
  unfold PM.set
  split at e
  ·rename_i q;rw[if_pos q];exact e
  ·exact nomatch e
 have S3:=S2.1.enter (ω₁:=ω) (ω₂:=PM.emp.set hh.objs.size emptyDict) le1 le2 (λa ha=>by
  unfold PM.set PM.emp
  rw[if_neg]
  intro e';rw[e']at ha;exact ha f3)
 have hself:(PM.emp.set hh.objs.size emptyDict) hh.objs.size=some emptyDict:=by unfold PM.set;rw[if_pos rfl]
 have hsz:(hh.push emptyDict).objs.size=hh.objs.size+1:=Heap.size_push ..
 have hx:(φ.set (hh.objs.size+1) (dg0 C hh.objs.size)) (hh.objs.size+1)=some (dg0 C hh.objs.size):=by unfold PM.set;rw[if_pos rfl]
 have S3:Sep X (φ.set (hh.objs.size+1) (dg0 C hh.objs.size)) (ψ.or ω) (PM.emp.set hh.objs.size emptyDict) ⟨(hh.push emptyDict).push (dg0 C hh.objs.size),g,dd,t,os⟩:=by
  have:=S3
  dsimp only at this
  rw[hsz]at this
  exact this
 have le3:φ.le (φ.set (hh.objs.size+1) (dg0 C hh.objs.size)):=by
  have:=S2.2
  dsimp only at this
  rw[hsz]at this
  exact this
 have hor:∀L o,(ψ L=some o∨ω L=some o)->(ψ.or ω) L=some o:=λL o e=>by
  unfold PM.or
  rcases e with e|e
  ·rw[e];rfl
  ·cases q:ψ L with
   |some x=>rw[hS.d3 L (by rw[q];simp)]at e;exact nomatch e
   |none=>exact e
 refine Y0 (h outer _ _ _ (ψ.or ω) (PM.emp.set hh.objs.size emptyDict) (λv s'=>v= .none/\Qr (.ref (hh.objs.size+1)) s') Er rs L (hh.objs.size+1) hh.objs.size hA.make (λe he=> ?_) (λhm=> ?_) S3 (hv.mono le3) ⟨hx,emptyDict,_,hself,aP3, .nil,λH H=>rfl,⟨#[],0,rfl,cY8 _⟩⟩ ?_ ?_) ?_
 ·obtain⟨a,L',o,b,c,dd',e'⟩:=hC e he
  rw[as7]at e'
  exact⟨a,L',o,b,c,dd', .inl (hor L' o e')⟩
 ·obtain⟨a,o,b,c⟩:=hL hm
  exact⟨a,o, .inl (hor L o b),c⟩
 ·rintro v me' r s' φ' ω' ⟨rfl,rfl⟩ hs S' hl hr M hk
  refine hr.noneE ?_
  refine⟨rfl, ?_⟩
  have hdis:∀a,ω a≠none->ψ a=none:=λa ha=>by
   cases q:ψ a with
   |none=>rfl
   |some x=>exact absurd (hS.d3 a (by rw[q];simp)) ha
  have S4:=S'.leave hdis
  refine hQ _ hh.objs.size s' φ' _ S4 (le3.trans hl) (PM.le_or _ _) f3 (M.sub (λH o ho=> ?_) (λH b l hb=> ?_))
  ·show(PM.or _ _) _=_
   unfold PM.or;rw[f3];exact ho
  ·show(PM.or _ _) _=_
   unfold PM.or
   cases q:ω b with
   |none=>exact hb
   |some o=>
    have:ω' b=none:=S'.d3 b (by
     show(PM.or _ _) b≠none
     rw[hor b o (.inr q)];simp)
    rw[this]at hb;exact nomatch hb
 ·intro x s' msg hm hx'
  refine hE x s' msg hm ⟨hx'.base,λa o e=>hx'.psi a o (PM.le_or _ _ a o e),hx'.own,hx'.exc,hx'.os,hx'.gens⟩
 ·intro r s' hr
  rcases r with e|(v|_|_|_)
  ·exact hr
  all_goals exact hr
noncomputable def aD5:List (String×V)->List (String×Fv):=List.map λp=>(p.1, .val p.2)
theorem EsR.frozen{φ ω:PM}{fs:List (String×V)}:∀ {m:Str->Option Value},EsR X φ ω (aD5 fs) m->RFs X φ fs m:=by
 induction fs with
 |nil=>exact λH=> .nil
 |cons p fs ih=>
  intro m h
  cases h with|cons e a b=>exact .cons e a (ih b)
theorem Cs.new{C fI:Addr}{vs:List V}{fs:List (String×V)}(N:Z1 X.w.params C fI)(h:Cs X n (.ref fI) C vs (some []) (λv m=>v= .none/\m=some (aD5 fs)) v4):Cs X (n+1) (.ref C) 0 vs none (λv m=>v= .rcd C fs/\m=none) v4:=by
 intro outer A s φ ψ ω Qr Er rs L lx d hA hC hL hS hv hM hQ hE
 refine aw2 (d0:=d) N hA hC (λ⟨_,hm⟩=>hm.elim) (L:=L) hS hv h (λx d' s' φ' ω' S hl hle hd M=> ?_) (λH H H hm H=>hm.elim)
 obtain⟨m1,o,m,m2,m3,m4,_⟩:=M
 have P:=S.freeze m2
 refine hQ _ none (.ref x) s' _ _ ⟨rfl,rfl⟩ rfl P.1 (hl.trans P.2) (.rcd (P.2 _ _ m1) (by unfold PM.set;rw[if_pos rfl]) m3 (RFs.mono P.2 m4.frozen)) trivial (λa o' e=> ?_)
 have e:ω a=some o':=e
 show(ω'.del d') a=_
 unfold PM.del
 rw[if_neg]
 ·exact hle _ _ e
 ·intro e';rw[e',hd]at e;exact nomatch e
end
theorem P1:Slot "bytearray" "append" "bytearray.append":=
 .of (owner:="bytearray") (n:="append") (by rw[da6,cY3];kernel_rfl) (by decide+kernel) (by decide+kernel) (by decide+kernel)
  (by first|exact .inl (by decide+kernel)|exact .inr (by decide+kernel)) (by rw[df1];kernel_rfl)
theorem ah4:typeOf (.builtin "bytearray.append")=pure (.type "method_descriptor"):=by show builtinType _=_;rw[builtinType_eq_fast];kernel_rfl
theorem aj3:entryFor table "bytearray.append"=some Builtin.«bytearray.append» :=dg1 (by kernel_rfl)
theorem aj5(a b:Value):argsOk "bytearray.append" ⟨[a,b],[]⟩:=by unfold argsOk;kernel_rfl
theorem ae7:Slot "bytearray" "__len__" "bytearray.__len__":=
 .of (owner:="bytearray") (n:="__len__") (by rw[da6,cY3];kernel_rfl) (by decide+kernel) (by decide+kernel) (by decide+kernel)
  (by first|exact .inl (by decide+kernel)|exact .inr (by decide+kernel)) (by rw[df1];kernel_rfl)
theorem aG7:entryFor table "bytearray.__len__"=some Builtin.«bytearray.__len__» :=dg1 (by kernel_rfl)
theorem aI6(a:Value):argsOk "bytearray.__len__" ⟨[a],[]⟩:=by unfold argsOk;kernel_rfl
theorem sl_ba_getitem:Slot "bytearray" "__getitem__" "bytearray.__getitem__":=
 .of (owner:="bytearray") (n:="__getitem__") (by rw[da6,cY3];kernel_rfl) (by decide+kernel) (by decide+kernel) (by decide+kernel)
  (by first|exact .inl (by decide+kernel)|exact .inr (by decide+kernel)) (by rw[df1];kernel_rfl)
theorem ad3:entryFor table "bytearray.__getitem__"=some Builtin.«bytearray.__getitem__» :=dg1 (by kernel_rfl)
theorem ac4(a b:Value):argsOk "bytearray.__getitem__" ⟨[a,b],[]⟩:=by unfold argsOk;kernel_rfl
theorem ck1:PlainAttrs "bytearray":=⟨⟨"bytearray.__getattribute__",by rw[da6,cY3];kernel_rfl,by decide+kernel⟩,by rw[da6,cY3];kernel_rfl⟩
section
variable {prog:Program} {w:World} {A:Around} {E:Value->Shared->Prop} {s:Shared}
theorem E2{b:Addr}{l:List UInt8}(h:s.heap.get? b=some (z5 l)):s.TypeIs (.ref b) "bytearray":=⟨_,h,rfl⟩
theorem M6{M:Model}{b:Addr}{l:List UInt8}{Q:Array UInt8->Shared->Prop}(h:s.heap.get? b=some (z5 l))(hQ:Q l.toArray s):wpAny M A (Builtin.Bytes.payload (.ref b)) Q E s:=by
 unfold Builtin.Bytes.payload Builtin.Bytes.payload?
 exact cV4 (cV4 (wpAny_load h (cW4 (cW4 hQ))))
theorem ar2{M:Model}{b:Addr}{l l':List UInt8}{f:Array UInt8->Array UInt8}{Q:Unit->Shared->Prop}(h:s.heap.get? b=some (z5 l))(hf:f l.toArray=l'.toArray)(hz:l'.length<=sizeLine)
 (hQ:∀h',db1 b s.heap h'->h'.get? b=some (z5 l')->Q () {s with heap:=h'}):wpAny M A (Builtin.Bytes.write (.ref b) f) Q E s:=by
 show wpAny _ _ (updateBytearray b f) _ _ _
 refine cV4 (wpAny_load h ?_)
 refine cV4 (wpAny_update h ?_)
 have h₂:(s.heap.update b (Obj.mapBytearray f)).get? b=some (z5 l'):=by
  rw[←show Obj.mapBytearray f (z5 l)=z5 l' by simp[Obj.mapBytearray,hf]]
  exact da8 _ h rfl
 refine wpAny_lookBehind h₂ ?_ (hQ _ (df7 ..) h₂)
 show(if l'.toArray.size> sizeLine then some "bytearray:memory" else none)=none
 rw[if_neg]
 simpa using hz
theorem aI7{M:Model}{b:Addr}{l:List UInt8}{Q:Unit->Shared->Prop}(h:s.heap.get? b=some (z5 l))(hQ:Q () s):d6 M A (Builtin.Bytes.checkResize (.ref b)) Q E s:=by
 unfold Builtin.Bytes.checkResize
 refine a0 (a0 (R0 ?_))
 exact a0 (a0 (i9 (wpAny_load h (b7 (b7 (o8 (by decide) (b7 hQ)))))))
theorem ax4{T:String}{name:Str}{id:String}{B:Builtin}{self:Value}{rest:List Value}{Q:Value->Shared->Prop}(slot:Slot T name id)(hT:s.TypeIs self T)(hf:forb.contains id=false)
 (entry:entryFor table id=some B) (args:argsOk id ⟨self::rest,[]⟩) (h:d6 (model prog w) A.in1 (B ⟨self::rest,[]⟩) (λfin s'=>∃v,fin= .done (.ret v)/\Q v s') E s):d6 (model prog w) A (call (.builtin id) (self::rest)) Q E s:=by
 refine q9 (u4 hf (plainId_quiet slot.plain _) entry (slot.check _ _ _ _ _ _ _ _ hT args ?_))
 rw[Around.under_plainId slot.plain]
 refine j4 h (λfin s' ⟨v,e,hv⟩=> ?_) λH H x=>x
 subst e
 exact hv
theorem aa6{b:Addr}{l:List UInt8}{i:Int}{u:Tok}{Q:Value->Shared->Prop}(h:s.heap.get? b=some (z5 l))(h0:0<=i)(h1:i < 256)(hz:l.length < 16777216)
 (hQ:∀h',db1 b s.heap h'->h'.get? b=some (z5 (l++[i.toNat.toUInt8]))->Q .none {s with heap:=h'}):d6 (model prog w) A (call (.builtin "bytearray.append") [.ref b, .int i u]) Q E s:=by
 refine ax4 P1 (E2 h) (by decide+kernel) aj3 (aj5 _ _) ?_
 refine a0 (t5 (a:=(.ref b, .int i u)) (by kernel_rfl) ?_)
 refine a0 ?_
 refine a0 (t5 (rfl:asIndex (.int i u)=pure i) (o8 (by simp only[dc0,decide_eq_false_iff_not];lia) (b7 ?_)))
 refine a0 (aI7 h (a0 (i9 (ar2 h (l':=l++[i.toNat.toUInt8]) (by simp) (by rw[df4];simp;lia) λh' hs hb=> ?_))))
 exact b7 ⟨_,rfl,hQ h' hs hb⟩
end
section
variable {prog:Program} {w:World} {A:Around} {E:Value->Shared->Prop} {s:Shared}
theorem bZ4{b:Addr}{l:List UInt8}{Q:Value->Shared->Prop}(hl:s.heap.get? b=some (z5 l))(hz:l.length<=16777216)
 (h:Q (.int l.length (s.toks+1)) {s with toks:=s.toks+1+1}):wpAny (model prog w) A (call (.builtin "len") [.ref b]) Q E s:=by
 refine Calls.call_function_entry kind_len plain_len entry_len (args_len1 _) ?_
 refine cV4 (m:=oneArg "len" _) (cW4 ?_)
 refine cV4 (m:=callSpecial? (.ref b) (cV1 "__len__")) (wpAny_callSpecial?_slot (name:=cV1 "__len__") (E2 hl) ae7
  (wpAny_call_entry ae7 (E2 hl) aG7 ?_ (aI6 _)))
 show wpAny _ _ (do retInt (←Builtin.Bytes.payload (.ref b)).size) _ _ s
 refine cV4 (M6 hl ?_)
 refine cV4 (wpAny_mkInt (cW4 ⟨_,rfl, ?_⟩))
 refine cV4 (da9 (cW4 ?_))
 refine cV4 (wpAny_letGo ?_)
 simp only[dd2]
 show wpAny _ _ (if((l.length:Nat):Int)< 0 then _ else _) _ _ _
 rw[if_neg (by lia)]
 show wpAny _ _ (if((l.length:Nat):Int) ≥ 2 ^ 63 then _ else _) _ _ _
 rw[if_neg (by lia)]
 exact cV4 (wpAny_mkInt (cW4 ⟨_,rfl,h⟩))
theorem bb7(b:List UInt8)(x:Addr)(a:Addr){l u:Value}{lo hi:Option Int}(hl:IsPart l lo)(hu:IsPart u hi)(hz:b.length<=16777216):
 Meets (Builtin.«bytearray.__getitem__» ⟨[.ref x, .ref a],[]⟩) (λH R s=>s.heap.get? x=some (z5 b)/\s.heap.IsSliceOf a l u .none/\R (.ok (.ret (.ref s.heap.objs.size))) {s with heap:=s.heap.push (z5 (F2 b lo hi))}):=by
 refine .of_wp λprog w A R s hS=> ?_
 obtain⟨hx,⟨o,ho,hc,hd⟩,h⟩:=hS
 have hT:s.TypeIs (.ref a) "slice":=⟨o,ho,hc⟩
 show wpAny _ _ (Builtin.Bytes.subscript? (.ref a) >>= λr=>_) _ _ s
 refine cV4 ?_
 unfold Builtin.Bytes.subscript?
 refine cV4 (da5 hT slice_no_index (cW4 ?_))
 refine cV4 (wpAny_typeOf hT ?_)
 refine cV4 ?_
 refine cV4 (dc6 (x:= .none) ho hd rfl ?_)
 kby_none
 refine wpAny_ite (KBy.ite_no (show ¬ ((dh1==rawInt 0)=true)from de8) ?_)
 refine cV4 (dc6 (x:=l) ho hd rfl ?_)
 have go:wpAny (model prog w) A.in1 (sliceIndices (rawPart lo) (rawPart hi) (rawPart none) b.toArray.size) (λr s'=>r=sliceBounds lo hi none b.toArray.size/\s'=s) (λH H=>False) s:=
  dc5 (sliceIndices_raw lo hi none b.toArray.size (λe=>nomatch e)) ⟨rfl,rfl⟩
 have hsz:sizeOk (Data.bytearray (KBy.picked b.toArray lo hi)):=cV5 (KBc.size_picked_le _ _ _) (by rw[df4];simpa using hz)
 have e:F2 b lo hi=(KBy.picked b.toArray lo hi).toList:=by rw[KBc.picked_eq];simp[F2]
 rw[e]at h
 cases hl<;>cases hu<;>(first
  |(kby_none;(refine cV4 (dc6 (x:= .none) ho hd rfl ?_));kby_none)
  |(kby_none;(refine cV4 (dc6 (x:= .int _ _) ho hd rfl ?_));kby_int)
  |(kby_int;(refine cV4 (dc6 (x:= .none) ho hd rfl ?_));kby_none)
  |(kby_int;(refine cV4 (dc6 (x:= .int _ _) ho hd rfl ?_));kby_int))<;>refine cW4 ?_
 all_goals
  refine cV4 (M6 hx ?_)
  refine cV4 (df8 go (λr s' hr=> ?_) λH H e=>e.elim)
  obtain⟨hr1,hr2⟩:=hr
  subst hr1 hr2
  refine cV4 ?_
  exact wpAny_newObj_type (cW4 ⟨_,rfl,h⟩) hsz
end
theorem am1:typeLookup (.type "bytearray") "__bytes__"=pure none:=by rw[da6,cY3];kernel_rfl
theorem am3:typeLookup (.type "bytearray") "__index__"=pure none:=by rw[da6,cY3];kernel_rfl
theorem R7:typeLookup (.type "bytearray") "__buffer__"=pure (some (.builtin "bytearray.__buffer__")):=by rw[da6,cY3];kernel_rfl
theorem aa5:typeLookup (.type "bytearray") "__release_buffer__"=pure (some (.builtin "bytearray.__release_buffer__")):=by rw[da6,cY3];kernel_rfl
theorem au9:isSubtype (.type "bytearray") (.type "bytearray")=pure true:=by rw[df1];kernel_rfl
section
variable {prog:Program} {w:World} {A:Around} {E:Value->Shared->Prop} {s:Shared}
theorem ac1{M:Model}{b:Addr}{l:List UInt8}{nm id:String}{Q:Bool->Shared->Prop}(hl:s.heap.get? b=some (z5 l))(ht:typeLookup (.type "bytearray") nm=pure (some (.builtin id)))(he:id.endsWith ("."++nm)=true)(hd:id.dropRight (nm.length+1)="bytearray")(h:Q true s):
 wpAny M A (Builtin.Bytes.slotIsOwn (.ref b) nm) Q E s:=by
 refine cV4 (da5 (E2 hl) ht ?_)
 dsimp only
 rw[he,hd]
 exact wpAny_isInstance (E2 hl) au9 h
theorem ai6{M:Model}{b:Addr}{l:List UInt8}{id:String}{f:Bool}{Q:Option (Array UInt8)->Shared->Prop}(hl:s.heap.get? b=some (z5 l))(h:Q (some l.toArray) s):wpAny M A (de3 id (.ref b) f) Q E s:=by
 unfold de3
 refine cV4 (da5 (E2 hl) R7 ?_)
 refine cV4 (ac1 hl R7 (by decide+kernel) (by decide+kernel) ?_)
 refine wpAny_ite (KBy.ite_no (by decide) ?_)
 refine cV4 (da5 (E2 hl) R7 ?_)
 refine cV4 ?_
 refine cV4 (ac1 hl aa5 (by decide+kernel) (by decide+kernel) (cW4 ?_))
 refine wpAny_ite (KBy.ite_no (by decide) ?_)
 exact cV4 (M6 hl (cW4 h))
theorem aj7{b:Addr}{l:List UInt8}{Q:Value->Shared->Prop}(hl:s.heap.get? b=some (z5 l))(hz:l.length<=16777216)
 (hQ:∀t k,Q (.bytes l.toArray t) {s with toks:=k}):
 codeAny (model prog w) A (.call (.builtin "bytes.__new__") ⟨[.type "bytes", .ref b],[]⟩) (wants Q E) s:=by
 refine codeAny_of_tree ?_
 refine cV4 (dc5 (F.bm_newCall _) (cW4 ⟨plainId_quiet F.bm_plain _,codeAny_builtin F.bm_entry ?_⟩))
 rw[Around.under_plainId F.bm_plain _]
 refine cV4 (dc5 (a:=true) rfl ?_)
 refine bm_if_false rfl ?_
 refine cV4 (dc5 F.bm_sub ?_)
 refine bm_if_false rfl ?_
 refine cV4 (dc5 (F.bm_bind _) ?_)
 refine cV4 (dc5 (a:=()) rfl ?_)
 refine cV4 (dc5 (a:=()) rfl ?_)
 refine bm_if_false rfl ?_
 refine cV4 (da5 (E2 hl) am1 ?_)
 refine cV4 (cV4 ?_)
 refine cV4 (wpAny_load hl ?_)
 refine cW4 (cW4 ?_)
 refine bm_if_false rfl ?_
 refine cV4 (da5 (E2 hl) am3 ?_)
 refine bm_if_true rfl ?_
 first
  |show wpAny _ _ (de3 "bytes.__new__" (.ref b) true>>= _) _ _ _
  |(refine cV4 ?_;show wpAny _ _ (de3 "bytes.__new__" (.ref b) true>>= _) _ _ _)
 refine cV4 (ai6 hl ?_)
 refine cV4 (wpAny_rule ?_)
 refine cV4 (wpAny_mkBytes ?_ (by rw[df4];simpa using hz))
 refine bm_if_true (by decide) ?_
 exact cW4 (hQ _ _)
theorem bc2{b:Addr}{l:List UInt8}{Q:Value->Shared->Prop}(hl:s.heap.get? b=some (z5 l))(hz:l.length<=16777216)(hQ:∀t k,Q (.bytes l.toArray t) {s with toks:=k}):wpAny (model prog w) A (call (.type "bytes") [.ref b]) Q E s:=by
 refine callType_codes (Q₁:=λobj s₁=>s₁.TypeIs obj "bytes"/\Q obj s₁) F.bm_called (F.bm_typeCall _) F.entry_object_init
  (aj7 hl hz λt k=>⟨PySem.W.typeIs_bytes _ _ _,hQ t k⟩) λobj s₁ h₁=> ?_
 exact⟨h₁.1,F.args_object_init_2 obj _,object_init_meets F.bm_called.init.lookup F.bm_called.made (by decide) prog w A.in1 _ s₁ ⟨h₁.1,rfl,h₁.2⟩⟩
end
theorem av3:mroOf (.type "bytearray")=pure [.type "bytearray", .type "object"]:=by rw[mroOf_type];kernel_rfl
theorem ad2:typeLookup (.type "bytearray") "__new__"=pure (some (.builtin "bytearray.__new__")):=by rw[da6,cY3];kernel_rfl
theorem sl_ba_init:Slot "bytearray" "__init__" "bytearray.__init__":=
 .of (owner:="bytearray") (n:="__init__") (by rw[da6,cY3];kernel_rfl) (by decide+kernel) (by decide+kernel) (by decide+kernel)
  (by first|exact .inl (by decide+kernel)|exact .inr (by decide+kernel)) (by rw[df1];kernel_rfl)
theorem ba_called:TypeCalled "bytearray" "bytearray.__new__" "bytearray.__init__":=
 ⟨by decide+kernel,by decide+kernel,⟨_,_,av3⟩,madeBy_type av3 ad2 (by decide+kernel),by decide+kernel,by rw[df1];kernel_rfl,sl_ba_init⟩
theorem as1:checkTypeCall "bytearray" ⟨[],[]⟩=pure ():=by kernel_rfl
theorem av1:checkBuiltinCall "bytearray.__new__" ⟨[.type "bytearray"],[]⟩=pure ():=by kernel_rfl
theorem aI8:entryFor table "bytearray.__new__"=some Builtin.«list.__new__» :=
 entryFor_alias (id':="list.__new__") (by rw[fastTable_eq_tree];kernel_rfl) (by decide+kernel) (by decide+kernel) (by rw[fastTable_eq_tree];kernel_rfl)
theorem ay1:entryFor table "bytearray.__init__"=some Builtin.«bytearray.__init__» :=dg1 (by kernel_rfl)
theorem az1(a:Value):argsOk "bytearray.__init__" ⟨[a],[]⟩:=by unfold argsOk;kernel_rfl
theorem af9:plainId "bytearray.__new__"=true:=by decide+kernel
set_option maxRecDepth 1000000 in
set_option maxHeartbeats 4000000 in
theorem ah3:("bytearray.__new__".splitOn ".__new__").headD ""="bytearray":=by rw[split_bytearray];rfl
section
variable {prog:Program} {w:World} {A:Around} {E:Value->Shared->Prop} {s:Shared}
theorem aq6{Q₁:Value->Shared->Prop}(h:Q₁ (.ref s.heap.objs.size) {s with heap:=s.heap.push (z5 [])}):
 codeAny (model prog w) A (.call (.builtin "bytearray.__new__") ⟨[.type "bytearray"],[]⟩) (wants Q₁ E) s:=by
 refine codeAny_of_tree ?_
 refine cV4 (dc5 av1 (cW4 ⟨plainId_quiet af9 _,codeAny_builtin_stack aI8 rfl λp st=> ?_⟩))
 rw[Around.under_plainId af9 _]
 have hsub:=au9
 have hown:=ah3
 obtain⟨hp,g,d,tk,os⟩:=s
 simp only[hown]
 wp_walk
 exact h
theorem aO3:Builtin.Bytes.bindOptional "bytearray.__init__" "bytearray" ["source","encoding","errors"] [] []=pure [none,none,none]:=by kernel_rfl
theorem ad4{b:Addr}{R:Result->Shared->Prop}(hl:s.heap.get? b=some (z5 []))(h:∀h',db1 b s.heap h'->h'.get? b=some (z5 [])->R (.ok (.ret .none)) {s with heap:=h'}):
 o7 (model prog w) A (.call (.builtin "bytearray.__init__") ⟨[.ref b],[]⟩) R s:=by
 refine u4 (by decide+kernel) (plainId_quiet sl_ba_init.plain _) ay1 (sl_ba_init.check _ _ _ _ _ _ _ _ (E2 hl) (az1 _) ?_)
 rw[Around.under_plainId sl_ba_init.plain]
 unfold Builtin.«bytearray.__init__»
 refine a0 ?_
 refine a0 (i9 (ac1 hl aa5 (by decide+kernel) (by decide+kernel) (b7 (o8 rfl ?_))))
 refine a0 (t5 aO3 ?_)
 dsimp only
 refine a0 (t5 (a:=()) rfl ?_)
 refine a0 (t5 (a:=()) rfl ?_)
 refine a0 (a0 (R0 ?_))
 refine a0 (a0 (i9 (wpAny_load hl (b7 (b7 (o8 (by decide) ?_))))))
 refine a0 (i9 (ar2 hl (l':=[]) rfl (cY8 _) λh' hs hb=> ?_))
 exact b7 (h h' hs hb)
theorem bY9{Q:Value->Shared->Prop}(hQ:∀h',(∀a o,s.heap.get? a=some o->h'.get? a=some o)->h'.get? s.heap.objs.size=some (z5 [])->Q (.ref s.heap.objs.size) {s with heap:=h'}):d6 (model prog w) A (call (.type "bytearray") []) Q E s:=by
 refine q9 (o6 rfl ?_)
 refine b7 (a:=Fin.again (.builtin "type.__call__" ⟨[.type "bytearray"],[]⟩)) (And.intro (Code.quiet_builtin _ (by decide+kernel)) (M3 (by decide+kernel) F.entry_type_call ?_))
 rw[Around.under_plain (weight_type_call_type "bytearray" [] []) rfl]
 unfold Builtin.«type.__call__»
 refine o8 (by decide) ?_
 refine o8 ba_called.canCreate ?_
 refine a0 (t5 as1 ?_)
 refine a0 (t5 av3 (o8 rfl ?_))
 refine a0 (t5 ba_called.made ?_)
 dsimp only
 refine a0 (b7 (a0 (i4 (q9 (cb5 (codeAny_mono (aq6 (Q₁:=λv s'=>v= .ref s.heap.objs.size/\s'= {s with heap:=s.heap.push (z5 [])}) (E:=λH H=>False) ⟨rfl,rfl⟩) λr s' hr=> ?_))))))
 rcases r with e|(v|_|_|_)<;>first|exact hr.elim|skip
 obtain⟨rfl,rfl⟩:=hr
 have hb:(s.heap.push (z5 [])).get? s.heap.objs.size=some (z5 []):=cX3 _ rfl
 have hk:∀a o,s.heap.get? a=some o->(s.heap.push (z5 [])).get? a=some o:=λa o e=>cV6 _ e
 refine a0 (i9 (wpAny_isInstance (s:= {s with heap:=s.heap.push (z5 [])}) (E2 (s:= {s with heap:=s.heap.push (z5 [])}) hb) au9 (o8 rfl ?_)))
 unfold callSpecial?
 refine a0 (i4 (a0 (i9 (da5 (s:= {s with heap:=s.heap.push (z5 [])}) (E2 (s:= {s with heap:=s.heap.push (z5 [])}) hb) sl_ba_init.lookup ?_))))
 refine i4 (a0 (t5 (sl_ba_init.bind _) ?_))
 refine a0 (q9 (ad4 (s:= {s with heap:=s.heap.push (z5 [])}) hb λh' hs hb'=> ?_))
 refine b7 (o8 rfl (b7 ?_))
 exact hQ h' (λa o e=>(hs.2 a (da3 (cY9 e))).trans (hk a o e)) hb'
end
section
variable {X:Cx} {F:Frm} {n:Nat} {st:St} {R:List UInt8->Prop} {α β γ δ:Type}
noncomputable def EvF(X:Cx)(F:Frm)(n:Nat)(e:Expr)(st:St)(Q:List UInt8->St->Prop)(R:List UInt8->Prop):Prop:=
 ∀A s φ ω Qr Er,Rm (F.env::F.outer) A n->Inv X F φ ω st s->(∀l st' b s' φ' ω',Q l st'->Inv X F φ' ω' st' s'->φ.le φ'->ω' b=some (z5 l)->Qr (.ref b) s')->KE X F R Er->d6 X.M A (eval e F.env) Qr Er s
theorem Inv.pushOwn{φ ω:PM}{s s':Shared}{a:Addr}{o:Obj}(I:Inv X F φ ω st s)(h:∀b o,s.heap.get? b=some o->s'.heap.get? b=some o)(ho:s'.os=s.os)(hg:s'.gens=s.gens)(ha:a=s.heap.objs.size)(hn:s'.heap.get? a=some o):Inv X F φ (ω.set a o) st s':=by
 subst ha
 obtain⟨f1,f2,f3⟩:=I.S.fresh
 have S1:=(I.S.keeps h ho hg).add f1 f2 hn
 have le1:ω.le (ω.set s.heap.objs.size o):=λb o' e=>by
  unfold PM.set
  rw[if_neg]
  ·exact e
  ·intro e';rw[e',f3]at e;cases e
 obtain⟨m,oL,d,h1,h1a,h1b,h2,h3,h3b,h4,h5,h6⟩:=I.ex
 refine⟨S1,⟨m,oL,d,le1 _ _ h1,h1a,h1b,h2.at λo' e=> ?_,λi x sl a b=> ?_,λi a l e=>let⟨vs,k,a,b⟩:=h3b i a l e;⟨vs,k,le1 _ _ a,b⟩,h4,h5,h6.sub (λH o' e=>le1 _ _ e) (λH b l e=>le1 _ _ e)⟩,I.out,I.new⟩
 ·rw[I.S.kω _ _ h1]at e;cases e;exact h _ _ (I.S.kω _ _ h1)
 ·have:=h3 i x sl a b
  cases sl<;>exact this
theorem az8{y p pos}{Q:List UInt8->St->Prop}(O:FOk F)(hk:F.scope.names.lookup y=some .globalImplicit)(hg:nsIn X.K cW5 y=some none/\nsIn X.K cZ8 y=some (some (.type "bytearray")))(h:Q [] st)(hd:(y== ("__debug__":Str))=false:=by decide):
 EvF X F n (.Call (.Name y p) [] [] pos) st Q R:=λA s φ ω Qr Er hA hI hQ hE=>
 m8 (bi O hI hk hg.1 hg.2 (v6 (P:=λH=>True) rfl (λH H=>⟨.machine, .inr (.inl rfl),Looks.of_pure rfl⟩) (i9 (evalArgs_nil3 (Q:=λa s₁=>True/\d6 X.M A (call (.type "bytearray") ([]++a.pos) a.kw) Qr Er s₁) ⟨trivial,bY9 λh' hk hb=>
  hQ _ _ _ _ _ _ h (hI.pushOwn (s':= {s with heap:=h'}) hk rfl rfl rfl hb) (PM.le.refl _) (by unfold PM.set;rw[if_pos rfl])⟩))) hd)
noncomputable def EvP(X:Cx)(F:Frm)(n:Nat)(e:Expr)(st:St)(v:V):Prop:=
 ∀A s φ ω Qr Er,Rm (F.env::F.outer) A n->Inv X F φ ω st s->(∀r s' φ',Inv X F φ' ω st s'->φ.le φ'->RV X φ' v r->Qr r s')->d6 X.M A (eval e F.env) Qr Er s
theorem bm2(i:Nat){x:Str}{pos}{v:V}(O:FOk F)(hx:F.nm[i]? =some x)(hl:st.loc[i]? =some (.val v))(hd:(x== ("__debug__":Str))=false:=by decide):
 EvP X F n (.Name x pos) st v:=λA s φ ω Qr Er hA hI hQ=>by
 obtain⟨m,oL,d,h1,h1a,h1b,h2,h3,h3b,h4,h5⟩:=hI.ex
 obtain⟨r,hr,hv⟩:=h3 i x _ hx hl
 exact i9 (db9 (cW9 O.kind (O.loc x (cW1 hx)) h2 hr (hQ _ _ _ hI (PM.le.refl _) hv)) hd)
theorem bh3{i k pos}:EvP X F n (.Constant (.int i) k pos) st (.int i):=λA s φ ω Qr Er hA hI hQ=>i9 (wpAny_Constant_int (hQ _ _ _ (hI.toks _) (PM.le.refl _) .int))
theorem aC0{l r op pos}{v v' w:V}(h1:EvP X F n l st v)(h2:EvP X F n r st v')(hp:Pu2 X n (binaryOp op) v v' w):EvP X F n (.BinOp l op r pos) st w:=
 λA s φ ω Qr Er hA hI hQ=>ae8 (h1 A s φ ω _ Er hA hI λr₁ s₁ φ1 hI1 hl1 hv=>
  h2 A s₁ φ1 ω _ Er hA hI1 λr₂ s₂ φ2 hI2 hl₂ hv'=>i9 <| hp F A s₂ φ2 ω st Qr Er _ hA hI2 (.two (hv.mono hl₂) hv') λr₃ s₃ φ3 hI3 hl3 hr=>hQ _ _ _ hI3 (hl1.trans (hl₂.trans hl3)) hr)
theorem EvP.ev{e v}{Q:V->St->Prop}(h:EvP X F n e st v)(hq:Q v st):Ev X F n e st Q R:=λA s φ ω Qr Er hA hI hQ hE=>
 h A s φ ω Qr Er hA hI λr s' φ' hI' hl hr=>hQ _ _ _ _ _ _ hq hI' hl hr
noncomputable def EvG(X:Cx)(F:Frm)(n:Nat)(e:Expr)(st:St)(l:List UInt8):Prop:=
 ∀A s φ ω Qr Er,Rm (F.env::F.outer) A n->Inv X F φ ω st s->(∀b s',Inv X F φ ω st s'->ω b=some (z5 l)->Qr (.ref b) s')->d6 X.M A (eval e F.env) Qr Er s
theorem bo0(i j:Nat){y:Str}{x:String}{p pos}{l:List UInt8}{fs:List (String×Fv)}(O:FOk F)(K:A0 X.w.params F.C)(L:A1 X.w.params F.C (cV1 x))(hy:F.nm[i]? =some y)(hl:st.loc[i]? =some .me)(hm:st.me=some fs)(hf:fs[j]? =some (x, .buf l))
 (hd:(y== ("__debug__":Str))=false:=by decide):EvG X F n (.Attribute (.Name y p) (cV1 x) pos) st l:=λA s φ ω Qr Er hA hI hQ=>by
 obtain⟨m,oL,d,h1,h1a,h1b,h2,h3,h3b,h4,h5,h6⟩:=hI.ex
 refine z7 (i9 <| db9 (cW9 O.kind (O.loc y (cW1 hy)) h2 (h3 i y _ hy hl) ?_) hd)
 rw[hm]at h6
 obtain⟨g1,o,m',g2,g3,g4,g5,_⟩:=h6
 obtain⟨r,e1,b,rfl,e2⟩:=g4.get hf
 exact i9 <| R1 K L hI.S g1 (hI.S.kω _ _ g2) g3 e1 rfl (hQ _ _ (hI.toks _) e2)
theorem EvG.evf{e l}{Q:List UInt8->St->Prop}(h:EvG X F n e st l)(hq:Q l st):EvF X F n e st Q R:=λA s φ ω Qr Er hA hI hQ hE=>
 h A s φ ω Qr Er hA hI λb s' hI' hb=>hQ _ _ _ _ _ _ hq hI' (PM.le.refl _) hb
theorem ab4{y p e pos}{l:List UInt8}(O:FOk F)(hk:F.scope.names.lookup y=some .globalImplicit)(hg:nsIn X.K cW5 y=some none/\nsIn X.K cZ8 y=some (some (.builtin "len")))(h:EvG X F n e st l)(hz:l.length<=16777216)(hd:(y== ("__debug__":Str))=false:=by decide)
 (he:cW7 [e] F.env=(false,eval e F.env)::cW7 [] F.env:=by rfl):EvP X F n (.Call (.Name y p) [e] [] pos) st (.int l.length):=λA s φ ω Qr Er hA hI hQ=>
 m8 (bi O hI hk hg.1 hg.2 (n4 (d9 (h A s φ ω _ Er hA hI λb s' hI' hb=>
  i9 <| cZ1 (i9 <| bZ4 (hI'.S.kω _ _ hb) hz (hQ _ _ _ (hI'.toks _) (PM.le.refl _) .int))) he) he) hd)
theorem U2{y p e pos}{Q:V->St->Prop}(O:FOk F)(hk:F.scope.names.lookup y=some .globalImplicit)(hg:nsIn X.K cW5 y=some none/\nsIn X.K cZ8 y=some (some (.type "bytes")))
 (h:EvF X F n e st (λl st1=>l.length<=16777216/\Q (.bytes l) st1) R) (hd:(y== ("__debug__":Str))=false:=by decide)
 (he:cW7 [e] F.env=(false,eval e F.env)::cW7 [] F.env:=by rfl):Ev X F n (.Call (.Name y p) [e] [] pos) st Q R:=λA s φ ω Qr Er hA hI hQ hE=>
 m8 (bi O hI hk hg.1 hg.2 (C7 (d9 (h A s φ ω _ Er hA hI (λl st1 b s' φ' ω' ⟨hz,hq⟩ hI' hl' hb=>
  i9 <| cZ1 (i9 <| bc2 (hI'.S.kω _ _ hb) hz λt k=>hQ _ _ _ _ _ _ hq (hI'.toks _) hl' .bytes)) hE) he) he) hd)
noncomputable def PB(X:Cx)(F:Frm)(n:Nat)(st:St):Option Expr->Option Int->Prop
 |none,none=>True
 |some e,some i=>EvP X F n e st (.int i)
 |_,_=>False
theorem bu6{e:Option Expr}{i:Option Int}(h:PB X F n st e i):∀A s φ ω Qr Er,Rm (F.env::F.outer) A n->Inv X F φ ω st s->(∀r s' φ',Inv X F φ' ω st s'->φ.le φ'->IsPart r i->Qr r s')->d6 X.M A (evalPart e F.env) Qr Er s:=by
 intro A s φ ω Qr Er hA hI hQ
 cases e with
 |none=>
  cases i with
  |none=>exact b7 (hQ _ _ _ hI (PM.le.refl _) .none)
  |some i=>exact h.elim
 |some e=>
  cases i with
  |none=>exact h.elim
  |some i=>exact h A s φ ω _ Er hA hI λr s' φ' hI' hl hr=>hQ _ _ _ hI' hl (hr.intE λH=> .int _ _)
theorem aB7{value lo hi p pos}{Q:List UInt8->St->Prop}(h:EvF X F n value st (λl st1=>l.length<=16777216/\∃i j,PB X F n st1 lo i/\PB X F n st1 hi j/\Q (F2 l i j) st1) R):
 EvF X F n (.Subscript value (.Slice lo hi none p) pos) st Q R:=
 λA s φ ω Qr Er hA hI hQ hE=>by
  rw[eval_Subscript]
  refine a0 (h A s φ ω _ Er hA hI (λl st1 b s₁ φ1 ω₁ ⟨hz,i,j,hp,hp',hq⟩ hI1 hl1 hb=>a0 (i4 (af6 (bu6 hp A s₁ φ1 ω₁ _ Er hA hI1 λr₂ s₂ φ2 hI2 hl₂ hi=>
   bu6 hp' A s₂ φ2 ω₁ _ Er hA hI2 λr₃ s₃ φ3 hI3 hl3 hj=> ?_)))) hE)
  rw[evalPart_none]
  refine b7 ?_
  have P:=hI3.push {cls:= .type "slice",data:= .fields #[r₂,r₃, .none]} s₃.toks
  have hb':=P.1.S.kω _ _ hb
  have ty:=E2 (s:= {s₃ with heap:=s₃.heap.push {cls:= .type "slice",data:= .fields #[r₂,r₃, .none]},toks:=s₃.toks}) hb'
  refine i9 <| cV4 (wpAny_standAt (cV4 ?_))
  rw[getitemInPython_of_ne ty.not_modules]
  refine cV4 (da5 ty sl_ba_getitem.lookup (cW4 ?_))
  refine cV4 (wpAny_operating (getItem_meets ty (by decide) sl_ba_getitem ad3 (ac4 _ _) (bb7 l _ _ hi hj hz) ⟨hb',Heap.IsSliceOf.new _ _ _ _, ?_⟩))
  refine cV4 (wpAny_letTemporaryGo (cW4 ?_))
  have I4:=P.1.pushOwn (s':= {s₃ with heap:=(s₃.heap.push {cls:= .type "slice",data:= .fields #[r₂,r₃, .none]}).push (z5 (F2 l i j)),toks:=s₃.toks}) (a:=(s₃.heap.push {cls:= .type "slice",data:= .fields #[r₂,r₃, .none]}).objs.size) (o:=z5 (F2 l i j)) (λb o e=>cV6 _ e) rfl rfl rfl (cX3 _ rfl)
  exact hQ _ _ _ _ _ _ hq I4 (hl1.trans (hl₂.trans (hl3.trans P.2.1))) (by unfold PM.set;rw[if_pos rfl])
theorem S8(i j:Nat){y p p' e pos}{x:String}{Q:Fl->St->Prop}(O:FOk F)(K:A0 X.w.params F.C)(L:A1 X.w.params F.C (cV1 x))(hy:F.nm[i]? =some y)
 (h:EvF X F n e st (λl st1=>∃fs fs',st1.me=some fs/\st1.loc[i]? =some .me/\fs.length<=1000/\ad0 x (.buf l) fs fs'/\Q .next {st1 with me:=some fs'}) R)
 (hs:dd3 e (some (.Attribute (.Name y p) (cV1 x) p')) pos.line F.env=pure false:=by rfl) (hd:(y== ("__debug__":Str))=false:=by decide):
 Ex X F n (.Assign [.Attribute (.Name y p) (cV1 x) p'] e pos) st Q R:=
 λA s φ ω Qr Er hA hI hQ hE=>B8 (h A s φ ω _ Er hA hI (λl st1 b s₁ φ1 ω₁ ⟨fs,fs',e1,e2,e3,e4,hq⟩ hI1 hl1 hb=>by
  obtain⟨m,oL,d,h1,h1a,h1b,h2,h3,h3b,h4,h5,h6⟩:=id hI1.ex
  refine i9 <| db9 (cW9 O.kind (O.loc y (cW1 hy)) h2 (h3 i y _ hy e2) ?_) hd
  exact i9 <| Inv.setf (d:=d) (ω₀:=ω₁) K L e1 e3 e4 hI1 (PM.le.refl _) hI1.S (g:= .buf l) ⟨b,rfl,hb⟩ λh' t ω' I'=>hQ _ _ _ _ _ _ hq I' hl1 rfl) hE) hs
noncomputable def ar3:Fv->Bool| .val _=>true| .buf _=>false
noncomputable def cC1(F:Frm)(φ ω:PM)(x:String)(b:Addr):Prop:=∃d o m,φ F.lx=some (dg0 F.C d)/\ω d=some o/\ObjNs o m/\m (cV1 x)=some (.ref b)
theorem ObjNs.uniq{o:Obj}{m m':Str->Option Value}(h:ObjNs o m)(h':ObjNs o m'):m=m':=by
 obtain⟨es,ep,a,b,c⟩:=h
 obtain⟨es',ep',a',b',c'⟩:=h'
 rw[a]at a';cases a'
 funext x;rw[←c,c']
theorem EsR.bufs{φ ω ω':PM}{x:String}{l':List UInt8}{b:Addr}(hb':ω' b=some (z5 l'))(ho:∀c,c≠b->ω' c=ω c):∀ {fs:List (String×Fv)} {m:Str->Option Value} {j:Nat} {f:Fv},EsR X φ ω fs m->fs[j]? =some (x,f)->(fs.eraseIdx j).all (λp=>ar3 p.2)=true->m (cV1 x)=some (.ref b)->
 EsR X φ ω' (fs.set j (x, .buf l')) m
 |_,_,j,_, .nil,h,_,_=>by simp at h
 |(y,q)::fs,m,0,f, .cons e a b',h,hv,hm=>by
  simp at h;obtain⟨rfl,rfl⟩:=h
  refine .cons hm ⟨b,rfl,hb'⟩ ?_
  have hv:fs.all (λp=>ar3 p.2)=true:=hv
  clear hm e a
  induction b' with
  |nil=>exact .nil
  | @cons x' f' fs' r' m' e a b' ih=>
   rw[List.all_cons,cX7]at hv
   cases f' with
   |val v=>exact .cons e a (ih hv.2 hv.2)
   |buf l=>exact cV2 hv.1
 |(y,q)::fs,m,j+1,f, .cons e a b',h,hv,hm=>by
  rw[List.eraseIdx_cons_succ,List.all_cons,cX7]at hv
  cases q with
  |val v=>exact .cons e a (EsR.bufs hb' ho b' (by simpa using h) hv.2 hm)
  |buf l=>exact cV2 hv.1
theorem Inv.bufSet{φ ω:PM}{s:Shared}{h':Heap}{t:Nat}{j:Nat}{b:Addr}{x:String}{l l':List UInt8}{f:Fv}{fs:List (String×Fv)}(I:Inv X F φ ω st s)(hm:st.me=some fs)(hf:fs[j]? =some (x,f))(hv:(fs.eraseIdx j).all (λp=>ar3 p.2)=true)(hB:cC1 F φ ω x b)(hl:ω b=some (z5 l))(hs:db1 b s.heap h')(he:h'.get? b=some (z5 l')):
 Inv X F φ (ω.set b (z5 l')) {st with me:=some (fs.set j (x, .buf l'))} {s with heap:=h',toks:=t}:=by
 obtain⟨m,oL,d,h1,h1a,h1b,h2,h3,h3b,h4,h5,h6⟩:=I.ex
 rw[hm]at h6
 obtain⟨g1,o,m',g2,g3,g4,g5,g6⟩:=h6
 obtain⟨d2,o2,m2,b1,b2,b3,b4⟩:=hB
 have g1:φ F.lx=some (dg0 F.C d):=g1
 rw[g1]at b1
 cases b1
 have g2:ω d=some o:=g2
 rw[g2]at b2;cases b2
 obtain rfl:=b3.uniq g3
 have hne:∀a o,ω a=some o->(∀l,o≠z5 l)->(ω.set b (z5 l')) a=some o:=λa o e hn=>by
  unfold PM.set
  rw[if_neg]
  ·exact e
  ·intro e';rw[e',hl]at e;cases e;exact hn _ rfl
 have hLb:F.L≠b:=by intro e;rw[e,hl]at h1;cases h1;exact h1b _ rfl
 refine⟨I.S.change hl hs he,⟨m,oL,d,hne _ _ h1 h1b,h1a,h1b,h2.sameBut hs hLb,λi y sl hi hsl=> ?_,λi a l₂ hi=> ?_,h4,λH=>h5 (by rw[hm];simp), ?_⟩,I.out,I.new⟩
 ·have:=h3 i y sl hi hsl
  cases sl<;>exact this
 ·obtain⟨ws,k₂,g7,g8⟩:=h3b i a l₂ hi
  exact⟨ws,k₂,hne _ _ g7 (λl e=>by have:=congrArg Obj.data e;cases this),g8⟩
 ·refine⟨g1,o,m2,hne _ _ g2 g3.noBa,g3,EsR.bufs (by unfold PM.set;rw[if_pos rfl]) (λc hc=>by unfold PM.set;rw[if_neg hc]) g4 hf hv b4,λy hy=>g5 y ?_, ?_⟩
  ·rwa[aA0 hf]at hy
  ·rw[List.length_set];exact g6
theorem al3(i j:Nat){y p p' ap e pos}{x:String}{c:Int}{l:List UInt8}{fs:List (String×Fv)}{Q:V->St->Prop}(O:FOk F)(K:A0 X.w.params F.C)(L:A1 X.w.params F.C (cV1 x))(hy:F.nm[i]? =some y)(hl:st.loc[i]? =some .me)(hm:st.me=some fs)(hf:fs[j]? =some (x, .buf l))
 (hv:(fs.eraseIdx j).all (λp=>ar3 p.2)=true) (he:EvP X F n e st (.int c)) (h0:0<=c) (h1:c < 256) (hz:l.length < 16777216) (h:Q .none {st with me:=some (fs.set j (x, .buf (l++[c.toNat.toUInt8])))}) (hd:(y== ("__debug__":Str))=false:=by decide)
 (hea:cW7 [e] F.env=(false,eval e F.env)::cW7 [] F.env:=by rfl)
 {pl:Sem Bool} (hec:eval (.Call (.Attribute (.Attribute (.Name y p) (cV1 x) p') (cV1 "append") ap) [e] [] pos) F.env=(do
  let ov ←eval (.Attribute (.Name y p) (cV1 x) p') F.env
  dd4 ap.atName
  let(f,first) ←dc2 [ov] (dg5 ov (cV1 "append") pl)
  callWith pos f first (backTo pos (cW7 [e] F.env)) (backToKw pos (dd1 [] F.env))):=by rfl):Ev X F n (.Call (.Attribute (.Attribute (.Name y p) (cV1 x) p') (cV1 "append") ap) [e] [] pos) st Q R:=
 λA s φ ω Qr Er hA hI hQ hE=>by
  obtain⟨m,oL,d,k1,k1a,k1b,k2,k3,k3b,k4,k5,k6⟩:=id hI.ex
  rw[hm]at k6
  obtain⟨g1,o,m',g2,g3,g4,g5,_⟩:=k6
  obtain⟨r,e1,b,rfl,e2⟩:=g4.get hf
  refine v2 (z7 (i9 <| db9 (cW9 O.kind (O.loc y (cW1 hy)) k2 (k3 i y _ hy hl) (i9 <| R1 K L hI.S g1 (hI.S.kω _ _ g2) g3 e1 rfl ?_)) hd)) hec
  have hI':=hI.toks (s.toks+1)
  refine i9 <| getMethod_builtin (E2 (hI'.S.kω _ _ e2)) ck1 P1 ah4 (λa e=>by cases e;exact⟨_,hI'.S.kω _ _ e2,rfl⟩) ?_
  refine n4 (first:=[.ref b]) (d9 (he A _ φ ω _ Er hA hI' λr s' φ' hI2 hl₂ hr=>i9 <| cZ1 ?_) hea) hea
  refine hr.intE λu=> ?_
  refine aa6 (hI2.S.kω _ _ e2) h0 h1 hz λh' hs hb=> ?_
  exact hQ _ _ _ _ _ _ h (hI2.bufSet (t:=s'.toks) hm hf hv ⟨d,o,m',hl₂ _ _ g1,g2,g3,e1⟩ e2 hs hb) hl₂ .none
end
noncomputable abbrev bmE:List Value:=[.ref 74, .type "Exception", .type "BaseException", .type "object"]
noncomputable abbrev bg9:Obj:=excClassObj (cV1 "LuaSyntaxError") (cV1 "LuaSyntaxError") 87 86 [.ref 74] bmE true [] [] false none none (some (.ref 78)) none (some (S "LuaSyntaxError" 299)) (some (S "LuaSyntaxError" 307)) (some (.bool true)) "Exception.__new__"
theorem ae6(P:Params):(KP P).lookup 87=some bg9:=by kernel_rfl
structure cA5(P:Params):Prop where
 ini:findIn (KP P) (.ref 87) "__init__"=some (some (.ref 71))
 ty:typeIn (KP P) (.ref 71)=some (.type "function")
 sa:findIn (KP P) (.ref 87) "__setattr__"=some (some (.builtin "object.__setattr__"))
 call:specialIn (KP P) (.ref 87) "__call__"=some (some (.builtin "type.__call__"))
 typ:instIn (KP P) (.ref 87) (.type "type")=some true
 val:findIn (KP P) (.ref 87) "value"=some none
 trc:findIn (KP P) (.ref 87) "trace"=some none
theorem ag3(P:Params):cA5 P:=⟨by kernel_rfl,by kernel_rfl,by kernel_rfl,by kernel_rfl,by kernel_rfl,by kernel_rfl,by kernel_rfl⟩
noncomputable abbrev B4(t:Addr)(d:Option Addr):Obj:= {cls:= .ref 87,dict:=d,data:= .fields #[.ref t, .none, .none, .none, .bool false, .none]}
section
variable {prog:Program} {w:World} {A:Around} {R:Result->Shared->Prop} {h:Heap} {g:Array GenState} {d:Drawn} {t:Nat} {os:de5}
theorem aJ4{M:Model}{E:Value->Shared->Prop}{rest:List Value}{Q:Unit->Shared->Prop}(hC:h.get? 87=some bg9)(hq:Q () ⟨h,g,d,t,os⟩):wpAny M A (checkBuiltinCall "Exception.__new__" ⟨.ref 87::rest,[]⟩) Q E ⟨h,g,d,t,os⟩:=by
 have F:=PySem.F.excBase_Exception
 have hcont:(df2 87::bmE).contains (.type "Exception")=true:=by decide
 have hstar:=F.noStar
 simp only[checkBuiltinCall,F.newKind,F.newSplit,F.newRow]
 repeat (first|refine wpAny_loadPart_at hC ?_ |(refine wpAny_isSubtype_exc hC ?_;rw[hcont])|refine wpAny_staticBase_exc hC ?_ |refine wpAny_madeBy_exc hC ?_ |simp only[bne_self_eq_false,Bool.false_eq_true,if_false]|wp_step)
 exact hq
theorem bf6{rest:List Value}(hC:h.get? 87=some bg9)
 (hq:R (.ok (.ret (.ref (h.objs.size+1)))) ⟨(h.push (z9 rest)).push (B4 h.objs.size none),g,d,t,os⟩) (hrest:rest.length<=sizeLine):
 codeAny (model prog w) A (.builtin "Exception.__new__" ⟨.ref 87::rest,[]⟩) R ⟨h,g,d,t,os⟩:=by
 have F:=PySem.F.excBase_Exception
 have hends:=F.ends
 have hcB:(df2 87::bmE).contains (.type "Exception")=true:=by decide
 have hcA:(df2 87::bmE).contains (.type "AttributeError")=false:=by decide
 have hcN:(df2 87::bmE).contains (.type "NameError")=false:=by decide
 refine codeAny_builtinAt F.entry ?_
 refine PySem.wpAt_bind ?_
 show PySem.wpAt _ _ _ (stack>>= _) _ _ _
 refine PySem.wpAt_bind (PySem.wpAt_stack λp below=>PySem.wpAt_of_wpAny ?_)
 wp_walk
 refine PySem.wpAt_of_wpAny ?_
 rw[F.owner]
 repeat (first|with_reducible refine wpAny_madeHere_exc F.canon hC ?_ |with_reducible refine wpAny_loadPart_at hC ?_ |(with_reducible refine wpAny_isSubtype_exc hC ?_;first|rw[hcB]|rw[hcA]|rw[hcN])|wp_step)
 show R _ _
 rw[Heap.size_push]
 exact hq
theorem aU3{P:Params}{rest:List Value}(K:(KP P).In h)(hrest:rest.length<=sizeLine)
 (hq:codeAny (model prog w) (A.under (.builtin "type.__call__" ⟨.ref 87::rest,[]⟩)) (.call (.ref 71) ⟨.ref (h.objs.size+1)::rest,[]⟩) (InitBack (h.objs.size+1) R) ⟨(h.push (z9 rest)).push (B4 h.objs.size none),g,d,t,os⟩):
 codeAny (model prog w) A (.call (.ref 87) ⟨rest,[]⟩) R ⟨h,g,d,t,os⟩:=by
 have hC:=K _ _ (ae6 P)
 have O:=ag3 P
 have call:=looks_specialIn (M:=model prog w) K O.call
 have typ:=looks_instIn (M:=model prog w) K O.typ
 refine codeAny_of_tree ?_
 refine nd_load hC ?_
 show wpAny _ _ (callAny.viaDunder (.ref 87) _) _ _ _
 refine cV4 (call.at ?_)
 dsimp only
 rw[PySem.tc_bind]
 refine cV4 (cW4 (cV4 (cW4 ?_)))
 refine cW4 (a:=Fin.again (.call (.builtin "type.__call__") ⟨.ref 87::rest,[]⟩)) (And.intro rfl ?_)
 refine codeAny_call_builtin_at (Code.quiet_builtin _ (by decide+kernel)) PySem.entry_typeCall (check_slot PySem.tc_kind PySem.tc_split typ (tc_args _ _ _) ?_)
 unfold Builtin.«type.__call__»
 repeat (first|with_reducible refine wpAny_loadPart_at hC ?_ |with_reducible refine wpAny_madeBy_exc hC ?_ |wp_step)
 refine codeAny_call_builtin_code (Code.quiet_builtin _ PySem.F.excBase_Exception.quiet) (aJ4 hC ?_)
 refine bf6 hC ?_ hrest
 have k:∀b o,h.get? b=some o->((h.push (z9 rest)).push (B4 h.objs.size none)).get? b=some o:=λb o e=>cV6 _ (cV6 _ e)
 have hx:((h.push (z9 rest)).push (B4 h.objs.size none)).get? (h.objs.size+1)=some (B4 h.objs.size none):=by heap_get
 have K':(KP P).In ((h.push (z9 rest)).push (B4 h.objs.size none)):=K.keeps k
 have hC':=k _ _ hC
 have t1:Looks (model prog w) ((h.push (z9 rest)).push (B4 h.objs.size none)) (typeOf (.ref (h.objs.size+1))) (.ref 87):=(Looks.ld hx).andThen .now
 have i1:=looks_findIn (M:=model prog w) K' O.ini
 have b1:Looks (model prog w) ((h.push (z9 rest)).push (B4 h.objs.size none)) (bindSpecial (.ref 71) (.ref (h.objs.size+1))) (.ref 71,[.ref (h.objs.size+1)]):=bind_fn K' _ O.ty
 have hcC:(df2 87::bmE).contains (.ref 87)=true:=by simp
 refine cV4 (cV4 (t1.at (wpAny_isSubtype_exc hC' ?_)))
 rw[hcC]
 refine wpAny_ite (KBy.ite_no (by decide) ?_)
 unfold callSpecial? specialOf
 refine cV4 (da9 (cV4 (cV4 (t1.at (i1.at ?_)))))
 refine da9 (cV4 (b1.at (cV4 (wpAny_call (codeAny_mono hq λr s' z=> ?_)))))
 rcases r with e|(v|_|_|_)<;>first|exact z|exact z.elim|skip
 obtain⟨rfl,z⟩:=z
 exact cW4 (wpAny_ite (KBy.ite_no (by decide) (cW4 z)))
end
section
open Builtin Builtin.ObjectAttr
theorem cD6(P:Params):subIn (KP P) (.ref 87) (.type "object")=some true:=by kernel_rfl
theorem aT1(self:Value):refuseLoop self "__setattr__" (.ref 87::bmE)=pure ():=by
 rw[refuseLoop_ref,refuseLoop_ref];exact PySem.F.store_Exception.passes self
section
variable {prog:Program} {w:World} {A:Around} {R:Result->Shared->Prop} {s:Shared}
theorem ar4{P:Params}{x:Addr}{ox:Obj}{name:Str}{tk:Tok}{v:Value}(K:(KP P).In s.heap)(hx:s.heap.get? x=some ox)(hc:ox.cls= .ref 87)(ha:findIn (KP P) (.ref 87) name=some none)
 (h:wpAny (model prog w) A.in1 (ownDictForStores (.ref x) >>= λr=>match r with|some d=>storeInDict d (.str name tk) name v|none=>noDictFor (.ref x) (.ref 87) name false)
  (λfin s'=>match fin with| .done f=>R (.ok f) s'| .again c'=>c'.quiet=true/\codeAny (model prog w) A c' R s') (λe s'=>R (.error e) s') s):
 codeAny (model prog w) A (.call (.builtin "object.__setattr__") ⟨[.ref x, .str name tk,v],[]⟩) R s:=by
 have SF:=PySem.F.store_object
 obtain⟨hh,g,d,t,os⟩:=s
 have ty:Looks (model prog w) hh (typeOf (.ref x)) (.ref 87):=(Looks.ld hx).andThen (by rw[hc];exact .now)
 have sub:Looks (model prog w) hh (isInstance (.ref x) (.type "object")) true:=ty.andThen (looks_subIn K (cD6 P))
 refine codeAny_call_builtin SF.slot.plain SF.entry (@check_slot (model prog w) _ _ ⟨hh,g,d,t,os⟩ "object.__setattr__" "object" "__setattr__" (.ref x) [.str name tk,v] [] _ SF.kind SF.split sub (SF.args (.ref x) (.str name tk) v) ?_)
 have hm:Looks (model prog w) hh (mroOf (.ref 87)) (.ref 87::bmE):=((Looks.ld (part:=none) (K _ _ (ae6 P))).andThen .now).andThen .now
 rw[osa_eq,refuse_eq]
 refine cV4 (cV4 (ty.here (cV4 (hm.here ?_))))
 rw[aT1]
 refine cW4 (cV4 (ty.here (cV4 ((looks_findIn K ha).here (cV4 (cW4 ?_))))))
 exact h
theorem aK0{P:Params}{x t:Addr}{Q:Option Addr->Shared->Prop}{E:Value->Shared->Prop}(K:(KP P).In s.heap)(hx:s.heap.get? x=some (B4 t none))
 (h:∀h',(∀b o,b≠x->s.heap.get? b=some o->h'.get? b=some o)->h'.get? x=some (B4 t (some s.heap.objs.size))->h'.get? s.heap.objs.size=some emptyDict->Q (some s.heap.objs.size) {s with heap:=h'}):wpAny (model prog w) A (ownDictForStores (.ref x)) Q E s:=by
 have hC:=K _ _ (ae6 P)
 show wpAny _ _ (instanceDict x true) _ _ _
 refine cV4 (wpAny_loadPart hx ?_)
 try dsimp only
 refine cV4 ?_
 refine cV4 (wpAny_load hC (cW4 ?_))
 refine wpAny_ite (KBy.ite_no (by decide) ?_)
 try dsimp only
 refine wpAny_ite (KBy.ite_no (by decide) ?_)
 try dsimp only
 refine cV4 (wpAny_alloc ?_)
 have hx':(s.heap.push emptyDict).get? x=some (B4 t none):=cV6 _ hx
 have hne:x≠s.heap.objs.size:=da3 (cY9 hx)
 refine cV4 (wpAny_update hx' ?_)
 refine cW4 (h _ (λb o hb e=> ?_) ?_ ?_)
 ·rw[dc4 _ _ (Ne.symm hb)]
  exact cV6 _ e
 ·exact da8 _ hx' rfl
 ·rw[dc4 _ _ hne]
  exact cX3 _ rfl
theorem af0{d:Addr}{od:Obj}{m:Str->Option Value}{k:Nat}{name:Str}{tk:Tok}{v:Value}(hd:s.heap.get? d=some od)(hm:ObjNs od m)(hk:Z5 od k)(hz:k<=1000)
 {Q:Fin->Shared->Prop} {E:Value->Shared->Prop} (h:∀h' o' t,db1 d s.heap h'->h'.get? d=some o'->ObjNs o' (λy=>if y=name then some v else m y)->Z5 o' (k+1)->Q (.done (.ret .none)) {s with heap:=h',toks:=t}):
 wpAny (model prog w) A (storeInDict d (.str name tk) name v) Q E s:=by
 refine cV4 (cW4 (cV4 (Q5 hd hm hk λh' o' e1 e2 e3 e4 hs=> ?_)))
 obtain⟨es,ep,e5,e6⟩:=id e3
 exact cV4 (wpAny_lookBehind e1 (by rw[e5];exact pastItsLine_dict (by rw[df4];lia)) (cW4 (h h' o' _ hs e1 e2 e3)))
theorem aR0{P:Params}{x t:Addr}{name:Str}{v:Value}{Q:Unit->Shared->Prop}{E:Value->Shared->Prop}(K:(KP P).In s.heap)(hx:s.heap.get? x=some (B4 t none))(hn:findIn (KP P) (.ref 87) name=some none)
 (h:∀h' o' tk,(∀b o,b≠x->s.heap.get? b=some o->h'.get? b=some o)->h'.get? x=some (B4 t (some s.heap.objs.size))->h'.get? s.heap.objs.size=some o'->ObjNs o' (λy=>if y=name then some v else none)->Z5 o' 1->Q () {s with heap:=h',toks:=tk}):
 wpAny (model prog w) A (setAttr (.ref x) name v) Q E s:=by
 refine set_plain (C:=87) (od:=none) K ⟨hx,rfl,rfl,trivial⟩ (ag3 P).sa (ar4 (s:= {s with toks:=s.toks+1}) K hx rfl hn (cV4 (aK0 (s:= {s with toks:=s.toks+1}) K hx λh' k1 k2 k3=> ?_)))
 refine af0 (s:= {s with heap:=h',toks:=s.toks+1}) k3 aP3 ⟨#[],0,rfl,cX4 _⟩ (by decide) λh'' o' tk hs e1 e2 e3=> ?_
 have hne:∀b o,s.heap.get? b=some o->b≠s.heap.objs.size:=λb o e=>da3 (cY9 e)
 exact h h'' o' tk (λb o hb e=>(hs.2 b (hne b o e)).trans (k1 b o hb e)) ((hs.2 x (hne x _ hx)).trans k2) e1 e2 e3
theorem aM9{P:Params}{x t dx:Addr}{od:Obj}{m:Str->Option Value}{k:Nat}{name:Str}{v:Value}{Q:Unit->Shared->Prop}{E:Value->Shared->Prop}(K:(KP P).In s.heap)(hx:s.heap.get? x=some (B4 t (some dx)))(hd:s.heap.get? dx=some od)(hm:ObjNs od m)(hk:Z5 od k)(hz:k<=1000)(hn:findIn (KP P) (.ref 87) name=some none)
 (h:∀h' o' tk,db1 dx s.heap h'->h'.get? dx=some o'->ObjNs o' (λy=>if y=name then some v else m y)->Q () {s with heap:=h',toks:=tk}):
 wpAny (model prog w) A (setAttr (.ref x) name v) Q E s:=by
 refine set_plain (C:=87) (od:=some od) K ⟨hx,rfl,rfl,hd⟩ (ag3 P).sa (ar4 (s:= {s with toks:=s.toks+1}) K hx rfl hn ?_)
 have hC:=K _ _ (ae6 P)
 refine cV4 ?_
 show wpAny _ _ (instanceDict x true) _ _ _
 refine cV4 (wpAny_loadPart (s:= {s with toks:=s.toks+1}) hx ?_)
 refine cV4 ?_
 refine cV4 (wpAny_load (s:= {s with toks:=s.toks+1}) hC (cW4 ?_))
 refine wpAny_ite (KBy.ite_no (by decide) ?_)
 refine cW4 ?_
 exact af0 (s:= {s with toks:=s.toks+1}) hd hm hk hz λh' o' tk hs e1 e2 e3=>h h' o' tk hs e1 e2
end
noncomputable def cB2(h:Heap)(x:Addr)(msg:List UInt8):Prop:=∃t dx od es n tk,h.get? x=some (B4 t (some dx))/\h.get? dx=some od/\od.data= .dict es n/\nsFind es (cV1 "value")=some (.bytes msg.toArray tk)/\StrKeys es
theorem aW5{X:Cx}{n:Nat}{outer:List Env}{A:Around}{s:Shared}{msg:List UInt8}{t:Tok}{Qr Er:Value->Shared->Prop}(hA:Rm outer A (n+2))(K:X.K.In s.heap)(hlim:s.heap.NoLimit)
 (h:∀x s',(∀b o,s.heap.get? b=some o->s'.heap.get? b=some o)->s.heap.get? x=none->cB2 s'.heap x msg->s'.os=s.os->s'.gens=s.gens->Qr (.ref x) s'):
 codeAny X.M A (.call (.ref 87) ⟨[.bytes msg.toArray t],[]⟩) (aL8 Qr Er) s:=by
 obtain⟨hh,g,dd,tt,os⟩:=s
 refine aU3 K (by rw[df4];exact cV3 rfl) ?_
 have D:=D71 X.w.params
 have k1:∀b o,hh.get? b=some o->((hh.push (z9 [.bytes msg.toArray t])).push (B4 hh.objs.size none)).get? b=some o:=λb o e=>cV6 _ (cV6 _ e)
 have hx:((hh.push (z9 [.bytes msg.toArray t])).push (B4 hh.objs.size none)).get? (hh.objs.size+1)=some (B4 hh.objs.size none):=by heap_get
 have K':X.K.In ((hh.push (z9 [.bytes msg.toArray t])).push (B4 hh.objs.size none)):=K.keeps k1
 have hd:=hA.depth
 refine codeAny_call_def (by rw[depth_under_make];lia) (K' _ _ D.obj) rfl (hlim.keeps k1) (codeRec_of K' D.code) D.body (D.bind [.ref (hh.objs.size+1), .bytes msg.toArray t] rfl ⟨(hh.push (z9 [.bytes msg.toArray t])).push (B4 hh.objs.size none),g,dd,tt,os⟩ K') D.cell (λx hx=>D.loc x.1 (List.of_mem_zip hx).1) (λh₁ hns hkeep=> ?_) D.co D.gen D.kind
 have hn:hh.objs.size+1 < ((hh.push (z9 [.bytes msg.toArray t])).push (B4 hh.objs.size none)).objs.size:=cY9 hx
 have hx1:=hkeep _ _ hx
 have K1:X.K.In h₁:=K'.keeps hkeep
 have O:=D.frm ((hh.push (z9 [.bytes msg.toArray t])).push (B4 hh.objs.size none)).objs.size PM.emp [] 0 0
 rw[ab2 D ((hh.push (z9 [.bytes msg.toArray t])).push (B4 hh.objs.size none)).objs.size PM.emp [] 0 0]
 refine wpAny_execs_cons (plainObj_wpAny_Assign_Attribute (db9 (cW9 O.kind (O.loc (cV1 "value") (show cV1 "value"∈nm71 by simp[nm71])) hns (x4 D.nodup 1 _ (.bytes msg.toArray t) rfl rfl) (db9 (cW9 O.kind (O.loc (cV1 "self") (show cV1 "self"∈nm71 by simp[nm71])) hns (x4 D.nodup 0 _ (.ref (hh.objs.size+1)) rfl rfl) ?_) (by decide))) (by decide)) rfl)
 refine aR0 K1 hx1 (ag3 _).val λh₂ o₂ t₂ a1 a2 a3 a4 a5=> ?_
 have hLx:((hh.push (z9 [.bytes msg.toArray t])).push (B4 hh.objs.size none)).objs.size≠hh.objs.size+1:=Nat.ne_of_gt hn
 obtain⟨o',es',ep',ho',hd',hk',hf'⟩:=id hns
 have hns2:h₂.Ns ((hh.push (z9 [.bytes msg.toArray t])).push (B4 hh.objs.size none)).objs.size (λx=>(nm71.zip ([.ref (hh.objs.size+1), .bytes msg.toArray t]++[])).reverse.lookup x):=⟨o',es',ep',a1 _ _ hLx ho',hd',hk',hf'⟩
 have hns3:=hns2.push (o:=j0 [] 0)
 refine wpAny_execs_cons (plainObj_wpAny_Assign_Attribute (wpAny_List (cZ1 ⟨sz (by decide),db9 (cW9 O.kind (O.loc (cV1 "self") (show cV1 "self"∈nm71 by simp[nm71])) hns3 (x4 D.nodup 0 _ (.ref (hh.objs.size+1)) rfl rfl) ?_) (by decide)⟩)) rfl)
 have hK:∀b o,hh.get? b=some o->h₂.get? b=some o:=λb o e=>a1 b o (da3 (Nat.lt_succ_of_lt (cY9 e))) (hkeep _ _ (k1 _ _ e))
 have hK3:∀b o,hh.get? b=some o->(h₂.push (j0 [] 0)).get? b=some o:=λb o e=>cV6 _ (hK b o e)
 refine aM9 (s:=⟨h₂.push (j0 [] 0),g,dd,t₂,os⟩) (K.keeps hK3) (cV6 _ a2) (cV6 _ a3) a4 a5 (by decide) (ag3 _).trc λh₃ o3 t₃ b1 b2 b3=> ?_
 refine wpAny_execs_nil ?_
 refine⟨rfl, ?_⟩
 have hsz:hh.objs.size < h₁.objs.size:=da7 (Nat.lt_of_succ_lt hn) (Nat.le_of_lt (cY9 ho'))
 have hdx:∀b o,hh.get? b=some o->b≠h₁.objs.size:=λb o e=>da3 (dh6 (cY9 e) hsz)
 obtain⟨es,ep,c1,c2,c3⟩:=b3
 have c4:=c3 (cV1 "value")
 have hxx:hh.objs.size+1≠h₁.objs.size:=da3 (dh6 hn (cY9 ho'))
 refine h (hh.objs.size+1) ⟨h₃,g,dd,t₃,os⟩ (λb o e=>(b1.2 b (hdx b o e)).trans (hK3 b o e)) (Heap.get?_none_of_le (Nat.le_succ _)) ⟨hh.objs.size,h₁.objs.size,o3,es,ep,t,(b1.2 _ hxx).trans (cV6 _ a2),b2,c1,c4,c2⟩ rfl rfl
end
section
variable {X:Cx} {F:Frm} {n:Nat} {st:St} {R:List UInt8->Prop} {α β γ δ:Type}
theorem az0{M:Model}{A:Around}{E:Value->Shared->Prop}{s:Shared}{env:Env}{x t dx:Addr}{P:Params}{Q:Flow->Shared->Prop}(hh:A.handled=none)(hC:s.heap.get? 87=some bg9)(he:s.heap.get? x=some (B4 t (some dx)))(hE:E (.ref x) s):
 wpAny M A (raiseStmt env (some (pure (.ref x))) none) Q E s:=by
 have hcB:(df2 87::bmE).contains (.type "BaseException")=true:=by decide
 refine cV4 (cW4 ?_)
 obtain⟨hp,g,d,tk,os⟩:=s
 repeat (first|with_reducible refine wpAny_loadPart_at he ?_ |with_reducible refine wpAny_loadPart_at hC ?_ |(with_reducible refine wpAny_isSubtype_exc hC ?_;rw[hcB])|wp_step)
 exact wpAny_raiseNew_none hh hE
theorem aw8{M:Model}{A:Around}{E:Value->Shared->Prop}{s:Shared}{env:Env}{x:Sem Value}{Q:Flow->Shared->Prop}(h:d6 M A x (λv s₁=>d6 M A (raiseStmt env (some (pure v)) none) Q E s₁) E s):d6 M A (raiseStmt env (some x) none) Q E s:=by
 have e:∀x:Sem Value,raiseStmt env (some x) none=(x>>= λv=>raiseStmt env (some (pure v)) none):=λx=>rfl
 rw[e]
 exact a0 h
theorem aR7{y p e pos' pos}{Q:Fl->St->Prop}(O:FOk F)(hk:F.scope.names.lookup y=some .globalImplicit)(hg:nsIn X.K cW5 y=some (some (.ref 87)))(hf:keepIn X.K (.ref 87)=true)
 (h:Ev X F (n+2) e st (λv st1=>∃msg,v= .bytes msg/\R msg) R) (hd:(y== ("__debug__":Str))=false:=by decide)
 (he:cW7 [e] F.env=(false,eval e F.env)::cW7 [] F.env:=by rfl):Ex X F (n+2) (.Raise (some (.Call (.Name y p) [e] [] pos')) none pos) st Q R:=
 λA s φ ω Qr Er hA hI hQ hE=>by
  rw[arm_exec_Raise]
  refine i6 ?_
  refine aw8 (a0 ?_)
  refine m8 (gl O hI hk hg (u9 X.kin hf (d9 (h A s φ ω _ Er hA hI (λv st1 r₁ s₁ φ1 ω₁ ⟨msg,e1,hm⟩ hI1 hl1 hv=>i9 <| cZ1 ⟨hI1.S.kin, ?_⟩) hE) he) he) hd)
  subst e1
  refine hv.bytesE λu=> ?_
  refine q9 (cb5 (aW5 hA hI1.S.kin hI1.S.noLimit λx s' hk hx hex ho hg=> ?_))
  refine i6 (b7 ?_)
  obtain⟨t,dx,od,es,nn,tk,c1,c2,c3,c4,c5⟩:=hex
  refine i9 (az0 (P:=X.w.params) hA.handled (hk _ _ (hI1.S.kin _ _ (ae6 _))) c1 (hE x s' msg hm ?_))
  obtain⟨m,oL,d,h1,h1a,h1b,h2,h3,h3b,h4,h5,h6⟩:=hI1.ex
  obtain⟨o2,e2,e3⟩:=ObjNs.of h2
  refine⟨λa o q=>hk _ _ (hI1.S.heap0 a o q),λa o q H=>⟨o.slots,hk _ _ (hI1.S.kψ a o q)⟩,⟨hI1.new,o2,hk _ _ e2,e3.noFields⟩,⟨_,_,dx,od,es,nn,tk,c1,rfl,rfl,rfl, ?_,c2,c3,c4,c5, .inl rfl⟩,ho.trans hI1.S.os,hg.trans hI1.S.gens⟩
  cases q:X.H₀.get? x with
  |none=>rfl
  |some o=>rw[hI1.S.heap0 _ _ q]at hx;exact nomatch hx
end
noncomputable section
noncomputable abbrev Bs:=List UInt8
noncomputable def b9:Bs->Int
 | []=> -1
 |c::_=>c.toNat
noncomputable def hd(r:Bs):UInt8:=r.headD 0
noncomputable def d8(s:Int):Bool:=decide (48<=s) &&decide (s<=57)
noncomputable def t6(s:Int):Bool:=(decide (65<=s) &&decide (s<=90)) || (decide (97<=s) &&decide (s<=122)) ||s==95
noncomputable def c8(s:Int):Bool:=t6 s||d8 s
noncomputable def u6(s:Int):Bool:=s==32|| (decide (9<=s) &&decide (s<=13))
noncomputable def aI5(s:Int):Bool:=(decide (0<=s) &&decide (s < 32)) ||s==127
noncomputable def b8(s:Int):Bool:=s==10||s==13
noncomputable def g0(s:Int):Int:=if 48<=s/\s<=57 then s - 48 else if 97<=s/\s<=122 then s - 87 else if 65<=s/\s<=90 then s - 55 else -1
inductive Res(α:Type)
 |ok (a:α) (r:Bs) (l:Int) (b:Bs)
 |err (l:Int) (what near:Bs)
noncomputable abbrev Tk:=Int×V
noncomputable def bs(s:String):Bs:=s.toList.map λc=>c.toNat.toUInt8
noncomputable def endLine(r:Bs):Bs:=if b8 (b9 r.tail) &&b9 r.tail != b9 r then r.tail.tail else r.tail
noncomputable def tw(p:Int->Bool):Bs->Bs
 | []=>[]
 |c::t=>if p c.toNat then c::tw p t else []
noncomputable def dw(p:Int->Bool):Bs->Bs
 | []=>[]
 |c::t=>if p c.toNat then dw p t else c::t
noncomputable def v8(s:Int):Bool:=s==61
noncomputable def f7(r:Bs):Int:=if b9 (dw v8 r.tail) ==b9 r then((tw v8 r.tail).length:Int)else -((tw v8 r.tail).length:Int) - 1
noncomputable def c9(r:Bs):Bs:=dw v8 r.tail
noncomputable def f5(r b:Bs):Bs:=b++[hd r]++tw v8 r.tail
noncomputable def A3(s:Int):Bool:= !b8 s
noncomputable def longLoop(lv:Int)(isText:Bool)(begin:Nat):Nat->Bs->Int->Bs->Res Bs
 |0,_,l,_=> .err l [] []
 |f+1,r,l,b=>
  if b9 r== -1 then .err l (if isText then bs "unfinished long string" else bs "unfinished long comment") (bs "<eof>")
  else if b9 r==91 then
   if f7 r==lv then
    if lv==0 then .err l (bs "nesting of [[...]] is deprecated") (bs "[")
    else longLoop lv isText begin f (c9 r).tail l (f5 r b++[hd (c9 r)])
   else longLoop lv isText begin f (c9 r) l (f5 r b)
  else if b9 r==93 then
   if f7 r==lv then
    .ok (F2 (f5 r b++[hd (c9 r)]) (some (begin:Int)) (some (((f5 r b++[hd (c9 r)]).length:Int) - lv - 2))) (c9 r).tail l (f5 r b++[hd (c9 r)])
   else longLoop lv isText begin f (c9 r) l (f5 r b)
  else if b8 (b9 r)then longLoop lv isText begin f (endLine r) (l+1) (if isText then b++[10]else F2 (b++[10]) none (some (begin:Int)))
  else if isText then longLoop lv isText begin f r.tail l (b++[hd r])
  else longLoop lv isText begin f r.tail l b
noncomputable def o0(lv:Int)(isText:Bool)(r:Bs)(l:Int)(b:Bs):Res Bs:=
 if b8 (b9 r.tail)then longLoop lv isText (b++[hd r]).length ((endLine r.tail).length+1) (endLine r.tail) (l+1) (b++[hd r])
 else longLoop lv isText (b++[hd r]).length (r.tail.length+1) r.tail l (b++[hd r])
noncomputable def i8(r:Bs)(l:Int)(b:Bs):Res Unit:=
 if b9 r.tail.tail==91 then
  if f7 r.tail.tail≥ 0 then
   match o0 (f7 r.tail.tail) false (c9 r.tail.tail) l []with
   | .ok _ r l _=> .ok () r l []
   | .err l w n=> .err l w n
  else .ok () (dw A3 (c9 r.tail.tail)) l []
 else .ok () (dw A3 r.tail.tail) l b
noncomputable def i7(r:Bs)(l:Int)(b:Bs):Res Bool:=
 if b8 (b9 r)then .ok true (endLine r) (l+1) b
 else if u6 (b9 r)then .ok true r.tail l b
 else if b9 r==45&&b9 r.tail==45 then
  match i8 r l b with
  | .ok _ r l b=> .ok true r l b
  | .err l w n=> .err l w n
 else .ok false r l b
noncomputable def skipLoop:Nat->Bs->Int->Bs->Res Unit
 |0,_,l,_=> .err l [] []
 |f+1,r,l,b=>match i7 r l b with
  | .ok true r l b=>skipLoop f r l b
  | .ok false r l b=> .ok () r l b
  | .err l w n=> .err l w n
noncomputable def escTab:List (UInt8×UInt8):=[(97,7),(98,8),(102,12),(110,10),(114,13),(116,9),(118,11)]
noncomputable def esc(c:UInt8):UInt8:=(escTab.lookup c).getD c
noncomputable def H6:Nat->Int->Bs->Int×Bs
 |0,v,r=>(v,r)
 |k+1,v,r=>if d8 (b9 r)then H6 k (10 * v+b9 r - 48) r.tail else(v,r)
noncomputable def n5(r:Bs)(l:Int)(b:Bs):Res Unit:=
 if b9 r== -1 then .ok () r l b
 else if b8 (b9 r)then .ok () (endLine r) (l+1) (b++[10])
 else if d8 (b9 r)then
  if(H6 3 0 r).1> 255 then .err l (bs "escape sequence too large") b
  else .ok () (H6 3 0 r).2 l (b++[(H6 3 0 r).1.toNat.toUInt8])
 else .ok () r.tail l (b++[esc (hd r)])
noncomputable def j9(q:Int):Nat->Bs->Int->Bs->Res Unit
 |0,_,l,_=> .err l [] []
 |f+1,r,l,b=>
  if b9 r==q then .ok () r.tail l (b++[hd r])
  else if b9 r== -1 then .err l (bs "unfinished string") (bs "<eof>")
  else if b8 (b9 r)then .err l (bs "unfinished string") b
  else if b9 r==92 then
   match n5 r.tail l b with
   | .ok _ r l b=>j9 q f r l b
   | .err l w n=> .err l w n
  else j9 q f r.tail l (b++[hd r])
noncomputable def l6(q:Int)(r:Bs)(l:Int)(b:Bs):Res Tk:=
 match j9 q (r.tail.length+1) r.tail l (b++[hd r])with
 | .ok _ r l b=> .ok (286, .bytes (F2 b (some 1) (some ((b.length:Int) - 1)))) r l b
 | .err l w n=> .err l w n
noncomputable def j6(r:Bs)(l:Int)(b:Bs):Res Tk:=
 if f7 r≥ 0 then
  match o0 (f7 r) true (c9 r) l (f5 r b)with
  | .ok t r l b=> .ok (286, .bytes t) r l b
  | .err l w n=> .err l w n
 else if f7 r < -1 then .err l (bs "invalid long string delimiter") (f5 r b)
 else .ok (91, .none) (c9 r) l (f5 r b)
noncomputable def g9(s:Int):Bool:=d8 s||s==46
noncomputable def j5(base:Int):Bs->Int->Nat->Int×Nat
 | [],v,k=>(v,k)
 |c::t,v,k=>if g0 c.toNat < 0||g0 c.toNat≥ base then(v,k)else j5 base t (v * base+g0 c.toNat) (k+1)
noncomputable def v9(t:Bs):Bool:=decide (2 < t.length) && (b9 t==48&& (hd t.tail==120||hd t.tail==88))
noncomputable def q0(t:Bs):Bool:=v9 t&& (decide (0<=g0 (b9 t.tail.tail)) &&decide (g0 (b9 t.tail.tail)< 16))
noncomputable def U1(n:Int):Int:=
 if dg8 n (1 * 2 ^ (64:Int).toNat - 1) ≥ 1 * 2 ^ (64 - 1:Int).toNat then dg8 n (1 * 2 ^ (64:Int).toNat - 1) - 1 * 2 ^ (64:Int).toNat else dg8 n (1 * 2 ^ (64:Int).toNat - 1)
noncomputable def m5(t:Bs):Option Int:=
 if q0 t then
  if(j5 16 t.tail.tail 0 0).2=0∨(j5 16 t.tail.tail 0 0).2+2≠t.length then none else some (U1 (j5 16 t.tail.tail 0 0).1)
 else if(j5 10 t 0 0).2=0∨(j5 10 t 0 0).2≠t.length then none else some (U1 (j5 10 t 0 0).1)
noncomputable def isE(s:Int):Bool:=s==69||s==101
noncomputable def A7(s:Int):Bool:=s==43||s==45
noncomputable def m9(r b:Bs):Bs×Bs:=
 if isE (b9 r)then
  if A7 (b9 r.tail)then(r.tail.tail,b++[hd r]++[hd r.tail])else(r.tail,b++[hd r])
 else(r,b)
noncomputable def l9(r:Bs)(l:Int)(b:Bs):Res Tk:=
 let p:=m9 (dw g9 r) (b++tw g9 r)
 match m5 (p.2++tw c8 p.1)with
 |none=> .err l (bs "malformed number") (p.2++tw c8 p.1)
 |some v=> .ok (284, .int v) (dw c8 p.1) l (p.2++tw c8 p.1)
noncomputable def o4(r:Bs)(l:Int)(b:Bs):Res Tk:=
 if b9 r.tail==46 then
  if b9 r.tail.tail==46 then .ok (279, .none) r.tail.tail.tail l (b++[hd r]++[hd r.tail]++[hd r.tail.tail])
  else .ok (278, .none) r.tail.tail l (b++[hd r]++[hd r.tail])
 else if d8 (b9 r.tail)then l9 r.tail l (b++[hd r])
 else .ok (46, .none) r.tail l (b++[hd r])
noncomputable def words:List Bs:=[bs "and",bs "break",bs "do",bs "else",bs "elseif",bs "end",bs "false",bs "for",bs "function",bs "if",bs "in",bs "local",bs "nil",bs "not",bs "or",bs "repeat",bs "return",bs "then",bs "true",bs "until",bs "while"]
noncomputable def kindTab:List (Bs×Int):=words.zip ((List.range 21).map λ(i:Nat)=>(257:Int)+i)
noncomputable def s9(r:Bs)(l:Int)(b:Bs):Res Tk:=
 match kindTab.lookup (b++tw c8 r)with
 |none=> .ok (285, .bytes (b++tw c8 r)) (dw c8 r) l (b++tw c8 r)
 |some k=> .ok (k, .none) (dw c8 r) l (b++tw c8 r)
noncomputable def q7(s:Int)(r:Bs)(l:Int)(b:Bs):Res Tk:=
 if b9 r.tail != 61 then .ok (s, .none) r.tail l b
 else .ok (if s==61 then 280 else if s==60 then 282 else if s==62 then 281 else 283, .none) r.tail.tail l b
noncomputable def ar0(s:Int):Bool:=s==61||s==60||s==62||s==126
noncomputable def B1(s:Int):Bool:=s==34||s==39
noncomputable def f6(r:Bs)(l:Int):Res Tk:=
 match skipLoop (r.length+1) r l []with
 | .err l w n=> .err l w n
 | .ok _ r l b=>
  if b9 r== -1 then .ok (287, .none) r l b
  else if B1 (b9 r)then l6 (b9 r) r l b
  else if b9 r==91 then j6 r l b
  else if b9 r==46 then o4 r l b
  else if d8 (b9 r)then l9 r l b
  else if t6 (b9 r)then s9 r l b
  else if b9 r==45 then .ok (45, .none) r.tail l b
  else if ar0 (b9 r)then q7 (b9 r) r l b
  else .ok (b9 r, .none) r.tail l b
noncomputable def aw4:Nat->Nat->Bs
 |0,n=>[(48+n).toUInt8]
 |f+1,n=>if n<=9 then [(48+n).toUInt8]else aw4 f (n / 10)++[(48+n % 10).toUInt8]
noncomputable def L6(n:Nat):Bs:=aw4 n n
theorem ah5(f n:Nat):aw4 (f+1) n=if n<=9 then [(48+n).toUInt8]else aw4 f (n / 10)++[(48+n % 10).toUInt8]:=rfl
theorem ai1:∀f,aw4 f 0=[48]:=λf=>by cases f<;>rfl
theorem bf0(f:Nat):∀g n,n<=f->n<=g->aw4 f n=aw4 g n:=by
 induction f with
 |zero=>intro g n h _;rw[Nat.le_zero.mp h,ai1,ai1]
 |succ f ih=>
  intro g n h h2
  cases g with
  |zero=>rw[Nat.le_zero.mp h2,ai1,ai1]
  |succ g=>rw[ah5,ah5,ih g (n / 10) (by lia) (by lia)]
theorem Q3(n:Nat):L6 n=if n<=9 then [(48+n).toUInt8]else L6 (n / 10)++[(48+n % 10).toUInt8]:=by
 cases n with
 |zero=>rfl
 |succ k=>exact(ah5 k (k+1)).trans (by rw[bf0 k ((k+1) / 10) ((k+1) / 10) (by lia) (cX4 _)];rfl)
noncomputable def Q0(n:Int):Bs:=L6 n.toNat
noncomputable def u3(chunk:Bs)(l:Int)(w near:Bs):Bs:=chunk++[58]++Q0 l++[58,32]++w++(bs " near '"++near++[39])
end
structure LxS where
 text:Bs
 source:Bs
 chunk:Bs
 kinds:V
 rest:Bs
 line:Int
 last:Int
 buf:Bs
 cur:V
 ahead:V
noncomputable def limF:List (String×V):=[("width", .int 64),("registers", .int 250),("upvalues", .int 60),("local_names", .int 200),("ccalls", .int 40),("frames", .int 200),("stack", .int 2000),("flush", .int 50),("steps", .int 1000000000),("text", .int 1000000)]
noncomputable def J5:V:= .rcd 53 limF
noncomputable def aV5(k:Int)(v:V):V:= .rcd 262 [("kind", .int k),("value",v)]
noncomputable def LxS.fs(σ:LxS):List (String×Fv):=[("text", .val (.bytes σ.text)),("source", .val (.bytes σ.source)),("chunk", .val (.bytes σ.chunk)),("limits", .val J5),("kinds", .val σ.kinds),("at", .val (.int ((σ.text.length:Int) - σ.rest.length))),("sign", .val (.int (b9 σ.rest))),("line", .val (.int σ.line)),("last_line", .val (.int σ.last)),("buffer", .buf σ.buf),("current", .val σ.cur),("ahead", .val σ.ahead)]
noncomputable def LxS.w(σ:LxS)(r:Bs)(l:Int)(b:Bs):LxS:= {σ with rest:=r,line:=l,buf:=b}
structure LxS.Ok(σ:LxS):Prop where
 suf:σ.rest <:+σ.text
 few:σ.text.length<=5000
 room:σ.buf.length+σ.rest.length<=σ.text.length
 pos:1<=σ.line
 lines:σ.line+σ.rest.length<=σ.text.length+1
noncomputable def Lx{α:Type}(X:Cx)(n:Nat)(f:Addr)(vs:List V)(σ:LxS)(enc:α->V)(res:Res α):Prop:=
 Cs X n (.ref f) 465 vs (some σ.fs) (λv m=>∃a r l b,res= .ok a r l b/\v=enc a/\m=some (σ.w r l b).fs) (λmsg=>∃l w nr,res= .err l w nr/\msg=u3 σ.chunk l w nr)
theorem Lx.use{α:Type}{X:Cx}{n k:Nat}{f:Addr}{vs:List V}{σ:LxS}{enc:α->V}{res:Res α}{Q:V->Option (List (String×Fv))->Prop}{R:Bs->Prop}(h:Lx X k f vs σ enc res)(hk:k<=n)(hr:∀l w nr,res= .err l w nr->R (u3 σ.chunk l w nr))(hq:∀a r l b,res= .ok a r l b->Q (enc a) (some (σ.w r l b).fs)):
 Cs X n (.ref f) 465 vs (some σ.fs) Q R:=
 (Cs.up h hk).mono (λv m ⟨a,r,l,b,e1,e2,e3⟩=>e2▸e3▸hq a r l b e1) (λmsg ⟨l,w,nr,e1,e2⟩=>e2▸hr l w nr e1)
theorem Lx.sure{α:Type}{X:Cx}{n k:Nat}{f:Addr}{vs:List V}{σ:LxS}{enc:α->V}{a:α}{r:Bs}{l:Int}{b:Bs}{Q:V->Option (List (String×Fv))->Prop}{R:Bs->Prop}(h:Lx X k f vs σ enc (.ok a r l b))(hk:k<=n)(hq:Q (enc a) (some (σ.w r l b).fs)):Cs X n (.ref f) 465 vs (some σ.fs) Q R:=
 h.use hk (λH H H e=>by cases e) (λH H H H e=>by cases e;exact hq)
theorem A9{r:Bs}(h:b9 r≠ -1):r≠[]:=by rintro rfl;exact h rfl
theorem W4{r:Bs}(h:r≠[]):0<=b9 r:=by cases r with|nil=>exact absurd rfl h|cons c t=>exact da1 _
theorem aj0(r:Bs):b9 r < 256:=by
 cases r with
 |nil=>decide
 |cons c t=>have:=c.toNat_lt;show(c.toNat:Int)< 256;lia
theorem at1{r:Bs}(h:r≠[]):(b9 r).toNat.toUInt8=hd r:=by
 cases r with
 |nil=>exact absurd rfl h
 |cons c t=>show((c.toNat:Int).toNat).toUInt8=c;simp
theorem bd1{r t:Bs}(h:r <:+t):(r≠[]->((t.getD (t.length - r.length) 0).toNat:Int)=b9 r)/\r.length<=t.length:=by
 obtain⟨p,rfl⟩:=h
 refine⟨λhr=> ?_,by simp⟩
 cases r with
 |nil=>exact absurd rfl hr
 |cons c q=>simp[b9]
structure Le(r0:Bs)(l0:Int)(b0:Bs)(r:Bs)(l:Int)(b:Bs):Prop where
 suf:r <:+r0
 room:b.length+r.length<=b0.length+r0.length
 up:l0<=l
 lines:l+r.length<=l0+r0.length
theorem Le.refl(r l b):Le r l b r l b:=⟨dd7,cX4 _,cZ5 _,cZ5 _⟩
theorem Le.trans{r0 l0 b0 r l b r' l' b'}(h:Le r0 l0 b0 r l b)(k:Le r l b r' l' b'):Le r0 l0 b0 r' l' b':=
 ⟨k.suf.trans h.suf,cV5 k.room h.room,da4 h.up k.up,da4 k.lines h.lines⟩
theorem LxS.Ok.le{σ:LxS}(h:σ.Ok){r l b}(k:Le σ.rest σ.line σ.buf r l b):(σ.w r l b).Ok:=by
 have:=h.room;have:=k.room;have:=h.pos;have:=k.up;have:=h.lines;have:=k.lines
 exact⟨k.suf.trans h.suf,h.few,by show b.length+r.length<=σ.text.length;lia,by show 1<=l;lia,by show l+r.length<=σ.text.length+1;lia⟩
theorem j7{r:Bs}(h:b9 r≠ -1):r.tail.length+1=r.length:=by cases r with|nil=>exact absurd rfl h|cons c t=>rfl
theorem m7(r:Bs):r.tail <:+r:=List.tail_suffix r
theorem q8(r l b):Le r l b r.tail l b:=⟨m7 r,by rw[List.length_tail];lia,cZ5 _,by rw[List.length_tail];lia⟩
theorem f8{r l b}{c:UInt8}(h:b9 r≠ -1):Le r l b r.tail l (b++[c]):=⟨m7 r,by have:=j7 h;simp;lia,cZ5 _,by rw[List.length_tail];lia⟩
theorem A5{r:Bs}(h:b8 (b9 r)=true):b9 r≠ -1:=by intro e;rw[e]at h;exact absurd h (by decide)
theorem ab9{r:Bs}(h:d8 (b9 r)=true):b9 r≠ -1:=by intro e;rw[e]at h;exact absurd h (by decide)
theorem C0{r:Bs}{k:Int}(h:(b9 r==k)=true)(hk:k≠ -1):b9 r≠ -1:=by intro e;rw[e]at h;exact hk (beq_iff_eq.mp h).symm
theorem B6(r:Bs):endLine r <:+r.tail:=by unfold endLine;split;exact m7 _;exact dd7
theorem aC9{r l b}(h:b8 (b9 r)=true):Le r l b (endLine r) (l+1) b:=by
 have h1:=j7 (A5 h)
 have h2:=(B6 r).length_le
 exact⟨(B6 r).trans (m7 r),by lia,by lia,by lia⟩
theorem T2{r l b}{c:UInt8}(h:b8 (b9 r)=true):Le r l b (endLine r) (l+1) (b++[c]):=by
 have h1:=j7 (A5 h)
 have h2:=(B6 r).length_le
 exact⟨(B6 r).trans (m7 r),by simp;lia,by lia,by lia⟩
theorem D3{r:Bs}(h:b8 (b9 r)=true):(endLine r).length < r.length:=by
 have h1:=j7 (A5 h)
 have h2:=(B6 r).length_le
 lia
theorem bK3(p)(r:Bs):tw p r++dw p r=r:=by
 induction r with
 |nil=>rfl
 |cons c t ih=>unfold tw dw;split<;>simp[ih]
theorem R9(p)(r:Bs):dw p r <:+r:=⟨tw p r,bK3 p r⟩
theorem T8(p)(r:Bs):(tw p r).length+ (dw p r).length=r.length:=by rw[←cV7,bK3]
theorem le_tw{p r l b}:Le r l b (dw p r) l (b++tw p r):=⟨R9 p r,by have:=T8 p r;simp;lia,cZ5 _,by have:=T8 p r;lia⟩
theorem bL3{p r l b}:Le r l b (dw p r) l b:=⟨R9 p r,by have:=T8 p r;lia,cZ5 _,by have:=T8 p r;lia⟩
theorem le_clear{r l b}:Le r l b r l []:=⟨dd7,by simp,cZ5 _,cZ5 _⟩
theorem l8{r l b}(h:b9 r≠ -1):Le r l b (c9 r) l (f5 r b):=by
 have h1:=j7 h
 have h2:=T8 v8 r.tail
 exact⟨(R9 _ _).trans (m7 _),by unfold c9 f5;simp;lia,cZ5 _,by unfold c9;lia⟩
theorem Q1{r:Bs}(h:b9 r≠ -1):(c9 r).length < r.length:=by
 have h1:=j7 h
 have h2:=T8 v8 r.tail
 unfold c9;lia
set_option tactic.hygienic true in
theorem D2{r:Bs}(h:0<=f7 r):b9 (c9 r)=b9 r:=by
 unfold f7 at h
 unfold c9
 split at h
 ·rename_i q;exact beq_iff_eq.mp q
 ·lia
theorem aA7(b:Bs)(k:Nat):(F2 b none (some (k:Int))).length<=b.length:=ay3 _ _ _
noncomputable def LeR{α:Type}(r:Bs)(l:Int)(b:Bs)(x:Res α):Prop:=∀a r' l' b',x= .ok a r' l' b'->Le r l b r' l' b'
section
variable {α β:Type} {r r1:Bs} {l l1:Int} {b b1:Bs} {x y:Res α}
theorem aa4{α:Type}{P:α->Prop}{c:Prop}[Decidable c]{x y:α}(h:c->P x)(k:¬ c->P y):P (if c then x else y):=by
 by_cases q:c
 ·rw[if_pos q];exact h q
 ·rw[if_neg q];exact k q
theorem LeR.ite{c:Prop}[Decidable c](h:c->LeR r l b x)(k:¬ c->LeR r l b y):LeR r l b (if c then x else y):=aa4 h k
theorem LeR.ok{a:α}{r' l' b'}(h:Le r l b r' l' b'):LeR r l b (.ok a r' l' b'):=λH H H H e=>by cases e;exact h
theorem LeR.err{l' w n}:LeR r l b (.err l' w n:Res α):=nofun
theorem LeR.from(k:Le r l b r1 l1 b1)(h:LeR r1 l1 b1 x):LeR r l b x:=λH H H H e=>k.trans (h _ _ _ _ e)
theorem LeR.then{z:Res β}{G:Res β->Res α}(h:LeR r l b z)(k:∀a r' l' b',Le r l b r' l' b'->LeR r l b (G (.ok a r' l' b')))(e:∀l' w n,LeR r l b (G (.err l' w n))):LeR r l b (G z):=by
 cases z with
 |ok a r' l' b'=>exact k _ _ _ _ (h _ _ _ _ rfl)
 |err l' w n=>exact e _ _ _
end
theorem be0{r:Bs}(h:¬ (b9 r== -1)=true):b9 r≠ -1:=λe=>h (beq_iff_eq.mpr e)
theorem aQ4{r:Bs}{lv:Int}(hv:0<=lv)(hne:b9 r≠ -1)(h:(f7 r==lv)=true):b9 (c9 r)≠ -1:=by rw[D2 (by rw[beq_iff_eq.mp h];exact hv)];exact hne
theorem aq0{lv it bg}(hv:0<=lv)(f:Nat):∀r l b,LeR r l b (longLoop lv it bg f r l b):=by
 induction f with
 |zero=>exact λr l b=> .err
 |succ f ih=>
  exact λr l b=>LeR.ite (λH=> .err) λh0=>have hn:=be0 h0
   LeR.ite (λH=>LeR.ite (λh2=>LeR.ite (λH=> .err) λH=> .from ((l8 hn).trans (f8 (aQ4 hv hn h2))) (ih _ _ _)) λH=> .from (l8 hn) (ih _ _ _)) λH=>
   LeR.ite (λH=>LeR.ite (λh2=> .ok ((l8 hn).trans (f8 (aQ4 hv hn h2)))) λH=> .from (l8 hn) (ih _ _ _)) λH=>
   LeR.ite (λh2=> .from (aa4 (P:=λx=>Le r l b (endLine r) (l+1) x) (λH=>T2 h2) λH=>(T2 (c:=10) h2).trans ⟨dd7,dc8 (aA7 (b++[10]) bg) _,cZ5 _,cZ5 _⟩) (ih _ _ _)) λH=>
   LeR.ite (λH=> .from (f8 hn) (ih _ _ _)) λH=> .from (q8 _ _ _) (ih _ _ _)
theorem G3{lv it r l b}(hv:0<=lv)(hr:b9 r≠ -1):LeR r l b (o0 lv it r l b):=
 LeR.ite (λh=> .from ((f8 hr).trans (aC9 h)) (aq0 hv _ _ _ _)) λH=> .from (f8 hr) (aq0 hv _ _ _ _)
theorem aq8{r l b}:LeR r l b (i8 r l b):=
 have h0:Le r l b r.tail.tail l b:=(q8 _ _ _).trans (q8 _ _ _)
 LeR.ite (λh=>have hn:=C0 h (by decide)
  LeR.ite (λh2=>LeR.from (h0.trans ((l8 hn).trans le_clear)) (LeR.then (G:=λz=>match z with| .ok _ r l _=> .ok () r l []| .err l w n=> .err l w n) (G3 h2 (by rw[D2 h2];exact hn)) (λH H H H k=> .ok (k.trans le_clear)) λH H H=> .err)) λH=> .ok (h0.trans ((l8 hn).trans (le_clear.trans bL3)))) λH=> .ok (h0.trans bL3)
theorem ae1{r l b}:LeR r l b (i7 r l b):=
 LeR.ite (λh=> .ok (aC9 h)) λH=>LeR.ite (λH=> .ok (q8 _ _ _)) λH=>LeR.ite (λH=>LeR.then (G:=λz=>match z with| .ok _ r l b=> .ok true r l b| .err l w n=> .err l w n) aq8 (λH H H H k=> .ok k) λH H H=> .err) λH=> .ok (Le.refl _ _ _)
theorem an8{r l b a r' l' b'}(e:i7 r l b= .ok a r' l' b'):Le r l b r' l' b':=ae1 _ _ _ _ e
noncomputable def LtR{α:Type}(n:Nat)(x:Res α):Prop:=∀a r' l' b',x= .ok a r' l' b'->r'.length < n
section
variable {α β:Type} {n:Nat} {x y:Res α}
theorem LtR.ok{a:α}{r' l' b'}(h:r'.length < n):LtR n (.ok a r' l' b'):=λH H H H e=>by cases e;exact h
theorem LtR.err{l' w m}:LtR n (.err l' w m:Res α):=nofun
theorem LtR.then{z:Res β}{G:Res β->Res α}(h:LtR n z)(k:∀a r' l' b',r'.length < n->LtR n (G (.ok a r' l' b')))(e:∀l' w m,LtR n (G (.err l' w m))):LtR n (G z):=by
 cases z with
 |ok a r' l' b'=>exact k _ _ _ _ (h _ _ _ _ rfl)
 |err l' w n=>exact e _ _ _
end
theorem bq6(r:Bs):r.tail.length<=r.length:=by rw[List.length_tail];exact Nat.sub_le _ _
theorem at5{r l b}(h:b9 r≠ -1):LtR r.length (i8 r l b):=
 have h1:r.tail.length < r.length:=dh7 (j7 h)
 have h2:r.tail.tail.length < r.length:=db2 (bq6 _) h1
 aa4 (P:=LtR r.length) (λh=>have hn:=C0 h (by decide)
  have h3:=dh6 (Q1 hn) h2
  aa4 (P:=LtR r.length) (λh2=>LtR.then (G:=λz=>match z with| .ok _ r l _=> .ok () r l []| .err l w n=> .err l w n) (λH H H H e=>db2 (G3 h2 (by rw[D2 h2];exact hn) _ _ _ _ e).suf.length_le h3) (λH H H H k=> .ok k) λH H H=> .err) λH=> .ok (db2 (R9 _ _).length_le h3)) λH=> .ok (db2 (R9 _ _).length_le h2)
theorem aI4{r:Bs}(h:u6 (b9 r)=true):b9 r≠ -1:=λq=>by rw[q]at h;exact absurd h (by decide)
noncomputable def LtT(n:Nat)(x:Res Bool):Prop:=∀r' l' b',x= .ok true r' l' b'->r'.length < n
theorem aW7{r l b r' l' b'}(e:i7 r l b= .ok true r' l' b'):r'.length < r.length:=by
 have ok:∀ {r' l' b'},r'.length < r.length->LtT r.length (.ok true r' l' b'):=λh H H H e=>by cases e;exact h
 refine(show LtT r.length (i7 r l b)from ?_) _ _ _ e
 refine aa4 (P:=LtT r.length) (λh=>ok (D3 h)) λH=>aa4 (P:=LtT r.length) (λh=>ok (dh7 (j7 (aI4 h)))) λH=>aa4 (P:=LtT r.length) (λh=> ?_) λH=>nofun
 rw[cX7]at h
 have k:=at5 (l:=l) (b:=b) (C0 h.1 (by decide))
 cases q:i8 r l b with
 |ok a r' l' b'=>exact ok (k _ _ _ _ q)
 |err l' w n=>exact nofun
theorem aN4(f:Nat):∀r l b,LeR r l b (skipLoop f r l b):=by
 induction f with
 |zero=>exact λr l b=> .err
 |succ f ih=>
  exact λr l b=>LeR.then (G:=λz=>match z with| .ok true r l b=>skipLoop f r l b| .ok false r l b=> .ok () r l b| .err l w n=> .err l w n) ae1 (λa r' l' b' k=>by cases a;exact .ok k;exact .from k (ih _ _ _)) λH H H=> .err
theorem aa1:∀(k:Nat) (v:Int) (r:Bs),(H6 k v r).2 <:+r
 |0,_,_=>dd7
 |k+1,v,r=>by
  unfold H6
  split
  ·exact(aa1 k _ _).trans (m7 r)
  ·exact dd7
theorem bd2{v:Int}{r:Bs}(h:d8 (b9 r)=true):(H6 3 v r).2.length < r.length:=by
 have e:H6 3 v r=H6 2 (10 * v+b9 r - 48) r.tail:=by show(if _ then _ else _)=_;rw[if_pos h]
 rw[e]
 have:=(aa1 2 (10 * v+b9 r - 48) r.tail).length_le
 have:=j7 (ab9 h)
 lia
theorem X8{r l b}:LeR r l b (n5 r l b):=
 LeR.ite (λH=> .ok (Le.refl _ _ _)) λh0=>LeR.ite (λh=> .ok (T2 h)) λH=>LeR.ite (λh=>LeR.ite (λH=> .err) λH=> .ok (by
  have:=bd2 (v:=0) h
  exact⟨aa1 _ _ _,by rw[cV7];show _+1+_<=_;lia,cZ5 _,by lia⟩)) λH=> .ok (f8 (be0 h0))
theorem aH3{r l b a r' l' b'}(e:n5 r l b= .ok a r' l' b'):Le r l b r' l' b':=X8 _ _ _ _ e
theorem be4{q:Int}(hq:q≠ -1)(f:Nat):∀r l b,LeR r l b (j9 q f r l b):=by
 induction f with
 |zero=>exact λr l b=> .err
 |succ f ih=>
  exact λr l b=>LeR.ite (λh=> .ok (f8 (C0 h hq))) λH=>LeR.ite (λH=> .err) λh0=>LeR.ite (λH=> .err) λH=>LeR.ite (λH=> .from (q8 _ _ _) (LeR.then (G:=λz=>match z with| .ok _ r l b=>j9 q f r l b| .err l w n=> .err l w n) X8 (λH H H H k=> .from k (ih _ _ _)) λH H H=> .err)) λH=> .from (f8 (be0 h0)) (ih _ _ _)
theorem ax9{q r l b}(hq:q≠ -1)(hr:b9 r≠ -1):LeR r l b (l6 q r l b):=
 .from (f8 hr) (LeR.then (G:=λz=>(match z with| .ok _ r l b=> .ok (286,V.bytes (F2 b (some 1) (some ((b.length:Int) - 1)))) r l b| .err l w n=> .err l w n:Res Tk)) (be4 hq _ _ _ _) (λH H H H k=> .ok k) λH H H=> .err)
theorem ap1{r l b}(hr:b9 r≠ -1):LeR r l b (j6 r l b):=
 LeR.ite (λh=> .from (l8 hr) (LeR.then (G:=λz=>(match z with| .ok t r l b=> .ok (286,V.bytes t) r l b| .err l w n=> .err l w n:Res Tk)) (G3 h (by rw[D2 h];exact hr)) (λH H H H k=> .ok k) λH H H=> .err)) λH=>LeR.ite (λH=> .err) λH=> .ok (l8 hr)
set_option tactic.hygienic true in
theorem exp_le{r l b}:Le r l b (m9 r b).1 l (m9 r b).2:=by
 unfold m9
 split
 ·rename_i h
  have h1:b9 r≠ -1:=by intro e;rw[e]at h;exact absurd h (by decide)
  split
  ·rename_i h'
   have h2:b9 r.tail≠ -1:=by intro e;rw[e]at h';exact absurd h' (by decide)
   exact(f8 h1).trans (f8 h2)
  ·exact f8 h1
 ·exact Le.refl _ _ _
theorem U9{r l b}:LeR r l b (l9 r l b):=by
 show LeR r l b (match m5 _ with|none=>_|some v=>_)
 cases m5 ((m9 (dw g9 r) (b++tw g9 r)).2++tw c8 (m9 (dw g9 r) (b++tw g9 r)).1)with
 |none=>exact .err
 |some v=>exact .ok (le_tw.trans (exp_le.trans le_tw))
theorem ba3{r l b}(hr:b9 r≠ -1):LeR r l b (o4 r l b):=
 LeR.ite (λh=>have h2:=C0 h (by decide)
  LeR.ite (λh'=> .ok ((f8 hr).trans ((f8 h2).trans (f8 (C0 h' (by decide)))))) λH=> .ok ((f8 hr).trans (f8 h2))) λH=>LeR.ite (λH=> .from (f8 hr) U9) λH=> .ok (f8 hr)
theorem aQ9{r l b}:LeR r l b (s9 r l b):=by
 show LeR r l b (match kindTab.lookup _ with|none=>_|some v=>_)
 cases kindTab.lookup (b++tw c8 r)with
 |none=>exact .ok le_tw
 |some v=>exact .ok le_tw
theorem aj2{s r l b}:LeR r l b (q7 s r l b):=LeR.ite (λH=> .ok (q8 _ _ _)) λH=> .ok ((q8 _ _ _).trans (q8 _ _ _))
theorem aJ7{s:Int}(h:B1 s=true):s≠ -1:=λe=>by rw[e]at h;exact absurd h (by decide)
theorem bh7{r l b}:LeR r l b (if b9 r== -1 then .ok (287, .none) r l b
 else if B1 (b9 r)then l6 (b9 r) r l b
 else if b9 r==91 then j6 r l b
 else if b9 r==46 then o4 r l b
 else if d8 (b9 r)then l9 r l b
 else if t6 (b9 r)then s9 r l b
 else if b9 r==45 then .ok (45, .none) r.tail l b
 else if ar0 (b9 r)then q7 (b9 r) r l b
 else .ok (b9 r, .none) r.tail l b:Res Tk):=
 LeR.ite (λH=> .ok (Le.refl _ _ _)) λh0=>have hn:=be0 h0
 LeR.ite (λh=>ax9 (aJ7 h) hn) λH=>LeR.ite (λH=>ap1 hn) λH=>LeR.ite (λH=>ba3 hn) λH=>LeR.ite (λH=>U9) λH=>LeR.ite (λH=>aQ9) λH=>LeR.ite (λH=> .ok (q8 _ _ _)) λH=>LeR.ite (λH=>aj2) λH=> .ok (q8 _ _ _)
theorem bg5{r l b}:LeR r l b (f6 r l):=by
 have k:=aN4 (r.length+1) r l []
 unfold f6
 cases q:skipLoop (r.length+1) r l []with
 |err l' w n=>exact .err
 |ok a r' l' b'=>exact .from (le_clear.trans (k _ _ _ _ q)) bh7
theorem al4{r l b a r' l' b'}(e:f6 r l= .ok a r' l' b'):Le r l b r' l' b':=bg5 _ _ _ _ e
section
variable {X:Cx} {F:Frm} {n:Nat} {st:St} {R:List UInt8->Prop}
theorem bO9{y p e z pz pos}{T:String}{Q:V->St->Prop}(O:FOk F)(hk:F.scope.names.lookup y=some .globalImplicit)(hg:nsIn X.K cW5 y=some none/\nsIn X.K cZ8 y=some (some (.builtin "isinstance")))
 (hk':F.scope.names.lookup z=some .globalImplicit) (hg':nsIn X.K cW5 z=some none/\nsIn X.K cZ8 z=some (some (.type T)))
 (h:Ev X F n e st (λv st1=>∃i b,v= .int i/\(∀A s Q E,(∀t,Q (.bool b) {s with toks:=t})->∀u,wpAny X.M A (call (.builtin "isinstance") [.int i u, .type T]) Q E s)/\Q (.bool b) st1) R) (hd:(y== ("__debug__":Str))=false) (hd':(z== ("__debug__":Str))=false)
 (he:cW7 [e, .Name z pz] F.env=(false,eval e F.env)::cW7 [.Name z pz] F.env):Ev X F n (.Call (.Name y p) [e, .Name z pz] [] pos) st Q R:=
 λA s φ ω Qr Er hA hI hQ hE=>m8 (bi O hI hk hg.1 hg.2 (n4 (first:=[]) (d9 (h A s φ ω _ Er hA hI (λv st1 r s₁ φ1 ω₁ ⟨i,b,e1,hp,hq⟩ hI1 hl1 hv=>
  d9 (i9 <| bi O hI1 hk' hg'.1 hg'.2 (i9 <| cZ1 (by
   subst e1
   refine hv.intE λu=> ?_
   exact i9 (hp _ _ _ _ (λt=>hQ _ _ _ _ _ _ hq (hI1.toks t) hl1 .bool) _))) hd')) hE) he) he) hd)
theorem aF2{i:Int}:∀A s Q E,(∀t,Q (.bool false) {s with toks:=t})->∀u,wpAny X.M A (call (.builtin "isinstance") [.int i u, .type "bytes"]) Q E s:=λA s Q E h u=>IsiPair.int_bytes (h _)
theorem bj8{i:Int}:∀A s Q E,(∀t,Q (.bool true) {s with toks:=t})->∀u,wpAny X.M A (call (.builtin "isinstance") [.int i u, .type "int"]) Q E s:=λA s Q E h u=>IsiPair.int_int (h s.toks)
theorem aT0{i:Int}:∀A s Q E,(∀t,Q (.bool false) {s with toks:=t})->∀u,wpAny X.M A (call (.builtin "isinstance") [.int i u, .type "bool"]) Q E s:=λA s Q E h u=>IsiPair.int_bool (h _)
theorem bg7(i j:Nat){x y:Str}{elts k tpos e ep kv pe pos}{Q:Fl->St->Prop}(O:FOk F)(hx:F.nm[i]? =some x)(hy:F.nm[j]? =some y)
 (hw:cX1 [.Tuple elts k tpos] (.Tuple [e, .List [] ep] kv pe) F.env=pure (some [x,y]))
 (h:Ev X F n e st (λv st1=>∀a,Q .next {st1 with loc:=(st1.loc.set j (.own a [])).set i (.val v)}) R) (he:cW7 [e, .List [] ep] F.env=(false,eval e F.env)::cW7 [.List [] ep] F.env)
 (hs:df9 [.Tuple elts k tpos] (.Tuple [e, .List [] ep] kv pe) pos.line F.env=pure false):Ex X F n (.Assign [.Tuple elts k tpos] (.Tuple [e, .List [] ep] kv pe) pos) st Q R:=
 λA s φ ω Qr Er hA hI hQ hE=>u0 (F3 (d9 (h A s φ ω _ Er hA hI (λv st1 r s₁ φ1 ω₁ hq hI1 hl1 hv=>
  d9 (D8 (i9 <| cZ1 ⟨sz (by decide),i9 <| cZ1 ⟨sz (show 2<=16777216 by decide),by
   have S:=hI1.S.pushω (j0 [] 0) rfl s₁.toks
   have I:=hI1.junk (s':= {s₁ with heap:=s₁.heap.push (j0 [] 0)}) (λa o e=>cV6 _ e) rfl rfl
   have P:=I.push (z9 [r, .ref s₁.heap.objs.size]) s₁.toks
   have S':=(S.pushφ (z9 [r, .ref s₁.heap.objs.size]) rfl s₁.toks).1
   have hl:([x,y]:List Str).length=[r,df2 s₁.heap.objs.size].toArray.size:=rfl
   rw[hl]
   refine wpAny_unpackItems_tuple hA.handled (G2 P.1.S P.2.2) λh' he=> ?_
   have I':=P.1.extBut he (t:=s₁.toks)
   have S'':=S'.keeps (s':= {s₁ with heap:=h',toks:=s₁.toks}) (λa o e=>he a o (da3 (cY9 e)) e) rfl rfl
   refine cV4 (da9 (bn _ _ _ _ _ (I'.store S'' (λa o e=> ?_) O j hy (.own s₁.heap.objs.size []) ⟨rfl,hI1.S.fresh.2.2,[],0, ?_, .nil⟩ λh2 ω2 I2=> ?_)))
   ·unfold PM.set
    rw[if_neg]
    ·exact e
    ·intro e';rw[e',hI1.S.fresh.2.2]at e;exact nomatch e
   ·unfold PM.set;rw[if_pos rfl]
   ·refine cV4 (da9 (bn _ _ _ _ _ (I2.store I2.S (PM.le.refl _) O i hx (.val v) (hv.mono P.2.1) λh3 ω3 I3=>cW4 ?_)))
    exact hQ _ _ _ _ _ _ (hq _) I3 (hl1.trans P.2.1) rfl⟩⟩))) hE) he)) hs hw
theorem ad9{M:Model}{A:Around}{s:Shared}{E:Value->Shared->Prop}{l:Addr}{o:Obj}{pl:Sem Bool}{Q:Value×List Value->Shared->Prop}(ho:s.heap.get? l=some o)(hc:o.cls= .type "list")(hd:o.dict=none)
 (h:Q (.builtin "list.reverse",[.ref l]) s):wpAny M A (dg5 (.ref l) "reverse" pl) Q E s:=by
 have hT:s.TypeIs (.ref l) "list":=⟨o,ho,hc⟩
 refine cV4 (da5 hT list_getattribute ?_)
 show wpAny M A (if(Manifest.canonical "list.__getattribute__" != "object.__getattribute__")=true then _ else _) Q E s
 rw[canon_list_getattribute,if_neg de8]
 refine cV4 (da5 hT list_getattr_none ?_)
 refine cV4 (da5 hT F.slot_list_reverse.lookup ?_)
 refine cV4 (dc5 F.type_list_reverse ?_)
 refine cV4 (wpAny_load ho ?_)
 rw[hd]
 exact cV4 (wpAny_rule (cW4 h))
theorem cc7(j:Nat){x:Str}{p ap pos}{a:Addr}{l:List V}{Q:V->St->Prop}(O:FOk F)(hx:F.nm[j]? =some x)(hj:st.loc[j]? =some (.own a l))(hz:l.length<=sizeLine)
 (h:Q .none {st with loc:=st.loc.set j (.own a l.reverse)}) (hd:(x== ("__debug__":Str))=false)
 {pl:Sem Bool} (he:eval (.Call (.Attribute (.Name x p) (cV1 "reverse") ap) [] [] pos) F.env=(do
  let ov ←eval (.Name x p) F.env
  dd4 ap.atName
  let(f,first) ←dc2 [ov] (dg5 ov (cV1 "reverse") pl)
  callWith pos f first (backTo pos (cW7 [] F.env)) (backToKw pos (dd1 [] F.env)))):Ev X F n (.Call (.Attribute (.Name x p) (cV1 "reverse") ap) [] [] pos) st Q R:=
 λA s φ ω Qr Er hA hI hQ hE=>by
  obtain⟨m,oL,d,h1,h1a,h1b,h2,h3,h3b,h4,h5,h6⟩:=id hI.ex
  obtain⟨vs,k,g1,g2⟩:=h3b j a l hj
  have hlen:=g2.len
  refine v2 (i9 <| db9 (cW9 O.kind (O.loc x (cW1 hx)) h2 (h3 j x _ hx hj) (i9 <| ad9 (hI.S.kω _ _ g1) rfl rfl ?_)) hd) he
  refine v6 (P:=λH=>True) rfl (λH H=>⟨.machine, .inr (.inl rfl),Looks.of_pure rfl⟩) (i9 (evalArgs_nil3 ⟨trivial, ?_⟩))
  refine i9 <| call_meets PySem.F.slot_list_reverse ⟨_,hI.S.kω _ _ g1,rfl⟩ PySem.F.entry_list_reverse (PySem.F.args_list_reverse_1 _) (AutoSeq1.list_reverse_list_0 a vs.toArray k (by simpa[hlen]using hz)) ⟨hI.S.kω _ _ g1, ?_⟩
  have eo:Obj.mapSeq (λx=>x.reverse) (j0 vs k)=j0 vs.reverse k:=by unfold Obj.mapSeq j0;simp
  exact hQ _ _ _ _ _ _ h (hI.ownSet (t:=s.toks) hj (df7 ..) (by rw[da8 _ (hI.S.kω _ _ g1) (by rw[eo];rfl),eo]) g2.reverse) (PM.le.refl _) .none
theorem ca0{v:V}{b:Bool}(h:PuT X n v b):Pu1 X n (unaryOp .Not) v (.bool (!b)):=λF A s φ ω st Qr Er rs hA hI hv hQ=>by
 refine hv.oneE λr h1=> ?_
 exact not_value (h F A s φ ω st _ Er _ hA hI (.cons h1 .nil) λc s' φ' hI' hl hc=>hQ _ _ φ' hI' hl (hc▸ .bool))
noncomputable def eqR(o:Option (Option Value))(f:Nat):Bool:=match o with|some (some (.ref a))=>Nat.beq a f|_=>false
theorem E9{o:Option (Option Value)}{f:Nat}(h:eqR o f=true):o=some (some (.ref f)):=by
 unfold eqR at h
 split at h
 ·rw[Nat.eq_of_beq_eq_true h]
 ·exact cV2 h
noncomputable def W9:List Value->List Bs->Bool
 | [],[]=>true
 | .bytes a _::vs,l::ls=>decide (a.toList=l) &&W9 vs ls
 |_,_=>false
set_option tactic.hygienic true in
theorem ao3{φ:PM}:∀(vs:List Value) (ls:List Bs),W9 vs ls=true->RVs X φ (ls.map V.bytes) vs:=by
 intro vs
 induction vs with
 |nil=>intro ls h;cases ls with|nil=>exact .nil|cons=>exact cV2 h
 |cons v vs ih=>
  intro ls h
  cases ls with
  |nil=>cases v<;>exact cV2 h
  |cons l ls=>
   cases v<;>first|exact cV2 h;done|skip
   rename_i a t
   replace h:=cZ7.mp h
   obtain rfl:a.toList=l:=of_decide_eq_true h.1
   refine .cons ?_ (ih ls h.2)
   have:=RV.bytes (X:=X) (φ:=φ) (l:=a.toList) (t:=t)
   rwa[Array.toArray_toList]at this
noncomputable def aL6(o:Option Obj)(l:List Bs):Bool:=match o with
 |some o=>(match o.cls with| .type T=>T=="list"|_=>false) &&o.dict.isNone&& (match o.data with| .seq a _=>W9 a.toList l|_=>false) &&o.slots.size==0
 |none=>false
set_option tactic.hygienic true in
theorem bn1{o:Option Obj}{l:List Bs}(h:aL6 o l=true):∃vs k,o=some (j0 vs k)/\∀φ,RVs X φ (l.map V.bytes) vs:=by
 unfold aL6 at h
 split at h
 ·rename_i o
  obtain⟨c,d,dt,sl⟩:=o
  rw[cX7,cX7,cX7]at h
  obtain⟨⟨⟨h1,h2⟩,h3⟩,h4⟩:=h
  dsimp only at h1 h2 h3 h4
  split at h1
  ·rename_i T
   split at h3
   ·rename_i a k
    obtain rfl:=beq_iff_eq.mp h1
    obtain rfl:=Option.isNone_iff_eq_none.mp h2
    obtain rfl:sl= #[]:=Array.eq_empty_of_size_eq_zero (beq_iff_eq.mp h4)
    exact⟨a.toList,k,by unfold j0;rw[Array.toArray_toList],λφ=>ao3 _ _ h3⟩
   ·exact cV2 h3
  ·exact cV2 h1
 ·exact cV2 h
noncomputable def others:List Bs:=[[46,46],[46,46,46],[61,61],[62,61],[60,61],[126,61],[60,110,117,109,98,101,114,62],[60,110,97,109,101,62],[60,115,116,114,105,110,103,62],[60,101,111,102,62]]
noncomputable def gvT:List (String×V):=[("BLANKS", .bytes [32,9,10,11,12,13]),("RESERVED", .lst (words.map .bytes)),("OTHER_TEXTS", .lst (others.map .bytes))]
noncomputable def bA7(o:Option (Option Value))(l:Bs):Bool:=match o with|some (some (.bytes a _))=>decide (a.toList=l)|_=>false
theorem cL4(P:Params):(bA7 (nsIn (KP P) cW5 (cV1 "BLANKS")) [32,9,10,11,12,13] &&eqR (nsIn (KP P) cW5 (cV1 "RESERVED")) 181&&aL6 ((KP P).lookup 181) words&&eqR (nsIn (KP P) cW5 (cV1 "OTHER_TEXTS")) 182&&aL6 ((KP P).lookup 182) others)=true:=by kernel_rfl
set_option tactic.hygienic true in
theorem bD5{k:Nat}{x:String}{v:V}(h:gvT[k]? =some (x,v)):∃r,nsIn X.K cW5 (cV1 x)=some (some r)/\RV X (X.H₀.get?) v r:=by
 have g:=cL4 X.w.params
 rw[cX7,cX7,cX7,cX7]at g
 obtain⟨⟨⟨⟨g1,g2⟩,g3⟩,g4⟩,g5⟩:=g
 have key:∀ {a:Nat} {l:List Bs} {o:Option (Option Value)},eqR o a=true->aL6 (X.K.lookup a) l=true->∃r,o=some (some r)/\RV X (X.H₀.get?) (.lst (l.map V.bytes)) r:=λ {a l o} e1 e2=>by
  obtain⟨vs,k,e3,e4⟩:=bn1 (X:=X) e2
  exact⟨.ref a,E9 e1, .lst (X.kin _ _ e3) (e4 _)⟩
 match k,h with
 |0,h=>
  cases h
  unfold bA7 at g1
  split at g1
  ·rename_i a t e
   obtain e':a.toList=_:=of_decide_eq_true g1
   refine⟨_,e, ?_⟩
   have:=RV.bytes (X:=X) (φ:=X.H₀.get?) (l:=a.toList) (t:=t)
   rwa[Array.toArray_toList,e']at this
  ·exact cV2 g1
 |1,h=>cases h;exact key g2 g3
 |2,h=>cases h;exact key g4 g5
end
section
variable {X:Cx} {F:Frm} {n:Nat} {st:St} {R:List UInt8->Prop}
theorem aE0:Slot "bytes" "find" "bytes.find":=
 .of (owner:="bytes") (n:="find") (by rw[da6,cY3];kernel_rfl) (by decide+kernel) (by decide+kernel) (by decide+kernel)
  (by first|exact .inl (by decide+kernel)|exact .inr (by decide+kernel)) (by rw[df1];kernel_rfl)
theorem bc7:typeOf (.builtin "bytes.find")=pure (.type "method_descriptor"):=by show builtinType _=_;rw[builtinType_eq_fast];kernel_rfl
theorem bh9:entryFor table "bytes.find"=some Builtin.«bytes.find» :=dg1 (by kernel_rfl)
theorem be3(a b:Value):argsOk "bytes.find" ⟨[a,b],[]⟩:=by unfold argsOk;kernel_rfl
noncomputable def H4(b c:List UInt8):Int:=match Builtin.Bytes.find? b.toArray c.toArray 0 b.length with|some i=>(i:Int)|none=> -1
theorem au0{b c:List UInt8}{t u:Tok}(hc:c.length<=b.length):Gives (Builtin.«bytes.find» ⟨[.bytes b.toArray t, .bytes c.toArray u],[]⟩) (.int (H4 b c)):=by
 refine .of_wp λM A E s Q hq=> ?_
 show wpAny M A (Builtin.Bytes.searchArgs .bytes "find" ⟨[.bytes b.toArray t, .bytes c.toArray u],[]⟩ >>= _) _ E s
 refine cV4 ?_
 show wpAny M A (de3 "bytes.find" (.bytes c.toArray u) >>= _) _ E s
 refine cV4 (dc5 KBy.buffer_eq ?_)
 show wpAny M A (pure (b.toArray,c.toArray,if(dd0 b.toArray.size none none).2 - (dd0 b.toArray.size none none).1 < (c.toArray.size:Int)then none else some ((dd0 b.toArray.size none none).1.toNat,(dd0 b.toArray.size none none).2.toNat))) _ E s
 have e:dd0 b.toArray.size none none=(0,(b.length:Int)):=by
  unfold dd0;simp;lia
 rw[e,if_neg (by simp;lia)]
 refine cW4 ?_
 show wpAny M A (match Builtin.Bytes.find? b.toArray c.toArray 0 b.length with|some i=>_|none=>_) _ E s
 unfold H4 at hq
 cases h:Builtin.Bytes.find? b.toArray c.toArray 0 b.length with
 |some i=>rw[h]at hq;exact cV4 (wpAny_mkInt (cW4 ⟨_,rfl,hq⟩))
 |none=>rw[h]at hq;exact cV4 (wpAny_rule (cV4 (wpAny_mkInt (cW4 ⟨_,rfl,hq⟩))))
noncomputable def VM(X:Cx)(v:V)(name:Str)(id:String):Prop:=∀ {A:Around} {s:Shared} {φ ψ ω:PM} {r:Value} {pl:Sem Bool} {Q:Value×List Value->Shared->Prop} {E:Value->Shared->Prop},Sep X φ ψ ω s->RV X φ v r->Q (.builtin id,[r]) s->wpAny X.M A (dg5 r name pl) Q E s
theorem bj2{b:List UInt8}:VM X (.bytes b) (cV1 "find") "bytes.find":=λS hv h=>by
 revert h
 refine hv.bytesE λu h=> ?_
 exact getMethod_builtin (typeIs_bytes _ _ _) FB.plainAttrs_bytes aE0 bc7 (λH e=>by cases e) h
theorem bi6{b c:List UInt8}(hc:c.length<=b.length):Pu X n [.bytes b, .bytes c] (λrs=>call (.builtin "bytes.find") rs) (λφ=>RV X φ (.int (H4 b c))):=λF A s φ ω st Qr Er rs hA hI hv hQ=>by
 refine hv.twoE λr q h1 h2=>h1.bytesE λu=>h2.bytesE λu'=> ?_
 exact call_gives aE0 (typeIs_bytes _ _ _) bh9 (be3 _ _) (au0 hc) (hQ _ _ φ (hI.toks _) (PM.le.refl _) .int)
theorem cj9{o a:Expr}{ap pos:Pos}{name:Str}{Q:V->St->Prop}
 (h:Ev X F n o st (λv st1=>∃id,VM X v name id/\Ev X F n a st1 (λw st2=>∃r,Pu X n [v,w] (λrs=>call (.builtin id) rs) (λφ=>RV X φ r)/\Q r st2) R) R)
 (hea:cW7 [a] F.env=(false,eval a F.env)::cW7 [] F.env) {pl:Sem Bool} (he:eval (.Call (.Attribute o name ap) [a] [] pos) F.env=(do
  let ov ←eval o F.env
  dd4 ap.atName
  let(f,first) ←dc2 [ov] (dg5 ov name pl)
  callWith pos f first (backTo pos (cW7 [a] F.env)) (backToKw pos (dd1 [] F.env)))):Ev X F n (.Call (.Attribute o name ap) [a] [] pos) st Q R:=
 λA s φ ω Qr Er hA hI hQ hE=>v2 (h A s φ ω _ Er hA hI (λv st1 r₁ s₁ φ1 ω₁ ⟨id,hm,h⟩ hI1 hl1 hv=>i9 <| hm hI1.S hv <|
  n4 (first:=[r₁]) (d9 (h A s₁ φ1 ω₁ _ Er hA hI1 (λw st2 r₂ s₂ φ2 ω₂ ⟨r,hp,hq⟩ hI2 hl₂ hw=>i9 <| cZ1 <|
   i9 <| hp F A s₂ φ2 ω₂ st2 Qr Er _ hA hI2 (.two (hv.mono hl₂) hw) λr₃ s₃ φ3 hI3 hl3 hr=>hQ _ _ _ _ _ _ hq hI3 (hl1.trans (hl₂.trans hl3)) hr) hE) hea) hea) hE) he
theorem aF7{a b:Bool}:Pu2 X n (cZ0 .NotEq) (.bool a) (.bool b) (.bool (!(a==b))):=Pu.mk2 λF A s φ ω st Qr Er r r' hA hI hr hr' hQ=>by
 refine hr.boolE (hr'.boolE ?_);exact SeqAt.RcNeAt.bool_bool _ _ _ _ _ _ (hQ _ _ φ hI (PM.le.refl _) .bool)
noncomputable def C5(o:Option Int):V:=match o with|none=> .none|some i=> .int i
theorem bj4{l:List (List UInt8×Int)}{k:List UInt8}:Pu X n [.dic l, .bytes k] (λrs=>call (.builtin "dict.get") rs) (λφ=>RV X φ (C5 (l.lookup k))):=λF A s φ ω st Qr Er rs hA hI hv hQ=>by
 refine hv.twoE λr q h1 h2=>h1.dicE λa o ha hd hs=>h2.bytesE λu=> ?_
 obtain⟨es,ep,d1,d2,d3,d4⟩:=hd
 refine call_meetsIn dg9 ⟨_,hI.S.kφ _ _ ha,d1.1⟩ PySem.F.entry_dict_get (PySem.F.args_dict_get_2 _ _) (meets_dict_get (bytesKind pw X.w) _ (k:=k) (beq_self_eq_true k) hs) ⟨findBy (bytesKind pw X.w).is _,⟨_,_,_,hI.S.kφ _ _ ha,d1,d2,d3,λH=>rfl⟩,hQ _ _ φ (hI.toks _) (PM.le.refl _) ?_⟩
 have:=d4 k
 cases e:l.lookup k with
 |none=>rw[e]at this;rw[show findBy _ _ _=none from this];exact .none
 |some i=>rw[e]at this;obtain⟨t,this⟩:=this;rw[this];exact .int
theorem bk2{l:List (List UInt8×Int)}:VM X (.dic l) (cV1 "get") "dict.get":=λS hv h=>by
 revert h
 refine hv.dicE λa o ha hd H h=> ?_
 obtain⟨es,ep,d1,d2⟩:=hd
 exact getMethod_builtin ⟨_,S.kφ _ _ ha,d1.1⟩ PySem.F.plainAttrs_dict dg9 PySem.F.type_dict_get (λa e=>by cases e;exact⟨_,S.kφ _ _ ha,d1.2.1⟩) h
end
section
variable {X:Cx} {F:Frm} {n:Nat} {R:List UInt8->Prop}
structure It where
 I:Addr
 fp:List Addr
 wr:List Addr
 Sh:Nat->Heap->Prop
structure cO5(X:Cx)(T:It)(φ ψ ω:PM)(h:Heap):Prop where
 st:T.Sh 0 h
 fr:∀i h h',T.Sh i h->(∀b∈T.fp,∀o,h.get? b=some o->h'.get? b=some o)->T.Sh i h'
 fp:∀b∈T.fp,b∈T.wr∨∃o,φ b=some o
 wr:∀a∈T.wr,φ a=none/\ω a=none/\ψ a=none
 live:∀i h,T.Sh i h->∀a∈T.wr,h.get? a≠none
noncomputable def aR6(X:Cx)(T:It)(target:Expr)(A:Around)(env:Env)(j:Nat)(s:Shared)(P:Shared->Prop)(Er:Value->Shared->Prop):Prop:=
 wpAny X.M A (pyNext (.ref T.I)) (λr s₁=>match r with|none=>False|some v=>wpAny X.M A (letOwnedTupleGo target (.ref T.I) v) (λH s₂=>wpAny X.M A (assign target env v) (λH s₃=>P s₃) Er s₂) Er s₁) Er s
noncomputable abbrev aM3(N:Shared->Prop)(Q:Flow->Shared->Prop):Flow->Shared->Prop
 | .next,s=>N s
 | .cont,s=>N s
 | .brk,s=>Q .next s
 | .ret v,s=>Q (.ret v) s
theorem key{target:Expr}{env:Env}{T:It}{A:Around}{j:Nat}{s:Shared}{t:Sem Flow}(Rn:Shared->Prop)(B:Flow->Shared->Prop)(Eb:Value->Shared->Prop)(h:aR6 X T target A env j s (λs₃=>d6 X.M A t B Eb s₃) Eb):
 d6 X.M A (pyNext (.ref T.I)) (λr s₁=>match r with|none=>Rn s₁|some v=>d6 X.M A (letOwnedTupleGo target (.ref T.I) v) (λH s1'=>d6 X.M A (assign target env v) (λH s₂=>d6 X.M A t B Eb s₂) Eb s1') Eb s₁) Eb s:=
 j4 (i9 h) (λr s₁ h=>by
  cases r with
  |none=>exact h.elim
  |some v=>exact i9 (df8 h (λH s₂ h₂=>i9 (df8 h₂ (λH s₃ h₃=>h₃) λH H x=>x)) λH H x=>x)) λH H h=>h
set_option tactic.hygienic true in
theorem br6{target:Expr}{body:List Stmt}{T:It}{N:Nat}{put:Nat->St->St}{A:Around}{s:Shared}{φ1 ω₁ ψ₁:PM}{st1:St}{Q:Flow->Shared->Prop}{Er:Value->Shared->Prop}(J:Nat->PM->St->Prop)
 (hA:Rm (F.env::F.outer) A n) (O:FOk F) (hE:∀k ψ st,J k ψ st->KE X (F.with ψ) R Er) (hI:Inv X (F.with ψ₁) φ1 ω₁ st1 s) (hJ:J 0 ψ₁ st1) (ok:cO5 X T φ1 ψ₁ ω₁ s.heap)
 (hfree:∀k ψ st,J k ψ st->Outer X ψ F.outer/\∀a∈T.wr,ψ a=none)
 (turn:∀j ψ s st φ ω P Er,j < N->T.Sh j s.heap->Inv X (F.with ψ) φ ω st s->φ1.le φ->(∀a∈T.wr,φ a=none/\ω a=none/\ψ a=none)->
  (∀s' ω',Inv X (F.with ψ) φ ω' (put j st) s'->T.Sh (j+1) s'.heap->(∀a∈T.wr,ω' a=none)->P s')->aR6 X T target A F.env j s P Er)
 (done:∀s (P:Option Value->Shared->Prop) Er,T.Sh N s.heap->(∀h' tk,(∀b o,b∉T.wr->s.heap.get? b=some o->h'.get? b=some o)->P none {s with heap:=h',toks:=tk})->wpAny X.M A (pyNext (.ref T.I)) P Er s)
 (hbody:∀j ψ κ s st φ ω Er',j < N->J j ψ st->Inv X (F.with (ψ.or κ)) φ ω (put j st) s->φ1.le φ->KE X (F.with (ψ.or κ)) R Er'->
  d6 X.M A (execs body F.env) (aM3 (λs'=>∃ψ' st' φ' ω',J (j+1) ψ' st'/\Inv X (F.with (ψ'.or κ)) φ' ω' st' s'/\φ.le φ') Q) Er' s)
 (fin:∀ψ st φ ω s,J N ψ st->Inv X (F.with ψ) φ ω st s->φ1.le φ->Q .next s):
 o7 X.M A (.forLoop target (.ref T.I) body [] F.env) (λr s'=>match r with| .ok f=>Q f s'| .error e=>cameBackBy X.M A F.env Er e s') s:=by
 refine M0 (λk s'=>∃j ψ st φ' ω',k=N - j/\j<=N/\J j ψ st/\Inv X (F.with ψ) φ' ω' st s'/\φ1.le φ'/\T.Sh j s'.heap/\∀a∈T.wr,φ' a=none/\ω' a=none) ?_ N
  ⟨0,ψ₁,st1,φ1,ω₁,rfl,cY8 _,hJ,hI,PM.le.refl _,ok.st,λa ha=>⟨(ok.wr a ha).1,(ok.wr a ha).2.1⟩⟩
 rintro k s' ⟨j,ψ,st',φ',ω',rfl,hj,hJ',hI',hl',hSt',hwr'⟩
 have hE0:KE X (F.with ψ) R Er:=hE _ _ _ hJ'
 have hE':=KE.noted (F:=F.with ψ) (φ:=φ') (ω:=ω') (s:=s') (O.with ψ) hA hI'.out hE0
 by_cases hlt:j < N
 ·refine key _ _ _ (turn j ψ s' st' φ' ω' _ _ hlt hSt' hI' hl' (λa ha=>⟨(hwr' a ha).1,(hwr' a ha).2,(hfree _ _ _ hJ').2 a ha⟩) ?_)
  ·intro s₂ ω₂ I₂ hSt2 hw2
   have hw:∀a∈T.wr,φ' a=none/\ω₂ a=none:=λa ha=>⟨(hwr' a ha).1,hw2 a ha⟩
   have I2h:=I₂.hold T.wr hw
   refine j4 (hbody j ψ (C3 s₂ T.wr) s₂ st' φ' ω₂ _ hlt hJ' I2h hl' (λx s'' msg hR hx=>hE' x s'' msg hR (hx.weak (PM.le_or _ _)))) (λf s₃ h=> ?_) λH H h=>h
   have back:(∃ψ' st' φ'' ω',J (j+1) ψ' st'/\Inv X (F.with (ψ'.or (C3 s₂ T.wr))) φ'' ω' st' s₃/\φ'.le φ'')->∃m,m < N - j/\∃j ψ st φ' ω',m=N - j/\j<=N/\J j ψ st/\Inv X (F.with ψ) φ' ω' st s₃/\φ1.le φ'/\T.Sh j s₃.heap/\∀a∈T.wr,φ' a=none/\ω' a=none:=by
    rintro⟨ψ',st'',φ'',ω'',hJ3,I3h,hl3⟩
    obtain⟨hou,hfr⟩:=hfree _ _ _ hJ3
    refine⟨N - (j+1),by lia,j+1,ψ',st'',φ'',ω'',rfl,hlt,hJ3,I3h.unhold hou,hl'.trans hl3, ?_,I3h.S.heldNone λa ha=>ok.live _ _ hSt2 a ha⟩
    ·refine ok.fr _ _ _ hSt2 λb hb o e=> ?_
     rcases ok.fp b hb with hm|⟨o',ho'⟩
     ·refine I3h.S.kψ b o ?_
      show(PM.or _ _) b=_
      unfold PM.or C3
      rw[hfr b hm,if_pos hm]
      exact e
     ·have e':=I₂.S.kφ b o' (hl' _ _ ho')
      rw[e']at e;cases e
      exact I3h.S.kφ b _ (hl3 _ _ (hl' _ _ ho'))
   cases f with
   |next=>exact back h
   |cont=>exact back h
   |brk=>exact h
   |ret v=>exact h
 ·have:j=N:=by lia
  subst this
  refine i9 <| done s' _ _ hSt' λh₁ tk hk=> ?_
  exact fin ψ st' φ' ω' _ hJ' (hI'.wr (λa ha=>⟨(hwr' a ha).1,(hwr' a ha).2,(hfree _ _ _ hJ').2 a ha⟩) hk) hl'
theorem aX6{x:Str}{T:String}{A:Around}{s:Shared}{φ ω:PM}{st:St}{q q':Pos}{e:Expr}{Q:Value->Shared->Prop}{E:Value->Shared->Prop}(O:FOk F)(I:Inv X F φ ω st s)(hk:F.scope.names.lookup x=some .globalImplicit)(hg:nsIn X.K cW5 x=some none/\nsIn X.K cZ8 x=some (some (.type T)))(hd:(x== ("__debug__":Str))=false)
 (he:cW7 [e] F.env=(false,eval e F.env)::cW7 [] F.env) (h:d6 X.M A (eval e F.env) (λr s₁=>d6 X.M A (call (.type T) [r]) Q E s₁) E s):d6 X.M A (eval (.Call (.Name x q') [e] [] q) F.env) Q E s:=
 m8 (bi O I hk hg.1 hg.2 (C7 (d9 (j4 h (λr s₁ h=>i9 <| cZ1 h) λH H h=>h) he) he) hd)
set_option tactic.hygienic true in
theorem aQ6{κ:PM}{φ:PM}{Qr:Flow->Shared->Prop}{Q:Fl->St->Prop}{J:Nat->St->Prop}{k:Nat}{f:Fl}{st2:St}{r:Flow}{s₃:Shared}{φ3 ω₃ φ0:PM}(hQ:KQ X F φ0 (λφ=>FlR X F φ) Q Qr)(hl:φ0.le φ)(hq:F6 J k Q f st2)(I:Inv X (F.with (F.ψ.or κ)) φ3 ω₃ st2 s₃)(out:Outer X F.ψ F.outer)(hl3:φ.le φ3)(hv:FlR X F φ3 f r):
 aM3 (λs'=>∃ψ' st' φ' ω',(ψ'=F.ψ/\J (k+1) st')/\Inv X (F.with (ψ'.or κ)) φ' ω' st' s'/\φ.le φ') Qr r s₃:=by
 have I':Inv X F φ3 ω₃ st2 s₃:=I.unhold out
 cases f with
 |next=>subst hv;exact⟨F.ψ,st2,φ3,ω₃,⟨rfl,hq⟩,I,hl3⟩
 |cont=>subst hv;exact⟨F.ψ,st2,φ3,ω₃,⟨rfl,hq⟩,I,hl3⟩
 |brk=>subst hv;exact hQ .next _ _ _ _ _ hq I' (hl.trans hl3) rfl
 |ret v=>obtain⟨r,rfl,hr⟩:=hv;exact hQ (.ret v) _ _ _ _ _ hq I' (hl.trans hl3) ⟨r,rfl,hr⟩
 |retMe=>subst hv;exact hQ .retMe _ _ _ _ _ hq I' (hl.trans hl3) rfl
theorem bG5{i j:Nat}{x y:Str}{px py:Pos}{k₀:Nat}{tp:Pos}{body:List Stmt}{ψ₁ φ1 ω₁:PM}{st1:St}{s₁:Shared}{A:Around}{Q:Flow->Shared->Prop}{Er:Value->Shared->Prop}{l:List V}{a:Addr}{vs:List Value}{kk:Nat}(O:FOk F)(hx:F.nm[i]? =some x)(hy:F.nm[j]? =some y)(hA:Rm (F.env::F.outer) A n)
 (hI1:Inv X (F.with ψ₁) φ1 ω₁ st1 s₁) (ha:φ1 a=some (j0 vs kk)) (hv:RVs X φ1 l vs) (J:Nat->PM->St->Prop) (hJ:J 0 ψ₁ st1) (hJo:∀k ψ st,J k ψ st->Outer X ψ F.outer/\KE X (F.with ψ) R Er/\∀b,ψ₁ b=none->ψ b=none)
 (hbody:∀j' ψ κ s st φ ω Er',j' < l.length->J j' ψ st->Inv X (F.with (ψ.or κ)) φ ω (A4 st [(i, .int j'),(j,l.getD j' .none)]) s->φ1.le φ->KE X (F.with (ψ.or κ)) R Er'->
  d6 X.M A (execs body F.env) (aM3 (λs'=>∃ψ' st' φ' ω',J (j'+1) ψ' st'/\Inv X (F.with (ψ'.or κ)) φ' ω' st' s'/\φ.le φ') Q) Er' s)
 (fin:∀ψ st φ ω s,J l.length ψ st->Inv X (F.with ψ) φ ω st s->φ1.le φ->Q .next s):
 d6 X.M A (call (.type "enumerate") [.ref a]) (λr s₂=>d6 X.M A (pyIter r) (λit s₃=>o7 X.M A (.forLoop (.Tuple [.Name x px, .Name y py] k₀ tp) it body [] F.env) (λr s'=>match r with| .ok f=>Q f s'| .error e=>cameBackBy X.M A F.env Er e s') s₃) Er s₂) Er s₁:=by
 have hget:=hI1.S.kφ _ _ ha
 refine i9 <| call_enumerate_1 hget λh' hE' hIt hsz hkeep=>i9 <| wpAny_pyIter_enum (s:= {s₁ with heap:=h'}) hE' ?_
 obtain⟨f1,f2,f3⟩:=hI1.S.fresh
 have g:∀a,s₁.heap.objs.size<=a->φ1 a=none/\ω₁ a=none/\ψ₁ a=none:=λa h=>by
  have hn:s₁.heap.get? a=none:=by
   cases q:s₁.heap.get? a with
   |none=>rfl
   |some o=>exact absurd (cY9 q) (Nat.not_lt.mpr h)
  refine⟨?_, ?_, ?_⟩
  ·cases q:φ1 a with|none=>rfl|some o=>rw[hI1.S.kφ _ _ q]at hn;exact nomatch hn
  ·cases q:ω₁ a with|none=>rfl|some o=>rw[hI1.S.kω _ _ q]at hn;exact nomatch hn
  ·cases q:ψ₁ a with|none=>rfl|some o=>rw[hI1.S.kψ _ _ q]at hn;exact nomatch hn
 have hlt:a < s₁.heap.objs.size:=cY9 hget
 have W:=WalksT.enumerate (prog:=pw) (w:=X.w) hA.handled (s₁.heap.objs.size+1) s₁.heap.objs.size a (Nat.succ_ne_self _) (da3 (Nat.lt_succ_of_lt hlt)) (da3 hlt) vs.toArray
 rw[show vs.toArray.size=l.length by simp[hv.len]]at W
 refine br6 (F:=F) (R:=R) (N:=l.length) (T:=⟨s₁.heap.objs.size+1,[s₁.heap.objs.size+1,s₁.heap.objs.size,a],[s₁.heap.objs.size+1,s₁.heap.objs.size],_⟩) (put:=λk st=>A4 st [(i, .int k),(j,l.getD k .none)]) (s:= {s₁ with heap:=h'}) (Q:=Q) J hA O (λk ψ st h=>(hJo k ψ st h).2.1) (ψ₁:=ψ₁) (hI1.junk hkeep rfl rfl) hJ ⟨⟨⟨_,hE'⟩,hIt,_,hkeep _ _ hget,rfl,_,rfl⟩,W.frame,λb hb=> ?_,λb hb=> ?_,λk h hSt b hb=> ?_⟩ (λk ψ st hJ=>⟨(hJo k ψ st hJ).1,λb hb=>(hJo k ψ st hJ).2.2 b ?_⟩) ?_ (W.done) hbody fin
 ·rcases cY1.mp hb with rfl|hb
  ·exact .inl (cX5 ..)
  ·rcases cY1.mp hb with rfl|hb
   ·exact .inl (cZ2 _ (cX5 ..))
   ·rw[cW0.mp hb];exact .inr ⟨_,ha⟩
 ·rcases cY1.mp hb with rfl|hb
  ·exact g _ (Nat.le_succ _)
  ·rw[cW0.mp hb];exact g _ (cX4 _)
 ·obtain⟨⟨_,h1⟩,⟨_,h2,_⟩,_⟩:=hSt
  rcases cY1.mp hb with rfl|hb
  ·rw[h1];simp
  ·rw[cW0.mp hb,h2];simp
 ·rcases cY1.mp hb with rfl|hb
  ·exact(g _ (Nat.le_succ _)).2.2
  ·rw[cW0.mp hb];exact(g _ (cX4 _)).2.2
 ·intro k ψ s₂ st2 φ2 ω₂ P Er2 hk hSt I hl hw hP
  refine W.item k s₂ _ _ hk hSt λT vals h₃ tk hPt hT hTup hMid hkp=> ?_
  have I₃:=I.wr (t:=tk) hw hkp
  refine W.go _ _ _ k T {s₂ with heap:=h₃,toks:=tk} _ _ hMid λh₄ hSt4 hkp4=> ?_
  have I₄:=I₃.wr (h':=h₄) (t:=tk) hw hkp4
  obtain⟨t,x',hx',rfl⟩:=hPt
  have hx':vs[k]? =some x':=by simpa using hx'
  obtain⟨q,e1,e2⟩:=hv.get (i:=k) (v:=l.getD k .none) (by rw[cV8,cW2 hk];rfl)
  rw[hx']at e1;cases e1
  have hTup4:h₄.IsTuple T #[.int k t,x']:=by
   obtain⟨o,ho,h⟩:=hTup
   exact⟨o,hkp4 _ _ (W.apart _ _ _ hMid) ho,h⟩
  refine wpAny_assign_Tuple hA.handled hTup4 rfl rfl λh₅ he5=> ?_
  have out:Outer X ψ F.outer:=I.out
  have I₅:=(I₄.hold [s₁.heap.objs.size+1,s₁.heap.objs.size] λa ha=>⟨(hw a ha).1,(hw a ha).2.1⟩).extBut he5 (t:=tk)
  refine aj6 (F:=F.with (ψ.or _)) (O.with _) (is:=[i,j]) (vs:=[.int k,l.getD k .none]) (.cons hx an (.cons hy an .nil)) rfl (.cons .int (.cons (e2.mono hl) .nil)) I₅ λs₆ ω₆ I₆=> ?_
  refine hP s₆ ω₆ (I₆.unhold out) (W.frame _ _ _ hSt4 λb hb o e=> ?_) (λa ha=>(I₆.S.heldNone (λa ha=> ?_) a ha).2)
  ·have hb:b∈ [s₁.heap.objs.size+1,s₁.heap.objs.size]∨∃o,φ1 b=some o:=by
    rcases cY1.mp hb with rfl|hb
    ·exact .inl (cX5 ..)
    ·rcases cY1.mp hb with rfl|hb
     ·exact .inl (cZ2 _ (cX5 ..))
     ·rw[cW0.mp hb];exact .inr ⟨_,ha⟩
   rcases hb with hm|⟨o',ho'⟩
   ·refine I₆.S.kψ b o ?_
    show(PM.or _ _) b=_
    unfold PM.or C3
    rw[(hw b hm).2.2,if_pos hm]
    exact e
   ·have e':=I₄.S.kφ b o' (hl _ _ ho')
    have e:h₄.get? b=some o:=e
    have e':h₄.get? b=some o':=e'
    rw[e']at e;cases e
    exact I₆.S.kφ b _ (hl _ _ ho')
  ·obtain⟨⟨_,h1⟩,⟨_,h2,_⟩,_⟩:=hSt4
   rcases cY1.mp ha with rfl|ha
   ·show h₄.get? _≠none
    rw[h1];simp
   ·rw[cW0.mp ha]
    show h₄.get? _≠none
    rw[h2];simp
theorem bm9(i j:Nat){x y en:Str}{px py q' ep q pos:Pos}{k:Nat}{tp:Pos}{e:Expr}{body:List Stmt}{st:St}{Q:Fl->St->Prop}(O:FOk F)(hx:F.nm[i]? =some x)(hy:F.nm[j]? =some y)(hk:F.scope.names.lookup en=some .globalImplicit)(hg:nsIn X.K cW5 en=some none/\nsIn X.K cZ8 en=some (some (.type "enumerate")))(hd:(en== ("__debug__":Str))=false)
 (he:cW7 [e] F.env=(false,eval e F.env)::cW7 [] F.env)
 (h:Ev X F n e st (λv st1=>∃(l:List V) (J:Nat->St->Prop),v= .lst l/\J 0 st1/\
  (∀k w ψ' st,l[k]? =some w->J k st->J7 X (F.with ψ') n body (A4 st [(i, .int k),(j,w)]) (F6 J k Q) R)/\(∀st,J l.length st->Q .next st)) R):
 Ex X F n (.For (.Tuple [.Name x px, .Name y py] k tp) (.Call (.Name en q') [e] [] q) body [] pos) st Q R:=
 λA s φ ω Qr Er hA hI hQ hE=>W3 (aX6 O hI hk hg hd he (h A s φ ω _ Er hA hI (λv st1 r₁ s₁ φ1 ω₁ ⟨l,J,e1,hJ,hb,hfin⟩ hI1 hl1 hv=>by
  subst e1
  refine hv.lstE λa vs kk ha hv=> ?_
  refine bG5 (F:=F) (R:=R) O hx hy hA (ψ₁:=F.ψ) hI1 ha hv (λk ψ st=>ψ=F.ψ/\J k st) ⟨rfl,hJ⟩ (λk ψ st h=>by obtain⟨rfl,_⟩:=h;exact⟨hI1.out,hE,λH h=>h⟩) ?_ (λψ st φ2 ω₂ s₂ hJ I hl=> ?_)
  ·intro k ψ κ s₂ st2 φ2 ω₂ Er2 hk hJ I hl hKE
   obtain⟨rfl,hJ⟩:=hJ
   exact hb k _ (F.ψ.or κ) st2 (by rw[cV8,cW2 hk];rfl) hJ A s₂ φ2 ω₂ _ _ hA I (λf st3 r₃ s₃ φ3 ω₃ hq I₃ hl3 hv3=>aQ6 hQ (hl1.trans hl) hq I₃ hI1.out hl3 hv3) hKE
  ·obtain⟨rfl,hJ⟩:=hJ
   exact hQ .next _ _ _ _ _ (hfin _ hJ) I (hl1.trans hl) rfl) hE))
set_option tactic.hygienic true in
theorem bo9(i:Nat){x en:Str}{px q' q pos:Pos}{e:Expr}{body:List Stmt}{st:St}{Q:Fl->St->Prop}(O:FOk F)(hx:F.nm[i]? =some x)(hk:F.scope.names.lookup en=some .globalImplicit)(hg:nsIn X.K cW5 en=some none/\nsIn X.K cZ8 en=some (some (.type "range")))(hd:(en== ("__debug__":Str))=false)
 (he:cW7 [e] F.env=(false,eval e F.env)::cW7 [] F.env)
 (h:Ev X F n e st (λv st1=>∃(N:Nat) (J:Nat->St->Prop),v= .int N/\N<=1000000/\J 0 st1/\
  (∀k ψ' st,k < N->J k st->J7 X (F.with ψ') n body {st with loc:=st.loc.set i (.val (.int k))} (F6 J k Q) R)/\(∀st,J N st->Q .next st)) R):
 Ex X F n (.For (.Name x px) (.Call (.Name en q') [e] [] q) body [] pos) st Q R:=
 λA s φ ω Qr Er hA hI hQ hE=>W3 (aX6 O hI hk hg hd he (h A s φ ω _ Er hA hI (λv st1 r₁ s₁ φ1 ω₁ ⟨N,J,e1,hN,hJ,hb,hfin⟩ hI1 hl1 hv=>by
  subst e1
  refine hv.intE λt=> ?_
  refine i9 <| call_range_1 (i9 <| wpAny_pyIter_range (IsRange.new _ _ _ _ _ _ _) (small_one (by decide) (by decide) (by lia) (by lia)) ?_)
  have I₂:=(hI1.junk (s':= {s₁ with heap:=s₁.heap.push {cls:= .type "range",data:= .fields #[.int 0 s₁.toks, .int N t, .int 1 (s₁.toks+1)]},toks:=s₁.toks+1+1}) (λa o e=>cV6 _ e) rfl rfl)
  obtain⟨f1,f2,f3⟩:=I₂.S.fresh
  have I₃:=I₂.junk (s':= {s₁ with heap:=(s₁.heap.push {cls:= .type "range",data:= .fields #[.int 0 s₁.toks, .int N t, .int 1 (s₁.toks+1)]}).push {cls:= .type "range_iterator",data:= .fields #[rawInt 0,rawInt (Builtin.Range.rangeSize 0 N 1),rawInt 1]},toks:=s₁.toks+1+1}) (λa o e=>cV6 _ e) rfl rfl
  have W:=Walks.range (prog:=pw) (w:=X.w) hA.handled (s₁.heap.push {cls:= .type "range",data:= .fields #[.int 0 s₁.toks, .int N t, .int 1 (s₁.toks+1)]}).objs.size 0 1 N
  have hr:Builtin.Range.rangeSize 0 (N:Int) 1=(N:Int) - (0:Nat):=by rw[rangeSize_one];split<;>lia
  refine br6 (F:=F) (R:=R) (N:=N) (T:=⟨_,[_],[_],_⟩) (put:=λk st=> {st with loc:=st.loc.set i (.val (.int k))}) (Q:=λf s'=>Qr f s') (λk ψ st=>ψ=F.ψ/\J k st) hA O (λH ψ H h=>h.1▸hE) (ψ₁:=F.ψ) I₃ ⟨rfl,hJ⟩ ⟨?_,W.frame,λb hb=> .inl hb,λb hb=> ?_,λk h hSt b hb=> ?_⟩ (λk ψ st hJ=>hJ.1▸⟨hI1.out,λb hb=> ?_⟩) ?_ (W.done) ?_ (λψ st φ2 ω₂ s₂ hJ I hl=> ?_)
  ·show IsRangeIter _ _ _ _ _
   have:=cX3 (s₁.heap.push {cls:= .type "range",data:= .fields #[.int 0 s₁.toks, .int N t, .int 1 (s₁.toks+1)]}) (o:= {cls:= .type "range_iterator",data:= .fields #[rawInt 0,rawInt (Builtin.Range.rangeSize 0 N 1),rawInt 1]}) rfl
   rw[hr]at this
   rw[hr]
   exact this
  ·rw[cW0.mp hb];exact⟨f1,f3,f2⟩
  ·rw[cW0.mp hb];rw[show h.get? _=_ from hSt];simp
  ·rw[cW0.mp hb];exact f2
  ·intro k ψ s₂ st2 φ2 ω₂ P Er2 hk hSt I hl hw hP
   refine W.item k s₂ _ _ hk hSt λv h₃ tk hPt hSt3 hkp=> ?_
   have I₃:=I.wr (t:=tk) hw hkp
   refine dc5 (a:=()) rfl ?_
   obtain⟨t',rfl⟩:=hPt
   have out:Outer X ψ F.outer:=I.out
   have Ih:=I₃.hold _ λa ha=>⟨(hw a ha).1,(hw a ha).2.1⟩
   refine wpAny_assign_Name (Ih.store Ih.S (PM.le.refl _) (O.with _) i hx (.val (.int k)) (by rw[show(0:Int)+ (k:Int) * 1=k by lia];exact .int) λh₄ ω₄ I₄=>hP _ ω₄ (I₄.unhold out) (W.frame _ _ _ hSt3 λb hb o e=> ?_) (λa ha=>(I₄.S.heldNone (λa ha=> ?_) a ha).2))
   ·refine I₄.S.kψ b o ?_
    show(ψ b).or _=_
    rw[(hw b hb).2.2]
    show C3 _ _ b=_
    unfold C3
    rw[if_pos hb]
    exact e
   ·rw[cW0.mp ha]
    show h₃.get? _≠none
    rw[show h₃.get? _=_ from hSt3];simp
  ·intro k ψ κ s₂ st2 φ2 ω₂ Er2 hk hJ I hl hKE
   obtain⟨rfl,hJ⟩:=hJ
   exact hb k (F.ψ.or κ) st2 hk hJ A s₂ φ2 ω₂ _ _ hA I (λf st3 r₃ s₃ φ3 ω₃ hq I₃ hl3 hv3=>aQ6 hQ (hl1.trans hl) hq I₃ hI1.out hl3 hv3) hKE
  ·obtain⟨rfl,hJ⟩:=hJ
   exact hQ .next _ _ _ _ _ (hfin _ hJ) I (hl1.trans hl) rfl) hE))
end
section
variable {X:Cx} {F:Frm} {n:Nat} {R:List UInt8->Prop}
noncomputable abbrev Frm.at(F:Frm)(a:Addr):Frm:= {F with lx:=a}
theorem FOk.at(O:FOk F)(a:Addr):FOk (F.at a):=⟨O.kind,O.loc,O.nodup⟩
noncomputable def fgS:Sl->Sl| .me=> .un|x=>x
noncomputable def St.fg(st:St):St:= {loc:=st.loc.map fgS,me:=none}
theorem Inv.fg{a:Addr}{φ ω:PM}{st:St}{s:Shared}(I:Inv X (F.at a) φ ω st s):Inv X F φ ω st.fg s:=by
 obtain⟨m,oL,d,h1,h1a,h1b,h2,h3,h3b,h4,h5,h6⟩:=I.ex
 have own:∀ {i:Nat} {b:Addr} {l:List V},st.fg.loc[i]? =some (.own b l)->st.loc[i]? =some (.own b l):=λ {i b l} h=>by
  unfold St.fg at h
  rw[cX2]at h
  cases e:st.loc[i]? with
  |none=>rw[e]at h;exact nomatch h
  |some sl=>rw[e]at h;cases sl<;>first|exact h|exact nomatch h
 refine⟨I.S,⟨m,oL,d,h1,h1a,h1b,h2,λi x sl hi hsl=> ?_,λi a l hi=>h3b i a l (own hi),λi j a b l l' hi hj=>h4 i j a b l l' (own hi) (own hj),λh=>absurd rfl h,trivial⟩,I.out,I.new⟩
 unfold St.fg at hsl
 rw[cX2]at hsl
 cases e:st.loc[i]? with
 |none=>rw[e]at hsl;exact nomatch hsl
 |some sl'=>
  rw[e]at hsl
  cases hsl
  have:=h3 i x sl' hi e
  cases sl'<;>first|exact this|exact trivial
noncomputable def Q7:List Sl->Bool
 | []=>true
 | .me::_=>false
 |_::l=>Q7 l
theorem al1:∀ {l:List Sl},Q7 l=true->∀ {i:Nat},l[i]? ≠some .me
 | [],_,i,e=>by simp at e
 |x::l,h,i,e=>by
  cases i with
  |zero=>simp at e;subst e;exact cV2 h
  |succ i=>exact al1 (l:=l) (by cases x<;>first|exact h|exact cV2 h) (i:=i) (by simpa using e)
theorem Inv.made{φ φ' ω ω':PM}{st:St}{s s':Shared}{a d:Addr}{fs:List (String×Fv)}(I:Inv X F φ ω st s)(hn:Q7 st.loc=true)(S:Sep X φ' F.ψ ω' s')(hl:φ.le φ')(hle:ω.le ω')(hd:ω d=none)(M:MeR X a F.C φ' ω' (some fs) d):Inv X (F.at a) φ' ω' {st with me:=some fs} s':=by
 obtain⟨m,oL,d',h1,h1a,h1b,h2,h3,h3b,h4,h5,h6⟩:=I.ex
 refine⟨S,⟨m,oL,d,hle _ _ h1,h1a,h1b,h2.at λo e=> ?_,λi x sl hi hsl=> ?_,λi a l hi=> ?_,h4,λH e=> ?_,M⟩,I.out,I.new⟩
 ·have e':=I.S.kω _ _ h1
  rw[e']at e;cases e
  exact S.kω _ _ (hle _ _ h1)
 ·have:=(h3 i x sl hi hsl).mono hl
  cases sl<;>first|exact this|exact absurd hsl (al1 hn)
 ·obtain⟨vs,k,g1,g2⟩:=h3b i a l hi
  exact⟨vs,k,hle _ _ g1,g2.mono hl⟩
 ·have e:F.L=d:=e
  rw[←e,h1]at hd;exact nomatch hd
theorem FlR.at{a:Addr}{φ:PM}{f:Fl}{r:Flow}(h:f≠ .retMe)(k:FlR X (F.at a) φ f r):FlR X F φ f r:=by cases f<;>first|exact k|exact absurd rfl h
theorem bm8(i:Nat){x y:Str}{p' q q' pos:Pos}{e:Expr}{es:List Expr}{cs:List Stmt}{st:St}{fI:Addr}{Q:Fl->St->Prop}(O:FOk F)(hx:F.nm[i]? =some x)(N:Z1 X.w.params F.C fI)(hk:F.scope.names.lookup y=some .globalImplicit)(hg:nsIn X.K cW5 y=some (some (.ref F.C)))(hf:keepIn X.K (.ref F.C)=true)(hd:(y== ("__debug__":Str))=false)
 (he:cW7 (e::es) F.env=(false,eval e F.env)::cW7 es F.env) (hplain:(backTo q (cW7 es F.env)).any (·.1)=false) (hs:dd3 (.Call (.Name y q') (e::es) [] q) (some (.Name x p')) pos.line F.env=pure false)
 (h:Evs X F (n+1) (e::es) q st (λvs st1=>st1.me=none/\Q7 st1.loc=true/\∃fs,Cs X n (.ref fI) F.C vs (some []) (λv m=>v= .none/\m=some fs) v4/\∀a,J7 X (F.at a) (n+1) cs {loc:=st1.loc.set i .me,me:=some fs} (λf st'=>f≠ .retMe/\Q f st'.fg) R) R):
 J7 X F (n+1) (.Assign [.Name x p'] (.Call (.Name y q') (e::es) [] q) pos::cs) st Q R:=
 λA s φ ω Qr Er hA hI hQ hE=>l7 (t8 (m8 (gl O hI hk hg (u9 X.kin hf (h A s φ ω _ Er hA hI (λvs st1 rs s₁ φ1 ω₁ ⟨hm,hn,fs,hC,hcs⟩ hI1 hl1 hvs=>
  ⟨hI1.S.kin,q9 (aw2 (d0:=0) (L:=F.L) N hA (hI1.callAt O false 0 (λe=>by exact cV2 e)).1 (λ⟨_,hm⟩=>hm.elim) hI1.S hvs hC (λa d s₂ φ2 ω₂ S hl₂ hle hd M=>by
   have I₂:=hI1.made hn S hl₂ hle hd M
   refine I₂.store I₂.S (PM.le.refl _) (O.at a) i hx .me rfl λh' ω' I₃=> ?_
   exact hcs a A _ φ2 ω' Qr Er hA I₃ (λf st4 r₄ s₄ φ4 ω₄ hq I₄ hl4 hv4=>hQ f _ r₄ s₄ φ4 ω₄ hq.2 I₄.fg (hl1.trans (hl₂.trans hl4)) (hv4.at hq.1)) hE) (λH H H hm H=>hm.elim))⟩) hE) he hplain) hd)) hs)
theorem aQ1(i j:Nat){x y z:Str}{elts:List Expr}{k kv:Nat}{tpos pe ep q q' pos:Pos}{e:Expr}{es:List Expr}{cs:List Stmt}{st:St}{fI:Addr}{Q:Fl->St->Prop}(O:FOk F)(hx:F.nm[i]? =some x)(hy:F.nm[j]? =some y)(N:Z1 X.w.params F.C fI)(hk:F.scope.names.lookup z=some .globalImplicit)(hg:nsIn X.K cW5 z=some (some (.ref F.C)))(hf:keepIn X.K (.ref F.C)=true)(hd:(z== ("__debug__":Str))=false)
 (he:cW7 (e::es) F.env=(false,eval e F.env)::cW7 es F.env) (hplain:(backTo q (cW7 es F.env)).any (·.1)=false)
 (hw:cX1 [.Tuple elts k tpos] (.Tuple [.Call (.Name z q') (e::es) [] q, .List [] ep] kv pe) F.env=pure (some [x,y]))
 (hs:df9 [.Tuple elts k tpos] (.Tuple [.Call (.Name z q') (e::es) [] q, .List [] ep] kv pe) pos.line F.env=pure false)
 (h:Evs X F (n+1) (e::es) q st (λvs st1=>st1.me=none/\Q7 st1.loc=true/\∃fs,Cs X n (.ref fI) F.C vs (some []) (λv m=>v= .none/\m=some fs) v4/\∀a b,J7 X (F.at a) (n+1) cs {loc:=(st1.loc.set j (.own b [])).set i .me,me:=some fs} (λf st'=>f≠ .retMe/\Q f st'.fg) R) R):
 J7 X F (n+1) (.Assign [.Tuple elts k tpos] (.Tuple [.Call (.Name z q') (e::es) [] q, .List [] ep] kv pe) pos::cs) st Q R:=
 λA s φ ω Qr Er hA hI hQ hE=>l7 (u0 (F3 (d9 (m8 (gl O hI hk hg (u9 X.kin hf (h A s φ ω _ Er hA hI (λvs st1 rs s0 φ0 ω₀ ⟨hm,hn,fs,hC,hcs⟩ hI0 hl₀ hvs=>
  ⟨hI0.S.kin,q9 (aw2 (d0:=0) (L:=F.L) N hA (hI0.callAt O false 0 (λe=>by exact cV2 e)).1 (λ⟨_,hm⟩=>hm.elim) hI0.S hvs hC (λa d s₁ φ1 ω₁ S hl1 hle hd M=>by
   have hI1:=hI0.made hn S hl1 hle hd M
   refine d9 (D8 (i9 <| cZ1 ⟨sz (by decide),i9 <| cZ1 ⟨sz (show 2<=16777216 by decide), ?_⟩⟩))
   have S:=hI1.S.pushω (j0 [] 0) rfl s₁.toks
   have I:=hI1.junk (s':= {s₁ with heap:=s₁.heap.push (j0 [] 0)}) (λa o e=>cV6 _ e) rfl rfl
   have P:=I.push (z9 [.ref a, .ref s₁.heap.objs.size]) s₁.toks
   have S':=(S.pushφ (z9 [.ref a, .ref s₁.heap.objs.size]) rfl s₁.toks).1
   have hl:([x,y]:List Str).length=[df2 a,df2 s₁.heap.objs.size].toArray.size:=rfl
   rw[hl]
   refine wpAny_unpackItems_tuple hA.handled (G2 P.1.S P.2.2) λh' he=> ?_
   have I':=P.1.extBut he (t:=s₁.toks)
   have S'':=S'.keeps (s':= {s₁ with heap:=h',toks:=s₁.toks}) (λa o e=>he a o (da3 (cY9 e)) e) rfl rfl
   refine cV4 (da9 (bn _ _ _ _ _ (I'.store S'' (λa o e=> ?_) (O.at a) j hy (.own s₁.heap.objs.size []) ⟨rfl,hI1.S.fresh.2.2,[],0, ?_, .nil⟩ λh2 ω2 I2=> ?_)))
   ·unfold PM.set
    rw[if_neg]
    ·exact e
    ·intro e';rw[e',hI1.S.fresh.2.2]at e;exact nomatch e
   ·unfold PM.set;rw[if_pos rfl]
   ·refine cV4 (da9 (bn _ _ _ _ _ (I2.store I2.S (PM.le.refl _) (O.at a) i hx .me rfl λh3 ω3 I3=>cW4 ?_)))
    exact hcs a _ A _ _ ω3 Qr Er hA I3 (λf st4 r₄ s₄ φ4 ω₄ hq I₄ hl4 hv4=>hQ f _ r₄ s₄ φ4 ω₄ hq.2 I₄.fg (hl₀.trans (hl1.trans (P.2.1.trans hl4))) (hv4.at hq.1)) hE) (λH H H hm H=>hm.elim))⟩) hE) he hplain) hd)) rfl)) hs hw)
end
section
variable {X:Cx} {F:Frm} {n:Nat} {R:List UInt8->Prop}
theorem Inv.at0{φ ω:PM}{st:St}{s:Shared}(I:Inv X F φ ω st s)(a:Addr)(hn:Q7 st.loc=true)(hm:st.me=none):Inv X (F.at a) φ ω st s:=by
 obtain⟨m,oL,d,h1,h1a,h1b,h2,h3,h3b,h4,h5,h6⟩:=I.ex
 refine⟨I.S,⟨m,oL,d,h1,h1a,h1b,h2,λi x sl hi hsl=> ?_,h3b,h4,h5,by rw[hm];trivial⟩,I.out,I.new⟩
 have:=h3 i x sl hi hsl
 cases sl<;>first|exact this|exact absurd hsl (al1 hn)
noncomputable def E8(d:Addr)(o:Obj):PM:=PM.emp.set d o
theorem ao4{s:Shared}{d:Addr}{o:Obj}(h:s.heap.get? d=some o):C3 s [d]=E8 d o:=by
 funext a
 unfold C3 E8 PM.set PM.emp
 by_cases e:a=d
 ·rw[if_pos (by rw[e];exact cW0.mpr rfl),if_pos e,e,h]
 ·rw[if_neg (λh=>e (cW0.mp h)),if_neg e]
theorem J0{A:Around}{s:Shared}{E:Value->Shared->Prop}{env:Env}{o i value:Expr}{pos' pos:Pos}{Q:Flow->Shared->Prop}
 (h:d6 X.M A (eval value env) (λv s₁=>d6 X.M A (eval o env) (λov s₂=>d6 X.M A (eval i env) (λiv s₃=>
  d6 X.M A (setItem ov iv v) (λH=>Q .next) E s₃) E s₂) E s₁) E s)
 (hs:dd3 value (some (.Subscript o i pos')) pos.line env=pure false):
 d6 X.M A (exec (.Assign [.Subscript o i pos'] value pos) env) Q E s:=λΓ p hΓ hc=>by
 simp only[exec_Assign_Subscript o i pos' value pos hs,assign_Subscript,Sem.wp_bind',Sem.wp_holding,Sem.wp_cmd_standAt,Sem.wp_release,Sem.wp_pure']
 exact dg6 _ Γ _ (λv p₁ s₁ h₁=>dg6 _ Γ _ (λov p₂ s₂ h₂=>dg6 _ Γ _ (λiv H s₃ h₃=>h₃ Γ _ hΓ hc)
  (λH H H h'=>h') _ _ (h₂ Γ p₂ hΓ hc)) (λH H H h'=>h') _ _ (h₁ Γ p₁ hΓ hc)) (λH H H h'=>h') _ _ (h Γ _ hΓ hc)
theorem bi8(P:Params):((KP P).lookup sysModules).isSome=true:=by kernel_rfl
theorem ae3{φ ψ ω:PM}{s:Shared}(S:Sep X φ ψ ω s):(s.heap.objs.size==sysModules)=false:=beq_eq_false_iff_ne.mpr λe=>by
 obtain⟨o,h⟩:=Option.isSome_iff_exists.mp (bi8 X.w.params)
 have:=cY9 (S.kφ _ _ (S.base _ _ (X.kin _ _ h)))
 rw[←e]at this
 exact di0 _ this
theorem Inv.psi{ψ ψ' φ ω:PM}{st:St}{s:Shared}{d:Addr}{o o':Obj}{h':Heap}{t:Nat}(I:Inv X (F.with ψ) φ ω st s)(hψ:ψ d=some o)(hs:db1 d s.heap h')(he:h'.get? d=some o')(e:∀a,ψ' a=if a=d then some o' else ψ a)(out:Outer X ψ' F.outer):Inv X (F.with ψ') φ ω st {s with heap:=h',toks:=t}:=by
 obtain⟨m,oL,d',h1,h1a,h1b,h2,h3,h3b,h4,h5,h6⟩:=I.ex
 have hd:ψ d≠none:=by rw[hψ];simp
 have hφ:φ d=none:=by
  cases q:φ d with
  |none=>rfl
  |some x=>exact absurd (I.S.d1 d (by rw[q];simp)) hd
 have hω:ω d=none:=I.S.d3 d hd
 have hn:∀a,ψ' a≠none->ψ a≠none:=λa ha=>by
  rw[e a]at ha
  by_cases q:a=d
  ·rw[q];exact hd
  ·rwa[if_neg q]at ha
 refine⟨⟨λb x hb=> ?_,λb x hb=> ?_,λb x hb=> ?_,λb hb=> ?_,I.S.d2,λb hb=>I.S.d3 b (hn b hb),I.S.base,I.S.os,I.S.gens⟩,⟨m,oL,d',h1,h1a,h1b,h2.sameBut hs (λq=> ?_),h3,h3b,h4,h5,h6⟩,out,I.new⟩
 ·exact(hs.2 b (λq=>by rw[q,hφ]at hb;exact nomatch hb)).trans (I.S.kφ b x hb)
 ·have hb:ψ' b=some x:=hb
  rw[e b]at hb
  by_cases q:b=d
  ·rw[if_pos q]at hb;cases hb;rw[q];exact he
  ·rw[if_neg q]at hb;exact(hs.2 b q).trans (I.S.kψ b x hb)
 ·exact(hs.2 b (λq=>by rw[q,hω]at hb;exact nomatch hb)).trans (I.S.kω b x hb)
 ·have h:ψ b=none:=I.S.d1 b hb
  show ψ' b=none
  rw[e b,if_neg (λq=>hb (by rw[q];exact hφ))];exact h
 ·have q:F.L=d:=q
  have h1:ω F.L=some oL:=h1
  rw[q,hω]at h1;exact nomatch h1
theorem ca3{K:Type}[DecidableEq K](kvs:List (K×Value))(k x:K)(v:Value):valueAt (kvs.map (λkv=>if kv.1=k then(kv.1,v)else kv)) x=if x=k/\(kvs.any (λkv=>kv.1=k))=true then some v else valueAt kvs x:=by
 unfold valueAt
 induction kvs with
 |nil=>simp
 |cons p l ih=>
  rw[List.map_cons,List.find?_cons,List.find?_cons]
  by_cases hp:p.1=k
  ·rw[if_pos hp]
   by_cases hx:p.1=x
   ·simp[hp, ←hx]
   ·have:¬ x=k:=λe=>hx (hp.trans e.symm)
    simp only[decide_eq_false hx,this,false_and,if_false]at ih⊢
    exact ih
  ·rw[if_neg hp]
   by_cases hx:p.1=x
   ·have:¬ x=k:=λe=>hp (hx.trans e)
    simp[hx,this]
   ·simp only[decide_eq_false hx,List.any_cons,decide_eq_false hp,Bool.false_or]
    exact ih
theorem J8{K:Type}[DecidableEq K](kvs:List (K×Value))(k x:K)(v:Value):valueAt (stored kvs k v) x=if x=k then some v else valueAt kvs x:=by
 unfold stored
 by_cases hk:kvs.any (λkv=>kv.1=k)=true
 ·rw[if_pos hk,ca3,hk];simp
 ·rw[if_neg hk]
  have:(kvs.find? λkv=>kv.1=k)=none:=by
   rw[List.find?_eq_none];intro p hp h
   exact hk (List.any_eq_true.mpr ⟨p,hp,h⟩)
  unfold valueAt
  rw[List.find?_append]
  by_cases e:x=k
  ·subst e;rw[this];simp
  ·rw[if_neg e]
   simp only[List.find?_cons,List.find?_nil,decide_eq_false (λh=>e (Eq.symm h):¬ k=x),Option.or_none]
noncomputable def KJ(X:Cx)(F:Frm)(d:Addr)(ps:List (List UInt8×Int))(k:Nat)(ψ:PM)(st:St):Prop:=
 ∃o kvs a b,ψ=F.ψ.or (E8 d o)/\o.IsDictOf (bytesKind pw X.w) kvs/\kvs.length<=k/\(∀x,DkR ((ps.take k).reverse.lookup x) (valueAt kvs x))/\st= {loc:=[.me,a,b]}
theorem aE6{A:Around}{s:Shared}{φ ω:PM}{st:St}{x:Str}{p:Pos}{i:Nat}{Q:Value->Shared->Prop}{E:Value->Shared->Prop}(O:FOk F)(hI:Inv X F φ ω st s)(hx:F.nm[i]? =some x)(hl:st.loc[i]? =some .me)(hd:(x== ("__debug__":Str))=false)(h:Q (.ref F.lx) s):d6 X.M A (eval (.Name x p) F.env) Q E s:=by
 obtain⟨m,oL,d,h1,h1a,h1b,h2,h3,_⟩:=hI.ex
 exact i9 <| db9 (cW9 O.kind (O.loc x (cW1 hx)) h2 (h3 i x _ hx hl) h) hd
theorem aB6{d:Addr}{o:Obj}:E8 d o d=some o:=if_pos rfl
theorem al0{d b:Addr}{o:Obj}(h:b≠d):E8 d o b=none:=if_neg h
theorem Z3{ψ:PM}{d:Addr}{o:Obj}(h:ψ d=none):(ψ.or (E8 d o)) d=some o:=(PM.or_r h).trans aB6
theorem an0{ψ:PM}{d b:Addr}{o o':Obj}(h:(ψ.or (E8 d o)) b=none):(ψ.or (E8 d o')) b=none:=by
 have hb:=PM.le.none (PM.le_or ψ (E8 d o)) h
 rw[PM.or_r hb]at h⊢
 exact al0 λe=>n7 (h.symm.trans ((congrArg (E8 d o) e).trans aB6))
theorem Sep.thaw{φ ψ ω:PM}{s:Shared}{d:Addr}{o:Obj}(S:Sep X φ (ψ.or (E8 d o)) ω s)(h:ψ d=none):Sep X (φ.set d o) ψ ω s/\φ.le (φ.set d o):=by
 have e:=Z3 (o:=o) h
 have f:φ d=none:=by
  cases q:φ d with
  |none=>rfl
  |some x=>exact n7 ((S.d1 d (q▸nofun)).symm.trans e)
 have T:=S.unhold (κ:=E8 d o)
 have ne:∀b,φ b≠none->b≠d:=λb hb q=>hb (q▸f)
 have le:φ.le (φ.set d o):=λb x q=>(if_neg λe=>n7 (f.symm.trans (e▸q))).trans q
 have at_:∀b x,(φ.set d o) b=some x->(b=d/\x=o)∨φ b=some x:=λb x q=>by
  unfold PM.set at q
  by_cases e:b=d
  ·rw[if_pos e]at q;exact .inl ⟨e,(cY2 q).symm⟩
  ·rw[if_neg e]at q;exact .inr q
 have no:∀b,(φ.set d o) b≠none->b=d∨φ b≠none:=λb hb=>by
  by_cases e:b=d
  ·exact .inl e
  ·exact .inr λq=>hb ((if_neg e).trans q)
 exact⟨⟨λb x q=>(at_ b x q).elim (λq=>q.1▸q.2▸S.kψ _ _ e) (S.kφ b x),T.kψ,T.kω,λb hb=>(no b hb).elim (λq=>q▸h) (T.d1 b),λb hb=>(no b hb).elim (λq=>q▸S.ψω e) (T.d2 b),T.d3,λb x q=>le _ _ (S.base b x q),S.os,S.gens⟩,le⟩
theorem ay9{ws:List (List UInt8)}{k:Nat}(h:k < ws.length):(ws.map V.bytes).getD k .none= .bytes (ws.getD k []):=by
 rw[cV8,cV8,cX2,cW2 h];rfl
theorem bn6{ψ κ:PM}{d a:Addr}{o o':Obj}(h:ψ d=none):((ψ.or (E8 d o')).or κ) a=if a=d then some o' else((ψ.or (E8 d o)).or κ) a:=by
 by_cases e:a=d
 ·rw[if_pos e,e];exact PM.or_l (Z3 h)
 ·rw[if_neg e]
  show((ψ a).or _).or _=((ψ a).or _).or _
  rw[al0 e,al0 e]
theorem bd8{ps:List (List UInt8×Int)}{k:Nat}{w:List UInt8}{i:Int}{kvs:List (List UInt8×Value)}{t:Tok}(h:ps[k]? =some (w,i))(hv:∀x,DkR ((ps.take k).reverse.lookup x) (valueAt kvs x))(x:List UInt8):DkR ((ps.take (k+1)).reverse.lookup x) (valueAt (stored kvs w (.int i t)) x):=by
 rw[J8,dh5,h]
 show DkR (((ps.take k)++[(w,i)]).reverse.lookup x) _
 rw[List.reverse_append,List.reverse_singleton,List.singleton_append,dc3]
 by_cases e:x=w
 ·rw[if_pos e,e,beq_self_eq_true];exact⟨_,rfl⟩
 ·rw[if_neg e,beq_eq_false_iff_ne.mpr e];exact hv x
theorem bV5{h:Heap}{d:Addr}{o:Obj}{ps:List (List UInt8×Int)}{kvs:List (List UInt8×Value)}(ho:h.get? d=some o)(hD:o.IsDictOf (bytesKind pw X.w) kvs)(hv:∀x,DkR (ps.reverse.lookup x) (valueAt kvs x)):bl6 X ps.reverse o:=by
 obtain⟨o2,es,ep,h2,c1,c2,c3,c4⟩:=Heap.DictOf.mapOf (Heap.dictOf_iff.mpr ⟨o,ho,hD⟩)
 obtain rfl:=cY2 (ho.symm.trans h2)
 exact⟨es,ep,c1,c2,c3,λx=>by rw[c4 x];exact hv x⟩
theorem aw0{kn an wn fn:Str}{p9 p10 p11 p12 p13 p14 p15:Pos}{A:Around}{Q:Flow->Shared->Prop}{Er:Value->Shared->Prop}{s:Shared}{φ ω:PM}{k:Nat}{w:List UInt8}{o:Obj}{kvs:List (List UInt8×Value)}{ft:Tok}(O:FOk F)(hnm:F.nm=[kn,an,wn])(hdb:∀x∈F.nm,(x== ("__debug__":Str))=false)
 (hkf:F.scope.names.lookup fn=some .globalImplicit) (hgf:nsIn X.K cW5 fn=some (some (.int 257 ft))) (hdf:(fn== ("__debug__":Str))=false) (hA:Rm (F.env::F.outer) A n) (I:Inv X F φ ω {loc:=[.me, .val (.int k), .val (.bytes w)]} s) (hψ:F.ψ F.lx=some o) (hD:o.IsDictOf (bytesKind pw X.w) kvs) (hz:kvs.length<=16777216) (hKE:KE X F R Er)
 (fin:∀φ' ω' s' h' t,φ.le φ'->Inv X F φ' ω' {loc:=[.me, .val (.int k), .val (.bytes w)]} s'->h'.DictOf (bytesKind pw X.w) F.lx (stored kvs w (.int (257+ (k:Int)) t))->db1 F.lx s'.heap h'->Q .next {s' with heap:=h',toks:=s'.toks+1}):
 d6 X.M A (execs [.Assign [.Subscript (.Name kn p9) (.Name wn p10) p11] (.BinOp (.Name fn p12) .Add (.Name an p13) p14) p15] F.env) Q Er s:=by
 have hxk:F.nm[0]? =some kn:=by rw[hnm];rfl
 have hxa:F.nm[1]? =some an:=by rw[hnm];rfl
 have hxw:F.nm[2]? =some wn:=by rw[hnm];rfl
 have db:∀ {i:Nat} {x:Str},F.nm[i]? =some x->(x== ("__debug__":Str))=false:=λh=>hdb _ (cW1 h)
 refine l7 (J0 (aj9 (n:=n) (R:=R) (Q:=λw' st'=>w'= .int (257+ (k:Int))/\st'= {loc:=[.me, .val (.int k), .val (.bytes w)]}) (ai2 O hkf hgf .int (u5 1 O hxa rfl ⟨_,av5,rfl,rfl⟩ (db hxa)) hdf) A s φ ω _ Er hA I (λv st2 r s₂ φ2 ω₂ hq I₂ hl₂ hv₂=> ?_) hKE) (by rfl))
 obtain⟨rfl,rfl⟩:=hq
 refine hv₂.intE λu1=>aE6 O I₂ hxk rfl (db hxk) ?_
 refine u5 (n:=n) (R:=R) (Q:=λw' st'=>w'= .bytes w/\st'= {loc:=[.me, .val (.int k), .val (.bytes w)]}) 2 O hxw rfl ⟨rfl,rfl⟩ (db hxw) A s₂ φ2 ω₂ _ Er hA I₂ (λv st3 r s₃ φ3 ω₃ hq I₃ hl3 hv3=> ?_) hKE
 obtain⟨rfl,rfl⟩:=hq
 exact hv3.bytesE λu2=>i9 <| wpAny_setItem_pairs (knd:=bytesKind pw X.w) (k:=w) (beq_self_eq_true _) (Heap.dictOf_iff.mpr ⟨o,I₃.S.kψ _ _ hψ,hD⟩) (λh' hD2 hs=>i9 (wpAny_execs_nil (fin φ3 ω₃ s₃ h' u1 (hl₂.trans hl3) I₃ hD2 hs))) (sz hz)
theorem aG5{kn an wn en rn fn:Str}{p1 p2 p3 p4 p5 p6 p7 p8 p9 p10 p11 p12 p13 p14 p15 p16 p17 p18 tp:Pos}{k₀:Nat}{Q:Fl->St->Prop}{ws:List (List UInt8)}{rr:Value}(O:FOk F)(hnm:F.nm=[kn,an,wn])(hdb:∀x∈F.nm,(x== ("__debug__":Str))=false)
 (hke:F.scope.names.lookup en=some .globalImplicit) (hge:nsIn X.K cW5 en=some none/\nsIn X.K cZ8 en=some (some (.type "enumerate"))) (hde:(en== ("__debug__":Str))=false)
 (hkr:F.scope.names.lookup rn=some .globalImplicit) (hgr:nsIn X.K cW5 rn=some (some rr)) (hvr:RV X (X.H₀.get?) (.lst (ws.map .bytes)) rr) (hdr:(rn== ("__debug__":Str))=false)
 (hkf:F.scope.names.lookup fn=some .globalImplicit) {ft:Tok} (hgf:nsIn X.K cW5 fn=some (some (.int 257 ft))) (hdf:(fn== ("__debug__":Str))=false) (hz:ws.length<=1000)
 {ps:List (List UInt8×Int)} (hps:ps.length=ws.length) (hpk:∀k,k < ws.length->ps[k]? =some (ws.getD k [],257+ (k:Int))) (hq:∀st',st'.me=none->Q (.ret (.dic ps.reverse)) st'):
 J7 X F n [.Assign [.Name kn p1] (.Dict [] [] p2) p3, .For (.Tuple [.Name an p4, .Name wn p5] k₀ tp) (.Call (.Name en p6) [.Name rn p7] [] p8) [.Assign [.Subscript (.Name kn p9) (.Name wn p10) p11] (.BinOp (.Name fn p12) .Add (.Name an p13) p14) p15] [] p16, .Return (some (.Name kn p17)) p18] {loc:=[.un, .un, .un]} Q R:=
 λA s φ ω Qr Er hA hI hQ hE=>by
  have hxk:F.nm[0]? =some kn:=by rw[hnm];rfl
  have hxa:F.nm[1]? =some an:=by rw[hnm];rfl
  have hxw:F.nm[2]? =some wn:=by rw[hnm];rfl
  have db:∀ {i:Nat} {x:Str},F.nm[i]? =some x->(x== ("__debug__":Str))=false:=λh=>hdb _ (cW1 h)
  refine l7 (t8 (i9 ?_) (by rfl))
  show wpAny X.M A (do dd4 p2;newDict) _ Er s
  refine cV4 (wpAny_standAt (cV4 (wpAny_alloc ?_)))
  refine cW4 ?_
  obtain⟨f1,f2,f3⟩:=hI.S.fresh
  have hd0:=cX3 s.heap (o:=emptyDict) rfl
  have I1:=(hI.junk (s':= {s with heap:=s.heap.push emptyDict}) (λa o e=>cV6 _ e) rfl rfl).hold [s.heap.objs.size] λa ha=>by rw[cW0.mp ha];exact⟨f1,f3⟩
  rw[ao4 hd0]at I1
  have I1:=I1.at0 s.heap.objs.size rfl rfl
  refine I1.store I1.S (PM.le.refl _) ((O.with _).at _) 0 hxk .me rfl λh2 ω2 I2=> ?_
  have I2:Inv X ((F.at s.heap.objs.size).with (F.ψ.or (E8 s.heap.objs.size emptyDict))) φ ω2 {loc:=[.me, .un, .un]} {s with heap:=h2,toks:=s.toks+1}:=I2
  have O1:=O.at s.heap.objs.size
  refine l7 (W3 (aX6 (F:=(F.at s.heap.objs.size).with _) (O1.with _) I2 hke hge hde rfl (i9 <| gl (O1.with _) I2 hkr hgr ?_ hdr)) (by intro;rfl))
  have hv2:=hvr.mono (φ':=φ) (λa o e=>I2.S.base a o e)
  refine hv2.lstE λa vs kk ha hv=> ?_
  have hle0:∀(o:Obj) (κ:PM),F.ψ.le (F.ψ.or (E8 s.heap.objs.size o)):=λo κ=>PM.le_or _ _
  have hl0:(ws.map V.bytes).length=ps.length:=by rw[cW3,hps]
  refine bG5 (F:=F.at s.heap.objs.size) (R:=R) O1 hxa hxw hA I2 ha hv (KJ X F s.heap.objs.size ps) ⟨emptyDict,[], .un, .un,rfl,⟨#[],0,⟨rfl,rfl,rfl⟩,rfl,λH he=>by simp at he, .nil,List.nodup_nil⟩,cY8 _,λx=>rfl,rfl⟩ (λk ψ st h=> ?_) ?_ (λψ st φ2 ω₂ s₂ hJ I hl=> ?_)
  ·obtain⟨o,kvs,a,b,rfl,_⟩:=h
   exact⟨hI.out.mono (PM.le_or _ _),λx s' msg hR hx=>hE x s' msg hR (hx.weak (PM.le_or _ _)),λb hb=>an0 hb⟩
  ·intro k ψ κ s₁ st φ1 ω₁ Er1 hk hJ I hl hKE
   obtain⟨o,kvs,a',b',rfl,hD,hlen,hval,rfl⟩:=hJ
   have hk':k < ws.length:=by rwa[cW3]at hk
   rw[ay9 hk']at I
   refine aw0 (F:=(F.at s.heap.objs.size).with ((F.ψ.or (E8 s.heap.objs.size o)).or κ)) (n:=n) (R:=R) (w:=ws.getD k []) (O1.with _) hnm hdb hkf hgf hdf hA I (PM.or_l (Z3 f2)) hD (cV5 hlen (cV5 (Nat.le_of_lt hk') (cV5 hz (by decide)))) hKE λφ3 ω₃ s₃ h' t₃ hl3 I₃ hD2 hs=> ?_
   obtain⟨o',ho',hD2⟩:=Heap.dictOf_iff.mp hD2
   exact⟨_,_,φ3,ω₃,⟨o',_,_,_,rfl,hD2,cV5 (stored_length_le _ _ _) (Nat.succ_le_succ hlen),bd8 (hpk k hk') hval,rfl⟩,Inv.psi (F:=F.at s.heap.objs.size) (ψ':=(F.ψ.or (E8 s.heap.objs.size o')).or κ) (t:=s₃.toks+1) I₃ (PM.or_l (Z3 f2)) hs ho' (λa=>bn6 f2) (hI.out.mono ((PM.le_or _ _).trans (PM.le_or _ _))),hl3⟩
  ·obtain⟨o,kvs,a',b',rfl,hD,hlen,hval,rfl⟩:=hJ
   refine l7 (C1 (aE6 (F:=(F.at s.heap.objs.size).with _) (O1.with _) I hxk rfl (db hxk) ?_))
   have T:=I.S.thaw f2
   have I5:Inv X F φ2 ω₂ _ s₂:=(Inv.fg (F:=F.with _) I).unhold hI.out
   rw[hl0,List.take_length]at hval
   exact hQ (.ret (.dic ps.reverse)) _ _ _ _ _ (hq _ rfl) (I5.more T.1 T.2) (hl.trans T.2) ⟨_,rfl, .dic (o:=o) (if_pos rfl) (bV5 (I.S.kψ _ _ (Z3 f2)) hD hval) (ae3 hI.S)⟩
end
theorem V4:Slot "bytes" "__repr__" "bytes.__repr__":=
 .of (owner:="bytes") (n:="__repr__") (by rw[da6,cY3];kernel_rfl) (by decide+kernel) (by decide+kernel) (by decide+kernel)
  (by first|exact .inl (by decide+kernel)|exact .inr (by decide+kernel)) (by rw[df1];kernel_rfl)
theorem S0:entryFor table "bytes.__repr__"=some Builtin.«bytes.__repr__» :=dg1 (by kernel_rfl)
theorem V8(a:Value):argsOk "bytes.__repr__" ⟨[a],[]⟩:=by
 unfold argsOk;rw[signature?_of (id:="bytes.__repr__") (n:=['_','_','r','p','e','r','_','_']) (o:=['s','e','t','y','b']) (by kernel_rfl) FB.owner_bytes];kernel_rfl
theorem au2(b:Array UInt8)(t:Tok)(h:Builtin.Bytes.tooLong (4 * b.size+3)=false):Gives (Builtin.«bytes.__repr__» ⟨[.bytes b t],[]⟩) (.str (dh0 b)):=by
 have e:dh4 b=pure (dh0 b):=by
  unfold dh4
  rw[show 4 * b.size+3+0=4 * b.size+3 from rfl,h]
  rfl
 have:Builtin.«bytes.__repr__» ⟨[.bytes b t],[]⟩=(do retStr (←dh4 b)):=rfl
 rw[this,e]
 exact .of_eq rfl
theorem as0(f:UInt8->Array Nat)(hf:∀c,(f c).size<=4):∀(l:List UInt8) (a:Array Nat),(l.foldl (λacc c=>acc++f c) a).size<=a.size+4 * l.length
 | [],a=>cX4 _
 |c::l,a=>by
  have h:=as0 f hf l (a++f c)
  have:=hf c
  rw[Array.size_append]at h
  rw[da0,List.foldl_cons]
  lia
theorem bb8{α:Type}{c:Prop}[Decidable c]{a b:Array α}{k:Nat}(h1:a.size<=k)(h2:b.size<=k):(if c then a else b).size<=k:=by split<;>assumption
theorem bo4(b:Array UInt8):(dh0 b).length<=4 * b.size+3:=by
 show(Array.push _ _).size<=_
 rw[Array.size_push, ←Array.foldl_toList]
 refine Nat.succ_le_succ (cV5 (as0 _ (λc=> ?_) _ _) ?_)
 ·dsimp only
  repeat' first|exact cV3 rfl|refine bb8 ?_ ?_
 ·rw[Array.length_toList,Nat.add_comm];exact cX4 _
section
variable {X:Cx}
noncomputable def aK3:V->Str
 | .none=>"None"
 | .int i=>toString i
 | .bytes l=>dh0 l.toArray
 |_=>Str.empty
noncomputable def rOk:V->Bool
 | .none=>true
 | .int i=>decide (i.natAbs.log2 < 64)
 | .bytes l=>decide (l.length<=1000)
 |_=>false
set_option tactic.hygienic true in
theorem aA3{v:V}{r:Value}{φ:PM}(h:rOk v=true)(hv:RV X φ v r):ReprIs pw X.w r (aK3 v)/\(aK3 v).length<=4003:=by
 cases hv with
 |none=>exact⟨ReprIs.none,by decide⟩
 |int=>
  have h:_ < _:=of_decide_eq_true h
  have e:=int_text_length_le (k:=64) (by decide) h
  refine⟨ReprIs.int _ ?_, ?_⟩
  ·exact dh6 h (by decide)
  ·show(cV1 _).length<=_
   rw[PySem.ofString_length];lia
 |bytes=>
  rename_i l t
  have h:l.length<=1000:=of_decide_eq_true h
  have hl:=bo4 l.toArray
  rw[dd2]at hl
  have h2:(aK3 (.bytes l)).length<=4003:=cV5 hl (by lia)
  refine⟨λn hn H H H H k=> ?_,h2⟩
  rw[pyReprUnder_leaf (v:= .bytes l.toArray t) (by lia) (λH e=>nomatch e)]
  exact cV4 (wpAny_pyReprObj_gives (typeIs_bytes _ _ t) V4 S0 (V8 _) (au2 _ t (decide_eq_false (by rw[df4,dd2];lia))) (cW4 (k _)) (hx:=by rw[df4];exact cV5 h2 (by decide)))
 |_=>exact cV2 h
noncomputable def ap0(v:V):Str:=match v with| .tup [a,b]=>tupleText [aK3 a,aK3 b]|_=>Str.empty
noncomputable def ab6(v:V):Bool:=match v with| .tup [a,b]=>rOk a&&rOk b|_=>false
theorem cf3(a b:Str):(tupleText [a,b]).length=a.length+b.length+4:=by
 unfold tupleText
 rw[strLen_append,strLen_append]
 show 1+ (a++", "++Str.join ", " [b]).length+1=_
 rw[strLen_append,strLen_append]
 show 1+ (a.length+2+b.length)+1=_
 lia
noncomputable def bM4(h:Heap)(a:Addr):Prop:=∃o,h.get? a=some o/\o.cls= .type "tuple"
theorem av2{v:V}(h:ab6 v=true):∃a b,v= .tup [a,b]/\(rOk a&&rOk b)=true:=by
 cases v with
 |tup l=>
  cases l with
  |nil=>exact cV2 h
  |cons a l=>
   cases l with
   |nil=>exact cV2 h
   |cons b l=>
    cases l with
    |nil=>exact⟨a,b,rfl,h⟩
    |cons _ _=>exact cV2 h
 |_=>exact cV2 h
theorem cd4{v:V}{r:Value}{φ ψ ω:PM}{s:Shared}(S:Sep X φ ψ ω s)(h:ab6 v=true)(hv:RV X φ v r):(∃a,bM4 s.heap a/\ReprK pw X.w [a] s.heap 1 r (ap0 v))/\(ap0 v).length<=8010:=by
 obtain⟨x,y,rfl,h0⟩:=av2 h
 refine hv.tupE λa vs ha hs=> ?_
 revert ha
 refine hs.twoE λr q hx hy ha=> ?_
 rw[cX7]at h0
 have p:=aA3 h0.1 hx
 have q:=aA3 h0.2 hy
 refine⟨⟨a,⟨_,S.kφ _ _ ha,rfl⟩,ReprK.tuple (S.kφ _ _ ha) rfl rfl (by simp) (.cons (.of_is p.1 _ _ _) (.cons (.of_is q.1 _ _ _) .nil))⟩, ?_⟩
 show(tupleText _).length<=_
 rw[cf3];lia
theorem bc1{φ ψ ω:PM}{s:Shared}(S:Sep X φ ψ ω s):∀ {l:List V} {vs:List Value},l.all ab6=true->RVs X φ l vs->∃as,(∀a∈as,bM4 s.heap a)/\ReprAllK pw X.w as s.heap 1 vs (l.map ap0)/\piled (l.map ap0)<=8012 * l.length
 | [],_,_, .nil=>⟨[],(λH h=>nomatch h), .nil,cX4 _⟩
 |v::l,_,h, .cons hv hs=>by
  rw[List.all_cons,cX7]at h
  obtain⟨⟨a,h1,h2⟩,h3⟩:=cd4 S h.1 hv
  obtain⟨as,g1,g2,g3⟩:=bc1 S h.2 hs
  refine⟨a::as,λb hb=> ?_, .cons (h2.more λb hb=>by rw[cW0.mp hb];exact cX5 ..) (g2.more_le (λb hb=>cZ2 _ hb) (cX4 _)), ?_⟩
  ·rcases cY1.mp hb with rfl|hb
   ·exact h1
   ·exact g1 _ hb
  ·rw[List.map_cons,piled_cons,da0];lia
theorem bQ7(ts:List Str):(listText ts).length<=piled ts+4:=by
 cases ts with
 |nil=>decide
 |cons t r=>
  have h:=textFrom_length_pos r 1 (("[":Str)++(if(0:Nat) > 0 then ", " else "":String)++t) (dg3 0)
  unfold listText
  rw[strLen_append]
  show(textFrom 1 (("[":Str)++(if(0:Nat) > 0 then ", " else "":String)++t) r).length+1<=_
  rw[h,strLen_append,piled_cons]
  show 1+t.length+piled r+1<=_
  lia
noncomputable def cj8(v:V):Str:=match v with| .lst l=>listText (l.map ap0)|_=>Str.empty
noncomputable def X3(v:V):Bool:=match v with| .lst l=>decide (l.length<=100) &&l.all ab6|_=>false
set_option tactic.hygienic true in
theorem bc9{n:Nat}{v:V}(h:X3 v=true):Pu X n [v] (λrs=>call (.builtin "repr") rs) (λφ=>RV X φ (.str (cj8 v))):=λF A s φ ω st Qr Er rs hA hI hr hQ=>by
 cases hr with
 |cons hv hn=>
 cases hn
 cases hv with
 |lst ha hs=>
  rename_i l a vs k
  rw[show X3 (.lst l)=(decide (l.length<=100) &&l.all ab6)from rfl,cX7,decide_eq_true_eq]at h
  obtain⟨as,g1,g2,g3⟩:=bc1 hI.S h.2 hs
  have h1:=hI.S.kφ _ _ ha
  have hna:a∉as:=λhm=>by
   obtain⟨o,e1,e2⟩:=g1 a hm
   rw[h1]at e1;cases e1;exact absurd (Value.type.inj e2) (by decide)
  have hu:A.units+1+ (1+1)< cLine:=by have:=hA.units;lia
  have hsz:(listText (l.map ap0)).length<=sizeLine:=by have:=bQ7 (l.map ap0);rw[df4];lia
  have fin:∀h' u tk,(∀b o,s.heap.get? b=some o->h'.get? b=some o)->Qr (.str (listText (l.map ap0)) u) {s with heap:=h',toks:=tk}:=λh' u tk hk=>
   hQ _ _ φ (hI.junk (s':= {s with heap:=h',toks:=tk}) hk rfl rfl) (PM.le.refl _) .str
  refine call_repr_slot (by lia) (T:="list") ⟨_,h1,rfl⟩ PySem.F.slot_list_repr.toG ?_
  cases vs with
  |nil=>cases hs;exact call_list_repr_empty ⟨_,h1,rfl⟩ h1 rfl ⟨_,_,rfl,fin s.heap _ _ λH H e=>e⟩
  |cons x xs=>exact call_list_reprK h1 rfl rfl hna (by rw[g2.length_eq];rfl) (λi y e=>g2.item i y (by rw[←List.getElem?_toArray];exact e)) hA.guards (λb H=>Clear.nil b) hu (λH H e=>e) (λh' u tk hk=>⟨_,_,rfl,fin h' u tk hk⟩) hsz
 |_=>exact cV2 h
end
section
variable {X:Cx} {F:Frm} {n:Nat} {st:St} {R:List UInt8->Prop}
noncomputable def cn8(l:List Int):Int:=preSum (λi=>l.getD i 0) l.length
set_option tactic.hygienic true in
theorem bU9{l:List V}(hi:n9 l=true):Pu X n [.lst l] (λrs=>call (.builtin "sum") rs) (λφ=>RV X φ (.int (cn8 (i5 l)))):=Pu.one λF A s φ ω st Qr Er r hA hI h1 hQ=>by
 refine h1.lstE λa vs k ha hv=> ?_
 have hn:∀(l:List Int) (vs:List Value),IntsAre vs l->vs.length=l.length/\∀i v,vs[i]? =some v->∃t,v=Value.int (l.getD i 0) t:=λl vs h=>by
  induction h with
  |nil=>exact⟨rfl,λi v e=>nomatch e⟩
  |cons _ t _ ih=>exact⟨congrArg (· +1) ih.1,λi v e=>by cases i with|zero=>cases e;exact⟨_,rfl⟩|succ i=>exact ih.2 i v e⟩
 have hl:=hn _ _ (G0 hv hi)
 have hlI:=v7 hI.S ha
 have hlt:a < s.heap.objs.size:=cY9 (hI.S.kφ _ _ ha)
 have hsz:(s.heap.push {cls:= .type "list_iterator",data:= .fields #[.ref a, .int 0 0]}).objs.size=s.heap.objs.size+1:=Heap.size_push ..
 refine call_sum_walkG (wpAny_pyIter_list hlI ⟨_,[s.heap.objs.size,a],[s.heap.objs.size],vs.toArray.size,_,_,λi=>(i5 l).getD i 0,rfl,Walks.list (A:=A.in1) hA.handled _ a (da3 hlt) vs.toArray,⟨⟨_,cX3 _ rfl,rfl,rfl⟩,hlI.push _⟩,λb hb=> ?_,λi v e=>hl.2 i v (by rw[←List.getElem?_toArray];exact e),λh' tk t' hk=> ?_⟩)
 ·show b < (s.heap.push _).objs.size
  rw[hsz]
  rcases cY1.mp hb with rfl|hb
  ·exact cZ9 _
  ·rw[cW0.mp hb];exact Nat.lt_succ_of_lt hlt
 ·have e:vs.toArray.size=(i5 l).length:=hl.1
  rw[e]
  exact hQ _ _ φ (hI.junk (s':= {s with heap:=h',toks:=tk}) (λb o e=>hk b o (λhm=>di0 _ (cW0.mp hm▸cY9 e)) (cV6 _ e)) rfl rfl) (PM.le.refl _) .int
theorem at8(i:Nat){x:Str}{es:List Expr}{p' ep pos}{Q:Fl->St->Prop}(O:FOk F)(hx:F.nm[i]? =some x)(h:Evs X F n es ep st (λvs st1=>vs.length<=sizeLine/\∀a,Q .next {st1 with loc:=st1.loc.set i (.own a vs)}) R)
 (hs:dd3 (.List es ep) (some (.Name x p')) pos.line F.env=pure false:=by rfl):Ex X F n (.Assign [.Name x p'] (.List es ep) pos) st Q R:=
 λA s φ ω Qr Er hA hI hQ hE=>t8 (D8 (h A s φ ω _ Er hA hI (λvs st1 rs s₁ φ1 ω₁ hq hI1 hl1 hv=>⟨hv.len▸hq.1,by
  have S:=hI1.S.pushω (j0 rs 0) rfl s₁.toks
  have I:=hI1.junk (s':= {s₁ with heap:=s₁.heap.push (j0 rs 0)}) (λa o e=>cV6 _ e) rfl rfl
  refine I.store (ω:=ω₁.set s₁.heap.objs.size (j0 rs 0)) S (λa o e=> ?_) O i hx (.own s₁.heap.objs.size vs) ⟨rfl,hI1.S.fresh.2.2,rs,0, ?_,hv⟩ λh' ω' I'=>hQ _ _ _ _ _ _ (hq.2 _) I' hl1 rfl
  ·unfold PM.set
   rw[if_neg]
   ·exact e
   ·intro e';rw[e',hI1.S.fresh.2.2]at e;exact nomatch e
  ·unfold PM.set;rw[if_pos rfl]⟩) hE)) hs
noncomputable def Vw{T β ζ:Type}(mk:β->ζ->T)(e:T):Type:=Option {c:β // ∃z,e=mk c z}
@[irreducible] noncomputable def on {T β ζ:Type} {mk:β->ζ->T} {e:T} (o:Vw mk e) (p:β->Bool):Bool:=match o with|some c=>p c.1|none=>false
theorem vw{T β ζ:Type}{mk:β->ζ->T}{G:T->Prop}(e:T){o:Vw mk e}{p:β->Bool}(h:on o p=true)(k:∀c z,p c=true->G (mk c z)):G e:=by
 unfold on at h
 cases o with
 |none=>exact cV2 h
 |some c=>obtain⟨c,z,rfl⟩:=c;exact k c z h
noncomputable def F0(c:Const)(e:Expr):Vw (λ(_:Unit) (z:Nat×Pos)=>Expr.Constant c z.1 z.2) e:=if h:e.ctorIdx=19 then Expr.Constant.elim (motive_1:=λe=>Vw (λ(_:Unit) (z:Nat×Pos)=>Expr.Constant c z.1 z.2) e) e h (λc' k p=>if h:c'=c then some ⟨(),(k,p),h▸rfl⟩else none)else none
noncomputable def cU6(i:Int)(ks:List (Option Expr)):Bool:=ks.head?.any λo=>o.any λe=>on (F0 (.int i) e) λH=>true
noncomputable def bi5:List (Int×List UInt8)->List (Option Expr)->List Expr->Bool
 | [],ks,vs=>ks.isEmpty&&vs.isEmpty
 |p::t,ks,vs=>(cU6 p.1 ks&&vs.head?.any λe=>on (F0 (.bytes p.2) e) λH=>true) &&bi5 t ks.tail vs.tail
noncomputable def aG8:List (Int×List UInt8)->(Int->Option (List UInt8))->Int->Option (List UInt8)
 | [],f=>f
 |p::t,f=>aG8 t λx=>if x=p.1 then some p.2 else f x
noncomputable def BkR(o:Option (List UInt8))(v:Option Value):Prop:=match o with|none=>v=none|some b=>∃t,v=some (.bytes b.toArray t)
theorem bq7{A:Around}{E:Value->Shared->Prop}{pos:Pos}(tab:List (Int×List UInt8)):∀(ks:List (Option Expr)) (vs:List Expr),bi5 tab ks vs=true->ks.all (·.isSome)=true/\ks.length=tab.length/\vs.length=tab.length/\∀(s:Shared) (Q:List (Value×Value)->Shared->Prop),
 (∀kvs t rs,(∀acc f,(∀x,BkR (f x) (valueAt acc x))->∀x,BkR (aG8 tab f x) (valueAt (merged acc kvs) x))->Carries (intKind pw X.w) rs kvs->Q rs {s with toks:=t})->wpAny X.M A (evalPairs (pairTrees ks vs F.env pos)) Q E s:=by
 induction tab with
 |nil=>
  intro ks vs hc
  have hc:=cZ7.mp hc
  rw[List.isEmpty_iff.mp hc.1,List.isEmpty_iff.mp hc.2]
  exact⟨rfl,rfl,rfl,λs Q h=>pairTrees_nil_walk (h [] s.toks [] (λH H h=>h) trivial)⟩
 |cons p t ih=>
  intro ks vs hc
  have hc:=cZ7.mp hc
  have h1:=cZ7.mp hc.1
  cases ks with
  |nil=>exact aA5 h1.1
  |cons k ks=>
   cases vs with
   |nil=>exact aA5 h1.2
   |cons v vs=>
    cases k with
    |none=>exact aA5 h1.1
    |some k=>
     have g:=ih ks vs hc.2
     refine⟨g.1,congrArg (· +1) g.2.1,congrArg (· +1) g.2.2.1,λs Q h=> ?_⟩
     refine vw k (G:=λk=>wpAny X.M A (evalPairs (pairTrees (some k::ks) (v::vs) F.env pos)) Q E s) h1.1 λH z H=> ?_
     refine vw v (G:=λv=>wpAny X.M A (evalPairs (pairTrees (_::ks) (v::vs) F.env pos)) Q E s) h1.2 λH z' H=> ?_
     exact pairTrees_cons_walk (wpAny_Constant_int (Constant_bytes (g.2.2.2 _ _ λkvs tk rs hk hr=>
      h ((_,_)::kvs) tk _ (λacc f hf=>hk (stored acc _ _) _ λx=>by
       rw[J8]
       dsimp only
       split
       ·exact⟨_,rfl⟩
       ·exact hf x) ⟨beq_self_eq_true _,rfl,hr⟩)))
noncomputable def O7(o:Option (List UInt8)):V:=match o with|none=> .none|some b=> .bytes b
theorem ba0{A:Around}{s:Shared}{φ ω:PM}{st:St}{x:Str}{p:Pos}{i:Nat}{v:V}{Q:Value->Shared->Prop}{E:Value->Shared->Prop}(O:FOk F)(hI:Inv X F φ ω st s)(hx:F.nm[i]? =some x)(hl:st.loc[i]? =some (.val v))(hd:(x== ("__debug__":Str))=false)(h:∀r,RV X φ v r->Q r s):d6 X.M A (eval (.Name x p) F.env) Q E s:=by
 obtain⟨m,oL,d,h1,h1a,h1b,h2,h3,_⟩:=hI.ex
 obtain⟨r,g1,g2⟩:=h3 i x _ hx hl
 exact i9 <| db9 (cW9 O.kind (O.loc x (cW1 hx)) h2 g1 (h r g2)) hd
theorem bp1{tab:List (Int×List UInt8)}{ks:List (Option Expr)}{vs:List Expr}{dp ap q yp:Pos}{y:Str}{i:Nat}{k:Int}{pl:Sem Bool}{Q:V->St->Prop}(O:FOk F)(ht:bi5 tab ks vs=true)(h0:tab≠[])(h15:tab.length<=15)(hy:F.nm[i]? =some y)(hl:st.loc[i]? =some (.val (.int k)))(h:Q (O7 (aG8 tab (λH=>none) k)) st)(hd:(y== ("__debug__":Str))=false)
 (he:eval (.Call (.Attribute (.Dict ks vs dp) (cV1 "get") ap) [.Name y yp] [] q) F.env=(do
  let ov ←eval (.Dict ks vs dp) F.env
  dd4 ap.atName
  let(f,first) ←dc2 [ov] (dg5 ov (cV1 "get") pl)
  callWith q f first (backTo q (cW7 [.Name y yp] F.env)) (backToKw q (dd1 [] F.env)))):Ev X F n (.Call (.Attribute (.Dict ks vs dp) (cV1 "get") ap) [.Name y yp] [] q) st Q R:=
 λA s φ ω Qr Er hA hI hQ hE=>by
  obtain⟨g1,g2,g3,g4⟩:=bq7 (X:=X) (F:=F) (A:=A) (E:=Er) (pos:=dp) tab ks vs ht
  refine v2 (i9 (wpAny_Dict_walk (knd:=intKind pw X.w) g1 (g2.trans g3.symm) (λe=>h0 (List.length_eq_zero_iff.mp (by rw[←g2,e];rfl))) (by rw[g2];exact h15) (g4 _ _ λkvs t rs hk hr=> ?_))) he
  have hn:=cX3 s.heap (o:= {cls:= .type "dict",data:= .dict #[]}) rfl
  refine⟨kvs,hr,⟨_, #[],0,hn,⟨rfl,rfl,rfl⟩,rfl,(λH he=>by simp at he), .nil,List.nodup_nil⟩,λh' hD hs=> ?_⟩
  have I:=(hI.junk (s':= {s with heap:=h',toks:=t+rs.length}) (λa o e=>(hs.2 a (da3 (cY9 e))).trans (cV6 _ e)) rfl rfl)
  have hM:=hD.mapOf
  obtain⟨o,es,ep,ho,hx,hda,hks,hf⟩:=hM
  refine i9 (getMethod_builtin ⟨_,ho,hx.1⟩ PySem.F.plainAttrs_dict dg9 PySem.F.type_dict_get (λa e=>by cases e;exact⟨_,ho,hx.2.1⟩) ?_)
  refine n4 (first:=[_]) (d9 (ba0 O I hy hl hd λr hr=> ?_) rfl)
  refine hr.intE λu=> ?_
  refine i9 <| cZ1 <| i9 <| call_meetsIn dg9 ⟨_,ho,hx.1⟩ PySem.F.entry_dict_get (PySem.F.args_dict_get_2 _ _) (meets_dict_get (intKind pw X.w) _ (k:=k) (beq_self_eq_true k) (ae3 hI.S)) ⟨_,⟨_,_,_,ho,hx,hda,hks,hf⟩,hQ _ _ _ _ _ _ h (I.toks _) (PM.le.refl _) ?_⟩
  have:=hk [] (λH=>none) (λH=>rfl) k
  cases e:aG8 tab (λH=>none) k with
  |none=>rw[e]at this;rw[show valueAt _ k=none from this];exact .none
  |some b=>rw[e]at this;obtain⟨t,this⟩:=this;rw[this];exact .bytes
end
section
variable {X:Cx} {F:Frm} {n:Nat} {st:St} {R:List UInt8->Prop}
structure aY7(F:Frm)(scope:Scope)(x:Str):Prop where
 clos:closureFor scope F.env=pure []
 cell:∀y∈scope.names,y.2≠ .cell
 kind:scope.kind= .function
 names:∀y∈scope.names,y.2= .local->scope.names.lookup y.1=some .local
 loc:scope.names.lookup x=some .local
 dbg:(x== ("__debug__":Str))=false
noncomputable abbrev CE(F:Frm)(scope:Scope)(C:Addr):Env:=compEnvC scope [] C F.env
noncomputable def ak3(X:Cx)(F:Frm)(scope:Scope)(x:Str)(e:Expr)(g:Int->Int):Prop:=∀(A:Around) (E:Value->Shared->Prop) (s:Shared) m C a t (Q:Value->Shared->Prop),X.K.In s.heap->s.heap.Ns C m->m x=some (.int a t)->(∀u tk,Q (.int (g a) u) {s with toks:=tk})->wpAny X.M A (eval e (CE F scope C)) Q E s
noncomputable def aj8(X:Cx)(F:Frm)(scope:Scope)(x:Str)(ifs:List Expr)(p:Int->Bool):Prop:=∀(A:Around) (E:Value->Shared->Prop) (s:Shared) m C a t (Q:Bool->Shared->Prop),X.K.In s.heap->s.heap.Ns C m->m x=some (.int a t)->(∀tk,Q (p a) {s with toks:=tk})->
 wpAny X.M A (forIn ifs true λc r=>if r=true then do let ok ←isTrue c (CE F scope C) (eval c (CE F scope C));pure (ForInStep.yield ok)else pure (ForInStep.yield r)) Q E s
theorem bd3{scope:Scope}{x:Str}:aj8 X F scope x [] (λH=>true):=λA E s m C a t Q H H H h=>by rw[List.forIn_nil];exact cW4 (h s.toks)
theorem aj4{scope:Scope}{x:Str}{p:Pos}(c:aY7 F scope x):ak3 X F scope x (.Name x p) id:=λA E s m C a t Q H hn hm h=>
 db9 (cW9 (env:=CE F scope C) (show scope.kind= .function from c.kind) (lookup_relabel_local c.loc) hn hm (h t s.toks)) c.dbg
theorem N8{env:Env}:∀ {names:List (Str×NameKind)} {x:Str},names.lookup x=some .globalImplicit->
 (names.map λ(n,k)=>if(k==NameKind.free&&env.scope.kind== .function&&env.kindOf n==some .cell)then(n,NameKind.cell)else(n,k)).lookup x=some .globalImplicit
 |(n,k)::r,x,h=>by
  rw[List.map_cons]
  cases hx:x==n with
  |true=>
   rw[dc3,hx]at h
   cases h
   show List.lookup x ((n,NameKind.globalImplicit)::_)=_
   rw[dc3,hx]
  |false=>
   rw[dc3,hx]at h
   have ih:=N8 (env:=env) h
   dsimp only
   split<;>rw[dc3,hx]<;>exact ih
theorem bS6{scope:Scope}{x y:Str}{p q r:Pos}(c:aY7 F scope x)(hk:scope.names.lookup y=some .globalImplicit)(hg:nsIn X.K cW5 y=some none/\nsIn X.K cZ8 y=some (some (.builtin "abs")))(hd:(y== ("__debug__":Str))=false):ak3 X F scope x (.Call (.Name y q) [.Name x p] [] r) (λa=>if a < 0 then -a else a):=λA E s m C a t Q hi hn hm h=>
 Call_Name rfl (de0 (env:=CE F scope C) (show scope.kind= .function from c.kind) (N8 hk) (Calls.loadGlobal_builtin (J3 hi (X5 _)) (N3 hg.1) (J3 hi (aQ2 _)) (J4 hg.2) (callWith_builtin1 (aj4 c A E s m C a t _ hi hn hm λu tk=>call_abs_int h))) hd)
theorem cl1{scope:Scope}{x:Str}{p q r:Pos}{k:Int}{kk:Nat}(c:aY7 F scope x):aj8 X F scope x [.Compare (.Name x p) [.NotEq] [.Constant (.int k) kk q] r] (λa=>a != k):=λA E s m C a t Q hi hn hm h=>by
 rw[List.forIn_cons,if_pos rfl]
 refine cV4 (cV4 (wpAny_isTrue_Compare1 (aj4 c A E s m C a t _ hi hn hm λu tk=>wpAny_Constant_int (P.ne_int (df3 (cW4 ?_)))) rfl))
 exact cW4 (h _)
theorem cS9{φ:PM}{l:List Int}{g:Int->Int}:∀ {ys:List Value},CarriedAll ys (l.map λa=> .int (g a))->RVs X φ (l.map λa=> .int (g a)) ys:=by
 induction l with
 |nil=>intro ys h;cases h;exact .nil
 |cons a l ih=>intro ys h;cases h with|cons h hs=>cases h;exact .cons .int (ih hs)
theorem aK5{A:Around}{s:Shared}{e:Expr}{scope:Scope}{env:Env}{pos:Pos}{acc first:Sem Value}{use:Option (Value->Sem Unit)}{Q:Value->Shared->Prop}{E:Value->Shared->Prop}(h:d6 X.M A first (λv s₁=>wpAny X.M A (comprehension e scope env pos acc false (pure v) use) Q E s₁) E s):
 d6 X.M A (comprehension e scope env pos acc false first use) Q E s:=by
 have e1:comprehension e scope env pos acc false first use=first>>= λv=>comprehension e scope env pos acc false (pure v) use:=by unfold comprehension;rfl
 rw[e1]
 exact a0 (j4 h (λH H h=>i9 h) λH H x=>x)
set_option tactic.hygienic true in
theorem bk7(i:Nat){x y:Str}{px py:Pos}{elt iter:Expr}{ifs:List Expr}{scope:Scope}{pos spos:Pos}{g:Int->Int}{p:Int->Bool}{Q:Fl->St->Prop}(O:FOk F)(hy:F.nm[i]? =some y)(c:aY7 F scope x)
 (hsw:dd3 (.ListComp elt [⟨.Name x px,iter,ifs,0⟩] scope pos) (some (.Name y py)) spos.line F.env=pure true) (hs:∀x,foldedSetIterable iter F.env x=pure x) (he:ak3 X F scope x elt g) (ht:aj8 X F scope x ifs p)
 (h:Ev X F n iter st (λv st1=>∃l,v= .lst l/\n9 l=true/\l.length<=sizeLine/\Q .next {st1 with loc:=st1.loc.set i (.val (.lst (((i5 l).filter p).map λa=> .int (g a))))}) R):
 Ex X F n (.Assign [.Name y py] (.ListComp elt [⟨.Name x px,iter,ifs,0⟩] scope pos) spos) st Q R:=λA s φ ω Qr Er hA hI hQ hE=>by
 rw[exec_Assign_Name_used _ _ _ _ hsw]
 refine i6 (a0 ?_)
 show d6 _ A (do let _ ←comprehension (.ListComp elt [⟨.Name x px,iter,ifs,0⟩] scope pos) scope F.env _ (newList []) false (eval iter F.env) (some (assign (.Name y py) F.env))) _ _ s
 refine a0 (aK5 (h A s φ ω _ _ hA hI (λv st1 r s₁ φ1 ω₁ hq hI1 hl1 hv=> ?_) hE))
 obtain⟨l,rfl,hal,hlen,hq⟩:=hq
 refine hv.lstE λa vs k ha hv=> ?_
 have hlI:=v7 hI1.S ha
 have hlt:a < s₁.heap.objs.size:=cY9 (hI1.S.kφ _ _ ha)
 have hi:=(G0 hv hal).areOf
 have up:∀(s₃:Shared),(∀b o,b∉ [s₁.heap.objs.size]->(s₁.heap.push {cls:= .type "list_iterator",data:= .fields #[.ref a, .int 0 0]}).get? b=some o->s₃.heap.get? b=some o)->∀b o,s₁.heap.get? b=some o->s₃.heap.get? b=some o:=
  λs₃ hk b o e=>hk b o (λhm=>di0 _ (cW0.mp hm▸cY9 e)) (cV6 _ e)
 refine wpAny_comprehension_free (Q:=λH s'=>d6 X.M A (pure ()) (λH s'=>d6 X.M A (pure Flow.next) Qr Er s') Er s') (use:=some (assign (.Name y py) F.env)) rfl hs c.clos c.kind c.names (cW4 (wpAny_pyIter_list hlI ?_))
 refine comp_block_walkC (RR:=λacc C=>compPost X.M A Er (some (assign (.Name y py) F.env)) (λH s'=>d6 X.M A (pure ()) (λH s'=>d6 X.M A (pure Flow.next) Qr Er s') Er s') acc C) (Walks.list hA.handled _ a (da3 hlt) vs.toArray) (by rw[dd2,hv.len];exact hlen) (ItemKind.int.lift p) (λv y=>∃a,ItemKind.int.is a v/\Carried y (.int (g a))) c.cell c.kind c.loc ⟨⟨_,cX3 _ rfl,rfl,rfl⟩,hlI.push _⟩ ?_ ⟨?_, ?_⟩ ?_
 ·intro b hb
  show b < (s₁.heap.push _).objs.size
  rw[Heap.size_push]
  rcases cY1.mp hb with rfl|hb
  ·exact cZ9 _
  ·rw[cW0.mp hb];exact Nat.lt_succ_of_lt hlt
 ·intro C i v s₃ m₃ E' _ hP hn hm hk _
  obtain⟨b,hmem,t,rfl⟩:=hi.memD v (by simpa using Array.mem_of_getElem? hP)
  rw[ItemKind.lift_is (K:= .int) ⟨t,rfl⟩]
  exact ht A E' s₃ m₃ C b t _ (X.kin.keeps λb o e=>up s₃ hk _ _ (hI1.S.heap0 b o e)) hn hm λtk=>⟨rfl,s₃.heap,tk,rfl,λH H e=>e⟩
 ·intro C i v s₃ m₃ E' _ hP hp hn hm hk _
  obtain⟨b,hmem,t,rfl⟩:=hi.memD v (by simpa using Array.mem_of_getElem? hP)
  exact he A E' s₃ m₃ C b t _ (X.kin.keeps λb o e=>up s₃ hk _ _ (hI1.S.heap0 b o e)) hn hm λu tk=>⟨⟨b,⟨t,rfl⟩, .int _ _⟩,s₃.heap,tk,rfl,λH H e=>e⟩
 ·intro D C h' tk m' ys vs' hD hC hDC hnC hlD hplD hlen' hP hF hk
  have e:vs'=vs:=by simpa using list_of_places hlen' hP
  subst e
  have keep:=up {s₁ with heap:=h'} hk
  have hr:=cS9 (X:=X) (φ:=φ1) (hi.paired p (λa=> .int (g a)) _ hF)
  have no:∀b,(s₁.heap.push {cls:= .type "list_iterator",data:= .fields #[.ref a, .int 0 0]}).get? b=none->s₁.heap.get? b=none:=λb e=>by
   cases q:s₁.heap.get? b with
   |none=>rfl
   |some o=>rw[cV6 _ q]at e;exact nomatch e
  have out:∀b,s₁.heap.get? b=none->φ1 b=none/\F.ψ b=none/\ω₁ b=none:=λb e=>by
   refine⟨?_, ?_, ?_⟩
   ·cases q:φ1 b with|none=>rfl|some o=>rw[hI1.S.kφ _ _ q]at e;exact nomatch e
   ·cases q:F.ψ b with|none=>rfl|some o=>rw[hI1.S.kψ _ _ q]at e;exact nomatch e
   ·cases q:ω₁ b with|none=>rfl|some o=>rw[hI1.S.kω _ _ q]at e;exact nomatch e
  obtain⟨d1,d2,d3⟩:=out D (no D hD)
  obtain⟨c1,c2,c3⟩:=out C (no C hC)
  obtain⟨nD,hDo⟩:=hplD
  obtain⟨oC,esC,epC,hCo,hCr⟩:=id hnC
  have I1:=hI1.junk (s':= {s₁ with heap:=h',toks:=tk}) keep rfl rfl
  have le:φ1.le (φ1.set D (j0 ys.toList nD)):=λb x e=>by
   unfold PM.set
   rw[if_neg]
   ·exact e
   ·intro q;rw[q,d1]at e;exact nomatch e
  have sD:(φ1.set D (j0 ys.toList nD)) D=some (j0 ys.toList nD):=by unfold PM.set;rw[if_pos rfl]
  have nn:∀b,b≠D->(φ1.set D (j0 ys.toList nD)) b=φ1 b:=λb e=>by unfold PM.set;rw[if_neg e]
  have I2:=I1.more (φ':=φ1.set D (j0 ys.toList nD)) (s':= {s₁ with heap:=h',toks:=tk}) ⟨λb x e=>by
   by_cases q:b=D
   ·rw[q,sD]at e;cases e;rw[q];exact hDo
   ·rw[nn b q]at e;exact I1.S.kφ b x e,I1.S.kψ,I1.S.kω,λb hb=>by
   by_cases q:b=D
   ·rw[q];exact d2
   ·rw[nn b q]at hb;exact I1.S.d1 b hb,λb hb=>by
   by_cases q:b=D
   ·rw[q];exact d3
   ·rw[nn b q]at hb;exact I1.S.d2 b hb,I1.S.d3,λb x e=>le _ _ (I1.S.base b x e),I1.S.os,I1.S.gens⟩ le
  have I3:=I2.hold [C] λb hb=>by
   obtain rfl:=cW0.mp hb
   exact⟨(nn b (λe=>hDC e.symm)).trans c1,c3⟩
  rw[ao4 (s:= {s₁ with heap:=h',toks:=tk}) hCo]at I3
  refine wpAny_assign_Name (I3.store I3.S (PM.le.refl _) (O.with _) i hy (.val _) (RV.lst sD (hr.mono le)) λh4 ω4 I4=> ?_)
  have hψ:(F.ψ.or (E8 C oC)) C=some oC:=by
   show(F.ψ C).or _=_
   rw[c2];unfold E8 PM.set;rw[if_pos rfl];rfl
  have hψn:(F.ψ.or (E8 C oC)) C≠none:=by rw[hψ];nofun
  refine⟨_,⟨oC,esC,epC,I4.S.kψ _ _ hψ,hCr⟩,λh5 hs5=>b7 (b7 (hQ _ _ _ _ _ ω4 hq ?_ (hl1.trans le) rfl))⟩
  exact(I4.unhold hI1.out).wr (wr:=[C]) (λb hb=>by
   obtain rfl:=cW0.mp hb
   refine⟨?_,I4.S.d3 _ hψn,c2⟩
   exact(nn b (λe=>hDC e.symm)).trans c1) λb o hb e=>(hs5.2 b (λe=>hb (e▸cW0.mpr rfl))).trans e
end
section
variable {X:Cx} {F:Frm} {n:Nat} {st:St} {R:List UInt8->Prop}
theorem Inv.less{φ ω ψ ψ':PM}{s:Shared}(I:Inv X (F.with ψ) φ ω st s)(h:ψ'.le ψ)(out:Outer X ψ' F.outer):Inv X (F.with ψ') φ ω st s:=by
 have no:∀a,ψ a=none->ψ' a=none:=λa e=>by
  cases q:ψ' a with
  |none=>rfl
  |some o=>rw[h _ _ q]at e;cases e
 exact⟨⟨I.S.kφ,λa o e=>I.S.kψ a o (h _ _ e),I.S.kω,λa e=>no a (I.S.d1 a e),I.S.d2,λa e=>I.S.d3 a (λq=>e (no a q)),I.S.base,I.S.os,I.S.gens⟩,I.ex,out,I.new⟩
theorem Inv.storeOwn{φ ω κ κ':PM}{s:Shared}{a:Addr}(I:Inv X (F.with (F.ψ.or κ)) φ ω st s)(ha:κ a=some (j0 [] 0))(h0:F.ψ a=none)(hle:κ'.le κ)(hna:κ' a=none)(out:Outer X F.ψ F.outer)(O:FOk F)(i:Nat){x:Str}(hx:F.nm[i]? =some x)
 {A:Around} {Q:Unit->Shared->Prop} {E:Value->Shared->Prop} (h:∀h' ω',Inv X (F.with (F.ψ.or κ')) φ ω' {st with loc:=st.loc.set i (.own a [])} {s with heap:=h',toks:=s.toks+1}->Q () {s with heap:=h',toks:=s.toks+1}):
 wpAny X.M A (storeName F.env x (.ref a)) Q E s:=by
 have ea:(F.ψ.or κ) a=some (j0 [] 0):=by show(F.ψ a).or (κ a)=_;rw[h0,ha];rfl
 have en:(F.ψ.or κ') a=none:=by show(F.ψ a).or (κ' a)=_;rw[h0,hna];rfl
 have ne:(F.ψ.or κ) a≠none:=by rw[ea];nofun
 have hφ:φ a=none:=by
  cases q:φ a with
  |none=>rfl
  |some o=>exact absurd (I.S.d1 a (by rw[q];nofun)) ne
 have hω:ω a=none:=I.S.d3 a ne
 have le:(F.ψ.or κ').le (F.ψ.or κ):=λb o e=>by
  have e:(F.ψ b).or (κ' b)=some o:=e
  show(F.ψ b).or (κ b)=_
  cases q:F.ψ b with
  |some y=>rw[q]at e;exact e
  |none=>rw[q]at e;exact hle _ _ e
 have I':=I.less le (out.mono (PM.le_or _ _))
 have sa:(ω.set a (j0 [] 0)) a=some (j0 [] 0):=by unfold PM.set;rw[if_pos rfl]
 have nn:∀b,b≠a->(ω.set a (j0 [] 0)) b=ω b:=λb e=>by unfold PM.set;rw[if_neg e]
 refine I'.store (ω:=ω.set a (j0 [] 0)) ⟨I'.S.kφ,I'.S.kψ,λb o e=> ?_,I'.S.d1,λb e=> ?_,λb e=> ?_,I'.S.base,I'.S.os,I'.S.gens⟩ (λb o e=> ?_) (O.with _) i hx (.own a []) ⟨rfl,hω,[],0,sa, .nil⟩ h
 ·by_cases q:b=a
  ·rw[q]at e⊢;rw[sa]at e;cases e;exact I.S.kψ _ _ ea
  ·rw[nn b q]at e;exact I'.S.kω b o e
 ·rw[nn b (λq=>e (q▸hφ))];exact I'.S.d2 b e
 ·rw[nn b (λq=>e (q▸en))];exact I'.S.d3 b e
 ·rw[nn b (λq=>by rw[q,hω]at e;cases e)];exact e
theorem aC8{s:Shared}{wr:List Addr}{a:Addr}{o:Obj}(hm:a∈wr)(h:s.heap.get? a=some o):C3 s wr a=some o:=by unfold C3;rw[if_pos hm,h]
theorem bP5(i j k l:Nat){elts kk tpos pe pos kv}{b:List UInt8}{c:Int}{k1 k2:Nat}{p1 p2 p3 p4:Pos}{Q:Fl->St->Prop}(O:FOk F)(T:Tg X F ((dg2 elts F.env).map (·.2)) [i,j,k,l])(hstar:(dg2 elts F.env).findIdx? (·.1)=none)
 (h:∀d e,Q .next {st with loc:=(((st.loc.set i (.val (.bytes b))).set j (.own d [])).set k (.own e [])).set l (.val (.int c))})
 (hs:df9 [.Tuple elts kk tpos] (.Tuple [.Constant (.bytes b) k1 p1, .List [] p2, .List [] p3, .Constant (.int c) k2 p4] kv pe) pos.line F.env=pure false) (hw:cX1 [.Tuple elts kk tpos] (.Tuple [.Constant (.bytes b) k1 p1, .List [] p2, .List [] p3, .Constant (.int c) k2 p4] kv pe) F.env=pure none):
 Ex X F n (.Assign [.Tuple elts kk tpos] (.Tuple [.Constant (.bytes b) k1 p1, .List [] p2, .List [] p3, .Constant (.int c) k2 p4] kv pe) pos) st Q R:=λA s φ ω Qr Er hA hI hQ hE=>by
 refine M2 (F3 (d9 (i9 (Constant_bytes (d9 (D8 (i9 <| cZ1 ⟨sz (by decide),d9 (D8 (i9 <| cZ1 ⟨sz (by decide),d9 (i9 (wpAny_Constant_int (i9 <| cZ1 ⟨sz (show 4<=16777216 by decide), ?_⟩))) rfl⟩)) rfl⟩)) rfl))) rfl)) hs hw
 have g1:=cX3 s.heap (o:=j0 [] 0) rfl
 have g2:=cX3 (s.heap.push (j0 [] 0)) (o:=j0 [] 0) rfl
 have z1:(s.heap.push (j0 [] 0)).objs.size=s.heap.objs.size+1:=Heap.size_push ..
 have I1:=hI.junk (s':= {s with heap:=(s.heap.push (j0 [] 0)).push (j0 [] 0),toks:=s.toks+1+1}) (λa o e=>cV6 _ (cV6 _ e)) rfl rfl
 have P:=I1.push (z9 [.bytes b.toArray s.toks, .ref s.heap.objs.size, .ref (s.heap.push (j0 [] 0)).objs.size, .int c (s.toks+1)]) (s.toks+1+1)
 have hlen:(dg2 elts F.env).length=4:=by
  have:∀ {ts is},Tg X F ts is->ts.length=is.length:=λT=>by induction T with|nil=>rfl|cons _ _ _ ih=>simp[ih]
  simpa using this T
 refine wpAny_assign_Tuple hA.handled (G2 P.1.S P.2.2) (by rw[hlen];rfl) hstar λh' he=> ?_
 have I2:=P.1.extBut he (t:=s.toks+1+1)
 generalize hT:(dg2 elts F.env).map (·.2)=ts at T⊢
 cases T with|cons x0 t0 T=>
 cases T with|cons x1 t1 T=>
 cases T with|cons x2 t2 T=>
 cases T with|cons x3 t3 T=>
 cases T
 obtain⟨f1,f2,f3⟩:=hI.S.fresh
 obtain⟨e1,e2,e3⟩:=(hI.junk (s':= {s with heap:=s.heap.push (j0 [] 0)}) (λa o e=>cV6 _ e) rfl rfl).S.fresh
 have lt2:(s.heap.push (j0 [] 0)).objs.size < ((s.heap.push (j0 [] 0)).push (j0 [] 0)).objs.size:=cY9 g2
 have nt:∀b,b < ((s.heap.push (j0 [] 0)).push (j0 [] 0)).objs.size->∀o:Obj,(φ.set ((s.heap.push (j0 [] 0)).push (j0 [] 0)).objs.size o) b=φ b:=λb hb o=>by unfold PM.set;rw[if_neg (da3 hb)]
 have lt1:s.heap.objs.size < ((s.heap.push (j0 [] 0)).push (j0 [] 0)).objs.size:=dh6 (by rw[z1];exact cZ9 _) lt2
 have k1:h'.get? s.heap.objs.size=some (j0 [] 0):=he _ _ (da3 (dh6 lt1 (cY9 (cX3 _ rfl)))) (cV6 _ (cV6 _ g1))
 have k2:h'.get? (s.heap.push (j0 [] 0)).objs.size=some (j0 [] 0):=he _ _ (da3 (dh6 lt2 (cY9 (cX3 _ rfl)))) (cV6 _ g2)
 have I3:=I2.hold [s.heap.objs.size,(s.heap.push (j0 [] 0)).objs.size] λa ha=>by
  rcases cY1.mp ha with rfl|ha
  ·exact⟨(nt _ lt1 _).trans f1,f3⟩
  ·rw[cW0.mp ha];exact⟨(nt _ lt2 _).trans e1,e3⟩
 have q2:∀t,C3 {s with heap:=h',toks:=t} [(s.heap.push (j0 [] 0)).objs.size] (s.heap.push (j0 [] 0)).objs.size=some (j0 [] 0):=λt=>aC8 (cW0.mpr rfl) k2
 refine cV4 (da9 (t0 _ _ _ _ _ (I3.store I3.S (PM.le.refl _) (O.with _) i x0 (.val (.bytes b)) .bytes λh3 ω3 I4=> ?_)))
 refine cV4 (da9 (t1 _ _ _ _ _ (Inv.storeOwn (F:=F) (κ':=C3 {s with heap:=h',toks:=s.toks+1+1} [(s.heap.push (j0 [] 0)).objs.size]) I4 (aC8 (cX5 ..) k1) f2 (λa o e=> ?_) ?_ hI.out O j x1 λh4 ω4 I5=> ?_)))
 ·unfold C3 at e⊢
  by_cases hm:a∈ [(s.heap.push (j0 [] 0)).objs.size]
  ·rw[if_pos hm]at e;rw[if_pos (cZ2 _ hm)];exact e
  ·rw[if_neg hm]at e;cases e
 ·unfold C3
  rw[if_neg (λhm=>by rw[cW0,z1]at hm;exact absurd hm (da3 (cZ9 _)))]
 refine cV4 (da9 (t2 _ _ _ _ _ (Inv.storeOwn (F:=F) (κ':=PM.emp) I5 (q2 _) e2 (λa o e=>by cases e) rfl hI.out O k x2 λh5 ω5 I6=> ?_)))
 refine cV4 (da9 (t3 _ _ _ _ _ ((I6.unhold hI.out).store (I6.unhold hI.out).S (PM.le.refl _) O l x3 (.val (.int c)) .int λh6 ω6 I7=>cW4 ?_)))
 exact hQ _ _ _ _ _ ω6 (h _ _) I7 P.2.1 rfl
end
end Mine
set_option genCtorIdx false
namespace Mine
inductive Sn
 |int (i:Int)|loc (i:Nat)|add (a b:Sn)|sub (a b:Sn)|len
inductive Nd
 |nil|cons (a b:Nd)|no
 |non|boo (b:Bool)|int (i:Int)|byt (l:Bs)|loc (i:Nat)|gi (k:Nat)
 |bin (o:Operator) (a b:Nd)|neg (a:Nd)|cmp (o:CmpOp) (a b:Nd)|chn (o o':CmpOp) (a b c:Nd)|and (a b:Nd)|or (a b:Nd)|ife (t a b:Nd)
 |sub (a b:Nd)|slc (a lo hi:Nd)|tup (l:Nd)|lst (l:Nd)|fld (i j:Nat)|rf (k:Nat) (a:Nd)
 |call (k:Nat) (l:Nd)|meth (i k:Nat) (l:Nd)|bi (b:Nat) (l:Nd)|tyb (l:Nd)
 |lenb|bytb|bytc (lo hi:Option Sn)|bapp (a:Sn)|app (j:Nat) (a:Nd)
 |vm (k:Nat) (a b:Nd)|neq (a b:Nd)|eql (a b:Nd)
 |dget (t:List (Int×Bs)) (i:Nat)|gv (k:Nat)|isi (k:Nat) (a:Nd)|rev (j:Nat)
 |tnot (t:Nd)|tall (l:Nd)|tany (l:Nd)
inductive Ns
 |nil|cons (a b:Ns)|frz (j:Nat) (l:Ns)
 |ex (d:Nd)|asg (i:Nat) (d:Nd)|asf (i j:Nat) (d:Nd)|asbn|asbc (lo hi:Option Sn)|as2 (is:List Nat) (l:Nd)|unp (is:List Nat) (d:Nd)
 |aug (i:Nat) (o:Operator) (d:Nd)|auf (i j:Nat) (o:Operator) (d:Nd)|ite (t:Nd) (a b:Ns)|whl (t:Nd) (b:Ns)|for (i:Nat) (d:Nd) (b:Ns)
 |ret (d:Nd)|ret0|brk|pass|rse (d:Nd)|anil (i:Nat)|as2o (i:Nat) (d:Nd) (j:Nat)
 |alst (i:Nat) (l:Nd)|as4 (i j k l:Nat) (b:Bs) (c:Int)|cabs (i:Nat) (d:Nd)|cfil (i:Nat) (d:Nd) (k:Int)
 |asn (j:Nat) (d:Nd)|asnb (j:Nat)|new (i:Nat) (l:Nd) (r:Ns)|newo (i:Nat) (l:Nd) (j:Nat) (r:Ns)|fore (i j:Nat) (d:Nd) (b:Ns)|forr (i:Nat) (d:Nd) (b:Ns)
noncomputable def giT:List (String×Int):=[("END_OF_TEXT", -1),("FIRST_RESERVED",257),("TK_AND",257),("TK_CONCAT",278),("TK_DOTS",279),("TK_EQ",280),("TK_GE",281),("TK_LE",282),("TK_NE",283),("TK_NUMBER",284),("TK_NAME",285),("TK_STRING",286),("TK_EOS",287),("SOURCE_SIZE",80),("MOST_LINES",2147483645),("NEWLINE",10),("RETURN",13),("QUOTE_DOUBLE",34),("QUOTE_SINGLE",39),("PLUS",43),("MINUS",45),("DOT",46),("LESS",60),("EQUALS",61),("GREATER",62),("BRACKET_OPEN",91),("BACKSLASH",92),("BRACKET_CLOSE",93),("UNDERSCORE",95),("TILDE",126)]
noncomputable def gfT:List (String×Nat):=[("is_number",96),("wrap",103),("is_blank_values",110),("digit_of",117),("read_digits",124),("skip_blanks",131),("str_to_number",138),("text_in_base",145),("number_text",152),("to_text",159),("c_text",166),("first_line",173),("chunk_id",180),("is_digit",189),("is_letter",196),("is_name_sign",203),("is_blank_lexer",210),("is_control",217),("is_newline",224),("escaped_sign",231),("reserved_kinds",238),("token_text",245),("Token",262),("Limits",53),("all_tokens",476),("_law_words",483),("_law_gaps",490),("_law_bad",497),("_law_signs",504),("_law_octets",511),("_law_quoted",518),("_law_long",523),("_law_digits",530),("_law_token",537),("_law_refused",544)]
noncomputable def mtT:List (String×Nat):=[("next",287),("lookahead",294),("error",301),("syntax_error",308),("near_text",315),("move",322),("keep",329),("keep_and_move",336),("keep_if",343),("clear",350),("end_line",357),("read",364),("skip_blank",371),("sign_behind",378),("skip_comment",385),("read_compared",392),("read_dots",399),("read_word",406),("read_numeral",413),("read_bracket",420),("read_level",427),("read_long",434),("read_inner",441),("read_string",448),("read_escape",455),("read_digits",462)]
noncomputable def rtT:List (Nat×Nat×String):=[(262,0,"kind"),(262,1,"value"),(53,0,"width"),(53,9,"text")]
theorem cO9(P:Params):(giT.all λp=>an5 (KP P) (cV1 p.1) p.2)=true:=by kernel_rfl
theorem cM3(P:Params):(gfT.all λp=>eqR (nsIn (KP P) cW5 (cV1 p.1)) p.2&&keepIn (KP P) (.ref p.2))=true:=by kernel_rfl
end Mine
set_option genCtorIdx true
namespace Mine
section
variable (X:Cx) (n:Nat) (R:Bs->Prop)
noncomputable def N5(v:V)(K:Int->Prop):Prop:=match v with| .int a=>K a|_=>False
noncomputable def at3(v:V)(K:Bs->Prop):Prop:=match v with| .bytes a=>K a|_=>False
noncomputable def am8(v:V)(K:List V->Prop):Prop:=match v with| .lst a=>K a|_=>False
noncomputable def bQ9(v:V)(K:List V->Prop):Prop:=match v with| .tup a=>K a|_=>False
noncomputable def cv7(v:V)(K:List (Bs×Int)->Prop):Prop:=match v with| .dic a=>K a|_=>False
noncomputable def neV(v w:V):Option Bool:=match v with
 | .tup l=>(match w with| .tup k=>(S7 l k).map λbs=>bs.all id|_=>none)
 | .str a=>(match w with| .str b=>some (a==b)|_=>none)
 |v=>eqV v w
noncomputable def eqL(v w:V):Option Bool:=match v with
 | .lst l=>(match w with| .lst k=>if l.length != k.length then some false else(S7 l k).map λbs=>bs.all id|_=>none)
 |_=>none
noncomputable def vmW(k:Nat)(v:V)(C:(V->(V->Prop)->Prop)->Prop):Prop:=match k with
 |0=>at3 v λb=>C λw K=>at3 w λc=>c.length<=b.length/\K (.int (H4 b c))
 |1=>cv7 v λl=>C λw K=>at3 w λc=>K (C5 (l.lookup c))
 |_=>False
noncomputable def cQ3(v w:V)(K:V->Prop):Prop:=match v with
 | .int a=>N5 w λb=>K (.int (a+b))
 | .bytes a=>at3 w λb=>a.length+b.length<=16777216/\K (.bytes (a++b))
 | .lst a=>am8 w λb=>a.length+b.length<=16777216/\K (.lst (a++b))
 |_=>False
noncomputable def D4(v w:V)(K:Int->Int->Prop):Prop:=N5 v λa=>N5 w λb=>K a b
noncomputable def cF5(o:Operator)(v w:V)(K:V->Prop):Prop:=match o with
 | .Add=>cQ3 v w K
 | .Sub=>D4 v w λa b=>K (.int (a - b))
 | .Mult=>D4 v w λa b=>IntMulOk a b/\K (.int (a * b))
 | .FloorDiv=>D4 v w λa b=>(b≠0/\b.natAbs < 1073741824)/\K (.int (a.fdiv b))
 | .Mod=>D4 v w λa b=>b≠0/\K (.int (a.fmod b))
 | .BitAnd=>D4 v w λa b=>K (.int (dg8 a b))
 | .LShift=>D4 v w λa b=>(0<=b/\b<=1000000/\a.natAbs < 2 ^ 64)/\K (.int (a * 2 ^ b.toNat))
 | .Pow=>D4 v w λa b=>(0<=b/\(Builtin.Int.intBits a:Int) * b<=2 ^ 27)/\K (.int (a ^ b.toNat))
 |_=>False
noncomputable def eqW(v w:V)(K:Bool->Prop):Prop:=match v with
 | .int a=>N5 w λb=>K (a==b)
 | .bytes a=>at3 w λb=>K (a==b)
 |_=>False
noncomputable def inW(v w:V)(K:Bool->Prop):Prop:=N5 v λa=>match w with
 | .bytes l=>(0<=a/\a < 256)/\K (l.contains a.toNat.toUInt8)
 | .tup l=>n9 l=true/\K ((i5 l).contains a)
 | .lst l=>n9 l=true/\K ((i5 l).contains a)
 |_=>False
noncomputable def isW(v w:V)(K:Bool->Prop):Prop:=match w with
 | .none=>K (isNone v)
 |_=>False
noncomputable def ci0(v w:V)(K:Bool->Prop):Prop:=N5 v λa=>bQ9 w λl=>n9 l=true/\K (!(i5 l).contains a)
noncomputable def av8(o:CmpOp)(v w:V)(K:Bool->Prop):Prop:=match o with
 | .Eq=>eqW v w K
 | .NotEq=>eqW v w λb=>K (!b)
 | .Lt=>D4 v w λa b=>K (decide (a < b))
 | .LtE=>D4 v w λa b=>K (decide (a<=b))
 | .Gt=>D4 v w λa b=>K (decide (a> b))
 | .GtE=>D4 v w λa b=>K (decide (a≥ b))
 | .Is=>isW v w K
 | .IsNot=>isW v w λb=>K (!b)
 | .In=>inW v w K
 | .NotIn=>ci0 v w K
noncomputable def aU6(v:V)(K:Bool->Prop):Prop:=match v with
 | .bool b=>K b
 | .int a=>K (a != 0)
 |_=>False
noncomputable def cD5(v w:V)(K:V->Prop):Prop:=N5 w λi=>match v with
 | .bytes l=>(l.length<=16777216/\0<=i/\i < l.length)/\K (.int (l.getD i.toNat 0).toNat)
 | .tup l=>(0<=i/\i < 2 ^ 63)/\∃v,l[i.toNat]? =some v/\K v
 | .lst l=>(0<=i/\i < 2 ^ 63)/\∃v,l[i.toNat]? =some v/\K v
 |_=>False
noncomputable def cE5(v:V)(lo hi:Option Int)(K:V->Prop):Prop:=match v with
 | .bytes l=>l.length<=16777216/\K (.bytes (F2 l lo hi))
 | .lst l=>l.length<=16777216/\K (.lst (F2 l lo hi))
 |_=>False
noncomputable def ct4(v:V)(K:V->Prop):Prop:=match v with
 | .bytes l=>l.length<=16777216/\K (.int l.length)
 | .lst l=>l.length<=16777216/\K (.int l.length)
 |_=>False
noncomputable def aH7(vs:List V)(K:V->Prop):Prop:=match vs with| [v]=>K v|_=>False
noncomputable def cB6(vs:List V)(K:V->V->Prop):Prop:=match vs with| [v,w]=>K v w|_=>False
noncomputable def biW(b:Nat)(vs:List V)(K:V->Prop):Prop:=match b with
 |0=>aH7 vs λv=>ct4 v K
 |1=>aH7 vs λv=>N5 v λi=>K (.int (if i < 0 then -i else i))
 |2=>cB6 vs λv w=>D4 v w λa b=>K (.int (if b> a then b else a))
 |3=>aH7 vs λv=>am8 v λl=>n9 l=true/\K (.int (cn8 (i5 l)))
 |4=>aH7 vs λv=>X3 v=true/\K (.str (cj8 v))
 |_=>False
noncomputable def cy2(vs:List V)(K:V->Prop):Prop:=aH7 vs λv=>am8 v λl=>(n9 l=true/\(∀i∈i5 l,0<=i/\i < 256)/\l.length<=16777216)/\K (.bytes (byt (i5 l)))
noncomputable def aJ3(st:St)(i:Nat)(K:V->Prop):Prop:=match st.loc[i]? with
 |some (.val v)=>K v
 |_=>False
noncomputable def meW(st:St)(i:Nat)(K:List (String×Fv)->Prop):Prop:=match st.loc[i]? with
 |some .me=>(match st.me with|some fs=>K fs|none=>False)
 |_=>False
noncomputable def bT3(st:St)(i j:Nat)(K:V->Prop):Prop:=meW st i λfs=>match(fs[j]? :Option (String×Fv))with
 |some (_,Fv.val v)=>K v
 |_=>False
noncomputable def ax7(st:St)(K:Bs->Prop):Prop:=meW st 0 λfs=>match(fs[9]? :Option (String×Fv))with
 |some (_,Fv.buf l)=>K l
 |_=>False
noncomputable def r7(m:Option (List (String×Fv))):Prop:=∀fs,m=some fs->fs.map (·.1)=fn465.take fs.length
noncomputable def H8{α:Type}(o:Option α)(K:α->Prop):Prop:=match o with|some a=>K a|none=>False
noncomputable def aG2(st:St)(j:Nat)(K:Addr->List V->Prop):Prop:=match st.loc[j]? with
 |some (.own a l)=>K a l
 |_=>False
noncomputable def bV9(v:V)(K:Nat->List (String×V)->Prop):Prop:=match v with| .rcd C fs=>K C fs|_=>False
noncomputable def rfW(k:Nat)(v:V)(K:V->Prop):Prop:=H8 rtT[k]? λt=>bV9 v λC' fs=>C'=t.1/\H8 fs[t.2.1]? λp=>p.1=t.2.2/\K p.2
noncomputable def bG2(k:Nat)(vs:List V)(Q:V->Prop):Prop:=H8 gfT[k]? λt=>Cs X n (.ref t.2) 0 vs none (λv H=>Q v) R
noncomputable def bF2(i k:Nat)(vs:List V)(st:St)(Q:V->St->Prop):Prop:=H8 mtT[k]? λt=>meW st i λfs=>Cs X n (.ref t.2) 465 vs (some fs) (λv me'=>r7 me'/\Q v {st with me:=me'}) R
noncomputable def pD(st:St):Sn->(Int->Prop)->Prop
 | .int i,K=>K i
 | .loc i,K=>aJ3 st i λv=>N5 v K
 | .add a b,K=>pD st a λx=>pD st b λy=>K (x+y)
 | .sub a b,K=>pD st a λx=>pD st b λy=>K (x - y)
 | .len,K=>ax7 st λl=>l.length<=16777216/\K l.length
noncomputable def pO(st:St)(o:Option Sn)(K:Option Int->Prop):Prop:=match o with
 |none=>K none
 |some d=>pD st d λi=>K (some i)
mutual
noncomputable def x9:Nd->St->(V->St->Prop)->Prop
 | .non,st,Q=>Q .none st
 | .boo b,st,Q=>Q (.bool b) st
 | .int i,st,Q=>Q (.int i) st
 | .byt l,st,Q=>Q (.bytes l) st
 | .loc i,st,Q=>aJ3 st i λv=>Q v st
 | .gi k,st,Q=>H8 giT[k]? λt=>Q (.int t.2) st
 | .bin o a b,st,Q=>x9 a st λv st=>x9 b st λw st=>cF5 o v w λr=>Q r st
 | .neg a,st,Q=>x9 a st λv st=>N5 v λi=>Q (.int (-i)) st
 | .cmp o a b,st,Q=>x9 a st λv st=>x9 b st λw st=>av8 o v w λr=>Q (.bool r) st
 | .chn o o' a b c,st,Q=>x9 a st λv st=>x9 b st λw st=>av8 o v w λr=>(r=false->Q (.bool false) st)/\(r=true->x9 c st λu st=>av8 o' w u λr'=>Q (.bool r') st)
 | .and a b,st,Q=>x9 a st λv st=>aU6 v λt=>(t=true->x9 b st Q)/\(t=false->Q v st)
 | .or a b,st,Q=>x9 a st λv st=>aU6 v λt=>(t=true->Q v st)/\(t=false->x9 b st Q)
 | .ife t a b,st,Q=>evT t st λc st=>(c=true->x9 a st Q)/\(c=false->x9 b st Q)
 | .sub a b,st,Q=>x9 a st λv st=>x9 b st λw st=>cD5 v w λr=>Q r st
 | .slc a lo hi,st,Q=>x9 a st λv st=>evO lo st λi st=>evO hi st λj st=>cE5 v i j λr=>Q r st
 | .tup l,st,Q=>evL l st λvs st=>vs.length<=16777216/\Q (.tup vs) st
 | .lst l,st,Q=>evL l st λvs st=>vs.length<=16777216/\Q (.lst vs) st
 | .fld i j,st,Q=>bT3 st i j λv=>Q v st
 | .rf k a,st,Q=>x9 a st λv st=>rfW k v λr=>Q r st
 | .call k l,st,Q=>evL l st λvs st=>bG2 X n R k vs λv=>Q v st
 | .meth i k l,st,Q=>meW st i λH=>evL l st λvs st=>bF2 X n R i k vs st Q
 | .bi b l,st,Q=>evL l st λvs st=>biW b vs λr=>Q r st
 | .tyb l,st,Q=>evL l st λvs st=>cy2 vs λr=>Q r st
 | .lenb,st,Q=>ax7 st λl=>l.length<=16777216/\Q (.int l.length) st
 | .bytb,st,Q=>ax7 st λl=>l.length<=16777216/\Q (.bytes l) st
 | .bytc lo hi,st,Q=>ax7 st λl=>l.length<=16777216/\pO st lo λi=>pO st hi λj=>Q (.bytes (F2 l i j)) st
 | .bapp a,st,Q=>meW st 0 λfs=>ax7 st λl=>pD st a λc=>(0<=c/\c < 256/\l.length < 16777216/\(fs.eraseIdx 9).all (λp=>ar3 p.2)=true)/\Q .none {st with me:=some (fs.set 9 ("buffer", .buf (l++[c.toNat.toUInt8])))}
 | .app j a,st,Q=>aG2 st j λad H=>x9 a st λv st=>aG2 st j λad' l=>ad'=ad/\l.length<=16777216/\Q .none {st with loc:=st.loc.set j (.own ad (l++[v]))}
 | .tnot a,st,Q=>x9 a st λv st=>aU6 v λt=>Q (.bool (!t)) st
 | .vm k a b,st,Q=>x9 a st λv st=>vmW k v λf=>x9 b st λw st=>f w λr=>Q r st
 | .neq a b,st,Q=>x9 a st λv st=>x9 b st λw st=>H8 (neV v w) λb=>Q (.bool (!b)) st
 | .eql a b,st,Q=>x9 a st λv st=>x9 b st λw st=>H8 (eqL v w) λb=>Q (.bool b) st
 | .dget t i,st,Q=>aJ3 st i λv=>N5 v λk=>Q (O7 (aG8 t (λH=>none) k)) st
 | .gv k,st,Q=>H8 gvT[k]? λt=>Q t.2 st
 | .isi k a,st,Q=>x9 a st λv st=>N5 v λH=>Q (.bool (k==1)) st
 | .rev j,st,Q=>aG2 st j λad l=>l.length<=16777216/\Q .none {st with loc:=st.loc.set j (.own ad l.reverse)}
 |_,_,_=>False
noncomputable def evL:Nd->St->(List V->St->Prop)->Prop
 | .nil,st,Q=>Q [] st
 | .cons a b,st,Q=>x9 a st λv st=>evL b st λvs st=>Q (v::vs) st
 |_,_,_=>False
noncomputable def evO:Nd->St->(Option Int->St->Prop)->Prop
 | .no,st,Q=>Q none st
 | .cons d _,st,Q=>x9 d st λv st=>N5 v λi=>Q (some i) st
 |_,_,_=>False
noncomputable def evT:Nd->St->(Bool->St->Prop)->Prop
 | .cmp o a b,st,Q=>x9 a st λv st=>x9 b st λw st=>av8 o v w λr=>Q r st
 | .chn o o' a b c,st,Q=>x9 a st λv st=>x9 b st λw st=>av8 o v w λr=>(r=false->Q false st)/\(r=true->x9 c st λu st=>av8 o' w u λr'=>Q r' st)
 | .tnot t,st,Q=>evT t st λb st=>Q (!b) st
 | .neq a b,st,Q=>x9 a st λv st=>x9 b st λw st=>H8 (neV v w) λb=>Q (!b) st
 | .eql a b,st,Q=>x9 a st λv st=>x9 b st λw st=>H8 (eqL v w) λb=>Q b st
 | .tall l,st,Q=>evA l st Q
 | .tany l,st,Q=>evN l st Q
 | .cons d _,st,Q=>x9 d st λv st=>aU6 v λt=>Q t st
 |_,_,_=>False
noncomputable def evA:Nd->St->(Bool->St->Prop)->Prop
 | .nil,st,Q=>Q true st
 | .cons a b,st,Q=>evT a st λc st=>(c=true->evA b st Q)/\(c=false->Q false st)
 |_,_,_=>False
noncomputable def evN:Nd->St->(Bool->St->Prop)->Prop
 | .nil,st,Q=>Q false st
 | .cons a b,st,Q=>evT a st λc st=>(c=true->Q true st)/\(c=false->evN b st Q)
 |_,_,_=>False
end
end
section
section
variable (X:Cx) (n:Nat) (R:Bs->Prop)
noncomputable def itW(v:V)(items:List V):Prop:=match v with
 | .lst l=>items=l
 | .bytes l=>items=l.map λc=>V.int c.toNat
 |_=>False
noncomputable def aJ0(st:St)(i j:Nat)(f:Fv)(K:St->Prop):Prop:=meW st i λfs=>match(fs[j]? :Option (String×Fv))with
 |some (x,_)=>K {st with me:=some (fs.set j (x,f))}
 |none=>False
mutual
noncomputable def exS:Ns->St->(Fl->St->Prop)->Prop
 | .ex d,st,Q=>x9 X n R d st λH st=>Q .next st
 | .asg i d,st,Q=>x9 X n R d st λv st=>Q .next {st with loc:=st.loc.set i (.val v)}
 | .asf i j d,st,Q=>x9 X n R d st λv st=>aJ0 st i j (.val v) λst=>Q .next st
 | .asbn,st,Q=>aJ0 st 0 9 (.buf []) λst=>Q .next st
 | .asbc lo hi,st,Q=>ax7 st λl=>l.length<=16777216/\pO st lo λi=>pO st hi λj=>aJ0 st 0 9 (.buf (F2 l i j)) λst=>Q .next st
 | .as2 is l,st,Q=>evL X n R l st λvs st=>vs.length=is.length/\Q .next (A4 st (is.zip vs.reverse))
 | .unp is d,st,Q=>x9 X n R d st λv st=>bQ9 v λvs=>vs.length=is.length/\Q .next (A4 st (is.zip vs))
 | .aug i _ d,st,Q=>aJ3 st i λv₀=>x9 X n R d st λv st=>D4 v₀ v λa b=>Q .next {st with loc:=st.loc.set i (.val (.int (a+b)))}
 | .auf i j _ d,st,Q=>bT3 st i j λv₀=>x9 X n R d st λv st=>D4 v₀ v λa b=>aJ0 st i j (.val (.int (a+b))) λst=>Q .next st
 | .ite t a b,st,Q=>evT X n R t st λc st=>(c=true->A6 a st Q)/\(c=false->A6 b st Q)
 | .whl t b,st,Q=>∃(J:Nat->St->Prop) (k:Nat),J k st/\∀k st,J k st->evT X n R t st λc st=>(c=true->A6 b st (aq3 J k Q))/\(c=false->Q .next st)
 | .for i d b,st,Q=>x9 X n R d st λv st=>∃(items:List V) (J:Nat->St->Prop),itW v items/\J 0 st/\(∀k w st,items[k]? =some w->J k st->A6 b {st with loc:=st.loc.set i (.val w)} (F6 J k Q))/\(∀st,J items.length st->Q .next st)
 | .ret d,st,Q=>x9 X n R d st λv st=>Q (.ret v) st
 | .ret0,st,Q=>Q (.ret .none) st
 | .brk,st,Q=>Q .brk st
 | .pass,st,Q=>Q .next st
 | .rse d,st,Q=>x9 X n R d st λv H=>at3 v R
 | .as2o i d j,st,Q=>x9 X n R d st λv st=>∀a,Q .next {st with loc:=(st.loc.set j (.own a [])).set i (.val v)}
 | .asn j d,st,Q=>x9 X n R d st λv st=>meW st 0 λfs=>fs.length=j/\H8 fn465[j]? λx=>Q .next {st with me:=some (fs++[(x, .val v)])}
 | .asnb j,st,Q=>meW st 0 λfs=>fs.length=j/\H8 fn465[j]? λx=>Q .next {st with me:=some (fs++[(x, .buf [])])}
 | .alst i l,st,Q=>evL X n R l st λvs st=>vs.length<=16777216/\∀a,Q .next {st with loc:=st.loc.set i (.own a vs)}
 | .as4 i j k l b c,st,Q=>∀d e,Q .next {st with loc:=(((st.loc.set i (.val (.bytes b))).set j (.own d [])).set k (.own e [])).set l (.val (.int c))}
 | .cabs i d,st,Q=>x9 X n R d st λv st=>am8 v λl=>n9 l=true/\l.length<=16777216/\Q .next {st with loc:=st.loc.set i (.val (.lst (((i5 l).filter λH=>true).map λa=> .int (if a < 0 then -a else a))))}
 | .cfil i d k,st,Q=>x9 X n R d st λv st=>am8 v λl=>n9 l=true/\l.length<=16777216/\Q .next {st with loc:=st.loc.set i (.val (.lst (((i5 l).filter λa=>a != k).map λa=> .int (id a))))}
 | .fore i j d b,st,Q=>x9 X n R d st λv st=>am8 v λl=>∃J:Nat->St->Prop,J 0 st/\(∀k w st,l[k]? =some w->J k st->A6 b (A4 st [(i, .int k),(j,w)]) (F6 J k Q))/\(∀st,J l.length st->Q .next st)
 | .forr i d b,st,Q=>x9 X n R d st λv st=>N5 v λN=>(0<=N/\N<=1000000)/\∃J:Nat->St->Prop,J 0 st/\(∀k st,k < N.toNat->J k st->A6 b {st with loc:=st.loc.set i (.val (.int k))} (F6 J k Q))/\(∀st,J N.toNat st->Q .next st)
 | .anil i,st,Q=>∀a,Q .next {st with loc:=st.loc.set i (.own a [])}
 |_,_,_=>False
noncomputable def A6:Ns->St->(Fl->St->Prop)->Prop
 | .nil,st,Q=>Q .next st
 | .cons s l,st,Q=>exS s st (Nx (λst=>A6 l st Q) Q)
 | .new i l r,st,Q=>evL X n R l st λvs st=>(st.me.isNone&&Q7 st.loc)=true/\∃fs,(r7 (some fs)/\Cs X (n - 1) (.ref 280) 465 vs (some []) (λv m=>v= .none/\m=some fs) v4)/\A6 r {loc:=st.loc.set i .me,me:=some fs} (λf st'=>f≠ .retMe/\Q f st'.fg)
 | .newo i l j r,st,Q=>evL X n R l st λvs st=>(st.me.isNone&&Q7 st.loc)=true/\∃fs,(r7 (some fs)/\Cs X (n - 1) (.ref 280) 465 vs (some []) (λv m=>v= .none/\m=some fs) v4)/\∀b,A6 r {loc:=(st.loc.set j (.own b [])).set i .me,me:=some fs} (λf st'=>f≠ .retMe/\Q f st'.fg)
 | .frz j l,st,Q=>aG2 st j λH l₀=>A6 l {st with loc:=st.loc.set j (.val (.lst l₀))} Q
 |_,_,_=>False
end
end
section
noncomputable def af8(e:Expr):Vw (λ(x:Str) (z:Pos)=>Expr.Name x z) e:=if h:e.ctorIdx=23 then Expr.Name.elim (motive_1:=λe=>Vw (λ(x:Str) (z:Pos)=>Expr.Name x z) e) e h (λx p=>some ⟨x,p,rfl⟩)else none
noncomputable def bZ7(o:Operator)(e:Expr):Vw (λ(c:Expr×Expr) (z:Pos)=>Expr.BinOp c.1 o c.2 z) e:=if h:e.ctorIdx=2 then Expr.BinOp.elim (motive_1:=λe=>Vw (λ(c:Expr×Expr) (z:Pos)=>Expr.BinOp c.1 o c.2 z) e) e h (λl o' r p=>if h:o'=o then some ⟨(l,r),p,h▸rfl⟩else none)else none
noncomputable def vUn(o:UnaryOp)(e:Expr):Vw (λ(c:Expr) (z:Pos)=>Expr.UnaryOp o c z) e:=if h:e.ctorIdx=3 then Expr.UnaryOp.elim (motive_1:=λe=>Vw (λ(c:Expr) (z:Pos)=>Expr.UnaryOp o c z) e) e h (λo' x p=>if h:o'=o then some ⟨x,p,h▸rfl⟩else none)else none
noncomputable def az3(o:CmpOp)(e:Expr):Vw (λ(c:Expr×Expr) (z:Pos)=>Expr.Compare c.1 [o] [c.2] z) e:=if h:e.ctorIdx=15 then Expr.Compare.elim (motive_1:=λe=>Vw (λ(c:Expr×Expr) (z:Pos)=>Expr.Compare c.1 [o] [c.2] z) e) e h (λl w1 w2 p=>match w1,w2 with| [o'],[r]=>if h:o'=o then some ⟨(l,r),p,h▸rfl⟩else none|_,_=>none)else none
noncomputable def cn0(o o₂:CmpOp)(e:Expr):Vw (λ(c:Expr×Expr×Expr) (z:Pos)=>Expr.Compare c.1 [o,o₂] [c.2.1,c.2.2] z) e:=if h:e.ctorIdx=15 then Expr.Compare.elim (motive_1:=λe=>Vw (λ(c:Expr×Expr×Expr) (z:Pos)=>Expr.Compare c.1 [o,o₂] [c.2.1,c.2.2] z) e) e h (λl w1 w2 p=>match w1,w2 with| [o',o3],[a,b]=>if h:o'=o/\o3=o₂ then some ⟨(l,a,b),p,h.1▸h.2▸rfl⟩else none|_,_=>none)else none
noncomputable def aV2(o:BoolOp)(e:Expr):Vw (λ(c:List Expr×Pos) (_:Unit)=>Expr.BoolOp o c.1 c.2) e:=if h:e.ctorIdx=0 then Expr.BoolOp.elim (motive_1:=λe=>Vw (λ(c:List Expr×Pos) (_:Unit)=>Expr.BoolOp o c.1 c.2) e) e h (λo' l p=>if h:o'=o then some ⟨(l,p),(),h▸rfl⟩else none)else none
noncomputable def vIf(e:Expr):Vw (λ(c:Expr×Expr×Expr) (z:Pos)=>Expr.IfExp c.1 c.2.1 c.2.2 z) e:=if h:e.ctorIdx=5 then Expr.IfExp.elim (motive_1:=λe=>Vw (λ(c:Expr×Expr×Expr) (z:Pos)=>Expr.IfExp c.1 c.2.1 c.2.2 z) e) e h (λa b c p=>some ⟨(a,b,c),p,rfl⟩)else none
noncomputable def cP2(e:Expr):Vw (λ(c:Expr×Expr) (z:Pos)=>Expr.Subscript c.1 c.2 z) e:=if h:e.ctorIdx=21 then Expr.Subscript.elim (motive_1:=λe=>Vw (λ(c:Expr×Expr) (z:Pos)=>Expr.Subscript c.1 c.2 z) e) e h (λa b p=>some ⟨(a,b),p,rfl⟩)else none
noncomputable def cc6(e:Expr):Vw (λ(c:Expr×Option Expr×Option Expr) (z:Pos×Pos)=>Expr.Subscript c.1 (.Slice c.2.1 c.2.2 none z.1) z.2) e:=if h:e.ctorIdx=21 then Expr.Subscript.elim (motive_1:=λe=>Vw (λ(c:Expr×Option Expr×Option Expr) (z:Pos×Pos)=>Expr.Subscript c.1 (.Slice c.2.1 c.2.2 none z.1) z.2) e) e h (λa w1 p=>match w1 with|(.Slice l u none q)=>some ⟨(a,l,u),(q,p),rfl⟩|_=>none)else none
noncomputable def cA9(e:Expr):Vw (λ(c:List Expr) (z:Nat×Pos)=>Expr.Tuple c z.1 z.2) e:=if h:e.ctorIdx=25 then Expr.Tuple.elim (motive_1:=λe=>Vw (λ(c:List Expr) (z:Nat×Pos)=>Expr.Tuple c z.1 z.2) e) e h (λl k p=>some ⟨l,(k,p),rfl⟩)else none
noncomputable def ay4(e:Expr):Vw (λ(c:List Expr) (z:Pos)=>Expr.List c z) e:=if h:e.ctorIdx=24 then Expr.List.elim (motive_1:=λe=>Vw (λ(c:List Expr) (z:Pos)=>Expr.List c z) e) e h (λl p=>some ⟨l,p,rfl⟩)else none
noncomputable def cR7(e:Expr):Vw (λ(c:List (Option Expr)×List Expr) (z:Pos)=>Expr.Dict c.1 c.2 z) e:=if h:e.ctorIdx=6 then Expr.Dict.elim (motive_1:=λe=>Vw (λ(c:List (Option Expr)×List Expr) (z:Pos)=>Expr.Dict c.1 c.2 z) e) e h (λl k p=>some ⟨(l,k),p,rfl⟩)else none
noncomputable def aR2(x:String)(e:Expr):Vw (λ(c:Expr) (z:Pos)=>Expr.Attribute c (cV1 x) z) e:=if h:e.ctorIdx=20 then Expr.Attribute.elim (motive_1:=λe=>Vw (λ(c:Expr) (z:Pos)=>Expr.Attribute c (cV1 x) z) e) e h (λa y p=>if h:y=cV1 x then some ⟨a,p,h▸rfl⟩else none)else none
noncomputable def vAt(e:Expr):Vw (λ(c:Expr×Str) (z:Pos)=>Expr.Attribute c.1 c.2 z) e:=if h:e.ctorIdx=20 then Expr.Attribute.elim (motive_1:=λe=>Vw (λ(c:Expr×Str) (z:Pos)=>Expr.Attribute c.1 c.2 z) e) e h (λa y p=>some ⟨(a,y),p,rfl⟩)else none
noncomputable def vCA(e:Expr):Vw (λ(c:Expr×Str×List Expr×List Keyword) (z:Pos×Pos)=>Expr.Call (.Attribute c.1 c.2.1 z.1) c.2.2.1 c.2.2.2 z.2) e:=if h:e.ctorIdx=16 then Expr.Call.elim (motive_1:=λe=>Vw (λ(c:Expr×Str×List Expr×List Keyword) (z:Pos×Pos)=>Expr.Call (.Attribute c.1 c.2.1 z.1) c.2.2.1 c.2.2.2 z.2) e) e h (λw0 as ks p=>match w0 with|(.Attribute a y q)=>some ⟨(a,y,as,ks),(q,p),rfl⟩|_=>none)else none
noncomputable def bw4(e:Expr):Vw (λ(c:Expr×List Expr) (z:Pos)=>Expr.Call c.1 c.2 [] z) e:=if h:e.ctorIdx=16 then Expr.Call.elim (motive_1:=λe=>Vw (λ(c:Expr×List Expr) (z:Pos)=>Expr.Call c.1 c.2 [] z) e) e h (λf as w2 p=>match w2 with| []=>some ⟨(f,as),p,rfl⟩|_=>none)else none
noncomputable def ci3(x:String)(e:Expr):Vw (λ(c:Expr×List Expr) (z: {z:Pos×Pos // (z.1.endLine==z.2.line)=true})=>Expr.Call (.Attribute c.1 (cV1 x) z.1.1) c.2 [] z.1.2) e:=if h:e.ctorIdx=16 then Expr.Call.elim (motive_1:=λe=>Vw (λ(c:Expr×List Expr) (z: {z:Pos×Pos // (z.1.endLine==z.2.line)=true})=>Expr.Call (.Attribute c.1 (cV1 x) z.1.1) c.2 [] z.1.2) e) e h (λw0 as w2 p=>match w0,w2 with|(.Attribute a y q),[]=>if h:y=cV1 x then if g:(q.endLine==p.line)=true then some ⟨(a,as),⟨(q,p),g⟩,h▸rfl⟩else none else none|_,_=>none)else none
end
noncomputable def vmL:List String:=["find","get"]
noncomputable def vmN(k:Nat):Option String:=vmL[k]?
noncomputable def abE(e:Expr):Bool:=match e with| .Constant (.bytes _) _ _| .Name .. | .Attribute .. =>true|_=>false
noncomputable def biL:List String:=["len","abs","max","sum","repr"]
noncomputable def tyL:List String:=["bytes","int","bool"]
noncomputable def biN(k:Nat):Option String:=biL[k]?
noncomputable def tyN(k:Nat):Option String:=tyL[k]?
noncomputable def E7(e:Expr):Bool:=match e with
 | .Constant .. | .Name .. | .BinOp .. | .UnaryOp .. | .Compare .. | .BoolOp .. | .IfExp .. | .Tuple .. | .List .. | .Attribute .. =>true
 | .Call _ _ [] _=>true
 | .Subscript _ _ _=>true
 |_=>false
noncomputable def cw7(e:Expr):Bool:=match e with
 | .Constant .. | .Name .. | .BinOp .. | .Subscript .. | .Attribute .. | .Call _ _ [] _=>true
 |_=>false
section
variable (E:Env) (nm:List Str)
noncomputable def loB(i:Nat)(x:Str):Bool:=nm[i]?.any λy=>decide (y=x)
noncomputable def glB(x:Str):Bool:=decide (E.scope.names.lookup x=some .globalImplicit) && !(x== ("__debug__":Str))
noncomputable def z6(e:Expr)(i:Nat):Bool:=on (af8 e) λx=>loB nm i x
noncomputable def fnE(e:Expr)(x:String):Bool:=on (af8 e) λy=>decide (y=cV1 x) &&glB E y
noncomputable def ad1(e:Expr):Bool:=on (aR2 "buffer" e) λe=>z6 nm e 0
noncomputable def aU4(e:Expr)(i j:Nat):Bool:=fn465[j]?.any λx=>on (aR2 x e) λe=>z6 nm e i
noncomputable def gcE(e:Expr)(x:String)(p:List Expr->Bool):Bool:=on (bw4 e) λc=>fnE E c.1 x&&c.2.all E7&&p c.2
noncomputable def mcE(e:Expr)(x:String)(p:Expr->List Expr->Bool):Bool:=on (ci3 x e) λc=>c.2.all E7&&decide (c.2.length < 30) &&p c.1 c.2
noncomputable def two{α:Type}(l:List α)(p:α->α->Bool):Bool:=match l with| [a,b]=>p a b|_=>false
noncomputable def one(l:List Expr)(p:Expr->Bool):Bool:=match l with| [e]=>p e|_=>false
noncomputable def rfE(e:Expr):Bool:=on (af8 e) (λH=>true) || (on (vAt e) (λH=>true) ||on (vCA e) λH=>true)
noncomputable def cA6(o:BoolOp)(l:List Expr)(p:Pos)(f:Expr->Bool):Bool:=match l with| []=>false| [e]=>f e|_=>f (.BoolOp o l p)
noncomputable def aX0(e:Expr)(o:BoolOp)(p q:Expr->Bool):Bool:=on (aV2 o e) λc=>match c.1 with| []=>false|x::l=>p x&&cA6 o l c.2 q
noncomputable def chP:Sn->Expr->Bool
 | .int i,e=>on (F0 (.int i) e) λH=>true
 | .loc i,e=>z6 nm e i
 | .add a b,e=>on (bZ7 .Add e) λc=>chP a c.1&&chP b c.2
 | .sub a b,e=>on (bZ7 .Sub e) λc=>chP a c.1&&chP b c.2
 | .len,e=>gcE E e "len" λas=>one as (ad1 nm)
noncomputable def chR(o:Option Sn)(e:Option Expr):Bool:=match o,e with
 |none,none=>true
 |some d,some e=>chP E nm d e
 |_,_=>false
mutual
noncomputable def C8:Nd->Expr->Bool
 | .non,e=>on (F0 .none e) λH=>true
 | .boo b,e=>on (F0 (.bool b) e) λH=>true
 | .int i,e=>on (F0 (.int i) e) λH=>true
 | .byt l,e=>on (F0 (.bytes l) e) λH=>true
 | .loc i,e=>z6 nm e i
 | .gi k,e=>giT[k]?.any λt=>fnE E e t.1
 | .bin o a b,e=>on (bZ7 o e) λc=>C8 a c.1&&C8 b c.2
 | .neg a,e=>on (vUn .USub e) λc=>C8 a c
 | .cmp o a b,e=>on (az3 o e) λc=>C8 a c.1&&C8 b c.2&&E7 c.2
 | .chn o o' a b c,e=>on (cn0 o o' e) λq=>C8 a q.1&&C8 b q.2.1&&C8 c q.2.2&&E7 q.2.2
 | .and a b,e=>aX0 e .And (λe=>C8 a e) λe=>C8 b e
 | .or a b,e=>aX0 e .Or (λe=>C8 a e) λe=>C8 b e
 | .ife t a b,e=>on (vIf e) λq=>chT t q.1&&C8 a q.2.1&&C8 b q.2.2
 | .sub a b,e=>on (cP2 e) λq=>C8 a q.1&&C8 b q.2&&E7 q.2
 | .slc a lo hi,e=>on (cc6 e) λq=>C8 a q.1&&chO lo q.2.1&&chO hi q.2.2
 | .tup l,e=>on (cA9 e) λq=>q.all E7&&chL l q
 | .lst l,e=>on (ay4 e) λq=>q.all E7&&chL l q
 | .fld i j,e=>aU4 nm e i j
 | .rf k a,e=>rtT[k]?.any λt=>on (aR2 t.2.2 e) λq=>rfE q&&C8 a q
 | .call k l,e=>gfT[k]?.any λt=>gcE E e t.1 λas=>chL l as
 | .meth i k l,e=>mtT[k]?.any λt=>mcE e t.1 λa as=>z6 nm a i&&chL l as
 | .bi k l,e=>(biN k).any λx=>gcE E e x λas=> !as.isEmpty&&chL l as
 | .tyb l,e=>gcE E e "bytes" λas=> !as.isEmpty&&chL l as
 | .lenb,e=>gcE E e "len" λas=>one as (ad1 nm)
 | .bytb,e=>gcE E e "bytes" λas=>one as (ad1 nm)
 | .bytc lo hi,e=>gcE E e "bytes" λas=>one as λe=>on (cc6 e) λq=>ad1 nm q.1&&chR E nm lo q.2.1&&chR E nm hi q.2.2
 | .bapp a,e=>mcE e "append" λb as=>ad1 nm b&&one as λe=>chP E nm a e
 | .app j a,e=>mcE e "append" λb as=>z6 nm b j&&one as λe=>C8 a e
 | .tnot a,e=>on (vUn .Not e) λc=>C8 a c
 | .vm k a b,e=>(vmN k).any λx=>mcE e x λo as=>abE o&&C8 a o&&one as λe=>C8 b e
 | .neq a b,e=>on (az3 .NotEq e) λc=>C8 a c.1&&C8 b c.2&&E7 c.2
 | .eql a b,e=>on (az3 .Eq e) λc=>C8 a c.1&&C8 b c.2&&E7 c.2
 | .dget t i,e=>decide (t≠[]) &&decide (t.length<=15) &&mcE e "get" λo as=>on (cR7 o) (λq=>bi5 t q.1 q.2) &&one as λe=>z6 nm e i
 | .gv k,e=>gvT[k]?.any λt=>fnE E e t.1
 | .isi k a,e=>(tyN k).any λx=>gcE E e "isinstance" λas=>two as λa' b=>C8 a a'&&fnE E b x
 | .rev j,e=>mcE e "reverse" λb as=>z6 nm b j&&as.isEmpty
 |_,_=>false
noncomputable def chL:Nd->List Expr->Bool
 | .nil,es=>es.isEmpty
 | .cons a b,es=>match es with| []=>false|e::es=>C8 a e&&chL b es
 |_,_=>false
noncomputable def chO:Nd->Option Expr->Bool
 | .no,o=>o.isNone
 | .cons d _,o=>match o with|none=>false|some e=>C8 d e
 |_,_=>false
noncomputable def chT:Nd->Expr->Bool
 | .cmp o a b,e=>on (az3 o e) λc=>C8 a c.1&&C8 b c.2&&E7 c.2
 | .chn o o' a b c,e=>on (cn0 o o' e) λq=>C8 a q.1&&C8 b q.2.1&&C8 c q.2.2&&E7 q.2.2
 | .tnot t,e=>on (vUn .Not e) λc=>chT t c
 | .neq a b,e=>on (az3 .NotEq e) λc=>C8 a c.1&&C8 b c.2&&E7 c.2
 | .eql a b,e=>on (az3 .Eq e) λc=>C8 a c.1&&C8 b c.2&&E7 c.2
 | .tall l,e=>on (aV2 .And e) λc=>chA l c.1
 | .tany l,e=>on (aV2 .Or e) λc=>chA l c.1
 | .cons d _,e=>cw7 e&&C8 d e
 |_,_=>false
noncomputable def chA:Nd->List Expr->Bool
 | .nil,es=>es.isEmpty
 | .cons a b,es=>match es with| []=>false|e::es=>chT a e&&chA b es
 |_,_=>false
end
end
end
section
variable {X:Cx} {F:Frm} {n:Nat} {st:St} {R:List UInt8->Prop} {G P:Prop}
theorem a1{a b:Bool}(h:(a&&b)=true):a=true:=(cZ7.mp h).1
theorem a2{a b:Bool}(h:(a&&b)=true):b=true:=(cZ7.mp h).2
theorem D0{v:V}{K:Int->Prop}{G:V->Prop}(h:N5 v K)(k:∀a,K a->G (.int a)):G v:=by cases v<;>first|exact h.elim|exact k _ h
theorem ac2{v:V}{K:Bs->Prop}{G:V->Prop}(h:at3 v K)(k:∀a,K a->G (.bytes a)):G v:=by cases v<;>first|exact h.elim|exact k _ h
theorem aq2{v:V}{K:List V->Prop}{G:V->Prop}(h:am8 v K)(k:∀a,K a->G (.lst a)):G v:=by cases v<;>first|exact h.elim|exact k _ h
theorem bv4{v:V}{K:List V->Prop}{G:V->Prop}(h:bQ9 v K)(k:∀a,K a->G (.tup a)):G v:=by cases v<;>first|exact h.elim|exact k _ h
theorem cu1{v:V}{K:Nat->List (String×V)->Prop}{G:V->Prop}(h:bV9 v K)(k:∀C fs,K C fs->G (.rcd C fs)):G v:=by cases v<;>first|exact h.elim|exact k _ _ h
theorem x7{v w:V}{K:Int->Int->Prop}{G:V->V->Prop}(h:D4 v w K)(k:∀a b,K a b->G (.int a) (.int b)):G v w:=D0 (G:=λv=>G v w) h λa h=>D0 (G:=G (.int a)) h λb h=>k a b h
theorem L9{α:Type}{o:Option α}{p:α->Bool}{G:Prop}(h:o.any p=true)(k:∀a,o=some a->p a=true->G):G:=by
 cases o with
 |none=>exact cV2 h
 |some a=>exact k a rfl h
theorem F8{α:Type}{o:Option α}{a:α}{K:α->Prop}(e:o=some a)(h:H8 o K):K a:=by subst e;exact h
theorem at7{α:Type}{o:Option α}{K:α->Prop}{G:Prop}(h:H8 o K)(k:∀a,o=some a->K a->G):G:=by
 cases o with
 |none=>exact h.elim
 |some a=>exact k a rfl h
noncomputable abbrev bo3(X:Cx)(n:Nat)(P:Prop)(K:V->Prop)(o:Operator)(v w:V):Prop:=∃r,Pu2 X n (binaryOp o) v w r/\P/\K r
set_option tactic.hygienic true in
theorem bO8{o:Operator}{v w:V}{K:V->Prop}(p:P)(h:cF5 o v w K):bo3 X n P K o v w:=by
 cases o<;>first|exact h.elim|skip
 case Add=>
  cases v<;>first|exact h.elim|skip
  case int a=>exact D0 (G:=bo3 X n P K .Add (.int a)) h λb h=>⟨_,av5,p,h⟩
  case bytes a=>exact ac2 (G:=bo3 X n P K .Add (.bytes a)) h λb h=>⟨_,al2 h.1,p,h.2⟩
  case lst a=>exact aq2 (G:=bo3 X n P K .Add (.lst a)) h λb h=>⟨_,bq4 (sz h.1),p,h.2⟩
 case Sub=>exact x7 h λa b h=>⟨_,aT3,p,h⟩
 case Mult=>exact x7 h λa b h=>⟨_,bZ1 h.1,p,h.2⟩
 case FloorDiv=>exact x7 h λa b h=>⟨_,al9 h.1.1 h.1.2,p,h.2⟩
 case Mod=>exact x7 h λa b h=>⟨_,cc3 h.1,p,h.2⟩
 case BitAnd=>exact x7 h λa b h=>⟨_,cd6,p,h⟩
 case LShift=>exact x7 h λa b h=>⟨_,aI2 h.1.1 h.1.2.1 h.1.2.2,p,h.2⟩
 case Pow=>exact x7 h λa b h=>⟨_,cf5 h.1.1 h.1.2,p,h.2⟩
noncomputable abbrev N4(X:Cx)(n:Nat)(P:Prop)(K:Bool->Prop)(o:CmpOp)(v w:V):Prop:=∃b,Pu2 X n (cZ0 o) v w (.bool b)/\P/\K b
set_option tactic.hygienic true in
theorem co2{v w:V}{K:Bool->Prop}(p:P)(h:eqW v w K):N4 X n P K .Eq v w:=by
 cases v<;>first|exact h.elim|skip
 case int a=>exact D0 (G:=N4 X n P K .Eq (.int a)) h λb h=>⟨_,cu0,p,h⟩
 case bytes a=>exact ac2 (G:=N4 X n P K .Eq (.bytes a)) h λb h=>⟨_,bP3,p,h⟩
set_option tactic.hygienic true in
theorem ct6{v w:V}{K:Bool->Prop}(p:P)(h:eqW v w λb=>K (!b)):N4 X n P K .NotEq v w:=by
 cases v<;>first|exact h.elim|skip
 case int a=>exact D0 (G:=N4 X n P K .NotEq (.int a)) h λb h=>⟨_,by1,p,h⟩
 case bytes a=>exact ac2 (G:=N4 X n P K .NotEq (.bytes a)) h λb h=>⟨_,aW3,p,h⟩
theorem co3{v w:V}{K:Bool->Prop}{G:V->Prop}(h:isW v w K)(k:K (isNone v)->G .none):G w:=by cases w<;>first|exact h.elim|exact k h
set_option tactic.hygienic true in
theorem cE4{a:Int}{w:V}{K:Bool->Prop}(p:P)(h:inW (.int a) w K):N4 X n P K .In (.int a) w:=by
 cases w<;>first|exact h.elim|skip
 case bytes l=>exact⟨_,bX3 h.1.1 h.1.2,p,h.2⟩
 case tup l=>exact⟨_,bT6 h.1,p,h.2⟩
 case lst l=>exact⟨_,bW0 h.1,p,h.2⟩
set_option tactic.hygienic true in
theorem S5{o:CmpOp}{v w:V}{K:Bool->Prop}(p:P)(h:av8 o v w K):N4 X n P K o v w:=by
 cases o
 case Eq=>exact co2 p h
 case NotEq=>exact ct6 p h
 case Lt=>exact x7 h λa b h=>⟨_,cs9,p,h⟩
 case LtE=>exact x7 h λa b h=>⟨_,cr9,p,h⟩
 case Gt=>exact x7 h λa b h=>⟨_,cl6,p,h⟩
 case GtE=>exact x7 h λa b h=>⟨_,cl0,p,h⟩
 case Is=>exact co3 (G:=N4 X n P K .Is v) h λh=>⟨_,cr6,p,h⟩
 case IsNot=>exact co3 (G:=N4 X n P K .IsNot v) (K:=λb=>K (!b)) h λh=>⟨_,ba8,p,h⟩
 case In=>exact D0 (G:=λv=>N4 X n P K .In v w) h λa h=>cE4 p h
 case NotIn=>exact D0 (G:=λv=>N4 X n P K .NotIn v w) h λa h=>bv4 (G:=N4 X n P K .NotIn (.int a)) h λl h=>⟨_,bo7 h.1,p,h.2⟩
set_option tactic.hygienic true in
theorem S9{v:V}{K:Bool->Prop}(p:P)(h:aU6 v K):∃b,PuT X n v b/\P/\K b:=by
 cases v<;>first|exact h.elim|skip
 case bool b=>exact⟨_,bm4,p,h⟩
 case int b=>exact⟨_,bO1,p,h⟩
set_option tactic.hygienic true in
theorem bV4{v w:V}{K:V->Prop}(p:P)(h:cD5 v w K):∃T id r,ItemTy v T id/\Pu2 X n getItem v w r/\P/\K r:=by
 refine D0 (G:=λw=>∃T id r,ItemTy v T id/\Pu2 X n getItem v w r/\P/\K r) h λi h=> ?_
 cases v<;>first|exact h.elim|skip
 case bytes l=>exact⟨_,_,_, .bytes _,aY0 h.1.1 h.1.2.1 h.1.2.2,p,h.2⟩
 case tup l=>exact h.2.elim λr k=>⟨_,_,_, .tup _,aN8 h.1.1 h.1.2 k.1,p,k.2⟩
 case lst l=>exact h.2.elim λr k=>⟨_,_,_, .lst _,aQ5 h.1.1 h.1.2 k.1,p,k.2⟩
set_option tactic.hygienic true in
theorem bU3{v:V}{i j:Option Int}{K:V->Prop}(p:P)(h:cE5 v i j K):∃T id r,ItemTy v T id/\PuS X n v i j r/\P/\K r:=by
 cases v<;>first|exact h.elim|skip
 case bytes l=>exact⟨_,_,_, .bytes _,aS4 h.1,p,h.2⟩
 case lst l=>exact⟨_,_,_, .lst _,bq3 (sz h.1),p,h.2⟩
theorem az5{i:Nat}{K:V->Prop}(h:aJ3 st i K)(k:∀v,st.loc[i]? =some (.val v)->K v->G):G:=by
 unfold aJ3 at h
 revert h k
 cases st.loc[i]? with
 |none=>exact λh H=>h.elim
 |some s=>cases s with
  |val v=>exact λh k=>k _ rfl h
  |_=>exact λh H=>h.elim
theorem aE5{i:Nat}{K:Addr->List V->Prop}(h:aG2 st i K)(k:∀a l,st.loc[i]? =some (.own a l)->K a l->G):G:=by
 unfold aG2 at h
 revert h k
 cases st.loc[i]? with
 |none=>exact λh H=>h.elim
 |some s=>cases s with
  |own a l=>exact λh k=>k _ _ rfl h
  |_=>exact λh H=>h.elim
theorem ar9{i:Nat}{K:List (String×Fv)->Prop}(h:meW st i K)(k:∀fs,st.loc[i]? =some .me->st.me=some fs->K fs->G):G:=by
 unfold meW at h
 revert h k
 cases st.loc[i]? with
 |none=>exact λh H=>h.elim
 |some s=>cases s with
  |me=>cases st.me with
   |none=>exact λh H=>h.elim
   |some fs=>exact λh k=>k _ rfl rfl h
  |_=>exact λh H=>h.elim
theorem aY3{fs:List (String×Fv)}{j:Nat}{x:String}{f:Fv}(hn:fs.map (·.1)=fn465.take fs.length)(h:fs[j]? =some (x,f)):fn465[j]? =some x:=by
 have h1:(fs.map (·.1))[j]? =some x:=by rw[cX2,h];rfl
 rw[hn,List.getElem?_take_of_lt (cX6.mp h).1]at h1
 exact h1
theorem bv7{i j:Nat}{K:V->Prop}(hn:r7 st.me)(h:bT3 st i j K)(k:∀fs x v,st.loc[i]? =some .me->st.me=some fs->fs[j]? =some (x, .val v)->fn465[j]? =some x->K v->G):G:=
 ar9 h λfs h1 h2 h=>by
  have n:=λx f=>aY3 (j:=j) (x:=x) (f:=f) (hn fs h2)
  have k:=k fs
  revert h k n
  cases fs[j]? with
  |none=>exact λh H H=>h.elim
  |some p=>cases p with|mk x f=>cases f with
   |val v=>exact λh n k=>k _ _ h1 h2 rfl (n _ _ rfl) h
   |buf l=>exact λh H H=>h.elim
theorem af1{K:Bs->Prop}(hn:r7 st.me)(h:ax7 st K)(k:∀fs l,st.loc[0]? =some .me->st.me=some fs->fs[9]? =some ("buffer", .buf l)->K l->G):G:=
 ar9 h λfs h1 h2 h=>by
  have n:=λx f=>aY3 (j:=9) (x:=x) (f:=f) (hn fs h2)
  have k:=k fs
  revert h k n
  cases fs[9]? with
  |none=>exact λh H H=>h.elim
  |some p=>cases p with|mk x f=>cases f with
   |val v=>exact λh H H=>h.elim
   |buf l=>exact λh n k=>k _ h1 h2 (by rw[←show "buffer"=x from cY2 (n _ _ rfl)]) h
theorem cB5{v:V}{K:List (Bs×Int)->Prop}{G:V->Prop}(h:cv7 v K)(k:∀a,K a->G (.dic a)):G v:=by cases v<;>first|exact h.elim|exact k _ h
theorem bM3{α β:Type}{o:Option α}{f:α->β}{b:β}{G:β->Prop}(h:o.map f=some b)(k:∀a,o=some a->G (f a)):G b:=by
 cases o with
 |none=>cases h
 |some a=>cases h;exact k a rfl
theorem bQ8{v w:V}{b:Bool}(h:eqV v w=some b):Pu2 X n (cZ0 .NotEq) v w (.bool (!b)):=by
 exact aD3 (P:=λv w b=>Pu2 X n (cZ0 .NotEq) v w (.bool (!b))) aH6 (λH H=>by1) (λH H=>aW3) (λH H=>aF7) h
theorem bZ2{v w:V}{b:Bool}(h:neV v w=some b):Pu2 X n (cZ0 .NotEq) v w (.bool (!b)):=by
 cases v with
 |tup l=>cases w with
  |tup k=>exact bM3 (G:=λb=>Pu2 X n (cZ0 .NotEq) _ _ (.bool (!b))) h λbs e=>cb4 e
  |_=>exact n7 h
 |str l=>cases w with
  |str k=>exact cY2 h▸bW5
  |_=>exact n7 h
 |_=>exact bQ8 h
theorem ch4{v w:V}{b:Bool}(h:eqL v w=some b):Pu2 X n (cZ0 .Eq) v w (.bool b):=by
 cases v with
 |lst l=>cases w with
  |lst k=>
   have h:(if(l.length != k.length)=true then some false else(S7 l k).map λbs=>bs.all id)=some b:=h
   by_cases e:(l.length != k.length)=true
   ·rw[if_pos e]at h;exact cY2 h▸aw1 e
   ·rw[if_neg e]at h;exact bM3 (G:=λb=>Pu2 X n (cZ0 .Eq) _ _ (.bool b)) h λbs e=>cg2 e
  |_=>exact n7 h
 |_=>exact n7 h
theorem cz9{v w:V}{K:Bool->Prop}(p:P)(h:H8 (neV v w) λb=>K (!b)):N4 X n P K .NotEq v w:=at7 h λb e k=>⟨_,bZ2 e,p,k⟩
theorem bF6{v w:V}{K:Bool->Prop}(p:P)(h:H8 (eqL v w) K):N4 X n P K .Eq v w:=at7 h λb e k=>⟨_,ch4 e,p,k⟩
noncomputable abbrev VmG(X:Cx)(n:Nat)(C:(V->(V->Prop)->Prop)->Prop)(x:String)(v:V):Prop:=∃id f,VM X v (cV1 x) id/\(∀w (P:Prop) K,P->f w K->∃r,Pu X n [v,w] (λrs=>call (.builtin id) rs) (λφ=>RV X φ r)/\P/\K r)/\C f
theorem cA7{k:Nat}{x:String}{v:V}{C:(V->(V->Prop)->Prop)->Prop}(e:vmN k=some x)(h:vmW k v C):VmG X n C x v:=by
 match k,e,h with
 |0,e,h=>cases e;exact ac2 (G:=VmG X n C "find") h λb h=>⟨_,_,bj2,λw P K p k=>ac2 (G:=λw=>∃r,Pu X n [.bytes b,w] (λrs=>call (.builtin "bytes.find") rs) (λφ=>RV X φ r)/\P/\K r) k λc k=>⟨_,bi6 k.1,p,k.2⟩,h⟩
 |1,e,h=>cases e;exact cB5 (G:=VmG X n C "get") h λl h=>⟨_,_,bk2,λw P K p k=>ac2 (G:=λw=>∃r,Pu X n [.dic l,w] (λrs=>call (.builtin "dict.get") rs) (λφ=>RV X φ r)/\P/\K r) k λc k=>⟨_,bj4,p,k⟩,h⟩
theorem bC8{k:Nat}{t:String×Int}(h:giT[k]? =some t):an5 X.K (cV1 t.1) t.2=true:=cZ3.mp (cO9 X.w.params) t (cW1 h)
theorem aE4{k:Nat}{t:String×Nat}(h:gfT[k]? =some t):(eqR (nsIn X.K cW5 (cV1 t.1)) t.2&&keepIn X.K (.ref t.2))=true:=cZ3.mp (cM3 X.w.params) t (cW1 h)
end
theorem w5{e:Expr}{es:List Expr}{env:Env}(h:E7 e=true):cW7 (e::es) env=(false,eval e env)::cW7 es env:=by cases e<;>first|rfl|exact cV2 h
theorem x8{e:Expr}{t:Option Expr}{l:Nat}{env:Env}(h:E7 e=true):dd3 e t l env=pure false:=by cases e<;>first|rfl|exact cV2 h
theorem G8{e:Expr}{o:CmpOp}(h:E7 e=true):behindInMarks o e=false:=by cases e<;>first|rfl|exact cV2 h
theorem aO7{e:Expr}{env:Env}(h:cw7 e=true):isTrue e env (eval e env)=(do let v ←eval e env;dd4 e.pos;dc2 [v] (truthy v)):=by cases e<;>first|rfl|exact cV2 h
noncomputable def Z0(e:Expr)(x:Str)(p:Pos):Prop:=∀env,eval (.Attribute e x p) env=(do
 let o ←eval e env
 dd4 p.atName
 let r ←dc2 [o] (getAttr o x true)
 letTemporaryGo e o r
 pure r)
theorem bq8{y q}{x:Str}{p:Pos}:Z0 (.Name y q) x p:=λH=>by with_unfolding_all rfl
theorem bh6{a y q}{x:Str}{p:Pos}:Z0 (.Attribute a y q) x p:=λH=>by with_unfolding_all rfl
theorem bf3{a y q as ks z}{x:Str}{p:Pos}:Z0 (.Call (.Attribute a y q) as ks z) x p:=λH=>by with_unfolding_all rfl
theorem aT8{x:Str}{p:Pos}{e:Expr}(h:rfE e=true):Z0 e x p:=by
 rcases db7.mp h with h|h
 ·exact vw (G:=λe=>Z0 e x p) e h λH H H=>bq8
 ·rcases db7.mp h with h|h
  ·exact vw (G:=λe=>Z0 e x p) e h λH H H=>bh6
  ·exact vw (G:=λe=>Z0 e x p) e h λH H H=>bf3
theorem cq2{e:Expr}{x:Str}{env:Env}(h:abE e=true):attributeBase e x env (eval e env)=eval e env:=by cases e<;>first|rfl|exact cV2 h
theorem bf8{e:Expr}(h:E7 e=true):∃l:Value->Value->List Value,∀o i,subscripted e false o i=operate (l o i) (getItem o i):=by cases e<;>first|exact⟨_,λH H=>rfl⟩|exact cV2 h
noncomputable def ao5(o:Option (Option Value)):Bool:=match o with|some none=>true|_=>false
theorem K6{o:Option (Option Value)}(h:ao5 o=true):o=some none:=by unfold ao5 at h;split at h<;>first|rfl|exact cV2 h
theorem cQ9(P:Params):(fn465.all λx=>ao5 (findIn (KP P) (.ref 465) (cV1 x)) &&ao5 (takerIn (KP P) 465 (cV1 x)))=true:=by kernel_rfl
noncomputable def ch5(o:Option Value):Bool:=match o with|some (.type T)=>T=="function"|_=>false
theorem bk0{o:Option Value}(h:ch5 o=true):o=some (.type "function"):=by
 unfold ch5 at h
 split at h
 ·rw[beq_iff_eq.mp h]
 ·exact cV2 h
theorem cQ4(P:Params):(mtT.all λp=>eqR (findIn (KP P) (.ref 465) (cV1 p.1)) p.2&&ch5 (typeIn (KP P) (.ref p.2)) &&keepIn (KP P) (.ref p.2) && !(fn465.map cV1).contains (cV1 p.1))=true:=by kernel_rfl
section
variable {X:Cx} {F:Frm} {n:Nat} {st:St} {R:List UInt8->Prop} {G:Expr->Prop} {e:Expr}
theorem cx6{j:Nat}{x:String}(h:fn465[j]? =some x):A1 X.w.params 465 (cV1 x):=
 have k:=cZ3.mp (cQ9 X.w.params) x (cW1 h)
 ⟨K6 (a1 k),K6 (a2 k)⟩
theorem co0{k:Nat}{t:String×Nat}(h:mtT[k]? =some t):T4 X.w.params 465 (cV1 t.1) t.2/\cV1 t.1∉fn465.map cV1:=
 have k:=cZ3.mp (cQ4 X.w.params) t (cW1 h)
 ⟨⟨E9 (a1 (a1 (a1 k))),bk0 (a2 (a1 (a1 k))),a2 (a1 k)⟩,λhm=>by have h2:=a2 k;rw[de2.mpr hm]at h2;exact cV2 h2⟩
theorem bG4{k:Nat}{t:Nat×Nat×String}(h:rtT[k]? =some t):A0 X.w.params t.1/\A1 X.w.params t.1 (cV1 t.2.2):=by
 match k,h with
 |0,h=>cases h;exact⟨ak1 _,af7 _⟩
 |1,h=>cases h;exact⟨ak1 _,X4 _⟩
 |2,h=>cases h;exact⟨H0 _,aG6 _⟩
 |3,h=>cases h;exact⟨H0 _,aP4 _⟩
structure Bnd(F:Frm):Prop where
 O:FOk F
 nodbg:∀x∈F.nm,(x== ("__debug__":Str))=false
 C:F.C=465
theorem Bnd.with(B:Bnd F)(ψ:PM):Bnd (F.with ψ):=⟨B.O.with ψ,B.nodbg,B.C⟩
theorem Bnd.K(B:Bnd F):A0 X.w.params F.C:=B.C▸bP4 _
theorem Bnd.ft(B:Bnd F){j:Nat}{x:String}(h:fn465[j]? =some x):A1 X.w.params F.C (cV1 x):=B.C▸cx6 h
theorem Bnd.mt(B:Bnd F){x:Str}{f:Addr}(h:T4 X.w.params 465 x f):T4 X.w.params F.C x f:=B.C▸h
theorem Bnd.d(B:Bnd F){i:Nat}{x:Str}(h:F.nm[i]? =some x):(x== ("__debug__":Str))=false:=B.nodbg _ (cW1 h)
theorem O3{i:Nat}{x:Str}(h:loB F.nm i x=true):F.nm[i]? =some x:=L9 h λy e h=>e.trans (congrArg some (of_decide_eq_true h))
theorem v5{i:Nat}(h:z6 F.nm e i=true)(k:∀x q,F.nm[i]? =some x->G (.Name x q)):G e:=vw e h λx q h=>k x q (O3 h)
theorem ca2{x:String}(h:fnE F.env e x=true)(k:∀q,F.scope.names.lookup (cV1 x)=some .globalImplicit->(cV1 x== ("__debug__":Str))=false->G (.Name (cV1 x) q)):G e:=
 vw e h λy q h=>by
  obtain rfl:y=cV1 x:=of_decide_eq_true (a1 h)
  exact k q (of_decide_eq_true (a1 (a2 h))) (by have:=a2 (a2 h);rwa[db8]at this)
theorem aG0{x:String}{p:List Expr->Bool}(h:gcE F.env e x p=true)(k:∀as q q',F.scope.names.lookup (cV1 x)=some .globalImplicit->(cV1 x== ("__debug__":Str))=false->as.all E7=true->p as=true->G (.Call (.Name (cV1 x) q') as [] q)):G e:=
 vw e h λc q h=>ca2 (G:=λf=>G (.Call f c.2 [] q)) (a1 (a1 h)) λq' h1 h2=>k c.2 q q' h1 h2 (a2 (a1 h)) (a2 h)
theorem cU1{x:String}{p:Expr->List Expr->Bool}(h:mcE e x p=true)(k:∀a as (q q':Pos),(q'.endLine==q.line)=true->as.all E7=true->as.length < 30->p a as=true->G (.Call (.Attribute a (cV1 x) q') as [] q)):G e:=
 vw e h λc z h=>k c.1 c.2 z.1.2 z.1.1 z.2 (a1 (a1 h)) (of_decide_eq_true (a2 (a1 h))) (a2 h)
theorem G6(h:ad1 F.nm e=true)(k:∀x q q',F.nm[0]? =some x->G (.Attribute (.Name x q) (cV1 "buffer") q')):G e:=
 vw e h λc q' h=>v5 (G:=λa=>G (.Attribute a _ q')) h λx q h=>k x q q' h
theorem ak7{i j:Nat}(h:aU4 F.nm e i j=true)(k:∀x y q q',fn465[j]? =some x->F.nm[i]? =some y->G (.Attribute (.Name y q) (cV1 x) q')):G e:=
 L9 h λx hx h=>vw e h λc q' h=>v5 (G:=λa=>G (.Attribute a _ q')) h λy q h=>k x y q q' hx h
theorem aB2{l:List Expr}{p:Expr->Bool}{G:List Expr->Prop}(h:one l p=true)(k:∀e,p e=true->G [e]):G l:=by
 match l,h with
 | [e],h=>exact k e h
theorem af5{α:Type}{l:List α}{p:α->α->Bool}{G:List α->Prop}(h:two l p=true)(k:∀a b,p a b=true->G [a,b]):G l:=by
 match l,h with
 | [a,b],h=>exact k a b h
theorem aS9{o:BoolOp}{p q:Expr->Bool}(h:aX0 e o p q=true)(k1:∀x y z,p x=true->q y=true->G (.BoolOp o [x,y] z))(k2:∀x y w l z,p x=true->q (.BoolOp o (y::w::l) z)=true->G (.BoolOp o (x::y::w::l) z)):G e:=
 vw e h λc u h=>by
  obtain⟨l,z⟩:=c
  match l,h with
  | [x,y],h=>exact k1 x y z (a1 h) (a2 h)
  |x::y::w::l,h=>exact k2 x y w l z (a1 h) (a2 h)
  | [x],h=>cases a2 h
theorem aR8:∀(es:List Expr),es.all E7=true->∀pos,((backTo pos (cW7 es F.env)).any (·.1))=false:=by
 intro es
 induction es with
 |nil=>intro _ _;rfl
 |cons e es ih=>intro h pos;rw[w5 (a1 h)];exact ih (a2 h) pos
theorem aH1:∀(es:List Expr),es.all E7=true->∀pos,((backTo pos (cW7 es F.env)).all λx=> !x.1)=true:=by
 intro es
 induction es with
 |nil=>intro _ _;rfl
 |cons e es ih=>intro h pos;rw[w5 (a1 h)];exact ih (a2 h) pos
noncomputable abbrev aA4(F:Frm)(o:Expr)(x:Str)(ap q:Pos)(as:List Expr):Prop:=eval (.Call (.Attribute o x ap) as [] q) F.env=(do
 let ov ←eval o F.env
 dd4 ap.atName
 let(f,first) ←dc2 [ov] (dg5 ov x (do return (←importBound o F.env).getD true))
 callWith q f first (backTo q (cW7 as F.env)) (backToKw q (dd1 [] F.env)))
theorem C4{o:Expr}{x:Str}{ap q:Pos}{as:List Expr}(h1:(ap.endLine==q.line)=true)(ho:as.all E7=true)(h2:as.length < 30)(hb:attributeBase o x F.env (eval o F.env)=eval o F.env):aA4 F o x ap q as:=by
 unfold aA4
 rw[arm_eval_Call,hb]
 have hform:methodCallForm (as.length+ ([]:List Keyword).length) (backTo q (cW7 as F.env)) (backToKw q (dd1 [] F.env))=true:=by
  unfold methodCallForm
  rw[aH1 as ho q]
  exact decide_eq_true h2
 have hpos:methodCallPos true o F.env ap q=pure q:=by unfold methodCallPos;rw[h1];rfl
 have key:∀ov,methodCall o x ap q F.env ov (as.length+ ([]:List Keyword).length) (backTo q (cW7 as F.env)) (backToKw q (dd1 [] F.env))=(do
  let(f,first) ←dc2 [ov] (dg5 ov x (do return (←importBound o F.env).getD true))
  callWith q f first (backTo q (cW7 as F.env)) (backToKw q (dd1 [] F.env))):=by
  intro ov
  unfold methodCall
  rw[hform,hpos]
  rfl
 simp only[key]
end
noncomputable def bW7(o:Option (Option Value))(x:String):Bool:=match o with|some (some (.builtin y))=>y==x|_=>false
theorem bh2{o:Option (Option Value)}{x:String}(h:bW7 o x=true):o=some (some (.builtin x)):=by
 unfold bW7 at h
 split at h
 ·rw[beq_iff_eq.mp h]
 ·exact cV2 h
noncomputable def cf4(o:Option (Option Value))(x:String):Bool:=match o with|some (some (.type y))=>y==x|_=>false
theorem bg6{o:Option (Option Value)}{x:String}(h:cf4 o x=true):o=some (some (.type x)):=by
 unfold cf4 at h
 split at h
 ·rw[beq_iff_eq.mp h]
 ·exact cV2 h
theorem cS0(P:Params):(biL.all λx=>ao5 (nsIn (KP P) cW5 (cV1 x)) &&bW7 (nsIn (KP P) cZ8 (cV1 x)) x)=true:=by kernel_rfl
theorem cK9(P:Params):(tyL.all λx=>ao5 (nsIn (KP P) cW5 (cV1 x)) &&cf4 (nsIn (KP P) cZ8 (cV1 x)) x)=true:=by kernel_rfl
section
variable {X:Cx} {F:Frm} {n:Nat} {st:St} {R:List UInt8->Prop} {P:Prop}
theorem cu6{k:Nat}{x:String}(e:biN k=some x):nsIn X.K cW5 (cV1 x)=some none/\nsIn X.K cZ8 (cV1 x)=some (some (.builtin x)):=
 have k:=cZ3.mp (cS0 X.w.params) x (cW1 e)
 ⟨K6 (a1 k),bh2 (a2 k)⟩
theorem cB7{k:Nat}{x:String}(e:tyN k=some x):nsIn X.K cW5 (cV1 x)=some none/\nsIn X.K cZ8 (cV1 x)=some (some (.type x)):=
 have k:=cZ3.mp (cK9 X.w.params) x (cW1 e)
 ⟨K6 (a1 k),bg6 (a2 k)⟩
theorem ab5{vs:List V}{K:V->Prop}{G:List V->Prop}(h:aH7 vs K)(k:∀v,K v->G [v]):G vs:=by
 match vs,h with
 | [v],h=>exact k v h
theorem cf0{vs:List V}{K:V->V->Prop}{G:List V->Prop}(h:cB6 vs K)(k:∀v w,K v w->G [v,w]):G vs:=by
 match vs,h with
 | [v,w],h=>exact k v w h
noncomputable abbrev BiG(X:Cx)(n:Nat)(P:Prop)(K:V->Prop)(f:Value)(vs:List V):Prop:=∃w,Pu X n vs (λrs=>call f rs) (λφ=>RV X φ w)/\P/\K w
set_option tactic.hygienic true in
theorem ch9{v:V}{K:V->Prop}(p:P)(h:ct4 v K):BiG X n P K (.builtin "len") [v]:=by
 cases v<;>first|exact h.elim|skip
 case bytes l=>exact⟨_,bj3 h.1,p,h.2⟩
 case lst l=>exact⟨_,bk8 h.1,p,h.2⟩
theorem cs6{k:Nat}{x:String}{vs:List V}{K:V->Prop}(e:biN k=some x)(p:P)(h:biW k vs K):BiG X n P K (.builtin x) vs:=by
 match k,e,h with
 |0,e,h=>cases e;exact ab5 h λv h=>ch9 p h
 |1,e,h=>cases e;exact ab5 h λv h=>D0 (G:=λv=>BiG X n P K _ [v]) h λi h=>⟨_,bR6,p,h⟩
 |2,e,h=>cases e;exact cf0 h λv w h=>x7 (G:=λv w=>BiG X n P K _ [v,w]) h λa b h=>⟨_,cb1,p,h⟩
 |3,e,h=>cases e;exact ab5 h λv h=>aq2 (G:=λv=>BiG X n P K _ [v]) h λl h=>⟨_,bU9 h.1,p,h.2⟩
 |4,e,h=>cases e;exact ab5 h λv h=>⟨_,bc9 h.1,p,h.2⟩
theorem ca1{vs:List V}{K:V->Prop}(p:P)(h:cy2 vs K):BiG X n P K (.type "bytes") vs:=
 ab5 h λv h=>aq2 (G:=λv=>BiG X n P K _ [v]) h λl h=>⟨_,aZ0 h.1.1 h.1.2.1 (sz h.1.2.2),p,h.2⟩
noncomputable abbrev PG(X:Cx)(F:Frm)(n:Nat)(st:St)(K:Int->Prop)(e:Expr):Prop:=∃i,EvP X F n e st (.int i)/\K i
theorem bg{x:Str}{q q':Pos}{fs:List (String×Fv)}{l:Bs}(B:Bnd F)(h1:F.nm[0]? =some x)(h3:st.loc[0]? =some .me)(h4:st.me=some fs)(h5:fs[9]? =some ("buffer", .buf l)):EvG X F n (.Attribute (.Name x q) (cV1 "buffer") q') st l:=
 bo0 0 9 B.O B.K (B.ft (j:=9) rfl) h1 h3 h4 h5 (B.d h1)
theorem as5{e:Expr}{x:String}{p:Expr->Bool}{G:Expr->Prop}(h:gcE F.env e x (λas=>one as p)=true)(k:∀a q q',F.scope.names.lookup (cV1 x)=some .globalImplicit->(cV1 x== ("__debug__":Str))=false->E7 a=true->p a=true->G (.Call (.Name (cV1 x) q') [a] [] q)):G e:=
 aG0 h λas q q' h1 h2 ho h=>aB2 (G:=λas=>as.all E7=true->G (.Call _ as [] q)) h (λa h ho=>k a q q' h1 h2 (a1 ho) h) ho
theorem ag5(B:Bnd F)(hn:r7 st.me):∀(d:Sn) (e:Expr) (K:Int->Prop),chP F.env F.nm d e=true->pD st d K->PG X F n st K e
 | .int i,e,K,hc,h=>vw e hc λH H H=>⟨i,bh3,h⟩
 | .loc i,e,K,hc,h=>v5 hc λx q hx=>az5 h λv h1 h=>D0 (G:=λv=>st.loc[i]? =some (.val v)->PG X F n st K (.Name x q)) h (λa h h1=>⟨a,bm2 i B.O hx h1 (B.d hx),h⟩) h1
 | .add a b,e,K,hc,h=>vw e hc λc z hc=>(ag5 B hn a _ _ (a1 hc) h).elim λx h=>(ag5 B hn b _ _ (a2 hc) h.2).elim λy k=>⟨_,aC0 h.1 k.1 av5,k.2⟩
 | .sub a b,e,K,hc,h=>vw e hc λc z hc=>(ag5 B hn a _ _ (a1 hc) h).elim λx h=>(ag5 B hn b _ _ (a2 hc) h.2).elim λy k=>⟨_,aC0 h.1 k.1 aT3,k.2⟩
 | .len,e,K,hc,h=>as5 hc λa q q' h1 h2 ho hb=>G6 (G:=λa=>E7 a=true->PG X F n st K (.Call _ [a] [] q)) hb (λx q1 q2 hx ho=>af1 hn h λfs l h3 h4 h5 h=>⟨_,ab4 B.O h1 (aL5 _) (bg B hx h3 h4 h5) h.1 h2,h.2⟩) ho
theorem aC5(B:Bnd F)(hn:r7 st.me)(o:Option Sn)(e:Option Expr)(K:Option Int->Prop)(hc:chR F.env F.nm o e=true)(h:pO st o K):∃i,PB X F n st e i/\K i:=by
 match o,e,hc,h with
 |none,none,_,h=>exact⟨none,trivial,h⟩
 |some d,some e,hc,h=>exact(ag5 B hn d e _ hc h).elim λi h=>⟨some i,h⟩
end
section
variable {X:Cx} {F:Frm} {n:Nat} {R:List UInt8->Prop}
noncomputable abbrev Kn{α:Type}(Q:α->St->Prop):α->St->Prop:=λv st=>r7 st.me/\Q v st
theorem ca6{x y z pos}{l}{st:St}{Q:V->St->Prop}(h:Ev X F n x st (λv st1=>∃b,PuT X n v b/\(b=true->Q v st1)/\(b=false->Ev X F n (.BoolOp .Or (y::z::l) pos) st1 Q R)) R):Ev X F n (.BoolOp .Or (x::y::z::l) pos) st Q R:=
 λA s φ ω Qr Er hA hI hQ hE=>by
  show d6 _ A (do
   let v ←eval x F.env
   dd4 pos
   let t ←dc2 [v] (truthy v)
   match BoolOp.Or,t with
   | .And,false| .Or,true=>pure v
   |_,_=>boolOp pos .Or (evalEach (y::z::l) F.env)) Qr Er s
  refine a0 (h A s φ ω _ Er hA hI (λv st1 r₁ s₁ φ1 ω₁ ⟨b,hp,h1,h2⟩ hI1 hl1 hv=>i6 (a0 (i4
   (i9 <| hp F A s₁ φ1 ω₁ st1 _ Er _ hA hI1 (.one hv) λc s₃ φ3 hI3 hl3 hr=> ?_)))) hE)
  subst hr
  cases c with
  |false=>exact h2 rfl A s₃ φ3 ω₁ Qr Er hA hI3 (λv' st2 r₂ s₂ φ2 ω₂ hq2 hI2 hl₂ hv₂=>hQ _ _ _ _ _ _ hq2 hI2 (hl1.trans (hl3.trans hl₂)) hv₂) hE
  |true=>exact b7 (hQ _ _ _ _ _ _ (h1 rfl) hI3 (hl1.trans hl3) (hv.mono hl3))
variable (X F n R)in
noncomputable abbrev SD(d:Nd):Prop:=∀e st Q,C8 F.env F.nm d e=true->r7 st.me->x9 X n R d st Q->Ev X F n e st (Kn Q) R
variable (X F n R)in
noncomputable abbrev SL(d:Nd):Prop:=∀es pos st Q,chL F.env F.nm d es=true->es.all E7=true->r7 st.me->evL X n R d st Q->Evs X F n es pos st (Kn Q) R
variable (X F n R)in
noncomputable abbrev SO(d:Nd):Prop:=∀e st Q,chO F.env F.nm d e=true->r7 st.me->evO X n R d st Q->EvB X F n e st (Kn Q) R
variable (X F n R)in
noncomputable abbrev ST(d:Nd):Prop:=∀e st Q,chT F.env F.nm d e=true->r7 st.me->evT X n R d st Q->Tst X F n e st (Kn Q) R
variable (X F n R)in
noncomputable abbrev SA(d:Nd):Prop:=∀es st Q,chA F.env F.nm d es=true->r7 st.me->evA X n R d st Q->All X F n .And es st (Kn Q) R
variable (X F n R)in
noncomputable abbrev SN(d:Nd):Prop:=∀es st Q,chA F.env F.nm d es=true->r7 st.me->evN X n R d st Q->All X F n .Or es st (Kn Q) R
theorem vd{β ζ:Type}{mk:β->ζ->Expr}{st:St}{Q:V->St->Prop}(e:Expr){o:Vw mk e}{p:β->Bool}(h:on o p=true)(k:∀c z,p c=true->Ev X F n (mk c z) st (Kn Q) R):Ev X F n e st (Kn Q) R:=vw (G:=λe=>Ev X F n e st (Kn Q) R) e h k
theorem vt{β ζ:Type}{mk:β->ζ->Expr}{st:St}{Q:Bool->St->Prop}(e:Expr){o:Vw mk e}{p:β->Bool}(h:on o p=true)(k:∀c z,p c=true->Tst X F n (mk c z) st (Kn Q) R):Tst X F n e st (Kn Q) R:=vw (G:=λe=>Tst X F n e st (Kn Q) R) e h k
theorem ca8{o a b}(ha:SD X F n R a)(hb:SD X F n R b):SD X F n R (.bin o a b):=λe st Q hc hn h=>vd e hc λc z hc=>
 aj9 ((ha _ _ _ (a1 hc) hn h).mono λv st1 h=>(hb _ _ _ (a2 hc) h.1 h.2).mono λw st2 h=>bO8 h.1 h.2)
theorem bR8{a}(ha:SD X F n R a):SD X F n R (.neg a):=λe st Q hc hn h=>vd e hc λc z hc=>
 bK6 ((ha _ _ _ hc hn h).mono λv st1 h=>D0 (G:=λv=>∃w,Pu1 X n (unaryOp .USub) v w/\Kn Q w st1) h.2 λi k=>⟨_,bZ8,h.1,k⟩)
theorem bp8{a}(ha:SD X F n R a):SD X F n R (.tnot a):=λe st Q hc hn h=>vd e hc λc z hc=>
 bK6 ((ha _ _ _ hc hn h).mono λv st1 h=>(S9 h.1 h.2).elim λt k=>⟨_,ca0 k.1,k.2⟩)
theorem cg6{o a b}(ha:SD X F n R a)(hb:SD X F n R b):SD X F n R (.cmp o a b):=λe st Q hc hn h=>vd e hc λc z hc=>
 ay2 ((ha _ _ _ (a1 (a1 hc)) hn h).mono λv st1 h=>(hb _ _ _ (a2 (a1 hc)) h.1 h.2).mono λw st2 h=>(S5 h.1 h.2).elim λr k=>⟨_,k⟩) (G8 (a2 hc))
theorem cc1{o a b}(ha:SD X F n R a)(hb:SD X F n R b):ST X F n R (.cmp o a b):=λe st Q hc hn h=>vt e hc λc z hc=>
 ah8 ((ha _ _ _ (a1 (a1 hc)) hn h).mono λv st1 h=>(hb _ _ _ (a2 (a1 hc)) h.1 h.2).mono λw st2 h=>S5 h.1 h.2) (G8 (a2 hc))
theorem bW6{a b}(ha:SD X F n R a)(hb:SD X F n R b):SD X F n R (.neq a b):=λe st Q hc hn h=>vd e hc λc z hc=>
 ay2 ((ha _ _ _ (a1 (a1 hc)) hn h).mono λv st1 h=>(hb _ _ _ (a2 (a1 hc)) h.1 h.2).mono λw st2 h=>(cz9 (K:=λb=>Q (.bool b) st2) h.1 h.2).elim λr k=>⟨_,k⟩) (G8 (a2 hc))
theorem ch1{a b}(ha:SD X F n R a)(hb:SD X F n R b):ST X F n R (.neq a b):=λe st Q hc hn h=>vt e hc λc z hc=>
 ah8 ((ha _ _ _ (a1 (a1 hc)) hn h).mono λv st1 h=>(hb _ _ _ (a2 (a1 hc)) h.1 h.2).mono λw st2 h=>cz9 (K:=λb=>Q b st2) h.1 h.2) (G8 (a2 hc))
theorem bV1{a b}(ha:SD X F n R a)(hb:SD X F n R b):SD X F n R (.eql a b):=λe st Q hc hn h=>vd e hc λc z hc=>
 ay2 ((ha _ _ _ (a1 (a1 hc)) hn h).mono λv st1 h=>(hb _ _ _ (a2 (a1 hc)) h.1 h.2).mono λw st2 h=>(bF6 (K:=λb=>Q (.bool b) st2) h.1 h.2).elim λr k=>⟨_,k⟩) (G8 (a2 hc))
theorem bU5{a b}(ha:SD X F n R a)(hb:SD X F n R b):ST X F n R (.eql a b):=λe st Q hc hn h=>vt e hc λc z hc=>
 ah8 ((ha _ _ _ (a1 (a1 hc)) hn h).mono λv st1 h=>(hb _ _ _ (a2 (a1 hc)) h.1 h.2).mono λw st2 h=>bF6 (K:=λb=>Q b st2) h.1 h.2) (G8 (a2 hc))
theorem aD8{o o':CmpOp}{a b:Expr}(h:E7 b=true):lastMarks [o,o'] [a,b]=false:=by
 show behindInMarks o' b=false
 exact G8 h
theorem ce9{o o' a b c}(ha:SD X F n R a)(hb:SD X F n R b)(hc':SD X F n R c):SD X F n R (.chn o o' a b c):=λe st Q hc hn h=>vd e hc λq z hc=>
 aP5 ((ha _ _ _ (a1 (a1 (a1 hc))) hn h).mono λv st1 h=>(hb _ _ _ (a2 (a1 (a1 hc))) h.1 h.2).mono λw st2 h=>(S5 h.1 h.2).elim λr k=>⟨r,k.1,λe=>⟨k.2.1,k.2.2.1 e⟩,λe=>(hc' _ _ _ (a2 (a1 hc)) k.2.1 (k.2.2.2 e)).mono λu st3 h=>(S5 h.1 h.2).elim λr k=>⟨_,k⟩⟩) (aD8 (a2 hc))
theorem bY8{o o' a b c}(ha:SD X F n R a)(hb:SD X F n R b)(hc':SD X F n R c):ST X F n R (.chn o o' a b c):=λe st Q hc hn h=>vt e hc λq z hc=>
 aF5 ((ha _ _ _ (a1 (a1 (a1 hc))) hn h).mono λv st1 h=>(hb _ _ _ (a2 (a1 (a1 hc))) h.1 h.2).mono λw st2 h=>(S5 h.1 h.2).elim λr k=>⟨r,k.1,λe=>⟨k.2.1,k.2.2.1 e⟩,λe=>(hc' _ _ _ (a2 (a1 hc)) k.2.1 (k.2.2.2 e)).mono λu st3 h=>S5 h.1 h.2⟩) (aD8 (a2 hc))
theorem cd3{a b}(ha:SD X F n R a)(hb:SD X F n R b):SD X F n R (.and a b):=λe st Q hc hn h=>aS9 (G:=λe=>Ev X F n e st (Kn Q) R) hc
 (λx y z h1 h2=>be1 ((ha _ _ _ h1 hn h).mono λv st1 h=>(S9 h.1 h.2).elim λt k=>⟨t,k.1,λe=>hb _ _ _ h2 k.2.1 (k.2.2.1 e),λe=>⟨k.2.1,k.2.2.2 e⟩⟩))
 (λx y w l z h1 h2=>bl9 ((ha _ _ _ h1 hn h).mono λv st1 h=>(S9 h.1 h.2).elim λt k=>⟨t,k.1,λe=>hb _ _ _ h2 k.2.1 (k.2.2.1 e),λe=>⟨k.2.1,k.2.2.2 e⟩⟩))
theorem cw6{a b}(ha:SD X F n R a)(hb:SD X F n R b):SD X F n R (.or a b):=λe st Q hc hn h=>aS9 (G:=λe=>Ev X F n e st (Kn Q) R) hc
 (λx y z h1 h2=>bT7 ((ha _ _ _ h1 hn h).mono λv st1 h=>(S9 h.1 h.2).elim λt k=>⟨t,k.1,λe=>⟨k.2.1,k.2.2.1 e⟩,λe=>hb _ _ _ h2 k.2.1 (k.2.2.2 e)⟩))
 (λx y w l z h1 h2=>ca6 ((ha _ _ _ h1 hn h).mono λv st1 h=>(S9 h.1 h.2).elim λt k=>⟨t,k.1,λe=>⟨k.2.1,k.2.2.1 e⟩,λe=>hb _ _ _ h2 k.2.1 (k.2.2.2 e)⟩))
theorem ci1{t a b}(ht:ST X F n R t)(ha:SD X F n R a)(hb:SD X F n R b):SD X F n R (.ife t a b):=λe st Q hc hn h=>vd e hc λc z hc=>
 ct5 ((ht _ _ _ (a1 (a1 hc)) hn h).mono λc st1 h=>⟨λe=>ha _ _ _ (a2 (a1 hc)) h.1 (h.2.1 e),λe=>hb _ _ _ (a2 hc) h.1 (h.2.2 e)⟩)
theorem E6{α:Type}{es:List α}{G:List α->Prop}(h:es.isEmpty=true)(k:G []):G es:=by
 cases es with
 |nil=>exact k
 |cons=>exact cV2 h
theorem cc4:SL X F n R .nil:=λes pos st Q hc H hn h=>E6 (G:=λes=>Evs X F n es pos st (Kn Q) R) hc (ai8 ⟨hn,h⟩)
theorem bm3{a b}(ha:SD X F n R a)(hb:SL X F n R b):SL X F n R (.cons a b):=λes pos st Q hc ho hn h=>by
 cases es with
 |nil=>exact cV2 hc
 |cons e es=>exact I9 ((ha _ _ _ (a1 hc) hn h).mono λv st1 h=>(hb _ _ _ _ (a2 hc) (a2 ho) h.1 h.2)) (w5 (a1 ho))
theorem cx4:SO X F n R .no:=λe st Q hc hn h=>by
 cases e with
 |none=>exact aZ4 ⟨hn,h⟩
 |some e=>exact cV2 hc
theorem bc8{a b}(ha:SD X F n R a):SO X F n R (.cons a b):=λe st Q hc hn h=>by
 cases e with
 |none=>exact cV2 hc
 |some e=>exact aS5 ((ha _ _ _ hc hn h).mono λv st1 h=>D0 (G:=λv=>∃i,v= .int i/\Kn Q (some i) st1) h.2 λi k=>⟨i,rfl,h.1,k⟩)
theorem ch7{l}(hl:SL X F n R l):SD X F n R (.tup l):=λe st Q hc hn h=>vd e hc λc z hc=>
 aZ6 ((hl _ _ _ _ (a2 hc) (a1 hc) hn h).mono λvs st1 h=>⟨sz h.2.1,h.1,h.2.2⟩)
theorem bX5{l}(hl:SL X F n R l):SD X F n R (.lst l):=λe st Q hc hn h=>vd e hc λc z hc=>
 bl8 ((hl _ _ _ _ (a2 hc) (a1 hc) hn h).mono λvs st1 h=>⟨sz h.2.1,h.1,h.2.2⟩)
theorem bi4{t}(ht:ST X F n R t):ST X F n R (.tnot t):=λe st Q hc hn h=>vt e hc λc z hc=>bm7 (ht _ _ _ hc hn h)
theorem bh5{l}(hl:SA X F n R l):ST X F n R (.tall l):=λe st Q hc hn h=>vt e hc λc z hc=>ar8 (hl _ _ _ hc hn h)
theorem bj5{l}(hl:SN X F n R l):ST X F n R (.tany l):=λe st Q hc hn h=>vt e hc λc z hc=>ar8 (hl _ _ _ hc hn h)
theorem bY3{a b}(ha:SD X F n R a):ST X F n R (.cons a b):=λe st Q hc hn h=>
 bp4 ((ha _ _ _ (a2 hc) hn h).mono λv st1 h=>S9 h.1 h.2) (aO7 (a1 hc))
theorem ce3:SA X F n R .nil:=λes st Q hc hn h=>E6 (G:=λes=>All X F n .And es st (Kn Q) R) hc (bq0 ⟨hn,h⟩)
theorem cf8:SN X F n R .nil:=λes st Q hc hn h=>E6 (G:=λes=>All X F n .Or es st (Kn Q) R) hc (bO2 ⟨hn,h⟩)
theorem bp3{a b}(ha:ST X F n R a)(hb:SA X F n R b):SA X F n R (.cons a b):=λes st Q hc hn h=>by
 cases es with
 |nil=>exact cV2 hc
 |cons e es=>exact bb6 ((ha _ _ _ (a1 hc) hn h).mono λc st1 h=>⟨λe=>hb _ _ _ (a2 hc) h.1 (h.2.1 e),λe=>⟨h.1,h.2.2 e⟩⟩)
theorem bj9{a b}(ha:ST X F n R a)(hb:SN X F n R b):SN X F n R (.cons a b):=λes st Q hc hn h=>by
 cases es with
 |nil=>exact cV2 hc
 |cons e es=>exact bh4 ((ha _ _ _ (a1 hc) hn h).mono λc st1 h=>⟨λe=>⟨h.1,h.2.1 e⟩,λe=>hb _ _ _ (a2 hc) h.1 (h.2.2 e)⟩)
theorem ce7{a b}(ha:SD X F n R a)(hb:SD X F n R b):SD X F n R (.sub a b):=λe st Q hc hn h=>vd e hc λc z hc=>
 bW3 ((ha _ _ _ (a1 (a1 hc)) hn h).mono λv st1 h=>(hb _ _ _ (a2 (a1 hc)) h.1 h.2).mono λw st2 h=>bV4 h.1 h.2) (bf8 (a2 hc))
theorem bS0{a b c}(ha:SD X F n R a)(hb:SO X F n R b)(hc':SO X F n R c):SD X F n R (.slc a b c):=λe st Q hc hn h=>vd e hc λc z hc=>
 aZ9 ((ha _ _ _ (a1 (a1 hc)) hn h).mono λv st1 h=>(hb _ _ _ (a2 (a1 hc)) h.1 h.2).mono λi st2 h=>(hc' _ _ _ (a2 hc) h.1 h.2).mono λj st3 h=>bU3 h.1 h.2)
end
section
variable {X:Cx} {F:Frm} {n:Nat} {R:List UInt8->Prop}
theorem bT0:SD X F n R .non:=λe st Q hc hn h=>vd e hc λH H H=>bn7 ⟨hn,h⟩
theorem bX7{b}:SD X F n R (.boo b):=λe st Q hc hn h=>vd e hc λH H H=>be9 ⟨hn,h⟩
theorem bY5{b}:SD X F n R (.int b):=λe st Q hc hn h=>vd e hc λH H H=>bV8 ⟨hn,h⟩
theorem bV2{b}:SD X F n R (.byt b):=λe st Q hc hn h=>vd e hc λH H H=>Z9 ⟨hn,h⟩
theorem cb2{i}(B:Bnd F):SD X F n R (.loc i):=λe st Q hc hn h=>vd e hc λx q hx=>
 az5 h λv h3 h=>u5 i B.O (O3 hx) h3 ⟨hn,h⟩ (B.d (O3 hx))
theorem fdk{x:String}{e:Expr}{st:St}{Q:V->St->Prop}(h:fnE F.env e x=true)(k:∀q,F.scope.names.lookup (cV1 x)=some .globalImplicit->(cV1 x== ("__debug__":Str))=false->Ev X F n (.Name (cV1 x) q) st (Kn Q) R):Ev X F n e st (Kn Q) R:=ca2 (G:=λe=>Ev X F n e st (Kn Q) R) h k
theorem cdk{x:String}{e:Expr}{p:List Expr->Bool}{st:St}{Q:V->St->Prop}(h:gcE F.env e x p=true)(k:∀as q q',F.scope.names.lookup (cV1 x)=some .globalImplicit->(cV1 x== ("__debug__":Str))=false->as.all E7=true->p as=true->Ev X F n (.Call (.Name (cV1 x) q') as [] q) st (Kn Q) R):Ev X F n e st (Kn Q) R:=aG0 (G:=λe=>Ev X F n e st (Kn Q) R) h k
theorem bS2{x:String}{e:Expr}{p:Expr->Bool}{st:St}{Q:V->St->Prop}(h:gcE F.env e x (λas=>one as p)=true)(k:∀a q q',F.scope.names.lookup (cV1 x)=some .globalImplicit->(cV1 x== ("__debug__":Str))=false->E7 a=true->p a=true->Ev X F n (.Call (.Name (cV1 x) q') [a] [] q) st (Kn Q) R):Ev X F n e st (Kn Q) R:=as5 (G:=λe=>Ev X F n e st (Kn Q) R) h k
theorem mdk{x:String}{e:Expr}{p:Expr->List Expr->Bool}{st:St}{Q:V->St->Prop}(h:mcE e x p=true)(k:∀a as (q q':Pos),(q'.endLine==q.line)=true->as.all E7=true->as.length < 30->p a as=true->Ev X F n (.Call (.Attribute a (cV1 x) q') as [] q) st (Kn Q) R):Ev X F n e st (Kn Q) R:=cU1 (G:=λe=>Ev X F n e st (Kn Q) R) h k
theorem cF4{k}(B:Bnd F):SD X F n R (.gi k):=λe st Q hc hn h=>L9 hc λt ht hc=>fdk hc λq h1 h2=>bm0 B.O h1 (bC8 ht) ⟨hn,F8 (K:=λt:String×Int=>Q (.int t.2) st) ht h⟩ h2
theorem cj4{k}(B:Bnd F):SD X F n R (.gv k):=λe st Q hc hn h=>L9 hc λt ht hc=>fdk hc λq h1 h2=>(bD5 (X:=X) ht).elim λr g=>ai2 B.O h1 g.1 g.2 ⟨hn,F8 (K:=λt:String×V=>Q t.2 st) ht h⟩ h2
theorem cd7{i j}(B:Bnd F):SD X F n R (.fld i j):=λe st Q hc hn h=>ak7 (G:=λe=>Ev X F n e st (Kn Q) R) hc λx y q q' hx hy=>
 bv7 hn h λfs x' v h1 h2 h3 h4 h=>by
  obtain rfl:x'=x:=cY2 (h4.symm.trans hx)
  exact cb9 i j B.O B.K (B.ft hx) hy h1 h2 h3 ⟨hn,h⟩ (B.d hy)
theorem cu8{k:Nat}{t:Nat×Nat×String}{v:V}{K:V->Prop}{P:Prop}(ht:rtT[k]? =some t)(hn:P)(h:rfW k v K):∃fs w,v= .rcd t.1 fs/\fs[t.2.1]? =some (t.2.2,w)/\P/\K w:=
 cu1 (G:=λv=>∃fs w,v= .rcd t.1 fs/\fs[t.2.1]? =some (t.2.2,w)/\P/\K w) (F8 (K:=λt:Nat×Nat×String=>bV9 v λC' fs=>C'=t.1/\H8 fs[t.2.1]? λp=>p.1=t.2.2/\K p.2) ht h) λC fs h=>at7 h.2 λp hp k=>⟨fs,p.2,h.1▸rfl,k.1▸hp,hn,k.2⟩
theorem co5{k a}(ha:SD X F n R a):SD X F n R (.rf k a):=λe st Q hc hn h=>L9 hc λt ht hc=>vd e hc λc z hc=>
 bg0 t.2.1 (bG4 (X:=X) ht).1 (bG4 (X:=X) ht).2 ((ha _ _ _ (a2 hc) hn h).mono λv st1 h=>cu8 ht h.1 h.2) (aT8 (a1 hc))
theorem bs8{f C vs me}{st:St}{Q:V->Prop}(hn:r7 st.me)(h:Cs X n f C vs me (λv H=>Q v) R):Cs X n f C vs me (λv H=>r7 st.me/\Q v) R:=h.mono (λH H q=>⟨hn,q⟩) λH q=>q
theorem bc6{E:Env}{nm:List Str}{l:Nd}{st:St}{Q:List V->St->Prop}(hc:chL E nm l []=true)(h:evL X n R l st Q):Q [] st:=by
 cases l with
 |nil=>exact h
 |_=>exact aA5 hc
theorem ab3{l:Nd}{as:List Expr}{q:Pos}{st:St}{K:List V->St->Prop}{G:List Expr->Prop}(hl:SL X F n R l)(hc:chL F.env F.nm l as=true)(ho:as.all E7=true)(hn:r7 st.me)(h:evL X n R l st K)(k0:K [] st->G [])
 (k1:∀a as,(cW7 (a::as) F.env=(false,eval a F.env)::cW7 as F.env)->(backTo q (cW7 as F.env)).any (·.1)=false->Evs X F n (a::as) q st (Kn K) R->G (a::as)):G as:=by
 cases as with
 |nil=>exact k0 (bc6 hc h)
 |cons a as=>exact k1 a as (w5 (a1 ho)) (aR8 _ (a2 ho) _) (hl _ q st _ hc ho hn h)
theorem am2{k:Nat}{t:String×Nat}{vs:List V}{Q:V->Prop}(e:gfT[k]? =some t)(h:bG2 X n R k vs Q):Cs X n (.ref t.2) 0 vs none (λv H=>Q v) R:=F8 (K:=λt:String×Nat=>Cs X n (.ref t.2) 0 vs none (λv H=>Q v) R) e h
theorem bf5{k l}(B:Bnd F)(hl:SL X F n R l):SD X F n R (.call k l):=λe st Q hc hn h=>L9 hc λt ht hc=>cdk hc λas q q' h1 h2 ho hc=>
 have g:=aE4 (X:=X) ht
 ab3 (q:=q) (G:=λas=>Ev X F n (.Call _ as [] q) st (Kn Q) R) hl hc ho hn h (λh=>an6 B.O h1 (E9 (a1 g)) (a2 g) (bs8 hn (am2 ht h)) h2)
  λa as g1 g2 k=>br1 B.O h1 (E9 (a1 g)) (a2 g) (k.mono λvs st1 h=>bs8 h.1 (am2 ht h.2)) h2 g1 g2
theorem aB5{k i:Nat}{t:String×Nat}{vs:List V}{st:St}{Q:V->St->Prop}(B:Bnd F)(ht:mtT[k]? =some t)(h:bF2 X n R i k vs st Q):∃fs1,st.me=some fs1/\Cs X n (.ref t.2) F.C vs (some fs1) (λv me'=>Kn Q v {st with me:=me'}) R:=
 ar9 (F8 (K:=λt:String×Nat=>meW st i λfs=>Cs X n (.ref t.2) 465 vs (some fs) (λv me'=>r7 me'/\Q v {st with me:=me'}) R) ht h) λfs H e h=>⟨fs,e,B.C▸h⟩
theorem cD1{x:Str}(h:x∉fn465.map cV1){fs:List (String×Fv)}(hn:fs.map (·.1)=fn465.take fs.length):x∉nmS fs:=λhx=>by
 have e:nmS fs=(fs.map (·.1)).map cV1:=by rw[List.map_map];rfl
 rw[e,hn]at hx
 obtain⟨y,hy,rfl⟩:=List.mem_map.mp hx
 exact h (List.mem_map_of_mem (List.mem_of_mem_take hy))
theorem bi2{i k l}(B:Bnd F)(hl:SL X F n R l):SD X F n R (.meth i k l):=λe st Q hc hn h=>L9 hc λt ht hc=>mdk hc λa as q q' hli ho hlen hc=>
 v5 (G:=λa=>Ev X F n (.Call (.Attribute a _ q') as [] q) st (Kn Q) R) (a1 hc) λy p hy=>
  ar9 h λfs e1 e2 h=>
   have M:=co0 (X:=X) ht
   have f:∀as:List Expr,as.all E7=true->as.length < 30->aA4 F (.Name y p) (cV1 t.1) q' q as:=λas ho hlen=>C4 hli ho hlen rfl
   have ms:=cD1 M.2 (hn fs e2)
   ab3 (q:=q) (G:=λas=>aA4 F (.Name y p) (cV1 t.1) q' q as->Ev X F n (.Call (.Attribute (.Name y p) _ q') as [] q) st (Kn Q) R) hl (a2 hc) ho hn h
    (λh f=>(aB5 B ht h).elim λfs' k=>aM5 i B.O B.K (B.mt M.1) hy e1 e2 ms (cY2 (e2.symm.trans k.1)▸k.2) (B.d hy) f)
    (λa as g1 g2 k f=>bo2 i B.O B.K (B.mt M.1) hy e1 e2 ms (k.mono λvs st1 h=>aB5 B ht h.2) (B.d hy) g1 g2 f) (f as ho hlen)
theorem cA0{k l}(B:Bnd F)(hl:SL X F n R l):SD X F n R (.bi k l):=λe st Q hc hn h=>L9 hc λx hx hc=>cdk hc λas q q' h1 h2 ho hc=>
 ab3 (q:=q) (G:=λas=>as.isEmpty=false->Ev X F n (.Call _ as [] q) st (Kn Q) R) hl (a2 hc) ho hn h (λH e=>by exact cV2 e)
  (λa as g1 g2 k H=>cz6 B.O h1 (cu6 hx) (k.mono λvs st1 h=>cs6 hx h.1 h.2) h2 g1 g2) (by have:=a1 hc;rwa[db8]at this)
theorem ch6{l}(B:Bnd F)(hl:SL X F n R l):SD X F n R (.tyb l):=λe st Q hc hn h=>cdk hc λas q q' h1 h2 ho hc=>
 ab3 (q:=q) (G:=λas=>as.isEmpty=false->Ev X F n (.Call _ as [] q) st (Kn Q) R) hl (a2 hc) ho hn h (λH e=>by exact cV2 e)
  (λa as g1 g2 k H=>cE1 B.O h1 (X6 _) (k.mono λvs st1 h=>ca1 h.1 h.2) h2 g1 g2) (by have:=a1 hc;rwa[db8]at this)
theorem bd5(B:Bnd F):SD X F n R .lenb:=λe st Q hc hn h=>bS2 hc λa q q' h1 h2 ho hc=>G6 (G:=λa=>Ev X F n (.Call _ [a] [] q) st (Kn Q) R) hc λx q1 q2 hx=>
 af1 hn h λfs l h3 h4 h5 h=>EvP.ev (ab4 B.O h1 (aL5 _) (bg B hx h3 h4 h5) h.1 h2) ⟨hn,h.2⟩
theorem bm1(B:Bnd F):SD X F n R .bytb:=λe st Q hc hn h=>bS2 hc λa q q' h1 h2 ho hc=>G6 (G:=λa=>Ev X F n (.Call _ [a] [] q) st (Kn Q) R) hc λx q1 q2 hx=>
 af1 hn h λfs l h3 h4 h5 h=>U2 B.O h1 (X6 _) (EvG.evf (bg B hx h3 h4 h5) ⟨h.1,hn,h.2⟩) h2
theorem bk6{lo hi}(B:Bnd F):SD X F n R (.bytc lo hi):=λe st Q hc hn h=>bS2 hc λa q q' h1 h2 ho hc=>vw (G:=λa=>Ev X F n (.Call _ [a] [] q) st (Kn Q) R) a hc λc z hc=>
 G6 (G:=λa=>Ev X F n (.Call _ [.Subscript a _ _] [] q) st (Kn Q) R) (a1 (a1 hc)) λx q1 q2 hx=>
  af1 hn h λfs l h3 h4 h5 h=>(aC5 B hn _ _ _ (a2 (a1 hc)) h.2).elim λi p1=>(aC5 B hn _ _ _ (a2 hc) p1.2).elim λj p2=>
   U2 B.O h1 (X6 _) (aB7 (EvG.evf (bg B hx h3 h4 h5) ⟨h.1,i,j,p1.1,p2.1,cV5 (ay3 _ _ _) h.1,hn,p2.2⟩)) h2
set_option tactic.hygienic true in
theorem aY5{fs:List (String×Fv)}{x:String}{f g:Fv}{j:Nat}(hn:fs.map (·.1)=fn465.take fs.length)(h:fs[j]? =some (x,f)):(fs.set j (x,g)).map (·.1)=fn465.take (fs.set j (x,g)).length:=by
 rw[List.map_set,List.length_set, ←hn]
 refine List.ext_getElem? λi=> ?_
 rw[db0]
 split
 ·rename_i e
  subst e
  have hlt:=(cX6.mp h).1
  rw[cX2,h,cW3,if_pos hlt];rfl
 ·rfl
theorem bq2{x:String}{e:Expr}{p:Expr->Bool}{p':Expr->Bool}{st:St}{Q:V->St->Prop}(h:mcE e x (λb as=>p b&&one as p')=true)(k:∀b a (q q':Pos),(q'.endLine==q.line)=true->E7 a=true->p b=true->p' a=true->Ev X F n (.Call (.Attribute b (cV1 x) q') [a] [] q) st (Kn Q) R):Ev X F n e st (Kn Q) R:=
 mdk h λb as q q' h1 h2 H h=>aB2 (G:=λas=>as.all E7=true->Ev X F n (.Call (.Attribute b _ q') as [] q) st (Kn Q) R) (a2 h) (λa h' ho=>k b a q q' h1 (a1 ho) (a1 h) h') h2
theorem ok1{a:Expr}(h:E7 a=true): [a].all E7=true:=by rw[List.all_cons,h];rfl
theorem bq1{a}(B:Bnd F):SD X F n R (.bapp a):=λe st Q hc hn h=>bq2 hc λb a' q q' hli ho hb ha=>
 G6 (G:=λb=>Ev X F n (.Call (.Attribute b _ q') [a'] [] q) st (Kn Q) R) hb λy q1 q2 hy=>
  ar9 h λfs H e2 h=>af1 hn h λfs' l h3 h4 h5 h=>(ag5 (X:=X) (n:=n) B hn _ _ _ ha h).elim λc k=>by
   obtain rfl:fs=fs':=cY2 (e2.symm.trans h4)
   exact al3 0 9 B.O B.K (B.ft (j:=9) rfl) hy h3 h4 h5 k.2.1.2.2.2 k.1 k.2.1.1 k.2.1.2.1 k.2.1.2.2.1 ⟨λgs hg=>cY2 hg▸aY5 (hn fs e2) h5,k.2.2⟩ (B.d hy) (w5 ho) (C4 hli (ok1 ho) (show 1 < 30 by decide) rfl)
theorem cg0{j a}(B:Bnd F)(ha:SD X F n R a):SD X F n R (.app j a):=λe st Q hc hn h=>bq2 hc λb a' q q' hli ho hb hca=>
 v5 (G:=λb=>Ev X F n (.Call (.Attribute b _ q') [a'] [] q) st (Kn Q) R) hb λy p hy=>
  aE5 h λad l₀ e1 h=>aG4 j B.O hy e1 ((ha _ _ _ hca hn h).mono λv st1 h=>aE5 h.2 λad' l e2 k=>⟨l,k.1▸e2,sz k.2.1,h.1,k.2.2⟩) (B.d hy) (w5 ho) (C4 hli (ok1 ho) (show 1 < 30 by decide) rfl)
theorem cD0{k a b}(ha:SD X F n R a)(hb:SD X F n R b):SD X F n R (.vm k a b):=λe st Q hc hn h=>L9 hc λx hx hc=>bq2 hc λo c q q' hli ho ha' hc'=>
 cj9 ((ha _ _ _ (a2 ha') hn h).mono λv st1 h=>(cA7 (X:=X) (n:=n) hx h.2).elim λid h'=>h'.elim λf k=>⟨id,k.1,(hb _ _ _ hc' h.1 k.2.2).mono λw st2 h=>k.2.1 w _ _ h.1 h.2⟩) (w5 ho) (C4 hli (ok1 ho) (show 1 < 30 by decide) (cq2 (a1 ha')))
theorem bj7{t i}(B:Bnd F):SD X F n R (.dget t i):=λe st Q hc hn h=>bq2 (a2 hc) λo c q q' hli ho ho' hc'=>
 vw (G:=λo=>Ev X F n (.Call (.Attribute o _ q') [c] [] q) st (Kn Q) R) o ho' λd z ht=>v5 (G:=λc=>Ev X F n (.Call (.Attribute (.Dict d.1 d.2 z) _ q') [c] [] q) st (Kn Q) R) hc' λy p hy=>
  az5 h λv h3 h=>D0 (G:=λv=>st.loc[i]? =some (.val v)->Ev X F n (.Call (.Attribute (.Dict d.1 d.2 z) _ q') [.Name y p] [] q) st (Kn Q) R) h (λk h h3=>bp1 B.O ht (of_decide_eq_true (a1 (a1 hc))) (of_decide_eq_true (a2 (a1 hc))) hy h3 ⟨hn,h⟩ (B.d hy) (C4 hli rfl (show 1 < 30 by decide) rfl)) h3
theorem bO5{k:Nat}{T:String}(h:tyN k=some T)(i:Int):∀A s Q E,(∀t,Q (.bool (k==1)) {s with toks:=t})->∀u,wpAny X.M A (call (.builtin "isinstance") [.int i u, .type T]) Q E s:=by
 match k,h with
 |0,h=>cases h;exact aF2
 |1,h=>cases h;exact bj8
 |2,h=>cases h;exact aT0
theorem bU0{k a}(B:Bnd F)(ha:SD X F n R a):SD X F n R (.isi k a):=λe st Q hc hn h=>L9 hc λT hT hc=>cdk hc λas q q' h1 h2 ho hc=>
 af5 (G:=λas=>as.all E7=true->Ev X F n (.Call _ as [] q) st (Kn Q) R) hc (λa' b hc ho=>ca2 (G:=λb=>Ev X F n (.Call _ [a',b] [] q) st (Kn Q) R) (a2 hc) λq2 g1 g2=>
  bO9 B.O h1 (ad5 _) g1 (cB7 hT) ((ha _ _ _ (a1 hc) hn h).mono λv st1 h=>D0 (G:=λv=>∃i b,v= .int i/\(∀A s Q E,(∀t,Q (.bool b) {s with toks:=t})->∀u,wpAny X.M A (call (.builtin "isinstance") [.int i u, .type T]) Q E s)/\Kn Q (.bool b) st1) h.2 λi k=>⟨i,_,rfl,bO5 hT i,h.1,k⟩) h2 g2 (w5 (a1 ho))) ho
theorem cb6{j}(B:Bnd F):SD X F n R (.rev j):=λe st Q hc hn h=>mdk hc λb as q q' hli ho H hc=>
 E6 (G:=λas=>Ev X F n (.Call (.Attribute b _ q') as [] q) st (Kn Q) R) (a2 hc) (v5 (G:=λb=>Ev X F n (.Call (.Attribute b _ q') [] [] q) st (Kn Q) R) (a1 hc) λy p hy=>
  aE5 h λad l e1 h=>cc7 j B.O hy e1 (sz h.1) ⟨hn,h.2⟩ (B.d hy) (C4 hli rfl (show 0 < 30 by decide) rfl))
end
section
variable {X:Cx} {F:Frm} {n:Nat} {R:List UInt8->Prop}
variable (X F n R)in
structure Snd(x:Nd):Prop where
 d:SD X F n R x
 l:SL X F n R x
 o:SO X F n R x
 t:ST X F n R x
 a:SA X F n R x
 m:SN X F n R x
theorem nl{d:Nd}(h:∀st Q,evL X n R d st Q->False):SL X F n R d:=λH H H H H H H k=>(h _ _ k).elim
theorem no{d:Nd}(h:∀st Q,evO X n R d st Q->False):SO X F n R d:=λH H H H H k=>(h _ _ k).elim
theorem nt{d:Nd}(h:∀st Q,evT X n R d st Q->False):ST X F n R d:=λH H H H H k=>(h _ _ k).elim
theorem na{d:Nd}(h:∀st Q,evA X n R d st Q->False):SA X F n R d:=λH H H H H k=>(h _ _ k).elim
theorem nn{d:Nd}(h:∀st Q,evN X n R d st Q->False):SN X F n R d:=λH H H H H k=>(h _ _ k).elim
theorem nd{d:Nd}(h:∀st Q,x9 X n R d st Q->False):SD X F n R d:=λH H H H H k=>(h _ _ k).elim
noncomputable abbrev Fa(α:Type):Prop:=∀_:α->St->Prop,False->False
theorem N6:∀_:St,Fa (List V)/\Fa (Option Int)/\Fa Bool/\Fa Bool/\Fa Bool:=λH=>⟨λH=>id,λH=>id,λH=>id,λH=>id,λH=>id⟩
theorem tvT:∀_:St,Fa V/\Fa (List V)/\Fa (Option Int)/\Fa Bool/\Fa Bool:=λH=>⟨λH=>id,λH=>id,λH=>id,λH=>id,λH=>id⟩
theorem tvB:∀_:St,Fa (List V)/\Fa (Option Int)/\Fa Bool/\Fa Bool:=λH=>⟨λH=>id,λH=>id,λH=>id,λH=>id⟩
theorem o9{d:Nd}(hd:SD X F n R d)(h:∀st,(∀Q,evL X n R d st Q->False)/\(∀Q,evO X n R d st Q->False)/\(∀Q,evT X n R d st Q->False)/\(∀Q,evA X n R d st Q->False)/\(∀Q,evN X n R d st Q->False)):Snd X F n R d:=
 ⟨hd,nl λst=>(h st).1,no λst=>(h st).2.1,nt λst=>(h st).2.2.1,na λst=>(h st).2.2.2.1,nn λst=>(h st).2.2.2.2⟩
theorem bK9{d:Nd}(ht:ST X F n R d)(h:∀st,(∀Q,x9 X n R d st Q->False)/\(∀Q,evL X n R d st Q->False)/\(∀Q,evO X n R d st Q->False)/\(∀Q,evA X n R d st Q->False)/\(∀Q,evN X n R d st Q->False)):Snd X F n R d:=
 ⟨nd λst=>(h st).1,nl λst=>(h st).2.1,no λst=>(h st).2.2.1,ht,na λst=>(h st).2.2.2.1,nn λst=>(h st).2.2.2.2⟩
theorem aN6{d:Nd}(hd:SD X F n R d)(ht:ST X F n R d)(h:∀st,(∀Q,evL X n R d st Q->False)/\(∀Q,evO X n R d st Q->False)/\(∀Q,evA X n R d st Q->False)/\(∀Q,evN X n R d st Q->False)):Snd X F n R d:=
 ⟨hd,nl λst=>(h st).1,no λst=>(h st).2.1,ht,na λst=>(h st).2.2.1,nn λst=>(h st).2.2.2⟩
theorem snd(B:Bnd F):∀d:Nd,Snd X F n R d:=by
 intro d
 induction d with
 |nil=>exact⟨nd λH H=>id,cc4,no λH H=>id,nt λH H=>id,ce3,cf8⟩
 |cons a b ha hb=>exact⟨nd λH H=>id,bm3 ha.d hb.l,bc8 ha.d,bY3 ha.d,bp3 ha.t hb.a,bj9 ha.t hb.m⟩
 |no=>exact⟨nd λH H=>id,nl λH H=>id,cx4,nt λH H=>id,na λH H=>id,nn λH H=>id⟩
 |non=>exact o9 bT0 N6
 |boo=>exact o9 bX7 N6
 |int=>exact o9 bY5 N6
 |byt=>exact o9 bV2 N6
 |loc=>exact o9 (cb2 B) N6
 |gi=>exact o9 (cF4 B) N6
 |bin o a b ha hb=>exact o9 (ca8 ha.d hb.d) N6
 |neg a ha=>exact o9 (bR8 ha.d) N6
 |cmp o a b ha hb=>exact aN6 (cg6 ha.d hb.d) (cc1 ha.d hb.d) tvB
 |chn o o' a b c ha hb hc=>exact aN6 (ce9 ha.d hb.d hc.d) (bY8 ha.d hb.d hc.d) tvB
 |and a b ha hb=>exact o9 (cd3 ha.d hb.d) N6
 |or a b ha hb=>exact o9 (cw6 ha.d hb.d) N6
 |ife t a b ht ha hb=>exact o9 (ci1 ht.t ha.d hb.d) N6
 |sub a b ha hb=>exact o9 (ce7 ha.d hb.d) N6
 |slc a b c ha hb hc=>exact o9 (bS0 ha.d hb.o hc.o) N6
 |tup l hl=>exact o9 (ch7 hl.l) N6
 |lst l hl=>exact o9 (bX5 hl.l) N6
 |fld=>exact o9 (cd7 B) N6
 |rf k a ha=>exact o9 (co5 ha.d) N6
 |call k l hl=>exact o9 (bf5 B hl.l) N6
 |meth i k l hl=>exact o9 (bi2 B hl.l) N6
 |bi k l hl=>exact o9 (cA0 B hl.l) N6
 |tyb l hl=>exact o9 (ch6 B hl.l) N6
 |lenb=>exact o9 (bd5 B) N6
 |bytb=>exact o9 (bm1 B) N6
 |bytc=>exact o9 (bk6 B) N6
 |bapp=>exact o9 (bq1 B) N6
 |app j a ha=>exact o9 (cg0 B ha.d) N6
 |vm k a b ha hb=>exact o9 (cD0 ha.d hb.d) N6
 |neq a b ha hb=>exact aN6 (bW6 ha.d hb.d) (ch1 ha.d hb.d) tvB
 |eql a b ha hb=>exact aN6 (bV1 ha.d hb.d) (bU5 ha.d hb.d) tvB
 |dget=>exact o9 (bj7 B) N6
 |gv=>exact o9 (cj4 B) N6
 |isi k a ha=>exact o9 (bU0 B ha.d) N6
 |rev=>exact o9 (cb6 B) N6
 |tnot t ht=>exact aN6 (bp8 ht.d) (bi4 ht.t) tvB
 |tall l hl=>exact bK9 (bh5 hl.a) tvT
 |tany l hl=>exact bK9 (bj5 hl.m) tvT
end
section
section
noncomputable def cM6(c:Stmt):Vw (λ(e:Expr) (z:Pos)=>Stmt.Expr e z) c:=if h:c.ctorIdx=24 then Stmt.Expr.elim (motive_2:=λc=>Vw (λ(e:Expr) (z:Pos)=>Stmt.Expr e z) c) c h (λe p=>some ⟨e,p,rfl⟩)else none
noncomputable def ah0(c:Stmt):Vw (λ(q:Expr×Expr) (z:Pos)=>de4 [q.1] q.2 z) c:=if h:c.ctorIdx=5 then Stmt.Assign.elim (motive_2:=λc=>Vw (λ(q:Expr×Expr) (z:Pos)=>de4 [q.1] q.2 z) c) c h (λw0 e p=>match w0 with| [t]=>some ⟨(t,e),p,rfl⟩|_=>none)else none
noncomputable def cp9(c:Stmt):Vw (λ(q:Expr×Expr) (z:Pos)=>Stmt.AugAssign q.1 .Add q.2 z) c:=if h:c.ctorIdx=7 then Stmt.AugAssign.elim (motive_2:=λc=>Vw (λ(q:Expr×Expr) (z:Pos)=>Stmt.AugAssign q.1 .Add q.2 z) c) c h (λt w1 e p=>match w1 with| .Add=>some ⟨(t,e),p,rfl⟩|_=>none)else none
noncomputable def cU8(c:Stmt):Vw (λ(q:Expr×List Stmt×List Stmt) (z:Pos)=>Stmt.If q.1 q.2.1 q.2.2 z) c:=if h:c.ctorIdx=12 then Stmt.If.elim (motive_2:=λc=>Vw (λ(q:Expr×List Stmt×List Stmt) (z:Pos)=>Stmt.If q.1 q.2.1 q.2.2 z) c) c h (λt a b p=>some ⟨(t,a,b),p,rfl⟩)else none
noncomputable def cP8(c:Stmt):Vw (λ(q:Expr×List Stmt) (z:Pos)=>Stmt.While q.1 q.2 [] z) c:=if h:c.ctorIdx=11 then Stmt.While.elim (motive_2:=λc=>Vw (λ(q:Expr×List Stmt) (z:Pos)=>Stmt.While q.1 q.2 [] z) c) c h (λt a w2 p=>match w2 with| []=>some ⟨(t,a),p,rfl⟩|_=>none)else none
noncomputable def cc5(c:Stmt):Vw (λ(q:Expr×Expr×List Stmt) (z:Pos)=>Stmt.For q.1 q.2.1 q.2.2 [] z) c:=if h:c.ctorIdx=9 then Stmt.For.elim (motive_2:=λc=>Vw (λ(q:Expr×Expr×List Stmt) (z:Pos)=>Stmt.For q.1 q.2.1 q.2.2 [] z) c) c h (λt e a w3 p=>match w3 with| []=>some ⟨(t,e,a),p,rfl⟩|_=>none)else none
noncomputable def cv3(c:Stmt):Vw (λ(o:Option Expr) (z:Pos)=>Stmt.Return o z) c:=if h:c.ctorIdx=3 then Stmt.Return.elim (motive_2:=λc=>Vw (λ(o:Option Expr) (z:Pos)=>Stmt.Return o z) c) c h (λo p=>some ⟨o,p,rfl⟩)else none
noncomputable def cI2(c:Stmt):Vw (λ(e:Expr) (z:Pos)=>Stmt.Raise (some e) none z) c:=if h:c.ctorIdx=16 then Stmt.Raise.elim (motive_2:=λc=>Vw (λ(e:Expr) (z:Pos)=>Stmt.Raise (some e) none z) c) c h (λw0 w1 p=>match w0,w1 with|(some e),none=>some ⟨e,p,rfl⟩|_,_=>none)else none
noncomputable def cL9(c:Stmt):Vw (λ(_:Unit) (z:Pos)=>Stmt.Break z) c:=if h:c.ctorIdx=26 then Stmt.Break.elim (motive_2:=λc=>Vw (λ(_:Unit) (z:Pos)=>Stmt.Break z) c) c h (λp=>some ⟨(),p,rfl⟩)else none
noncomputable def cO2(c:Stmt):Vw (λ(_:Unit) (z:Pos)=>Stmt.Pass z) c:=if h:c.ctorIdx=25 then Stmt.Pass.elim (motive_2:=λc=>Vw (λ(_:Unit) (z:Pos)=>Stmt.Pass z) c) c h (λp=>some ⟨(),p,rfl⟩)else none
structure LCq where
 t:Expr
 elt:Expr
 x:Str
 px:Pos
 iter:Expr
 ifs:List Expr
 scope:Scope
 pos:Pos
 p:Pos
noncomputable def vLC(c:Stmt):Vw (λ(q:LCq) (_:Unit)=>de4 [q.t] (.ListComp q.elt [⟨.Name q.x q.px,q.iter,q.ifs,0⟩] q.scope q.pos) q.p) c:=if h:c.ctorIdx=5 then Stmt.Assign.elim (motive_2:=λc=>Vw (λ(q:LCq) (_:Unit)=>de4 [q.t] (.ListComp q.elt [⟨.Name q.x q.px,q.iter,q.ifs,0⟩] q.scope q.pos) q.p) c) c h (λw0 w1 p=>match w0,w1 with| [t],(.ListComp elt [⟨.Name x px,iter,ifs,0⟩] scope pos)=>some ⟨⟨t,elt,x,px,iter,ifs,scope,pos,p⟩,(),rfl⟩|_,_=>none)else none
structure TT where
 ts:List Expr
 k:Nat
 tp:Pos
 es:List Expr
 kv:Nat
 pe:Pos
noncomputable def bm6(c:Stmt):Vw (λ(q:TT) (z:Pos)=>de4 [.Tuple q.ts q.k q.tp] (.Tuple q.es q.kv q.pe) z) c:=if h:c.ctorIdx=5 then Stmt.Assign.elim (motive_2:=λc=>Vw (λ(q:TT) (z:Pos)=>de4 [.Tuple q.ts q.k q.tp] (.Tuple q.es q.kv q.pe) z) c) c h (λw0 w1 p=>match w0,w1 with| [.Tuple ts k tp],(.Tuple es kv pe)=>some ⟨⟨ts,k,tp,es,kv,pe⟩,p,rfl⟩|_,_=>none)else none
noncomputable def cL7(c:Stmt):Vw (λ(q:(List Expr×Nat×Pos)×Expr) (z:Pos)=>de4 [.Tuple q.1.1 q.1.2.1 q.1.2.2] q.2 z) c:=if h:c.ctorIdx=5 then Stmt.Assign.elim (motive_2:=λc=>Vw (λ(q:(List Expr×Nat×Pos)×Expr) (z:Pos)=>de4 [.Tuple q.1.1 q.1.2.1 q.1.2.2] q.2 z) c) c h (λw0 e p=>match w0 with| [.Tuple ts k tp]=>some ⟨((ts,k,tp),e),p,rfl⟩|_=>none)else none
end
section
variable (E:Env) (nm:List Str)
noncomputable def tgN:List Str->List Nat->Bool
 | [],[]=>true
 |x::xs,i::is=>loB nm i x&&tgN xs is
 |_,_=>false
noncomputable def tgE:List Expr->List Nat->Bool
 | [],[]=>true
 |x::xs,i::is=>z6 nm x i&&tgE xs is
 |_,_=>false
noncomputable def cA1{α:Type}(l:List α)(p:α->α->α->α->Bool):Bool:=match l with| [a,b,c,d]=>p a b c d|_=>false
noncomputable def bx1{α:Type}(o:Option (Option α))(p:α->Bool):Bool:=match o with|some (some a)=>p a|_=>false
noncomputable def M5{α:Type}(o:Option (Option α)):Bool:=match o with|some none=>true|_=>false
noncomputable def swB(q:TT)(p:List Str->Bool):Bool:=bx1 (pureOf (cX1 [.Tuple q.ts q.k q.tp] (.Tuple q.es q.kv q.pe) E)) p
noncomputable def isSome{α:Type}(o:Option α)(p:α->Bool):Bool:=match o with|some a=>p a|none=>false
noncomputable def csB(q:LCq)(i:Nat):Bool:=isSome (pureOf (closureFor q.scope E)) (λl=>l.isEmpty) &&q.scope.names.all (λy=>decide (y.2≠ .cell)) &&decide (q.scope.kind= .function) &&q.scope.names.all (λy=>decide (y.2= .local->q.scope.names.lookup y.1=some .local)) &&decide (q.scope.names.lookup q.x=some .local) && !(q.x== ("__debug__":Str)) &&
 on (af8 q.t) (λy=>loB nm i y) &&isSome (pureOf (dd3 (.ListComp q.elt [⟨.Name q.x q.px,q.iter,q.ifs,0⟩] q.scope q.pos) (some q.t) q.p.line E)) id
noncomputable def xE(q:LCq)(e:Expr):Bool:=on (af8 e) λy=>decide (y=q.x)
noncomputable def chV(d:Nd)(e:Expr):Bool:=E7 e&&C8 E nm d e
mutual
noncomputable def chS:Ns->Stmt->Bool
 | .ex d,c=>on (cM6 c) λe=>chV E nm d e
 | .asg i d,c=>on (ah0 c) λq=>z6 nm q.1 i&&chV E nm d q.2
 | .asf i j d,c=>on (ah0 c) λq=>aU4 nm q.1 i j&&chV E nm d q.2
 | .asbn,c=>on (ah0 c) λq=>ad1 nm q.1&&gcE E q.2 "bytearray" λas=>as.isEmpty
 | .asbc lo hi,c=>on (ah0 c) λq=>ad1 nm q.1&&on (cc6 q.2) λs=>ad1 nm s.1&&chR E nm lo s.2.1&&chR E nm hi s.2.2
 | .as2 is l,c=>on (bm6 c) λq=>decide (is.length<=3) &&q.es.all E7&&chL E nm l q.es&&swB E q λnames=>tgN nm names.reverse is
 | .unp is d,c=>on (cL7 c) λq=>tgE nm q.1.1 is&&chV E nm d q.2&&M5 (pureOf (cX1 [.Tuple q.1.1 q.1.2.1 q.1.2.2] q.2 E))
 | .aug i _ d,c=>on (cp9 c) λq=>z6 nm q.1 i&&C8 E nm d q.2
 | .auf i j _ d,c=>on (cp9 c) λq=>aU4 nm q.1 i j&&C8 E nm d q.2
 | .ite t a b,c=>on (cU8 c) λq=>chT E nm t q.1&&chM a q.2.1&&chM b q.2.2
 | .whl t b,c=>on (cP8 c) λq=>chT E nm t q.1&&chM b q.2
 | .for i d b,c=>on (cc5 c) λq=>z6 nm q.1 i&&chV E nm d q.2.1&&chM b q.2.2
 | .ret d,c=>on (cv3 c) λo=>match o with|some e=>C8 E nm d e|none=>false
 | .ret0,c=>on (cv3 c) λo=>o.isNone
 | .brk,c=>on (cL9 c) λH=>true
 | .pass,c=>on (cO2 c) λH=>true
 | .rse d,c=>on (cI2 c) λe=>gcE E e "LuaSyntaxError" λas=>one as λe=>C8 E nm d e
 | .asn j d,c=>on (ah0 c) λq=>aU4 nm q.1 0 j&&chV E nm d q.2
 | .asnb j,c=>decide (j=9) &&on (ah0 c) λq=>ad1 nm q.1&&gcE E q.2 "bytearray" λas=>as.isEmpty
 | .alst i l,c=>on (ah0 c) λq=>z6 nm q.1 i&&on (ay4 q.2) λes=>es.all E7&&chL E nm l es
 | .as4 i j k l b c',c=>on (bm6 c) λq=>tgE nm q.ts [i,j,k,l] &&M5 (pureOf (cX1 [.Tuple q.ts q.k q.tp] (.Tuple q.es q.kv q.pe) E)) &&cA1 q.es λa u v w=>on (F0 (.bytes b) a) (λH=>true) &&on (ay4 u) (λl=>l.isEmpty) &&on (ay4 v) (λl=>l.isEmpty) &&on (F0 (.int c') w) λH=>true
 | .cabs i d,c=>on (vLC c) λq=>csB E nm q i&&chV E nm d q.iter&&q.ifs.isEmpty&&on (bw4 q.elt) λr=>on (af8 r.1) (λy=>decide (y=cV1 "abs") &&decide (q.scope.names.lookup y=some .globalImplicit)) &&one r.2 (xE q)
 | .cfil i d k,c=>on (vLC c) λq=>csB E nm q i&&chV E nm d q.iter&&xE q q.elt&&one q.ifs λt=>on (az3 .NotEq t) λr=>xE q r.1&&on (F0 (.int k) r.2) λH=>true
 | .fore i j d b,c=>on (cc5 c) λq=>on (cA9 q.1) (λts=>two ts λx y=>z6 nm x i&&z6 nm y j) &&gcE E q.2.1 "enumerate" (λas=>one as λe=>C8 E nm d e) &&chM b q.2.2
 | .forr i d b,c=>on (cc5 c) λq=>z6 nm q.1 i&&gcE E q.2.1 "range" (λas=>one as λe=>C8 E nm d e) &&chM b q.2.2
 | .anil i,c=>on (ah0 c) λq=>z6 nm q.1 i&&on (ay4 q.2) λl=>l.isEmpty
 | .as2o i d j,c=>on (bm6 c) λq=>two q.es (λa b=>chV E nm d a&&on (ay4 b) λl=>l.isEmpty) &&swB E q λnames=>two names λx y=>loB nm i x&&loB nm j y
 |_,_=>false
noncomputable def chM:Ns->List Stmt->Bool
 | .nil,cs=>cs.isEmpty
 | .cons a b,cs=>match cs with| []=>false|c::cs=>chS a c&&chM b cs
 | .frz _ l,cs=>chM l cs
 | .new i l r,cs=>match cs with| []=>false|c::cs=>on (ah0 c) (λq=>z6 nm q.1 i&&gcE E q.2 "Lexer" λas=> !as.isEmpty&&chL E nm l as) &&chM r cs
 | .newo i l j r,cs=>match cs with| []=>false|c::cs=>on (bm6 c) (λq=>two q.es (λa b=>gcE E a "Lexer" (λas=> !as.isEmpty&&chL E nm l as) &&on (ay4 b) λl=>l.isEmpty) &&swB E q λnames=>two names λx y=>loB nm i x&&loB nm j y) &&chM r cs
 |_,_=>false
end
end
theorem cG7(P:Params):(eqR (nsIn (KP P) cW5 (cV1 "LuaSyntaxError")) 87&&keepIn (KP P) (.ref 87))=true:=by kernel_rfl
section
variable {X:Cx} {F:Frm} {n:Nat} {R:List UInt8->Prop}
theorem cg3{α:Type}{o:Option (Option α)}{p:α->Bool}{G:Option (Option α)->Prop}(h:bx1 o p=true)(k:∀a,p a=true->G (some (some a))):G o:=by
 match o,h with
 |some (some a),h=>exact k a h
theorem am5{α:Type}{o:Option α}{p:α->Bool}{G:Option α->Prop}(h:isSome o p=true)(k:∀a,p a=true->G (some a)):G o:=by
 match o,h with
 |some a,h=>exact k a h
theorem bT1{α:Type}{l:List α}{p:α->α->α->α->Bool}{G:List α->Prop}(h:cA1 l p=true)(k:∀a b c d,p a b c d=true->G [a,b,c,d]):G l:=by
 match l,h with
 | [a,b,c,d],h=>exact k a b c d h
theorem aC4{q:LCq}{i:Nat}(h:csB F.env F.nm q i=true):aY7 F q.scope q.x:=
 have h:=a1 (a1 h)
 ⟨am5 (G:=λo=>pureOf (closureFor q.scope F.env)=o->closureFor q.scope F.env=pure []) (a1 (a1 (a1 (a1 (a1 h))))) (λl hl e=>E6 (G:=λl=>pureOf (closureFor q.scope F.env)=some l->closureFor q.scope F.env=pure []) hl (λe=>of_pureOf e) e) rfl,λy hy=>of_decide_eq_true (cZ3.mp (a2 (a1 (a1 (a1 (a1 h))))) y hy),of_decide_eq_true (a2 (a1 (a1 (a1 h)))),λy hy=>of_decide_eq_true (cZ3.mp (a2 (a1 (a1 h))) y hy),of_decide_eq_true (a2 (a1 h)),by have:=a2 h;rwa[db8]at this⟩
theorem cr1{q:LCq}{i:Nat}(h:csB F.env F.nm q i=true):dd3 (.ListComp q.elt [⟨.Name q.x q.px,q.iter,q.ifs,0⟩] q.scope q.pos) (some q.t) q.p.line F.env=pure true:=
 am5 (G:=λo=>pureOf (dd3 (.ListComp q.elt [⟨.Name q.x q.px,q.iter,q.ifs,0⟩] q.scope q.pos) (some q.t) q.p.line F.env)=o->_) (a2 h) (λb hb e=>of_pureOf (e.trans (congrArg some hb))) rfl
theorem aD7{α:Type}{o:Option (Option α)}(h:M5 o=true):o=some none:=by
 match o,h with
 |some none,h=>rfl
theorem bR5{q:TT}{p:List Str->Bool}{G:Prop}(h:swB F.env q p=true)(k:∀names,cX1 [.Tuple q.ts q.k q.tp] (.Tuple q.es q.kv q.pe) F.env=pure (some names)->p names=true->G):G:=
 cg3 (G:=λo=>pureOf (cX1 [.Tuple q.ts q.k q.tp] (.Tuple q.es q.kv q.pe) F.env)=o->G) h (λa h e=>k a (of_pureOf e) h) rfl
theorem bg4:∀(xs:List Str) (is:List Nat),tgN F.nm xs is=true->Tg X F (xs.map λx=>bindName F.env x) is/\xs.length=is.length
 | [],[],_=>⟨.nil,rfl⟩
 |x::xs,i::is,h=>⟨.cons (O3 (a1 h)) bn (bg4 xs is (a2 h)).1,congrArg (· +1) (bg4 xs is (a2 h)).2⟩
theorem bl7:∀(xs:List Expr) (is:List Nat),tgE F.nm xs is=true->Tg X F ((dg2 xs F.env).map (·.2)) is/\(dg2 xs F.env).findIdx? (·.1)=none
 | [],[],_=>⟨.nil,rfl⟩
 |x::xs,i::is,h=>v5 (G:=λx=>Tg X F ((dg2 (x::xs) F.env).map (·.2)) (i::is)/\(dg2 (x::xs) F.env).findIdx? (·.1)=none) (a1 h) λy q hy=>
  ⟨.cons hy an (bl7 xs is (a2 h)).1,by
   show((false,_)::dg2 xs F.env).findIdx? (·.1)=none
   rw[List.findIdx?_cons,(bl7 xs is (a2 h)).2]
   rfl⟩
theorem aA9{e:Expr}{env:Env}(h:E7 e=true)(x:Value):foldedSetIterable e env x=pure x:=by cases e<;>first|rfl|exact cV2 h
set_option tactic.hygienic true in
theorem cw1{v:V}{items:List V}(h:itW v items):ItR X n v items:=by
 cases v<;>first|exact h.elim|skip
 case lst l=>obtain rfl:items=l:=h;exact bm5
 case bytes l=>obtain rfl:items=l.map λc=>V.int c.toNat:=h;exact aL7
theorem nodup465:(fn465.map cV1).Nodup:=by decide
theorem aS2{fs:List (String×Fv)}(hn:fs.map (·.1)=fn465.take fs.length):nmS fs=(fn465.map cV1).take fs.length:=by
 rw[←List.map_take, ←hn,List.map_map];rfl
theorem cm0{fs:List (String×Fv)}(hn:fs.map (·.1)=fn465.take fs.length):(nmS fs).Nodup:=by rw[aS2 hn];exact nodup465.sublist (List.take_sublist _ _)
theorem at9{fs:List (String×Fv)}(hn:fs.map (·.1)=fn465.take fs.length):fs.length<=1000:=by
 have h:=congrArg df5 hn
 rw[cW3,List.length_take]at h
 exact cV5 (by rw[h];exact Nat.min_le_right _ _) (show fn465.length<=1000 by decide)
theorem aX7{fs:List (String×Fv)}{x:String}(hn:fs.map (·.1)=fn465.take fs.length)(hx:fn465[fs.length]? =some x)(f:Fv):ad0 x f fs (fs++[(x,f)])/\r7 (some (fs++[(x,f)])):=by
 have hlt:=(cX6.mp hx).1
 have e:fn465.take (fs.length+1)=fn465.take fs.length++[x]:=by rw[dh5,hx];rfl
 refine⟨.new λhm=> ?_,λgs hg=> ?_⟩
 ·have h2:=nodup465.sublist (List.take_sublist (fs.length+1) _)
  rw[←List.map_take,e,dd9,List.nodup_append]at h2
  rw[aS2 hn, ←List.map_take]at hm
  exact h2.2.2 _ hm _ (cW0.mpr rfl) rfl
 ·obtain rfl:fs++[(x,f)]=gs:=cY2 hg
  rw[dd9,hn,cV7]
  exact e.symm
theorem cB1(P:Params):(eqR (nsIn (KP P) cW5 (cV1 "Lexer")) 465&&keepIn (KP P) (.ref 465))=true:=by kernel_rfl
theorem bc0(P:Params):Z1 P 465 280:=⟨by kernel_rfl,by kernel_rfl,by kernel_rfl⟩
set_option tactic.hygienic true in
theorem aO6{st:St}{i j:Nat}{f:Fv}{K:St->Prop}{G:Prop}(hn:r7 st.me)(h:aJ0 st i j f K)(k:∀fs x,st.loc[i]? =some .me->st.me=some fs->fn465[j]? =some x->fs.length<=1000->ad0 x f fs (fs.set j (x,f))->r7 (some (fs.set j (x,f)))->K {st with me:=some (fs.set j (x,f))}->G):G:=
 ar9 h λfs h1 h2 h=>by
  have hf:=hn fs h2
  split at h
  ·rename_i x g e
   exact k fs x h1 h2 (aY3 hf e) (at9 hf) (.old j e (cm0 hf)) (λgs hg=>cY2 hg▸aY5 hf e) h
  ·exact h.elim
end
end
section
variable {X:Cx} {n:Nat} {R:List UInt8->Prop}
variable (X n R)in
noncomputable abbrev SS(d:Ns):Prop:=∀F,Bnd F->∀c st Q,chS F.env F.nm d c=true->r7 st.me->exS X n R d st Q->Ex X F n c st (Kn Q) R
variable (X n R)in
noncomputable abbrev SM(d:Ns):Prop:=∀F,Bnd F->∀cs st Q,chM F.env F.nm d cs=true->r7 st.me->A6 X n R d st Q->J7 X F n cs st (Kn Q) R
theorem O9{t e:Expr}{l:Nat}{env:Env}(h:E7 e=true):df9 [t] e l env=pure false:=by show dd3 e (some t) l env=_;exact x8 h
theorem vs{F:Frm}{β ζ:Type}{mk:β->ζ->Stmt}{st:St}{Q:Fl->St->Prop}(c:Stmt){o:Vw mk c}{p:β->Bool}(h:on o p=true)(k:∀q z,p q=true->Ex X F n (mk q z) st (Kn Q) R):Ex X F n c st (Kn Q) R:=vw (G:=λc=>Ex X F n c st (Kn Q) R) c h k
theorem ev{F:Frm}{d:Nd}{e:Expr}{st:St}{Q:V->St->Prop}(B:Bnd F)(hc:chV F.env F.nm d e=true)(hn:r7 st.me)(h:x9 X n R d st Q):Ev X F n e st (Kn Q) R:=(snd B d).d _ _ _ (a2 hc) hn h
theorem cE9{d}:SS X n R (.ex d):=λF B c st Q hc hn h=>vs c hc λe z hc=>bg8 (ev B hc hn h) B.O (x8 (a1 hc))
theorem ch3{i d}:SS X n R (.asg i d):=λF B c st Q hc hn h=>vs c hc λq z hc=>
 v5 (G:=λt=>Ex X F n (.Assign [t] q.2 z) st (Kn Q) R) (a1 hc) λx p hx=>bS4 i B.O hx (ev B (a2 hc) hn h) (x8 (a1 (a2 hc)))
theorem bR2{i j d}:SS X n R (.asf i j d):=λF B c st Q hc hn h=>vs c hc λq z hc=>
 ak7 (G:=λt=>Ex X F n (.Assign [t] q.2 z) st (Kn Q) R) (a1 hc) λx y q1 q2 hx hy=>
  n8 i B.O B.K (B.ft hx) hy ((ev B (a2 hc) hn h).mono λv st1 h=>aO6 h.1 h.2 λfs x' h1 h2 h3 h4 h5 h6 h=>by
   obtain rfl:x'=x:=cY2 (h3.symm.trans hx)
   exact⟨fs,_,h2,h1,h4,h5,h6,h⟩) (x8 (a1 (a2 hc))) (B.d hy)
theorem ci8{st:St}{l:Bs}{K:St->Prop}(hn:r7 st.me)(h:aJ0 st 0 9 (.buf l) K):∃fs fs',st.me=some fs/\st.loc[0]? =some .me/\fs.length<=1000/\ad0 "buffer" (.buf l) fs fs'/\r7 (some fs')/\K {st with me:=some fs'}:=
 aO6 hn h λfs x' h1 h2 h3 h4 h5 h6 h=>by
  obtain rfl:x'="buffer":=cY2 (h3.symm.trans rfl)
  exact⟨fs,_,h2,h1,h4,h5,h6,h⟩
theorem bp0:SS X n R .asbn:=λF B c st Q hc hn h=>vs c hc λq z hc=>
 G6 (G:=λt=>Ex X F n (.Assign [t] q.2 z) st (Kn Q) R) (a1 hc) λy q1 q2 hy=>
  aG0 (G:=λe=>Ex X F n (.Assign [_] e z) st (Kn Q) R) (a2 hc) λas p p' h1 h2 H hc=>
   E6 (G:=λas=>Ex X F n (.Assign [_] (.Call _ as [] p) z) st (Kn Q) R) hc (S8 0 9 B.O B.K (B.ft (j:=9) rfl) hy (az8 B.O h1 (R2 _) (ci8 hn h) h2) (x8 rfl) (B.d hy))
theorem bl3{lo hi}:SS X n R (.asbc lo hi):=λF B c st Q hc hn h=>vs c hc λq z hc=>
 G6 (G:=λt=>Ex X F n (.Assign [t] q.2 z) st (Kn Q) R) (a1 hc) λy q1 q2 hy=>
  vw (G:=λe=>Ex X F n (.Assign [_] e z) st (Kn Q) R) q.2 (a2 hc) λs z' hc=>
   G6 (G:=λt=>Ex X F n (.Assign [_] (.Subscript t _ _) z) st (Kn Q) R) (a1 (a1 hc)) λy' q1' q2' hy'=>
    af1 hn h λfs l h1 h2 h3 h=>(aC5 B hn _ _ _ (a2 (a1 hc)) h.2).elim λi p1=>(aC5 B hn _ _ _ (a2 hc) p1.2).elim λj p2=>
     S8 0 9 B.O B.K (B.ft (j:=9) rfl) hy (aB7 (EvG.evf (bg B hy' h1 h2 h3) ⟨h.1,i,j,p1.1,p2.1,ci8 hn p2.2⟩)) (x8 rfl) (B.d hy)
theorem K2:∀(l:List (Nat×V)) (st:St),(A4 st l).me=st.me
 | [],_=>rfl
 |_::l,_=>K2 l _
theorem bQ4{is l}:SS X n R (.as2 is l):=λF B c st Q hc hn h=>vs c hc λq z hc=>
 bR5 (a2 hc) λnames hs hg=>
  have hlen:=(bg4 (X:=X) _ _ hg).2
  have hl:is.length<=3:=of_decide_eq_true (a1 (a1 (a1 hc)))
  have hlen:names.length=is.length:=by rw[←hlen,List.length_reverse]
  be5 names is B.O (bg4 _ _ hg).1 (by lia) hs (((snd B l).l _ _ _ _ (a2 (a1 hc)) (a2 (a1 (a1 hc))) hn h).mono λvs st1 h=>⟨h.2.1,h.2.1.trans hlen.symm,(K2 _ _).symm▸h.1,h.2.2⟩) (O9 rfl)
set_option tactic.hygienic true in
theorem ca7{is d}:SS X n R (.unp is d):=λF B c st Q hc hn h=>vs c hc λq z hc=>
 have T:=bl7 (X:=X) _ _ (a1 (a1 hc))
 aF6 is B.O T.1 T.2 ((ev B (a2 (a1 hc)) hn h).mono λv st1 h=>bv4 (G:=λv=>∃vs,v= .tup vs/\vs.length=is.length/\Kn Q .next (A4 st1 (is.zip vs))) h.2 λvs k=>⟨vs,rfl,k.1,(K2 _ _).symm▸h.1,k.2⟩) (O9 (a1 (a2 (a1 hc)))) (of_pureOf (aD7 (a2 hc)))
set_option tactic.hygienic true in
theorem bX4{i o d}:SS X n R (.aug i o d):=λF B c st Q hc hn h=>vs c hc λq z hc=>
 v5 (G:=λt=>Ex X F n (.AugAssign t _ q.2 z) st (Kn Q) R) (a1 hc) λx p hx=>az5 h λv₀ hv h=>
  bZ3 i B.O hx hv (((snd B d).d _ _ _ (a2 hc) hn h).mono λv st1 h=>x7 (G:=λv₀ v=>∃w,Pu2 X n (inplaceOp .Add) v₀ v w/\Kn Q .next {st1 with loc:=st1.loc.set i (.val w)}) h.2 λa b k=>⟨_,aD9,h.1,k⟩)
set_option tactic.hygienic true in
theorem ch0{i j o d}:SS X n R (.auf i j o d):=λF B c st Q hc hn h=>vs c hc λq z hc=>
 ak7 (G:=λt=>Ex X F n (.AugAssign t _ q.2 z) st (Kn Q) R) (a1 hc) λx y q1 q2 hx hy=>
  bv7 hn h λfs x' v₀ h1 h2 h3 h4 h=>by
   obtain rfl:x'=x:=cY2 (h4.symm.trans hx)
   refine aI9 i j B.O B.K (B.ft hx) hy h1 h2 h3 (((snd B d).d _ _ _ (a2 hc) hn h).mono λv st1 h=> ?_) (B.d hy)
   refine x7 (G:=λv₀ v=>∃fs' fs'' w,st1.me=some fs'/\fs'.length<=1000/\Pu2 X n (inplaceOp .Add) v₀ v w/\ad0 x' (.val w) fs' fs''/\Kn Q .next {st1 with me:=some fs''}) h.2 λa b k=>aO6 h.1 k λfs' x g1 g2 g3 g4 g5 g6 k=> ?_
   obtain rfl:x=x':=cY2 (g3.symm.trans hx)
   exact⟨fs',_,_,g2,g4,aD9,g5,g6,k⟩
theorem cb0{t a b}(ha:SM X n R a)(hb:SM X n R b):SS X n R (.ite t a b):=λF B c st Q hc hn h=>vs c hc λq z hc=>
 cE8 (((snd B t).t _ _ _ (a1 (a1 hc)) hn h).mono λc st1 h=>⟨λe=>ha F B _ _ _ (a2 (a1 hc)) h.1 (h.2.1 e),λe=>hb F B _ _ _ (a2 hc) h.1 (h.2.2 e)⟩)
set_option tactic.hygienic true in
theorem aV1{J:Nat->St->Prop}{k:Nat}{Q:Fl->St->Prop}{f:Fl}{st:St}(hn:r7 st.me)(h:aq3 J k Q f st):aq3 (λk st=>r7 st.me/\J k st) k (Kn Q) f st:=by
 cases f
 case next=>exact h.elim λm h=>⟨m,h.1,hn,h.2⟩
 case cont=>exact h.elim λm h=>⟨m,h.1,hn,h.2⟩
 all_goals exact⟨hn,h⟩
theorem bT4{t b}(hb:SM X n R b):SS X n R (.whl t b):=λF B c st Q hc hn h=>vs c hc λq z hc=>h.elim λJ h=>h.elim λk h=>
 bc4 B.O (λk st=>r7 st.me/\J k st) k ⟨hn,h.1⟩ λk st hJ=>((snd B t).t _ _ _ (a1 hc) hJ.1 (h.2 k st hJ.2)).mono λc st1 h=>⟨λe=>(hb F B _ _ _ (a2 hc) h.1 (h.2.1 e)).mono λf st2 h=>aV1 h.1 h.2,λe=>⟨h.1,h.2.2 e⟩⟩
theorem al5{J:Nat->St->Prop}{k:Nat}{Q:Fl->St->Prop}{f:Fl}{st:St}(hn:r7 st.me)(h:F6 J k Q f st):F6 (λk st=>r7 st.me/\J k st) k (Kn Q) f st:=by cases f<;>exact⟨hn,h⟩
theorem bY6{i d b}(hb:SM X n R b):SS X n R (.for i d b):=λF B c st Q hc hn h=>vs c hc λq z hc=>
 v5 (G:=λt=>Ex X F n (.For t q.2.1 q.2.2 [] z) st (Kn Q) R) (a1 (a1 hc)) λy p hy=>
  bR4 i B.O hy ((ev B (a2 (a1 hc)) hn h).mono λv st1 h=>h.2.elim λitems k=>k.elim λJ k=>
   ⟨items,λk st=>r7 st.me/\J k st,cw1 k.1,⟨h.1,k.2.1⟩,λj w ψ' st hk hJ=>(hb (F.with ψ') (B.with ψ') _ {st with loc:=st.loc.set i (.val w)} _ (a2 hc) hJ.1 (k.2.2.1 j w st hk hJ.2)).mono λf st2 h=>al5 h.1 h.2,λst h=>⟨h.1,k.2.2.2 st h.2⟩⟩) (aA9 (a1 (a2 (a1 hc))))
theorem bW2{d}:SS X n R (.ret d):=λF B c st Q hc hn h=>vs c hc λq z hc=>by
 cases q with
 |none=>exact cV2 hc
 |some e=>exact cf2 ((snd B d).d _ _ _ hc hn h)
theorem bi9:SS X n R .ret0:=λF B c st Q hc hn h=>vs c hc λq z hc=>by
 cases q with
 |none=>exact bl1 ⟨hn,h⟩
 |some e=>exact cV2 hc
theorem bP8:SS X n R .brk:=λF B c st Q hc hn h=>vs c hc λH H H=>aK7 ⟨hn,h⟩
theorem bp2:SS X n R .pass:=λF B c st Q hc hn h=>vs c hc λH H H=>bi1 ⟨hn,h⟩
theorem cd1{d}:SS X (n+2) R (.rse d):=λF B c st Q hc hn h=>vs c hc λq z hc=>
 as5 (G:=λe=>Ex X F (n+2) (.Raise (some e) none z) st (Kn Q) R) hc λa p p' h1 h2 ho hc=>
  have g:=cG7 X.w.params
  aR7 B.O h1 (E9 (a1 g)) (a2 g) (((snd B d).d _ _ _ hc hn h).mono λv st1 h=>ac2 (G:=λv=>∃m,v= .bytes m/\R m) h.2 λm h=>⟨m,rfl,h⟩) h2 (w5 ho)
theorem bo1{i}:SS X n R (.anil i):=λF B c st Q hc hn h=>vs c hc λq z hc=>
 v5 (G:=λt=>Ex X F n (.Assign [t] q.2 z) st (Kn Q) R) (a1 hc) λx p hx=>vw (G:=λe=>Ex X F n (.Assign [_] e z) st (Kn Q) R) q.2 (a2 hc) λl z' hc=>
  E6 (G:=λl=>Ex X F n (.Assign [_] (.List l _) z) st (Kn Q) R) hc (az2 i B.O hx (λa=>⟨hn,h a⟩) (x8 rfl))
theorem be2{i d j}:SS X n R (.as2o i d j):=λF B c st Q hc hn h=>vs c hc λq z hc=>
 bR5 (a2 hc) λnames hs hg=>
  af5 (G:=λes=>cX1 [.Tuple q.ts q.k q.tp] (.Tuple es q.kv q.pe) F.env=pure (some names)->Ex X F n (.Assign [.Tuple q.ts q.k q.tp] (.Tuple es q.kv q.pe) z) st (Kn Q) R) (a1 hc) (λa b hc hs=>
   vw (G:=λb=>cX1 [.Tuple q.ts q.k q.tp] (.Tuple [a,b] q.kv q.pe) F.env=pure (some names)->Ex X F n (.Assign [.Tuple q.ts q.k q.tp] (.Tuple [a,b] q.kv q.pe) z) st (Kn Q) R) b (a2 hc) (λl pl hl=>
    E6 (G:=λl=>cX1 [.Tuple q.ts q.k q.tp] (.Tuple [a, .List l pl] q.kv q.pe) F.env=pure (some names)->Ex X F n (.Assign [.Tuple q.ts q.k q.tp] (.Tuple [a, .List l pl] q.kv q.pe) z) st (Kn Q) R) hl λhs=>
     af5 (G:=λnames=>cX1 [.Tuple q.ts q.k q.tp] (.Tuple [a, .List [] pl] q.kv q.pe) F.env=pure (some names)->Ex X F n (.Assign [.Tuple q.ts q.k q.tp] (.Tuple [a, .List [] pl] q.kv q.pe) z) st (Kn Q) R) hg (λx y g hs=>
      bg7 i j B.O (O3 (a1 g)) (O3 (a2 g)) hs ((ev B (a1 hc) hn h).mono λv st1 h a=>⟨h.1,h.2 a⟩) (w5 (a1 (a1 hc))) (O9 rfl)) hs) hs) hs
theorem bq9{i l}:SS X n R (.alst i l):=λF B c st Q hc hn h=>vs c hc λq z hc=>
 v5 (G:=λt=>Ex X F n (.Assign [t] q.2 z) st (Kn Q) R) (a1 hc) λx p hx=>vw (G:=λe=>Ex X F n (.Assign [_] e z) st (Kn Q) R) q.2 (a2 hc) λes z' hc=>
  at8 i B.O hx (((snd B l).l _ _ _ _ (a2 hc) (a1 hc) hn h).mono λvs st1 h=>⟨sz h.2.1,λa=>⟨h.1,h.2.2 a⟩⟩) (x8 rfl)
theorem cg8{i j k l b c'}:SS X n R (.as4 i j k l b c'):=λF B c st Q hc hn h=>vs c hc λq z hc=>
 have T:=bl7 (X:=X) _ _ (a1 (a1 hc))
 bT1 (G:=λes=>M5 (pureOf (cX1 [.Tuple q.ts q.k q.tp] (.Tuple es q.kv q.pe) F.env))=true->Ex X F n (.Assign [.Tuple q.ts q.k q.tp] (.Tuple es q.kv q.pe) z) st (Kn Q) R) (a2 hc) (λa u v w hc=>
  vw (G:=λa=>M5 (pureOf (cX1 [.Tuple q.ts q.k q.tp] (.Tuple [a,u,v,w] q.kv q.pe) F.env))=true->Ex X F n (.Assign [.Tuple q.ts q.k q.tp] (.Tuple [a,u,v,w] q.kv q.pe) z) st (Kn Q) R) a (a1 (a1 (a1 hc))) λH pa H=>
  vw (G:=λu=>M5 (pureOf (cX1 [.Tuple q.ts q.k q.tp] (.Tuple [_,u,v,w] q.kv q.pe) F.env))=true->Ex X F n (.Assign [.Tuple q.ts q.k q.tp] (.Tuple [_,u,v,w] q.kv q.pe) z) st (Kn Q) R) u (a2 (a1 (a1 hc))) λlu pu hu=>
  vw (G:=λv=>M5 (pureOf (cX1 [.Tuple q.ts q.k q.tp] (.Tuple [_,_,v,w] q.kv q.pe) F.env))=true->Ex X F n (.Assign [.Tuple q.ts q.k q.tp] (.Tuple [_,_,v,w] q.kv q.pe) z) st (Kn Q) R) v (a2 (a1 hc)) λlv pv hv=>
  vw (G:=λw=>M5 (pureOf (cX1 [.Tuple q.ts q.k q.tp] (.Tuple [_,_,_,w] q.kv q.pe) F.env))=true->Ex X F n (.Assign [.Tuple q.ts q.k q.tp] (.Tuple [_,_,_,w] q.kv q.pe) z) st (Kn Q) R) w (a2 hc) λH pw H=>
  E6 (G:=λlu=>M5 (pureOf (cX1 [.Tuple q.ts q.k q.tp] (.Tuple [_, .List lu pu,_,_] q.kv q.pe) F.env))=true->Ex X F n (.Assign [.Tuple q.ts q.k q.tp] (.Tuple [_, .List lu pu,_,_] q.kv q.pe) z) st (Kn Q) R) hu <|
  E6 (G:=λlv=>M5 (pureOf (cX1 [.Tuple q.ts q.k q.tp] (.Tuple [_,_, .List lv pv,_] q.kv q.pe) F.env))=true->Ex X F n (.Assign [.Tuple q.ts q.k q.tp] (.Tuple [_,_, .List lv pv,_] q.kv q.pe) z) st (Kn Q) R) hv λhs=>
   bP5 i j k l B.O T.1 T.2 (λd e=>⟨hn,h d e⟩) (O9 rfl) (of_pureOf (aD7 hs))) (a2 (a1 hc))
set_option tactic.hygienic true in
theorem lcv{F:Frm}{q:LCq}{i:Nat}{st:St}{g:Int->Int}{p:Int->Bool}{d:Nd}{Q:Fl->St->Prop}{u:Unit}(B:Bnd F)(hc:csB F.env F.nm q i=true)(hv:chV F.env F.nm d q.iter=true)(hn:r7 st.me)(he:ak3 X F q.scope q.x q.elt g)(ht:aj8 X F q.scope q.x q.ifs p)(h:x9 X n R d st λv st=>am8 v λl=>n9 l=true/\l.length<=16777216/\Q .next {st with loc:=st.loc.set i (.val (.lst (((i5 l).filter p).map λa=> .int (g a))))}):
 Ex X F n (.Assign [q.t] (.ListComp q.elt [⟨.Name q.x q.px,q.iter,q.ifs,0⟩] q.scope q.pos) q.p) st (Kn Q) R:=
 vw (G:=λt=>dd3 (.ListComp q.elt [⟨.Name q.x q.px,q.iter,q.ifs,0⟩] q.scope q.pos) (some t) q.p.line F.env=pure true->Ex X F n (.Assign [t] (.ListComp q.elt [⟨.Name q.x q.px,q.iter,q.ifs,0⟩] q.scope q.pos) q.p) st (Kn Q) R) q.t (a2 (a1 hc)) (λy py hy hs=>
  bk7 i B.O (O3 hy) (aC4 hc) hs (aA9 (a1 hv)) he ht ((ev B hv hn h).mono λv st1 h=>aq2 (G:=λv=>∃l,v= .lst l/\n9 l=true/\l.length<=sizeLine/\Kn Q .next {st1 with loc:=st1.loc.set i (.val (.lst (((i5 l).filter p).map λa=> .int (g a))))}) h.2 λl k=>⟨l,rfl,k.1,sz k.2.1,h.1,k.2.2⟩)) (cr1 hc)
theorem x_k{q:LCq}{e:Expr}{G:Expr->Prop}(h:xE q e=true)(k:∀p,G (.Name q.x p)):G e:=vw e h λy p hy=>by
 obtain rfl:y=q.x:=of_decide_eq_true hy
 exact k p
theorem bp5{i d}:SS X n R (.cabs i d):=λF B c st Q hc hn h=>vs c hc λq u hc=>
 lcv (u:=u) B (a1 (a1 (a1 hc))) (a2 (a1 (a1 hc))) hn (vw (G:=λe=>ak3 X F q.scope q.x e _) q.elt (a2 hc) λr z hr=>vw (G:=λf=>ak3 X F q.scope q.x (.Call f r.2 [] z) _) r.1 (a1 hr) λy py hy=>aB2 (G:=λas=>ak3 X F q.scope q.x (.Call (.Name y py) as [] z) _) (a2 hr) λe he=>x_k (G:=λe=>ak3 X F q.scope q.x (.Call (.Name y py) [e] [] z) _) he λp=>by
  obtain rfl:y=cV1 "abs":=of_decide_eq_true (a1 hy)
  exact bS6 (aC4 (a1 (a1 (a1 hc)))) (of_decide_eq_true (a2 hy)) (cg7 _) (by decide)) (E6 (G:=λl=>aj8 X F q.scope q.x l _) (a2 (a1 hc)) bd3) h
theorem bj0{i d k}:SS X n R (.cfil i d k):=λF B c st Q hc hn h=>vs c hc λq u hc=>
 lcv (u:=u) B (a1 (a1 (a1 hc))) (a2 (a1 (a1 hc))) hn (x_k (G:=λe=>ak3 X F q.scope q.x e _) (a2 (a1 hc)) λp=>aj4 (aC4 (a1 (a1 (a1 hc))))) (aB2 (G:=λl=>aj8 X F q.scope q.x l _) (a2 hc) λt ht=>vw (G:=λt=>aj8 X F q.scope q.x [t] _) t ht λr z hr=>x_k (G:=λe=>aj8 X F q.scope q.x [.Compare e _ _ _] _) (a1 hr) λp=>vw (G:=λe=>aj8 X F q.scope q.x [.Compare _ _ [e] _] _) r.2 (a2 hr) λH H H=>cl1 (aC4 (a1 (a1 (a1 hc))))) h
theorem bW4{j d}:SS X n R (.asn j d):=λF B c st Q hc hn h=>vs c hc λq z hc=>
 ak7 (G:=λt=>Ex X F n (.Assign [t] q.2 z) st (Kn Q) R) (a1 hc) λx y q1 q2 hx hy=>
  n8 0 B.O B.K (B.ft hx) hy ((ev B (a2 hc) hn h).mono λv st1 h=>ar9 h.2 λfs e1 e2 k=>
   have N:=aX7 (h.1 fs e2) (k.1▸hx) (.val v)
   ⟨fs,_,e2,e1,at9 (h.1 fs e2),N.1,N.2,F8 (K:=λx=>Q .next {st1 with me:=some (fs++[(x, .val v)])}) hx k.2⟩) (x8 (a1 (a2 hc))) (B.d hy)
theorem bk1{j}:SS X n R (.asnb j):=λF B c st Q hc hn h=>vs c (a2 hc) λq z hc'=>
 G6 (G:=λt=>Ex X F n (.Assign [t] q.2 z) st (Kn Q) R) (a1 hc') λy q1 q2 hy=>
  aG0 (G:=λe=>Ex X F n (.Assign [_] e z) st (Kn Q) R) (a2 hc') λas p p' h1 h2 H hc'=>
   E6 (G:=λas=>Ex X F n (.Assign [_] (.Call _ as [] p) z) st (Kn Q) R) hc' (S8 0 9 B.O B.K (B.ft (j:=9) rfl) hy (az8 B.O h1 (R2 _) (ar9 h λfs e1 e2 k=>by
    obtain rfl:j=9:=of_decide_eq_true (a1 hc)
    have N:=aX7 (hn fs e2) (show fn465[fs.length]? =some "buffer" by rw[k.1];rfl) (.buf [])
    exact⟨fs,_,e2,e1,at9 (hn fs e2),N.1,N.2,F8 (K:=λx=>Q .next {st with me:=some (fs++[(x, .buf [])])}) (show fn465[9]? =some "buffer" from rfl) k.2⟩) h2) (x8 rfl) (B.d hy))
theorem ao0{F:Frm}{b:Ns}{J:Nat->St->Prop}{k:Nat}{Q:Fl->St->Prop}{cs:List Stmt}{st:St}(B:Bnd F)(hb:SM X n R b)(hc:chM F.env F.nm b cs=true)(hn:r7 st.me)(h:A6 X n R b st (F6 J k Q))(ψ':PM):J7 X (F.with ψ') n cs st (F6 (λk st=>r7 st.me/\J k st) k (Kn Q)) R:=
 (hb (F.with ψ') (B.with ψ') _ st _ hc hn h).mono λf st2 h=>al5 h.1 h.2
set_option tactic.hygienic true in
theorem br0{i j d b}(hb:SM X n R b):SS X n R (.fore i j d b):=λF B c st Q hc hn h=>vs c hc λq z hc=>
 vw (G:=λt=>Ex X F n (.For t q.2.1 q.2.2 [] z) st (Kn Q) R) q.1 (a1 (a1 hc)) λts z' hts=>af5 (G:=λts=>Ex X F n (.For (.Tuple ts z'.1 z'.2) q.2.1 q.2.2 [] z) st (Kn Q) R) hts λx y hxy=>
  v5 (G:=λx=>Ex X F n (.For (.Tuple [x,y] z'.1 z'.2) q.2.1 q.2.2 [] z) st (Kn Q) R) (a1 hxy) λx px hx=>v5 (G:=λy=>Ex X F n (.For (.Tuple [_,y] z'.1 z'.2) q.2.1 q.2.2 [] z) st (Kn Q) R) (a2 hxy) λy py hy=>
   as5 (G:=λe=>Ex X F n (.For _ e q.2.2 [] z) st (Kn Q) R) (a2 (a1 hc)) λe p p' h1 h2 ho hce=>
    bm9 (ep:=z) i j B.O hx hy h1 (O2 _) h2 (w5 ho) (((snd B d).d _ _ _ hce hn h).mono λv st1 h=>aq2 (G:=λv=>∃(l:List V) (J:Nat->St->Prop),v= .lst l/\J 0 st1/\
   (∀k w ψ' st,l[k]? =some w->J k st->J7 X (F.with ψ') n q.2.2 (A4 st [(i, .int k),(j,w)]) (F6 J k (Kn Q)) R)/\(∀st,J l.length st->Kn Q .next st)) h.2 λl k=>k.elim λJ k=>
    ⟨l,λk st=>r7 st.me/\J k st,rfl,⟨h.1,k.1⟩,λm w ψ' st hw hJ=>ao0 B hb (a2 hc) ((K2 _ _).symm▸hJ.1) (k.2.1 m w st hw hJ.2) ψ',λst h=>⟨h.1,k.2.2 st h.2⟩⟩)
set_option tactic.hygienic true in
theorem bh1{i d b}(hb:SM X n R b):SS X n R (.forr i d b):=λF B c st Q hc hn h=>vs c hc λq z hc=>
 v5 (G:=λt=>Ex X F n (.For t q.2.1 q.2.2 [] z) st (Kn Q) R) (a1 (a1 hc)) λx px hx=>
  as5 (G:=λe=>Ex X F n (.For _ e q.2.2 [] z) st (Kn Q) R) (a2 (a1 hc)) λe p p' h1 h2 ho hce=>
   bo9 i B.O hx h1 (bb3 _) h2 (w5 ho) (((snd B d).d _ _ _ hce hn h).mono λv st1 h=>D0 (G:=λv=>∃(N:Nat) (J:Nat->St->Prop),v= .int N/\N<=1000000/\J 0 st1/\
   (∀k ψ' st,k < N->J k st->J7 X (F.with ψ') n q.2.2 {st with loc:=st.loc.set i (.val (.int k))} (F6 J k (Kn Q)) R)/\(∀st,J N st->Kn Q .next st)) h.2 λN k=>k.2.elim λJ k'=>
    ⟨N.toNat,λk st=>r7 st.me/\J k st,by rw[Int.toNat_of_nonneg k.1.1],by have:=k.1.2;lia,⟨h.1,k'.1⟩,λm ψ' st hm hJ=>ao0 (st:= {st with loc:=st.loc.set i (.val (.int m))}) B hb (a2 hc) hJ.1 (k'.2.1 m st hm hJ.2) ψ',λst h=>⟨h.1,k'.2.2 st h.2⟩⟩)
theorem Bnd.at{F:Frm}(B:Bnd F)(a:Addr):Bnd (F.at a):=⟨B.O.at a,B.nodbg,B.C⟩
theorem cx9{b:Bool}(h:(!b)=true):b=false:=by rwa[db8]at h
theorem bH2{F:Frm}{r:Ns}{cs:List Stmt}{st:St}{Q:Fl->St->Prop}(B:Bnd F)(hr:SM X n R r)(hc:chM F.env F.nm r cs=true)(hn:r7 st.me)(h:A6 X n R r st (λf st'=>f≠ .retMe/\Q f st'.fg))(a:Addr):J7 X (F.at a) n cs st (λf st'=>f≠ .retMe/\Kn Q f st'.fg) R:=
 (hr (F.at a) (B.at a) _ st _ hc hn h).mono λf st' h=>⟨h.2.1,nofun,h.2.2⟩
theorem aA1{F:Frm}{l:Nd}{as:List Expr}{st:St}{q:Pos}{K:List V->St->Prop}{G:List Expr->Prop}(B:Bnd F)(hc:(!as.isEmpty&&chL F.env F.nm l as)=true)(ho:as.all E7=true)(hn:r7 st.me)(h:evL X n R l st K)
 (k:∀a as,(cW7 (a::as) F.env=(false,eval a F.env)::cW7 as F.env)->(backTo q (cW7 as F.env)).any (·.1)=false->Evs X F n (a::as) q st (Kn K) R->G (a::as)):G as:=
 ab3 (q:=q) (G:=λas=>as.isEmpty=false->G as) (snd B l).l (a2 hc) ho hn h (λH e=>by exact cV2 e) (λa as g1 g2 h H=>k a as g1 g2 h) (cx9 (a1 hc))
theorem cg4{i l r}(hr:SM X (n+1) R r):SM X (n+1) R (.new i l r):=λF B cs st Q hc hn h=>by
 cases cs with
 |nil=>exact cV2 hc
 |cons c cs=>
  have g:=cB1 X.w.params
  exact vw (G:=λc=>J7 X F (n+1) (c::cs) st (Kn Q) R) c (a1 hc) λq z hc1=>v5 (G:=λt=>J7 X F (n+1) (.Assign [t] q.2 z::cs) st (Kn Q) R) (a1 hc1) λx p hx=>
   aG0 (G:=λe=>J7 X F (n+1) (.Assign [_] e z::cs) st (Kn Q) R) (a2 hc1) λas p p' h1 h2 ho hca=>
    aA1 (q:=p) (G:=λas=>J7 X F (n+1) (.Assign [_] (.Call _ as [] p) z::cs) st (Kn Q) R) B hca ho hn h λa as g1 g2 h=>
     bm8 i B.O hx (B.C▸bc0 _) h1 (B.C▸E9 (a1 g)) (B.C▸a2 g) h2 g1 g2 (x8 rfl) (h.mono λvs st1 h=>h.2.2.elim λfs k=>⟨Option.isNone_iff_eq_none.mp (a1 h.2.1),a2 h.2.1,fs,B.C▸k.1.2,λa=>bH2 B hr (a2 hc) k.1.1 k.2 a⟩)
theorem bi7{i l j r}(hr:SM X (n+1) R r):SM X (n+1) R (.newo i l j r):=λF B cs st Q hc hn h=>by
 cases cs with
 |nil=>exact cV2 hc
 |cons c cs=>
  have g:=cB1 X.w.params
  refine vw (G:=λc=>J7 X F (n+1) (c::cs) st (Kn Q) R) c (a1 hc) λq z hc1=>bR5 (a2 hc1) λnames hs hg=> ?_
  refine af5 (G:=λes=>cX1 [.Tuple q.ts q.k q.tp] (.Tuple es q.kv q.pe) F.env=pure (some names)->J7 X F (n+1) (.Assign [.Tuple q.ts q.k q.tp] (.Tuple es q.kv q.pe) z::cs) st (Kn Q) R) (a1 hc1) (λa b hab hs=> ?_) hs
  refine aG0 (G:=λa=>cX1 [.Tuple q.ts q.k q.tp] (.Tuple [a,b] q.kv q.pe) F.env=pure (some names)->J7 X F (n+1) (.Assign [.Tuple q.ts q.k q.tp] (.Tuple [a,b] q.kv q.pe) z::cs) st (Kn Q) R) (a1 hab) (λas p p' h1 h2 ho hca hs=> ?_) hs
  refine vw (G:=λb=>cX1 [.Tuple q.ts q.k q.tp] (.Tuple [.Call _ as [] p,b] q.kv q.pe) F.env=pure (some names)->J7 X F (n+1) (.Assign [.Tuple q.ts q.k q.tp] (.Tuple [.Call _ as [] p,b] q.kv q.pe) z::cs) st (Kn Q) R) b (a2 hab) (λbl pl hbl hs=> ?_) hs
  refine E6 (G:=λbl=>cX1 [.Tuple q.ts q.k q.tp] (.Tuple [.Call _ as [] p, .List bl pl] q.kv q.pe) F.env=pure (some names)->J7 X F (n+1) (.Assign [.Tuple q.ts q.k q.tp] (.Tuple [.Call _ as [] p, .List bl pl] q.kv q.pe) z::cs) st (Kn Q) R) hbl (λhs=> ?_) hs
  refine af5 (G:=λnames=>cX1 [.Tuple q.ts q.k q.tp] (.Tuple [.Call _ as [] p, .List [] pl] q.kv q.pe) F.env=pure (some names)->J7 X F (n+1) (.Assign [.Tuple q.ts q.k q.tp] (.Tuple [.Call _ as [] p, .List [] pl] q.kv q.pe) z::cs) st (Kn Q) R) hg (λx y hxy hs=> ?_) hs
  exact aA1 (q:=p) (G:=λas=>cX1 [.Tuple q.ts q.k q.tp] (.Tuple [.Call _ as [] p, .List [] pl] q.kv q.pe) F.env=pure (some [x,y])->J7 X F (n+1) (.Assign [.Tuple q.ts q.k q.tp] (.Tuple [.Call _ as [] p, .List [] pl] q.kv q.pe) z::cs) st (Kn Q) R) B hca ho hn h (λa as g1 g2 h hs=>
   aQ1 i j B.O (O3 (a1 hxy)) (O3 (a2 hxy)) (B.C▸bc0 _) h1 (B.C▸E9 (a1 g)) (B.C▸a2 g) h2 g1 g2 hs (O9 rfl) (h.mono λvs st1 h=>h.2.2.elim λfs k=>⟨Option.isNone_iff_eq_none.mp (a1 h.2.1),a2 h.2.1,fs,B.C▸k.1.2,λa b=>bH2 B hr (a2 hc) k.1.1 (k.2 b) a⟩)) hs
theorem cf6:SM X n R .nil:=λF B cs st Q hc hn h=>E6 (G:=λcs=>J7 X F n cs st (Kn Q) R) hc (ah9 ⟨hn,h⟩)
set_option tactic.hygienic true in
theorem cC5{F:Frm}{b:Ns}{cs:List Stmt}{Q:Fl->St->Prop}{f:Fl}{st:St}(B:Bnd F)(hb:SM X n R b)(hc:chM F.env F.nm b cs=true)(hn:r7 st.me)(h:Nx (λst=>A6 X n R b st Q) Q f st):Nx (λst1=>J7 X F n cs st1 (Kn Q) R) (Kn Q) f st:=by
 cases f
 case next=>exact hb F B _ _ _ hc hn h
 all_goals exact⟨hn,h⟩
theorem bj1{a b}(ha:SS X n R a)(hb:SM X n R b):SM X n R (.cons a b):=λF B cs st Q hc hn h=>by
 cases cs with
 |nil=>exact cV2 hc
 |cons c cs=>exact t4 ((ha F B _ _ _ (a1 hc) hn h).mono λf st1 h=>cC5 B hb (a2 hc) h.1 h.2)
theorem bV0{j l}(hl:SM X n R l):SM X n R (.frz j l):=λF B cs st Q hc hn h=>aE5 h λa l₀ e1 h=>Tr.freeze j e1 (hl F B _ _ _ hc hn h)
structure Ssm(X:Cx)(n:Nat)(R:List UInt8->Prop)(x:Ns):Prop where
 s:SS X n R x
 m:SM X n R x
theorem s8{d:Ns}(hs:SS X n R d)(h:∀st Q,A6 X n R d st Q->False):Ssm X n R d:=⟨hs,λH H H st Q H H k=>(h st Q k).elim⟩
theorem ap2{d:Ns}(hs:SM X n R d)(h:∀st Q,exS X n R d st Q->False):Ssm X n R d:=⟨λH H H st Q H H k=>(h st Q k).elim,hs⟩
theorem M4:∀_:St,∀_:Fl->St->Prop,False->False:=λH H=>id
theorem ssm:∀d:Ns,Ssm X (n+2) R d:=by
 intro d
 induction d with
 |nil=>exact ap2 cf6 M4
 |cons a b ha hb=>exact ap2 (bj1 ha.s hb.m) M4
 |frz j l hl=>exact ap2 (bV0 hl.m) M4
 |ex=>exact s8 cE9 M4
 |asg=>exact s8 ch3 M4
 |asf=>exact s8 bR2 M4
 |asbn=>exact s8 bp0 M4
 |asbc=>exact s8 bl3 M4
 |as2=>exact s8 bQ4 M4
 |unp=>exact s8 ca7 M4
 |aug=>exact s8 bX4 M4
 |auf=>exact s8 ch0 M4
 |ite t a b ha hb=>exact s8 (cb0 ha.m hb.m) M4
 |whl t b hb=>exact s8 (bT4 hb.m) M4
 | «for» i d b hb=>exact s8 (bY6 hb.m) M4
 |ret=>exact s8 bW2 M4
 |ret0=>exact s8 bi9 M4
 |brk=>exact s8 bP8 M4
 |pass=>exact s8 bp2 M4
 |rse=>exact s8 cd1 M4
 |as2o=>exact s8 be2 M4
 |anil=>exact s8 bo1 M4
 |alst=>exact s8 bq9 M4
 |as4=>exact s8 cg8 M4
 |cabs=>exact s8 bp5 M4
 |cfil=>exact s8 bj0 M4
 |asn=>exact s8 bW4 M4
 |asnb=>exact s8 bk1 M4
 |fore i j d b hb=>exact s8 (br0 hb.m) M4
 |forr i d b hb=>exact s8 (bh1 hb.m) M4
 |new i l r hr=>exact ap2 (cg4 hr.m) M4
 |newo i l j r hr=>exact ap2 (bi7 hr.m) M4
end
section
variable {X:Cx} {n:Nat} {R:List UInt8->Prop}
noncomputable def w8(E:Env)(nm:List Str)(d:Ns)(body:List Stmt):Bool:=chM E nm d body&&nm.all λx=> !(x== ("__debug__":Str))
theorem aX2{fd:FuncData}{nm:List Str}{f L:Addr}{ψ:PM}{outer:List Env}{lx:Addr}(O:FOk (t9 fd nm f L ψ outer lx 465))(h:(nm.all λx=> !(x== ("__debug__":Str)))=true):Bnd (t9 fd nm f L ψ outer lx 465):=
 ⟨O,λx hx=>by have:=cZ3.mp h x hx;rwa[db8]at this,rfl⟩
theorem d7(σ:LxS):r7 (some σ.fs):=λfs e=>by cases e;rfl
theorem bJ7:r7 none:=nofun
noncomputable abbrev Pst(me:Option (List (String×Fv)))(Q:V->Option (List (String×Fv))->Prop):Fl->St->Prop:=λfl st'=>st'.me.isSome=me.isSome/\match fl with| .ret v=>Q v st'.me| .next=>Q .none st'.me|_=>False
theorem Cs.sc{f:Addr}{fd body nm k}(D:DefOk X.w.params f fd body nm k)(d:Ns)(hc:∀L ψ outer lx,w8 (t9 fd nm f L ψ outer lx 465).env nm d body=true){vs:List V}{me:Option (List (String×Fv))}{Q:V->Option (List (String×Fv))->Prop}(hk:(V6 me).length+vs.length=k)(hn:r7 me)
 (h:A6 X (n+2) R d {loc:=V6 me++vs.map .val++db4 (nm.length - k) .un,me:=me} (Pst me Q)):Cs X (n+3) (.ref f) 465 vs me Q R:=
 Cs.of_body D hk λL ψ outer lx=>by
  have c:=hc L ψ outer lx
  unfold w8 at c
  rw[cX7]at c
  exact((ssm d).m _ (aX2 (D.frm L ψ outer lx 465) c.2) _ _ _ c.1 hn h).mono λH H q=>q.2
theorem Cs.anyC{f:Value}{C C':Addr}{vs Q}(h:Cs X n f C vs none Q R):Cs X n f C' vs none Q R:=
 λouter A s φ ψ ω Qr Er rs L lx d hA hC hL hS hv H hQ hE=>h outer A s φ ψ ω Qr Er rs L lx d hA hC hL hS hv trivial (λv me' r s' φ' ω' q e S l rv H k=>hQ v me' r s' φ' ω' q e S l rv (by cases me' with|none=>trivial|some m=>exact cV2 e) k) hE
theorem Cs.scF{f:Addr}{fd body nm k}(D:DefOk X.w.params f fd body nm k)(d:Ns)(hc:∀L ψ outer lx,w8 (t9 fd nm f L ψ outer lx 465).env nm d body=true){vs:List V}{Q:V->Option (List (String×Fv))->Prop}(hk:vs.length=k)
 (h:A6 X (n+2) R d {loc:=vs.map .val++db4 (nm.length - k) .un,me:=none} (Pst none Q)):Cs X (n+3) (.ref f) 0 vs none Q R:=
 Cs.anyC (C:=465) (Cs.sc D d hc (by rw[←hk];exact Nat.zero_add _) bJ7 h)
theorem Cs.scM{f:Addr}{fd body nm k}(D:DefOk X.w.params f fd body nm k)(d:Ns)(hc:∀L ψ outer lx,w8 (t9 fd nm f L ψ outer lx 465).env nm d body=true){σ:LxS}{vs:List V}{Q:V->Option (List (String×Fv))->Prop}(hk:vs.length+1=k)
 (h:A6 X (n+2) R d {loc:= .me::vs.map .val++db4 (nm.length - k) .un,me:=some σ.fs} (Pst (some σ.fs) Q)):Cs X (n+3) (.ref f) 465 vs (some σ.fs) Q R:=
 Cs.sc D d hc (by rw[←hk];exact Nat.add_comm _ _) (d7 σ) h
theorem nR(m:Bs)(h:v4 m):R m:=cX9 h
theorem d5{k:Nat}(h:Nat.ble k 16777216=true:=by rfl):k<=16777216:=cV3 h
noncomputable abbrev JI{ι:Type}(S:ι->St)(P:ι->Prop)(m:ι->Nat):Nat->St->Prop:=λk st=>∃i,k=m i/\P i/\st=S i
theorem w7{ι:Type}(S:ι->St)(P:ι->Prop)(m:ι->Nat)(i0:ι){t:Nd}{b l:Ns}{st:St}{Q:Fl->St->Prop}(e0:st=S i0)(h0:P i0)
 (h:∀i,P i->evT X n R t (S i) λc st=>(c=true->A6 X n R b st (aq3 (JI S P m) (m i) (Nx (λst=>A6 X n R l st Q) Q)))/\(c=false->A6 X n R l st Q)):A6 X n R (.cons (.whl t b) l) st Q:=
 ⟨JI S P m,m i0,⟨i0,rfl,h0,e0⟩,λk st ⟨i,e1,e2,e3⟩=>e1▸e3▸h i e2⟩
end
section
variable {X:Cx}
theorem bA{a b:Bool}(h:a=false):false=(a&&b):=by subst h;rfl
theorem bB{a b:Bool}(h:a=true):b=(a&&b):=by subst h;rfl
theorem bC{a b:Bool}(h:a=true):a=(a||b):=by subst h;rfl
theorem bD{a b:Bool}(h:a=false):b=(a||b):=by subst h;rfl
theorem bG{a b:Bool}(h:a=false):(a&&b)=false:=(bA h).symm
theorem bH{a b:Bool}(h:b=false):(a&&b)=false:=by subst h;exact dd6 a
theorem bJ{a b e:Bool}(h:a=true)(h2:b=true):b=(a&&b||e):=by subst h;exact bC h2
theorem bE{a b c d e:Bool}(h:a=true)(h2:b=true):b=((a&&b||c&&d) ||e):=by subst h;subst h2;rfl
theorem bF{x c d e:Bool}(h:x=false)(h1:c=true)(h2:d=true):d=((x||c&&d) ||e):=by subst h;exact bJ h1 h2
theorem bI{x y e:Bool}(h:x=false)(h1:y=false):e=((x||y) ||e):=by subst h;exact bD h1
theorem gN{p q:Prop}[Decidable p](h:decide p=false):¬(p/\q):=λh'=>of_decide_eq_false h h'.1
theorem gM{p q:Prop}[Decidable q](h:decide q=false):¬(p/\q):=λh'=>of_decide_eq_false h h'.2
theorem gA{s:Int}(a:decide (48<=s)=true)(b:decide (s<=57)=true):s - 48=g0 s:=(if_pos ⟨of_decide_eq_true a,of_decide_eq_true b⟩).symm
theorem gB{s:Int}(n:¬(48<=s/\s<=57))(a:decide (97<=s)=true)(b:decide (s<=122)=true):s - 87=g0 s:=((if_neg n).trans (if_pos ⟨of_decide_eq_true a,of_decide_eq_true b⟩)).symm
theorem gC{s:Int}(n:¬(48<=s/\s<=57))(n2:¬(97<=s/\s<=122))(a:decide (65<=s)=true)(b:decide (s<=90)=true):s - 55=g0 s:=((if_neg n).trans ((if_neg n2).trans (if_pos ⟨of_decide_eq_true a,of_decide_eq_true b⟩))).symm
theorem gD{s:Int}(n:¬(48<=s/\s<=57))(n2:¬(97<=s/\s<=122))(n3:¬(65<=s/\s<=90)): -1=g0 s:=((if_neg n).trans ((if_neg n2).trans (if_neg n3))).symm
theorem av6(s:Int):(i5 [.int 10, .int 13]).contains s=b8 s:=by
 show(s==10|| (s==13||false))=(s==10||s==13)
 rw[df0]
noncomputable def bu5:Ns:=(.cons (.ret (.chn .LtE .LtE (.int 48) (.loc 0) (.int 57))) .nil)
theorem cu7(L ψ outer lx):w8 (t9 bL5 aT7 189 L ψ outer lx 465).env aT7 bu5 bu9=true:=by kernel_rfl
theorem x5{s:Int}:Cs X 3 (.ref 189) 0 [.int s] none (λv m=>v= .bool (d8 s)/\m=none) v4:=by
 refine Cs.scF (n:=0) (cN0 _) bu5 cu7 rfl ?_
 refine⟨λh1=>⟨rfl, ?_⟩,λh1=>⟨rfl, ?_⟩⟩
 ·exact⟨congrArg V.bool (bA h1),rfl⟩
 ·exact⟨congrArg V.bool (bB h1),rfl⟩
noncomputable def bJ6:Ns:=(.cons (.ret (.cmp .In (.loc 0) (.tup (.cons (.gi 15) (.cons (.gi 16) .nil))))) .nil)
theorem cp8(L ψ outer lx):w8 (t9 bz6 aR5 224 L ψ outer lx 465).env aR5 bJ6 bs0=true:=by kernel_rfl
theorem r6{s:Int}:Cs X 3 (.ref 224) 0 [.int s] none (λv m=>v= .bool (b8 s)/\m=none) v4:=by
 refine Cs.scF (n:=0) (cT5 _) bJ6 cp8 rfl ?_
 refine⟨d5,⟨rfl,⟨rfl, ?_⟩⟩⟩
 exact⟨congrArg V.bool (av6 s),rfl⟩
noncomputable def br8:Ns:=(.cons (.ret (.or (.chn .LtE .LtE (.int 65) (.loc 0) (.int 90)) (.or (.chn .LtE .LtE (.int 97) (.loc 0) (.int 122)) (.cmp .Eq (.loc 0) (.gi 28))))) .nil)
theorem cq6(L ψ outer lx):w8 (t9 bu7 aS3 196 L ψ outer lx 465).env aS3 br8 bs6=true:=by kernel_rfl
theorem O0{s:Int}:Cs X 3 (.ref 196) 0 [.int s] none (λv m=>v= .bool (t6 s)/\m=none) v4:=by
 refine Cs.scF (n:=0) (cR8 _) br8 cq6 rfl ?_
 refine⟨λh4=>⟨λh1=>⟨rfl, ?_⟩,λh1=>⟨λh3=>⟨λh2=>⟨rfl, ?_⟩,λh2=>⟨rfl, ?_⟩⟩,λh3=>⟨λh2=>⟨rfl, ?_⟩,λh2=>⟨rfl, ?_⟩⟩⟩⟩,λh4=>⟨λh1=>⟨rfl, ?_⟩,λh1=>⟨λh3=>⟨λh2=>⟨rfl, ?_⟩,λh2=>⟨rfl, ?_⟩⟩,λh3=>⟨λh2=>⟨rfl, ?_⟩,λh2=>⟨rfl, ?_⟩⟩⟩⟩⟩
 all_goals first|exact cV2 h1|exact cV2 h2|exact⟨congrArg V.bool (bE h4 h1),rfl⟩|exact⟨congrArg V.bool (bF (bG h4) h3 h2),rfl⟩|exact⟨congrArg V.bool (bF (bH h1) h3 h2),rfl⟩|exact⟨congrArg V.bool (bI (bG h4) (bG h3)),rfl⟩|exact⟨congrArg V.bool (bI (bG h4) (bH h2)),rfl⟩|exact⟨congrArg V.bool (bI (bH h1) (bG h3)),rfl⟩|exact⟨congrArg V.bool (bI (bH h1) (bH h2)),rfl⟩
noncomputable def bz3:Ns:=(.cons (.ret (.or (.call 14 (.cons (.loc 0) .nil)) (.call 13 (.cons (.loc 0) .nil)))) .nil)
theorem cm3(L ψ outer lx):w8 (t9 bE3 aX9 203 L ψ outer lx 465).env aX9 bz3 bC4=true:=by kernel_rfl
theorem G9{s:Int}:Cs X 4 (.ref 203) 0 [.int s] none (λv m=>v= .bool (c8 s)/\m=none) v4:=by
 refine Cs.scF (n:=1) (cQ7 _) bz3 cm3 rfl ?_
 refine(Cs.det O0 (by decide) nR ⟨λh1=>⟨rfl, ?_⟩,λh1=>(Cs.det x5 (by decide) nR ⟨rfl, ?_⟩)⟩)
 ·exact⟨congrArg V.bool (bC h1),rfl⟩
 ·exact⟨congrArg V.bool (bD h1),rfl⟩
noncomputable def bJ0:Ns:=(.cons (.ret (.or (.cmp .Eq (.loc 0) (.int 32)) (.chn .LtE .LtE (.int 9) (.loc 0) (.int 13)))) .nil)
theorem cz5(L ψ outer lx):w8 (t9 bJ9 bc3 210 L ψ outer lx 465).env bc3 bJ0 bB4=true:=by kernel_rfl
theorem Q2{s:Int}:Cs X 3 (.ref 210) 0 [.int s] none (λv m=>v= .bool (u6 s)/\m=none) v4:=by
 refine Cs.scF (n:=0) (cP5 _) bJ0 cz5 rfl ?_
 refine⟨λh1=>⟨rfl, ?_⟩,λh1=>⟨λh2=>⟨rfl, ?_⟩,λh2=>⟨rfl, ?_⟩⟩⟩
 ·exact⟨congrArg V.bool (bC h1),rfl⟩
 ·exact⟨congrArg V.bool ((bA h2).trans (bD h1)),rfl⟩
 ·exact⟨congrArg V.bool ((bB h2).trans (bD h1)),rfl⟩
noncomputable def bN6:Ns:=(.cons (.ret (.or (.chn .LtE .Lt (.int 0) (.loc 0) (.int 32)) (.cmp .Eq (.loc 0) (.int 127)))) .nil)
theorem cp0(L ψ outer lx):w8 (t9 bF1 aP0 217 L ψ outer lx 465).env aP0 bN6 bB1=true:=by kernel_rfl
theorem ad7{s:Int}:Cs X 3 (.ref 217) 0 [.int s] none (λv m=>v= .bool (aI5 s)/\m=none) v4:=by
 refine Cs.scF (n:=0) (cN3 _) bN6 cp0 rfl ?_
 refine⟨λh2=>⟨λh1=>⟨rfl, ?_⟩,λh1=>⟨rfl, ?_⟩⟩,λh2=>⟨λh1=>⟨rfl, ?_⟩,λh1=>⟨rfl, ?_⟩⟩⟩
 all_goals first|exact cV2 h1|exact⟨congrArg V.bool (bJ h2 h1),rfl⟩|exact⟨congrArg V.bool (bD (bG h2)),rfl⟩|exact⟨congrArg V.bool (bD (bH h1)),rfl⟩
noncomputable def bx2:Ns:=(.cons (.ite (.chn .LtE .LtE (.int 48) (.loc 0) (.int 57)) (.cons (.ret (.bin .Sub (.loc 0) (.int 48))) .nil) .nil) (.cons (.ite (.chn .LtE .LtE (.int 97) (.loc 0) (.int 122)) (.cons (.ret (.bin .Sub (.loc 0) (.int 87))) .nil) .nil) (.cons (.ite (.chn .LtE .LtE (.int 65) (.loc 0) (.int 90)) (.cons (.ret (.bin .Sub (.loc 0) (.int 55))) .nil) .nil) (.cons (.ret (.neg (.int 1))) .nil))))
theorem cx8(L ψ outer lx):w8 (t9 br7 aO0 117 L ψ outer lx 465).env aO0 bx2 bA4=true:=by kernel_rfl
theorem U0{s:Int}:Cs X 3 (.ref 117) 0 [.int s] none (λv m=>v= .int (g0 s)/\m=none) v4:=by
 refine Cs.scF (n:=0) (cU3 _) bx2 cx8 rfl ?_
 refine⟨λh5=>⟨nofun,λH=>⟨λh3=>⟨nofun,λH=>⟨λh1=>⟨nofun,λH=>⟨rfl, ?_⟩⟩,λh1=>⟨λh2=>⟨rfl, ?_⟩,λh2=>⟨rfl, ?_⟩⟩⟩⟩,λh3=>⟨λh4=>⟨rfl, ?_⟩,λh4=>⟨λh1=>⟨nofun,λH=>⟨rfl, ?_⟩⟩,λh1=>⟨λh2=>⟨rfl, ?_⟩,λh2=>⟨rfl, ?_⟩⟩⟩⟩⟩⟩,λh5=>⟨λh6=>⟨rfl, ?_⟩,λh6=>⟨λh3=>⟨nofun,λH=>⟨λh1=>⟨nofun,λH=>⟨rfl, ?_⟩⟩,λh1=>⟨λh2=>⟨rfl, ?_⟩,λh2=>⟨rfl, ?_⟩⟩⟩⟩,λh3=>⟨λh4=>⟨rfl, ?_⟩,λh4=>⟨λh1=>⟨nofun,λH=>⟨rfl, ?_⟩⟩,λh1=>⟨λh2=>⟨rfl, ?_⟩,λh2=>⟨rfl, ?_⟩⟩⟩⟩⟩⟩⟩
 all_goals first|exact cV2 h6|exact cV2 h4|exact cV2 h2|exact cV2 h1|exact⟨congrArg V.int (gA h5 h6),rfl⟩|exact⟨congrArg V.int (gB (gN h5) h3 h4),rfl⟩|exact⟨congrArg V.int (gB (gM h6) h3 h4),rfl⟩|exact⟨congrArg V.int (gC (gN h5) (gN h3) h1 h2),rfl⟩|exact⟨congrArg V.int (gC (gN h5) (gM h4) h1 h2),rfl⟩|exact⟨congrArg V.int (gC (gM h6) (gN h3) h1 h2),rfl⟩|exact⟨congrArg V.int (gC (gM h6) (gM h4) h1 h2),rfl⟩|exact⟨congrArg V.int (gD (gN h5) (gN h3) (gN h1)),rfl⟩|exact⟨congrArg V.int (gD (gN h5) (gN h3) (gM h2)),rfl⟩|exact⟨congrArg V.int (gD (gN h5) (gM h4) (gN h1)),rfl⟩|exact⟨congrArg V.int (gD (gN h5) (gM h4) (gM h2)),rfl⟩|exact⟨congrArg V.int (gD (gM h6) (gN h3) (gN h1)),rfl⟩|exact⟨congrArg V.int (gD (gM h6) (gN h3) (gM h2)),rfl⟩|exact⟨congrArg V.int (gD (gM h6) (gM h4) (gN h1)),rfl⟩|exact⟨congrArg V.int (gD (gM h6) (gM h4) (gM h2)),rfl⟩
end
section
variable {X:Cx}
noncomputable abbrev U:Unit->V:=λH=> .none
structure LxS.Wk(σ:LxS):Prop where
 suf:σ.rest <:+σ.text
 few:σ.text.length<=5000
 small:σ.buf.length<=100000
 pos:1<=σ.line
 lines:σ.line<=20000
theorem LxS.Ok.wk{σ:LxS}(h:σ.Ok):σ.Wk:=⟨h.suf,h.few,by have:=h.room;have:=h.few;lia,h.pos,by have:=h.lines;have:=h.few;lia⟩
theorem bt8{σ:LxS}(h:b9 σ.rest≠ -1){a:Int}(e:a=b9 σ.rest.tail):
 (σ.fs.set 5 ("at", .val (.int ((σ.text.length:Int) - σ.rest.length+1)))).set 6 ("sign", .val (.int a))=(σ.w σ.rest.tail σ.line σ.buf).fs:=by
 have:=j7 h
 subst e
 show [_,_,_,_,_,("at",Fv.val (.int ((σ.text.length:Int) - σ.rest.length+1))),_,_,_,_,_,_]=[_,_,_,_,_,("at",Fv.val (.int ((σ.text.length:Int) - σ.rest.tail.length))),_,_,_,_,_,_]
 rw[show(σ.text.length:Int) - σ.rest.length+1=(σ.text.length:Int) - σ.rest.tail.length by lia]
 rfl
theorem bB7{σ:LxS}(hs:σ.rest <:+σ.text)(h:b9 σ.rest≠ -1)(h1:decide ((σ.text.length:Int) - σ.rest.length+1 < (σ.text.length:Int))=true):
 ((σ.text.getD ((σ.text.length:Int) - σ.rest.length+1).toNat 0).toNat:Int)=b9 σ.rest.tail:=by
 have h2:=j7 h
 have h3:=bd1 ((m7 σ.rest).trans hs)
 have h4:σ.rest.tail≠[]:=λe=>by
  have z:σ.rest.length=1:=by rw[←h2,e];rfl
  have h1:=of_decide_eq_true h1
  rw[z]at h1
  exact Int.lt_irrefl (σ.text.length:Int) (Int.lt_of_le_of_lt (Int.le_of_eq (Int.sub_add_cancel (σ.text.length:Int) 1).symm) h1)
 rw[←h3.1 h4]
 congr 2
 have:=h3.2
 congr 1
 lia
theorem aK6{σ:LxS}(h:b9 σ.rest≠ -1)(h1:decide ((σ.text.length:Int) - σ.rest.length+1 < (σ.text.length:Int))=false): -1=b9 σ.rest.tail:=by
 have h2:=j7 h
 have:σ.rest.tail=[]:=List.eq_nil_of_length_eq_zero (by have h1:=of_decide_eq_false h1;lia)
 rw[this];rfl
noncomputable def bu0:Ns:=(.cons (.auf 0 5 .Add (.int 1)) (.cons (.asf 0 6 (.ife (.cmp .Lt (.fld 0 5) (.bi 0 (.cons (.fld 0 0) .nil))) (.sub (.fld 0 0) (.fld 0 5)) (.gi 0))) .nil))
theorem cq9(L ψ outer lx):w8 (t9 bC6 aV6 322 L ψ outer lx 465).env aV6 bu0 bI7=true:=by kernel_rfl
theorem r9{σ:LxS}(hs:σ.rest <:+σ.text)(hf:σ.text.length<=5000)(hn:b9 σ.rest≠ -1):Lx X 3 322 [] σ U (.ok () σ.rest.tail σ.line σ.buf):=by
 refine Cs.scM (n:=0) (cO1 _) bu0 cq9 rfl ?_
 refine⟨?_,⟨λh1=>⟨?_,⟨rfl, ?_⟩⟩,λh1=>⟨rfl, ?_⟩⟩⟩
 ·lia
 ·have:=hs.length_le
  exact⟨by lia,by lia,by simpa using h1⟩
 ·exact⟨(),_,_,_,rfl,rfl,congrArg some (bt8 hn (bB7 hs hn h1))⟩
 ·exact⟨(),_,_,_,rfl,rfl,congrArg some (bt8 hn (aK6 hn h1))⟩
noncomputable def bG7:Ns:=(.cons (.ite (.cmp .GtE .lenb (.rf 3 (.fld 0 3))) (.cons (.ex (.meth 0 2 (.cons (.byt [108,101,120,105,99,97,108,32,101,108,101,109,101,110,116,32,116,111,111,32,108,111,110,103]) (.cons .non .nil)))) .nil) .nil) (.cons (.ex (.bapp (.loc 1))) .nil))
theorem cE0(L ψ outer lx):w8 (t9 bx6 aP8 329 L ψ outer lx 465).env aP8 bG7 bH4=true:=by kernel_rfl
theorem G5{σ:LxS}{c:Int}(hb:σ.buf.length<=100000)(hc0:0<=c)(hc1:c < 256):Lx X 3 329 [.int c] σ U (.ok () σ.rest σ.line (σ.buf++[c.toNat.toUInt8])):=by
 refine Cs.scM (n:=0) (cQ1 _) bG7 cE0 rfl ?_
 refine⟨?_,⟨rfl,rfl,⟨λh1=>(cX9 ?_),λh1=>⟨?_,⟨rfl, ?_⟩⟩⟩⟩⟩
 ·lia
 ·simp at h1;lia
 ·exact⟨hc0,hc1,by lia,rfl⟩
 ·exact⟨(),_,_,_,rfl,rfl,rfl⟩
noncomputable def bC9:Ns:=(.cons (.ex (.meth 0 6 (.cons (.fld 0 6) .nil))) (.cons (.ex (.meth 0 5 .nil)) .nil))
theorem cx0(L ψ outer lx):w8 (t9 bH6 aY4 336 L ψ outer lx 465).env aY4 bC9 bK0=true:=by kernel_rfl
theorem e8{σ:LxS}(w:σ.Wk)(hn:b9 σ.rest≠ -1):Lx X 4 336 [] σ U (.ok () σ.rest.tail σ.line (σ.buf++[hd σ.rest])):=by
 refine Cs.scM (n:=1) (cI8 _) bC9 cx0 rfl ?_
 refine(Lx.sure (G5 w.small (W4 (A9 hn)) (aj0 _)) (by decide) ⟨d7 _,(Lx.sure (r9 (σ:=σ.w _ _ _) w.suf w.few hn) (by decide) ⟨d7 _,⟨rfl, ?_⟩⟩)⟩)
 rw[←at1 (A9 hn)];exact⟨(),_,_,_,rfl,rfl,rfl⟩
noncomputable def bE2:Ns:=(.cons .asbn .nil)
theorem cA8(L ψ outer lx):w8 (t9 bu3 ba7 350 L ψ outer lx 465).env ba7 bE2 by2=true:=by kernel_rfl
theorem W8{σ:LxS}:Lx X 3 350 [] σ U (.ok () σ.rest σ.line []):=by
 refine Cs.scM (n:=0) (cH5 _) bE2 cA8 rfl ?_
 refine⟨rfl, ?_⟩
 exact⟨(),_,_,_,rfl,rfl,rfl⟩
noncomputable def bK2:Ns:=(.cons (.ret (.ife (.cmp .Lt (.bin .Add (.fld 0 5) (.int 1)) (.bi 0 (.cons (.fld 0 0) .nil))) (.sub (.fld 0 0) (.bin .Add (.fld 0 5) (.int 1))) (.gi 0))) .nil)
theorem cv0(L ψ outer lx):w8 (t9 bF4 aM7 378 L ψ outer lx 465).env aM7 bK2 bN4=true:=by kernel_rfl
theorem ab0{σ:LxS}(hs:σ.rest <:+σ.text)(hf:σ.text.length<=5000)(hn:b9 σ.rest≠ -1):Lx X 3 378 [] σ V.int (.ok (b9 σ.rest.tail) σ.rest σ.line σ.buf):=by
 refine Cs.scM (n:=0) (cO3 _) bK2 cv0 rfl ?_
 refine⟨?_,⟨λh1=>⟨?_,⟨rfl, ?_⟩⟩,λh1=>⟨rfl, ?_⟩⟩⟩
 ·lia
 ·have:=hs.length_le
  exact⟨by lia,by lia,by simpa using h1⟩
 ·exact⟨_,_,_,_,rfl,congrArg V.int (bB7 hs hn h1),rfl⟩
 ·exact⟨_,_,_,_,rfl,congrArg V.int (aK6 hn h1),rfl⟩
theorem cz3{r:Bs}(h:b8 (b9 r)=true):b9 r≠ -1:=λe=>by rw[e]at h;exact cV2 h
theorem cH1{r:Bs}(h:b8 (b9 r.tail)=true)(h':(!b9 r.tail==b9 r)=true):endLine r=r.tail.tail:=by
 unfold endLine;rw[h];exact if_pos h'
theorem cQ6{r:Bs}(h:b8 (b9 r.tail)=true)(h':(!b9 r.tail==b9 r)=false):endLine r=r.tail:=by
 unfold endLine;rw[h];exact if_neg (by rw[Bool.true_and];exact(by rw[show(b9 r.tail != b9 r)=false from h'];decide))
theorem cJ8{r:Bs}(h:b8 (b9 r.tail)=false):endLine r=r.tail:=by
 unfold endLine;rw[h];rfl
theorem ay0{l:Int}(h:l<=20000)(h':decide (l+1≥ 2147483645)=true):False:=by have:=of_decide_eq_true h';lia
noncomputable def bG8:Ns:=(.cons (.asg 1 (.fld 0 6)) (.cons (.ex (.meth 0 5 .nil)) (.cons (.ite (.tall (.cons (.cons (.call 18 (.cons (.fld 0 6) .nil)) .nil) (.cons (.cmp .NotEq (.fld 0 6) (.loc 1)) .nil))) (.cons (.ex (.meth 0 5 .nil)) .nil) .nil) (.cons (.auf 0 7 .Add (.int 1)) (.cons (.ite (.cmp .GtE (.fld 0 7) (.gi 14)) (.cons (.ex (.meth 0 3 (.cons (.byt [99,104,117,110,107,32,104,97,115,32,116,111,111,32,109,97,110,121,32,108,105,110,101,115]) .nil))) .nil) .nil) .nil)))))
theorem cr4(L ψ outer lx):w8 (t9 bB8 bb0 357 L ψ outer lx 465).env bb0 bG8 bx5=true:=by kernel_rfl
theorem D9{σ:LxS}(hs:σ.rest <:+σ.text)(hf:σ.text.length<=5000)(hn:b9 σ.rest≠ -1)(hl:σ.line<=20000):Lx X 4 357 [] σ U (.ok () (endLine σ.rest) (σ.line+1) σ.buf):=by
 refine Cs.scM (n:=1) (cR2 _) bG8 cr4 rfl ?_
 refine(Lx.sure (r9 hs hf hn) (by decide) ⟨d7 _,(Cs.det r6 (by decide) nR ⟨λh3=>⟨λh2=>⟨λH=>(Lx.sure (r9 ?_ hf ?_) (by decide) ⟨d7 _,⟨λh1=>(cX9 ?_),λh1=>⟨rfl, ?_⟩⟩⟩),nofun⟩,λh2=>⟨nofun,λH=>⟨λh1=>(cX9 ?_),λh1=>⟨rfl, ?_⟩⟩⟩⟩,λh3=>⟨nofun,λH=>⟨λh1=>(cX9 ?_),λh1=>⟨rfl, ?_⟩⟩⟩⟩)⟩)
 ·exact(m7 _).trans hs
 ·exact cz3 h3
 ·exact ay0 hl h1
 ·rw[cH1 h3 h2];exact⟨(),_,_,_,rfl,rfl,rfl⟩
 ·exact ay0 hl h1
 ·rw[cQ6 h3 h2];exact⟨(),_,_,_,rfl,rfl,rfl⟩
 ·exact ay0 hl h1
 ·rw[cJ8 h3];exact⟨(),_,_,_,rfl,rfl,rfl⟩
end
section
variable {X:Cx}
theorem U4{l:List V}{r:Bs}(hz:(i5 l).contains (-1)=false)(h:(i5 l).contains (b9 r)=true):b9 r≠ -1:=λe=>by rw[e,hz]at h;exact cV2 h
noncomputable def A8(l:List V)(r:Bs)(ln:Int)(b:Bs):Res Bool:=if(i5 l).contains (b9 r)then .ok true r.tail ln (b++[hd r])else .ok false r ln b
theorem cL1{l:List V}{r:Bs}{ln b}(h:(!(i5 l).contains (b9 r))=false):A8 l r ln b= .ok true r.tail ln (b++[hd r]):=if_pos (by simpa using h)
theorem cJ9{l:List V}{r:Bs}{ln b}(h:(!(i5 l).contains (b9 r))=true):A8 l r ln b= .ok false r ln b:=if_neg (by simpa using h)
noncomputable def bI0:Ns:=(.cons (.ite (.cmp .NotIn (.fld 0 6) (.loc 1)) (.cons (.ret (.boo false)) .nil) .nil) (.cons (.ex (.meth 0 7 .nil)) (.cons (.ret (.boo true)) .nil)))
theorem ci2(L ψ outer lx):w8 (t9 bN1 aK9 343 L ψ outer lx 465).env aK9 bI0 bH5=true:=by kernel_rfl
theorem F9{σ:LxS}{l:List V}(hi:n9 l=true)(hz:(i5 l).contains (-1)=false)(w:σ.Wk):Lx X 5 343 [.tup l] σ V.bool (A8 l σ.rest σ.line σ.buf):=by
 refine Cs.scM (n:=2) (cJ3 _) bI0 ci2 rfl ?_
 refine⟨?_,⟨λh1=>⟨rfl, ?_⟩,λh1=>(Lx.sure (e8 w ?_) (by decide) ⟨d7 _,⟨rfl, ?_⟩⟩)⟩⟩
 ·exact hi
 ·rw[cJ9 h1];exact⟨_,_,_,_,rfl,rfl,rfl⟩
 ·exact U4 hz (by simpa using h1)
 ·rw[cL1 h1];exact⟨_,_,_,_,rfl,rfl,rfl⟩
noncomputable abbrev G7(σ:LxS)(l:List Sl):St:= {loc:= .me::l,me:=some σ.fs}
noncomputable abbrev LvI:=Bs×Bs×Int
noncomputable abbrev lvS(σ:LxS)(i:LvI):St:=G7 (σ.w i.1 σ.line i.2.1) [.val (.int (b9 σ.rest)), .val (.int i.2.2)]
structure LvP(σ:LxS)(i:LvI):Prop where
 ok:(σ.w i.1 σ.line i.2.1).Ok
 k:i.2.2+ (tw v8 i.1).length=(tw v8 σ.rest.tail).length
 d:dw v8 i.1=dw v8 σ.rest.tail
 b:i.2.1++tw v8 i.1=f5 σ.rest σ.buf
theorem cp1{r:Bs}(h:(b9 r==61)=true):tw v8 r=hd r::tw v8 r.tail/\dw v8 r=dw v8 r.tail:=by
 cases r with
 |nil=>exact cV2 h
 |cons c t=>
  have:v8 c.toNat=true:=h
  exact⟨by show(if _ then _ else _)=_;rw[this];rfl,by show(if _ then _ else _)=_;rw[this];rfl⟩
theorem bW1{r:Bs}(h:(b9 r==61)=false):tw v8 r=[]/\dw v8 r=r:=by
 cases r with
 |nil=>exact⟨rfl,rfl⟩
 |cons c t=>
  have:v8 c.toNat=false:=h
  exact⟨by show(if _ then _ else _)=_;rw[this];rfl,by show(if _ then _ else _)=_;rw[this];rfl⟩
theorem bd0{σ:LxS}{i:LvI}(p:LvP σ i)(h:(b9 i.1==61)=true):LvP σ (i.1.tail,i.2.1++[hd i.1],i.2.2+1):=by
 have hn:=C0 h (by decide)
 obtain⟨h1,h2⟩:=cp1 h
 refine⟨p.ok.le (f8 hn), ?_, ?_, ?_⟩
 ·have:=p.k;rw[h1]at this;simp at this⊢;lia
 ·rw[←p.d,h2]
 ·rw[←p.b,h1];simp
theorem au3{σ:LxS}{i:LvI}(p:LvP σ i)(h:(b9 i.1==61)=false):i.2.2=(tw v8 σ.rest.tail).length/\i.1=c9 σ.rest/\i.2.1=f5 σ.rest σ.buf:=by
 obtain⟨h1,h2⟩:=bW1 h
 refine⟨?_, ?_, ?_⟩
 ·have:=p.k;rw[h1]at this;simpa using this
 ·rw[←h2,p.d];rfl
 ·rw[←p.b,h1,cZ4]
theorem cK8{σ:LxS}{i:LvI}(p:LvP σ i)(h:(b9 i.1==61)=false)(h':(b9 i.1==b9 σ.rest)=true):i.2.2=f7 σ.rest:=by
 obtain⟨h1,h2,_⟩:=au3 p h
 rw[h2]at h'
 rw[h1];exact(if_pos h').symm
theorem cO7{σ:LxS}{i:LvI}(p:LvP σ i)(h:(b9 i.1==61)=false)(h':(b9 i.1==b9 σ.rest)=false): -i.2.2 - 1=f7 σ.rest:=by
 obtain⟨h1,h2,_⟩:=au3 p h
 rw[h2]at h'
 rw[h1];exact(if_neg (λe=>cV2 (h'.symm.trans e))).symm
theorem bI1{σ:LxS}{i:LvI}(p:LvP σ i)(h:(b9 i.1==61)=false):(lvS σ i).me=some (σ.w (c9 σ.rest) σ.line (f5 σ.rest σ.buf)).fs:=by
 obtain⟨_,h2,h3⟩:=au3 p h
 rw[←h2, ←h3]
noncomputable def bs9:Ns:=(.cons (.asg 1 (.fld 0 6)) (.cons (.asg 2 (.int 0)) (.cons (.ex (.meth 0 7 .nil)) (.cons (.whl (.cmp .Eq (.fld 0 6) (.gi 23)) (.cons (.ex (.meth 0 7 .nil)) (.cons (.aug 2 .Add (.int 1)) .nil))) (.cons (.ret (.ife (.cmp .Eq (.fld 0 6) (.loc 1)) (.loc 2) (.bin .Sub (.neg (.loc 2)) (.int 1)))) .nil)))))
theorem cC9(L ψ outer lx):w8 (t9 bu4 aU0 427 L ψ outer lx 465).env aU0 bs9 br9=true:=by kernel_rfl
theorem B3{σ:LxS}(o:σ.Ok)(hn:b9 σ.rest≠ -1):Lx X 5 427 [] σ V.int (.ok (f7 σ.rest) (c9 σ.rest) σ.line (f5 σ.rest σ.buf)):=by
 refine Cs.scM (n:=2) (cU0 _) bs9 cC9 rfl ?_
 refine(Lx.sure (e8 o.wk hn) (by decide) ⟨d7 _,(w7 (lvS σ) (LvP σ) (λi=>i.1.length) (σ.rest.tail,σ.buf++[hd σ.rest],0) rfl ⟨o.le (f8 hn),Int.zero_add _,rfl,rfl⟩ (λi p=>⟨λh3=>(Lx.sure (e8 p.ok.wk ?_) (by decide) ⟨d7 _,⟨i.1.tail.length, ?_,_,rfl,bd0 p ?_,rfl⟩⟩),λh3=>⟨λh2=>⟨rfl, ?_⟩,λh2=>⟨rfl, ?_⟩⟩⟩))⟩)
 ·exact C0 h3 (by decide)
 ·have:=j7 (r:=i.1) (C0 h3 (by decide));lia
 ·exact h3
 ·exact⟨_,_,_,_,rfl,congrArg V.int (cK8 p h3 h2),bI1 p h3⟩
 ·exact⟨_,_,_,_,rfl,congrArg V.int (cO7 p h3 h2),bI1 p h3⟩
end
section
variable {X:Cx}
noncomputable def cw2:Ns:=(.cons (.ret (.and (.isi 1 (.loc 0)) (.tnot (.isi 2 (.loc 0))))) .nil)
theorem cI3(L ψ outer lx):w8 (t9 cs4 bP7 96 L ψ outer lx 465).env bP7 cw2 co1=true:=by kernel_rfl
theorem ah1{i:Int}:Cs X 3 (.ref 96) 0 [.int i] none (λv m=>v= .bool true/\m=none) v4:=by
 refine Cs.scF (n:=0) (D96 _) cw2 cI3 rfl ?_
 refine⟨λh1=>⟨rfl, ?_⟩,λh1=>⟨rfl, ?_⟩⟩
 ·exact⟨rfl,rfl⟩
 ·exact cV2 h1
noncomputable abbrev vI(b:Bs):List V:=b.map λc=>V.int c.toNat
theorem bR9(b:Bs):n9 (vI b)=true:=by induction b with|nil=>rfl|cons c b ih=>exact ih
theorem aE9(b:Bs):i5 (vI b)=b.map λc=>(c.toNat:Int):=by induction b with|nil=>rfl|cons c b ih=>exact congrArg _ ih
theorem cc9(b:Bs):byt (i5 (vI b))=b:=by
 rw[aE9]
 induction b with
 |nil=>rfl
 |cons c b ih=>rw[List.map_cons];show _::byt (List.map _ b)=_;rw[ih];simp
theorem bE1{b:Bs}(h:b.length<=16777216):n9 (vI b)=true/\(∀i∈i5 (vI b),0<=i/\i < 256)/\(vI b).length<=16777216:=by
 refine⟨bR9 b, ?_,by rw[cW3];exact h⟩
 rw[aE9]
 intro i hi
 obtain⟨c,_,rfl⟩:=List.mem_map.mp hi
 have:=c.toNat_lt
 exact⟨by lia,by show(c.toNat:Int)< 256;lia⟩
noncomputable abbrev ntS(N:Nat)(a:Addr)(i:Nat×Bs):St:= {loc:=[.val (.int N), .val (.int i.1), .own a (vI i.2)],me:=none}
structure NtP(N:Nat)(i:Nat×Bs):Prop where
 few:i.2.length+i.1<=N
 eq:L6 i.1++i.2.reverse=L6 N
theorem d48{m:Nat}(h:m < 10):V.int (48+ (m:Int))=V.int ((48+m).toUInt8.toNat:Int):=by
 congr 1
 have:(48+m).toUInt8.toNat=48+m:=by simp;lia
 rw[this];lia
theorem cz1{N:Nat}{a:Addr}{i:Nat×Bs}:({loc:=[.val (.int N), .val (.int ((i.1:Int).fdiv 10)), .own a (vI i.2++[V.int (48+ (i.1:Int).fmod 10)])],me:=none}:St)=ntS N a (i.1 / 10,i.2++[(48+i.1 % 10).toUInt8]):=by
 have h1:(i.1:Int).fdiv 10=((i.1 / 10:Nat):Int):=by rw[Int.fdiv_eq_ediv_of_nonneg _ (by decide)];rfl
 have h2:(i.1:Int).fmod 10=((i.1 % 10:Nat):Int):=by rw[Int.fmod_eq_emod_of_nonneg _ (by decide)];rfl
 rw[h1,h2,d48 (Nat.mod_lt _ (by decide))]
 simp[vI]
theorem bl5{N:Nat}{i:Nat×Bs}(p:NtP N i)(h:decide ((i.1:Int) > 9)=true):NtP N (i.1 / 10,i.2++[(48+i.1 % 10).toUInt8]):=by
 have h9:¬ i.1<=9:=by have:=of_decide_eq_true h;lia
 refine⟨?_, ?_⟩
 ·have:=p.few;simp;lia
 ·have e:L6 i.1=L6 (i.1 / 10)++[(48+i.1 % 10).toUInt8]:=by rw[Q3,if_neg h9]
  rw[←p.eq,e];simp
theorem at4{N:Nat}{i:Nat×Bs}(p:NtP N i)(h:decide ((i.1:Int) > 9)=false):(i.2++[(48+i.1).toUInt8]).reverse=L6 N/\V.int (48+ (i.1:Int))=V.int ((48+i.1).toUInt8.toNat:Int):=by
 have h9:i.1<=9:=by have:=of_decide_eq_false h;lia
 refine⟨?_,d48 (by lia)⟩
 have e:L6 i.1=[(48+i.1).toUInt8]:=by rw[Q3,if_pos h9]
 rw[←p.eq,e];simp
theorem aW1{N:Nat}{i:Nat×Bs}(p:NtP N i)(h:decide ((i.1:Int) > 9)=false):(vI i.2++[V.int (48+ (i.1:Int))]).reverse=vI (L6 N):=by
 rw[(at4 p h).2, ← (at4 p h).1];simp[vI]
theorem bY4{N:Nat}{i:Nat×Bs}(p:NtP N i)(h:decide ((i.1:Int) > 9)=false)(hN:N<=1000000):(L6 N).length<=16777216:=by
 rw[← (at4 p h).1];have:=p.few;simp;lia
noncomputable def bw5:Ns:=(.cons (.as2o 1 (.bi 1 (.cons (.loc 0) .nil)) 2) (.cons (.whl (.cmp .Gt (.loc 1) (.int 9)) (.cons (.ex (.app 2 (.bin .Add (.int 48) (.bin .Mod (.loc 1) (.int 10))))) (.cons (.asg 1 (.bin .FloorDiv (.loc 1) (.int 10))) .nil))) (.cons (.ex (.app 2 (.bin .Add (.int 48) (.loc 1)))) (.cons (.ite (.cmp .Lt (.loc 0) (.int 0)) (.cons (.ex (.app 2 (.int 45))) .nil) .nil) (.cons (.ex (.rev 2)) (.frz 2 (.cons (.ret (.tyb (.cons (.loc 2) .nil))) .nil)))))))
theorem cz4(L ψ outer lx):w8 (t9 bN5 aP9 152 L ψ outer lx 465).env aP9 bw5 bC3=true:=by kernel_rfl
theorem Z8{N:Nat}(hN:N<=1000000):Cs X 3 (.ref 152) 0 [.int N] none (λv m=>v= .bytes (L6 N)/\m=none) v4:=by
 refine Cs.scF (n:=0) (cP7 _) bw5 cz4 rfl ?_
 refine λa=>(w7 (ntS N a) (NtP N) (λi=>i.1) (N,[]) (congrArg (λi=>({loc:=[.val (.int N), .val (.int i), .own a []],me:=none}:St)) (if_neg (by lia))) ⟨by simp,by simp⟩ (λi p=>⟨λh3=>⟨?_,⟨rfl, ?_,⟨?_,⟨i.1 / 10, ?_,_,rfl,bl5 p ?_,cz1⟩⟩⟩⟩,λh3=>⟨rfl, ?_,⟨λh2=>(cX9 ?_),λh2=>⟨?_,⟨?_,⟨rfl, ?_⟩⟩⟩⟩⟩⟩))
 ·decide
 ·rw[cW3];have:=p.few;lia
 ·decide
 ·have:=of_decide_eq_true h3;lia
 ·exact h3
 ·rw[cW3];have:=p.few;lia
 ·have:=of_decide_eq_true h2;lia
 ·have:=p.few;simp;lia
 ·exact aW1 p h3▸bE1 (bY4 p h3 hN)
 ·exact⟨congrArg V.bytes ((congrArg (λl=>byt (i5 l)) (aW1 p h3)).trans (cc9 _)),rfl⟩
noncomputable def bG9:Ns:=(.cons (.ite (.cons (.isi 0 (.loc 0)) .nil) (.cons (.ret (.loc 0)) .nil) .nil) (.cons (.ite (.cons (.call 0 (.cons (.loc 0) .nil)) .nil) (.cons (.ret (.call 8 (.cons (.loc 0) .nil))) .nil) .nil) (.cons (.ret .non) .nil)))
theorem cD8(L ψ outer lx):w8 (t9 bF3 aW2 159 L ψ outer lx 465).env aW2 bG9 bz4=true:=by kernel_rfl
theorem au4{N:Nat}(hN:N<=1000000):Cs X 4 (.ref 159) 0 [.int N] none (λv m=>v= .bytes (L6 N)/\m=none) v4:=by
 refine Cs.scF (n:=1) (cM4 _) bG9 cD8 rfl ?_
 refine⟨λh2=>⟨rfl, ?_⟩,λh2=>(Cs.det ah1 (by decide) nR ⟨λh1=>(Cs.det (Z8 hN) (by decide) nR ⟨rfl, ?_⟩),λh1=>⟨rfl, ?_⟩⟩)⟩
 ·exact cV2 h2
 ·exact⟨rfl,rfl⟩
 ·exact cV2 h1
theorem aq4{l:Int}(h0:0<=l)(h:l<=1000000):Cs X 4 (.ref 159) 0 [.int l] none (λv m=>v= .bytes (Q0 l)/\m=none) v4:=by
 obtain⟨N,rfl⟩:=Int.eq_ofNat_of_zero_le h0
 exact au4 (by lia)
theorem aY9:∀N:Nat,(L6 N).length<=N+1:=by
 intro N
 induction N using Nat.strongRecOn with|_ N ih=>
 rw[Q3]
 split
 ·simp
 ·have:=ih (N / 10) (by lia);simp;lia
noncomputable def aZ1:Ns:=(.cons (.ite (.cmp .Lt (.loc 0) (.gi 1)) (.cons (.ite (.cons (.call 17 (.cons (.loc 0) .nil)) .nil) (.cons (.ret (.bin .Add (.bin .Add (.byt [99,104,97,114,40]) (.call 9 (.cons (.loc 0) .nil))) (.byt [41]))) .nil) .nil) (.cons (.ret (.tyb (.cons (.lst (.cons (.loc 0) .nil)) .nil))) .nil)) .nil) (.cons (.asg 1 (.bin .Sub (.loc 0) (.gi 1))) (.cons (.ret (.ife (.cmp .Lt (.loc 1) (.bi 0 (.cons (.gv 1) .nil))) (.sub (.gv 1) (.loc 1)) (.sub (.gv 2) (.bin .Sub (.loc 1) (.bi 0 (.cons (.gv 1) .nil)))))) .nil)))
theorem bz1(L ψ outer lx):w8 (t9 bM9 bb2 245 L ψ outer lx 465).env bb2 aZ1 bM8=true:=by kernel_rfl
theorem G1:Cs X 4 (.ref 245) 0 [.int 287] none (λv m=>v= .bytes (bs "<eof>")/\m=none) v4:=by
 refine Cs.scF (n:=1) (cl3 _) aZ1 bz1 rfl ?_
 refine⟨λh2=>(cX9 ?_),λh2=>⟨?_,⟨λh1=>(cX9 ?_),λh1=>⟨?_,⟨?_,_,rfl,⟨rfl, ?_⟩⟩⟩⟩⟩⟩
 ·exact cV2 h2
 ·decide
 ·exact cV2 h1
 ·decide
 ·decide
 ·exact⟨rfl,rfl⟩
theorem ao6:Cs X 4 (.ref 245) 0 [.int 91] none (λv m=>v= .bytes (bs "[")/\m=none) v4:=by
 refine Cs.scF (n:=1) (cl3 _) aZ1 bz1 rfl ?_
 refine⟨λh2=>(Cs.det ad7 (by decide) nR ⟨λh1=>(cX9 ?_),λh1=>⟨d5,⟨?_,⟨rfl, ?_⟩⟩⟩⟩),λh2=>(cX9 ?_)⟩
 ·exact absurd h1 (by decide)
 ·decide
 ·exact⟨rfl,rfl⟩
 ·exact cV2 h2
end
section
variable {X:Cx}
noncomputable def aN2:Ns:=(.cons (.ite (.cmp .In (.loc 1) (.tup (.cons (.gi 10) (.cons (.gi 11) (.cons (.gi 9) .nil))))) (.cons (.ret .bytb) .nil) .nil) (.cons (.ret (.call 21 (.cons (.loc 1) .nil))) .nil))
theorem bB2(L ψ outer lx):w8 (t9 bF0 aR3 315 L ψ outer lx 465).env aR3 aN2 bM6=true:=by kernel_rfl
theorem B7{σ:LxS}{k:Int}(hb:σ.buf.length<=16777216)(hk:(i5 [.int 285, .int 286, .int 284]).contains k=true):Lx X 5 315 [.int k] σ V.bytes (.ok σ.buf σ.rest σ.line σ.buf):=by
 refine Cs.scM (n:=2) (cw5 _) aN2 bB2 rfl ?_
 refine⟨d5,⟨rfl,⟨λh1=>⟨?_,⟨rfl, ?_⟩⟩,λh1=>(cX9 ?_)⟩⟩⟩
 ·exact hb
 ·exact⟨_,_,_,_,rfl,rfl,rfl⟩
 ·exact cV2 (h1.symm.trans hk)
theorem E0{σ:LxS}{k:Int}{b:Bs}(ht:Cs X 4 (.ref 245) 0 [.int k] none (λv m=>v= .bytes b/\m=none) v4)(hk:(i5 [.int 285, .int 286, .int 284]).contains k=false):Lx X 5 315 [.int k] σ V.bytes (.ok b σ.rest σ.line σ.buf):=by
 refine Cs.scM (n:=2) (cw5 _) aN2 bB2 rfl ?_
 refine⟨d5,⟨rfl,⟨λh1=>(cX9 ?_),λh1=>(Cs.det ht (by decide) nR ⟨rfl, ?_⟩)⟩⟩⟩
 ·exact cV2 (h1.symm.trans hk)
 ·exact⟨_,_,_,_,rfl,rfl,rfl⟩
theorem bT2(a b c d:Bs):a++b++c++d=a++(b++c++d):=by rw[cW6,cW6,cW6]
theorem ap{a b:Bs}{m n:Nat}(h1:a.length<=m)(h2:b.length<=n):(a++b).length<=m+n:=by rw[cV7];exact cW8 h1 h2
theorem bZ9{l:Int}(h:0<=l/\l<=1000000):(Q0 l).length<=1000001:=by
 exact cV5 (aY9 l.toNat) (Nat.succ_le_succ (Int.toNat_le.mpr h.2))
noncomputable def bG0:Ns:=(.cons (.asg 3 (.bin .Add (.bin .Add (.bin .Add (.bin .Add (.fld 0 2) (.byt [58])) (.call 9 (.cons (.fld 0 7) .nil))) (.byt [58,32])) (.loc 1))) (.cons (.ite (.cmp .IsNot (.loc 2) .non) (.cons (.asg 3 (.bin .Add (.bin .Add (.bin .Add (.loc 3) (.byt [32,110,101,97,114,32,39])) (.meth 0 4 (.cons (.loc 2) .nil))) (.byt [39]))) .nil) .nil) (.cons (.rse (.loc 3)) .nil)))
theorem cn2(L ψ outer lx):w8 (t9 bF5 ba9 301 L ψ outer lx 465).env ba9 bG0 bL6=true:=by kernel_rfl
theorem z0{σ:LxS}{t near:Bs}{k:Int}(hn:Lx X 5 315 [.int k] σ V.bytes (.ok near σ.rest σ.line σ.buf))(hl:0<=σ.line/\σ.line<=1000000)(hz:σ.chunk.length+t.length+near.length<=1000000):Lx X 7 301 [.bytes t, .int k] σ U (.err σ.line t near):=by
 have nl:=bZ9 hl
 have hn':=cV5 (Nat.le_add_left near.length _) hz
 have hct:=cV5 (de6 _ near.length) hz
 have hc:=cV5 (de6 _ _) hct
 have ht:=cV5 (Nat.le_add_left _ _) hct
 have a1:=ap hc (cX4 ([58]:Bs).length)
 have a2:=ap a1 nl
 have a3:=ap a2 (cX4 ([58,32]:Bs).length)
 have a4:=ap a3 ht
 have a5:=ap a4 (cX4 ([32,110,101,97,114,32,39]:Bs).length)
 refine Cs.scM (n:=4) (cR6 _) bG0 cn2 rfl ?_
 refine⟨?_,(Cs.det (aq4 hl.1 hl.2) (by decide) nR ⟨?_,⟨?_,⟨?_,⟨λh1=>⟨?_,(Lx.sure (hn) (by decide) ⟨d7 _,⟨?_,⟨?_, ?_⟩⟩⟩)⟩,λh1=>(cX9 ?_)⟩⟩⟩⟩)⟩
 ·exact cV5 (cW8 hc (cX4 1)) (by decide)
 ·exact cV5 (cW8 a1 nl) (by decide)
 ·exact cV5 (cW8 a2 (cX4 2)) (by decide)
 ·exact cV5 (cW8 a3 ht) (by decide)
 ·exact cV5 (cW8 a4 (cX4 7)) (by decide)
 ·exact cV5 (cW8 a5 hn') (by decide)
 ·exact cV5 (cW8 (ap a5 hn') (cX4 1)) (by decide)
 ·exact⟨_,_,_,rfl,by first|exact bT2 _ [32,110,101,97,114,32,39] near [39]|exact(bT2 _ [32,110,101,97,114,32,39] near [39]).symm|exact congrArg V.bytes (bT2 _ [32,110,101,97,114,32,39] near [39])⟩
 ·exact cV2 h1
end
section
variable {X:Cx}
theorem Lx.fails{α:Type}{n k:Nat}{f:Addr}{vs:List V}{σ:LxS}{enc:α->V}{l:Int}{w nr:Bs}{Q:V->Option (List (String×Fv))->Prop}{R:Bs->Prop}(h:Lx X k f vs σ enc (.err l w nr))(hk:k<=n)(hr:R (u3 σ.chunk l w nr)):Cs X n (.ref f) 465 vs (some σ.fs) Q R:=
 h.use hk (λH H H e=>by cases e;exact hr) (λH H H H e=>by cases e)
theorem LxS.Ok.ln{σ:LxS}(o:σ.Ok):0<=σ.line/\σ.line<=1000000:=by have:=o.pos;have:=o.lines;have:=o.few;lia
noncomputable def D7(lv:Int)(r:Bs)(l:Int)(b:Bs):Res Unit:=if f7 r==lv then(if lv==0 then .err l (bs "nesting of [[...]] is deprecated") (bs "[")else .ok () (c9 r).tail l (f5 r b++[hd (c9 r)]))else .ok () (c9 r) l (f5 r b)
theorem ap3{r:Bs}{lv:Int}(hn:b9 r≠ -1)(hv:0<=lv)(h:(f7 r==lv)=true):b9 (c9 r)≠ -1:=by
 rw[D2 (by rw[beq_iff_eq.mp h];exact hv)];exact hn
theorem cR1{lv:Int}{r l b}(h:(f7 r==lv)=true)(h':(lv==0)=true):D7 lv r l b= .err l (bs "nesting of [[...]] is deprecated") (bs "["):=by unfold D7;rw[if_pos h,if_pos h']
theorem cI4{lv:Int}{r l b}(h:(f7 r==lv)=true)(h':(lv==0)=false):D7 lv r l b= .ok () (c9 r).tail l (f5 r b++[hd (c9 r)]):=by unfold D7;rw[if_pos h,h'];rfl
theorem cP4{lv:Int}{r l b}(h:(f7 r==lv)=false):D7 lv r l b= .ok () (c9 r) l (f5 r b):=by unfold D7;rw[h];rfl
noncomputable def bH8:Ns:=(.cons (.ite (.cmp .Eq (.meth 0 20 .nil) (.loc 1)) (.cons (.ex (.meth 0 7 .nil)) (.cons (.ite (.cmp .Eq (.loc 1) (.int 0)) (.cons (.ex (.meth 0 2 (.cons (.byt [110,101,115,116,105,110,103,32,111,102,32,91,91,46,46,46,93,93,32,105,115,32,100,101,112,114,101,99,97,116,101,100]) (.cons (.gi 25) .nil)))) .nil) .nil) .nil)) .nil) .nil)
theorem cF3(L ψ outer lx):w8 (t9 bB9 aX4 441 L ψ outer lx 465).env aX4 bH8 bA3=true:=by kernel_rfl
theorem ad6{σ:LxS}(o:σ.Ok)(hn:b9 σ.rest≠ -1){lv:Int}(hv:0<=lv)(hc:σ.chunk.length<=1000):Lx X 8 441 [.int lv] σ U (D7 lv σ.rest σ.line σ.buf):=by
 refine Cs.scM (n:=5) (cR5 _) bH8 cF3 rfl ?_
 refine(Lx.sure (B3 o hn) (by decide) ⟨d7 _,⟨λh2=>(Lx.sure (e8 (σ:=σ.w _ _ _) (o.le (l8 hn)).wk ?_) (by decide) ⟨d7 _,⟨λh1=>(Lx.fails (z0 (σ:=(σ.w _ _ _).w _ _ _) (E0 ao6 rfl) ?_ ?_) (by decide) ?_),λh1=>⟨rfl, ?_⟩⟩⟩),λh2=>⟨rfl, ?_⟩⟩⟩)
 ·exact ap3 hn hv h2
 ·exact o.ln
 ·show σ.chunk.length+_+_<=_
  rw[show(bs "[").length=1 from rfl,show df5 (α:=UInt8) [110,101,115,116,105,110,103,32,111,102,32,91,91,46,46,46,93,93,32,105,115,32,100,101,112,114,101,99,97,116,101,100]=32 from rfl];lia
 ·rw[cR1 h2 h1];exact⟨_,_,_,rfl,rfl⟩
 ·rw[cI4 h2 h1];exact⟨_,_,_,_,rfl,rfl,rfl⟩
 ·rw[cP4 h2];exact⟨_,_,_,_,rfl,rfl,rfl⟩
end
section
variable {X:Cx}
noncomputable abbrev LgI:=Bs×Int×Bs
noncomputable abbrev lgS(σ:LxS)(lv:Int)(it:Bool)(bg:Int)(i:LgI):St:=G7 (σ.w i.1 i.2.1 i.2.2) [.val (.int lv), .val (.bool it), .val (.int bg)]
structure LgP(σ:LxS)(lv:Int)(it:Bool)(bg:Nat)(i:LgI):Prop where
 ok:(σ.w i.1 i.2.1 i.2.2).Ok
 eq:∃f,i.1.length < f+1/\longLoop lv it bg (f+1) i.1 i.2.1 i.2.2=o0 lv it σ.rest σ.line σ.buf
theorem ab1{σ:LxS}{lv:Int}{it:Bool}{bg:Nat}{i:LgI}{r:Bs}{l:Int}{b:Bs}(p:LgP σ lv it bg i)(k:Le i.1 i.2.1 i.2.2 r l b)(hl:r.length < i.1.length)(h:∀f,longLoop lv it bg (f+1) i.1 i.2.1 i.2.2=longLoop lv it bg f r l b):LgP σ lv it bg (r,l,b):=by
 obtain⟨f,h1,h2⟩:=p.eq
 cases f with
 |zero=>lia
 |succ f=>exact⟨p.ok.le k,f,by show r.length < f+1;lia,by rw[←h2];exact(h _).symm⟩
theorem nb{b:Bool}(h:b=false):¬ b=true:=Bool.eq_false_iff.mp h
theorem H7{r:Bs}(h:(b9 r== -1)=false):b9 r≠ -1:=λe=>by rw[e]at h;exact cV2 h
theorem sz3{a b c:Nat}(h:a<=1000)(hb:b<=1000)(hc:c<=1000):a+b+c<=1000000:=by lia
theorem z4{σ:LxS}(o:σ.Ok):σ.buf.length<=16777216:=by have:=o.room;have:=o.few;lia
theorem aC6{σ:LxS}(o:σ.Ok):σ.line<=20000:=by have:=o.lines;have:=o.few;lia
section
variable {σ:LxS} {lv:Int} {it:Bool} {bg:Nat} {i:LgI} (p:LgP σ lv it bg i)
include p
theorem aO5(h8:(b9 i.1== -1)=true):o0 lv it σ.rest σ.line σ.buf= .err i.2.1 (if it then bs "unfinished long string" else bs "unfinished long comment") (bs "<eof>"):=by
 obtain⟨f,h1,h2⟩:=p.eq
 rw[←h2,longLoop,if_pos h8]
set_option tactic.hygienic true in
theorem cz0(h8:(b9 i.1== -1)=false)(h7:(b9 i.1==91)=true){l:Int}{w nr:Bs}(e:D7 lv i.1 i.2.1 i.2.2= .err l w nr):o0 lv it σ.rest σ.line σ.buf= .err l w nr:=by
 obtain⟨f,h1,h2⟩:=p.eq
 rw[←h2,longLoop,if_neg (nb h8),if_pos h7]
 unfold D7 at e
 split at e
 ·rename_i q;rw[if_pos q]
  split at e
  ·rename_i q;rw[if_pos q];cases e;rfl
  ·cases e
 ·cases e
theorem bU8(h8:(b9 i.1== -1)=false)(h7:(b9 i.1==91)=false)(h6:(b9 i.1==93)=true)(h2:(f7 i.1==lv)=true):o0 lv it σ.rest σ.line σ.buf= .ok (F2 (f5 i.1 i.2.2++[hd (c9 i.1)]) (some (bg:Int)) (some (((f5 i.1 i.2.2++[hd (c9 i.1)]).length:Int) - lv - 2))) (c9 i.1).tail i.2.1 (f5 i.1 i.2.2++[hd (c9 i.1)]):=by
 obtain⟨f,_,h3⟩:=p.eq
 rw[←h3,longLoop,if_neg (nb h8),if_neg (nb h7),if_pos h6,if_pos h2]
set_option tactic.hygienic true in
theorem bH1(hn:b9 i.1≠ -1)(h8:(b9 i.1== -1)=false)(h7:(b9 i.1==91)=true){a:Unit}{r:Bs}{l:Int}{b:Bs}(hv:0<=lv)(e:D7 lv i.1 i.2.1 i.2.2= .ok a r l b):r.length < i.1.length/\LgP σ lv it bg (r,l,b):=by
 unfold D7 at e
 have h0:=Q1 hn
 split at e
 ·rename_i q
  have hr:=ap3 hn hv q
  split at e
  ·cases e
  ·rename_i q'
   cases e
   have h1:=j7 hr
   have hl:(c9 i.1).tail.length < i.1.length:=by lia
   exact⟨hl,ab1 p ((l8 hn).trans (f8 hr)) hl λf=>by rw[longLoop,if_neg (nb h8),if_pos h7,if_pos q,if_neg q']⟩
 ·rename_i q
  cases e
  exact⟨h0,ab1 p (l8 hn) h0 λf=>by rw[longLoop,if_neg (nb h8),if_pos h7,if_neg q]⟩
theorem ct9(h8:(b9 i.1== -1)=false)(h7:(b9 i.1==91)=false)(h6:(b9 i.1==93)=true)(h2:(f7 i.1==lv)=false):LgP σ lv it bg (c9 i.1,i.2.1,f5 i.1 i.2.2):=
 ab1 p (l8 (H7 h8)) (Q1 (H7 h8)) λf=>by rw[longLoop,if_neg (nb h8),if_neg (nb h7),if_pos h6,if_neg (nb h2)]
theorem cu9(h8:(b9 i.1== -1)=false)(h7:(b9 i.1==91)=false)(h6:(b9 i.1==93)=false)(h5:b8 (b9 i.1)=true)(h3:(!it)=true):LgP σ lv it bg (endLine i.1,i.2.1+1,F2 (i.2.2++[10]) none (some (bg:Int))):=by
 obtain rfl:it=false:=by simpa using h3
 have k:=T2 (r:=i.1) (l:=i.2.1) (b:=i.2.2) (c:=10) h5
 exact ab1 p ⟨k.suf,by have:=k.room;have:=aA7 (i.2.2++[10]) bg;lia,k.up,k.lines⟩ (D3 h5) λf=>by rw[longLoop,if_neg (nb h8),if_neg (nb h7),if_neg (nb h6),if_pos h5];rfl
theorem bU2(h8:(b9 i.1== -1)=false)(h7:(b9 i.1==91)=false)(h6:(b9 i.1==93)=false)(h5:b8 (b9 i.1)=true)(h3:(!it)=false):LgP σ lv it bg (endLine i.1,i.2.1+1,i.2.2++[10]):=by
 obtain rfl:it=true:=by simpa using h3
 exact ab1 p (T2 h5) (D3 h5) λf=>by rw[longLoop,if_neg (nb h8),if_neg (nb h7),if_neg (nb h6),if_pos h5];rfl
theorem cm5(h8:(b9 i.1== -1)=false)(h7:(b9 i.1==91)=false)(h6:(b9 i.1==93)=false)(h5:b8 (b9 i.1)=false)(h4:it=true):LgP σ lv it bg (i.1.tail,i.2.1,i.2.2++[hd i.1]):=
 ab1 p (f8 (H7 h8)) (by have:=j7 (H7 h8);lia) λf=>by rw[longLoop,if_neg (nb h8),if_neg (nb h7),if_neg (nb h6),if_neg (nb h5),if_pos h4]
theorem cv9(h8:(b9 i.1== -1)=false)(h7:(b9 i.1==91)=false)(h6:(b9 i.1==93)=false)(h5:b8 (b9 i.1)=false)(h4:it=false):LgP σ lv it bg (i.1.tail,i.2.1,i.2.2):=
 ab1 p (q8 _ _ _) (by have:=j7 (H7 h8);lia) λf=>by rw[longLoop,if_neg (nb h8),if_neg (nb h7),if_neg (nb h6),if_neg (nb h5),if_neg (nb h4)]
end
noncomputable def bL9:Ns:=(.cons (.ex (.meth 0 7 .nil)) (.cons (.ite (.cons (.call 18 (.cons (.fld 0 6) .nil)) .nil) (.cons (.ex (.meth 0 10 .nil)) .nil) .nil) (.cons (.asg 3 .lenb) (.cons (.whl (.cons (.boo true) .nil) (.cons (.ite (.cmp .Eq (.fld 0 6) (.gi 0)) (.cons (.ex (.meth 0 2 (.cons (.ife (.cons (.loc 2) .nil) (.byt [117,110,102,105,110,105,115,104,101,100,32,108,111,110,103,32,115,116,114,105,110,103]) (.byt [117,110,102,105,110,105,115,104,101,100,32,108,111,110,103,32,99,111,109,109,101,110,116])) (.cons (.gi 12) .nil)))) .nil) (.cons (.ite (.cmp .Eq (.fld 0 6) (.gi 25)) (.cons (.ex (.meth 0 22 (.cons (.loc 1) .nil))) .nil) (.cons (.ite (.cmp .Eq (.fld 0 6) (.gi 27)) (.cons (.ite (.cmp .Eq (.meth 0 20 .nil) (.loc 1)) (.cons (.ex (.meth 0 7 .nil)) (.cons (.ret (.bytc (some (.loc 3)) (some (.sub (.sub .len (.loc 1)) (.int 2))))) .nil)) .nil) .nil) (.cons (.ite (.cons (.call 18 (.cons (.fld 0 6) .nil)) .nil) (.cons (.ex (.meth 0 6 (.cons (.gi 15) .nil))) (.cons (.ex (.meth 0 10 .nil)) (.cons (.ite (.tnot (.cons (.loc 2) .nil)) (.cons (.asbc none (some (.loc 3))) .nil) .nil) .nil))) (.cons (.ite (.cons (.loc 2) .nil) (.cons (.ex (.meth 0 7 .nil)) .nil) (.cons (.ex (.meth 0 5 .nil)) .nil)) .nil)) .nil)) .nil)) .nil)) .nil)) .nil))))
theorem cs0(L ψ outer lx):w8 (t9 bB0 aR1 434 L ψ outer lx 465).env aR1 bL9 bB3=true:=by kernel_rfl
noncomputable def ct8:Ns:=(.cons (.whl (.cons (.boo true) .nil) (.cons (.ite (.cmp .Eq (.fld 0 6) (.gi 0)) (.cons (.ex (.meth 0 2 (.cons (.ife (.cons (.loc 2) .nil) (.byt [117,110,102,105,110,105,115,104,101,100,32,108,111,110,103,32,115,116,114,105,110,103]) (.byt [117,110,102,105,110,105,115,104,101,100,32,108,111,110,103,32,99,111,109,109,101,110,116])) (.cons (.gi 12) .nil)))) .nil) (.cons (.ite (.cmp .Eq (.fld 0 6) (.gi 25)) (.cons (.ex (.meth 0 22 (.cons (.loc 1) .nil))) .nil) (.cons (.ite (.cmp .Eq (.fld 0 6) (.gi 27)) (.cons (.ite (.cmp .Eq (.meth 0 20 .nil) (.loc 1)) (.cons (.ex (.meth 0 7 .nil)) (.cons (.ret (.bytc (some (.loc 3)) (some (.sub (.sub .len (.loc 1)) (.int 2))))) .nil)) .nil) .nil) (.cons (.ite (.cons (.call 18 (.cons (.fld 0 6) .nil)) .nil) (.cons (.ex (.meth 0 6 (.cons (.gi 15) .nil))) (.cons (.ex (.meth 0 10 .nil)) (.cons (.ite (.tnot (.cons (.loc 2) .nil)) (.cons (.asbc none (some (.loc 3))) .nil) .nil) .nil))) (.cons (.ite (.cons (.loc 2) .nil) (.cons (.ex (.meth 0 7 .nil)) .nil) (.cons (.ex (.meth 0 5 .nil)) .nil)) .nil)) .nil)) .nil)) .nil)) .nil)) .nil)
theorem P5{σ:LxS}{lv:Int}(hv:0<=lv){it:Bool}(hc:σ.chunk.length<=1000){bg:Nat}(i0:LgI)(p0:LgP σ lv it bg i0):A6 X 8 (λmsg=>∃l w nr,o0 lv it σ.rest σ.line σ.buf= .err l w nr/\msg=u3 σ.chunk l w nr) ct8 (lgS σ lv it bg i0) (Pst (some σ.fs) λv m=>∃a r l b,o0 lv it σ.rest σ.line σ.buf= .ok a r l b/\v= .bytes a/\m=some (σ.w r l b).fs):=by
 refine(w7 (lgS σ lv it bg) (LgP σ lv it bg) (λi=>i.1.length) i0 rfl p0 (λi p=>⟨λH=>⟨λh8=>⟨λh1=>(Lx.fails (z0 (E0 G1 rfl) ?_ ?_) (by decide) ?_),λh1=>(Lx.fails (z0 (E0 G1 rfl) ?_ ?_) (by decide) ?_)⟩,λh8=>⟨λh7=>(Lx.use (ad6 p.ok ?_ hv hc) (by decide) ?_ (λa r l b e=>⟨d7 _,⟨_, ?_,(_,_,_),rfl, ?_,rfl⟩⟩)),λh7=>⟨λh6=>(Lx.sure (B3 p.ok ?_) (by decide) ⟨d7 _,⟨λh2=>(Lx.sure (e8 ?_ ?_) (by decide) ⟨d7 _,⟨?_,⟨?_,⟨rfl, ?_⟩⟩⟩⟩),λh2=>⟨_, ?_,(_,_,_),rfl, ?_,rfl⟩⟩⟩),λh6=>(Cs.det r6 (by decide) nR ⟨λh5=>(Lx.sure (G5 ?_ ?_ ?_) (by decide) ⟨d7 _,(Lx.sure (D9 ?_ ?_ ?_ ?_) (by decide) ⟨d7 _,⟨λh3=>⟨?_,⟨_, ?_,(endLine i.1,i.2.1+1,F2 (i.2.2++[10]) none (some (bg:Int))),rfl, ?_,rfl⟩⟩,λh3=>⟨_, ?_,(_,_,_),rfl, ?_,rfl⟩⟩⟩)⟩),λh5=>⟨λh4=>(Lx.sure (e8 ?_ ?_) (by decide) ⟨d7 _,⟨_, ?_,(_,_,_),rfl, ?_,rfl⟩⟩),λh4=>(Lx.sure (r9 p.ok.suf p.ok.few ?_) (by decide) ⟨d7 _,⟨_, ?_,(_,_,_),rfl, ?_,rfl⟩⟩)⟩⟩)⟩⟩⟩,nofun⟩))
 ·exact p.ok.ln
 ·exact sz3 hc (by decide) (by decide)
 ·exact⟨_,_,_,aO5 p h8,by rw[h1];rfl⟩
 ·exact p.ok.ln
 ·exact sz3 hc (by decide) (by decide)
 ·exact⟨_,_,_,aO5 p h8,by rw[h1];rfl⟩
 ·exact H7 h8
 ·exact λl w nr e=>⟨_,_,_,cz0 p h8 h7 e,rfl⟩
 ·exact(bH1 p (H7 h8) h8 h7 hv e).1
 ·exact(bH1 p (H7 h8) h8 h7 hv e).2
 ·exact H7 h8
 ·exact(p.ok.le (l8 (H7 h8))).wk
 ·exact ap3 (H7 h8) hv h2
 ·exact z4 ((p.ok.le (l8 (H7 h8))).le (f8 (ap3 (H7 h8) hv h2)))
 ·exact z4 ((p.ok.le (l8 (H7 h8))).le (f8 (ap3 (H7 h8) hv h2)))
 ·exact⟨_,_,_,_,bU8 p h8 h7 h6 h2,rfl,rfl⟩
 ·exact Q1 (H7 h8)
 ·exact ct9 p h8 h7 h6 h2
 ·exact p.ok.wk.small
 ·decide
 ·decide
 ·exact p.ok.suf
 ·exact p.ok.few
 ·exact A5 h5
 ·exact(aC6 p.ok:i.2.1<=20000)
 ·exact z4 (p.ok.le (T2 h5))
 ·exact D3 h5
 ·exact cu9 p h8 h7 h6 h5 h3
 ·exact D3 h5
 ·exact bU2 p h8 h7 h6 h5 h3
 ·exact p.ok.wk
 ·exact H7 h8
 ·have:=j7 (r:=i.1) (H7 h8);show i.1.tail.length < i.1.length;lia
 ·exact cm5 p h8 h7 h6 h5 h4
 ·exact H7 h8
 ·have:=j7 (r:=i.1) (H7 h8);show i.1.tail.length < i.1.length;lia
 ·exact cv9 p h8 h7 h6 h5 h4
theorem P6{σ:LxS}(o:σ.Ok)(hn:b9 σ.rest≠ -1){lv:Int}(hv:0<=lv){it:Bool}(hc:σ.chunk.length<=1000):Lx X 9 434 [.int lv, .bool it] σ V.bytes (o0 lv it σ.rest σ.line σ.buf):=by
 refine Cs.scM (n:=6) (cI5 _) bL9 cs0 rfl ?_
 refine(Lx.sure (e8 o.wk hn) (by decide) ⟨d7 _,(Cs.det r6 (by decide) nR ⟨λh1=>(Lx.sure (D9 ?_ ?_ ?_ ?_) (by decide) ⟨d7 _,⟨?_,(P5 hv hc (_,_,_) ?_)⟩⟩),λh1=>⟨?_,(P5 hv hc (_,_,_) ?_)⟩⟩)⟩)
 ·exact(m7 _).trans o.suf
 ·exact o.few
 ·exact A5 h1
 ·exact(aC6 o:σ.line<=20000)
 ·exact z4 ((o.le (f8 hn)).le (aC9 h1))
 ·exact⟨(o.le (f8 hn)).le (aC9 h1),_,cZ9 _,(if_pos h1).symm⟩
 ·exact z4 (o.le (f8 hn))
 ·exact⟨o.le (f8 hn),_,cZ9 _,(if_neg (nb h1)).symm⟩
end
section
variable {X:Cx}
theorem ck9{r:Bs}(h:b8 (b9 r)=false)(hn:b9 r≠ -1):dw A3 r=dw A3 r.tail:=by
 cases r with
 |nil=>exact absurd rfl hn
 |cons c t=>
  have:A3 c.toNat=true:=by unfold A3;rw[show b8 (c.toNat:Int)=false from h];rfl
  show(if _ then _ else _)=_;rw[this];rfl
theorem cD4{r:Bs}(h:b8 (b9 r)=true):dw A3 r=r:=by
 cases r with
 |nil=>rfl
 |cons c t=>
  have:A3 c.toNat=false:=by unfold A3;rw[show b8 (c.toNat:Int)=true from h];rfl
  show(if _ then _ else _)=_;rw[this];rfl
theorem nt1{b:Bool}(h:(!b)=true):b=false:=by simpa using h
theorem nf1{b:Bool}(h:(!b)=false):b=true:=by simpa using h
theorem be8{r:Bs}(h:b9 r= -1):r=[]:=by
 cases r with
 |nil=>rfl
 |cons c t=>have:(c.toNat:Int)= -1:=h;lia
theorem bZ6{r:Bs}(h:b9 r= -1):dw A3 r=r:=by rw[be8 h];rfl
structure LnP(σ:LxS)(res:Res Unit)(b:Bs)(r:Bs):Prop where
 suf:r <:+σ.text
 eq:res= .ok () (dw A3 r) σ.line b
noncomputable def by9:Ns:=(.cons (.ex (.meth 0 5 .nil)) (.cons (.ex (.meth 0 5 .nil)) (.cons (.ite (.cmp .Eq (.fld 0 6) (.gi 25)) (.cons (.asg 1 (.meth 0 20 .nil)) (.cons (.ex (.meth 0 9 .nil)) (.cons (.ite (.cmp .GtE (.loc 1) (.int 0)) (.cons (.ex (.meth 0 21 (.cons (.loc 1) (.cons (.boo false) .nil)))) (.cons (.ex (.meth 0 9 .nil)) (.cons .ret0 .nil))) .nil) .nil))) .nil) (.cons (.whl (.tall (.cons (.tnot (.cons (.call 18 (.cons (.fld 0 6) .nil)) .nil)) (.cons (.cmp .NotEq (.fld 0 6) (.gi 0)) .nil))) (.cons (.ex (.meth 0 5 .nil)) .nil)) .nil))))
theorem cC8(L ψ outer lx):w8 (t9 bI4 aQ8 385 L ψ outer lx 465).env aQ8 by9 bs3=true:=by kernel_rfl
noncomputable def cj0:Ns:=(.cons (.whl (.tall (.cons (.tnot (.cons (.call 18 (.cons (.fld 0 6) .nil)) .nil)) (.cons (.cmp .NotEq (.fld 0 6) (.gi 0)) .nil))) (.cons (.ex (.meth 0 5 .nil)) .nil)) .nil)
theorem P2{σ:LxS}{res:Res Unit}{b:Bs}{sl:Sl}(hf:σ.text.length<=5000)(r0:Bs)(p0:LnP σ res b r0):A6 X 10 (λmsg=>∃l w nr,res= .err l w nr/\msg=u3 σ.chunk l w nr) cj0 (G7 (σ.w r0 σ.line b) [sl]) (Pst (some σ.fs) λv m=>∃a r l b,res= .ok a r l b/\v=U a/\m=some (σ.w r l b).fs):=by
 refine(w7 (λr=>G7 (σ.w r σ.line b) [sl]) (LnP σ res b) (λr=>r.length) r0 rfl p0 (λi p=>(Cs.det r6 (by decide) nR ⟨λh2=>⟨λh1=>⟨λH=>(Lx.sure (r9 p.suf hf ?_) (by decide) ⟨d7 _,⟨_, ?_,i.tail,rfl, ?_,rfl⟩⟩),nofun⟩,λh1=>⟨nofun,λH=>⟨rfl, ?_⟩⟩⟩,λh2=>⟨nofun,λH=>⟨rfl, ?_⟩⟩⟩)))
 ·exact H7 (nt1 h1)
 ·have:=j7 (r:=i) (H7 (nt1 h1));show i.tail.length < i.length;lia
 ·exact⟨(m7 i).trans p.suf,by rw[p.eq,ck9 (r:=i) (nt1 h2) (H7 (nt1 h1))]⟩
 ·have e:=p.eq;rw[bZ6 (r:=i) (beq_iff_eq.mp (nf1 h1))]at e;exact⟨(),_,_,_,e,rfl,rfl⟩
 ·have e:=p.eq;rw[cD4 (r:=i) (nf1 h2)]at e;exact⟨(),_,_,_,e,rfl,rfl⟩
section
variable {r:Bs} {l:Int} {b:Bs}
theorem cH3(h2:(b9 r.tail.tail==91)=true)(h1:decide (f7 r.tail.tail≥ 0)=true){l' w nr}(e:o0 (f7 r.tail.tail) false (c9 r.tail.tail) l []= .err l' w nr):i8 r l b= .err l' w nr:=by unfold i8;rw[if_pos h2,if_pos (of_decide_eq_true h1),e]
theorem cQ2(h2:(b9 r.tail.tail==91)=true)(h1:decide (f7 r.tail.tail≥ 0)=true){a r' l' b'}(e:o0 (f7 r.tail.tail) false (c9 r.tail.tail) l []= .ok a r' l' b'):i8 r l b= .ok () r' l' []:=by unfold i8;rw[if_pos h2,if_pos (of_decide_eq_true h1),e]
theorem cN9(h2:(b9 r.tail.tail==91)=true)(h1:decide (f7 r.tail.tail≥ 0)=false):i8 r l b= .ok () (dw A3 (c9 r.tail.tail)) l []:=by unfold i8;rw[if_pos h2,if_neg (of_decide_eq_false h1)]
theorem cT6(h2:(b9 r.tail.tail==91)=false):i8 r l b= .ok () (dw A3 r.tail.tail) l b:=by unfold i8;rw[if_neg (nb h2)]
end
theorem W0{σ:LxS}(o:σ.Ok)(hn:b9 σ.rest≠ -1)(hn':b9 σ.rest.tail≠ -1)(hc:σ.chunk.length<=1000):Lx X 11 385 [] σ U (i8 σ.rest σ.line σ.buf):=by
 refine Cs.scM (n:=8) (cT7 _) by9 cC8 rfl ?_
 refine(Lx.sure (r9 ?_ ?_ ?_) (by decide) ⟨d7 _,(Lx.sure (r9 ?_ ?_ ?_) (by decide) ⟨d7 _,⟨λh2=>(Lx.sure (B3 ?_ ?_) (by decide) ⟨d7 _,(Lx.sure (W8) (by decide) ⟨d7 _,⟨λh1=>(Lx.use (P6 ?_ ?_ ?_ hc) (by decide) ?_ (λa r l b e=>⟨d7 _,(Lx.sure (W8) (by decide) ⟨d7 _,⟨rfl, ?_⟩⟩)⟩)),λh1=>(P2 (σ:=σ) o.few _ ?_)⟩⟩)⟩),λh2=>(P2 (σ:=σ) o.few _ ?_)⟩⟩)⟩)
 ·exact o.suf
 ·exact o.few
 ·exact hn
 ·exact(m7 _).trans o.suf
 ·exact o.few
 ·exact hn'
 ·exact(o.le (q8 _ _ _)).le (q8 _ _ _)
 ·exact C0 h2 (by decide)
 ·exact(((o.le (q8 _ _ _)).le (q8 _ _ _)).le (l8 (C0 (r:=σ.rest.tail.tail) h2 (by decide)))).le le_clear
 ·exact(D2 (r:=σ.rest.tail.tail) (of_decide_eq_true h1)).symm▸C0 (r:=σ.rest.tail.tail) h2 (by decide)
 ·exact of_decide_eq_true h1
 ·exact λl w nr e=>⟨_,_,_,cH3 h2 h1 e,rfl⟩
 ·exact⟨(),_,_,_,cQ2 h2 h1 e,rfl,rfl⟩
 ·exact⟨(R9 _ _).trans ((m7 _).trans ((m7 _).trans ((m7 _).trans o.suf))),cN9 h2 h1⟩
 ·exact⟨(m7 _).trans ((m7 _).trans o.suf),cT6 h2⟩
end
section
variable {X:Cx}
section
variable {r:Bs} {l:Int} {b:Bs}
theorem aL9(h:u6 (b9 r)=true):b9 r≠ -1:=λe=>by rw[e]at h;exact cV2 h
theorem cO0(h:b8 (b9 r)=true):i7 r l b= .ok true (endLine r) (l+1) b:=if_pos h
theorem cJ0(h:b8 (b9 r)=false)(h':u6 (b9 r)=true):i7 r l b= .ok true r.tail l b:=by unfold i7;rw[if_neg (nb h),if_pos h']
theorem cK2(h:b8 (b9 r)=false)(h':u6 (b9 r)=false)(h1:(b9 r==45)=true)(h2:(b9 r.tail==45)=true){a r' l' b'}(e:i8 r l b= .ok a r' l' b'):i7 r l b= .ok true r' l' b':=by unfold i7;rw[if_neg (nb h),if_neg (nb h'),if_pos (by rw[h1,h2];rfl),e]
theorem cH6(h:b8 (b9 r)=false)(h':u6 (b9 r)=false)(h1:(b9 r==45)=true)(h2:(b9 r.tail==45)=true){l' w n}(e:i8 r l b= .err l' w n):i7 r l b= .err l' w n:=by unfold i7;rw[if_neg (nb h),if_neg (nb h'),if_pos (by rw[h1,h2];rfl),e]
theorem cl9(h:b8 (b9 r)=false)(h':u6 (b9 r)=false)(h1:(b9 r==45&&b9 r.tail==45)=false):i7 r l b= .ok false r l b:=by unfold i7;rw[if_neg (nb h),if_neg (nb h'),if_neg (nb h1)]
end
noncomputable def bL0:Ns:=(.cons (.ite (.cons (.call 18 (.cons (.fld 0 6) .nil)) .nil) (.cons (.ex (.meth 0 10 .nil)) (.cons (.ret (.boo true)) .nil)) .nil) (.cons (.ite (.cons (.call 16 (.cons (.fld 0 6) .nil)) .nil) (.cons (.ex (.meth 0 5 .nil)) (.cons (.ret (.boo true)) .nil)) .nil) (.cons (.ite (.tall (.cons (.cmp .Eq (.fld 0 6) (.gi 20)) (.cons (.cmp .Eq (.meth 0 13 .nil) (.gi 20)) .nil))) (.cons (.ex (.meth 0 14 .nil)) (.cons (.ret (.boo true)) .nil)) .nil) (.cons (.ret (.boo false)) .nil))))
theorem ci9(L ψ outer lx):w8 (t9 bA6 bb4 371 L ψ outer lx 465).env bb4 bL0 bF8=true:=by kernel_rfl
theorem ac6{σ:LxS}(o:σ.Ok)(hc:σ.chunk.length<=1000):Lx X 12 371 [] σ V.bool (i7 σ.rest σ.line σ.buf):=by
 refine Cs.scM (n:=9) (cK3 _) bL0 ci9 rfl ?_
 refine(Cs.det r6 (by decide) nR ⟨λh4=>(Lx.sure (D9 o.suf o.few ?_ (aC6 o)) (by decide) ⟨d7 _,⟨rfl, ?_⟩⟩),λh4=>(Cs.det Q2 (by decide) nR ⟨λh3=>(Lx.sure (r9 o.suf o.few ?_) (by decide) ⟨d7 _,⟨rfl, ?_⟩⟩),λh3=>⟨λh2=>(Lx.sure (ab0 o.suf o.few ?_) (by decide) ⟨d7 _,⟨λh1=>⟨λH=>(Lx.use (W0 o ?_ ?_ hc) (by decide) ?_ (λa r l b e=>⟨d7 _,⟨rfl, ?_⟩⟩)),nofun⟩,λh1=>⟨nofun,λH=>⟨rfl, ?_⟩⟩⟩⟩),λh2=>⟨nofun,λH=>⟨rfl, ?_⟩⟩⟩⟩)⟩)
 ·exact A5 h4
 ·exact⟨_,_,_,_,cO0 h4,rfl,rfl⟩
 ·exact aL9 h3
 ·exact⟨_,_,_,_,cJ0 h4 h3,rfl,rfl⟩
 ·exact C0 h2 (by decide)
 ·exact C0 h2 (by decide)
 ·exact C0 h1 (by decide)
 ·exact λl w nr e=>⟨_,_,_,cH6 h4 h3 h2 h1 e,rfl⟩
 ·exact⟨_,_,_,_,cK2 h4 h3 h2 h1 e,rfl,rfl⟩
 ·exact⟨_,_,_,_,cl9 h4 h3 (by rw[show(b9 σ.rest.tail==45)=false from h1];exact dd6 _),rfl,rfl⟩
 ·exact⟨_,_,_,_,cl9 h4 h3 (by rw[h2];rfl),rfl,rfl⟩
end
section
variable {X:Cx}
theorem aS7(P:Params):Z1 P 262 259:=⟨by kernel_rfl,by kernel_rfl,by kernel_rfl⟩
theorem cB0(P:Params):Z1 P 53 36:=⟨by kernel_rfl,by kernel_rfl,by kernel_rfl⟩
theorem nnS{fs:List (String×Fv)}{x:Str}(h:(nmS fs).contains x=false:=by kernel_rfl):x∉nmS fs:=λhm=>by rw[de2.mpr hm]at h;exact cV2 h
theorem w4{l:List (String×Fv)}(h:Nat.ble l.length 1000=true:=by rfl):l.length<=1000:=cV3 h
theorem U6{k v:V}:Cs X 1 (.ref 259) 262 [k,v] (some []) (λu m=>u= .none/\m=some (aD5 [("kind",k),("value",v)])) v4:=by
 refine Cs.of_body (n:=0) (cx7 _) rfl λL ψ outer lx=> ?_
 have O:=(cx7 X.w.params).frm L ψ outer lx 262
 exact t4 (n8 0 O (ak1 _) (af7 _) rfl (u5 1 O rfl rfl ⟨_,_,rfl,rfl,w4, .new nnS,t4 (n8 0 O (ak1 _) (X4 _) rfl (u5 2 O rfl rfl ⟨_,_,rfl,rfl,w4, .new nnS,ah9 ⟨rfl,rfl,rfl⟩⟩))⟩))
theorem n6{k:Int}{v:V}:Cs X 2 (.ref 262) 0 [.int k,v] none (λu m=>u=aV5 k v/\m=none) v4:=Cs.new (aS7 _) U6
theorem cG1(P:Params):(fn53.all λx=>ao5 (findIn (KP P) (.ref 53) (cV1 x)) &&ao5 (takerIn (KP P) 53 (cV1 x)))=true:=by kernel_rfl
theorem ad8{P:Params}(j:Nat){x:String}(h:fn53[j]? =some x):A1 P 53 (cV1 x):=by
 have:=cZ3.mp (cG1 P) x (cW1 h)
 rw[cX7]at this
 exact⟨K6 this.1,K6 this.2⟩
theorem an2:Cs X 1 (.ref 36) 53 [] (some []) (λu m=>u= .none/\m=some (aD5 limF)) v4:=by
 refine Cs.of_bodyD (n:=0) (D36 _) (dvv:=limF.map (·.2)) (λφ=> .cons .int (.cons .int (.cons .int (.cons .int (.cons .int (.cons .int (.cons .int (.cons .int (.cons .int (.cons .int .nil)))))))))) rfl λL ψ outer lx=> ?_
 have O:=(D36 X.w.params).frm L ψ outer lx 53
 exact t4 (n8 0 O (H0 _) (ad8 0 rfl) rfl (u5 1 O rfl rfl ⟨_,_,rfl,rfl,w4, .new nnS,t4 (n8 0 O (H0 _) (ad8 1 rfl) rfl (u5 2 O rfl rfl ⟨_,_,rfl,rfl,w4, .new nnS,t4 (n8 0 O (H0 _) (ad8 2 rfl) rfl (u5 3 O rfl rfl ⟨_,_,rfl,rfl,w4, .new nnS,t4 (n8 0 O (H0 _) (ad8 3 rfl) rfl (u5 4 O rfl rfl ⟨_,_,rfl,rfl,w4, .new nnS,t4 (n8 0 O (H0 _) (ad8 4 rfl) rfl (u5 5 O rfl rfl ⟨_,_,rfl,rfl,w4, .new nnS,t4 (n8 0 O (H0 _) (ad8 5 rfl) rfl (u5 6 O rfl rfl ⟨_,_,rfl,rfl,w4, .new nnS,t4 (n8 0 O (H0 _) (ad8 6 rfl) rfl (u5 7 O rfl rfl ⟨_,_,rfl,rfl,w4, .new nnS,t4 (n8 0 O (H0 _) (ad8 7 rfl) rfl (u5 8 O rfl rfl ⟨_,_,rfl,rfl,w4, .new nnS,t4 (n8 0 O (H0 _) (ad8 8 rfl) rfl (u5 9 O rfl rfl ⟨_,_,rfl,rfl,w4, .new nnS,t4 (n8 0 O (H0 _) (ad8 9 rfl) rfl (u5 10 O rfl rfl ⟨_,_,rfl,rfl,w4, .new nnS,ah9 ⟨rfl,rfl,rfl⟩⟩))⟩))⟩))⟩))⟩))⟩))⟩))⟩))⟩))⟩))
theorem T7:Cs X 2 (.ref 53) 0 [] none (λu m=>u=J5/\m=none) v4:=Cs.new (cB0 _) an2
end
section
variable {X:Cx}
theorem sz5{a b c:Nat}(h:a<=1000)(hb:b<=1000)(hc:c<=5000):a+b+c<=1000000:=by lia
noncomputable abbrev x6(p:Tk):V:=aV5 p.1 p.2
section
variable {r:Bs} {l:Int} {b:Bs} {s:Int}
theorem cV0(h:(!b9 r.tail==61)=true):q7 s r l b= .ok (s, .none) r.tail l b:=if_pos h
theorem bk9(h:(!b9 r.tail==61)=false){k:Int}(e:(if s==61 then 280 else if s==60 then 282 else if s==62 then 281 else 283)=k):q7 s r l b= .ok (k, .none) r.tail.tail l b:=(if_neg (nb h)).trans (congrArg (λk=>Res.ok (k,V.none) r.tail.tail l b) e)
theorem cM1(h:decide (f7 r≥ 0)=true){t r' l' b'}(e:o0 (f7 r) true (c9 r) l (f5 r b)= .ok t r' l' b'):j6 r l b= .ok (286, .bytes t) r' l' b':=by unfold j6;rw[if_pos (of_decide_eq_true h),e]
theorem cR0(h:decide (f7 r≥ 0)=true){l' w n}(e:o0 (f7 r) true (c9 r) l (f5 r b)= .err l' w n):j6 r l b= .err l' w n:=by unfold j6;rw[if_pos (of_decide_eq_true h),e]
theorem cQ0(h:decide (f7 r≥ 0)=false)(h':decide (f7 r < -1)=true):j6 r l b= .err l (bs "invalid long string delimiter") (f5 r b):=by unfold j6;rw[if_neg (of_decide_eq_false h),if_pos (of_decide_eq_true h')]
theorem cQ5(h:decide (f7 r≥ 0)=false)(h':decide (f7 r < -1)=false):j6 r l b= .ok (91, .none) (c9 r) l (f5 r b):=by unfold j6;rw[if_neg (of_decide_eq_false h),if_neg (of_decide_eq_false h')]
end
noncomputable def bw6:Ns:=(.cons (.ex (.meth 0 5 .nil)) (.cons (.ite (.cmp .NotEq (.fld 0 6) (.gi 23)) (.cons (.ret (.call 22 (.cons (.loc 1) (.cons .non .nil)))) .nil) .nil) (.cons (.ex (.meth 0 5 .nil)) (.cons (.ite (.cmp .Eq (.loc 1) (.gi 23)) (.cons (.ret (.call 22 (.cons (.gi 5) (.cons .non .nil)))) .nil) .nil) (.cons (.ite (.cmp .Eq (.loc 1) (.gi 22)) (.cons (.ret (.call 22 (.cons (.gi 7) (.cons .non .nil)))) .nil) .nil) (.cons (.ret (.call 22 (.cons (.ife (.cmp .Eq (.loc 1) (.gi 24)) (.gi 6) (.gi 8)) (.cons .non .nil)))) .nil))))))
theorem cF9(L ψ outer lx):w8 (t9 bz9 aO9 392 L ψ outer lx 465).env aO9 bw6 bA1=true:=by kernel_rfl
theorem T3{σ:LxS}(o:σ.Ok)(hn:b9 σ.rest≠ -1){s:Int}:Lx X 5 392 [.int s] σ x6 (q7 s σ.rest σ.line σ.buf):=by
 refine Cs.scM (n:=2) (cK0 _) bw6 cF9 rfl ?_
 refine(Lx.sure (r9 ?_ ?_ ?_) (by decide) ⟨d7 _,⟨λh4=>(Cs.det n6 (by decide) nR ⟨rfl, ?_⟩),λh4=>(Lx.sure (r9 ?_ ?_ ?_) (by decide) ⟨d7 _,⟨λh3=>(Cs.det n6 (by decide) nR ⟨rfl, ?_⟩),λh3=>⟨λh2=>(Cs.det n6 (by decide) nR ⟨rfl, ?_⟩),λh2=>⟨λh1=>(Cs.det n6 (by decide) nR ⟨rfl, ?_⟩),λh1=>(Cs.det n6 (by decide) nR ⟨rfl, ?_⟩)⟩⟩⟩⟩)⟩⟩)
 ·exact o.suf
 ·exact o.few
 ·exact hn
 ·exact⟨(_,_),_,_,_,cV0 h4,rfl,rfl⟩
 ·exact(m7 _).trans o.suf
 ·exact o.few
 ·exact C0 (nf1 h4) (by decide)
 ·exact⟨(_,_),_,_,_,bk9 h4 (if_pos h3),rfl,rfl⟩
 ·exact⟨(_,_),_,_,_,bk9 h4 ((if_neg (nb h3)).trans (if_pos h2)),rfl,rfl⟩
 ·exact⟨(_,_),_,_,_,bk9 h4 ((if_neg (nb h3)).trans ((if_neg (nb h2)).trans (if_pos h1))),rfl,rfl⟩
 ·exact⟨(_,_),_,_,_,bk9 h4 ((if_neg (nb h3)).trans ((if_neg (nb h2)).trans (if_neg (nb h1)))),rfl,rfl⟩
noncomputable def bE4:Ns:=(.cons (.asg 1 (.meth 0 20 .nil)) (.cons (.ite (.cmp .GtE (.loc 1) (.int 0)) (.cons (.ret (.call 22 (.cons (.gi 11) (.cons (.meth 0 21 (.cons (.loc 1) (.cons (.boo true) .nil))) .nil)))) .nil) .nil) (.cons (.ite (.cmp .Lt (.loc 1) (.neg (.int 1))) (.cons (.ex (.meth 0 2 (.cons (.byt [105,110,118,97,108,105,100,32,108,111,110,103,32,115,116,114,105,110,103,32,100,101,108,105,109,105,116,101,114]) (.cons (.gi 11) .nil)))) .nil) .nil) (.cons (.ret (.call 22 (.cons (.gi 25) (.cons .non .nil)))) .nil))))
theorem ck2(L ψ outer lx):w8 (t9 bD2 aU5 420 L ψ outer lx 465).env aU5 bE4 bL2=true:=by kernel_rfl
theorem V2{σ:LxS}(o:σ.Ok)(hn:b9 σ.rest≠ -1)(hc:σ.chunk.length<=1000):Lx X 11 420 [] σ x6 (j6 σ.rest σ.line σ.buf):=by
 refine Cs.scM (n:=8) (cN2 _) bE4 ck2 rfl ?_
 refine(Lx.sure (B3 o hn) (by decide) ⟨d7 _,⟨λh2=>(Lx.use (P6 (σ:=σ.w _ _ _) (o.le (l8 hn)) ?_ ?_ hc) (by decide) ?_ (λa r l b e=>⟨d7 _,(Cs.det n6 (by decide) nR ⟨rfl, ?_⟩)⟩)),λh2=>⟨λh1=>(Lx.fails (z0 (σ:=σ.w _ _ _) (B7 ?_ rfl) ?_ ?_) (by decide) ?_),λh1=>(Cs.det n6 (by decide) nR ⟨rfl, ?_⟩)⟩⟩⟩)
 ·exact(D2 (of_decide_eq_true h2)).symm▸hn
 ·exact of_decide_eq_true h2
 ·exact λl w nr e=>⟨_,_,_,cR0 h2 e,rfl⟩
 ·exact⟨(_,_),_,_,_,cM1 h2 e,rfl,rfl⟩
 ·exact z4 (o.le (l8 hn))
 ·exact(o.le (l8 hn)).ln
 ·have h:=(o.le (l8 hn)).room;have:=o.few;have h:(f5 σ.rest σ.buf).length+ (c9 σ.rest).length<=σ.text.length:=h
  exact sz5 hc (by decide) (by show(f5 σ.rest σ.buf).length<=5000;lia)
 ·exact⟨_,_,_,cQ0 h2 h1,rfl⟩
 ·exact⟨(_,_),_,_,_,cQ5 h2 h1,rfl,rfl⟩
end
section
variable {X:Cx}
noncomputable abbrev DgI:=Nat×Int×Bs
noncomputable abbrev dgS(σ:LxS)(i:DgI):St:=G7 (σ.w i.2.2 σ.line σ.buf) [.val (.int i.2.1), .val (.int i.1)]
structure DgP(σ:LxS)(i:DgI):Prop where
 m:i.1<=3
 v0:0<=i.2.1
 v1:i.2.1 < 10 ^ i.1
 eq:H6 (3 - i.1) i.2.1 i.2.2=H6 3 0 σ.rest
 suf:i.2.2 <:+σ.rest
theorem ae9{s:Int}(h:d8 s=true):48<=s/\s<=57:=by
 unfold d8 at h;rw[cX7]at h;exact⟨of_decide_eq_true h.1,of_decide_eq_true h.2⟩
theorem cD9{σ:LxS}{i:DgI}(p:DgP σ i)(h:decide ((i.1:Int)< 3)=true)(hd:d8 (b9 i.2.2)=true):DgP σ (i.1+1,10 * i.2.1+b9 i.2.2 - 48,i.2.2.tail):=by
 have h3:i.1 < 3:=ilt (n:=3) h
 obtain⟨a,b⟩:=ae9 hd
 have v0:=p.v0
 have v1:=p.v1
 refine⟨h3,Int.sub_nonneg_of_le (da4 a (Int.le_add_of_nonneg_left (Int.mul_nonneg (by decide) v0))), ?_, ?_,(m7 _).trans p.suf⟩
 ·show 10 * i.2.1+b9 i.2.2 - 48 < 10 ^ (i.1+1)
  rw[Int.pow_succ];lia
 ·rw[←p.eq,cp4 h3]
  exact(if_pos hd).symm
theorem br5{σ:LxS}{i:DgI}(p:DgP σ i)(h:decide ((i.1:Int)< 3)=false):H6 3 0 σ.rest=(i.2.1,i.2.2):=by
 have h3:i.1=3:=Nat.le_antisymm p.m (ige (n:=3) h)
 rw[←p.eq,h3];rfl
theorem bw8{σ:LxS}{i:DgI}(p:DgP σ i)(h:decide ((i.1:Int)< 3)=true)(hd:d8 (b9 i.2.2)=false):H6 3 0 σ.rest=(i.2.1,i.2.2):=by
 have h3:i.1 < 3:=ilt (n:=3) h
 rw[←p.eq,cp4 h3]
 exact if_neg (nb hd)
theorem cP0{σ:LxS}{i:DgI}(p:DgP σ i):i.2.1 < 1000:=by
 have h1:=p.v1
 have h2:(10:Int) ^ i.1<=1000:=by
  have:=p.m
  rcases (by lia:i.1=0∨i.1=1∨i.1=2∨i.1=3)with e|e|e|e<;>rw[e]<;>decide
 lia
theorem cf1{σ:LxS}{i:DgI}(p:DgP σ i):IntMulOk 10 i.2.1:=by
 have:=cP0 p
 have:=p.v0
 exact IntMulOk.of_le (m:=4) (n:=10) (by decide) (intBits_le_iff.mpr (show i.2.1.natAbs < 1024 by lia)) (by decide)
noncomputable def aH8(r:Bs)(l:Int)(b:Bs):Res Unit:=if(H6 3 0 r).1> 255 then .err l (bs "escape sequence too large") b else .ok () (H6 3 0 r).2 l (b++[(H6 3 0 r).1.toNat.toUInt8])
theorem ck4{r r':Bs}{v l:Int}{b:Bs}(e:H6 3 0 r=(v,r'))(h:decide (v> 255)=true):aH8 r l b= .err l (bs "escape sequence too large") b:=by unfold aH8;rw[e];exact if_pos (of_decide_eq_true h)
theorem cm6{r r':Bs}{v l:Int}{b:Bs}(e:H6 3 0 r=(v,r'))(h:decide (v> 255)=false):aH8 r l b= .ok () r' l (b++[v.toNat.toUInt8]):=by unfold aH8;rw[e];exact if_neg (of_decide_eq_false h)
noncomputable def bM0:Ns:=(.cons (.unp [1,2] (.tup (.cons (.int 0) (.cons (.int 0) .nil)))) (.cons (.whl (.tall (.cons (.cmp .Lt (.loc 2) (.int 3)) (.cons (.cons (.call 13 (.cons (.fld 0 6) .nil)) .nil) .nil))) (.cons (.asg 1 (.bin .Sub (.bin .Add (.bin .Mult (.int 10) (.loc 1)) (.fld 0 6)) (.int 48))) (.cons (.aug 2 .Add (.int 1)) (.cons (.ex (.meth 0 5 .nil)) .nil)))) (.cons (.ite (.cmp .Gt (.loc 1) (.int 255)) (.cons (.ex (.meth 0 2 (.cons (.byt [101,115,99,97,112,101,32,115,101,113,117,101,110,99,101,32,116,111,111,32,108,97,114,103,101]) (.cons (.gi 11) .nil)))) .nil) .nil) (.cons (.ex (.meth 0 6 (.cons (.loc 1) .nil))) .nil))))
theorem cs8(L ψ outer lx):w8 (t9 bM5 aT5 462 L ψ outer lx 465).env aT5 bM0 bt5=true:=by kernel_rfl
theorem ac0{σ:LxS}(o:σ.Ok)(hc:σ.chunk.length<=1000):Lx X 8 462 [] σ U (aH8 σ.rest σ.line σ.buf):=by
 refine Cs.scM (n:=5) (cG9 _) bM0 cs8 rfl ?_
 refine⟨d5,⟨rfl,(w7 (dgS σ) (DgP σ) (λi=>3 - i.1) (0,0,σ.rest) rfl ⟨cY8 _,cZ5 _,(show(0:Int)< 1 by decide),rfl,dd7⟩ (λi p=>⟨λh4=>(Cs.det x5 (by decide) nR ⟨λh3=>⟨λH=>⟨?_,(Lx.sure (r9 ?_ ?_ ?_) (by decide) ⟨d7 _,⟨_, ?_,(i.1+1,10 * i.2.1+b9 i.2.2 - 48,i.2.2.tail),rfl, ?_,rfl⟩⟩)⟩,nofun⟩,λh3=>⟨nofun,λH=>⟨λh2=>(Lx.fails (z0 (B7 ?_ rfl) ?_ ?_) (by decide) ?_),λh2=>(Lx.sure (G5 ?_ ?_ ?_) (by decide) ⟨d7 _,⟨rfl, ?_⟩⟩)⟩⟩⟩),λh4=>⟨nofun,λH=>⟨λh2=>(Lx.fails (z0 (B7 ?_ rfl) ?_ ?_) (by decide) ?_),λh2=>(Lx.sure (G5 ?_ ?_ ?_) (by decide) ⟨d7 _,⟨rfl, ?_⟩⟩)⟩⟩⟩))⟩⟩
 ·exact cf1 p
 ·exact p.suf.trans o.suf
 ·exact o.few
 ·exact ab9 h3
 ·have:=of_decide_eq_true h4;show 3 - (i.1+1)< 3 - i.1;lia
 ·exact cD9 p h4 h3
 ·exact(z4 o:σ.buf.length<=16777216)
 ·exact o.ln
 ·exact sz5 hc (by decide) (by have:=o.room;have:=o.few;show σ.buf.length<=5000;lia)
 ·exact⟨_,_,_,ck4 (bw8 p h4 h3) h2,rfl⟩
 ·exact o.wk.small
 ·exact p.v0
 ·have:=of_decide_eq_false h2;show i.2.1 < 256;lia
 ·exact⟨(),_,_,_,cm6 (bw8 p h4 h3) h2,rfl,rfl⟩
 ·exact(z4 o:σ.buf.length<=16777216)
 ·exact o.ln
 ·exact sz5 hc (by decide) (by have:=o.room;have:=o.few;show σ.buf.length<=5000;lia)
 ·exact⟨_,_,_,ck4 (br5 p h4) h2,rfl⟩
 ·exact o.wk.small
 ·exact p.v0
 ·have:=of_decide_eq_false h2;show i.2.1 < 256;lia
 ·exact⟨(),_,_,_,cm6 (br5 p h4) h2,rfl,rfl⟩
end
section
variable {X:Cx}
noncomputable def bw2:Ns:=(.cons (.asg 2 (.bin .BitAnd (.loc 0) (.bin .Sub (.bin .LShift (.int 1) (.loc 1)) (.int 1)))) (.cons (.ite (.cmp .GtE (.loc 2) (.bin .LShift (.int 1) (.bin .Sub (.loc 1) (.int 1)))) (.cons (.ret (.bin .Sub (.loc 2) (.bin .LShift (.int 1) (.loc 1)))) .nil) .nil) (.cons (.ret (.loc 2)) .nil)))
theorem cw9(L ψ outer lx):w8 (t9 bJ1 aS0 103 L ψ outer lx 465).env aS0 bw2 bG6=true:=by kernel_rfl
theorem aB0{n:Int}:Cs X 3 (.ref 103) 0 [.int n, .int 64] none (λv m=>v= .int (U1 n)/\m=none) v4:=by
 refine Cs.scF (n:=0) (cS1 _) bw2 cw9 rfl ?_
 refine⟨?_,⟨?_,⟨λh1=>⟨?_,⟨rfl, ?_⟩⟩,λh1=>⟨rfl, ?_⟩⟩⟩⟩
 ·decide
 ·decide
 ·decide
 ·exact⟨congrArg V.int (if_pos (of_decide_eq_true h1)).symm,rfl⟩
 ·exact⟨congrArg V.int (if_neg (of_decide_eq_false h1)).symm,rfl⟩
noncomputable def bA8:Ns:=(.cons (.ret (.cmp .In (.loc 0) (.gv 0))) .nil)
theorem cy4(L ψ outer lx):w8 (t9 bN2 aT9 110 L ψ outer lx 465).env aT9 bA8 bL7=true:=by kernel_rfl
theorem N2{s:Int}(h0:0<=s)(h1:s < 256):Cs X 3 (.ref 110) 0 [.int s] none (λv m=>v= .bool (([32,9,10,11,12,13]:Bs).contains s.toNat.toUInt8)/\m=none) v4:=by
 refine Cs.scF (n:=0) (cM7 _) bA8 cy4 rfl ?_
 refine⟨?_,⟨rfl, ?_⟩⟩
 ·exact⟨h0,h1⟩
 ·exact⟨rfl,rfl⟩
noncomputable abbrev blk(c:UInt8):Bool:=([32,9,10,11,12,13]:Bs).contains c
theorem bU1{t:Bs}{k:Nat}(h:decide ((k:Int)< (t.length:Int))=true)(hb:∀c∈t,blk c=false):blk (((t.getD (k:Int).toNat 0).toNat:Int).toNat.toUInt8)=false:=by
 have h:=of_decide_eq_true h
 have hk:k < t.length:=by lia
 have:t.getD k 0∈t:=by rw[cV8,cW2 hk];exact db5 hk
 have e:((t.getD (k:Int).toNat 0).toNat:Int).toNat.toUInt8=t.getD k 0:=by simp
 rw[e];exact hb _ this
noncomputable def bE5:Ns:=(.cons (.whl (.tall (.cons (.cmp .Lt (.loc 1) (.bi 0 (.cons (.loc 0) .nil))) (.cons (.cons (.call 2 (.cons (.sub (.loc 0) (.loc 1)) .nil)) .nil) .nil))) (.cons (.asg 1 (.bin .Add (.loc 1) (.int 1))) .nil)) (.cons (.ret (.loc 1)) .nil))
theorem co8(L ψ outer lx):w8 (t9 bv2 aM6 131 L ψ outer lx 465).env aM6 bE5 bz7=true:=by kernel_rfl
theorem D6{t:Bs}{k:Nat}(hz:t.length<=5000)(hb:∀c∈t,blk c=false):Cs X 4 (.ref 131) 0 [.bytes t, .int k] none (λv m=>v= .int k/\m=none) v4:=by
 refine Cs.scF (n:=1) (cI9 _) bE5 co8 rfl ?_
 refine(w7 (λ_:Unit=>({loc:=[.val (.bytes t), .val (.int k)],me:=none}:St)) (λH=>True) (λH=>0) () rfl trivial (λH H=>⟨?_,⟨λh2=>⟨?_,(Cs.det (N2 ?_ ?_) (by decide) nR ⟨λh1=>⟨λH=>(cX9 ?_),nofun⟩,λh1=>⟨nofun,λH=>⟨rfl, ?_⟩⟩⟩)⟩,λh2=>⟨nofun,λH=>⟨rfl, ?_⟩⟩⟩⟩))
 ·lia
 ·have:=of_decide_eq_true h2;exact⟨by lia,by lia,this⟩
 ·exact da1 _
 ·have:=(t.getD (k:Int).toNat 0).toNat_lt;lia
 ·exact cV2 (h1.symm.trans (bU1 h2 hb))
 ·exact⟨rfl,rfl⟩
 ·exact⟨rfl,rfl⟩
end
section
variable {X:Cx}
noncomputable abbrev RdI:=Nat×Int×Sl
noncomputable abbrev rdS(t:Bs)(base:Int)(i:RdI):St:= {loc:=[.val (.bytes t), .val (.int i.1), .val (.int base), .val (.int i.2.1),i.2.2],me:=none}
structure RdP(t:Bs)(a:Nat)(base:Int)(i:RdI):Prop where
 lo:a<=i.1
 hi:i.1<=t.length
 v0:0<=i.2.1
 v1:i.2.1 < 16 ^ (i.1 - a)
 eq:j5 base (t.drop i.1) i.2.1 (i.1 - a)=j5 base (t.drop a) 0 0
noncomputable abbrev sg(t:Bs)(k:Nat):Int:=((t.getD (k:Int).toNat 0).toNat:Int)
theorem aD0{t:Bs}{k:Nat}(h:decide ((k:Int)< (t.length:Int))=true):∃c,t.drop k=c::t.drop (k+1)/\(c.toNat:Int)=sg t k:=by
 have hk:=ilt h
 refine⟨t[k],de7 hk, ?_⟩
 show(t[k].toNat:Int)=((t.getD k 0).toNat:Int)
 rw[cV8,cW2 hk];rfl
section
variable {t:Bs} {a:Nat} {base:Int} {i:RdI} (p:RdP t a base i)
include p
theorem ca4(h:decide ((i.1:Int)< (t.length:Int))=false):j5 base (t.drop a) 0 0=(i.2.1,i.1 - a):=by
 rw[←p.eq,List.drop_eq_nil_of_le (ige h)];rfl
theorem aD1(h:decide ((i.1:Int)< (t.length:Int))=true)(hd:(g0 (sg t i.1)< 0||g0 (sg t i.1) ≥ base)=true):j5 base (t.drop a) 0 0=(i.2.1,i.1 - a):=by
 obtain⟨c,h1,h2⟩:=aD0 h
 rw[←p.eq,h1]
 show(if _ then _ else _)=_
 rw[h2];exact if_pos hd
theorem cu5(hb:base=10∨base=16)(h:decide ((i.1:Int)< (t.length:Int))=true)(h1:decide (g0 (sg t i.1)< 0)=false)(h2:decide (g0 (sg t i.1) ≥ base)=false){sl:Sl}:RdP t a base (i.1+1,i.2.1 * base+g0 (sg t i.1),sl):=by
 obtain⟨c,e1,e2⟩:=aD0 h
 have h1':0<=g0 (sg t i.1):=Int.not_lt.mp (of_decide_eq_false h1)
 have h2':g0 (sg t i.1)< base:=Int.not_le.mp (of_decide_eq_false h2)
 have v0:=p.v0
 have e3:i.1+1 - a=(i.1 - a)+1:=Nat.sub_add_comm p.lo
 have hb':0<=base/\base<=16:=by rcases hb with rfl|rfl<;>decide
 refine⟨Nat.le_succ_of_le p.lo,ilt h,Int.add_nonneg (Int.mul_nonneg v0 hb'.1) h1', ?_, ?_⟩
 ·show i.2.1 * base+g0 (sg t i.1)< 16 ^ (i.1+1 - a)
  rw[e3,Int.pow_succ]
  have e4:i.2.1 * base+base=(i.2.1+1) * base:=by rw[Int.add_mul,Int.one_mul]
  exact Int.lt_of_lt_of_le (Int.add_lt_add_left h2' _) (da4 (Int.le_of_eq e4) (da4 (Int.mul_le_mul_of_nonneg_right p.v1 hb'.1) (Int.mul_le_mul_of_nonneg_left hb'.2 (da4 v0 (Int.le_of_lt p.v1)))))
 ·rw[←p.eq,e1]
  show _=(if _ then _ else _)
  rw[e2,if_neg (by rw[h1,h2];decide),e3]
theorem cc0(hz:t.length<=5000)(hb:base=10∨base=16):IntMulOk i.2.1 base:=by
 have h:i.2.1.natAbs < 2 ^ 20000:=by
  have v0:=p.v0
  have v1:=p.v1
  have hh:=p.hi
  have e:(16:Nat) ^ (i.1 - a)<=2 ^ 20000:=by
   rw[show(16:Nat)=2 ^ 4 from rfl, ←Nat.pow_mul]
   exact Nat.pow_le_pow_right (by decide) (dd5 4 (cV5 (Nat.sub_le _ _) (cV5 hh hz)))
  have e':((16 ^ (i.1 - a):Nat):Int)=(16:Int) ^ (i.1 - a):=by push_cast;rfl
  obtain⟨n,hn⟩:=Int.eq_ofNat_of_zero_le v0
  rw[hn, ←e']at v1
  rw[hn]
  exact da7 (dh8.mp v1) e
 exact IntMulOk.of_le (m:=20000) (n:=5) (intBits_le_iff.mpr h) (by rcases hb with rfl|rfl<;>decide) (by decide)
end
theorem bX9{t:Bs}{a:Nat}{base v:Int}{p:Nat}(h:j5 base (t.drop a) 0 0=(v,p - a))(hp:a<=p):V.tup [.int v, .int (p:Int)]=V.tup [.int (j5 base (t.drop a) 0 0).1, .int ((a:Int)+ (j5 base (t.drop a) 0 0).2)]:=by
 rw[h];show _=V.tup [.int v, .int ((a:Int)+ ((p - a:Nat):Int))]
 rw[show(a:Int)+ ((p - a:Nat):Int)=p by rw[←Int.natCast_add,Nat.add_sub_cancel' hp]]
noncomputable def by8:Ns:=(.cons (.asg 3 (.int 0)) (.cons (.whl (.cmp .Lt (.loc 1) (.bi 0 (.cons (.loc 0) .nil))) (.cons (.asg 4 (.call 3 (.cons (.sub (.loc 0) (.loc 1)) .nil))) (.cons (.ite (.tany (.cons (.cmp .Lt (.loc 4) (.int 0)) (.cons (.cmp .GtE (.loc 4) (.loc 2)) .nil))) (.cons .brk .nil) .nil) (.cons (.asg 3 (.bin .Add (.bin .Mult (.loc 3) (.loc 2)) (.loc 4))) (.cons (.asg 1 (.bin .Add (.loc 1) (.int 1))) .nil))))) (.cons (.ret (.tup (.cons (.loc 3) (.cons (.loc 1) .nil)))) .nil)))
theorem cn9(L ψ outer lx):w8 (t9 bI5 ba1 124 L ψ outer lx 465).env ba1 by8 bH0=true:=by kernel_rfl
theorem Q9{t:Bs}{a:Nat}{base:Int}(hz:t.length<=5000)(ha:a<=t.length)(hb:base=10∨base=16):Cs X 4 (.ref 124) 0 [.bytes t, .int a, .int base] none (λv m=>v= .tup [.int (j5 base (t.drop a) 0 0).1, .int ((a:Int)+ (j5 base (t.drop a) 0 0).2)]/\m=none) v4:=by
 refine Cs.scF (n:=1) (cP1 _) by8 cn9 rfl ?_
 refine(w7 (rdS t base) (RdP t a base) (λi=>t.length - i.1) (a,0, .un) rfl ⟨cX4 _,ha,cZ5 _,(by show(0:Int)< 16 ^ (a - a);rw[Nat.sub_self];decide),(by rw[Nat.sub_self])⟩ (λi p=>⟨?_,⟨λh3=>⟨?_,(Cs.det U0 (by decide) nR ⟨λh2=>⟨λH=>⟨d5,⟨rfl, ?_⟩⟩,nofun⟩,λh2=>⟨λh1=>⟨λH=>⟨d5,⟨rfl, ?_⟩⟩,nofun⟩,λh1=>⟨nofun,λH=>⟨?_,⟨_, ?_,(i.1+1,_,_),rfl,cu5 p hb ?_ ?_ ?_,rfl⟩⟩⟩⟩⟩)⟩,λh3=>⟨d5,⟨rfl, ?_⟩⟩⟩⟩))
 ·lia
 ·exact⟨by lia,by lia,of_decide_eq_true h3⟩
 ·exact⟨bX9 (aD1 p h3 (by rw[show decide (g0 (sg t i.1)< 0)=true from h2];rfl)) p.lo,rfl⟩
 ·exact⟨bX9 (aD1 p h3 (by rw[show decide (g0 (sg t i.1) ≥ base)=true from h1];exact Bool.or_true _)) p.lo,rfl⟩
 ·exact cc0 p hz hb
 ·exact aE1 h3
 ·exact h3
 ·exact h2
 ·exact h1
 ·exact⟨bX9 (ca4 p h3) p.lo,rfl⟩
end
section
variable {X:Cx}
noncomputable def ap6(t:Bs)(a:Nat)(base:Int):Option Int:=if(j5 base (t.drop a) 0 0).2=0∨(j5 base (t.drop a) 0 0).2+a≠t.length then none else some (U1 (j5 base (t.drop a) 0 0).1)
noncomputable def bu8:Ns:=(.cons (.as2 [4,3] (.cons (.call 5 (.cons (.loc 0) (.cons (.int 0) .nil))) (.cons (.boo false) .nil))) (.cons (.ite (.tall (.cons (.cmp .Lt (.loc 3) (.bi 0 (.cons (.loc 0) .nil))) (.cons (.cmp .In (.sub (.loc 0) (.loc 3)) (.byt [43,45])) .nil))) (.cons (.asg 4 (.cmp .Eq (.sub (.loc 0) (.loc 3)) (.int 45))) (.cons (.asg 3 (.bin .Add (.loc 3) (.int 1))) .nil)) .nil) (.cons (.asg 5 (.and (.cmp .Lt (.bin .Add (.loc 3) (.int 2)) (.bi 0 (.cons (.loc 0) .nil))) (.and (.cmp .Eq (.sub (.loc 0) (.loc 3)) (.int 48)) (.and (.cmp .In (.sub (.loc 0) (.bin .Add (.loc 3) (.int 1))) (.byt [120,88])) (.cmp .In (.loc 1) (.tup (.cons (.int 0) (.cons (.int 16) .nil)))))))) (.cons (.ite (.tall (.cons (.cons (.loc 5) .nil) (.cons (.chn .LtE .Lt (.int 0) (.call 3 (.cons (.sub (.loc 0) (.bin .Add (.loc 3) (.int 2))) .nil)) (.int 16)) .nil))) (.cons (.as2 [1,3] (.cons (.bin .Add (.loc 3) (.int 2)) (.cons (.int 16) .nil))) .nil) .nil) (.cons (.unp [6,7] (.call 4 (.cons (.loc 0) (.cons (.loc 3) (.cons (.ife (.cmp .Eq (.loc 1) (.int 0)) (.int 10) (.loc 1)) .nil))))) (.cons (.ite (.tany (.cons (.cmp .Eq (.loc 7) (.loc 3)) (.cons (.cmp .NotEq (.call 5 (.cons (.loc 0) (.cons (.loc 7) .nil))) (.bi 0 (.cons (.loc 0) .nil))) .nil))) (.cons (.ret .non) .nil) .nil) (.cons (.ret (.call 1 (.cons (.ife (.cons (.loc 4) .nil) (.neg (.loc 6)) (.loc 6)) (.cons (.rf 2 (.loc 2)) .nil)))) .nil)))))))
theorem cm9(L ψ outer lx):w8 (t9 bD0 aN1 145 L ψ outer lx 465).env aN1 bu8 bK5=true:=by kernel_rfl
noncomputable def bs7:Ns:=(.cons (.unp [6,7] (.call 4 (.cons (.loc 0) (.cons (.loc 3) (.cons (.ife (.cmp .Eq (.loc 1) (.int 0)) (.int 10) (.loc 1)) .nil))))) (.cons (.ite (.tany (.cons (.cmp .Eq (.loc 7) (.loc 3)) (.cons (.cmp .NotEq (.call 5 (.cons (.loc 0) (.cons (.loc 7) .nil))) (.bi 0 (.cons (.loc 0) .nil))) .nil))) (.cons (.ret .non) .nil) .nil) (.cons (.ret (.call 1 (.cons (.ife (.cons (.loc 4) .nil) (.neg (.loc 6)) (.loc 6)) (.cons (.rf 2 (.loc 2)) .nil)))) .nil)))
theorem bt3{t:Bs}{a:Nat}{base:Int}(h:((a:Int)+ ((j5 base (t.drop a) 0 0).2:Int) == (a:Int))=true):ap6 t a base=none:=if_pos (.inl (by have:=beq_iff_eq.mp h;lia))
theorem by7{t:Bs}{a:Nat}{base:Int}(h:(!((a:Int)+ ((j5 base (t.drop a) 0 0).2:Int) == (t.length:Int)))=true):ap6 t a base=none:=if_pos (.inr (by have:=nt1 h;rw[beq_eq_false_iff_ne]at this;lia))
theorem bC5{t:Bs}{a:Nat}{base:Int}(h:((a:Int)+ ((j5 base (t.drop a) 0 0).2:Int) == (a:Int))=false)(h':(!((a:Int)+ ((j5 base (t.drop a) 0 0).2:Int) == (t.length:Int)))=false):ap6 t a base=some (U1 (j5 base (t.drop a) 0 0).1):=if_neg (by rw[beq_eq_false_iff_ne]at h;have:=beq_iff_eq.mp (nf1 h');lia)
theorem X7{t:Bs}{a:Nat}{s5 s6 s7:Sl}(hz:t.length<=5000)(ha:a<=t.length)(hbl:∀c∈t,blk c=false){res:Option Int}(hr:ap6 t a 10=res):A6 X 5 v4 bs7 {loc:=[.val (.bytes t), .val (.int 0), .val J5, .val (.int a), .val (.bool false),s5,s6,s7],me:=none} (Pst none λv m=>v=C5 res/\m=none):=by
 refine⟨λh4=>(Cs.det (Q9 (base:=10) hz ha (.inl rfl)) (by decide) nR ⟨rfl,⟨λh3=>⟨λH=>⟨rfl, ?_⟩,nofun⟩,λh3=>(Cs.det (D6 (k:=a+ (j5 10 (t.drop a) 0 0).2) hz hbl) (by decide) nR ⟨?_,⟨λh2=>⟨λH=>⟨rfl, ?_⟩,nofun⟩,λh2=>⟨nofun,λH=>⟨λh1=>(cX9 ?_),λh1=>⟨rfl,rfl,(Cs.det aB0 (by decide) nR ⟨rfl, ?_⟩)⟩⟩⟩⟩⟩)⟩⟩),λh4=>(cX9 ?_)⟩
 ·exact⟨(congrArg C5 (hr.symm.trans (bt3 h3))).symm,rfl⟩
 ·lia
 ·exact⟨(congrArg C5 (hr.symm.trans (by7 h2))).symm,rfl⟩
 ·exact cV2 h1
 ·exact⟨(congrArg C5 (hr.symm.trans (bC5 h3 h2))).symm,rfl⟩
 ·exact cV2 h4
theorem aR9{t:Bs}{a:Nat}{s5 s6 s7:Sl}(hz:t.length<=5000)(ha:a<=t.length)(hbl:∀c∈t,blk c=false){res:Option Int}(hr:ap6 t a 16=res):A6 X 5 v4 bs7 {loc:=[.val (.bytes t), .val (.int 16), .val J5, .val (.int a), .val (.bool false),s5,s6,s7],me:=none} (Pst none λv m=>v=C5 res/\m=none):=by
 refine⟨λh4=>(cX9 ?_),λh4=>(Cs.det (Q9 (base:=16) hz ha (.inr rfl)) (by decide) nR ⟨rfl,⟨λh3=>⟨λH=>⟨rfl, ?_⟩,nofun⟩,λh3=>(Cs.det (D6 (k:=a+ (j5 16 (t.drop a) 0 0).2) hz hbl) (by decide) nR ⟨?_,⟨λh2=>⟨λH=>⟨rfl, ?_⟩,nofun⟩,λh2=>⟨nofun,λH=>⟨λh1=>(cX9 ?_),λh1=>⟨rfl,rfl,(Cs.det aB0 (by decide) nR ⟨rfl, ?_⟩)⟩⟩⟩⟩⟩)⟩⟩)⟩
 ·exact cV2 h4
 ·exact⟨(congrArg C5 (hr.symm.trans (bt3 h3))).symm,rfl⟩
 ·lia
 ·exact⟨(congrArg C5 (hr.symm.trans (by7 h2))).symm,rfl⟩
 ·exact cV2 h1
 ·exact⟨(congrArg C5 (hr.symm.trans (bC5 h3 h2))).symm,rfl⟩
end
section
variable {X:Cx}
theorem gt2{t:Bs}(h:2 < t.length):((t.getD (0+2:Int).toNat 0).toNat:Int)=b9 t.tail.tail:=by
 match t,h with
 |_::_::_::_,_=>rfl
theorem ba5{t:Bs}(h:v9 t=true):2 < t.length:=of_decide_eq_true (a1 h)
theorem aL2{t:Bs}(h:q0 t=false):ap6 t 0 10=m5 t:=(if_neg (nb h)).symm
theorem cG5{t:Bs}(h:q0 t=true):ap6 t 2 16=m5 t:=by
 have e:t.drop 2=t.tail.tail:=by match t,ba5 (a1 h)with|_::_::_::_,_=>rfl
 unfold ap6
 rw[e]
 exact(if_pos h).symm
theorem cr8{t:Bs}(h:v9 t=false):q0 t=false:=by unfold q0;rw[h];rfl
section
variable {t:Bs} {b:Bool} (hm:b=v9 t) (h:b=true)
include hm h
theorem am9:2 < t.length:=ba5 (hm.symm.trans h)
theorem cG3(h1:decide (0<=g0 ((t.getD (0+2:Int).toNat 0).toNat:Int))=false):q0 t=false:=by
 rw[gt2 (am9 hm h)]at h1;unfold q0;rw[h1];exact dd6 _
theorem cy8(h2:decide (g0 ((t.getD (0+2:Int).toNat 0).toNat:Int)< 16)=false):q0 t=false:=by
 rw[gt2 (am9 hm h)]at h2;unfold q0;rw[h2,dd6];exact dd6 _
theorem co7(h1:decide (0<=g0 ((t.getD (0+2:Int).toNat 0).toNat:Int))=true)(h2:decide (g0 ((t.getD (0+2:Int).toNat 0).toNat:Int)< 16)=true):q0 t=true:=by
 rw[gt2 (am9 hm h)]at h1 h2;unfold q0;rw[h1,h2, ←hm,h];rfl
end
noncomputable def cm2:Ns:=(.cons (.ite (.tall (.cons (.cons (.loc 5) .nil) (.cons (.chn .LtE .Lt (.int 0) (.call 3 (.cons (.sub (.loc 0) (.bin .Add (.loc 3) (.int 2))) .nil)) (.int 16)) .nil))) (.cons (.as2 [1,3] (.cons (.bin .Add (.loc 3) (.int 2)) (.cons (.int 16) .nil))) .nil) .nil) (.cons (.unp [6,7] (.call 4 (.cons (.loc 0) (.cons (.loc 3) (.cons (.ife (.cmp .Eq (.loc 1) (.int 0)) (.int 10) (.loc 1)) .nil))))) (.cons (.ite (.tany (.cons (.cmp .Eq (.loc 7) (.loc 3)) (.cons (.cmp .NotEq (.call 5 (.cons (.loc 0) (.cons (.loc 7) .nil))) (.bi 0 (.cons (.loc 0) .nil))) .nil))) (.cons (.ret .non) .nil) .nil) (.cons (.ret (.call 1 (.cons (.ife (.cons (.loc 4) .nil) (.neg (.loc 6)) (.loc 6)) (.cons (.rf 2 (.loc 2)) .nil)))) .nil))))
theorem ah2{t:Bs}{b:Bool}(hz:t.length<=5000)(hbl:∀c∈t,blk c=false)(hm:b=v9 t):A6 X 5 v4 cm2 {loc:=[.val (.bytes t), .val (.int 0), .val J5, .val (.int 0), .val (.bool false), .val (.bool b), .un, .un],me:=none} (Pst none λv m=>v=C5 (m5 t)/\m=none):=by
 refine⟨λh3=>⟨?_,(Cs.det U0 (by decide) nR ⟨λh1=>⟨nofun,λH=>⟨nofun,λH=> ?_⟩⟩,λh1=>⟨λh2=>⟨λH=>⟨rfl, ?_⟩,nofun⟩,λh2=>⟨nofun,λH=> ?_⟩⟩⟩)⟩,λh3=>⟨nofun,λH=> ?_⟩⟩
 ·have:=am9 hm h3;exact⟨by lia,by decide,by lia⟩
 ·exact X7 (a:=0) hz (cY8 _) hbl (aL2 (cG3 hm h3 h1))
 ·exact aR9 (a:=2) hz (Nat.le_of_lt (am9 hm h3)) hbl (cG5 (co7 hm h3 h1 h2))
 ·exact X7 (a:=0) hz (cY8 _) hbl (aL2 (cy8 hm h3 h2))
 ·exact X7 (a:=0) hz (cY8 _) hbl (aL2 (cr8 (hm.symm.trans h3)))
theorem u8(c:UInt8):c.toNat.toUInt8=c:=by simp
theorem cd9{t:Bs}(h:decide ((0:Int)+2 < (t.length:Int))=true):v9 t=((((t.getD (0:Int).toNat 0).toNat:Int) ==48) && ([120,88]:Bs).contains (((t.getD ((0:Int)+1).toNat 0).toNat:Int).toNat.toUInt8)):=by
 have h:=of_decide_eq_true h
 match t,(show 2 < t.length by lia)with
 |a::b::c::r,h=>
  show(decide (2 < (a::b::c::r).length) && (((a.toNat:Int) ==48) && (b==120||b==88)))=(((a.toNat:Int) ==48) && (((b.toNat:Int).toNat.toUInt8==120) || (((b.toNat:Int).toNat.toUInt8==88) ||false)))
  rw[decide_eq_true h,df0,Bool.true_and,Int.toNat_natCast,u8]
theorem cK1{t:Bs}(h:decide ((0:Int)+2 < (t.length:Int))=false):decide ((0:Int)+2 < (t.length:Int))=v9 t:=by
 have h':=of_decide_eq_false h
 unfold v9
 rw[h,decide_eq_false (show ¬ 2 < t.length by lia)];rfl
theorem aB1(c:UInt8):0<=(c.toNat:Int)/\(c.toNat:Int)< 256:=⟨da1 _,by have:=c.toNat_lt;lia⟩
noncomputable def ck5:Ns:=(.cons (.asg 5 (.and (.cmp .Lt (.bin .Add (.loc 3) (.int 2)) (.bi 0 (.cons (.loc 0) .nil))) (.and (.cmp .Eq (.sub (.loc 0) (.loc 3)) (.int 48)) (.and (.cmp .In (.sub (.loc 0) (.bin .Add (.loc 3) (.int 1))) (.byt [120,88])) (.cmp .In (.loc 1) (.tup (.cons (.int 0) (.cons (.int 16) .nil)))))))) (.cons (.ite (.tall (.cons (.cons (.loc 5) .nil) (.cons (.chn .LtE .Lt (.int 0) (.call 3 (.cons (.sub (.loc 0) (.bin .Add (.loc 3) (.int 2))) .nil)) (.int 16)) .nil))) (.cons (.as2 [1,3] (.cons (.bin .Add (.loc 3) (.int 2)) (.cons (.int 16) .nil))) .nil) .nil) (.cons (.unp [6,7] (.call 4 (.cons (.loc 0) (.cons (.loc 3) (.cons (.ife (.cmp .Eq (.loc 1) (.int 0)) (.int 10) (.loc 1)) .nil))))) (.cons (.ite (.tany (.cons (.cmp .Eq (.loc 7) (.loc 3)) (.cons (.cmp .NotEq (.call 5 (.cons (.loc 0) (.cons (.loc 7) .nil))) (.bi 0 (.cons (.loc 0) .nil))) .nil))) (.cons (.ret .non) .nil) .nil) (.cons (.ret (.call 1 (.cons (.ife (.cons (.loc 4) .nil) (.neg (.loc 6)) (.loc 6)) (.cons (.rf 2 (.loc 2)) .nil)))) .nil)))))
theorem aV9{t:Bs}(hz:t.length<=5000)(hbl:∀c∈t,blk c=false):A6 X 5 v4 ck5 {loc:=[.val (.bytes t), .val (.int 0), .val J5, .val (.int 0), .val (.bool false), .un, .un, .un],me:=none} (Pst none λv m=>v=C5 (m5 t)/\m=none):=by
 refine⟨?_,⟨λh1=>⟨?_,⟨λh2=>⟨?_,⟨?_,⟨λh3=>⟨d5,⟨rfl,(ah2 hz hbl ?_)⟩⟩,λh3=>(ah2 hz hbl ?_)⟩⟩⟩,λh2=>(ah2 hz hbl ?_)⟩⟩,λh1=>(ah2 hz hbl ?_)⟩⟩
 ·lia
 ·have:=of_decide_eq_true h1;exact⟨by lia,by decide,by lia⟩
 ·have:=of_decide_eq_true h1;exact⟨by lia,by decide,by lia⟩
 ·exact aB1 _
 ·rw[cd9 h1,h2,h3];rfl
 ·rw[cd9 h1,h2,h3];rfl
 ·rw[cd9 h1,h2];rfl
 ·exact cK1 h1
theorem bh8{t:Bs}(hs:A7 (b9 t)=false)(h:decide (((0:Nat):Int)< (t.length:Int))=true)(h4:([43,45]:Bs).contains ((((t.getD ((0:Nat):Int).toNat 0).toNat:Int).toNat.toUInt8))=true):False:=by
 match t,h with
 |c::r,_=>
  have e:((((c::r).getD ((0:Nat):Int).toNat 0).toNat:Int).toNat.toUInt8)=c:=by
   show((c.toNat:Int).toNat.toUInt8)=c
   rw[Int.toNat_natCast,u8]
  rw[e,de2]at h4
  have:A7 (c.toNat:Int)=true:=by
   rcases cY1.mp h4 with rfl|h4
   ·rfl
   ·obtain rfl:=cW0.mp h4;rfl
  exact cV2 (hs.symm.trans this)
theorem V7{t:Bs}(hz:t.length<=5000)(hbl:∀c∈t,blk c=false)(hs:A7 (b9 t)=false):Cs X 6 (.ref 145) 0 [.bytes t, .int 0,J5] none (λv m=>v=C5 (m5 t)/\m=none) v4:=by
 refine Cs.scF (n:=3) (cL0 _) bu8 cm9 rfl ?_
 refine(Cs.det (D6 (k:=0) hz hbl) (by decide) nR ⟨rfl,⟨?_,⟨λh2=>⟨?_,⟨?_,⟨λh1=>⟨λH=>(cX9 ?_),nofun⟩,λh1=>⟨nofun,λH=>(aV9 hz hbl)⟩⟩⟩⟩,λh2=>⟨nofun,λH=>(aV9 hz hbl)⟩⟩⟩⟩)
 ·lia
 ·have:=of_decide_eq_true h2;exact⟨by lia,by decide,this⟩
 ·exact aB1 _
 ·exact bh8 hs h2 h1
noncomputable def bI9:Ns:=(.cons (.ret (.call 7 (.cons (.loc 0) (.cons (.int 0) (.cons (.loc 1) .nil))))) .nil)
theorem cF0(L ψ outer lx):w8 (t9 bw3 aX8 138 L ψ outer lx 465).env aX8 bI9 bs2=true:=by kernel_rfl
theorem T6{t:Bs}(hz:t.length<=5000)(hbl:∀c∈t,blk c=false)(hs:A7 (b9 t)=false):Cs X 7 (.ref 138) 0 [.bytes t,J5] none (λv m=>v=C5 (m5 t)/\m=none) v4:=by
 refine Cs.scF (n:=4) (cT0 _) bI9 cF0 rfl ?_
 refine(Cs.det (V7 hz hbl hs) (by decide) nR ⟨rfl, ?_⟩)
 ·exact⟨rfl,rfl⟩
end
section
variable {X:Cx}
theorem cy9{t:Bs}{k:Nat}(hz:∀c∈t,c≠0)(h:decide ((k:Int)< (t.length:Int))=true)(h':(!((t.getD (k:Int).toNat 0).toNat:Int) ==0)=false):False:=by
 have h:=of_decide_eq_true h
 have hk:k < t.length:=by lia
 have e:t.getD k 0=t[k]:=by rw[cV8,cW2 hk];rfl
 have h':=beq_iff_eq.mp (nf1 h')
 rw[Int.toNat_natCast,e]at h'
 exact hz _ (db5 hk) (UInt8.toNat_inj.mp (Int.ofNat.inj h'))
theorem bf2(t:Bs){k:Int}(h:k=t.length):F2 t none (some k)=t:=by
 subst h
 unfold F2
 show(t.drop 0).take (clipAt t.length (t.length:Int) - 0)=t
 have:clipAt t.length (t.length:Int)=t.length:=(J6 _ _).trans (Nat.min_self _)
 rw[this];exact List.take_length
noncomputable def bs5:Ns:=(.cons (.asg 1 (.int 0)) (.cons (.whl (.tall (.cons (.cmp .Lt (.loc 1) (.bi 0 (.cons (.loc 0) .nil))) (.cons (.cmp .NotEq (.sub (.loc 0) (.loc 1)) (.int 0)) .nil))) (.cons (.asg 1 (.bin .Add (.loc 1) (.int 1))) .nil)) (.cons (.ret (.slc (.loc 0) .no (.cons (.loc 1) .nil))) .nil)))
theorem cm8(L ψ outer lx):w8 (t9 bz8 ba6 166 L ψ outer lx 465).env ba6 bs5 bD6=true:=by kernel_rfl
theorem ag2{t:Bs}(h5:t.length<=5000)(hz:∀c∈t,c≠0):Cs X 3 (.ref 166) 0 [.bytes t] none (λv m=>v= .bytes t/\m=none) v4:=by
 refine Cs.scF (n:=0) (cL6 _) bs5 cm8 rfl ?_
 refine(w7 (λk:Nat=>({loc:=[.val (.bytes t), .val (.int k)],me:=none}:St)) (λk=>k<=t.length) (λk=>t.length - k) 0 rfl (cY8 _) (λi p=>⟨?_,⟨λh2=>⟨?_,⟨λh1=>⟨λH=>⟨_, ?_,i+1,rfl, ?_,rfl⟩,nofun⟩,λh1=>⟨nofun,λH=>⟨?_,⟨rfl, ?_⟩⟩⟩⟩⟩,λh2=>⟨nofun,λH=>⟨?_,⟨rfl, ?_⟩⟩⟩⟩⟩))
 ·lia
 ·have:=of_decide_eq_true h2;exact⟨by lia,by lia,this⟩
 ·exact aE1 h2
 ·exact ilt h2
 ·lia
 ·exact(cy9 hz h2 h1).elim
 ·lia
 ·exact⟨congrArg V.bytes (bf2 t (congrArg Int.ofNat (Nat.le_antisymm p (ige h2)))),rfl⟩
noncomputable def aS6:Ns:=(.cons (.asg 0 (.call 10 (.cons (.loc 0) .nil))) (.cons (.ite (.cmp .Eq (.slc (.loc 0) .no (.cons (.int 1) .nil)) (.byt [61])) (.cons (.ret (.slc (.loc 0) (.cons (.int 1) .nil) (.cons (.loc 1) .nil))) .nil) .nil) (.cons (.ite (.cmp .Eq (.slc (.loc 0) .no (.cons (.int 1) .nil)) (.byt [64])) (.cons (.as2 [3,2] (.cons (.bi 2 (.cons (.bin .Sub (.loc 1) (.int 8)) (.cons (.int 0) .nil))) (.cons (.slc (.loc 0) (.cons (.int 1) .nil) .no) .nil))) (.cons (.ret (.ife (.cmp .Gt (.bi 0 (.cons (.loc 3) .nil)) (.loc 2)) (.bin .Add (.byt [46,46,46]) (.slc (.loc 3) (.cons (.bin .Sub (.bi 0 (.cons (.loc 3) .nil)) (.loc 2)) .nil) .no)) (.loc 3))) .nil)) .nil) (.cons (.as2 [2,4] (.cons (.call 11 (.cons (.loc 0) .nil)) (.cons (.bi 2 (.cons (.bin .Sub (.loc 1) (.int 17)) (.cons (.int 0) .nil))) .nil))) (.cons (.ite (.cmp .Gt (.bi 0 (.cons (.loc 4) .nil)) (.loc 2)) (.cons (.asg 4 (.slc (.loc 4) .no (.cons (.loc 2) .nil))) .nil) .nil) (.cons (.ite (.cmp .Lt (.bi 0 (.cons (.loc 4) .nil)) (.bi 0 (.cons (.loc 0) .nil))) (.cons (.asg 4 (.bin .Add (.loc 4) (.byt [46,46,46]))) .nil) .nil) (.cons (.ret (.bin .Add (.bin .Add (.byt [91,115,116,114,105,110,103,32,34]) (.loc 4)) (.byt [34,93]))) .nil)))))))
theorem bD1(L ψ outer lx):w8 (t9 bt1 aW0 180 L ψ outer lx 465).env aW0 aS6 bv1=true:=by kernel_rfl
theorem U3:Cs X 4 (.ref 180) 0 [.bytes [61,113], .int 80] none (λv m=>v= .bytes [113]/\m=none) v4:=by
 refine Cs.scF (n:=1) (cv5 _) aS6 bD1 rfl ?_
 refine(Cs.det (ag2 (t:=[61,113]) (by decide) (by decide)) (by lia) nR ⟨?_,⟨λh1=>⟨?_,⟨rfl, ?_⟩⟩,λh1=>(cX9 ?_)⟩⟩)
 ·exact d5
 ·exact d5
 ·exact⟨congrArg V.bytes (by decide+kernel),rfl⟩
 ·exact absurd h1 (by decide+kernel)
theorem am0:Cs X 4 (.ref 180) 0 [.bytes [64,113], .int 80] none (λv m=>v= .bytes [113]/\m=none) v4:=by
 refine Cs.scF (n:=1) (cv5 _) aS6 bD1 rfl ?_
 refine(Cs.det (ag2 (t:=[64,113]) (by decide) (by decide)) (by lia) nR ⟨?_,⟨λh3=>(cX9 ?_),λh3=>⟨?_,⟨λh2=>⟨?_,⟨rfl,⟨?_,⟨λh1=>(cX9 ?_),λh1=>⟨rfl, ?_⟩⟩⟩⟩⟩,λh2=>(cX9 ?_)⟩⟩⟩⟩)
 ·exact d5
 ·exact absurd h3 (by decide+kernel)
 ·exact d5
 ·exact d5
 ·exact d5
 ·exact absurd h1 (by decide+kernel)
 ·exact⟨congrArg V.bytes (by decide+kernel),rfl⟩
 ·exact absurd h2 (by decide+kernel)
end
section
variable {X:Cx}
theorem bg3{P:UInt8->Bool}(h:((List.range 256).all λn=>P (UInt8.ofNat n))=true)(c:UInt8):P c=true:=by
 have:=cZ3.mp h c.toNat (List.mem_range.mpr c.toNat_lt)
 rwa[show UInt8.ofNat c.toNat=c by simp]at this
noncomputable def R3(c:UInt8):V:=match escTab.lookup c with|none=> .none|some d=> .int d.toNat
noncomputable def bO0(c:UInt8):Bool:=match escTab.lookup c with
 |none=>decide (H4 [97,98,102,110,114,116,118] [c]< 0)
 |some d=> !decide (H4 [97,98,102,110,114,116,118] [c]< 0) &&decide (H4 [97,98,102,110,114,116,118] [c]< 7) && (([7,8,12,10,13,9,11]:Bs).getD (H4 [97,98,102,110,114,116,118] [c]).toNat 0==d)
theorem bt0(c:UInt8):bO0 c=true:=bg3 (by decide+kernel) c
theorem cv8{c:UInt8}(h:decide (H4 [97,98,102,110,114,116,118] [c]< 0)=true):V.none=R3 c:=by
 have k:=bt0 c
 unfold bO0 at k
 unfold R3
 cases e:escTab.lookup c with
 |none=>rfl
 |some d=>rw[e]at k;have k:=a1 (a1 k);rw[h]at k;exact cV2 k
theorem bE8{c:UInt8}(h:decide (H4 [97,98,102,110,114,116,118] [c]< 0)=false):H4 [97,98,102,110,114,116,118] [c]< 7/\V.int (([7,8,12,10,13,9,11]:Bs).getD (H4 [97,98,102,110,114,116,118] [c]).toNat 0).toNat=R3 c:=by
 have k:=bt0 c
 unfold bO0 at k
 unfold R3
 cases e:escTab.lookup c with
 |none=>rw[e]at k;have k:decide _=true:=k;rw[h]at k;exact cV2 k
 |some d=>rw[e]at k;exact⟨of_decide_eq_true (a2 (a1 k)),by rw[beq_iff_eq.mp (a2 k)]⟩
noncomputable def bu2:Ns:=(.cons (.asg 1 (.vm 0 (.byt [97,98,102,110,114,116,118]) (.tyb (.cons (.lst (.cons (.loc 0) .nil)) .nil)))) (.cons (.ret (.ife (.cmp .Lt (.loc 1) (.int 0)) .non (.sub (.byt [7,8,12,10,13,9,11]) (.loc 1)))) .nil))
theorem cn6(L ψ outer lx):w8 (t9 bs1 aP6 231 L ψ outer lx 465).env aP6 bu2 bx0=true:=by kernel_rfl
theorem Z6{s:Int}(h0:0<=s)(h1:s < 256):Cs X 3 (.ref 231) 0 [.int s] none (λv m=>v=R3 s.toNat.toUInt8/\m=none) v4:=by
 refine Cs.scF (n:=0) (cJ6 _) bu2 cn6 rfl ?_
 refine⟨d5,⟨?_,⟨?_,⟨λh1=>⟨rfl, ?_⟩,λh1=>⟨?_,⟨rfl, ?_⟩⟩⟩⟩⟩⟩
 ·exact⟨rfl,λi hi=>by obtain rfl:i=s:=cW0.mp hi;exact⟨h0,h1⟩,d5⟩
 ·exact(by decide:1<=7)
 ·exact⟨cv8 (c:=s.toNat.toUInt8) h1,rfl⟩
 ·exact⟨d5,Int.not_lt.mp (of_decide_eq_false h1),(bE8 (c:=s.toNat.toUInt8) h1).1⟩
 ·exact⟨(bE8 (c:=s.toNat.toUInt8) h1).2,rfl⟩
section
variable {r:Bs} {l:Int} {b:Bs}
theorem cJ7(h:(b9 r== -1)=true):n5 r l b= .ok () r l b:=if_pos h
theorem cI6(h:(b9 r== -1)=false)(h':b8 (b9 r)=true):n5 r l b= .ok () (endLine r) (l+1) (b++[10]):=by unfold n5;rw[if_neg (nb h),if_pos h']
theorem cu4(h:(b9 r== -1)=false)(h':b8 (b9 r)=false)(h2:d8 (b9 r)=true):n5 r l b=aH8 r l b:=by unfold n5;rw[if_neg (nb h),if_neg (nb h'),if_pos h2];rfl
theorem cM8(h:(b9 r== -1)=false)(h':b8 (b9 r)=false)(h2:d8 (b9 r)=false):n5 r l b= .ok () r.tail l (b++[esc (hd r)]):=by unfold n5;rw[if_neg (nb h),if_neg (nb h'),if_neg (nb h2)]
theorem bS1{c:UInt8}(h:isNone (R3 c)=true):esc c=c:=by
 unfold R3 at h;unfold esc
 cases e:escTab.lookup c with
 |none=>rfl
 |some d=>rw[e]at h;exact cV2 h
theorem bY1{c:UInt8}(h:isNone (R3 c)=false):R3 c= .int (esc c).toNat:=by
 unfold R3 at h⊢;unfold esc
 cases e:escTab.lookup c with
 |none=>rw[e]at h;exact cV2 h
 |some d=>rfl
end
noncomputable def bJ3:Ns:=(.cons (.ite (.cmp .Eq (.fld 0 6) (.gi 0)) (.cons .ret0 .nil) .nil) (.cons (.ite (.cons (.call 18 (.cons (.fld 0 6) .nil)) .nil) (.cons (.ex (.meth 0 6 (.cons (.gi 15) .nil))) (.cons (.ex (.meth 0 10 .nil)) (.cons .ret0 .nil))) .nil) (.cons (.ite (.cons (.call 13 (.cons (.fld 0 6) .nil)) .nil) (.cons (.ex (.meth 0 25 .nil)) (.cons .ret0 .nil)) .nil) (.cons (.asg 1 (.call 19 (.cons (.fld 0 6) .nil))) (.cons (.ex (.meth 0 6 (.cons (.ife (.cmp .Is (.loc 1) .non) (.fld 0 6) (.loc 1)) .nil))) (.cons (.ex (.meth 0 5 .nil)) .nil))))))
theorem cG4(L ψ outer lx):w8 (t9 bx9 aZ2 455 L ψ outer lx 465).env aZ2 bJ3 bB6=true:=by kernel_rfl
noncomputable def aY8:Ns:=(.cons (.asg 1 (.call 19 (.cons (.fld 0 6) .nil))) (.cons (.ex (.meth 0 6 (.cons (.ife (.cmp .Is (.loc 1) .non) (.fld 0 6) (.loc 1)) .nil))) (.cons (.ex (.meth 0 5 .nil)) .nil)))
theorem cj7{σ:LxS}{e:UInt8}(o:σ.Ok)(hn:b9 σ.rest≠ -1)(he:R3 (b9 σ.rest).toNat.toUInt8= .none)(h:e=hd σ.rest){R:Bs->Prop}{res:Res Unit}(hr:res= .ok () σ.rest.tail σ.line (σ.buf++[e])):A6 X 8 R aY8 (G7 σ [.un]) (Pst (some σ.fs) λv m=>∃a r l b,res= .ok a r l b/\v=U a/\m=some (σ.w r l b).fs):=by
 refine(Cs.det (he▸Z6 (W4 (A9 hn)) (aj0 _)) (by decide) nR ⟨λh1=>(Lx.sure (G5 ?_ ?_ ?_) (by decide) ⟨d7 _,(Lx.sure (r9 ?_ ?_ ?_) (by decide) ⟨d7 _,⟨rfl, ?_⟩⟩)⟩),λh1=>(cX9 ?_)⟩)
 ·exact o.wk.small
 ·exact W4 (A9 hn)
 ·exact aj0 _
 ·exact o.suf
 ·exact o.few
 ·exact hn
 ·rw[h, ←at1 (A9 hn)]at hr;exact⟨(),_,_,_,hr,rfl,rfl⟩
 ·exact cV2 h1
theorem cG2{σ:LxS}{e:UInt8}(o:σ.Ok)(hn:b9 σ.rest≠ -1)(he:R3 (b9 σ.rest).toNat.toUInt8= .int e.toNat){R:Bs->Prop}{res:Res Unit}(hr:res= .ok () σ.rest.tail σ.line (σ.buf++[e])):A6 X 8 R aY8 (G7 σ [.un]) (Pst (some σ.fs) λv m=>∃a r l b,res= .ok a r l b/\v=U a/\m=some (σ.w r l b).fs):=by
 refine(Cs.det (he▸Z6 (W4 (A9 hn)) (aj0 _)) (by decide) nR ⟨λh1=>(cX9 ?_),λh1=>(Lx.sure (G5 ?_ ?_ ?_) (by decide) ⟨d7 _,(Lx.sure (r9 ?_ ?_ ?_) (by decide) ⟨d7 _,⟨rfl, ?_⟩⟩)⟩)⟩)
 ·exact cV2 h1
 ·exact o.wk.small
 ·exact(aB1 _).1
 ·exact(aB1 _).2
 ·exact o.suf
 ·exact o.few
 ·exact hn
 ·rw[←u8 e, ←Int.toNat_natCast e.toNat]at hr;exact⟨(),_,_,_,hr,rfl,rfl⟩
theorem bk5{σ:LxS}(o:σ.Ok)(hn:b9 σ.rest≠ -1){R:Bs->Prop}{res:Res Unit}(hr:res= .ok () σ.rest.tail σ.line (σ.buf++[esc (hd σ.rest)])):A6 X 8 R aY8 (G7 σ [.un]) (Pst (some σ.fs) λv m=>∃a r l b,res= .ok a r l b/\v=U a/\m=some (σ.w r l b).fs):=by
 have e:=at1 (A9 hn)
 cases h:isNone (R3 (hd σ.rest))with
 |true=>
  refine cj7 o hn ?_ (bS1 h) hr
  rw[e]
  revert h
  cases R3 (hd σ.rest)<;>first|(intro;rfl)|(intro h;exact cV2 h)
 |false=>exact cG2 o hn (by rw[e];exact bY1 h) hr
theorem W7{σ:LxS}(o:σ.Ok)(hc:σ.chunk.length<=1000):Lx X 9 455 [] σ U (n5 σ.rest σ.line σ.buf):=by
 refine Cs.scM (n:=6) (cM0 _) bJ3 cG4 rfl ?_
 refine⟨λh3=>⟨rfl, ?_⟩,λh3=>(Cs.det r6 (by decide) nR ⟨λh2=>(Lx.sure (G5 ?_ ?_ ?_) (by decide) ⟨d7 _,(Lx.sure (D9 ?_ ?_ ?_ ?_) (by decide) ⟨d7 _,⟨rfl, ?_⟩⟩)⟩),λh2=>(Cs.det x5 (by decide) nR ⟨λh1=>(Lx.use (ac0 o hc) (by decide) ?_ (λa r l b e=>⟨d7 _,⟨rfl, ?_⟩⟩)),λh1=>(bk5 o (H7 h3) (cM8 h3 h2 h1))⟩)⟩)⟩
 ·exact⟨(),_,_,_,cJ7 h3,rfl,rfl⟩
 ·exact o.wk.small
 ·exact(by decide:(0:Int)<=10)
 ·exact(by decide:(10:Int)< 256)
 ·exact o.suf
 ·exact o.few
 ·exact H7 h3
 ·exact(aC6 o:σ.line<=20000)
 ·exact⟨(),_,_,_,cI6 h3 h2,rfl,rfl⟩
 ·exact λl w nr e=>⟨_,_,_,(cu4 h3 h2 h1).trans e,rfl⟩
 ·exact⟨(),_,_,_,(cu4 h3 h2 h1).trans e,rfl,rfl⟩
end
section
variable {X:Cx}
theorem cC3{σ:LxS}(o:σ.Ok):σ.buf.length<=5000:=by have:=o.room;have:=o.few;lia
noncomputable abbrev StI:=Bs×Int×Bs
noncomputable abbrev stS(σ:LxS)(q:Int)(i:StI):St:=G7 (σ.w i.1 i.2.1 i.2.2) [.val (.int q)]
structure StP(σ:LxS)(q:Int)(i:StI):Prop where
 ok:(σ.w i.1 i.2.1 i.2.2).Ok
 eq:∃f,i.1.length < f+1/\j9 q (f+1) i.1 i.2.1 i.2.2=j9 q (σ.rest.tail.length+1) σ.rest.tail σ.line (σ.buf++[hd σ.rest])
theorem bE9{σ:LxS}{q:Int}{i:StI}{r:Bs}{l:Int}{b:Bs}(p:StP σ q i)(k:Le i.1 i.2.1 i.2.2 r l b)(hl:r.length < i.1.length)(h:∀f,j9 q (f+1) i.1 i.2.1 i.2.2=j9 q f r l b):StP σ q (r,l,b):=by
 obtain⟨f,h1,h2⟩:=p.eq
 cases f with
 |zero=>lia
 |succ f=>exact⟨p.ok.le k,f,by show r.length < f+1;lia,by rw[←h2];exact(h _).symm⟩
theorem as8{q:Int}{σ:LxS}{l:Int}{w n:Bs}(e:j9 q (σ.rest.tail.length+1) σ.rest.tail σ.line (σ.buf++[hd σ.rest])= .err l w n):l6 q σ.rest σ.line σ.buf= .err l w n:=by unfold l6;rw[e]
theorem cs2{q:Int}{σ:LxS}{a:Unit}{r:Bs}{l:Int}{b:Bs}(e:j9 q (σ.rest.tail.length+1) σ.rest.tail σ.line (σ.buf++[hd σ.rest])= .ok a r l b):l6 q σ.rest σ.line σ.buf= .ok (286, .bytes (F2 b (some 1) (some ((b.length:Int) - 1)))) r l b:=by unfold l6;rw[e]
section
variable {σ:LxS} {q:Int} {i:StI} (p:StP σ q i)
include p
theorem ce2(h:(!(b9 i.1==q))=false):l6 q σ.rest σ.line σ.buf= .ok (286, .bytes (F2 (i.2.2++[hd i.1]) (some 1) (some (((i.2.2++[hd i.1]).length:Int) - 1)))) i.1.tail i.2.1 (i.2.2++[hd i.1]):=by
 obtain⟨f,_,h2⟩:=p.eq
 exact cs2 (a:=()) (h2.symm.trans (by rw[j9,if_pos (nf1 h)]))
theorem cC7(h:(!(b9 i.1==q))=true)(h1:(b9 i.1== -1)=true):l6 q σ.rest σ.line σ.buf= .err i.2.1 (bs "unfinished string") (bs "<eof>"):=by
 obtain⟨f,_,h2⟩:=p.eq
 exact as8 (h2.symm.trans (by rw[j9,if_neg (nb (nt1 h)),if_pos h1]))
theorem cx1(h:(!(b9 i.1==q))=true)(h1:(b9 i.1== -1)=false)(h3:b8 (b9 i.1)=true):l6 q σ.rest σ.line σ.buf= .err i.2.1 (bs "unfinished string") i.2.2:=by
 obtain⟨f,_,h2⟩:=p.eq
 exact as8 (h2.symm.trans (by rw[j9,if_neg (nb (nt1 h)),if_neg (nb h1),if_pos h3]))
theorem cq7(h:(!(b9 i.1==q))=true)(h1:(b9 i.1== -1)=false)(h3:b8 (b9 i.1)=false)(h4:(b9 i.1==92)=true){l w n}(e:n5 i.1.tail i.2.1 i.2.2= .err l w n):l6 q σ.rest σ.line σ.buf= .err l w n:=by
 obtain⟨f,_,h2⟩:=p.eq
 exact as8 (h2.symm.trans (by rw[j9,if_neg (nb (nt1 h)),if_neg (nb h1),if_neg (nb h3),if_pos h4,e]))
theorem bN7(h:(!(b9 i.1==q))=true)(h1:(b9 i.1== -1)=false)(h3:b8 (b9 i.1)=false)(h4:(b9 i.1==92)=true){a r l b}(e:n5 i.1.tail i.2.1 i.2.2= .ok a r l b):r.length < i.1.length/\StP σ q (r,l,b):=by
 have k:=aH3 e
 have hl:r.length < i.1.length:=by have:=k.suf.length_le;have:=j7 (H7 h1);lia
 exact⟨hl,bE9 p ((q8 _ _ _).trans k) hl λf=>by rw[j9,if_neg (nb (nt1 h)),if_neg (nb h1),if_neg (nb h3),if_pos h4,e]⟩
theorem cj6(h:(!(b9 i.1==q))=true)(h1:(b9 i.1== -1)=false)(h3:b8 (b9 i.1)=false)(h4:(b9 i.1==92)=false):StP σ q (i.1.tail,i.2.1,i.2.2++[hd i.1]):=
 bE9 p (f8 (H7 h1)) (by have:=j7 (H7 h1);lia) λf=>by rw[j9,if_neg (nb (nt1 h)),if_neg (nb h1),if_neg (nb h3),if_neg (nb h4)]
end
noncomputable def bJ4:Ns:=(.cons (.ex (.meth 0 7 .nil)) (.cons (.whl (.cmp .NotEq (.fld 0 6) (.loc 1)) (.cons (.ite (.cmp .Eq (.fld 0 6) (.gi 0)) (.cons (.ex (.meth 0 2 (.cons (.byt [117,110,102,105,110,105,115,104,101,100,32,115,116,114,105,110,103]) (.cons (.gi 12) .nil)))) .nil) (.cons (.ite (.cons (.call 18 (.cons (.fld 0 6) .nil)) .nil) (.cons (.ex (.meth 0 2 (.cons (.byt [117,110,102,105,110,105,115,104,101,100,32,115,116,114,105,110,103]) (.cons (.gi 11) .nil)))) .nil) (.cons (.ite (.cmp .Eq (.fld 0 6) (.gi 26)) (.cons (.ex (.meth 0 5 .nil)) (.cons (.ex (.meth 0 24 .nil)) .nil)) (.cons (.ex (.meth 0 7 .nil)) .nil)) .nil)) .nil)) .nil)) (.cons (.ex (.meth 0 7 .nil)) (.cons (.ret (.call 22 (.cons (.gi 11) (.cons (.bytc (some (.int 1)) (some (.sub .len (.int 1)))) .nil)))) .nil))))
theorem cy5(L ψ outer lx):w8 (t9 bt4 aT4 448 L ψ outer lx 465).env aT4 bJ4 bt7=true:=by kernel_rfl
theorem aa3{σ:LxS}(o:σ.Ok)(hn:b9 σ.rest≠ -1)(hc:σ.chunk.length<=1000){q:Int}(hq:q≠ -1):Lx X 10 448 [.int q] σ x6 (l6 q σ.rest σ.line σ.buf):=by
 refine Cs.scM (n:=7) (cS3 _) bJ4 cy5 rfl ?_
 refine(Lx.sure (e8 ?_ ?_) (by decide) ⟨d7 _,(w7 (stS σ q) (StP σ q) (λi=>i.1.length) (σ.rest.tail,σ.line,σ.buf++[hd σ.rest]) rfl ⟨o.le (f8 hn),_,cZ9 _,rfl⟩ (λi p=>⟨λh4=>⟨λh3=>(Lx.fails (z0 (E0 G1 rfl) ?_ ?_) (by decide) ?_),λh3=>(Cs.det r6 (by decide) nR ⟨λh2=>(Lx.fails (z0 (B7 ?_ rfl) ?_ ?_) (by decide) ?_),λh2=>⟨λh1=>(Lx.sure (r9 p.ok.suf p.ok.few ?_) (by decide) ⟨d7 _,(Lx.use (W7 (σ:=σ.w _ _ _) (p.ok.le (q8 _ _ _)) hc) (by decide) ?_ (λa r l b e=>⟨d7 _,⟨_, ?_,(r,l,b),rfl, ?_,rfl⟩⟩))⟩),λh1=>(Lx.sure (e8 ?_ ?_) (by decide) ⟨d7 _,⟨_, ?_,(i.1.tail,i.2.1,i.2.2++[hd i.1]),rfl, ?_,rfl⟩⟩)⟩⟩)⟩,λh4=>(Lx.sure (e8 ?_ ?_) (by decide) ⟨d7 _,⟨?_,⟨?_,(Cs.det n6 (by decide) nR ⟨rfl, ?_⟩)⟩⟩⟩)⟩))⟩)
 ·exact o.wk
 ·exact hn
 ·exact p.ok.ln
 ·exact sz3 hc (by decide) (by decide)
 ·exact⟨_,_,_,cC7 p h4 h3,rfl⟩
 ·exact z4 p.ok
 ·exact p.ok.ln
 ·exact sz5 hc (by decide) (cC3 p.ok)
 ·exact⟨_,_,_,cx1 p h4 h3 h2,rfl⟩
 ·exact H7 h3
 ·exact λl w nr e=>⟨_,_,_,cq7 p h4 h3 h2 h1 e,rfl⟩
 ·exact(bN7 p h4 h3 h2 h1 e).1
 ·exact(bN7 p h4 h3 h2 h1 e).2
 ·exact p.ok.wk
 ·exact H7 h3
 ·have:=j7 (r:=i.1) (H7 h3);show i.1.tail.length < i.1.length;lia
 ·exact cj6 p h4 h3 h2 h1
 ·exact p.ok.wk
 ·exact λe=>hq ((beq_iff_eq.mp (nf1 h4)).symm.trans e)
 ·exact z4 (p.ok.le (f8 (λe=>hq ((beq_iff_eq.mp (nf1 h4)).symm.trans e))))
 ·exact z4 (p.ok.le (f8 (λe=>hq ((beq_iff_eq.mp (nf1 h4)).symm.trans e))))
 ·exact⟨(_,_),_,_,_,ce2 p h4,rfl,rfl⟩
end
section
variable {X:Cx}
theorem bA0{p:Int->Bool}{r:Bs}(hp:p (-1)=false)(h:p (b9 r)=true):tw p r=hd r::tw p r.tail/\dw p r=dw p r.tail:=by
 cases r with
 |nil=>exact cV2 (hp.symm.trans h)
 |cons c t=>exact⟨if_pos h,if_pos h⟩
theorem bR1{p:Int->Bool}{r:Bs}(h:p (b9 r)=false):tw p r=[]/\dw p r=r:=by
 cases r with
 |nil=>exact⟨rfl,rfl⟩
 |cons c t=>exact⟨if_neg (nb h),if_neg (nb h)⟩
structure TwP(σ:LxS)(p:Int->Bool)(r0 b0:Bs)(i:Bs×Bs):Prop where
 ok:(σ.w i.1 σ.line i.2).Ok
 d:dw p i.1=dw p r0
 b:i.2++tw p i.1=b0++tw p r0
theorem TwP.ini{σ:LxS}{p r0 b0}(o:(σ.w r0 σ.line b0).Ok):TwP σ p r0 b0 (r0,b0):=⟨o,rfl,rfl⟩
theorem bO7{p:Int->Bool}{r:Bs}(hp:p (-1)=false)(h:p (b9 r)=true):b9 r≠ -1:=λe=>by rw[e,hp]at h;exact cV2 h
theorem TwP.go{σ:LxS}{p r0 b0}{i:Bs×Bs}(hp:p (-1)=false)(q:TwP σ p r0 b0 i)(h:p (b9 i.1)=true):i.1.tail.length < i.1.length/\TwP σ p r0 b0 (i.1.tail,i.2++[hd i.1]):=by
 obtain⟨h1,h2⟩:=bA0 hp h
 have hn:=bO7 hp h
 refine⟨by have:=j7 hn;lia,q.ok.le (f8 hn),by simp only[←q.d,h2], ?_⟩
 simp only[←q.b,h1];simp
theorem TwP.fin{σ:LxS}{p r0 b0}{i:Bs×Bs}(q:TwP σ p r0 b0 i)(h:p (b9 i.1)=false):i.1=dw p r0/\i.2=b0++tw p r0:=by
 obtain⟨h1,h2⟩:=bR1 h
 exact⟨by simp only[←q.d,h2],by simp only[←q.b,h1,cZ4]⟩
theorem ns0:c8 (-1)=false:=by decide
theorem nu0:g9 (-1)=false:=by decide
structure cy7(t:Bs):Prop where
 few:t.length<=5000
 bl:∀c∈t,blk c=false
 sg:A7 (b9 t)=false
noncomputable def aa8(T r:Bs)(l:Int):Res Tk:=match m5 T with
 |none=> .err l (bs "malformed number") T
 |some v=> .ok (284, .int v) r l T
theorem cS4{T r:Bs}{l:Int}(h:isNone (C5 (m5 T))=true):aa8 T r l= .err l (bs "malformed number") T:=by
 unfold aa8
 cases e:m5 T with
 |none=>rfl
 |some v=>rw[e]at h;exact cV2 h
theorem cS8{T r:Bs}{l:Int}(h:isNone (C5 (m5 T))=false):∃v,aa8 T r l= .ok (284, .int v) r l T/\C5 (m5 T)= .int v:=by
 unfold aa8
 cases e:m5 T with
 |none=>rw[e]at h;exact cV2 h
 |some v=>exact⟨v,rfl,rfl⟩
noncomputable def bL8:Ns:=(.cons (.whl (.tany (.cons (.cons (.call 13 (.cons (.fld 0 6) .nil)) .nil) (.cons (.cmp .Eq (.fld 0 6) (.gi 21)) .nil))) (.cons (.ex (.meth 0 7 .nil)) .nil)) (.cons (.ite (.cons (.meth 0 8 (.cons (.tup (.cons (.int 69) (.cons (.int 101) .nil))) .nil)) .nil) (.cons (.ex (.meth 0 8 (.cons (.tup (.cons (.gi 19) (.cons (.gi 20) .nil))) .nil))) .nil) .nil) (.cons (.whl (.cons (.call 15 (.cons (.fld 0 6) .nil)) .nil) (.cons (.ex (.meth 0 7 .nil)) .nil)) (.cons (.asg 1 (.call 6 (.cons .bytb (.cons (.fld 0 3) .nil)))) (.cons (.ite (.cmp .Is (.loc 1) .non) (.cons (.ex (.meth 0 2 (.cons (.byt [109,97,108,102,111,114,109,101,100,32,110,117,109,98,101,114]) (.cons (.gi 9) .nil)))) .nil) .nil) (.cons (.ret (.call 22 (.cons (.gi 9) (.cons (.loc 1) .nil)))) .nil))))))
theorem cC2(L ψ outer lx):w8 (t9 bN9 aW6 413 L ψ outer lx 465).env aW6 bL8 bE0=true:=by kernel_rfl
noncomputable def bw9:Ns:=(.cons (.whl (.cons (.call 15 (.cons (.fld 0 6) .nil)) .nil) (.cons (.ex (.meth 0 7 .nil)) .nil)) (.cons (.asg 1 (.call 6 (.cons .bytb (.cons (.fld 0 3) .nil)))) (.cons (.ite (.cmp .Is (.loc 1) .non) (.cons (.ex (.meth 0 2 (.cons (.byt [109,97,108,102,111,114,109,101,100,32,110,117,109,98,101,114]) (.cons (.gi 9) .nil)))) .nil) .nil) (.cons (.ret (.call 22 (.cons (.gi 9) (.cons (.loc 1) .nil)))) .nil))))
theorem aP7{σ:LxS}{r0 b0:Bs}(o:(σ.w r0 σ.line b0).Ok)(hc:σ.chunk.length<=1000)(ht:cy7 (b0++tw c8 r0)){res:Res Tk}(hr:res=aa8 (b0++tw c8 r0) (dw c8 r0) σ.line):A6 X 8 (λmsg=>∃l w nr,res= .err l w nr/\msg=u3 σ.chunk l w nr) bw9 (G7 (σ.w r0 σ.line b0) [.un]) (Pst (some σ.fs) λv m=>∃a r l b,res= .ok a r l b/\v=x6 a/\m=some (σ.w r l b).fs):=by
 refine(w7 (λi:Bs×Bs=>G7 (σ.w i.1 σ.line i.2) [.un]) (TwP σ c8 r0 b0) (λi=>i.1.length) (r0,b0) rfl (TwP.ini o) (λi p=>(Cs.det G9 (by decide) nR ⟨λh3=>(Lx.sure (e8 p.ok.wk ?_) (by decide) ⟨d7 _,⟨_,(TwP.go ns0 p ?_).1,(i.1.tail,i.2++[hd i.1]),rfl,(TwP.go ns0 p ?_).2,rfl⟩⟩),λh3=>⟨?_,(Cs.det (T6 ?_ ?_ ?_) (by decide) nR ⟨λh2=>(Lx.fails (z0 (B7 ?_ rfl) ?_ ?_) (by decide) ?_),λh2=>(Cs.det n6 (by decide) nR ⟨rfl, ?_⟩)⟩)⟩⟩)))
 ·exact bO7 ns0 h3
 ·exact h3
 ·exact h3
 ·exact z4 p.ok
 ·have e:=p.fin h3;rw[←e.2]at ht;exact ht.few
 ·have e:=p.fin h3;rw[←e.2]at ht;exact ht.bl
 ·have e:=p.fin h3;rw[←e.2]at ht;exact ht.sg
 ·exact z4 p.ok
 ·exact p.ok.ln
 ·exact sz5 hc (by decide) (cC3 p.ok)
 ·have e:=p.fin h3;rw[←e.2]at hr;exact⟨_,_,_,hr.trans (cS4 h2),rfl⟩
 ·have e:=p.fin h3;rw[←e.2, ←e.1]at hr;obtain⟨v,e1,e2⟩:=cS8 (r:=i.1) (l:=σ.line) h2;exact⟨(284, .int v),_,_,_,hr.trans e1,congrArg (aV5 284) e2,rfl⟩
set_option tactic.hygienic true in
theorem ax6{p:Int->Bool}:∀ {r:Bs} {c:UInt8},c∈tw p r->p c.toNat=true
 | [],_,h=>by exact nomatch h
 |d::t,c,h=>by
  unfold tw at h
  split at h
  ·rename_i q
   rcases cY1.mp h with rfl|h
   ·exact q
   ·exact ax6 h
  ·exact nomatch h
set_option tactic.hygienic true in
theorem ag4{l:List V}{r:Bs}{ln:Int}{b:Bs}{a:Bool}{r':Bs}{l':Int}{b':Bs}(e:A8 l r ln b= .ok a r' l' b'):l'=ln/\((a=true/\(i5 l).contains (b9 r)=true/\r'=r.tail/\b'=b++[hd r])∨(a=false/\(i5 l).contains (b9 r)=false/\r'=r/\b'=b)):=by
 unfold A8 at e
 split at e
 ·rename_i q;cases e;exact⟨rfl, .inl ⟨rfl,q,rfl,rfl⟩⟩
 ·rename_i q;cases e;exact⟨rfl, .inr ⟨rfl,Bool.eq_false_iff.mpr q,rfl,rfl⟩⟩
theorem aB4{l:List V}{r:Bs}{ln:Int}{b:Bs}{l':Int}{w n:Bs}(e:A8 l r ln b= .err l' w n):False:=by
 unfold A8 at e
 split at e<;>exact nomatch e
theorem aS1{l:List V}{r:Bs}{ln:Int}{b:Bs}{a:Bool}{r':Bs}{l':Int}{b':Bs}(hz:(i5 l).contains (-1)=false)(e:A8 l r ln b= .ok a r' l' b'):Le r ln b r' l' b':=by
 obtain⟨rfl,⟨_,h1,rfl,rfl⟩|⟨_,h1,rfl,rfl⟩⟩:=ag4 e
 ·exact f8 (U4 hz h1)
 ·exact Le.refl _ _ _
theorem cB4(s:Int):(i5 [.int 69, .int 101]).contains s=isE s:=by show(s==69|| (s==101||false))=_;rw[df0];rfl
theorem bz0(s:Int):(i5 [.int 43, .int 45]).contains s=A7 s:=by show(s==43|| (s==45||false))=_;rw[df0];rfl
theorem cE3{r b:Bs}{l:Int}{r' b':Bs}{l':Int}{a:Bool}{r2 b2:Bs}{l2:Int}(e1:A8 [.int 69, .int 101] r l b= .ok true r' l' b')(e2:A8 [.int 43, .int 45] r' l' b'= .ok a r2 l2 b2):m9 r b=(r2,b2)/\l2=l:=by
 obtain⟨rfl,⟨_,h1,rfl,rfl⟩|⟨h,_⟩⟩:=ag4 e1
 ·rw[cB4]at h1
  unfold m9
  rw[if_pos h1]
  obtain⟨rfl,⟨_,h2,rfl,rfl⟩|⟨_,h2,rfl,rfl⟩⟩:=ag4 e2
  ·rw[bz0]at h2;rw[if_pos h2];exact⟨rfl,rfl⟩
  ·rw[bz0]at h2;rw[if_neg (nb h2)];exact⟨rfl,rfl⟩
 ·exact cV2 h
theorem cA3{r b:Bs}{l:Int}{r' b':Bs}{l':Int}(e1:A8 [.int 69, .int 101] r l b= .ok false r' l' b'):m9 r b=(r',b')/\l'=l:=by
 obtain⟨rfl,⟨h,_⟩|⟨_,h1,rfl,rfl⟩⟩:=ag4 e1
 ·exact cV2 h
 ·rw[cB4]at h1
  unfold m9
  rw[if_neg (nb h1)];exact⟨rfl,rfl⟩
theorem aW8{c:UInt8}(h:(c8 c.toNat||g9 c.toNat||A7 c.toNat)=true):blk c=false:=by
 have:=bg3 (P:=λc=> !(c8 c.toNat||g9 c.toNat||A7 c.toNat) || !blk c) (by decide+kernel) c
 rw[h]at this
 simpa using this
theorem ay5{p:Int->Bool}{r:Bs}(hp:p (-1)=false)(h:p (b9 r)=true):p (hd r).toNat=true:=by
 cases r with
 |nil=>exact cV2 (hp.symm.trans h)
 |cons c t=>exact h
set_option tactic.hygienic true in
theorem bk3{r b:Bs}{c:UInt8}(h:c∈ (m9 r b).2):c∈b∨(c8 c.toNat||g9 c.toNat||A7 c.toNat)=true:=by
 have hE:∀s:Int,isE s=true->c8 s=true:=λs h=>by
  unfold isE at h
  rcases db7.mp h with h|h<;>rw[beq_iff_eq.mp h]<;>rfl
 unfold m9 at h
 split at h
 ·rename_i h1
  have g1:=hE _ (ay5 (p:=isE) rfl h1)
  split at h
  ·rename_i h2
   have g2:=ay5 (p:=A7) rfl h2
   rcases dd8.mp h with h|h
   ·rcases dd8.mp h with h|h
    ·exact .inl h
    ·simp only[cW0.mp h,g1];exact .inr rfl
   ·simp only[cW0.mp h,g2];exact .inr (Bool.or_true _)
  ·rcases dd8.mp h with h|h
   ·exact .inl h
   ·simp only[cW0.mp h,g1];exact .inr rfl
 ·exact .inl h
theorem bo5(r b:Bs):∃x,(m9 r b).2=b++x:=by
 unfold m9
 split
 ·split
  ·exact⟨[hd r]++[hd r.tail],by rw[cW6]⟩
  ·exact⟨_,rfl⟩
 ·exact⟨[],(cZ4 b).symm⟩
theorem cl5{σ:LxS}(o:σ.Ok)(hb:σ.buf=[]∨σ.buf=[46])(hd':d8 (b9 σ.rest)=true):cy7 ((m9 (dw g9 σ.rest) (σ.buf++tw g9 σ.rest)).2++tw c8 (m9 (dw g9 σ.rest) (σ.buf++tw g9 σ.rest)).1):=by
 have hn:g9 (b9 σ.rest)=true:=by unfold g9;rw[hd'];rfl
 refine⟨?_,λc hc=> ?_, ?_⟩
 ·have:=(o.le (le_tw.trans (exp_le.trans le_tw):Le _ _ _ (dw c8 (m9 (dw g9 σ.rest) (σ.buf++tw g9 σ.rest)).1) _ ((m9 (dw g9 σ.rest) (σ.buf++tw g9 σ.rest)).2++tw c8 (m9 (dw g9 σ.rest) (σ.buf++tw g9 σ.rest)).1))).room
  have h2:=o.few
  exact cV5 (cV5 (de6 _ _) this) h2
 ·rcases dd8.mp hc with h|h
  ·rcases bk3 h with h|h
   ·rcases dd8.mp h with h|h
    ·rcases hb with e|e<;>rw[e]at h
     ·exact nomatch h
     ·rw[cW0.mp h];rfl
    ·exact aW8 (by simp only[ax6 h,Bool.or_true];rfl)
   ·exact aW8 h
  ·exact aW8 (by rw[ax6 h];rfl)
 ·obtain⟨x,e⟩:=bo5 (dw g9 σ.rest) (σ.buf++tw g9 σ.rest)
  rw[e,(bA0 nu0 hn).1]
  rcases hb with e|e<;>rw[e]
  ·show A7 ((hd σ.rest).toNat:Int)=false
   have:=ae9 (ay5 (p:=d8) rfl hd')
   unfold A7
   rw[dc0]
   exact⟨beq_eq_false_iff_ne.mpr (by lia),beq_eq_false_iff_ne.mpr (by lia)⟩
  ·rfl
theorem aC1{σ:LxS}{i:Bs×Bs}(o:σ.Ok)(hc:σ.chunk.length<=1000)(hb:σ.buf=[]∨σ.buf=[46])(hd':d8 (b9 σ.rest)=true)(q:TwP σ g9 σ.rest σ.buf i)(h:g9 (b9 i.1)=false){r b:Bs}{l:Int}(e:m9 i.1 i.2=(r,b)/\l=σ.line):A6 X 8 (λmsg=>∃l w nr,l9 σ.rest σ.line σ.buf= .err l w nr/\msg=u3 σ.chunk l w nr) bw9 (G7 (σ.w r l b) [.un]) (Pst (some σ.fs) λv m=>∃a r l b,l9 σ.rest σ.line σ.buf= .ok a r l b/\v=x6 a/\m=some (σ.w r l b).fs):=by
 obtain⟨e1,e2⟩:=q.fin h
 obtain⟨e,rfl⟩:=e
 rw[e1,e2]at e
 have t:=cl5 o hb hd'
 have k:=o.le (le_tw.trans exp_le:Le _ _ _ (m9 (dw g9 σ.rest) (σ.buf++tw g9 σ.rest)).1 _ (m9 (dw g9 σ.rest) (σ.buf++tw g9 σ.rest)).2)
 rw[e]at t k
 exact aP7 k hc t (by unfold l9;rw[e];rfl)
theorem H3{σ:LxS}(o:σ.Ok)(hc:σ.chunk.length<=1000)(hb:σ.buf=[]∨σ.buf=[46])(hg:d8 (b9 σ.rest)=true):Lx X 9 413 [] σ x6 (l9 σ.rest σ.line σ.buf):=by
 refine Cs.scM (n:=6) (cH7 _) bL8 cC2 rfl ?_
 refine(w7 (λi:Bs×Bs=>G7 (σ.w i.1 σ.line i.2) [.un]) (TwP σ g9 σ.rest σ.buf) (λi=>i.1.length) (σ.rest,σ.buf) rfl (TwP.ini o) (λi p=>(Cs.det x5 (by decide) nR ⟨λh4=>⟨λH=>(Lx.sure (e8 p.ok.wk ?_) (by decide) ⟨d7 _,⟨_,(TwP.go nu0 p ?_).1,(i.1.tail,i.2++[hd i.1]),rfl,(TwP.go nu0 p ?_).2,rfl⟩⟩),nofun⟩,λh4=>⟨λh3=>⟨λH=>(Lx.sure (e8 p.ok.wk ?_) (by decide) ⟨d7 _,⟨_,(TwP.go nu0 p ?_).1,(i.1.tail,i.2++[hd i.1]),rfl,(TwP.go nu0 p ?_).2,rfl⟩⟩),nofun⟩,λh3=>⟨nofun,λH=>⟨d5,(Lx.use (F9 rfl rfl ?_) (by decide) (λH H H e=>(aB4 e).elim) (λa4 r4 l4 b4 e4=>⟨d7 _,⟨λh2=>⟨d5,(Lx.use (F9 rfl rfl ?_) (by decide) (λH H H e=>(aB4 e).elim) (λa3 r3 l3 b3 e3=>⟨d7 _,(aC1 o hc hb hg p ?_ ?_)⟩))⟩,λh2=>(aC1 o hc hb hg p ?_ ?_)⟩⟩))⟩⟩⟩⟩)))
 ·exact ab9 h4
 ·exact(db7.mpr (.inl h4):(d8 _||_)=true)
 ·exact(db7.mpr (.inl h4):(d8 _||_)=true)
 ·exact C0 h3 (by decide)
 ·exact(db7.mpr (.inr h3):(d8 _||_)=true)
 ·exact(db7.mpr (.inr h3):(d8 _||_)=true)
 ·exact p.ok.wk
 ·exact(p.ok.le (aS1 rfl e4)).wk
 ·exact(dc0.mpr ⟨h4,h3⟩:(d8 _||_)=false)
 ·subst h2;exact cE3 e4 e3
 ·exact(dc0.mpr ⟨h4,h3⟩:(d8 _||_)=false)
 ·subst h2;exact cA3 e4
end
section
variable {X:Cx}
theorem cE2(s:Int):(i5 [.int 46]).contains s=(s==46):=by show(s==46||false)=_;rw[df0]
theorem bX6{r:Bs}{l:Int}{b:Bs}{a:Bool}{r':Bs}{l':Int}{b':Bs}(e:A8 [.int 46] r l b= .ok a r' l' b')(h:a=true):(b9 r==46)=true/\r'=r.tail/\l'=l/\b'=b++[hd r]:=by
 subst h
 obtain⟨rfl,⟨_,h1,rfl,rfl⟩|⟨h,_⟩⟩:=ag4 e
 ·exact⟨(cE2 _).symm.trans h1,rfl,rfl,rfl⟩
 ·exact cV2 h
theorem aR4{r:Bs}{l:Int}{b:Bs}{a:Bool}{r':Bs}{l':Int}{b':Bs}(e:A8 [.int 46] r l b= .ok a r' l' b')(h:a=false):(b9 r==46)=false/\r'=r/\l'=l/\b'=b:=by
 subst h
 obtain⟨rfl,⟨h,_⟩|⟨_,h1,rfl,rfl⟩⟩:=ag4 e
 ·exact cV2 h
 ·exact⟨(cE2 _).symm.trans h1,rfl,rfl,rfl⟩
section
variable {r:Bs} {l:Int} {b:Bs}
theorem cU4(h:(b9 r.tail==46)=true)(h':(b9 r.tail.tail==46)=true):o4 r l b= .ok (279, .none) r.tail.tail.tail l (b++[hd r]++[hd r.tail]++[hd r.tail.tail]):=by unfold o4;rw[if_pos h,if_pos h']
theorem cO8(h:(b9 r.tail==46)=true)(h':(b9 r.tail.tail==46)=false):o4 r l b= .ok (278, .none) r.tail.tail l (b++[hd r]++[hd r.tail]):=by unfold o4;rw[if_pos h,if_neg (nb h')]
theorem cw0(h:(b9 r.tail==46)=false)(h':d8 (b9 r.tail)=true):o4 r l b=l9 r.tail l (b++[hd r]):=by unfold o4;rw[if_neg (nb h),if_pos h']
theorem cU7(h:(b9 r.tail==46)=false)(h':d8 (b9 r.tail)=false):o4 r l b= .ok (46, .none) r.tail l (b++[hd r]):=by unfold o4;rw[if_neg (nb h),if_neg (nb h')]
end
theorem cU9{σ:LxS}(hb:σ.buf=[])(hs:b9 σ.rest=46):σ.buf++[hd σ.rest]=[46]:=by
 cases e:σ.rest with
 |nil=>rw[e]at hs;cases hs
 |cons c t=>
  rw[e]at hs
  have:c.toNat=46:=Int.ofNat.inj hs
  rw[hb,show c=46 from UInt8.toNat_inj.mp this];rfl
noncomputable def bM7:Ns:=(.cons (.ex (.meth 0 7 .nil)) (.cons (.ite (.cons (.meth 0 8 (.cons (.tup (.cons (.gi 21) .nil)) .nil)) .nil) (.cons (.ite (.cons (.meth 0 8 (.cons (.tup (.cons (.gi 21) .nil)) .nil)) .nil) (.cons (.ret (.call 22 (.cons (.gi 4) (.cons .non .nil)))) .nil) .nil) (.cons (.ret (.call 22 (.cons (.gi 3) (.cons .non .nil)))) .nil)) .nil) (.cons (.ite (.cons (.call 13 (.cons (.fld 0 6) .nil)) .nil) (.cons (.ret (.meth 0 18 .nil)) .nil) .nil) (.cons (.ret (.call 22 (.cons (.gi 21) (.cons .non .nil)))) .nil))))
theorem cv6(L ψ outer lx):w8 (t9 bJ5 aM1 399 L ψ outer lx 465).env aM1 bM7 by0=true:=by kernel_rfl
theorem ag8{σ:LxS}(o:σ.Ok)(hc:σ.chunk.length<=1000)(hb:σ.buf=[])(hs:b9 σ.rest=46):Lx X 10 399 [] σ x6 (o4 σ.rest σ.line σ.buf):=by
 have hn:b9 σ.rest≠ -1:=by rw[hs];decide
 refine Cs.scM (n:=7) (cK6 _) bM7 cv6 rfl ?_
 refine(Lx.sure (e8 o.wk hn) (by decide) ⟨d7 _,⟨d5,(Lx.use (F9 rfl rfl ?_) (by decide) (λH H H e=>(aB4 e).elim) (λa2 r2 l2 b2 e2=>⟨d7 _,⟨λh3=>⟨d5,(Lx.use (F9 rfl rfl ?_) (by decide) (λH H H e=>(aB4 e).elim) (λa1 r1 l1 b1 e1=>⟨d7 _,⟨λh2=>(Cs.det n6 (by decide) nR ⟨rfl, ?_⟩),λh2=>(Cs.det n6 (by decide) nR ⟨rfl, ?_⟩)⟩⟩))⟩,λh3=>(Cs.det x5 (by decide) nR ⟨λh1=>(Lx.use (H3 ?_ ?_ ?_ ?_) (by decide) ?_ (λa r l b e=>⟨d7 _,⟨rfl, ?_⟩⟩)),λh1=>(Cs.det n6 (by decide) nR ⟨rfl, ?_⟩)⟩)⟩⟩))⟩⟩)
 ·exact(o.le (f8 hn)).wk
 ·exact((o.le (f8 hn)).le (aS1 rfl e2)).wk
 ·obtain⟨g1,rfl,rfl,rfl⟩:=bX6 e2 h3
  obtain⟨g2,rfl,rfl,rfl⟩:=bX6 e1 h2
  exact⟨(_,_),_,_,_,cU4 g1 g2,rfl,rfl⟩
 ·obtain⟨g1,rfl,rfl,rfl⟩:=bX6 e2 h3
  obtain⟨g2,rfl,rfl,rfl⟩:=aR4 e1 h2
  exact⟨(_,_),_,_,_,cO8 g1 g2,rfl,rfl⟩
 ·exact(o.le (f8 hn)).le (aS1 rfl e2)
 ·exact hc
 ·obtain⟨g1,rfl,rfl,rfl⟩:=aR4 e2 h3;exact .inr (cU9 hb hs)
 ·exact h1
 ·obtain⟨g1,rfl,rfl,rfl⟩:=aR4 e2 h3;exact λl w nr e=>⟨_,_,_,(cw0 g1 h1).trans e,rfl⟩
 ·obtain⟨g1,rfl,rfl,rfl⟩:=aR4 e2 h3;exact⟨_,_,_,_,(cw0 g1 h1).trans e,rfl,rfl⟩
 ·obtain⟨g1,rfl,rfl,rfl⟩:=aR4 e2 h3;exact⟨(_,_),_,_,_,cU7 g1 h1,rfl,rfl⟩
noncomputable def A2:V:= .dic kindTab.reverse
theorem X1:∀ {l:List (Bs×Int)},(l.map (·.1)).Nodup->∀x,l.reverse.lookup x=l.lookup x
 | [],_,_=>rfl
 |p::l,h,x=>by
  rw[List.map_cons,dh2]at h
  rw[List.reverse_cons,List.lookup_append,X1 h.2,dc3,dc3]
  cases e:x==p.1 with
  |true=>
   have:l.lookup x=none:=by
    rw[List.lookup_eq_none_iff]
    intro q hq
    rw[bne_iff_ne]
    intro e'
    exact h.1 (by rw[←beq_iff_eq.mp e,e'];exact List.mem_map_of_mem hq)
   rw[this];rfl
  |false=>exact Option.or_none
theorem av0(x:Bs):kindTab.reverse.lookup x=kindTab.lookup x:=X1 (by decide+kernel) x
section
variable {r:Bs} {l:Int} {b:Bs}
theorem cI1(h:isNone (C5 (kindTab.lookup (b++tw c8 r)))=true):s9 r l b= .ok (285, .bytes (b++tw c8 r)) (dw c8 r) l (b++tw c8 r):=by
 unfold s9
 cases e:kindTab.lookup (b++tw c8 r)with
 |none=>rfl
 |some k=>rw[e]at h;exact cV2 h
theorem cQ8(h:isNone (C5 (kindTab.lookup (b++tw c8 r)))=false):∃k,s9 r l b= .ok (k, .none) (dw c8 r) l (b++tw c8 r)/\C5 (kindTab.lookup (b++tw c8 r))= .int k:=by
 unfold s9
 cases e:kindTab.lookup (b++tw c8 r)with
 |none=>rw[e]at h;exact cV2 h
 |some k=>exact⟨k,rfl,rfl⟩
end
theorem ag1{k v:V}:Cs X 2 (.ref 262) 0 [k,v] none (λu m=>u= .rcd 262 [("kind",k),("value",v)]/\m=none) v4:=Cs.new (aS7 _) U6
noncomputable abbrev LxS.k(σ:LxS):LxS:= {σ with kinds:=A2}
theorem LxS.k_eq{σ:LxS}(h:σ.kinds=A2):σ.k=σ:=by unfold LxS.k;rw[←h]
noncomputable def bH7:Ns:=(.cons (.whl (.cons (.call 15 (.cons (.fld 0 6) .nil)) .nil) (.cons (.ex (.meth 0 7 .nil)) .nil)) (.cons (.asg 1 .bytb) (.cons (.asg 2 (.vm 1 (.fld 0 4) (.loc 1))) (.cons (.ret (.ife (.cmp .Is (.loc 2) .non) (.call 22 (.cons (.gi 10) (.cons (.loc 1) .nil))) (.call 22 (.cons (.loc 2) (.cons .non .nil))))) .nil))))
theorem ct0(L ψ outer lx):w8 (t9 bN3 aY2 406 L ψ outer lx 465).env aY2 bH7 bM1=true:=by kernel_rfl
theorem ac5{σ:LxS}(o:σ.k.Ok):Lx X 5 406 [] σ.k x6 (s9 σ.k.rest σ.k.line σ.k.buf):=by
 refine Cs.scM (n:=2) (cK4 _) bH7 ct0 rfl ?_
 refine(w7 (λi:Bs×Bs=>G7 (σ.k.w i.1 σ.k.line i.2) [.un, .un]) (TwP σ.k c8 σ.k.rest σ.k.buf) (λi=>i.1.length) (σ.k.rest,σ.k.buf) rfl (TwP.ini o) (λi p=>(Cs.det G9 (by decide) nR ⟨λh3=>(Lx.sure (e8 p.ok.wk ?_) (by decide) ⟨d7 _,⟨_,(TwP.go ns0 p ?_).1,(i.1.tail,i.2++[hd i.1]),rfl,(TwP.go ns0 p ?_).2,rfl⟩⟩),λh3=>⟨?_,⟨λh2=>(Cs.det ag1 (by decide) nR ⟨rfl, ?_⟩),λh2=>(Cs.det ag1 (by decide) nR ⟨rfl, ?_⟩)⟩⟩⟩)))
 ·exact bO7 ns0 h3
 ·exact h3
 ·exact h3
 ·exact z4 p.ok
 ·have e:=p.fin h3
  have h2:isNone (C5 (kindTab.reverse.lookup i.2))=true:=h2
  rw[av0]at h2
  rw[e.2]at h2
  have g:=cI1 (l:=σ.k.line) h2
  rw[←e.1, ←e.2]at g
  exact⟨(285,_),_,_,_,g,rfl,rfl⟩
 ·have e:=p.fin h3
  have h2:isNone (C5 (kindTab.reverse.lookup i.2))=false:=h2
  rw[av0]at h2
  rw[e.2]at h2
  obtain⟨k,g,g'⟩:=cQ8 (l:=σ.k.line) h2
  rw[←e.1, ←e.2]at g
  rw[←e.2]at g'
  exact⟨(k, .none),_,_,_,g,congrArg (λv=>V.rcd 262 [("kind",v),("value", .none)]) ((congrArg C5 (av0 i.2)).trans g'),rfl⟩
theorem ai4{σ:LxS}(o:σ.Ok)(hk:σ.kinds=A2):Lx X 5 406 [] σ x6 (s9 σ.rest σ.line σ.buf):=by
 have:=ac5 (X:=X) (σ:=σ) ((LxS.k_eq hk).symm▸o)
 rwa[LxS.k_eq hk]at this
end
section
variable {X:Cx}
theorem bg2{r:Bs}{l:Int}{a:Unit}{r':Bs}{l':Int}{b':Bs}(e:i8 r l []= .ok a r' l' b'):b'=[]:=by
 unfold i8 at e
 split at e
 ·split at e
  ·split at e
   ·cases e;rfl
   ·cases e
  ·cases e;rfl
 ·cases e;rfl
set_option tactic.hygienic true in
theorem aA6{r:Bs}{l:Int}{a:Bool}{r':Bs}{l':Int}{b':Bs}(e:i7 r l []= .ok a r' l' b'):b'=[]:=by
 unfold i7 at e
 split at e
 ·cases e;rfl
 ·split at e
  ·cases e;rfl
  ·split at e
   ·split at e
    ·rename_i e2;cases e;exact bg2 e2
    ·cases e
   ·cases e;rfl
noncomputable abbrev SkI:=Bs×Int
structure SkP(σ:LxS)(i:SkI):Prop where
 ok:(σ.w i.1 i.2 []).Ok
 eq:∃f,i.1.length < f+1/\skipLoop (f+1) i.1 i.2 []=skipLoop (σ.rest.length+1) σ.rest σ.line []
section
variable {σ:LxS} {i:SkI} (p:SkP σ i)
include p
theorem cg1{l:Int}{w n:Bs}(e:i7 i.1 i.2 []= .err l w n):f6 σ.rest σ.line= .err l w n:=by
 obtain⟨f,_,h⟩:=p.eq
 unfold f6
 rw[←h,skipLoop,e]
theorem cy6{r:Bs}{l:Int}{b:Bs}{a:Bool}(e:i7 i.1 i.2 []= .ok a r l b)(ha:a=true):b=[]/\r.length < i.1.length/\SkP σ (r,l):=by
 subst ha
 have hb:=aA6 e
 subst hb
 have hl:=aW7 e
 refine⟨rfl,hl,p.ok.le (an8 e), ?_⟩
 obtain⟨f,h1,h⟩:=p.eq
 cases f with
 |zero=>lia
 |succ f=>exact⟨f,by show r.length < f+1;lia,by rw[←h];exact(by rw[skipLoop.eq_def (f+1+1) i.1];dsimp only;rw[e]:skipLoop (f+1+1) i.1 i.2 []=skipLoop (f+1) r l []).symm⟩
theorem bT8{r:Bs}{l:Int}{b:Bs}{a:Bool}(e:i7 i.1 i.2 []= .ok a r l b)(ha:a=false):(σ.w r l []).Ok/\b=[]/\skipLoop (σ.rest.length+1) σ.rest σ.line []= .ok () r l []:=by
 subst ha
 have hb:=aA6 e
 subst hb
 obtain⟨f,h1,h⟩:=p.eq
 exact⟨p.ok.le (an8 e),rfl,by rw[←h,skipLoop,e]⟩
end
section
variable {σ:LxS} {r:Bs} {l:Int} (e:skipLoop (σ.rest.length+1) σ.rest σ.line []= .ok () r l [])
include e
theorem cL5(h:(b9 r== -1)=true):f6 σ.rest σ.line= .ok (287, .none) r l []:=by unfold f6;rw[e];exact if_pos h
variable (h0:(b9 r== -1)=false)
include h0
theorem cq8(h:B1 (b9 r)=true):f6 σ.rest σ.line=l6 (b9 r) r l []:=by unfold f6;rw[e];exact(if_neg (nb h0)).trans (if_pos h)
variable (h1:B1 (b9 r)=false)
include h1
theorem cC6(h:(b9 r==91)=true):f6 σ.rest σ.line=j6 r l []:=by unfold f6;rw[e];exact(if_neg (nb h0)).trans ((if_neg (nb h1)).trans (if_pos h))
variable (h2:(b9 r==91)=false)
include h2
theorem cE6(h:(b9 r==46)=true):f6 σ.rest σ.line=o4 r l []:=by unfold f6;rw[e];exact(if_neg (nb h0)).trans ((if_neg (nb h1)).trans ((if_neg (nb h2)).trans (if_pos h)))
variable (h3:(b9 r==46)=false)
include h3
theorem cn5(h:d8 (b9 r)=true):f6 σ.rest σ.line=l9 r l []:=by unfold f6;rw[e];exact(if_neg (nb h0)).trans ((if_neg (nb h1)).trans ((if_neg (nb h2)).trans ((if_neg (nb h3)).trans (if_pos h))))
variable (h4:d8 (b9 r)=false)
include h4
theorem cq1(h:t6 (b9 r)=true):f6 σ.rest σ.line=s9 r l []:=by unfold f6;rw[e];exact(if_neg (nb h0)).trans ((if_neg (nb h1)).trans ((if_neg (nb h2)).trans ((if_neg (nb h3)).trans ((if_neg (nb h4)).trans (if_pos h)))))
variable (h5:t6 (b9 r)=false)
include h5
theorem bf4:f6 σ.rest σ.line=(if b9 r==45 then .ok (45, .none) r.tail l []else if ar0 (b9 r)then q7 (b9 r) r l []else .ok (b9 r, .none) r.tail l []):=by unfold f6;rw[e];exact(if_neg (nb h0)).trans ((if_neg (nb h1)).trans ((if_neg (nb h2)).trans ((if_neg (nb h3)).trans ((if_neg (nb h4)).trans (if_neg (nb h5))))))
end
theorem P0(s:Int):(i5 [.int 34, .int 39]).contains s=B1 s:=by show(s==34|| (s==39||false))=_;rw[df0];rfl
theorem ce6(s:Int):(i5 [.int 61, .int 60, .int 62, .int 126]).contains s=ar0 s:=by show(s==61|| (s==60|| (s==62|| (s==126||false))))=_;rw[df0, ←Bool.or_assoc, ←Bool.or_assoc];rfl
noncomputable def bw1:Ns:=(.cons (.ex (.meth 0 9 .nil)) (.cons (.whl (.cons (.meth 0 12 .nil) .nil) (.cons .pass .nil)) (.cons (.asg 1 (.fld 0 6)) (.cons (.ite (.cmp .Eq (.loc 1) (.gi 0)) (.cons (.ret (.call 22 (.cons (.gi 12) (.cons .non .nil)))) .nil) .nil) (.cons (.ite (.cmp .In (.loc 1) (.tup (.cons (.gi 17) (.cons (.gi 18) .nil)))) (.cons (.ret (.meth 0 23 (.cons (.loc 1) .nil))) .nil) .nil) (.cons (.ite (.cmp .Eq (.loc 1) (.gi 25)) (.cons (.ret (.meth 0 19 .nil)) .nil) .nil) (.cons (.ite (.cmp .Eq (.loc 1) (.gi 21)) (.cons (.ret (.meth 0 16 .nil)) .nil) .nil) (.cons (.ite (.cons (.call 13 (.cons (.loc 1) .nil)) .nil) (.cons (.ret (.meth 0 18 .nil)) .nil) .nil) (.cons (.ite (.cons (.call 14 (.cons (.loc 1) .nil)) .nil) (.cons (.ret (.meth 0 17 .nil)) .nil) .nil) (.cons (.ite (.cmp .Eq (.loc 1) (.gi 20)) (.cons (.ex (.meth 0 5 .nil)) (.cons (.ret (.call 22 (.cons (.gi 20) (.cons .non .nil)))) .nil)) .nil) (.cons (.ite (.cmp .In (.loc 1) (.tup (.cons (.gi 23) (.cons (.gi 22) (.cons (.gi 24) (.cons (.gi 29) .nil)))))) (.cons (.ret (.meth 0 15 (.cons (.loc 1) .nil))) .nil) .nil) (.cons (.ex (.meth 0 5 .nil)) (.cons (.ret (.call 22 (.cons (.loc 1) (.cons .non .nil)))) .nil)))))))))))))
theorem cE7(L ψ outer lx):w8 (t9 bv8 aU2 364 L ψ outer lx 465).env aU2 bw1 bt6=true:=by kernel_rfl
noncomputable def bD7:Ns:=(.cons (.asg 1 (.fld 0 6)) (.cons (.ite (.cmp .Eq (.loc 1) (.gi 0)) (.cons (.ret (.call 22 (.cons (.gi 12) (.cons .non .nil)))) .nil) .nil) (.cons (.ite (.cmp .In (.loc 1) (.tup (.cons (.gi 17) (.cons (.gi 18) .nil)))) (.cons (.ret (.meth 0 23 (.cons (.loc 1) .nil))) .nil) .nil) (.cons (.ite (.cmp .Eq (.loc 1) (.gi 25)) (.cons (.ret (.meth 0 19 .nil)) .nil) .nil) (.cons (.ite (.cmp .Eq (.loc 1) (.gi 21)) (.cons (.ret (.meth 0 16 .nil)) .nil) .nil) (.cons (.ite (.cons (.call 13 (.cons (.loc 1) .nil)) .nil) (.cons (.ret (.meth 0 18 .nil)) .nil) .nil) (.cons (.ite (.cons (.call 14 (.cons (.loc 1) .nil)) .nil) (.cons (.ret (.meth 0 17 .nil)) .nil) .nil) (.cons (.ite (.cmp .Eq (.loc 1) (.gi 20)) (.cons (.ex (.meth 0 5 .nil)) (.cons (.ret (.call 22 (.cons (.gi 20) (.cons .non .nil)))) .nil)) .nil) (.cons (.ite (.cmp .In (.loc 1) (.tup (.cons (.gi 23) (.cons (.gi 22) (.cons (.gi 24) (.cons (.gi 29) .nil)))))) (.cons (.ret (.meth 0 15 (.cons (.loc 1) .nil))) .nil) .nil) (.cons (.ex (.meth 0 5 .nil)) (.cons (.ret (.call 22 (.cons (.loc 1) (.cons .non .nil)))) .nil)))))))))))
theorem bf1{σ:LxS}{r:Bs}{l:Int}(o:(σ.w r l []).Ok)(hk:σ.kinds=A2)(hc:σ.chunk.length<=1000)(es:skipLoop (σ.rest.length+1) σ.rest σ.line []= .ok () r l []):A6 X 12 (λmsg=>∃l w nr,f6 σ.rest σ.line= .err l w nr/\msg=u3 σ.chunk l w nr) bD7 (G7 (σ.w r l []) [.un]) (Pst (some σ.fs) λv m=>∃a r l b,f6 σ.rest σ.line= .ok a r l b/\v=x6 a/\m=some (σ.w r l b).fs):=by
 refine⟨λh8=>(Cs.det n6 (by decide) nR ⟨rfl, ?_⟩),λh8=>⟨d5,⟨rfl,⟨λh7=>(Lx.use (aa3 (σ:=σ.w _ _ _) o ?_ hc ?_) (by decide) ?_ (λa r l b e=>⟨d7 _,⟨rfl, ?_⟩⟩)),λh7=>⟨λh6=>(Lx.use (V2 (σ:=σ.w _ _ _) o ?_ hc) (by decide) ?_ (λa r l b e=>⟨d7 _,⟨rfl, ?_⟩⟩)),λh6=>⟨λh5=>(Lx.use (ag8 (σ:=σ.w _ _ _) o hc rfl ?_) (by decide) ?_ (λa r l b e=>⟨d7 _,⟨rfl, ?_⟩⟩)),λh5=>(Cs.det x5 (by decide) nR ⟨λh4=>(Lx.use (H3 (σ:=σ.w _ _ _) o hc (.inl rfl) ?_) (by decide) ?_ (λa r l b e=>⟨d7 _,⟨rfl, ?_⟩⟩)),λh4=>(Cs.det O0 (by decide) nR ⟨λh3=>(Lx.use (ai4 (σ:=σ.w _ _ _) o hk) (by decide) ?_ (λa r l b e=>⟨d7 _,⟨rfl, ?_⟩⟩)),λh3=>⟨λh2=>(Lx.sure (r9 (σ:=σ.w _ _ _) o.suf o.few ?_) (by decide) ⟨d7 _,(Cs.det n6 (by decide) nR ⟨rfl, ?_⟩)⟩),λh2=>⟨d5,⟨rfl,⟨λh1=>(Lx.use (T3 (σ:=σ.w _ _ _) o ?_) (by decide) ?_ (λa r l b e=>⟨d7 _,⟨rfl, ?_⟩⟩)),λh1=>(Lx.sure (r9 (σ:=σ.w _ _ _) o.suf o.few ?_) (by decide) ⟨d7 _,(Cs.det n6 (by decide) nR ⟨rfl, ?_⟩)⟩)⟩⟩⟩⟩⟩)⟩)⟩⟩⟩⟩⟩⟩
 ·exact⟨(_,_),_,_,_,cL5 es h8,rfl,rfl⟩
 ·exact H7 h8
 ·exact H7 h8
 ·exact λl w nr e=>⟨_,_,_,(cq8 es h8 ((P0 _).symm.trans h7)).trans e,rfl⟩
 ·exact⟨_,_,_,_,(cq8 es h8 ((P0 _).symm.trans h7)).trans e,rfl,rfl⟩
 ·exact H7 h8
 ·exact λl w nr e=>⟨_,_,_,(cC6 es h8 ((P0 _).symm.trans h7) h6).trans e,rfl⟩
 ·exact⟨_,_,_,_,(cC6 es h8 ((P0 _).symm.trans h7) h6).trans e,rfl,rfl⟩
 ·exact beq_iff_eq.mp h5
 ·exact λl w nr e=>⟨_,_,_,(cE6 es h8 ((P0 _).symm.trans h7) h6 h5).trans e,rfl⟩
 ·exact⟨_,_,_,_,(cE6 es h8 ((P0 _).symm.trans h7) h6 h5).trans e,rfl,rfl⟩
 ·exact h4
 ·exact λl w nr e=>⟨_,_,_,(cn5 es h8 ((P0 _).symm.trans h7) h6 h5 h4).trans e,rfl⟩
 ·exact⟨_,_,_,_,(cn5 es h8 ((P0 _).symm.trans h7) h6 h5 h4).trans e,rfl,rfl⟩
 ·exact λl w nr e=>⟨_,_,_,(cq1 es h8 ((P0 _).symm.trans h7) h6 h5 h4 h3).trans e,rfl⟩
 ·exact⟨_,_,_,_,(cq1 es h8 ((P0 _).symm.trans h7) h6 h5 h4 h3).trans e,rfl,rfl⟩
 ·exact H7 h8
 ·exact⟨(_,_),_,_,_,(bf4 es h8 ((P0 _).symm.trans h7) h6 h5 h4 h3).trans (if_pos h2),rfl,rfl⟩
 ·exact H7 h8
 ·exact λl w nr e=>⟨_,_,_,((bf4 es h8 ((P0 _).symm.trans h7) h6 h5 h4 h3).trans ((if_neg (nb h2)).trans (if_pos ((ce6 _).symm.trans h1)))).trans e,rfl⟩
 ·exact⟨_,_,_,_,((bf4 es h8 ((P0 _).symm.trans h7) h6 h5 h4 h3).trans ((if_neg (nb h2)).trans (if_pos ((ce6 _).symm.trans h1)))).trans e,rfl,rfl⟩
 ·exact H7 h8
 ·exact⟨(_,_),_,_,_,(bf4 es h8 ((P0 _).symm.trans h7) h6 h5 h4 h3).trans ((if_neg (nb h2)).trans (if_neg (nb ((ce6 _).symm.trans h1)))),rfl,rfl⟩
theorem bo6{σ:LxS}{i:SkI}(p:SkP σ i){a:Bool}{r:Bs}{l:Int}{b:Bs}(e:i7 i.1 i.2 []= .ok a r l b)(h:a=true):∃k,k < i.1.length/\JI (λi:SkI=>G7 (σ.w i.1 i.2 []) [.un]) (SkP σ) (λi=>i.1.length) k (G7 (σ.w r l b) [.un]):=by
 obtain⟨rfl,h2,h3⟩:=cy6 p e h
 exact⟨_,h2,(r,l),rfl,h3,rfl⟩
theorem bT9{σ:LxS}{i:SkI}(p:SkP σ i)(hk:σ.kinds=A2)(hc:σ.chunk.length<=1000){a:Bool}{r:Bs}{l:Int}{b:Bs}(e:i7 i.1 i.2 []= .ok a r l b)(h:a=false):A6 X 12 (λmsg=>∃l w nr,f6 σ.rest σ.line= .err l w nr/\msg=u3 σ.chunk l w nr) bD7 (G7 (σ.w r l b) [.un]) (Pst (some σ.fs) λv m=>∃a r l b,f6 σ.rest σ.line= .ok a r l b/\v=x6 a/\m=some (σ.w r l b).fs):=by
 obtain⟨h1,rfl,h2⟩:=bT8 p e h
 exact bf1 h1 hk hc h2
theorem aB3{σ:LxS}(o:σ.Ok)(hk:σ.kinds=A2)(hc:σ.chunk.length<=1000):Lx X 13 364 [] σ x6 (f6 σ.rest σ.line):=by
 refine Cs.scM (n:=10) (cH8 _) bw1 cE7 rfl ?_
 refine(Lx.sure (W8) (by decide) ⟨d7 _,(w7 (λi:SkI=>G7 (σ.w i.1 i.2 []) [.un]) (SkP σ) (λi=>i.1.length) (σ.rest,σ.line) rfl ⟨o.le le_clear,_,cZ9 _,rfl⟩ (λi p=>(Lx.use (ac6 p.ok hc) (by decide) (λH H H e=>⟨_,_,_,cg1 p e,rfl⟩) (λa r l b e=>⟨d7 _,⟨λh1=>(bo6 p e h1),λh1=>(bT9 p hk hc e h1)⟩⟩))))⟩)
end
section
variable {X:Cx}
noncomputable def aJ5:Ns:=(.cons (.asf 0 8 (.fld 0 7)) (.cons (.ite (.cmp .IsNot (.fld 0 11) .non) (.cons (.asf 0 10 (.fld 0 11)) (.cons (.asf 0 11 .non) .nil)) (.cons (.asf 0 10 (.meth 0 11 .nil)) .nil)) (.cons (.ret (.fld 0 10)) .nil)))
theorem by6(L ψ outer lx):w8 (t9 bx7 aW9 287 L ψ outer lx 465).env aW9 aJ5 bC0=true:=by kernel_rfl
theorem aF0{σ:LxS}(o:σ.Ok)(hk:σ.kinds=A2)(hc:σ.chunk.length<=1000)(ha:isNone σ.ahead=true):Cs X 14 (.ref 287) 465 [] (some σ.fs) (λv m=>∃a r l b,f6 σ.rest σ.line= .ok a r l b/\v=x6 a/\m=some ({σ with last:=σ.line,cur:=x6 a}.w r l b).fs) (λmsg=>∃l w nr,f6 σ.rest σ.line= .err l w nr/\msg=u3 σ.chunk l w nr):=by
 refine Cs.scM (n:=11) (cr5 _) aJ5 by6 rfl ?_
 refine⟨λh1=>(cX9 ?_),λh1=>(Lx.use (aB3 (σ:= {σ with last:=σ.line}) ⟨o.suf,o.few,o.room,o.pos,o.lines⟩ hk hc) (by decide) ?_ (λa r l b e=>⟨d7 _,⟨rfl, ?_⟩⟩))⟩
 ·exact absurd (h1.symm.trans (congrArg (!·) ha)) (by decide)
 ·exact λl w nr e=>⟨_,_,_,e,rfl⟩
 ·exact⟨a,_,_,_,e,rfl,rfl⟩
theorem ax5{σ:LxS}(ha:isNone σ.ahead=false):Cs X 3 (.ref 287) 465 [] (some σ.fs) (λv m=>v=σ.ahead/\m=some {σ with last:=σ.line,cur:=σ.ahead,ahead:= .none}.fs) (v4):=by
 refine Cs.scM (n:=0) (cr5 _) aJ5 by6 rfl ?_
 refine⟨λh1=>⟨rfl, ?_⟩,λh1=>(cX9 ?_)⟩
 ·exact⟨rfl,rfl⟩
 ·exact absurd (h1.symm.trans (congrArg (!·) ha)) (by decide)
noncomputable def aO1:Ns:=(.cons (.ite (.cmp .Is (.fld 0 11) .non) (.cons (.asf 0 11 (.meth 0 11 .nil)) .nil) .nil) (.cons (.ret (.fld 0 11)) .nil))
theorem bv6(L ψ outer lx):w8 (t9 bB5 bb5 294 L ψ outer lx 465).env bb5 aO1 bv0=true:=by kernel_rfl
theorem aL0{σ:LxS}(o:σ.Ok)(hk:σ.kinds=A2)(hc:σ.chunk.length<=1000)(ha:isNone σ.ahead=true):Cs X 14 (.ref 294) 465 [] (some σ.fs) (λv m=>∃a r l b,f6 σ.rest σ.line= .ok a r l b/\v=x6 a/\m=some ({σ with ahead:=x6 a}.w r l b).fs) (λmsg=>∃l w nr,f6 σ.rest σ.line= .err l w nr/\msg=u3 σ.chunk l w nr):=by
 refine Cs.scM (n:=11) (cB3 _) aO1 bv6 rfl ?_
 refine⟨λh1=>(Lx.use (aB3 (σ:=σ) o hk hc) (by decide) ?_ (λa r l b e=>⟨d7 _,⟨rfl, ?_⟩⟩)),λh1=>(cX9 ?_)⟩
 ·exact λl w nr e=>⟨_,_,_,e,rfl⟩
 ·exact⟨a,_,_,_,e,rfl,rfl⟩
 ·exact absurd (h1.symm.trans ha) (by decide)
theorem am7{σ:LxS}(ha:isNone σ.ahead=false):Cs X 3 (.ref 294) 465 [] (some σ.fs) (λv m=>v=σ.ahead/\m=some σ.fs) (v4):=by
 refine Cs.scM (n:=0) (cB3 _) aO1 bv6 rfl ?_
 refine⟨λh1=>(cX9 ?_),λh1=>⟨rfl, ?_⟩⟩
 ·exact absurd (h1.symm.trans ha) (by decide)
 ·exact⟨rfl,rfl⟩
end
section
variable {X:Cx} {n:Nat} {R:Bs->Prop}
noncomputable abbrev JF{ι:Type}(S:ι->St)(P:Nat->ι->Prop):Nat->St->Prop:=λk st=>∃i,P k i/\st=S i
@[elab_as_elim] theorem jf_k {ι:Type} {S:ι->St} {P:Nat->ι->Prop} {k:Nat} {st:St} {G:St->Prop} (h:JF S P k st) (f:∀i,P k i->G (S i)):G st:=by
 obtain⟨i,p,rfl⟩:=h;exact f i p
theorem kp:∀k,k < words.length->kindTab[k]? =some (words.getD k [],257+ (k:Int)):=by decide+kernel
theorem kl:kindTab.length=words.length:=by decide+kernel
theorem wl:words.length<=1000:=by decide+kernel
theorem O5:Cs X 3 (.ref 238) 0 [] none (λv m=>v=A2/\m=none) v4:=
 Cs.anyC (C:=465) <| Cs.of_body (n:=2) (cz7 _) rfl λL ψ outer lx=>by
  obtain⟨r,hr,hv⟩:=bD5 (X:=X) (k:=1) rfl
  obtain⟨t,ht⟩:=aB9 (bC8 (X:=X) (k:=1) rfl)
  have O:=(cz7 X.w.params).frm L ψ outer lx 465
  have hs:∀x:String,glB (t9 aQ7 aE3 238 L ψ outer lx 465).env (cV1 x)=true->(t9 aQ7 aE3 238 L ψ outer lx 465).scope.names.lookup (cV1 x)=some .globalImplicit/\(cV1 x== ("__debug__":Str))=false:=λx h=>by
   unfold glB at h
   rw[cX7,db8]at h
   exact⟨of_decide_eq_true h.1,h.2⟩
  have h1:=hs "enumerate" (by kernel_rfl)
  have h2:=hs "RESERVED" (by kernel_rfl)
  have h3:=hs "FIRST_RESERVED" (by kernel_rfl)
  exact aG5 (ws:=words) (ps:=kindTab) O rfl (by show ∀x∈aE3,(x== ("__debug__":Str))=false;decide+kernel) h1.1 (O2 _) h1.2 h2.1 hr hv h2.2 h3.1 ht h3.2 wl kl kp λst' e=>⟨by rw[e],rfl,e⟩
end
section
variable {X:Cx}
noncomputable def lx0(t ch:Bs):LxS:= {text:=t,source:=ch,chunk:=[113],kinds:=A2,rest:=t,line:=1,last:=1,buf:=[],cur:=aV5 287 .none,ahead:= .none}
theorem aV3{t ch:Bs}{s:Int}(h:s=b9 t): [("text",Fv.val (.bytes t)),("source", .val (.bytes ch)),("chunk", .val (.bytes [113])),("limits", .val J5),("kinds", .val A2),("at", .val (.int 0)),("sign", .val (.int s)),("line", .val (.int 1)),("last_line", .val (.int 1)),("buffer", .buf []),("current", .val (aV5 287 .none)),("ahead", .val .none)]=(lx0 t ch).fs:=by
 subst h
 show _=LxS.fs _
 unfold LxS.fs
 rw[show((lx0 t ch).text.length:Int) - (lx0 t ch).rest.length=0 from Int.sub_self _]
 rfl
theorem ar6{t:Bs}(h:t.length<=5000):t.length<=16777216:=cV5 h (cV3 rfl)
theorem cJ4{t:Bs}(h:(t.length:Int) > 0):((t.getD 0 0).toNat:Int)=b9 t:=by cases t with|nil=>exact absurd h (by decide)|cons c r=>rfl
theorem cR9{t:Bs}(h:¬ (t.length:Int) > 0):(-1:Int)=b9 t:=by cases t with|nil=>rfl|cons c r=>exact absurd (Int.natCast_pos.mpr (dg3 _)) h
theorem cb7{t ch:Bs}(h:t.length<=5000):(lx0 t ch).Ok:=⟨dd7,h,dh7 (Nat.zero_add _),cZ5 _,Int.le_of_eq (Int.add_comm _ _)⟩
noncomputable def bK8:Ns:=(.cons (.asn 0 (.loc 1)) (.cons (.asn 1 (.loc 2)) (.cons (.asn 2 (.call 12 (.cons (.loc 2) (.cons (.gi 13) .nil)))) (.cons (.asn 3 (.loc 3)) (.cons (.asn 4 (.call 20 .nil)) (.cons (.asn 5 (.int 0)) (.cons (.asn 6 (.ife (.cmp .Gt (.bi 0 (.cons (.loc 1) .nil)) (.int 0)) (.sub (.loc 1) (.int 0)) (.gi 0))) (.cons (.asn 7 (.int 1)) (.cons (.asn 8 (.int 1)) (.cons (.asnb 9) (.cons (.asn 10 (.call 22 (.cons (.gi 12) (.cons .non .nil)))) (.cons (.asn 11 .non) .nil))))))))))))
theorem cC4(L ψ outer lx):w8 (t9 bI2 aU7 280 L ψ outer lx 465).env aU7 bK8 bD9=true:=by kernel_rfl
theorem am4{t ch:Bs}(ht:t.length<=5000)(hch:Cs X 4 (.ref 180) 0 [.bytes ch, .int 80] none (λv m=>v= .bytes [113]/\m=none) v4):Cs X 5 (.ref 280) 465 [.bytes t, .bytes ch,J5] (some []) (λv m=>v= .none/\m=some (lx0 t ch).fs) v4:=by
 refine Cs.sc (n:=2) (cH9 _) bK8 cC4 rfl (λfs e=>by cases e;rfl) ?_
 refine⟨rfl,⟨rfl,(Cs.det hch (by decide) nR ⟨rfl,⟨rfl,(Cs.det O5 (by decide) nR ⟨rfl,⟨rfl,⟨?_,⟨λh1=>⟨?_,⟨rfl,⟨rfl,⟨rfl,⟨rfl,(Cs.det n6 (by decide) nR ⟨rfl,⟨rfl,⟨rfl, ?_⟩⟩⟩)⟩⟩⟩⟩⟩,λh1=>⟨rfl,⟨rfl,⟨rfl,⟨rfl,(Cs.det n6 (by decide) nR ⟨rfl,⟨rfl,⟨rfl, ?_⟩⟩⟩)⟩⟩⟩⟩⟩⟩⟩⟩)⟩⟩)⟩⟩
 ·exact ar6 ht
 ·exact⟨ar6 ht,cZ5 _,of_decide_eq_true h1⟩
 ·exact⟨rfl,congrArg some (aV3 (cJ4 (of_decide_eq_true h1)))⟩
 ·exact⟨rfl,congrArg some (aV3 (cR9 (of_decide_eq_false h1)))⟩
end
section
variable {X:Cx}
noncomputable def Run(e:Option (Int×Bs×Bs)):List Tk->Bs->Int->Prop
 | [],r,l=>(match e with|none=>∃a r' l' b,f6 r l= .ok a r' l' b/\a.1=287|some x=>f6 r l= .err x.1 x.2.1 x.2.2)
 |a::q,r,l=>∃r' l' b,f6 r l= .ok a r' l' b/\a.1≠287/\Run e q r' l'
structure Good(σ:LxS):Prop where
 ok:σ.Ok
 kinds:σ.kinds=A2
 chunk:σ.chunk=[113]
 ahead:isNone σ.ahead=true
noncomputable def NX(e:Option (Int×Bs×Bs))(σ:LxS)(a:Tk):List Tk->Prop
 | []=>a.1=287/\e=none
 |b::q=>b=a/\a.1≠287/\Run e q σ.rest σ.line
theorem al7{t ch:Bs}(h:t.length<=5000):Good (lx0 t ch):=⟨cb7 h,rfl,rfl,rfl⟩
theorem Good.le{σ:LxS}(g:Good σ){a:Tk}{r:Bs}{l:Int}{b:Bs}(e:f6 σ.rest σ.line= .ok a r l b):Good ({σ with last:=σ.line,cur:=x6 a}.w r l b):=
 ⟨{suf:=((al4 (b:=[]) e).suf.trans g.ok.suf),few:=g.ok.few,room:=cV5 (al4 (b:=[]) e).room (cV5 (by rw[dh3,Nat.zero_add];exact Nat.le_add_left _ _) g.ok.room),pos:=da4 g.ok.pos (al4 (b:=[]) e).up,lines:=da4 (al4 (b:=[]) e).lines g.ok.lines},g.kinds,g.chunk,g.ahead⟩
theorem aZ3{σ:LxS}{e:Option (Int×Bs×Bs)}{q:List Tk}{Q:V->Option (List (String×Fv))->Prop}{R:Bs->Prop}{n:Nat}(g:Good σ)(h:Run e q σ.rest σ.line)(hn:14<=n)(hR:∀x,e=some x->R (u3 [113] x.1 x.2.1 x.2.2))(k:∀σ' a,Good σ'->NX e σ' a q->Q (x6 a) (some σ'.fs)):Cs X n (.ref 287) 465 [] (some σ.fs) Q R:=by
 refine(Cs.up (aF0 g.ok g.kinds (by rw[g.chunk];decide) g.ahead) hn).mono (λv m ⟨a,r,l,b,e1,e2,e3⟩=> ?_) (λmsg ⟨l,w,nr,e1,e2⟩=> ?_)
 ·subst e2;subst e3
  refine k _ a (g.le e1) ?_
  cases q with
  |nil=>
   cases e with
   |none=>obtain⟨_,_,_,_,e4,h4⟩:=h;rw[e1]at e4;cases e4;exact⟨h4,rfl⟩
   |some x=>exact absurd (e1.symm.trans h) nofun
  |cons c q=>obtain⟨_,_,_,e4,h4,h5⟩:=h;rw[e1]at e4;cases e4;exact⟨rfl,h4,h5⟩
 ·subst e2
  rw[g.chunk]
  cases q with
  |nil=>
   cases e with
   |none=>obtain⟨_,_,_,_,e4,h4⟩:=h;rw[e1]at e4;exact nomatch e4
   |some x=>have h:f6 _ _=_:=h;rw[e1]at h;cases h;exact hR _ rfl
  |cons c q=>obtain⟨_,_,_,e4,_⟩:=h;rw[e1]at e4;exact nomatch e4
noncomputable def tv(a:Tk):V:= .tup [.int a.1,a.2]
noncomputable abbrev AlI:=LxS×Tk×List Tk×List Tk
noncomputable abbrev alS(t ch:Bs)(ad:Addr)(i:AlI):St:= {loc:=[.val (.bytes t), .val (.bytes ch), .val J5, .me, .own ad (i.2.2.1.map tv), .val (x6 i.2.1)],me:=some i.1.fs}
structure AlP(e:Option (Int×Bs×Bs))(ts:List Tk)(i:AlI):Prop where
 good:Good i.1
 all:i.2.2.1++i.2.2.2=ts
 nx:NX e i.1 i.2.1 i.2.2.2
theorem AlP.eos{e ts i}(p:AlP e ts i)(h:(!(i.2.1.1== (287:Int)))=false):i.2.2.1=ts/\e=none:=by
 obtain⟨σ,a,acc,q⟩:=i
 replace h:a.1=287:=beq_iff_eq.mp (by rw[Bool.not_eq_false']at h;exact h)
 have p2:=p.nx
 cases q with
 |nil=>exact⟨by have:=p.all;rwa[cZ4]at this,p2.2⟩
 |cons c q=>exact absurd h p2.2.1
theorem AlP.more{e ts i}(p:AlP e ts i)(h:(!(i.2.1.1== (287:Int)))=true):∃q,i.2.2.2=i.2.1::q/\Run e q i.1.rest i.1.line:=by
 obtain⟨σ,a,acc,q⟩:=i
 replace h:¬ a.1=287:=λe=>by rw[db8]at h;exact absurd (beq_iff_eq.mpr e) (by rw[h];nofun)
 have p2:=p.nx
 cases q with
 |nil=>exact absurd p2.1 h
 |cons c q=>obtain⟨rfl,_,p3⟩:=p2;exact⟨q,rfl,p3⟩
theorem cg5{e ts i}(p:AlP e ts i)(h:ts.length<=5000):(i.2.2.1.map tv).length<=16777216:=by
 have:=congrArg df5 p.all
 rw[cV7]at this
 rw[cW3]
 exact cV5 (cV5 (de6 _ _) (dh7 this)) (cV5 h (cV3 rfl))
theorem cD7{i:AlI}{q}(h:i.2.2.2=i.2.1::q):q.length < i.2.2.2.length:=by rw[h];exact cZ9 _
theorem cs3{t ch ad}{acc:List Tk}{a b:Tk}{σ:LxS}{q}:({loc:=[.val (.bytes t), .val (.bytes ch), .val J5, .me, .own ad (acc.map tv++[tv a]), .val (x6 b)],me:=some σ.fs}:St)=alS t ch ad (σ,b,acc++[a],q):=by
 unfold alS
 rw[dd9]
 rfl
theorem cH4{e ts}{i:AlI}(p:AlP e ts i){q}(hq:i.2.2.2=i.2.1::q){σ a}(g:Good σ)(x:NX e σ a q):AlP e ts (σ,a,i.2.2.1++[i.2.1],q):=⟨g,by have:=p.all;rw[hq]at this;rw[cW6];exact this,x⟩
noncomputable def br4:Ns:=(.newo 3 (.cons (.loc 0) (.cons (.loc 1) (.cons (.loc 2) .nil))) 4 (.cons (.asg 5 (.meth 3 0 .nil)) (.cons (.whl (.cmp .NotEq (.rf 0 (.loc 5)) (.gi 12)) (.cons (.ex (.app 4 (.tup (.cons (.rf 0 (.loc 5)) (.cons (.rf 1 (.loc 5)) .nil))))) (.cons (.asg 5 (.meth 3 0 .nil)) .nil))) (.frz 4 (.cons (.ret (.loc 4)) .nil)))))
theorem cF7(L ψ outer lx):w8 (t9 by3 aQ0 476 L ψ outer lx 465).env aQ0 br4 by4=true:=by kernel_rfl
theorem aY1{e:Option (Int×Bs×Bs)}{ts:List Tk}{t ch:Bs}(ht:t.length<=5000)(hl:ts.length<=5000)(hch:Cs X 4 (.ref 180) 0 [.bytes ch, .int 80] none (λv m=>v= .bytes [113]/\m=none) v4)(hrun:Run e ts t 1):Cs X 15 (.ref 476) 0 [.bytes t, .bytes ch,J5] none (λv m=>e=none/\v= .lst (ts.map tv)/\m=none) (λmsg=>∃x,e=some x/\msg=u3 [113] x.1 x.2.1 x.2.2):=by
 have hR:∀x,e=some x->(λmsg=>∃x,e=some x/\msg=u3 [113] x.1 x.2.1 x.2.2) (u3 [113] x.1 x.2.1 x.2.2):=λx h=>⟨x,h,rfl⟩
 refine Cs.scF (n:=12) (cG6 _) br4 cF7 rfl ?_
 refine⟨rfl,_,⟨d7 _,(am4 ht hch).up (by decide)⟩,λb=>(aZ3 (al7 ht) hrun (by decide) hR λσ1 a1 g1 x1=>⟨d7 _,(w7 (alS t ch b) (AlP e ts) (λi=>i.2.2.2.length) (_,_,[],ts) rfl ⟨g1,rfl,x1⟩ (λi p=>⟨rfl,rfl,⟨λh1=>⟨rfl,rfl,⟨rfl,rfl,⟨d5,⟨rfl, ?_,(db3 (AlP.more p h1) λq ⟨hq,hr⟩=>aZ3 p.good hr (by decide) hR λσ2 a2 g2 x2=>⟨d7 _,⟨_, ?_,(σ2,a2,i.2.2.1++[i.2.1],q),rfl,cH4 p hq g2 x2, ?_⟩⟩)⟩⟩⟩⟩,λh1=>⟨nofun,rfl, ?_⟩⟩⟩))⟩)⟩
 ·exact cg5 p hl
 ·exact cD7 hq
 ·exact cs3
 ·have:=p.eos h1;exact⟨this.2,by rw[←this.1],rfl⟩
end
section
variable {X:Cx}
noncomputable def gapT:List (Bs×Int):=[([32],0),([10],1),([13,10],1),([10,13],1),([13],1),([9,32],0),([32,45,45,120,32,93,93,32,121,10],1),([32,45,45,91,91,121,10,93,93,32],1),([32,45,45,91,61,61,91,32,93,93,32,91,91,32,13,10,93,61,93,93,61,61,93],1),([32,45,45,91,61,120,13],1),([10,10,13,12],2),([11,45,45,10,13,32],1)]
noncomputable def badT:List (Bs×Bs):=[([34,97,98,10],[117,110,102,105,110,105,115,104,101,100,32,115,116,114,105,110,103,32,110,101,97,114,32,39,34,97,98,39]),([39,97],[117,110,102,105,110,105,115,104,101,100,32,115,116,114,105,110,103,32,110,101,97,114,32,39,60,101,111,102,62,39]),([49,50,120],[109,97,108,102,111,114,109,101,100,32,110,117,109,98,101,114,32,110,101,97,114,32,39,49,50,120,39]),([49,46,46,50],[109,97,108,102,111,114,109,101,100,32,110,117,109,98,101,114,32,110,101,97,114,32,39,49,46,46,50,39]),([39,92,50,53,54,39],[101,115,99,97,112,101,32,115,101,113,117,101,110,99,101,32,116,111,111,32,108,97,114,103,101,32,110,101,97,114,32,39,39,39]),([91,61,120],[105,110,118,97,108,105,100,32,108,111,110,103,32,115,116,114,105,110,103,32,100,101,108,105,109,105,116,101,114,32,110,101,97,114,32,39,91,61,39]),([91,91,97,91,91],[110,101,115,116,105,110,103,32,111,102,32,91,91,46,46,46,93,93,32,105,115,32,100,101,112,114,101,99,97,116,101,100,32,110,101,97,114,32,39,91,39]),([91,61,91,97,93,93],[117,110,102,105,110,105,115,104,101,100,32,108,111,110,103,32,115,116,114,105,110,103,32,110,101,97,114,32,39,60,101,111,102,62,39]),([45,45,91,91,97],[117,110,102,105,110,105,115,104,101,100,32,108,111,110,103,32,99,111,109,109,101,110,116,32,110,101,97,114,32,39,60,101,111,102,62,39]),([46,53],[109,97,108,102,111,114,109,101,100,32,110,117,109,98,101,114,32,110,101,97,114,32,39,46,53,39]),([39,92],[117,110,102,105,110,105,115,104,101,100,32,115,116,114,105,110,103,32,110,101,97,114,32,39,60,101,111,102,62,39]),([48,120],[109,97,108,102,111,114,109,101,100,32,110,117,109,98,101,114,32,110,101,97,114,32,39,48,120,39]),([49,101,43,53],[109,97,108,102,111,114,109,101,100,32,110,117,109,98,101,114,32,110,101,97,114,32,39,49,101,43,53,39]),([55,69,45,120],[109,97,108,102,111,114,109,101,100,32,110,117,109,98,101,114,32,110,101,97,114,32,39,55,69,45,120,39])]
noncomputable def sgT:Bs:=[43,45,42,47,37,94,35,60,62,61,40,41,123,125,91,93,59,58,44,46,126,64]
noncomputable def s6T:List (Bs×Int):=[([46,46],278),([46,46,46],279),([61,61],280),([62,61],281),([60,61],282),([126,61],283)]
noncomputable def signT:List (Bs×Int):=s6T++sgT.map λc=>([c],(c.toNat:Int))
noncomputable def pr(p:Bs×Int):V:= .tup [.bytes p.1, .int p.2]
noncomputable def pb(p:Bs×Bs):V:= .tup [.bytes p.1, .bytes p.2]
theorem words_eq:words.map V.bytes=[.bytes [97,110,100], .bytes [98,114,101,97,107], .bytes [100,111], .bytes [101,108,115,101], .bytes [101,108,115,101,105,102], .bytes [101,110,100], .bytes [102,97,108,115,101], .bytes [102,111,114], .bytes [102,117,110,99,116,105,111,110], .bytes [105,102], .bytes [105,110], .bytes [108,111,99,97,108], .bytes [110,105,108], .bytes [110,111,116], .bytes [111,114], .bytes [114,101,112,101,97,116], .bytes [114,101,116,117,114,110], .bytes [116,104,101,110], .bytes [116,114,117,101], .bytes [117,110,116,105,108], .bytes [119,104,105,108,101]]:=by kernel_rfl
noncomputable def bt9:Ns:=(.cons (.ret (.lst (.cons (.byt [97,110,100]) (.cons (.byt [98,114,101,97,107]) (.cons (.byt [100,111]) (.cons (.byt [101,108,115,101]) (.cons (.byt [101,108,115,101,105,102]) (.cons (.byt [101,110,100]) (.cons (.byt [102,97,108,115,101]) (.cons (.byt [102,111,114]) (.cons (.byt [102,117,110,99,116,105,111,110]) (.cons (.byt [105,102]) (.cons (.byt [105,110]) (.cons (.byt [108,111,99,97,108]) (.cons (.byt [110,105,108]) (.cons (.byt [110,111,116]) (.cons (.byt [111,114]) (.cons (.byt [114,101,112,101,97,116]) (.cons (.byt [114,101,116,117,114,110]) (.cons (.byt [116,104,101,110]) (.cons (.byt [116,114,117,101]) (.cons (.byt [117,110,116,105,108]) (.cons (.byt [119,104,105,108,101]) .nil))))))))))))))))))))))) .nil)
theorem ct2(L ψ outer lx):w8 (t9 bG3 aJ9 483 L ψ outer lx 465).env aJ9 bt9 bE6=true:=by kernel_rfl
theorem P3:Cs X 3 (.ref 483) 0 [] none (λv m=>v= .lst (words.map .bytes)/\m=none) v4:=by
 refine Cs.scF (n:=0) (cR4 _) bt9 ct2 rfl ?_
 refine⟨d5,⟨rfl, ?_⟩⟩
 exact⟨congrArg V.lst words_eq.symm,rfl⟩
noncomputable def bK4:Ns:=(.cons (.ret (.lst (.cons (.tup (.cons (.byt [32]) (.cons (.int 0) .nil))) (.cons (.tup (.cons (.byt [10]) (.cons (.int 1) .nil))) (.cons (.tup (.cons (.byt [13,10]) (.cons (.int 1) .nil))) (.cons (.tup (.cons (.byt [10,13]) (.cons (.int 1) .nil))) (.cons (.tup (.cons (.byt [13]) (.cons (.int 1) .nil))) (.cons (.tup (.cons (.byt [9,32]) (.cons (.int 0) .nil))) (.cons (.tup (.cons (.byt [32,45,45,120,32,93,93,32,121,10]) (.cons (.int 1) .nil))) (.cons (.tup (.cons (.byt [32,45,45,91,91,121,10,93,93,32]) (.cons (.int 1) .nil))) (.cons (.tup (.cons (.byt [32,45,45,91,61,61,91,32,93,93,32,91,91,32,13,10,93,61,93,93,61,61,93]) (.cons (.int 1) .nil))) (.cons (.tup (.cons (.byt [32,45,45,91,61,120,13]) (.cons (.int 1) .nil))) (.cons (.tup (.cons (.byt [10,10,13,12]) (.cons (.int 2) .nil))) (.cons (.tup (.cons (.byt [11,45,45,10,13,32]) (.cons (.int 1) .nil))) .nil)))))))))))))) .nil)
theorem cv2(L ψ outer lx):w8 (t9 bA5 bb9 490 L ψ outer lx 465).env bb9 bK4 bF9=true:=by kernel_rfl
theorem T9:Cs X 3 (.ref 490) 0 [] none (λv m=>v= .lst (gapT.map pr)/\m=none) v4:=by
 refine Cs.scF (n:=0) (cG8 _) bK4 cv2 rfl ?_
 refine⟨d5,⟨d5,⟨d5,⟨d5,⟨d5,⟨d5,⟨d5,⟨d5,⟨d5,⟨d5,⟨d5,⟨d5,⟨d5,⟨rfl, ?_⟩⟩⟩⟩⟩⟩⟩⟩⟩⟩⟩⟩⟩⟩
 exact⟨rfl,rfl⟩
noncomputable def bH3:Ns:=(.cons (.ret (.lst (.cons (.tup (.cons (.byt [34,97,98,10]) (.cons (.byt [117,110,102,105,110,105,115,104,101,100,32,115,116,114,105,110,103,32,110,101,97,114,32,39,34,97,98,39]) .nil))) (.cons (.tup (.cons (.byt [39,97]) (.cons (.byt [117,110,102,105,110,105,115,104,101,100,32,115,116,114,105,110,103,32,110,101,97,114,32,39,60,101,111,102,62,39]) .nil))) (.cons (.tup (.cons (.byt [49,50,120]) (.cons (.byt [109,97,108,102,111,114,109,101,100,32,110,117,109,98,101,114,32,110,101,97,114,32,39,49,50,120,39]) .nil))) (.cons (.tup (.cons (.byt [49,46,46,50]) (.cons (.byt [109,97,108,102,111,114,109,101,100,32,110,117,109,98,101,114,32,110,101,97,114,32,39,49,46,46,50,39]) .nil))) (.cons (.tup (.cons (.byt [39,92,50,53,54,39]) (.cons (.byt [101,115,99,97,112,101,32,115,101,113,117,101,110,99,101,32,116,111,111,32,108,97,114,103,101,32,110,101,97,114,32,39,39,39]) .nil))) (.cons (.tup (.cons (.byt [91,61,120]) (.cons (.byt [105,110,118,97,108,105,100,32,108,111,110,103,32,115,116,114,105,110,103,32,100,101,108,105,109,105,116,101,114,32,110,101,97,114,32,39,91,61,39]) .nil))) (.cons (.tup (.cons (.byt [91,91,97,91,91]) (.cons (.byt [110,101,115,116,105,110,103,32,111,102,32,91,91,46,46,46,93,93,32,105,115,32,100,101,112,114,101,99,97,116,101,100,32,110,101,97,114,32,39,91,39]) .nil))) (.cons (.tup (.cons (.byt [91,61,91,97,93,93]) (.cons (.byt [117,110,102,105,110,105,115,104,101,100,32,108,111,110,103,32,115,116,114,105,110,103,32,110,101,97,114,32,39,60,101,111,102,62,39]) .nil))) (.cons (.tup (.cons (.byt [45,45,91,91,97]) (.cons (.byt [117,110,102,105,110,105,115,104,101,100,32,108,111,110,103,32,99,111,109,109,101,110,116,32,110,101,97,114,32,39,60,101,111,102,62,39]) .nil))) (.cons (.tup (.cons (.byt [46,53]) (.cons (.byt [109,97,108,102,111,114,109,101,100,32,110,117,109,98,101,114,32,110,101,97,114,32,39,46,53,39]) .nil))) (.cons (.tup (.cons (.byt [39,92]) (.cons (.byt [117,110,102,105,110,105,115,104,101,100,32,115,116,114,105,110,103,32,110,101,97,114,32,39,60,101,111,102,62,39]) .nil))) (.cons (.tup (.cons (.byt [48,120]) (.cons (.byt [109,97,108,102,111,114,109,101,100,32,110,117,109,98,101,114,32,110,101,97,114,32,39,48,120,39]) .nil))) (.cons (.tup (.cons (.byt [49,101,43,53]) (.cons (.byt [109,97,108,102,111,114,109,101,100,32,110,117,109,98,101,114,32,110,101,97,114,32,39,49,101,43,53,39]) .nil))) (.cons (.tup (.cons (.byt [55,69,45,120]) (.cons (.byt [109,97,108,102,111,114,109,101,100,32,110,117,109,98,101,114,32,110,101,97,114,32,39,55,69,45,120,39]) .nil))) .nil)))))))))))))))) .nil)
theorem cD2(L ψ outer lx):w8 (t9 bs4 aK8 497 L ψ outer lx 465).env aK8 bH3 bx3=true:=by kernel_rfl
theorem Y5:Cs X 3 (.ref 497) 0 [] none (λv m=>v= .lst (badT.map pb)/\m=none) v4:=by
 refine Cs.scF (n:=0) (cS6 _) bH3 cD2 rfl ?_
 refine⟨d5,⟨d5,⟨d5,⟨d5,⟨d5,⟨d5,⟨d5,⟨d5,⟨d5,⟨d5,⟨d5,⟨d5,⟨d5,⟨d5,⟨d5,⟨rfl, ?_⟩⟩⟩⟩⟩⟩⟩⟩⟩⟩⟩⟩⟩⟩⟩⟩
 exact⟨rfl,rfl⟩
noncomputable abbrev sgS(i:Addr×Nat×Sl):St:= {loc:=[.own i.1 (s6T.map pr++(sgT.take i.2.1).map λc=>pr ([c],(c.toNat:Int))),i.2.2],me:=none}
noncomputable abbrev sgJ(a:Addr):Nat->St->Prop:=JF (λi=>sgS (a,i)) λk i=>i.1=k
theorem co6{k:Nat}{w:V}(h:(sgT.map λc:UInt8=>V.int (c.toNat:Int))[k]? =some w):∃c,sgT[k]? =some c/\w= .int (c.toNat:Int):=by
 rw[cX2]at h
 cases e:sgT[k]? with
 |none=>rw[e]at h;cases h
 |some c=>rw[e]at h;cases h;exact⟨c,rfl,rfl⟩
theorem cL2(c:UInt8):byt [(c.toNat:Int)]=[c]:=by
 show [((c.toNat:Int).toNat).toUInt8]=[c]
 simp
theorem cl8{a:Addr}{k:Nat}{c:UInt8}(h:sgT[k]? =some c):({loc:=[.own a (s6T.map pr++(sgT.take k).map (λc=>pr ([c],(c.toNat:Int)))++[.tup [.bytes (byt [(c.toNat:Int)]), .int (c.toNat:Int)]]), .val (.int (c.toNat:Int))],me:=none}:St)=sgS (a,k+1, .val (.int (c.toNat:Int))):=by
 unfold sgS
 rw[cL2,dh5,h,dd9, ←cW6]
 rfl
@[elab_as_elim] theorem sg_k {a:Addr} {k:Nat} {w:V} {st:St} {G:V->St->Prop} (h:(sgT.map λc:UInt8=>V.int (c.toNat:Int))[k]? =some w) (hJ:sgJ a k st) (f:∀c i,i.1=k->sgT[k]? =some c->G (.int (c.toNat:Int)) (sgS (a,i))):G w st:=by
 obtain⟨c,h1,rfl⟩:=co6 h
 exact jf_k hJ λi p=>f c i p h1
theorem bY7:s6T.map pr++(sgT.take (sgT.map λc:UInt8=>V.int (c.toNat:Int)).length).map (λc=>pr ([c],(c.toNat:Int)))=signT.map pr:=by
 rw[cW3,List.take_length];unfold signT;rw[dd9,List.map_map];rfl
theorem cb3(k:Nat):(s6T.map pr++(sgT.take k).map λc=>pr ([c],(c.toNat:Int))).length<=16777216:=by
 rw[cV7,cW3,cW3,List.length_take]
 exact cV5 (Nat.add_le_add_left (Nat.min_le_right _ _) _) (by decide)
noncomputable def bD8:Ns:=(.cons (.alst 0 (.cons (.tup (.cons (.byt [46,46]) (.cons (.gi 3) .nil))) (.cons (.tup (.cons (.byt [46,46,46]) (.cons (.gi 4) .nil))) (.cons (.tup (.cons (.byt [61,61]) (.cons (.gi 5) .nil))) (.cons (.tup (.cons (.byt [62,61]) (.cons (.gi 6) .nil))) (.cons (.tup (.cons (.byt [60,61]) (.cons (.gi 7) .nil))) (.cons (.tup (.cons (.byt [126,61]) (.cons (.gi 8) .nil))) .nil))))))) (.cons (.for 1 (.byt [43,45,42,47,37,94,35,60,62,61,40,41,123,125,91,93,59,58,44,46,126,64]) (.cons (.ex (.app 0 (.tup (.cons (.tyb (.cons (.lst (.cons (.loc 1) .nil)) .nil)) (.cons (.loc 1) .nil))))) .nil)) (.frz 0 (.cons (.ret (.loc 0)) .nil))))
theorem cn7(L ψ outer lx):w8 (t9 by5 aJ8 504 L ψ outer lx 465).env aJ8 bD8 bC7=true:=by kernel_rfl
theorem ai0:Cs X 3 (.ref 504) 0 [] none (λv m=>v= .lst (signT.map pr)/\m=none) v4:=by
 refine Cs.scF (n:=0) (cN8 _) bD8 cn7 rfl ?_
 refine⟨d5,⟨d5,⟨d5,⟨d5,⟨d5,⟨d5,⟨d5,λa=>⟨(sgT.map λc:UInt8=>V.int (c.toNat:Int)),(sgJ a),rfl,⟨(0, .un),rfl,rfl⟩,λk w st hw hJ=>sg_k hw hJ λc i p hp=>⟨d5,⟨?_,⟨d5,⟨rfl, ?_,⟨(k+1, .val (.int (c.toNat:Int))),rfl, ?_⟩⟩⟩⟩⟩,λst hJ=>jf_k hJ λi p=>⟨rfl, ?_⟩⟩⟩⟩⟩⟩⟩⟩⟩
 ·exact bE1 (b:=[c]) (cV3 rfl)
 ·exact cb3 _
 ·rw[show i=(k,i.2)from Prod.ext p rfl];exact cl8 hp
 ·rw[p];exact⟨congrArg V.lst bY7,rfl⟩
end
section
variable {X:Cx}
noncomputable def octT:List Int:=[97,10,34,39,92,0,48,13,255,93,91,9]
noncomputable def ac7:Nat->Int->List Int
 |0,_=>[]
 |k+1,n=>octT.getD ((n.fdiv 7).fmod 12).toNat 0::ac7 k (n.fdiv 7)
theorem bU6{n:Int}:(octT.map V.int)[(n.fmod 12).toNat]? =some (.int (octT.getD (n.fmod 12).toNat 0)):=by
 have h1:=cZ6 n (b:=12) (by decide)
 have h2:=da2 n (b:=12) (by decide)
 have h:(n.fmod 12).toNat < octT.length:=by show _ < 12;lia
 rw[cX2,cV8,cW2 h];rfl
theorem cT3{n:Int}:0<=n.fmod 12/\n.fmod 12 < 2 ^ 63:=⟨cZ6 n (by decide),Int.lt_trans (da2 n (by decide)) (by decide)⟩
noncomputable abbrev OcI:=Int×List Int×Sl
noncomputable abbrev ocS(a:Addr)(i:OcI):St:= {loc:=[.val (.int i.1), .own a (i.2.1.map .int),i.2.2],me:=none}
structure OcP(N:Nat)(n:Int)(k:Nat)(i:OcI):Prop where
 num:0<=i.1
 len:i.2.1.length=k
 le:k<=N
 all:i.2.1++ac7 (N - k) i.1=ac7 N n
theorem cq4{N n k i sl}(p:OcP N n k i)(h:k < N):OcP N n (k+1) (i.1.fdiv 7,i.2.1++[octT.getD ((i.1.fdiv 7).fmod 12).toNat 0],sl):=⟨Int.fdiv_nonneg p.num (by decide),by rw[cV7,p.len];rfl,h,by
 have e:=p.all
 rw[show N - k=(N - (k+1))+1 by lia]at e
 rw[cW6];exact e⟩
theorem bR3{N n k i}(p:OcP N n k i)(h:N<=5):(i.2.1.map V.int).length<=16777216:=by rw[cW3,p.len];exact cV5 p.le (cV5 h (by decide))
theorem cs1{a:Addr}{m v:Int}{l:List Int}{sl:Sl}:({loc:=[.val (.int m), .own a (l.map .int++[.int v]),sl],me:=none}:St)=ocS a (m,l++[v],sl):=by unfold ocS;rw[dd9];rfl
theorem fm5{n:Int}:(n.fmod 5).toNat<=5:=by have:=da2 n (b:=5) (by decide);lia
theorem ce0{N n i}(p:OcP N n N i):i.2.1=ac7 N n:=by have e:=p.all;rw[Nat.sub_self]at e;rwa[show ac7 0 i.1=[]from rfl,cZ4]at e
noncomputable def bI6:Ns:=(.cons (.anil 1) (.cons (.forr 2 (.bin .Mod (.loc 0) (.int 5)) (.cons (.asg 0 (.bin .FloorDiv (.loc 0) (.int 7))) (.cons (.ex (.app 1 (.sub (.lst (.cons (.int 97) (.cons (.int 10) (.cons (.int 34) (.cons (.int 39) (.cons (.int 92) (.cons (.int 0) (.cons (.int 48) (.cons (.int 13) (.cons (.int 255) (.cons (.int 93) (.cons (.int 91) (.cons (.int 9) .nil))))))))))))) (.bin .Mod (.loc 0) (.int 12))))) .nil))) (.frz 1 (.cons (.ret (.loc 1)) .nil))))
theorem cm7(L ψ outer lx):w8 (t9 bD4 aK1 511 L ψ outer lx 465).env aK1 bI6 bK7=true:=by kernel_rfl
theorem ac9{n:Int}(h:0<=n):Cs X 3 (.ref 511) 0 [.int n] none (λv m=>v= .lst ((ac7 (n.fmod 5).toNat n).map .int)/\m=none) v4:=by
 refine Cs.scF (n:=0) (cS2 _) bI6 cm7 rfl ?_
 refine λa=>⟨?_,⟨?_,JF (ocS a) (OcP (n.fmod 5).toNat n),⟨(n,[], .un),⟨h,rfl,cY8 _,rfl⟩,rfl⟩,λk st hk hJ=>jf_k hJ λi p=>⟨?_,⟨d5,⟨?_,⟨?_,_,bU6,⟨rfl, ?_,⟨_,cq4 (sl:= .val (.int (k:Int))) p hk, ?_⟩⟩⟩⟩⟩⟩,λst hJ=>jf_k hJ λi p=>⟨rfl, ?_⟩⟩⟩
 ·decide
 ·exact⟨cZ6 n (by decide),da4 (Int.le_of_lt (da2 n (by decide))) (by decide)⟩
 ·exact⟨by decide,by decide⟩
 ·decide
 ·exact cT3
 ·exact bR3 p fm5
 ·exact cs1
 ·exact⟨congrArg (λl=>V.lst (l.map V.int)) (ce0 p),rfl⟩
end
section
variable {X:Cx}
noncomputable def digC:Bs:=[48,49,50,51,52,53,54,55,56,57,97,98,99,100,101,102]
noncomputable def M9:Nat->Nat->Nat->Bs->Bs
 |0,_,_,acc=>acc
 |f+1,b,n,acc=>if n=0/\acc≠[]then acc else M9 f b (n / b) (digC.getD (n % b) 0::acc)
noncomputable def l5(b n:Nat):Bs:=M9 (n+2) b n []
noncomputable abbrev ldS(b:Nat)(i:Nat×Bs):St:= {loc:=[.val (.int (i.1:Nat)), .val (.int (b:Nat)), .val (.bytes i.2)],me:=none}
noncomputable def ldM(i:Nat×Bs):Nat:=i.1+if i.2=[]then 1 else 0
structure LdP(b n:Nat)(i:Nat×Bs):Prop where
 eq:∃f,ldM i < f/\M9 f b i.1 i.2=l5 b n
 few:i.1 * 2 ^ i.2.length<=n
theorem bO4{b n}:LdP b n (n,[]):=⟨⟨n+2,cZ9 _,rfl⟩,by rw[dh3,Nat.pow_zero,Nat.mul_one];exact cX4 _⟩
theorem ao2{b:Nat}{i:Nat×Bs}{c:UInt8}(hb:2<=b)(h:¬ (i.1=0/\i.2≠[])):ldM (i.1 / b,c::i.2)< ldM i:=by
 unfold ldM
 rw[if_neg (by simp)]
 by_cases e:i.1=0
 ·have h2:i.2=[]:=Classical.byContradiction λq=>h ⟨e,q⟩
  rw[if_pos h2,e,Nat.zero_div];exact Nat.zero_lt_one
 ·exact da7 (Nat.div_lt_self (Nat.pos_of_ne_zero e) hb) (de6 _ _)
theorem bE7{b n:Nat}{i:Nat×Bs}(p:LdP b n i)(hb:2<=b)(h:¬ (i.1=0/\i.2≠[])):LdP b n (i.1 / b,digC.getD (i.1 % b) 0::i.2):=by
 obtain⟨⟨f,h1,h2⟩,h3⟩:=p
 cases f with
 |zero=>exact absurd h1 (Nat.not_lt_zero _)
 |succ f=>
  refine⟨⟨f,da7 (ao2 hb h) (Nat.le_of_lt_succ h1), ?_⟩, ?_⟩
  ·rw[←h2];exact(if_neg h).symm
  ·refine cV5 ?_ h3
   show i.1 / b * 2 ^ (i.2.length+1)<=_
   rw[Nat.pow_succ,Nat.mul_comm (2 ^ _) 2, ←Nat.mul_assoc]
   exact Nat.mul_le_mul_right _ (cV5 (dd5 _ hb) (Nat.div_mul_le_self _ _))
theorem bS3{b n:Nat}{i:Nat×Bs}(p:LdP b n i)(h:i.1=0/\i.2≠[]):i.2=l5 b n:=by
 obtain⟨⟨f,h1,h2⟩,_⟩:=p
 cases f with
 |zero=>exact absurd h1 (Nat.not_lt_zero _)
 |succ f=>rw[←h2];exact(if_pos h).symm
theorem aO8{b n:Nat}{i:Nat×Bs}(p:LdP b n i)(hn:n < 2 ^ 30)(h:¬ (i.1=0/\i.2≠[])):i.2.length<=30:=by
 by_cases e:i.1=0
 ·have h2:i.2=[]:=Classical.byContradiction λq=>h ⟨e,q⟩
  rw[h2];exact cY8 _
 ·have h3:2 ^ i.2.length<=n:=cV5 (Nat.le_mul_of_pos_left _ (Nat.pos_of_ne_zero e)) p.few
  exact Nat.le_of_lt ((Nat.pow_lt_pow_iff_right (by decide)).mp (db2 h3 hn))
theorem bZ5(m b:Nat):(m:Int).fmod (b:Int)=((m % b:Nat):Int):=(Int.fmod_eq_emod_of_nonneg _ (da1 _)).trans (Int.natCast_emod _ _).symm
theorem ca5(m b:Nat):(m:Int).fdiv (b:Int)=((m / b:Nat):Int):=(Int.fdiv_eq_ediv_of_nonneg _ (da1 _)).trans (Int.natCast_ediv _ _).symm
theorem cd8:∀k,k < 16->F2 digC (some ((k:Nat):Int)) (some ((k:Nat)+1:Int))=[digC.getD k 0]:=by decide+kernel
theorem bD3{m b:Nat}{acc:Bs}(h0:2<=b)(hb:b<=16):({loc:=[.val (.int ((m:Int).fdiv (b:Int))), .val (.int b), .val (.bytes (F2 digC (some ((m:Int).fmod (b:Int))) (some ((m:Int).fmod (b:Int)+1))++acc))],me:=none}:St)=ldS b (m / b,digC.getD (m % b) 0::acc):=by
 rw[bZ5,ca5,cd8 _ (da7 (Nat.mod_lt _ (da7 (by decide) h0)) hb)]
 rfl
theorem bF7{x:Int}:(F2 digC (some x) (some (x+1))).length<=16:=ay3 _ _ _
theorem ld1{m:Nat}{l:Bs}(h:decide ((m:Int) > 0)=true):¬ (m=0/\l≠[]):=λe=>by have h:=of_decide_eq_true h;lia
theorem ld2{m:Nat}{l:Bs}(h:(l== [])=true):¬ (m=0/\l≠[]):=λe=>e.2 (beq_iff_eq.mp h)
theorem ld3{m:Nat}{l:Bs}(h1:decide ((m:Int) > 0)=false)(h2:(l== [])=false):m=0/\l≠[]:=⟨by have h:=of_decide_eq_false h1;lia,λe=>by rw[e]at h2;exact cV2 h2⟩
theorem az6{b:Nat}(h:2<=b):(b:Int)≠0:=by lia
theorem bu1{b:Nat}(h:2<=b)(h':b<=16):(b:Int)≠0/\(b:Int).natAbs < 1073741824:=by lia
noncomputable def bA9:Ns:=(.cons (.asg 2 (.byt [])) (.cons (.whl (.tany (.cons (.cmp .Gt (.loc 0) (.int 0)) (.cons (.cmp .Eq (.loc 2) (.byt [])) .nil))) (.cons (.asg 2 (.bin .Add (.slc (.byt [48,49,50,51,52,53,54,55,56,57,97,98,99,100,101,102]) (.cons (.bin .Mod (.loc 0) (.loc 1)) .nil) (.cons (.bin .Add (.bin .Mod (.loc 0) (.loc 1)) (.int 1)) .nil)) (.loc 2))) (.cons (.asg 0 (.bin .FloorDiv (.loc 0) (.loc 1))) .nil))) (.cons (.ret (.loc 2)) .nil)))
theorem ci5(L ψ outer lx):w8 (t9 bt2 aK4 530 L ψ outer lx 465).env aK4 bA9 bJ8=true:=by kernel_rfl
theorem B0{n b:Nat}(hn:n < 2 ^ 30)(hb:2<=b)(hb2:b<=16):Cs X 3 (.ref 530) 0 [.int n, .int b] none (λv m=>v= .bytes (l5 b n)/\m=none) v4:=by
 refine Cs.scF (n:=0) (cN1 _) bA9 ci5 rfl ?_
 refine(w7 (ldS b) (LdP b n) ldM (n,[]) rfl bO4 (λi p=>⟨λh2=>⟨λH=>⟨?_,⟨?_,⟨?_,⟨?_,⟨?_,⟨_, ?_,(i.1 / b,digC.getD (i.1 % b) 0::i.2),rfl, ?_, ?_⟩⟩⟩⟩⟩⟩,nofun⟩,λh2=>⟨λh1=>⟨λH=>⟨?_,⟨?_,⟨?_,⟨?_,⟨?_,⟨_, ?_,(i.1 / b,digC.getD (i.1 % b) 0::i.2),rfl, ?_, ?_⟩⟩⟩⟩⟩⟩,nofun⟩,λh1=>⟨nofun,λH=>⟨rfl, ?_⟩⟩⟩⟩))
 ·exact az6 hb
 ·exact az6 hb
 ·exact cV3 rfl
 ·exact cV5 (cW8 bF7 (aO8 p hn (ld1 h2))) (cV3 rfl)
 ·exact bu1 hb hb2
 ·exact ao2 hb (ld1 h2)
 ·exact bE7 p hb (ld1 h2)
 ·exact bD3 hb hb2
 ·exact az6 hb
 ·exact az6 hb
 ·exact cV3 rfl
 ·exact cV5 (cW8 bF7 (aO8 p hn (ld2 h1))) (cV3 rfl)
 ·exact bu1 hb hb2
 ·exact ao2 hb (ld2 h1)
 ·exact bE7 p hb (ld2 h1)
 ·exact bD3 hb hb2
 ·exact⟨congrArg V.bytes (bS3 p (ld3 h2 h1)),rfl⟩
end
section
variable {X:Cx}
noncomputable def cL8:List (Int×Bs):=[(10,[110]),(13,[114]),(9,[116]),(92,[92]),(34,[34]),(39,[39])]
noncomputable def H5(c:Int):Option Bs:=aG8 cL8 (λH=>none) c
noncomputable def aw3(mark:Bs)(c:Int):Bool:=if(!([10,13,92]:List Int).contains c)=true then !(byt [c] ==mark)else !([10,13,92]:List Int).contains c
noncomputable def aJ1(c:Int):Bs:=byt [48+c.fdiv 100,48+ (c.fdiv 10).fmod 10,48+c.fmod 10]
noncomputable def aa0(o:Option Bs)(m c:Int):Bs:=match o with|some l=>if m.fmod 3 < 2 then [92]++l else [92]++aJ1 c|none=>[92]++aJ1 c
noncomputable def C9(mark:Bs)(m c:Int):Bs×Int:=
 if aw3 mark c=true/\(m.fmod 3==0)=true then(byt [c],0)
 else if(c==10)=true/\(m.fmod 3==1)=true then([92,10],1)
 else(aa0 (H5 c) m c,0)
noncomputable def n0(mark:Bs):Int->List Int->Bs×Int
 |_,[]=>([],0)
 |m,c::l=>((C9 mark (m.fdiv 3) c).1++(n0 mark (m.fdiv 3) l).1,(C9 mark (m.fdiv 3) c).2+ (n0 mark (m.fdiv 3) l).2)
noncomputable def B5(n:Int):Bs:=if(n.fmod 2==0)=true then [39]else [34]
noncomputable def ao8(n:Int)(l:List Int):Bs×Int:=(B5 n++(n0 (B5 n) n l).1++B5 n,(n0 (B5 n) n l).2)
structure QuI where
 num:Int
 found:Bs
 ends:Int
noncomputable abbrev quS(l:List V)(mark:Bs)(i:QuI)(a b c:Sl):St:= {loc:=[.val (.int i.num), .val (.lst l), .val (.bytes mark), .val (.bytes i.found), .val (.int i.ends),a,b,c],me:=none}
noncomputable abbrev quN(l:List V)(mark:Bs)(i:QuI)(c:Int)(p:Bool):St:=quS l mark ⟨i.num,i.found++(C9 mark i.num c).1,i.ends+ (C9 mark i.num c).2⟩ (.val (.int c)) (.val (.bool p)) (.val (O7 (H5 c)))
theorem aX5{c:Int}(h:0<=c/\c < 256):n9 [V.int c]=true/\(∀i∈i5 [V.int c],0<=i/\i < 256)/\[V.int c].length<=16777216:=⟨rfl,λi hi=>(cW0.mp hi)▸h,cV3 rfl⟩
theorem bS9{a b c:Int}(h:(0<=a/\a < 256)/\(0<=b/\b < 256)/\(0<=c/\c < 256)):n9 [V.int a,V.int b,V.int c]=true/\(∀i∈i5 [V.int a,V.int b,V.int c],0<=i/\i < 256)/\[V.int a,V.int b,V.int c].length<=16777216:=⟨rfl,λi hi=>by
 rcases cY1.mp hi with rfl|hi
 ·exact h.1
 ·rcases cY1.mp hi with rfl|hi
  ·exact h.2.1
  ·exact(cW0.mp hi)▸h.2.2,cV3 rfl⟩
theorem aN9:∀n:Nat,n < 256->(0<=48+ (n:Int).fdiv 100/\48+ (n:Int).fdiv 100 < 256)/\(0<=48+ ((n:Int).fdiv 10).fmod 10/\48+ ((n:Int).fdiv 10).fmod 10 < 256)/\(0<=48+ (n:Int).fmod 10/\48+ (n:Int).fmod 10 < 256):=by decide+kernel
theorem bi0{c:Int}(h:0<=c/\c < 256):(0<=48+c.fdiv 100/\48+c.fdiv 100 < 256)/\(0<=48+ (c.fdiv 10).fmod 10/\48+ (c.fdiv 10).fmod 10 < 256)/\(0<=48+c.fmod 10/\48+c.fmod 10 < 256):=by
 obtain⟨n,rfl⟩:=Int.eq_ofNat_of_zero_le h.1
 exact aN9 n (dh8.mp h.2)
theorem cT8:(100:Int)≠0/\(100:Int).natAbs < 1073741824:=⟨by decide,by decide⟩
theorem z10:(10:Int)≠0/\(10:Int).natAbs < 1073741824:=⟨by decide,by decide⟩
theorem cw3:(10:Int)≠0:=by decide
theorem z3:(3:Int)≠0/\(3:Int).natAbs < 1073741824:=⟨by decide,by decide⟩
theorem z3':(3:Int)≠0:=by decide
theorem E3{a b:Bs}{k:Nat}(h:a.length<=1000)(hb:b.length<=k)(hk:Nat.ble k 1000=true):a.length+b.length<=16777216:=by have:=cV3 hk;lia
noncomputable def bS5:Ns:=(.cons (.asg 3 (.bin .Add (.bin .Add (.loc 3) (.byt [92])) (.tyb (.cons (.lst (.cons (.bin .Add (.int 48) (.bin .FloorDiv (.loc 5) (.int 100))) (.cons (.bin .Add (.int 48) (.bin .Mod (.bin .FloorDiv (.loc 5) (.int 10)) (.int 10))) (.cons (.bin .Add (.int 48) (.bin .Mod (.loc 5) (.int 10))) .nil)))) .nil)))) .nil)
noncomputable def ay6:Ns:=(.cons (.ite (.tall (.cons (.cmp .IsNot (.loc 7) .non) (.cons (.cmp .Lt (.bin .Mod (.loc 0) (.int 3)) (.int 2)) .nil))) (.cons (.asg 3 (.bin .Add (.bin .Add (.loc 3) (.byt [92])) (.loc 7))) .nil) (.cons (.asg 3 (.bin .Add (.bin .Add (.loc 3) (.byt [92])) (.tyb (.cons (.lst (.cons (.bin .Add (.int 48) (.bin .FloorDiv (.loc 5) (.int 100))) (.cons (.bin .Add (.int 48) (.bin .Mod (.bin .FloorDiv (.loc 5) (.int 10)) (.int 10))) (.cons (.bin .Add (.int 48) (.bin .Mod (.loc 5) (.int 10))) .nil)))) .nil)))) .nil)) .nil)
noncomputable def cf7:Ns:=(.cons (.ite (.tall (.cons (.cmp .Eq (.loc 5) (.int 10)) (.cons (.cmp .Eq (.bin .Mod (.loc 0) (.int 3)) (.int 1)) .nil))) (.cons (.as2 [4,3] (.cons (.bin .Add (.loc 3) (.byt [92,10])) (.cons (.bin .Add (.loc 4) (.int 1)) .nil))) .nil) (.cons (.ite (.tall (.cons (.cmp .IsNot (.loc 7) .non) (.cons (.cmp .Lt (.bin .Mod (.loc 0) (.int 3)) (.int 2)) .nil))) (.cons (.asg 3 (.bin .Add (.bin .Add (.loc 3) (.byt [92])) (.loc 7))) .nil) (.cons (.asg 3 (.bin .Add (.bin .Add (.loc 3) (.byt [92])) (.tyb (.cons (.lst (.cons (.bin .Add (.int 48) (.bin .FloorDiv (.loc 5) (.int 100))) (.cons (.bin .Add (.int 48) (.bin .Mod (.bin .FloorDiv (.loc 5) (.int 10)) (.int 10))) (.cons (.bin .Add (.int 48) (.bin .Mod (.loc 5) (.int 10))) .nil)))) .nil)))) .nil)) .nil)) .nil)
noncomputable def cb8:Ns:=(.cons (.ite (.tall (.cons (.cons (.loc 6) .nil) (.cons (.cmp .Eq (.bin .Mod (.loc 0) (.int 3)) (.int 0)) .nil))) (.cons (.asg 3 (.bin .Add (.loc 3) (.tyb (.cons (.lst (.cons (.loc 5) .nil)) .nil)))) .nil) (.cons (.ite (.tall (.cons (.cmp .Eq (.loc 5) (.int 10)) (.cons (.cmp .Eq (.bin .Mod (.loc 0) (.int 3)) (.int 1)) .nil))) (.cons (.as2 [4,3] (.cons (.bin .Add (.loc 3) (.byt [92,10])) (.cons (.bin .Add (.loc 4) (.int 1)) .nil))) .nil) (.cons (.ite (.tall (.cons (.cmp .IsNot (.loc 7) .non) (.cons (.cmp .Lt (.bin .Mod (.loc 0) (.int 3)) (.int 2)) .nil))) (.cons (.asg 3 (.bin .Add (.bin .Add (.loc 3) (.byt [92])) (.loc 7))) .nil) (.cons (.asg 3 (.bin .Add (.bin .Add (.loc 3) (.byt [92])) (.tyb (.cons (.lst (.cons (.bin .Add (.int 48) (.bin .FloorDiv (.loc 5) (.int 100))) (.cons (.bin .Add (.int 48) (.bin .Mod (.bin .FloorDiv (.loc 5) (.int 10)) (.int 10))) (.cons (.bin .Add (.int 48) (.bin .Mod (.loc 5) (.int 10))) .nil)))) .nil)))) .nil)) .nil)) .nil)) .nil)
theorem q_d{l:List V}{mark:Bs}{i:QuI}{c:Int}{p:Bool}{n:Nat}{R:Bs->Prop}{Q:Fl->St->Prop}(hc:0<=c/\c < 256)(hf:i.found.length<=1000){o:Option Bs}(hq:Q .next (quS l mark ⟨i.num,i.found++([92]++aJ1 c),i.ends⟩ (.val (.int c)) (.val (.bool p)) (.val (O7 o)))):A6 X n R bS5 (quS l mark i (.val (.int c)) (.val (.bool p)) (.val (O7 o))) Q:=by
 refine⟨E3 hf (k:=1) (cX4 _) rfl,⟨cT8,⟨z10,⟨cw3,⟨cw3,⟨d5,⟨bS9 (bi0 hc),⟨?_, ?_⟩⟩⟩⟩⟩⟩⟩⟩
 ·rw[cV7]
  exact cV5 (cW8 (cW8 hf (cX4 1)) (cX4 3)) (cV3 rfl)
 ·rw[←cW6]at hq
  exact hq
theorem cO6{l:List V}{mark:Bs}{i:QuI}{c:Int}{p:Bool}{n:Nat}{R:Bs->Prop}{Q:Fl->St->Prop}(hc:0<=c/\c < 256)(hf:i.found.length<=1000)(hq:Q .next (quS l mark ⟨i.num,i.found++aa0 none i.num c,i.ends⟩ (.val (.int c)) (.val (.bool p)) (.val (O7 none)))):A6 X n R ay6 (quS l mark i (.val (.int c)) (.val (.bool p)) (.val (O7 none))) Q:=
 ⟨λh2=>cX9 (by exact cV2 h2),λh2=>⟨nofun,λH=>q_d hc hf hq⟩⟩
theorem cN7{b:Bs}(hb:b.length<=10){l:List V}{mark:Bs}{i:QuI}{c:Int}{p:Bool}{n:Nat}{R:Bs->Prop}{Q:Fl->St->Prop}(hc:0<=c/\c < 256)(hf:i.found.length<=1000)(hq:Q .next (quS l mark ⟨i.num,i.found++aa0 (some b) i.num c,i.ends⟩ (.val (.int c)) (.val (.bool p)) (.val (O7 (some b))))):A6 X n R ay6 (quS l mark i (.val (.int c)) (.val (.bool p)) (.val (O7 (some b)))) Q:=by
 refine⟨λh2=>⟨z3',⟨λh1=>⟨λH=>⟨E3 hf (k:=1) (cX4 _) rfl,⟨?_, ?_⟩⟩,nofun⟩,λh1=>⟨nofun,λH=>q_d hc hf ?_⟩⟩⟩,λh2=>cX9 (by exact cV2 h2)⟩
 ·rw[cV7]
  exact cV5 (cW8 (cW8 hf (cX4 1)) hb) (cV3 rfl)
 ·rw[show aa0 (some b) i.num c=[92]++b from if_pos (of_decide_eq_true h1), ←cW6]at hq
  exact hq
 ·rw[show aa0 (some b) i.num c=[92]++aJ1 c from if_neg (of_decide_eq_false h1)]at hq
  exact hq
theorem q_3{l:List V}{mark:Bs}{i:QuI}{c:Int}{p:Bool}{n:Nat}{R:Bs->Prop}{Q:Fl->St->Prop}(hc:0<=c/\c < 256)(hf:i.found.length<=1000)(hq:Q .next (quS l mark ⟨i.num,i.found++aa0 (H5 c) i.num c,i.ends⟩ (.val (.int c)) (.val (.bool p)) (.val (O7 (H5 c)))))(hb:∀b,H5 c=some b->b.length<=10):A6 X n R ay6 (quS l mark i (.val (.int c)) (.val (.bool p)) (.val (O7 (H5 c)))) Q:=by
 cases e:H5 c with
 |none=>rw[e]at hq;exact cO6 hc hf hq
 |some b=>rw[e]at hq;exact cN7 (hb b e) hc hf hq
noncomputable def qR2(m c:Int):Bs×Int:=if(c==10)=true/\(m.fmod 3==1)=true then([92,10],1)else(aa0 (H5 c) m c,0)
theorem q_2{l:List V}{mark:Bs}{i:QuI}{c:Int}{p:Bool}{n:Nat}{R:Bs->Prop}{Q:Fl->St->Prop}(hc:0<=c/\c < 256)(hf:i.found.length<=1000)(hq:Q .next (quS l mark ⟨i.num,i.found++(qR2 i.num c).1,i.ends+ (qR2 i.num c).2⟩ (.val (.int c)) (.val (.bool p)) (.val (O7 (H5 c)))))(hb:∀b,H5 c=some b->b.length<=10):A6 X n R cf7 (quS l mark i (.val (.int c)) (.val (.bool p)) (.val (O7 (H5 c)))) Q:=by
 refine⟨λh2=>⟨z3',⟨λh1=>⟨λH=>⟨E3 hf (k:=2) (cX4 _) rfl,⟨rfl, ?_⟩⟩,nofun⟩,λh1=>⟨nofun,λH=>q_3 hc hf ?_ hb⟩⟩⟩,λh2=>⟨nofun,λH=>q_3 hc hf ?_ hb⟩⟩
 ·rw[show qR2 i.num c=([92,10],1)from if_pos ⟨h2,h1⟩]at hq
  exact hq
 ·rw[show qR2 i.num c=(aa0 (H5 c) i.num c,0)from if_neg (λh=>by rw[h1]at h;exact cV2 h.2),db6]at hq
  exact hq
 ·rw[show qR2 i.num c=(aa0 (H5 c) i.num c,0)from if_neg (λh=>by rw[h2]at h;exact cV2 h.1),db6]at hq
  exact hq
theorem q_1{l:List V}{mark:Bs}{i:QuI}{c:Int}{p:Bool}{n:Nat}{R:Bs->Prop}{Q:Fl->St->Prop}(hc:0<=c/\c < 256)(hf:i.found.length<=1000)(hp:p=aw3 mark c)(hq:Q .next (quN l mark i c p))(hb:∀b,H5 c=some b->b.length<=10):A6 X n R cb8 (quS l mark i (.val (.int c)) (.val (.bool p)) (.val (O7 (H5 c)))) Q:=by
 unfold quN at hq
 refine⟨λh2=>⟨z3',⟨λh1=>⟨λH=>⟨d5,⟨aX5 hc,⟨E3 (b:=byt [c]) hf (k:=1) (cX4 _) rfl, ?_⟩⟩⟩,nofun⟩,λh1=>⟨nofun,λH=>q_2 hc hf ?_ hb⟩⟩⟩,λh2=>⟨nofun,λH=>q_2 hc hf ?_ hb⟩⟩
 ·rw[show C9 mark i.num c=(byt [c],0)from if_pos ⟨hp▸h2,h1⟩,db6]at hq
  exact hq
 ·rw[show C9 mark i.num c=qR2 i.num c from if_neg (λh=>by rw[h1]at h;exact cV2 h.2)]at hq
  exact hq
 ·rw[show C9 mark i.num c=qR2 i.num c from if_neg (λh=>by rw[←hp,h2]at h;exact cV2 h.1)]at hq
  exact hq
noncomputable def OL(o:Option Bs):Prop:=∀b,o=some b->b.length<=10
theorem R6{p:Prop}[Decidable p]{x y:Option Bs}(h1:OL x)(h2:OL y):OL (if p then x else y):=by split<;>assumption
theorem K7{l:Bs}(h:Nat.ble l.length 10=true):OL (some l):=λH e=>cY2 e▸cV3 h
theorem Y9(c:Int):OL (H5 c):=by
 show OL (if c=39 then some [39]else if c=34 then some [34]else if c=92 then some [92]else if c=9 then some [116]else if c=13 then some [114]else if c=10 then some [110]else none)
 refine R6 (K7 rfl) (R6 (K7 rfl) (R6 (K7 rfl) (R6 (K7 rfl) (R6 (K7 rfl) (R6 (K7 rfl) ?_)))))
 exact λH e=>nomatch e
set_option tactic.hygienic true in
theorem ag6(mark:Bs)(m c:Int):(C9 mark m c).1.length<=12:=by
 have hq:(aa0 (H5 c) m c).length<=12:=by
  have h1:=Y9 c
  unfold aa0
  split
  ·rename_i b e
   split
   ·have:=h1 b e;rw[cV7];exact cV5 (Nat.add_le_add_left this _) (cV3 rfl)
   ·exact cV3 rfl
  ·exact cV3 rfl
 unfold C9
 split
 ·exact cV3 rfl
 ·split
  ·exact cV3 rfl
  ·exact hq
noncomputable abbrev quT:=QuI×Sl×Sl×Sl
noncomputable abbrev quJ(l:List Int)(mark:Bs)(i:quT):St:=quS (l.map .int) mark i.1 i.2.1 i.2.2.1 i.2.2.2
structure QuP(l:List Int)(mark:Bs)(n:Int)(k:Nat)(i:quT):Prop where
 len:i.1.found.length<=1+12 * k
 few:k<=l.length
 a:i.1.found++(n0 mark i.1.num (l.drop k)).1=mark++(n0 mark n l).1
 b:i.1.ends+ (n0 mark i.1.num (l.drop k)).2=(n0 mark n l).2
theorem ce4{l:List Int}{mark:Bs}{n:Int}{a b c:Sl}(h:mark.length<=1):QuP l mark n 0 (⟨n,mark,0⟩,a,b,c):=⟨h,cY8 _,rfl,Int.zero_add _⟩
theorem bH9{l:List Int}{mark:Bs}{n:Int}{k:Nat}{i:quT}{c:Int}{s1 s2 s3:Sl}(p:QuP l mark n k i)(h:l[k]? =some c):QuP l mark n (k+1) (⟨i.1.num.fdiv 3,i.1.found++(C9 mark (i.1.num.fdiv 3) c).1,i.1.ends+ (C9 mark (i.1.num.fdiv 3) c).2⟩,s1,s2,s3):=by
 obtain⟨hk,e⟩:=cX6.mp h
 have hd:l.drop k=c::l.drop (k+1):=by rw[de7 hk,e]
 have ha:=p.a
 have hb:=p.b
 rw[hd]at ha hb
 refine⟨?_,hk, ?_, ?_⟩
 ·show(i.1.found++(C9 mark (i.1.num.fdiv 3) c).1).length<=_
  rw[cV7]
  have:=p.len
  have:=ag6 mark (i.1.num.fdiv 3) c
  lia
 ·rw[←ha];exact cW6 _ _ _
 ·rw[←hb];exact de9 _ _ _
theorem cf9{l:List Int}{mark:Bs}{n:Int}{i:quT}(p:QuP l mark n l.length i):i.1.found=mark++(n0 mark n l).1/\i.1.ends=(n0 mark n l).2:=by
 have ha:=p.a
 have hb:=p.b
 rw[List.drop_length]at ha hb
 exact⟨(cZ4 _).symm.trans ha,(db6 _).symm.trans hb⟩
@[elab_as_elim] theorem qu_k {l:List Int} {mark:Bs} {n:Int} {k:Nat} {w:V} {st:St} {G:V->St->Prop} (hl:∀c∈l,0<=c/\c < 256) (h:(l.map V.int)[k]? =some w) (hJ:JF (quJ l mark) (QuP l mark n) k st) (f:∀c i,(0<=c/\c < 256)->l[k]? =some c->QuP l mark n k i->G (.int c) (quJ l mark i)):G w st:=by
 rw[cX2]at h
 cases e:l[k]? with
 |none=>rw[e]at h;cases h
 |some c=>rw[e]at h;cases h;exact jf_k hJ λi p=>f c i (hl c (cW1 e)) e p
@[elab_as_elim] theorem qu_e {l:List Int} {mark:Bs} {n:Int} {st:St} {G:St->Prop} (hJ:JF (quJ l mark) (QuP l mark n) (l.map V.int).length st) (f:∀i,QuP l mark n l.length i->G (quJ l mark i)):G st:=by
 rw[cW3]at hJ;exact jf_k hJ f
theorem ay8{l:List Int}{mark:Bs}{n:Int}{k:Nat}{i:quT}(hl:l.length<=20)(p:QuP l mark n k i):i.1.found.length<=1000:=by
 have:=p.len
 have:=p.few
 lia
theorem K0(n:Int):(B5 n).length<=1:=by unfold B5;split<;>exact cX4 _
noncomputable def bW9:Ns:=(.cons (.as2 [4,3] (.cons (.loc 2) (.cons (.int 0) .nil))) (.cons (.for 5 (.loc 1) (.cons (.asg 0 (.bin .FloorDiv (.loc 0) (.int 3))) (.cons (.asg 6 (.and (.cmp .NotIn (.loc 5) (.tup (.cons (.int 10) (.cons (.int 13) (.cons (.int 92) .nil))))) (.cmp .NotEq (.tyb (.cons (.lst (.cons (.loc 5) .nil)) .nil)) (.loc 2)))) (.cons (.asg 7 (.dget [(10,[110]),(13,[114]),(9,[116]),(92,[92]),(34,[34]),(39,[39])] 5)) (.cons (.ite (.tall (.cons (.cons (.loc 6) .nil) (.cons (.cmp .Eq (.bin .Mod (.loc 0) (.int 3)) (.int 0)) .nil))) (.cons (.asg 3 (.bin .Add (.loc 3) (.tyb (.cons (.lst (.cons (.loc 5) .nil)) .nil)))) .nil) (.cons (.ite (.tall (.cons (.cmp .Eq (.loc 5) (.int 10)) (.cons (.cmp .Eq (.bin .Mod (.loc 0) (.int 3)) (.int 1)) .nil))) (.cons (.as2 [4,3] (.cons (.bin .Add (.loc 3) (.byt [92,10])) (.cons (.bin .Add (.loc 4) (.int 1)) .nil))) .nil) (.cons (.ite (.tall (.cons (.cmp .IsNot (.loc 7) .non) (.cons (.cmp .Lt (.bin .Mod (.loc 0) (.int 3)) (.int 2)) .nil))) (.cons (.asg 3 (.bin .Add (.bin .Add (.loc 3) (.byt [92])) (.loc 7))) .nil) (.cons (.asg 3 (.bin .Add (.bin .Add (.loc 3) (.byt [92])) (.tyb (.cons (.lst (.cons (.bin .Add (.int 48) (.bin .FloorDiv (.loc 5) (.int 100))) (.cons (.bin .Add (.int 48) (.bin .Mod (.bin .FloorDiv (.loc 5) (.int 10)) (.int 10))) (.cons (.bin .Add (.int 48) (.bin .Mod (.loc 5) (.int 10))) .nil)))) .nil)))) .nil)) .nil)) .nil)) .nil))))) (.cons (.ret (.tup (.cons (.bin .Add (.loc 3) (.loc 2)) (.cons (.loc 4) .nil)))) .nil)))
theorem q_0{n:Int}{l:List Int}{mark:Bs}(hm:B5 n=mark)(hl:l.length<=20)(hb:∀c∈l,0<=c/\c < 256):A6 X 2 v4 bW9 {loc:=[.val (.int n), .val (.lst (l.map .int)), .val (.bytes mark), .un, .un, .un, .un, .un],me:=none} (Pst none λv m=>v=pr (ao8 n l)/\m=none):=by
 refine⟨rfl,⟨(l.map V.int),(JF (quJ l mark) (QuP l mark n)),rfl,⟨(⟨n,mark,0⟩, .un, .un, .un),ce4 (hm▸K0 n),rfl⟩,λk w st hw hJ=>qu_k hb hw hJ λc i hc hk p=>⟨?_,⟨d5,⟨rfl,⟨λh1=>⟨d5,⟨?_,(q_1 (l:=l.map .int) (mark:=mark) (i:=⟨i.1.num.fdiv 3,i.1.found,i.1.ends⟩) (c:=c) hc (ay8 hl p) ?_ ⟨_,bH9 p hk,rfl⟩ (Y9 c))⟩⟩,λh1=>(q_1 (l:=l.map .int) (mark:=mark) (i:=⟨i.1.num.fdiv 3,i.1.found,i.1.ends⟩) (c:=c) hc (ay8 hl p) ?_ ⟨_,bH9 p hk,rfl⟩ (Y9 c))⟩⟩⟩⟩,λst hJ=>qu_e hJ λi p=>⟨?_,⟨d5,⟨rfl, ?_⟩⟩⟩⟩⟩
 ·exact z3
 ·exact aX5 hc
 ·exact(if_pos h1).symm
 ·exact(if_neg (λe=>cV2 (h1.symm.trans e))).symm
 ·exact E3 (ay8 hl p) (hm▸K0 n) rfl
 ·obtain⟨e1,e2⟩:=cf9 p
  refine⟨?_,rfl⟩
  rw[e1,e2, ←hm];rfl
noncomputable def bN0:Ns:=(.cons (.asg 2 (.ife (.cmp .Eq (.bin .Mod (.loc 0) (.int 2)) (.int 0)) (.byt [39]) (.byt [34]))) (.cons (.as2 [4,3] (.cons (.loc 2) (.cons (.int 0) .nil))) (.cons (.for 5 (.loc 1) (.cons (.asg 0 (.bin .FloorDiv (.loc 0) (.int 3))) (.cons (.asg 6 (.and (.cmp .NotIn (.loc 5) (.tup (.cons (.int 10) (.cons (.int 13) (.cons (.int 92) .nil))))) (.cmp .NotEq (.tyb (.cons (.lst (.cons (.loc 5) .nil)) .nil)) (.loc 2)))) (.cons (.asg 7 (.dget [(10,[110]),(13,[114]),(9,[116]),(92,[92]),(34,[34]),(39,[39])] 5)) (.cons (.ite (.tall (.cons (.cons (.loc 6) .nil) (.cons (.cmp .Eq (.bin .Mod (.loc 0) (.int 3)) (.int 0)) .nil))) (.cons (.asg 3 (.bin .Add (.loc 3) (.tyb (.cons (.lst (.cons (.loc 5) .nil)) .nil)))) .nil) (.cons (.ite (.tall (.cons (.cmp .Eq (.loc 5) (.int 10)) (.cons (.cmp .Eq (.bin .Mod (.loc 0) (.int 3)) (.int 1)) .nil))) (.cons (.as2 [4,3] (.cons (.bin .Add (.loc 3) (.byt [92,10])) (.cons (.bin .Add (.loc 4) (.int 1)) .nil))) .nil) (.cons (.ite (.tall (.cons (.cmp .IsNot (.loc 7) .non) (.cons (.cmp .Lt (.bin .Mod (.loc 0) (.int 3)) (.int 2)) .nil))) (.cons (.asg 3 (.bin .Add (.bin .Add (.loc 3) (.byt [92])) (.loc 7))) .nil) (.cons (.asg 3 (.bin .Add (.bin .Add (.loc 3) (.byt [92])) (.tyb (.cons (.lst (.cons (.bin .Add (.int 48) (.bin .FloorDiv (.loc 5) (.int 100))) (.cons (.bin .Add (.int 48) (.bin .Mod (.bin .FloorDiv (.loc 5) (.int 10)) (.int 10))) (.cons (.bin .Add (.int 48) (.bin .Mod (.loc 5) (.int 10))) .nil)))) .nil)))) .nil)) .nil)) .nil)) .nil))))) (.cons (.ret (.tup (.cons (.bin .Add (.loc 3) (.loc 2)) (.cons (.loc 4) .nil)))) .nil))))
theorem cj3(L ψ outer lx):w8 (t9 bJ2 aV0 518 L ψ outer lx 465).env aV0 bN0 bv5=true:=by kernel_rfl
theorem ae0{n:Int}{l:List Int}(hl:l.length<=20)(hb:∀c∈l,0<=c/\c < 256):Cs X 3 (.ref 518) 0 [.int n, .lst (l.map .int)] none (λv m=>v=pr (ao8 n l)/\m=none) v4:=by
 refine Cs.scF (n:=0) (cT4 _) bN0 cj3 rfl ?_
 refine⟨?_,⟨λh2=>(q_0 ?_ hl hb),λh2=>(q_0 ?_ hl hb)⟩⟩
 ·decide
 ·exact if_pos h2
 ·exact if_neg (λe=>cV2 (h2.symm.trans e))
end
section
variable {X:Cx}
noncomputable def lgT(n:Int):Bs:=([[10],[13,10],[10,13]]:List Bs).getD (n.fmod 3).toNat []
noncomputable def S6(n:Int)(l:List Int):Bs:=if(n.fmod 2==0)=true then [61,61]else if l.contains 91=true then [61,61]else if l.contains 93=true then [61,61]else []
noncomputable def j2(t:Bs):List Int->Bs
 | []=>[]
 |c::l=>(if(c==10)=true then t else byt [c])++j2 t l
noncomputable def q5:List Int->Int
 | []=>0
 |c::l=>(if(c==10)=true then 1 else 0)+q5 l
noncomputable def C6(n:Int)(l:List Int):Bool:=(l.take 1== [10]) ||n.fmod 5==0
noncomputable def L8(n:Int)(l:List Int):Bs×Int:=([91]++S6 n l++[91]++(if C6 n l=true then lgT n else [])++j2 (lgT n) l++[93]++S6 n l++[93],(if C6 n l=true then 1 else 0)+q5 l)
noncomputable abbrev loV(n:Int)(l:List Int):V:= .tup [.bytes (L8 n l).1, .bytes (byt l), .int (L8 n l).2]
structure LoI where
 found:Bs
 ends:Int
 sl:Sl
noncomputable abbrev loS(n:Int)(l:List V)(t lv:Bs)(i:LoI):St:= {loc:=[.val (.int n), .val (.lst l), .val (.bytes t), .val (.bytes lv), .val (.bytes i.found), .val (.int i.ends),i.sl],me:=none}
structure LoP(l:List Int)(t f0:Bs)(e0:Int)(k:Nat)(i:LoI):Prop where
 len:i.found.length<=20+2 * k
 few:k<=l.length
 a:i.found++j2 t (l.drop k)=f0++j2 t l
 b:i.ends+q5 (l.drop k)=e0+q5 l
theorem aA8{l:List Int}{t f0:Bs}{e0:Int}{k:Nat}{i:LoI}{c:Int}{s:Sl}{d:Bs}{e:Int}(ht:t.length<=2)(p:LoP l t f0 e0 k i)(h:l[k]? =some c)(hd:(if(c==10)=true then t else byt [c])=d)(he:(if(c==10)=true then(1:Int)else 0)=e):LoP l t f0 e0 (k+1) ⟨i.found++d,i.ends+e,s⟩:=by
 obtain⟨hk,e1⟩:=cX6.mp h
 have e2:l.drop k=c::l.drop (k+1):=by rw[de7 hk,e1]
 have ha:=p.a
 have hb:=p.b
 rw[e2]at ha hb
 subst hd;subst he
 refine⟨?_,hk,(cW6 _ _ _).trans ha,(de9 _ _ _).trans hb⟩
 have:=p.len
 have h3:(if(c==10)=true then t else byt [c]).length<=2:=by split;exact ht;exact Nat.le_succ _
 show(i.found++_).length<=_
 rw[cV7];lia
theorem bV3{l:List Int}{t f0:Bs}{e0:Int}{i:LoI}(p:LoP l t f0 e0 l.length i):i.found=f0++j2 t l/\i.ends=e0+q5 l:=by
 have ha:=p.a
 have hb:=p.b
 rw[List.drop_length]at ha hb
 exact⟨(cZ4 _).symm.trans ha,(db6 _).symm.trans hb⟩
theorem X9{l:List Int}{t f0:Bs}{e0:Int}{k:Nat}{i:LoI}(hl:l.length<=20)(p:LoP l t f0 e0 k i):i.found.length<=1000:=by
 have:=p.len
 have:=p.few
 lia
@[elab_as_elim] theorem lo_k {n:Int} {l:List Int} {t lv f0:Bs} {e0:Int} {k:Nat} {w:V} {st:St} {G:V->St->Prop} (hl:∀c∈l,0<=c/\c < 256) (h:(l.map V.int)[k]? =some w) (hJ:JF (loS n (l.map .int) t lv) (LoP l t f0 e0) k st) (f:∀c i,(0<=c/\c < 256)->l[k]? =some c->LoP l t f0 e0 k i->G (.int c) (loS n (l.map .int) t lv i)):G w st:=by
 rw[cX2]at h
 cases e:l[k]? with
 |none=>rw[e]at h;cases h
 |some c=>rw[e]at h;cases h;exact jf_k hJ λi p=>f c i (hl c (cW1 e)) e p
@[elab_as_elim] theorem lo_e {n:Int} {l:List Int} {t lv f0:Bs} {e0:Int} {st:St} {G:St->Prop} (hJ:JF (loS n (l.map .int) t lv) (LoP l t f0 e0) (l.map V.int).length st) (f:∀i,LoP l t f0 e0 l.length i->G (loS n (l.map .int) t lv i)):G st:=by
 rw[cW3]at hJ;exact jf_k hJ f
theorem aw6(l:List Int):n9 (l.map V.int)=true:=by induction l with|nil=>rfl|cons c l ih=>exact ih
theorem V0(l:List Int):i5 (l.map V.int)=l:=by induction l with|nil=>rfl|cons c l ih=>exact congrArg _ ih
theorem aW4{l:List Int}(hl:l.length<=20)(hb:∀c∈l,0<=c/\c < 256):n9 (l.map V.int)=true/\(∀i∈i5 (l.map V.int),0<=i/\i < 256)/\(l.map V.int).length<=16777216:=⟨aw6 l,by rw[V0];exact hb,by rw[cW3];lia⟩
noncomputable def bU7:Ns:=(.cons (.for 6 (.loc 1) (.cons (.asg 4 (.bin .Add (.loc 4) (.ife (.cmp .Eq (.loc 6) (.int 10)) (.loc 2) (.tyb (.cons (.lst (.cons (.loc 6) .nil)) .nil))))) (.cons (.asg 5 (.bin .Add (.loc 5) (.ife (.cmp .Eq (.loc 6) (.int 10)) (.int 1) (.int 0)))) .nil))) (.cons (.ret (.tup (.cons (.bin .Add (.bin .Add (.bin .Add (.loc 4) (.byt [93])) (.loc 3)) (.byt [93])) (.cons (.tyb (.cons (.loc 1) .nil)) (.cons (.loc 5) .nil))))) .nil))
theorem l_2{n:Int}{l:List Int}{t lv f0:Bs}{e0:Int}(ht:t.length<=2)(hv:lv.length<=2)(hf:f0.length<=20)(hl:l.length<=20)(hb:∀c∈l,0<=c/\c < 256):A6 X 2 v4 bU7 (loS n (l.map .int) t lv ⟨f0,e0, .un⟩) (Pst none λv m=>v= .tup [.bytes (f0++j2 t l++[93]++lv++[93]), .bytes (byt l), .int (e0+q5 l)]/\m=none):=by
 refine⟨(l.map V.int),(JF (loS n (l.map .int) t lv) (LoP l t f0 e0)),rfl,⟨⟨f0,e0, .un⟩,⟨hf,cY8 _,rfl,rfl⟩,rfl⟩,λk w st hw hJ=>lo_k hb hw hJ λc i hc hk p=>⟨λh2=>⟨?_,⟨λh1=>⟨⟨_,_, .val (.int c)⟩,aA8 ht p hk ?_ ?_,rfl⟩,λh1=>⟨⟨_,_, .val (.int c)⟩,aA8 ht p hk ?_ ?_,rfl⟩⟩⟩,λh2=>⟨d5,⟨?_,⟨?_,⟨λh1=>⟨⟨_,_, .val (.int c)⟩,aA8 ht p hk ?_ ?_,rfl⟩,λh1=>⟨⟨_,_, .val (.int c)⟩,aA8 ht p hk ?_ ?_,rfl⟩⟩⟩⟩⟩⟩,λst hJ=>lo_e hJ λi p=>⟨?_,⟨?_,⟨?_,⟨?_,⟨d5,⟨rfl, ?_⟩⟩⟩⟩⟩⟩⟩
 ·exact E3 (X9 hl p) ht rfl
 ·exact if_pos h2
 ·exact if_pos h1
 ·exact if_pos h2
 ·exact if_neg (nb h1)
 ·exact aX5 hc
 ·exact E3 (b:=byt [c]) (X9 hl p) (k:=1) (cX4 _) rfl
 ·exact if_neg (nb h2)
 ·exact if_pos h1
 ·exact if_neg (nb h2)
 ·exact if_neg (nb h1)
 ·exact E3 (X9 hl p) (k:=1) (cX4 _) rfl
 ·rw[cV7]
  exact cV5 (cW8 (cW8 (X9 hl p) (cX4 1)) hv) (cV3 rfl)
 ·rw[cV7,cV7]
  exact cV5 (cW8 (cW8 (cW8 (X9 hl p) (cX4 1)) hv) (cX4 1)) (cV3 rfl)
 ·exact aW4 hl hb
 ·obtain⟨e1,e2⟩:=bV3 p
  rw[V0,e1,e2]
  exact⟨rfl,rfl⟩
theorem O8{α:Type}{o:Option α}{a:α}{K:α->Prop}(e:o=some a)(k:K a):H8 o K:=by subst e;exact k
theorem ck0(l:List Int):eqL (.lst (F2 (l.map V.int) none (some 1))) (.lst [.int 10])=some (l.take 1== [10]):=by
 cases l with
 |nil=>rfl
 |cons c l=>
  have e:F2 ((c::l).map V.int) none (some 1)=[V.int c]:=by
   unfold F2
   rw[cW3]
   show List.take (clipAt (l.length+1) 1 - 0) (V.int c::_)=_
   rw[show clipAt (l.length+1) 1=1 from(J6 _ 1).trans (Nat.min_eq_left (Nat.le_add_left 1 _))]
   rfl
  rw[e]
  show some ((c==10) &&true)=some ((c==10) && (([]:List Int) == []))
  rfl
theorem J1(n:Int):([.bytes [10], .bytes [13,10], .bytes [10,13]]:List V)[(n.fmod 3).toNat]? =some (.bytes (lgT n))/\(lgT n).length<=2/\0<=n.fmod 3/\n.fmod 3 < 2 ^ 63:=by
 have h1:=cZ6 n (b:=3) (by decide)
 have h2:=da2 n (b:=3) (by decide)
 unfold lgT
 have h:∀k,k < 3->([.bytes [10], .bytes [13,10], .bytes [10,13]]:List V)[k]? =some (.bytes (([[10],[13,10],[10,13]]:List Bs).getD k []))/\(([[10],[13,10],[10,13]]:List Bs).getD k []).length<=2
  |0,_=>⟨rfl,Nat.le_succ _⟩
  |1,_=>⟨rfl,cX4 _⟩
  |2,_=>⟨rfl,cX4 _⟩
 obtain⟨a,b⟩:=h (n.fmod 3).toNat (by lia)
 exact⟨a,b,h1,Int.lt_trans h2 (by decide)⟩
theorem aV7(n:Int)(l:List Int):(S6 n l).length<=2:=by
 unfold S6
 repeat' split
 all_goals exact cV3 rfl
theorem cl4{lv:Bs}(h:lv.length<=2):([91]:Bs).length+lv.length<=16777216:=cV5 (Nat.add_le_add_left h _) (cV3 rfl)
theorem bA2{lv:Bs}(h:lv.length<=2):(([91]:Bs)++lv).length<=3:=by rw[cV7];exact Nat.add_le_add_left h 1
theorem cB8{lv:Bs}(h:lv.length<=2):(([91]:Bs)++lv).length+ ([91]:Bs).length<=16777216:=cV5 (dc8 (bA2 h) _) (cV3 rfl)
theorem aL3{lv:Bs}(h:lv.length<=2):(([91]:Bs)++lv++[91]).length<=4:=by rw[cV7];exact dc8 (bA2 h) 1
theorem bw7{lv t:Bs}(h:lv.length<=2)(ht:t.length<=2):(([91]:Bs)++lv++[91]).length+t.length<=16777216:=cV5 (cW8 (aL3 h) ht) (cV3 rfl)
theorem br3{lv t:Bs}(h:lv.length<=2)(ht:t.length<=2):(([91]:Bs)++lv++[91]++t).length<=20:=by rw[cV7];exact cV5 (cW8 (aL3 h) ht) (cV3 rfl)
theorem bI8{n:Int}{l:List Int}(h:(l.take 1== [10])=true∨(n.fmod 5==0)=true):loV n l= .tup [.bytes ([91]++S6 n l++[91]++lgT n++j2 (lgT n) l++[93]++S6 n l++[93]), .bytes (byt l), .int (1+q5 l)]:=by
 have e:C6 n l=true:=db7.mpr h
 unfold loV L8
 rw[e];rfl
theorem ck7{n:Int}{l:List Int}(h1:(l.take 1== [10])=false)(h2:(n.fmod 5==0)=false):loV n l= .tup [.bytes ([91]++S6 n l++[91]++j2 (lgT n) l++[93]++S6 n l++[93]), .bytes (byt l), .int (0+q5 l)]:=by
 have e:C6 n l=false:=by unfold C6;rw[h1,h2];rfl
 unfold loV L8
 rw[e,if_neg (by decide),if_neg (by decide),cZ4]
theorem Y1{X:Cx}{n:Nat}{d:Ns}{st:St}{v w:V}(h:A6 X n v4 d st (Pst none λu m=>u=v/\m=none))(e:v=w):A6 X n v4 d st (Pst none λu m=>u=w/\m=none):=e▸h
noncomputable def bQ1:Ns:=(.cons (.as2 [5,4] (.cons (.bin .Add (.bin .Add (.byt [91]) (.loc 3)) (.byt [91])) (.cons (.int 0) .nil))) (.cons (.ite (.tany (.cons (.eql (.slc (.loc 1) .no (.cons (.int 1) .nil)) (.lst (.cons (.int 10) .nil))) (.cons (.cmp .Eq (.bin .Mod (.loc 0) (.int 5)) (.int 0)) .nil))) (.cons (.as2 [5,4] (.cons (.bin .Add (.loc 4) (.loc 2)) (.cons (.int 1) .nil))) .nil) .nil) (.cons (.for 6 (.loc 1) (.cons (.asg 4 (.bin .Add (.loc 4) (.ife (.cmp .Eq (.loc 6) (.int 10)) (.loc 2) (.tyb (.cons (.lst (.cons (.loc 6) .nil)) .nil))))) (.cons (.asg 5 (.bin .Add (.loc 5) (.ife (.cmp .Eq (.loc 6) (.int 10)) (.int 1) (.int 0)))) .nil))) (.cons (.ret (.tup (.cons (.bin .Add (.bin .Add (.bin .Add (.loc 4) (.byt [93])) (.loc 3)) (.byt [93])) (.cons (.tyb (.cons (.loc 1) .nil)) (.cons (.loc 5) .nil))))) .nil))))
theorem l_1{n:Int}{l:List Int}{t lv:Bs}(et:lgT n=t)(el:S6 n l=lv)(ht:t.length<=2)(hv:lv.length<=2)(hl:l.length<=20)(hb:∀c∈l,0<=c/\c < 256):A6 X 2 v4 bQ1 {loc:=[.val (.int n), .val (.lst (l.map .int)), .val (.bytes t), .val (.bytes lv), .un, .un, .un],me:=none} (Pst none λv m=>v=loV n l/\m=none):=by
 refine⟨?_,⟨?_,⟨rfl,⟨?_,⟨d5,(O8 (ck0 l) ⟨λh4=>⟨λH=>⟨?_,⟨rfl,(Y1 (l_2 ht hv ?_ hl hb) ?_)⟩⟩,nofun⟩,λh4=>⟨?_,⟨λh3=>⟨λH=>⟨?_,⟨rfl,(Y1 (l_2 ht hv ?_ hl hb) ?_)⟩⟩,nofun⟩,λh3=>⟨nofun,λH=>(Y1 (l_2 ht hv ?_ hl hb) ?_)⟩⟩⟩⟩)⟩⟩⟩⟩⟩
 ·exact cl4 hv
 ·exact cB8 hv
 ·rw[cW3];exact cV5 hl (cV3 rfl)
 ·exact bw7 hv ht
 ·exact br3 hv ht
 ·rw[←et, ←el];exact(bI8 (.inl h4)).symm
 ·decide
 ·exact bw7 hv ht
 ·exact br3 hv ht
 ·rw[←et, ←el];exact(bI8 (.inr h3)).symm
 ·exact cV5 (aL3 hv) (cV3 rfl)
 ·rw[←et, ←el];exact(ck7 h4 h3).symm
theorem ap4{l:List Int}{k:Int}{b:Bool}(h:(i5 (l.map V.int)).contains k=b):l.contains k=b:=by rwa[V0]at h
noncomputable def bM2:Ns:=(.cons (.cfil 1 (.loc 1) 13) (.cons (.asg 2 (.sub (.lst (.cons (.byt [10]) (.cons (.byt [13,10]) (.cons (.byt [10,13]) .nil)))) (.bin .Mod (.loc 0) (.int 3)))) (.cons (.asg 3 (.ife (.tany (.cons (.cmp .Eq (.bin .Mod (.loc 0) (.int 2)) (.int 0)) (.cons (.cmp .In (.int 91) (.loc 1)) (.cons (.cmp .In (.int 93) (.loc 1)) .nil)))) (.byt [61,61]) (.byt []))) (.cons (.as2 [5,4] (.cons (.bin .Add (.bin .Add (.byt [91]) (.loc 3)) (.byt [91])) (.cons (.int 0) .nil))) (.cons (.ite (.tany (.cons (.eql (.slc (.loc 1) .no (.cons (.int 1) .nil)) (.lst (.cons (.int 10) .nil))) (.cons (.cmp .Eq (.bin .Mod (.loc 0) (.int 5)) (.int 0)) .nil))) (.cons (.as2 [5,4] (.cons (.bin .Add (.loc 4) (.loc 2)) (.cons (.int 1) .nil))) .nil) .nil) (.cons (.for 6 (.loc 1) (.cons (.asg 4 (.bin .Add (.loc 4) (.ife (.cmp .Eq (.loc 6) (.int 10)) (.loc 2) (.tyb (.cons (.lst (.cons (.loc 6) .nil)) .nil))))) (.cons (.asg 5 (.bin .Add (.loc 5) (.ife (.cmp .Eq (.loc 6) (.int 10)) (.int 1) (.int 0)))) .nil))) (.cons (.ret (.tup (.cons (.bin .Add (.bin .Add (.bin .Add (.loc 4) (.byt [93])) (.loc 3)) (.byt [93])) (.cons (.tyb (.cons (.loc 1) .nil)) (.cons (.loc 5) .nil))))) .nil)))))))
theorem cl2(L ψ outer lx):w8 (t9 bL1 aT2 523 L ψ outer lx 465).env aT2 bM2 bv3=true:=by kernel_rfl
theorem ak9{n:Int}{l:List Int}(hl:l.length<=20)(hl2:((i5 (l.map V.int)).filter λa=>a != 13).length<=20)(hb2:∀c∈ (i5 (l.map V.int)).filter (λa=>a != 13),0<=c/\c < 256):Cs X 3 (.ref 523) 0 [.int n, .lst (l.map .int)] none (λv m=>v=loV n ((i5 (l.map V.int)).filter λa=>a != 13)/\m=none) v4:=by
 refine Cs.scF (n:=0) (cH2 _) bM2 cl2 rfl ?_
 refine⟨?_, ?_,⟨d5,⟨?_,⟨?_,_,(J1 n).1,⟨?_,⟨λh7=>⟨λH=>(l_1 (l:=(i5 (l.map V.int)).filter λa=>a != 13) (t:=lgT n) rfl ?_ (J1 n).2.1 (cV3 rfl) hl2 hb2),nofun⟩,λh7=>⟨?_,⟨λh6=>⟨λH=>(l_1 (l:=(i5 (l.map V.int)).filter λa=>a != 13) (t:=lgT n) rfl ?_ (J1 n).2.1 (cV3 rfl) hl2 hb2),nofun⟩,λh6=>⟨?_,⟨λh5=>⟨λH=>(l_1 (l:=(i5 (l.map V.int)).filter λa=>a != 13) (t:=lgT n) rfl ?_ (J1 n).2.1 (cV3 rfl) hl2 hb2),nofun⟩,λh5=>⟨nofun,λH=>(l_1 (l:=(i5 (l.map V.int)).filter λa=>a != 13) (t:=lgT n) rfl ?_ (J1 n).2.1 (cV3 rfl) hl2 hb2)⟩⟩⟩⟩⟩⟩⟩⟩⟩⟩⟩
 ·exact aw6 l
 ·rw[cW3];exact cV5 hl (cV3 rfl)
 ·decide
 ·exact(J1 n).2.2
 ·decide
 ·exact if_pos h7
 ·exact aw6 _
 ·exact(if_neg (nb h7)).trans (if_pos (ap4 h6))
 ·exact aw6 _
 ·exact(if_neg (nb h7)).trans ((if_neg (nb (ap4 h6))).trans (if_pos (ap4 h5)))
 ·exact(if_neg (nb h7)).trans ((if_neg (nb (ap4 h6))).trans (if_neg (nb (ap4 h5))))
theorem ar5{n:Int}{l:List Int}(hl:l.length<=20)(hb:∀c∈l,0<=c/\c < 256):Cs X 3 (.ref 523) 0 [.int n, .lst (l.map .int)] none (λv m=>v=loV n (l.filter λa=>a != 13)/\m=none) v4:=by
 have h:=ak9 (X:=X) (n:=n) (l:=l) hl (by rw[V0];exact cV5 (de1 _ _) hl) (λc hc=>hb c (by rw[V0]at hc;exact(List.mem_filter.mp hc).1))
 rwa[V0]at h
end
section
variable {X:Cx}
noncomputable def nmT:List Bs:=[[95],[113],[65,110,100],[120,95,49]]
noncomputable def zT:List Bs:=[[],[48],[48,48]]
noncomputable def xT:List Bs:=[[48,120],[48,88],[48,120,48]]
noncomputable def J2(L:List Bs)(m:Nat)(k:Int):Bs:=L.getD ((m:Int).fmod k).toNat []
noncomputable abbrev M1(m:Nat):List Int:=ac7 ((m:Int).fmod 5).toNat m
noncomputable def D1(f:Int)(m:Nat):Bs×Int×V×Int:=
 if(f==0)=true then(J2 words m 21,257+ (m:Int).fmod 21, .none,0)
 else if(f==1)=true then(J2 nmT m 4++l5 16 m,285, .bytes (J2 nmT m 4++l5 16 m),0)
 else if(f==2)=true then(J2 zT m 3++l5 10 m,284, .int m,0)
 else if(f==3)=true then(J2 xT m 3++l5 16 m,284, .int m,0)
 else if f < 6 then((ao8 m (M1 m)).1,286, .bytes (byt (M1 m)),(ao8 m (M1 m)).2)
 else if(f==6)=true then((L8 m ((M1 m).filter λa=>a != 13)).1,286, .bytes (byt ((M1 m).filter λa=>a != 13)),(L8 m ((M1 m).filter λa=>a != 13)).2)
 else((signT.getD ((m:Int).fmod 28).toNat ([],0)).1,(signT.getD ((m:Int).fmod 28).toNat ([],0)).2, .none,0)
noncomputable abbrev ag9(t:Bs×Int×V×Int):V:= .tup [.bytes t.1, .int t.2.1,t.2.2.1, .int t.2.2.2]
noncomputable def t7(n:Int):Bs×Int×V×Int:=D1 (n.fmod 8) ((n.fdiv 8).fmod (10 ^ (9:Int).toNat)).toNat
theorem fmb{i k:Int}(h:0 < k)(h':k<=1000):0<=i.fmod k/\i.fmod k < 2 ^ 63:=⟨cZ6 i h,Int.lt_trans (da2 i h) (Int.lt_of_le_of_lt h' (by decide))⟩
theorem E5{i:Int}{k:Nat}(h:0 < k):(i.fmod k).toNat < k:=by
 have h1:=cZ6 i (b:=k) (dh8.mpr h)
 have h2:=da2 i (b:=k) (dh8.mpr h)
 exact(Int.toNat_lt h1).mpr h2
theorem W2{L:List Bs}{m:Nat}(k:Nat)(hk:L.length=k)(h:0 < k):(L.map V.bytes)[((m:Int).fmod k).toNat]? =some (.bytes (J2 L m k)):=by
 have:=E5 (i:=m) h
 unfold J2
 rw[cX2,cV8,cW2 (by rw[hk];exact this)];rfl
theorem bf9{m:Nat}:(signT.map pr)[((m:Int).fmod 28).toNat]? =some (pr (signT.getD ((m:Int).fmod 28).toNat ([],0))):=by
 have h:((m:Int).fmod 28).toNat < signT.length:=E5 (k:=28) (by decide)
 rw[cX2,cV8,cW2 h];rfl
theorem ab8:∀(k:Nat) (n:Int),(ac7 k n).length=k
 |0,_=>rfl
 |k+1,n=>congrArg (· +1) (ab8 k _)
theorem bj6:∀k,0<=octT.getD k 0/\octT.getD k 0 < 256
 |0|1|2|3|4|5|6|7|8|9|10|11=>by decide
 |k+12=>⟨cZ5 _,show(0:Int)< 256 by decide⟩
theorem aE7:∀(k:Nat) (n:Int),∀c∈ac7 k n,0<=c/\c < 256
 |0,_=>λH h=>nomatch h
 |k+1,n=>λc h=>(cY1.mp h).elim (λe=>e▸bj6 _) (aE7 k _ c)
theorem ah6(m:Nat):(M1 m).length<=20:=by rw[ab8];exact cV5 fm5 (by decide)
theorem au8(m:Nat):∀c∈M1 m,0<=c/\c < 256:=aE7 _ _
theorem cd0:∀b∈nmT,b.length<=10:=by decide
theorem cy1:∀b∈zT,b.length<=10:=by decide
theorem x10:∀b∈xT,b.length<=10:=by decide
theorem B9{L:List Bs}(h:∀b∈L,b.length<=10)(m:Nat)(k:Int):(J2 L m k).length<=10:=by
 unfold J2
 rw[cV8]
 cases e:L[((m:Int).fmod k).toNat]? with
 |none=>exact cY8 _
 |some b=>exact h b (cW1 e)
set_option tactic.hygienic true in
theorem aq7{b N:Nat}(hb:2<=b)(hN:N < 2 ^ 30):∀(f n:Nat) (acc:Bs),n * 2 ^ acc.length<=N->acc.length<=31->(M9 f b n acc).length<=31
 |0,_,_,_,h=>h
 |f+1,n,acc,h1,h2=>by
  unfold M9
  split
  ·exact h2
  ·rename_i h
   refine aq7 hb hN f _ _ ?_ ?_
   ·refine cV5 ?_ h1
    rw[da0,Nat.pow_succ,Nat.mul_comm (2 ^ _) 2, ←Nat.mul_assoc]
    exact Nat.mul_le_mul_right _ (cV5 (dd5 _ hb) (Nat.div_mul_le_self _ _))
   ·refine Nat.succ_le_succ ?_
    by_cases e:n=0
    ·rw[Classical.byContradiction λq=>h ⟨e,q⟩];exact cY8 _
    ·exact Nat.le_of_lt ((Nat.pow_lt_pow_iff_right (by decide)).mp (db2 (cV5 (Nat.le_mul_of_pos_left _ (Nat.pos_of_ne_zero e)) h1) hN))
theorem w6{b n:Nat}(hb:2<=b)(hn:n < 2 ^ 30):(l5 b n).length<=31:=aq7 hb hn _ _ _ (by rw[dh3,Nat.pow_zero,Nat.mul_one];exact cX4 _) (cY8 _)
noncomputable def bS7:Ns:=(.cons (.ite (.cmp .Eq (.loc 1) (.int 0)) (.cons (.asg 3 (.bin .Mod (.loc 2) (.bi 0 (.cons (.call 25 .nil) .nil)))) (.cons (.ret (.tup (.cons (.sub (.call 25 .nil) (.loc 3)) (.cons (.bin .Add (.gi 2) (.loc 3)) (.cons .non (.cons (.int 0) .nil)))))) .nil)) .nil) (.cons (.ite (.cmp .Eq (.loc 1) (.int 1)) (.cons (.asg 4 (.bin .Add (.sub (.lst (.cons (.byt [95]) (.cons (.byt [113]) (.cons (.byt [65,110,100]) (.cons (.byt [120,95,49]) .nil))))) (.bin .Mod (.loc 2) (.int 4))) (.call 32 (.cons (.loc 2) (.cons (.int 16) .nil))))) (.cons (.ret (.tup (.cons (.loc 4) (.cons (.gi 10) (.cons (.loc 4) (.cons (.int 0) .nil)))))) .nil)) .nil) (.cons (.ite (.cmp .Eq (.loc 1) (.int 2)) (.cons (.ret (.tup (.cons (.bin .Add (.sub (.lst (.cons (.byt []) (.cons (.byt [48]) (.cons (.byt [48,48]) .nil)))) (.bin .Mod (.loc 2) (.int 3))) (.call 32 (.cons (.loc 2) (.cons (.int 10) .nil)))) (.cons (.gi 9) (.cons (.loc 2) (.cons (.int 0) .nil)))))) .nil) .nil) (.cons (.ite (.cmp .Eq (.loc 1) (.int 3)) (.cons (.ret (.tup (.cons (.bin .Add (.sub (.lst (.cons (.byt [48,120]) (.cons (.byt [48,88]) (.cons (.byt [48,120,48]) .nil)))) (.bin .Mod (.loc 2) (.int 3))) (.call 32 (.cons (.loc 2) (.cons (.int 16) .nil)))) (.cons (.gi 9) (.cons (.loc 2) (.cons (.int 0) .nil)))))) .nil) .nil) (.cons (.asg 5 (.call 29 (.cons (.loc 2) .nil))) (.cons (.ite (.cmp .Lt (.loc 1) (.int 6)) (.cons (.unp [6,7] (.call 30 (.cons (.loc 2) (.cons (.loc 5) .nil)))) (.cons (.ret (.tup (.cons (.loc 6) (.cons (.gi 11) (.cons (.tyb (.cons (.loc 5) .nil)) (.cons (.loc 7) .nil)))))) .nil)) .nil) (.cons (.ite (.cmp .Eq (.loc 1) (.int 6)) (.cons (.unp [6,8,7] (.call 31 (.cons (.loc 2) (.cons (.loc 5) .nil)))) (.cons (.ret (.tup (.cons (.loc 6) (.cons (.gi 11) (.cons (.loc 8) (.cons (.loc 7) .nil)))))) .nil)) .nil) (.cons (.unp [6,9] (.sub (.call 28 .nil) (.bin .Mod (.loc 2) (.int 28)))) (.cons (.ret (.tup (.cons (.loc 6) (.cons (.loc 9) (.cons .non (.cons (.int 0) .nil)))))) .nil)))))))))
theorem t_0{n r:Int}{m:Nat}(hm:m < 2 ^ 30)(er:r=(m:Int)):A6 X 3 v4 bS7 {loc:=[.val (.int n), .val (.int (n.fmod 8)), .val (.int r), .un, .un, .un, .un, .un, .un, .un],me:=none} (Pst none λv m'=>v=ag9 (D1 (n.fmod 8) m)/\m'=none):=by
 subst er
 refine⟨λh6=>(Cs.det P3 (by decide) nR ⟨?_,⟨?_,(Cs.det P3 (by decide) nR ⟨?_,_,(W2 (L:=words) 21 rfl (by decide)),⟨d5,⟨rfl, ?_⟩⟩⟩)⟩⟩),λh6=>⟨λh5=>⟨d5,⟨?_,⟨?_,_,(W2 (L:=nmT) 4 rfl (by decide)),(Cs.det (B0 hm (by decide) (by decide)) (by decide) nR ⟨?_,⟨d5,⟨rfl, ?_⟩⟩⟩)⟩⟩⟩,λh5=>⟨λh4=>⟨d5,⟨?_,⟨?_,_,(W2 (L:=zT) 3 rfl (by decide)),(Cs.det (B0 hm (by decide) (by decide)) (by decide) nR ⟨?_,⟨d5,⟨rfl, ?_⟩⟩⟩)⟩⟩⟩,λh4=>⟨λh3=>⟨d5,⟨?_,⟨?_,_,(W2 (L:=xT) 3 rfl (by decide)),(Cs.det (B0 hm (by decide) (by decide)) (by decide) nR ⟨?_,⟨d5,⟨rfl, ?_⟩⟩⟩)⟩⟩⟩,λh3=>(Cs.det (ac9 (n:=(m:Int)) (da1 _)) (by decide) nR ⟨λh2=>(Cs.det (ae0 (n:=(m:Int)) (ah6 m) (au8 m)) (by decide) nR ⟨rfl,⟨?_,⟨d5,⟨rfl, ?_⟩⟩⟩⟩),λh2=>⟨λh1=>(Cs.det (ar5 (n:=(m:Int)) (ah6 m) (au8 m)) (by decide) nR ⟨rfl,⟨d5,⟨rfl, ?_⟩⟩⟩),λh1=>(Cs.det ai0 (by decide) nR ⟨?_,⟨?_,_,bf9,⟨rfl,⟨d5,⟨rfl, ?_⟩⟩⟩⟩⟩)⟩⟩)⟩⟩⟩⟩
 ·exact cV3 rfl
 ·exact(by decide:(21:Int)≠0)
 ·exact fmb (k:=21) (by decide) (by decide)
 ·exact⟨(congrArg ag9 (show D1 (n.fmod 8) m=(J2 words m 21,257+ (m:Int).fmod 21, .none,0)from(if_pos h6))).symm,rfl⟩
 ·decide
 ·exact fmb (by decide) (by decide)
 ·exact cV5 (cW8 (B9 cd0 m 4) (w6 (by decide) hm)) (cV3 rfl)
 ·exact⟨(congrArg ag9 (show D1 (n.fmod 8) m=(J2 nmT m 4++l5 16 m,285, .bytes (J2 nmT m 4++l5 16 m),0)from((if_neg (nb h6)).trans (if_pos h5)))).symm,rfl⟩
 ·decide
 ·exact fmb (by decide) (by decide)
 ·exact cV5 (cW8 (B9 cy1 m 3) (w6 (by decide) hm)) (cV3 rfl)
 ·exact⟨(congrArg ag9 (show D1 (n.fmod 8) m=(J2 zT m 3++l5 10 m,284, .int m,0)from((if_neg (nb h6)).trans ((if_neg (nb h5)).trans (if_pos h4))))).symm,rfl⟩
 ·decide
 ·exact fmb (by decide) (by decide)
 ·exact cV5 (cW8 (B9 x10 m 3) (w6 (by decide) hm)) (cV3 rfl)
 ·exact⟨(congrArg ag9 (show D1 (n.fmod 8) m=(J2 xT m 3++l5 16 m,284, .int m,0)from((if_neg (nb h6)).trans ((if_neg (nb h5)).trans ((if_neg (nb h4)).trans (if_pos h3)))))).symm,rfl⟩
 ·exact aW4 (ah6 m) (au8 m)
 ·rw[V0]
  exact⟨(congrArg ag9 (show D1 (n.fmod 8) m=((ao8 m (M1 m)).1,286, .bytes (byt (M1 m)),(ao8 m (M1 m)).2)from((if_neg (nb h6)).trans ((if_neg (nb h5)).trans ((if_neg (nb h4)).trans ((if_neg (nb h3)).trans (if_pos (of_decide_eq_true h2)))))))).symm,rfl⟩
 ·exact⟨(congrArg ag9 (show D1 (n.fmod 8) m=((L8 m ((M1 m).filter λa=>a != 13)).1,286, .bytes (byt ((M1 m).filter λa=>a != 13)),(L8 m ((M1 m).filter λa=>a != 13)).2)from((if_neg (nb h6)).trans ((if_neg (nb h5)).trans ((if_neg (nb h4)).trans ((if_neg (nb h3)).trans ((if_neg (of_decide_eq_false h2)).trans (if_pos h1)))))))).symm,rfl⟩
 ·decide
 ·exact fmb (by decide) (by decide)
 ·exact⟨(congrArg ag9 (show D1 (n.fmod 8) m=((signT.getD ((m:Int).fmod 28).toNat ([],0)).1,(signT.getD ((m:Int).fmod 28).toNat ([],0)).2, .none,0)from((if_neg (nb h6)).trans ((if_neg (nb h5)).trans ((if_neg (nb h4)).trans ((if_neg (nb h3)).trans ((if_neg (of_decide_eq_false h2)).trans (if_neg (nb h1))))))))).symm,rfl⟩
noncomputable def bz5:Ns:=(.cons (.as2 [2,1] (.cons (.bin .Mod (.loc 0) (.int 8)) (.cons (.bin .Mod (.bin .FloorDiv (.loc 0) (.int 8)) (.bin .Pow (.int 10) (.int 9))) .nil))) (.cons (.ite (.cmp .Eq (.loc 1) (.int 0)) (.cons (.asg 3 (.bin .Mod (.loc 2) (.bi 0 (.cons (.call 25 .nil) .nil)))) (.cons (.ret (.tup (.cons (.sub (.call 25 .nil) (.loc 3)) (.cons (.bin .Add (.gi 2) (.loc 3)) (.cons .non (.cons (.int 0) .nil)))))) .nil)) .nil) (.cons (.ite (.cmp .Eq (.loc 1) (.int 1)) (.cons (.asg 4 (.bin .Add (.sub (.lst (.cons (.byt [95]) (.cons (.byt [113]) (.cons (.byt [65,110,100]) (.cons (.byt [120,95,49]) .nil))))) (.bin .Mod (.loc 2) (.int 4))) (.call 32 (.cons (.loc 2) (.cons (.int 16) .nil))))) (.cons (.ret (.tup (.cons (.loc 4) (.cons (.gi 10) (.cons (.loc 4) (.cons (.int 0) .nil)))))) .nil)) .nil) (.cons (.ite (.cmp .Eq (.loc 1) (.int 2)) (.cons (.ret (.tup (.cons (.bin .Add (.sub (.lst (.cons (.byt []) (.cons (.byt [48]) (.cons (.byt [48,48]) .nil)))) (.bin .Mod (.loc 2) (.int 3))) (.call 32 (.cons (.loc 2) (.cons (.int 10) .nil)))) (.cons (.gi 9) (.cons (.loc 2) (.cons (.int 0) .nil)))))) .nil) .nil) (.cons (.ite (.cmp .Eq (.loc 1) (.int 3)) (.cons (.ret (.tup (.cons (.bin .Add (.sub (.lst (.cons (.byt [48,120]) (.cons (.byt [48,88]) (.cons (.byt [48,120,48]) .nil)))) (.bin .Mod (.loc 2) (.int 3))) (.call 32 (.cons (.loc 2) (.cons (.int 16) .nil)))) (.cons (.gi 9) (.cons (.loc 2) (.cons (.int 0) .nil)))))) .nil) .nil) (.cons (.asg 5 (.call 29 (.cons (.loc 2) .nil))) (.cons (.ite (.cmp .Lt (.loc 1) (.int 6)) (.cons (.unp [6,7] (.call 30 (.cons (.loc 2) (.cons (.loc 5) .nil)))) (.cons (.ret (.tup (.cons (.loc 6) (.cons (.gi 11) (.cons (.tyb (.cons (.loc 5) .nil)) (.cons (.loc 7) .nil)))))) .nil)) .nil) (.cons (.ite (.cmp .Eq (.loc 1) (.int 6)) (.cons (.unp [6,8,7] (.call 31 (.cons (.loc 2) (.cons (.loc 5) .nil)))) (.cons (.ret (.tup (.cons (.loc 6) (.cons (.gi 11) (.cons (.loc 8) (.cons (.loc 7) .nil)))))) .nil)) .nil) (.cons (.unp [6,9] (.sub (.call 28 .nil) (.bin .Mod (.loc 2) (.int 28)))) (.cons (.ret (.tup (.cons (.loc 6) (.cons (.loc 9) (.cons .non (.cons (.int 0) .nil)))))) .nil))))))))))
theorem cu3(L ψ outer lx):w8 (t9 bN8 ba4 537 L ψ outer lx 465).env ba4 bz5 bG1=true:=by kernel_rfl
theorem P8(n:Int):((n.fdiv 8).fmod (10 ^ (9:Int).toNat)).toNat < 2 ^ 30/\(n.fdiv 8).fmod (10 ^ (9:Int).toNat)=(((n.fdiv 8).fmod (10 ^ (9:Int).toNat)).toNat:Int):=by
 have h1:=cZ6 (n.fdiv 8) (b:=10 ^ (9:Int).toNat) (by decide)
 have h2:=da2 (n.fdiv 8) (b:=10 ^ (9:Int).toNat) (by decide)
 exact⟨(Int.toNat_lt h1).mpr (Int.lt_trans h2 (by decide)),(Int.toNat_of_nonneg h1).symm⟩
theorem ak0{n:Int}:Cs X 4 (.ref 537) 0 [.int n] none (λv m=>v=ag9 (t7 n)/\m=none) v4:=by
 refine Cs.scF (n:=1) (cI0 _) bz5 cu3 rfl ?_
 refine⟨?_,⟨?_,⟨?_,⟨?_,⟨rfl,(t_0 (m:=((n.fdiv 8).fmod (10 ^ (9:Int).toNat)).toNat) ?_ ?_)⟩⟩⟩⟩⟩
 ·decide
 ·exact⟨by decide,by decide⟩
 ·exact⟨by decide,by decide⟩
 ·decide
 ·exact(P8 n).1
 ·exact(P8 n).2
end
section
variable {X:Cx}
noncomputable def F1(c:Int):Bs×Int:=gapT.getD ((c.fdiv 11).fmod 12).toNat ([],0)
noncomputable def R8(c:Int):Bs:=(F1 c).1++(t7 c).1
noncomputable def H1(c:Int):Int:=(F1 c).2+ (t7 c).2.2.2
noncomputable def U8(c:Int):Tk:=((t7 c).2.1,(t7 c).2.2.1)
noncomputable def j8:List Int->Bs
 | []=>[]
 |c::l=>R8 c++j8 l
noncomputable def r8(n:Int):List Int->Int
 | []=>n
 |c::l=>r8 (n+H1 c) l
noncomputable def H2(n:Int):List Int->List Int
 | []=>[]
 |c::l=>(n+H1 c)::H2 (n+H1 c) l
theorem au7(a b:List Int):j8 (a++b)=j8 a++j8 b:=by
 induction a with
 |nil=>rfl
 |cons c a ih=>show R8 c++j8 (a++b)=R8 c++j8 a++j8 b;rw[ih,cW6]
theorem ae4(a b:List Int):∀n,r8 n (a++b)=r8 (r8 n a) b:=by
 induction a with
 |nil=>exact λH=>rfl
 |cons c a ih=>exact λn=>ih _
theorem aJ2(a b:List Int):∀n,H2 n (a++b)=H2 n a++H2 (r8 n a) b:=by
 induction a with
 |nil=>exact λH=>rfl
 |cons c a ih=>exact λn=>congrArg _ (ih _)
theorem aI1(a:List Int):∀n,(H2 n a).length=a.length:=by
 induction a with
 |nil=>exact λH=>rfl
 |cons c a ih=>exact λn=>congrArg (· +1) (ih _)
theorem an7:∀(a:List Int) (n:Int) (k:Nat),k < a.length->(H2 n a)[k]? =some (r8 n (a.take (k+1)))
 |c::a,n,0,_=>rfl
 |c::a,n,k+1,h=>an7 a _ k (Nat.lt_of_succ_lt_succ h)
structure LwI where
 gap:Sl
 more:Sl
 piece:Sl
 kind:Sl
 told:Sl
 inner:Sl
 one:Sl
noncomputable abbrev lwN(i:LwI):Bool:=Q7 [i.one,i.gap,i.more,i.piece,i.kind,i.told,i.inner]
noncomputable abbrev lwS(l:List V)(ns:List Int)(d e:Addr)(k:Nat)(i:LwI):St:= {loc:=[.val (.lst l), .val (.lst (ns.map .int)), .val (.bytes (j8 (ns.take k))), .own d ((ns.take k).map λc=>tv (U8 c)), .own e ((H2 1 (ns.take k)).map .int), .val (.int (r8 1 (ns.take k))),i.one,i.gap,i.more,i.piece,i.kind,i.told,i.inner, .un, .un, .un, .un, .un, .un, .un, .un, .un],me:=none}
noncomputable abbrev lwJ(l:List V)(ns:List Int)(d e:Addr):Nat->St->Prop:=JF (λi:Nat×LwI=>lwS l ns d e i.1 i.2) λk i=>(i.1=k/\k<=ns.length)/\lwN i.2=true
@[elab_as_elim] theorem lw_k {l:List V} {ns:List Int} {d e:Addr} {k:Nat} {w:V} {st:St} {G:V->St->Prop} (h:(ns.map V.int)[k]? =some w) (hJ:lwJ l ns d e k st) (f:∀c i,ns[k]? =some c->G (.int c) (lwS l ns d e k i)):G w st:=by
 rw[cX2]at h
 cases q:ns[k]? with
 |none=>rw[q]at h;cases h
 |some c=>rw[q]at h;cases h;obtain⟨⟨k',i⟩,⟨⟨rfl,_⟩,_⟩,rfl⟩:=hJ;exact f c i q
@[elab_as_elim] theorem lw_e {l:List V} {ns:List Int} {d e:Addr} {st:St} {G:St->Prop} (hJ:lwJ l ns d e (ns.map V.int).length st) (f:∀i,lwN i=true->G (lwS l ns d e ns.length i)):G st:=by
 rw[cW3]at hJ;obtain⟨⟨k',i⟩,⟨⟨rfl,_⟩,hi⟩,rfl⟩:=hJ;exact f i hi
theorem ci7{l:List V}{ns:List Int}{d e:Addr}{k:Nat}{c:Int}{i:LwI}(hi:lwN i=true)(h:ns[k]? =some c):lwJ l ns d e (k+1) {loc:=[.val (.lst l), .val (.lst (ns.map .int)), .val (.bytes (j8 (ns.take k)++(F1 c).1++(t7 c).1)), .own d ((ns.take k).map (λc=>tv (U8 c))++[.tup [.int (t7 c).2.1,(t7 c).2.2.1]]), .own e ((H2 1 (ns.take k)).map V.int++[.int (r8 1 (ns.take k)+ (F1 c).2+ (t7 c).2.2.2)]), .val (.int (r8 1 (ns.take k)+ (F1 c).2+ (t7 c).2.2.2)),i.one,i.gap,i.more,i.piece,i.kind,i.told,i.inner, .un, .un, .un, .un, .un, .un, .un, .un, .un],me:=none}:=by
 refine⟨(k+1,i),⟨⟨rfl,(cX6.mp h).1⟩,hi⟩, ?_⟩
 have e1:ns.take (k+1)=ns.take k++[c]:=by rw[dh5,h];rfl
 have e2:r8 1 (ns.take k)+ (F1 c).2+ (t7 c).2.2.2=r8 1 (ns.take k)+H1 c:=de9 _ _ _
 show _=lwS l ns d e (k+1) i
 unfold lwS
 rw[e1,au7,ae4,aJ2,dd9,dd9,cW6,e2]
 show _=({loc:=[_,_, .val (.bytes (j8 (ns.take k)++(R8 c++[]))),_,_,_,_,_,_,_,_,_,_,_,_,_,_,_,_,_,_,_],me:=none}:St)
 rw[cZ4]
 rfl
theorem ag0(mark:Bs):∀(l:List Int) (m:Int),(n0 mark m l).1.length<=12 * l.length
 | [],_=>cY8 _
 |c::l,m=>by
  show df5 (_++_:Bs)<=_
  rw[cV7,da0]
  exact cV5 (cW8 (ag6 mark (m.fdiv 3) c) (ag0 mark l (m.fdiv 3))) (dh7 (Nat.add_comm _ _))
theorem Z7{t:Bs}(ht:t.length<=2):∀l:List Int,(j2 t l).length<=2 * l.length
 | []=>cY8 _
 |c::l=>by
  show df5 (_++_:Bs)<=_
  rw[cV7,da0]
  have h3:(if(c==10)=true then t else byt [c]).length<=2:=by split;exact ht;exact Nat.le_succ _
  exact cV5 (cW8 h3 (Z7 ht l)) (dh7 (Nat.add_comm _ _))
theorem tk4(m:Nat):(M1 m).length<=5:=by rw[ab8];exact fm5
theorem bR7:∀b∈words,b.length<=10:=by decide+kernel
theorem cy0:∀p∈signT,p.1.length<=10:=by decide+kernel
theorem cr3:∀p∈gapT,p.1.length<=30:=by decide+kernel
theorem an3{L:List (Bs×Int)}{k n:Nat}(h:∀p∈L,p.1.length<=n):(L.getD k ([],0)).1.length<=n:=by
 rw[cV8]
 cases e:L[k]? with
 |none=>exact cY8 _
 |some b=>exact h b (cW1 e)
theorem bg1{f:Int}{m:Nat}(hm:m < 2 ^ 30):(D1 f m).1.length<=200:=by
 have h16:=w6 (b:=16) (by decide) hm
 have h10:=w6 (b:=10) (by decide) hm
 have h4:=tk4 m
 unfold D1
 split
 ·exact cV5 (B9 bR7 m 21) (by decide)
 ·split
  ·show df5 (_++_:Bs)<=_
   rw[cV7];exact cV5 (cW8 (B9 cd0 m 4) h16) (by decide)
  ·split
   ·show df5 (_++_:Bs)<=_
    rw[cV7];exact cV5 (cW8 (B9 cy1 m 3) h10) (by decide)
   ·split
    ·show df5 (_++_:Bs)<=_
     rw[cV7];exact cV5 (cW8 (B9 x10 m 3) h16) (by decide)
    ·split
     ·show df5 (_++_++_:Bs)<=_
      rw[cV7,cV7]
      exact cV5 (cW8 (cW8 (K0 m) (cV5 (ag0 (B5 m) (M1 m) m) (dd5 12 h4))) (K0 m)) (by decide)
     ·split
      ·show df5 (_++_++_++_++_++_++_++_:Bs)<=_
       simp only[cV7,da0,dh3]
       have:=Z7 (J1 m).2.1 ((M1 m).filter λa=>a != 13)
       have:=de1 (λa:Int=>a != 13) (M1 m)
       have:=aV7 m ((M1 m).filter λa=>a != 13)
       have h:(if C6 m ((M1 m).filter λa=>a != 13)=true then lgT m else []).length<=2:=by split;exact(J1 m).2.1;exact cY8 _
       lia
      ·exact cV5 (an3 cy0) (by decide)
theorem ap8(c:Int):(R8 c).length<=300:=by
 unfold R8
 rw[cV7]
 exact cV5 (cW8 (an3 (k:=((c.fdiv 11).fmod 12).toNat) cr3) (bg1 (P8 c).1:(t7 c).1.length<=200)) (by decide)
theorem G4:∀l:List Int,(j8 l).length<=300 * l.length
 | []=>cY8 _
 |c::l=>by
  show df5 (_++_:Bs)<=_
  rw[cV7,da0]
  exact cV5 (cW8 (ap8 c) (G4 l)) (dh7 (Nat.add_comm _ _))
theorem au1{α:Type}{l:List α}{k:Nat}(h:l.length<=12):(l.take k).length<=12:=cV5 (List.length_take_le' ..) h
theorem bP0{ns:List Int}{k:Nat}(h:ns.length<=12):(j8 (ns.take k)).length<=3600:=cV5 (G4 _) (dd5 300 (au1 h))
theorem cs7{ns:List Int}{k:Nat}{c:Int}(h:ns.length<=12):(j8 (ns.take k)).length+ (F1 c).1.length<=16777216/\(j8 (ns.take k)++(F1 c).1).length+ (t7 c).1.length<=16777216:=by
 have h1:=bP0 (k:=k) h
 have h2:=ap8 c
 unfold R8 at h2
 rw[cV7]at h2⊢
 lia
theorem bZ0{c:Int}:(gapT.map pr)[((c.fdiv 11).fmod 12).toNat]? =some (pr (F1 c)):=by
 have h:((c.fdiv 11).fmod 12).toNat < gapT.length:=E5 (k:=12) (by decide)
 unfold F1
 rw[cX2,cV8,cW2 h];rfl
noncomputable def aM0:Ns:=(.frz 4 (.frz 3 (.cons (.ite (.neq (.bi 4 (.cons (.call 24 (.cons (.loc 2) (.cons (.byt [61,113]) (.cons (.call 23 .nil) .nil)))) .nil)) (.bi 4 (.cons (.loc 3) .nil))) (.cons (.ret (.boo false)) .nil) .nil) (.new 13 (.cons (.bin .Add (.loc 2) (.byt [32])) (.cons (.byt [64,113]) (.cons (.call 23 .nil) .nil))) (.cons (.ite (.neq (.tup (.cons (.fld 13 1) (.cons (.fld 13 2) (.cons (.fld 13 7) .nil)))) (.tup (.cons (.byt [64,113]) (.cons (.byt [113]) (.cons (.int 1) .nil))))) (.cons (.ret (.boo false)) .nil) .nil) (.cons (.asg 14 (.bin .Mod (.bi 3 (.cons (.loc 1) .nil)) (.bin .Add (.bi 0 (.cons (.loc 1) .nil)) (.int 1)))) (.cons (.fore 15 16 (.loc 3) (.cons (.asg 17 (.meth 13 0 .nil)) (.cons (.ite (.tany (.cons (.neq (.tup (.cons (.rf 0 (.loc 17)) (.cons (.rf 1 (.loc 17)) .nil))) (.loc 16)) (.cons (.cmp .NotEq (.fld 13 7) (.sub (.loc 4) (.loc 15))) (.cons (.cmp .NotEq (.rf 0 (.fld 13 10)) (.sub (.loc 16) (.int 0))) .nil)))) (.cons (.ret (.boo false)) .nil) .nil) (.cons (.ite (.cmp .Eq (.loc 15) (.loc 14)) (.cons (.asg 18 (.meth 13 1 .nil)) (.cons (.ite (.tany (.cons (.neq (.tup (.cons (.rf 0 (.loc 18)) (.cons (.rf 1 (.loc 18)) .nil))) (.sub (.bin .Add (.loc 3) (.lst (.cons (.tup (.cons (.gi 12) (.cons .non .nil))) .nil))) (.bin .Add (.loc 15) (.int 1)))) (.cons (.neq (.rf 1 (.fld 13 10)) (.sub (.loc 16) (.int 1))) .nil))) (.cons (.ret (.boo false)) .nil) .nil) (.cons (.ite (.cmp .NotEq (.rf 0 (.meth 13 1 .nil)) (.rf 0 (.loc 18))) (.cons (.ret (.boo false)) .nil) .nil) .nil))) .nil) .nil)))) (.cons (.ite (.tany (.cons (.cmp .NotEq (.rf 0 (.meth 13 0 .nil)) (.gi 12)) (.cons (.cmp .NotEq (.rf 0 (.meth 13 0 .nil)) (.gi 12)) .nil))) (.cons (.ret (.boo false)) .nil) .nil) (.cons (.unp [19,20] (.sub (.call 27 .nil) (.bin .Mod (.bi 3 (.cons (.loc 1) .nil)) (.bi 0 (.cons (.call 27 .nil) .nil))))) (.cons (.asg 21 (.bin .Add (.bin .Add (.bin .Add (.byt [113,58]) (.call 32 (.cons (.loc 5) (.cons (.int 10) .nil)))) (.byt [58,32])) (.loc 20))) .nil))))))))))
noncomputable def ca9:Ns:=(.cons (.as4 2 3 4 5 [] 1) (.cons (.for 6 (.loc 1) (.cons (.unp [7,8] (.sub (.call 26 .nil) (.bin .Mod (.bin .FloorDiv (.loc 6) (.int 11)) (.bi 0 (.cons (.call 26 .nil) .nil))))) (.cons (.unp [9,10,11,12] (.call 33 (.cons (.loc 6) .nil))) (.cons (.asg 2 (.bin .Add (.bin .Add (.loc 2) (.loc 7)) (.loc 9))) (.cons (.asg 5 (.bin .Add (.bin .Add (.loc 5) (.loc 8)) (.loc 12))) (.cons (.ex (.app 3 (.tup (.cons (.loc 10) (.cons (.loc 11) .nil))))) (.cons (.ex (.app 4 (.loc 5))) .nil))))))) (.frz 4 (.frz 3 (.cons (.ite (.neq (.bi 4 (.cons (.call 24 (.cons (.loc 2) (.cons (.byt [61,113]) (.cons (.call 23 .nil) .nil)))) .nil)) (.bi 4 (.cons (.loc 3) .nil))) (.cons (.ret (.boo false)) .nil) .nil) (.new 13 (.cons (.bin .Add (.loc 2) (.byt [32])) (.cons (.byt [64,113]) (.cons (.call 23 .nil) .nil))) (.cons (.ite (.neq (.tup (.cons (.fld 13 1) (.cons (.fld 13 2) (.cons (.fld 13 7) .nil)))) (.tup (.cons (.byt [64,113]) (.cons (.byt [113]) (.cons (.int 1) .nil))))) (.cons (.ret (.boo false)) .nil) .nil) (.cons (.asg 14 (.bin .Mod (.bi 3 (.cons (.loc 1) .nil)) (.bin .Add (.bi 0 (.cons (.loc 1) .nil)) (.int 1)))) (.cons (.fore 15 16 (.loc 3) (.cons (.asg 17 (.meth 13 0 .nil)) (.cons (.ite (.tany (.cons (.neq (.tup (.cons (.rf 0 (.loc 17)) (.cons (.rf 1 (.loc 17)) .nil))) (.loc 16)) (.cons (.cmp .NotEq (.fld 13 7) (.sub (.loc 4) (.loc 15))) (.cons (.cmp .NotEq (.rf 0 (.fld 13 10)) (.sub (.loc 16) (.int 0))) .nil)))) (.cons (.ret (.boo false)) .nil) .nil) (.cons (.ite (.cmp .Eq (.loc 15) (.loc 14)) (.cons (.asg 18 (.meth 13 1 .nil)) (.cons (.ite (.tany (.cons (.neq (.tup (.cons (.rf 0 (.loc 18)) (.cons (.rf 1 (.loc 18)) .nil))) (.sub (.bin .Add (.loc 3) (.lst (.cons (.tup (.cons (.gi 12) (.cons .non .nil))) .nil))) (.bin .Add (.loc 15) (.int 1)))) (.cons (.neq (.rf 1 (.fld 13 10)) (.sub (.loc 16) (.int 1))) .nil))) (.cons (.ret (.boo false)) .nil) .nil) (.cons (.ite (.cmp .NotEq (.rf 0 (.meth 13 1 .nil)) (.rf 0 (.loc 18))) (.cons (.ret (.boo false)) .nil) .nil) .nil))) .nil) .nil)))) (.cons (.ite (.tany (.cons (.cmp .NotEq (.rf 0 (.meth 13 0 .nil)) (.gi 12)) (.cons (.cmp .NotEq (.rf 0 (.meth 13 0 .nil)) (.gi 12)) .nil))) (.cons (.ret (.boo false)) .nil) .nil) (.cons (.unp [19,20] (.sub (.call 27 .nil) (.bin .Mod (.bi 3 (.cons (.loc 1) .nil)) (.bi 0 (.cons (.call 27 .nil) .nil))))) (.cons (.asg 21 (.bin .Add (.bin .Add (.bin .Add (.byt [113,58]) (.call 32 (.cons (.loc 5) (.cons (.int 10) .nil)))) (.byt [58,32])) (.loc 20))) .nil))))))))))))
theorem w_1{l:List V}{ns:List Int}(hl:ns.length<=12){Q:Fl->St->Prop}(hq:∀d e i,lwN i=true->A6 X 17 v4 aM0 (lwS l ns d e ns.length i) Q):A6 X 17 v4 ca9 {loc:=[.val (.lst l), .val (.lst (ns.map .int)), .un, .un, .un, .un, .un, .un, .un, .un, .un, .un, .un, .un, .un, .un, .un, .un, .un, .un, .un, .un],me:=none} Q:=by
 refine λd e=>⟨(ns.map V.int),(lwJ l ns d e),rfl,⟨(0,⟨.un, .un, .un, .un, .un, .un, .un⟩),⟨⟨rfl,cY8 _⟩,rfl⟩,rfl⟩,λk w st hw hJ=>lw_k hw hJ λc i hc=>(Cs.det T9 (by lia) nR ⟨?_,(Cs.det T9 (by lia) nR ⟨?_,⟨?_,⟨?_,_,bZ0,⟨rfl,(Cs.det ak0 (by lia) nR ⟨rfl,⟨?_,⟨?_,⟨d5,⟨rfl, ?_,⟨rfl, ?_,(ci7 (i:=⟨.val (.bytes (F1 c).1), .val (.int (F1 c).2), .val (.bytes (t7 c).1), .val (.int (t7 c).2.1), .val (t7 c).2.2.1, .val (.int (t7 c).2.2.2), .val (.int c)⟩) rfl hc)⟩⟩⟩⟩⟩⟩)⟩⟩⟩⟩)⟩),λst hJ=>lw_e hJ λi hi=>(hq d e i hi)⟩
 ·exact⟨by decide,by decide⟩
 ·exact cV3 rfl
 ·exact(by decide:(12:Int)≠0)
 ·exact fmb (k:=12) (by decide) (by decide)
 ·exact(cs7 hl).1
 ·exact(cs7 hl).2
 ·rw[cW3];exact cV5 (au1 hl) (cV3 rfl)
 ·rw[cW3,aI1];exact cV5 (au1 hl) (cV3 rfl)
end
section
variable {X:Cx}
noncomputable def lR(ns:List Int)(k:Nat):Bs:=if k<=ns.length then j8 (ns.drop k)++[32]else []
noncomputable def lL(ns:List Int)(k:Nat):Int:=r8 1 (ns.take k)
noncomputable def lT(ns:List Int)(k:Nat):Tk:=(ns.map U8).getD k (287, .none)
noncomputable def LSt(ns:List Int):Prop:=∀k,∃b,f6 (lR ns k) (lL ns k)= .ok (lT ns k) (lR ns (k+1)) (lL ns (k+1)) b
structure LA(ns:List Int)(k:Nat)(σ:LxS):Prop where
 good:Good σ
 rest:σ.rest=lR ns k
 line:σ.line=lL ns k
structure LB(ns:List Int)(k:Nat)(σ:LxS):Prop where
 ok:σ.Ok
 kinds:σ.kinds=A2
 chunk:σ.chunk=[113]
 ahead:σ.ahead=x6 (lT ns k)
 rest:σ.rest=lR ns (k+1)
 line:σ.line=lL ns (k+1)
noncomputable abbrev LP(ns:List Int)(k:Nat)(σ:LxS):Prop:=LA ns k σ∨LB ns k σ
theorem aC2{σ τ:LxS}(h:σ.Ok)(e1:τ.text=σ.text)(e2:τ.rest=σ.rest)(e3:τ.line=σ.line)(e4:τ.buf=σ.buf):τ.Ok:=⟨e1▸e2▸h.suf,e1▸h.few,e1▸e2▸e4▸h.room,e3▸h.pos,e1▸e2▸e3▸h.lines⟩
theorem nxL{ns:List Int}(hs:LSt ns){k:Nat}{σ:LxS}{n:Nat}{Q:V->Option (List (String×Fv))->Prop}{R:Bs->Prop}(hn:14<=n)(p:LP ns k σ)(q:∀τ:LxS,LA ns (k+1) {τ with cur:=x6 (lT ns k)}->Q (x6 (lT ns k)) (some ({τ with cur:=x6 (lT ns k)}:LxS).fs)):Cs X n (.ref 287) 465 [] (some σ.fs) Q R:=by
 rcases p with p|p
 ·obtain⟨b,e⟩:=hs k
  rw[←p.rest, ←p.line]at e
  refine(Cs.up (aF0 p.good.ok p.good.kinds (by rw[p.good.chunk];decide) p.good.ahead) hn).mono (λv m h=> ?_) (λmsg h=> ?_)
  ·obtain⟨a,r,l,b',e1,rfl,rfl⟩:=h
   have g:=p.good.le e1
   rw[e]at e1
   cases e1
   exact q (({σ with last:=σ.line}).w _ _ _) ⟨g,rfl,rfl⟩
  ·obtain⟨l,w,nr,e1,_⟩:=h
   rw[e]at e1;exact nomatch e1
 ·refine(Cs.up (ax5 (by rw[p.ahead];rfl)) (cV5 (by decide) hn)).mono (λv m h=> ?_) (λmsg h=>h.elim)
  obtain⟨rfl,rfl⟩:=h
  rw[p.ahead]
  exact q {σ with last:=σ.line,ahead:= .none} ⟨⟨aC2 p.ok rfl rfl rfl rfl,p.kinds,p.chunk,rfl⟩,p.rest,p.line⟩
theorem ahL{ns:List Int}(hs:LSt ns){k:Nat}{σ:LxS}{c:V}{n:Nat}{Q:V->Option (List (String×Fv))->Prop}{R:Bs->Prop}(hn:14<=n)(p:LA ns k {σ with cur:=c})(q:∀τ:LxS,LB ns k {τ with cur:=c}->Q (x6 (lT ns k)) (some ({τ with cur:=c}:LxS).fs)):Cs X n (.ref 294) 465 [] (some ({σ with cur:=c}:LxS).fs) Q R:=by
 obtain⟨b,e⟩:=hs k
 rw[←p.rest, ←p.line]at e
 refine(Cs.up (aL0 p.good.ok p.good.kinds (by rw[p.good.chunk];decide) p.good.ahead) hn).mono (λv m h=> ?_) (λmsg h=> ?_)
 ·obtain⟨a,r,l,b',e1,rfl,rfl⟩:=h
  have g:=(p.good.le e1).ok
  rw[e]at e1
  cases e1
  exact q (({σ with ahead:=x6 (lT ns k)}).w _ _ _) ⟨aC2 g rfl rfl rfl rfl,p.good.kinds,p.good.chunk,rfl,rfl,rfl⟩
 ·obtain⟨l,w,nr,e1,_⟩:=h
  rw[e]at e1;exact nomatch e1
theorem cH0{ns:List Int}{k:Nat}{σ:LxS}{n:Nat}{Q:V->Option (List (String×Fv))->Prop}{R:Bs->Prop}(hn:14<=n)(p:LB ns k σ)(q:Q (x6 (lT ns k)) (some σ.fs)):Cs X n (.ref 294) 465 [] (some σ.fs) Q R:=by
 refine(Cs.up (am7 (by rw[p.ahead];rfl)) (cV5 (by decide) hn)).mono (λv m h=> ?_) (λmsg h=>h.elim)
 obtain⟨rfl,rfl⟩:=h
 rw[p.ahead]
 exact q
theorem aZ7{v:V}(h:rOk v=true):eqV v v=some true:=by
 cases v<;>first|rfl|(exact cV2 h;done)|exact congrArg some (beq_self_eq_true _)
theorem nv1{v:V}(h:rOk v=true):neV v v=some true:=by
 cases v<;>first|rfl|(exact cV2 h;done)|exact congrArg some (beq_self_eq_true _)
theorem az9{a:Tk}(h:rOk a.2=true):neV (.tup [.int a.1,a.2]) (.tup [.int a.1,a.2])=some true:=by
 show(S7 [.int a.1,a.2] [.int a.1,a.2]).map _=_
 have e:S7 [.int a.1,a.2] [.int a.1,a.2]=some [true,true]:=by
  unfold S7
  rw[show eqV (.int a.1) (.int a.1)=some true from congrArg some (beq_self_eq_true _)]
  unfold S7
  rw[aZ7 h];rfl
 rw[e];rfl
end
section
variable {X:Cx}
noncomputable abbrev W2I:=LxS×Sl×Sl×Sl×Sl
noncomputable abbrev w2S(l:List V)(ns:List Int)(N:Nat)(i:LwI)(sp:Int)(j:W2I):St:= {loc:=[.val (.lst l), .val (.lst (ns.map .int)), .val (.bytes (j8 ns)), .val (.lst (ns.map λc=>tv (U8 c))), .val (.lst ((H2 1 ns).map .int)), .val (.int (N:Int)),i.one,i.gap,i.more,i.piece,i.kind,i.told,i.inner, .me, .val (.int sp),j.2.1,j.2.2.1,j.2.2.2.1,j.2.2.2.2, .un, .un, .un],me:=some j.1.fs}
noncomputable abbrev W2P(ns:List Int)(k:Nat)(j:W2I):Prop:=LP ns k j.1/\k<=ns.length
theorem bI3{ns:List Int}{k:Nat}(h:k < ns.length):(ns.map λc=>tv (U8 c))[k]? =some (tv (lT ns k)):=by
 unfold lT
 rw[cX2,cV8,cX2,cW2 h];rfl
theorem ak4{ns:List Int}{k:Nat}(h:ns.length<=k):lT ns k=(287, .none):=by
 unfold lT
 rw[cV8,List.getElem?_eq_none (by rw[cW3];exact h)];rfl
@[elab_as_elim] theorem w2_k {l:List V} {ns:List Int} {N:Nat} {i:LwI} {sp:Int} {k:Nat} {w:V} {st:St} {G:V->St->Prop} (h:(ns.map λc=>tv (U8 c))[k]? =some w) (hJ:JF (w2S l ns N i sp) (W2P ns) k st) (f:∀j,k < ns.length->LP ns k j.1->G (tv (lT ns k)) (w2S l ns N i sp j)):G w st:=by
 have hk:k < ns.length:=by have:=(cX6.mp h).1;rwa[cW3]at this
 rw[bI3 hk]at h
 cases h
 obtain⟨j,p,rfl⟩:=hJ
 exact f j hk p.1
@[elab_as_elim] theorem w2_e {l:List V} {ns:List Int} {N:Nat} {i:LwI} {sp:Int} {st:St} {G:St->Prop} (hJ:JF (w2S l ns N i sp) (W2P ns) (ns.map λc=>tv (U8 c)).length st) (f:∀j,LP ns ns.length j.1->G (w2S l ns N i sp j)):G st:=by
 rw[cW3]at hJ;obtain⟨j,p,rfl⟩:=hJ;exact f j p.1
theorem bn9{ns:List Int}{k:Nat}(h:k < ns.length):((H2 1 ns).map V.int)[(k:Int).toNat]? =some (.int (lL ns (k+1))):=by
 show((H2 1 ns).map V.int)[k]? =_
 rw[cX2,an7 _ _ _ h];rfl
theorem bX1{ns:List Int}{k:Nat}(h:k < ns.length):(ns.map (λc=>tv (U8 c))++[.tup [.int 287, .none]])[((k:Int)+1).toNat]? =some (tv (lT ns (k+1))):=by
 show(_++_:List V)[k+1]? =_
 by_cases h2:k+1 < ns.length
 ·rw[List.getElem?_append_left (by rw[cW3];exact h2),bI3 h2]
 ·have e:k+1=ns.length:=by lia
  rw[List.getElem?_append_right (by rw[cW3];lia),cW3,e,ak4 (cX4 _),Nat.sub_self];rfl
theorem ao1{a b:Int}(e:a=b)(h:(!(a==b))=true):False:=by
 rw[e,beq_self_eq_true]at h;exact cV2 h
theorem kb0{k n:Nat}(h:k < n)(hn:n<=12):0<=(k:Int)/\(k:Int)< 2 ^ 63:=by lia
theorem kb1{k n:Nat}(h:k < n)(hn:n<=12):0<=(k:Int)+1/\(k:Int)+1 < 2 ^ 63:=by lia
theorem la0{ns:List Int}(h:ns.length<=12):LA ns 0 (lx0 (j8 ns++[32]) [64,113]):=⟨al7 (by have:=G4 ns;rw[cV7];show _+1<=_;lia),(if_pos (cY8 _)).symm,rfl⟩
noncomputable def aZ8:Ns:=(.cons (.ite (.tany (.cons (.cmp .NotEq (.rf 0 (.meth 13 0 .nil)) (.gi 12)) (.cons (.cmp .NotEq (.rf 0 (.meth 13 0 .nil)) (.gi 12)) .nil))) (.cons (.ret (.boo false)) .nil) .nil) (.cons (.unp [19,20] (.sub (.call 27 .nil) (.bin .Mod (.bi 3 (.cons (.loc 1) .nil)) (.bi 0 (.cons (.call 27 .nil) .nil))))) (.cons (.asg 21 (.bin .Add (.bin .Add (.bin .Add (.byt [113,58]) (.call 32 (.cons (.loc 5) (.cons (.int 10) .nil)))) (.byt [58,32])) (.loc 20))) .nil)))
noncomputable def bS8:Ns:=(.cons (.fore 15 16 (.loc 3) (.cons (.asg 17 (.meth 13 0 .nil)) (.cons (.ite (.tany (.cons (.neq (.tup (.cons (.rf 0 (.loc 17)) (.cons (.rf 1 (.loc 17)) .nil))) (.loc 16)) (.cons (.cmp .NotEq (.fld 13 7) (.sub (.loc 4) (.loc 15))) (.cons (.cmp .NotEq (.rf 0 (.fld 13 10)) (.sub (.loc 16) (.int 0))) .nil)))) (.cons (.ret (.boo false)) .nil) .nil) (.cons (.ite (.cmp .Eq (.loc 15) (.loc 14)) (.cons (.asg 18 (.meth 13 1 .nil)) (.cons (.ite (.tany (.cons (.neq (.tup (.cons (.rf 0 (.loc 18)) (.cons (.rf 1 (.loc 18)) .nil))) (.sub (.bin .Add (.loc 3) (.lst (.cons (.tup (.cons (.gi 12) (.cons .non .nil))) .nil))) (.bin .Add (.loc 15) (.int 1)))) (.cons (.neq (.rf 1 (.fld 13 10)) (.sub (.loc 16) (.int 1))) .nil))) (.cons (.ret (.boo false)) .nil) .nil) (.cons (.ite (.cmp .NotEq (.rf 0 (.meth 13 1 .nil)) (.rf 0 (.loc 18))) (.cons (.ret (.boo false)) .nil) .nil) .nil))) .nil) .nil)))) (.cons (.ite (.tany (.cons (.cmp .NotEq (.rf 0 (.meth 13 0 .nil)) (.gi 12)) (.cons (.cmp .NotEq (.rf 0 (.meth 13 0 .nil)) (.gi 12)) .nil))) (.cons (.ret (.boo false)) .nil) .nil) (.cons (.unp [19,20] (.sub (.call 27 .nil) (.bin .Mod (.bi 3 (.cons (.loc 1) .nil)) (.bi 0 (.cons (.call 27 .nil) .nil))))) (.cons (.asg 21 (.bin .Add (.bin .Add (.bin .Add (.byt [113,58]) (.call 32 (.cons (.loc 5) (.cons (.int 10) .nil)))) (.byt [58,32])) (.loc 20))) .nil))))
theorem w_2{l:List V}{ns:List Int}{N:Nat}{i:LwI}{sp:Int}{σ:LxS}(hl:ns.length<=12)(hs:LSt ns)(hv:∀k,rOk (lT ns k).2=true)(hp:LA ns 0 σ){Q:Fl->St->Prop}(hq:∀j,LP ns ns.length j.1->A6 X 17 v4 aZ8 (w2S l ns N i sp j) Q):A6 X 17 v4 bS8 (w2S l ns N i sp (σ, .un, .un, .un, .un)) Q:=by
 refine⟨JF (w2S l ns N i sp) (W2P ns),⟨(σ, .un, .un, .un, .un),⟨.inl hp,cY8 _⟩,rfl⟩,λk w st hw hJ=>w2_k hw hJ λj hk p=>(nxL hs (by decide) p λτ q=>⟨d7 _,⟨rfl,rfl,⟨rfl,rfl,⟨d5,(O8 (az9 (hv _)) ⟨λh7=>⟨λH=>(cX9 ?_),nofun⟩,λh7=>⟨?_,_,(bn9 hk),⟨λh6=>⟨λH=>(cX9 ?_),nofun⟩,λh6=>⟨rfl,rfl,⟨?_,_,rfl,⟨λh5=>⟨λH=>(cX9 ?_),nofun⟩,λh5=>⟨nofun,λH=>⟨λh4=>(ahL hs (by decide) q λυ r=>⟨d7 _,⟨rfl,rfl,⟨rfl,rfl,⟨d5,⟨d5,⟨d5,⟨?_,⟨?_,_,(bX1 hk),(O8 (az9 (hv _)) ⟨λh3=>⟨λH=>(cX9 ?_),nofun⟩,λh3=>⟨rfl,rfl,⟨?_,_,rfl,(O8 (nv1 (hv _)) ⟨λh2=>⟨λH=>(cX9 ?_),nofun⟩,λh2=>⟨nofun,λH=>(cH0 (by decide) r ⟨d7 _,⟨rfl,rfl,⟨rfl,rfl,⟨λh1=>(cX9 ?_),λh1=>⟨(_, .val (.int (k:Int)), .val (tv (lT ns k)), .val (x6 (lT ns k)), .val (x6 (lT ns (k+1)))), ?_,rfl⟩⟩⟩⟩⟩)⟩⟩)⟩⟩⟩)⟩⟩⟩⟩⟩⟩⟩⟩),λh4=>⟨(_, .val (.int (k:Int)), .val (tv (lT ns k)), .val (x6 (lT ns k)),j.2.2.2.2), ?_,rfl⟩⟩⟩⟩⟩⟩⟩⟩⟩)⟩⟩⟩⟩),λst hJ=>w2_e hJ λj p=>(hq j p)⟩
 ·exact cV2 h7
 ·exact kb0 hk hl
 ·exact ao1 q.line h6
 ·exact⟨cZ5 _,by decide⟩
 ·exact ao1 rfl h5
 ·rw[cW3];exact cV5 (dc8 hl _) (cV3 rfl)
 ·exact kb1 hk hl
 ·exact cV2 h3
 ·exact⟨by decide,by decide⟩
 ·exact cV2 h2
 ·exact ao1 rfl h1
 ·exact⟨.inr r,hk⟩
 ·exact⟨.inl q,hk⟩
noncomputable def W1(m:Int):Bs×Bs:=badT.getD (m.fmod 14).toNat ([],[])
noncomputable def bn0(N:Nat)(x:Bs×Bs):Bs:=[113,58]++l5 10 N++[58,32]++x.2
theorem bX8(m:Int):(badT.map pb)[(m.fmod 14).toNat]? =some (pb (W1 m)):=by
 have h:(m.fmod 14).toNat < badT.length:=E5 (k:=14) (by decide)
 unfold W1
 rw[cX2,cV8,cW2 h];rfl
theorem cp6:∀p∈badT,p.1.length<=60/\p.2.length<=60:=by decide+kernel
theorem W6(m:Int):(W1 m).1.length<=60/\(W1 m).2.length<=60:=by
 unfold W1
 rw[cV8]
 cases e:badT[(m.fmod 14).toNat]? with
 |none=>exact⟨cY8 _,cY8 _⟩
 |some b=>exact cp6 b (cW1 e)
theorem aQ3{N:Nat}(hN:N < 2 ^ 30):([113,58]:Bs).length+ (l5 10 N).length<=16777216/\(([113,58]:Bs)++l5 10 N).length+ ([58,32]:Bs).length<=16777216/\(([113,58]:Bs)++l5 10 N++[58,32]).length<=100:=by
 have:=w6 (b:=10) (by decide) hN
 simp only[cV7,da0,dh3]
 lia
theorem ar1{ns:List Int}(h:ns.length<=12):(j8 ns).length<=3600:=cV5 (G4 _) (dd5 300 h)
noncomputable def lwQ(ns:List Int)(N:Nat)(f:Fl)(st:St):Prop:=f= .next/\∃m:Int,st.loc[2]? =some (.val (.bytes (j8 ns)))/\st.loc[19]? =some (.val (.bytes (W1 m).1))/\st.loc[21]? =some (.val (.bytes (bn0 N (W1 m))))
theorem w_3{l:List V}{ns:List Int}{N:Nat}{i:LwI}{sp:Int}{j:W2I}(hl:ns.length<=12)(hs:LSt ns)(hN:N < 2 ^ 30)(p:LP ns ns.length j.1):A6 X 17 v4 aZ8 (w2S l ns N i sp j) (λf st'=>f≠ .retMe/\lwQ ns N f st'.fg):=by
 refine(nxL hs (by decide) p λτ q=>⟨d7 _,⟨rfl,rfl,⟨λh2=>⟨λH=>(cX9 ?_),nofun⟩,λh2=>(nxL hs (by decide) (.inl q) λυ r=>⟨d7 _,⟨rfl,rfl,⟨λh1=>⟨λH=>(cX9 ?_),nofun⟩,λh1=>⟨nofun,λH=>(Cs.det Y5 (by decide) nR ⟨?_,(Cs.det Y5 (by decide) nR ⟨?_,⟨?_,⟨?_,_,(bX8 _),⟨rfl,(Cs.det (B0 hN (by decide) (by decide)) (by decide) nR ⟨?_,⟨?_,⟨?_,⟨nofun,rfl,_,rfl,rfl,rfl⟩⟩⟩⟩)⟩⟩⟩⟩)⟩)⟩⟩⟩⟩)⟩⟩⟩)
 ·exact ao1 (congrArg Prod.fst (ak4 (cX4 _))) h2
 ·exact ao1 (congrArg Prod.fst (ak4 (Nat.le_succ _))) h1
 ·exact aw6 ns
 ·exact cV3 rfl
 ·exact(by decide:(14:Int)≠0)
 ·exact fmb (k:=14) (by decide) (by decide)
 ·exact(aQ3 hN).1
 ·exact(aQ3 hN).2.1
 ·exact cV5 (cW8 (aQ3 hN).2.2 (W6 _).2) (cV3 rfl)
end
structure ci6(P:Params):Prop where
 ga:findIn (KP P) (.ref 87) "__getattribute__"=some (some (.builtin "BaseException.__getattribute__"))
 gt:findIn (KP P) (.ref 87) "__getattr__"=some none
 sub:subIn (KP P) (.ref 87) (.type "BaseException")=some true
 dict:hasDictIn (KP P) 87=true
theorem cr7(P:Params):ci6 P:=⟨by kernel_rfl,by kernel_rfl,by kernel_rfl,by kernel_rfl⟩
section
variable {prog:Program} {w:World} {A:Around} {E:Value->Shared->Prop} {s:Shared} {P:Params} {x:Addr} {ox od:Obj} {m:Str->Option Value} {v:Value} {expr:Bool} {Q:Value->Shared->Prop}
theorem aG9(K:(KP P).In s.heap)(I:InstAt s.heap x ox 87 (some od))(hm:ObjNs od m)(e:m "value"=some v)(hh:handedIn v=true)(h:Q v {s with toks:=s.toks+1}):
 wpAny (model prog w) A (getAttr (.ref x) "value" expr) Q E s:=by
 have O:=cr7 P
 have hf:findObj (KP P) 87 (some od) "value"=some (.value v):=findObj_own O.dict (ag3 P).val rfl (U5 hm e)
 obtain⟨hh',g,d,t,os⟩:=s
 have L0:=I.type (M:=model prog w)
 have L1:=looks_findIn (M:=model prog w) K O.ga
 have L2:=looks_findIn (M:=model prog w) K O.gt
 have L3:Looks (model prog w) hh' (isInstance (.ref x) (.type "BaseException")) true:=L0.andThen (looks_subIn K O.sub)
 have L4:=looks_find (M:=model prog w) K I hf
 refine cV4 (wpAny_mkText (da9 (cV4 (L0.at (cV4 (L1.at ?_))))))
 refine cV4 (L2.at (cV4 (wpAny_attempt (da9 ?_))))
 have hx:∀o n,callGetattribute o n (.builtin "BaseException.__getattribute__") expr=boundAndCalled (.builtin "BaseException.__getattribute__") o n:=λH H=>by cases expr<;>rfl
 rw[hx]
 refine cV4 (dc5 (PySem.F.attr_Exception.ga.bind _) ?_)
 refine wpAny_call (f:= .builtin "BaseException.__getattribute__") ?_
 refine codeAny_call_builtin PySem.F.attr_Exception.ga.plain F.entry_bexc_ga (@check_slot (model prog w) _ _ ⟨hh',g,d,t+1,os⟩ "BaseException.__getattribute__" "BaseException" "__getattribute__" (.ref x) [.str "value" t] [] _ (by decide+kernel) (by decide+kernel) L3 (F.args_bexc_ga (.ref x) (.str "value" t)) ?_)
 refine cV4 (cW4 (cV4 (cW4 (cV4 (L0.at (cV4 (L4.at (cW4 ?_))))))))
 show wpAny _ _ (handedOut v) _ _ _
 rw[handedOut_of hh];exact cW4 h
end
theorem an1{α:Type}{M:Model}{A:Around}{E:Value->Shared->Prop}{s:Shared}{m:Sem α}{Q:Except Value α->Shared->Prop}(h:d6 M A m (λa=>Q (.ok a)) (λe=>Q (.error e)) s):d6 M A m.attempt Q E s:=λΓ p hΓ hc=>by
 rw[Sem.wp_attempt];exact h Γ p hΓ hc
theorem ap7{M:Model}{A:Around}{E:Value->Shared->Prop}{s:Shared}{env:Env}{body orelse:Sem Flow}{h₀:ExceptHandler}{hs:List ExceptHandler}{Q:Flow->Shared->Prop}
 (h:d6 M A body (λH H=>False) (λe s₁=>wpAny M A (noteFrame e env) (λH s₂=>wpAny M A (setFlight e none) (λH s₃=>wpAny M A (handleBy e env (h₀::hs)) Q E s₃) E s₂) E s₁) s):
 d6 M A (tryStmt false body (h₀::hs) orelse [] env) Q E s:=by
 exact a0 (an1 (j4 h (λf s₁ h₁=>h₁.elim) λe s₁ h₁=>i9 (cV4 (df8 h₁ (λH H h₂=>cV4 h₂) λH H x=>x))))
section
variable {X:Cx} {F:Frm} {n:Nat} {st:St} {φ ψ ω:PM} {s:Shared}
structure Wk(X:Cx)(ψ:PM)(s:Shared):Prop where
 base:∀a o,X.H₀.get? a=some o->s.heap.get? a=some o
 psi:∀a o,ψ a=some o->(∀vs,o.data≠ .fields vs)->∃sl,s.heap.get? a=some {o with slots:=sl}
 os:s.os=X.os
 gens:s.gens= #[]
theorem bP1{A:Around}{Q:Flow->Shared->Prop}{E:Value->Shared->Prop}{msg:Bs}{body:List Stmt}{p1 p2 p3 p4 p5 p6}(O:FOk F)(hA:Rm (F.env::F.outer) A n)(out:Outer X F.ψ F.outer)(new:X.H₀.get? F.L=none)(hno:F.ψ F.L=none)
 (hk:F.scope.names.lookup (cV1 "LuaSyntaxError")=some .globalImplicit) (hl:F.scope.names.lookup (cV1 "caught")=some .local)
 (hb:d6 X.M A (execs body F.env) (λH H=>False) (λe s'=>∃x Ψ oL m,e= .ref x/\F.ψ.le Ψ/\Ψ F.L=some oL/\ObjNs oL m/\ExIn X Ψ F.L s' x msg) s)
 (hQ:∀t s',Wk X F.ψ s'->Q (.ret (.bytes msg.toArray t)) s'):
 d6 X.M A (exec (.Try body [.ExceptHandler (some (.Name (cV1 "LuaSyntaxError") p1)) (some (cV1 "caught")) [.Return (some (.Attribute (.Name (cV1 "caught") p2) (cV1 "value") p3)) p4] p5] [] [] p6) F.env) Q E s:=by
 rw[arm_exec_Try]
 refine i6 (ap7 (j4 hb (λH H h=>h) λe s1 ⟨x,Ψ,oL,m,e1,hle,hΨ,hm,hx⟩=> ?_))
 subst e1
 refine hx.note O.kind rfl (out.mono hle) hA.frames λs2 h2=>h2.ex.flight none F.L (.inl rfl) ⟨h2.own.1, .inr rfl⟩ λs3 h3=> ?_
 have K3:X.K.In s3.heap:=X.kin.keeps h3.base
 refine wpAny_handleBy_cons (codeAny_handlers_test (de0 O.kind hk (Calls.loadGlobal_global (J3 K3 (X5 _)) (J4 (O4 _)) ?_) (by decide))) (by intro q;exact nomatch q)
 obtain⟨oe,vs,dx,od,es,k,t,a1,a2,_⟩:=h3.exc
 obtain⟨hh3,g3,d3,t3,os3⟩:=s3
 refine wpAny_excMatches_sub_self (K3 _ _ (ae6 _)) a1 a2 rfl ?_
 refine codeAny_handlers_suite_as (h3.flight none F.L (.inl rfl) ⟨h3.own.1, .inr rfl⟩ λs4 h4=> ?_)
 have K4:X.K.In s4.heap:=X.kin.keeps h4.base
 obtain⟨oe,vs,dx,od,es,k,t,a1,a2,a3,a4,a5,a6,a7,a8,a9,_⟩:=h4.exc
 obtain⟨sl,q⟩:=h4.psi F.L oL hΨ hm.noFields
 have hm':ObjNs {oL with slots:=sl} m:=hm
 have hne:∀a o,X.H₀.get? a=some o->a≠F.L:=λa o e e'=>by rw[e',new]at e;exact nomatch e
 refine wpAny_storeName_local (m:=m) hl (hm'.ns q) (λh5 hn5 hs5=> ?_) (by show(F.scope.kind== .class|| (F.scope.kind== .module&&F.L != cW5))=false;rw[O.kind];rfl)
 have K5:X.K.In h5:=X.kin.keeps λa o e=>(hs5.2 a (hne a o e)).trans (h4.base a o e)
 have hxL:x≠F.L:=λe=>by rw[e,q]at a1;cases a1;exact hm.noFields vs a3
 have hd:∃od' m2,h5.get? dx=some od'/\ObjNs od' m2/\m2 (cV1 "value")=some (.bytes msg.toArray t):=by
  by_cases e:dx=F.L
  ·obtain⟨o5,e1,e2⟩:=ObjNs.of hn5
   refine⟨o5,_,e▸e1,e2, ?_⟩
   obtain⟨es',ep',f1,_,f3⟩:=hm'
   rw[e,q]at a6
   cases a6
   rw[a7]at f1
   cases f1
   show(if _ then _ else _)=_
   rw[if_neg (by decide), ←f3]
   exact a8
  ·exact⟨od,_,(hs5.2 dx e).trans a6,⟨es,k,a7,a9,λH=>rfl⟩,a8⟩
 obtain⟨od',m2,d1,d2,d3⟩:=hd
 refine wpAny_execs_cons (wpAny_Return_some (Attribute_name (db9 (cW9 O.kind hl hn5 (if_pos rfl) ?_) (by decide))))
 refine aG9 (ox:=oe) (od:=od') (s:= {s4 with heap:=h5,toks:=s4.toks+1}) K5 ⟨(hs5.2 x hxL).trans a1,a2,by unfold notCls;rw[a3],by rw[a4];exact d1⟩ d2 d3 rfl ?_
 refine wpAny_nameGoes hl hn5 (by show(F.scope.kind== .class|| (F.scope.kind== .module&&F.L != cW5))=false;rw[O.kind];rfl) λh6 m6 H hs6=> ?_
 refine hQ t _ ⟨λa o e=>((hs6.2 a (hne a o e)).trans (hs5.2 a (hne a o e))).trans (h4.base a o e),λa o e1 e2=> ?_,h4.os,h4.gens⟩
 have ha:a≠F.L:=λe=>by rw[e,hno]at e1;exact nomatch e1
 obtain⟨sl',g⟩:=h4.psi a o (hle _ _ e1) e2
 exact⟨sl',((hs6.2 a ha).trans (hs5.2 a ha)).trans g⟩
end
section
variable {X:Cx} {F:Frm} {n:Nat}
theorem Inv.psiL{φ ω:PM}{st:St}{s:Shared}(I:Inv X F φ ω st s):F.ψ F.L=none:=by
 obtain⟨m,oL,d,h1,_⟩:=I.ex
 cases q:F.ψ F.L with
 |none=>rfl
 |some o=>rw[I.S.d3 F.L (by rw[q];nofun)]at h1;exact nomatch h1
noncomputable def CsW(X:Cx)(n:Nat)(f:Value)(vs:List V)(b:Bs):Prop:=
 ∀outer A s φ ψ ω Qr Er rs,Rm outer A n->ac3 X outer ψ ω false 0->Sep X φ ψ ω s->RVs X φ vs rs->(∀t s',Wk X (ψ.or (q6 false 0 ω)) s'->Qr (.bytes b.toArray t) s')->o7 X.M A (.call f ⟨rs,[]⟩) (aL8 Qr Er) s
theorem cc2{A:Around}{φ ω:PM}{s:Shared}{t msg:Bs}{l:List Sl}{y1 y2 y3 k1 q1 q2 q3 q4}(O:FOk F)(hA:Rm (F.env::F.outer) A (n+2))(I:Inv X F φ ω {loc:=l,me:=none} s)(hl:l[0]? =some (.val (.bytes t)))
 (hn:F.nm[0]? =some (cV1 "piece")) (ha:F.scope.names.lookup (cV1 "all_tokens")=some .globalImplicit) (hb:F.scope.names.lookup (cV1 "Limits")=some .globalImplicit)
 (h:Cs X (n+2) (.ref 476) 0 [.bytes t, .bytes [61,113],J5] none (λH H=>False) (λm=>m=msg)):
 d6 X.M A (execs [.Expr (.Call (.Name (cV1 "all_tokens") y1) [.Name (cV1 "piece") y2, .Constant (.bytes [61,113]) k1 y3, .Call (.Name (cV1 "Limits") q1) [] [] q2] [] q3) q4] F.env) (λH H=>False) (λe s'=>∃x Ψ oL m,e= .ref x/\F.ψ.le Ψ/\Ψ F.L=some oL/\ObjNs oL m/\ExIn X Ψ F.L s' x msg) s:=by
 have g1:=aE4 (X:=X) (k:=23) rfl
 have g2:=aE4 (X:=X) (k:=24) rfl
 have hargs:Evs X F (n+2) [.Name (cV1 "piece") y2, .Constant (.bytes [61,113]) k1 y3, .Call (.Name (cV1 "Limits") q1) [] [] q2] q3 {loc:=l,me:=none} (λvs st1=>vs=[.bytes t, .bytes [61,113],J5]/\st1.me=none) v4:=
  I9 (u5 0 O hn hl (I9 (Z9 (I9 (an6 O hb (E9 (a1 g1)) (a2 g1) (((T7 (X:=X)).up (by lia)).mono (λv m h=>ai8 ⟨by rw[h.1],rfl⟩) λH h=>h))))))
 refine l7 (Q6 (m8 (gl O I ha (E9 (a1 g2)) (u9 X.kin (a2 g2) (hargs A s φ ω _ _ hA I (λvs st1 rs s₁ φ1 ω₁ hq hI1 hl1 hvs=>⟨hI1.S.kin, ?_⟩) (λH H H h=>h.elim)) rfl rfl) (by decide))) (by unfold interactive;show(F.scope.kind== .module&&_)=false;rw[O.kind];rfl) rfl)
 obtain⟨rfl,hm⟩:=hq
 have hc:=hI1.callAt O false 0 (λe=>by exact cV2 e)
 obtain⟨m,oL,d,h1,h1a,h1b,h2,_⟩:=hI1.ex
 obtain⟨o2,e2,e3⟩:=ObjNs.of h2
 have eo:o2=oL:=by rw[hI1.S.kω _ _ h1]at e2;cases e2;rfl
 subst eo
 refine q9 (h _ A s₁ φ1 F.ψ ω₁ _ _ rs F.L 0 0 hA hc.1 (λH=>hc.2) hI1.S hvs trivial (λv me' r s' φ' ω' hq=>hq.elim) (λx s' msg' hm hx=> ?_))
 subst hm
 refine⟨x,_,o2,m,rfl,PM.le_or _ _, ?_,e3,hx⟩
 show(F.ψ F.L).or (q6 false 0 ω₁ F.L)=_
 rw[hI1.psiL]
 exact h1
end
section
variable {X:Cx} {n:Nat}
theorem bn3{ts:List Tk}{t:Bs}{x:Int×Bs×Bs}(ht:t.length<=5000)(hl:ts.length<=5000)(hr:Run (some x) ts t 1):Cs X 15 (.ref 476) 0 [.bytes t, .bytes [61,113],J5] none (λH H=>False) (λm=>m=u3 [113] x.1 x.2.1 x.2.2):=
 (aY1 ht hl U3 hr).mono (λv m h=>nomatch h.1) λm h=>by obtain⟨y,e,h⟩:=h;cases e;exact h
theorem ax2{t msg:Bs}(h:Cs X 15 (.ref 476) 0 [.bytes t, .bytes [61,113],J5] none (λH H=>False) (λm=>m=msg)):CsW X 16 (.ref 544) [.bytes t] msg:=
 λouter A s φ ψ ω Qr Er rs hA hC hS hv hQ=>by
  refine Cs.enter (me:=none) (lx:=0) (C:=0) (d:=0) (co9 _) (dvv:=[]) (λH=> .nil) rfl (by have:=hA.depth;lia) hC hS hv trivial λs₁ ω₁ I=> ?_
  have O:=(co9 X.w.params).frm s.heap.objs.size (ψ.or (q6 false 0 ω)) outer 0 0
  with_unfolding_all refine l7 (bP1 O hA.deeper I.out I.new I.psiL rfl rfl (cc2 (n:=13) O hA.deeper I rfl rfl rfl rfl h) λt s' hk=>hQ t s' hk)
end
section
variable {X:Cx}
theorem Cs.detA{f:Value}{C:Addr}{vs:List V}{k n:Nat}{w:V}{Q:V->Option (List (String×Fv))->Prop}{R:Bs->Prop}{P:Bs->Int×Bs×Bs->Prop}(h:Cs X k f C vs none (λv m=>(none:Option (Int×Bs×Bs))=none/\v=w/\m=none) (λmsg=>∃x,(none:Option (Int×Bs×Bs))=some x/\P msg x))(hk:k<=n)(q:Q w none):Cs X n f C vs none Q R:=
 (Cs.up h hk).mono (λv m h=>by obtain⟨_,rfl,rfl⟩:=h;exact q) λmsg h=>by obtain⟨_,e,_⟩:=h;cases e
noncomputable abbrev lwF(l:List V)(ns:List Int)(N:Nat)(d e:Addr)(i:LwI):St:= {loc:=[.val (.lst l), .val (.lst (ns.map .int)), .val (.bytes (j8 ns)), .own d (ns.map λc=>tv (U8 c)), .own e ((H2 1 ns).map .int), .val (.int (N:Int)),i.one,i.gap,i.more,i.piece,i.kind,i.told,i.inner, .un, .un, .un, .un, .un, .un, .un, .un, .un],me:=none}
theorem bO6{l:List V}{ns:List Int}{N:Nat}{d e:Addr}{i:LwI}(h:r8 1 ns=(N:Int)):lwS l ns d e ns.length i=lwF l ns N d e i:=by
 unfold lwS lwF
 rw[List.take_length,h]
theorem bw0{ns:List Int}(hl:ns.length<=12)(hk:∀c,rOk (.int (U8 c).1)=true/\rOk (U8 c).2=true):X3 (.lst (ns.map λc=>tv (U8 c)))=true:=by
 unfold X3
 rw[cX7]
 refine⟨decide_eq_true (by rw[cW3];lia), ?_⟩
 rw[cZ3]
 intro v hv
 obtain⟨c,_,rfl⟩:=List.mem_map.mp hv
 exact cZ7.mpr (hk c)
theorem bx8(ns:List Int):(ns.map U8).map tv=ns.map λc=>tv (U8 c):=List.map_map
theorem R5:∀(a b:List Sl),Q7 (a++b)=(Q7 a&&Q7 b)
 | [],_=>rfl
 | .me::_,_=>rfl
 | .un::a,b=>R5 a b
 | .val _::a,b=>R5 a b
 | .own _ _::a,b=>R5 a b
structure LawOk(X:Cx)(ns:List Int)(N:Nat):Prop where
 few:ns.length<=12
 st:LSt ns
 run:Run none (ns.map U8) (j8 ns) 1
 ok:∀c,rOk (.int (U8 c).1)=true/\rOk (U8 c).2=true
 line:r8 1 ns=(N:Int)
 small:N < 2 ^ 30
 ref:∀m,CsW X 16 (.ref 544) [.bytes (j8 ns++[32]++(W1 m).1)] (bn0 N (W1 m))
theorem LawOk.val{ns N}(p:LawOk X ns N)(k:Nat):rOk (lT ns k).2=true:=by
 unfold lT
 rw[cV8,cX2]
 cases ns[k]? with
 |none=>rfl
 |some c=>exact(p.ok c).2
theorem w_m{l:List V}{ns:List Int}{N:Nat}{d e:Addr}{i:LwI}(hi:lwN i=true)(p:LawOk X ns N)(h5:(j8 ns).length<=5000)(h6:(ns.map U8).length<=5000)(h7:(j8 ns++[32]).length<=5000):A6 X 17 v4 aM0 (lwF l ns N d e i) (lwQ ns N):=by
 refine(Cs.det T7 (by decide) nR ((aY1 (e:=none) (ts:=ns.map U8) h5 h6 U3 p.run).detA (by decide) ⟨?_,⟨?_,⟨λh2=>(cX9 ?_),λh2=>⟨?_,(Cs.det T7 (by decide) nR ⟨?_,_,⟨d7 _,(am4 h7 am0).up (by decide)⟩,⟨d5,⟨d5,(O8 (a:=true) rfl ⟨λh1=>(cX9 ?_),λh1=>⟨?_,⟨?_,⟨?_,(w_2 p.few p.st p.val (la0 p.few) λj q=>w_3 p.few p.st p.small q)⟩⟩⟩⟩)⟩⟩⟩)⟩⟩⟩⟩))
 ·rw[bx8];exact bw0 p.few p.ok
 ·exact bw0 p.few p.ok
 ·rw[bx8,beq_self_eq_true]at h2;exact cV2 h2
 ·exact cV5 (dc8 (ar1 p.few) _) (cV3 rfl)
 ·show Q7 ([i.one,i.gap,i.more,i.piece,i.kind,i.told,i.inner]++[.un, .un, .un, .un, .un, .un, .un, .un, .un])=true
  rw[R5,show Q7 [i.one,i.gap,i.more,i.piece,i.kind,i.told,i.inner]=true from hi];rfl
 ·exact cV2 h1
 ·exact aw6 ns
 ·rw[cW3];exact cV5 p.few (cV3 rfl)
 ·lia
noncomputable def ao9(l:List Int):List Int:=((l.take 12).filter λH=>true).map λa=>if a < 0 then -a else a
theorem an4(l:List Int):(ao9 l).length<=12:=by
 unfold ao9
 rw[cW3]
 exact cV5 (de1 _ _) (List.length_take_le ..)
theorem aX3(l:List Int):F2 (l.map V.int) none (some 12)=(l.take 12).map V.int:=by
 unfold F2
 rw[cW3]
 show List.take (clipAt l.length 12 - 0) (l.map V.int)=_
 rw[List.map_take,Nat.sub_zero]
 have h:clipAt l.length 12=min 12 l.length:=J6 l.length 12
 rw[h, ←cW3 (f:=V.int) (as:=l)]
 exact List.take_eq_take_min.symm
theorem bV7{X:Cx}{n:Nat}{R:Bs->Prop}{d:Ns}{st st':St}{Q:Fl->St->Prop}(h:A6 X n R d st Q)(e:st'=st):A6 X n R d st' Q:=e▸h
noncomputable def bC2:Ns:=(.cons (.cabs 1 (.slc (.loc 0) .no (.cons (.int 12) .nil))) (.cons (.as4 2 3 4 5 [] 1) (.cons (.for 6 (.loc 1) (.cons (.unp [7,8] (.sub (.call 26 .nil) (.bin .Mod (.bin .FloorDiv (.loc 6) (.int 11)) (.bi 0 (.cons (.call 26 .nil) .nil))))) (.cons (.unp [9,10,11,12] (.call 33 (.cons (.loc 6) .nil))) (.cons (.asg 2 (.bin .Add (.bin .Add (.loc 2) (.loc 7)) (.loc 9))) (.cons (.asg 5 (.bin .Add (.bin .Add (.loc 5) (.loc 8)) (.loc 12))) (.cons (.ex (.app 3 (.tup (.cons (.loc 10) (.cons (.loc 11) .nil))))) (.cons (.ex (.app 4 (.loc 5))) .nil))))))) (.frz 4 (.frz 3 (.cons (.ite (.neq (.bi 4 (.cons (.call 24 (.cons (.loc 2) (.cons (.byt [61,113]) (.cons (.call 23 .nil) .nil)))) .nil)) (.bi 4 (.cons (.loc 3) .nil))) (.cons (.ret (.boo false)) .nil) .nil) (.new 13 (.cons (.bin .Add (.loc 2) (.byt [32])) (.cons (.byt [64,113]) (.cons (.call 23 .nil) .nil))) (.cons (.ite (.neq (.tup (.cons (.fld 13 1) (.cons (.fld 13 2) (.cons (.fld 13 7) .nil)))) (.tup (.cons (.byt [64,113]) (.cons (.byt [113]) (.cons (.int 1) .nil))))) (.cons (.ret (.boo false)) .nil) .nil) (.cons (.asg 14 (.bin .Mod (.bi 3 (.cons (.loc 1) .nil)) (.bin .Add (.bi 0 (.cons (.loc 1) .nil)) (.int 1)))) (.cons (.fore 15 16 (.loc 3) (.cons (.asg 17 (.meth 13 0 .nil)) (.cons (.ite (.tany (.cons (.neq (.tup (.cons (.rf 0 (.loc 17)) (.cons (.rf 1 (.loc 17)) .nil))) (.loc 16)) (.cons (.cmp .NotEq (.fld 13 7) (.sub (.loc 4) (.loc 15))) (.cons (.cmp .NotEq (.rf 0 (.fld 13 10)) (.sub (.loc 16) (.int 0))) .nil)))) (.cons (.ret (.boo false)) .nil) .nil) (.cons (.ite (.cmp .Eq (.loc 15) (.loc 14)) (.cons (.asg 18 (.meth 13 1 .nil)) (.cons (.ite (.tany (.cons (.neq (.tup (.cons (.rf 0 (.loc 18)) (.cons (.rf 1 (.loc 18)) .nil))) (.sub (.bin .Add (.loc 3) (.lst (.cons (.tup (.cons (.gi 12) (.cons .non .nil))) .nil))) (.bin .Add (.loc 15) (.int 1)))) (.cons (.neq (.rf 1 (.fld 13 10)) (.sub (.loc 16) (.int 1))) .nil))) (.cons (.ret (.boo false)) .nil) .nil) (.cons (.ite (.cmp .NotEq (.rf 0 (.meth 13 1 .nil)) (.rf 0 (.loc 18))) (.cons (.ret (.boo false)) .nil) .nil) .nil))) .nil) .nil)))) (.cons (.ite (.tany (.cons (.cmp .NotEq (.rf 0 (.meth 13 0 .nil)) (.gi 12)) (.cons (.cmp .NotEq (.rf 0 (.meth 13 0 .nil)) (.gi 12)) .nil))) (.cons (.ret (.boo false)) .nil) .nil) (.cons (.unp [19,20] (.sub (.call 27 .nil) (.bin .Mod (.bi 3 (.cons (.loc 1) .nil)) (.bi 0 (.cons (.call 27 .nil) .nil))))) (.cons (.asg 21 (.bin .Add (.bin .Add (.bin .Add (.byt [113,58]) (.call 32 (.cons (.loc 5) (.cons (.int 10) .nil)))) (.byt [58,32])) (.loc 20))) .nil)))))))))))))
noncomputable abbrev au5:List Stmt:=bd549.take 11
theorem cm4(L ψ outer lx):w8 (t9 aU1 aE8 549 L ψ outer lx 465).env aE8 bC2 au5=true:=by kernel_rfl
theorem bP9{l:List Int}{N:Nat}(hl:l.length<=1000)(p:LawOk X (ao9 l) N)(L ψ outer lx):J7 X (t9 aU1 aE8 549 L ψ outer lx 465) 17 au5 {loc:= .val (.lst (l.map .int))::db4 21 .un,me:=none} (lwQ (ao9 l) N) v4:=by
 have c:=cm4 L ψ outer lx
 unfold w8 at c
 rw[cX7]at c
 refine((ssm (n:=15) bC2).m _ (aX2 ((bQ2 X.w.params).frm L ψ outer lx 465) c.2) _ _ _ c.1 bJ7 ?_).mono λH H q=>q.2
 refine⟨?_,⟨?_, ?_,(bV7 (w_1 (l:=l.map .int) (ns:=ao9 l) (an4 l) λd e i hi=> ?_) ?_)⟩⟩
 ·rw[cW3];lia
 ·rw[aX3];exact aw6 _
 ·rw[aX3,cW3];exact cV5 (List.length_take_le ..) (cV3 rfl)
 ·rw[bO6 p.line]
  exact w_m hi p (cV5 (ar1 p.few) (by decide)) (by rw[cW3];exact cV5 p.few (by decide)) (by rw[cV7];exact cV5 (dc8 (ar1 p.few) _) (by decide))
 ·rw[aX3,V0]
  show({loc:=[_, .val (.lst _),_,_,_,_,_,_,_,_,_,_,_,_,_,_,_,_,_,_,_,_],me:=none}:St)=_
  unfold ao9
  rw[List.map_map]
  rfl
end
structure ai7(p:Bs):Prop where
 a:b8 (b9 p)=false
 b:u6 (b9 p)=false
 c:(b9 p==45&&b9 p.tail==45)=false
theorem aG1{p:Bs}(h:ai7 p)(f:Nat)(l:Int):skipLoop (f+1) p l []= .ok () p l []:=by
 unfold skipLoop i7
 rw[h.a,h.b,h.c]
 rfl
theorem aM2{p:Bs}(h:b8 (b9 p)=false)(c:UInt8):endLine (c::p)=p:=by
 unfold endLine
 rw[show(c::p).tail=p from rfl,h];rfl
noncomputable def aB8(g:Bs×Int):Prop:=∃k,k<=g.1.length/\∀p f l,b8 (b9 p)=false->skipLoop (f+k) (g.1++p) l []=skipLoop f p (l+g.2) []
theorem ak8{p:Bs}{f:Nat}{l:Int}{c:UInt8}(h:b8 (b9 p)=false):skipLoop f (endLine (c::p)) (l+1) []=skipLoop f p (l+1) []:=by rw[aM2 h]
theorem l0{p:Bs}{f:Nat}{l:Int}:skipLoop f p l []=skipLoop f p (l+0) []:=by rw[db6]
theorem l2{p:Bs}{f:Nat}{l:Int}:skipLoop f p (l+1+1) []=skipLoop f p (l+2) []:=by rw[de9];rfl
noncomputable def cA2{α:Type}(P:α->Prop):List α->Prop| []=>True|x::l=>P x/\cA2 P l
theorem aV4{α:Type}{P:α->Prop}:∀(l:List α),cA2 P l->∀i,i < l.length->∀d,P (l.getD i d):=λl=>by
 induction l with
 |nil=>exact λH i h=>absurd h (Nat.not_lt_zero i)
 |cons x l ih=>exact λh i hi d=>match i,hi with|0,_=>h.1|i+1,hi=>ih h.2 i (Nat.lt_of_succ_lt_succ hi) d
theorem cd5(i:Nat)(h:i < 12):aB8 (gapT.getD i ([],0)):=aV4 (P:=aB8) gapT ⟨⟨1,cV3 rfl,λp f l H=>(show skipLoop (f+1) ([32]++p) l []=skipLoop f p l []by with_unfolding_all rfl).trans l0⟩,
 ⟨1,cV3 rfl,λp f l h=>(show skipLoop (f+1) ([10]++p) l []=skipLoop f (endLine (10::p)) (l+1) []by with_unfolding_all rfl).trans (ak8 h)⟩,
 ⟨1,cV3 rfl,λp f l h=>show skipLoop (f+1) ([13,10]++p) l []=skipLoop f p (l+1) []by with_unfolding_all rfl⟩,
 ⟨1,cV3 rfl,λp f l h=>show skipLoop (f+1) ([10,13]++p) l []=skipLoop f p (l+1) []by with_unfolding_all rfl⟩,
 ⟨1,cV3 rfl,λp f l h=>(show skipLoop (f+1) ([13]++p) l []=skipLoop f (endLine (13::p)) (l+1) []by with_unfolding_all rfl).trans (ak8 h)⟩,
 ⟨2,cV3 rfl,λp f l H=>(show skipLoop (f+2) ([9,32]++p) l []=skipLoop f p l []by with_unfolding_all rfl).trans l0⟩,
 ⟨3,cV3 rfl,λp f l h=>(show skipLoop (f+3) ([32,45,45,120,32,93,93,32,121,10]++p) l []=skipLoop f (endLine (10::p)) (l+1) []by with_unfolding_all rfl).trans (ak8 h)⟩,
 ⟨3,cV3 rfl,λp f l h=>show skipLoop (f+3) ([32,45,45,91,91,121,10,93,93,32]++p) l []=skipLoop f p (l+1) []by with_unfolding_all rfl⟩,
 ⟨2,cV3 rfl,λp f l h=>show skipLoop (f+2) ([32,45,45,91,61,61,91,32,93,93,32,91,91,32,13,10,93,61,93,93,61,61,93]++p) l []=skipLoop f p (l+1) []by with_unfolding_all rfl⟩,
 ⟨3,cV3 rfl,λp f l h=>(show skipLoop (f+3) ([32,45,45,91,61,120,13]++p) l []=skipLoop f (endLine (13::p)) (l+1) []by with_unfolding_all rfl).trans (ak8 h)⟩,
 ⟨3,cV3 rfl,λp f l h=>(show skipLoop (f+3) ([10,10,13,12]++p) l []=skipLoop f p (l+1+1) []by with_unfolding_all rfl).trans l2⟩,
 ⟨4,cV3 rfl,λp f l h=>show skipLoop (f+4) ([11,45,45,10,13,32]++p) l []=skipLoop f p (l+1) []by with_unfolding_all rfl⟩,
 trivial⟩ i h _
theorem bd7(c:Int):aB8 (F1 c):=cd5 _ (E5 (k:=12) (by decide))
noncomputable def H9(r:Bs)(l:Int):Res Tk:=
 if b9 r== -1 then .ok (287, .none) r l []
 else if B1 (b9 r)then l6 (b9 r) r l []
 else if b9 r==91 then j6 r l []
 else if b9 r==46 then o4 r l []
 else if d8 (b9 r)then l9 r l []
 else if t6 (b9 r)then s9 r l []
 else if b9 r==45 then .ok (45, .none) r.tail l []
 else if ar0 (b9 r)then q7 (b9 r) r l []
 else .ok (b9 r, .none) r.tail l []
theorem bP2{g:Bs×Int}(h:aB8 g){p:Bs}(hp:ai7 p)(l:Int):f6 (g.1++p) l=H9 p (l+g.2):=by
 obtain⟨k,h1,h2⟩:=h
 have e:skipLoop ((g.1++p).length+1) (g.1++p) l []= .ok () p (l+g.2) []:=by
  have e1:(g.1++p).length+1=(g.1.length - k+p.length+1)+k:=by rw[cV7];lia
  rw[e1,h2 p _ l hp.a,aG1 hp]
 unfold f6
 rw[e];rfl
noncomputable def bK1(l:Int)(x:Bs×Bs):Prop:=∃w n,f6 ([32]++x.1) l= .err l w n/\w++(bs " near '"++n++[39])=x.2
theorem bl0(l:Int)(i:Nat)(h:i < 14):bK1 l (badT.getD i ([],[])):=aV4 (P:=bK1 l) badT ⟨⟨bs "unfinished string",[34,97,98],by with_unfolding_all rfl,by with_unfolding_all rfl⟩,
 ⟨bs "unfinished string",[60,101,111,102,62],by with_unfolding_all rfl,by with_unfolding_all rfl⟩,
 ⟨bs "malformed number",[49,50,120],by with_unfolding_all rfl,by with_unfolding_all rfl⟩,
 ⟨bs "malformed number",[49,46,46,50],by with_unfolding_all rfl,by with_unfolding_all rfl⟩,
 ⟨bs "escape sequence too large",[39],by with_unfolding_all rfl,by with_unfolding_all rfl⟩,
 ⟨bs "invalid long string delimiter",[91,61],by with_unfolding_all rfl,by with_unfolding_all rfl⟩,
 ⟨bs "nesting of [[...]] is deprecated",[91],by with_unfolding_all rfl,by with_unfolding_all rfl⟩,
 ⟨bs "unfinished long string",[60,101,111,102,62],by with_unfolding_all rfl,by with_unfolding_all rfl⟩,
 ⟨bs "unfinished long comment",[60,101,111,102,62],by with_unfolding_all rfl,by with_unfolding_all rfl⟩,
 ⟨bs "malformed number",[46,53],by with_unfolding_all rfl,by with_unfolding_all rfl⟩,
 ⟨bs "unfinished string",[60,101,111,102,62],by with_unfolding_all rfl,by with_unfolding_all rfl⟩,
 ⟨bs "malformed number",[48,120],by with_unfolding_all rfl,by with_unfolding_all rfl⟩,
 ⟨bs "malformed number",[49,101,43,53],by with_unfolding_all rfl,by with_unfolding_all rfl⟩,
 ⟨bs "malformed number",[55,69,45,120],by with_unfolding_all rfl,by with_unfolding_all rfl⟩,
 trivial⟩ i h _
noncomputable def Bl(r:Bs):Prop:=r=[]∨∃c t,r=c::t/\c∈ ([32,10,13,9,11]:Bs)
theorem L7{r:Bs}(h:Bl r)(q:Int->Bool)(hq:q (-1)=false/\q 32=false/\q 10=false/\q 13=false/\q 9=false/\q 11=false):q (b9 r)=false:=by
 rcases h with rfl|⟨c,t,rfl,hc⟩
 ·exact hq.1
 ·have:∀d∈ ([32,10,13,9,11]:Bs),q (d.toNat:Int)=false:=by
   simp only[cY1,dc9,or_false,forall_eq_or_imp,forall_eq]
   exact⟨hq.2.1,hq.2.2.1,hq.2.2.2.1,hq.2.2.2.2.1,hq.2.2.2.2.2⟩
  exact this c hc
theorem az7{q:Int->Bool}{r:Bs}(h:q (b9 r)=false):dw q r=r/\tw q r=[]:=by
 cases r with
 |nil=>exact⟨rfl,rfl⟩
 |cons c t=>exact⟨if_neg (nb h),if_neg (nb h)⟩
noncomputable def I8(p:Bs×Int):Prop:=∀r l,Bl r->ai7 (p.1++r)/\∃b,H9 (p.1++r) l= .ok (p.2, .none) r l b
theorem all_cons{α:Type}{P:α->Prop}{a:α}{l:List α}(h:P a)(t:∀x∈l,P x):∀x∈a::l,P x:=λx hx=>(cY1.mp hx).elim (λe=>e▸h) (t x)
theorem k9{α:Type}{P:α->Prop}:∀x∈ ([]:List α),P x:=λH h=>nomatch h
noncomputable abbrev ck8(c:UInt8):Prop:=(∀r l,H9 ([c]++r) l= .ok ((c.toNat:Int), .none) r l [])/\(∀r,ai7 ([c]++r))
theorem N1{c:UInt8}(h:ck8 c):I8 ([c],(c.toNat:Int)):=λr l H=>⟨h.2 r,[],h.1 r l⟩
theorem cm1:I8 ([45],45):=λr l h=>⟨⟨rfl,rfl,L7 h (λs=>s==45) ⟨rfl,rfl,rfl,rfl,rfl,rfl⟩⟩,[],by with_unfolding_all rfl⟩
theorem aD4(c:UInt8)(hh:∀r,ai7 ([c]++r))(h:∀r l,H9 ([c]++r) l=if(b9 r != 61)=true then .ok ((c.toNat:Int), .none) r l []else .ok (if(c.toNat:Int) ==61 then 280 else if(c.toNat:Int) ==60 then 282 else if(c.toNat:Int) ==62 then 281 else 283, .none) r.tail l []):I8 ([c],(c.toNat:Int)):=λr l hb=>⟨hh r,[],by
 rw[h,if_pos]
 show(!(b9 r==61))=true
 rw[L7 hb (λs=>s==61) ⟨rfl,rfl,rfl,rfl,rfl,rfl⟩];rfl⟩
theorem cS7:I8 ([91],91):=λr l hb=>⟨⟨rfl,rfl,rfl⟩,_,by
 have h61:=az7 (L7 hb v8 ⟨rfl,rfl,rfl,rfl,rfl,rfl⟩)
 have h91:=L7 hb (λs=>s==91) ⟨rfl,rfl,rfl,rfl,rfl,rfl⟩
 have e1:f7 ([91]++r)= -1:=by
  unfold f7
  show(if(b9 (dw v8 r) ==91)=true then((tw v8 r).length:Int)else -((tw v8 r).length:Int) - 1)= -1
  rw[h61.1,h61.2,h91];rfl
 have e2:c9 ([91]++r)=r:=h61.1
 show j6 ([91]++r) l []=_
 unfold j6
 rw[e1,e2]
 rfl⟩
theorem cx2:I8 ([46],46):=λr l hb=>⟨⟨rfl,rfl,rfl⟩,_,by
 have h46:=L7 hb (λs=>s==46) ⟨rfl,rfl,rfl,rfl,rfl,rfl⟩
 have hd:=L7 hb d8 ⟨rfl,rfl,rfl,rfl,rfl,rfl⟩
 show o4 ([46]++r) l []=_
 unfold o4
 show(if(b9 r==46)=true then _ else if d8 (b9 r)=true then _ else _)=_
 rw[h46,hd];rfl⟩
theorem cM2:I8 ([46,46],278):=λr l hb=>⟨⟨rfl,rfl,rfl⟩,_,by
 have h46:=L7 hb (λs=>s==46) ⟨rfl,rfl,rfl,rfl,rfl,rfl⟩
 show(if(b9 r==46)=true then _ else _)=_
 rw[h46];rfl⟩
theorem bq5:∀p∈signT,I8 p:=(all_cons cM2 (all_cons (λr l H=>⟨⟨rfl,rfl,rfl⟩,_,by with_unfolding_all rfl⟩) (all_cons (λr l H=>⟨⟨rfl,rfl,rfl⟩,_,by with_unfolding_all rfl⟩) (all_cons (λr l H=>⟨⟨rfl,rfl,rfl⟩,_,by with_unfolding_all rfl⟩) (all_cons (λr l H=>⟨⟨rfl,rfl,rfl⟩,_,by with_unfolding_all rfl⟩) (all_cons (λr l H=>⟨⟨rfl,rfl,rfl⟩,_,by with_unfolding_all rfl⟩) (all_cons (N1 (c:=43) ⟨λH H=>by with_unfolding_all rfl,λH=>⟨rfl,rfl,rfl⟩⟩) (all_cons cm1 (all_cons (N1 (c:=42) ⟨λH H=>by with_unfolding_all rfl,λH=>⟨rfl,rfl,rfl⟩⟩) (all_cons (N1 (c:=47) ⟨λH H=>by with_unfolding_all rfl,λH=>⟨rfl,rfl,rfl⟩⟩) (all_cons (N1 (c:=37) ⟨λH H=>by with_unfolding_all rfl,λH=>⟨rfl,rfl,rfl⟩⟩) (all_cons (N1 (c:=94) ⟨λH H=>by with_unfolding_all rfl,λH=>⟨rfl,rfl,rfl⟩⟩) (all_cons (N1 (c:=35) ⟨λH H=>by with_unfolding_all rfl,λH=>⟨rfl,rfl,rfl⟩⟩) (all_cons (aD4 60 (λH=>⟨rfl,rfl,rfl⟩) (λH H=>by with_unfolding_all rfl)) (all_cons (aD4 62 (λH=>⟨rfl,rfl,rfl⟩) (λH H=>by with_unfolding_all rfl)) (all_cons (aD4 61 (λH=>⟨rfl,rfl,rfl⟩) (λH H=>by with_unfolding_all rfl)) (all_cons (N1 (c:=40) ⟨λH H=>by with_unfolding_all rfl,λH=>⟨rfl,rfl,rfl⟩⟩) (all_cons (N1 (c:=41) ⟨λH H=>by with_unfolding_all rfl,λH=>⟨rfl,rfl,rfl⟩⟩) (all_cons (N1 (c:=123) ⟨λH H=>by with_unfolding_all rfl,λH=>⟨rfl,rfl,rfl⟩⟩) (all_cons (N1 (c:=125) ⟨λH H=>by with_unfolding_all rfl,λH=>⟨rfl,rfl,rfl⟩⟩) (all_cons cS7 (all_cons (N1 (c:=93) ⟨λH H=>by with_unfolding_all rfl,λH=>⟨rfl,rfl,rfl⟩⟩) (all_cons (N1 (c:=59) ⟨λH H=>by with_unfolding_all rfl,λH=>⟨rfl,rfl,rfl⟩⟩) (all_cons (N1 (c:=58) ⟨λH H=>by with_unfolding_all rfl,λH=>⟨rfl,rfl,rfl⟩⟩) (all_cons (N1 (c:=44) ⟨λH H=>by with_unfolding_all rfl,λH=>⟨rfl,rfl,rfl⟩⟩) (all_cons cx2 (all_cons (aD4 126 (λH=>⟨rfl,rfl,rfl⟩) (λH H=>by with_unfolding_all rfl)) (all_cons (N1 (c:=64) ⟨λH H=>by with_unfolding_all rfl,λH=>⟨rfl,rfl,rfl⟩⟩) k9))))))))))))))))))))))))))))
theorem ah7{q:Int->Bool}{r:Bs}(hr:q (b9 r)=false):∀ {a:Bs},(∀c∈a,q (c.toNat:Int)=true)->tw q (a++r)=a/\dw q (a++r)=r
 | [],_=>⟨(az7 hr).2,(az7 hr).1⟩
 |c::a,h=>by
  have ih:=ah7 hr (a:=a) λd hd=>h d (cZ2 _ hd)
  have hc:=h c (cX5 ..)
  exact⟨(if_pos hc).trans (congrArg (c:: ·) ih.1),(if_pos hc).trans ih.2⟩
noncomputable def B2(p:Bs)(k:Int)(v:V)(e:Int):Prop:=∀r l,Bl r->ai7 (p++r)/\∃b,H9 (p++r) l= .ok (k,v) r (l+e) b
theorem av7{p:Bs×Int}(h:I8 p):B2 p.1 p.2 .none 0:=λr l hb=>by
 rw[db6];exact h r l hb
noncomputable abbrev TkA(s:Int):Prop:=(s== -1)=false/\B1 s=false/\(s==91)=false/\(s==46)=false/\b8 s=false/\u6 s=false/\(s==45)=false
theorem aH5{p:Bs}(h:t6 (b9 p)=true):d8 (b9 p)=false/\TkA (b9 p):=by
 cases p with
 |nil=>exact cV2 h
 |cons c t=>exact of_decide_eq_true (bg3 (P:=λc=>decide (t6 c.toNat=true->d8 c.toNat=false/\TkA c.toNat)) (by decide+kernel) c) h
theorem aI3{p:Bs}(h:d8 (b9 p)=true):TkA (b9 p):=by
 cases p with
 |nil=>exact cV2 h
 |cons c t=>exact of_decide_eq_true (bg3 (P:=λc=>decide (d8 c.toNat=true->TkA c.toNat)) (by decide+kernel) c) h
theorem aN3{p:Bs}(l:Int)(h:t6 (b9 p)=true):H9 p l=s9 p l []/\ai7 p:=by
 obtain⟨h5,h1,h2,h3,h4,h6,h7,h8⟩:=aH5 h
 refine⟨?_,h6,h7,by rw[h8];rfl⟩
 unfold H9
 rw[h1,h2,h3,h4,h5,h];rfl
theorem bl4{p:Bs}(l:Int)(h:d8 (b9 p)=true):H9 p l=l9 p l []/\ai7 p:=by
 obtain⟨h1,h2,h3,h4,h6,h7,h8⟩:=aI3 h
 refine⟨?_,h6,h7,by rw[h8];rfl⟩
 unfold H9
 rw[h1,h2,h3,h4,h];rfl
theorem bC1{r:Bs}(h:Bl r):c8 (b9 r)=false:=L7 h c8 ⟨rfl,rfl,rfl,rfl,rfl,rfl⟩
theorem X2{w:Bs}{k:Int}{v:V}(h1:t6 (b9 w)=true)(h2:∀c∈w,c8 (c.toNat:Int)=true)(h3:(match kindTab.lookup w with|none=>((285:Int),V.bytes w)|some k=>(k, .none))=(k,v)):B2 w k v 0:=λr l hb=>by
 have hs:b9 (w++r)=b9 w:=by
  cases w with
  |nil=>cases h1
  |cons c t=>rfl
 obtain⟨e1,e2⟩:=aN3 (p:=w++r) l (hs▸h1)
 obtain⟨e3,e4⟩:=ah7 (bC1 hb) h2
 refine⟨e2,w, ?_⟩
 rw[e1,db6]
 unfold s9
 rw[List.nil_append,e3,e4]
 cases e:kindTab.lookup w with
 |none=>rw[e]at h3;cases h3;rfl
 |some x=>rw[e]at h3;cases h3;rfl
theorem aL1:∀i,i < 21->t6 (b9 (words.getD i []))=true/\(∀c∈words.getD i [],c8 (c.toNat:Int)=true)/\kindTab.lookup (words.getD i [])=some (257+ (i:Int)):=by decide+kernel
theorem bp9{x:Bs}(h:∀p∈kindTab,hd p.1≠hd x):kindTab.lookup x=none:=by
 have:∀l:List (Bs×Int),(∀p∈l,hd p.1≠hd x)->l.lookup x=none:=λl=>by
  induction l with
  |nil=>exact λH=>rfl
  |cons p l ih=>
   intro h
   have h1:=h p (cX5 ..)
   rw[dc3,beq_eq_false_iff_ne.mpr (λe=>h1 (by rw[e]))]
   exact ih λq hq=>h q (cZ2 _ hq)
 exact this _ h
theorem aV8:∀n∈nmT,n≠[]/\t6 (b9 n)=true/\(∀c∈n,c8 (c.toNat:Int)=true)/\∀p∈kindTab,hd p.1≠hd n:=by decide+kernel
theorem ao7{q:UInt8->Prop}{b:Nat}(h:∀k,k < b->q (digC.getD k 0))(hb:0 < b):∀(f n:Nat) (acc:Bs),(∀c∈acc,q c)->∀c∈M9 f b n acc,q c
 |0,_,_,ha=>ha
 |f+1,n,acc,ha=>by
  unfold M9
  split
  ·exact ha
  ·exact ao7 h hb f _ _ λc hc=>(cY1.mp hc).elim (λe=>e▸h _ (Nat.mod_lt _ hb)) (ha c)
theorem N0{q:UInt8->Prop}{b n:Nat}(h:∀k,k < b->q (digC.getD k 0))(hb:0 < b):∀c∈l5 b n,q c:=ao7 h hb _ _ _ λH h=>nomatch h
theorem cv1:∀k,k < 16->c8 ((digC.getD k 0).toNat:Int)=true:=by decide+kernel
theorem at2{n:Bs}(h:n∈nmT)(m:Nat):B2 (n++l5 16 m) 285 (.bytes (n++l5 16 m)) 0:=by
 obtain⟨h0,h1,h2,h3⟩:=aV8 n h
 have hs:b9 (n++l5 16 m)=b9 n/\hd (n++l5 16 m)=hd n:=by
  cases n with
  |nil=>exact absurd rfl h0
  |cons c t=>exact⟨rfl,rfl⟩
 refine X2 (hs.1▸h1) (λc hc=>(dd8.mp hc).elim (h2 c) (N0 (q:=λc=>c8 (c.toNat:Int)=true) (b:=16) cv1 (by decide) c)) ?_
 rw[bp9 λp hp=>hs.2▸h3 p hp]
noncomputable def V5(b:Int)(a:Bs)(v:Int):Int:=a.foldl (λv c=>v * b+g0 c.toNat) v
theorem ax8{b:Int}:∀(a:Bs) (v:Int) (k:Nat),(∀c∈a,0<=g0 c.toNat/\g0 c.toNat < b)->j5 b a v k=(V5 b a v,k+a.length)
 | [],v,k,_=>rfl
 |c::a,v,k,h=>by
  have hc:=h c (cX5 ..)
  have ih:=ax8 a (v * b+g0 c.toNat) (k+1) λd hd=>h d (cZ2 _ hd)
  refine(if_neg ?_).trans (ih.trans ?_)
  ·rw[Bool.or_eq_true,decide_eq_true_eq,decide_eq_true_eq];lia
  ·rw[da0,Nat.add_assoc,Nat.add_comm 1];rfl
theorem dC:∀k,k < 16->g0 ((digC.getD k 0).toNat:Int)=(k:Int):=by decide+kernel
set_option tactic.hygienic true in
theorem ae2{b:Nat}(hb:2<=b)(hb2:b<=16):∀(f n:Nat) (acc:Bs),ldM (n,acc)< f->V5 b (M9 f b n acc) 0=V5 b acc (n:Int)
 |0,_,_,h=>absurd h (Nat.not_lt_zero _)
 |f+1,n,acc,h=>by
  unfold M9
  split
  ·rename_i e;rw[e.1];rfl
  ·rename_i e
   rw[ae2 hb hb2 f _ _ (da7 (ao2 (i:=(n,acc)) hb e) (Nat.le_of_lt_succ h))]
   show V5 b acc (((n / b:Nat):Int) * b+g0 ((digC.getD (n % b) 0).toNat:Int))=_
   rw[dC _ (da7 (Nat.mod_lt _ (da7 (by decide) hb)) hb2)]
   congr 1
   have:=Nat.div_add_mod n b
   rw[←Int.natCast_mul, ←Int.natCast_add,Nat.mul_comm]
   exact congrArg _ this
theorem aq1{b n:Nat}(hb:2<=b)(hb2:b<=16):V5 b (l5 b n) 0=(n:Int):=ae2 hb hb2 _ _ _ (cZ9 _)
theorem al8(b:Int)(a c:Bs)(v:Int):V5 b (a++c) v=V5 b c (V5 b a v):=List.foldl_append ..
set_option tactic.hygienic true in
theorem aE2:∀(f b n:Nat) (acc:Bs),(acc≠[]∨0 < f)->M9 f b n acc≠[]
 |0,_,_,_,h=>h.elim id λh=>absurd h (di0 _)
 |f+1,b,n,acc,_=>by
  unfold M9
  split
  ·rename_i e;exact e.2
  ·exact aE2 f b _ _ (.inl (by simp))
theorem aP1(b n:Nat):l5 b n≠[]:=aE2 _ _ _ _ (.inr (dg3 _))
theorem Z4{m:Nat}(h:m < 2 ^ 30):U1 (m:Int)=m:=by
 have e:dg8 (m:Int) (1 * 2 ^ (64:Int).toNat - 1)=(m:Int):=by
  unfold dg8
  rw[decide_eq_true (da1 m),decide_eq_true (by decide:(0:Int)<=1 * 2 ^ (64:Int).toNat - 1)]
  show(((m:Int).toNat&&& ((1:Int) * 2 ^ (64:Int).toNat - 1).toNat:Nat):Int)=m
  rw[Int.toNat_natCast,show((1:Int) * 2 ^ (64:Int).toNat - 1).toNat=2 ^ 64 - 1 by decide,Nat.and_two_pow_sub_one_eq_mod,Nat.mod_eq_of_lt (dh6 h (by decide))]
 unfold U1
 rw[e,if_neg]
 have:(1:Int) * 2 ^ ((64:Int) - 1).toNat=9223372036854775808:=by decide
 rw[this]
 lia
theorem bT5{r b:Bs}(h:isE (b9 r)=false):m9 r b=(r,b):=if_neg (nb h)
theorem ae5{a e:Bs}{m:Int}(ha:∀c∈a,g9 (c.toNat:Int)=true)(h3:d8 (b9 a)=true)(h1:∀r,Bl r->g9 (b9 (e++r))=false/\isE (b9 (e++r))=false)(h2:∀c∈e,c8 (c.toNat:Int)=true)(h4:m5 (a++e)=some m):B2 (a++e) 284 (.int m) 0:=λr l hb=>by
 obtain⟨g1,g2⟩:=h1 r hb
 have hs:b9 (a++(e++r))=b9 a:=by
  cases a with
  |nil=>exact cV2 h3
  |cons c t=>rfl
 obtain⟨e1,e2⟩:=bl4 (p:=a++(e++r)) l (hs▸h3)
 obtain⟨e3,e4⟩:=ah7 g1 ha
 obtain⟨e5,e6⟩:=ah7 (bC1 hb) h2
 rw[cW6]
 refine⟨e2,a++e, ?_⟩
 rw[e1,db6]
 unfold l9
 rw[e3,e4,List.nil_append,bT5 g2]
 dsimp only
 rw[e5,h4,e6]
theorem cw4{d:Bs}{m:Nat}(hm:m < 2 ^ 30)(hd0:d≠[])(hd:∀c∈d,d8 (c.toNat:Int)=true)(hv:V5 10 d 0=(m:Int)):m5 d=some (m:Int):=by
 have hx:∀c∈d,0<=g0 (c.toNat:Int)/\g0 (c.toNat:Int)< 10:=λc hc=>by
  have h:=hd c hc
  unfold d8 at h
  rw[cX7,decide_eq_true_eq,decide_eq_true_eq]at h
  unfold g0
  rw[if_pos h];lia
 have hmk:q0 d=false:=by
  have h2:(Mine.hd d.tail==120||Mine.hd d.tail==88)=false:=by
   match d,hd with
   | [],_=>rfl
   | [c],_=>rfl
   |c::c'::t,hd=>
    have h:=hd c' (by simp)
    show(c'==120||c'==88)=false
    rw[dc0,beq_eq_false_iff_ne,beq_eq_false_iff_ne]
    exact⟨λe=>(by rw[e]at h;exact cV2 h),λe=>(by rw[e]at h;exact cV2 h)⟩
  unfold q0 v9
  rw[h2,dd6,dd6,Bool.false_and]
 unfold m5
 rw[hmk,ax8 d 0 0 hx,Nat.zero_add,hv,if_neg (by decide),if_neg,Z4 hm]
 rintro (h|h)
 ·exact hd0 (List.length_eq_zero_iff.mp h)
 ·exact h rfl
theorem cM5:∀k,k < 10->d8 ((digC.getD k 0).toNat:Int)=true:=by decide+kernel
theorem cq0:∀z∈zT,(∀c∈z,d8 (c.toNat:Int)=true)/\V5 10 z 0=0:=by decide+kernel
theorem aF3{z:Bs}(h:z∈zT){m:Nat}(hm:m < 2 ^ 30):B2 (z++l5 10 m) 284 (.int m) 0:=by
 obtain⟨h1,h2⟩:=cq0 z h
 have hd:∀c∈z++l5 10 m,d8 (c.toNat:Int)=true:=λc hc=>(dd8.mp hc).elim (h1 c) (N0 (q:=λc=>d8 (c.toNat:Int)=true) (b:=10) cM5 (by decide) c)
 have h0:z++l5 10 m≠[]:=λe=>aP1 10 m (List.append_eq_nil_iff.mp e).2
 have hs:d8 (b9 (z++l5 10 m))=true:=by
  generalize z++l5 10 m=d at hd h0
  cases d with
  |nil=>exact absurd rfl h0
  |cons c t=>exact hd c (cX5 ..)
 have:=ae5 (a:=z++l5 10 m) (e:=[]) (m:=(m:Int)) (λc hc=>by unfold g9;rw[hd c hc];rfl) hs (λr hb=>⟨L7 hb g9 ⟨rfl,rfl,rfl,rfl,rfl,rfl⟩,L7 hb isE ⟨rfl,rfl,rfl,rfl,rfl,rfl⟩⟩) (λH h=>nomatch h) (by
  rw[cZ4]
  exact cw4 hm h0 hd (by rw[al8,h2];exact aq1 (by decide) (by decide)))
 rwa[cZ4]at this
noncomputable abbrev Hx(c:UInt8):Prop:=(0<=g0 (c.toNat:Int)/\g0 (c.toNat:Int)< 16)/\c8 (c.toNat:Int)=true
theorem cK7:∀k,k < 16->Hx (digC.getD k 0):=by decide+kernel
theorem cv4{x:UInt8}{d:Bs}{m:Nat}(hx:(x==120||x==88)=true)(hm:m < 2 ^ 30)(hd0:d≠[])(hd:∀c∈d,Hx c)(hv:V5 16 d 0=(m:Int)):m5 (48::x::d)=some (m:Int):=by
 have hmk:q0 (48::x::d)=true:=by
  unfold q0 v9
  have h1:b9 d=((Mine.hd d).toNat:Int)/\Hx (Mine.hd d)/\0 < d.length:=by
   cases d with
   |nil=>exact absurd rfl hd0
   |cons c t=>exact⟨rfl,hd c (cX5 ..),dg3 _⟩
  show(decide (2 < d.length+1+1) && (true&& (x==120||x==88)) && (decide (0<=g0 (b9 d)) &&decide (g0 (b9 d)< 16)))=true
  rw[hx,h1.1,decide_eq_true h1.2.1.1.1,decide_eq_true h1.2.1.1.2,decide_eq_true (Nat.succ_lt_succ (Nat.succ_lt_succ h1.2.2))];rfl
 unfold m5
 rw[if_pos hmk]
 show(if(j5 16 d 0 0).2=0∨(j5 16 d 0 0).2+2≠d.length+1+1 then none else some (U1 (j5 16 d 0 0).1))=_
 rw[ax8 d 0 0 (λc hc=>(hd c hc).1),Nat.zero_add,hv,if_neg,Z4 hm]
 rintro (h|h)
 ·exact hd0 (List.length_eq_zero_iff.mp h)
 ·exact h rfl
noncomputable def XOk(x:Bs):Prop:=∃c z,x=48::c::z/\(c==120||c==88)=true/\(∀d∈z,Hx d)/\V5 16 z 0=0/\g9 (c.toNat:Int)=false/\isE (c.toNat:Int)=false/\c8 (c.toNat:Int)=true
theorem cj5:∀x∈xT,XOk x:=all_cons ⟨120,[],rfl,rfl,(λH h=>nomatch h),rfl,rfl,rfl,rfl⟩ (all_cons ⟨88,[],rfl,rfl,(λH h=>nomatch h),rfl,rfl,rfl,rfl⟩ (all_cons ⟨120,[48],rfl,rfl,all_cons ⟨⟨by decide,by decide⟩,by decide⟩ k9,rfl,rfl,rfl,rfl⟩ k9))
theorem aF4{x:Bs}(h:x∈xT){m:Nat}(hm:m < 2 ^ 30):B2 (x++l5 16 m) 284 (.int m) 0:=by
 obtain⟨c,z,rfl,h1,h2,h3,h4,h5,h6⟩:=cj5 x h
 have hd:∀d∈z++l5 16 m,Hx d:=λd hd=>(dd8.mp hd).elim (h2 d) (N0 (q:=Hx) cK7 (by decide) d)
 have:=ae5 (a:=[48]) (e:=c::(z++l5 16 m)) (m:=(m:Int)) (all_cons rfl k9) rfl (λr H=>⟨h4,h5⟩) (all_cons h6 λd h=>(hd d h).2)
  (cv4 h1 hm (λe=>aP1 16 m (List.append_eq_nil_iff.mp e).2) hd (by rw[al8,h3];exact aq1 (by decide) (by decide)))
 exact this
noncomputable def D5(mark:Bs)(j c:Int):Bs×Int:=
 if aw3 mark c=true/\(j==0)=true then(byt [c],0)
 else if(c==10)=true/\(j==1)=true then([92,10],1)
 else(match H5 c with|some l=>if j < 2 then [92]++l else [92]++aJ1 c|none=>[92]++aJ1 c,0)
noncomputable def cF8(l e:Int):Int:=if(e==0)=true then l else l+1
noncomputable def bY2(mark:Bs)(j c:Int):Prop:=∀(f:Nat) (r:Bs) (l:Int) (b:Bs),b8 (b9 r)=false->j9 (b9 mark) (f+1) ((D5 mark j c).1++r) l b=j9 (b9 mark) f r (cF8 l (D5 mark j c).2) (b++byt [c])/\b8 (b9 ((D5 mark j c).1++r))=false
theorem cC0{f:Nat}{r:Bs}{l:Int}{b:Bs}{q:Int}(h:b8 (b9 r)=false)(h1:((92:Int) ==q)=false)(h2:q≠ -1):j9 q (f+1) ([92,10]++r) l b=j9 q f r (l+1) (b++[10]):=by
 have e:j9 q (f+1) ([92,10]++r) l b=if((92:Int) ==q)=true then .ok () (10::r) l (b++[92])else j9 q f (endLine (10::r)) (l+1) (b++[10]):=by with_unfolding_all rfl
 rw[e,h1,aM2 h];rfl
theorem aU8:∀mark∈ ([[39],[34]]:List Bs),∀j∈ ([0,1,2]:List Int),∀c∈octT,bY2 mark j c:=(all_cons (all_cons (all_cons (λH H H H H=>⟨by with_unfolding_all rfl,by with_unfolding_all rfl⟩) (all_cons (λH H H H H=>⟨by with_unfolding_all rfl,by with_unfolding_all rfl⟩) (all_cons (λH H H H H=>⟨by with_unfolding_all rfl,by with_unfolding_all rfl⟩) (all_cons (λH H H H H=>⟨by with_unfolding_all rfl,by with_unfolding_all rfl⟩) (all_cons (λH H H H H=>⟨by with_unfolding_all rfl,by with_unfolding_all rfl⟩) (all_cons (λH H H H H=>⟨by with_unfolding_all rfl,by with_unfolding_all rfl⟩) (all_cons (λH H H H H=>⟨by with_unfolding_all rfl,by with_unfolding_all rfl⟩) (all_cons (λH H H H H=>⟨by with_unfolding_all rfl,by with_unfolding_all rfl⟩) (all_cons (λH H H H H=>⟨by with_unfolding_all rfl,by with_unfolding_all rfl⟩) (all_cons (λH H H H H=>⟨by with_unfolding_all rfl,by with_unfolding_all rfl⟩) (all_cons (λH H H H H=>⟨by with_unfolding_all rfl,by with_unfolding_all rfl⟩) (all_cons (λH H H H H=>⟨by with_unfolding_all rfl,by with_unfolding_all rfl⟩) k9)))))))))))) (all_cons (all_cons (λH H H H H=>⟨by with_unfolding_all rfl,by with_unfolding_all rfl⟩) (all_cons (λH H H H h=>⟨cC0 h (by decide) (by decide),by with_unfolding_all rfl⟩) (all_cons (λH H H H H=>⟨by with_unfolding_all rfl,by with_unfolding_all rfl⟩) (all_cons (λH H H H H=>⟨by with_unfolding_all rfl,by with_unfolding_all rfl⟩) (all_cons (λH H H H H=>⟨by with_unfolding_all rfl,by with_unfolding_all rfl⟩) (all_cons (λH H H H H=>⟨by with_unfolding_all rfl,by with_unfolding_all rfl⟩) (all_cons (λH H H H H=>⟨by with_unfolding_all rfl,by with_unfolding_all rfl⟩) (all_cons (λH H H H H=>⟨by with_unfolding_all rfl,by with_unfolding_all rfl⟩) (all_cons (λH H H H H=>⟨by with_unfolding_all rfl,by with_unfolding_all rfl⟩) (all_cons (λH H H H H=>⟨by with_unfolding_all rfl,by with_unfolding_all rfl⟩) (all_cons (λH H H H H=>⟨by with_unfolding_all rfl,by with_unfolding_all rfl⟩) (all_cons (λH H H H H=>⟨by with_unfolding_all rfl,by with_unfolding_all rfl⟩) k9)))))))))))) (all_cons (all_cons (λH H H H H=>⟨by with_unfolding_all rfl,by with_unfolding_all rfl⟩) (all_cons (λH H H H H=>⟨by with_unfolding_all rfl,by with_unfolding_all rfl⟩) (all_cons (λH H H H H=>⟨by with_unfolding_all rfl,by with_unfolding_all rfl⟩) (all_cons (λH H H H H=>⟨by with_unfolding_all rfl,by with_unfolding_all rfl⟩) (all_cons (λH H H H H=>⟨by with_unfolding_all rfl,by with_unfolding_all rfl⟩) (all_cons (λH H H H H=>⟨by with_unfolding_all rfl,by with_unfolding_all rfl⟩) (all_cons (λH H H H H=>⟨by with_unfolding_all rfl,by with_unfolding_all rfl⟩) (all_cons (λH H H H H=>⟨by with_unfolding_all rfl,by with_unfolding_all rfl⟩) (all_cons (λH H H H H=>⟨by with_unfolding_all rfl,by with_unfolding_all rfl⟩) (all_cons (λH H H H H=>⟨by with_unfolding_all rfl,by with_unfolding_all rfl⟩) (all_cons (λH H H H H=>⟨by with_unfolding_all rfl,by with_unfolding_all rfl⟩) (all_cons (λH H H H H=>⟨by with_unfolding_all rfl,by with_unfolding_all rfl⟩) k9)))))))))))) k9))) (all_cons (all_cons (all_cons (λH H H H H=>⟨by with_unfolding_all rfl,by with_unfolding_all rfl⟩) (all_cons (λH H H H H=>⟨by with_unfolding_all rfl,by with_unfolding_all rfl⟩) (all_cons (λH H H H H=>⟨by with_unfolding_all rfl,by with_unfolding_all rfl⟩) (all_cons (λH H H H H=>⟨by with_unfolding_all rfl,by with_unfolding_all rfl⟩) (all_cons (λH H H H H=>⟨by with_unfolding_all rfl,by with_unfolding_all rfl⟩) (all_cons (λH H H H H=>⟨by with_unfolding_all rfl,by with_unfolding_all rfl⟩) (all_cons (λH H H H H=>⟨by with_unfolding_all rfl,by with_unfolding_all rfl⟩) (all_cons (λH H H H H=>⟨by with_unfolding_all rfl,by with_unfolding_all rfl⟩) (all_cons (λH H H H H=>⟨by with_unfolding_all rfl,by with_unfolding_all rfl⟩) (all_cons (λH H H H H=>⟨by with_unfolding_all rfl,by with_unfolding_all rfl⟩) (all_cons (λH H H H H=>⟨by with_unfolding_all rfl,by with_unfolding_all rfl⟩) (all_cons (λH H H H H=>⟨by with_unfolding_all rfl,by with_unfolding_all rfl⟩) k9)))))))))))) (all_cons (all_cons (λH H H H H=>⟨by with_unfolding_all rfl,by with_unfolding_all rfl⟩) (all_cons (λH H H H h=>⟨cC0 h (by decide) (by decide),by with_unfolding_all rfl⟩) (all_cons (λH H H H H=>⟨by with_unfolding_all rfl,by with_unfolding_all rfl⟩) (all_cons (λH H H H H=>⟨by with_unfolding_all rfl,by with_unfolding_all rfl⟩) (all_cons (λH H H H H=>⟨by with_unfolding_all rfl,by with_unfolding_all rfl⟩) (all_cons (λH H H H H=>⟨by with_unfolding_all rfl,by with_unfolding_all rfl⟩) (all_cons (λH H H H H=>⟨by with_unfolding_all rfl,by with_unfolding_all rfl⟩) (all_cons (λH H H H H=>⟨by with_unfolding_all rfl,by with_unfolding_all rfl⟩) (all_cons (λH H H H H=>⟨by with_unfolding_all rfl,by with_unfolding_all rfl⟩) (all_cons (λH H H H H=>⟨by with_unfolding_all rfl,by with_unfolding_all rfl⟩) (all_cons (λH H H H H=>⟨by with_unfolding_all rfl,by with_unfolding_all rfl⟩) (all_cons (λH H H H H=>⟨by with_unfolding_all rfl,by with_unfolding_all rfl⟩) k9)))))))))))) (all_cons (all_cons (λH H H H H=>⟨by with_unfolding_all rfl,by with_unfolding_all rfl⟩) (all_cons (λH H H H H=>⟨by with_unfolding_all rfl,by with_unfolding_all rfl⟩) (all_cons (λH H H H H=>⟨by with_unfolding_all rfl,by with_unfolding_all rfl⟩) (all_cons (λH H H H H=>⟨by with_unfolding_all rfl,by with_unfolding_all rfl⟩) (all_cons (λH H H H H=>⟨by with_unfolding_all rfl,by with_unfolding_all rfl⟩) (all_cons (λH H H H H=>⟨by with_unfolding_all rfl,by with_unfolding_all rfl⟩) (all_cons (λH H H H H=>⟨by with_unfolding_all rfl,by with_unfolding_all rfl⟩) (all_cons (λH H H H H=>⟨by with_unfolding_all rfl,by with_unfolding_all rfl⟩) (all_cons (λH H H H H=>⟨by with_unfolding_all rfl,by with_unfolding_all rfl⟩) (all_cons (λH H H H H=>⟨by with_unfolding_all rfl,by with_unfolding_all rfl⟩) (all_cons (λH H H H H=>⟨by with_unfolding_all rfl,by with_unfolding_all rfl⟩) (all_cons (λH H H H H=>⟨by with_unfolding_all rfl,by with_unfolding_all rfl⟩) k9)))))))))))) k9))) k9))
theorem cc8(mark:Bs)(j c l:Int):cF8 l (D5 mark j c).2=l+ (D5 mark j c).2/\0 < (D5 mark j c).1.length:=by
 unfold D5
 split
 ·exact⟨(db6 l).symm,dg3 _⟩
 ·split
  ·exact⟨rfl,dg3 _⟩
  ·refine⟨(db6 l).symm, ?_⟩
   dsimp only
   split
   ·split<;>exact dg3 _
   ·exact dg3 _
theorem j3(m:Int):m.fmod 3∈ ([0,1,2]:List Int):=by
 have h1:=cZ6 m (b:=3) (by decide)
 have h2:=da2 m (b:=3) (by decide)
 simp only[cY1,dc9,or_false]
 lia
theorem bL4{mark:Bs}(hm:mark∈ ([[39],[34]]:List Bs)):∀(l:List Int) (m:Int) (f:Nat) (r:Bs) (ln:Int) (b:Bs),(∀c∈l,c∈octT)->b8 (b9 r)=false->j9 (b9 mark) (f+l.length) ((n0 mark m l).1++r) ln b=j9 (b9 mark) f r (ln+ (n0 mark m l).2) (b++byt l)/\b8 (b9 ((n0 mark m l).1++r))=false/\l.length<=(n0 mark m l).1.length
 | [],m,f,r,ln,b,_,hr=>⟨by rw[show(n0 mark m []).2=0 from rfl,db6,show byt []=[]from rfl,cZ4];rfl,hr,cY8 _⟩
 |c::l,m,f,r,ln,b,hc,hr=>by
  have S:=λl'=>cc8 mark ((m.fdiv 3).fmod 3) c l'
  obtain⟨i1,i2,i3⟩:=bL4 hm l (m.fdiv 3) f r (ln+ (D5 mark ((m.fdiv 3).fmod 3) c).2) (b++byt [c]) (λd hd=>hc d (cZ2 _ hd)) hr
  obtain⟨s1,s2⟩:=aU8 mark hm _ (j3 (m.fdiv 3)) c (hc c (cX5 ..)) (f+l.length) ((n0 mark (m.fdiv 3) l).1++r) ln b i2
  have e:(n0 mark m (c::l)).1++r=(D5 mark ((m.fdiv 3).fmod 3) c).1++((n0 mark (m.fdiv 3) l).1++r):=cW6 _ _ _
  have e2:(n0 mark m (c::l)).2=(D5 mark ((m.fdiv 3).fmod 3) c).2+ (n0 mark (m.fdiv 3) l).2:=rfl
  refine⟨?_,e▸s2, ?_⟩
  ·rw[e,e2, ←de9,show f+ (c::l).length=f+l.length+1 from rfl,s1,(S ln).1,i1]
   rw[cW6];rfl
  ·show l.length+1<=((D5 mark ((m.fdiv 3).fmod 3) c).1++(n0 mark (m.fdiv 3) l).1).length
   rw[cV7]
   have:=(S ln).2
   lia
theorem bX2:∀k,octT.getD k 0∈octT
 |0|1|2|3|4|5|6|7|8|9|10|11=>by decide
 |k+12=>(by decide:(0:Int)∈octT)
theorem ak6:∀(k:Nat) (n:Int),∀c∈ac7 k n,c∈octT
 |0,_=>k9
 |k+1,n=>all_cons (bX2 _) (ak6 k _)
theorem bd4(n:Int):B5 n∈ ([[39],[34]]:List Bs):=by unfold B5;split<;>decide
theorem aD6(a b z:Bs):F2 (a++b++z) (some (a.length:Int)) (some (((a++b++z).length:Int) - z.length))=b:=by
 have e:(((a++b++z).length:Int) - z.length)=((a.length+b.length:Nat):Int):=by rw[cV7,cV7,Int.natCast_add];exact Int.add_sub_cancel _ _
 have l:a.length+b.length<=(a++b++z).length:=by rw[cV7,cV7];exact de6 _ _
 rw[e]
 show List.take (clipAt _ ((a.length+b.length:Nat):Int) - clipAt _ (a.length:Int)) (List.drop (clipAt _ (a.length:Int)) _)=_
 rw[J6,J6,Nat.min_eq_left l,Nat.min_eq_left (cV5 (de6 _ _) l),Nat.add_sub_cancel_left,cW6,List.drop_left,List.take_left]
theorem bf7(a z:UInt8)(b:Bs):F2 ([a]++b++[z]) (some 1) (some ((([a]++b++[z]).length:Int) - 1))=b:=aD6 [a] b [z]
theorem O6{q:UInt8}(hq:B1 (q.toNat:Int)=true)(hm: [q]∈ ([[39],[34]]:List Bs))(l:List Int)(m:Int)(hl:∀c∈l,c∈octT):B2 ([q]++(n0 [q] m l).1++[q]) 286 (.bytes (byt l)) (n0 [q] m l).2:=λr ln hb=>by
 have hn1:b8 (q.toNat:Int)=false/\u6 (q.toNat:Int)=false/\((q.toNat:Int) ==45)=false/\((q.toNat:Int) == -1)=false:=by
  unfold B1 at hq
  rw[Bool.or_eq_true,beq_iff_eq,beq_iff_eq]at hq
  rcases hq with h|h<;>rw[h]<;>exact⟨rfl,rfl,rfl,rfl⟩
 have e0: [q]++(n0 [q] m l).1++[q]++r=q::((n0 [q] m l).1++(q::r)):=by simp
 rw[e0]
 refine⟨⟨hn1.1,hn1.2.1,by show((q.toNat:Int) ==45&&_)=false;rw[hn1.2.2.1];rfl⟩,[q]++byt l++[q], ?_⟩
 have h:=λf=>bL4 hm l m f (q::r) ln [q] hl hn1.1
 have hlen:=(h 0).2.2
 have ef:((n0 [q] m l).1++(q::r)).length+1=(((n0 [q] m l).1.length - l.length)+r.length+1+1)+l.length:=by
  rw[cV7,da0];lia
 unfold H9
 rw[show b9 (q::((n0 [q] m l).1++(q::r)))=(q.toNat:Int)from rfl,hn1.2.2.2,hq]
 show l6 (q.toNat:Int) _ ln []=_
 unfold l6
 show(match j9 (q.toNat:Int) (((n0 [q] m l).1++(q::r)).length+1) ((n0 [q] m l).1++(q::r)) ln [q]with| .ok _ r l b=>_| .err l w n=>_)=_
 rw[ef,show(q.toNat:Int)=b9 [q]from rfl,(h _).1]
 have e1:∀f b,j9 (b9 [q]) (f+1) (q::r) (ln+ (n0 [q] m l).2) b= .ok () r (ln+ (n0 [q] m l).2) (b++[q]):=λf b=>if_pos (beq_self_eq_true _)
 rw[e1]
 dsimp only
 rw[bf7]
noncomputable def aH9(t:Bs)(c:Int):Bs:=if(c==10)=true then t else byt [c]
noncomputable def lgE(l c:Int):Int:=if(c==10)=true then l+1 else l
noncomputable def ax1(v:Bs)(c:Int):Bool:=v.isEmpty&& (c==91||c==93)
noncomputable def Nx2(t r:Bs):Prop:=((t== [10]) && (b9 r==13))=false/\v8 (b9 r)=false
noncomputable def cx5(t v:Bs)(c:Int):Prop:=ax1 v c=false->∀(g f:Nat) (r:Bs) (l:Int) (b:Bs),Nx2 t r->longLoop (v.length:Int) true g (f+1) (aH9 t c++r) l b=longLoop (v.length:Int) true g f r (lgE l c) (b++byt [c])/\Nx2 t (aH9 t c++r)
theorem ag7{t v:Bs}{c:Int}(h:ax1 v c=true):cx5 t v c:=λe=>by rw[h]at e;exact cV2 e
theorem aU9{r:Bs}(h:(b9 r==13)=false):endLine (10::r)=r:=by
 unfold endLine
 show(if(b8 (b9 r) && (b9 r != 10))=true then r.tail else r)=r
 rw[if_neg]
 unfold b8
 rw[h,df0]
 show ¬ ((b9 r==10) && !(b9 r==10))=true
 cases b9 r==10<;>decide
theorem aO4{n:Int}{g f:Nat}{r b:Bs}{l:Int}(h:(([10]:Bs) == [10] && (b9 r==13))=false):longLoop n true g (f+1) ([10]++r) l b=longLoop n true g f r (l+1) (b++[10]):=by
 have e:longLoop n true g (f+1) ([10]++r) l b=longLoop n true g f (endLine (10::r)) (l+1) (b++[10]):=by with_unfolding_all rfl
 rw[e,aU9 h]
theorem bz2{c:UInt8}{r:Bs}(h:v8 (b9 r)=false):(f7 (c::r) ==2)=false/\c9 (c::r)=r/\∀b,f5 (c::r) b=b++[c]:=by
 obtain⟨h1,h2⟩:=az7 h
 refine⟨?_,h1,λb=> ?_⟩
 ·unfold f7
  show((if(b9 (dw v8 r) ==b9 (c::r))=true then((tw v8 r).length:Int)else -((tw v8 r).length:Int) - 1) ==2)=false
  rw[h2]
  split<;>rfl
 ·show b++[c]++tw v8 r=_
  rw[h2,cZ4]
theorem aj1{g f:Nat}{r b:Bs}{l:Int}(h:v8 (b9 r)=false):longLoop 2 true g (f+1) ([91]++r) l b=longLoop 2 true g f r l (b++[91]):=by
 obtain⟨h1,h2,h3⟩:=bz2 (c:=91) h
 have e:longLoop 2 true g (f+1) ([91]++r) l b=if(f7 (91::r) ==2)=true then longLoop 2 true g f (c9 (91::r)).tail l (f5 (91::r) b++[hd (c9 (91::r))])else longLoop 2 true g f (c9 (91::r)) l (f5 (91::r) b):=by with_unfolding_all rfl
 rw[e,h1,h2,h3];rfl
theorem ai9{g f:Nat}{r b:Bs}{l:Int}(h:v8 (b9 r)=false):longLoop 2 true g (f+1) ([93]++r) l b=longLoop 2 true g f r l (b++[93]):=by
 obtain⟨h1,h2,h3⟩:=bz2 (c:=93) h
 show longLoop 2 true g (f+1) (93::r) l b=_
 rw[longLoop.eq_def]
 show(if(f7 (93::r) ==2)=true then _ else longLoop 2 true g f (c9 (93::r)) l (f5 (93::r) b))=_
 rw[h1,h2,h3];rfl
theorem aS8:∀t∈ ([[10],[13,10],[10,13]]:List Bs),∀v∈ ([[],[61,61]]:List Bs),∀c∈ ([97,10,34,39,92,0,48,255,93,91,9]:List Int),cx5 t v c:=(all_cons (all_cons (all_cons (λH H H H H H H=>⟨by with_unfolding_all rfl,rfl,rfl⟩) (all_cons (λH H H H H H h=>⟨aO4 h.1,rfl,rfl⟩) (all_cons (λH H H H H H H=>⟨by with_unfolding_all rfl,rfl,rfl⟩) (all_cons (λH H H H H H H=>⟨by with_unfolding_all rfl,rfl,rfl⟩) (all_cons (λH H H H H H H=>⟨by with_unfolding_all rfl,rfl,rfl⟩) (all_cons (λH H H H H H H=>⟨by with_unfolding_all rfl,rfl,rfl⟩) (all_cons (λH H H H H H H=>⟨by with_unfolding_all rfl,rfl,rfl⟩) (all_cons (λH H H H H H H=>⟨by with_unfolding_all rfl,rfl,rfl⟩) (all_cons (ag7 rfl) (all_cons (ag7 rfl) (all_cons (λH H H H H H H=>⟨by with_unfolding_all rfl,rfl,rfl⟩) k9))))))))))) (all_cons (all_cons (λH H H H H H H=>⟨by with_unfolding_all rfl,rfl,rfl⟩) (all_cons (λH H H H H H h=>⟨aO4 h.1,rfl,rfl⟩) (all_cons (λH H H H H H H=>⟨by with_unfolding_all rfl,rfl,rfl⟩) (all_cons (λH H H H H H H=>⟨by with_unfolding_all rfl,rfl,rfl⟩) (all_cons (λH H H H H H H=>⟨by with_unfolding_all rfl,rfl,rfl⟩) (all_cons (λH H H H H H H=>⟨by with_unfolding_all rfl,rfl,rfl⟩) (all_cons (λH H H H H H H=>⟨by with_unfolding_all rfl,rfl,rfl⟩) (all_cons (λH H H H H H H=>⟨by with_unfolding_all rfl,rfl,rfl⟩) (all_cons (λH H H H H H h=>⟨ai9 h.2,rfl,rfl⟩) (all_cons (λH H H H H H h=>⟨aj1 h.2,rfl,rfl⟩) (all_cons (λH H H H H H H=>⟨by with_unfolding_all rfl,rfl,rfl⟩) k9))))))))))) k9)) (all_cons (all_cons (all_cons (λH H H H H H H=>⟨by with_unfolding_all rfl,rfl,rfl⟩) (all_cons (λH H H H H H H=>⟨by with_unfolding_all rfl,rfl,rfl⟩) (all_cons (λH H H H H H H=>⟨by with_unfolding_all rfl,rfl,rfl⟩) (all_cons (λH H H H H H H=>⟨by with_unfolding_all rfl,rfl,rfl⟩) (all_cons (λH H H H H H H=>⟨by with_unfolding_all rfl,rfl,rfl⟩) (all_cons (λH H H H H H H=>⟨by with_unfolding_all rfl,rfl,rfl⟩) (all_cons (λH H H H H H H=>⟨by with_unfolding_all rfl,rfl,rfl⟩) (all_cons (λH H H H H H H=>⟨by with_unfolding_all rfl,rfl,rfl⟩) (all_cons (ag7 rfl) (all_cons (ag7 rfl) (all_cons (λH H H H H H H=>⟨by with_unfolding_all rfl,rfl,rfl⟩) k9))))))))))) (all_cons (all_cons (λH H H H H H H=>⟨by with_unfolding_all rfl,rfl,rfl⟩) (all_cons (λH H H H H H H=>⟨by with_unfolding_all rfl,rfl,rfl⟩) (all_cons (λH H H H H H H=>⟨by with_unfolding_all rfl,rfl,rfl⟩) (all_cons (λH H H H H H H=>⟨by with_unfolding_all rfl,rfl,rfl⟩) (all_cons (λH H H H H H H=>⟨by with_unfolding_all rfl,rfl,rfl⟩) (all_cons (λH H H H H H H=>⟨by with_unfolding_all rfl,rfl,rfl⟩) (all_cons (λH H H H H H H=>⟨by with_unfolding_all rfl,rfl,rfl⟩) (all_cons (λH H H H H H H=>⟨by with_unfolding_all rfl,rfl,rfl⟩) (all_cons (λH H H H H H h=>⟨ai9 h.2,rfl,rfl⟩) (all_cons (λH H H H H H h=>⟨aj1 h.2,rfl,rfl⟩) (all_cons (λH H H H H H H=>⟨by with_unfolding_all rfl,rfl,rfl⟩) k9))))))))))) k9)) (all_cons (all_cons (all_cons (λH H H H H H H=>⟨by with_unfolding_all rfl,rfl,rfl⟩) (all_cons (λH H H H H H H=>⟨by with_unfolding_all rfl,rfl,rfl⟩) (all_cons (λH H H H H H H=>⟨by with_unfolding_all rfl,rfl,rfl⟩) (all_cons (λH H H H H H H=>⟨by with_unfolding_all rfl,rfl,rfl⟩) (all_cons (λH H H H H H H=>⟨by with_unfolding_all rfl,rfl,rfl⟩) (all_cons (λH H H H H H H=>⟨by with_unfolding_all rfl,rfl,rfl⟩) (all_cons (λH H H H H H H=>⟨by with_unfolding_all rfl,rfl,rfl⟩) (all_cons (λH H H H H H H=>⟨by with_unfolding_all rfl,rfl,rfl⟩) (all_cons (ag7 rfl) (all_cons (ag7 rfl) (all_cons (λH H H H H H H=>⟨by with_unfolding_all rfl,rfl,rfl⟩) k9))))))))))) (all_cons (all_cons (λH H H H H H H=>⟨by with_unfolding_all rfl,rfl,rfl⟩) (all_cons (λH H H H H H H=>⟨by with_unfolding_all rfl,rfl,rfl⟩) (all_cons (λH H H H H H H=>⟨by with_unfolding_all rfl,rfl,rfl⟩) (all_cons (λH H H H H H H=>⟨by with_unfolding_all rfl,rfl,rfl⟩) (all_cons (λH H H H H H H=>⟨by with_unfolding_all rfl,rfl,rfl⟩) (all_cons (λH H H H H H H=>⟨by with_unfolding_all rfl,rfl,rfl⟩) (all_cons (λH H H H H H H=>⟨by with_unfolding_all rfl,rfl,rfl⟩) (all_cons (λH H H H H H H=>⟨by with_unfolding_all rfl,rfl,rfl⟩) (all_cons (λH H H H H H h=>⟨ai9 h.2,rfl,rfl⟩) (all_cons (λH H H H H H h=>⟨aj1 h.2,rfl,rfl⟩) (all_cons (λH H H H H H H=>⟨by with_unfolding_all rfl,rfl,rfl⟩) k9))))))))))) k9)) k9)))
noncomputable abbrev tT:List Bs:=[[10],[13,10],[10,13]]
noncomputable abbrev vT:List Bs:=[[],[61,61]]
noncomputable abbrev oT:List Int:=[97,10,34,39,92,0,48,255,93,91,9]
theorem bn5(ln c:Int):lgE ln c=ln+ (if(c==10)=true then 1 else 0):=by
 unfold lgE
 split
 ·rfl
 ·exact(db6 _).symm
theorem ba2{t:Bs}(ht:t∈tT)(c:Int):0 < (aH9 t c).length:=by
 have h:∀t∈tT,0 < t.length:=by decide
 unfold aH9
 split
 ·exact h t ht
 ·exact dg3 _
theorem aY6{t v:Bs}(ht:t∈tT)(hv:v∈vT):∀(l:List Int) (f:Nat) (r:Bs) (ln:Int) (b:Bs) (g:Nat),(∀c∈l,c∈oT/\ax1 v c=false)->Nx2 t r->longLoop (v.length:Int) true g (f+l.length) (j2 t l++r) ln b=longLoop (v.length:Int) true g f r (ln+q5 l) (b++byt l)/\Nx2 t (j2 t l++r)/\l.length<=(j2 t l).length
 | [],f,r,ln,b,g,_,hr=>⟨by rw[show q5 []=0 from rfl,db6,show byt []=[]from rfl,cZ4];rfl,hr,cY8 _⟩
 |c::l,f,r,ln,b,g,hc,hr=>by
  have h0:=hc c (cX5 ..)
  obtain⟨i1,i2,i3⟩:=aY6 ht hv l f r (lgE ln c) (b++byt [c]) g (λd hd=>hc d (cZ2 _ hd)) hr
  obtain⟨s1,s2⟩:=aS8 t ht v hv c h0.1 h0.2 g (f+l.length) (j2 t l++r) ln b i2
  have e:j2 t (c::l)++r=aH9 t c++(j2 t l++r):=cW6 _ _ _
  have e2:ln+q5 (c::l)=lgE ln c+q5 l:=by rw[bn5];exact(de9 _ _ _).symm
  refine⟨?_,e▸s2, ?_⟩
  ·rw[e,e2,show f+ (c::l).length=f+l.length+1 from rfl,s1,i1,cW6];rfl
  ·show l.length+1<=(aH9 t c++j2 t l).length
   rw[cV7]
   have:=ba2 ht c
   lia
noncomputable def cu2(v:Bs):Prop:=∀(g f:Nat) (r:Bs) (l:Int) (b:Bs),longLoop (v.length:Int) true g (f+1) ([93]++v++[93]++r) l b= .ok (F2 (b++[93]++v++[93]) (some (g:Int)) (some (((b++[93]++v++[93]).length:Int) - (v.length:Int) - 2))) r l (b++[93]++v++[93])
theorem aH0:∀v∈vT,cu2 v:=all_cons (λH H H H H=>by with_unfolding_all rfl) (all_cons (λH H H H H=>by with_unfolding_all rfl) k9)
noncomputable def cA4(v:Bs):Prop:=∀(y:Bs) (l:Int),ai7 ([91]++v++[91]++y)/\H9 ([91]++v++[91]++y) l=match o0 (v.length:Int) true (91::y) l ([91]++v)with| .ok t r l b=> .ok (286, .bytes t) r l b| .err l w n=> .err l w n
theorem aH4:∀v∈vT,cA4 v:=all_cons (λH H=>⟨⟨rfl,rfl,rfl⟩,by with_unfolding_all rfl⟩) (all_cons (λH H=>⟨⟨rfl,rfl,rfl⟩,by with_unfolding_all rfl⟩) k9)
theorem cJ5{t:Bs}(ht:t∈tT){z:Bs}(h:Nx2 t z):b8 (b9 (t++z))=true/\endLine (t++z)=z:=by
 have:∀t∈tT,∀z,Nx2 t z->b8 (b9 (t++z))=true/\endLine (t++z)=z:=all_cons (λz h=>⟨rfl,aU9 h.1⟩) (all_cons (λz H=>⟨rfl,by with_unfolding_all rfl⟩) (all_cons (λz H=>⟨rfl,by with_unfolding_all rfl⟩) k9))
 exact this t ht z h
theorem cP6(lv:Int)(y b:Bs)(l:Int):o0 lv true (91::y) l b=if b8 (b9 y)=true then longLoop lv true (b++[91]).length ((endLine y).length+1) (endLine y) (l+1) (b++[91])else longLoop lv true (b++[91]).length (y.length+1) y l (b++[91]):=rfl
theorem aC3{t v:Bs}(ht:t∈tT)(hv:v∈vT){l:List Int}(hl:∀c∈l,c∈oT/\ax1 v c=false)(r:Bs)(ln:Int):longLoop (v.length:Int) true ([91]++v++[91]:Bs).length ((j2 t l++([93]++v++[93]++r)).length+1) (j2 t l++([93]++v++[93]++r)) ln ([91]++v++[91])= .ok (byt l) r (ln+q5 l) ([91]++v++[91]++byt l++[93]++v++[93])/\Nx2 t (j2 t l++([93]++v++[93]++r)):=by
 have hr:Nx2 t ([93]++v++[93]++r):=⟨dd6 _,rfl⟩
 obtain⟨h1,h2,h3⟩:=aY6 ht hv l ((j2 t l).length - l.length+ ([93]++v++[93]++r).length+1) _ ln ([91]++v++[91]) ([91]++v++[91]:Bs).length hl hr
 refine⟨?_,h2⟩
 have e:(j2 t l++([93]++v++[93]++r)).length+1=(j2 t l).length - l.length+ ([93]++v++[93]++r).length+1+l.length:=by rw[cV7];lia
 rw[e,h1,aH0 v hv]
 have hc:=aD6 ([91]++v++[91]) (byt l) ([93]++v++[93])
 have e2: [91]++v++[91]++byt l++([93]++v++[93])=[91]++v++[91]++byt l++[93]++v++[93]:=by simp only[cW6]
 rw[e2]at hc
 have e3:(([93]++v++[93]:Bs).length:Int)=v.length+2:=by simp;lia
 rw[e3, ←Int.sub_sub]at hc
 rw[hc]
theorem au6{t v:Bs}(ht:t∈tT)(hv:v∈vT){l:List Int}(hl:∀c∈l,c∈oT/\ax1 v c=false){hd:Bool}(hh:hd=false->l.take 1≠[10]):B2 ([91]++v++[91]++(if hd=true then t else [])++j2 t l++[93]++v++[93]) 286 (.bytes (byt l)) ((if hd=true then 1 else 0)+q5 l):=λr ln H=>by
 have e0: [91]++v++[91]++(if hd=true then t else [])++j2 t l++[93]++v++[93]++r=[91]++v++[91]++((if hd=true then t else [])++(j2 t l++([93]++v++[93]++r))):=by simp only[cW6]
 rw[e0]
 obtain⟨i1,i2⟩:=aH4 v hv ((if hd=true then t else [])++(j2 t l++([93]++v++[93]++r))) ln
 refine⟨i1,[91]++v++[91]++byt l++[93]++v++[93], ?_⟩
 rw[i2,cP6]
 cases hd with
 |true=>
  obtain⟨h1,h2⟩:=aC3 ht hv hl r (ln+1)
  obtain⟨n1,n2⟩:=cJ5 ht h2
  have q:(if b8 (b9 ((if true=true then t else [])++(j2 t l++([93]++v++[93]++r))))=true then longLoop (v.length:Int) true ([91]++v++[91]:Bs).length ((endLine ((if true=true then t else [])++(j2 t l++([93]++v++[93]++r)))).length+1) (endLine ((if true=true then t else [])++(j2 t l++([93]++v++[93]++r)))) (ln+1) ([91]++v++[91])else longLoop (v.length:Int) true ([91]++v++[91]:Bs).length (((if true=true then t else [])++(j2 t l++([93]++v++[93]++r))).length+1) ((if true=true then t else [])++(j2 t l++([93]++v++[93]++r))) ln ([91]++v++[91]))=_:=(if_pos n1).trans ((congrArg (λz:Bs=>longLoop (v.length:Int) true ([91]++v++[91]:Bs).length (z.length+1) z (ln+1) ([91]++v++[91])) n2).trans h1)
  rw[q]
  show Res.ok _ r (ln+1+q5 l) _=Res.ok _ r (ln+ (1+q5 l)) _
  rw[de9]
 |false=>
  obtain⟨h1,h2⟩:=aC3 ht hv hl r ln
  have n1:b8 (b9 (j2 t l++([93]++v++[93]++r)))=false:=by
   cases l with
   |nil=>rfl
   |cons c l=>
    have hc:=(hl c (cX5 ..)).1
    have h10:c≠10:=λe=>hh rfl (by rw[e];rfl)
    have:∀c∈oT,c≠10->b8 (b9 (byt [c]))=false:=by decide
    have e:j2 t (c::l)=byt [c]++j2 t l:=by show(if(c==10)=true then t else byt [c])++_=_;rw[if_neg (λe=>h10 (beq_iff_eq.mp e))]
    rw[e]
    exact this c hc h10
  have q:(if b8 (b9 ((if false=true then t else [])++(j2 t l++([93]++v++[93]++r))))=true then longLoop (v.length:Int) true ([91]++v++[91]:Bs).length ((endLine ((if false=true then t else [])++(j2 t l++([93]++v++[93]++r)))).length+1) (endLine ((if false=true then t else [])++(j2 t l++([93]++v++[93]++r)))) (ln+1) ([91]++v++[91])else longLoop (v.length:Int) true ([91]++v++[91]:Bs).length (((if false=true then t else [])++(j2 t l++([93]++v++[93]++r))).length+1) ((if false=true then t else [])++(j2 t l++([93]++v++[93]++r))) ln ([91]++v++[91]))=_:=(if_neg (nb n1)).trans h1
  rw[q]
  show Res.ok _ r (ln+q5 l) _=Res.ok _ r (ln+ (0+q5 l)) _
  rw[Int.zero_add]
theorem ai3{L:List Bs}{m k:Nat}(hk:L.length=k)(h:0 < k):J2 L m k∈L:=by
 have:=E5 (i:=m) h
 unfold J2
 rw[cV8,cW2 (by rw[hk];exact this)]
 exact db5 _
noncomputable abbrev as3(t:Bs×Int×V×Int):Prop:=B2 t.1 t.2.1 t.2.2.1 t.2.2.2
theorem bc5(m:Nat):as3 (J2 words m 21,257+ (m:Int).fmod 21, .none,0):=by
 have hi:=E5 (i:=m) (k:=21) (by decide)
 obtain⟨h1,h2,h3⟩:=aL1 _ hi
 have e:(((m:Int).fmod 21).toNat:Int)=(m:Int).fmod 21:=Int.toNat_of_nonneg (cZ6 _ (by decide))
 refine X2 h1 h2 ?_
 show(match kindTab.lookup (words.getD ((m:Int).fmod 21).toNat [])with|none=>((285:Int),V.bytes _)|some k=>(k, .none))=_
 have h3':kindTab.lookup (words.getD ((m:Int).fmod 21).toNat [])=some (257+ (m:Int).fmod 21):=by rw[←e];exact h3
 rw[h3']
theorem aG3(m:Nat)(l:List Int)(h:∀c∈l,c∈octT):as3 ((ao8 m l).1,286, .bytes (byt l),(ao8 m l).2):=by
 show B2 (B5 m++(n0 (B5 m) m l).1++B5 m) 286 (.bytes (byt l)) (n0 (B5 m) m l).2
 have hm:=bd4 (m:Int)
 rcases cY1.mp hm with e|hm2
 ·rw[e];exact O6 rfl (by decide) l m h
 ·rw[cW0.mp hm2];exact O6 rfl (by decide) l m h
theorem ce1(n:Int):lgT n∈tT:=by
 unfold lgT
 have h:=E5 (i:=n) (k:=3) (by decide)
 rw[cV8,cW2 h]
 exact db5 _
theorem bk4(n:Int)(l:List Int):S6 n l∈vT:=by
 unfold S6
 repeat' split
 all_goals decide
set_option tactic.hygienic true in
theorem cr2{n:Int}{l:List Int}{c:Int}(hc:c∈l):ax1 (S6 n l) c=false:=by
 unfold ax1 S6
 split
 ·rfl
 ·split
  ·rfl
  ·split
   ·rfl
   ·rename_i h91 h93
    show(c==91||c==93)=false
    rw[dc0,beq_eq_false_iff_ne,beq_eq_false_iff_ne]
    exact⟨λe=>h91 (de2.mpr (e▸hc)),λe=>h93 (de2.mpr (e▸hc))⟩
theorem ck6{c:Int}(h:c∈octT)(h13:(c != 13)=true):c∈oT:=by
 have:∀c∈octT,(c != 13)=true->c∈oT:=by decide
 exact this c h h13
theorem bn8(m:Nat)(l:List Int)(h:∀c∈l,c∈octT):as3 ((L8 m (l.filter λa=>a != 13)).1,286, .bytes (byt (l.filter λa=>a != 13)),(L8 m (l.filter λa=>a != 13)).2):=
 au6 (ce1 m) (bk4 m _) (λc hc=>⟨ck6 (h c (List.mem_filter.mp hc).1) (List.mem_filter.mp hc).2,cr2 hc⟩) (λe q=>by
  unfold C6 at e
  rw[q]at e
  exact cV2 e)
theorem bd6(f:Int){m:Nat}(hm:m < 2 ^ 30):as3 (D1 f m):=by
 unfold D1
 split
 ·exact bc5 m
 ·split
  ·exact at2 (ai3 (k:=4) rfl (by decide)) m
  ·split
   ·exact aF3 (ai3 (k:=3) rfl (by decide)) hm
   ·split
    ·exact aF4 (ai3 (k:=3) rfl (by decide)) hm
    ·split
     ·exact aG3 m _ (ak6 _ _)
     ·split
      ·exact bn8 m _ (ak6 _ _)
      ·have h:((m:Int).fmod 28).toNat < signT.length:=E5 (k:=28) (by decide)
       have hin:signT.getD ((m:Int).fmod 28).toNat ([],0)∈signT:=by
        rw[cV8,cW2 h];exact db5 _
       exact av7 (bq5 _ hin)
theorem aM8(c:Int):as3 (t7 c):=bd6 _ (P8 c).1
theorem aw9(c:Int)(r:Bs)(l:Int)(h:Bl r):∃b,f6 (R8 c++r) l= .ok (U8 c) r (l+H1 c) b:=by
 obtain⟨h1,b,h2⟩:=aM8 c r (l+ (F1 c).2) h
 refine⟨b, ?_⟩
 unfold R8 H1
 rw[cW6,bP2 (bd7 c) h1,h2, ←de9]
 rfl
theorem bP6:∀g∈gapT,g.1≠[]/\hd g.1∈ ([32,10,13,9,11]:Bs):=by decide+kernel
theorem bQ5(c:Int)(r:Bs):Bl (R8 c++r):=by
 have h:((c.fdiv 11).fmod 12).toNat < gapT.length:=E5 (k:=12) (by decide)
 have hin:F1 c∈gapT:=by
  unfold F1
  rw[cV8,cW2 h];exact db5 _
 obtain⟨h1,h2⟩:=bP6 _ hin
 unfold R8
 cases e:(F1 c).1 with
 |nil=>exact absurd e h1
 |cons d t=>rw[e]at h2;exact .inr ⟨d,t++(t7 c).1++r,by simp,h2⟩
theorem aa9:∀(ns:List Int) (r:Bs),Bl r->Bl (j8 ns++r)
 | [],_,h=>h
 |c::ns,r,_=>by
  show Bl (R8 c++j8 ns++r)
  rw[cW6];exact bQ5 c _
theorem cz2(r:Bs):Bl ([32]++r):= .inr ⟨32,r,rfl,by decide⟩
theorem bQ6(ns:List Int):LSt ns:=λk=>by
 by_cases h:k < ns.length
 ·have e1:ns.drop k=ns[k]::ns.drop (k+1):=de7 h
  have e2:ns.take (k+1)=ns.take k++[ns[k]]:=by rw[dh5,cW2 h];rfl
  obtain⟨b,hb⟩:=aw9 ns[k] (j8 (ns.drop (k+1))++[32]) (lL ns k) (aa9 _ _ (cz2 []))
  refine⟨b, ?_⟩
  have f1:lR ns k=R8 ns[k]++(j8 (ns.drop (k+1))++[32]):=by
   unfold lR
   rw[if_pos (Nat.le_of_lt h),e1];exact cW6 _ _ _
  have f2:lR ns (k+1)=j8 (ns.drop (k+1))++[32]:=if_pos h
  have f3:lL ns (k+1)=lL ns k+H1 ns[k]:=by unfold lL;rw[e2,ae4];rfl
  have f4:lT ns k=U8 ns[k]:=by
   unfold lT
   rw[cV8,cX2,cW2 h];rfl
  rw[f1,f2,f3,f4];exact hb
 ·have f3:lL ns (k+1)=lL ns k:=by unfold lL;rw[List.take_of_length_le (by lia),List.take_of_length_le (by lia)]
  have f2:lR ns (k+1)=[]:=if_neg (by lia)
  rw[f3,f2,ak4 (by lia)]
  by_cases e:k=ns.length
  ·have f1:lR ns k=[32]:=by unfold lR;rw[if_pos (by lia),e,List.drop_length];rfl
   rw[f1];exact⟨[],by with_unfolding_all rfl⟩
  ·have f1:lR ns k=[]:=if_neg (by lia)
   rw[f1];exact⟨[],by with_unfolding_all rfl⟩
theorem bd9:∀p∈signT,p.2≠287:=by decide+kernel
theorem aC7(f:Int)(m:Nat):(D1 f m).2.1≠287:=by
 have h1:=da2 (m:Int) (b:=21) (by decide)
 unfold D1
 split
 ·show 257+ (m:Int).fmod 21≠287;lia
 ·split
  ·exact(by decide:(285:Int)≠287)
  ·split
   ·exact(by decide:(284:Int)≠287)
   ·split
    ·exact(by decide:(284:Int)≠287)
    ·split
     ·exact(by decide:(286:Int)≠287)
     ·split
      ·exact(by decide:(286:Int)≠287)
      ·have h:((m:Int).fmod 28).toNat < signT.length:=E5 (k:=28) (by decide)
       have hin:signT.getD ((m:Int).fmod 28).toNat ([],0)∈signT:=by
        rw[cV8,cW2 h];exact db5 _
       exact bd9 _ hin
theorem bb1:∀(ns:List Int) (n:Int),Run none (ns.map U8) (j8 ns) n
 | [],n=>⟨(287, .none),[],n,[],by with_unfolding_all rfl,rfl⟩
 |c::ns,n=>by
  obtain⟨b,hb⟩:=aw9 c (j8 ns) n (by have:=aa9 ns [] (.inl rfl);rwa[cZ4]at this)
  exact⟨_,_,b,hb,aC7 _ _,bb1 ns _⟩
theorem E1{i:Int}(h0:0<=i)(h:i < 2 ^ 60):rOk (.int i)=true:=by
 refine decide_eq_true ?_
 by_cases e:i.natAbs=0
 ·rw[e];decide
 ·exact(Nat.log2_lt e).mpr (by lia)
theorem aN5:∀p∈signT,0<=p.2/\p.2 < 2 ^ 60:=by decide+kernel
theorem aD2(l:List Int):(byt l).length=l.length:=cW3 _
theorem T0{b:Bs}(h:b.length<=1000):rOk (.bytes b)=true:=decide_eq_true h
theorem aN7(f:Int){m:Nat}(hm:m < 2 ^ 30):rOk (.int (D1 f m).2.1)=true/\rOk (D1 f m).2.2.1=true:=by
 have h1:=cZ6 (m:Int) (b:=21) (by decide)
 have h2:=da2 (m:Int) (b:=21) (by decide)
 have h16:=w6 (b:=16) (by decide) hm
 have h4:=tk4 m
 have hi:=E1 (da1 m) (Int.lt_trans (dh8.mpr hm) (by decide))
 unfold D1
 split
 ·exact⟨E1 (i:=257+ (m:Int).fmod 21) (Int.add_nonneg (by decide) h1) (Int.lt_trans (Int.add_lt_add_left h2 257) (by decide)),rfl⟩
 ·split
  ·refine⟨E1 (i:=285) (by decide) (by decide),T0 ?_⟩
   rw[cV7];exact cV5 (cW8 (B9 cd0 m 4) h16) (by decide)
  ·split
   ·exact⟨E1 (i:=284) (by decide) (by decide),hi⟩
   ·split
    ·exact⟨E1 (i:=284) (by decide) (by decide),hi⟩
    ·split
     ·exact⟨E1 (i:=286) (by decide) (by decide),T0 (by rw[aD2];exact cV5 h4 (by decide))⟩
     ·split
      ·refine⟨E1 (i:=286) (by decide) (by decide),T0 ?_⟩
       rw[aD2];exact cV5 (de1 (λa:Int=>a != 13) (M1 m)) (cV5 h4 (by decide))
      ·have h:((m:Int).fmod 28).toNat < signT.length:=E5 (k:=28) (by decide)
       have hin:signT.getD ((m:Int).fmod 28).toNat ([],0)∈signT:=by
        rw[cV8,cW2 h];exact db5 _
       exact⟨E1 (aN5 _ hin).1 (aN5 _ hin).2,rfl⟩
theorem bX0(c:Int):rOk (.int (U8 c).1)=true/\rOk (U8 c).2=true:=aN7 _ (P8 c).1
theorem qs2(mark:Bs)(m c:Int):0<=(C9 mark m c).2/\(C9 mark m c).2<=1:=by
 unfold C9
 split
 ·exact⟨cZ5 _,Int.zero_le_ofNat 1⟩
 ·split
  ·exact⟨by decide,cZ5 _⟩
  ·exact⟨cZ5 _,Int.zero_le_ofNat 1⟩
theorem ql2(mark:Bs):∀(l:List Int) (m:Int),0<=(n0 mark m l).2/\(n0 mark m l).2<=l.length
 | [],_=>⟨cZ5 _,cZ5 _⟩
 |c::l,m=>by
  have h1:=qs2 mark (m.fdiv 3) c
  have h2:=ql2 mark l (m.fdiv 3)
  exact⟨Int.add_nonneg h1.1 h2.1,da4 (Int.add_le_add h1.2 h2.2) (Int.le_of_eq (Int.add_comm _ _))⟩
theorem cr0:∀l:List Int,0<=q5 l/\q5 l<=l.length
 | []=>⟨cZ5 _,cZ5 _⟩
 |c::l=>by
  have h2:=cr0 l
  have h1:0<=(if(c==10)=true then(1:Int)else 0)/\(if(c==10)=true then(1:Int)else 0)<=1:=by split<;>decide
  exact⟨Int.add_nonneg h1.1 h2.1,da4 (Int.add_le_add h1.2 h2.2) (Int.le_of_eq (Int.add_comm _ _))⟩
theorem ce5(f:Int)(m:Nat):0<=(D1 f m).2.2.2/\(D1 f m).2.2.2<=50:=by
 have h4:=tk4 m
 have hq:=ql2 (B5 m) (M1 m) m
 have hl:=cr0 ((M1 m).filter λa=>a != 13)
 have hf:=de1 (λa:Int=>a != 13) (M1 m)
 have z:(0:Int)<=0/\(0:Int)<=50:=by decide
 unfold D1
 split
 ·exact z
 ·split
  ·exact z
  ·split
   ·exact z
   ·split
    ·exact z
    ·split
     ·show 0<=(n0 (B5 m) m (M1 m)).2/\(n0 (B5 m) m (M1 m)).2<=50;exact⟨hq.1,da4 hq.2 (Int.ofNat_le.mpr (cV5 h4 (by decide)))⟩
     ·split
      ·have h1:0<=(if C6 m ((M1 m).filter λa=>a != 13)=true then(1:Int)else 0)/\(if C6 m ((M1 m).filter λa=>a != 13)=true then(1:Int)else 0)<=1:=by split<;>decide
       show 0<=(if C6 m ((M1 m).filter λa=>a != 13)=true then(1:Int)else 0)+q5 ((M1 m).filter λa=>a != 13)/\(if C6 m ((M1 m).filter λa=>a != 13)=true then(1:Int)else 0)+q5 ((M1 m).filter λa=>a != 13)<=50
       exact⟨Int.add_nonneg h1.1 hl.1,da4 (Int.add_le_add h1.2 (da4 hl.2 (Int.ofNat_le.mpr (cV5 hf h4)))) (by decide)⟩
      ·exact z
theorem ck3:∀g∈gapT,0<=g.2/\g.2<=50:=by decide+kernel
theorem bU4(c:Int):0<=H1 c/\H1 c<=100:=by
 have h:((c.fdiv 11).fmod 12).toNat < gapT.length:=E5 (k:=12) (by decide)
 have hin:F1 c∈gapT:=by
  unfold F1
  rw[cV8,cW2 h];exact db5 _
 have h1:=ck3 _ hin
 have h2:=ce5 (c.fmod 8) ((c.fdiv 8).fmod (10 ^ (9:Int).toNat)).toNat
 show 0<=(F1 c).2+ (D1 (c.fmod 8) ((c.fdiv 8).fmod (10 ^ (9:Int).toNat)).toNat).2.2.2/\(F1 c).2+ (D1 (c.fmod 8) ((c.fdiv 8).fmod (10 ^ (9:Int).toNat)).toNat).2.2.2<=100
 exact⟨Int.add_nonneg h1.1 h2.1,da4 (Int.add_le_add h1.2 h2.2) (by decide)⟩
theorem aM4:∀(ns:List Int) (n:Int),n<=r8 n ns/\r8 n ns<=n+100 * ns.length
 | [],n=>⟨cZ5 _,Int.le_of_eq (db6 n).symm⟩
 |c::ns,n=>by
  have h1:=bU4 c
  have h2:=aM4 ns (n+H1 c)
  show n<=r8 (n+H1 c) ns/\r8 (n+H1 c) ns<=n+100 * ((c::ns).length:Nat)
  refine⟨da4 (Int.le_add_of_nonneg_right h1.1) h2.1,da4 h2.2 (da4 (Int.add_le_add_right (Int.add_le_add_left h1.2 n) _) (Int.le_of_eq ?_))⟩
  rw[da0,Int.natCast_succ,Int.mul_add,de9,Int.add_comm 100];rfl
theorem cL3:∀k,k < 10->digC.getD k 0=(48+k).toUInt8:=by decide+kernel
theorem aH2(f b:Nat){acc:Bs}(h:acc≠[]):M9 f b 0 acc=acc:=by
 cases f with
 |zero=>rfl
 |succ f=>exact if_pos ⟨rfl,h⟩
theorem aq5:∀(f n:Nat) (acc:Bs),ldM (n,acc)< f->(n≠0∨acc=[])->M9 f 10 n acc=L6 n++acc
 |0,_,_,h,_=>absurd h (Nat.not_lt_zero _)
 |f+1,n,acc,h,hn=>by
  have e:¬ (n=0/\acc≠[]):=λq=>hn.elim (λa=>a q.1) (λa=>q.2 a)
  have e1:M9 (f+1) 10 n acc=M9 f 10 (n / 10) (digC.getD (n % 10) 0::acc):=if_neg e
  rw[e1,cL3 _ (Nat.mod_lt _ (by decide))]
  by_cases h9:n<=9
  ·rw[Nat.div_eq_of_lt (by lia),Nat.mod_eq_of_lt (by lia),aH2 _ _ (by simp)]
   rw[Q3 n,if_pos h9];rfl
  ·rw[aq5 f _ _ (da7 (ao2 (b:=10) (i:=(n,acc)) (by decide) e) (Nat.le_of_lt_succ h)) (.inl (by lia))]
   rw[Q3 n,if_neg h9,cW6];rfl
theorem bn2(N:Nat):Q0 (N:Int)=l5 10 N:=by
 show L6 N=_
 have:=aq5 (N+2) N [] (cZ9 _) (.inr rfl)
 rw[cZ4]at this
 exact this.symm
theorem an9{bad w nr:Bs}:∀(ns:List Int) (n:Int),f6 ([32]++bad) (r8 n ns)= .err (r8 n ns) w nr->Run (some (r8 n ns,w,nr)) (ns.map U8) (j8 ns++([32]++bad)) n
 | [],n,h=>h
 |c::ns,n,h=>by
  obtain⟨b,hb⟩:=aw9 c (j8 ns++([32]++bad)) n (aa9 ns _ (cz2 bad))
  exact⟨_,_,b,by rw[←cW6]at hb;exact hb,aC7 _ _,an9 ns _ h⟩
theorem bQ3(ns:List Int)(N:Nat)(hN:r8 1 ns=(N:Int))(m:Int):∃x:Int×Bs×Bs,Run (some x) (ns.map U8) (j8 ns++[32]++(W1 m).1) 1/\u3 [113] x.1 x.2.1 x.2.2=bn0 N (W1 m):=by
 obtain⟨w,nr,h1,h2⟩:=bl0 (r8 1 ns) _ (E5 (i:=m) (k:=14) (by decide))
 refine⟨(r8 1 ns,w,nr), ?_, ?_⟩
 ·rw[cW6];exact an9 ns 1 h1
 ·have h2':w++(bs " near '"++nr++[39])=(W1 m).2:=h2
  unfold bn0 u3
  rw[←h2']
  show [113]++[58]++Q0 (r8 1 ns)++[58,32]++w++(bs " near '"++nr++[39])=_
  rw[hN,bn2]
  simp only[cW6]
  rfl
theorem bO3{X:Cx}(ns:List Int)(hl:ns.length<=12):∃N,LawOk X ns N:=by
 have hle:=aM4 ns 1
 have hN:r8 1 ns=((r8 1 ns).toNat:Int):=(Int.toNat_of_nonneg (by lia)).symm
 refine⟨(r8 1 ns).toNat,hl,bQ6 ns,bb1 ns 1,bX0,hN,by lia,λm=> ?_⟩
 obtain⟨x,h1,h2⟩:=bQ3 ns _ hN m
 rw[←h2]
 refine ax2 (bn3 ?_ ?_ h1)
 ·have:=ar1 hl
  have:=(W6 m).1
  simp only[cV7,da0,dh3]
  lia
 ·rw[cW3];lia
set_option tactic.hygienic true in
theorem af2(env:Env)(b:List Stmt):∀a:List Stmt,execs (a++b) env=execs a env>>= λf=>match f with| .next=>execs b env|f=>pure f
 | []=>by rw[List.nil_append,execs_nil,pure_bind]
 |c::a=>by
  rw[List.cons_append,execs_cons,execs_cons,bind_assoc]
  refine congrArg _ (funext λf=> ?_)
  cases f with
  |next=>exact af2 env b a
  |_=>exact(pure_bind _ _).symm
section
variable {X:Cx} {F:Frm} {n:Nat}
theorem ch8{A:Around}{φ ω:PM}{s:Shared}{a b c:Bs}{st:St}{Q:Flow->Shared->Prop}{E:Value->Shared->Prop}{y0 y1 y2 y3 y4 y5 y6 y7 y8 y9 k1}(O:FOk F)(hA:Rm (F.env::F.outer) A n)(I:Inv X F φ ω st s)
 (ha:st.loc[2]? =some (.val (.bytes a))) (hb:st.loc[19]? =some (.val (.bytes b))) (hc:st.loc[21]? =some (.val (.bytes c))) (na:F.nm[2]? =some (cV1 "whole")) (nb:F.nm[19]? =some (cV1 "bad")) (nc:F.nm[21]? =some (cV1 "due_message"))
 (hr:F.scope.names.lookup (cV1 "_law_refused")=some .globalImplicit) (z1:a.length+1<=16777216) (z2:(a++[32]).length+b.length<=16777216) (h:CsW X n (.ref 544) [.bytes (a++[32]++b)] c) (hQ:∀s',Wk X F.ψ s'->Q (.ret (.bool true)) s'):
 d6 X.M A (exec (.Return (some (.Compare (.Call (.Name (cV1 "_law_refused") y0) [.BinOp (.BinOp (.Name (cV1 "whole") y1) .Add (.Constant (.bytes [32]) k1 y2) y3) .Add (.Name (cV1 "bad") y4) y5] [] y6) [.Eq] [.Name (cV1 "due_message") y7] y8)) y9) F.env) Q E s:=by
 have hg:=aE4 (X:=X) (k:=34) rfl
 have hargs:Evs X F n [.BinOp (.BinOp (.Name (cV1 "whole") y1) .Add (.Constant (.bytes [32]) k1 y2) y3) .Add (.Name (cV1 "bad") y4) y5] y6 st (λvs st1=>vs=[.bytes (a++[32]++b)]/\st1=st) v4:=
  I9 (aj9 (aj9 (u5 2 O na ha (Z9 ⟨_,al2 z1,u5 19 O nb hb ⟨_,al2 z2,ai8 ⟨rfl,rfl⟩⟩⟩))))
 refine C1 (N9 (m8 (gl O I hr (E9 (a1 hg)) (u9 X.kin (a2 hg) (hargs A s φ ω _ _ hA I (λvs st1 rs s₁ φ1 ω₁ hq hI1 hl1 hvs=>⟨hI1.S.kin, ?_⟩) (λH H H h=>h.elim)) rfl rfl) (by decide))) rfl)
 obtain⟨rfl,rfl⟩:=hq
 have hcl:=hI1.callAt O false 0 (λe=>by exact cV2 e)
 have hno:=hI1.psiL
 obtain⟨m,oL,d,h1,h1a,h1b,h2,h3,_⟩:=hI1.ex
 obtain⟨o2,e2,e3⟩:=ObjNs.of h2
 have eo:o2=oL:=by rw[hI1.S.kω _ _ h1]at e2;cases e2;rfl
 subst eo
 refine q9 (h _ A s₁ φ1 F.ψ ω₁ _ _ rs hA hcl.1 hI1.S hvs λt s' hk=> ?_)
 obtain⟨sl,q⟩:=hk.psi F.L o2 (by show(F.ψ F.L).or (q6 false 0 ω₁ F.L)=_;rw[hno];exact h1) e3.noFields
 obtain⟨r,g1,g2⟩:=h3 21 _ _ nc hc
 have e3':ObjNs {o2 with slots:=sl} m:=e3
 refine i9 (db9 (cW9 O.kind (O.loc _ (cW1 nc)) (e3'.ns q) g1 ?_) (by decide))
 refine g2.bytesE λu=> ?_
 refine i9 (eq_bytes ?_)
 rw[beq_self_eq_true]
 exact hQ s' ⟨hk.base,λx o e1 e2=>hk.psi x o (PM.le_or _ _ _ _ e1) e2,hk.os,hk.gens⟩
theorem CsW.up{k n:Nat}{f vs b}(h:CsW X k f vs b)(hk:k<=n):CsW X n f vs b:=λouter A s φ ψ ω Qr Er rs hA=>h outer A s φ ψ ω Qr Er rs (hA.less hk)
theorem bp6{l:List Int}{N:Nat}(hl:l.length<=1000)(p:LawOk X (ao9 l) N){A:Around}{φ:PM}{s:Shared}{rs:List Value}{Qr Er:Value->Shared->Prop}(hA:Rm [] A 18)(hS:Sep X φ PM.emp PM.emp s)(hv:RVs X φ [.lst (l.map .int)] rs)(hQ:∀s',Wk X (PM.emp.or (q6 false 0 PM.emp)) s'->Qr (.bool true) s'):
 o7 X.M A (.call (.ref 549) ⟨rs,[]⟩) (aL8 Qr Er) s:=by
 refine Cs.enter (me:=none) (lx:=0) (C:=465) (d:=0) (bQ2 _) (dvv:=[]) (λH=> .nil) rfl (by have:=hA.depth;lia) (λe h=>absurd h dc9) hS hv trivial λs₁ ω₁ I=> ?_
 have O:=(bQ2 X.w.params).frm s.heap.objs.size (PM.emp.or (q6 false 0 PM.emp)) [] 0 465
 rw[show bd549=au5++bd549.drop 11 from(List.take_append_drop 11 _).symm,af2]
 refine a0 (bP9 hl p s.heap.objs.size (PM.emp.or (q6 false 0 PM.emp)) [] 0 _ s₁ φ ω₁ _ _ hA.deeper I (λfl st' r s' φ' ω' hq hI' hl' hr=> ?_) (λH H H h=>h.elim))
 obtain⟨rfl,m,e1,e2,e3⟩:=hq
 subst hr
 have w1:=ar1 p.few
 have w2:=(W6 m).1
 with_unfolding_all refine l7 (ch8 (n:=17) O hA.deeper hI' e1 e2 e3 rfl rfl rfl rfl ?_ ?_ ((p.ref m).up (by decide)) λs' h=>hQ s' h)
 ·lia
 ·rw[cV7];show _+1+_<=_;lia
end
end Mine
set_option maxHeartbeats 400000
namespace Mine
theorem am6{R:WRecords}{cl:Str->Option Addr}{P:Params}{ord:List DictEntry->List DictEntry}{X:Cx}{φ:PM}:∀(l:List Int) (s:Shared),∃rs s',layAllW R cl P ord (l.map .int) s=some (rs,s')/\s'.heap=s.heap/\s'.os=s.os/\s'.gens=s.gens/\RVs X φ (l.map .int) rs
 | [],s=>⟨[],s,rfl,rfl,rfl,rfl, .nil⟩
 |i::l,s=>by
  obtain⟨rs,s',h1,h2,h3,h4,h5⟩:=am6 (R:=R) (cl:=cl) (P:=P) (ord:=ord) (X:=X) (φ:=φ) l {s with toks:=s.toks+1}
  refine⟨.int i s.toks::rs,s', ?_,h2,h3,h4, .cons .int h5⟩
  show(match layAllW R cl P ord (l.map .int) {s with toks:=s.toks+1}with|some r=>some (Value.int i s.toks::r.1,r.2)|none=>none)=_
  rw[h1]
theorem be6{o:OpenLaw}{args:List WData}(h:o.row.toRowW.claim.pre args=true)(hm:o.most=some 63)(hb:o.bound=none):∃l:List Int,args=[.list (l.map .int)]/\l.length<=63:=by
 obtain⟨h1,h2⟩:=pre_splitW h
 obtain⟨d,r,rfl,h3,h4⟩:=hasAllW_cons h1
 obtain rfl:=hasAllW_nil h4
 obtain⟨xs,rfl,h5⟩:=hasW_list h3
 obtain⟨l,rfl⟩:=items_int h5
 refine⟨l,rfl, ?_⟩
 have h6:WTm.holds [] o.pre {args:=[.list (l.map .int)]}=true:=h2
 unfold OpenLaw.pre at h6
 rw[hm,hb]at h6
 rw[←cW3 (f:=WData.int)]
 generalize l.map WData.int=xs at h6⊢
 have e:∀T c,WTm.value [] (.lt (.lit (.int 63)) (.len (.arg 0))) c=some (.bool T)->WTm.holds [] (.and (.not (.lt (.lit (.int 63)) (.len (.arg 0)))) (.lit (.bool true))) c= !T:=λT c h=>by
  unfold WTm.holds WTm.value WTm.value
  rw[h]
  cases T<;>rfl
 refine Nat.le_of_not_lt λq=> ?_
 have h8:=(e true {args:=[.list xs]} (by
  exact congrArg (λb=>some (WData.bool b)) (decide_eq_true (show(63:Int)< (xs.length:Int)from dh8.mpr q)))).symm.trans h6
 exact cV2 h8
theorem aF8:Rm [] callerA 18:=⟨rfl,by decide+kernel,by decide+kernel,rfl,rfl⟩
theorem bW8{X:Cx}{s:Shared}{l:List Int}{rs:List Value}{a:Addr}(hl:l.length<=63)(h0:X.H₀=s.heap)(ho:X.os=s.os)(hg:s.gens= #[])(ha:s.heap.get? a=some (j0 rs 0))(hv:RVs X s.heap.get? (l.map .int) rs):
 d6 X.M callerA (call (.ref 549) [.ref a]) (λv s'=>v= .bool true/\(∀b o,s.heap.get? b=some o->s'.heap.get? b=some o)/\s'.os=s.os/\s'.gens= #[]) (λH H=>False) s:=by
 obtain⟨N,p⟩:=bO3 (X:=X) (ao9 l) (an4 l)
 have hS:Sep X s.heap.get? PM.emp PM.emp s:=⟨λH H e=>e,λH H e=>absurd (show(none:Option Obj)=some _ from e) nofun,λH H e=>absurd (show(none:Option Obj)=some _ from e) nofun,λH H=>rfl,λH H=>rfl,λH h=>absurd rfl h,λH H e=>h0▸e,ho.symm,hg⟩
 exact q9 (bp6 (cV5 hl (by decide)) p aF8 hS (.cons (.lst ha hv) .nil) λs'' h=>⟨rfl,λb o e=>h.base b o (h0▸e),h.os.trans ho,h.gens⟩)
theorem az4{w:World}{s0 s₁:Shared}{args:List WData}{vs:List Value}{as:List Addr}(hi:Heap.incl (H₁ w.params) s0.heap)(hp:rw0.claim.pre args=true)(L:Laid [] w s0 s₁ args vs as):
 d6 (model pw w) callerA (call (.ref 549) vs) (λv s'=>v= .bool true/\(∀b o,s₁.heap.get? b=some o->s'.heap.get? b=some o)/\s'.os=s₁.os/\s'.gens= #[]) (λH H=>False) s₁:=by
 obtain⟨l,rfl,hl⟩:=be6 (o:=cY0) hp rfl rfl
 let X:Cx:=⟨w,s₁.heap,s₁.os,λa o e=>L.keeps a o (hi a o e)⟩
 obtain⟨ord,_,hlaid⟩:=L.laid
 obtain⟨rs,s',e1,e2,e3,e4,e5⟩:=am6 (R:=[]) (cl:=classAt s0.heap) (P:=w.params) (ord:=ord) (X:=X) (φ:=s₁.heap.get?) l s0
 have e6:layAllW [] (classAt s0.heap) w.params ord [.list (l.map .int)] s0=some ([.ref s'.heap.objs.size], {s' with heap:=s'.heap.push (j0 rs 0)}):=by
  show(match(match layAllW [] (classAt s0.heap) w.params ord (l.map .int) s0 with|some r=>some (df2 r.2.heap.objs.size,({r.2 with heap:=r.2.heap.push (j0 r.1 0)}:Shared))|none=>none)with|some a=>some ([a.1],a.2)|none=>none)=_
  rw[e1]
 rw[hlaid]at e6
 cases e6
 exact bW8 (X:=X) (s:= {s' with heap:=s'.heap.push (j0 rs 0)}) hl rfl rfl L.gens (cX3 _ rfl) e5
end Mine
set_option maxHeartbeats 200000
namespace Mine
theorem cg9:Cl ⟨.builtin "claim.caller" {},none,none,[],none⟩:=⟨by decide+kernel,λH h=>absurd h dc9⟩
theorem av9{c:ClaimW}{tree:List Value->Sem Fin}{w:World}{s0:Shared}{free:Addr->Prop}{gens:Prop}{kept:Heap->Prop}(hz:s0.asleep)(hg:s0.gens= #[])(hsame:c.same=none)(hwi:c.within=[])(hi:∀a b,c.ident a b=true)(hr:∀args cls,c.raises args cls=false)
 (hpost:∀args,c.post args (.bool true) args=true) (has:∀args ord,c.pre args=true->(layAllW c.records (classAt s0.heap) w.params ord args s0).isSome=true) (hk:∀h':Heap,(∀b o,s0.heap.get? b=some o->h'.get? b=some o)->kept h')
 (run:∀args vs s₁ as,c.pre args=true->Laid c.records w s0 s₁ args vs as->d6 (model c.prog w) callerA (tree vs) (λfin s'=>fin= .done (.ret (.bool true))/\(∀b o,s₁.heap.get? b=some o->s'.heap.get? b=some o)/\s'.os=s₁.os/\s'.gens= #[]) (λH H=>False) s₁):
 c.CallFrom (λvs=>⟨tree vs, .builtin "claim.caller" {},default,[]⟩) w free gens kept s0:=by
 intro args hpre hlay ord hord
 obtain⟨⟨vs,s₁⟩,hlaid⟩:=Option.isSome_iff_exists.mp (has args ord hpre)
 have keeps:=layAllW_keeps _ _ _ hlaid
 have hal:=layAllW_rest _ _ _ hlaid
 obtain⟨as,hrd,hin,hold⟩:=reads_layAllW hord _ _ _ hlaid hlay s₁.heap (λH H e=>e)
 have L:Laid c.records w s0 s₁ args vs as:=⟨⟨ord,hord,hlaid⟩,hrd,hin,hold,keeps,hal.1.trans hg,hal.2.2.1⟩
 obtain⟨n,r,s',s'',hs,hrn,hfo,e1,e2,e3,e4⟩:=PySem.wp_halts_full (M:=model c.prog w) (c:= .builtin "claim.caller" {}) (t:=tree vs) (p:=default)
  (R:=λr s'=>r= .ok (.ret (.bool true))/\(∀b o,s₁.heap.get? b=some o->s'.heap.get? b=some o)/\s'.os=s₁.os/\s'.gens= #[]) (Shared.asleep_of_life hal.2.2.2 hz)
  (dg6 _ _ _ (λfin p s' h=>by obtain⟨rfl,h⟩:=h;exact⟨⟨rfl,h⟩,by rw[h.2.2];simp[leftWithCleanup]⟩) (λH H H h=>h.elim) _ _ (run args vs s₁ as hpre L _ default caller_in cg9))
 obtain⟨eh,_,_,eo,_⟩:=Shared.forget_eq hfo
 subst e1
 have k:∀b o,s₁.heap.get? b=some o->s''.heap.get? b=some o:=λb o e=>eh▸e2 b o e
 exact⟨vs,s₁,hlaid,n,_,s'',hs, .inl ⟨_,rfl,hr args,⟨.bool true,args,[],as, .bool true,hrd.keepsK λb o e H=>k b o e,hpost args,λH=>⟨List.nodup_nil,λH h=>absurd h dc9,λH h=>absurd h dc9⟩,λH H=>hi _ _⟩,λi h=>by rw[hsame]at h;exact n7 h,λb o hb H H H=> .inl (k b o hb),λi h=>by rw[hwi]at h;exact absurd h dc9⟩,
  λH i x hx=>by rw[hg]at hx;exact n7 hx,hk _ λb o e=>k b o (keeps b o e),by rw[(runN_life _ _ _ hrn).trans hal.2.2.2],Shared.rest_eq (eo.trans (e3.trans L.os))⟩
theorem bQ0(P:Params):nsIn (KP P) cW5 rw0.name=some (some (.ref 549)):=by kernel_rfl
noncomputable abbrev cN4(n:Str)(vs:List Value):Sem Fin:=do
 match ←nsGet mainNs n with
 |some f=>do ret (←PySem.call f vs)
 |none=>unsupported "claim.caller:no-such-global"
theorem bo8{r:OpenRow}{q:Program}{ap5:List Str}{Xt:Shared->Bool}{XP:(Str->Option Value)->Heap->Prop}{α:Type}{Yf:Shared->α}{Ya:World->α}{d:DefRec}{kwd:List (Str×Expr)}{N:Nat}
 (left:LeftO r.prog q ap5 Xt Yf Ya N) (hX:∀s,Xt s=true->XP (s.heap.nsMap cW5) s.heap) (hdef:defOf q r.name=some (d,kwd)) (hp:r.prog.theDef r.name=some (d.params,d.body,d.scope)) (hkw:kwWritten? d.params.kwonlyargs d.params.kw_defaults=some kwd)
 (hrec:r.records=[]) (hwr:r.writes=false) (k1:r.wellSaid=true) (ok:(chainsOk q&&opensWell r.prog&& (frees r.toRowW&&r.within.isEmpty))=true) (hb:r.prog.bare) (hw:r.toRowW.promised) (hr:∀args cls,r.toRowW.claim.raises args cls=false) (hpost:∀args,r.toRowW.claim.post args (.bool true) args=true)
 (run:∀w s0 args vs s₁ as,Yf s0=Ya w->r.toRowW.claim.pre args=true->Laid r.records w s0 s₁ args vs as->d6 (model r.prog w) callerA (cN4 r.name vs) (λfin s'=>fin= .done (.ret (.bool true))/\(∀b o,s₁.heap.get? b=some o->s'.heap.get? b=some o)/\s'.os=s₁.os/\s'.gens= #[]) (λH H=>False) s₁):r.Holds:=by
 obtain⟨ok,k5⟩:=cZ7.mp ok
 obtain⟨hch,o1⟩:=cZ7.mp ok
 obtain⟨k5,k6⟩:=cZ7.mp k5
 obtain⟨hsame,hu,ha,hap,hm⟩:=frees_parts k5
 refine⟨k1,hw,⟨hb,o1,by show r.makers.map _=[];rw[hm];rfl⟩,hw.witness,λw=>⟨(left.behind hX hch w).1,λs' hs'=> ?_⟩⟩
 obtain⟨s0,hf,hg0,s,hT,hz,hgens,hg,G,y⟩:=(left.behind hX hch w).2 s' hs'
 have no:∀ {x},x∈r.toRowW.claim.records->False:=λh=>by
  have h:_∈r.records:=h
  rw[hrec]at h;exact absurd h dc9
 refine⟨s0,hf,hg0,s,hT,λn hn=> ?_,λH h=>(no h).elim,λH h=>(no h).elim,av9 hz (Array.eq_empty_of_size_eq_zero (beq_iff_eq.mp hgens)) hsame (List.isEmpty_iff.mp k6) (ident_freeW hu ha hap) hr hpost (λargs ord h=> ?_) (λH H q=>by rw[hwr]at q;exact cV2 q) λargs vs s₁ as h L=>run w s args vs s₁ as y h L⟩
 ·obtain rfl:n=r.name:=by split at hn<;>simp_all
  exact pinned_of_view hg G hdef hp hkw
 ·exact layAllW_isSome (R:=r.toRowW.claim.records) (λc h=>by rw[show r.toRowW.claim.records=[]from hrec]at h;exact cV2 h) args r.args s (pre_splitW h).1
theorem aL4(o:OpenLaw)(args:List WData):o.row.toRowW.claim.post args (.bool true) args=true:=by
 show(WShape.has [] (.bool true) .bool&&WTm.holds [] (.eq .res (.lit (.bool true))) {args:=args,res:=some (.bool true),after:=args})=true
 have e:same (.bool true) (.bool true)=true:=by decide+kernel
 simp[WShape.has,WShape.arms,WTm.holds,WTm.value,e]
theorem aF9(said:PySem.Challenge.rw_nt0645_01.row.wellSaid=true):PySem.Challenge.rw_nt0645_01.row.Holds:=
 bo8 cn3 (XP:=XL qv []) (λs e=>xl_of s (cZ7.mp e).1) (by rfl) (by rfl) (by rfl) rfl rfl said (by decide+kernel) ⟨rfl,rfl,rfl,rfl,rfl,by decide+kernel⟩ (by w_witness2) (λH H=>rfl) (aL4 _) λw s0 args vs s₁ as y hp L=>by
  have hi:Heap.incl (H₁ w.params) s0.heap:=λa o h=>by rw[←y]at h;exact h
  have K:(KP w.params).In s₁.heap:=λa o h=>L.keeps a o (hi a o (bv9 _ a o h))
  refine a0 (i9 (wpAny_nsGet (J3 K (X5 _)) ?_))
  rw[show Y7 (KP w.params) mainNs _=_ from J4 (bQ0 _)]
  exact a0 (j4 (az4 hi hp L) (λv s' h=>b7 ⟨by rw[h.1],h.2⟩) λH H h=>h)
theorem the_law:PySem.Challenge.rw_nt0645_01.Holds:=bh0 aF9
end Mine
set_option maxRecDepth 100000 in
theorem PySem.Challenge.cw_nt0645_01_holds : PySem.Challenge.rw_nt0645_01.Holds :=
 Mine.the_law
