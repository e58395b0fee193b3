import PyProof.Rows.All
import Wide.All
import OpenK.AllK
import Wide.FinOn
import KE.BytesMake
import KE.BytesMulAny
import KE.KDictOf
import KE.KEqDict
import KE.KIsAll
import ObjForm.ListNI
import Lean
import PySem.Challenge.RW_nn0234_01
set_option Elab.async false
set_option maxRecDepth 100000
set_option maxHeartbeats 8000000
set_option linter.all false
namespace Mine
noncomputable section
open PySem PySem.W PySem.Calls PyProof.Rows PySem.Spec
noncomputable abbrev pw:Program:=PySem.Challenge.pw_nn0234_01
noncomputable def top(k:Nat):Stmt:=pw.main.body.getD k (.Pass default)
noncomputable def clsB:Stmt→List Stmt
 | .ClassDef _ _ _ b _ _ _ _ _ _ _=>b
 | _=>[]
noncomputable def meth(k j:Nat):Stmt:=(clsB (top k)).getD j (.Pass default)
noncomputable def fnA:Stmt→Arguments
 | .FunctionDef _ a _ _ _ _ _ _ _ _=>a
 | _=>default
noncomputable def fnB:Stmt→List Stmt
 | .FunctionDef _ _ b _ _ _ _ _ _ _=>b
 | _=>[]
noncomputable def fnS:Stmt→Scope
 | .FunctionDef _ _ _ _ _ _ s _ _ _=>s
 | _=>default
noncomputable def en(P:Params)(x:Str)(t:Tok)(v:Value):DictEntry:=⟨PyData.keyHash P x,.str x t,v⟩
noncomputable def zt(a:Array Value):Obj:=⟨.type "tuple",none,.seq a 0,#[]⟩
noncomputable def zf(a:Array Value):Obj:=⟨.none,none,.fields a,#[]⟩
noncomputable def zc(a:Array Value):Obj:=⟨.type "code",none,.fields a,#[]⟩
noncomputable def zk(a:Array DictEntry)(n:Nat):Obj:=⟨.type "dict",none,.dict a n,#[]⟩
noncomputable def zi(i:Int):Value:=.int i 0
noncomputable def zr(a:Addr):Value:=.ref a
noncomputable def zq(s:Str)(k:Tok):Value:=.str s k
noncomputable def zu(k:Tok):Value:=.str "/claim/cut.py" k
noncomputable def gt(x:Str)(t:Tok)(v:Value):Str×Tok×Value:=(x,t,v)
noncomputable def gtab:List (Str×Tok×Value):=[
 gt "__name__" 165 (.str "law_nn0234_01" 1353),
 gt "__doc__" 166 (.none),
 gt "__package__" 167 (.none),
 gt "__loader__" 168 (.builtin "__main__.__loader__#opaque"),
 gt "__spec__" 169 (.none),
 gt "__annotations__" 170 (.ref 6),
 gt "__builtins__" 171 (.ref 4),
 gt "__file__" 173 (.str "/claim/cut.py" 172),
 gt "__cached__" 174 (.none),
 gt "_wall" 193 (.ref 21),
 gt "PaperError" 235 (.ref 46),
 gt "CrossFault" 251 (.ref 59),
 gt "DraftFault" 267 (.ref 71),
 gt "WHITE" 276 (.ref 74),
 gt "DELIMITERS" 287 (.ref 75),
 gt "LINE_FEED" 289 (.int (10) 288),
 gt "RETURN" 291 (.int (13) 290),
 gt "MOST_FIGURES" 293 (.int (20) 292),
 gt "is_regular" 300 (.ref 82),
 gt "is_figure" 307 (.ref 89),
 gt "Cursor" 438 (.ref 192),
 gt "Decimal" 555 (.ref 290),
 gt "sign_text" 562 (.ref 301),
 gt "MOST_HOPS" 566 (.int (30) 565),
 gt "Name" 595 (.ref 318),
 gt "String" 626 (.ref 340),
 gt "Stream" 657 (.ref 361),
 gt "Reference" 695 (.ref 389),
 gt "kind_of" 702 (.ref 400),
 gt "told_plain" 710 (.ref 407),
 gt "told" 716 (.ref 412),
 gt "told_objects" 717 (.ref 412),
 gt "copied" 723 (.ref 417),
 gt "parts_of" 729 (.ref 422),
 gt "depth_of" 741 (.ref 429),
 gt "Lookup" 793 (.ref 461),
 gt "Shelf" 855 (.ref 515),
 gt "MOST_NESTED" 859 (.int (40) 858),
 gt "MOST_NUMBER" 861 (.int (40) 860),
 gt "BACKSLASH" 863 (.int (92) 862),
 gt "OPEN_BRACKET" 865 (.int (40) 864),
 gt "CLOSE_BRACKET" 867 (.int (41) 866),
 gt "CARRIAGE" 869 (.int (13) 868),
 gt "NUMBER_SIGN" 871 (.int (35) 870),
 gt "HEX_FIGURES" 873 (.bytes #[48,49,50,51,52,53,54,55,56,57,65,66,67,68,69,70] 872),
 gt "text_octets" 879 (.ref 522),
 gt "hex_pair" 886 (.ref 529),
 gt "name_octets" 896 (.ref 536),
 gt "whole_octets" 903 (.ref 543),
 gt "decimal_octets" 909 (.ref 548),
 gt "lone_brackets" 919 (.ref 555),
 gt "literal_octets" 930 (.ref 562),
 gt "hex_octets" 939 (.ref 569),
 gt "string_octets" 949 (.ref 576),
 gt "plain_part" 958 (.ref 583),
 gt "lay_reference" 966 (.ref 590),
 gt "lay_dict" 976 (.ref 597),
 gt "lay_parts" 987 (.ref 604),
 gt "run_together" 995 (.ref 611),
 gt "joined_parts" 1005 (.ref 618),
 gt "stream_head" 1014 (.ref 625),
 gt "write_object" 1024 (.ref 632),
 gt "write_indirect" 1035 (.ref 639),
 gt "MOST_OFFSET" 1039 (.int (9999999999) 1038),
 gt "MOST_GENERATION" 1041 (.int (65535) 1040),
 gt "Entry" 1081 (.ref 663),
 gt "runs_of" 1090 (.ref 674),
 gt "figures" 1098 (.ref 681),
 gt "entry_line" 1105 (.ref 688),
 gt "write_classic" 1117 (.ref 695),
 gt "free_chain" 1123 (.ref 700),
 gt "tail" 1130 (.ref 707),
 gt "END_MARK" 1134 (.bytes #[37,37,69,79,70] 1133),
 gt "next_generations" 1144 (.ref 714),
 gt "generations_used" 1153 (.ref 721),
 gt "holders_of" 1162 (.ref 728),
 gt "free_entries" 1168 (.ref 733),
 gt "Changes" 1289 (.ref 818),
 gt "lead_of" 1296 (.ref 829),
 gt "laid_objects" 1311 (.ref 836),
 gt "new_trailer" 1317 (.ref 841),
 gt "classic_section" 1330 (.ref 848),
 gt "mark_end" 1340 (.ref 855),
 gt "changed_numbers" 1352 (.ref 862),
 gt "_law_draw" 1363 (.ref 869),
 gt "_law_value" 1369 (.ref 874),
 gt "_law_words" 1375 (.ref 879),
 gt "_law_line" 1385 (.ref 886),
 gt "_law_table" 1391 (.ref 891),
 gt "_law_due" 1397 (.ref 896),
 gt "_law_section_right" 1403 (.ref 901),
 gt "_law_marks_right" 1415 (.ref 908),
 gt "_law_shelves_right" 1421 (.ref 913),
 gt "law" 1427 (.ref 918)]
noncomputable def zg(P:Params)(x:Str)(t k:Nat):Obj:=zk (en P "__name__" 165 (.str x t)::((gtab.take k).drop 1).map fun e=>en P e.1 e.2.1 e.2.2).toArray k
noncomputable def tmO(s:Stmt)(n q:Str):Obj:=⟨.none,none,.func { name:=n,qualname:=q,params:=fnA s,body:=.stmts (fnB s),scope:=fnS s,globals:=0,closure:=[],defaults:=.none,kwdefaults:=.none },#[]⟩
noncomputable def fnO(s:Stmt)(n q:Str)(d m c:Value):Obj:=⟨.type "function",none,.func { name:=n,qualname:=q,params:=fnA s,body:=.stmts (fnB s),scope:=fnS s,globals:=3,closure:=[],defaults:=d,kwdefaults:=.none,pyModule:=m,code:=c },#[]⟩
noncomputable def ovs:List Obj→List (Nat×Obj)→List Obj
 | l,[]=>l
 | l,(i,o)::r=>ovs (l.set i o) r
noncomputable def mkG:Nat→List Obj→BT→BT
 | _,[],t=>t
 | i,o::r,t=>mkG (i+1) r (t.ins i o)
noncomputable def mkT(l:List Obj):BT:=mkG 0 l .nil
noncomputable abbrev m0:Nat:=11
noncomputable abbrev ann:Option Value:=some (zr 6)
noncomputable abbrev fq:Pos:=⟨0,0,0,0⟩
noncomputable abbrev B:List Frame:=[topFrame fq]
noncomputable def env:Env:={ scope:=pw.main.scope,locals:=mainNs,globals:=mainNs,cells:=[],code:=zr 13,frame:=some 14 }
noncomputable def bE:List Stmt:=behindTheImports pw
noncomputable def cE:Code:=.body bE env
noncomputable def sts(a n:Nat):List Stmt:=(bE.drop a).take n
theorem seg_eq:@segRunT=@PySem.W.Fast.tw10110043849684766642:=PySem.W.Fast.te10110043849684766642
theorem tab_eq:treeTable=PySem.W.Fast.tw14364793385576792824:=PySem.W.Fast.te14364793385576792824
noncomputable def c0(P:Params):List Obj:=[
 zk #[en P "__name__" 1 (zq "builtins" 160),en P "__doc__" 2 (.builtin "builtins.__doc__:str#opaque"),en P "__package__" 3 (.builtin "builtins.__package__:str#opaque"),en P "__loader__" 4 (.builtin "builtins.__loader__:shared#opaque"),en P "__spec__" 5 (.builtin "builtins.__spec__#opaque"),en P "__build_class__" 6 (.builtin "__build_class__"),en P "__import__" 7 (.builtin "__import__"),en P "abs" 8 (.builtin "abs"),en P "all" 9 (.builtin "all"),en P "any" 10 (.builtin "any"),en P "ascii" 11 (.builtin "ascii"),en P "bin" 12 (.builtin "bin"),en P "breakpoint" 13 (.builtin "breakpoint"),en P "callable" 14 (.builtin "callable"),en P "chr" 15 (.builtin "chr"),en P "compile" 16 (.builtin "compile"),en P "delattr" 17 (.builtin "delattr"),en P "dir" 18 (.builtin "dir"),en P "divmod" 19 (.builtin "divmod"),en P "eval" 20 (.builtin "eval"),en P "exec" 21 (.builtin "exec"),en P "format" 22 (.builtin "format"),en P "getattr" 23 (.builtin "getattr"),en P "globals" 24 (.builtin "globals"),en P "hasattr" 25 (.builtin "hasattr"),en P "hash" 26 (.builtin "hash"),en P "hex" 27 (.builtin "hex"),en P "id" 28 (.builtin "id"),en P "input" 29 (.builtin "input"),en P "isinstance" 30 (.builtin "isinstance"),en P "issubclass" 31 (.builtin "issubclass"),en P "iter" 32 (.builtin "iter"),en P "aiter" 33 (.builtin "aiter"),en P "len" 34 (.builtin "len"),en P "locals" 35 (.builtin "locals"),en P "max" 36 (.builtin "max"),en P "min" 37 (.builtin "min"),en P "next" 38 (.builtin "next"),en P "anext" 39 (.builtin "anext"),en P "oct" 40 (.builtin "oct"),en P "ord" 41 (.builtin "ord"),en P "pow" 42 (.builtin "pow"),en P "print" 43 (.builtin "print"),en P "repr" 44 (.builtin "repr"),en P "round" 45 (.builtin "round"),en P "setattr" 46 (.builtin "setattr"),en P "sorted" 47 (.builtin "sorted"),en P "sum" 48 (.builtin "sum"),en P "vars" 49 (.builtin "vars"),en P "None" 50 .none,en P "Ellipsis" 51 (.ellipsis),en P "NotImplemented" 52 (.notImplemented),en P "False" 53 (.bool false),en P "True" 54 (.bool true),en P "bool" 55 (.type "bool"),en P "memoryview" 56 (.type "memoryview"),en P "bytearray" 57 (.type "bytearray"),en P "bytes" 58 (.type "bytes"),en P "classmethod" 59 (.type "classmethod"),en P "complex" 60 (.type "complex"),en P "dict" 61 (.type "dict"),en P "enumerate" 62 (.type "enumerate"),en P "filter" 63 (.type "filter"),en P "float" 64 (.type "float"),en P "frozenset" 65 (.type "frozenset"),en P "property" 66 (.type "property"),en P "int" 67 (.type "int"),en P "list" 68 (.type "list"),en P "map" 69 (.type "map"),en P "object" 70 (.type "object"),en P "range" 71 (.type "range"),en P "reversed" 72 (.type "reversed"),en P "set" 73 (.type "set"),en P "slice" 74 (.type "slice"),en P "staticmethod" 75 (.type "staticmethod"),en P "str" 76 (.type "str"),en P "super" 77 (.type "super"),en P "tuple" 78 (.type "tuple"),en P "type" 79 (.type "type"),en P "zip" 80 (.type "zip"),en P "__debug__" 81 (.bool true),en P "BaseException" 82 (.type "BaseException"),en P "BaseExceptionGroup" 83 (.type "BaseExceptionGroup"),en P "Exception" 84 (.type "Exception"),en P "GeneratorExit" 85 (.type "GeneratorExit"),en P "KeyboardInterrupt" 86 (.type "KeyboardInterrupt"),en P "SystemExit" 87 (.type "SystemExit"),en P "ArithmeticError" 88 (.type "ArithmeticError"),en P "AssertionError" 89 (.type "AssertionError"),en P "AttributeError" 90 (.type "AttributeError"),en P "BufferError" 91 (.type "BufferError"),en P "EOFError" 92 (.type "EOFError"),en P "ImportError" 93 (.type "ImportError"),en P "LookupError" 94 (.type "LookupError"),en P "MemoryError" 95 (.type "MemoryError"),en P "NameError" 96 (.type "NameError"),en P "OSError" 97 (.type "OSError"),en P "ReferenceError" 98 (.type "ReferenceError"),en P "RuntimeError" 99 (.type "RuntimeError"),en P "StopAsyncIteration" 100 (.type "StopAsyncIteration"),en P "StopIteration" 101 (.type "StopIteration"),en P "SyntaxError" 102 (.type "SyntaxError"),en P "SystemError" 103 (.type "SystemError"),en P "TypeError" 104 (.type "TypeError"),en P "ValueError" 105 (.type "ValueError"),en P "Warning" 106 (.type "Warning"),en P "FloatingPointError" 107 (.type "FloatingPointError"),en P "OverflowError" 108 (.type "OverflowError"),en P "ZeroDivisionError" 109 (.type "ZeroDivisionError"),en P "BytesWarning" 110 (.type "BytesWarning"),en P "DeprecationWarning" 111 (.type "DeprecationWarning"),en P "EncodingWarning" 112 (.type "EncodingWarning"),en P "FutureWarning" 113 (.type "FutureWarning"),en P "ImportWarning" 114 (.type "ImportWarning"),en P "PendingDeprecationWarning" 115 (.type "PendingDeprecationWarning"),en P "ResourceWarning" 116 (.type "ResourceWarning"),en P "RuntimeWarning" 117 (.type "RuntimeWarning"),en P "SyntaxWarning" 118 (.type "SyntaxWarning"),en P "UnicodeWarning" 119 (.type "UnicodeWarning"),en P "UserWarning" 120 (.type "UserWarning"),en P "BlockingIOError" 121 (.type "BlockingIOError"),en P "ChildProcessError" 122 (.type "ChildProcessError"),en P "ConnectionError" 123 (.type "ConnectionError"),en P "FileExistsError" 124 (.type "FileExistsError"),en P "FileNotFoundError" 125 (.type "FileNotFoundError"),en P "InterruptedError" 126 (.type "InterruptedError"),en P "IsADirectoryError" 127 (.type "IsADirectoryError"),en P "NotADirectoryError" 128 (.type "NotADirectoryError"),en P "PermissionError" 129 (.type "PermissionError"),en P "ProcessLookupError" 130 (.type "ProcessLookupError"),en P "TimeoutError" 131 (.type "TimeoutError"),en P "IndentationError" 132 (.type "IndentationError"),en P "_IncompleteInputError" 133 (.type "_IncompleteInputError"),en P "IndexError" 134 (.type "IndexError"),en P "KeyError" 135 (.type "KeyError"),en P "ModuleNotFoundError" 136 (.type "ModuleNotFoundError"),en P "NotImplementedError" 137 (.type "NotImplementedError"),en P "PythonFinalizationError" 138 (.type "PythonFinalizationError"),en P "RecursionError" 139 (.type "RecursionError"),en P "UnboundLocalError" 140 (.type "UnboundLocalError"),en P "UnicodeError" 141 (.type "UnicodeError"),en P "BrokenPipeError" 142 (.type "BrokenPipeError"),en P "ConnectionAbortedError" 143 (.type "ConnectionAbortedError"),en P "ConnectionRefusedError" 144 (.type "ConnectionRefusedError"),en P "ConnectionResetError" 145 (.type "ConnectionResetError"),en P "TabError" 146 (.type "TabError"),en P "UnicodeDecodeError" 147 (.type "UnicodeDecodeError"),en P "UnicodeEncodeError" 148 (.type "UnicodeEncodeError"),en P "UnicodeTranslateError" 149 (.type "UnicodeTranslateError"),en P "ExceptionGroup" 150 (.type "ExceptionGroup"),en P "EnvironmentError" 151 (.type "OSError"),en P "IOError" 152 (.type "OSError"),en P "open" 153 (.builtin "open"),en P "quit" 154 (.builtin "builtins.quit#opaque"),en P "exit" 155 (.builtin "builtins.exit#opaque"),en P "copyright" 156 (.builtin "builtins.copyright#opaque"),en P "credits" 157 (.builtin "builtins.credits#opaque"),en P "license" 158 (.builtin "builtins.license#opaque"),en P "help" 159 (.builtin "builtins.help#opaque")] 159,
 zk #[en P "builtins" 162 (zr 4),en P "__main__" 163 (zr 5)] 2,
 ⟨.none,none,.dict #[en P "type.__subclasses__.Exception.0" 232 (.int (46) 0),en P "type.__subclasses__.Exception.n" 233 (.int (1) 0)] 2,#[]⟩,
 zg P "law_nn0234_01" 1353 94,
 ⟨.type "module",(some 0),.plain,#[]⟩,
 ⟨.type "module",(some 3),.plain,#[]⟩,
 zk #[] 0,
 zt #[],
 zf #[],
 zc #[zq "<module>" 176,zq "<module>" 177,zu 178,zi 1,zi 0,zi 0,zi 0,zi 0,zr 7,.bool false,zi 175,zr 8,.none,.none,.none,.none,zi 179,zi 1,zu 180],
 ⟨.type "frame",none,.plain,#[some (zr 9),some (zr 3),some (zr 3),none,some (zq "__main__" 164),none,some (zr 0)]⟩,
 zt #[],
 zf #[zi 1,zi 0,zr 20,zi 5,zi 0,zr 27,zi 14,zi 0,zr 55,zi 16,zi 0,zr 67,zi 24,zi 0,zr 81,zi 26,zi 0,zr 88,zi 28,zi 0,zr 95,zi 91,zi 0,zr 202,zi 139,zi 0,zr 300,zi 143,zi 0,zr 307,zi 147,zi 0,zr 328,zi 152,zi 0,zr 350,zi 157,zi 0,zr 371,zi 165,zi 0,zr 399,zi 187,zi 0,zr 406,zi 201,zi 0,zr 411,zi 211,zi 0,zr 416,zi 220,zi 0,zr 421,zi 229,zi 0,zr 428,zi 239,zi 0,zr 435,zi 258,zi 0,zr 471,zi 287,zi 0,zr 521,zi 289,zi 0,zr 528,zi 291,zi 0,zr 535,zi 303,zi 0,zr 542,zi 307,zi 0,zr 547,zi 317,zi 0,zr 554,zi 331,zi 0,zr 561,zi 344,zi 0,zr 568,zi 350,zi 0,zr 575,zi 356,zi 0,zr 582,zi 370,zi 0,zr 589,zi 376,zi 0,zr 596,zi 383,zi 0,zr 603,zi 396,zi 0,zr 610,zi 398,zi 0,zr 617,zi 407,zi 0,zr 624,zi 413,zi 0,zr 631,zi 423,zi 0,zr 638,zi 431,zi 0,zr 645,zi 440,zi 0,zr 673,zi 448,zi 0,zr 680,zi 450,zi 0,zr 687,zi 456,zi 0,zr 694,zi 464,zi 0,zr 699,zi 471,zi 0,zr 706,zi 475,zi 0,zr 713,zi 483,zi 0,zr 720,zi 489,zi 0,zr 727,zi 495,zi 0,zr 732,zi 502,zi 0,zr 739,zi 565,zi 0,zr 828,zi 567,zi 0,zr 835,zi 578,zi 0,zr 840,zi 583,zi 0,zr 847,zi 587,zi 0,zr 854,zi 594,zi 0,zr 861,zi 603,zi 0,zr 868,zi 609,zi 0,zr 873,zi 613,zi 0,zr 878,zi 615,zi 0,zr 885,zi 618,zi 0,zr 890,zi 626,zi 0,zr 895,zi 639,zi 0,zr 900,zi 665,zi 0,zr 907,zi 673,zi 0,zr 912,zi 684,zi 0,zr 917],
 zc #[zq "<module>" 182,zq "<module>" 183,zu 184,zi 1,zi 0,zi 0,zi 0,zi 0,zr 11,.bool false,zi 181,zr 12,.none,.none,.none,.none,zi 185,zi 1,zu 186],
 ⟨.type "frame",none,.plain,#[some (zr 13),some (zr 3),some (zr 3),none,some (zq "__main__" 164),none,some (zr 0)]⟩,
 zt #[],
 zf #[],
 zt #[zq "k" 190],
 zt #[],
 tmO (top 0) "_wall" "_wall",
 zc #[zq "_wall" 187,zq "_wall" 188,zu 189,zi 1,zi 1,zi 0,zi 0,zi 3,zr 15,.bool true,zi 181,zr 16,.none,zr 17,zr 18,zr 19,zi 191,zi 1,zu 192],
 fnO (top 0) "_wall" "_wall" .none (zq "__main__" 164) (zr 20),
 zt #[.type "Exception"],
 ⟨.type "builtin_function_or_method",none,.fields #[.builtin "type.__prepare__",.type "type"],#[]⟩,
 zk #[en P "__module__" 203 (zq "paperhold.errors" 194),en P "__qualname__" 205 (zq "PaperError" 204),en P "__firstlineno__" 207 (.int (5) 206),en P "__init__" 218 (zr 36),en P "told" 225 (zr 43),en P "__static_attributes__" 228 (zr 44)] 6,
 zt #[],
 zf #[zi 7,zi 4,zr 35,zi 12,zi 4,zr 42],
 zc #[zq "PaperError" 198,zq "PaperError" 199,zu 200,zi 5,zi 0,zi 0,zi 0,zi 0,zr 25,.bool false,zi 181,zr 26,.none,.none,.none,.none,zi 201,zi 5,zu 202],
 ⟨.type "frame",none,.plain,#[some (zr 27),some (zr 3),some (zr 24),none,some (zq "paperhold.errors" 194),none,some (zr 0)]⟩,
 zt #[.int (-1) 209],
 zt #[],
 zf #[],
 zt #[zq "self" 213,zq "what" 214,zq "at" 215],
 zt #[],
 tmO (meth 2 0) "__init__" "PaperError.__init__",
 zc #[zq "__init__" 210,zq "PaperError.__init__" 211,zu 212,zi 7,zi 3,zi 0,zi 0,zi 3,zr 30,.bool true,zi 181,zr 31,.none,zr 32,zr 33,zr 34,zi 216,zi 7,zu 217],
 fnO (meth 2 0) "__init__" "PaperError.__init__" (zr 29) (zq "paperhold.errors" 194) (zr 35),
 zt #[],
 zf #[],
 zt #[zq "self" 222]]
noncomputable def c40(P:Params):List Obj:=[
 zt #[],
 tmO (meth 2 1) "told" "PaperError.told",
 zc #[zq "told" 219,zq "PaperError.told" 220,zu 221,zi 12,zi 1,zi 0,zi 0,zi 3,zr 37,.bool true,zi 181,zr 38,.none,zr 39,zr 40,zr 41,zi 223,zi 12,zu 224],
 fnO (meth 2 1) "told" "PaperError.told" .none (zq "paperhold.errors" 194) (zr 42),
 zt #[zq "at" 226,zq "what" 227],
 zk #[en P "__module__" 203 (zq "paperhold.errors" 194),en P "__firstlineno__" 207 (.int (5) 206),en P "__init__" 218 (zr 36),en P "told" 225 (zr 43),en P "__static_attributes__" 228 (zr 44),en P "__weakref__" 230 (zr 47),en P "__doc__" 231 .none] 3,
 ⟨.type "type",none,.cls ⟨"PaperError",[.type "Exception"],[zr 46,.type "Exception",.type "BaseException",.type "object"],45,"PaperError",true,[],[zr 59,zr 71],false,none,false⟩,#[some (zr 22),none,some (zq "PaperError" 196),some (zq "PaperError" 204),some (.builtin "Exception.__new__"),some (.bool true)]⟩,
 ⟨.type "getset_descriptor",none,.fields #[zq "__weakref__" 229,zr 46,.builtin "ExceptionGroup.__weakref__",.none],#[]⟩,
 ⟨.type "super",none,.fields #[zr 46,zr 46,zr 46],#[]⟩,
 ⟨.type "builtin_function_or_method",none,.fields #[.builtin "object.__init_subclass__",zr 46],#[]⟩,
 zt #[zr 46],
 ⟨.type "builtin_function_or_method",none,.fields #[.builtin "type.__prepare__",.type "type"],#[]⟩,
 zk #[en P "__module__" 243 (zq "paperhold.errors" 194),en P "__qualname__" 245 (zq "CrossFault" 244),en P "__firstlineno__" 247 (.int (14) 246),en P "__static_attributes__" 248 (zr 57)] 4,
 zt #[],
 zf #[],
 zc #[zq "CrossFault" 238,zq "CrossFault" 239,zu 240,zi 14,zi 0,zi 0,zi 0,zi 0,zr 53,.bool false,zi 181,zr 54,.none,.none,.none,.none,zi 241,zi 14,zu 242],
 ⟨.type "frame",none,.plain,#[some (zr 55),some (zr 3),some (zr 52),none,some (zq "paperhold.errors" 194),none,some (zr 0)]⟩,
 zt #[],
 zk #[en P "__module__" 243 (zq "paperhold.errors" 194),en P "__firstlineno__" 247 (.int (14) 246),en P "__static_attributes__" 248 (zr 57),en P "__doc__" 249 .none] 2,
 ⟨.type "type",none,.cls ⟨"CrossFault",[zr 46],[zr 59,zr 46,.type "Exception",.type "BaseException",.type "object"],58,"CrossFault",true,[],[],false,none,false⟩,#[some (zr 50),none,some (zq "CrossFault" 236),some (zq "CrossFault" 244),some (.builtin "Exception.__new__"),some (.bool true)]⟩,
 ⟨.type "super",none,.fields #[zr 59,zr 59,zr 59],#[]⟩,
 ⟨.type "builtin_function_or_method",none,.fields #[.builtin "object.__init_subclass__",zr 59],#[]⟩,
 zt #[zr 46],
 ⟨.type "builtin_function_or_method",none,.fields #[.builtin "type.__prepare__",.type "type"],#[]⟩,
 zk #[en P "__module__" 259 (zq "paperhold.errors" 194),en P "__qualname__" 261 (zq "DraftFault" 260),en P "__firstlineno__" 263 (.int (16) 262),en P "__static_attributes__" 264 (zr 69)] 4,
 zt #[],
 zf #[],
 zc #[zq "DraftFault" 254,zq "DraftFault" 255,zu 256,zi 16,zi 0,zi 0,zi 0,zi 0,zr 65,.bool false,zi 181,zr 66,.none,.none,.none,.none,zi 257,zi 16,zu 258],
 ⟨.type "frame",none,.plain,#[some (zr 67),some (zr 3),some (zr 64),none,some (zq "paperhold.errors" 194),none,some (zr 0)]⟩,
 zt #[],
 zk #[en P "__module__" 259 (zq "paperhold.errors" 194),en P "__firstlineno__" 263 (.int (16) 262),en P "__static_attributes__" 264 (zr 69),en P "__doc__" 265 .none] 2,
 ⟨.type "type",none,.cls ⟨"DraftFault",[zr 46],[zr 71,zr 46,.type "Exception",.type "BaseException",.type "object"],70,"DraftFault",true,[],[],false,none,false⟩,#[some (zr 62),none,some (zq "DraftFault" 252),some (zq "DraftFault" 260),some (.builtin "Exception.__new__"),some (.bool true)]⟩,
 ⟨.type "super",none,.fields #[zr 71,zr 71,zr 71],#[]⟩,
 ⟨.type "builtin_function_or_method",none,.fields #[.builtin "object.__init_subclass__",zr 71],#[]⟩,
 zt #[.int (0) 270,.int (9) 271,.int (10) 272,.int (12) 273,.int (13) 274,.int (32) 275],
 zt #[.int (40) 277,.int (41) 278,.int (60) 279,.int (62) 280,.int (91) 281,.int (93) 282,.int (123) 283,.int (125) 284,.int (47) 285,.int (37) 286],
 zt #[],
 zf #[],
 zt #[zq "code" 297],
 zt #[]]
noncomputable def c80(P:Params):List Obj:=[
 tmO (top 11) "is_regular" "is_regular",
 zc #[zq "is_regular" 294,zq "is_regular" 295,zu 296,zi 24,zi 1,zi 0,zi 0,zi 3,zr 76,.bool true,zi 181,zr 77,.none,zr 78,zr 79,zr 80,zi 298,zi 24,zu 299],
 fnO (top 11) "is_regular" "is_regular" .none (zq "paperhold.cursor" 268) (zr 81),
 zt #[],
 zf #[],
 zt #[zq "code" 304],
 zt #[],
 tmO (top 12) "is_figure" "is_figure",
 zc #[zq "is_figure" 301,zq "is_figure" 302,zu 303,zi 26,zi 1,zi 0,zi 0,zi 3,zr 83,.bool true,zi 181,zr 84,.none,zr 85,zr 86,zr 87,zi 305,zi 26,zu 306],
 fnO (top 12) "is_figure" "is_figure" .none (zq "paperhold.cursor" 268) (zr 88),
 zt #[],
 ⟨.type "builtin_function_or_method",none,.fields #[.builtin "type.__prepare__",.type "type"],#[]⟩,
 zk #[en P "__module__" 315 (zq "paperhold.cursor" 268),en P "__qualname__" 317 (zq "Cursor" 316),en P "__firstlineno__" 319 (.int (28) 318),en P "__init__" 332 (zr 104),en P "is_done" 339 (zr 111),en P "peek" 349 (zr 119),en P "take" 357 (zr 126),en P "starts" 365 (zr 133),en P "skip" 373 (zr 140),en P "skip_white" 380 (zr 147),en P "take_regular" 387 (zr 154),en P "skip_line_end" 394 (zr 161),en P "take_line" 401 (zr 168),en P "number" 410 (zr 175),en P "find" 419 (zr 182),en P "find_last" 427 (zr 189),en P "__static_attributes__" 431 (zr 190)] 17,
 zt #[],
 zf #[zi 30,zi 4,zr 103,zi 35,zi 4,zr 110,zi 38,zi 4,zr 118,zi 42,zi 4,zr 125,zi 49,zi 4,zr 132,zi 52,zi 4,zr 139,zi 55,zi 4,zr 146,zi 58,zi 4,zr 153,zi 61,zi 4,zr 160,zi 72,zi 4,zr 167,zi 75,zi 4,zr 174,zi 85,zi 4,zr 181,zi 88,zi 4,zr 188],
 zc #[zq "Cursor" 310,zq "Cursor" 311,zu 312,zi 28,zi 0,zi 0,zi 0,zi 0,zr 93,.bool false,zi 181,zr 94,.none,.none,.none,.none,zi 313,zi 28,zu 314],
 ⟨.type "frame",none,.plain,#[some (zr 95),some (zr 3),some (zr 92),none,some (zq "paperhold.cursor" 268),none,some (zr 0)]⟩,
 zt #[.int (0) 320,.int (-1) 322],
 zt #[],
 zf #[],
 zt #[zq "self" 326,zq "data" 327,zq "at" 328,zq "end" 329],
 zt #[],
 tmO (meth 13 0) "__init__" "Cursor.__init__",
 zc #[zq "__init__" 323,zq "Cursor.__init__" 324,zu 325,zi 30,zi 4,zi 0,zi 0,zi 3,zr 98,.bool true,zi 181,zr 99,.none,zr 100,zr 101,zr 102,zi 330,zi 30,zu 331],
 fnO (meth 13 0) "__init__" "Cursor.__init__" (zr 97) (zq "paperhold.cursor" 268) (zr 103),
 zt #[],
 zf #[],
 zt #[zq "self" 336],
 zt #[],
 tmO (meth 13 1) "is_done" "Cursor.is_done",
 zc #[zq "is_done" 333,zq "Cursor.is_done" 334,zu 335,zi 35,zi 1,zi 0,zi 0,zi 3,zr 105,.bool true,zi 181,zr 106,.none,zr 107,zr 108,zr 109,zi 337,zi 35,zu 338],
 fnO (meth 13 1) "is_done" "Cursor.is_done" .none (zq "paperhold.cursor" 268) (zr 110),
 zt #[.int (0) 340],
 zt #[],
 zf #[],
 zt #[zq "self" 344,zq "ahead" 345,zq "spot" 346],
 zt #[],
 tmO (meth 13 2) "peek" "Cursor.peek",
 zc #[zq "peek" 341,zq "Cursor.peek" 342,zu 343,zi 38,zi 2,zi 0,zi 0,zi 3,zr 113,.bool true,zi 181,zr 114,.none,zr 115,zr 116,zr 117,zi 347,zi 38,zu 348],
 fnO (meth 13 2) "peek" "Cursor.peek" (zr 112) (zq "paperhold.cursor" 268) (zr 118)]
noncomputable def c120(P:Params):List Obj:=[
 zt #[],
 zf #[],
 zt #[zq "self" 353,zq "code" 354],
 zt #[],
 tmO (meth 13 3) "take" "Cursor.take",
 zc #[zq "take" 350,zq "Cursor.take" 351,zu 352,zi 42,zi 1,zi 0,zi 0,zi 3,zr 120,.bool true,zi 181,zr 121,.none,zr 122,zr 123,zr 124,zi 355,zi 42,zu 356],
 fnO (meth 13 3) "take" "Cursor.take" .none (zq "paperhold.cursor" 268) (zr 125),
 zt #[],
 zf #[],
 zt #[zq "self" 361,zq "word" 362],
 zt #[],
 tmO (meth 13 4) "starts" "Cursor.starts",
 zc #[zq "starts" 358,zq "Cursor.starts" 359,zu 360,zi 49,zi 2,zi 0,zi 0,zi 3,zr 127,.bool true,zi 181,zr 128,.none,zr 129,zr 130,zr 131,zi 363,zi 49,zu 364],
 fnO (meth 13 4) "starts" "Cursor.starts" .none (zq "paperhold.cursor" 268) (zr 132),
 zt #[],
 zf #[],
 zt #[zq "self" 369,zq "word" 370],
 zt #[],
 tmO (meth 13 5) "skip" "Cursor.skip",
 zc #[zq "skip" 366,zq "Cursor.skip" 367,zu 368,zi 52,zi 2,zi 0,zi 0,zi 3,zr 134,.bool true,zi 181,zr 135,.none,zr 136,zr 137,zr 138,zi 371,zi 52,zu 372],
 fnO (meth 13 5) "skip" "Cursor.skip" .none (zq "paperhold.cursor" 268) (zr 139),
 zt #[],
 zf #[],
 zt #[zq "self" 377],
 zt #[],
 tmO (meth 13 6) "skip_white" "Cursor.skip_white",
 zc #[zq "skip_white" 374,zq "Cursor.skip_white" 375,zu 376,zi 55,zi 1,zi 0,zi 0,zi 3,zr 141,.bool true,zi 181,zr 142,.none,zr 143,zr 144,zr 145,zi 378,zi 55,zu 379],
 fnO (meth 13 6) "skip_white" "Cursor.skip_white" .none (zq "paperhold.cursor" 268) (zr 146),
 zt #[],
 zf #[],
 zt #[zq "self" 384],
 zt #[],
 tmO (meth 13 7) "take_regular" "Cursor.take_regular",
 zc #[zq "take_regular" 381,zq "Cursor.take_regular" 382,zu 383,zi 58,zi 1,zi 0,zi 0,zi 3,zr 148,.bool true,zi 181,zr 149,.none,zr 150,zr 151,zr 152,zi 385,zi 58,zu 386],
 fnO (meth 13 7) "take_regular" "Cursor.take_regular" .none (zq "paperhold.cursor" 268) (zr 153),
 zt #[],
 zf #[],
 zt #[zq "self" 391],
 zt #[],
 tmO (meth 13 8) "skip_line_end" "Cursor.skip_line_end"]
noncomputable def c160(P:Params):List Obj:=[
 zc #[zq "skip_line_end" 388,zq "Cursor.skip_line_end" 389,zu 390,zi 61,zi 1,zi 0,zi 0,zi 3,zr 155,.bool true,zi 181,zr 156,.none,zr 157,zr 158,zr 159,zi 392,zi 61,zu 393],
 fnO (meth 13 8) "skip_line_end" "Cursor.skip_line_end" .none (zq "paperhold.cursor" 268) (zr 160),
 zt #[],
 zf #[],
 zt #[zq "self" 398],
 zt #[],
 tmO (meth 13 9) "take_line" "Cursor.take_line",
 zc #[zq "take_line" 395,zq "Cursor.take_line" 396,zu 397,zi 72,zi 1,zi 0,zi 0,zi 3,zr 162,.bool true,zi 181,zr 163,.none,zr 164,zr 165,zr 166,zi 399,zi 72,zu 400],
 fnO (meth 13 9) "take_line" "Cursor.take_line" .none (zq "paperhold.cursor" 268) (zr 167),
 zt #[],
 zf #[],
 zt #[zq "self" 405,zq "first" 406,zq "number" 407],
 zt #[],
 tmO (meth 13 10) "number" "Cursor.number",
 zc #[zq "number" 402,zq "Cursor.number" 403,zu 404,zi 75,zi 1,zi 0,zi 0,zi 3,zr 169,.bool true,zi 181,zr 170,.none,zr 171,zr 172,zr 173,zi 408,zi 75,zu 409],
 fnO (meth 13 10) "number" "Cursor.number" .none (zq "paperhold.cursor" 268) (zr 174),
 zt #[],
 zf #[],
 zt #[zq "self" 414,zq "word" 415,zq "first" 416],
 zt #[],
 tmO (meth 13 11) "find" "Cursor.find",
 zc #[zq "find" 411,zq "Cursor.find" 412,zu 413,zi 85,zi 3,zi 0,zi 0,zi 3,zr 176,.bool true,zi 181,zr 177,.none,zr 178,zr 179,zr 180,zi 417,zi 85,zu 418],
 fnO (meth 13 11) "find" "Cursor.find" .none (zq "paperhold.cursor" 268) (zr 181),
 zt #[],
 zf #[],
 zt #[zq "self" 423,zq "word" 424],
 zt #[],
 tmO (meth 13 12) "find_last" "Cursor.find_last",
 zc #[zq "find_last" 420,zq "Cursor.find_last" 421,zu 422,zi 88,zi 2,zi 0,zi 0,zi 3,zr 183,.bool true,zi 181,zr 184,.none,zr 185,zr 186,zr 187,zi 425,zi 88,zu 426],
 fnO (meth 13 12) "find_last" "Cursor.find_last" .none (zq "paperhold.cursor" 268) (zr 188),
 zt #[zq "at" 428,zq "data" 429,zq "end" 430],
 zk #[en P "__module__" 315 (zq "paperhold.cursor" 268),en P "__firstlineno__" 319 (.int (28) 318),en P "__init__" 332 (zr 104),en P "is_done" 339 (zr 111),en P "peek" 349 (zr 119),en P "take" 357 (zr 126),en P "starts" 365 (zr 133),en P "skip" 373 (zr 140),en P "skip_white" 380 (zr 147),en P "take_regular" 387 (zr 154),en P "skip_line_end" 394 (zr 161),en P "take_line" 401 (zr 168),en P "number" 410 (zr 175),en P "find" 419 (zr 182),en P "find_last" 427 (zr 189),en P "__static_attributes__" 431 (zr 190),en P "__dict__" 433 (zr 193),en P "__weakref__" 435 (zr 194),en P "__doc__" 436 .none] 4,
 ⟨.type "type",none,.cls ⟨"Cursor",[.type "object"],[zr 192,.type "object"],191,"Cursor",true,[],[],false,none,false⟩,#[none,none,some (zq "Cursor" 308),some (zq "Cursor" 316),some (.builtin "object.__new__"),some (.bool true)]⟩,
 ⟨.type "getset_descriptor",none,.fields #[zq "__dict__" 432,zr 192,.builtin "function.__dict__",.builtin "function.__dict__#set"],#[]⟩,
 ⟨.type "getset_descriptor",none,.fields #[zq "__weakref__" 434,zr 192,.builtin "ExceptionGroup.__weakref__",.none],#[]⟩,
 ⟨.type "super",none,.fields #[zr 192,zr 192,zr 192],#[]⟩,
 ⟨.type "builtin_function_or_method",none,.fields #[.builtin "object.__init_subclass__",zr 192],#[]⟩,
 zt #[],
 ⟨.type "builtin_function_or_method",none,.fields #[.builtin "type.__prepare__",.type "type"],#[]⟩,
 zk #[en P "__module__" 448 (zq "paperhold.decimals" 439),en P "__qualname__" 450 (zq "Decimal" 449),en P "__firstlineno__" 452 (.int (91) 451),en P "__init__" 461 (zr 210),en P "plus" 469 (zr 217),en P "minus" 477 (zr 224),en P "times" 485 (zr 231),en P "negated" 492 (zr 238),en P "compared" 500 (zr 245),en P "is_whole" 507 (zr 252),en P "floor" 514 (zr 259),en P "rounded" 522 (zr 266),en P "told" 529 (zr 273),en P "text" 537 (zr 280),en P "least_text" 545 (zr 287),en P "__static_attributes__" 548 (zr 288)] 16]
noncomputable def c200(P:Params):List Obj:=[
 zt #[],
 zf #[zi 93,zi 4,zr 209,zi 100,zi 4,zr 216,zi 103,zi 4,zr 223,zi 106,zi 4,zr 230,zi 109,zi 4,zr 237,zi 112,zi 4,zr 244,zi 115,zi 4,zr 251,zi 118,zi 4,zr 258,zi 121,zi 4,zr 265,zi 124,zi 4,zr 272,zi 127,zi 4,zr 279,zi 134,zi 4,zr 286],
 zc #[zq "Decimal" 443,zq "Decimal" 444,zu 445,zi 91,zi 0,zi 0,zi 0,zi 0,zr 200,.bool false,zi 181,zr 201,.none,.none,.none,.none,zi 446,zi 91,zu 447],
 ⟨.type "frame",none,.plain,#[some (zr 202),some (zr 3),some (zr 199),none,some (zq "paperhold.decimals" 439),none,some (zr 0)]⟩,
 zt #[],
 zf #[],
 zt #[zq "self" 456,zq "top" 457,zq "places" 458],
 zt #[],
 tmO (meth 15 0) "__init__" "Decimal.__init__",
 zc #[zq "__init__" 453,zq "Decimal.__init__" 454,zu 455,zi 93,zi 3,zi 0,zi 0,zi 3,zr 204,.bool true,zi 181,zr 205,.none,zr 206,zr 207,zr 208,zi 459,zi 93,zu 460],
 fnO (meth 15 0) "__init__" "Decimal.__init__" .none (zq "paperhold.decimals" 439) (zr 209),
 zt #[],
 zf #[],
 zt #[zq "self" 465,zq "other" 466],
 zt #[],
 tmO (meth 15 1) "plus" "Decimal.plus",
 zc #[zq "plus" 462,zq "Decimal.plus" 463,zu 464,zi 100,zi 2,zi 0,zi 0,zi 3,zr 211,.bool true,zi 181,zr 212,.none,zr 213,zr 214,zr 215,zi 467,zi 100,zu 468],
 fnO (meth 15 1) "plus" "Decimal.plus" .none (zq "paperhold.decimals" 439) (zr 216),
 zt #[],
 zf #[],
 zt #[zq "self" 473,zq "other" 474],
 zt #[],
 tmO (meth 15 2) "minus" "Decimal.minus",
 zc #[zq "minus" 470,zq "Decimal.minus" 471,zu 472,zi 103,zi 2,zi 0,zi 0,zi 3,zr 218,.bool true,zi 181,zr 219,.none,zr 220,zr 221,zr 222,zi 475,zi 103,zu 476],
 fnO (meth 15 2) "minus" "Decimal.minus" .none (zq "paperhold.decimals" 439) (zr 223),
 zt #[],
 zf #[],
 zt #[zq "self" 481,zq "other" 482],
 zt #[],
 tmO (meth 15 3) "times" "Decimal.times",
 zc #[zq "times" 478,zq "Decimal.times" 479,zu 480,zi 106,zi 2,zi 0,zi 0,zi 3,zr 225,.bool true,zi 181,zr 226,.none,zr 227,zr 228,zr 229,zi 483,zi 106,zu 484],
 fnO (meth 15 3) "times" "Decimal.times" .none (zq "paperhold.decimals" 439) (zr 230),
 zt #[],
 zf #[],
 zt #[zq "self" 489],
 zt #[],
 tmO (meth 15 4) "negated" "Decimal.negated",
 zc #[zq "negated" 486,zq "Decimal.negated" 487,zu 488,zi 109,zi 1,zi 0,zi 0,zi 3,zr 232,.bool true,zi 181,zr 233,.none,zr 234,zr 235,zr 236,zi 490,zi 109,zu 491],
 fnO (meth 15 4) "negated" "Decimal.negated" .none (zq "paperhold.decimals" 439) (zr 237),
 zt #[]]
noncomputable def c240(P:Params):List Obj:=[
 zf #[],
 zt #[zq "self" 496,zq "other" 497],
 zt #[],
 tmO (meth 15 5) "compared" "Decimal.compared",
 zc #[zq "compared" 493,zq "Decimal.compared" 494,zu 495,zi 112,zi 2,zi 0,zi 0,zi 3,zr 239,.bool true,zi 181,zr 240,.none,zr 241,zr 242,zr 243,zi 498,zi 112,zu 499],
 fnO (meth 15 5) "compared" "Decimal.compared" .none (zq "paperhold.decimals" 439) (zr 244),
 zt #[],
 zf #[],
 zt #[zq "self" 504],
 zt #[],
 tmO (meth 15 6) "is_whole" "Decimal.is_whole",
 zc #[zq "is_whole" 501,zq "Decimal.is_whole" 502,zu 503,zi 115,zi 1,zi 0,zi 0,zi 3,zr 246,.bool true,zi 181,zr 247,.none,zr 248,zr 249,zr 250,zi 505,zi 115,zu 506],
 fnO (meth 15 6) "is_whole" "Decimal.is_whole" .none (zq "paperhold.decimals" 439) (zr 251),
 zt #[],
 zf #[],
 zt #[zq "self" 511],
 zt #[],
 tmO (meth 15 7) "floor" "Decimal.floor",
 zc #[zq "floor" 508,zq "Decimal.floor" 509,zu 510,zi 118,zi 1,zi 0,zi 0,zi 3,zr 253,.bool true,zi 181,zr 254,.none,zr 255,zr 256,zr 257,zi 512,zi 118,zu 513],
 fnO (meth 15 7) "floor" "Decimal.floor" .none (zq "paperhold.decimals" 439) (zr 258),
 zt #[],
 zf #[],
 zt #[zq "self" 518,zq "places" 519],
 zt #[],
 tmO (meth 15 8) "rounded" "Decimal.rounded",
 zc #[zq "rounded" 515,zq "Decimal.rounded" 516,zu 517,zi 121,zi 2,zi 0,zi 0,zi 3,zr 260,.bool true,zi 181,zr 261,.none,zr 262,zr 263,zr 264,zi 520,zi 121,zu 521],
 fnO (meth 15 8) "rounded" "Decimal.rounded" .none (zq "paperhold.decimals" 439) (zr 265),
 zt #[],
 zf #[],
 zt #[zq "self" 526],
 zt #[],
 tmO (meth 15 9) "told" "Decimal.told",
 zc #[zq "told" 523,zq "Decimal.told" 524,zu 525,zi 124,zi 1,zi 0,zi 0,zi 3,zr 267,.bool true,zi 181,zr 268,.none,zr 269,zr 270,zr 271,zi 527,zi 124,zu 528],
 fnO (meth 15 9) "told" "Decimal.told" .none (zq "paperhold.decimals" 439) (zr 272),
 zt #[],
 zf #[],
 zt #[zq "self" 533,zq "numerals" 534],
 zt #[],
 tmO (meth 15 10) "text" "Decimal.text",
 zc #[zq "text" 530,zq "Decimal.text" 531,zu 532,zi 127,zi 1,zi 0,zi 0,zi 3,zr 274,.bool true,zi 181,zr 275,.none,zr 276,zr 277,zr 278,zi 535,zi 127,zu 536]]
noncomputable def c280(P:Params):List Obj:=[
 fnO (meth 15 10) "text" "Decimal.text" .none (zq "paperhold.decimals" 439) (zr 279),
 zt #[],
 zf #[],
 zt #[zq "self" 541,zq "numerals" 542],
 zt #[],
 tmO (meth 15 11) "least_text" "Decimal.least_text",
 zc #[zq "least_text" 538,zq "Decimal.least_text" 539,zu 540,zi 134,zi 1,zi 0,zi 0,zi 3,zr 281,.bool true,zi 181,zr 282,.none,zr 283,zr 284,zr 285,zi 543,zi 134,zu 544],
 fnO (meth 15 11) "least_text" "Decimal.least_text" .none (zq "paperhold.decimals" 439) (zr 286),
 zt #[zq "places" 546,zq "top" 547],
 zk #[en P "__module__" 448 (zq "paperhold.decimals" 439),en P "__firstlineno__" 452 (.int (91) 451),en P "__init__" 461 (zr 210),en P "plus" 469 (zr 217),en P "minus" 477 (zr 224),en P "times" 485 (zr 231),en P "negated" 492 (zr 238),en P "compared" 500 (zr 245),en P "is_whole" 507 (zr 252),en P "floor" 514 (zr 259),en P "rounded" 522 (zr 266),en P "told" 529 (zr 273),en P "text" 537 (zr 280),en P "least_text" 545 (zr 287),en P "__static_attributes__" 548 (zr 288),en P "__dict__" 550 (zr 291),en P "__weakref__" 552 (zr 292),en P "__doc__" 553 .none] 4,
 ⟨.type "type",none,.cls ⟨"Decimal",[.type "object"],[zr 290,.type "object"],289,"Decimal",true,[],[],false,none,false⟩,#[none,none,some (zq "Decimal" 441),some (zq "Decimal" 449),some (.builtin "object.__new__"),some (.bool true)]⟩,
 ⟨.type "getset_descriptor",none,.fields #[zq "__dict__" 549,zr 290,.builtin "function.__dict__",.builtin "function.__dict__#set"],#[]⟩,
 ⟨.type "getset_descriptor",none,.fields #[zq "__weakref__" 551,zr 290,.builtin "ExceptionGroup.__weakref__",.none],#[]⟩,
 ⟨.type "super",none,.fields #[zr 290,zr 290,zr 290],#[]⟩,
 ⟨.type "builtin_function_or_method",none,.fields #[.builtin "object.__init_subclass__",zr 290],#[]⟩,
 zt #[],
 zf #[],
 zt #[zq "number" 559],
 zt #[],
 tmO (top 16) "sign_text" "sign_text",
 zc #[zq "sign_text" 556,zq "sign_text" 557,zu 558,zi 139,zi 1,zi 0,zi 0,zi 3,zr 295,.bool true,zi 181,zr 296,.none,zr 297,zr 298,zr 299,zi 560,zi 139,zu 561],
 fnO (top 16) "sign_text" "sign_text" .none (zq "paperhold.decimals" 439) (zr 300),
 zt #[],
 ⟨.type "builtin_function_or_method",none,.fields #[.builtin "type.__prepare__",.type "type"],#[]⟩,
 zk #[en P "__module__" 574 (zq "paperhold.objects" 563),en P "__qualname__" 576 (zq "Name" 575),en P "__firstlineno__" 578 (.int (143) 577),en P "__init__" 586 (zr 315),en P "__static_attributes__" 588 (zr 316)] 5,
 zt #[],
 zf #[zi 145,zi 4,zr 314],
 zc #[zq "Name" 569,zq "Name" 570,zu 571,zi 143,zi 0,zi 0,zi 0,zi 0,zr 305,.bool false,zi 181,zr 306,.none,.none,.none,.none,zi 572,zi 143,zu 573],
 ⟨.type "frame",none,.plain,#[some (zr 307),some (zr 3),some (zr 304),none,some (zq "paperhold.objects" 563),none,some (zr 0)]⟩,
 zt #[],
 zf #[],
 zt #[zq "self" 582,zq "text" 583],
 zt #[],
 tmO (meth 19 0) "__init__" "Name.__init__",
 zc #[zq "__init__" 579,zq "Name.__init__" 580,zu 581,zi 145,zi 2,zi 0,zi 0,zi 3,zr 309,.bool true,zi 181,zr 310,.none,zr 311,zr 312,zr 313,zi 584,zi 145,zu 585],
 fnO (meth 19 0) "__init__" "Name.__init__" .none (zq "paperhold.objects" 563) (zr 314),
 zt #[zq "text" 587],
 zk #[en P "__module__" 574 (zq "paperhold.objects" 563),en P "__firstlineno__" 578 (.int (143) 577),en P "__init__" 586 (zr 315),en P "__static_attributes__" 588 (zr 316),en P "__dict__" 590 (zr 319),en P "__weakref__" 592 (zr 320),en P "__doc__" 593 .none] 4,
 ⟨.type "type",none,.cls ⟨"Name",[.type "object"],[zr 318,.type "object"],317,"Name",true,[],[],false,none,false⟩,#[none,none,some (zq "Name" 567),some (zq "Name" 575),some (.builtin "object.__new__"),some (.bool true)]⟩,
 ⟨.type "getset_descriptor",none,.fields #[zq "__dict__" 589,zr 318,.builtin "function.__dict__",.builtin "function.__dict__#set"],#[]⟩]
noncomputable def c320(P:Params):List Obj:=[
 ⟨.type "getset_descriptor",none,.fields #[zq "__weakref__" 591,zr 318,.builtin "ExceptionGroup.__weakref__",.none],#[]⟩,
 ⟨.type "super",none,.fields #[zr 318,zr 318,zr 318],#[]⟩,
 ⟨.type "builtin_function_or_method",none,.fields #[.builtin "object.__init_subclass__",zr 318],#[]⟩,
 zt #[],
 ⟨.type "builtin_function_or_method",none,.fields #[.builtin "type.__prepare__",.type "type"],#[]⟩,
 zk #[en P "__module__" 603 (zq "paperhold.objects" 563),en P "__qualname__" 605 (zq "String" 604),en P "__firstlineno__" 607 (.int (147) 606),en P "__init__" 616 (zr 337),en P "__static_attributes__" 619 (zr 338)] 5,
 zt #[],
 zf #[zi 149,zi 4,zr 336],
 zc #[zq "String" 598,zq "String" 599,zu 600,zi 147,zi 0,zi 0,zi 0,zi 0,zr 326,.bool false,zi 181,zr 327,.none,.none,.none,.none,zi 601,zi 147,zu 602],
 ⟨.type "frame",none,.plain,#[some (zr 328),some (zr 3),some (zr 325),none,some (zq "paperhold.objects" 563),none,some (zr 0)]⟩,
 zt #[.bool false],
 zt #[],
 zf #[],
 zt #[zq "self" 611,zq "octets" 612,zq "is_hex" 613],
 zt #[],
 tmO (meth 20 0) "__init__" "String.__init__",
 zc #[zq "__init__" 608,zq "String.__init__" 609,zu 610,zi 149,zi 3,zi 0,zi 0,zi 3,zr 331,.bool true,zi 181,zr 332,.none,zr 333,zr 334,zr 335,zi 614,zi 149,zu 615],
 fnO (meth 20 0) "__init__" "String.__init__" (zr 330) (zq "paperhold.objects" 563) (zr 336),
 zt #[zq "is_hex" 617,zq "octets" 618],
 zk #[en P "__module__" 603 (zq "paperhold.objects" 563),en P "__firstlineno__" 607 (.int (147) 606),en P "__init__" 616 (zr 337),en P "__static_attributes__" 619 (zr 338),en P "__dict__" 621 (zr 341),en P "__weakref__" 623 (zr 342),en P "__doc__" 624 .none] 4,
 ⟨.type "type",none,.cls ⟨"String",[.type "object"],[zr 340,.type "object"],339,"String",true,[],[],false,none,false⟩,#[none,none,some (zq "String" 596),some (zq "String" 604),some (.builtin "object.__new__"),some (.bool true)]⟩,
 ⟨.type "getset_descriptor",none,.fields #[zq "__dict__" 620,zr 340,.builtin "function.__dict__",.builtin "function.__dict__#set"],#[]⟩,
 ⟨.type "getset_descriptor",none,.fields #[zq "__weakref__" 622,zr 340,.builtin "ExceptionGroup.__weakref__",.none],#[]⟩,
 ⟨.type "super",none,.fields #[zr 340,zr 340,zr 340],#[]⟩,
 ⟨.type "builtin_function_or_method",none,.fields #[.builtin "object.__init_subclass__",zr 340],#[]⟩,
 zt #[],
 ⟨.type "builtin_function_or_method",none,.fields #[.builtin "type.__prepare__",.type "type"],#[]⟩,
 zk #[en P "__module__" 634 (zq "paperhold.objects" 563),en P "__qualname__" 636 (zq "Stream" 635),en P "__firstlineno__" 638 (.int (152) 637),en P "__init__" 647 (zr 358),en P "__static_attributes__" 650 (zr 359)] 5,
 zt #[],
 zf #[zi 154,zi 4,zr 357],
 zc #[zq "Stream" 629,zq "Stream" 630,zu 631,zi 152,zi 0,zi 0,zi 0,zi 0,zr 348,.bool false,zi 181,zr 349,.none,.none,.none,.none,zi 632,zi 152,zu 633],
 ⟨.type "frame",none,.plain,#[some (zr 350),some (zr 3),some (zr 347),none,some (zq "paperhold.objects" 563),none,some (zr 0)]⟩,
 zt #[],
 zf #[],
 zt #[zq "self" 642,zq "head" 643,zq "octets" 644],
 zt #[],
 tmO (meth 21 0) "__init__" "Stream.__init__",
 zc #[zq "__init__" 639,zq "Stream.__init__" 640,zu 641,zi 154,zi 3,zi 0,zi 0,zi 3,zr 352,.bool true,zi 181,zr 353,.none,zr 354,zr 355,zr 356,zi 645,zi 154,zu 646],
 fnO (meth 21 0) "__init__" "Stream.__init__" .none (zq "paperhold.objects" 563) (zr 357),
 zt #[zq "head" 648,zq "octets" 649]]
noncomputable def c360(P:Params):List Obj:=[
 zk #[en P "__module__" 634 (zq "paperhold.objects" 563),en P "__firstlineno__" 638 (.int (152) 637),en P "__init__" 647 (zr 358),en P "__static_attributes__" 650 (zr 359),en P "__dict__" 652 (zr 362),en P "__weakref__" 654 (zr 363),en P "__doc__" 655 .none] 4,
 ⟨.type "type",none,.cls ⟨"Stream",[.type "object"],[zr 361,.type "object"],360,"Stream",true,[],[],false,none,false⟩,#[none,none,some (zq "Stream" 627),some (zq "Stream" 635),some (.builtin "object.__new__"),some (.bool true)]⟩,
 ⟨.type "getset_descriptor",none,.fields #[zq "__dict__" 651,zr 361,.builtin "function.__dict__",.builtin "function.__dict__#set"],#[]⟩,
 ⟨.type "getset_descriptor",none,.fields #[zq "__weakref__" 653,zr 361,.builtin "ExceptionGroup.__weakref__",.none],#[]⟩,
 ⟨.type "super",none,.fields #[zr 361,zr 361,zr 361],#[]⟩,
 ⟨.type "builtin_function_or_method",none,.fields #[.builtin "object.__init_subclass__",zr 361],#[]⟩,
 zt #[],
 ⟨.type "builtin_function_or_method",none,.fields #[.builtin "type.__prepare__",.type "type"],#[]⟩,
 zk #[en P "__module__" 665 (zq "paperhold.objects" 563),en P "__qualname__" 667 (zq "Reference" 666),en P "__firstlineno__" 669 (.int (157) 668),en P "__init__" 678 (zr 379),en P "pair" 685 (zr 386),en P "__static_attributes__" 688 (zr 387)] 6,
 zt #[],
 zf #[zi 159,zi 4,zr 378,zi 163,zi 4,zr 385],
 zc #[zq "Reference" 660,zq "Reference" 661,zu 662,zi 157,zi 0,zi 0,zi 0,zi 0,zr 369,.bool false,zi 181,zr 370,.none,.none,.none,.none,zi 663,zi 157,zu 664],
 ⟨.type "frame",none,.plain,#[some (zr 371),some (zr 3),some (zr 368),none,some (zq "paperhold.objects" 563),none,some (zr 0)]⟩,
 zt #[],
 zf #[],
 zt #[zq "self" 673,zq "number" 674,zq "generation" 675],
 zt #[],
 tmO (meth 22 0) "__init__" "Reference.__init__",
 zc #[zq "__init__" 670,zq "Reference.__init__" 671,zu 672,zi 159,zi 3,zi 0,zi 0,zi 3,zr 373,.bool true,zi 181,zr 374,.none,zr 375,zr 376,zr 377,zi 676,zi 159,zu 677],
 fnO (meth 22 0) "__init__" "Reference.__init__" .none (zq "paperhold.objects" 563) (zr 378),
 zt #[],
 zf #[],
 zt #[zq "self" 682],
 zt #[],
 tmO (meth 22 1) "pair" "Reference.pair",
 zc #[zq "pair" 679,zq "Reference.pair" 680,zu 681,zi 163,zi 1,zi 0,zi 0,zi 3,zr 380,.bool true,zi 181,zr 381,.none,zr 382,zr 383,zr 384,zi 683,zi 163,zu 684],
 fnO (meth 22 1) "pair" "Reference.pair" .none (zq "paperhold.objects" 563) (zr 385),
 zt #[zq "generation" 686,zq "number" 687],
 zk #[en P "__module__" 665 (zq "paperhold.objects" 563),en P "__firstlineno__" 669 (.int (157) 668),en P "__init__" 678 (zr 379),en P "pair" 685 (zr 386),en P "__static_attributes__" 688 (zr 387),en P "__dict__" 690 (zr 390),en P "__weakref__" 692 (zr 391),en P "__doc__" 693 .none] 4,
 ⟨.type "type",none,.cls ⟨"Reference",[.type "object"],[zr 389,.type "object"],388,"Reference",true,[],[],false,none,false⟩,#[none,none,some (zq "Reference" 658),some (zq "Reference" 666),some (.builtin "object.__new__"),some (.bool true)]⟩,
 ⟨.type "getset_descriptor",none,.fields #[zq "__dict__" 689,zr 389,.builtin "function.__dict__",.builtin "function.__dict__#set"],#[]⟩,
 ⟨.type "getset_descriptor",none,.fields #[zq "__weakref__" 691,zr 389,.builtin "ExceptionGroup.__weakref__",.none],#[]⟩,
 ⟨.type "super",none,.fields #[zr 389,zr 389,zr 389],#[]⟩,
 ⟨.type "builtin_function_or_method",none,.fields #[.builtin "object.__init_subclass__",zr 389],#[]⟩,
 zt #[],
 zf #[],
 zt #[zq "value" 699],
 zt #[],
 tmO (top 23) "kind_of" "kind_of",
 zc #[zq "kind_of" 696,zq "kind_of" 697,zu 698,zi 165,zi 1,zi 0,zi 0,zi 3,zr 394,.bool true,zi 181,zr 395,.none,zr 396,zr 397,zr 398,zi 700,zi 165,zu 701]]
noncomputable def c400(P:Params):List Obj:=[
 fnO (top 23) "kind_of" "kind_of" .none (zq "paperhold.objects" 563) (zr 399),
 zt #[],
 zf #[],
 zt #[zq "kind" 706,zq "value" 707],
 zt #[],
 tmO (top 24) "told_plain" "told_plain",
 zc #[zq "told_plain" 703,zq "told_plain" 704,zu 705,zi 187,zi 2,zi 0,zi 0,zi 3,zr 401,.bool true,zi 181,zr 402,.none,zr 403,zr 404,zr 405,zi 708,zi 187,zu 709],
 fnO (top 24) "told_plain" "told_plain" .none (zq "paperhold.objects" 563) (zr 406),
 zt #[],
 zf #[],
 tmO (top 25) "told" "told",
 zc #[zq "told" 711,zq "told" 712,zu 713,zi 201,zi 1,zi 0,zi 0,zi 3,zr 408,.bool true,zi 181,zr 409,.none,.none,.none,zr 410,zi 714,zi 201,zu 715],
 fnO (top 25) "told" "told" .none (zq "paperhold.objects" 563) (zr 411),
 zt #[],
 zf #[],
 tmO (top 27) "copied" "copied",
 zc #[zq "copied" 718,zq "copied" 719,zu 720,zi 211,zi 1,zi 0,zi 0,zi 3,zr 413,.bool true,zi 181,zr 414,.none,.none,.none,zr 415,zi 721,zi 211,zu 722],
 fnO (top 27) "copied" "copied" .none (zq "paperhold.objects" 563) (zr 416),
 zt #[],
 zf #[],
 tmO (top 28) "parts_of" "parts_of",
 zc #[zq "parts_of" 724,zq "parts_of" 725,zu 726,zi 220,zi 1,zi 0,zi 0,zi 3,zr 418,.bool true,zi 181,zr 419,.none,.none,.none,zr 420,zi 727,zi 220,zu 728],
 fnO (top 28) "parts_of" "parts_of" .none (zq "paperhold.objects" 563) (zr 421),
 zt #[],
 zf #[],
 zt #[zq "value" 733,zq "deepest" 734,zq "line" 735,zq "here" 736,zq "above" 737,zq "part" 738],
 zt #[],
 tmO (top 29) "depth_of" "depth_of",
 zc #[zq "depth_of" 730,zq "depth_of" 731,zu 732,zi 229,zi 1,zi 0,zi 0,zi 3,zr 423,.bool true,zi 181,zr 424,.none,zr 425,zr 426,zr 427,zi 739,zi 229,zu 740],
 fnO (top 29) "depth_of" "depth_of" .none (zq "paperhold.objects" 563) (zr 428),
 zt #[],
 ⟨.type "builtin_function_or_method",none,.fields #[.builtin "type.__prepare__",.type "type"],#[]⟩,
 zk #[en P "__module__" 749 (zq "paperhold.objects" 563),en P "__qualname__" 751 (zq "Lookup" 750),en P "__firstlineno__" 753 (.int (239) 752),en P "__init__" 762 (zr 444),en P "fetch" 774 (zr 451),en P "get" 783 (zr 458),en P "__static_attributes__" 786 (zr 459)] 7,
 zt #[],
 zf #[zi 241,zi 4,zr 443,zi 245,zi 4,zr 450,zi 256,zi 4,zr 457],
 zc #[zq "Lookup" 744,zq "Lookup" 745,zu 746,zi 239,zi 0,zi 0,zi 0,zi 0,zr 433,.bool false,zi 181,zr 434,.none,.none,.none,.none,zi 747,zi 239,zu 748],
 ⟨.type "frame",none,.plain,#[some (zr 435),some (zr 3),some (zr 432),none,some (zq "paperhold.objects" 563),none,some (zr 0)]⟩,
 zt #[.none,.none],
 zt #[],
 zf #[]]
noncomputable def c440(P:Params):List Obj:=[
 zt #[zq "self" 757,zq "table" 758,zq "trailer" 759],
 zt #[],
 tmO (meth 30 0) "__init__" "Lookup.__init__",
 zc #[zq "__init__" 754,zq "Lookup.__init__" 755,zu 756,zi 241,zi 3,zi 0,zi 0,zi 3,zr 438,.bool true,zi 181,zr 439,.none,zr 440,zr 441,zr 442,zi 760,zi 241,zu 761],
 fnO (meth 30 0) "__init__" "Lookup.__init__" (zr 437) (zq "paperhold.objects" 563) (zr 443),
 zt #[],
 zf #[],
 zt #[zq "self" 766,zq "value" 767,zq "here" 768,zq "hop" 769,zq "generation" 770,zq "found" 771],
 zt #[],
 tmO (meth 30 1) "fetch" "Lookup.fetch",
 zc #[zq "fetch" 763,zq "Lookup.fetch" 764,zu 765,zi 245,zi 2,zi 0,zi 0,zi 3,zr 445,.bool true,zi 181,zr 446,.none,zr 447,zr 448,zr 449,zi 772,zi 245,zu 773],
 fnO (meth 30 1) "fetch" "Lookup.fetch" .none (zq "paperhold.objects" 563) (zr 450),
 zt #[],
 zf #[],
 zt #[zq "self" 778,zq "head" 779,zq "key" 780],
 zt #[],
 tmO (meth 30 2) "get" "Lookup.get",
 zc #[zq "get" 775,zq "Lookup.get" 776,zu 777,zi 256,zi 3,zi 0,zi 0,zi 3,zr 452,.bool true,zi 181,zr 453,.none,zr 454,zr 455,zr 456,zi 781,zi 256,zu 782],
 fnO (meth 30 2) "get" "Lookup.get" .none (zq "paperhold.objects" 563) (zr 457),
 zt #[zq "table" 784,zq "trailer" 785],
 zk #[en P "__module__" 749 (zq "paperhold.objects" 563),en P "__firstlineno__" 753 (.int (239) 752),en P "__init__" 762 (zr 444),en P "fetch" 774 (zr 451),en P "get" 783 (zr 458),en P "__static_attributes__" 786 (zr 459),en P "__dict__" 788 (zr 462),en P "__weakref__" 790 (zr 463),en P "__doc__" 791 .none] 4,
 ⟨.type "type",none,.cls ⟨"Lookup",[.type "object"],[zr 461,.type "object"],460,"Lookup",true,[],[zr 515],false,none,false⟩,#[none,none,some (zq "Lookup" 742),some (zq "Lookup" 750),some (.builtin "object.__new__"),some (.bool true)]⟩,
 ⟨.type "getset_descriptor",none,.fields #[zq "__dict__" 787,zr 461,.builtin "function.__dict__",.builtin "function.__dict__#set"],#[]⟩,
 ⟨.type "getset_descriptor",none,.fields #[zq "__weakref__" 789,zr 461,.builtin "ExceptionGroup.__weakref__",.none],#[]⟩,
 ⟨.type "super",none,.fields #[zr 461,zr 461,zr 461],#[]⟩,
 ⟨.type "builtin_function_or_method",none,.fields #[.builtin "object.__init_subclass__",zr 461],#[]⟩,
 zt #[zr 461],
 ⟨.type "builtin_function_or_method",none,.fields #[.builtin "type.__prepare__",.type "type"],#[]⟩,
 zk #[en P "__module__" 801 (zq "paperhold.objects" 563),en P "__qualname__" 803 (zq "Shelf" 802),en P "__firstlineno__" 805 (.int (258) 804),en P "put" 815 (zr 479),en P "add" 823 (zr 486),en P "drop" 831 (zr 493),en P "numbers" 838 (zr 500),en P "root" 845 (zr 507),en P "told" 851 (zr 512),en P "__static_attributes__" 852 (zr 513)] 10,
 zt #[],
 zf #[zi 260,zi 4,zr 478,zi 263,zi 4,zr 485,zi 266,zi 4,zr 492,zi 269,zi 4,zr 499,zi 272,zi 4,zr 506,zi 275,zi 4,zr 511],
 zc #[zq "Shelf" 796,zq "Shelf" 797,zu 798,zi 258,zi 0,zi 0,zi 0,zi 0,zr 469,.bool false,zi 181,zr 470,.none,.none,.none,.none,zi 799,zi 258,zu 800],
 ⟨.type "frame",none,.plain,#[some (zr 471),some (zr 3),some (zr 468),none,some (zq "paperhold.objects" 563),none,some (zr 0)]⟩,
 zt #[],
 zf #[],
 zt #[zq "self" 809,zq "number" 810,zq "generation" 811,zq "value" 812],
 zt #[],
 tmO (meth 31 0) "put" "Shelf.put",
 zc #[zq "put" 806,zq "Shelf.put" 807,zu 808,zi 260,zi 4,zi 0,zi 0,zi 3,zr 473,.bool true,zi 181,zr 474,.none,zr 475,zr 476,zr 477,zi 813,zi 260,zu 814],
 fnO (meth 31 0) "put" "Shelf.put" .none (zq "paperhold.objects" 563) (zr 478)]
noncomputable def c480(P:Params):List Obj:=[
 zt #[],
 zf #[],
 zt #[zq "self" 819,zq "value" 820],
 zt #[],
 tmO (meth 31 1) "add" "Shelf.add",
 zc #[zq "add" 816,zq "Shelf.add" 817,zu 818,zi 263,zi 2,zi 0,zi 0,zi 3,zr 480,.bool true,zi 181,zr 481,.none,zr 482,zr 483,zr 484,zi 821,zi 263,zu 822],
 fnO (meth 31 1) "add" "Shelf.add" .none (zq "paperhold.objects" 563) (zr 485),
 zt #[],
 zf #[],
 zt #[zq "self" 827,zq "number" 828],
 zt #[],
 tmO (meth 31 2) "drop" "Shelf.drop",
 zc #[zq "drop" 824,zq "Shelf.drop" 825,zu 826,zi 266,zi 2,zi 0,zi 0,zi 3,zr 487,.bool true,zi 181,zr 488,.none,zr 489,zr 490,zr 491,zi 829,zi 266,zu 830],
 fnO (meth 31 2) "drop" "Shelf.drop" .none (zq "paperhold.objects" 563) (zr 492),
 zt #[],
 zf #[],
 zt #[zq "self" 835],
 zt #[],
 tmO (meth 31 3) "numbers" "Shelf.numbers",
 zc #[zq "numbers" 832,zq "Shelf.numbers" 833,zu 834,zi 269,zi 1,zi 0,zi 0,zi 3,zr 494,.bool true,zi 181,zr 495,.none,zr 496,zr 497,zr 498,zi 836,zi 269,zu 837],
 fnO (meth 31 3) "numbers" "Shelf.numbers" .none (zq "paperhold.objects" 563) (zr 499),
 zt #[],
 zf #[],
 zt #[zq "self" 842],
 zt #[],
 tmO (meth 31 4) "root" "Shelf.root",
 zc #[zq "root" 839,zq "Shelf.root" 840,zu 841,zi 272,zi 1,zi 0,zi 0,zi 3,zr 501,.bool true,zi 181,zr 502,.none,zr 503,zr 504,zr 505,zi 843,zi 272,zu 844],
 fnO (meth 31 4) "root" "Shelf.root" .none (zq "paperhold.objects" 563) (zr 506),
 zt #[],
 zf #[],
 tmO (meth 31 5) "told" "Shelf.told",
 zc #[zq "told" 846,zq "Shelf.told" 847,zu 848,zi 275,zi 1,zi 0,zi 0,zi 3,zr 508,.bool true,zi 181,zr 509,.none,.none,.none,zr 510,zi 849,zi 275,zu 850],
 fnO (meth 31 5) "told" "Shelf.told" .none (zq "paperhold.objects" 563) (zr 511),
 zt #[],
 zk #[en P "__module__" 801 (zq "paperhold.objects" 563),en P "__firstlineno__" 805 (.int (258) 804),en P "put" 815 (zr 479),en P "add" 823 (zr 486),en P "drop" 831 (zr 493),en P "numbers" 838 (zr 500),en P "root" 845 (zr 507),en P "told" 851 (zr 512),en P "__static_attributes__" 852 (zr 513),en P "__doc__" 853 .none] 2,
 ⟨.type "type",none,.cls ⟨"Shelf",[zr 461],[zr 515,zr 461,.type "object"],514,"Shelf",true,[],[],false,none,false⟩,#[some (zr 466),none,some (zq "Shelf" 794),some (zq "Shelf" 802),some (.builtin "object.__new__"),some (.bool true)]⟩,
 ⟨.type "super",none,.fields #[zr 515,zr 515,zr 515],#[]⟩,
 ⟨.type "builtin_function_or_method",none,.fields #[.builtin "object.__init_subclass__",zr 515],#[]⟩,
 zt #[],
 zf #[]]
noncomputable def c520(P:Params):List Obj:=[
 tmO (top 41) "text_octets" "text_octets",
 zc #[zq "text_octets" 874,zq "text_octets" 875,zu 876,zi 287,zi 1,zi 0,zi 0,zi 3,zr 518,.bool true,zi 181,zr 519,.none,.none,.none,zr 520,zi 877,zi 287,zu 878],
 fnO (top 41) "text_octets" "text_octets" .none (zq "paperhold.writer" 856) (zr 521),
 zt #[],
 zf #[],
 zt #[zq "code" 883],
 zt #[],
 tmO (top 42) "hex_pair" "hex_pair",
 zc #[zq "hex_pair" 880,zq "hex_pair" 881,zu 882,zi 289,zi 1,zi 0,zi 0,zi 3,zr 523,.bool true,zi 181,zr 524,.none,zr 525,zr 526,zr 527,zi 884,zi 289,zu 885],
 fnO (top 42) "hex_pair" "hex_pair" .none (zq "paperhold.writer" 856) (zr 528),
 zt #[],
 zf #[],
 zt #[zq "text" 890,zq "found" 891,zq "sign" 892,zq "code" 893],
 zt #[],
 tmO (top 43) "name_octets" "name_octets",
 zc #[zq "name_octets" 887,zq "name_octets" 888,zu 889,zi 291,zi 1,zi 0,zi 0,zi 3,zr 530,.bool true,zi 181,zr 531,.none,zr 532,zr 533,zr 534,zi 894,zi 291,zu 895],
 fnO (top 43) "name_octets" "name_octets" .none (zq "paperhold.writer" 856) (zr 535),
 zt #[],
 zf #[],
 zt #[zq "number" 900],
 zt #[],
 tmO (top 44) "whole_octets" "whole_octets",
 zc #[zq "whole_octets" 897,zq "whole_octets" 898,zu 899,zi 303,zi 1,zi 0,zi 0,zi 3,zr 537,.bool true,zi 181,zr 538,.none,zr 539,zr 540,zr 541,zi 901,zi 303,zu 902],
 fnO (top 44) "whole_octets" "whole_octets" .none (zq "paperhold.writer" 856) (zr 542),
 zt #[],
 zf #[],
 tmO (top 45) "decimal_octets" "decimal_octets",
 zc #[zq "decimal_octets" 904,zq "decimal_octets" 905,zu 906,zi 307,zi 2,zi 0,zi 0,zi 3,zr 544,.bool true,zi 181,zr 545,.none,.none,.none,zr 546,zi 907,zi 307,zu 908],
 fnO (top 45) "decimal_octets" "decimal_octets" .none (zq "paperhold.writer" 856) (zr 547),
 zt #[],
 zf #[],
 zt #[zq "octets" 913,zq "open_ones" 914,zq "lone" 915,zq "at" 916],
 zt #[],
 tmO (top 46) "lone_brackets" "lone_brackets",
 zc #[zq "lone_brackets" 910,zq "lone_brackets" 911,zu 912,zi 317,zi 1,zi 0,zi 0,zi 3,zr 549,.bool true,zi 181,zr 550,.none,zr 551,zr 552,zr 553,zi 917,zi 317,zu 918],
 fnO (top 46) "lone_brackets" "lone_brackets" .none (zq "paperhold.writer" 856) (zr 554),
 zt #[],
 zf #[],
 zt #[zq "octets" 923,zq "lone" 924,zq "found" 925,zq "at" 926,zq "code" 927],
 zt #[]]
noncomputable def c560(P:Params):List Obj:=[
 tmO (top 47) "literal_octets" "literal_octets",
 zc #[zq "literal_octets" 920,zq "literal_octets" 921,zu 922,zi 331,zi 1,zi 0,zi 0,zi 3,zr 556,.bool true,zi 181,zr 557,.none,zr 558,zr 559,zr 560,zi 928,zi 331,zu 929],
 fnO (top 47) "literal_octets" "literal_octets" .none (zq "paperhold.writer" 856) (zr 561),
 zt #[],
 zf #[],
 zt #[zq "octets" 934,zq "found" 935,zq "code" 936],
 zt #[],
 tmO (top 48) "hex_octets" "hex_octets",
 zc #[zq "hex_octets" 931,zq "hex_octets" 932,zu 933,zi 344,zi 1,zi 0,zi 0,zi 3,zr 563,.bool true,zi 181,zr 564,.none,zr 565,zr 566,zr 567,zi 937,zi 344,zu 938],
 fnO (top 48) "hex_octets" "hex_octets" .none (zq "paperhold.writer" 856) (zr 568),
 zt #[],
 zf #[],
 zt #[zq "value" 943,zq "is_least" 944,zq "rounded_form" 945,zq "angled_form" 946],
 zt #[],
 tmO (top 49) "string_octets" "string_octets",
 zc #[zq "string_octets" 940,zq "string_octets" 941,zu 942,zi 350,zi 2,zi 0,zi 0,zi 3,zr 570,.bool true,zi 181,zr 571,.none,zr 572,zr 573,zr 574,zi 947,zi 350,zu 948],
 fnO (top 49) "string_octets" "string_octets" .none (zq "paperhold.writer" 856) (zr 575),
 zt #[],
 zf #[],
 zt #[zq "kind" 953,zq "value" 954,zq "is_least" 955],
 zt #[],
 tmO (top 50) "plain_part" "plain_part",
 zc #[zq "plain_part" 950,zq "plain_part" 951,zu 952,zi 356,zi 3,zi 0,zi 0,zi 3,zr 577,.bool true,zi 181,zr 578,.none,zr 579,zr 580,zr 581,zi 956,zi 356,zu 957],
 fnO (top 50) "plain_part" "plain_part" .none (zq "paperhold.writer" 856) (zr 582),
 zt #[],
 zf #[],
 zt #[zq "parts" 962,zq "value" 963],
 zt #[],
 tmO (top 51) "lay_reference" "lay_reference",
 zc #[zq "lay_reference" 959,zq "lay_reference" 960,zu 961,zi 370,zi 2,zi 0,zi 0,zi 3,zr 584,.bool true,zi 181,zr 585,.none,zr 586,zr 587,zr 588,zi 964,zi 370,zu 965],
 fnO (top 51) "lay_reference" "lay_reference" .none (zq "paperhold.writer" 856) (zr 589),
 zt #[],
 zf #[],
 zt #[zq "parts" 970,zq "value" 971,zq "is_least" 972,zq "key" 973],
 zt #[],
 tmO (top 52) "lay_dict" "lay_dict",
 zc #[zq "lay_dict" 967,zq "lay_dict" 968,zu 969,zi 376,zi 3,zi 0,zi 0,zi 3,zr 591,.bool true,zi 181,zr 592,.none,zr 593,zr 594,zr 595,zi 974,zi 376,zu 975],
 fnO (top 52) "lay_dict" "lay_dict" .none (zq "paperhold.writer" 856) (zr 596),
 zt #[],
 zf #[]]
noncomputable def c600(P:Params):List Obj:=[
 zt #[zq "parts" 980,zq "value" 981,zq "is_least" 982,zq "kind" 983,zq "part" 984],
 zt #[],
 tmO (top 53) "lay_parts" "lay_parts",
 zc #[zq "lay_parts" 977,zq "lay_parts" 978,zu 979,zi 383,zi 3,zi 0,zi 0,zi 3,zr 598,.bool true,zi 181,zr 599,.none,zr 600,zr 601,zr 602,zi 985,zi 383,zu 986],
 fnO (top 53) "lay_parts" "lay_parts" .none (zq "paperhold.writer" 856) (zr 603),
 zt #[],
 zf #[],
 zt #[zq "before" 991,zq "behind" 992],
 zt #[],
 tmO (top 54) "run_together" "run_together",
 zc #[zq "run_together" 988,zq "run_together" 989,zu 990,zi 396,zi 2,zi 0,zi 0,zi 3,zr 605,.bool true,zi 181,zr 606,.none,zr 607,zr 608,zr 609,zi 993,zi 396,zu 994],
 fnO (top 54) "run_together" "run_together" .none (zq "paperhold.writer" 856) (zr 610),
 zt #[],
 zf #[],
 zt #[zq "parts" 999,zq "is_least" 1000,zq "found" 1001,zq "at" 1002],
 zt #[],
 tmO (top 55) "joined_parts" "joined_parts",
 zc #[zq "joined_parts" 996,zq "joined_parts" 997,zu 998,zi 398,zi 2,zi 0,zi 0,zi 3,zr 612,.bool true,zi 181,zr 613,.none,zr 614,zr 615,zr 616,zi 1003,zi 398,zu 1004],
 fnO (top 55) "joined_parts" "joined_parts" .none (zq "paperhold.writer" 856) (zr 617),
 zt #[],
 zf #[],
 zt #[zq "value" 1009,zq "head" 1010,zq "key" 1011],
 zt #[],
 tmO (top 56) "stream_head" "stream_head",
 zc #[zq "stream_head" 1006,zq "stream_head" 1007,zu 1008,zi 407,zi 1,zi 0,zi 0,zi 3,zr 619,.bool true,zi 181,zr 620,.none,zr 621,zr 622,zr 623,zi 1012,zi 407,zu 1013],
 fnO (top 56) "stream_head" "stream_head" .none (zq "paperhold.writer" 856) (zr 624),
 zt #[],
 zf #[],
 zt #[zq "value" 1018,zq "is_least" 1019,zq "parts" 1020,zq "between" 1021],
 zt #[],
 tmO (top 57) "write_object" "write_object",
 zc #[zq "write_object" 1015,zq "write_object" 1016,zu 1017,zi 413,zi 2,zi 0,zi 0,zi 3,zr 626,.bool true,zi 181,zr 627,.none,zr 628,zr 629,zr 630,zi 1022,zi 413,zu 1023],
 fnO (top 57) "write_object" "write_object" .none (zq "paperhold.writer" 856) (zr 631),
 zt #[],
 zf #[],
 zt #[zq "number" 1028,zq "generation" 1029,zq "value" 1030,zq "is_least" 1031,zq "opening" 1032],
 zt #[],
 tmO (top 58) "write_indirect" "write_indirect",
 zc #[zq "write_indirect" 1025,zq "write_indirect" 1026,zu 1027,zi 423,zi 4,zi 0,zi 0,zi 3,zr 633,.bool true,zi 181,zr 634,.none,zr 635,zr 636,zr 637,zi 1033,zi 423,zu 1034],
 fnO (top 58) "write_indirect" "write_indirect" .none (zq "paperhold.writer" 856) (zr 638)]
noncomputable def c640(P:Params):List Obj:=[
 zt #[],
 ⟨.type "builtin_function_or_method",none,.fields #[.builtin "type.__prepare__",.type "type"],#[]⟩,
 zk #[en P "__module__" 1049 (zq "paperhold.cross" 1036),en P "__qualname__" 1051 (zq "Entry" 1050),en P "__firstlineno__" 1053 (.int (431) 1052),en P "__init__" 1063 (zr 653),en P "told" 1070 (zr 660),en P "__static_attributes__" 1074 (zr 661)] 6,
 zt #[],
 zf #[zi 433,zi 4,zr 652,zi 438,zi 4,zr 659],
 zc #[zq "Entry" 1044,zq "Entry" 1045,zu 1046,zi 431,zi 0,zi 0,zi 0,zi 0,zr 643,.bool false,zi 181,zr 644,.none,.none,.none,.none,zi 1047,zi 431,zu 1048],
 ⟨.type "frame",none,.plain,#[some (zr 645),some (zr 3),some (zr 642),none,some (zq "paperhold.cross" 1036),none,some (zr 0)]⟩,
 zt #[],
 zf #[],
 zt #[zq "self" 1057,zq "way" 1058,zq "one" 1059,zq "two" 1060],
 zt #[],
 tmO (meth 62 0) "__init__" "Entry.__init__",
 zc #[zq "__init__" 1054,zq "Entry.__init__" 1055,zu 1056,zi 433,zi 4,zi 0,zi 0,zi 3,zr 647,.bool true,zi 181,zr 648,.none,zr 649,zr 650,zr 651,zi 1061,zi 433,zu 1062],
 fnO (meth 62 0) "__init__" "Entry.__init__" .none (zq "paperhold.cross" 1036) (zr 652),
 zt #[],
 zf #[],
 zt #[zq "self" 1067],
 zt #[],
 tmO (meth 62 1) "told" "Entry.told",
 zc #[zq "told" 1064,zq "Entry.told" 1065,zu 1066,zi 438,zi 1,zi 0,zi 0,zi 3,zr 654,.bool true,zi 181,zr 655,.none,zr 656,zr 657,zr 658,zi 1068,zi 438,zu 1069],
 fnO (meth 62 1) "told" "Entry.told" .none (zq "paperhold.cross" 1036) (zr 659),
 zt #[zq "one" 1071,zq "two" 1072,zq "way" 1073],
 zk #[en P "__module__" 1049 (zq "paperhold.cross" 1036),en P "__firstlineno__" 1053 (.int (431) 1052),en P "__init__" 1063 (zr 653),en P "told" 1070 (zr 660),en P "__static_attributes__" 1074 (zr 661),en P "__dict__" 1076 (zr 664),en P "__weakref__" 1078 (zr 665),en P "__doc__" 1079 .none] 4,
 ⟨.type "type",none,.cls ⟨"Entry",[.type "object"],[zr 663,.type "object"],662,"Entry",true,[],[],false,none,false⟩,#[none,none,some (zq "Entry" 1042),some (zq "Entry" 1050),some (.builtin "object.__new__"),some (.bool true)]⟩,
 ⟨.type "getset_descriptor",none,.fields #[zq "__dict__" 1075,zr 663,.builtin "function.__dict__",.builtin "function.__dict__#set"],#[]⟩,
 ⟨.type "getset_descriptor",none,.fields #[zq "__weakref__" 1077,zr 663,.builtin "ExceptionGroup.__weakref__",.none],#[]⟩,
 ⟨.type "super",none,.fields #[zr 663,zr 663,zr 663],#[]⟩,
 ⟨.type "builtin_function_or_method",none,.fields #[.builtin "object.__init_subclass__",zr 663],#[]⟩,
 zt #[],
 zf #[],
 zt #[zq "numbers" 1085,zq "runs" 1086,zq "number" 1087],
 zt #[],
 tmO (top 63) "runs_of" "runs_of",
 zc #[zq "runs_of" 1082,zq "runs_of" 1083,zu 1084,zi 440,zi 1,zi 0,zi 0,zi 3,zr 668,.bool true,zi 181,zr 669,.none,zr 670,zr 671,zr 672,zi 1088,zi 440,zu 1089],
 fnO (top 63) "runs_of" "runs_of" .none (zq "paperhold.cross" 1036) (zr 673),
 zt #[],
 zf #[],
 zt #[zq "number" 1094,zq "count" 1095],
 zt #[],
 tmO (top 64) "figures" "figures"]
noncomputable def c680(P:Params):List Obj:=[
 zc #[zq "figures" 1091,zq "figures" 1092,zu 1093,zi 448,zi 2,zi 0,zi 0,zi 3,zr 675,.bool true,zi 181,zr 676,.none,zr 677,zr 678,zr 679,zi 1096,zi 448,zu 1097],
 fnO (top 64) "figures" "figures" .none (zq "paperhold.cross" 1036) (zr 680),
 zt #[],
 zf #[],
 zt #[zq "entry" 1102],
 zt #[],
 tmO (top 65) "entry_line" "entry_line",
 zc #[zq "entry_line" 1099,zq "entry_line" 1100,zu 1101,zi 450,zi 1,zi 0,zi 0,zi 3,zr 682,.bool true,zi 181,zr 683,.none,zr 684,zr 685,zr 686,zi 1103,zi 450,zu 1104],
 fnO (top 65) "entry_line" "entry_line" .none (zq "paperhold.cross" 1036) (zr 687),
 zt #[],
 zf #[],
 zt #[zq "entries" 1109,zq "trailer" 1110,zq "parts" 1111,zq "first" 1112,zq "count" 1113,zq "number" 1114],
 zt #[],
 tmO (top 66) "write_classic" "write_classic",
 zc #[zq "write_classic" 1106,zq "write_classic" 1107,zu 1108,zi 456,zi 2,zi 0,zi 0,zi 3,zr 689,.bool true,zi 181,zr 690,.none,zr 691,zr 692,zr 693,zi 1115,zi 456,zu 1116],
 fnO (top 66) "write_classic" "write_classic" .none (zq "paperhold.cross" 1036) (zr 694),
 zt #[],
 zf #[],
 tmO (top 67) "free_chain" "free_chain",
 zc #[zq "free_chain" 1118,zq "free_chain" 1119,zu 1120,zi 464,zi 2,zi 0,zi 0,zi 3,zr 696,.bool true,zi 181,zr 697,.none,.none,.none,zr 698,zi 1121,zi 464,zu 1122],
 fnO (top 67) "free_chain" "free_chain" .none (zq "paperhold.cross" 1036) (zr 699),
 zt #[],
 zf #[],
 zt #[zq "offset" 1127],
 zt #[],
 tmO (top 68) "tail" "tail",
 zc #[zq "tail" 1124,zq "tail" 1125,zu 1126,zi 471,zi 1,zi 0,zi 0,zi 3,zr 701,.bool true,zi 181,zr 702,.none,zr 703,zr 704,zr 705,zi 1128,zi 471,zu 1129],
 fnO (top 68) "tail" "tail" .none (zq "paperhold.cross" 1036) (zr 706),
 zt #[],
 zf #[],
 zt #[zq "entries" 1138,zq "size" 1139,zq "found" 1140,zq "number" 1141],
 zt #[],
 tmO (top 71) "next_generations" "next_generations",
 zc #[zq "next_generations" 1135,zq "next_generations" 1136,zu 1137,zi 475,zi 2,zi 0,zi 0,zi 3,zr 708,.bool true,zi 181,zr 709,.none,zr 710,zr 711,zr 712,zi 1142,zi 475,zu 1143],
 fnO (top 71) "next_generations" "next_generations" .none (zq "paperhold.revisions" 1131) (zr 713),
 zt #[],
 zf #[],
 zt #[zq "entries" 1148,zq "found" 1149,zq "number" 1150],
 zt #[],
 tmO (top 72) "generations_used" "generations_used"]
noncomputable def c720(P:Params):List Obj:=[
 zc #[zq "generations_used" 1145,zq "generations_used" 1146,zu 1147,zi 483,zi 1,zi 0,zi 0,zi 3,zr 715,.bool true,zi 181,zr 716,.none,zr 717,zr 718,zr 719,zi 1151,zi 483,zu 1152],
 fnO (top 72) "generations_used" "generations_used" .none (zq "paperhold.revisions" 1131) (zr 720),
 zt #[],
 zf #[],
 zt #[zq "entries" 1157,zq "found" 1158,zq "number" 1159],
 zt #[],
 tmO (top 73) "holders_of" "holders_of",
 zc #[zq "holders_of" 1154,zq "holders_of" 1155,zu 1156,zi 489,zi 1,zi 0,zi 0,zi 3,zr 722,.bool true,zi 181,zr 723,.none,zr 724,zr 725,zr 726,zi 1160,zi 489,zu 1161],
 fnO (top 73) "holders_of" "holders_of" .none (zq "paperhold.revisions" 1131) (zr 727),
 zt #[],
 zf #[],
 tmO (top 74) "free_entries" "free_entries",
 zc #[zq "free_entries" 1163,zq "free_entries" 1164,zu 1165,zi 495,zi 1,zi 0,zi 0,zi 3,zr 729,.bool true,zi 181,zr 730,.none,.none,.none,zr 731,zi 1166,zi 495,zu 1167],
 fnO (top 74) "free_entries" "free_entries" .none (zq "paperhold.revisions" 1131) (zr 732),
 zt #[],
 ⟨.type "builtin_function_or_method",none,.fields #[.builtin "type.__prepare__",.type "type"],#[]⟩,
 zk #[en P "__module__" 1176 (zq "paperhold.revisions" 1131),en P "__qualname__" 1178 (zq "Changes" 1177),en P "__firstlineno__" 1180 (.int (502) 1179),en P "__init__" 1189 (zr 747),en P "is_changed" 1196 (zr 754),en P "size" 1202 (zr 759),en P "generation_for" 1210 (zr 766),en P "need_no_holder" 1218 (zr 773),en P "lay" 1230 (zr 780),en P "put" 1239 (zr 787),en P "add" 1247 (zr 794),en P "free" 1255 (zr 801),en P "reference" 1263 (zr 808),en P "new_entries" 1274 (zr 815),en P "__static_attributes__" 1282 (zr 816)] 15,
 zt #[],
 zf #[zi 504,zi 4,zr 746,zi 513,zi 4,zr 753,zi 516,zi 4,zr 758,zi 519,zi 4,zr 765,zi 522,zi 4,zr 772,zi 528,zi 4,zr 779,zi 539,zi 4,zr 786,zi 542,zi 4,zr 793,zi 545,zi 4,zr 800,zi 553,zi 4,zr 807,zi 558,zi 4,zr 814],
 zc #[zq "Changes" 1171,zq "Changes" 1172,zu 1173,zi 502,zi 0,zi 0,zi 0,zi 0,zr 737,.bool false,zi 181,zr 738,.none,.none,.none,.none,zi 1174,zi 502,zu 1175],
 ⟨.type "frame",none,.plain,#[some (zr 739),some (zr 3),some (zr 736),none,some (zq "paperhold.revisions" 1131),none,some (zr 0)]⟩,
 zt #[],
 zf #[],
 zt #[zq "self" 1184,zq "entries" 1185,zq "size" 1186],
 zt #[],
 tmO (meth 75 0) "__init__" "Changes.__init__",
 zc #[zq "__init__" 1181,zq "Changes.__init__" 1182,zu 1183,zi 504,zi 3,zi 0,zi 0,zi 3,zr 741,.bool true,zi 181,zr 742,.none,zr 743,zr 744,zr 745,zi 1187,zi 504,zu 1188],
 fnO (meth 75 0) "__init__" "Changes.__init__" .none (zq "paperhold.revisions" 1131) (zr 746),
 zt #[],
 zf #[],
 zt #[zq "self" 1193],
 zt #[],
 tmO (meth 75 1) "is_changed" "Changes.is_changed",
 zc #[zq "is_changed" 1190,zq "Changes.is_changed" 1191,zu 1192,zi 513,zi 1,zi 0,zi 0,zi 3,zr 748,.bool true,zi 181,zr 749,.none,zr 750,zr 751,zr 752,zi 1194,zi 513,zu 1195],
 fnO (meth 75 1) "is_changed" "Changes.is_changed" .none (zq "paperhold.revisions" 1131) (zr 753),
 zt #[],
 zf #[],
 tmO (meth 75 2) "size" "Changes.size",
 zc #[zq "size" 1197,zq "Changes.size" 1198,zu 1199,zi 516,zi 1,zi 0,zi 0,zi 3,zr 755,.bool true,zi 181,zr 756,.none,.none,.none,zr 757,zi 1200,zi 516,zu 1201],
 fnO (meth 75 2) "size" "Changes.size" .none (zq "paperhold.revisions" 1131) (zr 758)]
noncomputable def c760(P:Params):List Obj:=[
 zt #[],
 zf #[],
 zt #[zq "self" 1206,zq "number" 1207],
 zt #[],
 tmO (meth 75 3) "generation_for" "Changes.generation_for",
 zc #[zq "generation_for" 1203,zq "Changes.generation_for" 1204,zu 1205,zi 519,zi 2,zi 0,zi 0,zi 3,zr 760,.bool true,zi 181,zr 761,.none,zr 762,zr 763,zr 764,zi 1208,zi 519,zu 1209],
 fnO (meth 75 3) "generation_for" "Changes.generation_for" .none (zq "paperhold.revisions" 1131) (zr 765),
 zt #[],
 zf #[],
 zt #[zq "self" 1214,zq "number" 1215],
 zt #[],
 tmO (meth 75 4) "need_no_holder" "Changes.need_no_holder",
 zc #[zq "need_no_holder" 1211,zq "Changes.need_no_holder" 1212,zu 1213,zi 522,zi 2,zi 0,zi 0,zi 3,zr 767,.bool true,zi 181,zr 768,.none,zr 769,zr 770,zr 771,zi 1216,zi 522,zu 1217],
 fnO (meth 75 4) "need_no_holder" "Changes.need_no_holder" .none (zq "paperhold.revisions" 1131) (zr 772),
 zt #[],
 zf #[],
 zt #[zq "self" 1222,zq "number" 1223,zq "generation" 1224,zq "value" 1225,zq "kept" 1226,zq "between" 1227],
 zt #[],
 tmO (meth 75 5) "lay" "Changes.lay",
 zc #[zq "lay" 1219,zq "Changes.lay" 1220,zu 1221,zi 528,zi 4,zi 0,zi 0,zi 3,zr 774,.bool true,zi 181,zr 775,.none,zr 776,zr 777,zr 778,zi 1228,zi 528,zu 1229],
 fnO (meth 75 5) "lay" "Changes.lay" .none (zq "paperhold.revisions" 1131) (zr 779),
 zt #[],
 zf #[],
 zt #[zq "self" 1234,zq "number" 1235,zq "value" 1236],
 zt #[],
 tmO (meth 75 6) "put" "Changes.put",
 zc #[zq "put" 1231,zq "Changes.put" 1232,zu 1233,zi 539,zi 3,zi 0,zi 0,zi 3,zr 781,.bool true,zi 181,zr 782,.none,zr 783,zr 784,zr 785,zi 1237,zi 539,zu 1238],
 fnO (meth 75 6) "put" "Changes.put" .none (zq "paperhold.revisions" 1131) (zr 786),
 zt #[],
 zf #[],
 zt #[zq "self" 1243,zq "value" 1244],
 zt #[],
 tmO (meth 75 7) "add" "Changes.add",
 zc #[zq "add" 1240,zq "Changes.add" 1241,zu 1242,zi 542,zi 2,zi 0,zi 0,zi 3,zr 788,.bool true,zi 181,zr 789,.none,zr 790,zr 791,zr 792,zi 1245,zi 542,zu 1246],
 fnO (meth 75 7) "add" "Changes.add" .none (zq "paperhold.revisions" 1131) (zr 793),
 zt #[],
 zf #[],
 zt #[zq "self" 1251,zq "number" 1252],
 zt #[],
 tmO (meth 75 8) "free" "Changes.free"]
noncomputable def c800(P:Params):List Obj:=[
 zc #[zq "free" 1248,zq "Changes.free" 1249,zu 1250,zi 545,zi 2,zi 0,zi 0,zi 3,zr 795,.bool true,zi 181,zr 796,.none,zr 797,zr 798,zr 799,zi 1253,zi 545,zu 1254],
 fnO (meth 75 8) "free" "Changes.free" .none (zq "paperhold.revisions" 1131) (zr 800),
 zt #[],
 zf #[],
 zt #[zq "self" 1259,zq "number" 1260],
 zt #[],
 tmO (meth 75 9) "reference" "Changes.reference",
 zc #[zq "reference" 1256,zq "Changes.reference" 1257,zu 1258,zi 553,zi 2,zi 0,zi 0,zi 3,zr 802,.bool true,zi 181,zr 803,.none,zr 804,zr 805,zr 806,zi 1261,zi 553,zu 1262],
 fnO (meth 75 9) "reference" "Changes.reference" .none (zq "paperhold.revisions" 1131) (zr 807),
 zt #[],
 zf #[],
 zt #[zq "self" 1267,zq "laid" 1268,zq "found" 1269,zq "free" 1270,zq "number" 1271],
 zt #[],
 tmO (meth 75 10) "new_entries" "Changes.new_entries",
 zc #[zq "new_entries" 1264,zq "Changes.new_entries" 1265,zu 1266,zi 558,zi 2,zi 0,zi 0,zi 3,zr 809,.bool true,zi 181,zr 810,.none,zr 811,zr 812,zr 813,zi 1272,zi 558,zu 1273],
 fnO (meth 75 10) "new_entries" "Changes.new_entries" .none (zq "paperhold.revisions" 1131) (zr 814),
 zt #[zq "first_size" 1275,zq "freed" 1276,zq "holders" 1277,zq "objects" 1278,zq "spare" 1279,zq "used" 1280,zq "was_spare" 1281],
 zk #[en P "__module__" 1176 (zq "paperhold.revisions" 1131),en P "__firstlineno__" 1180 (.int (502) 1179),en P "__init__" 1189 (zr 747),en P "is_changed" 1196 (zr 754),en P "size" 1202 (zr 759),en P "generation_for" 1210 (zr 766),en P "need_no_holder" 1218 (zr 773),en P "lay" 1230 (zr 780),en P "put" 1239 (zr 787),en P "add" 1247 (zr 794),en P "free" 1255 (zr 801),en P "reference" 1263 (zr 808),en P "new_entries" 1274 (zr 815),en P "__static_attributes__" 1282 (zr 816),en P "__dict__" 1284 (zr 819),en P "__weakref__" 1286 (zr 820),en P "__doc__" 1287 .none] 4,
 ⟨.type "type",none,.cls ⟨"Changes",[.type "object"],[zr 818,.type "object"],817,"Changes",true,[],[],false,none,false⟩,#[none,none,some (zq "Changes" 1169),some (zq "Changes" 1177),some (.builtin "object.__new__"),some (.bool true)]⟩,
 ⟨.type "getset_descriptor",none,.fields #[zq "__dict__" 1283,zr 818,.builtin "function.__dict__",.builtin "function.__dict__#set"],#[]⟩,
 ⟨.type "getset_descriptor",none,.fields #[zq "__weakref__" 1285,zr 818,.builtin "ExceptionGroup.__weakref__",.none],#[]⟩,
 ⟨.type "super",none,.fields #[zr 818,zr 818,zr 818],#[]⟩,
 ⟨.type "builtin_function_or_method",none,.fields #[.builtin "object.__init_subclass__",zr 818],#[]⟩,
 zt #[],
 zf #[],
 zt #[zq "data" 1293],
 zt #[],
 tmO (top 76) "lead_of" "lead_of",
 zc #[zq "lead_of" 1290,zq "lead_of" 1291,zu 1292,zi 565,zi 1,zi 0,zi 0,zi 3,zr 823,.bool true,zi 181,zr 824,.none,zr 825,zr 826,zr 827,zi 1294,zi 565,zu 1295],
 fnO (top 76) "lead_of" "lead_of" .none (zq "paperhold.revisions" 1131) (zr 828),
 zt #[],
 zf #[],
 zt #[zq "objects" 1300,zq "begin" 1301,zq "parts" 1302,zq "entries" 1303,zq "at" 1304,zq "number" 1305,zq "generation" 1306,zq "value" 1307,zq "part" 1308],
 zt #[],
 tmO (top 77) "laid_objects" "laid_objects",
 zc #[zq "laid_objects" 1297,zq "laid_objects" 1298,zu 1299,zi 567,zi 2,zi 0,zi 0,zi 3,zr 830,.bool true,zi 181,zr 831,.none,zr 832,zr 833,zr 834,zi 1309,zi 567,zu 1310],
 fnO (top 77) "laid_objects" "laid_objects" .none (zq "paperhold.revisions" 1131) (zr 835),
 zt #[],
 zf #[],
 tmO (top 78) "new_trailer" "new_trailer"]
noncomputable def c840(P:Params):List Obj:=[
 zc #[zq "new_trailer" 1312,zq "new_trailer" 1313,zu 1314,zi 578,zi 3,zi 0,zi 0,zi 3,zr 837,.bool true,zi 181,zr 838,.none,.none,.none,zr 839,zi 1315,zi 578,zu 1316],
 fnO (top 78) "new_trailer" "new_trailer" .none (zq "paperhold.revisions" 1131) (zr 840),
 zt #[],
 zf #[],
 zt #[zq "changes" 1321,zq "trailer" 1322,zq "previous" 1323,zq "begin" 1324,zq "body" 1325,zq "laid" 1326,zq "at" 1327],
 zt #[],
 tmO (top 79) "classic_section" "classic_section",
 zc #[zq "classic_section" 1318,zq "classic_section" 1319,zu 1320,zi 583,zi 4,zi 0,zi 0,zi 3,zr 842,.bool true,zi 181,zr 843,.none,zr 844,zr 845,zr 846,zi 1328,zi 583,zu 1329],
 fnO (top 79) "classic_section" "classic_section" .none (zq "paperhold.revisions" 1131) (zr 847),
 zt #[],
 zf #[],
 zt #[zq "data" 1334,zq "begun" 1335,zq "at" 1336,zq "cursor" 1337],
 zt #[],
 tmO (top 80) "mark_end" "mark_end",
 zc #[zq "mark_end" 1331,zq "mark_end" 1332,zu 1333,zi 587,zi 2,zi 0,zi 0,zi 3,zr 849,.bool true,zi 181,zr 850,.none,zr 851,zr 852,zr 853,zi 1338,zi 587,zu 1339],
 fnO (top 80) "mark_end" "mark_end" .none (zq "paperhold.revisions" 1131) (zr 854),
 zt #[],
 zf #[],
 zt #[zq "one" 1344,zq "other" 1345,zq "found" 1346,zq "number" 1347,zq "first" 1348,zq "second" 1349],
 zt #[],
 tmO (top 81) "changed_numbers" "changed_numbers",
 zc #[zq "changed_numbers" 1341,zq "changed_numbers" 1342,zu 1343,zi 594,zi 2,zi 0,zi 0,zi 3,zr 856,.bool true,zi 181,zr 857,.none,zr 858,zr 859,zr 860,zi 1350,zi 594,zu 1351],
 fnO (top 81) "changed_numbers" "changed_numbers" .none (zq "paperhold.revisions" 1131) (zr 861),
 zt #[],
 zf #[],
 zt #[zq "pen" 1358,zq "many" 1359,zq "spot" 1360],
 zt #[],
 tmO (top 83) "_law_draw" "_law_draw",
 zc #[zq "_law_draw" 1355,zq "_law_draw" 1356,zu 1357,zi 603,zi 2,zi 0,zi 0,zi 3,zr 863,.bool true,zi 181,zr 864,.none,zr 865,zr 866,zr 867,zi 1361,zi 603,zu 1362],
 fnO (top 83) "_law_draw" "_law_draw" .none (zq "law_nn0234_01" 1353) (zr 868),
 zt #[],
 zf #[],
 tmO (top 84) "_law_value" "_law_value",
 zc #[zq "_law_value" 1364,zq "_law_value" 1365,zu 1366,zi 609,zi 1,zi 0,zi 0,zi 3,zr 870,.bool true,zi 181,zr 871,.none,.none,.none,zr 872,zi 1367,zi 609,zu 1368],
 fnO (top 84) "_law_value" "_law_value" .none (zq "law_nn0234_01" 1353) (zr 873),
 zt #[],
 zf #[],
 tmO (top 85) "_law_words" "_law_words",
 zc #[zq "_law_words" 1370,zq "_law_words" 1371,zu 1372,zi 613,zi 1,zi 0,zi 0,zi 3,zr 875,.bool true,zi 181,zr 876,.none,.none,.none,zr 877,zi 1373,zi 613,zu 1374],
 fnO (top 85) "_law_words" "_law_words" .none (zq "law_nn0234_01" 1353) (zr 878)]
noncomputable def c880(P:Params):List Obj:=[
 zt #[],
 zf #[],
 zt #[zq "entry" 1379,zq "way" 1380,zq "one" 1381,zq "two" 1382],
 zt #[],
 tmO (top 86) "_law_line" "_law_line",
 zc #[zq "_law_line" 1376,zq "_law_line" 1377,zu 1378,zi 615,zi 1,zi 0,zi 0,zi 3,zr 880,.bool true,zi 181,zr 881,.none,zr 882,zr 883,zr 884,zi 1383,zi 615,zu 1384],
 fnO (top 86) "_law_line" "_law_line" .none (zq "law_nn0234_01" 1353) (zr 885),
 zt #[],
 zf #[],
 tmO (top 87) "_law_table" "_law_table",
 zc #[zq "_law_table" 1386,zq "_law_table" 1387,zu 1388,zi 618,zi 1,zi 0,zi 0,zi 3,zr 887,.bool true,zi 181,zr 888,.none,.none,.none,zr 889,zi 1389,zi 618,zu 1390],
 fnO (top 87) "_law_table" "_law_table" .none (zq "law_nn0234_01" 1353) (zr 890),
 zt #[],
 zf #[],
 tmO (top 88) "_law_due" "_law_due",
 zc #[zq "_law_due" 1392,zq "_law_due" 1393,zu 1394,zi 626,zi 6,zi 0,zi 0,zi 3,zr 892,.bool true,zi 181,zr 893,.none,.none,.none,zr 894,zi 1395,zi 626,zu 1396],
 fnO (top 88) "_law_due" "_law_due" .none (zq "law_nn0234_01" 1353) (zr 895),
 zt #[],
 zf #[],
 tmO (top 89) "_law_section_right" "_law_section_right",
 zc #[zq "_law_section_right" 1398,zq "_law_section_right" 1399,zu 1400,zi 639,zi 1,zi 0,zi 0,zi 3,zr 897,.bool true,zi 181,zr 898,.none,.none,.none,zr 899,zi 1401,zi 639,zu 1402],
 fnO (top 89) "_law_section_right" "_law_section_right" .none (zq "law_nn0234_01" 1353) (zr 900),
 zt #[],
 zf #[],
 zt #[zq "pen" 1407,zq "front" 1408,zq "end" 1409,zq "behind" 1410,zq "data" 1411,zq "more" 1412],
 zt #[],
 tmO (top 90) "_law_marks_right" "_law_marks_right",
 zc #[zq "_law_marks_right" 1404,zq "_law_marks_right" 1405,zu 1406,zi 665,zi 1,zi 0,zi 0,zi 3,zr 902,.bool true,zi 181,zr 903,.none,zr 904,zr 905,zr 906,zi 1413,zi 665,zu 1414],
 fnO (top 90) "_law_marks_right" "_law_marks_right" .none (zq "law_nn0234_01" 1353) (zr 907),
 zt #[],
 zf #[],
 tmO (top 91) "_law_shelves_right" "_law_shelves_right",
 zc #[zq "_law_shelves_right" 1416,zq "_law_shelves_right" 1417,zu 1418,zi 673,zi 1,zi 0,zi 0,zi 3,zr 909,.bool true,zi 181,zr 910,.none,.none,.none,zr 911,zi 1419,zi 673,zu 1420],
 fnO (top 91) "_law_shelves_right" "_law_shelves_right" .none (zq "law_nn0234_01" 1353) (zr 912),
 zt #[],
 zf #[],
 tmO (top 92) "law" "law",
 zc #[zq "law" 1422,zq "law" 1423,zu 1424,zi 684,zi 1,zi 0,zi 0,zi 3,zr 914,.bool true,zi 181,zr 915,.none,.none,.none,zr 916,zi 1425,zi 684,zu 1426],
 fnO (top 92) "law" "law" .none (zq "law_nn0234_01" 1353) (zr 917)]
noncomputable def objs(P:Params):List Obj:=c0 P++(c40 P++(c80 P++(c120 P++(c160 P++(c200 P++(c240 P++(c280 P++(c320 P++(c360 P++(c400 P++(c440 P++(c480 P++(c520 P++(c560 P++(c600 P++(c640 P++(c680 P++(c720 P++(c760 P++(c800 P++(c840 P++(c880 P))))))))))))))))))))))
noncomputable def l0(P:Params):List Obj:=ovs ((objs P).take 15) [(2,⟨.none,none,.dict #[] 0,#[]⟩),(3,zg P "__main__" 164 9),(12,zf #[])]
noncomputable def s0(w:World)(os:OsState):SharedT:=⟨mkT (l0 w.params),15,(boot_heap w.params).life,Array.mk [],boot_drawn,187,os⟩
noncomputable def l1(P:Params):List Obj:=ovs ((objs P).take 50) [(3,zg P "paperhold.errors" 194 11),(12,zf #[zi 1,zi 0,zr 20,zi 5,zi 0,zr 27]),(46,⟨.type "type",none,.cls ⟨"PaperError",[.type "Exception"],[zr 46,.type "Exception",.type "BaseException",.type "object"],45,"PaperError",true,[],[],false,none,false⟩,#[some (zr 22),none,some (zq "PaperError" 196),some (zq "PaperError" 204),some (.builtin "Exception.__new__"),some (.bool true)]⟩)]
noncomputable def s1(w:World)(os:OsState):SharedT:=⟨mkT (l1 w.params),50,(boot_heap w.params).life,Array.mk [],boot_drawn,236,os⟩
theorem p0(w:World):(fun os=>segRunT treeTable pw w m0 ann 1 307 (s0 w os) (piecesOf (sts 0 3) env cE ⟨0,0,0,0⟩ B))=fun os=>some (Flow.next,s1 w os,cE,⟨5,0,13,35⟩):=by
 rw [seg_eq,tab_eq];kernel_rfl
noncomputable def l2(P:Params):List Obj:=ovs ((objs P).take 74) [(3,zg P "paperhold.cursor" 268 13),(12,zf #[zi 1,zi 0,zr 20,zi 5,zi 0,zr 27,zi 14,zi 0,zr 55,zi 16,zi 0,zr 67])]
noncomputable def s2(w:World)(os:OsState):SharedT:=⟨mkT (l2 w.params),74,(boot_heap w.params).life,Array.mk [],boot_drawn,270,os⟩
theorem p1(w:World):(fun os=>segRunT treeTable pw w m0 ann 1 436 (s1 w os) (piecesOf (sts 3 3) env cE ⟨5,0,13,35⟩ B))=fun os=>some (Flow.next,s2 w os,cE,⟨18,0,18,8⟩):=by
 rw [seg_eq,tab_eq];kernel_rfl
noncomputable def l3(P:Params):List Obj:=ovs ((objs P).take 90) [(3,zg P "paperhold.cursor" 268 20),(12,zf #[zi 1,zi 0,zr 20,zi 5,zi 0,zr 27,zi 14,zi 0,zr 55,zi 16,zi 0,zr 67,zi 24,zi 0,zr 81,zi 26,zi 0,zr 88])]
noncomputable def s3(w:World)(os:OsState):SharedT:=⟨mkT (l3 w.params),90,(boot_heap w.params).life,Array.mk [],boot_drawn,308,os⟩
theorem p2(w:World):(fun os=>segRunT treeTable pw w m0 ann 1 122 (s2 w os) (piecesOf (sts 6 7) env cE ⟨18,0,18,8⟩ B))=fun os=>some (Flow.next,s3 w os,cE,⟨26,0,27,27⟩):=by
 rw [seg_eq,tab_eq];kernel_rfl
noncomputable def l4(P:Params):List Obj:=ovs ((objs P).take 197) [(3,zg P "paperhold.cursor" 268 21),(12,zf #[zi 1,zi 0,zr 20,zi 5,zi 0,zr 27,zi 14,zi 0,zr 55,zi 16,zi 0,zr 67,zi 24,zi 0,zr 81,zi 26,zi 0,zr 88,zi 28,zi 0,zr 95])]
noncomputable def s4(w:World)(os:OsState):SharedT:=⟨mkT (l4 w.params),197,(boot_heap w.params).life,Array.mk [],boot_drawn,439,os⟩
theorem p3(w:World):(fun os=>segRunT treeTable pw w m0 ann 1 619 (s3 w os) (piecesOf (sts 13 1) env cE ⟨26,0,27,27⟩ B))=fun os=>some (Flow.next,s4 w os,cE,⟨28,0,89,16⟩):=by
 rw [seg_eq,tab_eq];kernel_rfl
noncomputable def l5(P:Params):List Obj:=ovs ((objs P).take 197) [(3,zg P "paperhold.decimals" 439 21),(12,zf #[zi 1,zi 0,zr 20,zi 5,zi 0,zr 27,zi 14,zi 0,zr 55,zi 16,zi 0,zr 67,zi 24,zi 0,zr 81,zi 26,zi 0,zr 88,zi 28,zi 0,zr 95])]
noncomputable def s5(w:World)(os:OsState):SharedT:=⟨mkT (l5 w.params),197,(boot_heap w.params).life,Array.mk [],boot_drawn,441,os⟩
theorem p4(w:World):(fun os=>segRunT treeTable pw w m0 ann 1 10 (s4 w os) (piecesOf (sts 14 1) env cE ⟨28,0,89,16⟩ B))=fun os=>some (Flow.next,s5 w os,cE,⟨90,0,90,8⟩):=by
 rw [seg_eq,tab_eq];kernel_rfl
noncomputable def l6(P:Params):List Obj:=ovs ((objs P).take 295) [(3,zg P "paperhold.decimals" 439 22),(12,zf #[zi 1,zi 0,zr 20,zi 5,zi 0,zr 27,zi 14,zi 0,zr 55,zi 16,zi 0,zr 67,zi 24,zi 0,zr 81,zi 26,zi 0,zr 88,zi 28,zi 0,zr 95,zi 91,zi 0,zr 202])]
noncomputable def s6(w:World)(os:OsState):SharedT:=⟨mkT (l6 w.params),295,(boot_heap w.params).life,Array.mk [],boot_drawn,556,os⟩
theorem p5(w:World):(fun os=>segRunT treeTable pw w m0 ann 1 573 (s5 w os) (piecesOf (sts 15 1) env cE ⟨90,0,90,8⟩ B))=fun os=>some (Flow.next,s6 w os,cE,⟨91,0,138,67⟩):=by
 rw [seg_eq,tab_eq];kernel_rfl
noncomputable def l7(P:Params):List Obj:=ovs ((objs P).take 323) [(3,zg P "paperhold.objects" 563 25),(12,zf #[zi 1,zi 0,zr 20,zi 5,zi 0,zr 27,zi 14,zi 0,zr 55,zi 16,zi 0,zr 67,zi 24,zi 0,zr 81,zi 26,zi 0,zr 88,zi 28,zi 0,zr 95,zi 91,zi 0,zr 202,zi 139,zi 0,zr 300,zi 143,zi 0,zr 307])]
noncomputable def s7(w:World)(os:OsState):SharedT:=⟨mkT (l7 w.params),323,(boot_heap w.params).life,Array.mk [],boot_drawn,596,os⟩
theorem p6(w:World):(fun os=>segRunT treeTable pw w m0 ann 1 270 (s6 w os) (piecesOf (sts 16 4) env cE ⟨91,0,138,67⟩ B))=fun os=>some (Flow.next,s7 w os,cE,⟨143,0,146,24⟩):=by
 rw [seg_eq,tab_eq];kernel_rfl
noncomputable def l8(P:Params):List Obj:=ovs ((objs P).take 366) [(3,zg P "paperhold.objects" 563 27),(12,zf #[zi 1,zi 0,zr 20,zi 5,zi 0,zr 27,zi 14,zi 0,zr 55,zi 16,zi 0,zr 67,zi 24,zi 0,zr 81,zi 26,zi 0,zr 88,zi 28,zi 0,zr 95,zi 91,zi 0,zr 202,zi 139,zi 0,zr 300,zi 143,zi 0,zr 307,zi 147,zi 0,zr 328,zi 152,zi 0,zr 350])]
noncomputable def s8(w:World)(os:OsState):SharedT:=⟨mkT (l8 w.params),366,(boot_heap w.params).life,Array.mk [],boot_drawn,658,os⟩
theorem p7(w:World):(fun os=>segRunT treeTable pw w m0 ann 1 450 (s7 w os) (piecesOf (sts 20 2) env cE ⟨143,0,146,24⟩ B))=fun os=>some (Flow.next,s8 w os,cE,⟨152,0,156,28⟩):=by
 rw [seg_eq,tab_eq];kernel_rfl
noncomputable def l9(P:Params):List Obj:=ovs ((objs P).take 430) [(3,zg P "paperhold.objects" 563 35),(12,zf #[zi 1,zi 0,zr 20,zi 5,zi 0,zr 27,zi 14,zi 0,zr 55,zi 16,zi 0,zr 67,zi 24,zi 0,zr 81,zi 26,zi 0,zr 88,zi 28,zi 0,zr 95,zi 91,zi 0,zr 202,zi 139,zi 0,zr 300,zi 143,zi 0,zr 307,zi 147,zi 0,zr 328,zi 152,zi 0,zr 350,zi 157,zi 0,zr 371,zi 165,zi 0,zr 399,zi 187,zi 0,zr 406,zi 201,zi 0,zr 411,zi 211,zi 0,zr 416,zi 220,zi 0,zr 421,zi 229,zi 0,zr 428])]
noncomputable def s9(w:World)(os:OsState):SharedT:=⟨mkT (l9 w.params),430,(boot_heap w.params).life,Array.mk [],boot_drawn,742,os⟩
theorem p8(w:World):(fun os=>segRunT treeTable pw w m0 ann 1 437 (s8 w os) (piecesOf (sts 22 8) env cE ⟨152,0,156,28⟩ B))=fun os=>some (Flow.next,s9 w os,cE,⟨229,0,238,18⟩):=by
 rw [seg_eq,tab_eq];kernel_rfl
noncomputable def l10(P:Params):List Obj:=ovs ((objs P).take 466) [(3,zg P "paperhold.objects" 563 36),(12,zf #[zi 1,zi 0,zr 20,zi 5,zi 0,zr 27,zi 14,zi 0,zr 55,zi 16,zi 0,zr 67,zi 24,zi 0,zr 81,zi 26,zi 0,zr 88,zi 28,zi 0,zr 95,zi 91,zi 0,zr 202,zi 139,zi 0,zr 300,zi 143,zi 0,zr 307,zi 147,zi 0,zr 328,zi 152,zi 0,zr 350,zi 157,zi 0,zr 371,zi 165,zi 0,zr 399,zi 187,zi 0,zr 406,zi 201,zi 0,zr 411,zi 211,zi 0,zr 416,zi 220,zi 0,zr 421,zi 229,zi 0,zr 428,zi 239,zi 0,zr 435]),(461,⟨.type "type",none,.cls ⟨"Lookup",[.type "object"],[zr 461,.type "object"],460,"Lookup",true,[],[],false,none,false⟩,#[none,none,some (zq "Lookup" 742),some (zq "Lookup" 750),some (.builtin "object.__new__"),some (.bool true)]⟩)]
noncomputable def s10(w:World)(os:OsState):SharedT:=⟨mkT (l10 w.params),466,(boot_heap w.params).life,Array.mk [],boot_drawn,794,os⟩
theorem p9(w:World):(fun os=>segRunT treeTable pw w m0 ann 1 295 (s9 w os) (piecesOf (sts 30 1) env cE ⟨229,0,238,18⟩ B))=fun os=>some (Flow.next,s10 w os,cE,⟨239,0,257,40⟩):=by
 rw [seg_eq,tab_eq];kernel_rfl
noncomputable def l11(P:Params):List Obj:=ovs ((objs P).take 518) [(3,zg P "paperhold.writer" 856 41),(12,zf #[zi 1,zi 0,zr 20,zi 5,zi 0,zr 27,zi 14,zi 0,zr 55,zi 16,zi 0,zr 67,zi 24,zi 0,zr 81,zi 26,zi 0,zr 88,zi 28,zi 0,zr 95,zi 91,zi 0,zr 202,zi 139,zi 0,zr 300,zi 143,zi 0,zr 307,zi 147,zi 0,zr 328,zi 152,zi 0,zr 350,zi 157,zi 0,zr 371,zi 165,zi 0,zr 399,zi 187,zi 0,zr 406,zi 201,zi 0,zr 411,zi 211,zi 0,zr 416,zi 220,zi 0,zr 421,zi 229,zi 0,zr 428,zi 239,zi 0,zr 435,zi 258,zi 0,zr 471])]
noncomputable def s11(w:World)(os:OsState):SharedT:=⟨mkT (l11 w.params),518,(boot_heap w.params).life,Array.mk [],boot_drawn,866,os⟩
theorem p10(w:World):(fun os=>segRunT treeTable pw w m0 ann 1 446 (s10 w os) (piecesOf (sts 31 6) env cE ⟨239,0,257,40⟩ B))=fun os=>some (Flow.next,s11 w os,cE,⟨282,0,282,12⟩):=by
 rw [seg_eq,tab_eq];kernel_rfl
noncomputable def l12(P:Params):List Obj:=ovs ((objs P).take 605) [(3,zg P "paperhold.writer" 856 58),(12,zf #[zi 1,zi 0,zr 20,zi 5,zi 0,zr 27,zi 14,zi 0,zr 55,zi 16,zi 0,zr 67,zi 24,zi 0,zr 81,zi 26,zi 0,zr 88,zi 28,zi 0,zr 95,zi 91,zi 0,zr 202,zi 139,zi 0,zr 300,zi 143,zi 0,zr 307,zi 147,zi 0,zr 328,zi 152,zi 0,zr 350,zi 157,zi 0,zr 371,zi 165,zi 0,zr 399,zi 187,zi 0,zr 406,zi 201,zi 0,zr 411,zi 211,zi 0,zr 416,zi 220,zi 0,zr 421,zi 229,zi 0,zr 428,zi 239,zi 0,zr 435,zi 258,zi 0,zr 471,zi 287,zi 0,zr 521,zi 289,zi 0,zr 528,zi 291,zi 0,zr 535,zi 303,zi 0,zr 542,zi 307,zi 0,zr 547,zi 317,zi 0,zr 554,zi 331,zi 0,zr 561,zi 344,zi 0,zr 568,zi 350,zi 0,zr 575,zi 356,zi 0,zr 582,zi 370,zi 0,zr 589,zi 376,zi 0,zr 596,zi 383,zi 0,zr 603])]
noncomputable def s12(w:World)(os:OsState):SharedT:=⟨mkT (l12 w.params),605,(boot_heap w.params).life,Array.mk [],boot_drawn,988,os⟩
theorem p11(w:World):(fun os=>segRunT treeTable pw w m0 ann 1 433 (s11 w os) (piecesOf (sts 37 17) env cE ⟨282,0,282,12⟩ B))=fun os=>some (Flow.next,s12 w os,cE,⟨383,0,395,55⟩):=by
 rw [seg_eq,tab_eq];kernel_rfl
noncomputable def l13(P:Params):List Obj:=ovs ((objs P).take 668) [(3,zg P "paperhold.cross" 1036 66),(12,zf #[zi 1,zi 0,zr 20,zi 5,zi 0,zr 27,zi 14,zi 0,zr 55,zi 16,zi 0,zr 67,zi 24,zi 0,zr 81,zi 26,zi 0,zr 88,zi 28,zi 0,zr 95,zi 91,zi 0,zr 202,zi 139,zi 0,zr 300,zi 143,zi 0,zr 307,zi 147,zi 0,zr 328,zi 152,zi 0,zr 350,zi 157,zi 0,zr 371,zi 165,zi 0,zr 399,zi 187,zi 0,zr 406,zi 201,zi 0,zr 411,zi 211,zi 0,zr 416,zi 220,zi 0,zr 421,zi 229,zi 0,zr 428,zi 239,zi 0,zr 435,zi 258,zi 0,zr 471,zi 287,zi 0,zr 521,zi 289,zi 0,zr 528,zi 291,zi 0,zr 535,zi 303,zi 0,zr 542,zi 307,zi 0,zr 547,zi 317,zi 0,zr 554,zi 331,zi 0,zr 561,zi 344,zi 0,zr 568,zi 350,zi 0,zr 575,zi 356,zi 0,zr 582,zi 370,zi 0,zr 589,zi 376,zi 0,zr 596,zi 383,zi 0,zr 603,zi 396,zi 0,zr 610,zi 398,zi 0,zr 617,zi 407,zi 0,zr 624,zi 413,zi 0,zr 631,zi 423,zi 0,zr 638,zi 431,zi 0,zr 645])]
noncomputable def s13(w:World)(os:OsState):SharedT:=⟨mkT (l13 w.params),668,(boot_heap w.params).life,Array.mk [],boot_drawn,1082,os⟩
theorem p12(w:World):(fun os=>segRunT treeTable pw w m0 ann 1 443 (s12 w os) (piecesOf (sts 54 9) env cE ⟨383,0,395,55⟩ B))=fun os=>some (Flow.next,s13 w os,cE,⟨431,0,439,45⟩):=by
 rw [seg_eq,tab_eq];kernel_rfl
noncomputable def l14(P:Params):List Obj:=ovs ((objs P).take 734) [(3,zg P "paperhold.revisions" 1131 77),(12,zf #[zi 1,zi 0,zr 20,zi 5,zi 0,zr 27,zi 14,zi 0,zr 55,zi 16,zi 0,zr 67,zi 24,zi 0,zr 81,zi 26,zi 0,zr 88,zi 28,zi 0,zr 95,zi 91,zi 0,zr 202,zi 139,zi 0,zr 300,zi 143,zi 0,zr 307,zi 147,zi 0,zr 328,zi 152,zi 0,zr 350,zi 157,zi 0,zr 371,zi 165,zi 0,zr 399,zi 187,zi 0,zr 406,zi 201,zi 0,zr 411,zi 211,zi 0,zr 416,zi 220,zi 0,zr 421,zi 229,zi 0,zr 428,zi 239,zi 0,zr 435,zi 258,zi 0,zr 471,zi 287,zi 0,zr 521,zi 289,zi 0,zr 528,zi 291,zi 0,zr 535,zi 303,zi 0,zr 542,zi 307,zi 0,zr 547,zi 317,zi 0,zr 554,zi 331,zi 0,zr 561,zi 344,zi 0,zr 568,zi 350,zi 0,zr 575,zi 356,zi 0,zr 582,zi 370,zi 0,zr 589,zi 376,zi 0,zr 596,zi 383,zi 0,zr 603,zi 396,zi 0,zr 610,zi 398,zi 0,zr 617,zi 407,zi 0,zr 624,zi 413,zi 0,zr 631,zi 423,zi 0,zr 638,zi 431,zi 0,zr 645,zi 440,zi 0,zr 673,zi 448,zi 0,zr 680,zi 450,zi 0,zr 687,zi 456,zi 0,zr 694,zi 464,zi 0,zr 699,zi 471,zi 0,zr 706,zi 475,zi 0,zr 713,zi 483,zi 0,zr 720,zi 489,zi 0,zr 727,zi 495,zi 0,zr 732])]
noncomputable def s14(w:World)(os:OsState):SharedT:=⟨mkT (l14 w.params),734,(boot_heap w.params).life,Array.mk [],boot_drawn,1169,os⟩
theorem p13(w:World):(fun os=>segRunT treeTable pw w m0 ann 1 318 (s13 w os) (piecesOf (sts 63 12) env cE ⟨431,0,439,45⟩ B))=fun os=>some (Flow.next,s14 w os,cE,⟨495,0,501,16⟩):=by
 rw [seg_eq,tab_eq];kernel_rfl
noncomputable def l15(P:Params):List Obj:=ovs ((objs P).take 823) [(3,zg P "paperhold.revisions" 1131 78),(12,zf #[zi 1,zi 0,zr 20,zi 5,zi 0,zr 27,zi 14,zi 0,zr 55,zi 16,zi 0,zr 67,zi 24,zi 0,zr 81,zi 26,zi 0,zr 88,zi 28,zi 0,zr 95,zi 91,zi 0,zr 202,zi 139,zi 0,zr 300,zi 143,zi 0,zr 307,zi 147,zi 0,zr 328,zi 152,zi 0,zr 350,zi 157,zi 0,zr 371,zi 165,zi 0,zr 399,zi 187,zi 0,zr 406,zi 201,zi 0,zr 411,zi 211,zi 0,zr 416,zi 220,zi 0,zr 421,zi 229,zi 0,zr 428,zi 239,zi 0,zr 435,zi 258,zi 0,zr 471,zi 287,zi 0,zr 521,zi 289,zi 0,zr 528,zi 291,zi 0,zr 535,zi 303,zi 0,zr 542,zi 307,zi 0,zr 547,zi 317,zi 0,zr 554,zi 331,zi 0,zr 561,zi 344,zi 0,zr 568,zi 350,zi 0,zr 575,zi 356,zi 0,zr 582,zi 370,zi 0,zr 589,zi 376,zi 0,zr 596,zi 383,zi 0,zr 603,zi 396,zi 0,zr 610,zi 398,zi 0,zr 617,zi 407,zi 0,zr 624,zi 413,zi 0,zr 631,zi 423,zi 0,zr 638,zi 431,zi 0,zr 645,zi 440,zi 0,zr 673,zi 448,zi 0,zr 680,zi 450,zi 0,zr 687,zi 456,zi 0,zr 694,zi 464,zi 0,zr 699,zi 471,zi 0,zr 706,zi 475,zi 0,zr 713,zi 483,zi 0,zr 720,zi 489,zi 0,zr 727,zi 495,zi 0,zr 732,zi 502,zi 0,zr 739])]
noncomputable def s15(w:World)(os:OsState):SharedT:=⟨mkT (l15 w.params),823,(boot_heap w.params).life,Array.mk [],boot_drawn,1290,os⟩
theorem p14(w:World):(fun os=>segRunT treeTable pw w m0 ann 1 553 (s14 w os) (piecesOf (sts 75 1) env cE ⟨495,0,501,16⟩ B))=fun os=>some (Flow.next,s15 w os,cE,⟨502,0,564,20⟩):=by
 rw [seg_eq,tab_eq];kernel_rfl
noncomputable def l16(P:Params):List Obj:=ovs ((objs P).take 909) [(3,zg P "law_nn0234_01" 1353 92),(12,zf #[zi 1,zi 0,zr 20,zi 5,zi 0,zr 27,zi 14,zi 0,zr 55,zi 16,zi 0,zr 67,zi 24,zi 0,zr 81,zi 26,zi 0,zr 88,zi 28,zi 0,zr 95,zi 91,zi 0,zr 202,zi 139,zi 0,zr 300,zi 143,zi 0,zr 307,zi 147,zi 0,zr 328,zi 152,zi 0,zr 350,zi 157,zi 0,zr 371,zi 165,zi 0,zr 399,zi 187,zi 0,zr 406,zi 201,zi 0,zr 411,zi 211,zi 0,zr 416,zi 220,zi 0,zr 421,zi 229,zi 0,zr 428,zi 239,zi 0,zr 435,zi 258,zi 0,zr 471,zi 287,zi 0,zr 521,zi 289,zi 0,zr 528,zi 291,zi 0,zr 535,zi 303,zi 0,zr 542,zi 307,zi 0,zr 547,zi 317,zi 0,zr 554,zi 331,zi 0,zr 561,zi 344,zi 0,zr 568,zi 350,zi 0,zr 575,zi 356,zi 0,zr 582,zi 370,zi 0,zr 589,zi 376,zi 0,zr 596,zi 383,zi 0,zr 603,zi 396,zi 0,zr 610,zi 398,zi 0,zr 617,zi 407,zi 0,zr 624,zi 413,zi 0,zr 631,zi 423,zi 0,zr 638,zi 431,zi 0,zr 645,zi 440,zi 0,zr 673,zi 448,zi 0,zr 680,zi 450,zi 0,zr 687,zi 456,zi 0,zr 694,zi 464,zi 0,zr 699,zi 471,zi 0,zr 706,zi 475,zi 0,zr 713,zi 483,zi 0,zr 720,zi 489,zi 0,zr 727,zi 495,zi 0,zr 732,zi 502,zi 0,zr 739,zi 565,zi 0,zr 828,zi 567,zi 0,zr 835,zi 578,zi 0,zr 840,zi 583,zi 0,zr 847,zi 587,zi 0,zr 854,zi 594,zi 0,zr 861,zi 603,zi 0,zr 868,zi 609,zi 0,zr 873,zi 613,zi 0,zr 878,zi 615,zi 0,zr 885,zi 618,zi 0,zr 890,zi 626,zi 0,zr 895,zi 639,zi 0,zr 900,zi 665,zi 0,zr 907])]
noncomputable def s16(w:World)(os:OsState):SharedT:=⟨mkT (l16 w.params),909,(boot_heap w.params).life,Array.mk [],boot_drawn,1416,os⟩
theorem p15(w:World):(fun os=>segRunT treeTable pw w m0 ann 1 430 (s15 w os) (piecesOf (sts 76 15) env cE ⟨502,0,564,20⟩ B))=fun os=>some (Flow.next,s16 w os,cE,⟨665,0,672,101⟩):=by
 rw [seg_eq,tab_eq];kernel_rfl
noncomputable def l17(P:Params):List Obj:=ovs ((objs P).take 919) []
noncomputable def s17(w:World)(os:OsState):SharedT:=⟨mkT (l17 w.params),919,(boot_heap w.params).life,Array.mk [],boot_drawn,1428,os⟩
theorem p16(w:World):(fun os=>segRunT treeTable pw w m0 ann 1 53 (s16 w os) (piecesOf (sts 91 2) env cE ⟨665,0,672,101⟩ B))=fun os=>some (Flow.next,s17 w os,cE,⟨684,0,687,88⟩):=by
 rw [seg_eq,tab_eq];kernel_rfl
theorem body_eq:bE=(sts 0 3++(sts 3 3++(sts 6 7++(sts 13 1++(sts 14 1++(sts 15 1++(sts 16 4++(sts 20 2++(sts 22 8++(sts 30 1++(sts 31 6++(sts 37 17++(sts 54 9++(sts 63 12++(sts 75 1++(sts 76 15++(sts 91 2++[]))))))))))))))))):=by kernel_rfl
noncomputable def sF(w:World)(os:OsState):Shared:=⟨⟨(objs w.params).toArray,(boot_heap w.params).life⟩,Array.mk [],boot_drawn,1428,os⟩
noncomputable def sI(w:World)(os:OsState):Shared:=⟨boot_heap w.params,Array.mk [],boot_drawn,boot_toks,os⟩
noncomputable def sA(w:World)(os:OsState):Shared:=(s0 w os).abs
theorem pre_ok(w:World):(fun os=>topGo treeTable pw w m0 ann 12 (sI w os) (topStub pw))=fun os=>some (sA w os,⟨denote treeTable cE,cE,⟨0,0,0,0⟩,B⟩):=by
 kernel_rfl
theorem block_ok(w:World):(fun os=>segRun treeTable pw w m0 ann 1 1 (sA w os) (blockOf bE env cE ⟨0,0,0,0⟩ B))=fun os=>some (Flow.next,sA w os,cE,⟨0,0,0,0⟩):=by
 kernel_rfl
theorem fin_ok(w:World):(fun os=>topRun treeTable pw w m0 ann 2 ((s17 w os).abs) ⟨doneF .next,cE,⟨684,0,687,88⟩,B⟩)=fun os=>some (sF w os):=by
 kernel_rfl
def KR(w:World)(os:OsState)(N:Nat)(s:Shared)(p:Pos)(b:List Stmt):Prop:=topRun treeTable pw w m0 ann N s (restOf b env cE p B)=some (sF w os)
theorem k17(w:World)(os:OsState):KR w os 2 (s17 w os).abs ⟨684,0,687,88⟩ []:=piece_nil (congrFun (fin_ok w) os)
theorem k16(w:World)(os:OsState):KR w os 55 (s16 w os).abs ⟨665,0,672,101⟩ (sts 91 2++[]):=piece_app (n:=53) (N:=2) (segRun_of (congrFun (p16 w) os)) (k17 w os)
theorem k15(w:World)(os:OsState):KR w os 485 (s15 w os).abs ⟨502,0,564,20⟩ (sts 76 15++(sts 91 2++[])):=piece_app (n:=430) (N:=55) (segRun_of (congrFun (p15 w) os)) (k16 w os)
theorem k14(w:World)(os:OsState):KR w os 1038 (s14 w os).abs ⟨495,0,501,16⟩ (sts 75 1++(sts 76 15++(sts 91 2++[]))):=piece_app (n:=553) (N:=485) (segRun_of (congrFun (p14 w) os)) (k15 w os)
theorem k13(w:World)(os:OsState):KR w os 1356 (s13 w os).abs ⟨431,0,439,45⟩ (sts 63 12++(sts 75 1++(sts 76 15++(sts 91 2++[])))):=piece_app (n:=318) (N:=1038) (segRun_of (congrFun (p13 w) os)) (k14 w os)
theorem k12(w:World)(os:OsState):KR w os 1799 (s12 w os).abs ⟨383,0,395,55⟩ (sts 54 9++(sts 63 12++(sts 75 1++(sts 76 15++(sts 91 2++[]))))):=piece_app (n:=443) (N:=1356) (segRun_of (congrFun (p12 w) os)) (k13 w os)
theorem k11(w:World)(os:OsState):KR w os 2232 (s11 w os).abs ⟨282,0,282,12⟩ (sts 37 17++(sts 54 9++(sts 63 12++(sts 75 1++(sts 76 15++(sts 91 2++[])))))):=piece_app (n:=433) (N:=1799) (segRun_of (congrFun (p11 w) os)) (k12 w os)
theorem k10(w:World)(os:OsState):KR w os 2678 (s10 w os).abs ⟨239,0,257,40⟩ (sts 31 6++(sts 37 17++(sts 54 9++(sts 63 12++(sts 75 1++(sts 76 15++(sts 91 2++[]))))))):=piece_app (n:=446) (N:=2232) (segRun_of (congrFun (p10 w) os)) (k11 w os)
theorem k9(w:World)(os:OsState):KR w os 2973 (s9 w os).abs ⟨229,0,238,18⟩ (sts 30 1++(sts 31 6++(sts 37 17++(sts 54 9++(sts 63 12++(sts 75 1++(sts 76 15++(sts 91 2++[])))))))):=piece_app (n:=295) (N:=2678) (segRun_of (congrFun (p9 w) os)) (k10 w os)
theorem k8(w:World)(os:OsState):KR w os 3410 (s8 w os).abs ⟨152,0,156,28⟩ (sts 22 8++(sts 30 1++(sts 31 6++(sts 37 17++(sts 54 9++(sts 63 12++(sts 75 1++(sts 76 15++(sts 91 2++[]))))))))):=piece_app (n:=437) (N:=2973) (segRun_of (congrFun (p8 w) os)) (k9 w os)
theorem k7(w:World)(os:OsState):KR w os 3860 (s7 w os).abs ⟨143,0,146,24⟩ (sts 20 2++(sts 22 8++(sts 30 1++(sts 31 6++(sts 37 17++(sts 54 9++(sts 63 12++(sts 75 1++(sts 76 15++(sts 91 2++[])))))))))):=piece_app (n:=450) (N:=3410) (segRun_of (congrFun (p7 w) os)) (k8 w os)
theorem k6(w:World)(os:OsState):KR w os 4130 (s6 w os).abs ⟨91,0,138,67⟩ (sts 16 4++(sts 20 2++(sts 22 8++(sts 30 1++(sts 31 6++(sts 37 17++(sts 54 9++(sts 63 12++(sts 75 1++(sts 76 15++(sts 91 2++[]))))))))))):=piece_app (n:=270) (N:=3860) (segRun_of (congrFun (p6 w) os)) (k7 w os)
theorem k5(w:World)(os:OsState):KR w os 4703 (s5 w os).abs ⟨90,0,90,8⟩ (sts 15 1++(sts 16 4++(sts 20 2++(sts 22 8++(sts 30 1++(sts 31 6++(sts 37 17++(sts 54 9++(sts 63 12++(sts 75 1++(sts 76 15++(sts 91 2++[])))))))))))):=piece_app (n:=573) (N:=4130) (segRun_of (congrFun (p5 w) os)) (k6 w os)
theorem k4(w:World)(os:OsState):KR w os 4713 (s4 w os).abs ⟨28,0,89,16⟩ (sts 14 1++(sts 15 1++(sts 16 4++(sts 20 2++(sts 22 8++(sts 30 1++(sts 31 6++(sts 37 17++(sts 54 9++(sts 63 12++(sts 75 1++(sts 76 15++(sts 91 2++[]))))))))))))):=piece_app (n:=10) (N:=4703) (segRun_of (congrFun (p4 w) os)) (k5 w os)
theorem k3(w:World)(os:OsState):KR w os 5332 (s3 w os).abs ⟨26,0,27,27⟩ (sts 13 1++(sts 14 1++(sts 15 1++(sts 16 4++(sts 20 2++(sts 22 8++(sts 30 1++(sts 31 6++(sts 37 17++(sts 54 9++(sts 63 12++(sts 75 1++(sts 76 15++(sts 91 2++[])))))))))))))):=piece_app (n:=619) (N:=4713) (segRun_of (congrFun (p3 w) os)) (k4 w os)
theorem k2(w:World)(os:OsState):KR w os 5454 (s2 w os).abs ⟨18,0,18,8⟩ (sts 6 7++(sts 13 1++(sts 14 1++(sts 15 1++(sts 16 4++(sts 20 2++(sts 22 8++(sts 30 1++(sts 31 6++(sts 37 17++(sts 54 9++(sts 63 12++(sts 75 1++(sts 76 15++(sts 91 2++[]))))))))))))))):=piece_app (n:=122) (N:=5332) (segRun_of (congrFun (p2 w) os)) (k3 w os)
theorem k1(w:World)(os:OsState):KR w os 5890 (s1 w os).abs ⟨5,0,13,35⟩ (sts 3 3++(sts 6 7++(sts 13 1++(sts 14 1++(sts 15 1++(sts 16 4++(sts 20 2++(sts 22 8++(sts 30 1++(sts 31 6++(sts 37 17++(sts 54 9++(sts 63 12++(sts 75 1++(sts 76 15++(sts 91 2++[])))))))))))))))):=piece_app (n:=436) (N:=5454) (segRun_of (congrFun (p1 w) os)) (k2 w os)
theorem k0(w:World)(os:OsState):KR w os 6197 (s0 w os).abs ⟨0,0,0,0⟩ (sts 0 3++(sts 3 3++(sts 6 7++(sts 13 1++(sts 14 1++(sts 15 1++(sts 16 4++(sts 20 2++(sts 22 8++(sts 30 1++(sts 31 6++(sts 37 17++(sts 54 9++(sts 63 12++(sts 75 1++(sts 76 15++(sts 91 2++[]))))))))))))))))):=piece_app (n:=307) (N:=5890) (segRun_of (congrFun (p0 w) os)) (k1 w os)
theorem kb(w:World)(os:OsState):KR w os 6197 (sA w os) ⟨0,0,0,0⟩ bE:=body_eq▸k0 w os
theorem run_ok(w:World)(os:OsState):topRun treeTable pw w m0 ann (12+(1+6197)) (sI w os) (topStub pw)=some (sF w os):=go_top (congrFun (pre_ok w) os) (piece_block (congrFun (block_ok w) os) (kb w os))
theorem open_ok:∀ w:World,(fencedOpening treeTable pw w 20000).map (fun s=>(s.heap,s.gens,s.drawn,s.toks))=some (boot_heap w.params,Array.mk [],boot_drawn,boot_toks):=boot_open (by kernel_rfl) (by kernel_rfl) (fun s=>by kernel_rfl)
theorem size_ok(w:World):((boot_heap w.params).isNs mainGlobals && (Array.mk []:Array GenState).size == 0,(boot_heap w.params).objs.size,(boot_heap w.params).nsMap mainGlobals "__annotations__")=(true,m0,ann):=by kernel_rfl
theorem well_ok:PySem.Challenge.rw_nn0234_01.wellSaid=true:=by
 rw [show @OpenLaw.wellSaid=@PySem.W.Fast.tw9446332074065402090 from PySem.W.Fast.te9446332074065402090]
 iterate 37 refine look_both ?_ ?_
 rotate_left 3
 as_aux_lemma=>kernel_rfl
 all_goals kernel_rfl
noncomputable def vq:Program:={ pw with main:={ pw.main with body:=[top 92] } }
noncomputable def loose:List Str:=(["_wall","PaperError","CrossFault","DraftFault","WHITE","DELIMITERS","LINE_FEED","RETURN","MOST_FIGURES","is_regular","is_figure","Cursor","Decimal","sign_text","MOST_HOPS","Name","String","Stream","Reference","kind_of","told_plain","told","told_objects","copied","parts_of","depth_of","Lookup","Shelf","MOST_NESTED","MOST_NUMBER","BACKSLASH","OPEN_BRACKET","CLOSE_BRACKET","CARRIAGE","NUMBER_SIGN","HEX_FIGURES","text_octets","hex_pair","name_octets","whole_octets","decimal_octets","lone_brackets","literal_octets","hex_octets","string_octets","plain_part","lay_reference","lay_dict","lay_parts","run_together","joined_parts","stream_head","write_object","write_indirect","MOST_OFFSET","MOST_GENERATION","Entry","runs_of","figures","entry_line","write_classic","free_chain","tail","END_MARK","next_generations","generations_used","holders_of","free_entries","Changes","lead_of","laid_objects","new_trailer","classic_section","mark_end","changed_numbers","_law_draw","_law_value","_law_words","_law_line","_law_table","_law_due","_law_section_right","_law_marks_right","_law_shelves_right"]:List String).map Str.ofString
noncomputable def XT:Shared→Bool:=fun _=>true
noncomputable def yf(s:Shared):List Obj:=s.heap.objs.toList
noncomputable def ya(w:World):List Obj:=objs w.params
theorem looks_ok(w:World):(fun os:OsState=>((staticsOk (importedModules pw.main.body) (boot_heap w.params) ⟨(objs w.params).toArray,(boot_heap w.params).life⟩ && namesBound pw ⟨(objs w.params).toArray,(boot_heap w.params).life⟩ && gensDone (sF w os) && laidKept (boot_heap w.params) ⟨(objs w.params).toArray,(boot_heap w.params).life⟩),
    openSeen vq loose (importedModules pw.main.body) XT true (sF w os),yf (sF w os)))=fun _=>(true,openGood vq loose,ya w):=by
 rw [show @openSeen=@PySem.W.Fast.tw4187177175401517315 from PySem.W.Fast.te4187177175401517315];kernel_rfl
theorem left_ok:LeftO pw vq loose XT yf ya 20000:=
 LeftO.of_pieces (H₁:=fun P=>⟨(objs P).toArray,(boot_heap P).life⟩) open_ok size_ok run_ok (by decide) looks_ok
noncomputable def btab:List (Str×Tok×Value):=[
 gt "__name__" 1 (.str "builtins" 160),
 gt "__doc__" 2 (.builtin "builtins.__doc__:str#opaque"),
 gt "__package__" 3 (.builtin "builtins.__package__:str#opaque"),
 gt "__loader__" 4 (.builtin "builtins.__loader__:shared#opaque"),
 gt "__spec__" 5 (.builtin "builtins.__spec__#opaque"),
 gt "__build_class__" 6 (.builtin "__build_class__"),
 gt "__import__" 7 (.builtin "__import__"),
 gt "abs" 8 (.builtin "abs"),
 gt "all" 9 (.builtin "all"),
 gt "any" 10 (.builtin "any"),
 gt "ascii" 11 (.builtin "ascii"),
 gt "bin" 12 (.builtin "bin"),
 gt "breakpoint" 13 (.builtin "breakpoint"),
 gt "callable" 14 (.builtin "callable"),
 gt "chr" 15 (.builtin "chr"),
 gt "compile" 16 (.builtin "compile"),
 gt "delattr" 17 (.builtin "delattr"),
 gt "dir" 18 (.builtin "dir"),
 gt "divmod" 19 (.builtin "divmod"),
 gt "eval" 20 (.builtin "eval"),
 gt "exec" 21 (.builtin "exec"),
 gt "format" 22 (.builtin "format"),
 gt "getattr" 23 (.builtin "getattr"),
 gt "globals" 24 (.builtin "globals"),
 gt "hasattr" 25 (.builtin "hasattr"),
 gt "hash" 26 (.builtin "hash"),
 gt "hex" 27 (.builtin "hex"),
 gt "id" 28 (.builtin "id"),
 gt "input" 29 (.builtin "input"),
 gt "isinstance" 30 (.builtin "isinstance"),
 gt "issubclass" 31 (.builtin "issubclass"),
 gt "iter" 32 (.builtin "iter"),
 gt "aiter" 33 (.builtin "aiter"),
 gt "len" 34 (.builtin "len"),
 gt "locals" 35 (.builtin "locals"),
 gt "max" 36 (.builtin "max"),
 gt "min" 37 (.builtin "min"),
 gt "next" 38 (.builtin "next"),
 gt "anext" 39 (.builtin "anext"),
 gt "oct" 40 (.builtin "oct"),
 gt "ord" 41 (.builtin "ord"),
 gt "pow" 42 (.builtin "pow"),
 gt "print" 43 (.builtin "print"),
 gt "repr" 44 (.builtin "repr"),
 gt "round" 45 (.builtin "round"),
 gt "setattr" 46 (.builtin "setattr"),
 gt "sorted" 47 (.builtin "sorted"),
 gt "sum" 48 (.builtin "sum"),
 gt "vars" 49 (.builtin "vars"),
 gt "None" 50 (.none),
 gt "Ellipsis" 51 (.ellipsis),
 gt "NotImplemented" 52 (.notImplemented),
 gt "False" 53 (.bool false),
 gt "True" 54 (.bool true),
 gt "bool" 55 (.type "bool"),
 gt "memoryview" 56 (.type "memoryview"),
 gt "bytearray" 57 (.type "bytearray"),
 gt "bytes" 58 (.type "bytes"),
 gt "classmethod" 59 (.type "classmethod"),
 gt "complex" 60 (.type "complex"),
 gt "dict" 61 (.type "dict"),
 gt "enumerate" 62 (.type "enumerate"),
 gt "filter" 63 (.type "filter"),
 gt "float" 64 (.type "float"),
 gt "frozenset" 65 (.type "frozenset"),
 gt "property" 66 (.type "property"),
 gt "int" 67 (.type "int"),
 gt "list" 68 (.type "list"),
 gt "map" 69 (.type "map"),
 gt "object" 70 (.type "object"),
 gt "range" 71 (.type "range"),
 gt "reversed" 72 (.type "reversed"),
 gt "set" 73 (.type "set"),
 gt "slice" 74 (.type "slice"),
 gt "staticmethod" 75 (.type "staticmethod"),
 gt "str" 76 (.type "str"),
 gt "super" 77 (.type "super"),
 gt "tuple" 78 (.type "tuple"),
 gt "type" 79 (.type "type"),
 gt "zip" 80 (.type "zip"),
 gt "__debug__" 81 (.bool true),
 gt "BaseException" 82 (.type "BaseException"),
 gt "BaseExceptionGroup" 83 (.type "BaseExceptionGroup"),
 gt "Exception" 84 (.type "Exception"),
 gt "GeneratorExit" 85 (.type "GeneratorExit"),
 gt "KeyboardInterrupt" 86 (.type "KeyboardInterrupt"),
 gt "SystemExit" 87 (.type "SystemExit"),
 gt "ArithmeticError" 88 (.type "ArithmeticError"),
 gt "AssertionError" 89 (.type "AssertionError"),
 gt "AttributeError" 90 (.type "AttributeError"),
 gt "BufferError" 91 (.type "BufferError"),
 gt "EOFError" 92 (.type "EOFError"),
 gt "ImportError" 93 (.type "ImportError"),
 gt "LookupError" 94 (.type "LookupError"),
 gt "MemoryError" 95 (.type "MemoryError"),
 gt "NameError" 96 (.type "NameError"),
 gt "OSError" 97 (.type "OSError"),
 gt "ReferenceError" 98 (.type "ReferenceError"),
 gt "RuntimeError" 99 (.type "RuntimeError"),
 gt "StopAsyncIteration" 100 (.type "StopAsyncIteration"),
 gt "StopIteration" 101 (.type "StopIteration"),
 gt "SyntaxError" 102 (.type "SyntaxError"),
 gt "SystemError" 103 (.type "SystemError"),
 gt "TypeError" 104 (.type "TypeError"),
 gt "ValueError" 105 (.type "ValueError"),
 gt "Warning" 106 (.type "Warning"),
 gt "FloatingPointError" 107 (.type "FloatingPointError"),
 gt "OverflowError" 108 (.type "OverflowError"),
 gt "ZeroDivisionError" 109 (.type "ZeroDivisionError"),
 gt "BytesWarning" 110 (.type "BytesWarning"),
 gt "DeprecationWarning" 111 (.type "DeprecationWarning"),
 gt "EncodingWarning" 112 (.type "EncodingWarning"),
 gt "FutureWarning" 113 (.type "FutureWarning"),
 gt "ImportWarning" 114 (.type "ImportWarning"),
 gt "PendingDeprecationWarning" 115 (.type "PendingDeprecationWarning"),
 gt "ResourceWarning" 116 (.type "ResourceWarning"),
 gt "RuntimeWarning" 117 (.type "RuntimeWarning"),
 gt "SyntaxWarning" 118 (.type "SyntaxWarning"),
 gt "UnicodeWarning" 119 (.type "UnicodeWarning"),
 gt "UserWarning" 120 (.type "UserWarning"),
 gt "BlockingIOError" 121 (.type "BlockingIOError"),
 gt "ChildProcessError" 122 (.type "ChildProcessError"),
 gt "ConnectionError" 123 (.type "ConnectionError"),
 gt "FileExistsError" 124 (.type "FileExistsError"),
 gt "FileNotFoundError" 125 (.type "FileNotFoundError"),
 gt "InterruptedError" 126 (.type "InterruptedError"),
 gt "IsADirectoryError" 127 (.type "IsADirectoryError"),
 gt "NotADirectoryError" 128 (.type "NotADirectoryError"),
 gt "PermissionError" 129 (.type "PermissionError"),
 gt "ProcessLookupError" 130 (.type "ProcessLookupError"),
 gt "TimeoutError" 131 (.type "TimeoutError"),
 gt "IndentationError" 132 (.type "IndentationError"),
 gt "_IncompleteInputError" 133 (.type "_IncompleteInputError"),
 gt "IndexError" 134 (.type "IndexError"),
 gt "KeyError" 135 (.type "KeyError"),
 gt "ModuleNotFoundError" 136 (.type "ModuleNotFoundError"),
 gt "NotImplementedError" 137 (.type "NotImplementedError"),
 gt "PythonFinalizationError" 138 (.type "PythonFinalizationError"),
 gt "RecursionError" 139 (.type "RecursionError"),
 gt "UnboundLocalError" 140 (.type "UnboundLocalError"),
 gt "UnicodeError" 141 (.type "UnicodeError"),
 gt "BrokenPipeError" 142 (.type "BrokenPipeError"),
 gt "ConnectionAbortedError" 143 (.type "ConnectionAbortedError"),
 gt "ConnectionRefusedError" 144 (.type "ConnectionRefusedError"),
 gt "ConnectionResetError" 145 (.type "ConnectionResetError"),
 gt "TabError" 146 (.type "TabError"),
 gt "UnicodeDecodeError" 147 (.type "UnicodeDecodeError"),
 gt "UnicodeEncodeError" 148 (.type "UnicodeEncodeError"),
 gt "UnicodeTranslateError" 149 (.type "UnicodeTranslateError"),
 gt "ExceptionGroup" 150 (.type "ExceptionGroup"),
 gt "EnvironmentError" 151 (.type "OSError"),
 gt "IOError" 152 (.type "OSError"),
 gt "open" 153 (.builtin "open"),
 gt "quit" 154 (.builtin "builtins.quit#opaque"),
 gt "exit" 155 (.builtin "builtins.exit#opaque"),
 gt "copyright" 156 (.builtin "builtins.copyright#opaque"),
 gt "credits" 157 (.builtin "builtins.credits#opaque"),
 gt "license" 158 (.builtin "builtins.license#opaque"),
 gt "help" 159 (.builtin "builtins.help#opaque")]
theorem obj3_is:∀ P:Params,(objs P)[3]?=some ⟨.type "dict",none,.dict (gtab.map fun e=>en P e.1 e.2.1 e.2.2).toArray 94,#[]⟩:=fun P=>by kernel_rfl
theorem obj0_is:∀ P:Params,(objs P)[0]?=some ⟨.type "dict",none,.dict (btab.map fun e=>en P e.1 e.2.1 e.2.2).toArray 159,#[]⟩:=fun P=>by kernel_rfl
section
structure Same(s s':Shared):Prop where
 g:s'.gens=s.gens
 d:s'.drawn=s.drawn
 o:s'.os=s.os
theorem Same.refl(s:Shared):Same s s:=⟨rfl,rfl,rfl⟩
theorem Same.trans{a b c:Shared}(x:Same a b)(y:Same b c):Same a c:=⟨y.g.trans x.g,y.d.trans x.d,y.o.trans x.o⟩
def W{α:Type}(w:World)(A:Around)(t:Sem α)(h:Heap)(Q:α→Heap→Prop):Prop:=
 ∀ s:Shared,s.heap=h→wpAny (model pw w) A t (fun a s'=>Same s s'∧Q a s'.heap) (fun _ _=>False) s
variable {w:World} {A:Around} {α:Type} {h:Heap} {E:Env} {L:Addr}
theorem W.use{t:Sem α}{Q:α→Heap→Prop}(H:W w A t h Q){s₀ s:Shared}(hs:s.heap=h)(hS:Same s₀ s){Q':α→Shared→Prop}{E:Value→Shared→Prop}
  (k:∀ a s',Same s₀ s'→Q a s'.heap→Q' a s'):wpAny (model pw w) A t Q' E s:=
 wpAny_mono (H s hs) (fun a s' p=>k a s' (hS.trans p.1) p.2) (fun _ _ p=>p.elim)
theorem W.mono{t:Sem α}{Q Q':α→Heap→Prop}(H:W w A t h Q)(k:∀ a h',Q a h'→Q' a h'):W w A t h Q':=
 fun s hs=>H.use hs (Same.refl s) fun a _ S q=>⟨S,k a _ q⟩
theorem W_pure{a:α}{Q:α→Heap→Prop}(q:Q a h):W w A (pure a:Sem α) h Q:=fun s hs=>wpAny_pure ⟨Same.refl s,hs▸q⟩
theorem W_bind{β:Type}{m:Sem α}{f:α→Sem β}{Q:β→Heap→Prop}(H:W w A m h fun a h'=>W w A (f a) h' Q):W w A (m >>= f) h Q:=fun s hs=>by
 refine wpAny_bind (H.use hs (Same.refl s) fun a s₁ S₁ H₁=>?_)
 exact H₁.use rfl S₁ fun b s₂ S₂ q=>⟨S₂,q⟩
theorem W_of{t:Sem α}{v:Nat→α}{Q:α→Heap→Prop}(H:∀ (s:Shared) (Q':α→Shared→Prop) (E:Value→Shared→Prop),s.heap=h→(∀ n k,Q' (v n) { s with toks:=k })→wpAny (model pw w) A t Q' E s)(q:∀ n,Q (v n) h):W w A t h Q:=
 fun s hs=>H s _ _ hs fun n _=>⟨⟨rfl,rfl,rfl⟩,hs▸q n⟩
def C(w:World)(A:Around)(c:Code)(h:Heap)(R:Flow→Heap→Prop):Prop:=
 ∀ s:Shared,s.heap=h→codeAny (model pw w) A c (fun r s'=>Same s s'∧match r with | .ok f=>R f s'.heap | .error _=>False) s
def St(w:World)(h:Heap):Prop:=∀ i o,(objs w.params)[i]?=some o→h.get? i=some o
theorem St.keeps{h h':Heap}(X:St w h)(k:∀ b o,h.get? b=some o→h'.get? b=some o):St w h':=fun i o e=>k _ _ (X i o e)
variable {ns gs:List Str} {B:Heap} {vs:List (Option Value)} {news:List (Addr×Obj)}
theorem not_class_of{k:ScopeKind}{b:Bool}(h:k=.function):(k == .class || (k == .module && b))=false:=by rw [h];rfl
theorem W_nil{Q:Flow→Heap→Prop}(q:Q .next h):W w A (execs [] E) h Q:=fun s hs=>wpAny_execs_nil ⟨Same.refl s,hs▸q⟩
noncomputable def Then(w:World)(A:Around)(E:Env)(r:List Stmt)(Q:Flow→Heap→Prop):Flow→Heap→Prop
 | .next,h=>W w A (execs r E) h Q
 | f,h=>Q f h
theorem W_cons{st:Stmt}{r:List Stmt}{Q:Flow→Heap→Prop}(H:W w A (exec st E) h (Then w A E r Q)):W w A (execs (st::r) E) h Q:=fun s hs=>by
 refine wpAny_execs_cons (H.use hs (Same.refl s) fun f s' S q=>?_)
 cases f with
 | next=>exact W.use q rfl S fun a s₂ S₂ q₂=>⟨S₂,q₂⟩
 | brk=>exact⟨S,q⟩
 | cont=>exact⟨S,q⟩
 | ret v=>exact⟨S,q⟩
theorem W_ret{e:Expr}{p:Pos}{Q:Flow→Heap→Prop}(H:W w A (eval e E) h fun v h'=>Q (.ret v) h'):W w A (exec (.Return (some e) p) E) h Q:=fun s hs=>
 wpAny_Return_some (H.use hs (Same.refl s) fun _ _ S q=>⟨S,q⟩)
theorem W_bin{l r:Expr}{op:Operator}{p:Pos}{Q:Value→Heap→Prop}(H:W w A (eval l E) h fun a h₁=>W w A (eval r E) h₁ fun b h₂=>W w A (binaryOp op a b) h₂ Q):W w A (eval (.BinOp l op r p) E) h Q:=fun s hs=>by
 refine wpAny_BinOp (H.use hs (Same.refl s) fun a s₁ S₁ H₁=>H₁.use rfl S₁ fun b s₂ S₂ H₂=>H₂.use rfl S₂ fun _ _ S q=>⟨S,q⟩)
theorem W_cmp{l r:Expr}{op:CmpOp}{p:Pos}{Q:Value→Heap→Prop}(hm:behindInMarks op r=false)(H:W w A (eval l E) h fun a h₁=>W w A (eval r E) h₁ fun b h₂=>W w A (compareOp op a b) h₂ Q):W w A (eval (.Compare l [op] [r] p) E) h Q:=fun s hs=>by
 refine wpAny_Compare1 (H.use hs (Same.refl s) fun a s₁ S₁ H₁=>H₁.use rfl S₁ fun b s₂ S₂ H₂=>H₂.use rfl S₂ fun _ _ S q=>⟨S,q⟩) hm
theorem W_if{t:Expr}{b o:List Stmt}{p:Pos}{Q:Flow→Heap→Prop}(H:W w A (isTrue t E (eval t E)) h fun c h'=>if c then W w A (execs b E) h' Q else W w A (execs o E) h' Q):W w A (exec (.If t b o p) E) h Q:=fun s hs=>by
 refine wpAny_If (H.use hs (Same.refl s) fun c s' S q=>?_)
 cases c with
 | true=>exact W.use (show W w A (execs b E) s'.heap Q from q) rfl S fun _ _ S q=>⟨S,q⟩
 | false=>exact W.use (show W w A (execs o E) s'.heap Q from q) rfl S fun _ _ S q=>⟨S,q⟩
theorem W_ife{t a b:Expr}{p:Pos}{Q:Value→Heap→Prop}(H:W w A (isTrue t E (eval t E)) h fun c h'=>if c then W w A (eval a E) h' Q else W w A (eval b E) h' Q):W w A (eval (.IfExp t a b p) E) h Q:=fun s hs=>by
 refine wpAny_IfExp (H.use hs (Same.refl s) fun c s' S q=>?_)
 cases c with
 | true=>exact W.use (show W w A (eval a E) s'.heap Q from q) rfl S fun _ _ S q=>⟨S,q⟩
 | false=>exact W.use (show W w A (eval b E) s'.heap Q from q) rfl S fun _ _ S q=>⟨S,q⟩
theorem W_tcmp{l r:Expr}{op:CmpOp}{p:Pos}{x:Sem Value}{Q:Bool→Heap→Prop}(hm:behindInMarks op r=false)(H:W w A (eval l E) h fun a h₁=>W w A (eval r E) h₁ fun b h₂=>W w A (compareOp op a b) h₂ fun c h₃=>W w A (truthy c) h₃ Q):W w A (isTrue (.Compare l [op] [r] p) E x) h Q:=fun s hs=>by
 refine wpAny_isTrue_Compare1 (H.use hs (Same.refl s) fun a s₁ S₁ H₁=>H₁.use rfl S₁ fun b s₂ S₂ H₂=>H₂.use rfl S₂ fun _ s₃ S₃ H₃=>H₃.use rfl S₃ fun _ _ S q=>⟨S,q⟩) hm
theorem W_tval{e:Expr}{Q:Bool→Heap→Prop}(he:isTrue e E (eval e E)=(do let v ←eval e E;standAt e.pos;holding [v] (truthy v)))(H:W w A (eval e E) h fun v h₁=>W w A (truthy v) h₁ Q):W w A (isTrue e E (eval e E)) h Q:=fun s hs=>by
 refine wpAny_isTrue_value (H.use hs (Same.refl s) fun v s₁ S₁ H₁=>H₁.use rfl S₁ fun _ _ S q=>⟨S,q⟩) he
theorem W_tand{l:List Expr}{p:Pos}{x:Sem Value}{Q:Bool→Heap→Prop}{op:BoolOp}(H:W w A (allTrue op l E) h Q):W w A (isTrue (.BoolOp op l p) E x) h Q:=fun s hs=>wpAny_isTrue_BoolOp (H.use hs (Same.refl s) fun _ _ S q=>⟨S,q⟩)
theorem W_and_nil{Q:Bool→Heap→Prop}(q:Q true h):W w A (allTrue .And [] E) h Q:=fun s hs=>wpAny_allTrue_And_nil ⟨Same.refl s,hs▸q⟩
theorem W_or_nil{Q:Bool→Heap→Prop}(q:Q false h):W w A (allTrue .Or [] E) h Q:=fun s hs=>wpAny_allTrue_Or_nil ⟨Same.refl s,hs▸q⟩
theorem W_and{x:Expr}{r:List Expr}{Q:Bool→Heap→Prop}(H:W w A (isTrue x E (eval x E)) h fun b h'=>if b then W w A (allTrue .And r E) h' Q else Q false h'):W w A (allTrue .And (x::r) E) h Q:=fun s hs=>by
 refine wpAny_allTrue_And_cons (H.use hs (Same.refl s) fun b s' S q=>?_)
 cases b with
 | true=>exact W.use (show W w A (allTrue .And r E) s'.heap Q from q) rfl S fun _ _ S q=>⟨S,q⟩
 | false=>exact⟨S,q⟩
theorem W_or{x:Expr}{r:List Expr}{Q:Bool→Heap→Prop}(H:W w A (isTrue x E (eval x E)) h fun b h'=>if b then Q true h' else W w A (allTrue .Or r E) h' Q):W w A (allTrue .Or (x::r) E) h Q:=fun s hs=>by
 refine wpAny_allTrue_Or_cons (H.use hs (Same.refl s) fun b s' S q=>?_)
 cases b with
 | true=>exact⟨S,q⟩
 | false=>exact W.use (show W w A (allTrue .Or r E) s'.heap Q from q) rfl S fun _ _ S q=>⟨S,q⟩
theorem W_tnot{x:Expr}{p:Pos}{y:Sem Value}{Q:Bool→Heap→Prop}(H:W w A (isTrue x E (eval x E)) h fun b h'=>Q (!b) h'):W w A (isTrue (.UnaryOp .Not x p) E y) h Q:=fun s hs=>wpAny_isTrue_Not (H.use hs (Same.refl s) fun _ _ S q=>⟨S,q⟩)
theorem W_tbool{b:Bool}{Q:Bool→Heap→Prop}(q:Q b h):W w A (truthy (.bool b)) h Q:=fun s hs=>wpAny_truthy_bool ⟨Same.refl s,hs▸q⟩
theorem W_asgn{x:Str}{q p:Pos}{e:Expr}{Q:Flow→Heap→Prop}(hs:swapsWith e (some (.Name x q)) p.line E=pure false)(H:W w A (eval e E) h fun v h'=>W w A (storeName E x v) h' fun _ h''=>Q .next h''):W w A (exec (.Assign [.Name x q] e p) E) h Q:=fun s hh=>by
 refine wpAny_Assign_Name (H.use hh (Same.refl s) fun v s₁ S₁ H₁=>H₁.use rfl S₁ fun _ _ S q=>⟨S,q⟩) hs
theorem W_asub{o i:Expr}{q p:Pos}{e:Expr}{Q:Flow→Heap→Prop}(hs:swapsWith e (some (.Subscript o i q)) p.line E=pure false)
  (H:W w A (eval e E) h fun v h₁=>W w A (eval o E) h₁ fun ov h₂=>W w A (eval i E) h₂ fun iv h₃=>W w A (setItem ov iv v) h₃ fun _ h₄=>Q .next h₄):W w A (exec (.Assign [.Subscript o i q] e p) E) h Q:=fun s hh=>by
 refine wpAny_Assign_Subscript (H.use hh (Same.refl s) fun v s₁ S₁ H₁=>H₁.use rfl S₁ fun _ s₂ S₂ H₂=>H₂.use rfl S₂ fun _ s₃ S₃ H₃=>H₃.use rfl S₃ fun _ _ S q=>⟨S,q⟩) hs
theorem W_expr{e:Expr}{p:Pos}{Q:Flow→Heap→Prop}(hi:interactive E=false)(hs:swapsWith e none p.line E=pure false)(H:W w A (eval e E) h fun _ h'=>Q .next h'):W w A (exec (.Expr e p) E) h Q:=fun s hh=>
 wpAny_Expr_any (H.use hh (Same.refl s) fun _ _ S q=>⟨S,q⟩) hi hs
theorem W_cint{i:Int}{k:Nat}{p:Pos}{Q:Value→Heap→Prop}(q:∀ t,Q (.int i t) h):W w A (eval (.Constant (.int i) k p) E) h Q:=fun s hs=>wpAny_Constant_int ⟨⟨rfl,rfl,rfl⟩,hs▸q _⟩
theorem W_cstr{x:Str}{k:Nat}{p:Pos}{Q:Value→Heap→Prop}(q:∀ t,Q (.str x t) h):W w A (eval (.Constant (.str x) k p) E) h Q:=fun s hs=>wpAny_Constant_str ⟨⟨rfl,rfl,rfl⟩,hs▸q _⟩
end
section
variable {w:World} {A:Around} {h:Heap} {E:Env} {L:Addr} {ns gs:List Str} {B:Heap} {vs:List (Option Value)} {news:List (Addr×Obj)}
structure Ar(n:Nat)(A:Around):Prop where
 hd:A.handled=none
 dp:A.depth+n < recursionLimit
 un:A.units+10 * n < cLine
 gd:A.guards=some []
theorem Ar.mono{m n:Nat}(x:Ar m A)(hn:n≤m):Ar n A:=⟨x.hd,by have:=x.dp;omega,by have:=x.un;omega,x.gd⟩
theorem Ar.deeper{n:Nat}(x:Ar (n+1) A)(E:Env):Ar n (A.deeper E):=⟨x.hd,by have:=x.dp;show A.depth+1+n < _;omega,by have:=x.un;show A.units+3+10 * n < _;omega,x.gd⟩
theorem stat_ns2:∀ P:Params,(objs P)[2]?=some ⟨.none,none,.dict #[en P "type.__subclasses__.Exception.0" 232 (.int (46) 0),en P "type.__subclasses__.Exception.n" 233 (.int (1) 0)] 2,#[]⟩:=fun P=>by kernel_rfl
theorem St.nolimit(X:St w h):h.NoLimit:=by
 refine⟨nsFind #[en w.params "type.__subclasses__.Exception.0" 232 (.int (46) 0),en w.params "type.__subclasses__.Exception.n" 233 (.int (1) 0)],⟨_,_,_,X 2 _ (stat_ns2 _),rfl,?_,fun _=>rfl⟩,?_⟩
 ·intro e he
  simp only [List.mem_toArray,List.mem_cons,List.not_mem_nil,or_false] at he
  rcases he with rfl | rfl <;> exact⟨_,_,rfl⟩
 ·kernel_rfl
noncomputable def fdOf(st:Stmt)(n q:Str)(d m c:Value):FuncData:={ name:=n,qualname:=q,params:=fnA st,body:=.stmts (fnB st),scope:=fnS st,globals:=3,closure:=[],defaults:=d,kwdefaults:=.none,pyModule:=m,code:=c }
structure FnAt(w:World)(a:Addr)(st:Stmt)(n q:Str)(d m:Value)(c:Addr):Prop where
 fn:(objs w.params)[a]?=some (fnO st n q d m (.ref c))
 cd:∃ oc vs t,(objs w.params)[c]?=some oc∧oc.data=.fields vs∧vs[1]?=some (.str q t)
theorem W_call{f:Value}{args:List Value}{Q:Value→Heap→Prop}(H:C w A (.call f ⟨args,[]⟩) h fun fl h'=>match fl with | .ret v=>Q v h' | _=>False):W w A (call f args) h Q:=fun s hs=>by
 refine wpAny_call (codeAny_mono (H s hs) fun r s' p=>?_)
 obtain⟨S,p⟩:=p
 cases r with
 | error e=>exact p.elim
 | ok f=>cases f with
  | ret v=>exact⟨S,p⟩
  | next=>exact p.elim
  | brk=>exact p.elim
  | cont=>exact p.elim
noncomputable def tfind(T:List (Str×Tok×Value))(x:Str):Option Value:=(T.find? fun e=>e.1 == x).map (·.2.2)
theorem nsFind_tab(P:Params)(x:Str):∀ T:List (Str×Tok×Value),nsFind (T.map fun e=>en P e.1 e.2.1 e.2.2).toArray x=tfind T x:=by
 intro T
 unfold nsFind findBy tfind
 rw [List.find?_toArray,List.find?_map,Option.map_map]
 rfl
theorem tfind_at:∀ {T:List (Str×Tok×Value)} {x:Str} {t:Tok} {v:Value} (i:Nat),(T.map (·.1)).Nodup→T[i]?=some (x,t,v)→tfind T x=some v
 | [],_,_,_,_,_,e=>by simp at e
 | y::T,x,t,v,0,_,e=>by
  obtain rfl:y=(x,t,v):=by simpa using e
  simp [tfind]
 | y::T,x,t,v,i+1,hd,e=>by
  have hd':=List.nodup_cons.mp hd
  have he:T[i]?=some (x,t,v):=by simpa using e
  have hne:(y.1 == x)=false:=by
   have:y.1 ≠ x:=fun z=>hd'.1 (List.mem_map.mpr ⟨(x,t,v),List.mem_of_getElem? he,z.symm⟩)
   simpa using this
  have ih:=tfind_at i hd'.2 he
  unfold tfind at ih ⊢
  rw [List.find?_cons,hne]
  exact ih
noncomputable def beqL:List Nat→List Nat→Bool
 | [],[]=>true
 | a::r,b::t=>match Nat.beq a b with
  | true=>beqL r t
  | false=>false
 | _,_=>false
theorem beqL_refl:∀ l:List Nat,beqL l l=true
 | []=>rfl
 | a::r=>by unfold beqL;rw [Nat.beq_refl];exact beqL_refl r
noncomputable def ndS:List Str→Bool
 | []=>true
 | x::r=>(r.all fun y=>!beqL x.cps.toList y.cps.toList) && ndS r
theorem ndS_of:∀ {l:List Str},ndS l=true→l.Nodup
 | [],_=>List.nodup_nil
 | x::r,h=>by
  obtain⟨a,b⟩:=Bool.and_eq_true_iff.mp h
  refine List.nodup_cons.mpr ⟨fun hx=>?_,ndS_of b⟩
  have:=List.all_eq_true.mp a x hx
  rw [beqL_refl] at this
  cases this
theorem gtab_nd:(gtab.map (·.1)).Nodup:=ndS_of (by kernel_rfl)
theorem btab_nd:(btab.map (·.1)).Nodup:=ndS_of (by kernel_rfl)
theorem strKeys_tab(P:Params)(T:List (Str×Tok×Value)):StrKeys (T.map fun e=>en P e.1 e.2.1 e.2.2).toArray:=by
 intro e he
 rw [List.mem_toArray] at he
 obtain⟨x,_,rfl⟩:=List.mem_map.mp he
 exact⟨_,_,rfl⟩
theorem St.gns(X:St w h):h.Ns mainGlobals (tfind gtab):=⟨_,_,_,X 3 _ (obj3_is _),rfl,strKeys_tab _ _,fun x=>nsFind_tab _ x gtab⟩
theorem St.bns(X:St w h):h.Ns builtinsNs (tfind btab):=⟨_,_,_,X 0 _ (obj0_is _),rfl,strKeys_tab _ _,fun x=>nsFind_tab _ x btab⟩
noncomputable def usedB:List Str:=["len","sorted","max","sum","str","isinstance","bytes","list","dict","tuple","set","range","enumerate","abs","ord","int","min","repr","bool","Exception"]
theorem usedB_look:(usedB.all fun x=>gtab.all fun e=>!beqL e.1.cps.toList x.cps.toList)=true:=by kernel_rfl
theorem usedB_ok{x:Str}(hx:x∈usedB):tfind gtab x=none:=by
 have:=List.all_eq_true.mp (List.all_eq_true.mp usedB_look x hx)
 unfold tfind
 rw [Option.map_eq_none_iff,List.find?_eq_none]
 intro e he q
 have h1:=this e he
 have h2:e.1=x:=by simpa using q
 rw [h2,beqL_refl] at h1
 cases h1
theorem W_callN{x:Str}{np p:Pos}{as:List Expr}{Q:Value→Heap→Prop}(H:W w A (eval (.Name x np) E) h fun f h'=>W w A (callWith p f [] (backTo p (starEach as E)) []) h' Q):W w A (eval (.Call (.Name x np) as [] p) E) h Q:=fun s hs=>
 PySem.wpAny_Call_NameR (H.use hs (Same.refl s) fun _ _ S H'=>H'.use rfl S fun _ _ S q=>⟨S,q⟩)
noncomputable def Args(w:World)(A:Around)(E:Env):List Expr→Heap→(List Value→Heap→Prop)→Prop
 | [],h,Q=>Q [] h
 | e::r,h,Q=>W w A (eval e E) h fun v h'=>Args w A E r h' fun vs h''=>Q (v::vs) h''
noncomputable def noStar:List Expr→Bool
 | []=>true
 | .Starred ..::_=>false
 | _::r=>noStar r
theorem starEach_plain:∀ {as:List Expr},noStar as=true→starEach as E=as.map fun e=>(false,eval e E)
 | [],_=>rfl
 | e::r,hn=>by
  cases e <;> first
   | (cases hn;done)
   | (have ih:=starEach_plain (as:=r) hn;show _::starEach r E=_;rw [ih];rfl)
theorem spliced_args{t:List (Bool×Sem Value)}{p:Pos}:∀ {as:List Expr} {h:Heap} {s₀ s:Shared} {Q:List Value→Heap→Prop},s.heap=h→Same s₀ s→noStar as=true→Args w A E as h Q→∀ {Q':List Value→Shared→Prop} {E':Value→Shared→Prop},(∀ vs s',Same s₀ s'→Q vs s'.heap→Q' vs s') →
   wpAny (model pw w) A (spliced (as.map fun e=>(false,eval e E))) Q' E' s
 | [],h,s₀,s,Q,hs,S,_,H,Q',E',k=>Calls.spliced_nil (k [] s S (hs▸H))
 | e::r,h,s₀,s,Q,hs,S,hn,H,Q',E',k=>by
  have hr:noStar r=true:=by cases e <;> first | (cases hn;done) | exact hn
  refine Calls.spliced_cons (W.use H hs S fun v s₁ S₁ H₁=>?_)
  exact spliced_args (t:=t) (p:=p) rfl S₁ hr H₁ fun vs s' S' q=>k (v::vs) s' S' q
theorem trees_plain{as:List Expr}(p:Pos)(hn:noStar as=true):backTo p (starEach as E)=as.map fun e=>(false,eval e E):=by
 rw [starEach_plain hn]
 unfold backTo
 rw [List.map_map]
 rfl
theorem trees_any{as:List Expr}:((as.map fun e=>(false,eval e E)).any (·.1))=false:=by
 induction as with
 | nil=>rfl
 | cons e r ih=>exact ih
theorem evalArgs_as{f:Value}:∀ {as:List Expr} {s₀ s:Shared} {Q:List Value→Heap→Prop},s.heap=h→Same s₀ s→noStar as=true→Args w A E as h Q→∀ {Q':PySem.Args→Shared→Prop} {E':Value→Shared→Prop},(∀ vs s',Same s₀ s'→Q vs s'.heap→Q' ⟨vs,[]⟩ s') →
   wpAny (model pw w) A (evalArgs f true (as.map fun e=>(false,eval e E)) []) Q' E' s
 | [],s₀,s,Q,hs,S,_,H,Q',E',k=>PySem.evalArgs_none (k [] s S (hs▸H))
 | e::r,s₀,s,Q,hs,S,hn,H,Q',E',k=>Calls.evalArgs_plain (spliced_args (t:=[]) (p:=default) (as:=e::r) hs S hn H k)
theorem W_cwB{id:String}{p:Pos}{fst:List Value}{as:List Expr}{Q:Value→Heap→Prop}(hn:noStar as=true)(H:Args w A E as h fun vs h'=>W w A (call (.builtin id) (fst++vs)) h' Q):W w A (callWith p (.builtin id) fst (backTo p (starEach as E)) []) h Q:=fun s hs=>by
 rw [trees_plain p hn]
 exact Calls.callWith_builtin trees_any (evalArgs_as hs (Same.refl s) hn H fun vs s' S q=>W.use q rfl S fun _ _ S q=>⟨S,q⟩)
theorem W_cwT{id:String}{p:Pos}{fst:List Value}{as:List Expr}{Q:Value→Heap→Prop}(hn:noStar as=true)(H:Args w A E as h fun vs h'=>W w A (call (.type id) (fst++vs)) h' Q):W w A (callWith p (.type id) fst (backTo p (starEach as E)) []) h Q:=fun s hs=>by
 rw [trees_plain p hn]
 exact PyProof.Rows.callWith_type trees_any (evalArgs_as hs (Same.refl s) hn H fun vs s' S q=>W.use q rfl S fun _ _ S q=>⟨S,q⟩)
theorem W_cwF{a c:Addr}{st:Stmt}{n q:Str}{d m:Value}{p:Pos}{fst:List Value}{as:List Expr}{Q:Value→Heap→Prop}(FA:FnAt w a st n q d m c)(hn:noStar as=true)
  (H:Args w A E as h fun vs h'=>St w h'∧W w A (call (.ref a) (fst++vs)) h' Q):W w A (callWith p (.ref a) fst (backTo p (starEach as E)) []) h Q:=fun s hs=>by
 rw [trees_plain p hn]
 exact Calls.callWith_function (evalArgs_as hs (Same.refl s) hn H fun vs s' S q=>⟨⟨q.1 _ _ FA.fn,rfl⟩,W.use q.2 rfl S fun _ _ S q=>⟨S,q⟩⟩)
noncomputable def KF(P:Params):Frag:=(List.range' 0 919).zip (objs P)
theorem zip_lookup:∀ (l:List Obj) (k n a:Nat) (o:Obj),((List.range' k n).zip l).lookup a=some o→k≤a∧l[a - k]?=some o
 | [],k,n,a,o,e=>by simp at e
 | x::l,k,0,a,o,e=>by simp at e
 | x::l,k,n+1,a,o,e=>by
  rw [List.range'_succ,List.zip_cons_cons,List.lookup_cons] at e
  by_cases q:a=k
  ·subst q
   simp only [beq_self_eq_true] at e
   cases e
   simp
  ·have q':(a == k)=false:=by simpa using q
   rw [q'] at e
   obtain⟨h1,h2⟩:=zip_lookup l (k+1) n a o e
   refine⟨by omega,?_⟩
   have:a - k=(a - (k+1))+1:=by omega
   rw [this]
   simpa using h2
theorem St.kin(X:St w h):(KF w.params).In h:=fun a o e=>X a o (by have:=(zip_lookup _ _ _ _ _ e).2;simpa using this)
theorem W_attr{e:Expr}{a:Str}{p:Pos}{Q:Value→Heap→Prop}(he:eval (.Attribute e a p) E=(do
   let o ←eval e E
   standAt p.atName
   let r ←holding [o] (getAttr o a true)
   letTemporaryGo e o r
   pure r)) (H:W w A (eval e E) h fun o h'=>W w A (getAttr o a true) h' Q):W w A (eval (.Attribute e a p) E) h Q:=fun s hs=>
 Attribute_any_ (H.use hs (Same.refl s) fun _ _ S H'=>H'.use rfl S fun _ _ S q=>⟨S,q⟩) he
theorem W_callM{o:Expr}{a:Str}{ap p:Pos}{as:List Expr}{Q:Value→Heap→Prop}{pl:Sem Bool}
  (he:eval (.Call (.Attribute o a ap) as [] p) E=(do
   let ov ←eval o E
   standAt ap.atName
   let (f,first) ←holding [ov] (getMethod ov a pl)
   callWith p f first (backTo p (starEach as E)) (backToKw p (keywordEach [] E))))
  (H:W w A (eval o E) h fun ov h₁=>W w A (getMethod ov a pl) h₁ fun fx h₂=>W w A (callWith p fx.1 fx.2 (backTo p (starEach as E)) []) h₂ Q):W w A (eval (.Call (.Attribute o a ap) as [] p) E) h Q:=fun s hs=>
 methodCall_KW (pl:=pl) (H.use hs (Same.refl s) fun _ _ S H'=>H'.use rfl S fun _ _ S H''=>W.use H'' rfl S fun _ _ S q=>⟨S,q⟩) he
end
noncomputable def clsList:List Addr:=[192,318,389,515,663,818]
theorem cls_ok:∀ P:Params,(clsList.all fun C=>plainGet (KF P) C "x" && hasDictIn (KF P) C && plainOver (KF P) C && makesIn (KF P) C && (findIn (KF P) (.ref C) "__setattr__" == some (some (.builtin "object.__setattr__"))))=true:=fun P=>by kernel_rfl
section
theorem so{α σ:Type}{a:α}{b:σ}{x:α}{y:σ}{P:α→σ→Prop}(e:some (a,b)=some (x,y))(p:P a b):P x y:=by cases e;exact p
theorem so1{α:Type}{a x:α}{P:α→Prop}(e:some a=some x)(p:P a):P x:=by cases e;exact p
theorem so2{α σ:Type}{a:α}{b:σ}{x:α}{y:σ}{P:α→σ→Prop}(e:(a,b)=(x,y))(p:P a b):P x y:=by cases e;exact p
theorem so3{α:Type}{a x:α}{P:α→Prop}(e:a=x)(p:P a):P x:=by cases e;exact p
theorem no1{α:Type}{x:α}{P:Prop}(e:Option.none=some x):P:=by cases e
theorem no2{α:Type}{x:α}{P:Prop}(e:some x=Option.none):P:=by cases e
theorem no3{P:Prop}(e:false=true):P:=by cases e
theorem omE{α β:Type}{o:Option α}{f:α→β}{y:β}{P:Prop}(e:o.map f=some y)(k:∀ x,o=some x→f x=y→P):P:=by
 induction o with
 | none=>exact no1 e
 | some x=>cases e;exact k x rfl rfl
theorem obE{α β:Type}{o:Option α}{f:α→Option β}{y:β}{P:Prop}(e:o.bind f=some y)(k:∀ x,o=some x→f x=some y→P):P:=by
 induction o with
 | none=>exact no1 e
 | some x=>exact k x rfl e
theorem ex02{A0 A1:Prop}{P:Prop}(h:A0∧A1)(k:A0→A1→P):P:=let ⟨h0,h1⟩:=h;k h0 h1
theorem ex11{α0:Sort _}{A0:α0→Prop}{P:Prop}(h:∃ x0,A0 x0)(k:∀ x0,A0 x0→P):P:=let ⟨x0,h0⟩:=h;k x0 h0
theorem ex12{α0:Sort _}{A0 A1:α0→Prop}{P:Prop}(h:∃ x0,A0 x0∧A1 x0)(k:∀ x0,A0 x0→A1 x0→P):P:=let ⟨x0,h0,h1⟩:=h;k x0 h0 h1
theorem ex13{α0:Sort _}{A0 A1 A2:α0→Prop}{P:Prop}(h:∃ x0,A0 x0∧A1 x0∧A2 x0)(k:∀ x0,A0 x0→A1 x0→A2 x0→P):P:=let ⟨x0,h0,h1,h2⟩:=h;k x0 h0 h1 h2
theorem ex21{α0 α1:Sort _}{A0:α0→α1→Prop}{P:Prop}(h:∃ x0 x1,A0 x0 x1)(k:∀ x0 x1,A0 x0 x1→P):P:=let ⟨x0,x1,h0⟩:=h;k x0 x1 h0
theorem ex22{α0 α1:Sort _}{A0 A1:α0→α1→Prop}{P:Prop}(h:∃ x0 x1,A0 x0 x1∧A1 x0 x1)(k:∀ x0 x1,A0 x0 x1→A1 x0 x1→P):P:=let ⟨x0,x1,h0,h1⟩:=h;k x0 x1 h0 h1
theorem ex23{α0 α1:Sort _}{A0 A1 A2:α0→α1→Prop}{P:Prop}(h:∃ x0 x1,A0 x0 x1∧A1 x0 x1∧A2 x0 x1)(k:∀ x0 x1,A0 x0 x1→A1 x0 x1→A2 x0 x1→P):P:=let ⟨x0,x1,h0,h1,h2⟩:=h;k x0 x1 h0 h1 h2
theorem ex31{α0 α1 α2:Sort _}{A0:α0→α1→α2→Prop}{P:Prop}(h:∃ x0 x1 x2,A0 x0 x1 x2)(k:∀ x0 x1 x2,A0 x0 x1 x2→P):P:=let ⟨x0,x1,x2,h0⟩:=h;k x0 x1 x2 h0
theorem ex32{α0 α1 α2:Sort _}{A0 A1:α0→α1→α2→Prop}{P:Prop}(h:∃ x0 x1 x2,A0 x0 x1 x2∧A1 x0 x1 x2)(k:∀ x0 x1 x2,A0 x0 x1 x2→A1 x0 x1 x2→P):P:=let ⟨x0,x1,x2,h0,h1⟩:=h;k x0 x1 x2 h0 h1
theorem ex33{α0 α1 α2:Sort _}{A0 A1 A2:α0→α1→α2→Prop}{P:Prop}(h:∃ x0 x1 x2,A0 x0 x1 x2∧A1 x0 x1 x2∧A2 x0 x1 x2)(k:∀ x0 x1 x2,A0 x0 x1 x2→A1 x0 x1 x2→A2 x0 x1 x2→P):P:=let ⟨x0,x1,x2,h0,h1,h2⟩:=h;k x0 x1 x2 h0 h1 h2
theorem ex41{α0 α1 α2 α3:Sort _}{A0:α0→α1→α2→α3→Prop}{P:Prop}(h:∃ x0 x1 x2 x3,A0 x0 x1 x2 x3)(k:∀ x0 x1 x2 x3,A0 x0 x1 x2 x3→P):P:=let ⟨x0,x1,x2,x3,h0⟩:=h;k x0 x1 x2 x3 h0
theorem ex43{α0 α1 α2 α3:Sort _}{A0 A1 A2:α0→α1→α2→α3→Prop}{P:Prop}(h:∃ x0 x1 x2 x3,A0 x0 x1 x2 x3∧A1 x0 x1 x2 x3∧A2 x0 x1 x2 x3)(k:∀ x0 x1 x2 x3,A0 x0 x1 x2 x3→A1 x0 x1 x2 x3→A2 x0 x1 x2 x3→P):P:=let ⟨x0,x1,x2,x3,h0,h1,h2⟩:=h;k x0 x1 x2 x3 h0 h1 h2
theorem ex34{α0 α1 α2:Sort _}{A0 A1 A2 A3:α0→α1→α2→Prop}{P:Prop}(h:∃ x0 x1 x2,A0 x0 x1 x2∧A1 x0 x1 x2∧A2 x0 x1 x2∧A3 x0 x1 x2)(k:∀ x0 x1 x2,A0 x0 x1 x2→A1 x0 x1 x2→A2 x0 x1 x2→A3 x0 x1 x2→P):P:=let ⟨x0,x1,x2,h0,h1,h2,h3⟩:=h;k x0 x1 x2 h0 h1 h2 h3
theorem ex44{α0 α1 α2 α3:Sort _}{A0 A1 A2 A3:α0→α1→α2→α3→Prop}{P:Prop}(h:∃ x0 x1 x2 x3,A0 x0 x1 x2 x3∧A1 x0 x1 x2 x3∧A2 x0 x1 x2 x3∧A3 x0 x1 x2 x3)(k:∀ x0 x1 x2 x3,A0 x0 x1 x2 x3→A1 x0 x1 x2 x3→A2 x0 x1 x2 x3→A3 x0 x1 x2 x3→P):P:=let ⟨x0,x1,x2,x3,h0,h1,h2,h3⟩:=h;k x0 x1 x2 x3 h0 h1 h2 h3
inductive K where
 | int (i:Int)
 | str (s:List Nat)
 deriving DecidableEq
inductive T where
 | none
 | bool (b:Bool)
 | int (i:Int)
 | str (s:List Nat)
 | bytes (b:List UInt8)
 | con (v:Value)
 | tup (xs:List T)
 | list (xs:List T)
 | dict (es:List (K×T))
 | inst (C:Addr) (es:List (List Nat×T))
inductive V where
 | t (x:T)
 | loc (i:Nat)
 | lst (is:List Nat)
inductive MO where
 | list (xs:List T)
 | dict (es:List (K×T))
 | inst (C:Addr) (d:Nat)
 | attrs (es:List (List Nat×V))
 | lists (xs:List V)
 | gone
structure S where
 ls:List (Option V)
 cl:List (Option V)
 o:List MO
noncomputable abbrev Base:=Addr→Option Obj
def Base.Le(B B':Base):Prop:=∀ a o,B a=some o→B' a=some o
theorem Base.Le.refl(B:Base):B.Le B:=fun _ _ e=>e
theorem Base.Le.trans{A B C:Base}(x:A.Le B)(y:B.Le C):A.Le C:=fun a o e=>y a o (x a o e)
noncomputable abbrev seqObj(c:String)(vs:List Value)(n:Nat):Obj:=⟨.type c,none,.seq vs.toArray n,#[]⟩
noncomputable abbrev dicObj(es:List DictEntry)(n:Nat):Obj:=⟨.type "dict",none,.dict es.toArray n,#[]⟩
noncomputable def KeyIs(w:World)(e:DictEntry):K→Prop
 | .int i=>(∃ t,e.key=.int i t)∧e.hash=hashInt i
 | .str s=>(∃ t,e.key=.str ⟨s.toArray⟩ t)∧e.hash=hashStr w ⟨s.toArray⟩
def NameIs(e:DictEntry)(x:List Nat):Prop:=∃ t,e.key=.str ⟨x.toArray⟩ t
inductive All2{α β:Type}(R:α→β→Prop):List α→List β→Prop where
 | nil:All2 R [] []
 | cons {a b l m}:R a b→All2 R l m→All2 R (a::l) (b::m)
namespace All2
variable {α β:Type} {R R':α→β→Prop}
theorem of_len:∀ {l:List α} {m:List β},l.length=m.length→(∀ (i:Nat) a b,l[i]?=some a→m[i]?=some b→R a b)→All2 R l m
 | [],[],_,_=>.nil
 | a::l,b::m,h,k=>.cons (k 0 a b rfl rfl) (of_len (by simpa using h) fun i a b x y=>k (i+1) a b (by simpa using x) (by simpa using y))
 | [],_::_,h,_=>by simp at h
 | _::_,[],h,_=>by simp at h
theorem len{l:List α}{m:List β}(x:All2 R l m):l.length=m.length:=by
 induction x with
 | nil=>rfl
 | cons _ _ ih=>simp [ih]
theorem get{l:List α}{m:List β}(x:All2 R l m):∀ {i:Nat} {a:α} {b:β},l[i]?=some a→m[i]?=some b→R a b:=by
 induction x with
 | nil=>intro i a b h;simp at h
 | cons r _ ih=>
  intro i a b h k
  induction i with
  | zero=>simp at h k;exact h▸k▸r
  | succ i=>exact ih (by simpa using h) (by simpa using k)
theorem mono{l:List α}{m:List β}(x:All2 R l m)(h:∀ a b,R a b→R' a b):All2 R' l m:=by
 induction x with
 | nil=>exact .nil
 | cons r _ ih=>exact .cons (h _ _ r) ih
theorem append{l l':List α}{m m':List β}(x:All2 R l m)(y:All2 R l' m'):All2 R (l++l') (m++m'):=by
 induction x with
 | nil=>exact y
 | cons r _ ih=>exact .cons r ih
theorem some_left{l:List α}{m:List β}(x:All2 R l m){i:Nat}{b:β}(h:m[i]?=some b):∃ a,l[i]?=some a∧R a b:=by
 have hl:=x.len
 have hi:=(List.getElem?_eq_some_iff.mp h).1
 have e:l[i]?=some l[i]:=List.getElem?_eq_getElem (by omega)
 exact⟨_,e,x.get e h⟩
theorem some_right{l:List α}{m:List β}(x:All2 R l m){i:Nat}{a:α}(h:l[i]?=some a):∃ b,m[i]?=some b∧R a b:=by
 have hl:=x.len
 have hi:=(List.getElem?_eq_some_iff.mp h).1
 have e:m[i]?=some m[i]:=List.getElem?_eq_getElem (by omega)
 exact⟨_,e,x.get h e⟩
theorem take{l:List α}{m:List β}(x:All2 R l m)(n:Nat):All2 R (l.take n) (m.take n):=by
 induction x generalizing n with
 | nil=>simp;exact .nil
 | cons r _ ih=>induction n with
  | zero=>simp;exact .nil
  | succ n=>simp;exact .cons r (ih n)
theorem drop{l:List α}{m:List β}(x:All2 R l m)(n:Nat):All2 R (l.drop n) (m.drop n):=by
 induction x generalizing n with
 | nil=>simp;exact .nil
 | cons r y ih=>induction n with
  | zero=>simp;exact .cons r y
  | succ n=>simpa using ih n
theorem set{l:List α}{m:List β}(x:All2 R l m)(n:Nat){a:α}{b:β}(r:R a b):All2 R (l.set n a) (m.set n b):=by
 induction x generalizing n with
 | nil=>simp;exact .nil
 | cons r' y ih=>induction n with
  | zero=>simp;exact .cons r y
  | succ n=>simpa using All2.cons r' (ih n)
end All2
def DicOk(a:Addr)(kvs:List (K×T)):Prop:=(a == sysModules)=false∧(kvs.map (·.1)).Nodup
inductive Is(w:World)(B:Base):Value→T→Prop where
 | none:Is w B .none .none
 | bool (b):Is w B (.bool b) (.bool b)
 | int (i t):Is w B (.int i t) (.int i)
 | str (s t):Is w B (.str ⟨s.toArray⟩ t) (.str s)
 | bytes (b t):Is w B (.bytes b.toArray t) (.bytes b)
 | con (v):Is w B v (.con v)
 | tup {a vs n xs}:B a=some (seqObj "tuple" vs n)→vs.length=xs.length→(∀ (i:Nat) v x,vs[i]?=some v→xs[i]?=some x→Is w B v x)→Is w B (.ref a) (.tup xs)
 | list {a vs n xs}:B a=some (seqObj "list" vs n)→vs.length=xs.length→(∀ (i:Nat) v x,vs[i]?=some v→xs[i]?=some x→Is w B v x)→Is w B (.ref a) (.list xs)
 | dict {a es n kvs}:DicOk a kvs→B a=some (dicObj es n)→es.length=kvs.length→(∀ (i:Nat) e k x,es[i]?=some e→kvs[i]?=some (k,x)→KeyIs w e k) →
   (∀ (i:Nat) e k x,es[i]?=some e→kvs[i]?=some (k,x)→Is w B e.val x)→Is w B (.ref a) (.dict kvs)
 | inst {a d C es n kvs}:B a=some (instObj C d)→B d=some (dicObj es n)→es.length=kvs.length→(∀ (i:Nat) e k x,es[i]?=some e→kvs[i]?=some (k,x)→NameIs e k) →
   (∀ (i:Nat) e k x,es[i]?=some e→kvs[i]?=some (k,x)→Is w B e.val x)→Is w B (.ref a) (.inst C kvs)
theorem Is.mono{w:World}{B B':Base}{v:Value}{t:T}(x:Is w B v t)(h:B.Le B'):Is w B' v t:=by
 induction x with
 | none=>exact .none
 | bool b=>exact .bool b
 | int i t=>exact .int i t
 | str s t=>exact .str s t
 | bytes b t=>exact .bytes b t
 | con v=>exact .con v
 | tup e l _ ih=>exact .tup (h _ _ e) l ih
 | list e l _ ih=>exact .list (h _ _ e) l ih
 | dict z e l k _ ih=>exact .dict z (h _ _ e) l k ih
 | inst e e' l k _ ih=>exact .inst (h _ _ e) (h _ _ e') l k ih
noncomputable abbrev Seq(w:World)(B:Base):List Value→List T→Prop:=All2 (Is w B)
def Ent(w:World)(B:Base)(e:DictEntry)(p:K×T):Prop:=KeyIs w e p.1∧Is w B e.val p.2
def Att(w:World)(B:Base)(e:DictEntry)(p:List Nat×T):Prop:=NameIs e p.1∧Is w B e.val p.2
noncomputable abbrev Dic(w:World)(B:Base):List DictEntry→List (K×T)→Prop:=All2 (Ent w B)
theorem Ent.mono{w:World}{B B':Base}{e:DictEntry}{p:K×T}(x:Ent w B e p)(h:B.Le B'):Ent w B' e p:=⟨x.1,x.2.mono h⟩
theorem Is.of_tup{w:World}{B:Base}{a:Addr}{vs:List Value}{n:Nat}{xs:List T}(e:B a=some (seqObj "tuple" vs n))(s:Seq w B vs xs):Is w B (.ref a) (.tup xs):=.tup e s.len fun _ _ _=>s.get
theorem Is.of_list{w:World}{B:Base}{a:Addr}{vs:List Value}{n:Nat}{xs:List T}(e:B a=some (seqObj "list" vs n))(s:Seq w B vs xs):Is w B (.ref a) (.list xs):=.list e s.len fun _ _ _=>s.get
theorem Is.of_dict{w:World}{B:Base}{a:Addr}{es:List DictEntry}{n:Nat}{xs:List (K×T)}(z:DicOk a xs)(e:B a=some (dicObj es n))(s:Dic w B es xs):Is w B (.ref a) (.dict xs):=
 .dict z e s.len (fun _ _ _ _ x y=>(s.get x y).1) (fun _ _ _ _ x y=>(s.get x y).2)
theorem Is.of_inst{w:World}{B:Base}{a d C:Addr}{es:List DictEntry}{n:Nat}{xs:List (List Nat×T)}(e:B a=some (instObj C d))(e':B d=some (dicObj es n))(s:All2 (Att w B) es xs):Is w B (.ref a) (.inst C xs):=
 .inst e e' s.len (fun _ _ _ _ x y=>(s.get x y).1) (fun _ _ _ _ x y=>(s.get x y).2)
noncomputable def RelV(w:World)(ρ:List Addr)(B:Base)(v:Value):V→Prop
 | .t x=>Is w B v x
 | .loc i=>∃ a,ρ[i]?=some a∧v=.ref a
 | .lst is=>∃ a vs n,v=.ref a∧B a=some (seqObj "list" vs n)∧All2 (fun v i=>∃ x,ρ[i]?=some x∧v=.ref x) vs is
noncomputable def ORel(w:World)(ρ:List Addr)(B:Base):Option Value→Option V→Prop
 | some v,some x=>RelV w ρ B v x
 | _,none=>True
 | none,some _=>False
noncomputable def ObjAt(w:World)(ρ:List Addr)(B:Base)(h:Heap)(a:Addr):MO→Prop
 | .list xs=>∃ vs n,h.get? a=some (seqObj "list" vs n)∧Seq w B vs xs
 | .dict xs=>∃ es n,h.get? a=some (dicObj es n)∧Dic w B es xs∧DicOk a xs
 | .inst C d=>∃ dx,ρ[d]?=some dx∧h.get? a=some (instObj C dx)
 | .attrs xs=>∃ es n,h.get? a=some (dicObj es n)∧All2 (fun e (p:List Nat×V)=>NameIs e p.1∧RelV w ρ B e.val p.2) es xs
 | .lists xs=>∃ vs n,h.get? a=some (seqObj "list" vs n)∧All2 (RelV w ρ B) vs xs
 | .gone=>∃ o,h.get? a=some o
structure Frm where
 w:World
 A:Around
 E:Env
 L:Addr
 ca:List Addr
 B0:Base
 N:Addr→Prop
 k:Nat
 r:Nat
noncomputable abbrev Frm.own(F:Frm)(ρ:List Addr):List Addr:=F.L::(F.ca++ρ)
structure Nm(F:Frm)(ln cn gs:List Str):Prop where
 kind:F.E.scope.kind=.function
 loc:F.E.locals=F.L
 glob:F.E.globals=mainGlobals
 blt:F.E.builtins=builtinsNs
 lk:∀ x∈ln,F.E.kindOf x=some .local∧(x == ("__debug__":Str))=false
 ck:∀ (i:Nat) x,cn[i]?=some x→F.E.kindOf x=some .cell∧(x == ("__debug__":Str))=false∧∃ c,F.ca[i]?=some c∧F.E.cells.lookup x=some c
 gk:∀ x∈gs,F.E.kindOf x=some .globalImplicit∧(x == ("__debug__":Str))=false
 nd:ln.Nodup
 ar:Ar F.r F.A
structure Rel(F:Frm)(ln:List Str)(ρ:List Addr)(B:Base)(s:S)(h:Heap):Prop where
 st:∀ i o,(objs F.w.params)[i]?=some o→B i=some o
 le:∀ a o,B a=some o→h.get? a=some o
 up:F.B0.Le B
 new:∀ a o,B a=some o→F.B0 a=some o∨¬F.N a
 nsz:∀ a,F.N a→∃ o,h.get? a=some o
 nd:(F.own ρ).Nodup
 out:∀ a∈F.own ρ,∃ o,h.get? a=some o
 bn:∀ a∈F.L::F.ca,B a=none
 br:∀ (i:Nat) a o,ρ[i]?=some a→s.o[i]?=some o→o ≠ .gone→B a=none
 pre:∀ (i:Nat) a,ρ[i]?=some a→F.k≤i→¬F.N a
 loc:∃ m,h.Ns F.L m∧∀ (i:Nat) x,ln[i]?=some x→ORel F.w ρ B (m x) (s.ls[i]?.getD none)
 cel:∀ (i:Nat) c,F.ca[i]?=some c→∃ v,h.IsCell c v∧ORel F.w ρ B v (s.cl[i]?.getD none)
 len:ρ.length=s.o.length
 led:∀ (i:Nat) a o,ρ[i]?=some a→s.o[i]?=some o→ObjAt F.w ρ B h a o
 kle:F.k≤ρ.length
structure Step(F:Frm)(ρ:List Addr)(B:Base)(h:Heap)(ρ':List Addr)(B':Base)(h':Heap):Prop where
 pre:∃ t,ρ'=ρ++t∧∀ a∈t,h.get? a=none
 up:B.Le B'
 keep:∀ b o,h.get? b=some o→b ∉ F.own ρ→h'.get? b=some o
 sz:∀ b o,h.get? b=some o→∃ o',h'.get? b=some o'
 bn:∀ a o,B' a=some o→B a=some o∨h.get? a=none∨a∈F.own ρ
theorem own_app{F:Frm}{ρ t:List Addr}{a:Addr}(h:a∈F.own (ρ++t)):a∈F.own ρ∨a∈t:=by
 have e:F.own (ρ++t)=F.own ρ++t:=by simp [Frm.own]
 exact List.mem_append.mp (e▸h)
theorem All2.monoM{α β:Type}{R R':α→β→Prop}{l:List α}{m:List β}(x:All2 R l m):(∀ a b,b∈m→R a b→R' a b)→All2 R' l m:=by
 induction x with
 | nil=>exact fun _=>.nil
 | cons r _ ih=>exact fun h=>.cons (h _ _ (.head _) r) (ih fun a b hb=>h a b (.tail _ hb))
theorem Step.refl(F:Frm)(ρ:List Addr)(B:Base)(h:Heap):Step F ρ B h ρ B h:=⟨⟨[],by simp,by simp⟩,.refl B,fun _ _ e _=>e,fun _ o e=>⟨o,e⟩,fun _ _ e=>.inl e⟩
theorem Step.trans{F:Frm}{ρ ρ' ρ'':List Addr}{B B' B'':Base}{h h' h'':Heap}(x:Step F ρ B h ρ' B' h')(y:Step F ρ' B' h' ρ'' B'' h''):Step F ρ B h ρ'' B'' h'':=by
 obtain⟨t,rfl,ht⟩:=x.pre
 obtain⟨u,rfl,hu⟩:=y.pre
 have fr:∀ a,h'.get? a=none→h.get? a=none:=fun a e=>Option.eq_none_iff_forall_ne_some.mpr fun o q=>(x.sz a o q).elim fun o' z=>no1 (e.symm.trans z)
 refine⟨⟨t++u,List.append_assoc ..,fun a ha=>(List.mem_append.mp ha).elim (ht a) fun q=>fr a (hu a q)⟩,x.up.trans y.up,fun b o e n=>y.keep b o (x.keep b o e n) fun hm=>(own_app hm).elim n fun q=>no1 ((ht b q).symm.trans e),
  fun b o e=>(x.sz b o e).elim fun _ e'=>y.sz b _ e',fun a o e=>(y.bn a o e).elim (x.bn a o) fun z=>z.elim (fun z=>.inr (.inl (fr a z))) fun z=>(own_app z).elim (fun q=>.inr (.inr q)) fun q=>.inr (.inl (ht a q))⟩
theorem RelV.step{F:Frm}{ρ ρ':List Addr}{B B':Base}{h h':Heap}(x:Step F ρ B h ρ' B' h'){v:Value}{a:V}(r:RelV F.w ρ B v a):RelV F.w ρ' B' v a:=by
 cases a with
 | t a=>exact Is.mono r x.up
 | loc i=>
  obtain⟨a,e,rfl⟩:=r
  obtain⟨t,rfl,_⟩:=x.pre
  exact⟨a,by rw [List.getElem?_append_left (List.getElem?_eq_some_iff.mp e).1];exact e,rfl⟩
 | lst is=>
  obtain⟨a,vs,n,rfl,e,q⟩:=r
  obtain⟨t,rfl,_⟩:=x.pre
  exact⟨a,vs,n,rfl,x.up _ _ e,q.mono fun _ _ ⟨y,e,z⟩=>⟨y,by rw [List.getElem?_append_left (List.getElem?_eq_some_iff.mp e).1];exact e,z⟩⟩
noncomputable abbrev Den(β:Type):=S→Option (β×S)
noncomputable def Den.bind{β γ:Type}(d:Den β)(f:β→Den γ):Den γ:=fun s=>match d s with
 | some p=>f p.1 p.2
 | none=>none
theorem Den.bindE{β γ:Type}{d:Den β}{f:β→Den γ}{s s':S}{r:γ}{P:Prop}(e:d.bind f s=some (r,s'))(k:∀ x s1,d s=some (x,s1)→f x s1=some (r,s')→P):P:=by
 unfold Den.bind at e
 generalize d s=o at e k
 induction o with
 | none=>exact no1 e
 | some p=>exact k p.1 p.2 rfl e
noncomputable def Den.opt{β γ:Type}(d:Den β)(f:S→β→Option γ):Den γ:=d.bind fun x s1=>(f s1 x).map fun r=>(r,s1)
theorem Den.optE{β γ:Type}{d:Den β}{f:S→β→Option γ}{s s':S}{r:γ}{P:Prop}(e:d.opt f s=some (r,s'))(k:∀ x,d s=some (x,s')→f s' x=some r→P):P:=
 Den.bindE e fun x s1 e1 e=>omE e fun r' e2 e3=>k x (by injection e3 with a b;exact b▸e1) (by injection e3 with a b;exact a▸b▸e2)
inductive Out(F:Frm)(ln:List Str){α β:Type}(R:Heap→List Addr→Base→Heap→α→β→Prop)(ρ:List Addr)(B:Base)(h:Heap)(x:β)(s':S)(a:α)(h':Heap):Prop where
 | mk (ρ':List Addr) (B':Base) (st:Step F ρ B h ρ' B' h') (X:Rel F ln ρ' B' s' h') (r:R h ρ' B' h' a x)
inductive Ou(F:Frm)(ln:List Str)(ρ:List Addr)(B:Base)(h:Heap)(s':S)(h':Heap):Prop where
 | mk (ρ':List Addr) (B':Base) (st:Step F ρ B h ρ' B' h') (X:Rel F ln ρ' B' s' h')
abbrev RV(F:Frm)(_:Heap)(ρ:List Addr)(B:Base)(_:Heap)(v:Value)(x:V):Prop:=RelV F.w ρ B v x
abbrev RVs(F:Frm)(_:Heap)(ρ:List Addr)(B:Base)(_:Heap)(v:List Value)(x:List V):Prop:=All2 (RelV F.w ρ B) v x
abbrev RE{α:Type}(_:Heap)(_:List Addr)(_:Base)(_:Heap)(b x:α):Prop:=b=x
def J(F:Frm)(ln:List Str){α β:Type}(R:Heap→List Addr→Base→Heap→α→β→Prop)(t:Sem α)(d:Den β):Prop:=
 ∀ ρ B s h,Rel F ln ρ B s h→∀ x s',d s=some (x,s')→W F.w F.A t h (Out F ln R ρ B h x s')
abbrev JV(F:Frm)(ln:List Str)(t:Sem Value)(d:Den V):Prop:=J F ln (RV F) t d
abbrev JB(F:Frm)(ln:List Str)(t:Sem Bool)(d:Den Bool):Prop:=J F ln RE t d
def New(F:Frm)(h0:Heap)(ρ:List Addr)(B:Base)(h:Heap)(v:Value)(x:MO):Prop:=∃ a,v=.ref a∧h0.get? a=none∧B a=none∧a ∉ F.own ρ∧ObjAt F.w ρ B h a x
abbrev JN(F:Frm)(ln:List Str)(t:Sem Value)(d:Den MO):Prop:=J F ln (New F) t d
theorem Out.el{F:Frm}{ln:List Str}{α β:Type}{R:Heap→List Addr→Base→Heap→α→β→Prop}{ρ:List Addr}{B:Base}{h:Heap}{x:β}{s':S}{a:α}{h':Heap}{P:Prop}(o:Out F ln R ρ B h x s' a h')(k:∀ ρ' B',Step F ρ B h ρ' B' h'→Rel F ln ρ' B' s' h'→R h ρ' B' h' a x→P):P:=o.casesOn k
theorem Ou.el{F:Frm}{ln:List Str}{ρ:List Addr}{B:Base}{h:Heap}{s':S}{h':Heap}{P:Prop}(o:Ou F ln ρ B h s' h')(k:∀ ρ' B',Step F ρ B h ρ' B' h'→Rel F ln ρ' B' s' h'→P):P:=o.casesOn k
theorem W_wp{w:World}{A:Around}{α:Type}{t:Sem α}{h:Heap}{Q:α→Heap→Prop}(H:W w A t h Q){σ σ0:Shared}(hσ:σ.heap=h)(S0:Same σ0 σ){Q':α→Shared→Prop}{E:Value→Shared→Prop}(k:∀ a σ',Same σ0 σ'→Q a σ'.heap→Q' a σ'):wpAny (model pw w) A t Q' E σ:=H.use hσ S0 k
theorem W_wpO{F:Frm}{ln:List Str}{α β:Type}{R:Heap→List Addr→Base→Heap→α→β→Prop}{ρ:List Addr}{B:Base}{h0 h:Heap}{x:β}{s':S}{t:Sem α}(H:W F.w F.A t h (Out F ln R ρ B h0 x s')){σ σ0:Shared}(hσ:σ.heap=h)(S0:Same σ0 σ){Q':α→Shared→Prop}{E:Value→Shared→Prop}
  (k:∀ a σ',Same σ0 σ'→∀ ρ1 B1,Step F ρ B h0 ρ1 B1 σ'.heap→Rel F ln ρ1 B1 s' σ'.heap→R h0 ρ1 B1 σ'.heap a x→Q' a σ'):wpAny (model pw F.w) F.A t Q' E σ:=H.use hσ S0 fun a σ' S o=>o.casesOn fun ρ1 B1 st X r=>k a σ' S ρ1 B1 st X r
theorem W_wpU{F:Frm}{ln:List Str}{ρ:List Addr}{B:Base}{h0 h:Heap}{s':S}{t:Sem Unit}(H:W F.w F.A t h fun _ h'=>Ou F ln ρ B h0 s' h'){σ σ0:Shared}(hσ:σ.heap=h)(S0:Same σ0 σ){Q':Unit→Shared→Prop}{E:Value→Shared→Prop}
  (k:∀ σ',Same σ0 σ'→∀ ρ1 B1,Step F ρ B h0 ρ1 B1 σ'.heap→Rel F ln ρ1 B1 s' σ'.heap→Q' () σ'):wpAny (model pw F.w) F.A t Q' E σ:=H.use hσ S0 fun _ σ' S o=>o.casesOn fun ρ1 B1 st X=>k σ' S ρ1 B1 st X
theorem Same.tk{σ0 σ:Shared}(x:Same σ0 σ)(k:Nat):Same σ0 { σ with toks:=k }:=⟨x.g,x.d,x.o⟩
theorem W.monoO{F:Frm}{ln:List Str}{α β:Type}{R:Heap→List Addr→Base→Heap→α→β→Prop}{ρ:List Addr}{B:Base}{h0 h:Heap}{x:β}{s':S}{t:Sem α}{Q:α→Heap→Prop}(H:W F.w F.A t h (Out F ln R ρ B h0 x s'))
  (k:∀ a h1 ρ1 B1,Step F ρ B h0 ρ1 B1 h1→Rel F ln ρ1 B1 s' h1→R h0 ρ1 B1 h1 a x→Q a h1):W F.w F.A t h Q:=H.mono fun a h1 o=>o.casesOn fun ρ1 B1 S X r=>k a h1 ρ1 B1 S X r
end
section
variable {F:Frm} {ln cn gs:List Str} {ρ:List Addr} {B:Base} {s:S} {h:Heap}
noncomputable def Base.add(B:Base)(a:Addr)(o:Obj):Base:=fun b=>if b=a then some o else B b
theorem Base.add_self(B:Base)(a:Addr)(o:Obj):B.add a o a=some o:=if_pos rfl
theorem Base.add_le{B:Base}{a:Addr}{o:Obj}(e:B a=none):B.Le (B.add a o):=fun b o' h=>by
 unfold Base.add
 by_cases q:b=a
 ·subst q;rw [e] at h;cases h
 ·rw [if_neg q];exact h
theorem Base.add_inv{B:Base}{a b:Addr}{o o':Obj}(h:B.add a o b=some o'):(b=a∧o'=o)∨B b=some o':=by
 unfold Base.add at h
 by_cases q:b=a
 ·rw [if_pos q] at h;cases h;exact .inl ⟨q,rfl⟩
 ·rw [if_neg q] at h;exact .inr h
theorem RelV.mono{w:World}{ρ ρ':List Addr}{B B':Base}{v:Value}{a:V}(r:RelV w ρ B v a)(hp:∃ t,ρ'=ρ++t)(up:B.Le B'):RelV w ρ' B' v a:=by
 cases a with
 | t a=>exact Is.mono r up
 | loc i=>
  obtain⟨a,e,rfl⟩:=r
  obtain⟨t,rfl⟩:=hp
  exact⟨a,by rw [List.getElem?_append_left (List.getElem?_eq_some_iff.mp e).1];exact e,rfl⟩
 | lst is=>
  obtain⟨a,vs,n,rfl,e,q⟩:=r
  obtain⟨t,rfl⟩:=hp
  exact⟨a,vs,n,rfl,up _ _ e,q.mono fun _ _ ⟨y,e,z⟩=>⟨y,by rw [List.getElem?_append_left (List.getElem?_eq_some_iff.mp e).1];exact e,z⟩⟩
theorem ORel.mono{w:World}{ρ ρ':List Addr}{B B':Base}{v:Option Value}{a:Option V}(r:ORel w ρ B v a)(hp:∃ t,ρ'=ρ++t)(up:B.Le B'):ORel w ρ' B' v a:=by
 induction a with
 | none=>cases v <;> trivial
 | some a=>induction v with
  | none=>exact r.elim
  | some v=>exact RelV.mono r hp up
theorem pre_get{ρ ρ':List Addr}{i:Nat}{a:Addr}(hp:∃ t,ρ'=ρ++t)(e:ρ[i]?=some a):ρ'[i]?=some a:=by
 obtain⟨t,rfl⟩:=hp
 rw [List.getElem?_append_left (List.getElem?_eq_some_iff.mp e).1];exact e
theorem ObjAt.mono{w:World}{ρ ρ':List Addr}{B B':Base}{h h':Heap}{a:Addr}{o:MO}(x:ObjAt w ρ B h a o)(hp:∃ t,ρ'=ρ++t)(up:B.Le B')(k:∀ ob,h.get? a=some ob→h'.get? a=some ob):ObjAt w ρ' B' h' a o:=by
 induction o with
 | list xs=>obtain⟨vs,n,e,q⟩:=x;exact⟨vs,n,k _ e,q.mono fun _ _ r=>r.mono up⟩
 | dict xs=>obtain⟨vs,n,e,q,z⟩:=x;exact⟨vs,n,k _ e,q.mono fun _ _ r=>r.mono up,z⟩
 | inst C d=>obtain⟨dx,e,q⟩:=x;exact⟨dx,pre_get hp e,k _ q⟩
 | attrs xs=>obtain⟨vs,n,e,q⟩:=x;exact⟨vs,n,k _ e,q.mono fun _ _ r=>⟨r.1,r.2.mono hp up⟩⟩
 | lists xs=>obtain⟨vs,n,e,q⟩:=x;exact⟨vs,n,k _ e,q.mono fun _ _ r=>r.mono hp up⟩
 | gone=>obtain⟨o,e⟩:=x;exact⟨o,k _ e⟩
theorem ObjAt.at{w:World}{ρ:List Addr}{B:Base}{h:Heap}{a:Addr}{o:MO}(x:ObjAt w ρ B h a o):∃ ob,h.get? a=some ob:=by
 induction o with
 | list xs=>obtain⟨vs,n,e,q⟩:=x;exact⟨_,e⟩
 | dict xs=>obtain⟨vs,n,e,q⟩:=x;exact⟨_,e⟩
 | inst C d=>obtain⟨dx,e,q⟩:=x;exact⟨_,q⟩
 | attrs xs=>obtain⟨vs,n,e,q⟩:=x;exact⟨_,e⟩
 | lists is=>obtain⟨vs,n,e,q⟩:=x;exact⟨_,e⟩
 | gone=>exact x
theorem Rel.fresh(R:Rel F ln ρ B s h){a:Addr}(ha:h.get? a=none):B a=none∧a ∉ F.own ρ∧¬F.N a:=by
 refine⟨?_,fun hm=>?_,fun hn=>?_⟩
 ·cases q:B a with
  | none=>rfl
  | some o=>rw [R.le a o q] at ha;cases ha
 ·refine ex11 (R.out a hm) fun o e=>?_
  rw [e] at ha;cases ha
 ·refine ex11 (R.nsz a hn) fun o e=>?_
  rw [e] at ha;cases ha
theorem Rel.grow{B':Base}{h':Heap}(R:Rel F ln ρ B s h)(up:B.Le B')(le:∀ a o,B' a=some o→h'.get? a=some o)(new:∀ a o,B' a=some o→B a=some o∨h.get? a=none)
  (keep:∀ b o,h.get? b=some o→h'.get? b=some o):Step F ρ B h ρ B' h'∧Rel F ln ρ B' s h':=by
 refine⟨⟨⟨[],by simp,by simp⟩,up,fun b o e _=>keep b o e,fun b o e=>⟨o,keep b o e⟩,fun a o e=>(new a o e).imp id .inl⟩,⟨fun i o e=>up _ _ (R.st i o e),le,R.up.trans up,fun a o e=>?_,fun a ha=>let ⟨o,e⟩:=R.nsz a ha;⟨o,keep a o e⟩,R.nd,fun a ha=>let ⟨o,e⟩:=R.out a ha;⟨o,keep a o e⟩,fun a ha=>?_,fun i a o e e' hg=>?_,R.pre,?_,fun i c e=>?_,R.len,fun i a o e e'=>?_,R.kle⟩⟩
 ·rcases new a o e with q | q
  ·exact R.new a o q
  ·exact .inr fun hN=>by obtain⟨_,z⟩:=R.nsz a hN;rw [q] at z;cases z
 ·cases q:B' a with
  | none=>rfl
  | some o=>
   rcases new a o q with z | z
   ·rw [R.bn a ha] at z;cases z
   ·obtain⟨_,y⟩:=R.out a (List.mem_append_left ρ ha);rw [z] at y;cases y
 ·cases q:B' a with
  | none=>rfl
  | some o=>
   rcases new a o q with z | z
   ·rw [R.br i a _ e e' hg] at z;cases z
   ·obtain⟨_,y⟩:=R.out a (.tail _ (List.mem_append_right _ (List.mem_of_getElem? e)));rw [z] at y;cases y
 ·refine ex12 (R.loc) fun m hm k=>?_
  exact⟨m,hm.keeps keep,fun i x e=>(k i x e).mono ⟨[],by simp⟩ up⟩
 ·refine ex12 (R.cel i c e) fun v hv k=>?_
  exact⟨v,hv.keeps keep,k.mono ⟨[],by simp⟩ up⟩
 ·exact(R.led i a o e e').mono ⟨[],by simp⟩ up fun ob=>keep a ob
theorem Rel.same{h':Heap}(R:Rel F ln ρ B s h)(keep:∀ b o,h.get? b=some o→h'.get? b=some o):Step F ρ B h ρ B h'∧Rel F ln ρ B s h':=
 R.grow (.refl B) (fun a o e=>keep a o (R.le a o e)) (fun a o e=>.inl e) keep
theorem Rel.put{a:Addr}{ob:Obj}{h':Heap}(R:Rel F ln ρ B s h)(hf:h.get? a=none)(ha:h'.get? a=some ob)
  (keep:∀ b o,h.get? b=some o→h'.get? b=some o):Step F ρ B h ρ (B.add a ob) h'∧Rel F ln ρ (B.add a ob) s h':=
 R.grow (Base.add_le (R.fresh hf).1) (fun b o e=>by
  rcases Base.add_inv e with ⟨rfl,rfl⟩ | e
  ·exact ha
  ·exact keep b o (R.le b o e)) (fun b o e=>by
  rcases Base.add_inv e with ⟨rfl,rfl⟩ | e
  ·exact .inr hf
  ·exact .inl e) keep
noncomputable def dT(x:T):Den V:=fun s=>some (.t x,s)
noncomputable def dLoc(i:Nat):Den V:=fun s=>match s.ls[i]? with
 | some (some v)=>some (v,s)
 | _=>none
noncomputable def dCell(i:Nat):Den V:=fun s=>match s.cl[i]? with
 | some (some v)=>some (v,s)
 | _=>none
theorem J_here{α β:Type}{R:Heap→List Addr→Base→Heap→α→β→Prop}{t:Sem α}{a:α}{x:β}{s':S}{ρ B s h}(X:Rel F ln ρ B s h)(hs:s'=s)(H:∀ Q:α→Heap→Prop,Q a h→W F.w F.A t h Q)(r:R h ρ B h a x) :
  W F.w F.A t h (Out F ln R ρ B h x s'):=
 H _ ⟨ρ,B,Step.refl ..,hs▸X,r⟩
theorem J_hereV{t:Sem Value}{a:Value}{x:V}{s':S}{ρ B s h}(X:Rel F ln ρ B s h)(hs:s'=s)(H:∀ Q:Value→Heap→Prop,Q a h→W F.w F.A t h Q)(r:RelV F.w ρ B a x) :
  W F.w F.A t h (Out F ln (RV F) ρ B h x s'):=J_here (R:=RV F) X hs H r
theorem jLoc(n:Nm F ln cn gs){x:Str}{p:Pos}(i:Nat)(hn:ln[i]?=some x):JV F ln (eval (.Name x p) F.E) (dLoc i):=by
 intro ρ B s h X v s' e
 unfold dLoc at e
 split at e <;> cases e
 rename_i hv
 have hx:=n.lk x (List.mem_of_getElem? hn)
 refine ex12 (X.loc) fun m hm k=>?_
 have r:=k i x hn
 rw [hv] at r
 cases hmx:m x with
 | none=>rw [hmx] at r;exact r.elim
 | some rv=>
  rw [hmx] at r
  exact J_hereV X rfl (fun Q q σ hσ=>wpAny_Name (wpAny_loadName_local n.kind hx.1 (by rw [hσ,n.loc];exact hm) hmx ⟨Same.refl σ,hσ▸q⟩) hx.2) r
theorem jCell(n:Nm F ln cn gs){x:Str}{p:Pos}(i:Nat)(hn:cn[i]?=some x):JV F ln (eval (.Name x p) F.E) (dCell i):=by
 intro ρ B s h X v s' e
 unfold dCell at e
 split at e <;> cases e
 rename_i hv
 obtain⟨hk,hd,c,hc,hl⟩:=n.ck i x hn
 refine ex12 (X.cel i c hc) fun cv hcv r=>?_
 rw [hv] at r
 induction cv with
 | none=>exact r.elim
 | some rv=>exact J_hereV X rfl (fun Q q σ hσ=>wpAny_Name (wpAny_loadName_cell n.kind hk hl (by rw [hσ];exact hcv) ⟨Same.refl σ,hσ▸q⟩) hd) r
theorem Rel.St(X:Rel F ln ρ B s h):St F.w h:=fun i o e=>X.le _ _ (X.st i o e)
theorem jGlob(n:Nm F ln cn gs){x:Str}{t:Tok}{v:Value}{p:Pos}{tr:T}(i j:Nat)(hn:gs[i]?=some x)(hv:gtab[j]?=some (x,t,v))(hT:∀ B:Base,(∀ i o,(objs F.w.params)[i]?=some o→B i=some o)→Is F.w B v tr) :
  JV F ln (eval (.Name x p) F.E) (dT tr):=by
 intro ρ B s h X v s' e
 cases e
 have hx:=n.gk x (List.mem_of_getElem? hn)
 refine J_hereV X rfl (fun Q q σ hσ=>?_) (hT B X.st)
 subst hσ
 have hns:σ.heap.Ns F.E.globals (tfind gtab):=n.glob▸X.St.gns
 exact Name_function_global n.kind hx.1 (loadGlobal_global hns (tfind_at j gtab_nd hv) ⟨Same.refl σ,q⟩) hx.2
theorem jGlobC(n:Nm F ln cn gs){x:Str}{t:Tok}{v:Value}{p:Pos}(i j:Nat)(hn:gs[i]?=some x)(hv:gtab[j]?=some (x,t,v)):JV F ln (eval (.Name x p) F.E) (dT (.con v)):=
 jGlob n i j hn hv fun _ _=>.con v
theorem jBlt(n:Nm F ln cn gs){x:Str}{t:Tok}{v:Value}{p:Pos}(i j k:Nat)(hn:gs[i]?=some x)(hu:usedB[k]?=some x)(hv:btab[j]?=some (x,t,v)):JV F ln (eval (.Name x p) F.E) (dT (.con v)):=by
 intro ρ B s h X v s' e
 cases e
 have hx:=n.gk x (List.mem_of_getElem? hn)
 refine J_hereV X rfl (fun Q q σ hσ=>?_) (.con _)
 subst hσ
 have hg:σ.heap.Ns F.E.globals (tfind gtab):=n.glob▸X.St.gns
 have hb:σ.heap.Ns F.E.builtins (tfind btab):=n.blt▸X.St.bns
 have hm:tfind gtab x=none:=usedB_ok (List.mem_of_getElem? hu)
 exact Name_function_global n.kind hx.1 (loadGlobal_builtin hg hm hb (tfind_at j btab_nd hv) ⟨Same.refl σ,q⟩) hx.2
theorem jInt{i:Int}{k:Nat}{p:Pos}:JV F ln (eval (.Constant (.int i) k p) F.E) (dT (.int i)):=by
 intro ρ B s h X v s' e
 cases e
 exact W_cint fun t=>⟨ρ,B,.refl ..,X,.int i t⟩
theorem jStr{x:Str}{cs:List Nat}{k:Nat}{p:Pos}(hx:x=⟨cs.toArray⟩):JV F ln (eval (.Constant (.str x) k p) F.E) (dT (.str cs)):=by
 intro ρ B s h X v s' e
 cases e
 subst hx
 exact W_cstr fun t=>⟨ρ,B,.refl ..,X,.str cs t⟩
theorem jBytes{b:List UInt8}{k:Nat}{p:Pos}:JV F ln (eval (.Constant (.bytes b) k p) F.E) (dT (.bytes b)):=by
 intro ρ B s h X v s' e
 cases e
 intro σ hσ
 subst hσ
 show wpAny _ _ (mkTextBytes b.toArray) _ _ _
 unfold mkTextBytes
 exact wpAny_bind (wpAny_fresh (wpAny_pure ⟨⟨rfl,rfl,rfl⟩,ρ,B,.refl ..,X,.bytes b _⟩))
theorem jNone{k:Nat}{p:Pos}:JV F ln (eval (.Constant .none k p) F.E) (dT .none):=by
 intro ρ B s h X v s' e
 cases e
 intro σ hσ
 subst hσ
 show wpAny _ _ (pure _) _ _ _
 exact wpAny_pure ⟨⟨rfl,rfl,rfl⟩,ρ,B,.refl ..,X,.none⟩
theorem jBool{b:Bool}{k:Nat}{p:Pos}:JV F ln (eval (.Constant (.bool b) k p) F.E) (dT (.bool b)):=by
 intro ρ B s h X v s' e
 cases e
 intro σ hσ
 subst hσ
 show wpAny _ _ (pure _) _ _ _
 exact wpAny_pure ⟨⟨rfl,rfl,rfl⟩,ρ,B,.refl ..,X,.bool b⟩
theorem W_push{w:World}{A:Around}{t:Sem Value}{o:Obj}{Q:Value→Heap→Prop}(H:∀ (σ:Shared) (Q':Value→Shared→Prop) (E:Value→Shared→Prop),σ.heap=h→(∀ k,Q' (.ref h.objs.size) { σ with heap:=h.push o,toks:=k })→wpAny (model pw w) A t Q' E σ)
  (q:Q (.ref h.objs.size) (h.push o)):W w A t h Q:=fun σ hσ=>H σ _ _ hσ fun k=>⟨⟨rfl,rfl,rfl⟩,q⟩
theorem get_push{o:Obj}(hf:o.isFreed=false):(h.push o).get? h.objs.size=some o:=Heap.get?_push_size h hf
theorem get_size(h:Heap):h.get? h.objs.size=none:=by
 cases q:h.get? h.objs.size with
 | none=>rfl
 | some o=>exact absurd (Heap.lt_size q) (Nat.lt_irrefl _)
theorem Rel.push(X:Rel F ln ρ B s h)(o:Obj)(hf:o.isFreed=false):Step F ρ B h ρ (B.add h.objs.size o) (h.push o)∧Rel F ln ρ (B.add h.objs.size o) s (h.push o):=
 X.put (get_size h) (get_push hf) (fun _ _ e=>Heap.get?_push_of_some _ e)
theorem Rel.notSys(X:Rel F ln ρ B s h){a:Addr}(ha:h.get? a=none):(a == sysModules)=false:=by
 have e:(objs F.w.params)[1]? ≠ none:=by
  have:(objs F.w.params).length=919:=by kernel_rfl
  rw [ne_eq,List.getElem?_eq_none_iff,this];omega
 refine ex11 (Option.ne_none_iff_exists'.mp e) fun o ho=>?_
 have h1:=X.le _ _ (X.st _ _ ho)
 have:¬(a:Nat)=1:=fun e=>by subst e;rw [h1] at ha;cases ha
 show (a == (1:Nat))=false
 simpa using this
noncomputable def T.int?:T→Option Int
 | .int i=>some i
 | _=>Option.none
noncomputable def T.str?:T→Option (List Nat)
 | .str i=>some i
 | _=>Option.none
noncomputable def T.byt?:T→Option (List UInt8)
 | .bytes i=>some i
 | _=>Option.none
noncomputable def T.list?:T→Option (List T)
 | .list i=>some i
 | _=>Option.none
noncomputable def T.tup?:T→Option (List T)
 | .tup i=>some i
 | _=>Option.none
noncomputable def T.dict?:T→Option (List (K×T))
 | .dict i=>some i
 | _=>Option.none
noncomputable def V.tr?:V→Option T
 | .t x=>some x
 | _=>none
noncomputable def V.loc?:V→Option Nat
 | .loc i=>some i
 | _=>none
noncomputable def MO.list?:MO→Option (List T)
 | .list i=>some i
 | _=>none
noncomputable def MO.dict?:MO→Option (List (K×T))
 | .dict i=>some i
 | _=>none
noncomputable abbrev V.int?(x:V):Option Int:=x.tr?.bind T.int?
noncomputable abbrev V.str?(x:V):Option (List Nat):=x.tr?.bind T.str?
noncomputable abbrev V.byt?(x:V):Option (List UInt8):=x.tr?.bind T.byt?
noncomputable abbrev V.list?(x:V):Option (List T):=x.tr?.bind T.list?
noncomputable abbrev V.tup?(x:V):Option (List T):=x.tr?.bind T.tup?
theorem T.intE{x:T}{i:Int}{P:T→Prop}(e:x.int?=some i)(k:P (.int i)):P x:=by cases x <;> first | exact no1 e | exact so1 (P:=fun i=>P (.int i)→P (.int _)) e id k
theorem T.strE{x:T}{i:List Nat}{P:T→Prop}(e:x.str?=some i)(k:P (.str i)):P x:=by cases x <;> first | exact no1 e | exact so1 (P:=fun i=>P (.str i)→P (.str _)) e id k
theorem T.bytE{x:T}{i:List UInt8}{P:T→Prop}(e:x.byt?=some i)(k:P (.bytes i)):P x:=by cases x <;> first | exact no1 e | exact so1 (P:=fun i=>P (.bytes i)→P (.bytes _)) e id k
theorem T.listE{x:T}{i:List T}{P:T→Prop}(e:x.list?=some i)(k:P (.list i)):P x:=by cases x <;> first | exact no1 e | exact so1 (P:=fun i=>P (.list i)→P (.list _)) e id k
theorem T.tupE{x:T}{i:List T}{P:T→Prop}(e:x.tup?=some i)(k:P (.tup i)):P x:=by cases x <;> first | exact no1 e | exact so1 (P:=fun i=>P (.tup i)→P (.tup _)) e id k
theorem T.dictE{x:T}{i:List (K×T)}{P:T→Prop}(e:x.dict?=some i)(k:P (.dict i)):P x:=by cases x <;> first | exact no1 e | exact so1 (P:=fun i=>P (.dict i)→P (.dict _)) e id k
theorem V.trE{x:V}{i:T}{P:V→Prop}(e:x.tr?=some i)(k:P (.t i)):P x:=by cases x <;> first | exact no1 e | exact so1 (P:=fun i=>P (.t i)→P (.t _)) e id k
theorem V.locE{x:V}{i:Nat}{P:V→Prop}(e:x.loc?=some i)(k:P (.loc i)):P x:=by cases x <;> first | exact no1 e | exact so1 (P:=fun i=>P (.loc i)→P (.loc _)) e id k
theorem MO.listE{x:MO}{i:List T}{P:MO→Prop}(e:x.list?=some i)(k:P (.list i)):P x:=by cases x <;> first | exact no1 e | exact so1 (P:=fun i=>P (.list i)→P (.list _)) e id k
theorem MO.dictE{x:MO}{i:List (K×T)}{P:MO→Prop}(e:x.dict?=some i)(k:P (.dict i)):P x:=by cases x <;> first | exact no1 e | exact so1 (P:=fun i=>P (.dict i)→P (.dict _)) e id k
theorem smE{α:Type}{x y:α}{P:Prop}(e:some x=some y)(k:x=y→P):P:=k (Option.some.inj e)
noncomputable def IsInv(w:World)(B:Base)(v:Value):T→Prop
 | .int i=>∃ t,.int i t=v
 | .str i=>∃ t,.str ⟨i.toArray⟩ t=v
 | .bytes i=>∃ t,.bytes i.toArray t=v
 | .tup xs=>∃ a vs n,.ref a=v∧B a=some (seqObj "tuple" vs n)∧Seq w B vs xs
 | .list xs=>∃ a vs n,.ref a=v∧B a=some (seqObj "list" vs n)∧Seq w B vs xs
 | .dict xs=>∃ a es n,.ref a=v∧DicOk a xs∧B a=some (dicObj es n)∧Dic w B es xs
 | .inst C xs=>∃ a d es n,.ref a=v∧B a=some (instObj C d)∧B d=some (dicObj es n)∧All2 (Att w B) es xs
 | .con u=>u=v
 | .bool b=>.bool b=v
 | .none=>.none=v
theorem Is.inv{w:World}{v:Value}{x:T}(r:Is w B v x):IsInv w B v x:=by
 induction r with
 | none=>exact rfl
 | bool=>exact rfl
 | int i t=>exact⟨t,rfl⟩
 | str i t=>exact⟨t,rfl⟩
 | bytes i t=>exact⟨t,rfl⟩
 | con=>exact rfl
 | tup e l q=>exact⟨_,_,_,rfl,e,.of_len l q⟩
 | list e l q=>exact⟨_,_,_,rfl,e,.of_len l q⟩
 | dict z e l q q'=>exact⟨_,_,_,rfl,z,e,.of_len l fun i a b x y=>⟨q i a b.1 b.2 x y,q' i a b.1 b.2 x y⟩⟩
 | inst e e' l q q'=>exact⟨_,_,_,_,rfl,e,e',.of_len l fun i a b x y=>⟨q i a b.1 b.2 x y,q' i a b.1 b.2 x y⟩⟩
theorem Is.intE{w:World}{i:Int}{v:Value}{P:Prop}(r:Is w B v (.int i))(k:∀ t,.int i t=v→P):P:=r.inv.elim k
theorem Is.strE{w:World}{i:List Nat}{v:Value}{P:Prop}(r:Is w B v (.str i))(k:∀ t,.str ⟨i.toArray⟩ t=v→P):P:=r.inv.elim k
theorem Is.bytE{w:World}{i:List UInt8}{v:Value}{P:Prop}(r:Is w B v (.bytes i))(k:∀ t,.bytes i.toArray t=v→P):P:=r.inv.elim k
theorem Is.listE{w:World}{xs:List T}{v:Value}{P:Prop}(r:Is w B v (.list xs))(k:∀ a vs n,.ref a=v→B a=some (seqObj "list" vs n)→Seq w B vs xs→P):P:=ex33 r.inv k
theorem Is.tupE{w:World}{xs:List T}{v:Value}{P:Prop}(r:Is w B v (.tup xs))(k:∀ a vs n,.ref a=v→B a=some (seqObj "tuple" vs n)→Seq w B vs xs→P):P:=ex33 r.inv k
theorem Is.dictE{w:World}{xs:List (K×T)}{v:Value}{P:Prop}(r:Is w B v (.dict xs))(k:∀ a es n,.ref a=v→DicOk a xs→B a=some (dicObj es n)→Dic w B es xs→P):P:=ex34 r.inv k
theorem Is.instE{w:World}{C:Addr}{xs:List (List Nat×T)}{v:Value}{P:Prop}(r:Is w B v (.inst C xs))(k:∀ a d es n,.ref a=v→B a=some (instObj C d)→B d=some (dicObj es n)→All2 (Att w B) es xs→P):P:=ex44 r.inv k
theorem RelV.trE{w:World}{v:Value}{x:V}{y:T}{P:Prop}(r:RelV w ρ B v x)(e:x.tr?=some y)(k:Is w B v y→P):P:=k (V.trE (P:=fun x=>RelV w ρ B v x→_) e id r)
theorem RelV.intE{w:World}{v:Value}{x:V}{i:Int}{P:Prop}(r:RelV w ρ B v x)(e:x.int?=some i)(k:∀ t,.int i t=v→P):P:=
 obE e fun y e1 e2=>r.trE e1 fun r=>Is.intE (T.intE (P:=fun y=>Is w B v y→Is w B v (.int i)) e2 id r) k
theorem RelV.strE{w:World}{v:Value}{x:V}{i:List Nat}{P:Prop}(r:RelV w ρ B v x)(e:x.str?=some i)(k:∀ t,.str ⟨i.toArray⟩ t=v→P):P:=
 obE e fun y e1 e2=>r.trE e1 fun r=>Is.strE (T.strE (P:=fun y=>Is w B v y→Is w B v (.str i)) e2 id r) k
theorem RelV.bytE{w:World}{v:Value}{x:V}{i:List UInt8}{P:Prop}(r:RelV w ρ B v x)(e:x.byt?=some i)(k:∀ t,.bytes i.toArray t=v→P):P:=
 obE e fun y e1 e2=>r.trE e1 fun r=>Is.bytE (T.bytE (P:=fun y=>Is w B v y→Is w B v (.bytes i)) e2 id r) k
theorem RelV.listE{w:World}{v:Value}{x:V}{i:List T}{P:Prop}(r:RelV w ρ B v x)(e:x.list?=some i)(k:∀ a vs n,.ref a=v→B a=some (seqObj "list" vs n)→Seq w B vs i→P):P:=
 obE e fun y e1 e2=>r.trE e1 fun r=>Is.listE (T.listE (P:=fun y=>Is w B v y→Is w B v (.list i)) e2 id r) k
theorem RelV.tupE{w:World}{v:Value}{x:V}{i:List T}{P:Prop}(r:RelV w ρ B v x)(e:x.tup?=some i)(k:∀ a vs n,.ref a=v→B a=some (seqObj "tuple" vs n)→Seq w B vs i→P):P:=
 obE e fun y e1 e2=>r.trE e1 fun r=>Is.tupE (T.tupE (P:=fun y=>Is w B v y→Is w B v (.tup i)) e2 id r) k
noncomputable def oL(s:S)(i:Nat):Option (List T):=s.o[i]?.bind MO.list?
noncomputable def oD(s:S)(i:Nat):Option (List (K×T)):=s.o[i]?.bind MO.dict?
theorem Rel.oL(X:Rel F ln ρ B s h){i:Nat}{a:Addr}(ha:ρ[i]?=some a){xs:List T}(e:Mine.oL s i=some xs):∃ vs n,h.get? a=some (seqObj "list" vs n)∧Seq F.w B vs xs:=
 obE e fun o e1 e2=>MO.listE (P:=fun o=>ObjAt F.w ρ B h a o→∃ vs n,h.get? a=some (seqObj "list" vs n)∧Seq F.w B vs xs) e2 id (X.led i a o ha e1)
theorem Rel.oD(X:Rel F ln ρ B s h){i:Nat}{a:Addr}(ha:ρ[i]?=some a){xs:List (K×T)}(e:Mine.oD s i=some xs):∃ es n,h.get? a=some (dicObj es n)∧Dic F.w B es xs∧DicOk a xs:=
 obE e fun o e1 e2=>MO.dictE (P:=fun o=>ObjAt F.w ρ B h a o→∃ es n,h.get? a=some (dicObj es n)∧Dic F.w B es xs∧DicOk a xs) e2 id (X.led i a o ha e1)
noncomputable def S.lst(s:S):V→Option (List T)
 | .t x=>x.list?
 | .loc i=>oL s i
 | .lst _=>none
noncomputable def S.seq(s:S):V→Option (List T)
 | .t x=>x.list?.or x.tup?
 | .loc i=>oL s i
 | .lst _=>none
noncomputable def S.dic(s:S):V→Option (List (K×T))
 | .t x=>x.dict?
 | .loc i=>oD s i
 | .lst _=>none
theorem orE{α:Type}{a b:Option α}{y:α}{P:Prop}(e:a.or b=some y)(k1:a=some y→P)(k2:b=some y→P):P:=by
 cases a with
 | none=>exact k2 e
 | some x=>exact k1 e
theorem Rel.lstE{P:Prop}(X:Rel F ln ρ B s h){v:Value}{x:V}(r:RelV F.w ρ B v x){xs:List T}(e:s.lst x=some xs)
  (k:∀ a vs n,.ref a=v→h.get? a=some (seqObj "list" vs n)→Seq F.w B vs xs→P):P:=by
 induction x with
 | t x=>exact Is.listE (T.listE (P:=fun x=>Is F.w B v x→Is F.w B v (.list xs)) e id r) fun a vs n hv ea q=>k a vs n hv (X.le _ _ ea) q
 | loc i=>exact r.elim fun a ⟨ha,hv⟩=>(X.oL ha e).elim fun vs q=>q.elim fun n q=>k a vs n hv.symm q.1 q.2
 | lst=>exact no1 e
theorem Rel.seqE{P:Prop}(X:Rel F ln ρ B s h){v:Value}{x:V}(r:RelV F.w ρ B v x){xs:List T}(e:s.seq x=some xs)
  (k:∀ a c vs n,.ref a=v→(c="list"∨c="tuple")→h.get? a=some (seqObj c vs n)→Seq F.w B vs xs→P):P:=by
 induction x with
 | t x=>exact orE e (fun e=>X.lstE (s:=s) (x:=.t x) r e fun a vs n hv ea q=>k a _ vs n hv (.inl rfl) ea q) fun e=>Is.tupE (T.tupE (P:=fun x=>Is F.w B v x→Is F.w B v (.tup xs)) e id r) fun a vs n hv ea q=>k a _ vs n hv (.inr rfl) (X.le _ _ ea) q
 | loc i=>exact X.lstE (x:=.loc i) r e fun a vs n hv ea q=>k a _ vs n hv (.inl rfl) ea q
 | lst=>exact no1 e
theorem Rel.dicE{P:Prop}(X:Rel F ln ρ B s h){v:Value}{x:V}(r:RelV F.w ρ B v x){xs:List (K×T)}(e:s.dic x=some xs)
  (k:∀ a es n,.ref a=v→DicOk a xs→h.get? a=some (dicObj es n)→Dic F.w B es xs→P):P:=by
 induction x with
 | t x=>exact Is.dictE (T.dictE (P:=fun x=>Is F.w B v x→Is F.w B v (.dict xs)) e id r) fun a vs n hv z ea q=>k a vs n hv z (X.le _ _ ea) q
 | loc i=>exact r.elim fun a ⟨ha,hv⟩=>(X.oD ha e).elim fun vs q=>q.elim fun n q=>k a vs n hv.symm q.2.2 q.1 q.2.1
 | lst=>exact no1 e
noncomputable def K.holds:K→Value→Bool
 | .int i,v=>Value.isInt i v
 | .str x,v=>Value.isStrOf ⟨x.toArray⟩ v
noncomputable def K.hash(w:World):K→Int
 | .int i=>hashInt i
 | .str x=>hashStr w ⟨x.toArray⟩
theorem toArr_inj{a b:List Nat}:((⟨a.toArray⟩:Str)=⟨b.toArray⟩)↔a=b:=by
 constructor
 ·intro e;injection e with e;simpa using congrArg Array.toList e
 ·rintro rfl;rfl
theorem K.holds_inv{k:K}{v:Value}(e:k.holds v=true):(∃ i t,k=.int i∧v=.int i t)∨∃ x t,k=.str x∧v=.str ⟨x.toArray⟩ t:=by
 induction k with
 | int i=>obtain⟨t,rfl⟩:=Value.isInt_shape e;exact .inl ⟨i,t,rfl,rfl⟩
 | str x=>obtain⟨t,rfl⟩:=Value.isStrOf_shape e;exact .inr ⟨x,t,rfl,rfl⟩
theorem K_inj{a b:K}{v:Value}(x:a.holds v=true)(y:b.holds v=true):a=b:=by
 rcases K.holds_inv x with ⟨i,t,rfl,rfl⟩ | ⟨x,t,rfl,rfl⟩ <;> rcases K.holds_inv y with ⟨j,u,rfl,e⟩ | ⟨y,u,rfl,e⟩
 ·injection e with e1 e2;rw [e1]
 ·cases e
 ·cases e
 ·injection e with e1 e2;rw [toArr_inj.mp e1]
theorem wpAny_eqBool_mix{prog:Program}{w:World}{A:Around}{E:Value→Shared→Prop}{σ:Shared}{a b:Value}{Q:Bool→Shared→Prop}(hne:eqBool a b=holding [a,b] (do truthOfDropped (←richCompare CmpOp.Eq a b)))(H:∀ Q',Q' (.bool false) σ→wpAny (model prog w) A (compareOp .Eq a b) Q' E σ)(q:Q false σ):wpAny (model prog w) A (eqBool a b) Q E σ:=by
 have e:eqBool a b=holding [a,b] (do truthOfDropped (←richCompare CmpOp.Eq a b)):=hne
 rw [e]
 exact wpAny_holding (wpAny_bind (H _ (wpAny_truthy_bool q)))
noncomputable def mixKind(prog:Program)(w:World):PySem.KeyKind prog w K where
 is:=K.holds
 hash:=K.hash w
 inj:=fun v a b ha hb=>K_inj ha hb
 byValue:=fun k v h=>by rcases K.holds_inv h with ⟨i,t,rfl,rfl⟩ | ⟨x,t,rfl,rfl⟩ <;> rfl
 pyHash:=fun {A E s k v Q} hv h=>by
  rcases K.holds_inv hv with ⟨i,t,rfl,rfl⟩ | ⟨x,t,rfl,rfl⟩
  ·exact(intKind prog w).pyHash (k:=i) hv h
  ·exact(PySem.strKind prog w).pyHash (k:=⟨x.toArray⟩) hv h
 eqBool:=fun {A E s a b u v Q} ha hb h=>by
  rcases K.holds_inv ha with ⟨i,t,rfl,rfl⟩ | ⟨x,t,rfl,rfl⟩ <;> rcases K.holds_inv hb with ⟨j,u,rfl,rfl⟩ | ⟨y,u,rfl,rfl⟩
  ·refine(intKind prog w).eqBool ha hb ?_
   have:decide (K.int i=K.int j)=decide (i=j):=by simp
   rw [←this];exact h
  ·exact wpAny_eqBool_mix rfl (fun Q' q=>EqMixed.eq_int_str q) (by simpa using h)
  ·exact wpAny_eqBool_mix rfl (fun Q' q=>EqMixed.eq_str_int q) (by simpa using h)
  ·refine(PySem.strKind prog w).eqBool ha hb ?_
   have:decide (K.str x=K.str y)=decide ((⟨x.toArray⟩:Str)=⟨y.toArray⟩):=by
    rw [decide_eq_decide,toArr_inj];constructor
    ·intro e;injection e
    ·rintro rfl;rfl
   rw [←this];exact h
 «strs»:=fun k x t v h=>by
  rcases K.holds_inv h with ⟨i,t',rfl,e⟩ | ⟨y,t',rfl,e⟩
  ·cases e
  ·injection e with e1 e2
   subst e1
   show Value.isStrOf _ v=_
   cases v <;> rfl
theorem KeyIs.holds{w:World}{e:DictEntry}{k:K}(x:KeyIs w e k):k.holds e.key=true∧e.hash=k.hash w:=by
 induction k with
 | int i=>obtain⟨⟨t,e1⟩,e2⟩:=x;exact⟨by rw [e1];simp [K.holds,Value.isInt],e2⟩
 | str i=>obtain⟨⟨t,e1⟩,e2⟩:=x;exact⟨by rw [e1];simp [K.holds,Value.isStrOf],e2⟩
theorem KeyIs.of{w:World}{k:K}{key v:Value}(x:k.holds key=true):KeyIs w ⟨k.hash w,key,v⟩ k:=by
 rcases K.holds_inv x with ⟨i,t',rfl,rfl⟩ | ⟨y,t',rfl,rfl⟩
 ·exact⟨⟨_,rfl⟩,rfl⟩
 ·exact⟨⟨_,rfl⟩,rfl⟩
noncomputable def T.key(x:T):Option K:=(x.int?.map .int).or (x.str?.map .str)
noncomputable def K.t:K→T
 | .int i=>.int i
 | .str x=>.str x
theorem T.key_holds{w:World}{B:Base}{v:Value}{x:T}{k:K}(r:Is w B v x)(e:x.key=some k):k.holds v=true:=
 orE e (fun e=>omE e fun i e1 e2=>Is.intE (T.intE (P:=fun y=>Is w B v y→Is w B v (.int i)) e1 id r) fun t h=>e2▸h▸(by simp [K.holds,Value.isInt]))
  (fun e=>omE e fun i e1 e2=>Is.strE (T.strE (P:=fun y=>Is w B v y→Is w B v (.str i)) e1 id r) fun t h=>e2▸h▸(by simp [K.holds,Value.isStrOf]))
noncomputable def dGet(k:K)(d:List (K×T)):Option T:=(d.find? fun p=>p.1=k).map (·.2)
theorem Dic.keysOf{prog:Program}{w:World}{es:List DictEntry}{d:List (K×T)}(x:Dic w B es d):KeysOf (mixKind prog w) es.toArray:=by
 intro e he
 rw [List.mem_toArray] at he
 refine ex11 (List.getElem?_of_mem he) fun i hi=>?_
 refine ex12 (x.some_right hi) fun p hp r=>?_
 exact⟨p.1,r.1.holds.1,r.1.holds.2⟩
theorem Dic.find{prog:Program}{w:World}{es:List DictEntry}{d:List (K×T)}(x:Dic w B es d)(k:K):match (es.find? fun e=>(mixKind prog w).is k e.key).map (·.val),dGet k d with
  | some v,some t=>Is w B v t
  | none,none=>True
  | _,_=>False:=by
 induction x with
 | nil=>trivial
 | @cons e p l m r _ ih=>
  unfold dGet
  have hk:(mixKind prog w).is k e.key=decide (p.1=k):=by
   rw [PySem.KeyKind.is_eq_decide (knd:=mixKind prog w) r.1.holds.1]
   rw [decide_eq_decide];exact eq_comm
  rw [List.find?_cons,List.find?_cons,hk]
  by_cases q:p.1=k
  ·rw [decide_eq_true q];exact r.2
  ·rw [decide_eq_false q];exact ih
noncomputable def kvsOf(es:List DictEntry)(d:List (K×T)):List (K×Value):=List.zipWith (fun e p=>(p.1,e.val)) es d
theorem kvsOf_keys{w:World}{es:List DictEntry}{d:List (K×T)}(x:Dic w B es d):(kvsOf es d).map (·.1)=d.map (·.1):=by
 induction x with
 | nil=>rfl
 | cons r _ ih=>exact congrArg (_::·) ih
theorem kvsOf_len{w:World}{es:List DictEntry}{d:List (K×T)}(x:Dic w B es d):(kvsOf es d).length=d.length:=by
 simpa using congrArg List.length (kvsOf_keys x)
theorem Dic.pairs{prog:Program}{w:World}{es:List DictEntry}{d:List (K×T)}(x:Dic w B es d):Pairs (mixKind prog w) es (kvsOf es d):=by
 induction x with
 | nil=>exact .nil
 | cons r _ ih=>exact .cons r.1.holds.1 rfl ih
theorem Dic.dictOf{prog:Program}{w:World}{a:Addr}{es:List DictEntry}{n:Nat}{d:List (K×T)}(e:h.get? a=some (dicObj es n))(x:Dic w B es d)(z:DicOk a d) :
  h.DictAt (mixKind prog w) a (kvsOf es d) n:=⟨_,_,e,⟨rfl,rfl,rfl⟩,rfl,x.keysOf,x.pairs,by rw [kvsOf_keys x];exact z.2⟩
theorem Dic.ofDictOf{prog:Program}{w:World}{a:Addr}{kvs:List (K×Value)}{d:List (K×T)}(x:h.DictOf (mixKind prog w) a kvs)(v:All2 (fun(kv:K×Value) (p:K×T)=>kv.1=p.1∧Is w B kv.2 p.2) kvs d) :
  ∃ es n,h.get? a=some (dicObj es n)∧Dic w B es d:=by
 obtain⟨⟨c,dd,dt,sl⟩,es,ep,e,⟨rfl,rfl,rfl⟩,rfl,hk,hp,hn⟩:=x
 refine⟨es.toList,ep,by rw [e],?_⟩
 have hk':∀ e∈es.toList,∃ k:K,k.holds e.key=true∧e.hash=k.hash w:=fun e he=>hk e (by simpa using he)
 clear e hn hk
 generalize es.toList=l at hp hk'
 induction v generalizing l with
 | nil=>cases hp;exact .nil
 | cons r _ ih=>
  cases hp with
  | cons h1 h2 h3=>
   rename_i e es
   refine .cons ⟨?_,h2▸r.2⟩ (ih _ h3 fun e he=>hk' e (.tail _ he))
   refine ex12 (hk' e (.head _)) fun k a1 a2=>?_
   rw [←r.1]
   rename_i kv _ _ _ _
   have:k=kv.1:=K_inj a1 h1
   subst this
   have z:=KeyIs.of (w:=w) (v:=e.val) h1
   rwa [←a2] at z
theorem Dic.mapOf{prog:Program}{w:World}{a:Addr}{es:List DictEntry}{n:Nat}{d:List (K×T)}(e:h.get? a=some (dicObj es n))(x:Dic w B es d) :
  h.MapOf (mixKind prog w) a fun k=>findBy (mixKind prog w).is es.toArray k:=⟨_,_,_,e,⟨rfl,rfl,rfl⟩,rfl,x.keysOf,fun _=>rfl⟩
theorem Dic.has{prog:Program}{w:World}{es:List DictEntry}{d:List (K×T)}(x:Dic w B es d)(k:K):(findBy (mixKind prog w).is es.toArray k).isSome=(dGet k d).isSome:=by
 have z:=x.find (prog:=prog) k
 have e:findBy (mixKind prog w).is es.toArray k=(es.find? fun e=>(mixKind prog w).is k e.key).map (·.val):=by unfold findBy;rw [List.find?_toArray]
 rw [e]
 cases h1:(es.find? fun e=>(mixKind prog w).is k e.key).map (·.val) <;> cases h2:dGet k d <;> rw [h1,h2] at z <;> first | rfl | exact z.elim
theorem str_app(a b:List Nat):(⟨a.toArray⟩:Str)++⟨b.toArray⟩=⟨(a++b).toArray⟩:=by show Str.mk _=_;simp
theorem sizeL:sizeLine=16777216:=rfl
theorem Rel.outV(X:Rel F ln ρ B s h){v:Value}{r:T}(i:Is F.w B v r):Out F ln (RV F) ρ B h (.t r) s v h:=⟨ρ,B,.refl ..,X,i⟩
theorem W_val(X:Rel F ln ρ B s h){t:Sem Value}(v:Nat→Value){r:T}(i:∀ n,Is F.w B (v n) r)
  (H:∀ (σ:Shared) (Q:Value→Shared→Prop) (E:Value→Shared→Prop),σ.heap=h→(∀ n k,Q (v n) { σ with toks:=k })→wpAny (model pw F.w) F.A t Q E σ):W F.w F.A t h (Out F ln (RV F) ρ B h (.t r) s):=
 W_of H fun n=>X.outV (i n)
theorem W_objV(X:Rel F ln ρ B s h){t:Sem Value}(o:Obj)(hf:o.isFreed=false){r:T}(i:∀ B',B.Le B'→B' h.objs.size=some o→Is F.w B' (.ref h.objs.size) r)
  (H:∀ (σ:Shared) (Q:Value→Shared→Prop) (E:Value→Shared→Prop),σ.heap=h→(∀ k,Q (.ref h.objs.size) { σ with heap:=h.push o,toks:=k })→wpAny (model pw F.w) F.A t Q E σ):W F.w F.A t h (Out F ln (RV F) ρ B h (.t r) s):=
 W_push H ((X.push o hf).elim fun st X'=>⟨_,_,st,X',i _ st.up (Base.add_self ..)⟩)
noncomputable def iv(f:Int→Int→Option T)(x y:V):Option T:=x.int?.bind fun a=>y.int?.bind (f a)
noncomputable def gd{α:Type}(p:Prop)[Decidable p](x:α):Option α:=if p then some x else none
theorem gdE{α:Type}{p:Prop}[Decidable p]{x y:α}{P:Prop}(e:gd p x=some y)(k:p→x=y→P):P:=by
 unfold gd at e
 by_cases h:p
 ·rw [if_pos h] at e;exact k h (Option.some.inj e)
 ·rw [if_neg h] at e;exact no1 e
noncomputable def binV:Operator→V→V→Option T
 | .Add,x,y=>(iv (fun a b=>some (.int (a+b))) x y).or <|
  (x.str?.bind fun a=>y.str?.bind fun b=>gd (a.length+b.length≤16777216) (.str (a++b))).or <|
  (x.byt?.bind fun a=>y.byt?.bind fun b=>gd (a.length+b.length≤16777216) (.bytes (a++b))).or <|
  (x.list?.bind fun a=>y.list?.bind fun b=>gd (a.length+b.length≤16777216) (.list (a++b))).or <|
  x.tup?.bind fun a=>y.tup?.bind fun b=>gd (a ≠ []∧b ≠ []∧a.length+b.length≤16777216) (.tup (a++b))
 | .Sub,x,y=>iv (fun a b=>some (.int (a - b))) x y
 | .Mult,x,y=>(iv (fun a b=>gd (Builtin.Int.intBits a≤64) (.int (a * b))) x y).or <|
  x.byt?.bind fun a=>y.int?.bind fun n=>gd (a ≠ []∧a.length≤16∧-1048576≤n∧n≤1048576) (.bytes (List.replicate n.toNat a).flatten)
 | .Mod,x,y=>iv (fun a b=>gd (b ≠ 0) (.int (a.fmod b))) x y
 | .FloorDiv,x,y=>iv (fun a b=>gd (b ≠ 0∧Builtin.divisionGoesByPylong a b=false) (.int (a.fdiv b))) x y
 | .Pow,x,y=>iv (fun a n=>gd (0≤n∧(Builtin.Int.intBits a:Int) * n≤2 ^ 27) (.int (a ^ n.toNat))) x y
 | _,_,_=>none
theorem iv_W{f:Int→Int→Option T}{op:Operator}{a b:Value}{x y:V}{r:T}(ha:RelV F.w ρ B a x)(hb:RelV F.w ρ B b y)(e:iv f x y=some r)
  (H:∀ i j t u,f i j=some r→W F.w F.A (binaryOp op (.int i t) (.int j u)) h (Out F ln (RV F) ρ B h (.t r) s)):W F.w F.A (binaryOp op a b) h (Out F ln (RV F) ρ B h (.t r) s):=
 obE e fun _ e1 e2=>obE e2 fun _ e3 e4=>ha.intE e1 fun t h1=>hb.intE e3 fun u h2=>h1▸h2▸H _ _ t u e4
theorem Seq.app{w:World}{B':Base}{vs ws:List Value}{xs ys:List T}(sa:Seq w B vs xs)(sb:Seq w B ws ys)(up:B.Le B'):Seq w B' (vs++ws) (xs++ys):=(All2.append sa sb).mono fun _ _ r=>r.mono up
theorem addL_W(X:Rel F ln ρ B s h){a b:Addr}{vs ws:List Value}{n m:Nat}{xs ys:List T}(ea:B a=some (seqObj "list" vs n))(sa:Seq F.w B vs xs)(eb:B b=some (seqObj "list" ws m))(sb:Seq F.w B ws ys)(hl:xs.length+ys.length≤16777216) :
  W F.w F.A (binaryOp .Add (.ref a) (.ref b)) h (Out F ln (RV F) ρ B h (.t (.list (xs++ys))) s):=
 W_objV X (seqObj "list" (vs++ws) 0) rfl (fun B' up e=>Is.of_list e (sa.app sb up)) fun σ Q E hσ q=>by
  subst hσ
  refine PySem.P.add_list (X.le _ _ ea) (X.le _ _ eb) ?_ ?_
  ·rw [List.append_toArray];exact q _
  ·rw [sizeL,List.size_toArray,List.size_toArray,sa.len,sb.len];exact hl
theorem addT_W(X:Rel F ln ρ B s h){a b:Addr}{vs ws:List Value}{n m:Nat}{xs ys:List T}(ea:B a=some (seqObj "tuple" vs n))(sa:Seq F.w B vs xs)(eb:B b=some (seqObj "tuple" ws m))(sb:Seq F.w B ws ys)(h1:xs ≠ [])(h2:ys ≠ [])(hl:xs.length+ys.length≤16777216) :
  W F.w F.A (binaryOp .Add (.ref a) (.ref b)) h (Out F ln (RV F) ρ B h (.t (.tup (xs++ys))) s):=
 W_objV X (seqObj "tuple" (vs++ws) 0) rfl (fun B' up e=>Is.of_tup e (sa.app sb up)) fun σ Q E hσ q=>by
  subst hσ
  have ne:∀ {vs:List Value} {xs:List T},Seq F.w B vs xs→xs ≠ []→vs.toArray.isEmpty=false:=fun q hx=>by cases q <;> first | exact absurd rfl hx | rfl
  refine PySem.P.add_tuple (X.le _ _ ea) (X.le _ _ eb) (by simpa using ne sa h1) (by simpa using ne sb h2) ?_ ?_
  ·rw [List.append_toArray];exact q _
  ·rw [sizeL,List.size_toArray,List.size_toArray,sa.len,sb.len];exact hl
theorem OpBin{op:Operator}(X:Rel F ln ρ B s h){a b:Value}{x y:V}{r:T}(ha:RelV F.w ρ B a x)(hb:RelV F.w ρ B b y)(e:binV op x y=some r) :
  W F.w F.A (binaryOp op a b) h (Out F ln (RV F) ρ B h (.t r) s):=by
 cases op
 case Add=>
  refine orE e (fun e=>iv_W ha hb e fun i j t u e=>smE e fun h=>h▸W_val X (.int _) (.int _) fun σ Q E _ q=>add_int (q _ _)) fun e=>orE e (fun e=>?_) fun e=>orE e (fun e=>?_) fun e=>orE e (fun e=>?_) fun e=>?_
  ·refine obE e fun i e1 e=>obE e fun j e2 e=>?_
   refine ha.strE e1 fun t h1=>?_
   refine hb.strE e2 fun u h2=>?_
   refine gdE e fun hl h=>h▸h1▸h2▸W_val X (.str _) (.str _) fun σ Q E _ q=>PyProof.Rows.add_str (fun t' tk=>str_app i j▸q t' tk) ?_
   show i.toArray.size+j.toArray.size≤sizeLine
   rw [sizeL];exact hl
  ·refine obE e fun i e1 e=>obE e fun j e2 e=>?_
   refine ha.bytE e1 fun t h1=>?_
   refine hb.bytE e2 fun u h2=>?_
   exact gdE e fun hl h=>h▸h1▸h2▸W_val X (.bytes _) (.bytes _) fun σ Q E _ q=>KBy.add_bytes hl fun t' tk=>List.append_toArray i j▸q t' tk
  ·refine obE e fun i e1 e=>obE e fun j e2 e=>?_
   refine ha.listE e1 fun a vs n h1 ea sa=>?_
   refine hb.listE e2 fun b ws m h2 eb sb=>?_
   exact gdE e fun hl h=>h▸h1▸h2▸addL_W X ea sa eb sb hl
  ·refine obE e fun i e1 e=>obE e fun j e2 e=>?_
   refine ha.tupE e1 fun a vs n h1 ea sa=>?_
   refine hb.tupE e2 fun b ws m h2 eb sb=>?_
   exact gdE e fun hl h=>h▸h1▸h2▸addT_W X ea sa eb sb hl.1 hl.2.1 hl.2.2
 case Sub=>exact iv_W ha hb e fun i j t u e=>smE e fun h=>h▸W_val X (.int _) (.int _) fun σ Q E _ q=>sub_int (q _ _)
 case Mult=>
  refine orE e (fun e=>iv_W ha hb e fun i j t u e=>gdE e fun hm h=>h▸W_val X (.int _) (.int _) fun σ Q E _ q=>mul_int (q _ _) (IntMulOk.of_left hm)) fun e=>?_
  refine obE e fun i e1 e=>obE e fun j e2 e=>?_
  refine ha.bytE e1 fun t h1=>?_
  refine hb.intE e2 fun u h2=>?_
  exact gdE e fun hm h=>h▸h1▸h2▸W_val X (.bytes _) (.bytes _) fun σ Q E _ q=>bytes_mul_any hm.1 hm.2.2.1 hm.2.2.2 hm.2.1 fun t' k=>q t' k
 case Mod=>exact iv_W ha hb e fun i j t u e=>gdE e fun hm h=>h▸W_val X (.int _) (.int _) fun σ Q E _ q=>mod_int' hm (q _ _)
 case FloorDiv=>exact iv_W ha hb e fun i j t u e=>gdE e fun hm h=>h▸W_val X (.int _) (.int _) fun σ Q E _ q=>floordiv_int hm.1 (q _ _) (.inl hm.2)
 case Pow=>exact iv_W ha hb e fun i j t u e=>gdE e fun hm h=>h▸W_val X (.int _) (.int _) fun σ Q E _ q=>pow_int hm.1 hm.2 (q _ _)
 all_goals exact no1 e
noncomputable def den2{β:Type}(a b:Den V)(f:S→V→V→Option β):Den β:=a.bind fun x=>b.opt fun s y=>f s x y
theorem den2E{β:Type}{a b:Den V}{f:S→V→V→Option β}{s s':S}{r:β}{P:Prop}(e:den2 a b f s=some (r,s'))(k:∀ x s1 y,a s=some (x,s1)→b s1=some (y,s')→f s' x y=some r→P):P:=
 Den.bindE e fun x s1 e1 e=>Den.optE e fun y e2 e3=>k x s1 y e1 e2 e3
noncomputable def vv{α:Type}(f:α→α→Option T)(_:S)(x y:α):Option V:=(f x y).map .t
theorem jBin{op:Operator}{l r:Expr}{p:Pos}{da db:Den V}(Ha:JV F ln (eval l F.E) da)(Hb:JV F ln (eval r F.E) db):JV F ln (eval (.BinOp l op r p) F.E) (den2 da db (vv (binV op))):=by
 intro ρ B s h X v s' e
 refine den2E e fun x s1 y e1 e2 e3=>omE e3 fun r e4 e5=>?_
 exact e5▸W_bin ((Ha ρ B s h X x s1 e1).monoO fun ra h1 ρ1 B1 S1 X1 r1=>(Hb ρ1 B1 s1 h1 X1 y s' e2).monoO fun rb h2 ρ2 B2 S2 X2 r2=>
  (OpBin X2 (RelV.step S2 r1) r2 e4).monoO fun v h3 ρ3 B3 S3 X3 r3=>⟨ρ3,B3,(S1.trans S2).trans S3,X3,r3⟩)
mutual
noncomputable def T.py:T→Option PyData
 | .none=>some .none
 | .bool b=>some (.bool b)
 | .int i=>some (.int i)
 | .str x=>some (.str ⟨x.toArray⟩)
 | .tup xs=>(T.pys xs).map .tuple
 | .list xs=>(T.pys xs).map .list
 | .bytes _=>Option.none
 | .con _=>Option.none
 | .dict _=>Option.none
 | .inst _ _=>Option.none
noncomputable def T.pys:List T→Option (List PyData)
 | []=>some []
 | x::r=>match T.py x,T.pys r with
  | some a,some b=>some (a::b)
  | _,_=>Option.none
end
theorem py_seq{w:World}(ih:∀ (i:Nat) v x,vs[i]?=some v→xs[i]?=some x→∀ d,T.py x=some d→∃ as,Reads h v d as)(hl:vs.length=xs.length):∀ {ds},T.pys xs=some ds→∃ as,ReadsAll h vs ds as:=by
 induction xs generalizing vs with
 | nil=>
  intro ds e
  obtain rfl:=List.length_eq_zero_iff.mp hl
  simp only [T.pys] at e;cases e
  exact⟨[],.nil⟩
 | cons x r ihr=>
  intro ds e
  cases vs with
  | nil=>cases hl
  | cons v vs=>
   simp only [T.pys] at e
   split at e <;> cases e
   rename_i a b ha hb
   obtain⟨as,h1⟩:=ih 0 v x rfl rfl a ha
   obtain⟨bs,h2⟩:=ihr (fun i v x e1 e2=>ih (i+1) v x (by simpa using e1) (by simpa using e2)) (by simpa using hl) hb
   exact⟨_,.cons h1 h2⟩
theorem Is.reads{w:World}(le:∀ a o,B a=some o→h.get? a=some o){v:Value}{x:T}(r:Is w B v x):∀ d,x.py=some d→∃ as,Reads h v d as:=by
 induction r with
 | none=>intro d e;cases e;exact⟨_,.none⟩
 | bool b=>intro d e;cases e;exact⟨_,.bool b⟩
 | int i t=>intro d e;cases e;exact⟨_,.int i t⟩
 | str i t=>intro d e;cases e;exact⟨_,.str _ t⟩
 | bytes | con | dict | inst=>intro d e;cases e
 | tup e l _ ih=>
  intro d q
  simp only [T.py,Option.map_eq_some_iff] at q
  obtain⟨ds,q,rfl⟩:=q
  obtain⟨as,q⟩:=py_seq (w:=w) ih l q
  exact⟨_,.tuple (le _ _ e) rfl rfl q⟩
 | list e l _ ih=>
  intro d q
  simp only [T.py,Option.map_eq_some_iff] at q
  obtain⟨ds,q,rfl⟩:=q
  obtain⟨as,q⟩:=py_seq (w:=w) ih l q
  exact⟨_,.list (le _ _ e) rfl rfl q⟩
noncomputable def eq1(x y:T):Option Bool:=(x.int?.bind fun a=>y.int?.map fun b=>decide (a=b)).or <|
 (x.str?.bind fun a=>y.str?.map fun b=>decide (a=b)).or <| x.byt?.bind fun a=>y.byt?.map fun b=>decide (a=b)
noncomputable def eqP(a b:T):Option Bool:=a.py.bind fun x=>b.py.bind fun y=>gd (SeqAt.shaped x=true∧SeqAt.shaped y=true) (PyData.eqv x y)
noncomputable def eqE{α:Type}(a b:List α):Option Bool:=if a.isEmpty || b.isEmpty then some (a.isEmpty && b.isEmpty) else none
noncomputable def eqC(s:S)(x y:V):Option Bool:=((s.lst x).bind fun a=>(s.lst y).bind fun b=>eqE a b).or ((s.dic x).bind fun a=>(s.dic y).bind fun b=>eqE a b)
noncomputable def eqV(s:S)(x y:V):Option Bool:=(x.tr?.bind fun a=>y.tr?.bind fun b=>(eq1 a b).or (eqP a b)).or (eqC s x y)
noncomputable def inSeq(a:T):List T→Option Bool
 | []=>some false
 | b::r=>(eq1 b a).bind fun p=>(inSeq a r).map fun q=>p || q
noncomputable def inV(s:S)(x y:V):Option Bool:=x.tr?.bind fun a=>((s.dic y).bind fun d=>a.key.map fun k=>(dGet k d).isSome).or ((s.seq y).bind (inSeq a))
noncomputable def T.isN:T→Option Bool
 | .none=>some true
 | .con _=>Option.none
 | _=>some false
noncomputable def V.isN:V→Option Bool
 | .t x=>x.isN
 | .loc _=>some false
 | .lst _=>none
noncomputable def isNoneV(x y:V):Option Bool:=(y.tr?.bind T.isN).bind fun b=>if b then x.isN else none
noncomputable def int2(f:Int→Int→Bool)(x y:V):Option Bool:=x.int?.bind fun a=>y.int?.map (f a)
noncomputable def cmpV(op:CmpOp)(s:S)(x y:V):Option Bool:=match op with
 | .Eq=>eqV s x y
 | .NotEq=>(eqV s x y).map (!·)
 | .Lt=>int2 (fun a b=>decide (a < b)) x y
 | .LtE=>int2 (fun a b=>decide (a≤b)) x y
 | .Gt=>int2 (fun a b=>decide (b < a)) x y
 | .GtE=>int2 (fun a b=>decide (b≤a)) x y
 | .In=>inV s x y
 | .NotIn=>(inV s x y).map (!·)
 | .Is=>isNoneV x y
 | .IsNot=>(isNoneV x y).map (!·)
theorem W_bool{w:World}{A:Around}{t:Sem Value}{b:Bool}{Q:Value→Heap→Prop}(H:∀ (σ:Shared) (Q':Value→Shared→Prop) (E:Value→Shared→Prop),σ.heap=h→(∀ k,Q' (.bool b) { σ with toks:=k })→wpAny (model pw w) A t Q' E σ)(q:Q (.bool b) h):W w A t h Q:=
 W_of (v:=fun _=>.bool b) (fun σ Q E hσ q=>H σ Q E hσ fun k=>q 0 k) fun _=>q
def CmA(F:Frm)(h:Heap)(op:CmpOp)(a b:Value)(r:Bool):Prop:=∀ (σ:Shared) (Q:Value→Shared→Prop) (E:Value→Shared→Prop),σ.heap=h→(∀ k,Q (.bool r) { σ with toks:=k })→wpAny (model pw F.w) F.A (compareOp op a b) Q E σ
def Cm(F:Frm)(h:Heap)(o1 o2:CmpOp)(a b:Value)(r:Bool):Prop:=CmA F h o1 a b r∧CmA F h o2 a b (!r)
theorem Cm.of{o1 o2:CmpOp}{a b:Value}{r:Bool}(H1:CmA F h o1 a b r)(H2:CmA F h o2 a b (!r)):Cm F h o1 o2 a b r:=⟨H1,H2⟩
theorem eqI(i j:Int):(i == j)=decide (i=j):=by by_cases e:i=j <;> simp [e]
theorem eqB(i j:List UInt8):(i.toArray.toList == j.toArray.toList)=decide (i=j):=by by_cases e:i=j <;> simp [e]
theorem eqS'(i j:List Nat):decide ((⟨i.toArray⟩:Str)=⟨j.toArray⟩)=decide (i=j):=by rw [decide_eq_decide];exact toArr_inj
theorem eqS(i j:List Nat):((⟨i.toArray⟩:Str) == ⟨j.toArray⟩)=decide (i=j):=by
 rw [←eqS' i j]
 by_cases e:(⟨i.toArray⟩:Str)=⟨j.toArray⟩ <;> simp [e]
theorem eq1E{w:World}{P:Value→Value→Bool→Prop}{a b:Value}{x y:T}{r:Bool}(ha:Is w B a x)(hb:Is w B b y)(e:eq1 x y=some r)(k1:∀ i j t u,P (.int i t) (.int j u) (decide (i=j)))
  (k2:∀ (i j:List Nat) t u,P (.str ⟨i.toArray⟩ t) (.str ⟨j.toArray⟩ u) (decide (i=j))) (k3:∀ (i j:List UInt8) t u,P (.bytes i.toArray t) (.bytes j.toArray u) (decide (i=j))):P a b r:=
 have ha:RelV w [] B a (.t x):=ha
 have hb:RelV w [] B b (.t y):=hb
 orE e (fun e=>obE e fun i e1 e=>omE e fun j e2 e=>ha.intE e1 fun t h1=>hb.intE e2 fun u h2=>h1▸h2▸e▸k1 i j t u) fun e=>
 orE e (fun e=>obE e fun i e1 e=>omE e fun j e2 e=>ha.strE e1 fun t h1=>hb.strE e2 fun u h2=>h1▸h2▸e▸k2 i j t u)
  (fun e=>obE e fun i e1 e=>omE e fun j e2 e=>ha.bytE e1 fun t h1=>hb.bytE e2 fun u h2=>h1▸h2▸e▸k3 i j t u)
noncomputable def valEq:Value→Value→Bool
 | .int a _,.int b _=>decide (a=b)
 | .str a _,.str b _=>decide (a=b)
 | .bytes a _,.bytes b _=>decide (a.toList=b.toList)
 | _,_=>false
theorem eq1_at{w:World}{A:Around}{σ:Shared}{a b:Value}{x y:T}{r:Bool}(ha:Is w B a x)(hb:Is w B b y)(e:eq1 x y=some r):valEq a b=r∧SeqAt.EqAt A σ a b r:=
 eq1E (P:=fun a b r=>valEq a b=r∧SeqAt.EqAt A σ a b r) ha hb e (fun i j t u=>⟨rfl,fun prog w E Q q=>wpAny_eqBool_int (by rw [eqI];exact q)⟩)
  (fun i j t u=>⟨eqS' i j,fun prog w E Q q=>wpAny_eqBool_str (by rw [eqS'];exact q)⟩) (fun i j t u=>⟨rfl,fun prog w E Q q=>eqBool_bytes q⟩)
theorem inSeq_at{w:World}{A:Around}{σ:Shared}{a:Value}{x:T}(ha:Is w B a x){vs:List Value}{xs:List T}(q:Seq w B vs xs):∀ {r},inSeq x xs=some r→(vs.any fun v=>valEq v a)=r∧∀ v∈vs,SeqAt.EqAt A σ v a (valEq v a):=by
 induction q with
 | nil=>exact fun e=>smE e fun e=>⟨e,fun v hv=>nomatch hv⟩
 | cons h1 _ ih=>
  refine fun e=>obE e fun p hp e=>omE e fun q hq e=>?_
  have k1:=eq1_at (A:=A) (σ:=σ) h1 ha hp
  have k2:=ih hq
  refine⟨by rw [List.any_cons,k1.1,k2.1];exact e,fun v hv=>?_⟩
  rcases List.mem_cons.mp hv with rfl | hv
  ·rw [k1.1];exact k1.2
  ·exact k2.2 v hv
theorem eqEE{α:Type}{a b:List α}{r:Bool}{P:Prop}(e:eqE a b=some r)(k1:a=[]→b=[]→true=r→P)(k2:a.length ≠ b.length→false=r→P):P:=by
 unfold eqE at e
 induction a with
 | nil=>induction b with
  | nil=>exact k1 rfl rfl (Option.some.inj e)
  | cons y m=>exact k2 (Nat.zero_ne_add_one _) (Option.some.inj e)
 | cons x l=>induction b with
  | nil=>exact k2 (Nat.add_one_ne_zero _) (Option.some.inj e)
  | cons y m=>exact no1 e
theorem eqLists(hu:F.A.units+64 < cLine){a b:Addr}{vs ws:List Value}{n m:Nat}{xs ys:List T}{r:Bool}(oa:h.get? a=some (seqObj "list" vs n))(sa:Seq F.w B vs xs)(ob:h.get? b=some (seqObj "list" ws m))(sb:Seq F.w B ws ys)(e:eqE xs ys=some r) :
  Cm F h .Eq .NotEq (.ref a) (.ref b) r:=by
 have la:∀ σ:Shared,σ.heap=h→σ.heap.IsList a vs.toArray:=fun σ hσ=>⟨_,by rw [hσ];exact oa,rfl,_,rfl⟩
 have lb:∀ σ:Shared,σ.heap=h→σ.heap.IsList b ws.toArray:=fun σ hσ=>⟨_,by rw [hσ];exact ob,rfl,_,rfl⟩
 refine eqEE e (fun h1 h2 h3=>?_) fun hl h3=>?_
 ·have e1:vs=[]:=List.length_eq_zero_iff.mp (by rw [sa.len,h1];rfl)
  have e2:ws=[]:=List.length_eq_zero_iff.mp (by rw [sb.len,h2];rfl)
  rw [e1] at la;rw [e2] at lb
  exact h3▸.of (fun σ Q E hσ q=>SeqAt.RcAt.lists (e:=fun _=>true) (la σ hσ) (lb σ hσ) rfl (by omega) (fun j h1=>absurd h1 (by simp)) pw F.w E Q (q _))
   (fun σ Q E hσ q=>SeqAt.RcNeAt.lists (e:=fun _=>true) (la σ hσ) (lb σ hσ) rfl (by omega) (fun j h1=>absurd h1 (by simp)) pw F.w E Q (q _))
 ·have hne:(vs.toArray.size != ws.toArray.size)=true:=by simpa [sa.len,sb.len] using hl
  exact h3▸.of (fun σ Q E hσ q=>SeqAt.RcAt.lists_lengths (la σ hσ) (lb σ hσ) hne (by omega) pw F.w E Q (q _)) (fun σ Q E hσ q=>SeqAt.RcNeAt.lists_lengths (la σ hσ) (lb σ hσ) hne (by omega) pw F.w E Q (q _))
theorem eqDicts(hu:F.A.units+64 < cLine){a b:Addr}{vs ws:List DictEntry}{n m:Nat}{xs ys:List (K×T)}{r:Bool}(za:DicOk a xs)(oa:h.get? a=some (dicObj vs n))(sa:Dic F.w B vs xs)(zb:DicOk b ys)(ob:h.get? b=some (dicObj ws m))(sb:Dic F.w B ws ys)(e:eqE xs ys=some r) :
  Cm F h .Eq .NotEq (.ref a) (.ref b) r:=by
 have la:∀ σ:Shared,σ.heap=h→σ.heap.DictOf (mixKind pw F.w) a (kvsOf vs xs):=fun σ hσ=>by rw [hσ];exact(Dic.dictOf oa sa za).dictOf
 have lb:∀ σ:Shared,σ.heap=h→σ.heap.DictOf (mixKind pw F.w) b (kvsOf ws ys):=fun σ hσ=>by rw [hσ];exact(Dic.dictOf ob sb zb).dictOf
 have l1:=kvsOf_len sa
 have l2:=kvsOf_len sb
 refine eqEE e (fun h1 h2 h3=>?_) fun hl h3=>?_
 ·rw [List.length_eq_zero_iff.mp (l1.trans (by rw [h1];rfl))] at la
  rw [List.length_eq_zero_iff.mp (l2.trans (by rw [h2];rfl))] at lb
  exact h3▸.of (fun σ Q E hσ q=>keq_eq (r:=true) za.1 zb.1 (la σ hσ) (lb σ hσ) (by omega) (fun _=>.nil) (q _)) (fun σ Q E hσ q=>keq_ne (r:=true) za.1 zb.1 (la σ hσ) (lb σ hσ) (by omega) (fun _=>.nil) (q _))
 ·have hl':(kvsOf vs xs).length ≠ (kvsOf ws ys).length:=by rw [l1,l2];exact hl
  have hb':((kvsOf vs xs).length == (kvsOf ws ys).length && true)=false:=by simpa using hl'
  exact h3▸.of (fun σ Q E hσ q=>keq_eq (r:=true) za.1 zb.1 (la σ hσ) (lb σ hσ) (by omega) (fun z=>absurd z hl') (by rw [hb'];exact q _)) (fun σ Q E hσ q=>keq_ne (r:=true) za.1 zb.1 (la σ hσ) (lb σ hσ) (by omega) (fun z=>absurd z hl') (by rw [hb'];exact q _))
theorem eqOne{a b:Value}{x y:T}{r:Bool}(ha:Is F.w B a x)(hb:Is F.w B b y)(e:eq1 x y=some r):Cm F h .Eq .NotEq a b r:=
 eq1E (P:=Cm F h .Eq .NotEq) ha hb e (fun i j t u=>.of (fun σ Q E hσ q=>PyProof.Rows.eq_int (by rw [eqI];exact q _)) fun σ Q E hσ q=>PyProof.Rows.ne_int (by rw [bne,eqI];exact q _))
  (fun i j t u=>.of (fun σ Q E hσ q=>PyProof.Rows.eq_str (by rw [eqS];exact q _)) fun σ Q E hσ q=>PyProof.Rows.ne_str (by rw [bne,eqS];exact q _))
  (fun i j t u=>.of (fun σ Q E hσ q=>PySem.W.eq_bytes (by rw [eqB];exact q _)) fun σ Q E hσ q=>PySem.W.ne_bytes (by rw [bne,eqB];exact q _))
theorem OpEq(n:Nm F ln cn gs)(hr:10≤F.r)(X:Rel F ln ρ B s h){a b:Value}{x y:V}{r:Bool}(ha:RelV F.w ρ B a x)(hb:RelV F.w ρ B b y)(e:eqV s x y=some r):Cm F h .Eq .NotEq a b r:=by
 have hu:F.A.units+64 < cLine:=by have:=n.ar.un;omega
 refine orE e (fun e=>obE e fun x' e1 e=>obE e fun y' e2 e=>ha.trE e1 fun ha=>hb.trE e2 fun hb=>orE e (eqOne ha hb) fun e=>?_) fun e=>orE e (fun e=>?_) fun e=>?_
 ·exact obE e fun dx e1 e=>obE e fun dy e2 e=>gdE e fun hs h1=>(Is.reads X.le ha _ e1).elim fun as ra=>(Is.reads X.le hb _ e2).elim fun bs rb=>
   h1▸.of (fun σ Q E hσ q=>SeqAt.compareEq_shaped (by rw [hσ];exact ra) (by rw [hσ];exact rb) hs.1 hs.2 hu (q _)) (fun σ Q E hσ q=>SeqAt.compareNe_shaped (by rw [hσ];exact ra) (by rw [hσ];exact rb) hs.1 hs.2 hu (q _))
 ·exact obE e fun xs e1 e=>obE e fun ys e2 e=>X.lstE ha e1 fun a vs n h1 oa sa=>X.lstE hb e2 fun b ws m h2 ob sb=>h1▸h2▸eqLists hu oa sa ob sb e
 ·exact obE e fun xs e1 e=>obE e fun ys e2 e=>X.dicE ha e1 fun a vs n h1 za oa sa=>X.dicE hb e2 fun b ws m h2 zb ob sb=>h1▸h2▸eqDicts hu za oa sa zb ob sb e
theorem OpIn(X:Rel F ln ρ B s h){a b:Value}{x y:V}{r:Bool}(ha:RelV F.w ρ B a x)(hb:RelV F.w ρ B b y)(e:inV s x y=some r):Cm F h .In .NotIn a b r:=by
 refine obE e fun x' e1 e=>ha.trE e1 fun ha=>orE e (fun e=>?_) fun e=>?_
 ·refine obE e fun d hd e=>omE e fun k hk e=>X.dicE hb hd fun b es n h1 z ob sb=>?_
  have hk':=T.key_holds ha hk
  rw [←e,←h1,←Dic.has (prog:=pw) sb k]
  exact .of (fun σ Q E hσ q=>wpAny_in_of (knd:=mixKind pw F.w) hk' z.1 (by rw [hσ];exact Dic.mapOf ob sb) (q _)) fun σ Q E hσ q=>wpAny_notIn_of (knd:=mixKind pw F.w) hk' z.1 (by rw [hσ];exact Dic.mapOf ob sb) (q _)
 ·refine obE e fun xs hx e=>X.seqE hb hx fun b c vs n h1 hc ob sb=>?_
  have k:=fun(σ:Shared)=>inSeq_at (A:=F.A.in1) (σ:=σ) ha sb e
  have k2:∀ (σ:Shared),∀ y∈vs.toArray,SeqAt.EqAt F.A.in1 σ y a (valEq y a):=fun σ y hy=>(k σ).2 y (by simpa using hy)
  have e1:∀ _:Shared,vs.toArray.any (fun v=>valEq v a)=r:=fun σ=>by rw [List.any_toArray];exact(k σ).1
  rw [←h1]
  rcases hc with rfl | rfl
  ·exact .of (fun σ Q E hσ q=>SeqAt.in_listAt (fun v=>valEq v a) ⟨_,by rw [hσ];exact ob,rfl,_,rfl⟩ (k2 σ) (by rw [e1 σ];exact q _)) fun σ Q E hσ q=>SeqAt.notIn_listAt (fun v=>valEq v a) ⟨_,by rw [hσ];exact ob,rfl,_,rfl⟩ (k2 σ) (by rw [e1 σ];exact q _)
  ·exact .of (fun σ Q E hσ q=>SeqAt.in_tupleAt (fun v=>valEq v a) ⟨_,by rw [hσ];exact ob,rfl,_,rfl⟩ (k2 σ) (by rw [e1 σ];exact q _)) fun σ Q E hσ q=>SeqAt.notIn_tupleAt (fun v=>valEq v a) ⟨_,by rw [hσ];exact ob,rfl,_,rfl⟩ (k2 σ) (by rw [e1 σ];exact q _)
theorem T.isN_at{w:World}{a:Value}{x:T}{r:Bool}(ha:Is w B a x)(e:x.isN=some r):(a == .none)=r:=by
 induction ha with
 | con=>exact no1 e
 | _=>exact Option.some.inj e
theorem T.isNT{w:World}{a:Value}{x:T}(ha:Is w B a x)(e:x.isN=some true):.none=a:=by
 induction ha with
 | none=>rfl
 | con=>exact no1 e
 | _=>exact absurd (Option.some.inj e) Bool.false_ne_true
theorem OpIs{a b:Value}{x y:V}{r:Bool}(ha:RelV F.w ρ B a x)(hb:RelV F.w ρ B b y)(e:isNoneV x y=some r):Cm F h .Is .IsNot a b r:=by
 refine obE e fun c e1 e=>obE e1 fun y' e1 e2=>hb.trE e1 fun hb=>?_
 induction c with
 | false=>exact no1 e
 | true=>
  have key:(a == .none)=r:=by
   induction x with
   | t x=>exact T.isN_at ha e
   | loc=>exact ha.elim fun _ h=>h.2▸Option.some.inj e
   | lst=>exact no1 e
  exact T.isNT hb e2▸key▸.of (fun σ Q E hσ q=>is_none (q _)) fun σ Q E hσ q=>isNot_none (q _)
theorem OpCmp(n:Nm F ln cn gs)(hr:10≤F.r)(X:Rel F ln ρ B s h){op:CmpOp}{a b:Value}{x y:V}{r:Bool}(ha:RelV F.w ρ B a x)(hb:RelV F.w ρ B b y)(e:cmpV op s x y=some r):CmA F h op a b r:=by
 have i2:∀ {f:Int→Int→Bool} {op:CmpOp},int2 f x y=some r→(∀ i j t u,CmA F h op (.int i t) (.int j u) (f i j))→CmA F h op a b r:=
  fun e H=>obE e fun i e1 e=>omE e fun j e2 e=>ha.intE e1 fun t h1=>hb.intE e2 fun u h2=>h1▸h2▸e▸H i j t u
 cases op
 case Eq=>exact(OpEq n hr X ha hb e).1
 case NotEq=>exact omE e fun r' e1 e2=>e2▸(OpEq n hr X ha hb e1).2
 case Lt=>exact i2 e fun i j t u σ Q E _ q=>PyProof.Rows.lt_int (q _)
 case LtE=>exact i2 e fun i j t u σ Q E _ q=>PyProof.Rows.le_int (q _)
 case Gt=>exact i2 e fun i j t u σ Q E _ q=>PyProof.Rows.gt_int (q _)
 case GtE=>exact i2 e fun i j t u σ Q E _ q=>PyProof.Rows.ge_int (q _)
 case In=>exact(OpIn X ha hb e).1
 case NotIn=>exact omE e fun r' e1 e2=>e2▸(OpIn X ha hb e1).2
 case Is=>exact(OpIs ha hb e).1
 case IsNot=>exact omE e fun r' e1 e2=>e2▸(OpIs ha hb e1).2
theorem Out.pre{α β:Type}{R:Heap→List Addr→Base→Heap→α→β→Prop}{ρ1:List Addr}{B1:Base}{h1:Heap}{x:β}{s':S}{a:α}{h':Heap}(st:Step F ρ B h ρ1 B1 h1)(o:Out F ln R ρ1 B1 h1 x s' a h')(hR:R h1=R h):Out F ln R ρ B h x s' a h':=
 o.casesOn fun ρ' B' st' X r=>⟨ρ',B',st.trans st',X,hR▸r⟩
theorem JV.go{t:Sem Value}{d:Den V}(H:JV F ln t d)(X:Rel F ln ρ B s h){v:V}{s':S}(e:d s=some (v,s')){ρ0:List Addr}{B0:Base}{h0:Heap}(st:Step F ρ0 B0 h0 ρ B h):W F.w F.A t h (Out F ln (RV F) ρ0 B0 h0 v s'):=
 (H ρ B s h X v s' e).mono fun _ _ o=>o.pre st rfl
theorem JB.go{t:Sem Bool}{d:Den Bool}(H:JB F ln t d)(X:Rel F ln ρ B s h){v:Bool}{s':S}(e:d s=some (v,s')){ρ0:List Addr}{B0:Base}{h0:Heap}(st:Step F ρ0 B0 h0 ρ B h):W F.w F.A t h (Out F ln RE ρ0 B0 h0 v s'):=
 (H ρ B s h X v s' e).mono fun _ _ o=>o.pre st rfl
noncomputable def dCmp(op:CmpOp)(a b:Den V):Den Bool:=den2 a b (cmpV op)
noncomputable def vB(d:Den Bool):Den V:=d.opt fun _ b=>some (.t (.bool b))
theorem jCmp(n:Nm F ln cn gs)(hr:10≤F.r){op:CmpOp}{l r:Expr}{p:Pos}{da db:Den V}(Ha:JV F ln (eval l F.E) da)(Hb:JV F ln (eval r F.E) db)(hm:behindInMarks op r=false) :
  JV F ln (eval (.Compare l [op] [r] p) F.E) (vB (dCmp op da db)):=fun ρ B s h X v s' e=>
 Den.optE e fun b q e'=>smE e' fun e'=>den2E q fun x s1 y e1 e2 e3=>W_cmp hm <| (Ha ρ B s h X x s1 e1).monoO fun ra h1 ρ1 B1 S1 X1 r1=>(Hb ρ1 B1 s1 h1 X1 y s' e2).monoO fun rb h2 ρ2 B2 S2 X2 r2=>
  W_bool (OpCmp n hr X2 (RelV.step S2 r1) r2 e3) ⟨ρ2,B2,S1.trans S2,X2,e'▸.bool _⟩
theorem jTCmp(n:Nm F ln cn gs)(hr:10≤F.r){op:CmpOp}{l r:Expr}{p:Pos}{t:Sem Value}{da db:Den V}(Ha:JV F ln (eval l F.E) da)(Hb:JV F ln (eval r F.E) db)(hm:behindInMarks op r=false) :
  JB F ln (isTrue (.Compare l [op] [r] p) F.E t) (dCmp op da db):=fun ρ B s h X v s' e=>
 den2E e fun x s1 y e1 e2 e3=>W_tcmp hm <| (Ha ρ B s h X x s1 e1).monoO fun ra h1 ρ1 B1 S1 X1 r1=>(Hb ρ1 B1 s1 h1 X1 y s' e2).monoO fun rb h2 ρ2 B2 S2 X2 r2=>
  W_bool (OpCmp n hr X2 (RelV.step S2 r1) r2 e3) (W_tbool ⟨ρ2,B2,S1.trans S2,X2,rfl⟩)
noncomputable def dB{β:Type}(b:β):Den β:=fun s=>some (b,s)
noncomputable def dIte{β:Type}(c:Den Bool)(a b:Den β):Den β:=c.bind fun t=>if t then a else b
noncomputable def dChain(o1 o2:CmpOp)(a b c:Den V):Den Bool:=a.bind fun x=>b.bind fun y=>dIte (fun s=>(cmpV o1 s x y).map fun t=>(t,s)) (c.opt fun s3 z=>cmpV o2 s3 y z) (dB false)
theorem chain_core(n:Nm F ln cn gs)(hr:10≤F.r){o1 o2:CmpOp}{l r1 r2:Expr}{da db dc:Den V}(Ha:JV F ln (eval l F.E) da)(Hb:JV F ln (eval r1 F.E) db)(Hc:JV F ln (eval r2 F.E) dc)
  {ρ B s h} (X:Rel F ln ρ B s h) {b:Bool} {s':S} (e:dChain o1 o2 da db dc s=some (b,s')) :
  W F.w F.A (eval l F.E) h fun a h1=>W F.w F.A (eval r1 F.E) h1 fun b1 h2=>∃ t,CmA F h2 o1 a b1 t∧(t=true→W F.w F.A (eval r2 F.E) h2 fun c h3=>CmA F h3 o2 b1 c b∧Ou F ln ρ B h s' h3)∧(t=false→false=b∧Ou F ln ρ B h s' h2):=
 Den.bindE e fun x s1 e1 e=>Den.bindE e fun y s2 e2 e=>(Ha ρ B s h X x s1 e1).monoO fun ra h1 ρ1 B1 S1 X1 q1=>(Hb ρ1 B1 s1 h1 X1 y s2 e2).monoO fun rb h2 ρ2 B2 S2 X2 q2=>
  Den.bindE e fun t s3 e3 e=>omE e3 fun t' e4 e5=>so2 (P:=fun(t:Bool) s3=>(if t then (dc.opt fun s3 z=>cmpV o2 s3 y z) else dB false) s3=some (b,s')→_) e5 (by
   intro e
   refine⟨t',OpCmp n hr X2 (RelV.step S2 q1) q2 e4,?_⟩
   induction t' with
   | true=>exact⟨fun _=>Den.optE e fun z e4 e5=>(Hc ρ2 B2 s2 h2 X2 z s' e4).monoO fun rc h3 ρ3 B3 S3 X3 q3=>⟨OpCmp n hr X3 (RelV.step S3 q2) q3 e5,ρ3,B3,(S1.trans S2).trans S3,X3⟩,fun z=>no3 z.symm⟩
   | false=>exact⟨no3,fun _=>so (P:=fun b s'=>false=b∧Ou F ln ρ B h s' h2) e ⟨rfl,ρ2,B2,S1.trans S2,X2⟩⟩) e
theorem jChain(n:Nm F ln cn gs)(hr:10≤F.r){o1 o2:CmpOp}{l r1 r2:Expr}{p:Pos}{da db dc:Den V}(Ha:JV F ln (eval l F.E) da)(Hb:JV F ln (eval r1 F.E) db)(Hc:JV F ln (eval r2 F.E) dc)(hm:lastMarks [o1,o2] [r1,r2]=false) :
  JV F ln (eval (.Compare l [o1,o2] [r1,r2] p) F.E) (vB (dChain o1 o2 da db dc)):=fun ρ B s h X v s' e=>Den.optE e fun b q e'=>smE e' fun e'=>by
 intro σ hσ
 refine Compare_chain (W_wp (chain_core n hr Ha Hb Hc X q) hσ (.refl σ) fun a σ1 S1 H1=>chain_link (W_wp H1 rfl S1 fun b1 σ2 S2 H=>ex12 H fun t H2 H3=>H2 σ2 _ _ rfl fun k=>wpAny_truthy_bool ?_)) hm
 rw [←e']
 induction t with
 | true=>exact chain_last (W_wp (σ:={ σ2 with toks:=k }) (H3.1 rfl) rfl (S2.tk k) fun c σ4 S4 H4=>H4.1 σ4 _ _ rfl fun k=>H4.2.el fun ρ' B' st X'=>⟨S4.tk k,ρ',B',st,X',.bool b⟩)
 | false=>exact(H3.2 rfl).2.el fun ρ' B' st X'=>⟨S2.tk k,ρ',B',st,X',(H3.2 rfl).1▸.bool _⟩
theorem jTChain(n:Nm F ln cn gs)(hr:10≤F.r){o1 o2:CmpOp}{l r1 r2:Expr}{p:Pos}{t:Sem Value}{da db dc:Den V}(Ha:JV F ln (eval l F.E) da)(Hb:JV F ln (eval r1 F.E) db)(Hc:JV F ln (eval r2 F.E) dc)(hm:lastMarks [o1,o2] [r1,r2]=false) :
  JB F ln (isTrue (.Compare l [o1,o2] [r1,r2] p) F.E t) (dChain o1 o2 da db dc):=fun ρ B s h X b s' q=>by
 intro σ hσ
 refine isTrue_chain (W_wp (chain_core n hr Ha Hb Hc X q) hσ (.refl σ) fun a σ1 S1 H1=>test_link (W_wp H1 rfl S1 fun b1 σ2 S2 H=>ex12 H fun t H2 H3=>H2 σ2 _ _ rfl fun k=>wpAny_truthy_bool ?_)) hm
 induction t with
 | true=>exact test_last (W_wp (σ:={ σ2 with toks:=k }) (H3.1 rfl) rfl (S2.tk k) fun c σ4 S4 H4=>H4.1 σ4 _ _ rfl fun k=>wpAny_truthy_bool (H4.2.el fun ρ' B' st X'=>⟨S4.tk k,ρ',B',st,X',rfl⟩))
 | false=>exact(H3.2 rfl).2.el fun ρ' B' st X'=>⟨S2.tk k,ρ',B',st,X',(H3.2 rfl).1⟩
noncomputable def T.tru:T→Option Bool
 | .bool b=>some b
 | .none=>some false
 | _=>Option.none
noncomputable def truthV(s:S)(v:V):Option Bool:=(v.tr?.bind T.tru).or ((s.lst v).bind fun xs=>gd (xs.length≤16777216) (!xs.isEmpty))
theorem OpTruth(X:Rel F ln ρ B s h){a:Value}{x:V}{r:Bool}(ha:RelV F.w ρ B a x)(e:truthV s x=some r){σ:Shared}(hσ:σ.heap=h){Q:Bool→Shared→Prop}{E:Value→Shared→Prop}(q:∀ k,Q r { σ with toks:=k }):wpAny (model pw F.w) F.A (truthy a) Q E σ:=by
 refine orE e (fun e=>obE e fun y e1 e=>ha.trE e1 fun ha=>?_) fun e=>obE e fun xs e1 e=>gdE e fun hl e=>X.lstE ha e1 fun ad vs n h1 o k=>?_
 ·induction ha with
  | bool b=>exact wpAny_truthy_bool (Option.some.inj e▸q σ.toks)
  | none=>exact wpAny_pure (Option.some.inj e▸q σ.toks)
  | _=>exact no1 e
 ·rw [←h1]
  refine wpAny_truthy_list (items:=vs.toArray) ⟨_,hσ▸o,rfl,_,rfl⟩ (by rw [List.size_toArray,k.len];omega) ?_
  have:vs.toArray.isEmpty=xs.isEmpty:=by induction k <;> rfl
  rw [this,e];exact q _
noncomputable def dTruth(d:Den V):Den Bool:=d.opt truthV
theorem jTVal{e:Expr}{d:Den V}(H:JV F ln (eval e F.E) d)(he:isTrue e F.E (eval e F.E)=(do let v ←eval e F.E;standAt e.pos;holding [v] (truthy v))):JB F ln (isTrue e F.E (eval e F.E)) (dTruth d):=fun ρ B s h X b s' e=>
 Den.optE e fun x e1 e2=>W_tval he ((H ρ B s h X x s' e1).monoO fun a h1 ρ1 B1 S1 X1 r1 σ hσ=>OpTruth X1 r1 e2 hσ fun k=>⟨(Same.refl σ).tk k,ρ1,B1,hσ▸S1,hσ▸X1,rfl⟩)
noncomputable def dNot(d:Den Bool):Den Bool:=d.opt fun _ b=>some !b
theorem jTNot{x:Expr}{p:Pos}{y:Sem Value}{d:Den Bool}(H:JB F ln (isTrue x F.E (eval x F.E)) d):JB F ln (isTrue (.UnaryOp .Not x p) F.E y) (dNot d):=fun ρ B s h X b s' e=>
 Den.optE e fun c e1 e2=>smE e2 fun e2=>W_tnot ((H ρ B s h X c s' e1).monoO fun a h1 ρ1 B1 S1 X1 r1=>⟨ρ1,B1,S1,X1,e2▸congrArg not r1⟩)
theorem dIteO{β:Type}{c:Den Bool}{a b:Den β}{s s':S}{r:β}{P:Prop}(e:dIte c a b s=some (r,s'))(k:∀ t s1,c s=some (t,s1)→(if t then a else b) s1=some (r,s')→P):P:=Den.bindE e k
theorem jIfe{t a b:Expr}{p:Pos}{dc:Den Bool}{da db:Den V}(Hc:JB F ln (isTrue t F.E (eval t F.E)) dc)(Ha:JV F ln (eval a F.E) da)(Hb:JV F ln (eval b F.E) db) :
  JV F ln (eval (.IfExp t a b p) F.E) (dIte dc da db):=fun ρ B s h X v s' e=>
 dIteO e fun c s1 e1 e2=>W_ife ((Hc ρ B s h X c s1 e1).monoO fun c' h1 ρ1 B1 S1 X1 r1=>by
  rw [r1]
  induction c with
  | true=>exact Ha.go X1 e2 S1
  | false=>exact Hb.go X1 e2 S1)
theorem jAndNil:JB F ln (allTrue .And [] F.E) (dB true):=fun ρ B s h X b s' e=>W_and_nil (so (P:=fun b s'=>Out F ln RE ρ B h b s' true h) e ⟨ρ,B,.refl ..,X,rfl⟩)
theorem jOrNil:JB F ln (allTrue .Or [] F.E) (dB false):=fun ρ B s h X b s' e=>W_or_nil (so (P:=fun b s'=>Out F ln RE ρ B h b s' false h) e ⟨ρ,B,.refl ..,X,rfl⟩)
theorem jAndCons{x:Expr}{r:List Expr}{da db:Den Bool}(Ha:JB F ln (isTrue x F.E (eval x F.E)) da)(Hb:JB F ln (allTrue .And r F.E) db):JB F ln (allTrue .And (x::r) F.E) (dIte da db (dB false)):=fun ρ B s h X b s' e=>
 dIteO e fun c s1 e1 e2=>W_and ((Ha ρ B s h X c s1 e1).monoO fun c' h1 ρ1 B1 S1 X1 r1=>by
  rw [r1]
  induction c with
  | true=>exact Hb.go X1 e2 S1
  | false=>exact so (P:=fun b s'=>Out F ln RE ρ B h b s' false h1) e2 ⟨ρ1,B1,S1,X1,rfl⟩)
theorem jOrCons{x:Expr}{r:List Expr}{da db:Den Bool}(Ha:JB F ln (isTrue x F.E (eval x F.E)) da)(Hb:JB F ln (allTrue .Or r F.E) db):JB F ln (allTrue .Or (x::r) F.E) (dIte da (dB true) db):=fun ρ B s h X b s' e=>
 dIteO e fun c s1 e1 e2=>W_or ((Ha ρ B s h X c s1 e1).monoO fun c' h1 ρ1 B1 S1 X1 r1=>by
  rw [r1]
  induction c with
  | true=>exact so (P:=fun b s'=>Out F ln RE ρ B h b s' true h1) e2 ⟨ρ1,B1,S1,X1,rfl⟩
  | false=>exact Hb.go X1 e2 S1)
theorem jTBool{op:BoolOp}{l:List Expr}{p:Pos}{x:Sem Value}{d:Den Bool}(H:JB F ln (allTrue op l F.E) d):JB F ln (isTrue (.BoolOp op l p) F.E x) d:=fun ρ B s h X b s' e=>W_tand (H ρ B s h X b s' e)
noncomputable def dAO(f:Bool)(a b:Den V):Den V:=a.bind fun x=>dIte (fun s=>(truthV s x).map fun t=>(t == f,s)) b (dB x)
noncomputable abbrev dAndV(a b:Den V):Den V:=dAO true a b
noncomputable abbrev dOrV(a b:Den V):Den V:=dAO false a b
theorem dAO_E{f:Bool}{a b:Den V}{s s':S}{v:V}{P:Prop}(e:dAO f a b s=some (v,s'))(k:∀ x s1 t,a s=some (x,s1)→truthV s1 x=some t→(if (t == f)=true then b s1 else some (x,s1))=some (v,s')→P):P:=
 Den.bindE e fun x s1 e1 e=>dIteO e fun t s2 e2 e=>omE e2 fun t' e3 e4=>k x s1 t' e1 e3 (so2 (P:=fun(t:Bool) s2=>(if t then b else dB x) s2=some (v,s')→_) e4 (by cases t' == f <;> exact id) e)
theorem jAO_end{op:BoolOp}{e2:Expr}{rest:List Expr}{p:Pos}{db:Den V}{c:Bool}(Hb:JV F ln (eval (.BoolOp op (e2::rest) p) F.E) db){ρ0:List Addr}{B0:Base}{h0:Heap}{x v:V}{s1 s':S}{a:Value}{σ1 σ0:Shared}(S1:Same σ0 σ1)(st1:Step F ρ0 B0 h0 ρ B σ1.heap)(X1:Rel F ln ρ B s1 σ1.heap)(r1:RelV F.w ρ B a x)
  (e:(if c=true then db s1 else some (x,s1))=some (v,s')) {E:Value→Shared→Prop}:if c=true then wpAny (model pw F.w) F.A (eval (.BoolOp op (e2::rest) p) F.E) (fun a σ=>Same σ0 σ∧Out F ln (RV F) ρ0 B0 h0 v s' a σ.heap) E σ1 else Same σ0 σ1∧Out F ln (RV F) ρ0 B0 h0 v s' a σ1.heap:=by
 induction c with
 | true=>exact W_wp (Hb.go X1 e st1) rfl S1 fun a σ3 S3 o=>⟨S3,o⟩
 | false=>exact⟨S1,so (P:=fun v s'=>Out F ln (RV F) ρ0 B0 h0 v s' a σ1.heap) e ⟨ρ,B,st1,X1,r1⟩⟩
theorem jAndV{e1 e2:Expr}{rest:List Expr}{p:Pos}{da db:Den V}(Ha:JV F ln (eval e1 F.E) da)(Hb:JV F ln (eval (.BoolOp .And (e2::rest) p) F.E) db):JV F ln (eval (.BoolOp .And (e1::e2::rest) p) F.E) (dAndV da db):=fun ρ B s h X v s' e σ hσ=>
 dAO_E e fun x s1 t q1 ht e=>BoolOp_and (W_wpO (Ha ρ B s h X x s1 q1) hσ (.refl σ) fun a σ1 S1 ρ1 B1 st1 X1 r1=>OpTruth X1 r1 ht rfl fun k=>(by
  have z:=jAO_end (σ1:={ σ1 with toks:=k }) (c:=t == true) Hb (S1.tk k) st1 X1 r1 e (E:=fun _ _=>False)
  cases t <;> exact z))
theorem jOrV{e1 e2:Expr}{rest:List Expr}{p:Pos}{da db:Den V}(Ha:JV F ln (eval e1 F.E) da)(Hb:JV F ln (eval (.BoolOp .Or (e2::rest) p) F.E) db):JV F ln (eval (.BoolOp .Or (e1::e2::rest) p) F.E) (dOrV da db):=fun ρ B s h X v s' e σ hσ=>
 dAO_E e fun x s1 t q1 ht e=>BoolOp_or (W_wpO (Ha ρ B s h X x s1 q1) hσ (.refl σ) fun a σ1 S1 ρ1 B1 st1 X1 r1=>OpTruth X1 r1 ht rfl fun k=>(by
  have z:=jAO_end (σ1:={ σ1 with toks:=k }) (c:=t == false) Hb (S1.tk k) st1 X1 r1 e (E:=fun _ _=>False)
  cases t <;> exact z))
theorem jOneV{op:BoolOp}{e:Expr}{p:Pos}{d:Den V}(H:JV F ln (eval e F.E) d):JV F ln (eval (.BoolOp op [e] p) F.E) d:=fun ρ B s h X v s' e σ hσ=>BoolOp_one (W_wp (H ρ B s h X v s' e) hσ (.refl σ) fun _ _ S q=>⟨S,q⟩)
theorem Step.pre'{ρ':List Addr}{B':Base}{h':Heap}(x:Step F ρ B h ρ' B' h'):∃ t,ρ'=ρ++t:=let ⟨t,e,_⟩:=x.pre;⟨t,e⟩
theorem Step.none{ρ':List Addr}{B':Base}{h':Heap}(x:Step F ρ B h ρ' B' h'){a:Addr}(e:h'.get? a=Option.none):h.get? a=Option.none:=
 Option.eq_none_iff_forall_ne_some.mpr fun o q=>(x.sz a o q).elim fun o' z=>no1 (e.symm.trans z)
def JArgs(F:Frm)(ln:List Str)(as:List Expr)(d:Den (List V)):Prop:=
 ∀ ρ B s h,Rel F ln ρ B s h→∀ xs s',d s=some (xs,s')→Args F.w F.A F.E as h (Out F ln (RVs F) ρ B h xs s')
theorem Args.mono{w:World}{A:Around}{E:Env}:∀ {as:List Expr} {h:Heap} {Q Q':List Value→Heap→Prop},Args w A E as h Q→(∀ vs h',Q vs h'→Q' vs h')→Args w A E as h Q'
 | [],_,_,_,H,k=>k _ _ H
 | _::_,_,_,_,H,k=>W.mono H fun _ _ H'=>Args.mono H' fun _ _ q=>k _ _ q
theorem Args.monoO{F:Frm}{ln:List Str}{ρ:List Addr}{B:Base}{h0 h:Heap}{xs:List V}{s':S}{as:List Expr}{Q:List Value→Heap→Prop}(H:Args F.w F.A F.E as h (Out F ln (RVs F) ρ B h0 xs s'))
  (k:∀ a h1 ρ1 B1,Step F ρ B h0 ρ1 B1 h1→Rel F ln ρ1 B1 s' h1→All2 (RelV F.w ρ1 B1) a xs→Q a h1):Args F.w F.A F.E as h Q:=Args.mono H fun a h1 o=>o.casesOn fun ρ1 B1 S X r=>k a h1 ρ1 B1 S X r
noncomputable def dNil:Den (List V):=fun s=>some ([],s)
noncomputable def dCons(a:Den V)(r:Den (List V)):Den (List V):=a.bind fun x=>r.opt fun _ xs=>some (x::xs)
theorem jArgs0:JArgs F ln [] dNil:=fun ρ B s h X xs s' e=>so (P:=fun xs s'=>Out F ln (RVs F) ρ B h xs s' [] h) e ⟨ρ,B,.refl ..,X,.nil⟩
theorem jArgs1{a:Expr}{r:List Expr}{da:Den V}{dr:Den (List V)}(Ha:JV F ln (eval a F.E) da)(Hr:JArgs F ln r dr):JArgs F ln (a::r) (dCons da dr):=fun ρ B s h X xs s' e=>
 Den.bindE e fun x s1 e1 e2=>Den.optE e2 fun ys e3 e4=>smE e4 fun e4=>(Ha ρ B s h X x s1 e1).monoO fun ra h1 ρ1 B1 S1 X1 r1=>(Hr ρ1 B1 s1 h1 X1 ys s' e3).monoO fun vs h2 ρ2 B2 S2 X2 r2=>
  ⟨ρ2,B2,S1.trans S2,X2,e4▸.cons (RelV.step S2 r1) r2⟩
theorem W_spl{as:List Expr}{p:Pos}{Q:List Value→Heap→Prop}(hn:noStar as=true)(H:Args F.w F.A F.E as h Q):W F.w F.A (spliced (backTo p (starEach as F.E))) h Q:=fun σ hσ=>by
 rw [trees_plain p hn]
 exact spliced_args (t:=[]) (p:=p) hσ (.refl σ) hn H fun vs s' S q=>⟨S,q⟩
noncomputable def allT:List V→Option (List T)
 | []=>some []
 | x::r=>x.tr?.bind fun y=>(allT r).map (y::·)
theorem allT_seq{w:World}{vs:List Value}{xs:List V}(q:All2 (RelV w ρ B) vs xs):∀ {ts:List T},allT xs=some ts→Seq w B vs ts:=by
 induction q with
 | nil=>exact fun e=>smE e fun e=>e▸.nil
 | cons r _ ih=>exact fun e=>obE e fun y e1 e=>omE e fun ys e2 e=>e▸.cons (r.trE e1 id) (ih e2)
noncomputable def allL(f:List V):Option (List T):=(allT f).bind fun ts=>gd (ts.length≤16777216) ts
theorem allL_inv{xs:List V}{ts:List T}(e:allL xs=some ts):allT xs=some ts∧ts.length≤16777216:=obE e fun ts' e1 e2=>gdE e2 fun hl e=>e▸⟨e1,hl⟩
noncomputable def dTup(d:Den (List V)):Den V:=d.opt fun _ xs=>(allL xs).map fun ts=>.t (.tup ts)
noncomputable def dList(d:Den (List V)):Den MO:=d.opt fun _ xs=>(allL xs).map .list
theorem Rel.pushN(X:Rel F ln ρ B s h)(o:Obj):Step F ρ B h ρ B (h.push o)∧Rel F ln ρ B s (h.push o):=
 X.same (fun _ _ e=>Heap.get?_push_of_some _ e)
theorem wp_newSeq{A:Around}{w:World}{σ:Shared}{c:String}{vs:List Value}{xs:List T}(q:Seq w B vs xs)(hl:xs.length≤16777216){Q:Value→Shared→Prop}{E:Value→Shared→Prop}(k:∀ n,Q (.ref σ.heap.objs.size) { σ with heap:=σ.heap.push (seqObj c vs 0),toks:=n }) :
  wpAny (model pw w) A (newObj (.type c) (.seq vs.toArray)) Q E σ:=wpAny_newObj_type (k _) (by show vs.toArray.size≤sizeLine;rw [sizeL,List.size_toArray,q.len];exact hl)
theorem jTup{es:List Expr}{k:Nat}{p:Pos}{d:Den (List V)}(hn:noStar es=true)(H:JArgs F ln es d):JV F ln (eval (.Tuple es k p) F.E) (dTup d):=fun ρ B s h X v s' e=>
 Den.optE e fun xs e1 e2=>omE e2 fun ts e3 e4 σ hσ=>PyProof.Rows.Tuple_ (W_wpO (W_spl hn (H ρ B s h X xs s' e1)) hσ (.refl σ) fun vs σ1 S1 ρ1 B1 st X1 r=>
  have sq:=allT_seq r (allL_inv e3).1
  wp_newSeq (c:="tuple") sq (allL_inv e3).2 fun n=>ex02 (X1.push (seqObj "tuple" vs 0) rfl) fun st2 X2=>⟨⟨S1.g,S1.d,S1.o⟩,_,_,st.trans st2,X2,e4▸Is.of_tup (Base.add_self ..) (sq.mono fun _ _ r=>r.mono st2.up)⟩)
theorem New.mk'(X:Rel F ln ρ B s h){ρ0:List Addr}{B0:Base}{h0:Heap}(st:Step F ρ0 B0 h0 ρ B h){o:Obj}(hf:o.isFreed=false){x:MO}(k:(h.push o).get? h.objs.size=some o→ObjAt F.w ρ B (h.push o) h.objs.size x):Out F ln (New F) ρ0 B0 h0 x s (.ref h.objs.size) (h.push o):=
 ex02 (X.pushN o) fun st2 X2=>⟨ρ,B,st.trans st2,X2,_,rfl,st.none (get_size _),(X.fresh (get_size _)).1,(X.fresh (get_size _)).2.1,k (get_push hf)⟩
theorem jList{es:List Expr}{p:Pos}{d:Den (List V)}(hn:noStar es=true)(H:JArgs F ln es d):JN F ln (eval (.List es p) F.E) (dList d):=fun ρ B s h X v s' e=>
 Den.optE e fun xs e1 e2=>omE e2 fun ts e3 e4 σ hσ=>PyProof.Rows.List_ (W_wpO (W_spl hn (H ρ B s h X xs s' e1)) hσ (.refl σ) fun vs σ1 S1 ρ1 B1 st X1 r=>
  have sq:=allT_seq r (allL_inv e3).1
  wp_newSeq (c:="list") sq (allL_inv e3).2 fun n=>⟨⟨S1.g,S1.d,S1.o⟩,e4▸New.mk' X1 st (o:=seqObj "list" vs 0) rfl fun e=>⟨vs,0,e,sq⟩⟩)
noncomputable def dDict0:Den MO:=dB (.dict [])
theorem jDict0{p:Pos}:JN F ln (eval (.Dict [] [] p) F.E) dDict0:=fun ρ B s h X v s' e=>
 so (P:=fun v s'=>W F.w F.A (eval (.Dict [] [] p) F.E) h (Out F ln (New F) ρ B h v s')) e fun σ hσ=>by
  subst hσ
  exact wpAny_Dict_empty ⟨⟨rfl,rfl,rfl⟩,New.mk' X (.refl ..) (o:=dicObj [] 0) rfl fun e=>⟨[],0,e,.nil,X.notSys (get_size _),.nil⟩⟩
noncomputable def moT(o:MO):Option T:=(o.list?.map .list).or (o.dict?.map .dict)
noncomputable def dFz(d:Den MO):Den V:=d.opt fun _ o=>(moT o).map .t
theorem Rel.join(X:Rel F ln ρ B s h){a:Addr}{ob:Obj}(hn:B a=none)(ho:a ∉ F.own ρ)(hN:¬F.N a)(ha:h.get? a=some ob):Rel F ln ρ (B.add a ob) s h:=by
 have up:=Base.add_le (o:=ob) hn
 have hne:∀ b,b∈F.own ρ→b ≠ a:=fun b hb e=>ho (e▸hb)
 have same:∀ b,b ≠ a→B.add a ob b=B b:=fun b hb=>if_neg hb
 refine⟨fun i o e=>up _ _ (X.st i o e),fun b o e=>?_,X.up.trans up,fun b o e=>?_,X.nsz,X.nd,X.out,fun b hb=>?_,fun i b o e e' hg=>?_,X.pre,?_,fun i c e=>?_,X.len,fun i b o e e'=>?_,X.kle⟩
 ·rcases Base.add_inv e with ⟨rfl,rfl⟩ | e
  ·exact ha
  ·exact X.le b o e
 ·rcases Base.add_inv e with ⟨rfl,rfl⟩ | e
  ·exact .inr hN
  ·exact X.new b o e
 ·rw [same b (hne b (List.mem_append_left ρ hb))];exact X.bn b hb
 ·rw [same b (hne b (.tail _ (List.mem_append_right _ (List.mem_of_getElem? e))))];exact X.br i b o e e' hg
 ·refine ex12 (X.loc) fun m hm k=>?_
  exact⟨m,hm,fun i x e=>(k i x e).mono ⟨[],by simp⟩ up⟩
 ·refine ex12 (X.cel i c e) fun v hv k=>?_
  exact⟨v,hv,k.mono ⟨[],by simp⟩ up⟩
 ·exact(X.led i b o e e').mono ⟨[],by simp⟩ up fun _ z=>z
theorem Step.add{ρ':List Addr}{B':Base}{h':Heap}(st:Step F ρ B h ρ' B' h'){a:Addr}{ob:Obj}(hn:B' a=Option.none)(hf:h.get? a=Option.none):Step F ρ B h ρ' (B'.add a ob) h':=
 ⟨st.pre,st.up.trans (Base.add_le hn),st.keep,st.sz,fun b o e=>by
  rcases Base.add_inv e with ⟨rfl,rfl⟩ | e
  ·exact .inr (.inl hf)
  ·exact st.bn b o e⟩
theorem mo_is{a:Addr}{o:MO}{t:T}(L:ObjAt F.w ρ B h a o)(e:moT o=some t):∃ ob,h.get? a=some ob∧∀ B',B.Le B'→B' a=some ob→Is F.w B' (.ref a) t:=
 orE e (fun e=>omE e fun xs e1 e2=>ex22 (MO.listE (P:=fun o=>ObjAt F.w ρ B h a o→ObjAt F.w ρ B h a (.list xs)) e1 id L) fun vs m o k=>⟨_,o,fun B' up e=>e2▸Is.of_list e (k.mono fun _ _ r=>r.mono up)⟩)
  fun e=>omE e fun xs e1 e2=>ex23 (MO.dictE (P:=fun o=>ObjAt F.w ρ B h a o→ObjAt F.w ρ B h a (.dict xs)) e1 id L) fun vs m o k z=>⟨_,o,fun B' up e=>e2▸Is.of_dict z e (k.mono fun _ _ r=>r.mono up)⟩
theorem New.fz{h0:Heap}{ρ0:List Addr}{B0:Base}{v:Value}{o:MO}{t:T}(X:Rel F ln ρ B s h)(hs:∀ a,F.N a→∃ o,h0.get? a=some o)(st:Step F ρ0 B0 h0 ρ B h)(n:New F h0 ρ B h v o)(e:moT o=some t):Out F ln (RV F) ρ0 B0 h0 (.t t) s v h:=
 n.elim fun a n=>ex12 (mo_is n.2.2.2.2 e) fun ob o k=>⟨_,_,st.add n.2.2.1 n.2.1,X.join n.2.2.1 n.2.2.2.1 (fun z=>(hs _ z).elim fun _ q=>no1 (n.2.1.symm.trans q)) o,n.1▸k _ (Base.add_le n.2.2.1) (Base.add_self ..)⟩
theorem jFz{t:Sem Value}{d:Den MO}(H:JN F ln t d):JV F ln t (dFz d):=fun ρ B s h X v s' e=>
 Den.optE e fun o e1 e2=>omE e2 fun t e3 e4=>(H ρ B s h X o s' e1).monoO fun v h1 ρ1 B1 st X1 n=>e4▸n.fz X1 X.nsz st e3
theorem subscripted_any(slice:Expr)(o i:Value):∃ ops,subscripted slice false o i=operate ops (getItem o i):=by
 cases slice <;> first | exact⟨_,rfl⟩ | (rename_i a b c p;cases c <;> exact⟨_,rfl⟩)
noncomputable def pick{α:Type}(xs:List α)(i:Int):Option α:=(seqIndex? i xs.length).bind fun j=>(xs[j]?).bind fun x=>gd (i < 4611686018427387904∧-4611686018427387904≤i) x
noncomputable def itemT(s:S)(o i:V):Option T:=(i.int?.bind fun i=>((s.seq o).bind fun xs=>pick xs i).or <| ((s.dic o).bind (dGet (.int i))).or <|
  (o.str?.bind fun x=>(pick x i).map fun c=>.str [c]).or <| o.byt?.bind fun x=>gd (x.length≤16777216∧0≤i∧i < x.length) (.int (x.getD i.toNat 0).toNat)).or <|
 i.str?.bind fun i=>(s.dic o).bind (dGet (.str i))
noncomputable def itemV(s:S)(o i:V):Option V:=(itemT s o i).map .t
theorem W_tail{value slice:Expr}{o i:Value}{c id:String}{Q:Value→Heap→Prop}(hT:∀ σ:Shared,σ.heap=h→σ.TypeIs o c)(hl:typeLookup (.type c) "__getitem__"=pure (some (.builtin id)))(H:W F.w F.A (getItem o i) h Q):W F.w F.A (subscriptTail value slice o i) h Q:=fun σ hσ=>
 (subscripted_any slice o i).elim fun ops e=>tail_any (hT σ hσ) hl (H σ hσ) e
theorem seqIndex_neg{i:Int}{n j:Nat}(h0:i < 0)(e:seqIndex? i n=some j):-(n:Int)≤i∧j=(i+n).toNat:=by
 simp only [seqIndex?,if_pos h0,Option.ite_none_right_eq_some,Bool.and_eq_true,decide_eq_true_eq,Option.some.injEq] at e
 exact⟨by omega,e.2.symm⟩
theorem seqIndex_pos{i:Int}{n j:Nat}(h0:0≤i)(e:seqIndex? i n=some j):j=i.toNat:=by
 have h1:¬i < 0:=by omega
 simp only [seqIndex?,if_neg h1,Option.ite_none_right_eq_some,Bool.and_eq_true,decide_eq_true_eq,Option.some.injEq] at e
 exact e.2.symm
abbrev SubW(F:Frm)(ρ:List Addr)(B:Base)(h:Heap)(value slice:Expr)(a i:Value)(r:T):Prop:=∀ Q:Value→Heap→Prop,(∀ v,Is F.w B v r→Q v h)→W F.w F.A (subscriptTail value slice a i) h Q
theorem sub_dic{value slice:Expr}{iv:Value}{k:K}{b:Addr}{es:List DictEntry}{n:Nat}{d:List (K×T)}{t:T}(z:DicOk b d)(ob:h.get? b=some (dicObj es n))(sb:Dic F.w B es d)(hk:k.holds iv=true)(e:dGet k d=some t):SubW F ρ B h value slice (.ref b) iv t:=by
 intro Q q
 have f:=Dic.find (prog:=pw) sb k
 rw [e] at f
 generalize hf:(es.find? fun e=>(mixKind pw F.w).is k e.key).map (·.val)=g at f
 induction g with
 | none=>exact f.elim
 | some v=>
  refine W_tail (c:="dict") (fun σ hσ=>⟨_,by rw [hσ];exact ob,rfl⟩) PySem.slot_dict_getitem.lookup ?_
  refine W_of (v:=fun _=>v) (fun σ Q' E hσ q'=>wpAny_getItem_of (knd:=mixKind pw F.w) hk (by rw [hσ];exact Dic.mapOf ob sb) ?_ (q' 0 _)) fun _=>q v f
  unfold findBy;rw [List.find?_toArray];exact hf
theorem sub_seq{value slice:Expr}{a:Addr}{c:String}{i:Int}{tk:Tok}{vs:List Value}{n j:Nat}{xs:List T}{t:T}(hc:c="list"∨c="tuple")(oa:h.get? a=some (seqObj c vs n))(sa:Seq F.w B vs xs)(e2:seqIndex? i xs.length=some j)(e3:xs[j]?=some t)
  (hb:i < 4611686018427387904∧-4611686018427387904≤i):SubW F ρ B h value slice (.ref a) (.int i tk) t:=by
 intro Q q
 refine ex12 (All2.some_left sa e3) fun v e4 r1=>?_
 rw [←sa.len] at e2
 rcases hc with rfl | rfl
 ·refine W_tail (c:="list") (fun σ hσ=>⟨_,by rw [hσ];exact oa,rfl⟩) slot_list_getitem.lookup ?_
  refine W_of (v:=fun _=>v) (fun σ Q' E hσ q'=>?_) fun _=>q v r1
  have hl:σ.heap.IsList a vs.toArray:=⟨_,by rw [hσ];exact oa,rfl,_,rfl⟩
  by_cases h0:0≤i
  ·refine wpAny_getItem_list hl h0 (by omega) ?_ (q' 0 _)
   rw [←seqIndex_pos h0 e2,List.getElem?_toArray];exact e4
  ·have z:=seqIndex_neg (by omega) e2
   refine wpAny_getItem_list_neg hl (by omega) (by rw [List.size_toArray];exact z.1) (by omega) ?_ (q' 0 _)
   rw [z.2] at e4;rw [List.size_toArray,List.getElem?_toArray];exact e4
 ·refine W_tail (c:="tuple") (fun σ hσ=>⟨_,by rw [hσ];exact oa,rfl⟩) PySem.F.slot_tuple_getitem.lookup ?_
  exact W_of (v:=fun _=>v) (fun σ Q' E hσ q'=>PySem.P.getItem_tuple (items:=vs.toArray) (n:=n) (by rw [hσ];exact oa) (by omega) (by omega) (by rw [List.size_toArray];exact e2) (by rw [List.getElem?_toArray];exact e4) (q' 0 _)) fun _=>q v r1
theorem sub_str{value slice:Expr}{x:List Nat}{u tk:Tok}{i:Int}{j c:Nat}(e2:seqIndex? i x.length=some j)(e3:x[j]?=some c)(hb:i < 4611686018427387904∧-4611686018427387904≤i):SubW F ρ B h value slice (.str ⟨x.toArray⟩ u) (.int i tk) (.str [c]):=fun Q q=>
 W_tail (c:="str") (fun σ hσ=>typeIs_str _ _ _) PySem.F.slot_str_getitem.lookup
  (W_of (v:=fun n=>Value.str ⟨#[c]⟩ n) (fun σ Q' E hσ q'=>PySem.P.getItem_str (c:=c) (by simp;omega) (by rw [show (⟨x.toArray⟩:Str).length=x.length from rfl,e2];show x.toArray[j]?=_;rw [List.getElem?_toArray];exact e3) (q' _ _)) fun n=>q _ (.str [c] n))
theorem sub_byt{value slice:Expr}{x:List UInt8}{u tk:Tok}{i:Int}(hb:x.length≤16777216∧0≤i∧i < x.length):SubW F ρ B h value slice (.bytes x.toArray u) (.int i tk) (.int (x.getD i.toNat 0).toNat):=fun Q q=>
 W_tail (c:="bytes") (fun σ hσ=>rfl) FB.slot_bytes_getitem.lookup (W_of (v:=fun n=>Value.int (x.getD i.toNat 0).toNat n) (fun σ Q' E hσ q'=>PySem.W.getItem_bytes (by omega) hb.2.1 hb.2.2 (q' _ _)) fun n=>q _ (.int _ n))
theorem pickE{α:Type}{xs:List α}{i:Int}{x:α}{P:Prop}(e:pick xs i=some x)(k:∀ j,seqIndex? i xs.length=some j→xs[j]?=some x→(i < 4611686018427387904∧-4611686018427387904≤i)→P):P:=
 obE e fun j e1 e=>obE e fun y e2 e=>gdE e fun hb e=>k j e1 (e▸e2) hb
theorem OpItem(X:Rel F ln ρ B s h){value slice:Expr}{a iv:Value}{x y:V}{r:T}(ha:RelV F.w ρ B a x)(hi:RelV F.w ρ B iv y)(e:itemT s x y=some r):SubW F ρ B h value slice a iv r:=by
 refine orE e (fun e=>obE e fun i e1 e=>hi.intE e1 fun tk h1=>orE e (fun e=>?_) fun e=>orE e (fun e=>?_) fun e=>orE e (fun e=>?_) fun e=>?_) fun e=>?_
 ·exact obE e fun xs e2 e=>pickE e fun j e3 e4 hb=>X.seqE ha e2 fun ad c vs n h2 hc oa sa=>h1▸h2▸sub_seq hc oa sa e3 e4 hb
 ·exact obE e fun d e2 e=>X.dicE ha e2 fun b es n h2 z ob sb=>h1▸h2▸sub_dic z ob sb (by simp [K.holds,Value.isInt]) e
 ·exact obE e fun xs e2 e=>omE e fun c e e5=>pickE e fun j e3 e4 hb=>ha.strE e2 fun u h2=>h1▸h2▸e5▸sub_str e3 e4 hb
 ·exact obE e fun xs e2 e=>gdE e fun hb e5=>ha.bytE e2 fun u h2=>h1▸h2▸e5▸sub_byt hb
 ·exact obE e fun i e1 e=>hi.strE e1 fun tk h1=>obE e fun d e2 e=>X.dicE ha e2 fun b es n h2 z ob sb=>h1▸h2▸sub_dic z ob sb (by simp [K.holds,Value.isStrOf]) e
theorem jItem{value slice:Expr}{p:Pos}{da db:Den V}(Ha:JV F ln (eval value F.E) da)(Hb:JV F ln (eval slice F.E) db):JV F ln (eval (.Subscript value slice p) F.E) (den2 da db itemV):=fun ρ B s h X v s' e=>
 den2E e fun x s1 y e1 e2 e3=>omE e3 fun r e4 e5 σ hσ=>Subscript_ (W_wpO (Ha ρ B s h X x s1 e1) hσ (.refl σ) fun ra σ1 S1 ρ1 B1 st1 X1 r1=>W_wpO (Hb ρ1 B1 s1 _ X1 y s' e2) rfl S1 fun rb σ2 S2 ρ2 B2 st2 X2 r2=>
  W_wp (OpItem X2 (RelV.step st2 r1) r2 e4 (fun v' h'=>h'=σ2.heap∧Is F.w B2 v' r) fun v' r=>⟨rfl,r⟩) rfl S2 fun v' σ3 S3 hh=>⟨S3,ρ2,B2,hh.1▸st1.trans st2,hh.1▸X2,e5▸hh.2⟩)
theorem Rel.Lown(X:Rel F ln ρ B s h):F.L ∉ F.ca∧F.L ∉ ρ:=by
 have:=X.nd
 simp only [Frm.own,List.nodup_cons,List.mem_append,not_or] at this
 exact this.1
theorem Rel.sep(X:Rel F ln ρ B s h):F.ca.Nodup∧ρ.Nodup∧∀ a∈F.ca,a ∉ ρ:=by
 have:=X.nd
 simp only [Frm.own,List.nodup_cons,List.nodup_append] at this
 exact⟨this.2.1,this.2.2.1,fun a ha hr=>this.2.2.2 a ha a hr rfl⟩
theorem alive_but{a:Addr}{h':Heap}(hs:Heap.SameBut a h h')(hl:∃ o,h'.get? a=some o)(b:Addr)(o:Obj)(e:h.get? b=some o):∃ o',h'.get? b=some o':=by
 by_cases q:b=a
 ·subst q;exact hl
 ·exact⟨o,(hs.2 b q).trans e⟩
theorem Rel.step_but{a:Addr}{h':Heap}(X:Rel F ln ρ B s h)(hs:Heap.SameBut a h h')(ha:a∈F.own ρ)(hl:∃ o,h'.get? a=some o):Step F ρ B h ρ B h':=
 ⟨⟨[],by simp,by simp⟩,.refl B,fun b o e n=>(hs.2 b (fun q=>n (q▸ha))).trans e,fun b o e=>alive_but hs hl b o e,fun _ _ e=>.inl e⟩
noncomputable def S.setL(s:S)(i:Nat)(v:V):S:={ s with ls:=s.ls.set i (some v) }
noncomputable def S.setC(s:S)(i:Nat)(v:V):S:={ s with cl:=s.cl.set i (some v) }
theorem set_at{α:Type}(l:List (Option α))(i j:Nat)(v:α):((l.set i (some v))[j]?.getD none)=if i=j∧i < l.length then some v else l[j]?.getD none:=by
 rw [List.getElem?_set]
 by_cases e:i=j
 ·subst e
  by_cases h:i < l.length <;> simp [h]
 ·simp [e]
theorem Rel.chg(X:Rel F ln ρ B s h){a:Addr}{h':Heap}(hS:Heap.SameBut a h h')(ha:a∈F.own ρ)(hB:B a=none)(hl:∃ o,h'.get? a=some o){s':S}(br:∀ (i:Nat) b o,ρ[i]?=some b→s'.o[i]?=some o→o ≠ .gone→B b=none)
  (loc:∃ m,h'.Ns F.L m∧∀ (i:Nat) x,ln[i]?=some x→ORel F.w ρ B (m x) (s'.ls[i]?.getD none)) (cel:∀ (i:Nat) c,F.ca[i]?=some c→∃ v,h'.IsCell c v∧ORel F.w ρ B v (s'.cl[i]?.getD none)) (len:s'.o.length=s.o.length)
  (led:∀ (i:Nat) b o,ρ[i]?=some b→s'.o[i]?=some o→ObjAt F.w ρ B h' b o):Step F ρ B h ρ B h'∧Rel F ln ρ B s' h':=
 ⟨X.step_but hS ha hl,X.st,fun b o e=>(hS.2 b fun q=>no1 (hB.symm.trans (q▸e))).trans (X.le b o e),X.up,X.new,fun b hb=>(X.nsz b hb).elim fun o e=>alive_but hS hl b o e,X.nd,fun b hb=>(X.out b hb).elim fun o e=>alive_but hS hl b o e,X.bn,br,X.pre,loc,cel,X.len.trans len.symm,led,X.kle⟩
theorem at_inj{α:Type}{l:List α}(hd:l.Nodup){i j:Nat}{x:α}(e:l[i]?=some x)(e':l[j]?=some x):i=j:=(List.getElem?_inj (List.getElem?_eq_some_iff.mp e).1 hd).mp (e.trans e'.symm)
theorem ORel.set{w:World}{l:List (Option V)}{i:Nat}{v:Value}{a:V}(r:RelV w ρ B v a):ORel w ρ B (some v) ((l.set i (some a))[i]?.getD none):=by
 rw [set_at]
 by_cases hl:i < l.length
 ·rw [if_pos ⟨rfl,hl⟩];exact r
 ·rw [if_neg fun z=>hl z.2,List.getElem?_eq_none (by omega)];trivial
theorem set_ne{l:List (Option V)}{i j:Nat}{a:V}(hn:i ≠ j):((l.set i (some a))[j]?.getD none)=l[j]?.getD none:=by rw [List.getElem?_set_ne hn]
theorem Rel.setL(X:Rel F ln ρ B s h)(hnd:ln.Nodup){i:Nat}{x:Str}{v:Value}{a:V}{h':Heap}(hx:ln[i]?=some x)(r:RelV F.w ρ B v a){m:Str→Option Value}(k:∀ (i:Nat) x,ln[i]?=some x→ORel F.w ρ B (m x) (s.ls[i]?.getD none))(hN:h'.Ns F.L (fun y=>if y=x then some v else m y))(hS:Heap.SameBut F.L h h') :
  Step F ρ B h ρ B h'∧Rel F ln ρ B (s.setL i a) h':=by
 refine X.chg hS (.head _) (X.bn F.L (.head _)) (let ⟨o,_,_,e,_⟩:=hN;⟨o,e⟩) X.br ⟨_,hN,fun j y hy=>?_⟩ (fun j c hc=>ex12 (X.cel j c hc) fun v hv k=>⟨v,hv.sameBut hS fun q=>X.Lown.1 (q▸List.mem_of_getElem? hc),k⟩) rfl
  fun j b o e e'=>(X.led j b o e e').mono ⟨[],by simp⟩ (.refl B) fun ob e=>(hS.2 b fun q=>X.Lown.2 (q▸List.mem_of_getElem? ‹_›)).trans e
 by_cases e:y=x
 ·rw [if_pos e];exact at_inj hnd hx (e▸hy)▸.set r
 ·rw [if_neg e]
  show ORel _ _ _ _ ((s.ls.set i (some a))[j]?.getD none)
  rw [set_ne fun q=>e (Option.some.inj ((q▸hy).symm.trans hx))]
  exact k j y hy
theorem Rel.setC(X:Rel F ln ρ B s h){i:Nat}{c:Addr}{v:Value}{a:V}{h':Heap}(hc:F.ca[i]?=some c)(r:RelV F.w ρ B v a)(hN:h'.IsCell c (some v))(hS:Heap.SameBut c h h') :
  Step F ρ B h ρ B h'∧Rel F ln ρ B (s.setC i a) h':=by
 have hcm:=List.mem_of_getElem? hc
 refine X.chg hS (.tail _ (List.mem_append_left _ hcm)) (X.bn c (.tail _ hcm)) (let ⟨o,e,_⟩:=hN;⟨o,e⟩) X.br (ex12 X.loc fun m hm k=>⟨m,hm.sameBut hS fun q=>X.Lown.1 (q▸hcm),k⟩) (fun j b hb=>?_) rfl
  fun j b o e e'=>(X.led j b o e e').mono ⟨[],by simp⟩ (.refl B) fun ob e=>(hS.2 b fun q=>X.sep.2.2 c hcm (q▸List.mem_of_getElem? ‹_›)).trans e
 by_cases e:i=j
 ·exact⟨some v,Option.some.inj (hc.symm.trans (e▸hb))▸hN,e▸.set r⟩
 ·refine ex12 (X.cel j b hb) fun v hv k=>⟨v,hv.sameBut hS fun q=>e (at_inj X.sep.1 hc (q▸hb)),?_⟩
  show ORel _ _ _ _ ((s.cl.set i (some a))[j]?.getD none)
  rw [set_ne e];exact k
noncomputable def S.setO(s:S)(i:Nat)(o:MO):S:={ s with o:=s.o.set i o }
theorem Rel.upd(X:Rel F ln ρ B s h){i:Nat}{a:Addr}{o':MO}{h':Heap}(ha:ρ[i]?=some a)(hg:∃ o,s.o[i]?=some o∧o ≠ .gone)(hN:ObjAt F.w ρ B h' a o')(hS:Heap.SameBut a h h'):Step F ρ B h ρ B h'∧Rel F ln ρ B (s.setO i o') h':=by
 have ham:=List.mem_of_getElem? ha
 have hB:B a=none:=ex12 hg fun o e n=>X.br i a o ha e n
 refine X.chg (s':=s.setO i o') hS (.tail _ (List.mem_append_right _ ham)) hB hN.at (fun j b o e e' hg=>?_) (ex12 X.loc fun m hm k=>⟨m,hm.sameBut hS fun q=>X.Lown.2 (q▸ham),k⟩)
  (fun j c hc=>ex12 (X.cel j c hc) fun v hv k=>⟨v,hv.sameBut hS fun q=>X.sep.2.2 c (List.mem_of_getElem? hc) (q▸ham),k⟩) List.length_set fun j b o e e'=>?_
 ·by_cases q:i=j
  ·exact Option.some.inj (ha.symm.trans (q▸e))▸hB
  ·exact X.br j b o e ((List.getElem?_set_ne q).symm.trans e') hg
 ·by_cases q:i=j
  ·have e':(s.o.set i o')[j]?=some o:=e'
   rw [←q,List.getElem?_set_self (ex12 hg fun o e _=>(List.getElem?_eq_some_iff.mp e).1)] at e'
   exact Option.some.inj (ha.symm.trans (q▸e))▸Option.some.inj e'▸hN
  ·exact(X.led j b o e ((List.getElem?_set_ne q).symm.trans e')).mono ⟨[],by simp⟩ (.refl B) fun ob z=>(hS.2 b fun y=>q (at_inj X.sep.2.1 ha (y▸e))).trans z
noncomputable def S.pushO(s:S)(o:MO):S:={ s with o:=s.o++[o] }
theorem Rel.led_push{a:Addr}{o:MO}(X:Rel F ln ρ B s h)(hn:B a=none)(ho:a ∉ F.own ρ)(hN:¬F.N a)(ha:ObjAt F.w (ρ++[a]) B h a o):Rel F ln (ρ++[a]) B (s.pushO o) h:=by
 have hp:∃ t,ρ++[a]=ρ++t:=⟨_,rfl⟩
 refine⟨X.st,X.le,X.up,X.new,X.nsz,?_,fun b hb=>?_,X.bn,fun i b ob e e' hg=>?_,fun i b e hk=>?_,?_,fun i c hc=>?_,?_,fun i b ob e e'=>?_,by rw [List.length_append];exact Nat.le_trans X.kle (Nat.le_add_right _ _)⟩
 ·have e:F.own (ρ++[a])=F.own ρ++[a]:=by simp [Frm.own]
  rw [e,List.nodup_append]
  exact⟨X.nd,by simp,fun x hx y hy=>by simp at hy;subst hy;exact fun q=>ho (q▸hx)⟩
 ·have:b∈F.own ρ∨b=a:=by
   simp only [Frm.own,List.mem_cons,List.mem_append,List.not_mem_nil,or_false] at hb ⊢
   rcases hb with h1 | h1 | h1 | h1 <;> simp [h1]
  rcases this with h1 | rfl
  ·exact X.out b h1
  ·refine ex11 (ha.at) fun ob e=>?_
   exact⟨ob,e⟩
 ·have e':(s.o++[o])[i]?=some ob:=e'
  by_cases hi:i < ρ.length
  ·rw [List.getElem?_append_left hi] at e
   rw [List.getElem?_append_left (by rw [←X.len];exact hi)] at e'
   exact X.br i b ob e e' hg
  ·rw [List.getElem?_append_right (by omega)] at e
   have h0:i - ρ.length=0:=by have:=(List.getElem?_eq_some_iff.mp e).1;simp at this;omega
   rw [h0] at e
   cases e;exact hn
 ·by_cases hi:i < ρ.length
  ·rw [List.getElem?_append_left hi] at e;exact X.pre i b e hk
  ·rw [List.getElem?_append_right (by omega)] at e
   have:i - ρ.length=0:=by have:=(List.getElem?_eq_some_iff.mp e).1;simp at this;omega
   rw [this] at e;cases e;exact hN
 ·refine ex12 (X.loc) fun m hm k=>?_
  exact⟨m,hm,fun i x e=>(k i x e).mono hp (.refl B)⟩
 ·refine ex12 (X.cel i c hc) fun v hv k=>?_
  exact⟨v,hv,k.mono hp (.refl B)⟩
 ·show _=(s.o++[o]).length
  simp [X.len]
 ·have e':(s.o++[o])[i]?=some ob:=e'
  by_cases hi:i < ρ.length
  ·rw [List.getElem?_append_left hi] at e
   rw [List.getElem?_append_left (by rw [←X.len];exact hi)] at e'
   exact(X.led i b ob e e').mono hp (.refl B) fun _ z=>z
  ·rw [List.getElem?_append_right (by omega)] at e
   have h0:i - ρ.length=0:=by have:=(List.getElem?_eq_some_iff.mp e).1;simp at this;omega
   rw [List.getElem?_append_right (by rw [←X.len];omega),←X.len,h0] at e'
   rw [h0] at e
   cases e;refine so1 e' ?_
   exact ha
theorem New.push{h0:Heap}{v:Value}{o:MO}{ρ0:List Addr}{B0:Base}(X:Rel F ln ρ B s h)(hs:∀ a,F.N a→∃ o,h0.get? a=some o)(st:Step F ρ0 B0 h0 ρ B h)(n:New F h0 ρ B h v o):Out F ln (RV F) ρ0 B0 h0 (.loc s.o.length) (s.pushO o) v h:=by
 obtain⟨a,rfl,h1,h2,h3,h4⟩:=n
 refine st.pre.elim fun t ht=>⟨ρ++[a],B,⟨⟨t++[a],by rw [ht.1,List.append_assoc],fun b hb=>?_⟩,st.up,st.keep,st.sz,st.bn⟩,X.led_push h2 h3 (fun z=>(hs _ z).elim fun _ q=>no1 (h1.symm.trans q)) (h4.mono ⟨_,rfl⟩ (.refl B) fun _ e=>e),a,?_,rfl⟩
 ·rcases List.mem_append.mp hb with h | h
  ·exact ht.2 b h
  ·exact List.mem_singleton.mp h▸h1
 ·rw [←X.len,List.getElem?_concat_length]
theorem W_stL(n:Nm F ln cn gs)(X:Rel F ln ρ B s h){i:Nat}{x:Str}{v:Value}{a:V}(hx:ln[i]?=some x)(r:RelV F.w ρ B v a){Q:Unit→Heap→Prop}
  (q:∀ h',Step F ρ B h ρ B h'→Rel F ln ρ B (s.setL i a) h'→Q () h'):W F.w F.A (storeName F.E x v) h Q:=fun σ hσ=>by
 subst hσ
 refine ex12 (X.loc) fun m hm k=>?_
 have hk:=n.lk x (List.mem_of_getElem? hx)
 refine wpAny_storeName_local hk.1 (by rw [n.loc];exact hm) (fun h' hN hS=>?_) (not_class_of n.kind)
 rw [n.loc] at hN hS
 refine ex02 (X.setL n.nd hx r k hN hS) fun st X'=>?_
 exact⟨⟨rfl,rfl,rfl⟩,q h' st X'⟩
theorem W_stC(n:Nm F ln cn gs)(X:Rel F ln ρ B s h){i:Nat}{x:Str}{v:Value}{a:V}(hx:cn[i]?=some x)(r:RelV F.w ρ B v a){Q:Unit→Heap→Prop}
  (q:∀ h',Step F ρ B h ρ B h'→Rel F ln ρ B (s.setC i a) h'→Q () h'):W F.w F.A (storeName F.E x v) h Q:=fun σ hσ=>by
 subst hσ
 obtain⟨hk,hd,c,hc,hl⟩:=n.ck i x hx
 refine ex12 (X.cel i c hc) fun cv hcv k=>?_
 refine wpAny_storeName_cell n.kind hk hl hcv fun h' hN hS=>?_
 refine ex02 (X.setC hc r hN hS) fun st X'=>?_
 exact⟨⟨rfl,rfl,rfl⟩,q h' st X'⟩
noncomputable def dHas(k:K)(d:List (K×T)):Bool:=d.any fun p=>p.1=k
noncomputable def dSet(k:K)(t:T)(d:List (K×T)):List (K×T):=if dHas k d then d.map fun p=>if p.1=k then (p.1,t) else p else d++[(k,t)]
noncomputable def dDel(k:K)(d:List (K×T)):List (K×T):=d.filter fun p=>decide (p.1 ≠ k)
def KV(w:World)(B:Base)(kv:K×Value)(p:K×T):Prop:=kv.1=p.1∧Is w B kv.2 p.2
theorem kvsOf_all{w:World}{es:List DictEntry}{d:List (K×T)}(x:Dic w B es d):All2 (KV w B) (kvsOf es d) d:=by
 induction x with
 | nil=>exact .nil
 | cons r _ ih=>exact .cons ⟨rfl,r.2⟩ ih
theorem stored_all{w:World}{kvs:List (K×Value)}{d:List (K×T)}(x:All2 (KV w B) kvs d){k:K}{v:Value}{t:T}(r:Is w B v t):All2 (KV w B) (stored kvs k v) (dSet k t d):=by
 have e:kvs.any (fun kv=>decide (kv.1=k))=dHas k d:=by
  induction x with
  | nil=>rfl
  | cons q _ ih=>simp only [List.any_cons,dHas] at ih ⊢;rw [ih,q.1]
 unfold stored dSet
 rw [e]
 have key:All2 (KV w B) (kvs.map fun kv=>if kv.1=k then (kv.1,v) else kv) (d.map fun p=>if p.1=k then (p.1,t) else p):=by
  clear e
  induction x with
  | nil=>exact .nil
  | cons q _ ih=>
   refine .cons ?_ ih
   dsimp only
   rw [q.1]
   split
   ·exact⟨rfl,r⟩
   ·exact q
 split
 ·exact key
 ·exact x.append (.cons ⟨rfl,r⟩ .nil)
theorem dSet_keys(k:K)(t:T)(d:List (K×T))(h:(d.map (·.1)).Nodup):((dSet k t d).map (·.1)).Nodup:=by
 unfold dSet
 split
 ·rw [List.map_map]
  have:((fun p:K×T=>p.1)∘fun p=>if p.1=k then (p.1,t) else p)=fun p=>p.1:=by
   funext p;simp only [Function.comp];split <;> rfl
  rw [this];exact h
 ·rename_i hn
  rw [List.map_append,List.nodup_append]
  refine⟨h,by simp,fun a ha b hb=>?_⟩
  simp at hb;subst hb
  rintro rfl
  obtain⟨p,hp,rfl⟩:=List.mem_map.mp ha
  exact hn (List.any_eq_true.mpr ⟨p,hp,by simp⟩)
theorem seqIndex_lt{i:Int}{n j:Nat}(e:seqIndex? i n=some j):j < n:=by
 unfold seqIndex? at e
 dsimp only at e
 generalize (if i < 0 then i+(n:Int) else i)=m at e
 by_cases q:(decide (0≤m) && decide (m < (n:Int)))=true
 ·rw [if_pos q] at e
  have:=of_decide_eq_true (Bool.and_eq_true_iff.mp q).2
  have:=of_decide_eq_true (Bool.and_eq_true_iff.mp q).1
  have e:=Option.some.inj e
  omega
 ·rw [if_neg q] at e;exact no1 e
noncomputable def setV(s:S)(o i v:V):Option S:=o.loc?.bind fun j=>v.tr?.bind fun v=>((oD s j).bind fun d=>(i.tr?.bind T.key).bind fun k=>gd (d.length < 1000000) (s.setO j (.dict (dSet k v d)))).or <|
 (oL s j).bind fun xs=>i.int?.bind fun i=>(seqIndex? i xs.length).bind fun k=>gd (i < 1000000∧-1000000≤i) (s.setO j (.list (xs.set k v)))
theorem oD_at{j:Nat}{d:List (K×T)}(e:oD s j=some d):∃ o,s.o[j]?=some o∧o ≠ .gone:=obE e fun o e1 e2=>⟨o,e1,fun q=>no1 (q▸e2:MO.gone.dict?=some d)⟩
theorem oL_at{j:Nat}{d:List T}(e:oL s j=some d):∃ o,s.o[j]?=some o∧o ≠ .gone:=obE e fun o e1 e2=>⟨o,e1,fun q=>no1 (q▸e2:MO.gone.list?=some d)⟩
theorem Rel.updL(X:Rel F ln ρ B s h){j m:Nat}{a:Addr}{xs ys:List T}{vs:List Value}{h':Heap}(hj:ρ[j]?=some a)(hx:Mine.oL s j=some xs)(e:h'.get? a=some (seqObj "list" vs m))(q:Seq F.w B vs ys)(hS:Heap.SameBut a h h'):Step F ρ B h ρ B h'∧Rel F ln ρ B (s.setO j (.list ys)) h':=
 X.upd (o':=.list ys) hj (oL_at hx) ⟨vs,m,e,q⟩ hS
theorem OpSet(X:Rel F ln ρ B s h){a i v_:Value}{x y z:V}{s':S}(ha:RelV F.w ρ B a x)(hi:RelV F.w ρ B i y)(hv:RelV F.w ρ B v_ z)(e:setV s x y z=some s'){Q:Unit→Heap→Prop}
  (q:∀ h',Step F ρ B h ρ B h'→Rel F ln ρ B s' h'→Q () h'):W F.w F.A (setItem a i v_) h Q:=by
 refine obE e fun j e1 e=>obE e fun v e2 e=>hv.trE e2 fun hv=>V.locE (P:=fun x=>RelV F.w ρ B a x→_) e1 (fun ha=>ex12 ha fun ad hj hv'=>orE e (fun e=>?_) fun e=>?_) ha
 ·refine obE e fun d hd e=>obE e fun k hk e=>gdE e fun hl e=>obE hk fun i' e3 hk=>hi.trE e3 fun hi=>ex23 (X.oD hj hd) fun es n oa sa za σ hσ=>?_
  rw [hv']
  subst hσ
  refine wpAny_setItem_pairs (knd:=mixKind pw F.w) (kvs:=kvsOf es d) (T.key_holds hi hk) (Dic.dictOf oa sa za).dictOf (fun h' hm hS=>⟨⟨rfl,rfl,rfl⟩,ex22 (Dic.ofDictOf hm (stored_all (kvsOf_all sa) hv)) fun es' n' oa' sa'=>?_⟩) (by rw [kvsOf_len sa,sizeL];omega)
  exact ex02 (X.upd (o':=.dict (dSet k v d)) hj (oD_at hd) ⟨es',n',oa',sa',za.1,dSet_keys k v d za.2⟩ hS) fun st X'=>q h' st (e▸X')
 ·refine obE e fun xs hx e=>obE e fun i' e3 e=>obE e fun k hk e=>gdE e fun hb e=>hi.intE e3 fun tk h1=>ex22 (X.oL hj hx) fun vs n oa sa σ hσ=>?_
  rw [hv',←h1]
  subst hσ
  rw [←sa.len] at hk
  have hkl:=seqIndex_lt hk
  have fin:∀ m:Nat,m=k→Same σ { σ with heap:=σ.heap.update ad (Obj.mapSeq fun x=>x.setIfInBounds m v_) }∧Q () (σ.heap.update ad (Obj.mapSeq fun x=>x.setIfInBounds m v_)):=fun m hm=>by
   have eo:Obj.mapSeq (fun x=>x.setIfInBounds m v_) (seqObj "list" vs n)=seqObj "list" (vs.set m v_) n:=by
    simp only [Obj.mapSeq,List.setIfInBounds_toArray,List.size_toArray,List.length_set,beq_self_eq_true,if_true]
   exact⟨⟨rfl,rfl,rfl⟩,ex02 (X.updL (ys:=xs.set m v) hj hx (by rw [←eo];exact Heap.get?_update_self _ oa (by rw [eo];rfl)) (sa.set m hv) (Heap.SameBut.update ..)) fun st X'=>q _ st (e▸hm▸X')⟩
  by_cases h0:0≤i'
  ·exact ki_setAt (n:=n) (items:=vs.toArray) oa h0 (by omega) (by have:=seqIndex_pos h0 hk;rw [List.size_toArray];omega) (fin _ (seqIndex_pos h0 hk).symm)
  ·have z:=seqIndex_neg (by omega) hk
   exact ki_setBack (n:=n) (items:=vs.toArray) oa (by omega) (by rw [List.size_toArray];exact z.1) (by omega) (fin _ (by rw [List.size_toArray];exact z.2.symm))
noncomputable def attNames:List Str:=["data","at","end","text","number","generation","table","trailer","way","one","two","used","spare","was_spare","holders","first_size","objects","freed"]
theorem attNames_ok:∀ P:Params,(clsList.all fun C=>attNames.all fun x=>(C == 192 && x == ("number":Str)) || (findIn (KF P) (.ref C) x == some none && takerIn (KF P) C x == some none))=true:=fun P=>by kernel_rfl
structure ClsOk(P:Params)(C:Addr):Prop where
 get:plainGet (KF P) C "x"=true
 dict:hasDictIn (KF P) C=true
 over:plainOver (KF P) C=true
 makes:makesIn (KF P) C=true
 set:findIn (KF P) (.ref C) "__setattr__"=some (some (.builtin "object.__setattr__"))
 att:∀ x∈attNames,(C=192→x ≠ ("number":Str))→findIn (KF P) (.ref C) x=some none∧takerIn (KF P) C x=some none
theorem clsOk(P:Params){C:Addr}(hC:C∈clsList):ClsOk P C:=by
 have h1:=List.all_eq_true.mp (cls_ok P) C hC
 have h2:=List.all_eq_true.mp (attNames_ok P) C hC
 simp only [Bool.and_eq_true,beq_iff_eq] at h1
 obtain⟨⟨⟨⟨a,b⟩,c⟩,d⟩,e⟩:=h1
 refine⟨a,b,c,d,e,fun x hx hn=>?_⟩
 have h3:=List.all_eq_true.mp h2 x hx
 rw [Bool.or_eq_true] at h3
 rcases h3 with h3 | h3
 ·rw [Bool.and_eq_true,beq_iff_eq,beq_iff_eq] at h3
  exact absurd h3.2 (hn h3.1)
 ·rw [Bool.and_eq_true,beq_iff_eq,beq_iff_eq] at h3
  exact h3
noncomputable def T.notCon:T→Bool
 | .con _=>false
 | _=>true
noncomputable def notCon:V→Bool
 | .t x=>x.notCon
 | _=>true
theorem notCon_in{w:World}{v:Value}{x:V}(r:RelV w ρ B v x)(e:notCon x=true):handedIn v=true:=by
 induction x with
 | t x=>
  have r:Is w B v x:=r
  induction r with
  | con=>exact no3 e
  | _=>rfl
 | loc=>exact ex12 r fun a _ h=>h▸rfl
 | lst=>exact ex33 r fun a _ _ h _ _=>h▸rfl
noncomputable def T.inst?:T→Option (Addr×List (List Nat×T))
 | .inst C kvs=>some (C,kvs)
 | _=>Option.none
noncomputable def MO.inst?:MO→Option (Addr×Nat)
 | .inst C d=>some (C,d)
 | _=>none
noncomputable def MO.attrs?:MO→Option (List (List Nat×V))
 | .attrs kvs=>some kvs
 | _=>none
noncomputable def fldsL(s:S)(i:Nat):Option ((Addr×Nat)×List (List Nat×V)):=(s.o[i]?.bind MO.inst?).bind fun p=>(s.o[p.2]?.bind MO.attrs?).bind fun kvs=>gd (p.1∈clsList) (p,kvs)
noncomputable def S.flds(s:S):V→Option (Addr×List (List Nat×V))
 | .t x=>x.inst?.bind fun p=>gd (p.1∈clsList) (p.1,p.2.map fun p=>(p.1,.t p.2))
 | .loc i=>(fldsL s i).map fun q=>(q.1.1,q.2)
 | .lst _=>none
noncomputable abbrev Flds(w:World)(ρ:List Addr)(B:Base):=All2 (fun e (p:List Nat×V)=>NameIs e p.1∧RelV w ρ B e.val p.2)
theorem T.instE{x:T}{i:Addr×List (List Nat×T)}{P:T→Prop}(e:x.inst?=some i)(k:P (.inst i.1 i.2)):P x:=by cases x <;> first | exact no1 e | exact so1 (P:=fun i=>P (.inst i.1 i.2)→P (.inst _ _)) e id k
theorem MO.instE{x:MO}{i:Addr×Nat}{P:MO→Prop}(e:x.inst?=some i)(k:P (.inst i.1 i.2)):P x:=by cases x <;> first | exact no1 e | exact so1 (P:=fun i=>P (.inst i.1 i.2)→P (.inst _ _)) e id k
theorem MO.attrsE{x:MO}{i:List (List Nat×V)}{P:MO→Prop}(e:x.attrs?=some i)(k:P (.attrs i)):P x:=by cases x <;> first | exact no1 e | exact so1 (P:=fun i=>P (.attrs i)→P (.attrs _)) e id k
theorem Rel.fldsL(X:Rel F ln ρ B s h){i:Nat}{a:Addr}(ha:ρ[i]?=some a){p:Addr×Nat}{kvs:List (List Nat×V)}(e:Mine.fldsL s i=some (p,kvs)) :
  ∃ dx es n,ρ[p.2]?=some dx∧h.get? a=some (instObj p.1 dx)∧h.get? dx=some (dicObj es n)∧p.1∈clsList∧Flds F.w ρ B es kvs∧s.o[p.2]?=some (.attrs kvs):=
 obE e fun p' e1 e=>obE e fun kvs' e2 e=>gdE e fun hc e=>so2 (P:=fun p kvs=>∃ dx es n,ρ[p.2]?=some dx∧h.get? a=some (instObj p.1 dx)∧h.get? dx=some (dicObj es n)∧p.1∈clsList∧Flds F.w ρ B es kvs∧s.o[p.2]?=some (.attrs kvs)) e <|
  obE e1 fun o e3 e4=>obE e2 fun o' e5 e6=>ex12 (MO.instE (P:=fun o=>ObjAt F.w ρ B h a o→ObjAt F.w ρ B h a (.inst p'.1 p'.2)) e4 id (X.led i a o ha e3)) fun dx f1 f2=>
   ex22 (MO.attrsE (P:=fun o=>ObjAt F.w ρ B h dx o→ObjAt F.w ρ B h dx (.attrs kvs')) e6 id (X.led _ dx o' f1 e5)) fun es n f3 k=>
    ⟨dx,es,n,f1,f2,f3,hc,k,MO.attrsE (P:=fun o=>s.o[p'.2]?=some o→s.o[p'.2]?=some (.attrs kvs')) e6 id e5⟩
theorem Flds.of_att{w:World}{es:List DictEntry}{kvs:List (List Nat×T)}(q:All2 (Att w B) es kvs):Flds w ρ B es (kvs.map fun p=>(p.1,.t p.2)):=by
 induction q with
 | nil=>exact .nil
 | cons q _ ih=>exact .cons q ih
theorem flen{a b c:Nat}(h1:a≤b+1)(h2:b=c)(h3:c≤100):a≤sizeLine:=by rw [sizeL];omega
theorem Rel.fldsE{P:Prop}(X:Rel F ln ρ B s h){v:Value}{x:V}(r:RelV F.w ρ B v x){C:Addr}{kvs:List (List Nat×V)}(e:s.flds x=some (C,kvs))
  (k:∀ a dx es n,.ref a=v→h.get? a=some (instObj C dx)→h.get? dx=some (dicObj es n)→C∈clsList→Flds F.w ρ B es kvs→P):P:=by
 induction x with
 | t x=>
  refine obE e fun p e1 e=>gdE e fun hc e=>?_
  obtain⟨rfl,rfl⟩:=Prod.mk.inj e
  refine Is.instE (T.instE (P:=fun x=>Is F.w B v x→Is F.w B v (.inst p.1 p.2)) e1 id r) fun a d es n hv e1 e2 q=>k a d es n hv (X.le _ _ e1) (X.le _ _ e2) hc (.of_att q)
 | loc i=>exact omE e fun q e1 e=>ex12 r fun a ha hv=>so2 (P:=fun C kvs=>(∀ a dx es n,.ref a=v→h.get? a=some (instObj C dx)→h.get? dx=some (dicObj es n)→C∈clsList→Flds F.w ρ B es kvs→P)→P) e (fun k=>(X.fldsL ha e1).elim fun dx z=>z.elim fun es z=>z.elim fun n z=>k a dx es n hv.symm z.2.1 z.2.2.1 z.2.2.2.1 z.2.2.2.2.1) k
 | lst=>exact no1 e
noncomputable def fGet(x:List Nat)(kvs:List (List Nat×V)):Option V:=(kvs.find? fun p=>p.1=x).map (·.2)
theorem nameIs_str{e:DictEntry}{x y:List Nat}(h:NameIs e x):e.key.isStr ⟨y.toArray⟩=decide (x=y):=by
 refine ex11 (h) fun t h=>?_
 rw [h]
 show ((⟨x.toArray⟩:Str) == ⟨y.toArray⟩)=_
 by_cases q:x=y
 ·subst q;simp
 ·rw [decide_eq_false q]
  exact beq_eq_false_iff_ne.mpr fun z=>q (toArr_inj.mp z)
noncomputable def nNumber:List Nat:=[110,117,109,98,101,114]
noncomputable def attAt(C:Addr)(x:List Nat):Bool:=clsList.contains C && !(C == 192 && x == nNumber)
theorem attAt.ok{P:Params}{C:Addr}{cs:List Nat}(h:attAt C cs=true){x:Str}(hx:x=⟨cs.toArray⟩)(hm:x∈attNames):ClsOk P C∧findIn (KF P) (.ref C) x=some none∧takerIn (KF P) C x=some none:=by
 unfold attAt at h
 rw [Bool.and_eq_true,List.contains_iff_mem,Bool.not_eq_true',Bool.and_eq_false_iff] at h
 have z:=clsOk P h.1
 refine⟨z,z.att x hm fun e q=>?_⟩
 subst e
 have h2:cs ≠ nNumber:=by
  rcases h.2 with h2 | h2
  ·simp at h2
  ·simpa using h2
 refine h2 ?_
 have e2:("number":Str)=⟨nNumber.toArray⟩:=by kernel_rfl
 rw [hx,e2] at q
 exact toArr_inj.mp q
theorem Flds.noref{w:World}{es:List DictEntry}{kvs:List (List Nat×V)}(k:Flds w ρ B es kvs):es.toArray.any (·.refKey)=false:=by
 rw [List.any_toArray,List.any_eq_false]
 exact fun e he=>(List.getElem?_of_mem he).elim fun i hi=>ex12 (k.some_right hi) fun p hp q=>q.1.elim fun t ht=>by simp [DictEntry.refKey,ht]
theorem Flds.find{w:World}{es:List DictEntry}{kvs:List (List Nat×V)}(k:Flds w ρ B es kvs)(x:List Nat):(∀ {v},fGet x kvs=some v→∃ rv,getL ⟨x.toArray⟩ es=some (some rv)∧RelV w ρ B rv v)∧(fGet x kvs=none→getL ⟨x.toArray⟩ es=some none):=by
 unfold fGet getL
 have nr:=k.noref
 rw [List.any_toArray] at nr
 rw [nr]
 clear nr
 induction k with
 | nil=>exact⟨fun e=>by simp at e,fun _=>by simp⟩
 | @cons e p _ _ q _ ih=>
  rw [List.find?_cons,List.find?_cons,nameIs_str q.1]
  by_cases h:p.1=x
  ·rw [decide_eq_true h]
   exact⟨fun e=>by simp at e;subst e;exact⟨_,rfl,q.2⟩,fun e=>by simp at e⟩
  ·rw [decide_eq_false h];exact ih
noncomputable def attrV(x:List Nat)(s:S)(v:V):Option V:=(s.flds v).bind fun p=>(fGet x p.2).bind fun y=>gd (attAt p.1 x=true∧notCon y=true) y
theorem W_getF(X:Rel F ln ρ B s h){x:Str}{cs:List Nat}(hx:x=⟨cs.toArray⟩)(hm:x∈attNames){v:Value}{a r:V}{b:Bool}(ha:RelV F.w ρ B v a)(e:attrV cs s a=some r){Q:Value→Heap→Prop}(q:∀ rv,RelV F.w ρ B rv r→Q rv h):W F.w F.A (getAttr v x b) h Q:=
 obE e fun p e1 e=>obE e fun y e3 e=>gdE e fun hat e4=>X.fldsE ha e1 fun ad dx es n hv o1 o2 hC k=>ex12 ((k.find cs).1 (e4▸e3)) fun rv g1 g2 σ hσ=>by
  subst hσ
  have z:=attAt.ok (P:=F.w.params) hat.1 hx hm
  have hn:noGet (KF F.w.params) none=true:=rfl
  exact hv▸get_value X.St.kin ⟨o1,rfl,rfl,o2⟩ (plainGet_of z.1.get).1 (findObj_own z.1.dict z.2.1 hn (hx▸g1)) (notCon_in g2 (e4▸hat.2)) ⟨⟨rfl,rfl,rfl⟩,q rv g2⟩
theorem jAttr{o:Expr}{x:Str}{cs:List Nat}{p:Pos}{d:Den V}(he:eval (.Attribute o x p) F.E=(do
   let v ←eval o F.E
   standAt p.atName
   let r ←holding [v] (getAttr v x true)
   letTemporaryGo o v r
   pure r)) (hx:x=⟨cs.toArray⟩) (hm:x∈attNames) (H:JV F ln (eval o F.E) d):JV F ln (eval (.Attribute o x p) F.E) (d.opt (attrV cs)):=fun ρ B s h X v s' e=>
 Den.optE e fun a e1 e2=>W_attr he ((H ρ B s h X a s' e1).monoO fun rv h1 ρ1 B1 st X1 r=>W_getF X1 hx hm r e2 fun rv' r'=>⟨ρ1,B1,st,X1,r'⟩)
noncomputable def fSet(x:List Nat)(v:V):List (List Nat×V)→List (List Nat×V)
 | []=>[(x,v)]
 | p::r=>if p.1=x then (p.1,v)::r else p::fSet x v r
noncomputable def setF(x:List Nat)(s:S)(o v:V):Option S:=o.loc?.bind fun i=>(fldsL s i).bind fun q=>gd (attAt q.1.1 x=true∧q.2.length≤100) (s.setO q.1.2 (.attrs (fSet x v q.2)))
theorem put_flds{w:World}{es:List DictEntry}{kvs:List (List Nat×V)}{x:List Nat}{rv:Value}{v:V}{hs:Int}{tk:Tok}(r:RelV w ρ B rv v)(k:Flds w ρ B es kvs) :
  Flds w ρ B (match es.findIdx? (·.key.isStr ⟨x.toArray⟩) with | some i=>es.modify i fun e=>{ e with val:=rv } | none=>es++[⟨hs,.str ⟨x.toArray⟩ tk,rv⟩]) (fSet x v kvs):=by
 induction k with
 | nil=>exact .cons ⟨⟨tk,rfl⟩,r⟩ .nil
 | cons q _ ih=>
  rename_i e p es kvs _
  rw [List.findIdx?_cons,nameIs_str q.1]
  unfold fSet
  by_cases h:p.1=x
  ·rw [decide_eq_true h,if_pos h,if_pos rfl]
   simp only [List.modify_zero_cons]
   exact .cons ⟨q.1,r⟩ (by assumption)
  ·rw [decide_eq_false h,if_neg h,if_neg (by simp)]
   cases hf:es.findIdx? (·.key.isStr ⟨x.toArray⟩) with
   | none=>rw [hf] at ih;exact .cons q ih
   | some i=>rw [hf] at ih;simp only [Option.map_some,List.modify_succ_cons];exact .cons q ih
theorem put_name{w:World}{es:List DictEntry}{n:Nat}{kvs:List (List Nat×V)}{x:List Nat}{rv:Value}{v:V}{hs:Int}{tk:Tok}(r:RelV w ρ B rv v)(k:Flds w ρ B es kvs) :
  ∃ es' n',Obj.putName ⟨x.toArray⟩ hs (.str ⟨x.toArray⟩ tk) rv (dicObj es n)=dicObj es' n'∧Flds w ρ B es' (fSet x v kvs)∧es'.length≤es.length+1:=by
 have k':=put_flds (x:=x) (hs:=hs) (tk:=tk) r k
 rw [Obj.putName_eq]
 unfold Obj.putNameByArray
 dsimp only
 rw [List.findIdx?_toArray]
 generalize es.findIdx? (·.key.isStr ⟨x.toArray⟩)=g at k'
 induction g with
 | some i=>exact⟨_,n,by dsimp only;rw [List.modify_toArray],k',by rw [List.length_modify];exact Nat.le_succ _⟩
 | none=>exact⟨_,n+1,by dsimp only;rw [List.push_toArray],k',by rw [List.length_append];exact Nat.le_refl _⟩
theorem W_setF(X:Rel F ln ρ B s h){x:Str}{cs:List Nat}(hx:x=⟨cs.toArray⟩)(hm:x∈attNames){ov v:Value}{a y:V}{s':S}(ha:RelV F.w ρ B ov a)(hv:RelV F.w ρ B v y)(e:setF cs s a y=some s'){Q:Unit→Heap→Prop}
  (q:∀ h',Step F ρ B h ρ B h'→Rel F ln ρ B s' h'→Q () h'):W F.w F.A (setAttr ov x v) h Q:=by
 refine obE e fun i e1 e=>obE e fun p e2 e=>gdE e fun hc e=>V.locE (P:=fun x=>RelV F.w ρ B ov x→_) e1 (fun ha=>ex12 ha fun ad hi hv'=>?_) ha
 obtain⟨dx,es,n,e1,o1,o2,hC,k,hd⟩:=X.fldsL hi e2
 have z:=attAt.ok (P:=F.w.params) hc.1 hx hm
 rw [hv']
 intro σ hσ
 subst hσ
 have I:InstAt σ.heap ad (instObj p.1.1 dx) p.1.1 (some (dicObj es n)):=⟨o1,rfl,rfl,o2⟩
 refine set_plain X.St.kin I z.1.set ?_
 refine osa_open (s:={ σ with toks:=σ.toks+1 }) X.St.kin I z.1.over z.2.2 fun b=>ex12 (any_some z.1.dict) fun cd hcd hd'=>?_
 refine wpAny_bind (wpAny_pure (wpAny_bind (wpAny_bind (wpAny_loadPart o1 (wpAny_bind (Looks.here (s:={ σ with toks:=σ.toks+1 }) (looks_clsIn X.St.kin hcd) ?_))))))
 rw [hd']
 refine wpAny_pure (a:=some dx) (wpAny_bind (wpAny_pure (wpAny_bind ?_)))
 unfold nsSet
 refine wpAny_bind (wpAny_bind (wpAny_askSetting (wpAny_pure (wpAny_bind (wpAny_mkText (wpAny_bind (wpAny_loadPart o2 ?_)))))))
 dsimp only
 rw [aRefKeyMayBeTheName_at,k.noref,Bool.and_false]
 refine wpAny_updatePart o2 ?_
 refine(put_name (n:=n) (x:=cs) (hs:=PyData.keyHash F.w.params x) (tk:=σ.toks+1) hv k).elim fun es' z=>z.elim fun n' z=>?_
 rw [←hx] at z
 have D':(σ.heap.update dx (Obj.putName x (PyData.keyHash F.w.params x) (.str x (σ.toks+1)) v)).get? dx=some (dicObj es' n'):=by
  rw [←z.1];exact Heap.get?_update_self _ o2 (by rw [z.1];rfl)
 refine wpAny_bind (wpAny_lookBehind D' (pastItsLine_dict (by rw [List.size_toArray];exact Nat.le_succ_of_le (flen z.2.2 k.len hc.2))) ?_)
 exact ex02 (X.upd (o':=.attrs (fSet cs y p.2)) e1 ⟨_,hd,fun z=>by cases z⟩ ⟨es',n',D',z.2.1⟩ (Heap.SameBut.update ..)) fun st X'=>wpAny_pure ⟨⟨rfl,rfl,rfl⟩,q _ st (e▸X')⟩
inductive Rv where
 | val (x:T)
 | new (o:MO)
inductive Fl where
 | next
 | ret (r:Rv)
noncomputable def RvRel(F:Frm)(ρ:List Addr)(B:Base)(h:Heap)(v:Value):Rv→Prop
 | .val x=>Is F.w B v x
 | .new o=>∃ a,v=.ref a∧¬F.N a∧B a=none∧a ∉ ρ∧ObjAt F.w ρ B h a o
structure FinAt(F:Frm)(ρ:List Addr)(B:Base)(h:Heap)(r:Rv)(s':S)(v:Value)(h':Heap)(ρ':List Addr)(B':Base):Prop where
 tk:ρ'.take F.k=ρ.take F.k
 pre:∀ (i:Nat) a,ρ'[i]?=some a→F.k≤i→¬F.N a
 up:B.Le B'
 le:∀ a o,B' a=some o→h'.get? a=some o
 new:∀ a o,B' a=some o→F.B0 a=some o∨¬F.N a
 keep:∀ b o,h.get? b=some o→b ∉ F.own ρ→h'.get? b=some o
 sz:∀ b o,h.get? b=some o→∃ o',h'.get? b=some o'
 nd:ρ'.Nodup
 out:∀ a∈ρ',∃ o,h'.get? a=some o
 br:∀ (i:Nat) a o,ρ'[i]?=some a→s'.o[i]?=some o→o ≠ .gone→B' a=none
 len:ρ'.length=s'.o.length
 led:∀ (i:Nat) a o,ρ'[i]?=some a→s'.o[i]?=some o→ObjAt F.w ρ' B' h' a o
 res:RvRel F ρ' B' h' v r
def Fin(F:Frm)(ρ:List Addr)(B:Base)(h:Heap)(r:Rv)(s':S)(v:Value)(h':Heap):Prop:=∃ ρ' B',FinAt F ρ B h r s' v h' ρ' B'
theorem Fin.pre{ρ1:List Addr}{B1:Base}{h1 h':Heap}{r:Rv}{s':S}{v:Value}(hk:F.k≤ρ.length)(st:Step F ρ B h ρ1 B1 h1)(f:Fin F ρ1 B1 h1 r s' v h'):Fin F ρ B h r s' v h':=
 ex21 f fun ρ' B' f=>st.pre.elim fun t ht=>⟨ρ',B',f.tk.trans (by rw [ht.1,List.take_append_of_le_length hk]),f.pre,st.up.trans f.up,f.le,f.new,fun b o e n=>f.keep b o (st.keep b o e n) fun hm=>(own_app (ht.1▸hm)).elim n fun q=>no1 ((ht.2 b q).symm.trans e),
  fun b o e=>(st.sz b o e).elim fun _ e'=>f.sz b _ e',f.nd,f.out,f.br,f.len,f.led,f.res⟩
def FlPost(F:Frm)(ln:List Str)(ρ:List Addr)(B:Base)(h:Heap)(f:Fl)(s':S)(fl:Flow)(h':Heap):Prop:=match f with
 | .next=>fl=.next∧Ou F ln ρ B h s' h'
 | .ret r=>∃ v,fl=.ret v∧Fin F ρ B h r s' v h'
theorem FlPost.pre{ρ1:List Addr}{B1:Base}{h1 h':Heap}{f:Fl}{s':S}{fl:Flow}(hk:F.k≤ρ.length)(st:Step F ρ B h ρ1 B1 h1)(p:FlPost F ln ρ1 B1 h1 f s' fl h'):FlPost F ln ρ B h f s' fl h':=by
 induction f with
 | next=>exact⟨p.1,p.2.el fun ρ' B' st' X=>⟨ρ',B',st.trans st',X⟩⟩
 | ret r=>exact ex12 p fun v e f=>⟨v,e,f.pre hk st⟩
def JS(F:Frm)(ln:List Str)(t:Sem Flow)(d:Den Fl):Prop:=∀ ρ B s h,Rel F ln ρ B s h→∀ f s',d s=some (f,s')→W F.w F.A t h (FlPost F ln ρ B h f s')
theorem JS.go{t:Sem Flow}{d:Den Fl}(H:JS F ln t d)(X:Rel F ln ρ B s h){f:Fl}{s':S}(e:d s=some (f,s')){ρ0:List Addr}{B0:Base}{h0:Heap}(hk:F.k≤ρ0.length)(st:Step F ρ0 B0 h0 ρ B h):W F.w F.A t h (FlPost F ln ρ0 B0 h0 f s'):=
 (H ρ B s h X f s' e).mono fun _ _ p=>p.pre hk st
noncomputable def dNext:Den Fl:=dB .next
noncomputable def Fl.go(b:Den Fl):Fl→Den Fl
 | .next=>b
 | .ret r=>dB (.ret r)
noncomputable def dSeq(a b:Den Fl):Den Fl:=a.bind (·.go b)
noncomputable def dNone{β:Type}:Den β:=fun _=>none
theorem jNone'{t:Sem Flow}:JS F ln t dNone:=fun ρ B s h X f s' e=>no1 e
theorem jVNone{t:Sem Value}:JV F ln t dNone:=fun ρ B s h X f s' e=>no1 e
theorem nextP{f:Fl}{s':S}(e:dNext s=some (f,s')){fl:Flow}(hf:fl=.next){ρ0:List Addr}{B0:Base}{h0:Heap}(o:Ou F ln ρ0 B0 h0 s h):FlPost F ln ρ0 B0 h0 f s' fl h:=so (P:=fun f s'=>FlPost F ln ρ0 B0 h0 f s' fl h) e ⟨hf,o⟩
theorem jsNil:JS F ln (execs [] F.E) dNext:=fun ρ B s h X f s' e=>W_nil (nextP e rfl ⟨ρ,B,.refl ..,X⟩)
theorem then_go{r:List Stmt}{dr:Den Fl}(Hr:JS F ln (execs r F.E) dr){ρ0:List Addr}{B0:Base}{h0:Heap}(hk:F.k≤ρ0.length){f f':Fl}{s1 s':S}{fl:Flow}{h1:Heap}(e:f.go dr s1=some (f',s'))(p:FlPost F ln ρ0 B0 h0 f s1 fl h1):Then F.w F.A F.E r (FlPost F ln ρ0 B0 h0 f' s') fl h1:=by
 induction f with
 | next=>exact p.1▸p.2.el fun ρ1 B1 S1 X1=>Hr.go X1 e hk S1
 | ret v=>exact so (P:=fun f' s'=>Then F.w F.A F.E r (FlPost F ln ρ0 B0 h0 f' s') fl h1) e (ex12 p fun v e q=>e▸⟨v,rfl,q⟩)
theorem jsCons{st:Stmt}{r:List Stmt}{da dr:Den Fl}(Ha:JS F ln (exec st F.E) da)(Hr:JS F ln (execs r F.E) dr):JS F ln (execs (st::r) F.E) (dSeq da dr):=fun ρ B s h X f' s' e=>
 Den.bindE e fun f s1 e1 e2=>W_cons ((Ha ρ B s h X f s1 e1).mono fun fl h1 p=>then_go Hr X.kle e2 p)
theorem jIf{t:Expr}{b o:List Stmt}{p:Pos}{dc:Den Bool}{db dO:Den Fl}(Hc:JB F ln (isTrue t F.E (eval t F.E)) dc)(Hb:JS F ln (execs b F.E) db)(Ho:JS F ln (execs o F.E) dO):JS F ln (exec (.If t b o p) F.E) (dIte dc db dO):=fun ρ B s h X f s' e=>
 dIteO e fun c s1 e1 e2=>W_if ((Hc ρ B s h X c s1 e1).monoO fun c' h1 ρ1 B1 S1 X1 r1=>by
  rw [r1]
  induction c with
  | true=>exact Hb.go X1 e2 X.kle S1
  | false=>exact Ho.go X1 e2 X.kle S1)
theorem Rel.fin(X:Rel F ln ρ B s h){r:Rv}{v:Value}(res:RvRel F ρ B h v r):Fin F ρ B h r s v h:=
 ⟨ρ,B,rfl,X.pre,.refl B,X.le,X.new,fun _ _ e _=>e,fun _ o e=>⟨o,e⟩,X.sep.2.1,fun a ha=>X.out a (.tail _ (List.mem_append_right _ ha)),X.br,X.len,X.led,res⟩
noncomputable def V.below(k:Nat):V→Bool
 | .t _=>true
 | .loc j=>decide (j < k)
 | .lst is=>is.all fun j=>decide (j < k)
noncomputable def moClosed(k:Nat):MO→Bool
 | .inst _ d=>decide (d < k)
 | .attrs kvs=>kvs.all fun p=>p.2.below k
 | .lists xs=>xs.all (·.below k)
 | _=>true
theorem get_take{k i:Nat}{a:Addr}(e:ρ[i]?=some a)(hi:i < k):(ρ.take k)[i]?=some a:=by rw [List.getElem?_take,if_pos hi];exact e
theorem takeE{α:Type}{l:List α}{k i:Nat}{a:α}{P:Prop}(e:(l.take k)[i]?=some a)(c:i < k→l[i]?=some a→P):P:=by
 rw [List.getElem?_take] at e
 by_cases hi:i < k
 ·exact c hi (by rwa [if_pos hi] at e)
 ·rw [if_neg hi] at e;exact no1 e
theorem RelV.take{w:World}{k:Nat}{v:Value}{x:V}(r:RelV w ρ B v x)(c:x.below k=true):RelV w (ρ.take k) B v x:=by
 induction x with
 | t=>exact r
 | loc j=>exact ex12 r fun a e z=>⟨a,get_take e (of_decide_eq_true c),z⟩
 | lst is=>exact ex33 r fun a vs n e o q=>⟨a,vs,n,e,o,q.monoM fun _ j hj q=>ex12 q fun b e z=>⟨b,get_take e (of_decide_eq_true (List.all_eq_true.mp c j hj)),z⟩⟩
theorem ObjAt.take{w:World}{a:Addr}{o:MO}{k:Nat}(x:ObjAt w ρ B h a o)(c:moClosed k o=true):ObjAt w (ρ.take k) B h a o:=by
 induction o with
 | inst C d=>exact ex12 x fun dx e q=>⟨dx,get_take e (of_decide_eq_true c),q⟩
 | attrs xs=>exact ex22 x fun vs n e q=>⟨vs,n,e,q.monoM fun _ p hp r=>⟨r.1,r.2.take (List.all_eq_true.mp c p hp)⟩⟩
 | lists xs=>exact ex22 x fun vs n e q=>⟨vs,n,e,q.monoM fun _ p hp r=>r.take (List.all_eq_true.mp c p hp)⟩
 | _=>exact x
noncomputable def S.cut(s:S)(k:Nat):Option S:=gd ((s.o.take k).all (moClosed k)=true) { s with o:=s.o.take k }
theorem Rel.finCut(X:Rel F ln ρ B s h){s':S}(e:s.cut F.k=some s'){r:Rv}{v:Value}(res:RvRel F (ρ.take F.k) B h v r):Fin F ρ B h r s' v h:=
 gdE e fun hc e=>e▸⟨ρ.take F.k,B,by rw [List.take_take,Nat.min_self],fun i a e hk=>takeE e fun hi _=>absurd hi (Nat.not_lt.mpr hk),.refl B,X.le,X.new,fun _ _ e _=>e,fun _ o e=>⟨o,e⟩,X.sep.2.1.sublist (List.take_sublist ..),fun a ha=>X.out a (.tail _ (List.mem_append_right _ (List.mem_of_mem_take ha))),
  fun i a o e e' hg=>takeE e fun _ e=>takeE e' fun _ e'=>X.br i a o e e' hg,by show _=(s.o.take F.k).length;rw [List.length_take,List.length_take,X.len],
  fun i a o e e'=>takeE e fun _ e=>takeE (l:=s.o) e' fun _ e1=>(X.led i a o e e1).take (List.all_eq_true.mp hc o (List.mem_of_getElem? e')),res⟩
noncomputable def rvN(k:Nat)(o:MO):Den Fl:=fun s=>(moT o).bind fun _=>(s.cut k).map fun s'=>(.ret (.new o),s')
noncomputable def rvV(k:Nat):V→Den Fl
 | .t x=>fun s=>some (.ret (.val x),(s.cut k).getD s)
 | .loc i=>fun s=>s.o[i]?.bind fun o=>(gd (k≤i) o).bind fun o=>rvN k o s
 | .lst _=>dNone
theorem moT_ok{o:MO}{t:T}{k:Nat}(e:moT o=some t):moClosed k o=true∧o ≠ .gone:=by
 induction o with
 | list=>exact⟨rfl,fun z=>by cases z⟩
 | dict=>exact⟨rfl,fun z=>by cases z⟩
 | _=>exact no1 e
theorem rvN_fin(X:Rel F ln ρ B s h){a:Addr}{o:MO}(hN:¬F.N a)(hB:B a=none)(hn:a ∉ ρ.take F.k)(O:ObjAt F.w ρ B h a o){f:Fl}{s':S}(e:rvN F.k o s=some (f,s')){ρ0:List Addr}{B0:Base}{h0:Heap}(hk:F.k≤ρ0.length)(st:Step F ρ0 B0 h0 ρ B h):FlPost F ln ρ0 B0 h0 f s' (.ret (.ref a)) h:=
 obE e fun t e1 e=>omE e fun s2 e2 e3=>so2 (P:=fun f s'=>FlPost F ln ρ0 B0 h0 f s' (.ret (.ref a)) h) e3 ⟨_,rfl,(X.finCut e2 (r:=.new o) ⟨a,rfl,hN,hB,hn,O.take (moT_ok e1).1⟩).pre hk st⟩
theorem rvV_fin(X:Rel F ln ρ B s h){v:Value}{x:V}(r:RelV F.w ρ B v x){f:Fl}{s':S}(e:rvV F.k x s=some (f,s')){ρ0:List Addr}{B0:Base}{h0:Heap}(hk:F.k≤ρ0.length)(st:Step F ρ0 B0 h0 ρ B h):FlPost F ln ρ0 B0 h0 f s' (.ret v) h:=by
 induction x with
 | t x=>
  refine so (P:=fun f s'=>FlPost F ln ρ0 B0 h0 f s' (.ret v) h) e ⟨v,rfl,?_⟩
  generalize hc:s.cut F.k=c
  induction c with
  | none=>exact(X.fin (r:=.val x) r).pre hk st
  | some s1=>exact(X.finCut hc (r:=.val x) r).pre hk st
 | loc i=>
  refine obE e fun o e1 e=>obE e fun o' e2 e=>gdE e2 fun hi e2=>ex12 r fun a ha hv=>?_
  rw [←e2] at e
  have hg:o ≠ .gone:=obE e fun t e1 _=>(moT_ok (k:=0) e1).2
  refine hv▸rvN_fin X (X.pre i a ha hi) (X.br i a o ha e1 hg) (fun hm=>?_) (X.led i a o ha e1) e hk st
  exact(List.getElem?_of_mem hm).elim fun j hj=>takeE hj fun hjk hj=>absurd (at_inj X.sep.2.1 ha hj▸hjk) (Nat.not_lt.mpr hi)
 | lst=>exact no1 e
theorem jRet{e:Expr}{p:Pos}{d:Den V}(H:JV F ln (eval e F.E) d):JS F ln (exec (.Return (some e) p) F.E) (d.bind (rvV F.k)):=fun ρ B s h X f s' q=>
 Den.bindE q fun x s1 e1 e2=>W_ret ((H ρ B s h X x s1 e1).monoO fun v h1 ρ1 B1 S1 X1 r1=>rvV_fin X1 r1 e2 X.kle S1)
theorem jRetN{e:Expr}{p:Pos}{d:Den MO}(H:JN F ln (eval e F.E) d):JS F ln (exec (.Return (some e) p) F.E) (d.bind (rvN F.k)):=fun ρ B s h X f s' q=>
 Den.bindE q fun x s1 e1 e2=>W_ret ((H ρ B s h X x s1 e1).monoO fun v h1 ρ1 B1 S1 X1 r1=>r1.elim fun a r=>r.1 ▸
  rvN_fin X1 (fun z=>(X.nsz _ z).elim fun _ q=>no1 (r.2.1.symm.trans q)) r.2.2.1 (fun hm=>r.2.2.2.1 (.tail _ (List.mem_append_right _ (List.mem_of_mem_take hm)))) r.2.2.2.2 e2 X.kle S1)
noncomputable def dDo{β:Type}(d:Den β):Den Fl:=d.bind fun _=>dNext
theorem jExpr(n:Nm F ln cn gs){e:Expr}{p:Pos}{d:Den V}(hs:swapsWith e none p.line F.E=pure false)(H:JV F ln (eval e F.E) d):JS F ln (exec (.Expr e p) F.E) (dDo d):=fun ρ B s h X f s' q=>
 Den.bindE q fun x s1 e1 e2=>W_expr (by unfold interactive;rw [n.kind];rfl) hs ((H ρ B s h X x s1 e1).monoO fun v h1 ρ1 B1 S1 X1 r1=>nextP e2 rfl ⟨ρ1,B1,S1,X1⟩)
noncomputable def dPush(d:Den MO):Den V:=d.bind fun o s=>some (.loc s.o.length,s.pushO o)
theorem jPush{t:Sem Value}{d:Den MO}(H:JN F ln t d):JV F ln t (dPush d):=fun ρ B s h X v s' e=>
 Den.bindE e fun o s1 e1 e2=>so (P:=fun v s'=>W F.w F.A t h (Out F ln (RV F) ρ B h v s')) e2 ((H ρ B s h X o s1 e1).monoO fun v h1 ρ1 B1 st X1 n=>n.push X1 X.nsz st)
noncomputable def dUp(f:S→S):Den Fl:=fun s=>some (.next,f s)
theorem upP{g:S→S}{f:Fl}{s':S}(e:dUp g s=some (f,s')){fl:Flow}(hf:fl=.next){ρ0:List Addr}{B0:Base}{h0:Heap}(o:Ou F ln ρ0 B0 h0 (g s) h):FlPost F ln ρ0 B0 h0 f s' fl h:=so (P:=fun f s'=>FlPost F ln ρ0 B0 h0 f s' fl h) e ⟨hf,o⟩
noncomputable def dSetL(i:Nat)(d:Den V):Den Fl:=d.bind fun v=>dUp (·.setL i v)
noncomputable def dSetC(i:Nat)(d:Den V):Den Fl:=d.bind fun v=>dUp (·.setC i v)
theorem jAsgL(n:Nm F ln cn gs){x:Str}{q p:Pos}{e:Expr}{d:Den V}(i:Nat)(hx:ln[i]?=some x)(hs:swapsWith e (some (.Name x q)) p.line F.E=pure false)(H:JV F ln (eval e F.E) d):JS F ln (exec (.Assign [.Name x q] e p) F.E) (dSetL i d):=fun ρ B s h X f s' e'=>
 Den.bindE e' fun v s1 e1 e2=>W_asgn hs ((H ρ B s h X v s1 e1).monoO fun rv h1 ρ1 B1 S1 X1 r1=>W_stL n X1 hx r1 fun h2 S2 X2=>upP e2 rfl ⟨ρ1,B1,S1.trans S2,X2⟩)
theorem jAsgC(n:Nm F ln cn gs){x:Str}{q p:Pos}{e:Expr}{d:Den V}(i:Nat)(hx:cn[i]?=some x)(hs:swapsWith e (some (.Name x q)) p.line F.E=pure false)(H:JV F ln (eval e F.E) d):JS F ln (exec (.Assign [.Name x q] e p) F.E) (dSetC i d):=fun ρ B s h X f s' e'=>
 Den.bindE e' fun v s1 e1 e2=>W_asgn hs ((H ρ B s h X v s1 e1).monoO fun rv h1 ρ1 B1 S1 X1 r1=>W_stC n X1 hx r1 fun h2 S2 X2=>upP e2 rfl ⟨ρ1,B1,S1.trans S2,X2⟩)
noncomputable def dTry(f:S→Option S):Den Fl:=fun s=>(f s).map fun s'=>(.next,s')
theorem tryE{g:S→Option S}{f:Fl}{s':S}(e:dTry g s=some (f,s')){P:Fl→S→Prop}(k:∀ s',g s=some s'→P .next s'):P f s':=omE e fun s2 e1 e2=>so2 (P:=P) e2 (k s2 e1)
noncomputable def dSetI(dv dO di:Den V):Den Fl:=dv.bind fun v=>dO.bind fun o=>di.bind fun i=>dTry fun s=>setV s o i v
theorem jAsgI{o i:Expr}{q p:Pos}{e:Expr}{dv dO di:Den V}(hs:swapsWith e (some (.Subscript o i q)) p.line F.E=pure false)(Hv:JV F ln (eval e F.E) dv)(Ho:JV F ln (eval o F.E) dO)(Hi:JV F ln (eval i F.E) di) :
  JS F ln (exec (.Assign [.Subscript o i q] e p) F.E) (dSetI dv dO di):=fun ρ B s h X f s' e'=>
 Den.bindE e' fun v s1 e1 e2=>Den.bindE e2 fun ov s2 e3 e4=>Den.bindE e4 fun iv s3 e5 e6=>tryE e6 (P:=fun f s'=>W F.w F.A (exec (.Assign [.Subscript o i q] e p) F.E) h (FlPost F ln ρ B h f s')) fun s4 e7=>
  W_asub hs ((Hv ρ B s h X v s1 e1).monoO fun rv h1 ρ1 B1 S1 X1 r1=>(Ho ρ1 B1 s1 h1 X1 ov s2 e3).monoO fun ro h2 ρ2 B2 S2 X2 r2=>(Hi ρ2 B2 s2 h2 X2 iv s3 e5).monoO fun ri h3 ρ3 B3 S3 X3 r3=>
   OpSet X3 (r2.step S3) r3 ((r1.step S2).step S3) e7 fun h4 S4 X4=>⟨rfl,ρ3,B3,((S1.trans S2).trans S3).trans S4,X4⟩)
noncomputable def dSetA(x:List Nat)(dv dO:Den V):Den Fl:=dv.bind fun v=>dO.bind fun o=>dTry fun s=>setF x s o v
theorem jAsgA{o:Expr}{x:Str}{cs:List Nat}{q p:Pos}{e:Expr}{dv dO:Den V}(hs:swapsWith e (some (.Attribute o x q)) p.line F.E=pure false)(hx:x=⟨cs.toArray⟩)(hm:x∈attNames)(Hv:JV F ln (eval e F.E) dv)(Ho:JV F ln (eval o F.E) dO) :
  JS F ln (exec (.Assign [.Attribute o x q] e p) F.E) (dSetA cs dv dO):=fun ρ B s h X f s' e'=>
 Den.bindE e' fun v s1 e1 e2=>Den.bindE e2 fun ov s2 e3 e4=>tryE e4 (P:=fun f s'=>W F.w F.A (exec (.Assign [.Attribute o x q] e p) F.E) h (FlPost F ln ρ B h f s')) fun s4 e7 σ hσ=>
  plainObj_wpAny_Assign_Attribute (W_wpO (Hv ρ B s h X v s1 e1) hσ (.refl σ) fun rv σ1 T1 ρ1 B1 S1 X1 r1=>W_wpO (Ho ρ1 B1 s1 _ X1 ov s2 e3) rfl T1 fun ro σ2 T2 ρ2 B2 S2 X2 r2=>
   W_wp (W_setF X2 hx hm r2 (r1.step S2) e7 (Q:=fun _ h'=>FlPost F ln ρ B h .next s4 .next h') fun h4 S4 X4=>⟨rfl,ρ2,B2,(S1.trans S2).trans S4,X4⟩) rfl T2 fun _ σ3 T3 q=>⟨T3,q⟩) hs
noncomputable def iterNames:List String:=["list_iterator","tuple_iterator","dict_keyiterator","str_iterator","str_ascii_iterator","range_iterator"]
structure IterAt(F:Frm)(h0:Heap)(ρ:List Addr)(B:Base)(h:Heap)(it:Value)(xs:List V)(I:Addr)(fp:List Addr)(P:Nat→Value→Prop)(St:Nat→Heap→Prop):Prop where
 ref:it=.ref I
 walks:∀ A':Around,A'.handled=none→Walks pw F.w A' I fp [I] xs.length P St
 st:St 0 h
 item:∀ i v,P i v→∃ x,xs[i]?=some x∧RelV F.w ρ B v x
 fresh:h0.get? I=none
 own:I ∉ F.own ρ
 base:B I=none
 cls:∀ i h',St i h'→∃ o n,h'.get? I=some o∧o.cls=.type n∧n∈iterNames
 foot:∀ b∈fp,b=I∨∃ o,B b=some o
inductive IterOk(F:Frm)(h0:Heap)(ρ:List Addr)(B:Base)(h:Heap)(it:Value)(xs:List V):Prop where
 | mk (I:Addr) (fp:List Addr) (P:Nat→Value→Prop) (St:Nat→Heap→Prop) (ok:IterAt F h0 ρ B h it xs I fp P St)
def JIt(F:Frm)(ln:List Str)(e:Expr)(d:Den (List V)):Prop:=
 ∀ ρ B s h,Rel F ln ρ B s h→∀ xs s',d s=some (xs,s')→W F.w F.A (eval e F.E) h fun x h1=>W F.w F.A (pyIter x) h1 (Out F ln (IterOk F) ρ B h xs s')
theorem Rel.iter(X:Rel F ln ρ B s h){ρ0:List Addr}{B0:Base}{h0:Heap}(st:Step F ρ0 B0 h0 ρ B h){x:Value}{xs:List V}(o:Obj)(fp:List Addr)(P:Nat→Value→Prop)(St:Nat→Heap→Prop)(hf:o.isFreed=false)
  (hW:∀ A':Around,A'.handled=none→Walks pw F.w A' h.objs.size fp [h.objs.size] xs.length P St) (hst:(h.push o).get? h.objs.size=some o→St 0 (h.push o)) (hP:∀ i v,P i v→∃ x,xs[i]?=some x∧RelV F.w ρ B v x) (hfp:∀ b∈fp,b=h.objs.size∨∃ o,B b=some o)
  (hcl:∀ i h',St i h'→∃ o n,h'.get? h.objs.size=some o∧o.cls=.type n∧n∈iterNames)
  (H:∀ (σ:Shared) (Q:Value→Shared→Prop) (E:Value→Shared→Prop),σ.heap=h→(∀ k,Q (.ref h.objs.size) { σ with heap:=h.push o,toks:=k })→wpAny (model pw F.w) F.A (pyIter x) Q E σ):W F.w F.A (pyIter x) h (Out F ln (IterOk F) ρ0 B0 h0 xs s):=
 W_push H (ex02 (X.pushN o) fun st2 X'=>⟨ρ,B,st.trans st2,X',h.objs.size,fp,P,St,rfl,hW,hst (get_push hf),hP,st.none (get_size h),(X.fresh (get_size h)).2.1,(X.fresh (get_size h)).1,hcl,hfp⟩)
theorem fp1{I b:Addr}{B:Base}(h:b∈[I]):b=I∨∃ o,B b=some o:=.inl (List.mem_singleton.mp h)
theorem fp2{I a b:Addr}{B:Base}{o:Obj}(e:B a=some o)(h:b∈[I,a]):b=I∨∃ o,B b=some o:=(List.mem_cons.mp h).imp id fun h=>⟨o,(congrArg B (List.mem_singleton.mp h)).trans e⟩
theorem ne_size{a:Addr}{o:Obj}(e:h.get? a=some o):a ≠ h.objs.size:=fun q=>no1 ((get_size h).symm.trans (q▸e))
theorem K.t_is{w:World}{k:K}{v:Value}(e:k.holds v=true):Is w B v k.t:=by
 rcases K.holds_inv e with ⟨i,t,rfl,rfl⟩ | ⟨x,t,rfl,rfl⟩
 ·exact .int i t
 ·exact .str x t
theorem Seq.vals{w:World}{vs:List Value}{xs:List T}(q:Seq w B vs xs):All2 (RelV w ρ B) vs (xs.map .t):=by
 induction q with
 | nil=>exact .nil
 | cons r _ ih=>exact .cons r ih
theorem it_list(n:Nm F ln cn gs)(X:Rel F ln ρ B s h){ρ0:List Addr}{B0:Base}{h0:Heap}(st:Step F ρ0 B0 h0 ρ B h){a:Addr}{vs:List Value}{m:Nat}{xs:List V}(oa:B a=some (seqObj "list" vs m))(q:All2 (RelV F.w ρ B) vs xs) :
  W F.w F.A (pyIter (.ref a)) h (Out F ln (IterOk F) ρ0 B0 h0 xs s):=
 have ha:=X.le _ _ oa
 X.iter st ⟨.type "list_iterator",none,.fields #[.ref a,.int 0 0],#[]⟩ [h.objs.size,a] (fun i v=>vs.toArray[i]?=some v) (fun i h'=>h'.IsListIter h.objs.size a i∧h'.IsList a vs.toArray) rfl
  (fun A' hA=>((List.size_toArray ..).trans q.len:vs.toArray.size=_)▸Walks.list hA h.objs.size a (ne_size ha) vs.toArray) (fun e=>⟨⟨_,e,rfl,rfl⟩,⟨_,Heap.get?_push_of_some _ ha,rfl,_,rfl⟩⟩)
  (fun i v e=>q.some_right ((List.getElem?_toArray ..).symm.trans e)) (fun b hb=>fp2 oa hb) (fun i h' e=>ex13 e.1 fun o e1 e2 _=>⟨o,_,e1,e2,by decide⟩)
  fun σ Q E hσ q=>by subst hσ;exact wpAny_pyIter_list ⟨_,ha,rfl,_,rfl⟩ (q _)
theorem it_tup(n:Nm F ln cn gs)(X:Rel F ln ρ B s h){ρ0:List Addr}{B0:Base}{h0:Heap}(st:Step F ρ0 B0 h0 ρ B h){a:Addr}{vs:List Value}{m:Nat}{xs:List V}(oa:B a=some (seqObj "tuple" vs m))(q:All2 (RelV F.w ρ B) vs xs) :
  W F.w F.A (pyIter (.ref a)) h (Out F ln (IterOk F) ρ0 B0 h0 xs s):=
 have ha:=X.le _ _ oa
 X.iter st ⟨.type "tuple_iterator",none,.fields #[.ref a,.int 0 0],#[]⟩ [h.objs.size,a] (fun i v=>vs.toArray[i]?=some v) (fun i h'=>h'.IsTupleIter h.objs.size a i∧h'.IsTuple a vs.toArray) rfl
  (fun A' hA=>((List.size_toArray ..).trans q.len:vs.toArray.size=_)▸Walks.tuple hA h.objs.size a (ne_size ha) vs.toArray) (fun e=>⟨⟨_,e,rfl,rfl⟩,⟨_,Heap.get?_push_of_some _ ha,rfl,_,rfl⟩⟩)
  (fun i v e=>q.some_right ((List.getElem?_toArray ..).symm.trans e)) (fun b hb=>fp2 oa hb) (fun i h' e=>ex13 e.1 fun o e1 e2 _=>⟨o,_,e1,e2,by decide⟩)
  fun σ Q E hσ q=>by subst hσ;exact wpAny_pyIter_tuple ⟨_,ha,rfl,_,rfl⟩ (q _)
theorem it_dict(n:Nm F ln cn gs)(X:Rel F ln ρ B s h){ρ0:List Addr}{B0:Base}{h0:Heap}(st:Step F ρ0 B0 h0 ρ B h){a:Addr}{es:List DictEntry}{m:Nat}{d:List (K×T)}(zd:DicOk a d)(oa:B a=some (dicObj es m))(sa:Dic F.w B es d) :
  W F.w F.A (pyIter (.ref a)) h (Out F ln (IterOk F) ρ0 B0 h0 (d.map fun p=>.t p.1.t) s):=
 have ha:=X.le _ _ oa
 X.iter st ⟨.type "dict_keyiterator",none,.fields #[.ref a,.int 0 0,.int (kvsOf es d).length 0,.int m 0],#[]⟩ [h.objs.size,a] (fun i v=>∃ k x,(kvsOf es d)[i]?=some (k,x)∧(mixKind pw F.w).is k v=true)
  (fun i h'=>h'.IsKeyIter h.objs.size a i (kvsOf es d).length m∧h'.DictAt (mixKind pw F.w) a (kvsOf es d) m) rfl
  (fun A' hA=>((kvsOf_len sa).trans (List.length_map ..).symm:(kvsOf es d).length=(d.map fun p=>V.t p.1.t).length)▸Walks.dictKeys (knd:=mixKind pw F.w) hA h.objs.size a (ne_size ha) (kvsOf es d) m) (fun e=>⟨⟨_,e,rfl,rfl⟩,Dic.dictOf (Heap.get?_push_of_some _ ha) sa zd⟩)
  (fun i v e=>ex22 e fun k x e1 e2=>ex12 ((kvsOf_all sa).some_right e1) fun p hp e3=>⟨.t p.1.t,by rw [List.getElem?_map,hp];rfl,e3.1▸K.t_is e2⟩) (fun b hb=>fp2 oa hb) (fun i h' e=>ex13 e.1 fun o e1 e2 _=>⟨o,_,e1,e2,by decide⟩)
  fun σ Q E hσ q=>by subst hσ;exact wpAny_pyIter_dict (knd:=mixKind pw F.w) zd.1 (Dic.dictOf ha sa zd) (q _)
theorem sign_at{w:World}{cs:List Nat}{i:Nat}{v:Value}(e:SignAt ⟨cs.toArray⟩ i v):∃ x,(cs.map fun c=>V.t (.str [c]))[i]?=some x∧RelV w ρ B v x:=
 ex22 e fun c u e1 e2=>⟨.t (.str [c]),by rw [List.getElem?_map,show cs[i]?=some c from (List.getElem?_toArray ..).symm.trans e1];rfl,e2▸Is.str [c] u⟩
theorem it_str(n:Nm F ln cn gs)(X:Rel F ln ρ B s h){ρ0:List Addr}{B0:Base}{h0:Heap}(st:Step F ρ0 B0 h0 ρ B h)(cs:List Nat)(tk:Tok) :
  W F.w F.A (pyIter (.str ⟨cs.toArray⟩ tk)) h (Out F ln (IterOk F) ρ0 B0 h0 (cs.map fun c=>.t (.str [c])) s):=by
 have el:(⟨cs.toArray⟩:Str).cps.size=(cs.map fun c=>V.t (.str [c])).length:=(List.size_toArray ..).trans (List.length_map ..).symm
 cases ha:(⟨cs.toArray⟩:Str).cps.all (· < 128)
 ·exact X.iter st ⟨.type "str_iterator",none,.fields #[.str ⟨cs.toArray⟩ tk,.int 0 0],#[]⟩ [h.objs.size] (SignAt ⟨cs.toArray⟩) (fun i h'=>h'.IsStrIter h.objs.size "str_iterator" ⟨cs.toArray⟩ tk i) rfl (fun A' hA=>el▸Walks.strWide hA h.objs.size ⟨cs.toArray⟩ tk) (fun e=>⟨_,e,rfl,rfl⟩)
   (fun i v=>sign_at) (fun b hb=>fp1 hb) (fun i h' e=>ex13 e fun o e1 e2 _=>⟨o,_,e1,e2,by decide⟩) fun σ Q E hσ q=>by subst hσ;exact wpAny_pyIter_wide ha (q _)
 ·exact X.iter st ⟨.type "str_ascii_iterator",none,.fields #[.str ⟨cs.toArray⟩ tk,.int 0 0],#[]⟩ [h.objs.size] (SignAt ⟨cs.toArray⟩) (fun i h'=>h'.IsStrIter h.objs.size "str_ascii_iterator" ⟨cs.toArray⟩ tk i) rfl (fun A' hA=>el▸Walks.strAscii hA h.objs.size ⟨cs.toArray⟩ tk) (fun e=>⟨_,e,rfl,rfl⟩)
   (fun i v=>sign_at) (fun b hb=>fp1 hb) (fun i h' e=>ex13 e fun o e1 e2 _=>⟨o,_,e1,e2,by decide⟩) fun σ Q E hσ q=>by subst hσ;exact wpAny_pyIter_ascii ha (q _)
noncomputable def iterT(t:T):Option (List V):=(t.list?.map (·.map .t)).or <| (t.tup?.map (·.map .t)).or <| (t.dict?.map (·.map fun p=>.t p.1.t)).or <| t.str?.map (·.map fun c=>.t (.str [c]))
noncomputable def iterV:V→Option (List V)
 | .t x=>iterT x
 | .lst is=>some (is.map .loc)
 | .loc _=>none
theorem locs_all{w:World}{vs:List Value}{is:List Nat}(q:All2 (fun v i=>∃ x,ρ[i]?=some x∧v=Value.ref x) vs is):All2 (RelV w ρ B) vs (is.map .loc):=by
 induction q with
 | nil=>exact .nil
 | cons r _ ih=>exact .cons r ih
theorem OpIter(n:Nm F ln cn gs)(X:Rel F ln ρ B s h){ρ0:List Addr}{B0:Base}{h0:Heap}(st:Step F ρ0 B0 h0 ρ B h){v:Value}{x:V}{xs:List V}(r:RelV F.w ρ B v x)(e:iterV x=some xs):W F.w F.A (pyIter v) h (Out F ln (IterOk F) ρ0 B0 h0 xs s):=by
 induction x with
 | loc=>exact no1 e
 | lst is=>exact smE e fun e=>ex33 r fun a vs m hv oa sa=>hv▸e▸it_list n X st oa (locs_all sa)
 | t x=>
  have r:RelV F.w ρ B v (.t x):=r
  refine orE e (fun e=>omE e fun ys e1 e2=>?_) fun e=>orE e (fun e=>omE e fun ys e1 e2=>?_) fun e=>orE e (fun e=>omE e fun ys e1 e2=>?_) fun e=>omE e fun ys e1 e2=>?_
  ·exact r.listE e1 fun a vs m hv oa sa=>hv▸e2▸it_list n X st oa sa.vals
  ·exact r.tupE e1 fun a vs m hv oa sa=>hv▸e2▸it_tup n X st oa sa.vals
  ·exact Is.dictE (T.dictE (P:=fun x=>Is F.w B v x→Is F.w B v (.dict ys)) e1 id r) fun a es m hv zd oa sa=>hv▸e2▸it_dict n X st zd oa sa
  ·exact r.strE e1 fun t hv=>hv▸e2▸it_str n X st ys t
noncomputable def dIter(d:Den V):Den (List V):=d.opt fun _ v=>iterV v
theorem jItV(n:Nm F ln cn gs){e:Expr}{d:Den V}(H:JV F ln (eval e F.E) d):JIt F ln e (dIter d):=fun ρ B s h X xs s' q=>
 Den.optE q fun v e1 e2=>(H ρ B s h X v s' e1).monoO fun rv h1 ρ1 B1 S1 X1 r1=>OpIter n X1 S1 r1 e2
noncomputable def rInts(a:Int)(n:Nat):List V:=(List.range n).map fun(i:Nat)=>V.t (T.int (a+(i:Int)))
noncomputable def rangeOk(a b:Int):Bool:=decide (-1000000≤a∧a≤1000000∧-1000000≤b∧b≤1000000)
theorem rangeSz(a b:Int):Builtin.Range.rangeSize a b 1=(b - a).toNat:=by unfold Builtin.Range.rangeSize;simp;omega
theorem rangeSm{a b:Int}(ho:rangeOk a b=true):Builtin.Range.small a b 1=true:=by
 have ho:=of_decide_eq_true ho
 unfold Builtin.Range.small
 rw [rangeSz]
 simp [Builtin.Range.rangeFitsLong]
 omega
theorem OpRange(n:Nm F ln cn gs)(X:Rel F ln ρ B s h){ρ0:List Addr}{B0:Base}{h0:Heap}(st:Step F ρ0 B0 h0 ρ B h){a b:Int}{t u v:Tok}(ho:rangeOk a b=true){r:Addr}(hr:h.get? r=some ⟨.type "range",none,.fields #[.int a t,.int b u,.int 1 v],#[]⟩) :
  W F.w F.A (pyIter (.ref r)) h (Out F ln (IterOk F) ρ0 B0 h0 (rInts a (b - a).toNat) s):=
 X.iter st ⟨.type "range_iterator",none,.fields #[rawInt a,rawInt (Builtin.Range.rangeSize a b 1),rawInt 1],#[]⟩ [h.objs.size] (fun i v=>i < (b - a).toNat∧∃ t,v=.int (a+i * 1) t) (fun i h'=>IsRangeIter h' h.objs.size (a+(i:Nat) * 1) (((b - a).toNat:Int) - (i:Nat)) 1) rfl
  (fun A' hA=>by
   rw [show (rInts a (b - a).toNat).length=(b - a).toNat from (List.length_map ..).trans List.length_range]
   have W:=Walks.range (prog:=pw) (w:=F.w) hA h.objs.size a 1 (b - a).toNat
   exact⟨W.sub,W.frame,fun i s Q E hi st hQ=>W.item i s Q E hi st fun v h' tk hP=>hQ v h' tk ⟨hi,hP⟩,W.done,W.self⟩)
  (fun e=>e.trans (by rw [rangeSz];simp)) (fun i v hp=>ex11 hp.2 fun t e=>⟨.t (.int (a+i)),by simp [rInts,hp.1],e▸(Int.mul_one (i:Int)).symm▸Is.int _ t⟩) (fun b hb=>fp1 hb) (fun i h' e=>⟨_,_,e,rfl,by decide⟩)
  fun σ Q E hσ q=>by subst hσ;exact wpAny_pyIter_range hr (rangeSm ho) (q _)
noncomputable def rngV(a b:Int):Option (List V):=gd (rangeOk a b=true) (rInts a (b - a).toNat)
noncomputable def dRange1(d:Den V):Den (List V):=d.opt fun _ v=>v.int?.bind (rngV 0)
noncomputable def dRange2(da db:Den V):Den (List V):=den2 da db fun _ x y=>x.int?.bind fun a=>y.int?.bind (rngV a)
theorem W_byName{x:Str}{np:Pos}{v:Value}(HN:JV F ln (eval (.Name x np) F.E) (dT (.con v)))(X:Rel F ln ρ B s h){Q:Value→Heap→Prop}(q:∀ ρ1 B1 h1,Step F ρ B h ρ1 B1 h1→Rel F ln ρ1 B1 s h1→Q v h1):W F.w F.A (eval (.Name x np) F.E) h Q:=
 (HN ρ B s h X _ s rfl).monoO fun rv h1 ρ1 B1 S1 X1 r1=>(Is.inv r1:v=rv)▸q ρ1 B1 h1 S1 X1
theorem jItR1(n:Nm F ln cn gs){x:Str}{np p:Pos}{e:Expr}{d:Den V}(HN:JV F ln (eval (.Name x np) F.E) (dT (.con (.type "range"))))(hn:noStar [e]=true)(H:JV F ln (eval e F.E) d):JIt F ln (.Call (.Name x np) [e] [] p) (dRange1 d):=fun ρ B s h X xs s' q=>
 Den.optE q fun v e1 e2=>obE e2 fun b e2 e3=>gdE e3 fun ho e3=>W_callN (W_byName HN X fun ρ1 B1 h1 S1 X1=>W_cwT hn ((H ρ1 B1 s h1 X1 _ s' e1).monoO fun rv h2 ρ2 B2 S2 X2 r2=>r2.intE e2 fun tk hv σ hσ=>hv▸call_range_1 (by
  subst hσ
  exact ex02 (X2.pushN ⟨.type "range",none,.fields #[.int 0 σ.toks,.int b tk,.int 1 (σ.toks+1)],#[]⟩) fun st X3=>⟨⟨rfl,rfl,rfl⟩,e3▸OpRange n X3 ((S1.trans S2).trans st) ho (get_push rfl)⟩)))
theorem jItR2(n:Nm F ln cn gs){x:Str}{np p:Pos}{ea eb:Expr}{da db:Den V}(HN:JV F ln (eval (.Name x np) F.E) (dT (.con (.type "range"))))(hn:noStar [ea,eb]=true)(Ha:JV F ln (eval ea F.E) da)(Hb:JV F ln (eval eb F.E) db):JIt F ln (.Call (.Name x np) [ea,eb] [] p) (dRange2 da db):=fun ρ B s h X xs s' q=>
 den2E q fun v s1 y e1 e2 e3=>obE e3 fun a e3 e4=>obE e4 fun b e4 e5=>gdE e5 fun ho e5=>W_callN (W_byName HN X fun ρ1 B1 h1 S1 X1=>W_cwT hn ((Ha ρ1 B1 s h1 X1 _ s1 e1).monoO fun rv h2 ρ2 B2 S2 X2 r2=>(Hb ρ2 B2 s1 h2 X2 _ s' e2).monoO fun ry h3 ρ3 B3 S3 X3 r3=>
  r2.intE e3 fun ta hv=>r3.intE e4 fun tb hy σ hσ=>hv▸hy▸call_range_2 (by
   subst hσ
   exact ex02 (X3.pushN ⟨.type "range",none,.fields #[.int a ta,.int b tb,.int 1 σ.toks],#[]⟩) fun st X4=>⟨⟨rfl,rfl,rfl⟩,e5▸OpRange n X4 (((S1.trans S2).trans S3).trans st) ho (get_push rfl)⟩)))
def JT(F:Frm)(ln:List Str)(t:Value→Sem Unit)(d:V→Den Unit):Prop:=
 ∀ ρ B s h,Rel F ln ρ B s h→∀ v a,RelV F.w ρ B v a→∀ s',d a s=some ((),s')→W F.w F.A (t v) h fun _ h'=>Ou F ln ρ B h s' h'
noncomputable def tL(i:Nat):V→Den Unit:=fun a s=>some ((),s.setL i a)
noncomputable def tC(i:Nat):V→Den Unit:=fun a s=>some ((),s.setC i a)
theorem soU{s s':S}{P:S→Prop}(e:some ((),s)=some ((),s'))(p:P s):P s':=so (P:=fun _ s'=>P s') e p
theorem jtL(n:Nm F ln cn gs){x:Str}{p:Pos}(i:Nat)(hx:ln[i]?=some x):JT F ln (assign (.Name x p) F.E) (tL i):=fun ρ B s h X v a r s' e σ hσ=>
 wpAny_assign_Name (W_wp (W_stL n X hx r (Q:=fun _ h'=>Ou F ln ρ B h s' h') fun h2 S2 X2=>soU (P:=fun s'=>Ou F ln ρ B h s' h2) e ⟨ρ,B,S2,X2⟩) hσ (.refl σ) fun _ σ' S q=>⟨S,q⟩)
theorem jtC(n:Nm F ln cn gs){x:Str}{p:Pos}(i:Nat)(hx:cn[i]?=some x):JT F ln (assign (.Name x p) F.E) (tC i):=fun ρ B s h X v a r s' e σ hσ=>
 wpAny_assign_Name (W_wp (W_stC n X hx r (Q:=fun _ h'=>Ou F ln ρ B h s' h') fun h2 S2 X2=>soU (P:=fun s'=>Ou F ln ρ B h s' h2) e ⟨ρ,B,S2,X2⟩) hσ (.refl σ) fun _ σ' S q=>⟨S,q⟩)
noncomputable def tI(dO di:Den V):V→Den Unit:=fun v=>dO.bind fun o=>di.bind fun i s=>(setV s o i v).map fun s'=>((),s')
theorem jtI{o i:Expr}{p:Pos}{dO di:Den V}(Ho:JV F ln (eval o F.E) dO)(Hi:JV F ln (eval i F.E) di):JT F ln (assign (.Subscript o i p) F.E) (tI dO di):=fun ρ B s h X v a r s' e σ hσ=>
 Den.bindE e fun ov s2 e3 e4=>Den.bindE e4 fun iv s3 e5 e6=>omE e6 fun sx e7 e8=>by
  rw [assign_Subscript]
  exact wpAny_bind (wpAny_holding (W_wpO (Ho ρ B s h X ov s2 e3) hσ (.refl σ) fun ro σ2 T2 ρ2 B2 S2 X2 r2=>wpAny_bind (wpAny_holding (W_wpO (Hi ρ2 B2 s2 _ X2 iv s3 e5) rfl T2 fun ri σ3 T3 ρ3 B3 S3 X3 r3=>wpAny_bind (wpAny_standAt (wpAny_bind (wpAny_holding
   (W_wp (OpSet X3 (r2.step S3) r3 ((r.step S2).step S3) e7 (Q:=fun _ h'=>Ou F ln ρ B h s' h') fun h4 S4 X4=>so2 (P:=fun _ s'=>Ou F ln ρ B h s' h4) e8 ⟨ρ3,B3,(S2.trans S3).trans S4,X4⟩) rfl T3 fun _ σ4 T4 q=>wpAny_release' ⟨T4,q⟩))))))))
noncomputable def dTs:List (V→Den Unit)→List V→Den Unit
 | [],[]=>fun s=>some ((),s)
 | d::ds,x::xs=>(d x).bind fun _=>dTs ds xs
 | _,_=>dNone
theorem W_inOrder{ts:List (Value→Sem Unit)}{ds:List (V→Den Unit)}(H:All2 (JT F ln) ts ds):∀ {ρ B s h},Rel F ln ρ B s h→∀ {vs xs},All2 (RelV F.w ρ B) vs xs→∀ {s'},dTs ds xs s=some ((),s') →
  W F.w F.A (assignInOrder ts vs) h fun _ h'=>Ou F ln ρ B h s' h':=by
 induction H with
 | nil=>
  intro ρ B s h X vs xs r s' e
  induction r with
  | nil=>exact W_pure (soU (P:=fun s'=>Ou F ln ρ B h s' h) e ⟨ρ,B,.refl ..,X⟩)
  | cons=>exact no1 e
 | @cons t d ts ds Hd _ ih=>
  intro ρ B s h X vs xs r s' e
  induction r with
  | nil=>exact no1 e
  | cons r1 r2=>exact Den.bindE e fun _ s1 e1 e2 σ hσ=>wpAny_bind (wpAny_holding (W_wpU (Hd ρ B s h X _ _ r1 s1 e1) hσ (.refl σ) fun σ1 T1 ρ1 B1 S1 X1=>W_wpU (ih X1 (r2.mono fun _ _ q=>q.step S1) e2) rfl T1 fun σ2 T2 ρ2 B2 S2 X2=>⟨T2,ρ2,B2,S1.trans S2,X2⟩))
def JTs(F:Frm)(ln:List Str)(es:List Expr)(ds:List (V→Den Unit)):Prop:=All2 (JT F ln) (es.map fun e=>assign e F.E) ds
noncomputable def tTup(ds:List (V→Den Unit)):V→Den Unit:=fun v s=>v.tup?.bind fun xs=>(gd (xs.length=ds.length) (xs.map V.t)).bind fun ys=>dTs ds ys s
theorem assignEach_plain{es:List Expr}:noStar es=true→assignEach es F.E=es.map fun e=>(false,assign e F.E):=by
 induction es with
 | nil=>exact fun _=>rfl
 | cons e r ih=>
  cases e <;> first
   | exact fun hn=>congrArg (_::·) (ih hn)
   | exact fun hn=>no3 hn
theorem W_unpack(n:Nm F ln cn gs)(X:Rel F ln ρ B s h){es:List Expr}{ds:List (V→Den Unit)}(hs:noStar es=true)(H:JTs F ln es ds){a:Addr}{vs:List Value}{xs:List V}(ho:h.IsTuple a vs.toArray)(r:All2 (RelV F.w ρ B) vs xs){s':S}
  (hl:xs.length=ds.length) (e:dTs ds xs s=some ((),s')):W F.w F.A (unpack (.ref a) (assignEach es F.E)) h fun _ h'=>Ou F ln ρ B h s' h':=by
 rw [assignEach_plain hs]
 have l2:es.length=ds.length:=(List.length_map ..).symm.trans H.len
 intro σ hσ
 subst hσ
 refine wpAny_unpack_tuple n.ar.hd (items:=vs.toArray) ho (by rw [List.size_toArray,List.length_map,r.len,hl,l2]) ?_ fun h' hE=>?_
 ·rw [List.findIdx?_eq_none_iff]
  exact fun x hx=>(List.mem_map.mp hx).elim fun e he=>he.2▸rfl
 ·rw [List.map_map]
  exact ex02 (X.same (h':=h') fun b o e=>hE b o (ne_size e) e) fun S1 X1=>W_wpU (σ:={ σ with heap:=h' }) (σ0:=σ) (W_inOrder H X1 r e) rfl ⟨rfl,rfl,rfl⟩ fun σ2 T2 ρ2 B2 S2 X2=>⟨T2,ρ2,B2,S1.trans S2,X2⟩
theorem jtTup(n:Nm F ln cn gs){es:List Expr}{k:Nat}{p:Pos}{ds:List (V→Den Unit)}(hs:noStar es=true)(H:JTs F ln es ds):JT F ln (assign (.Tuple es k p) F.E) (tTup ds):=fun ρ B s h X v a r s' e=>
 obE e fun xs e1 e=>obE e fun ys e2 e=>gdE e2 fun hl e2=>r.tupE e1 fun ad vs m hv oa sa σ hσ=>hv▸by
  show wpAny _ _ (do standAt p;unpack (.ref ad) (assignEach es F.E)) _ _ _
  exact wpAny_bind (wpAny_standAt (W_wp (W_unpack n X hs H ⟨_,X.le _ _ oa,rfl,_,rfl⟩ sa.vals ((List.length_map ..).trans hl) (e2▸e)) hσ (.refl σ) fun _ σ2 T2 q=>⟨T2,q⟩))
structure Lo(F:Frm)(ρ:List Addr)(B:Base)(I:Addr):Prop where
 own:I ∉ F.own ρ
 base:B I=none
 nn:¬F.N I
theorem Lo.step{I:Addr}{ρ':List Addr}{B':Base}{h':Heap}{o:Obj}(x:Lo F ρ B I)(e:h.get? I=some o)(S:Step F ρ B h ρ' B' h'):Lo F ρ' B' I:=
 ⟨fun hm=>S.pre.elim fun t ht=>(own_app (ht.1▸hm)).elim x.own fun q=>no1 ((ht.2 I q).symm.trans e),
  Option.eq_none_iff_forall_ne_some.mpr fun o' q=>(S.bn I o' q).elim (fun z=>no1 (x.base.symm.trans z)) fun z=>z.elim (fun z=>no1 (z.symm.trans e)) x.own,x.nn⟩
theorem Rel.but{I:Addr}{h':Heap}(X:Rel F ln ρ B s h)(x:Lo F ρ B I)(k:∀ b o,b ≠ I→h.get? b=some o→h'.get? b=some o):Rel F ln ρ B s h':=by
 have ne:∀ {b},b∈F.own ρ→b ≠ I:=fun hb e=>x.own (e▸hb)
 exact⟨X.st,fun b o e=>k b o (fun q=>no1 (x.base.symm.trans (q▸e))) (X.le b o e),X.up,X.new,fun a ha=>(X.nsz a ha).elim fun o e=>⟨o,k a o (fun q=>x.nn (q▸ha)) e⟩,X.nd,fun a ha=>(X.out a ha).elim fun o e=>⟨o,k a o (ne ha) e⟩,X.bn,X.br,X.pre,
  ex12 X.loc fun m hm q=>⟨m,hm.at' fun o e=>k _ o (ne (.head _)) e,q⟩,fun i c e=>ex12 (X.cel i c e) fun v hv q=>⟨v,ex12 hv fun o e1 e2=>⟨o,k _ o (ne (.tail _ (List.mem_append_left _ (List.mem_of_getElem? e)))) e1,e2⟩,q⟩,X.len,
  fun i b o e e'=>(X.led i b o e e').mono ⟨[],by simp⟩ (.refl B) fun ob z=>k _ ob (ne (.tail _ (List.mem_append_right _ (List.mem_of_getElem? e)))) z,X.kle⟩
theorem Step.but{I:Addr}{ρ':List Addr}{B':Base}{h1 h':Heap}(st:Step F ρ B h ρ' B' h1)(hf:h.get? I=Option.none)(k:∀ b o,b ≠ I→h1.get? b=some o→h'.get? b=some o):Step F ρ B h ρ' B' h':=
 have ne:∀ b o,h.get? b=some o→b ≠ I:=fun b o e q=>no1 (hf.symm.trans (q▸e))
 ⟨st.pre,st.up,fun b o e n=>k b o (ne b o e) (st.keep b o e n),fun b o e=>(st.sz b o e).elim fun o' e'=>⟨o',k b o' (ne b o e) e'⟩,st.bn⟩
structure ItAt(F:Frm)(ρ:List Addr)(B:Base)(I:Addr)(St:Nat→Heap→Prop)(i:Nat)(ρ':List Addr)(B':Base)(h:Heap):Prop where
 lo:Lo F ρ' B' I
 st:St i h
 le:B.Le B'
 pre:∃ t,ρ'=ρ++t
theorem pre_tr{a b c:List Addr}(x:∃ t,b=a++t)(y:∃ t,c=b++t):∃ t,c=a++t:=x.elim fun t e=>y.elim fun u e'=>⟨t++u,by rw [e',e,List.append_assoc]⟩
variable {h0 h1:Heap} {it:Value} {xs:List V} {I:Addr} {fp:List Addr} {P:Nat→Value→Prop} {St:Nat→Heap→Prop} {i:Nat}
theorem ItAt.step(ok:IterAt F h0 ρ B h1 it xs I fp P St)(hd:F.A.handled=none){ρa ρb:List Addr}{Ba Bb:Base}{ha hb:Heap}{sa sb:S}(x:ItAt F ρ B I St i ρa Ba ha)(Xa:Rel F ln ρa Ba sa ha)(S:Step F ρa Ba ha ρb Bb hb)(Xb:Rel F ln ρb Bb sb hb):ItAt F ρ B I St i ρb Bb hb:=
 ex22 (ok.cls _ _ x.st) fun oI _ hI _=>⟨x.lo.step hI S,(ok.walks F.A hd).frame _ _ _ x.st fun b hb o e=>(ok.foot b hb).elim (fun q=>S.keep _ o e (q▸x.lo.own)) fun q=>q.elim fun ob hob=>
  Xb.le b o (S.up b o (Option.some.inj ((Xa.le b ob (x.le b ob hob)).symm.trans e)▸x.le b ob hob)),x.le.trans S.up,pre_tr x.pre S.pre'⟩
theorem ItAt.item(ok:IterAt F h0 ρ B h1 it xs I fp P St)(hd:F.A.handled=none)(hi:i < xs.length){ρ':List Addr}{B':Base}{τ:Shared}(x:ItAt F ρ B I St i ρ' B' τ.heap)(X:Rel F ln ρ' B' s τ.heap){Q:Option Value→Shared→Prop}{E:Value→Shared→Prop}
  (k:∀ v y h' tk,xs.drop i=y::xs.drop (i+1)→RelV F.w ρ' B' v y→ItAt F ρ B I St (i+1) ρ' B' h'→Rel F ln ρ' B' s h'→(∀ b o,b ≠ I→τ.heap.get? b=some o→h'.get? b=some o)→Q (some v) { τ with heap:=h',toks:=tk }):wpAny (model pw F.w) F.A (pyNext (.ref I)) Q E τ:=
 (ok.walks F.A hd).item i τ _ _ hi x.st fun v h' tk hP hst' hk=>
  have hk':∀ b o,b ≠ I→τ.heap.get? b=some o→h'.get? b=some o:=fun b o q e=>hk b o (fun z=>q (List.mem_singleton.mp z)) e
  ex12 (ok.item i v hP) fun y hy r=>k v y h' tk ((List.drop_eq_getElem_cons hi).trans (congrArg (·::_) (Option.some.inj ((List.getElem?_eq_getElem hi).symm.trans hy)))) (r.mono x.pre x.le) ⟨x.lo,hst',x.le,x.pre⟩ (X.but x.lo hk') hk'
theorem ItAt.done(ok:IterAt F h0 ρ B h1 it xs I fp P St)(hd:F.A.handled=none){ρ':List Addr}{B':Base}{τ:Shared}(x:ItAt F ρ B I St xs.length ρ' B' τ.heap)(X:Rel F ln ρ' B' s τ.heap){Q:Option Value→Shared→Prop}{E:Value→Shared→Prop}
  (k:∀ h' tk,Rel F ln ρ' B' s h'→(∀ b o,b ≠ I→τ.heap.get? b=some o→h'.get? b=some o)→Q none { τ with heap:=h',toks:=tk }):wpAny (model pw F.w) F.A (pyNext (.ref I)) Q E τ:=
 (ok.walks F.A hd).done τ _ _ x.st fun h' tk hk=>
  have hk':∀ b o,b ≠ I→τ.heap.get? b=some o→h'.get? b=some o:=fun b o q e=>hk b o (fun z=>q (List.mem_singleton.mp z)) e
  k h' tk (X.but x.lo hk') hk'
noncomputable def dLoop(dt:V→Den Unit)(db:Den Fl):List V→Den Fl
 | []=>dNext
 | x::xs=>(dt x).bind fun _=>dSeq db (dLoop dt db xs)
noncomputable def dFor(di:Den (List V))(dt:V→Den Unit)(db:Den Fl):Den Fl:=di.bind (dLoop dt db)
theorem owned_plain{w:World}{A:Around}{tgt:Expr}{I:Addr}{v:Value}{σ:Shared}{Q:Unit→Shared→Prop}{E:Value→Shared→Prop}{o:Obj}{n:String}(ho:σ.heap.get? I=some o)(hc:o.cls=.type n)(hn:n∈iterNames)(q:Q () σ):wpAny (model pw w) A (letOwnedTupleGo tgt (.ref I) v) Q E σ:=by
 have key:∀ a:Addr,wpAny (model pw w) A (do
   let o ←load I
   match o.cls,o.data with
   | .type n,.fields vs=>
    if ["enumerate","zip","dict_itemiterator","dict_reverseitemiterator","odict_iterator","itertools.zip_longest","itertools.pairwise"].contains n && vs[0]? == some (rawInt a) then
     rule "for.unpacks-the-owned-tuple"
     updateField I 0 .none
   | _,_=>pure ():Sem Unit) Q E σ:=fun a=>by
  refine wpAny_bind (wpAny_load ho ?_)
  rw [hc]
  have hf:["enumerate","zip","dict_itemiterator","dict_reverseitemiterator","odict_iterator","itertools.zip_longest","itertools.pairwise"].contains n=false:=by
   simp only [iterNames,List.mem_cons,List.not_mem_nil,or_false] at hn
   rcases hn with rfl | rfl | rfl | rfl | rfl | rfl <;> decide
  split
  ·rename_i m vs e1 e2
   cases e1
   rw [hf,Bool.false_and]
   exact wpAny_pure q
  ·exact wpAny_pure q
 cases tgt <;> first | exact wpAny_pure q | (cases v <;> first | exact wpAny_pure q | exact key _)
structure ForInv(F:Frm)(ln:List Str)(ρ:List Addr)(B:Base)(h:Heap)(σ:Shared)(ρ2:List Addr)(B2:Base)(I:Addr)(St:Nat→Heap→Prop)(xs:List V)(dt:V→Den Unit)(db:Den Fl)(f:Fl)(s':S)(i:Nat)(ρ':List Addr)(B':Base)(s_:S)(τ:Shared):Prop where
 TT:Same σ τ
 st:Step F ρ B h ρ' B' τ.heap
 X:Rel F ln ρ' B' s_ τ.heap
 it:ItAt F ρ2 B2 I St i ρ' B' τ.heap
 ed:dLoop dt db (xs.drop i) s_=some (f,s')
theorem body_end{db dr:Den Fl}{body:List Stmt}(Hb:JS F ln (execs body F.E) db){ρ':List Addr}{B':Base}{f:Fl}{s':S}{σ τ:Shared}(TT:Same σ τ)(hk:F.k≤ρ.length)(st:Step F ρ B h ρ' B' τ.heap)(X:Rel F ln ρ' B' s τ.heap)(e:dSeq db dr s=some (f,s')){Q:Flow→Shared→Prop}{E:Value→Shared→Prop}
  (k:∀ s4 τ3 ρ4 B4,Same σ τ3→Step F ρ' B' τ.heap ρ4 B4 τ3.heap→Rel F ln ρ4 B4 s4 τ3.heap→dr s4=some (f,s')→Q .next τ3) (kr:∀ v τ3,Same σ τ3→FlPost F ln ρ B h f s' (.ret v) τ3.heap→Q (.ret v) τ3):wpAny (model pw F.w) F.A (execs body F.E) Q E τ:=
 Den.bindE e fun g s4 e1 e2=>W_wp (Hb ρ' B' s _ X g s4 e1) rfl TT fun fl τ3 T3 q=>by
  induction g with
  | next=>exact q.1▸q.2.el fun ρ4 B4 S4 X4=>k s4 τ3 ρ4 B4 T3 S4 X4 e2
  | ret r=>exact ex12 q fun v e fn=>e▸kr v τ3 T3 (so (P:=fun f s'=>FlPost F ln ρ B h f s' (.ret v) τ3.heap) e2 ⟨v,rfl,fn.pre hk st⟩)
theorem jFor{tgt iter:Expr}{body:List Stmt}{p:Pos}{di:Den (List V)}{dt:V→Den Unit}{db:Den Fl}(n:Nm F ln cn gs)(hs:∀ x,foldedSetIterable iter F.E x=pure x)(Hi:JIt F ln iter di)(Ht:JT F ln (assign tgt F.E) dt)(Hb:JS F ln (execs body F.E) db) :
  JS F ln (exec (.For tgt iter body [] p) F.E) (dFor di dt db):=fun ρ B s h X f s' e=>
 Den.bindE e fun xs s1 e1 e2 σ hσ=>wpAny_For (W_wp (Hi ρ B s h X xs s1 e1) hσ (.refl σ) fun x σ1 T1 H1=>W_wpO H1 rfl T1 fun it σ2 T2 ρ2 B2 S2 X2 io=>io.casesOn fun I fp P St ok=>by
  have hd:=n.ar.hd
  rw [ok.ref]
  refine codeAny_forLoop_any (I:=fun m τ=>∃ i ρ' B' s_,m=xs.length - i∧i≤xs.length∧ForInv F ln ρ B h σ ρ2 B2 I St xs dt db f s' i ρ' B' s_ τ) (fun m τ HI=>?_) xs.length
   ⟨0,ρ2,B2,s1,rfl,Nat.zero_le _,T2,S2,X2,⟨⟨ok.own,ok.base,fun z=>(X.nsz _ z).elim fun _ q=>no1 (ok.fresh.symm.trans q)⟩,ok.st,.refl _,[],by simp⟩,e2⟩
  refine ex43 HI fun i ρ' B' s_ hm hi z=>?_
  rcases Nat.lt_or_ge i xs.length with hlt | hge
  ·refine z.it.item ok hd hlt z.X fun v y h' tk ey r it1 X1 hk=>?_
   refine ex22 (ok.cls _ _ it1.st) fun o nm hio hc=>owned_plain (σ:={ τ with heap:=h',toks:=tk }) hio hc.1 hc.2 ?_
   have ed:=z.ed
   rw [ey] at ed
   have st1:=z.st.but ok.fresh hk
   refine Den.bindE ed fun _ s3 e3 e4=>W_wpU (σ:={ τ with heap:=h',toks:=tk }) (Ht ρ' B' s_ h' X1 v y r s3 e3) rfl (z.TT.trans ⟨rfl,rfl,rfl⟩) fun τ2 T3 ρ3 B3 S3 X3=>body_end Hb T3 X.kle (st1.trans S3) X3 e4
    (fun s4 τ3 ρ4 B4 T4 S4 X4 e5=>?_) fun v τ3 T4 q=>⟨T4,q⟩
   exact⟨xs.length - (i+1),by omega,i+1,ρ4,B4,s4,rfl,hlt,T4,(st1.trans S3).trans S4,X4,(it1.step ok hd X1 S3 X3).step ok hd X3 S4 X4,e5⟩
  ·have hi:i=xs.length:=Nat.le_antisymm hi hge
   refine(hi▸z.it:ItAt F ρ2 B2 I St xs.length ρ' B' τ.heap).done ok hd z.X fun h' tk X1 hk=>?_
   have ed:=z.ed
   rw [hi,List.drop_length] at ed
   exact wpAny_execs_nil ⟨z.TT.trans ⟨rfl,rfl,rfl⟩,nextP ed rfl ⟨ρ',B',z.st.but ok.fresh hk,X1⟩⟩) hs
end
section
variable {F:Frm} {ln cn gs:List Str} {ρ:List Addr} {B:Base} {s:S} {h:Heap}
noncomputable def dWhile(dc:Den Bool)(db:Den Fl):Nat→Den Fl
 | 0=>dNone
 | k+1=>dIte dc (dSeq db (dWhile dc db k)) dNext
structure WhInv(F:Frm)(ln:List Str)(ρ:List Addr)(B:Base)(h:Heap)(σ:Shared)(d:Den Fl)(f:Fl)(s':S)(ρ':List Addr)(B':Base)(s_:S)(τ:Shared):Prop where
 TT:Same σ τ
 st:Step F ρ B h ρ' B' τ.heap
 X:Rel F ln ρ' B' s_ τ.heap
 ed:d s_=some (f,s')
theorem jWhile{t:Expr}{b:List Stmt}{p:Pos}{dc:Den Bool}{db:Den Fl}(k:Nat)(Hc:JB F ln (isTrue t F.E (eval t F.E)) dc)(Hb:JS F ln (execs b F.E) db):JS F ln (exec (.While t b [] p) F.E) (dWhile dc db k):=by
 intro ρ B s h X f s' e σ hσ
 refine wpAny_While (codeAny_whileLoop (I:=fun m τ=>∃ ρ' B' s_,WhInv F ln ρ B h σ (dWhile dc db m) f s' ρ' B' s_ τ) (fun m τ HI=>ex31 HI fun ρ' B' s_ z=>?_) k ⟨ρ,B,s,.refl σ,hσ▸.refl ..,hσ▸X,e⟩)
 cases m with
 | zero=>exact no1 z.ed
 | succ m=>
  refine dIteO z.ed fun c s1 e1 e2=>W_wpO (Hc ρ' B' s_ _ z.X c s1 e1) rfl z.TT fun c' τ1 T1 ρ1 B1 S1 X1 r1=>?_
  rw [r1]
  induction c with
  | false=>exact wpAny_execs_nil ⟨T1,nextP e2 rfl ⟨ρ1,B1,z.st.trans S1,X1⟩⟩
  | true=>exact body_end Hb T1 X.kle (z.st.trans S1) X1 e2 (fun s4 τ3 ρ4 B4 T4 S4 X4 e5=>⟨m,Nat.lt_succ_self m,ρ4,B4,s4,T4,(z.st.trans S1).trans S4,X4,e5⟩) fun v τ3 T4 q=>⟨T4,q⟩
noncomputable def dAsgT(d:Den V)(ds:List (V→Den Unit)):Den Fl:=d.bind fun v=>(tTup ds v).bind fun _=>dNext
theorem jAsgT(n:Nm F ln cn gs){es:List Expr}{k:Nat}{tp p:Pos}{e:Expr}{d:Den V}{ds:List (V→Den Unit)}(hs:noStar es=true)(h1:swapsWithSole [.Tuple es k tp] e p.line F.E=pure false)(h2:swappedStores [.Tuple es k tp] e F.E=pure none)
  (H:JV F ln (eval e F.E) d) (Ht:JTs F ln es ds):JS F ln (exec (.Assign [.Tuple es k tp] e p) F.E) (dAsgT d ds):=fun ρ B s h X f s' q=>
 Den.bindE q fun v s1 e1 q2=>Den.bindE q2 fun _ s2 e2 q3 σ hσ=>Assign_Tuple (W_wpO (H ρ B s h X v s1 e1) hσ (.refl σ) fun rv σ1 T1 ρ1 B1 S1 X1 r1=>W_wpU (jtTup n hs Ht ρ1 B1 s1 _ X1 rv v r1 s2 e2) rfl T1 fun σ2 T2 ρ2 B2 S2 X2=>⟨T2,nextP q3 rfl ⟨ρ2,B2,S1.trans S2,X2⟩⟩) h1 h2
noncomputable def dLen(n:Nat)(d:List V→Den Unit)(xs:List V):Den Fl:=fun s=>(gd (xs.length=n∧xs.length≤100) xs).bind fun xs=>((d xs).bind fun _=>dNext) s
noncomputable def dAsgTT(d:Den (List V))(ds:List (V→Den Unit)):Den Fl:=d.bind (dLen ds.length (dTs ds))
theorem dLenE{n:Nat}{d:List V→Den Unit}{xs:List V}{s s':S}{f:Fl}{P:Prop}(e:dLen n d xs s=some (f,s'))(k:∀ s1,xs.length=n→xs.length≤100→d xs s=some ((),s1)→dNext s1=some (f,s')→P):P:=
 obE e fun ys e1 e=>gdE e1 fun hl e1=>Den.bindE e fun _ s1 e2 e3=>k s1 hl.1 hl.2 (e1▸e2) e3
theorem W_tupV(n:Nm F ln cn gs){vs:List Expr}{k:Nat}{p:Pos}{d:Den (List V)}(hv:noStar vs=true)(H:JArgs F ln vs d)(X:Rel F ln ρ B s h){xs:List V}{s1:S}(e:d s=some (xs,s1))(hl:xs.length≤100){Q:Value→Heap→Prop}
  (q:∀ a us ρ1 B1 h1,Step F ρ B h ρ1 B1 h1→Rel F ln ρ1 B1 s1 h1→h1.get? a=some (seqObj "tuple" us 0)→All2 (RelV F.w ρ1 B1) us xs→Q (.ref a) h1):W F.w F.A (eval (.Tuple vs k p) F.E) h Q:=fun σ hσ=>
 PyProof.Rows.Tuple_ (W_wpO (W_spl hv (H ρ B s h X xs s1 e)) hσ (.refl σ) fun us σ1 T1 ρ1 B1 st X1 r=>ex02 (X1.pushN (seqObj "tuple" us 0)) fun st2 X2=>
  wpAny_newObj_type ⟨⟨T1.g,T1.d,T1.o⟩,q _ us ρ1 B1 _ (st.trans st2) X2 (get_push rfl) r⟩ (by show us.toArray.size≤sizeLine;rw [sizeL,List.size_toArray,r.len];omega))
theorem jAsgTT(n:Nm F ln cn gs){es vs:List Expr}{k k2:Nat}{tp vp p:Pos}{d:Den (List V)}{ds:List (V→Den Unit)}(hs:noStar es=true)(hv:noStar vs=true)(h1:swapsWithSole [.Tuple es k tp] (.Tuple vs k2 vp) p.line F.E=pure false)
  (h2:swappedStores [.Tuple es k tp] (.Tuple vs k2 vp) F.E=pure none) (H:JArgs F ln vs d) (Ht:JTs F ln es ds):JS F ln (exec (.Assign [.Tuple es k tp] (.Tuple vs k2 vp) p) F.E) (dAsgTT d ds):=fun ρ B s h X f s' q=>
 Den.bindE q fun xs s1 e1 q2=>dLenE q2 fun s2 l1 l2 e2 q3 σ hσ=>Assign_Tuple (W_wp (W_tupV n hv H X e1 l2 (Q:=fun v h1=>W F.w F.A (assign (.Tuple es k tp) F.E v) h1 fun _ h'=>Ou F ln ρ B h s2 h') fun a us ρ1 B1 h1 S1 X1 o r τ hτ=>by
   show wpAny _ _ (do standAt tp;unpack (.ref a) (assignEach es F.E)) _ _ _
   exact wpAny_bind (wpAny_standAt (W_wpU (W_unpack n X1 hs Ht ⟨_,o,rfl,_,rfl⟩ r l1 e2) hτ (.refl τ) fun σ2 T2 ρ2 B2 S2 X2=>⟨T2,ρ2,B2,S1.trans S2,X2⟩))) hσ (.refl σ)
  fun rv σ1 T1 H1=>W_wpU H1 rfl T1 fun σ2 T2 ρ2 B2 S2 X2=>⟨T2,nextP q3 rfl ⟨ρ2,B2,S2,X2⟩⟩) h1 h2
noncomputable def nm?:Expr→Option (Str×Pos)
 | .Name x q=>some (x,q)
 | _=>none
noncomputable def namesOf(ts:List Expr):List Str:=ts.filterMap fun e=>(nm? e).map (·.1)
noncomputable def dAsgSw(d:Den (List V))(is:List Nat):Den Fl:=d.bind (dLen is.length fun xs=>dTs (is.reverse.map tL) xs.reverse)
theorem All2.rev{α β:Type}{R:α→β→Prop}{l:List α}{m:List β}(x:All2 R l m):All2 R l.reverse m.reverse:=by
 induction x with
 | nil=>exact .nil
 | cons r _ ih=>rw [List.reverse_cons,List.reverse_cons];exact ih.append (.cons r .nil)
theorem swT(n:Nm F ln cn gs){l:List Str}{is:List Nat}(hi:All2 (fun x i=>ln[i]?=some x) l is):All2 (JT F ln) (l.map fun x=>bindName F.E x) (is.map tL):=by
 induction hi with
 | nil=>exact .nil
 | cons r _ ih=>exact .cons (fun ρ B s h X v a r' s' e σ hσ=>wpAny_bindName (W_wp (W_stL n X r r' (Q:=fun _ h'=>Ou F ln ρ B h s' h') fun h2 S2 X2=>soU (P:=fun s'=>Ou F ln ρ B h s' h2) e ⟨ρ,B,S2,X2⟩) hσ (.refl σ) fun _ σ' S q=>⟨S,q⟩)) ih
structure TupAt(F:Frm)(ln:List Str)(ρ:List Addr)(B:Base)(h:Heap)(s1:S)(xs:List V)(v:Value)(h1:Heap)(a:Addr)(us:List Value)(ρ1:List Addr)(B1:Base):Prop where
 hv:v=.ref a
 st:Step F ρ B h ρ1 B1 h1
 X:Rel F ln ρ1 B1 s1 h1
 o:h1.get? a=some (seqObj "tuple" us 0)
 r:All2 (RelV F.w ρ1 B1) us xs
theorem jAsgSw(n:Nm F ln cn gs){es vs:List Expr}{k k2:Nat}{tp vp p:Pos}{d:Den (List V)}{is:List Nat}(hv:noStar vs=true)(h1:swapsWithSole [.Tuple es k tp] (.Tuple vs k2 vp) p.line F.E=pure false)
  (h2:swappedStores [.Tuple es k tp] (.Tuple vs k2 vp) F.E=pure (some (namesOf es))) (hi:All2 (fun x i=>ln[i]?=some x) (namesOf es) is) (H:JArgs F ln vs d):JS F ln (exec (.Assign [.Tuple es k tp] (.Tuple vs k2 vp) p) F.E) (dAsgSw d is):=fun ρ B s h X f s' q=>
 Den.bindE q fun xs s1 e1 q2=>dLenE q2 fun s2 l1 l2 e2 q3 σ hσ=>Assign_Tuple_swapped (W_wp (W_tupV n hv H X e1 l2 (Q:=fun v h1=>∃ a us ρ1 B1,TupAt F ln ρ B h s1 xs v h1 a us ρ1 B1) fun a us ρ1 B1 h1 S1 X1 o r=>⟨a,us,ρ1,B1,rfl,S1,X1,o,r⟩) hσ (.refl σ) fun rv σ1 T1 HI=>ex41 HI fun a us ρ1 B1 z=>by
  have el:(namesOf es).length=us.toArray.size:=by rw [hi.len,←l1,←z.r.len,List.size_toArray]
  rw [el,z.hv]
  refine wpAny_unpackItems_tuple n.ar.hd (items:=us.toArray) ⟨_,z.o,rfl,_,rfl⟩ fun h' hE=>ex02 (z.X.same (h':=h') fun b o e=>hE b o (ne_size e) e) fun S2 X2=>?_
  have Ht:=swT n hi.rev
  exact W_wpU (σ:={ σ1 with heap:=h' }) (σ0:=σ) (W_inOrder Ht X2 z.r.rev e2) rfl (T1.trans ⟨rfl,rfl,rfl⟩) fun σ2 T2 ρ2 B2 S3 X3=>⟨T2,nextP q3 rfl ⟨ρ2,B2,(z.st.trans S2).trans S3,X3⟩⟩) h1 h2
noncomputable def notLoc(cn:List Str):Expr→Bool
 | .Name x _=>cn.contains x
 | _=>true
noncomputable def inCells(cn:List Str):List Expr→Bool
 | [_,t]=>notLoc cn t
 | _=>false
theorem two_ne{f:Expr→Option Str}{a b:Expr}(h:f b=none):(([a,b].filterMap f).length != [a,b].length)=true:=by
 have e:[b].filterMap f=[]:=List.filterMap_cons_none h
 cases q:f a with
 | none=>rw [List.filterMap_cons_none q,e];rfl
 | some x=>rw [List.filterMap_cons_some q,e];rfl
theorem noswap(n:Nm F ln cn gs){ts vs:List Expr}{k k2:Nat}{p p2:Pos}(hc:inCells cn ts=true):swappedStores [.Tuple ts k p] (.Tuple vs k2 p2) F.E=pure none:=by
 match ts,hc with
 | [],hc=>exact no3 hc
 | [_],hc=>exact no3 hc
 | _::_::_::_,hc=>exact no3 hc
 | [a,b],hc=>
  delta swappedStores
  dsimp only
  by_cases h1:(!([a,b].length == 2 || [a,b].length == 3) || vs.length != [a,b].length || F.E.blockKind != .function)=true
  ·rw [if_pos h1]
  ·rw [if_neg h1]
   split
   ·rfl
   ·refine if_pos (Bool.or_eq_true_iff.mpr (.inl (two_ne ?_)))
    cases b with
    | Name x q=>exact(List.getElem?_of_mem (List.contains_iff_mem.mp hc)).elim fun i hi=>if_neg (by rw [(n.ck i x hi).1];exact Bool.false_ne_true)
    | _=>rfl
noncomputable def isStarE:Expr→Bool
 | .Starred ..=>true
 | _=>false
noncomputable def two?{α:Type}:List α→Option (α×α)
 | [a,b]=>some (a,b)
 | _=>none
noncomputable def swapChk(ln:List Str)(ts vs:List Expr):Bool:=(two? ts).any fun t=>(two? vs).any fun v=>(nm? t.1).any fun x=>(nm? t.2).any fun y=>
 ln.contains x.1 && (ln.contains y.1 && (y.2.line == x.2.line && (!(x.1 == y.1) && (!isStarE v.1 && (!isStarE v.2 && (!([v.1,v.2].all (foldedForSure 8)) && !([v.1,v.2].all (constantsAlone 8))))))))
theorem anyE{α:Type}{o:Option α}{f:α→Bool}{P:Prop}(h:o.any f=true)(k:∀ x,o=some x→f x=true→P):P:=by
 cases o with
 | none=>exact no3 h
 | some x=>exact k x rfl h
theorem two_at{α:Type}{l:List α}{p:α×α}(h:two? l=some p):[p.1,p.2]=l:=by
 match l,h with
 | [a,b],h=>exact smE h fun h=>h▸rfl
 | [],h=>exact no1 h
 | [_],h=>exact no1 h
 | _::_::_::_,h=>exact no1 h
theorem nm_at{e:Expr}{p:Str×Pos}(h:nm? e=some p):.Name p.1 p.2=e:=by
 cases e with
 | Name x q=>exact smE h fun h=>h▸rfl
 | _=>exact no1 h
theorem notB{b:Bool}(h:(!b)=true):b=false:=by cases b <;> first | rfl | exact no3 h
theorem swap_two{E:Env}{x y:Str}{q r:Pos}{a b:Expr}{k k2:Nat}{p p2:Pos}(hE:E.scope.kind=.function)(hx:E.kindOf x=some .local)(hy:E.kindOf y=some .local)(hl:(r.line == q.line)=true)(hn:(x == y)=false)(sa:isStarE a=false)(sb:isStarE b=false)
  (f1:[a,b].all (foldedForSure 8)=false) (f2:[a,b].all (constantsAlone 8)=false):swappedStores [.Tuple [.Name x q,.Name y r] k p] (.Tuple [a,b] k2 p2) E=pure (some [x,y]):=by
 delta swappedStores
 dsimp only
 rw [if_neg (by show ¬(_ || E.blockKind != .function)=true;unfold Env.blockKind;rw [hE];exact Bool.false_ne_true)]
 refine(if_neg (show ¬((isStarE a || (isStarE b || false))=true) from by rw [sa,sb];exact Bool.false_ne_true)).trans ?_
 have nm:∀ f:Expr→Option Str,f (.Name x q)=some x→f (.Name y r)=some y→[Expr.Name x q,.Name y r].filterMap f=[x,y]:=fun f h1 h2=>by rw [List.filterMap_cons_some h1,List.filterMap_cons_some h2];rfl
 have ed:[x,y].eraseDups=[x,y]:=by rw [List.eraseDups_cons,List.filter_cons_of_pos (by rw [BEq.comm,hn];rfl)];rfl
 rw [nm _ (if_pos (by rw [hx];show (true && (q.line == q.line))=true;rw [beq_self_eq_true];rfl)) (if_pos (by rw [hy];exact hl)),ed,if_neg (by exact Bool.false_ne_true),f1,f2,if_neg Bool.false_ne_true,if_neg Bool.false_ne_true]
theorem andE{a b:Bool}{P:Prop}(h:(a && b)=true)(k:a=true→b=true→P):P:=by cases a <;> first | exact no3 h | exact k rfl h
theorem swap_of(n:Nm F ln cn gs){ts vs:List Expr}{k k2:Nat}{p p2:Pos}(hc:swapChk ln ts vs=true):swappedStores [.Tuple ts k p] (.Tuple vs k2 p2) F.E=pure (some (namesOf ts)):=
 anyE hc fun t h1 hc=>anyE hc fun v h2 hc=>anyE hc fun x h3 hc=>anyE hc fun y h4 hc=>andE hc fun c1 hc=>andE hc fun c2 hc=>andE hc fun c3 hc=>andE hc fun c4 hc=>andE hc fun c5 hc=>andE hc fun c6 hc=>andE hc fun c7 c8=>by
  rw [←two_at h1,←two_at h2,←nm_at h3,←nm_at h4]
  exact swap_two n.kind (n.lk _ (List.contains_iff_mem.mp c1)).1 (n.lk _ (List.contains_iff_mem.mp c2)).1 c3 (notB c4) (notB c5) (notB c6) (notB c7) (notB c8)
noncomputable def compOkB(sc:Scope)(ln fr gs:List Str):Bool:=
 sc.kind == .function && (sc.names.all fun x=>x.2 != .cell) && (sc.names.all fun x=>x.2 != .local || sc.names.lookup x.1 == some .local) && (sc.names.all fun x=>x.2 != .free || fr.contains x.1) &&
 (ln.all fun x=>sc.names.lookup x == some .local && x != ("__debug__":Str)) && (fr.all fun x=>sc.names.lookup x == some .free && x != ("__debug__":Str)) && (gs.all fun x=>sc.names.lookup x == some .globalImplicit && x != ("__debug__":Str)) && decide ln.Nodup
structure CompOk(sc:Scope)(ln fr gs:List Str):Prop where
 kind:sc.kind=.function
 cell:∀ x∈sc.names,x.2 ≠ .cell
 loc:∀ x∈sc.names,x.2=.local→sc.names.lookup x.1=some .local
 free:∀ x∈sc.names,x.2=.free→x.1∈fr
 lns:∀ x∈ln,sc.names.lookup x=some .local∧(x == ("__debug__":Str))=false
 frs:∀ x∈fr,sc.names.lookup x=some .free∧(x == ("__debug__":Str))=false
 gn:∀ x∈gs,sc.names.lookup x=some .globalImplicit∧(x == ("__debug__":Str))=false
 nd:ln.Nodup
theorem CompOk.of{sc:Scope}{ln fr gs:List Str}(e:compOkB sc ln fr gs=true):CompOk sc ln fr gs:=by
 unfold compOkB at e
 simp only [Bool.and_eq_true,List.all_eq_true,beq_iff_eq,bne_iff_ne,Bool.or_eq_true,decide_eq_true_eq,List.contains_iff_mem] at e
 obtain⟨⟨⟨⟨⟨⟨⟨a,b⟩,c⟩,d⟩,e⟩,f⟩,g⟩,i⟩:=e
 exact⟨a,b,fun x hx hl=>(c x hx).resolve_left fun z=>z hl,fun x hx hl=>(d x hx).resolve_left fun z=>z hl,fun x hx=>⟨(e x hx).1,by simpa using (e x hx).2⟩,fun x hx=>⟨(f x hx).1,by simpa using (f x hx).2⟩,fun x hx=>⟨(g x hx).1,by simpa using (g x hx).2⟩,i⟩
theorem lookup_map2(g:Str→NameKind→NameKind)(x:Str):∀ l:List (Str×NameKind),(l.map fun p=>(p.1,g p.1 p.2)).lookup x=(l.lookup x).map (g x)
 | []=>rfl
 | (n,k)::r=>by
  rw [List.map_cons,List.lookup_cons,List.lookup_cons]
  cases hx:x == n with
  | true=>
   have:x=n:=by simpa using hx
   subst this;rfl
  | false=>exact lookup_map2 g x r
theorem kind_relabel{sc:Scope}{E:Env}{C:Addr}{cl:List (Str×Addr)}(x:Str):(compEnvC sc cl C E).kindOf x=(sc.names.lookup x).map fun k=>if (k == .free && E.scope.kind == .function && E.kindOf x == some .cell)=true then .cell else k:=by
 show ((sc.names.map fun(n,k)=>if (k == NameKind.free && E.scope.kind == .function && E.kindOf n == some .cell)=true then (n,NameKind.cell) else (n,k))).lookup x=_
 have e:(fun(p:Str×NameKind)=>if (p.2 == NameKind.free && E.scope.kind == .function && E.kindOf p.1 == some .cell)=true then (p.1,NameKind.cell) else (p.1,p.2))=fun p=>(p.1,(fun n k=>if (k == NameKind.free && E.scope.kind == .function && E.kindOf n == some .cell)=true then NameKind.cell else k) p.1 p.2):=by
  funext p
  by_cases h:(p.2 == NameKind.free && E.scope.kind == .function && E.kindOf p.1 == some .cell)=true
  ·simp only [if_pos h]
  ·simp only [if_neg h]
 exact(congrArg (fun f=>(sc.names.map f).lookup x) e).trans (lookup_map2 (fun n k=>if (k == NameKind.free && E.scope.kind == .function && E.kindOf n == some .cell)=true then NameKind.cell else k) x sc.names)
theorem closure_ok{E:Env}:∀ (l:List (Str×NameKind)) (acc:List (Str×Addr)),(∀ x∈l,x.2=.free→∃ c,E.cells.lookup x.1=some c)→∃ cl,(forIn l acc fun(x:Str×NameKind) (cs:List (Str×Addr))=>if (x.2 == NameKind.free)=true then (do
   let c ←cellOf E x.1
   pure (ForInStep.yield ((x.1,c)::cs)):Sem _) else pure (ForInStep.yield cs))=pure cl∧∀ y,(cl.lookup y=if (l.any fun x=>x.2 == .free && y == x.1)=true then E.cells.lookup y else acc.lookup y)
 | [],acc,_=>⟨acc,by simp,fun y=>by simp⟩
 | (n,k)::l,acc,hf=>by
  rw [List.forIn_cons]
  by_cases hk:k=.free
  ·subst hk
   obtain⟨c,hc⟩:=hf (n,.free) (.head _) rfl
   have ec:cellOf E n=pure c:=by unfold cellOf;rw [hc]
   obtain⟨cl,h1,h2⟩:=closure_ok l ((n,c)::acc) fun x hx=>hf x (.tail _ hx)
   refine⟨cl,?_,fun y=>?_⟩
   ·rw [if_pos (by rfl),ec]
    exact h1
   ·rw [h2 y,List.any_cons]
    by_cases hy:y=n
    ·subst hy
     have:(y == y)=true:=by simp
     rw [List.lookup_cons,this,hc]
     simp
    ·have:(y == n)=false:=by simpa using hy
     rw [List.lookup_cons,this,Bool.and_false,Bool.false_or]
  ·obtain⟨cl,h1,h2⟩:=closure_ok l acc fun x hx=>hf x (.tail _ hx)
   have hk':(k == NameKind.free)=false:=by simpa using hk
   refine⟨cl,?_,fun y=>?_⟩
   ·rw [if_neg (by rw [hk'];decide)]
    exact h1
   ·rw [h2 y,List.any_cons,hk',Bool.false_and,Bool.false_or]
theorem closure_of(n:Nm F ln cn gs){sc:Scope}{ln' fr gs':List Str}(k:CompOk sc ln' fr gs')(hf:∀ x∈fr,x∈cn):∃ cl,closureFor sc F.E=pure cl∧∀ x∈fr,cl.lookup x=F.E.cells.lookup x:=by
 obtain⟨cl,h1,h2⟩:=closure_ok (E:=F.E) sc.names [] fun x hx he=>by
  obtain⟨i,hi⟩:=List.getElem?_of_mem (hf _ (k.free x hx he))
  obtain⟨_,_,c,_,hl⟩:=n.ck i _ hi
  exact⟨c,hl⟩
 refine⟨cl,?_,fun x hx=>?_⟩
 ·unfold closureFor
  have e:(forIn sc.names ([]:List (Str×Addr)) fun x (cs:List (Str×Addr))=>match x with
    | (name,kind)=>if (kind == NameKind.free)=true then (do
     let c ←cellOf F.E name
     pure (ForInStep.yield ((name,c)::cs)):Sem _) else pure (ForInStep.yield cs))=pure cl:=h1
  show (forIn sc.names ([]:List (Str×Addr)) _ >>= fun cs=>pure cs)=_
  exact(congrArg (· >>= fun cs=>pure cs) e)
 ·rw [h2 x,if_pos]
  have hl:=(k.frs x hx).1
  rw [List.any_eq_true]
  have:(x,NameKind.free)∈sc.names:=by
   clear h1 h2
   revert hl
   generalize sc.names=l
   intro hl
   induction l with
   | nil=>simp at hl
   | cons p l ih=>
    obtain⟨n,k⟩:=p
    rw [List.lookup_cons] at hl
    cases q:x == n with
    | true=>
     rw [q] at hl;cases hl;have:x=n:=by simpa using q
     subst this;exact .head _
    | false=>rw [q] at hl;exact .tail _ (ih hl)
  exact⟨_,this,by simp⟩
noncomputable def Frm.comp(F:Frm)(sc:Scope)(cl:List (Str×Addr))(C:Addr)(ci:List Nat):Frm:={ F with E:=compEnvC sc cl C F.E,L:=C,ca:=ci.map fun i=>F.ca.getD i 0 }
noncomputable def ciOk(cn fr:List Str)(ci:List Nat):Bool:=fr.length == ci.length && (List.range fr.length).all (fun j=>cn[ci.getD j 0]? == fr[j]? && fr[j]?.isSome) && decide ci.Nodup
theorem comp_names(n:Nm F ln cn gs){sc:Scope}{ln' fr gs':List Str}{ci:List Nat}{C:Addr}{cl:List (Str×Addr)}(k:CompOk sc ln' fr gs')(hci:∀ (j:Nat) x,fr[j]?=some x→∃ i,ci[j]?=some i∧cn[i]?=some x)(hcl:∀ x∈fr,cl.lookup x=F.E.cells.lookup x) :
  Nm (F.comp sc cl C ci) ln' fr gs' where
 kind:=k.kind
 loc:=rfl
 glob:=n.glob
 blt:=n.blt
 lk:=fun x hx=>⟨by show (compEnvC sc cl C F.E).kindOf x=_;rw [kind_relabel,(k.lns x hx).1];rfl,(k.lns x hx).2⟩
 ck:=fun j x hx=>by
  obtain⟨i,hi,hn⟩:=hci j x hx
  obtain⟨h1,h2,c,h3,h4⟩:=n.ck i x hn
  refine⟨?_,h2,c,?_,?_⟩
  ·show (compEnvC sc cl C F.E).kindOf x=_
   rw [kind_relabel,(k.frs x (List.mem_of_getElem? hx)).1,h1,n.kind];rfl
  ·show (ci.map fun i=>F.ca.getD i 0)[j]?=_
   rw [List.getElem?_map,hi]
   simp [List.getD_eq_getElem?_getD,h3]
  ·show cl.lookup x=_
   rw [hcl x (List.mem_of_getElem? hx)];exact h4
 gk:=fun x hx=>⟨by show (compEnvC sc cl C F.E).kindOf x=_;rw [kind_relabel,(k.gn x hx).1];rfl,(k.gn x hx).2⟩
 nd:=k.nd
 ar:=n.ar
structure StepX(X:List Addr)(F:Frm)(ρ:List Addr)(B:Base)(h:Heap)(ρ':List Addr)(B':Base)(h':Heap):Prop where
 pre:∃ t,ρ'=ρ++t∧∀ a∈t,h.get? a=none
 up:B.Le B'
 keep:∀ b o,h.get? b=some o→b ∉ F.own ρ→b ∉ X→h'.get? b=some o
 sz:∀ b o,h.get? b=some o→∃ o',h'.get? b=some o'
 bn:∀ a o,B' a=some o→B a=some o∨h.get? a=none∨a∈F.own ρ
theorem StepX.refl(X:List Addr)(F:Frm)(ρ:List Addr)(B:Base)(h:Heap):StepX X F ρ B h ρ B h:=⟨⟨[],by simp,by simp⟩,.refl B,fun _ _ e _ _=>e,fun _ o e=>⟨o,e⟩,fun _ _ e=>.inl e⟩
theorem StepX.step{X:List Addr}{ρ' ρ'':List Addr}{B' B'':Base}{h' h'':Heap}(x:StepX X F ρ B h ρ' B' h')(y:Step F ρ' B' h' ρ'' B'' h''):StepX X F ρ B h ρ'' B'' h'':=by
 obtain⟨t,rfl,ht⟩:=x.pre
 obtain⟨u,rfl,hu⟩:=y.pre
 have back:∀ {a},h'.get? a=Option.none→h.get? a=Option.none:=fun {a} z=>by
  cases q:h.get? a with
  | none=>rfl
  | some o=>obtain⟨o',e⟩:=x.sz a o q;rw [z] at e;cases e
 have own:∀ {a},a∈F.own (ρ++t)→a∈F.own ρ∨a∈t:=fun {a} z=>by simp only [Frm.own,List.mem_cons,List.mem_append] at z ⊢;rcases z with h1 | h1 | h1 | h1 <;> simp [h1]
 refine⟨⟨t++u,by simp,fun a ha=>?_⟩,x.up.trans y.up,fun b o e n nx=>y.keep b o (x.keep b o e n nx) fun hm=>?_,fun b o e=>let ⟨_,e'⟩:=x.sz b o e;y.sz b _ e',fun a o e=>?_⟩
 ·rcases List.mem_append.mp ha with h1 | h1
  ·exact ht a h1
  ·exact back (hu a h1)
 ·rcases own hm with h1 | h1
  ·exact n h1
  ·rw [ht b h1] at e;cases e
 ·rcases y.bn a o e with z | z | z
  ·exact x.bn a o z
  ·exact .inr (.inl (back z))
  ·rcases own z with h1 | h1
   ·exact .inr (.inr h1)
   ·exact .inr (.inl (ht a h1))
theorem StepX.but{X:List Addr}{I:Addr}{ρ':List Addr}{B':Base}{h1 h':Heap}(x:StepX X F ρ B h ρ' B' h1)(hI:I∈X)(k:∀ b o,b ≠ I→h1.get? b=some o→h'.get? b=some o)(hl:∃ o,h'.get? I=some o):StepX X F ρ B h ρ' B' h':=
 ⟨x.pre,x.up,fun b o e n nx=>k b o (fun q=>nx (q▸hI)) (x.keep b o e n nx),fun b o e=>by
  by_cases q:b=I
  ·subst q;exact hl
  ·obtain⟨o',e'⟩:=x.sz b o e;exact⟨o',k b o' q e'⟩,x.bn⟩
noncomputable def selC(ci:List Nat)(l:List (Option V)):List (Option V):=ci.map fun i=>l[i]?.getD none
noncomputable def wbC:List Nat→List (Option V)→List (Option V)→List (Option V)
 | i::ci,v::vs,l=>wbC ci vs (l.set i v)
 | _,_,l=>l
theorem Rel.enter{sc:Scope}{cl:List (Str×Addr)}{C:Addr}{ci:List Nat}{ln':List Str}(X:Rel F ln ρ B s h)(hlt:∀ i∈ci,i < F.ca.length)(hnd:ci.Nodup)(nl:Nat)(hN:h.Ns C fun _=>none)(hC:C ∉ F.own ρ)(hB:B C=none) :
  Rel (F.comp sc cl C ci) ln' ρ B ⟨List.replicate nl none,selC ci s.cl,s.o⟩ h:=by
 have hca:∀ c∈ci.map (fun i=>F.ca.getD i 0),c∈F.ca:=fun c hc=>by
  obtain⟨i,hi,rfl⟩:=List.mem_map.mp hc
  rw [List.getD_eq_getElem?_getD,List.getElem?_eq_getElem (hlt i hi)]
  exact List.getElem_mem _
 have sub:∀ a∈(F.comp sc cl C ci).own ρ,a=C∨a∈F.own ρ:=fun a ha=>by
  rcases List.mem_cons.mp ha with rfl | ha
  ·exact .inl rfl
  ·rcases List.mem_append.mp ha with ha | ha
   ·exact .inr (.tail _ (List.mem_append_left _ (hca a ha)))
   ·exact .inr (.tail _ (List.mem_append_right _ ha))
 have sp:=X.sep
 refine⟨X.st,X.le,X.up,X.new,X.nsz,?_,fun a ha=>?_,fun a ha=>?_,X.br,X.pre,⟨_,hN,fun i x e=>?_⟩,fun j c e=>?_,X.len,X.led,X.kle⟩
 ·refine List.nodup_cons.mpr ⟨fun hm=>?_,List.nodup_append.mpr ⟨?_,sp.2.1,fun a ha b hb q=>sp.2.2 a (hca a ha) (q▸hb)⟩⟩
  ·rcases List.mem_append.mp hm with hm | hm
   ·exact hC (.tail _ (List.mem_append_left _ (hca _ hm)))
   ·exact hC (.tail _ (List.mem_append_right _ hm))
  ·clear hca sub
   induction ci with
   | nil=>exact List.nodup_nil
   | cons i ci ih=>
    show ((i::ci).map fun i=>F.ca.getD i 0).Nodup
    rw [List.map_cons]
    have hd:=List.nodup_cons.mp hnd
    refine List.nodup_cons.mpr ⟨fun hm=>?_,ih (fun j hj=>hlt j (.tail _ hj)) hd.2⟩
    obtain⟨j,hj,e⟩:=List.mem_map.mp hm
    have li:=hlt i (.head _)
    have lj:=hlt j (.tail _ hj)
    rw [List.getD_eq_getElem?_getD,List.getD_eq_getElem?_getD,List.getElem?_eq_getElem li,List.getElem?_eq_getElem lj] at e
    have:i=j:=(List.getElem?_inj li sp.1).mp (by rw [List.getElem?_eq_getElem li,List.getElem?_eq_getElem lj];exact congrArg some e.symm)
    exact hd.1 (this▸hj)
 ·rcases sub a ha with rfl | ha
  ·obtain⟨o,_,_,e,_⟩:=hN;exact⟨o,e⟩
  ·exact X.out a ha
 ·rcases List.mem_cons.mp ha with rfl | ha
  ·exact hB
  ·exact X.bn a (.tail _ (hca a ha))
 ·show ORel _ _ _ none ((List.replicate nl none)[i]?.getD none)
  rw [List.getElem?_replicate]
  split <;> trivial
 ·have e:(ci.map fun i=>F.ca.getD i 0)[j]?=some c:=e
  rw [List.getElem?_map] at e
  obtain⟨i,hi,rfl⟩:=Option.map_eq_some_iff.mp e
  have li:=hlt i (List.mem_of_getElem? hi)
  have hc:F.ca[i]?=some (F.ca.getD i 0):=by rw [List.getD_eq_getElem?_getD,List.getElem?_eq_getElem li];rfl
  obtain⟨v,hv,r⟩:=X.cel i _ hc
  refine⟨v,hv,?_⟩
  show ORel _ _ _ v ((ci.map fun i=>s.cl[i]?.getD none)[j]?.getD none)
  rw [List.getElem?_map,hi];exact r
theorem wbC_other:∀ {ci:List Nat} {vs l:List (Option V)} {i:Nat},i ∉ ci→(wbC ci vs l)[i]?=l[i]?
 | [],_,_,_,_=>by simp [wbC]
 | _::_,[],_,_,_=>by simp [wbC]
 | j::ci,v::vs,l,i,h=>by
  have h':i ≠ j∧i ∉ ci:=by simpa [List.mem_cons,not_or] using h
  show (wbC ci vs (l.set j v))[i]?=_
  rw [wbC_other h'.2,List.getElem?_set_ne (Ne.symm h'.1)]
theorem wbC_at:∀ {ci:List Nat} {vs l:List (Option V)} {i j:Nat},ci.Nodup→ci[j]?=some i→((wbC ci vs l)[i]?.getD none=vs[j]?.getD none)∨(wbC ci vs l)[i]?.getD none=none∨(vs.length≤j∧(wbC ci vs l)[i]?=l[i]?)
 | [],_,_,_,_,_,h=>by simp at h
 | k::ci,[],l,i,j,_,h=>.inr (.inr ⟨Nat.zero_le _,by simp [wbC]⟩)
 | k::ci,v::vs,l,i,0,hd,h=>by
  obtain rfl:k=i:=by simpa using h
  have hk:=(List.nodup_cons.mp hd).1
  show ((wbC ci vs (l.set k v))[k]?.getD none=v)∨((wbC ci vs (l.set k v))[k]?.getD none=none)∨_
  rw [wbC_other hk,List.getElem?_set_self']
  cases hl:l[k]? with
  | none=>exact .inr (.inl rfl)
  | some _=>exact .inl rfl
 | k::ci,v::vs,l,i,j+1,hd,h=>by
  have hd':=List.nodup_cons.mp hd
  have h':ci[j]?=some i:=by simpa using h
  have hne:k ≠ i:=fun e=>hd'.1 (e▸List.mem_of_getElem? h')
  rcases wbC_at (vs:=vs) (l:=l.set k v) hd'.2 h' with z | z | ⟨z1,z2⟩
  ·exact .inl z
  ·exact .inr (.inl z)
  ·exact .inr (.inr ⟨by simpa using z1,z2.trans (List.getElem?_set_ne hne)⟩)
theorem Rel.leave{sc:Scope}{cl:List (Str×Addr)}{C:Addr}{ci:List Nat}{ln':List Str}{h4 h5:Heap}{XX:List Addr}{ρ':List Addr}{B':Base}{si:S}(X:Rel F ln ρ B s h4)(hlt:∀ i∈ci,i < F.ca.length)(hnd:ci.Nodup)
  (hC:C ∉ F.own ρ) (hX:∀ a∈F.L::F.ca,a ∉ XX) (Y:Rel (F.comp sc cl C ci) ln' ρ' B' si h5) (st:StepX XX (F.comp sc cl C ci) ρ B h4 ρ' B' h5) (hsl:si.cl.length=ci.length):Rel F ln ρ' B' { s with cl:=wbC ci si.cl s.cl,o:=si.o } h5:=by
 obtain⟨t,rfl,ht⟩:=st.pre
 have hp:∃ t',ρ++t=ρ++t':=⟨t,rfl⟩
 have L1:=X.Lown
 have sp:=X.sep
 have hca:∀ i∈ci,F.ca[i]?=some (F.ca.getD i 0):=fun i hi=>by rw [List.getD_eq_getElem?_getD,List.getElem?_eq_getElem (hlt i hi)];rfl
 have inner:∀ a,a∈F.L::F.ca→a ∉ ci.map (fun i=>F.ca.getD i 0)→a ∉ (F.comp sc cl C ci).own ρ:=fun a ha hn hm=>by
  rcases List.mem_cons.mp hm with rfl | hm
  ·exact hC (List.mem_append_left ρ ha)
  ·rcases List.mem_append.mp hm with hm | hm
   ·exact hn hm
   ·rcases List.mem_cons.mp ha with rfl | ha
    ·exact L1.2 hm
    ·exact sp.2.2 a ha hm
 have kp:∀ a,a∈F.L::F.ca→a ∉ ci.map (fun i=>F.ca.getD i 0)→∀ o,h4.get? a=some o→h5.get? a=some o:=fun a ha hn o e=>st.keep a o e (inner a ha hn) (hX a ha)
 have hLn:F.L ∉ ci.map (fun i=>F.ca.getD i 0):=fun hm=>by
  obtain⟨i,hi,e⟩:=List.mem_map.mp hm
  exact L1.1 (e▸List.mem_of_getElem? (hca i hi))
 have own':∀ a,a∈F.own (ρ++t)→a∈F.own ρ∨a∈t:=fun a z=>by simp only [Frm.own,List.mem_cons,List.mem_append] at z ⊢;rcases z with h1 | h1 | h1 | h1 <;> simp [h1]
 refine⟨Y.st,Y.le,Y.up,Y.new,Y.nsz,?_,fun a ha=>?_,fun a ha=>?_,Y.br,Y.pre,?_,fun i c e=>?_,Y.len,Y.led,Y.kle⟩
 ·have e:F.own (ρ++t)=F.own ρ++t:=by simp [Frm.own]
  rw [e,List.nodup_append]
  exact⟨X.nd,(List.nodup_append.mp Y.sep.2.1).2.1,fun a ha b hb q=>by subst q;obtain⟨o,z⟩:=X.out a ha;rw [ht a hb] at z;cases z⟩
 ·rcases own' a ha with ha | ha
  ·obtain⟨o,e⟩:=X.out a ha;exact st.sz a o e
  ·exact Y.out a (.tail _ (List.mem_append_right _ (List.mem_append_right _ ha)))
 ·by_cases hm:a∈ci.map (fun i=>F.ca.getD i 0)
  ·exact Y.bn a (.tail _ hm)
  ·cases q:B' a with
   | none=>rfl
   | some o=>
    rcases st.bn a o q with z | z | z
    ·rw [X.bn a ha] at z;cases z
    ·obtain⟨_,y⟩:=X.out a (List.mem_append_left ρ ha);rw [z] at y;cases y
    ·exact absurd z (inner a ha hm)
 ·obtain⟨m,hm,k⟩:=X.loc
  exact⟨m,hm.at' fun o e=>kp _ (.head _) hLn o e,fun i x e=>(k i x e).mono hp st.up⟩
 ·by_cases hm:i∈ci
  ·obtain⟨j,hj⟩:=List.getElem?_of_mem hm
   have hc':(ci.map fun i=>F.ca.getD i 0)[j]?=some c:=by
    rw [List.getElem?_map,hj,Option.map_some]
    have:=hca i hm
    rw [e] at this;rw [←Option.some.inj this]
   obtain⟨v,hv,r⟩:=Y.cel j c hc'
   refine⟨v,hv,?_⟩
   show ORel _ _ _ v ((wbC ci si.cl s.cl)[i]?.getD none)
   rcases wbC_at (vs:=si.cl) (l:=s.cl) hnd hj with z | z | ⟨z,_⟩
   ·rw [z];exact r
   ·rw [z];cases v <;> trivial
   ·have:=(List.getElem?_eq_some_iff.mp hj).1;omega
  ·obtain⟨v,hv,r⟩:=X.cel i c e
   have hcm:c∈F.ca:=List.mem_of_getElem? e
   have hcn:c ∉ ci.map (fun i=>F.ca.getD i 0):=fun hm'=>by
    obtain⟨j,hj,q⟩:=List.mem_map.mp hm'
    have:=(List.getElem?_inj (List.getElem?_eq_some_iff.mp e).1 sp.1).mp (e.trans (by rw [hca j hj,q]))
    exact hm (this▸hj)
   obtain⟨o,e1,e2⟩:=hv
   refine⟨v,⟨o,kp c (.tail _ hcm) hcn o e1,e2⟩,?_⟩
   show ORel _ _ _ v ((wbC ci si.cl s.cl)[i]?.getD none)
   rw [wbC_other hm]
   exact r.mono hp st.up
theorem StepX.outer{sc:Scope}{cl:List (Str×Addr)}{C:Addr}{ci:List Nat}{h4 h5:Heap}{XX:List Addr}{ρ1 ρ':List Addr}{B1 B':Base}(st:Step F ρ B h ρ1 B1 h4)(hca:∀ i∈ci,i < F.ca.length)(hf:h.get? C=none)(hX:∀ a∈XX,h.get? a=none)(y:StepX XX (F.comp sc cl C ci) ρ1 B1 h4 ρ' B' h5):Step F ρ B h ρ' B' h5:=by
 obtain⟨t,rfl,ht⟩:=st.pre
 obtain⟨u,rfl,hu⟩:=y.pre
 have back:∀ {a},h4.get? a=none→h.get? a=none:=fun {a} z=>st.none z
 have own:∀ {a},a∈(F.comp sc cl C ci).own (ρ++t)→a=C∨a∈F.own ρ∨a∈t:=fun {a} z=>by
  rcases List.mem_cons.mp z with rfl | z
  ·exact .inl rfl
  ·rcases List.mem_append.mp z with z | z
   ·obtain⟨i,hi,rfl⟩:=List.mem_map.mp z
    refine .inr (.inl (.tail _ (List.mem_append_left _ ?_)))
    rw [List.getD_eq_getElem?_getD,List.getElem?_eq_getElem (hca i hi)]
    exact List.getElem_mem _
   ·rcases List.mem_append.mp z with z | z
    ·exact .inr (.inl (.tail _ (List.mem_append_right _ z)))
    ·exact .inr (.inr z)
 refine⟨⟨t++u,by simp,fun a ha=>?_⟩,st.up.trans y.up,fun b o e n=>y.keep b o (st.keep b o e n) (fun hm=>?_) (fun hm=>?_),fun b o e=>let ⟨_,e'⟩:=st.sz b o e;y.sz b _ e',fun a o e=>?_⟩
 ·rcases List.mem_append.mp ha with h1 | h1
  ·exact ht a h1
  ·exact back (hu a h1)
 ·rcases own hm with rfl | h1 | h1
  ·rw [hf] at e;cases e
  ·exact n h1
  ·rw [ht b h1] at e;cases e
 ·rw [hX b hm] at e;cases e
 ·rcases y.bn a o e with z | z | z
  ·exact st.bn a o z
  ·exact .inr (.inl (back z))
  ·rcases own z with rfl | h1 | h1
   ·exact .inr (.inl hf)
   ·exact .inr (.inr h1)
   ·exact .inr (.inl (ht a h1))
noncomputable def dCompS(dc:Den Bool)(de:Den V)(k:Den (List T)):Den (List T):=dc.bind fun b=>cond b ((de.opt fun _ v=>v.tr?).bind fun y=>k.opt fun _ r=>some (y::r)) k
noncomputable def dCompL(i:Nat)(dc:Den Bool)(de:Den V):List V→Den (List T)
 | []=>fun s=>some ([],s)
 | x::xs=>fun s=>dCompS dc de (dCompL i dc de xs) (s.setL i x)
noncomputable def dComp(di:Den (List V))(nl:Nat)(ci:List Nat)(i:Nat)(dc:Den Bool)(de:Den V):Den MO:=di.bind fun xs s=>
 (dCompL i dc de xs ⟨List.replicate nl none,selC ci s.cl,s.o⟩).bind fun r=>(gd (r.1.length≤16777216∧r.2.cl.length=ci.length) r.1).map fun ys=>(.list ys,{ s with cl:=wbC ci r.2.cl s.cl,o:=r.2.o })
def JIfs(F:Frm)(ln:List Str)(ifs:List Expr)(d:Den Bool):Prop:=JB F ln (forIn ifs true fun c r=>if r=true then (do let ok ←isTrue c F.E (eval c F.E);pure (ForInStep.yield ok)) else pure (ForInStep.yield r)) d
theorem jIfs0:JIfs F ln [] (dB true):=fun ρ B s h X b s' e=>by
 rw [List.forIn_nil]
 exact W_pure (so (P:=fun b s'=>Out F ln RE ρ B h b s' true h) e ⟨ρ,B,.refl ..,X,rfl⟩)
theorem jIfs1{c:Expr}{d:Den Bool}(H:JB F ln (isTrue c F.E (eval c F.E)) d):JIfs F ln [c] d:=fun ρ B s h X b s' e=>by
 rw [List.forIn_cons,if_pos rfl]
 refine W_bind (W_bind ((H ρ B s h X b s' e).mono fun c' h1 q=>W_pure ?_))
 show W _ _ (forIn ([]:List Expr) c' _) h1 _
 rw [List.forIn_nil]
 exact W_pure q
structure CompEnd(F:Frm)(ln:List Str)(ρ:List Addr)(B:Base)(h:Heap)(s':S)(ys:List T)(acc:Value)(C:Addr)(h5:Heap)(ρ':List Addr)(B':Base)(D:Addr):Prop where
 acc:acc=.ref D
 st:Step F ρ B h ρ' B' h5
 rel:Rel F ln ρ' B' s' h5
 d0:h.get? D=none
 d1:D ∉ F.own ρ'
 d2:B' D=none
 d3:∃ vs n,h5.get? D=some (seqObj "list" vs n)∧Seq F.w B' vs ys
 c0:h.get? C=none
 c1:C ∉ F.own ρ'
 c2:B' C=none
 c3:∃ m,h5.Ns C m
 ne:D ≠ C
theorem Lo.at{I:Addr}(x:h.get? I=none)(X:Rel F ln ρ B s h):Lo F ρ B I:=let z:=X.fresh x;⟨z.2.1,z.1,z.2.2⟩
theorem ItAt.other{h0 h1 h2 h':Heap}{it:Value}{xs:List V}{I D:Addr}{fp:List Addr}{P:Nat→Value→Prop}{St:Nat→Heap→Prop}{i:Nat}(ok:IterAt F h0 ρ B h1 it xs I fp P St)(hd:F.A.handled=none){ρ':List Addr}{B':Base}(x:ItAt F ρ B I St i ρ' B' h2)(k:∀ b o,b ≠ D→h2.get? b=some o→h'.get? b=some o)(hID:I ≠ D)(hDb:B D=none) :
  ItAt F ρ B I St i ρ' B' h':=
 ⟨x.lo,(ok.walks F.A hd).frame _ _ _ x.st fun b hb o e=>k b o (fun q=>(ok.foot b hb).elim (fun z=>hID (z.symm.trans q)) fun z=>z.elim fun ob hob=>no1 (hDb.symm.trans (q▸hob))) e,x.le,x.pre⟩
theorem own_comp{sc:Scope}{cl:List (Str×Addr)}{C:Addr}{ci:List Nat}(hlt:∀ i∈ci,i < F.ca.length){a:Addr}(h1:a ∉ F.own ρ)(h2:a ≠ C):a ∉ (F.comp sc cl C ci).own ρ:=fun hm=>
 (List.mem_cons.mp hm).elim h2 fun hm=>(List.mem_append.mp hm).elim (fun hm=>ex12 (List.mem_map.mp hm) fun i hi e=>h1 (.tail _ (List.mem_append_left _ (by rw [←e,List.getD_eq_getElem?_getD,List.getElem?_eq_getElem (hlt i hi)];exact List.getElem_mem _)))) fun hm=>h1 (.tail _ (List.mem_append_right _ hm))
theorem ext_own{t:List Addr}(ht:∀ a∈t,h.get? a=none){a:Addr}(h1:a ∉ F.own ρ){o:Obj}(h2:h.get? a=some o):a ∉ F.own (ρ++t):=fun hm=>(own_app hm).elim h1 fun z=>no1 ((ht a z).symm.trans h2)
inductive CpInv(F':Frm)(ln':List Str)(ρ2:List Addr)(B2:Base)(σ:Shared)(D I:Addr)(St:Nat→Heap→Prop)(xs:List V)(i0:Nat)(dc:Den Bool)(de:Den V)(ys:List T)(sf:S)(m:Nat)(τ:Shared):Prop where
 | mk (i:Nat) (ρ':List Addr) (B':Base) (s_:S) (pre:List T) (vs:List Value) (nD:Nat) (rest:List T) (hm:xs.length - i=m) (hi:i≤xs.length) (TT:Same σ τ) (sx:StepX [D,I] F' ρ2 B2 σ.heap ρ' B' τ.heap) (Y:Rel F' ln' ρ' B' s_ τ.heap)
  (it:ItAt F' ρ2 B2 I St i ρ' B' τ.heap) (d:Lo F' ρ' B' D) (da:τ.heap.get? D=some (seqObj "list" vs nD)) (sq:Seq F'.w B' vs pre) (er:dCompL i0 dc de (xs.drop i) s_=some (rest,sf)) (ey:pre++rest=ys)
theorem condE{b:Bool}{α:Type}{x y:Den α}{z:Option (α×S)}{P:Prop}(e:cond b x y s=z)(k1:true=b→x s=z→P)(k2:false=b→y s=z→P):P:=by
 cases b
 ·exact k2 rfl e
 ·exact k1 rfl e
theorem Ns_some{a:Addr}{m:Str→Option Value}(x:h.Ns a m):∃ o,h.get? a=some o:=let ⟨o,_,_,e,_⟩:=x;⟨o,e⟩
theorem in1{a b:Addr}:a∈[b,a]:=.tail _ (.head _)
theorem cp_turn{F':Frm}{ln' fr gs':List Str}{elt:Expr}{ifs:List Expr}{x:Str}{px:Pos}{i0:Nat}(hx:ln'[i0]?=some x){dc:Den Bool}{de:Den V}(N':Nm F' ln' fr gs')(Hc:JIfs F' ln' ifs dc)(He:JV F' ln' (eval elt F'.E) de)
  {sf:S} {xs:List V} {ys:List T} (hl:ys.length≤16777216) {ρ2:List Addr} {B2:Base} {σ:Shared} {D I:Addr} {it:Value} {fp:List Addr} {P:Nat→Value→Prop} {St:Nat→Heap→Prop} {h0:Heap} (ok:IterAt F' h0 ρ2 B2 σ.heap it xs I fp P St) (hID:I ≠ D) (hDb:B2 D=none)
  {EE:Value→Shared→Prop} {Rn:Shared→Prop} (Hn:∀ (τ:Shared) ρ' B' s_ vs nD h' tk,Same σ τ→StepX [D,I] F' ρ2 B2 σ.heap ρ' B' τ.heap→Rel F' ln' ρ' B' s_ τ.heap→s_=sf→Lo F' ρ' B' D→τ.heap.get? D=some (seqObj "list" vs nD)→Seq F'.w B' vs ys→(∀ b o,b ≠ I→τ.heap.get? b=some o→h'.get? b=some o)→Lo F' ρ' B' I→Rn { τ with heap:=h',toks:=tk })
  (m:Nat) (τ:Shared) (inv:CpInv F' ln' ρ2 B2 σ D I St xs i0 dc de ys sf m τ):wpAny (model pw F'.w) F'.A (pyNext (.ref I)) (fun r s₁=>match r with
   | none=>Rn s₁
   | some v=>wpAny (model pw F'.w) F'.A (assign (.Name x px) F'.E v) (fun _ s₂=>
     wpAny (model pw F'.w) F'.A (forIn ifs true fun c r=>if r=true then do let ok ←isTrue c F'.E (eval c F'.E);pure (ForInStep.yield ok) else pure (ForInStep.yield r)) (fun ok s₃=>
      if ok=true then wpAny (model pw F'.w) F'.A (eval elt F'.E) (fun x s₄=>
       wpAny (model pw F'.w) F'.A (call (.builtin "list.append") [.ref D,x]) (fun _ s₅=>∃ m',m' < m∧CpInv F' ln' ρ2 B2 σ D I St xs i0 dc de ys sf m' s₅) EE s₄) EE s₃
      else ∃ m',m' < m∧CpInv F' ln' ρ2 B2 σ D I St xs i0 dc de ys sf m' s₃) EE s₂) EE s₁) EE τ:=by
 have hd:=N'.ar.hd
 refine inv.casesOn fun i ρ' B' s_ pre vs nD rest hm hi TT sx Y ita d da sq er ey=>?_
 rcases Nat.lt_or_ge i xs.length with hlt | hge
 ·refine ita.item ok hd hlt Y fun v y h' tk exs r it1 Y1 hk=>?_
  rw [exs] at er
  have er:dCompS dc de (dCompL i0 dc de (xs.drop (i+1))) (s_.setL i0 y)=some (rest,sf):=er
  refine ex22 (ok.cls _ _ it1.st) fun oI _ hI _=>?_
  have da1:=hk D _ hID.symm da
  have sx1:=sx.but in1 hk ⟨oI,hI⟩
  refine W_wpU (σ:={ τ with heap:=h',toks:=tk }) (jtL N' i0 hx ρ' B' s_ h' Y1 v y r _ rfl) rfl (TT.trans ⟨rfl,rfl,rfl⟩) fun τ2 T3 ρ3 B3 S3 Y3=>?_
  refine Den.bindE er fun b s5 e5 er=>W_wpO (Hc ρ3 B3 _ _ Y3 b s5 e5) rfl T3 fun b' τ3 T4 ρ4 B4 S4 Y4 hb=>hb▸condE er (fun hb er=>?_) fun hb er=>?_
  ·refine hb▸Den.bindE er fun z s6 e6 er=>Den.optE e6 fun zv e6 ez=>Den.optE er fun rs er es=>W_wpO (He ρ4 B4 s5 _ Y4 zv s6 e6) rfl T4 fun rv τ4 T5 ρ5 B5 S5 Y5 r5=>r5.trE ez fun r5=>?_
   have S:=(S3.trans S4).trans S5
   have sq5:Seq F'.w B5 vs pre:=sq.mono fun _ _ q=>q.mono S.up
   rw [←Option.some.inj es] at ey
   refine append_at (its:=vs.toArray) (n:=nD) (S.keep _ _ da1 d.own) (fun h6 hS6 hD6=>?_) (by
    rw [List.size_toArray,sq.len,sizeL]
    rw [←ey,List.length_append] at hl;omega)
   have hk6:∀ b o,b ≠ D→τ4.heap.get? b=some o→h6.get? b=some o:=fun b o q e=>(hS6.2 b q).trans e
   have d5:=d.step da1 S
   exact⟨xs.length - (i+1),by omega,i+1,ρ5,B5,s6,pre++[z],vs++[rv],nD+1,rs,rfl,hlt,T5.trans ⟨rfl,rfl,rfl⟩,(sx1.step S).but (.head _) hk6 ⟨_,hD6⟩,Y5.but d5 hk6,(it1.step ok hd Y1 S Y5).other ok hd hk6 hID hDb,d5,by rw [hD6];simp,sq5.append (.cons r5 .nil),er,by rw [List.append_assoc];exact ey⟩
  ·have S:=S3.trans S4
   exact hb▸⟨xs.length - (i+1),by omega,i+1,ρ4,B4,s5,pre,vs,nD,rest,rfl,hlt,T4,sx1.step S,Y4,it1.step ok hd Y1 S Y4,d.step da1 S,S.keep _ _ da1 d.own,sq.mono fun _ _ q=>q.mono S.up,er,ey⟩
 ·have hi:i=xs.length:=Nat.le_antisymm hi hge
  rw [hi,List.drop_length] at er
  refine(hi▸ita:ItAt F' ρ2 B2 I St xs.length ρ' B' τ.heap).done ok hd Y fun h' tk Y1 hk=>?_
  exact so (P:=fun rs s=>pre++rs=ys→s_=s→Rn { τ with heap:=h',toks:=tk }) er (fun ey hs=>Hn τ ρ' B' s_ vs nD h' tk TT sx Y (so (P:=fun _ s'=>s_=s') er rfl) d da (by rw [List.append_nil] at ey;exact ey▸sq) hk ita.lo) ey (so (P:=fun _ s'=>s_=s') er rfl)
theorem comp_loop(n:Nm F ln cn gs){sc:Scope}{cl:List (Str×Addr)}{ci:List Nat}{ln' fr gs':List Str}{elt iter:Expr}{ifs:List Expr}{x:Str}{px pos:Pos}(hlt:∀ i∈ci,i < F.ca.length)(hnd:ci.Nodup){i0 nl:Nat}(hx:ln'[i0]?=some x)
  {dc:Den Bool} {de:Den V} (N':∀ C,Nm (F.comp sc cl C ci) ln' fr gs') (Hc:∀ C,JIfs (F.comp sc cl C ci) ln' ifs dc) (He:∀ C,JV (F.comp sc cl C ci) ln' (eval elt (compEnvC sc cl C F.E)) de)
  {s1 sf:S} {xs:List V} {ys:List T} (ed:dCompL i0 dc de xs ⟨List.replicate nl none,selC ci s1.cl,s1.o⟩=some (ys,sf)) (hl:ys.length≤16777216) (hcl:sf.cl.length=ci.length)
  {ρ2:List Addr} {B2:Base} {h4:Heap} (X4:Rel F ln ρ2 B2 s1 h4) {C D I:Addr} (st4:Step F ρ B h ρ2 B2 h4) (hC0:h.get? C=none) (hCo:Lo F ρ2 B2 C) (hCn:h4.Ns C fun _=>none)
  (hD0:h.get? D=none) (hDo:Lo F ρ2 B2 D) (hDa:h4.get? D=some (seqObj "list" [] 0)) (hDC:D ≠ C) {it:Value} {fp:List Addr} {P:Nat→Value→Prop} {St:Nat→Heap→Prop} (ok:IterAt F h ρ2 B2 h4 it xs I fp P St) (hIN:¬F.N I) (hID:I ≠ D) (hIC:I ≠ C) :
  Mine.C F.w F.A (.compLoop (.ListComp elt [⟨.Name x px,iter,ifs,0⟩] sc pos) 0 it (.ref D) (compEnvC sc cl C F.E)) h4 fun f h5=>f=.next∧∃ ρ' B',CompEnd F ln ρ B h { s1 with cl:=wbC ci sf.cl s1.cl,o:=sf.o } ys (.ref D) C h5 ρ' B' D:=by
 intro σ hσ
 subst hσ
 have Y4:Rel (F.comp sc cl C ci) ln' ρ2 B2 ⟨List.replicate nl none,selC ci s1.cl,s1.o⟩ σ.heap:=X4.enter hlt hnd nl hCn hCo.own hCo.base
 have oI:=own_comp (sc:=sc) (cl:=cl) hlt ok.own hIC
 have ok':IterAt (F.comp sc cl C ci) h ρ2 B2 σ.heap it xs I fp P St:=⟨ok.ref,ok.walks,ok.st,ok.item,ok.fresh,oI,ok.base,ok.cls,ok.foot⟩
 rw [ok.ref]
 have hXn:∀ a∈F.L::F.ca,a ∉ [D,I]:=fun a ha hm=>(List.mem_cons.mp hm).elim (fun e=>hDo.own (List.mem_append_left ρ2 (e▸ha))) fun hm=>ok.own (List.mem_append_left ρ2 (List.mem_singleton.mp hm▸ha))
 refine codeAny_compLoop_tests (CpInv (F.comp sc cl C ci) ln' ρ2 B2 σ D I St xs i0 dc de ys sf) (cp_turn hx (N' C) (Hc C) (He C) hl ok' hID hDo.base fun τ ρ' B' s_ vs nD h' tk TT sx Y es d da sq hk lI=>?_) xs.length
  ⟨0,ρ2,B2,_,[],[],0,ys,rfl,Nat.zero_le _,.refl σ,.refl ..,Y4,⟨⟨oI,ok.base,hIN⟩,ok.st,.refl _,[],(List.append_nil _).symm⟩,⟨own_comp hlt hDo.own hDC,hDo.base,hDo.nn⟩,hDa,.nil,ed,rfl⟩
 rw [es] at Y
 have R5:=X4.leave hlt hnd hCo.own hXn Y sx hcl
 have S5:Step F ρ B h ρ' B' τ.heap:=StepX.outer st4 hlt hC0 (fun a ha=>(List.mem_cons.mp ha).elim (fun e=>e▸hD0) fun ha=>List.mem_singleton.mp ha▸ok.fresh) sx
 refine ex12 sx.pre fun t et ht=>?_
 have DF:=et▸ext_own ht hDo.own hDa
 have CF:C ∉ F.own ρ':=(Ns_some hCn).elim fun o e=>et▸ext_own ht hCo.own e
 exact ex22 (ok.cls _ _ ok.st) fun oI _ hI4 _=>⟨TT.trans ⟨rfl,rfl,rfl⟩,rfl,ρ',B',rfl,S5.but ok.fresh hk,R5.but ⟨et▸ext_own ht ok.own hI4,lI.base,hIN⟩ hk,hD0,DF,d.base,⟨vs,nD,hk D _ hID.symm da,sq⟩,hC0,CF,Y.bn C (.head _),ex12 Y.loc fun m hm _=>⟨m,hm.at' fun o e=>hk C o hIC.symm e⟩,hDC⟩
theorem ciOk_at{cn fr:List Str}{ci:List Nat}(e:ciOk cn fr ci=true):(∀ (j:Nat) x,fr[j]?=some x→∃ i,ci[j]?=some i∧cn[i]?=some x)∧fr.length=ci.length∧ci.Nodup∧∀ i∈ci,∃ x,cn[i]?=some x:=by
 unfold ciOk at e
 simp only [Bool.and_eq_true,List.all_eq_true,beq_iff_eq,decide_eq_true_eq,List.mem_range] at e
 obtain⟨⟨e1,e2⟩,e3⟩:=e
 have at':∀ (j:Nat),j < fr.length→∃ i,ci[j]?=some i∧cn[i]?=fr[j]?:=fun j hj=>by
  have hj':j < ci.length:=by omega
  refine⟨ci[j],List.getElem?_eq_getElem hj',?_⟩
  have:=(e2 j hj).1
  rw [List.getD_eq_getElem?_getD,List.getElem?_eq_getElem hj'] at this
  exact this
 refine⟨fun j x hx=>?_,e1,e3,fun i hi=>?_⟩
 ·obtain⟨i,a,b⟩:=at' j (List.getElem?_eq_some_iff.mp hx).1
  exact⟨i,a,b.trans hx⟩
 ·obtain⟨j,hj⟩:=List.getElem?_of_mem hi
  have hl:=(List.getElem?_eq_some_iff.mp hj).1
  obtain⟨i',a,b⟩:=at' j (by omega)
  rw [hj] at a;cases a
  exact⟨_,b.trans (List.getElem?_eq_getElem (by omega))⟩
theorem frOk(hci:ciOk cn fr ci=true):∀ x∈fr,x∈cn:=fun x hx=>by
 obtain⟨j,hj⟩:=List.getElem?_of_mem hx
 obtain⟨i,_,e⟩:=(ciOk_at hci).1 j x hj
 exact List.mem_of_getElem? e
theorem comp_run(n:Nm F ln cn gs){sc:Scope}{ci:List Nat}{ln' fr gs':List Str}{elt iter:Expr}{ifs:List Expr}{x:Str}{px pos:Pos}{i0:Nat}(k:CompOk sc ln' fr gs')(hci:ciOk cn fr ci=true)(hx:ln'[i0]?=some x)(hs:∀ v,foldedSetIterable iter F.E v=pure v)
  {di:Den (List V)} {dc:Den Bool} {de:Den V} (nl:Nat) (Hi:JIt F ln iter di) (Hc:∀ C cl,Nm (F.comp sc cl C ci) ln' fr gs'→JIfs (F.comp sc cl C ci) ln' ifs dc) (He:∀ C cl,Nm (F.comp sc cl C ci) ln' fr gs'→JV (F.comp sc cl C ci) ln' (eval elt (compEnvC sc cl C F.E)) de)
  (X:Rel F ln ρ B s h) {o:MO} {s':S} (e:dComp di nl ci i0 dc de s=some (o,s')) {use:Option (Value→Sem Unit)} {pos2:Pos} {Q:Value→Shared→Prop} {E:Value→Shared→Prop} {σ:Shared} (hσ:σ.heap=h)
  (q:∀ ys D C ρ' B' σ',o=.list ys→Same σ σ'→CompEnd F ln ρ B h s' ys (.ref D) C σ'.heap ρ' B' D→compPost (model pw F.w) F.A E use Q (.ref D) C (.ok .next) σ') :
  wpAny (model pw F.w) F.A (comprehension (.ListComp elt [⟨.Name x px,iter,ifs,0⟩] sc pos) sc F.E pos2 (newList []) false (eval iter F.E) use) Q E σ:=by
 obtain⟨c1,c2,c3,c4⟩:=ciOk_at hci
 obtain⟨cl,hcl,hclk⟩:=closure_of n k (frOk hci)
 have hlt:∀ i∈ci,i < F.ca.length:=fun i hi=>(c4 i hi).elim fun y hy=>ex12 (n.ck i y hy).2.2 fun c h1 _=>(List.getElem?_eq_some_iff.mp h1).1
 have hN:∀ C,Nm (F.comp sc cl C ci) ln' fr gs':=fun C=>comp_names n k c1 hclk
 refine Den.bindE e fun xs s1 e1 e2=>obE e2 fun rs ed e3=>omE e3 fun ys e4 e5=>gdE e4 fun hyc hy=>?_
 refine wpAny_comprehension_free rfl hs hcl k.kind k.loc (W_wp (Hi ρ B s h X xs s1 e1) hσ (.refl σ) fun xv σ1 S1 W1=>W_wpO W1 rfl S1 fun it σ2 S2 ρ2 B2 st X2 io=>io.casesOn fun I fp P St ok=>?_)
 refine wpAny_newObj_type (wpAny_newFunctionEnv k.cell (by intro y hy;simp at hy) (fun h4 hns hsb=>?_) k.kind)
 dsimp only at hns hsb ⊢
 have hD0:σ2.heap.get? σ2.heap.objs.size=none:=get_size _
 have hC0:(σ2.heap.push (seqObj "list" [] 0)).get? (σ2.heap.push (seqObj "list" [] 0)).objs.size=none:=get_size _
 have hCs:(σ2.heap.push (seqObj "list" [] 0)).objs.size=σ2.heap.objs.size+1:=Heap.size_push ..
 have keep3:∀ b o,σ2.heap.get? b=some o→(σ2.heap.push (seqObj "list" [] 0)).get? b=some o:=fun b o e=>Heap.get?_push_of_some _ e
 have keep4:∀ b o,(σ2.heap.push (seqObj "list" [] 0)).get? b=some o→h4.get? b=some o:=fun b o e=>hsb.extBut b o (fun q=>no1 (hC0.symm.trans (q▸e))) (Heap.get?_push_of_some _ e)
 have hC2:σ2.heap.get? (σ2.heap.push (seqObj "list" [] 0)).objs.size=none:=Option.eq_none_iff_forall_ne_some.mpr fun o q=>no1 (hC0.symm.trans (keep3 _ _ q))
 generalize (σ2.heap.push (seqObj "list" [] 0)).objs.size=C at hns hsb hC0 hCs keep4 hC2 ⊢
 have hDC:σ2.heap.objs.size ≠ C:=by omega
 have X4:=X2.same fun b o e=>keep4 b o (keep3 b o e)
 have st4:=st.trans X4.1
 have hId:∀ {a},σ2.heap.get? a=none→I ≠ a:=fun e q=>ex22 (ok.cls _ _ ok.st) fun oI _ hI2 _=>no1 (e.symm.trans (q▸hI2))
 have ok4:IterAt F h ρ2 B2 h4 it xs I fp P St:=⟨ok.ref,ok.walks,(ok.walks F.A n.ar.hd).frame _ _ _ ok.st fun b _ o e=>keep4 b o (keep3 b o e),ok.item,ok.fresh,ok.own,ok.base,ok.cls,ok.foot⟩
 have L:=comp_loop (n:=n) (elt:=elt) (ifs:=ifs) (iter:=iter) (pos:=pos) (px:=px) hlt c3 hx hN (fun C=>Hc C cl (hN C)) (fun C=>He C cl (hN C)) ed hyc.1 hyc.2 X4.2 st4 (st.none hC2) (.at hC2 X2) hns (st.none hD0) (.at hD0 X2) (keep4 _ _ (get_push rfl)) hDC ok4 (fun z=>(X.nsz _ z).elim fun _ q=>no1 (ok.fresh.symm.trans q)) (hId hD0) (hId hC2)
 have loop:∀ σ3:Shared,σ3.heap=h4→Same σ σ3→codeAny (model pw F.w) F.A (.compLoop (.ListComp elt [⟨.Name x px,iter,ifs,0⟩] sc pos) 0 it (.ref σ2.heap.objs.size) (compEnvC sc cl C F.E)) (compPost (model pw F.w) F.A E use Q (.ref σ2.heap.objs.size) C) σ3:=fun σ3 h3 S3=>codeAny_mono (L σ3 h3) fun r σ' hr=>by
  induction r with
  | error _=>exact hr.2.elim
  | ok f=>exact ex02 hr fun S4 hr=>ex02 hr fun hf hr=>hf▸ex21 hr fun ρ' B' ce=>q rs.1 _ C ρ' B' σ' (so2 (P:=fun o _=>o=.list rs.1) e5 (congrArg MO.list hy.symm)) (S3.trans S4) (so2 (P:=fun _ s'=>CompEnd F ln ρ B h s' rs.1 (.ref _) C σ'.heap ρ' B' _) e5 ce)
 rw [ok.ref] at loop ⊢
 exact codeAny_compStart_list (loop _ rfl (S2.trans ⟨rfl,rfl,rfl⟩)) ((ok.walks F.A n.ar.hd).self 0 _ _ _ ok4.st (loop _ rfl (S2.trans ⟨rfl,rfl,rfl⟩)))
theorem CompEnd.C{s':S}{ys:List T}{acc:Value}{C D:Addr}{h5:Heap}{ρ':List Addr}{B':Base}(ce:CompEnd F ln ρ B h s' ys acc C h5 ρ' B' D)(X:Rel F ln ρ B s h):Lo F ρ' B' C:=⟨ce.c1,ce.c2,fun z=>(X.nsz _ z).elim fun _ q=>no1 (ce.c0.symm.trans q)⟩
theorem jComp(n:Nm F ln cn gs){sc:Scope}{ci:List Nat}{ln' fr gs':List Str}{elt iter:Expr}{ifs:List Expr}{x:Str}{px pos:Pos}{i0:Nat}(k:CompOk sc ln' fr gs')(hci:ciOk cn fr ci=true)(hx:ln'[i0]?=some x)(hs:∀ v,foldedSetIterable iter F.E v=pure v)
  {di:Den (List V)} {dc:Den Bool} {de:Den V} (nl:Nat) (Hi:JIt F ln iter di) (Hc:∀ C cl,Nm (F.comp sc cl C ci) ln' fr gs'→JIfs (F.comp sc cl C ci) ln' ifs dc) (He:∀ C cl,Nm (F.comp sc cl C ci) ln' fr gs'→JV (F.comp sc cl C ci) ln' (eval elt (compEnvC sc cl C F.E)) de) :
  JN F ln (eval (.ListComp elt [⟨.Name x px,iter,ifs,0⟩] sc pos) F.E) (dComp di nl ci i0 dc de):=by
 intro ρ B s h X o s' e σ hσ
 rw [eval_ListComp]
 refine comp_run (px:=px) (pos:=pos) n k hci hx hs nl Hi Hc He X e hσ fun ys D C ρ' B' σ' ho S1 ce=>?_
 rw [ho]
 refine ce.c3.elim fun m hm=>⟨m,hm,fun h6 hs6=>⟨S1.trans ⟨rfl,rfl,rfl⟩,?_⟩⟩
 have k6:∀ b o,b ≠ C→σ'.heap.get? b=some o→h6.get? b=some o:=fun b o q e=>hs6.extBut b o q e
 exact ex22 ce.d3 fun vs nD hD sq=>⟨ρ',B',ce.st.but ce.c0 k6,ce.rel.but (ce.C X) k6,D,rfl,ce.d0,ce.d2,ce.d1,vs,nD,k6 _ _ ce.ne hD,sq⟩
theorem swaps_comp(n:Nm F ln cn gs){sc:Scope}{elt:Expr}{g:List Comprehension}{y:Str}{py pos:Pos}{l:Nat}(i:Nat)(hy:ln[i]?=some y)(hl:(py.line == pos.line)=true)(hn:(sc.names.any fun x=>x.1 == y && (x.2 == .local || x.2 == .cell))=false):swapsWith (.ListComp elt g sc pos) (some (.Name y py)) l F.E=pure true:=by
 have h1:=(n.lk y (List.mem_of_getElem? hy)).1
 have h2:F.E.blockKind=.function:=by unfold Env.blockKind;rw [n.kind];rfl
 unfold swapsWith
 simp only [h1,h2]
 have h3:(py.line == (Expr.ListComp elt g sc pos).pos.line)=true:=hl
 rw [h3,hn]
 rfl
theorem swaps_cell(n:Nm F ln cn gs){sc:Scope}{elt:Expr}{g:List Comprehension}{y:Str}{py pos:Pos}{l:Nat}(i:Nat)(hy:cn[i]?=some y):swapsWith (.ListComp elt g sc pos) (some (.Name y py)) l F.E=pure false:=by
 have h1:=(n.ck i y hy).1
 unfold swapsWith
 simp only [h1]
 have:(F.E.blockKind == ScopeKind.function && some NameKind.cell == some NameKind.local)=false:=by cases F.E.blockKind <;> rfl
 rw [this]
 rfl
noncomputable def dAsgK(d:Den V)(dt:V→Den Unit):Den Fl:=d.bind fun v=>(dt v).bind fun _=>dNext
theorem jAsgComp(n:Nm F ln cn gs){sc:Scope}{ci:List Nat}{ln' fr gs':List Str}{elt iter:Expr}{ifs:List Expr}{x y:Str}{px py pos p:Pos}{i0:Nat}(hsw:swapsWith (.ListComp elt [⟨.Name x px,iter,ifs,0⟩] sc pos) (some (.Name y py)) p.line F.E=pure true)
  (k:CompOk sc ln' fr gs') (hci:ciOk cn fr ci=true) (hx:ln'[i0]?=some x) (hs:∀ v,foldedSetIterable iter F.E v=pure v) {dt:V→Den Unit} (Ht:JT F ln (assign (.Name y py) F.E) dt)
  {di:Den (List V)} {dc:Den Bool} {de:Den V} (nl:Nat) (Hi:JIt F ln iter di) (Hc:∀ C cl,Nm (F.comp sc cl C ci) ln' fr gs'→JIfs (F.comp sc cl C ci) ln' ifs dc) (He:∀ C cl,Nm (F.comp sc cl C ci) ln' fr gs'→JV (F.comp sc cl C ci) ln' (eval elt (compEnvC sc cl C F.E)) de) :
  JS F ln (exec (.Assign [.Name y py] (.ListComp elt [⟨.Name x px,iter,ifs,0⟩] sc pos) p) F.E) (dAsgK (dFz (dComp di nl ci i0 dc de)) dt):=by
 intro ρ B s h X f s' e σ hσ
 refine Den.bindE e fun v s1 e1 e2=>Den.bindE e2 fun _ s2 e3 e4=>Den.optE e1 fun o e5 e6=>omE e6 fun t e7 e8=>?_
 rw [exec_Assign_Name_used _ _ _ _ hsw]
 refine wpAny_bind (wpAny_standAt (wpAny_bind ?_))
 show wpAny _ F.A (do let _ ←comprehension (.ListComp elt [⟨.Name x px,iter,ifs,0⟩] sc pos) sc F.E _ (newList []) false (eval iter F.E) (some (assign (.Name y py) F.E))) _ _ σ
 refine wpAny_bind (wpAny_mono (comp_run (px:=px) (pos:=pos) (use:=some (assign (.Name y py) F.E)) (Q:=fun _ σ'=>Same σ σ'∧FlPost F ln ρ B h f s' .next σ'.heap) (E:=fun _ _=>False) n k hci hx hs nl Hi Hc He X e5 hσ fun ys D C ρ' B' σ' ho S1 ce=>?_) (fun _ σ' hq=>wpAny_pure (wpAny_pure hq)) fun _ _ e=>e)
 rw [ho] at e7
 refine ex22 ce.d3 fun vs nD hD sq=>?_
 have dN:¬F.N D:=fun z=>(X.nsz _ z).elim fun _ q=>no1 (ce.d0.symm.trans q)
 have XD:=ce.rel.join ce.d2 ce.d1 dN hD
 have SD:=ce.st.add (ob:=seqObj "list" vs nD) ce.d2 ce.d0
 have cC:Lo F ρ' (B'.add D (seqObj "list" vs nD)) C:=⟨ce.c1,(if_neg (Ne.symm ce.ne)).trans ce.c2,(ce.C X).nn⟩
 have hI:Is F.w (B'.add D (seqObj "list" vs nD)) (.ref D) (.list ys):=Is.of_list (Base.add_self ..) (sq.mono fun _ _ r=>r.mono (Base.add_le ce.d2))
 rw [←e8,←Option.some.inj e7] at e3
 refine W_wpU (Ht _ _ _ _ XD (.ref D) (.t (.list ys)) hI _ e3) rfl S1 fun σ3 S3 ρ3 B3 st3 X3=>ce.c3.elim fun m hm=>(Ns_some hm).elim fun oC hC=>?_
 exact⟨m,hm.at' fun o e=>st3.keep _ _ e ce.c1,fun h6 hs6=>⟨S3.trans ⟨rfl,rfl,rfl⟩,nextP e4 rfl ⟨ρ3,B3,(SD.trans st3).but ce.c0 fun b o q e=>hs6.extBut b o q e,X3.but (cC.step hC st3) fun b o q e=>hs6.extBut b o q e⟩⟩⟩
noncomputable def frzT(s:S)(ks:List Nat)(i:Nat):Option T:=(gd (i∈ks) ()).bind fun _=>(s.o[i]?).bind moT
noncomputable def mapO(φ:Nat→Option T):List Nat→Option (List T)
 | []=>some []
 | i::r=>(φ i).bind fun t=>(mapO φ r).map (t::·)
noncomputable def V.sub(φ:Nat→Option T):V→V
 | .t x=>.t x
 | .loc i=>(φ i).elim (.loc i) .t
 | .lst is=>(mapO φ is).elim (.lst is) fun ts=>.t (.list ts)
noncomputable def MO.sub(φ:Nat→Option T):MO→MO
 | .attrs kvs=>.attrs (kvs.map fun p=>(p.1,p.2.sub φ))
 | .lists xs=>.lists (xs.map (·.sub φ))
 | o=>o
noncomputable def frzO(s:S)(ks:List Nat)(i:Nat):MO:=if i∈ks then .gone else ((s.o[i]?).getD .gone).sub (frzT s ks)
noncomputable def S.frz(k:Nat)(ks:List Nat)(s:S):Option S:=
 gd (ks.all (fun i=>decide (k≤i))=true) ⟨s.ls.map (·.map (·.sub (frzT s ks))),s.cl.map (·.map (·.sub (frzT s ks))),(List.range s.o.length).map (frzO s ks)⟩
noncomputable def frzB(ρ:List Addr)(ks:List Nat)(h:Heap)(B:Base):Base:=fun a=>if a∈ks.filterMap (fun i=>ρ[i]?) then h.get? a else B a
variable {ks:List Nat}
theorem frzB_in{i:Nat}{a:Addr}(hi:i∈ks)(e:ρ[i]?=some a):frzB ρ ks h B a=h.get? a:=if_pos (List.mem_filterMap.mpr ⟨i,hi,e⟩)
theorem frzB_or{a:Addr}{P:Prop}(k1:∀ i,i∈ks→ρ[i]?=some a→frzB ρ ks h B a=h.get? a→P)(k2:frzB ρ ks h B a=B a→P):P:=by
 by_cases m:a∈ks.filterMap (fun i=>ρ[i]?)
 ·exact ex12 (List.mem_filterMap.mp m) fun i h1 h2=>k1 i h1 h2 (if_pos m)
 ·exact k2 (if_neg m)
theorem Rel.fUp(X:Rel F ln ρ B s h):B.Le (frzB ρ ks h B):=fun a o e=>frzB_or (fun _ _ _ q=>q.trans (X.le _ _ e)) fun q=>q.trans e
theorem Rel.frzT(X:Rel F ln ρ B s h){i:Nat}{t:T}(e:Mine.frzT s ks i=some t){a:Addr}(ha:ρ[i]?=some a):Is F.w (frzB ρ ks h B) (.ref a) t:=
 obE e fun _ e1 e=>gdE e1 fun hi _=>obE e fun o e1 e2=>ex12 (mo_is (X.led i a o ha e1) e2) fun ob ho k=>k _ X.fUp ((frzB_in hi ha).trans ho)
theorem Rel.frzL(X:Rel F ln ρ B s h){is:List Nat}{vs:List Value}(q:All2 (fun v i=>∃ x,ρ[i]?=some x∧v=Value.ref x) vs is):∀ {ts},mapO (Mine.frzT s ks) is=some ts→Seq F.w (frzB ρ ks h B) vs ts:=by
 induction q with
 | nil=>exact fun e=>smE e fun e=>e▸.nil
 | cons r _ ih=>exact fun e=>obE e fun t e1 e=>omE e fun ts e2 e=>ex12 r fun x hx hv=>e▸.cons (hv▸X.frzT e1 hx) (ih e2)
theorem Rel.vsub(X:Rel F ln ρ B s h){v:Value}{x:V}(r:RelV F.w ρ B v x):RelV F.w ρ (frzB ρ ks h B) v (x.sub (Mine.frzT s ks)):=by
 induction x with
 | t x=>exact Is.mono r X.fUp
 | loc i=>
  refine ex12 r fun a ha hv=>?_
  show RelV _ _ _ _ ((Mine.frzT s ks i).elim _ _)
  cases q:Mine.frzT s ks i with
  | none=>exact⟨a,ha,hv⟩
  | some t=>exact hv▸X.frzT q ha
 | lst is=>
  refine ex33 r fun a vs n hv ob l=>?_
  show RelV _ _ _ _ ((mapO (Mine.frzT s ks) is).elim _ _)
  cases q:mapO (Mine.frzT s ks) is with
  | none=>exact⟨a,vs,n,hv,X.fUp _ _ ob,l⟩
  | some ts=>exact hv▸Is.of_list (X.fUp _ _ ob) (X.frzL l q)
theorem Rel.osub(X:Rel F ln ρ B s h){v:Option Value}{l:List (Option V)}{i:Nat}(r:ORel F.w ρ B v (l[i]?.getD none)):ORel F.w ρ (frzB ρ ks h B) v ((l.map (·.map (·.sub (Mine.frzT s ks))))[i]?.getD none):=by
 rw [List.getElem?_map,show ((l[i]?.map (·.map (·.sub (Mine.frzT s ks)))).getD none)=(l[i]?.getD none).map (·.sub (Mine.frzT s ks)) from by cases l[i]? <;> rfl]
 revert r
 generalize l[i]?.getD none=x
 induction x with
 | none=>exact fun _=>by cases v <;> trivial
 | some x=>induction v with
  | none=>exact fun r=>r.elim
  | some v=>exact X.vsub
theorem rmap_at{α:Type}{n:Nat}{f:Nat→α}{i:Nat}{o:α}(e:((List.range n).map f)[i]?=some o):i < n∧f i=o:=by
 rw [List.getElem?_map] at e
 refine omE e fun j hj e=>?_
 have hl:=List.getElem?_eq_some_iff.mp hj
 refine⟨by simpa using hl.1,?_⟩
 have:=hl.2
 rw [List.getElem_range] at this
 rw [this];exact e
theorem Rel.osubO(X:Rel F ln ρ B s h){a:Addr}{o:MO}(L:ObjAt F.w ρ B h a o):ObjAt F.w ρ (frzB ρ ks h B) h a (o.sub (Mine.frzT s ks)):=by
 induction o with
 | list xs=>exact L.mono ⟨[],by simp⟩ X.fUp fun _ z=>z
 | dict xs=>exact L.mono ⟨[],by simp⟩ X.fUp fun _ z=>z
 | gone=>exact L
 | inst C d=>exact L
 | attrs kvs=>
  refine ex22 L fun es n o1 q=>⟨es,n,o1,?_⟩
  clear o1 L
  induction q with
  | nil=>exact .nil
  | cons r _ ih=>exact .cons ⟨r.1,X.vsub r.2⟩ ih
 | lists xs=>
  refine ex22 L fun es n o1 q=>⟨es,n,o1,?_⟩
  clear o1 L
  induction q with
  | nil=>exact .nil
  | cons r _ ih=>exact .cons (X.vsub r) ih
theorem Rel.frz(X:Rel F ln ρ B s h){s':S}(e:s.frz F.k ks=some s'):∃ B',Step F ρ B h ρ B' h∧Rel F ln ρ B' s' h:=gdE e fun hk e=>by
 rw [←e]
 have inρ:∀ {i a},ρ[i]?=some a→a∈F.own ρ:=fun h2=>.tail _ (List.mem_append_right _ (List.mem_of_getElem? h2))
 refine⟨frzB ρ ks h B,⟨⟨[],by simp,by simp⟩,X.fUp,fun _ _ e _=>e,fun _ o e=>⟨o,e⟩,fun a o e=>frzB_or (fun i _ h2 _=>.inr (.inr (inρ h2))) fun q=>.inl (q.symm.trans e)⟩,fun i o e=>X.fUp _ _ (X.st i o e),fun a o e=>frzB_or (fun _ _ _ q=>q.symm.trans e) fun q=>X.le a o (q.symm.trans e),X.up.trans X.fUp,
  fun a o e=>frzB_or (fun i h1 h2 _=>.inr (X.pre i a h2 (of_decide_eq_true (List.all_eq_true.mp hk i h1)))) fun q=>X.new a o (q.symm.trans e),X.nsz,X.nd,X.out,fun a ha=>frzB_or (fun i _ h2 _=>?_) fun q=>q.trans (X.bn a ha),fun i a o e e' hg=>?_,X.pre,ex12 X.loc fun m hm k=>⟨m,hm,fun i x e=>X.osub (k i x e)⟩,fun i c e=>ex12 (X.cel i c e) fun v hv k=>⟨v,hv,X.osub k⟩,?_,fun i a o e e'=>?_,X.kle⟩
 ·exact absurd (List.mem_of_getElem? h2) ((List.mem_cons.mp ha).elim (fun q hr=>(List.nodup_cons.mp X.nd).1 (List.mem_append_right _ (q▸hr))) fun ha hr=>X.sep.2.2 a ha hr)
 ·refine ex02 (rmap_at e') fun hl e2=>?_
  have hi:i ∉ ks:=fun hi=>hg (e2▸if_pos hi)
  refine frzB_or (fun j hj h2 _=>absurd hj fun hj=>hi ((List.getElem?_inj (List.getElem?_eq_some_iff.mp e).1 X.sep.2.1).mp (e.trans h2.symm)▸hj)) fun q=>q.trans (X.br i a _ e (List.getElem?_eq_getElem hl) fun q=>hg ?_)
  rw [←e2,frzO,if_neg hi,List.getElem?_eq_getElem hl,q];rfl
 ·show ρ.length=((List.range s.o.length).map _).length
  rw [List.length_map,List.length_range];exact X.len
 ·refine ex02 (rmap_at e') fun hl e2=>?_
  have L:=X.led i a _ e (List.getElem?_eq_getElem hl)
  rw [←e2,frzO]
  split
  ·exact L.at
  ·rw [List.getElem?_eq_getElem hl]
   exact X.osubO L
noncomputable def dFrz(kf:S→List Nat)(k:Nat)(d:Den Fl):Den Fl:=fun s=>(s.frz k (kf s)).bind d
theorem jsFrz(kf:S→List Nat){t:Sem Flow}{d:Den Fl}(H:JS F ln t d):JS F ln t (dFrz kf F.k d):=fun ρ B s h X f s' e=>
 obE e fun s1 e1 e2=>ex12 (X.frz e1) fun B1 S1 X1=>(H ρ B1 s1 h X1 f s' e2).mono fun fl h' q=>q.pre X.kle S1
noncomputable def allLoc:List V→Option (List Nat)
 | []=>some []
 | x::r=>x.loc?.bind fun i=>(allLoc r).map (i::·)
theorem allLoc_rel{w:World}{vs:List Value}{xs:List V}(q:All2 (RelV w ρ B) vs xs):∀ {is},allLoc xs=some is→All2 (fun v i=>∃ x,ρ[i]?=some x∧v=Value.ref x) vs is:=by
 induction q with
 | nil=>exact fun e=>smE e fun e=>e▸.nil
 | @cons v x _ _ r _ ih=>exact fun e=>obE e fun i e1 e=>omE e fun is e2 e=>e▸.cons (V.locE (P:=fun x=>RelV w ρ B v x→RelV w ρ B v (.loc i)) e1 id r) (ih e2)
noncomputable def dLst(d:Den (List V)):Den V:=d.opt fun _ xs=>(gd (xs.length≤16777216) xs).bind fun xs=>(allLoc xs).map .lst
theorem jLst{es:List Expr}{p:Pos}{d:Den (List V)}(hn:noStar es=true)(H:JArgs F ln es d):JV F ln (eval (.List es p) F.E) (dLst d):=fun ρ B s h X v s' e=>
 Den.optE e fun xs e1 e2=>obE e2 fun ys e2 e3=>gdE e2 fun hl hy=>omE e3 fun is e3 e4 σ hσ=>PyProof.Rows.List_ (W_wpO (W_spl hn (H ρ B s h X xs s' e1)) hσ (.refl σ) fun vs σ1 S1 ρ1 B1 st X1 r=>ex02 (X1.push (seqObj "list" vs 0) rfl) fun st2 X2=>
  wpAny_newObj_type ⟨⟨S1.g,S1.d,S1.o⟩,_,_,st.trans st2,X2,e4▸⟨_,vs,0,rfl,Base.add_self ..,allLoc_rel r (hy▸e3)⟩⟩ (by show vs.toArray.size≤sizeLine;rw [sizeL,List.size_toArray,r.len];exact hl))
end
section
variable {F:Frm} {ln cn gs:List Str} {ρ:List Addr} {B:Base} {s:S} {h:Heap}
noncomputable def RvAt(F:Frm)(h0:Heap)(ρ:List Addr)(B:Base)(h:Heap)(v:Value):Rv→Prop
 | .val x=>Is F.w B v x
 | .new o=>New F h0 ρ B h v o
abbrev JR(F:Frm)(ln:List Str)(t:Sem Value)(d:Den Rv):Prop:=J F ln (RvAt F) t d
theorem take_pre{α:Type}{l m:List α}{k:Nat}(hk:k=l.length)(h:m.take k=l.take k):∃ t,m=l++t:=by
 rw [hk,List.take_length] at h
 exact⟨m.drop l.length,by conv=>lhs;rw [←List.take_append_drop l.length m,h]⟩
theorem Fin.back{F':Frm}{h1 h':Heap}{rv:Rv}{s'':S}{v:Value}(X:Rel F ln ρ B s h)(hw:F'.w=F.w)(hk:F'.k=ρ.length)(hN:∀ a,F'.N a↔∃ o,h.get? a=some o)(hB:F'.B0=B)(hL:∀ a∈F'.L::F'.ca,h.get? a=none)
  (keep:∀ b o,h.get? b=some o→h1.get? b=some o) (f:Fin F' ρ B h1 rv s'' v h'):Out F ln (RvAt F) ρ B h rv { s with o:=s''.o } v h':=by
 refine ex21 f fun ρ' B' f=>(take_pre hk f.tk).elim fun t ht=>?_
 subst ht
 have fresh:∀ a,¬F'.N a→h.get? a=none:=fun a z=>Option.eq_none_iff_forall_ne_some.mpr fun o q=>z ((hN a).mpr ⟨o,q⟩)
 have htn:∀ a∈t,h.get? a=none:=fun a ha=>(List.getElem?_of_mem ha).elim fun j hj=>fresh a (f.pre (ρ.length+j) a (by rw [List.getElem?_append_right (by omega)];simpa using hj) (by omega))
 have kp:∀ b o,h.get? b=some o→b ∉ ρ→h'.get? b=some o:=fun b o e n=>f.keep b o (keep b o e) fun hm=>(List.mem_cons.mp hm).elim (fun q=>no1 ((hL _ (.head _)).symm.trans (q▸e))) fun hm=>(List.mem_append.mp hm).elim (fun hm=>no1 ((hL b (.tail _ hm)).symm.trans e)) n
 have bnew:∀ a o,B' a=some o→B a=some o∨h.get? a=none:=fun a o e=>(f.new a o e).imp (fun z=>hB▸z) (fresh a)
 have notN:∀ a,h.get? a=none→¬F.N a:=fun a e z=>(X.nsz a z).elim fun _ q=>no1 (e.symm.trans q)
 have own:∀ a∈F.L::F.ca,a ∉ ρ:=fun a ha hm=>(List.mem_cons.mp ha).elim (fun q=>(List.nodup_cons.mp X.nd).1 (List.mem_append_right _ (q▸hm))) fun ha=>X.sep.2.2 a ha hm
 have no:∀ {a},h.get? a=none→a ∉ F.own ρ:=fun e hm=>(X.out _ hm).elim fun _ y=>no1 (e.symm.trans y)
 refine⟨ρ++t,B',⟨⟨t,rfl,htn⟩,f.up,fun b o e n=>kp b o e fun hm=>n (.tail _ (List.mem_append_right _ hm)),fun b o e=>f.sz b o (keep b o e),fun a o e=>(bnew a o e).imp id .inl⟩,⟨fun i o e=>f.up _ _ (X.st i o e),f.le,X.up.trans f.up,fun a o e=>(bnew a o e).elim (X.new a o) fun z=>.inr (notN a z),fun a ha=>(X.nsz a ha).elim fun o e=>f.sz a o (keep a o e),?_,
  fun a ha=>(own_app ha).elim (fun ha=>(X.out a ha).elim fun o e=>f.sz a o (keep a o e)) fun ha=>f.out a (List.mem_append_right _ ha),fun a ha=>Option.eq_none_iff_forall_ne_some.mpr fun o q=>(bnew a o q).elim (fun z=>no1 ((X.bn a ha).symm.trans z)) fun z=>no z (List.mem_append_left ρ ha),f.br,fun i a e hi=>?_,
  ex12 X.loc fun m hm k=>⟨m,hm.at' fun o e=>kp _ o e (own _ (.head _)),fun i x e=>(k i x e).mono ⟨t,rfl⟩ f.up⟩,fun i c e=>ex12 (X.cel i c e) fun v hv k=>⟨v,ex12 hv fun o e1 e2=>⟨o,kp c o e1 (own c (.tail _ (List.mem_of_getElem? e))),e2⟩,k.mono ⟨t,rfl⟩ f.up⟩,f.len,fun i a o e e'=>hw▸f.led i a o e e',by rw [List.length_append];exact Nat.le_trans X.kle (Nat.le_add_right _ _)⟩,?_⟩
 ·rw [show F.own (ρ++t)=F.own ρ++t from by simp [Frm.own]]
  exact List.nodup_append.mpr ⟨X.nd,(List.nodup_append.mp f.nd).2.1,fun a ha b hb q=>no (htn b hb) (q▸ha)⟩
 ·rcases Nat.lt_or_ge i ρ.length with hl | hl
  ·rw [List.getElem?_append_left hl] at e
   exact X.pre i a e hi
  ·rw [List.getElem?_append_right hl] at e
   exact notN a (htn a (List.mem_of_getElem? e))
 ·have q:=f.res
  induction rv with
  | val x=>exact(show Is F'.w B' v x→Is F.w B' v x from hw▸id) q
  | new o=>exact q.elim fun a z=>⟨a,z.1,fresh a z.2.1,z.2.2.1,fun hm=>(own_app hm).elim (no (fresh a z.2.1)) fun hm=>z.2.2.2.1 (List.mem_append_right _ hm),hw▸z.2.2.2.2⟩
noncomputable def plook(ps:List Str)(ys:List V)(x:Str):Option V:=(ps.zip ys).lookup x
noncomputable def initS(ln cn ps:List Str)(ys:List V)(o:List MO):S:=⟨ln.map (plook ps ys),cn.map (plook ps ys),o⟩
noncomputable def Fl.out(n:Nat)(s':S):Fl→Rv×List MO
 | .ret rv=>(rv,s'.o)
 | .next=>(.val .none,((s'.cut n).getD s').o)
noncomputable def runB(ln cn ps:List Str)(bd:Nat→Den Fl)(ys:List V)(o:List MO):Option (Rv×List MO):=(bd o.length (initS ln cn ps ys o)).map fun p=>p.1.out o.length p.2
noncomputable def fcOkB(s:Scope)(ps ln cn gs:List Str):Bool:=
 s.kind == .function && !s.isCoroutine && !s.isGenerator && (ln.all fun x=>s.names.lookup x == some .local && x != ("__debug__":Str)) && (cn.all fun x=>s.names.lookup x == some .cell && x != ("__debug__":Str)) && (gs.all fun x=>s.names.lookup x == some .globalImplicit && x != ("__debug__":Str)) &&
 decide ln.Nodup && decide cn.Nodup && decide ps.Nodup && ps.all fun x=>s.names.lookup x == some .local || s.names.lookup x == some .cell
structure FcOk(s:Scope)(ps ln cn gs:List Str):Prop where
 kind:s.kind=.function
 co:s.isCoroutine=false
 gen:s.isGenerator=false
 lnk:∀ x∈ln,s.names.lookup x=some .local∧(x == ("__debug__":Str))=false
 cnk:∀ x∈cn,s.names.lookup x=some .cell∧(x == ("__debug__":Str))=false
 gnk:∀ x∈gs,s.names.lookup x=some .globalImplicit∧(x == ("__debug__":Str))=false
 nd:ln.Nodup
 cd:cn.Nodup
 pd:ps.Nodup
 psk:∀ x∈ps,s.names.lookup x=some .local∨s.names.lookup x=some .cell
theorem FcOk.of{s:Scope}{ps ln cn gs:List Str}(e:fcOkB s ps ln cn gs=true):FcOk s ps ln cn gs:=by
 unfold fcOkB at e
 simp only [Bool.and_eq_true,Bool.not_eq_true',List.all_eq_true,beq_iff_eq,bne_iff_ne,decide_eq_true_eq,Bool.or_eq_true] at e
 obtain⟨⟨⟨⟨⟨⟨⟨⟨⟨a,b⟩,c⟩,d⟩,e⟩,f⟩,g⟩,i⟩,j⟩,k⟩:=e
 exact⟨a,b,c,fun x hx=>⟨(d x hx).1,by simpa using (d x hx).2⟩,fun x hx=>⟨(e x hx).1,by simpa using (e x hx).2⟩,fun x hx=>⟨(f x hx).1,by simpa using (f x hx).2⟩,g,i,j,k⟩
theorem cellsFrom_some{x:Str}:∀ {names:List (Str×NameKind)} {n:Nat} {acc:List (Str×Addr)},((names.lookup x=some .cell)∨(acc.lookup x).isSome=true)→((cellsFrom n names acc).lookup x).isSome=true
 | [],_,_,h=>by
  rcases h with h | h
  ·simp at h
  ·exact h
 | (y,k)::r,n,acc,h=>by
  unfold cellsFrom
  have more:((List.lookup x r=some .cell)∨(acc.lookup x).isSome=true)→((if (k == NameKind.cell)=true then cellsFrom (n+1) r ((y,n)::acc) else cellsFrom n r acc).lookup x).isSome=true:=fun h=>by
   split
   ·refine cellsFrom_some (h.imp id fun z=>?_)
    rw [List.lookup_cons];cases x == y <;> simp [z]
   ·exact cellsFrom_some h
  rcases h with h | h
  ·rw [List.lookup_cons] at h
   cases q:x == y with
   | true=>
    rw [q] at h;cases h
    rw [if_pos (by rfl)]
    exact cellsFrom_some (.inr (by rw [List.lookup_cons,q];rfl))
   | false=>rw [q] at h;exact more (.inl h)
  ·exact more (.inr h)
theorem bindL_at{kf:Str→Option NameKind}{x:Str}(hx:kf x=some .local):∀ {l:List (Str×Value)} {m:Str→Option Value},(l.map (·.1)).Nodup→bindL kf l m x=(l.lookup x).or (m x)
 | [],m,_=>rfl
 | (n,v)::r,m,hd=>by
  have hd:=List.nodup_cons.mp hd
  show bindL kf r _ x=_
  rw [bindL_at hx hd.2,List.lookup_cons]
  cases q:x == n with
  | true=>
   have:x=n:=by simpa using q
   subst this
   have hn:r.lookup x=none:=by
    rw [List.lookup_eq_none_iff]
    intro p hp
    have:x ≠ p.1:=fun e=>hd.1 (by rw [e];exact List.mem_map.mpr ⟨p,hp,rfl⟩)
    simpa using this
   rw [hn,if_pos hx];simp
  | false=>
   have hne:x ≠ n:=by simpa using q
   have:(if kf n=some .local then fun y=>if y=n then some v else m y else m) x=m x:=by split <;> simp [hne]
   rw [this]
theorem bindC_at{kf:Str→Option NameKind}{x:Str}(hx:kf x ≠ some .local):∀ {l:List (Str×Value)} {m:Str→Option Value},(l.map (·.1)).Nodup→bindC kf l m x=(l.lookup x).or (m x)
 | [],m,_=>rfl
 | (n,v)::r,m,hd=>by
  have hd:=List.nodup_cons.mp hd
  show bindC kf r _ x=_
  rw [bindC_at hx hd.2,List.lookup_cons]
  cases q:x == n with
  | true=>
   have:x=n:=by simpa using q
   subst this
   have hn:r.lookup x=none:=by
    rw [List.lookup_eq_none_iff]
    intro p hp
    have:x ≠ p.1:=fun e=>hd.1 (by rw [e];exact List.mem_map.mpr ⟨p,hp,rfl⟩)
    simpa using this
   rw [hn,if_neg hx];simp
  | false=>
   have hne:x ≠ n:=by simpa using q
   have:(if kf n=some .local then m else fun y=>if y=n then some v else m y) x=m x:=by split <;> simp [hne]
   rw [this]
theorem plook_rel{w:World}{ps:List Str}{us:List Value}{ys:List V}{x:Str}(r:All2 (RelV w ρ B) us ys):ORel w ρ B ((ps.zip us).lookup x) (plook ps ys x):=by
 unfold plook
 induction r generalizing ps with
 | nil=>cases ps <;> trivial
 | @cons u y us ys q _ ih=>
  cases ps with
  | nil=>trivial
  | cons p ps=>
   rw [List.zip_cons_cons,List.zip_cons_cons,List.lookup_cons,List.lookup_cons]
   cases x == p with
   | true=>exact q
   | false=>exact ih
def Con(w:World)(r:Nat)(f:Addr)(sp:List V→List MO→Option (Rv×List MO)):Prop:=
 ∀ (F:Frm) (A:Around) (ln:List Str) (ρ:List Addr) (B:Base) (s:S) (h:Heap) (vs:List Value) (xs:List V) (rv:Rv) (o':List MO),F.w=w→Ar r A→Rel F ln ρ B s h→All2 (RelV w ρ B) vs xs→sp xs s.o=some (rv,o') →
  Mine.C w A (.call (.ref f) ⟨vs,[]⟩) h fun fl h'=>∃ v,fl=.ret v∧Out F ln (RvAt F) ρ B h rv { s with o:=o' } v h'
theorem W_callE{w:World}{A:Around}{f:Value}{vs:List Value}{Q:Value→Heap→Prop}(H:Mine.C w A (.call f ⟨vs,[]⟩) h fun fl h'=>∃ v,fl=.ret v∧Q v h'):W w A (call f vs) h Q:=
 W_call fun σ hσ=>codeAny_mono (H σ hσ) fun r s' p=>ex02 p fun S p=>⟨S,by
  induction r with
  | error e=>exact p.elim
  | ok f=>exact ex12 p fun v e q=>e▸q⟩
noncomputable def envC(q:Str)(sc:Scope)(L a:Addr)(cd:Value):Env:=newEnv sc L 3 (cellsFrom (L+1) sc.names []) (q++".<locals>.") (some a) cd none builtinsNs
noncomputable def Frm.call(F:Frm)(A:Around)(E:Env)(cn:List Str)(ρ:List Addr)(B:Base)(h:Heap)(r:Nat):Frm:={ w:=F.w,A:=A.deeper E,E:=E,L:=h.objs.size,ca:=cn.map fun x=>(E.cells.lookup x).getD 0,B0:=B,N:=fun a=>∃ o,h.get? a=some o,k:=ρ.length,r:=r }
abbrev Cells(E:Env)(cn:List Str):Prop:=∀ x∈cn,∃ c,E.cells.lookup x=some c
theorem call_ca{E:Env}(cells:Cells E cn){i:Nat}{c:Addr}(e:(cn.map fun x=>(E.cells.lookup x).getD 0)[i]?=some c):∃ x,cn[i]?=some x∧E.cells.lookup x=some c:=by
 rw [List.getElem?_map] at e
 exact omE e fun x hx e=>(cells x (List.mem_of_getElem? hx)).elim fun c' hc=>⟨x,hx,by rw [hc] at e;exact e▸hc⟩
theorem ca_nd{E:Env}(ap:E.cells.Pairwise fun x y=>x.2 ≠ y.2){l:List Str}(cells:Cells E l)(hd:l.Nodup):(l.map fun x=>(E.cells.lookup x).getD 0).Nodup:=by
 induction l with
 | nil=>exact List.nodup_nil
 | cons y l ih=>
  have hd:=List.nodup_cons.mp hd
  refine List.nodup_cons.mpr ⟨fun hm=>ex12 (List.mem_map.mp hm) fun z hz e=>?_,ih (fun x hx=>cells x (.tail _ hx)) hd.2⟩
  refine(cells y (.head _)).elim fun c1 h1=>(cells z (.tail _ hz)).elim fun c2 h2=>?_
  dsimp only at e
  rw [h1,h2] at e
  exact hd.1 (name_of_addr ap (mem_of_lookup h1) (mem_of_lookup ((show c2=c1 from e)▸h2))▸hz)
variable {st:Stmt} {ps:List Str} {a c:Addr} {q:Str} {E:Env} {A0:Around} {r:Nat}
theorem call_nm(ok:FcOk (fnS st) ps ln cn gs)(hE:E=envC q (fnS st) h.objs.size a (.ref c))(cells:Cells E cn)(hA:Ar (r+1) A0):Nm (F.call A0 E cn ρ B h r) ln cn gs:=by
 subst hE
 exact⟨ok.kind,rfl,rfl,rfl,ok.lnk,fun i x hx=>(cells x (List.mem_of_getElem? hx)).elim fun c hc=>⟨(ok.cnk x (List.mem_of_getElem? hx)).1,(ok.cnk x (List.mem_of_getElem? hx)).2,c,by
  show (cn.map _)[i]?=some c
  rw [List.getElem?_map,hx];simp [hc],hc⟩,ok.gnk,ok.nd,hA.deeper _⟩
theorem call_none{σ:Shared}{m cm:Str→Option Value}(cells:Cells E cn){s':Shared}(ic:InCallC σ σ.heap.objs.size m E.cells cm s'){x:Addr}(hx:x∈σ.heap.objs.size::(cn.map fun x=>(E.cells.lookup x).getD 0)):σ.heap.get? x=none:=Option.eq_none_iff_forall_ne_some.mpr fun o e=>
 (List.mem_cons.mp hx).elim (fun q=>absurd (Heap.lt_size (q▸e)) (Nat.lt_irrefl _)) fun hx=>(List.getElem?_of_mem hx).elim fun i hi=>ex12 (call_ca cells hi) fun x _ hx=>Nat.lt_irrefl _ (Nat.lt_trans (ic.above x _ (mem_of_lookup hx)) (Heap.lt_size e))
theorem call_rel{σ:Shared}{ln0:List Str}(X:Rel F ln0 ρ B s σ.heap)(ok:FcOk (fnS st) ps ln cn gs)(hE:E=envC q (fnS st) σ.heap.objs.size a (.ref c))(cells:Cells E cn){us:List Value}{ys:List V}(hul:us.length=ps.length)(urel:All2 (RelV F.w ρ B) us ys){s':Shared}
  (ic:InCallC σ σ.heap.objs.size (bindL E.kindOf (ps.zip us) fun _=>none) E.cells (bindC E.kindOf (ps.zip us) fun _=>none) s'):Rel (F.call A0 E cn ρ B σ.heap r) ln ρ B (initS ln cn ps ys s.o) s'.heap:=by
 have hkd:((ps.zip us).map (·.1)).Nodup:=by rw [List.map_fst_zip (Nat.le_of_eq hul.symm)];exact ok.pd
 have none':∀ {x},x∈σ.heap.objs.size::(cn.map fun x=>(E.cells.lookup x).getD 0)→σ.heap.get? x=none:=fun hx=>call_none cells ic hx
 have ex':∀ a∈ρ,∃ o,σ.heap.get? a=some o:=fun a ha=>X.out a (.tail _ (List.mem_append_right _ ha))
 have keep:=ic.toInCall.keep
 refine⟨X.st,fun a o e=>keep _ _ (X.le a o e),.refl B,fun a o e=>.inl e,fun a ha=>ha.elim fun o e=>⟨o,keep _ _ e⟩,List.nodup_cons.mpr ⟨fun hm=>?_,List.nodup_append.mpr ⟨ca_nd ic.apart cells ok.cd,X.sep.2.1,fun a ha b hb q=>(ex' b hb).elim fun o e=>no1 ((none' (.tail _ (q▸ha))).symm.trans e)⟩⟩,fun a ha=>?_,
  fun a ha=>Option.eq_none_iff_forall_ne_some.mpr fun o q=>no1 ((none' ha).symm.trans (X.le a o q)),X.br,fun i a e hi=>absurd hi (Nat.not_le.mpr (List.getElem?_eq_some_iff.mp e).1),⟨_,ic.toInCall.ns,fun i x e=>?_⟩,fun i c e=>?_,X.len,fun i a o e e'=>(X.led i a o e e').mono ⟨[],by simp⟩ (.refl B) fun ob z=>keep _ _ z,Nat.le_refl _⟩
 ·refine(List.mem_append.mp hm).elim (fun hm=>?_) fun hm=>(ex' _ hm).elim fun o e=>no1 ((none' (.head _)).symm.trans e)
  exact(List.getElem?_of_mem hm).elim fun i hi=>ex12 (call_ca cells hi) fun x _ hx=>Nat.lt_irrefl _ (ic.above x _ (mem_of_lookup hx))
 ·refine(List.mem_cons.mp ha).elim (fun e=>e▸Ns_some ic.toInCall.ns) fun ha=>(List.mem_append.mp ha).elim (fun ha=>?_) fun ha=>(ex' a ha).elim fun o e=>⟨o,keep _ _ e⟩
  exact(List.getElem?_of_mem ha).elim fun i hi=>ex12 (call_ca cells hi) fun x _ hx=>ex12 (ic.cell x a hx) fun o e _=>⟨o,e⟩
 ·have hloc:E.kindOf x=some .local:=hE▸(ok.lnk x (List.mem_of_getElem? e)).1
  rw [bindL_at hloc hkd,Option.or_none]
  show ORel _ _ _ _ ((ln.map (plook ps ys))[i]?.getD none)
  rw [List.getElem?_map,e]
  exact plook_rel urel
 ·refine ex12 (call_ca cells e) fun x hx hc=>?_
  have hk:E.kindOf x=some .cell:=hE▸(ok.cnk x (List.mem_of_getElem? hx)).1
  have:=ic.cell x c hc
  rw [bindC_at (by rw [hk];decide) hkd,Option.or_none] at this
  refine⟨_,this,?_⟩
  show ORel _ _ _ _ ((cn.map (plook ps ys))[i]?.getD none)
  rw [List.getElem?_map,hx]
  exact plook_rel urel
theorem con_of{w:World}{r:Nat}{a c:Addr}{st:Stmt}{n q:Str}{d m:Value}{ps ln cn gs:List Str}{bd:Nat→Den Fl}{fx:List V→Option (List V)}(FA:FnAt w a st n q d m c)(ok:FcOk (fnS st) ps ln cn gs)
  (hb:∀ ρ (B:Base) (s:Shared) vs xs ys,St w s.heap→(∀ i o,(objs w.params)[i]?=some o→B i=some o)→All2 (RelV w ρ B) vs xs→fx xs=some ys→∃ us,BindsTo s (fdOf st n q d m (.ref c)) ⟨vs,[]⟩ (ps.zip us)∧us.length=ps.length∧All2 (RelV w ρ B) us ys)
  (H:∀ F:Frm,F.w=w→F.r=r→Nm F ln cn gs→JS F ln (execs (fnB st) F.E) (bd F.k)):Con w (r+1) a fun xs o=>(fx xs).bind fun ys=>runB ln cn ps bd ys o:=by
 intro F A0 ln0 ρ B s h vs xs rv o' hw hA' X rel e σ hσ
 subst hσ
 subst hw
 refine obE e fun ys e1 e2=>omE e2 fun p eb e2=>?_
 have X0:=X.St
 have ho:=X0 a _ FA.fn
 refine FA.cd.elim fun oc z=>ex23 z fun cvs t hc1 hc2 hc3=>ex13 (hb ρ B σ vs xs ys X0 X.st rel e1) fun us hbd hul urel=>?_
 refine codeAny_call_function (by have:=hA'.dp;omega) ho rfl ok.co ok.gen rfl ⟨c,oc,cvs,t,rfl,X0 _ _ hc1,hc2,hc3⟩ (hbd _ _ _ _ (wpAny_newFunctionEnv_cells ok.kind (fun x hx=>?_) fun env he s' ic=>⟨X0.nolimit.keeps ic.toInCall.keep,?_⟩))
 ·exact(ok.psk x.1 (List.of_mem_zip hx).1).imp id fun z=>⟨z,cellsFrom_some (.inl z)⟩
 have he:env=envC q (fnS st) σ.heap.objs.size a (.ref c):=he
 have cells:Cells env cn:=fun x hx=>Option.isSome_iff_exists.mp (by rw [he];exact cellsFrom_some (.inl (ok.cnk x hx).1))
 have hl:env.locals=σ.heap.objs.size:=by rw [he];rfl
 rw [hl] at ic
 have HB:=H (F.call A0 env cn ρ B σ.heap r) rfl rfl (call_nm ok he cells hA') ρ B _ _ (call_rel (A0:=A0) (r:=r) X ok he cells hul urel ic)
 have kl:(F.call A0 env cn ρ B σ.heap r).k=s.o.length:=X.len
 rw [kl] at HB
 refine ex22 ic.done fun h' tk hs' keep=>?_
 have SM:Same σ s':=by rw [hs'];exact⟨rfl,rfl,rfl⟩
 have fin:∀ {v:Value} {s'':S} {h':Heap} {rv},Fin (F.call A0 env cn ρ B σ.heap r) ρ B s'.heap rv s'' v h'→Out F ln0 (RvAt F) ρ B σ.heap rv { s with o:=s''.o } v h':=fun f=>Fin.back (F':=F.call A0 env cn ρ B σ.heap r) X rfl rfl (fun _=>Iff.rfl) rfl (fun x hx=>call_none cells ic hx) ic.toInCall.keep f
 refine codeAny_func (W_wp (HB p.1 p.2 eb) rfl SM fun f τ T q=>⟨T,?_⟩)
 revert e2 q
 generalize p.1=g
 intro e2 q
 induction g with
 | ret rv'=>exact ex12 q fun v hf fn=>hf▸⟨v,rfl,so3 (P:=fun r=>Out F ln0 (RvAt F) ρ B σ.heap r.1 { s with o:=r.2 } v τ.heap) e2 (fin fn)⟩
 | next=>
  refine ex02 q fun hf q=>hf▸⟨.none,rfl,so3 (P:=fun r=>Out F ln0 (RvAt F) ρ B σ.heap r.1 { s with o:=r.2 } .none τ.heap) e2 (q.el fun ρ' B' st' X'=>?_)⟩
  show Out F ln0 (RvAt F) ρ B σ.heap (.val .none) { s with o:=((p.2.cut s.o.length).getD p.2).o } .none τ.heap
  cases hc:p.2.cut s.o.length with
  | none=>exact fin ((X'.fin (r:=.val .none) (v:=.none) Is.none).pre (Nat.le_refl _) st')
  | some s3=>exact fin ((X'.finCut (kl▸hc) (r:=.val .none) (v:=.none) Is.none).pre (Nat.le_refl _) st')
end
section
variable {F:Frm} {ln cn gs:List Str} {ρ:List Addr} {B:Base} {s:S} {h:Heap}
structure ConAt(w:World)(r:Nat)(f:Addr)(sp:List V→List MO→Option (Rv×List MO)):Prop where
 fn:∃ st n q d m c,FnAt w f st n q d m c
 con:Con w r f sp
noncomputable def dRun(sp:List V→List MO→Option (Rv×List MO))(xs:List V):Den Rv:=fun s=>(sp xs s.o).map fun p=>(p.1,{ s with o:=p.2 })
noncomputable def dCall(sp:List V→List MO→Option (Rv×List MO))(d:Den (List V)):Den Rv:=d.bind (dRun sp)
theorem RvAt.pre{ρ0:List Addr}{B0:Base}{h0:Heap}{ρ1:List Addr}{B1:Base}{h1 h2:Heap}{v:Value}{rv:Rv}(st:Step F ρ0 B0 h0 ρ1 B1 h1)(x:RvAt F h1 ρ B h2 v rv):RvAt F h0 ρ B h2 v rv:=by
 induction rv with
 | val=>exact x
 | new o=>exact x.elim fun a x=>⟨a,x.1,st.none x.2.1,x.2.2⟩
theorem W_con{f:Addr}{r:Nat}{sp:List V→List MO→Option (Rv×List MO)}(c:ConAt F.w r f sp)(hA:Ar r F.A)(X:Rel F ln ρ B s h){vs:List Value}{xs:List V}(q:All2 (RelV F.w ρ B) vs xs){rv:Rv}{s':S}(e:dRun sp xs s=some (rv,s')){ρ0:List Addr}{B0:Base}{h0:Heap}(st:Step F ρ0 B0 h0 ρ B h) :
  W F.w F.A (call (.ref f) vs) h (Out F ln (RvAt F) ρ0 B0 h0 rv s'):=
 omE e fun p e1 e2=>(W_callE (c.con F F.A ln ρ B s h vs xs p.1 p.2 rfl hA X q e1)).monoO fun v h3 ρ3 B3 S3 X3 r3=>so2 (P:=fun rv s'=>Out F ln (RvAt F) ρ0 B0 h0 rv s' v h3) e2 ⟨ρ3,B3,st.trans S3,X3,r3.pre st⟩
theorem jCallF(n:Nm F ln cn gs){x:Str}{np p:Pos}{as:List Expr}{f:Addr}{r:Nat}{sp:List V→List MO→Option (Rv×List MO)}{d:Den (List V)}(HN:JV F ln (eval (.Name x np) F.E) (dT (.con (.ref f))))(hn:noStar as=true)(c:ConAt F.w r f sp)(hr:r≤F.r)(H:JArgs F ln as d) :
  JR F ln (eval (.Call (.Name x np) as [] p) F.E) (dCall sp d):=fun ρ B s h X rv s' e=>
 Den.bindE e fun xs s1 e1 e2=>c.fn.elim fun st z=>z.elim fun nm z=>z.elim fun q z=>z.elim fun dd z=>ex21 z fun m cd FA=>
  W_callN (W_byName HN X fun ρ1 B1 h1 S1 X1=>W_cwF FA hn ((H ρ1 B1 s h1 X1 xs s1 e1).monoO fun vs h2 ρ2 B2 S2 X2 r2=>⟨X2.St,W_con c (n.ar.mono hr) X2 r2 e2 (S1.trans S2)⟩))
noncomputable def methB(P:Params)(C:Addr)(a:Str)(f:Addr):Bool:=findIn (KF P) (.ref C) a == some (some (.ref f)) && isFn (KF P) (.ref f)
noncomputable def dMeth(C:Addr)(cs:List Nat)(v:V):Den Unit:=fun s=>(s.flds v).bind fun p=>gd (p.1=C∧(fGet cs p.2).isNone=true) ((),s)
noncomputable def dCallM(C:Addr)(cs:List Nat)(sp:List V→List MO→Option (Rv×List MO))(dO:Den V)(d:Den (List V)):Den Rv:=dO.bind fun v=>(dMeth C cs v).bind fun _=>d.bind fun xs=>dRun sp (v::xs)
theorem jCallM(n:Nm F ln cn gs){o:Expr}{a:Str}{cs:List Nat}{ap p:Pos}{as:List Expr}{pl:Sem Bool}{C f:Addr}{r:Nat}{sp:List V→List MO→Option (Rv×List MO)}{dO:Den V}{d:Den (List V)}
  (he:eval (.Call (.Attribute o a ap) as [] p) F.E=(do
   let ov ←eval o F.E
   standAt ap.atName
   let (f,first) ←holding [ov] (getMethod ov a pl)
   callWith p f first (backTo p (starEach as F.E)) (backToKw p (keywordEach [] F.E))))
  (ha:a=⟨cs.toArray⟩) (hf:∀ P,methB P C a f=true) (hn:noStar as=true) (c:ConAt F.w r f sp) (hr:r≤F.r) (HO:JV F ln (eval o F.E) dO) (H:JArgs F ln as d):JR F ln (eval (.Call (.Attribute o a ap) as [] p) F.E) (dCallM C cs sp dO d):=by
 intro ρ B s h X rv s' e
 refine Den.bindE e fun v s1 e1 e2=>Den.bindE e2 fun _ s2 e3 e4=>Den.bindE e4 fun xs s3 e5 e6=>obE e3 fun p efl e3=>gdE e3 fun hc hs=>?_
 have hs:s1=s2:=congrArg Prod.snd hs
 rw [←hs] at e5
 refine c.fn.elim fun st z=>z.elim fun nm z=>z.elim fun q z=>z.elim fun dd z=>ex21 z fun m cd FA=>?_
 refine W_callM he ((HO ρ B s h X v s1 e1).monoO fun ov h1 ρ1 B1 S1 X1 r1=>X1.fldsE r1 (C:=p.1) (kvs:=p.2) efl fun ad dx es m' hv o1 o2 hC k=>?_)
 have z:=clsOk F.w.params hC
 have hf:=hf F.w.params
 unfold methB at hf
 rw [Bool.and_eq_true,beq_iff_eq,←hc.1] at hf
 have I:InstAt h1 ad (instObj p.1 dx) p.1 (some (dicObj es m')):=⟨o1,rfl,rfl,o2⟩
 have gl:getL a es=some none:=ha▸(k.find cs).2 (by simpa using hc.2)
 have W1:W F.w F.A (getMethod (.ref ad) a pl) h1 fun fx h2=>fx=(.ref f,[.ref ad])∧h2=h1:=fun σ hσ=>by
  subst hσ
  exact method_fn X1.St.kin I (plainGet_of z.get).1 (plainGet_of z.get).2 hf.1 (beq_iff_eq.mp hf.2) (by show (lookIn a (dictOf es m')).map _=_;rw [lookIn_dict,gl];rfl) ⟨Same.refl σ,rfl,rfl⟩
 rw [←hv]
 refine W1.mono fun fx h2 hfx=>?_
 rw [hfx.1,hfx.2]
 exact W_cwF FA hn ((H ρ1 B1 s1 _ X1 xs s3 e5).monoO fun vs h3 ρ2 B2 S2 X2 r2=>⟨X2.St,W_con c (n.ar.mono hr) X2 (.cons (hv.symm▸r1.step S2) r2) e6 (S1.trans S2)⟩)
noncomputable def Rv.tr?:Rv→Option T
 | .val x=>some x
 | .new o=>moT o
noncomputable def Rv.new?:Rv→Option MO
 | .val _=>none
 | .new o=>some o
noncomputable def dVal(d:Den Rv):Den V:=d.opt fun _ rv=>rv.tr?.map .t
theorem jVal{t:Sem Value}{d:Den Rv}(H:JR F ln t d):JV F ln t (dVal d):=fun ρ B s h X v s' e=>
 Den.optE e fun rv e1 e2=>omE e2 fun t e2 e3=>(H ρ B s h X rv s' e1).monoO fun a h1 ρ1 B1 S1 X1 r1=>e3▸by
  induction rv with
  | val x=>exact smE e2 fun e=>⟨ρ1,B1,S1,X1,e▸r1⟩
  | new o=>exact New.fz X1 X.nsz S1 r1 e2
noncomputable def dNew(d:Den Rv):Den V:=d.bind fun rv s=>rv.new?.map fun o=>(.loc s.o.length,s.pushO o)
theorem jNew{t:Sem Value}{d:Den Rv}(H:JR F ln t d):JV F ln t (dNew d):=fun ρ B s h X v s' e=>
 Den.bindE e fun rv s1 e1 e2=>omE e2 fun o e2 e3=>(H ρ B s h X rv s1 e1).monoO fun a h1 ρ1 B1 S1 X1 r1=>by
  induction rv with
  | val x=>exact no1 e2
  | new o'=>exact so2 (P:=fun v s'=>Out F ln (RV F) ρ B h v s' a h1) e3 (smE e2 fun e=>e▸New.push X1 X.nsz S1 r1)
theorem W_cwK{w:World}{A:Around}{E:Env}{f:Value}{p:Pos}{fst:List Value}{as:List Expr}{Q:Value→Heap→Prop}(hk:keepIn (KF w.params) f=true)(hn:noStar as=true)
  (H:Args w A E as h fun vs h'=>Mine.St w h'∧W w A (call f (fst++vs)) h' Q):W w A (callWith p f fst (backTo p (starEach as E)) []) h Q:=fun σ hσ=>by
 rw [trees_plain p hn]
 refine callWith_of (P:=(KF w.params).In) (by rw [trees_any];rfl) (keeps_K hk) ?_
 exact evalArgs_as hσ (Same.refl σ) hn H fun vs s' S q=>⟨q.1.kin,W.use q.2 rfl S fun _ _ S q=>⟨S,q⟩⟩
theorem RelV.closed{w:World}{v:Value}{x:V}(r:RelV w ρ B v x):x.below ρ.length=true:=by
 induction x with
 | t=>rfl
 | loc i=>exact ex12 r fun a e _=>decide_eq_true (List.getElem?_eq_some_iff.mp e).1
 | lst is=>exact ex33 r fun a vs n _ _ q=>List.all_eq_true.mpr fun i hi=>decide_eq_true ((List.getElem?_of_mem hi).elim fun j hj=>ex12 (q.some_left hj) fun _ _ z=>ex12 z fun b e _=>(List.getElem?_eq_some_iff.mp e).1)
theorem take_app{α:Type}{l t:List α}:(l++t).take l.length=l:=by simp
theorem ORel.cutTo{w:World}{B0:Base}{t:List Addr}{v0 v:Option Value}{x:Option V}(r0:ORel w ρ B0 v0 x)(r:ORel w (ρ++t) B v x):ORel w ρ B v x:=by
 induction x with
 | none=>cases v <;> trivial
 | some x=>induction v with
  | none=>exact r.elim
  | some v=>induction v0 with
   | none=>exact r0.elim
   | some v0=>have q:=RelV.take (k:=ρ.length) r (RelV.closed r0);rw [take_app] at q;exact q
theorem Rel.cutTo{t:List Addr}{B':Base}{h':Heap}{o':List MO}(X:Rel F ln ρ B s h)(X':Rel F ln (ρ++t) B' { s with o:=o' } h')(c:(o'.take ρ.length).all (moClosed ρ.length)=true):Rel F ln ρ B' { s with o:=o'.take ρ.length } h':=by
 have hsub:∀ a∈F.own ρ,a∈F.own (ρ++t):=fun a ha=>(show F.own (ρ++t)=F.own ρ++t from by simp [Frm.own])▸List.mem_append_left t ha
 have rat:∀ {i:Nat} {a},ρ[i]?=some a→(ρ++t)[i]?=some a:=fun e=>pre_get ⟨t,rfl⟩ e
 refine⟨X'.st,X'.le,X'.up,X'.new,X'.nsz,X'.nd.sublist (by simp [Frm.own]),fun a ha=>X'.out a (hsub a ha),X'.bn,fun i a o e e'=>takeE (l:=o') e' fun _ e'=>X'.br i a o (rat e) e',X.pre,ex12 X.loc fun m0 _ k0=>ex12 X'.loc fun m hm k=>⟨m,hm,fun i x e=>(k0 i x e).cutTo (k i x e)⟩,
  fun i c e=>ex12 (X.cel i c e) fun v0 _ k0=>ex12 (X'.cel i c e) fun v hv k=>⟨v,hv,k0.cutTo k⟩,?_,fun i a o e e'=>takeE (l:=o') e' fun _ e1=>?_,X.kle⟩
 ·have hl:(ρ++t).length=o'.length:=X'.len
  rw [List.length_append] at hl
  show ρ.length=(o'.take ρ.length).length
  rw [List.length_take];omega
 ·have q:=(X'.led i a o (rat e) e1).take (k:=ρ.length) (List.all_eq_true.mp c o (List.mem_of_getElem? e'))
  rw [take_app] at q;exact q
theorem Step.cutTo{ρ':List Addr}{B':Base}{h':Heap}(st:Step F ρ B h ρ' B' h'):Step F ρ B h ρ B' h':=⟨⟨[],by simp,by simp⟩,st.up,st.keep,st.sz,st.bn⟩
noncomputable def attrsT:List (List Nat×V)→Option (List (List Nat×T))
 | []=>some []
 | p::r=>p.2.tr?.bind fun y=>(attrsT r).map ((p.1,y)::·)
theorem attrsT_is{w:World}{es:List DictEntry}{fs:List (List Nat×V)}(q:Flds w ρ B es fs):∀ {kvs},attrsT fs=some kvs→All2 (Att w B) es kvs:=by
 induction q with
 | nil=>exact fun e=>smE e fun e=>e▸.nil
 | cons r _ ih=>exact fun e=>obE e fun y e1 e=>omE e fun ts e2 e=>r.2.trE e1 fun r2=>e▸.cons ⟨r.1,r2⟩ (ih e2)
noncomputable def heapI(h:Heap)(C:Addr):Heap:=(h.push emptyDict).push (instObj C h.objs.size)
theorem heapI_none(h:Heap):h.get? (h.objs.size+1)=none:=Option.eq_none_iff_forall_ne_some.mpr fun o q=>absurd (Heap.lt_size q) (Nat.not_lt.mpr (Nat.le_succ _))
theorem heapI_at(h:Heap)(C:Addr):(heapI h C).get? h.objs.size=some emptyDict∧(heapI h C).get? (h.objs.size+1)=some (instObj C h.objs.size)∧∀ b o,h.get? b=some o→(heapI h C).get? b=some o:=by
 have hs1:(h.push emptyDict).objs.size=h.objs.size+1:=Heap.size_push ..
 refine⟨Heap.get?_push_of_some _ (get_push rfl),?_,fun b o e=>Heap.get?_push_of_some _ (Heap.get?_push_of_some _ e)⟩
 have:=get_push (h:=h.push emptyDict) (o:=instObj C h.objs.size) rfl
 rwa [hs1] at this
theorem Rel.inst(X:Rel F ln ρ B s h)(C:Addr):Step F ρ B h (ρ++[h.objs.size]++[h.objs.size+1]) B (heapI h C)∧Rel F ln (ρ++[h.objs.size]++[h.objs.size+1]) B { s with o:=s.o++[.attrs []]++[.inst C s.o.length] } (heapI h C):=by
 have hp:=heapI_at h C
 refine ex02 (X.same hp.2.2) fun S0 X0=>?_
 have f1:=X.fresh (get_size h)
 have f2:=X.fresh (heapI_none h)
 have X1:=X0.led_push (o:=.attrs []) f1.1 f1.2.1 f1.2.2 ⟨[],0,hp.1,.nil⟩
 have X2:=X1.led_push (a:=h.objs.size+1) (o:=.inst C s.o.length) f2.1 (fun hm=>(own_app hm).elim f2.2.1 fun z=>Nat.succ_ne_self _ (List.mem_singleton.mp z)) f2.2.2 ⟨h.objs.size,by rw [←X.len,List.append_assoc,List.getElem?_append_right (Nat.le_refl _),Nat.sub_self];rfl,hp.2.1⟩
 refine⟨⟨⟨[h.objs.size,h.objs.size+1],List.append_assoc ..,fun a ha=>(List.mem_cons.mp ha).elim (fun e=>e▸get_size h) fun ha=>List.mem_singleton.mp ha▸heapI_none h⟩,.refl B,S0.keep,S0.sz,fun a o e=>.inl e⟩,X2⟩
noncomputable def T.nil:T→Bool
 | .none=>true
 | _=>false
noncomputable def Rv.nil:Rv→Bool
 | .val x=>x.nil
 | .new _=>false
theorem Rv.nilE{r:Rv}(e:r.nil=true):.val .none=r:=by
 induction r with
 | val x=>cases x <;> first | rfl | exact no3 e
 | new=>exact no3 e
noncomputable def dMk(C:Addr)(sp:List V→List MO→Option (Rv×List MO))(xs:List V):Den Nat:=fun s=>(sp (.loc (s.o.length+1)::xs) (s.o++[.attrs []]++[.inst C s.o.length])).bind fun p=>(gd (p.1.nil=true) p.2).map fun o'=>(s.o.length,{ s with o:=o' })
theorem dMkE{C:Addr}{sp:List V→List MO→Option (Rv×List MO)}{xs:List V}{m:Nat}{s':S}{P:Prop}(e:dMk C sp xs s=some (m,s'))(k:∀ o',sp (.loc (s.o.length+1)::xs) (s.o++[.attrs []]++[.inst C s.o.length])=some (.val .none,o')→s.o.length=m→{ s with o:=o' }=s'→P):P:=
 obE e fun p e1 e=>omE e fun o' e2 e3=>gdE e2 fun hn ho=>k o' (by rw [e1,←ho,Rv.nilE hn]) (congrArg Prod.fst e3) (congrArg Prod.snd e3)
noncomputable def mkB(P:Params)(C f:Addr):Bool:=clsList.contains C && keepIn (KF P) (.ref C) && findIn (KF P) (.ref C) "__init__" == some (some (.ref f)) && typeIn (KF P) (.ref f) == some (.type "function")
theorem mkB_at{P:Params}{C f:Addr}(hm:mkB P C f=true):C∈clsList∧keepIn (KF P) (.ref C)=true∧findIn (KF P) (.ref C) "__init__"=some (some (.ref f))∧typeIn (KF P) (.ref f)=some (.type "function"):=by
 unfold mkB at hm
 simp only [Bool.and_eq_true,beq_iff_eq,List.contains_iff_mem,and_assoc] at hm
 exact hm
theorem at_two{l:List Addr}{a b:Addr}:(l++[a]++[b])[l.length]?=some a∧(l++[a]++[b])[l.length+1]?=some b:=by
 constructor
 ·rw [List.append_assoc,List.getElem?_append_right (Nat.le_refl _),Nat.sub_self];rfl
 ·rw [show l.length+1=(l++[a]).length from by simp,List.getElem?_concat_length]
theorem W_mk{C f:Addr}{rn:Nat}{sp:List V→List MO→Option (Rv×List MO)}{vs:List Value}{xs:List V}(n:Nm F ln cn gs)(hm:∀ P,mkB P C f=true)(c:ConAt F.w rn f sp)(hr:rn+1≤F.r)(X:Rel F ln ρ B s h)(r:All2 (RelV F.w ρ B) vs xs){m:Nat}{s':S}(e:dMk C sp xs s=some (m,s')) :
  W F.w F.A (call (.ref C) vs) h fun v h'=>v=.ref (h.objs.size+1)∧Ou F ln (ρ++[h.objs.size]++[h.objs.size+1]) B (heapI h C) s' h':=by
 refine dMkE e fun o' eo _ hs=>?_
 have hm:=mkB_at (hm F.w.params)
 have z:=clsOk F.w.params hm.1
 refine ex02 (X.inst C) fun S1 X1=>W_callE fun σ hσ=>?_
 subst hσ
 refine make_core (h:=σ.heap) (g:=σ.gens) (d:=σ.drawn) (t:=σ.toks) (os:=σ.os) (makes_of X.St.kin z.makes) (looks_findIn X.St.kin hm.2.2.1) (fun self=>bind_fn X.St.kin self hm.2.2.2) (.inl rfl) ?_
 have hA:Ar rn (F.A.under (.builtin "type.__call__" ⟨.ref C::vs,[]⟩)):=by
  have a:=n.ar.mono hr
  refine⟨a.hd,?_,?_,a.gd⟩
  ·have:=a.dp;show F.A.depth+1+_ < _;omega
  ·have:=a.un
   have hu:(F.A.under (.builtin "type.__call__" ⟨.ref C::vs,[]⟩)).units=F.A.units+1:=rfl
   omega
 refine codeAny_mono (c.con F _ ln _ B _ _ (.ref (σ.heap.objs.size+1)::vs) (.loc (s.o.length+1)::xs) (.val .none) o' rfl hA X1 (.cons ⟨_,X.len▸at_two.2,rfl⟩ (r.mono fun _ _ q=>q.step S1)) eo _ rfl) fun rr σ' p=>ex02 p fun SM p=>?_
 induction rr with
 | error e=>exact p.elim
 | ok fl=>exact ex12 p fun v hf o=>hf▸o.el fun ρ' B' S2 X2 rv=>T.isNT rv rfl▸⟨rfl,⟨SM.g,SM.d,SM.o⟩,_,rfl,rfl,ρ',B',S2,hs▸X2⟩
noncomputable def dMkL(C:Addr)(sp:List V→List MO→Option (Rv×List MO))(d:Den (List V)):Den V:=d.bind fun xs=>(dMk C sp xs).bind fun m s=>some (.loc (m+1),s)
noncomputable def cutI(C:Addr)(m:Nat):Den V:=fun s=>(two? (s.o.drop m)).bind fun p=>p.1.attrs?.bind fun fs=>p.2.inst?.bind fun q=>(gd (q.1=C∧q.2=m∧(s.o.take m).all (moClosed m)=true) fs).bind fun fs=>(attrsT fs).map fun kvs=>(.t (.inst C kvs),{ s with o:=s.o.take m })
noncomputable def dMkT(C:Addr)(sp:List V→List MO→Option (Rv×List MO))(d:Den (List V)):Den V:=d.bind fun xs=>(dMk C sp xs).bind (cutI C)
theorem W_mkC(n:Nm F ln cn gs){x:Str}{np p:Pos}{as:List Expr}{C f:Addr}{r:Nat}{sp:List V→List MO→Option (Rv×List MO)}{d:Den (List V)}(HN:JV F ln (eval (.Name x np) F.E) (dT (.con (.ref C))))(hn:noStar as=true)(hm:∀ P,mkB P C f=true)(c:ConAt F.w r f sp)(hr:r+1≤F.r)(H:JArgs F ln as d)(X:Rel F ln ρ B s h)
  {xs:List V} {s1:S} (e1:d s=some (xs,s1)) {m:Nat} {s2:S} (e2:dMk C sp xs s1=some (m,s2)) {Q:Value→Heap→Prop} (q:∀ ρ2 B2 h2 h3,Step F ρ B h ρ2 B2 h2→Rel F ln ρ2 B2 s1 h2→Ou F ln (ρ2++[h2.objs.size]++[h2.objs.size+1]) B2 (heapI h2 C) s2 h3→Q (.ref (h2.objs.size+1)) h3) :
  W F.w F.A (eval (.Call (.Name x np) as [] p) F.E) h Q:=
 W_callN (W_byName HN X fun ρ1 B1 h1 S1 X1=>W_cwK (mkB_at (hm F.w.params)).2.1 hn ((H ρ1 B1 s h1 X1 xs s1 e1).monoO fun vs h2 ρ2 B2 S2 X2 r2=>⟨X2.St,(W_mk n hm c hr X2 r2 e2).mono fun v h3 z=>z.1▸q ρ2 B2 h2 h3 (S1.trans S2) X2 z.2⟩))
theorem jMkL(n:Nm F ln cn gs){x:Str}{np p:Pos}{as:List Expr}{C f:Addr}{r:Nat}{sp:List V→List MO→Option (Rv×List MO)}{d:Den (List V)}(HN:JV F ln (eval (.Name x np) F.E) (dT (.con (.ref C))))(hn:noStar as=true)(hm:∀ P,mkB P C f=true)(c:ConAt F.w r f sp)(hr:r+1≤F.r)(H:JArgs F ln as d) :
  JV F ln (eval (.Call (.Name x np) as [] p) F.E) (dMkL C sp d):=fun ρ B s h X v s' e=>
 Den.bindE e fun xs s1 e1 e2=>Den.bindE e2 fun m s2 e3 e4=>W_mkC n HN hn hm c hr H X e1 e3 fun ρ2 B2 h2 h3 S2 X2 o=>o.el fun ρ3 B3 S3 X3=>so (P:=fun v s'=>Out F ln (RV F) ρ B h v s' (.ref (h2.objs.size+1)) h3) e4
  ⟨ρ3,B3,(S2.trans (X2.inst C).1).trans S3,X3,h2.objs.size+1,dMkE e3 fun _ _ hm _=>pre_get S3.pre' (hm▸X2.len▸at_two.2),rfl⟩
theorem mk_tree{C m:Nat}{s1 s2 s':S}{v:V}(X2:Rel F ln ρ B s1 h){h3:Heap}(o:Ou F ln (ρ++[h.objs.size]++[h.objs.size+1]) B (heapI h C) s2 h3){o':List MO}(hm:s1.o.length=m)(hs:{ s1 with o:=o' }=s2)(e:cutI C m s2=some (v,s')):Out F ln (RV F) ρ B h v s' (.ref (h.objs.size+1)) h3:=by
 refine obE e fun p e1 e=>obE e fun fs e2 e=>obE e fun q e3 e=>obE e fun fs' e4 e=>omE e fun kvs e5 e6=>gdE e4 fun hc hf=>o.el fun ρ3 B3 S3 X3=>?_
 rw [←hf] at e5
 refine S3.pre'.elim fun t ht=>?_
 have hd:∀ j,s2.o[m+j]?=[p.1,p.2][j]?:=fun j=>by rw [←List.getElem?_drop,←two_at e1]
 have r0:ρ3[m]?=some h.objs.size:=pre_get ⟨t,ht⟩ (hm▸X2.len▸at_two.1)
 have r1:ρ3[m+1]?=some (h.objs.size+1):=pre_get ⟨t,ht⟩ (hm▸X2.len▸at_two.2)
 have b1:B3 h.objs.size=none:=X3.br _ _ _ r0 (hd 0) (MO.attrsE (P:=fun o=>o ≠ .gone) e2 fun z=>by cases z)
 have b2:B3 (h.objs.size+1)=none:=X3.br _ _ _ r1 (hd 1) (MO.instE (P:=fun o=>o ≠ .gone) e3 fun z=>by cases z)
 refine ex22 (MO.attrsE (P:=fun o=>ObjAt F.w ρ3 B3 h3 h.objs.size o→ObjAt F.w ρ3 B3 h3 h.objs.size (.attrs fs)) e2 id (X3.led _ _ _ r0 (hd 0))) fun es ne g1 k1=>?_
 refine ex12 (MO.instE (P:=fun o=>ObjAt F.w ρ3 B3 h3 (h.objs.size+1) o→ObjAt F.w ρ3 B3 h3 (h.objs.size+1) (.inst q.1 q.2)) e3 id (X3.led _ _ _ r1 (hd 1))) fun dx q1 g2=>?_
 rw [hc.2.1,r0] at q1
 rw [←Option.some.inj q1,hc.1] at g2
 have f1:=X2.fresh (get_size h)
 have f2:=X2.fresh (heapI_none h)
 rw [←hs,ht,List.append_assoc,List.append_assoc] at X3
 have hcut:=X2.cutTo X3 (by rw [X2.len,hm];rw [←hs] at hc;exact hc.2.2)
 have b3:(B3.add h.objs.size (dicObj es ne)) (h.objs.size+1)=none:=(if_neg (Ne.symm (Nat.ne_of_lt (Nat.lt_succ_self _)))).trans b2
 have X6:=(hcut.join (ob:=dicObj es ne) b1 f1.2.1 f1.2.2 g1).join (ob:=instObj C h.objs.size) b3 f2.2.1 f2.2.2 g2
 have S6:=((((X2.inst C).1.trans S3).cutTo).add (ob:=dicObj es ne) b1 (get_size h)).add (ob:=instObj C h.objs.size) b3 (heapI_none h)
 have up:B3.Le ((B3.add h.objs.size (dicObj es ne)).add (h.objs.size+1) (instObj C h.objs.size)):=(Base.add_le b1).trans (Base.add_le b3)
 exact so2 (P:=fun v s'=>Out F ln (RV F) ρ B h v s' (.ref (h.objs.size+1)) h3) e6 ⟨ρ,_,S6,by rw [X2.len,hm] at X6;rw [←hs];exact X6,Is.of_inst (Base.add_self ..) (Base.add_le b3 _ _ (Base.add_self ..)) ((attrsT_is k1 e5).mono fun _ _ q=>⟨q.1,q.2.mono up⟩)⟩
theorem jMkT(n:Nm F ln cn gs){x:Str}{np p:Pos}{as:List Expr}{C f:Addr}{r:Nat}{sp:List V→List MO→Option (Rv×List MO)}{d:Den (List V)}(HN:JV F ln (eval (.Name x np) F.E) (dT (.con (.ref C))))(hn:noStar as=true)(hm:∀ P,mkB P C f=true)(c:ConAt F.w r f sp)(hr:r+1≤F.r)(H:JArgs F ln as d) :
  JV F ln (eval (.Call (.Name x np) as [] p) F.E) (dMkT C sp d):=fun ρ B s h X v s' e=>
 Den.bindE e fun xs s1 e1 e2=>Den.bindE e2 fun m s2 e3 e4=>W_mkC n HN hn hm c hr H X e1 e3 fun ρ2 B2 h2 h3 S2 X2 o=>dMkE e3 fun o' _ hm hs=>(mk_tree X2 o hm hs e4).el fun ρ' B' st X r=>⟨ρ',B',S2.trans st,X,r⟩
def BI(F:Frm)(ln:List Str)(f:Value)(op:List V→Den Rv):Prop:=
 ∀ (ρ:List Addr) (B:Base) (s:S) (h:Heap),Rel F ln ρ B s h→∀ vs xs,All2 (RelV F.w ρ B) vs xs→∀ r s',op xs s=some (r,s')→W F.w F.A (call f vs) h (Out F ln (RvAt F) ρ B h r s')
theorem Out.preR{ρ0:List Addr}{B0:Base}{h0 h':Heap}{v:Value}{r:Rv}{s':S}(st:Step F ρ0 B0 h0 ρ B h)(o:Out F ln (RvAt F) ρ B h r s' v h'):Out F ln (RvAt F) ρ0 B0 h0 r s' v h':=o.el fun ρ' B' S X q=>⟨ρ',B',st.trans S,X,q.pre st⟩
theorem jB{id:String}{x:Str}{np p:Pos}{as:List Expr}{op:List V→Den Rv}{d:Den (List V)}(HN:JV F ln (eval (.Name x np) F.E) (dT (.con (.builtin id))))(hn:noStar as=true)(K:BI F ln (.builtin id) op)(H:JArgs F ln as d) :
  JR F ln (eval (.Call (.Name x np) as [] p) F.E) (d.bind op):=fun ρ B s h X rv s' e=>
 Den.bindE e fun xs s1 e1 e2=>W_callN (W_byName HN X fun ρ1 B1 h1 S1 X1=>W_cwB hn ((H ρ1 B1 s h1 X1 xs s1 e1).monoO fun vs h2 ρ2 B2 S2 X2 r2=>(K ρ2 B2 s1 h2 X2 vs xs r2 rv s' e2).mono fun v h3 o=>o.preR (S1.trans S2)))
theorem jBT{id:String}{x:Str}{np p:Pos}{as:List Expr}{op:List V→Den Rv}{d:Den (List V)}(HN:JV F ln (eval (.Name x np) F.E) (dT (.con (.type id))))(hn:noStar as=true)(K:BI F ln (.type id) op)(H:JArgs F ln as d) :
  JR F ln (eval (.Call (.Name x np) as [] p) F.E) (d.bind op):=fun ρ B s h X rv s' e=>
 Den.bindE e fun xs s1 e1 e2=>W_callN (W_byName HN X fun ρ1 B1 h1 S1 X1=>W_cwT hn ((H ρ1 B1 s h1 X1 xs s1 e1).monoO fun vs h2 ρ2 B2 S2 X2 r2=>(K ρ2 B2 s1 h2 X2 vs xs r2 rv s' e2).mono fun v h3 o=>o.preR (S1.trans S2)))
def MI(F:Frm)(ln:List Str)(a:Str)(c:String)(ok:S→V→Bool):Prop:=
 ∀ (ρ:List Addr) (B:Base) (s:S) (h:Heap),Rel F ln ρ B s h→∀ v x,RelV F.w ρ B v x→ok s x=true→∀ (pl:Sem Bool),W F.w F.A (getMethod v a pl) h fun fx h'=>fx=(.builtin c,[v])∧h'=h
noncomputable def dM(ok:S→V→Bool)(op:List V→Den Rv)(dO:Den V)(d:Den (List V)):Den Rv:=dO.bind fun v=>Den.bind (fun s=>gd (ok s v=true) ((),s)) fun _=>d.bind fun xs=>op (v::xs)
theorem jM{o:Expr}{a:Str}{ap p:Pos}{as:List Expr}{pl:Sem Bool}{c:String}{ok:S→V→Bool}{op:List V→Den Rv}{dO:Den V}{d:Den (List V)}
  (he:eval (.Call (.Attribute o a ap) as [] p) F.E=(do
   let ov ←eval o F.E
   standAt ap.atName
   let (f,first) ←holding [ov] (getMethod ov a pl)
   callWith p f first (backTo p (starEach as F.E)) (backToKw p (keywordEach [] F.E))))
  (hm:MI F ln a c ok) (K:BI F ln (.builtin c) op) (hn:noStar as=true) (HO:JV F ln (eval o F.E) dO) (H:JArgs F ln as d):JR F ln (eval (.Call (.Attribute o a ap) as [] p) F.E) (dM ok op dO d):=fun ρ B s h X rv s' e=>
 Den.bindE e fun v s1 e1 e2=>Den.bindE e2 fun _ s2 e3 e4=>Den.bindE e4 fun xs s3 e5 e6=>gdE e3 fun hok hs=>W_callM he ((HO ρ B s h X v s1 e1).monoO fun ov h1 ρ1 B1 S1 X1 r1=>(hm ρ1 B1 s1 h1 X1 ov v r1 hok pl).mono fun fx h2 hf=>by
  rw [hf.1,hf.2]
  have hs:s1=s2:=congrArg Prod.snd hs
  rw [←hs] at e5
  exact W_cwB hn ((H ρ1 B1 s1 _ X1 xs s3 e5).monoO fun vs h3 ρ2 B2 S2 X2 r2=>(K ρ2 B2 s3 h3 X2 (ov::vs) (v::xs) (.cons (r1.step S2) r2) rv s' e6).mono fun v h4 o=>o.preR (S1.trans S2)))
def Keeps(h h':Heap):Prop:=∀ b o,h.get? b=some o→h'.get? b=some o
def QV(F:Frm)(B:Base)(h:Heap)(r:T)(Q:Value→Heap→Prop):Prop:=∀ v h',Is F.w B v r→Keeps h h'→Q v h'
def QN(F:Frm)(ρ:List Addr)(B:Base)(h:Heap)(r:MO)(Q:Value→Heap→Prop):Prop:=∀ a h',h.get? a=none→ObjAt F.w ρ B h' a r→Keeps h h'→Q (.ref a) h'
theorem ret_val(X:Rel F ln ρ B s h){t:Sem Value}{r:T}(H:∀ Q,QV F B h r Q→W F.w F.A t h Q):W F.w F.A t h (Out F ln (RvAt F) ρ B h (.val r) s):=
 H _ fun v h' i k=>⟨ρ,B,(X.same k).1,(X.same k).2,i⟩
theorem ret_new(X:Rel F ln ρ B s h){t:Sem Value}{o:MO}(H:∀ Q,QN F ρ B h o Q→W F.w F.A t h Q):W F.w F.A t h (Out F ln (RvAt F) ρ B h (.new o) s):=
 H _ fun a h' ha ho k=>⟨ρ,B,(X.same k).1,(X.same k).2,a,rfl,ha,(X.fresh ha).1,(X.fresh ha).2.1,ho⟩
noncomputable def opV(f:S→List V→Option T):List V→Den Rv:=fun xs s=>(f s xs).map fun t=>(.val t,s)
noncomputable def opN(f:S→List V→Option MO):List V→Den Rv:=fun xs s=>(f s xs).map fun t=>(.new t,s)
theorem biV{f:Value}{op:S→List V→Option T}(H:∀ ρ B s h,Rel F ln ρ B s h→∀ vs xs,All2 (RelV F.w ρ B) vs xs→∀ r,op s xs=some r→∀ Q,QV F B h r Q→W F.w F.A (call f vs) h Q):BI F ln f (opV op):=fun ρ B s h X vs xs rel r s' e=>
 omE e fun t e1 e2=>so2 (P:=fun r s'=>W F.w F.A (call f vs) h (Out F ln (RvAt F) ρ B h r s')) e2 (ret_val X (H ρ B s h X vs xs rel t e1))
theorem biN{f:Value}{op:S→List V→Option MO}(H:∀ ρ B s h,Rel F ln ρ B s h→∀ vs xs,All2 (RelV F.w ρ B) vs xs→∀ r,op s xs=some r→∀ Q,QN F ρ B h r Q→W F.w F.A (call f vs) h Q):BI F ln f (opN op):=fun ρ B s h X vs xs rel r s' e=>
 omE e fun t e1 e2=>so2 (P:=fun r s'=>W F.w F.A (call f vs) h (Out F ln (RvAt F) ρ B h r s')) e2 (ret_new X (H ρ B s h X vs xs rel t e1))
noncomputable def one?{α:Type}:List α→Option α
 | [a]=>some a
 | _=>none
noncomputable def three?{α:Type}:List α→Option (α×α×α)
 | [a,b,c]=>some (a,b,c)
 | _=>none
theorem one_at{α:Type}{l:List α}{p:α}(h:one? l=some p):[p]=l:=by
 match l,h with
 | [a],h=>exact smE h fun h=>h▸rfl
 | [],h=>exact no1 h
 | _::_::_,h=>exact no1 h
theorem three_at{α:Type}{l:List α}{p:α×α×α}(h:three? l=some p):[p.1,p.2.1,p.2.2]=l:=by
 match l,h with
 | [a,b,c],h=>exact smE h fun h=>h▸rfl
 | [],h=>exact no1 h
 | [_],h=>exact no1 h
 | [_,_],h=>exact no1 h
 | _::_::_::_::_,h=>exact no1 h
theorem All2.headE{α β:Type}{R:α→β→Prop}{l:List α}{b:β}{m:List β}{P:Prop}(x:All2 R l (b::m))(k:∀ a l',a::l'=l→R a b→All2 R l' m→P):P:=by
 cases x with
 | cons r q=>exact k _ _ rfl r q
theorem All2.nilE{α β:Type}{R:α→β→Prop}{l:List α}(x:All2 R l []):[]=l:=by cases x;rfl
theorem All2.oneE{α β:Type}{R:α→β→Prop}{l:List α}{m:List β}{b:β}{P:Prop}(x:All2 R l m)(e:one? m=some b)(k:∀ a,[a]=l→R a b→P):P:=
 All2.headE (one_at e▸x:All2 R l [b]) fun a l' h r q=>k a (q.nilE▸h) r
theorem All2.twoE{α β:Type}{R:α→β→Prop}{l:List α}{m:List β}{b:β×β}{P:Prop}(x:All2 R l m)(e:two? m=some b)(k:∀ a a',[a,a']=l→R a b.1→R a' b.2→P):P:=
 All2.headE (two_at e▸x:All2 R l [b.1,b.2]) fun a l' h r q=>q.headE fun a' l2 h' r' q=>k a a' (by rw [q.nilE,h',h]) r r'
theorem All2.threeE{α β:Type}{R:α→β→Prop}{l:List α}{m:List β}{b:β×β×β}{P:Prop}(x:All2 R l m)(e:three? m=some b)(k:∀ a a' a'',[a,a',a'']=l→R a b.1→R a' b.2.1→R a'' b.2.2→P):P:=
 All2.headE (three_at e▸x:All2 R l [b.1,b.2.1,b.2.2]) fun a l' h r q=>q.headE fun a' l2 h' r' q=>q.headE fun a'' l3 h'' r'' q=>k a a' a'' (by rw [q.nilE,h'',h',h]) r r' r''
noncomputable def op1{α:Type}(f:S→V→Option α)(s:S)(xs:List V):Option α:=(one? xs).bind (f s)
noncomputable def op2{α:Type}(f:S→V→V→Option α)(s:S)(xs:List V):Option α:=(two? xs).bind fun p=>f s p.1 p.2
theorem biV1{f:Value}{op:S→V→Option T}(H:∀ ρ B s h,Rel F ln ρ B s h→∀ v x,RelV F.w ρ B v x→∀ r,op s x=some r→∀ Q,QV F B h r Q→W F.w F.A (call f [v]) h Q):BI F ln f (opV (op1 op)):=biV fun ρ B s h X vs xs rel r e Q q=>
 obE e fun x e1 e=>rel.oneE e1 fun v hv rv=>hv▸H ρ B s h X v x rv r e Q q
theorem biN1{f:Value}{op:S→V→Option MO}(H:∀ ρ B s h,Rel F ln ρ B s h→∀ v x,RelV F.w ρ B v x→∀ r,op s x=some r→∀ Q,QN F ρ B h r Q→W F.w F.A (call f [v]) h Q):BI F ln f (opN (op1 op)):=biN fun ρ B s h X vs xs rel r e Q q=>
 obE e fun x e1 e=>rel.oneE e1 fun v hv rv=>hv▸H ρ B s h X v x rv r e Q q
theorem biV2{f:Value}{op:S→V→V→Option T}(H:∀ ρ B s h,Rel F ln ρ B s h→∀ v x u y,RelV F.w ρ B v x→RelV F.w ρ B u y→∀ r,op s x y=some r→∀ Q,QV F B h r Q→W F.w F.A (call f [v,u]) h Q):BI F ln f (opV (op2 op)):=biV fun ρ B s h X vs xs rel r e Q q=>
 obE e fun p e1 e=>rel.twoE e1 fun v u hv rv ru=>hv▸H ρ B s h X v p.1 u p.2 rv ru r e Q q
noncomputable def insO{α:Type}(le:α→α→Bool)(x:α):List α→List α
 | []=>[x]
 | y::r=>if le x y=true then x::y::r else y::insO le x r
noncomputable def sortO{α:Type}(le:α→α→Bool):List α→List α
 | []=>[]
 | x::r=>insO le x (sortO le r)
theorem insO_perm{α:Type}{le:α→α→Bool}{x:α}{l:List α}:(insO le x l).Perm (x::l):=by
 induction l with
 | nil=>exact .refl _
 | cons y r ih=>
  unfold insO
  by_cases h:le x y=true
  ·rw [if_pos h]
  ·rw [if_neg h];exact(ih.cons y).trans (.swap x y r)
theorem sortO_perm{α:Type}{le:α→α→Bool}{l:List α}:(sortO le l).Perm l:=by
 induction l with
 | nil=>exact .refl _
 | cons x r ih=>exact insO_perm.trans (ih.cons x)
theorem insO_pw{α:Type}{le:α→α→Bool}(tr:∀ a b c,le a b=true→le b c=true→le a c=true)(tot:∀ a b,le a b=true∨le b a=true){x:α}{l:List α}:l.Pairwise (fun a b=>le a b=true)→(insO le x l).Pairwise fun a b=>le a b=true:=by
 induction l with
 | nil=>exact fun _=>List.pairwise_singleton ..
 | cons y r ih=>
  intro h
  have h':=List.pairwise_cons.mp h
  unfold insO
  by_cases q:le x y=true
  ·rw [if_pos q]
   exact List.pairwise_cons.mpr ⟨fun z hz=>(List.mem_cons.mp hz).elim (fun e=>e▸q) fun hz=>tr _ _ _ q (h'.1 z hz),h⟩
  ·rw [if_neg q]
   exact List.pairwise_cons.mpr ⟨fun z hz=>(List.mem_cons.mp (insO_perm.mem_iff.mp hz)).elim (fun e=>e▸(tot x y).resolve_left q) (h'.1 z),ih h'.2⟩
theorem sortO_pw{α:Type}{le:α→α→Bool}(tr:∀ a b c,le a b=true→le b c=true→le a c=true)(tot:∀ a b,le a b=true∨le b a=true){l:List α}:(sortO le l).Pairwise fun a b=>le a b=true:=by
 induction l with
 | nil=>exact .nil
 | cons x r ih=>exact insO_pw tr tot ih
theorem sortO_eq{α:Type}{le:α→α→Bool}(tr:∀ a b c,le a b=true→le b c=true→le a c=true)(tot:∀ a b,le a b=true∨le b a=true)(anti:∀ a b,le a b=true→le b a=true→a=b){l l':List α}(p:l'.Perm l)(o:l'.Pairwise fun a b=>le a b=true):l'=sortO le l:=
 List.Perm.eq_of_pairwise (le:=fun a b=>le a b=true) (fun a b _ _=>anti a b) o (sortO_pw tr tot) (p.trans sortO_perm.symm)
noncomputable def leI(a b:Int):Bool:=decide (a≤b)
noncomputable def leL(a b:List Nat):Bool:=!decide (b < a)
theorem sortI_eq{l l':List Int}(p:l'.Perm l)(o:l'.Pairwise (·≤·)):l'=sortO leI l:=
 sortO_eq (fun a b c x y=>by unfold leI at *;simp only [decide_eq_true_eq] at *;omega) (fun a b=>by unfold leI;simp only [decide_eq_true_eq];omega) (fun a b x y=>by unfold leI at *;simp only [decide_eq_true_eq] at *;omega) p (o.imp fun x=>by unfold leI;exact decide_eq_true x)
theorem leL_iff{a b:List Nat}:leL a b=true↔a≤b:=by unfold leL;simp
theorem sortL_eq{l l':List (List Nat)}(p:l'.Perm l)(o:l'.Pairwise fun a b=>leL a b=true):l'=sortO leL l:=
 sortO_eq (le:=leL) (fun a b c x y=>leL_iff.mpr (List.le_trans (leL_iff.mp x) (leL_iff.mp y))) (fun a b=>(List.le_total a b).imp leL_iff.mpr leL_iff.mpr) (fun a b x y=>List.le_antisymm (leL_iff.mp x) (leL_iff.mp y)) p o
noncomputable def asInts:List T→Option (List Int)
 | []=>some []
 | x::r=>x.int?.bind fun i=>(asInts r).map (i::·)
noncomputable def asStrs:List T→Option (List (List Nat))
 | []=>some []
 | x::r=>x.str?.bind fun i=>(asStrs r).map (i::·)
theorem asInts_is{w:World}{vs:List Value}{xs:List T}(q:Seq w B vs xs):∀ {is},asInts xs=some is→IntsAre vs is:=by
 induction q with
 | nil=>exact fun e=>smE e fun e=>e▸.nil
 | @cons v x l m r _ ih=>exact fun e=>obE e fun i e1 e=>omE e fun is e2 e=>Is.intE (T.intE (P:=fun y=>Is w B v y→Is w B v (.int i)) e1 id r) fun t hv=>e▸hv▸.cons _ _ (ih e2)
theorem asStrs_is{w:World}{vs:List Value}{xs:List T}(q:Seq w B vs xs):∀ {is},asStrs xs=some is→StrsAre vs (is.map fun x=>⟨x.toArray⟩):=by
 induction q with
 | nil=>exact fun e=>smE e fun e=>e▸.nil
 | @cons v x l m r _ ih=>exact fun e=>obE e fun i e1 e=>omE e fun is e2 e=>Is.strE (T.strE (P:=fun y=>Is w B v y→Is w B v (.str i)) e1 id r) fun t hv=>e▸hv▸.cons _ _ (ih e2)
theorem ints_seq{w:World}{vs:List Value}{is:List Int}(q:IntsAre vs is):Seq w B vs (is.map .int):=by
 induction q with
 | nil=>exact .nil
 | cons i t _ ih=>exact .cons (.int i t) ih
theorem strs_seq{w:World}{vs:List Value}{ss:List Str}(q:StrsAre vs ss):Seq w B vs (ss.map fun x=>.str x.cps.toList):=by
 induction q with
 | nil=>exact .nil
 | cons x t _ ih=>exact .cons (by have:=Is.str (w:=w) (B:=B) x.cps.toList t;simpa using this) ih
noncomputable def sortT(xs:List T):Option (List T):=(gd (xs.length < 64) xs).bind fun xs=>((asInts xs).map fun is=>(sortO leI is).map .int).or ((asStrs xs).map fun ss=>(sortO leL ss).map .str)
noncomputable def S.its(s:S)(v:V):Option (List T):=(s.seq v).or ((s.dic v).map fun d=>d.map fun p=>p.1.t)
theorem W_collect(X:Rel F ln ρ B s h){v:Value}{x:V}(r:RelV F.w ρ B v x){xs:List T}(e:s.its x=some xs)(hl:xs.length≤16777216){A:Around}(hA:A.handled=none){σ:Shared}(hσ:σ.heap=h){Q:List Value→Shared→Prop}{E:Value→Shared→Prop}
  (q:∀ vs h' tk,Keeps h h'→Seq F.w B vs xs→Q vs { σ with heap:=h',toks:=tk }):wpAny (model pw F.w) A (collect v) Q E σ:=by
 subst hσ
 refine orE e (fun e=>X.seqE r e fun a c vs n hv hc oa sq=>hv▸wpAny_collect_seq a hc oa rfl rfl (fun h' k=>q vs h' σ.toks k sq) (by rw [List.size_toArray,sq.len,sizeL];exact hl)) fun e=>omE e fun d ed e=>X.dicE r ed fun a es m hv zd oa sa=>?_
 have hat:=Dic.dictOf (prog:=pw) oa sa zd
 have el:(kvsOf es d).length=(d.map fun p=>p.1.t).length:=by rw [kvsOf_len sa,List.length_map]
 rw [←hv]
 refine kdu_collect (kdl_dict (knd:=mixKind pw F.w) (kvs:=kvsOf es d) (ep:=m) zd.1) hA hat (by rw [el,e,sizeL];exact hl) fun h' tk acc k ha=>q _ h' tk k (e▸.of_len (by rw [←el];exact ha.1) fun i v x e1 e2=>?_)
 refine ex22 (ha.2 i v (by rw [←Array.getElem?_toList];exact e1)) fun kk y e3 e4=>ex12 ((kvsOf_all sa).some_right e3) fun p hp e5=>?_
 rw [List.getElem?_map,hp] at e2
 exact smE e2 fun e2=>e2▸K.t_is (e5.1▸e4)
theorem sorted_keep{σ:Shared}{a:Addr}{vs:List Value}(ho:σ.heap.get? a=some (PyProof.Rows.seqObj "list" vs.toArray 0))(out:Array Value):(∀ b o,b ≠ a→σ.heap.get? b=some o→(sortedHeap σ.heap a vs out).get? b=some o)∧∃ n,(sortedHeap σ.heap a vs out).get? a=some (Mine.seqObj "list" out.toList n):=by
 have ha:=Heap.lt_size ho
 have h1:=get?_update_seq ho (fun _=>#[])
 have h2:((((σ.heap.update a (Obj.mapSeq fun _=>#[])).push (PyProof.Rows.seqObj "tuple" vs.toArray 0)).push (PyProof.Rows.seqObj "list" #[] 0))).get? a=_:=Heap.get?_push_of_some _ (Heap.get?_push_of_some _ h1)
 have h3:∃ n,(sortedHeap σ.heap a vs out).get? a=some (PyProof.Rows.seqObj "list" out n):=⟨_,get?_update_seq h2 (fun _=>out)⟩
 refine⟨fun b o hb e=>?_,h3.elim fun n3 h3=>⟨n3,by rw [h3]⟩⟩
 unfold sortedHeap
 rw [Heap.get?_update_other _ _ (Ne.symm hb)]
 exact Heap.get?_push_of_some _ (Heap.get?_push_of_some _ (by rw [Heap.get?_update_other _ _ (Ne.symm hb)];exact e))
theorem rising_pw{p:Str}{l:List Str}:risingS p l=true→(p::l).Pairwise fun a b=>leL a.cps.toList b.cps.toList=true:=by
 induction l generalizing p with
 | nil=>exact fun _=>List.pairwise_singleton ..
 | cons y l ih=>
  intro hr
  unfold risingS at hr
  rw [Bool.and_eq_true] at hr
  have a1:=ih hr.2
  have a2:leL p.cps.toList y.cps.toList=true:=by have:=hr.1;rw [ltCps_eq] at this;exact this
  exact List.pairwise_cons.mpr ⟨fun z hz=>(List.mem_cons.mp hz).elim (fun e=>e▸a2) fun hz=>leL_iff.mpr (List.le_trans (leL_iff.mp a2) (leL_iff.mp ((List.pairwise_cons.mp a1).1 z hz))),a1⟩
theorem strs_map(ss:List (List Nat)):ss.map ((fun x:Str=>x.cps.toList)∘fun x=>(⟨x.toArray⟩:Str))=ss:=by
 rw [List.map_congr_left (g:=id) fun x _=>by simp];simp
theorem W_lsort{w:World}{a:Addr}{vs:List Value}{xs ys:List T}{A:Around}{σ:Shared}(ho:σ.heap.get? a=some (PyProof.Rows.seqObj "list" vs.toArray 0))(sq:Seq w B vs xs)(e:sortT xs=some ys){Q:Value→Shared→Prop}{E:Value→Shared→Prop}
  (q:∀ vs' h' n,(∀ b o,b ≠ a→σ.heap.get? b=some o→h'.get? b=some o)→h'.get? a=some (Mine.seqObj "list" vs' n)→Seq w B vs' ys→Q .none { σ with heap:=h' }):wpAny (model pw w) A (call (.builtin "list.sort") [.ref a]) Q E σ:=by
 refine obE e fun xs' e1 e=>gdE e1 fun h64 ex=>?_
 rw [←ex] at e
 have h64':vs.length < 64:=by rw [sq.len];exact h64
 have fin:∀ (out:Array Value),Seq w B out.toList ys→Q .none { σ with heap:=sortedHeap σ.heap a vs out }:=fun out h=>(sorted_keep ho out).2.elim fun n e1=>q _ _ n (sorted_keep ho out).1 e1 h
 refine orE e (fun e=>omE e fun is ei e=>wpAny_call_entry slot_list_sort ⟨_,ho,rfl⟩ entry_list_sort (list_sort_tree ho (asInts_is sq ei) h64' fun out ns' a1 a2 a3=>⟨_,rfl,fin out (e▸sortI_eq a2 a3▸ints_seq a1)⟩) (args_list_sort _)) fun e=>omE e fun ss es e=>?_
 have hS:=asStrs_is sq es
 refine wpAny_call_entry slot_list_sort ⟨_,ho,rfl⟩ entry_list_sort (list_sort_treeK strKind_oneLt ho hS.keysOf (fun v₁ v₂ rest e=>keyKind_strs (by rw [←e];exact hS)) h64' fun st' hp hs=>⟨_,rfl,fin _ ?_⟩) (args_list_sort _)
 refine ex13 (sorted_out_str hS hp hs) fun ss' h1 h2 h3=>?_
 have z:=strs_seq (w:=w) (B:=B) h1
 have pws:ss'.Pairwise fun a b=>leL a.cps.toList b.cps.toList=true:=by
  cases ss' with
  | nil=>exact .nil
  | cons p l=>exact rising_pw h3
 have e2:ss'.map (fun x=>x.cps.toList)=sortO leL ss:=sortL_eq (by have:=h2.map fun x=>x.cps.toList;rwa [List.map_map,strs_map] at this) (List.pairwise_map.mpr pws)
 rw [←e,←e2,List.map_map]
 exact z
noncomputable def opSorted:S→V→Option MO:=fun s x=>((s.its x).bind sortT).map .list
theorem biSorted(n:Nm F ln cn gs):BI F ln (.builtin "sorted") (opN (op1 opSorted)):=biN1 fun ρ B s h X v x rv r e Q q=>by
 refine omE e fun ys e1 e=>obE e1 fun zs e2 e3=>?_
 have hl:zs.length < 64:=obE e3 fun _ e4 _=>gdE e4 fun h _=>h
 intro σ hσ
 refine Calls.call_function_entry kind_sorted plain_sorted entry_sorted (args_sorted1 _) ?_
 unfold Builtin.«sorted»
 refine wpAny_bind (m:=checkCount "sorted" 1 1 _) (wpAny_pure ?_)
 refine wpAny_bind (W_collect (A:=F.A.in1) X rv e2 (by omega) n.ar.hd hσ fun vs h' tk k sq=>?_)
 refine wpAny_bind (wpAny_newList ?_ (by rw [sq.len,sizeL];omega))
 dsimp only
 refine wpAny_bind (wpAny_holding (W_lsort (B:=B) (σ:={ σ with heap:=h'.push (PyProof.Rows.seqObj "list" vs.toArray 0),toks:=tk }) (get_push rfl) sq e3 fun vs' h2 m k2 o2 sq2=>?_))
 have hf:h.get? h'.objs.size=none:=Option.eq_none_iff_forall_ne_some.mpr fun o z=>no1 ((get_size h').symm.trans (k _ _ z))
 exact wpAny_pure ⟨_,rfl,⟨rfl,rfl,rfl⟩,q _ _ hf (e▸⟨vs',m,o2,sq2⟩) fun b o e=>k2 b o (fun q=>no1 (hf.symm.trans (q▸e))) (Heap.get?_push_of_some _ (k b o e))⟩
noncomputable def S.lits(s:S)(v:V):Option (List T):=(s.lst v).or ((s.dic v).map fun d=>d.map fun p=>p.1.t)
theorem fp_lt{a:Addr}{o o2:Obj}(ha:h.get? a=some o)(b:Addr)(hb:b∈[h.objs.size,a]):b < (h.push o2).objs.size:=by
 rw [Heap.size_push]
 exact(List.mem_cons.mp hb).elim (fun e=>e▸Nat.lt_succ_self _) fun hb=>List.mem_singleton.mp hb▸Nat.lt_succ_of_lt (Heap.lt_size ha)
theorem iter_lits(X:Rel F ln ρ B s h){v:Value}{x:V}(r:RelV F.w ρ B v x){xs:List T}(e:s.lits x=some xs){A:Around}(hA:A.handled=none){σ:Shared}(hσ:σ.heap=h){Q:Value→Shared→Prop}{E:Value→Shared→Prop}
  (q:∀ h' I fp P St,Keeps h h'→h.get? I=none→Walks pw F.w A I fp [I] xs.length P St→St 0 h'→(∀ b∈fp,b < h'.objs.size)→(∀ i v,P i v→∃ x,xs[i]?=some x∧Is F.w B v x)→Q (.ref I) { σ with heap:=h' }):wpAny (model pw F.w) A (pyIter v) Q E σ:=by
 subst hσ
 refine orE e (fun e=>X.lstE r e fun a vs n hv oa sa=>?_) fun e=>omE e fun d ed e=>X.dicE r ed fun a es m hv zd oa sa=>?_
 ·exact hv▸wpAny_pyIter_list ⟨_,oa,rfl,_,rfl⟩ (q _ σ.heap.objs.size [σ.heap.objs.size,a] (fun i v=>vs.toArray[i]?=some v) (fun i h'=>h'.IsListIter σ.heap.objs.size a i∧h'.IsList a vs.toArray) (fun b o e=>Heap.get?_push_of_some _ e) (get_size _) (((List.size_toArray ..).trans sa.len:vs.toArray.size=_)▸Walks.list hA _ a (ne_size oa) vs.toArray)
   ⟨⟨_,get_push rfl,rfl,rfl⟩,⟨_,Heap.get?_push_of_some _ oa,rfl,_,rfl⟩⟩ (fp_lt oa) fun i v e=>sa.some_right ((List.getElem?_toArray ..).symm.trans e))
 ·have el:(kvsOf es d).length=xs.length:=by rw [kvsOf_len sa,←e,List.length_map]
  exact hv▸wpAny_pyIter_dict (knd:=mixKind pw F.w) zd.1 (Dic.dictOf oa sa zd) (q _ σ.heap.objs.size [σ.heap.objs.size,a] (fun i v=>∃ k x,(kvsOf es d)[i]?=some (k,x)∧(mixKind pw F.w).is k v=true) (fun i h'=>h'.IsKeyIter σ.heap.objs.size a i (kvsOf es d).length m∧h'.DictAt (mixKind pw F.w) a (kvsOf es d) m) (fun b o e=>Heap.get?_push_of_some _ e) (get_size _)
   (el▸Walks.dictKeys (knd:=mixKind pw F.w) hA _ a (ne_size oa) (kvsOf es d) m) ⟨⟨_,get_push rfl,rfl,rfl⟩,Dic.dictOf (Heap.get?_push_of_some _ oa) sa zd⟩ (fp_lt oa) fun i v e1=>ex22 e1 fun k x e1 e2=>ex12 ((kvsOf_all sa).some_right e1) fun p hp e3=>⟨p.1.t,by rw [←e,List.getElem?_map,hp];rfl,K.t_is (e3.1▸e2)⟩)
theorem asInts_at{xs:List T}:∀ {is:List Int},asInts xs=some is→∀ {i:Nat} {x:T},xs[i]?=some x→is[i]?=some (is.getD i 0)∧.int (is.getD i 0)=x:=by
 induction xs with
 | nil=>intro is e i x hx;simp at hx
 | cons y ys ih=>
  intro is e i x hx
  refine obE e fun n e1 e=>omE e fun ts e2 e=>?_
  rw [←e]
  induction i with
  | zero=>exact smE hx fun h=>⟨rfl,h▸T.intE (P:=fun y=>.int n=y) e1 rfl⟩
  | succ i=>exact ih e2 hx
theorem asInts_len{xs:List T}:∀ {is:List Int},asInts xs=some is→is.length=xs.length:=by
 induction xs with
 | nil=>exact fun e=>smE e fun e=>e▸rfl
 | cons y ys ih=>exact fun e=>obE e fun n e1 e=>omE e fun ts e2 e=>e▸congrArg Nat.succ (ih e2)
noncomputable def lenG(n:Nat):Option T:=gd (n≤1000000) (.int n)
noncomputable def opLen(s:S)(x:V):Option T:=((s.lits x).bind fun ys=>lenG ys.length).or ((x.byt?.bind fun b=>lenG b.length).or (x.str?.bind fun b=>lenG b.length))
theorem biLen:BI F ln (.builtin "len") (opV (op1 opLen)):=biV1 fun ρ B s h X v x rv r e Q q σ hσ=>by
 subst hσ
 have fin:∀ {m n:Nat} {t k:Nat},n=m→T.int n=r→Same σ { σ with toks:=k }∧Q (.int (m:Int) t) σ.heap:=fun h e=>⟨⟨rfl,rfl,rfl⟩,q _ _ (h▸e▸.int ..) fun _ _ e=>e⟩
 refine orE e (fun e=>obE e fun ys e1 e=>gdE e fun hl e=>orE e1 (fun e1=>X.lstE rv e1 fun a vs n hv oa sa=>?_) fun e1=>omE e1 fun d ed ey=>X.dicE rv ed fun a es m hv zd oa sa=>?_) fun e=>orE e (fun e=>obE e fun b e1 e=>gdE e fun hl e=>rv.bytE e1 fun t hv=>?_) fun e=>obE e fun b e1 e=>gdE e fun hl e=>rv.strE e1 fun t hv=>?_
 ·have el:vs.toArray.size=ys.length:=(List.size_toArray ..).trans sa.len
  exact hv▸call_len_list ⟨_,oa,rfl,_,rfl⟩ (by rw [el];omega) (fin el.symm e)
 ·have el:(kvsOf es d).length=ys.length:=by rw [kvsOf_len sa,←ey,List.length_map]
  exact hv▸call_len_dict (knd:=mixKind pw F.w) zd.1 (Dic.dictOf oa sa zd).dictOf (by rw [el];omega) (fin el.symm e)
 ·exact hv▸len_bytes (by rw [List.size_toArray];omega) (fin (List.size_toArray ..).symm e)
 ·have el:(⟨b.toArray⟩:Str).length=b.length:=List.size_toArray ..
  exact hv▸len_str (by rw [el];omega) (fin el.symm e)
noncomputable def maxL(x:Int):List Int→Int
 | []=>x
 | y::r=>maxL (if y > x then y else x) r
theorem maxL_ok{l:List Int}:∀ {x:Int},maxL x l∈x::l∧∀ z∈x::l,z≤maxL x l:=by
 induction l with
 | nil=>exact⟨.head _,fun z hz=>List.mem_singleton.mp hz▸Int.le_refl _⟩
 | cons y r ih=>
  intro x
  show maxL (if y > x then y else x) r∈_∧∀ z∈_,z≤maxL (if y > x then y else x) r
  have i:=ih (x:=if y > x then y else x)
  have h:=i.2 _ (.head _)
  have h1:x≤if y > x then y else x:=by split <;> omega
  have h2:y≤if y > x then y else x:=by split <;> omega
  have hm:∀ z,z∈(if y > x then y else x)::r→z∈x::y::r:=fun z hz=>(List.mem_cons.mp hz).elim (fun e=>by by_cases q:y > x <;> simp only [q,if_true,if_false] at e <;> rw [e];exact .tail _ (.head _);exact .head _) fun hz=>.tail _ (.tail _ hz)
  exact⟨hm _ i.1,fun z hz=>(List.mem_cons.mp hz).elim (fun e=>Int.le_trans (Int.le_trans (Int.le_of_eq e) h1) h) fun hz=>(List.mem_cons.mp hz).elim (fun e=>Int.le_trans (Int.le_trans (Int.le_of_eq e) h2) h) fun hz=>i.2 z (.tail _ hz)⟩
theorem maxL_spec{x:Int}{l:List Int}{m:Int}(h:m∈x::l)(k:∀ z∈x::l,z≤m):maxL x l=m:=Int.le_antisymm (k _ maxL_ok.1) (maxL_ok.2 m h)
noncomputable def maxO:List Int→Option T
 | []=>none
 | x::r=>some (.int (maxL x r))
noncomputable def opMax1(s:S)(x:V):Option T:=((s.lits x).bind asInts).bind maxO
noncomputable def opMax(s:S)(xs:List V):Option T:=(op1 opMax1 s xs).or (op2 (fun _ x y=>x.int?.bind fun a=>y.int?.map fun b=>.int (if b > a then b else a)) s xs)
theorem biMax(n:Nm F ln cn gs):BI F ln (.builtin "max") (opV opMax):=biV fun ρ B s h X vs xs rel r e Q q=>by
 refine orE e (fun e=>obE e fun x e1 e=>rel.oneE e1 fun v hv rv=>obE e fun is e1 e2=>obE e1 fun ys e3 e4 σ hσ=>?_) fun e=>obE e fun p e1 e=>rel.twoE e1 fun v u hv rv ru=>obE e fun a e2 e=>omE e fun b e3 e=>rv.intE e2 fun t1 h1=>ru.intE e3 fun t2 h2 σ hσ=>?_
 ·have al:=asInts_len e4
  have hm:∀ m,m∈is→(∀ x∈is,x≤m)→T.int m=r:=by
   induction is with
   | nil=>exact no1 e2
   | cons x r=>exact fun m h k=>smE e2 fun e=>by rw [←e,maxL_spec h k]
  have hp:0 < ys.length:=by
   rw [←al]
   induction is with
   | nil=>exact no1 e2
   | cons=>exact Nat.succ_pos _
  refine hv▸call_max_walk (iter_lits X rv e3 (A:=F.A.in1) n.ar.hd hσ fun h' I fp P St k hI W st hfp it=>⟨I,fp,[I],_,P,St,_,rfl,W,st,hfp,hp,CmpOf.ints_gt (fun i=>is.getD i 0) (fun i v hv=>ex12 (it i v hv) fun x hx r=>?_),fun v h2 tk hP hk=>ex12 (it _ v hP) fun x hx rx=>?_⟩)
  ·exact Is.intE ((asInts_at e4 hx).2▸r) fun t h=>⟨t,h.symm⟩
  ·have h12:=argBest_gt (fun i=>is.getD i 0) (ys.length - 1)
   have g:=asInts_at e4 hx
   refine⟨⟨rfl,rfl,rfl⟩,q _ _ (hm _ (List.mem_of_getElem? g.1) (fun x hx=>(List.getElem?_of_mem hx).elim fun j hj=>?_)▸g.2▸rx) fun b o e=>hk b o (fun hb=>no1 (hI.symm.trans (List.mem_singleton.mp hb▸e))) (k b o e)⟩
   have:=h12.2 j (by have:=(List.getElem?_eq_some_iff.mp hj).1;omega)
   rwa [show is.getD j 0=x from by rw [List.getD_eq_getElem?_getD,hj];rfl] at this
 ·subst hσ
  exact hv▸h1▸h2▸max_two_ints n.ar.hd fun h' tk k=>⟨⟨rfl,rfl,rfl⟩,q _ _ (e▸by split <;> exact .int ..) k⟩
noncomputable def sumL:List Int→Int
 | []=>0
 | x::r=>x+sumL r
theorem preSum_cons(f:Nat→Int)(n:Nat):preSum f (n+1)=f 0+preSum (fun i=>f (i+1)) n:=by
 induction n with
 | zero=>show (0:Int)+f 0=f 0+0;omega
 | succ n ih=>
  show preSum f (n+1)+f (n+1)=f 0+(preSum (fun i=>f (i+1)) n+f (n+1))
  rw [ih];omega
theorem preSum_sumL(l:List Int):preSum (fun i=>l.getD i 0) l.length=sumL l:=by
 induction l with
 | nil=>rfl
 | cons x r ih=>
  show preSum _ (r.length+1)=x+sumL r
  rw [preSum_cons,←ih]
  rfl
noncomputable def opSum(s:S)(x:V):Option T:=((s.lits x).bind asInts).map fun is=>.int (sumL is)
theorem biSum(n:Nm F ln cn gs):BI F ln (.builtin "sum") (opV (op1 opSum)):=biV1 fun ρ B s h X v x rv r e Q q=>by
 refine omE e fun is e1 e=>obE e1 fun ys e3 e4 σ hσ=>?_
 refine call_sum_walkG (iter_lits X rv e3 (A:=F.A.in1) n.ar.hd hσ fun h' I fp P St k hI W st hfp it=>⟨I,fp,[I],_,P,St,fun i=>is.getD i 0,rfl,W,st,hfp,fun i v hv=>ex12 (it i v hv) fun x hx r=>Is.intE ((asInts_at e4 hx).2▸r) fun t h=>⟨t,h.symm⟩,fun h2 tk t' hk=>?_⟩)
 rw [←asInts_len e4,preSum_sumL]
 exact⟨⟨rfl,rfl,rfl⟩,q _ _ (e▸.int ..) fun b o e=>hk b o (fun hb=>no1 (hI.symm.trans (List.mem_singleton.mp hb▸e))) (k b o e)⟩
noncomputable def opAbs(_:S)(x:V):Option T:=x.int?.map fun a=>.int (if a < 0 then -a else a)
theorem biAbs:BI F ln (.builtin "abs") (opV (op1 opAbs)):=biV1 fun ρ B s h X v x rv r e Q q=>omE e fun a e1 e=>rv.intE e1 fun t hv σ hσ=>by
 subst hσ
 exact hv▸call_abs_int fun u tk=>⟨⟨rfl,rfl,rfl⟩,q _ _ (e▸.int ..) fun _ _ e=>e⟩
noncomputable def opOrd(_:S)(x:V):Option T:=x.str?.bind fun cs=>(one? cs).map fun(c:Nat)=>.int c
theorem biOrd:BI F ln (.builtin "ord") (opV (op1 opOrd)):=biV1 fun ρ B s h X v x rv r e Q q=>obE e fun cs e1 e=>omE e fun c e2 e=>rv.strE e1 fun t hv σ hσ=>by
 subst hσ
 rw [←hv,←one_at e2]
 exact PySem.P.ord_of_char ⟨⟨rfl,rfl,rfl⟩,q _ _ (e▸.int ..) fun _ _ e=>e⟩
noncomputable def strI(a:Int):List Nat:=(Str.ofString (toString a)).cps.toList
noncomputable def opStr(_:S)(x:V):Option T:=x.int?.bind fun a=>gd (a.natAbs.log2 < 1920) (.str (strI a))
theorem biStr:BI F ln (.type "str") (opV (op1 opStr)):=biV1 fun ρ B s h X v x rv r e Q q=>obE e fun a e1 e=>gdE e fun ha e=>rv.intE e1 fun t hv σ hσ=>by
 subst hσ
 exact hv▸PySem.P.str_of_int ha ⟨⟨rfl,rfl,rfl⟩,q _ _ (e▸Is.str (w:=F.w) (B:=B) (strI a) σ.toks) fun _ _ e=>e⟩
noncomputable def opInt(_:S)(x:V):Option T:=x.int?.map .int
theorem biInt:BI F ln (.type "int") (opV (op1 opInt)):=biV1 fun ρ B s h X v x rv r e Q q=>omE e fun a e1 e=>rv.intE e1 fun t hv σ hσ=>by
 subst hσ
 exact hv▸call_int_int ⟨⟨rfl,rfl,rfl⟩,q _ _ (e▸.int ..) fun _ _ e=>e⟩
noncomputable def isiC:List Value:=[.type "bool",.type "int",.ref 290,.ref 318,.ref 340,.type "list",.type "dict",.ref 361,.ref 389]
noncomputable def isiT:List Value:=[.type "NoneType",.type "bool",.type "int",.type "list",.type "dict",.ref 318,.ref 389]
noncomputable def isiB(t c:Value):Bool:=t == c || (t == .type "bool" && c == .type "int")
theorem isi_ok:∀ P:Params,(isiT.all fun t=>isiC.all fun c=>kitOne (KF P) t c == some (isiB t c))=true:=fun P=>by kernel_rfl
noncomputable def isiO:List Addr:=[318,389]
noncomputable def isiOwn(P:Params)(D:Addr):Bool:=plainGet (KF P) D "__class__" && hasDictIn (KF P) D && findIn (KF P) (.ref D) "__class__" == some (some (.builtin "object.__class__")) && specialIn (KF P) (.builtin "object.__class__") "__get__" == some (some (.builtin "getset_descriptor.__get__")) && takesIn (KF P) (.builtin "object.__class__") == some true && mroIn (KF P) D (.type "object") == some true
theorem isiOwn_ok:∀ P:Params,isiO.all (isiOwn P)=true:=fun P=>by kernel_rfl
noncomputable def tyT:T→Option Value
 | .none=>some (.type "NoneType")
 | .bool _=>some (.type "bool")
 | .int _=>some (.type "int")
 | .list _=>some (.type "list")
 | .dict _=>some (.type "dict")
 | .inst C _=>gd (C∈isiO) (.ref C)
 | _=>Option.none
structure KitAt(F:Frm)(h:Heap)(v t:Value):Prop where
 kit:∃ H:Heap→Prop,KitX (KF F.w.params) v t H∧H h
 nl:v ≠ .builtin "__main__.__loader__#opaque"
 mem:t∈isiT
theorem kitx_T(X:Rel F ln ρ B s h){v:Value}{x:T}{t:Value}(r:Is F.w B v x)(e:tyT x=some t):KitAt F h v t:=by
 induction r with
 | none=>exact smE e fun e=>e▸⟨⟨_,kitx_none,trivial⟩,(by intro q;cases q),by decide⟩
 | bool=>exact smE e fun e=>e▸⟨⟨_,kitx_bool,trivial⟩,(by intro q;cases q),by decide⟩
 | int=>exact smE e fun e=>e▸⟨⟨_,kitx_int,trivial⟩,(by intro q;cases q),by decide⟩
 | list o=>exact smE e fun e=>e▸⟨⟨_,kitx_list,_,X.le _ _ o,rfl⟩,(by intro q;cases q),by decide⟩
 | dict _ o=>exact smE e fun e=>e▸⟨⟨_,kitx_dict,_,X.le _ _ o,rfl⟩,(by intro q;cases q),by decide⟩
 | @inst a d C es n kvs o1 o2=>
  refine gdE e fun hC e=>?_
  have z:=List.all_eq_true.mp (isiOwn_ok F.w.params) C hC
  unfold isiOwn at z
  simp only [Bool.and_eq_true,beq_iff_eq,and_assoc] at z
  refine e▸⟨⟨_,kitx_own (ox:=instObj C d) (od:=dicObj es n) z.1 z.2.1 z.2.2.1 z.2.2.2.1 z.2.2.2.2.1 z.2.2.2.2.2,X.le _ _ o1,rfl,rfl,X.le _ _ o2⟩,(by intro q;cases q),?_⟩
  exact(List.mem_cons.mp hC).elim (fun e=>e▸by decide) fun h=>List.mem_singleton.mp h▸by decide
 | _=>exact no1 e
noncomputable def T.con?:T→Option Value
 | .con c=>some c
 | _=>Option.none
theorem T.conE{x:T}{i:Value}{P:T→Prop}(e:x.con?=some i)(k:P (.con i)):P x:=by cases x <;> first | exact no1 e | exact so1 (P:=fun i=>P (.con i)→P (.con _)) e id k
noncomputable def opIsi(_:S)(x y:V):Option T:=x.tr?.bind fun x=>(y.tr?.bind T.con?).bind fun c=>(gd (c∈isiC) c).bind fun c=>(tyT x).map fun t=>.bool (isiB t c)
theorem biIsi:BI F ln (.builtin "isinstance") (opV (op2 opIsi)):=biV2 fun ρ B s h X v x u y rv ru r e Q q=>
 obE e fun x' e1 e=>obE e fun c e2 e=>obE e fun c' e3 e=>omE e fun t e4 e=>gdE e3 fun hc hcc=>rv.trE e1 fun rv=>obE e2 fun y' e5 e6=>ru.trE e5 fun ru=>(kitx_T X rv e4).casesOn fun kit nl ht=>ex12 kit fun H Z p σ hσ=>by
  subst hσ
  have k:=List.all_eq_true.mp (List.all_eq_true.mp (isi_ok F.w.params) t ht) c hc
  rw [←(T.conE (P:=fun y=>Is F.w B u y→c=u) e6 (fun r=>Is.inv r) ru)]
  rw [←hcc] at e
  exact kia_one Z X.St.kin p (beq_iff_eq.mp k) nl fun tk=>⟨⟨rfl,rfl,rfl⟩,q _ _ (e▸.bool _) fun _ _ e=>e⟩
noncomputable def opBytes(s:S)(x:V):Option T:=((s.lst x).bind asInts).bind fun is=>gd ((is.all fun i=>decide (0≤i∧i < 256))=true∧is.length≤1000000) (.bytes (is.map fun n=>n.toNat.toUInt8))
theorem biBytes(n:Nm F ln cn gs):BI F ln (.type "bytes") (opV (op1 opBytes)):=biV1 fun ρ B s h X v x rv r e Q q=>
 obE e fun is e1 e=>obE e1 fun ys e3 e4=>gdE e fun hr e=>X.lstE rv e3 fun a us m hv oa sq σ hσ=>by
  subst hσ
  have hz:us.length≤1000000:=by rw [sq.len,←asInts_len e4];exact hr.2
  exact hv▸call_bytes_ints ⟨_,oa,rfl,_,rfl⟩ (asInts_is sq e4) (fun n hn=>of_decide_eq_true (List.all_eq_true.mp hr.1 n hn)) (by rw [sizeL];omega) n.ar.hd fun h' t k kp=>⟨⟨rfl,rfl,rfl⟩,q _ _ (e▸.bytes _ t) kp⟩
noncomputable def opList(s:S)(x:V):Option MO:=(s.seq x).bind fun ys=>gd (ys.length≤1000000) (.list ys)
theorem biList:BI F ln (.type "list") (opN (op1 opList)):=biN1 fun ρ B s h X v x rv r e Q q=>
 obE e fun ys e1 e=>gdE e fun hl e=>X.seqE rv e1 fun a c us m hv hc oa sq σ hσ=>by
  subst hσ
  exact hv▸call_list_seq a hc oa rfl rfl (fun h' c' k o=>⟨⟨rfl,rfl,rfl⟩,q _ _ (get_size _) (e▸⟨us,c',o,sq⟩) k⟩) (by rw [List.size_toArray,sq.len,sizeL];omega)
noncomputable def opTuple(xs:List V):Den Rv:=fun s=>(one? xs).bind fun x=>(s.lst x).bind fun ys=>gd (ys.length≤1000000) (.val (.tup ys),s)
theorem biTuple:BI F ln (.type "tuple") opTuple:=fun ρ B s h X vs xs rel r s' e=>
 obE e fun x e1 e=>rel.oneE e1 fun v hv rv=>obE e fun ys e2 e=>gdE e fun hl e=>X.lstE rv e2 fun a us m hv' oa sq σ hσ=>by
  subst hσ
  refine hv▸hv'▸call_tuple_list ⟨_,oa,rfl,_,rfl⟩ (fun h' k=>⟨⟨rfl,rfl,rfl⟩,?_⟩) (by rw [List.size_toArray,sq.len,sizeL];omega)
  exact so2 (P:=fun r s'=>Out F ln (RvAt F) ρ B σ.heap r s' _ _) e (ex02 (X.same k) fun S1 X1=>ex02 (X1.push (seqObj "tuple" us 0) rfl) fun S2 X2=>⟨_,_,S1.trans S2,X2,Is.of_tup (Base.add_self ..) (sq.mono fun _ _ r=>r.mono S2.up)⟩)
noncomputable def opDictD(s:S)(x:V):Option MO:=(s.dic x).bind fun d=>gd (d.length≤1000000) (.dict d)
theorem biDictD:BI F ln (.type "dict") (opN (op1 opDictD)):=biN1 fun ρ B s h X v x rv r e Q q=>
 obE e fun d e1 e=>gdE e fun hl e=>X.dicE rv e1 fun a es m hv zd oa sa σ hσ=>by
  subst hσ
  refine hv▸kt_call_dict (knd:=mixKind pw F.w) zd.1 (Dic.dictOf oa sa zd).dictOf (by rw [kvsOf_len sa,sizeL];omega) fun h' hd hs=>⟨⟨rfl,rfl,rfl⟩,?_⟩
  exact ex22 (Dic.ofDictOf hd (kvsOf_all sa)) fun es' n' o' sa'=>q _ _ (get_size _) (e▸⟨es',n',o',sa',X.notSys (get_size _),zd.2⟩) fun b o e=>hs.extBut b o (Nat.ne_of_lt (Heap.lt_size e)) (Heap.get?_push_of_some _ e)
theorem entry_upd_loop:entryFor table "dict.update.loop"=some Builtin.«dict.update.loop»:=entryFor_of_tree (by kernel_rfl)
theorem plain_upd_loop:plainId "dict.update.loop"=true:=by decide +kernel
theorem miss_keys:typeLookup (.type "list") "keys"=pure none:=by rw [typeLookup_type,builtinLookup_eq_fast];kernel_rfl
theorem getq_list{A:Around}{E:Value→Shared→Prop}{w:World}{σ:Shared}{a:Addr}{xs:Array Value}{k:Nat}{Q:Option Value→Shared→Prop}(hx:σ.heap.get? a=some ⟨.type "list",none,.seq xs k,#[]⟩)(hA:A.handled=none)
  (q:∀ h' tk,(∀ b o,σ.heap.get? b=some o→h'.get? b=some o)→Q none { σ with heap:=h',toks:=tk }):wpAny (model pw w) A (getAttr? (.ref a) "keys") Q E σ:=by
 obtain⟨hp,g,d,tk,os⟩:=σ
 have hT:∀ tk',(⟨hp,g,d,tk',os⟩:Shared).TypeIs (.ref a) "list":=fun _=>⟨_,hx,rfl⟩
 have f1:=sub_AttributeError
 have f3:=PySem.F.slot_list_getattribute.lookup
 have f4:=PySem.F.slot_list_getattribute.bind (.ref a)
 have f5:=am_list_getattr_none
 unfold getAttr? getAttrBy? getAttrBy
 repeat (any_goals (first | assumption | exact hT _ | ((with_reducible show wpAny _ _ (call (Value.builtin "list.__getattribute__") _ _) _ _ _);refine call_meets PySem.F.slot_list_getattribute (hT _) am_entry_list_getattribute (PySem.F.args_list_getattribute_2 _ _) (meets_getattribute_miss_list a xs k #[] "keys" _ miss_keys (by decide +kernel)) ⟨hx,hA,fun h' tk' e hx'=>?_⟩) | wp_step))
 refine ex21 hx'.there fun t' u' he=>?_
 show wpAny _ _ (getattributeRaised _ _ _ _ _ _ _) _ _ _
 unfold getattributeRaised
 repeat (any_goals (first | assumption | wp_step))
 exact q h' _ hx'.keeps
noncomputable def pairsT:List T→Option (List (K×T))
 | []=>some []
 | x::r=>(x.tup?.bind two?).bind fun p=>p.1.key.bind fun k=>(pairsT r).map ((k,p.2)::·)
noncomputable def dFold:List (K×T)→List (K×T)→List (K×T)
 | d,[]=>d
 | d,p::r=>dFold (dSet p.1 p.2 d) r
theorem All2.headL{α β:Type}{R:α→β→Prop}{l:List α}{b:α}{m:List β}{P:Prop}(x:All2 R (b::l) m)(k:∀ a m',a::m'=m→R b a→All2 R l m'→P):P:=by
 cases x with
 | cons r q=>exact k _ _ rfl r q
theorem stored_len{α:Type}[DecidableEq α]{acc:List (α×Value)}{k:α}{v:Value}:(stored acc k v).length≤acc.length+1:=by unfold stored;split <;> simp
theorem pair_items{w:World}{A:Around}{σ:Shared}{ta:Addr}{vs:List Value}{k v:Value}{tm:Nat}(o:σ.heap.get? ta=some (seqObj "tuple" vs tm))(e:[k,v]=vs){Q:List Value→Shared→Prop}{E:Value→Shared→Prop}(q:Q [k,v] σ):wpAny (model pw w) A (Builtin.Dict.pairItems (.ref ta)) Q E σ:=by
 unfold Builtin.Dict.pairItems
 refine wpAny_bind (wpAny_typeOf (T:="tuple") ⟨_,o,rfl⟩ ?_)
 rw [if_pos (by decide)]
 rw [←e] at o
 exact wpAny_bind (wpAny_bind (wpAny_load o (wpAny_pure (wpAny_pure q))))
theorem upd_loop{A:Around}{w:World}(hh:A.handled=none){D I a:Addr}{vs:List Value}{m:Nat}(hDI:D ≠ I)(hDa:D ≠ a)(hIa:I ≠ a)(hDB:B D=none)(hIB:B I=none){R:Result→Shared→Prop}:∀ (n i:Nat) (j:Int) (σ:Shared) (acc:List (K×Value)) (d:List (K×T)) (ys:List T) (ps:List (K×T)),i+n=vs.length →
  σ.heap.IsListIter I a i→σ.heap.get? a=some (seqObj "list" vs m)→σ.heap.DictOf (mixKind pw w) D acc→All2 (KV w B) acc d→(∀ b o,B b=some o→σ.heap.get? b=some o)→Seq w B (vs.drop i) ys→pairsT ys=some ps→acc.length+n≤1000000 →
  (∀ h' tk acc',h'.DictOf (mixKind pw w) D acc'→All2 (KV w B) acc' (dFold d ps)→(∀ b o,b ≠ D→b ≠ I→σ.heap.get? b=some o→h'.get? b=some o)→R (.ok (.ret .none)) { σ with heap:=h',toks:=tk }) →
  codeAny (model pw w) A (.builtin "dict.update.loop" ⟨[.ref D,.ref I,rawInt j,.none],[]⟩) R σ:=by
 intro n
 induction n with
 | zero=>
  intro i j σ acc d ys ps hi hit hl hd ka le sq e hz q
  refine codeAny_builtin entry_upd_loop ?_
  rw [Around.under_plainId plain_upd_loop _]
  refine wpAny_bind (wpAny_pyNext_list_end (A:=A.in1) hh hit ⟨_,hl,rfl,_,rfl⟩ (by simp;omega) fun h' he=>?_)
  rw [List.drop_eq_nil_of_le (by omega)] at sq
  have hy:ys=[]:=List.length_eq_zero_iff.mp sq.len.symm
  rw [hy] at e
  exact wpAny_bind (wpAny_pure (wpAny_pure (q h' σ.toks acc (hd.extBut he hDI) (smE e fun e=>e▸ka) fun b o _ h2 e=>he b o h2 e)))
 | succ n ih=>
  intro i j σ acc d ys ps hi hit hl hd ka le sq e hz q
  have hlt:i < vs.length:=by omega
  rw [List.drop_eq_getElem_cons hlt] at sq
  refine sq.headL fun x xs hys r sq=>?_
  rw [←hys] at e
  refine obE e fun p e1 e=>obE e fun kk e2 e=>omE e fun qs e3 e=>obE e1 fun ts e4 e5=>Is.tupE (T.tupE (P:=fun x=>Is w B vs[i] x→Is w B vs[i] (.tup ts)) e4 id r) fun ta us tm hv ot st=>st.twoE e5 fun kv yv hus rk ry=>?_
  rw [←e] at q
  refine codeAny_builtin entry_upd_loop ?_
  rw [Around.under_plainId plain_upd_loop _]
  refine wpAny_bind (wpAny_pyNext_list_item (A:=A.in1) (x:=.ref ta) hit ⟨_,hl,rfl,_,rfl⟩ (by simp [hlt,hv]) fun h1 hit1 hs1=>?_)
  refine wpAny_bind (wpAny_holding ?_)
  have hI:∀ {b:Addr} {o:Obj},B b=some o→b ≠ I:=fun e q=>no1 (hIB.symm.trans (q▸e))
  have hD:∀ {b:Addr} {o:Obj},B b=some o→b ≠ D:=fun e q=>no1 (hDB.symm.trans (q▸e))
  have la:=ka.len
  refine wpAny_bind (wpAny_tryCatch (pair_items (σ:={ σ with heap:=h1 }) (hs1.extBut _ _ (hI ot) (le _ _ ot)) hus ?_))
  refine wpAny_holding (wpAny_dictSet_pairs (knd:=mixKind pw w) (T.key_holds rk e2) (hd.sameBut hs1 hDI) (fun h2 hd2 hs2=>?_) (by rw [sizeL];omega))
  have hsl:=stored_len (acc:=acc) (k:=kk) (v:=yv)
  exact wpAny_pure ⟨Code.quiet_builtin _ (by decide +kernel),ih (i+1) (j+1) { σ with heap:=h2,toks:=σ.toks+1 } _ (dSet kk p.2 d) xs qs (by omega) (ex12 hit1 fun o e r=>⟨o,hs2.extBut _ _ (Ne.symm hDI) e,r⟩) (hs2.extBut _ _ (Ne.symm hDa) (hs1.extBut _ _ (Ne.symm hIa) hl)) hd2 (stored_all ka ry) (fun b o e=>hs2.extBut _ _ (hD e) (hs1.extBut _ _ (hI e) (le b o e))) sq e3 (by omega)
   fun h' tk acc' a1 a2 a3=>q h' tk acc' a1 a2 fun b o z1 z2 e=>a3 b o z1 z2 (hs2.extBut _ _ z1 (hs1.extBut _ _ z2 e))⟩
noncomputable def opDictP(s:S)(x:V):Option MO:=(s.lst x).bind fun ys=>(gd (ys.length≤1000000) ys).bind fun ys=>(pairsT ys).map fun ps=>.dict (dFold [] ps)
theorem dFold_keys{ps:List (K×T)}:∀ {d:List (K×T)},(d.map (·.1)).Nodup→((dFold d ps).map (·.1)).Nodup:=by
 induction ps with
 | nil=>exact id
 | cons p r ih=>exact fun h=>ih (dSet_keys p.1 p.2 _ h)
theorem biDictP(n:Nm F ln cn gs):BI F ln (.type "dict") (opN (op1 opDictP)):=biN1 fun ρ B s h X v x rv r e Q q=>by
 refine obE e fun ys e1 e=>obE e fun ys' e2 e=>omE e fun ps e3 e=>gdE e2 fun hl hy=>X.lstE rv e1 fun a us m hv oa sq σ hσ=>?_
 rw [←hy] at e3
 rw [←hv]
 subst hσ
 refine callType_codes (Q₁:=fun obj s₁=>obj=.ref σ.heap.objs.size∧s₁={ σ with heap:=σ.heap.push { cls:=.type "dict",data:=.dict #[] } }) PySem.F.kt_called_dict (PySem.F.kt_typeCall_dict_1 _) PySem.F.entry_dict_init (kt_code_dict_new _ ⟨rfl,rfl⟩) fun obj s₁ hos=>?_
 rw [hos.1,hos.2]
 have hnew:(σ.heap.push { cls:=.type "dict",data:=.dict #[] }).DictOf (mixKind pw F.w) σ.heap.objs.size []:=Heap.DictOf.new σ.heap
 have oa':(σ.heap.push { cls:=.type "dict",data:=.dict #[] }).get? a=some (seqObj "list" us m):=Heap.get?_push_of_some _ oa
 refine⟨hnew.typeIs,PySem.F.args_dict_init_2 _ _,?_⟩
 unfold Builtin.«dict.__init__»
 refine wpAny_bind ?_
 unfold Builtin.Dict.selfAndRest
 refine wpAny_bind (wpAny_notOrdered_dict hnew.typeIs ?_)
 show wpAny _ _ (pure (σ.heap.objs.size,[Value.ref a])) _ _ _
 refine wpAny_pure ?_
 show wpAny _ _ (Builtin.Dict.updateFrom "dict.__init__" σ.heap.objs.size (.ref a) [] .none) _ _ _
 unfold Builtin.Dict.updateFrom
 refine wpAny_bind (wpAny_typeOf (T:="list") ⟨_,oa',rfl⟩ ?_)
 rw [if_pos (by decide)]
 refine wpAny_bind (getq_list (σ:={ σ with heap:=σ.heap.push { cls:=.type "dict",data:=.dict #[] } }) oa' n.ar.hd fun h1 tk k1=>?_)
 dsimp only [Option.isNone_none]
 rw [if_pos rfl]
 have oa1:=k1 _ _ oa'
 have hnew1:h1.DictOf (mixKind pw F.w) σ.heap.objs.size []:=let ⟨o,es,ep,e,r⟩:=hnew;⟨o,es,ep,k1 _ _ e,r⟩
 have kk:∀ b o,σ.heap.get? b=some o→h1.get? b=some o:=fun b o e=>k1 b o (Heap.get?_push_of_some _ e)
 have hDI:σ.heap.objs.size ≠ h1.objs.size:=fun e=>no1 ((get_size h1).symm.trans (e▸k1 _ _ (get_push (h:=σ.heap) (o:={ cls:=.type "dict",data:=.dict #[] }) rfl)))
 have hIf:σ.heap.get? h1.objs.size=none:=Option.eq_none_iff_forall_ne_some.mpr fun o z=>no1 ((get_size h1).symm.trans (kk _ _ z))
 refine wpAny_bind (wpAny_rule (wpAny_bind (wpAny_pyIter_list (s:={ σ with heap:=h1,toks:=tk }) ⟨_,oa1,rfl,_,rfl⟩ ?_)))
 exact wpAny_pure ⟨Code.quiet_builtin _ (by decide +kernel),upd_loop (A:=F.A.in1) (B:=B) n.ar.hd hDI (Ne.symm (ne_size oa)) (fun e=>no1 (hIf.symm.trans (e▸oa))) (X.fresh (get_size σ.heap)).1 (X.fresh hIf).1 us.length 0 0 _ [] [] ys ps (Nat.zero_add _) ⟨_,get_push rfl,rfl,rfl⟩ (Heap.get?_push_of_some _ oa1) (hnew1.push _) .nil (fun b o e=>Heap.get?_push_of_some _ (kk b o (X.le b o e))) sq e3 (by rw [sq.len];simpa using hl) fun h' tk' acc' d1 d2 d3=>⟨rfl,⟨rfl,rfl,rfl⟩,
  ex22 (Dic.ofDictOf d1 d2) fun es' n' o' sa'=>q _ _ (get_size _) (e▸⟨es',n',o',sa',X.notSys (get_size _),dFold_keys List.nodup_nil⟩) fun b o e=>d3 b o (ne_size e) (fun z=>no1 (hIf.symm.trans (z▸e))) (Heap.get?_push_of_some _ (kk b o e))⟩⟩
noncomputable def isLst(s:S)(v:V):Bool:=(s.lst v).isSome
noncomputable def isDic(s:S)(v:V):Bool:=(s.dic v).isSome
noncomputable def isStr(_:S)(v:V):Bool:=v.str?.isSome
noncomputable def isByt(_:S)(v:V):Bool:=v.byt?.isSome
theorem miLst{a:Str}{c:String}(slot:Slot "list" a c)(hty:typeOf (.builtin c)=pure (.type "method_descriptor")):MI F ln a c isLst:=fun ρ B s h X v x r e pl σ hσ=>by
 subst hσ
 exact(Option.isSome_iff_exists.mp e).elim fun xs e=>X.lstE r e fun ad vs n hv o _=>hv▸getMethod_builtin ⟨_,o,rfl⟩ PySem.F.plainAttrs_list slot hty (fun b e=>by cases e;exact⟨_,o,rfl⟩) ⟨.refl σ,rfl,rfl⟩
theorem miDic{a:Str}{c:String}(slot:Slot "dict" a c)(hty:typeOf (.builtin c)=pure (.type "method_descriptor")):MI F ln a c isDic:=fun ρ B s h X v x r e pl σ hσ=>by
 subst hσ
 exact(Option.isSome_iff_exists.mp e).elim fun xs e=>X.dicE r e fun ad vs n hv _ o _=>hv▸getMethod_builtin ⟨_,o,rfl⟩ PySem.F.plainAttrs_dict slot hty (fun b e=>by cases e;exact⟨_,o,rfl⟩) ⟨.refl σ,rfl,rfl⟩
theorem miStr{a:Str}{c:String}(slot:Slot "str" a c)(hty:typeOf (.builtin c)=pure (.type "method_descriptor")):MI F ln a c isStr:=fun ρ B s h X v x r e pl σ hσ=>by
 subst hσ
 exact(Option.isSome_iff_exists.mp e).elim fun xs e=>r.strE e fun t hv=>hv▸getMethod_builtin (typeIs_str _ _ _) PySem.F.plainAttrs_str slot hty (fun b e=>by cases e) ⟨.refl σ,rfl,rfl⟩
theorem Rel.setAt(X:Rel F ln ρ B s h){j:Nat}{a:Addr}{xs ys:List T}{vs:List Value}{n:Nat}{h':Heap}(hj:ρ[j]?=some a)(hd:Mine.oL s j=some xs)(hS:Heap.SameBut a h h')(o:h'.get? a=some (seqObj "list" vs n))(sq:Seq F.w B vs ys):Step F ρ B h ρ B h'∧Rel F ln ρ B (s.setO j (.list ys)) h':=
 X.upd (o':=.list ys) hj (oL_at hd) ⟨vs,n,o,sq⟩ hS
theorem RelV.locE{w:World}{v:Value}{x:V}{j:Nat}{P:Prop}(r:RelV w ρ B v x)(e:x.loc?=some j)(k:∀ a,ρ[j]?=some a→.ref a=v→P):P:=
 ex12 (V.locE (P:=fun x=>RelV w ρ B v x→RelV w ρ B v (.loc j)) e id r) fun a h1 h2=>k a h1 h2.symm
noncomputable def opAppend(xs:List V):Den Rv:=fun s=>(two? xs).bind fun p=>p.1.loc?.bind fun j=>p.2.tr?.bind fun x=>(oL s j).bind fun ys=>gd (ys.length < 1000000) (.val .none,s.setO j (.list (ys++[x])))
theorem biAppend:BI F ln (.builtin "list.append") opAppend:=fun ρ B s h X vs xs rel r s' e=>
 obE e fun p e1 e=>obE e fun j e2 e=>obE e fun x e3 e=>obE e fun ys e4 e=>gdE e fun hl e=>rel.twoE e1 fun v u hv rv ru=>rv.locE e2 fun a hj ha=>ru.trE e3 fun ru=>ex22 (X.oL hj e4) fun us n oa sq σ hσ=>by
  subst hσ
  refine hv▸ha▸append_at oa (fun h' hS o=>?_) (by rw [List.size_toArray,sq.len,sizeL];omega)
  exact so2 (P:=fun r s'=>Same σ { σ with heap:=h' }∧Out F ln (RvAt F) ρ B σ.heap r s' .none h') e (ex02 (X.setAt (vs:=us++[u]) (n:=n+1) hj e4 hS (by rw [o];simp) (sq.append (.cons ru .nil))) fun S1 X1=>⟨⟨rfl,rfl,rfl⟩,ρ,B,S1,X1,Is.none⟩)
noncomputable def opPop(xs:List V):Den Rv:=fun s=>(one? xs).bind fun v=>v.loc?.bind fun j=>(oL s j).bind fun ys=>(gd (ys.length < 1000000) ys).bind fun ys=>(ys.getLast?).map fun x=>(.val x,s.setO j (.list ys.dropLast))
theorem Seq.last{w:World}{vs:List Value}{ys:List T}{x:T}(q:Seq w B vs ys)(e:ys.getLast?=some x):∃ v,vs[vs.length - 1]?=some v∧Is w B v x∧Seq w B vs.dropLast ys.dropLast:=by
 have hl:=q.len
 rw [List.getLast?_eq_getElem?] at e
 refine ex12 (q.some_left e) fun v hv r=>⟨v,by rw [hl];exact hv,r,?_⟩
 rw [List.dropLast_eq_take,List.dropLast_eq_take,hl]
 exact q.take _
theorem biPop:BI F ln (.builtin "list.pop") opPop:=fun ρ B s h X vs xs rel r s' e=>
 obE e fun v e1 e=>obE e fun j e2 e=>obE e fun ys e4 e=>obE e fun ys' e5 e=>omE e fun x e6 e=>gdE e5 fun hl hy=>rel.oneE e1 fun v hv rv=>rv.locE e2 fun a hj ha=>ex22 (X.oL hj e4) fun us n oa sq=>by
  rw [←hy] at e6 e
  refine ex13 (sq.last e6) fun v hlv rx sq' σ hσ=>?_
  subst hσ
  refine hv▸ha▸Copied.pop_at oa (by simpa using hlv) (fun h' hS o=>?_) (by rw [List.size_toArray,sq.len,sizeL];omega)
  exact so2 (P:=fun r s'=>Same σ { σ with heap:=h' }∧Out F ln (RvAt F) ρ B σ.heap r s' v h') e (ex02 (X.setAt (vs:=us.dropLast) (n:=n+1) hj e4 hS (by rw [o];simp) sq') fun S1 X1=>⟨⟨rfl,rfl,rfl⟩,ρ,B,S1,X1,rx⟩)
noncomputable def V.key(v:V):Option K:=v.tr?.bind T.key
noncomputable def getV(s:S)(x k:V)(y:T):Option T:=(s.dic x).bind fun d=>k.key.map fun kk=>(dGet kk d).getD y
noncomputable def opGet(s:S)(xs:List V):Option T:=((two? xs).bind fun p=>getV s p.1 p.2 .none).or ((three? xs).bind fun p=>p.2.2.tr?.bind fun y=>getV s p.1 p.2.1 y)
theorem Dic.getD{w:World}{es:List DictEntry}{d:List (K×T)}(sa:Dic w B es d){yv:Value}{y:T}(ry:Is w B yv y)(kk:K):Is w B ((findBy (mixKind pw w).is es.toArray kk).getD yv) ((dGet kk d).getD y):=by
 have z:=Dic.find (prog:=pw) sa kk
 unfold findBy
 rw [List.find?_toArray]
 revert z
 generalize (es.find? fun e=>(mixKind pw w).is kk e.key).map (·.val)=o1
 generalize dGet kk d=o2
 intro z
 induction o1 with
 | none=>induction o2 with
  | none=>exact ry
  | some=>exact z.elim
 | some=>induction o2 with
  | none=>exact z.elim
  | some=>exact z
theorem get_core(X:Rel F ln ρ B s h){v kv yv:Value}{x k:V}{y r:T}(rv:RelV F.w ρ B v x)(rk:RelV F.w ρ B kv k)(ry:Is F.w B yv y)(e:getV s x k y=some r){args:List Value}(ha:args=[v,kv,yv]∨(args=[v,kv]∧yv=.none)){Q:Value→Heap→Prop}(q:QV F B h r Q) :
  W F.w F.A (call (.builtin "dict.get") args) h Q:=
 obE e fun d e1 e=>omE e fun kk e2 e=>obE e2 fun k' e3 e4=>rk.trE e3 fun rk=>X.dicE rv e1 fun a es m hv zd oa sa σ hσ=>by
  subst hσ
  have hk:(mixKind pw F.w).is kk kv=true:=T.key_holds rk e4
  have fin:=q _ σ.heap (e▸sa.getD ry kk) fun _ _ e=>e
  rcases ha with rfl | ⟨rfl,rfl⟩
  ·exact hv▸call_meetsIn PySem.F.slot_dict_get ⟨_,oa,rfl⟩ PySem.F.entry_dict_get (PySem.F.args_dict_get_3 _ _ _) (meets_dict_get_default (mixKind pw F.w) _ hk zd.1 yv) ⟨_,Dic.mapOf oa sa,⟨rfl,rfl,rfl⟩,fin⟩
  ·exact hv▸call_meetsIn PySem.F.slot_dict_get ⟨_,oa,rfl⟩ PySem.F.entry_dict_get (PySem.F.args_dict_get_2 _ _) (meets_dict_get_default (mixKind pw F.w) _ hk zd.1 .none) ⟨_,Dic.mapOf oa sa,⟨rfl,rfl,rfl⟩,fin⟩
theorem biGet:BI F ln (.builtin "dict.get") (opV opGet):=biV fun ρ B s h X vs xs rel r e Q q=>
 orE e (fun e=>obE e fun p e1 e=>rel.twoE e1 fun v u hv rv ru=>get_core X rv ru .none e (.inr ⟨hv.symm,rfl⟩) q) fun e=>obE e fun p e1 e=>obE e fun y e2 e=>rel.threeE e1 fun v u y hv rv ru ry=>ry.trE e2 fun ry=>get_core X rv ru ry e (.inl hv.symm) q
theorem valueAt_all{w:World}{kvs:List (K×Value)}{d:List (K×T)}(x:All2 (KV w B) kvs d)(k:K):(∀ {t},dGet k d=some t→∃ v,valueAt kvs k=some v∧Is w B v t)∧(dGet k d=none→valueAt kvs k=none):=by
 unfold valueAt dGet
 induction x with
 | nil=>exact⟨fun e=>by simp at e,fun _=>rfl⟩
 | @cons kv p _ _ r _ ih=>
  rw [List.find?_cons,List.find?_cons,r.1]
  by_cases q:p.1=k
  ·rw [decide_eq_true q]
   exact⟨fun e=>by simp at e;subst e;exact⟨_,rfl,r.2⟩,fun e=>by simp at e⟩
  ·rw [decide_eq_false q];exact ih
theorem without_all{w:World}{kvs:List (K×Value)}{d:List (K×T)}(x:All2 (KV w B) kvs d)(k:K):All2 (KV w B) (without kvs k) (dDel k d):=by
 unfold without dDel
 induction x with
 | nil=>exact .nil
 | @cons kv p _ _ r _ ih=>
  rw [List.filter_cons,List.filter_cons,r.1]
  split
  ·exact .cons r ih
  ·exact ih
theorem key_part{v:Value}{k:K}(e:k.holds v=true):(keyPart v).isSome=true:=by
 rcases K.holds_inv e with ⟨i,t,rfl,rfl⟩ | ⟨x,t,rfl,rfl⟩ <;> rfl
noncomputable def popV(j:Nat)(k:V)(y:Option T):Den Rv:=fun s=>(oD s j).bind fun d=>(gd (d.length≤1000000) d).bind fun d=>k.key.bind fun kk=>((dGet kk d).map fun t=>(.val t,s.setO j (.dict (dDel kk d)))).or ((gd ((dGet kk d).isNone=true) y).bind fun y=>y.map fun t=>(.val t,s))
noncomputable def opDPop(xs:List V):Den Rv:=fun s=>((two? xs).bind fun p=>p.1.loc?.bind fun j=>popV j p.2 none s).or ((three? xs).bind fun p=>p.1.loc?.bind fun j=>p.2.2.tr?.bind fun y=>popV j p.2.1 (some y) s)
theorem dpop_core(X:Rel F ln ρ B s h){a:Addr}{kv:Value}{more:List Value}{j:Nat}{k:V}{y:Option T}(hj:ρ[j]?=some a)(rk:RelV F.w ρ B kv k)(hA:argsOk "dict.pop" ⟨.ref a::kv::more,[]⟩)(hm:more=[]∨∃ x,more=[x])(ry:∀ t,y=some t→∃ v,more=[v]∧Is F.w B v t){rv:Rv}{s':S}(e:popV j k y s=some (rv,s')) :
  W F.w F.A (call (.builtin "dict.pop") (.ref a::kv::more)) h (Out F ln (RvAt F) ρ B h rv s'):=
 obE e fun d e1 e=>obE e fun d' e2 e=>obE e fun kk e3 e=>gdE e2 fun hl hd=>obE e3 fun k' e4 e5=>rk.trE e4 fun rk=>ex23 (X.oD hj e1) fun es m oa sa za=>by
  rw [←hd] at e
  have hk:(mixKind pw F.w).is kk kv=true:=T.key_holds rk e5
  have hD:=(Dic.dictOf (prog:=pw) oa sa za).dictOf
  refine orE e (fun e=>omE e fun t e6 e=>ex12 ((valueAt_all (kvsOf_all sa) kk).1 e6) fun v hv r σ hσ=>?_) fun e=>obE e fun y' e6 e=>omE e fun t e7 e=>gdE e6 fun hn hy=>?_
  ·subst hσ
   refine call_meetsIn PySem.F.slot_dict_pop ⟨_,oa,rfl⟩ PySem.F.entry_dict_pop hA (meets_dict_pop_there (mixKind pw F.w) a hk more hm (key_part hk)) ⟨_,v,hD,by rw [kvsOf_len sa,sizeL];omega,hv,fun h' hd hS=>?_⟩
   exact so2 (P:=fun r s'=>Same σ { σ with heap:=h',toks:=σ.toks+1 }∧Out F ln (RvAt F) ρ B σ.heap r s' v h') e (ex22 (Dic.ofDictOf hd (without_all (kvsOf_all sa) kk)) fun es' n' oa' sa'=>ex02 (X.upd (o':=.dict (dDel kk d)) hj (oD_at e1) ⟨es',n',oa',sa',za.1,((List.filter_sublist ..).map _).nodup za.2⟩ hS) fun st X'=>⟨⟨rfl,rfl,rfl⟩,ρ,B,st,X',r⟩)
  ·rw [←hy] at e7
   refine ex12 (ry t e7) fun v hv r σ hσ=>?_
   subst hσ
   rw [hv] at hA ⊢
   exact call_meetsIn PySem.F.slot_dict_pop ⟨_,oa,rfl⟩ PySem.F.entry_dict_pop hA (meets_dict_pop_default (mixKind pw F.w) a hk za.1 (key_part hk) v) ⟨_,hD,(valueAt_all (kvsOf_all sa) kk).2 (Option.isNone_iff_eq_none.mp hn),so2 (P:=fun r s'=>Same σ { σ with toks:=σ.toks+1 }∧Out F ln (RvAt F) ρ B σ.heap r s' v σ.heap) e ⟨⟨rfl,rfl,rfl⟩,ρ,B,.refl ..,X,r⟩⟩
theorem biDPop:BI F ln (.builtin "dict.pop") opDPop:=fun ρ B s h X vs xs rel r s' e=>
 orE e (fun e=>obE e fun p e1 e=>obE e fun j e2 e=>rel.twoE e1 fun v u hv rv ru=>rv.locE e2 fun a hj ha=>hv▸ha▸dpop_core X hj ru (PySem.F.args_dict_pop_2 _ _) (.inl rfl) (fun t e=>no1 e) e)
  fun e=>obE e fun p e1 e=>obE e fun j e2 e=>obE e fun y e3 e=>rel.threeE e1 fun v u y hv rv ru ry=>rv.locE e2 fun a hj ha=>ry.trE e3 fun ry=>hv▸ha▸dpop_core X hj ru (PySem.F.args_dict_pop_3 _ _ _) (.inr ⟨_,rfl⟩) (fun t e=>smE e fun e=>⟨_,rfl,e▸ry⟩) e
noncomputable def idxI(x:Int):List Int→Option Nat
 | []=>none
 | y::r=>if y=x then some 0 else (idxI x r).map (·+1)
noncomputable def opIndex(s:S)(l x:V):Option T:=x.int?.bind fun x=>((s.lst l).bind asInts).bind fun is=>(gd (is.length≤1000000) is).bind fun is=>(idxI x is).map fun j=>.int (j:Nat)
theorem idxI_spec{x:Int}{l:List Int}:∀ {j:Nat},idxI x l=some j→l[j]?=some x∧∀ m,m < j→l[m]? ≠ some x:=by
 induction l with
 | nil=>exact fun e=>no1 e
 | cons y r ih=>
  intro j e
  unfold idxI at e
  by_cases q:y=x
  ·rw [if_pos q] at e
   exact smE e fun e=>e▸⟨by simp [q],fun m hm=>absurd hm (Nat.not_lt_zero _)⟩
  ·rw [if_neg q] at e
   refine omE e fun i e1 e=>e▸⟨(ih e1).1,fun m hm=>?_⟩
   cases m with
   | zero=>simpa using q
   | succ m=>exact(ih e1).2 m (by omega)
noncomputable def intOf:Value→Int
 | .int i _=>i
 | _=>0
theorem biIndex:BI F ln (.builtin "list.index") (opV (op2 opIndex)):=biV2 fun ρ B s h X v l u x rv ru r e Q q=>
 obE e fun x' e0 e=>obE e fun is e1 e=>obE e fun is' e2 e=>omE e fun j e5 e=>gdE e2 fun hl hi=>obE e1 fun ys e3 e4=>ru.intE e0 fun tk hu=>X.lstE rv e3 fun a us m hv oa sq=>by
  rw [←hi] at e5
  have ix:=idxI_spec e5
  have hlen:us.length=is.length:=by rw [sq.len,asInts_len e4]
  have at':∀ {i:Nat} {y:Value},us[i]?=some y→∃ t,.int (is.getD i 0) t=y∧is[i]?=some (is.getD i 0):=fun e=>ex12 (sq.some_right e) fun z hz r=>have g:=asInts_at e4 hz;Is.intE (g.2▸r) fun t h=>⟨t,h,g.1⟩
  have hj:j < us.length:=by have:=(List.getElem?_eq_some_iff.mp ix.1).1;omega
  intro σ hσ
  subst hσ
  refine hv▸hu▸call_meets PySem.F.slot_list_index ⟨_,oa,rfl⟩ PySem.F.entry_list_index (PySem.F.args_list_index_2 _ _) (PySem.MeetsSeq.list_index a us.toArray m (.int x' tk) (fun y=>intOf y == x') (fun y hy=>?_) j (by simpa using hj) (by omega) ?_ fun k hk hkj=>?_) ⟨oa,⟨rfl,rfl,rfl⟩,q _ _ (e▸.int _ _) fun _ _ e=>e⟩
  ·exact(List.getElem?_of_mem (show y∈us by simpa using hy)).elim fun i hi=>ex12 (at' hi) fun t h _=>h▸PySem.MeetsSeq.EqGives.int _ _ _ _
  ·refine ex12 (at' (List.getElem?_eq_getElem hj)) fun t e6 e7=>?_
   rw [ix.1] at e7
   rw [show us.toArray[j]=us[j] by simp,←e6,←Option.some.inj e7]
   simp [intOf]
  ·have hk':k < us.length:=by omega
   refine ex12 (at' (List.getElem?_eq_getElem hk')) fun t e6 e7=>?_
   rw [show us.toArray[k]=us[k] by simp,←e6]
   have n:=ix.2 k hkj
   rw [e7] at n
   simpa [intOf] using n
noncomputable def joinR{α:Type}(sep:List α):List (List α)→List α
 | []=>[]
 | x::r=>sep++x++joinR sep r
noncomputable def joinL{α:Type}(sep:List α):List (List α)→List α
 | []=>[]
 | x::r=>x++joinR sep r
theorem joinL_cons{α:Type}(sep x y:List α)(r:List (List α)):joinL sep (x::y::r)=x++sep++joinL sep (y::r):=by
 show x++(sep++y++joinR sep r)=x++sep++(y++joinR sep r)
 simp only [List.append_assoc]
theorem join_cps(sep:List Nat)(ss:List (List Nat)):(Txt.join ⟨sep.toArray⟩ (ss.map fun x=>⟨x.toArray⟩)).cps=(joinL sep ss).toArray:=by
 show (Builtin.Str.glued _ _).cps=_
 rw [StrLaws.glued_eq_join]
 induction ss with
 | nil=>rfl
 | cons x r ih=>
  cases r with
  | nil=>exact congrArg List.toArray (List.append_nil x).symm
  | cons y r=>
   have e:Str.join ⟨sep.toArray⟩ ((x::y::r).map fun x=>(⟨x.toArray⟩:Str))=(⟨x.toArray⟩:Str)++⟨sep.toArray⟩++Str.join ⟨sep.toArray⟩ ((y::r).map fun x=>(⟨x.toArray⟩:Str)):=rfl
   rw [e,Str.cps_append,Str.cps_append,ih,joinL_cons]
   simp
noncomputable def opJoin(s:S)(v x:V):Option T:=v.str?.bind fun sep=>((s.lst x).bind asStrs).bind fun ss=>gd ((ss.map (·.length)).sum+ss.length * sep.length≤1000000) (.str (joinL sep ss))
theorem strs_vals{vs:List Value}{ss:List Str}(q:StrsAre vs ss):∃ l:List (Str×Tok),vs=strValues l∧l.map (·.1)=ss:=by
 induction q with
 | nil=>exact⟨[],rfl,rfl⟩
 | cons x t _ ih=>exact ex12 ih fun l h1 h2=>⟨(x,t)::l,congrArg (Value.str x t::·) h1,congrArg (x::·) h2⟩
theorem join_ok{sep:List Nat}{ss:List (List Nat)}(hl:(ss.map (·.length)).sum+ss.length * sep.length≤1000000){l:List (Str×Tok)}(el:l.map (·.1)=ss.map fun x=>⟨x.toArray⟩):Builtin.Str.tooLong ((l.map (·.1)).toArray.foldl (·+·.length+(⟨sep.toArray⟩:Str).length) 0)=false:=by
 rw [StrLaws.joinTotal,el,show (List.map (fun x=>x.length) (List.map (fun x=>(⟨x.toArray⟩:Str)) ss))=ss.map (·.length) from by rw [List.map_map];rfl,List.length_map,show (⟨sep.toArray⟩:Str).length=sep.length from rfl]
 show decide (_ > sizeLine)=false
 rw [decide_eq_false_iff_not,sizeLine_eq]
 omega
theorem biJoin:BI F ln (.builtin "str.join") (opV (op2 opJoin)):=biV2 fun ρ B s h X v sep u x rv ru r e Q q=>
 obE e fun sep e0 e=>obE e fun ss e1 e=>gdE e fun hl e=>obE e1 fun ys e3 e4=>rv.strE e0 fun tk hv=>X.lstE ru e3 fun a us m hu oa sq=>ex12 (strs_vals (asStrs_is sq e4)) fun l hus el σ hσ=>by
  subst hσ
  rw [hus] at oa
  have hok:=join_ok hl el
  refine hv▸hu▸call_meets PySem.F.slot_str_join (typeIs_str _ _ _) PySem.F.entry_str_join (PySem.F.args_str_join_2 _ _) (meets_str_join_list _ tk a l hok) ⟨⟨_,oa,rfl,_,rfl⟩,post_join l ⟨joinFit_length hok,fun t' k=>⟨⟨rfl,rfl,rfl⟩,q _ _ ?_ fun _ _ e=>e⟩⟩⟩
  rw [el,←e]
  have:=Is.str (w:=F.w) (B:=B) (joinL sep ss) t'
  rw [←join_cps] at this
  exact this
noncomputable def rjustL(x:List Nat)(i:Int)(c:Nat):List Nat:=if i≤x.length then x else List.replicate (i.toNat - x.length) c++x
noncomputable def opRjust(_:S)(xs:List V):Option T:=(three? xs).bind fun p=>p.1.str?.bind fun x=>p.2.1.int?.bind fun i=>(p.2.2.str?.bind one?).bind fun c=>gd (0≤i∧i≤1000) (.str (rjustL x i c))
theorem rjust_at(x:List Nat)(i:Int)(c:Nat):Txt.rjustF ⟨x.toArray⟩ i c=⟨(rjustL x i c).toArray⟩:=by
 unfold Txt.rjustF rjustL
 rw [show (⟨x.toArray⟩:Str).length=x.length from rfl]
 split
 ·rfl
 ·show (⟨Array.replicate _ c++x.toArray++Array.replicate 0 c⟩:Str)=_
  simp
theorem pad_ok{i:Int}(hi:0≤i∧i≤1000):PadOk i=true:=by
 unfold PadOk fitsSsize
 have h1:Builtin.Str.tooLong i.toNat=false:=by
  show decide (_ > sizeLine)=false
  rw [decide_eq_false_iff_not,sizeLine_eq];omega
 rw [h1]
 simp
 omega
theorem biRjust:BI F ln (.builtin "str.rjust") (opV opRjust):=biV fun ρ B s h X vs xs rel r e Q q=>
 obE e fun p e1 e=>obE e fun x e2 e=>obE e fun i e3 e=>obE e fun c e4 e=>gdE e fun hi e=>obE e4 fun cs e4 e5=>rel.threeE e1 fun v u y hv rv ru ry=>rv.strE e2 fun t1 h1=>ru.intE e3 fun t2 h2=>ry.strE e4 fun t3 h3 σ hσ=>by
  subst hσ
  rw [←hv,←h1,←h2,←h3,←one_at e5]
  exact rjust_fill (pad_ok hi) rfl fun t' k=>⟨⟨rfl,rfl,rfl⟩,q _ _ (by rw [←e];show Is F.w B (.str (Txt.rjustF ⟨x.toArray⟩ i c) t') _;rw [rjust_at];exact .str _ t') fun _ _ e=>e⟩
theorem notbad{xs:List Nat}(h:∀ c∈xs,c < 128):xs.toArray.findIdx? Builtin._codecs.asciiCodec.bad=none:=by
 rw [List.findIdx?_toArray,List.findIdx?_eq_none_iff]
 intro c hc
 have:=h c hc
 show decide (c ≥ 128)=false
 rw [decide_eq_false_iff_not];omega
theorem forIn_two{β:Type}(n:Nat)(b b1:β)(f:Nat→β→Sem (ForInStep β))(h0:f 0 b=pure (.yield b1))(h1:f 1 b1=pure (.done b1)):(forIn [:n+1] b f:Sem β)=pure b1:=by
 rw [Std.Legacy.Range.forIn_eq_forIn_range']
 have e:[:n+1].size=n+1:=by simp [Std.Legacy.Range.size]
 rw [e,List.range'_succ,List.forIn_cons,h0,pure_bind]
 cases n with
 | zero=>rfl
 | succ n=>dsimp only;rw [List.range'_succ,List.forIn_cons,h1];rfl
theorem bindL_eq{α β:Type}{m:Sem α}{a:α}{k:α→Sem β}(e:m=pure a):(m >>= k)=k a:=by rw [e,pure_bind]
theorem foldB:∀ (xs:List Nat) (acc:Array UInt8),xs.foldl (fun acc y=>acc++(Builtin._codecs.asciiCodec.bytesOf y).toArray) acc=acc++(xs.map (·.toUInt8)).toArray
 | [],acc=>by simp
 | x::r,acc=>by
  rw [List.foldl_cons,foldB r]
  show acc++[x.toUInt8].toArray++_=_
  simp
theorem narrow0{x:Nat}{r:List Nat}(hx:∀ c∈x::r,c < 128):(x::r).toArray.foldl (fun acc y=>acc++(Builtin._codecs.asciiCodec.bytesOf y).toArray) #[]=((x::r).map (·.toUInt8)).toArray:=by
 rw [List.foldl_toArray',foldB]
 ·simp
 ·rfl
theorem encodeNarrow_ascii(id:String)(self:Value)(xs:List Nat)(hn:xs ≠ [])(hx:∀ c∈xs,c < 128)(hl:xs.length≤1000000):Builtin._codecs.encodeNarrow id Builtin._codecs.asciiCodec none self ⟨xs.toArray⟩=pure (xs.map (·.toUInt8)).toArray:=by
 unfold Builtin._codecs.encodeNarrow
 dsimp only
 induction xs with
 | nil=>exact absurd rfl hn
 | cons x r=>
  have hb:Builtin._codecs.asciiCodec.bad x=false:=decide_eq_false (Nat.not_le.mpr (hx x (.head _)))
  refine(bindL_eq (forIn_two r.length _ ((x::r).length,((x::r).map (·.toUInt8)).toArray,{}) _ ?_ ?_)).trans rfl
  ·dsimp only
   rw [if_neg (by simp),show (x::r).toArray[0]?=some x from rfl]
   dsimp only
   rw [hb]
   simp only [Bool.not_false,if_true]
   rw [show (x::r).toArray.extract 0 (x::r).toArray.size=(x::r).toArray from by simp,notbad hx]
   simp only [Option.getD_none]
   rw [show (x::r).toArray.extract 0 (x::r).toArray.size=(x::r).toArray from by simp,show 0+(x::r).toArray.size=(x::r).length from by simp,narrow0 hx]
  ·dsimp only
   rw [if_neg (by rw [List.size_toArray,List.length_map,sizeLine_eq];omega),show (x::r).toArray[(x::r).length]?=none from by simp]
noncomputable def nAscii:List Nat:=[97,115,99,105,105]
theorem encode_tree2(x:Str)(t u:Tok):Builtin.«str.encode» ⟨[.str x t,.str ⟨nAscii.toArray⟩ u],[]⟩=(do ret (←Builtin._codecs.encodeRoad "str.encode" (.str x t) x ⟨nAscii.toArray⟩ none)):=by
 have hc:Builtin.Str.codecArg "str.encode" "encode" "'encoding'" (some (.str ⟨nAscii.toArray⟩ u))=pure (some ⟨nAscii.toArray⟩):=by
  have h1:(nAscii.toArray.any fun x=>decide (x ≥ 128))=false:=by rw [List.any_toArray];decide
  have h2:nAscii.toArray.contains 0=false:=by rw [List.contains_toArray];decide
  show (do
   if (nAscii.toArray.any fun x=>decide (x ≥ 128))=true then unsupported s!"str.encode:non-ascii-name"
   if nAscii.toArray.contains 0=true then (do rule s!"str.encode.nul-in-name";raiseError "ValueError" "embedded null character")
   pure (some (⟨nAscii.toArray⟩:Str)):Sem (Option Str))=_
  rw [h1,h2]
  rfl
 show (do
  let encoding:=(←Builtin.Str.codecArg "str.encode" "encode" "'encoding'" (some (.str ⟨nAscii.toArray⟩ u))).getD "utf-8"
  ret (←Builtin._codecs.encodeRoad "str.encode" (.str x t) x encoding none):Sem PySem.Fin)=_
 rw [hc]
 rfl
theorem encodeRoad_ascii(id:String)(self:Value)(x:Str):Builtin._codecs.encodeRoad id self x ⟨nAscii.toArray⟩ none=(do mkBytes (←Builtin._codecs.encodeNarrow id Builtin._codecs.asciiCodec none self x)):=by
 first | rfl | (unfold Builtin._codecs.encodeRoad;rfl)
noncomputable def opEncode(_:S)(v u:V):Option T:=v.str?.bind fun x=>u.str?.bind fun c=>gd (c=nAscii∧x ≠ []∧x.length≤1000000∧x.all (fun c=>decide (c < 128))=true) (.bytes (x.map (·.toUInt8)))
theorem biEncode:BI F ln (.builtin "str.encode") (opV (op2 opEncode)):=biV2 fun ρ B s h X v x u c rv ru r e Q q=>
 obE e fun x e1 e=>obE e fun c e2 e=>gdE e fun hc e=>rv.strE e1 fun t h1=>ru.strE e2 fun u h2 σ hσ=>by
  have g:Gives (Builtin.«str.encode» ⟨[.str ⟨x.toArray⟩ t,.str ⟨nAscii.toArray⟩ u],[]⟩) (.bytes (x.map (·.toUInt8)).toArray):=by
   rw [encode_tree2,encodeRoad_ascii,encodeNarrow_ascii _ _ x hc.2.1 (fun c h=>of_decide_eq_true (List.all_eq_true.mp hc.2.2.2 c h)) hc.2.2.1]
   exact .of_eq rfl
  subst hσ
  rw [←h1,←h2,hc.1]
  exact call_gives PySem.F.slot_str_encode (typeIs_str _ _ _) PySem.F.entry_str_encode (PySem.F.args_str_encode_2 _ _) g ⟨by rw [List.size_toArray,List.length_map,sizeLine_eq];have:=hc.2.2.1;omega,⟨rfl,rfl,rfl⟩,q _ _ (e▸.bytes _ _) fun _ _ e=>e⟩
theorem wp_range'{M:Model}{A:Around}{E:Value→Shared→Prop}{σ:Shared}{β:Type}{n:Nat}{f:Nat→β→Sem (ForInStep β)}{Q:β→Shared→Prop}(I:Nat→β→Prop)
  (step:∀ i c,i < n→I i c→wpAny M A (f i c) (fun r s'=>s'=σ∧∃ c',r=.yield c'∧I (i+1) c') E σ) (fin:∀ c,I n c→Q c σ):∀ (k i:Nat) (c:β),i+k=n→I i c→wpAny M A (forIn (List.range' i k) c f) Q E σ:=by
 intro k
 induction k with
 | zero=>exact fun i c hi hc=>wpAny_pure (fin c ((Nat.add_zero i).symm.trans hi▸hc))
 | succ k ih=>
  intro i c hi hc
  rw [List.range'_succ,List.forIn_cons]
  refine wpAny_bind (wpAny_mono (step i c (by omega) hc) (fun r s' hs=>ex12 hs.2 fun c' hr hc'=>?_) fun _ _ e=>e)
  rw [hs.1,hr]
  exact ih (i+1) c' (by omega) hc'
theorem wp_range{M:Model}{A:Around}{E:Value→Shared→Prop}{σ:Shared}{β:Type}{n:Nat}{b:β}{f:Nat→β→Sem (ForInStep β)}{Q:β→Shared→Prop}(I:Nat→β→Prop)(h0:I 0 b)
  (step:∀ i c,i < n→I i c→wpAny M A (f i c) (fun r s'=>s'=σ∧∃ c',r=.yield c'∧I (i+1) c') E σ) (fin:∀ c,I n c→Q c σ):wpAny M A (forIn [:n] b f) Q E σ:=by
 rw [Std.Legacy.Range.forIn_eq_forIn_range',show [:n].size=n from by simp [Std.Legacy.Range.size]]
 exact wp_range' I step fin n 0 b (Nat.zero_add n) h0
theorem takeq{id:String}{b:Array UInt8}{t:Tok}:Builtin.Bytes.takeBufferQuiet? id (.bytes b t) 0=pure (some (b,none)):=by
 unfold Builtin.Bytes.takeBufferQuiet? Builtin.Bytes.takeBuffer?
 rw [KBy.special_eq KBy.look_buffer,KBy.own_buffer]
 have e:Builtin.Bytes.buffer? id (.bytes b t) (full:=(0:Int) == Builtin.Bytes.fullReadOnly)=pure (some b):=KBy.buffer_eq
 simp only [pure_bind,Bool.not_true,Bool.false_eq_true,if_false]
 rw [e]
 rfl
noncomputable def bvals(l:List (List UInt8×Tok)):List Value:=l.map fun p=>.bytes p.1.toArray p.2
theorem joined_go(sep:List UInt8)(bs:List (List UInt8)):∀ (k:Nat) (out:List UInt8),((bs.map List.toArray).zipIdx (k+1)).foldl (fun out (x:Array UInt8×Nat)=>(if x.2 > 0 then out++sep.toArray else out)++x.1) out.toArray=(out++joinR sep bs).toArray:=by
 induction bs with
 | nil=>intro k out;simp [joinR]
 | cons b r ih=>
  intro k out
  rw [List.map_cons,List.zipIdx_cons,List.foldl_cons]
  dsimp only
  rw [if_pos (Nat.succ_pos k),show out.toArray++sep.toArray++b.toArray=(out++sep++b).toArray from by simp,ih (k+1)]
  simp [joinR]
theorem joined_eq(sep:List UInt8)(bs:List (List UInt8)):Builtin.Bytes.joined sep.toArray (bs.map List.toArray)=(joinL sep bs).toArray:=by
 unfold Builtin.Bytes.joined
 induction bs with
 | nil=>rfl
 | cons x r=>
  rw [List.map_cons,List.zipIdx_cons,List.foldl_cons]
  dsimp only
  rw [if_neg (by decide),show (#[]:Array UInt8)++x.toArray=x.toArray from by simp]
  exact joined_go sep r 0 x
theorem joinR_len{α:Type}(sep:List α)(r:List (List α)):(joinR sep r).length=(r.map (·.length)).sum+sep.length * r.length:=by
 induction r with
 | nil=>simp [joinR]
 | cons y r ih=>
  show (sep++y++joinR sep r).length=_
  rw [List.length_append,List.length_append,ih,List.map_cons,List.sum_cons,List.length_cons,Nat.mul_succ]
  omega
theorem joinL_le{α:Type}(sep:List α)(bs:List (List α)):(joinL sep bs).length≤(bs.map (·.length)).sum+sep.length * bs.length:=by
 induction bs with
 | nil=>exact Nat.zero_le _
 | cons x r=>
  show (x++joinR sep r).length≤_
  rw [List.length_append,joinR_len,List.map_cons,List.sum_cons,List.length_cons,Nat.mul_succ]
  omega
theorem joinLetGo_ok{M:Model}{A:Around}{E:Value→Shared→Prop}{σ:Shared}{keep:List Value}{Q:Unit→Shared→Prop}(q:Q () σ):∀ taken:List (Value×Option Value),(∀ x∈taken,x.2=none∧x.1.onHeap=false)→wpAny M A (Builtin.Bytes.joinLetGo taken keep) Q E σ:=by
 intro taken
 induction taken with
 | nil=>exact fun _=>wpAny_pure q
 | cons p r ih=>
  intro h
  obtain⟨x,w⟩:=p
  obtain rfl:w=none:=(h _ (.head _)).1
  unfold Builtin.Bytes.joinLetGo
  exact wpAny_bind (wpAny_letGo (ih fun x hx=>h x (.tail _ hx)))
theorem sizes_le(bs:List (Array UInt8)):∀ (n:Nat),bs.toArray.foldl (fun a p=>a+p.size) n=n+(bs.map (·.size)).sum:=by
 intro n
 rw [show bs.toArray.foldl (fun a p=>a+p.size) n=bs.foldl (fun a p=>a+p.size) n from by simp]
 induction bs generalizing n with
 | nil=>simp
 | cons b r ih=>rw [List.foldl_cons,ih];simp;omega
theorem wp_pos{M:Model}{A:Around}{E:Value→Shared→Prop}{σ:Shared}{α:Type}{c:Prop}[Decidable c]{t f:Sem α}{Q:α→Shared→Prop}(h:c)(k:wpAny M A t Q E σ):wpAny M A (if c then t else f) Q E σ:=(if_pos h).symm▸k
theorem wp_neg{M:Model}{A:Around}{E:Value→Shared→Prop}{σ:Shared}{α:Type}{c:Prop}[Decidable c]{t f:Sem α}{Q:α→Shared→Prop}(h:¬c)(k:wpAny M A f Q E σ):wpAny M A (if c then t else f) Q E σ:=(if_neg h).symm▸k
theorem wp_items{w:World}{A:Around}{σ:Shared}{a:Addr}{vs:List Value}{n:Nat}(ho:σ.heap.get? a=some (seqObj "list" vs n)){Q:Option (Array Value)→Shared→Prop}{E:Value→Shared→Prop}(h:Q (some vs.toArray) σ):wpAny (model pw w) A (seqItems? (.ref a)) Q E σ:=by
 unfold seqItems?
 exact wpAny_bind (wpAny_load ho (wpAny_pure h))
abbrev Tak(c:Array (Array UInt8)×List (Value×Option Value))(l:List (List UInt8×Tok))(i:Nat):Prop:=c.1=((l.map (·.1.toArray)).take i).toArray∧∀ x∈c.2,x.2=none∧x.1.onHeap=false
theorem Tak.step{c:Array (Array UInt8)×List (Value×Option Value)}{l:List (List UInt8×Tok)}{i:Nat}(h:Tak c l i)(hi:i < l.length){v:Value}(hv:v.onHeap=false):Tak (c.1.push (l[i]).1.toArray,c.2++[(v,none)]) l (i+1):=by
 have e:(l.map (·.1.toArray)).take (i+1)=(l.map (·.1.toArray)).take i++[(l[i]).1.toArray]:=by
  rw [List.take_add_one,List.getElem?_map,List.getElem?_eq_getElem hi];rfl
 exact⟨by rw [e,h.1];simp,fun x hx=>(List.mem_append.mp hx).elim (h.2 x) fun hx=>List.mem_singleton.mp hx▸⟨rfl,hv⟩⟩
theorem Tak.any{c:Array (Array UInt8)×List (Value×Option Value)}{l:List (List UInt8×Tok)}{i:Nat}(h:Tak c l i):¬(c.2.any fun x=>x.1.onHeap)=true:=by
 rw [List.any_eq_true]
 exact fun⟨x,hx,e⟩=>no3 ((h.2 x hx).2.symm.trans e)
theorem Tak.full{c:Array (Array UInt8)×List (Value×Option Value)}{l:List (List UInt8×Tok)}{i:Nat}(h:Tak c l i)(hi:i=l.length):c.1=((l.map (·.1)).map List.toArray).toArray:=by
 rw [h.1,hi,List.take_of_length_le (by simp),List.map_map];rfl
theorem notLong{l:List (List UInt8×Tok)}{sep:List UInt8}(hl:((l.map (·.1)).map (·.length)).sum+sep.length * l.length≤1000000):¬Builtin.Bytes.tooLong (((l.map (·.1)).map List.toArray).toArray.foldl (fun a p=>a+p.size) (sep.toArray.size * (((l.map (·.1)).map List.toArray).toArray.size - 1)))=true:=by
 rw [KBy.tooLong_not (by
  rw [sizes_le]
  have e1:((List.map List.toArray (List.map (fun x=>x.1) l)).map (·.size))=(l.map (·.1)).map (·.length):=by rw [List.map_map];rfl
  have e2:sep.toArray.size * ((List.map List.toArray (List.map (fun x=>x.1) l)).toArray.size - 1)≤sep.length * l.length:=by
   rw [List.size_toArray,List.size_toArray,List.length_map,List.length_map];exact Nat.mul_le_mul_left _ (Nat.sub_le ..)
  rw [e1];omega)]
 exact Bool.false_ne_true
theorem W_bjoin{A:Around}{w:World}{σ:Shared}{a:Addr}{l:List (List UInt8×Tok)}{n:Nat}{sep:List UInt8}{t:Tok}(ho:σ.heap.get? a=some (seqObj "list" (bvals l) n))(hl:((l.map (·.1)).map (·.length)).sum+sep.length * l.length≤1000000){Q:PySem.Fin→Shared→Prop}{E:Value→Shared→Prop}
  (q:∀ t' k,Q (.done (.ret (.bytes (joinL sep (l.map (·.1))).toArray t'))) { σ with toks:=k }):wpAny (model pw w) A (Builtin.«bytes.join» ⟨[.bytes sep.toArray t,.ref a],[]⟩) Q E σ:=by
 show wpAny _ _ (Builtin.Bytes.joinM .bytes ⟨[.bytes sep.toArray t,.ref a],[]⟩) _ _ _
 unfold Builtin.Bytes.joinM
 refine wpAny_bind (m:=selfAndOne _ _) (wpAny_pure (wp_pos (by decide) (wpAny_bind ?_)))
 unfold Builtin.Bytes.joinItems
 refine wpAny_bind (wpAny_typeOf (T:="list") ⟨_,ho,rfl⟩ (wp_pos (by decide) (wpAny_pure (wpAny_bind (wp_items ho (wp_pos (by decide) ?_))))))
 have hsz:(bvals l).toArray.size=l.length:=by simp [bvals]
 have hat:∀ i (hi:i < l.length),(bvals l).toArray.getD i .none=.bytes (l[i]).1.toArray (l[i]).2:=fun i hi=>by simp [bvals,hi]
 have hone:∀ x,(bvals l).toArray=#[x]→∃ p,l=[p]∧x=.bytes p.1.toArray p.2:=fun x hx=>by
  have hx:=congrArg Array.toList hx
  match l,hx with
  | [p],hx=>
   have hx:[Value.bytes p.1.toArray p.2]=[x]:=hx
   cases hx;exact⟨p,rfl,rfl⟩
 have items:∀ {Q:Option (Array Value)→Shared→Prop} {E:Value→Shared→Prop},Q (some (bvals l).toArray) σ→wpAny (model pw w) A (seqItems? (.ref a)) Q E σ:=fun h=>wp_items ho h
 generalize (bvals l).toArray=arr at items hsz hat hone ⊢
 obtain⟨xs⟩:=arr
 rcases xs with _ | ⟨x,_ | ⟨y,r⟩⟩
 case cons.nil=>
  refine ex12 (hone _ rfl) fun p h1 h2=>?_
  rw [h1] at q
  rw [h2]
  refine wpAny_bind (wpAny_typeOf (T:="bytes") (typeIs_bytes _ _ _) (wp_pos (by decide) (wpAny_bind (wpAny_rule (wpAny_bind (wpAny_pure (wpAny_pure (show Q (.done (.ret (.bytes p.1.toArray p.2))) σ from ?_))))))))
  have:=q p.2 σ.toks
  rwa [show joinL sep ([p].map (·.1))=p.1 from List.append_nil _] at this
 all_goals
  refine wpAny_bind (wp_range (fun i c=>Tak c l i) ⟨by simp,by simp⟩ (fun i c hi hc=>?_) fun c hc=>?_)
  ·obtain⟨parts,taken⟩:=c
   have hi':i < l.length:=hsz▸hi
   refine wpAny_bind (items (wp_neg hc.any ?_))
   rw [hat i hi']
   exact wpAny_bind (wpAny_holding (wpAny_of_eq takeq (wpAny_bind (items (wp_neg (by simp) (wpAny_pure ⟨rfl,_,rfl,hc.step hi' rfl⟩))))))
  ·obtain⟨parts,taken⟩:=c
   have hf:parts=_:=hc.full hsz
   refine wpAny_bind (wpAny_of_eq (show Builtin.Bytes.payload (.bytes sep.toArray t)=pure sep.toArray from rfl) ?_)
   dsimp only
   rw [hf]
   refine wp_neg (notLong hl) ?_
   rw [show Builtin.Bytes.joined sep.toArray (((l.map (·.1)).map List.toArray).toArray.toList)=(joinL sep (l.map (·.1))).toArray from joined_eq sep _]
   exact wpAny_bind (wpAny_mkBytes (wpAny_bind (wpAny_holding (wpAny_point (wpAny_bind (joinLetGo_ok (wpAny_pure (q _ _)) taken hc.2))))) (by rw [List.size_toArray,sizeLine_eq];have:=joinL_le sep (l.map (·.1));rw [List.length_map] at this;omega))
theorem slot_bytes_join:Slot "bytes" "join" "bytes.join":=
 .of (owner:="bytes") (n:="join") (by rw [typeLookup_type,builtinLookup_eq_fast];kernel_rfl) (by decide +kernel) (by decide +kernel) (by decide +kernel)
  (by first | exact .inl (by decide +kernel) | exact .inr (by decide +kernel)) (by rw [isSubtype_type];kernel_rfl)
theorem entry_bytes_join:entryFor table "bytes.join"=some Builtin.«bytes.join»:=entryFor_of_tree (by kernel_rfl)
theorem args_bytes_join(a b:Value):argsOk "bytes.join" ⟨[a,b],[]⟩:=by unfold argsOk;rw [signature?_of (id:="bytes.join") (n:=['n','i','o','j']) (o:=['s','e','t','y','b']) (by kernel_rfl) FB.owner_bytes];kernel_rfl
theorem type_bytes_join:typeOf (.builtin "bytes.join")=pure (.type "method_descriptor"):=by kernel_rfl
noncomputable def asByts:List T→Option (List (List UInt8))
 | []=>some []
 | x::r=>x.byt?.bind fun b=>(asByts r).map (b::·)
theorem asByts_is{w:World}{vs:List Value}{xs:List T}(q:Seq w B vs xs):∀ {bs},asByts xs=some bs→∃ l,vs=bvals l∧l.map (·.1)=bs:=by
 induction q with
 | nil=>exact fun e=>smE e fun e=>⟨[],rfl,e⟩
 | @cons v x l m r _ ih=>exact fun e=>obE e fun b e1 e=>omE e fun bs e2 e=>Is.bytE (T.bytE (P:=fun y=>Is w B v y→Is w B v (.bytes b)) e1 id r) fun t hv=>ex12 (ih e2) fun l h1 h2=>⟨(b,t)::l,hv▸congrArg (_::·) h1,e▸congrArg (b::·) h2⟩
noncomputable def opBJoin(s:S)(v x:V):Option T:=v.byt?.bind fun sep=>((s.lst x).bind asByts).bind fun bs=>gd ((bs.map (·.length)).sum+sep.length * bs.length≤1000000) (.bytes (joinL sep bs))
theorem biBJoin:BI F ln (.builtin "bytes.join") (opV (op2 opBJoin)):=biV2 fun ρ B s h X v sep u x rv ru r e Q q=>
 obE e fun sep e0 e=>obE e fun ss e1 e=>gdE e fun hl e=>obE e1 fun ys e3 e4=>rv.bytE e0 fun tk hv=>X.lstE ru e3 fun a us m hu oa sq=>ex12 (asByts_is sq e4) fun l h1 h2 σ hσ=>by
  subst hσ
  rw [h1] at oa
  rw [←h2,List.length_map] at hl
  rw [←h2] at e
  exact hv▸hu▸wpAny_call_entry slot_bytes_join (typeIs_bytes _ _ _) entry_bytes_join (W_bjoin oa hl fun t' k=>⟨_,rfl,⟨rfl,rfl,rfl⟩,q _ _ (e▸.bytes _ _) fun _ _ e=>e⟩) (args_bytes_join _ _)
theorem miByt{a:Str}{c:String}(slot:Slot "bytes" a c)(hty:typeOf (.builtin c)=pure (.type "method_descriptor")):MI F ln a c isByt:=fun ρ B s h X v x r e pl σ hσ=>by
 subst hσ
 exact(Option.isSome_iff_exists.mp e).elim fun xs e=>r.bytE e fun t hv=>hv▸getMethod_builtin (typeIs_bytes _ _ _) FB.plainAttrs_bytes slot hty (fun b e=>by cases e) ⟨.refl σ,rfl,rfl⟩
noncomputable def drops(a:Int)(s:S)(v:V):Option Rv:=((s.lst v).bind fun xs=>gd (0≤a∧xs.length≤1000000) (.new (.list (xs.drop a.toNat)))).or (v.byt?.bind fun b=>gd (a=-1∧b.length ≠ 1∧b.length≤1000000) (.val (.bytes (b.drop (b.length - 1)))))
noncomputable def takes(b:Int)(s:S)(v:V):Option Rv:=(s.lst v).bind fun xs=>gd (0≤b∧xs.length≤1000000) (.new (.list (xs.take b.toNat)))
noncomputable def sliceV(lo hi:Option Int)(s:S)(v:V):Option Rv:=((gd (hi=none) lo).bind fun lo=>lo.bind fun a=>drops a s v).or ((gd (lo=none) hi).bind fun hi=>hi.bind fun b=>takes b s v)
def JP(F:Frm)(ln:List Str)(e:Option Expr)(d:Den (Option Int)):Prop:=J F ln (fun _ _ _ _ v x=>IsPart v x) (evalPart e F.E) d
theorem jP0:JP F ln none (fun s=>some (none,s)):=fun ρ B s h X x s' e σ hσ=>by
 subst hσ
 rw [evalPart_none]
 exact wpAny_pure ⟨.refl σ,so (P:=fun x s'=>Out F ln (fun _ _ _ _ v x=>IsPart v x) ρ B σ.heap x s' .none σ.heap) e ⟨ρ,B,.refl ..,X,.none⟩⟩
noncomputable def partV(_:S)(v:V):Option (Option Int):=v.int?.map some
theorem jP1{e:Expr}{d:Den V}(H:JV F ln (eval e F.E) d):JP F ln (some e) (d.opt partV):=fun ρ B s h X x s' q=>
 Den.optE q fun v e1 e2=>omE e2 fun i e2 e3=>(H ρ B s h X _ s' e1).monoO fun rv h1 ρ1 B1 S1 X1 r1=>r1.intE e2 fun t hv=>⟨ρ1,B1,S1,X1,e3▸hv▸.int _ _⟩
theorem picked_last(b:List UInt8)(hb:b.length ≠ 1):KBy.picked b.toArray (some (-1)) none=(b.drop (b.length - 1)).toArray∧KBy.whole b.toArray (some (-1)) none=false:=by
 have hc:clipAt b.length (-1)=b.length - 1:=clipAt_neg b.length 1 (by decide)
 have e:sliceBounds (some (-1)) none none b.toArray.size=(((b.length - 1:Nat):Int),(b.length:Int),1):=by
  rw [sliceBounds_plain,List.size_toArray]
  simp only [Option.elim_some,Option.elim_none,hc]
 unfold KBy.picked KBy.whole
 rw [e]
 constructor
 ·unfold Builtin.Bytes.sliced
  rw [sliceRange_one,pick_run]
  dsimp only
  rw [List.take_of_length_le]
  rw [List.length_drop]
  exact Nat.le_refl _
 ·cases b with
  | nil=>rfl
  | cons x r=>
   cases r with
   | nil=>exact absurd rfl hb
   | cons y r=>
    have:(((x::y::r).length - 1:Nat):Int) ≠ 0:=by simp only [List.length_cons];omega
    rw [beq_eq_false_iff_ne.mpr this]
    rfl
noncomputable abbrev slO(vl vu:Value):Obj:={ cls:=.type "slice",data:=.fields #[vl,vu,.none] }
abbrev SlW(F:Frm)(ln:List Str)(a b:Option Int)(v:V)(s':S)(rv:Rv):Prop:=∀ ρ B h o vl vu,Rel F ln ρ B s' h→RelV F.w ρ B o v→IsPart vl a→IsPart vu b→W F.w F.A (getItem o (.ref h.objs.size)) (h.push (slO vl vu)) (Out F ln (RvAt F) ρ B h rv s')
theorem sl_key{value:Expr}{lo hi:Option Expr}{sp p:Pos}{dv:Den V}{dl du:Den (Option Int)}(ht:∀ o r,letTemporaryGo value o r=pure ())(Hv:JV F ln (eval value F.E) dv)(Hl:JP F ln lo dl)(Hu:JP F ln hi du){s':S}(X:Rel F ln ρ B s h){rv:Rv}{v:V}{s1 s2:S}{a b:Option Int}
  (e1:dv s=some (v,s1)) (e3:dl s1=some (a,s2)) (e5:du s2=some (b,s')) {T id:String} (hlk:typeLookup (.type T) "__getitem__"=pure (some (.builtin id))) (hT:∀ ρ B h o,Rel F ln ρ B s' h→RelV F.w ρ B o v→∀ σ:Shared,σ.heap=h→σ.TypeIs o T) (hg:SlW F ln a b v s' rv) :
  W F.w F.A (eval (.Subscript value (.Slice lo hi none sp) p) F.E) h (Out F ln (RvAt F) ρ B h rv s'):=fun σ hσ=>by
 refine wpAny_Subscript_Slice hlk (W_wpO (Hv ρ B s h X v s1 e1) hσ (.refl σ) fun o σ1 T1 ρ1 B1 S1 X1 r1=>wpAny_Slice (W_wpO (Hl ρ1 B1 s1 _ X1 a s2 e3) rfl T1 fun vl σ2 T2 ρ2 B2 S2 X2 r2=>W_wpO (Hu ρ2 B2 s2 _ X2 b s' e5) rfl T2 fun vu σ3 T3 ρ3 B3 S3 X3 r3=>?_)) ht
 rw [evalPart_none]
 have ro:=(r1.step S2).step S3
 refine wpAny_pure ⟨hT _ _ _ _ (X3.pushN (slO vl vu)).2 ro _ rfl,W_wp (σ:={ σ3 with heap:=σ3.heap.push (slO vl vu) }) (σ0:=σ) (hg _ _ _ o vl vu X3 ro r2 r3) rfl ⟨T3.g,T3.d,T3.o⟩ fun r σ' T4 q=>⟨T4,q.preR ((S1.trans S2).trans S3)⟩⟩
theorem sl_list{a b:Option Int}{v:V}{xs ys:List T}(hx:s.lst v=some xs)(hl:xs.length≤1000000)(f:List Value→List Value)(hp:∀ us,slicePick us.toArray a b none=(f us).toArray)(hq:∀ (B:Base) us,Seq F.w B us xs→Seq F.w B (f us) ys):SlW F ln a b v s (.new (.list ys)):=fun ρ B h o vl vu X r pl pu σ hσ=>
 X.lstE r hx fun ad us n hv oa sq=>by
  have oa':σ.heap.get? ad=some (seqObj "list" us n):=hσ▸Heap.get?_push_of_some _ oa
  refine hv▸wpAny_getItem_list_slice ⟨_,oa',rfl,_,rfl⟩ (hσ▸Heap.IsSliceOf.new ..) pl pu .none (by simp) ⟨⟨rfl,rfl,rfl⟩,?_⟩ (by rw [List.size_toArray,sq.len,sizeL];omega)
  rw [hp us,hσ]
  have k:∀ b o,h.get? b=some o→((h.push (slO vl vu)).push (seqObj "list" (f us) 0)).get? b=some o:=fun b o e=>Heap.get?_push_of_some _ (Heap.get?_push_of_some _ e)
  have hf:h.get? (h.push (slO vl vu)).objs.size=none:=Option.eq_none_iff_forall_ne_some.mpr fun o z=>no1 ((get_size (h.push (slO vl vu))).symm.trans (Heap.get?_push_of_some _ z))
  exact⟨ρ,B,(X.same k).1,(X.same k).2,_,rfl,hf,(X.fresh hf).1,(X.fresh hf).2.1,f us,0,get_push rfl,hq B us sq⟩
theorem lst_type{v:V}{xs:List T}(hx:s.lst v=some xs):∀ ρ B h o,Rel F ln ρ B s h→RelV F.w ρ B o v→∀ σ:Shared,σ.heap=h→σ.TypeIs o "list":=fun ρ B h o X r σ hσ=>X.lstE r hx fun ad us n hv oa _=>by rw [←hv];exact⟨_,hσ▸oa,rfl⟩
theorem jSlice{value:Expr}{lo hi:Option Expr}{sp p:Pos}{dv:Den V}{dl du:Den (Option Int)}(ht:∀ o r,letTemporaryGo value o r=pure ())(Hv:JV F ln (eval value F.E) dv)(Hl:JP F ln lo dl)(Hu:JP F ln hi du) :
  JR F ln (eval (.Subscript value (.Slice lo hi none sp) p) F.E) (dv.bind fun v=>dl.bind fun a=>du.opt fun s b=>sliceV a b s v):=fun ρ B s h X rv s' e=>
 Den.bindE e fun v s1 e1 e2=>Den.bindE e2 fun a s2 e3 e4=>Den.optE e4 fun b e5 e6=>by
  refine orE e6 (fun e=>obE e fun lo' e6 e7=>gdE e6 fun hb hlo=>obE e7 fun k e7 e8=>orE e8 (fun e=>obE e fun xs hx e=>gdE e fun hk e=>?_) fun e=>obE e fun bs hx e=>gdE e fun hk e=>?_) fun e=>obE e fun hi' e6 e7=>gdE e6 fun hb hlo=>obE e7 fun k e7 e=>obE e fun xs hx e=>gdE e fun hk e=>?_
  ·rw [hlo,e7] at e3
   rw [hb] at e5
   refine e▸sl_key ht Hv Hl Hu X e1 e3 e5 list_getitem_lookup (lst_type hx) (sl_list hx hk.2 (List.drop k.toNat) (fun us=>?_) fun B us sq=>sq.drop _)
   have:=slicePick_from' us.toArray k.toNat
   rwa [show ((k.toNat:Nat):Int)=k from by omega] at this
  ·rw [hlo,e7,hk.1] at e3
   rw [hb] at e5
   refine e▸sl_key ht Hv Hl Hu X e1 e3 e5 FB.slot_bytes_getitem.lookup (fun ρ B h o X r σ hσ=>r.bytE hx fun t ho=>ho▸typeIs_bytes _ _ _) fun ρ B h o vl vu X r pl pu σ hσ=>r.bytE hx fun t ho=>?_
   have p12:=picked_last bs hk.2.1
   refine ho▸getItem_meets (typeIs_bytes _ _ _) (by decide) FB.slot_bytes_getitem FB.entry_bytes_getitem (FB.args_bytes_getitem_2 _ _) (KBy.meets_slice _ _ _ pl pu p12.2) ⟨hσ▸Heap.IsSliceOf.new ..,by rw [p12.1,List.size_toArray,List.length_drop,sizeLine_eq];have:=hk.2.2;omega,?_⟩
   rw [p12.1]
   exact⟨⟨rfl,rfl,rfl⟩,ρ,B,hσ▸(X.pushN (slO vl vu)).1,hσ▸(X.pushN (slO vl vu)).2,Is.bytes _ _⟩
  ·rw [hlo,e7] at e5
   rw [hb] at e3
   refine e▸sl_key ht Hv Hl Hu X e1 e3 e5 list_getitem_lookup (lst_type hx) (sl_list hx hk.2 (List.take k.toNat) (fun us=>?_) fun B us sq=>sq.take _)
   have:=slicePick_upto' us.toArray k.toNat
   rwa [show ((k.toNat:Nat):Int)=k from by omega] at this
noncomputable def negV(_:S)(v:V):Option V:=v.int?.map fun a=>.t (.int (-a))
theorem jNeg{e:Expr}{p:Pos}{d:Den V}(H:JV F ln (eval e F.E) d):JV F ln (eval (.UnaryOp .USub e p) F.E) (d.opt negV):=fun ρ B s h X v s' q=>
 Den.optE q fun x e1 e2=>omE e2 fun a e2 e3 σ hσ=>wpAny_UnaryOp (W_wpO (H ρ B s h X _ s' e1) hσ (.refl σ) fun rv σ1 T1 ρ1 B1 S1 X1 r1=>r1.intE e2 fun t hv=>hv▸PySem.P.neg_int ⟨⟨T1.g,T1.d,T1.o⟩,ρ1,B1,S1,X1,e3▸Is.int _ _⟩)
theorem Rel.butL{Is:List Addr}{h':Heap}(X:Rel F ln ρ B s h)(x:∀ I∈Is,Lo F ρ B I)(k:∀ b o,b ∉ Is→h.get? b=some o→h'.get? b=some o):Rel F ln ρ B s h':=by
 have ne:∀ {b},b∈F.own ρ→b ∉ Is:=fun hb e=>(x _ e).own hb
 exact⟨X.st,fun b o e=>k b o (fun q=>no1 ((x _ q).base.symm.trans e)) (X.le b o e),X.up,X.new,fun a ha=>(X.nsz a ha).elim fun o e=>⟨o,k a o (fun q=>(x _ q).nn ha) e⟩,X.nd,fun a ha=>(X.out a ha).elim fun o e=>⟨o,k a o (ne ha) e⟩,X.bn,X.br,X.pre,
  ex12 X.loc fun m hm q=>⟨m,hm.at' fun o e=>k _ o (ne (.head _)) e,q⟩,fun i c e=>ex12 (X.cel i c e) fun v hv q=>⟨v,ex12 hv fun o e1 e2=>⟨o,k _ o (ne (.tail _ (List.mem_append_left _ (List.mem_of_getElem? e)))) e1,e2⟩,q⟩,X.len,
  fun i b o e e'=>(X.led i b o e e').mono ⟨[],by simp⟩ (.refl B) fun ob z=>k _ ob (ne (.tail _ (List.mem_append_right _ (List.mem_of_getElem? e)))) z,X.kle⟩
theorem Step.butL{Is:List Addr}{ρ':List Addr}{B':Base}{h1 h':Heap}(st:Step F ρ B h ρ' B' h1)(hf:∀ I∈Is,h.get? I=Option.none)(k:∀ b o,b ∉ Is→h1.get? b=some o→h'.get? b=some o):Step F ρ B h ρ' B' h':=
 have ne:∀ b o,h.get? b=some o→b ∉ Is:=fun b o e q=>no1 ((hf b q).symm.trans e)
 ⟨st.pre,st.up,fun b o e n=>k b o (ne b o e) (st.keep b o e n),fun b o e=>(st.sz b o e).elim fun o' e'=>⟨o',k b o' (ne b o e) e'⟩,st.bn⟩
noncomputable def enumT:Nat→List T→List V
 | _,[]=>[]
 | i,x::r=>.t (.tup [.int (i:Nat),x])::enumT (i+1) r
abbrev EnSt(ea it' a:Addr)(arr:Array Value)(i:Nat)(h:Heap):Prop:=(∃ old,IsEnum h ea it' i old)∧h.IsListIter it' a i∧h.IsList a arr
structure EnAt(F:Frm)(ea it' a:Addr)(us:List Value)(m:Nat)(xs:List T)(i:Nat)(ρ':List Addr)(B':Base)(h:Heap):Prop where
 st:EnSt ea it' a us.toArray i h
 lo:∀ I∈[ea,it'],Lo F ρ' B' I
 base:B' a=some (seqObj "list" us m)
 sq:Seq F.w B' us xs
theorem EnSt.live{ea it' a:Addr}{arr:Array Value}{i:Nat}(z:EnSt ea it' a arr i h){I:Addr}(hI:I∈[ea,it']):∃ o,h.get? I=some o:=
 (List.mem_cons.mp hI).elim (fun e=>e▸z.1.elim fun _ z=>⟨_,z⟩) fun hI=>List.mem_singleton.mp hI▸ex11 z.2.1 fun o z=>⟨o,z.1⟩
theorem EnAt.step{ea it' a:Addr}{us:List Value}{m:Nat}{xs:List T}{i n:Nat}{Pt:Nat→Array Value→Prop}{Mid:Nat→Addr→Heap→Prop}(W0:WalksT pw F.w F.A ea [ea,it',a] [ea,it'] n Pt (EnSt ea it' a us.toArray) Mid){ρa ρb:List Addr}{Ba Bb:Base}{ha hb:Heap}{sa sb:S}(x:EnAt F ea it' a us m xs i ρa Ba ha)(Xa:Rel F ln ρa Ba sa ha)(S:Step F ρa Ba ha ρb Bb hb)(Xb:Rel F ln ρb Bb sb hb):EnAt F ea it' a us m xs i ρb Bb hb:=
 have b:=S.up _ _ x.base
 ⟨W0.frame i _ _ x.st fun c hc o e=>(List.mem_cons.mp hc).elim (fun q=>S.keep c o e (q▸(x.lo _ (.head _)).own)) fun hc=>(List.mem_cons.mp hc).elim (fun q=>S.keep c o e (q▸(x.lo _ (.tail _ (.head _))).own)) fun hc=>by
   rw [List.mem_singleton.mp hc] at e ⊢
   exact(Xb.le _ _ b).trans ((Xa.le _ _ x.base).symm.trans e),fun I hI=>(x.st.live hI).elim fun o e=>(x.lo I hI).step e S,b,x.sq.mono fun _ _ q=>q.mono S.up⟩
inductive EnumInv(F:Frm)(ln:List Str)(ρ:List Addr)(B:Base)(h:Heap)(σ:Shared)(ea it' a:Addr)(us:List Value)(m:Nat)(xs:List T)(ds:List (V→Den Unit))(db:Den Fl)(f:Fl)(s':S)(mm:Nat)(τ:Shared):Prop where
 | mk (i:Nat) (ρ':List Addr) (B':Base) (s_:S) (hm:xs.length - i=mm) (hi:i≤xs.length) (same:Same σ τ) (st:Step F ρ B h ρ' B' τ.heap) (rel:Rel F ln ρ' B' s_ τ.heap) (it:EnAt F ea it' a us m xs i ρ' B' τ.heap) (ed:dLoop (tTup ds) db (enumT i (xs.drop i)) s_=some (f,s'))
noncomputable def dForE(d:Den V)(ds:List (V→Den Unit))(db:Den Fl):Den Fl:=d.bind fun v s=>v.list?.bind fun xs=>(gd (xs.length≤1000000∧ds.length=2) xs).bind fun xs=>dLoop (tTup ds) db (enumT 0 xs) s
inductive EnOk(F:Frm)(ln:List Str)(ρ:List Addr)(B:Base)(h:Heap)(xs:List T)(s1:S)(it:Value)(h2:Heap):Prop where
 | mk (ea it' a:Addr) (us:List Value) (m:Nat) (ρ2:List Addr) (B2:Base) (hi:.ref ea=it) (st:Step F ρ B h ρ2 B2 h2) (X:Rel F ln ρ2 B2 s1 h2) (e:EnAt F ea it' a us m xs 0 ρ2 B2 h2) (f:∀ I∈[ea,it'],h.get? I=none) (ne:ea ≠ it')
theorem W_enum{x:Str}{np cp:Pos}{e:Expr}{d:Den V}(HN:JV F ln (eval (.Name x np) F.E) (dT (.con (.type "enumerate"))))(hn:noStar [e]=true)(H:JV F ln (eval e F.E) d)(X:Rel F ln ρ B s h){v:V}{s1:S}{xs:List T}(e1:d s=some (v,s1))(ev:v.list?=some xs) :
  W F.w F.A (eval (.Call (.Name x np) [e] [] cp) F.E) h fun v h'=>W F.w F.A (pyIter v) h' (EnOk F ln ρ B h xs s1):=
 W_callN (W_byName HN X fun ρ1 B1 h1 S1 X1=>W_cwT hn ((H ρ1 B1 s h1 X1 _ s1 e1).monoO fun rv h2 ρ2 B2 S2 X2 r2=>r2.listE ev fun a us m hv oa sq σ hσ=>by
  subst hσ
  refine hv▸call_enumerate_list ⟨_,X2.le _ _ oa,rfl,_,rfl⟩ fun h' he hit hz k=>⟨⟨rfl,rfl,rfl⟩,fun τ hτ=>?_⟩
  subst hτ
  have f1:=get_size σ.heap
  have f2:=heapI_none σ.heap
  refine wpAny_pyIter_enum he ⟨.refl τ,?_⟩
  have S12:=S1.trans S2
  exact⟨_,_,a,us,m,ρ2,B2,rfl,S12.trans (X2.same k).1,(X2.same k).2,⟨⟨⟨_,he⟩,hit,⟨_,k _ _ (X2.le _ _ oa),rfl,_,rfl⟩⟩,fun I hI=>(List.mem_cons.mp hI).elim (fun e=>e▸.at f2 X2) fun hI=>List.mem_singleton.mp hI▸.at f1 X2,oa,sq⟩,fun I hI=>(List.mem_cons.mp hI).elim (fun e=>e▸S12.none f2) fun hI=>List.mem_singleton.mp hI▸S12.none f1,Nat.succ_ne_self _⟩))
theorem jForE(n:Nm F ln cn gs){x:Str}{np cp tp p:Pos}{es:List Expr}{kt:Nat}{e:Expr}{body:List Stmt}{d:Den V}{ds:List (V→Den Unit)}{db:Den Fl}(HN:JV F ln (eval (.Name x np) F.E) (dT (.con (.type "enumerate"))))(hn:noStar [e]=true)(hs:noStar es=true)
  (hfs:∀ v,foldedSetIterable (.Call (.Name x np) [e] [] cp) F.E v=pure v) (H:JV F ln (eval e F.E) d) (Ht:JTs F ln es ds) (Hb:JS F ln (execs body F.E) db) :
  JS F ln (exec (.For (.Tuple es kt tp) (.Call (.Name x np) [e] [] cp) body [] p) F.E) (dForE d ds db):=fun ρ B s h X f s' q=>
 Den.bindE q fun v s1 e1 e2=>obE e2 fun xs ev e2=>obE e2 fun xs' e3 e4=>gdE e3 fun hl hx σ hσ=>wpAny_For (W_wp (W_enum HN hn H X e1 ev) hσ (.refl σ) fun x σ1 T1 H1=>W_wp H1 rfl T1 fun it σ2 T2 ok=>ok.casesOn fun ea it' a us m ρ2 B2 hi S2 X2 E2 Ff hne=>by
  rw [←hx] at e4
  rw [←hi]
  have inB:∀ {b o},B2 b=some o→b ≠ ea∧b ≠ it':=fun z=>⟨fun q=>no1 ((E2.lo _ (.head _)).base.symm.trans (q▸z)),fun q=>no1 ((E2.lo _ (.tail _ (.head _))).base.symm.trans (q▸z))⟩
  have W0:=WalksT.enumerate (prog:=pw) (w:=F.w) (A:=F.A) n.ar.hd ea it' a hne (inB E2.base).1 (inB E2.base).2 us.toArray
  have hsz:us.toArray.size=xs.length:=by rw [List.size_toArray,E2.sq.len]
  refine codeAny_forLoop_any (EnumInv F ln ρ B h σ ea it' a us m xs ds db f s') (fun mm τ J=>J.casesOn fun i ρ' B' s_ hm hi same st rel it ed=>?_) xs.length ⟨0,ρ2,B2,s1,rfl,Nat.zero_le _,T2,S2,X2,E2,e4⟩
  rcases Nat.lt_or_ge i xs.length with hlt | hge
  ·refine W0.item i τ _ _ (by rw [hsz];exact hlt) it.st fun T vals h1 tk hP hT hTup hM hk=>?_
   refine ex22 hP fun ti v hv hvals=>W0.go _ _ _ i T { τ with heap:=h1,toks:=tk } _ _ hM fun h2 hst2 hk2=>?_
   have kk:∀ b o,b ∉ [ea,it']→τ.heap.get? b=some o→h2.get? b=some o:=fun b o q e=>hk2 b o q (hk b o q e)
   have X1:=rel.butL it.lo kk
   have st1:=st.butL Ff kk
   refine ex12 (it.sq.some_right ((List.getElem?_toArray ..).symm.trans hv)) fun x hx rx=>?_
   rw [List.drop_eq_getElem_cons hlt,show xs[i]=x from Option.some.inj ((List.getElem?_eq_getElem hlt).symm.trans hx)] at ed
   refine Den.bindE ed fun _ s3 e3 e4=>obE e3 fun zs e5 e6=>obE e6 fun ys e6 e7=>gdE e6 fun _ hy=>?_
   rw [←hy,←Option.some.inj e5] at e7
   rw [hvals] at hTup
   show wpAny _ _ (do standAt tp;unpack (.ref T) (assignEach es F.E)) _ _ _
   refine wpAny_bind (wpAny_standAt (W_wpU (σ:={ τ with heap:=h2,toks:=tk }) (σ0:=σ) (W_unpack n X1 hs Ht (vs:=[.int i ti,v]) (xs:=[.t (.int i),.t x]) (ex13 hTup fun o z r1 r2=>⟨o,hk2 _ _ (W0.apart i T h1 hM) z,r1,r2⟩) (.cons (Is.int _ _) (.cons rx .nil)) hl.2.symm e7) rfl (same.trans ⟨rfl,rfl,rfl⟩) fun τ2 T3 ρ3 B3 S3 X3=>?_))
   have it2:EnAt F ea it' a us m xs (i+1) ρ' B' h2:=⟨hst2,it.lo,it.base,it.sq⟩
   have it3:=it2.step W0 X1 S3 X3
   exact body_end Hb T3 X.kle (st1.trans S3) X3 e4 (fun s4 τ3 ρ4 B4 T4 S4 X4 e5=>⟨xs.length - (i+1),by omega,i+1,ρ4,B4,s4,rfl,hlt,T4,(st1.trans S3).trans S4,X4,it3.step W0 X3 S4 X4,e5⟩) fun v τ3 T4 q=>⟨T4,q⟩
  ·have hi:i=xs.length:=Nat.le_antisymm hi hge
   refine W0.done τ _ _ (by rw [hsz,←hi];exact it.st) fun h' tk hk=>?_
   rw [hi,List.drop_length] at ed
   exact wpAny_execs_nil ⟨same.trans ⟨rfl,rfl,rfl⟩,nextP ed rfl ⟨ρ',B',st.butL Ff hk,rel.butL it.lo hk⟩⟩) hfs
noncomputable def opRepr(_:S)(v:V):Option T:=v.tup?.bind fun ys=>(T.py (.tup ys)).bind fun d=>gd (d.showable=true∧d.hasDict=false∧d.depth≤3∧d.shown.length≤1000000) (.str d.shown.cps.toList)
theorem biRepr(n:Nm F ln cn gs)(hr:1≤F.r):BI F ln (.builtin "repr") (opV (op1 opRepr)):=biV1 fun ρ B s h X v x rv r e Q q=>
 obE e fun ys e1 e=>obE e fun d e2 e=>gdE e fun hc e=>rv.tupE e1 fun a us m hv oa sq=>(Is.reads X.le (Is.of_tup oa sq) d e2).elim fun as hR σ hσ=>by
  subst hσ
  have hu:=n.ar.un
  exact hv▸repr_of_reads' hR hc.1 (fun e=>no3 (hc.2.1.symm.trans e)) n.ar.gd (by have:=hc.2.2.1;omega) (fun b o e=>e) (fun h' u tk k=>⟨⟨rfl,rfl,rfl⟩,q _ _ (e▸by have:=Is.str (w:=F.w) (B:=B) d.shown.cps.toList u;simpa using this) k⟩) (by rw [sizeLine_eq];have:=hc.2.2.2;omega)
noncomputable def dDict1(dk dv:Den V):Den MO:=dk.bind fun k=>dv.opt fun _ v=>k.key.bind fun kk=>v.tr?.map fun v=>.dict [(kk,v)]
theorem jDict1{k v:Expr}{p:Pos}{dk dv:Den V}(Hk:JV F ln (eval k F.E) dk)(Hv:JV F ln (eval v F.E) dv):JN F ln (eval (.Dict [some k] [v] p) F.E) (dDict1 dk dv):=fun ρ B s h X o s' e=>
 Den.bindE e fun x s1 e1 e2=>Den.optE e2 fun y e3 e4=>obE e4 fun kk e5 e6=>omE e6 fun y' e7 e8=>obE e5 fun x' e9 e10=>by
  intro σ hσ
  subst hσ
  have lo:=Lo.at (get_size σ.heap) X
  refine wpAny_Dict_pairs (knd:=mixKind pw F.w) (pairs:=[(eval k F.E,do let x ←eval v F.E;standAt p;pure x)]) rfl (by simp) (by simp) ?_
  have hDo:(σ.heap.push (dicObj [] 0)).get? σ.heap.objs.size=some (dicObj [] 0):=get_push rfl
  have S0:=X.pushN (dicObj [] 0)
  show wpAny _ _ (eval k F.E >>= _) _ _ _
  refine wpAny_bind (W_wpO (σ:={ σ with heap:=σ.heap.push (dicObj [] 0) }) (σ0:=σ) (Hk ρ B s _ S0.2 _ s1 e1) rfl ⟨rfl,rfl,rfl⟩ fun kv σ1 T1 ρ1 B1 S1 X1 r1=>?_)
  refine wpAny_bind (wpAny_holding (wpAny_bind (W_wpO (Hv ρ1 B1 s1 _ X1 _ s' e3) rfl T1 fun vv σ2 T2 ρ2 B2 S2 X2 r2=>wpAny_bind (wpAny_standAt (wpAny_pure ?_)))))
  refine wpAny_bind (wpAny_holding (wpAny_pure (wpAny_pure (r1.trE e9 fun r1=>r2.trE e7 fun r2=>?_))))
  have S12:=S1.trans S2
  have lo2:=lo.step hDo S12
  have hd:σ2.heap.DictOf (mixKind pw F.w) σ.heap.objs.size []:=⟨_,_,_,S12.keep _ _ hDo lo.own,⟨rfl,rfl,rfl⟩,rfl,by intro e he;simp at he,.nil,by simp⟩
  refine⟨[(kk,vv)],⟨T.key_holds r1 e10,rfl,trivial⟩,hd,fun h' hd' hs'=>⟨⟨T2.g,T2.d,T2.o⟩,?_⟩⟩
  have kp:∀ b o,b ≠ σ.heap.objs.size→σ2.heap.get? b=some o→h'.get? b=some o:=fun b o q e=>hs'.extBut b o q e
  exact ex22 (Dic.ofDictOf (d:=[(kk,y')]) hd' (.cons ⟨rfl,r2⟩ .nil)) fun es' n' o' sa'=>⟨ρ2,B2,(S0.1.trans S12).but (get_size _) kp,X2.but lo2 kp,_,rfl,get_size _,lo2.base,lo2.own,e8▸⟨es',n',o',sa',X.notSys (get_size _),by simp⟩⟩
noncomputable def dInc(d:Den V):Den MO:=d.opt fun s v=>((s.dic v).bind fun d=>asInts (d.map fun p=>p.1.t)).bind fun is=>gd (is.length≤1000000) (.list (is.map fun i=>.int (i+1)))
def incIs(v y:Value):Prop:=∃ i t u,v=.int i t∧y=.int (i+1) u
theorem inc_pairs{w:World}{vs ys:List Value}(q:Paired incIs vs ys):∀ {is:List Int},(∀ (j:Nat) (v:Value),vs[j]?=some v→∃ t,.int (is.getD j 0) t=v)→vs.length=is.length→Seq w B ys (is.map fun i=>T.int (i+1)):=by
 induction q with
 | nil=>exact fun _ hl=>List.length_eq_zero_iff.mp hl.symm▸.nil
 | cons r _ ih=>
  intro is k hl
  cases is with
  | nil=>exact absurd hl (by simp)
  | cons i is=>
   refine .cons (ex32 r fun j t u h1 h2=>(k 0 _ rfl).elim fun t' e=>?_) (ih (fun j v e=>by have:=k (j+1) v (by simpa using e);simpa using this) (by simpa using hl))
   have e:i=j:=by have:=e.trans h1;injection this
   exact h2▸e▸Is.int _ _
theorem lits_dic{v:V}{d:List (K×T)}(e:s.dic v=some d):s.lits v=some (d.map fun p=>p.1.t):=by
 have z:s.lst v=none:=by
  induction v with
  | t x=>exact T.dictE (P:=fun x=>x.list?=none) e rfl
  | loc i=>exact obE e fun o e1 e2=>(congrArg (Option.bind · MO.list?) e1).trans (MO.dictE (P:=fun o=>o.list?=none) e2 rfl)
  | lst=>exact no1 e
 unfold S.lits
 rw [e,z]
 rfl
theorem jInc(n:Nm F ln cn gs){sc:Scope}{ln' fr gs':List Str}{iter:Expr}{x:Str}{px p1 p2 p3 pos:Pos}{k1:Nat}(k:CompOk sc ln' fr gs')(hfr:∀ y∈fr,y∈cn)(hx:x∈ln')(hs:∀ v,foldedSetIterable iter F.E v=pure v){d:Den V}(H:JV F ln (eval iter F.E) d) :
  JN F ln (eval (.ListComp (.BinOp (.Name x p1) .Add (.Constant (.int 1) k1 p2) p3) [⟨.Name x px,iter,[],0⟩] sc pos) F.E) (dInc d):=fun ρ B s h X o s' e=>
 Den.optE e fun v e1 e2=>obE e2 fun is e3 e4=>obE e3 fun dd e5 e6=>gdE e4 fun hl e4=>(closure_of n k hfr).elim fun cl hcl σ hσ=>by
  refine wpAny_ListComp_free (fun _=>true) incIs hcl.1 k.cell k.kind k.loc (k.lns x hx).1 (W_wpO (H ρ B s h X v s' e1) hσ (.refl σ) fun rv σ1 T1 ρ1 B1 S1 X1 r1=>iter_lits X1 r1 (lits_dic e5) (A:=F.A) n.ar.hd rfl fun h2 I fp P St k2 hI W st hfp it=>?_) hs
  have hsz:(dd.map fun p=>p.1.t).length≤sizeLine:=by rw [←asInts_len e6,sizeL];omega
  have S2:=X1.same k2
  have intAt:∀ i v,P i v→∃ t,.int (is.getD i 0) t=v:=fun i v hv=>ex12 (it i v hv) fun y hy r=>Is.intE ((asInts_at e6 hy).2▸r) fun t h=>⟨t,h⟩
  refine⟨I,fp,[I],_,P,St,rfl,W,hsz,st,hfp,⟨fun C i v s₃ m₃ E' hC hP hN hm hk htk=>wpAny_pure ⟨rfl,s₃.heap,s₃.toks,rfl,fun _ _ e=>e⟩,fun C i v s₃ m₃ E' hC hP _ hN hm hk htk=>(intAt i v hP).elim fun t hv=>?_⟩,fun D h3 tk ys vs hD hIs hPl hlen hP hF hk=>?_⟩
  ·have hk':(compEnvC sc cl C F.E).kindOf x=some .local:=by rw [kind_relabel,(k.lns x hx).1];rfl
   rw [←hv]
   rw [←hv] at hm
   exact wpAny_BinOp (wpAny_Name (wpAny_loadName_local k.kind hk' hN hm (wpAny_Constant_int (PySem.P.add_int ⟨⟨_,_,_,rfl,rfl⟩,_,_,rfl,fun _ _ e=>e⟩))) (k.lns x hx).2)
  ·rw [List.filter_eq_self.mpr (by simp)] at hF
   have sq:Seq F.w B1 ys.toList (is.map fun i=>T.int (i+1)):=inc_pairs hF (fun j v e=>intAt j v (hP j v e)) (by rw [hlen,asInts_len e6])
   have hkk:∀ b o,b ≠ I→h2.get? b=some o→h3.get? b=some o:=fun b o q e=>hk b o (fun z=>q (List.mem_singleton.mp z)) e
   have hD1:σ1.heap.get? D=none:=Option.eq_none_iff_forall_ne_some.mpr fun o z=>no1 (hD.symm.trans (k2 _ _ z))
   have fD:=X1.fresh hD1
   exact hPl.elim fun m hm=>⟨⟨T1.g,T1.d,T1.o⟩,ρ1,B1,(S1.trans S2.1).but (S1.none hI) hkk,S2.2.but (.at hI X1) hkk,D,rfl,S1.none hD1,fD.1,fD.2.1,e4▸⟨ys.toList,m,by rw [hm],sq⟩⟩
theorem slot_bytes_find:Slot "bytes" "find" "bytes.find":=
 .of (owner:="bytes") (n:="find") (by rw [typeLookup_type,builtinLookup_eq_fast];kernel_rfl) (by decide +kernel) (by decide +kernel) (by decide +kernel)
  (by first | exact .inl (by decide +kernel) | exact .inr (by decide +kernel)) (by rw [isSubtype_type];kernel_rfl)
theorem entry_bytes_find:entryFor table "bytes.find"=some Builtin.«bytes.find»:=entryFor_of_tree (by kernel_rfl)
theorem args_bytes_find(a b c:Value):argsOk "bytes.find" ⟨[a,b,c],[]⟩:=by unfold argsOk;rw [signature?_of (id:="bytes.find") (n:=['d','n','i','f']) (o:=['s','e','t','y','b']) (by kernel_rfl) FB.owner_bytes];kernel_rfl
theorem type_bytes_find:typeOf (.builtin "bytes.find")=pure (.type "method_descriptor"):=by kernel_rfl
noncomputable def findL(b sub:List UInt8)(i:Nat):Int:=(((List.range (b.length+1 - (i+sub.length))).map (·+i)).find? fun j=>(b.drop j).take sub.length == sub).elim (-1) fun j=>(j:Nat)
noncomputable def opFind(_:S)(xs:List V):Option T:=(three? xs).bind fun p=>p.1.byt?.bind fun b=>p.2.1.byt?.bind fun sub=>p.2.2.int?.bind fun i=>gd (0≤i∧i≤1000000∧i+sub.length≤b.length) (.int (findL b sub i.toNat))
theorem find_eq(b sub:List UInt8)(i:Nat):Builtin.Bytes.find? b.toArray sub.toArray i b.length=((List.range (b.length+1 - (i+sub.length))).map (·+i)).find? fun j=>(b.drop j).take sub.length == sub:=by
 unfold Builtin.Bytes.find?
 rw [List.size_toArray]
 congr 1
 funext j
 have:b.toArray.extract j (j+sub.length)=((b.drop j).take sub.length).toArray:=by
  rw [List.extract_toArray,List.extract_eq_take_drop]
  simp
 rw [this]
 rw [Bool.eq_iff_iff]
 simp
theorem W_bfind{A:Around}{w:World}{σ:Shared}{b sub:List UInt8}{i:Int}{t u v:Tok}(h0:0≤i)(h1:i+sub.length≤b.length){Q:PySem.Fin→Shared→Prop}{E:Value→Shared→Prop}
  (q:∀ t' k,Q (.done (.ret (.int (findL b sub i.toNat) t'))) { σ with toks:=k }):wpAny (model pw w) A (Builtin.«bytes.find» ⟨[.bytes b.toArray t,.bytes sub.toArray u,.int i v],[]⟩) Q E σ:=by
 show wpAny _ _ (Builtin.Bytes.searchM .bytes "find" false false ⟨[.bytes b.toArray t,.bytes sub.toArray u,.int i v],[]⟩) _ _ _
 unfold Builtin.Bytes.searchM
 refine wpAny_bind ?_
 unfold Builtin.Bytes.searchArgs
 refine wpAny_bind (m:=selfAndSome _ _ _ _ _) (wpAny_pure (a:=(Value.bytes b.toArray t,[Value.bytes sub.toArray u,Value.int i v])) ?_)
 dsimp only
 have b1:Builtin.Bytes.bound? (some (.int i v))=pure (some i):=by
  have e:specialOf (.int i v) "__index__"=typeLookup (.type "int") "__index__":=rfl
  unfold Builtin.Bytes.bound?
  dsimp only
  rw [e,PySem.F.slot_int_index.lookup]
  rfl
 refine wpAny_bind (wpAny_of_eq b1 ?_)
 refine wpAny_bind (wpAny_of_eq (a:=none) rfl ?_)
 refine wpAny_bind (wpAny_of_eq KBy.buffer_eq ?_)
 dsimp only
 refine wpAny_bind (wpAny_pure ?_)
 refine wpAny_bind (wpAny_of_eq (show Builtin.Bytes.payload (.bytes b.toArray t)=pure b.toArray from rfl) ?_)
 have hw:Builtin.Bytes.window b.toArray.size (some i) none=(i,(b.length:Int)):=by
  unfold Builtin.Bytes.window
  simp only [Option.getD_some,Option.getD_none,List.size_toArray]
  have n1:¬i < 0:=by omega
  have n2:¬((b.length:Int) < 0):=by omega
  rw [if_neg n1,if_neg n2]
  simp
 rw [hw]
 dsimp only
 rw [if_neg (by rw [List.size_toArray];omega)]
 refine wpAny_pure ?_
 dsimp only
 have hf:=find_eq b sub i.toNat
 have hn:((b.length:Int)).toNat=b.length:=by simp
 simp only [Option.bind_some,Bool.false_eq_true,if_false,hn]
 rw [hf]
 unfold findL at q
 generalize (((List.range (b.length+1 - (i.toNat+sub.length))).map (·+i.toNat)).find? fun j=>(b.drop j).take sub.length == sub)=g at q
 cases g with
 | some j=>exact wpAny_bind (wpAny_mkInt (wpAny_pure (q _ _)))
 | none=>exact wpAny_bind (wpAny_rule (wpAny_bind (wpAny_mkInt (wpAny_pure (q _ _)))))
theorem biFind:BI F ln (.builtin "bytes.find") (opV opFind):=biV fun ρ B s h X vs xs rel r e Q q=>
 obE e fun p e1 e=>obE e fun b e2 e=>obE e fun sub e3 e=>obE e fun i e4 e=>gdE e fun hc e=>rel.threeE e1 fun v u y hv rv ru ry=>rv.bytE e2 fun t1 h1=>ru.bytE e3 fun t2 h2=>ry.intE e4 fun t3 h3 σ hσ=>by
  subst hσ
  exact hv▸h1▸h2▸h3▸wpAny_call_entry slot_bytes_find (typeIs_bytes _ _ _) entry_bytes_find (W_bfind hc.1 hc.2.2 fun t' k=>⟨_,rfl,⟨rfl,rfl,rfl⟩,q _ _ (e▸.int _ _) fun _ _ e=>e⟩) (args_bytes_find _ _ _)
end
noncomputable def isName:Expr→Bool
 | .Name ..=>true
 | _=>false
noncomputable def baseB:Expr→Bool
 | .Call f as ks _=>!(isName f && as.isEmpty && ks.isEmpty)
 | _=>true
theorem base_eq{o:Expr}{a:Str}{E:Env}{t:Sem Value}(h:baseB o=true):attributeBase o a E t=t:=by
 cases o <;> first
  | rfl
  | (rename_i f as ks p;cases as <;> first
    | rfl
    | (cases ks <;> first
     | rfl
     | (cases f <;> first | rfl | exact no3 h)))
  | (rename_i f as ks p;cases f <;> first
    | rfl
    | (cases as <;> first | rfl | (cases ks <;> first | rfl | exact no3 h)))
noncomputable def notTest:Expr→Bool
 | .BoolOp ..=>false
 | .UnaryOp ..=>false
 | .IfExp ..=>false
 | .Compare ..=>false
 | _=>true
theorem isTrue_eq{e:Expr}{E:Env}(h:notTest e=true):isTrue e E (eval e E)=(do let v ←eval e E;standAt e.pos;holding [v] (truthy v)):=by
 cases e <;> first | rfl | (cases h;done)
noncomputable def notComp:Expr→Bool
 | .ListComp ..=>false
 | .SetComp ..=>false
 | .DictComp ..=>false
 | _=>true
theorem swaps_no{e:Expr}{E:Env}{t:Option Expr}{l:Nat}(h:notComp e=true):swapsWith e t l E=pure false:=by
 cases e <;> first | rfl | (cases h;done)
noncomputable def notSet:Expr→Bool
 | .Set ..=>false
 | _=>true
theorem folded_no{e:Expr}{E:Env}(h:notSet e=true)(v:Value):foldedSetIterable e E v=pure v:=by
 cases e <;> first | rfl | (cases h;done)
theorem attr_eq{o:Expr}{x:Str}{p:Pos}{E:Env}(h:baseB o=true):eval (.Attribute o x p) E=(do
   let v ←eval o E
   standAt p.atName
   let r ←holding [v] (getAttr v x true)
   letTemporaryGo o v r
   pure r):=by
 rw [arm_eval_Attribute,base_eq h]
theorem callM_eq{o:Expr}{a:Str}{ap p:Pos}{as:List Expr}{E:Env}(h:baseB o=true)(hp:(ap.endLine == p.line)=true)(hn:noStar as=true)(hl:as.length < 29):eval (.Call (.Attribute o a ap) as [] p) E=(do
   let ov ←eval o E
   standAt ap.atName
   let (f,first) ←holding [ov] (getMethod ov a (do return (←importBound o E).getD true))
   callWith p f first (backTo p (starEach as E)) (backToKw p (keywordEach [] E))):=by
 have few:methodCallForm (as.length+([]:List Keyword).length) (backTo p (starEach as E)) (backToKw p (keywordEach [] E))=true:=by
  rw [trees_plain p hn]
  unfold methodCallForm
  have e:backToKw p (keywordEach [] E)=[]:=rfl
  rw [e]
  simp only [List.all_map,List.all_nil,Bool.and_true,List.isEmpty_nil,if_true,Bool.and_eq_true,decide_eq_true_eq]
  exact⟨by simp,by simp only [List.length_nil];omega⟩
 rw [arm_eval_Call,base_eq h]
 unfold methodCall
 rw [few]
 have e2:methodCallPos true o E ap p=pure p:=by unfold methodCallPos;rw [hp];rfl
 rw [e2]
 rfl
section
variable {F:Frm} {ln cn gs:List Str} {ρ:List Addr} {B:Base} {s:S} {h:Heap}
structure Fs where
 a:Option Tok
 b:Option Tok
 c:Option Tok
 d:Option Tok
noncomputable def one:Int→Option Tok→List (Int×Value)
 | i,some t=>[(hashInt i,.int i t)]
 | _,none=>[]
noncomputable def plc:Nat→Option Tok→List Nat
 | i,some _=>[i]
 | _,none=>[]
noncomputable def num:Int→Option Tok→List Int
 | i,some _=>[i]
 | _,none=>[]
noncomputable def Fs.es(f:Fs):List (Int×Value):=one 1 f.a++(one 3 f.b++(one 12 f.c++one 5 f.d))
noncomputable def Fs.ns(f:Fs):List Int:=num 1 f.a++(num 3 f.b++(num 12 f.c++num 5 f.d))
noncomputable def Fs.tb(f:Fs)(led:Bool):SetTable:=⟨7,(plc 1 f.a++(plc 3 f.b++(plc 4 f.c++plc 5 f.d))).toArray,#[],0,led,0,true⟩
noncomputable def setO(f:Fs)(ep:Nat)(led:Bool):Obj:=⟨.type "set",none,.set f.es.toArray ep (f.tb led),#[]⟩
noncomputable def ori(t:Tok):Option Tok→Option Tok
 | some u=>some u
 | none=>some t
noncomputable def Fs.put(f:Fs)(x:Int)(t:Tok):Fs:=if x=1 then { f with a:=ori t f.a } else if x=3 then { f with b:=ori t f.b } else if x=12 then { f with c:=ori t f.c } else { f with d:=ori t f.d }
noncomputable def Fs.get(f:Fs)(x:Int):Option Tok:=if x=1 then f.a else if x=3 then f.b else if x=12 then f.c else f.d
noncomputable def nums:List Int:=[1,3,12,5]
theorem numsE{x:Int}{P:Int→Prop}(h:x∈nums)(h1:P 1)(h2:P 3)(h3:P 12)(h4:P 5):P x:=by
 simp only [nums,List.mem_cons,List.not_mem_nil,or_false] at h
 rcases h with h | h | h | h <;> rw [h] <;> assumption
theorem lay_new{x:Int}(hx:x∈nums)(t:Tok)(led:Bool)(f:Fs):f.get x=none→layNew (f.tb led) f.es.toArray (hashInt x) (.int x t)=((f.put x t).es.toArray,(f.put x t).tb led,false,false):=by
 refine numsE (P:=fun x=>f.get x=none→layNew (f.tb led) f.es.toArray (hashInt x) (.int x t)=((f.put x t).es.toArray,(f.put x t).tb led,false,false)) hx ?_ ?_ ?_ ?_ <;> rcases f with ⟨_ | a,_ | b,_ | c,_ | d⟩ <;> intro h <;> first | exact no2 h | kernel_rfl
theorem put_same{x:Int}(hx:x∈nums)(t u:Tok)(f:Fs):f.get x=some u→f.put x t=f:=by
 refine numsE (P:=fun x=>f.get x=some u→f.put x t=f) hx ?_ ?_ ?_ ?_ <;> rcases f with ⟨_ | a,_ | b,_ | c,_ | d⟩ <;> intro h <;> first | exact no1 h | rfl
theorem scan_new{x:Int}(hx:x∈nums)(f:Fs):f.get x=none→f.es.findIdx? (fun e=>Value.isInt x e.2)=none:=by
 refine numsE (P:=fun x=>f.get x=none→f.es.findIdx? (fun e=>Value.isInt x e.2)=none) hx ?_ ?_ ?_ ?_ <;> rcases f with ⟨_ | a,_ | b,_ | c,_ | d⟩ <;> intro h <;> first | exact no2 h | kernel_rfl
theorem scan_old{x:Int}(hx:x∈nums)(u:Tok)(f:Fs):f.get x=some u→(f.es.findIdx? (fun e=>Value.isInt x e.2)).isSome=true:=by
 refine numsE (P:=fun x=>f.get x=some u→(f.es.findIdx? (fun e=>Value.isInt x e.2)).isSome=true) hx ?_ ?_ ?_ ?_ <;> rcases f with ⟨_ | a,_ | b,_ | c,_ | d⟩ <;> intro h <;> first | exact no1 h | kernel_rfl
theorem tb_ok(f:Fs)(led:Bool):(f.tb led).fits f.es.toArray.size=true∧(f.tb led).tooFull=false∧f.es.toArray.size < 5:=by
 rcases f with ⟨_ | a,_ | b,_ | c,_ | d⟩ <;> exact⟨by kernel_rfl,by kernel_rfl,of_decide_eq_true (by kernel_rfl)⟩
theorem elems_app{prog:Program}{w:World}{K:Type}[DecidableEq K]{knd:KeyKind prog w K}{l m:List (Int×Value)}(x:ElemsOf knd l)(y:ElemsOf knd m):ElemsOf knd (l++m):=fun e he=>(List.mem_append.mp he).elim (x e) (y e)
theorem elems_one{prog:Program}{w:World}(i:Int)(o:Option Tok):ElemsOf (intKind prog w) (one i o):=fun e he=>by
 induction o with
 | none=>exact nomatch he
 | some t=>rw [List.mem_singleton.mp he];exact⟨⟨i,intKind_is _ _ _ _,rfl⟩,rfl⟩
theorem elems_ok{prog:Program}{w:World}(f:Fs):ElemsOf (intKind prog w) f.es:=elems_app (elems_one 1 f.a) (elems_app (elems_one 3 f.b) (elems_app (elems_one 12 f.c) (elems_one 5 f.d)))
theorem W_setAdd{w:World}{A:Around}{E:Value→Shared→Prop}{σ:Shared}{a:Addr}{f:Fs}{ep:Nat}{led:Bool}{x:Int}{t:Tok}(hx:x∈nums)(ho:σ.heap.get? a=some (setO f ep led)){Q:Bool→Shared→Prop}
  (q:∀ b h' ep',Heap.SameBut a σ.heap h'→h'.get? a=some (setO (f.put x t) ep' led)→Q b { σ with heap:=h' }):wpAny (model pw w) A (setAddHashed a (.int x t) (hashInt x)) Q E σ:=by
 have tk:=tb_ok f led
 have hk:(intKind pw w).is x (.int x t)=true:=intKind_is _ _ _ _
 unfold setAddHashed setAddHashedIn
 refine wpAny_holding (wpAny_bind (wpAny_setState_of ho rfl tk.1 ?_))
 dsimp only
 rw [byScan_of (knd:=intKind pw w) (x:=.int x t) rfl (Nat.lt_trans tk.2.2 (by decide)) (elems_ok f)]
 refine wp_pos rfl (wpAny_bind ?_)
 unfold setAddByScan
 refine wpAny_bind (wpAny_rule (wpAny_bind (wpAny_setScan_of (knd:=intKind pw w) (k:=x) hk ho rfl tk.1 (elems_ok f) ?_)))
 cases hg:f.get x with
 | some u=>
  refine(Option.isSome_iff_exists.mp (scan_old hx u f hg)).elim fun j hj=>?_
  rw [show f.es.toArray.toList.findIdx? (fun e=>(intKind pw w).is x e.2)=some j from hj]
  exact wpAny_pure (wpAny_pure (q _ σ.heap ep (.refl a _) (by rw [put_same hx t u f hg];exact ho)))
 | none=>
  rw [show f.es.toArray.toList.findIdx? (fun e=>(intKind pw w).is x e.2)=none from scan_new hx f hg]
  dsimp only
  rw [lay_new hx t led f hg]
  have tk':=tb_ok (f.put x t) led
  refine wpAny_bind (wpAny_of_eq (a:=()) rfl (wp_pos rfl (wpAny_bind (wpAny_of_eq (hashByValue_scannable 8 (x:=.int x t) rfl) (wpAny_bind (wpAny_storeSet_of ho rfl ?_ (by rw [sizeLine_eq];exact Nat.le_trans (Nat.le_of_lt tk'.2.2) (by decide))))))))
  have hs:Obj.putSet (f.put x t).es.toArray ((f.put x t).tb led) (setO f ep led)=setO (f.put x t) (ep+1) led:=putSet_of _ _ rfl
  refine wp_neg (by rw [show (if plainKind (.int x t)=true then (f.put x t).tb led else _)=(f.put x t).tb led from if_pos rfl,tk'.2.1];exact Bool.false_ne_true) (wpAny_pure (wpAny_pure ?_))
  have hg:=Heap.get?_update_self (Obj.putSet (f.put x t).es.toArray ((f.put x t).tb led)) ho (by rw [hs];rfl)
  exact q true _ (ep+1) (.update ..) (hg.trans (congrArg some hs))
theorem entry_upd:entryFor table "set.update.loop"=some Builtin.«set.update.loop»:=entryFor_of_tree (by kernel_rfl)
theorem plain_upd:plainId "set.update.loop"=true:=by decide +kernel
noncomputable def Fs.puts(f:Fs):List (Int×Tok)→Fs
 | []=>f
 | x::r=>(f.put x.1 x.2).puts r
inductive NumsAre:List Value→List (Int×Tok)→Prop where
 | nil:NumsAre [] []
 | cons {vs l} (i t):i∈nums→NumsAre vs l→NumsAre (.int i t::vs) ((i,t)::l)
theorem nums_len{vs:List Value}{l:List (Int×Tok)}(q:NumsAre vs l):vs.length=l.length:=by
 induction q with
 | nil=>rfl
 | cons _ _ _ _ ih=>exact congrArg Nat.succ ih
theorem set_loop{w:World}{A:Around}(hh:A.handled=none){D I a:Addr}{vs:List Value}{m:Nat}{led:Bool}(hDI:D ≠ I)(hDa:D ≠ a)(hIa:I ≠ a){R:Result→Shared→Prop}:∀ (n i:Nat) (σ:Shared) (f:Fs) (ep:Nat) (l:List (Int×Tok)),i+n=vs.length →
  σ.heap.IsListIter I a i→σ.heap.get? a=some (Mine.seqObj "list" vs m)→σ.heap.get? D=some (setO f ep led)→NumsAre (vs.drop i) l →
  (∀ h' tk ep',h'.get? D=some (setO (f.puts l) ep' led)→(∀ b o,b ≠ D→b ≠ I→σ.heap.get? b=some o→h'.get? b=some o)→R (.ok (.ret .none)) { σ with heap:=h',toks:=tk }) →
  codeAny (model pw w) A (.builtin "set.update.loop" ⟨[.ref D,.ref I],[]⟩) R σ:=by
 intro n
 induction n with
 | zero=>
  intro i σ f ep l hi hit hl hd sq q
  refine codeAny_builtin entry_upd ?_
  rw [Around.under_plainId plain_upd _]
  refine wpAny_bind (wpAny_pyNext_list_end (A:=A.in1) hh hit ⟨_,hl,rfl,_,rfl⟩ (by simp;omega) fun h' he=>?_)
  rw [List.drop_eq_nil_of_le (by omega)] at sq
  have hy:l=[]:=List.length_eq_zero_iff.mp (nums_len sq).symm
  rw [hy] at q
  have z:=q h' σ.toks ep (he D _ hDI hd) fun b o _ h2 e=>he b o h2 e
  exact wpAny_pure z
 | succ n ih=>
  intro i σ f ep l hi hit hl hd sq q
  have hlt:i < vs.length:=by omega
  rw [List.drop_eq_getElem_cons hlt] at sq
  generalize hv:vs[i]=v at sq
  cases sq with
  | @cons _ l' x t hx sq=>
  refine codeAny_builtin entry_upd ?_
  rw [Around.under_plainId plain_upd _]
  refine wpAny_bind (wpAny_pyNext_list_item (A:=A.in1) (x:=.int x t) hit ⟨_,hl,rfl,_,rfl⟩ (by simp [hlt,hv]) fun h1 hit1 hs1=>?_)
  refine wpAny_bind (wpAny_holding ?_)
  unfold setAdd
  refine wpAny_holding (wpAny_bind ((intKind pw w).pyHash (k:=x) (intKind_is _ _ _ _) (W_setAdd hx (hs1.extBut _ _ hDI hd) fun b h2 ep2 hs2 o2=>?_)))
  exact wpAny_pure ⟨plainId_quiet plain_upd _,ih (i+1) { σ with heap:=h2,toks:=σ.toks+1 } (f.put x t) ep2 l' (by omega) (ex12 hit1 fun o e r=>⟨o,hs2.extBut _ _ (Ne.symm hDI) e,r⟩) (hs2.extBut _ _ (Ne.symm hDa) (hs1.extBut _ _ (Ne.symm hIa) hl)) o2 sq fun h' tk ep' a1 a2=>q h' tk ep' a1 fun b o z1 z2 e=>a2 b o z1 z2 (hs2.extBut _ _ z1 (hs1.extBut _ _ z2 e))⟩
end
section
variable {w:World} {A:Around} {E:Value→Shared→Prop} {s:Shared}
noncomputable def isLed(w:World):Bool:=!w.params.followText "set-order"
noncomputable def fs0:Fs:=⟨none,none,none,none⟩
theorem set_new(a:Value){Q₁:Value→Shared→Prop}(h:Q₁ (.ref s.heap.objs.size) { s with heap:=s.heap.push (setO fs0 0 (isLed w)) }) :
  codeAny (model pw w) A (.call (.builtin "set.__new__") ⟨[.type "set",a],[]⟩) (wants Q₁ E) s:=by
 refine codeAny_of_tree ?_
 show wpAny _ A.in1 (do checkBuiltinCall "set.__new__" ⟨[.type "set",a],[]⟩;again (.builtin "set.__new__" ⟨[.type "set",a],[]⟩)) _ _ s
 refine wpAny_bind (wpAny_of_eq (PySem.F.newCall_set_1 a) (wpAny_pure ⟨plainId_quiet PySem.F.plain_set_new _,codeAny_builtin PySem.F.entry_set_new ?_⟩))
 rw [Around.under_plainId PySem.F.plain_set_new _]
 unfold Builtin.«set.__new__» Builtin.Frozenset.newClass
 have hsub:=PySem.sub_set_self
 obtain⟨hp,g,d,tk,os⟩:=s
 dsimp only
 wp_walk
 refine wpAny_askSetting (wpAny_pure ?_)
 dsimp only
 simp only [newObj]
 refine wpAny_bind (wpAny_alloc (wpAny_pure ?_))
 exact wpAny_pure h
theorem W_setList{l:Addr}{vs:List Value}{n:Nat}{ps:List (Int×Tok)}{Q:Value→Shared→Prop}(hh:A.handled=none)(hl:s.heap.get? l=some (Mine.seqObj "list" vs n))(hp:NumsAre vs ps)
  (h:∀ h' tk ep,h'.get? s.heap.objs.size=some (setO (fs0.puts ps) ep (isLed w))→Keeps s.heap h'→Q (.ref s.heap.objs.size) { s with heap:=h',toks:=tk }) :
  wpAny (model pw w) A (call (.type "set") [.ref l]) Q E s:=by
 obtain⟨c,tl,hmro⟩:=PySem.F.called_set.mro
 have hmade:=PySem.F.called_set.made
 have hsub:=PySem.F.called_set.sub
 refine wpAny_call (codeAny_of_tree ?_)
 show wpAny _ _ (callAny (.type "set") _) _ _ _
 refine wpAny_pure ⟨Code.quiet_builtin _ (by decide +kernel),codeAny_builtin PySem.F.entry_type_call ?_⟩
 rw [Around.under_plain (weight_type_call_type "set" [.ref l] []) rfl]
 have h1:=PySem.F.called_set.notType
 have h2:=PySem.F.called_set.canCreate
 have hct:=PySem.F.typeCall_set_1 (.ref l)
 repeat (any_goals (first | assumption | wp_step))
 refine codeAny_mono (set_new (.ref l) (E:=E) (Q₁:=fun obj s₁=>obj=.ref s.heap.objs.size∧s₁={ s with heap:=s.heap.push (setO fs0 0 (isLed w)) }) ⟨rfl,rfl⟩) fun r s₁ hr=>?_
 cases r with
 | error e=>exact hr
 | ok fl=>
  cases fl with
  | ret obj=>
   obtain⟨rfl,rfl⟩:=hr
   have hS:(s.heap.push (setO fs0 0 (isLed w))).get? s.heap.objs.size=some (setO fs0 0 (isLed w)):=Heap.get?_push_size _ rfl
   have hT:Shared.TypeIs { s with heap:=s.heap.push (setO fs0 0 (isLed w)) } (.ref s.heap.objs.size) "set":=⟨_,hS,rfl⟩
   have hli:=PySem.F.called_set.init.lookup
   have hbi:=PySem.F.called_set.init.bind (.ref s.heap.objs.size)
   repeat (any_goals (first | assumption | wp_step))
   refine codeAny_mono (codeAny_call_builtin (R:=wants (fun r s₂=>r=.none∧∃ h' tk ep,s₂={ s with heap:=h',toks:=tk } ∧
     h'.get? s.heap.objs.size=some (setO (fs0.puts ps) ep (isLed w))∧Keeps s.heap h') E) PySem.F.called_set.init.plain PySem.F.entry_set_init (check_set_init_1 hT ?_)) fun r₂ s₂ hr₂=>?_
   ·have hol':(s.heap.push (setO fs0 0 (isLed w))).get? l=some (Mine.seqObj "list" vs n):=Heap.get?_push_of_some _ hl
    have hsls:=PySem.F.sub_list_set
    have hslf:=PySem.F.sub_list_frozenset
    have hne:(Value.type "list" == Value.type "dict")=false:=by decide
    have hl1:(s.heap.push (setO fs0 0 (isLed w))).IsList l vs.toArray:=⟨_,hol',rfl,n,rfl⟩
    unfold Builtin.«set.__init__» noKeywords Builtin.Frozenset.updateFrom
    generalize hPI:pyIter=PI
    wp_walk
    subst hPI
    refine wpAny_pyIter_list hl1 ?_
    refine wpAny_bind (wpAny_runValue ?_)
    have hlS:l < s.heap.objs.size:=Heap.lt_size hl
    have hh3:A.in1.in1.handled=none:=by simp [hh]
    have hz:(s.heap.push (setO fs0 0 (isLed w))).objs.size=s.heap.objs.size+1:=Heap.size_push ..
    refine set_loop (D:=s.heap.objs.size) (I:=(s.heap.push (setO fs0 0 (isLed w))).objs.size) (a:=l) (vs:=vs) (m:=n) (led:=isLed w) hh3 (by rw [hz];exact Nat.ne_of_lt (Nat.lt_succ_self _)) (Nat.ne_of_gt hlS) (by rw [hz];exact Nat.ne_of_gt (Nat.lt_succ_of_lt hlS))
     vs.length 0 { s with heap:=(s.heap.push (setO fs0 0 (isLed w))).push { cls:=.type "list_iterator",data:=.fields #[.ref l,.int 0 0] } } fs0 0 ps (Nat.zero_add _) ⟨_,Heap.get?_push_size _ rfl,rfl,rfl⟩ (Heap.get?_push_of_some _ hol') (Heap.get?_push_of_some _ hS) (by rw [List.drop_zero];exact hp) fun h' tk ep' e1 e2=>?_
    show wpAny _ _ _ _ _ _
    refine wpAny_pure ?_
    show wpAny _ _ (ret Value.none) _ _ _
    refine wpAny_pure ⟨rfl,h',tk,ep',rfl,e1,fun b o e=>e2 b o (Nat.ne_of_lt (Heap.lt_size e)) (by rw [hz];exact Nat.ne_of_lt (Nat.lt_succ_of_lt (Heap.lt_size e))) (Heap.get?_push_of_some _ (Heap.get?_push_of_some _ e))⟩
   ·cases r₂ with
    | error e=>exact hr₂
    | ok fl₂=>
     cases fl₂ with
     | ret r=>
      obtain⟨rfl,h',tk,ep,rfl,hS',hk'⟩:=hr₂
      repeat (any_goals (first | assumption | wp_step))
      exact h _ _ _ hS' hk'
     | _=>exact hr₂.elim
  | _=>exact hr.elim
theorem slot_si_next:Slot "set_iterator" "__next__" "set_iterator.__next__":=
 .of (owner:="set_iterator") (n:="__next__") (by rw [typeLookup_type,builtinLookup_eq_fast];kernel_rfl) (by decide +kernel) (by decide +kernel) (by decide +kernel)
  (by first | exact .inl (by decide +kernel) | exact .inr (by decide +kernel)) (by rw [isSubtype_type];kernel_rfl)
theorem entry_si_next:entryFor table "set_iterator.__next__"=some Builtin.«set_iterator.__next__»:=entryFor_of_tree (by kernel_rfl)
theorem owner_si:Manifest.owners.lookup (String.ofList ['r','o','t','a','r','e','t','i','_','t','e','s'].reverse)=some Manifest.sig_set_iterator:=by kernel_rfl
theorem args_si_next(a:Value):argsOk "set_iterator.__next__" ⟨[a],[]⟩:=by
 unfold argsOk;rw [signature?_of (id:="set_iterator.__next__") (n:=['_','_','t','x','e','n','_','_']) (o:=['r','o','t','a','r','e','t','i','_','t','e','s']) (by kernel_rfl) owner_si];kernel_rfl
theorem slot_si_iter:Slot "set_iterator" "__iter__" "set_iterator.__iter__":=
 .of (owner:="set_iterator") (n:="__iter__") (by rw [typeLookup_type,builtinLookup_eq_fast];kernel_rfl) (by decide +kernel) (by decide +kernel) (by decide +kernel)
  (by first | exact .inl (by decide +kernel) | exact .inr (by decide +kernel)) (by rw [isSubtype_type];kernel_rfl)
theorem entry_set_iter:entryFor table "set.__iter__"=some Builtin.«frozenset.__iter__»:=entryFor_alias (id':="frozenset.__iter__") (by kernel_rfl) rfl (by decide +kernel) (by kernel_rfl)
theorem entry_si_iter:entryFor table "set_iterator.__iter__"=some Builtin.«dict_keyiterator.__iter__»:=entryFor_alias (id':="dict_keyiterator.__iter__") (by kernel_rfl) rfl (by decide +kernel) (by kernel_rfl)
theorem args_si_iter(a:Value):argsOk "set_iterator.__iter__" ⟨[a],[]⟩:=by
 unfold argsOk;rw [signature?_of (id:="set_iterator.__iter__") (n:=['_','_','r','e','t','i','_','_']) (o:=['r','o','t','a','r','e','t','i','_','t','e','s']) (by kernel_rfl) owner_si];kernel_rfl
noncomputable def itO(sl i:Nat)(D:Addr)(n ep:Nat):Obj:=⟨.type "set_iterator",none,.fields #[.int sl 0,.int i 0,.ref D,.int n 0,.int ep 0],#[]⟩
noncomputable def Fs.slot(f:Fs)(i:Nat):Nat:=if i=0 then 0 else (plc 1 f.a++(plc 3 f.b++(plc 4 f.c++plc 5 f.d))).getD (i - 1) 0+1
theorem slot_ok(f:Fs):(List.range (f.es.length+1)).all (fun i=>SetTable.below (f.tb false).place (f.slot i) == i)=true:=by rcases f with ⟨_ | a,_ | b,_ | c,_ | d⟩ <;> kernel_rfl
theorem plc_len(f:Fs):(plc 1 f.a++(plc 3 f.b++(plc 4 f.c++plc 5 f.d))).length=f.es.length:=by rcases f with ⟨_ | a,_ | b,_ | c,_ | d⟩ <;> rfl
noncomputable def ord(w:World)(f:Fs)(D:Addr)(ep:Nat):List (Int×Value):=if isLed w then f.es else (pickOrder (w.params.setOrder D ep) f.es.toArray).toList
theorem erase_perm{α:Type}:∀ {l:List α} {i:Nat} (h:i < l.length),(l[i]::l.eraseIdx i).Perm l
 | a::l,0,_=>.refl _
 | a::l,i+1,h=>(List.Perm.swap _ _ _).trans ((erase_perm (Nat.lt_of_succ_lt_succ h)).cons a)
theorem pick_go{α:Type}(next:Nat→Nat):∀ (n k:Nat) (l:List α) (out:Array α),l.length=n→(pickOrder.go next n k l out).toList.Perm (out.toList++l)
 | 0,k,l,out,h=>by
  rw [List.length_eq_zero_iff.mp h,List.append_nil];exact .refl _
 | n+1,k,l,out,h=>by
  have hl:next k % l.length < l.length:=Nat.mod_lt _ (by omega)
  unfold pickOrder.go
  rw [List.getElem?_eq_getElem hl]
  dsimp only
  refine(pick_go next n (k+1) _ _ (by rw [List.length_eraseIdx_of_lt hl,h];rfl)).trans ?_
  rw [Array.toList_push,List.append_assoc]
  refine List.Perm.append_left _ ?_
  exact erase_perm hl
theorem ord_perm(f:Fs)(D:Addr)(ep:Nat):(ord w f D ep).Perm f.es:=by
 unfold ord
 split
 ·exact .refl _
 ·exact(pick_go _ _ 0 f.es.toArray.toList #[] (by simp)).trans (by simp)
theorem W_setState{D:Addr}{f:Fs}{ep:Nat}{led:Bool}(ho:s.heap.get? D=some (setO f ep led)){Q:(Array (Int×Value)×Nat×SetTable)→Shared→Prop}(q:Q (f.es.toArray,ep,f.tb led) s):wpAny (model pw w) A (setState D) Q E s:=
 wpAny_setState_of ho rfl (tb_ok f led).1 q
theorem W_byText{Q:Bool→Shared→Prop}(q:Q (!isLed w) s):wpAny (model pw w) A setsByText Q E s:=by
 unfold setsByText
 refine wpAny_bind (wpAny_askSetting (wpAny_pure ?_))
 unfold isLed at q
 rw [Bool.not_not] at q
 exact q
theorem W_setNext{D:Addr}{f:Fs}{ep i sl:Nat}(hs:isLed w=true→sl=f.slot i)(hi:i≤f.es.length)(ho:s.heap.get? D=some (setO f ep (isLed w))){Q:Option (Value×Nat)→Shared→Prop}
  (q:∀ sl',(isLed w=true→sl'=f.slot (i+1))→Q (((ord w f D ep)[i]?).map fun e=>(e.2,sl')) s):wpAny (model pw w) A (setNext D sl i ep) Q E s:=by
 unfold setNext
 refine wpAny_bind (W_setState ho ?_)
 dsimp only
 refine wpAny_bind (W_byText ?_)
 cases hl:isLed w with
 | false=>
  refine wp_pos rfl ?_
  refine wp_neg (by simp) ?_
  refine wpAny_bind ?_
  unfold setWalk
  refine wpAny_bind (W_setState ho ?_)
  dsimp only
  refine wpAny_bind (W_byText ?_)
  rw [hl]
  refine wp_pos rfl ?_
  refine wpAny_bind (wpAny_askSetting (wpAny_pure (wpAny_pure ?_)))
  have:=q sl (by rw [hl];intro h;cases h)
  unfold ord at this
  rw [hl] at this
  rw [if_neg (by decide),Array.getElem?_toList] at this
  exact this
 | true=>
  refine wp_neg (by decide) ?_
  refine wp_neg (by exact Bool.false_ne_true) ?_
  refine wpAny_bind (wpAny_pure ?_)
  have hb:SetTable.below (f.tb true).place sl=i:=by
   rw [hs hl]
   exact eq_of_beq (List.all_eq_true.mp (slot_ok f) i (List.mem_range.mpr (by omega)))
  rw [hb]
  refine wpAny_pure ?_
  have q:=q (f.slot (i+1)) fun _=>rfl
  unfold ord at q
  rw [if_pos hl] at q
  have hp:(f.tb true).place[i]?=(plc 1 f.a++(plc 3 f.b++(plc 4 f.c++plc 5 f.d)))[i]?:=List.getElem?_toArray ..
  have hn:=plc_len f
  rw [hp,List.getElem?_toArray]
  by_cases h:i < f.es.length
  ·have h':=hn.symm▸h
   have hs:f.slot (i+1)=(plc 1 f.a++(plc 3 f.b++(plc 4 f.c++plc 5 f.d)))[i]+1:=by
    show (plc 1 f.a++_).getD i 0+1=_
    rw [List.getD_eq_getElem?_getD,List.getElem?_eq_getElem h'];rfl
   rw [hs] at q
   rw [List.getElem?_eq_getElem h,List.getElem?_eq_getElem h']
   rw [List.getElem?_eq_getElem h] at q
   exact q
  ·rw [List.getElem?_eq_none (by omega),List.getElem?_eq_none (by omega)]
   rw [List.getElem?_eq_none (by omega)] at q
   exact q
def StI(w:World)(f:Fs)(D I:Addr)(ep i:Nat)(h:Heap):Prop:=∃ sl,(isLed w=true→sl=f.slot i)∧h.get? I=some (itO sl i D f.es.length ep)∧h.get? D=some (setO f ep (isLed w))
theorem slot_args1{n:String}{I:Addr}{Q:Value×List Value→Shared→Prop}(q:Q (.ref I,[]) s):wpAny (model pw w) A (slotArgs n 0 ⟨[.ref I],[]⟩) Q E s:=by
 unfold slotArgs
 simp only [List.isEmpty_nil,Bool.not_true,Bool.false_eq_true,↓reduceIte,List.length_nil,bne_self_eq_false]
 exact wpAny_pure q
theorem W_setEnt{D:Addr}{f:Fs}{ep:Nat}{led:Bool}(ho:s.heap.get? D=some (setO f ep led)){Q:Array (Int×Value)→Shared→Prop}(q:Q f.es.toArray s):wpAny (model pw w) A (setEntries D) Q E s:=wpAny_setEntries_of ho rfl (tb_ok f led).1 q
theorem si_item{f:Fs}{D I:Addr}{ep i:Nat}(hDI:D ≠ I)(hi:i < f.es.length)(st:StI w f D I ep i s.heap){Q:Option Value→Shared→Prop}
  (q:∀ v h',(∃ e,(ord w f D ep)[i]?=some e∧v=e.2)→StI w f D I ep (i+1) h'→(∀ b o,b ∉ [I]→s.heap.get? b=some o→h'.get? b=some o)→Q (some v) { s with heap:=h' }):wpAny (model pw w) A (pyNext (.ref I)) Q E s:=by
 obtain⟨sl,hsl,hI,hD⟩:=st
 unfold pyNext
 have hT:s.TypeIs (.ref I) "set_iterator":=⟨_,hI,rfl⟩
 refine wpAny_bind (wpAny_attempt (wpAny_callSpecial?_slot (name:=Str.ofString "__next__") hT slot_si_next (wpAny_call_entry slot_si_next hT entry_si_next ?_ (args_si_next _))))
 unfold Builtin.«set_iterator.__next__»
 refine wpAny_bind (slot_args1 ?_)
 refine wpAny_bind (wpAny_fieldsOf hI rfl ?_)
 dsimp only
 refine wpAny_bind (W_setEnt hD ?_)
 refine wp_neg (by simp) ?_
 refine wpAny_bind (W_setNext (i:=i) hsl (Nat.le_of_lt hi) hD fun sl' hs'=>?_)
 have hn:i < (ord w f D ep).length:=by rw [(ord_perm f D ep).length_eq];exact hi
 rw [List.getElem?_eq_getElem hn]
 dsimp only [Option.map]
 refine wpAny_bind (wpAny_setField_rec hI (by simp) fun h1 o1 k1=>?_)
 refine wpAny_bind (wpAny_setField_rec (s:={ s with heap:=h1 }) o1 (by simp) fun h2 o2 k2=>?_)
 refine wpAny_pure ⟨_,rfl,wpAny_pure (q _ h2 ⟨_,List.getElem?_eq_getElem hn,rfl⟩ ⟨sl',hs',o2,k2.extBut _ _ hDI (k1.extBut _ _ hDI hD)⟩ fun b o hb e=>?_)⟩
 have hb:b ≠ I:=fun h=>hb (h▸List.mem_singleton.mpr rfl)
 exact k2.extBut _ _ hb (k1.extBut _ _ hb e)
theorem si_done(hh:A.handled=none){f:Fs}{D I:Addr}{ep:Nat}(st:StI w f D I ep f.es.length s.heap){Q:Option Value→Shared→Prop}
  (q:∀ h',(∀ b o,b ∉ [I]→s.heap.get? b=some o→h'.get? b=some o)→Q none { s with heap:=h' }):wpAny (model pw w) A (pyNext (.ref I)) Q E s:=by
 obtain⟨sl,hsl,hI,hD⟩:=st
 unfold pyNext
 have hT:s.TypeIs (.ref I) "set_iterator":=⟨_,hI,rfl⟩
 refine wpAny_bind (wpAny_attempt (wpAny_callSpecial?_slot (name:=Str.ofString "__next__") hT slot_si_next (wpAny_call_entry slot_si_next hT entry_si_next ?_ (args_si_next _))))
 unfold Builtin.«set_iterator.__next__»
 refine wpAny_bind (slot_args1 ?_)
 refine wpAny_bind (wpAny_fieldsOf hI rfl ?_)
 dsimp only
 refine wpAny_bind (W_setEnt hD ?_)
 refine wp_neg (by simp) ?_
 refine wpAny_bind (W_setNext (i:=f.es.length) hsl (Nat.le_refl _) hD fun sl' hs'=>?_)
 rw [List.getElem?_eq_none (by rw [(ord_perm f D ep).length_eq];exact Nat.le_refl _)]
 dsimp only [Option.map]
 refine wpAny_bind (wpAny_setField_rec hI (by simp) fun h1 o1 k1=>?_)
 refine wpAny_bind ?_
 simp only [newExc,newTuple]
 refine wpAny_bind (wpAny_newObj_type ?_ (by size_fits))
 refine wpAny_bind (m:=firstArgMember _ _) (wpAny_of_eq (a:=Value.none) (by first | rfl | (simp only [firstArgMember];rfl)) ?_)
 refine wpAny_newObj_type ?_ (by size_fits)
 simp only [raiseNew]
 refine wpAny_bind (wpAny_handled ?_)
 rw [show A.in1.handled=none from hh]
 refine wpAny_bind (wpAny_pure (wpAny_throw ?_))
 refine wpAny_bind (wpAny_isInstance (T:="StopIteration") (b:=true) ⟨_,Heap.get?_push_size _ rfl,rfl⟩ isSubtype_stop ?_)
 refine wpAny_pure (q _ fun b o hb e=>Heap.get?_push_of_some _ (Heap.get?_push_of_some _ ?_))
 exact k1.extBut _ _ (fun h=>hb (h▸List.mem_singleton.mpr rfl)) e
theorem pyIter_set{f:Fs}{D:Addr}{ep:Nat}(ho:s.heap.get? D=some (setO f ep (isLed w))){Q:Value→Shared→Prop}(q:Q (.ref s.heap.objs.size) { s with heap:=s.heap.push (itO 0 0 D f.es.length ep) }):wpAny (model pw w) A (pyIter (.ref D)) Q E s:=by
 have hT:s.TypeIs (.ref D) "set":=⟨_,ho,rfl⟩
 refine wpAny_pyIter_slot hT PySem.F.slot_set_iter (wpAny_call_entry PySem.F.slot_set_iter hT entry_set_iter ?_ (PySem.F.args_set_iter_1 _))
 unfold Builtin.«frozenset.__iter__» Builtin.Frozenset.slot0
 refine wpAny_bind (wpAny_bind (slot_args1 (wpAny_pure ?_)))
 unfold Builtin.Frozenset.sizeOf setDrawn
 refine wpAny_bind (wpAny_bind (W_setEnt ho (wpAny_pure ?_)))
 refine wpAny_bind (wpAny_bind (W_setState ho ?_))
 dsimp only
 refine wpAny_bind (W_byText (wpAny_pure ?_))
 refine wp_neg (by cases isLed w <;> exact Bool.false_ne_true) ?_
 refine wpAny_bind (wpAny_pure ?_)
 unfold setEpoch
 refine wpAny_bind (wpAny_bind (W_setState ho (wpAny_pure ?_)))
 refine wpAny_bind ?_
 unfold newFields
 refine wpAny_newObj_type (wpAny_pure ⟨_,rfl,"set_iterator",_,⟨_,Heap.get?_push_size _ rfl,rfl⟩,slot_si_next.lookup,?_⟩)
 simpa [rawInt,itO] using q
theorem hint_set{D:Addr}{Q:Bool→Shared→Prop}(hT:s.TypeIs (.ref D) "set")(h:Q false s):wpAny (model pw w) A (Builtin.List.listLengthHint (.ref D)) Q E s:=by
 unfold Builtin.List.listLengthHint
 refine wpAny_bind (wpAny_specialOf hT PySem.F.slot_set_len.lookup ?_)
 generalize hid:("set.__len__":String)=id0
 wp_delta
 rw [show splitId id0=some ("set","__len__") from by subst hid;decide +kernel]
 subst hid
 refine wpAny_bind (wpAny_isInstance (T:="set") (b:=true) hT (by rw [isSubtype_type];kernel_rfl) ?_)
 refine wpAny_ite_split (fun hab=>absurd hab (by decide)) (fun _=>?_)
 refine wpAny_ite_split (fun _=>?_) (fun hab=>absurd (by decide +kernel) hab)
 refine wpAny_bind (wpAny_typeOf hT ?_)
 exact wpAny_pure h
theorem walks_set(hh:A.handled=none){f:Fs}{D I:Addr}{ep:Nat}(hDI:D ≠ I):Walks pw w A I [I,D] [I] f.es.length (fun i v=>∃ e,(ord w f D ep)[i]?=some e∧v=e.2) (StI w f D I ep) where
 sub:=fun b hb=>by simp at hb;simp [hb]
 frame:=fun i h h' st hk=>ex13 st fun sl a b c=>⟨sl,a,hk I (by simp) _ b,hk D (by simp) _ c⟩
 item:=fun i s Q E hi st hQ=>si_item hDI hi st fun v h' p st' k=>hQ v h' s.toks p st' k
 done:=fun s Q E st hQ=>si_done hh st fun h' k=>hQ h' s.toks k
 self:=fun i s Q E st hQ=>by
  obtain⟨sl,_,hI,_⟩:=st
  have hT:s.TypeIs (.ref I) "set_iterator":=⟨_,hI,rfl⟩
  refine wpAny_pyIter_slot hT slot_si_iter (wpAny_call_entry slot_si_iter hT entry_si_iter ?_ (args_si_iter _))
  refine wpAny_bind (wpAny_pure ?_)
  exact wpAny_pure ⟨_,rfl,"set_iterator",_,hT,slot_si_next.lookup,hQ⟩
theorem kdl_set{f:Fs}{D:Addr}{ep:Nat}:KdlSrc pw w "set" D D f.es.length (fun i v=>∃ e,(ord w f D ep)[i]?=some e∧v=e.2) (fun h=>h.get? D=some (setO f ep (isLed w))) where
 type:=fun _ hm=>⟨_,hm,rfl⟩
 there:=fun _ hm=>⟨Heap.lt_size hm,Heap.lt_size hm⟩
 keep:=fun _ _ hm hk=>hk D (.inl rfl) _ hm
 notList:=by decide
 notTuple:=by decide
 hint:=fun _ _ _ _ hm hq=>hint_set ⟨_,hm,rfl⟩ hq
 iter:=fun _ _ hh hm=>⟨_,_,(fun _ _ hq=>pyIter_set hm hq),walks_set hh (Nat.ne_of_lt (Heap.lt_size hm)),⟨0,fun _=>rfl,Heap.get?_push_size _ rfl,Heap.get?_push_of_some _ hm⟩⟩
end
section
theorem ints_map(l:List Int):asInts (l.map .int)=some l:=by
 induction l with
 | nil=>rfl
 | cons a l ih=>show (asInts (l.map .int)).map _=_;rw [ih];rfl
theorem one_int{i:Int}(hi:hashInt i=i)(o:Option Tok):∀ e∈one i o,∃ t,e.2=.int e.1 t:=fun e he=>by
 cases o with
 | none=>exact nomatch he
 | some t=>rw [List.mem_singleton.mp he];exact⟨t,by rw [hi]⟩
theorem es_int(f:Fs):∀ e∈f.es,∃ t,e.2=.int e.1 t:=fun e he=>
 (List.mem_append.mp he).elim (one_int (by kernel_rfl) _ e) fun he=>(List.mem_append.mp he).elim (one_int (by kernel_rfl) _ e) fun he=>(List.mem_append.mp he).elim (one_int (by kernel_rfl) _ e) (one_int (by kernel_rfl) _ e)
theorem es_ns(f:Fs):f.es.map (·.1)=f.ns:=by rcases f with ⟨_ | a,_ | b,_ | c,_ | d⟩ <;> kernel_rfl
noncomputable def numsUp:List Int:=[1,3,5,12]
theorem ns_sort(f:Fs):sortO leI f.ns=numsUp.filter fun x=>(f.get x).isSome:=by rcases f with ⟨_ | a,_ | b,_ | c,_ | d⟩ <;> kernel_rfl
theorem ori_some(t:Tok)(o:Option Tok):(ori t o).isSome=true:=by cases o <;> rfl
theorem put_get(f:Fs){x y:Int}(hx:x∈nums)(hy:y∈nums)(t:Tok):((f.put x t).get y).isSome=(y == x || (f.get y).isSome):=by
 refine numsE (P:=fun x=>((f.put x t).get y).isSome=(y == x || (f.get y).isSome)) hx ?_ ?_ ?_ ?_ <;>
  exact numsE (P:=fun y=>((f.put _ t).get y).isSome=(y == _ || (f.get y).isSome)) hy (by first | rfl | exact ori_some ..) (by first | rfl | exact ori_some ..) (by first | rfl | exact ori_some ..) (by first | rfl | exact ori_some ..)
theorem puts_get{y:Int}(hy:y∈nums):∀ (l:List (Int×Tok)) (f:Fs),(∀ p∈l,p.1∈nums)→((f.puts l).get y).isSome=((f.get y).isSome || (l.map (·.1)).contains y)
 | [],f,_=>by simp [Fs.puts]
 | p::l,f,h=>by
  show (((f.put p.1 p.2).puts l).get y).isSome=_
  rw [puts_get hy l _ fun q hq=>h q (.tail _ hq),put_get f (h p (.head _)) hy,List.map_cons,List.contains_cons]
  cases (y == p.1) <;> cases (f.get y).isSome <;> rfl
noncomputable def opSS:S→V→Option MO:=fun s x=>((s.lst x).bind asInts).bind fun is=>gd (∀ i∈is,i∈nums) (.list ((numsUp.filter fun i=>is.contains i).map .int))
theorem nums_of{vs:List Value}{is:List Int}(q:IntsAre vs is):(∀ i∈is,i∈nums)→∃ ps:List (Int×Tok),NumsAre vs ps∧ps.map (·.1)=is∧∀ p∈ps,p.1∈nums:=by
 induction q with
 | nil=>exact fun _=>⟨[],.nil,rfl,fun _ h=>nomatch h⟩
 | cons i t _ ih=>exact fun h=>ex13 (ih fun j hj=>h j (.tail _ hj)) fun ps a b c=>⟨(i,t)::ps,.cons i t (h i (.head _)) a,by rw [List.map_cons,b],fun p hp=>(List.mem_cons.mp hp).elim (fun e=>e▸h i (.head _)) (c p)⟩
theorem seq_ints{w:World}{B:Base}:∀ {l:List (Int×Value)},(∀ e∈l,∃ t,e.2=.int e.1 t)→Seq w B (l.map (·.2)) ((l.map (·.1)).map .int)
 | [],_=>.nil
 | e::l,h=>.cons ((h e (.head _)).elim fun t ht=>by show Is w B e.2 (.int e.1);rw [ht];exact .int _ t) (seq_ints fun x hx=>h x (.tail _ hx))
theorem W_sortedSet{w:World}{A:Around}{B:Base}(hh:A.handled=none){f:Fs}{D:Addr}{ep:Nat}{h:Heap}(ho:h.get? D=some (setO f ep (isLed w))){Q:Value→Heap→Prop}
  (q:∀ a h',h.get? a=none→(∃ vs n,h'.get? a=some (Mine.seqObj "list" vs n)∧Seq w B vs ((numsUp.filter fun x=>(f.get x).isSome).map .int))→Keeps h h'→Q (.ref a) h'):W w A (call (.builtin "sorted") [.ref D]) h Q:=by
 intro σ hσ
 subst hσ
 have hl:=(tb_ok f false).2.2
 rw [List.size_toArray] at hl
 refine Calls.call_function_entry kind_sorted plain_sorted entry_sorted (args_sorted1 _) ?_
 unfold Builtin.«sorted»
 refine wpAny_bind (m:=checkCount "sorted" 1 1 _) (wpAny_pure ?_)
 refine wpAny_bind (kdu_collect (A:=A.in1) kdl_set hh ho (by rw [sizeL];omega) fun h' tk acc k ha=>?_)
 have hp:=ord_perm (w:=w) f D ep
 have hn:acc.toList.length=f.es.length:=by rw [Array.length_toList];exact ha.1
 have ev:acc.toList=(ord w f D ep).map (·.2):=List.ext_getElem? fun i=>by
  by_cases hi:i < f.es.length
  ·have e1:=List.getElem?_eq_getElem (hn.symm▸hi)
   refine ex12 (ha.2 i _ (by rw [←Array.getElem?_toList];exact e1)) fun e e2 e3=>?_
   rw [e1,List.getElem?_map,e2,e3];rfl
  ·rw [List.getElem?_eq_none (by omega),List.getElem?_eq_none (by rw [List.length_map,hp.length_eq];omega)]
 refine wpAny_bind (wpAny_newList ?_ (by rw [hn,sizeL];omega))
 dsimp only
 have sq:Seq w B acc.toList (((ord w f D ep).map (·.1)).map .int):=ev▸seq_ints fun e he=>es_int f e (hp.mem_iff.mp he)
 have es:sortT (((ord w f D ep).map (·.1)).map .int)=some ((numsUp.filter fun x=>(f.get x).isSome).map .int):=by
  have hp2:(sortO leI ((ord w f D ep).map (·.1))).Perm f.ns:=sortO_perm.trans (es_ns f▸hp.map _)
  have pw:(sortO leI ((ord w f D ep).map (·.1))).Pairwise (·≤·):=(sortO_pw (le:=leI) (fun a b c x y=>by unfold leI at *;simp only [decide_eq_true_eq] at *;omega) (fun a b=>by unfold leI;simp only [decide_eq_true_eq];omega)).imp fun x=>of_decide_eq_true x
  unfold sortT
  rw [gd,if_pos (by rw [List.length_map,List.length_map,hp.length_eq];omega)]
  dsimp only [Option.bind_some]
  rw [ints_map,←ns_sort f,←sortI_eq hp2 pw];rfl
 refine wpAny_bind (wpAny_holding (W_lsort (B:=B) (σ:={ σ with heap:=h'.push (PyProof.Rows.seqObj "list" acc.toList.toArray 0),toks:=tk }) (get_push rfl) sq es fun vs' h2 m k2 o2 sq2=>?_))
 have hf:σ.heap.get? h'.objs.size=none:=Option.eq_none_iff_forall_ne_some.mpr fun o z=>no1 ((get_size h').symm.trans (k _ _ z))
 exact wpAny_pure ⟨_,rfl,⟨rfl,rfl,rfl⟩,q _ _ hf ⟨vs',m,o2,sq2⟩ fun b o e=>k2 b o (fun q=>no1 (hf.symm.trans (q▸e))) (Heap.get?_push_of_some _ (k b o e))⟩
variable {F:Frm} {ln cn gs:List Str}
theorem jSS{x y:Str}{q1 q2 p1 p2:Pos}{a:Expr}{d:Den V}(n:Nm F ln cn gs)(H1:JV F ln (eval (.Name x q1) F.E) (dT (.con (.builtin "sorted"))))(H2:JV F ln (eval (.Name y q2) F.E) (dT (.con (.type "set"))))(hn:noStar [a]=true)(H:JV F ln (eval a F.E) d) :
  JR F ln (eval (.Call (.Name x q1) [.Call (.Name y q2) [a] [] p2] [] p1) F.E) (d.bind fun v=>opN (op1 opSS) [v]):=fun ρ B s h X rv s' e=>
 Den.bindE e fun v s1 e1 e2=>omE e2 fun o e2 e3=>so2 (P:=fun r s'=>W F.w F.A _ h (Out F ln (RvAt F) ρ B h r s')) e3 <| obE (o:=(s1.lst v).bind asInts) e2 fun is e4 e5=>obE e4 fun xs e6 e7=>gdE e5 fun hm eo=>W_callN (W_byName H1 X fun ρ1 B1 h1 S1 X1=>W_cwB rfl
  (W_callN (W_byName H2 X1 fun ρ2 B2 h2 S2 X2=>W_cwT hn ((H ρ2 B2 s h2 X2 v s1 e1).monoO fun rv h3 ρ3 B3 S3 X3 r3=>X3.lstE r3 e6 fun a vs m hv ha sq=>by
   refine ex13 (nums_of (asInts_is sq e7) hm) fun ps a1 a2 a3=>?_
   subst hv
   intro σ hσ
   subst hσ
   refine W_setList n.ar.hd ha a1 fun h4 tk ep k1 k2=>⟨⟨rfl,rfl,rfl⟩,?_⟩
   refine W_sortedSet (B:=B3) n.ar.hd k1 fun b h5 k3 k4 k5=>?_
   have hf:σ.heap.get? b=none:=Option.eq_none_iff_forall_ne_some.mpr fun o z=>no1 (k3.symm.trans (k2 _ _ z))
   have kk:Keeps σ.heap h5:=fun b o e=>k5 b o (k2 b o e)
   have ef:(numsUp.filter fun x=>((fs0.puts ps).get x).isSome)=numsUp.filter fun i=>is.contains i:=List.filter_congr fun y hy=>by
    have hy:y∈nums:=by
     simp only [numsUp,nums,List.mem_cons,List.not_mem_nil,or_false] at hy ⊢
     rcases hy with h | h | h | h <;> simp [h]
    rw [puts_get hy ps fs0 a3,a2]
    have:(fs0.get y).isSome=false:=numsE (P:=fun y=>(fs0.get y).isSome=false) hy rfl rfl rfl rfl
    rw [this,Bool.false_or]
   rw [ef] at k4
   exact⟨ρ3,B3,(((S1.trans S2).trans S3).trans (X3.same kk).1),(X3.same kk).2,b,rfl,Option.eq_none_iff_forall_ne_some.mpr fun o z=>ex11 (((S1.trans S2).trans S3).sz _ _ z) fun o' z=>no1 (hf.symm.trans z),(X3.fresh hf).1,(X3.fresh hf).2.1,eo▸k4⟩))))
end
noncomputable abbrev Sp:=List V→List MO→Option (Rv×List MO)
structure Cx where
 ln:List Str
 cn:List Str
 gs:List Str
set_option genInjectivity false in
set_option genSizeOf false in
inductive X where
 | vl (i:Nat) (p:Pos) | vc (i:Nat) (p:Pos) | vg (i j:Nat) (p:Pos) | vb (i j k:Nat) (p:Pos)
 | ki (n:Int) (kk:Nat) (p:Pos) | ks (x:List Nat) (kk:Nat) (p:Pos) | kb (b:List UInt8) (kk:Nat) (p:Pos) | kn (kk:Nat) (p:Pos) | kt (b:Bool) (kk:Nat) (p:Pos)
 | bin (op:Operator) (a b:X) (p:Pos) | neg (a:X) (p:Pos) | cmp (op:CmpOp) (a b:X) (p:Pos) | chn (o1 o2:CmpOp) (a b c:X) (p:Pos) | ife (c a b:X) (p:Pos)
 | w1 (op:BoolOp) (a:X) | wc (op:BoolOp) (a r:X) | bov (op:BoolOp) (w:X) (p:Pos)
 | tup (as:X) (kk:Nat) (p:Pos) | lst (as:X) (p:Pos) | item (a b:X) (p:Pos) | att (a:X) (x:List Nat) (p:Pos)
 | fz (n:X) | pu (n:X) | vr (r:X) | nr (r:X)
 | mkT (C kf i j:Nat) (as:X) (p1 p:Pos) | mkL (C kf i j:Nat) (as:X) (p1 p:Pos)
 | nl (as:X) (p:Pos) | d0 (p:Pos) | d1 (k v:X) (p:Pos)
 | cm (ln' fr gs':List Str) (ci:List Nat) (i0:Nat) (sc:Scope) (elt ifs it:X) (px p:Pos)
 | inc (ln' fr gs':List Str) (i0:Nat) (sc:Scope) (it:X) (kk:Nat) (px p1 p2 p3 p:Pos)
 | cf (kf i j:Nat) (as:X) (p1 p:Pos) | ct (C:Nat) (nm:List Nat) (kf:Nat) (o as:X) (ap p:Pos)
 | bl (b i j k:Nat) (as:X) (p1 p:Pos) | me (b:Nat) (o as:X) (ap p:Pos) | sl (v lo hi:X) (sp p:Pos) | ss (i1 j1 k1 i2 j2 k2:Nat) (a:X) (q1 p1 q2 p2:Pos)
 | tv (a:X) | tc (op:CmpOp) (a b:X) (p:Pos) | tch (o1 o2:CmpOp) (a b c:X) (p:Pos) | tn (a:X) (p:Pos) | tq (op:BoolOp) (q:X) (p:Pos)
 | q0 (op:BoolOp) | qc (op:BoolOp) (a r:X) | f0 | f1 (c:X)
 | iv (a:X) | ir1 (i j k:Nat) (a:X) (p1 p:Pos) | ir2 (i j k:Nat) (a b:X) (p1 p:Pos)
 | tl (i:Nat) (p:Pos) | tcl (i:Nat) (p:Pos) | ti (o x:X) (p:Pos) | tt (ts:X) (kk:Nat) (p:Pos) | t0 | tcons (t r:X)
 | a0 | ac (a r:X) | p0 | p1 (e:X)
 | sif (c b o:X) (p:Pos) | swh (n:Nat) (c b:X) (p:Pos) | sfo (t it b:X) (p:Pos) | sfe (i j k:Nat) (ts:X) (kk:Nat) (e b:X) (p1 cp tp p:Pos)
 | re (v:X) (p:Pos) | rn (v:X) (p:Pos) | ex (v:X) (p:Pos) | aL (i:Nat) (v:X) (q p:Pos) | aC (i:Nat) (v:X) (q p:Pos) | aI (o x v:X) (q p:Pos) | aA (o:X) (x:List Nat) (v:X) (q p:Pos)
 | aT (ts:X) (kk:Nat) (v:X) (tp p:Pos) | aTT (ts:X) (kk:Nat) (as:X) (k2:Nat) (tp vp p:Pos) | aW (is:List Nat) (ts:X) (kk:Nat) (as:X) (k2:Nat) (tp vp p:Pos) | aK (i:Nat) (q:Pos) (ln' fr gs':List Str) (ci:List Nat) (i0:Nat) (sc:Scope) (elt ifs it:X) (px pos p:Pos)
 | s0 | sc (s r:X) | fr (src:List (Nat×Nat×List (List Nat))) (r:X) | bot (s:Stmt) | bv (e:Expr)
structure SynR where
 e:Expr:=.Constant .none 0 ⟨0,0,0,0⟩
 es:List Expr:=[]
 s:Stmt:=.Pass ⟨0,0,0,0⟩
 ss:List Stmt:=[]
 o:Option Expr:=none
noncomputable abbrev nmA(l:List Str)(i:Nat):Str:=l.getD i ⟨#[]⟩
noncomputable abbrev chrs(x:List Nat):Str:=⟨x.toArray⟩
noncomputable def mName(b:Nat):List Nat:=match b with
 | 0=>[97,112,112,101,110,100]
 | 1=>[112,111,112]
 | 2=>[105,110,100,101,120]
 | 3=>[103,101,116]
 | 4=>[112,111,112]
 | 5=>[106,111,105,110]
 | 6=>[114,106,117,115,116]
 | 7=>[101,110,99,111,100,101]
 | 8=>[106,111,105,110]
 | _=>[102,105,110,100]
noncomputable def syn:Cx→X→SynR
 | c,.vl i p=>{ e:=.Name (nmA c.ln i) p }
 | c,.vc i p=>{ e:=.Name (nmA c.cn i) p }
 | c,.vg i _ p=>{ e:=.Name (nmA c.gs i) p }
 | c,.vb i _ _ p=>{ e:=.Name (nmA c.gs i) p }
 | _,.ki n kk p=>{ e:=.Constant (.int n) kk p }
 | _,.ks x kk p=>{ e:=.Constant (.str (chrs x)) kk p }
 | _,.kb b kk p=>{ e:=.Constant (.bytes b) kk p }
 | _,.kn kk p=>{ e:=.Constant .none kk p }
 | _,.kt b kk p=>{ e:=.Constant (.bool b) kk p }
 | c,.bin op a b p=>{ e:=.BinOp (syn c a).e op (syn c b).e p }
 | c,.neg a p=>{ e:=.UnaryOp .USub (syn c a).e p }
 | c,.cmp op a b p=>{ e:=.Compare (syn c a).e [op] [(syn c b).e] p }
 | c,.chn o1 o2 a b d p=>{ e:=.Compare (syn c a).e [o1,o2] [(syn c b).e,(syn c d).e] p }
 | c,.ife d a b p=>{ e:=.IfExp (syn c d).e (syn c a).e (syn c b).e p }
 | c,.w1 _ a=>{ es:=[(syn c a).e] }
 | c,.wc _ a r=>{ es:=(syn c a).e::(syn c r).es }
 | c,.bov op w p=>{ e:=.BoolOp op (syn c w).es p }
 | c,.tup as kk p=>{ e:=.Tuple (syn c as).es kk p }
 | c,.lst as p=>{ e:=.List (syn c as).es p }
 | c,.item a b p=>{ e:=.Subscript (syn c a).e (syn c b).e p }
 | c,.att a x p=>{ e:=.Attribute (syn c a).e (chrs x) p }
 | c,.fz n=>syn c n
 | c,.pu n=>syn c n
 | c,.vr r=>syn c r
 | c,.nr r=>syn c r
 | c,.mkT _ _ i _ as p1 p=>{ e:=.Call (.Name (nmA c.gs i) p1) (syn c as).es [] p }
 | c,.mkL _ _ i _ as p1 p=>{ e:=.Call (.Name (nmA c.gs i) p1) (syn c as).es [] p }
 | c,.nl as p=>{ e:=.List (syn c as).es p }
 | _,.d0 p=>{ e:=.Dict [] [] p }
 | c,.d1 k v p=>{ e:=.Dict [some (syn c k).e] [(syn c v).e] p }
 | c,.cm l f g _ i0 s elt ifs it px p=>{ e:=.ListComp (syn ⟨l,f,g⟩ elt).e [⟨.Name (nmA l i0) px,(syn c it).e,(syn ⟨l,f,g⟩ ifs).es,0⟩] s p }
 | c,.inc l _ _ i0 s it kk px p1 p2 p3 p=>{ e:=.ListComp (.BinOp (.Name (nmA l i0) p1) .Add (.Constant (.int 1) kk p2) p3) [⟨.Name (nmA l i0) px,(syn c it).e,[],0⟩] s p }
 | c,.cf _ i _ as p1 p=>{ e:=.Call (.Name (nmA c.gs i) p1) (syn c as).es [] p }
 | c,.ct _ nm _ o as ap p=>{ e:=.Call (.Attribute (syn c o).e (chrs nm) ap) (syn c as).es [] p }
 | c,.bl _ i _ _ as p1 p=>{ e:=.Call (.Name (nmA c.gs i) p1) (syn c as).es [] p }
 | c,.me b o as ap p=>{ e:=.Call (.Attribute (syn c o).e (chrs (mName b)) ap) (syn c as).es [] p }
 | c,.sl v lo hi sp p=>{ e:=.Subscript (syn c v).e (.Slice (syn c lo).o (syn c hi).o none sp) p }
 | c,.ss i1 _ _ i2 _ _ a q1 p1 q2 p2=>{ e:=.Call (.Name (nmA c.gs i1) q1) [.Call (.Name (nmA c.gs i2) q2) [(syn c a).e] [] p2] [] p1 }
 | c,.tv a=>syn c a
 | c,.tc op a b p=>{ e:=.Compare (syn c a).e [op] [(syn c b).e] p }
 | c,.tch o1 o2 a b d p=>{ e:=.Compare (syn c a).e [o1,o2] [(syn c b).e,(syn c d).e] p }
 | c,.tn a p=>{ e:=.UnaryOp .Not (syn c a).e p }
 | c,.tq op q p=>{ e:=.BoolOp op (syn c q).es p }
 | _,.q0 _=>{}
 | c,.qc _ a r=>{ es:=(syn c a).e::(syn c r).es }
 | _,.f0=>{}
 | c,.f1 a=>{ es:=[(syn c a).e] }
 | c,.iv a=>syn c a
 | c,.ir1 i _ _ a p1 p=>{ e:=.Call (.Name (nmA c.gs i) p1) [(syn c a).e] [] p }
 | c,.ir2 i _ _ a b p1 p=>{ e:=.Call (.Name (nmA c.gs i) p1) [(syn c a).e,(syn c b).e] [] p }
 | c,.tl i p=>{ e:=.Name (nmA c.ln i) p }
 | c,.tcl i p=>{ e:=.Name (nmA c.cn i) p }
 | c,.ti o x p=>{ e:=.Subscript (syn c o).e (syn c x).e p }
 | c,.tt ts kk p=>{ e:=.Tuple (syn c ts).es kk p }
 | _,.t0=>{}
 | c,.tcons t r=>{ es:=(syn c t).e::(syn c r).es }
 | _,.a0=>{}
 | c,.ac a r=>{ es:=(syn c a).e::(syn c r).es }
 | _,.p0=>{}
 | c,.p1 e=>{ o:=some (syn c e).e }
 | c,.sif d b o p=>{ s:=.If (syn c d).e (syn c b).ss (syn c o).ss p }
 | c,.swh _ d b p=>{ s:=.While (syn c d).e (syn c b).ss [] p }
 | c,.sfo t it b p=>{ s:=.For (syn c t).e (syn c it).e (syn c b).ss [] p }
 | c,.sfe i _ _ ts kk e b p1 cp tp p=>{ s:=.For (.Tuple (syn c ts).es kk tp) (.Call (.Name (nmA c.gs i) p1) [(syn c e).e] [] cp) (syn c b).ss [] p }
 | c,.re v p=>{ s:=.Return (some (syn c v).e) p }
 | c,.rn v p=>{ s:=.Return (some (syn c v).e) p }
 | c,.ex v p=>{ s:=.Expr (syn c v).e p }
 | c,.aL i v q p=>{ s:=.Assign [.Name (nmA c.ln i) q] (syn c v).e p }
 | c,.aC i v q p=>{ s:=.Assign [.Name (nmA c.cn i) q] (syn c v).e p }
 | c,.aI o x v q p=>{ s:=.Assign [.Subscript (syn c o).e (syn c x).e q] (syn c v).e p }
 | c,.aA o x v q p=>{ s:=.Assign [.Attribute (syn c o).e (chrs x) q] (syn c v).e p }
 | c,.aT ts kk v tp p=>{ s:=.Assign [.Tuple (syn c ts).es kk tp] (syn c v).e p }
 | c,.aTT ts kk as k2 tp vp p=>{ s:=.Assign [.Tuple (syn c ts).es kk tp] (.Tuple (syn c as).es k2 vp) p }
 | c,.aW _ ts kk as k2 tp vp p=>{ s:=.Assign [.Tuple (syn c ts).es kk tp] (.Tuple (syn c as).es k2 vp) p }
 | c,.aK i q l f g _ i0 s elt ifs it px pos p=>{ s:=.Assign [.Name (nmA c.ln i) q] (.ListComp (syn ⟨l,f,g⟩ elt).e [⟨.Name (nmA l i0) px,(syn c it).e,(syn ⟨l,f,g⟩ ifs).es,0⟩] s pos) p }
 | _,.s0=>{}
 | c,.sc s r=>{ ss:=(syn c s).s::(syn c r).ss }
 | c,.fr _ r=>{ ss:=(syn c r).ss }
 | _,.bot s=>{ s:=s }
 | _,.bv e=>{ e:=e }
noncomputable def stB(b:Nat):Stmt→List Stmt
 | .If _ x y _=>if b=0 then x else y
 | .For _ _ x _ _=>x
 | .While _ x _ _=>x
 | _=>[]
noncomputable def stP(l:List Stmt):Nat→List (Nat×Nat)→Stmt
 | i,[]=>l.getD i (.Pass default)
 | i,(b,j)::r=>stP (stB b (l.getD i (.Pass default))) j r
noncomputable def asgV:Stmt→Expr
 | .Assign _ v _=>v
 | _=>.Constant .none 0 ⟨0,0,0,0⟩
noncomputable def ifV:Expr→Expr
 | .IfExp _ _ b _=>b
 | e=>e
noncomputable def ifB(s:Stmt):Expr:=ifV (asgV s)
noncomputable def kd:X→Nat
 | .nl ..=>1 | .d0 ..=>1 | .d1 ..=>1 | .cm ..=>1 | .inc ..=>1
 | .cf ..=>2 | .ct ..=>2 | .bl ..=>2 | .me ..=>2 | .sl ..=>2 | .ss ..=>2
 | .tv ..=>3 | .tc ..=>3 | .tch ..=>3 | .tn ..=>3 | .tq ..=>3
 | .a0=>4 | .ac ..=>4 | .iv ..=>5 | .ir1 ..=>5 | .ir2 ..=>5
 | .tl ..=>6 | .tcl ..=>6 | .ti ..=>6 | .tt ..=>6 | .t0=>7 | .tcons ..=>7
 | .sif ..=>8 | .swh ..=>8 | .sfo ..=>8 | .sfe ..=>8 | .re ..=>8 | .rn ..=>8 | .ex ..=>8 | .aL ..=>8 | .aC ..=>8 | .aI ..=>8 | .aA ..=>8 | .aT ..=>8 | .aTT ..=>8 | .aW ..=>8 | .aK ..=>8 | .bot ..=>8
 | .s0=>9 | .sc ..=>9 | .fr ..=>9 | .p0=>10 | .p1 ..=>10
 | .q0 op=>if op=.And then 11 else 12
 | .qc op _ _=>if op=.And then 11 else 12
 | .f0=>13 | .f1 ..=>13
 | .w1 op _=>if op=.And then 14 else 15
 | .wc op _ _=>if op=.And then 14 else 15
 | _=>0
noncomputable def valT:Value→T
 | .int i _=>.int i
 | .bytes a _=>.bytes a.toList
 | v=>.con v
noncomputable def gT(j:Nat):T:=if j=13 then .tup [.int 0,.int 9,.int 10,.int 12,.int 13,.int 32] else if j=14 then .tup [.int 40,.int 41,.int 60,.int 62,.int 91,.int 93,.int 123,.int 125,.int 47,.int 37] else
 match gtab[j]? with
 | some (_,_,v)=>valT v
 | none=>.none
noncomputable def bV(j:Nat):Value:=match btab[j]? with
 | some (_,_,v)=>v
 | none=>.none
noncomputable def opDict(s:S)(x:V):Option MO:=(opDictD s x).or (opDictP s x)
noncomputable def bOp:Nat→List V→Den Rv
 | 0=>opN (op1 opSorted)
 | 1=>opV (op1 opLen)
 | 2=>opV opMax
 | 3=>opV (op1 opSum)
 | 4=>opV (op1 opAbs)
 | 5=>opV (op1 opOrd)
 | 6=>opV (op1 opStr)
 | 7=>opV (op1 opInt)
 | 8=>opV (op2 opIsi)
 | 9=>opV (op1 opBytes)
 | 10=>opN (op1 opList)
 | 11=>opTuple
 | 12=>opN (op1 opDict)
 | _=>opV (op1 opRepr)
noncomputable def bId:Nat→Value
 | 0=>.builtin "sorted"
 | 1=>.builtin "len"
 | 2=>.builtin "max"
 | 3=>.builtin "sum"
 | 4=>.builtin "abs"
 | 5=>.builtin "ord"
 | 6=>.type "str"
 | 7=>.type "int"
 | 8=>.builtin "isinstance"
 | 9=>.type "bytes"
 | 10=>.type "list"
 | 11=>.type "tuple"
 | 12=>.type "dict"
 | _=>.builtin "repr"
noncomputable def mOk:Nat→S→V→Bool
 | 0=>isLst
 | 1=>isLst
 | 2=>isLst
 | 3=>isDic
 | 4=>isDic
 | 5=>isStr
 | 6=>isStr
 | 7=>isStr
 | _=>isByt
noncomputable def mOp:Nat→List V→Den Rv
 | 0=>opAppend
 | 1=>opPop
 | 2=>opV (op2 opIndex)
 | 3=>opV opGet
 | 4=>opDPop
 | 5=>opV (op2 opJoin)
 | 6=>opV opRjust
 | 7=>opV (op2 opEncode)
 | 8=>opV (op2 opBJoin)
 | _=>opV opFind
noncomputable def frOne(s:S):List (List Nat)→V→List Nat
 | [],.loc i=>[i]
 | [],.lst is=>is
 | [],_=>[]
 | x::r,v=>((s.flds v).bind fun p=>fGet x p.2).elim [] (frOne s r)
noncomputable def frOf(src:List (Nat×Nat×List (List Nat)))(s:S):List Nat:=src.flatMap fun q=>(((if q.1=0 then s.ls else s.cl)[q.2.1]?).bind id).elim [] (frOne s q.2.2)
structure D where
 v:Den V:=dNone
 n:Den MO:=dNone
 r:Den Rv:=dNone
 b:Den Bool:=dNone
 a:Den (List V):=dNone
 t:V→Den Unit:=fun _=>dNone
 ts:List (V→Den Unit):=[]
 s:Den Fl:=dNone
 p:Den (Option Int):=dNone
noncomputable def den(Γ:Nat→Sp)(k:Nat):X→D
 | .vl i _=>{ v:=dLoc i }
 | .vc i _=>{ v:=dCell i }
 | .vg _ j _=>{ v:=dT (gT j) }
 | .vb _ j _ _=>{ v:=dT (.con (bV j)) }
 | .ki n _ _=>{ v:=dT (.int n) }
 | .ks x _ _=>{ v:=dT (.str x) }
 | .kb b _ _=>{ v:=dT (.bytes b) }
 | .kn _ _=>{ v:=dT .none }
 | .kt b _ _=>{ v:=dT (.bool b) }
 | .bin op a b _=>{ v:=den2 (den Γ k a).v (den Γ k b).v (vv (binV op)) }
 | .neg a _=>{ v:=(den Γ k a).v.opt negV }
 | .cmp op a b _=>{ v:=vB (dCmp op (den Γ k a).v (den Γ k b).v) }
 | .chn o1 o2 a b c _=>{ v:=vB (dChain o1 o2 (den Γ k a).v (den Γ k b).v (den Γ k c).v) }
 | .ife c a b _=>{ v:=dIte (den Γ k c).b (den Γ k a).v (den Γ k b).v }
 | .w1 _ a=>{ v:=(den Γ k a).v }
 | .wc op a r=>{ v:=if op=.And then dAndV (den Γ k a).v (den Γ k r).v else dOrV (den Γ k a).v (den Γ k r).v }
 | .bov _ w _=>{ v:=(den Γ k w).v }
 | .tup as _ _=>{ v:=dTup (den Γ k as).a }
 | .lst as _=>{ v:=dLst (den Γ k as).a }
 | .item a b _=>{ v:=den2 (den Γ k a).v (den Γ k b).v itemV }
 | .att a x _=>{ v:=(den Γ k a).v.opt (attrV x) }
 | .fz n=>{ v:=dFz (den Γ k n).n }
 | .pu n=>{ v:=dPush (den Γ k n).n }
 | .vr r=>{ v:=dVal (den Γ k r).r }
 | .nr r=>{ v:=dNew (den Γ k r).r }
 | .mkT C kf _ _ as _ _=>{ v:=dMkT C (Γ kf) (den Γ k as).a }
 | .mkL C kf _ _ as _ _=>{ v:=dMkL C (Γ kf) (den Γ k as).a }
 | .nl as _=>{ n:=dList (den Γ k as).a }
 | .d0 _=>{ n:=dDict0 }
 | .d1 a b _=>{ n:=dDict1 (den Γ k a).v (den Γ k b).v }
 | .cm l _ _ ci i0 _ elt ifs it _ _=>{ n:=dComp (den Γ k it).a l.length ci i0 (den Γ k ifs).b (den Γ k elt).v }
 | .inc _ _ _ _ _ it _ _ _ _ _ _=>{ n:=dInc (den Γ k it).v }
 | .cf kf _ _ as _ _=>{ r:=dCall (Γ kf) (den Γ k as).a }
 | .ct C nm kf o as _ _=>{ r:=dCallM C nm (Γ kf) (den Γ k o).v (den Γ k as).a }
 | .bl b _ _ _ as _ _=>{ r:=(den Γ k as).a.bind (bOp b) }
 | .me b o as _ _=>{ r:=dM (mOk b) (mOp b) (den Γ k o).v (den Γ k as).a }
 | .sl v lo hi _ _=>{ r:=(den Γ k v).v.bind fun v=>(den Γ k lo).p.bind fun a=>(den Γ k hi).p.opt fun s b=>sliceV a b s v }
 | .ss _ _ _ _ _ _ a _ _ _ _=>{ r:=(den Γ k a).v.bind fun v=>opN (op1 opSS) [v] }
 | .tv a=>{ b:=dTruth (den Γ k a).v }
 | .tc op a b _=>{ b:=dCmp op (den Γ k a).v (den Γ k b).v }
 | .tch o1 o2 a b c _=>{ b:=dChain o1 o2 (den Γ k a).v (den Γ k b).v (den Γ k c).v }
 | .tn a _=>{ b:=dNot (den Γ k a).b }
 | .tq _ q _=>{ b:=(den Γ k q).b }
 | .q0 op=>{ b:=dB (op=.And) }
 | .qc op a r=>{ b:=if op=.And then dIte (den Γ k a).b (den Γ k r).b (dB false) else dIte (den Γ k a).b (dB true) (den Γ k r).b }
 | .f0=>{ b:=dB true }
 | .f1 c=>{ b:=(den Γ k c).b }
 | .iv a=>{ a:=dIter (den Γ k a).v }
 | .ir1 _ _ _ a _ _=>{ a:=dRange1 (den Γ k a).v }
 | .ir2 _ _ _ a b _ _=>{ a:=dRange2 (den Γ k a).v (den Γ k b).v }
 | .tl i _=>{ t:=tL i }
 | .tcl i _=>{ t:=tC i }
 | .ti o x _=>{ t:=tI (den Γ k o).v (den Γ k x).v }
 | .tt ts _ _=>{ t:=tTup (den Γ k ts).ts }
 | .t0=>{ ts:=[] }
 | .tcons t r=>{ ts:=(den Γ k t).t::(den Γ k r).ts }
 | .a0=>{ a:=dNil }
 | .ac a r=>{ a:=dCons (den Γ k a).v (den Γ k r).a }
 | .p0=>{ p:=fun s=>some (none,s) }
 | .p1 e=>{ p:=(den Γ k e).v.opt partV }
 | .sif c b o _=>{ s:=dIte (den Γ k c).b (den Γ k b).s (den Γ k o).s }
 | .swh n c b _=>{ s:=dWhile (den Γ k c).b (den Γ k b).s n }
 | .sfo t it b _=>{ s:=dFor (den Γ k it).a (den Γ k t).t (den Γ k b).s }
 | .sfe _ _ _ ts _ e b _ _ _ _=>{ s:=dForE (den Γ k e).v (den Γ k ts).ts (den Γ k b).s }
 | .re v _=>{ s:=(den Γ k v).v.bind (rvV k) }
 | .rn v _=>{ s:=(den Γ k v).n.bind (rvN k) }
 | .ex v _=>{ s:=dDo (den Γ k v).v }
 | .aL i v _ _=>{ s:=dSetL i (den Γ k v).v }
 | .aC i v _ _=>{ s:=dSetC i (den Γ k v).v }
 | .aI o x v _ _=>{ s:=dSetI (den Γ k v).v (den Γ k o).v (den Γ k x).v }
 | .aA o x v _ _=>{ s:=dSetA x (den Γ k v).v (den Γ k o).v }
 | .aT ts _ v _ _=>{ s:=dAsgT (den Γ k v).v (den Γ k ts).ts }
 | .aTT ts _ as _ _ _ _=>{ s:=dAsgTT (den Γ k as).a (den Γ k ts).ts }
 | .aW is _ _ as _ _ _ _=>{ s:=dAsgSw (den Γ k as).a is }
 | .aK i _ l _ _ ci i0 _ elt ifs it _ _ _=>{ s:=dAsgK (dFz (dComp (den Γ k it).a l.length ci i0 (den Γ k ifs).b (den Γ k elt).v)) (tL i) }
 | .s0=>{ s:=dNext }
 | .sc s r=>{ s:=dSeq (den Γ k s).s (den Γ k r).s }
 | .fr src r=>{ s:=dFrz (frOf src) k (den Γ k r).s }
 | .bot _=>{ s:=dNone }
 | .bv _=>{ v:=dNone }
section
variable {F:Frm} {ln cn gs:List Str}
theorem valT_is{w:World}{B:Base}(v:Value):Is w B v (valT v):=by
 unfold valT
 split
 ·exact .int _ _
 ·rename_i a t
  have q:Is w B (.bytes a.toList.toArray t) (.bytes a.toList):=.bytes _ _
  rw [Array.toArray_toList] at q
  exact q
 ·exact .con _
theorem obj74_is:∀ P:Params,(objs P)[74]?=some (Mine.seqObj "tuple" [.int (0) 270,.int (9) 271,.int (10) 272,.int (12) 273,.int (13) 274,.int (32) 275] 0):=fun P=>by kernel_rfl
theorem obj75_is:∀ P:Params,(objs P)[75]?=some (Mine.seqObj "tuple" [.int (40) 277,.int (41) 278,.int (60) 279,.int (62) 280,.int (91) 281,.int (93) 282,.int (123) 283,.int (125) 284,.int (47) 285,.int (37) 286] 0):=fun P=>by kernel_rfl
theorem gT_is{w:World}{B:Base}(hB:∀ i o,(objs w.params)[i]?=some o→B i=some o){j:Nat}{x:Str}{t:Tok}{v:Value}(h:gtab[j]?=some (x,t,v)):Is w B v (gT j):=by
 unfold gT
 by_cases h1:j=13
 ·subst h1
  rw [if_pos rfl]
  have e:gtab[13]?=some (("WHITE":Str),(276:Tok),Value.ref 74):=by kernel_rfl
  obtain⟨rfl,rfl,rfl⟩:_∧_∧_:=by rw [e] at h;injection h with h;injection h with a b;injection b with b c;exact⟨a,b,c⟩
  exact Is.of_tup (hB _ _ (obj74_is w.params)) (.cons (.int _ _) (.cons (.int _ _) (.cons (.int _ _) (.cons (.int _ _) (.cons (.int _ _) (.cons (.int _ _) .nil))))))
 ·rw [if_neg h1]
  by_cases h2:j=14
  ·subst h2
   rw [if_pos rfl]
   have e:gtab[14]?=some (("DELIMITERS":Str),(287:Tok),Value.ref 75):=by kernel_rfl
   obtain⟨rfl,rfl,rfl⟩:_∧_∧_:=by rw [e] at h;injection h with h;injection h with a b;injection b with b c;exact⟨a,b,c⟩
   exact Is.of_tup (hB _ _ (obj75_is w.params)) (.cons (.int _ _) (.cons (.int _ _) (.cons (.int _ _) (.cons (.int _ _) (.cons (.int _ _) (.cons (.int _ _) (.cons (.int _ _) (.cons (.int _ _) (.cons (.int _ _) (.cons (.int _ _) .nil))))))))))
  ·rw [if_neg h2,h]
   exact valT_is v
theorem biDict(n:Nm F ln cn gs):BI F ln (.type "dict") (opN (op1 opDict)):=fun ρ B s h X vs xs rel r s' e=>
 omE e fun o e1 e2=>obE e1 fun x e3 e4=>orE e4 (fun e5=>biDictD ρ B s h X vs xs rel r s' ((congrArg (Option.map _) ((congrArg (Option.bind · (opDictD s)) e3).trans e5)).trans (congrArg some e2)))
  fun e5=>biDictP n ρ B s h X vs xs rel r s' ((congrArg (Option.map _) ((congrArg (Option.bind · (opDictP s)) e3).trans e5)).trans (congrArg some e2))
theorem bi_all(n:Nm F ln cn gs)(hr:10≤F.r):∀ b:Nat,BI F ln (bId b) (bOp b)
 | 0=>biSorted n
 | 1=>biLen
 | 2=>biMax n
 | 3=>biSum n
 | 4=>biAbs
 | 5=>biOrd
 | 6=>biStr
 | 7=>biInt
 | 8=>biIsi
 | 9=>biBytes n
 | 10=>biList
 | 11=>biTuple
 | 12=>biDict n
 | _+13=>biRepr n (by omega)
theorem bId_or:∀ b:Nat,(∃ id,bId b=.builtin id)∨∃ id,bId b=.type id
 | 0=>.inl ⟨_,rfl⟩
 | 1=>.inl ⟨_,rfl⟩
 | 2=>.inl ⟨_,rfl⟩
 | 3=>.inl ⟨_,rfl⟩
 | 4=>.inl ⟨_,rfl⟩
 | 5=>.inl ⟨_,rfl⟩
 | 6=>.inr ⟨_,rfl⟩
 | 7=>.inr ⟨_,rfl⟩
 | 8=>.inl ⟨_,rfl⟩
 | 9=>.inr ⟨_,rfl⟩
 | 10=>.inr ⟨_,rfl⟩
 | 11=>.inr ⟨_,rfl⟩
 | 12=>.inr ⟨_,rfl⟩
 | _+13=>.inl ⟨_,rfl⟩
theorem mi_all:∀ b:Nat,∃ c,MI F ln (chrs (mName b)) c (mOk b)∧BI F ln (.builtin c) (mOp b)
 | 0=>⟨_,miLst slot_list_append type_list_append,biAppend⟩
 | 1=>⟨_,miLst PySem.F.slot_list_pop PySem.F.type_list_pop,biPop⟩
 | 2=>⟨_,miLst PySem.F.slot_list_index PySem.F.type_list_index,biIndex⟩
 | 3=>⟨_,miDic PySem.F.slot_dict_get PySem.F.type_dict_get,biGet⟩
 | 4=>⟨_,miDic PySem.F.slot_dict_pop PySem.F.type_dict_pop,biDPop⟩
 | 5=>⟨_,miStr PySem.F.slot_str_join PySem.F.type_str_join,biJoin⟩
 | 6=>⟨_,miStr PySem.F.slot_str_rjust PySem.F.type_str_rjust,biRjust⟩
 | 7=>⟨_,miStr PySem.F.slot_str_encode PySem.F.type_str_encode,biEncode⟩
 | 8=>⟨_,miByt slot_bytes_join type_bytes_join,biBJoin⟩
 | _+9=>⟨_,miByt slot_bytes_find type_bytes_find,biFind⟩
theorem jBx{b:Nat}{x:Str}{np p:Pos}{as:List Expr}{d:Den (List V)}(n:Nm F ln cn gs)(hr:10≤F.r)(HN:JV F ln (eval (.Name x np) F.E) (dT (.con (bId b))))(hn:noStar as=true)(H:JArgs F ln as d) :
  JR F ln (eval (.Call (.Name x np) as [] p) F.E) (d.bind (bOp b)):=by
 have K:=bi_all n hr b
 rcases bId_or b with ⟨id,e⟩ | ⟨id,e⟩ <;> rw [e] at K HN
 ·exact jB HN hn K H
 ·exact jBT HN hn K H
end
noncomputable def fnL:List Nat:=[82,104,119,161,315,379,400,407,412,417,422,429,444,500,522,536,543,583,590,597,604,618,632,639,653,674,681,688,695,700,707,714,721,728,733,747,759,773,780,801,815,829,836,841,848,855,862,869,874,879,886,891,896,901,908,913,918]
noncomputable def mkO:List (Nat×Nat):=[(192,104),(318,315),(389,379),(515,444),(663,653),(818,747)]
noncomputable def meO:List (Nat×List Nat×Nat):=[(192,[112,101,101,107],119),(192,[115,107,105,112,95,108,105,110,101,95,101,110,100],161),(515,[110,117,109,98,101,114,115],500),(818,[115,105,122,101],759),(818,[110,101,101,100,95,110,111,95,104,111,108,100,101,114],773),(818,[108,97,121],780),(818,[102,114,101,101],801),(818,[110,101,119,95,101,110,116,114,105,101,115],815)]
theorem mkO_ok:∀ P:Params,(mkO.all fun q=>mkB P q.1 q.2)=true:=fun P=>by kernel_rfl
theorem meO_ok:∀ P:Params,(meO.all fun q=>methB P q.1 (chrs q.2.1) q.2.2)=true:=fun P=>by kernel_rfl
noncomputable def isNm:Expr→Bool
 | .Name ..=>true
 | _=>false
noncomputable def gIs(x:Str)(j:Nat):Bool:=match gtab[j]? with
 | some (y,_,_)=>y == x
 | none=>false
noncomputable def gRef(x:Str)(j a:Nat):Bool:=match gtab[j]? with
 | some (y,_,.ref b)=>y == x && b == a
 | _=>false
noncomputable def bIs(x:Str)(j k:Nat):Bool:=usedB[k]? == some x && match btab[j]? with
 | some (y,_,_)=>y == x
 | none=>false
noncomputable def notTup:Expr→Bool
 | .Tuple ..=>false
 | _=>true
noncomputable def isLC:Expr→Bool
 | .ListComp ..=>true
 | _=>false
noncomputable def compC(c:Cx)(ci:List Nat)(l f g:List Str)(sc:Scope)(i0:Nat):Bool:=compOkB sc l f g && ciOk c.cn f ci && decide (i0 < l.length)
noncomputable def wf:Cx→X→Bool
 | c,.vl i _=>decide (i < c.ln.length)
 | c,.vc i _=>decide (i < c.cn.length)
 | c,.vg i j _=>decide (i < c.gs.length) && gIs (nmA c.gs i) j
 | c,.vb i j k _=>decide (i < c.gs.length) && bIs (nmA c.gs i) j k
 | _,.ki ..=>true
 | _,.ks ..=>true
 | _,.kb ..=>true
 | _,.kn ..=>true
 | _,.kt ..=>true
 | c,.bin _ a b _=>(kd a == 0 && wf c a) && (kd b == 0 && wf c b)
 | c,.neg a _=>kd a == 0 && wf c a
 | c,.cmp op a b _=>((kd a == 0 && wf c a) && (kd b == 0 && wf c b)) && !behindInMarks op (syn c b).e
 | c,.chn o1 o2 a b d _=>(((kd a == 0 && wf c a) && (kd b == 0 && wf c b)) && (kd d == 0 && wf c d)) && !lastMarks [o1,o2] [(syn c b).e,(syn c d).e]
 | c,.ife d a b _=>((kd d == 3 && wf c d) && (kd a == 0 && wf c a)) && (kd b == 0 && wf c b)
 | c,.w1 _ a=>kd a == 0 && wf c a
 | c,.wc op a r=>(kd a == 0 && wf c a) && (kd r == (if op=.And then 14 else 15) && wf c r)
 | c,.bov op w _=>kd w == (if op=.And then 14 else 15) && wf c w
 | c,.tup as _ _=>(kd as == 4 && wf c as) && noStar (syn c as).es
 | c,.lst as _=>(kd as == 4 && wf c as) && noStar (syn c as).es
 | c,.item a b _=>(kd a == 0 && wf c a) && (kd b == 0 && wf c b)
 | c,.att a x _=>(kd a == 0 && wf c a) && (baseB (syn c a).e && attNames.contains (chrs x))
 | c,.fz n=>kd n == 1 && wf c n
 | c,.pu n=>kd n == 1 && wf c n
 | c,.vr r=>kd r == 2 && wf c r
 | c,.nr r=>kd r == 2 && wf c r
 | c,.mkT C kf i j as _ _=>(kd as == 4 && wf c as) && (noStar (syn c as).es && (decide (i < c.gs.length) && (gRef (nmA c.gs i) j C && (mkO.contains (C,kf) && fnL.contains kf))))
 | c,.mkL C kf i j as _ _=>(kd as == 4 && wf c as) && (noStar (syn c as).es && (decide (i < c.gs.length) && (gRef (nmA c.gs i) j C && (mkO.contains (C,kf) && fnL.contains kf))))
 | c,.nl as _=>(kd as == 4 && wf c as) && noStar (syn c as).es
 | _,.d0 _=>true
 | c,.d1 a b _=>(kd a == 0 && wf c a) && (kd b == 0 && wf c b)
 | c,.cm l f g ci i0 sc elt ifs it _ _=>((kd it == 5 && wf c it) && ((kd ifs == 13 && wf ⟨l,f,g⟩ ifs) && (kd elt == 0 && wf ⟨l,f,g⟩ elt))) && (compC c ci l f g sc i0 && notSet (syn c it).e)
 | c,.inc l f g i0 sc it _ _ _ _ _ _=>(kd it == 0 && wf c it) && (compOkB sc l f g && (f.all fun y=>c.cn.contains y) && decide (i0 < l.length) && notSet (syn c it).e)
 | c,.cf kf i j as _ _=>(kd as == 4 && wf c as) && (noStar (syn c as).es && (decide (i < c.gs.length) && (gRef (nmA c.gs i) j kf && fnL.contains kf)))
 | c,.ct C nm kf o as ap p=>((kd o == 0 && wf c o) && (kd as == 4 && wf c as)) && (noStar (syn c as).es && (baseB (syn c o).e && (ap.endLine == p.line && (decide ((syn c as).es.length < 29) && (meO.contains (C,nm,kf) && fnL.contains kf)))))
 | c,.bl b i j k as _ _=>(kd as == 4 && wf c as) && (noStar (syn c as).es && (decide (i < c.gs.length) && (bIs (nmA c.gs i) j k && bV j == bId b)))
 | c,.me _ o as ap p=>((kd o == 0 && wf c o) && (kd as == 4 && wf c as)) && (noStar (syn c as).es && (baseB (syn c o).e && (ap.endLine == p.line && decide ((syn c as).es.length < 29))))
 | c,.sl v lo hi _ _=>((kd v == 0 && wf c v) && ((kd lo == 10 && wf c lo) && (kd hi == 10 && wf c hi))) && isNm (syn c v).e
 | c,.ss i1 j1 k1 i2 j2 k2 a _ _ _ _=>(kd a == 0 && wf c a) && (noStar [(syn c a).e] && ((decide (i1 < c.gs.length) && (bIs (nmA c.gs i1) j1 k1 && bV j1 == .builtin "sorted")) && (decide (i2 < c.gs.length) && (bIs (nmA c.gs i2) j2 k2 && bV j2 == .type "set"))))
 | c,.tv a=>(kd a == 0 && wf c a) && notTest (syn c a).e
 | c,.tc op a b _=>((kd a == 0 && wf c a) && (kd b == 0 && wf c b)) && !behindInMarks op (syn c b).e
 | c,.tch o1 o2 a b d _=>(((kd a == 0 && wf c a) && (kd b == 0 && wf c b)) && (kd d == 0 && wf c d)) && !lastMarks [o1,o2] [(syn c b).e,(syn c d).e]
 | c,.tn a _=>kd a == 3 && wf c a
 | c,.tq op q _=>kd q == (if op=.And then 11 else 12) && wf c q
 | _,.q0 _=>true
 | c,.qc op a r=>(kd a == 3 && wf c a) && (kd r == (if op=.And then 11 else 12) && wf c r)
 | _,.f0=>true
 | c,.f1 a=>kd a == 3 && wf c a
 | c,.iv a=>kd a == 0 && wf c a
 | c,.ir1 i j k a _ _=>(kd a == 0 && wf c a) && (noStar [(syn c a).e] && (decide (i < c.gs.length) && (bIs (nmA c.gs i) j k && bV j == .type "range")))
 | c,.ir2 i j k a b _ _=>((kd a == 0 && wf c a) && (kd b == 0 && wf c b)) && (noStar [(syn c a).e,(syn c b).e] && (decide (i < c.gs.length) && (bIs (nmA c.gs i) j k && bV j == .type "range")))
 | c,.tl i _=>decide (i < c.ln.length)
 | c,.tcl i _=>decide (i < c.cn.length)
 | c,.ti o x _=>(kd o == 0 && wf c o) && (kd x == 0 && wf c x)
 | c,.tt ts _ _=>(kd ts == 7 && wf c ts) && noStar (syn c ts).es
 | _,.t0=>true
 | c,.tcons t r=>(kd t == 6 && wf c t) && (kd r == 7 && wf c r)
 | _,.a0=>true
 | c,.ac a r=>(kd a == 0 && wf c a) && (kd r == 4 && wf c r)
 | _,.p0=>true
 | c,.p1 e=>kd e == 0 && wf c e
 | c,.sif d b o _=>((kd d == 3 && wf c d) && (kd b == 9 && wf c b)) && (kd o == 9 && wf c o)
 | c,.swh _ d b _=>(kd d == 3 && wf c d) && (kd b == 9 && wf c b)
 | c,.sfo t it b _=>((kd t == 6 && wf c t) && ((kd it == 5 && wf c it) && (kd b == 9 && wf c b))) && notSet (syn c it).e
 | c,.sfe i j k ts _ e b _ _ _ _=>((kd ts == 7 && wf c ts) && ((kd e == 0 && wf c e) && (kd b == 9 && wf c b))) && (noStar [(syn c e).e] && (noStar (syn c ts).es && (decide (i < c.gs.length) && (bIs (nmA c.gs i) j k && bV j == .type "enumerate"))))
 | c,.re v _=>kd v == 0 && wf c v
 | c,.rn v _=>kd v == 1 && wf c v
 | c,.ex v _=>(kd v == 0 && wf c v) && notComp (syn c v).e
 | c,.aL i v _ _=>(kd v == 0 && wf c v) && (decide (i < c.ln.length) && notComp (syn c v).e)
 | c,.aC i v _ _=>(kd v == 0 && wf c v) && (decide (i < c.cn.length) && (notComp (syn c v).e || isLC (syn c v).e))
 | c,.aI o x v _ _=>((kd v == 0 && wf c v) && ((kd o == 0 && wf c o) && (kd x == 0 && wf c x))) && notComp (syn c v).e
 | c,.aA o x v _ _=>((kd v == 0 && wf c v) && (kd o == 0 && wf c o)) && (notComp (syn c v).e && attNames.contains (chrs x))
 | c,.aT ts _ v _ _=>((kd v == 0 && wf c v) && (kd ts == 7 && wf c ts)) && (noStar (syn c ts).es && (notComp (syn c v).e && notTup (syn c v).e))
 | c,.aTT ts _ as _ _ _ _=>((kd as == 4 && wf c as) && (kd ts == 7 && wf c ts)) && (noStar (syn c ts).es && (noStar (syn c as).es && inCells c.cn (syn c ts).es))
 | c,.aW is ts _ as _ _ _ _=>(kd as == 4 && wf c as) && (noStar (syn c as).es && (swapChk c.ln (syn c ts).es (syn c as).es && (namesOf (syn c ts).es).map some == is.map (c.ln[·]?)))
 | c,.aK i q l f g ci i0 sc elt ifs it _ pos _=>((kd it == 5 && wf c it) && ((kd ifs == 13 && wf ⟨l,f,g⟩ ifs) && (kd elt == 0 && wf ⟨l,f,g⟩ elt))) && ((compC c ci l f g sc i0 && notSet (syn c it).e) && (decide (i < c.ln.length) && (q.line == pos.line && !(sc.names.any fun x=>x.1 == nmA c.ln i && (x.2 == .local || x.2 == .cell)))))
 | _,.s0=>true
 | c,.sc s r=>(kd s == 8 && wf c s) && (kd r == 9 && wf c r)
 | c,.fr _ r=>kd r == 9 && wf c r
 | _,.bot _=>true
 | _,.bv _=>true
section
def Good(Γ:Nat→Sp)(F:Frm)(c:Cx)(x:X):Prop:=match kd x with
 | 0=>JV F c.ln (eval (syn c x).e F.E) (den Γ F.k x).v
 | 1=>JN F c.ln (eval (syn c x).e F.E) (den Γ F.k x).n
 | 2=>JR F c.ln (eval (syn c x).e F.E) (den Γ F.k x).r
 | 3=>JB F c.ln (isTrue (syn c x).e F.E (eval (syn c x).e F.E)) (den Γ F.k x).b
 | 4=>JArgs F c.ln (syn c x).es (den Γ F.k x).a
 | 5=>JIt F c.ln (syn c x).e (den Γ F.k x).a
 | 6=>JT F c.ln (assign (syn c x).e F.E) (den Γ F.k x).t
 | 7=>JTs F c.ln (syn c x).es (den Γ F.k x).ts
 | 8=>JS F c.ln (exec (syn c x).s F.E) (den Γ F.k x).s
 | 9=>JS F c.ln (execs (syn c x).ss F.E) (den Γ F.k x).s
 | 10=>JP F c.ln (syn c x).o (den Γ F.k x).p
 | 11=>JB F c.ln (allTrue .And (syn c x).es F.E) (den Γ F.k x).b
 | 12=>JB F c.ln (allTrue .Or (syn c x).es F.E) (den Γ F.k x).b
 | 13=>JIfs F c.ln (syn c x).es (den Γ F.k x).b
 | 14=>∃ e r,(syn c x).es=e::r∧∀ p,JV F c.ln (eval (.BoolOp .And (e::r) p) F.E) (den Γ F.k x).v
 | _=>∃ e r,(syn c x).es=e::r∧∀ p,JV F c.ln (eval (.BoolOp .Or (e::r) p) F.E) (den Γ F.k x).v
structure Hyp(Γ:Nat→Sp)(r0:Nat)(F:Frm)(c:Cx):Prop where
 n:Nm F c.ln c.cn c.gs
 r:10≤F.r
 r1:r0+1≤F.r
 con:∀ f,fnL.contains f=true→ConAt F.w r0 f (Γ f)
def Snd(Γ:Nat→Sp)(r0:Nat)(x:X):Prop:=∀ (c:Cx) (F:Frm),Hyp Γ r0 F c→wf c x=true→Good Γ F c x
variable {Γ:Nat→Sp} {r0:Nat}
theorem a2{a b:Bool}(h:(a && b)=true):a=true∧b=true:=by cases a <;> cases b <;> first | exact⟨rfl,rfl⟩ | cases h
theorem u0{x:X}(S:Snd Γ r0 x){c:Cx}{F:Frm}(H:Hyp Γ r0 F c)(h:(kd x == 0 && wf c x)=true):JV F c.ln (eval (syn c x).e F.E) (den Γ F.k x).v:=by
 obtain⟨a,b⟩:=a2 h
 have g:=S c F H b
 unfold Good at g
 rw [eq_of_beq a] at g
 exact g
theorem u1{x:X}(S:Snd Γ r0 x){c:Cx}{F:Frm}(H:Hyp Γ r0 F c)(h:(kd x == 1 && wf c x)=true):JN F c.ln (eval (syn c x).e F.E) (den Γ F.k x).n:=by
 obtain⟨a,b⟩:=a2 h
 have g:=S c F H b
 unfold Good at g
 rw [eq_of_beq a] at g
 exact g
theorem u2{x:X}(S:Snd Γ r0 x){c:Cx}{F:Frm}(H:Hyp Γ r0 F c)(h:(kd x == 2 && wf c x)=true):JR F c.ln (eval (syn c x).e F.E) (den Γ F.k x).r:=by
 obtain⟨a,b⟩:=a2 h
 have g:=S c F H b
 unfold Good at g
 rw [eq_of_beq a] at g
 exact g
theorem u3{x:X}(S:Snd Γ r0 x){c:Cx}{F:Frm}(H:Hyp Γ r0 F c)(h:(kd x == 3 && wf c x)=true):JB F c.ln (isTrue (syn c x).e F.E (eval (syn c x).e F.E)) (den Γ F.k x).b:=by
 obtain⟨a,b⟩:=a2 h
 have g:=S c F H b
 unfold Good at g
 rw [eq_of_beq a] at g
 exact g
theorem u4{x:X}(S:Snd Γ r0 x){c:Cx}{F:Frm}(H:Hyp Γ r0 F c)(h:(kd x == 4 && wf c x)=true):JArgs F c.ln (syn c x).es (den Γ F.k x).a:=by
 obtain⟨a,b⟩:=a2 h
 have g:=S c F H b
 unfold Good at g
 rw [eq_of_beq a] at g
 exact g
theorem u5{x:X}(S:Snd Γ r0 x){c:Cx}{F:Frm}(H:Hyp Γ r0 F c)(h:(kd x == 5 && wf c x)=true):JIt F c.ln (syn c x).e (den Γ F.k x).a:=by
 obtain⟨a,b⟩:=a2 h
 have g:=S c F H b
 unfold Good at g
 rw [eq_of_beq a] at g
 exact g
theorem u6{x:X}(S:Snd Γ r0 x){c:Cx}{F:Frm}(H:Hyp Γ r0 F c)(h:(kd x == 6 && wf c x)=true):JT F c.ln (assign (syn c x).e F.E) (den Γ F.k x).t:=by
 obtain⟨a,b⟩:=a2 h
 have g:=S c F H b
 unfold Good at g
 rw [eq_of_beq a] at g
 exact g
theorem u7{x:X}(S:Snd Γ r0 x){c:Cx}{F:Frm}(H:Hyp Γ r0 F c)(h:(kd x == 7 && wf c x)=true):JTs F c.ln (syn c x).es (den Γ F.k x).ts:=by
 obtain⟨a,b⟩:=a2 h
 have g:=S c F H b
 unfold Good at g
 rw [eq_of_beq a] at g
 exact g
theorem u8{x:X}(S:Snd Γ r0 x){c:Cx}{F:Frm}(H:Hyp Γ r0 F c)(h:(kd x == 8 && wf c x)=true):JS F c.ln (exec (syn c x).s F.E) (den Γ F.k x).s:=by
 obtain⟨a,b⟩:=a2 h
 have g:=S c F H b
 unfold Good at g
 rw [eq_of_beq a] at g
 exact g
theorem u9{x:X}(S:Snd Γ r0 x){c:Cx}{F:Frm}(H:Hyp Γ r0 F c)(h:(kd x == 9 && wf c x)=true):JS F c.ln (execs (syn c x).ss F.E) (den Γ F.k x).s:=by
 obtain⟨a,b⟩:=a2 h
 have g:=S c F H b
 unfold Good at g
 rw [eq_of_beq a] at g
 exact g
theorem u10{x:X}(S:Snd Γ r0 x){c:Cx}{F:Frm}(H:Hyp Γ r0 F c)(h:(kd x == 10 && wf c x)=true):JP F c.ln (syn c x).o (den Γ F.k x).p:=by
 obtain⟨a,b⟩:=a2 h
 have g:=S c F H b
 unfold Good at g
 rw [eq_of_beq a] at g
 exact g
theorem u11{x:X}(S:Snd Γ r0 x){c:Cx}{F:Frm}(H:Hyp Γ r0 F c)(h:(kd x == 11 && wf c x)=true):JB F c.ln (allTrue .And (syn c x).es F.E) (den Γ F.k x).b:=by
 obtain⟨a,b⟩:=a2 h
 have g:=S c F H b
 unfold Good at g
 rw [eq_of_beq a] at g
 exact g
theorem u12{x:X}(S:Snd Γ r0 x){c:Cx}{F:Frm}(H:Hyp Γ r0 F c)(h:(kd x == 12 && wf c x)=true):JB F c.ln (allTrue .Or (syn c x).es F.E) (den Γ F.k x).b:=by
 obtain⟨a,b⟩:=a2 h
 have g:=S c F H b
 unfold Good at g
 rw [eq_of_beq a] at g
 exact g
theorem u13{x:X}(S:Snd Γ r0 x){c:Cx}{F:Frm}(H:Hyp Γ r0 F c)(h:(kd x == 13 && wf c x)=true):JIfs F c.ln (syn c x).es (den Γ F.k x).b:=by
 obtain⟨a,b⟩:=a2 h
 have g:=S c F H b
 unfold Good at g
 rw [eq_of_beq a] at g
 exact g
theorem u14{x:X}(S:Snd Γ r0 x){c:Cx}{F:Frm}(H:Hyp Γ r0 F c)(h:(kd x == 14 && wf c x)=true):∃ e r,(syn c x).es=e::r∧∀ p,JV F c.ln (eval (.BoolOp .And (e::r) p) F.E) (den Γ F.k x).v:=by
 obtain⟨a,b⟩:=a2 h
 have g:=S c F H b
 unfold Good at g
 rw [eq_of_beq a] at g
 exact g
theorem u15{x:X}(S:Snd Γ r0 x){c:Cx}{F:Frm}(H:Hyp Γ r0 F c)(h:(kd x == 15 && wf c x)=true):∃ e r,(syn c x).es=e::r∧∀ p,JV F c.ln (eval (.BoolOp .Or (e::r) p) F.E) (den Γ F.k x).v:=by
 obtain⟨a,b⟩:=a2 h
 have g:=S c F H b
 unfold Good at g
 rw [eq_of_beq a] at g
 exact g
theorem nmA_at{l:List Str}{i:Nat}(h:decide (i < l.length)=true):l[i]?=some (nmA l i):=by
 have h:=of_decide_eq_true h
 rw [List.getElem?_eq_getElem h]
 unfold nmA
 rw [List.getD_eq_getElem?_getD,List.getElem?_eq_getElem h]
 rfl
theorem gIs_at{x:Str}{j:Nat}(h:gIs x j=true):∃ t v,gtab[j]?=some (x,t,v):=by
 unfold gIs at h
 split at h
 ·rename_i y t v e
  rw [eq_of_beq h] at e
  exact⟨t,v,e⟩
 ·cases h
theorem gRef_at{x:Str}{j a:Nat}(h:gRef x j a=true):∃ t,gtab[j]?=some (x,t,.ref a):=by
 unfold gRef at h
 split at h
 ·rename_i y t b e
  obtain⟨h1,h2⟩:=a2 h
  rw [eq_of_beq h1,eq_of_beq h2] at e
  exact⟨t,e⟩
 ·cases h
theorem bIs_at{x:Str}{j k:Nat}(h:bIs x j k=true):usedB[k]?=some x∧∃ t,btab[j]?=some (x,t,bV j):=by
 unfold bIs at h
 obtain⟨h1,h2⟩:=a2 h
 refine⟨eq_of_beq h1,?_⟩
 unfold bV
 split at h2
 ·rename_i y t v e
  rw [eq_of_beq h2] at e
  rw [e]
  exact⟨t,rfl⟩
 ·cases h2
theorem jRefN{F:Frm}{c:Cx}(H:Hyp Γ r0 F c){i j a:Nat}{p:Pos}(hi:decide (i < c.gs.length)=true)(h:gRef (nmA c.gs i) j a=true):JV F c.ln (eval (.Name (nmA c.gs i) p) F.E) (dT (.con (.ref a))):=by
 obtain⟨t,e⟩:=gRef_at h
 exact jGlobC H.n i j (nmA_at hi) e
theorem jBltN{F:Frm}{c:Cx}(H:Hyp Γ r0 F c){i j k:Nat}{p:Pos}{v:Value}(hi:decide (i < c.gs.length)=true)(h:bIs (nmA c.gs i) j k=true)(hv:(bV j == v)=true):JV F c.ln (eval (.Name (nmA c.gs i) p) F.E) (dT (.con v)):=by
 obtain⟨h1,t,e⟩:=bIs_at h
 rw [←eq_of_beq hv]
 exact jBlt H.n i j k (nmA_at hi) h1 e
theorem mkO_at{C kf:Nat}(h:mkO.contains (C,kf)=true)(P:Params):mkB P C kf=true:=List.all_eq_true.mp (mkO_ok P) (C,kf) (by simpa using h)
theorem meO_at{C:Nat}{nm:List Nat}{kf:Nat}(h:meO.contains (C,nm,kf)=true)(P:Params):methB P C (chrs nm) kf=true:=List.all_eq_true.mp (meO_ok P) (C,nm,kf) (by simpa using h)
theorem not_t{b:Bool}(h:(!b)=true):b=false:=by cases b <;> first | rfl | cases h
theorem tmp_no{e:Expr}(h:isNm e=true)(o r:Value):letTemporaryGo e o r=pure ():=by cases e <;> first | rfl | (cases h;done)
theorem swT_no{ts:List Expr}{k:Nat}{tp:Pos}{e:Expr}{l:Nat}{E:Env}(h:notComp e=true):swapsWithSole [.Tuple ts k tp] e l E=pure false:=by unfold swapsWithSole;exact swaps_no h
theorem swS_no{ts:List Expr}{k:Nat}{tp:Pos}{e:Expr}{E:Env}(h:notTup e=true):swappedStores [.Tuple ts k tp] e E=pure none:=by
 cases e <;> first | rfl | (cases h;done)
theorem swC_no{F:Frm}{c:Cx}(n:Nm F c.ln c.cn c.gs){i l:Nat}{q:Pos}{e:Expr}(hi:decide (i < c.cn.length)=true)(h:(notComp e || isLC e)=true):swapsWith e (some (.Name (nmA c.cn i) q)) l F.E=pure false:=by
 cases e <;> first | rfl | exact swaps_cell n i (nmA_at hi) | (cases h;done)
theorem compC_at{c:Cx}{ci:List Nat}{l f g:List Str}{sc:Scope}{i0:Nat}(h:compC c ci l f g sc i0=true):CompOk sc l f g∧ciOk c.cn f ci=true∧l[i0]?=some (nmA l i0):=by
 unfold compC at h
 obtain⟨h,h3⟩:=a2 h
 obtain⟨h1,h2⟩:=a2 h
 exact⟨.of h1,h2,nmA_at h3⟩
theorem Hyp.comp{F:Frm}{c:Cx}(H:Hyp Γ r0 F c){sc:Scope}{cl:List (Str×Addr)}{C:Addr}{ci:List Nat}{l f g:List Str}(n:Nm (F.comp sc cl C ci) l f g):Hyp Γ r0 (F.comp sc cl C ci) ⟨l,f,g⟩:=⟨n,H.r,H.r1,H.con⟩
end
section
variable {Γ:Nat→Sp} {r0:Nat}
theorem names_at{l:List Str}:∀ {xs:List Str} {is:List Nat},xs.map some=is.map (l[·]?)→All2 (fun x i=>l[i]?=some x) xs is
 | [],[],_=>.nil
 | x::xs,i::is,h=>by
  simp only [List.map_cons,List.cons.injEq] at h
  exact .cons h.1.symm (names_at h.2)
 | [],_::_,h=>by simp at h
 | _::_,[],h=>by simp at h
theorem sound(x:X):Snd Γ r0 x:=by
 induction x with
 | vl i p=>
  intro c F H hw
  exact jLoc H.n i (nmA_at hw)
 | vc i p=>
  intro c F H hw
  exact jCell H.n i (nmA_at hw)
 | vg i j p=>
  intro c F H hw
  obtain⟨h1,h2⟩:=a2 hw
  obtain⟨t,v,e⟩:=gIs_at h2
  exact jGlob H.n i j (nmA_at h1) e (fun B hB=>gT_is hB e)
 | vb i j k p=>
  intro c F H hw
  obtain⟨h1,h2⟩:=a2 hw
  obtain⟨h3,t,e⟩:=bIs_at h2
  exact jBlt H.n i j k (nmA_at h1) h3 e
 | ki n kk p=>
  intro c F H hw
  exact jInt
 | ks x kk p=>
  intro c F H hw
  exact jStr rfl
 | kb b kk p=>
  intro c F H hw
  exact jBytes
 | kn kk p=>
  intro c F H hw
  exact jNone
 | kt b kk p=>
  intro c F H hw
  exact jBool
 | bin op a b p ia ib=>
  intro c F H hw
  obtain⟨ha,hb⟩:=a2 hw
  exact jBin (u0 ia H ha) (u0 ib H hb)
 | neg a p ia=>
  intro c F H hw
  exact jNeg (u0 ia H hw)
 | cmp op a b p ia ib=>
  intro c F H hw
  obtain⟨h,h3⟩:=a2 hw
  obtain⟨ha,hb⟩:=a2 h
  exact jCmp H.n H.r (u0 ia H ha) (u0 ib H hb) (not_t h3)
 | chn o1 o2 a b d p ia ib ic=>
  intro c F H hw
  obtain⟨h,h4⟩:=a2 hw
  obtain⟨h,h3⟩:=a2 h
  obtain⟨ha,hb⟩:=a2 h
  exact jChain H.n H.r (u0 ia H ha) (u0 ib H hb) (u0 ic H h3) (not_t h4)
 | ife d a b p ic ia ib=>
  intro c F H hw
  obtain⟨h,hb⟩:=a2 hw
  obtain⟨hd,ha⟩:=a2 h
  exact jIfe (u3 ic H hd) (u0 ia H ha) (u0 ib H hb)
 | w1 op a ia=>
  intro c F H hw
  cases op
  ·exact⟨_,_,rfl,fun p=>jOneV (u0 ia H hw)⟩
  ·exact⟨_,_,rfl,fun p=>jOneV (u0 ia H hw)⟩
 | wc op a r ia ir=>
  intro c F H hw
  obtain⟨ha,hr⟩:=a2 hw
  cases op
  ·obtain⟨e,r',q,k⟩:=u14 ir H hr
   refine⟨_,_,rfl,fun p=>?_⟩
   show JV F c.ln (eval (.BoolOp .And ((syn c a).e::(syn c r).es) p) F.E) _
   rw [q]
   exact jAndV (u0 ia H ha) (k p)
  ·obtain⟨e,r',q,k⟩:=u15 ir H hr
   refine⟨_,_,rfl,fun p=>?_⟩
   show JV F c.ln (eval (.BoolOp .Or ((syn c a).e::(syn c r).es) p) F.E) _
   rw [q]
   exact jOrV (u0 ia H ha) (k p)
 | bov op w p iw=>
  intro c F H hw
  cases op
  ·obtain⟨e,r',q,k⟩:=u14 iw H hw
   show JV F c.ln (eval (.BoolOp .And (syn c w).es p) F.E) _
   rw [q]
   exact k p
  ·obtain⟨e,r',q,k⟩:=u15 iw H hw
   show JV F c.ln (eval (.BoolOp .Or (syn c w).es p) F.E) _
   rw [q]
   exact k p
 | tup as kk p ia=>
  intro c F H hw
  obtain⟨ha,hb⟩:=a2 hw
  exact jTup hb (u4 ia H ha)
 | lst as p ia=>
  intro c F H hw
  obtain⟨ha,hb⟩:=a2 hw
  exact jLst hb (u4 ia H ha)
 | item a b p ia ib=>
  intro c F H hw
  obtain⟨ha,hb⟩:=a2 hw
  exact jItem (u0 ia H ha) (u0 ib H hb)
 | att a x p ia=>
  intro c F H hw
  obtain⟨ha,hb⟩:=a2 hw
  obtain⟨h3,h4⟩:=a2 hb
  exact jAttr (attr_eq h3) rfl (List.contains_iff_mem.mp h4) (u0 ia H ha)
 | fz n i=>
  intro c F H hw
  exact jFz (u1 i H hw)
 | pu n i=>
  intro c F H hw
  exact jPush (u1 i H hw)
 | vr r i=>
  intro c F H hw
  exact jVal (u2 i H hw)
 | nr r i=>
  intro c F H hw
  exact jNew (u2 i H hw)
 | mkT C kf i j as p1 p ia=>
  intro c F H hw
  obtain⟨h1,h⟩:=a2 hw
  obtain⟨h2,h⟩:=a2 h
  obtain⟨h3,h⟩:=a2 h
  obtain⟨h4,h⟩:=a2 h
  obtain⟨h5,h6⟩:=a2 h
  exact jMkT H.n (jRefN H h3 h4) h2 (mkO_at h5) (H.con kf h6) H.r1 (u4 ia H h1)
 | mkL C kf i j as p1 p ia=>
  intro c F H hw
  obtain⟨h1,h⟩:=a2 hw
  obtain⟨h2,h⟩:=a2 h
  obtain⟨h3,h⟩:=a2 h
  obtain⟨h4,h⟩:=a2 h
  obtain⟨h5,h6⟩:=a2 h
  exact jMkL H.n (jRefN H h3 h4) h2 (mkO_at h5) (H.con kf h6) H.r1 (u4 ia H h1)
 | nl as p ia=>
  intro c F H hw
  obtain⟨ha,hb⟩:=a2 hw
  exact jList hb (u4 ia H ha)
 | d0 p=>
  intro c F H hw
  exact jDict0
 | d1 a b p ia ib=>
  intro c F H hw
  obtain⟨ha,hb⟩:=a2 hw
  exact jDict1 (u0 ia H ha) (u0 ib H hb)
 | cm l f g ci i0 sc elt ifs it px p ie ii it'=>
  intro c F H hw
  obtain⟨h,k⟩:=a2 hw
  obtain⟨h1,h⟩:=a2 h
  obtain⟨h2,h3⟩:=a2 h
  obtain⟨k1,k2⟩:=a2 k
  obtain⟨q1,q2,q3⟩:=compC_at k1
  exact jComp H.n q1 q2 q3 (folded_no k2) _ (u5 it' H h1) (fun C cl n=>u13 ii (H.comp n) h2) (fun C cl n=>u0 ie (H.comp n) h3)
 | inc l f g i0 sc it kk px p1 p2 p3 p it'=>
  intro c F H hw
  obtain⟨h1,h⟩:=a2 hw
  obtain⟨h,h4⟩:=a2 h
  obtain⟨h,h3⟩:=a2 h
  obtain⟨h2,h5⟩:=a2 h
  exact jInc H.n (.of h2) (fun y hy=>List.contains_iff_mem.mp (List.all_eq_true.mp h5 y hy)) (List.mem_of_getElem? (nmA_at h3)) (folded_no h4) (u0 it' H h1)
 | cf kf i j as p1 p ia=>
  intro c F H hw
  obtain⟨h1,h⟩:=a2 hw
  obtain⟨h2,h⟩:=a2 h
  obtain⟨h3,h⟩:=a2 h
  obtain⟨h4,h5⟩:=a2 h
  exact jCallF H.n (jRefN H h3 h4) h2 (H.con kf h5) (Nat.le_of_succ_le H.r1) (u4 ia H h1)
 | ct C nm kf o as ap p io ia=>
  intro c F H hw
  obtain⟨h,k⟩:=a2 hw
  obtain⟨ho,ha⟩:=a2 h
  obtain⟨h1,k⟩:=a2 k
  obtain⟨h2,k⟩:=a2 k
  obtain⟨h3,k⟩:=a2 k
  obtain⟨h4,k⟩:=a2 k
  obtain⟨h5,h6⟩:=a2 k
  exact jCallM H.n (callM_eq h2 h3 h1 (of_decide_eq_true h4)) rfl (meO_at h5) h1 (H.con kf h6) (Nat.le_of_succ_le H.r1) (u0 io H ho) (u4 ia H ha)
 | bl b i j k as p1 p ia=>
  intro c F H hw
  obtain⟨h1,h⟩:=a2 hw
  obtain⟨h2,h⟩:=a2 h
  obtain⟨h3,h⟩:=a2 h
  obtain⟨h4,h5⟩:=a2 h
  exact jBx H.n H.r (jBltN H h3 h4 h5) h2 (u4 ia H h1)
 | me b o as ap p io ia=>
  intro c F H hw
  obtain⟨h,k⟩:=a2 hw
  obtain⟨ho,ha⟩:=a2 h
  obtain⟨h1,k⟩:=a2 k
  obtain⟨h2,k⟩:=a2 k
  obtain⟨h3,h4⟩:=a2 k
  obtain⟨cc,M1,M2⟩:=mi_all (F:=F) (ln:=c.ln) b
  exact jM (callM_eq h2 h3 h1 (of_decide_eq_true h4)) M1 M2 h1 (u0 io H ho) (u4 ia H ha)
 | sl v lo hi sp p iv il iu=>
  intro c F H hw
  obtain⟨h,h4⟩:=a2 hw
  obtain⟨h1,h⟩:=a2 h
  obtain⟨h2,h3⟩:=a2 h
  exact jSlice (tmp_no h4) (u0 iv H h1) (u10 il H h2) (u10 iu H h3)
 | ss i1 j1 k1 i2 j2 k2 a q1 p1 q2 p2 ia=>
  intro c F H hw
  obtain⟨h1,h⟩:=a2 hw
  obtain⟨h2,h⟩:=a2 h
  obtain⟨h3,h4⟩:=a2 h
  obtain⟨h5,h6⟩:=a2 h3
  obtain⟨h6,h7⟩:=a2 h6
  obtain⟨h8,h9⟩:=a2 h4
  obtain⟨h9,h10⟩:=a2 h9
  exact jSS H.n (jBltN H h5 h6 h7) (jBltN H h8 h9 h10) h2 (u0 ia H h1)
 | tv a ia=>
  intro c F H hw
  obtain⟨ha,hb⟩:=a2 hw
  exact jTVal (u0 ia H ha) (isTrue_eq hb)
 | tc op a b p ia ib=>
  intro c F H hw
  obtain⟨h,h3⟩:=a2 hw
  obtain⟨ha,hb⟩:=a2 h
  exact jTCmp H.n H.r (u0 ia H ha) (u0 ib H hb) (not_t h3)
 | tch o1 o2 a b d p ia ib ic=>
  intro c F H hw
  obtain⟨h,h4⟩:=a2 hw
  obtain⟨h,h3⟩:=a2 h
  obtain⟨ha,hb⟩:=a2 h
  exact jTChain H.n H.r (u0 ia H ha) (u0 ib H hb) (u0 ic H h3) (not_t h4)
 | tn a p ia=>
  intro c F H hw
  exact jTNot (u3 ia H hw)
 | tq op q p iq=>
  intro c F H hw
  cases op
  ·exact jTBool (u11 iq H hw)
  ·exact jTBool (u12 iq H hw)
 | q0 op=>
  intro c F H hw
  cases op
  ·exact jAndNil
  ·exact jOrNil
 | qc op a r ia ir=>
  intro c F H hw
  obtain⟨ha,hr⟩:=a2 hw
  cases op
  ·exact jAndCons (u3 ia H ha) (u11 ir H hr)
  ·exact jOrCons (u3 ia H ha) (u12 ir H hr)
 | f0=>
  intro c F H hw
  exact jIfs0
 | f1 a ia=>
  intro c F H hw
  exact jIfs1 (u3 ia H hw)
 | iv a ia=>
  intro c F H hw
  exact jItV H.n (u0 ia H hw)
 | ir1 i j k a p1 p ia=>
  intro c F H hw
  obtain⟨h1,h⟩:=a2 hw
  obtain⟨h2,h⟩:=a2 h
  obtain⟨h3,h⟩:=a2 h
  obtain⟨h4,h5⟩:=a2 h
  exact jItR1 H.n (jBltN H h3 h4 h5) h2 (u0 ia H h1)
 | ir2 i j k a b p1 p ia ib=>
  intro c F H hw
  obtain⟨h1,h⟩:=a2 hw
  obtain⟨ha,hb⟩:=a2 h1
  obtain⟨h2,h⟩:=a2 h
  obtain⟨h3,h⟩:=a2 h
  obtain⟨h4,h5⟩:=a2 h
  exact jItR2 H.n (jBltN H h3 h4 h5) h2 (u0 ia H ha) (u0 ib H hb)
 | tl i p=>
  intro c F H hw
  exact jtL H.n i (nmA_at hw)
 | tcl i p=>
  intro c F H hw
  exact jtC H.n i (nmA_at hw)
 | ti o x p io ix=>
  intro c F H hw
  obtain⟨ha,hb⟩:=a2 hw
  exact jtI (u0 io H ha) (u0 ix H hb)
 | tt ts kk p it=>
  intro c F H hw
  obtain⟨ha,hb⟩:=a2 hw
  exact jtTup H.n hb (u7 it H ha)
 | t0=>
  intro c F H hw
  exact All2.nil
 | tcons t r it ir=>
  intro c F H hw
  obtain⟨ha,hb⟩:=a2 hw
  exact All2.cons (u6 it H ha) (u7 ir H hb)
 | a0=>
  intro c F H hw
  exact jArgs0
 | ac a r ia ir=>
  intro c F H hw
  obtain⟨ha,hb⟩:=a2 hw
  exact jArgs1 (u0 ia H ha) (u4 ir H hb)
 | p0=>
  intro c F H hw
  exact jP0
 | p1 e ie=>
  intro c F H hw
  exact jP1 (u0 ie H hw)
 | sif d b o p ic ib io=>
  intro c F H hw
  obtain⟨h,h3⟩:=a2 hw
  obtain⟨h1,h2⟩:=a2 h
  exact jIf (u3 ic H h1) (u9 ib H h2) (u9 io H h3)
 | swh n d b p ic ib=>
  intro c F H hw
  obtain⟨ha,hb⟩:=a2 hw
  exact jWhile n (u3 ic H ha) (u9 ib H hb)
 | sfo t it b p i1 i2 i3=>
  intro c F H hw
  obtain⟨h,h4⟩:=a2 hw
  obtain⟨h1,h⟩:=a2 h
  obtain⟨h2,h3⟩:=a2 h
  exact jFor H.n (folded_no h4) (u5 i2 H h2) (u6 i1 H h1) (u9 i3 H h3)
 | sfe i j k ts kk e b p1 cp tp p i1 i2 i3=>
  intro c F H hw
  obtain⟨h,q⟩:=a2 hw
  obtain⟨h1,h⟩:=a2 h
  obtain⟨h2,h3⟩:=a2 h
  obtain⟨q1,q⟩:=a2 q
  obtain⟨q2,q⟩:=a2 q
  obtain⟨q3,q⟩:=a2 q
  obtain⟨q4,q5⟩:=a2 q
  exact jForE H.n (jBltN H q3 q4 q5) q1 q2 (fun v=>folded_no rfl v) (u0 i2 H h2) (u7 i1 H h1) (u9 i3 H h3)
 | re v p iv=>
  intro c F H hw
  exact jRet (u0 iv H hw)
 | rn v p iv=>
  intro c F H hw
  exact jRetN (u1 iv H hw)
 | ex v p iv=>
  intro c F H hw
  obtain⟨ha,hb⟩:=a2 hw
  exact jExpr H.n (swaps_no hb) (u0 iv H ha)
 | aL i v q p iv=>
  intro c F H hw
  obtain⟨ha,hb⟩:=a2 hw
  obtain⟨h1,h2⟩:=a2 hb
  exact jAsgL H.n i (nmA_at h1) (swaps_no h2) (u0 iv H ha)
 | aC i v q p iv=>
  intro c F H hw
  obtain⟨ha,hb⟩:=a2 hw
  obtain⟨h1,h2⟩:=a2 hb
  exact jAsgC H.n i (nmA_at h1) (swC_no H.n h1 h2) (u0 iv H ha)
 | aI o x v q p io ix iv=>
  intro c F H hw
  obtain⟨h,h4⟩:=a2 hw
  obtain⟨h1,h⟩:=a2 h
  obtain⟨h2,h3⟩:=a2 h
  exact jAsgI (swaps_no h4) (u0 iv H h1) (u0 io H h2) (u0 ix H h3)
 | aA o x v q p io iv=>
  intro c F H hw
  obtain⟨h,k⟩:=a2 hw
  obtain⟨h1,h2⟩:=a2 h
  obtain⟨k1,k2⟩:=a2 k
  exact jAsgA (swaps_no k1) rfl (List.contains_iff_mem.mp k2) (u0 iv H h1) (u0 io H h2)
 | aT ts kk v tp p it iv=>
  intro c F H hw
  obtain⟨h,k⟩:=a2 hw
  obtain⟨h1,h2⟩:=a2 h
  obtain⟨k1,k⟩:=a2 k
  obtain⟨k2,k3⟩:=a2 k
  exact jAsgT H.n k1 (swT_no k2) (swS_no k3) (u0 iv H h1) (u7 it H h2)
 | aTT ts kk as k2 tp vp p it ia=>
  intro c F H hw
  obtain⟨h,k⟩:=a2 hw
  obtain⟨h1,h2⟩:=a2 h
  obtain⟨k1,k⟩:=a2 k
  obtain⟨k3,k4⟩:=a2 k
  exact jAsgTT H.n k1 k3 (swT_no rfl) (noswap H.n k4) (u4 ia H h1) (u7 it H h2)
 | aW is ts kk as k2 tp vp p it ia=>
  intro c F H hw
  obtain⟨h1,k⟩:=a2 hw
  obtain⟨k1,k⟩:=a2 k
  obtain⟨k3,k4⟩:=a2 k
  exact jAsgSw H.n k1 (swT_no rfl) (swap_of H.n k3) (names_at (eq_of_beq k4)) (u4 ia H h1)
 | aK i q l f g ci i0 sc elt ifs it px pos p ie ii it'=>
  intro c F H hw
  obtain⟨h,k⟩:=a2 hw
  obtain⟨h1,h⟩:=a2 h
  obtain⟨h2,h3⟩:=a2 h
  obtain⟨k,m⟩:=a2 k
  obtain⟨k1,k2⟩:=a2 k
  obtain⟨m1,m⟩:=a2 m
  obtain⟨m2,m3⟩:=a2 m
  obtain⟨q1,q2,q3⟩:=compC_at k1
  exact jAsgComp H.n (swaps_comp H.n i (nmA_at m1) m2 (not_t m3)) q1 q2 q3 (folded_no k2) (jtL H.n i (nmA_at m1)) _ (u5 it' H h1) (fun C cl n=>u13 ii (H.comp n) h2) (fun C cl n=>u0 ie (H.comp n) h3)
 | s0=>
  intro c F H hw
  exact jsNil
 | sc s r i1 i2=>
  intro c F H hw
  obtain⟨ha,hb⟩:=a2 hw
  exact jsCons (u8 i1 H ha) (u9 i2 H hb)
 | fr src r i=>
  intro c F H hw
  exact jsFrz _ (u9 i H hw)
 | bot s=>
  intro c F H hw
  exact jNone'
 | bv e=>
  intro c F H hw
  exact jVNone
end
structure Fd where
 ps:List Str
 ln:List Str
 cn:List Str
 gs:List Str
 df:List T
 bd:X
noncomputable def fxD(np:Nat)(df:List T)(xs:List V):Option (List V):=if xs.length≤np∧np≤xs.length+df.length then some (xs++(df.drop (xs.length+df.length - np)).map .t) else none
noncomputable def SP(tab:Nat→Option Fd):Nat→Nat→Sp
 | 0,_=>fun _ _=>none
 | n+1,f=>match tab f with
  | some d=>fun xs o=>(fxD d.ps.length d.df xs).bind fun ys=>runB d.ln d.cn d.ps (fun k=>(den (SP tab n) k d.bd).s) ys o
  | none=>fun _ _=>none
noncomputable def codeB(P:Params)(c:Addr)(q:Str):Bool:=match (objs P)[c]? with
 | some o=>match o.data with
  | .fields vs=>match vs[1]? with
   | some (Value.str q' _)=>q' == q
   | _=>false
  | _=>false
 | none=>false
def Bnd(w:World)(fd:FuncData)(ps:List Str)(df:List T):Prop:=∀ (s:Shared) (vs:List Value),St w s.heap→vs.length≤ps.length→ps.length≤vs.length+df.length →
 ∃ ws,BindsTo s fd ⟨vs,[]⟩ (ps.zip (vs++ws))∧∀ B,All2 (Is w B) ws (df.drop (vs.length+df.length - ps.length))
structure FdOk(w:World)(f:Nat)(d:Fd)(st:Stmt)(n q:Str)(dd m:Value)(c:Addr):Prop where
 obj:(objs w.params)[f]?=some (Mine.fnO st n q dd m (.ref c))
 cd:codeB w.params c q=true
 fc:fcOkB (fnS st) d.ps d.ln d.cn d.gs=true
 sy:(syn ⟨d.ln,d.cn,d.gs⟩ d.bd).ss=fnB st
 wf:(kd d.bd == 9 && wf ⟨d.ln,d.cn,d.gs⟩ d.bd)=true
 bn:Bnd w (fdOf st n q dd m (.ref c)) d.ps d.df
theorem sq_rel{w:World}{ρ:List Addr}{B:Base}{vs:List Value}{l:List T}(h:All2 (Is w B) vs l):All2 (RelV w ρ B) vs (l.map .t):=by
 induction h with
 | nil=>exact .nil
 | cons r _ ih=>exact .cons r ih
theorem FdOk.fn{w:World}{f:Nat}{d:Fd}{st:Stmt}{n q:Str}{dd m:Value}{c:Addr}(x:FdOk w f d st n q dd m c):FnAt w f st n q dd m c:=by
 refine⟨x.obj,?_⟩
 have h:=x.cd
 unfold codeB at h
 split at h
 ·rename_i o e
  split at h
  ·rename_i vs e2
   split at h
   ·rename_i q' t e3
    exact⟨o,vs,t,e,e2,by rw [e3,eq_of_beq h]⟩
   ·cases h
  ·cases h
 ·cases h
theorem FdOk.con{w:World}{f:Nat}{d:Fd}{st:Stmt}{n q:Str}{dd m:Value}{c:Addr}(x:FdOk w f d st n q dd m c){Γ:Nat→Sp}{r0:Nat}(hr:9≤r0)(H:∀ f,fnL.contains f=true→ConAt w r0 f (Γ f)) :
  Con w (r0+2) f fun xs o=>(fxD d.ps.length d.df xs).bind fun ys=>runB d.ln d.cn d.ps (fun k=>(den Γ k d.bd).s) ys o:=by
 refine con_of x.fn (.of x.fc) (fun ρ B s vs xs ys hs hB rel e=>?_) fun F hw hF n=>?_
 ·unfold fxD at e
  split at e
  ·rename_i hl
   cases e
   have hv:=rel.len
   obtain⟨ws,h1,h2⟩:=x.bn s vs hs (by omega) (by omega)
   have h2:=h2 B
   rw [hv] at h2
   refine⟨vs++ws,h1,?_,rel.append ?_⟩
   ·have:=h2.len
    rw [List.length_append,this,List.length_drop]
    omega
   ·exact sq_rel h2
  ·cases e
 ·have g:=u9 (sound d.bd) (c:=⟨d.ln,d.cn,d.gs⟩) (F:=F) (Γ:=Γ) (r0:=r0) ⟨n,by omega,by omega,fun f hf=>hw▸H f hf⟩ x.wf
  rw [x.sy] at g
  exact g
theorem con_all{w:World}{tab:Nat→Option Fd}(H:∀ f,fnL.contains f=true→∃ d st n q dd m c,tab f=some d∧FdOk w f d st n q dd m c):∀ n f,fnL.contains f=true→ConAt w (2 * n+10) f (SP tab n f)
 | 0,f,hf=>by
  obtain⟨d,st,n,q,dd,m,c,e,x⟩:=H f hf
  refine⟨⟨st,n,q,dd,m,c,x.fn⟩,?_⟩
  intro F A ln ρ B s h vs xs rv o' _ _ _ _ e
  cases e
 | k+1,f,hf=>by
  obtain⟨d,st,n,q,dd,m,c,e,x⟩:=H f hf
  refine⟨⟨st,n,q,dd,m,c,x.fn⟩,?_⟩
  have:=x.con (Γ:=SP tab k) (r0:=2 * k+10) (by omega) (con_all H k)
  show Con w (2 * (k+1)+10) f (match tab f with
   | some d=>fun xs o=>(fxD d.ps.length d.df xs).bind fun ys=>runB d.ln d.cn d.ps (fun k'=>(den (SP tab k) k' d.bd).s) ys o
   | none=>fun _ _=>none)
  rw [e]
  exact this
theorem Bnd.of{w:World}{fd:FuncData}{ps:List Str}(h:∀ vs:List Value,vs.length=ps.length→bindArgs fd ⟨vs,[]⟩=pure (ps.zip vs)):Bnd w fd ps []:=fun s vs _ h1 h2=>
 ⟨[],by rw [List.append_nil];exact .of_eq (h vs (by simp only [List.length_nil] at h2;omega)),fun B=>by simp only [List.drop_nil];exact .nil⟩
theorem lenS{vs:List Value}{n:Nat}(h:vs.length=n+1):∃ a r,vs=a::r∧r.length=n:=by
 cases vs with
 | nil=>cases h
 | cons a r=>exact⟨a,r,rfl,Nat.succ.inj h⟩
theorem len1{vs:List Value}(h:vs.length=1):∃ a,vs=[a]:=ex22 (lenS h) fun a r e h=>⟨a,e.trans (by rw [List.eq_nil_of_length_eq_zero h])⟩
theorem len2{vs:List Value}(h:vs.length=2):∃ a b,vs=[a,b]:=ex22 (lenS h) fun a r e h=>(len1 h).elim fun b q=>⟨a,b,e.trans (by rw [q])⟩
theorem len3{vs:List Value}(h:vs.length=3):∃ a b c,vs=[a,b,c]:=ex22 (lenS h) fun a r e h=>(len2 h).elim fun b z=>z.elim fun c q=>⟨a,b,c,e.trans (by rw [q])⟩
theorem len4{vs:List Value}(h:vs.length=4):∃ a b c d,vs=[a,b,c,d]:=ex22 (lenS h) fun a r e h=>(len3 h).elim fun b z=>z.elim fun c z=>z.elim fun d q=>⟨a,b,c,d,e.trans (by rw [q])⟩
theorem len6{vs:List Value}(h:vs.length=6):∃ a b c d e f,vs=[a,b,c,d,e,f]:=ex22 (lenS h) fun a r e h=>ex22 (lenS h) fun b r e2 h=>(len4 h).elim fun c z=>z.elim fun d z=>z.elim fun x z=>z.elim fun y q=>⟨a,b,c,d,x,y,e.trans (by rw [e2,q])⟩
theorem bnd1{w:World}{fd:FuncData}{p:Str}(h:∀ a,bindArgs fd ⟨[a],[]⟩=pure [(p,a)]):Bnd w fd [p] []:=.of fun vs e=>by obtain⟨a,rfl⟩:=len1 e;exact h a
theorem bnd2{w:World}{fd:FuncData}{p q:Str}(h:∀ a b,bindArgs fd ⟨[a,b],[]⟩=pure [(p,a),(q,b)]):Bnd w fd [p,q] []:=.of fun vs e=>by obtain⟨a,b,rfl⟩:=len2 e;exact h a b
theorem bnd3{w:World}{fd:FuncData}{p q r:Str}(h:∀ a b c,bindArgs fd ⟨[a,b,c],[]⟩=pure [(p,a),(q,b),(r,c)]):Bnd w fd [p,q,r] []:=.of fun vs e=>by obtain⟨a,b,c,rfl⟩:=len3 e;exact h a b c
theorem bnd4{w:World}{fd:FuncData}{p q r t:Str}(h:∀ a b c d,bindArgs fd ⟨[a,b,c,d],[]⟩=pure [(p,a),(q,b),(r,c),(t,d)]):Bnd w fd [p,q,r,t] []:=.of fun vs e=>by obtain⟨a,b,c,d,rfl⟩:=len4 e;exact h a b c d
theorem bnd6{w:World}{fd:FuncData}{p q r t u v:Str}(h:∀ a b c d e f,bindArgs fd ⟨[a,b,c,d,e,f],[]⟩=pure [(p,a),(q,b),(r,c),(t,d),(u,e),(v,f)]):Bnd w fd [p,q,r,t,u,v] []:=.of fun vs hl=>by obtain⟨a,b,c,d,e,f,rfl⟩:=len6 hl;exact h a b c d e f
noncomputable def pz(a b c:Nat):Pos:=⟨a,b,a,c⟩
theorem d97_is:∀ P:Params,(objs P)[97]?=some (Mine.seqObj "tuple" [.int 0 320,.int (-1) 322] 0):=fun P=>by kernel_rfl
theorem d112_is:∀ P:Params,(objs P)[112]?=some (Mine.seqObj "tuple" [.int 0 340] 0):=fun P=>by kernel_rfl
theorem d437_is:∀ P:Params,(objs P)[437]?=some (Mine.seqObj "tuple" [.none,.none] 0):=fun P=>by kernel_rfl
theorem Bnd.ofD{w:World}{fd:FuncData}{ps:List Str}{T:Addr}{us:List Value}{dt:List Mine.T}(ho:(objs w.params)[T]?=some (Mine.seqObj "tuple" us 0))(hu:∀ B,All2 (Is w B) us dt)
  (k:∀ s:Shared,s.heap.get? T=some (Mine.seqObj "tuple" us 0)→∀ vs:List Value,vs.length≤ps.length→ps.length≤vs.length+us.length→BindsTo s fd ⟨vs,[]⟩ (ps.zip (vs++us.drop (vs.length+us.length - ps.length)))):Bnd w fd ps dt:=fun s vs hs h1 h2=>by
 have hl:=(hu fun _=>none).len
 rw [←hl] at h2 ⊢
 exact⟨_,k s (hs _ _ ho) vs h1 h2,fun B=>(hu B).drop _⟩
theorem bnd104{w:World}:Bnd w (fdOf (meth 13 0) "__init__" "Cursor.__init__" (.ref 97) (.str "paperhold.cursor" 268) (.ref 103)) ["self","data","at","end"] [.int 0,.int (-1)]:=
 .ofD (d97_is _) (fun B=>.cons (.int _ _) (.cons (.int _ _) .nil)) fun s hs vs h1 h2=>match vs,h1,h2 with
  | [],_,h2=>absurd h2 (by simp)
  | [a],_,h2=>absurd h2 (by simp)
  | [a,b],_,_=>.of_defaults rfl hs rfl rfl rfl
  | [a,b,c],_,_=>.of_defaults rfl hs rfl rfl rfl
  | [a,b,c,d],_,_=>.of_defaults rfl hs rfl rfl rfl
  | _::_::_::_::_::_,h1,_=>absurd h1 (by simp)
theorem bnd119{w:World}:Bnd w (fdOf (meth 13 2) "peek" "Cursor.peek" (.ref 112) (.str "paperhold.cursor" 268) (.ref 118)) ["self","ahead"] [.int 0]:=
 .ofD (d112_is _) (fun B=>.cons (.int _ _) .nil) fun s hs vs h1 h2=>match vs,h1,h2 with
  | [],_,h2=>absurd h2 (by simp)
  | [a],_,_=>.of_defaults rfl hs rfl rfl rfl
  | [a,b],_,_=>.of_defaults rfl hs rfl rfl rfl
  | _::_::_::_,h1,_=>absurd h1 (by simp)
theorem bnd444{w:World}:Bnd w (fdOf (meth 30 0) "__init__" "Lookup.__init__" (.ref 437) (.str "paperhold.objects" 563) (.ref 443)) ["self","table","trailer"] [.none,.none]:=
 .ofD (d437_is _) (fun B=>.cons .none (.cons .none .nil)) fun s hs vs h1 h2=>match vs,h1,h2 with
  | [],_,h2=>absurd h2 (by simp)
  | [a],_,_=>.of_defaults rfl hs rfl rfl rfl
  | [a,b],_,_=>.of_defaults rfl hs rfl rfl rfl
  | [a,b,c],_,_=>.of_defaults rfl hs rfl rfl rfl
  | _::_::_::_::_,h1,_=>absurd h1 (by simp)
noncomputable def f82:Fd:=⟨["code"],["code"],[],["WHITE","DELIMITERS"],[],
 (.sc (.re (.bov .And (.wc .And (.cmp .GtE (.vl 0 (pz 25 11 15)) (.ki 0 0 (pz 25 19 20)) (pz 25 11 20)) (.wc .And (.cmp .NotIn (.vl 0 (pz 25 25 29)) (.vg 0 13 (pz 25 37 42)) (pz 25 25 42)) (.w1 .And (.cmp .NotIn (.vl 0 (pz 25 48 52)) (.vg 1 14 (pz 25 60 70)) (pz 25 48 70))))) (pz 25 11 71)) (pz 25 4 71))
 .s0)⟩
noncomputable def f104:Fd:=⟨["self","data","at","end"],["self","data","at","end"],[],["len","min"],[.int 0,.int (-1)],
 (.sc (.aA (.vl 0 (pz 31 8 12)) [100,97,116,97] (.vl 1 (pz 31 20 24)) (pz 31 8 17) (pz 31 8 24))
 (.sc (.aA (.vl 0 (pz 32 8 12)) [97,116] (.vl 2 (pz 32 18 20)) (pz 32 8 15) (pz 32 8 20))
 (.sc (.aA (.vl 0 (pz 33 8 12)) [101,110,100] (.ife (.tc .Lt (.vl 3 (pz 33 32 35)) (.ki 0 0 (pz 33 38 39)) (pz 33 32 39)) (.vr (.bl 1 0 33 0 (.ac (.vl 1 (pz 33 23 27)) .a0) (pz 33 19 22) (pz 33 19 28))) (.bv (ifB (stP (fnB (meth 13 0)) 2 []))) (pz 33 19 64)) (pz 33 8 16) (pz 33 8 64))
 .s0)))⟩
noncomputable def f119:Fd:=⟨["self","ahead"],["self","ahead","spot"],[],[],[.int 0],
 (.sc (.aL 2 (.bin .Add (.att (.vl 0 (pz 39 15 19)) [97,116] (pz 39 15 22)) (.vl 1 (pz 39 25 30)) (pz 39 15 30)) (pz 39 8 12) (pz 39 8 30))
 (.sc (.re (.ife (.tc .Lt (.vl 2 (pz 40 34 38)) (.att (.vl 0 (pz 40 41 45)) [101,110,100] (pz 40 41 49)) (pz 40 34 49)) (.item (.att (.vl 0 (pz 40 15 19)) [100,97,116,97] (pz 40 15 24)) (.vl 2 (pz 40 25 29)) (pz 40 15 30)) (.neg (.ki 1 0 (pz 40 56 57)) (pz 40 55 57)) (pz 40 15 57)) (pz 40 8 57))
 .s0))⟩
noncomputable def f161:Fd:=⟨["self"],["self"],[],["RETURN","LINE_FEED"],[],
 (.sc (.sif (.tc .Eq (.vr (.ct 192 [112,101,101,107] 119 (.vl 0 (pz 62 11 15)) .a0 (pz 62 11 20) (pz 62 11 22))) (.vg 0 16 (pz 62 26 32)) (pz 62 11 32)) (.sc (.aA (.vl 0 (pz 63 12 16)) [97,116] (.bin .Add (.att (.vl 0 (pz 63 22 26)) [97,116] (pz 63 22 29)) (.ki 1 0 (pz 63 32 33)) (pz 63 22 33)) (pz 63 12 19) (pz 63 12 33))
 (.sc (.sif (.tc .Eq (.vr (.ct 192 [112,101,101,107] 119 (.vl 0 (pz 64 15 19)) .a0 (pz 64 15 24) (pz 64 15 26))) (.vg 1 15 (pz 64 30 39)) (pz 64 15 39)) (.sc (.aA (.vl 0 (pz 65 16 20)) [97,116] (.bin .Add (.att (.vl 0 (pz 65 26 30)) [97,116] (pz 65 26 33)) (.ki 1 0 (pz 65 36 37)) (pz 65 26 37)) (pz 65 16 23) (pz 65 16 37))
 .s0) .s0 ⟨64,12,65,37⟩)
 (.sc (.re (.kt true 0 (pz 66 19 23)) (pz 66 12 23))
 .s0))) .s0 ⟨62,8,66,23⟩)
 (.sc (.sif (.tc .Eq (.vr (.ct 192 [112,101,101,107] 119 (.vl 0 (pz 67 11 15)) .a0 (pz 67 11 20) (pz 67 11 22))) (.vg 1 15 (pz 67 26 35)) (pz 67 11 35)) (.sc (.aA (.vl 0 (pz 68 12 16)) [97,116] (.bin .Add (.att (.vl 0 (pz 68 22 26)) [97,116] (pz 68 22 29)) (.ki 1 0 (pz 68 32 33)) (pz 68 22 33)) (pz 68 12 19) (pz 68 12 33))
 (.sc (.re (.kt true 0 (pz 69 19 23)) (pz 69 12 23))
 .s0)) .s0 ⟨67,8,69,23⟩)
 (.sc (.re (.kt false 0 (pz 70 15 20)) (pz 70 8 20))
 .s0)))⟩
noncomputable def f315:Fd:=⟨["self","text"],["self","text"],[],[],[],
 (.sc (.aA (.vl 0 (pz 146 8 12)) [116,101,120,116] (.vl 1 (pz 146 20 24)) (pz 146 8 17) (pz 146 8 24))
 .s0)⟩
noncomputable def f379:Fd:=⟨["self","number","generation"],["self","number","generation"],[],[],[],
 (.sc (.aA (.vl 0 (pz 160 8 12)) [110,117,109,98,101,114] (.vl 1 (pz 160 22 28)) (pz 160 8 19) (pz 160 8 28))
 (.sc (.aA (.vl 0 (pz 161 8 12)) [103,101,110,101,114,97,116,105,111,110] (.vl 2 (pz 161 26 36)) (pz 161 8 23) (pz 161 8 36))
 .s0))⟩
noncomputable def f400:Fd:=⟨["value"],["value"],[],["isinstance","bool","int","Decimal","Name","String","list","dict","Stream","Reference","PaperError"],[],
 (.sc (.sif (.tc .Is (.vl 0 (pz 166 7 12)) (.kn 0 (pz 166 16 20)) (pz 166 7 20)) (.sc (.re (.ks [110,117,108,108] 0 (pz 167 15 21)) (pz 167 8 21))
 .s0) .s0 ⟨166,4,167,21⟩)
 (.sc (.sif (.tv (.vr (.bl 8 0 29 5 (.ac (.vl 0 (pz 168 18 23)) (.ac (.vb 1 54 18 (pz 168 25 29)) .a0)) (pz 168 7 17) (pz 168 7 30)))) (.sc (.re (.ks [116,114,117,116,104] 0 (pz 169 15 22)) (pz 169 8 22))
 .s0) .s0 ⟨168,4,169,22⟩)
 (.sc (.sif (.tv (.vr (.bl 8 0 29 5 (.ac (.vl 0 (pz 170 18 23)) (.ac (.vb 2 66 15 (pz 170 25 28)) .a0)) (pz 170 7 17) (pz 170 7 29)))) (.sc (.re (.ks [105,110,116] 0 (pz 171 15 20)) (pz 171 8 20))
 .s0) .s0 ⟨170,4,171,20⟩)
 (.sc (.sif (.tv (.vr (.bl 8 0 29 5 (.ac (.vl 0 (pz 172 18 23)) (.ac (.vg 3 21 (pz 172 25 32)) .a0)) (pz 172 7 17) (pz 172 7 33)))) (.sc (.re (.ks [114,101,97,108] 0 (pz 173 15 21)) (pz 173 8 21))
 .s0) .s0 ⟨172,4,173,21⟩)
 (.sc (.sif (.tv (.vr (.bl 8 0 29 5 (.ac (.vl 0 (pz 174 18 23)) (.ac (.vg 4 24 (pz 174 25 29)) .a0)) (pz 174 7 17) (pz 174 7 30)))) (.sc (.re (.ks [110,97,109,101] 0 (pz 175 15 21)) (pz 175 8 21))
 .s0) .s0 ⟨174,4,175,21⟩)
 (.sc (.sif (.tv (.vr (.bl 8 0 29 5 (.ac (.vl 0 (pz 176 18 23)) (.ac (.vg 5 25 (pz 176 25 31)) .a0)) (pz 176 7 17) (pz 176 7 32)))) (.sc (.re (.ks [115,116,114,105,110,103] 0 (pz 177 15 23)) (pz 177 8 23))
 .s0) .s0 ⟨176,4,177,23⟩)
 (.sc (.sif (.tv (.vr (.bl 8 0 29 5 (.ac (.vl 0 (pz 178 18 23)) (.ac (.vb 6 67 7 (pz 178 25 29)) .a0)) (pz 178 7 17) (pz 178 7 30)))) (.sc (.re (.ks [97,114,114,97,121] 0 (pz 179 15 22)) (pz 179 8 22))
 .s0) .s0 ⟨178,4,179,22⟩)
 (.sc (.sif (.tv (.vr (.bl 8 0 29 5 (.ac (.vl 0 (pz 180 18 23)) (.ac (.vb 7 60 8 (pz 180 25 29)) .a0)) (pz 180 7 17) (pz 180 7 30)))) (.sc (.re (.ks [100,105,99,116] 0 (pz 181 15 21)) (pz 181 8 21))
 .s0) .s0 ⟨180,4,181,21⟩)
 (.sc (.sif (.tv (.vr (.bl 8 0 29 5 (.ac (.vl 0 (pz 182 18 23)) (.ac (.vg 8 26 (pz 182 25 31)) .a0)) (pz 182 7 17) (pz 182 7 32)))) (.sc (.re (.ks [115,116,114,101,97,109] 0 (pz 183 15 23)) (pz 183 8 23))
 .s0) .s0 ⟨182,4,183,23⟩)
 (.sc (.sif (.tv (.vr (.bl 8 0 29 5 (.ac (.vl 0 (pz 184 18 23)) (.ac (.vg 9 27 (pz 184 25 34)) .a0)) (pz 184 7 17) (pz 184 7 35)))) (.sc (.re (.ks [114,101,102] 0 (pz 185 15 20)) (pz 185 8 20))
 .s0) .s0 ⟨184,4,185,20⟩)
 (.sc (.bot (stP (fnB (top 23)) 10 []))
 .s0)))))))))))⟩
noncomputable def f407:Fd:=⟨["kind","value"],["kind","value"],[],["bytes"],[],
 (.sc (.sif (.tc .Eq (.vl 0 (pz 188 7 11)) (.ks [110,117,108,108] 0 (pz 188 15 21)) (pz 188 7 21)) (.sc (.bot (stP (fnB (top 24)) 0 [(0,0)]))
 .s0) .s0 ⟨188,4,189,24⟩)
 (.sc (.sif (.tc .Eq (.vl 0 (pz 190 7 11)) (.ks [116,114,117,116,104] 0 (pz 190 15 22)) (pz 190 7 22)) (.sc (.bot (stP (fnB (top 24)) 1 [(0,0)]))
 .s0) .s0 ⟨190,4,191,43⟩)
 (.sc (.sif (.tc .Eq (.vl 0 (pz 192 7 11)) (.ks [105,110,116] 0 (pz 192 15 20)) (pz 192 7 20)) (.sc (.re (.tup (.ac (.ks [105,110,116] 0 (pz 193 16 21)) (.ac (.vl 1 (pz 193 23 28)) .a0)) 0 (pz 193 15 29)) (pz 193 8 29))
 .s0) .s0 ⟨192,4,193,29⟩)
 (.sc (.sif (.tc .Eq (.vl 0 (pz 194 7 11)) (.ks [114,101,97,108] 0 (pz 194 15 21)) (pz 194 7 21)) (.sc (.bot (stP (fnB (top 24)) 3 [(0,0)]))
 .s0) .s0 ⟨194,4,195,48⟩)
 (.sc (.sif (.tc .Eq (.vl 0 (pz 196 7 11)) (.ks [110,97,109,101] 0 (pz 196 15 21)) (pz 196 7 21)) (.sc (.re (.tup (.ac (.ks [110,97,109,101] 0 (pz 197 16 22)) (.ac (.att (.vl 1 (pz 197 24 29)) [116,101,120,116] (pz 197 24 34)) .a0)) 0 (pz 197 15 35)) (pz 197 8 35))
 .s0) .s0 ⟨196,4,197,35⟩)
 (.sc (.sif (.tc .Eq (.vl 0 (pz 198 7 11)) (.ks [115,116,114,105,110,103] 0 (pz 198 15 23)) (pz 198 7 23)) (.sc (.bot (stP (fnB (top 24)) 5 [(0,0)]))
 .s0) .s0 ⟨198,4,199,46⟩)
 (.sc (.bot (stP (fnB (top 24)) 6 []))
 .s0)))))))⟩
noncomputable def f412:Fd:=⟨["value"],["kind"],["value"],["kind_of","tuple","sorted","told_objects","bytes","told_plain"],[],
 (.sc (.aL 0 (.vr (.cf 400 0 28 (.ac (.vc 0 (pz 202 19 24)) .a0) (pz 202 11 18) (pz 202 11 25))) (pz 202 4 8) (pz 202 4 25))
 (.sc (.sif (.tc .Eq (.vl 0 (pz 203 7 11)) (.ks [97,114,114,97,121] 0 (pz 203 15 22)) (pz 203 7 22)) (.sc (.re (.bin .Add (.tup (.ac (.ks [97,114,114,97,121] 0 (pz 204 16 23)) .a0) 0 (pz 204 15 25)) (.vr (.bl 11 1 77 9 (.ac (.fz (.cm [".0","part"] [] ["told_objects"] [] 1 ⟨.function,[(".0",.local),("part",.local),("told_objects",.globalImplicit)],false,false,[]⟩ (.vr (.cf 412 0 31 (.ac (.vl 1 (pz 204 48 52)) .a0) (pz 204 35 47) (pz 204 35 53))) .f0 (.iv (.vc 0 (pz 204 66 71))) (pz 204 58 62) (pz 204 34 72))) .a0) (pz 204 28 33) (pz 204 28 73))) (pz 204 15 73)) (pz 204 8 73))
 .s0) .s0 ⟨203,4,204,73⟩)
 (.sc (.sif (.tc .Eq (.vl 0 (pz 205 7 11)) (.ks [100,105,99,116] 0 (pz 205 15 21)) (pz 205 7 21)) (.sc (.bot (stP (fnB (top 25)) 2 [(0,0)]))
 .s0) .s0 ⟨205,4,206,118⟩)
 (.sc (.sif (.tc .Eq (.vl 0 (pz 207 7 11)) (.ks [115,116,114,101,97,109] 0 (pz 207 15 23)) (pz 207 7 23)) (.sc (.bot (stP (fnB (top 25)) 3 [(0,0)]))
 .s0) .s0 ⟨207,4,208,72⟩)
 (.sc (.re (.vr (.cf 407 5 29 (.ac (.vl 0 (pz 209 22 26)) (.ac (.vc 0 (pz 209 28 33)) .a0)) (pz 209 11 21) (pz 209 11 34))) (pz 209 4 34))
 .s0)))))⟩
noncomputable def f417:Fd:=⟨["value"],["kind"],["value"],["kind_of","dict","Stream","copied"],[],
 (.sc (.aL 0 (.vr (.cf 400 0 28 (.ac (.vc 0 (pz 212 19 24)) .a0) (pz 212 11 18) (pz 212 11 25))) (pz 212 4 8) (pz 212 4 25))
 (.sc (.sif (.tc .Eq (.vl 0 (pz 213 7 11)) (.ks [97,114,114,97,121] 0 (pz 213 15 22)) (pz 213 7 22)) (.sc (.re (.fz (.cm [".0","part"] [] ["copied"] [] 1 ⟨.function,[(".0",.local),("part",.local),("copied",.globalImplicit)],false,false,[]⟩ (.vr (.cf 417 0 32 (.ac (.vl 1 (pz 214 23 27)) .a0) (pz 214 16 22) (pz 214 16 28))) .f0 (.iv (.vc 0 (pz 214 41 46))) (pz 214 33 37) (pz 214 15 47))) (pz 214 8 47))
 .s0) .s0 ⟨213,4,214,47⟩)
 (.sc (.sif (.tc .Eq (.vl 0 (pz 215 7 11)) (.ks [100,105,99,116] 0 (pz 215 15 21)) (pz 215 7 21)) (.sc (.bot (stP (fnB (top 27)) 2 [(0,0)]))
 .s0) .s0 ⟨215,4,216,65⟩)
 (.sc (.sif (.tc .Eq (.vl 0 (pz 217 7 11)) (.ks [115,116,114,101,97,109] 0 (pz 217 15 23)) (pz 217 7 23)) (.sc (.bot (stP (fnB (top 27)) 3 [(0,0)]))
 .s0) .s0 ⟨217,4,218,55⟩)
 (.sc (.re (.vc 0 (pz 219 11 16)) (pz 219 4 16))
 .s0)))))⟩
noncomputable def f422:Fd:=⟨["value"],["kind"],["value"],["kind_of","list","sorted","parts_of"],[],
 (.sc (.aL 0 (.vr (.cf 400 0 28 (.ac (.vc 0 (pz 221 19 24)) .a0) (pz 221 11 18) (pz 221 11 25))) (pz 221 4 8) (pz 221 4 25))
 (.sc (.sif (.tc .Eq (.vl 0 (pz 222 7 11)) (.ks [97,114,114,97,121] 0 (pz 222 15 22)) (pz 222 7 22)) (.sc (.re (.vr (.bl 10 1 67 7 (.ac (.vc 0 (pz 223 20 25)) .a0) (pz 223 15 19) (pz 223 15 26))) (pz 223 8 26))
 .s0) .s0 ⟨222,4,223,26⟩)
 (.sc (.sif (.tc .Eq (.vl 0 (pz 224 7 11)) (.ks [100,105,99,116] 0 (pz 224 15 21)) (pz 224 7 21)) (.sc (.re (.fz (.cm [".0","key"] ["value"] [] [0] 1 ⟨.function,[(".0",.local),("key",.local),("value",.free)],false,false,[]⟩ (.item (.vc 0 (pz 225 16 21)) (.vl 1 (pz 225 22 25)) (pz 225 16 26)) .f0 (.iv (.vr (.bl 0 2 46 1 (.ac (.vc 0 (pz 225 45 50)) .a0) (pz 225 38 44) (pz 225 38 51)))) (pz 225 31 34) (pz 225 15 52))) (pz 225 8 52))
 .s0) .s0 ⟨224,4,225,52⟩)
 (.sc (.sif (.tc .Eq (.vl 0 (pz 226 7 11)) (.ks [115,116,114,101,97,109] 0 (pz 226 15 23)) (pz 226 7 23)) (.sc (.bot (stP (fnB (top 28)) 3 [(0,0)]))
 .s0) .s0 ⟨226,4,227,35⟩)
 (.sc (.re (.fz (.nl .a0 (pz 228 11 13))) (pz 228 4 13))
 .s0)))))⟩
noncomputable def f429:Fd:=⟨["value"],["value","deepest","line","here","above","part"],[],["kind_of","max","parts_of"],[],
 (.sc (.aL 1 (.ki 0 0 (pz 230 14 15)) (pz 230 4 11) (pz 230 4 15))
 (.sc (.aL 2 (.pu (.nl (.ac (.tup (.ac (.vl 0 (pz 231 13 18)) (.ac (.ki 0 0 (pz 231 20 21)) .a0)) 0 (pz 231 12 22)) .a0) (pz 231 11 23))) (pz 231 4 8) (pz 231 4 23))
 (.sc (.swh 40 (.tv (.vl 2 (pz 232 10 14))) (.sc (.aT (.tcons (.tl 3 (pz 233 8 12)) (.tcons (.tl 4 (pz 233 14 19)) .t0)) 0 (.vr (.me 1 (.vl 2 (pz 233 22 26)) .a0 (pz 233 22 30) (pz 233 22 32))) (pz 233 8 19) (pz 233 8 32))
 (.sc (.sif (.tc .In (.vr (.cf 400 0 28 (.ac (.vl 3 (pz 234 19 23)) .a0) (pz 234 11 18) (pz 234 11 24))) (.tup (.ac (.ks [97,114,114,97,121] 0 (pz 234 29 36)) (.ac (.ks [100,105,99,116] 0 (pz 234 38 44)) (.ac (.ks [115,116,114,101,97,109] 0 (pz 234 46 54)) .a0))) 0 (pz 234 28 55)) (pz 234 11 55)) (.sc (.aL 1 (.vr (.bl 2 1 35 2 (.ac (.vl 1 (pz 235 26 33)) (.ac (.bin .Add (.vl 4 (pz 235 35 40)) (.ki 1 0 (pz 235 43 44)) (pz 235 35 44)) .a0)) (pz 235 22 25) (pz 235 22 45))) (pz 235 12 19) (pz 235 12 45))
 (.sc (.sfo (.tl 5 (pz 236 16 20)) (.iv (.vr (.cf 422 2 33 (.ac (.vl 3 (pz 236 33 37)) .a0) (pz 236 24 32) (pz 236 24 38)))) (.sc (.ex (.vr (.me 0 (.vl 2 (pz 237 16 20)) (.ac (.tup (.ac (.vl 5 (pz 237 29 33)) (.ac (.bin .Add (.vl 4 (pz 237 35 40)) (.ki 1 0 (pz 237 43 44)) (pz 237 35 44)) .a0)) 0 (pz 237 28 45)) .a0) (pz 237 16 27) (pz 237 16 46))) (pz 237 16 46))
 .s0) ⟨236,12,237,46⟩)
 .s0)) .s0 ⟨234,8,237,46⟩)
 .s0)) ⟨232,4,237,46⟩)
 (.sc (.re (.vl 1 (pz 238 11 18)) (pz 238 4 18))
 .s0))))⟩
noncomputable def f444:Fd:=⟨["self","table","trailer"],["self","table","trailer"],[],[],[.none,.none],
 (.sc (.aA (.vl 0 (pz 242 8 12)) [116,97,98,108,101] (.ife (.tc .Is (.vl 1 (pz 242 27 32)) (.kn 0 (pz 242 36 40)) (pz 242 27 40)) (.fz (.d0 (pz 242 21 23))) (.vl 1 (pz 242 46 51)) (pz 242 21 51)) (pz 242 8 18) (pz 242 8 51))
 (.sc (.aA (.vl 0 (pz 243 8 12)) [116,114,97,105,108,101,114] (.ife (.tc .Is (.vl 2 (pz 243 29 36)) (.kn 0 (pz 243 40 44)) (pz 243 29 44)) (.fz (.d0 (pz 243 23 25))) (.vl 2 (pz 243 50 57)) (pz 243 23 57)) (pz 243 8 20) (pz 243 8 57))
 .s0))⟩
noncomputable def f500:Fd:=⟨["self"],["self"],[],["sorted"],[],
 (.sc (.re (.vr (.bl 0 0 46 1 (.ac (.att (.vl 0 (pz 270 22 26)) [116,97,98,108,101] (pz 270 22 32)) .a0) (pz 270 15 21) (pz 270 15 33))) (pz 270 8 33))
 .s0)⟩
noncomputable def f522:Fd:=⟨["text"],["text"],[],["bytes"],[],
 (.sc (.re (.vr (.bl 9 0 57 6 (.ac (.fz (.cm [".0","sign"] [] ["ord"] [] 1 ⟨.function,[(".0",.local),("sign",.local),("ord",.globalImplicit)],false,false,[]⟩ (.vr (.bl 5 0 40 14 (.ac (.vl 1 (pz 288 22 26)) .a0) (pz 288 18 21) (pz 288 18 27))) .f0 (.iv (.vl 0 (pz 288 40 44))) (pz 288 32 36) (pz 288 17 45))) .a0) (pz 288 11 16) (pz 288 11 46))) (pz 288 4 46))
 .s0)⟩
noncomputable def f536:Fd:=⟨["text"],["text","found","sign","code"],[],["ord","PaperError","NUMBER_SIGN","is_regular","hex_pair","bytes"],[],
 (.sc (.aL 1 (.pu (.nl (.ac (.ki 47 0 (pz 292 13 15)) .a0) (pz 292 12 16))) (pz 292 4 9) (pz 292 4 16))
 (.sc (.sfo (.tl 2 (pz 293 8 12)) (.iv (.vl 0 (pz 293 16 20))) (.sc (.aL 3 (.vr (.bl 5 0 40 14 (.ac (.vl 2 (pz 294 19 23)) .a0) (pz 294 15 18) (pz 294 15 24))) (pz 294 8 12) (pz 294 8 24))
 (.sc (.sif (.tq .Or (.qc .Or (.tc .Eq (.vl 3 (pz 295 11 15)) (.ki 0 0 (pz 295 19 20)) (pz 295 11 20)) (.qc .Or (.tc .Gt (.vl 3 (pz 295 24 28)) (.ki 255 0 (pz 295 31 34)) (pz 295 24 34)) (.q0 .Or))) (pz 295 11 34)) (.sc (.bot (stP (fnB (top 43)) 1 [(0,1),(0,0)]))
 .s0) .s0 ⟨295,8,296,67⟩)
 (.sc (.sif (.tq .Or (.qc .Or (.tc .Lt (.vl 3 (pz 297 11 15)) (.ki 33 0 (pz 297 18 20)) (pz 297 11 20)) (.qc .Or (.tc .Gt (.vl 3 (pz 297 24 28)) (.ki 126 0 (pz 297 31 34)) (pz 297 24 34)) (.qc .Or (.tc .Eq (.vl 3 (pz 297 38 42)) (.vg 2 43 (pz 297 46 57)) (pz 297 38 57)) (.qc .Or (.tn (.tv (.vr (.cf 82 3 18 (.ac (.vl 3 (pz 297 77 81)) .a0) (pz 297 66 76) (pz 297 66 82)))) (pz 297 62 82)) (.q0 .Or))))) (pz 297 11 83)) (.sc (.bot (stP (fnB (top 43)) 1 [(0,2),(0,0)]))
 (.sc (.bot (stP (fnB (top 43)) 1 [(0,2),(0,1)]))
 .s0)) (.sc (.ex (.vr (.me 0 (.vl 1 (pz 301 12 17)) (.ac (.vl 3 (pz 301 25 29)) .a0) (pz 301 12 24) (pz 301 12 30))) (pz 301 12 30))
 .s0) ⟨297,8,301,30⟩)
 .s0))) ⟨293,4,301,30⟩)
 (.sc (.re (.vr (.bl 9 5 57 6 (.ac (.vl 1 (pz 302 17 22)) .a0) (pz 302 11 16) (pz 302 11 23))) (pz 302 4 23))
 .s0)))⟩
noncomputable def f543:Fd:=⟨["number"],["number"],[],["abs","MOST_NUMBER","PaperError","text_octets","str"],[],
 (.sc (.sif (.tc .GtE (.vr (.bl 4 0 7 13 (.ac (.vl 0 (pz 304 11 17)) .a0) (pz 304 7 10) (pz 304 7 18))) (.bin .Pow (.ki 10 0 (pz 304 22 24)) (.vg 1 38 (pz 304 28 39)) (pz 304 22 39)) (pz 304 7 39)) (.sc (.bot (stP (fnB (top 44)) 0 [(0,0)]))
 .s0) .s0 ⟨304,4,305,58⟩)
 (.sc (.re (.vr (.cf 522 3 45 (.ac (.vr (.bl 6 4 75 4 (.ac (.vl 0 (pz 306 27 33)) .a0) (pz 306 23 26) (pz 306 23 34))) .a0) (pz 306 11 22) (pz 306 11 35))) (pz 306 4 35))
 .s0))⟩
noncomputable def f583:Fd:=⟨["kind","value","is_least"],["kind","value","is_least"],[],["whole_octets","decimal_octets","name_octets","string_octets","PaperError"],[],
 (.sc (.sif (.tc .Eq (.vl 0 (pz 357 7 11)) (.ks [110,117,108,108] 0 (pz 357 15 21)) (pz 357 7 21)) (.sc (.bot (stP (fnB (top 50)) 0 [(0,0)]))
 .s0) .s0 ⟨357,4,358,22⟩)
 (.sc (.sif (.tc .Eq (.vl 0 (pz 359 7 11)) (.ks [116,114,117,116,104] 0 (pz 359 15 22)) (pz 359 7 22)) (.sc (.bot (stP (fnB (top 50)) 1 [(0,0)]))
 .s0) .s0 ⟨359,4,360,45⟩)
 (.sc (.sif (.tc .Eq (.vl 0 (pz 361 7 11)) (.ks [105,110,116] 0 (pz 361 15 20)) (pz 361 7 20)) (.sc (.re (.vr (.cf 543 0 48 (.ac (.vl 1 (pz 362 28 33)) .a0) (pz 362 15 27) (pz 362 15 34))) (pz 362 8 34))
 .s0) .s0 ⟨361,4,362,34⟩)
 (.sc (.sif (.tc .Eq (.vl 0 (pz 363 7 11)) (.ks [114,101,97,108] 0 (pz 363 15 21)) (pz 363 7 21)) (.sc (.bot (stP (fnB (top 50)) 3 [(0,0)]))
 .s0) .s0 ⟨363,4,364,46⟩)
 (.sc (.sif (.tc .Eq (.vl 0 (pz 365 7 11)) (.ks [110,97,109,101] 0 (pz 365 15 21)) (pz 365 7 21)) (.sc (.re (.vr (.cf 536 2 47 (.ac (.att (.vl 1 (pz 366 27 32)) [116,101,120,116] (pz 366 27 37)) .a0) (pz 366 15 26) (pz 366 15 38))) (pz 366 8 38))
 .s0) .s0 ⟨365,4,366,38⟩)
 (.sc (.sif (.tc .Eq (.vl 0 (pz 367 7 11)) (.ks [115,116,114,105,110,103] 0 (pz 367 15 23)) (pz 367 7 23)) (.sc (.bot (stP (fnB (top 50)) 5 [(0,0)]))
 .s0) .s0 ⟨367,4,368,45⟩)
 (.sc (.bot (stP (fnB (top 50)) 6 []))
 .s0)))))))⟩
noncomputable def f590:Fd:=⟨["parts","value"],["parts","value"],[],["PaperError","whole_octets"],[],
 (.sc (.sif (.tq .Or (.qc .Or (.tc .Lt (.att (.vl 1 (pz 371 7 12)) [110,117,109,98,101,114] (pz 371 7 19)) (.ki 0 0 (pz 371 22 23)) (pz 371 7 23)) (.qc .Or (.tc .Lt (.att (.vl 1 (pz 371 27 32)) [103,101,110,101,114,97,116,105,111,110] (pz 371 27 43)) (.ki 0 0 (pz 371 46 47)) (pz 371 27 47)) (.q0 .Or))) (pz 371 7 47)) (.sc (.bot (stP (fnB (top 51)) 0 [(0,0)]))
 .s0) .s0 ⟨371,4,372,61⟩)
 (.sc (.ex (.vr (.me 0 (.vl 0 (pz 373 4 9)) (.ac (.vr (.cf 543 1 48 (.ac (.att (.vl 1 (pz 373 30 35)) [110,117,109,98,101,114] (pz 373 30 42)) .a0) (pz 373 17 29) (pz 373 17 43))) .a0) (pz 373 4 16) (pz 373 4 44))) (pz 373 4 44))
 (.sc (.ex (.vr (.me 0 (.vl 0 (pz 374 4 9)) (.ac (.vr (.cf 543 1 48 (.ac (.att (.vl 1 (pz 374 30 35)) [103,101,110,101,114,97,116,105,111,110] (pz 374 30 46)) .a0) (pz 374 17 29) (pz 374 17 47))) .a0) (pz 374 4 16) (pz 374 4 48))) (pz 374 4 48))
 (.sc (.ex (.vr (.me 0 (.vl 0 (pz 375 4 9)) (.ac (.kb [82] 0 (pz 375 17 21)) .a0) (pz 375 4 16) (pz 375 4 22))) (pz 375 4 22))
 .s0))))⟩
noncomputable def f597:Fd:=⟨["parts","value","is_least"],["parts","value","is_least","key"],[],["sorted","name_octets","lay_parts"],[],
 (.sc (.ex (.vr (.me 0 (.vl 0 (pz 377 4 9)) (.ac (.kb [60,60] 0 (pz 377 17 22)) .a0) (pz 377 4 16) (pz 377 4 23))) (pz 377 4 23))
 (.sc (.sfo (.tl 3 (pz 378 8 11)) (.iv (.ife (.tv (.vl 2 (pz 378 32 40))) (.vr (.bl 0 0 46 1 (.ac (.vl 1 (pz 378 22 27)) .a0) (pz 378 15 21) (pz 378 15 28))) (.vl 1 (pz 378 46 51)) (pz 378 15 51))) (.sc (.sif (.tc .IsNot (.item (.vl 1 (pz 379 11 16)) (.vl 3 (pz 379 17 20)) (pz 379 11 21)) (.kn 0 (pz 379 29 33)) (pz 379 11 33)) (.sc (.ex (.vr (.me 0 (.vl 0 (pz 380 12 17)) (.ac (.vr (.cf 536 1 47 (.ac (.vl 3 (pz 380 37 40)) .a0) (pz 380 25 36) (pz 380 25 41))) .a0) (pz 380 12 24) (pz 380 12 42))) (pz 380 12 42))
 (.sc (.ex (.vr (.cf 604 2 57 (.ac (.vl 0 (pz 381 22 27)) (.ac (.item (.vl 1 (pz 381 29 34)) (.vl 3 (pz 381 35 38)) (pz 381 29 39)) (.ac (.vl 2 (pz 381 41 49)) .a0))) (pz 381 12 21) (pz 381 12 50))) (pz 381 12 50))
 .s0)) .s0 ⟨379,8,381,50⟩)
 .s0) ⟨378,4,381,50⟩)
 (.sc (.ex (.vr (.me 0 (.vl 0 (pz 382 4 9)) (.ac (.kb [62,62] 0 (pz 382 17 22)) .a0) (pz 382 4 16) (pz 382 4 23))) (pz 382 4 23))
 .s0)))⟩
noncomputable def f604:Fd:=⟨["parts","value","is_least"],["parts","value","is_least","kind","part"],[],["kind_of","lay_parts","lay_dict","lay_reference","plain_part"],[],
 (.sc (.aL 3 (.vr (.cf 400 0 28 (.ac (.vl 1 (pz 384 19 24)) .a0) (pz 384 11 18) (pz 384 11 25))) (pz 384 4 8) (pz 384 4 25))
 (.sc (.sif (.tc .Eq (.vl 3 (pz 385 7 11)) (.ks [97,114,114,97,121] 0 (pz 385 15 22)) (pz 385 7 22)) (.sc (.ex (.vr (.me 0 (.vl 0 (pz 386 8 13)) (.ac (.kb [91] 0 (pz 386 21 25)) .a0) (pz 386 8 20) (pz 386 8 26))) (pz 386 8 26))
 (.sc (.sfo (.tl 4 (pz 387 12 16)) (.iv (.vl 1 (pz 387 20 25))) (.sc (.ex (.vr (.cf 604 1 57 (.ac (.vl 0 (pz 388 22 27)) (.ac (.vl 4 (pz 388 29 33)) (.ac (.vl 2 (pz 388 35 43)) .a0))) (pz 388 12 21) (pz 388 12 44))) (pz 388 12 44))
 .s0) ⟨387,8,388,44⟩)
 (.sc (.ex (.vr (.me 0 (.vl 0 (pz 389 8 13)) (.ac (.kb [93] 0 (pz 389 21 25)) .a0) (pz 389 8 20) (pz 389 8 26))) (pz 389 8 26))
 .s0))) (.sc (.sif (.tc .Eq (.vl 3 (pz 390 9 13)) (.ks [100,105,99,116] 0 (pz 390 17 23)) (pz 390 9 23)) (.sc (.ex (.vr (.cf 597 2 56 (.ac (.vl 0 (pz 391 17 22)) (.ac (.vl 1 (pz 391 24 29)) (.ac (.vl 2 (pz 391 31 39)) .a0))) (pz 391 8 16) (pz 391 8 40))) (pz 391 8 40))
 .s0) (.sc (.sif (.tc .Eq (.vl 3 (pz 392 9 13)) (.ks [114,101,102] 0 (pz 392 17 22)) (pz 392 9 22)) (.sc (.ex (.vr (.cf 590 3 55 (.ac (.vl 0 (pz 393 22 27)) (.ac (.vl 1 (pz 393 29 34)) .a0)) (pz 393 8 21) (pz 393 8 35))) (pz 393 8 35))
 .s0) (.sc (.ex (.vr (.me 0 (.vl 0 (pz 395 8 13)) (.ac (.vr (.cf 583 4 54 (.ac (.vl 3 (pz 395 32 36)) (.ac (.vl 1 (pz 395 38 43)) (.ac (.vl 2 (pz 395 45 53)) .a0))) (pz 395 21 31) (pz 395 21 54))) .a0) (pz 395 8 20) (pz 395 8 55))) (pz 395 8 55))
 .s0) ⟨392,4,395,55⟩)
 .s0) ⟨390,4,395,55⟩)
 .s0) ⟨385,4,395,55⟩)
 .s0))⟩
noncomputable def f618:Fd:=⟨["parts","is_least"],["parts","is_least","found","at"],[],["range","len","run_together"],[],
 (.sc (.sif (.tn (.tv (.vl 1 (pz 399 11 19))) (pz 399 7 19)) (.sc (.re (.vr (.me 8 (.kb [32] 0 (pz 400 15 19)) (.ac (.vl 0 (pz 400 25 30)) .a0) (pz 400 15 24) (pz 400 15 31))) (pz 400 8 31))
 .s0) .s0 ⟨399,4,400,31⟩)
 (.sc (.bot (stP (fnB (top 55)) 1 []))
 (.sc (.bot (stP (fnB (top 55)) 2 []))
 (.sc (.bot (stP (fnB (top 55)) 3 []))
 .s0))))⟩
noncomputable def f632:Fd:=⟨["value","is_least"],["value","is_least","parts","between"],[],["depth_of","MOST_NESTED","PaperError","kind_of","lay_parts","joined_parts","lay_dict","stream_head","bytes"],[],
 (.sc (.sif (.tc .Gt (.vr (.cf 429 0 34 (.ac (.vl 0 (pz 414 16 21)) .a0) (pz 414 7 15) (pz 414 7 22))) (.vg 1 37 (pz 414 25 36)) (pz 414 7 36)) (.sc (.bot (stP (fnB (top 57)) 0 [(0,0)]))
 .s0) .s0 ⟨414,4,415,54⟩)
 (.sc (.aL 2 (.pu (.nl .a0 (pz 416 12 14))) (pz 416 4 9) (pz 416 4 14))
 (.sc (.sif (.tc .NotEq (.vr (.cf 400 3 28 (.ac (.vl 0 (pz 417 15 20)) .a0) (pz 417 7 14) (pz 417 7 21))) (.ks [115,116,114,101,97,109] 0 (pz 417 25 33)) (pz 417 7 33)) (.sc (.ex (.vr (.cf 604 4 57 (.ac (.vl 2 (pz 418 18 23)) (.ac (.vl 0 (pz 418 25 30)) (.ac (.vl 1 (pz 418 32 40)) .a0))) (pz 418 8 17) (pz 418 8 41))) (pz 418 8 41))
 (.sc (.re (.vr (.cf 618 5 59 (.ac (.vl 2 (pz 419 28 33)) (.ac (.vl 1 (pz 419 35 43)) .a0)) (pz 419 15 27) (pz 419 15 44))) (pz 419 8 44))
 .s0)) .s0 ⟨417,4,419,44⟩)
 (.sc (.bot (stP (fnB (top 57)) 3 []))
 (.sc (.bot (stP (fnB (top 57)) 4 []))
 (.sc (.bot (stP (fnB (top 57)) 5 []))
 .s0))))))⟩
noncomputable def f639:Fd:=⟨["number","generation","value","is_least"],["number","generation","value","is_least","opening"],[],["PaperError","whole_octets","write_object"],[],
 (.sc (.sif (.tq .Or (.qc .Or (.tc .Lt (.vl 0 (pz 424 7 13)) (.ki 0 0 (pz 424 16 17)) (pz 424 7 17)) (.qc .Or (.tc .Lt (.vl 1 (pz 424 21 31)) (.ki 0 0 (pz 424 34 35)) (pz 424 21 35)) (.q0 .Or))) (pz 424 7 35)) (.sc (.bot (stP (fnB (top 58)) 0 [(0,0)]))
 .s0) .s0 ⟨424,4,425,59⟩)
 (.sc (.aL 4 (.bin .Add (.bin .Add (.bin .Add (.vr (.cf 543 1 48 (.ac (.vl 0 (pz 426 27 33)) .a0) (pz 426 14 26) (pz 426 14 34))) (.kb [32] 0 (pz 426 37 41)) (pz 426 14 41)) (.vr (.cf 543 1 48 (.ac (.vl 1 (pz 426 57 67)) .a0) (pz 426 44 56) (pz 426 44 68))) (pz 426 14 68)) (.kb [32,111,98,106,10] 0 (pz 426 71 80)) (pz 426 14 80)) (pz 426 4 11) (pz 426 4 80))
 (.sc (.re (.bin .Add (.bin .Add (.vl 4 (pz 427 11 18)) (.vr (.cf 632 2 61 (.ac (.vl 2 (pz 427 34 39)) (.ac (.vl 3 (pz 427 41 49)) .a0)) (pz 427 21 33) (pz 427 21 50))) (pz 427 11 50)) (.kb [10,101,110,100,111,98,106,10] 0 (pz 427 53 66)) (pz 427 11 66)) (pz 427 4 66))
 .s0)))⟩
noncomputable def f653:Fd:=⟨["self","way","one","two"],["self","way","one","two"],[],[],[],
 (.sc (.aA (.vl 0 (pz 434 8 12)) [119,97,121] (.vl 1 (pz 434 19 22)) (pz 434 8 16) (pz 434 8 22))
 (.sc (.aA (.vl 0 (pz 435 8 12)) [111,110,101] (.vl 2 (pz 435 19 22)) (pz 435 8 16) (pz 435 8 22))
 (.sc (.aA (.vl 0 (pz 436 8 12)) [116,119,111] (.vl 3 (pz 436 19 22)) (pz 436 8 16) (pz 436 8 22))
 .s0)))⟩
noncomputable def f674:Fd:=⟨["numbers"],["numbers","runs","number"],[],["sorted"],[],
 (.sc (.aL 1 (.pu (.nl .a0 (pz 441 11 13))) (pz 441 4 8) (pz 441 4 13))
 (.sc (.sfo (.tl 2 (pz 442 8 14)) (.iv (.vr (.bl 0 0 46 1 (.ac (.vl 0 (pz 442 25 32)) .a0) (pz 442 18 24) (pz 442 18 33)))) (.sc (.sif (.tq .And (.qc .And (.tc .NotEq (.vl 1 (pz 443 11 15)) (.fz (.nl .a0 (pz 443 19 21))) (pz 443 11 21)) (.qc .And (.tc .Eq (.vl 2 (pz 443 26 32)) (.bin .Add (.item (.item (.vl 1 (pz 443 36 40)) (.neg (.ki 1 0 (pz 443 42 43)) (pz 443 41 43)) (pz 443 36 44)) (.ki 0 0 (pz 443 45 46)) (pz 443 36 47)) (.item (.item (.vl 1 (pz 443 50 54)) (.neg (.ki 1 0 (pz 443 56 57)) (pz 443 55 57)) (pz 443 50 58)) (.ki 1 0 (pz 443 59 60)) (pz 443 50 61)) (pz 443 36 61)) (pz 443 26 61)) (.q0 .And))) (pz 443 11 61)) (.sc (.aI (.vl 1 (pz 444 12 16)) (.neg (.ki 1 0 (pz 444 18 19)) (pz 444 17 19)) (.tup (.ac (.item (.item (.vl 1 (pz 444 24 28)) (.neg (.ki 1 0 (pz 444 30 31)) (pz 444 29 31)) (pz 444 24 32)) (.ki 0 0 (pz 444 33 34)) (pz 444 24 35)) (.ac (.bin .Add (.item (.item (.vl 1 (pz 444 37 41)) (.neg (.ki 1 0 (pz 444 43 44)) (pz 444 42 44)) (pz 444 37 45)) (.ki 1 0 (pz 444 46 47)) (pz 444 37 48)) (.ki 1 0 (pz 444 51 52)) (pz 444 37 52)) .a0)) 0 (pz 444 23 53)) (pz 444 12 20) (pz 444 12 53))
 .s0) (.sc (.sif (.tq .Or (.qc .Or (.tc .Eq (.vl 1 (pz 445 13 17)) (.fz (.nl .a0 (pz 445 21 23))) (pz 445 13 23)) (.qc .Or (.tc .Gt (.vl 2 (pz 445 27 33)) (.bin .Add (.item (.item (.vl 1 (pz 445 36 40)) (.neg (.ki 1 0 (pz 445 42 43)) (pz 445 41 43)) (pz 445 36 44)) (.ki 0 0 (pz 445 45 46)) (pz 445 36 47)) (.item (.item (.vl 1 (pz 445 50 54)) (.neg (.ki 1 0 (pz 445 56 57)) (pz 445 55 57)) (pz 445 50 58)) (.ki 1 0 (pz 445 59 60)) (pz 445 50 61)) (pz 445 36 61)) (pz 445 27 61)) (.q0 .Or))) (pz 445 13 61)) (.sc (.ex (.vr (.me 0 (.vl 1 (pz 446 12 16)) (.ac (.tup (.ac (.vl 2 (pz 446 25 31)) (.ac (.ki 1 0 (pz 446 33 34)) .a0)) 0 (pz 446 24 35)) .a0) (pz 446 12 23) (pz 446 12 36))) (pz 446 12 36))
 .s0) .s0 ⟨445,8,446,36⟩)
 .s0) ⟨443,8,446,36⟩)
 .s0) ⟨442,4,446,36⟩)
 (.sc (.re (.vl 1 (pz 447 11 15)) (pz 447 4 15))
 .s0)))⟩
noncomputable def f681:Fd:=⟨["number","count"],["number","count"],[],["str"],[],
 (.sc (.re (.vr (.me 7 (.vr (.me 6 (.vr (.bl 6 0 75 4 (.ac (.vl 0 (pz 449 15 21)) .a0) (pz 449 11 14) (pz 449 11 22))) (.ac (.vl 1 (pz 449 29 34)) (.ac (.ks [48] 0 (pz 449 36 39)) .a0)) (pz 449 11 28) (pz 449 11 40))) (.ac (.ks [97,115,99,105,105] 0 (pz 449 48 55)) .a0) (pz 449 11 47) (pz 449 11 56))) (pz 449 4 56))
 .s0)⟩
noncomputable def f688:Fd:=⟨["entry"],["entry"],[],["CrossFault","MOST_OFFSET","MOST_GENERATION","figures"],[],
 (.sc (.sif (.tc .Eq (.att (.vl 0 (pz 451 7 12)) [119,97,121] (pz 451 7 16)) (.ks [112,97,99,107,101,100] 0 (pz 451 20 28)) (pz 451 7 28)) (.sc (.bot (stP (fnB (top 65)) 0 [(0,0)]))
 .s0) .s0 ⟨451,4,452,61⟩)
 (.sc (.sif (.tq .Or (.qc .Or (.tn (.tch .LtE .LtE (.ki 0 0 (pz 453 11 12)) (.att (.vl 0 (pz 453 16 21)) [111,110,101] (pz 453 16 25)) (.vg 1 63 (pz 453 29 40)) (pz 453 11 40)) (pz 453 7 40)) (.qc .Or (.tn (.tch .LtE .LtE (.ki 0 0 (pz 453 48 49)) (.att (.vl 0 (pz 453 53 58)) [116,119,111] (pz 453 53 62)) (.vg 2 64 (pz 453 66 81)) (pz 453 48 81)) (pz 453 44 81)) (.q0 .Or))) (pz 453 7 81)) (.sc (.bot (stP (fnB (top 65)) 1 [(0,0)]))
 .s0) .s0 ⟨453,4,454,67⟩)
 (.sc (.re (.bin .Add (.bin .Add (.bin .Add (.vr (.cf 681 3 67 (.ac (.att (.vl 0 (pz 455 19 24)) [111,110,101] (pz 455 19 28)) (.ac (.ki 10 0 (pz 455 30 32)) .a0)) (pz 455 11 18) (pz 455 11 33))) (.kb [32] 0 (pz 455 36 40)) (pz 455 11 40)) (.vr (.cf 681 3 67 (.ac (.att (.vl 0 (pz 455 51 56)) [116,119,111] (pz 455 51 60)) (.ac (.ki 5 0 (pz 455 62 63)) .a0)) (pz 455 43 50) (pz 455 43 64))) (pz 455 11 64)) (.ife (.tc .Eq (.att (.vl 0 (pz 455 80 85)) [119,97,121] (pz 455 80 89)) (.ks [117,115,101,100] 0 (pz 455 93 99)) (pz 455 80 99)) (.kb [32,110,32,10] 0 (pz 455 68 76)) (.kb [32,102,32,10] 0 (pz 455 105 113)) (pz 455 68 113)) (pz 455 11 114)) (pz 455 4 114))
 .s0)))⟩
noncomputable def f695:Fd:=⟨["entries","trailer"],["entries","trailer","parts","first","count","number"],[],["runs_of","str","range","entry_line","write_object"],[],
 (.sc (.aL 2 (.pu (.nl (.ac (.kb [120,114,101,102,10] 0 (pz 457 13 22)) .a0) (pz 457 12 23))) (pz 457 4 9) (pz 457 4 23))
 (.sc (.sfo (.tt (.tcons (.tl 3 (pz 458 8 13)) (.tcons (.tl 4 (pz 458 15 20)) .t0)) 0 (pz 458 8 20)) (.iv (.vr (.cf 674 0 66 (.ac (.vl 0 (pz 458 32 39)) .a0) (pz 458 24 31) (pz 458 24 40)))) (.sc (.ex (.vr (.me 0 (.vl 2 (pz 459 8 13)) (.ac (.bin .Add (.bin .Add (.bin .Add (.vr (.me 7 (.vr (.bl 6 1 75 4 (.ac (.vl 3 (pz 459 25 30)) .a0) (pz 459 21 24) (pz 459 21 31))) (.ac (.ks [97,115,99,105,105] 0 (pz 459 39 46)) .a0) (pz 459 21 38) (pz 459 21 47))) (.kb [32] 0 (pz 459 50 54)) (pz 459 21 54)) (.vr (.me 7 (.vr (.bl 6 1 75 4 (.ac (.vl 4 (pz 459 61 66)) .a0) (pz 459 57 60) (pz 459 57 67))) (.ac (.ks [97,115,99,105,105] 0 (pz 459 75 82)) .a0) (pz 459 57 74) (pz 459 57 83))) (pz 459 21 83)) (.kb [10] 0 (pz 459 86 91)) (pz 459 21 91)) .a0) (pz 459 8 20) (pz 459 8 92))) (pz 459 8 92))
 (.sc (.sfo (.tl 5 (pz 460 12 18)) (.ir2 2 70 11 (.vl 3 (pz 460 28 33)) (.bin .Add (.vl 3 (pz 460 35 40)) (.vl 4 (pz 460 43 48)) (pz 460 35 48)) (pz 460 22 27) (pz 460 22 49)) (.sc (.ex (.vr (.me 0 (.vl 2 (pz 461 12 17)) (.ac (.vr (.cf 688 3 68 (.ac (.item (.vl 0 (pz 461 36 43)) (.vl 5 (pz 461 44 50)) (pz 461 36 51)) .a0) (pz 461 25 35) (pz 461 25 52))) .a0) (pz 461 12 24) (pz 461 12 53))) (pz 461 12 53))
 .s0) ⟨460,8,461,53⟩)
 .s0)) ⟨458,4,461,53⟩)
 (.sc (.ex (.vr (.me 0 (.vl 2 (pz 462 4 9)) (.ac (.bin .Add (.bin .Add (.kb [116,114,97,105,108,101,114,10] 0 (pz 462 17 29)) (.vr (.cf 632 4 61 (.ac (.vl 1 (pz 462 45 52)) (.ac (.kt false 0 (pz 462 54 59)) .a0)) (pz 462 32 44) (pz 462 32 60))) (pz 462 17 60)) (.kb [10] 0 (pz 462 63 68)) (pz 462 17 68)) .a0) (pz 462 4 16) (pz 462 4 69))) (pz 462 4 69))
 (.sc (.re (.vr (.me 8 (.kb [] 0 (pz 463 11 14)) (.ac (.vl 2 (pz 463 20 25)) .a0) (pz 463 11 19) (pz 463 11 26))) (pz 463 4 26))
 .s0))))⟩
noncomputable def f700:Fd:=⟨["numbers","generations"],["numbers","generations","line","found","at","later"],[],["sorted","range","len","Entry","MOST_GENERATION"],[],
 (.sc (.aL 2 (.bin .Add (.fz (.nl (.ac (.ki 0 0 (pz 465 12 13)) .a0) (pz 465 11 14))) (.fz (.cm [".0","number"] [] [] [] 1 ⟨.function,[(".0",.local),("number",.local)],false,false,[]⟩ (.vl 1 (pz 465 18 24)) (.f1 (.tc .Gt (.vl 1 (pz 465 58 64)) (.ki 0 0 (pz 465 67 68)) (pz 465 58 68))) (.iv (.vr (.bl 0 0 46 1 (.ac (.vl 0 (pz 465 46 53)) .a0) (pz 465 39 45) (pz 465 39 54)))) (pz 465 29 35) (pz 465 17 69))) (pz 465 11 69)) (pz 465 4 8) (pz 465 4 69))
 (.sc (.aL 3 (.pu (.d0 (pz 466 12 14))) (pz 466 4 9) (pz 466 4 14))
 (.sc (.sfo (.tl 4 (pz 467 8 10)) (.ir1 1 70 11 (.vr (.bl 1 2 33 0 (.ac (.vl 2 (pz 467 24 28)) .a0) (pz 467 20 23) (pz 467 20 29))) (pz 467 14 19) (pz 467 14 30)) (.sc (.aL 5 (.ife (.tc .Lt (.bin .Add (.vl 4 (pz 468 32 34)) (.ki 1 0 (pz 468 37 38)) (pz 468 32 38)) (.vr (.bl 1 2 33 0 (.ac (.vl 2 (pz 468 45 49)) .a0) (pz 468 41 44) (pz 468 41 50))) (pz 468 32 50)) (.item (.vl 2 (pz 468 16 20)) (.bin .Add (.vl 4 (pz 468 21 23)) (.ki 1 0 (pz 468 26 27)) (pz 468 21 27)) (pz 468 16 28)) (.ki 0 0 (pz 468 56 57)) (pz 468 16 57)) (pz 468 8 13) (pz 468 8 57))
 (.sc (.aI (.vl 3 (pz 469 8 13)) (.item (.vl 2 (pz 469 14 18)) (.vl 4 (pz 469 19 21)) (pz 469 14 22)) (.mkT 663 653 3 65 (.ac (.ks [102,114,101,101] 0 (pz 469 32 38)) (.ac (.vl 5 (pz 469 40 45)) (.ac (.ife (.tc .Eq (.vl 4 (pz 469 66 68)) (.ki 0 0 (pz 469 72 73)) (pz 469 66 73)) (.vg 4 64 (pz 469 47 62)) (.vr (.me 3 (.vl 1 (pz 469 79 90)) (.ac (.item (.vl 2 (pz 469 95 99)) (.vl 4 (pz 469 100 102)) (pz 469 95 103)) (.ac (.ki 0 0 (pz 469 105 106)) .a0)) (pz 469 79 94) (pz 469 79 107))) (pz 469 47 107)) .a0))) (pz 469 26 31) (pz 469 26 108)) (pz 469 8 23) (pz 469 8 108))
 .s0)) ⟨467,4,469,108⟩)
 (.sc (.re (.vl 3 (pz 470 11 16)) (pz 470 4 16))
 .s0))))⟩
noncomputable def f707:Fd:=⟨["offset"],["offset"],[],["str"],[],
 (.sc (.re (.bin .Add (.bin .Add (.kb [115,116,97,114,116,120,114,101,102,10] 0 (pz 472 11 25)) (.vr (.me 7 (.vr (.bl 6 0 75 4 (.ac (.vl 0 (pz 472 32 38)) .a0) (pz 472 28 31) (pz 472 28 39))) (.ac (.ks [97,115,99,105,105] 0 (pz 472 47 54)) .a0) (pz 472 28 46) (pz 472 28 55))) (pz 472 11 55)) (.kb [10,37,37,69,79,70,10] 0 (pz 472 58 70)) (pz 472 11 70)) (pz 472 4 70))
 .s0)⟩
noncomputable def f714:Fd:=⟨["entries","size"],["entries","size","found","number"],[],["range"],[],
 (.sc (.aL 2 (.pu (.d0 (pz 476 12 14))) (pz 476 4 9) (pz 476 4 14))
 (.sc (.sfo (.tl 3 (pz 477 8 14)) (.ir2 0 70 11 (.ki 1 0 (pz 477 24 25)) (.vl 1 (pz 477 27 31)) (pz 477 18 23) (pz 477 18 32)) (.sc (.bot (stP (fnB (top 71)) 1 [(0,0)]))
 .s0) ⟨477,4,481,47⟩)
 (.sc (.re (.vl 2 (pz 482 11 16)) (pz 482 4 16))
 .s0)))⟩
noncomputable def f721:Fd:=⟨["entries"],["entries","found","number"],[],["sorted"],[],
 (.sc (.aL 1 (.pu (.d0 (pz 484 12 14))) (pz 484 4 9) (pz 484 4 14))
 (.sc (.sfo (.tl 2 (pz 485 8 14)) (.iv (.vr (.bl 0 0 46 1 (.ac (.vl 0 (pz 485 25 32)) .a0) (pz 485 18 24) (pz 485 18 33)))) (.sc (.bot (stP (fnB (top 72)) 1 [(0,0)]))
 .s0) ⟨485,4,487,87⟩)
 (.sc (.re (.vl 1 (pz 488 11 16)) (pz 488 4 16))
 .s0)))⟩
noncomputable def f728:Fd:=⟨["entries"],["entries","found","number"],[],[],[],
 (.sc (.aL 1 (.pu (.d0 (pz 490 12 14))) (pz 490 4 9) (pz 490 4 14))
 (.sc (.sfo (.tl 2 (pz 491 8 14)) (.iv (.vl 0 (pz 491 18 25))) (.sc (.bot (stP (fnB (top 73)) 1 [(0,0)]))
 .s0) ⟨491,4,493,45⟩)
 (.sc (.re (.vl 1 (pz 494 11 16)) (pz 494 4 16))
 .s0)))⟩
noncomputable def f733:Fd:=⟨["generations"],["number","line","found"],["generations"],["free_chain","MOST_GENERATION","Entry"],[],
 (.sc (.aK 1 (pz 496 4 8) [".0","number"] ["generations"] ["MOST_GENERATION"] [0] 1 ⟨.function,[(".0",.local),("number",.local),("MOST_GENERATION",.globalImplicit),("generations",.free)],false,false,[]⟩ (.vl 1 (pz 496 12 18)) (.f1 (.tc .Lt (.item (.vc 0 (pz 496 48 59)) (.vl 1 (pz 496 60 66)) (pz 496 48 67)) (.vg 0 64 (pz 496 70 85)) (pz 496 48 85))) (.iv (.vc 0 (pz 496 33 44))) (pz 496 23 29) (pz 496 11 86) (pz 496 4 86))
 (.sc (.aL 2 (.nr (.cf 700 0 70 (.ac (.vl 1 (pz 497 23 27)) (.ac (.vc 0 (pz 497 29 40)) .a0)) (pz 497 12 22) (pz 497 12 41))) (pz 497 4 9) (pz 497 4 41))
 (.sc (.sfo (.tl 0 (pz 498 8 14)) (.iv (.vc 0 (pz 498 18 29))) (.sc (.sif (.tc .GtE (.item (.vc 0 (pz 499 11 22)) (.vl 0 (pz 499 23 29)) (pz 499 11 30)) (.vg 1 64 (pz 499 34 49)) (pz 499 11 49)) (.sc (.aI (.vl 2 (pz 500 12 17)) (.vl 0 (pz 500 18 24)) (.mkT 663 653 2 65 (.ac (.ks [102,114,101,101] 0 (pz 500 34 40)) (.ac (.ki 0 0 (pz 500 42 43)) (.ac (.vg 1 64 (pz 500 45 60)) .a0))) (pz 500 28 33) (pz 500 28 61)) (pz 500 12 25) (pz 500 12 61))
 .s0) .s0 ⟨499,8,500,61⟩)
 .s0) ⟨498,4,500,61⟩)
 (.sc (.re (.vl 2 (pz 501 11 16)) (pz 501 4 16))
 .s0))))⟩
noncomputable def f747:Fd:=⟨["self","entries","size"],["self","entries","size"],[],["generations_used","next_generations","dict","holders_of"],[],
 (.sc (.aA (.vl 0 (pz 505 8 12)) [117,115,101,100] (.nr (.cf 721 0 74 (.ac (.vl 1 (pz 505 37 44)) .a0) (pz 505 20 36) (pz 505 20 45))) (pz 505 8 17) (pz 505 8 45))
 (.sc (.aA (.vl 0 (pz 506 8 12)) [115,112,97,114,101] (.nr (.cf 714 1 73 (.ac (.vl 1 (pz 506 38 45)) (.ac (.vl 2 (pz 506 47 51)) .a0)) (pz 506 21 37) (pz 506 21 52))) (pz 506 8 18) (pz 506 8 52))
 (.sc (.aA (.vl 0 (pz 507 8 12)) [119,97,115,95,115,112,97,114,101] (.vr (.bl 12 2 60 8 (.ac (.att (.vl 0 (pz 507 30 34)) [115,112,97,114,101] (pz 507 30 40)) .a0) (pz 507 25 29) (pz 507 25 41))) (pz 507 8 22) (pz 507 8 41))
 (.sc (.aA (.vl 0 (pz 508 8 12)) [104,111,108,100,101,114,115] (.vr (.cf 728 3 75 (.ac (.vl 1 (pz 508 34 41)) .a0) (pz 508 23 33) (pz 508 23 42))) (pz 508 8 20) (pz 508 8 42))
 (.sc (.aA (.vl 0 (pz 509 8 12)) [102,105,114,115,116,95,115,105,122,101] (.vl 2 (pz 509 26 30)) (pz 509 8 23) (pz 509 8 30))
 (.sc (.aA (.vl 0 (pz 510 8 12)) [111,98,106,101,99,116,115] (.pu (.d0 (pz 510 23 25))) (pz 510 8 20) (pz 510 8 25))
 (.sc (.aA (.vl 0 (pz 511 8 12)) [102,114,101,101,100] (.pu (.d0 (pz 511 21 23))) (pz 511 8 18) (pz 511 8 23))
 .s0)))))))⟩
noncomputable def f759:Fd:=⟨["self"],["self"],[],["max"],[],
 (.sc (.re (.vr (.bl 2 0 35 2 (.ac (.bin .Add (.bin .Add (.fz (.nl (.ac (.att (.vl 0 (pz 517 20 24)) [102,105,114,115,116,95,115,105,122,101] (pz 517 20 35)) .a0) (pz 517 19 36))) (.fz (.inc [".0","number"] [] [] 1 ⟨.function,[(".0",.local),("number",.local)],false,false,[]⟩ (.att (.vl 0 (pz 517 65 69)) [117,115,101,100] (pz 517 65 74)) 0 (pz 517 55 61) (pz 517 40 46) (pz 517 49 50) (pz 517 40 50) (pz 517 39 75))) (pz 517 19 75)) (.fz (.inc [".0","number"] [] [] 1 ⟨.function,[(".0",.local),("number",.local)],false,false,[]⟩ (.att (.vl 0 (pz 517 104 108)) [115,112,97,114,101] (pz 517 104 114)) 0 (pz 517 94 100) (pz 517 79 85) (pz 517 88 89) (pz 517 79 89) (pz 517 78 115))) (pz 517 19 115)) .a0) (pz 517 15 18) (pz 517 15 116))) (pz 517 8 116))
 .s0)⟩
noncomputable def f773:Fd:=⟨["self","number"],["self","number"],[],["DraftFault","str"],[],
 (.sc (.sif (.tc .Lt (.vl 1 (pz 523 11 17)) (.ki 1 0 (pz 523 20 21)) (pz 523 11 21)) (.sc (.bot (stP (fnB (meth 75 4)) 0 [(0,0)]))
 .s0) .s0 ⟨523,8,524,70⟩)
 (.sc (.sif (.tc .In (.vl 1 (pz 525 11 17)) (.att (.vl 0 (pz 525 21 25)) [104,111,108,100,101,114,115] (pz 525 21 33)) (pz 525 11 33)) (.sc (.bot (stP (fnB (meth 75 4)) 1 [(0,0)]))
 .s0) .s0 ⟨525,8,526,82⟩)
 .s0))⟩
noncomputable def f780:Fd:=⟨["self","number","generation","value"],["self","number","generation","value","kept","between"],[],["copied","range","Reference"],[],
 (.sc (.ex (.vr (.ct 818 [110,101,101,100,95,110,111,95,104,111,108,100,101,114] 773 (.vl 0 (pz 529 8 12)) (.ac (.vl 1 (pz 529 28 34)) .a0) (pz 529 8 27) (pz 529 8 35))) (pz 529 8 35))
 (.sc (.aL 4 (.vr (.cf 417 0 32 (.ac (.vl 3 (pz 530 22 27)) .a0) (pz 530 15 21) (pz 530 15 28))) (pz 530 8 12) (pz 530 8 28))
 (.sc (.sfo (.tl 5 (pz 531 12 19)) (.ir2 1 70 11 (.vr (.ct 818 [115,105,122,101] 759 (.vl 0 (pz 531 29 33)) .a0 (pz 531 29 38) (pz 531 29 40))) (.vl 1 (pz 531 42 48)) (pz 531 23 28) (pz 531 23 49)) (.sc (.aI (.att (.vl 0 (pz 532 12 16)) [115,112,97,114,101] (pz 532 12 22)) (.vl 5 (pz 532 23 30)) (.ki 0 0 (pz 532 34 35)) (pz 532 12 31) (pz 532 12 35))
 .s0) ⟨531,8,532,35⟩)
 (.sc (.aI (.att (.vl 0 (pz 533 8 12)) [111,98,106,101,99,116,115] (pz 533 8 20)) (.vl 1 (pz 533 21 27)) (.tup (.ac (.vl 2 (pz 533 32 42)) (.ac (.vl 4 (pz 533 44 48)) .a0)) 0 (pz 533 31 49)) (pz 533 8 28) (pz 533 8 49))
 (.sc (.aI (.att (.vl 0 (pz 534 8 12)) [117,115,101,100] (pz 534 8 17)) (.vl 1 (pz 534 18 24)) (.vl 2 (pz 534 28 38)) (pz 534 8 25) (pz 534 8 38))
 (.sc (.ex (.vr (.me 4 (.att (.vl 0 (pz 535 8 12)) [115,112,97,114,101] (pz 535 8 18)) (.ac (.vl 1 (pz 535 23 29)) (.ac (.kn 0 (pz 535 31 35)) .a0)) (pz 535 8 22) (pz 535 8 36))) (pz 535 8 36))
 (.sc (.ex (.vr (.me 4 (.att (.vl 0 (pz 536 8 12)) [102,114,101,101,100] (pz 536 8 18)) (.ac (.vl 1 (pz 536 23 29)) (.ac (.kn 0 (pz 536 31 35)) .a0)) (pz 536 8 22) (pz 536 8 36))) (pz 536 8 36))
 (.sc (.re (.mkT 389 379 2 27 (.ac (.vl 1 (pz 537 25 31)) (.ac (.vl 2 (pz 537 33 43)) .a0)) (pz 537 15 24) (pz 537 15 44)) (pz 537 8 44))
 .s0))))))))⟩
noncomputable def f801:Fd:=⟨["self","number"],["self","number"],[],["DraftFault","str"],[],
 (.sc (.sif (.tc .NotIn (.vl 1 (pz 546 11 17)) (.att (.vl 0 (pz 546 25 29)) [117,115,101,100] (pz 546 25 34)) (pz 546 11 34)) (.sc (.bot (stP (fnB (meth 75 8)) 0 [(0,0)]))
 .s0) .s0 ⟨546,8,547,76⟩)
 (.sc (.ex (.vr (.ct 818 [110,101,101,100,95,110,111,95,104,111,108,100,101,114] 773 (.vl 0 (pz 548 8 12)) (.ac (.vl 1 (pz 548 28 34)) .a0) (pz 548 8 27) (pz 548 8 35))) (pz 548 8 35))
 (.sc (.aI (.att (.vl 0 (pz 549 8 12)) [115,112,97,114,101] (pz 549 8 18)) (.vl 1 (pz 549 19 25)) (.bin .Add (.vr (.me 4 (.att (.vl 0 (pz 549 29 33)) [117,115,101,100] (pz 549 29 38)) (.ac (.vl 1 (pz 549 43 49)) .a0) (pz 549 29 42) (pz 549 29 50))) (.ki 1 0 (pz 549 53 54)) (pz 549 29 54)) (pz 549 8 26) (pz 549 8 54))
 (.sc (.ex (.vr (.me 4 (.att (.vl 0 (pz 550 8 12)) [111,98,106,101,99,116,115] (pz 550 8 20)) (.ac (.vl 1 (pz 550 25 31)) (.ac (.kn 0 (pz 550 33 37)) .a0)) (pz 550 8 24) (pz 550 8 38))) (pz 550 8 38))
 (.sc (.aI (.att (.vl 0 (pz 551 8 12)) [102,114,101,101,100] (pz 551 8 18)) (.vl 1 (pz 551 19 25)) (.kt true 0 (pz 551 29 33)) (pz 551 8 26) (pz 551 8 33))
 .s0)))))⟩
noncomputable def f815:Fd:=⟨["self","laid"],["self","laid","found","free","number"],[],["dict","free_entries"],[],
 (.sc (.aL 2 (.nr (.bl 12 0 60 8 (.ac (.vl 1 (pz 559 21 25)) .a0) (pz 559 16 20) (pz 559 16 26))) (pz 559 8 13) (pz 559 8 26))
 (.sc (.sif (.tc .NotEq (.att (.vl 0 (pz 560 11 15)) [115,112,97,114,101] (pz 560 11 21)) (.att (.vl 0 (pz 560 25 29)) [119,97,115,95,115,112,97,114,101] (pz 560 25 39)) (pz 560 11 39)) (.sc (.aL 3 (.vr (.cf 733 1 76 (.ac (.att (.vl 0 (pz 561 32 36)) [115,112,97,114,101] (pz 561 32 42)) .a0) (pz 561 19 31) (pz 561 19 43))) (pz 561 12 16) (pz 561 12 43))
 (.sc (.sfo (.tl 4 (pz 562 16 22)) (.iv (.vl 3 (pz 562 26 30))) (.sc (.aI (.vl 2 (pz 563 16 21)) (.vl 4 (pz 563 22 28)) (.item (.vl 3 (pz 563 32 36)) (.vl 4 (pz 563 37 43)) (pz 563 32 44)) (pz 563 16 29) (pz 563 16 44))
 .s0) ⟨562,12,563,44⟩)
 .s0)) .s0 ⟨560,8,563,44⟩)
 (.sc (.re (.vl 2 (pz 564 15 20)) (pz 564 8 20))
 .s0)))⟩
noncomputable def f829:Fd:=⟨["data"],["data"],[],[],[],
 (.sc (.re (.ife (.tc .In (.vr (.sl (.vl 0 (pz 566 18 22)) (.p1 (.neg (.ki 1 0 (pz 566 24 25)) (pz 566 23 25))) .p0 (pz 566 23 26) (pz 566 18 27))) (.tup (.ac (.kb [10] 0 (pz 566 32 37)) (.ac (.kb [13] 0 (pz 566 39 44)) .a0)) 0 (pz 566 31 45)) (pz 566 18 45)) (.kb [] 0 (pz 566 11 14)) (.kb [10] 0 (pz 566 51 56)) (pz 566 11 56)) (pz 566 4 56))
 .s0)⟩
noncomputable def f836:Fd:=⟨["objects","begin"],["objects","begin","parts","entries","at","number","generation","value","part"],[],["sorted","write_indirect","Entry","len"],[],
 (.sc (.aL 2 (.pu (.nl .a0 (pz 568 12 14))) (pz 568 4 9) (pz 568 4 14))
 (.sc (.aL 3 (.pu (.d0 (pz 569 14 16))) (pz 569 4 11) (pz 569 4 16))
 (.sc (.aL 4 (.vl 1 (pz 570 9 14)) (pz 570 4 6) (pz 570 4 14))
 (.sc (.sfo (.tl 5 (pz 571 8 14)) (.iv (.vr (.bl 0 0 46 1 (.ac (.vl 0 (pz 571 25 32)) .a0) (pz 571 18 24) (pz 571 18 33)))) (.sc (.aT (.tcons (.tl 6 (pz 572 8 18)) (.tcons (.tl 7 (pz 572 20 25)) .t0)) 0 (.item (.vl 0 (pz 572 28 35)) (.vl 5 (pz 572 36 42)) (pz 572 28 43)) (pz 572 8 25) (pz 572 8 43))
 (.sc (.aL 8 (.vr (.cf 639 1 62 (.ac (.vl 5 (pz 573 30 36)) (.ac (.vl 6 (pz 573 38 48)) (.ac (.vl 7 (pz 573 50 55)) (.ac (.kt false 0 (pz 573 57 62)) .a0)))) (pz 573 15 29) (pz 573 15 63))) (pz 573 8 12) (pz 573 8 63))
 (.sc (.aI (.vl 3 (pz 574 8 15)) (.vl 5 (pz 574 16 22)) (.mkT 663 653 2 65 (.ac (.ks [117,115,101,100] 0 (pz 574 32 38)) (.ac (.vl 4 (pz 574 40 42)) (.ac (.vl 6 (pz 574 44 54)) .a0))) (pz 574 26 31) (pz 574 26 55)) (pz 574 8 23) (pz 574 8 55))
 (.sc (.ex (.vr (.me 0 (.vl 2 (pz 575 8 13)) (.ac (.vl 8 (pz 575 21 25)) .a0) (pz 575 8 20) (pz 575 8 26))) (pz 575 8 26))
 (.sc (.aL 4 (.bin .Add (.vl 4 (pz 576 13 15)) (.vr (.bl 1 3 33 0 (.ac (.vl 8 (pz 576 22 26)) .a0) (pz 576 18 21) (pz 576 18 27))) (pz 576 13 27)) (pz 576 8 10) (pz 576 8 27))
 .s0))))) ⟨571,4,576,27⟩)
 (.fr [(0,3,[])] (.sc (.re (.tup (.ac (.vr (.me 8 (.kb [] 0 (pz 577 12 15)) (.ac (.vl 2 (pz 577 21 26)) .a0) (pz 577 12 20) (pz 577 12 27))) (.ac (.vl 3 (pz 577 29 36)) .a0)) 0 (pz 577 11 37)) (pz 577 4 37))
 .s0))))))⟩
noncomputable def f841:Fd:=⟨["trailer","size","previous"],["size","previous","found"],["trailer"],["dict"],[],
 (.sc (.aL 2 (.nr (.bl 12 0 60 8 (.ac (.fz (.cm [".0","key"] ["trailer"] [] [0] 1 ⟨.function,[(".0",.local),("key",.local),("trailer",.free)],false,false,[]⟩ (.tup (.ac (.vl 1 (pz 579 19 22)) (.ac (.item (.vc 0 (pz 579 24 31)) (.vl 1 (pz 579 32 35)) (pz 579 24 36)) .a0)) 0 (pz 579 18 37)) (.f1 (.tc .NotIn (.vl 1 (pz 579 60 63)) (.tup (.ac (.ks [80,114,101,118] 0 (pz 579 72 78)) (.ac (.ks [88,82,101,102,83,116,109] 0 (pz 579 80 89)) (.ac (.ks [83,105,122,101] 0 (pz 579 91 97)) .a0))) 0 (pz 579 71 98)) (pz 579 60 98))) (.iv (.vc 0 (pz 579 49 56))) (pz 579 42 45) (pz 579 17 99))) .a0) (pz 579 12 16) (pz 579 12 100))) (pz 579 4 9) (pz 579 4 100))
 (.sc (.aI (.vl 2 (pz 580 4 9)) (.ks [83,105,122,101] 0 (pz 580 10 16)) (.vl 0 (pz 580 20 24)) (pz 580 4 17) (pz 580 4 24))
 (.sc (.aI (.vl 2 (pz 581 4 9)) (.ks [80,114,101,118] 0 (pz 581 10 16)) (.vl 1 (pz 581 20 28)) (pz 581 4 17) (pz 581 4 28))
 (.sc (.re (.vl 2 (pz 582 11 16)) (pz 582 4 16))
 .s0))))⟩
noncomputable def f848:Fd:=⟨["changes","trailer","previous","begin"],["changes","trailer","previous","begin","body","laid","at"],[],["laid_objects","len","write_classic","new_trailer","tail"],[],
 (.sc (.aT (.tcons (.tl 4 (pz 584 4 8)) (.tcons (.tl 5 (pz 584 10 14)) .t0)) 0 (.vr (.cf 836 0 79 (.ac (.att (.vl 0 (pz 584 30 37)) [111,98,106,101,99,116,115] (pz 584 30 45)) (.ac (.vl 3 (pz 584 47 52)) .a0)) (pz 584 17 29) (pz 584 17 53))) (pz 584 4 14) (pz 584 4 53))
 (.sc (.aL 6 (.bin .Add (.vl 3 (pz 585 9 14)) (.vr (.bl 1 1 33 0 (.ac (.vl 4 (pz 585 21 25)) .a0) (pz 585 17 20) (pz 585 17 26))) (pz 585 9 26)) (pz 585 4 6) (pz 585 4 26))
 (.sc (.re (.bin .Add (.bin .Add (.vl 4 (pz 586 11 15)) (.vr (.cf 695 2 69 (.ac (.vr (.ct 818 [110,101,119,95,101,110,116,114,105,101,115] 815 (.vl 0 (pz 586 32 39)) (.ac (.vl 5 (pz 586 52 56)) .a0) (pz 586 32 51) (pz 586 32 57))) (.ac (.vr (.cf 841 3 80 (.ac (.vl 1 (pz 586 71 78)) (.ac (.vr (.ct 818 [115,105,122,101] 759 (.vl 0 (pz 586 80 87)) .a0 (pz 586 80 92) (pz 586 80 94))) (.ac (.vl 2 (pz 586 96 104)) .a0))) (pz 586 59 70) (pz 586 59 105))) .a0)) (pz 586 18 31) (pz 586 18 106))) (pz 586 11 106)) (.vr (.cf 707 4 71 (.ac (.vl 6 (pz 586 114 116)) .a0) (pz 586 109 113) (pz 586 109 117))) (pz 586 11 117)) (pz 586 4 117))
 .s0)))⟩
noncomputable def f855:Fd:=⟨["data","begun"],["data","begun","at","cursor"],[],["END_MARK","CrossFault","Cursor","len"],[],
 (.sc (.aL 2 (.vr (.me 9 (.vl 0 (pz 588 9 13)) (.ac (.vg 0 72 (pz 588 19 27)) (.ac (.vl 1 (pz 588 29 34)) .a0)) (pz 588 9 18) (pz 588 9 35))) (pz 588 4 6) (pz 588 4 35))
 (.sc (.sif (.tc .Lt (.vl 2 (pz 589 7 9)) (.ki 0 0 (pz 589 12 13)) (pz 589 7 13)) (.sc (.bot (stP (fnB (top 80)) 1 [(0,0)]))
 .s0) .s0 ⟨589,4,590,57⟩)
 (.sc (.aL 3 (.mkL 192 104 2 20 (.ac (.vl 0 (pz 591 20 24)) (.ac (.bin .Add (.vl 2 (pz 591 26 28)) (.vr (.bl 1 3 33 0 (.ac (.vg 0 72 (pz 591 35 43)) .a0) (pz 591 31 34) (pz 591 31 44))) (pz 591 26 44)) .a0)) (pz 591 13 19) (pz 591 13 45)) (pz 591 4 10) (pz 591 4 45))
 (.sc (.ex (.vr (.ct 192 [115,107,105,112,95,108,105,110,101,95,101,110,100] 161 (.vl 3 (pz 592 4 10)) .a0 (pz 592 4 24) (pz 592 4 26))) (pz 592 4 26))
 (.sc (.re (.att (.vl 3 (pz 593 11 17)) [97,116] (pz 593 11 20)) (pz 593 4 20))
 .s0)))))⟩
noncomputable def f862:Fd:=⟨["one","other"],["one","other","found","number","first","second"],[],["sorted","set","told_objects"],[],
 (.sc (.aL 2 (.pu (.nl .a0 (pz 595 12 14))) (pz 595 4 9) (pz 595 4 14))
 (.sc (.sfo (.tl 3 (pz 596 8 14)) (.iv (.vr (.ss 0 46 1 1 72 10 (.bin .Add (.vr (.ct 515 [110,117,109,98,101,114,115] 500 (.vl 0 (pz 596 29 32)) .a0 (pz 596 29 40) (pz 596 29 42))) (.vr (.ct 515 [110,117,109,98,101,114,115] 500 (.vl 1 (pz 596 45 50)) .a0 (pz 596 45 58) (pz 596 45 60))) (pz 596 29 60)) (pz 596 18 24) (pz 596 18 62) (pz 596 25 28) (pz 596 25 61)))) (.sc (.aL 4 (.vr (.me 3 (.att (.vl 0 (pz 597 16 19)) [116,97,98,108,101] (pz 597 16 25)) (.ac (.vl 3 (pz 597 30 36)) .a0) (pz 597 16 29) (pz 597 16 37))) (pz 597 8 13) (pz 597 8 37))
 (.sc (.aL 5 (.vr (.me 3 (.att (.vl 1 (pz 598 17 22)) [116,97,98,108,101] (pz 598 17 28)) (.ac (.vl 3 (pz 598 33 39)) .a0) (pz 598 17 32) (pz 598 17 40))) (pz 598 8 14) (pz 598 8 40))
 (.sc (.sif (.tq .Or (.qc .Or (.tc .Is (.vl 4 (pz 599 11 16)) (.kn 0 (pz 599 20 24)) (pz 599 11 24)) (.qc .Or (.tc .Is (.vl 5 (pz 599 28 34)) (.kn 0 (pz 599 38 42)) (pz 599 28 42)) (.qc .Or (.tc .NotEq (.item (.vl 4 (pz 599 46 51)) (.ki 0 0 (pz 599 52 53)) (pz 599 46 54)) (.item (.vl 5 (pz 599 58 64)) (.ki 0 0 (pz 599 65 66)) (pz 599 58 67)) (pz 599 46 67)) (.qc .Or (.tc .NotEq (.vr (.cf 412 2 31 (.ac (.item (.vl 4 (pz 599 85 90)) (.ki 1 0 (pz 599 91 92)) (pz 599 85 93)) .a0) (pz 599 72 84) (pz 599 72 94))) (.vr (.cf 412 2 31 (.ac (.item (.vl 5 (pz 599 111 117)) (.ki 1 0 (pz 599 118 119)) (pz 599 111 120)) .a0) (pz 599 98 110) (pz 599 98 121))) (pz 599 72 121)) (.q0 .Or))))) (pz 599 11 122)) (.sc (.ex (.vr (.me 0 (.vl 2 (pz 600 12 17)) (.ac (.vl 3 (pz 600 25 31)) .a0) (pz 600 12 24) (pz 600 12 32))) (pz 600 12 32))
 .s0) .s0 ⟨599,8,600,32⟩)
 .s0))) ⟨596,4,600,32⟩)
 (.sc (.re (.vl 2 (pz 601 11 16)) (pz 601 4 16))
 .s0)))⟩
noncomputable def f869:Fd:=⟨["pen","many"],["pen","many","spot"],[],["len"],[],
 (.sc (.aL 2 (.item (.vl 0 (pz 604 11 14)) (.ki 1 0 (pz 604 15 16)) (pz 604 11 17)) (pz 604 4 8) (pz 604 4 17))
 (.sc (.aI (.vl 0 (pz 605 4 7)) (.ki 1 0 (pz 605 8 9)) (.bin .Add (.vl 2 (pz 605 13 17)) (.ki 1 0 (pz 605 20 21)) (pz 605 13 21)) (pz 605 4 10) (pz 605 4 21))
 (.sc (.sif (.tc .Lt (.vl 2 (pz 606 7 11)) (.vr (.bl 1 0 33 0 (.ac (.item (.vl 0 (pz 606 18 21)) (.ki 0 0 (pz 606 22 23)) (pz 606 18 24)) .a0) (pz 606 14 17) (pz 606 14 25))) (pz 606 7 25)) (.sc (.re (.bin .Mod (.item (.item (.vl 0 (pz 607 15 18)) (.ki 0 0 (pz 607 19 20)) (pz 607 15 21)) (.vl 2 (pz 607 22 26)) (pz 607 15 27)) (.vl 1 (pz 607 30 34)) (pz 607 15 34)) (pz 607 8 34))
 .s0) .s0 ⟨606,4,607,34⟩)
 (.sc (.re (.bin .Mod (.bin .Add (.bin .Add (.item (.vl 0 (pz 608 12 15)) (.ki 2 0 (pz 608 16 17)) (pz 608 12 18)) (.bin .Mult (.ki 7 0 (pz 608 21 22)) (.vl 2 (pz 608 25 29)) (pz 608 21 29)) (pz 608 12 29)) (.bin .FloorDiv (.bin .Mult (.vl 2 (pz 608 32 36)) (.vl 2 (pz 608 39 43)) (pz 608 32 43)) (.ki 3 0 (pz 608 47 48)) (pz 608 32 48)) (pz 608 12 48)) (.vl 1 (pz 608 52 56)) (pz 608 11 56)) (pz 608 4 56))
 .s0))))⟩
noncomputable def f874:Fd:=⟨["pen"],[],["pen"],["_law_draw","range"],[],
 (.sc (.sif (.tc .Eq (.vr (.cf 869 0 84 (.ac (.vc 0 (pz 610 17 20)) (.ac (.ki 2 0 (pz 610 22 23)) .a0)) (pz 610 7 16) (pz 610 7 24))) (.ki 0 0 (pz 610 28 29)) (pz 610 7 29)) (.sc (.re (.vr (.cf 869 0 84 (.ac (.vc 0 (pz 611 25 28)) (.ac (.ki 300 0 (pz 611 30 33)) .a0)) (pz 611 15 24) (pz 611 15 34))) (pz 611 8 34))
 .s0) .s0 ⟨610,4,611,34⟩)
 (.sc (.re (.fz (.cm [".0","turn"] ["pen"] ["_law_draw"] [0] 1 ⟨.function,[(".0",.local),("turn",.local),("_law_draw",.globalImplicit),("pen",.free)],false,false,[]⟩ (.vr (.cf 869 0 84 (.ac (.vc 0 (pz 612 22 25)) (.ac (.ki 20 0 (pz 612 27 29)) .a0)) (pz 612 12 21) (pz 612 12 30))) .f0 (.ir1 1 70 11 (.vr (.cf 869 0 84 (.ac (.vc 0 (pz 612 59 62)) (.ac (.ki 4 0 (pz 612 64 65)) .a0)) (pz 612 49 58) (pz 612 49 66))) (pz 612 43 48) (pz 612 43 67)) (pz 612 35 39) (pz 612 11 68))) (pz 612 4 68))
 .s0))⟩
noncomputable def f879:Fd:=⟨["value"],["value"],[],["isinstance","int","str"],[],
 (.sc (.re (.ife (.tv (.vr (.bl 8 0 29 5 (.ac (.vl 0 (pz 614 36 41)) (.ac (.vb 1 66 15 (pz 614 43 46)) .a0)) (pz 614 25 35) (pz 614 25 47)))) (.vr (.bl 6 2 75 4 (.ac (.vl 0 (pz 614 15 20)) .a0) (pz 614 11 14) (pz 614 11 21))) (.vr (.me 5 (.ks [32] 0 (pz 614 53 56)) (.ac (.bin .Add (.bin .Add (.fz (.nl (.ac (.ks [91] 0 (pz 614 63 66)) .a0) (pz 614 62 67))) (.fz (.cm [".0","one"] [] ["str"] [] 1 ⟨.function,[(".0",.local),("one",.local),("str",.globalImplicit)],false,false,[]⟩ (.vr (.bl 6 0 75 4 (.ac (.vl 1 (pz 614 75 78)) .a0) (pz 614 71 74) (pz 614 71 79))) .f0 (.iv (.vl 0 (pz 614 91 96))) (pz 614 84 87) (pz 614 70 97))) (pz 614 62 97)) (.fz (.nl (.ac (.ks [93] 0 (pz 614 101 104)) .a0) (pz 614 100 105))) (pz 614 62 105)) .a0) (pz 614 53 61) (pz 614 53 106))) (pz 614 11 106)) (pz 614 4 106))
 .s0)⟩
noncomputable def f886:Fd:=⟨["entry"],["entry","way","one","two"],[],["str"],[],
 (.sc (.aT (.tcons (.tl 1 (pz 616 4 7)) (.tcons (.tl 2 (pz 616 9 12)) (.tcons (.tl 3 (pz 616 14 17)) .t0))) 0 (.vl 0 (pz 616 20 25)) (pz 616 4 17) (pz 616 4 25))
 (.sc (.re (.bin .Add (.bin .Add (.bin .Add (.vr (.me 6 (.vr (.bl 6 0 75 4 (.ac (.vl 2 (pz 617 15 18)) .a0) (pz 617 11 14) (pz 617 11 19))) (.ac (.ki 10 0 (pz 617 26 28)) (.ac (.ks [48] 0 (pz 617 30 33)) .a0)) (pz 617 11 25) (pz 617 11 34))) (.ks [32] 0 (pz 617 37 40)) (pz 617 11 40)) (.vr (.me 6 (.vr (.bl 6 0 75 4 (.ac (.vl 3 (pz 617 47 50)) .a0) (pz 617 43 46) (pz 617 43 51))) (.ac (.ki 5 0 (pz 617 58 59)) (.ac (.ks [48] 0 (pz 617 61 64)) .a0)) (pz 617 43 57) (pz 617 43 65))) (pz 617 11 65)) (.ife (.tc .Eq (.vl 1 (pz 617 80 83)) (.ks [117,115,101,100] 0 (pz 617 87 93)) (pz 617 80 93)) (.ks [32,110,32,10] 0 (pz 617 69 76)) (.ks [32,102,32,10] 0 (pz 617 99 106)) (pz 617 69 106)) (pz 617 11 107)) (pz 617 4 107))
 .s0))⟩
noncomputable def f891:Fd:=⟨["rows"],["rows","words","behind"],["numbers","at","number"],["sorted","enumerate","str","len","_law_line"],[],
 (.sc (.aTT (.tcons (.tl 1 (pz 619 4 9)) (.tcons (.tcl 0 (pz 619 11 18)) .t0)) 0 (.ac (.ks [120,114,101,102,10] 0 (pz 619 22 30)) (.ac (.vr (.bl 0 0 46 1 (.ac (.vl 0 (pz 619 39 43)) .a0) (pz 619 32 38) (pz 619 32 44))) .a0)) 0 (pz 619 4 18) (pz 619 21 45) (pz 619 4 45))
 (.sc (.sfe 1 61 12 (.tcons (.tcl 1 (pz 620 8 10)) (.tcons (.tcl 2 (pz 620 12 18)) .t0)) 0 (.vc 0 (pz 620 32 39)) (.sc (.sif (.tq .Or (.qc .Or (.tc .Eq (.vc 1 (pz 621 11 13)) (.ki 0 0 (pz 621 17 18)) (pz 621 11 18)) (.qc .Or (.tc .NotEq (.item (.vc 0 (pz 621 22 29)) (.bin .Sub (.vc 1 (pz 621 30 32)) (.ki 1 0 (pz 621 35 36)) (pz 621 30 36)) (pz 621 22 37)) (.bin .Sub (.vc 2 (pz 621 41 47)) (.ki 1 0 (pz 621 50 51)) (pz 621 41 51)) (pz 621 22 51)) (.q0 .Or))) (pz 621 11 51)) (.sc (.aK 2 (pz 622 12 18) [".0","one"] ["at","number","numbers"] [] [1,2,0] 1 ⟨.function,[(".0",.local),("one",.local),("at",.free),("number",.free),("numbers",.free)],false,false,[]⟩ (.vl 1 (pz 622 22 25)) (.f1 (.tc .Eq (.bin .Sub (.vl 1 (pz 622 53 56)) (.vc 1 (pz 622 59 65)) (pz 622 53 65)) (.bin .Sub (.vr (.me 2 (.vc 2 (pz 622 69 76)) (.ac (.vl 1 (pz 622 83 86)) .a0) (pz 622 69 82) (pz 622 69 87))) (.vc 0 (pz 622 90 92)) (pz 622 69 92)) (pz 622 53 92))) (.iv (.vr (.sl (.vc 0 (pz 622 37 44)) (.p1 (.vc 1 (pz 622 45 47))) .p0 (pz 622 45 48) (pz 622 37 49)))) (pz 622 30 33) (pz 622 21 93) (pz 622 12 93))
 (.sc (.aL 1 (.bin .Add (.bin .Add (.bin .Add (.bin .Add (.vl 1 (pz 623 20 25)) (.vr (.bl 6 2 75 4 (.ac (.vc 2 (pz 623 32 38)) .a0) (pz 623 28 31) (pz 623 28 39))) (pz 623 20 39)) (.ks [32] 0 (pz 623 42 45)) (pz 623 20 45)) (.vr (.bl 6 2 75 4 (.ac (.vr (.bl 1 3 33 0 (.ac (.vl 2 (pz 623 56 62)) .a0) (pz 623 52 55) (pz 623 52 63))) .a0) (pz 623 48 51) (pz 623 48 64))) (pz 623 20 64)) (.ks [10] 0 (pz 623 67 71)) (pz 623 20 71)) (pz 623 12 17) (pz 623 12 71))
 .s0)) .s0 ⟨621,8,623,71⟩)
 (.sc (.aL 1 (.bin .Add (.vl 1 (pz 624 16 21)) (.vr (.cf 886 4 87 (.ac (.item (.vl 0 (pz 624 34 38)) (.vc 2 (pz 624 39 45)) (pz 624 34 46)) .a0) (pz 624 24 33) (pz 624 24 47))) (pz 624 16 47)) (pz 624 8 13) (pz 624 8 47))
 .s0)) (pz 620 22 31) (pz 620 22 40) (pz 620 8 18) ⟨620,4,624,47⟩)
 (.sc (.re (.vl 1 (pz 625 11 16)) (pz 625 4 16))
 .s0)))⟩
noncomputable def f896:Fd:=⟨["objects","free","trailer","size","previous","begin"],["objects","free","size","previous","begin","words","rows","number","generation","value","at","kept","ends"],["trailer"],["sorted","len","str","_law_words","_law_table"],[],
 (.sc (.aW [5,6] (.tcons (.tl 5 (pz 627 4 9)) (.tcons (.tl 6 (pz 627 11 15)) .t0)) 0 (.ac (.ks [] 0 (pz 627 19 21)) (.ac (.pu (.d0 (pz 627 23 25))) .a0)) 0 (pz 627 4 15) (pz 627 18 26) (pz 627 4 26))
 (.sc (.sfo (.tl 7 (pz 628 8 14)) (.iv (.vr (.bl 0 0 46 1 (.ac (.vl 0 (pz 628 25 32)) .a0) (pz 628 18 24) (pz 628 18 33)))) (.sc (.aT (.tcons (.tl 8 (pz 629 8 18)) (.tcons (.tl 9 (pz 629 20 25)) .t0)) 0 (.item (.vl 0 (pz 629 28 35)) (.vl 7 (pz 629 36 42)) (pz 629 28 43)) (pz 629 8 25) (pz 629 8 43))
 (.sc (.aI (.vl 6 (pz 630 8 12)) (.vl 7 (pz 630 13 19)) (.tup (.ac (.ks [117,115,101,100] 0 (pz 630 24 30)) (.ac (.bin .Add (.vl 4 (pz 630 32 37)) (.vr (.bl 1 1 33 0 (.ac (.vl 5 (pz 630 44 49)) .a0) (pz 630 40 43) (pz 630 40 50))) (pz 630 32 50)) (.ac (.vl 8 (pz 630 52 62)) .a0))) 0 (pz 630 23 63)) (pz 630 8 20) (pz 630 8 63))
 (.sc (.aL 5 (.bin .Add (.bin .Add (.bin .Add (.bin .Add (.bin .Add (.bin .Add (.vl 5 (pz 631 16 21)) (.vr (.bl 6 2 75 4 (.ac (.vl 7 (pz 631 28 34)) .a0) (pz 631 24 27) (pz 631 24 35))) (pz 631 16 35)) (.ks [32] 0 (pz 631 38 41)) (pz 631 16 41)) (.vr (.bl 6 2 75 4 (.ac (.vl 8 (pz 631 48 58)) .a0) (pz 631 44 47) (pz 631 44 59))) (pz 631 16 59)) (.ks [32,111,98,106,10] 0 (pz 631 62 70)) (pz 631 16 70)) (.vr (.cf 879 3 86 (.ac (.vl 9 (pz 631 84 89)) .a0) (pz 631 73 83) (pz 631 73 90))) (pz 631 16 90)) (.ks [10,101,110,100,111,98,106,10] 0 (pz 631 93 105)) (pz 631 16 105)) (pz 631 8 13) (pz 631 8 105))
 .s0))) ⟨628,4,631,105⟩)
 (.sc (.aL 10 (.bin .Add (.vl 4 (pz 632 9 14)) (.vr (.bl 1 1 33 0 (.ac (.vl 5 (pz 632 21 26)) .a0) (pz 632 17 20) (pz 632 17 27))) (pz 632 9 27)) (pz 632 4 6) (pz 632 4 27))
 (.sc (.sfo (.tl 7 (pz 633 8 14)) (.iv (.vl 1 (pz 633 18 22))) (.sc (.aI (.vl 6 (pz 634 8 12)) (.vl 7 (pz 634 13 19)) (.item (.vl 1 (pz 634 23 27)) (.vl 7 (pz 634 28 34)) (pz 634 23 35)) (pz 634 8 20) (pz 634 8 35))
 .s0) ⟨633,4,634,35⟩)
 (.sc (.aK 11 (pz 635 4 8) [".0","key"] [] [] [] 1 ⟨.function,[(".0",.local),("key",.local)],false,false,[]⟩ (.vl 1 (pz 635 12 15)) (.f1 (.tc .NotIn (.vl 1 (pz 635 38 41)) (.tup (.ac (.ks [83,105,122,101] 0 (pz 635 50 56)) (.ac (.ks [80,114,101,118] 0 (pz 635 58 64)) (.ac (.ks [88,82,101,102,83,116,109] 0 (pz 635 66 75)) .a0))) 0 (pz 635 49 76)) (pz 635 38 76))) (.iv (.vc 0 (pz 635 27 34))) (pz 635 20 23) (pz 635 11 77) (pz 635 4 77))
 (.sc (.aL 12 (.vr (.me 5 (.ks [32] 0 (pz 636 11 14)) (.ac (.bin .Add (.fz (.cm [".0","key"] ["trailer"] [] [0] 1 ⟨.function,[(".0",.local),("key",.local),("trailer",.free)],false,false,[]⟩ (.bin .Add (.bin .Add (.bin .Add (.ks [47] 0 (pz 636 21 24)) (.vl 1 (pz 636 27 30)) (pz 636 21 30)) (.ks [32] 0 (pz 636 33 36)) (pz 636 21 36)) (.item (.vc 0 (pz 636 39 46)) (.vl 1 (pz 636 47 50)) (pz 636 39 51)) (pz 636 21 51)) .f0 (.iv (.vl 11 (pz 636 63 67))) (pz 636 56 59) (pz 636 20 68))) (.fz (.nl (.ac (.bin .Add (.ks [47,83,105,122,101,32] 0 (pz 636 72 80)) (.vr (.bl 6 2 75 4 (.ac (.vl 2 (pz 636 87 91)) .a0) (pz 636 83 86) (pz 636 83 92))) (pz 636 72 92)) (.ac (.bin .Add (.ks [47,80,114,101,118,32] 0 (pz 636 94 102)) (.vr (.bl 6 2 75 4 (.ac (.vl 3 (pz 636 109 117)) .a0) (pz 636 105 108) (pz 636 105 118))) (pz 636 94 118)) .a0)) (pz 636 71 119))) (pz 636 20 119)) .a0) (pz 636 11 19) (pz 636 11 120))) (pz 636 4 8) (pz 636 4 120))
 (.fr [(0,6,[])] (.sc (.aL 5 (.bin .Add (.bin .Add (.bin .Add (.bin .Add (.vl 5 (pz 637 12 17)) (.vr (.cf 891 4 88 (.ac (.vl 6 (pz 637 31 35)) .a0) (pz 637 20 30) (pz 637 20 36))) (pz 637 12 36)) (.ks [116,114,97,105,108,101,114,10,60,60,32] 0 (pz 637 39 53)) (pz 637 12 53)) (.vl 12 (pz 637 56 60)) (pz 637 12 60)) (.ks [32,62,62,10] 0 (pz 637 63 70)) (pz 637 12 70)) (pz 637 4 9) (pz 637 4 70))
 (.sc (.re (.vr (.me 7 (.bin .Add (.bin .Add (.bin .Add (.vl 5 (pz 638 12 17)) (.ks [115,116,97,114,116,120,114,101,102,10] 0 (pz 638 20 33)) (pz 638 12 33)) (.vr (.bl 6 2 75 4 (.ac (.vl 10 (pz 638 40 42)) .a0) (pz 638 36 39) (pz 638 36 43))) (pz 638 12 43)) (.ks [10,37,37,69,79,70,10] 0 (pz 638 46 57)) (pz 638 12 57)) (.ac (.ks [97,115,99,105,105] 0 (pz 638 66 73)) .a0) (pz 638 11 65) (pz 638 11 74))) (pz 638 4 74))
 .s0)))))))))⟩
noncomputable def f901:Fd:=⟨["pen"],["pen","changes","turn","number","value","generation","size","line","free","at","trailer","words","key","previous","begin","due"],["objects","gone","spare"],["Changes","range","_law_draw","_law_value","max","dict","sorted","enumerate","Reference","Name","_law_due","classic_section"],[],
 (.sc (.aTT (.tcons (.tl 1 (pz 640 4 11)) (.tcons (.tcl 0 (pz 640 13 20)) .t0)) 0 (.ac (.mkL 818 747 0 77 (.ac (.fz (.d0 (pz 640 32 34))) (.ac (.ki 1 0 (pz 640 36 37)) .a0)) (pz 640 24 31) (pz 640 24 38)) (.ac (.pu (.d0 (pz 640 40 42))) .a0)) 0 (pz 640 4 20) (pz 640 23 43) (pz 640 4 43))
 (.sc (.sfo (.tl 2 (pz 641 8 12)) (.ir1 1 70 11 (.bin .Add (.ki 1 0 (pz 641 22 23)) (.vr (.cf 869 2 84 (.ac (.vl 0 (pz 641 36 39)) (.ac (.ki 3 0 (pz 641 41 42)) .a0)) (pz 641 26 35) (pz 641 26 43))) (pz 641 22 43)) (pz 641 16 21) (pz 641 16 44)) (.sc (.aW [3,4] (.tcons (.tl 3 (pz 642 8 14)) (.tcons (.tl 4 (pz 642 16 21)) .t0)) 0 (.ac (.bin .Add (.ki 1 0 (pz 642 25 26)) (.vr (.cf 869 2 84 (.ac (.vl 0 (pz 642 39 42)) (.ac (.ki 4 0 (pz 642 44 45)) .a0)) (pz 642 29 38) (pz 642 29 46))) (pz 642 25 46)) (.ac (.vr (.cf 874 3 85 (.ac (.vl 0 (pz 642 59 62)) .a0) (pz 642 48 58) (pz 642 48 63))) .a0)) 0 (pz 642 8 21) (pz 642 24 64) (pz 642 8 64))
 (.sc (.aL 5 (.item (.fz (.nl (.ac (.ki 0 0 (pz 643 22 23)) (.ac (.ki 0 0 (pz 643 25 26)) (.ac (.ki 3 0 (pz 643 28 29)) (.ac (.ki 65535 0 (pz 643 31 36)) .a0)))) (pz 643 21 37))) (.vr (.cf 869 2 84 (.ac (.vl 0 (pz 643 48 51)) (.ac (.ki 4 0 (pz 643 53 54)) .a0)) (pz 643 38 47) (pz 643 38 55))) (pz 643 21 56)) (pz 643 8 18) (pz 643 8 56))
 (.sc (.ex (.vr (.ct 818 [108,97,121] 780 (.vl 1 (pz 644 8 15)) (.ac (.vl 3 (pz 644 20 26)) (.ac (.vl 5 (pz 644 28 38)) (.ac (.vl 4 (pz 644 40 45)) .a0))) (pz 644 8 19) (pz 644 8 46))) (pz 644 8 46))
 (.sc (.aI (.vc 0 (pz 645 8 15)) (.vl 3 (pz 645 16 22)) (.tup (.ac (.vl 5 (pz 645 27 37)) (.ac (.vl 4 (pz 645 39 44)) .a0)) 0 (pz 645 26 45)) (pz 645 8 23) (pz 645 8 45))
 .s0)))) ⟨641,4,645,45⟩)
 (.sc (.aTT (.tcons (.tl 6 (pz 646 4 8)) (.tcons (.tcl 1 (pz 646 10 14)) .t0)) 0 (.ac (.bin .Add (.vr (.bl 2 4 35 2 (.ac (.vc 0 (pz 646 22 29)) .a0) (pz 646 18 21) (pz 646 18 30))) (.ki 1 0 (pz 646 33 34)) (pz 646 18 34)) (.ac (.neg (.ki 1 0 (pz 646 37 38)) (pz 646 36 38)) .a0)) 0 (pz 646 4 14) (pz 646 17 39) (pz 646 4 39))
 (.sc (.aC 2 (.nr (.bl 12 5 60 8 (.ac (.fz (.cm [".0","number"] ["objects"] [] [0] 1 ⟨.function,[(".0",.local),("number",.local),("objects",.free)],false,false,[]⟩ (.tup (.ac (.vl 1 (pz 647 19 25)) (.ac (.ki 0 0 (pz 647 27 28)) .a0)) 0 (pz 647 18 29)) (.f1 (.tc .NotIn (.vl 1 (pz 647 62 68)) (.vc 0 (pz 647 76 83)) (pz 647 62 83))) (.ir2 1 70 11 (.ki 1 0 (pz 647 50 51)) (.vl 6 (pz 647 53 57)) (pz 647 44 49) (pz 647 44 58)) (pz 647 34 40) (pz 647 17 84))) .a0) (pz 647 12 16) (pz 647 12 85))) (pz 647 4 9) (pz 647 4 85))
 (.sc (.sif (.tc .Eq (.vr (.cf 869 2 84 (.ac (.vl 0 (pz 648 17 20)) (.ac (.ki 3 0 (pz 648 22 23)) .a0)) (pz 648 7 16) (pz 648 7 24))) (.ki 0 0 (pz 648 28 29)) (pz 648 7 29)) (.sc (.aC 1 (.item (.vr (.bl 0 6 46 1 (.ac (.vc 0 (pz 649 22 29)) .a0) (pz 649 15 21) (pz 649 15 30))) (.ki 0 0 (pz 649 31 32)) (pz 649 15 33)) (pz 649 8 12) (pz 649 8 33))
 (.sc (.ex (.vr (.ct 818 [102,114,101,101] 801 (.vl 1 (pz 650 8 15)) (.ac (.vc 1 (pz 650 21 25)) .a0) (pz 650 8 20) (pz 650 8 26))) (pz 650 8 26))
 (.sc (.aI (.vc 2 (pz 651 8 13)) (.vc 1 (pz 651 14 18)) (.bin .Add (.item (.item (.vc 0 (pz 651 22 29)) (.vc 1 (pz 651 30 34)) (pz 651 22 35)) (.ki 0 0 (pz 651 36 37)) (pz 651 22 38)) (.ki 1 0 (pz 651 41 42)) (pz 651 22 42)) (pz 651 8 19) (pz 651 8 42))
 (.fr [(1,0,[])] (.sc (.aC 0 (.vr (.bl 12 5 60 8 (.ac (.fz (.cm [".0","one"] ["gone","objects"] [] [1,0] 1 ⟨.function,[(".0",.local),("one",.local),("gone",.free),("objects",.free)],false,false,[]⟩ (.tup (.ac (.vl 1 (pz 652 25 28)) (.ac (.item (.vc 1 (pz 652 30 37)) (.vl 1 (pz 652 38 41)) (pz 652 30 42)) .a0)) 0 (pz 652 24 43)) (.f1 (.tc .NotEq (.vl 1 (pz 652 66 69)) (.vc 0 (pz 652 73 77)) (pz 652 66 77))) (.iv (.vc 0 (pz 652 55 62))) (pz 652 48 51) (pz 652 23 78))) .a0) (pz 652 18 22) (pz 652 18 79))) (pz 652 8 15) (pz 652 8 79))
 .s0))))) .s0 ⟨648,4,652,79⟩)
 (.sc (.aW [7,8] (.tcons (.tl 7 (pz 653 4 8)) (.tcons (.tl 8 (pz 653 10 14)) .t0)) 0 (.ac (.bin .Add (.fz (.nl (.ac (.ki 0 0 (pz 653 19 20)) .a0) (pz 653 18 21))) (.fz (.cm [".0","number"] ["spare"] [] [2] 1 ⟨.function,[(".0",.local),("number",.local),("spare",.free)],false,false,[]⟩ (.vl 1 (pz 653 25 31)) (.f1 (.tc .Lt (.item (.vc 0 (pz 653 63 68)) (.vl 1 (pz 653 69 75)) (pz 653 63 76)) (.ki 65535 0 (pz 653 79 84)) (pz 653 63 84))) (.iv (.vr (.bl 0 6 46 1 (.ac (.vc 2 (pz 653 53 58)) .a0) (pz 653 46 52) (pz 653 46 59)))) (pz 653 36 42) (pz 653 24 85))) (pz 653 18 85)) (.ac (.pu (.d0 (pz 653 87 89))) .a0)) 0 (pz 653 4 14) (pz 653 17 90) (pz 653 4 90))
 (.sc (.sfe 7 61 12 (.tcons (.tl 9 (pz 654 8 10)) (.tcons (.tl 3 (pz 654 12 18)) .t0)) 0 (.vl 7 (pz 654 32 36)) (.sc (.aI (.vl 8 (pz 655 8 12)) (.vl 3 (pz 655 13 19)) (.tup (.ac (.ks [102,114,101,101] 0 (pz 655 24 30)) (.ac (.item (.bin .Add (.vl 7 (pz 655 33 37)) (.fz (.nl (.ac (.ki 0 0 (pz 655 41 42)) .a0) (pz 655 40 43))) (pz 655 33 43)) (.bin .Add (.vl 9 (pz 655 45 47)) (.ki 1 0 (pz 655 50 51)) (pz 655 45 51)) (pz 655 32 52)) (.ac (.ife (.tc .Eq (.vl 3 (pz 655 63 69)) (.ki 0 0 (pz 655 73 74)) (pz 655 63 74)) (.ki 65535 0 (pz 655 54 59)) (.item (.vc 2 (pz 655 80 85)) (.vl 3 (pz 655 86 92)) (pz 655 80 93)) (pz 655 54 93)) .a0))) 0 (pz 655 23 94)) (pz 655 8 20) (pz 655 8 94))
 .s0) (pz 654 22 31) (pz 654 22 37) (pz 654 8 18) ⟨654,4,655,94⟩)
 (.sc (.sif (.tq .And (.qc .And (.tc .Gt (.vc 1 (pz 656 7 11)) (.ki 0 0 (pz 656 14 15)) (pz 656 7 15)) (.qc .And (.tc .GtE (.item (.vc 2 (pz 656 20 25)) (.vc 1 (pz 656 26 30)) (pz 656 20 31)) (.ki 65535 0 (pz 656 35 40)) (pz 656 20 40)) (.q0 .And))) (pz 656 7 40)) (.sc (.aI (.vl 8 (pz 657 8 12)) (.vc 1 (pz 657 13 17)) (.tup (.ac (.ks [102,114,101,101] 0 (pz 657 22 28)) (.ac (.ki 0 0 (pz 657 30 31)) (.ac (.ki 65535 0 (pz 657 33 38)) .a0))) 0 (pz 657 21 39)) (pz 657 8 18) (pz 657 8 39))
 .s0) .s0 ⟨656,4,657,39⟩)
 (.sc (.aW [10,11] (.tcons (.tl 10 (pz 658 4 11)) (.tcons (.tl 11 (pz 658 13 18)) .t0)) 0 (.ac (.pu (.d1 (.ks [82,111,111,116] 0 (pz 658 23 29)) (.mkT 389 379 8 27 (.ac (.ki 1 0 (pz 658 41 42)) (.ac (.ki 0 0 (pz 658 44 45)) .a0)) (pz 658 31 40) (pz 658 31 46)) (pz 658 22 47))) (.ac (.pu (.d1 (.ks [82,111,111,116] 0 (pz 658 50 56)) (.ks [49,32,48,32,82] 0 (pz 658 58 65)) (pz 658 49 66))) .a0)) 0 (pz 658 4 18) (pz 658 21 67) (pz 658 4 67))
 (.sc (.sfo (.tl 12 (pz 659 8 11)) (.iv (.tup (.ac (.ks [83,105,122,101] 0 (pz 659 16 22)) (.ac (.ks [80,114,101,118] 0 (pz 659 24 30)) (.ac (.ks [73,110,102,111] 0 (pz 659 32 38)) (.ac (.ks [88,82,101,102,83,116,109] 0 (pz 659 40 49)) .a0)))) 0 (pz 659 15 50))) (.sc (.sif (.tc .Eq (.vr (.cf 869 2 84 (.ac (.vl 0 (pz 660 21 24)) (.ac (.ki 2 0 (pz 660 26 27)) .a0)) (pz 660 11 20) (pz 660 11 28))) (.ki 0 0 (pz 660 32 33)) (pz 660 11 33)) (.sc (.aTT (.tcons (.ti (.vl 10 (pz 661 12 19)) (.vl 12 (pz 661 20 23)) (pz 661 12 24)) (.tcons (.ti (.vl 11 (pz 661 26 31)) (.vl 12 (pz 661 32 35)) (pz 661 26 36)) .t0)) 0 (.ac (.mkT 318 315 9 24 (.ac (.ks [97] 0 (pz 661 45 48)) .a0) (pz 661 40 44) (pz 661 40 49)) (.ac (.ks [47,97] 0 (pz 661 51 55)) .a0)) 0 (pz 661 12 36) (pz 661 39 56) (pz 661 12 56))
 .s0) .s0 ⟨660,8,661,56⟩)
 .s0) ⟨659,4,661,56⟩)
 (.sc (.aW [13,14] (.tcons (.tl 13 (pz 662 4 12)) (.tcons (.tl 14 (pz 662 14 19)) .t0)) 0 (.ac (.vr (.cf 869 2 84 (.ac (.vl 0 (pz 662 33 36)) (.ac (.ki 500 0 (pz 662 38 41)) .a0)) (pz 662 23 32) (pz 662 23 42))) (.ac (.vr (.cf 869 2 84 (.ac (.vl 0 (pz 662 54 57)) (.ac (.ki 1000 0 (pz 662 59 63)) .a0)) (pz 662 44 53) (pz 662 44 64))) .a0)) 0 (pz 662 4 19) (pz 662 22 65) (pz 662 4 65))
 (.fr [(0,8,[]),(0,11,[]),(1,0,[]),(1,2,[])] (.sc (.aL 15 (.vr (.cf 896 10 89 (.ac (.vc 0 (pz 663 19 26)) (.ac (.ife (.tc .NotEq (.vc 2 (pz 663 36 41)) (.fz (.d0 (pz 663 45 47))) (pz 663 36 47)) (.vl 8 (pz 663 28 32)) (.fz (.d0 (pz 663 53 55))) (pz 663 28 55)) (.ac (.vl 11 (pz 663 57 62)) (.ac (.vl 6 (pz 663 64 68)) (.ac (.vl 13 (pz 663 70 78)) (.ac (.vl 14 (pz 663 80 85)) .a0)))))) (pz 663 10 18) (pz 663 10 86))) (pz 663 4 7) (pz 663 4 86))
 (.fr [(0,10,[]),(0,1,[[117,115,101,100]]),(0,1,[[115,112,97,114,101]]),(0,1,[[111,98,106,101,99,116,115]]),(0,1,[[102,114,101,101,100]])] (.sc (.re (.cmp .Eq (.vr (.cf 848 11 81 (.ac (.vl 1 (pz 664 27 34)) (.ac (.vl 10 (pz 664 36 43)) (.ac (.vl 13 (pz 664 45 53)) (.ac (.vl 14 (pz 664 55 60)) .a0)))) (pz 664 11 26) (pz 664 11 61))) (.vl 15 (pz 664 65 68)) (pz 664 11 68)) (pz 664 4 68))
 .s0)))))))))))))))⟩
noncomputable def f908:Fd:=⟨["pen"],["pen","front","end","behind","data","more"],[],["_law_draw","len","mark_end","lead_of"],[],
 (.sc (.aL 1 (.bin .Add (.bin .Mult (.kb [120] 0 (pz 666 12 16)) (.vr (.cf 869 0 84 (.ac (.vl 0 (pz 666 29 32)) (.ac (.ki 4 0 (pz 666 34 35)) .a0)) (pz 666 19 28) (pz 666 19 36))) (pz 666 12 36)) (.item (.fz (.nl (.ac (.kb [] 0 (pz 666 40 43)) (.ac (.kb [37,37,69,79] 0 (pz 666 45 52)) (.ac (.kb [37,69,79,70,10] 0 (pz 666 54 63)) (.ac (.kb [37,37,101,111,102] 0 (pz 666 65 73)) .a0)))) (pz 666 39 74))) (.vr (.cf 869 0 84 (.ac (.vl 0 (pz 666 85 88)) (.ac (.ki 4 0 (pz 666 90 91)) .a0)) (pz 666 75 84) (pz 666 75 92))) (pz 666 39 93)) (pz 666 12 93)) (pz 666 4 9) (pz 666 4 93))
 (.sc (.aL 2 (.item (.fz (.nl (.ac (.kb [] 0 (pz 667 11 14)) (.ac (.kb [10] 0 (pz 667 16 21)) (.ac (.kb [13] 0 (pz 667 23 28)) (.ac (.kb [13,10] 0 (pz 667 30 37)) (.ac (.kb [32,10] 0 (pz 667 39 45)) .a0))))) (pz 667 10 46))) (.vr (.cf 869 0 84 (.ac (.vl 0 (pz 667 57 60)) (.ac (.ki 5 0 (pz 667 62 63)) .a0)) (pz 667 47 56) (pz 667 47 64))) (pz 667 10 65)) (pz 667 4 7) (pz 667 4 65))
 (.sc (.aL 3 (.item (.fz (.nl (.ac (.kb [] 0 (pz 668 14 17)) (.ac (.kb [122,37,37,69,79,70] 0 (pz 668 19 28)) (.ac (.kb [122,10] 0 (pz 668 30 36)) .a0))) (pz 668 13 37))) (.vr (.cf 869 0 84 (.ac (.vl 0 (pz 668 48 51)) (.ac (.ki 3 0 (pz 668 53 54)) .a0)) (pz 668 38 47) (pz 668 38 55))) (pz 668 13 56)) (pz 668 4 10) (pz 668 4 56))
 (.sc (.aW [4,5] (.tcons (.tl 4 (pz 669 4 8)) (.tcons (.tl 5 (pz 669 10 14)) .t0)) 0 (.ac (.bin .Add (.bin .Add (.bin .Add (.vl 1 (pz 669 18 23)) (.kb [37,37,69,79,70] 0 (pz 669 26 34)) (pz 669 18 34)) (.vl 2 (pz 669 37 40)) (pz 669 18 40)) (.vl 3 (pz 669 43 49)) (pz 669 18 49)) (.ac (.ife (.tc .NotEq (.vl 2 (pz 669 63 66)) (.kb [32,10] 0 (pz 669 70 76)) (pz 669 63 76)) (.vr (.bl 1 1 33 0 (.ac (.vl 2 (pz 669 55 58)) .a0) (pz 669 51 54) (pz 669 51 59))) (.ki 0 0 (pz 669 82 83)) (pz 669 51 83)) .a0)) 0 (pz 669 4 14) (pz 669 17 84) (pz 669 4 84))
 (.sc (.sif (.tq .Or (.qc .Or (.tc .NotEq (.vr (.cf 855 2 82 (.ac (.vl 4 (pz 670 16 20)) (.ac (.ki 0 0 (pz 670 22 23)) .a0)) (pz 670 7 15) (pz 670 7 24))) (.bin .Add (.bin .Add (.vr (.bl 1 1 33 0 (.ac (.vl 1 (pz 670 32 37)) .a0) (pz 670 28 31) (pz 670 28 38))) (.ki 5 0 (pz 670 41 42)) (pz 670 28 42)) (.vl 5 (pz 670 45 49)) (pz 670 28 49)) (pz 670 7 49)) (.qc .Or (.tc .NotEq (.vr (.cf 855 2 82 (.ac (.vl 4 (pz 670 62 66)) (.ac (.vr (.bl 1 1 33 0 (.ac (.vl 1 (pz 670 72 77)) .a0) (pz 670 68 71) (pz 670 68 78))) .a0)) (pz 670 53 61) (pz 670 53 79))) (.bin .Add (.bin .Add (.vr (.bl 1 1 33 0 (.ac (.vl 1 (pz 670 87 92)) .a0) (pz 670 83 86) (pz 670 83 93))) (.ki 5 0 (pz 670 96 97)) (pz 670 83 97)) (.vl 5 (pz 670 100 104)) (pz 670 83 104)) (pz 670 53 104)) (.q0 .Or))) (pz 670 7 104)) (.sc (.re (.kt false 0 (pz 671 15 20)) (pz 671 8 20))
 .s0) .s0 ⟨670,4,671,20⟩)
 (.sc (.re (.bov .And (.wc .And (.cmp .Eq (.vr (.cf 829 3 78 (.ac (.vl 4 (pz 672 19 23)) .a0) (pz 672 11 18) (pz 672 11 24))) (.ife (.tc .In (.vr (.sl (.vl 4 (pz 672 36 40)) (.p1 (.neg (.ki 1 0 (pz 672 42 43)) (pz 672 41 43))) .p0 (pz 672 41 44) (pz 672 36 45))) (.tup (.ac (.kb [10] 0 (pz 672 50 55)) (.ac (.kb [13] 0 (pz 672 57 62)) .a0)) 0 (pz 672 49 63)) (pz 672 36 63)) (.kb [] 0 (pz 672 29 32)) (.kb [10] 0 (pz 672 69 74)) (pz 672 29 74)) (pz 672 11 75)) (.w1 .And (.cmp .Eq (.vr (.cf 829 3 78 (.ac (.kb [] 0 (pz 672 88 91)) .a0) (pz 672 80 87) (pz 672 80 92))) (.kb [10] 0 (pz 672 96 101)) (pz 672 80 101)))) (pz 672 11 101)) (pz 672 4 101))
 .s0))))))⟩
noncomputable def f913:Fd:=⟨["pen"],["pen","tables","rows","table","some"],["number"],["_law_draw","Name","changed_numbers","Shelf"],[],
 (.sc (.aW [1,2] (.tcons (.tl 1 (pz 674 4 10)) (.tcons (.tl 2 (pz 674 12 16)) .t0)) 0 (.ac (.lst (.ac (.pu (.d0 (pz 674 21 23))) (.ac (.pu (.d0 (pz 674 25 27))) .a0)) (pz 674 20 28)) (.ac (.pu (.nl .a0 (pz 674 30 32))) .a0)) 0 (pz 674 4 16) (pz 674 19 33) (pz 674 4 33))
 (.sc (.sfo (.tcl 0 (pz 675 8 14)) (.iv (.tup (.ac (.ki 5 0 (pz 675 19 20)) (.ac (.ki 1 0 (pz 675 22 23)) (.ac (.ki 12 0 (pz 675 25 27)) (.ac (.ki 3 0 (pz 675 29 30)) .a0)))) 0 (pz 675 18 31))) (.sc (.sfo (.tl 3 (pz 676 12 17)) (.iv (.vl 1 (pz 676 21 27))) (.sc (.sif (.tc .Gt (.vr (.cf 869 0 84 (.ac (.vl 0 (pz 677 25 28)) (.ac (.ki 3 0 (pz 677 30 31)) .a0)) (pz 677 15 24) (pz 677 15 32))) (.ki 0 0 (pz 677 35 36)) (pz 677 15 36)) (.sc (.aI (.vl 3 (pz 678 16 21)) (.vc 0 (pz 678 22 28)) (.tup (.ac (.vr (.cf 869 0 84 (.ac (.vl 0 (pz 678 43 46)) (.ac (.ki 2 0 (pz 678 48 49)) .a0)) (pz 678 33 42) (pz 678 33 50))) (.ac (.fz (.nl (.ac (.vr (.cf 869 0 84 (.ac (.vl 0 (pz 678 63 66)) (.ac (.ki 2 0 (pz 678 68 69)) .a0)) (pz 678 53 62) (pz 678 53 70))) (.ac (.mkT 318 315 1 24 (.ac (.item (.ks [97,98] 0 (pz 678 77 81)) (.vr (.cf 869 0 84 (.ac (.vl 0 (pz 678 92 95)) (.ac (.ki 2 0 (pz 678 97 98)) .a0)) (pz 678 82 91) (pz 678 82 99))) (pz 678 77 100)) .a0) (pz 678 72 76) (pz 678 72 101)) .a0)) (pz 678 52 102))) .a0)) 0 (pz 678 32 103)) (pz 678 16 29) (pz 678 16 103))
 .s0) .s0 ⟨677,12,678,103⟩)
 .s0) ⟨676,8,678,103⟩)
 .s0) ⟨675,4,678,103⟩)
 (.fr [(0,1,[])] (.sc (.sfo (.tcl 0 (pz 679 8 14)) (.iv (.tup (.ac (.ki 1 0 (pz 679 19 20)) (.ac (.ki 3 0 (pz 679 22 23)) (.ac (.ki 5 0 (pz 679 25 26)) (.ac (.ki 12 0 (pz 679 28 30)) .a0)))) 0 (pz 679 18 31))) (.sc (.aK 4 (pz 680 8 12) [".0","table"] ["number"] ["repr"] [0] 1 ⟨.function,[(".0",.local),("table",.local),("repr",.globalImplicit),("number",.free)],false,false,[]⟩ (.ife (.tc .In (.vc 0 (pz 680 91 97)) (.vl 1 (pz 680 101 106)) (pz 680 91 106)) (.vr (.bl 13 0 43 17 (.ac (.tup (.ac (.item (.item (.vl 1 (pz 680 22 27)) (.vc 0 (pz 680 28 34)) (pz 680 22 35)) (.ki 0 0 (pz 680 36 37)) (pz 680 22 38)) (.ac (.item (.item (.item (.vl 1 (pz 680 40 45)) (.vc 0 (pz 680 46 52)) (pz 680 40 53)) (.ki 1 0 (pz 680 54 55)) (pz 680 40 56)) (.ki 0 0 (pz 680 57 58)) (pz 680 40 59)) (.ac (.att (.item (.item (.item (.vl 1 (pz 680 61 66)) (.vc 0 (pz 680 67 73)) (pz 680 61 74)) (.ki 1 0 (pz 680 75 76)) (pz 680 61 77)) (.ki 1 0 (pz 680 78 79)) (pz 680 61 80)) [116,101,120,116] (pz 680 61 85)) .a0))) 0 (pz 680 21 86)) .a0) (pz 680 16 20) (pz 680 16 87))) (.ks [] 0 (pz 680 112 114)) (pz 680 16 114)) .f0 (.iv (.vl 1 (pz 680 128 134))) (pz 680 119 124) (pz 680 15 135) (pz 680 8 135))
 (.sc (.sif (.tc .NotEq (.item (.vl 4 (pz 681 11 15)) (.ki 0 0 (pz 681 16 17)) (pz 681 11 18)) (.item (.vl 4 (pz 681 22 26)) (.ki 1 0 (pz 681 27 28)) (pz 681 22 29)) (pz 681 11 29)) (.sc (.ex (.vr (.me 0 (.vl 2 (pz 682 12 16)) (.ac (.vc 0 (pz 682 24 30)) .a0) (pz 682 12 23) (pz 682 12 31))) (pz 682 12 31))
 .s0) .s0 ⟨681,8,682,31⟩)
 .s0)) ⟨679,4,682,31⟩)
 (.fr [(0,2,[])] (.sc (.re (.chn .Eq .Eq (.vr (.cf 862 2 83 (.ac (.mkT 515 444 3 36 (.ac (.item (.vl 1 (pz 683 33 39)) (.ki 0 0 (pz 683 40 41)) (pz 683 33 42)) .a0) (pz 683 27 32) (pz 683 27 43)) (.ac (.mkT 515 444 3 36 (.ac (.item (.vl 1 (pz 683 51 57)) (.ki 1 0 (pz 683 58 59)) (pz 683 51 60)) .a0) (pz 683 45 50) (pz 683 45 61)) .a0)) (pz 683 11 26) (pz 683 11 62))) (.vl 2 (pz 683 66 70)) (.vr (.cf 862 2 83 (.ac (.mkT 515 444 3 36 (.ac (.item (.vl 1 (pz 683 96 102)) (.ki 1 0 (pz 683 103 104)) (pz 683 96 105)) .a0) (pz 683 90 95) (pz 683 90 106)) (.ac (.mkT 515 444 3 36 (.ac (.item (.vl 1 (pz 683 114 120)) (.ki 0 0 (pz 683 121 122)) (pz 683 114 123)) .a0) (pz 683 108 113) (pz 683 108 124)) .a0)) (pz 683 74 89) (pz 683 74 125))) (pz 683 11 125)) (pz 683 4 125))
 .s0))))))⟩
noncomputable def f918:Fd:=⟨["script"],["script","cells","pen"],[],["sum","_law_section_right","_law_marks_right","_law_shelves_right"],[],
 (.sc (.aK 1 (pz 685 4 9) [".0","cell"] [] ["int"] [] 1 ⟨.function,[(".0",.local),("cell",.local),("int",.globalImplicit)],false,false,[]⟩ (.bin .Mod (.vr (.bl 7 0 66 15 (.ac (.vl 1 (pz 685 17 21)) .a0) (pz 685 13 16) (pz 685 13 22))) (.ki 1000003 0 (pz 685 25 32)) (pz 685 13 32)) .f0 (.iv (.vr (.sl (.vl 0 (pz 685 45 51)) .p0 (.p1 (.ki 60 0 (pz 685 53 55))) (pz 685 52 55) (pz 685 45 56)))) (pz 685 37 41) (pz 685 12 57) (pz 685 4 57))
 (.sc (.aL 2 (.pu (.nl (.ac (.vl 1 (pz 686 11 16)) (.ac (.ki 0 0 (pz 686 18 19)) (.ac (.bin .Mod (.vr (.bl 3 0 47 3 (.ac (.vl 1 (pz 686 25 30)) .a0) (pz 686 21 24) (pz 686 21 31))) (.ki 997 0 (pz 686 34 37)) (pz 686 21 37)) .a0))) (pz 686 10 38))) (pz 686 4 7) (pz 686 4 38))
 (.sc (.re (.bov .And (.wc .And (.vr (.cf 901 1 90 (.ac (.vl 2 (pz 687 30 33)) .a0) (pz 687 11 29) (pz 687 11 34))) (.wc .And (.vr (.cf 908 2 91 (.ac (.vl 2 (pz 687 56 59)) .a0) (pz 687 39 55) (pz 687 39 60))) (.w1 .And (.vr (.cf 913 3 92 (.ac (.vl 2 (pz 687 84 87)) .a0) (pz 687 65 83) (pz 687 65 88)))))) (pz 687 11 88)) (pz 687 4 88))
 .s0)))⟩
theorem kO{w:World}{f:Nat}{d:Fd}{st:Stmt}{n q:Str}{dd m:Value}{c:Addr}(a:∀ P,(objs P)[f]?=some (Mine.fnO st n q dd m (.ref c)))(b:∀ P,codeB P c q=true)(x:fcOkB (fnS st) d.ps d.ln d.cn d.gs=true∧(syn ⟨d.ln,d.cn,d.gs⟩ d.bd).ss=fnB st∧(kd d.bd == 9 && wf ⟨d.ln,d.cn,d.gs⟩ d.bd)=true)(y:PLift (Bnd w (fdOf st n q dd m (.ref c)) d.ps d.df)):FdOk w f d st n q dd m c:=⟨a _,b _,x.1,x.2.1,x.2.2,y.1⟩
theorem k82(w:World):FdOk w 82 f82 (top 11) "is_regular" "is_regular" (.none) (.str "paperhold.cursor" 268) 81:=kO (fun P=>by kernel_rfl) (fun P=>by kernel_rfl) ⟨by kernel_rfl,by kernel_rfl,by kernel_rfl⟩ ⟨bnd1 (fun a0=>by kernel_rfl)⟩
theorem k104(w:World):FdOk w 104 f104 (meth 13 0) "__init__" "Cursor.__init__" (.ref 97) (.str "paperhold.cursor" 268) 103:=kO (fun P=>by kernel_rfl) (fun P=>by kernel_rfl) ⟨by kernel_rfl,by kernel_rfl,by kernel_rfl⟩ ⟨bnd104⟩
theorem k119(w:World):FdOk w 119 f119 (meth 13 2) "peek" "Cursor.peek" (.ref 112) (.str "paperhold.cursor" 268) 118:=kO (fun P=>by kernel_rfl) (fun P=>by kernel_rfl) ⟨by kernel_rfl,by kernel_rfl,by kernel_rfl⟩ ⟨bnd119⟩
theorem k161(w:World):FdOk w 161 f161 (meth 13 8) "skip_line_end" "Cursor.skip_line_end" (.none) (.str "paperhold.cursor" 268) 160:=kO (fun P=>by kernel_rfl) (fun P=>by kernel_rfl) ⟨by kernel_rfl,by kernel_rfl,by kernel_rfl⟩ ⟨bnd1 (fun a0=>by kernel_rfl)⟩
theorem k315(w:World):FdOk w 315 f315 (meth 19 0) "__init__" "Name.__init__" (.none) (.str "paperhold.objects" 563) 314:=kO (fun P=>by kernel_rfl) (fun P=>by kernel_rfl) ⟨by kernel_rfl,by kernel_rfl,by kernel_rfl⟩ ⟨bnd2 (fun a0 a1=>by kernel_rfl)⟩
theorem k379(w:World):FdOk w 379 f379 (meth 22 0) "__init__" "Reference.__init__" (.none) (.str "paperhold.objects" 563) 378:=kO (fun P=>by kernel_rfl) (fun P=>by kernel_rfl) ⟨by kernel_rfl,by kernel_rfl,by kernel_rfl⟩ ⟨bnd3 (fun a0 a1 a2=>by kernel_rfl)⟩
theorem k400(w:World):FdOk w 400 f400 (top 23) "kind_of" "kind_of" (.none) (.str "paperhold.objects" 563) 399:=kO (fun P=>by kernel_rfl) (fun P=>by kernel_rfl) ⟨by kernel_rfl,by kernel_rfl,by kernel_rfl⟩ ⟨bnd1 (fun a0=>by kernel_rfl)⟩
theorem k407(w:World):FdOk w 407 f407 (top 24) "told_plain" "told_plain" (.none) (.str "paperhold.objects" 563) 406:=kO (fun P=>by kernel_rfl) (fun P=>by kernel_rfl) ⟨by kernel_rfl,by kernel_rfl,by kernel_rfl⟩ ⟨bnd2 (fun a0 a1=>by kernel_rfl)⟩
theorem k412(w:World):FdOk w 412 f412 (top 25) "told" "told" (.none) (.str "paperhold.objects" 563) 411:=kO (fun P=>by kernel_rfl) (fun P=>by kernel_rfl) ⟨by kernel_rfl,by kernel_rfl,by kernel_rfl⟩ ⟨bnd1 (fun a0=>by kernel_rfl)⟩
theorem k417(w:World):FdOk w 417 f417 (top 27) "copied" "copied" (.none) (.str "paperhold.objects" 563) 416:=kO (fun P=>by kernel_rfl) (fun P=>by kernel_rfl) ⟨by kernel_rfl,by kernel_rfl,by kernel_rfl⟩ ⟨bnd1 (fun a0=>by kernel_rfl)⟩
theorem k422(w:World):FdOk w 422 f422 (top 28) "parts_of" "parts_of" (.none) (.str "paperhold.objects" 563) 421:=kO (fun P=>by kernel_rfl) (fun P=>by kernel_rfl) ⟨by kernel_rfl,by kernel_rfl,by kernel_rfl⟩ ⟨bnd1 (fun a0=>by kernel_rfl)⟩
theorem k429(w:World):FdOk w 429 f429 (top 29) "depth_of" "depth_of" (.none) (.str "paperhold.objects" 563) 428:=kO (fun P=>by kernel_rfl) (fun P=>by kernel_rfl) ⟨by kernel_rfl,by kernel_rfl,by kernel_rfl⟩ ⟨bnd1 (fun a0=>by kernel_rfl)⟩
theorem k444(w:World):FdOk w 444 f444 (meth 30 0) "__init__" "Lookup.__init__" (.ref 437) (.str "paperhold.objects" 563) 443:=kO (fun P=>by kernel_rfl) (fun P=>by kernel_rfl) ⟨by kernel_rfl,by kernel_rfl,by kernel_rfl⟩ ⟨bnd444⟩
theorem k500(w:World):FdOk w 500 f500 (meth 31 3) "numbers" "Shelf.numbers" (.none) (.str "paperhold.objects" 563) 499:=kO (fun P=>by kernel_rfl) (fun P=>by kernel_rfl) ⟨by kernel_rfl,by kernel_rfl,by kernel_rfl⟩ ⟨bnd1 (fun a0=>by kernel_rfl)⟩
theorem k522(w:World):FdOk w 522 f522 (top 41) "text_octets" "text_octets" (.none) (.str "paperhold.writer" 856) 521:=kO (fun P=>by kernel_rfl) (fun P=>by kernel_rfl) ⟨by kernel_rfl,by kernel_rfl,by kernel_rfl⟩ ⟨bnd1 (fun a0=>by kernel_rfl)⟩
theorem k536(w:World):FdOk w 536 f536 (top 43) "name_octets" "name_octets" (.none) (.str "paperhold.writer" 856) 535:=kO (fun P=>by kernel_rfl) (fun P=>by kernel_rfl) ⟨by kernel_rfl,by kernel_rfl,by kernel_rfl⟩ ⟨bnd1 (fun a0=>by kernel_rfl)⟩
theorem k543(w:World):FdOk w 543 f543 (top 44) "whole_octets" "whole_octets" (.none) (.str "paperhold.writer" 856) 542:=kO (fun P=>by kernel_rfl) (fun P=>by kernel_rfl) ⟨by kernel_rfl,by kernel_rfl,by kernel_rfl⟩ ⟨bnd1 (fun a0=>by kernel_rfl)⟩
theorem k583(w:World):FdOk w 583 f583 (top 50) "plain_part" "plain_part" (.none) (.str "paperhold.writer" 856) 582:=kO (fun P=>by kernel_rfl) (fun P=>by kernel_rfl) ⟨by kernel_rfl,by kernel_rfl,by kernel_rfl⟩ ⟨bnd3 (fun a0 a1 a2=>by kernel_rfl)⟩
theorem k590(w:World):FdOk w 590 f590 (top 51) "lay_reference" "lay_reference" (.none) (.str "paperhold.writer" 856) 589:=kO (fun P=>by kernel_rfl) (fun P=>by kernel_rfl) ⟨by kernel_rfl,by kernel_rfl,by kernel_rfl⟩ ⟨bnd2 (fun a0 a1=>by kernel_rfl)⟩
theorem k597(w:World):FdOk w 597 f597 (top 52) "lay_dict" "lay_dict" (.none) (.str "paperhold.writer" 856) 596:=kO (fun P=>by kernel_rfl) (fun P=>by kernel_rfl) ⟨by kernel_rfl,by kernel_rfl,by kernel_rfl⟩ ⟨bnd3 (fun a0 a1 a2=>by kernel_rfl)⟩
theorem k604(w:World):FdOk w 604 f604 (top 53) "lay_parts" "lay_parts" (.none) (.str "paperhold.writer" 856) 603:=kO (fun P=>by kernel_rfl) (fun P=>by kernel_rfl) ⟨by kernel_rfl,by kernel_rfl,by kernel_rfl⟩ ⟨bnd3 (fun a0 a1 a2=>by kernel_rfl)⟩
theorem k618(w:World):FdOk w 618 f618 (top 55) "joined_parts" "joined_parts" (.none) (.str "paperhold.writer" 856) 617:=kO (fun P=>by kernel_rfl) (fun P=>by kernel_rfl) ⟨by kernel_rfl,by kernel_rfl,by kernel_rfl⟩ ⟨bnd2 (fun a0 a1=>by kernel_rfl)⟩
theorem k632(w:World):FdOk w 632 f632 (top 57) "write_object" "write_object" (.none) (.str "paperhold.writer" 856) 631:=kO (fun P=>by kernel_rfl) (fun P=>by kernel_rfl) ⟨by kernel_rfl,by kernel_rfl,by kernel_rfl⟩ ⟨bnd2 (fun a0 a1=>by kernel_rfl)⟩
theorem k639(w:World):FdOk w 639 f639 (top 58) "write_indirect" "write_indirect" (.none) (.str "paperhold.writer" 856) 638:=kO (fun P=>by kernel_rfl) (fun P=>by kernel_rfl) ⟨by kernel_rfl,by kernel_rfl,by kernel_rfl⟩ ⟨bnd4 (fun a0 a1 a2 a3=>by kernel_rfl)⟩
theorem k653(w:World):FdOk w 653 f653 (meth 62 0) "__init__" "Entry.__init__" (.none) (.str "paperhold.cross" 1036) 652:=kO (fun P=>by kernel_rfl) (fun P=>by kernel_rfl) ⟨by kernel_rfl,by kernel_rfl,by kernel_rfl⟩ ⟨bnd4 (fun a0 a1 a2 a3=>by kernel_rfl)⟩
theorem k674(w:World):FdOk w 674 f674 (top 63) "runs_of" "runs_of" (.none) (.str "paperhold.cross" 1036) 673:=kO (fun P=>by kernel_rfl) (fun P=>by kernel_rfl) ⟨by kernel_rfl,by kernel_rfl,by kernel_rfl⟩ ⟨bnd1 (fun a0=>by kernel_rfl)⟩
theorem k681(w:World):FdOk w 681 f681 (top 64) "figures" "figures" (.none) (.str "paperhold.cross" 1036) 680:=kO (fun P=>by kernel_rfl) (fun P=>by kernel_rfl) ⟨by kernel_rfl,by kernel_rfl,by kernel_rfl⟩ ⟨bnd2 (fun a0 a1=>by kernel_rfl)⟩
theorem k688(w:World):FdOk w 688 f688 (top 65) "entry_line" "entry_line" (.none) (.str "paperhold.cross" 1036) 687:=kO (fun P=>by kernel_rfl) (fun P=>by kernel_rfl) ⟨by kernel_rfl,by kernel_rfl,by kernel_rfl⟩ ⟨bnd1 (fun a0=>by kernel_rfl)⟩
theorem k695(w:World):FdOk w 695 f695 (top 66) "write_classic" "write_classic" (.none) (.str "paperhold.cross" 1036) 694:=kO (fun P=>by kernel_rfl) (fun P=>by kernel_rfl) ⟨by kernel_rfl,by kernel_rfl,by kernel_rfl⟩ ⟨bnd2 (fun a0 a1=>by kernel_rfl)⟩
theorem k700(w:World):FdOk w 700 f700 (top 67) "free_chain" "free_chain" (.none) (.str "paperhold.cross" 1036) 699:=kO (fun P=>by kernel_rfl) (fun P=>by kernel_rfl) ⟨by kernel_rfl,by kernel_rfl,by kernel_rfl⟩ ⟨bnd2 (fun a0 a1=>by kernel_rfl)⟩
theorem k707(w:World):FdOk w 707 f707 (top 68) "tail" "tail" (.none) (.str "paperhold.cross" 1036) 706:=kO (fun P=>by kernel_rfl) (fun P=>by kernel_rfl) ⟨by kernel_rfl,by kernel_rfl,by kernel_rfl⟩ ⟨bnd1 (fun a0=>by kernel_rfl)⟩
theorem k714(w:World):FdOk w 714 f714 (top 71) "next_generations" "next_generations" (.none) (.str "paperhold.revisions" 1131) 713:=kO (fun P=>by kernel_rfl) (fun P=>by kernel_rfl) ⟨by kernel_rfl,by kernel_rfl,by kernel_rfl⟩ ⟨bnd2 (fun a0 a1=>by kernel_rfl)⟩
theorem k721(w:World):FdOk w 721 f721 (top 72) "generations_used" "generations_used" (.none) (.str "paperhold.revisions" 1131) 720:=kO (fun P=>by kernel_rfl) (fun P=>by kernel_rfl) ⟨by kernel_rfl,by kernel_rfl,by kernel_rfl⟩ ⟨bnd1 (fun a0=>by kernel_rfl)⟩
theorem k728(w:World):FdOk w 728 f728 (top 73) "holders_of" "holders_of" (.none) (.str "paperhold.revisions" 1131) 727:=kO (fun P=>by kernel_rfl) (fun P=>by kernel_rfl) ⟨by kernel_rfl,by kernel_rfl,by kernel_rfl⟩ ⟨bnd1 (fun a0=>by kernel_rfl)⟩
theorem k733(w:World):FdOk w 733 f733 (top 74) "free_entries" "free_entries" (.none) (.str "paperhold.revisions" 1131) 732:=kO (fun P=>by kernel_rfl) (fun P=>by kernel_rfl) ⟨by kernel_rfl,by kernel_rfl,by kernel_rfl⟩ ⟨bnd1 (fun a0=>by kernel_rfl)⟩
theorem k747(w:World):FdOk w 747 f747 (meth 75 0) "__init__" "Changes.__init__" (.none) (.str "paperhold.revisions" 1131) 746:=kO (fun P=>by kernel_rfl) (fun P=>by kernel_rfl) ⟨by kernel_rfl,by kernel_rfl,by kernel_rfl⟩ ⟨bnd3 (fun a0 a1 a2=>by kernel_rfl)⟩
theorem k759(w:World):FdOk w 759 f759 (meth 75 2) "size" "Changes.size" (.none) (.str "paperhold.revisions" 1131) 758:=kO (fun P=>by kernel_rfl) (fun P=>by kernel_rfl) ⟨by kernel_rfl,by kernel_rfl,by kernel_rfl⟩ ⟨bnd1 (fun a0=>by kernel_rfl)⟩
theorem k773(w:World):FdOk w 773 f773 (meth 75 4) "need_no_holder" "Changes.need_no_holder" (.none) (.str "paperhold.revisions" 1131) 772:=kO (fun P=>by kernel_rfl) (fun P=>by kernel_rfl) ⟨by kernel_rfl,by kernel_rfl,by kernel_rfl⟩ ⟨bnd2 (fun a0 a1=>by kernel_rfl)⟩
theorem k780(w:World):FdOk w 780 f780 (meth 75 5) "lay" "Changes.lay" (.none) (.str "paperhold.revisions" 1131) 779:=kO (fun P=>by kernel_rfl) (fun P=>by kernel_rfl) ⟨by kernel_rfl,by kernel_rfl,by kernel_rfl⟩ ⟨bnd4 (fun a0 a1 a2 a3=>by kernel_rfl)⟩
theorem k801(w:World):FdOk w 801 f801 (meth 75 8) "free" "Changes.free" (.none) (.str "paperhold.revisions" 1131) 800:=kO (fun P=>by kernel_rfl) (fun P=>by kernel_rfl) ⟨by kernel_rfl,by kernel_rfl,by kernel_rfl⟩ ⟨bnd2 (fun a0 a1=>by kernel_rfl)⟩
theorem k815(w:World):FdOk w 815 f815 (meth 75 10) "new_entries" "Changes.new_entries" (.none) (.str "paperhold.revisions" 1131) 814:=kO (fun P=>by kernel_rfl) (fun P=>by kernel_rfl) ⟨by kernel_rfl,by kernel_rfl,by kernel_rfl⟩ ⟨bnd2 (fun a0 a1=>by kernel_rfl)⟩
theorem k829(w:World):FdOk w 829 f829 (top 76) "lead_of" "lead_of" (.none) (.str "paperhold.revisions" 1131) 828:=kO (fun P=>by kernel_rfl) (fun P=>by kernel_rfl) ⟨by kernel_rfl,by kernel_rfl,by kernel_rfl⟩ ⟨bnd1 (fun a0=>by kernel_rfl)⟩
theorem k836(w:World):FdOk w 836 f836 (top 77) "laid_objects" "laid_objects" (.none) (.str "paperhold.revisions" 1131) 835:=kO (fun P=>by kernel_rfl) (fun P=>by kernel_rfl) ⟨by kernel_rfl,by kernel_rfl,by kernel_rfl⟩ ⟨bnd2 (fun a0 a1=>by kernel_rfl)⟩
theorem k841(w:World):FdOk w 841 f841 (top 78) "new_trailer" "new_trailer" (.none) (.str "paperhold.revisions" 1131) 840:=kO (fun P=>by kernel_rfl) (fun P=>by kernel_rfl) ⟨by kernel_rfl,by kernel_rfl,by kernel_rfl⟩ ⟨bnd3 (fun a0 a1 a2=>by kernel_rfl)⟩
theorem k848(w:World):FdOk w 848 f848 (top 79) "classic_section" "classic_section" (.none) (.str "paperhold.revisions" 1131) 847:=kO (fun P=>by kernel_rfl) (fun P=>by kernel_rfl) ⟨by kernel_rfl,by kernel_rfl,by kernel_rfl⟩ ⟨bnd4 (fun a0 a1 a2 a3=>by kernel_rfl)⟩
theorem k855(w:World):FdOk w 855 f855 (top 80) "mark_end" "mark_end" (.none) (.str "paperhold.revisions" 1131) 854:=kO (fun P=>by kernel_rfl) (fun P=>by kernel_rfl) ⟨by kernel_rfl,by kernel_rfl,by kernel_rfl⟩ ⟨bnd2 (fun a0 a1=>by kernel_rfl)⟩
theorem k862(w:World):FdOk w 862 f862 (top 81) "changed_numbers" "changed_numbers" (.none) (.str "paperhold.revisions" 1131) 861:=kO (fun P=>by kernel_rfl) (fun P=>by kernel_rfl) ⟨by kernel_rfl,by kernel_rfl,by kernel_rfl⟩ ⟨bnd2 (fun a0 a1=>by kernel_rfl)⟩
theorem k869(w:World):FdOk w 869 f869 (top 83) "_law_draw" "_law_draw" (.none) (.str "law_nn0234_01" 1353) 868:=kO (fun P=>by kernel_rfl) (fun P=>by kernel_rfl) ⟨by kernel_rfl,by kernel_rfl,by kernel_rfl⟩ ⟨bnd2 (fun a0 a1=>by kernel_rfl)⟩
theorem k874(w:World):FdOk w 874 f874 (top 84) "_law_value" "_law_value" (.none) (.str "law_nn0234_01" 1353) 873:=kO (fun P=>by kernel_rfl) (fun P=>by kernel_rfl) ⟨by kernel_rfl,by kernel_rfl,by kernel_rfl⟩ ⟨bnd1 (fun a0=>by kernel_rfl)⟩
theorem k879(w:World):FdOk w 879 f879 (top 85) "_law_words" "_law_words" (.none) (.str "law_nn0234_01" 1353) 878:=kO (fun P=>by kernel_rfl) (fun P=>by kernel_rfl) ⟨by kernel_rfl,by kernel_rfl,by kernel_rfl⟩ ⟨bnd1 (fun a0=>by kernel_rfl)⟩
theorem k886(w:World):FdOk w 886 f886 (top 86) "_law_line" "_law_line" (.none) (.str "law_nn0234_01" 1353) 885:=kO (fun P=>by kernel_rfl) (fun P=>by kernel_rfl) ⟨by kernel_rfl,by kernel_rfl,by kernel_rfl⟩ ⟨bnd1 (fun a0=>by kernel_rfl)⟩
theorem k891(w:World):FdOk w 891 f891 (top 87) "_law_table" "_law_table" (.none) (.str "law_nn0234_01" 1353) 890:=kO (fun P=>by kernel_rfl) (fun P=>by kernel_rfl) ⟨by kernel_rfl,by kernel_rfl,by kernel_rfl⟩ ⟨bnd1 (fun a0=>by kernel_rfl)⟩
theorem k896(w:World):FdOk w 896 f896 (top 88) "_law_due" "_law_due" (.none) (.str "law_nn0234_01" 1353) 895:=kO (fun P=>by kernel_rfl) (fun P=>by kernel_rfl) ⟨by kernel_rfl,by kernel_rfl,by kernel_rfl⟩ ⟨bnd6 (fun a0 a1 a2 a3 a4 a5=>by kernel_rfl)⟩
theorem k901(w:World):FdOk w 901 f901 (top 89) "_law_section_right" "_law_section_right" (.none) (.str "law_nn0234_01" 1353) 900:=kO (fun P=>by kernel_rfl) (fun P=>by kernel_rfl) ⟨by kernel_rfl,by kernel_rfl,by kernel_rfl⟩ ⟨bnd1 (fun a0=>by kernel_rfl)⟩
theorem k908(w:World):FdOk w 908 f908 (top 90) "_law_marks_right" "_law_marks_right" (.none) (.str "law_nn0234_01" 1353) 907:=kO (fun P=>by kernel_rfl) (fun P=>by kernel_rfl) ⟨by kernel_rfl,by kernel_rfl,by kernel_rfl⟩ ⟨bnd1 (fun a0=>by kernel_rfl)⟩
theorem k913(w:World):FdOk w 913 f913 (top 91) "_law_shelves_right" "_law_shelves_right" (.none) (.str "law_nn0234_01" 1353) 912:=kO (fun P=>by kernel_rfl) (fun P=>by kernel_rfl) ⟨by kernel_rfl,by kernel_rfl,by kernel_rfl⟩ ⟨bnd1 (fun a0=>by kernel_rfl)⟩
theorem k918(w:World):FdOk w 918 f918 (top 92) "law" "law" (.none) (.str "law_nn0234_01" 1353) 917:=kO (fun P=>by kernel_rfl) (fun P=>by kernel_rfl) ⟨by kernel_rfl,by kernel_rfl,by kernel_rfl⟩ ⟨bnd1 (fun a0=>by kernel_rfl)⟩
noncomputable abbrev CP(α:Type):=S→(α→S→Prop)→Prop
noncomputable abbrev Sw:=List V→List MO→(Rv→List MO→Prop)→Prop
noncomputable def oP{α:Type}:Option α→(α→Prop)→Prop
 | some a,Q=>Q a
 | none,_=>False
noncomputable def CP.bind{α β:Type}(c:CP α)(f:α→CP β):CP β:=fun s Q=>c s fun a s1=>f a s1 Q
noncomputable def CP.opt{α β:Type}(c:CP α)(f:S→α→Option β):CP β:=fun s Q=>c s fun a s1=>oP (f s1 a) fun y=>Q y s1
noncomputable def up{α:Type}(d:Den α):CP α:=fun s Q=>oP (d s) fun p=>Q p.1 p.2
noncomputable def wNone{α:Type}:CP α:=fun _ _=>False
def Im{α:Type}(c:CP α)(d:Den α):Prop:=∀ s Q,c s Q→∃ p,d s=some p∧Q p.1 p.2
def ImS(c:Sw)(d:Sp):Prop:=∀ xs o Q,c xs o Q→∃ p,d xs o=some p∧Q p.1 p.2
theorem oP.el{α:Type}{o:Option α}{Q:α→Prop}(h:oP o Q):∃ a,o=some a∧Q a:=by
 cases o with
 | none=>exact h.elim
 | some a=>exact⟨a,rfl,h⟩
theorem oP.mk{α:Type}{o:Option α}{Q:α→Prop}{a:α}(e:o=some a)(h:Q a):oP o Q:=e▸h
theorem Im.none{α:Type}{d:Den α}:Im wNone d:=fun _ _ h=>h.elim
theorem Im.up{α:Type}{d:Den α}:Im (up d) d:=fun _ _ h=>h.el
theorem Im.bind{α β:Type}{c:CP α}{d:Den α}{f:α→CP β}{g:α→Den β}(x:Im c d)(y:∀ a,Im (f a) (g a)):Im (c.bind f) (d.bind g):=fun s Q h=>by
 obtain⟨p,e,h⟩:=x s _ h
 obtain⟨q,e',h⟩:=y p.1 p.2 Q h
 exact⟨q,by unfold Den.bind;rw [e];exact e',h⟩
theorem Im.opt{α β:Type}{c:CP α}{d:Den α}{f:S→α→Option β}(x:Im c d):Im (c.opt f) (d.opt f):=fun s Q h=>by
 obtain⟨p,e,h⟩:=x s _ h
 obtain⟨a,e',h⟩:=h.el
 exact⟨(a,p.2),by unfold Den.opt Den.bind;rw [e];show (f p.2 p.1).map _=_;rw [e'];rfl,h⟩
noncomputable def w2{β:Type}(a b:CP V)(f:S→V→V→Option β):CP β:=a.bind fun x=>b.opt fun s y=>f s x y
theorem Im.two{β:Type}{a b:CP V}{a' b':Den V}{f:S→V→V→Option β}(x:Im a a')(y:Im b b'):Im (w2 a b f) (den2 a' b' f):=x.bind fun _=>y.opt
noncomputable def wB(c:CP Bool):CP V:=c.opt fun _ b=>some (.t (.bool b))
noncomputable def wIte{β:Type}(c:CP Bool)(a b:CP β):CP β:=fun s Q=>c s fun t s1=>cond t (a s1 Q) (b s1 Q)
theorem Im.ite{β:Type}{c:CP Bool}{a b:CP β}{c':Den Bool}{a' b':Den β}(x:Im c c')(y:Im a a')(z:Im b b'):Im (wIte c a b) (dIte c' a' b'):=fun s Q h=>by
 obtain⟨p,e,h⟩:=x s _ h
 unfold dIte Den.bind
 rw [e]
 obtain⟨t,s1⟩:=p
 cases t with
 | true=>exact y s1 Q h
 | false=>exact z s1 Q h
noncomputable def wChain(o1 o2:CmpOp)(a b c:CP V):CP Bool:=a.bind fun x=>b.bind fun y=>wIte (up fun s=>(cmpV o1 s x y).map fun t=>(t,s)) (c.opt fun s3 z=>cmpV o2 s3 y z) (up (dB false))
noncomputable def wAO(f:Bool)(a b:CP V):CP V:=a.bind fun x=>wIte (up fun s=>(truthV s x).map fun t=>(t == f,s)) b (up (dB x))
noncomputable def wCons(a:CP V)(r:CP (List V)):CP (List V):=a.bind fun x=>r.opt fun _ xs=>some (x::xs)
noncomputable def wCompS(dc:CP Bool)(de:CP V)(k:CP (List T)):CP (List T):=wIte dc ((de.opt fun _ v=>v.tr?).bind fun y=>k.opt fun _ r=>some (y::r)) k
noncomputable def wCompL(i:Nat)(dc:CP Bool)(de:CP V):List V→CP (List T)
 | []=>fun s Q=>Q [] s
 | x::xs=>fun s Q=>wCompS dc de (wCompL i dc de xs) (s.setL i x) Q
noncomputable def wComp(di:CP (List V))(nl:Nat)(ci:List Nat)(i:Nat)(dc:CP Bool)(de:CP V):CP MO:=di.bind fun xs s Q=>
 wCompL i dc de xs ⟨List.replicate nl none,selC ci s.cl,s.o⟩ fun r s'=>oP (gd (r.length≤16777216∧s'.cl.length=ci.length) r) fun ys=>Q (.list ys) { s with cl:=wbC ci s'.cl s.cl,o:=s'.o }
theorem Im.cnd{β:Type}{c:CP Bool}{a b:CP β}{c':Den Bool}{a' b':Den β}(x:Im c c')(y:Im a a')(z:Im b b'):Im (wIte c a b) (c'.bind fun t=>cond t a' b'):=fun s Q h=>by
 obtain⟨p,e,h⟩:=x s _ h
 unfold Den.bind
 rw [e]
 obtain⟨t,s1⟩:=p
 cases t with
 | true=>exact y s1 Q h
 | false=>exact z s1 Q h
theorem Im.compL{i:Nat}{dc:CP Bool}{de:CP V}{dc':Den Bool}{de':Den V}(x:Im dc dc')(y:Im de de'):∀ l:List V,Im (wCompL i dc de l) (dCompL i dc' de' l)
 | []=>fun _ _ h=>⟨_,rfl,h⟩
 | a::l=>fun s Q h=>
  have ih:=Im.compL (i:=i) x y l
  have q:=Im.cnd x (Im.bind (y.opt (f:=fun(_:S) (v:V)=>v.tr?)) fun b=>ih.opt (f:=fun(_:S) (r:List T)=>some (b::r))) ih
  q (s.setL i a) Q h
theorem Im.comp{di:CP (List V)}{di':Den (List V)}{nl:Nat}{ci:List Nat}{i:Nat}{dc:CP Bool}{de:CP V}{dc':Den Bool}{de':Den V}(z:Im di di')(x:Im dc dc')(y:Im de de'):Im (wComp di nl ci i dc de) (dComp di' nl ci i dc' de'):=
 z.bind fun xs s Q h=>by
  obtain⟨p,e,h⟩:=Im.compL x y xs _ _ h
  obtain⟨a,e',h⟩:=h.el
  exact⟨_,by rw [e];show (gd _ _).map _=_;rw [e'];rfl,h⟩
noncomputable def wRun(sp:Sw)(xs:List V):CP Rv:=fun s Q=>sp xs s.o fun r o'=>Q r { s with o:=o' }
theorem Im.run{sp:Sw}{sp':Sp}(x:ImS sp sp')(xs:List V):Im (wRun sp xs) (dRun sp' xs):=fun s Q h=>by
 obtain⟨p,e,h⟩:=x xs s.o _ h
 exact⟨_,by unfold dRun;rw [e];rfl,h⟩
noncomputable def wCall(sp:Sw)(d:CP (List V)):CP Rv:=d.bind (wRun sp)
noncomputable def wCallM(C:Addr)(cs:List Nat)(sp:Sw)(dO:CP V)(d:CP (List V)):CP Rv:=dO.bind fun v=>(up (dMeth C cs v)).bind fun _=>d.bind fun xs=>wRun sp (v::xs)
noncomputable def wNew(d:CP Rv):CP V:=d.bind fun rv=>up fun s=>rv.new?.map fun o=>(.loc s.o.length,s.pushO o)
noncomputable def wPush(d:CP MO):CP V:=d.bind fun o=>up fun s=>some (.loc s.o.length,s.pushO o)
noncomputable def wMk(C:Addr)(sp:Sw)(xs:List V):CP Nat:=fun s Q=>sp (.loc (s.o.length+1)::xs) (s.o++[.attrs []]++[.inst C s.o.length]) fun r o=>oP (gd (r.nil=true) o) fun o'=>Q s.o.length { s with o:=o' }
theorem Im.mk{C:Addr}{sp:Sw}{sp':Sp}(x:ImS sp sp')(xs:List V):Im (wMk C sp xs) (dMk C sp' xs):=fun s Q h=>by
 obtain⟨p,e,h⟩:=x _ _ _ h
 obtain⟨a,e',h⟩:=h.el
 exact⟨_,by unfold dMk;rw [e];show (gd _ _).map _=_;rw [e'];rfl,h⟩
noncomputable def wMkL(C:Addr)(sp:Sw)(d:CP (List V)):CP V:=d.bind fun xs=>(wMk C sp xs).bind fun m=>up fun s=>some (.loc (m+1),s)
noncomputable def wTs:List (V→CP Unit)→List V→CP Unit
 | [],[]=>fun s Q=>Q () s
 | d::ds,x::xs=>(d x).bind fun _=>wTs ds xs
 | _,_=>wNone
abbrev ImT(c:V→CP Unit)(d:V→Den Unit):Prop:=∀ x,Im (c x) (d x)
theorem Im.ts{cs:List (V→CP Unit)}{ds:List (V→Den Unit)}(h:All2 ImT cs ds):∀ xs,Im (wTs cs xs) (dTs ds xs):=by
 induction h with
 | nil=>
  intro xs
  cases xs with
  | nil=>exact fun _ _ h=>⟨_,rfl,h⟩
  | cons=>exact .none
 | cons r _ ih=>
  intro xs
  cases xs with
  | nil=>exact .none
  | cons x xs=>exact .bind (r x) fun _=>ih xs
noncomputable def wTup(ds:List (V→CP Unit)):V→CP Unit:=fun v s Q=>oP v.tup? fun xs=>oP (gd (xs.length=ds.length) (xs.map V.t)) fun ys=>wTs ds ys s Q
theorem Im.tup{cs:List (V→CP Unit)}{ds:List (V→Den Unit)}(h:All2 ImT cs ds):ImT (wTup cs) (tTup ds):=fun v s Q q=>by
 obtain⟨a,e,q⟩:=q.el
 obtain⟨b,e',q⟩:=q.el
 obtain⟨p,e2,q⟩:=Im.ts h b s Q q
 exact⟨p,by unfold tTup;rw [e];show (gd _ _).bind _=_;rw [←h.len,e'];exact e2,q⟩
noncomputable def wI(dO di:CP V):V→CP Unit:=fun v=>dO.bind fun o=>di.bind fun i=>up fun s=>(setV s o i v).map fun s'=>((),s')
noncomputable def wNext:CP Fl:=fun s Q=>Q .next s
theorem Im.next:Im wNext dNext:=fun _ _ h=>⟨_,rfl,h⟩
noncomputable def wSeq(a b:CP Fl):CP Fl:=fun s Q=>a s fun f s1=>match f with
 | .next=>b s1 Q
 | .ret r=>Q (.ret r) s1
theorem Im.seq{a b:CP Fl}{a' b':Den Fl}(x:Im a a')(y:Im b b'):Im (wSeq a b) (dSeq a' b'):=fun s Q h=>by
 obtain⟨p,e,h⟩:=x s _ h
 unfold dSeq Den.bind
 rw [e]
 obtain⟨f,s1⟩:=p
 cases f with
 | next=>exact y s1 Q h
 | ret r=>exact⟨_,rfl,h⟩
noncomputable def wDo{β:Type}(d:CP β):CP Fl:=d.bind fun _=>wNext
theorem Im.dOo{β:Type}{c:CP β}{d:Den β}(x:Im c d):Im (wDo c) (dDo d):=x.bind fun _=>.next
noncomputable def wLoop(dt:V→CP Unit)(db:CP Fl):List V→CP Fl
 | []=>wNext
 | x::xs=>(dt x).bind fun _=>wSeq db (wLoop dt db xs)
theorem Im.loop{dt:V→CP Unit}{db:CP Fl}{dt':V→Den Unit}{db':Den Fl}(x:ImT dt dt')(y:Im db db'):∀ xs,Im (wLoop dt db xs) (dLoop dt' db' xs)
 | []=>.next
 | a::xs=>(x a).bind fun _=>y.seq (Im.loop x y xs)
noncomputable def wWhile(dc:CP Bool)(db:CP Fl):Nat→CP Fl
 | 0=>wNone
 | k+1=>wIte dc (wSeq db (wWhile dc db k)) wNext
theorem Im.wh{dc:CP Bool}{db:CP Fl}{dc':Den Bool}{db':Den Fl}(x:Im dc dc')(y:Im db db'):∀ n,Im (wWhile dc db n) (dWhile dc' db' n)
 | 0=>.none
 | n+1=>.ite x (y.seq (Im.wh x y n)) .next
noncomputable def wForE(d:CP V)(ds:List (V→CP Unit))(db:CP Fl):CP Fl:=d.bind fun v s Q=>oP v.list? fun xs=>oP (gd (xs.length≤1000000∧ds.length=2) xs) fun xs=>wLoop (wTup ds) db (enumT 0 xs) s Q
theorem Im.forE{d:CP V}{d':Den V}{cs:List (V→CP Unit)}{ds:List (V→Den Unit)}{db:CP Fl}{db':Den Fl}(x:Im d d')(h:All2 ImT cs ds)(y:Im db db'):Im (wForE d cs db) (dForE d' ds db'):=x.bind fun v s Q q=>by
 obtain⟨a,e,q⟩:=q.el
 obtain⟨b,e',q⟩:=q.el
 obtain⟨p,e2,q⟩:=Im.loop (Im.tup h) y _ s Q q
 exact⟨p,by rw [e];show (gd _ _).bind _=_;rw [←h.len,e'];exact e2,q⟩
noncomputable def wLen(n:Nat)(d:List V→CP Unit)(xs:List V):CP Fl:=fun s Q=>oP (gd (xs.length=n∧xs.length≤100) xs) fun xs=>((d xs).bind fun _=>wNext) s Q
theorem Im.len{n m:Nat}(e:n=m){c:List V→CP Unit}{d:List V→Den Unit}(h:∀ xs,Im (c xs) (d xs))(xs:List V):Im (wLen n c xs) (dLen m d xs):=fun s Q q=>by
 subst e
 obtain⟨a,e,q⟩:=q.el
 obtain⟨p,e2,q⟩:=(h a).bind (fun _=>Im.next) s Q q
 exact⟨p,by unfold dLen;rw [e];exact e2,q⟩
noncomputable def wAsgSw(d:CP (List V))(is:List Nat):CP Fl:=d.bind (wLen is.length fun xs=>wTs (is.reverse.map fun i=>fun v=>up (tL i v)) xs.reverse)
theorem all2_map{α β γ:Type}{R:α→β→Prop}{f:γ→α}{g:γ→β}(h:∀ c,R (f c) (g c)):∀ l:List γ,All2 R (l.map f) (l.map g)
 | []=>.nil
 | c::l=>.cons (h c) (all2_map h l)
noncomputable def wFrz(kf:S→List Nat)(k:Nat)(d:CP Fl):CP Fl:=fun s Q=>oP (s.frz k (kf s)) fun s'=>d s' Q
theorem Im.frz{kf:S→List Nat}{k:Nat}{c:CP Fl}{d:Den Fl}(x:Im c d):Im (wFrz kf k c) (dFrz kf k d):=fun s Q h=>by
 obtain⟨a,e,h⟩:=h.el
 obtain⟨p,e2,h⟩:=x a Q h
 exact⟨p,by unfold dFrz;rw [e];exact e2,h⟩
theorem gd.ok{α:Type}{p:Prop}[Decidable p]{x:α}(h:p):gd p x=some x:=if_pos h
def wBinV(op:Operator)(x y:V)(Q:T→Prop):Prop:=match op,x,y with
 | .Add,.t (.str a),.t (.str b)=>a.length+b.length≤16777216∧Q (.str (a++b))
 | .Add,.t (.bytes a),.t (.bytes b)=>a.length+b.length≤16777216∧Q (.bytes (a++b))
 | op,x,y=>oP (binV op x y) Q
theorem wBinV.ok{op:Operator}{x y:V}{Q:T→Prop}(h:wBinV op x y Q):oP (binV op x y) Q:=by
 cases op with
 | Add=>cases x with
  | t a=>cases y with
   | t b=>cases a with
    | str a=>cases b with
     | str b=>
      refine .mk ?_ h.2
      show Option.or Option.none (Option.or (gd _ _) _)=_
      rw [gd.ok h.1];rfl
     | _=>exact h
    | bytes a=>cases b with
     | bytes b=>
      refine .mk ?_ h.2
      show Option.or Option.none (Option.or Option.none (Option.or (gd _ _) _))=_
      rw [gd.ok h.1];rfl
     | _=>exact h
    | _=>exact h
   | _=>cases a <;> exact h
  | _=>exact h
 | _=>exact h
def wLenV(s:S)(x:V)(Q:T→Prop):Prop:=match x with
 | .t (.str a)=>a.length≤1000000∧Q (.int a.length)
 | .t (.bytes a)=>a.length≤1000000∧Q (.int a.length)
 | .t (.list a)=>a.length≤1000000∧Q (.int a.length)
 | x=>oP (opLen s x) Q
theorem wLenV.ok{s:S}{x:V}{Q:T→Prop}(h:wLenV s x Q):oP (opLen s x) Q:=by
 cases x with
 | t x=>cases x with
  | str a=>
   refine .mk ?_ h.2
   show Option.or Option.none (Option.or Option.none (gd _ _))=_
   rw [gd.ok h.1];rfl
  | bytes a=>
   refine .mk ?_ h.2
   show Option.or Option.none (Option.or (gd _ _) _)=_
   rw [gd.ok h.1];rfl
  | list a=>
   refine .mk ?_ h.2
   show Option.or (gd _ _) _=_
   rw [gd.ok h.1];rfl
  | _=>exact h
 | _=>exact h
def wStrV(s:S)(x:V)(Q:T→Prop):Prop:=match x with
 | .t (.int a)=>a.natAbs.log2 < 1920∧Q (.str (strI a))
 | x=>oP (opStr s x) Q
theorem wStrV.ok{s:S}{x:V}{Q:T→Prop}(h:wStrV s x Q):oP (opStr s x) Q:=by
 unfold wStrV at h
 split at h
 ·exact .mk (gd.ok h.1) h.2
 ·exact h
theorem opV1{f:S→V→Option T}{s:S}{x:V}{Q:Rv→S→Prop}(h:oP (f s x) fun t=>Q (.val t) s):oP (opV (op1 f) [x] s) fun p=>Q p.1 p.2:=by
 obtain⟨a,e,h⟩:=h.el
 exact .mk (a:=(.val a,s)) (by show ((some x).bind (f s)).map _=_;show (f s x).map _=_;rw [e];rfl) h
theorem opV2{f:S→V→V→Option T}{s:S}{x y:V}{Q:Rv→S→Prop}(h:oP (f s x y) fun t=>Q (.val t) s):oP (opV (op2 f) [x,y] s) fun p=>Q p.1 p.2:=by
 obtain⟨a,e,h⟩:=h.el
 exact .mk (a:=(.val a,s)) (by show (f s x y).map _=_;rw [e];rfl) h
noncomputable def tw2(xs:List V)(f:V→V→CP Rv)(g:CP Rv):CP Rv:=match xs with
 | [v,x]=>f v x
 | _=>g
theorem Im.tw2{xs:List V}{f:V→V→CP Rv}{g:CP Rv}{d:Den Rv}(h:∀ v x,xs=[v,x]→Im (f v x) d)(h':Im g d):Im (Mine.tw2 xs f g) d:=by
 unfold Mine.tw2
 split
 ·exact h _ _ rfl
 ·exact h'
theorem Im.cond{α:Type}{b:Bool}{c c':CP α}{d:Den α}(h:b=true→Im c d)(h':Im c' d):Im (cond b c c') d:=by
 cases b
 ·exact h'
 ·exact h rfl
noncomputable def tw1(xs:List V)(f:V→CP Rv)(g:CP Rv):CP Rv:=match xs with
 | [x]=>f x
 | _=>g
theorem Im.tw1{xs:List V}{f:V→CP Rv}{g:CP Rv}{d:Den Rv}(h:∀ x,xs=[x]→Im (f x) d)(h':Im g d):Im (Mine.tw1 xs f g) d:=by
 unfold Mine.tw1
 split
 ·exact h _ rfl
 ·exact h'
noncomputable def wBl(b:Nat)(xs:List V):CP Rv:=
 cond (Nat.beq b 1) (tw1 xs (fun x s Q=>wLenV s x fun t=>Q (.val t) s) (up (bOp b xs))) (cond (Nat.beq b 6) (tw1 xs (fun x s Q=>wStrV s x fun t=>Q (.val t) s) (up (bOp b xs))) (up (bOp b xs)))
theorem Im.bl(b:Nat)(xs:List V):Im (wBl b xs) (bOp b xs):=
 .cond (fun e=>Nat.eq_of_beq_eq_true e▸.tw1 (fun _ q=>q▸fun s Q h=>(opV1 h.ok).el) .up) (.cond (fun e=>Nat.eq_of_beq_eq_true e▸.tw1 (fun _ q=>q▸fun s Q h=>(opV1 h.ok).el) .up) .up)
def wJoin(s:S)(v x:V)(Q:T→Prop):Prop:=oP v.str? fun sep=>oP ((s.lst x).bind asStrs) fun ss=>(ss.map (·.length)).sum+ss.length * sep.length≤1000000∧Q (.str (joinL sep ss))
theorem wJoin.ok{s:S}{v x:V}{Q:T→Prop}(h:wJoin s v x Q):oP (opJoin s v x) Q:=by
 obtain⟨a,e,h⟩:=h.el
 obtain⟨b,e',h⟩:=h.el
 exact .mk (by unfold opJoin;rw [e];show Option.bind _ _=_;rw [e'];exact gd.ok h.1) h.2
def wBJoin(s:S)(v x:V)(Q:T→Prop):Prop:=oP v.byt? fun sep=>oP ((s.lst x).bind asByts) fun bs=>(bs.map (·.length)).sum+sep.length * bs.length≤1000000∧Q (.bytes (joinL sep bs))
theorem wBJoin.ok{s:S}{v x:V}{Q:T→Prop}(h:wBJoin s v x Q):oP (opBJoin s v x) Q:=by
 obtain⟨a,e,h⟩:=h.el
 obtain⟨b,e',h⟩:=h.el
 exact .mk (by unfold opBJoin;rw [e];show Option.bind _ _=_;rw [e'];exact gd.ok h.1) h.2
def wEnc(s:S)(v u:V)(Q:T→Prop):Prop:=oP v.str? fun x=>oP u.str? fun c=>c=nAscii∧(x ≠ []∧x.length≤1000000∧x.all (fun c=>decide (c < 128))=true)∧Q (.bytes (x.map (·.toUInt8)))
theorem wEnc.ok{s:S}{v u:V}{Q:T→Prop}(h:wEnc s v u Q):oP (opEncode s v u) Q:=by
 obtain⟨a,e,h⟩:=h.el
 obtain⟨b,e',h⟩:=h.el
 exact .mk (by unfold opEncode;rw [e];show Option.bind _ _=_;rw [e'];exact gd.ok ⟨h.1,h.2.1⟩) h.2.2
noncomputable def wMe(b:Nat)(xs:List V):CP Rv:=
  cond (Nat.beq b 5) (tw2 xs (fun v x s Q=>wJoin s v x fun t=>Q (.val t) s) (up (mOp b xs)))
   (cond (Nat.beq b 7) (tw2 xs (fun v x s Q=>wEnc s v x fun t=>Q (.val t) s) (up (mOp b xs)))
    (cond (Nat.beq b 8) (tw2 xs (fun v x s Q=>wBJoin s v x fun t=>Q (.val t) s) (up (mOp b xs))) (up (mOp b xs))))
theorem Im.me(b:Nat)(xs:List V):Im (wMe b xs) (mOp b xs):=
  .cond (fun e=>Nat.eq_of_beq_eq_true e▸.tw2 (fun _ _ q=>q▸fun s Q h=>(opV2 h.ok).el) .up)
   (.cond (fun e=>Nat.eq_of_beq_eq_true e▸.tw2 (fun _ _ q=>q▸fun s Q h=>(opV2 h.ok).el) .up)
    (.cond (fun e=>Nat.eq_of_beq_eq_true e▸.tw2 (fun _ _ q=>q▸fun s Q h=>(opV2 h.ok).el) .up) .up))
noncomputable def wBin(op:Operator)(a b:CP V):CP V:=a.bind fun x=>b.bind fun y s Q=>wBinV op x y fun t=>Q (.t t) s
theorem Im.bin{op:Operator}{a b:CP V}{a' b':Den V}(x:Im a a')(y:Im b b'):Im (wBin op a b) (den2 a' b' (vv (binV op))):=x.bind fun u s Q h=>by
 obtain⟨p,e,h⟩:=y s _ h
 obtain⟨t,e',h⟩:=h.ok.el
 exact⟨(.t t,p.2),by unfold Den.opt Den.bind;rw [e];show (Option.map V.t (binV op u p.1)).map _=_;rw [e'];rfl,h⟩
noncomputable def wM(b:Nat)(dO:CP V)(d:CP (List V)):CP Rv:=dO.bind fun v=>CP.bind (up fun s=>gd (mOk b s v=true) ((),s)) fun _=>d.bind fun xs=>wMe b (v::xs)
structure Pw where
 v:CP V:=wNone
 n:CP MO:=wNone
 r:CP Rv:=wNone
 b:CP Bool:=wNone
 a:CP (List V):=wNone
 t:V→CP Unit:=fun _=>wNone
 ts:List (V→CP Unit):=[]
 s:CP Fl:=wNone
 p:CP (Option Int):=wNone
def Cl(k:Nat)(o:List MO):Prop:=o.all (moClosed k)=true
def wCut(m:Nat)(k:Nat)(s:S)(Q:S→Prop):Prop:=match m with
 | 0=>Q ((s.cut k).getD s)
 | 1=>s.o.length=k∧Q s
 | _=>Cl k (s.o.take k)∧Q { s with o:=s.o.take k }
noncomputable def wCutI(m:Nat)(C:Addr)(k:Nat):CP V:=match m with
 | 2=>fun s Q=>oP (two? (s.o.drop k)) fun p=>oP p.1.attrs? fun fs=>oP p.2.inst? fun q=>oP (gd (q.1=C∧q.2=k) fs) fun fs=>Cl k (s.o.take k)∧oP (attrsT fs) fun kvs=>Q (.t (.inst C kvs)) { s with o:=s.o.take k }
 | _=>up (cutI C k)
theorem Im.cutI{m:Nat}{C:Addr}{k:Nat}:Im (wCutI m C k) (cutI C k):=by
 unfold wCutI
 split
 ·intro s Q h
  obtain⟨p,e1,h⟩:=h.el
  obtain⟨fs,e2,h⟩:=h.el
  obtain⟨q,e3,h⟩:=h.el
  obtain⟨fs',e4,h⟩:=h.el
  obtain⟨kvs,e5,h'⟩:=h.2.el
  unfold Mine.cutI
  rw [e1,Option.bind_some,e2,Option.bind_some,e3,Option.bind_some]
  unfold gd at e4
  split at e4
  ·rename_i hq
   cases e4
   rw [gd.ok ⟨hq.1,hq.2,h.1⟩,Option.bind_some,e5]
   exact⟨_,rfl,h'⟩
  ·cases e4
 ·exact .up
noncomputable def wMkT(m:Nat)(C:Addr)(sp:Sw)(d:CP (List V)):CP V:=d.bind fun xs=>(wMk C sp xs).bind fun k=>wCutI m C k
noncomputable def wRet(m:Nat)(k:Nat):V→CP Fl
 | .t x=>fun s Q=>wCut m k s (Q (.ret (.val x)))
 | v=>up (rvV k v)
theorem cut_same{s:S}{k:Nat}(h:s.o.length=k):(s.cut k).getD s=s:=by
 subst h
 unfold S.cut gd
 rw [List.take_length]
 split <;> rfl
theorem wCut.ok{m k:Nat}{s:S}{Q:S→Prop}(h:wCut m k s Q):Q ((s.cut k).getD s):=by
 unfold wCut at h
 split at h
 ·exact h
 ·rw [cut_same h.1];exact h.2
 ·unfold Cl at h
  unfold S.cut
  rw [gd.ok h.1];exact h.2
theorem Im.ret{m:Nat}{k:Nat}(v:V):Im (wRet m k v) (rvV k v):=by
 cases v with
 | t x=>exact fun s Q h=>⟨_,rfl,h.ok⟩
 | loc i=>exact .up
 | lst is=>exact .up
noncomputable def wden(m:Nat)(Γ:Nat→Sw)(k:Nat):X→Pw
 | .vl i _=>{ v:=up (dLoc i) }
 | .vc i _=>{ v:=up (dCell i) }
 | .vg _ j _=>{ v:=up (dT (gT j)) }
 | .vb _ j _ _=>{ v:=up (dT (.con (bV j))) }
 | .ki n _ _=>{ v:=up (dT (.int n)) }
 | .ks x _ _=>{ v:=up (dT (.str x)) }
 | .kb b _ _=>{ v:=up (dT (.bytes b)) }
 | .kn _ _=>{ v:=up (dT .none) }
 | .kt b _ _=>{ v:=up (dT (.bool b)) }
 | .bin op a b _=>{ v:=wBin op (wden m Γ k a).v (wden m Γ k b).v }
 | .neg a _=>{ v:=(wden m Γ k a).v.opt negV }
 | .cmp op a b _=>{ v:=wB (w2 (wden m Γ k a).v (wden m Γ k b).v (cmpV op)) }
 | .chn o1 o2 a b c _=>{ v:=wB (wChain o1 o2 (wden m Γ k a).v (wden m Γ k b).v (wden m Γ k c).v) }
 | .ife c a b _=>{ v:=wIte (wden m Γ k c).b (wden m Γ k a).v (wden m Γ k b).v }
 | .w1 _ a=>{ v:=(wden m Γ k a).v }
 | .wc op a r=>{ v:=if op=.And then wAO true (wden m Γ k a).v (wden m Γ k r).v else wAO false (wden m Γ k a).v (wden m Γ k r).v }
 | .bov _ w _=>{ v:=(wden m Γ k w).v }
 | .tup as _ _=>{ v:=(wden m Γ k as).a.opt fun _ xs=>(allL xs).map fun ts=>.t (.tup ts) }
 | .lst as _=>{ v:=(wden m Γ k as).a.opt fun _ xs=>(gd (xs.length≤16777216) xs).bind fun xs=>(allLoc xs).map .lst }
 | .item a b _=>{ v:=w2 (wden m Γ k a).v (wden m Γ k b).v itemV }
 | .att a x _=>{ v:=(wden m Γ k a).v.opt (attrV x) }
 | .fz n=>{ v:=(wden m Γ k n).n.opt fun _ o=>(moT o).map .t }
 | .pu n=>{ v:=wPush (wden m Γ k n).n }
 | .vr r=>{ v:=(wden m Γ k r).r.opt fun _ rv=>rv.tr?.map .t }
 | .nr r=>{ v:=wNew (wden m Γ k r).r }
 | .mkT C kf _ _ as _ _=>{ v:=wMkT m C (Γ kf) (wden m Γ k as).a }
 | .mkL C kf _ _ as _ _=>{ v:=wMkL C (Γ kf) (wden m Γ k as).a }
 | .nl as _=>{ n:=(wden m Γ k as).a.opt fun _ xs=>(allL xs).map .list }
 | .d0 _=>{ n:=up dDict0 }
 | .d1 a b _=>{ n:=(wden m Γ k a).v.bind fun k'=>(wden m Γ k b).v.opt fun _ v=>k'.key.bind fun kk=>v.tr?.map fun v=>.dict [(kk,v)] }
 | .cm l _ _ ci i0 _ elt ifs it _ _=>{ n:=wComp (wden m Γ k it).a l.length ci i0 (wden m Γ k ifs).b (wden m Γ k elt).v }
 | .inc _ _ _ _ _ it _ _ _ _ _ _=>{ n:=(wden m Γ k it).v.opt fun s v=>((s.dic v).bind fun d=>asInts (d.map fun p=>p.1.t)).bind fun is=>gd (is.length≤1000000) (.list (is.map fun i=>.int (i+1))) }
 | .cf kf _ _ as _ _=>{ r:=wCall (Γ kf) (wden m Γ k as).a }
 | .ct C nm kf o as _ _=>{ r:=wCallM C nm (Γ kf) (wden m Γ k o).v (wden m Γ k as).a }
 | .bl b _ _ _ as _ _=>{ r:=(wden m Γ k as).a.bind (wBl b) }
 | .me b o as _ _=>{ r:=wM b (wden m Γ k o).v (wden m Γ k as).a }
 | .sl v lo hi _ _=>{ r:=(wden m Γ k v).v.bind fun v=>(wden m Γ k lo).p.bind fun a=>(wden m Γ k hi).p.opt fun s b=>sliceV a b s v }
 | .ss _ _ _ _ _ _ a _ _ _ _=>{ r:=(wden m Γ k a).v.bind fun v=>up (opN (op1 opSS) [v]) }
 | .tv a=>{ b:=(wden m Γ k a).v.opt truthV }
 | .tc op a b _=>{ b:=w2 (wden m Γ k a).v (wden m Γ k b).v (cmpV op) }
 | .tch o1 o2 a b c _=>{ b:=wChain o1 o2 (wden m Γ k a).v (wden m Γ k b).v (wden m Γ k c).v }
 | .tn a _=>{ b:=(wden m Γ k a).b.opt fun _ b=>some !b }
 | .tq _ q _=>{ b:=(wden m Γ k q).b }
 | .q0 op=>{ b:=up (dB (op=.And)) }
 | .qc op a r=>{ b:=if op=.And then wIte (wden m Γ k a).b (wden m Γ k r).b (up (dB false)) else wIte (wden m Γ k a).b (up (dB true)) (wden m Γ k r).b }
 | .f0=>{ b:=up (dB true) }
 | .f1 c=>{ b:=(wden m Γ k c).b }
 | .iv a=>{ a:=(wden m Γ k a).v.opt fun _ v=>iterV v }
 | .ir1 _ _ _ a _ _=>{ a:=(wden m Γ k a).v.opt fun _ v=>v.int?.bind (rngV 0) }
 | .ir2 _ _ _ a b _ _=>{ a:=w2 (wden m Γ k a).v (wden m Γ k b).v fun _ x y=>x.int?.bind fun a=>y.int?.bind (rngV a) }
 | .tl i _=>{ t:=fun v=>up (tL i v) }
 | .tcl i _=>{ t:=fun v=>up (tC i v) }
 | .ti o x _=>{ t:=wI (wden m Γ k o).v (wden m Γ k x).v }
 | .tt ts _ _=>{ t:=wTup (wden m Γ k ts).ts }
 | .t0=>{ ts:=[] }
 | .tcons t r=>{ ts:=(wden m Γ k t).t::(wden m Γ k r).ts }
 | .a0=>{ a:=up dNil }
 | .ac a r=>{ a:=wCons (wden m Γ k a).v (wden m Γ k r).a }
 | .p0=>{ p:=up fun s=>some (none,s) }
 | .p1 e=>{ p:=(wden m Γ k e).v.opt partV }
 | .sif c b o _=>{ s:=wIte (wden m Γ k c).b (wden m Γ k b).s (wden m Γ k o).s }
 | .swh n c b _=>{ s:=wWhile (wden m Γ k c).b (wden m Γ k b).s n }
 | .sfo t it b _=>{ s:=(wden m Γ k it).a.bind (wLoop (wden m Γ k t).t (wden m Γ k b).s) }
 | .sfe _ _ _ ts _ e b _ _ _ _=>{ s:=wForE (wden m Γ k e).v (wden m Γ k ts).ts (wden m Γ k b).s }
 | .re v _=>{ s:=(wden m Γ k v).v.bind (wRet m k) }
 | .rn v _=>{ s:=(wden m Γ k v).n.bind fun v=>up (rvN k v) }
 | .ex v _=>{ s:=wDo (wden m Γ k v).v }
 | .aL i v _ _=>{ s:=(wden m Γ k v).v.bind fun v=>up (dUp (·.setL i v)) }
 | .aC i v _ _=>{ s:=(wden m Γ k v).v.bind fun v=>up (dUp (·.setC i v)) }
 | .aI o x v _ _=>{ s:=(wden m Γ k v).v.bind fun v=>(wden m Γ k o).v.bind fun o=>(wden m Γ k x).v.bind fun i=>up (dTry fun s=>setV s o i v) }
 | .aA o x v _ _=>{ s:=(wden m Γ k v).v.bind fun v=>(wden m Γ k o).v.bind fun o=>up (dTry fun s=>setF x s o v) }
 | .aT ts _ v _ _=>{ s:=(wden m Γ k v).v.bind fun v=>wDo (wTup (wden m Γ k ts).ts v) }
 | .aTT ts _ as _ _ _ _=>{ s:=(wden m Γ k as).a.bind (wLen (wden m Γ k ts).ts.length (wTs (wden m Γ k ts).ts)) }
 | .aW is _ _ as _ _ _ _=>{ s:=wAsgSw (wden m Γ k as).a is }
 | .aK i _ l _ _ ci i0 _ elt ifs it _ _ _=>{ s:=((wComp (wden m Γ k it).a l.length ci i0 (wden m Γ k ifs).b (wden m Γ k elt).v).opt fun _ o=>(moT o).map .t).bind fun v=>wDo (up (tL i v)) }
 | .s0=>{ s:=wNext }
 | .sc s r=>{ s:=wSeq (wden m Γ k s).s (wden m Γ k r).s }
 | .fr src r=>{ s:=wFrz (frOf src) k (wden m Γ k r).s }
 | .bot _=>{ }
 | .bv _=>{ }
structure ImP(c:Pw)(d:D):Prop where
 v:Im c.v d.v:=by exact Im.none
 n:Im c.n d.n:=by exact Im.none
 r:Im c.r d.r:=by exact Im.none
 b:Im c.b d.b:=by exact Im.none
 a:Im c.a d.a:=by exact Im.none
 t:ImT c.t d.t:=by exact fun _=>Im.none
 ts:All2 ImT c.ts d.ts:=by exact All2.nil
 s:Im c.s d.s:=by exact Im.none
 p:Im c.p d.p:=by exact Im.none
theorem ImP.ofV{c:CP V}{d:Den V}(h:Im c d):ImP { v:=c } { v:=d }:={ v:=h }
theorem ImP.ofN{c:CP MO}{d:Den MO}(h:Im c d):ImP { n:=c } { n:=d }:={ n:=h }
theorem ImP.ofR{c:CP Rv}{d:Den Rv}(h:Im c d):ImP { r:=c } { r:=d }:={ r:=h }
theorem ImP.ofB{c:CP Bool}{d:Den Bool}(h:Im c d):ImP { b:=c } { b:=d }:={ b:=h }
theorem ImP.ofA{c:CP (List V)}{d:Den (List V)}(h:Im c d):ImP { a:=c } { a:=d }:={ a:=h }
theorem ImP.ofT{c:V→CP Unit}{d:V→Den Unit}(h:ImT c d):ImP { t:=c } { t:=d }:={ t:=h }
theorem ImP.ofTs{c:List (V→CP Unit)}{d:List (V→Den Unit)}(h:All2 ImT c d):ImP { ts:=c } { ts:=d }:={ ts:=h }
theorem ImP.ofS{c:CP Fl}{d:Den Fl}(h:Im c d):ImP { s:=c } { s:=d }:={ s:=h }
theorem ImP.ofP{c:CP (Option Int)}{d:Den (Option Int)}(h:Im c d):ImP { p:=c } { p:=d }:={ p:=h }
theorem wsound{m:Nat}{Γ:Nat→Sw}{Γ':Nat→Sp}(H:∀ f,ImS (Γ f) (Γ' f))(k:Nat)(x:X):ImP (wden m Γ k x) (den Γ' k x):=by
 induction x with
 | vl=>exact .ofV .up
 | vc=>exact .ofV .up
 | vg=>exact .ofV .up
 | vb=>exact .ofV .up
 | ki=>exact .ofV .up
 | ks=>exact .ofV .up
 | kb=>exact .ofV .up
 | kn=>exact .ofV .up
 | kt=>exact .ofV .up
 | bin op a b p ia ib=>exact .ofV (ia.v.bin ib.v)
 | neg a p ia=>exact .ofV ia.v.opt
 | cmp op a b p ia ib=>exact .ofV (ia.v.two ib.v).opt
 | chn o1 o2 a b c p ia ib ic=>exact .ofV (Im.opt (ia.v.bind fun _=>ib.v.bind fun _=>.ite .up ic.v.opt .up))
 | ife c a b p ic ia ib=>exact .ofV (ic.b.ite ia.v ib.v)
 | w1 op a ia=>exact .ofV ia.v
 | wc op a r ia ir=>
  refine .ofV ?_
  by_cases e:op=.And
  ·rw [if_pos e,if_pos e];exact ia.v.bind fun _=>.ite .up ir.v .up
  ·rw [if_neg e,if_neg e];exact ia.v.bind fun _=>.ite .up ir.v .up
 | bov op w p iw=>exact .ofV iw.v
 | tup as kk p ia=>exact .ofV ia.a.opt
 | lst as p ia=>exact .ofV ia.a.opt
 | item a b p ia ib=>exact .ofV (ia.v.two ib.v)
 | att a x p ia=>exact .ofV ia.v.opt
 | fz n i=>exact .ofV i.n.opt
 | pu n i=>exact .ofV (i.n.bind fun _=>.up)
 | vr r i=>exact .ofV i.r.opt
 | nr r i=>exact .ofV (i.r.bind fun _=>.up)
 | mkT C kf i j as p1 p ia=>exact .ofV (ia.a.bind fun xs=>(Im.mk (H kf) xs).bind fun _=>.cutI)
 | mkL C kf i j as p1 p ia=>exact .ofV (ia.a.bind fun xs=>(Im.mk (H kf) xs).bind fun _=>.up)
 | nl as p ia=>exact .ofN ia.a.opt
 | d0=>exact .ofN .up
 | d1 a b p ia ib=>exact .ofN (ia.v.bind fun _=>ib.v.opt)
 | cm l fr g ci i0 sc elt ifs it px p i1 i2 i3=>exact .ofN (.comp i3.a i2.b i1.v)
 | inc l fr g i0 sc it kk px p1 p2 p3 p i=>exact .ofN i.v.opt
 | cf kf i j as p1 p ia=>exact .ofR (ia.a.bind fun xs=>.run (H kf) xs)
 | ct C nm kf o as ap p io ia=>exact .ofR (io.v.bind fun v=>Im.up.bind fun _=>ia.a.bind fun xs=>.run (H kf) (v::xs))
 | bl b i j k as p1 p ia=>exact .ofR (ia.a.bind (.bl b))
 | me b o as ap p io ia=>exact .ofR (io.v.bind fun _=>Im.up.bind fun _=>ia.a.bind fun _=>.me b _)
 | sl v lo hi sp p iv il ih=>exact .ofR (iv.v.bind fun _=>il.p.bind fun _=>ih.p.opt)
 | ss i1 j1 k1 i2 j2 k2 a q1 p1 q2 p2 ia=>exact .ofR (ia.v.bind fun _=>.up)
 | tv a ia=>exact .ofB ia.v.opt
 | tc op a b p ia ib=>exact .ofB (ia.v.two ib.v)
 | tch o1 o2 a b c p ia ib ic=>exact .ofB (ia.v.bind fun _=>ib.v.bind fun _=>.ite .up ic.v.opt .up)
 | tn a p ia=>exact .ofB ia.b.opt
 | tq op q p iq=>exact .ofB iq.b
 | q0=>exact .ofB .up
 | qc op a r ia ir=>
  refine .ofB ?_
  by_cases e:op=.And
  ·rw [if_pos e,if_pos e];exact ia.b.ite ir.b .up
  ·rw [if_neg e,if_neg e];exact ia.b.ite .up ir.b
 | f0=>exact .ofB .up
 | f1 c ic=>exact .ofB ic.b
 | iv a ia=>exact .ofA ia.v.opt
 | ir1 i j k a p1 p ia=>exact .ofA ia.v.opt
 | ir2 i j k a b p1 p ia ib=>exact .ofA (ia.v.two ib.v)
 | tl=>exact .ofT fun _=>.up
 | tcl=>exact .ofT fun _=>.up
 | ti o x p io ix=>exact .ofT fun _=>io.v.bind fun _=>ix.v.bind fun _=>.up
 | tt ts kk p it=>exact .ofT (.tup it.ts)
 | t0=>exact .ofTs .nil
 | tcons t r it ir=>exact .ofTs (.cons it.t ir.ts)
 | a0=>exact .ofA .up
 | ac a r ia ir=>exact .ofA (ia.v.bind fun _=>ir.a.opt)
 | p0=>exact .ofP .up
 | p1 e ie=>exact .ofP ie.v.opt
 | sif c b o p ic ib io=>exact .ofS (ic.b.ite ib.s io.s)
 | swh n c b p ic ib=>exact .ofS (.wh ic.b ib.s n)
 | sfo t it b p i1 i2 ib=>exact .ofS (i2.a.bind fun xs=>.loop i1.t ib.s xs)
 | sfe i j k ts kk e b p1 cp tp p it ie ib=>exact .ofS (.forE ie.v it.ts ib.s)
 | re v p iv=>exact .ofS (iv.v.bind .ret)
 | rn v p iv=>exact .ofS (iv.n.bind fun _=>.up)
 | ex v p iv=>exact .ofS iv.v.dOo
 | aL i v q p iv=>exact .ofS (iv.v.bind fun _=>.up)
 | aC i v q p iv=>exact .ofS (iv.v.bind fun _=>.up)
 | aI o x v q p io ix iv=>exact .ofS (iv.v.bind fun _=>io.v.bind fun _=>ix.v.bind fun _=>.up)
 | aA o x v q p io iv=>exact .ofS (iv.v.bind fun _=>io.v.bind fun _=>.up)
 | aT ts kk v tp p it iv=>exact .ofS (iv.v.bind fun v=>(Im.tup it.ts v).bind fun _=>.next)
 | aTT ts kk as k2 tp vp p it ia=>exact .ofS (ia.a.bind (.len it.ts.len (.ts it.ts)))
 | aW is ts kk as k2 tp vp p it ia=>exact .ofS (ia.a.bind (.len rfl fun xs=>.ts (all2_map (fun _ _=>.up) _) _))
 | aK i q l fr g ci i0 sc elt ifs it px pos p i1 i2 i3=>exact .ofS (Im.bind (Im.opt (.comp i3.a i2.b i1.v)) fun _=>.dOo .up)
 | s0=>exact .ofS .next
 | sc s r is ir=>exact .ofS (is.s.seq ir.s)
 | fr src r ir=>exact .ofS ir.s.frz
 | bot=>exact .ofS .none
 | bv=>exact .ofV .none
noncomputable def wOut(m:Nat)(k:Nat)(Q:Rv→List MO→Prop):Fl→S→Prop
 | .ret r,s=>Q r s.o
 | .next,s=>wCut m k s fun s=>Q (.val .none) s.o
def wRunB(m:Nat)(ln cn ps:List Str)(bd:Nat→CP Fl)(ys:List V)(o:List MO)(Q:Rv→List MO→Prop):Prop:=bd o.length (initS ln cn ps ys o) (wOut m o.length Q)
noncomputable def wFd(m:Nat)(Γ:Nat→Sw)(d:Fd):Sw:=fun xs o Q=>oP (fxD d.ps.length d.df xs) fun ys=>wRunB m d.ln d.cn d.ps (fun k=>(wden m Γ k d.bd).s) ys o Q
theorem wFd_ok{m:Nat}{Γ:Nat→Sw}{Γ':Nat→Sp}(H:∀ f,ImS (Γ f) (Γ' f))(d:Fd):ImS (wFd m Γ d) fun xs o=>(fxD d.ps.length d.df xs).bind fun ys=>runB d.ln d.cn d.ps (fun k=>(den Γ' k d.bd).s) ys o:=fun xs o Q h=>by
 obtain⟨ys,e,h⟩:=h.el
 obtain⟨p,e2,h⟩:=(wsound H o.length d.bd).s _ _ h
 refine⟨p.1.out o.length p.2,by show (fxD d.ps.length d.df xs).bind _=_;rw [e];show ((den Γ' o.length d.bd).s (initS d.ln d.cn d.ps ys o)).map _=_;rw [e2];rfl,?_⟩
 obtain⟨f,s⟩:=p
 cases f with
 | ret r=>exact h
 | next=>exact wCut.ok (Q:=fun s=>Q (.val .none) s.o) h
noncomputable def SW(m:Nat)(tab:Nat→Option Fd)(orc:Nat→Option Sw):Nat→Nat→Sw
 | 0,f=>(orc f).getD fun _ _ _=>False
 | n+1,f=>match orc f with
  | some o=>o
  | none=>match tab f with
   | some d=>wFd m (SW m tab orc n) d
   | none=>fun _ _ _=>False
def Orc(tab:Nat→Option Fd)(c f:Nat)(o:Sw):Prop:=∀ n,ImS o (SP tab (n+c) f)
theorem SW_ok{m:Nat}{tab:Nat→Option Fd}{orc:Nat→Option Sw}{c:Nat}(H:∀ f o,orc f=some o→Orc tab c f o):∀ n f l,ImS (SW m tab orc n f) (SP tab (l+n+c) f)
 | 0,f,l=>by
  unfold SW
  cases e:orc f with
  | none=>exact fun _ _ _ h=>h.elim
  | some o=>exact H f o e l
 | n+1,f,l=>by
  unfold SW
  cases e:orc f with
  | some o=>exact H f o e (l+(n+1))
  | none=>
   have ih:=fun g=>SW_ok (m:=m) H n g l
   show ImS (match tab f with | some d=>wFd m (SW m tab orc n) d | none=>fun _ _ _=>False) _
   have e2:l+(n+1)+c=(l+n+c)+1:=by omega
   rw [e2]
   cases e1:tab f with
   | none=>exact fun _ _ _ h=>h.elim
   | some d=>
    intro xs o Q h
    have:=wFd_ok ih d xs o Q h
    simp only [SP,e1]
    exact this
theorem Orc.of(m:Nat){tab:Nat→Option Fd}{orc:Nat→Option Sw}{c c':Nat}(H:∀ f o,orc f=some o→Orc tab c f o){n f:Nat}{o:Sw}(hc:n+c=c')(h:∀ xs l Q,o xs l Q→SW m tab orc n f xs l Q):Orc tab c' f o:=fun l xs a Q q=>by
 have:=SW_ok (m:=m) H n f l xs a Q (h xs a Q q)
 subst hc
 rw [←Nat.add_assoc]
 exact this
noncomputable def tabL:List (Nat×Fd):=[(82,f82),(104,f104),(119,f119),(161,f161),(315,f315),(379,f379),(400,f400),(407,f407),(412,f412),(417,f417),(422,f422),(429,f429),(444,f444),(500,f500),(522,f522),(536,f536),(543,f543),(583,f583),(590,f590),(597,f597),(604,f604),(618,f618),(632,f632),(639,f639),(653,f653),(674,f674),(681,f681),(688,f688),(695,f695),(700,f700),(707,f707),(714,f714),(721,f721),(728,f728),(733,f733),(747,f747),(759,f759),(773,f773),(780,f780),(801,f801),(815,f815),(829,f829),(836,f836),(841,f841),(848,f848),(855,f855),(862,f862),(869,f869),(874,f874),(879,f879),(886,f886),(891,f891),(896,f896),(901,f901),(908,f908),(913,f913),(918,f918)]
noncomputable def tab(f:Nat):Option Fd:=tabL.lookup f
noncomputable def AllL{α:Type}:List α→(α→Prop)→Prop
 | [],_=>True
 | a::l,P=>P a∧AllL l P
theorem AllL.mem{α:Type}{P:α→Prop}:∀ {l:List α},AllL l P→∀ a∈l,P a
 | _::_,h,_,.head _=>h.1
 | _::_,h,_,.tail _ m=>AllL.mem h.2 _ m
theorem AllL.of{α:Type}{P:α→Prop}:∀ {l:List α},(∀ a∈l,P a)→AllL l P
 | [],_=>trivial
 | _::_,h=>⟨h _ (.head _),AllL.of fun a m=>h a (.tail _ m)⟩
def DrawQ(m:Nat)(P:Nat→Prop):Prop:=if m≤5 then AllL (List.range m) P else ∀ g,g < m→P g
theorem DrawQ.at{m:Nat}{P:Nat→Prop}(h:DrawQ m P){g:Nat}(hg:g < m):P g:=by
 unfold DrawQ at h
 by_cases e:m≤5
 ·rw [if_pos e] at h;exact h.mem g (List.mem_range.mpr hg)
 ·rw [if_neg e] at h;exact h g hg
def Pn(C:T)(s:Nat)(c:T):Prop:=(∃ l:List Int,C=.list (l.map .int)∧l.length≤1000)∧s < 1000∧∃ i:Nat,c=.int i∧i < 1000
def natM(t:T)(f:Nat→Prop):Prop:=match t with
 | .int (.ofNat n)=>f n
 | _=>False
theorem natM.el{t:T}{f:Nat→Prop}(h:natM t f):∃ n,t=.int (.ofNat n)∧f n:=by
 cases t with
 | int i=>cases i with
  | ofNat n=>exact⟨n,rfl,h⟩
  | negSucc n=>exact False.elim h
 | _=>exact False.elim h
def vN(v:V)(f:Nat→Prop):Prop:=match v with
 | .t x=>natM x f
 | _=>False
theorem vN.el{v:V}{f:Nat→Prop}(h:vN v f):∃ n,v=.t (.int (.ofNat n))∧f n:=by
 cases v with
 | t x=>exact ex12 (natM.el h) fun n e k=>⟨n,e▸rfl,k⟩
 | _=>exact False.elim h
def vD(v:V)(f:List (K×T)→Prop):Prop:=match v with
 | .t (.dict d)=>f d
 | _=>False
theorem vD.el{v:V}{f:List (K×T)→Prop}(h:vD v f):∃ n,v=.t (.dict n)∧f n:=by
 cases v with
 | t x=>cases x with
  | dict n=>exact⟨n,rfl,h⟩
  | _=>exact False.elim h
 | _=>exact False.elim h
def lz0(v:V)(p:Prop):Prop:=match v with
 | .loc 0=>p
 | _=>False
theorem lz0.el{v:V}{p:Prop}(h:lz0 v p):v=.loc 0∧p:=by
 cases v with
 | loc i=>cases i with
  | zero=>exact⟨rfl,h⟩
  | succ n=>exact False.elim h
 | _=>exact False.elim h
def pen3(xs:List T)(f:T→Nat→T→Prop):Prop:=match xs with
 | [C,t,c]=>natM t fun s=>f C s c
 | _=>False
theorem pen3.el{xs:List T}{f:T→Nat→T→Prop}(h:pen3 xs f):∃ C s c,xs=[C,.int (.ofNat s),c]∧f C s c:=by
 unfold pen3 at h
 split at h
 ·rename_i C t c
  exact ex12 (natM.el h) fun s e k=>⟨C,s,c,e▸rfl,k⟩
 ·exact h.elim
def penM(o:List MO)(f:T→Nat→T→List MO→Prop):Prop:=match o with
 | .list xs::r=>pen3 xs fun C s c=>f C s c r
 | _=>False
theorem penM.el{o:List MO}{f:T→Nat→T→List MO→Prop}(h:penM o f):∃ C s c r,o=.list [C,.int (.ofNat s),c]::r∧f C s c r:=by
 unfold penM at h
 split at h
 ·rename_i xs r
  obtain⟨C,s,c,rfl,k⟩:=pen3.el h
  exact⟨C,s,c,r,rfl,k⟩
 ·exact h.elim
noncomputable def O869:Sw:=fun xs o Q=>match xs with
 | [a,b]=>lz0 a (vN b fun m=>penM o fun C s c r=>Pn C s c∧0 < m∧DrawQ m fun g=>Q (.val (.int (.ofNat g))) (.list [C,.int (.ofNat (s+1)),c]::r))
 | _=>False
noncomputable def dg(n:Nat):List Nat:=strI (Int.ofNat n)
noncomputable def oc(l:List Nat):List UInt8:=l.map (·.toUInt8)
noncomputable def x522:X:=.vr (.bl 5 0 40 14 (.ac (.vl 1 ⟨288,22,288,26⟩) .a0) ⟨288,18,288,21⟩ ⟨288,18,288,27⟩)
theorem t522(orc)(n:Nat)(cs:List Nat)(o:List MO)(Q):wFd 1 (SW 1 tab orc n) f522 [.t (.str cs)] o Q =
 wCompL 1 (wden 1 (SW 1 tab orc n) o.length .f0).b (wden 1 (SW 1 tab orc n) o.length x522).v (cs.map fun c=>.t (.str [c])) ⟨[none,none],[],o⟩ fun r s'=>oP (gd (r.length≤16777216∧s'.cl.length=0) r) fun ys=>
  oP (opV (op1 opBytes) [.t (.list ys)] ⟨[some (.t (.str cs))],[],s'.o⟩) fun p=>oP (p.1.tr?.map V.t) fun v=>wRet 1 o.length v p.2 (wOut 1 o.length Q):=by kernel_rfl
theorem t522s(orc)(n k:Nat)(c:Nat)(xs:List V)(a b:Option V)(o:List MO)(K) :
 wCompL 1 (wden 1 (SW 1 tab orc n) k .f0).b (wden 1 (SW 1 tab orc n) k x522).v (.t (.str [c])::xs) ⟨[a,b],[],o⟩ K =
 wCompL 1 (wden 1 (SW 1 tab orc n) k .f0).b (wden 1 (SW 1 tab orc n) k x522).v xs ⟨[a,some (.t (.str [c]))],[],o⟩ fun r s'=>K (.int (.ofNat c)::r) s':=by kernel_rfl
theorem comp522(orc)(n k:Nat)(o:List MO)(a:Option V):∀ (cs:List Nat) (b:Option V) (K:List T→S→Prop),(∀ b',K (cs.map fun c=>.int (.ofNat c)) ⟨[a,b'],[],o⟩) →
  wCompL 1 (wden 1 (SW 1 tab orc n) k .f0).b (wden 1 (SW 1 tab orc n) k x522).v (cs.map fun c=>.t (.str [c])) ⟨[a,b],[],o⟩ K
 | [],b,K,h=>h b
 | c::cs,b,K,h=>by
  rw [List.map_cons,t522s]
  exact comp522 orc n k o a cs _ _ h
theorem asInts_map:∀ cs:List Nat,asInts (cs.map fun c=>.int (.ofNat c))=some (cs.map Int.ofNat)
 | []=>rfl
 | c::cs=>by
  show (asInts (cs.map _)).map _=_
  rw [asInts_map cs];rfl
noncomputable def O522:Sw:=fun xs o Q=>match xs with
 | [.t (.str cs)]=>(cs.length≤1000∧cs.all (fun c=>decide (c < 128))=true)∧Q (.val (.bytes (oc cs))) o
 | _=>False
theorem ok522:Orc tab 1 522 O522:=by
 refine .of 1 (orc:=fun _=>none) (c:=0) (fun _ _ e=>by cases e) (n:=1) rfl ?_
 intro xs o Q h
 unfold O522 at h
 split at h
 ·rename_i cs
  show wFd 1 (SW 1 tab (fun _=>none) 0) f522 [.t (.str cs)] o Q
  rw [t522]
  refine comp522 _ _ _ _ _ _ _ _ fun b'=>?_
  have hl:(cs.map fun c=>T.int (.ofNat c)).length≤16777216:=by rw [List.length_map];omega
  refine .mk (gd.ok ⟨hl,rfl⟩) ?_
  have e:opBytes (S.mk [some (.t (.str cs))] [] o) (.t (.list (cs.map fun c=>.int (.ofNat c))))=some (.bytes (oc cs)):=by
   show (asInts _).bind _=_
   rw [asInts_map]
   have h1:((cs.map Int.ofNat).all fun i=>decide (0≤i∧i < 256))=true:=by
    rw [List.all_map]
    refine List.all_eq_true.mpr fun c hc=>?_
    have:=List.all_eq_true.mp h.1.2 c hc
    simp only [decide_eq_true_eq] at this
    show decide (0≤(c:Int)∧(c:Int) < 256)=true
    rw [decide_eq_true_eq];omega
   have h2:(cs.map Int.ofNat).length≤1000000:=by rw [List.length_map];omega
   refine(gd.ok ⟨h1,h2⟩).trans ?_
   rw [List.map_map];rfl
  refine opV1 (Q:=fun r s=>oP (Option.map V.t r.tr?) fun v=>wRet 1 o.length v s (wOut 1 o.length Q)) (.mk e ?_)
  exact⟨rfl,h.2⟩
 ·exact h.elim
noncomputable def dgOk(n:Nat):Bool:=match dg n with
 | []=>false
 | l=>decide (l.length≤5) && l.all fun c=>decide (48≤c) && decide (c≤57)
theorem dg_all:(List.range 2000).all dgOk=true∧dgOk 65535=true∧dgOk 65536=true:=⟨by kernel_rfl,by kernel_rfl,by kernel_rfl⟩
def Dn(n:Nat):Prop:=n < 2000∨n=65535∨n=65536
structure Fig(l:List Nat):Prop where
 ne:l ≠ []
 len:l.length≤5
 num:∀ c∈l,48≤c∧c≤57
theorem dgF{n:Nat}(h:Dn n):Fig (dg n):=by
 have k:dgOk n=true:=by
  rcases h with h | rfl | rfl
  ·exact List.all_eq_true.mp dg_all.1 n (List.mem_range.mpr h)
  ·exact dg_all.2.1
  ·exact dg_all.2.2
 unfold dgOk at k
 split at k
 ·cases k
 ·rename_i l e
  rw [Bool.and_eq_true,decide_eq_true_eq,List.all_eq_true] at k
  refine⟨e,k.1,fun c hc=>?_⟩
  have:=k.2 c hc
  rw [Bool.and_eq_true,decide_eq_true_eq,decide_eq_true_eq] at this
  exact this
theorem dgL{n:Nat}(h:Dn n):(Int.ofNat n).natAbs.log2 < 1920:=by
 show n.log2 < 1920
 have h:n < 2 ^ 17:=by rcases h with h | rfl | rfl <;> omega
 by_cases e:n=0
 ·subst e;decide
 ·exact Nat.lt_of_lt_of_le ((Nat.log2_lt e).mpr h) (by decide)
theorem Fig.asc{l:List Nat}(h:Fig l):(l.all fun c=>decide (c < 128))=true:=List.all_eq_true.mpr fun c hc=>decide_eq_true (by have:=h.num c hc;omega)
noncomputable def db(n:Nat):List UInt8:=oc (dg n)
theorem oc_len(l:List Nat):(oc l).length=l.length:=List.length_map ..
theorem oc_app(a b:List Nat):oc (a++b)=oc a++oc b:=List.map_append
noncomputable def orcOf(l:List (Nat×Sw))(f:Nat):Option Sw:=l.lookup f
theorem Orc.up{c c' f:Nat}{o:Sw}(h:Orc tab c f o)(k:c≤c'):Orc tab c' f o:=fun n=>by
 have:=h (n+(c' - c))
 rwa [show n+(c' - c)+c=n+c' by omega] at this
theorem orcs_nil{c:Nat}:∀ f o,orcOf [] f=some o→Orc tab c f o:=fun _ _ e=>by cases e
theorem orcs_cons{c g:Nat}{p:Sw}{l:List (Nat×Sw)}(h:Orc tab c g p)(k:∀ f o,orcOf l f=some o→Orc tab c f o):∀ f o,orcOf ((g,p)::l) f=some o→Orc tab c f o:=fun f o e=>by
 unfold orcOf at e
 rw [List.lookup_cons] at e
 cases q:f == g with
 | true=>rw [q] at e;cases e;rw [eq_of_beq q];exact h
 | false=>rw [q] at e;exact k f o e
noncomputable abbrev L1:List (Nat×Sw):=[(522,O522)]
theorem L1_ok:∀ f o,orcOf L1 f=some o→Orc tab 1 f o:=orcs_cons ok522 orcs_nil
noncomputable def O543:Sw:=fun xs o Q=>match xs with
 | [.t (.int (.ofNat n))]=>Dn n∧Q (.val (.bytes (db n))) o
 | _=>False
theorem t543(n:Nat)(o:List MO)(Q):SW 1 tab (orcOf L1) 1 543 [.t (.int (.ofNat n))] o Q =
  cond (decide ((10:Int) ^ 40≤.ofNat n)) False ((Int.ofNat n).natAbs.log2 < 1920∧((dg n).length≤1000∧(dg n).all (fun c=>decide (c < 128))=true)∧o.length=o.length∧Q (.val (.bytes (oc (dg n)))) o):=by kernel_rfl
theorem ok543:Orc tab 2 543 O543:=by
 refine .of 1 L1_ok (n:=1) rfl fun xs o Q h=>?_
 unfold O543 at h
 split at h
 ·rename_i n
  have f:=dgF h.1
  have e:decide ((10:Int) ^ 40≤.ofNat n)=false:=decide_eq_false (by
   show ¬(10 ^ 40:Int)≤(n:Int)
   rcases h.1 with h | rfl | rfl <;> omega)
  rw [t543,e]
  exact⟨dgL h.1,⟨Nat.le_trans f.len (by decide),f.asc⟩,rfl,h.2⟩
 ·exact h.elim
noncomputable def wy(b:Bool):List Nat:=cond b [117,115,101,100] [102,114,101,101]
noncomputable def nEnd(b:Bool):List Nat:=cond b [32,110,32,10] [32,102,32,10]
noncomputable def fg(n:Nat)(w:Nat):List Nat:=rjustL (dg n) w 48
noncomputable def ln(b:Bool)(one two:Nat):List Nat:=((fg one 10++[32])++fg two 5)++nEnd b
noncomputable def ent(b:Bool)(one two:Nat):T:=.inst 663 [([119,97,121],.str (wy b)),([111,110,101],.int (.ofNat one)),([116,119,111],.int (.ofNat two))]
noncomputable def row(b:Bool)(one two:Nat):T:=.tup [.str (wy b),.int (.ofNat one),.int (.ofNat two)]
theorem t688(b:Bool)(n m:Nat)(o:List MO)(Q):SW 1 tab (orcOf L1) 2 688 [.t (ent b n m)] o Q =
    cond (!decide (Int.ofNat n≤9999999999)) False (cond (!decide (Int.ofNat m≤65535)) False
     ((Int.ofNat n).natAbs.log2 < 1920∧nAscii=nAscii∧(fg n 10 ≠ []∧(fg n 10).length≤1000000∧(fg n 10).all (fun c=>decide (c < 128))=true)∧o.length=o.length∧(oc (fg n 10)).length+1≤16777216 ∧
      (Int.ofNat m).natAbs.log2 < 1920∧nAscii=nAscii∧(fg m 5 ≠ []∧(fg m 5).length≤1000000∧(fg m 5).all (fun c=>decide (c < 128))=true)∧o.length=o.length∧(oc (fg n 10)++[32]).length+(oc (fg m 5)).length≤16777216 ∧
      ((oc (fg n 10)++[32])++oc (fg m 5)).length+4≤16777216∧o.length=o.length∧Q (.val (.bytes (((oc (fg n 10)++[32])++oc (fg m 5))++oc (nEnd b)))) o)):=by cases b <;> kernel_rfl
theorem t886(b:Bool)(n m:Nat)(o:List MO)(Q):SW 1 tab (orcOf L1) 1 886 [.t (row b n m)] o Q =
     ((Int.ofNat n).natAbs.log2 < 1920∧(fg n 10).length+1≤16777216∧(Int.ofNat m).natAbs.log2 < 1920∧(fg n 10++[32]).length+(fg m 5).length≤16777216 ∧
      ((fg n 10++[32])++fg m 5).length+4≤16777216∧o.length=o.length∧Q (.val (.str (ln b n m))) o):=by cases b <;> kernel_rfl
theorem fg_len{n w:Nat}:(fg n w).length≤(dg n).length+w:=by
 unfold fg rjustL
 split
 ·omega
 ·rw [List.length_append,List.length_replicate];omega
theorem fgF{n w:Nat}(h:Dn n)(hw:w≤10):fg n w ≠ []∧(fg n w).length≤15∧(fg n w).all (fun c=>decide (c < 128))=true:=by
 have f:=dgF h
 have l:=f.len
 refine⟨fun e=>?_,Nat.le_trans fg_len (by omega),?_⟩
 ·unfold fg rjustL at e
  split at e
  ·exact f.ne e
  ·exact f.ne (List.append_eq_nil_iff.mp e).2
 ·unfold fg rjustL
  split
  ·exact f.asc
  ·rw [List.all_append,f.asc,Bool.and_true]
   exact List.all_eq_true.mpr fun c hc=>by rw [List.eq_of_mem_replicate hc];rfl
theorem oc_ln(b:Bool)(n m:Nat):oc (ln b n m)=((oc (fg n 10)++[32])++oc (fg m 5))++oc (nEnd b):=by
 unfold ln
 rw [oc_app,oc_app,oc_app];rfl
noncomputable def isW(w:List Nat):Bool:=w == wy true
noncomputable def entOf:T→Option (Bool×Nat×Nat)
 | .inst _ [(_,.str w),(_,.int (.ofNat n)),(_,.int (.ofNat m))]=>some (isW w,n,m)
 | .tup [.str w,.int (.ofNat n),.int (.ofNat m)]=>some (isW w,n,m)
 | _=>none
noncomputable def O688:Sw:=fun xs o Q=>match xs with
 | [.t x]=>oP (entOf x) fun e=>(x=ent e.1 e.2.1 e.2.2∧Dn e.2.1∧Dn e.2.2∧e.2.2≤65535)∧Q (.val (.bytes (oc (ln e.1 e.2.1 e.2.2)))) o
 | _=>False
theorem ok688:Orc tab 3 688 O688:=by
 refine .of 1 L1_ok (n:=2) rfl fun xs o Q h=>?_
 unfold O688 at h
 split at h
 ·obtain⟨⟨b,n,m⟩,_,⟨rfl,hn,hm,hk⟩,q⟩:=h.el
  dsimp only at hn hm hk q ⊢
  have e1:decide (Int.ofNat n≤9999999999)=true:=decide_eq_true (by show (n:Int)≤_;rcases hn with h | rfl | rfl <;> omega)
  have e2:decide (Int.ofNat m≤65535)=true:=decide_eq_true (by show (m:Int)≤_;omega)
  have f:=fgF (w:=10) hn (by omega)
  have g:=fgF (w:=5) hm (by omega)
  rw [t688,e1,e2]
  have l1:(oc (fg n 10)).length+1≤16777216:=by rw [oc_len];omega
  have l2:(oc (fg n 10)++[32]).length+(oc (fg m 5)).length≤16777216:=by rw [List.length_append,oc_len,oc_len];show _+1+_≤_;omega
  have l3:((oc (fg n 10)++[32])++oc (fg m 5)).length+4≤16777216:=by rw [List.length_append,List.length_append,oc_len,oc_len];show _+1+_+_≤_;omega
  rw [oc_ln] at q
  exact⟨dgL hn,rfl,⟨f.1,by omega,f.2.2⟩,rfl,l1,dgL hm,rfl,⟨g.1,by omega,g.2.2⟩,rfl,l2,l3,rfl,q⟩
 ·exact h.elim
noncomputable def O886:Sw:=fun xs o Q=>match xs with
 | [.t x]=>oP (entOf x) fun e=>(x=row e.1 e.2.1 e.2.2∧Dn e.2.1∧Dn e.2.2)∧Q (.val (.str (ln e.1 e.2.1 e.2.2))) o
 | _=>False
theorem ok886:Orc tab 2 886 O886:=by
 refine .of 1 L1_ok (n:=1) rfl fun xs o Q h=>?_
 unfold O886 at h
 split at h
 ·obtain⟨⟨b,n,m⟩,_,⟨rfl,hn,hm⟩,q⟩:=h.el
  dsimp only at hn hm q ⊢
  have f:=fgF (w:=10) hn (by omega)
  have g:=fgF (w:=5) hm (by omega)
  rw [t886]
  have l1:(fg n 10).length+1≤16777216:=by omega
  have l2:(fg n 10++[32]).length+(fg m 5).length≤16777216:=by rw [List.length_append];show _+1+_≤_;omega
  have l3:((fg n 10++[32])++fg m 5).length+4≤16777216:=by rw [List.length_append,List.length_append];show _+1+_+_≤_;omega
  exact⟨dgL hn,l1,dgL hm,l2,l3,rfl,q⟩
 ·exact h.elim
noncomputable def vI(n:Nat):T:=.int (.ofNat n)
noncomputable def vL(l:List Nat):T:=.list (l.map vI)
inductive IsVal:T→Prop where
 | int (n:Nat):n < 300→IsVal (vI n)
 | list (l:List Nat):l.length≤3→(∀ x∈l,x < 20)→IsVal (vL l)
noncomputable def T.ints:List T→List (List Nat)
 | .int i::r=>strI i::T.ints r
 | _=>[]
noncomputable def lw:T→List Nat
 | .int i=>strI i
 | .list l=>joinL [32] ([[91]]++T.ints l++[[93]])
 | _=>[]
noncomputable def Lg:List Nat→Prop→Prop
 | [],P=>P
 | n::l,P=>(Int.ofNat n).natAbs.log2 < 1920∧Lg l P
noncomputable def rep(o:List MO):Nat→Prop→Prop
 | 0,P=>P
 | n+1,P=>o.length=o.length∧rep o n P
theorem Lg.mk:∀ {l:List Nat} {P:Prop},(∀ x∈l,x < 20)→P→Lg l P
 | [],_,_,p=>p
 | n::l,_,h,p=>⟨dgL (.inl (by have:=h n (.head _);omega)),Lg.mk (fun x m=>h x (.tail _ m)) p⟩
theorem rep.mk{o:List MO}:∀ {n:Nat} {P:Prop},P→rep o n P
 | 0,_,p=>p
 | _+1,_,p=>⟨rfl,rep.mk p⟩
theorem t879i(n:Nat)(o:List MO)(Q):SW 1 tab (orcOf L1) 1 879 [.t (vI n)] o Q=((Int.ofNat n).natAbs.log2 < 1920∧o.length=o.length∧Q (.val (.str (lw (vI n)))) o):=by kernel_rfl
theorem t879l(o:List MO)(Q):∀ l:List Nat,l.length≤3→SW 1 tab (orcOf L1) 1 879 [.t (vL l)] o Q =
  Lg l ((([[91]]++l.map dg++[[93]]).map (fun x:List Nat=>x.length)).sum+(2+l.length) * 1≤1000000∧o.length=o.length∧Q (.val (.str (lw (vL l)))) o)
 | [],_=>by kernel_rfl
 | [a],_=>by kernel_rfl
 | [a,b],_=>by kernel_rfl
 | [a,b,c],_=>by kernel_rfl
 | _::_::_::_::_,h=>absurd h (by simp)
theorem t417i(n:Nat)(o:List MO)(Q):SW 1 tab (orcOf L1) 3 417 [.t (vI n)] o Q=rep o 2 (Q (.val (vI n)) o):=by kernel_rfl
theorem t417l(o:List MO)(Q):∀ l:List Nat,l.length≤3→SW 1 tab (orcOf L1) 3 417 [.t (vL l)] o Q=rep o (2+2 * l.length) (Q (.val (vL l)) o)
 | [],_=>by kernel_rfl
 | [a],_=>by kernel_rfl
 | [a,b],_=>by kernel_rfl
 | [a,b,c],_=>by kernel_rfl
 | _::_::_::_::_,h=>absurd h (by simp)
theorem t707(n:Nat)(o:List MO)(Q):SW 1 tab (orcOf L1) 1 707 [.t (vI n)] o Q=((Int.ofNat n).natAbs.log2 < 1920∧nAscii=nAscii∧(dg n ≠ []∧(dg n).length≤1000000∧(dg n).all (fun c=>decide (c < 128))=true) ∧
  10+(oc (dg n)).length≤16777216∧([115,116,97,114,116,120,114,101,102,10]++oc (dg n)).length+7≤16777216∧o.length=o.length ∧
  Q (.val (.bytes (([115,116,97,114,116,120,114,101,102,10]++oc (dg n))++[10,37,37,69,79,70,10]))) o):=by kernel_rfl
noncomputable def O707:Sw:=fun xs o Q=>match xs with
 | [.t (.int (.ofNat n))]=>Dn n∧Q (.val (.bytes (([115,116,97,114,116,120,114,101,102,10]++oc (dg n))++[10,37,37,69,79,70,10]))) o
 | _=>False
theorem ok707:Orc tab 2 707 O707:=by
 refine .of 1 L1_ok (n:=1) rfl fun xs o Q h=>?_
 unfold O707 at h
 split at h
 ·rename_i n
  have f:=dgF h.1
  have l:=f.len
  have e:=t707 n o Q
  unfold vI at e
  rw [e]
  exact⟨dgL h.1,rfl,⟨f.ne,by omega,f.asc⟩,by rw [oc_len];omega,by rw [List.length_append,oc_len];show 10+_+7≤_;omega,rfl,h.2⟩
 ·exact h.elim
noncomputable def O879:Sw:=fun xs o Q=>match xs with
 | [.t x]=>IsVal x∧Q (.val (.str (lw x))) o
 | _=>False
theorem sum_le(f:List Nat→Nat)(b:Nat):∀ l:List (List Nat),(∀ x∈l,f x≤b)→(l.map f).sum≤l.length * b
 | [],_=>by simp
 | x::l,h=>by
  have:=sum_le f b l fun y m=>h y (.tail _ m)
  have:=h x (.head _)
  simp only [List.map_cons,List.sum_cons,List.length_cons,Nat.add_mul]
  omega
theorem ok879:Orc tab 2 879 O879:=by
 refine .of 1 L1_ok (n:=1) rfl fun xs o Q h=>?_
 unfold O879 at h
 split at h
 ·obtain⟨h,q⟩:=h
  cases h with
  | int n hn=>
   rw [t879i]
   exact⟨dgL (.inl (by omega)),rfl,q⟩
  | list l hl hx=>
   rw [t879l o Q l hl]
   refine .mk hx ⟨?_,rfl,q⟩
   have:=sum_le (fun x:List Nat=>x.length) 5 ([[91]]++l.map dg++[[93]]) (by
    intro x m
    simp only [List.mem_append,List.mem_cons,List.not_mem_nil,or_false,List.mem_map] at m
    rcases m with (rfl | ⟨n,hn,rfl⟩) | rfl
    ·decide
    ·exact(dgF (.inl (by have:=hx n hn;omega))).len
    ·decide)
   simp only [List.length_append,List.length_map,List.length_cons,List.length_nil] at this
   omega
 ·exact h.elim
noncomputable def O417:Sw:=fun xs o Q=>match xs with
 | [.t x]=>IsVal x∧Q (.val x) o
 | _=>False
theorem ok417:Orc tab 4 417 O417:=by
 refine .of 1 L1_ok (n:=3) rfl fun xs o Q h=>?_
 unfold O417 at h
 split at h
 ·obtain⟨h,q⟩:=h
  cases h with
  | int n hn=>
   rw [t417i]
   exact .mk q
  | list l hl hx=>
   rw [t417l o Q l hl]
   exact .mk q
 ·exact h.elim
noncomputable def penO(C c:T)(s:Nat):MO:=.list [C,.int (.ofNat s),c]
noncomputable abbrev L2:List (Nat×Sw):=[(869,O869)]
noncomputable def ListQ(C c:T):Nat→Nat→List T→(List T→Nat→Prop)→Prop
 | 0,s,acc,K=>K acc s
 | k+1,s,acc,K=>Pn C s c∧0 < 20∧∀ g,g < 20→ListQ C c k (s+1) (acc++[vI g]) K
theorem t874(C c:T)(s:Nat)(r:List MO)(Q):SW 1 tab (orcOf L2) 1 874 [.loc 0] (penO C c s::r) Q =
 (Pn C s c∧0 < 2∧(Pn C (s+1) c∧0 < 300∧∀ g,g < 300→rep (penO C c s::r) 1 (Q (.val (vI g)) (penO C c (s+2)::r))) ∧
  (Pn C (s+1) c∧0 < 4∧AllL [0,1,2,3] fun k=>ListQ C c k (s+2) [] fun l s'=>rep (penO C c s::r) 1 (Q (.val (.list l)) (penO C c s'::r)))∧True):=by kernel_rfl
theorem Pn.le{C c:T}{s s':Nat}(h:Pn C s c)(k:s'≤s):Pn C s' c:=⟨h.1,by have:=h.2.1;omega,h.2.2⟩
theorem ListQ.mk{C c:T}{K:List T→Nat→Prop}:∀ (k s:Nat) (acc:List T),Pn C (s+k) c→(∀ l:List Nat,l.length=k→(∀ x∈l,x < 20)→K (acc++l.map vI) (s+k))→ListQ C c k s acc K
 | 0,s,acc,_,h=>by have:=h [] rfl (fun _ m=>by cases m);rwa [List.map_nil,List.append_nil] at this
 | k+1,s,acc,p,h=>⟨p.le (by omega),by decide,fun g hg=>ListQ.mk k (s+1) (acc++[vI g]) (p.le (by omega)) fun l hl hx=>by
   have:=h (g::l) (by rw [List.length_cons,hl]) (fun x m=>by
    cases m with
    | head=>exact hg
    | tail _ m=>exact hx x m)
   rw [List.append_assoc]
   rw [show s+1+k=s+(k+1) by omega]
   exact this⟩
noncomputable def O874:Sw:=fun xs o Q=>match xs with
 | [a]=>lz0 a (penM o fun C s c r=>Pn C (s+6) c∧∀ v s',IsVal v→s≤s'→s'≤s+6→Q (.val v) (penO C c s'::r))
 | _=>False
theorem t869(l:List Int)(s m c:Nat)(r:List MO)(Q):SW 1 tab (orcOf []) 1 869 [.loc 0,.t (.int (.ofNat m))] (penO (.list (l.map .int)) (.int (.ofNat c)) s::r) Q =
 ((l.map T.int).length≤1000000∧cond (decide (Int.ofNat s < Int.ofNat (l.map T.int).length))
  (oP (itemV ⟨[some (.loc 0),some (.t (.int (.ofNat m))),some (.t (.int (.ofNat s)))],[],penO (.list (l.map .int)) (.int (.ofNat c)) (s+1)::r⟩ (.t (.list (l.map .int))) (.t (.int (.ofNat s)))) fun y=>wBinV .Mod y (.t (.int (.ofNat m))) fun t=>rep (penO (.list (l.map .int)) (.int (.ofNat c)) s::r) 1 (Q (.val t) (penO (.list (l.map .int)) (.int (.ofNat c)) (s+1)::r)))
  (wBinV .Mult (.t (.int (.ofNat s))) (.t (.int (.ofNat s))) fun t1=>wBinV .FloorDiv (.t t1) (.t (.int 3)) fun t2=>wBinV .Add (.t (.int (.ofNat c+7 * .ofNat s))) (.t t2) fun t3=>wBinV .Mod (.t t3) (.t (.int (.ofNat m))) fun t=>rep (penO (.list (l.map .int)) (.int (.ofNat c)) s::r) 1 (Q (.val t) (penO (.list (l.map .int)) (.int (.ofNat c)) (s+1)::r)))):=by kernel_rfl
theorem mod_lt{a:Int}{m:Nat}(h:0 < m):∃ g:Nat,g < m∧binV .Mod (.t (.int a)) (.t (.int (.ofNat m)))=some (.int (.ofNat g)):=by
 have hm:(0:Int) < (m:Int):=by omega
 refine⟨(a.fmod m).toNat,?_,?_⟩
 ·have:=Int.fmod_lt_of_pos a hm
  have:=Int.fmod_nonneg_of_pos a hm
  omega
 ·show gd ((m:Int) ≠ 0) (T.int (a.fmod m))=_
  rw [gd.ok (by omega),Int.ofNat_eq_natCast,Int.toNat_of_nonneg (Int.fmod_nonneg_of_pos a hm)]
theorem wMod{a:Int}{m:Nat}{Q:T→Prop}(h:0 < m)(q:∀ g:Nat,g < m→Q (.int (.ofNat g))):wBinV .Mod (.t (.int a)) (.t (.int (.ofNat m))) Q:=by
 obtain⟨g,hg,e⟩:=mod_lt (a:=a) h
 exact oP.mk e (q g hg)
theorem pyl3(x:Int):Builtin.divisionGoesByPylong x 3=false:=by kernel_rfl
theorem bits_lt{s:Nat}(h:s < 1000):Builtin.Int.intBits (Int.ofNat s)≤64:=by
 unfold Builtin.Int.intBits
 split
 ·omega
 ·rename_i e
  show s.log2+1≤64
  have:s ≠ 0:=fun q=>e (by rw [q];rfl)
  have:=(Nat.log2_lt this).mpr (show s < 2 ^ 10 by omega)
  omega
theorem wMulI{a b:Int}{Q:T→Prop}(h:Builtin.Int.intBits a≤64)(q:Q (.int (a * b))):wBinV .Mult (.t (.int a)) (.t (.int b)) Q:=by
 refine oP.mk (o:=binV .Mult (.t (.int a)) (.t (.int b))) (a:=.int (a * b)) ?_ q
 show Option.or (gd _ _) _=_
 rw [gd.ok h];rfl
theorem wDiv3{a:Int}{Q:T→Prop}(q:Q (.int (a.fdiv 3))):wBinV .FloorDiv (.t (.int a)) (.t (.int 3)) Q:=
 oP.mk (o:=binV .FloorDiv (.t (.int a)) (.t (.int 3))) (a:=.int (a.fdiv 3)) (by show gd ((3:Int) ≠ 0∧Builtin.divisionGoesByPylong a 3=false) (T.int (a.fdiv 3))=_;exact gd.ok ⟨by decide,pyl3 _⟩) q
theorem wAddI{a b:Int}{Q:T→Prop}(q:Q (.int (a+b))):wBinV .Add (.t (.int a)) (.t (.int b)) Q:=q
theorem pick_ok{α:Type}{xs:List α}{i:Int}{j:Nat}{x:α}(e1:seqIndex? i xs.length=some j)(e2:xs[j]?=some x)(h:i < 4611686018427387904∧-4611686018427387904≤i):pick xs i=some x:=by
 unfold pick gd
 rw [e1,Option.bind_some,e2,Option.bind_some,if_pos h]
theorem item_list{s:S}{xs:List T}{i:Int}{t:T}(h:pick xs i=some t):itemV s (.t (.list xs)) (.t (.int i))=some (.t t):=by
 unfold itemV itemT
 simp only [V.int?,V.tr?,T.int?,Option.bind_some,S.seq,T.list?,Option.some_or,h,Option.map_some]
theorem ok869:Orc tab 1 869 O869:=by
 refine .of 1 orcs_nil (c:=0) (n:=1) rfl fun xs o Q h=>?_
 unfold O869 at h
 split at h
 ·obtain⟨rfl,h⟩:=lz0.el h
  obtain⟨m,rfl,h⟩:=vN.el h
  obtain⟨C,s,c,r,rfl,⟨⟨l,rfl,hl⟩,hs,i,rfl,hi⟩,hm,q⟩:=penM.el h
  have e:=t869 l s m i r Q
  refine e.symm.mp ⟨by rw [List.length_map];omega,?_⟩
  by_cases hlt:s < l.length
  ·rw [decide_eq_true (show Int.ofNat s < Int.ofNat (l.map T.int).length by rw [List.length_map];show (s:Int) < (l.length:Int);omega)]
   refine oP.mk (a:=.t (.int l[s])) ?_ (wMod hm fun g hg=>⟨rfl,q.at hg⟩)
   have e1:seqIndex? (Int.ofNat s) (l.map T.int).length=some s:=by
    unfold seqIndex?
    simp only [Int.ofNat_eq_natCast,List.length_map]
    rw [if_neg (show ¬(s:Int) < 0 by omega),if_pos (by rw [Bool.and_eq_true,decide_eq_true_eq,decide_eq_true_eq];omega)]
    rfl
   have e2:(l.map T.int)[s]?=some (.int l[s]):=by rw [List.getElem?_map,List.getElem?_eq_getElem hlt];rfl
   have e3:pick (l.map T.int) (Int.ofNat s)=some (.int l[s]):=pick_ok e1 e2 (by simp only [Int.ofNat_eq_natCast];omega)
   exact item_list e3
  ·rw [decide_eq_false (show ¬Int.ofNat s < Int.ofNat (l.map T.int).length by rw [List.length_map];show ¬(s:Int) < (l.length:Int);omega)]
   exact wMulI (bits_lt hs) (wDiv3 (wAddI (wMod hm fun g hg=>⟨rfl,q.at hg⟩)))
 ·exact h.elim
theorem L2_ok:∀ f o,orcOf L2 f=some o→Orc tab 1 f o:=orcs_cons ok869 orcs_nil
theorem ok874:Orc tab 2 874 O874:=by
 refine .of 1 L2_ok (n:=1) rfl fun xs o Q h=>?_
 unfold O874 at h
 split at h
 ·obtain⟨rfl,h⟩:=lz0.el h
  obtain⟨C,s,c,r,rfl,p,q⟩:=penM.el h
  refine(t874 C c s r Q).symm.mp ⟨p.le (by omega),by decide,⟨p.le (by omega),by decide,fun g hg=>⟨rfl,q _ _ (.int g hg) (by omega) (by omega)⟩⟩,⟨p.le (by omega),by decide,.of fun k hk=>?_⟩,trivial⟩
  have hk:k≤3:=by
   simp only [List.mem_cons,List.not_mem_nil,or_false] at hk;omega
  exact ListQ.mk k (s+2) [] (p.le (by omega)) fun l hl hx=>⟨rfl,q _ _ (.list l (by omega) hx) (by omega) (by omega)⟩
 ·exact h.elim
noncomputable def X.ch:X→List X
 | .sc s r=>[s,r]
 | .fr _ r=>[.s0,r]
 | .sfo _ it b _=>[it,b]
 | .iv a=>[a]
 | .vr a=>[a]
 | .ss _ _ _ _ _ _ a _ _ _ _=>[a]
 | .aK _ _ _ _ _ _ _ _ elt _ _ _ _ _=>[elt]
 | .ife _ a _ _=>[a]
 | .re v _=>[v]
 | .chn _ _ a b c _=>[a,b,c]
 | _=>[]
noncomputable def X.hd(x:X):X:=x.ch.headD .s0
noncomputable def X.nx(x:X):X:=(x.ch.drop 1).headD .s0
noncomputable def X.bdy(x:X):X:=x.nx
noncomputable def kI(k:Nat):K:=.int (.ofNat k)
noncomputable def updF{α:Type}(f:Nat→α)(n:Nat)(x:α):Nat→α:=fun k=>if k=n then x else f k
noncomputable def insK(ks:List Nat)(n:Nat):List Nat:=if ks.contains n then ks else ks++[n]
noncomputable def mx(ks:List Nat):Nat:=ks.foldl max 0
noncomputable def spr(ks:List Nat):List Nat:=((List.range (mx ks)).drop 1).filter fun k=>!ks.contains k
noncomputable def gen(i:Nat):Nat:=[0,0,3,65535].getD i 0
noncomputable def objD(ks:List Nat)(g:Nat→Nat)(v:Nat→T):List (K×T):=ks.map fun k=>(kI k,.tup [vI (g k),v k])
noncomputable def stO(C c:T)(s:Nat)(ks:List Nat)(g:Nat→Nat)(v:Nat→T):List MO:=
  [penO C c s,.attrs [([117,115,101,100],.loc 3),([115,112,97,114,101],.loc 4),([119,97,115,95,115,112,97,114,101],.t (.dict [])),([104,111,108,100,101,114,115],.t (.dict [])),
    ([102,105,114,115,116,95,115,105,122,101],.t (vI 1)),([111,98,106,101,99,116,115],.loc 5),([102,114,101,101,100],.loc 6)],.inst 818 1,
   .dict (ks.map fun k=>(kI k,vI (g k))),.dict ((spr ks).map fun k=>(kI k,vI 0)),.dict (objD ks g v),.dict [],.dict (objD ks g v)]
noncomputable def stS(C c:T)(s:Nat)(ks:List Nat)(g:Nat→Nat)(v:Nat→T)(a b d e:Option V):S:=
 ⟨[some (.loc 0),some (.loc 2),a,b,d,e,none,none,none,none,none,none,none,none,none,none],[some (.loc 7),none,none],stO C c s ks g v⟩
noncomputable def ords2:List (List Nat):=[[],[1],[2],[3],[4],[1,2],[1,3],[1,4],[2,1],[2,3],[2,4],[3,1],[3,2],[3,4],[4,1],[4,2],[4,3]]
noncomputable def kindT:T→Option (List Nat)
 | .int _=>some [105,110,116]
 | .list _=>some [97,114,114,97,121]
 | .dict _=>some [100,105,99,116]
 | .inst 318 _=>some [110,97,109,101]
 | .inst 389 _=>some [114,101,102]
 | _=>none
noncomputable def O400:Sw:=fun xs o Q=>match xs with
 | [.t x]=>oP (kindT x) fun s=>Q (.val (.str s)) o
 | _=>False
theorem t400i(i:Int)(o:List MO)(Q):SW 1 tab (orcOf []) 1 400 [.t (.int i)] o Q=rep o 1 (Q (.val (.str [105,110,116])) o):=by kernel_rfl
theorem t400l(i:List T)(o:List MO)(Q):SW 1 tab (orcOf []) 1 400 [.t (.list i)] o Q=rep o 1 (Q (.val (.str [97,114,114,97,121])) o):=by kernel_rfl
theorem t400d(i:List (K×T))(o:List MO)(Q):SW 1 tab (orcOf []) 1 400 [.t (.dict i)] o Q=rep o 1 (Q (.val (.str [100,105,99,116])) o):=by kernel_rfl
theorem t400n(i:List (List Nat×T))(o:List MO)(Q):SW 1 tab (orcOf []) 1 400 [.t (.inst 318 i)] o Q=rep o 1 (Q (.val (.str [110,97,109,101])) o):=by kernel_rfl
theorem t400r(i:List (List Nat×T))(o:List MO)(Q):SW 1 tab (orcOf []) 1 400 [.t (.inst 389 i)] o Q=rep o 1 (Q (.val (.str [114,101,102])) o):=by kernel_rfl
theorem ok400:Orc tab 1 400 O400:=by
 refine .of 1 orcs_nil (c:=0) (n:=1) rfl fun xs o Q h=>?_
 unfold O400 at h
 split at h
 ·obtain⟨a,e,h⟩:=h.el
  unfold kindT at e
  split at e <;> cases e
  ·exact(t400i _ o Q).symm.mp ⟨rfl,h⟩
  ·exact(t400l _ o Q).symm.mp ⟨rfl,h⟩
  ·exact(t400d _ o Q).symm.mp ⟨rfl,h⟩
  ·exact(t400n _ o Q).symm.mp ⟨rfl,h⟩
  ·exact(t400r _ o Q).symm.mp ⟨rfl,h⟩
 ·exact h.elim
noncomputable def Lof(n:Nat)(m:Nat→MO):List MO:=(List.range n).map m
theorem ok_Lof(o:List MO):∃ m,o=Lof o.length m:=by
 refine⟨fun i=>o.getD i .gone,List.ext_getElem? fun i=>?_⟩
 unfold Lof
 by_cases h:i < o.length
 ·rw [List.getElem?_map,List.getElem?_range h,List.getElem?_eq_getElem h]
  show some o[i]=some (o.getD i .gone)
  rw [List.getD_eq_getElem?_getD,List.getElem?_eq_getElem h];rfl
 ·rw [List.getElem?_eq_none (by omega),List.getElem?_eq_none (by rw [List.length_map,List.length_range];omega)]
def LO(n:Nat)(o:List MO):Prop:=o.length=n∧Cl n o
theorem LO.el{n:Nat}{o:List MO}(h:LO n o){P:List MO→Prop}(k:∀ m,Cl n (Lof n m)→P (Lof n m)):P o:=by
 obtain⟨m,e⟩:=ok_Lof o
 obtain⟨rfl,h2⟩:=h
 rw [e] at h2 ⊢
 have hl:(Lof o.length m).length=o.length:=by unfold Lof;rw [List.length_map,List.length_range]
 rw [hl] at h2
 exact k m h2
theorem Cl.push{n:Nat}{o:List MO}(hl:o.length=n)(h:Cl n o)(l:List T):Cl (n+1) (o++[.list l]):=by
 unfold Cl at *
 rw [List.all_append,Bool.and_eq_true]
 refine⟨List.all_eq_true.mpr fun x hx=>?_,rfl⟩
 have:=List.all_eq_true.mp h x hx
 cases x with
 | inst C d=>exact decide_eq_true (Nat.lt_succ_of_lt (of_decide_eq_true this))
 | attrs es=>
  refine List.all_eq_true.mpr fun p hp=>?_
  have:=List.all_eq_true.mp this p hp
  revert this
  cases p.2 with
  | t=>exact id
  | loc i=>exact fun h=>decide_eq_true (Nat.lt_succ_of_lt (of_decide_eq_true h))
  | lst is=>exact fun h=>List.all_eq_true.mpr fun i hi=>decide_eq_true (Nat.lt_succ_of_lt (of_decide_eq_true (List.all_eq_true.mp h i hi)))
 | lists xs=>
  refine List.all_eq_true.mpr fun p hp=>?_
  have:=List.all_eq_true.mp this p hp
  revert this
  cases p with
  | t=>exact id
  | loc i=>exact fun h=>decide_eq_true (Nat.lt_succ_of_lt (of_decide_eq_true h))
  | lst is=>exact fun h=>List.all_eq_true.mpr fun i hi=>decide_eq_true (Nat.lt_succ_of_lt (of_decide_eq_true (List.all_eq_true.mp h i hi)))
 | list=>rfl
 | dict=>rfl
 | gone=>rfl
def cN(n:Nat)(m:Nat→MO)(P:Prop):Prop:=Cl n (Lof n m)∧P
def cP(n:Nat)(m:Nat→MO)(l:List (List UInt8))(P:Prop):Prop:=Cl (n+1) (Lof n m++[.list (l.map .bytes)])∧P
theorem cN.mk{n:Nat}{m:Nat→MO}{P:Prop}(h:Cl n (Lof n m))(p:P):cN n m P:=⟨h,p⟩
theorem cP.mk{n:Nat}{m:Nat→MO}{l:List (List UInt8)}{P:Prop}(h:Cl n (Lof n m))(p:P):cP n m l P:=⟨h.push (by unfold Lof;rw [List.length_map,List.length_range]) _,p⟩
noncomputable def partsQ(n:Nat)(m:Nat→MO):List (List UInt8)→List Nat→(List (List UInt8)→Prop)→Prop
 | acc,[],K=>K acc
 | acc,a::l,K=>Dn a∧cP n m acc (cP n m (acc++[db a]) (partsQ n m (acc++[db a]) l K))
noncomputable def jsum(l:List (List UInt8)):Nat:=(l.map (·.length)).sum+1 * l.length
def endQ(n:Nat)(m:Nat→MO)(l:List (List UInt8))(Q:Rv→List MO→Prop):Prop:=jsum l≤1000000∧cP n m l (cN n m (Q (.val (.bytes (joinL [32] l))) (Lof n m)))
theorem Lof_len(n:Nat)(m:Nat→MO):(Lof n m).length=n:=by unfold Lof;rw [List.length_map,List.length_range]
noncomputable def nRoot:List Nat:=[82,111,111,116]
noncomputable def nSize:List Nat:=[83,105,122,101]
noncomputable def nPrev:List Nat:=[80,114,101,118]
noncomputable def nInfo:List Nat:=[73,110,102,111]
noncomputable def nXR:List Nat:=[88,82,101,102,83,116,109]
noncomputable def nms:List (List Nat):=[nRoot,nInfo,nSize,nPrev,[97]]
noncomputable def nmQ(m:Nat→MO):List Nat→List Nat→Prop→Prop
 | _,[],P=>Cl 14 (Lof 14 m)∧P
 | acc,c::cs,P=>Cl 15 (Lof 14 m++[.list (acc.map vI)])∧nmQ m (acc++[c]) cs P
theorem t536(m:Nat→MO)(Q):nms.map (fun cs=>SW 2 tab (orcOf []) 2 536 [.t (.str cs)] (Lof 14 m) Q)=nms.map fun cs=>nmQ m [47] cs (Q (.val (.bytes (oc (47::cs)))) (Lof 14 m)):=by kernel_rfl
theorem nmQ.mk{m:Nat→MO}(h:Cl 14 (Lof 14 m)){P:Prop}(p:P):∀ (cs acc:List Nat),nmQ m acc cs P
 | [],_=>⟨h,p⟩
 | _::cs,_=>⟨h.push (Lof_len ..) _,nmQ.mk h p cs _⟩
theorem map_cut{α β:Type}{l:List α}{f g:α→β}(n:Nat)(h:(l.take n).map f=(l.take n).map g)(k:(l.drop n).map f=(l.drop n).map g):l.map f=l.map g:=by
 rw [←List.take_append_drop n l,List.map_append,List.map_append,h,k]
theorem map_at{α β:Type}{l:List α}{f g:α→β}(h:l.map f=l.map g){a:α}(m:a∈l):f a=g a:=List.map_inj_left.mp h a m
noncomputable def O536:Sw:=fun xs o Q=>match xs with
 | [.t (.str cs)]=>(LO 14 o∧nms.contains cs=true)∧Q (.val (.bytes (oc (47::cs)))) o
 | _=>False
theorem ok536:Orc tab 2 536 O536:=by
 refine .of 2 orcs_nil (c:=0) (n:=2) rfl fun xs o Q h=>?_
 unfold O536 at h
 split at h
 ·rename_i cs
  obtain⟨⟨h1,h2⟩,q⟩:=h
  revert q
  exact h1.el (P:=fun o=>Q (.val (.bytes (oc (47::cs)))) o→SW 2 tab (orcOf []) 2 536 [.t (.str cs)] o Q) fun m hm q=>(map_at (t536 m Q) (List.contains_iff_mem.mp h2)).symm.mp (nmQ.mk hm q _ _)
 ·exact h.elim
noncomputable abbrev L5:List (Nat×Sw):=[(400,O400),(543,O543),(536,O536)]
theorem L5_ok:∀ f o,orcOf L5 f=some o→Orc tab 2 f o:=orcs_cons (ok400.up (by decide)) (orcs_cons ok543 (orcs_cons ok536 orcs_nil))
noncomputable def refT:T:=.inst 389 [([110,117,109,98,101,114],.int 1),([103,101,110,101,114,97,116,105,111,110],.int 0)]
noncomputable def namT:T:=.inst 318 [([116,101,120,116],.str [97])]
noncomputable def kS(x:List Nat):K:=.str x
noncomputable def trD(i:Bool)(n p:Nat):List (K×T):=[(kS nRoot,refT)]++cond i [(kS nInfo,namT)] []++[(kS nSize,vI n),(kS nPrev,vI p)]
theorem partsQ.mk{n:Nat}{m:Nat→MO}(h:Cl n (Lof n m)){K:List (List UInt8)→Prop}:∀ {l:List Nat} {acc:List (List UInt8)},(∀ x∈l,Dn x)→K (acc++l.map db)→partsQ n m acc l K
 | [],acc,_,k=>by rwa [List.map_nil,List.append_nil] at k
 | a::l,acc,hx,k=>⟨hx a (.head _),.mk h (.mk h (partsQ.mk h (fun x m=>hx x (.tail _ m)) (by rw [List.append_assoc];exact k)))⟩
theorem endQ.mk{n:Nat}{m:Nat→MO}(h:Cl n (Lof n m)){l:List (List UInt8)}{Q:Rv→List MO→Prop}(hl:jsum l≤1000000)(q:Q (.val (.bytes (joinL [32] l))) (Lof n m)):endQ n m l Q:=⟨hl,.mk h (.mk h q)⟩
theorem oc_joinR(sep:List Nat):∀ l:List (List Nat),oc (joinR sep l)=joinR (oc sep) (l.map oc)
 | []=>rfl
 | x::l=>by
  show oc (sep++x++joinR sep l)=oc sep++oc x++joinR (oc sep) (l.map oc)
  rw [oc_app,oc_app,oc_joinR sep l]
theorem oc_joinL(sep:List Nat)(l:List (List Nat)):oc (joinL sep l)=joinL (oc sep) (l.map oc):=by
 cases l with
 | nil=>rfl
 | cons x l=>
  show oc (x++joinR sep l)=oc x++joinR (oc sep) (l.map oc)
  rw [oc_app,oc_joinR]
theorem ints_vI:∀ l:List Nat,T.ints (l.map vI)=l.map dg
 | []=>rfl
 | n::l=>congrArg (dg n::·) (ints_vI l)
theorem jsum_le{l:List (List UInt8)}(h:∀ x∈l,x.length≤5)(k:l.length≤20):jsum l≤1000000:=by
 have:∀ l:List (List UInt8),(∀ x∈l,x.length≤5)→(l.map (·.length)).sum≤l.length * 5:=fun l=>by
  induction l with
  | nil=>exact fun _=>Nat.le_refl _
  | cons x l ih=>
   intro h
   have h1:=ih fun y m=>h y (.tail _ m)
   have h2:=h x (.head _)
   simp only [List.map_cons,List.sum_cons,List.length_cons,Nat.add_mul]
   omega
 have:=this l h
 unfold jsum
 omega
theorem db_len{n:Nat}(h:Dn n):(db n).length≤5:=by unfold db;rw [oc_len];exact(dgF h).len
def kQ(m:Nat→MO)(l:List (List UInt8))(P:Prop):Prop:=(LO 14 (Lof 13 m++[.list (l.map .bytes)])∧true=true)∧P
theorem kQ.mk{m:Nat→MO}{l:List (List UInt8)}{P:Prop}(h:Cl 13 (Lof 13 m))(p:P):kQ m l P:=⟨⟨⟨by rw [List.length_append,Lof_len];rfl,h.push (Lof_len ..) _⟩,rfl⟩,p⟩
noncomputable def trA(i:Bool):List (List UInt8):=[[60,60]]++[oc (47::nRoot),db 1,db 0,[82]]++cond i [oc (47::nInfo),oc [47,97]] []
noncomputable def trB(i:Bool)(n p:Nat):List (List UInt8):=trA i++[oc (47::nSize),db n,oc (47::nPrev),db p,[62,62]]
theorem t632t(i:Bool)(n p:Nat)(m:Nat→MO)(Q):SW 2 tab (orcOf L5) 8 632 [.t (.dict (trD i n p)),.t (.bool false)] (Lof 13 m) Q =
    cP 13 m [] (cN 13 m (kQ m [[60,60]] (Dn 1∧Dn 0∧cP 13 m (trA false) (cP 13 m (trA false)
     ((fun P=>cond i (kQ m (trA false) (kQ m (trA false++[oc (47::nInfo)]) (cP 13 m (trA false++[oc (47::nInfo)]) (cP 13 m (trA true) P)))) P)
      (kQ m (trA i) (Dn n∧cP 13 m (trA i++[oc (47::nSize)]) (cP 13 m (trA i++[oc (47::nSize),db n]) (kQ m (trA i++[oc (47::nSize),db n]) (Dn p ∧
        cP 13 m (trA i++[oc (47::nSize),db n,oc (47::nPrev)]) (cP 13 m (trA i++[oc (47::nSize),db n,oc (47::nPrev),db p]) (cP 13 m (trB i n p) (cP 13 m (trB i n p) (endQ 13 m (trB i n p) Q)))))))))))))):=by cases i <;> kernel_rfl
inductive IsTr:T→Prop where
 | mk (i:Bool) (n p:Nat):Dn n→Dn p→IsTr (.dict (trD i n p))
noncomputable def woB:T→List UInt8
 | .dict [_,(_,.int (.ofNat n)),(_,.int (.ofNat p))]=>joinL [32] (trB false n p)
 | .dict [_,_,(_,.int (.ofNat n)),(_,.int (.ofNat p))]=>joinL [32] (trB true n p)
 | v=>oc (lw v)
noncomputable def O632:Sw:=fun xs o Q=>match xs with
 | [.t x,.t (.bool false)]=>((LO 14 o∧IsVal x)∨(LO 13 o∧IsTr x))∧Q (.val (.bytes (woB x))) o
 | _=>False
theorem Dn.lt{n:Nat}(h:n < 2000):Dn n:=.inl h
theorem mem_snoc{α:Type}{P:α→Prop}{l:List α}{a:α}(h:∀ x∈l,P x)(k:P a):∀ x∈l++[a],P x:=fun x m=>(List.mem_append.mp m).elim (h x) fun m=>List.mem_singleton.mp m▸k
theorem ok632:Orc tab 10 632 O632:=by
 refine .of 2 L5_ok (n:=8) rfl fun xs o Q h=>?_
 unfold O632 at h
 split at h
 ·rename_i x
  obtain⟨h | h,q⟩:=h
  ·revert q
   refine h.1.el (P:=fun o=>Q (.val (.bytes (woB x))) o→SW 2 tab (orcOf L5) 8 632 [.t x,.t (.bool false)] o Q) fun m hm q=>?_
   cases h.2 with
   | int n hn=>
    have e:SW 2 tab (orcOf L5) 8 632 [.t (vI n),.t (.bool false)] (Lof 14 m) Q=cN 14 m (partsQ 14 m [] [n] fun l=>endQ 14 m l Q):=by kernel_rfl
    rw [e]
    have hd:Dn n:=.lt (by omega)
    refine .mk hm (.mk hm (fun x h=>by rw [List.mem_singleton.mp h];exact hd) (.mk hm (jsum_le (fun x h=>by rw [List.mem_singleton.mp h];exact db_len hd) (Nat.le_of_ble_eq_true rfl)) ?_))
    have e2:joinL [32] ([]++[n].map db)=woB (vI n):=by
     show db n++[]=db n
     rw [List.append_nil]
    rw [e2];exact q
   | list l hl hx=>
    have e:SW 2 tab (orcOf L5) 8 632 [.t (vL l),.t (.bool false)] (Lof 14 m) Q=cP 14 m [] (cN 14 m (partsQ 14 m [[91]] l fun p=>cP 14 m (p++[[93]]) (endQ 14 m (p++[[93]]) Q))):=by
     match l,hl with
     | [],_=>kernel_rfl
     | [a],_=>kernel_rfl
     | [a,b],_=>kernel_rfl
     | [a,b,c],_=>kernel_rfl
     | _::_::_::_::_,h=>exact absurd h (by simp)
    rw [e]
    have hd:∀ x∈l,Dn x:=fun x m=>.lt (by have:=hx x m;omega)
    have e2:joinL [32] ([[91]]++l.map db++[[93]])=woB (vL l):=by
     show _=oc (joinL [32] ([[91]]++T.ints (l.map vI)++[[93]]))
     rw [ints_vI,oc_joinL,List.map_append,List.map_append,List.map_map];rfl
    refine .mk hm (.mk hm (.mk hm hd (.mk hm (.mk hm (jsum_le (mem_snoc (fun x m=>?_) (by decide)) ?_) (e2▸q)))))
    ·rcases List.mem_append.mp m with m | m
     ·rw [List.mem_singleton.mp m];decide
     ·obtain⟨n,hn,rfl⟩:=List.mem_map.mp m
      exact db_len (hd n hn)
    ·simp only [List.length_append,List.length_map,List.length_cons,List.length_nil];omega
  ·revert q
   refine h.1.el (P:=fun o=>Q (.val (.bytes (woB x))) o→SW 2 tab (orcOf L5) 8 632 [.t x,.t (.bool false)] o Q) fun m hm q=>?_
   cases h.2 with
   | mk i n p hn hp=>
    rw [t632t]
    have hj:jsum (trB i n p)≤1000000:=by
     have hA:∀ x∈trA i,x.length≤5:=by cases i <;> decide
     refine jsum_le (fun x m=>?_) (by cases i <;> exact Nat.le_of_ble_eq_true rfl)
     unfold trB at m
     rcases List.mem_append.mp m with m | m
     ·exact hA x m
     ·simp only [List.mem_cons,List.not_mem_nil,or_false] at m
      rcases m with rfl | rfl | rfl | rfl | rfl
      ·decide
      ·exact db_len hn
      ·decide
      ·exact db_len hp
      ·decide
    have q:Q (.val (.bytes (joinL [32] (trB i n p)))) (Lof 13 m):=by cases i <;> exact q
    have k:∀ {P:Prop},P→kQ m (trA i) P:=.mk hm
    have tl:=kQ.mk (l:=trA i) hm (And.intro hn (cP.mk (l:=trA i++[oc (47::nSize)]) hm (cP.mk (l:=trA i++[oc (47::nSize),db n]) hm (kQ.mk (l:=trA i++[oc (47::nSize),db n]) hm (And.intro hp (cP.mk (l:=trA i++[oc (47::nSize),db n,oc (47::nPrev)]) hm (cP.mk (l:=trA i++[oc (47::nSize),db n,oc (47::nPrev),db p]) hm (cP.mk (l:=trB i n p) hm (cP.mk (l:=trB i n p) hm (endQ.mk hm hj q))))))))))
    refine .mk hm (.mk hm (.mk hm ⟨.inl (by decide),.inl (by decide),.mk hm (.mk hm ?_)⟩))
    cases i with
    | false=>exact tl
    | true=>exact .mk hm (.mk hm (.mk hm (.mk hm tl)))
 ·exact h.elim
noncomputable abbrev L6:List (Nat×Sw):=[(543,O543),(632,O632)]
noncomputable def obB(n g:Nat)(v:T):List UInt8:=(((db n++[32])++db g)++[32,111,98,106,10])++woB v++[10,101,110,100,111,98,106,10]
theorem t639(n g:Nat)(v:T)(m:Nat→MO)(Q):SW 2 tab (orcOf L6) 1 639 [.t (vI n),.t (vI g),.t v,.t (.bool false)] (Lof 14 m) Q=(Dn n∧(db n).length+1≤16777216∧Dn g∧(db n++[32]).length+(db g).length≤16777216 ∧
   ((db n++[32])++db g).length+5≤16777216∧((LO 14 (Lof 14 m)∧IsVal v)∨(LO 13 (Lof 14 m)∧IsTr v))∧(((db n++[32])++db g)++[32,111,98,106,10]).length+(woB v).length≤16777216 ∧
   ((((db n++[32])++db g)++[32,111,98,106,10])++woB v).length+8≤16777216∧cN 14 m (Q (.val (.bytes (obB n g v))) (Lof 14 m))):=by kernel_rfl
theorem joinL_len(c:Nat)(l:List (List Nat)):(joinL [c] l).length≤(l.map (·.length)).sum+l.length:=by
 cases l with
 | nil=>exact Nat.zero_le _
 | cons x l=>
  show (x++joinR [c] l).length≤_
  rw [List.length_append,joinR_len]
  simp only [List.map_cons,List.sum_cons,List.length_cons,List.length_nil,Nat.zero_add,Nat.one_mul]
  omega
theorem lw_len{x:T}(h:IsVal x):(lw x).length≤30:=by
 cases h with
 | int n hn=>exact Nat.le_trans (dgF (n:=n) (.inl (by omega))).len (by decide)
 | list l hl hx=>
  show (joinL [32] ([[91]]++T.ints (l.map vI)++[[93]])).length≤30
  rw [ints_vI]
  refine Nat.le_trans (joinL_len ..) ?_
  have:=sum_le (fun x:List Nat=>x.length) 5 ([[91]]++l.map dg++[[93]]) (mem_snoc (fun x m=>by
   rcases List.mem_append.mp m with m | m
   ·rw [List.mem_singleton.mp m];decide
   ·obtain⟨n,hn,rfl⟩:=List.mem_map.mp m
    exact(dgF (.inl (by have:=hx n hn;omega))).len) (by decide))
  simp only [List.length_append,List.length_map,List.length_cons,List.length_nil] at this ⊢
  omega
theorem wo_val{x:T}(h:IsVal x):woB x=oc (lw x):=by cases h <;> rfl
theorem wo_len{x:T}(h:IsVal x):(woB x).length≤30:=by rw [wo_val h,oc_len];exact lw_len h
theorem ob_len{n g:Nat}{v:T}(hn:Dn n)(hg:Dn g)(hv:IsVal v):(obB n g v).length≤60:=by
 have:=db_len hn
 have:=db_len hg
 have:=wo_len hv
 unfold obB
 simp only [List.length_append,List.length_cons,List.length_nil]
 omega
noncomputable def rd639:List V→Option (Nat×Nat×T)
 | [.t (.int (.ofNat n)),.t (.int (.ofNat g)),.t v,_]=>some (n,g,v)
 | _=>none
noncomputable def O639:Sw:=fun xs o Q=>oP (rd639 xs) fun r=>(xs=[.t (vI r.1),.t (vI r.2.1),.t r.2.2,.t (.bool false)]∧LO 14 o∧Dn r.1∧Dn r.2.1∧IsVal r.2.2)∧Q (.val (.bytes (obB r.1 r.2.1 r.2.2))) o
theorem L6_ok:∀ f o,orcOf L6 f=some o→Orc tab 10 f o:=orcs_cons (ok543.up (by decide)) (orcs_cons ok632 orcs_nil)
theorem ok639:Orc tab 11 639 O639:=by
 refine .of 2 L6_ok (n:=1) rfl fun xs o Q h=>?_
 obtain⟨⟨n,g,v⟩,_,⟨rfl,h1,hn,hg,hv⟩,q⟩:=h.el
 dsimp only at hn hg hv q ⊢
 revert q
 refine h1.el (P:=fun o=>Q (.val (.bytes (obB n g v))) o→SW 2 tab (orcOf L6) 1 639 [.t (vI n),.t (vI g),.t v,.t (.bool false)] o Q) fun m hm q=>?_
 have l1:=db_len hn
 have l2:=db_len hg
 have l3:=wo_len hv
 rw [t639]
 refine⟨hn,by omega,hg,?_,?_,.inl ⟨⟨Lof_len ..,hm⟩,hv⟩,?_,?_,.mk hm q⟩ <;> simp only [List.length_append,List.length_cons,List.length_nil] <;> omega
noncomputable def LS(l:List T)(u sp ob:List (K×T))(fr:T):List MO:=[.list l,.attrs [([117,115,101,100],.t (.dict u)),([115,112,97,114,101],.t (.dict sp)),([119,97,115,95,115,112,97,114,101],.t (.dict [])),([104,111,108,100,101,114,115],.t (.dict [])),
  ([102,105,114,115,116,95,115,105,122,101],.t (vI 1)),([111,98,106,101,99,116,115],.t (.dict ob)),([102,114,101,101,100],.t fr)],.inst 818 1]++List.replicate 9 .gone
noncomputable def ords3:List (List Nat):=ords2++(ords2.filter fun l=>l.length == 2).flatMap fun l=>([1,2,3,4].filter fun k=>!l.contains k).map fun k=>l++[k]
noncomputable abbrev R:=Nat×Nat×T
noncomputable def rowT:K×T→Option R
 | (.int (.ofNat n),.tup [.int (.ofNat g),v])=>some (n,g,v)
 | _=>none
noncomputable def leR(a b:R):Bool:=Nat.ble a.1 b.1
noncomputable def rowsD(d:List (K×T)):List R:=sortO leR (d.filterMap rowT)
noncomputable def laidQ(L:List MO):Nat→List (List UInt8)→List (K×T)→List R→(List (List UInt8)→List (K×T)→Prop)→Prop
 | _,ps,es,[],K=>K ps es
 | at',ps,es,(n,g,v)::r,K=>([V.t (vI n),.t (vI g),.t v,.t (.bool false)]=[.t (vI n),.t (vI g),.t v,.t (.bool false)]∧LO 14 (L++[.list (ps.map .bytes),.dict es])∧Dn n∧Dn g∧IsVal v)∧(obB n g v).length≤1000000∧laidQ L (at'+(obB n g v).length) (ps++[obB n g v]) (es++[(kI n,ent true at' g)]) r K
noncomputable def jsum0(l:List (List UInt8)):Nat:=(l.map (·.length)).sum+0 * l.length
noncomputable abbrev L7:List (Nat×Sw):=[(639,O639)]
theorem t836(l:List T)(u sp ob:List (K×T))(fr:T)(g:Nat→Nat)(v:Nat→T)(b:Nat)(Q):ords3.map (fun ks=>SW 0 tab (orcOf L7) 3 836 [.t (.dict (objD ks g v)),.t (vI b)] (LS l u sp ob fr) Q)=ords3.map fun ks=>
  laidQ (LS l u sp ob fr) b [] [] (rowsD (objD ks g v)) fun ps es=>jsum0 ps≤1000000∧Q (.val (.tup [.bytes (joinL [] ps),.dict es])) (LS l u sp ob fr):=by kernel_rfl
noncomputable def obsR(rs:List R):List (List UInt8):=rs.map fun r=>obB r.1 r.2.1 r.2.2
noncomputable def entsR:Nat→List R→List (K×T)
 | _,[]=>[]
 | a,(n,g,v)::r=>(kI n,ent true a g)::entsR (a+(obB n g v).length) r
theorem laidQ.mk{L:List MO}{K:List (List UInt8)→List (K×T)→Prop}(hL:∀ (ps:List (List UInt8)) (es:List (Mine.K×T)),LO 14 (L++[.list (ps.map .bytes),.dict es])):∀ {rs:List R} {a:Nat} {ps:List (List UInt8)} {es:List (Mine.K×T)},
  (∀ r∈rs,Dn r.1∧Dn r.2.1∧IsVal r.2.2)→K (ps++obsR rs) (es++entsR a rs)→laidQ L a ps es rs K
 | [],a,ps,es,_,k=>by
  have k:K (ps++[]) (es++[]):=k
  rwa [List.append_nil,List.append_nil] at k
 | (n,g,v)::r,a,ps,es,h,k=>by
  obtain⟨h1,h2,h3⟩:=h _ (.head _)
  have hl:=ob_len h1 h2 h3
  refine⟨⟨rfl,hL ps es,h1,h2,h3⟩,Nat.le_trans hl (by decide),laidQ.mk hL (fun x m=>h x (.tail _ m)) ?_⟩
  rw [List.append_assoc,List.append_assoc]
  exact k
theorem ords3_ok:(ords3.all fun ks=>Nat.ble ks.length 3 && ks.all fun k=>Nat.ble 1 k && Nat.ble k 4)=true:=by kernel_rfl
theorem ords3_at{ks:List Nat}(h:ks∈ords3):ks.length≤3∧∀ k∈ks,1≤k∧k≤4:=by
 have:=List.all_eq_true.mp ords3_ok ks h
 rw [Bool.and_eq_true,List.all_eq_true] at this
 exact⟨Nat.le_of_ble_eq_true this.1,fun k m=>by have:=this.2 k m;rw [Bool.and_eq_true] at this;exact⟨Nat.le_of_ble_eq_true this.1,Nat.le_of_ble_eq_true this.2⟩⟩
theorem rows_mem{ks:List Nat}{g:Nat→Nat}{v:Nat→T}{r:R}(h:r∈rowsD (objD ks g v)):∃ k∈ks,r=(k,g k,v k):=by
 obtain⟨p,hp,e⟩:=List.mem_filterMap.mp (sortO_perm.mem_iff.mp h)
 obtain⟨k,hk,rfl⟩:=List.mem_map.mp hp
 cases e
 exact⟨k,hk,rfl⟩
theorem rows_len(ks:List Nat)(g:Nat→Nat)(v:Nat→T):(rowsD (objD ks g v)).length≤ks.length:=by
 unfold rowsD
 rw [sortO_perm.length_eq]
 refine Nat.le_trans (List.length_filterMap_le ..) ?_
 unfold objD;rw [List.length_map];exact Nat.le_refl _
structure Cfg(ks:List Nat)(g:Nat→Nat)(v:Nat→T):Prop where
 o:ks∈ords3
 g:∀ k∈ks,Dn (g k)∧g k≤65535
 v:∀ k∈ks,IsVal (v k)
theorem Cfg.rows{ks:List Nat}{g:Nat→Nat}{v:Nat→T}(c:Cfg ks g v):∀ r∈rowsD (objD ks g v),Dn r.1∧Dn r.2.1∧IsVal r.2.2:=fun r h=>by
 obtain⟨k,hk,rfl⟩:=rows_mem h
 have:=(ords3_at c.o).2 k hk
 exact⟨.inl (by show k < 2000;omega),(c.g k hk).1,c.v k hk⟩
noncomputable def rd836:List V→Option (List (K×T)×Nat)
 | [.t (.dict d),.t (.int (.ofNat b))]=>some (d,b)
 | _=>none
noncomputable def O836:Sw:=fun xs o Q=>oP (rd836 xs) fun r=>(xs=[.t (.dict r.1),.t (vI r.2)]∧(∃ ks g v,r.1=objD ks g v∧Cfg ks g v)∧∃ l u sp ob fr,o=LS l u sp ob fr)∧Q (.val (.tup [.bytes (joinL [] (obsR (rowsD r.1))),.dict (entsR r.2 (rowsD r.1))])) o
theorem L7_ok:∀ f o,orcOf L7 f=some o→Orc tab 11 f o:=orcs_cons ok639 orcs_nil
theorem sum_obs{rs:List R}(h:∀ r∈rs,Dn r.1∧Dn r.2.1∧IsVal r.2.2):((obsR rs).map (·.length)).sum≤rs.length * 60:=by
 induction rs with
 | nil=>exact Nat.le_refl _
 | cons r rs ih=>
  have h1:=ih fun x m=>h x (.tail _ m)
  obtain⟨a,b,c⟩:=h r (.head _)
  have h2:=ob_len a b c
  simp only [obsR,List.map_cons,List.sum_cons,List.length_cons,Nat.add_mul] at h1 h2 ⊢
  omega
theorem ok836:Orc tab 14 836 O836:=by
 refine .of 0 L7_ok (n:=3) rfl fun xs o Q h=>?_
 obtain⟨⟨d,b⟩,_,⟨rfl,⟨ks,g,v,e,c⟩,l,u,sp,ob,fr,rfl⟩,q⟩:=h.el
 dsimp only at e
 subst e
 refine(map_at (t836 l u sp ob fr g v b Q) c.o).symm.mp (laidQ.mk (L:=LS l u sp ob fr) (fun ps es=>⟨rfl,rfl⟩) c.rows ⟨?_,q⟩)
 have h1:=sum_obs c.rows
 have h2:=rows_len ks g v
 have h3:=(ords3_at c.o).1
 unfold jsum0
 rw [List.nil_append]
 have:(rowsD (objD ks g v)).length * 60≤3 * 60:=Nat.mul_le_mul_right _ (by omega)
 omega
noncomputable abbrev E:=Nat×Bool×Nat×Nat
noncomputable def entD(es:List E):List (K×T):=es.map fun e=>(kI e.1,ent e.2.1 e.2.2.1 e.2.2.2)
noncomputable def rowD(es:List E):List (K×T):=es.map fun e=>(kI e.1,row e.2.1 e.2.2.1 e.2.2.2)
noncomputable def laidE(ks:List Nat)(p q:Nat→Nat):List E:=ks.map fun k=>(k,true,p k,q k)
noncomputable def spD(sp:List (Nat×Nat)):List (K×T):=sp.map fun p=>(kI p.1,vI p.2)
noncomputable def sortN(l:List Nat):List Nat:=sortO Nat.ble l
noncomputable def chainE(sp:List (Nat×Nat)):List Nat→List E
 | []=>[]
 | n::r=>(n,false,r.headD 0,cond (Nat.beq n 0) 65535 ((sp.lookup n).getD 0))::chainE sp r
noncomputable def lineN(sp:List (Nat×Nat)):List Nat:=0::sortN ((sp.filter fun p=>Nat.blt p.2 65535).map (·.1))
noncomputable def rpt(C P:Prop):Nat→Prop
 | 0=>P
 | n+1=>C∧rpt C P n
theorem rpt.mk{C P:Prop}(c:C)(p:P):∀ n,rpt C P n
 | 0=>p
 | n+1=>⟨c,rpt.mk c p n⟩
def lnQ(sp:List (Nat×Nat))(P:Prop):Prop:=match sp with
 | []=>P
 | sp=>rpt ((lineN sp).length≤1000000) P ((lineN sp).length+1)
noncomputable def freeE(sp:List (Nat×Nat)):List E:=match sp with
 | []=>[]
 | sp=>chainE sp (lineN sp)++(sp.filter fun p=>!Nat.blt p.2 65535).map fun p=>(p.1,false,0,65535)
noncomputable def subs:List (List Nat):=ords3.filter fun l=>!l.isEmpty && sortN l == l
noncomputable def zs(l:List Nat):List (Nat×Nat):=l.map fun k=>(k,0)
noncomputable def cfgs:List (List Nat×List (Nat×Nat)):=subs.flatMap fun s=>(s,zs (spr s))::[1,4,65536].map fun c=>(s.tail,zs (spr s)++[(s.headD 0,c)])
def E815(x:List (List Nat×List (Nat×Nat))):Prop:=∀ (l:List T) (u ob:List (K×T)) (fr:T) (p q:Nat→Nat) (Q:Rv→List MO→Prop),x.map (fun c=>SW 0 tab (orcOf []) 5 815 [.loc 2,.t (.dict (entD (laidE c.1 p q)))] (LS l u (spD c.2) ob fr) Q) =
  x.map fun c=>lnQ c.2 (Q (.new (.dict (entD (laidE c.1 p q++freeE c.2)))) (LS l u (spD c.2) ob fr))
theorem ea:E815 (cfgs.take 20):=fun _ _ _ _ _ _ _=>by kernel_rfl
theorem eb:E815 ((cfgs.drop 20).take 20):=fun _ _ _ _ _ _ _=>by kernel_rfl
theorem ec:E815 ((cfgs.drop 20).drop 20):=fun _ _ _ _ _ _ _=>by kernel_rfl
theorem t815:E815 cfgs:=fun l u o r p q Q=>map_cut 20 (ea l u o r p q Q) (map_cut 20 (eb l u o r p q Q) (ec l u o r p q Q))
noncomputable abbrev L8:List (Nat×Sw):=[(688,O688),(632,O632)]
def oQ(n:Nat)(P:Prop):Prop:=(Int.ofNat n).natAbs.log2 < 1920∧nAscii=nAscii∧(dg n ≠ []∧(dg n).length≤1000000∧(dg n).all (fun c=>decide (c < 128))=true)∧P
noncomputable def rowsQ:List E→List (List UInt8)→(List (List UInt8)→Prop)→Prop
 | [],acc,K=>K acc
 | (_,b,n,m)::r,acc,K=>(ent b n m=ent (isW (wy b)) n m∧Dn n∧Dn m∧m≤65535)∧rowsQ r (acc++[oc (ln (isW (wy b)) n m)]) K
noncomputable def sortE(es:List E):List E:=sortO (fun a b=>Nat.ble a.1 b.1) es
noncomputable def fstE(es:List E):Nat:=(es.headD (0,false,0,0)).1
noncomputable def frsB(f c:Nat):List UInt8:=(((oc (dg f)++[32])++oc (dg c))++[10])
noncomputable def xrefB:List UInt8:=[120,114,101,102,10]
noncomputable def trlB:List UInt8:=[116,114,97,105,108,101,114,10]
def clsQ(L:List MO)(es:List E)(t:List (K×T))(Q:Rv→List MO→Prop):Prop:=
 oQ (fstE es) ((oc (dg (fstE es))).length+1≤16777216∧oQ es.length ((oc (dg (fstE es))++[32]).length+(oc (dg es.length)).length≤16777216∧((oc (dg (fstE es))++[32])++oc (dg es.length)).length+1≤16777216 ∧
  rowsQ es [xrefB,frsB (fstE es) es.length] fun ps=>((LO 14 (L++[.list (ps.map .bytes)])∧IsVal (.dict t))∨(LO 13 (L++[.list (ps.map .bytes)])∧IsTr (.dict t)))∧trlB.length+(woB (.dict t)).length≤16777216∧(trlB++woB (.dict t)).length+1≤16777216 ∧
   jsum0 (ps++[(trlB++woB (.dict t))++[10]])≤1000000∧Q (.val (.bytes (joinL [] (ps++[(trlB++woB (.dict t))++[10]])))) L))
theorem t695(l:List T)(u sp ob t:List (K×T))(fr:T)(p q:Nat→Nat)(Q):cfgs.map (fun c=>SW 0 tab (orcOf L8) 3 695 [.t (.dict (entD (laidE c.1 p q++freeE c.2))),.t (.dict t)] (LS l u sp ob fr) Q) =
  cfgs.map fun c=>clsQ (LS l u sp ob fr) (sortE (laidE c.1 p q++freeE c.2)) t Q:=by kernel_rfl
noncomputable def eOf:K×T→Option E
 | (.int (.ofNat n),x)=>(entOf x).map fun e=>(n,e)
 | _=>none
noncomputable def ents(d:List (K×T)):List E:=d.filterMap eOf
noncomputable def spOf:K×T→Option (Nat×Nat)
 | (.int (.ofNat n),.int (.ofNat m))=>some (n,m)
 | _=>none
noncomputable def spN(d:List (K×T)):List (Nat×Nat):=d.filterMap spOf
theorem isW_wy(b:Bool):isW (wy b)=b:=by cases b <;> rfl
theorem ents_entD:∀ es:List E,ents (entD es)=es
 | []=>rfl
 | (k,b,n,m)::es=>by
  show (k,isW (wy b),n,m)::ents (entD es)=_
  rw [isW_wy,ents_entD es]
theorem ents_rowD:∀ es:List E,ents (rowD es)=es
 | []=>rfl
 | (k,b,n,m)::es=>by
  show (k,isW (wy b),n,m)::ents (rowD es)=_
  rw [isW_wy,ents_rowD es]
theorem spN_spD:∀ l:List (Nat×Nat),spN (spD l)=l
 | []=>rfl
 | (a,b)::l=>congrArg ((a,b)::·) (spN_spD l)
noncomputable def rd815:List V→List MO→Option (List (K×T)×List T×List (K×T)×List (K×T)×List (K×T)×T)
 | [_,.t (.dict d)],.list l :: .attrs [(_,.t (.dict u)),(_,.t (.dict sp)),_,_,_,(_,.t (.dict ob)),(_,.t fr)]::_=>some (d,l,u,sp,ob,fr)
 | _,_=>none
noncomputable def O815:Sw:=fun xs o Q=>oP (rd815 xs o) fun(d,l,u,sp,ob,fr)=>(xs=[.loc 2,.t (.dict d)]∧o=LS l u sp ob fr∧∃ c∈cfgs,sp=spD c.2∧∃ p q,d=entD (laidE c.1 p q))∧Q (.new (.dict (d++entD (freeE (spN sp))))) o
theorem entD_app(a b:List E):entD (a++b)=entD a++entD b:=List.map_append
theorem ok815:Orc tab 6 815 O815:=by
 refine .of 0 orcs_nil (c:=1) (n:=5) rfl fun xs o Q h=>?_
 obtain⟨⟨d,l,u,sp,ob,fr⟩,_,⟨rfl,rfl,c,hc,rfl,p,q,rfl⟩,k⟩:=h.el
 refine(map_at (t815 l u ob fr p q Q) hc).symm.mp ?_
 rw [spN_spD,←entD_app] at k
 unfold lnQ
 have hl:∀ c∈cfgs,(lineN c.2).length≤1000000:=fun c hc=>Nat.le_of_ble_eq_true (List.all_eq_true.mp (by kernel_rfl:(cfgs.all fun c=>Nat.ble (lineN c.2).length 1000000)=true) c hc)
 have:=hl c hc
 split
 ·rename_i e1
  rw [e1] at k
  rw [e1];exact k
 ·exact rpt.mk this k _
structure Rw(es:List E):Prop where
 ok:∀ e∈es,Dn e.2.2.1∧Dn e.2.2.2∧e.2.2.2≤65535
noncomputable def lnB(e:E):List UInt8:=oc (ln e.2.1 e.2.2.1 e.2.2.2)
theorem rowsQ.mk{K:List (List UInt8)→Prop}:∀ {es:List E} {acc:List (List UInt8)},Rw es→K (acc++es.map lnB)→rowsQ es acc K
 | [],acc,_,k=>by rwa [List.map_nil,List.append_nil] at k
 | (a,b,n,m)::es,acc,h,k=>by
  obtain⟨h1,h2,h3⟩:=h.ok _ (.head _)
  refine⟨⟨by rw [isW_wy],h1,h2,h3⟩,rowsQ.mk ⟨fun e m=>h.ok e (.tail _ m)⟩ ?_⟩
  rw [isW_wy,List.append_assoc];exact k
theorem oQ.mk{n:Nat}{P:Prop}(h:Dn n)(p:P):oQ n P:=⟨dgL h,rfl,⟨(dgF h).ne,Nat.le_trans (dgF h).len (by decide),(dgF h).asc⟩,p⟩
theorem ln_len{b:Bool}{n m:Nat}(hn:Dn n)(hm:Dn m):(ln b n m).length≤40:=by
 have h1:=(fgF (w:=10) hn (by omega)).2.1
 have h2:=(fgF (w:=5) hm (by omega)).2.1
 unfold ln
 cases b <;> simp only [List.length_append,List.length_cons,List.length_nil,nEnd,cond] <;> omega
theorem trB_len{t:List (K×T)}(h:IsTr (.dict t)):(woB (.dict t)).length≤200:=by
  cases h with
  | mk i n p hn hp=>
    have h1:=db_len hn
    have h2:=db_len hp
    have e:woB (.dict (trD i n p))=joinL [32] (trB i n p):=by cases i <;> rfl
    rw [e]
    have hl:=joinR_len (α:=UInt8) [32]
    cases i <;> simp only [trB,trA,cond,List.cons_append,List.nil_append,List.append_nil,joinL,List.length_append,hl,List.map_cons,List.map_nil,List.sum_cons,List.sum_nil,List.length_cons,List.length_nil,oc_len,nRoot,nInfo,nSize,nPrev] <;>
      (have:(db 1).length=1:=by decide +kernel
       have:(db 0).length=1:=by decide +kernel
       omega)
noncomputable def clsL(es:List E)(t:List (K×T)):List (List UInt8):=[xrefB,frsB (fstE es) es.length]++es.map lnB++[(trlB++woB (.dict t))++[10]]
noncomputable def tblB(es:List E)(t:List (K×T)):List UInt8:=joinL [] (clsL es t)
theorem frs_len{f c:Nat}(hf:Dn f)(hc:Dn c):(frsB f c).length≤12:=by
 have h1:=(dgF hf).len
 have h2:=(dgF hc).len
 unfold frsB
 simp only [List.length_append,oc_len,List.length_cons,List.length_nil]
 omega
theorem sum_ln{es:List E}(h:Rw es):((es.map lnB).map (·.length)).sum≤es.length * 40:=by
 induction es with
 | nil=>exact Nat.le_refl _
 | cons e es ih=>
  have h1:=ih ⟨fun x m=>h.ok x (.tail _ m)⟩
  obtain⟨a,b,c⟩:=h.ok e (.head _)
  have h2:=ln_len (b:=e.2.1) a b
  simp only [List.map_cons,List.sum_cons,List.length_cons,Nat.add_mul,lnB,oc_len] at h1 h2 ⊢
  omega
theorem cls_len{es:List E}{t:List (K×T)}(hf:Dn (fstE es))(hc:es.length≤100)(h:Rw es)(ht:IsTr (.dict t)):((clsL es t).map (·.length)).sum≤5000:=by
 have h1:=frs_len hf (.inl (by omega):Dn es.length)
 have h2:=sum_ln h
 have h3:=trB_len ht
 unfold clsL
 simp only [List.map_append,List.sum_append,List.map_cons,List.map_nil,List.sum_cons,List.sum_nil,List.length_append,List.length_cons,List.length_nil,xrefB,trlB] at h1 h2 h3 ⊢
 have:es.length * 40≤4000:=by omega
 omega
theorem clsQ.mk{L:List MO}{es:List E}{t:List (K×T)}{Q:Rv→List MO→Prop}(hL:∀ ps:List (List UInt8),LO 13 (L++[.list (ps.map .bytes)]))(hf:Dn (fstE es))(hc:es.length≤100)(h:Rw es)(ht:IsTr (.dict t))(q:Q (.val (.bytes (tblB es t))) L):clsQ L es t Q:=by
 have hn:Dn es.length:=.inl (by omega)
 have h1:=(dgF hf).len
 have h2:=(dgF hn).len
 have h3:=trB_len ht
 have h4:=cls_len hf hc h ht
 refine oQ.mk hf ⟨by rw [oc_len];omega,oQ.mk hn ⟨?_,?_,rowsQ.mk h ⟨.inr ⟨hL _,ht⟩,?_,?_,?_,q⟩⟩⟩
 ·simp only [List.length_append,oc_len,List.length_cons,List.length_nil];omega
 ·simp only [List.length_append,oc_len,List.length_cons,List.length_nil];omega
 ·simp only [trlB,List.length_cons,List.length_nil];omega
 ·simp only [trlB,List.length_append,List.length_cons,List.length_nil];omega
 ·unfold jsum0
  unfold clsL at h4
  omega
theorem cfgs_ok:(cfgs.all fun c=>c.1.all (fun k=>Nat.blt k 2000) && (freeE c.2).all fun e=>Nat.blt e.1 2000 && (Nat.blt e.2.2.1 2000 && (Nat.blt e.2.2.2 2000 || Nat.beq e.2.2.2 65535)))=true:=by kernel_rfl
theorem cfgs_len:(cfgs.all fun c=>Nat.ble (c.1.length+(freeE c.2).length) 100)=true:=by kernel_rfl
theorem cfgs_at{c:List Nat×List (Nat×Nat)}(hc:c∈cfgs){p q:Nat→Nat}(h:∀ k∈c.1,Dn (p k)∧Dn (q k)∧q k≤65535):Dn (fstE (sortE (laidE c.1 p q++freeE c.2)))∧(sortE (laidE c.1 p q++freeE c.2)).length≤100∧Rw (sortE (laidE c.1 p q++freeE c.2)):=by
 have h1:=List.all_eq_true.mp cfgs_ok c hc
 have h2:=Nat.le_of_ble_eq_true (List.all_eq_true.mp cfgs_len c hc)
 rw [Bool.and_eq_true,List.all_eq_true,List.all_eq_true] at h1
 have hm:∀ e∈sortE (laidE c.1 p q++freeE c.2),Dn e.1∧Dn e.2.2.1∧Dn e.2.2.2∧e.2.2.2≤65535:=fun e he=>by
  rcases List.mem_append.mp (sortO_perm.mem_iff.mp he) with m | m
  ·obtain⟨k,hk,rfl⟩:=List.mem_map.mp m
   exact⟨.inl (by have:=h1.1 k hk;simpa using this),h k hk⟩
  ·have:=h1.2 e m
   simp only [Bool.and_eq_true,Bool.or_eq_true,Nat.blt_eq,Nat.beq_eq] at this
   obtain⟨a,b,c⟩:=this
   exact⟨.inl a,.inl b,c.elim (fun c=>⟨.inl c,by omega⟩) fun c=>⟨.inr (.inl c),by omega⟩⟩
 refine⟨?_,?_,⟨fun e he=>(hm e he).2⟩⟩
 ·unfold fstE
  generalize sortE (laidE c.1 p q++freeE c.2)=l at hm
  cases l with
  | nil=>exact .inl (by decide)
  | cons e l=>exact(hm e (.head _)).1
 ·unfold sortE
  rw [sortO_perm.length_eq,List.length_append]
  unfold laidE;rw [List.length_map];exact h2
noncomputable def rd695:List V→Option (List (K×T)×List (K×T))
 | [.t (.dict d),.t (.dict t)]=>some (d,t)
 | _=>none
noncomputable def O695:Sw:=fun xs o Q=>oP (rd695 xs) fun(d,t)=>(xs=[.t (.dict d),.t (.dict t)]∧(∃ c∈cfgs,∃ p q,d=entD (laidE c.1 p q++freeE c.2)∧∀ k∈c.1,Dn (p k)∧Dn (q k)∧q k≤65535)∧IsTr (.dict t)∧∃ l u sp ob fr,o=LS l u sp ob fr)∧Q (.val (.bytes (tblB (sortE (ents d)) t))) o
theorem L8_ok:∀ f o,orcOf L8 f=some o→Orc tab 10 f o:=orcs_cons (ok688.up (by decide)) (orcs_cons ok632 orcs_nil)
theorem ok695:Orc tab 13 695 O695:=by
 refine .of 0 L8_ok (n:=3) rfl fun xs o Q h=>?_
 obtain⟨⟨d,t⟩,_,⟨rfl,⟨c,hc,p,q,rfl,hk⟩,ht,l,u,sp,ob,fr,rfl⟩,k⟩:=h.el
 rw [ents_entD] at k
 obtain⟨h1,h2,h3⟩:=cfgs_at hc hk
 exact(map_at (t695 l u sp ob t fr p q Q) hc).symm.mp (clsQ.mk (fun ps=>⟨rfl,rfl⟩) h1 h2 h3 ht k)
noncomputable def opt1(b:Bool)(k:List Nat)(x:T):List (K×T):=cond b [(kS k,x)] []
noncomputable def trI(x:List Bool)(r a:T):List (K×T):=match x with
 | [b1,b2,b3,b4]=>[(kS nRoot,r)]++opt1 b1 nSize a++opt1 b2 nPrev a++opt1 b3 nInfo a++opt1 b4 nXR a
 | _=>[]
noncomputable def bits:List (List Bool):=[false,true].flatMap fun a=>[false,true].flatMap fun b=>[false,true].flatMap fun c=>[false,true].map fun d=>[a,b,c,d]
noncomputable def hasI(d:List (K×T)):Bool:=dHas (kS nInfo) d
theorem t841(l:List T)(u sp ob:List (K×T))(fr:T)(n p:Nat)(Q):bits.map (fun x=>SW 0 tab (orcOf []) 1 841 [.t (.dict (trI x refT namT)),.t (vI n),.t (vI p)] (LS l u sp ob fr) Q) =
  bits.map fun x=>Q (.new (.dict (trD (hasI (trI x refT namT)) n p))) (LS l u sp ob fr):=by kernel_rfl
noncomputable def O841:Sw:=fun xs o Q=>match xs with
 | [a,b,c]=>vD a fun d=>vN b fun n=>vN c fun p=>((∃ x∈bits,d=trI x refT namT)∧∃ l u sp ob fr,o=LS l u sp ob fr)∧Q (.new (.dict (trD (hasI d) n p))) o
 | _=>False
theorem ok841:Orc tab 2 841 O841:=by
 refine .of 0 orcs_nil (c:=1) (n:=1) rfl fun xs o Q h=>?_
 unfold O841 at h
 split at h
 ·obtain⟨_,rfl,h⟩:=vD.el h
  obtain⟨_,rfl,h⟩:=vN.el h
  obtain⟨_,rfl,⟨⟨x,hx,rfl⟩,l,u,sp,ob,fr,rfl⟩,k⟩:=vN.el h
  exact(map_at (t841 l u sp ob fr _ _ Q) hx).symm.mp k
 ·exact h.elim
noncomputable def gone(ks:List Nat):Nat:=(sortN ks).headD 0
noncomputable def remO(c:List Nat×Option Nat):List Nat:=match c.2 with
 | none=>c.1
 | some _=>c.1.filter fun k=>!Nat.beq k (gone c.1)
noncomputable def remS(c:List Nat×Option Nat):List (Nat×Nat):=match c.2 with
 | none=>zs (spr c.1)
 | some n=>zs (spr c.1)++[(gone c.1,n)]
noncomputable def gcfg:List (List Nat×Option Nat):=(ords3.filter fun l=>!l.isEmpty).flatMap fun l=>[(l,none),(l,some 1),(l,some 4),(l,some 65536)]
noncomputable def useD(ks:List Nat)(g:Nat→Nat):List (K×T):=ks.map fun k=>(kI k,vI (g k))
noncomputable def keyN:K×T→Option Nat
 | (.int (.ofNat n),_)=>some n
 | _=>none
noncomputable def sizeD(u sp:List (K×T)):Nat:=([1]++(u.filterMap keyN).map (·+1)++(sp.filterMap keyN).map (·+1)).foldl max 0
noncomputable def tailB(n:Nat):List UInt8:=([115,116,97,114,116,120,114,101,102,10]++oc (dg n))++[10,37,37,69,79,70,10]
noncomputable def bodyB(rs:List R):List UInt8:=joinL [] (obsR rs)
noncomputable def allE(b:Nat)(rs:List R)(sp:List (Nat×Nat)):List E:=ents (entsR b rs)++freeE sp
noncomputable abbrev L9:List (Nat×Sw):=[(836,O836),(815,O815),(841,O841),(695,O695),(707,O707)]
def secQ(L:List MO)(u sp ob t:List (K×T))(p b:Nat)(Q:Rv→List MO→Prop):Prop:=
  O836 [.t (.dict ob),.t (vI b)] L fun _ _=>(bodyB (rowsD ob)).length≤1000000∧O815 [.loc 2,.t (.dict (entsR b (rowsD ob)))] L fun _ _=>O841 [.t (.dict t),.t (vI (sizeD u sp)),.t (vI p)] L fun _ _=>
    O695 [.t (.dict (entsR b (rowsD ob)++entD (freeE (spN sp)))),.t (.dict (trD (hasI t) (sizeD u sp) p))] L fun r _=>oP (r.tr?.bind T.byt?) fun y=>(bodyB (rowsD ob)).length+y.length≤16777216 ∧
     Dn (b+(bodyB (rowsD ob)).length)∧(bodyB (rowsD ob)++y).length+(tailB (b+(bodyB (rowsD ob)).length)).length≤16777216∧Q (.val (.bytes ((bodyB (rowsD ob)++y)++tailB (b+(bodyB (rowsD ob)).length)))) L
theorem t848(l:List T)(fr:T)(g:Nat→Nat)(v:Nat→T)(p b:Nat)(Q)(x:List Bool)(hx:x∈bits):gcfg.map (fun c=>SW 0 tab (orcOf L9) 3 848 [.loc 2,.t (.dict (trI x refT namT)),.t (vI p),.t (vI b)] (LS l (useD (remO c) g) (spD (remS c)) (objD (remO c) g v) fr) Q) =
   gcfg.map fun c=>secQ (LS l (useD (remO c) g) (spD (remS c)) (objD (remO c) g v) fr) (useD (remO c) g) (spD (remS c)) (objD (remO c) g v) (trI x refT namT) p b Q:=by kernel_rfl
theorem gcfg_ok:(gcfg.all fun c=>ords3.contains (remO c) && cfgs.contains (sortN (remO c),remS c))=true:=by kernel_rfl
theorem gcfg_at{c:List Nat×Option Nat}(h:c∈gcfg):remO c∈ords3∧(sortN (remO c),remS c)∈cfgs:=by
 have:=List.all_eq_true.mp gcfg_ok c h
 rw [Bool.and_eq_true] at this
 exact⟨List.contains_iff_mem.mp this.1,List.contains_iff_mem.mp this.2⟩
noncomputable def offR:Nat→List R→Nat→Nat
 | _,[],_=>0
 | a,(n,g,v)::r,k=>cond (Nat.beq k n) a (offR (a+(obB n g v).length) r k)
theorem ents_off(g:Nat→Nat)(v:Nat→T)(b:Nat):gcfg.map (fun c=>entsR b (rowsD (objD (remO c) g v)))=gcfg.map fun c=>entD (laidE (sortN (remO c)) (offR b (rowsD (objD (remO c) g v))) g):=by kernel_rfl
theorem off_le{k:Nat}:∀ {rs:List R} {a:Nat},(∀ r∈rs,Dn r.1∧Dn r.2.1∧IsVal r.2.2)→offR a rs k≤a+rs.length * 60
 | [],a,_=>Nat.zero_le _
 | (n,g,v)::r,a,h=>by
  obtain⟨h1,h2,h3⟩:=h _ (.head _)
  have hl:=ob_len h1 h2 h3
  dsimp only at hl
  have ih:=off_le (k:=k) (rs:=r) (a:=a+(obB n g v).length) fun x m=>h x (.tail _ m)
  unfold offR
  cases Nat.beq k n <;> simp only [cond,List.length_cons,Nat.add_mul] <;> omega
theorem ents_app(a b:List (K×T)):ents (a++b)=ents a++ents b:=List.filterMap_append ..
theorem joinR0:∀ l:List (List UInt8),joinR [] l=l.flatten
 | []=>rfl
 | x::l=>by show []++x++joinR [] l=_;rw [joinR0 l];rfl
theorem joinL0(l:List (List UInt8)):joinL [] l=l.flatten:=by
 cases l with
 | nil=>rfl
 | cons x l=>show x++joinR [] l=_;rw [joinR0];rfl
theorem body_len{rs:List R}(h:∀ r∈rs,Dn r.1∧Dn r.2.1∧IsVal r.2.2):(bodyB rs).length≤rs.length * 60:=by
 unfold bodyB
 rw [joinL0,List.length_flatten]
 exact sum_obs h
noncomputable def secB(u sp ob t:List (K×T))(p b:Nat):List UInt8:=(bodyB (rowsD ob)++tblB (sortE (allE b (rowsD ob) (spN sp))) (trD (hasI t) (sizeD u sp) p))++tailB (b+(bodyB (rowsD ob)).length)
structure Sec(c:List Nat×Option Nat)(g:Nat→Nat)(v:Nat→T)(x:List Bool)(p b:Nat):Prop where
 m:c∈gcfg
 bt:x∈bits
 o:Cfg (remO c) g v
 pl:p < 500
 bl:b < 1000
theorem sizes_ok(g:Nat→Nat):gcfg.map (fun c=>Nat.ble (sizeD (useD (remO c) g) (spD (remS c))) 5)=gcfg.map fun _=>true:=by kernel_rfl
theorem rows3{c:List Nat×Option Nat}{g:Nat→Nat}{v:Nat→T}{x:List Bool}{p b:Nat}(s:Sec c g v x p b):(rowsD (objD (remO c) g v)).length≤3:=Nat.le_trans (rows_len ..) (ords3_at s.o.o).1
theorem tail_len{n:Nat}(h:Dn n):(tailB n).length≤30:=by
 have:=(dgF h).len
 unfold tailB
 simp only [List.length_append,oc_len,List.length_cons,List.length_nil]
 omega
theorem tbl_len{es:List E}{t:List (K×T)}(hf:Dn (fstE es))(hc:es.length≤100)(h:Rw es)(ht:IsTr (.dict t)):(tblB es t).length≤5000:=by
 unfold tblB
 rw [joinL0,List.length_flatten]
 exact cls_len hf hc h ht
theorem sec_tbl{c:List Nat×Option Nat}{g:Nat→Nat}{v:Nat→T}{x:List Bool}{p b:Nat}(s:Sec c g v x p b):∃ f,entsR b (rowsD (objD (remO c) g v))=entD (laidE (sortN (remO c)) f g)∧∀ k∈sortN (remO c),Dn (f k)∧Dn (g k)∧g k≤65535:=by
 refine⟨_,map_at (ents_off g v b) s.m,fun k hk=>?_⟩
 have h1:=off_le (k:=k) (a:=b) s.o.rows
 have h2:=rows3 s
 have h3:=s.bl
 have h4:=s.o.g k ((sortO_perm (le:=Nat.ble)).mem_iff.mp hk)
 exact⟨.inl (by omega),h4⟩
noncomputable def rd848:List V→List MO→Option (List (K×T)×Nat×Nat×List T×List (K×T)×List (K×T)×List (K×T)×T)
 | [_,.t (.dict t),.t (.int (.ofNat p)),.t (.int (.ofNat b))],.list l :: .attrs [(_,.t (.dict u)),(_,.t (.dict sp)),_,_,_,(_,.t (.dict ob)),(_,.t fr)]::_=>some (t,p,b,l,u,sp,ob,fr)
 | _,_=>none
noncomputable def O848:Sw:=fun xs o Q=>oP (rd848 xs o) fun(t,p,b,l,u,sp,ob,fr)=>
  (xs=[.loc 2,.t (.dict t),.t (vI p),.t (vI b)]∧o=LS l u sp ob fr∧∃ c g v x,Sec c g v x p b∧t=trI x refT namT∧u=useD (remO c) g∧sp=spD (remS c)∧ob=objD (remO c) g v)∧Q (.val (.bytes (secB u sp ob t p b))) o
theorem L9_ok:∀ f o,orcOf L9 f=some o→Orc tab 14 f o:=orcs_cons ok836 (orcs_cons (ok815.up (by decide)) (orcs_cons (ok841.up (by decide)) (orcs_cons (ok695.up (by decide)) (orcs_cons (ok707.up (by decide)) orcs_nil))))
theorem ok848:Orc tab 17 848 O848:=by
 refine .of 0 L9_ok (n:=3) rfl fun xs o Q h=>?_
 obtain⟨⟨t,p,b,l,u,sp,ob,fr⟩,_,⟨rfl,rfl,c,g,v,x,s,rfl,rfl,rfl,rfl⟩,k⟩:=h.el
 refine(map_at (t848 l fr g v p b Q x s.bt) s.m).symm.mp ?_
 obtain⟨f,e1,hf⟩:=sec_tbl s
 obtain⟨g1,g2⟩:=gcfg_at s.m
 have hb:=body_len s.o.rows
 have hr:=rows3 s
 have sz:=Nat.le_of_ble_eq_true (map_at (sizes_ok g) s.m)
 have hp:=s.pl
 have hb':=s.bl
 have htr:IsTr (.dict (trD (hasI (trI x refT namT)) (sizeD (useD (remO c) g) (spD (remS c))) p)):=.mk _ _ _ (.inl (by omega)) (.inl (by omega))
 have hd:Dn (b+(bodyB (rowsD (objD (remO c) g v))).length):=.inl (by omega)
 have ht:=tail_len hd
 have ee:ents (entsR b (rowsD (objD (remO c) g v))++entD (freeE (spN (spD (remS c)))))=allE b (rowsD (objD (remO c) g v)) (spN (spD (remS c))):=by
  rw [ents_app,ents_entD];rfl
 have ea:allE b (rowsD (objD (remO c) g v)) (spN (spD (remS c)))=laidE (sortN (remO c)) f g++freeE (remS c):=by
  unfold allE
  rw [e1,ents_entD,spN_spD]
 have hc:=cfgs_at g2 hf
 have htb:(tblB (sortE (allE b (rowsD (objD (remO c) g v)) (spN (spD (remS c))))) (trD (hasI (trI x refT namT)) (sizeD (useD (remO c) g) (spD (remS c))) p)).length≤5000:=by
  rw [ea]
  exact tbl_len hc.1 hc.2.1 hc.2.2 htr
 refine⟨⟨rfl,⟨_,g,v,rfl,s.o⟩,_,_,_,_,_,rfl⟩,by omega,⟨rfl,rfl,(_,remS c),g2,rfl,f,g,e1⟩,⟨⟨x,s.bt,rfl⟩,_,_,_,_,_,rfl⟩,⟨rfl,⟨_,g2,f,g,by rw [e1,spN_spD,entD_app],hf⟩,htr,_,_,_,_,_,rfl⟩,?_⟩
 rw [ee]
 refine⟨by omega,hd,?_,k⟩
 rw [List.length_append];omega
noncomputable abbrev L10:List (Nat×Sw):=[(886,O886)]
def lgQ(n:Nat)(P:Prop):Prop:=(Int.ofNat n).natAbs.log2 < 1920∧P
def adQ(a b:List Nat)(P:Prop):Prop:=a.length+b.length≤16777216∧P
noncomputable def xrefT:List Nat:=[120,114,101,102,10]
noncomputable def linQ:List E→List Nat→(List Nat→Prop)→Prop
 | [],w,K=>K w
 | (_,b,n,m)::r,w,K=>(row b n m=row (isW (wy b)) n m∧Dn n∧Dn m)∧adQ w (ln (isW (wy b)) n m) (linQ r (w++ln (isW (wy b)) n m) K)
def tabQ(es:List E)(K:List Nat→Prop):Prop:=
  lgQ (fstE es) (adQ xrefT (dg (fstE es)) (adQ (xrefT++dg (fstE es)) [32] (es.length≤1000000∧lgQ es.length (adQ ((xrefT++dg (fstE es))++[32]) (dg es.length) (adQ (((xrefT++dg (fstE es))++[32])++dg es.length) [10]
   (linQ es ((((xrefT++dg (fstE es))++[32])++dg es.length)++[10]) K))))))
theorem t891(o:List MO)(p q:Nat→Nat)(Q):cfgs.map (fun c=>SW 1 tab (orcOf L10) 2 891 [.t (.dict (rowD (laidE c.1 p q++freeE c.2)))] o Q)=cfgs.map fun c=>tabQ (sortE (laidE c.1 p q++freeE c.2)) fun w=>rep o 1 (Q (.val (.str w)) o):=by kernel_rfl
noncomputable def tabT(es:List E):List Nat:=es.foldl (fun w e=>w++ln e.2.1 e.2.2.1 e.2.2.2) ((((xrefT++dg (fstE es))++[32])++dg es.length)++[10])
theorem linQ.mk{K:List Nat→Prop}:∀ {es:List E} {w:List Nat},Rw es→w.length+es.length * 40≤16777216→K (es.foldl (fun w e=>w++ln e.2.1 e.2.2.1 e.2.2.2) w)→linQ es w K
 | [],w,_,_,k=>k
 | (a,b,n,m)::es,w,h,hl,k=>by
  obtain⟨h1,h2,h3⟩:=h.ok _ (.head _)
  have h4:=ln_len (b:=b) h1 h2
  dsimp only at h4
  simp only [List.length_cons,Nat.add_mul] at hl
  refine⟨⟨by rw [isW_wy],h1,h2⟩,?_⟩
  rw [isW_wy]
  exact⟨by omega,linQ.mk ⟨fun e m=>h.ok e (.tail _ m)⟩ (by rw [List.length_append];omega) k⟩
theorem tabQ.mk{es:List E}{K:List Nat→Prop}(hf:Dn (fstE es))(hc:es.length≤100)(h:Rw es)(k:K (tabT es)):tabQ es K:=by
 have hn:Dn es.length:=.inl (by omega)
 have h1:=(dgF hf).len
 have h2:=(dgF hn).len
 have l1:(xrefT++dg (fstE es)).length≤10:=by rw [List.length_append];show 5+_≤_;omega
 have l2:((xrefT++dg (fstE es))++[32]).length≤11:=by rw [List.length_append];show _+1≤_;omega
 have l3:(((xrefT++dg (fstE es))++[32])++dg es.length).length≤16:=by rw [List.length_append];omega
 have l4:((((xrefT++dg (fstE es))++[32])++dg es.length)++[10]).length≤17:=by rw [List.length_append];show _+1≤_;omega
 exact⟨dgL hf,by show 5+_≤_;omega,by show _+1≤_;omega,by omega,dgL hn,by omega,by show _+1≤_;omega,.mk h (by omega) k⟩
noncomputable def O891:Sw:=fun xs o Q=>oP ((one? xs).bind V.tr?) fun x=>oP x.dict? fun d=>(xs=[.t (.dict d)]∧∃ c∈cfgs,∃ p q,d=rowD (laidE c.1 p q++freeE c.2)∧∀ k∈c.1,Dn (p k)∧Dn (q k)∧q k≤65535)∧Q (.val (.str (tabT (sortE (ents d))))) o
theorem L10_ok:∀ f o,orcOf L10 f=some o→Orc tab 2 f o:=orcs_cons ok886 orcs_nil
theorem ok891:Orc tab 4 891 O891:=by
 refine .of 1 L10_ok (n:=2) rfl fun xs o Q h=>?_
 obtain⟨x,_,h⟩:=h.el
 obtain⟨d,_,⟨rfl,c,hc,p,q,rfl,hk⟩,k⟩:=h.el
 rw [ents_rowD] at k
 obtain⟨h1,h2,h3⟩:=cfgs_at hc hk
 exact(map_at (t891 o p q Q) hc).symm.mp (.mk h1 h2 h3 (.mk k))
noncomputable def LW(l:List T)(u sp ob fr tr:List (K×T)):List MO:=[.list l,.attrs [([117,115,101,100],.loc 3),([115,112,97,114,101],.loc 4),([119,97,115,95,115,112,97,114,101],.t (.dict [])),([104,111,108,100,101,114,115],.t (.dict [])),
  ([102,105,114,115,116,95,115,105,122,101],.t (vI 1)),([111,98,106,101,99,116,115],.loc 5),([102,114,101,101,100],.loc 6)],.inst 818 1,.dict u,.dict sp,.dict ob,.dict fr,.gone,.gone,.gone,.dict tr,.gone]
noncomputable def objT:List Nat:=[32,111,98,106,10]
noncomputable def endT:List Nat:=[10,101,110,100,111,98,106,10]
noncomputable def obW(w:List Nat)(n g:Nat)(v:T):List Nat:=(((((w++dg n)++[32])++dg g)++objT)++lw v)++endT
noncomputable def objQ:List R→List Nat→(List Nat→Prop)→Prop
 | [],w,K=>K w
 | (n,g,v)::r,w,K=>w.length≤1000000∧lgQ n (adQ w (dg n) (adQ (w++dg n) [32] (lgQ g (adQ ((w++dg n)++[32]) (dg g) (adQ (((w++dg n)++[32])++dg g) objT (IsVal v∧adQ ((((w++dg n)++[32])++dg g)++objT) (lw v)
   (adQ (((((w++dg n)++[32])++dg g)++objT)++lw v) endT (objQ r (obW w n g v) K))))))))
noncomputable def bodyT(rs:List R):List Nat:=rs.foldl (fun w r=>obW w r.1 r.2.1 r.2.2) []
noncomputable def lrw(b:Nat):List Nat→List R→List E
 | _,[]=>[]
 | w,(n,g,v)::r=>(n,true,b+w.length,g)::lrw b (obW w n g v) r
noncomputable def rT:List Nat:=[49,32,48,32,82]
noncomputable def sT:List Nat:=[47,97]
def kepQ(i:Bool)(P:Prop):Prop:=adQ [47] nRoot (adQ ([47]++nRoot) [32] (adQ (([47]++nRoot)++[32]) rT (cond i (adQ [47] nInfo (adQ ([47]++nInfo) [32] (adQ (([47]++nInfo)++[32]) sT P))) P)))
noncomputable def kepT(i:Bool):List (List Nat):=[(([47]++nRoot)++[32])++rT]++cond i [(([47]++nInfo)++[32])++sT] []
noncomputable def sizT:List Nat:=[47,83,105,122,101,32]
noncomputable def preT:List Nat:=[47,80,114,101,118,32]
noncomputable def endL(i:Bool)(n p:Nat):List (List Nat):=kepT i++[sizT++dg n,preT++dg p]
noncomputable def endsT(i:Bool)(n p:Nat):List Nat:=joinL [32] (endL i n p)
noncomputable def trlT:List Nat:=[116,114,97,105,108,101,114,10,60,60,32]
noncomputable def gtT:List Nat:=[32,62,62,10]
noncomputable def staT:List Nat:=[115,116,97,114,116,120,114,101,102,10]
noncomputable def eofT:List Nat:=[10,37,37,69,79,70,10]
noncomputable def finT(w tb:List Nat)(a:Nat)(e:List Nat):List Nat:=(((((((w++tb)++trlT)++e)++gtT)++staT)++dg a)++eofT)
noncomputable def X.drp:Nat→X→X
 | 0,x=>x
 | n+1,.sc _ r=>r.drp n
 | _+1,x=>x
noncomputable def X.tk:Nat→X→X
 | 0,_=>.s0
 | n+1,.sc s r=>.sc s (r.tk n)
 | _+1,_=>.s0
noncomputable def wK(K:S→Prop)(Q:Fl→S→Prop):Fl→S→Prop
 | .next,s=>K s
 | .ret r,s=>Q (.ret r) s
theorem wden_sc(m:Nat)(Γ:Nat→Sw)(k:Nat)(s r:X)(t:S)(Q:Fl→S→Prop):(wden m Γ k (.sc s r)).s t Q=(wden m Γ k s).s t (wK (fun t=>(wden m Γ k r).s t Q) Q):=by
 show (wden m Γ k s).s t _=_
 congr 1
 funext f t
 cases f <;> rfl
theorem wden_cut(m:Nat)(Γ:Nat→Sw)(k:Nat):∀ (n:Nat) (x:X) (t:S) (Q:Fl→S→Prop),(wden m Γ k x).s t Q=(wden m Γ k (x.tk n)).s t (wK (fun t=>(wden m Γ k (x.drp n)).s t Q) Q)
 | 0,x,t,Q=>rfl
 | n+1,x,t,Q=>by
  cases x with
  | sc s r=>
   show _=(wden m Γ k (.sc s (r.tk n))).s t (wK (fun t=>(wden m Γ k (r.drp n)).s t Q) Q)
   rw [wden_sc,wden_sc]
   congr 1
   funext f t
   cases f with
   | next=>exact wden_cut m Γ k n r t Q
   | ret r=>rfl
  | _=>rfl
noncomputable def dS(od fd t n p b:V)(w rw nu ge va a:Option V)(L:List MO):S:=⟨[some od,some fd,some n,some p,some b,w,rw,nu,ge,va,a,none,none],[some t],L⟩
noncomputable abbrev L11:List (Nat×Sw):=[(879,O879),(891,O891)]
noncomputable abbrev G11:Nat→Sw:=SW 0 tab (orcOf L11) 1
noncomputable def lastO{α:Type}(rs:List R)(f:R→α):Option α:=(rs.getLast?).map f
theorem t896a(l:List T)(u sp ob fr tr:List (K×T))(g:Nat→Nat)(v:Nat→T)(t n p:V)(b:Nat)(Q:Fl→S→Prop):gcfg.map (fun c=>(wden 0 G11 12 (f896.bd.tk 4)).s (dS (.t (.dict (objD (remO c) g v))) (.t (.dict (rowD (freeE (remS c))))) t n p (.t (vI b)) none none none none none none (LW l u sp ob fr tr)) Q) =
   gcfg.map fun c=>objQ (rowsD (objD (remO c) g v)) [] fun w=>w.length≤1000000∧Q .next (dS (.t (.dict (objD (remO c) g v))) (.t (.dict (rowD (freeE (remS c))))) t n p (.t (vI b)) (some (.t (.str w))) (some (.loc 12))
     ((((freeE (remS c)).getLast?).map fun e=>.t (vI e.1)).or (lastO (rowsD (objD (remO c) g v)) fun r=>.t (vI r.1))) (lastO (rowsD (objD (remO c) g v)) fun r=>.t (vI r.2.1)) (lastO (rowsD (objD (remO c) g v)) fun r=>.t r.2.2) (some (.t (vI (b+w.length))))
       (LW l u sp ob fr tr++[.dict (rowD (lrw b [] (rowsD (objD (remO c) g v))++freeE (remS c)))])):=by kernel_rfl
def endQ6(L:List MO)(d:List (K×T))(i:Bool)(n p a:Nat)(w:List Nat)(Q:Rv→List MO→Prop):Prop:=
 kepQ i (lgQ n (adQ sizT (dg n) (lgQ p (adQ preT (dg p) (((endL i n p).map (·.length)).sum+(endL i n p).length * 1≤1000000 ∧
  O891 [.t (.dict d)] (L++[.gone]) fun r _=>oP (r.tr?.bind T.str?) fun tb=>adQ w tb (adQ (w++tb) trlT (adQ ((w++tb)++trlT) (endsT i n p) (adQ (((w++tb)++trlT)++endsT i n p) gtT
   (adQ ((((w++tb)++trlT)++endsT i n p)++gtT) staT (lgQ a (adQ (((((w++tb)++trlT)++endsT i n p)++gtT)++staT) (dg a) (adQ ((((((w++tb)++trlT)++endsT i n p)++gtT)++staT)++dg a) eofT
    (nAscii=nAscii∧(finT w tb a (endsT i n p) ≠ []∧(finT w tb a (endsT i n p)).length≤1000000∧(finT w tb a (endsT i n p)).all (fun c=>decide (c < 128))=true)∧Q (.val (.bytes (oc (finT w tb a (endsT i n p))))) L)))))))))))))
theorem t896b(l:List T)(u sp ob fr tr d:List (K×T))(od fd:V)(nu ge va:Option V)(b:V)(n' p' a:Nat)(w:List Nat)(Q):bits.map (fun x=>(wden 0 G11 12 (f896.bd.drp 4)).s (dS od fd (.t (.dict (trI x (.str rT) (.str sT)))) (.t (vI n')) (.t (vI p')) b (some (.t (.str w))) (some (.loc 12)) nu ge va (some (.t (vI a))) (LW l u sp ob fr tr++[.dict d])) (wOut 0 12 Q)) =
   bits.map fun x=>endQ6 (LW l u sp ob fr tr) d (hasI (trI x (.str rT) (.str sT))) n' p' a w Q:=by kernel_rfl
theorem t896(n:Nat)(xs:List V)(o:List MO)(Q)(h:(fxD 6 [] xs)=some xs):SW 0 tab (orcOf L11) 2 896 xs o Q=(wden 0 G11 o.length f896.bd).s (initS f896.ln f896.cn f896.ps xs o) (wOut 0 o.length Q):=by
 show oP (fxD 6 [] xs) _=_
 rw [h];rfl
theorem obW_len{w:List Nat}{n g:Nat}{v:T}(hv:IsVal v):(obW w n g v).length=w.length+(obB n g v).length:=by
 have e:(woB v).length=(lw v).length:=by rw [wo_val hv,oc_len]
 unfold obW obB db objT endT
 simp only [List.length_append,oc_len,e,List.length_cons,List.length_nil]
 omega
theorem objQ.mk{K:List Nat→Prop}:∀ {rs:List R} {w:List Nat},(∀ r∈rs,Dn r.1∧Dn r.2.1∧IsVal r.2.2)→w.length+rs.length * 60≤1000000→K (rs.foldl (fun w r=>obW w r.1 r.2.1 r.2.2) w)→objQ rs w K
 | [],w,_,_,k=>k
 | (n,g,v)::r,w,h,hl,k=>by
  obtain⟨h1,h2,h3⟩:=h _ (.head _)
  have a1:=(dgF h1).len
  have a2:=(dgF h2).len
  have a3:=lw_len h3
  have a4:=ob_len h1 h2 h3
  dsimp only at h1 h2 h3 a1 a2 a3 a4
  simp only [List.length_cons,Nat.add_mul] at hl
  have a5:(obW w n g v).length+r.length * 60≤1000000:=by rw [obW_len h3];omega
  refine⟨by omega,dgL h1,?_,?_,dgL h2,?_,?_,h3,?_,?_,objQ.mk (rs:=r) (fun x m=>h x (.tail _ m)) a5 k⟩ <;> (try simp only [List.length_append,List.length_cons,List.length_nil,objT,endT]) <;> omega
theorem body_oc:∀ {rs:List R} {w:List Nat},(∀ r∈rs,IsVal r.2.2)→oc (rs.foldl (fun w r=>obW w r.1 r.2.1 r.2.2) w)=oc w++(obsR rs).flatten
 | [],w,_=>(List.append_nil _).symm
 | (n,g,v)::r,w,h=>by
  have hv:=h _ (.head _)
  rw [List.foldl_cons,body_oc fun x m=>h x (.tail _ m)]
  have e:oc (obW w n g v)=oc w++obB n g v:=by
   unfold obW obB db
   rw [wo_val hv]
   simp only [oc_app,List.append_assoc];rfl
  show oc (obW w n g v)++_=oc w++(obB n g v++_)
  rw [e,List.append_assoc];rfl
theorem bodyT_oc{rs:List R}(h:∀ r∈rs,IsVal r.2.2):oc (bodyT rs)=bodyB rs:=by
 unfold bodyT bodyB
 rw [body_oc h,joinL0];rfl
theorem lrw_ents(b:Nat):∀ {rs:List R} {w:List Nat},(∀ r∈rs,IsVal r.2.2)→lrw b w rs=ents (entsR (b+w.length) rs)
 | [],_,_=>rfl
 | (n,g,v)::r,w,h=>by
  have hv:=h _ (.head _)
  show (n,true,b+w.length,g)::lrw b (obW w n g v) r=(n,isW (wy true),b+w.length,g)::ents (entsR (b+w.length+(obB n g v).length) r)
  rw [isW_wy,lrw_ents b fun x m=>h x (.tail _ m),obW_len hv,Nat.add_assoc]
noncomputable def dueT(rs:List R)(fe:List E)(i:Bool)(n p b:Nat):List Nat:=finT (bodyT rs) (tabT (sortE (lrw b [] rs++fe))) (b+(bodyT rs).length) (endsT i n p)
noncomputable def rd896:List V→Option (List (K×T)×List (K×T)×List (K×T)×Nat×Nat×Nat)
 | [.t (.dict od),.t (.dict fd),.t (.dict t),.t (.int (.ofNat n)),.t (.int (.ofNat p)),.t (.int (.ofNat b))]=>some (od,fd,t,n,p,b)
 | _=>none
structure Due(od fd t:List (K×T))(n p b:Nat)(xs:List V)(o:List MO):Prop where
 xs:xs=[.t (.dict od),.t (.dict fd),.t (.dict t),.t (vI n),.t (vI p),.t (vI b)]
 n:n≤5
 c:∃ c g v x,Sec c g v x p b∧od=objD (remO c) g v∧fd=rowD (freeE (remS c))∧t=trI x (.str rT) (.str sT)
 o:∃ l u sp ob fr tr,o=LW l u sp ob fr tr
noncomputable def O896:Sw:=fun xs o Q=>oP (rd896 xs) fun(od,fd,t,n,p,b)=>Due od fd t n p b xs o∧Q (.val (.bytes (oc (dueT (rowsD od) (ents fd) (hasI t) n p b)))) o
theorem kepQ.mk{i:Bool}{P:Prop}(p:P):kepQ i P:=by cases i <;> refine⟨by decide,by decide,by decide,?_⟩ <;> first | exact p | exact⟨by decide,by decide,by decide,p⟩
theorem dgS{n:Nat}(h:Dn n):∀ c∈dg n,c < 128:=fun c m=>Nat.lt_of_le_of_lt ((dgF h).num c m).2 (by decide)
def Asc(l:List Nat):Prop:=∀ c∈l,c < 128
theorem Asc.app{a b:List Nat}(h:Asc a)(k:Asc b):Asc (a++b):=fun c m=>(List.mem_append.mp m).elim (h c) (k c)
theorem Asc.lit{a:List Nat}(h:(a.all fun c=>Nat.blt c 128)=true):Asc a:=fun c m=>Nat.blt_eq▸List.all_eq_true.mp h c m
theorem Asc.joinR{s:List Nat}(hs:Asc s):∀ {l:List (List Nat)},(∀ x∈l,Asc x)→Asc (Mine.joinR s l)
 | [],_=>fun _ m=>nomatch m
 | x::l,h=>(hs.app (h x (.head _))).app (Asc.joinR hs fun y m=>h y (.tail _ m))
theorem Asc.joinL{s:List Nat}(hs:Asc s){l:List (List Nat)}(h:∀ x∈l,Asc x):Asc (Mine.joinL s l):=by
 cases l with
 | nil=>exact fun _ m=>nomatch m
 | cons x l=>exact(h x (.head _)).app (Asc.joinR hs fun y m=>h y (.tail _ m))
theorem Asc.lw{x:T}(h:IsVal x):Asc (Mine.lw x):=by
 cases h with
 | int n hn=>exact dgS (.inl (by omega))
 | list l hl hx=>
  show Asc (Mine.joinL [32] ([[91]]++T.ints (l.map vI)++[[93]]))
  rw [ints_vI]
  refine .joinL (.lit rfl) (mem_snoc (fun y m=>?_) (.lit rfl))
  rcases List.mem_append.mp m with m | m
  ·rw [List.mem_singleton.mp m];exact .lit rfl
  ·obtain⟨n,hn,rfl⟩:=List.mem_map.mp m
   exact dgS (.inl (by have:=hx n hn;omega))
theorem Asc.body:∀ {rs:List R} {w:List Nat},(∀ r∈rs,Dn r.1∧Dn r.2.1∧IsVal r.2.2)→Asc w→Asc (rs.foldl (fun w r=>obW w r.1 r.2.1 r.2.2) w)
 | [],_,_,k=>k
 | (n,g,v)::r,w,h,k=>by
  obtain⟨h1,h2,h3⟩:=h _ (.head _)
  exact Asc.body (rs:=r) (fun x m=>h x (.tail _ m)) ((((((k.app (dgS h1)).app (.lit (a:=[32]) rfl)).app (dgS h2)).app (.lit (a:=objT) rfl)).app (.lw h3)).app (.lit (a:=endT) rfl))
theorem Asc.fg{n w:Nat}(h:Dn n)(hw:w≤10):Asc (Mine.fg n w):=fun c m=>of_decide_eq_true (List.all_eq_true.mp (fgF h hw).2.2 c m)
theorem Asc.ln{b:Bool}{n m:Nat}(hn:Dn n)(hm:Dn m):Asc (Mine.ln b n m):=(((Asc.fg hn (by decide)).app (.lit (a:=[32]) rfl)).app (Asc.fg hm (by decide))).app (by cases b <;> exact .lit rfl)
theorem Asc.tab{es:List E}:∀ {w:List Nat},Rw es→Asc w→Asc (es.foldl (fun w e=>w++Mine.ln e.2.1 e.2.2.1 e.2.2.2) w):=by
 induction es with
 | nil=>exact fun _ k=>k
 | cons e es ih=>exact fun h k=>ih ⟨fun x m=>h.ok x (.tail _ m)⟩ (k.app (.ln (h.ok e (.head _)).1 (h.ok e (.head _)).2.1))
theorem tab_len{es:List E}:∀ {w:List Nat},Rw es→(es.foldl (fun w e=>w++ln e.2.1 e.2.2.1 e.2.2.2) w).length≤w.length+es.length * 40:=by
 induction es with
 | nil=>exact fun _=>Nat.le_refl _
 | cons e es ih=>
  intro w h
  have h1:=ih (w:=w++ln e.2.1 e.2.2.1 e.2.2.2) ⟨fun x m=>h.ok x (.tail _ m)⟩
  have h2:=ln_len (b:=e.2.1) (h.ok e (.head _)).1 (h.ok e (.head _)).2.1
  rw [List.length_append] at h1
  simp only [List.foldl_cons,List.length_cons,Nat.add_mul]
  omega
theorem endsT_len{i:Bool}{n p:Nat}(hn:Dn n)(hp:Dn p):((endL i n p).map (·.length)).sum≤100∧(endL i n p).length≤4∧(endsT i n p).length≤110∧Asc (endsT i n p):=by
 have h1:=(dgF hn).len
 have h2:=(dgF hp).len
 have e:((endL i n p).map (·.length)).sum≤100:=by cases i <;> simp only [endL,kepT,cond,List.cons_append,List.nil_append,List.append_nil,List.map_cons,List.map_nil,List.sum_cons,List.sum_nil,List.length_append,List.length_cons,List.length_nil,sizT,preT,nRoot,nInfo,rT,sT] <;> omega
 have f:(endL i n p).length≤4:=by cases i <;> exact Nat.le_of_ble_eq_true rfl
 refine⟨e,f,Nat.le_trans (joinL_len ..) (by omega),.joinL (.lit rfl) fun x m=>?_⟩
 unfold endL at m
 rcases List.mem_append.mp m with m | m
 ·cases i <;> simp only [kepT,cond,List.cons_append,List.nil_append,List.append_nil,List.mem_cons,List.not_mem_nil,or_false] at m
  ·rw [m];exact .lit rfl
  ·rcases m with rfl | rfl <;> exact .lit rfl
 ·simp only [List.mem_cons,List.not_mem_nil,or_false] at m
  rcases m with rfl | rfl
  ·exact(Asc.lit (a:=sizT) rfl).app (dgS hn)
  ·exact(Asc.lit (a:=preT) rfl).app (dgS hp)
theorem endQ6.mk{L:List MO}{d:List (K×T)}{i:Bool}{n p a:Nat}{w:List Nat}{Q:Rv→List MO→Prop}{tb:List Nat}(hn:Dn n)(hp:Dn p)(ha:Dn a)(hw:w.length≤1000)(aw:Asc w)(ht:tb.length≤5000)(at':Asc tb)
  (hO:∀ {K:Rv→List MO→Prop},K (.val (.str tb)) (L++[.gone])→O891 [.t (.dict d)] (L++[.gone]) K) (q:Q (.val (.bytes (oc (finT w tb a (endsT i n p))))) L):endQ6 L d i n p a w Q:=by
 obtain⟨e1,e2,e3,e4⟩:=endsT_len (i:=i) hn hp
 have h1:=(dgF hn).len
 have h2:=(dgF hp).len
 have h3:=(dgF ha).len
 have l1:sizT.length=6:=rfl
 have l2:preT.length=6:=rfl
 have l3:trlT.length=11:=rfl
 have l4:gtT.length=4:=rfl
 have l5:staT.length=10:=rfl
 have l6:eofT.length=7:=rfl
 have fl:(finT w tb a (endsT i n p)).length≤10000:=by unfold finT;simp only [List.length_append];omega
 have fa:Asc (finT w tb a (endsT i n p)):=(((((((aw.app at').app (.lit (a:=trlT) rfl)).app e4).app (.lit (a:=gtT) rfl)).app (.lit (a:=staT) rfl)).app (dgS ha)).app (.lit (a:=eofT) rfl))
 have fn:finT w tb a (endsT i n p) ≠ []:=fun e=>by
  have:=(List.append_eq_nil_iff.mp e).2
  cases this
 refine kepQ.mk ⟨dgL hn,by omega,dgL hp,by omega,by omega,hO ⟨by omega,?_,?_,?_,?_,dgL ha,?_,?_,rfl,⟨fn,by omega,List.all_eq_true.mpr fun c m=>decide_eq_true (fa c m)⟩,q⟩⟩ <;> simp only [List.length_append] <;> omega
theorem L11_ok:∀ f o,orcOf L11 f=some o→Orc tab 4 f o:=orcs_cons (ok879.up (by decide)) (orcs_cons ok891 orcs_nil)
theorem ok896:Orc tab 6 896 O896:=by
 refine .of 0 L11_ok (n:=2) rfl fun xs o Q h=>?_
 obtain⟨⟨od,fd,t,n,p,b⟩,_,D,q⟩:=h.el
 obtain⟨c,g,v,x,s,rfl,rfl,rfl⟩:=D.c
 obtain⟨l,u,sp,ob,fr,tr,rfl⟩:=D.o
 have hn:=D.n
 rw [D.xs]
 rw [t896 n _ _ _ rfl,wden_cut 0 _ _ 4]
 refine(map_at (t896a l u sp ob fr tr g v _ _ _ b _) s.m).symm.mp ?_
 have hr:=rows3 s
 have hrow:=s.o.rows
 have hb:=s.bl
 have hv:∀ r∈rowsD (objD (remO c) g v),IsVal r.2.2:=fun r m=>(hrow r m).2.2
 have bl:=body_len hrow
 have be:=bodyT_oc hv
 have bn:(bodyT (rowsD (objD (remO c) g v))).length=(bodyB (rowsD (objD (remO c) g v))).length:=by rw [←be,oc_len]
 refine objQ.mk hrow (by rw [List.length_nil];omega) ⟨by show (bodyT _).length≤_;omega,?_⟩
 show (wden 0 G11 12 (f896.bd.drp 4)).s _ _
 refine(map_at (t896b l u sp ob fr tr _ _ _ _ _ _ _ n p (b+(bodyT (rowsD (objD (remO c) g v))).length) (bodyT (rowsD (objD (remO c) g v))) Q) s.bt).symm.mp ?_
 obtain⟨f,e1,hf⟩:=sec_tbl s
 obtain⟨g1,g2⟩:=gcfg_at s.m
 have el:lrw b [] (rowsD (objD (remO c) g v))++freeE (remS c)=laidE (sortN (remO c)) f g++freeE (remS c):=by
  rw [lrw_ents b hv]
  show ents (entsR b _)++_=_
  rw [e1,ents_entD]
 obtain⟨c1,c2,c3⟩:=cfgs_at g2 hf
 dsimp only at c1 c2 c3
 have hfst:Dn (sortE (lrw b [] (rowsD (objD (remO c) g v))++freeE (remS c))).length:=.inl (by rw [el];omega)
 have tl:(tabT (sortE (lrw b [] (rowsD (objD (remO c) g v))++freeE (remS c)))).length≤5000:=by
  have h1:=(dgF hfst).len
  rw [el] at h1 ⊢
  have h2:=(dgF c1).len
  refine Nat.le_trans (tab_len c3) ?_
  simp only [List.length_append,List.length_cons,List.length_nil,xrefT]
  omega
 have ta:Asc (tabT (sortE (lrw b [] (rowsD (objD (remO c) g v))++freeE (remS c)))):=by
  have:=dgS hfst
  rw [el] at this ⊢
  exact .tab c3 (((((Asc.lit (a:=xrefT) rfl).app (dgS c1)).app (.lit (a:=[32]) rfl)).app this).app (.lit (a:=[10]) rfl))
 refine endQ6.mk (.inl (by omega)) (.inl (by have:=s.pl;omega)) (.inl (by omega)) (by omega) (Asc.body hrow fun _ m=>nomatch m) tl ta (fun {K} k=>?_) ?_
 ·refine oP.mk rfl (oP.mk rfl ⟨⟨rfl,(_,remS c),g2,f,g,by rw [el],hf⟩,?_⟩)
  rw [ents_rowD];exact k
 ·unfold dueT at q
  rw [ents_rowD] at q
  exact q
theorem tab_oc:∀ {es:List E} {w:List Nat},oc (es.foldl (fun w e=>w++ln e.2.1 e.2.2.1 e.2.2.2) w)=oc w++(es.map lnB).flatten
 | [],w=>(List.append_nil _).symm
 | e::es,w=>by
  rw [List.foldl_cons,tab_oc,oc_app,List.append_assoc];rfl
theorem tr_oc(i:Bool)(n p:Nat):(trlB++woB (.dict (trD i n p)))++[10]=oc trlT++(oc (endsT i n p)++oc gtT):=by
 unfold endsT endL
 rw [oc_joinL,List.map_append]
 show _=_++(joinL [32] (_++[oc (sizT++dg n),oc (preT++dg p)])++_)
 rw [oc_app,oc_app]
 cases i
 ·show trlB++joinL [32] (trB false n p)++[10]=_
  simp only [trB,trA,cond,kepT,List.append_nil,List.cons_append,List.nil_append,joinL,joinR,List.append_assoc,List.map_cons,List.map_nil,db]
  rfl
 ·show trlB++joinL [32] (trB true n p)++[10]=_
  simp only [trB,trA,cond,kepT,List.append_nil,List.cons_append,List.nil_append,joinL,joinR,List.append_assoc,List.map_cons,List.map_nil,db]
  rfl
theorem cls_oc(es:List E)(i:Bool)(n p:Nat):tblB es (trD i n p)=oc (tabT es)++(oc trlT++(oc (endsT i n p)++oc gtT)):=by
 unfold tblB tabT clsL
 rw [joinL0,tab_oc,List.flatten_append,List.flatten_append,oc_app,oc_app,oc_app,oc_app,List.append_assoc]
 have e1:[(trlB++woB (.dict (trD i n p)))++[10]].flatten=oc trlT++(oc (endsT i n p)++oc gtT):=by
  rw [←tr_oc];exact List.append_nil _
 have e2:[xrefB,frsB (fstE es) es.length].flatten=((((oc xrefT++oc (dg (fstE es)))++oc [32])++oc (dg es.length))++oc [10]):=by
  show xrefB++(frsB (fstE es) es.length++[])=_
  unfold frsB
  simp only [List.append_nil,List.append_assoc];rfl
 rw [e1,e2]
 simp only [List.append_assoc]
theorem hasI_eq(r a:T):bits.map (fun x=>hasI (trI x r a))=bits.map fun x=>hasI (trI x refT namT):=by kernel_rfl
theorem eq_sec{c:List Nat×Option Nat}{g:Nat→Nat}{v:Nat→T}{x:List Bool}{p b:Nat}(s:Sec c g v x p b) :
  oc (dueT (rowsD (objD (remO c) g v)) (freeE (remS c)) (hasI (trI x (.str rT) (.str sT))) (sizeD (useD (remO c) g) (spD (remS c))) p b)=secB (useD (remO c) g) (spD (remS c)) (objD (remO c) g v) (trI x refT namT) p b:=by
 have hv:∀ r∈rowsD (objD (remO c) g v),IsVal r.2.2:=fun r m=>(s.o.rows r m).2.2
 have be:=bodyT_oc hv
 have bn:(bodyT (rowsD (objD (remO c) g v))).length=(bodyB (rowsD (objD (remO c) g v))).length:=by rw [←be,oc_len]
 unfold dueT secB finT allE
 rw [lrw_ents b hv,map_at (hasI_eq _ _) s.bt,spN_spD,cls_oc,bn]
 simp only [oc_app,be,tailB,List.append_assoc]
 rfl
noncomputable abbrev L3:List (Nat×Sw):=[(869,O869),(874,O874),(417,O417),(896,O896),(848,O848)]
theorem L3_ok:∀ f o,orcOf L3 f=some o→Orc tab 17 f o:=orcs_cons (ok869.up (by decide)) (orcs_cons (ok874.up (by decide)) (orcs_cons (ok417.up (by decide)) (orcs_cons (ok896.up (by decide)) (orcs_cons ok848 orcs_nil))))
noncomputable def x901:X:=f901.bd
noncomputable abbrev G3:Nat→Sw:=SW 0 tab (orcOf L3) 5
def IterR(C c:T)(s:Nat)(ks:List Nat)(g:Nat→Nat)(v:Nat→T)(a:Option V)(Q:Fl→S→Prop):Prop:=
 Pn C s c∧0 < 4∧AllL [0,1,2,3] fun n=>Pn C (s+1+6) c∧∀ v' s',IsVal v'→s+1≤s'→s'≤s+1+6→Pn C s' c∧0 < 4∧AllL [0,1,2,3] fun i=>
  IsVal v'∧Q .next (stS C c (s'+1) (insK ks (n+1)) (updF g (n+1) (gen i)) (updF v (n+1) v') a (some (.t (vI (n+1)))) (some (.t v')) (some (.t (vI (gen i)))))
def ItA(l:List (List Nat)):Prop:=∀ (C c:T) (s:Nat) (g:Nat→Nat) (v:Nat→T) (a b d e:Option V) (Q:Fl→S→Prop),
   l.map (fun ks=>(wden 0 G3 1 x901.nx.hd.bdy).s (stS C c s ks g v a b d e) Q)=l.map fun ks=>IterR C c s ks g v a Q
theorem ia:ItA (ords2.take 6):=fun _ _ _ _ _ _ _ _ _ _=>by kernel_rfl
theorem ib:ItA ((ords2.drop 6).take 6):=fun _ _ _ _ _ _ _ _ _ _=>by kernel_rfl
theorem ic:ItA ((ords2.drop 6).drop 6):=fun _ _ _ _ _ _ _ _ _ _=>by kernel_rfl
theorem iter_all:ItA ords2:=fun C c s g v a b d e Q=>map_cut 6 (ia C c s g v a b d e Q) (map_cut 6 (ib C c s g v a b d e Q) (ic C c s g v a b d e Q))
theorem t901a(C c:T)(s:Nat)(g:Nat→Nat)(v:Nat→T)(Q:Fl→S→Prop):(wden 0 G3 1 x901.hd).s (initS f901.ln f901.cn f901.ps [.loc 0] [penO C c s]) Q=Q .next (stS C c s [] g v none none none none):=by kernel_rfl
noncomputable def tnL(j:Nat):List V:=(List.range (j+1)).map fun i=>.t (vI i)
theorem t901b(C c:T)(s:Nat)(g:Nat→Nat)(v:Nat→T)(Q:Fl→S→Prop):(wden 0 G3 1 x901.nx.hd).s (stS C c s [] g v none none none none) Q =
   (Pn C s c∧0 < 3∧AllL [0,1,2] fun j=>wLoop (fun v=>up (tL 2 v)) (wden 0 G3 1 x901.nx.hd.bdy).s (tnL j) (stS C c (s+1) [] g v none none none none) Q):=by kernel_rfl
noncomputable def freeF(sp:List (Nat×Nat)):List E:=chainE sp (lineN sp)++(sp.filter fun p=>!Nat.blt p.2 65535).map fun p=>(p.1,false,0,65535)
noncomputable def LA(C c:T)(s:Nat)(u sp ob fr:List (K×T))(o7:MO)(s8 f9:List (K×T)):List MO:=[penO C c s,.attrs [([117,115,101,100],.loc 3),([115,112,97,114,101],.loc 4),([119,97,115,95,115,112,97,114,101],.t (.dict [])),([104,111,108,100,101,114,115],.t (.dict [])),
  ([102,105,114,115,116,95,115,105,122,101],.t (vI 1)),([111,98,106,101,99,116,115],.loc 5),([102,114,101,101,100],.loc 6)],.inst 818 1,.dict u,.dict sp,.dict ob,.dict fr,o7,.dict s8,.dict f9]
noncomputable def frC(x:List Nat×Option Nat):List (K×T):=match x.2 with
 | none=>[]
 | some _=>[(kI (gone x.1),.bool true)]
noncomputable def o7C(x:List Nat×Option Nat)(g:Nat→Nat)(v:Nat→T):MO:=match x.2 with
 | none=>.dict (objD x.1 g v)
 | some _=>.gone
noncomputable def obC(x:List Nat×Option Nat)(g:Nat→Nat)(v:Nat→T):V:=match x.2 with
 | none=>.loc 7
 | some _=>.t (.dict (objD (remO x) g v))
noncomputable def goC(x:List Nat×Option Nat):V:=match x.2 with
 | none=>.t (.int (-1))
 | some _=>.t (vI (gone x.1))
noncomputable def sAf(C c:T)(s:Nat)(x:List Nat×Option Nat)(g:Nat→Nat)(v:Nat→T)(a d e:Option V):S:=
 ⟨[some (.loc 0),some (.loc 2),a,some (.t (vI ((lineN (remS x)).getLastD 0))),d,e,some (.t (vI (mx x.1+1))),some (.t (.list ((lineN (remS x)).map vI))),some (.loc 9),some (.t (vI ((lineN (remS x)).length - 1))),none,none,none,none,none,none],[some (obC x g v),some (goC x),some (.loc 8)],
  LA C c s (useD (remO x) g) (spD (remS x)) (objD (remO x) g v) (frC x) (o7C x g v) (spD (remS x)) (rowD (freeF (remS x)))⟩
noncomputable def ne3:List (List Nat):=ords3.filter fun l=>!l.isEmpty
noncomputable def acfg:List (List Nat×Nat):=ne3.flatMap fun l=>[(l,0),(l,3),(l,65535)]
def A901(l:List (List Nat×Nat)):Prop:=∀ (C c:T) (s:Nat) (g:Nat→Nat) (v:Nat→T) (a b d e:T) (Q:Fl→S→Prop),l.map (fun x=>(wden 0 G3 1 ((x901.drp 2).tk 6)).s (stS C c s x.1 (updF g (gone x.1) x.2) v (some (.t a)) (some (.t b)) (some (.t d)) (some (.t e))) Q)=l.map fun x=>
   (Pn C s c∧0 < 3∧(Q .next (sAf C c (s+1) (x.1,some (x.2+1)) (updF g (gone x.1) x.2) v (some (.t a)) (some (.t d)) (some (.t e))))∧Q .next (sAf C c (s+1) (x.1,none) (updF g (gone x.1) x.2) v (some (.t a)) (some (.t d)) (some (.t e)))∧Q .next (sAf C c (s+1) (x.1,none) (updF g (gone x.1) x.2) v (some (.t a)) (some (.t d)) (some (.t e)))∧True)
theorem ja:A901 (acfg.take 40):=fun _ _ _ _ _ _ _ _ _ _=>by kernel_rfl
theorem jb:A901 ((acfg.drop 40).take 40):=fun _ _ _ _ _ _ _ _ _ _=>by kernel_rfl
theorem jc:A901 ((acfg.drop 40).drop 40):=fun _ _ _ _ _ _ _ _ _ _=>by kernel_rfl
theorem t901c:A901 acfg:=fun C c s g v a b d e Q=>map_cut 40 (ja C c s g v a b d e Q) (map_cut 40 (jb C c s g v a b d e Q) (jc C c s g v a b d e Q))
noncomputable def sB(L:List MO)(a nb d e sz li at':T)(ob go:V)(tr wd ky pv bg:Option V):S:=⟨[some (.loc 0),some (.loc 2),some (.t a),some (.t nb),some (.t d),some (.t e),some (.t sz),some (.t li),some (.loc 9),some (.t at'),tr,wd,ky,pv,bg,none],[some ob,some go,some (.loc 8)],L⟩
noncomputable def bq(C c:T):Nat→Nat→List Bool→(List Bool→Nat→Prop)→Prop
 | 0,s,acc,K=>K acc s
 | k+1,s,acc,K=>Pn C s c∧0 < 2∧bq C c k (s+1) (acc++[true]) K∧bq C c k (s+1) (acc++[false]) K∧True
noncomputable def o7B(b:Bool)(d:List (K×T)):MO:=cond b (.dict d) .gone
theorem t901d(C c:T)(s:Nat)(u sp od fr o7 s8 f9:List (K×T))(a nb d e sz li at':T)(ob go:V)(h:Bool)(Q:Fl→S→Prop):(wden 0 G3 1 ((x901.drp 8).tk 2)).s (sB (LA C c s u sp od fr (o7B h o7) s8 f9) a nb d e sz li at' ob go none none none none none) Q =
   bq C c 4 s [] fun y s'=>Q .next (sB (LA C c s' u sp od fr (o7B h o7) s8 f9++[.dict (trI y refT namT),.dict (trI y (.str rT) (.str sT))]) a nb d e sz li at' ob go (some (.loc 10)) (some (.loc 11)) (some (.t (.str nXR))) none none):=by cases h <;> kernel_rfl
theorem t901e(C c:T)(s:Nat)(g:Nat→Nat)(v:Nat→T)(y:List Bool)(a nb d e li at' ky:T)(Q:Rv→List MO→Prop):gcfg.map (fun x=>(wden 0 G3 1 (x901.drp 10)).s (sB (LA C c s (useD (remO x) g) (spD (remS x)) (objD (remO x) g v) (frC x) (o7C x g v) (spD (remS x)) (rowD (freeF (remS x)))++[.dict (trI y refT namT),.dict (trI y (.str rT) (.str sT))])
     a nb d e (vI (mx x.1+1)) li at' (obC x g v) (goC x) (some (.loc 10)) (some (.loc 11)) (some (.t ky)) none none) (wOut 0 1 Q))=gcfg.map fun x=>
   (Pn C s c∧0 < 500∧∀ p,p < 500→Pn C (s+1) c∧0 < 1000∧∀ b,b < 1000 →
     O896 [.t (.dict (objD (remO x) g v)),.t (.dict (rowD (freeE (remS x)))),.t (.dict (trI y (.str rT) (.str sT))),.t (vI (mx x.1+1)),.t (vI p),.t (vI b)] (LW [C,vI (s+2),c] (useD (remO x) g) (spD (remS x)) (objD (remO x) g v) (frC x) (trI y refT namT)) fun _ _=>
     O848 [.loc 2,.t (.dict (trI y refT namT)),.t (vI p),.t (vI b)] (LS [C,vI (s+2),c] (useD (remO x) g) (spD (remS x)) (objD (remO x) g v) (.dict (frC x))) fun _ _=>
       Q (.val (.bool (decide (secB (useD (remO x) g) (spD (remS x)) (objD (remO x) g v) (trI y refT namT) p b=oc (dueT (rowsD (objD (remO x) g v)) (ents (rowD (freeE (remS x)))) (hasI (trI y (.str rT) (.str sT))) (mx x.1+1) p b))))) [penO C c (s+2)]):=by kernel_rfl
structure GK(ks:List Nat)(g:Nat→Nat)(v:Nat→T):Prop where
 o:ks∈ords3
 g:∀ k∈ks,g k=0∨g k=3∨g k=65535
 v:∀ k∈ks,IsVal (v k)
theorem ins_ok:(ords2.all fun ks=>[0,1,2,3].all fun n=>ords3.contains (insK ks (n+1)))=true:=by kernel_rfl
theorem ord2_ok:(ords3.all fun ks=>Nat.blt 2 ks.length || ords2.contains ks)=true:=by kernel_rfl
theorem ins_mem{ks:List Nat}{n k:Nat}(h:k∈insK ks n):k∈ks∨k=n:=by
 unfold insK at h
 split at h
 ·exact .inl h
 ·exact(List.mem_append.mp h).imp id List.mem_singleton.mp
theorem ins_len(ks:List Nat)(n:Nat):(insK ks n).length≤ks.length+1∧insK ks n ≠ []:=by
 unfold insK
 split
 ·rename_i h
  exact⟨Nat.le_succ _,fun e=>by rw [e] at h;cases h⟩
 ·exact⟨by rw [List.length_append];exact Nat.le_refl _,by simp⟩
theorem gen_ok:∀ i,i < 4→gen i=0∨gen i=3∨gen i=65535
 | 0,_=>.inl rfl
 | 1,_=>.inl rfl
 | 2,_=>.inr (.inl rfl)
 | 3,_=>.inr (.inr rfl)
 | n+4,h=>absurd h (by omega)
theorem GK.ins{ks:List Nat}{g:Nat→Nat}{v:Nat→T}(h:GK ks g v)(hl:ks.length≤2){n i:Nat}{x:T}(hn:n < 4)(hi:i < 4)(hx:IsVal x):GK (insK ks (n+1)) (updF g (n+1) (gen i)) (updF v (n+1) x):=by
 have h2:ks∈ords2:=by
  have:=List.all_eq_true.mp ord2_ok ks h.o
  rw [Bool.or_eq_true] at this
  exact this.elim (fun e=>absurd (Nat.blt_eq▸e:2 < ks.length) (by omega)) List.contains_iff_mem.mp
 refine⟨List.contains_iff_mem.mp (List.all_eq_true.mp (List.all_eq_true.mp ins_ok ks h2) n (by simp only [List.mem_cons,List.not_mem_nil,or_false];omega)),fun k hk=>?_,fun k hk=>?_⟩
 ·unfold updF
  by_cases e:k=n+1
  ·rw [if_pos e];exact gen_ok i hi
  ·rw [if_neg e];exact h.g k ((ins_mem hk).resolve_right e)
 ·unfold updF
  by_cases e:k=n+1
  ·rw [if_pos e];exact hx
  ·rw [if_neg e];exact h.v k ((ins_mem hk).resolve_right e)
theorem mem4{n:Nat}(h:n∈[0,1,2,3]):n < 4:=by simp only [List.mem_cons,List.not_mem_nil,or_false] at h;omega
theorem IterR.mk{C c:T}{s:Nat}{ks:List Nat}{g:Nat→Nat}{v:Nat→T}{a:Option V}{Q:Fl→S→Prop}(p:Pn C (s+8) c)
  (q:∀ n v' s' i,n < 4→IsVal v'→s≤s'→s'≤s+8→i < 4→Q .next (stS C c s' (insK ks (n+1)) (updF g (n+1) (gen i)) (updF v (n+1) v') a (some (.t (vI (n+1)))) (some (.t v')) (some (.t (vI (gen i)))))):IterR C c s ks g v a Q:=
 ⟨p.le (by omega),by decide,.of fun n hn=>⟨p.le (by omega),fun v' s' hv h1 h2=>⟨p.le (by omega),by decide,.of fun i hi=>⟨hv,q n v' (s'+1) i (mem4 hn) hv (by omega) (by omega) (mem4 hi)⟩⟩⟩⟩
theorem wSeq_eq(a b:CP Fl)(s:S)(Q:Fl→S→Prop):wSeq a b s Q=a s (wK (fun t=>b t Q) Q):=by
 unfold wSeq
 congr 1
 funext f t
 cases f <;> rfl
def KP(C c:T)(ks0:List Nat)(m s:Nat)(K:S→Prop):Prop:=∀ ks g v s' a b d e,GK ks g v→ks ≠ []→ks.length≤ks0.length+m→s≤s'→s'≤s+8 * m→K (stS C c s' ks g v (some (.t a)) (some (.t b)) (some (.t d)) (some (.t e)))
theorem iter1{C c:T}{ks:List Nat}{g:Nat→Nat}{v:Nat→T}{s j:Nat}{a b d e:Option V}{xs:List V}{Q:Fl→S→Prop}(h:GK ks g v)(hl:ks.length≤2)(p:Pn C (s+8) c)
  (k:KP C c ks 1 s fun t=>wLoop (fun v=>up (tL 2 v)) (wden 0 G3 1 x901.nx.hd.bdy).s xs t Q):wLoop (fun v=>up (tL 2 v)) (wden 0 G3 1 x901.nx.hd.bdy).s (.t (vI j)::xs) (stS C c s ks g v a b d e) Q:=by
 show wSeq (wden 0 G3 1 x901.nx.hd.bdy).s (wLoop (fun v=>up (tL 2 v)) (wden 0 G3 1 x901.nx.hd.bdy).s xs) (stS C c s ks g v (some (.t (vI j))) b d e) Q
 rw [wSeq_eq]
 have h2:ks∈ords2:=by
  have:=List.all_eq_true.mp ord2_ok ks h.o
  rw [Bool.or_eq_true] at this
  exact this.elim (fun e=>absurd (Nat.blt_eq▸e:2 < ks.length) (by omega)) List.contains_iff_mem.mp
 refine(map_at (iter_all C c s g v (some (.t (vI j))) b d e _) h2).symm.mp (.mk p fun n v' s' i hn hv h1 h3 hi=>?_)
 exact k _ _ _ _ _ _ _ _ (h.ins hl hn hi hv) (ins_len ..).2 (ins_len ..).1 h1 h3
theorem loop901{C c:T}{Q:Fl→S→Prop}{K:S→Prop}:∀ (js:List Nat) (ks:List Nat) (g:Nat→Nat) (v:Nat→T) (s:Nat) (a b d e:T),GK ks g v→ks ≠ []→js.length+ks.length≤3→Pn C (s+8 * js.length) c→KP C c ks js.length s K →
  wLoop (fun v=>up (tL 2 v)) (wden 0 G3 1 x901.nx.hd.bdy).s (js.map fun i=>.t (vI i)) (stS C c s ks g v (some (.t a)) (some (.t b)) (some (.t d)) (some (.t e))) (wK K Q)
 | [],ks,g,v,s,a,b,d,e,h,hn,_,_,k=>k ks g v s a b d e h hn (Nat.le_refl _) (Nat.le_refl _) (Nat.le_refl _)
 | j::js,ks,g,v,s,a,b,d,e,h,_,hl,p,k=>by
  simp only [List.length_cons] at hl p k
  refine iter1 h (by omega) (p.le (by omega)) fun ks' g' v' s' a' b' d' e' h' hn' hl' h1 h2=>?_
  exact loop901 js ks' g' v' s' a' b' d' e' h' hn' (by omega) (p.le (by omega)) fun ks2 g2 v2 s2 a2 b2 d2 e2 q1 q2 q3 q4 q5=>k ks2 g2 v2 s2 a2 b2 d2 e2 q1 q2 (by omega) (by omega) (by omega)
theorem bq.mk{C c:T}{K:List Bool→Nat→Prop}:∀ (k s:Nat) (acc:List Bool),Pn C (s+k) c→(∀ y,y.length=k→K (acc++y) (s+k))→bq C c k s acc K
 | 0,s,acc,_,h=>by have:=h [] rfl;rwa [List.append_nil] at this
 | k+1,s,acc,p,h=>by
  have q:∀ b,bq C c k (s+1) (acc++[b]) K:=fun b=>bq.mk k (s+1) (acc++[b]) (p.le (by omega)) fun y hy=>by
   have:=h (b::y) (by rw [List.length_cons,hy])
   rw [List.append_assoc,show s+1+k=s+(k+1) by omega]
   exact this
  exact⟨p.le (by omega),by decide,q true,q false,trivial⟩
theorem bits_mem:∀ y:List Bool,y.length=4→y∈bits
 | [a,b,c,d],_=>by cases a <;> cases b <;> cases c <;> cases d <;> exact List.contains_iff_mem.mp (by kernel_rfl)
 | [],h=>absurd h (by simp)
 | [_],h=>absurd h (by simp)
 | [_,_],h=>absurd h (by simp)
 | [_,_,_],h=>absurd h (by simp)
 | _::_::_::_::_::_,h=>absurd h (by simp)
theorem sz_eq(g:Nat→Nat):gcfg.map (fun x=>mx x.1+1)=gcfg.map fun x=>sizeD (useD (remO x) g) (spD (remS x)):=by kernel_rfl
theorem gone_mem{ks:List Nat}(h:ks ≠ []):gone ks∈ks:=by
 unfold gone
 have hp:(sortN ks).Perm ks:=sortO_perm
 cases e:sortN ks with
 | nil=>rw [e] at hp;exact absurd hp.symm.eq_nil h
 | cons a l=>
  rw [e] at hp
  exact hp.mem_iff.mp (.head _)
theorem updF_self(g:Nat→Nat)(k:Nat):updF g k (g k)=g:=by
 funext n
 unfold updF
 by_cases e:n=k
 ·rw [if_pos e,e]
 ·rw [if_neg e]
theorem rem_mem{x:List Nat×Option Nat}{k:Nat}(h:k∈remO x):k∈x.1:=by
 unfold remO at h
 split at h
 ·exact h
 ·exact(List.mem_filter.mp h).1
theorem end901{C c:T}{s:Nat}{x:List Nat×Option Nat}{g:Nat→Nat}{v:Nat→T}{a d e:T}{Q:Rv→List MO→Prop}(hx:x∈gcfg)(h:GK x.1 g v)(p:Pn C (s+6) c)(q:Q (.val (.bool true)) [penO C c (s+6)]) :
  (wden 0 G3 1 (x901.drp 8)).s (sAf C c s x g v (some (.t a)) (some (.t d)) (some (.t e))) (wOut 0 1 Q):=by
 rw [wden_cut 0 G3 1 2]
 have ec:∃ b o7,o7C x g v=o7B b o7:=by
  unfold o7C
  split
  ·exact⟨true,_,rfl⟩
  ·exact⟨false,[],rfl⟩
 obtain⟨b,o7,e7⟩:=ec
 show (wden 0 G3 1 ((x901.drp 8).tk 2)).s (sB (LA C c s (useD (remO x) g) (spD (remS x)) (objD (remO x) g v) (frC x) (o7C x g v) (spD (remS x)) (rowD (freeF (remS x)))) a _ d e _ _ _ _ _ none none none none none) _
 rw [e7]
 refine(t901d C c s _ _ _ _ o7 _ _ a _ d e _ _ _ _ _ b _).symm.mp (bq.mk 4 s [] (p.le (by omega)) fun y hy=>?_)
 rw [List.nil_append]
 have hb:=bits_mem y hy
 show (wden 0 G3 1 (x901.drp 10)).s _ _
 rw [←e7]
 refine(map_at (t901e C c (s+4) g v y a _ d e _ _ _ Q) hx).symm.mp ⟨p.le (by omega),by decide,fun n hn=>⟨p.le (by omega),by decide,fun m hm=>?_⟩⟩
 have hs:Sec x g v y n m:=⟨hx,hb,⟨(gcfg_at hx).1,fun k hk=>?_,fun k hk=>h.v k (rem_mem hk)⟩,hn,hm⟩
 ·have hz:=map_at (sz_eq g) hx
  have h5:=Nat.le_of_ble_eq_true (map_at (sizes_ok g) hx)
  refine oP.mk rfl ⟨⟨rfl,?_,⟨x,g,v,y,hs,rfl,rfl,rfl⟩,_,_,_,_,_,_,rfl⟩,oP.mk rfl ⟨⟨rfl,rfl,x,g,v,y,hs,rfl,rfl,rfl,rfl⟩,?_⟩⟩
  ·show mx x.1+1≤5
   omega
  ·have he:=eq_sec hs
   rw [←hz] at he
   rw [ents_rowD,he,decide_eq_true rfl]
   exact q
 ·rcases h.g k (rem_mem hk) with e | e | e <;> rw [e]
  ·exact⟨.inl (by decide),by decide⟩
  ·exact⟨.inl (by decide),by decide⟩
  ·exact⟨.inr (.inl rfl),by decide⟩
theorem acfg_mem{ks:List Nat}{n:Nat}(h:ks∈ords3)(hn:ks ≠ [])(e:n=0∨n=3∨n=65535):(ks,n)∈acfg∧(ks,none)∈gcfg∧(ks,some (n+1))∈gcfg:=by
 have hm:ks∈ne3:=List.mem_filter.mpr ⟨h,by cases ks <;> first | rfl | exact absurd rfl hn⟩
 refine⟨List.mem_flatMap.mpr ⟨ks,hm,?_⟩,List.mem_flatMap.mpr ⟨ks,hm,.head _⟩,List.mem_flatMap.mpr ⟨ks,hm,?_⟩⟩ <;> rcases e with rfl | rfl | rfl <;> simp
noncomputable def rdP:List V→List MO→Option (T×Nat×T)
 | [_],[.list [C,.int (.ofNat s),c]]=>some (C,s,c)
 | _,_=>none
noncomputable def OP(m:Nat):Sw:=fun xs o Q=>oP (rdP xs o) fun(C,s,c)=>(xs=[.loc 0]∧o=[penO C c s]∧Pn C (s+m) c)∧∀ s',s≤s'→s'≤s+m→Q (.val (.bool true)) [penO C c s']
theorem t901(xs:List V)(o:List MO)(Q:Rv→List MO→Prop)(h:(fxD 1 [] xs)=some xs):SW 0 tab (orcOf L3) 6 901 xs o Q=(wden 0 G3 o.length f901.bd).s (initS f901.ln f901.cn f901.ps xs o) (wOut 0 o.length Q):=by
 show oP (fxD 1 [] xs) _=_
 rw [h];rfl
theorem sc901:f901.bd=.sc x901.hd x901.nx:=by kernel_rfl
theorem sc901b:x901.nx=.sc x901.nx.hd (x901.drp 2):=by kernel_rfl
theorem t901z(C c:T)(s:Nat)(g:Nat→Nat)(v:Nat→T)(Q:Rv→List MO→Prop):SW 0 tab (orcOf L3) 6 901 [.loc 0] [penO C c s] Q=(wden 0 G3 1 (.sc x901.nx.hd (x901.drp 2))).s (stS C c s [] g v none none none none) (wOut 0 1 Q):=
 (t901 [.loc 0] [penO C c s] Q rfl).trans ((congrArg (fun k=>(wden 0 G3 k f901.bd).s (initS f901.ln f901.cn f901.ps [.loc 0] [penO C c s]) (wOut 0 k Q)) (rfl:[penO C c s].length=1)).trans ((congrArg (fun x=>(wden 0 G3 1 x).s (initS f901.ln f901.cn f901.ps [.loc 0] [penO C c s]) (wOut 0 1 Q)) sc901).trans ((wden_sc 0 G3 1 x901.hd x901.nx _ _).trans ((t901a C c s g v _).trans
  (congrArg (fun x=>(wden 0 G3 1 x).s (stS C c s [] g v none none none none) (wOut 0 1 Q)) sc901b)))))
theorem drp_eq:(x901.drp 2).drp 6=x901.drp 8:=by kernel_rfl
theorem ok901:Orc tab 23 901 (OP 40):=by
 refine .of 0 L3_ok (n:=6) rfl fun xs o Q h=>?_
 obtain⟨⟨C,s,c⟩,_,⟨rfl,rfl,p⟩,q⟩:=h.el
 have g0:GK [] (fun _=>0) (fun _=>.none):=⟨List.contains_iff_mem.mp (by kernel_rfl),fun _ m=>(nomatch m),fun _ m=>(nomatch m)⟩
 rw [t901z C c s (fun _=>0) (fun _=>.none),wden_sc]
 refine(t901b C c s (fun _=>0) (fun _=>.none) _).symm.mp ⟨p.le (by omega),by decide,.of fun j hj=>?_⟩
 have hj:j≤2:=by simp only [List.mem_cons,List.not_mem_nil,or_false] at hj;omega
 have tail:KP C c [] (j+1) (s+1) fun t=>(wden 0 G3 1 (x901.drp 2)).s t (wOut 0 1 Q):=fun ks g v s' a b d e h hn hl h1 h2=>by
  have kc:=wden_cut 0 G3 1 6 (x901.drp 2) (stS C c s' ks g v (some (.t a)) (some (.t b)) (some (.t d)) (some (.t e))) (wOut 0 1 Q)
  rw [drp_eq] at kc
  have hg:=h.g _ (gone_mem hn)
  obtain⟨m1,m2,m3⟩:=acfg_mem h.o hn hg
  have e1:=updF_self g (gone ks)
  have k:=map_at (t901c C c s' g v a b d e (wK (fun t=>(wden 0 G3 1 (x901.drp 8)).s t (wOut 0 1 Q)) (wOut 0 1 Q))) m1
  dsimp only at k
  rw [e1] at k
  have ps:Pn C (s'+1+6) c:=p.le (by omega)
  have qs:=q (s'+1+6) (by omega) (by omega)
  exact(kc.trans k).symm.mp ⟨p.le (by omega),by decide,end901 m3 h ps qs,end901 m2 h ps qs,end901 m2 h ps qs,trivial⟩
 have el:tnL j=.t (vI 0)::(((List.range (j+1)).drop 1).map fun i=>.t (vI i)):=by
  unfold tnL
  rw [List.map_drop]
  match j,hj with
  | 0,_=>rfl
  | 1,_=>rfl
  | 2,_=>rfl
 rw [el]
 refine iter1 g0 (by decide) (p.le (by omega)) fun ks g v s' a b d e h hn hl h1 h2=>?_
 have ln':((List.range (j+1)).drop 1).length=j:=by rw [List.length_drop,List.length_range];rfl
 refine loop901 _ ks g v s' a b d e h hn (by rw [ln'];have:ks.length≤1:=hl;omega) (p.le (by rw [ln'];omega)) fun ks2 g2 v2 s2 a2 b2 d2 e2 q1 q2 q3 q4 q5=>?_
 rw [ln'] at q3 q5
 exact tail ks2 g2 v2 s2 a2 b2 d2 e2 q1 q2 (by have:ks.length≤0+1:=hl;omega) (by omega) (by omega)
noncomputable abbrev L13:List (Nat×Sw):=[(869,O869)]
theorem L13_ok:∀ f o,orcOf L13 f=some o→Orc tab 1 f o:=orcs_cons ok869 orcs_nil
noncomputable def mkB':List UInt8:=[37,37,69,79,70]
noncomputable def sufB:List (List UInt8):=[[],[37,37,69,79],[37,69,79,70,10],[37,37,101,111,102]]
noncomputable def enB:List (List UInt8):=[[],[10],[13],[13,10],[32,10]]
noncomputable def beB:List (List UInt8):=[[],[122,37,37,69,79,70],[122,10]]
def mrQ(F E B:List UInt8)(P:Prop):Prop:=F.length+5≤16777216∧(F++mkB').length+E.length≤16777216∧((F++mkB')++E).length+B.length≤16777216 ∧
 (fun P=>cond (E == [32,10]) P (E.length≤1000000∧P)) (5≤1000000∧(((F++mkB')++E)++B).length≤1000000∧F.length≤1000000∧F.length≤1000000∧5≤1000000∧(((F++mkB')++E)++B).length≤1000000∧F.length≤1000000∧P)
noncomputable def aN(K:Nat→Prop):List Nat→Prop
 | []=>True
 | a::l=>K a∧aN K l
def dwE(C c:T)(s m:Nat)(K:Nat→Prop):Prop:=Pn C s c∧0 < m∧aN K (List.range m)
theorem aN.mk{K:Nat→Prop}:∀ l,(∀ i∈l,K i)→aN K l
 | [],_=>trivial
 | a::l,h=>⟨h a (.head _),aN.mk l fun i x=>h i (.tail _ x)⟩
theorem dwE.mk{C c:T}{s m:Nat}{K:Nat→Prop}(p:Pn C s c)(h:0 < m)(k:∀ i,i < m→K i):dwE C c s m K:=⟨p,h,.mk _ fun i y=>k i (List.mem_range.mp y)⟩
noncomputable def s908(C c:T)(s:Nat)(F:List UInt8)(E B:Option V):S:=⟨[some (.loc 0),some (.t (.bytes F)),E,B,none,none],[],[penO C c s]⟩
noncomputable def bs(l:List UInt8):Option V:=some (.t (.bytes l))
noncomputable abbrev G13b:Nat→Sw:=SW 0 tab (orcOf L13) 5
noncomputable abbrev x908:X:=f908.bd
theorem SW_at{m n f:Nat}{tab:Nat→Option Fd}{orc:Nat→Option Sw}{d:Fd}(h:orc f=none)(e:tab f=some d):SW m tab orc (n+1) f=wFd m (SW m tab orc n) d:=by
 unfold SW;rw [h,e]
theorem wFd_at{m k:Nat}{Γ:Nat→Sw}{d:Fd}{xs:List V}{o:List MO}{Q:Rv→List MO→Prop}(h:fxD d.ps.length d.df xs=some xs)(e:o.length=k):wFd m Γ d xs o Q=(wden m Γ k d.bd).s (initS d.ln d.cn d.ps xs o) (wOut m k Q):=by
 subst e
 show oP (fxD d.ps.length d.df xs) _=_
 rw [h];rfl
theorem t908z(C c:T)(s:Nat)(Q:Rv→List MO→Prop):SW 0 tab (orcOf L13) 6 908 [.loc 0] [penO C c s] Q=(wden 0 G13b 1 x908).s (initS f908.ln f908.cn f908.ps [.loc 0] [penO C c s]) (wOut 0 1 Q):=
 (congrFun (congrFun (congrFun (SW_at (by kernel_rfl) (by kernel_rfl)) _) _) _).trans (wFd_at (by kernel_rfl) rfl)
theorem t908a(C c:T)(s:Nat)(Q:Fl→S→Prop):(wden 0 G13b 1 (x908.tk 1)).s (initS f908.ln f908.cn f908.ps [.loc 0] [penO C c s]) Q=dwE C c s 4 fun i=>dwE C c (s+1) 4 fun j=>i+(sufB.getD j []).length≤16777216 ∧
   Q .next (s908 C c (s+2) (List.replicate i 120++sufB.getD j []) none none):=by kernel_rfl
theorem t908c(C c:T)(s:Nat)(F:List UInt8)(Q:Fl→S→Prop):(wden 0 G13b 1 ((x908.drp 1).tk 2)).s (s908 C c s F none none) Q=dwE C c s 5 fun e=>dwE C c (s+1) 3 fun b=>
   Q .next (s908 C c (s+2) F (bs (enB.getD e [])) (bs (beB.getD b []))):=by kernel_rfl
noncomputable def F908(i j:Nat):List UInt8:=List.replicate i 120++sufB.getD j []
noncomputable def L908(C c:T)(s:Nat)(Q:Rv→List MO→Prop)(i j:Nat):List (List Prop):=(List.range 5).map fun e=>(List.range 3).map fun b=>(wden 0 G13b 1 ((x908.drp 1).drp 2)).s (s908 C c s (F908 i j) (bs (enB.getD e [])) (bs (beB.getD b []))) (wOut 0 1 Q)
noncomputable def R908(C c:T)(s:Nat)(Q:Rv→List MO→Prop)(i j:Nat):List (List Prop):=(List.range 5).map fun e=>(List.range 3).map fun b=>mrQ (F908 i j) (enB.getD e []) (beB.getD b []) (Q (.val (.bool true)) [penO C c s])
def T908(i j:Nat):Prop:=∀ (C c:T) (s:Nat) (Q:Rv→List MO→Prop),L908 C c s Q i j=R908 C c s Q i j
theorem t800:T908 0 0:=fun _ _ _ _=>by kernel_rfl
theorem t801:T908 0 1:=fun _ _ _ _=>by kernel_rfl
theorem t802:T908 0 2:=fun _ _ _ _=>by kernel_rfl
theorem t803:T908 0 3:=fun _ _ _ _=>by kernel_rfl
theorem t810:T908 1 0:=fun _ _ _ _=>by kernel_rfl
theorem t811:T908 1 1:=fun _ _ _ _=>by kernel_rfl
theorem t812:T908 1 2:=fun _ _ _ _=>by kernel_rfl
theorem t813:T908 1 3:=fun _ _ _ _=>by kernel_rfl
theorem t820:T908 2 0:=fun _ _ _ _=>by kernel_rfl
theorem t821:T908 2 1:=fun _ _ _ _=>by kernel_rfl
theorem t822:T908 2 2:=fun _ _ _ _=>by kernel_rfl
theorem t823:T908 2 3:=fun _ _ _ _=>by kernel_rfl
theorem t830:T908 3 0:=fun _ _ _ _=>by kernel_rfl
theorem t831:T908 3 1:=fun _ _ _ _=>by kernel_rfl
theorem t832:T908 3 2:=fun _ _ _ _=>by kernel_rfl
theorem t833:T908 3 3:=fun _ _ _ _=>by kernel_rfl
theorem t908b:AllL (List.range 4) fun i=>AllL (List.range 4) fun j=>T908 i j:=⟨⟨t800,t801,t802,t803,trivial⟩,⟨t810,t811,t812,t813,trivial⟩,⟨t820,t821,t822,t823,trivial⟩,⟨t830,t831,t832,t833,trivial⟩,trivial⟩
theorem getD_len{l:List (List UInt8)}{n:Nat}(h:(l.all fun x=>Nat.ble x.length n)=true)(i:Nat):(l.getD i []).length≤n:=by
 rw [List.getD_eq_getElem?_getD]
 cases e:l[i]? with
 | none=>exact Nat.zero_le _
 | some x=>exact Nat.le_of_ble_eq_true (List.all_eq_true.mp h x (List.mem_of_getElem? e))
theorem mrQ.mk{F E B:List UInt8}{P:Prop}(hF:F.length≤10)(hE:E.length≤10)(hB:B.length≤10)(p:P):mrQ F E B P:=by
 have hm:mkB'.length=5:=rfl
 refine⟨by omega,by rw [List.length_append];omega,by rw [List.length_append,List.length_append];omega,?_⟩
 have l:(((F++mkB')++E)++B).length≤1000000:=by rw [List.length_append,List.length_append,List.length_append];omega
 have q:5≤1000000∧(((F++mkB')++E)++B).length≤1000000∧F.length≤1000000∧F.length≤1000000∧5≤1000000∧(((F++mkB')++E)++B).length≤1000000∧F.length≤1000000∧P:=⟨by decide,l,by omega,by omega,by decide,l,by omega,p⟩
 dsimp only
 cases E == [32,10] with
 | true=>exact q
 | false=>exact⟨by omega,q⟩
theorem ok908:Orc tab 7 908 (OP 10):=by
 refine .of 0 L13_ok (n:=6) rfl fun xs o Q h=>?_
 obtain⟨⟨C,s,c⟩,_,⟨rfl,rfl,p⟩,q⟩:=h.el
 obtain⟨K2,h2⟩:∃ K:S→Prop,K=fun t=>(wden 0 G13b 1 ((x908.drp 1).drp 2)).s t (wOut 0 1 Q):=⟨_,rfl⟩
 obtain⟨K1,h1⟩:∃ K:S→Prop,K=fun t=>(wden 0 G13b 1 (x908.drp 1)).s t (wOut 0 1 Q):=⟨_,rfl⟩
 have z:=(t908z C c s Q).trans (wden_cut 0 G13b 1 1 x908 _ _)
 have z2:=fun t=>(congrFun h1 t).trans (wden_cut 0 G13b 1 2 (x908.drp 1) t (wOut 0 1 Q))
 rw [←h1] at z
 rw [←h2] at z2
 refine(z.trans (t908a C c s _)).symm.mp (.mk (p.le (by omega)) (by decide) fun i hi=>.mk (p.le (by omega)) (by decide) fun j hj=>?_)
 have l1:=getD_len (l:=sufB) (n:=5) rfl j
 refine⟨by omega,((z2 _).trans (t908c C c (s+2) _ _)).symm.mp (.mk (p.le (by omega)) (by decide) fun e he=>.mk (p.le (by omega)) (by decide) fun b hb=>?_)⟩
 have k:=map_at (map_at ((t908b.mem i (List.mem_range.mpr hi)).mem j (List.mem_range.mpr hj) C c (s+4) Q) (List.mem_range.mpr he)) (List.mem_range.mpr hb)
 refine((congrFun h2 _).trans k).symm.mp (.mk ?_ (Nat.le_trans (getD_len (n:=2) rfl e) (by decide)) (Nat.le_trans (getD_len (n:=6) rfl b) (by decide)) (q _ (by omega) (by omega)))
 unfold F908
 rw [List.length_append,List.length_replicate];omega
noncomputable def vlT(a b c:Nat):T:=.tup [vI a,.list [vI b,.inst 318 [([116,101,120,116],.str [97+c])]]]
inductive IsE:T→Prop where
 | mk (a b c:Nat):a < 2→b < 2→c < 2→IsE (vlT a b c)
def OKo(o:Option T):Prop:=∀ x,o=some x→IsE x
noncomputable def tbL(l:List Nat)(e:Nat→Option T):List (K×T):=l.filterMap fun n=>(e n).map fun x=>(kI n,x)
noncomputable def nsL:List Nat:=[5,1,12,3]
noncomputable def shT(d:List (K×T)):T:=.inst 515 [([116,97,98,108,101],.dict d),([116,114,97,105,108,101,114],.dict [])]
noncomputable def pats:List (List Nat):=[[],[5]].flatMap fun a=>[[],[1]].flatMap fun b=>[[],[12]].flatMap fun c=>[[],[3]].map fun d=>a++b++c++d
theorem t500(x:Nat→T)(o:List MO)(Q):pats.map (fun p=>SW 1 tab (orcOf []) 2 500 [.t (shT (p.map fun n=>(kI n,x n)))] o Q)=pats.map fun p=>rep o 1 (Q (.val (.list ((sortN p).map vI))) o):=by kernel_rfl
noncomputable def keysN(d:List (K×T)):List Nat:=d.filterMap keyN
noncomputable def rd500:List V→Option (List (K×T))
 | [.t (.inst _ [(_,.dict d),_])]=>some d
 | _=>none
noncomputable def O500:Sw:=fun xs o Q=>oP (rd500 xs) fun d=>(xs=[.t (shT d)]∧∃ p∈pats,∃ x:Nat→T,d=p.map fun n=>(kI n,x n))∧Q (.val (.list ((sortN (keysN d)).map vI))) o
theorem keys_map(p:List Nat)(x:Nat→T):keysN (p.map fun n=>(kI n,x n))=p:=by
 unfold keysN
 rw [List.filterMap_map]
 exact List.filterMap_some (l:=p)
theorem ok500:Orc tab 3 500 O500:=by
 refine .of 1 orcs_nil (c:=1) (n:=2) rfl fun xs o Q h=>?_
 obtain⟨d,_,⟨rfl,p,hp,x,rfl⟩,q⟩:=h.el
 rw [keys_map] at q
 exact(map_at (t500 x o Q) hp).symm.mp (.mk q)
noncomputable def s862(L:List MO)(d0 d1:List (K×T))(nu f g:Option V):S:=⟨[some (.t (shT d0)),some (.t (shT d1)),some (.loc 4),nu,f,g],[],L⟩
noncomputable abbrev L15:List (Nat×Sw):=[(500,O500)]
noncomputable abbrev G15:Nat→Sw:=SW 0 tab (orcOf L15) 8
noncomputable def x862:X:=f862.bd
noncomputable def L4o(C c:T)(s:Nat):List MO:=[penO C c s,.gone,.gone,.gone]
theorem t862a(C c:T)(s:Nat)(d0 d1:List (K×T))(Q:Fl→S→Prop):(wden 0 G15 4 x862.hd).s (initS f862.ln f862.cn f862.ps [.t (shT d0),.t (shT d1)] (L4o C c s)) Q=Q .next (s862 (L4o C c s++[.list []]) d0 d1 none none none):=by kernel_rfl
noncomputable def X.itx(x:X):X:=x.hd
theorem z1(C c:T)(s:Nat)(d0 d1:List (K×T))(Q:Fl→S→Prop):(wden 0 G15 4 x862.nx.hd).s (s862 (L4o C c s++[.list []]) d0 d1 none none none) Q =
 (wden 0 G15 4 x862.nx.hd.itx).a (s862 (L4o C c s++[.list []]) d0 d1 none none none) fun xs t=>wLoop (fun v=>up (tL 3 v)) (wden 0 G15 4 x862.nx.hd.bdy).s xs t Q:=by kernel_rfl
theorem z2(C c:T)(s:Nat)(d0 d1:List (K×T))(Q:List V→S→Prop):(wden 0 G15 4 x862.nx.hd.itx).a (s862 (L4o C c s++[.list []]) d0 d1 none none none) Q =
 (wden 0 G15 4 x862.nx.hd.itx.itx.itx.itx).v (s862 (L4o C c s++[.list []]) d0 d1 none none none) fun v st=>oP (opN (op1 opSS) [v] st) fun p=>oP (p.1.tr?.map V.t) fun v=>oP (iterV v) fun xs=>Q xs p.2:=by kernel_rfl
theorem z3(C c:T)(s:Nat)(d0 d1:List (K×T))(Q:V→S→Prop):(wden 0 G15 4 x862.nx.hd.itx.itx.itx.itx).v (s862 (L4o C c s++[.list []]) d0 d1 none none none) Q =
 O500 [.t (shT d0)] (L4o C c s++[.list []]) fun r0 _=>oP (r0.tr?.map V.t) fun A=>O500 [.t (shT d1)] (L4o C c s++[.list []]) fun r1 _=>oP (r1.tr?.map V.t) fun B=>oP (binV .Add A B) fun t=>
  Q (.t t) (s862 (L4o C c s++[.list []]) d0 d1 none none none):=by kernel_rfl
theorem t862b(C c:T)(s:Nat)(d0 d1:List (K×T))(Q:Fl→S→Prop):(wden 0 G15 4 x862.nx.hd).s (s862 (L4o C c s++[.list []]) d0 d1 none none none) Q =
 O500 [.t (shT d0)] (L4o C c s++[.list []]) fun r0 _=>oP (r0.tr?.map V.t) fun A=>O500 [.t (shT d1)] (L4o C c s++[.list []]) fun r1 _=>oP (r1.tr?.map V.t) fun B=>oP (binV .Add A B) fun t=>
  oP (opN (op1 opSS) [.t t] (s862 (L4o C c s++[.list []]) d0 d1 none none none)) fun p=>oP (p.1.tr?.map V.t) fun v=>oP (iterV v) fun xs=>wLoop (fun v=>up (tL 3 v)) (wden 0 G15 4 x862.nx.hd.bdy).s xs p.2 Q:=
 (z1 C c s d0 d1 Q).trans ((z2 C c s d0 d1 _).trans (z3 C c s d0 d1 _))
theorem t862c(C c:T)(s n:Nat)(r:List T)(d0 d1:List (K×T))(f g:Option V)(Q:Fl→S→Prop):(wden 0 G15 4 (x862.nx.hd.bdy.tk 2)).s (s862 (L4o C c s++[.list r]) d0 d1 (some (.t (vI n))) f g) Q =
   Q .next (s862 (L4o C c s++[.list r]) d0 d1 (some (.t (vI n))) (some (.t ((dGet (kI n) d0).getD .none))) (some (.t ((dGet (kI n) d1).getD .none)))):=by kernel_rfl
noncomputable def nine:List (Option T):=none::[0,1].flatMap fun a=>[0,1].flatMap fun b=>[0,1].map fun c=>some (vlT a b c)
noncomputable def rp(a b c:Nat):List Nat:=[40,48+a,44,32,48+b,44,32,39,97+c,39,41]
noncomputable def rpO:Option T→List Nat
 | some (.tup [.int (.ofNat a),.list [.int (.ofNat b),.inst _ [(_,.str [c])]]])=>rp a b (c - 97)
 | _=>[]
noncomputable def same(x y:Option T):Bool:=x.isSome && (y.isSome && (rpO x == rpO y))
theorem t862d(C c:T)(s n:Nat)(r:List T)(d0 d1:List (K×T))(Q:Fl→S→Prop):nine.map (fun f=>nine.map fun g=>(wden 0 G15 4 (x862.nx.hd.bdy.drp 2)).s (s862 (L4o C c s++[.list r]) d0 d1 (some (.t (vI n))) (some (.t (f.getD .none))) (some (.t (g.getD .none)))) Q) =
   nine.map fun f=>nine.map fun g=>(fun st:S=>cond (same f g) (Q .next st) (oP (mOp 0 [.loc 4,.t (vI n)] st) fun p=>oP (p.1.tr?.map V.t) fun _=>Q .next p.2)) (s862 (L4o C c s++[.list r]) d0 d1 (some (.t (vI n))) (some (.t (f.getD .none))) (some (.t (g.getD .none)))):=by kernel_rfl
theorem kI_inj{a b:Nat}(h:kI a=kI b):a=b:=by
 unfold kI at h
 injection h with h
 injection h
theorem get_none{e:Nat→Option T}{n:Nat}:∀ {l:List Nat},n ∉ l→dGet (kI n) (tbL l e)=none
 | [],_=>rfl
 | a::l,h=>by
  have ih:=get_none (e:=e) (n:=n) (l:=l) fun m=>h (.tail _ m)
  unfold tbL at *
  rw [List.filterMap_cons]
  cases e a with
  | none=>exact ih
  | some x=>
   show dGet (kI n) ((kI a,x)::_)=none
   unfold dGet at *
   rw [List.find?_cons,decide_eq_false fun q:kI a=kI n=>h (kI_inj q▸List.Mem.head _)]
   exact ih
theorem get_tb{e:Nat→Option T}{n:Nat}:∀ {l:List Nat},l.Nodup→n∈l→dGet (kI n) (tbL l e)=e n
 | a::l,hd,m=>by
  obtain⟨h1,h2⟩:=List.nodup_cons.mp hd
  have ih:=get_tb (e:=e) (n:=n) (l:=l) h2
  by_cases q:n=a
  ·subst q
   have hn:=get_none (e:=e) h1
   unfold tbL at *
   rw [List.filterMap_cons]
   cases e n with
   | none=>exact hn
   | some x=>
    show dGet (kI n) ((kI n,x)::_)=some x
    unfold dGet
    rw [List.find?_cons,decide_eq_true rfl];rfl
  ·have hm:n∈l:=(List.mem_cons.mp m).resolve_left q
   have ih:=ih hm
   unfold tbL at *
   rw [List.filterMap_cons]
   cases e a with
   | none=>exact ih
   | some x=>
    show dGet (kI n) ((kI a,x)::_)=_
    unfold dGet at *
    rw [List.find?_cons,decide_eq_false fun z=>q (kI_inj z).symm]
    exact ih
noncomputable def hasN(e:Nat→Option T)(n:Nat):Bool:=(e n).isSome
theorem tb_map(e:Nat→Option T):∀ l:List Nat,tbL l e=(l.filter (hasN e)).map fun n=>(kI n,(e n).getD .none)
 | []=>rfl
 | a::l=>by
  have ih:=tb_map e l
  unfold tbL at *
  rw [List.filterMap_cons,List.filter_cons]
  unfold hasN at *
  cases h:e a with
  | none=>exact ih
  | some x=>
   show (kI a,x)::_=(kI a,(e a).getD .none)::_
   rw [h,ih];rfl
noncomputable def pick4:List Bool→List Nat
 | [a,b,c,d]=>cond a [5] []++cond b [1] []++cond c [12] []++cond d [3] []
 | _=>[]
noncomputable def up4:List Bool→List Nat
 | [a,b,c,d]=>cond b [1] []++cond d [3] []++cond a [5] []++cond c [12] []
 | _=>[]
noncomputable def fb(f:Nat→Bool):List Bool:=[f 5,f 1,f 12,f 3]
theorem fb_mem(f:Nat→Bool):fb f∈bits:=bits_mem _ rfl
theorem filt4(f:Nat→Bool):nsL.filter f=pick4 (fb f)∧[1,3,5,12].filter f=up4 (fb f):=by
 unfold nsL fb
 simp only [List.filter_cons,List.filter_nil]
 cases f 5 <;> cases f 1 <;> cases f 12 <;> cases f 3 <;> exact⟨rfl,rfl⟩
theorem pick4_ok:(bits.all fun x=>pats.contains (pick4 x) && sortN (pick4 x) == up4 x)=true:=by kernel_rfl
theorem up4_iter:bits.map (fun x=>iterV (.t (.list ((up4 x).map vI))))=bits.map fun x=>some ((up4 x).map fun n=>.t (vI n)):=by kernel_rfl
noncomputable def or4(f g:Nat→Bool)(n:Nat):Bool:=f n || g n
noncomputable def orB:List Bool→List Bool→List Bool
 | [a,b,c,d],[a',b',c',d']=>[a || a',b || b',c || c',d || d']
 | _,_=>[]
theorem ss4(s:S):bits.map (fun x=>bits.map fun y=>(opSS s (.t (.list ((up4 x).map vI++(up4 y).map vI)))).bind fun o=>moT o)=bits.map fun x=>bits.map fun y=>some (.list ((up4 (orB x y)).map vI)):=by kernel_rfl
theorem t862(xs:List V)(o:List MO)(Q:Rv→List MO→Prop)(h:(fxD 2 [] xs)=some xs):SW 0 tab (orcOf L15) 9 862 xs o Q=(wden 0 G15 o.length f862.bd).s (initS f862.ln f862.cn f862.ps xs o) (wOut 0 o.length Q):=by
 show oP (fxD 2 [] xs) _=_
 rw [h];rfl
theorem sc862:f862.bd=.sc x862.hd (.sc x862.nx.hd (x862.drp 2)):=by kernel_rfl
theorem t862z(C c:T)(s:Nat)(d0 d1:List (K×T))(Q:Rv→List MO→Prop):SW 0 tab (orcOf L15) 9 862 [.t (shT d0),.t (shT d1)] (L4o C c s) Q=(wden 0 G15 4 (.sc x862.nx.hd (x862.drp 2))).s (s862 (L4o C c s++[.list []]) d0 d1 none none none) (wOut 0 4 Q):=
 (t862 [.t (shT d0),.t (shT d1)] (L4o C c s) Q rfl).trans ((congrArg (fun k=>(wden 0 G15 k f862.bd).s (initS f862.ln f862.cn f862.ps [.t (shT d0),.t (shT d1)] (L4o C c s)) (wOut 0 k Q)) (rfl:(L4o C c s).length=4)).trans
  ((congrArg (fun x=>(wden 0 G15 4 x).s (initS f862.ln f862.cn f862.ps [.t (shT d0),.t (shT d1)] (L4o C c s)) (wOut 0 4 Q)) sc862).trans ((wden_sc 0 G15 4 x862.hd _ _ _).trans (t862a C c s d0 d1 _))))
theorem t862e(C c:T)(s:Nat)(r:List T)(d0 d1:List (K×T))(nu f g:Option V)(Q:Rv→List MO→Prop):(wden 0 G15 4 (x862.drp 2)).s (s862 (L4o C c s++[.list r]) d0 d1 nu f g) (wOut 0 4 Q)=Q (.new (.list r)) (L4o C c s):=by kernel_rfl
theorem wLoop8(b:CP Fl)(x:V)(xs:List V)(L:List MO)(d0 d1:List (K×T))(nu f g:Option V)(Q:Fl→S→Prop):wLoop (fun v=>up (tL 3 v)) b (x::xs) (s862 L d0 d1 nu f g) Q=b (s862 L d0 d1 (some x) f g) (wK (fun t=>wLoop (fun v=>up (tL 3 v)) b xs t Q) Q):=by
 show wSeq b _ _ _=_
 exact wSeq_eq ..
theorem nine_mem{o:Option T}(h:OKo o):o∈nine:=by
 cases o with
 | none=>exact .head _
 | some x=>
  cases h x rfl with
  | mk a b c ha hb hc=>
   refine .tail _ (List.mem_flatMap.mpr ⟨a,by simp;omega,List.mem_flatMap.mpr ⟨b,by simp;omega,List.mem_map.mpr ⟨c,by simp;omega,rfl⟩⟩⟩)
theorem turn862{C c:T}{s n:Nat}{r:List T}{d0 d1:List (K×T)}{f g:Option V}{Q:Fl→S→Prop}{K:S→Prop}(hr:r.length≤10)(h0:OKo (dGet (kI n) d0))(h1:OKo (dGet (kI n) d1))
  (k:∀ f g,K (s862 (L4o C c s++[.list (r++cond (same (dGet (kI n) d0) (dGet (kI n) d1)) [] [vI n])]) d0 d1 (some (.t (vI n))) f g)):(wden 0 G15 4 x862.nx.hd.bdy).s (s862 (L4o C c s++[.list r]) d0 d1 (some (.t (vI n))) f g) (wK K Q):=by
 refine((wden_cut 0 G15 4 2 x862.nx.hd.bdy _ _).trans (t862c C c s n r d0 d1 f g _)).symm.mp ?_
 refine(map_at (map_at (t862d C c s n r d0 d1 (wK K Q)) (nine_mem h0)) (nine_mem h1)).symm.mp ?_
 generalize same (dGet (kI n) d0) (dGet (kI n) d1)=b at k
 have k:=k (some (.t ((dGet (kI n) d0).getD .none))) (some (.t ((dGet (kI n) d1).getD .none)))
 cases b with
 | true=>
  simp only [cond,List.append_nil] at k
  exact k
 | false=>
  refine oP.mk (a:=(.val .none,s862 (L4o C c s++[MO.list (r++[vI n])]) d0 d1 (some (.t (vI n))) (some (.t ((dGet (kI n) d0).getD .none))) (some (.t ((dGet (kI n) d1).getD .none))))) ?_ k
  show gd (r.length < 1000000) _=_
  rw [gd.ok (by omega)];rfl
theorem loop862{C c:T}{s:Nat}{d0 d1:List (K×T)}{Q:Fl→S→Prop}{K:S→Prop}:∀ (ns:List Nat) (r:List T) (nu f g:Option V),(∀ n∈ns,OKo (dGet (kI n) d0)∧OKo (dGet (kI n) d1))→r.length+ns.length≤10 →
  (∀ nu f g,K (s862 (L4o C c s++[.list (r++(ns.filter fun n=>!same (dGet (kI n) d0) (dGet (kI n) d1)).map vI)]) d0 d1 nu f g)) →
  wLoop (fun v=>up (tL 3 v)) (wden 0 G15 4 x862.nx.hd.bdy).s (ns.map fun n=>.t (vI n)) (s862 (L4o C c s++[.list r]) d0 d1 nu f g) (wK K Q)
 | [],r,nu,f,g,_,_,k=>by
  have k:=k nu f g
  simp only [List.filter_nil,List.map_nil,List.append_nil] at k
  exact k
 | n::ns,r,nu,f,g,h,hl,k=>by
  rw [List.map_cons,wLoop8]
  simp only [List.length_cons] at hl
  refine turn862 (by omega) (h n (.head _)).1 (h n (.head _)).2 fun f' g'=>?_
  refine loop862 ns _ _ f' g' (fun m hm=>h m (.tail _ hm)) ?_ fun nu f g=>?_
  ·cases same (dGet (kI n) d0) (dGet (kI n) d1) <;> simp only [cond,List.length_append,List.length_cons,List.length_nil] <;> omega
  ·have k:=k nu f g
   rw [List.filter_cons] at k
   cases e:same (dGet (kI n) d0) (dGet (kI n) d1) with
   | true=>
    rw [e] at k
    simp only [cond,List.append_nil]
    exact k
   | false=>
    rw [e] at k
    simp only [cond,List.append_assoc]
    exact k
noncomputable def n4:List Nat:=[1,3,5,12]
noncomputable def dfD(d0 d1:List (K×T)):List Nat:=n4.filter fun n=>!(rpO (dGet (kI n) d0) == rpO (dGet (kI n) d1))
theorem rp_ne{x:T}(h:IsE x):rpO (some x) ≠ []:=by
 cases h with
 | mk a b c=>intro e;cases e
theorem df_eq{x y:Option T}(hx:OKo x)(hy:OKo y):(!same x y && (x.isSome || y.isSome))=!(rpO x == rpO y):=by
 cases x with
 | none=>
  cases y with
  | none=>rfl
  | some y=>
   have:=rp_ne (hy y rfl)
   have e:(rpO none == rpO (some y))=false:=by
    cases q:rpO (some y) with
    | nil=>exact absurd q this
    | cons a l=>rfl
   rw [e];rfl
 | some x=>
  cases y with
  | none=>
   have:=rp_ne (hx x rfl)
   have e:(rpO (some x) == rpO none)=false:=by
    cases q:rpO (some x) with
    | nil=>exact absurd q this
    | cons a l=>rfl
   rw [e];rfl
  | some y=>
   show (!(rpO (some x) == rpO (some y)) && true)=_
   rw [Bool.and_true]
noncomputable def rd862:List V→Option (List (K×T)×List (K×T))
 | [.t (.inst _ [(_,.dict d0),_]),.t (.inst _ [(_,.dict d1),_])]=>some (d0,d1)
 | _=>none
noncomputable def O862:Sw:=fun xs o Q=>oP (rd862 xs) fun(d0,d1)=>(xs=[.t (shT d0),.t (shT d1)]∧(∃ C c s,o=L4o C c s)∧∃ e0 e1,d0=tbL nsL e0∧d1=tbL nsL e1∧(∀ n,OKo (e0 n))∧∀ n,OKo (e1 n))∧Q (.new (.list ((dfD d0 d1).map vI))) o
theorem L15_ok:∀ f o,orcOf L15 f=some o→Orc tab 3 f o:=orcs_cons ok500 orcs_nil
theorem keys_tb(e:Nat→Option T):sortN (keysN (tbL nsL e))=up4 (fb (hasN e))∧∃ p∈pats,∃ x:Nat→T,tbL nsL e=p.map fun n=>(kI n,x n):=by
 have h:=List.all_eq_true.mp pick4_ok _ (fb_mem (hasN e))
 rw [Bool.and_eq_true] at h
 have e1:tbL nsL e=(pick4 (fb (hasN e))).map fun n=>(kI n,(e n).getD .none):=by rw [tb_map,(filt4 _).1]
 rw [e1,keys_map]
 exact⟨eq_of_beq h.2,_,List.contains_iff_mem.mp h.1,_,rfl⟩
theorem up4_len(x:List Bool):(up4 x).length≤4:=by
 unfold up4
 split
 ·rename_i a b c d
  cases a <;> cases b <;> cases c <;> cases d <;> exact Nat.le_of_ble_eq_true rfl
 ·exact Nat.zero_le _
theorem n4_mem{n:Nat}(h:n∈n4):n∈nsL:=(by decide:∀ n∈n4,n∈nsL) n h
theorem ok862:Orc tab 12 862 O862:=by
 refine .of 0 L15_ok (n:=9) rfl fun xs o Q h=>?_
 obtain⟨⟨d0,d1⟩,_,⟨rfl,⟨C,c,s,rfl⟩,e0,e1,rfl,rfl,k0,k1⟩,q⟩:=h.el
 have nd:nsL.Nodup:=by decide
 have g0:∀ n∈n4,dGet (kI n) (tbL nsL e0)=e0 n:=fun n hn=>get_tb nd (n4_mem hn)
 have g1:∀ n∈n4,dGet (kI n) (tbL nsL e1)=e1 n:=fun n hn=>get_tb nd (n4_mem hn)
 obtain⟨a0,b0⟩:=keys_tb e0
 obtain⟨a1,b1⟩:=keys_tb e1
 have eo:up4 (orB (fb (hasN e0)) (fb (hasN e1)))=n4.filter (or4 (hasN e0) (hasN e1)):=(filt4 (or4 (hasN e0) (hasN e1))).2.symm
 refine(t862z C c s _ _ Q).symm.mp ?_
 rw [wden_sc]
 refine(t862b C c s _ _ _).symm.mp ?_
 refine oP.mk rfl ⟨⟨rfl,b0⟩,oP.mk rfl (oP.mk rfl ⟨⟨rfl,b1⟩,oP.mk rfl ?_⟩)⟩
 rw [a0,a1]
 have l0:=up4_len (fb (hasN e0))
 have l1:=up4_len (fb (hasN e1))
 refine oP.mk (a:=.list ((up4 (fb (hasN e0))).map vI++(up4 (fb (hasN e1))).map vI)) (by
  show Option.or Option.none (Option.or Option.none (Option.or Option.none (Option.or (gd _ _) _)))=_
  rw [gd.ok (by rw [List.length_map,List.length_map];omega)];rfl) ?_
 have hs:=map_at (map_at (ss4 (s862 (L4o C c s++[.list []]) (tbL nsL e0) (tbL nsL e1) none none none)) (fb_mem (hasN e0))) (fb_mem (hasN e1))
 obtain⟨mo,hm,hs⟩:=Option.bind_eq_some_iff.mp hs
 refine oP.mk (a:=(.new mo,s862 (L4o C c s++[.list []]) (tbL nsL e0) (tbL nsL e1) none none none)) (by show Option.map _ (opSS _ _)=_;rw [hm];rfl) ?_
 refine oP.mk (a:=.t (.list ((up4 (orB (fb (hasN e0)) (fb (hasN e1)))).map vI))) (by show Option.map V.t (moT mo)=_;rw [hs];rfl) ?_
 refine oP.mk (map_at up4_iter (fb_mem (or4 (hasN e0) (hasN e1)))) ?_
 show wLoop _ _ ((up4 (orB (fb (hasN e0)) (fb (hasN e1)))).map fun n=>.t (vI n)) _ _
 rw [eo]
 have sub:∀ n∈n4.filter (or4 (hasN e0) (hasN e1)),n∈n4:=fun n hn=>(List.mem_filter.mp hn).1
 refine loop862 _ [] _ _ _ (fun n hn=>⟨g0 n (sub n hn)▸k0 n,g1 n (sub n hn)▸k1 n⟩) (by have h4:=List.length_filter_le (or4 (hasN e0) (hasN e1)) n4;have h5:n4.length=4:=rfl;rw [List.length_nil];omega) fun nu f g=>?_
 refine(t862e C c s _ _ _ nu f g Q).symm.mp ?_
 rw [List.nil_append,List.filter_filter]
 have ef:(n4.filter fun n=>!same (dGet (kI n) (tbL nsL e0)) (dGet (kI n) (tbL nsL e1)) && or4 (hasN e0) (hasN e1) n)=dfD (tbL nsL e0) (tbL nsL e1):=List.filter_congr fun n hn=>by
  rw [g0 n hn,g1 n hn]
  exact df_eq (k0 n) (k1 n)
 rw [ef]
 exact q
noncomputable def s913(L:List MO)(tb rw:V)(ta so nu:Option V):S:=⟨[some (.loc 0),some tb,some rw,ta,so],[nu],L⟩
noncomputable def x913:X:=f913.bd
noncomputable abbrev L14:List (Nat×Sw):=[(869,O869),(862,O862)]
theorem L14_ok:∀ f o,orcOf L14 f=some o→Orc tab 12 f o:=orcs_cons (ok869.up (by decide)) (orcs_cons ok862 orcs_nil)
noncomputable abbrev G13:Nat→Sw:=SW 0 tab (orcOf L14) 5
theorem sc913:f913.bd=.sc x913.hd (.sc x913.nx.hd x913.nx.nx):=by kernel_rfl
theorem t913a(C c:T)(s:Nat)(Q:Fl→S→Prop):(wden 0 G13 1 x913.hd).s (initS f913.ln f913.cn f913.ps [.loc 0] [penO C c s]) Q=Q .next (s913 [penO C c s,.dict [],.dict [],.list []] (.lst [1,2]) (.loc 3) none none none):=by kernel_rfl
noncomputable def inB:X:=x913.nx.hd.bdy.hd.bdy
theorem t913b(C c:T)(s:Nat)(d0 d1:List (K×T))(r:List T)(ta so:Option V)(Q:Fl→S→Prop):(wden 0 G13 1 x913.nx.hd).s (s913 [penO C c s,.dict d0,.dict d1,.list r] (.lst [1,2]) (.loc 3) ta so none) Q =
   wLoop (fun v=>up (tC 0 v)) (wden 0 G13 1 x913.nx.hd.bdy).s [.t (vI 5),.t (vI 1),.t (vI 12),.t (vI 3)] (s913 [penO C c s,.dict d0,.dict d1,.list r] (.lst [1,2]) (.loc 3) ta so none) Q:=by kernel_rfl
theorem t913c(C c:T)(s:Nat)(d0 d1:List (K×T))(r:List T)(ta so nu:Option V)(Q:Fl→S→Prop):(wden 0 G13 1 x913.nx.hd.bdy).s (s913 [penO C c s,.dict d0,.dict d1,.list r] (.lst [1,2]) (.loc 3) ta so nu) Q =
   wSeq (fun t Q=>wLoop (fun v=>up (tL 3 v)) (wden 0 G13 1 inB).s [.loc 1,.loc 2] t Q) wNext (s913 [penO C c s,.dict d0,.dict d1,.list r] (.lst [1,2]) (.loc 3) ta so nu) Q:=by kernel_rfl
def vlQ(C c:T)(s:Nat)(K:T→Prop):Prop:=dwE C c s 2 fun a=>dwE C c (s+1) 2 fun b=>dwE C c (s+2) 2 fun x=>K (vlT a b x)
theorem t913d(C c:T)(s n:Nat)(d0 d1:List (K×T))(r:List T)(so:Option V)(Q:Fl→S→Prop):[0,1].map (fun j=>(wden 0 G13 1 inB).s (s913 [penO C c s,.dict d0,.dict d1,.list r] (.lst [1,2]) (.loc 3) (some (.loc (j+1))) so (some (.t (vI n)))) Q) =
 [0,1].map fun j=>dwE C c s 3 fun t=>match t with
  | 0=>Q .next (s913 [penO C c (s+1),.dict d0,.dict d1,.list r] (.lst [1,2]) (.loc 3) (some (.loc (j+1))) so (some (.t (vI n))))
  | _=>vlQ C c (s+1) fun x=>up (dTry fun s=>setV s (.loc (j+1)) (.t (vI n)) (.t x)) (s913 [penO C c (s+4),.dict d0,.dict d1,.list r] (.lst [1,2]) (.loc 3) (some (.loc (j+1))) so (some (.t (vI n)))) (wK (fun t=>Q .next t) Q):=by kernel_rfl
noncomputable def addD(n:Nat)(o:Option T)(d:List (K×T)):List (K×T):=match o with
 | none=>d
 | some x=>dSet (kI n) x d
theorem tbL_key{l:List Nat}{e:Nat→Option T}{p:K×T}(h:p∈tbL l e):∃ n∈l,e n=some p.2∧p.1=kI n:=by
 obtain⟨n,hn,q⟩:=List.mem_filterMap.mp h
 cases e':e n with
 | none=>rw [e'] at q;cases q
 | some x=>rw [e'] at q;cases q;exact⟨n,hn,e',rfl⟩
theorem tbL_has{l:List Nat}{e:Nat→Option T}{n:Nat}(h:n ∉ l):dHas (kI n) (tbL l e)=false:=by
 unfold dHas
 rw [List.any_eq_false]
 intro p hp q
 obtain⟨m,hm,_,k⟩:=tbL_key hp
 have:=of_decide_eq_true q
 exact h (kI_inj (this.symm.trans k)▸hm)
theorem tbL_congr{l:List Nat}{e e':Nat→Option T}(h:∀ n∈l,e n=e' n):tbL l e=tbL l e':=by
 induction l with
 | nil=>rfl
 | cons a l ih=>
  unfold tbL at *
  rw [List.filterMap_cons,List.filterMap_cons,ih fun n m=>h n (.tail _ m),h a (.head _)]
theorem add_tb{l:List Nat}{e:Nat→Option T}{n:Nat}(h:n ∉ l)(o:Option T):addD n o (tbL l e)=tbL (l++[n]) (updF e n o):=by
 have e1:tbL l (updF e n o)=tbL l e:=tbL_congr fun m hm=>if_neg fun q:m=n=>h (q▸hm)
 have e2:tbL (l++[n]) (updF e n o)=tbL l e++tbL [n] (updF e n o):=by
  rw [←e1];exact List.filterMap_append ..
 have e3:updF e n o n=o:=if_pos rfl
 rw [e2]
 unfold addD
 cases o with
 | none=>
  show tbL l e=tbL l e++[n].filterMap _
  rw [List.filterMap_cons];simp only [e3,Option.map,List.filterMap_nil,List.append_nil]
 | some x=>
  show dSet (kI n) x (tbL l e)=tbL l e++[n].filterMap _
  unfold dSet
  rw [tbL_has h,if_neg Bool.false_ne_true,List.filterMap_cons];simp only [e3,Option.map,List.filterMap_nil]
theorem tbL_len(l:List Nat)(e:Nat→Option T):(tbL l e).length≤l.length:=List.length_filterMap_le ..
theorem wLoopC(b:CP Fl)(x:V)(xs:List V)(L:List MO)(tb rw:V)(ta so nu:Option V)(Q:Fl→S→Prop):wLoop (fun v=>up (tC 0 v)) b (x::xs) (s913 L tb rw ta so nu) Q=b (s913 L tb rw ta so (some x)) (wK (fun t=>wLoop (fun v=>up (tC 0 v)) b xs t Q) Q):=by
 show wSeq b _ _ _=_
 exact wSeq_eq ..
theorem wLoopT(b:CP Fl)(x:V)(xs:List V)(L:List MO)(tb rw:V)(ta so nu:Option V)(Q:Fl→S→Prop):wLoop (fun v=>up (tL 3 v)) b (x::xs) (s913 L tb rw ta so nu) Q=b (s913 L tb rw (some x) so nu) (wK (fun t=>wLoop (fun v=>up (tL 3 v)) b xs t Q) Q):=by
 show wSeq b _ _ _=_
 exact wSeq_eq ..
theorem cell913{C c:T}{s n:Nat}{d0 d1:List (K×T)}{r:List T}{so:Option V}{Q:Fl→S→Prop}{K:S→Prop}(p:Pn C (s+4) c)(h0:d0.length < 1000000)(h1:d1.length < 1000000) :
  ((∀ o s',OKo o→s≤s'→s'≤s+4→K (s913 [penO C c s',.dict (addD n o d0),.dict d1,.list r] (.lst [1,2]) (.loc 3) (some (.loc 1)) so (some (.t (vI n))))) →
   (wden 0 G13 1 inB).s (s913 [penO C c s,.dict d0,.dict d1,.list r] (.lst [1,2]) (.loc 3) (some (.loc 1)) so (some (.t (vI n)))) (wK K Q)) ∧
  ((∀ o s',OKo o→s≤s'→s'≤s+4→K (s913 [penO C c s',.dict d0,.dict (addD n o d1),.list r] (.lst [1,2]) (.loc 3) (some (.loc 2)) so (some (.t (vI n))))) →
   (wden 0 G13 1 inB).s (s913 [penO C c s,.dict d0,.dict d1,.list r] (.lst [1,2]) (.loc 3) (some (.loc 2)) so (some (.t (vI n)))) (wK K Q)):=by
 have T0:=fun Q=>map_at (t913d C c s n d0 d1 r so Q) (show 0∈[0,1] from .head _)
 have T1:=fun Q=>map_at (t913d C c s n d0 d1 r so Q) (show 1∈[0,1] from .tail _ (.head _))
 have v:∀ {K':T→Prop},(∀ x,IsE x→K' x)→vlQ C c (s+1) K':=fun k=>.mk (p.le (by omega)) (by decide) fun a ha=>.mk (p.le (by omega)) (by decide) fun b hb=>.mk (p.le (by omega)) (by decide) fun x hx=>k _ (.mk a b x ha hb hx)
 have none_ok:OKo none:=fun _ e=>by cases e
 have some_ok:∀ {x},IsE x→OKo (some x):=fun h _ e=>by cases e;exact h
 constructor
 ·intro k
  refine(T0 _).symm.mp (.mk (p.le (by omega)) (by decide) fun t ht=>?_)
  match t with
  | 0=>exact k none (s+1) none_ok (by omega) (by omega)
  | t+1=>exact v fun x hx=>oP.mk (a:=(.next,s913 [penO C c (s+4),.dict (dSet (kI n) x d0),.dict d1,.list r] (.lst [1,2]) (.loc 3) (some (.loc 1)) so (some (.t (vI n))))) (by
    show ((gd (d0.length < 1000000) _).or _).map _=_
    rw [gd.ok h0];rfl) (k (some x) (s+4) (some_ok hx) (by omega) (by omega))
 ·intro k
  refine(T1 _).symm.mp (.mk (p.le (by omega)) (by decide) fun t ht=>?_)
  match t with
  | 0=>exact k none (s+1) none_ok (by omega) (by omega)
  | t+1=>exact v fun x hx=>oP.mk (a:=(.next,s913 [penO C c (s+4),.dict d0,.dict (dSet (kI n) x d1),.list r] (.lst [1,2]) (.loc 3) (some (.loc 2)) so (some (.t (vI n))))) (by
    show ((gd (d1.length < 1000000) _).or _).map _=_
    rw [gd.ok h1];rfl) (k (some x) (s+4) (some_ok hx) (by omega) (by omega))
theorem addD_len(n:Nat)(o:Option T)(d:List (K×T)):(addD n o d).length≤d.length+1:=by
 unfold addD
 split
 ·omega
 ·unfold dSet
  split
  ·rw [List.length_map];omega
  ·rw [List.length_append];exact Nat.le_refl _
theorem row913{C c:T}{s n:Nat}{d0 d1:List (K×T)}{r:List T}{ta so:Option V}{Q:Fl→S→Prop}{K:S→Prop}(p:Pn C (s+8) c)(h0:d0.length≤10)(h1:d1.length≤10)
  (k:∀ o0 o1 s',OKo o0→OKo o1→s≤s'→s'≤s+8→K (s913 [penO C c s',.dict (addD n o0 d0),.dict (addD n o1 d1),.list r] (.lst [1,2]) (.loc 3) (some (.loc 2)) so (some (.t (vI n))))) :
  (wden 0 G13 1 x913.nx.hd.bdy).s (s913 [penO C c s,.dict d0,.dict d1,.list r] (.lst [1,2]) (.loc 3) ta so (some (.t (vI n)))) (wK K Q):=by
 refine(t913c C c s d0 d1 r ta so _ _).symm.mp ?_
 rw [wSeq_eq,wLoopT]
 refine(cell913 (p.le (by omega)) (by omega) (by omega)).1 fun o0 s1 ho h2 h3=>?_
 rw [wLoopT]
 have:=addD_len n o0 d0
 exact(cell913 (p.le (by omega)) (by omega) (by omega)).2 fun o1 s2 ho' h4 h5=>k o0 o1 s2 ho ho' (by omega) (by omega)
theorem loop913{C c:T}{r:List T}{Q:Fl→S→Prop}{K:S→Prop}{so:Option V}:∀ (ns l:List Nat) (e0 e1:Nat→Option T) (s:Nat) (ta nu:Option V),ns ≠ []→(l++ns).Nodup→l.length+ns.length≤4→(∀ n,OKo (e0 n))→(∀ n,OKo (e1 n))→Pn C (s+8 * ns.length) c →
  (∀ e0 e1 s' m,(∀ n,OKo (e0 n))→(∀ n,OKo (e1 n))→s≤s'→s'≤s+8 * ns.length→K (s913 [penO C c s',.dict (tbL (l++ns) e0),.dict (tbL (l++ns) e1),.list r] (.lst [1,2]) (.loc 3) (some (.loc 2)) so (some (.t (vI m))))) →
  wLoop (fun v=>up (tC 0 v)) (wden 0 G13 1 x913.nx.hd.bdy).s (ns.map fun n=>.t (vI n)) (s913 [penO C c s,.dict (tbL l e0),.dict (tbL l e1),.list r] (.lst [1,2]) (.loc 3) ta so nu) (wK K Q)
 | [],_,_,_,_,_,_,h,_,_,_,_,_,_=>absurd rfl h
 | n::ns,l,e0,e1,s,ta,nu,_,hd,hl,k0,k1,p,k=>by
  rw [List.map_cons,wLoopC]
  simp only [List.length_cons] at hl p k
  have nl:n ∉ l:=fun m=>(List.nodup_append.mp hd).2.2 n m n (.head _) rfl
  have t0:=tbL_len l e0
  have t1:=tbL_len l e1
  refine row913 (p.le (by omega)) (by omega) (by omega) fun o0 o1 s1 h0 h1 h2 h3=>?_
  rw [add_tb nl,add_tb nl]
  have ok:∀ {e:Nat→Option T} {o},(∀ n,OKo (e n))→OKo o→∀ m,OKo (updF e n o m):=fun h ho m=>by
   unfold updF
   by_cases q:m=n
   ·rw [if_pos q];exact ho
   ·rw [if_neg q];exact h m
  have ea:l++n::ns=(l++[n])++ns:=by rw [List.append_assoc];rfl
  cases ns with
  | nil=>exact k _ _ s1 n (ok k0 h0) (ok k1 h1) h2 (by simp only [List.length_nil];omega)
  | cons a ns=>
   refine loop913 (a::ns) (l++[n]) _ _ s1 _ _ (List.cons_ne_nil _ _) (ea▸hd) (by rw [List.length_append];simp only [List.length_cons,List.length_nil] at *;omega) (ok k0 h0) (ok k1 h1) (p.le (by omega)) fun f0 f1 s2 m q0 q1 q2 q3=>?_
   rw [←ea]
   exact k f0 f1 s2 m q0 q1 (by omega) (by omega)
theorem drawn913{C c:T}{s:Nat}{Q:Fl→S→Prop}{K:S→Prop}(p:Pn C (s+32) c)
  (k:∀ e0 e1 s' m,(∀ n,OKo (e0 n))→(∀ n,OKo (e1 n))→s≤s'→s'≤s+32→K (s913 [penO C c s',.dict (tbL nsL e0),.dict (tbL nsL e1),.list []] (.lst [1,2]) (.loc 3) (some (.loc 2)) none (some (.t (vI m))))) :
  (wden 0 G13 1 x913.nx.hd).s (s913 [penO C c s,.dict [],.dict [],.list []] (.lst [1,2]) (.loc 3) none none none) (wK K Q):=by
 have no:∀ n:Nat,OKo ((fun _=>none:Nat→Option T) n):=fun _ _ e=>by cases e
 refine(t913b C c s [] [] [] none none _).symm.mp (loop913 nsL [] (fun _=>none) (fun _=>none) s none none (List.cons_ne_nil _ _) (by decide) (by decide) no no p k)
noncomputable def y913:X:=x913.nx.nx.nx
noncomputable def t2(d0 d1:List (K×T)):V:=.t (.list [.dict d0,.dict d1])
theorem t913e(C c:T)(s m:Nat)(d0 d1:List (K×T))(Q:Fl→S→Prop):(wden 0 G13 1 x913.nx.nx).s (s913 [penO C c s,.dict d0,.dict d1,.list []] (.lst [1,2]) (.loc 3) (some (.loc 2)) none (some (.t (vI m)))) Q =
   (wden 0 G13 1 y913).s (s913 [penO C c s,.gone,.gone,.list []] (t2 d0 d1) (.loc 3) (some (.t (.dict d1))) none (some (.t (vI m)))) Q:=by kernel_rfl
theorem t913f(C c:T)(s m:Nat)(d0 d1:List (K×T))(r:List T)(ta so nu:Option V)(Q:Fl→S→Prop):(wden 0 G13 1 y913.hd).s (s913 [penO C c s,.gone,.gone,.list r] (t2 d0 d1) (.loc 3) ta so nu) Q =
   wLoop (fun v=>up (tC 0 v)) (wden 0 G13 1 y913.hd.bdy).s [.t (vI 1),.t (vI 3),.t (vI 5),.t (vI 12)] (s913 [penO C c s,.gone,.gone,.list r] (t2 d0 d1) (.loc 3) ta so nu) Q:=by kernel_rfl
noncomputable def cS(L:List MO)(d:List (K×T))(n:Nat):S:=⟨[none,some (.t (.dict d))],[some (.t (vI n))],L⟩
noncomputable def textN:List Nat:=[116,101,120,116]
noncomputable def X.eltK(x:X):X:=x.hd
noncomputable def eX:X:=y913.hd.bdy.hd.eltK
def EL1(o:Option V)(s:S)(Q:V→S→Prop):Prop:=oP o fun x1=>oP (itemV s x1 (.t (.int 0))) fun y1=>oP o fun x2=>oP (itemV s x2 (.t (.int 1))) fun z2=>oP (itemV s z2 (.t (.int 0))) fun y2=>
 oP o fun x3=>oP (itemV s x3 (.t (.int 1))) fun z3=>oP (itemV s z3 (.t (.int 1))) fun w3=>oP (attrV textN s w3) fun y3=>oP ((allL [y1,y2,y3]).map fun ts=>V.t (.tup ts)) fun t=>oP (bOp 13 [t] s) fun p=>oP (p.1.tr?.map V.t) fun v=>Q v p.2
theorem t913g(L:List MO)(n:Nat)(d:List (K×T))(Q:V→S→Prop):(wden 0 G13 1 eX).v (cS L d n) Q=cond (dGet (kI n) d).isSome (EL1 (itemV (cS L d n) (.t (.dict d)) (.t (vI n))) (cS L d n) Q) (Q (.t (.str [])) (cS L d n)):=by kernel_rfl
theorem itD{s:S}{d:List (K×T)}{n:Nat}{x:T}(h:dGet (kI n) d=some x):itemV s (.t (.dict d)) (.t (vI n))=some (.t x):=by
 show Option.map V.t (Option.or (Option.or (dGet (kI n) d) _) _)=_
 rw [h];rfl
theorem t913h(L:List MO)(n:Nat)(d:List (K×T))(Q:V→S→Prop):[0,1].map (fun a=>[0,1].map fun b=>[0,1].map fun c=>EL1 (some (.t (vlT a b c))) (cS L d n) Q)=[0,1].map fun a=>[0,1].map fun b=>[0,1].map fun c=>Q (.t (.str (rp a b c))) (cS L d n):=by kernel_rfl
theorem two{n:Nat}(h:n < 2):n∈[0,1]:=by simp only [List.mem_cons,List.not_mem_nil,or_false];omega
theorem elt913{L:List MO}{n:Nat}{d:List (K×T)}{Q:V→S→Prop}(h:OKo (dGet (kI n) d))(q:Q (.t (.str (rpO (dGet (kI n) d)))) (cS L d n)):(wden 0 G13 1 eX).v (cS L d n) Q:=by
 refine(t913g L n d Q).symm.mp ?_
 cases e:dGet (kI n) d with
 | none=>rw [e] at q;exact q
 | some x=>
  rw [e] at q
  have hx:=h x e
  show EL1 _ _ _
  rw [itD e]
  cases hx with
  | mk a b c ha hb hc=>
   refine(map_at (map_at (map_at (t913h L n d Q) (two ha)) (two hb)) (two hc)).symm.mp ?_
   have:rpO (some (vlT a b c))=rp a b c:=by
    show rp a b (97+c - 97)=_
    rw [Nat.add_sub_cancel_left]
   rw [this] at q
   exact q
theorem comp1(de:CP V)(x:V)(xs:List V)(s:S)(Q:List T→S→Prop):wCompL 1 (up (dB true)) de (x::xs) s Q=de (s.setL 1 x) fun v s1=>oP v.tr? fun y=>wCompL 1 (up (dB true)) de xs s1 fun r s2=>Q (y::r) s2:=rfl
theorem t913i(L:List MO)(n:Nat)(d0 d1:List (K×T))(ta so:Option V)(Q:Fl→S→Prop):(wden 0 G13 1 y913.hd.bdy.hd).s (s913 L (t2 d0 d1) (.loc 3) ta so (some (.t (vI n)))) Q =
   wCompL 1 (up (dB true)) (wden 0 G13 1 eX).v [.t (.dict d0),.t (.dict d1)] ⟨[none,none],[some (.t (vI n))],L⟩ fun r s'=>oP (gd (r.length≤16777216∧s'.cl.length=1) r) fun ys=>Q .next (S.setL { s913 L (t2 d0 d1) (.loc 3) ta so (some (.t (vI n))) with cl:=wbC [0] s'.cl [some (.t (vI n))],o:=s'.o } 4 (.t (.list ys))):=by kernel_rfl
noncomputable def L5o(C c:T)(s:Nat)(r:List T):List MO:=[penO C c s,.gone,.gone,.list r]
theorem t913j(C c:T)(s n:Nat)(d0 d1:List (K×T))(r:List T)(ta:Option V)(a b:List Nat)(Q:Fl→S→Prop):(wden 0 G13 1 y913.hd.bdy.nx).s (s913 (L5o C c s r) (t2 d0 d1) (.loc 3) ta (some (.t (.list [.str a,.str b]))) (some (.t (vI n)))) Q =
   cond (!decide (a=b)) (oP (mOp 0 [.loc 3,.t (vI n)] (s913 (L5o C c s r) (t2 d0 d1) (.loc 3) ta (some (.t (.list [.str a,.str b]))) (some (.t (vI n))))) fun p=>oP (p.1.tr?.map V.t) fun _=>Q .next p.2)
     (Q .next (s913 (L5o C c s r) (t2 d0 d1) (.loc 3) ta (some (.t (.list [.str a,.str b]))) (some (.t (vI n))))):=by kernel_rfl
theorem turn913{C c:T}{s n:Nat}{d0 d1:List (K×T)}{r:List T}{ta so:Option V}{Q:Fl→S→Prop}{K:S→Prop}(hr:r.length≤10)(h0:OKo (dGet (kI n) d0))(h1:OKo (dGet (kI n) d1))
  (k:∀ so,K (s913 (L5o C c s (r++cond (decide (rpO (dGet (kI n) d0)=rpO (dGet (kI n) d1))) [] [vI n])) (t2 d0 d1) (.loc 3) ta (some (.t so)) (some (.t (vI n))))) :
  (wden 0 G13 1 (.sc y913.hd.bdy.hd y913.hd.bdy.nx)).s (s913 (L5o C c s r) (t2 d0 d1) (.loc 3) ta so (some (.t (vI n)))) (wK K Q):=by
 rw [wden_sc]
 refine(t913i (L5o C c s r) n d0 d1 ta so _).symm.mp ?_
 rw [comp1]
 refine elt913 h0 ?_
 show wCompL 1 (up (dB true)) (wden 0 G13 1 eX).v [.t (.dict d1)] (cS (L5o C c s r) d0 n) _
 rw [comp1]
 refine elt913 h1 ?_
 show (wden 0 G13 1 y913.hd.bdy.nx).s (s913 (L5o C c s r) (t2 d0 d1) (.loc 3) ta (some (.t (.list [.str (rpO (dGet (kI n) d0)),.str (rpO (dGet (kI n) d1))]))) (some (.t (vI n)))) (wK K Q)
 refine(t913j C c s n d0 d1 r ta _ _ _).symm.mp ?_
 have k:=k (.list [.str (rpO (dGet (kI n) d0)),.str (rpO (dGet (kI n) d1))])
 generalize decide (rpO (dGet (kI n) d0)=rpO (dGet (kI n) d1))=b at k ⊢
 cases b with
 | true=>
  simp only [cond,List.append_nil] at k
  exact k
 | false=>
  refine oP.mk (a:=(.val .none,s913 (L5o C c s (r++[vI n])) (t2 d0 d1) (.loc 3) ta (some (.t (.list [.str (rpO (dGet (kI n) d0)),.str (rpO (dGet (kI n) d1))]))) (some (.t (vI n))))) ?_ k
  show gd (r.length < 1000000) _=_
  rw [gd.ok (by omega)];rfl
theorem sc913b:y913.hd.bdy=.sc y913.hd.bdy.hd y913.hd.bdy.nx:=by kernel_rfl
noncomputable def X.cA(x:X):X:=x.hd.hd
noncomputable def X.cB(x:X):X:=x.hd.nx
noncomputable def X.cC(x:X):X:=(x.hd.ch.drop 2).headD .s0
noncomputable def rX:X:=y913.nx.nx.hd
theorem t913k(C c:T)(s:Nat)(r:List T)(d0 d1:List (K×T))(ta so nu:T)(Q:Fl→S→Prop):(wden 0 G13 1 y913.nx).s (s913 (L5o C c s r) (t2 d0 d1) (.loc 3) (some (.t ta)) (some (.t so)) (some (.t nu))) Q =
 (wden 0 G13 1 y913.nx.nx).s (s913 (L4o C c s) (t2 d0 d1) (.t (.list r)) (some (.t ta)) (some (.t so)) (some (.t nu))) Q:=by kernel_rfl
theorem t913l(st:S)(Q:Rv→List MO→Prop):(wden 0 G13 1 y913.nx.nx).s st (wOut 0 1 Q)=(wden 0 G13 1 rX.cA).v st fun x s1=>(wden 0 G13 1 rX.cB).v s1 fun y s2=>oP ((cmpV .Eq s2 x y).map fun t=>(t,s2)) fun p=>
   cond p.1 ((wden 0 G13 1 rX.cC).v p.2 fun z s3=>oP (cmpV .Eq s3 y z) fun b=>Q (.val (.bool b)) ((s3.cut 1).getD s3).o) (Q (.val (.bool false)) ((p.2.cut 1).getD p.2).o):=by kernel_rfl
theorem t913m(C c:T)(s:Nat)(r:T)(d0 d1:List (K×T))(ta so nu:Option V)(Q:V→S→Prop):(wden 0 G13 1 rX.cA).v (s913 (L4o C c s) (t2 d0 d1) (.t r) ta so nu) Q=O862 [.t (shT d0),.t (shT d1)] (L4o C c s) fun r0 o'=>oP (r0.tr?.map V.t) fun A=>Q A (s913 o' (t2 d0 d1) (.t r) ta so nu):=by kernel_rfl
theorem t913n(C c:T)(s:Nat)(r:T)(d0 d1:List (K×T))(ta so nu:Option V)(Q:V→S→Prop):(wden 0 G13 1 rX.cC).v (s913 (L4o C c s) (t2 d0 d1) (.t r) ta so nu) Q=O862 [.t (shT d1),.t (shT d0)] (L4o C c s) fun r0 o'=>oP (r0.tr?.map V.t) fun A=>Q A (s913 o' (t2 d0 d1) (.t r) ta so nu):=by kernel_rfl
theorem t913o(L:List MO)(r:T)(d0 d1:List (K×T))(ta so nu:Option V)(Q:V→S→Prop):(wden 0 G13 1 rX.cB).v (s913 L (t2 d0 d1) (.t r) ta so nu) Q=Q (.t r) (s913 L (t2 d0 d1) (.t r) ta so nu):=by kernel_rfl
theorem eq_rows(s:S):bits.map (fun x=>cmpV .Eq s (.t (.list ((up4 x).map vI))) (.t (.list ((up4 x).map vI))))=bits.map fun _=>some true:=by kernel_rfl
theorem mo_rows:bits.map (fun x=>moT (.list ((up4 x).map vI)))=bits.map fun x=>some (.list ((up4 x).map vI)):=by kernel_rfl
theorem t913(xs:List V)(o:List MO)(Q:Rv→List MO→Prop)(h:(fxD 1 [] xs)=some xs):SW 0 tab (orcOf L14) 6 913 xs o Q=(wden 0 G13 o.length f913.bd).s (initS f913.ln f913.cn f913.ps xs o) (wOut 0 o.length Q):=by
 show oP (fxD 1 [] xs) _=_
 rw [h];rfl
theorem t913z(C c:T)(s:Nat)(Q:Rv→List MO→Prop):SW 0 tab (orcOf L14) 6 913 [.loc 0] [penO C c s] Q=(wden 0 G13 1 (.sc x913.nx.hd x913.nx.nx)).s (s913 [penO C c s,.dict [],.dict [],.list []] (.lst [1,2]) (.loc 3) none none none) (wOut 0 1 Q):=
 (t913 [.loc 0] [penO C c s] Q rfl).trans ((congrArg (fun k=>(wden 0 G13 k f913.bd).s (initS f913.ln f913.cn f913.ps [.loc 0] [penO C c s]) (wOut 0 k Q)) (rfl:[penO C c s].length=1)).trans
  ((congrArg (fun x=>(wden 0 G13 1 x).s (initS f913.ln f913.cn f913.ps [.loc 0] [penO C c s]) (wOut 0 1 Q)) sc913).trans ((wden_sc 0 G13 1 x913.hd _ _ _).trans (t913a C c s _))))
theorem sc913c:y913=.sc y913.hd y913.nx:=by kernel_rfl
theorem beq_dec(a b:List Nat):(a == b)=decide (a=b):=by
 by_cases h:a=b
 ·rw [decide_eq_true h];exact beq_iff_eq.mpr h
 ·rw [decide_eq_false h];exact beq_eq_false_iff_ne.mpr h
noncomputable def dfN(d0 d1:List (K×T))(n:Nat):Bool:=!(rpO (dGet (kI n) d0) == rpO (dGet (kI n) d1))
theorem df_app(d0 d1:List (K×T))(r:List T)(n:Nat)(ns:List Nat):(r++cond (decide (rpO (dGet (kI n) d0)=rpO (dGet (kI n) d1))) [] [vI n])++(ns.filter (dfN d0 d1)).map vI=r++((n::ns).filter (dfN d0 d1)).map vI:=by
 rw [List.filter_cons]
 unfold dfN
 rw [←beq_dec]
 cases rpO (dGet (kI n) d0) == rpO (dGet (kI n) d1) with
 | true=>simp
 | false=>simp
theorem loopY{C c:T}{s:Nat}{d0 d1:List (K×T)}{ta:Option V}{Q:Fl→S→Prop}{K:S→Prop}:∀ (ns:List Nat) (r:List T) (so nu:T),(∀ n∈ns,OKo (dGet (kI n) d0)∧OKo (dGet (kI n) d1))→r.length+ns.length≤10 →
  (∀ so nu,K (s913 (L5o C c s (r++(ns.filter (dfN d0 d1)).map vI)) (t2 d0 d1) (.loc 3) ta (some (.t so)) (some (.t nu)))) →
  wLoop (fun v=>up (tC 0 v)) (wden 0 G13 1 (.sc y913.hd.bdy.hd y913.hd.bdy.nx)).s (ns.map fun n=>.t (vI n)) (s913 (L5o C c s r) (t2 d0 d1) (.loc 3) ta (some (.t so)) (some (.t nu))) (wK K Q)
 | [],r,so,nu,_,_,k=>by
  have k:=k so nu
  simp only [List.filter_nil,List.map_nil,List.append_nil] at k
  exact k
 | n::ns,r,so,nu,h,hl,k=>by
  rw [List.map_cons,wLoopC]
  simp only [List.length_cons] at hl
  refine turn913 (by omega) (h n (.head _)).1 (h n (.head _)).2 fun so'=>?_
  refine loopY ns _ so' (vI n) (fun m hm=>h m (.tail _ hm)) ?_ fun so nu=>?_
  ·cases decide (rpO (dGet (kI n) d0)=rpO (dGet (kI n) d1)) <;> simp only [cond,List.length_append,List.length_cons,List.length_nil] <;> omega
  ·rw [df_app]
   exact k so nu
theorem df_comm(d0 d1:List (K×T)):dfD d1 d0=dfD d0 d1:=List.filter_congr fun n _=>by rw [beq_dec,beq_dec];congr 1;exact decide_eq_decide.mpr ⟨Eq.symm,Eq.symm⟩
theorem endY{C c:T}{s:Nat}{e0 e1:Nat→Option T}{ta so nu:T}{Q:Rv→List MO→Prop}(R:Prop)(k0:∀ n,OKo (e0 n))(k1:∀ n,OKo (e1 n))(q:Q (.val (.bool true)) [penO C c s])
  (h:R=(wden 0 G13 1 y913.nx).s (s913 (L5o C c s ((dfD (tbL nsL e0) (tbL nsL e1)).map vI)) (t2 (tbL nsL e0) (tbL nsL e1)) (.loc 3) (some (.t ta)) (some (.t so)) (some (.t nu))) (wOut 0 1 Q)):R:=by
 have ex:∃ x∈bits,dfD (tbL nsL e0) (tbL nsL e1)=up4 x:=⟨_,fb_mem _,(filt4 _).2⟩
 obtain⟨x,hx,e⟩:=ex
 have e2:=df_comm (tbL nsL e0) (tbL nsL e1)
 rw [e] at e2
 have h:=(h.trans (t913k C c s _ _ _ ta so nu _)).trans ((t913l _ Q).trans (t913m C c s _ _ _ _ _ _ _))
 obtain⟨B,hB⟩:∃ B:CP V,B=(wden 0 G13 1 rX.cB).v:=⟨_,rfl⟩
 obtain⟨D,hD⟩:∃ D:CP V,D=(wden 0 G13 1 rX.cC).v:=⟨_,rfl⟩
 have tB:=t913o (L4o C c s) (.list ((up4 x).map vI)) (tbL nsL e0) (tbL nsL e1) (some (.t ta)) (some (.t so)) (some (.t nu))
 have tD:=t913n C c s (.list ((up4 x).map vI)) (tbL nsL e0) (tbL nsL e1) (some (.t ta)) (some (.t so)) (some (.t nu))
 rw [←hB] at tB
 rw [←hD] at tD
 rw [←hB,←hD] at h
 clear hB hD
 refine h.mpr ?_
 clear h
 refine oP.mk rfl ⟨⟨rfl,⟨C,c,s,rfl⟩,e0,e1,rfl,rfl,k0,k1⟩,?_⟩
 rw [e]
 refine oP.mk (a:=.t (.list ((up4 x).map vI))) (by show Option.map V.t (moT _)=_;rw [map_at mo_rows hx];rfl) ?_
 refine(tB _).symm.mp ?_
 refine oP.mk (a:=(true,s913 (L4o C c s) (t2 (tbL nsL e0) (tbL nsL e1)) (.t (.list ((up4 x).map vI))) (some (.t ta)) (some (.t so)) (some (.t nu)))) (by rw [map_at (eq_rows _) hx];rfl) ?_
 refine(tD _).symm.mp ?_
 refine oP.mk rfl ⟨⟨rfl,⟨C,c,s,rfl⟩,e1,e0,rfl,rfl,k1,k0⟩,?_⟩
 rw [e2]
 refine oP.mk (a:=.t (.list ((up4 x).map vI))) (by show Option.map V.t (moT _)=_;rw [map_at mo_rows hx];rfl) ?_
 exact oP.mk (map_at (eq_rows _) hx) q
theorem ok913:Orc tab 18 913 (OP 32):=by
 refine .of 0 L14_ok (n:=6) rfl fun xs o Q h=>?_
 obtain⟨⟨C,s,c⟩,_,⟨rfl,rfl,p⟩,q⟩:=h.el
 rw [t913z,wden_sc]
 refine drawn913 p fun e0 e1 s' m k0 k1 h1 h2=>?_
 have nd:nsL.Nodup:=by decide
 have g:∀ n∈n4,OKo (dGet (kI n) (tbL nsL e0))∧OKo (dGet (kI n) (tbL nsL e1)):=fun n hn=>⟨get_tb (e:=e0) nd (n4_mem hn)▸k0 n,get_tb (e:=e1) nd (n4_mem hn)▸k1 n⟩
 obtain⟨K,hK⟩:∃ K:S→Prop,K=fun t=>(wden 0 G13 1 y913.nx).s t (wOut 0 1 Q):=⟨_,rfl⟩
 have tf:=t913f C c s' m (tbL nsL e0) (tbL nsL e1) [] (some (.t (.dict (tbL nsL e1)))) none (some (.t (vI m))) (wK K (wOut 0 1 Q))
 have el:[V.t (vI 1),.t (vI 3),.t (vI 5),.t (vI 12)]=.t (vI 1)::[3,5,12].map fun n=>.t (vI n):=rfl
 rw [sc913b,el] at tf
 have te:=(t913e C c s' m (tbL nsL e0) (tbL nsL e1) (wOut 0 1 Q)).trans ((congrArg (fun x=>(wden 0 G13 1 x).s (s913 [penO C c s',.gone,.gone,.list []] (t2 (tbL nsL e0) (tbL nsL e1)) (.loc 3) (some (.t (.dict (tbL nsL e1)))) none (some (.t (vI m)))) (wOut 0 1 Q)) sc913c).trans (wden_sc 0 G13 1 y913.hd y913.nx _ _))
 rw [←hK] at te
 have te:=te.trans tf
 refine te.symm.mp ?_
 rw [wLoopC]
 refine turn913 (r:=[]) (by decide) (g 1 (by decide)).1 (g 1 (by decide)).2 fun so=>?_
 have ed:([]++cond (decide (rpO (dGet (kI 1) (tbL nsL e0))=rpO (dGet (kI 1) (tbL nsL e1)))) [] [vI 1])++([3,5,12].filter (dfN (tbL nsL e0) (tbL nsL e1))).map vI=(dfD (tbL nsL e0) (tbL nsL e1)).map vI:=(df_app _ _ [] 1 [3,5,12]).trans (List.nil_append _)
 have ll:([]++cond (decide (rpO (dGet (kI 1) (tbL nsL e0))=rpO (dGet (kI 1) (tbL nsL e1)))) [] [vI 1]).length+[3,5,12].length≤10:=by cases decide (rpO (dGet (kI 1) (tbL nsL e0))=rpO (dGet (kI 1) (tbL nsL e1))) <;> simp
 refine @loopY C c s' (tbL nsL e0) (tbL nsL e1) (some (.t (.dict (tbL nsL e1)))) (wOut 0 1 Q) K [3,5,12] ([]++cond (decide (rpO (dGet (kI 1) (tbL nsL e0))=rpO (dGet (kI 1) (tbL nsL e1)))) [] [vI 1]) so (vI 1) (fun n hn=>g n (.tail _ hn)) ll fun so nu=>?_
 rw [ed]
 exact endY (C:=C) (c:=c) (s:=s') (e0:=e0) (e1:=e1) (ta:=.dict (tbL nsL e1)) (so:=so) (nu:=nu) (Q:=Q) _ k0 k1 (q s' h1 h2) (congrFun hK _)
noncomputable abbrev L16:List (Nat×Sw):=[(901,OP 40),(908,OP 10),(913,OP 32)]
theorem L16_ok:∀ f o,orcOf L16 f=some o→Orc tab 23 f o:=orcs_cons ok901 (orcs_cons (ok908.up (by decide)) (orcs_cons (ok913.up (by decide)) orcs_nil))
noncomputable abbrev G16:Nat→Sw:=SW 0 tab (orcOf L16) 1
noncomputable def x918:X:=f918.bd
noncomputable def eL:X:=x918.hd.eltK
noncomputable def s918(sc:T)(cl pn:Option V)(L:List MO):S:=⟨[some (.t sc),cl,pn],[],L⟩
theorem t918a(i:Int)(Q:V→S→Prop):(wden 0 G16 0 eL).v ⟨[none,some (.t (.int i))],[],[]⟩ Q=Q (.t (.int (i.fmod 1000003))) ⟨[none,some (.t (.int i))],[],[]⟩:=by kernel_rfl
theorem t918b(sc:T)(Q:Fl→S→Prop):(wden 0 G16 0 x918.hd).s (initS f918.ln f918.cn f918.ps [.t sc] []) Q=oP (sliceV none (some 60) (s918 sc none none []) (.t sc)) fun rv=>oP (rv.tr?.map V.t) fun v=>oP (iterV v) fun xs=>
   wCompL 1 (up (dB true)) (wden 0 G16 0 eL).v xs ⟨[none,none],[],[]⟩ fun r s'=>oP (gd (r.length≤16777216∧s'.cl.length=0) r) fun ys=>Q .next (S.setL { s918 sc none none [] with cl:=wbC [] s'.cl [],o:=s'.o } 1 (.t (.list ys))):=by kernel_rfl
theorem t918c(sc:T)(r:List T)(Q:Fl→S→Prop):(wden 0 G16 0 x918.nx.hd).s (s918 sc (some (.t (.list r))) none []) Q=oP (bOp 3 [.t (.list r)] (s918 sc (some (.t (.list r))) none [])) fun p=>oP (p.1.tr?.map V.t) fun v=>oP (binV .Mod v (.t (.int 997))) fun t=>
   (up fun s=>some (V.loc s.o.length,s.pushO (.list [.list r,.int 0,t]))) p.2 fun v s1=>Q .next (s1.setL 2 v):=by kernel_rfl
theorem t918d(sc:T)(r C c:T)(Q:Rv→List MO→Prop):(wden 0 G16 0 (x918.drp 2)).s (s918 sc (some (.t r)) (some (.loc 0)) [penO C c 0]) (wOut 0 0 Q)=OP 40 [.loc 0] [penO C c 0] fun _ o1=>OP 10 [.loc 0] o1 fun _ o2=>OP 32 [.loc 0] o2 fun _ _=>Q (.val (.bool true)) []:=by kernel_rfl
theorem comp918{E:CP V}(hE:∀ (i:Int) (Q:V→S→Prop),E ⟨[none,some (.t (.int i))],[],[]⟩ Q=Q (.t (.int (i.fmod 1000003))) ⟨[none,some (.t (.int i))],[],[]⟩):∀ (l:List Int) (a:Option V) (K:List T→S→Prop),(∀ b,K (l.map fun i=>.int (i.fmod 1000003)) ⟨[none,b],[],[]⟩) →
  wCompL 1 (up (dB true)) E (l.map fun i=>.t (.int i)) ⟨[none,a],[],[]⟩ K
 | [],a,K,h=>h a
 | i::l,a,K,h=>by
  rw [List.map_cons,comp1]
  refine(hE i _).symm.mp ?_
  exact comp918 hE l _ _ h
theorem t918(xs:List V)(o:List MO)(Q:Rv→List MO→Prop)(h:(fxD 1 [] xs)=some xs):SW 0 tab (orcOf L16) 2 918 xs o Q=(wden 0 G16 o.length f918.bd).s (initS f918.ln f918.cn f918.ps xs o) (wOut 0 o.length Q):=by
 show oP (fxD 1 [] xs) _=_
 rw [h];rfl
theorem sc918:f918.bd=.sc x918.hd (.sc x918.nx.hd (x918.drp 2)):=by kernel_rfl
theorem t918z(sc:T)(Q:Rv→List MO→Prop):SW 0 tab (orcOf L16) 2 918 [.t sc] [] Q=(wden 0 G16 0 x918.hd).s (initS f918.ln f918.cn f918.ps [.t sc] []) (wK (fun t=>(wden 0 G16 0 (.sc x918.nx.hd (x918.drp 2))).s t (wOut 0 0 Q)) (wOut 0 0 Q)):=
 (t918 [.t sc] [] Q rfl).trans ((congrArg (fun x=>(wden 0 G16 0 x).s (initS f918.ln f918.cn f918.ps [.t sc] []) (wOut 0 0 Q)) sc918).trans (wden_sc 0 G16 0 x918.hd _ _ _))
theorem law_true(l:List Int)(hl:l.length≤63):SW 0 tab (orcOf L16) 2 918 [.t (.list (l.map .int))] [] fun r o=>r=.val (.bool true)∧o=[]:=by
 obtain⟨Q,hQ⟩:∃ Q:Rv→List MO→Prop,Q=fun r o=>r=.val (.bool true)∧o=[]:=⟨_,rfl⟩
 rw [←hQ]
 have q:Q (.val (.bool true)) []:=by rw [hQ];exact⟨rfl,rfl⟩
 clear hQ
 obtain⟨K,hK⟩:∃ K:S→Prop,K=fun t=>(wden 0 G16 0 (.sc x918.nx.hd (x918.drp 2))).s t (wOut 0 0 Q):=⟨_,rfl⟩
 have tz:=t918z (.list (l.map .int)) Q
 rw [←hK] at tz
 obtain⟨E,hE⟩:∃ E:CP V,E=(wden 0 G16 0 eL).v:=⟨_,rfl⟩
 have tb:=t918b (.list (l.map .int)) (wK K (wOut 0 0 Q))
 have ta:=t918a
 rw [←hE] at tb ta
 refine(tz.trans tb).symm.mp ?_
 have ht:(List.map T.int l).take 60=(l.take 60).map .int:=List.map_take.symm
 refine oP.mk (a:=.new (.list ((l.take 60).map .int))) (by
  show Option.or Option.none (gd ((0:Int)≤60∧(l.map T.int).length≤1000000) (Rv.new (.list ((l.map T.int).take 60))))=_
  rw [gd.ok ⟨by decide,by rw [List.length_map];omega⟩,ht];rfl) ?_
 refine oP.mk (a:=.t (.list ((l.take 60).map .int))) rfl ?_
 refine oP.mk (a:=(l.take 60).map fun i=>.t (.int i)) (by
  show some (((l.take 60).map T.int).map V.t)=_
  rw [List.map_map];rfl) ?_
 refine comp918 ta _ _ _ fun b=>?_
 have hc:((l.take 60).map fun i=>T.int (i.fmod 1000003)).length≤63:=by rw [List.length_map,List.length_take];omega
 have em:((l.take 60).map fun i=>T.int (i.fmod 1000003))=((l.take 60).map fun i=>i.fmod 1000003).map .int:=by rw [List.map_map];rfl
 rw [em] at hc ⊢
 generalize (l.take 60).map (fun i=>i.fmod 1000003)=cs at hc ⊢
 rw [List.length_map] at hc
 refine oP.mk (gd.ok ⟨by rw [List.length_map];omega,rfl⟩) ?_
 show K (s918 (.list (l.map .int)) (some (.t (.list (cs.map .int)))) none [])
 have tc:=t918c (.list (l.map .int)) (cs.map .int) (wK (fun t=>(wden 0 G16 0 (x918.drp 2)).s t (wOut 0 0 Q)) (wOut 0 0 Q))
 obtain⟨K2,hK2⟩:∃ K2:S→Prop,K2=fun t=>(wden 0 G16 0 (x918.drp 2)).s t (wOut 0 0 Q):=⟨_,rfl⟩
 have ts:=wden_sc 0 G16 0 x918.nx.hd (x918.drp 2) (s918 (.list (l.map .int)) (some (.t (.list (cs.map .int)))) none []) (wOut 0 0 Q)
 rw [←hK2] at tc ts
 have tk:=(congrFun hK _).trans (ts.trans tc)
 refine tk.mpr ?_
 clear tk ts tc
 refine oP.mk (a:=(.val (.int (sumL cs)),s918 (.list (l.map .int)) (some (.t (.list (cs.map .int)))) none [])) (by
  show Option.map _ (Option.map _ (Option.bind (some (cs.map T.int)) asInts))=_
  rw [Option.bind_some,ints_map];rfl) ?_
 refine oP.mk (a:=.t (.int (sumL cs))) rfl ?_
 obtain⟨g,hg,e⟩:=mod_lt (a:=sumL cs) (m:=997) (by decide)
 refine oP.mk e ?_
 show K2 (s918 (.list (l.map .int)) (some (.t (.list (cs.map .int)))) (some (.loc 0)) [penO (.list (cs.map .int)) (.int (.ofNat g)) 0])
 have td:=(congrFun hK2 _).trans (t918d (.list (l.map .int)) (.list (cs.map .int)) (.list (cs.map .int)) (.int (.ofNat g)) Q)
 refine td.mpr ?_
 clear td
 have p:∀ s,s≤100→Pn (.list (cs.map .int)) s (.int (.ofNat g)):=fun s hs=>⟨⟨cs,rfl,by omega⟩,by omega,g,rfl,by omega⟩
 exact oP.mk rfl ⟨⟨rfl,rfl,p _ (by omega)⟩,fun s1 _ h1=>oP.mk rfl ⟨⟨rfl,rfl,p _ (by omega)⟩,fun s2 _ h2=>oP.mk rfl ⟨⟨rfl,rfl,p _ (by omega)⟩,fun s3 _ _=>q⟩⟩⟩
theorem law_sp(l:List Int)(hl:l.length≤63):SP tab 25 918 [.t (.list (l.map .int))] []=some (.val (.bool true),[]):=by
 obtain⟨⟨r,o⟩,e,h1,h2⟩:=SW_ok (m:=0) L16_ok 2 918 0 _ _ _ (law_true l hl)
 dsimp only at h1 h2
 rw [e,h1,h2]
section
noncomputable def Frm.top(w:World)(A:Around)(E:Env)(cn:List Str)(h:Heap)(r:Nat):Frm:={ w:=w,A:=A.deeper E,E:=E,L:=h.objs.size,ca:=cn.map fun x=>(E.cells.lookup x).getD 0,B0:=h.get?,N:=fun a=>∃ o,h.get? a=some o,k:=0,r:=r }
variable {st:Stmt} {ps ln cn gs:List Str} {a c:Addr} {q:Str} {E:Env} {A0:Around} {r:Nat} {w:World}
theorem top_nm{h:Heap}(ok:FcOk (fnS st) ps ln cn gs)(hE:E=envC q (fnS st) h.objs.size a (.ref c))(cells:Cells E cn)(hA:Ar (r+1) A0):Nm (Frm.top w A0 E cn h r) ln cn gs:=by
 subst hE
 exact⟨ok.kind,rfl,rfl,rfl,ok.lnk,fun i x hx=>(cells x (List.mem_of_getElem? hx)).elim fun c hc=>⟨(ok.cnk x (List.mem_of_getElem? hx)).1,(ok.cnk x (List.mem_of_getElem? hx)).2,c,by
  show (cn.map _)[i]?=some c
  rw [List.getElem?_map,hx];simp [hc],hc⟩,ok.gnk,ok.nd,hA.deeper _⟩
theorem top_rel{σ:Shared}(X:St w σ.heap)(ok:FcOk (fnS st) ps ln cn gs)(hE:E=envC q (fnS st) σ.heap.objs.size a (.ref c))(cells:Cells E cn){us:List Value}{ys:List V}(hul:us.length=ps.length)(urel:All2 (RelV w [] σ.heap.get?) us ys){s':Shared}
  (ic:InCallC σ σ.heap.objs.size (bindL E.kindOf (ps.zip us) fun _=>none) E.cells (bindC E.kindOf (ps.zip us) fun _=>none) s'):Rel (Frm.top w A0 E cn σ.heap r) ln [] σ.heap.get? (initS ln cn ps ys []) s'.heap:=by
 have hkd:((ps.zip us).map (·.1)).Nodup:=by rw [List.map_fst_zip (Nat.le_of_eq hul.symm)];exact ok.pd
 have keep:=ic.toInCall.keep
 refine⟨fun i o e=>X i o e,fun a o e=>keep _ _ e,.refl _,fun a o e=>.inl e,fun a ha=>ha.elim fun o e=>⟨o,keep _ _ e⟩,List.nodup_cons.mpr ⟨fun hm=>?_,by rw [List.append_nil];exact ca_nd ic.apart cells ok.cd⟩,fun a ha=>?_,
  fun a ha=>call_none cells ic ha,fun _ _ _ e=>no1 e,fun _ _ e=>no1 e,⟨_,ic.toInCall.ns,fun i x e=>?_⟩,fun i c e=>?_,rfl,fun _ _ _ e=>no1 e,Nat.le_refl _⟩
 ·rw [List.append_nil] at hm
  exact(List.getElem?_of_mem hm).elim fun i hi=>ex12 (call_ca cells hi) fun x _ hx=>Nat.lt_irrefl _ (ic.above x _ (mem_of_lookup hx))
 ·refine(List.mem_cons.mp ha).elim (fun e=>e▸Ns_some ic.toInCall.ns) fun ha=>?_
  rw [List.append_nil] at ha
  exact(List.getElem?_of_mem ha).elim fun i hi=>ex12 (call_ca cells hi) fun x _ hx=>ex12 (ic.cell x a hx) fun o e _=>⟨o,e⟩
 ·have hloc:E.kindOf x=some .local:=hE▸(ok.lnk x (List.mem_of_getElem? e)).1
  rw [bindL_at hloc hkd,Option.or_none]
  show ORel _ _ _ _ ((ln.map (plook ps ys))[i]?.getD none)
  rw [List.getElem?_map,e]
  exact plook_rel urel
 ·refine ex12 (call_ca cells e) fun x hx hc=>?_
  have hk:E.kindOf x=some .cell:=hE▸(ok.cnk x (List.mem_of_getElem? hx)).1
  have:=ic.cell x c hc
  rw [bindC_at (by rw [hk];decide) hkd,Option.or_none] at this
  refine⟨_,this,?_⟩
  show ORel _ _ _ _ ((cn.map (plook ps ys))[i]?.getD none)
  rw [List.getElem?_map,hx]
  exact plook_rel urel
abbrev TopQ(w:World)(h:Heap)(x:T)(v:Value)(h':Heap):Prop:=(∃ B',Is w B' v x)∧∀ b o,h.get? b=some o→h'.get? b=some o
theorem con_top{n:Str}{d m:Value}{bd:Nat→Den Fl}{fx:List V→Option (List V)}(FA:FnAt w a st n q d m c)(ok:FcOk (fnS st) ps ln cn gs)
  (hb:∀ ρ (B:Base) (s:Shared) vs xs ys,St w s.heap→(∀ i o,(objs w.params)[i]?=some o→B i=some o)→All2 (RelV w ρ B) vs xs→fx xs=some ys→∃ us,BindsTo s (fdOf st n q d m (.ref c)) ⟨vs,[]⟩ (ps.zip us)∧us.length=ps.length∧All2 (RelV w ρ B) us ys)
  (H:∀ F:Frm,F.w=w→F.r=r→Nm F ln cn gs→JS F ln (execs (fnB st) F.E) (bd F.k)) {h:Heap} {vs:List Value} {xs:List V} {x:T} {o':List MO} (hA':Ar (r+1) A0) (X0:St w h) (rel:All2 (RelV w [] h.get?) vs xs)
  (e:((fx xs).bind fun ys=>runB ln cn ps bd ys [])=some (.val x,o')):W w A0 (call (.ref a) vs) h (TopQ w h x):=by
 refine W_callE fun σ hσ=>?_
 subst hσ
 refine obE e fun ys e1 e2=>omE e2 fun p eb e2=>?_
 have ho:=X0 a _ FA.fn
 refine FA.cd.elim fun oc z=>ex23 z fun cvs t hc1 hc2 hc3=>ex13 (hb [] σ.heap.get? σ vs xs ys X0 (fun i o e=>X0 i o e) rel e1) fun us hbd hul urel=>?_
 refine codeAny_call_function (by have:=hA'.dp;omega) ho rfl ok.co ok.gen rfl ⟨c,oc,cvs,t,rfl,X0 _ _ hc1,hc2,hc3⟩ (hbd _ _ _ _ (wpAny_newFunctionEnv_cells ok.kind (fun x hx=>?_) fun env he s' ic=>⟨X0.nolimit.keeps ic.toInCall.keep,?_⟩))
 ·exact(ok.psk x.1 (List.of_mem_zip hx).1).imp id fun z=>⟨z,cellsFrom_some (.inl z)⟩
 have he:env=envC q (fnS st) σ.heap.objs.size a (.ref c):=he
 have cells:Cells env cn:=fun x hx=>Option.isSome_iff_exists.mp (by rw [he];exact cellsFrom_some (.inl (ok.cnk x hx).1))
 have hl:env.locals=σ.heap.objs.size:=by rw [he];rfl
 rw [hl] at ic
 have HB:=H (Frm.top w A0 env cn σ.heap r) rfl rfl (top_nm ok he cells hA') [] σ.heap.get? _ _ (top_rel (A0:=A0) (r:=r) X0 ok he cells hul urel ic)
 refine ex22 ic.done fun h' tk hs' keep=>?_
 have SM:Same σ s':=by rw [hs'];exact⟨rfl,rfl,rfl⟩
 have fin:∀ {v:Value} {s'':S} {h':Heap} {y:T},Fin (Frm.top w A0 env cn σ.heap r) [] σ.heap.get? s'.heap (.val y) s'' v h'→TopQ w σ.heap y v h':=fun f=>ex21 f fun ρ' B' f=>⟨⟨B',f.res⟩,fun b o e=>f.keep b o (ic.toInCall.keep b o e) fun hm=>no1 ((call_none cells ic (by rw [←List.append_nil (List.map _ cn)];exact hm)).symm.trans e)⟩
 refine codeAny_func (W_wp (HB p.1 p.2 eb) rfl SM fun f τ T q=>⟨T,?_⟩)
 revert e2 q
 generalize p.1=g
 intro e2 q
 induction g with
 | ret rv'=>
  have e3:rv'=.val x:=(Prod.mk.inj e2).1
  subst e3
  exact ex12 q fun v hf fn=>hf▸⟨v,rfl,fin fn⟩
 | next=>
  refine ex02 q fun hf q=>hf▸⟨.none,rfl,?_⟩
  have e3:(Rv.val Mine.T.none)=.val x:=(Prod.mk.inj e2).1
  cases e3
  exact q.el fun ρ' B' st' X'=>fin (s'':=p.2) ((X'.fin (r:=.val .none) (v:=.none) Is.none).pre (Nat.le_refl _) st')
theorem FdOk.top{f:Nat}{d:Fd}{st:Stmt}{n q:Str}{dd m:Value}{c:Addr}(x:FdOk w f d st n q dd m c){Γ:Nat→Sp}{r0:Nat}(hr:9≤r0)(H:∀ f,fnL.contains f=true→ConAt w r0 f (Γ f)){A0:Around}{h:Heap}{vs:List Value}{xs:List V}{y:T}{o':List MO}(hA:Ar (r0+2) A0)(X0:St w h)(rel:All2 (RelV w [] h.get?) vs xs)
  (e:((fxD d.ps.length d.df xs).bind fun ys=>runB d.ln d.cn d.ps (fun k=>(den Γ k d.bd).s) ys [])=some (.val y,o')):W w A0 (call (.ref f) vs) h (TopQ w h y):=by
 refine con_top (r:=r0+1) x.fn (.of x.fc) (fx:=fxD d.ps.length d.df) (fun ρ B s vs xs ys hs hB rel e=>?_) (fun F hw hF n=>?_) hA X0 rel e
 ·unfold fxD at e
  split at e
  ·rename_i hl
   cases e
   have hv:=rel.len
   obtain⟨ws,h1,h2⟩:=x.bn s vs hs (by omega) (by omega)
   have h2:=h2 B
   rw [hv] at h2
   refine⟨vs++ws,h1,?_,rel.append ?_⟩
   ·have:=h2.len
    rw [List.length_append,this,List.length_drop]
    omega
   ·exact sq_rel h2
  ·cases e
 ·have g:=u9 (sound d.bd) (c:=⟨d.ln,d.cn,d.gs⟩) (F:=F) (Γ:=Γ) (r0:=r0) ⟨n,by omega,by omega,fun f hf=>hw▸H f hf⟩ x.wf
  rw [x.sy] at g
  exact g
end
def HasF(w:World)(f:Nat):Prop:=∃ d st n q dd m c,tab f=some d∧FdOk w f d st n q dd m c
theorem FdOk.has{w:World}{f:Nat}{d:Fd}{st:Stmt}{n q:Str}{dd m:Value}{c:Addr}(x:FdOk w f d st n q dd m c)(e:tab f=some d):HasF w f:=⟨d,st,n,q,dd,m,c,e,x⟩
theorem all_ok(w:World):AllL fnL (HasF w):=⟨(k82 w).has (by kernel_rfl),(k104 w).has (by kernel_rfl),(k119 w).has (by kernel_rfl),(k161 w).has (by kernel_rfl),(k315 w).has (by kernel_rfl),(k379 w).has (by kernel_rfl),(k400 w).has (by kernel_rfl),(k407 w).has (by kernel_rfl),(k412 w).has (by kernel_rfl),(k417 w).has (by kernel_rfl),(k422 w).has (by kernel_rfl),(k429 w).has (by kernel_rfl),(k444 w).has (by kernel_rfl),(k500 w).has (by kernel_rfl),(k522 w).has (by kernel_rfl),(k536 w).has (by kernel_rfl),(k543 w).has (by kernel_rfl),(k583 w).has (by kernel_rfl),(k590 w).has (by kernel_rfl),(k597 w).has (by kernel_rfl),(k604 w).has (by kernel_rfl),(k618 w).has (by kernel_rfl),(k632 w).has (by kernel_rfl),(k639 w).has (by kernel_rfl),(k653 w).has (by kernel_rfl),(k674 w).has (by kernel_rfl),(k681 w).has (by kernel_rfl),(k688 w).has (by kernel_rfl),(k695 w).has (by kernel_rfl),(k700 w).has (by kernel_rfl),(k707 w).has (by kernel_rfl),(k714 w).has (by kernel_rfl),(k721 w).has (by kernel_rfl),(k728 w).has (by kernel_rfl),(k733 w).has (by kernel_rfl),(k747 w).has (by kernel_rfl),(k759 w).has (by kernel_rfl),(k773 w).has (by kernel_rfl),(k780 w).has (by kernel_rfl),(k801 w).has (by kernel_rfl),(k815 w).has (by kernel_rfl),(k829 w).has (by kernel_rfl),(k836 w).has (by kernel_rfl),(k841 w).has (by kernel_rfl),(k848 w).has (by kernel_rfl),(k855 w).has (by kernel_rfl),(k862 w).has (by kernel_rfl),(k869 w).has (by kernel_rfl),(k874 w).has (by kernel_rfl),(k879 w).has (by kernel_rfl),(k886 w).has (by kernel_rfl),(k891 w).has (by kernel_rfl),(k896 w).has (by kernel_rfl),(k901 w).has (by kernel_rfl),(k908 w).has (by kernel_rfl),(k913 w).has (by kernel_rfl),(k918 w).has (by kernel_rfl),trivial⟩
theorem has_fn(w:World)(f:Nat)(h:fnL.contains f=true):HasF w f:=(all_ok w).mem f (List.contains_iff_mem.mp h)
theorem top_ok(w:World){A0:Around}{h:Heap}{vs:List Value}{l:List Int}(hl:l.length≤63)(hA:Ar 60 A0)(X0:St w h)(rel:All2 (RelV w [] h.get?) vs [.t (.list (l.map .int))]):W w A0 (call (.ref 918) vs) h (TopQ w h (.bool true)):=by
 refine FdOk.top (k918 w) (Γ:=SP tab 24) (r0:=58) (by decide) (con_all (has_fn w) 24) hA X0 rel ?_ (o':=[])
 have e:=law_sp l hl
 have h9:tab 918=some f918:=by kernel_rfl
 have e2:SP tab 25 918=fun xs o=>(fxD f918.ps.length f918.df xs).bind fun ys=>runB f918.ln f918.cn f918.ps (fun k=>(den (SP tab 24) k f918.bd).s) ys o:=by
  show (match tab 918 with
   | some d=>fun xs o=>(fxD d.ps.length d.df xs).bind fun ys=>runB d.ln d.cn d.ps (fun k=>(den (SP tab 24) k d.bd).s) ys o
   | none=>fun _ _=>none)=_
  rw [h9]
 rw [e2] at e
 exact e
noncomputable def liveO(o:Obj):Bool:=match o.data with
 | .freed=>false
 | _=>true
theorem live_all:∀ P:Params,(objs P).all liveO=true:=fun P=>by kernel_rfl
theorem get_live{h:Heap}{i:Nat}{o:Obj}(e:h.objs[i]?=some o)(l:liveO o=true):h.get? i=some o:=by
 unfold Heap.get?
 rw [e]
 split
 ·rename_i q
  cases q
  cases l
 ·rfl
theorem st_of(w:World)(s:Shared)(e:yf s=ya w):St w s.heap:=fun i o ho=>by
 have h1:s.heap.objs.toList[i]?=some o:=(congrArg (·[i]?) e).trans ho
 rw [Array.getElem?_toList] at h1
 exact get_live h1 (List.all_eq_true.mp (live_all w.params) o (List.mem_of_getElem? ho))
theorem ints_of:∀ {xs:List WData},WShape.hasItems [] xs .int=true→∃ l:List Int,xs=l.map .int
 | [],_=>⟨[],rfl⟩
 | x::xs,h=>by
  obtain⟨h1,h2⟩:=Bool.and_eq_true_iff.mp h
  obtain⟨l,rfl⟩:=ints_of h2
  cases x with
  | int i=>exact⟨i::l,rfl⟩
  | _=>exact no3 h1
noncomputable def H3(b:Bool):Bool:=match (match (some (WData.bool (!b))) with
  | some (WData.bool false)=>some (WData.bool false)
  | some (WData.bool true)=>some (WData.bool true)
  | _=>none:Option WData) with
 | some (WData.bool true)=>true
 | _=>false
theorem pre_is(xs:List WData):PySem.Challenge.rw_nn0234_01.pre.holds [] { args:=[.list xs] }=H3 (decide ((63:Int) < (xs.length:Int))):=by kernel_rfl
noncomputable def fnP:Stmt→Pos
 | .FunctionDef _ _ _ _ _ _ _ _ _ p=>p
 | _=>default
noncomputable def lawD:DefRec:=⟨("law":Str),fnA (top 92),fnB (top 92),fnS (top 92),fnP (top 92)⟩
theorem arg_of{args:List WData}(h:PySem.Challenge.rw_nn0234_01.row.toRowW.claim.pre args=true):∃ l:List Int,args=[.list (l.map .int)]∧l.length≤63:=by
 obtain⟨h1,h2⟩:=Bool.and_eq_true_iff.mp h
 obtain⟨d,r,rfl,h3,h4⟩:=hasAllW_cons h1
 cases r with
 | cons=>exact no3 h4
 | nil=>
  cases d with
  | list xs=>
   have h3:(WShape.hasItems [] xs .int || false)=true:=h3
   rw [Bool.or_false] at h3
   obtain⟨l,rfl⟩:=ints_of h3
   refine⟨l,rfl,?_⟩
   have h5:H3 (decide ((63:Int) < ((l.map WData.int).length:Int)))=true:=(pre_is (l.map .int)).symm.trans h2
   cases hd:decide ((63:Int) < ((l.map WData.int).length:Int)) with
   | true=>rw [hd] at h5;cases h5
   | false=>
    have:=of_decide_eq_false hd
    rw [List.length_map] at this
    omega
  | _=>exact no3 h3
theorem wint1{P:Params}{h:Heap}{w:World}{B:Base}{v:Value}{d:WData}{i:Int}(x:Well P h v d)(e:d=.int i):Is w B v (.int i):=by
 cases x <;> cases e
 exact .int _ _
theorem wints{P:Params}{h:Heap}{w:World}{B:Base}:∀ (l:List Int) {vs:List Value} {ds:List WData},WellAll P h vs ds→ds=l.map .int→All2 (Is w B) vs (l.map .int)
 | [],_,_,x,e=>by
  cases x with
  | nil=>exact .nil
  | cons=>cases e
 | i::l,_,_,x,e=>by
  cases x with
  | nil=>cases e
  | cons a r=>exact .cons (wint1 a (List.cons.inj e).1) (wints l r (List.cons.inj e).2)
theorem rel_of{w:World}{h:Heap}{l:List Int}{vs:List Value}(x:WellAll w.params h vs [.list (l.map .int)]):All2 (RelV w [] h.get?) vs [.t (.list (l.map .int))]:=by
 cases x with
 | cons a r=>
  cases r
  cases a with
  | list e y=>exact .cons (Is.of_list (n:=0) e (wints l y rfl)) .nil
theorem call_ok:WalkO vq loose (fun _ _=>True) St PySem.Challenge.rw_nn0234_01.row.toRowW lawD [] fun f vs=>PySem.call f vs:=by
 intro w s₀ s₁ mg mb G Y a o pm cd doc dV kV _ _ _ _ hmg hg args vals as hpre _ _ hwl _
 obtain⟨l,rfl,hl⟩:=arg_of hpre
 have e1:mg=tfind gtab:=G.T.g.eq_nsMap.trans Y.gns.eq_nsMap.symm
 have e2:tfind gtab "law"=some (.ref 918):=by kernel_rfl
 have e3:(Value.ref a)=.ref 918:=Option.some.inj (hmg.symm.trans ((congrFun e1 _).trans e2))
 rw [e3]
 have hA:Ar 60 callerA:=⟨rfl,by decide,by decide,rfl⟩
 refine wpAny_mono (top_ok w hl hA Y (rel_of hwl) s₁ rfl) (fun v s' ⟨S,⟨⟨B',r⟩,k⟩⟩=>?_) fun _ _ x=>x.elim
 refine GoodW.toG ⟨.inl ⟨v,.bool true,[],rfl,fun _=>rfl,?_,by kernel_rfl,fun _=>⟨List.nodup_nil,nofun⟩⟩,k,S.o,S.g.trans hg⟩
 cases r
 exact ReadsW.bool true
theorem law_holds:PySem.Challenge.rw_nn0234_01.Holds:=by
 refine holds_law well_ok fun said=>?_
 refine holds_open (q:=vq) (loose:=loose) (Xt:=XT) (XP:=fun _ _=>True) (Yf:=yf) (Ya:=ya) (YP:=St) (N:=20000) left_ok st_of (fun w h h' X k=>X.keeps k) (fun _ _=>trivial) (fun _ _ _ _ _=>trivial) (d:=lawD) (kwd:=[]) ?hd ?hp ?hk ?hR ?hw said ?ok ⟨rfl,rfl,rfl,rfl,rfl,?hb⟩ ⟨[.list [.int 3]],?h1,?h2⟩ call_ok
 case hd=>kernel_rfl
 case hp=>kernel_rfl
 case hk=>kernel_rfl
 case hR=>exact fun s e=>recFacts_of (R:=[]) (s:=s) (by kernel_rfl)
 case hw=>kernel_rfl
 case ok=>kernel_rfl
 case hb=>kernel_rfl
 case h1=>kernel_rfl
 case h2=>kernel_rfl
end
end Mine
theorem PySem.Challenge.cw_nn0234_01_holds : PySem.Challenge.rw_nn0234_01.Holds :=
  Mine.law_holds
