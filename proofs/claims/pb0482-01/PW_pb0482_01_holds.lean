import PyProof.Rows.All
import Wide.All
import OpenK.AllK
import Wide.FinOn
import PyProof.NeData
import PyProof.P3In
import PyProof.AttrMissHeap
import PyProof.Rows.SetFrom
import PySem.Challenge.RW_pb0482_01
open PySem PySem.W PySem.Calls PyProof.Rows
set_option Elab.async false
set_option maxRecDepth 100000
set_option linter.unusedVariables false
set_option maxHeartbeats 4000000

namespace Mine
/- The head: the top's run in pieces, each by the kernel, over a tree of objects, as the library's own head does it; but the constants stay as they are (no twins of them), and a def's tree is taken out of the text. Printed by wip/head/mk_head.py. -/
abbrev PG : Program := PySem.Challenge.rw_pb0482_01.row.prog
namespace hd
open PySem.W.BT renaming node → N, nil → Z
abbrev pB : List Stmt := PG.main.body
def nthS : Nat → List Stmt → Stmt
  | _, [] => .Pass ⟨0, 0, 0, 0⟩
  | 0, s :: _ => s
  | n + 1, _ :: r => nthS n r
def keepS : Nat → List Nat → List Stmt → List Stmt
  | _, _, [] => []
  | i, l, s :: r => match l.contains i with
    | true => s :: keepS (i + 1) l r
    | false => keepS (i + 1) l r
def fdOf : Stmt → Arguments × List Stmt × Scope
  | .FunctionDef _ a b _ _ _ s _ _ _ => (a, b, s)
  | _ => (⟨[], [], none, [], [], none, []⟩, [], { kind := .function, names := [], isGenerator := false, isCoroutine := false })
def cbOf : Stmt → List Stmt
  | .ClassDef _ _ _ b _ _ _ _ _ _ _ => b
  | _ => []
abbrev en (P : Params) (x : Str) (t : Nat) (v : Value) : DictEntry := ⟨PyData.keyHash P x, .str x t, v⟩
abbrev fnp (s : Stmt) (k : Arguments → FuncBody → Scope → FuncData) : Data := .func (k (fdOf s).1 (.stmts (fdOf s).2.1) (fdOf s).2.2)
noncomputable def o_43 (P : Params) : Obj := ⟨(.type "tuple"), none, (.seq #[] 0), #[]⟩
noncomputable def o_44 (P : Params) : Obj := ⟨.none, none, (.fields #[]), #[]⟩
noncomputable def o_45 (P : Params) : Obj := ⟨(.type "code"), none, (.fields #[(.str "<module>" 182), (.str "<module>" 183), (.str "/claim/cut.py" 184), (.int 1 0), (.int 0 0), (.int 0 0), (.int 0 0), (.int 0 0), (.ref 11), (.bool false), (.int 181 0), (.ref 12), .none, .none, .none, .none, (.int 185 0), (.int 1 0), (.str "/claim/cut.py" 186)]), #[]⟩
noncomputable def o_46 (P : Params) : Obj := ⟨(.type "frame"), none, .plain, #[(some (.ref 13)), (some (.ref 3)), (some (.ref 3)), none, (some (.str "__main__" 164)), none, (some (.ref 0))]⟩
noncomputable def o_49 (P : Params) : Obj := ⟨.none, none, (.dict #[en P "type.__subclasses__.Exception.0" 232 (.int 46 0), en P "type.__subclasses__.Exception.n" 233 (.int 1 0)] 2), #[]⟩
noncomputable def o_50 (P : Params) : Obj := ⟨(.type "dict"), none, (.dict #[en P "__name__" 165 (.str "paperhold.errors" 194), en P "__doc__" 166 .none, en P "__package__" 167 .none, en P "__loader__" 168 (.builtin "__main__.__loader__#opaque"), en P "__spec__" 169 .none, en P "__annotations__" 170 (.ref 6), en P "__builtins__" 171 (.ref 4), en P "__file__" 173 (.str "/claim/cut.py" 172), en P "__cached__" 174 .none, en P "_wall" 193 (.ref 21), en P "PaperError" 235 (.ref 46)] 11), #[]⟩
noncomputable def o_51 (P : Params) : Obj := ⟨.none, none, (.fields #[(.int 1 0), (.int 0 0), (.ref 20), (.int 5 0), (.int 0 0), (.ref 27)]), #[]⟩
noncomputable def o_52 (P : Params) : Obj := ⟨(.type "tuple"), none, (.seq #[] 0), #[]⟩
noncomputable def o_53 (P : Params) : Obj := ⟨.none, none, (.fields #[]), #[]⟩
noncomputable def o_54 (P : Params) : Obj := ⟨(.type "tuple"), none, (.seq #[(.str "k" 190)] 0), #[]⟩
noncomputable def o_55 (P : Params) : Obj := ⟨(.type "tuple"), none, (.seq #[] 0), #[]⟩
noncomputable def o_56 (P : Params) : Obj := ⟨.none, none, fnp (nthS 0 pB) fun a b s => ⟨"_wall", "_wall", a, b, s, 0, [], .none, .none, .none, .none, none, .none, .none, 0⟩, #[]⟩
noncomputable def o_57 (P : Params) : Obj := ⟨(.type "code"), none, (.fields #[(.str "_wall" 187), (.str "_wall" 188), (.str "/claim/cut.py" 189), (.int 1 0), (.int 1 0), (.int 0 0), (.int 0 0), (.int 3 0), (.ref 15), (.bool true), (.int 181 0), (.ref 16), .none, (.ref 17), (.ref 18), (.ref 19), (.int 191 0), (.int 1 0), (.str "/claim/cut.py" 192)]), #[]⟩
noncomputable def o_58 : Params → Obj := by
  refine (fun (_ : (?a, ?b, ?s) = fdOf (nthS 0 pB)) P => ⟨(.type "function"), none, .func ⟨"_wall", "_wall", ?a, .stmts ?b, ?s, 3, [], .none, .none, .none, (.str "__main__" 164), none, (.ref 20), .none, 0⟩, #[]⟩) ?h
  case h => conv => rhs; whnf
noncomputable def o_59 (P : Params) : Obj := ⟨(.type "tuple"), none, (.seq #[(.type "Exception")] 0), #[]⟩
noncomputable def o_60 (P : Params) : Obj := ⟨(.type "builtin_function_or_method"), none, (.fields #[(.builtin "type.__prepare__"), (.type "type")]), #[]⟩
noncomputable def o_61 (P : Params) : Obj := ⟨(.type "dict"), none, (.dict #[en P "__module__" 203 (.str "paperhold.errors" 194), en P "__qualname__" 205 (.str "PaperError" 204), en P "__firstlineno__" 207 (.int 5 206), en P "__init__" 218 (.ref 36), en P "told" 225 (.ref 43), en P "__static_attributes__" 228 (.ref 44)] 6), #[]⟩
noncomputable def o_62 (P : Params) : Obj := ⟨(.type "tuple"), none, (.seq #[] 0), #[]⟩
noncomputable def o_63 (P : Params) : Obj := ⟨.none, none, (.fields #[(.int 7 0), (.int 4 0), (.ref 35), (.int 12 0), (.int 4 0), (.ref 42)]), #[]⟩
noncomputable def o_64 (P : Params) : Obj := ⟨(.type "code"), none, (.fields #[(.str "PaperError" 198), (.str "PaperError" 199), (.str "/claim/cut.py" 200), (.int 5 0), (.int 0 0), (.int 0 0), (.int 0 0), (.int 0 0), (.ref 25), (.bool false), (.int 181 0), (.ref 26), .none, .none, .none, .none, (.int 201 0), (.int 5 0), (.str "/claim/cut.py" 202)]), #[]⟩
noncomputable def o_65 (P : Params) : Obj := ⟨(.type "frame"), none, .plain, #[(some (.ref 27)), (some (.ref 3)), (some (.ref 24)), none, (some (.str "paperhold.errors" 194)), none, (some (.ref 0))]⟩
noncomputable def o_66 (P : Params) : Obj := ⟨(.type "tuple"), none, (.seq #[(.int (-1) 209)] 0), #[]⟩
noncomputable def o_67 (P : Params) : Obj := ⟨(.type "tuple"), none, (.seq #[] 0), #[]⟩
noncomputable def o_68 (P : Params) : Obj := ⟨.none, none, (.fields #[]), #[]⟩
noncomputable def o_69 (P : Params) : Obj := ⟨(.type "tuple"), none, (.seq #[(.str "self" 213), (.str "what" 214), (.str "at" 215)] 0), #[]⟩
noncomputable def o_70 (P : Params) : Obj := ⟨(.type "tuple"), none, (.seq #[] 0), #[]⟩
noncomputable def o_71 (P : Params) : Obj := ⟨.none, none, fnp (nthS 0 (cbOf (nthS 2 pB))) fun a b s => ⟨"__init__", "PaperError.__init__", a, b, s, 0, [], .none, .none, .none, .none, none, .none, .none, 0⟩, #[]⟩
noncomputable def o_72 (P : Params) : Obj := ⟨(.type "code"), none, (.fields #[(.str "__init__" 210), (.str "PaperError.__init__" 211), (.str "/claim/cut.py" 212), (.int 7 0), (.int 3 0), (.int 0 0), (.int 0 0), (.int 3 0), (.ref 30), (.bool true), (.int 181 0), (.ref 31), .none, (.ref 32), (.ref 33), (.ref 34), (.int 216 0), (.int 7 0), (.str "/claim/cut.py" 217)]), #[]⟩
noncomputable def o_73 : Params → Obj := by
  refine (fun (_ : (?a, ?b, ?s) = fdOf (nthS 0 (cbOf (nthS 2 pB)))) P => ⟨(.type "function"), none, .func ⟨"__init__", "PaperError.__init__", ?a, .stmts ?b, ?s, 3, [], (.ref 29), .none, .none, (.str "paperhold.errors" 194), none, (.ref 35), .none, 0⟩, #[]⟩) ?h
  case h => conv => rhs; whnf
noncomputable def o_74 (P : Params) : Obj := ⟨(.type "tuple"), none, (.seq #[] 0), #[]⟩
noncomputable def o_75 (P : Params) : Obj := ⟨.none, none, (.fields #[]), #[]⟩
noncomputable def o_76 (P : Params) : Obj := ⟨(.type "tuple"), none, (.seq #[(.str "self" 222)] 0), #[]⟩
noncomputable def o_77 (P : Params) : Obj := ⟨(.type "tuple"), none, (.seq #[] 0), #[]⟩
noncomputable def o_78 (P : Params) : Obj := ⟨.none, none, fnp (nthS 1 (cbOf (nthS 2 pB))) fun a b s => ⟨"told", "PaperError.told", a, b, s, 0, [], .none, .none, .none, .none, none, .none, .none, 0⟩, #[]⟩
noncomputable def o_79 (P : Params) : Obj := ⟨(.type "code"), none, (.fields #[(.str "told" 219), (.str "PaperError.told" 220), (.str "/claim/cut.py" 221), (.int 12 0), (.int 1 0), (.int 0 0), (.int 0 0), (.int 3 0), (.ref 37), (.bool true), (.int 181 0), (.ref 38), .none, (.ref 39), (.ref 40), (.ref 41), (.int 223 0), (.int 12 0), (.str "/claim/cut.py" 224)]), #[]⟩
noncomputable def o_80 : Params → Obj := by
  refine (fun (_ : (?a, ?b, ?s) = fdOf (nthS 1 (cbOf (nthS 2 pB)))) P => ⟨(.type "function"), none, .func ⟨"told", "PaperError.told", ?a, .stmts ?b, ?s, 3, [], .none, .none, .none, (.str "paperhold.errors" 194), none, (.ref 42), .none, 0⟩, #[]⟩) ?h
  case h => conv => rhs; whnf
noncomputable def o_81 (P : Params) : Obj := ⟨(.type "tuple"), none, (.seq #[(.str "at" 226), (.str "what" 227)] 0), #[]⟩
noncomputable def o_82 (P : Params) : Obj := ⟨(.type "dict"), none, (.dict #[en P "__module__" 203 (.str "paperhold.errors" 194), en P "__firstlineno__" 207 (.int 5 206), en P "__init__" 218 (.ref 36), en P "told" 225 (.ref 43), en P "__static_attributes__" 228 (.ref 44), en P "__weakref__" 230 (.ref 47), en P "__doc__" 231 .none] 3), #[]⟩
noncomputable def o_83 (P : Params) : Obj := ⟨(.type "type"), none, (.cls ⟨"PaperError", [(.type "Exception")], [(.ref 46), (.type "Exception"), (.type "BaseException"), (.type "object")], 45, "PaperError", true, [], [], false, none, false⟩), #[(some (.ref 22)), none, (some (.str "PaperError" 196)), (some (.str "PaperError" 204)), (some (.builtin "Exception.__new__")), (some (.bool true))]⟩
noncomputable def o_84 (P : Params) : Obj := ⟨(.type "getset_descriptor"), none, (.fields #[(.str "__weakref__" 229), (.ref 46), (.builtin "ExceptionGroup.__weakref__"), .none]), #[]⟩
noncomputable def o_85 (P : Params) : Obj := ⟨(.type "super"), none, (.fields #[(.ref 46), (.ref 46), (.ref 46)]), #[]⟩
noncomputable def o_86 (P : Params) : Obj := ⟨(.type "builtin_function_or_method"), none, (.fields #[(.builtin "object.__init_subclass__"), (.ref 46)]), #[]⟩
noncomputable def o_87 (P : Params) : Obj := ⟨(.type "dict"), none, (.dict #[en P "__name__" 165 (.str "paperhold.decimals" 252), en P "__doc__" 166 .none, en P "__package__" 167 .none, en P "__loader__" 168 (.builtin "__main__.__loader__#opaque"), en P "__spec__" 169 .none, en P "__annotations__" 170 (.ref 6), en P "__builtins__" 171 (.ref 4), en P "__file__" 173 (.str "/claim/cut.py" 172), en P "__cached__" 174 .none, en P "_wall" 193 (.ref 21), en P "PaperError" 235 (.ref 46), en P "DraftFault" 251 (.ref 59)] 12), #[]⟩
noncomputable def o_88 (P : Params) : Obj := ⟨.none, none, (.fields #[(.int 1 0), (.int 0 0), (.ref 20), (.int 5 0), (.int 0 0), (.ref 27), (.int 14 0), (.int 0 0), (.ref 55)]), #[]⟩
noncomputable def o_89 (P : Params) : Obj := ⟨(.type "type"), none, (.cls ⟨"PaperError", [(.type "Exception")], [(.ref 46), (.type "Exception"), (.type "BaseException"), (.type "object")], 45, "PaperError", true, [], [(.ref 59)], false, none, false⟩), #[(some (.ref 22)), none, (some (.str "PaperError" 196)), (some (.str "PaperError" 204)), (some (.builtin "Exception.__new__")), (some (.bool true))]⟩
noncomputable def o_90 (P : Params) : Obj := ⟨(.type "tuple"), none, (.seq #[(.ref 46)] 0), #[]⟩
noncomputable def o_91 (P : Params) : Obj := ⟨(.type "builtin_function_or_method"), none, (.fields #[(.builtin "type.__prepare__"), (.type "type")]), #[]⟩
noncomputable def o_92 (P : Params) : Obj := ⟨(.type "dict"), none, (.dict #[en P "__module__" 243 (.str "paperhold.errors" 194), en P "__qualname__" 245 (.str "DraftFault" 244), en P "__firstlineno__" 247 (.int 14 246), en P "__static_attributes__" 248 (.ref 57)] 4), #[]⟩
noncomputable def o_93 (P : Params) : Obj := ⟨(.type "tuple"), none, (.seq #[] 0), #[]⟩
noncomputable def o_94 (P : Params) : Obj := ⟨.none, none, (.fields #[]), #[]⟩
noncomputable def o_95 (P : Params) : Obj := ⟨(.type "code"), none, (.fields #[(.str "DraftFault" 238), (.str "DraftFault" 239), (.str "/claim/cut.py" 240), (.int 14 0), (.int 0 0), (.int 0 0), (.int 0 0), (.int 0 0), (.ref 53), (.bool false), (.int 181 0), (.ref 54), .none, .none, .none, .none, (.int 241 0), (.int 14 0), (.str "/claim/cut.py" 242)]), #[]⟩
noncomputable def o_96 (P : Params) : Obj := ⟨(.type "frame"), none, .plain, #[(some (.ref 55)), (some (.ref 3)), (some (.ref 52)), none, (some (.str "paperhold.errors" 194)), none, (some (.ref 0))]⟩
noncomputable def o_97 (P : Params) : Obj := ⟨(.type "tuple"), none, (.seq #[] 0), #[]⟩
noncomputable def o_98 (P : Params) : Obj := ⟨(.type "dict"), none, (.dict #[en P "__module__" 243 (.str "paperhold.errors" 194), en P "__firstlineno__" 247 (.int 14 246), en P "__static_attributes__" 248 (.ref 57), en P "__doc__" 249 .none] 2), #[]⟩
noncomputable def o_99 (P : Params) : Obj := ⟨(.type "type"), none, (.cls ⟨"DraftFault", [(.ref 46)], [(.ref 59), (.ref 46), (.type "Exception"), (.type "BaseException"), (.type "object")], 58, "DraftFault", true, [], [], false, none, false⟩), #[(some (.ref 50)), none, (some (.str "DraftFault" 236)), (some (.str "DraftFault" 244)), (some (.builtin "Exception.__new__")), (some (.bool true))]⟩
noncomputable def o_100 (P : Params) : Obj := ⟨(.type "super"), none, (.fields #[(.ref 59), (.ref 59), (.ref 59)]), #[]⟩
noncomputable def o_101 (P : Params) : Obj := ⟨(.type "builtin_function_or_method"), none, (.fields #[(.builtin "object.__init_subclass__"), (.ref 59)]), #[]⟩
noncomputable def o_102 (P : Params) : Obj := ⟨(.type "dict"), none, (.dict #[en P "__name__" 165 (.str "paperhold.decimals" 252), en P "__doc__" 166 .none, en P "__package__" 167 .none, en P "__loader__" 168 (.builtin "__main__.__loader__#opaque"), en P "__spec__" 169 .none, en P "__annotations__" 170 (.ref 6), en P "__builtins__" 171 (.ref 4), en P "__file__" 173 (.str "/claim/cut.py" 172), en P "__cached__" 174 .none, en P "_wall" 193 (.ref 21), en P "PaperError" 235 (.ref 46), en P "DraftFault" 251 (.ref 59), en P "Decimal" 367 (.ref 155)] 13), #[]⟩
noncomputable def o_103 (P : Params) : Obj := ⟨.none, none, (.fields #[(.int 1 0), (.int 0 0), (.ref 20), (.int 5 0), (.int 0 0), (.ref 27), (.int 14 0), (.int 0 0), (.ref 55), (.int 17 0), (.int 0 0), (.ref 67)]), #[]⟩
noncomputable def o_104 (P : Params) : Obj := ⟨(.type "tuple"), none, (.seq #[] 0), #[]⟩
noncomputable def o_105 (P : Params) : Obj := ⟨(.type "builtin_function_or_method"), none, (.fields #[(.builtin "type.__prepare__"), (.type "type")]), #[]⟩
noncomputable def o_106 (P : Params) : Obj := ⟨(.type "dict"), none, (.dict #[en P "__module__" 261 (.str "paperhold.decimals" 252), en P "__qualname__" 263 (.str "Decimal" 262), en P "__firstlineno__" 265 (.int 17 264), en P "__init__" 274 (.ref 75), en P "plus" 282 (.ref 82), en P "minus" 290 (.ref 89), en P "times" 298 (.ref 96), en P "negated" 305 (.ref 103), en P "compared" 313 (.ref 110), en P "is_whole" 320 (.ref 117), en P "floor" 327 (.ref 124), en P "rounded" 335 (.ref 131), en P "told" 342 (.ref 138), en P "text" 350 (.ref 145), en P "least_text" 357 (.ref 152), en P "__static_attributes__" 360 (.ref 153)] 16), #[]⟩
noncomputable def o_107 (P : Params) : Obj := ⟨(.type "tuple"), none, (.seq #[] 0), #[]⟩
noncomputable def o_108 (P : Params) : Obj := ⟨.none, none, (.fields #[(.int 19 0), (.int 4 0), (.ref 74), (.int 26 0), (.int 4 0), (.ref 81), (.int 29 0), (.int 4 0), (.ref 88), (.int 32 0), (.int 4 0), (.ref 95), (.int 35 0), (.int 4 0), (.ref 102), (.int 38 0), (.int 4 0), (.ref 109), (.int 41 0), (.int 4 0), (.ref 116), (.int 44 0), (.int 4 0), (.ref 123), (.int 47 0), (.int 4 0), (.ref 130), (.int 50 0), (.int 4 0), (.ref 137), (.int 53 0), (.int 4 0), (.ref 144), (.int 60 0), (.int 4 0), (.ref 151)]), #[]⟩
noncomputable def o_109 (P : Params) : Obj := ⟨(.type "code"), none, (.fields #[(.str "Decimal" 256), (.str "Decimal" 257), (.str "/claim/cut.py" 258), (.int 17 0), (.int 0 0), (.int 0 0), (.int 0 0), (.int 0 0), (.ref 65), (.bool false), (.int 181 0), (.ref 66), .none, .none, .none, .none, (.int 259 0), (.int 17 0), (.str "/claim/cut.py" 260)]), #[]⟩
noncomputable def o_110 (P : Params) : Obj := ⟨(.type "frame"), none, .plain, #[(some (.ref 67)), (some (.ref 3)), (some (.ref 64)), none, (some (.str "paperhold.decimals" 252)), none, (some (.ref 0))]⟩
noncomputable def o_111 (P : Params) : Obj := ⟨(.type "tuple"), none, (.seq #[] 0), #[]⟩
noncomputable def o_112 (P : Params) : Obj := ⟨.none, none, (.fields #[]), #[]⟩
noncomputable def o_113 (P : Params) : Obj := ⟨(.type "tuple"), none, (.seq #[(.str "self" 269), (.str "top" 270), (.str "places" 271)] 0), #[]⟩
noncomputable def o_114 (P : Params) : Obj := ⟨(.type "tuple"), none, (.seq #[] 0), #[]⟩
noncomputable def o_115 (P : Params) : Obj := ⟨.none, none, fnp (nthS 0 (cbOf (nthS 5 pB))) fun a b s => ⟨"__init__", "Decimal.__init__", a, b, s, 0, [], .none, .none, .none, .none, none, .none, .none, 0⟩, #[]⟩
noncomputable def o_116 (P : Params) : Obj := ⟨(.type "code"), none, (.fields #[(.str "__init__" 266), (.str "Decimal.__init__" 267), (.str "/claim/cut.py" 268), (.int 19 0), (.int 3 0), (.int 0 0), (.int 0 0), (.int 3 0), (.ref 69), (.bool true), (.int 181 0), (.ref 70), .none, (.ref 71), (.ref 72), (.ref 73), (.int 272 0), (.int 19 0), (.str "/claim/cut.py" 273)]), #[]⟩
noncomputable def o_117 : Params → Obj := by
  refine (fun (_ : (?a, ?b, ?s) = fdOf (nthS 0 (cbOf (nthS 5 pB)))) P => ⟨(.type "function"), none, .func ⟨"__init__", "Decimal.__init__", ?a, .stmts ?b, ?s, 3, [], .none, .none, .none, (.str "paperhold.decimals" 252), none, (.ref 74), .none, 0⟩, #[]⟩) ?h
  case h => conv => rhs; whnf
noncomputable def o_118 (P : Params) : Obj := ⟨(.type "tuple"), none, (.seq #[] 0), #[]⟩
noncomputable def o_119 (P : Params) : Obj := ⟨.none, none, (.fields #[]), #[]⟩
noncomputable def o_120 (P : Params) : Obj := ⟨(.type "tuple"), none, (.seq #[(.str "self" 278), (.str "other" 279)] 0), #[]⟩
noncomputable def o_121 (P : Params) : Obj := ⟨(.type "tuple"), none, (.seq #[] 0), #[]⟩
noncomputable def o_122 (P : Params) : Obj := ⟨.none, none, fnp (nthS 1 (cbOf (nthS 5 pB))) fun a b s => ⟨"plus", "Decimal.plus", a, b, s, 0, [], .none, .none, .none, .none, none, .none, .none, 0⟩, #[]⟩
noncomputable def o_123 (P : Params) : Obj := ⟨(.type "code"), none, (.fields #[(.str "plus" 275), (.str "Decimal.plus" 276), (.str "/claim/cut.py" 277), (.int 26 0), (.int 2 0), (.int 0 0), (.int 0 0), (.int 3 0), (.ref 76), (.bool true), (.int 181 0), (.ref 77), .none, (.ref 78), (.ref 79), (.ref 80), (.int 280 0), (.int 26 0), (.str "/claim/cut.py" 281)]), #[]⟩
noncomputable def o_124 : Params → Obj := by
  refine (fun (_ : (?a, ?b, ?s) = fdOf (nthS 1 (cbOf (nthS 5 pB)))) P => ⟨(.type "function"), none, .func ⟨"plus", "Decimal.plus", ?a, .stmts ?b, ?s, 3, [], .none, .none, .none, (.str "paperhold.decimals" 252), none, (.ref 81), .none, 0⟩, #[]⟩) ?h
  case h => conv => rhs; whnf
noncomputable def o_125 (P : Params) : Obj := ⟨(.type "tuple"), none, (.seq #[] 0), #[]⟩
noncomputable def o_126 (P : Params) : Obj := ⟨.none, none, (.fields #[]), #[]⟩
noncomputable def o_127 (P : Params) : Obj := ⟨(.type "tuple"), none, (.seq #[(.str "self" 286), (.str "other" 287)] 0), #[]⟩
noncomputable def o_128 (P : Params) : Obj := ⟨(.type "tuple"), none, (.seq #[] 0), #[]⟩
noncomputable def o_129 (P : Params) : Obj := ⟨.none, none, fnp (nthS 2 (cbOf (nthS 5 pB))) fun a b s => ⟨"minus", "Decimal.minus", a, b, s, 0, [], .none, .none, .none, .none, none, .none, .none, 0⟩, #[]⟩
noncomputable def o_130 (P : Params) : Obj := ⟨(.type "code"), none, (.fields #[(.str "minus" 283), (.str "Decimal.minus" 284), (.str "/claim/cut.py" 285), (.int 29 0), (.int 2 0), (.int 0 0), (.int 0 0), (.int 3 0), (.ref 83), (.bool true), (.int 181 0), (.ref 84), .none, (.ref 85), (.ref 86), (.ref 87), (.int 288 0), (.int 29 0), (.str "/claim/cut.py" 289)]), #[]⟩
noncomputable def o_131 : Params → Obj := by
  refine (fun (_ : (?a, ?b, ?s) = fdOf (nthS 2 (cbOf (nthS 5 pB)))) P => ⟨(.type "function"), none, .func ⟨"minus", "Decimal.minus", ?a, .stmts ?b, ?s, 3, [], .none, .none, .none, (.str "paperhold.decimals" 252), none, (.ref 88), .none, 0⟩, #[]⟩) ?h
  case h => conv => rhs; whnf
noncomputable def o_132 (P : Params) : Obj := ⟨(.type "tuple"), none, (.seq #[] 0), #[]⟩
noncomputable def o_133 (P : Params) : Obj := ⟨.none, none, (.fields #[]), #[]⟩
noncomputable def o_134 (P : Params) : Obj := ⟨(.type "tuple"), none, (.seq #[(.str "self" 294), (.str "other" 295)] 0), #[]⟩
noncomputable def o_135 (P : Params) : Obj := ⟨(.type "tuple"), none, (.seq #[] 0), #[]⟩
noncomputable def o_136 (P : Params) : Obj := ⟨.none, none, fnp (nthS 3 (cbOf (nthS 5 pB))) fun a b s => ⟨"times", "Decimal.times", a, b, s, 0, [], .none, .none, .none, .none, none, .none, .none, 0⟩, #[]⟩
noncomputable def o_137 (P : Params) : Obj := ⟨(.type "code"), none, (.fields #[(.str "times" 291), (.str "Decimal.times" 292), (.str "/claim/cut.py" 293), (.int 32 0), (.int 2 0), (.int 0 0), (.int 0 0), (.int 3 0), (.ref 90), (.bool true), (.int 181 0), (.ref 91), .none, (.ref 92), (.ref 93), (.ref 94), (.int 296 0), (.int 32 0), (.str "/claim/cut.py" 297)]), #[]⟩
noncomputable def o_138 : Params → Obj := by
  refine (fun (_ : (?a, ?b, ?s) = fdOf (nthS 3 (cbOf (nthS 5 pB)))) P => ⟨(.type "function"), none, .func ⟨"times", "Decimal.times", ?a, .stmts ?b, ?s, 3, [], .none, .none, .none, (.str "paperhold.decimals" 252), none, (.ref 95), .none, 0⟩, #[]⟩) ?h
  case h => conv => rhs; whnf
noncomputable def o_139 (P : Params) : Obj := ⟨(.type "tuple"), none, (.seq #[] 0), #[]⟩
noncomputable def o_140 (P : Params) : Obj := ⟨.none, none, (.fields #[]), #[]⟩
noncomputable def o_141 (P : Params) : Obj := ⟨(.type "tuple"), none, (.seq #[(.str "self" 302)] 0), #[]⟩
noncomputable def o_142 (P : Params) : Obj := ⟨(.type "tuple"), none, (.seq #[] 0), #[]⟩
noncomputable def o_143 (P : Params) : Obj := ⟨.none, none, fnp (nthS 4 (cbOf (nthS 5 pB))) fun a b s => ⟨"negated", "Decimal.negated", a, b, s, 0, [], .none, .none, .none, .none, none, .none, .none, 0⟩, #[]⟩
noncomputable def o_144 (P : Params) : Obj := ⟨(.type "code"), none, (.fields #[(.str "negated" 299), (.str "Decimal.negated" 300), (.str "/claim/cut.py" 301), (.int 35 0), (.int 1 0), (.int 0 0), (.int 0 0), (.int 3 0), (.ref 97), (.bool true), (.int 181 0), (.ref 98), .none, (.ref 99), (.ref 100), (.ref 101), (.int 303 0), (.int 35 0), (.str "/claim/cut.py" 304)]), #[]⟩
noncomputable def o_145 : Params → Obj := by
  refine (fun (_ : (?a, ?b, ?s) = fdOf (nthS 4 (cbOf (nthS 5 pB)))) P => ⟨(.type "function"), none, .func ⟨"negated", "Decimal.negated", ?a, .stmts ?b, ?s, 3, [], .none, .none, .none, (.str "paperhold.decimals" 252), none, (.ref 102), .none, 0⟩, #[]⟩) ?h
  case h => conv => rhs; whnf
noncomputable def o_146 (P : Params) : Obj := ⟨(.type "tuple"), none, (.seq #[] 0), #[]⟩
noncomputable def o_147 (P : Params) : Obj := ⟨.none, none, (.fields #[]), #[]⟩
noncomputable def o_148 (P : Params) : Obj := ⟨(.type "tuple"), none, (.seq #[(.str "self" 309), (.str "other" 310)] 0), #[]⟩
noncomputable def o_149 (P : Params) : Obj := ⟨(.type "tuple"), none, (.seq #[] 0), #[]⟩
noncomputable def o_150 (P : Params) : Obj := ⟨.none, none, fnp (nthS 5 (cbOf (nthS 5 pB))) fun a b s => ⟨"compared", "Decimal.compared", a, b, s, 0, [], .none, .none, .none, .none, none, .none, .none, 0⟩, #[]⟩
noncomputable def o_151 (P : Params) : Obj := ⟨(.type "code"), none, (.fields #[(.str "compared" 306), (.str "Decimal.compared" 307), (.str "/claim/cut.py" 308), (.int 38 0), (.int 2 0), (.int 0 0), (.int 0 0), (.int 3 0), (.ref 104), (.bool true), (.int 181 0), (.ref 105), .none, (.ref 106), (.ref 107), (.ref 108), (.int 311 0), (.int 38 0), (.str "/claim/cut.py" 312)]), #[]⟩
noncomputable def o_152 : Params → Obj := by
  refine (fun (_ : (?a, ?b, ?s) = fdOf (nthS 5 (cbOf (nthS 5 pB)))) P => ⟨(.type "function"), none, .func ⟨"compared", "Decimal.compared", ?a, .stmts ?b, ?s, 3, [], .none, .none, .none, (.str "paperhold.decimals" 252), none, (.ref 109), .none, 0⟩, #[]⟩) ?h
  case h => conv => rhs; whnf
noncomputable def o_153 (P : Params) : Obj := ⟨(.type "tuple"), none, (.seq #[] 0), #[]⟩
noncomputable def o_154 (P : Params) : Obj := ⟨.none, none, (.fields #[]), #[]⟩
noncomputable def o_155 (P : Params) : Obj := ⟨(.type "tuple"), none, (.seq #[(.str "self" 317)] 0), #[]⟩
noncomputable def o_156 (P : Params) : Obj := ⟨(.type "tuple"), none, (.seq #[] 0), #[]⟩
noncomputable def o_157 (P : Params) : Obj := ⟨.none, none, fnp (nthS 6 (cbOf (nthS 5 pB))) fun a b s => ⟨"is_whole", "Decimal.is_whole", a, b, s, 0, [], .none, .none, .none, .none, none, .none, .none, 0⟩, #[]⟩
noncomputable def o_158 (P : Params) : Obj := ⟨(.type "code"), none, (.fields #[(.str "is_whole" 314), (.str "Decimal.is_whole" 315), (.str "/claim/cut.py" 316), (.int 41 0), (.int 1 0), (.int 0 0), (.int 0 0), (.int 3 0), (.ref 111), (.bool true), (.int 181 0), (.ref 112), .none, (.ref 113), (.ref 114), (.ref 115), (.int 318 0), (.int 41 0), (.str "/claim/cut.py" 319)]), #[]⟩
noncomputable def o_159 : Params → Obj := by
  refine (fun (_ : (?a, ?b, ?s) = fdOf (nthS 6 (cbOf (nthS 5 pB)))) P => ⟨(.type "function"), none, .func ⟨"is_whole", "Decimal.is_whole", ?a, .stmts ?b, ?s, 3, [], .none, .none, .none, (.str "paperhold.decimals" 252), none, (.ref 116), .none, 0⟩, #[]⟩) ?h
  case h => conv => rhs; whnf
noncomputable def o_160 (P : Params) : Obj := ⟨(.type "tuple"), none, (.seq #[] 0), #[]⟩
noncomputable def o_161 (P : Params) : Obj := ⟨.none, none, (.fields #[]), #[]⟩
noncomputable def o_162 (P : Params) : Obj := ⟨(.type "tuple"), none, (.seq #[(.str "self" 324)] 0), #[]⟩
noncomputable def o_163 (P : Params) : Obj := ⟨(.type "tuple"), none, (.seq #[] 0), #[]⟩
noncomputable def o_164 (P : Params) : Obj := ⟨.none, none, fnp (nthS 7 (cbOf (nthS 5 pB))) fun a b s => ⟨"floor", "Decimal.floor", a, b, s, 0, [], .none, .none, .none, .none, none, .none, .none, 0⟩, #[]⟩
noncomputable def o_165 (P : Params) : Obj := ⟨(.type "code"), none, (.fields #[(.str "floor" 321), (.str "Decimal.floor" 322), (.str "/claim/cut.py" 323), (.int 44 0), (.int 1 0), (.int 0 0), (.int 0 0), (.int 3 0), (.ref 118), (.bool true), (.int 181 0), (.ref 119), .none, (.ref 120), (.ref 121), (.ref 122), (.int 325 0), (.int 44 0), (.str "/claim/cut.py" 326)]), #[]⟩
noncomputable def o_166 : Params → Obj := by
  refine (fun (_ : (?a, ?b, ?s) = fdOf (nthS 7 (cbOf (nthS 5 pB)))) P => ⟨(.type "function"), none, .func ⟨"floor", "Decimal.floor", ?a, .stmts ?b, ?s, 3, [], .none, .none, .none, (.str "paperhold.decimals" 252), none, (.ref 123), .none, 0⟩, #[]⟩) ?h
  case h => conv => rhs; whnf
noncomputable def o_167 (P : Params) : Obj := ⟨(.type "tuple"), none, (.seq #[] 0), #[]⟩
noncomputable def o_168 (P : Params) : Obj := ⟨.none, none, (.fields #[]), #[]⟩
noncomputable def o_169 (P : Params) : Obj := ⟨(.type "tuple"), none, (.seq #[(.str "self" 331), (.str "places" 332)] 0), #[]⟩
noncomputable def o_170 (P : Params) : Obj := ⟨(.type "tuple"), none, (.seq #[] 0), #[]⟩
noncomputable def o_171 (P : Params) : Obj := ⟨.none, none, fnp (nthS 8 (cbOf (nthS 5 pB))) fun a b s => ⟨"rounded", "Decimal.rounded", a, b, s, 0, [], .none, .none, .none, .none, none, .none, .none, 0⟩, #[]⟩
noncomputable def o_172 (P : Params) : Obj := ⟨(.type "code"), none, (.fields #[(.str "rounded" 328), (.str "Decimal.rounded" 329), (.str "/claim/cut.py" 330), (.int 47 0), (.int 2 0), (.int 0 0), (.int 0 0), (.int 3 0), (.ref 125), (.bool true), (.int 181 0), (.ref 126), .none, (.ref 127), (.ref 128), (.ref 129), (.int 333 0), (.int 47 0), (.str "/claim/cut.py" 334)]), #[]⟩
noncomputable def o_173 : Params → Obj := by
  refine (fun (_ : (?a, ?b, ?s) = fdOf (nthS 8 (cbOf (nthS 5 pB)))) P => ⟨(.type "function"), none, .func ⟨"rounded", "Decimal.rounded", ?a, .stmts ?b, ?s, 3, [], .none, .none, .none, (.str "paperhold.decimals" 252), none, (.ref 130), .none, 0⟩, #[]⟩) ?h
  case h => conv => rhs; whnf
noncomputable def o_174 (P : Params) : Obj := ⟨(.type "tuple"), none, (.seq #[] 0), #[]⟩
noncomputable def o_175 (P : Params) : Obj := ⟨.none, none, (.fields #[]), #[]⟩
noncomputable def o_176 (P : Params) : Obj := ⟨(.type "tuple"), none, (.seq #[(.str "self" 339)] 0), #[]⟩
noncomputable def o_177 (P : Params) : Obj := ⟨(.type "tuple"), none, (.seq #[] 0), #[]⟩
noncomputable def o_178 (P : Params) : Obj := ⟨.none, none, fnp (nthS 9 (cbOf (nthS 5 pB))) fun a b s => ⟨"told", "Decimal.told", a, b, s, 0, [], .none, .none, .none, .none, none, .none, .none, 0⟩, #[]⟩
noncomputable def o_179 (P : Params) : Obj := ⟨(.type "code"), none, (.fields #[(.str "told" 336), (.str "Decimal.told" 337), (.str "/claim/cut.py" 338), (.int 50 0), (.int 1 0), (.int 0 0), (.int 0 0), (.int 3 0), (.ref 132), (.bool true), (.int 181 0), (.ref 133), .none, (.ref 134), (.ref 135), (.ref 136), (.int 340 0), (.int 50 0), (.str "/claim/cut.py" 341)]), #[]⟩
noncomputable def o_180 : Params → Obj := by
  refine (fun (_ : (?a, ?b, ?s) = fdOf (nthS 9 (cbOf (nthS 5 pB)))) P => ⟨(.type "function"), none, .func ⟨"told", "Decimal.told", ?a, .stmts ?b, ?s, 3, [], .none, .none, .none, (.str "paperhold.decimals" 252), none, (.ref 137), .none, 0⟩, #[]⟩) ?h
  case h => conv => rhs; whnf
noncomputable def o_181 (P : Params) : Obj := ⟨(.type "tuple"), none, (.seq #[] 0), #[]⟩
noncomputable def o_182 (P : Params) : Obj := ⟨.none, none, (.fields #[]), #[]⟩
noncomputable def o_183 (P : Params) : Obj := ⟨(.type "tuple"), none, (.seq #[(.str "self" 346), (.str "numerals" 347)] 0), #[]⟩
noncomputable def o_184 (P : Params) : Obj := ⟨(.type "tuple"), none, (.seq #[] 0), #[]⟩
noncomputable def o_185 (P : Params) : Obj := ⟨.none, none, fnp (nthS 10 (cbOf (nthS 5 pB))) fun a b s => ⟨"text", "Decimal.text", a, b, s, 0, [], .none, .none, .none, .none, none, .none, .none, 0⟩, #[]⟩
noncomputable def o_186 (P : Params) : Obj := ⟨(.type "code"), none, (.fields #[(.str "text" 343), (.str "Decimal.text" 344), (.str "/claim/cut.py" 345), (.int 53 0), (.int 1 0), (.int 0 0), (.int 0 0), (.int 3 0), (.ref 139), (.bool true), (.int 181 0), (.ref 140), .none, (.ref 141), (.ref 142), (.ref 143), (.int 348 0), (.int 53 0), (.str "/claim/cut.py" 349)]), #[]⟩
noncomputable def o_187 : Params → Obj := by
  refine (fun (_ : (?a, ?b, ?s) = fdOf (nthS 10 (cbOf (nthS 5 pB)))) P => ⟨(.type "function"), none, .func ⟨"text", "Decimal.text", ?a, .stmts ?b, ?s, 3, [], .none, .none, .none, (.str "paperhold.decimals" 252), none, (.ref 144), .none, 0⟩, #[]⟩) ?h
  case h => conv => rhs; whnf
noncomputable def o_188 (P : Params) : Obj := ⟨(.type "tuple"), none, (.seq #[] 0), #[]⟩
noncomputable def o_189 (P : Params) : Obj := ⟨.none, none, (.fields #[]), #[]⟩
noncomputable def o_190 (P : Params) : Obj := ⟨(.type "tuple"), none, (.seq #[(.str "self" 354)] 0), #[]⟩
noncomputable def o_191 (P : Params) : Obj := ⟨(.type "tuple"), none, (.seq #[] 0), #[]⟩
noncomputable def o_192 (P : Params) : Obj := ⟨.none, none, fnp (nthS 11 (cbOf (nthS 5 pB))) fun a b s => ⟨"least_text", "Decimal.least_text", a, b, s, 0, [], .none, .none, .none, .none, none, .none, .none, 0⟩, #[]⟩
noncomputable def o_193 (P : Params) : Obj := ⟨(.type "code"), none, (.fields #[(.str "least_text" 351), (.str "Decimal.least_text" 352), (.str "/claim/cut.py" 353), (.int 60 0), (.int 1 0), (.int 0 0), (.int 0 0), (.int 3 0), (.ref 146), (.bool true), (.int 181 0), (.ref 147), .none, (.ref 148), (.ref 149), (.ref 150), (.int 355 0), (.int 60 0), (.str "/claim/cut.py" 356)]), #[]⟩
noncomputable def o_194 : Params → Obj := by
  refine (fun (_ : (?a, ?b, ?s) = fdOf (nthS 11 (cbOf (nthS 5 pB)))) P => ⟨(.type "function"), none, .func ⟨"least_text", "Decimal.least_text", ?a, .stmts ?b, ?s, 3, [], .none, .none, .none, (.str "paperhold.decimals" 252), none, (.ref 151), .none, 0⟩, #[]⟩) ?h
  case h => conv => rhs; whnf
noncomputable def o_195 (P : Params) : Obj := ⟨(.type "tuple"), none, (.seq #[(.str "places" 358), (.str "top" 359)] 0), #[]⟩
noncomputable def o_196 (P : Params) : Obj := ⟨(.type "dict"), none, (.dict #[en P "__module__" 261 (.str "paperhold.decimals" 252), en P "__firstlineno__" 265 (.int 17 264), en P "__init__" 274 (.ref 75), en P "plus" 282 (.ref 82), en P "minus" 290 (.ref 89), en P "times" 298 (.ref 96), en P "negated" 305 (.ref 103), en P "compared" 313 (.ref 110), en P "is_whole" 320 (.ref 117), en P "floor" 327 (.ref 124), en P "rounded" 335 (.ref 131), en P "told" 342 (.ref 138), en P "text" 350 (.ref 145), en P "least_text" 357 (.ref 152), en P "__static_attributes__" 360 (.ref 153), en P "__dict__" 362 (.ref 156), en P "__weakref__" 364 (.ref 157), en P "__doc__" 365 .none] 4), #[]⟩
noncomputable def o_197 (P : Params) : Obj := ⟨(.type "type"), none, (.cls ⟨"Decimal", [(.type "object")], [(.ref 155), (.type "object")], 154, "Decimal", true, [], [], false, none, false⟩), #[none, none, (some (.str "Decimal" 254)), (some (.str "Decimal" 262)), (some (.builtin "object.__new__")), (some (.bool true))]⟩
noncomputable def o_198 (P : Params) : Obj := ⟨(.type "getset_descriptor"), none, (.fields #[(.str "__dict__" 361), (.ref 155), (.builtin "function.__dict__"), (.builtin "function.__dict__#set")]), #[]⟩
noncomputable def o_199 (P : Params) : Obj := ⟨(.type "getset_descriptor"), none, (.fields #[(.str "__weakref__" 363), (.ref 155), (.builtin "ExceptionGroup.__weakref__"), .none]), #[]⟩
noncomputable def o_200 (P : Params) : Obj := ⟨(.type "super"), none, (.fields #[(.ref 155), (.ref 155), (.ref 155)]), #[]⟩
noncomputable def o_201 (P : Params) : Obj := ⟨(.type "builtin_function_or_method"), none, (.fields #[(.builtin "object.__init_subclass__"), (.ref 155)]), #[]⟩
noncomputable def o_202 (P : Params) : Obj := ⟨(.type "dict"), none, (.dict #[en P "__name__" 165 (.str "paperhold.objects" 375), en P "__doc__" 166 .none, en P "__package__" 167 .none, en P "__loader__" 168 (.builtin "__main__.__loader__#opaque"), en P "__spec__" 169 .none, en P "__annotations__" 170 (.ref 6), en P "__builtins__" 171 (.ref 4), en P "__file__" 173 (.str "/claim/cut.py" 172), en P "__cached__" 174 .none, en P "_wall" 193 (.ref 21), en P "PaperError" 235 (.ref 46), en P "DraftFault" 251 (.ref 59), en P "Decimal" 367 (.ref 155), en P "sign_text" 374 (.ref 166), en P "MOST_HOPS" 378 (.int 30 377), en P "Name" 407 (.ref 183)] 16), #[]⟩
noncomputable def o_203 (P : Params) : Obj := ⟨.none, none, (.fields #[(.int 1 0), (.int 0 0), (.ref 20), (.int 5 0), (.int 0 0), (.ref 27), (.int 14 0), (.int 0 0), (.ref 55), (.int 17 0), (.int 0 0), (.ref 67), (.int 62 0), (.int 0 0), (.ref 165), (.int 66 0), (.int 0 0), (.ref 172)]), #[]⟩
noncomputable def o_204 (P : Params) : Obj := ⟨(.type "tuple"), none, (.seq #[] 0), #[]⟩
noncomputable def o_205 (P : Params) : Obj := ⟨.none, none, (.fields #[]), #[]⟩
noncomputable def o_206 (P : Params) : Obj := ⟨(.type "tuple"), none, (.seq #[(.str "number" 371)] 0), #[]⟩
noncomputable def o_207 (P : Params) : Obj := ⟨(.type "tuple"), none, (.seq #[] 0), #[]⟩
noncomputable def o_208 (P : Params) : Obj := ⟨.none, none, fnp (nthS 6 pB) fun a b s => ⟨"sign_text", "sign_text", a, b, s, 0, [], .none, .none, .none, .none, none, .none, .none, 0⟩, #[]⟩
noncomputable def o_209 (P : Params) : Obj := ⟨(.type "code"), none, (.fields #[(.str "sign_text" 368), (.str "sign_text" 369), (.str "/claim/cut.py" 370), (.int 62 0), (.int 1 0), (.int 0 0), (.int 0 0), (.int 3 0), (.ref 160), (.bool true), (.int 181 0), (.ref 161), .none, (.ref 162), (.ref 163), (.ref 164), (.int 372 0), (.int 62 0), (.str "/claim/cut.py" 373)]), #[]⟩
noncomputable def o_210 : Params → Obj := by
  refine (fun (_ : (?a, ?b, ?s) = fdOf (nthS 6 pB)) P => ⟨(.type "function"), none, .func ⟨"sign_text", "sign_text", ?a, .stmts ?b, ?s, 3, [], .none, .none, .none, (.str "paperhold.decimals" 252), none, (.ref 165), .none, 0⟩, #[]⟩) ?h
  case h => conv => rhs; whnf
noncomputable def o_211 (P : Params) : Obj := ⟨(.type "tuple"), none, (.seq #[] 0), #[]⟩
noncomputable def o_212 (P : Params) : Obj := ⟨(.type "builtin_function_or_method"), none, (.fields #[(.builtin "type.__prepare__"), (.type "type")]), #[]⟩
noncomputable def o_213 (P : Params) : Obj := ⟨(.type "dict"), none, (.dict #[en P "__module__" 386 (.str "paperhold.objects" 375), en P "__qualname__" 388 (.str "Name" 387), en P "__firstlineno__" 390 (.int 66 389), en P "__init__" 398 (.ref 180), en P "__static_attributes__" 400 (.ref 181)] 5), #[]⟩
noncomputable def o_214 (P : Params) : Obj := ⟨(.type "tuple"), none, (.seq #[] 0), #[]⟩
noncomputable def o_215 (P : Params) : Obj := ⟨.none, none, (.fields #[(.int 68 0), (.int 4 0), (.ref 179)]), #[]⟩
noncomputable def o_216 (P : Params) : Obj := ⟨(.type "code"), none, (.fields #[(.str "Name" 381), (.str "Name" 382), (.str "/claim/cut.py" 383), (.int 66 0), (.int 0 0), (.int 0 0), (.int 0 0), (.int 0 0), (.ref 170), (.bool false), (.int 181 0), (.ref 171), .none, .none, .none, .none, (.int 384 0), (.int 66 0), (.str "/claim/cut.py" 385)]), #[]⟩
noncomputable def o_217 (P : Params) : Obj := ⟨(.type "frame"), none, .plain, #[(some (.ref 172)), (some (.ref 3)), (some (.ref 169)), none, (some (.str "paperhold.objects" 375)), none, (some (.ref 0))]⟩
noncomputable def o_218 (P : Params) : Obj := ⟨(.type "tuple"), none, (.seq #[] 0), #[]⟩
noncomputable def o_219 (P : Params) : Obj := ⟨.none, none, (.fields #[]), #[]⟩
noncomputable def o_220 (P : Params) : Obj := ⟨(.type "tuple"), none, (.seq #[(.str "self" 394), (.str "text" 395)] 0), #[]⟩
noncomputable def o_221 (P : Params) : Obj := ⟨(.type "tuple"), none, (.seq #[] 0), #[]⟩
noncomputable def o_222 (P : Params) : Obj := ⟨.none, none, fnp (nthS 0 (cbOf (nthS 9 pB))) fun a b s => ⟨"__init__", "Name.__init__", a, b, s, 0, [], .none, .none, .none, .none, none, .none, .none, 0⟩, #[]⟩
noncomputable def o_223 (P : Params) : Obj := ⟨(.type "code"), none, (.fields #[(.str "__init__" 391), (.str "Name.__init__" 392), (.str "/claim/cut.py" 393), (.int 68 0), (.int 2 0), (.int 0 0), (.int 0 0), (.int 3 0), (.ref 174), (.bool true), (.int 181 0), (.ref 175), .none, (.ref 176), (.ref 177), (.ref 178), (.int 396 0), (.int 68 0), (.str "/claim/cut.py" 397)]), #[]⟩
noncomputable def o_224 : Params → Obj := by
  refine (fun (_ : (?a, ?b, ?s) = fdOf (nthS 0 (cbOf (nthS 9 pB)))) P => ⟨(.type "function"), none, .func ⟨"__init__", "Name.__init__", ?a, .stmts ?b, ?s, 3, [], .none, .none, .none, (.str "paperhold.objects" 375), none, (.ref 179), .none, 0⟩, #[]⟩) ?h
  case h => conv => rhs; whnf
noncomputable def o_225 (P : Params) : Obj := ⟨(.type "tuple"), none, (.seq #[(.str "text" 399)] 0), #[]⟩
noncomputable def o_226 (P : Params) : Obj := ⟨(.type "dict"), none, (.dict #[en P "__module__" 386 (.str "paperhold.objects" 375), en P "__firstlineno__" 390 (.int 66 389), en P "__init__" 398 (.ref 180), en P "__static_attributes__" 400 (.ref 181), en P "__dict__" 402 (.ref 184), en P "__weakref__" 404 (.ref 185), en P "__doc__" 405 .none] 4), #[]⟩
noncomputable def o_227 (P : Params) : Obj := ⟨(.type "type"), none, (.cls ⟨"Name", [(.type "object")], [(.ref 183), (.type "object")], 182, "Name", true, [], [], false, none, false⟩), #[none, none, (some (.str "Name" 379)), (some (.str "Name" 387)), (some (.builtin "object.__new__")), (some (.bool true))]⟩
noncomputable def o_228 (P : Params) : Obj := ⟨(.type "getset_descriptor"), none, (.fields #[(.str "__dict__" 401), (.ref 183), (.builtin "function.__dict__"), (.builtin "function.__dict__#set")]), #[]⟩
noncomputable def o_229 (P : Params) : Obj := ⟨(.type "getset_descriptor"), none, (.fields #[(.str "__weakref__" 403), (.ref 183), (.builtin "ExceptionGroup.__weakref__"), .none]), #[]⟩
noncomputable def o_230 (P : Params) : Obj := ⟨(.type "super"), none, (.fields #[(.ref 183), (.ref 183), (.ref 183)]), #[]⟩
noncomputable def o_231 (P : Params) : Obj := ⟨(.type "builtin_function_or_method"), none, (.fields #[(.builtin "object.__init_subclass__"), (.ref 183)]), #[]⟩
noncomputable def o_232 (P : Params) : Obj := ⟨(.type "dict"), none, (.dict #[en P "__name__" 165 (.str "paperhold.objects" 375), en P "__doc__" 166 .none, en P "__package__" 167 .none, en P "__loader__" 168 (.builtin "__main__.__loader__#opaque"), en P "__spec__" 169 .none, en P "__annotations__" 170 (.ref 6), en P "__builtins__" 171 (.ref 4), en P "__file__" 173 (.str "/claim/cut.py" 172), en P "__cached__" 174 .none, en P "_wall" 193 (.ref 21), en P "PaperError" 235 (.ref 46), en P "DraftFault" 251 (.ref 59), en P "Decimal" 367 (.ref 155), en P "sign_text" 374 (.ref 166), en P "MOST_HOPS" 378 (.int 30 377), en P "Name" 407 (.ref 183), en P "String" 438 (.ref 205)] 17), #[]⟩
noncomputable def o_233 (P : Params) : Obj := ⟨.none, none, (.fields #[(.int 1 0), (.int 0 0), (.ref 20), (.int 5 0), (.int 0 0), (.ref 27), (.int 14 0), (.int 0 0), (.ref 55), (.int 17 0), (.int 0 0), (.ref 67), (.int 62 0), (.int 0 0), (.ref 165), (.int 66 0), (.int 0 0), (.ref 172), (.int 70 0), (.int 0 0), (.ref 193)]), #[]⟩
noncomputable def o_234 (P : Params) : Obj := ⟨(.type "tuple"), none, (.seq #[] 0), #[]⟩
noncomputable def o_235 (P : Params) : Obj := ⟨(.type "builtin_function_or_method"), none, (.fields #[(.builtin "type.__prepare__"), (.type "type")]), #[]⟩
noncomputable def o_236 (P : Params) : Obj := ⟨(.type "dict"), none, (.dict #[en P "__module__" 415 (.str "paperhold.objects" 375), en P "__qualname__" 417 (.str "String" 416), en P "__firstlineno__" 419 (.int 70 418), en P "__init__" 428 (.ref 202), en P "__static_attributes__" 431 (.ref 203)] 5), #[]⟩
noncomputable def o_237 (P : Params) : Obj := ⟨(.type "tuple"), none, (.seq #[] 0), #[]⟩
noncomputable def o_238 (P : Params) : Obj := ⟨.none, none, (.fields #[(.int 72 0), (.int 4 0), (.ref 201)]), #[]⟩
noncomputable def o_239 (P : Params) : Obj := ⟨(.type "code"), none, (.fields #[(.str "String" 410), (.str "String" 411), (.str "/claim/cut.py" 412), (.int 70 0), (.int 0 0), (.int 0 0), (.int 0 0), (.int 0 0), (.ref 191), (.bool false), (.int 181 0), (.ref 192), .none, .none, .none, .none, (.int 413 0), (.int 70 0), (.str "/claim/cut.py" 414)]), #[]⟩
noncomputable def o_240 (P : Params) : Obj := ⟨(.type "frame"), none, .plain, #[(some (.ref 193)), (some (.ref 3)), (some (.ref 190)), none, (some (.str "paperhold.objects" 375)), none, (some (.ref 0))]⟩
noncomputable def o_241 (P : Params) : Obj := ⟨(.type "tuple"), none, (.seq #[(.bool false)] 0), #[]⟩
noncomputable def o_242 (P : Params) : Obj := ⟨(.type "tuple"), none, (.seq #[] 0), #[]⟩
noncomputable def o_243 (P : Params) : Obj := ⟨.none, none, (.fields #[]), #[]⟩
noncomputable def o_244 (P : Params) : Obj := ⟨(.type "tuple"), none, (.seq #[(.str "self" 423), (.str "octets" 424), (.str "is_hex" 425)] 0), #[]⟩
noncomputable def o_245 (P : Params) : Obj := ⟨(.type "tuple"), none, (.seq #[] 0), #[]⟩
noncomputable def o_246 (P : Params) : Obj := ⟨.none, none, fnp (nthS 0 (cbOf (nthS 10 pB))) fun a b s => ⟨"__init__", "String.__init__", a, b, s, 0, [], .none, .none, .none, .none, none, .none, .none, 0⟩, #[]⟩
noncomputable def o_247 (P : Params) : Obj := ⟨(.type "code"), none, (.fields #[(.str "__init__" 420), (.str "String.__init__" 421), (.str "/claim/cut.py" 422), (.int 72 0), (.int 3 0), (.int 0 0), (.int 0 0), (.int 3 0), (.ref 196), (.bool true), (.int 181 0), (.ref 197), .none, (.ref 198), (.ref 199), (.ref 200), (.int 426 0), (.int 72 0), (.str "/claim/cut.py" 427)]), #[]⟩
noncomputable def o_248 : Params → Obj := by
  refine (fun (_ : (?a, ?b, ?s) = fdOf (nthS 0 (cbOf (nthS 10 pB)))) P => ⟨(.type "function"), none, .func ⟨"__init__", "String.__init__", ?a, .stmts ?b, ?s, 3, [], (.ref 195), .none, .none, (.str "paperhold.objects" 375), none, (.ref 201), .none, 0⟩, #[]⟩) ?h
  case h => conv => rhs; whnf
noncomputable def o_249 (P : Params) : Obj := ⟨(.type "tuple"), none, (.seq #[(.str "is_hex" 429), (.str "octets" 430)] 0), #[]⟩
noncomputable def o_250 (P : Params) : Obj := ⟨(.type "dict"), none, (.dict #[en P "__module__" 415 (.str "paperhold.objects" 375), en P "__firstlineno__" 419 (.int 70 418), en P "__init__" 428 (.ref 202), en P "__static_attributes__" 431 (.ref 203), en P "__dict__" 433 (.ref 206), en P "__weakref__" 435 (.ref 207), en P "__doc__" 436 .none] 4), #[]⟩
noncomputable def o_251 (P : Params) : Obj := ⟨(.type "type"), none, (.cls ⟨"String", [(.type "object")], [(.ref 205), (.type "object")], 204, "String", true, [], [], false, none, false⟩), #[none, none, (some (.str "String" 408)), (some (.str "String" 416)), (some (.builtin "object.__new__")), (some (.bool true))]⟩
noncomputable def o_252 (P : Params) : Obj := ⟨(.type "getset_descriptor"), none, (.fields #[(.str "__dict__" 432), (.ref 205), (.builtin "function.__dict__"), (.builtin "function.__dict__#set")]), #[]⟩
noncomputable def o_253 (P : Params) : Obj := ⟨(.type "getset_descriptor"), none, (.fields #[(.str "__weakref__" 434), (.ref 205), (.builtin "ExceptionGroup.__weakref__"), .none]), #[]⟩
noncomputable def o_254 (P : Params) : Obj := ⟨(.type "super"), none, (.fields #[(.ref 205), (.ref 205), (.ref 205)]), #[]⟩
noncomputable def o_255 (P : Params) : Obj := ⟨(.type "builtin_function_or_method"), none, (.fields #[(.builtin "object.__init_subclass__"), (.ref 205)]), #[]⟩
noncomputable def o_256 (P : Params) : Obj := ⟨(.type "dict"), none, (.dict #[en P "__name__" 165 (.str "paperhold.objects" 375), en P "__doc__" 166 .none, en P "__package__" 167 .none, en P "__loader__" 168 (.builtin "__main__.__loader__#opaque"), en P "__spec__" 169 .none, en P "__annotations__" 170 (.ref 6), en P "__builtins__" 171 (.ref 4), en P "__file__" 173 (.str "/claim/cut.py" 172), en P "__cached__" 174 .none, en P "_wall" 193 (.ref 21), en P "PaperError" 235 (.ref 46), en P "DraftFault" 251 (.ref 59), en P "Decimal" 367 (.ref 155), en P "sign_text" 374 (.ref 166), en P "MOST_HOPS" 378 (.int 30 377), en P "Name" 407 (.ref 183), en P "String" 438 (.ref 205), en P "Stream" 469 (.ref 226)] 18), #[]⟩
noncomputable def o_257 (P : Params) : Obj := ⟨.none, none, (.fields #[(.int 1 0), (.int 0 0), (.ref 20), (.int 5 0), (.int 0 0), (.ref 27), (.int 14 0), (.int 0 0), (.ref 55), (.int 17 0), (.int 0 0), (.ref 67), (.int 62 0), (.int 0 0), (.ref 165), (.int 66 0), (.int 0 0), (.ref 172), (.int 70 0), (.int 0 0), (.ref 193), (.int 75 0), (.int 0 0), (.ref 215)]), #[]⟩
noncomputable def o_258 (P : Params) : Obj := ⟨(.type "tuple"), none, (.seq #[] 0), #[]⟩
noncomputable def o_259 (P : Params) : Obj := ⟨(.type "builtin_function_or_method"), none, (.fields #[(.builtin "type.__prepare__"), (.type "type")]), #[]⟩
noncomputable def o_260 (P : Params) : Obj := ⟨(.type "dict"), none, (.dict #[en P "__module__" 446 (.str "paperhold.objects" 375), en P "__qualname__" 448 (.str "Stream" 447), en P "__firstlineno__" 450 (.int 75 449), en P "__init__" 459 (.ref 223), en P "__static_attributes__" 462 (.ref 224)] 5), #[]⟩
noncomputable def o_261 (P : Params) : Obj := ⟨(.type "tuple"), none, (.seq #[] 0), #[]⟩
noncomputable def o_262 (P : Params) : Obj := ⟨.none, none, (.fields #[(.int 77 0), (.int 4 0), (.ref 222)]), #[]⟩
noncomputable def o_263 (P : Params) : Obj := ⟨(.type "code"), none, (.fields #[(.str "Stream" 441), (.str "Stream" 442), (.str "/claim/cut.py" 443), (.int 75 0), (.int 0 0), (.int 0 0), (.int 0 0), (.int 0 0), (.ref 213), (.bool false), (.int 181 0), (.ref 214), .none, .none, .none, .none, (.int 444 0), (.int 75 0), (.str "/claim/cut.py" 445)]), #[]⟩
noncomputable def o_264 (P : Params) : Obj := ⟨(.type "frame"), none, .plain, #[(some (.ref 215)), (some (.ref 3)), (some (.ref 212)), none, (some (.str "paperhold.objects" 375)), none, (some (.ref 0))]⟩
noncomputable def o_265 (P : Params) : Obj := ⟨(.type "tuple"), none, (.seq #[] 0), #[]⟩
noncomputable def o_266 (P : Params) : Obj := ⟨.none, none, (.fields #[]), #[]⟩
noncomputable def o_267 (P : Params) : Obj := ⟨(.type "tuple"), none, (.seq #[(.str "self" 454), (.str "head" 455), (.str "octets" 456)] 0), #[]⟩
noncomputable def o_268 (P : Params) : Obj := ⟨(.type "tuple"), none, (.seq #[] 0), #[]⟩
noncomputable def o_269 (P : Params) : Obj := ⟨.none, none, fnp (nthS 0 (cbOf (nthS 11 pB))) fun a b s => ⟨"__init__", "Stream.__init__", a, b, s, 0, [], .none, .none, .none, .none, none, .none, .none, 0⟩, #[]⟩
noncomputable def o_270 (P : Params) : Obj := ⟨(.type "code"), none, (.fields #[(.str "__init__" 451), (.str "Stream.__init__" 452), (.str "/claim/cut.py" 453), (.int 77 0), (.int 3 0), (.int 0 0), (.int 0 0), (.int 3 0), (.ref 217), (.bool true), (.int 181 0), (.ref 218), .none, (.ref 219), (.ref 220), (.ref 221), (.int 457 0), (.int 77 0), (.str "/claim/cut.py" 458)]), #[]⟩
noncomputable def o_271 : Params → Obj := by
  refine (fun (_ : (?a, ?b, ?s) = fdOf (nthS 0 (cbOf (nthS 11 pB)))) P => ⟨(.type "function"), none, .func ⟨"__init__", "Stream.__init__", ?a, .stmts ?b, ?s, 3, [], .none, .none, .none, (.str "paperhold.objects" 375), none, (.ref 222), .none, 0⟩, #[]⟩) ?h
  case h => conv => rhs; whnf
noncomputable def o_272 (P : Params) : Obj := ⟨(.type "tuple"), none, (.seq #[(.str "head" 460), (.str "octets" 461)] 0), #[]⟩
noncomputable def o_273 (P : Params) : Obj := ⟨(.type "dict"), none, (.dict #[en P "__module__" 446 (.str "paperhold.objects" 375), en P "__firstlineno__" 450 (.int 75 449), en P "__init__" 459 (.ref 223), en P "__static_attributes__" 462 (.ref 224), en P "__dict__" 464 (.ref 227), en P "__weakref__" 466 (.ref 228), en P "__doc__" 467 .none] 4), #[]⟩
noncomputable def o_274 (P : Params) : Obj := ⟨(.type "type"), none, (.cls ⟨"Stream", [(.type "object")], [(.ref 226), (.type "object")], 225, "Stream", true, [], [], false, none, false⟩), #[none, none, (some (.str "Stream" 439)), (some (.str "Stream" 447)), (some (.builtin "object.__new__")), (some (.bool true))]⟩
noncomputable def o_275 (P : Params) : Obj := ⟨(.type "getset_descriptor"), none, (.fields #[(.str "__dict__" 463), (.ref 226), (.builtin "function.__dict__"), (.builtin "function.__dict__#set")]), #[]⟩
noncomputable def o_276 (P : Params) : Obj := ⟨(.type "getset_descriptor"), none, (.fields #[(.str "__weakref__" 465), (.ref 226), (.builtin "ExceptionGroup.__weakref__"), .none]), #[]⟩
noncomputable def o_277 (P : Params) : Obj := ⟨(.type "super"), none, (.fields #[(.ref 226), (.ref 226), (.ref 226)]), #[]⟩
noncomputable def o_278 (P : Params) : Obj := ⟨(.type "builtin_function_or_method"), none, (.fields #[(.builtin "object.__init_subclass__"), (.ref 226)]), #[]⟩
noncomputable def o_279 (P : Params) : Obj := ⟨(.type "dict"), none, (.dict #[en P "__name__" 165 (.str "paperhold.objects" 375), en P "__doc__" 166 .none, en P "__package__" 167 .none, en P "__loader__" 168 (.builtin "__main__.__loader__#opaque"), en P "__spec__" 169 .none, en P "__annotations__" 170 (.ref 6), en P "__builtins__" 171 (.ref 4), en P "__file__" 173 (.str "/claim/cut.py" 172), en P "__cached__" 174 .none, en P "_wall" 193 (.ref 21), en P "PaperError" 235 (.ref 46), en P "DraftFault" 251 (.ref 59), en P "Decimal" 367 (.ref 155), en P "sign_text" 374 (.ref 166), en P "MOST_HOPS" 378 (.int 30 377), en P "Name" 407 (.ref 183), en P "String" 438 (.ref 205), en P "Stream" 469 (.ref 226), en P "Reference" 507 (.ref 254), en P "kind_of" 514 (.ref 265), en P "told_plain" 522 (.ref 272), en P "told" 528 (.ref 277), en P "told_objects" 529 (.ref 277)] 23), #[]⟩
noncomputable def o_280 (P : Params) : Obj := ⟨.none, none, (.fields #[(.int 1 0), (.int 0 0), (.ref 20), (.int 5 0), (.int 0 0), (.ref 27), (.int 14 0), (.int 0 0), (.ref 55), (.int 17 0), (.int 0 0), (.ref 67), (.int 62 0), (.int 0 0), (.ref 165), (.int 66 0), (.int 0 0), (.ref 172), (.int 70 0), (.int 0 0), (.ref 193), (.int 75 0), (.int 0 0), (.ref 215), (.int 80 0), (.int 0 0), (.ref 236), (.int 88 0), (.int 0 0), (.ref 264), (.int 110 0), (.int 0 0), (.ref 271), (.int 124 0), (.int 0 0), (.ref 276)]), #[]⟩
noncomputable def o_281 (P : Params) : Obj := ⟨(.type "tuple"), none, (.seq #[] 0), #[]⟩
noncomputable def o_282 (P : Params) : Obj := ⟨(.type "builtin_function_or_method"), none, (.fields #[(.builtin "type.__prepare__"), (.type "type")]), #[]⟩
noncomputable def o_283 (P : Params) : Obj := ⟨(.type "dict"), none, (.dict #[en P "__module__" 477 (.str "paperhold.objects" 375), en P "__qualname__" 479 (.str "Reference" 478), en P "__firstlineno__" 481 (.int 80 480), en P "__init__" 490 (.ref 244), en P "pair" 497 (.ref 251), en P "__static_attributes__" 500 (.ref 252)] 6), #[]⟩
noncomputable def o_284 (P : Params) : Obj := ⟨(.type "tuple"), none, (.seq #[] 0), #[]⟩
noncomputable def o_285 (P : Params) : Obj := ⟨.none, none, (.fields #[(.int 82 0), (.int 4 0), (.ref 243), (.int 86 0), (.int 4 0), (.ref 250)]), #[]⟩
noncomputable def o_286 (P : Params) : Obj := ⟨(.type "code"), none, (.fields #[(.str "Reference" 472), (.str "Reference" 473), (.str "/claim/cut.py" 474), (.int 80 0), (.int 0 0), (.int 0 0), (.int 0 0), (.int 0 0), (.ref 234), (.bool false), (.int 181 0), (.ref 235), .none, .none, .none, .none, (.int 475 0), (.int 80 0), (.str "/claim/cut.py" 476)]), #[]⟩
noncomputable def o_287 (P : Params) : Obj := ⟨(.type "frame"), none, .plain, #[(some (.ref 236)), (some (.ref 3)), (some (.ref 233)), none, (some (.str "paperhold.objects" 375)), none, (some (.ref 0))]⟩
noncomputable def o_288 (P : Params) : Obj := ⟨(.type "tuple"), none, (.seq #[] 0), #[]⟩
noncomputable def o_289 (P : Params) : Obj := ⟨.none, none, (.fields #[]), #[]⟩
noncomputable def o_290 (P : Params) : Obj := ⟨(.type "tuple"), none, (.seq #[(.str "self" 485), (.str "number" 486), (.str "generation" 487)] 0), #[]⟩
noncomputable def o_291 (P : Params) : Obj := ⟨(.type "tuple"), none, (.seq #[] 0), #[]⟩
noncomputable def o_292 (P : Params) : Obj := ⟨.none, none, fnp (nthS 0 (cbOf (nthS 12 pB))) fun a b s => ⟨"__init__", "Reference.__init__", a, b, s, 0, [], .none, .none, .none, .none, none, .none, .none, 0⟩, #[]⟩
noncomputable def o_293 (P : Params) : Obj := ⟨(.type "code"), none, (.fields #[(.str "__init__" 482), (.str "Reference.__init__" 483), (.str "/claim/cut.py" 484), (.int 82 0), (.int 3 0), (.int 0 0), (.int 0 0), (.int 3 0), (.ref 238), (.bool true), (.int 181 0), (.ref 239), .none, (.ref 240), (.ref 241), (.ref 242), (.int 488 0), (.int 82 0), (.str "/claim/cut.py" 489)]), #[]⟩
noncomputable def o_294 : Params → Obj := by
  refine (fun (_ : (?a, ?b, ?s) = fdOf (nthS 0 (cbOf (nthS 12 pB)))) P => ⟨(.type "function"), none, .func ⟨"__init__", "Reference.__init__", ?a, .stmts ?b, ?s, 3, [], .none, .none, .none, (.str "paperhold.objects" 375), none, (.ref 243), .none, 0⟩, #[]⟩) ?h
  case h => conv => rhs; whnf
noncomputable def o_295 (P : Params) : Obj := ⟨(.type "tuple"), none, (.seq #[] 0), #[]⟩
noncomputable def o_296 (P : Params) : Obj := ⟨.none, none, (.fields #[]), #[]⟩
noncomputable def o_297 (P : Params) : Obj := ⟨(.type "tuple"), none, (.seq #[(.str "self" 494)] 0), #[]⟩
noncomputable def o_298 (P : Params) : Obj := ⟨(.type "tuple"), none, (.seq #[] 0), #[]⟩
noncomputable def o_299 (P : Params) : Obj := ⟨.none, none, fnp (nthS 1 (cbOf (nthS 12 pB))) fun a b s => ⟨"pair", "Reference.pair", a, b, s, 0, [], .none, .none, .none, .none, none, .none, .none, 0⟩, #[]⟩
noncomputable def o_300 (P : Params) : Obj := ⟨(.type "code"), none, (.fields #[(.str "pair" 491), (.str "Reference.pair" 492), (.str "/claim/cut.py" 493), (.int 86 0), (.int 1 0), (.int 0 0), (.int 0 0), (.int 3 0), (.ref 245), (.bool true), (.int 181 0), (.ref 246), .none, (.ref 247), (.ref 248), (.ref 249), (.int 495 0), (.int 86 0), (.str "/claim/cut.py" 496)]), #[]⟩
noncomputable def o_301 : Params → Obj := by
  refine (fun (_ : (?a, ?b, ?s) = fdOf (nthS 1 (cbOf (nthS 12 pB)))) P => ⟨(.type "function"), none, .func ⟨"pair", "Reference.pair", ?a, .stmts ?b, ?s, 3, [], .none, .none, .none, (.str "paperhold.objects" 375), none, (.ref 250), .none, 0⟩, #[]⟩) ?h
  case h => conv => rhs; whnf
noncomputable def o_302 (P : Params) : Obj := ⟨(.type "tuple"), none, (.seq #[(.str "generation" 498), (.str "number" 499)] 0), #[]⟩
noncomputable def o_303 (P : Params) : Obj := ⟨(.type "dict"), none, (.dict #[en P "__module__" 477 (.str "paperhold.objects" 375), en P "__firstlineno__" 481 (.int 80 480), en P "__init__" 490 (.ref 244), en P "pair" 497 (.ref 251), en P "__static_attributes__" 500 (.ref 252), en P "__dict__" 502 (.ref 255), en P "__weakref__" 504 (.ref 256), en P "__doc__" 505 .none] 4), #[]⟩
noncomputable def o_304 (P : Params) : Obj := ⟨(.type "type"), none, (.cls ⟨"Reference", [(.type "object")], [(.ref 254), (.type "object")], 253, "Reference", true, [], [], false, none, false⟩), #[none, none, (some (.str "Reference" 470)), (some (.str "Reference" 478)), (some (.builtin "object.__new__")), (some (.bool true))]⟩
noncomputable def o_305 (P : Params) : Obj := ⟨(.type "getset_descriptor"), none, (.fields #[(.str "__dict__" 501), (.ref 254), (.builtin "function.__dict__"), (.builtin "function.__dict__#set")]), #[]⟩
noncomputable def o_306 (P : Params) : Obj := ⟨(.type "getset_descriptor"), none, (.fields #[(.str "__weakref__" 503), (.ref 254), (.builtin "ExceptionGroup.__weakref__"), .none]), #[]⟩
noncomputable def o_307 (P : Params) : Obj := ⟨(.type "super"), none, (.fields #[(.ref 254), (.ref 254), (.ref 254)]), #[]⟩
noncomputable def o_308 (P : Params) : Obj := ⟨(.type "builtin_function_or_method"), none, (.fields #[(.builtin "object.__init_subclass__"), (.ref 254)]), #[]⟩
noncomputable def o_309 (P : Params) : Obj := ⟨(.type "tuple"), none, (.seq #[] 0), #[]⟩
noncomputable def o_310 (P : Params) : Obj := ⟨.none, none, (.fields #[]), #[]⟩
noncomputable def o_311 (P : Params) : Obj := ⟨(.type "tuple"), none, (.seq #[(.str "value" 511)] 0), #[]⟩
noncomputable def o_312 (P : Params) : Obj := ⟨(.type "tuple"), none, (.seq #[] 0), #[]⟩
noncomputable def o_313 (P : Params) : Obj := ⟨.none, none, fnp (nthS 13 pB) fun a b s => ⟨"kind_of", "kind_of", a, b, s, 0, [], .none, .none, .none, .none, none, .none, .none, 0⟩, #[]⟩
noncomputable def o_314 (P : Params) : Obj := ⟨(.type "code"), none, (.fields #[(.str "kind_of" 508), (.str "kind_of" 509), (.str "/claim/cut.py" 510), (.int 88 0), (.int 1 0), (.int 0 0), (.int 0 0), (.int 3 0), (.ref 259), (.bool true), (.int 181 0), (.ref 260), .none, (.ref 261), (.ref 262), (.ref 263), (.int 512 0), (.int 88 0), (.str "/claim/cut.py" 513)]), #[]⟩
noncomputable def o_315 : Params → Obj := by
  refine (fun (_ : (?a, ?b, ?s) = fdOf (nthS 13 pB)) P => ⟨(.type "function"), none, .func ⟨"kind_of", "kind_of", ?a, .stmts ?b, ?s, 3, [], .none, .none, .none, (.str "paperhold.objects" 375), none, (.ref 264), .none, 0⟩, #[]⟩) ?h
  case h => conv => rhs; whnf
noncomputable def o_316 (P : Params) : Obj := ⟨(.type "tuple"), none, (.seq #[] 0), #[]⟩
noncomputable def o_317 (P : Params) : Obj := ⟨.none, none, (.fields #[]), #[]⟩
noncomputable def o_318 (P : Params) : Obj := ⟨(.type "tuple"), none, (.seq #[(.str "kind" 518), (.str "value" 519)] 0), #[]⟩
noncomputable def o_319 (P : Params) : Obj := ⟨(.type "tuple"), none, (.seq #[] 0), #[]⟩
noncomputable def o_320 (P : Params) : Obj := ⟨.none, none, fnp (nthS 14 pB) fun a b s => ⟨"told_plain", "told_plain", a, b, s, 0, [], .none, .none, .none, .none, none, .none, .none, 0⟩, #[]⟩
noncomputable def o_321 (P : Params) : Obj := ⟨(.type "code"), none, (.fields #[(.str "told_plain" 515), (.str "told_plain" 516), (.str "/claim/cut.py" 517), (.int 110 0), (.int 2 0), (.int 0 0), (.int 0 0), (.int 3 0), (.ref 266), (.bool true), (.int 181 0), (.ref 267), .none, (.ref 268), (.ref 269), (.ref 270), (.int 520 0), (.int 110 0), (.str "/claim/cut.py" 521)]), #[]⟩
noncomputable def o_322 : Params → Obj := by
  refine (fun (_ : (?a, ?b, ?s) = fdOf (nthS 14 pB)) P => ⟨(.type "function"), none, .func ⟨"told_plain", "told_plain", ?a, .stmts ?b, ?s, 3, [], .none, .none, .none, (.str "paperhold.objects" 375), none, (.ref 271), .none, 0⟩, #[]⟩) ?h
  case h => conv => rhs; whnf
noncomputable def o_323 (P : Params) : Obj := ⟨(.type "tuple"), none, (.seq #[] 0), #[]⟩
noncomputable def o_324 (P : Params) : Obj := ⟨.none, none, (.fields #[]), #[]⟩
noncomputable def o_325 (P : Params) : Obj := ⟨.none, none, fnp (nthS 15 pB) fun a b s => ⟨"told", "told", a, b, s, 0, [], .none, .none, .none, .none, none, .none, .none, 0⟩, #[]⟩
noncomputable def o_326 (P : Params) : Obj := ⟨(.type "code"), none, (.fields #[(.str "told" 523), (.str "told" 524), (.str "/claim/cut.py" 525), (.int 124 0), (.int 1 0), (.int 0 0), (.int 0 0), (.int 3 0), (.ref 273), (.bool true), (.int 181 0), (.ref 274), .none, .none, .none, (.ref 275), (.int 526 0), (.int 124 0), (.str "/claim/cut.py" 527)]), #[]⟩
noncomputable def o_327 : Params → Obj := by
  refine (fun (_ : (?a, ?b, ?s) = fdOf (nthS 15 pB)) P => ⟨(.type "function"), none, .func ⟨"told", "told", ?a, .stmts ?b, ?s, 3, [], .none, .none, .none, (.str "paperhold.objects" 375), none, (.ref 276), .none, 0⟩, #[]⟩) ?h
  case h => conv => rhs; whnf
noncomputable def o_328 (P : Params) : Obj := ⟨(.type "dict"), none, (.dict #[en P "__name__" 165 (.str "paperhold.objects" 375), en P "__doc__" 166 .none, en P "__package__" 167 .none, en P "__loader__" 168 (.builtin "__main__.__loader__#opaque"), en P "__spec__" 169 .none, en P "__annotations__" 170 (.ref 6), en P "__builtins__" 171 (.ref 4), en P "__file__" 173 (.str "/claim/cut.py" 172), en P "__cached__" 174 .none, en P "_wall" 193 (.ref 21), en P "PaperError" 235 (.ref 46), en P "DraftFault" 251 (.ref 59), en P "Decimal" 367 (.ref 155), en P "sign_text" 374 (.ref 166), en P "MOST_HOPS" 378 (.int 30 377), en P "Name" 407 (.ref 183), en P "String" 438 (.ref 205), en P "Stream" 469 (.ref 226), en P "Reference" 507 (.ref 254), en P "kind_of" 514 (.ref 265), en P "told_plain" 522 (.ref 272), en P "told" 528 (.ref 277), en P "told_objects" 529 (.ref 277), en P "Lookup" 581 (.ref 309)] 24), #[]⟩
noncomputable def o_329 (P : Params) : Obj := ⟨.none, none, (.fields #[(.int 1 0), (.int 0 0), (.ref 20), (.int 5 0), (.int 0 0), (.ref 27), (.int 14 0), (.int 0 0), (.ref 55), (.int 17 0), (.int 0 0), (.ref 67), (.int 62 0), (.int 0 0), (.ref 165), (.int 66 0), (.int 0 0), (.ref 172), (.int 70 0), (.int 0 0), (.ref 193), (.int 75 0), (.int 0 0), (.ref 215), (.int 80 0), (.int 0 0), (.ref 236), (.int 88 0), (.int 0 0), (.ref 264), (.int 110 0), (.int 0 0), (.ref 271), (.int 124 0), (.int 0 0), (.ref 276), (.int 134 0), (.int 0 0), (.ref 283)]), #[]⟩
noncomputable def o_330 (P : Params) : Obj := ⟨(.type "tuple"), none, (.seq #[] 0), #[]⟩
noncomputable def o_331 (P : Params) : Obj := ⟨(.type "builtin_function_or_method"), none, (.fields #[(.builtin "type.__prepare__"), (.type "type")]), #[]⟩
noncomputable def o_332 (P : Params) : Obj := ⟨(.type "dict"), none, (.dict #[en P "__module__" 537 (.str "paperhold.objects" 375), en P "__qualname__" 539 (.str "Lookup" 538), en P "__firstlineno__" 541 (.int 134 540), en P "__init__" 550 (.ref 292), en P "fetch" 562 (.ref 299), en P "get" 571 (.ref 306), en P "__static_attributes__" 574 (.ref 307)] 7), #[]⟩
noncomputable def o_333 (P : Params) : Obj := ⟨(.type "tuple"), none, (.seq #[] 0), #[]⟩
noncomputable def o_334 (P : Params) : Obj := ⟨.none, none, (.fields #[(.int 136 0), (.int 4 0), (.ref 291), (.int 140 0), (.int 4 0), (.ref 298), (.int 151 0), (.int 4 0), (.ref 305)]), #[]⟩
noncomputable def o_335 (P : Params) : Obj := ⟨(.type "code"), none, (.fields #[(.str "Lookup" 532), (.str "Lookup" 533), (.str "/claim/cut.py" 534), (.int 134 0), (.int 0 0), (.int 0 0), (.int 0 0), (.int 0 0), (.ref 281), (.bool false), (.int 181 0), (.ref 282), .none, .none, .none, .none, (.int 535 0), (.int 134 0), (.str "/claim/cut.py" 536)]), #[]⟩
noncomputable def o_336 (P : Params) : Obj := ⟨(.type "frame"), none, .plain, #[(some (.ref 283)), (some (.ref 3)), (some (.ref 280)), none, (some (.str "paperhold.objects" 375)), none, (some (.ref 0))]⟩
noncomputable def o_337 (P : Params) : Obj := ⟨(.type "tuple"), none, (.seq #[.none, .none] 0), #[]⟩
noncomputable def o_338 (P : Params) : Obj := ⟨(.type "tuple"), none, (.seq #[] 0), #[]⟩
noncomputable def o_339 (P : Params) : Obj := ⟨.none, none, (.fields #[]), #[]⟩
noncomputable def o_340 (P : Params) : Obj := ⟨(.type "tuple"), none, (.seq #[(.str "self" 545), (.str "table" 546), (.str "trailer" 547)] 0), #[]⟩
noncomputable def o_341 (P : Params) : Obj := ⟨(.type "tuple"), none, (.seq #[] 0), #[]⟩
noncomputable def o_342 (P : Params) : Obj := ⟨.none, none, fnp (nthS 0 (cbOf (nthS 17 pB))) fun a b s => ⟨"__init__", "Lookup.__init__", a, b, s, 0, [], .none, .none, .none, .none, none, .none, .none, 0⟩, #[]⟩
noncomputable def o_343 (P : Params) : Obj := ⟨(.type "code"), none, (.fields #[(.str "__init__" 542), (.str "Lookup.__init__" 543), (.str "/claim/cut.py" 544), (.int 136 0), (.int 3 0), (.int 0 0), (.int 0 0), (.int 3 0), (.ref 286), (.bool true), (.int 181 0), (.ref 287), .none, (.ref 288), (.ref 289), (.ref 290), (.int 548 0), (.int 136 0), (.str "/claim/cut.py" 549)]), #[]⟩
noncomputable def o_344 : Params → Obj := by
  refine (fun (_ : (?a, ?b, ?s) = fdOf (nthS 0 (cbOf (nthS 17 pB)))) P => ⟨(.type "function"), none, .func ⟨"__init__", "Lookup.__init__", ?a, .stmts ?b, ?s, 3, [], (.ref 285), .none, .none, (.str "paperhold.objects" 375), none, (.ref 291), .none, 0⟩, #[]⟩) ?h
  case h => conv => rhs; whnf
noncomputable def o_345 (P : Params) : Obj := ⟨(.type "tuple"), none, (.seq #[] 0), #[]⟩
noncomputable def o_346 (P : Params) : Obj := ⟨.none, none, (.fields #[]), #[]⟩
noncomputable def o_347 (P : Params) : Obj := ⟨(.type "tuple"), none, (.seq #[(.str "self" 554), (.str "value" 555), (.str "here" 556), (.str "hop" 557), (.str "generation" 558), (.str "found" 559)] 0), #[]⟩
noncomputable def o_348 (P : Params) : Obj := ⟨(.type "tuple"), none, (.seq #[] 0), #[]⟩
noncomputable def o_349 (P : Params) : Obj := ⟨.none, none, fnp (nthS 1 (cbOf (nthS 17 pB))) fun a b s => ⟨"fetch", "Lookup.fetch", a, b, s, 0, [], .none, .none, .none, .none, none, .none, .none, 0⟩, #[]⟩
noncomputable def o_350 (P : Params) : Obj := ⟨(.type "code"), none, (.fields #[(.str "fetch" 551), (.str "Lookup.fetch" 552), (.str "/claim/cut.py" 553), (.int 140 0), (.int 2 0), (.int 0 0), (.int 0 0), (.int 3 0), (.ref 293), (.bool true), (.int 181 0), (.ref 294), .none, (.ref 295), (.ref 296), (.ref 297), (.int 560 0), (.int 140 0), (.str "/claim/cut.py" 561)]), #[]⟩
noncomputable def o_351 : Params → Obj := by
  refine (fun (_ : (?a, ?b, ?s) = fdOf (nthS 1 (cbOf (nthS 17 pB)))) P => ⟨(.type "function"), none, .func ⟨"fetch", "Lookup.fetch", ?a, .stmts ?b, ?s, 3, [], .none, .none, .none, (.str "paperhold.objects" 375), none, (.ref 298), .none, 0⟩, #[]⟩) ?h
  case h => conv => rhs; whnf
noncomputable def o_352 (P : Params) : Obj := ⟨(.type "tuple"), none, (.seq #[] 0), #[]⟩
noncomputable def o_353 (P : Params) : Obj := ⟨.none, none, (.fields #[]), #[]⟩
noncomputable def o_354 (P : Params) : Obj := ⟨(.type "tuple"), none, (.seq #[(.str "self" 566), (.str "head" 567), (.str "key" 568)] 0), #[]⟩
noncomputable def o_355 (P : Params) : Obj := ⟨(.type "tuple"), none, (.seq #[] 0), #[]⟩
noncomputable def o_356 (P : Params) : Obj := ⟨.none, none, fnp (nthS 2 (cbOf (nthS 17 pB))) fun a b s => ⟨"get", "Lookup.get", a, b, s, 0, [], .none, .none, .none, .none, none, .none, .none, 0⟩, #[]⟩
noncomputable def o_357 (P : Params) : Obj := ⟨(.type "code"), none, (.fields #[(.str "get" 563), (.str "Lookup.get" 564), (.str "/claim/cut.py" 565), (.int 151 0), (.int 3 0), (.int 0 0), (.int 0 0), (.int 3 0), (.ref 300), (.bool true), (.int 181 0), (.ref 301), .none, (.ref 302), (.ref 303), (.ref 304), (.int 569 0), (.int 151 0), (.str "/claim/cut.py" 570)]), #[]⟩
noncomputable def o_358 : Params → Obj := by
  refine (fun (_ : (?a, ?b, ?s) = fdOf (nthS 2 (cbOf (nthS 17 pB)))) P => ⟨(.type "function"), none, .func ⟨"get", "Lookup.get", ?a, .stmts ?b, ?s, 3, [], .none, .none, .none, (.str "paperhold.objects" 375), none, (.ref 305), .none, 0⟩, #[]⟩) ?h
  case h => conv => rhs; whnf
noncomputable def o_359 (P : Params) : Obj := ⟨(.type "tuple"), none, (.seq #[(.str "table" 572), (.str "trailer" 573)] 0), #[]⟩
noncomputable def o_360 (P : Params) : Obj := ⟨(.type "dict"), none, (.dict #[en P "__module__" 537 (.str "paperhold.objects" 375), en P "__firstlineno__" 541 (.int 134 540), en P "__init__" 550 (.ref 292), en P "fetch" 562 (.ref 299), en P "get" 571 (.ref 306), en P "__static_attributes__" 574 (.ref 307), en P "__dict__" 576 (.ref 310), en P "__weakref__" 578 (.ref 311), en P "__doc__" 579 .none] 4), #[]⟩
noncomputable def o_361 (P : Params) : Obj := ⟨(.type "type"), none, (.cls ⟨"Lookup", [(.type "object")], [(.ref 309), (.type "object")], 308, "Lookup", true, [], [], false, none, false⟩), #[none, none, (some (.str "Lookup" 530)), (some (.str "Lookup" 538)), (some (.builtin "object.__new__")), (some (.bool true))]⟩
noncomputable def o_362 (P : Params) : Obj := ⟨(.type "getset_descriptor"), none, (.fields #[(.str "__dict__" 575), (.ref 309), (.builtin "function.__dict__"), (.builtin "function.__dict__#set")]), #[]⟩
noncomputable def o_363 (P : Params) : Obj := ⟨(.type "getset_descriptor"), none, (.fields #[(.str "__weakref__" 577), (.ref 309), (.builtin "ExceptionGroup.__weakref__"), .none]), #[]⟩
noncomputable def o_364 (P : Params) : Obj := ⟨(.type "super"), none, (.fields #[(.ref 309), (.ref 309), (.ref 309)]), #[]⟩
noncomputable def o_365 (P : Params) : Obj := ⟨(.type "builtin_function_or_method"), none, (.fields #[(.builtin "object.__init_subclass__"), (.ref 309)]), #[]⟩
noncomputable def o_366 (P : Params) : Obj := ⟨(.type "dict"), none, (.dict #[en P "__name__" 165 (.str "paperhold.objects" 375), en P "__doc__" 166 .none, en P "__package__" 167 .none, en P "__loader__" 168 (.builtin "__main__.__loader__#opaque"), en P "__spec__" 169 .none, en P "__annotations__" 170 (.ref 6), en P "__builtins__" 171 (.ref 4), en P "__file__" 173 (.str "/claim/cut.py" 172), en P "__cached__" 174 .none, en P "_wall" 193 (.ref 21), en P "PaperError" 235 (.ref 46), en P "DraftFault" 251 (.ref 59), en P "Decimal" 367 (.ref 155), en P "sign_text" 374 (.ref 166), en P "MOST_HOPS" 378 (.int 30 377), en P "Name" 407 (.ref 183), en P "String" 438 (.ref 205), en P "Stream" 469 (.ref 226), en P "Reference" 507 (.ref 254), en P "kind_of" 514 (.ref 265), en P "told_plain" 522 (.ref 272), en P "told" 528 (.ref 277), en P "told_objects" 529 (.ref 277), en P "Lookup" 581 (.ref 309), en P "Shelf" 644 (.ref 363)] 25), #[]⟩
noncomputable def o_367 (P : Params) : Obj := ⟨.none, none, (.fields #[(.int 1 0), (.int 0 0), (.ref 20), (.int 5 0), (.int 0 0), (.ref 27), (.int 14 0), (.int 0 0), (.ref 55), (.int 17 0), (.int 0 0), (.ref 67), (.int 62 0), (.int 0 0), (.ref 165), (.int 66 0), (.int 0 0), (.ref 172), (.int 70 0), (.int 0 0), (.ref 193), (.int 75 0), (.int 0 0), (.ref 215), (.int 80 0), (.int 0 0), (.ref 236), (.int 88 0), (.int 0 0), (.ref 264), (.int 110 0), (.int 0 0), (.ref 271), (.int 124 0), (.int 0 0), (.ref 276), (.int 134 0), (.int 0 0), (.ref 283), (.int 153 0), (.int 0 0), (.ref 319)]), #[]⟩
noncomputable def o_368 (P : Params) : Obj := ⟨(.type "type"), none, (.cls ⟨"Lookup", [(.type "object")], [(.ref 309), (.type "object")], 308, "Lookup", true, [], [(.ref 363)], false, none, false⟩), #[none, none, (some (.str "Lookup" 530)), (some (.str "Lookup" 538)), (some (.builtin "object.__new__")), (some (.bool true))]⟩
noncomputable def o_369 (P : Params) : Obj := ⟨(.type "tuple"), none, (.seq #[(.ref 309)] 0), #[]⟩
noncomputable def o_370 (P : Params) : Obj := ⟨(.type "builtin_function_or_method"), none, (.fields #[(.builtin "type.__prepare__"), (.type "type")]), #[]⟩
noncomputable def o_371 (P : Params) : Obj := ⟨(.type "dict"), none, (.dict #[en P "__module__" 589 (.str "paperhold.objects" 375), en P "__qualname__" 591 (.str "Shelf" 590), en P "__firstlineno__" 593 (.int 153 592), en P "put" 603 (.ref 327), en P "add" 611 (.ref 334), en P "drop" 619 (.ref 341), en P "numbers" 626 (.ref 348), en P "root" 634 (.ref 355), en P "told" 640 (.ref 360), en P "__static_attributes__" 641 (.ref 361)] 10), #[]⟩
noncomputable def o_372 (P : Params) : Obj := ⟨(.type "tuple"), none, (.seq #[] 0), #[]⟩
noncomputable def o_373 (P : Params) : Obj := ⟨.none, none, (.fields #[(.int 155 0), (.int 4 0), (.ref 326), (.int 158 0), (.int 4 0), (.ref 333), (.int 161 0), (.int 4 0), (.ref 340), (.int 164 0), (.int 4 0), (.ref 347), (.int 167 0), (.int 4 0), (.ref 354), (.int 171 0), (.int 4 0), (.ref 359)]), #[]⟩
noncomputable def o_374 (P : Params) : Obj := ⟨(.type "code"), none, (.fields #[(.str "Shelf" 584), (.str "Shelf" 585), (.str "/claim/cut.py" 586), (.int 153 0), (.int 0 0), (.int 0 0), (.int 0 0), (.int 0 0), (.ref 317), (.bool false), (.int 181 0), (.ref 318), .none, .none, .none, .none, (.int 587 0), (.int 153 0), (.str "/claim/cut.py" 588)]), #[]⟩
noncomputable def o_375 (P : Params) : Obj := ⟨(.type "frame"), none, .plain, #[(some (.ref 319)), (some (.ref 3)), (some (.ref 316)), none, (some (.str "paperhold.objects" 375)), none, (some (.ref 0))]⟩
noncomputable def o_376 (P : Params) : Obj := ⟨(.type "tuple"), none, (.seq #[] 0), #[]⟩
noncomputable def o_377 (P : Params) : Obj := ⟨.none, none, (.fields #[]), #[]⟩
noncomputable def o_378 (P : Params) : Obj := ⟨(.type "tuple"), none, (.seq #[(.str "self" 597), (.str "number" 598), (.str "generation" 599), (.str "value" 600)] 0), #[]⟩
noncomputable def o_379 (P : Params) : Obj := ⟨(.type "tuple"), none, (.seq #[] 0), #[]⟩
noncomputable def o_380 (P : Params) : Obj := ⟨.none, none, fnp (nthS 0 (cbOf (nthS 18 pB))) fun a b s => ⟨"put", "Shelf.put", a, b, s, 0, [], .none, .none, .none, .none, none, .none, .none, 0⟩, #[]⟩
noncomputable def o_381 (P : Params) : Obj := ⟨(.type "code"), none, (.fields #[(.str "put" 594), (.str "Shelf.put" 595), (.str "/claim/cut.py" 596), (.int 155 0), (.int 4 0), (.int 0 0), (.int 0 0), (.int 3 0), (.ref 321), (.bool true), (.int 181 0), (.ref 322), .none, (.ref 323), (.ref 324), (.ref 325), (.int 601 0), (.int 155 0), (.str "/claim/cut.py" 602)]), #[]⟩
noncomputable def o_382 : Params → Obj := by
  refine (fun (_ : (?a, ?b, ?s) = fdOf (nthS 0 (cbOf (nthS 18 pB)))) P => ⟨(.type "function"), none, .func ⟨"put", "Shelf.put", ?a, .stmts ?b, ?s, 3, [], .none, .none, .none, (.str "paperhold.objects" 375), none, (.ref 326), .none, 0⟩, #[]⟩) ?h
  case h => conv => rhs; whnf
noncomputable def o_383 (P : Params) : Obj := ⟨(.type "tuple"), none, (.seq #[] 0), #[]⟩
noncomputable def o_384 (P : Params) : Obj := ⟨.none, none, (.fields #[]), #[]⟩
noncomputable def o_385 (P : Params) : Obj := ⟨(.type "tuple"), none, (.seq #[(.str "self" 607), (.str "value" 608)] 0), #[]⟩
noncomputable def o_386 (P : Params) : Obj := ⟨(.type "tuple"), none, (.seq #[] 0), #[]⟩
noncomputable def o_387 (P : Params) : Obj := ⟨.none, none, fnp (nthS 1 (cbOf (nthS 18 pB))) fun a b s => ⟨"add", "Shelf.add", a, b, s, 0, [], .none, .none, .none, .none, none, .none, .none, 0⟩, #[]⟩
noncomputable def o_388 (P : Params) : Obj := ⟨(.type "code"), none, (.fields #[(.str "add" 604), (.str "Shelf.add" 605), (.str "/claim/cut.py" 606), (.int 158 0), (.int 2 0), (.int 0 0), (.int 0 0), (.int 3 0), (.ref 328), (.bool true), (.int 181 0), (.ref 329), .none, (.ref 330), (.ref 331), (.ref 332), (.int 609 0), (.int 158 0), (.str "/claim/cut.py" 610)]), #[]⟩
noncomputable def o_389 : Params → Obj := by
  refine (fun (_ : (?a, ?b, ?s) = fdOf (nthS 1 (cbOf (nthS 18 pB)))) P => ⟨(.type "function"), none, .func ⟨"add", "Shelf.add", ?a, .stmts ?b, ?s, 3, [], .none, .none, .none, (.str "paperhold.objects" 375), none, (.ref 333), .none, 0⟩, #[]⟩) ?h
  case h => conv => rhs; whnf
noncomputable def o_390 (P : Params) : Obj := ⟨(.type "tuple"), none, (.seq #[] 0), #[]⟩
noncomputable def o_391 (P : Params) : Obj := ⟨.none, none, (.fields #[]), #[]⟩
noncomputable def o_392 (P : Params) : Obj := ⟨(.type "tuple"), none, (.seq #[(.str "self" 615), (.str "number" 616)] 0), #[]⟩
noncomputable def o_393 (P : Params) : Obj := ⟨(.type "tuple"), none, (.seq #[] 0), #[]⟩
noncomputable def o_394 (P : Params) : Obj := ⟨.none, none, fnp (nthS 2 (cbOf (nthS 18 pB))) fun a b s => ⟨"drop", "Shelf.drop", a, b, s, 0, [], .none, .none, .none, .none, none, .none, .none, 0⟩, #[]⟩
noncomputable def o_395 (P : Params) : Obj := ⟨(.type "code"), none, (.fields #[(.str "drop" 612), (.str "Shelf.drop" 613), (.str "/claim/cut.py" 614), (.int 161 0), (.int 2 0), (.int 0 0), (.int 0 0), (.int 3 0), (.ref 335), (.bool true), (.int 181 0), (.ref 336), .none, (.ref 337), (.ref 338), (.ref 339), (.int 617 0), (.int 161 0), (.str "/claim/cut.py" 618)]), #[]⟩
noncomputable def o_396 : Params → Obj := by
  refine (fun (_ : (?a, ?b, ?s) = fdOf (nthS 2 (cbOf (nthS 18 pB)))) P => ⟨(.type "function"), none, .func ⟨"drop", "Shelf.drop", ?a, .stmts ?b, ?s, 3, [], .none, .none, .none, (.str "paperhold.objects" 375), none, (.ref 340), .none, 0⟩, #[]⟩) ?h
  case h => conv => rhs; whnf
noncomputable def o_397 (P : Params) : Obj := ⟨(.type "tuple"), none, (.seq #[] 0), #[]⟩
noncomputable def o_398 (P : Params) : Obj := ⟨.none, none, (.fields #[]), #[]⟩
noncomputable def o_399 (P : Params) : Obj := ⟨(.type "tuple"), none, (.seq #[(.str "self" 623)] 0), #[]⟩
noncomputable def o_400 (P : Params) : Obj := ⟨(.type "tuple"), none, (.seq #[] 0), #[]⟩
noncomputable def o_401 (P : Params) : Obj := ⟨.none, none, fnp (nthS 3 (cbOf (nthS 18 pB))) fun a b s => ⟨"numbers", "Shelf.numbers", a, b, s, 0, [], .none, .none, .none, .none, none, .none, .none, 0⟩, #[]⟩
noncomputable def o_402 (P : Params) : Obj := ⟨(.type "code"), none, (.fields #[(.str "numbers" 620), (.str "Shelf.numbers" 621), (.str "/claim/cut.py" 622), (.int 164 0), (.int 1 0), (.int 0 0), (.int 0 0), (.int 3 0), (.ref 342), (.bool true), (.int 181 0), (.ref 343), .none, (.ref 344), (.ref 345), (.ref 346), (.int 624 0), (.int 164 0), (.str "/claim/cut.py" 625)]), #[]⟩
noncomputable def o_403 : Params → Obj := by
  refine (fun (_ : (?a, ?b, ?s) = fdOf (nthS 3 (cbOf (nthS 18 pB)))) P => ⟨(.type "function"), none, .func ⟨"numbers", "Shelf.numbers", ?a, .stmts ?b, ?s, 3, [], .none, .none, .none, (.str "paperhold.objects" 375), none, (.ref 347), .none, 0⟩, #[]⟩) ?h
  case h => conv => rhs; whnf
noncomputable def o_404 (P : Params) : Obj := ⟨(.type "tuple"), none, (.seq #[] 0), #[]⟩
noncomputable def o_405 (P : Params) : Obj := ⟨.none, none, (.fields #[]), #[]⟩
noncomputable def o_406 (P : Params) : Obj := ⟨(.type "tuple"), none, (.seq #[(.str "self" 630), (.str "found" 631)] 0), #[]⟩
noncomputable def o_407 (P : Params) : Obj := ⟨(.type "tuple"), none, (.seq #[] 0), #[]⟩
noncomputable def o_408 (P : Params) : Obj := ⟨.none, none, fnp (nthS 4 (cbOf (nthS 18 pB))) fun a b s => ⟨"root", "Shelf.root", a, b, s, 0, [], .none, .none, .none, .none, none, .none, .none, 0⟩, #[]⟩
noncomputable def o_409 (P : Params) : Obj := ⟨(.type "code"), none, (.fields #[(.str "root" 627), (.str "Shelf.root" 628), (.str "/claim/cut.py" 629), (.int 167 0), (.int 1 0), (.int 0 0), (.int 0 0), (.int 3 0), (.ref 349), (.bool true), (.int 181 0), (.ref 350), .none, (.ref 351), (.ref 352), (.ref 353), (.int 632 0), (.int 167 0), (.str "/claim/cut.py" 633)]), #[]⟩
noncomputable def o_410 : Params → Obj := by
  refine (fun (_ : (?a, ?b, ?s) = fdOf (nthS 4 (cbOf (nthS 18 pB)))) P => ⟨(.type "function"), none, .func ⟨"root", "Shelf.root", ?a, .stmts ?b, ?s, 3, [], .none, .none, .none, (.str "paperhold.objects" 375), none, (.ref 354), .none, 0⟩, #[]⟩) ?h
  case h => conv => rhs; whnf
noncomputable def o_411 (P : Params) : Obj := ⟨(.type "tuple"), none, (.seq #[] 0), #[]⟩
noncomputable def o_412 (P : Params) : Obj := ⟨.none, none, (.fields #[]), #[]⟩
noncomputable def o_413 (P : Params) : Obj := ⟨.none, none, fnp (nthS 5 (cbOf (nthS 18 pB))) fun a b s => ⟨"told", "Shelf.told", a, b, s, 0, [], .none, .none, .none, .none, none, .none, .none, 0⟩, #[]⟩
noncomputable def o_414 (P : Params) : Obj := ⟨(.type "code"), none, (.fields #[(.str "told" 635), (.str "Shelf.told" 636), (.str "/claim/cut.py" 637), (.int 171 0), (.int 1 0), (.int 0 0), (.int 0 0), (.int 3 0), (.ref 356), (.bool true), (.int 181 0), (.ref 357), .none, .none, .none, (.ref 358), (.int 638 0), (.int 171 0), (.str "/claim/cut.py" 639)]), #[]⟩
noncomputable def o_415 : Params → Obj := by
  refine (fun (_ : (?a, ?b, ?s) = fdOf (nthS 5 (cbOf (nthS 18 pB)))) P => ⟨(.type "function"), none, .func ⟨"told", "Shelf.told", ?a, .stmts ?b, ?s, 3, [], .none, .none, .none, (.str "paperhold.objects" 375), none, (.ref 359), .none, 0⟩, #[]⟩) ?h
  case h => conv => rhs; whnf
noncomputable def o_416 (P : Params) : Obj := ⟨(.type "tuple"), none, (.seq #[] 0), #[]⟩
noncomputable def o_417 (P : Params) : Obj := ⟨(.type "dict"), none, (.dict #[en P "__module__" 589 (.str "paperhold.objects" 375), en P "__firstlineno__" 593 (.int 153 592), en P "put" 603 (.ref 327), en P "add" 611 (.ref 334), en P "drop" 619 (.ref 341), en P "numbers" 626 (.ref 348), en P "root" 634 (.ref 355), en P "told" 640 (.ref 360), en P "__static_attributes__" 641 (.ref 361), en P "__doc__" 642 .none] 2), #[]⟩
noncomputable def o_418 (P : Params) : Obj := ⟨(.type "type"), none, (.cls ⟨"Shelf", [(.ref 309)], [(.ref 363), (.ref 309), (.type "object")], 362, "Shelf", true, [], [], false, none, false⟩), #[(some (.ref 314)), none, (some (.str "Shelf" 582)), (some (.str "Shelf" 590)), (some (.builtin "object.__new__")), (some (.bool true))]⟩
noncomputable def o_419 (P : Params) : Obj := ⟨(.type "super"), none, (.fields #[(.ref 363), (.ref 363), (.ref 363)]), #[]⟩
noncomputable def o_420 (P : Params) : Obj := ⟨(.type "builtin_function_or_method"), none, (.fields #[(.builtin "object.__init_subclass__"), (.ref 363)]), #[]⟩
noncomputable def o_421 (P : Params) : Obj := ⟨(.type "dict"), none, (.dict #[en P "__name__" 165 (.str "paperhold.layers" 645), en P "__doc__" 166 .none, en P "__package__" 167 .none, en P "__loader__" 168 (.builtin "__main__.__loader__#opaque"), en P "__spec__" 169 .none, en P "__annotations__" 170 (.ref 6), en P "__builtins__" 171 (.ref 4), en P "__file__" 173 (.str "/claim/cut.py" 172), en P "__cached__" 174 .none, en P "_wall" 193 (.ref 21), en P "PaperError" 235 (.ref 46), en P "DraftFault" 251 (.ref 59), en P "Decimal" 367 (.ref 155), en P "sign_text" 374 (.ref 166), en P "MOST_HOPS" 378 (.int 30 377), en P "Name" 407 (.ref 183), en P "String" 438 (.ref 205), en P "Stream" 469 (.ref 226), en P "Reference" 507 (.ref 254), en P "kind_of" 514 (.ref 265), en P "told_plain" 522 (.ref 272), en P "told" 528 (.ref 277), en P "told_objects" 529 (.ref 277), en P "Lookup" 581 (.ref 309), en P "Shelf" 644 (.ref 363), en P "word_at" 657 (.ref 372), en P "items_at" 667 (.ref 379), en P "is_group" 676 (.ref 386), en P "groups_in" 686 (.ref 393), en P "layer_head" 694 (.ref 400), en P "group_numbers" 701 (.ref 407), en P "purposes" 707 (.ref 412)] 32), #[]⟩
noncomputable def o_422 (P : Params) : Obj := ⟨.none, none, (.fields #[(.int 1 0), (.int 0 0), (.ref 20), (.int 5 0), (.int 0 0), (.ref 27), (.int 14 0), (.int 0 0), (.ref 55), (.int 17 0), (.int 0 0), (.ref 67), (.int 62 0), (.int 0 0), (.ref 165), (.int 66 0), (.int 0 0), (.ref 172), (.int 70 0), (.int 0 0), (.ref 193), (.int 75 0), (.int 0 0), (.ref 215), (.int 80 0), (.int 0 0), (.ref 236), (.int 88 0), (.int 0 0), (.ref 264), (.int 110 0), (.int 0 0), (.ref 271), (.int 124 0), (.int 0 0), (.ref 276), (.int 134 0), (.int 0 0), (.ref 283), (.int 153 0), (.int 0 0), (.ref 319), (.int 175 0), (.int 0 0), (.ref 371), (.int 178 0), (.int 0 0), (.ref 378), (.int 181 0), (.int 0 0), (.ref 385), (.int 184 0), (.int 0 0), (.ref 392), (.int 190 0), (.int 0 0), (.ref 399), (.int 193 0), (.int 0 0), (.ref 406), (.int 195 0), (.int 0 0), (.ref 411)]), #[]⟩
noncomputable def o_423 (P : Params) : Obj := ⟨(.type "tuple"), none, (.seq #[] 0), #[]⟩
noncomputable def o_424 (P : Params) : Obj := ⟨.none, none, (.fields #[]), #[]⟩
noncomputable def o_425 (P : Params) : Obj := ⟨(.type "tuple"), none, (.seq #[(.str "shelf" 650), (.str "head" 651), (.str "key" 652), (.str "default" 653), (.str "found" 654)] 0), #[]⟩
noncomputable def o_426 (P : Params) : Obj := ⟨(.type "tuple"), none, (.seq #[] 0), #[]⟩
noncomputable def o_427 (P : Params) : Obj := ⟨.none, none, fnp (nthS 20 pB) fun a b s => ⟨"word_at", "word_at", a, b, s, 0, [], .none, .none, .none, .none, none, .none, .none, 0⟩, #[]⟩
noncomputable def o_428 (P : Params) : Obj := ⟨(.type "code"), none, (.fields #[(.str "word_at" 647), (.str "word_at" 648), (.str "/claim/cut.py" 649), (.int 175 0), (.int 4 0), (.int 0 0), (.int 0 0), (.int 3 0), (.ref 366), (.bool true), (.int 181 0), (.ref 367), .none, (.ref 368), (.ref 369), (.ref 370), (.int 655 0), (.int 175 0), (.str "/claim/cut.py" 656)]), #[]⟩
noncomputable def o_429 : Params → Obj := by
  refine (fun (_ : (?a, ?b, ?s) = fdOf (nthS 20 pB)) P => ⟨(.type "function"), none, .func ⟨"word_at", "word_at", ?a, .stmts ?b, ?s, 3, [], .none, .none, .none, (.str "paperhold.layers" 645), none, (.ref 371), .none, 0⟩, #[]⟩) ?h
  case h => conv => rhs; whnf
noncomputable def o_430 (P : Params) : Obj := ⟨(.type "tuple"), none, (.seq #[] 0), #[]⟩
noncomputable def o_431 (P : Params) : Obj := ⟨.none, none, (.fields #[]), #[]⟩
noncomputable def o_432 (P : Params) : Obj := ⟨(.type "tuple"), none, (.seq #[(.str "shelf" 661), (.str "head" 662), (.str "key" 663), (.str "found" 664)] 0), #[]⟩
noncomputable def o_433 (P : Params) : Obj := ⟨(.type "tuple"), none, (.seq #[] 0), #[]⟩
noncomputable def o_434 (P : Params) : Obj := ⟨.none, none, fnp (nthS 21 pB) fun a b s => ⟨"items_at", "items_at", a, b, s, 0, [], .none, .none, .none, .none, none, .none, .none, 0⟩, #[]⟩
noncomputable def o_435 (P : Params) : Obj := ⟨(.type "code"), none, (.fields #[(.str "items_at" 658), (.str "items_at" 659), (.str "/claim/cut.py" 660), (.int 178 0), (.int 3 0), (.int 0 0), (.int 0 0), (.int 3 0), (.ref 373), (.bool true), (.int 181 0), (.ref 374), .none, (.ref 375), (.ref 376), (.ref 377), (.int 665 0), (.int 178 0), (.str "/claim/cut.py" 666)]), #[]⟩
noncomputable def o_436 : Params → Obj := by
  refine (fun (_ : (?a, ?b, ?s) = fdOf (nthS 21 pB)) P => ⟨(.type "function"), none, .func ⟨"items_at", "items_at", ?a, .stmts ?b, ?s, 3, [], .none, .none, .none, (.str "paperhold.layers" 645), none, (.ref 378), .none, 0⟩, #[]⟩) ?h
  case h => conv => rhs; whnf
noncomputable def o_437 (P : Params) : Obj := ⟨(.type "tuple"), none, (.seq #[] 0), #[]⟩
noncomputable def o_438 (P : Params) : Obj := ⟨.none, none, (.fields #[]), #[]⟩
noncomputable def o_439 (P : Params) : Obj := ⟨(.type "tuple"), none, (.seq #[(.str "shelf" 671), (.str "value" 672), (.str "found" 673)] 0), #[]⟩
noncomputable def o_440 (P : Params) : Obj := ⟨(.type "tuple"), none, (.seq #[] 0), #[]⟩
noncomputable def o_441 (P : Params) : Obj := ⟨.none, none, fnp (nthS 22 pB) fun a b s => ⟨"is_group", "is_group", a, b, s, 0, [], .none, .none, .none, .none, none, .none, .none, 0⟩, #[]⟩
noncomputable def o_442 (P : Params) : Obj := ⟨(.type "code"), none, (.fields #[(.str "is_group" 668), (.str "is_group" 669), (.str "/claim/cut.py" 670), (.int 181 0), (.int 2 0), (.int 0 0), (.int 0 0), (.int 3 0), (.ref 380), (.bool true), (.int 181 0), (.ref 381), .none, (.ref 382), (.ref 383), (.ref 384), (.int 674 0), (.int 181 0), (.str "/claim/cut.py" 675)]), #[]⟩
noncomputable def o_443 : Params → Obj := by
  refine (fun (_ : (?a, ?b, ?s) = fdOf (nthS 22 pB)) P => ⟨(.type "function"), none, .func ⟨"is_group", "is_group", ?a, .stmts ?b, ?s, 3, [], .none, .none, .none, (.str "paperhold.layers" 645), none, (.ref 385), .none, 0⟩, #[]⟩) ?h
  case h => conv => rhs; whnf
noncomputable def o_444 (P : Params) : Obj := ⟨(.type "tuple"), none, (.seq #[] 0), #[]⟩
noncomputable def o_445 (P : Params) : Obj := ⟨.none, none, (.fields #[]), #[]⟩
noncomputable def o_446 (P : Params) : Obj := ⟨(.type "tuple"), none, (.seq #[(.str "shelf" 680), (.str "items" 681), (.str "found" 682), (.str "item" 683)] 0), #[]⟩
noncomputable def o_447 (P : Params) : Obj := ⟨(.type "tuple"), none, (.seq #[] 0), #[]⟩
noncomputable def o_448 (P : Params) : Obj := ⟨.none, none, fnp (nthS 23 pB) fun a b s => ⟨"groups_in", "groups_in", a, b, s, 0, [], .none, .none, .none, .none, none, .none, .none, 0⟩, #[]⟩
noncomputable def o_449 (P : Params) : Obj := ⟨(.type "code"), none, (.fields #[(.str "groups_in" 677), (.str "groups_in" 678), (.str "/claim/cut.py" 679), (.int 184 0), (.int 2 0), (.int 0 0), (.int 0 0), (.int 3 0), (.ref 387), (.bool true), (.int 181 0), (.ref 388), .none, (.ref 389), (.ref 390), (.ref 391), (.int 684 0), (.int 184 0), (.str "/claim/cut.py" 685)]), #[]⟩
noncomputable def o_450 : Params → Obj := by
  refine (fun (_ : (?a, ?b, ?s) = fdOf (nthS 23 pB)) P => ⟨(.type "function"), none, .func ⟨"groups_in", "groups_in", ?a, .stmts ?b, ?s, 3, [], .none, .none, .none, (.str "paperhold.layers" 645), none, (.ref 392), .none, 0⟩, #[]⟩) ?h
  case h => conv => rhs; whnf
noncomputable def o_451 (P : Params) : Obj := ⟨(.type "tuple"), none, (.seq #[] 0), #[]⟩
noncomputable def o_452 (P : Params) : Obj := ⟨.none, none, (.fields #[]), #[]⟩
noncomputable def o_453 (P : Params) : Obj := ⟨(.type "tuple"), none, (.seq #[(.str "shelf" 690), (.str "found" 691)] 0), #[]⟩
noncomputable def o_454 (P : Params) : Obj := ⟨(.type "tuple"), none, (.seq #[] 0), #[]⟩
noncomputable def o_455 (P : Params) : Obj := ⟨.none, none, fnp (nthS 24 pB) fun a b s => ⟨"layer_head", "layer_head", a, b, s, 0, [], .none, .none, .none, .none, none, .none, .none, 0⟩, #[]⟩
noncomputable def o_456 (P : Params) : Obj := ⟨(.type "code"), none, (.fields #[(.str "layer_head" 687), (.str "layer_head" 688), (.str "/claim/cut.py" 689), (.int 190 0), (.int 1 0), (.int 0 0), (.int 0 0), (.int 3 0), (.ref 394), (.bool true), (.int 181 0), (.ref 395), .none, (.ref 396), (.ref 397), (.ref 398), (.int 692 0), (.int 190 0), (.str "/claim/cut.py" 693)]), #[]⟩
noncomputable def o_457 : Params → Obj := by
  refine (fun (_ : (?a, ?b, ?s) = fdOf (nthS 24 pB)) P => ⟨(.type "function"), none, .func ⟨"layer_head", "layer_head", ?a, .stmts ?b, ?s, 3, [], .none, .none, .none, (.str "paperhold.layers" 645), none, (.ref 399), .none, 0⟩, #[]⟩) ?h
  case h => conv => rhs; whnf
noncomputable def o_458 (P : Params) : Obj := ⟨(.type "tuple"), none, (.seq #[] 0), #[]⟩
noncomputable def o_459 (P : Params) : Obj := ⟨.none, none, (.fields #[]), #[]⟩
noncomputable def o_460 (P : Params) : Obj := ⟨(.type "tuple"), none, (.seq #[(.str "shelf" 698)] 0), #[]⟩
noncomputable def o_461 (P : Params) : Obj := ⟨(.type "tuple"), none, (.seq #[] 0), #[]⟩
noncomputable def o_462 (P : Params) : Obj := ⟨.none, none, fnp (nthS 25 pB) fun a b s => ⟨"group_numbers", "group_numbers", a, b, s, 0, [], .none, .none, .none, .none, none, .none, .none, 0⟩, #[]⟩
noncomputable def o_463 (P : Params) : Obj := ⟨(.type "code"), none, (.fields #[(.str "group_numbers" 695), (.str "group_numbers" 696), (.str "/claim/cut.py" 697), (.int 193 0), (.int 1 0), (.int 0 0), (.int 0 0), (.int 3 0), (.ref 401), (.bool true), (.int 181 0), (.ref 402), .none, (.ref 403), (.ref 404), (.ref 405), (.int 699 0), (.int 193 0), (.str "/claim/cut.py" 700)]), #[]⟩
noncomputable def o_464 : Params → Obj := by
  refine (fun (_ : (?a, ?b, ?s) = fdOf (nthS 25 pB)) P => ⟨(.type "function"), none, .func ⟨"group_numbers", "group_numbers", ?a, .stmts ?b, ?s, 3, [], .none, .none, .none, (.str "paperhold.layers" 645), none, (.ref 406), .none, 0⟩, #[]⟩) ?h
  case h => conv => rhs; whnf
noncomputable def o_465 (P : Params) : Obj := ⟨(.type "tuple"), none, (.seq #[] 0), #[]⟩
noncomputable def o_466 (P : Params) : Obj := ⟨.none, none, (.fields #[]), #[]⟩
noncomputable def o_467 (P : Params) : Obj := ⟨.none, none, fnp (nthS 26 pB) fun a b s => ⟨"purposes", "purposes", a, b, s, 0, [], .none, .none, .none, .none, none, .none, .none, 0⟩, #[]⟩
noncomputable def o_468 (P : Params) : Obj := ⟨(.type "code"), none, (.fields #[(.str "purposes" 702), (.str "purposes" 703), (.str "/claim/cut.py" 704), (.int 195 0), (.int 2 0), (.int 0 0), (.int 0 0), (.int 3 0), (.ref 408), (.bool true), (.int 181 0), (.ref 409), .none, .none, .none, (.ref 410), (.int 705 0), (.int 195 0), (.str "/claim/cut.py" 706)]), #[]⟩
noncomputable def o_469 : Params → Obj := by
  refine (fun (_ : (?a, ?b, ?s) = fdOf (nthS 26 pB)) P => ⟨(.type "function"), none, .func ⟨"purposes", "purposes", ?a, .stmts ?b, ?s, 3, [], .none, .none, .none, (.str "paperhold.layers" 645), none, (.ref 411), .none, 0⟩, #[]⟩) ?h
  case h => conv => rhs; whnf
noncomputable def o_470 (P : Params) : Obj := ⟨(.type "dict"), none, (.dict #[en P "__name__" 165 (.str "paperhold.layers" 645), en P "__doc__" 166 .none, en P "__package__" 167 .none, en P "__loader__" 168 (.builtin "__main__.__loader__#opaque"), en P "__spec__" 169 .none, en P "__annotations__" 170 (.ref 6), en P "__builtins__" 171 (.ref 4), en P "__file__" 173 (.str "/claim/cut.py" 172), en P "__cached__" 174 .none, en P "_wall" 193 (.ref 21), en P "PaperError" 235 (.ref 46), en P "DraftFault" 251 (.ref 59), en P "Decimal" 367 (.ref 155), en P "sign_text" 374 (.ref 166), en P "MOST_HOPS" 378 (.int 30 377), en P "Name" 407 (.ref 183), en P "String" 438 (.ref 205), en P "Stream" 469 (.ref 226), en P "Reference" 507 (.ref 254), en P "kind_of" 514 (.ref 265), en P "told_plain" 522 (.ref 272), en P "told" 528 (.ref 277), en P "told_objects" 529 (.ref 277), en P "Lookup" 581 (.ref 309), en P "Shelf" 644 (.ref 363), en P "word_at" 657 (.ref 372), en P "items_at" 667 (.ref 379), en P "is_group" 676 (.ref 386), en P "groups_in" 686 (.ref 393), en P "layer_head" 694 (.ref 400), en P "group_numbers" 701 (.ref 407), en P "purposes" 707 (.ref 412), en P "Configuration" 748 (.ref 429), en P "configuration_of" 754 (.ref 438), en P "configuration" 762 (.ref 444), en P "counted_groups" 768 (.ref 449), en P "starting_states" 781 (.ref 457), en P "switched" 794 (.ref 464)] 38), #[]⟩
noncomputable def o_471 (P : Params) : Obj := ⟨.none, none, (.fields #[(.int 1 0), (.int 0 0), (.ref 20), (.int 5 0), (.int 0 0), (.ref 27), (.int 14 0), (.int 0 0), (.ref 55), (.int 17 0), (.int 0 0), (.ref 67), (.int 62 0), (.int 0 0), (.ref 165), (.int 66 0), (.int 0 0), (.ref 172), (.int 70 0), (.int 0 0), (.ref 193), (.int 75 0), (.int 0 0), (.ref 215), (.int 80 0), (.int 0 0), (.ref 236), (.int 88 0), (.int 0 0), (.ref 264), (.int 110 0), (.int 0 0), (.ref 271), (.int 124 0), (.int 0 0), (.ref 276), (.int 134 0), (.int 0 0), (.ref 283), (.int 153 0), (.int 0 0), (.ref 319), (.int 175 0), (.int 0 0), (.ref 371), (.int 178 0), (.int 0 0), (.ref 378), (.int 181 0), (.int 0 0), (.ref 385), (.int 184 0), (.int 0 0), (.ref 392), (.int 190 0), (.int 0 0), (.ref 399), (.int 193 0), (.int 0 0), (.ref 406), (.int 195 0), (.int 0 0), (.ref 411), (.int 202 0), (.int 0 0), (.ref 418), (.int 212 0), (.int 0 0), (.ref 437), (.int 215 0), (.int 0 0), (.ref 443), (.int 223 0), (.int 0 0), (.ref 448), (.int 231 0), (.int 0 0), (.ref 456), (.int 243 0), (.int 0 0), (.ref 463)]), #[]⟩
noncomputable def o_472 (P : Params) : Obj := ⟨(.type "tuple"), none, (.seq #[] 0), #[]⟩
noncomputable def o_473 (P : Params) : Obj := ⟨(.type "builtin_function_or_method"), none, (.fields #[(.builtin "type.__prepare__"), (.type "type")]), #[]⟩
noncomputable def o_474 (P : Params) : Obj := ⟨(.type "dict"), none, (.dict #[en P "__module__" 715 (.str "paperhold.layers" 645), en P "__qualname__" 717 (.str "Configuration" 716), en P "__firstlineno__" 719 (.int 202 718), en P "__init__" 733 (.ref 426), en P "__static_attributes__" 741 (.ref 427)] 5), #[]⟩
noncomputable def o_475 (P : Params) : Obj := ⟨(.type "tuple"), none, (.seq #[] 0), #[]⟩
noncomputable def o_476 (P : Params) : Obj := ⟨.none, none, (.fields #[(.int 204 0), (.int 4 0), (.ref 425)]), #[]⟩
noncomputable def o_477 (P : Params) : Obj := ⟨(.type "code"), none, (.fields #[(.str "Configuration" 710), (.str "Configuration" 711), (.str "/claim/cut.py" 712), (.int 202 0), (.int 0 0), (.int 0 0), (.int 0 0), (.int 0 0), (.ref 416), (.bool false), (.int 181 0), (.ref 417), .none, .none, .none, .none, (.int 713 0), (.int 202 0), (.str "/claim/cut.py" 714)]), #[]⟩
noncomputable def o_478 (P : Params) : Obj := ⟨(.type "frame"), none, .plain, #[(some (.ref 418)), (some (.ref 3)), (some (.ref 415)), none, (some (.str "paperhold.layers" 645)), none, (some (.ref 0))]⟩
noncomputable def o_479 (P : Params) : Obj := ⟨(.type "tuple"), none, (.seq #[] 0), #[]⟩
noncomputable def o_480 (P : Params) : Obj := ⟨.none, none, (.fields #[]), #[]⟩
noncomputable def o_481 (P : Params) : Obj := ⟨(.type "tuple"), none, (.seq #[(.str "self" 723), (.str "base" 724), (.str "on" 725), (.str "off" 726), (.str "radio" 727), (.str "locked" 728), (.str "order" 729), (.str "words" 730)] 0), #[]⟩
noncomputable def o_482 (P : Params) : Obj := ⟨(.type "tuple"), none, (.seq #[] 0), #[]⟩
noncomputable def o_483 (P : Params) : Obj := ⟨.none, none, fnp (nthS 0 (cbOf (nthS 27 pB))) fun a b s => ⟨"__init__", "Configuration.__init__", a, b, s, 0, [], .none, .none, .none, .none, none, .none, .none, 0⟩, #[]⟩
noncomputable def o_484 (P : Params) : Obj := ⟨(.type "code"), none, (.fields #[(.str "__init__" 720), (.str "Configuration.__init__" 721), (.str "/claim/cut.py" 722), (.int 204 0), (.int 8 0), (.int 0 0), (.int 0 0), (.int 3 0), (.ref 420), (.bool true), (.int 181 0), (.ref 421), .none, (.ref 422), (.ref 423), (.ref 424), (.int 731 0), (.int 204 0), (.str "/claim/cut.py" 732)]), #[]⟩
noncomputable def o_485 : Params → Obj := by
  refine (fun (_ : (?a, ?b, ?s) = fdOf (nthS 0 (cbOf (nthS 27 pB)))) P => ⟨(.type "function"), none, .func ⟨"__init__", "Configuration.__init__", ?a, .stmts ?b, ?s, 3, [], .none, .none, .none, (.str "paperhold.layers" 645), none, (.ref 425), .none, 0⟩, #[]⟩) ?h
  case h => conv => rhs; whnf
noncomputable def o_486 (P : Params) : Obj := ⟨(.type "tuple"), none, (.seq #[(.str "base" 734), (.str "locked" 735), (.str "off" 736), (.str "on" 737), (.str "order" 738), (.str "radio" 739), (.str "words" 740)] 0), #[]⟩
noncomputable def o_487 (P : Params) : Obj := ⟨(.type "dict"), none, (.dict #[en P "__module__" 715 (.str "paperhold.layers" 645), en P "__firstlineno__" 719 (.int 202 718), en P "__init__" 733 (.ref 426), en P "__static_attributes__" 741 (.ref 427), en P "__dict__" 743 (.ref 430), en P "__weakref__" 745 (.ref 431), en P "__doc__" 746 .none] 4), #[]⟩
noncomputable def o_488 (P : Params) : Obj := ⟨(.type "type"), none, (.cls ⟨"Configuration", [(.type "object")], [(.ref 429), (.type "object")], 428, "Configuration", true, [], [], false, none, false⟩), #[none, none, (some (.str "Configuration" 708)), (some (.str "Configuration" 716)), (some (.builtin "object.__new__")), (some (.bool true))]⟩
noncomputable def o_489 (P : Params) : Obj := ⟨(.type "getset_descriptor"), none, (.fields #[(.str "__dict__" 742), (.ref 429), (.builtin "function.__dict__"), (.builtin "function.__dict__#set")]), #[]⟩
noncomputable def o_490 (P : Params) : Obj := ⟨(.type "getset_descriptor"), none, (.fields #[(.str "__weakref__" 744), (.ref 429), (.builtin "ExceptionGroup.__weakref__"), .none]), #[]⟩
noncomputable def o_491 (P : Params) : Obj := ⟨(.type "super"), none, (.fields #[(.ref 429), (.ref 429), (.ref 429)]), #[]⟩
noncomputable def o_492 (P : Params) : Obj := ⟨(.type "builtin_function_or_method"), none, (.fields #[(.builtin "object.__init_subclass__"), (.ref 429)]), #[]⟩
noncomputable def o_493 (P : Params) : Obj := ⟨(.type "tuple"), none, (.seq #[] 0), #[]⟩
noncomputable def o_494 (P : Params) : Obj := ⟨.none, none, (.fields #[]), #[]⟩
noncomputable def o_495 (P : Params) : Obj := ⟨.none, none, fnp (nthS 28 pB) fun a b s => ⟨"configuration_of", "configuration_of", a, b, s, 0, [], .none, .none, .none, .none, none, .none, .none, 0⟩, #[]⟩
noncomputable def o_496 (P : Params) : Obj := ⟨(.type "code"), none, (.fields #[(.str "configuration_of" 749), (.str "configuration_of" 750), (.str "/claim/cut.py" 751), (.int 212 0), (.int 2 0), (.int 0 0), (.int 0 0), (.int 3 0), (.ref 434), (.bool true), (.int 181 0), (.ref 435), .none, .none, .none, (.ref 436), (.int 752 0), (.int 212 0), (.str "/claim/cut.py" 753)]), #[]⟩
noncomputable def o_497 : Params → Obj := by
  refine (fun (_ : (?a, ?b, ?s) = fdOf (nthS 28 pB)) P => ⟨(.type "function"), none, .func ⟨"configuration_of", "configuration_of", ?a, .stmts ?b, ?s, 3, [], .none, .none, .none, (.str "paperhold.layers" 645), none, (.ref 437), .none, 0⟩, #[]⟩) ?h
  case h => conv => rhs; whnf
noncomputable def o_498 (P : Params) : Obj := ⟨(.type "tuple"), none, (.seq #[(.int (-1) 756)] 0), #[]⟩
noncomputable def o_499 (P : Params) : Obj := ⟨(.type "tuple"), none, (.seq #[] 0), #[]⟩
noncomputable def o_500 (P : Params) : Obj := ⟨.none, none, (.fields #[]), #[]⟩
noncomputable def o_501 (P : Params) : Obj := ⟨.none, none, fnp (nthS 29 pB) fun a b s => ⟨"configuration", "configuration", a, b, s, 0, [], .none, .none, .none, .none, none, .none, .none, 0⟩, #[]⟩
noncomputable def o_502 (P : Params) : Obj := ⟨(.type "code"), none, (.fields #[(.str "configuration" 757), (.str "configuration" 758), (.str "/claim/cut.py" 759), (.int 215 0), (.int 2 0), (.int 0 0), (.int 0 0), (.int 3 0), (.ref 440), (.bool true), (.int 181 0), (.ref 441), .none, .none, .none, (.ref 442), (.int 760 0), (.int 215 0), (.str "/claim/cut.py" 761)]), #[]⟩
noncomputable def o_503 : Params → Obj := by
  refine (fun (_ : (?a, ?b, ?s) = fdOf (nthS 29 pB)) P => ⟨(.type "function"), none, .func ⟨"configuration", "configuration", ?a, .stmts ?b, ?s, 3, [], (.ref 439), .none, .none, (.str "paperhold.layers" 645), none, (.ref 443), .none, 0⟩, #[]⟩) ?h
  case h => conv => rhs; whnf
noncomputable def o_504 (P : Params) : Obj := ⟨(.type "tuple"), none, (.seq #[] 0), #[]⟩
noncomputable def o_505 (P : Params) : Obj := ⟨.none, none, (.fields #[]), #[]⟩
noncomputable def o_506 (P : Params) : Obj := ⟨.none, none, fnp (nthS 30 pB) fun a b s => ⟨"counted_groups", "counted_groups", a, b, s, 0, [], .none, .none, .none, .none, none, .none, .none, 0⟩, #[]⟩
noncomputable def o_507 (P : Params) : Obj := ⟨(.type "code"), none, (.fields #[(.str "counted_groups" 763), (.str "counted_groups" 764), (.str "/claim/cut.py" 765), (.int 223 0), (.int 2 0), (.int 0 0), (.int 0 0), (.int 3 0), (.ref 445), (.bool true), (.int 181 0), (.ref 446), .none, .none, .none, (.ref 447), (.int 766 0), (.int 223 0), (.str "/claim/cut.py" 767)]), #[]⟩
noncomputable def o_508 : Params → Obj := by
  refine (fun (_ : (?a, ?b, ?s) = fdOf (nthS 30 pB)) P => ⟨(.type "function"), none, .func ⟨"counted_groups", "counted_groups", ?a, .stmts ?b, ?s, 3, [], .none, .none, .none, (.str "paperhold.layers" 645), none, (.ref 448), .none, 0⟩, #[]⟩) ?h
  case h => conv => rhs; whnf
noncomputable def o_509 (P : Params) : Obj := ⟨(.type "tuple"), none, (.seq #[.none] 0), #[]⟩
noncomputable def o_510 (P : Params) : Obj := ⟨(.type "tuple"), none, (.seq #[] 0), #[]⟩
noncomputable def o_511 (P : Params) : Obj := ⟨.none, none, (.fields #[]), #[]⟩
noncomputable def o_512 (P : Params) : Obj := ⟨(.type "tuple"), none, (.seq #[(.str "numbers" 772), (.str "config" 773), (.str "before" 774), (.str "states" 775), (.str "number" 776), (.str "listed" 777), (.str "is_on" 778)] 0), #[]⟩
noncomputable def o_513 (P : Params) : Obj := ⟨(.type "tuple"), none, (.seq #[] 0), #[]⟩
noncomputable def o_514 (P : Params) : Obj := ⟨.none, none, fnp (nthS 31 pB) fun a b s => ⟨"starting_states", "starting_states", a, b, s, 0, [], .none, .none, .none, .none, none, .none, .none, 0⟩, #[]⟩
noncomputable def o_515 (P : Params) : Obj := ⟨(.type "code"), none, (.fields #[(.str "starting_states" 769), (.str "starting_states" 770), (.str "/claim/cut.py" 771), (.int 231 0), (.int 3 0), (.int 0 0), (.int 0 0), (.int 3 0), (.ref 451), (.bool true), (.int 181 0), (.ref 452), .none, (.ref 453), (.ref 454), (.ref 455), (.int 779 0), (.int 231 0), (.str "/claim/cut.py" 780)]), #[]⟩
noncomputable def o_516 : Params → Obj := by
  refine (fun (_ : (?a, ?b, ?s) = fdOf (nthS 31 pB)) P => ⟨(.type "function"), none, .func ⟨"starting_states", "starting_states", ?a, .stmts ?b, ?s, 3, [], (.ref 450), .none, .none, (.str "paperhold.layers" 645), none, (.ref 456), .none, 0⟩, #[]⟩) ?h
  case h => conv => rhs; whnf
noncomputable def o_517 (P : Params) : Obj := ⟨(.type "tuple"), none, (.seq #[] 0), #[]⟩
noncomputable def o_518 (P : Params) : Obj := ⟨.none, none, (.fields #[]), #[]⟩
noncomputable def o_519 (P : Params) : Obj := ⟨(.type "tuple"), none, (.seq #[(.str "states" 785), (.str "config" 786), (.str "number" 787), (.str "is_on" 788), (.str "found" 789), (.str "row" 790), (.str "other" 791)] 0), #[]⟩
noncomputable def o_520 (P : Params) : Obj := ⟨(.type "tuple"), none, (.seq #[] 0), #[]⟩
noncomputable def o_521 (P : Params) : Obj := ⟨.none, none, fnp (nthS 32 pB) fun a b s => ⟨"switched", "switched", a, b, s, 0, [], .none, .none, .none, .none, none, .none, .none, 0⟩, #[]⟩
noncomputable def o_522 (P : Params) : Obj := ⟨(.type "code"), none, (.fields #[(.str "switched" 782), (.str "switched" 783), (.str "/claim/cut.py" 784), (.int 243 0), (.int 4 0), (.int 0 0), (.int 0 0), (.int 3 0), (.ref 458), (.bool true), (.int 181 0), (.ref 459), .none, (.ref 460), (.ref 461), (.ref 462), (.int 792 0), (.int 243 0), (.str "/claim/cut.py" 793)]), #[]⟩
noncomputable def o_523 : Params → Obj := by
  refine (fun (_ : (?a, ?b, ?s) = fdOf (nthS 32 pB)) P => ⟨(.type "function"), none, .func ⟨"switched", "switched", ?a, .stmts ?b, ?s, 3, [], .none, .none, .none, (.str "paperhold.layers" 645), none, (.ref 463), .none, 0⟩, #[]⟩) ?h
  case h => conv => rhs; whnf
noncomputable def o_524 (P : Params) : Obj := ⟨(.type "dict"), none, (.dict #[en P "__name__" 165 (.str "law_pb0482_01" 817), en P "__doc__" 166 .none, en P "__package__" 167 .none, en P "__loader__" 168 (.builtin "__main__.__loader__#opaque"), en P "__spec__" 169 .none, en P "__annotations__" 170 (.ref 6), en P "__builtins__" 171 (.ref 4), en P "__file__" 173 (.str "/claim/cut.py" 172), en P "__cached__" 174 .none, en P "_wall" 193 (.ref 21), en P "PaperError" 235 (.ref 46), en P "DraftFault" 251 (.ref 59), en P "Decimal" 367 (.ref 155), en P "sign_text" 374 (.ref 166), en P "MOST_HOPS" 378 (.int 30 377), en P "Name" 407 (.ref 183), en P "String" 438 (.ref 205), en P "Stream" 469 (.ref 226), en P "Reference" 507 (.ref 254), en P "kind_of" 514 (.ref 265), en P "told_plain" 522 (.ref 272), en P "told" 528 (.ref 277), en P "told_objects" 529 (.ref 277), en P "Lookup" 581 (.ref 309), en P "Shelf" 644 (.ref 363), en P "word_at" 657 (.ref 372), en P "items_at" 667 (.ref 379), en P "is_group" 676 (.ref 386), en P "groups_in" 686 (.ref 393), en P "layer_head" 694 (.ref 400), en P "group_numbers" 701 (.ref 407), en P "purposes" 707 (.ref 412), en P "Configuration" 748 (.ref 429), en P "configuration_of" 754 (.ref 438), en P "configuration" 762 (.ref 444), en P "counted_groups" 768 (.ref 449), en P "starting_states" 781 (.ref 457), en P "switched" 794 (.ref 464), en P "crowded_rows" 800 (.ref 469), en P "put_layer_head" 810 (.ref 476), en P "put_states" 816 (.ref 481), en P "_law_taker" 828 (.ref 488), en P "_law_picked" 834 (.ref 493), en P "_law_refs" 840 (.ref 498), en P "_law_words" 847 (.ref 505), en P "_law_told_words" 853 (.ref 510), en P "_law_once" 862 (.ref 517), en P "_law_drawn" 868 (.ref 522), en P "_law_starting" 880 (.ref 529), en P "_law_config_right" 886 (.ref 534), en P "_law_switched" 896 (.ref 541)] 51), #[]⟩
noncomputable def o_525 (P : Params) : Obj := ⟨.none, none, (.fields #[(.int 1 0), (.int 0 0), (.ref 20), (.int 5 0), (.int 0 0), (.ref 27), (.int 14 0), (.int 0 0), (.ref 55), (.int 17 0), (.int 0 0), (.ref 67), (.int 62 0), (.int 0 0), (.ref 165), (.int 66 0), (.int 0 0), (.ref 172), (.int 70 0), (.int 0 0), (.ref 193), (.int 75 0), (.int 0 0), (.ref 215), (.int 80 0), (.int 0 0), (.ref 236), (.int 88 0), (.int 0 0), (.ref 264), (.int 110 0), (.int 0 0), (.ref 271), (.int 124 0), (.int 0 0), (.ref 276), (.int 134 0), (.int 0 0), (.ref 283), (.int 153 0), (.int 0 0), (.ref 319), (.int 175 0), (.int 0 0), (.ref 371), (.int 178 0), (.int 0 0), (.ref 378), (.int 181 0), (.int 0 0), (.ref 385), (.int 184 0), (.int 0 0), (.ref 392), (.int 190 0), (.int 0 0), (.ref 399), (.int 193 0), (.int 0 0), (.ref 406), (.int 195 0), (.int 0 0), (.ref 411), (.int 202 0), (.int 0 0), (.ref 418), (.int 212 0), (.int 0 0), (.ref 437), (.int 215 0), (.int 0 0), (.ref 443), (.int 223 0), (.int 0 0), (.ref 448), (.int 231 0), (.int 0 0), (.ref 456), (.int 243 0), (.int 0 0), (.ref 463), (.int 257 0), (.int 0 0), (.ref 468), (.int 263 0), (.int 0 0), (.ref 475), (.int 273 0), (.int 0 0), (.ref 480), (.int 286 0), (.int 0 0), (.ref 487), (.int 298 0), (.int 0 0), (.ref 492), (.int 300 0), (.int 0 0), (.ref 497), (.int 302 0), (.int 0 0), (.ref 504), (.int 304 0), (.int 0 0), (.ref 509), (.int 306 0), (.int 0 0), (.ref 516), (.int 312 0), (.int 0 0), (.ref 521), (.int 328 0), (.int 0 0), (.ref 528), (.int 338 0), (.int 0 0), (.ref 533), (.int 349 0), (.int 0 0), (.ref 540)]), #[]⟩
noncomputable def o_526 (P : Params) : Obj := ⟨(.type "tuple"), none, (.seq #[] 0), #[]⟩
noncomputable def o_527 (P : Params) : Obj := ⟨.none, none, (.fields #[]), #[]⟩
noncomputable def o_528 (P : Params) : Obj := ⟨.none, none, fnp (nthS 33 pB) fun a b s => ⟨"crowded_rows", "crowded_rows", a, b, s, 0, [], .none, .none, .none, .none, none, .none, .none, 0⟩, #[]⟩
noncomputable def o_529 (P : Params) : Obj := ⟨(.type "code"), none, (.fields #[(.str "crowded_rows" 795), (.str "crowded_rows" 796), (.str "/claim/cut.py" 797), (.int 257 0), (.int 2 0), (.int 0 0), (.int 0 0), (.int 3 0), (.ref 465), (.bool true), (.int 181 0), (.ref 466), .none, .none, .none, (.ref 467), (.int 798 0), (.int 257 0), (.str "/claim/cut.py" 799)]), #[]⟩
noncomputable def o_530 : Params → Obj := by
  refine (fun (_ : (?a, ?b, ?s) = fdOf (nthS 33 pB)) P => ⟨(.type "function"), none, .func ⟨"crowded_rows", "crowded_rows", ?a, .stmts ?b, ?s, 3, [], .none, .none, .none, (.str "paperhold.layers" 645), none, (.ref 468), .none, 0⟩, #[]⟩) ?h
  case h => conv => rhs; whnf
noncomputable def o_531 (P : Params) : Obj := ⟨(.type "tuple"), none, (.seq #[] 0), #[]⟩
noncomputable def o_532 (P : Params) : Obj := ⟨.none, none, (.fields #[]), #[]⟩
noncomputable def o_533 (P : Params) : Obj := ⟨(.type "tuple"), none, (.seq #[(.str "shelf" 804), (.str "head" 805), (.str "root" 806), (.str "place" 807)] 0), #[]⟩
noncomputable def o_534 (P : Params) : Obj := ⟨(.type "tuple"), none, (.seq #[] 0), #[]⟩
noncomputable def o_535 (P : Params) : Obj := ⟨.none, none, fnp (nthS 34 pB) fun a b s => ⟨"put_layer_head", "put_layer_head", a, b, s, 0, [], .none, .none, .none, .none, none, .none, .none, 0⟩, #[]⟩
noncomputable def o_536 (P : Params) : Obj := ⟨(.type "code"), none, (.fields #[(.str "put_layer_head" 801), (.str "put_layer_head" 802), (.str "/claim/cut.py" 803), (.int 263 0), (.int 2 0), (.int 0 0), (.int 0 0), (.int 3 0), (.ref 470), (.bool true), (.int 181 0), (.ref 471), .none, (.ref 472), (.ref 473), (.ref 474), (.int 808 0), (.int 263 0), (.str "/claim/cut.py" 809)]), #[]⟩
noncomputable def o_537 : Params → Obj := by
  refine (fun (_ : (?a, ?b, ?s) = fdOf (nthS 34 pB)) P => ⟨(.type "function"), none, .func ⟨"put_layer_head", "put_layer_head", ?a, .stmts ?b, ?s, 3, [], .none, .none, .none, (.str "paperhold.layers" 645), none, (.ref 475), .none, 0⟩, #[]⟩) ?h
  case h => conv => rhs; whnf
noncomputable def o_538 (P : Params) : Obj := ⟨(.type "tuple"), none, (.seq #[] 0), #[]⟩
noncomputable def o_539 (P : Params) : Obj := ⟨.none, none, (.fields #[]), #[]⟩
noncomputable def o_540 (P : Params) : Obj := ⟨.none, none, fnp (nthS 35 pB) fun a b s => ⟨"put_states", "put_states", a, b, s, 0, [], .none, .none, .none, .none, none, .none, .none, 0⟩, #[]⟩
noncomputable def o_541 (P : Params) : Obj := ⟨(.type "code"), none, (.fields #[(.str "put_states" 811), (.str "put_states" 812), (.str "/claim/cut.py" 813), (.int 273 0), (.int 2 0), (.int 0 0), (.int 0 0), (.int 3 0), (.ref 477), (.bool true), (.int 181 0), (.ref 478), .none, .none, .none, (.ref 479), (.int 814 0), (.int 273 0), (.str "/claim/cut.py" 815)]), #[]⟩
noncomputable def o_542 : Params → Obj := by
  refine (fun (_ : (?a, ?b, ?s) = fdOf (nthS 35 pB)) P => ⟨(.type "function"), none, .func ⟨"put_states", "put_states", ?a, .stmts ?b, ?s, 3, [], .none, .none, .none, (.str "paperhold.layers" 645), none, (.ref 480), .none, 0⟩, #[]⟩) ?h
  case h => conv => rhs; whnf
noncomputable def o_543 (P : Params) : Obj := ⟨(.type "tuple"), none, (.seq #[] 0), #[]⟩
noncomputable def o_544 (P : Params) : Obj := ⟨.none, none, (.fields #[]), #[]⟩
noncomputable def o_545 (P : Params) : Obj := ⟨(.type "tuple"), none, (.seq #[(.str "script" 822), (.str "take" 823)] 0), #[]⟩
noncomputable def o_546 (P : Params) : Obj := ⟨(.type "tuple"), none, (.seq #[(.str "cells" 824), (.str "place" 825)] 0), #[]⟩
noncomputable def o_547 (P : Params) : Obj := ⟨.none, none, fnp (nthS 37 pB) fun a b s => ⟨"_law_taker", "_law_taker", a, b, s, 0, [], .none, .none, .none, .none, none, .none, .none, 0⟩, #[]⟩
noncomputable def o_548 (P : Params) : Obj := ⟨(.type "code"), none, (.fields #[(.str "_law_taker" 819), (.str "_law_taker" 820), (.str "/claim/cut.py" 821), (.int 286 0), (.int 1 0), (.int 0 0), (.int 0 0), (.int 3 0), (.ref 482), (.bool true), (.int 181 0), (.ref 483), .none, (.ref 484), (.ref 485), (.ref 486), (.int 826 0), (.int 286 0), (.str "/claim/cut.py" 827)]), #[]⟩
noncomputable def o_549 : Params → Obj := by
  refine (fun (_ : (?a, ?b, ?s) = fdOf (nthS 37 pB)) P => ⟨(.type "function"), none, .func ⟨"_law_taker", "_law_taker", ?a, .stmts ?b, ?s, 3, [], .none, .none, .none, (.str "law_pb0482_01" 817), none, (.ref 487), .none, 0⟩, #[]⟩) ?h
  case h => conv => rhs; whnf
noncomputable def o_550 (P : Params) : Obj := ⟨(.type "tuple"), none, (.seq #[] 0), #[]⟩
noncomputable def o_551 (P : Params) : Obj := ⟨.none, none, (.fields #[]), #[]⟩
noncomputable def o_552 (P : Params) : Obj := ⟨.none, none, fnp (nthS 38 pB) fun a b s => ⟨"_law_picked", "_law_picked", a, b, s, 0, [], .none, .none, .none, .none, none, .none, .none, 0⟩, #[]⟩
noncomputable def o_553 (P : Params) : Obj := ⟨(.type "code"), none, (.fields #[(.str "_law_picked" 829), (.str "_law_picked" 830), (.str "/claim/cut.py" 831), (.int 298 0), (.int 2 0), (.int 0 0), (.int 0 0), (.int 3 0), (.ref 489), (.bool true), (.int 181 0), (.ref 490), .none, .none, .none, (.ref 491), (.int 832 0), (.int 298 0), (.str "/claim/cut.py" 833)]), #[]⟩
noncomputable def o_554 : Params → Obj := by
  refine (fun (_ : (?a, ?b, ?s) = fdOf (nthS 38 pB)) P => ⟨(.type "function"), none, .func ⟨"_law_picked", "_law_picked", ?a, .stmts ?b, ?s, 3, [], .none, .none, .none, (.str "law_pb0482_01" 817), none, (.ref 492), .none, 0⟩, #[]⟩) ?h
  case h => conv => rhs; whnf
noncomputable def o_555 (P : Params) : Obj := ⟨(.type "tuple"), none, (.seq #[] 0), #[]⟩
noncomputable def o_556 (P : Params) : Obj := ⟨.none, none, (.fields #[]), #[]⟩
noncomputable def o_557 (P : Params) : Obj := ⟨.none, none, fnp (nthS 39 pB) fun a b s => ⟨"_law_refs", "_law_refs", a, b, s, 0, [], .none, .none, .none, .none, none, .none, .none, 0⟩, #[]⟩
noncomputable def o_558 (P : Params) : Obj := ⟨(.type "code"), none, (.fields #[(.str "_law_refs" 835), (.str "_law_refs" 836), (.str "/claim/cut.py" 837), (.int 300 0), (.int 1 0), (.int 0 0), (.int 0 0), (.int 3 0), (.ref 494), (.bool true), (.int 181 0), (.ref 495), .none, .none, .none, (.ref 496), (.int 838 0), (.int 300 0), (.str "/claim/cut.py" 839)]), #[]⟩
noncomputable def o_559 : Params → Obj := by
  refine (fun (_ : (?a, ?b, ?s) = fdOf (nthS 39 pB)) P => ⟨(.type "function"), none, .func ⟨"_law_refs", "_law_refs", ?a, .stmts ?b, ?s, 3, [], .none, .none, .none, (.str "law_pb0482_01" 817), none, (.ref 497), .none, 0⟩, #[]⟩) ?h
  case h => conv => rhs; whnf
noncomputable def o_560 (P : Params) : Obj := ⟨(.type "tuple"), none, (.seq #[] 0), #[]⟩
noncomputable def o_561 (P : Params) : Obj := ⟨.none, none, (.fields #[]), #[]⟩
noncomputable def o_562 (P : Params) : Obj := ⟨(.type "tuple"), none, (.seq #[(.str "take" 844)] 0), #[]⟩
noncomputable def o_563 (P : Params) : Obj := ⟨(.type "tuple"), none, (.seq #[] 0), #[]⟩
noncomputable def o_564 (P : Params) : Obj := ⟨.none, none, fnp (nthS 40 pB) fun a b s => ⟨"_law_words", "_law_words", a, b, s, 0, [], .none, .none, .none, .none, none, .none, .none, 0⟩, #[]⟩
noncomputable def o_565 (P : Params) : Obj := ⟨(.type "code"), none, (.fields #[(.str "_law_words" 841), (.str "_law_words" 842), (.str "/claim/cut.py" 843), (.int 302 0), (.int 1 0), (.int 0 0), (.int 0 0), (.int 3 0), (.ref 499), (.bool true), (.int 181 0), (.ref 500), .none, (.ref 501), (.ref 502), (.ref 503), (.int 845 0), (.int 302 0), (.str "/claim/cut.py" 846)]), #[]⟩
noncomputable def o_566 : Params → Obj := by
  refine (fun (_ : (?a, ?b, ?s) = fdOf (nthS 40 pB)) P => ⟨(.type "function"), none, .func ⟨"_law_words", "_law_words", ?a, .stmts ?b, ?s, 3, [], .none, .none, .none, (.str "law_pb0482_01" 817), none, (.ref 504), .none, 0⟩, #[]⟩) ?h
  case h => conv => rhs; whnf
noncomputable def o_567 (P : Params) : Obj := ⟨(.type "tuple"), none, (.seq #[] 0), #[]⟩
noncomputable def o_568 (P : Params) : Obj := ⟨.none, none, (.fields #[]), #[]⟩
noncomputable def o_569 (P : Params) : Obj := ⟨.none, none, fnp (nthS 41 pB) fun a b s => ⟨"_law_told_words", "_law_told_words", a, b, s, 0, [], .none, .none, .none, .none, none, .none, .none, 0⟩, #[]⟩
noncomputable def o_570 (P : Params) : Obj := ⟨(.type "code"), none, (.fields #[(.str "_law_told_words" 848), (.str "_law_told_words" 849), (.str "/claim/cut.py" 850), (.int 304 0), (.int 1 0), (.int 0 0), (.int 0 0), (.int 3 0), (.ref 506), (.bool true), (.int 181 0), (.ref 507), .none, .none, .none, (.ref 508), (.int 851 0), (.int 304 0), (.str "/claim/cut.py" 852)]), #[]⟩
noncomputable def o_571 : Params → Obj := by
  refine (fun (_ : (?a, ?b, ?s) = fdOf (nthS 41 pB)) P => ⟨(.type "function"), none, .func ⟨"_law_told_words", "_law_told_words", ?a, .stmts ?b, ?s, 3, [], .none, .none, .none, (.str "law_pb0482_01" 817), none, (.ref 509), .none, 0⟩, #[]⟩) ?h
  case h => conv => rhs; whnf
noncomputable def o_572 (P : Params) : Obj := ⟨(.type "tuple"), none, (.seq #[] 0), #[]⟩
noncomputable def o_573 (P : Params) : Obj := ⟨.none, none, (.fields #[]), #[]⟩
noncomputable def o_574 (P : Params) : Obj := ⟨(.type "tuple"), none, (.seq #[(.str "numbers" 857), (.str "found" 858), (.str "number" 859)] 0), #[]⟩
noncomputable def o_575 (P : Params) : Obj := ⟨(.type "tuple"), none, (.seq #[] 0), #[]⟩
noncomputable def o_576 (P : Params) : Obj := ⟨.none, none, fnp (nthS 42 pB) fun a b s => ⟨"_law_once", "_law_once", a, b, s, 0, [], .none, .none, .none, .none, none, .none, .none, 0⟩, #[]⟩
noncomputable def o_577 (P : Params) : Obj := ⟨(.type "code"), none, (.fields #[(.str "_law_once" 854), (.str "_law_once" 855), (.str "/claim/cut.py" 856), (.int 306 0), (.int 1 0), (.int 0 0), (.int 0 0), (.int 3 0), (.ref 511), (.bool true), (.int 181 0), (.ref 512), .none, (.ref 513), (.ref 514), (.ref 515), (.int 860 0), (.int 306 0), (.str "/claim/cut.py" 861)]), #[]⟩
noncomputable def o_578 : Params → Obj := by
  refine (fun (_ : (?a, ?b, ?s) = fdOf (nthS 42 pB)) P => ⟨(.type "function"), none, .func ⟨"_law_once", "_law_once", ?a, .stmts ?b, ?s, 3, [], .none, .none, .none, (.str "law_pb0482_01" 817), none, (.ref 516), .none, 0⟩, #[]⟩) ?h
  case h => conv => rhs; whnf
noncomputable def o_579 (P : Params) : Obj := ⟨(.type "tuple"), none, (.seq #[] 0), #[]⟩
noncomputable def o_580 (P : Params) : Obj := ⟨.none, none, (.fields #[]), #[]⟩
noncomputable def o_581 (P : Params) : Obj := ⟨.none, none, fnp (nthS 43 pB) fun a b s => ⟨"_law_drawn", "_law_drawn", a, b, s, 0, [], .none, .none, .none, .none, none, .none, .none, 0⟩, #[]⟩
noncomputable def o_582 (P : Params) : Obj := ⟨(.type "code"), none, (.fields #[(.str "_law_drawn" 863), (.str "_law_drawn" 864), (.str "/claim/cut.py" 865), (.int 312 0), (.int 2 0), (.int 0 0), (.int 0 0), (.int 3 0), (.ref 518), (.bool true), (.int 181 0), (.ref 519), .none, .none, .none, (.ref 520), (.int 866 0), (.int 312 0), (.str "/claim/cut.py" 867)]), #[]⟩
noncomputable def o_583 : Params → Obj := by
  refine (fun (_ : (?a, ?b, ?s) = fdOf (nthS 43 pB)) P => ⟨(.type "function"), none, .func ⟨"_law_drawn", "_law_drawn", ?a, .stmts ?b, ?s, 3, [], .none, .none, .none, (.str "law_pb0482_01" 817), none, (.ref 521), .none, 0⟩, #[]⟩) ?h
  case h => conv => rhs; whnf
noncomputable def o_584 (P : Params) : Obj := ⟨(.type "tuple"), none, (.seq #[] 0), #[]⟩
noncomputable def o_585 (P : Params) : Obj := ⟨.none, none, (.fields #[]), #[]⟩
noncomputable def o_586 (P : Params) : Obj := ⟨(.type "tuple"), none, (.seq #[(.str "numbers" 872), (.str "told_of" 873), (.str "before" 874), (.str "states" 875), (.str "number" 876), (.str "kept" 877)] 0), #[]⟩
noncomputable def o_587 (P : Params) : Obj := ⟨(.type "tuple"), none, (.seq #[] 0), #[]⟩
noncomputable def o_588 (P : Params) : Obj := ⟨.none, none, fnp (nthS 44 pB) fun a b s => ⟨"_law_starting", "_law_starting", a, b, s, 0, [], .none, .none, .none, .none, none, .none, .none, 0⟩, #[]⟩
noncomputable def o_589 (P : Params) : Obj := ⟨(.type "code"), none, (.fields #[(.str "_law_starting" 869), (.str "_law_starting" 870), (.str "/claim/cut.py" 871), (.int 328 0), (.int 3 0), (.int 0 0), (.int 0 0), (.int 3 0), (.ref 523), (.bool true), (.int 181 0), (.ref 524), .none, (.ref 525), (.ref 526), (.ref 527), (.int 878 0), (.int 328 0), (.str "/claim/cut.py" 879)]), #[]⟩
noncomputable def o_590 : Params → Obj := by
  refine (fun (_ : (?a, ?b, ?s) = fdOf (nthS 44 pB)) P => ⟨(.type "function"), none, .func ⟨"_law_starting", "_law_starting", ?a, .stmts ?b, ?s, 3, [], .none, .none, .none, (.str "law_pb0482_01" 817), none, (.ref 528), .none, 0⟩, #[]⟩) ?h
  case h => conv => rhs; whnf
noncomputable def o_591 (P : Params) : Obj := ⟨(.type "tuple"), none, (.seq #[] 0), #[]⟩
noncomputable def o_592 (P : Params) : Obj := ⟨.none, none, (.fields #[]), #[]⟩
noncomputable def o_593 (P : Params) : Obj := ⟨.none, none, fnp (nthS 45 pB) fun a b s => ⟨"_law_config_right", "_law_config_right", a, b, s, 0, [], .none, .none, .none, .none, none, .none, .none, 0⟩, #[]⟩
noncomputable def o_594 (P : Params) : Obj := ⟨(.type "code"), none, (.fields #[(.str "_law_config_right" 881), (.str "_law_config_right" 882), (.str "/claim/cut.py" 883), (.int 338 0), (.int 6 0), (.int 0 0), (.int 0 0), (.int 3 0), (.ref 530), (.bool true), (.int 181 0), (.ref 531), .none, .none, .none, (.ref 532), (.int 884 0), (.int 338 0), (.str "/claim/cut.py" 885)]), #[]⟩
noncomputable def o_595 : Params → Obj := by
  refine (fun (_ : (?a, ?b, ?s) = fdOf (nthS 45 pB)) P => ⟨(.type "function"), none, .func ⟨"_law_config_right", "_law_config_right", ?a, .stmts ?b, ?s, 3, [], .none, .none, .none, (.str "law_pb0482_01" 817), none, (.ref 533), .none, 0⟩, #[]⟩) ?h
  case h => conv => rhs; whnf
noncomputable def o_596 (P : Params) : Obj := ⟨(.type "tuple"), none, (.seq #[] 0), #[]⟩
noncomputable def o_597 (P : Params) : Obj := ⟨.none, none, (.fields #[]), #[]⟩
noncomputable def o_598 (P : Params) : Obj := ⟨(.type "tuple"), none, (.seq #[(.str "states" 890), (.str "config" 891), (.str "number" 892), (.str "is_on" 893)] 0), #[]⟩
noncomputable def o_599 (P : Params) : Obj := ⟨(.type "tuple"), none, (.seq #[] 0), #[]⟩
noncomputable def o_600 (P : Params) : Obj := ⟨.none, none, fnp (nthS 46 pB) fun a b s => ⟨"_law_switched", "_law_switched", a, b, s, 0, [], .none, .none, .none, .none, none, .none, .none, 0⟩, #[]⟩
noncomputable def o_601 (P : Params) : Obj := ⟨(.type "code"), none, (.fields #[(.str "_law_switched" 887), (.str "_law_switched" 888), (.str "/claim/cut.py" 889), (.int 349 0), (.int 4 0), (.int 0 0), (.int 0 0), (.int 3 0), (.ref 535), (.bool true), (.int 181 0), (.ref 536), .none, (.ref 537), (.ref 538), (.ref 539), (.int 894 0), (.int 349 0), (.str "/claim/cut.py" 895)]), #[]⟩
noncomputable def o_602 : Params → Obj := by
  refine (fun (_ : (?a, ?b, ?s) = fdOf (nthS 46 pB)) P => ⟨(.type "function"), none, .func ⟨"_law_switched", "_law_switched", ?a, .stmts ?b, ?s, 3, [], .none, .none, .none, (.str "law_pb0482_01" 817), none, (.ref 540), .none, 0⟩, #[]⟩) ?h
  case h => conv => rhs; whnf
noncomputable def o_603 (P : Params) : Obj := ⟨(.type "dict"), none, (.dict #[en P "__name__" 165 (.str "law_pb0482_01" 817), en P "__doc__" 166 .none, en P "__package__" 167 .none, en P "__loader__" 168 (.builtin "__main__.__loader__#opaque"), en P "__spec__" 169 .none, en P "__annotations__" 170 (.ref 6), en P "__builtins__" 171 (.ref 4), en P "__file__" 173 (.str "/claim/cut.py" 172), en P "__cached__" 174 .none, en P "_wall" 193 (.ref 21), en P "PaperError" 235 (.ref 46), en P "DraftFault" 251 (.ref 59), en P "Decimal" 367 (.ref 155), en P "sign_text" 374 (.ref 166), en P "MOST_HOPS" 378 (.int 30 377), en P "Name" 407 (.ref 183), en P "String" 438 (.ref 205), en P "Stream" 469 (.ref 226), en P "Reference" 507 (.ref 254), en P "kind_of" 514 (.ref 265), en P "told_plain" 522 (.ref 272), en P "told" 528 (.ref 277), en P "told_objects" 529 (.ref 277), en P "Lookup" 581 (.ref 309), en P "Shelf" 644 (.ref 363), en P "word_at" 657 (.ref 372), en P "items_at" 667 (.ref 379), en P "is_group" 676 (.ref 386), en P "groups_in" 686 (.ref 393), en P "layer_head" 694 (.ref 400), en P "group_numbers" 701 (.ref 407), en P "purposes" 707 (.ref 412), en P "Configuration" 748 (.ref 429), en P "configuration_of" 754 (.ref 438), en P "configuration" 762 (.ref 444), en P "counted_groups" 768 (.ref 449), en P "starting_states" 781 (.ref 457), en P "switched" 794 (.ref 464), en P "crowded_rows" 800 (.ref 469), en P "put_layer_head" 810 (.ref 476), en P "put_states" 816 (.ref 481), en P "_law_taker" 828 (.ref 488), en P "_law_picked" 834 (.ref 493), en P "_law_refs" 840 (.ref 498), en P "_law_words" 847 (.ref 505), en P "_law_told_words" 853 (.ref 510), en P "_law_once" 862 (.ref 517), en P "_law_drawn" 868 (.ref 522), en P "_law_starting" 880 (.ref 529), en P "_law_config_right" 886 (.ref 534), en P "_law_switched" 896 (.ref 541), en P "_law_is_lacking" 904 (.ref 548), en P "law" 910 (.ref 553)] 53), #[]⟩
noncomputable def o_604 (P : Params) : Obj := ⟨.none, none, (.fields #[(.int 1 0), (.int 0 0), (.ref 20), (.int 5 0), (.int 0 0), (.ref 27), (.int 14 0), (.int 0 0), (.ref 55), (.int 17 0), (.int 0 0), (.ref 67), (.int 62 0), (.int 0 0), (.ref 165), (.int 66 0), (.int 0 0), (.ref 172), (.int 70 0), (.int 0 0), (.ref 193), (.int 75 0), (.int 0 0), (.ref 215), (.int 80 0), (.int 0 0), (.ref 236), (.int 88 0), (.int 0 0), (.ref 264), (.int 110 0), (.int 0 0), (.ref 271), (.int 124 0), (.int 0 0), (.ref 276), (.int 134 0), (.int 0 0), (.ref 283), (.int 153 0), (.int 0 0), (.ref 319), (.int 175 0), (.int 0 0), (.ref 371), (.int 178 0), (.int 0 0), (.ref 378), (.int 181 0), (.int 0 0), (.ref 385), (.int 184 0), (.int 0 0), (.ref 392), (.int 190 0), (.int 0 0), (.ref 399), (.int 193 0), (.int 0 0), (.ref 406), (.int 195 0), (.int 0 0), (.ref 411), (.int 202 0), (.int 0 0), (.ref 418), (.int 212 0), (.int 0 0), (.ref 437), (.int 215 0), (.int 0 0), (.ref 443), (.int 223 0), (.int 0 0), (.ref 448), (.int 231 0), (.int 0 0), (.ref 456), (.int 243 0), (.int 0 0), (.ref 463), (.int 257 0), (.int 0 0), (.ref 468), (.int 263 0), (.int 0 0), (.ref 475), (.int 273 0), (.int 0 0), (.ref 480), (.int 286 0), (.int 0 0), (.ref 487), (.int 298 0), (.int 0 0), (.ref 492), (.int 300 0), (.int 0 0), (.ref 497), (.int 302 0), (.int 0 0), (.ref 504), (.int 304 0), (.int 0 0), (.ref 509), (.int 306 0), (.int 0 0), (.ref 516), (.int 312 0), (.int 0 0), (.ref 521), (.int 328 0), (.int 0 0), (.ref 528), (.int 338 0), (.int 0 0), (.ref 533), (.int 349 0), (.int 0 0), (.ref 540), (.int 354 0), (.int 0 0), (.ref 547), (.int 360 0), (.int 0 0), (.ref 552)]), #[]⟩
noncomputable def o_605 (P : Params) : Obj := ⟨(.type "tuple"), none, (.seq #[] 0), #[]⟩
noncomputable def o_606 (P : Params) : Obj := ⟨.none, none, (.fields #[]), #[]⟩
noncomputable def o_607 (P : Params) : Obj := ⟨(.type "tuple"), none, (.seq #[(.str "shelf" 900), (.str "index" 901)] 0), #[]⟩
noncomputable def o_608 (P : Params) : Obj := ⟨(.type "tuple"), none, (.seq #[] 0), #[]⟩
noncomputable def o_609 (P : Params) : Obj := ⟨.none, none, fnp (nthS 47 pB) fun a b s => ⟨"_law_is_lacking", "_law_is_lacking", a, b, s, 0, [], .none, .none, .none, .none, none, .none, .none, 0⟩, #[]⟩
noncomputable def o_610 (P : Params) : Obj := ⟨(.type "code"), none, (.fields #[(.str "_law_is_lacking" 897), (.str "_law_is_lacking" 898), (.str "/claim/cut.py" 899), (.int 354 0), (.int 2 0), (.int 0 0), (.int 0 0), (.int 3 0), (.ref 542), (.bool true), (.int 181 0), (.ref 543), .none, (.ref 544), (.ref 545), (.ref 546), (.int 902 0), (.int 354 0), (.str "/claim/cut.py" 903)]), #[]⟩
noncomputable def o_611 : Params → Obj := by
  refine (fun (_ : (?a, ?b, ?s) = fdOf (nthS 47 pB)) P => ⟨(.type "function"), none, .func ⟨"_law_is_lacking", "_law_is_lacking", ?a, .stmts ?b, ?s, 3, [], .none, .none, .none, (.str "law_pb0482_01" 817), none, (.ref 547), .none, 0⟩, #[]⟩) ?h
  case h => conv => rhs; whnf
noncomputable def o_612 (P : Params) : Obj := ⟨(.type "tuple"), none, (.seq #[] 0), #[]⟩
noncomputable def o_613 (P : Params) : Obj := ⟨.none, none, (.fields #[]), #[]⟩
noncomputable def o_614 (P : Params) : Obj := ⟨.none, none, fnp (nthS 48 pB) fun a b s => ⟨"law", "law", a, b, s, 0, [], .none, .none, .none, .none, none, .none, .none, 0⟩, #[]⟩
noncomputable def o_615 (P : Params) : Obj := ⟨(.type "code"), none, (.fields #[(.str "law" 905), (.str "law" 906), (.str "/claim/cut.py" 907), (.int 360 0), (.int 1 0), (.int 0 0), (.int 0 0), (.int 3 0), (.ref 549), (.bool true), (.int 181 0), (.ref 550), .none, .none, .none, (.ref 551), (.int 908 0), (.int 360 0), (.str "/claim/cut.py" 909)]), #[]⟩
noncomputable def o_616 : Params → Obj := by
  refine (fun (_ : (?a, ?b, ?s) = fdOf (nthS 48 pB)) P => ⟨(.type "function"), none, .func ⟨"law", "law", ?a, .stmts ?b, ?s, 3, [], .none, .none, .none, (.str "law_pb0482_01" 817), none, (.ref 552), .none, 0⟩, #[]⟩) ?h
  case h => conv => rhs; whnf
noncomputable def tree_47 (P : Params) : BT := N (boot_o_0 P) (N (boot_o_1 P) (N (boot_o_3 P) (N (boot_o_7 P) Z Z) (N (o_43 P) Z Z)) (N (boot_o_5 P) (N (boot_o_9 P) Z Z) (N (o_45 P) Z Z))) (N (boot_o_2 P) (N (boot_o_4 P) (N (boot_o_8 P) Z Z) (N (o_44 P) Z Z)) (N (boot_o_6 P) (N (boot_o_10 P) Z Z) (N (o_46 P) Z Z)))
noncomputable def tree_86 (P : Params) : BT := N (boot_o_0 P) (N (boot_o_1 P) (N (o_50 P) (N (boot_o_7 P) (N (o_52 P) (N (o_68 P) Z Z) (N (o_84 P) Z Z)) (N (o_60 P) (N (o_76 P) Z Z) Z)) (N (o_43 P) (N (o_56 P) (N (o_72 P) Z Z) Z) (N (o_64 P) (N (o_80 P) Z Z) Z))) (N (boot_o_5 P) (N (boot_o_9 P) (N (o_54 P) (N (o_70 P) Z Z) (N (o_86 P) Z Z)) (N (o_62 P) (N (o_78 P) Z Z) Z)) (N (o_45 P) (N (o_58 P) (N (o_74 P) Z Z) Z) (N (o_66 P) (N (o_82 P) Z Z) Z)))) (N (o_49 P) (N (boot_o_4 P) (N (boot_o_8 P) (N (o_53 P) (N (o_69 P) Z Z) (N (o_85 P) Z Z)) (N (o_61 P) (N (o_77 P) Z Z) Z)) (N (o_51 P) (N (o_57 P) (N (o_73 P) Z Z) Z) (N (o_65 P) (N (o_81 P) Z Z) Z))) (N (boot_o_6 P) (N (boot_o_10 P) (N (o_55 P) (N (o_71 P) Z Z) Z) (N (o_63 P) (N (o_79 P) Z Z) Z)) (N (o_46 P) (N (o_59 P) (N (o_75 P) Z Z) Z) (N (o_67 P) (N (o_83 P) Z Z) Z))))
noncomputable def tree_101 (P : Params) : BT := N (boot_o_0 P) (N (boot_o_1 P) (N (o_87 P) (N (boot_o_7 P) (N (o_52 P) (N (o_68 P) Z Z) (N (o_84 P) Z Z)) (N (o_60 P) (N (o_76 P) Z Z) (N (o_95 P) Z Z))) (N (o_43 P) (N (o_56 P) (N (o_72 P) Z Z) (N (o_91 P) Z Z)) (N (o_64 P) (N (o_80 P) Z Z) (N (o_99 P) Z Z)))) (N (boot_o_5 P) (N (boot_o_9 P) (N (o_54 P) (N (o_70 P) Z Z) (N (o_86 P) Z Z)) (N (o_62 P) (N (o_78 P) Z Z) (N (o_97 P) Z Z))) (N (o_45 P) (N (o_58 P) (N (o_74 P) Z Z) (N (o_93 P) Z Z)) (N (o_66 P) (N (o_82 P) Z Z) (N (o_101 P) Z Z))))) (N (o_49 P) (N (boot_o_4 P) (N (boot_o_8 P) (N (o_53 P) (N (o_69 P) Z Z) (N (o_85 P) Z Z)) (N (o_61 P) (N (o_77 P) Z Z) (N (o_96 P) Z Z))) (N (o_88 P) (N (o_57 P) (N (o_73 P) Z Z) (N (o_92 P) Z Z)) (N (o_65 P) (N (o_81 P) Z Z) (N (o_100 P) Z Z)))) (N (boot_o_6 P) (N (boot_o_10 P) (N (o_55 P) (N (o_71 P) Z Z) (N (o_90 P) Z Z)) (N (o_63 P) (N (o_79 P) Z Z) (N (o_98 P) Z Z))) (N (o_46 P) (N (o_59 P) (N (o_75 P) Z Z) (N (o_94 P) Z Z)) (N (o_67 P) (N (o_89 P) Z Z) Z))))
noncomputable def tree_201 (P : Params) : BT := N (boot_o_0 P) (N (boot_o_1 P) (N (o_102 P) (N (boot_o_7 P) (N (o_52 P) (N (o_68 P) (N (o_105 P) (N (o_169 P) Z Z) Z) (N (o_137 P) (N (o_201 P) Z Z) Z)) (N (o_84 P) (N (o_121 P) (N (o_185 P) Z Z) Z) (N (o_153 P) Z Z))) (N (o_60 P) (N (o_76 P) (N (o_113 P) (N (o_177 P) Z Z) Z) (N (o_145 P) Z Z)) (N (o_95 P) (N (o_129 P) (N (o_193 P) Z Z) Z) (N (o_161 P) Z Z)))) (N (o_43 P) (N (o_56 P) (N (o_72 P) (N (o_109 P) (N (o_173 P) Z Z) Z) (N (o_141 P) Z Z)) (N (o_91 P) (N (o_125 P) (N (o_189 P) Z Z) Z) (N (o_157 P) Z Z))) (N (o_64 P) (N (o_80 P) (N (o_117 P) (N (o_181 P) Z Z) Z) (N (o_149 P) Z Z)) (N (o_99 P) (N (o_133 P) (N (o_197 P) Z Z) Z) (N (o_165 P) Z Z))))) (N (boot_o_5 P) (N (boot_o_9 P) (N (o_54 P) (N (o_70 P) (N (o_107 P) (N (o_171 P) Z Z) Z) (N (o_139 P) Z Z)) (N (o_86 P) (N (o_123 P) (N (o_187 P) Z Z) Z) (N (o_155 P) Z Z))) (N (o_62 P) (N (o_78 P) (N (o_115 P) (N (o_179 P) Z Z) Z) (N (o_147 P) Z Z)) (N (o_97 P) (N (o_131 P) (N (o_195 P) Z Z) Z) (N (o_163 P) Z Z)))) (N (o_45 P) (N (o_58 P) (N (o_74 P) (N (o_111 P) (N (o_175 P) Z Z) Z) (N (o_143 P) Z Z)) (N (o_93 P) (N (o_127 P) (N (o_191 P) Z Z) Z) (N (o_159 P) Z Z))) (N (o_66 P) (N (o_82 P) (N (o_119 P) (N (o_183 P) Z Z) Z) (N (o_151 P) Z Z)) (N (o_101 P) (N (o_135 P) (N (o_199 P) Z Z) Z) (N (o_167 P) Z Z)))))) (N (o_49 P) (N (boot_o_4 P) (N (boot_o_8 P) (N (o_53 P) (N (o_69 P) (N (o_106 P) (N (o_170 P) Z Z) Z) (N (o_138 P) Z Z)) (N (o_85 P) (N (o_122 P) (N (o_186 P) Z Z) Z) (N (o_154 P) Z Z))) (N (o_61 P) (N (o_77 P) (N (o_114 P) (N (o_178 P) Z Z) Z) (N (o_146 P) Z Z)) (N (o_96 P) (N (o_130 P) (N (o_194 P) Z Z) Z) (N (o_162 P) Z Z)))) (N (o_103 P) (N (o_57 P) (N (o_73 P) (N (o_110 P) (N (o_174 P) Z Z) Z) (N (o_142 P) Z Z)) (N (o_92 P) (N (o_126 P) (N (o_190 P) Z Z) Z) (N (o_158 P) Z Z))) (N (o_65 P) (N (o_81 P) (N (o_118 P) (N (o_182 P) Z Z) Z) (N (o_150 P) Z Z)) (N (o_100 P) (N (o_134 P) (N (o_198 P) Z Z) Z) (N (o_166 P) Z Z))))) (N (boot_o_6 P) (N (boot_o_10 P) (N (o_55 P) (N (o_71 P) (N (o_108 P) (N (o_172 P) Z Z) Z) (N (o_140 P) Z Z)) (N (o_90 P) (N (o_124 P) (N (o_188 P) Z Z) Z) (N (o_156 P) Z Z))) (N (o_63 P) (N (o_79 P) (N (o_116 P) (N (o_180 P) Z Z) Z) (N (o_148 P) Z Z)) (N (o_98 P) (N (o_132 P) (N (o_196 P) Z Z) Z) (N (o_164 P) Z Z)))) (N (o_46 P) (N (o_59 P) (N (o_75 P) (N (o_112 P) (N (o_176 P) Z Z) Z) (N (o_144 P) Z Z)) (N (o_94 P) (N (o_128 P) (N (o_192 P) Z Z) Z) (N (o_160 P) Z Z))) (N (o_67 P) (N (o_89 P) (N (o_120 P) (N (o_184 P) Z Z) Z) (N (o_152 P) Z Z)) (N (o_104 P) (N (o_136 P) (N (o_200 P) Z Z) Z) (N (o_168 P) Z Z))))))
noncomputable def tree_231 (P : Params) : BT := N (boot_o_0 P) (N (boot_o_1 P) (N (o_202 P) (N (boot_o_7 P) (N (o_52 P) (N (o_68 P) (N (o_105 P) (N (o_169 P) Z Z) Z) (N (o_137 P) (N (o_201 P) Z Z) Z)) (N (o_84 P) (N (o_121 P) (N (o_185 P) Z Z) Z) (N (o_153 P) (N (o_219 P) Z Z) Z))) (N (o_60 P) (N (o_76 P) (N (o_113 P) (N (o_177 P) Z Z) Z) (N (o_145 P) (N (o_211 P) Z Z) Z)) (N (o_95 P) (N (o_129 P) (N (o_193 P) Z Z) Z) (N (o_161 P) (N (o_227 P) Z Z) Z)))) (N (o_43 P) (N (o_56 P) (N (o_72 P) (N (o_109 P) (N (o_173 P) Z Z) Z) (N (o_141 P) (N (o_207 P) Z Z) Z)) (N (o_91 P) (N (o_125 P) (N (o_189 P) Z Z) Z) (N (o_157 P) (N (o_223 P) Z Z) Z))) (N (o_64 P) (N (o_80 P) (N (o_117 P) (N (o_181 P) Z Z) Z) (N (o_149 P) (N (o_215 P) Z Z) Z)) (N (o_99 P) (N (o_133 P) (N (o_197 P) Z Z) Z) (N (o_165 P) (N (o_231 P) Z Z) Z))))) (N (boot_o_5 P) (N (boot_o_9 P) (N (o_54 P) (N (o_70 P) (N (o_107 P) (N (o_171 P) Z Z) Z) (N (o_139 P) (N (o_205 P) Z Z) Z)) (N (o_86 P) (N (o_123 P) (N (o_187 P) Z Z) Z) (N (o_155 P) (N (o_221 P) Z Z) Z))) (N (o_62 P) (N (o_78 P) (N (o_115 P) (N (o_179 P) Z Z) Z) (N (o_147 P) (N (o_213 P) Z Z) Z)) (N (o_97 P) (N (o_131 P) (N (o_195 P) Z Z) Z) (N (o_163 P) (N (o_229 P) Z Z) Z)))) (N (o_45 P) (N (o_58 P) (N (o_74 P) (N (o_111 P) (N (o_175 P) Z Z) Z) (N (o_143 P) (N (o_209 P) Z Z) Z)) (N (o_93 P) (N (o_127 P) (N (o_191 P) Z Z) Z) (N (o_159 P) (N (o_225 P) Z Z) Z))) (N (o_66 P) (N (o_82 P) (N (o_119 P) (N (o_183 P) Z Z) Z) (N (o_151 P) (N (o_217 P) Z Z) Z)) (N (o_101 P) (N (o_135 P) (N (o_199 P) Z Z) Z) (N (o_167 P) Z Z)))))) (N (o_49 P) (N (boot_o_4 P) (N (boot_o_8 P) (N (o_53 P) (N (o_69 P) (N (o_106 P) (N (o_170 P) Z Z) Z) (N (o_138 P) (N (o_204 P) Z Z) Z)) (N (o_85 P) (N (o_122 P) (N (o_186 P) Z Z) Z) (N (o_154 P) (N (o_220 P) Z Z) Z))) (N (o_61 P) (N (o_77 P) (N (o_114 P) (N (o_178 P) Z Z) Z) (N (o_146 P) (N (o_212 P) Z Z) Z)) (N (o_96 P) (N (o_130 P) (N (o_194 P) Z Z) Z) (N (o_162 P) (N (o_228 P) Z Z) Z)))) (N (o_203 P) (N (o_57 P) (N (o_73 P) (N (o_110 P) (N (o_174 P) Z Z) Z) (N (o_142 P) (N (o_208 P) Z Z) Z)) (N (o_92 P) (N (o_126 P) (N (o_190 P) Z Z) Z) (N (o_158 P) (N (o_224 P) Z Z) Z))) (N (o_65 P) (N (o_81 P) (N (o_118 P) (N (o_182 P) Z Z) Z) (N (o_150 P) (N (o_216 P) Z Z) Z)) (N (o_100 P) (N (o_134 P) (N (o_198 P) Z Z) Z) (N (o_166 P) Z Z))))) (N (boot_o_6 P) (N (boot_o_10 P) (N (o_55 P) (N (o_71 P) (N (o_108 P) (N (o_172 P) Z Z) Z) (N (o_140 P) (N (o_206 P) Z Z) Z)) (N (o_90 P) (N (o_124 P) (N (o_188 P) Z Z) Z) (N (o_156 P) (N (o_222 P) Z Z) Z))) (N (o_63 P) (N (o_79 P) (N (o_116 P) (N (o_180 P) Z Z) Z) (N (o_148 P) (N (o_214 P) Z Z) Z)) (N (o_98 P) (N (o_132 P) (N (o_196 P) Z Z) Z) (N (o_164 P) (N (o_230 P) Z Z) Z)))) (N (o_46 P) (N (o_59 P) (N (o_75 P) (N (o_112 P) (N (o_176 P) Z Z) Z) (N (o_144 P) (N (o_210 P) Z Z) Z)) (N (o_94 P) (N (o_128 P) (N (o_192 P) Z Z) Z) (N (o_160 P) (N (o_226 P) Z Z) Z))) (N (o_67 P) (N (o_89 P) (N (o_120 P) (N (o_184 P) Z Z) Z) (N (o_152 P) (N (o_218 P) Z Z) Z)) (N (o_104 P) (N (o_136 P) (N (o_200 P) Z Z) Z) (N (o_168 P) Z Z))))))
noncomputable def tree_255 (P : Params) : BT := N (boot_o_0 P) (N (boot_o_1 P) (N (o_232 P) (N (boot_o_7 P) (N (o_52 P) (N (o_68 P) (N (o_105 P) (N (o_169 P) Z Z) (N (o_237 P) Z Z)) (N (o_137 P) (N (o_201 P) Z Z) Z)) (N (o_84 P) (N (o_121 P) (N (o_185 P) Z Z) (N (o_253 P) Z Z)) (N (o_153 P) (N (o_219 P) Z Z) Z))) (N (o_60 P) (N (o_76 P) (N (o_113 P) (N (o_177 P) Z Z) (N (o_245 P) Z Z)) (N (o_145 P) (N (o_211 P) Z Z) Z)) (N (o_95 P) (N (o_129 P) (N (o_193 P) Z Z) Z) (N (o_161 P) (N (o_227 P) Z Z) Z)))) (N (o_43 P) (N (o_56 P) (N (o_72 P) (N (o_109 P) (N (o_173 P) Z Z) (N (o_241 P) Z Z)) (N (o_141 P) (N (o_207 P) Z Z) Z)) (N (o_91 P) (N (o_125 P) (N (o_189 P) Z Z) Z) (N (o_157 P) (N (o_223 P) Z Z) Z))) (N (o_64 P) (N (o_80 P) (N (o_117 P) (N (o_181 P) Z Z) (N (o_249 P) Z Z)) (N (o_149 P) (N (o_215 P) Z Z) Z)) (N (o_99 P) (N (o_133 P) (N (o_197 P) Z Z) Z) (N (o_165 P) (N (o_231 P) Z Z) Z))))) (N (boot_o_5 P) (N (boot_o_9 P) (N (o_54 P) (N (o_70 P) (N (o_107 P) (N (o_171 P) Z Z) (N (o_239 P) Z Z)) (N (o_139 P) (N (o_205 P) Z Z) Z)) (N (o_86 P) (N (o_123 P) (N (o_187 P) Z Z) (N (o_255 P) Z Z)) (N (o_155 P) (N (o_221 P) Z Z) Z))) (N (o_62 P) (N (o_78 P) (N (o_115 P) (N (o_179 P) Z Z) (N (o_247 P) Z Z)) (N (o_147 P) (N (o_213 P) Z Z) Z)) (N (o_97 P) (N (o_131 P) (N (o_195 P) Z Z) Z) (N (o_163 P) (N (o_229 P) Z Z) Z)))) (N (o_45 P) (N (o_58 P) (N (o_74 P) (N (o_111 P) (N (o_175 P) Z Z) (N (o_243 P) Z Z)) (N (o_143 P) (N (o_209 P) Z Z) Z)) (N (o_93 P) (N (o_127 P) (N (o_191 P) Z Z) Z) (N (o_159 P) (N (o_225 P) Z Z) Z))) (N (o_66 P) (N (o_82 P) (N (o_119 P) (N (o_183 P) Z Z) (N (o_251 P) Z Z)) (N (o_151 P) (N (o_217 P) Z Z) Z)) (N (o_101 P) (N (o_135 P) (N (o_199 P) Z Z) Z) (N (o_167 P) (N (o_235 P) Z Z) Z)))))) (N (o_49 P) (N (boot_o_4 P) (N (boot_o_8 P) (N (o_53 P) (N (o_69 P) (N (o_106 P) (N (o_170 P) Z Z) (N (o_238 P) Z Z)) (N (o_138 P) (N (o_204 P) Z Z) Z)) (N (o_85 P) (N (o_122 P) (N (o_186 P) Z Z) (N (o_254 P) Z Z)) (N (o_154 P) (N (o_220 P) Z Z) Z))) (N (o_61 P) (N (o_77 P) (N (o_114 P) (N (o_178 P) Z Z) (N (o_246 P) Z Z)) (N (o_146 P) (N (o_212 P) Z Z) Z)) (N (o_96 P) (N (o_130 P) (N (o_194 P) Z Z) Z) (N (o_162 P) (N (o_228 P) Z Z) Z)))) (N (o_233 P) (N (o_57 P) (N (o_73 P) (N (o_110 P) (N (o_174 P) Z Z) (N (o_242 P) Z Z)) (N (o_142 P) (N (o_208 P) Z Z) Z)) (N (o_92 P) (N (o_126 P) (N (o_190 P) Z Z) Z) (N (o_158 P) (N (o_224 P) Z Z) Z))) (N (o_65 P) (N (o_81 P) (N (o_118 P) (N (o_182 P) Z Z) (N (o_250 P) Z Z)) (N (o_150 P) (N (o_216 P) Z Z) Z)) (N (o_100 P) (N (o_134 P) (N (o_198 P) Z Z) Z) (N (o_166 P) (N (o_234 P) Z Z) Z))))) (N (boot_o_6 P) (N (boot_o_10 P) (N (o_55 P) (N (o_71 P) (N (o_108 P) (N (o_172 P) Z Z) (N (o_240 P) Z Z)) (N (o_140 P) (N (o_206 P) Z Z) Z)) (N (o_90 P) (N (o_124 P) (N (o_188 P) Z Z) Z) (N (o_156 P) (N (o_222 P) Z Z) Z))) (N (o_63 P) (N (o_79 P) (N (o_116 P) (N (o_180 P) Z Z) (N (o_248 P) Z Z)) (N (o_148 P) (N (o_214 P) Z Z) Z)) (N (o_98 P) (N (o_132 P) (N (o_196 P) Z Z) Z) (N (o_164 P) (N (o_230 P) Z Z) Z)))) (N (o_46 P) (N (o_59 P) (N (o_75 P) (N (o_112 P) (N (o_176 P) Z Z) (N (o_244 P) Z Z)) (N (o_144 P) (N (o_210 P) Z Z) Z)) (N (o_94 P) (N (o_128 P) (N (o_192 P) Z Z) Z) (N (o_160 P) (N (o_226 P) Z Z) Z))) (N (o_67 P) (N (o_89 P) (N (o_120 P) (N (o_184 P) Z Z) (N (o_252 P) Z Z)) (N (o_152 P) (N (o_218 P) Z Z) Z)) (N (o_104 P) (N (o_136 P) (N (o_200 P) Z Z) Z) (N (o_168 P) (N (o_236 P) Z Z) Z))))))
noncomputable def tree_278 (P : Params) : BT := N (boot_o_0 P) (N (boot_o_1 P) (N (o_256 P) (N (boot_o_7 P) (N (o_52 P) (N (o_68 P) (N (o_105 P) (N (o_169 P) Z Z) (N (o_237 P) Z Z)) (N (o_137 P) (N (o_201 P) Z Z) (N (o_271 P) Z Z))) (N (o_84 P) (N (o_121 P) (N (o_185 P) Z Z) (N (o_253 P) Z Z)) (N (o_153 P) (N (o_219 P) Z Z) Z))) (N (o_60 P) (N (o_76 P) (N (o_113 P) (N (o_177 P) Z Z) (N (o_245 P) Z Z)) (N (o_145 P) (N (o_211 P) Z Z) Z)) (N (o_95 P) (N (o_129 P) (N (o_193 P) Z Z) (N (o_263 P) Z Z)) (N (o_161 P) (N (o_227 P) Z Z) Z)))) (N (o_43 P) (N (o_56 P) (N (o_72 P) (N (o_109 P) (N (o_173 P) Z Z) (N (o_241 P) Z Z)) (N (o_141 P) (N (o_207 P) Z Z) (N (o_275 P) Z Z))) (N (o_91 P) (N (o_125 P) (N (o_189 P) Z Z) (N (o_259 P) Z Z)) (N (o_157 P) (N (o_223 P) Z Z) Z))) (N (o_64 P) (N (o_80 P) (N (o_117 P) (N (o_181 P) Z Z) (N (o_249 P) Z Z)) (N (o_149 P) (N (o_215 P) Z Z) Z)) (N (o_99 P) (N (o_133 P) (N (o_197 P) Z Z) (N (o_267 P) Z Z)) (N (o_165 P) (N (o_231 P) Z Z) Z))))) (N (boot_o_5 P) (N (boot_o_9 P) (N (o_54 P) (N (o_70 P) (N (o_107 P) (N (o_171 P) Z Z) (N (o_239 P) Z Z)) (N (o_139 P) (N (o_205 P) Z Z) (N (o_273 P) Z Z))) (N (o_86 P) (N (o_123 P) (N (o_187 P) Z Z) (N (o_255 P) Z Z)) (N (o_155 P) (N (o_221 P) Z Z) Z))) (N (o_62 P) (N (o_78 P) (N (o_115 P) (N (o_179 P) Z Z) (N (o_247 P) Z Z)) (N (o_147 P) (N (o_213 P) Z Z) Z)) (N (o_97 P) (N (o_131 P) (N (o_195 P) Z Z) (N (o_265 P) Z Z)) (N (o_163 P) (N (o_229 P) Z Z) Z)))) (N (o_45 P) (N (o_58 P) (N (o_74 P) (N (o_111 P) (N (o_175 P) Z Z) (N (o_243 P) Z Z)) (N (o_143 P) (N (o_209 P) Z Z) (N (o_277 P) Z Z))) (N (o_93 P) (N (o_127 P) (N (o_191 P) Z Z) (N (o_261 P) Z Z)) (N (o_159 P) (N (o_225 P) Z Z) Z))) (N (o_66 P) (N (o_82 P) (N (o_119 P) (N (o_183 P) Z Z) (N (o_251 P) Z Z)) (N (o_151 P) (N (o_217 P) Z Z) Z)) (N (o_101 P) (N (o_135 P) (N (o_199 P) Z Z) (N (o_269 P) Z Z)) (N (o_167 P) (N (o_235 P) Z Z) Z)))))) (N (o_49 P) (N (boot_o_4 P) (N (boot_o_8 P) (N (o_53 P) (N (o_69 P) (N (o_106 P) (N (o_170 P) Z Z) (N (o_238 P) Z Z)) (N (o_138 P) (N (o_204 P) Z Z) (N (o_272 P) Z Z))) (N (o_85 P) (N (o_122 P) (N (o_186 P) Z Z) (N (o_254 P) Z Z)) (N (o_154 P) (N (o_220 P) Z Z) Z))) (N (o_61 P) (N (o_77 P) (N (o_114 P) (N (o_178 P) Z Z) (N (o_246 P) Z Z)) (N (o_146 P) (N (o_212 P) Z Z) Z)) (N (o_96 P) (N (o_130 P) (N (o_194 P) Z Z) (N (o_264 P) Z Z)) (N (o_162 P) (N (o_228 P) Z Z) Z)))) (N (o_257 P) (N (o_57 P) (N (o_73 P) (N (o_110 P) (N (o_174 P) Z Z) (N (o_242 P) Z Z)) (N (o_142 P) (N (o_208 P) Z Z) (N (o_276 P) Z Z))) (N (o_92 P) (N (o_126 P) (N (o_190 P) Z Z) (N (o_260 P) Z Z)) (N (o_158 P) (N (o_224 P) Z Z) Z))) (N (o_65 P) (N (o_81 P) (N (o_118 P) (N (o_182 P) Z Z) (N (o_250 P) Z Z)) (N (o_150 P) (N (o_216 P) Z Z) Z)) (N (o_100 P) (N (o_134 P) (N (o_198 P) Z Z) (N (o_268 P) Z Z)) (N (o_166 P) (N (o_234 P) Z Z) Z))))) (N (boot_o_6 P) (N (boot_o_10 P) (N (o_55 P) (N (o_71 P) (N (o_108 P) (N (o_172 P) Z Z) (N (o_240 P) Z Z)) (N (o_140 P) (N (o_206 P) Z Z) (N (o_274 P) Z Z))) (N (o_90 P) (N (o_124 P) (N (o_188 P) Z Z) (N (o_258 P) Z Z)) (N (o_156 P) (N (o_222 P) Z Z) Z))) (N (o_63 P) (N (o_79 P) (N (o_116 P) (N (o_180 P) Z Z) (N (o_248 P) Z Z)) (N (o_148 P) (N (o_214 P) Z Z) Z)) (N (o_98 P) (N (o_132 P) (N (o_196 P) Z Z) (N (o_266 P) Z Z)) (N (o_164 P) (N (o_230 P) Z Z) Z)))) (N (o_46 P) (N (o_59 P) (N (o_75 P) (N (o_112 P) (N (o_176 P) Z Z) (N (o_244 P) Z Z)) (N (o_144 P) (N (o_210 P) Z Z) (N (o_278 P) Z Z))) (N (o_94 P) (N (o_128 P) (N (o_192 P) Z Z) (N (o_262 P) Z Z)) (N (o_160 P) (N (o_226 P) Z Z) Z))) (N (o_67 P) (N (o_89 P) (N (o_120 P) (N (o_184 P) Z Z) (N (o_252 P) Z Z)) (N (o_152 P) (N (o_218 P) Z Z) Z)) (N (o_104 P) (N (o_136 P) (N (o_200 P) Z Z) (N (o_270 P) Z Z)) (N (o_168 P) (N (o_236 P) Z Z) Z))))))
noncomputable def tree_327 (P : Params) : BT := N (boot_o_0 P) (N (boot_o_1 P) (N (o_279 P) (N (boot_o_7 P) (N (o_52 P) (N (o_68 P) (N (o_105 P) (N (o_169 P) (N (o_305 P) Z Z) Z) (N (o_237 P) Z Z)) (N (o_137 P) (N (o_201 P) Z Z) (N (o_271 P) Z Z))) (N (o_84 P) (N (o_121 P) (N (o_185 P) (N (o_321 P) Z Z) Z) (N (o_253 P) Z Z)) (N (o_153 P) (N (o_219 P) Z Z) (N (o_289 P) Z Z)))) (N (o_60 P) (N (o_76 P) (N (o_113 P) (N (o_177 P) (N (o_313 P) Z Z) Z) (N (o_245 P) Z Z)) (N (o_145 P) (N (o_211 P) Z Z) (N (o_281 P) Z Z))) (N (o_95 P) (N (o_129 P) (N (o_193 P) Z Z) (N (o_263 P) Z Z)) (N (o_161 P) (N (o_227 P) Z Z) (N (o_297 P) Z Z))))) (N (o_43 P) (N (o_56 P) (N (o_72 P) (N (o_109 P) (N (o_173 P) (N (o_309 P) Z Z) Z) (N (o_241 P) Z Z)) (N (o_141 P) (N (o_207 P) Z Z) (N (o_275 P) Z Z))) (N (o_91 P) (N (o_125 P) (N (o_189 P) (N (o_325 P) Z Z) Z) (N (o_259 P) Z Z)) (N (o_157 P) (N (o_223 P) Z Z) (N (o_293 P) Z Z)))) (N (o_64 P) (N (o_80 P) (N (o_117 P) (N (o_181 P) (N (o_317 P) Z Z) Z) (N (o_249 P) Z Z)) (N (o_149 P) (N (o_215 P) Z Z) (N (o_285 P) Z Z))) (N (o_99 P) (N (o_133 P) (N (o_197 P) Z Z) (N (o_267 P) Z Z)) (N (o_165 P) (N (o_231 P) Z Z) (N (o_301 P) Z Z)))))) (N (boot_o_5 P) (N (boot_o_9 P) (N (o_54 P) (N (o_70 P) (N (o_107 P) (N (o_171 P) (N (o_307 P) Z Z) Z) (N (o_239 P) Z Z)) (N (o_139 P) (N (o_205 P) Z Z) (N (o_273 P) Z Z))) (N (o_86 P) (N (o_123 P) (N (o_187 P) (N (o_323 P) Z Z) Z) (N (o_255 P) Z Z)) (N (o_155 P) (N (o_221 P) Z Z) (N (o_291 P) Z Z)))) (N (o_62 P) (N (o_78 P) (N (o_115 P) (N (o_179 P) (N (o_315 P) Z Z) Z) (N (o_247 P) Z Z)) (N (o_147 P) (N (o_213 P) Z Z) (N (o_283 P) Z Z))) (N (o_97 P) (N (o_131 P) (N (o_195 P) Z Z) (N (o_265 P) Z Z)) (N (o_163 P) (N (o_229 P) Z Z) (N (o_299 P) Z Z))))) (N (o_45 P) (N (o_58 P) (N (o_74 P) (N (o_111 P) (N (o_175 P) (N (o_311 P) Z Z) Z) (N (o_243 P) Z Z)) (N (o_143 P) (N (o_209 P) Z Z) (N (o_277 P) Z Z))) (N (o_93 P) (N (o_127 P) (N (o_191 P) (N (o_327 P) Z Z) Z) (N (o_261 P) Z Z)) (N (o_159 P) (N (o_225 P) Z Z) (N (o_295 P) Z Z)))) (N (o_66 P) (N (o_82 P) (N (o_119 P) (N (o_183 P) (N (o_319 P) Z Z) Z) (N (o_251 P) Z Z)) (N (o_151 P) (N (o_217 P) Z Z) (N (o_287 P) Z Z))) (N (o_101 P) (N (o_135 P) (N (o_199 P) Z Z) (N (o_269 P) Z Z)) (N (o_167 P) (N (o_235 P) Z Z) (N (o_303 P) Z Z))))))) (N (o_49 P) (N (boot_o_4 P) (N (boot_o_8 P) (N (o_53 P) (N (o_69 P) (N (o_106 P) (N (o_170 P) (N (o_306 P) Z Z) Z) (N (o_238 P) Z Z)) (N (o_138 P) (N (o_204 P) Z Z) (N (o_272 P) Z Z))) (N (o_85 P) (N (o_122 P) (N (o_186 P) (N (o_322 P) Z Z) Z) (N (o_254 P) Z Z)) (N (o_154 P) (N (o_220 P) Z Z) (N (o_290 P) Z Z)))) (N (o_61 P) (N (o_77 P) (N (o_114 P) (N (o_178 P) (N (o_314 P) Z Z) Z) (N (o_246 P) Z Z)) (N (o_146 P) (N (o_212 P) Z Z) (N (o_282 P) Z Z))) (N (o_96 P) (N (o_130 P) (N (o_194 P) Z Z) (N (o_264 P) Z Z)) (N (o_162 P) (N (o_228 P) Z Z) (N (o_298 P) Z Z))))) (N (o_280 P) (N (o_57 P) (N (o_73 P) (N (o_110 P) (N (o_174 P) (N (o_310 P) Z Z) Z) (N (o_242 P) Z Z)) (N (o_142 P) (N (o_208 P) Z Z) (N (o_276 P) Z Z))) (N (o_92 P) (N (o_126 P) (N (o_190 P) (N (o_326 P) Z Z) Z) (N (o_260 P) Z Z)) (N (o_158 P) (N (o_224 P) Z Z) (N (o_294 P) Z Z)))) (N (o_65 P) (N (o_81 P) (N (o_118 P) (N (o_182 P) (N (o_318 P) Z Z) Z) (N (o_250 P) Z Z)) (N (o_150 P) (N (o_216 P) Z Z) (N (o_286 P) Z Z))) (N (o_100 P) (N (o_134 P) (N (o_198 P) Z Z) (N (o_268 P) Z Z)) (N (o_166 P) (N (o_234 P) Z Z) (N (o_302 P) Z Z)))))) (N (boot_o_6 P) (N (boot_o_10 P) (N (o_55 P) (N (o_71 P) (N (o_108 P) (N (o_172 P) (N (o_308 P) Z Z) Z) (N (o_240 P) Z Z)) (N (o_140 P) (N (o_206 P) Z Z) (N (o_274 P) Z Z))) (N (o_90 P) (N (o_124 P) (N (o_188 P) (N (o_324 P) Z Z) Z) (N (o_258 P) Z Z)) (N (o_156 P) (N (o_222 P) Z Z) (N (o_292 P) Z Z)))) (N (o_63 P) (N (o_79 P) (N (o_116 P) (N (o_180 P) (N (o_316 P) Z Z) Z) (N (o_248 P) Z Z)) (N (o_148 P) (N (o_214 P) Z Z) (N (o_284 P) Z Z))) (N (o_98 P) (N (o_132 P) (N (o_196 P) Z Z) (N (o_266 P) Z Z)) (N (o_164 P) (N (o_230 P) Z Z) (N (o_300 P) Z Z))))) (N (o_46 P) (N (o_59 P) (N (o_75 P) (N (o_112 P) (N (o_176 P) (N (o_312 P) Z Z) Z) (N (o_244 P) Z Z)) (N (o_144 P) (N (o_210 P) Z Z) (N (o_278 P) Z Z))) (N (o_94 P) (N (o_128 P) (N (o_192 P) Z Z) (N (o_262 P) Z Z)) (N (o_160 P) (N (o_226 P) Z Z) (N (o_296 P) Z Z)))) (N (o_67 P) (N (o_89 P) (N (o_120 P) (N (o_184 P) (N (o_320 P) Z Z) Z) (N (o_252 P) Z Z)) (N (o_152 P) (N (o_218 P) Z Z) (N (o_288 P) Z Z))) (N (o_104 P) (N (o_136 P) (N (o_200 P) Z Z) (N (o_270 P) Z Z)) (N (o_168 P) (N (o_236 P) Z Z) (N (o_304 P) Z Z)))))))
noncomputable def tree_365 (P : Params) : BT := N (boot_o_0 P) (N (boot_o_1 P) (N (o_328 P) (N (boot_o_7 P) (N (o_52 P) (N (o_68 P) (N (o_105 P) (N (o_169 P) (N (o_305 P) Z Z) Z) (N (o_237 P) Z Z)) (N (o_137 P) (N (o_201 P) (N (o_339 P) Z Z) Z) (N (o_271 P) Z Z))) (N (o_84 P) (N (o_121 P) (N (o_185 P) (N (o_321 P) Z Z) Z) (N (o_253 P) Z Z)) (N (o_153 P) (N (o_219 P) (N (o_355 P) Z Z) Z) (N (o_289 P) Z Z)))) (N (o_60 P) (N (o_76 P) (N (o_113 P) (N (o_177 P) (N (o_313 P) Z Z) Z) (N (o_245 P) Z Z)) (N (o_145 P) (N (o_211 P) (N (o_347 P) Z Z) Z) (N (o_281 P) Z Z))) (N (o_95 P) (N (o_129 P) (N (o_193 P) (N (o_331 P) Z Z) Z) (N (o_263 P) Z Z)) (N (o_161 P) (N (o_227 P) (N (o_363 P) Z Z) Z) (N (o_297 P) Z Z))))) (N (o_43 P) (N (o_56 P) (N (o_72 P) (N (o_109 P) (N (o_173 P) (N (o_309 P) Z Z) Z) (N (o_241 P) Z Z)) (N (o_141 P) (N (o_207 P) (N (o_343 P) Z Z) Z) (N (o_275 P) Z Z))) (N (o_91 P) (N (o_125 P) (N (o_189 P) (N (o_325 P) Z Z) Z) (N (o_259 P) Z Z)) (N (o_157 P) (N (o_223 P) (N (o_359 P) Z Z) Z) (N (o_293 P) Z Z)))) (N (o_64 P) (N (o_80 P) (N (o_117 P) (N (o_181 P) (N (o_317 P) Z Z) Z) (N (o_249 P) Z Z)) (N (o_149 P) (N (o_215 P) (N (o_351 P) Z Z) Z) (N (o_285 P) Z Z))) (N (o_99 P) (N (o_133 P) (N (o_197 P) (N (o_335 P) Z Z) Z) (N (o_267 P) Z Z)) (N (o_165 P) (N (o_231 P) Z Z) (N (o_301 P) Z Z)))))) (N (boot_o_5 P) (N (boot_o_9 P) (N (o_54 P) (N (o_70 P) (N (o_107 P) (N (o_171 P) (N (o_307 P) Z Z) Z) (N (o_239 P) Z Z)) (N (o_139 P) (N (o_205 P) (N (o_341 P) Z Z) Z) (N (o_273 P) Z Z))) (N (o_86 P) (N (o_123 P) (N (o_187 P) (N (o_323 P) Z Z) Z) (N (o_255 P) Z Z)) (N (o_155 P) (N (o_221 P) (N (o_357 P) Z Z) Z) (N (o_291 P) Z Z)))) (N (o_62 P) (N (o_78 P) (N (o_115 P) (N (o_179 P) (N (o_315 P) Z Z) Z) (N (o_247 P) Z Z)) (N (o_147 P) (N (o_213 P) (N (o_349 P) Z Z) Z) (N (o_283 P) Z Z))) (N (o_97 P) (N (o_131 P) (N (o_195 P) (N (o_333 P) Z Z) Z) (N (o_265 P) Z Z)) (N (o_163 P) (N (o_229 P) (N (o_365 P) Z Z) Z) (N (o_299 P) Z Z))))) (N (o_45 P) (N (o_58 P) (N (o_74 P) (N (o_111 P) (N (o_175 P) (N (o_311 P) Z Z) Z) (N (o_243 P) Z Z)) (N (o_143 P) (N (o_209 P) (N (o_345 P) Z Z) Z) (N (o_277 P) Z Z))) (N (o_93 P) (N (o_127 P) (N (o_191 P) (N (o_327 P) Z Z) Z) (N (o_261 P) Z Z)) (N (o_159 P) (N (o_225 P) (N (o_361 P) Z Z) Z) (N (o_295 P) Z Z)))) (N (o_66 P) (N (o_82 P) (N (o_119 P) (N (o_183 P) (N (o_319 P) Z Z) Z) (N (o_251 P) Z Z)) (N (o_151 P) (N (o_217 P) (N (o_353 P) Z Z) Z) (N (o_287 P) Z Z))) (N (o_101 P) (N (o_135 P) (N (o_199 P) (N (o_337 P) Z Z) Z) (N (o_269 P) Z Z)) (N (o_167 P) (N (o_235 P) Z Z) (N (o_303 P) Z Z))))))) (N (o_49 P) (N (boot_o_4 P) (N (boot_o_8 P) (N (o_53 P) (N (o_69 P) (N (o_106 P) (N (o_170 P) (N (o_306 P) Z Z) Z) (N (o_238 P) Z Z)) (N (o_138 P) (N (o_204 P) (N (o_340 P) Z Z) Z) (N (o_272 P) Z Z))) (N (o_85 P) (N (o_122 P) (N (o_186 P) (N (o_322 P) Z Z) Z) (N (o_254 P) Z Z)) (N (o_154 P) (N (o_220 P) (N (o_356 P) Z Z) Z) (N (o_290 P) Z Z)))) (N (o_61 P) (N (o_77 P) (N (o_114 P) (N (o_178 P) (N (o_314 P) Z Z) Z) (N (o_246 P) Z Z)) (N (o_146 P) (N (o_212 P) (N (o_348 P) Z Z) Z) (N (o_282 P) Z Z))) (N (o_96 P) (N (o_130 P) (N (o_194 P) (N (o_332 P) Z Z) Z) (N (o_264 P) Z Z)) (N (o_162 P) (N (o_228 P) (N (o_364 P) Z Z) Z) (N (o_298 P) Z Z))))) (N (o_329 P) (N (o_57 P) (N (o_73 P) (N (o_110 P) (N (o_174 P) (N (o_310 P) Z Z) Z) (N (o_242 P) Z Z)) (N (o_142 P) (N (o_208 P) (N (o_344 P) Z Z) Z) (N (o_276 P) Z Z))) (N (o_92 P) (N (o_126 P) (N (o_190 P) (N (o_326 P) Z Z) Z) (N (o_260 P) Z Z)) (N (o_158 P) (N (o_224 P) (N (o_360 P) Z Z) Z) (N (o_294 P) Z Z)))) (N (o_65 P) (N (o_81 P) (N (o_118 P) (N (o_182 P) (N (o_318 P) Z Z) Z) (N (o_250 P) Z Z)) (N (o_150 P) (N (o_216 P) (N (o_352 P) Z Z) Z) (N (o_286 P) Z Z))) (N (o_100 P) (N (o_134 P) (N (o_198 P) (N (o_336 P) Z Z) Z) (N (o_268 P) Z Z)) (N (o_166 P) (N (o_234 P) Z Z) (N (o_302 P) Z Z)))))) (N (boot_o_6 P) (N (boot_o_10 P) (N (o_55 P) (N (o_71 P) (N (o_108 P) (N (o_172 P) (N (o_308 P) Z Z) Z) (N (o_240 P) Z Z)) (N (o_140 P) (N (o_206 P) (N (o_342 P) Z Z) Z) (N (o_274 P) Z Z))) (N (o_90 P) (N (o_124 P) (N (o_188 P) (N (o_324 P) Z Z) Z) (N (o_258 P) Z Z)) (N (o_156 P) (N (o_222 P) (N (o_358 P) Z Z) Z) (N (o_292 P) Z Z)))) (N (o_63 P) (N (o_79 P) (N (o_116 P) (N (o_180 P) (N (o_316 P) Z Z) Z) (N (o_248 P) Z Z)) (N (o_148 P) (N (o_214 P) (N (o_350 P) Z Z) Z) (N (o_284 P) Z Z))) (N (o_98 P) (N (o_132 P) (N (o_196 P) (N (o_334 P) Z Z) Z) (N (o_266 P) Z Z)) (N (o_164 P) (N (o_230 P) Z Z) (N (o_300 P) Z Z))))) (N (o_46 P) (N (o_59 P) (N (o_75 P) (N (o_112 P) (N (o_176 P) (N (o_312 P) Z Z) Z) (N (o_244 P) Z Z)) (N (o_144 P) (N (o_210 P) (N (o_346 P) Z Z) Z) (N (o_278 P) Z Z))) (N (o_94 P) (N (o_128 P) (N (o_192 P) (N (o_330 P) Z Z) Z) (N (o_262 P) Z Z)) (N (o_160 P) (N (o_226 P) (N (o_362 P) Z Z) Z) (N (o_296 P) Z Z)))) (N (o_67 P) (N (o_89 P) (N (o_120 P) (N (o_184 P) (N (o_320 P) Z Z) Z) (N (o_252 P) Z Z)) (N (o_152 P) (N (o_218 P) (N (o_354 P) Z Z) Z) (N (o_288 P) Z Z))) (N (o_104 P) (N (o_136 P) (N (o_200 P) (N (o_338 P) Z Z) Z) (N (o_270 P) Z Z)) (N (o_168 P) (N (o_236 P) Z Z) (N (o_304 P) Z Z)))))))
noncomputable def tree_420 (P : Params) : BT := N (boot_o_0 P) (N (boot_o_1 P) (N (o_366 P) (N (boot_o_7 P) (N (o_52 P) (N (o_68 P) (N (o_105 P) (N (o_169 P) (N (o_305 P) Z Z) Z) (N (o_237 P) (N (o_374 P) Z Z) Z)) (N (o_137 P) (N (o_201 P) (N (o_339 P) Z Z) Z) (N (o_271 P) (N (o_406 P) Z Z) Z))) (N (o_84 P) (N (o_121 P) (N (o_185 P) (N (o_321 P) Z Z) Z) (N (o_253 P) (N (o_390 P) Z Z) Z)) (N (o_153 P) (N (o_219 P) (N (o_355 P) Z Z) Z) (N (o_289 P) Z Z)))) (N (o_60 P) (N (o_76 P) (N (o_113 P) (N (o_177 P) (N (o_313 P) Z Z) Z) (N (o_245 P) (N (o_382 P) Z Z) Z)) (N (o_145 P) (N (o_211 P) (N (o_347 P) Z Z) Z) (N (o_281 P) (N (o_414 P) Z Z) Z))) (N (o_95 P) (N (o_129 P) (N (o_193 P) (N (o_331 P) Z Z) Z) (N (o_263 P) (N (o_398 P) Z Z) Z)) (N (o_161 P) (N (o_227 P) (N (o_363 P) Z Z) Z) (N (o_297 P) Z Z))))) (N (o_43 P) (N (o_56 P) (N (o_72 P) (N (o_109 P) (N (o_173 P) (N (o_309 P) Z Z) Z) (N (o_241 P) (N (o_378 P) Z Z) Z)) (N (o_141 P) (N (o_207 P) (N (o_343 P) Z Z) Z) (N (o_275 P) (N (o_410 P) Z Z) Z))) (N (o_91 P) (N (o_125 P) (N (o_189 P) (N (o_325 P) Z Z) Z) (N (o_259 P) (N (o_394 P) Z Z) Z)) (N (o_157 P) (N (o_223 P) (N (o_359 P) Z Z) Z) (N (o_293 P) Z Z)))) (N (o_64 P) (N (o_80 P) (N (o_117 P) (N (o_181 P) (N (o_317 P) Z Z) Z) (N (o_249 P) (N (o_386 P) Z Z) Z)) (N (o_149 P) (N (o_215 P) (N (o_351 P) Z Z) Z) (N (o_285 P) (N (o_418 P) Z Z) Z))) (N (o_99 P) (N (o_133 P) (N (o_197 P) (N (o_335 P) Z Z) Z) (N (o_267 P) (N (o_402 P) Z Z) Z)) (N (o_165 P) (N (o_231 P) (N (o_370 P) Z Z) Z) (N (o_301 P) Z Z)))))) (N (boot_o_5 P) (N (boot_o_9 P) (N (o_54 P) (N (o_70 P) (N (o_107 P) (N (o_171 P) (N (o_307 P) Z Z) Z) (N (o_239 P) (N (o_376 P) Z Z) Z)) (N (o_139 P) (N (o_205 P) (N (o_341 P) Z Z) Z) (N (o_273 P) (N (o_408 P) Z Z) Z))) (N (o_86 P) (N (o_123 P) (N (o_187 P) (N (o_323 P) Z Z) Z) (N (o_255 P) (N (o_392 P) Z Z) Z)) (N (o_155 P) (N (o_221 P) (N (o_357 P) Z Z) Z) (N (o_291 P) Z Z)))) (N (o_62 P) (N (o_78 P) (N (o_115 P) (N (o_179 P) (N (o_315 P) Z Z) Z) (N (o_247 P) (N (o_384 P) Z Z) Z)) (N (o_147 P) (N (o_213 P) (N (o_349 P) Z Z) Z) (N (o_283 P) (N (o_416 P) Z Z) Z))) (N (o_97 P) (N (o_131 P) (N (o_195 P) (N (o_333 P) Z Z) Z) (N (o_265 P) (N (o_400 P) Z Z) Z)) (N (o_163 P) (N (o_229 P) (N (o_365 P) Z Z) Z) (N (o_299 P) Z Z))))) (N (o_45 P) (N (o_58 P) (N (o_74 P) (N (o_111 P) (N (o_175 P) (N (o_311 P) Z Z) Z) (N (o_243 P) (N (o_380 P) Z Z) Z)) (N (o_143 P) (N (o_209 P) (N (o_345 P) Z Z) Z) (N (o_277 P) (N (o_412 P) Z Z) Z))) (N (o_93 P) (N (o_127 P) (N (o_191 P) (N (o_327 P) Z Z) Z) (N (o_261 P) (N (o_396 P) Z Z) Z)) (N (o_159 P) (N (o_225 P) (N (o_368 P) Z Z) Z) (N (o_295 P) Z Z)))) (N (o_66 P) (N (o_82 P) (N (o_119 P) (N (o_183 P) (N (o_319 P) Z Z) Z) (N (o_251 P) (N (o_388 P) Z Z) Z)) (N (o_151 P) (N (o_217 P) (N (o_353 P) Z Z) Z) (N (o_287 P) (N (o_420 P) Z Z) Z))) (N (o_101 P) (N (o_135 P) (N (o_199 P) (N (o_337 P) Z Z) Z) (N (o_269 P) (N (o_404 P) Z Z) Z)) (N (o_167 P) (N (o_235 P) (N (o_372 P) Z Z) Z) (N (o_303 P) Z Z))))))) (N (o_49 P) (N (boot_o_4 P) (N (boot_o_8 P) (N (o_53 P) (N (o_69 P) (N (o_106 P) (N (o_170 P) (N (o_306 P) Z Z) Z) (N (o_238 P) (N (o_375 P) Z Z) Z)) (N (o_138 P) (N (o_204 P) (N (o_340 P) Z Z) Z) (N (o_272 P) (N (o_407 P) Z Z) Z))) (N (o_85 P) (N (o_122 P) (N (o_186 P) (N (o_322 P) Z Z) Z) (N (o_254 P) (N (o_391 P) Z Z) Z)) (N (o_154 P) (N (o_220 P) (N (o_356 P) Z Z) Z) (N (o_290 P) Z Z)))) (N (o_61 P) (N (o_77 P) (N (o_114 P) (N (o_178 P) (N (o_314 P) Z Z) Z) (N (o_246 P) (N (o_383 P) Z Z) Z)) (N (o_146 P) (N (o_212 P) (N (o_348 P) Z Z) Z) (N (o_282 P) (N (o_415 P) Z Z) Z))) (N (o_96 P) (N (o_130 P) (N (o_194 P) (N (o_332 P) Z Z) Z) (N (o_264 P) (N (o_399 P) Z Z) Z)) (N (o_162 P) (N (o_228 P) (N (o_364 P) Z Z) Z) (N (o_298 P) Z Z))))) (N (o_367 P) (N (o_57 P) (N (o_73 P) (N (o_110 P) (N (o_174 P) (N (o_310 P) Z Z) Z) (N (o_242 P) (N (o_379 P) Z Z) Z)) (N (o_142 P) (N (o_208 P) (N (o_344 P) Z Z) Z) (N (o_276 P) (N (o_411 P) Z Z) Z))) (N (o_92 P) (N (o_126 P) (N (o_190 P) (N (o_326 P) Z Z) Z) (N (o_260 P) (N (o_395 P) Z Z) Z)) (N (o_158 P) (N (o_224 P) (N (o_360 P) Z Z) Z) (N (o_294 P) Z Z)))) (N (o_65 P) (N (o_81 P) (N (o_118 P) (N (o_182 P) (N (o_318 P) Z Z) Z) (N (o_250 P) (N (o_387 P) Z Z) Z)) (N (o_150 P) (N (o_216 P) (N (o_352 P) Z Z) Z) (N (o_286 P) (N (o_419 P) Z Z) Z))) (N (o_100 P) (N (o_134 P) (N (o_198 P) (N (o_336 P) Z Z) Z) (N (o_268 P) (N (o_403 P) Z Z) Z)) (N (o_166 P) (N (o_234 P) (N (o_371 P) Z Z) Z) (N (o_302 P) Z Z)))))) (N (boot_o_6 P) (N (boot_o_10 P) (N (o_55 P) (N (o_71 P) (N (o_108 P) (N (o_172 P) (N (o_308 P) Z Z) Z) (N (o_240 P) (N (o_377 P) Z Z) Z)) (N (o_140 P) (N (o_206 P) (N (o_342 P) Z Z) Z) (N (o_274 P) (N (o_409 P) Z Z) Z))) (N (o_90 P) (N (o_124 P) (N (o_188 P) (N (o_324 P) Z Z) Z) (N (o_258 P) (N (o_393 P) Z Z) Z)) (N (o_156 P) (N (o_222 P) (N (o_358 P) Z Z) Z) (N (o_292 P) Z Z)))) (N (o_63 P) (N (o_79 P) (N (o_116 P) (N (o_180 P) (N (o_316 P) Z Z) Z) (N (o_248 P) (N (o_385 P) Z Z) Z)) (N (o_148 P) (N (o_214 P) (N (o_350 P) Z Z) Z) (N (o_284 P) (N (o_417 P) Z Z) Z))) (N (o_98 P) (N (o_132 P) (N (o_196 P) (N (o_334 P) Z Z) Z) (N (o_266 P) (N (o_401 P) Z Z) Z)) (N (o_164 P) (N (o_230 P) (N (o_369 P) Z Z) Z) (N (o_300 P) Z Z))))) (N (o_46 P) (N (o_59 P) (N (o_75 P) (N (o_112 P) (N (o_176 P) (N (o_312 P) Z Z) Z) (N (o_244 P) (N (o_381 P) Z Z) Z)) (N (o_144 P) (N (o_210 P) (N (o_346 P) Z Z) Z) (N (o_278 P) (N (o_413 P) Z Z) Z))) (N (o_94 P) (N (o_128 P) (N (o_192 P) (N (o_330 P) Z Z) Z) (N (o_262 P) (N (o_397 P) Z Z) Z)) (N (o_160 P) (N (o_226 P) (N (o_362 P) Z Z) Z) (N (o_296 P) Z Z)))) (N (o_67 P) (N (o_89 P) (N (o_120 P) (N (o_184 P) (N (o_320 P) Z Z) Z) (N (o_252 P) (N (o_389 P) Z Z) Z)) (N (o_152 P) (N (o_218 P) (N (o_354 P) Z Z) Z) (N (o_288 P) Z Z))) (N (o_104 P) (N (o_136 P) (N (o_200 P) (N (o_338 P) Z Z) Z) (N (o_270 P) (N (o_405 P) Z Z) Z)) (N (o_168 P) (N (o_236 P) (N (o_373 P) Z Z) Z) (N (o_304 P) Z Z)))))))
noncomputable def tree_469 (P : Params) : BT := N (boot_o_0 P) (N (boot_o_1 P) (N (o_421 P) (N (boot_o_7 P) (N (o_52 P) (N (o_68 P) (N (o_105 P) (N (o_169 P) (N (o_305 P) Z Z) (N (o_440 P) Z Z)) (N (o_237 P) (N (o_374 P) Z Z) Z)) (N (o_137 P) (N (o_201 P) (N (o_339 P) Z Z) Z) (N (o_271 P) (N (o_406 P) Z Z) Z))) (N (o_84 P) (N (o_121 P) (N (o_185 P) (N (o_321 P) Z Z) (N (o_456 P) Z Z)) (N (o_253 P) (N (o_390 P) Z Z) Z)) (N (o_153 P) (N (o_219 P) (N (o_355 P) Z Z) Z) (N (o_289 P) (N (o_424 P) Z Z) Z)))) (N (o_60 P) (N (o_76 P) (N (o_113 P) (N (o_177 P) (N (o_313 P) Z Z) (N (o_448 P) Z Z)) (N (o_245 P) (N (o_382 P) Z Z) Z)) (N (o_145 P) (N (o_211 P) (N (o_347 P) Z Z) Z) (N (o_281 P) (N (o_414 P) Z Z) Z))) (N (o_95 P) (N (o_129 P) (N (o_193 P) (N (o_331 P) Z Z) (N (o_464 P) Z Z)) (N (o_263 P) (N (o_398 P) Z Z) Z)) (N (o_161 P) (N (o_227 P) (N (o_363 P) Z Z) Z) (N (o_297 P) (N (o_432 P) Z Z) Z))))) (N (o_43 P) (N (o_56 P) (N (o_72 P) (N (o_109 P) (N (o_173 P) (N (o_309 P) Z Z) (N (o_444 P) Z Z)) (N (o_241 P) (N (o_378 P) Z Z) Z)) (N (o_141 P) (N (o_207 P) (N (o_343 P) Z Z) Z) (N (o_275 P) (N (o_410 P) Z Z) Z))) (N (o_91 P) (N (o_125 P) (N (o_189 P) (N (o_325 P) Z Z) (N (o_460 P) Z Z)) (N (o_259 P) (N (o_394 P) Z Z) Z)) (N (o_157 P) (N (o_223 P) (N (o_359 P) Z Z) Z) (N (o_293 P) (N (o_428 P) Z Z) Z)))) (N (o_64 P) (N (o_80 P) (N (o_117 P) (N (o_181 P) (N (o_317 P) Z Z) (N (o_452 P) Z Z)) (N (o_249 P) (N (o_386 P) Z Z) Z)) (N (o_149 P) (N (o_215 P) (N (o_351 P) Z Z) Z) (N (o_285 P) (N (o_418 P) Z Z) Z))) (N (o_99 P) (N (o_133 P) (N (o_197 P) (N (o_335 P) Z Z) (N (o_468 P) Z Z)) (N (o_267 P) (N (o_402 P) Z Z) Z)) (N (o_165 P) (N (o_231 P) (N (o_370 P) Z Z) Z) (N (o_301 P) (N (o_436 P) Z Z) Z)))))) (N (boot_o_5 P) (N (boot_o_9 P) (N (o_54 P) (N (o_70 P) (N (o_107 P) (N (o_171 P) (N (o_307 P) Z Z) (N (o_442 P) Z Z)) (N (o_239 P) (N (o_376 P) Z Z) Z)) (N (o_139 P) (N (o_205 P) (N (o_341 P) Z Z) Z) (N (o_273 P) (N (o_408 P) Z Z) Z))) (N (o_86 P) (N (o_123 P) (N (o_187 P) (N (o_323 P) Z Z) (N (o_458 P) Z Z)) (N (o_255 P) (N (o_392 P) Z Z) Z)) (N (o_155 P) (N (o_221 P) (N (o_357 P) Z Z) Z) (N (o_291 P) (N (o_426 P) Z Z) Z)))) (N (o_62 P) (N (o_78 P) (N (o_115 P) (N (o_179 P) (N (o_315 P) Z Z) (N (o_450 P) Z Z)) (N (o_247 P) (N (o_384 P) Z Z) Z)) (N (o_147 P) (N (o_213 P) (N (o_349 P) Z Z) Z) (N (o_283 P) (N (o_416 P) Z Z) Z))) (N (o_97 P) (N (o_131 P) (N (o_195 P) (N (o_333 P) Z Z) (N (o_466 P) Z Z)) (N (o_265 P) (N (o_400 P) Z Z) Z)) (N (o_163 P) (N (o_229 P) (N (o_365 P) Z Z) Z) (N (o_299 P) (N (o_434 P) Z Z) Z))))) (N (o_45 P) (N (o_58 P) (N (o_74 P) (N (o_111 P) (N (o_175 P) (N (o_311 P) Z Z) (N (o_446 P) Z Z)) (N (o_243 P) (N (o_380 P) Z Z) Z)) (N (o_143 P) (N (o_209 P) (N (o_345 P) Z Z) Z) (N (o_277 P) (N (o_412 P) Z Z) Z))) (N (o_93 P) (N (o_127 P) (N (o_191 P) (N (o_327 P) Z Z) (N (o_462 P) Z Z)) (N (o_261 P) (N (o_396 P) Z Z) Z)) (N (o_159 P) (N (o_225 P) (N (o_368 P) Z Z) Z) (N (o_295 P) (N (o_430 P) Z Z) Z)))) (N (o_66 P) (N (o_82 P) (N (o_119 P) (N (o_183 P) (N (o_319 P) Z Z) (N (o_454 P) Z Z)) (N (o_251 P) (N (o_388 P) Z Z) Z)) (N (o_151 P) (N (o_217 P) (N (o_353 P) Z Z) Z) (N (o_287 P) (N (o_420 P) Z Z) Z))) (N (o_101 P) (N (o_135 P) (N (o_199 P) (N (o_337 P) Z Z) Z) (N (o_269 P) (N (o_404 P) Z Z) Z)) (N (o_167 P) (N (o_235 P) (N (o_372 P) Z Z) Z) (N (o_303 P) (N (o_438 P) Z Z) Z))))))) (N (o_49 P) (N (boot_o_4 P) (N (boot_o_8 P) (N (o_53 P) (N (o_69 P) (N (o_106 P) (N (o_170 P) (N (o_306 P) Z Z) (N (o_441 P) Z Z)) (N (o_238 P) (N (o_375 P) Z Z) Z)) (N (o_138 P) (N (o_204 P) (N (o_340 P) Z Z) Z) (N (o_272 P) (N (o_407 P) Z Z) Z))) (N (o_85 P) (N (o_122 P) (N (o_186 P) (N (o_322 P) Z Z) (N (o_457 P) Z Z)) (N (o_254 P) (N (o_391 P) Z Z) Z)) (N (o_154 P) (N (o_220 P) (N (o_356 P) Z Z) Z) (N (o_290 P) (N (o_425 P) Z Z) Z)))) (N (o_61 P) (N (o_77 P) (N (o_114 P) (N (o_178 P) (N (o_314 P) Z Z) (N (o_449 P) Z Z)) (N (o_246 P) (N (o_383 P) Z Z) Z)) (N (o_146 P) (N (o_212 P) (N (o_348 P) Z Z) Z) (N (o_282 P) (N (o_415 P) Z Z) Z))) (N (o_96 P) (N (o_130 P) (N (o_194 P) (N (o_332 P) Z Z) (N (o_465 P) Z Z)) (N (o_264 P) (N (o_399 P) Z Z) Z)) (N (o_162 P) (N (o_228 P) (N (o_364 P) Z Z) Z) (N (o_298 P) (N (o_433 P) Z Z) Z))))) (N (o_422 P) (N (o_57 P) (N (o_73 P) (N (o_110 P) (N (o_174 P) (N (o_310 P) Z Z) (N (o_445 P) Z Z)) (N (o_242 P) (N (o_379 P) Z Z) Z)) (N (o_142 P) (N (o_208 P) (N (o_344 P) Z Z) Z) (N (o_276 P) (N (o_411 P) Z Z) Z))) (N (o_92 P) (N (o_126 P) (N (o_190 P) (N (o_326 P) Z Z) (N (o_461 P) Z Z)) (N (o_260 P) (N (o_395 P) Z Z) Z)) (N (o_158 P) (N (o_224 P) (N (o_360 P) Z Z) Z) (N (o_294 P) (N (o_429 P) Z Z) Z)))) (N (o_65 P) (N (o_81 P) (N (o_118 P) (N (o_182 P) (N (o_318 P) Z Z) (N (o_453 P) Z Z)) (N (o_250 P) (N (o_387 P) Z Z) Z)) (N (o_150 P) (N (o_216 P) (N (o_352 P) Z Z) Z) (N (o_286 P) (N (o_419 P) Z Z) Z))) (N (o_100 P) (N (o_134 P) (N (o_198 P) (N (o_336 P) Z Z) (N (o_469 P) Z Z)) (N (o_268 P) (N (o_403 P) Z Z) Z)) (N (o_166 P) (N (o_234 P) (N (o_371 P) Z Z) Z) (N (o_302 P) (N (o_437 P) Z Z) Z)))))) (N (boot_o_6 P) (N (boot_o_10 P) (N (o_55 P) (N (o_71 P) (N (o_108 P) (N (o_172 P) (N (o_308 P) Z Z) (N (o_443 P) Z Z)) (N (o_240 P) (N (o_377 P) Z Z) Z)) (N (o_140 P) (N (o_206 P) (N (o_342 P) Z Z) Z) (N (o_274 P) (N (o_409 P) Z Z) Z))) (N (o_90 P) (N (o_124 P) (N (o_188 P) (N (o_324 P) Z Z) (N (o_459 P) Z Z)) (N (o_258 P) (N (o_393 P) Z Z) Z)) (N (o_156 P) (N (o_222 P) (N (o_358 P) Z Z) Z) (N (o_292 P) (N (o_427 P) Z Z) Z)))) (N (o_63 P) (N (o_79 P) (N (o_116 P) (N (o_180 P) (N (o_316 P) Z Z) (N (o_451 P) Z Z)) (N (o_248 P) (N (o_385 P) Z Z) Z)) (N (o_148 P) (N (o_214 P) (N (o_350 P) Z Z) Z) (N (o_284 P) (N (o_417 P) Z Z) Z))) (N (o_98 P) (N (o_132 P) (N (o_196 P) (N (o_334 P) Z Z) (N (o_467 P) Z Z)) (N (o_266 P) (N (o_401 P) Z Z) Z)) (N (o_164 P) (N (o_230 P) (N (o_369 P) Z Z) Z) (N (o_300 P) (N (o_435 P) Z Z) Z))))) (N (o_46 P) (N (o_59 P) (N (o_75 P) (N (o_112 P) (N (o_176 P) (N (o_312 P) Z Z) (N (o_447 P) Z Z)) (N (o_244 P) (N (o_381 P) Z Z) Z)) (N (o_144 P) (N (o_210 P) (N (o_346 P) Z Z) Z) (N (o_278 P) (N (o_413 P) Z Z) Z))) (N (o_94 P) (N (o_128 P) (N (o_192 P) (N (o_330 P) Z Z) (N (o_463 P) Z Z)) (N (o_262 P) (N (o_397 P) Z Z) Z)) (N (o_160 P) (N (o_226 P) (N (o_362 P) Z Z) Z) (N (o_296 P) (N (o_431 P) Z Z) Z)))) (N (o_67 P) (N (o_89 P) (N (o_120 P) (N (o_184 P) (N (o_320 P) Z Z) (N (o_455 P) Z Z)) (N (o_252 P) (N (o_389 P) Z Z) Z)) (N (o_152 P) (N (o_218 P) (N (o_354 P) Z Z) Z) (N (o_288 P) (N (o_423 P) Z Z) Z))) (N (o_104 P) (N (o_136 P) (N (o_200 P) (N (o_338 P) Z Z) Z) (N (o_270 P) (N (o_405 P) Z Z) Z)) (N (o_168 P) (N (o_236 P) (N (o_373 P) Z Z) Z) (N (o_304 P) (N (o_439 P) Z Z) Z)))))))
noncomputable def tree_523 (P : Params) : BT := N (boot_o_0 P) (N (boot_o_1 P) (N (o_470 P) (N (boot_o_7 P) (N (o_52 P) (N (o_68 P) (N (o_105 P) (N (o_169 P) (N (o_305 P) Z Z) (N (o_440 P) Z Z)) (N (o_237 P) (N (o_374 P) Z Z) (N (o_506 P) Z Z))) (N (o_137 P) (N (o_201 P) (N (o_339 P) Z Z) (N (o_474 P) Z Z)) (N (o_271 P) (N (o_406 P) Z Z) Z))) (N (o_84 P) (N (o_121 P) (N (o_185 P) (N (o_321 P) Z Z) (N (o_456 P) Z Z)) (N (o_253 P) (N (o_390 P) Z Z) (N (o_522 P) Z Z))) (N (o_153 P) (N (o_219 P) (N (o_355 P) Z Z) (N (o_490 P) Z Z)) (N (o_289 P) (N (o_424 P) Z Z) Z)))) (N (o_60 P) (N (o_76 P) (N (o_113 P) (N (o_177 P) (N (o_313 P) Z Z) (N (o_448 P) Z Z)) (N (o_245 P) (N (o_382 P) Z Z) (N (o_514 P) Z Z))) (N (o_145 P) (N (o_211 P) (N (o_347 P) Z Z) (N (o_482 P) Z Z)) (N (o_281 P) (N (o_414 P) Z Z) Z))) (N (o_95 P) (N (o_129 P) (N (o_193 P) (N (o_331 P) Z Z) (N (o_464 P) Z Z)) (N (o_263 P) (N (o_398 P) Z Z) Z)) (N (o_161 P) (N (o_227 P) (N (o_363 P) Z Z) (N (o_498 P) Z Z)) (N (o_297 P) (N (o_432 P) Z Z) Z))))) (N (o_43 P) (N (o_56 P) (N (o_72 P) (N (o_109 P) (N (o_173 P) (N (o_309 P) Z Z) (N (o_444 P) Z Z)) (N (o_241 P) (N (o_378 P) Z Z) (N (o_510 P) Z Z))) (N (o_141 P) (N (o_207 P) (N (o_343 P) Z Z) (N (o_478 P) Z Z)) (N (o_275 P) (N (o_410 P) Z Z) Z))) (N (o_91 P) (N (o_125 P) (N (o_189 P) (N (o_325 P) Z Z) (N (o_460 P) Z Z)) (N (o_259 P) (N (o_394 P) Z Z) Z)) (N (o_157 P) (N (o_223 P) (N (o_359 P) Z Z) (N (o_494 P) Z Z)) (N (o_293 P) (N (o_428 P) Z Z) Z)))) (N (o_64 P) (N (o_80 P) (N (o_117 P) (N (o_181 P) (N (o_317 P) Z Z) (N (o_452 P) Z Z)) (N (o_249 P) (N (o_386 P) Z Z) (N (o_518 P) Z Z))) (N (o_149 P) (N (o_215 P) (N (o_351 P) Z Z) (N (o_486 P) Z Z)) (N (o_285 P) (N (o_418 P) Z Z) Z))) (N (o_99 P) (N (o_133 P) (N (o_197 P) (N (o_335 P) Z Z) (N (o_468 P) Z Z)) (N (o_267 P) (N (o_402 P) Z Z) Z)) (N (o_165 P) (N (o_231 P) (N (o_370 P) Z Z) (N (o_502 P) Z Z)) (N (o_301 P) (N (o_436 P) Z Z) Z)))))) (N (boot_o_5 P) (N (boot_o_9 P) (N (o_54 P) (N (o_70 P) (N (o_107 P) (N (o_171 P) (N (o_307 P) Z Z) (N (o_442 P) Z Z)) (N (o_239 P) (N (o_376 P) Z Z) (N (o_508 P) Z Z))) (N (o_139 P) (N (o_205 P) (N (o_341 P) Z Z) (N (o_476 P) Z Z)) (N (o_273 P) (N (o_408 P) Z Z) Z))) (N (o_86 P) (N (o_123 P) (N (o_187 P) (N (o_323 P) Z Z) (N (o_458 P) Z Z)) (N (o_255 P) (N (o_392 P) Z Z) Z)) (N (o_155 P) (N (o_221 P) (N (o_357 P) Z Z) (N (o_492 P) Z Z)) (N (o_291 P) (N (o_426 P) Z Z) Z)))) (N (o_62 P) (N (o_78 P) (N (o_115 P) (N (o_179 P) (N (o_315 P) Z Z) (N (o_450 P) Z Z)) (N (o_247 P) (N (o_384 P) Z Z) (N (o_516 P) Z Z))) (N (o_147 P) (N (o_213 P) (N (o_349 P) Z Z) (N (o_484 P) Z Z)) (N (o_283 P) (N (o_416 P) Z Z) Z))) (N (o_97 P) (N (o_131 P) (N (o_195 P) (N (o_333 P) Z Z) (N (o_466 P) Z Z)) (N (o_265 P) (N (o_400 P) Z Z) Z)) (N (o_163 P) (N (o_229 P) (N (o_365 P) Z Z) (N (o_500 P) Z Z)) (N (o_299 P) (N (o_434 P) Z Z) Z))))) (N (o_45 P) (N (o_58 P) (N (o_74 P) (N (o_111 P) (N (o_175 P) (N (o_311 P) Z Z) (N (o_446 P) Z Z)) (N (o_243 P) (N (o_380 P) Z Z) (N (o_512 P) Z Z))) (N (o_143 P) (N (o_209 P) (N (o_345 P) Z Z) (N (o_480 P) Z Z)) (N (o_277 P) (N (o_412 P) Z Z) Z))) (N (o_93 P) (N (o_127 P) (N (o_191 P) (N (o_327 P) Z Z) (N (o_462 P) Z Z)) (N (o_261 P) (N (o_396 P) Z Z) Z)) (N (o_159 P) (N (o_225 P) (N (o_368 P) Z Z) (N (o_496 P) Z Z)) (N (o_295 P) (N (o_430 P) Z Z) Z)))) (N (o_66 P) (N (o_82 P) (N (o_119 P) (N (o_183 P) (N (o_319 P) Z Z) (N (o_454 P) Z Z)) (N (o_251 P) (N (o_388 P) Z Z) (N (o_520 P) Z Z))) (N (o_151 P) (N (o_217 P) (N (o_353 P) Z Z) (N (o_488 P) Z Z)) (N (o_287 P) (N (o_420 P) Z Z) Z))) (N (o_101 P) (N (o_135 P) (N (o_199 P) (N (o_337 P) Z Z) (N (o_472 P) Z Z)) (N (o_269 P) (N (o_404 P) Z Z) Z)) (N (o_167 P) (N (o_235 P) (N (o_372 P) Z Z) (N (o_504 P) Z Z)) (N (o_303 P) (N (o_438 P) Z Z) Z))))))) (N (o_49 P) (N (boot_o_4 P) (N (boot_o_8 P) (N (o_53 P) (N (o_69 P) (N (o_106 P) (N (o_170 P) (N (o_306 P) Z Z) (N (o_441 P) Z Z)) (N (o_238 P) (N (o_375 P) Z Z) (N (o_507 P) Z Z))) (N (o_138 P) (N (o_204 P) (N (o_340 P) Z Z) (N (o_475 P) Z Z)) (N (o_272 P) (N (o_407 P) Z Z) Z))) (N (o_85 P) (N (o_122 P) (N (o_186 P) (N (o_322 P) Z Z) (N (o_457 P) Z Z)) (N (o_254 P) (N (o_391 P) Z Z) (N (o_523 P) Z Z))) (N (o_154 P) (N (o_220 P) (N (o_356 P) Z Z) (N (o_491 P) Z Z)) (N (o_290 P) (N (o_425 P) Z Z) Z)))) (N (o_61 P) (N (o_77 P) (N (o_114 P) (N (o_178 P) (N (o_314 P) Z Z) (N (o_449 P) Z Z)) (N (o_246 P) (N (o_383 P) Z Z) (N (o_515 P) Z Z))) (N (o_146 P) (N (o_212 P) (N (o_348 P) Z Z) (N (o_483 P) Z Z)) (N (o_282 P) (N (o_415 P) Z Z) Z))) (N (o_96 P) (N (o_130 P) (N (o_194 P) (N (o_332 P) Z Z) (N (o_465 P) Z Z)) (N (o_264 P) (N (o_399 P) Z Z) Z)) (N (o_162 P) (N (o_228 P) (N (o_364 P) Z Z) (N (o_499 P) Z Z)) (N (o_298 P) (N (o_433 P) Z Z) Z))))) (N (o_471 P) (N (o_57 P) (N (o_73 P) (N (o_110 P) (N (o_174 P) (N (o_310 P) Z Z) (N (o_445 P) Z Z)) (N (o_242 P) (N (o_379 P) Z Z) (N (o_511 P) Z Z))) (N (o_142 P) (N (o_208 P) (N (o_344 P) Z Z) (N (o_479 P) Z Z)) (N (o_276 P) (N (o_411 P) Z Z) Z))) (N (o_92 P) (N (o_126 P) (N (o_190 P) (N (o_326 P) Z Z) (N (o_461 P) Z Z)) (N (o_260 P) (N (o_395 P) Z Z) Z)) (N (o_158 P) (N (o_224 P) (N (o_360 P) Z Z) (N (o_495 P) Z Z)) (N (o_294 P) (N (o_429 P) Z Z) Z)))) (N (o_65 P) (N (o_81 P) (N (o_118 P) (N (o_182 P) (N (o_318 P) Z Z) (N (o_453 P) Z Z)) (N (o_250 P) (N (o_387 P) Z Z) (N (o_519 P) Z Z))) (N (o_150 P) (N (o_216 P) (N (o_352 P) Z Z) (N (o_487 P) Z Z)) (N (o_286 P) (N (o_419 P) Z Z) Z))) (N (o_100 P) (N (o_134 P) (N (o_198 P) (N (o_336 P) Z Z) (N (o_469 P) Z Z)) (N (o_268 P) (N (o_403 P) Z Z) Z)) (N (o_166 P) (N (o_234 P) (N (o_371 P) Z Z) (N (o_503 P) Z Z)) (N (o_302 P) (N (o_437 P) Z Z) Z)))))) (N (boot_o_6 P) (N (boot_o_10 P) (N (o_55 P) (N (o_71 P) (N (o_108 P) (N (o_172 P) (N (o_308 P) Z Z) (N (o_443 P) Z Z)) (N (o_240 P) (N (o_377 P) Z Z) (N (o_509 P) Z Z))) (N (o_140 P) (N (o_206 P) (N (o_342 P) Z Z) (N (o_477 P) Z Z)) (N (o_274 P) (N (o_409 P) Z Z) Z))) (N (o_90 P) (N (o_124 P) (N (o_188 P) (N (o_324 P) Z Z) (N (o_459 P) Z Z)) (N (o_258 P) (N (o_393 P) Z Z) Z)) (N (o_156 P) (N (o_222 P) (N (o_358 P) Z Z) (N (o_493 P) Z Z)) (N (o_292 P) (N (o_427 P) Z Z) Z)))) (N (o_63 P) (N (o_79 P) (N (o_116 P) (N (o_180 P) (N (o_316 P) Z Z) (N (o_451 P) Z Z)) (N (o_248 P) (N (o_385 P) Z Z) (N (o_517 P) Z Z))) (N (o_148 P) (N (o_214 P) (N (o_350 P) Z Z) (N (o_485 P) Z Z)) (N (o_284 P) (N (o_417 P) Z Z) Z))) (N (o_98 P) (N (o_132 P) (N (o_196 P) (N (o_334 P) Z Z) (N (o_467 P) Z Z)) (N (o_266 P) (N (o_401 P) Z Z) Z)) (N (o_164 P) (N (o_230 P) (N (o_369 P) Z Z) (N (o_501 P) Z Z)) (N (o_300 P) (N (o_435 P) Z Z) Z))))) (N (o_46 P) (N (o_59 P) (N (o_75 P) (N (o_112 P) (N (o_176 P) (N (o_312 P) Z Z) (N (o_447 P) Z Z)) (N (o_244 P) (N (o_381 P) Z Z) (N (o_513 P) Z Z))) (N (o_144 P) (N (o_210 P) (N (o_346 P) Z Z) (N (o_481 P) Z Z)) (N (o_278 P) (N (o_413 P) Z Z) Z))) (N (o_94 P) (N (o_128 P) (N (o_192 P) (N (o_330 P) Z Z) (N (o_463 P) Z Z)) (N (o_262 P) (N (o_397 P) Z Z) Z)) (N (o_160 P) (N (o_226 P) (N (o_362 P) Z Z) (N (o_497 P) Z Z)) (N (o_296 P) (N (o_431 P) Z Z) Z)))) (N (o_67 P) (N (o_89 P) (N (o_120 P) (N (o_184 P) (N (o_320 P) Z Z) (N (o_455 P) Z Z)) (N (o_252 P) (N (o_389 P) Z Z) (N (o_521 P) Z Z))) (N (o_152 P) (N (o_218 P) (N (o_354 P) Z Z) (N (o_489 P) Z Z)) (N (o_288 P) (N (o_423 P) Z Z) Z))) (N (o_104 P) (N (o_136 P) (N (o_200 P) (N (o_338 P) Z Z) (N (o_473 P) Z Z)) (N (o_270 P) (N (o_405 P) Z Z) Z)) (N (o_168 P) (N (o_236 P) (N (o_373 P) Z Z) (N (o_505 P) Z Z)) (N (o_304 P) (N (o_439 P) Z Z) Z)))))))
noncomputable def tree_602 (P : Params) : BT := N (boot_o_0 P) (N (boot_o_1 P) (N (o_524 P) (N (boot_o_7 P) (N (o_52 P) (N (o_68 P) (N (o_105 P) (N (o_169 P) (N (o_305 P) (N (o_572 P) Z Z) Z) (N (o_440 P) Z Z)) (N (o_237 P) (N (o_374 P) Z Z) (N (o_506 P) Z Z))) (N (o_137 P) (N (o_201 P) (N (o_339 P) Z Z) (N (o_474 P) Z Z)) (N (o_271 P) (N (o_406 P) Z Z) (N (o_540 P) Z Z)))) (N (o_84 P) (N (o_121 P) (N (o_185 P) (N (o_321 P) (N (o_588 P) Z Z) Z) (N (o_456 P) Z Z)) (N (o_253 P) (N (o_390 P) Z Z) (N (o_522 P) Z Z))) (N (o_153 P) (N (o_219 P) (N (o_355 P) Z Z) (N (o_490 P) Z Z)) (N (o_289 P) (N (o_424 P) Z Z) (N (o_556 P) Z Z))))) (N (o_60 P) (N (o_76 P) (N (o_113 P) (N (o_177 P) (N (o_313 P) (N (o_580 P) Z Z) Z) (N (o_448 P) Z Z)) (N (o_245 P) (N (o_382 P) Z Z) (N (o_514 P) Z Z))) (N (o_145 P) (N (o_211 P) (N (o_347 P) Z Z) (N (o_482 P) Z Z)) (N (o_281 P) (N (o_414 P) Z Z) (N (o_548 P) Z Z)))) (N (o_95 P) (N (o_129 P) (N (o_193 P) (N (o_331 P) (N (o_596 P) Z Z) Z) (N (o_464 P) Z Z)) (N (o_263 P) (N (o_398 P) Z Z) (N (o_532 P) Z Z))) (N (o_161 P) (N (o_227 P) (N (o_363 P) Z Z) (N (o_498 P) Z Z)) (N (o_297 P) (N (o_432 P) Z Z) (N (o_564 P) Z Z)))))) (N (o_43 P) (N (o_56 P) (N (o_72 P) (N (o_109 P) (N (o_173 P) (N (o_309 P) (N (o_576 P) Z Z) Z) (N (o_444 P) Z Z)) (N (o_241 P) (N (o_378 P) Z Z) (N (o_510 P) Z Z))) (N (o_141 P) (N (o_207 P) (N (o_343 P) Z Z) (N (o_478 P) Z Z)) (N (o_275 P) (N (o_410 P) Z Z) (N (o_544 P) Z Z)))) (N (o_91 P) (N (o_125 P) (N (o_189 P) (N (o_325 P) (N (o_592 P) Z Z) Z) (N (o_460 P) Z Z)) (N (o_259 P) (N (o_394 P) Z Z) (N (o_528 P) Z Z))) (N (o_157 P) (N (o_223 P) (N (o_359 P) Z Z) (N (o_494 P) Z Z)) (N (o_293 P) (N (o_428 P) Z Z) (N (o_560 P) Z Z))))) (N (o_64 P) (N (o_80 P) (N (o_117 P) (N (o_181 P) (N (o_317 P) (N (o_584 P) Z Z) Z) (N (o_452 P) Z Z)) (N (o_249 P) (N (o_386 P) Z Z) (N (o_518 P) Z Z))) (N (o_149 P) (N (o_215 P) (N (o_351 P) Z Z) (N (o_486 P) Z Z)) (N (o_285 P) (N (o_418 P) Z Z) (N (o_552 P) Z Z)))) (N (o_99 P) (N (o_133 P) (N (o_197 P) (N (o_335 P) (N (o_600 P) Z Z) Z) (N (o_468 P) Z Z)) (N (o_267 P) (N (o_402 P) Z Z) (N (o_536 P) Z Z))) (N (o_165 P) (N (o_231 P) (N (o_370 P) Z Z) (N (o_502 P) Z Z)) (N (o_301 P) (N (o_436 P) Z Z) (N (o_568 P) Z Z))))))) (N (boot_o_5 P) (N (boot_o_9 P) (N (o_54 P) (N (o_70 P) (N (o_107 P) (N (o_171 P) (N (o_307 P) (N (o_574 P) Z Z) Z) (N (o_442 P) Z Z)) (N (o_239 P) (N (o_376 P) Z Z) (N (o_508 P) Z Z))) (N (o_139 P) (N (o_205 P) (N (o_341 P) Z Z) (N (o_476 P) Z Z)) (N (o_273 P) (N (o_408 P) Z Z) (N (o_542 P) Z Z)))) (N (o_86 P) (N (o_123 P) (N (o_187 P) (N (o_323 P) (N (o_590 P) Z Z) Z) (N (o_458 P) Z Z)) (N (o_255 P) (N (o_392 P) Z Z) (N (o_526 P) Z Z))) (N (o_155 P) (N (o_221 P) (N (o_357 P) Z Z) (N (o_492 P) Z Z)) (N (o_291 P) (N (o_426 P) Z Z) (N (o_558 P) Z Z))))) (N (o_62 P) (N (o_78 P) (N (o_115 P) (N (o_179 P) (N (o_315 P) (N (o_582 P) Z Z) Z) (N (o_450 P) Z Z)) (N (o_247 P) (N (o_384 P) Z Z) (N (o_516 P) Z Z))) (N (o_147 P) (N (o_213 P) (N (o_349 P) Z Z) (N (o_484 P) Z Z)) (N (o_283 P) (N (o_416 P) Z Z) (N (o_550 P) Z Z)))) (N (o_97 P) (N (o_131 P) (N (o_195 P) (N (o_333 P) (N (o_598 P) Z Z) Z) (N (o_466 P) Z Z)) (N (o_265 P) (N (o_400 P) Z Z) (N (o_534 P) Z Z))) (N (o_163 P) (N (o_229 P) (N (o_365 P) Z Z) (N (o_500 P) Z Z)) (N (o_299 P) (N (o_434 P) Z Z) (N (o_566 P) Z Z)))))) (N (o_45 P) (N (o_58 P) (N (o_74 P) (N (o_111 P) (N (o_175 P) (N (o_311 P) (N (o_578 P) Z Z) Z) (N (o_446 P) Z Z)) (N (o_243 P) (N (o_380 P) Z Z) (N (o_512 P) Z Z))) (N (o_143 P) (N (o_209 P) (N (o_345 P) Z Z) (N (o_480 P) Z Z)) (N (o_277 P) (N (o_412 P) Z Z) (N (o_546 P) Z Z)))) (N (o_93 P) (N (o_127 P) (N (o_191 P) (N (o_327 P) (N (o_594 P) Z Z) Z) (N (o_462 P) Z Z)) (N (o_261 P) (N (o_396 P) Z Z) (N (o_530 P) Z Z))) (N (o_159 P) (N (o_225 P) (N (o_368 P) Z Z) (N (o_496 P) Z Z)) (N (o_295 P) (N (o_430 P) Z Z) (N (o_562 P) Z Z))))) (N (o_66 P) (N (o_82 P) (N (o_119 P) (N (o_183 P) (N (o_319 P) (N (o_586 P) Z Z) Z) (N (o_454 P) Z Z)) (N (o_251 P) (N (o_388 P) Z Z) (N (o_520 P) Z Z))) (N (o_151 P) (N (o_217 P) (N (o_353 P) Z Z) (N (o_488 P) Z Z)) (N (o_287 P) (N (o_420 P) Z Z) (N (o_554 P) Z Z)))) (N (o_101 P) (N (o_135 P) (N (o_199 P) (N (o_337 P) (N (o_602 P) Z Z) Z) (N (o_472 P) Z Z)) (N (o_269 P) (N (o_404 P) Z Z) (N (o_538 P) Z Z))) (N (o_167 P) (N (o_235 P) (N (o_372 P) Z Z) (N (o_504 P) Z Z)) (N (o_303 P) (N (o_438 P) Z Z) (N (o_570 P) Z Z)))))))) (N (o_49 P) (N (boot_o_4 P) (N (boot_o_8 P) (N (o_53 P) (N (o_69 P) (N (o_106 P) (N (o_170 P) (N (o_306 P) (N (o_573 P) Z Z) Z) (N (o_441 P) Z Z)) (N (o_238 P) (N (o_375 P) Z Z) (N (o_507 P) Z Z))) (N (o_138 P) (N (o_204 P) (N (o_340 P) Z Z) (N (o_475 P) Z Z)) (N (o_272 P) (N (o_407 P) Z Z) (N (o_541 P) Z Z)))) (N (o_85 P) (N (o_122 P) (N (o_186 P) (N (o_322 P) (N (o_589 P) Z Z) Z) (N (o_457 P) Z Z)) (N (o_254 P) (N (o_391 P) Z Z) (N (o_523 P) Z Z))) (N (o_154 P) (N (o_220 P) (N (o_356 P) Z Z) (N (o_491 P) Z Z)) (N (o_290 P) (N (o_425 P) Z Z) (N (o_557 P) Z Z))))) (N (o_61 P) (N (o_77 P) (N (o_114 P) (N (o_178 P) (N (o_314 P) (N (o_581 P) Z Z) Z) (N (o_449 P) Z Z)) (N (o_246 P) (N (o_383 P) Z Z) (N (o_515 P) Z Z))) (N (o_146 P) (N (o_212 P) (N (o_348 P) Z Z) (N (o_483 P) Z Z)) (N (o_282 P) (N (o_415 P) Z Z) (N (o_549 P) Z Z)))) (N (o_96 P) (N (o_130 P) (N (o_194 P) (N (o_332 P) (N (o_597 P) Z Z) Z) (N (o_465 P) Z Z)) (N (o_264 P) (N (o_399 P) Z Z) (N (o_533 P) Z Z))) (N (o_162 P) (N (o_228 P) (N (o_364 P) Z Z) (N (o_499 P) Z Z)) (N (o_298 P) (N (o_433 P) Z Z) (N (o_565 P) Z Z)))))) (N (o_525 P) (N (o_57 P) (N (o_73 P) (N (o_110 P) (N (o_174 P) (N (o_310 P) (N (o_577 P) Z Z) Z) (N (o_445 P) Z Z)) (N (o_242 P) (N (o_379 P) Z Z) (N (o_511 P) Z Z))) (N (o_142 P) (N (o_208 P) (N (o_344 P) Z Z) (N (o_479 P) Z Z)) (N (o_276 P) (N (o_411 P) Z Z) (N (o_545 P) Z Z)))) (N (o_92 P) (N (o_126 P) (N (o_190 P) (N (o_326 P) (N (o_593 P) Z Z) Z) (N (o_461 P) Z Z)) (N (o_260 P) (N (o_395 P) Z Z) (N (o_529 P) Z Z))) (N (o_158 P) (N (o_224 P) (N (o_360 P) Z Z) (N (o_495 P) Z Z)) (N (o_294 P) (N (o_429 P) Z Z) (N (o_561 P) Z Z))))) (N (o_65 P) (N (o_81 P) (N (o_118 P) (N (o_182 P) (N (o_318 P) (N (o_585 P) Z Z) Z) (N (o_453 P) Z Z)) (N (o_250 P) (N (o_387 P) Z Z) (N (o_519 P) Z Z))) (N (o_150 P) (N (o_216 P) (N (o_352 P) Z Z) (N (o_487 P) Z Z)) (N (o_286 P) (N (o_419 P) Z Z) (N (o_553 P) Z Z)))) (N (o_100 P) (N (o_134 P) (N (o_198 P) (N (o_336 P) (N (o_601 P) Z Z) Z) (N (o_469 P) Z Z)) (N (o_268 P) (N (o_403 P) Z Z) (N (o_537 P) Z Z))) (N (o_166 P) (N (o_234 P) (N (o_371 P) Z Z) (N (o_503 P) Z Z)) (N (o_302 P) (N (o_437 P) Z Z) (N (o_569 P) Z Z))))))) (N (boot_o_6 P) (N (boot_o_10 P) (N (o_55 P) (N (o_71 P) (N (o_108 P) (N (o_172 P) (N (o_308 P) (N (o_575 P) Z Z) Z) (N (o_443 P) Z Z)) (N (o_240 P) (N (o_377 P) Z Z) (N (o_509 P) Z Z))) (N (o_140 P) (N (o_206 P) (N (o_342 P) Z Z) (N (o_477 P) Z Z)) (N (o_274 P) (N (o_409 P) Z Z) (N (o_543 P) Z Z)))) (N (o_90 P) (N (o_124 P) (N (o_188 P) (N (o_324 P) (N (o_591 P) Z Z) Z) (N (o_459 P) Z Z)) (N (o_258 P) (N (o_393 P) Z Z) (N (o_527 P) Z Z))) (N (o_156 P) (N (o_222 P) (N (o_358 P) Z Z) (N (o_493 P) Z Z)) (N (o_292 P) (N (o_427 P) Z Z) (N (o_559 P) Z Z))))) (N (o_63 P) (N (o_79 P) (N (o_116 P) (N (o_180 P) (N (o_316 P) (N (o_583 P) Z Z) Z) (N (o_451 P) Z Z)) (N (o_248 P) (N (o_385 P) Z Z) (N (o_517 P) Z Z))) (N (o_148 P) (N (o_214 P) (N (o_350 P) Z Z) (N (o_485 P) Z Z)) (N (o_284 P) (N (o_417 P) Z Z) (N (o_551 P) Z Z)))) (N (o_98 P) (N (o_132 P) (N (o_196 P) (N (o_334 P) (N (o_599 P) Z Z) Z) (N (o_467 P) Z Z)) (N (o_266 P) (N (o_401 P) Z Z) (N (o_535 P) Z Z))) (N (o_164 P) (N (o_230 P) (N (o_369 P) Z Z) (N (o_501 P) Z Z)) (N (o_300 P) (N (o_435 P) Z Z) (N (o_567 P) Z Z)))))) (N (o_46 P) (N (o_59 P) (N (o_75 P) (N (o_112 P) (N (o_176 P) (N (o_312 P) (N (o_579 P) Z Z) Z) (N (o_447 P) Z Z)) (N (o_244 P) (N (o_381 P) Z Z) (N (o_513 P) Z Z))) (N (o_144 P) (N (o_210 P) (N (o_346 P) Z Z) (N (o_481 P) Z Z)) (N (o_278 P) (N (o_413 P) Z Z) (N (o_547 P) Z Z)))) (N (o_94 P) (N (o_128 P) (N (o_192 P) (N (o_330 P) (N (o_595 P) Z Z) Z) (N (o_463 P) Z Z)) (N (o_262 P) (N (o_397 P) Z Z) (N (o_531 P) Z Z))) (N (o_160 P) (N (o_226 P) (N (o_362 P) Z Z) (N (o_497 P) Z Z)) (N (o_296 P) (N (o_431 P) Z Z) (N (o_563 P) Z Z))))) (N (o_67 P) (N (o_89 P) (N (o_120 P) (N (o_184 P) (N (o_320 P) (N (o_587 P) Z Z) Z) (N (o_455 P) Z Z)) (N (o_252 P) (N (o_389 P) Z Z) (N (o_521 P) Z Z))) (N (o_152 P) (N (o_218 P) (N (o_354 P) Z Z) (N (o_489 P) Z Z)) (N (o_288 P) (N (o_423 P) Z Z) (N (o_555 P) Z Z)))) (N (o_104 P) (N (o_136 P) (N (o_200 P) (N (o_338 P) Z Z) (N (o_473 P) Z Z)) (N (o_270 P) (N (o_405 P) Z Z) (N (o_539 P) Z Z))) (N (o_168 P) (N (o_236 P) (N (o_373 P) Z Z) (N (o_505 P) Z Z)) (N (o_304 P) (N (o_439 P) Z Z) (N (o_571 P) Z Z))))))))
noncomputable def tree_616 (P : Params) : BT := N (boot_o_0 P) (N (boot_o_1 P) (N (o_603 P) (N (boot_o_7 P) (N (o_52 P) (N (o_68 P) (N (o_105 P) (N (o_169 P) (N (o_305 P) (N (o_572 P) Z Z) Z) (N (o_440 P) Z Z)) (N (o_237 P) (N (o_374 P) Z Z) (N (o_506 P) Z Z))) (N (o_137 P) (N (o_201 P) (N (o_339 P) (N (o_606 P) Z Z) Z) (N (o_474 P) Z Z)) (N (o_271 P) (N (o_406 P) Z Z) (N (o_540 P) Z Z)))) (N (o_84 P) (N (o_121 P) (N (o_185 P) (N (o_321 P) (N (o_588 P) Z Z) Z) (N (o_456 P) Z Z)) (N (o_253 P) (N (o_390 P) Z Z) (N (o_522 P) Z Z))) (N (o_153 P) (N (o_219 P) (N (o_355 P) Z Z) (N (o_490 P) Z Z)) (N (o_289 P) (N (o_424 P) Z Z) (N (o_556 P) Z Z))))) (N (o_60 P) (N (o_76 P) (N (o_113 P) (N (o_177 P) (N (o_313 P) (N (o_580 P) Z Z) Z) (N (o_448 P) Z Z)) (N (o_245 P) (N (o_382 P) Z Z) (N (o_514 P) Z Z))) (N (o_145 P) (N (o_211 P) (N (o_347 P) (N (o_614 P) Z Z) Z) (N (o_482 P) Z Z)) (N (o_281 P) (N (o_414 P) Z Z) (N (o_548 P) Z Z)))) (N (o_95 P) (N (o_129 P) (N (o_193 P) (N (o_331 P) (N (o_596 P) Z Z) Z) (N (o_464 P) Z Z)) (N (o_263 P) (N (o_398 P) Z Z) (N (o_532 P) Z Z))) (N (o_161 P) (N (o_227 P) (N (o_363 P) Z Z) (N (o_498 P) Z Z)) (N (o_297 P) (N (o_432 P) Z Z) (N (o_564 P) Z Z)))))) (N (o_43 P) (N (o_56 P) (N (o_72 P) (N (o_109 P) (N (o_173 P) (N (o_309 P) (N (o_576 P) Z Z) Z) (N (o_444 P) Z Z)) (N (o_241 P) (N (o_378 P) Z Z) (N (o_510 P) Z Z))) (N (o_141 P) (N (o_207 P) (N (o_343 P) (N (o_610 P) Z Z) Z) (N (o_478 P) Z Z)) (N (o_275 P) (N (o_410 P) Z Z) (N (o_544 P) Z Z)))) (N (o_91 P) (N (o_125 P) (N (o_189 P) (N (o_325 P) (N (o_592 P) Z Z) Z) (N (o_460 P) Z Z)) (N (o_259 P) (N (o_394 P) Z Z) (N (o_528 P) Z Z))) (N (o_157 P) (N (o_223 P) (N (o_359 P) Z Z) (N (o_494 P) Z Z)) (N (o_293 P) (N (o_428 P) Z Z) (N (o_560 P) Z Z))))) (N (o_64 P) (N (o_80 P) (N (o_117 P) (N (o_181 P) (N (o_317 P) (N (o_584 P) Z Z) Z) (N (o_452 P) Z Z)) (N (o_249 P) (N (o_386 P) Z Z) (N (o_518 P) Z Z))) (N (o_149 P) (N (o_215 P) (N (o_351 P) Z Z) (N (o_486 P) Z Z)) (N (o_285 P) (N (o_418 P) Z Z) (N (o_552 P) Z Z)))) (N (o_99 P) (N (o_133 P) (N (o_197 P) (N (o_335 P) (N (o_600 P) Z Z) Z) (N (o_468 P) Z Z)) (N (o_267 P) (N (o_402 P) Z Z) (N (o_536 P) Z Z))) (N (o_165 P) (N (o_231 P) (N (o_370 P) Z Z) (N (o_502 P) Z Z)) (N (o_301 P) (N (o_436 P) Z Z) (N (o_568 P) Z Z))))))) (N (boot_o_5 P) (N (boot_o_9 P) (N (o_54 P) (N (o_70 P) (N (o_107 P) (N (o_171 P) (N (o_307 P) (N (o_574 P) Z Z) Z) (N (o_442 P) Z Z)) (N (o_239 P) (N (o_376 P) Z Z) (N (o_508 P) Z Z))) (N (o_139 P) (N (o_205 P) (N (o_341 P) (N (o_608 P) Z Z) Z) (N (o_476 P) Z Z)) (N (o_273 P) (N (o_408 P) Z Z) (N (o_542 P) Z Z)))) (N (o_86 P) (N (o_123 P) (N (o_187 P) (N (o_323 P) (N (o_590 P) Z Z) Z) (N (o_458 P) Z Z)) (N (o_255 P) (N (o_392 P) Z Z) (N (o_526 P) Z Z))) (N (o_155 P) (N (o_221 P) (N (o_357 P) Z Z) (N (o_492 P) Z Z)) (N (o_291 P) (N (o_426 P) Z Z) (N (o_558 P) Z Z))))) (N (o_62 P) (N (o_78 P) (N (o_115 P) (N (o_179 P) (N (o_315 P) (N (o_582 P) Z Z) Z) (N (o_450 P) Z Z)) (N (o_247 P) (N (o_384 P) Z Z) (N (o_516 P) Z Z))) (N (o_147 P) (N (o_213 P) (N (o_349 P) (N (o_616 P) Z Z) Z) (N (o_484 P) Z Z)) (N (o_283 P) (N (o_416 P) Z Z) (N (o_550 P) Z Z)))) (N (o_97 P) (N (o_131 P) (N (o_195 P) (N (o_333 P) (N (o_598 P) Z Z) Z) (N (o_466 P) Z Z)) (N (o_265 P) (N (o_400 P) Z Z) (N (o_534 P) Z Z))) (N (o_163 P) (N (o_229 P) (N (o_365 P) Z Z) (N (o_500 P) Z Z)) (N (o_299 P) (N (o_434 P) Z Z) (N (o_566 P) Z Z)))))) (N (o_45 P) (N (o_58 P) (N (o_74 P) (N (o_111 P) (N (o_175 P) (N (o_311 P) (N (o_578 P) Z Z) Z) (N (o_446 P) Z Z)) (N (o_243 P) (N (o_380 P) Z Z) (N (o_512 P) Z Z))) (N (o_143 P) (N (o_209 P) (N (o_345 P) (N (o_612 P) Z Z) Z) (N (o_480 P) Z Z)) (N (o_277 P) (N (o_412 P) Z Z) (N (o_546 P) Z Z)))) (N (o_93 P) (N (o_127 P) (N (o_191 P) (N (o_327 P) (N (o_594 P) Z Z) Z) (N (o_462 P) Z Z)) (N (o_261 P) (N (o_396 P) Z Z) (N (o_530 P) Z Z))) (N (o_159 P) (N (o_225 P) (N (o_368 P) Z Z) (N (o_496 P) Z Z)) (N (o_295 P) (N (o_430 P) Z Z) (N (o_562 P) Z Z))))) (N (o_66 P) (N (o_82 P) (N (o_119 P) (N (o_183 P) (N (o_319 P) (N (o_586 P) Z Z) Z) (N (o_454 P) Z Z)) (N (o_251 P) (N (o_388 P) Z Z) (N (o_520 P) Z Z))) (N (o_151 P) (N (o_217 P) (N (o_353 P) Z Z) (N (o_488 P) Z Z)) (N (o_287 P) (N (o_420 P) Z Z) (N (o_554 P) Z Z)))) (N (o_101 P) (N (o_135 P) (N (o_199 P) (N (o_337 P) (N (o_602 P) Z Z) Z) (N (o_472 P) Z Z)) (N (o_269 P) (N (o_404 P) Z Z) (N (o_538 P) Z Z))) (N (o_167 P) (N (o_235 P) (N (o_372 P) Z Z) (N (o_504 P) Z Z)) (N (o_303 P) (N (o_438 P) Z Z) (N (o_570 P) Z Z)))))))) (N (o_49 P) (N (boot_o_4 P) (N (boot_o_8 P) (N (o_53 P) (N (o_69 P) (N (o_106 P) (N (o_170 P) (N (o_306 P) (N (o_573 P) Z Z) Z) (N (o_441 P) Z Z)) (N (o_238 P) (N (o_375 P) Z Z) (N (o_507 P) Z Z))) (N (o_138 P) (N (o_204 P) (N (o_340 P) (N (o_607 P) Z Z) Z) (N (o_475 P) Z Z)) (N (o_272 P) (N (o_407 P) Z Z) (N (o_541 P) Z Z)))) (N (o_85 P) (N (o_122 P) (N (o_186 P) (N (o_322 P) (N (o_589 P) Z Z) Z) (N (o_457 P) Z Z)) (N (o_254 P) (N (o_391 P) Z Z) (N (o_523 P) Z Z))) (N (o_154 P) (N (o_220 P) (N (o_356 P) Z Z) (N (o_491 P) Z Z)) (N (o_290 P) (N (o_425 P) Z Z) (N (o_557 P) Z Z))))) (N (o_61 P) (N (o_77 P) (N (o_114 P) (N (o_178 P) (N (o_314 P) (N (o_581 P) Z Z) Z) (N (o_449 P) Z Z)) (N (o_246 P) (N (o_383 P) Z Z) (N (o_515 P) Z Z))) (N (o_146 P) (N (o_212 P) (N (o_348 P) (N (o_615 P) Z Z) Z) (N (o_483 P) Z Z)) (N (o_282 P) (N (o_415 P) Z Z) (N (o_549 P) Z Z)))) (N (o_96 P) (N (o_130 P) (N (o_194 P) (N (o_332 P) (N (o_597 P) Z Z) Z) (N (o_465 P) Z Z)) (N (o_264 P) (N (o_399 P) Z Z) (N (o_533 P) Z Z))) (N (o_162 P) (N (o_228 P) (N (o_364 P) Z Z) (N (o_499 P) Z Z)) (N (o_298 P) (N (o_433 P) Z Z) (N (o_565 P) Z Z)))))) (N (o_604 P) (N (o_57 P) (N (o_73 P) (N (o_110 P) (N (o_174 P) (N (o_310 P) (N (o_577 P) Z Z) Z) (N (o_445 P) Z Z)) (N (o_242 P) (N (o_379 P) Z Z) (N (o_511 P) Z Z))) (N (o_142 P) (N (o_208 P) (N (o_344 P) (N (o_611 P) Z Z) Z) (N (o_479 P) Z Z)) (N (o_276 P) (N (o_411 P) Z Z) (N (o_545 P) Z Z)))) (N (o_92 P) (N (o_126 P) (N (o_190 P) (N (o_326 P) (N (o_593 P) Z Z) Z) (N (o_461 P) Z Z)) (N (o_260 P) (N (o_395 P) Z Z) (N (o_529 P) Z Z))) (N (o_158 P) (N (o_224 P) (N (o_360 P) Z Z) (N (o_495 P) Z Z)) (N (o_294 P) (N (o_429 P) Z Z) (N (o_561 P) Z Z))))) (N (o_65 P) (N (o_81 P) (N (o_118 P) (N (o_182 P) (N (o_318 P) (N (o_585 P) Z Z) Z) (N (o_453 P) Z Z)) (N (o_250 P) (N (o_387 P) Z Z) (N (o_519 P) Z Z))) (N (o_150 P) (N (o_216 P) (N (o_352 P) Z Z) (N (o_487 P) Z Z)) (N (o_286 P) (N (o_419 P) Z Z) (N (o_553 P) Z Z)))) (N (o_100 P) (N (o_134 P) (N (o_198 P) (N (o_336 P) (N (o_601 P) Z Z) Z) (N (o_469 P) Z Z)) (N (o_268 P) (N (o_403 P) Z Z) (N (o_537 P) Z Z))) (N (o_166 P) (N (o_234 P) (N (o_371 P) Z Z) (N (o_503 P) Z Z)) (N (o_302 P) (N (o_437 P) Z Z) (N (o_569 P) Z Z))))))) (N (boot_o_6 P) (N (boot_o_10 P) (N (o_55 P) (N (o_71 P) (N (o_108 P) (N (o_172 P) (N (o_308 P) (N (o_575 P) Z Z) Z) (N (o_443 P) Z Z)) (N (o_240 P) (N (o_377 P) Z Z) (N (o_509 P) Z Z))) (N (o_140 P) (N (o_206 P) (N (o_342 P) (N (o_609 P) Z Z) Z) (N (o_477 P) Z Z)) (N (o_274 P) (N (o_409 P) Z Z) (N (o_543 P) Z Z)))) (N (o_90 P) (N (o_124 P) (N (o_188 P) (N (o_324 P) (N (o_591 P) Z Z) Z) (N (o_459 P) Z Z)) (N (o_258 P) (N (o_393 P) Z Z) (N (o_527 P) Z Z))) (N (o_156 P) (N (o_222 P) (N (o_358 P) Z Z) (N (o_493 P) Z Z)) (N (o_292 P) (N (o_427 P) Z Z) (N (o_559 P) Z Z))))) (N (o_63 P) (N (o_79 P) (N (o_116 P) (N (o_180 P) (N (o_316 P) (N (o_583 P) Z Z) Z) (N (o_451 P) Z Z)) (N (o_248 P) (N (o_385 P) Z Z) (N (o_517 P) Z Z))) (N (o_148 P) (N (o_214 P) (N (o_350 P) Z Z) (N (o_485 P) Z Z)) (N (o_284 P) (N (o_417 P) Z Z) (N (o_551 P) Z Z)))) (N (o_98 P) (N (o_132 P) (N (o_196 P) (N (o_334 P) (N (o_599 P) Z Z) Z) (N (o_467 P) Z Z)) (N (o_266 P) (N (o_401 P) Z Z) (N (o_535 P) Z Z))) (N (o_164 P) (N (o_230 P) (N (o_369 P) Z Z) (N (o_501 P) Z Z)) (N (o_300 P) (N (o_435 P) Z Z) (N (o_567 P) Z Z)))))) (N (o_46 P) (N (o_59 P) (N (o_75 P) (N (o_112 P) (N (o_176 P) (N (o_312 P) (N (o_579 P) Z Z) Z) (N (o_447 P) Z Z)) (N (o_244 P) (N (o_381 P) Z Z) (N (o_513 P) Z Z))) (N (o_144 P) (N (o_210 P) (N (o_346 P) (N (o_613 P) Z Z) Z) (N (o_481 P) Z Z)) (N (o_278 P) (N (o_413 P) Z Z) (N (o_547 P) Z Z)))) (N (o_94 P) (N (o_128 P) (N (o_192 P) (N (o_330 P) (N (o_595 P) Z Z) Z) (N (o_463 P) Z Z)) (N (o_262 P) (N (o_397 P) Z Z) (N (o_531 P) Z Z))) (N (o_160 P) (N (o_226 P) (N (o_362 P) Z Z) (N (o_497 P) Z Z)) (N (o_296 P) (N (o_431 P) Z Z) (N (o_563 P) Z Z))))) (N (o_67 P) (N (o_89 P) (N (o_120 P) (N (o_184 P) (N (o_320 P) (N (o_587 P) Z Z) Z) (N (o_455 P) Z Z)) (N (o_252 P) (N (o_389 P) Z Z) (N (o_521 P) Z Z))) (N (o_152 P) (N (o_218 P) (N (o_354 P) Z Z) (N (o_489 P) Z Z)) (N (o_288 P) (N (o_423 P) Z Z) (N (o_555 P) Z Z)))) (N (o_104 P) (N (o_136 P) (N (o_200 P) (N (o_338 P) (N (o_605 P) Z Z) Z) (N (o_473 P) Z Z)) (N (o_270 P) (N (o_405 P) Z Z) (N (o_539 P) Z Z))) (N (o_168 P) (N (o_236 P) (N (o_373 P) Z Z) (N (o_505 P) Z Z)) (N (o_304 P) (N (o_439 P) Z Z) (N (o_571 P) Z Z))))))))
noncomputable def heap_46 (P : Params) : Heap := ⟨⟨[boot_o_0 P, boot_o_1 P, boot_o_2 P, boot_o_3 P, boot_o_4 P, boot_o_5 P, boot_o_6 P, boot_o_7 P, boot_o_8 P, boot_o_9 P, boot_o_10 P, o_43 P, o_44 P, o_45 P, o_46 P]⟩, {}⟩
noncomputable def heap_617 (P : Params) : Heap := ⟨⟨[boot_o_0 P, boot_o_1 P, o_49 P, o_603 P, boot_o_4 P, boot_o_5 P, boot_o_6 P, boot_o_7 P, boot_o_8 P, boot_o_9 P, boot_o_10 P, o_43 P, o_604 P, o_45 P, o_46 P, o_52 P, o_53 P, o_54 P, o_55 P, o_56 P, o_57 P, o_58 P, o_59 P, o_60 P, o_61 P, o_62 P, o_63 P, o_64 P, o_65 P, o_66 P, o_67 P, o_68 P, o_69 P, o_70 P, o_71 P, o_72 P, o_73 P, o_74 P, o_75 P, o_76 P, o_77 P, o_78 P, o_79 P, o_80 P, o_81 P, o_82 P, o_89 P, o_84 P, o_85 P, o_86 P, o_90 P, o_91 P, o_92 P, o_93 P, o_94 P, o_95 P, o_96 P, o_97 P, o_98 P, o_99 P, o_100 P, o_101 P, o_104 P, o_105 P, o_106 P, o_107 P, o_108 P, o_109 P, o_110 P, o_111 P, o_112 P, o_113 P, o_114 P, o_115 P, o_116 P, o_117 P, o_118 P, o_119 P, o_120 P, o_121 P, o_122 P, o_123 P, o_124 P, o_125 P, o_126 P, o_127 P, o_128 P, o_129 P, o_130 P, o_131 P, o_132 P, o_133 P, o_134 P, o_135 P, o_136 P, o_137 P, o_138 P, o_139 P, o_140 P, o_141 P, o_142 P, o_143 P, o_144 P, o_145 P, o_146 P, o_147 P, o_148 P, o_149 P, o_150 P, o_151 P, o_152 P, o_153 P, o_154 P, o_155 P, o_156 P, o_157 P, o_158 P, o_159 P, o_160 P, o_161 P, o_162 P, o_163 P, o_164 P, o_165 P, o_166 P, o_167 P, o_168 P, o_169 P, o_170 P, o_171 P, o_172 P, o_173 P, o_174 P, o_175 P, o_176 P, o_177 P, o_178 P, o_179 P, o_180 P, o_181 P, o_182 P, o_183 P, o_184 P, o_185 P, o_186 P, o_187 P, o_188 P, o_189 P, o_190 P, o_191 P, o_192 P, o_193 P, o_194 P, o_195 P, o_196 P, o_197 P, o_198 P, o_199 P, o_200 P, o_201 P, o_204 P, o_205 P, o_206 P, o_207 P, o_208 P, o_209 P, o_210 P, o_211 P, o_212 P, o_213 P, o_214 P, o_215 P, o_216 P, o_217 P, o_218 P, o_219 P, o_220 P, o_221 P, o_222 P, o_223 P, o_224 P, o_225 P, o_226 P, o_227 P, o_228 P, o_229 P, o_230 P, o_231 P, o_234 P, o_235 P, o_236 P, o_237 P, o_238 P, o_239 P, o_240 P, o_241 P, o_242 P, o_243 P, o_244 P, o_245 P, o_246 P, o_247 P, o_248 P, o_249 P, o_250 P, o_251 P, o_252 P, o_253 P, o_254 P, o_255 P, o_258 P, o_259 P, o_260 P, o_261 P, o_262 P, o_263 P, o_264 P, o_265 P, o_266 P, o_267 P, o_268 P, o_269 P, o_270 P, o_271 P, o_272 P, o_273 P, o_274 P, o_275 P, o_276 P, o_277 P, o_278 P, o_281 P, o_282 P, o_283 P, o_284 P, o_285 P, o_286 P, o_287 P, o_288 P, o_289 P, o_290 P, o_291 P, o_292 P, o_293 P, o_294 P, o_295 P, o_296 P, o_297 P, o_298 P, o_299 P, o_300 P, o_301 P, o_302 P, o_303 P, o_304 P, o_305 P, o_306 P, o_307 P, o_308 P, o_309 P, o_310 P, o_311 P, o_312 P, o_313 P, o_314 P, o_315 P, o_316 P, o_317 P, o_318 P, o_319 P, o_320 P, o_321 P, o_322 P, o_323 P, o_324 P, o_325 P, o_326 P, o_327 P, o_330 P, o_331 P, o_332 P, o_333 P, o_334 P, o_335 P, o_336 P, o_337 P, o_338 P, o_339 P, o_340 P, o_341 P, o_342 P, o_343 P, o_344 P, o_345 P, o_346 P, o_347 P, o_348 P, o_349 P, o_350 P, o_351 P, o_352 P, o_353 P, o_354 P, o_355 P, o_356 P, o_357 P, o_358 P, o_359 P, o_360 P, o_368 P, o_362 P, o_363 P, o_364 P, o_365 P, o_369 P, o_370 P, o_371 P, o_372 P, o_373 P, o_374 P, o_375 P, o_376 P, o_377 P, o_378 P, o_379 P, o_380 P, o_381 P, o_382 P, o_383 P, o_384 P, o_385 P, o_386 P, o_387 P, o_388 P, o_389 P, o_390 P, o_391 P, o_392 P, o_393 P, o_394 P, o_395 P, o_396 P, o_397 P, o_398 P, o_399 P, o_400 P, o_401 P, o_402 P, o_403 P, o_404 P, o_405 P, o_406 P, o_407 P, o_408 P, o_409 P, o_410 P, o_411 P, o_412 P, o_413 P, o_414 P, o_415 P, o_416 P, o_417 P, o_418 P, o_419 P, o_420 P, o_423 P, o_424 P, o_425 P, o_426 P, o_427 P, o_428 P, o_429 P, o_430 P, o_431 P, o_432 P, o_433 P, o_434 P, o_435 P, o_436 P, o_437 P, o_438 P, o_439 P, o_440 P, o_441 P, o_442 P, o_443 P, o_444 P, o_445 P, o_446 P, o_447 P, o_448 P, o_449 P, o_450 P, o_451 P, o_452 P, o_453 P, o_454 P, o_455 P, o_456 P, o_457 P, o_458 P, o_459 P, o_460 P, o_461 P, o_462 P, o_463 P, o_464 P, o_465 P, o_466 P, o_467 P, o_468 P, o_469 P, o_472 P, o_473 P, o_474 P, o_475 P, o_476 P, o_477 P, o_478 P, o_479 P, o_480 P, o_481 P, o_482 P, o_483 P, o_484 P, o_485 P, o_486 P, o_487 P, o_488 P, o_489 P, o_490 P, o_491 P, o_492 P, o_493 P, o_494 P, o_495 P, o_496 P, o_497 P, o_498 P, o_499 P, o_500 P, o_501 P, o_502 P, o_503 P, o_504 P, o_505 P, o_506 P, o_507 P, o_508 P, o_509 P, o_510 P, o_511 P, o_512 P, o_513 P, o_514 P, o_515 P, o_516 P, o_517 P, o_518 P, o_519 P, o_520 P, o_521 P, o_522 P, o_523 P, o_526 P, o_527 P, o_528 P, o_529 P, o_530 P, o_531 P, o_532 P, o_533 P, o_534 P, o_535 P, o_536 P, o_537 P, o_538 P, o_539 P, o_540 P, o_541 P, o_542 P, o_543 P, o_544 P, o_545 P, o_546 P, o_547 P, o_548 P, o_549 P, o_550 P, o_551 P, o_552 P, o_553 P, o_554 P, o_555 P, o_556 P, o_557 P, o_558 P, o_559 P, o_560 P, o_561 P, o_562 P, o_563 P, o_564 P, o_565 P, o_566 P, o_567 P, o_568 P, o_569 P, o_570 P, o_571 P, o_572 P, o_573 P, o_574 P, o_575 P, o_576 P, o_577 P, o_578 P, o_579 P, o_580 P, o_581 P, o_582 P, o_583 P, o_584 P, o_585 P, o_586 P, o_587 P, o_588 P, o_589 P, o_590 P, o_591 P, o_592 P, o_593 P, o_594 P, o_595 P, o_596 P, o_597 P, o_598 P, o_599 P, o_600 P, o_601 P, o_602 P, o_605 P, o_606 P, o_607 P, o_608 P, o_609 P, o_610 P, o_611 P, o_612 P, o_613 P, o_614 P, o_615 P, o_616 P]⟩, {}⟩
noncomputable def heap_39 : Params → Frag := fun P => (nat_lit 2, o_49 P) :: (nat_lit 3, o_603 P) :: (nat_lit 15, o_52 P) :: (nat_lit 17, o_54 P) :: (nat_lit 18, o_55 P) :: (nat_lit 20, o_57 P) :: (nat_lit 21, o_58 P) :: (nat_lit 22, o_59 P) :: (nat_lit 29, o_66 P) :: (nat_lit 30, o_67 P) :: (nat_lit 32, o_69 P) :: (nat_lit 33, o_70 P) :: (nat_lit 35, o_72 P) :: (nat_lit 36, o_73 P) :: (nat_lit 37, o_74 P) :: (nat_lit 39, o_76 P) :: (nat_lit 40, o_77 P) :: (nat_lit 42, o_79 P) :: (nat_lit 43, o_80 P) :: (nat_lit 44, o_81 P) :: (nat_lit 45, o_82 P) :: (nat_lit 46, o_89 P) :: (nat_lit 47, o_84 P) :: (nat_lit 50, o_90 P) :: (nat_lit 57, o_97 P) :: (nat_lit 58, o_98 P) :: (nat_lit 59, o_99 P) :: (nat_lit 69, o_111 P) :: (nat_lit 71, o_113 P) :: (nat_lit 72, o_114 P) :: (nat_lit 74, o_116 P) :: (nat_lit 75, o_117 P) :: (nat_lit 76, o_118 P) :: (nat_lit 78, o_120 P) :: (nat_lit 79, o_121 P) :: (nat_lit 81, o_123 P) :: (nat_lit 82, o_124 P) :: (nat_lit 83, o_125 P) :: (nat_lit 85, o_127 P) :: (nat_lit 86, o_128 P) :: (nat_lit 88, o_130 P) :: (nat_lit 89, o_131 P) :: (nat_lit 90, o_132 P) :: (nat_lit 92, o_134 P) :: (nat_lit 93, o_135 P) :: (nat_lit 95, o_137 P) :: (nat_lit 96, o_138 P) :: (nat_lit 97, o_139 P) :: (nat_lit 99, o_141 P) :: (nat_lit 100, o_142 P) :: (nat_lit 102, o_144 P) :: (nat_lit 103, o_145 P) :: (nat_lit 104, o_146 P) :: (nat_lit 106, o_148 P) :: (nat_lit 107, o_149 P) :: (nat_lit 109, o_151 P) :: (nat_lit 110, o_152 P) :: (nat_lit 111, o_153 P) :: (nat_lit 113, o_155 P) :: (nat_lit 114, o_156 P) :: (nat_lit 116, o_158 P) :: (nat_lit 117, o_159 P) :: (nat_lit 118, o_160 P) :: (nat_lit 120, o_162 P) :: (nat_lit 121, o_163 P) :: (nat_lit 123, o_165 P) :: (nat_lit 124, o_166 P) :: (nat_lit 125, o_167 P) :: (nat_lit 127, o_169 P) :: (nat_lit 128, o_170 P) :: (nat_lit 130, o_172 P) :: (nat_lit 131, o_173 P) :: (nat_lit 132, o_174 P) :: (nat_lit 134, o_176 P) :: (nat_lit 135, o_177 P) :: (nat_lit 137, o_179 P) :: (nat_lit 138, o_180 P) :: (nat_lit 139, o_181 P) :: (nat_lit 141, o_183 P) :: (nat_lit 142, o_184 P) :: (nat_lit 144, o_186 P) :: (nat_lit 145, o_187 P) :: (nat_lit 146, o_188 P) :: (nat_lit 148, o_190 P) :: (nat_lit 149, o_191 P) :: (nat_lit 151, o_193 P) :: (nat_lit 152, o_194 P) :: (nat_lit 153, o_195 P) :: (nat_lit 154, o_196 P) :: (nat_lit 155, o_197 P) :: (nat_lit 156, o_198 P) :: (nat_lit 157, o_199 P) :: (nat_lit 160, o_204 P) :: (nat_lit 162, o_206 P) :: (nat_lit 163, o_207 P) :: (nat_lit 165, o_209 P) :: (nat_lit 166, o_210 P) :: (nat_lit 174, o_218 P) :: (nat_lit 176, o_220 P) :: (nat_lit 177, o_221 P) :: (nat_lit 179, o_223 P) :: (nat_lit 180, o_224 P) :: (nat_lit 181, o_225 P) :: (nat_lit 182, o_226 P) :: (nat_lit 183, o_227 P) :: (nat_lit 184, o_228 P) :: (nat_lit 185, o_229 P) :: (nat_lit 195, o_241 P) :: (nat_lit 196, o_242 P) :: (nat_lit 198, o_244 P) :: (nat_lit 199, o_245 P) :: (nat_lit 201, o_247 P) :: (nat_lit 202, o_248 P) :: (nat_lit 203, o_249 P) :: (nat_lit 204, o_250 P) :: (nat_lit 205, o_251 P) :: (nat_lit 206, o_252 P) :: (nat_lit 207, o_253 P) :: (nat_lit 217, o_265 P) :: (nat_lit 219, o_267 P) :: (nat_lit 220, o_268 P) :: (nat_lit 222, o_270 P) :: (nat_lit 223, o_271 P) :: (nat_lit 224, o_272 P) :: (nat_lit 225, o_273 P) :: (nat_lit 226, o_274 P) :: (nat_lit 227, o_275 P) :: (nat_lit 228, o_276 P) :: (nat_lit 238, o_288 P) :: (nat_lit 240, o_290 P) :: (nat_lit 241, o_291 P) :: (nat_lit 243, o_293 P) :: (nat_lit 244, o_294 P) :: (nat_lit 245, o_295 P) :: (nat_lit 247, o_297 P) :: (nat_lit 248, o_298 P) :: (nat_lit 250, o_300 P) :: (nat_lit 251, o_301 P) :: (nat_lit 252, o_302 P) :: (nat_lit 253, o_303 P) :: (nat_lit 254, o_304 P) :: (nat_lit 255, o_305 P) :: (nat_lit 256, o_306 P) :: (nat_lit 259, o_309 P) :: (nat_lit 261, o_311 P) :: (nat_lit 262, o_312 P) :: (nat_lit 264, o_314 P) :: (nat_lit 265, o_315 P) :: (nat_lit 266, o_316 P) :: (nat_lit 268, o_318 P) :: (nat_lit 269, o_319 P) :: (nat_lit 271, o_321 P) :: (nat_lit 272, o_322 P) :: (nat_lit 273, o_323 P) :: (nat_lit 276, o_326 P) :: (nat_lit 277, o_327 P) :: (nat_lit 285, o_337 P) :: (nat_lit 286, o_338 P) :: (nat_lit 288, o_340 P) :: (nat_lit 289, o_341 P) :: (nat_lit 291, o_343 P) :: (nat_lit 292, o_344 P) :: (nat_lit 293, o_345 P) :: (nat_lit 295, o_347 P) :: (nat_lit 296, o_348 P) :: (nat_lit 298, o_350 P) :: (nat_lit 299, o_351 P) :: (nat_lit 300, o_352 P) :: (nat_lit 302, o_354 P) :: (nat_lit 303, o_355 P) :: (nat_lit 305, o_357 P) :: (nat_lit 306, o_358 P) :: (nat_lit 307, o_359 P) :: (nat_lit 308, o_360 P) :: (nat_lit 309, o_368 P) :: (nat_lit 310, o_362 P) :: (nat_lit 311, o_363 P) :: (nat_lit 314, o_369 P) :: (nat_lit 321, o_376 P) :: (nat_lit 323, o_378 P) :: (nat_lit 324, o_379 P) :: (nat_lit 326, o_381 P) :: (nat_lit 327, o_382 P) :: (nat_lit 328, o_383 P) :: (nat_lit 330, o_385 P) :: (nat_lit 331, o_386 P) :: (nat_lit 333, o_388 P) :: (nat_lit 334, o_389 P) :: (nat_lit 335, o_390 P) :: (nat_lit 337, o_392 P) :: (nat_lit 338, o_393 P) :: (nat_lit 340, o_395 P) :: (nat_lit 341, o_396 P) :: (nat_lit 342, o_397 P) :: (nat_lit 344, o_399 P) :: (nat_lit 345, o_400 P) :: (nat_lit 347, o_402 P) :: (nat_lit 348, o_403 P) :: (nat_lit 349, o_404 P) :: (nat_lit 351, o_406 P) :: (nat_lit 352, o_407 P) :: (nat_lit 354, o_409 P) :: (nat_lit 355, o_410 P) :: (nat_lit 356, o_411 P) :: (nat_lit 359, o_414 P) :: (nat_lit 360, o_415 P) :: (nat_lit 361, o_416 P) :: (nat_lit 362, o_417 P) :: (nat_lit 363, o_418 P) :: (nat_lit 366, o_423 P) :: (nat_lit 368, o_425 P) :: (nat_lit 369, o_426 P) :: (nat_lit 371, o_428 P) :: (nat_lit 372, o_429 P) :: (nat_lit 373, o_430 P) :: (nat_lit 375, o_432 P) :: (nat_lit 376, o_433 P) :: (nat_lit 378, o_435 P) :: (nat_lit 379, o_436 P) :: (nat_lit 380, o_437 P) :: (nat_lit 382, o_439 P) :: (nat_lit 383, o_440 P) :: (nat_lit 385, o_442 P) :: (nat_lit 386, o_443 P) :: (nat_lit 387, o_444 P) :: (nat_lit 389, o_446 P) :: (nat_lit 390, o_447 P) :: (nat_lit 392, o_449 P) :: (nat_lit 393, o_450 P) :: (nat_lit 394, o_451 P) :: (nat_lit 396, o_453 P) :: (nat_lit 397, o_454 P) :: (nat_lit 399, o_456 P) :: (nat_lit 400, o_457 P) :: (nat_lit 401, o_458 P) :: (nat_lit 403, o_460 P) :: (nat_lit 404, o_461 P) :: (nat_lit 406, o_463 P) :: (nat_lit 407, o_464 P) :: (nat_lit 408, o_465 P) :: (nat_lit 411, o_468 P) :: (nat_lit 412, o_469 P) :: (nat_lit 420, o_479 P) :: (nat_lit 422, o_481 P) :: (nat_lit 423, o_482 P) :: (nat_lit 425, o_484 P) :: (nat_lit 426, o_485 P) :: (nat_lit 427, o_486 P) :: (nat_lit 428, o_487 P) :: (nat_lit 429, o_488 P) :: (nat_lit 430, o_489 P) :: (nat_lit 431, o_490 P) :: (nat_lit 434, o_493 P) :: (nat_lit 437, o_496 P) :: (nat_lit 438, o_497 P) :: (nat_lit 439, o_498 P) :: (nat_lit 440, o_499 P) :: (nat_lit 443, o_502 P) :: (nat_lit 444, o_503 P) :: (nat_lit 445, o_504 P) :: (nat_lit 448, o_507 P) :: (nat_lit 449, o_508 P) :: (nat_lit 450, o_509 P) :: (nat_lit 451, o_510 P) :: (nat_lit 453, o_512 P) :: (nat_lit 454, o_513 P) :: (nat_lit 456, o_515 P) :: (nat_lit 457, o_516 P) :: (nat_lit 458, o_517 P) :: (nat_lit 460, o_519 P) :: (nat_lit 461, o_520 P) :: (nat_lit 463, o_522 P) :: (nat_lit 464, o_523 P) :: (nat_lit 465, o_526 P) :: (nat_lit 468, o_529 P) :: (nat_lit 469, o_530 P) :: (nat_lit 470, o_531 P) :: (nat_lit 472, o_533 P) :: (nat_lit 473, o_534 P) :: (nat_lit 475, o_536 P) :: (nat_lit 476, o_537 P) :: (nat_lit 477, o_538 P) :: (nat_lit 480, o_541 P) :: (nat_lit 481, o_542 P) :: (nat_lit 482, o_543 P) :: (nat_lit 484, o_545 P) :: (nat_lit 485, o_546 P) :: (nat_lit 487, o_548 P) :: (nat_lit 488, o_549 P) :: (nat_lit 489, o_550 P) :: (nat_lit 492, o_553 P) :: (nat_lit 493, o_554 P) :: (nat_lit 494, o_555 P) :: (nat_lit 497, o_558 P) :: (nat_lit 498, o_559 P) :: (nat_lit 499, o_560 P) :: (nat_lit 501, o_562 P) :: (nat_lit 502, o_563 P) :: (nat_lit 504, o_565 P) :: (nat_lit 505, o_566 P) :: (nat_lit 506, o_567 P) :: (nat_lit 509, o_570 P) :: (nat_lit 510, o_571 P) :: (nat_lit 511, o_572 P) :: (nat_lit 513, o_574 P) :: (nat_lit 514, o_575 P) :: (nat_lit 516, o_577 P) :: (nat_lit 517, o_578 P) :: (nat_lit 518, o_579 P) :: (nat_lit 521, o_582 P) :: (nat_lit 522, o_583 P) :: (nat_lit 523, o_584 P) :: (nat_lit 525, o_586 P) :: (nat_lit 526, o_587 P) :: (nat_lit 528, o_589 P) :: (nat_lit 529, o_590 P) :: (nat_lit 530, o_591 P) :: (nat_lit 533, o_594 P) :: (nat_lit 534, o_595 P) :: (nat_lit 535, o_596 P) :: (nat_lit 537, o_598 P) :: (nat_lit 538, o_599 P) :: (nat_lit 540, o_601 P) :: (nat_lit 541, o_602 P) :: (nat_lit 542, o_605 P) :: (nat_lit 544, o_607 P) :: (nat_lit 545, o_608 P) :: (nat_lit 547, o_610 P) :: (nat_lit 548, o_611 P) :: (nat_lit 549, o_612 P) :: (nat_lit 552, o_615 P) :: (nat_lit 553, o_616 P) :: []
def as : List Addr := [2, 3, 15, 17, 18, 20, 21, 22, 29, 30, 32, 33, 35, 36, 37, 39, 40, 42, 43, 44, 45, 46, 47, 50, 57, 58, 59, 69, 71, 72, 74, 75, 76, 78, 79, 81, 82, 83, 85, 86, 88, 89, 90, 92, 93, 95, 96, 97, 99, 100, 102, 103, 104, 106, 107, 109, 110, 111, 113, 114, 116, 117, 118, 120, 121, 123, 124, 125, 127, 128, 130, 131, 132, 134, 135, 137, 138, 139, 141, 142, 144, 145, 146, 148, 149, 151, 152, 153, 154, 155, 156, 157, 160, 162, 163, 165, 166, 174, 176, 177, 179, 180, 181, 182, 183, 184, 185, 195, 196, 198, 199, 201, 202, 203, 204, 205, 206, 207, 217, 219, 220, 222, 223, 224, 225, 226, 227, 228, 238, 240, 241, 243, 244, 245, 247, 248, 250, 251, 252, 253, 254, 255, 256, 259, 261, 262, 264, 265, 266, 268, 269, 271, 272, 273, 276, 277, 285, 286, 288, 289, 291, 292, 293, 295, 296, 298, 299, 300, 302, 303, 305, 306, 307, 308, 309, 310, 311, 314, 321, 323, 324, 326, 327, 328, 330, 331, 333, 334, 335, 337, 338, 340, 341, 342, 344, 345, 347, 348, 349, 351, 352, 354, 355, 356, 359, 360, 361, 362, 363, 366, 368, 369, 371, 372, 373, 375, 376, 378, 379, 380, 382, 383, 385, 386, 387, 389, 390, 392, 393, 394, 396, 397, 399, 400, 401, 403, 404, 406, 407, 408, 411, 412, 420, 422, 423, 425, 426, 427, 428, 429, 430, 431, 434, 437, 438, 439, 440, 443, 444, 445, 448, 449, 450, 451, 453, 454, 456, 457, 458, 460, 461, 463, 464, 465, 468, 469, 470, 472, 473, 475, 476, 477, 480, 481, 482, 484, 485, 487, 488, 489, 492, 493, 494, 497, 498, 499, 501, 502, 504, 505, 506, 509, 510, 511, 513, 514, 516, 517, 518, 521, 522, 523, 525, 526, 528, 529, 530, 533, 534, 535, 537, 538, 540, 541, 542, 544, 545, 547, 548, 549, 552, 553]
noncomputable def sts_49 : List Stmt := (pB.drop 0).take 3
noncomputable def sts_87 : List Stmt := (pB.drop 3).take 2
noncomputable def sts_102 : List Stmt := (pB.drop 5).take 1
noncomputable def sts_202 : List Stmt := (pB.drop 6).take 4
noncomputable def sts_232 : List Stmt := (pB.drop 10).take 1
noncomputable def sts_256 : List Stmt := (pB.drop 11).take 1
noncomputable def sts_279 : List Stmt := (pB.drop 12).take 5
noncomputable def sts_328 : List Stmt := (pB.drop 17).take 1
noncomputable def sts_366 : List Stmt := (pB.drop 18).take 1
noncomputable def sts_421 : List Stmt := (pB.drop 19).take 8
noncomputable def sts_470 : List Stmt := (pB.drop 27).take 6
noncomputable def sts_524 : List Stmt := (pB.drop 33).take 14
noncomputable def sts_603 : List Stmt := (pB.drop 47).take 2
noncomputable def view_39 : Program := { PG with main := { PG.main with body := keepS 0 [0, 2, 3, 5, 6, 8, 9, 10, 11, 12, 13, 14, 15, 16, 17, 18, 20, 21, 22, 23, 24, 25, 26, 27, 28, 30, 32, 33, 34, 35, 37, 38, 39, 40, 41, 42, 43, 44, 45, 46, 47, 48] pB } }
noncomputable def env_41 : Env := { scope := PG.main.scope, locals := mainNs, globals := mainNs, cells := [], code := .ref 13, frame := some 14 }
noncomputable def cE : Code := .body (behindTheImports PG) env_41
abbrev p0 : Pos := ⟨0, 0, 0, 0⟩
abbrev BF : List Frame := [topFrame p0]
abbrev AN : Option Value := some (.ref 6)
abbrev sT (t : Params → BT) (n k : Nat) (w : World) (os : OsState) : SharedT := ⟨t w.params, n, {}, ⟨[]⟩, {}, k, os⟩
abbrev sH (t : Params → Heap) (k : Nat) (w : World) (os : OsState) : Shared := ⟨t w.params, ⟨[]⟩, {}, k, os⟩
theorem seg_tw {p : Program} {w : World} {m : Nat} {a : Option Value} {n : Nat} {s s' : SharedT} {th : Thread} {f : Flow} {c : Code} {q : Pos} (h : Fast.tw10110043849684766642 Fast.tw14364793385576792824 p w m a 1 n s th = some (f, s', c, q)) : segRun treeTable p w m a 1 n s.abs th = some (f, s'.abs, c, q) :=
  segRun_of (by rw [Fast.te10110043849684766642, Fast.te14364793385576792824]; exact h)
theorem pre (w : World) (os : OsState) : topGo treeTable PG w 11 AN 12 ⟨boot_heap w.params, ⟨[]⟩, boot_drawn, boot_toks, os⟩ (topStub PG) = some (sH heap_46 187 w os, ⟨denote treeTable cE, cE, p0, BF⟩) := by kernel_rfl
theorem blk (w : World) (os : OsState) : segRun treeTable PG w 11 AN 1 1 (sH heap_46 187 w os) (blockOf (behindTheImports PG) env_41 cE p0 BF) = some (.next, (sT tree_47 15 187 w os).abs, cE, p0) := by kernel_rfl
theorem pc1 (w : World) (os : OsState) : segRun treeTable PG w 11 AN 1 307 (sT tree_47 15 187 w os).abs (piecesOf sts_49 env_41 cE ⟨0, 0, 0, 0⟩ BF) = some (.next, (sT tree_86 50 236 w os).abs, cE, ⟨5, 0, 13, 35⟩) := seg_tw (by kernel_rfl)
theorem pc2 (w : World) (os : OsState) : segRun treeTable PG w 11 AN 1 223 (sT tree_86 50 236 w os).abs (piecesOf sts_87 env_41 cE ⟨5, 0, 13, 35⟩ BF) = some (.next, (sT tree_101 62 254 w os).abs, cE, ⟨16, 0, 16, 8⟩) := seg_tw (by kernel_rfl)
theorem pc3 (w : World) (os : OsState) : segRun treeTable PG w 11 AN 1 572 (sT tree_101 62 254 w os).abs (piecesOf sts_102 env_41 cE ⟨16, 0, 16, 8⟩ BF) = some (.next, (sT tree_201 160 368 w os).abs, cE, ⟨17, 0, 61, 16⟩) := seg_tw (by kernel_rfl)
theorem pc4 (w : World) (os : OsState) : segRun treeTable PG w 11 AN 1 270 (sT tree_201 160 368 w os).abs (piecesOf sts_202 env_41 cE ⟨17, 0, 61, 16⟩ BF) = some (.next, (sT tree_231 188 408 w os).abs, cE, ⟨66, 0, 69, 24⟩) := seg_tw (by kernel_rfl)
theorem pc5 (w : World) (os : OsState) : segRun treeTable PG w 11 AN 1 226 (sT tree_231 188 408 w os).abs (piecesOf sts_232 env_41 cE ⟨66, 0, 69, 24⟩ BF) = some (.next, (sT tree_255 210 439 w os).abs, cE, ⟨70, 0, 74, 28⟩) := seg_tw (by kernel_rfl)
theorem pc6 (w : World) (os : OsState) : segRun treeTable PG w 11 AN 1 225 (sT tree_255 210 439 w os).abs (piecesOf sts_256 env_41 cE ⟨70, 0, 74, 28⟩ BF) = some (.next, (sT tree_278 231 470 w os).abs, cE, ⟨75, 0, 79, 28⟩) := seg_tw (by kernel_rfl)
theorem pc7 (w : World) (os : OsState) : segRun treeTable PG w 11 AN 1 351 (sT tree_278 231 470 w os).abs (piecesOf sts_279 env_41 cE ⟨75, 0, 79, 28⟩ BF) = some (.next, (sT tree_327 278 530 w os).abs, cE, ⟨133, 0, 133, 12⟩) := seg_tw (by kernel_rfl)
theorem pc8 (w : World) (os : OsState) : segRun treeTable PG w 11 AN 1 295 (sT tree_327 278 530 w os).abs (piecesOf sts_328 env_41 cE ⟨133, 0, 133, 12⟩ BF) = some (.next, (sT tree_365 314 582 w os).abs, cE, ⟨134, 0, 152, 40⟩) := seg_tw (by kernel_rfl)
theorem pc9 (w : World) (os : OsState) : segRun treeTable PG w 11 AN 1 402 (sT tree_365 314 582 w os).abs (piecesOf sts_366 env_41 cE ⟨134, 0, 152, 40⟩ BF) = some (.next, (sT tree_420 366 645 w os).abs, cE, ⟨153, 0, 173, 49⟩) := seg_tw (by kernel_rfl)
theorem pc10 (w : World) (os : OsState) : segRun treeTable PG w 11 AN 1 223 (sT tree_420 366 645 w os).abs (piecesOf sts_421 env_41 cE ⟨153, 0, 173, 49⟩ BF) = some (.next, (sT tree_469 413 708 w os).abs, cE, ⟨195, 0, 201, 45⟩) := seg_tw (by kernel_rfl)
theorem pc11 (w : World) (os : OsState) : segRun treeTable PG w 11 AN 1 391 (sT tree_469 413 708 w os).abs (piecesOf sts_470 env_41 cE ⟨195, 0, 201, 45⟩ BF) = some (.next, (sT tree_523 465 795 w os).abs, cE, ⟨243, 0, 256, 16⟩) := seg_tw (by kernel_rfl)
theorem pc12 (w : World) (os : OsState) : segRun treeTable PG w 11 AN 1 382 (sT tree_523 465 795 w os).abs (piecesOf sts_524 env_41 cE ⟨243, 0, 256, 16⟩ BF) = some (.next, (sT tree_602 542 897 w os).abs, cE, ⟨349, 0, 353, 19⟩) := seg_tw (by kernel_rfl)
theorem pc13 (w : World) (os : OsState) : segRun treeTable PG w 11 AN 1 57 (sT tree_602 542 897 w os).abs (piecesOf sts_603 env_41 cE ⟨349, 0, 353, 19⟩ BF) = some (.next, (sT tree_616 554 911 w os).abs, cE, ⟨360, 0, 400, 99⟩) := seg_tw (by kernel_rfl)
theorem fin (w : World) (os : OsState) : topRun treeTable PG w 11 AN 2 (sT tree_616 554 911 w os).abs ⟨doneF .next, cE, ⟨360, 0, 400, 99⟩, BF⟩ = some (sH heap_617 911 w os) := by kernel_rfl
theorem body_is : behindTheImports PG = sts_49 ++ (sts_87 ++ (sts_102 ++ (sts_202 ++ (sts_232 ++ (sts_256 ++ (sts_279 ++ (sts_328 ++ (sts_366 ++ (sts_421 ++ (sts_470 ++ (sts_524 ++ (sts_603 ++ ([]))))))))))))) := by kernel_rfl
theorem run (w : World) (os : OsState) : topRun treeTable PG w 11 AN (12 + (1 + (307 + (223 + (572 + (270 + (226 + (225 + (351 + (295 + (402 + (223 + (391 + (382 + (57 + 2))))))))))))))) ⟨boot_heap w.params, ⟨[]⟩, boot_drawn, boot_toks, os⟩ (topStub PG) = some (sH heap_617 911 w os) := by
  refine go_top (pre w os) (piece_block (blk w os) ?_)
  rw [body_is]
  exact piece_app (pc1 w os) (piece_app (pc2 w os) (piece_app (pc3 w os) (piece_app (pc4 w os) (piece_app (pc5 w os) (piece_app (pc6 w os) (piece_app (pc7 w os) (piece_app (pc8 w os) (piece_app (pc9 w os) (piece_app (pc10 w os) (piece_app (pc11 w os) (piece_app (pc12 w os) (piece_app (pc13 w os) (fin w os)))))))))))))
theorem size (w : World) : ((boot_heap w.params).isNs mainGlobals && (⟨[]⟩ : Array GenState).size == 0, (boot_heap w.params).objs.size, (boot_heap w.params).nsMap mainGlobals "__annotations__") = (true, 11, AN) := by kernel_rfl
abbrev loose : List Str := ["PaperError", "told_objects", "configuration", "starting_states"]
noncomputable abbrev HK : Hook := kmHook heap_39 as (fun _ => by kernel_rfl) [483]
noncomputable abbrev Xt : Shared → Bool := fun s => xlAt view_39 [] s && recOk (RowW.records PySem.Challenge.rw_pb0482_01.row.toRowW) s
theorem looks1 (w : World) (os : OsState) : (staticsOk (importedModules PG.main.body) (boot_heap w.params) (heap_617 w.params) && namesBound PG (heap_617 w.params) && gensDone (sH heap_617 911 w os) && laidKept (boot_heap w.params) (heap_617 w.params)) = true := by kernel_rfl
theorem looks2 (w : World) (os : OsState) : openSeen view_39 loose (importedModules PG.main.body) Xt true (sH heap_617 911 w os) = openGood view_39 loose := by kernel_rfl
theorem looks3 (w : World) (os : OsState) : HK.obs (sH heap_617 911 w os) = HK.val w := by kernel_rfl
theorem left : LeftO PG view_39 loose Xt HK.obs HK.val 7948 true :=
  LeftO.of_pieces (boot_open (by kernel_rfl) (by decide) (fun s => by kernel_rfl)) size run (by decide) fun w => funext fun os => looks_pair (looks1 w os) (looks_pair (looks2 w os) (looks3 w os))
theorem said2 : namesResolve PG = true := by kernel_rfl
theorem said4 : noRoadLSs { strict := !(importedModules PG.main.body).all cThrough.contains, foot := none, bare := (["vars", "dir", "locals"] : List Str).filter (readsOut PG PG.main.body) } PG.main.body = true := by kernel_rfl
theorem said5 : (namesMeet PG PG.main.body fun _ n => attrL n) = true := by kernel_rfl
theorem said : PySem.Challenge.rw_pb0482_01.wellSaid = true := by
  unfold OpenLaw.wellSaid OpenRow.wellSaid OpenRow.partSaid looksOpen
  repeat' (with_reducible refine look_both ?_ ?_)
  all_goals (first | with_reducible exact said2 | with_reducible exact said4 | with_reducible exact said5 | kernel_rfl)
noncomputable def lawD : DefRec := by
  refine (fun (_ : (?a, ?b, ?s) = fdOf (nthS 48 pB)) => ⟨"law", ?a, ?b, ?s, ⟨360, 0, 400, 99⟩⟩) ?h
  case h => conv => rhs; whnf
end hd
theorem hd {D : DefRec} (e : D = hd.lawD) (walk : WalkO hd.view_39 hd.loose (XL hd.view_39 []) (kmHook hd.heap_39 hd.as (fun _ => by kernel_rfl) [483]).says PySem.Challenge.rw_pb0482_01.row.toRowW D [] fun f vs => PySem.call f vs) : PySem.Challenge.rw_pb0482_01.Holds := by
  subst e
  refine holds_law hd.said fun said => ?_
  refine holds_open (q := hd.view_39) (loose := hd.loose) (Xt := hd.Xt) (XP := XL hd.view_39 []) (Yf := hd.HK.obs) (Ya := hd.HK.val) (YP := hd.HK.says) (N := 7948) hd.left (Hook.of hd.HK) (Hook.keeps hd.HK) (fun s e => xl_of s (Bool.and_eq_true_iff.mp e).1) XL.keeps (by rfl) (by rfl) (by rfl) (fun s e => recFacts_of (Bool.and_eq_true_iff.mp e).2) (by rfl) said (by decide +kernel) ⟨rfl, rfl, rfl, rfl, rfl, by decide +kernel⟩ ?hw walk
  case hw => w_witness2
end Mine

theorem Mine.fill_all {w : World} {b : Heap} : (Mine.hd.heap_39 w.params).In b → PySem.Challenge.rw_pb0482_01.most = some 63 := by
  k_fill
  intro _; rfl
namespace Mine

/-- the ground: the text's own objects, written out, stand in b -/
structure Bs (w : World) (b : Heap) : Prop where
  K : (hd.heap_39 w.params).In b
  T : ∃ mg mb, b.Ns mainGlobals mg ∧ b.Ns builtinsNs mb ∧ ∀ x : Str, x ≠ "__name__" → mb x = bootBuiltins x
  nolimit : b.NoLimit

/-- a frame: its locals' address, its own cells, what it may not change -/
structure Fm where
  L : Addr
  cl : List (Str × Addr)
  e : Heap

abbrev Led := List (Addr × (Obj → Prop))
structure St (w : World) (b : Heap) (f : Fm) (g : Heap) (m cm : Str → Option Value) (gl led : Led) (h : Heap) : Prop where
  bs : Bs w b
  ns : h.Ns f.L m
  kb : ∀ a o, b.get? a = some o → h.get? a = some o
  bL : b.objs.size ≤ f.L
  ke : ∀ a o, f.e.get? a = some o → h.get? a = some o
  kg : ∀ a o, g.get? a = some o → h.get? a = some o
  nL : f.e.get? f.L = none ∧ g.get? f.L = none
  cell : ∀ p ∈ f.cl, h.IsCell p.2 (cm p.1)
  cfr : ∀ p ∈ f.cl, p.2 ≠ f.L ∧ b.get? p.2 = none ∧ f.e.get? p.2 = none ∧ g.get? p.2 = none ∧ ∀ q ∈ gl ++ led, q.1 ≠ p.2
  cap : f.cl.Pairwise fun x y => x.2 ≠ y.2
  at_ : ∀ p ∈ gl ++ led, (∃ o, h.get? p.1 = some o ∧ p.2 o) ∧ p.1 ≠ f.L ∧ b.get? p.1 = none ∧ f.e.get? p.1 = none ∧ g.get? p.1 = none
  nd : ((gl ++ led).map (·.1)).Nodup

/-- g grows to g' by what is new to e -/
def Gle (e g g' : Heap) : Prop := (∀ a o, g.get? a = some o → g'.get? a = some o) ∧ ∀ a o, g'.get? a = some o → g.get? a = some o ∨ e.get? a = none
theorem Gle.refl (e g : Heap) : Gle e g g := ⟨fun _ _ x => x, fun _ _ x => .inl x⟩
theorem Gle.trans {e g g' g'' : Heap} (x : Gle e g g') (y : Gle e g' g'') : Gle e g g'' :=
  ⟨fun a o q => y.1 _ _ (x.1 _ _ q), fun a o q => (y.2 a o q).elim (fun z => x.2 a o z) .inr⟩

inductive At (d : Addr) (o o' : Obj → Prop) : Led → Led → Prop
  | here {r} : At d o o' ((d, o) :: r) ((d, o') :: r)
  | there {p r r'} : At d o o' r r' → At d o o' (p :: r) (p :: r')

section
variable {w : World} {b : Heap} {f : Fm} {g : Heap} {m cm : Str → Option Value} {gl gl' led led' : Led} {h h' : Heap} {d a : Addr} {o o' : Obj → Prop}

theorem none_of_le {x y : Heap} (k : ∀ a o, x.get? a = some o → y.get? a = some o) {a : Addr} (e : y.get? a = none) : x.get? a = none := by
  cases q : x.get? a with
  | none => rfl
  | some o => rw [k _ _ q] at e; cases e

theorem lookup_mem {α β : Type} [BEq α] [LawfulBEq α] {a : α} {c : β} : ∀ {l : List (α × β)}, l.lookup a = some c → (a, c) ∈ l
  | [], h => by cases h
  | (x, y) :: r, h => by
    rw [List.lookup_cons] at h
    split at h
    · rename_i q; cases h; rw [eq_of_beq q]; exact .head _
    · exact .tail _ (lookup_mem h)

theorem At.mem : ∀ {l l' : Led}, At d o o' l l' → (d, o) ∈ l
  | _, _, .here => .head _
  | _, _, .there u => .tail _ u.mem
theorem At.mem' : ∀ {l l' : Led}, At d o o' l l' → (d, o') ∈ l'
  | _, _, .here => .head _
  | _, _, .there u => .tail _ u.mem'
theorem At.map : ∀ {l l' : Led}, At d o o' l l' → l'.map (·.1) = l.map (·.1)
  | _, _, .here => rfl
  | _, _, .there u => by simp only [List.map_cons, u.map]
theorem At.old : ∀ {l l' : Led}, At d o o' l l' → (l.map (·.1)).Nodup → ∀ p ∈ l', p = (d, o') ∨ (p ∈ l ∧ p.1 ≠ d)
  | _, _, .here, n, p, hp => by
    rcases List.mem_cons.mp hp with rfl | hp
    · exact .inl rfl
    · refine .inr ⟨.tail _ hp, fun z => ?_⟩
      rw [List.map_cons] at n
      have := (List.nodup_cons.mp n).1
      have z2 : p.1 ∈ _ := List.mem_map_of_mem (f := (·.1)) hp
      rw [z] at z2; exact this z2
  | _, _, .there (p := q) u, n, p, hp => by
    rw [List.map_cons] at n
    have n' := List.nodup_cons.mp n
    rcases List.mem_cons.mp hp with rfl | hp
    · exact .inr ⟨.head _, fun z => n'.1 (by rw [z]; exact List.mem_map_of_mem (f := (·.1)) u.mem)⟩
    · rcases u.old n'.2 p hp with x | x
      · exact .inl x
      · exact .inr ⟨.tail _ x.1, x.2⟩
theorem At.app {l l' : Led} (u : At d o o' l l') : ∀ (pre : Led), At d o o' (pre ++ l) (pre ++ l')
  | [] => u
  | _ :: r => .there (u.app r)
theorem At.appR {l l' : Led} (u : At d o o' l l') (post : Led) : At d o o' (l ++ post) (l' ++ post) := by
  induction u with
  | here => exact .here
  | there _ ih => exact .there ih

theorem St.fr (S : St w b f g m cm gl led h) : Fr b f.L h m := ⟨S.ns, S.kb, S.bL⟩
theorem St.K (S : St w b f g m cm gl led h) : (hd.heap_39 w.params).In h := S.bs.K.keeps S.kb
theorem St.mem (S : St w b f g m cm gl led h) (hm : (a, o) ∈ led) : ∃ x, h.get? a = some x ∧ o x := (S.at_ (a, o) (List.mem_append_right _ hm)).1
theorem St.memG (S : St w b f g m cm gl led h) (hm : (a, o) ∈ gl) : ∃ x, h.get? a = some x ∧ o x := (S.at_ (a, o) (List.mem_append_left _ hm)).1
theorem St.nolimit (S : St w b f g m cm gl led h) : h.NoLimit := S.bs.nolimit.keeps S.kb

/-- nothing that stood has changed -/
theorem St.keeps (S : St w b f g m cm gl led h) (k : ∀ a o, h.get? a = some o → h'.get? a = some o) : St w b f g m cm gl led h' :=
  { S with
    ns := S.ns.keeps k
    kb := fun a o e => k _ _ (S.kb a o e)
    ke := fun a o e => k _ _ (S.ke a o e)
    kg := fun a o e => k _ _ (S.kg a o e)
    cell := fun p hp => (S.cell p hp).keeps k
    at_ := fun p hp => let ⟨⟨z, z1, z2⟩, x⟩ := S.at_ p hp; ⟨⟨z, k _ _ z1, z2⟩, x⟩ }

/-- the locals change -/
theorem St.locals {m' : Str → Option Value} (S : St w b f g m cm gl led h) (hn : h'.Ns f.L m') (hs : Heap.SameBut f.L h h') : St w b f g m' cm gl led h' :=
  have bn : b.get? f.L = none := Heap.get?_none_of_le S.bL
  have k : ∀ {x : Heap}, (∀ a o, x.get? a = some o → h.get? a = some o) → x.get? f.L = none → ∀ a o, x.get? a = some o → h'.get? a = some o :=
    fun kx nx a o e => (hs.2 a (fun q => by rw [q, nx] at e; cases e)).trans (kx a o e)
  { S with
    ns := hn
    kb := k S.kb bn
    ke := k S.ke S.nL.1
    kg := k S.kg S.nL.2
    cell := fun p hp => (S.cell p hp).sameBut hs (S.cfr p hp).1
    at_ := fun p hp => let ⟨⟨z, z1, z2⟩, x⟩ := S.at_ p hp; ⟨⟨z, (hs.2 _ x.1).trans z1, z2⟩, x⟩ }

theorem mem_ins {α : Type} {x y : α} {a b : List α} : x ∈ a ++ y :: b ↔ x = y ∨ x ∈ a ++ b := by
  simp only [List.mem_append, List.mem_cons]
  constructor
  · rintro (h | h | h)
    · exact .inr (.inl h)
    · exact .inl h
    · exact .inr (.inr h)
  · rintro (h | h | h)
    · exact .inr (.inl h)
    · exact .inl h
    · exact .inr (.inr h)

theorem nodup_ins {α : Type} {y : α} {a b : List α} : (a ++ y :: b).Nodup ↔ y ∉ a ++ b ∧ (a ++ b).Nodup :=
  ⟨fun h => List.nodup_cons.mp ((List.perm_middle (l₁ := a) (l₂ := b) (a := y)).nodup_iff.mp h), fun h => (List.perm_middle (l₁ := a) (l₂ := b) (a := y)).nodup_iff.mpr (List.nodup_cons.mpr h)⟩

/-- a new object -/
theorem St.add (S : St w b f g m cm gl led h) (k : ∀ c o, h.get? c = some o → h'.get? c = some o) (hn : h.get? a = none) (ho : ∃ x, h'.get? a = some x ∧ o x) : St w b f g m cm gl ((a, o) :: led) h' := by
  have S' := S.keeps k
  have bn : b.get? a = none := none_of_le S.kb hn
  have en := none_of_le S.ke hn
  have gn := none_of_le S.kg hn
  obtain ⟨oL, _, _, hL, _⟩ := S.ns
  have nL : a ≠ f.L := fun q => by rw [q, hL] at hn; cases hn
  refine { S' with cfr := fun p hp => ?_, at_ := fun p hp => ?_, nd := ?_ }
  · have x := S.cfr p hp
    refine ⟨x.1, x.2.1, x.2.2.1, x.2.2.2.1, fun q hq => ?_⟩
    rcases mem_ins.mp hq with rfl | hq
    · intro z
      obtain ⟨oc, hc, _⟩ := S.cell p hp
      have z' : a = p.2 := z
      rw [← z', hn] at hc; cases hc
    · exact x.2.2.2.2 q hq
  · rcases mem_ins.mp hp with rfl | hp
    · exact ⟨ho, nL, bn, en, gn⟩
    · exact S'.at_ p hp
  · rw [List.map_append, List.map_cons, nodup_ins, ← List.map_append]
    refine ⟨fun hm => ?_, S.nd⟩
    obtain ⟨q, hq, z⟩ := List.mem_map.mp hm
    have z' : q.1 = a := z
    obtain ⟨y, this, _⟩ := (S.at_ q hq).1
    rw [z', hn] at this; cases this

theorem St.push (S : St w b f g m cm gl led h) (x : Obj) (P : Obj → Prop) (hp : P x) (hf : x.isFreed = false := by rfl) : St w b f g m cm gl ((h.objs.size, P) :: led) (h.push x) :=
  S.add (fun _ _ e => Heap.get?_push_of_some _ e) (Heap.get?_none_of_le (Nat.le_refl _)) ⟨x, Heap.get?_push_size _ hf, hp⟩

theorem fresh_at (h : Heap) : h.get? h.objs.size = none := Heap.get?_none_of_le (Nat.le_refl _)

theorem St.updAll {all all' : Led} (S : St w b f g m cm gl led h) (e : gl ++ led = all) (u : At d o o' all all') (e' : gl' ++ led' = all') (k : ∀ a o, a ≠ d → h.get? a = some o → h'.get? a = some o) (ho : ∃ x, h'.get? d = some x ∧ o' x) :
    St w b f g m cm gl' led' h' := by
  subst e e'
  have D := S.at_ _ u.mem
  have nd : ∀ {x : Heap}, (∀ a o, x.get? a = some o → h.get? a = some o) → x.get? d = none → ∀ a o, x.get? a = some o → h'.get? a = some o :=
    fun kx nx a o q => k a o (fun z => by rw [z, nx] at q; cases q) (kx a o q)
  obtain ⟨oL, es, ep, hL, r⟩ := S.ns
  have mp : ∀ q ∈ gl' ++ led', q.1 ∈ (gl ++ led).map (·.1) := fun q hq => by rw [← u.map]; exact List.mem_map_of_mem hq
  refine { S with ns := ⟨oL, es, ep, k _ _ (Ne.symm D.2.1) hL, r⟩, kb := nd S.kb D.2.2.1, ke := nd S.ke D.2.2.2.1, kg := nd S.kg D.2.2.2.2, cell := fun p hp => ?_, cfr := fun p hp => ?_, at_ := fun p hp => ?_, nd := ?_ }
  · obtain ⟨oc, hc, hd⟩ := S.cell p hp
    exact ⟨oc, k _ _ (fun z => (S.cfr p hp).2.2.2.2 _ u.mem z.symm) hc, hd⟩
  · have x := S.cfr p hp
    refine ⟨x.1, x.2.1, x.2.2.1, x.2.2.2.1, fun q hq => ?_⟩
    obtain ⟨q', hq', z⟩ := List.mem_map.mp (mp q hq)
    rw [← z]; exact x.2.2.2.2 q' hq'
  · rcases u.old S.nd p hp with rfl | ⟨hp, z⟩
    · exact ⟨ho, D.2⟩
    · obtain ⟨⟨y, y1, y2⟩, x⟩ := S.at_ p hp; exact ⟨⟨y, k _ _ z y1, y2⟩, x⟩
  · rw [u.map]; exact S.nd

theorem St.upd (S : St w b f g m cm gl led h) (u : At d o o' led led') (k : ∀ a o, a ≠ d → h.get? a = some o → h'.get? a = some o) (ho : ∃ x, h'.get? d = some x ∧ o' x) : St w b f g m cm gl led' h' :=
  S.updAll rfl (u.app gl) rfl k ho
theorem St.updG (S : St w b f g m cm gl led h) (u : At d o o' gl gl') (k : ∀ a o, a ≠ d → h.get? a = some o → h'.get? a = some o) (ho : ∃ x, h'.get? d = some x ∧ o' x) : St w b f g m cm gl' led h' :=
  S.updAll rfl (u.appR led) rfl k ho

/-- the ledger may forget -/
theorem St.sub (S : St w b f g m cm gl led h) (s : led'.Sublist led) : St w b f g m cm gl led' h :=
  have s' : (gl ++ led').Sublist (gl ++ led) := List.Sublist.append (List.Sublist.refl _) s
  { S with
    cfr := fun p hp => let x := S.cfr p hp; ⟨x.1, x.2.1, x.2.2.1, x.2.2.2.1, fun q hq => x.2.2.2.2 q (s'.subset hq)⟩
    at_ := fun p hp => S.at_ p (s'.subset hp)
    nd := (s'.map _).nodup S.nd }
theorem St.forget (S : St w b f g m cm gl led h) : St w b f g m cm gl [] h := S.sub (List.nil_sublist _)

/-- the ledger in another order -/
theorem St.perm (S : St w b f g m cm gl led h) (s : (gl ++ led).Perm (gl' ++ led')) : St w b f g m cm gl' led' h :=
  { S with
    cfr := fun p hp => let x := S.cfr p hp; ⟨x.1, x.2.1, x.2.2.1, x.2.2.2.1, fun q hq => x.2.2.2.2 q (s.mem_iff.mpr hq)⟩
    at_ := fun p hp => S.at_ p (s.mem_iff.mpr hp)
    nd := (s.map _).nodup_iff.mp S.nd }

def onlyObj (p : Bool) (o : Obj) : Obj := if p then o else { cls := .none, data := .freed }
def only (h : Heap) (p : Addr → Bool) : Heap := ⟨h.objs.mapIdx fun i o => onlyObj (p i) o, h.life⟩
theorem get?_only {h : Heap} {p : Addr → Bool} {a : Addr} : (only h p).get? a = if p a then h.get? a else none := by
  unfold only Heap.get?
  simp only [Array.getElem?_mapIdx]
  cases h.objs[a]? with
  | none => cases p a <;> rfl
  | some o =>
    obtain ⟨c, d, dt, sl⟩ := o
    simp only [Option.map_some, onlyObj]
    cases p a <;> cases dt <;> rfl

/-- a part of the ledger is frozen: it will not change again -/
theorem St.freeze {new : Led} (S : St w b f g m cm gl (new ++ led) h) : ∃ g', Gle f.e g g' ∧ (∀ p ∈ new, ∃ x, g'.get? p.1 = some x ∧ p.2 x) ∧ St w b f g' m cm gl led h := by
  have S' : St w b f g m cm gl led h := S.sub (List.sublist_append_right _ _)
  let p : Addr → Bool := fun a => (g.get? a).isSome || new.any fun q => q.1 == a
  have hin : ∀ q ∈ new, q ∈ gl ++ (new ++ led) := fun q hq => List.mem_append_right _ (List.mem_append_left _ hq)
  have up : ∀ a o, (only h p).get? a = some o → h.get? a = some o := fun a o e => by
    rw [get?_only] at e; split at e
    · exact e
    · cases e
  have dis : ∀ q ∈ new, ∀ r ∈ gl ++ led, q.1 ≠ r.1 := fun q hq r hr => by
    have n := S.nd
    have pm : (gl ++ (new ++ led)).Perm (new ++ (gl ++ led)) := by
      rw [← List.append_assoc, ← List.append_assoc]; exact List.perm_append_comm.append_right led
    have n' := ((pm.map (·.1)).nodup_iff.mp n)
    rw [List.map_append] at n'
    exact fun z => (List.nodup_append.mp n').2.2 _ (List.mem_map_of_mem hq) _ (List.mem_map_of_mem hr) z
  have no : ∀ a, g.get? a = none → (∀ q ∈ new, q.1 ≠ a) → (only h p).get? a = none := fun a e q => by
    rw [get?_only]
    have : p a = false := by
      show ((g.get? a).isSome || new.any fun q => q.1 == a) = false
      rw [e, Option.isSome_none, Bool.false_or, List.any_eq_false]
      intro x hx z
      exact q x hx (beq_iff_eq.mp z)
    rw [this]; rfl
  refine ⟨only h p, ⟨fun a o e => ?_, fun a o e => ?_⟩, fun q hq => ?_, { S' with kg := up, nL := ⟨S.nL.1, no _ S.nL.2 fun q hq => (S.at_ q (hin q hq)).2.1⟩, cfr := fun c hc => ?_, at_ := fun q hq => ?_ }⟩
  · rw [get?_only]
    have : p a = true := by show ((g.get? a).isSome || _) = true; rw [e]; rfl
    rw [this, if_pos rfl]; exact S.kg _ _ e
  · rw [get?_only] at e
    split at e
    · rename_i hp
      have hp' : ((g.get? a).isSome || new.any fun q => q.1 == a) = true := hp
      rcases Bool.or_eq_true_iff.mp hp' with x | x
      · obtain ⟨o', e'⟩ := Option.isSome_iff_exists.mp x
        have := S.kg _ _ e'
        rw [e] at this; cases this
        exact .inl e'
      · obtain ⟨q, hq, z⟩ := List.any_eq_true.mp x
        rw [← beq_iff_eq.mp z]
        exact .inr (S.at_ q (hin q hq)).2.2.2.1
    · cases e
  · rw [get?_only]
    have : p q.1 = true := by
      show ((g.get? q.1).isSome || _) = true
      rw [Bool.or_eq_true_iff]
      exact .inr (List.any_eq_true.mpr ⟨q, hq, beq_iff_eq.mpr rfl⟩)
    rw [this, if_pos rfl]; exact (S.at_ q (hin q hq)).1
  · have x := S.cfr c hc
    exact ⟨x.1, x.2.1, x.2.2.1, no _ x.2.2.2.1 fun q hq => x.2.2.2.2 q (hin q hq), fun q hq => (S'.cfr c hc).2.2.2.2 q hq⟩
  · have x := S'.at_ q hq
    exact ⟨x.1, x.2.1, x.2.2.1, x.2.2.2.1, no _ x.2.2.2.2 fun r hr => dis r hr q hq⟩

theorem hideAll_sub {as : List Addr} : ∀ a o, (hideAll h as).get? a = some o → h.get? a = some o := fun _ _ e => of_hideAll _ e

theorem St.gpn {gp gr : Led} (S : St w b f g m cm (gp ++ gr) led h) {a : Addr} (hb : b.get? a ≠ none ∨ f.e.get? a ≠ none ∨ g.get? a ≠ none ∨ a = f.L ∨ (∃ p ∈ f.cl, p.2 = a) ∨ ∃ p ∈ gr ++ led, p.1 = a) : a ∉ gp.map (·.1) := by
  intro hm
  obtain ⟨p, hp, rfl⟩ := List.mem_map.mp hm
  have hp' : p ∈ (gp ++ gr) ++ led := List.mem_append_left _ (List.mem_append_left _ hp)
  have x := S.at_ p hp'
  rcases hb with h1 | h1 | h1 | h1 | ⟨c, hc, h1⟩ | ⟨q, hq, h1⟩
  · exact h1 x.2.2.1
  · exact h1 x.2.2.2.1
  · exact h1 x.2.2.2.2
  · exact x.2.1 h1
  · exact (S.cfr c hc).2.2.2.2 p hp' h1.symm
  · have n := S.nd
    rw [List.append_assoc, List.map_append] at n
    exact (List.nodup_append.mp n).2.2 _ (List.mem_map_of_mem hp) _ (List.mem_map_of_mem hq) h1.symm

/-- what a call leaves: the caller's state again -/
theorem St.back {f' : Fm} {g' : Heap} {m' cm' : Str → Option Value} {gp gp' gr : Led} (S : St w b f g m cm (gp ++ gr) led h) (he : f'.e = hideAll h (gp.map (·.1))) (G : Gle f'.e g g')
    (S' : St w b f' g' m' cm' gp' led' h') (hpp : gp'.map (·.1) = gp.map (·.1)) : Gle f.e g g' ∧ St w b f g' m cm (gp' ++ gr) (led' ++ led) h' := by
  have up : ∀ a o, a ∉ gp.map (·.1) → h.get? a = some o → h'.get? a = some o := fun a o n e => S'.ke a o (by rw [he]; exact hideAll_get _ e n)
  have eat : ∀ a o, a ∉ gp.map (·.1) → h.get? a = some o → f'.e.get? a = some o := fun a o n e => by rw [he]; exact hideAll_get _ e n
  have gn : ∀ a o, a ∉ gp.map (·.1) → h.get? a = some o → g.get? a = none → g'.get? a = none := fun a o n e e' => by
    cases q : g'.get? a with
    | none => rfl
    | some o' =>
      rcases G.2 a o' q with x | x
      · rw [e'] at x; cases x
      · rw [eat a o n e] at x; cases x
  have nb : ∀ a o, b.get? a = some o → a ∉ gp.map (·.1) := fun a o e => S.gpn (.inl (by rw [e]; exact Option.some_ne_none _))
  have ne : ∀ a o, f.e.get? a = some o → a ∉ gp.map (·.1) := fun a o e => S.gpn (.inr (.inl (by rw [e]; exact Option.some_ne_none _)))
  have nL : f.L ∉ gp.map (·.1) := S.gpn (.inr (.inr (.inr (.inl rfl))))
  obtain ⟨oL, es, ep, hL, hLr⟩ := S.ns
  have rest : ∀ q ∈ gr ++ led, q.1 ∉ gp.map (·.1) := fun q hq => S.gpn (.inr (.inr (.inr (.inr (.inr ⟨q, hq, rfl⟩)))))
  have cellg : ∀ c ∈ f.cl, c.2 ∉ gp.map (·.1) := fun c hc => S.gpn (.inr (.inr (.inr (.inr (.inl ⟨c, hc, rfl⟩)))))
  have enone : ∀ a, f'.e.get? a = none → f.e.get? a = none := fun a x => by
    cases q : f.e.get? a with
    | none => rfl
    | some o => rw [eat a o (ne a o q) (S.ke _ _ q)] at x; cases x
  have inAll : ∀ q, q ∈ gp' ++ gr ++ (led' ++ led) → q ∈ gp' ∨ q ∈ led' ∨ q ∈ gr ++ led := fun q hq => by
    rcases List.mem_append.mp hq with hq | hq <;> rcases List.mem_append.mp hq with hq | hq
    · exact .inl hq
    · exact .inr (.inr (List.mem_append_left _ hq))
    · exact .inr (.inl hq)
    · exact .inr (.inr (List.mem_append_right _ hq))
  have oldAt : ∀ q ∈ gr ++ led, q ∈ gp ++ gr ++ led := fun q hq => by rw [List.append_assoc]; exact List.mem_append_right _ hq
  refine ⟨⟨G.1, fun a o e => (G.2 a o e).imp id fun x => enone a x⟩, ?_⟩
  refine { bs := S.bs, ns := ⟨oL, es, ep, up _ _ nL hL, hLr⟩, kb := fun a o e => up _ _ (nb a o e) (S.kb _ _ e), bL := S.bL, ke := fun a o e => up _ _ (ne a o e) (S.ke _ _ e), kg := S'.kg, nL := ⟨S.nL.1, gn _ _ nL hL S.nL.2⟩, cell := fun p hp => ?_, cfr := fun p hp => ?_, cap := S.cap, at_ := fun q hq => ?_, nd := ?_ }
  · obtain ⟨oc, hc, hd⟩ := S.cell p hp
    exact ⟨oc, up _ _ (cellg p hp) hc, hd⟩
  · obtain ⟨oc, hc, hd⟩ := S.cell p hp
    have x := S.cfr p hp
    refine ⟨x.1, x.2.1, x.2.2.1, gn _ _ (cellg p hp) hc x.2.2.2.1, fun q hq => ?_⟩
    rcases inAll q hq with hq | hq | hq
    · have : q.1 ∈ gp'.map (·.1) := List.mem_map_of_mem hq
      rw [hpp] at this
      intro z; rw [z] at this
      exact cellg p ‹_› this
    · intro z
      have y := (S'.at_ q (List.mem_append_right _ hq)).2.2.2.1
      rw [z, eat _ _ (cellg p ‹_›) hc] at y; cases y
    · exact x.2.2.2.2 q (oldAt q hq)
  · rcases inAll q hq with hq | hq | hq
    · have y := S'.at_ q (List.mem_append_left _ hq)
      have : q.1 ∈ gp'.map (·.1) := List.mem_map_of_mem hq
      rw [hpp] at this
      obtain ⟨r, hr, z⟩ := List.mem_map.mp this
      have x := S.at_ r (List.mem_append_left _ (List.mem_append_left _ hr))
      rw [z] at x
      exact ⟨y.1, x.2.1, x.2.2.1, x.2.2.2.1, y.2.2.2.2⟩
    · have y := S'.at_ q (List.mem_append_right _ hq)
      refine ⟨y.1, fun z => ?_, y.2.2.1, enone _ y.2.2.2.1, y.2.2.2.2⟩
      have y' := y.2.2.2.1
      rw [z, eat _ _ nL hL] at y'; cases y'
    · obtain ⟨⟨y, y1, y2⟩, x⟩ := S.at_ q (oldAt q hq)
      exact ⟨⟨y, up _ _ (rest q hq) y1, y2⟩, x.1, x.2.1, x.2.2.1, gn _ _ (rest q hq) y1 x.2.2.2⟩
  · have n := S.nd
    have n' := S'.nd
    have pm : (gp' ++ gr ++ (led' ++ led)).Perm ((gp' ++ led') ++ (gr ++ led)) := by
      rw [List.append_assoc, List.append_assoc]
      refine List.Perm.append_left _ ?_
      rw [← List.append_assoc, ← List.append_assoc]
      exact List.perm_append_comm.append_right _
    refine (pm.map (·.1)).nodup_iff.mpr ?_
    rw [List.map_append, List.nodup_append]
    rw [List.append_assoc, List.map_append, hpp.symm] at n
    refine ⟨n', (List.nodup_append.mp n).2.1, fun x hx y hy z => ?_⟩
    rw [List.map_append] at hx
    rcases List.mem_append.mp hx with hx | hx
    · exact (List.nodup_append.mp n).2.2 x hx y hy z
    · obtain ⟨q, hq, rfl⟩ := List.mem_map.mp hx
      obtain ⟨r, hr, rfl⟩ := List.mem_map.mp hy
      have y1 := (S'.at_ q (List.mem_append_right _ hq)).2.2.2.1
      obtain ⟨y, y2, _⟩ := (S.at_ r (oldAt r hr)).1
      rw [z, eat _ _ (rest r hr) y2] at y1; cases y1
end

end Mine

namespace Mine

/-- room for k calls, one within the other -/
structure Room (k : Nat) (A : Around) : Prop where
  hh : A.handled = none
  dp : A.depth + k ≤ 900
  un : A.units + 10 * k ≤ 9000
theorem Room.deeper {k : Nat} {A : Around} (R : Room (k + 1) A) (env : Env) : Room k (A.deeper env) := ⟨R.hh, by show A.depth + 1 + k ≤ 900; have := R.dp; omega, by show A.units + 3 + 10 * k ≤ 9000; have := R.un; omega⟩
theorem Room.less {k j : Nat} {A : Around} (R : Room k A) (h : j ≤ k) : Room j A := ⟨R.hh, by have := R.dp; omega, by have := R.un; omega⟩
theorem Room.depth {k : Nat} {A : Around} (R : Room k A) : A.depth < recursionLimit := by have := R.dp; show _ < 1000; omega
theorem Room.units {k : Nat} {A : Around} (R : Room k A) : A.units < cLine := by have := R.un; rw [cLine_is]; omega
theorem Room.make {k : Nat} {A : Around} {C : Addr} {vs : List Value} {kw : List (Str × Value)} (R : Room (k + 1) A) : Room k (A.under (.builtin "type.__call__" ⟨.ref C :: vs, kw⟩)) :=
  ⟨R.hh, by show A.depth + 1 + k ≤ 900; have := R.dp; omega, by
    have e : (A.under (.builtin "type.__call__" ⟨.ref C :: vs, kw⟩)).units = A.units + (Code.builtin "type.__call__" ⟨.ref C :: vs, kw⟩).cUnits := rfl
    have e2 : (Code.builtin "type.__call__" ⟨.ref C :: vs, kw⟩).cUnits ≤ 3 := Nat.le_of_ble_eq_true rfl
    rw [e]; have := R.un; omega⟩

def LO (vs : List Value) : Obj → Prop := fun o => ∃ n, o = ({ cls := .type "list", data := .seq vs.toArray n } : Obj)
def TO (vs : List Value) : Obj → Prop := fun o => ∃ n, o = ({ cls := .type "tuple", data := .seq vs.toArray n } : Obj)
def IO (C dx : Addr) : Obj → Prop := fun o => o = instObj C dx
def SD (w : World) (d : Addr) (kvs : List (Str × Value)) : Obj → Prop := fun o => (d == sysModules) = false ∧ o.IsDictOf (PySem.strKind PG w) kvs
def ID (w : World) (d : Addr) (kvs : List (Int × Value)) : Obj → Prop := fun o => (d == sysModules) = false ∧ o.IsDictOf (PySem.intKind PG w) kvs
/-- in h, at a, an object of which P holds -/
def Ha (h : Heap) (a : Addr) (P : Obj → Prop) : Prop := ∃ x, h.get? a = some x ∧ P x
theorem Ha.keeps {h h' : Heap} {a : Addr} {P : Obj → Prop} (x : Ha h a P) (k : ∀ a o, h.get? a = some o → h'.get? a = some o) : Ha h' a P := let ⟨o, e, p⟩ := x; ⟨o, k _ _ e, p⟩
theorem Ha.list {h : Heap} {a : Addr} {vs : List Value} (x : Ha h a (LO vs)) : h.IsList a vs.toArray := let ⟨o, e, n, p⟩ := x; ⟨o, e, by rw [p], n, by rw [p]⟩
theorem Ha.tup {h : Heap} {a : Addr} {vs : List Value} (x : Ha h a (TO vs)) : h.IsTuple a vs.toArray := let ⟨o, e, n, p⟩ := x; ⟨o, e, by rw [p], n, by rw [p]⟩
theorem Ha.sd {w : World} {h : Heap} {d : Addr} {kvs : List (Str × Value)} (x : Ha h d (SD w d kvs)) : h.DictOf (PySem.strKind PG w) d kvs := let ⟨o, e, p⟩ := x; Heap.dictOf_iff.mpr ⟨o, e, p.2⟩
theorem Ha.id {w : World} {h : Heap} {d : Addr} {kvs : List (Int × Value)} (x : Ha h d (ID w d kvs)) : h.DictOf (PySem.intKind PG w) d kvs := let ⟨o, e, p⟩ := x; Heap.dictOf_iff.mpr ⟨o, e, p.2⟩
theorem Ha.sdn {w : World} {h : Heap} {d : Addr} {kvs : List (Str × Value)} (x : Ha h d (SD w d kvs)) : (d == sysModules) = false := let ⟨_, _, p⟩ := x; p.1
theorem Ha.idn {w : World} {h : Heap} {d : Addr} {kvs : List (Int × Value)} (x : Ha h d (ID w d kvs)) : (d == sysModules) = false := let ⟨_, _, p⟩ := x; p.1

section
variable {w : World} {b : Heap} {f : Fm} {g : Heap} {m cm : Str → Option Value} {gl gl' led led' : Led} {h h' : Heap} {A : Around} {E : Value → Shared → Prop} {env : Env} {gs : Array GenState} {dr : Drawn} {tk : Nat} {os : OsState} {x : Str} {pos : Pos} {v : Value}
  {Q : Value → Shared → Prop} {QU : Unit → Shared → Prop} {a d : Addr} {P P' : Obj → Prop}

theorem St.ha (S : St w b f g m cm gl led h) (hm : (a, P) ∈ led) : Ha h a P := (S.at_ (a, P) (List.mem_append_right _ hm)).1
theorem St.haG (S : St w b f g m cm gl led h) (hm : (a, P) ∈ gl) : Ha h a P := (S.at_ (a, P) (List.mem_append_left _ hm)).1
theorem St.hag (S : St w b f g m cm gl led h) (hg : Ha g a P) : Ha h a P := hg.keeps S.kg
theorem St.hae (S : St w b f g m cm gl led h) (hg : Ha f.e a P) : Ha h a P := hg.keeps S.ke

theorem z_local (S : St w b f g m cm gl led h) (hv : m x = some v) (k : Q v ⟨h, gs, dr, tk, os⟩) (hk : env.scope.kind = .function := by rfl) (hL : env.locals = f.L := by rfl) (hx : env.kindOf x = some .local := by rfl) (hd : (x == ("__debug__" : Str)) = false := by decide) :
    wpAny (model PG w) A (eval (.Name x pos) env) Q E ⟨h, gs, dr, tk, os⟩ := wpAny_Name (wpAny_loadName_local (m := m) hk hx (by rw [hL]; exact S.ns) hv k) hd
theorem z_cell {c : Addr} (S : St w b f g m cm gl led h) (hc : env.cells.lookup x = some c) (hm : (x, c) ∈ f.cl) (hv : cm x = some v) (k : Q v ⟨h, gs, dr, tk, os⟩) (hk : env.scope.kind = .function := by rfl) (hx : env.kindOf x = some .cell := by rfl) (hd : (x == ("__debug__" : Str)) = false := by decide) :
    wpAny (model PG w) A (eval (.Name x pos) env) Q E ⟨h, gs, dr, tk, os⟩ := wpAny_Name (wpAny_loadName_cell hk hx hc (by have := S.cell _ hm; rw [hv] at this; exact this) k) hd
theorem z_cellH {c : Addr} (hc : env.cells.lookup x = some c) (hv : h.IsCell c (some v)) (k : Q v ⟨h, gs, dr, tk, os⟩) (hk : env.scope.kind = .function := by rfl) (hx : env.kindOf x = some .cell := by rfl) (hd : (x == ("__debug__" : Str)) = false := by decide) :
    wpAny (model PG w) A (eval (.Name x pos) env) Q E ⟨h, gs, dr, tk, os⟩ := wpAny_Name (wpAny_loadName_cell hk hx hc hv k) hd
theorem z_freeH {c : Addr} (hc : env.cells.lookup x = some c) (hv : h.IsCell c (some v)) (k : Q v ⟨h, gs, dr, tk, os⟩) (hk : env.scope.kind = .function := by rfl) (hx : env.kindOf x = some .free := by rfl) (hd : (x == ("__debug__" : Str)) = false := by decide) (hn : (x == ("__classdict__" : Str)) = false := by decide) :
    wpAny (model PG w) A (eval (.Name x pos) env) Q E ⟨h, gs, dr, tk, os⟩ := wpAny_Name (wpAny_loadName_free hk hx hc hv k hn) hd
theorem z_global (S : St w b f g m cm gl led h) (e : nsIn (hd.heap_39 w.params) mainGlobals x = some (some v)) (k : Q v ⟨h, gs, dr, tk, os⟩) (hk : env.scope.kind = .function := by rfl) (hg : env.globals = mainGlobals := by rfl) (hx : env.kindOf x = some .globalImplicit := by rfl)
    (hd : (x == ("__debug__" : Str)) = false := by decide) : wpAny (model PG w) A (eval (.Name x pos) env) Q E ⟨h, gs, dr, tk, os⟩ := by
  obtain ⟨mg, mb, h1, h2, h3⟩ := S.bs.T
  exact Name_function_global hk hx (loadGlobal_global (mg := mg) (by rw [hg]; exact h1.keeps S.kb) (mg_of S.bs.K h1 e) k) hd
theorem z_builtin (S : St w b f g m cm gl led h) (e : nsIn (hd.heap_39 w.params) mainGlobals x = some none) (hv : bootBuiltins x = some v) (k : Q v ⟨h, gs, dr, tk, os⟩) (hn : x ≠ "__name__" := by decide) (hk : env.scope.kind = .function := by rfl) (hg : env.globals = mainGlobals := by rfl) (hb : env.builtins = builtinsNs := by rfl) (hx : env.kindOf x = some .globalImplicit := by rfl)
    (hd : (x == ("__debug__" : Str)) = false := by decide) : wpAny (model PG w) A (eval (.Name x pos) env) Q E ⟨h, gs, dr, tk, os⟩ := by
  obtain ⟨mg, mb, h1, h2, h3⟩ := S.bs.T
  exact Name_function_global hk hx (loadGlobal_builtin (mg := mg) (mb := mb) (by rw [hg]; exact h1.keeps S.kb) (mg_none_of S.bs.K h1 e) (by rw [hb]; exact h2.keeps S.kb) ((h3 x hn).trans hv) k) hd

theorem z_store (S : St w b f g m cm gl led h) (k : ∀ h', St w b f g (fun y => if y = x then some v else m y) cm gl led h' → QU () ⟨h', gs, dr, tk + 1, os⟩) (hL : env.locals = f.L := by rfl) (hk : env.scope.kind = .function := by rfl) (hx : env.kindOf x = some .local := by rfl) :
    wpAny (model PG w) A (storeName env x v) QU E ⟨h, gs, dr, tk, os⟩ :=
  wpAny_storeName_local hx (by rw [hL]; exact S.ns) (fun h' hn hs => k h' (S.locals (by rw [← hL]; exact hn) (by rw [← hL]; exact hs))) (by rw [hk]; rfl)

theorem St.cellset {c : Addr} (S : St w b f g m cm gl led h) (hm : (x, c) ∈ f.cl) (hn : (f.cl.map (·.1)).Nodup) (hv : h'.IsCell c (some v)) (hs : Heap.SameBut c h h') : St w b f g m (fun y => if y = x then some v else cm y) gl led h' := by
  have F := S.cfr _ hm
  have nd : ∀ {y : Heap}, (∀ a o, y.get? a = some o → h.get? a = some o) → y.get? c = none → ∀ a o, y.get? a = some o → h'.get? a = some o :=
    fun ky ny a o q => (hs.2 a (fun z => by rw [z, ny] at q; cases q)).trans (ky a o q)
  refine { S with ns := S.ns.sameBut hs (Ne.symm F.1), kb := nd S.kb F.2.1, ke := nd S.ke F.2.2.1, kg := nd S.kg F.2.2.2.1, cell := fun p hp => ?_, at_ := fun p hp => ?_ }
  · by_cases hx : p.1 = x
    · obtain ⟨n, c'⟩ := p
      simp only at hx
      subst hx
      have : c' = c := by
        have key : ∀ (l : List (Str × Addr)), (l.map (·.1)).Nodup → (n, c') ∈ l → (n, c) ∈ l → c' = c := by
          intro l
          induction l with
          | nil => intro _ h; cases h
          | cons q r ih =>
            intro hn h1 h2
            rw [List.map_cons, List.nodup_cons] at hn
            rcases List.mem_cons.mp h1 with e1 | h1 <;> rcases List.mem_cons.mp h2 with e2 | h2
            · rw [← e1] at e2; exact (Prod.mk.inj e2).2.symm
            · exact absurd (List.mem_map_of_mem (f := (·.1)) h2) (by rw [← e1] at hn; exact hn.1)
            · exact absurd (List.mem_map_of_mem (f := (·.1)) h1) (by rw [← e2] at hn; exact hn.1)
            · exact ih hn.2 h1 h2
        exact key _ hn hp hm
      subst this
      simp only [if_true]; exact hv
    · rw [if_neg hx]
      refine (S.cell p hp).sameBut hs fun z => ?_
      have key : ∀ (l : List (Str × Addr)), (l.Pairwise fun x y => x.2 ≠ y.2) → p ∈ l → (x, c) ∈ l → False := by
        intro l
        induction l with
        | nil => intro _ h; cases h
        | cons q r ih =>
          intro hn h1 h2
          rw [List.pairwise_cons] at hn
          rcases List.mem_cons.mp h1 with e1 | h1 <;> rcases List.mem_cons.mp h2 with e2 | h2
          · rw [← e1] at e2; exact hx (congrArg Prod.fst e2).symm
          · exact hn.1 _ h2 (by rw [← e1]; exact z)
          · exact hn.1 _ h1 (by rw [← e2]; exact z.symm)
          · exact ih hn.2 h1 h2
      exact key _ S.cap hp hm
  · obtain ⟨⟨y, y1, y2⟩, z⟩ := S.at_ p hp
    exact ⟨⟨y, (hs.2 _ (F.2.2.2.2 p hp)).trans y1, y2⟩, z⟩

theorem z_storeC {c : Addr} (S : St w b f g m cm gl led h) (hc : env.cells.lookup x = some c) (hm : (x, c) ∈ f.cl) (hn : (f.cl.map (·.1)).Nodup) (k : ∀ h', St w b f g m (fun y => if y = x then some v else cm y) gl led h' → QU () ⟨h', gs, dr, tk, os⟩) (hk : env.scope.kind = .function := by rfl) (hx : env.kindOf x = some .cell := by rfl) :
    wpAny (model PG w) A (storeName env x v) QU E ⟨h, gs, dr, tk, os⟩ :=
  wpAny_storeName_cell hk hx hc (S.cell _ hm) fun h' hv hs => k h' (S.cellset hm hn hv hs)

/-- a new list, a new tuple -/
theorem z_newList {vs : List Value} (S : St w b f g m cm gl led h) (k : ∀ l h', St w b f g m cm gl ((l, LO vs) :: led) h' → h.get? l = none → Q (.ref l) ⟨h', gs, dr, tk, os⟩) (hsz : vs.length ≤ sizeLine := by size_fits) :
    wpAny (model PG w) A (newList vs) Q E ⟨h, gs, dr, tk, os⟩ :=
  wpAny_newObj_type (k _ _ (S.push _ _ ⟨0, rfl⟩) (fresh_at h)) (by show vs.toArray.size ≤ sizeLine; rw [List.size_toArray]; exact hsz)
theorem z_newTuple {vs : List Value} (S : St w b f g m cm gl led h) (k : ∀ l h', St w b f g m cm gl ((l, TO vs) :: led) h' → h.get? l = none → Q (.ref l) ⟨h', gs, dr, tk, os⟩) (hsz : vs.length ≤ sizeLine := by size_fits) :
    wpAny (model PG w) A (newTuple vs) Q E ⟨h, gs, dr, tk, os⟩ :=
  wpAny_newObj_type (k _ _ (S.push _ _ ⟨0, rfl⟩) (fresh_at h)) (by show vs.toArray.size ≤ sizeLine; rw [List.size_toArray]; exact hsz)

theorem St.nosys (S : St w b f g m cm gl led h) : (h.objs.size == sysModules) = false := by
  have h1 : sysModules < b.objs.size := modules_low S.bs.nolimit
  have h2 := S.bL
  have h3 := S.ns.lt
  have : h.objs.size ≠ sysModules := by
    intro e; rw [e] at h3; exact absurd (Nat.lt_of_lt_of_le h1 h2) (Nat.lt_asymm h3)
  simpa using this

/-- append -/
theorem z_appendM {vs : List Value} {pl : Sem Bool} {QM : Value × List Value → Shared → Prop} (H : Ha h a (LO vs)) (k : QM (.builtin "list.append", [.ref a]) ⟨h, gs, dr, tk, os⟩) : wpAny (model PG w) A (getMethod (.ref a) "append" pl) QM E ⟨h, gs, dr, tk, os⟩ := by
  obtain ⟨o, e, n, rfl⟩ := H
  exact Calls.getMethod_list_append e rfl rfl k
theorem z_append {vs : List Value} (S : St w b f g m cm gl led h) (U : At a (LO vs) (LO (vs ++ [v])) led led') (k : ∀ h', St w b f g m cm gl led' h' → Q .none ⟨h', gs, dr, tk, os⟩) (hsz : vs.length ≤ sizeLine := by size_fits) :
    wpAny (model PG w) A (call (.builtin "list.append") [.ref a, v]) Q E ⟨h, gs, dr, tk, os⟩ := by
  obtain ⟨o, e, n, rfl⟩ := S.ha U.mem
  refine append_at (hsz := by rw [List.size_toArray]; exact hsz) e fun h' hs ho' => k h' (S.upd U (fun c o hc e => (hs.2 c hc).trans e) ⟨_, ho', n + 1, ?_⟩)
  simp
end
end Mine

namespace Mine

theorem isStr_isStrOf {v : Value} {n : Str} : v.isStr n = Value.isStrOf n v := by cases v <;> rfl

theorem pairs_find {w : World} {n : Str} : ∀ {es : List DictEntry} {kvs : List (Str × Value)}, Pairs (PySem.strKind PG w) es kvs →
    (es.find? (·.key.isStr n)).map (·.val) = valueAt kvs n ∧ es.any (·.refKey) = false
  | _, _, .nil => ⟨rfl, rfl⟩
  | _, _, .cons (e := e) (kv := kv) (es := es) (kvs := kvs) h1 h2 r => by
    obtain ⟨i1, i2⟩ := pairs_find (n := n) r
    have h1' : Value.isStrOf kv.1 e.key = true := h1
    obtain ⟨t, ht⟩ := Value.isStrOf_shape h1'
    constructor
    · unfold valueAt at i1 ⊢
      have q : e.key.isStr n = decide (kv.1 = n) := by rw [ht]; show (kv.1 == n) = _; rfl
      rw [List.find?_cons, List.find?_cons, q]
      by_cases z : kv.1 = n
      · simp only [z, decide_true]; rw [Option.map_some, h2]; simp
      · simp only [z, decide_false]; exact i1
    · rw [List.any_cons, i2]; unfold DictEntry.refKey; rw [ht]; rfl

theorem lookIn_sd {w : World} {o : Obj} {kvs : List (Str × Value)} {n : Str} (h : o.IsDictOf (PySem.strKind PG w) kvs) : lookIn n o = some (valueAt kvs n) := by
  obtain ⟨es, ep, hc, hd, hk, hp, hn⟩ := h
  obtain ⟨i1, i2⟩ := pairs_find (n := n) hp
  unfold lookIn
  rw [hd]
  dsimp only
  rw [← i1]
  cases q : es.toList.find? (·.key.isStr n) with
  | some e => rfl
  | none => simp only [i2]; rfl

theorem put_sd {w : World} {o : Obj} {kvs : List (Str × Value)} {n : Str} {t : Tok} {v : Value} (h : o.IsDictOf (PySem.strKind PG w) kvs) :
    (Obj.putName n (PyData.keyHash w.params n) (.str n t) v o).IsDictOf (PySem.strKind PG w) (stored kvs n v) := by
  obtain ⟨es, ep, hc, hd, hk, hp, hn⟩ := h
  obtain ⟨c, d, dt, sl⟩ := o
  simp only at hd; subst hd
  rw [Obj.putName_eq]
  unfold Obj.putNameByArray
  dsimp only
  have hf : (es.findIdx? fun e => e.key.isStr n) = es.findIdx? fun e => (PySem.strKind PG w).is n e.key := by
    congr 1; funext e; exact isStr_isStrOf
  have hidx : (es.findIdx? fun e => (PySem.strKind PG w).is n e.key) = kvs.findIdx? fun kv => decide (kv.1 = n) := by
    rw [← hp.findIdx n]; obtain ⟨l⟩ := es; simp
  have hkey : (PySem.strKind PG w).is n (.str n t) = true := strKind_is PG w n t
  rw [hf]
  cases hi : es.findIdx? fun e => (PySem.strKind PG w).is n e.key with
  | some i =>
    refine ⟨_, ep, hc, rfl, hk.modify _ _, ?_, ?_⟩
    · rw [stored, if_pos (any_of_findIdx_some (hidx ▸ hi))]
      have hl : (es.toList.findIdx? fun e => (PySem.strKind PG w).is n e.key) = some i := by rw [← hi]; obtain ⟨l⟩ := es; simp
      have := hp.modify hn hl v
      obtain ⟨l⟩ := es
      simpa using this
    · rw [stored, if_pos (any_of_findIdx_some (hidx ▸ hi)), keys_map_store]; exact hn
  | none =>
    have hnot : n ∉ kvs.map (·.1) := not_mem_of_findIdx_none (hidx ▸ hi)
    have hany : ¬ (kvs.any fun kv => decide (kv.1 = n)) = true := by
      rw [List.any_eq_true]; rintro ⟨kv, hkv, he⟩
      exact hnot (List.mem_map.mpr ⟨kv, hkv, of_decide_eq_true he⟩)
    refine ⟨_, ep + 1, hc, rfl, hk.push (k := n) hkey _, ?_, ?_⟩
    · rw [stored, if_neg hany]
      have := hp.append hkey (PyData.keyHash w.params n) v
      obtain ⟨l⟩ := es
      simpa using this
    · rw [stored, if_neg hany, List.map_append, List.nodup_append]
      refine ⟨hn, by simp, ?_⟩
      intro a ha b hb
      simp only [List.map_cons, List.map_nil, List.mem_singleton] at hb
      subst hb
      exact fun e => hnot (e ▸ ha)

theorem sd_size {w : World} {o : Obj} {kvs : List (Str × Value)} {es : Array DictEntry} {ep : Nat} (h : o.IsDictOf (PySem.strKind PG w) kvs) (hd : o.data = .dict es ep) : es.size = kvs.length := by
  obtain ⟨es', ep', hc, hd', hk, hp, hn⟩ := h
  rw [hd] at hd'; cases hd'
  have := hp.length
  simpa using this

section
variable {w : World} {b : Heap} {f : Fm} {g : Heap} {m cm : Str → Option Value} {gl gl' gp gr led led' : Led} {h h' : Heap} {A : Around} {E : Value → Shared → Prop} {env : Env} {gs : Array GenState} {dr : Drawn} {tk : Nat} {os : OsState} {x : Str} {pos : Pos} {v : Value}
  {Q : Value → Shared → Prop} {QU : Unit → Shared → Prop} {a d dx C : Addr} {P P' : Obj → Prop} {kvs : List (Str × Value)} {name : Str}

theorem inst_at (I : Ha h a (IO C dx)) (D : Ha h dx (SD w dx kvs)) : ∃ od, InstAt h a (instObj C dx) C (some od) ∧ od.IsDictOf (PySem.strKind PG w) kvs := by
  obtain ⟨o, e, rfl⟩ := I
  obtain ⟨od, e', p⟩ := D
  exact ⟨od, ⟨e, rfl, rfl, e'⟩, p.2⟩

theorem z_getAttr {expr : Bool} {attr : Option Value} (S : St w b f g m cm gl led h) (I : Ha h a (IO C dx)) (D : Ha h dx (SD w dx kvs)) (hl : valueAt kvs name = some v) (hg : plainGet (hd.heap_39 w.params) C name = true) (hh : hasDictIn (hd.heap_39 w.params) C = true)
    (ha : findIn (hd.heap_39 w.params) (.ref C) name = some attr) (hn : noGet (hd.heap_39 w.params) attr = true) (hv : handedIn v = true) (k : Q v ⟨h, gs, dr, tk + 1, os⟩) :
    wpAny (model PG w) A (getAttr (.ref a) name expr) Q E ⟨h, gs, dr, tk, os⟩ := by
  obtain ⟨od, J, p⟩ := inst_at I D
  exact get_value (s := ⟨h, gs, dr, tk, os⟩) S.K J (plainGet_of hg).1 (findObj_own hh ha hn (by rw [lookIn_sd p, hl])) hv k

theorem z_method {pl : Sem Bool} {QM : Value × List Value → Shared → Prop} {fn : Addr} (S : St w b f g m cm gl led h) (I : Ha h a (IO C dx)) (D : Ha h dx (SD w dx kvs)) (hl : valueAt kvs name = none) (hg : plainGet (hd.heap_39 w.params) C name = true)
    (hf : findIn (hd.heap_39 w.params) (.ref C) name = some (some (.ref fn))) (ht : isFn (hd.heap_39 w.params) (.ref fn) = true) (k : QM (.ref fn, [.ref a]) ⟨h, gs, dr, tk, os⟩) : wpAny (model PG w) A (getMethod (.ref a) name pl) QM E ⟨h, gs, dr, tk, os⟩ := by
  obtain ⟨od, J, p⟩ := inst_at I D
  exact method_fn (s := ⟨h, gs, dr, tk, os⟩) S.K J (plainGet_of hg).1 (plainGet_of hg).2 hf (beq_iff_eq.mp ht) (by show (lookIn name od).map _ = _; rw [lookIn_sd p, hl]; rfl) k

theorem z_setAttr (S : St w b f g m cm gl led h) (I : Ha h a (IO C dx)) (U : At dx (SD w dx kvs) (SD w dx (stored kvs name v)) gl gl') (hs : findIn (hd.heap_39 w.params) (.ref C) "__setattr__" = some (some (.builtin "object.__setattr__"))) (hp : plainOver (hd.heap_39 w.params) C = true)
    (ht : takerIn (hd.heap_39 w.params) C name = some none) (hh : hasDictIn (hd.heap_39 w.params) C = true) (k : ∀ h', St w b f g m cm gl' led h' → QU () ⟨h', gs, dr, tk + 1 + 1, os⟩) (hz : kvs.length ≤ 1000 := by decide) :
    wpAny (model PG w) A (setAttr (.ref a) name v) QU E ⟨h, gs, dr, tk, os⟩ := by
  have D := S.haG U.mem
  obtain ⟨od, J, p⟩ := inst_at I D
  refine set_plain (s := ⟨h, gs, dr, tk, os⟩) S.K J hs ?_
  refine osa_open (s := ⟨h, gs, dr, tk + 1, os⟩) S.K J hp ht fun bb => ?_
  obtain ⟨cd, hc, hd'⟩ := any_some hh
  have hx : h.get? a = some (instObj C dx) := J.at_
  have e : h.get? dx = some od := J.dict
  refine wpAny_bind (wpAny_pure (wpAny_bind (wpAny_bind (wpAny_loadPart (o := instObj C dx) hx (wpAny_bind ((looks_clsIn S.K hc).here ?_))))))
  rw [hd']
  refine wpAny_pure (a := some dx) (wpAny_bind (wpAny_pure (wpAny_bind ?_)))
  unfold nsSet
  refine wpAny_bind (wpAny_bind (wpAny_askSetting (wpAny_pure (wpAny_bind (wpAny_mkText (wpAny_bind (wpAny_loadPart (o := od) e ?_)))))))
  obtain ⟨es, ep, hc', hdd, hk', hpp, hn⟩ := id p
  rw [hdd]
  dsimp only
  have c : (!es.any (·.key.isStr name) && es.any (·.refKey)) = false := by
    have z : es.any (·.refKey) = false := by rw [← Array.any_toList]; exact (pairs_find (n := name) hpp).2
    rw [z, Bool.and_false]
  rw [aRefKeyMayBeTheName_at, c]
  have p' := put_sd (n := name) (t := tk + 1) (v := v) p
  have fr : (Obj.putName name (PyData.keyHash w.params name) (.str name (tk + 1)) v od).isFreed = false := by obtain ⟨es', ep', _, q, _⟩ := p'; exact Obj.isFreed_of_dict q
  have e2 := Heap.get?_update_self (Obj.putName name (PyData.keyHash w.params name) (.str name (tk + 1)) v) e fr
  refine wpAny_updatePart e ?_
  obtain ⟨es', ep', _, q, _⟩ := id p'
  have sz : es'.size ≤ 1001 := by
    rw [sd_size p' q]
    unfold stored
    split
    · rw [List.length_map]; omega
    · rw [List.length_append]; simp; omega
  refine wpAny_bind (wpAny_lookBehind e2 (by rw [q]; exact pastItsLine_dict (by rw [sizeLine_eq]; omega)) ?_)
  refine wpAny_pure ?_
  show QU () _
  exact k _ (S.updG U (fun c o hc e => (Heap.get?_update_ne _ _ _ _ hc).trans e) ⟨_, e2, D.sdn, p'⟩)
end
end Mine

namespace Mine

section
variable {w : World} {b : Heap} {f : Fm} {g : Heap} {m cm : Str → Option Value} {gl gl' gp gr led led' : Led} {h h' : Heap} {A : Around} {E : Value → Shared → Prop} {env : Env} {gs : Array GenState} {dr : Drawn} {tk : Nat} {os : OsState} {x : Str} {pos : Pos} {v : Value}
  {Q : Value → Shared → Prop} {QU : Unit → Shared → Prop} {a d dx C : Addr} {P P' : Obj → Prop} {kvs : List (Str × Value)} {name : Str}
  {R : Result → Shared → Prop} {qual : Str} {params : Arguments} {body : List Stmt} {scope : Scope} {cl : List (Str × Addr)} {dV kV doc pm cdv ct oc : Value} {an od : Option Addr} {osl : Array (Option Value)} {fn : Addr} {args : Args} {binds : List (Str × Value)}

theorem enterSt (S : St w b f g m cm (gp ++ gr) led h) {m' : Str → Option Value} {L' : Addr} (hL : L' = h.objs.size) {h₁ : Heap} (hns : h₁.Ns L' m') (hk : ∀ c o, h.get? c = some o → h₁.get? c = some o) :
    St w b ⟨L', [], hideAll h (gp.map (·.1))⟩ g m' (fun _ => none) gp [] h₁ := by
  subst hL
  refine { bs := S.bs, ns := hns, kb := fun a o e => hk _ _ (S.kb _ _ e), bL := ?_, ke := fun a o e => hk _ _ (of_hideAll _ e), kg := fun a o e => hk _ _ (S.kg _ _ e), nL := ⟨?_, ?_⟩, cell := fun p hp => (nomatch hp), cfr := fun p hp => (nomatch hp), cap := .nil, at_ := fun p hp => ?_, nd := ?_ }
  · exact Nat.le_trans S.bL (Nat.le_of_lt S.ns.lt)
  · exact Heap.get?_none_of_le (Nat.le_of_eq (hideAll_size _ _))
  · exact none_of_le S.kg (fresh_at h)
  · rw [List.append_nil] at hp
    obtain ⟨⟨y, y1, y2⟩, z⟩ := S.at_ p (List.mem_append_left _ (List.mem_append_left _ hp))
    exact ⟨⟨y, hk _ _ y1, y2⟩, Nat.ne_of_lt (Heap.lt_size y1), z.2.1, hideAll_none _ (List.mem_map_of_mem hp), z.2.2.2⟩
  · rw [List.append_nil]
    have n := S.nd
    rw [List.append_assoc, List.map_append] at n
    exact (List.nodup_append.mp n).1

/-- a def without cells of its own is entered -/
theorem z_enter {k : Nat} (S : St w b f g m cm (gp ++ gr) led h) (RM : Room (k + 1) A) (ho : (hd.heap_39 w.params).lookup fn = some ⟨oc, od, .func (fnX name qual params body scope cl dV kV doc pm an cdv ct), osl⟩) (hcd : codeIn (hd.heap_39 w.params) cdv qual = true)
    (hbind : BindsTo ⟨h, gs, dr, tk, os⟩ (fnX name qual params body scope cl dV kV doc pm an cdv ct) args binds) (hloc : ∀ y ∈ binds, scope.names.lookup y.1 = some .local)
    (hb : ∀ L' h₁, St w b ⟨L', [], hideAll h (gp.map (·.1))⟩ g (fun y => binds.reverse.lookup y) (fun _ => none) gp [] h₁ → Room k (A.deeper (envX qual scope L' fn cdv cl)) →
      wpAny (model PG w) (A.deeper (envX qual scope L' fn cdv cl)) (execs body (envX qual scope L' fn cdv cl)) (fun fl s' => R (.ok (.ret (match fl with | .ret v => v | _ => .none))) s')
        (fun e s' => wpAny (model PG w) (A.deeper (envX qual scope L' fn cdv cl)) (leaving (envX qual scope L' fn cdv cl) e) (fun _ s'' => R (.error e) s'') (fun e' s'' => R (.error e') s'') s')
        ⟨h₁, gs, dr, tk + binds.length, os⟩)
    (hcell : ∀ x ∈ scope.names, x.2 ≠ .cell) (hco : scope.isCoroutine = false := by rfl) (hgen : scope.isGenerator = false := by rfl) (hk : scope.kind = .function := by rfl) : codeAny (model PG w) A (.call (.ref fn) args) R ⟨h, gs, dr, tk, os⟩ := by
  refine codeAny_call_def (s := ⟨h, gs, dr, tk, os⟩) (fd := fnX name qual params body scope cl dV kV doc pm an cdv ct) (body := body) (binds := binds) RM.depth (S.K _ _ ho) rfl S.nolimit (codeRec_of S.K hcd) rfl hbind hcell hloc (fun h₁ hns hk₁ => ?_) hco hgen hk
  exact hb _ _ (enterSt S rfl hns hk₁) (RM.deeper _)

theorem cellsFrom_mem : ∀ (names : List (Str × NameKind)) (n : Nat) (acc : List (Str × Addr)) (p : Str × Addr), p ∈ cellsFrom n names acc → p ∈ acc ∨ n ≤ p.2
  | [], n, acc, p, h => .inl h
  | (y, k) :: r, n, acc, p, h => by
    unfold cellsFrom at h
    split at h
    · rcases cellsFrom_mem r (n + 1) ((y, n) :: acc) p h with h | h
      · rcases List.mem_cons.mp h with rfl | h
        · exact .inr (Nat.le_refl _)
        · exact .inl h
      · exact .inr (Nat.le_of_succ_le h)
    · exact cellsFrom_mem r n acc p h

/-- a def with cells of its own is entered -/
theorem z_enterC {k : Nat} (S : St w b f g m cm (gp ++ gr) led h) (RM : Room (k + 1) A) (ho : (hd.heap_39 w.params).lookup fn = some ⟨oc, od, .func (fnX name qual params body scope [] dV kV doc pm an cdv ct), osl⟩) (hcd : codeIn (hd.heap_39 w.params) cdv qual = true)
    (hbind : BindsTo ⟨h, gs, dr, tk, os⟩ (fnX name qual params body scope [] dV kV doc pm an cdv ct) args binds)
    (hkind : (binds.all fun y => scope.names.lookup y.1 == some .local || scope.names.lookup y.1 == some .cell) = true)
    (hnd : ((cellsFrom 0 scope.names []).map (·.1)).Nodup)
    (hb : ∀ L' h₁ tk', St w b ⟨L', cellsFrom (L' + 1) scope.names [], hideAll h (gp.map (·.1))⟩ g (bindL (envOfC qual scope L' fn cdv).kindOf binds fun _ => none) (bindC (envOfC qual scope L' fn cdv).kindOf binds fun _ => none) gp [] h₁ → Room k (A.deeper (envOfC qual scope L' fn cdv)) →
      wpAny (model PG w) (A.deeper (envOfC qual scope L' fn cdv)) (execs body (envOfC qual scope L' fn cdv)) (fun fl s' => R (.ok (.ret (match fl with | .ret v => v | _ => .none))) s')
        (fun e s' => wpAny (model PG w) (A.deeper (envOfC qual scope L' fn cdv)) (leaving (envOfC qual scope L' fn cdv) e) (fun _ s'' => R (.error e) s'') (fun e' s'' => R (.error e') s'') s')
        ⟨h₁, gs, dr, tk', os⟩)
    (hco : scope.isCoroutine = false := by rfl) (hgen : scope.isGenerator = false := by rfl) (hk : scope.kind = .function := by rfl) : codeAny (model PG w) A (.call (.ref fn) args) R ⟨h, gs, dr, tk, os⟩ := by
  refine codeAny_call_function (s := ⟨h, gs, dr, tk, os⟩) RM.depth (S.K _ _ ho) rfl hco hgen rfl (codeRec_of S.K hcd) (hbind _ _ _ _ ?_)
  refine wpAny_newFunctionEnv_cells hk (kindsX hkind _) fun env' he s' X => ?_
  subst he
  refine ⟨S.nolimit.keeps X.toInCall.keep, codeAny_func ?_⟩
  obtain ⟨h₁, tk', rfl, _⟩ := X.done
  have hk₁ : ∀ c o, h.get? c = some o → h₁.get? c = some o := X.toInCall.keep
  have S₀ := enterSt S (h₁ := h₁) (L' := h.objs.size) rfl X.toInCall.ns hk₁
  have nm : ((cellsFrom (h.objs.size + 1) scope.names []).map (·.1)).Nodup := cellsFrom_names scope.names 0 (h.objs.size + 1) [] [] rfl ▸ hnd
  have ab : ∀ p ∈ cellsFrom (h.objs.size + 1) scope.names [], h.objs.size < p.2 := fun p hp => (cellsFrom_mem _ _ _ _ hp).elim (fun q => nomatch q) id
  have fr : ∀ (y : Heap), (∀ a o, y.get? a = some o → h.get? a = some o) → ∀ p ∈ cellsFrom (h.objs.size + 1) scope.names [], y.get? p.2 = none := fun y ky p hp => by
    cases q : y.get? p.2 with
    | none => rfl
    | some o => exact absurd (Heap.lt_size (ky _ _ q)) (Nat.lt_asymm (ab p hp))
  refine hb h.objs.size h₁ tk' ?_ (RM.deeper _)
  refine { S₀ with cell := fun p hp => X.cell p.1 p.2 (lookup_of_mem_nodup nm hp), cfr := fun p hp => ⟨Nat.ne_of_gt (ab p hp), fr _ S.kb p hp, fr _ (fun a o e => of_hideAll _ e) p hp, fr _ S.kg p hp, fun q hq => ?_⟩, cap := X.apart }
  rw [List.append_nil] at hq
  obtain ⟨⟨y, y1, y2⟩, _⟩ := S.at_ q (List.mem_append_left _ (List.mem_append_left _ hq))
  exact Nat.ne_of_lt (Nat.lt_trans (Heap.lt_size y1) (ab p hp))

/-- an object of the class is made -/
theorem z_make {k : Nat} {vs : List Value} {kw : List (Str × Value)} {fI : Addr} (S : St w b f g m cm gl led h) (RM : Room (k + 1) A) (hm : makesIn (hd.heap_39 w.params) C = true) (hi : findIn (hd.heap_39 w.params) (.ref C) "__init__" = some (some (.ref fI))) (hf : isFn (hd.heap_39 w.params) (.ref fI) = true)
    (k' : ∀ x dx h', h.get? x = none → h.get? dx = none → St w b f g m cm ((dx, SD w dx []) :: gl) ((x, IO C dx) :: led) h' → Room k (A.under (.builtin "type.__call__" ⟨.ref C :: vs, kw⟩)) →
      codeAny (model PG w) (A.under (.builtin "type.__call__" ⟨.ref C :: vs, kw⟩)) (.call (.ref fI) ⟨.ref x :: vs, kw⟩) (InitBack x fun r s' => match r with | .ok (.ret v) => Q v s' | .ok _ => False | .error e => E e s') ⟨h', gs, dr, tk, os⟩) :
    wpAny (model PG w) A (call (.ref C) vs kw) Q E ⟨h, gs, dr, tk, os⟩ := by
  refine wpAny_call (make_core (makes_of S.K hm) (looks_findIn S.K hi) (fun self => bind_fn S.K self (beq_iff_eq.mp hf)) (.inl (bne_iff_ne.mpr (by intro e; cases e))) ?_)
  obtain ⟨o, ho, hd⟩ := Heap.dictOf_iff.mp (Heap.DictOf.new (knd := PySem.strKind PG w) h)
  rw [Heap.get?_push_size _ rfl] at ho
  cases ho
  have S1 := S.push emptyDict (SD w h.objs.size []) ⟨S.nosys, hd⟩
  have S2 := S1.push (instObj C h.objs.size) (IO C h.objs.size) rfl
  rw [Heap.size_push] at S2
  refine k' (h.objs.size + 1) h.objs.size _ (Heap.get?_none_of_le (Nat.le_succ _)) (fresh_at h) (S2.perm ?_) RM.make
  show (gl ++ ((h.objs.size + 1, IO C h.objs.size) :: (h.objs.size, SD w h.objs.size []) :: led)).Perm ((h.objs.size, SD w h.objs.size []) :: gl ++ ((h.objs.size + 1, IO C h.objs.size) :: led))
  have e1 : (gl ++ ((h.objs.size + 1, IO C h.objs.size) :: (h.objs.size, SD w h.objs.size []) :: led)).Perm (gl ++ ((h.objs.size, SD w h.objs.size []) :: (h.objs.size + 1, IO C h.objs.size) :: led)) := List.Perm.append_left _ (List.Perm.swap _ _ _)
  exact e1.trans List.perm_middle
end
end Mine

namespace Mine

abbrev Sub (x y : Heap) : Prop := ∀ a o, x.get? a = some o → y.get? a = some o

section
variable {w : World} {b : Heap} {f : Fm} {g : Heap} {m cm : Str → Option Value} {gl gl' gp gr led led' : Led} {h h' : Heap} {A : Around} {E : Value → Shared → Prop} {env : Env} {gs : Array GenState} {dr : Drawn} {tk : Nat} {os : OsState} {x : Str} {pos : Pos} {v : Value}
  {Q : Value → Shared → Prop} {QU : Unit → Shared → Prop} {a d dx C : Addr} {P P' : Obj → Prop} {name : Str}

theorem St.pass (S : St w b f g m cm (gp ++ gr) led h) (hm : (a, P) ∈ gr ++ led) : Ha (hideAll h (gp.map (·.1))) a P := by
  obtain ⟨⟨o, e, p⟩, _⟩ := S.at_ (a, P) (by rw [List.append_assoc]; exact List.mem_append_right _ hm)
  exact ⟨o, hideAll_get _ e (S.gpn (.inr (.inr (.inr (.inr (.inr ⟨_, hm, rfl⟩)))))), p⟩

/-- addresses that the frame does not speak of -/
structure Off (b : Heap) (f : Fm) (g : Heap) (gl led : Led) (a : Addr) : Prop where
  L : a ≠ f.L
  cl : ∀ p ∈ f.cl, p.2 ≠ a
  led : ∀ p ∈ gl ++ led, p.1 ≠ a

theorem St.off (S : St w b f g m cm gl led h) {wr : List Addr} (k : ∀ a o, a ∉ wr → h.get? a = some o → h'.get? a = some o) (ho : ∀ a ∈ wr, Off b f g gl led a ∧ b.get? a = none ∧ f.e.get? a = none ∧ g.get? a = none) : St w b f g m cm gl led h' := by
  have nd : ∀ (y : Heap), (∀ a ∈ wr, y.get? a = none) → Sub y h → Sub y h' := fun y ny ky a o e => k a o (fun hm => by rw [ny a hm] at e; cases e) (ky _ _ e)
  obtain ⟨oL, es, ep, hL, r⟩ := S.ns
  refine { S with ns := ⟨oL, es, ep, k _ _ (fun hm => (ho _ hm).1.L rfl) hL, r⟩, kb := nd _ (fun a hm => (ho a hm).2.1) S.kb, ke := nd _ (fun a hm => (ho a hm).2.2.1) S.ke, kg := nd _ (fun a hm => (ho a hm).2.2.2) S.kg, cell := fun p hp => ?_, at_ := fun p hp => ?_ }
  · obtain ⟨oc, hc, hd⟩ := S.cell p hp
    exact ⟨oc, k _ _ (fun hm => (ho _ hm).1.cl p hp rfl) hc, hd⟩
  · obtain ⟨⟨y, y1, y2⟩, z⟩ := S.at_ p hp
    exact ⟨⟨y, k _ _ (fun hm => (ho _ hm).1.led p hp rfl) y1, y2⟩, z⟩

def keepAll (f : Fm) (gl led : Led) (h : Heap) : Heap := hideAll h (f.L :: (f.cl.map (·.2) ++ (gl ++ led).map (·.1)))

/-- all that the frame does not speak of is to stay -/
theorem St.prot (S : St w b f g m cm gl led h) : St w b ⟨f.L, f.cl, keepAll f gl led h⟩ g m cm gl led h ∧ Sub f.e (keepAll f gl led h) ∧ ∀ a o, h.get? a = some o → Off b f g gl led a → (keepAll f gl led h).get? a = some o := by
  have inn : ∀ a, a = f.L ∨ (∃ p ∈ f.cl, p.2 = a) ∨ (∃ p ∈ gl ++ led, p.1 = a) → a ∈ f.L :: (f.cl.map (·.2) ++ (gl ++ led).map (·.1)) := fun a ha => by
    rcases ha with rfl | ⟨p, hp, rfl⟩ | ⟨p, hp, rfl⟩
    · exact .head _
    · exact .tail _ (List.mem_append_left _ (List.mem_map_of_mem hp))
    · exact .tail _ (List.mem_append_right _ (List.mem_map_of_mem hp))
  have off : ∀ a, Off b f g gl led a → a ∉ f.L :: (f.cl.map (·.2) ++ (gl ++ led).map (·.1)) := fun a O hm => by
    rcases List.mem_cons.mp hm with q | hm
    · exact O.L q
    · rcases List.mem_append.mp hm with hm | hm
      · obtain ⟨p, hp, q⟩ := List.mem_map.mp hm; exact O.cl p hp q
      · obtain ⟨p, hp, q⟩ := List.mem_map.mp hm; exact O.led p hp q
  refine ⟨{ S with ke := fun a o e => of_hideAll _ e, nL := ⟨hideAll_none _ (inn _ (.inl rfl)), S.nL.2⟩, cfr := fun p hp => ?_, at_ := fun p hp => ?_ }, fun a o e => ?_, fun a o e O => hideAll_get _ e (off a O)⟩
  · have x := S.cfr p hp
    exact ⟨x.1, x.2.1, hideAll_none _ (inn _ (.inr (.inl ⟨p, hp, rfl⟩))), x.2.2.2⟩
  · have x := S.at_ p hp
    exact ⟨x.1, x.2.1, x.2.2.1, hideAll_none _ (inn _ (.inr (.inr ⟨p, hp, rfl⟩))), x.2.2.2.2⟩
  · refine hideAll_get _ (S.ke _ _ e) (off a ⟨fun q => ?_, fun p hp q => ?_, fun p hp q => ?_⟩)
    · have := S.nL.1; rw [← q, e] at this; cases this
    · have := (S.cfr p hp).2.2.1; rw [q, e] at this; cases this
    · have := (S.at_ p hp).2.2.2.1; rw [q, e] at this; cases this

theorem St.unprot {e' : Heap} (S : St w b ⟨f.L, f.cl, e'⟩ g m cm gl led h) (k : Sub f.e e') : St w b f g m cm gl led h :=
  { S with
    ke := fun a o e => S.ke _ _ (k _ _ e)
    nL := ⟨none_of_le k S.nL.1, S.nL.2⟩
    cfr := fun p hp => let x := S.cfr p hp; ⟨x.1, x.2.1, none_of_le k x.2.2.1, x.2.2.2⟩
    at_ := fun p hp => let x := S.at_ p hp; ⟨x.1, x.2.1, x.2.2.1, none_of_le k x.2.2.2.1, x.2.2.2.2⟩ }

theorem Gle.unprot {e e' g g' : Heap} (G : Gle e' g g') (k : Sub e e') : Gle e g g' := ⟨G.1, fun a o x => (G.2 a o x).imp id fun z => none_of_le k z⟩

theorem St.off_of_e (S : St w b f g m cm gl led h) {o : Obj} (e : f.e.get? a = some o) : Off b f g gl led a :=
  ⟨fun q => (by have := S.nL.1; rw [← q, e] at this; cases this), fun p hp q => (by have := (S.cfr p hp).2.2.1; rw [q, e] at this; cases this), fun p hp q => (by have := (S.at_ p hp).2.2.2.1; rw [q, e] at this; cases this)⟩
theorem St.off_of_g (S : St w b f g m cm gl led h) {o : Obj} (e : g.get? a = some o) : Off b f g gl led a :=
  ⟨fun q => (by have := S.nL.2; rw [← q, e] at this; cases this), fun p hp q => (by have := (S.cfr p hp).2.2.2.1; rw [q, e] at this; cases this), fun p hp q => (by have := (S.at_ p hp).2.2.2.2; rw [q, e] at this; cases this)⟩
theorem St.off_fresh (S : St w b f g m cm gl led h) (e : h.get? a = none) : Off b f g gl led a := by
  obtain ⟨oL, _, _, hL, _⟩ := S.ns
  refine ⟨fun q => (by rw [q, hL] at e; cases e), fun p hp q => ?_, fun p hp q => ?_⟩
  · obtain ⟨oc, hc, _⟩ := S.cell p hp
    rw [q, e] at hc; cases hc
  · obtain ⟨⟨y, y1, _⟩, _⟩ := S.at_ p hp
    rw [q, e] at y1; cases y1

def LoopEnd (w : World) (b : Heap) (f : Fm) (e' : Heap) (gs : Array GenState) (dr : Drawn) (os : OsState) (J : Heap → (Str → Option Value) → (Str → Option Value) → Led → Led → Prop) (s : Shared) : Prop :=
  ∃ g m cm gl led h tk, s = ⟨h, gs, dr, tk, os⟩ ∧ St w b ⟨f.L, f.cl, e'⟩ g m cm gl led h ∧ J g m cm gl led
def LoopPost (w : World) (b : Heap) (f : Fm) (e' : Heap) (gs : Array GenState) (dr : Drawn) (os : OsState) (J : Heap → (Str → Option Value) → (Str → Option Value) → Led → Led → Prop) (R : Result → Shared → Prop) (fl : Flow) (s : Shared) : Prop :=
  match fl with
  | .next => LoopEnd w b f e' gs dr os J s
  | .cont => LoopEnd w b f e' gs dr os J s
  | .brk => R (.ok .next) s
  | .ret v => R (.ok (.ret v)) s

theorem z_loopW {R : Result → Shared → Prop} {target : Expr} {body : List Stmt} {I : Addr} {fp wr : List Addr} {n : Nat} {PI : Nat → Value → Prop} {Sw : Nat → Heap → Prop} (W : Walks PG w A I fp wr n PI Sw)
    (S : St w b f g m cm gl led h) (hfp : ∀ a ∈ fp, (∃ o, h.get? a = some o) ∧ Off b f g gl led a) (hwr : ∀ a ∈ wr, b.get? a = none ∧ f.e.get? a = none ∧ g.get? a = none) (st0 : Sw 0 h) (hsw : ∀ i (h : Heap), Sw i h → ∀ a ∈ wr, ∃ o, h.get? a = some o)
    (hown : ∀ v (h : Heap) tk (Q' : Unit → Shared → Prop) (E' : Value → Shared → Prop), (∃ i, Sw i h) → Q' () ⟨h, gs, dr, tk, os⟩ → wpAny (model PG w) A (letOwnedTupleGo target (.ref I) v) Q' E' ⟨h, gs, dr, tk, os⟩)
    (J : Nat → Heap → (Str → Option Value) → (Str → Option Value) → Led → Led → Prop) (j0 : J 0 g m cm gl led)
    (turn : ∀ i v e' g₁ m₁ cm₁ gl₁ led₁ h₁ tk₁, i < n → PI i v → J i g₁ m₁ cm₁ gl₁ led₁ → Sub f.e e' → Gle f.e g g₁ → St w b ⟨f.L, f.cl, e'⟩ g₁ m₁ cm₁ gl₁ led₁ h₁ →
      wpAny (model PG w) A (assign target env v) (fun _ s₂ => wpAny (model PG w) A (execs body env) (LoopPost w b f e' gs dr os (fun g₂ m₂ cm₂ gl₂ led₂ => Gle e' g₁ g₂ ∧ J (i + 1) g₂ m₂ cm₂ gl₂ led₂) R) (fun _ _ => False) s₂) (fun _ _ => False) ⟨h₁, gs, dr, tk₁, os⟩)
    (done : ∀ g₁ m₁ cm₁ gl₁ led₁ h₁ tk₁, J n g₁ m₁ cm₁ gl₁ led₁ → Gle f.e g g₁ → St w b f g₁ m₁ cm₁ gl₁ led₁ h₁ → R (.ok .next) ⟨h₁, gs, dr, tk₁, os⟩) :
    codeAny (model PG w) A (.forLoop target (.ref I) body [] env) R ⟨h, gs, dr, tk, os⟩ := by
  refine codeAny_forLoop_any (fun k s' => ∃ i g₁ m₁ cm₁ gl₁ led₁ h₁ tk₁, s' = ⟨h₁, gs, dr, tk₁, os⟩ ∧ i ≤ n ∧ k = n - i ∧ St w b f g₁ m₁ cm₁ gl₁ led₁ h₁ ∧ J i g₁ m₁ cm₁ gl₁ led₁ ∧ Sw i h₁ ∧ Gle f.e g g₁ ∧
      (∀ a ∈ fp, (∃ o, h₁.get? a = some o) ∧ Off b f g₁ gl₁ led₁ a) ∧ (∀ a ∈ wr, b.get? a = none ∧ f.e.get? a = none ∧ g₁.get? a = none)) ?_ n ⟨0, g, m, cm, gl, led, h, tk, rfl, Nat.zero_le _, rfl, S, j0, st0, Gle.refl _ _, hfp, hwr⟩
  rintro k s' ⟨i, g₁, m₁, cm₁, gl₁, led₁, h₁, tk₁, rfl, hi, rfl, S₁, hJ, hst, G₁, hf₁, hw₁⟩
  rcases Nat.lt_or_ge i n with hlt | hge
  · refine W.item i ⟨h₁, gs, dr, tk₁, os⟩ _ _ hlt hst fun v h₂ tk₂ hP hst₂ hk₂ => ?_
    have S₂ : St w b f g₁ m₁ cm₁ gl₁ led₁ h₂ := S₁.off (fun a o hn e => hk₂ a o hn e) fun a ha => ⟨(hf₁ a (W.sub a ha)).2, hw₁ a ha⟩
    obtain ⟨S₃, k₃, k₃'⟩ := S₂.prot
    refine hown v h₂ tk₂ _ _ ⟨_, hst₂⟩ ?_
    refine wpAny_mono (turn i v _ g₁ m₁ cm₁ gl₁ led₁ h₂ tk₂ hlt hP hJ k₃ G₁ S₃) (fun _ s₂ h₂' => ?_) fun _ _ z => z.elim
    refine wpAny_mono h₂' (fun fl s₃ hp => ?_) fun _ _ z => z.elim
    have fin : LoopEnd w b f (keepAll f gl₁ led₁ h₂) gs dr os (fun g₂ m₂ cm₂ gl₂ led₂ => Gle (keepAll f gl₁ led₁ h₂) g₁ g₂ ∧ J (i + 1) g₂ m₂ cm₂ gl₂ led₂) s₃ → ∃ m, m < n - i ∧ ∃ i g₁ m₁ cm₁ gl₁ led₁ h₁ tk₁, s₃ = ⟨h₁, gs, dr, tk₁, os⟩ ∧ i ≤ n ∧ m = n - i ∧ St w b f g₁ m₁ cm₁ gl₁ led₁ h₁ ∧ J i g₁ m₁ cm₁ gl₁ led₁ ∧ Sw i h₁ ∧ Gle f.e g g₁ ∧
        (∀ a ∈ fp, (∃ o, h₁.get? a = some o) ∧ Off b f g₁ gl₁ led₁ a) ∧ (∀ a ∈ wr, b.get? a = none ∧ f.e.get? a = none ∧ g₁.get? a = none) := by
      rintro ⟨g₄, m₄, cm₄, gl₄, led₄, h₄, tk₄, rfl, S₄, G₄, J₄⟩
      have fpk : ∀ a ∈ fp, ∀ o, h₂.get? a = some o → (keepAll f gl₁ led₁ h₂).get? a = some o := fun a ha o e => k₃' a o e (hf₁ a ha).2
      have fps : ∀ a ∈ fp, ∃ o, h₂.get? a = some o := fun a ha => by
        by_cases hw : a ∈ wr
        · exact hsw _ _ hst₂ a hw
        · obtain ⟨⟨o, e⟩, _⟩ := hf₁ a ha
          exact ⟨o, hk₂ a o hw e⟩
      refine ⟨n - (i + 1), by omega, i + 1, g₄, m₄, cm₄, gl₄, led₄, h₄, tk₄, rfl, hlt, rfl, S₄.unprot k₃, J₄, W.frame _ _ _ hst₂ fun a ha o e => S₄.ke _ _ (fpk a ha o e), G₁.trans (G₄.unprot k₃), fun a ha => ?_, fun a ha => ?_⟩
      · obtain ⟨o, e⟩ := fps a ha
        have e' := fpk a ha o e
        refine ⟨⟨o, S₄.ke _ _ e'⟩, ?_⟩
        have O := S₄.off_of_e (a := a) e'
        exact ⟨O.L, O.cl, O.led⟩
      · refine ⟨(hw₁ a ha).1, (hw₁ a ha).2.1, ?_⟩
        obtain ⟨o, e⟩ := fps a (W.sub a ha)
        cases q : g₄.get? a with
        | none => rfl
        | some o' =>
          rcases G₄.2 a o' q with z | z
          · rw [(hw₁ a ha).2.2] at z; cases z
          · rw [fpk a (W.sub a ha) o e] at z; cases z
    cases fl with
    | next => exact fin hp
    | cont => exact fin hp
    | brk => exact hp
    | ret v => exact hp
  · obtain rfl : i = n := Nat.le_antisymm hi hge
    refine W.done ⟨h₁, gs, dr, tk₁, os⟩ _ _ hst fun h₂ tk₂ hk₂ => ?_
    have S₂ : St w b f g₁ m₁ cm₁ gl₁ led₁ h₂ := S₁.off (fun a o hn e => hk₂ a o hn e) fun a ha => ⟨(hf₁ a (W.sub a ha)).2, hw₁ a ha⟩
    exact wpAny_execs_nil (done _ _ _ _ _ _ _ hJ G₁ S₂)
end
end Mine

namespace Mine

section
variable {w : World} {b : Heap} {f : Fm} {g : Heap} {m cm : Str → Option Value} {gl gl' gp gr led led' : Led} {h h' : Heap} {A : Around} {E : Value → Shared → Prop} {env : Env} {gs : Array GenState} {dr : Drawn} {tk : Nat} {os : OsState} {x : Str} {pos : Pos} {v : Value}
  {Q : Value → Shared → Prop} {QU : Unit → Shared → Prop} {a d dx C : Addr} {P P' : Obj → Prop} {name : Str}

/-- what was protected comes back onto the ledger -/
theorem St.readd {e' : Heap} (S : St w b ⟨f.L, f.cl, e'⟩ g m cm gl led h) (k : Sub f.e e') (he : Ha e' a P) (hb : b.get? a = none) (hf : f.e.get? a = none) (hg : g.get? a = none) : St w b f g m cm gl ((a, P) :: led) h := by
  have S' := S.unprot k
  obtain ⟨o, e, p⟩ := he
  have O := S.off_of_e (a := a) e
  have hh := S.ke _ _ e
  refine { S' with cfr := fun c hc => ?_, at_ := fun q hq => ?_, nd := ?_ }
  · have y := S'.cfr c hc
    refine ⟨y.1, y.2.1, y.2.2.1, y.2.2.2.1, fun q hq => ?_⟩
    rcases mem_ins.mp hq with rfl | hq
    · exact (O.cl c hc).symm
    · exact y.2.2.2.2 q hq
  · rcases mem_ins.mp hq with rfl | hq
    · exact ⟨⟨o, hh, p⟩, O.L, hb, hf, hg⟩
    · exact S'.at_ q hq
  · rw [List.map_append, List.map_cons, nodup_ins, ← List.map_append]
    refine ⟨fun hm => ?_, S'.nd⟩
    obtain ⟨q, hq, z⟩ := List.mem_map.mp hm
    exact O.led q hq z

def CompEnd (w : World) (b : Heap) (C : Addr) (e' : Heap) (gs : Array GenState) (dr : Drawn) (os : OsState) (J : Heap → Led → Prop) (s : Shared) : Prop :=
  ∃ g m gl led h tk, s = ⟨h, gs, dr, tk, os⟩ ∧ St w b ⟨C, [], e'⟩ g m (fun _ => none) gl led h ∧ J g gl

/-- the tests of a comprehension's clause -/
def tests (ifs : List Expr) (env : Env) : Sem Bool := forIn ifs true fun c r => if r = true then do let ok ← isTrue c env (eval c env); pure (ForInStep.yield ok) else pure (ForInStep.yield r)
theorem tests_nil {QB : Bool → Shared → Prop} {s : Shared} (k : QB true s) : wpAny (model PG w) A (tests [] env) QB E s := wpAny_pure k
theorem tests_one {c : Expr} {QB : Bool → Shared → Prop} {s : Shared} (k : wpAny (model PG w) A (isTrue c env (eval c env)) QB E s) : wpAny (model PG w) A (tests [c] env) QB E s := by
  unfold tests
  rw [List.forIn_cons]
  refine wpAny_bind ?_
  rw [if_pos rfl]
  refine wpAny_bind (wpAny_mono k (fun ok s' h' => wpAny_pure ?_) fun _ _ z => z)
  dsimp only
  rw [List.forIn_nil]
  exact wpAny_pure h'

theorem comp_loop {elt iter : Expr} {px : Pos} {ifs : List Expr} {scope : Scope} {R : Result → Shared → Prop} {cenv : Env} {C D I : Addr} {fp wr : List Addr} {n : Nat} {PI : Nat → Value → Prop} {Sw : Nat → Heap → Prop} {eh : Heap}
    (W : Walks PG w A I fp wr n PI Sw) (hsz : n ≤ sizeLine) (hC : cenv.locals = C) (hk : cenv.scope.kind = .function) (hx : cenv.kindOf x = some .local)
    (S : St w b ⟨C, [], eh⟩ g m (fun _ => none) gl [(D, LO [])] h)
    (hfp : ∀ a ∈ fp, (∃ o, h.get? a = some o) ∧ Off b ⟨C, [], eh⟩ g gl [(D, LO [])] a) (hwr : ∀ a ∈ wr, b.get? a = none ∧ eh.get? a = none ∧ g.get? a = none) (st0 : Sw 0 h) (hsw : ∀ i (h : Heap), Sw i h → ∀ a ∈ wr, ∃ o, h.get? a = some o)
    (J : Nat → List Value → Heap → Led → Prop) (j0 : J 0 [] g gl) (hlen : ∀ i ys g gl, J i ys g gl → ys.length ≤ i)
    (turn : ∀ i v e' ys g₁ (m₁ : Str → Option Value) gl₁ h₁ tk₁, i < n → PI i v → J i ys g₁ gl₁ → Sub eh e' → Gle eh g g₁ → St w b ⟨C, [], e'⟩ g₁ (fun y => if y = x then some v else m₁ y) (fun _ => none) gl₁ [] h₁ →
      wpAny (model PG w) A (tests ifs cenv) (fun ok s₂ => if ok = true then wpAny (model PG w) A (eval elt cenv) (fun y s₃ => CompEnd w b C e' gs dr os (fun g₂ gl₂ => Gle e' g₁ g₂ ∧ J (i + 1) (ys ++ [y]) g₂ gl₂) s₃) (fun _ _ => False) s₂
        else CompEnd w b C e' gs dr os (fun g₂ gl₂ => Gle e' g₁ g₂ ∧ J (i + 1) ys g₂ gl₂) s₂) (fun _ _ => False) ⟨h₁, gs, dr, tk₁, os⟩)
    (done : ∀ ys g₁ m₁ gl₁ h₁ tk₁, J n ys g₁ gl₁ → Gle eh g g₁ → St w b ⟨C, [], eh⟩ g₁ m₁ (fun _ => none) gl₁ [(D, LO ys)] h₁ → R (.ok .next) ⟨h₁, gs, dr, tk₁, os⟩) :
    codeAny (model PG w) A (.compLoop (.ListComp elt [⟨.Name x px, iter, ifs, 0⟩] scope pos) 0 (.ref I) (.ref D) cenv) R ⟨h, gs, dr, tk, os⟩ := by
  refine codeAny_compLoop_tests (fun k s' => ∃ i ys g₁ m₁ gl₁ h₁ tk₁, s' = ⟨h₁, gs, dr, tk₁, os⟩ ∧ i ≤ n ∧ k = n - i ∧ St w b ⟨C, [], eh⟩ g₁ m₁ (fun _ => none) gl₁ [(D, LO ys)] h₁ ∧ J i ys g₁ gl₁ ∧ Sw i h₁ ∧ Gle eh g g₁ ∧
      (∀ a ∈ fp, (∃ o, h₁.get? a = some o) ∧ Off b ⟨C, [], eh⟩ g₁ gl₁ [(D, LO ys)] a) ∧ (∀ a ∈ wr, b.get? a = none ∧ eh.get? a = none ∧ g₁.get? a = none)) ?_ n ⟨0, [], g, m, gl, h, tk, rfl, Nat.zero_le _, rfl, S, j0, st0, Gle.refl _ _, hfp, hwr⟩
  rintro k s' ⟨i, ys, g₁, m₁, gl₁, h₁, tk₁, rfl, hi, rfl, S₁, hJ, hst, G₁, hf₁, hw₁⟩
  rcases Nat.lt_or_ge i n with hlt | hge
  · refine W.item i ⟨h₁, gs, dr, tk₁, os⟩ _ _ hlt hst fun v h₂ tk₂ hP hst₂ hk₂ => ?_
    have S₂ : St w b ⟨C, [], eh⟩ g₁ m₁ (fun _ => none) gl₁ [(D, LO ys)] h₂ := S₁.off (fun a o hn e => hk₂ a o hn e) fun a ha => ⟨(hf₁ a (W.sub a ha)).2, hw₁ a ha⟩
    refine wpAny_assign_Name (wpAny_storeName_local hx (by rw [hC]; exact S₂.ns) (fun h₃ hn₃ hs₃ => ?_) (by rw [hk]; rfl))
    rw [hC] at hn₃ hs₃
    have S₃ := S₂.locals hn₃ hs₃
    have fps : ∀ a ∈ fp, ∃ o, h₂.get? a = some o := fun a ha => by
      by_cases hw : a ∈ wr
      · exact hsw _ _ hst₂ a hw
      · obtain ⟨⟨o, e⟩, _⟩ := hf₁ a ha
        exact ⟨o, hk₂ a o hw e⟩
    have fp3 : ∀ a ∈ fp, ∀ o, h₂.get? a = some o → h₃.get? a = some o := fun a ha o e => (hs₃.2 a (hf₁ a ha).2.L).trans e
    have hst₃ : Sw (i + 1) h₃ := W.frame _ _ _ hst₂ fp3
    obtain ⟨S₄, k₄, k₄'⟩ := S₃.forget.prot
    have offD : Off b ⟨C, [], eh⟩ g₁ gl₁ [] D := by
      have x := S₃.at_ (D, LO ys) (List.mem_append_right _ (.head _))
      refine ⟨x.2.1, fun p hp => (nomatch hp), fun p hp q => ?_⟩
      have n := S₃.nd
      rw [List.append_nil] at hp
      rw [List.map_append] at n
      exact (List.nodup_append.mp n).2.2 _ (List.mem_map_of_mem hp) _ (List.mem_map_of_mem (List.Mem.head _)) q
    have hD₄ : Ha (keepAll ⟨C, [], eh⟩ gl₁ [] h₃) D (LO ys) := by
      obtain ⟨o, e, p⟩ := S₃.ha (a := D) (P := LO ys) (.head _)
      exact ⟨o, k₄' _ _ e offD, p⟩
    have off0 : ∀ a ∈ fp, Off b ⟨C, [], eh⟩ g₁ gl₁ [] a := fun a ha => ⟨(hf₁ a ha).2.L, (hf₁ a ha).2.cl, fun p hp => (hf₁ a ha).2.led p (by rw [List.append_nil] at hp; exact List.mem_append_left _ hp)⟩
    have fpk : ∀ a ∈ fp, ∀ o, h₃.get? a = some o → (keepAll ⟨C, [], eh⟩ gl₁ [] h₃).get? a = some o := fun a ha o e => k₄' a o e (off0 a ha)
    have xD := S₃.at_ (D, LO ys) (List.mem_append_right _ (.head _))
    have neD : ∀ a ∈ fp, D ≠ a := fun a ha => (hf₁ a ha).2.led (D, LO ys) (List.mem_append_right _ (.head _))
    -- behind an element, or none
    have fin : ∀ (zs : List Value) (g₄ : Heap) (m₄ : Str → Option Value) (gl₄ : Led) (h₄ : Heap) (tk₄ : Nat), St w b ⟨C, [], eh⟩ g₄ m₄ (fun _ => none) gl₄ [(D, LO zs)] h₄ → Gle (keepAll ⟨C, [], eh⟩ gl₁ [] h₃) g₁ g₄ → J (i + 1) zs g₄ gl₄ → (∀ a ∈ fp, ∀ o, h₃.get? a = some o → h₄.get? a = some o) → (∀ a ∈ fp, ∀ p ∈ gl₄, p.1 ≠ a) →
        ∃ mm, mm < n - i ∧ ∃ i ys g₁ m₁ gl₁ h₁ tk₁, (⟨h₄, gs, dr, tk₄, os⟩ : Shared) = ⟨h₁, gs, dr, tk₁, os⟩ ∧ i ≤ n ∧ mm = n - i ∧ St w b ⟨C, [], eh⟩ g₁ m₁ (fun _ => none) gl₁ [(D, LO ys)] h₁ ∧ J i ys g₁ gl₁ ∧ Sw i h₁ ∧ Gle eh g g₁ ∧
          (∀ a ∈ fp, (∃ o, h₁.get? a = some o) ∧ Off b ⟨C, [], eh⟩ g₁ gl₁ [(D, LO ys)] a) ∧ (∀ a ∈ wr, b.get? a = none ∧ eh.get? a = none ∧ g₁.get? a = none) := by
      intro zs g₄ m₄ gl₄ h₄ tk₄ S₆ G₄ J₄ kf og
      refine ⟨n - (i + 1), by omega, i + 1, zs, g₄, m₄, gl₄, h₄, tk₄, rfl, hlt, rfl, S₆, J₄, W.frame _ _ _ hst₃ kf, G₁.trans ⟨G₄.1, fun a o x => (G₄.2 a o x).imp id fun z => none_of_le k₄ z⟩, fun a ha => ?_, fun a ha => ?_⟩
      · obtain ⟨o, e⟩ := fps a ha
        refine ⟨⟨o, kf a ha o (fp3 a ha o e)⟩, (hf₁ a ha).2.L, fun p hp => (nomatch hp), fun p hp => ?_⟩
        rcases List.mem_append.mp hp with hp | hp
        · exact og a ha p hp
        · rw [List.mem_singleton.mp hp]; exact neD a ha
      · refine ⟨(hw₁ a ha).1, (hw₁ a ha).2.1, ?_⟩
        obtain ⟨o, e⟩ := fps a (W.sub a ha)
        cases q : g₄.get? a with
        | none => rfl
        | some o' =>
          rcases G₄.2 a o' q with z | z
          · rw [(hw₁ a ha).2.2] at z; cases z
          · rw [fpk a (W.sub a ha) o (fp3 a (W.sub a ha) o e)] at z; cases z
    have back : ∀ (zs : List Value), CompEnd w b C (keepAll ⟨C, [], eh⟩ gl₁ [] h₃) gs dr os (fun g₂ gl₂ => Gle (keepAll ⟨C, [], eh⟩ gl₁ [] h₃) g₁ g₂ ∧ J (i + 1) zs g₂ gl₂) = CompEnd w b C (keepAll ⟨C, [], eh⟩ gl₁ [] h₃) gs dr os (fun g₂ gl₂ => Gle (keepAll ⟨C, [], eh⟩ gl₁ [] h₃) g₁ g₂ ∧ J (i + 1) zs g₂ gl₂) := fun _ => rfl
    have gD : ∀ g₄, Gle (keepAll ⟨C, [], eh⟩ gl₁ [] h₃) g₁ g₄ → g₄.get? D = none := fun g₄ G₄ => by
      cases q : g₄.get? D with
      | none => rfl
      | some o' =>
        obtain ⟨o, e, _⟩ := hD₄
        rcases G₄.2 D o' q with z | z
        · rw [xD.2.2.2.2] at z; cases z
        · rw [e] at z; cases z
    refine wpAny_mono (turn i v _ ys g₁ m₁ gl₁ h₃ (tk₂ + 1) hlt hP hJ k₄ G₁ S₄) (fun ok s₂ hp => ?_) fun _ _ z => z.elim
    cases ok with
    | false =>
      obtain ⟨g₄, m₄, gl₄, led₄, h₄, tk₄, rfl, S₅, G₄, J₄⟩ := hp
      have S₆ := (St.readd (f := ⟨C, [], eh⟩) S₅.forget k₄ hD₄ xD.2.2.1 xD.2.2.2.1 (gD g₄ G₄))
      exact fin ys g₄ m₄ gl₄ h₄ tk₄ S₆ G₄ J₄ (fun a ha o e => S₅.ke _ _ (fpk a ha o e)) fun a ha p hp => by
        obtain ⟨o, e⟩ := fps a ha
        exact (S₅.off_of_e (a := a) (fpk a ha o (fp3 a ha o e))).led p (List.mem_append_left _ hp)
    | true =>
      refine wpAny_mono hp (fun y s₃ hp => ?_) fun _ _ z => z.elim
      obtain ⟨g₄, m₄, gl₄, led₄, h₄, tk₄, rfl, S₅, G₄, J₄⟩ := hp
      have S₆ := (St.readd (f := ⟨C, [], eh⟩) S₅.forget k₄ hD₄ xD.2.2.1 xD.2.2.2.1 (gD g₄ G₄))
      have hys : ys.length ≤ sizeLine := Nat.le_trans (hlen _ _ _ _ hJ) (Nat.le_trans hi hsz)
      obtain ⟨o, e, nn, rfl⟩ := S₆.ha (a := D) (.head _)
      refine append_at (hsz := by rw [List.size_toArray]; exact hys) e fun h₅ hs₅ ho₅ => ?_
      have S₇ := S₆.upd (h' := h₅) (o' := LO (ys ++ [y])) .here (fun c o hc e => (hs₅.2 c hc).trans e) ⟨_, ho₅, nn + 1, by simp⟩
      exact fin (ys ++ [y]) g₄ m₄ gl₄ h₅ tk₄ S₇ G₄ J₄ (fun a ha o e => (hs₅.2 a (neD a ha).symm).trans (S₅.ke _ _ (fpk a ha o e))) fun a ha p hp => by
        obtain ⟨o, e⟩ := fps a ha
        exact (S₅.off_of_e (a := a) (fpk a ha o (fp3 a ha o e))).led p (List.mem_append_left _ hp)
  · obtain rfl : i = n := Nat.le_antisymm hi hge
    refine W.done ⟨h₁, gs, dr, tk₁, os⟩ _ _ hst fun h₂ tk₂ hk₂ => ?_
    exact done _ _ _ _ _ _ hJ G₁ (S₁.off (fun a o hn e => hk₂ a o hn e) fun a ha => ⟨(hf₁ a (W.sub a ha)).2, hw₁ a ha⟩)
end
end Mine

namespace Mine

section
variable {w : World} {b : Heap} {f : Fm} {g : Heap} {m cm : Str → Option Value} {gl gl' gp gr led led' : Led} {h h' : Heap} {A : Around} {E : Value → Shared → Prop} {env : Env} {gs : Array GenState} {dr : Drawn} {tk : Nat} {os : OsState} {x y : Str} {pos : Pos} {v : Value}
  {Q : Value → Shared → Prop} {QU : Unit → Shared → Prop} {a d dx C : Addr} {P P' : Obj → Prop} {name : Str}

theorem St.claim (S : St w b f g m cm gl led h) (H : Ha h a P) (O : Off b f g gl led a) (hb : b.get? a = none) (hf : f.e.get? a = none) (hg : g.get? a = none) : St w b f g m cm gl ((a, P) :: led) h := by
  refine { S with cfr := fun c hc => ?_, at_ := fun q hq => ?_, nd := ?_ }
  · have y := S.cfr c hc
    refine ⟨y.1, y.2.1, y.2.2.1, y.2.2.2.1, fun q hq => ?_⟩
    rcases mem_ins.mp hq with rfl | hq
    · exact (O.cl c hc).symm
    · exact y.2.2.2.2 q hq
  · rcases mem_ins.mp hq with rfl | hq
    · exact ⟨H, O.L, hb, hf, hg⟩
    · exact S.at_ q hq
  · rw [List.map_append, List.map_cons, nodup_ins, ← List.map_append]
    refine ⟨fun hm => ?_, S.nd⟩
    obtain ⟨q, hq, z⟩ := List.mem_map.mp hm
    exact O.led q hq z

theorem enterSt2 (S : St w b f g m cm gl led h) {m' : Str → Option Value} {L' : Addr} (hL : h.get? L' = none) (hL2 : h.objs.size ≤ L') {h₁ : Heap} (hns : h₁.Ns L' m') (hk : Sub h h₁) :
    St w b ⟨L', [], hideAll h (gl.map (·.1))⟩ g m' (fun _ => none) gl [] h₁ := by
  refine { bs := S.bs, ns := hns, kb := fun a o e => hk _ _ (S.kb _ _ e), bL := ?_, ke := fun a o e => hk _ _ (of_hideAll _ e), kg := fun a o e => hk _ _ (S.kg _ _ e), nL := ⟨?_, ?_⟩, cell := fun p hp => (nomatch hp), cfr := fun p hp => (nomatch hp), cap := .nil, at_ := fun p hp => ?_, nd := ?_ }
  · exact Nat.le_trans S.bL (Nat.le_trans (Nat.le_of_lt S.ns.lt) hL2)
  · exact none_of_le (fun a o e => of_hideAll _ e) hL
  · exact none_of_le S.kg hL
  · rw [List.append_nil] at hp
    obtain ⟨⟨y, y1, y2⟩, z⟩ := S.at_ p (List.mem_append_left _ hp)
    exact ⟨⟨y, hk _ _ y1, y2⟩, fun q => (by have q' : p.1 = L' := q; rw [q', hL] at y1; cases y1), z.2.1, hideAll_none _ (List.mem_map_of_mem hp), z.2.2.2⟩
  · rw [List.append_nil]
    have n := S.nd
    rw [List.map_append] at n
    exact (List.nodup_append.mp n).1

/-- behind a comprehension: the outer frame again -/
theorem comp_fin {g₁ : Heap} {m₁ : Str → Option Value} {gl₁ : Led} {D : Addr} {ys : List Value} (S : St w b f g m cm gl led h) (hC : h.get? C = none) (G : Gle (hideAll h (gl.map (·.1))) g g₁)
    (S' : St w b ⟨C, [], hideAll h (gl.map (·.1))⟩ g₁ m₁ (fun _ => none) gl₁ [(D, LO ys)] h') (hgl : gl₁.map (·.1) = gl.map (·.1)) :
    Gle f.e g g₁ ∧ St w b f g₁ m cm gl₁ ((D, LO ys) :: led) h' ∧ (∀ h'', Heap.SameBut C h' h'' → ∀ {m' : Str → Option Value}, St w b f g₁ m' cm gl₁ ((D, LO ys) :: led) h' → St w b f g₁ m' cm gl₁ ((D, LO ys) :: led) h'') ∧ C ≠ f.L := by
  have S0 : St w b f g m cm (gl ++ []) led h := by rw [List.append_nil]; exact S
  obtain ⟨G', S2⟩ := S0.back (gp := gl) (gr := []) (f' := ⟨C, [], hideAll h (gl.map (·.1))⟩) rfl G S' hgl
  rw [List.append_nil] at S2
  have O := S.off_fresh hC
  have gC : g₁.get? C = none := S'.nL.2
  have off : ∀ {m' : Str → Option Value}, Off b f g₁ gl₁ ((D, LO ys) :: led) C := fun {_} => ⟨O.L, O.cl, fun p hp => by
    rcases mem_ins.mp hp with rfl | hp
    · exact (S'.at_ (D, LO ys) (List.mem_append_right _ (.head _))).2.1
    · rcases List.mem_append.mp hp with hp | hp
      · exact (S'.at_ p (List.mem_append_left _ hp)).2.1
      · exact O.led p (List.mem_append_right _ hp)⟩
  refine ⟨G', S2, fun h'' hs m' S3 => S3.off (wr := [C]) (fun a o hn e => (hs.2 a (fun q => hn (by rw [q]; exact .head _))).trans e) fun a ha => ?_, O.L⟩
  rw [List.mem_singleton.mp ha]
  exact ⟨off (m' := m'), none_of_le S.kb hC, none_of_le S.ke hC, gC⟩

/-- a list's items, one after the other: what a comprehension does with them -/
def CompTurn (w : World) (b : Heap) (A : Around) (gs : Array GenState) (dr : Drawn) (os : OsState) (x : Str) (ifs : List Expr) (elt : Expr) (scope : Scope) (cl : List (Str × Addr)) (env : Env) (eh g : Heap) (n : Nat) (PI : Nat → Value → Prop) (J : Nat → List Value → Heap → Led → Prop) : Prop :=
  ∀ C i v e' ys g₁ (m₁ : Str → Option Value) gl₁ h₁ tk₁, i < n → PI i v → J i ys g₁ gl₁ → Sub eh e' → Gle eh g g₁ → St w b ⟨C, [], e'⟩ g₁ (fun y => if y = x then some v else m₁ y) (fun _ => none) gl₁ [] h₁ →
      wpAny (model PG w) A (tests ifs (compEnvC scope cl C env)) (fun ok s₂ => if ok = true then wpAny (model PG w) A (eval elt (compEnvC scope cl C env)) (fun y s₃ => CompEnd w b C e' gs dr os (fun g₂ gl₂ => Gle e' g₁ g₂ ∧ J (i + 1) (ys ++ [y]) g₂ gl₂) s₃) (fun _ _ => False) s₂
        else CompEnd w b C e' gs dr os (fun g₂ gl₂ => Gle e' g₁ g₂ ∧ J (i + 1) ys g₂ gl₂) s₂) (fun _ _ => False) ⟨h₁, gs, dr, tk₁, os⟩

theorem comp_block {elt iter : Expr} {px : Pos} {ifs : List Expr} {scope : Scope} {cl : List (Str × Addr)} {RR : Value → Addr → Result → Shared → Prop} {I : Addr} {fp wr : List Addr} {n : Nat} {PI : Nat → Value → Prop} {Sw : Nat → Heap → Prop}
    (S : St w b f g m cm gl led h) (hk : Sub h h') (hI : h.objs.size ≤ I) (hI2 : ∃ o, h'.get? I = some o) (hwI : wr = [I]) (W : Walks PG w A I fp wr n PI Sw) (hsz : n ≤ sizeLine) (st0 : Sw 0 h') (hsw : ∀ i (h : Heap), Sw i h → ∀ a ∈ wr, ∃ o, h.get? a = some o)
    (hfp : ∀ a ∈ fp, a = I ∨ (∃ o, h.get? a = some o) ∧ ∀ p ∈ gl, p.1 ≠ a)
    (hcell : ∀ y ∈ scope.names, y.2 ≠ .cell) (hkind : scope.kind = .function) (hx : scope.names.lookup x = some .local)
    (J : Nat → List Value → Heap → Led → Prop) (j0 : J 0 [] g gl) (hlen : ∀ i ys g gl, J i ys g gl → ys.length ≤ i)
    (turn : CompTurn w b A gs dr os x ifs elt scope cl env (hideAll h (gl.map (·.1))) g n PI J)
    (done : ∀ C D ys g₁ m₁ gl₁ h₁ tk₁, h.get? C = none → h.get? D = none → J n ys g₁ gl₁ → Gle (hideAll h (gl.map (·.1))) g g₁ → St w b ⟨C, [], hideAll h (gl.map (·.1))⟩ g₁ m₁ (fun _ => none) gl₁ [(D, LO ys)] h₁ → RR (.ref D) C (.ok .next) ⟨h₁, gs, dr, tk₁, os⟩) :
    wpAny (model PG w) A (newList []) (fun acc s₃ => wpAny (model PG w) A (newFunctionEnv scope env.globals cl [] env.qual none .none (some env)) (fun cenv s₄ =>
      codeAny (model PG w) A (.compStart (.ListComp elt [⟨.Name x px, iter, ifs, 0⟩] scope pos) 0 (.ref I) acc { cenv with scope := relabel scope env }) (RR acc cenv.locals) s₄) E s₃) E ⟨h', gs, dr, tk, os⟩ := by
  refine wpAny_newObj_type (wpAny_newFunctionEnv hcell (by intro y hy; simp at hy) (fun h₁ hns₁ hsb₁ => ?_) hkind)
  dsimp only at hns₁ hsb₁ ⊢
  generalize hH2 : h'.push { cls := .type "list", dict := none, data := .seq ([] : List Value).toArray } = H2 at hns₁ hsb₁ ⊢
  have hCs : H2.objs.size = h'.objs.size + 1 := by rw [← hH2, Heap.size_push]
  have le0 : h.objs.size ≤ h'.objs.size := by
    obtain ⟨o, e⟩ := hI2
    exact Nat.le_trans hI (Nat.le_of_lt (Heap.lt_size e))
  have upH : Sub h' H2 := fun a o e => by rw [← hH2]; exact Heap.get?_push_of_some _ e
  have up1 : Sub H2 h₁ := fun a o e => hsb₁.extBut a o (Nat.ne_of_lt (Heap.lt_size e)) (Heap.get?_push_of_some _ e)
  have hkk : Sub h h₁ := fun a o e => up1 _ _ (upH _ _ (hk _ _ e))
  have hC : h.get? H2.objs.size = none := Heap.get?_none_of_le (by rw [hCs]; omega)
  have S₀ := enterSt2 S (L' := H2.objs.size) hC (by rw [hCs]; omega) hns₁ hkk
  have hDh : h.get? h'.objs.size = none := Heap.get?_none_of_le le0
  have hD : h₁.get? h'.objs.size = some { cls := .type "list", dict := none, data := .seq ([] : List Value).toArray } := up1 _ _ (by rw [← hH2]; exact Heap.get?_push_size _ rfl)
  have Ih : h.get? I = none := Heap.get?_none_of_le hI
  obtain ⟨oI, hI3⟩ := hI2
  have ID : h'.objs.size ≠ I := Nat.ne_of_gt (Heap.lt_size hI3)
  have IC : I ≠ H2.objs.size := by rw [hCs]; exact Nat.ne_of_lt (Nat.lt_succ_of_lt (Heap.lt_size hI3))
  have gln : ∀ p ∈ gl, ∀ c, h.get? c = none → p.1 ≠ c := fun p hp c hc q => by
    obtain ⟨⟨y, y1, _⟩, _⟩ := S.at_ p (List.mem_append_left _ hp)
    rw [q, hc] at y1; cases y1
  have S₁ := S₀.claim (a := h'.objs.size) (P := LO []) ⟨_, hD, 0, rfl⟩ ⟨(by show h'.objs.size ≠ H2.objs.size; rw [hCs]; omega), fun p hp => (nomatch hp), fun p hp => gln p (by simpa using hp) _ hDh⟩ (none_of_le S.kb hDh) (none_of_le (fun a o e => of_hideAll _ e) hDh) (none_of_le S.kg hDh)
  have loop : ∀ s₃ : Shared, s₃ = ⟨h₁, gs, dr, tk + ([] : List (Str × Value)).length, os⟩ →
      codeAny (model PG w) A (.compLoop (.ListComp elt [⟨.Name x px, iter, ifs, 0⟩] scope pos) 0 (.ref I) (.ref h'.objs.size) (compEnvC scope cl H2.objs.size env)) (RR (.ref h'.objs.size) H2.objs.size) s₃ := by
    rintro s₃ rfl
    refine comp_loop (C := H2.objs.size) W hsz rfl (by simp [compEnvC, relabel, hkind]) (lookup_relabel_local hx) S₁ (fun a ha => ?_) (fun a ha => ?_) (W.frame _ _ _ st0 fun a ha o e => up1 _ _ (upH _ _ e)) hsw J j0 hlen (turn H2.objs.size) fun ys g₁ m₁ gl₁ h₁ tk₁ hJ hG hS => done _ _ ys g₁ m₁ gl₁ h₁ tk₁ hC hDh hJ hG hS
    · rcases hfp a ha with rfl | ⟨⟨o, e⟩, hg⟩
      · refine ⟨⟨oI, up1 _ _ (upH _ _ hI3)⟩, IC, fun p hp => (nomatch hp), fun p hp => ?_⟩
        rcases List.mem_append.mp hp with hp | hp
        · exact gln p hp _ Ih
        · rw [List.mem_singleton.mp hp]; exact ID
      · refine ⟨⟨o, hkk _ _ e⟩, fun q => (by have q' : a = H2.objs.size := q; rw [q', hC] at e; cases e), fun p hp => (nomatch hp), fun p hp => ?_⟩
        rcases List.mem_append.mp hp with hp | hp
        · exact hg p hp
        · rw [List.mem_singleton.mp hp]; intro q
          have q' : h'.objs.size = a := q
          rw [← q', hDh] at e; cases e
    · rw [hwI] at ha
      rw [List.mem_singleton.mp ha]
      exact ⟨none_of_le S.kb Ih, none_of_le (fun a o e => of_hideAll _ e) Ih, none_of_le S.kg Ih⟩
  exact codeAny_compStart_list (loop _ rfl) (W.self 0 _ _ _ (W.frame _ _ _ st0 fun a ha o e => up1 _ _ (upH _ _ e)) (loop _ rfl))
end
end Mine

namespace Mine

def CompK (w : World) (A : Around) (E : Value → Shared → Prop) (use : Option (Value → Sem Unit)) (Q : Value → Shared → Prop) (elt : Expr) (x : Str) (px : Pos) (iter : Expr) (ifs : List Expr) (scope : Scope) (pos : Pos) (cl : List (Str × Addr)) (env : Env) (it : Value) (s₂ : Shared) : Prop :=
  wpAny (model PG w) A (newList []) (fun acc s₃ => wpAny (model PG w) A (newFunctionEnv scope env.globals cl [] env.qual none .none (some env)) (fun cenv s₄ =>
      codeAny (model PG w) A (.compStart (.ListComp elt [⟨.Name x px, iter, ifs, 0⟩] scope pos) 0 it acc { cenv with scope := relabel scope env }) (compPost (model PG w) A E use Q acc cenv.locals) s₄) E s₃) E s₂

section
variable {w : World} {b : Heap} {f : Fm} {g : Heap} {m cm : Str → Option Value} {gl gl' gp gr led led' : Led} {h h' : Heap} {A : Around} {E : Value → Shared → Prop} {env : Env} {gs : Array GenState} {dr : Drawn} {tk : Nat} {os : OsState} {x y : Str} {pos px py spos : Pos} {v : Value}
  {Q : Value → Shared → Prop} {QF : Flow → Shared → Prop} {a d dx C l : Addr} {P P' : Obj → Prop} {name : Str} {s : Shared} {elt iter : Expr} {ifs : List Expr} {scope : Scope} {cl : List (Str × Addr)} {its : List Value}

theorem z_comp (hclos : closureFor scope env = pure cl) (hkind : scope.kind = .function) (hnames : ∀ y ∈ scope.names, y.2 = .local → scope.names.lookup y.1 = some .local)
    (k : wpAny (model PG w) A (eval iter env) (fun xv s₁ => wpAny (model PG w) A (pyIter xv) (CompK w A E none Q elt x px iter ifs scope pos cl env) E s₁) E s) (hs : ∀ x, foldedSetIterable iter env x = pure x) :
    wpAny (model PG w) A (eval (.ListComp elt [⟨.Name x px, iter, ifs, 0⟩] scope pos) env) Q E s := by
  rw [eval_ListComp]
  exact wpAny_comprehension_free (use := none) rfl hs hclos hkind hnames k

theorem z_compA (hsw : swapsWith (.ListComp elt [⟨.Name x px, iter, ifs, 0⟩] scope pos) (some (.Name y py)) spos.line env = pure true) (hclos : closureFor scope env = pure cl) (hkind : scope.kind = .function) (hnames : ∀ y ∈ scope.names, y.2 = .local → scope.names.lookup y.1 = some .local)
    (k : wpAny (model PG w) A (eval iter env) (fun xv s₁ => wpAny (model PG w) A (pyIter xv) (CompK w A E (some (assign (.Name y py) env)) (fun _ s' => QF .next s') elt x px iter ifs scope pos cl env) E s₁) E s) (hs : ∀ x, foldedSetIterable iter env x = pure x) :
    wpAny (model PG w) A (exec (.Assign [.Name y py] (.ListComp elt [⟨.Name x px, iter, ifs, 0⟩] scope pos) spos) env) QF E s := by
  rw [exec_Assign_Name_used _ _ _ _ hsw]
  refine wpAny_bind (wpAny_standAt (wpAny_bind ?_))
  show wpAny _ A (do let _ ← comprehension (.ListComp elt [⟨.Name x px, iter, ifs, 0⟩] scope pos) scope env _ (newList []) false (eval iter env) (some (assign (.Name y py) env))) _ _ s
  refine wpAny_bind (wpAny_mono (wpAny_comprehension_free (use := some (assign (.Name y py) env)) (Q := fun _ s' => QF .next s') rfl hs hclos hkind hnames k) (fun _ s' hq => wpAny_pure (wpAny_pure hq)) fun _ _ e => e)

theorem range_walksM {I : Addr} (hh : A.handled = none) (a : Int) (n : Nat) : Walks PG w A I [I] [I] n (fun i v => ∃ t, v = .int (a + (i : Int)) t) (fun i h => IsRangeIter h I (a + (i : Nat) * 1) ((n : Int) - (i : Nat)) 1) :=
  let W : Walks PG w A I [I] [I] n (fun i v => i < n ∧ ∃ t, v = .int (a + i * 1) t) (fun i h => IsRangeIter h I (a + (i : Nat) * 1) ((n : Int) - (i : Nat)) 1) := (Walks.range hh I a 1 n).bound
  { sub := W.sub, frame := W.frame, done := W.done, self := W.self,
    item := fun i s Q E hi st hQ => W.item i s Q E hi st fun v h' tk hP => hQ v h' tk (by obtain ⟨_, t, rfl⟩ := hP; exact ⟨t, by rw [Int.mul_one]⟩) }

/-- what comes behind a comprehension whose value is handed on -/
theorem compE {I : Addr} {fp wr : List Addr} {n : Nat} {PI : Nat → Value → Prop} {Sw : Nat → Heap → Prop}
    (S : St w b f g m cm gl led h) (hk : Sub h h') (hI : h.objs.size ≤ I) (hI2 : ∃ o, h'.get? I = some o) (hwI : wr = [I]) (W : Walks PG w A I fp wr n PI Sw) (hsz : n ≤ sizeLine) (st0 : Sw 0 h') (hsw : ∀ i (h : Heap), Sw i h → ∀ a ∈ wr, ∃ o, h.get? a = some o)
    (hfp : ∀ a ∈ fp, a = I ∨ (∃ o, h.get? a = some o) ∧ ∀ p ∈ gl, p.1 ≠ a)
    (hcell : ∀ y ∈ scope.names, y.2 ≠ .cell) (hkind : scope.kind = .function) (hx : scope.names.lookup x = some .local)
    (J : Nat → List Value → Heap → Led → Prop) (j0 : J 0 [] g gl) (hlen : ∀ i ys g gl, J i ys g gl → ys.length ≤ i) (hgl : ∀ i ys g₁ gl₁, J i ys g₁ gl₁ → gl₁.map (·.1) = gl.map (·.1))
    (turn : CompTurn w b A gs dr os x ifs elt scope cl env (hideAll h (gl.map (·.1))) g n PI J)
    (k : ∀ D ys g₁ gl₁ h₁ tk₁, J n ys g₁ gl₁ → Gle f.e g g₁ → St w b f g₁ m cm gl₁ ((D, LO ys) :: led) h₁ → h.get? D = none → Sub (hideAll h (gl.map (·.1))) h₁ → Q (.ref D) ⟨h₁, gs, dr, tk₁, os⟩) :
    CompK w A E none Q elt x px iter ifs scope pos cl env (.ref I) ⟨h', gs, dr, tk, os⟩ := by
  refine comp_block S hk hI hI2 hwI W hsz st0 hsw hfp hcell hkind hx J j0 hlen turn fun C D ys g₁ m₁ gl₁ h₁ tk₁ hC hD hJ hG hS => ?_
  obtain ⟨G', S', off, _⟩ := comp_fin S hC hG hS (hgl _ _ _ _ hJ)
  refine ⟨m₁, hS.ns, fun h₂ hs₂ => k D ys g₁ gl₁ h₂ tk₁ hJ G' (off h₂ hs₂ S') hD fun a o e => (hs₂.2 a (fun q => ?_)).trans (hS.ke _ _ e)⟩
  have := of_hideAll _ e
  rw [q, hC] at this; cases this

/-- .. or stored at once -/
theorem compA {I : Addr} {fp wr : List Addr} {n : Nat} {PI : Nat → Value → Prop} {Sw : Nat → Heap → Prop}
    (S : St w b f g m cm gl led h) (hk : Sub h h') (hI : h.objs.size ≤ I) (hI2 : ∃ o, h'.get? I = some o) (hwI : wr = [I]) (W : Walks PG w A I fp wr n PI Sw) (hsz : n ≤ sizeLine) (st0 : Sw 0 h') (hsw : ∀ i (h : Heap), Sw i h → ∀ a ∈ wr, ∃ o, h.get? a = some o)
    (hfp : ∀ a ∈ fp, a = I ∨ (∃ o, h.get? a = some o) ∧ ∀ p ∈ gl, p.1 ≠ a)
    (hcell : ∀ y ∈ scope.names, y.2 ≠ .cell) (hkind : scope.kind = .function) (hx : scope.names.lookup x = some .local)
    (hy : env.kindOf y = some .local) (hke : env.scope.kind = .function) (hL : env.locals = f.L)
    (J : Nat → List Value → Heap → Led → Prop) (j0 : J 0 [] g gl) (hlen : ∀ i ys g gl, J i ys g gl → ys.length ≤ i) (hgl : ∀ i ys g₁ gl₁, J i ys g₁ gl₁ → gl₁.map (·.1) = gl.map (·.1))
    (turn : CompTurn w b A gs dr os x ifs elt scope cl env (hideAll h (gl.map (·.1))) g n PI J)
    (k : ∀ D ys g₁ gl₁ h₁ tk₁, J n ys g₁ gl₁ → Gle f.e g g₁ → St w b f g₁ (fun z => if z = y then some (.ref D) else m z) cm gl₁ ((D, LO ys) :: led) h₁ → h.get? D = none → Q .none ⟨h₁, gs, dr, tk₁, os⟩) :
    CompK w A E (some (assign (.Name y py) env)) Q elt x px iter ifs scope pos cl env (.ref I) ⟨h', gs, dr, tk, os⟩ := by
  refine comp_block S hk hI hI2 hwI W hsz st0 hsw hfp hcell hkind hx J j0 hlen turn fun C D ys g₁ m₁ gl₁ h₁ tk₁ hC hD hJ hG hS => ?_
  obtain ⟨G', S', off, hCL⟩ := comp_fin S hC hG hS (hgl _ _ _ _ hJ)
  show wpAny _ A (assign (.Name y py) env (.ref D)) _ _ _
  refine wpAny_assign_Name (wpAny_storeName_local hy (by rw [hL]; exact S'.ns) (fun h₂ hn₂ hs₂ => ?_) (by rw [hke]; rfl))
  rw [hL] at hn₂ hs₂
  have S₂ := S'.locals hn₂ hs₂
  refine ⟨m₁, hS.ns.sameBut hs₂ hCL, fun h₃ hs₃ => k D ys g₁ gl₁ h₃ _ hJ G' ?_ hD⟩
  have gC : g₁.get? C = none := hS.nL.2
  have O := S.off_fresh hC
  refine S₂.off (wr := [C]) (fun a o hn e => (hs₃.2 a (fun q => hn (by rw [q]; exact .head _))).trans e) fun a ha => ?_
  rw [List.mem_singleton.mp ha]
  refine ⟨⟨O.L, O.cl, fun p hp => ?_⟩, none_of_le S.kb hC, none_of_le S.ke hC, gC⟩
  rcases mem_ins.mp hp with rfl | hp
  · exact (hS.at_ (D, LO ys) (List.mem_append_right _ (.head _))).2.1
  · rcases List.mem_append.mp hp with hp | hp
    · exact (hS.at_ p (List.mem_append_left _ hp)).2.1
    · exact O.led p (List.mem_append_right _ hp)

theorem list_sw {ax I : Addr} {its : Array Value} : ∀ i (h : Heap), (h.IsListIter I ax i ∧ h.IsList ax its) → ∀ a ∈ [I], ∃ o, h.get? a = some o := fun i h st a ha => by
  obtain ⟨o, e, _⟩ := st.1
  rw [List.mem_singleton.mp ha]; exact ⟨o, e⟩
theorem range_sw {I : Addr} {a : Int} {n : Nat} : ∀ i (h : Heap), IsRangeIter h I (a + (i : Nat) * 1) ((n : Int) - (i : Nat)) 1 → ∀ a ∈ [I], ∃ o, h.get? a = some o := fun i h st a ha => by
  rw [List.mem_singleton.mp ha]; exact ⟨_, st⟩

/-- over a list -/
theorem z_compL (S : St w b f g m cm gl led h) (hh : A.handled = none) (hl : Ha h l (LO its)) (hg : ∀ p ∈ gl, p.1 ≠ l) (hsz : its.length ≤ sizeLine)
    (hcell : ∀ y ∈ scope.names, y.2 ≠ .cell) (hkind : scope.kind = .function) (hx : scope.names.lookup x = some .local)
    (J : Nat → List Value → Heap → Led → Prop) (j0 : J 0 [] g gl) (hlen : ∀ i ys g gl, J i ys g gl → ys.length ≤ i) (hgl : ∀ i ys g₁ gl₁, J i ys g₁ gl₁ → gl₁.map (·.1) = gl.map (·.1))
    (turn : CompTurn w b A gs dr os x ifs elt scope cl env (hideAll h (gl.map (·.1))) g its.length (fun i v => its[i]? = some v) J)
    (k : ∀ D ys g₁ gl₁ h₁ tk₁, J its.length ys g₁ gl₁ → Gle f.e g g₁ → St w b f g₁ m cm gl₁ ((D, LO ys) :: led) h₁ → h.get? D = none → Sub (hideAll h (gl.map (·.1))) h₁ → Q (.ref D) ⟨h₁, gs, dr, tk₁, os⟩) :
    wpAny (model PG w) A (pyIter (.ref l)) (CompK w A E none Q elt x px iter ifs scope pos cl env) E ⟨h, gs, dr, tk, os⟩ := by
  obtain ⟨o, e, n, rfl⟩ := id hl
  have hne : l ≠ h.objs.size := Nat.ne_of_lt (Heap.lt_size e)
  refine wpAny_pyIter_list hl.list ?_
  have W := Walks.list (prog := PG) (w := w) hh h.objs.size l hne its.toArray
  rw [List.size_toArray] at W
  have W' : Walks PG w A h.objs.size [h.objs.size, l] [h.objs.size] its.length (fun i v => its[i]? = some v) (fun i hh => hh.IsListIter h.objs.size l i ∧ hh.IsList l its.toArray) := by
    have q : (fun (i : Nat) (v : Value) => its.toArray[i]? = some v) = fun i v => its[i]? = some v := by funext i v; simp
    rw [← q]; exact W
  exact compE S (fun _ _ e => Heap.get?_push_of_some _ e) (Nat.le_refl _) ⟨_, Heap.get?_push_size _ rfl⟩ rfl W' hsz ⟨⟨_, Heap.get?_push_size _ rfl, rfl, rfl⟩, hl.list.push _⟩ list_sw
    (fun a ha => by
      rcases List.mem_cons.mp ha with rfl | ha
      · exact .inl rfl
      · rw [List.mem_singleton.mp ha]; exact .inr ⟨⟨_, e⟩, hg⟩) hcell hkind hx J j0 hlen hgl turn k

theorem z_compLA (S : St w b f g m cm gl led h) (hh : A.handled = none) (hl : Ha h l (LO its)) (hg : ∀ p ∈ gl, p.1 ≠ l) (hsz : its.length ≤ sizeLine)
    (hcell : ∀ y ∈ scope.names, y.2 ≠ .cell) (hkind : scope.kind = .function) (hx : scope.names.lookup x = some .local)
    (hy : env.kindOf y = some .local) (hke : env.scope.kind = .function) (hL : env.locals = f.L)
    (J : Nat → List Value → Heap → Led → Prop) (j0 : J 0 [] g gl) (hlen : ∀ i ys g gl, J i ys g gl → ys.length ≤ i) (hgl : ∀ i ys g₁ gl₁, J i ys g₁ gl₁ → gl₁.map (·.1) = gl.map (·.1))
    (turn : CompTurn w b A gs dr os x ifs elt scope cl env (hideAll h (gl.map (·.1))) g its.length (fun i v => its[i]? = some v) J)
    (k : ∀ D ys g₁ gl₁ h₁ tk₁, J its.length ys g₁ gl₁ → Gle f.e g g₁ → St w b f g₁ (fun z => if z = y then some (.ref D) else m z) cm gl₁ ((D, LO ys) :: led) h₁ → h.get? D = none → Q .none ⟨h₁, gs, dr, tk₁, os⟩) :
    wpAny (model PG w) A (pyIter (.ref l)) (CompK w A E (some (assign (.Name y py) env)) Q elt x px iter ifs scope pos cl env) E ⟨h, gs, dr, tk, os⟩ := by
  obtain ⟨o, e, n, rfl⟩ := id hl
  have hne : l ≠ h.objs.size := Nat.ne_of_lt (Heap.lt_size e)
  refine wpAny_pyIter_list hl.list ?_
  have W := Walks.list (prog := PG) (w := w) hh h.objs.size l hne its.toArray
  rw [List.size_toArray] at W
  have W' : Walks PG w A h.objs.size [h.objs.size, l] [h.objs.size] its.length (fun i v => its[i]? = some v) (fun i hh => hh.IsListIter h.objs.size l i ∧ hh.IsList l its.toArray) := by
    have q : (fun (i : Nat) (v : Value) => its.toArray[i]? = some v) = fun i v => its[i]? = some v := by funext i v; simp
    rw [← q]; exact W
  exact compA S (fun _ _ e => Heap.get?_push_of_some _ e) (Nat.le_refl _) ⟨_, Heap.get?_push_size _ rfl⟩ rfl W' hsz ⟨⟨_, Heap.get?_push_size _ rfl, rfl, rfl⟩, hl.list.push _⟩ list_sw
    (fun a ha => by
      rcases List.mem_cons.mp ha with rfl | ha
      · exact .inl rfl
      · rw [List.mem_singleton.mp ha]; exact .inr ⟨⟨_, e⟩, hg⟩) hcell hkind hx hy hke hL J j0 hlen hgl turn k

/-- over a range -/
theorem z_compR {r : Addr} {t u v' : Tok} {n : Nat} (S : St w b f g m cm gl led h) (hh : A.handled = none) (hr : IsRange h r 0 (n : Int) 1 t u v') (hsm : Builtin.Range.small 0 (n : Int) 1 = true) (hn : Builtin.Range.rangeSize 0 (n : Int) 1 = (n : Int)) (hsz : n ≤ sizeLine)
    (hcell : ∀ y ∈ scope.names, y.2 ≠ .cell) (hkind : scope.kind = .function) (hx : scope.names.lookup x = some .local)
    (J : Nat → List Value → Heap → Led → Prop) (j0 : J 0 [] g gl) (hlen : ∀ i ys g gl, J i ys g gl → ys.length ≤ i) (hgl : ∀ i ys g₁ gl₁, J i ys g₁ gl₁ → gl₁.map (·.1) = gl.map (·.1))
    (turn : CompTurn w b A gs dr os x ifs elt scope cl env (hideAll h (gl.map (·.1))) g n (fun i v => ∃ t, v = .int (0 + (i : Int)) t) J)
    (k : ∀ D ys g₁ gl₁ h₁ tk₁, J n ys g₁ gl₁ → Gle f.e g g₁ → St w b f g₁ m cm gl₁ ((D, LO ys) :: led) h₁ → h.get? D = none → Sub (hideAll h (gl.map (·.1))) h₁ → Q (.ref D) ⟨h₁, gs, dr, tk₁, os⟩) :
    wpAny (model PG w) A (pyIter (.ref r)) (CompK w A E none Q elt x px iter ifs scope pos cl env) E ⟨h, gs, dr, tk, os⟩ := by
  refine wpAny_pyIter_range hr hsm ?_
  refine compE S (fun _ _ e => Heap.get?_push_of_some _ e) (Nat.le_refl _) ⟨_, Heap.get?_push_size _ rfl⟩ rfl (range_walksM hh 0 n) hsz (by show IsRangeIter _ _ _ _ _; rw [hn]; simpa using Heap.get?_push_size _ rfl) range_sw
    (fun a ha => .inl (List.mem_singleton.mp ha)) hcell hkind hx J j0 hlen hgl turn k

/-- for x in a list -/
theorem z_forL {R : Result → Shared → Prop} {body : List Stmt} (S : St w b f g m cm gl led h) (hh : A.handled = none) (hl : Ha h l (LO its)) (O : Off b f g gl led l)
    (hx : env.kindOf x = some .local) (hke : env.scope.kind = .function) (hL : env.locals = f.L)
    (J : Nat → Heap → (Str → Option Value) → (Str → Option Value) → Led → Led → Prop) (j0 : J 0 g m cm gl led)
    (turn : ∀ i v e' g₁ m₁ cm₁ gl₁ led₁ h₁ tk₁, its[i]? = some v → J i g₁ m₁ cm₁ gl₁ led₁ → Sub f.e e' → Gle f.e g g₁ → St w b ⟨f.L, f.cl, e'⟩ g₁ (fun y => if y = x then some v else m₁ y) cm₁ gl₁ led₁ h₁ →
      wpAny (model PG w) A (execs body env) (LoopPost w b f e' gs dr os (fun g₂ m₂ cm₂ gl₂ led₂ => Gle e' g₁ g₂ ∧ J (i + 1) g₂ m₂ cm₂ gl₂ led₂) R) (fun _ _ => False) ⟨h₁, gs, dr, tk₁, os⟩)
    (done : ∀ g₁ m₁ cm₁ gl₁ led₁ h₁ tk₁, J its.length g₁ m₁ cm₁ gl₁ led₁ → Gle f.e g g₁ → St w b f g₁ m₁ cm₁ gl₁ led₁ h₁ → R (.ok .next) ⟨h₁, gs, dr, tk₁, os⟩) :
    wpAny (model PG w) A (pyIter (.ref l)) (fun it s₂ => codeAny (model PG w) A (.forLoop (.Name x px) it body [] env) R s₂) E ⟨h, gs, dr, tk, os⟩ := by
  obtain ⟨o, e, n, rfl⟩ := id hl
  have hne : l ≠ h.objs.size := Nat.ne_of_lt (Heap.lt_size e)
  refine wpAny_pyIter_list hl.list ?_
  have W := Walks.list (prog := PG) (w := w) hh h.objs.size l hne its.toArray
  rw [List.size_toArray] at W
  have W' : Walks PG w A h.objs.size [h.objs.size, l] [h.objs.size] its.length (fun i v => its[i]? = some v) (fun i hh => hh.IsListIter h.objs.size l i ∧ hh.IsList l its.toArray) := by
    have q : (fun (i : Nat) (v : Value) => its.toArray[i]? = some v) = fun i v => its[i]? = some v := by funext i v; simp
    rw [← q]; exact W
  have fr := fresh_at h
  have S' := S.keeps (h' := h.push { cls := .type "list_iterator", data := .fields #[.ref l, .int 0 0] }) fun _ _ e => Heap.get?_push_of_some _ e
  refine z_loopW W' S' (fun a ha => ?_) (fun a ha => ?_) ⟨⟨_, Heap.get?_push_size _ rfl, rfl, rfl⟩, hl.list.push _⟩ list_sw (fun _ _ _ _ _ _ q => wpAny_pure q) J j0 (fun i v e' g₁ m₁ cm₁ gl₁ led₁ h₁ tk₁ hi hP hJ hs hG S₁ => ?_) done
  · rcases List.mem_cons.mp ha with rfl | ha
    · exact ⟨⟨_, Heap.get?_push_size _ rfl⟩, S.off_fresh fr⟩
    · rw [List.mem_singleton.mp ha]; exact ⟨⟨_, Heap.get?_push_of_some _ e⟩, O⟩
  · rw [List.mem_singleton.mp ha]; exact ⟨none_of_le S.kb fr, none_of_le S.ke fr, none_of_le S.kg fr⟩
  · refine wpAny_assign_Name (wpAny_storeName_local hx (by rw [hL]; exact S₁.ns) (fun h₂ hn₂ hs₂ => ?_) (by rw [hke]; rfl))
    rw [hL] at hn₂ hs₂
    exact turn i v e' g₁ m₁ cm₁ gl₁ led₁ h₂ _ hP hJ hs hG (S₁.locals hn₂ hs₂)

/-- for x in range(a, a + n) -/
theorem z_forR {R : Result → Shared → Prop} {body : List Stmt} {r : Addr} {a₀ : Int} {c : Int} {t u v' : Tok} {n : Nat} (S : St w b f g m cm gl led h) (hh : A.handled = none) (hr : IsRange h r a₀ c 1 t u v') (hsm : Builtin.Range.small a₀ c 1 = true) (hn : Builtin.Range.rangeSize a₀ c 1 = (n : Int))
    (hx : env.kindOf x = some .local) (hke : env.scope.kind = .function) (hL : env.locals = f.L)
    (J : Nat → Heap → (Str → Option Value) → (Str → Option Value) → Led → Led → Prop) (j0 : J 0 g m cm gl led)
    (turn : ∀ i t e' g₁ m₁ cm₁ gl₁ led₁ h₁ tk₁, i < n → J i g₁ m₁ cm₁ gl₁ led₁ → Sub f.e e' → Gle f.e g g₁ → St w b ⟨f.L, f.cl, e'⟩ g₁ (fun y => if y = x then some (.int (a₀ + (i : Int)) t) else m₁ y) cm₁ gl₁ led₁ h₁ →
      wpAny (model PG w) A (execs body env) (LoopPost w b f e' gs dr os (fun g₂ m₂ cm₂ gl₂ led₂ => Gle e' g₁ g₂ ∧ J (i + 1) g₂ m₂ cm₂ gl₂ led₂) R) (fun _ _ => False) ⟨h₁, gs, dr, tk₁, os⟩)
    (done : ∀ g₁ m₁ cm₁ gl₁ led₁ h₁ tk₁, J n g₁ m₁ cm₁ gl₁ led₁ → Gle f.e g g₁ → St w b f g₁ m₁ cm₁ gl₁ led₁ h₁ → R (.ok .next) ⟨h₁, gs, dr, tk₁, os⟩) :
    wpAny (model PG w) A (pyIter (.ref r)) (fun it s₂ => codeAny (model PG w) A (.forLoop (.Name x px) it body [] env) R s₂) E ⟨h, gs, dr, tk, os⟩ := by
  refine wpAny_pyIter_range hr hsm ?_
  have fr := fresh_at h
  have S' := S.keeps (h' := h.push { cls := .type "range_iterator", data := .fields #[rawInt a₀, rawInt (Builtin.Range.rangeSize a₀ c 1), rawInt 1] }) fun _ _ e => Heap.get?_push_of_some _ e
  refine z_loopW (range_walksM hh a₀ n) S' (fun a ha => ?_) (fun a ha => ?_) (by show IsRangeIter _ _ _ _ _; rw [hn]; simpa using Heap.get?_push_size _ rfl) range_sw (fun _ _ _ _ _ _ q => wpAny_pure q) J j0 (fun i v e' g₁ m₁ cm₁ gl₁ led₁ h₁ tk₁ hi hP hJ hs hG S₁ => ?_) done
  · rw [List.mem_singleton.mp ha]; exact ⟨⟨_, Heap.get?_push_size _ rfl⟩, S.off_fresh fr⟩
  · rw [List.mem_singleton.mp ha]; exact ⟨none_of_le S.kb fr, none_of_le S.ke fr, none_of_le S.kg fr⟩
  · obtain ⟨t, rfl⟩ := hP
    refine wpAny_assign_Name (wpAny_storeName_local hx (by rw [hL]; exact S₁.ns) (fun h₂ hn₂ hs₂ => ?_) (by rw [hke]; rfl))
    rw [hL] at hn₂ hs₂
    exact turn i t e' g₁ m₁ cm₁ gl₁ led₁ h₂ _ hi hJ hs hG (S₁.locals hn₂ hs₂)
end
end Mine

namespace Mine

section
variable {w : World} {b : Heap} {f : Fm} {g : Heap} {m cm : Str → Option Value} {gl gl' gp gr led led' : Led} {h h' : Heap} {A : Around} {E : Value → Shared → Prop} {env : Env} {gs : Array GenState} {dr : Drawn} {tk : Nat} {os : OsState} {x y : Str} {pos px py spos : Pos} {v : Value}
  {Q : Value → Shared → Prop} {QF : Flow → Shared → Prop} {QU : Unit → Shared → Prop} {a d dx C l : Addr} {P P' : Obj → Prop} {name : Str} {s : Shared} {e : Expr} {rest : List Expr} {its : List Value} {value slice : Expr}

/-- callWith of a def or a class of the text -/
theorem z_cw {fv : Value} {first : List Value} (hk : keepIn (hd.heap_39 w.params) fv = true) (k : wpAny (model PG w) A (spliced (backTo pos (starEach (e :: rest) env))) (fun vs s₁ => (hd.heap_39 w.params).In s₁.heap ∧ wpAny (model PG w) A (call fv (first ++ vs)) Q E s₁) E s)
    (he : starEach (e :: rest) env = (false, eval e env) :: starEach rest env := by rfl) (hplain : (backTo pos (starEach rest env)).any (·.1) = false := by rfl) : wpAny (model PG w) A (callWith pos fv first (backTo pos (starEach (e :: rest) env)) []) Q E s := by
  rw [he] at k ⊢
  exact callWith_of (by show ((false || (backTo pos (starEach rest env)).any (·.1)) || false) = false; rw [hplain]; rfl) (keeps_K hk) (evalArgs_plain k)
theorem z_cw0 {fv : Value} {first : List Value} (S : St w b f g m cm gl led h) (hk : keepIn (hd.heap_39 w.params) fv = true) (k : wpAny (model PG w) A (call fv (first ++ [])) Q E ⟨h, gs, dr, tk, os⟩) : wpAny (model PG w) A (callWith pos fv first (backTo pos (starEach [] env)) []) Q E ⟨h, gs, dr, tk, os⟩ :=
  callWith_of rfl (keeps_K hk) (evalArgs_nil3 ⟨S.K, k⟩)

/-- range -/
theorem z_range {n : Int} {t : Tok} (S : St w b f g m cm gl led h) (k : ∀ r h' tk' t u v, IsRange h' r 0 n 1 t u v → St w b f g m cm gl led h' → Sub h h' → Q (.ref r) ⟨h', gs, dr, tk', os⟩) : wpAny (model PG w) A (call (.type "range") [.int n t]) Q E ⟨h, gs, dr, tk, os⟩ :=
  range1_rows S.fr News.nil fun h' tk' t u v hr _ _ hs => k _ h' tk' t u v hr (S.keeps hs) hs
theorem z_range2 {a c : Int} {t u : Tok} (S : St w b f g m cm gl led h) (k : ∀ r h' tk' t u v, IsRange h' r a c 1 t u v → St w b f g m cm gl led h' → Sub h h' → Q (.ref r) ⟨h', gs, dr, tk', os⟩) : wpAny (model PG w) A (call (.type "range") [.int a t, .int c u]) Q E ⟨h, gs, dr, tk, os⟩ :=
  range2_rows S.fr News.nil fun h' tk' t u v hr _ _ hs => k _ h' tk' t u v hr (S.keeps hs) hs
theorem range_size {a c : Int} (h2 : a ≤ c) : Builtin.Range.rangeSize a c 1 = c - a := by
  simp only [Builtin.Range.rangeSize]
  rw [if_pos (by decide)]
  split
  · rw [Int.ediv_one]; omega
  · omega
theorem range_small {a c : Int} (h1 : 0 ≤ a) (h2 : a ≤ c) (h3 : c ≤ 100000) : Builtin.Range.small a c 1 = true ∧ Builtin.Range.rangeSize a c 1 = ((c - a).toNat : Int) := by
  constructor
  · exact small_one (by omega) (by omega) (by omega) (by omega)
  · rw [range_size h2]; omega

/-- subscripts -/
theorem z_item {vs : List Value} {i : Int} {t : Tok} (H : Ha h l (LO vs)) (h0 : 0 ≤ i) (hi : i < 2 ^ 63) (hx : vs[i.toNat]? = some v) (k : Q v ⟨h, gs, dr, tk, os⟩)
    (hs : subscripted slice false (.ref l) (.int i t) = operate [.ref l, .int i t] (getItem (.ref l) (.int i t)) := by with_unfolding_all rfl) :
    wpAny (model PG w) A (subscriptTail value slice (.ref l) (.int i t)) Q E ⟨h, gs, dr, tk, os⟩ :=
  tail_any H.list.typeIs slot_list_getitem.lookup (wpAny_getItem_list (s := ⟨h, gs, dr, tk, os⟩) H.list h0 hi (by simpa using hx) k) hs
theorem z_itemT {vs : List Value} {i : Int} {t : Tok} (H : Ha h l (TO vs)) (h0 : 0 ≤ i) (hi : i < 2 ^ 63) (hx : vs[i.toNat]? = some v) (hl : vs.length < 2 ^ 62) (k : Q v ⟨h, gs, dr, tk, os⟩)
    (hs : subscripted slice false (.ref l) (.int i t) = operate [.ref l, .int i t] (getItem (.ref l) (.int i t)) := by with_unfolding_all rfl) :
    wpAny (model PG w) A (subscriptTail value slice (.ref l) (.int i t)) Q E ⟨h, gs, dr, tk, os⟩ := by
  have hlt : i.toNat < vs.length := (List.getElem?_eq_some_iff.mp hx).1
  refine item_tupleT (j := i.toNat) H.tup (Int.le_trans (by decide) h0) hi ?_ hx k hs
  have n0 : ¬ i < 0 := by omega
  have c : (decide (0 ≤ i) && decide (i < (vs.length : Int))) = true := by rw [Bool.and_eq_true, decide_eq_true_eq, decide_eq_true_eq]; omega
  simp only [seqIndex?, n0, if_false, c, if_true]
section
variable {K : Type} [DecidableEq K] {knd : PySem.KeyKind PG w K} {kk : K} {key : Value} {kvs : List (K × Value)}
theorem zz_item (hD : h.DictOf knd d kvs) (hkey : knd.is kk key = true) (hl : valueAt kvs kk = some v) (k : Q v ⟨h, gs, dr, tk + 1, os⟩)
    (hs : subscripted slice false (.ref d) key = operate [.ref d, key] (getItem (.ref d) key)) (hg : ∀ r, letTemporaryGo value (.ref d) r = pure ()) :
    wpAny (model PG w) A (subscriptTail value slice (.ref d) key) Q E ⟨h, gs, dr, tk, os⟩ :=
  subscriptTail_builtin (s := ⟨h, gs, dr, tk, os⟩) hD.typeIs slot_dict_getitem.lookup (wpAny_getItem_of (s := ⟨h, gs, dr, tk, os⟩) hkey hD.mapOf hl k) hs hg
theorem zz_in (hD : h.DictOf knd d kvs) (hn : (d == sysModules) = false) (hkey : knd.is kk key = true) (k : Q (.bool (valueAt kvs kk).isSome) ⟨h, gs, dr, tk + 1, os⟩) : wpAny (model PG w) A (compareOp .In key (.ref d)) Q E ⟨h, gs, dr, tk, os⟩ :=
  wpAny_in_of (s := ⟨h, gs, dr, tk, os⟩) hkey hn hD.mapOf k
theorem zz_notin (hD : h.DictOf knd d kvs) (hn : (d == sysModules) = false) (hkey : knd.is kk key = true) (k : Q (.bool (!(valueAt kvs kk).isSome)) ⟨h, gs, dr, tk + 1, os⟩) : wpAny (model PG w) A (compareOp .NotIn key (.ref d)) Q E ⟨h, gs, dr, tk, os⟩ :=
  wpAny_notIn_of (s := ⟨h, gs, dr, tk, os⟩) hkey hn hD.mapOf k
theorem zz_getM {pl : Sem Bool} {QM : Value × List Value → Shared → Prop} (hD : h.DictOf knd d kvs) (k : QM (.builtin "dict.get", [.ref d]) ⟨h, gs, dr, tk, os⟩) : wpAny (model PG w) A (getMethod (.ref d) "get" pl) QM E ⟨h, gs, dr, tk, os⟩ :=
  getMethod_builtin (s := ⟨h, gs, dr, tk, os⟩) hD.typeIs PySem.F.plainAttrs_dict PySem.F.slot_dict_get PySem.F.type_dict_get hD.mapOf.noDict k
theorem zz_get1 (hD : h.DictOf knd d kvs) (hn : (d == sysModules) = false) (hkey : knd.is kk key = true) (k : Q ((valueAt kvs kk).getD .none) ⟨h, gs, dr, tk + 1, os⟩) : wpAny (model PG w) A (call (.builtin "dict.get") [.ref d, key]) Q E ⟨h, gs, dr, tk, os⟩ :=
  call_meetsIn (s := ⟨h, gs, dr, tk, os⟩) PySem.F.slot_dict_get hD.typeIs PySem.F.entry_dict_get (PySem.F.args_dict_get_2 _ _) (meets_dict_get knd d hkey hn) ⟨_, hD.mapOf, k⟩
theorem zz_get2 {dflt : Value} (hD : h.DictOf knd d kvs) (hn : (d == sysModules) = false) (hkey : knd.is kk key = true) (k : Q ((valueAt kvs kk).getD dflt) ⟨h, gs, dr, tk + 1, os⟩) : wpAny (model PG w) A (call (.builtin "dict.get") [.ref d, key, dflt]) Q E ⟨h, gs, dr, tk, os⟩ :=
  call_meetsIn (s := ⟨h, gs, dr, tk, os⟩) PySem.F.slot_dict_get hD.typeIs PySem.F.entry_dict_get (PySem.F.args_dict_get_3 _ _ _) (meets_dict_get_default knd d hkey hn dflt) ⟨_, hD.mapOf, k⟩
end
theorem sis (x : Str) (t : Tok) : (PySem.strKind PG w).is x (.str x t) = true := strKind_is PG w x t
theorem iis (x : Int) (t : Tok) : (PySem.intKind PG w).is x (.int x t) = true := intKind_is PG w x t

/-- a store into a dict -/
theorem z_setS {kvs : List (Str × Value)} {n : Str} {t : Tok} (S : St w b f g m cm gl led h) (U : At d (SD w d kvs) (SD w d (stored kvs n v)) led led') (k : ∀ h', St w b f g m cm gl led' h' → QU () ⟨h', gs, dr, tk + 1, os⟩) (hsz : kvs.length ≤ sizeLine) :
    wpAny (model PG w) A (setItem (.ref d) (.str n t) v) QU E ⟨h, gs, dr, tk, os⟩ :=
  wpAny_setItem_pairs (s := ⟨h, gs, dr, tk, os⟩) (hsz := hsz) (sis n t) (S.ha U.mem).sd fun h' hD hs => k h' (S.upd U (fun c o hc e => (hs.2 c hc).trans e) (let ⟨o, e, p⟩ := Heap.dictOf_iff.mp hD; ⟨o, e, (S.ha U.mem).sdn, p⟩))
theorem z_setI {kvs : List (Int × Value)} {n : Int} {t : Tok} (S : St w b f g m cm gl led h) (U : At d (ID w d kvs) (ID w d (stored kvs n v)) led led') (k : ∀ h', St w b f g m cm gl led' h' → QU () ⟨h', gs, dr, tk + 1, os⟩) (hsz : kvs.length ≤ sizeLine) :
    wpAny (model PG w) A (setItem (.ref d) (.int n t) v) QU E ⟨h, gs, dr, tk, os⟩ :=
  wpAny_setItem_pairs (s := ⟨h, gs, dr, tk, os⟩) (hsz := hsz) (iis n t) (S.ha U.mem).id fun h' hD hs => k h' (S.upd U (fun c o hc e => (hs.2 c hc).trans e) (let ⟨o, e, p⟩ := Heap.dictOf_iff.mp hD; ⟨o, e, (S.ha U.mem).idn, p⟩))
theorem z_setSG {kvs : List (Str × Value)} {n : Str} {t : Tok} (S : St w b f g m cm gl led h) (U : At d (SD w d kvs) (SD w d (stored kvs n v)) gl gl') (k : ∀ h', St w b f g m cm gl' led h' → QU () ⟨h', gs, dr, tk + 1, os⟩) (hsz : kvs.length ≤ sizeLine) :
    wpAny (model PG w) A (setItem (.ref d) (.str n t) v) QU E ⟨h, gs, dr, tk, os⟩ :=
  wpAny_setItem_pairs (s := ⟨h, gs, dr, tk, os⟩) (hsz := hsz) (sis n t) (S.haG U.mem).sd fun h' hD hs => k h' (S.updG U (fun c o hc e => (hs.2 c hc).trans e) (let ⟨o, e, p⟩ := Heap.dictOf_iff.mp hD; ⟨o, e, (S.haG U.mem).sdn, p⟩))
theorem z_setIG {kvs : List (Int × Value)} {n : Int} {t : Tok} (S : St w b f g m cm gl led h) (U : At d (ID w d kvs) (ID w d (stored kvs n v)) gl gl') (k : ∀ h', St w b f g m cm gl' led h' → QU () ⟨h', gs, dr, tk + 1, os⟩) (hsz : kvs.length ≤ sizeLine) :
    wpAny (model PG w) A (setItem (.ref d) (.int n t) v) QU E ⟨h, gs, dr, tk, os⟩ :=
  wpAny_setItem_pairs (s := ⟨h, gs, dr, tk, os⟩) (hsz := hsz) (iis n t) (S.haG U.mem).id fun h' hD hs => k h' (S.updG U (fun c o hc e => (hs.2 c hc).trans e) (let ⟨o, e, p⟩ := Heap.dictOf_iff.mp hD; ⟨o, e, (S.haG U.mem).idn, p⟩))

/-- a new dict -/
theorem z_newDict (S : St w b f g m cm gl led h) (k : ∀ d h', h.get? d = none → St w b f g m cm gl ((d, SD w d []) :: led) h' → St w b f g m cm gl ((d, ID w d []) :: led) h' → Q (.ref d) ⟨h', gs, dr, tk, os⟩) : wpAny (model PG w) A (eval (.Dict [] [] pos) env) Q E ⟨h, gs, dr, tk, os⟩ := by
  refine wpAny_Dict_empty (s := ⟨h, gs, dr, tk, os⟩) ?_
  obtain ⟨o, ho, hd⟩ := Heap.dictOf_iff.mp (Heap.DictOf.new (knd := PySem.strKind PG w) h)
  obtain ⟨o2, ho2, hd2⟩ := Heap.dictOf_iff.mp (Heap.DictOf.new (knd := PySem.intKind PG w) h)
  rw [Heap.get?_push_size _ rfl] at ho ho2
  cases ho; cases ho2
  exact k _ _ (fresh_at h) (S.push _ _ ⟨S.nosys, hd⟩) (S.push _ _ ⟨S.nosys, hd2⟩)

theorem z_dictS {keys : List (Option Expr)} {values : List Expr} (S : St w b f g m cm gl led h) (hall : keys.all (·.isSome) = true) (hl : keys.length = values.length) (h0 : keys ≠ []) (hlen : keys.length ≤ 15)
    (k : ∀ d h', h.get? d = none → St w b f g m cm gl ((d, SD w d []) :: led) h' → wpAny (model PG w) A (evalPairs (pairTrees keys values env pos)) (fun vs s₁ => KdnMade PG w (PySem.strKind PG w) d Q vs s₁) E ⟨h', gs, dr, tk, os⟩) :
    wpAny (model PG w) A (eval (.Dict keys values pos) env) Q E ⟨h, gs, dr, tk, os⟩ := by
  obtain ⟨o, ho, hd⟩ := Heap.dictOf_iff.mp (Heap.DictOf.new (knd := PySem.strKind PG w) h)
  rw [Heap.get?_push_size _ rfl] at ho
  cases ho
  exact Dict_made (knd := PySem.strKind PG w) (s := ⟨h, gs, dr, tk, os⟩) S.fr hall hl h0 hlen fun F' => wpAny_mono (k h.objs.size _ (fresh_at h) (S.push _ _ ⟨S.nosys, hd⟩)) (fun _ _ x => x) fun _ _ x => x
theorem z_dictEnd {vs : List (Value × Value)} (S : St w b f g m cm gl led h) (U : At d (SD w d []) (SD w d (strPairs vs)) led led') (hk : allStrKeys vs = true) (hn : ((strPairs vs).map (·.1)).Nodup) (k : ∀ h', St w b f g m cm gl led' h' → Q (.ref d) ⟨h', gs, dr, tk + vs.length, os⟩) :
    KdnMade PG w (PySem.strKind PG w) d Q vs ⟨h, gs, dr, tk, os⟩ :=
  display_done_str hk hn (S.ha U.mem).sd fun h' hD hs => k h' (S.upd U (fun c o hc e => (hs.2 c hc).trans e) (let ⟨o, e, p⟩ := Heap.dictOf_iff.mp hD; ⟨o, e, (S.ha U.mem).sdn, p⟩))
end
end Mine

namespace Mine

section
variable {w : World} {b : Heap} {f : Fm} {g : Heap} {m cm : Str → Option Value} {gl gl' gp gr led led' : Led} {h h' : Heap} {A : Around} {E : Value → Shared → Prop} {env : Env} {gs : Array GenState} {dr : Drawn} {tk : Nat} {os : OsState} {x y : Str} {pos px py spos : Pos} {v t c : Value}
  {Q : Value → Shared → Prop} {QF : Flow → Shared → Prop} {QU : Unit → Shared → Prop} {a d dx C l : Addr} {P P' : Obj → Prop} {name : Str} {s : Shared} {e : Expr} {rest : List Expr} {its : List Value} {value slice : Expr}

theorem z_cellF {c : Addr} (S : St w b f g m cm gl led h) (hc : env.cells.lookup x = some c) (hl : env.cells = f.cl) (hv : cm x = some v) (k : Q v ⟨h, gs, dr, tk, os⟩) (hk : env.scope.kind = .function := by rfl) (hx : env.kindOf x = some .cell := by rfl) (hd : (x == ("__debug__" : Str)) = false := by decide) :
    wpAny (model PG w) A (eval (.Name x pos) env) Q E ⟨h, gs, dr, tk, os⟩ := z_cell S hc (lookup_mem (by rw [← hl]; exact hc)) hv k hk hx hd
theorem z_storeC2 {c : Addr} (S : St w b f g m cm gl led h) (hc : env.cells.lookup x = some c) (hl : env.cells = f.cl) (hn : (f.cl.map (·.1)).Nodup) (k : ∀ h', St w b f g m (fun y => if y = x then some v else cm y) gl led h' → QU () ⟨h', gs, dr, tk, os⟩) (hk : env.scope.kind = .function := by rfl) (hx : env.kindOf x = some .cell := by rfl) :
    wpAny (model PG w) A (storeName env x v) QU E ⟨h, gs, dr, tk, os⟩ := z_storeC S hc (lookup_mem (by rw [← hl]; exact hc)) hn k hk hx
theorem z_cellE {c : Addr} (S : St w b f g m cm gl led h) (hc : env.cells.lookup x = some c) (hv : f.e.IsCell c (some v)) (k : Q v ⟨h, gs, dr, tk, os⟩) (hk : env.scope.kind = .function := by rfl) (hx : env.kindOf x = some .cell := by rfl) (hd : (x == ("__debug__" : Str)) = false := by decide) :
    wpAny (model PG w) A (eval (.Name x pos) env) Q E ⟨h, gs, dr, tk, os⟩ := z_cellH hc (hv.keeps S.ke) k hk hx hd
theorem z_cellG {c : Addr} (S : St w b f g m cm gl led h) (hc : env.cells.lookup x = some c) (hv : g.IsCell c (some v)) (k : Q v ⟨h, gs, dr, tk, os⟩) (hk : env.scope.kind = .function := by rfl) (hx : env.kindOf x = some .cell := by rfl) (hd : (x == ("__debug__" : Str)) = false := by decide) :
    wpAny (model PG w) A (eval (.Name x pos) env) Q E ⟨h, gs, dr, tk, os⟩ := z_cellH hc (hv.keeps S.kg) k hk hx hd
theorem z_freeG {c : Addr} (S : St w b f g m cm gl led h) (hc : env.cells.lookup x = some c) (hv : g.IsCell c (some v)) (k : Q v ⟨h, gs, dr, tk, os⟩) (hk : env.scope.kind = .function := by rfl) (hx : env.kindOf x = some .free := by rfl) (hd : (x == ("__debug__" : Str)) = false := by decide) (hn : (x == ("__classdict__" : Str)) = false := by decide) :
    wpAny (model PG w) A (eval (.Name x pos) env) Q E ⟨h, gs, dr, tk, os⟩ := z_freeH hc (hv.keeps S.kg) k hk hx hd hn

/-- what a value is, as isinstance asks -/
inductive KindV (w : World) (h : Heap) : Value → Value → Prop
  | none : KindV w h .none (.type "NoneType")
  | list {a vs} : Ha h a (LO vs) → KindV w h (.ref a) (.type "list")
  | dict {a kvs} : Ha h a (SD w a kvs) → KindV w h (.ref a) (.type "dict")
  | ref {a dx kvs} : Ha h a (IO 254 dx) → Ha h dx (SD w dx kvs) → KindV w h (.ref a) (.ref 254)
  | name {a dx kvs} : Ha h a (IO 183 dx) → Ha h dx (SD w dx kvs) → KindV w h (.ref a) (.ref 183)
theorem KindV.mono (x : KindV w h v t) (k : Sub h h') : KindV w h' v t := by
  cases x with
  | none => exact .none
  | list p => exact .list (p.keeps k)
  | dict p => exact .dict (p.keeps k)
  | ref p q => exact .ref (p.keeps k) (q.keeps k)
  | name p q => exact .name (p.keeps k) (q.keeps k)

theorem z_isi {b' : Bool} (S : St w b f g m cm gl led h) (kd : KindV w h v t) (e : kitOne (hd.heap_39 w.params) t c = some b') (k : ∀ tk', Q (.bool b') ⟨h, gs, dr, tk', os⟩) : wpAny (model PG w) A (call (.builtin "isinstance") [v, c]) Q E ⟨h, gs, dr, tk, os⟩ := by
  cases kd with
  | none => exact kia_one (s := ⟨h, gs, dr, tk, os⟩) kitx_none S.K trivial e (by intro q; cases q) k
  | list p => exact kia_one (s := ⟨h, gs, dr, tk, os⟩) kitx_list S.K (let ⟨o, x, n, p⟩ := p; ⟨o, x, by rw [p]⟩) e (by intro q; cases q) k
  | dict p => exact kia_one (s := ⟨h, gs, dr, tk, os⟩) kitx_dict S.K (let ⟨o, x, p⟩ := p; ⟨o, x, let ⟨_, _, q, _⟩ := p.2; q.1⟩) e (by intro q; cases q) k
  | ref p q =>
    obtain ⟨od, I, _⟩ := inst_at p q
    refine' kia_one (s := ⟨h, gs, dr, tk, os⟩) (kitx_own (K := hd.heap_39 w.params) (D := 254) (od := od) ?k4 ?k5 ?k6 ?k7 ?k8 ?k9) S.K I e (by intro q; cases q) k
    all_goals k_is
  | name p q =>
    obtain ⟨od, I, _⟩ := inst_at p q
    refine' kia_one (s := ⟨h, gs, dr, tk, os⟩) (kitx_own (K := hd.heap_39 w.params) (D := 183) (od := od) ?k4 ?k5 ?k6 ?k7 ?k8 ?k9) S.K I e (by intro q; cases q) k
    all_goals k_is

/-- the shelf -/
inductive ShelfH (w : World) (h : Heap) (a ta tra : Addr) (tab : List (Int × Value)) (trl : List (Str × Value)) : Prop
  | mk dx (q1 : Ha h a (IO 363 dx)) (q2 : Ha h dx (SD w dx [("table", .ref ta), ("trailer", .ref tra)])) (q3 : Ha h ta (ID w ta tab)) (q4 : Ha h tra (SD w tra trl)) : ShelfH w h a ta tra tab trl
theorem ShelfH.mono {ta tra : Addr} {tab trl} (x : ShelfH w h a ta tra tab trl) (k : Sub h h') : ShelfH w h' a ta tra tab trl := let ⟨dx, p, q, r, s⟩ := x; ⟨dx, p.keeps k, q.keeps k, r.keeps k, s.keeps k⟩
/-- a reference -/
inductive RefV (w : World) (h : Heap) (v : Value) (n : Int) : Prop
  | mk a dx t1 t2 (q1 : v = .ref a) (q2 : Ha h a (IO 254 dx)) (q3 : Ha h dx (SD w dx [("number", .int n t1), ("generation", .int 0 t2)])) : RefV w h v n
theorem RefV.mono {n : Int} (x : RefV w h v n) (k : Sub h h') : RefV w h' v n := let ⟨a, dx, t1, t2, e, p, q⟩ := x; ⟨a, dx, t1, t2, e, p.keeps k, q.keeps k⟩
inductive NameV (w : World) (h : Heap) (v : Value) (n : Str) : Prop
  | mk a dx t (q1 : v = .ref a) (q2 : Ha h a (IO 183 dx)) (q3 : Ha h dx (SD w dx [("text", .str n t)])) : NameV w h v n
theorem NameV.mono {n : Str} (x : NameV w h v n) (k : Sub h h') : NameV w h' v n := let ⟨a, dx, t, e, p, q⟩ := x; ⟨a, dx, t, e, p.keeps k, q.keeps k⟩
theorem NameV.kind {n : Str} (x : NameV w h v n) : KindV w h v (.ref 183) := let ⟨a, dx, t, e, p, q⟩ := x; e ▸ .name p q
theorem RefV.kind {n : Int} (x : RefV w h v n) : KindV w h v (.ref 254) := let ⟨a, dx, t1, t2, e, p, q⟩ := x; e ▸ .ref p q
theorem sub0 {gp : Led} (h : Heap) : Sub h (hideAll h (([] : Led).map (·.1))) := fun _ _ e => e
end
theorem if_t {c : Bool} {p q : Prop} (h : c = true) (hp : p) : (if c = true then p else q) := by rw [if_pos h]; exact hp
theorem if_f {c : Bool} {p q : Prop} (h : c = false) (hq : q) : (if c = true then p else q) := by rw [h, if_neg Bool.false_ne_true]; exact hq
end Mine

namespace Mine

inductive All2 {α β : Type} (R : α → β → Prop) : List α → List β → Prop
  | nil : All2 R [] []
  | cons {a b as bs} : R a b → All2 R as bs → All2 R (a :: as) (b :: bs)
theorem All2.length {α β : Type} {R : α → β → Prop} {as : List α} {bs : List β} (x : All2 R as bs) : as.length = bs.length := by
  induction x with
  | nil => rfl
  | cons _ _ ih => simp [ih]
theorem All2.mono {α β : Type} {R R' : α → β → Prop} (k : ∀ a b, R a b → R' a b) {as : List α} {bs : List β} (x : All2 R as bs) : All2 R' as bs := by
  induction x with
  | nil => exact .nil
  | cons r _ ih => exact .cons (k _ _ r) ih
theorem All2.snoc {α β : Type} {R : α → β → Prop} {as : List α} {bs : List β} {a : α} {b : β} (x : All2 R as bs) (r : R a b) : All2 R (as ++ [a]) (bs ++ [b]) := by
  induction x with
  | nil => exact .cons r .nil
  | cons q _ ih => exact .cons q ih
theorem All2.get {α β : Type} {R : α → β → Prop} {as : List α} {bs : List β} (x : All2 R as bs) : ∀ {i : Nat} {a : α}, as[i]? = some a → ∃ b, bs[i]? = some b ∧ R a b := by
  induction x with
  | nil => intro i a e; simp at e
  | cons r _ ih =>
    intro i a e
    cases i with
    | zero => simp at e; subst e; exact ⟨_, rfl, r⟩
    | succ j => simpa using ih (by simpa using e)
theorem All2.get' {α β : Type} {R : α → β → Prop} {as : List α} {bs : List β} (x : All2 R as bs) : ∀ {i : Nat} {b : β}, bs[i]? = some b → ∃ a, as[i]? = some a ∧ R a b := by
  induction x with
  | nil => intro i a e; simp at e
  | cons r _ ih =>
    intro i a e
    cases i with
    | zero => simp at e; subst e; exact ⟨_, rfl, r⟩
    | succ j => simpa using ih (by simpa using e)

theorem take_snoc {α : Type} {l : List α} {i : Nat} {v : α} (h : l[i]? = some v) : l.take (i + 1) = l.take i ++ [v] := by
  obtain ⟨hi, e⟩ := List.getElem?_eq_some_iff.mp h
  rw [List.take_succ, h]; rfl
theorem lt_of_get {α : Type} {l : List α} {i : Nat} {v : α} (h : l[i]? = some v) : i < l.length := (List.getElem?_eq_some_iff.mp h).1

def IntV (v : Value) (n : Int) : Prop := ∃ t, v = .int n t
def StrV (v : Value) (n : Str) : Prop := ∃ t, v = .str n t
/-- a list, its items related -/
inductive LV {α : Type} (R : Heap → Value → α → Prop) (h : Heap) (v : Value) (xs : List α) : Prop
  | mk a vs (q1 : v = .ref a) (q2 : Ha h a (LO vs)) (q3 : All2 (R h) vs xs) : LV R h v xs
abbrev IntR (_ : Heap) := IntV
abbrev StrR (_ : Heap) := StrV
def Mono {α : Type} (R : Heap → Value → α → Prop) : Prop := ∀ (h h' : Heap) v x, R h v x → Sub h h' → R h' v x
theorem monoI : Mono IntR := fun _ _ _ _ x _ => x
theorem monoS : Mono StrR := fun _ _ _ _ x _ => x
theorem LV.mono {α : Type} {R : Heap → Value → α → Prop} (k : Mono R) {h h' : Heap} {v : Value} {xs : List α} (x : LV R h v xs) (s : Sub h h') : LV R h' v xs := let ⟨a, vs, e, p, q⟩ := x; ⟨a, vs, e, p.keeps s, q.mono fun _ _ z => k _ _ _ _ z s⟩
theorem monoL {α : Type} {R : Heap → Value → α → Prop} (k : Mono R) : Mono (LV R) := fun _ _ _ _ x s => x.mono k s
theorem LV.kind {α : Type} {R : Heap → Value → α → Prop} {w : World} {h : Heap} {v : Value} {xs : List α} (x : LV R h v xs) : KindV w h v (.type "list") := let ⟨a, vs, e, p, _⟩ := x; e ▸ .list p
abbrev IntsV := LV IntR
abbrev StrsV := LV StrR
theorem monoRef {w : World} : Mono (RefV w) := fun _ _ _ _ x s => x.mono s
theorem monoName {w : World} : Mono (NameV w) := fun _ _ _ _ x s => x.mono s
abbrev RefsV (w : World) := LV (RefV w)
abbrev NamesV (w : World) := LV (NameV w)
theorem monoRefs {w : World} : Mono (RefsV w) := monoL monoRef

/-- an entry that may be lacking -/
def OptL {α : Type} (R : Heap → Value → α → Prop) (h : Heap) (o : Option Value) (xs : List α) : Prop := (o = none ∧ xs = []) ∨ ∃ v, o = some v ∧ LV R h v xs
theorem OptL.mono {α : Type} {R : Heap → Value → α → Prop} (k : Mono R) {h h' : Heap} {o : Option Value} {xs : List α} (x : OptL R h o xs) (s : Sub h h') : OptL R h' o xs := x.imp id fun ⟨v, e, p⟩ => ⟨v, e, p.mono k s⟩

/-- the words: one name, or a list of names -/
def ToldV (w : World) (h : Heap) (v : Value) (ws : List Str) : Prop := (∃ s, ws = [s] ∧ NameV w h v s) ∨ (ws.length ≠ 1 ∧ NamesV w h v ws)
def OptTold (w : World) (h : Heap) (o : Option Value) (ws : List Str) : Prop := (o = none ∧ ws = []) ∨ ∃ v, o = some v ∧ ws ≠ [] ∧ ToldV w h v ws
def OptName (w : World) (h : Heap) (o : Option Value) (s : Option Str) : Prop := (o = none ∧ s = none) ∨ ∃ v s', o = some v ∧ s = some s' ∧ NameV w h v s'
theorem ToldV.mono {w : World} {h h' : Heap} {v : Value} {ws} (x : ToldV w h v ws) (s : Sub h h') : ToldV w h' v ws := x.imp (fun ⟨s', e, p⟩ => ⟨s', e, p.mono s⟩) fun ⟨e, p⟩ => ⟨e, p.mono monoName s⟩
theorem OptTold.mono {w : World} {h h' : Heap} {o : Option Value} {ws} (x : OptTold w h o ws) (s : Sub h h') : OptTold w h' o ws := x.imp id fun ⟨v, e, n, p⟩ => ⟨v, e, n, p.mono s⟩
theorem OptName.mono {w : World} {h h' : Heap} {o : Option Value} {ws} (x : OptName w h o ws) (s : Sub h h') : OptName w h' o ws := x.imp id fun ⟨v, s', e, n, p⟩ => ⟨v, s', e, n, p.mono s⟩

/-- a group: its intents -/
inductive GroupV (w : World) (h : Heap) (v : Value) (ws : List Str) : Prop
  | mk d kvs tv (q1 : v = .ref d) (q2 : Ha h d (SD w d kvs)) (q3 : valueAt kvs "Type" = some tv) (q4 : NameV w h tv "OCG") (q5 : OptTold w h (valueAt kvs "Intent") ws) : GroupV w h v ws
theorem GroupV.mono {w : World} {h h' : Heap} {v : Value} {ws : List Str} (x : GroupV w h v ws) (s : Sub h h') : GroupV w h' v ws := let ⟨d, kvs, tv, e, p, q, r, t⟩ := x; ⟨d, kvs, tv, e, p.keeps s, q, r.mono s, t.mono s⟩

structure Head where
  base : Option Str
  on : List Int
  off : List Int
  rows : List (List Int)
  locked : List Int
  words : List Str
  cap : Nat
inductive HeadV (w : World) (h : Heap) (v : Value) (H : Head) : Prop
  | mk d kvs (q1 : v = .ref d) (q2 : Ha h d (SD w d kvs)) (q3 : OptName w h (valueAt kvs "BaseState") H.base) (q4 : OptL (RefV w) h (valueAt kvs "ON") H.on) (q5 : OptL (RefV w) h (valueAt kvs "OFF") H.off) (q6 : OptL (RefsV w) h (valueAt kvs "RBGroups") H.rows) (q7 : OptL (RefV w) h (valueAt kvs "Locked") H.locked) (q8 : valueAt kvs "Order" = none) (q9 : OptTold w h (valueAt kvs "Intent") H.words) (q10 : kvs.length ≤ H.cap) : HeadV w h v H
theorem HeadV.mono {w : World} {h h' : Heap} {v : Value} {H : Head} (x : HeadV w h v H) (s : Sub h h') : HeadV w h' v H := let ⟨d, kvs, e, p, q1, q2, q3, q4, q5, q6, q7, q8⟩ := x;
  ⟨d, kvs, e, p.keeps s, q1.mono s, q2.mono monoRef s, q3.mono monoRef s, q4.mono monoRefs s, q5.mono monoRef s, q6, q7.mono s, q8⟩
theorem monoHead {w : World} : Mono (HeadV w) := fun _ _ _ _ x s => x.mono s

structure Doc where
  many : Nat
  words : Int → List Str
  listed : List Int
  d0 : Head
  confs : List Head
inductive LayV (w : World) (h : Heap) (v : Value) (D : Doc) : Prop
  | mk d kvs v1 v2 v3 (q1 : v = .ref d) (q2 : Ha h d (SD w d kvs)) (q3 : valueAt kvs "OCGs" = some v1) (q4 : RefsV w h v1 D.listed) (q5 : valueAt kvs "D" = some v2) (q6 : HeadV w h v2 D.d0) (q7 : valueAt kvs "Configs" = some v3) (q8 : LV (HeadV w) h v3 D.confs) (q9 : kvs.length ≤ 100) : LayV w h v D
theorem LayV.mono {w : World} {h h' : Heap} {v : Value} {D : Doc} (x : LayV w h v D) (s : Sub h h') : LayV w h' v D := let ⟨d, kvs, v1, v2, v3, e, p, q1, q2, q3, q4, q5, q6, q7⟩ := x; ⟨d, kvs, v1, v2, v3, e, p.keeps s, q1, q2.mono monoRef s, q3, q4.mono s, q5, q6.mono monoHead s, q7⟩
inductive RootV (w : World) (h : Heap) (v : Value) (D : Doc) : Prop
  | mk d kvs lv (q1 : v = .ref d) (q2 : Ha h d (SD w d kvs)) (q3 : valueAt kvs "OCProperties" = some lv) (q4 : LayV w h lv D) (q5 : kvs.length ≤ 100) : RootV w h v D
theorem RootV.mono {w : World} {h h' : Heap} {v : Value} {D : Doc} (x : RootV w h v D) (s : Sub h h') : RootV w h' v D := let ⟨d, kvs, lv, e, p, q, r, t⟩ := x; ⟨d, kvs, lv, e, p.keeps s, q, r.mono s, t⟩

def TabOk (w : World) (h : Heap) (tab : List (Int × Value)) (D : Doc) : Prop :=
  (∀ n : Int, 1 ≤ n → n ≤ D.many → ∃ tp t0 gd, valueAt tab n = some (.ref tp) ∧ Ha h tp (TO [.int 0 t0, gd]) ∧ GroupV w h gd (D.words n)) ∧ ∃ tp t0 rt, valueAt tab 20 = some (.ref tp) ∧ Ha h tp (TO [.int 0 t0, rt]) ∧ RootV w h rt D
theorem TabOk.mono {w : World} {h h' : Heap} {tab} {D : Doc} (x : TabOk w h tab D) (s : Sub h h') : TabOk w h' tab D :=
  ⟨fun n h1 h2 => let ⟨tp, t0, gd, p, q, r⟩ := x.1 n h1 h2; ⟨tp, t0, gd, p, q.keeps s, r.mono s⟩, let ⟨tp, t0, gd, p, q, r⟩ := x.2; ⟨tp, t0, gd, p, q.keeps s, r.mono s⟩⟩
/-- the shelf with all that stands in it -/
inductive ShOk (w : World) (h : Heap) (a : Addr) (D : Doc) : Prop
  | mk ta tra tab trl rr (q1 : ShelfH w h a ta tra tab trl) (q2 : TabOk w h tab D) (q3 : valueAt trl "Root" = some rr) (q4 : RefV w h rr 20) : ShOk w h a D
theorem ShOk.mono {w : World} {h h' : Heap} {a : Addr} {D : Doc} (x : ShOk w h a D) (s : Sub h h') : ShOk w h' a D :=
  let ⟨ta, tra, tab, trl, rr, p, q, r, t⟩ := x; ⟨ta, tra, tab, trl, rr, p.mono s, q.mono s, r, t.mono s⟩
/-- every number told is a group's -/
def Doc.Gr (D : Doc) (ns : List Int) : Prop := ∀ n ∈ ns, 1 ≤ n ∧ n ≤ D.many
structure Head.Ok (D : Doc) (H : Head) : Prop where
  on : D.Gr H.on
  off : D.Gr H.off
  locked : D.Gr H.locked
  rows : ∀ r ∈ H.rows, D.Gr r
  lon : H.on.length ≤ 100
  loff : H.off.length ≤ 100
  llocked : H.locked.length ≤ 100
  lrows : H.rows.length ≤ 100
  lrow : ∀ r ∈ H.rows, r.length ≤ 100
  lwords : H.words.length ≤ 100
  lcap : H.cap ≤ 1000
structure Doc.Ok (D : Doc) : Prop where
  many : D.many ≤ 5
  listed : D.Gr D.listed
  llisted : D.listed.length ≤ 100
  lwords : ∀ n, (D.words n).length ≤ 100
  d0 : D.d0.Ok D
  confs : ∀ H ∈ D.confs, H.Ok D
  lconfs : D.confs.length ≤ 100

/-- what fetch makes of a value -/
inductive Fet (w : World) (h : Heap) (tab : List (Int × Value)) : Value → Value → Prop
  | plain {v t} : KindV w h v t → kitOne (hd.heap_39 w.params) t (.ref 254) = some false → Fet w h tab v v
  | ref {v n tp t0 r t} : RefV w h v n → valueAt tab n = some (.ref tp) → Ha h tp (TO [.int 0 t0, r]) → KindV w h r t → kitOne (hd.heap_39 w.params) t (.ref 254) = some false → Fet w h tab v r
theorem Fet.mono {w : World} {h h' : Heap} {tab} {v r : Value} (x : Fet w h tab v r) (s : Sub h h') : Fet w h' tab v r := by
  cases x with
  | plain p q => exact .plain (p.mono s) q
  | ref p q r t u => exact .ref (p.mono s) q (r.keeps s) (t.mono s) u
theorem hideNil {h : Heap} : Sub h (hideAll h (([] : Led).map (·.1))) := fun _ _ e => e
end Mine

namespace Mine

def di (ns : List Int) : PyData := .list (ns.map .int)
def dii (nss : List (List Int)) : PyData := .list (nss.map di)

theorem eqv_ints : ∀ (xs ys : List Int), PyData.eqvAll (xs.map .int) (ys.map .int) = decide (xs = ys)
  | [], [] => rfl
  | [], _ :: _ => rfl
  | _ :: _, [] => rfl
  | x :: xs, y :: ys => by
    rw [List.map_cons, List.map_cons, PyData.eqvAll, eqv_ints xs ys, PyData.eqv]
    by_cases h1 : x = y <;> by_cases h2 : xs = ys <;> simp [h1, h2]
theorem eqv_di (xs ys : List Int) : PyData.eqv (di xs) (di ys) = decide (xs = ys) := by unfold di; rw [PyData.eqv]; exact eqv_ints xs ys
theorem eqv_rows : ∀ (xs ys : List (List Int)), PyData.eqvAll (xs.map di) (ys.map di) = decide (xs = ys)
  | [], [] => rfl
  | [], _ :: _ => rfl
  | _ :: _, [] => rfl
  | x :: xs, y :: ys => by
    rw [List.map_cons, List.map_cons, PyData.eqvAll, eqv_rows xs ys, eqv_di]
    by_cases h1 : x = y <;> by_cases h2 : xs = ys <;> simp [h1, h2]
theorem eqv_dii (xs ys : List (List Int)) : PyData.eqv (dii xs) (dii ys) = decide (xs = ys) := by unfold dii; rw [PyData.eqv]; exact eqv_rows xs ys
theorem lay_ints : ∀ (xs : List Int), PyData.canLayAll0 (xs.map .int) = true
  | [] => rfl
  | x :: xs => by rw [List.map_cons, PyData.canLayAll0, lay_ints xs]; rfl
theorem lay_di (xs : List Int) : (di xs).canLay0 = true := by unfold di; rw [PyData.canLay0]; exact lay_ints xs
theorem lay_rows : ∀ (xs : List (List Int)), PyData.canLayAll0 (xs.map di) = true
  | [] => rfl
  | x :: xs => by rw [List.map_cons, PyData.canLayAll0, lay_rows xs, lay_di]; rfl
theorem lay_dii (xs : List (List Int)) : (dii xs).canLay0 = true := by unfold dii; rw [PyData.canLay0]; exact lay_rows xs
theorem dep_ints : ∀ (xs : List Int), PyData.depthAll (xs.map .int) = 0
  | [] => rfl
  | x :: xs => by rw [List.map_cons, PyData.depthAll, dep_ints xs]; rfl
theorem dep_di (xs : List Int) : (di xs).depth = 1 := by unfold di; rw [PyData.depth, dep_ints]
theorem dep_rows : ∀ (xs : List (List Int)), PyData.depthAll (xs.map di) ≤ 1
  | [] => Nat.zero_le _
  | x :: xs => by rw [List.map_cons, PyData.depthAll, dep_di]; have := dep_rows xs; omega
theorem dep_dii (xs : List (List Int)) : (dii xs).depth ≤ 2 := by unfold dii; rw [PyData.depth]; have := dep_rows xs; omega

theorem any_ints (xs : List Int) (n : Int) : ((xs.map PyData.int).any fun y => PyData.eqv y (.int n)) = decide (n ∈ xs) := by
  induction xs with
  | nil => simp
  | cons x xs ih =>
    rw [List.map_cons, List.any_cons, ih, PyData.eqv]
    by_cases h : x = n
    · simp [h]
    · by_cases h2 : n ∈ xs <;> simp [h, h2, Ne.symm h]

theorem rdAll {α : Type} {R : Heap → Value → α → Prop} {F : α → PyData} {h : Heap} (k : ∀ v x, R h v x → ∃ as, Reads h v (F x) as) {vs : List Value} {xs : List α} (q : All2 (R h) vs xs) : ∃ as, ReadsAll h vs (xs.map F) as := by
  induction q with
  | nil => exact ⟨_, .nil⟩
  | cons r _ ih =>
    obtain ⟨_, r1⟩ := k _ _ r
    obtain ⟨_, r2⟩ := ih
    exact ⟨_, .cons r1 r2⟩
theorem rdL {α : Type} {R : Heap → Value → α → Prop} {F : α → PyData} {h : Heap} (k : ∀ v x, R h v x → ∃ as, Reads h v (F x) as) {v : Value} {xs : List α} (q : LV R h v xs) : ∃ as, Reads h v (.list (xs.map F)) as := by
  obtain ⟨a, vs, rfl, ⟨o, e, n, rfl⟩, q⟩ := q
  obtain ⟨as, r⟩ := rdAll k q
  exact ⟨_, .list e rfl rfl (by simpa using r)⟩
theorem rdI {h : Heap} {v : Value} {ns : List Int} (q : IntsV h v ns) : ∃ as, Reads h v (di ns) as := rdL (F := PyData.int) (fun v x z => by obtain ⟨t, rfl⟩ := z; exact ⟨_, Reads.int x t⟩) q
theorem rdII {h : Heap} {v : Value} {ns : List (List Int)} (q : LV IntsV h v ns) : ∃ as, Reads h v (dii ns) as := rdL (F := di) (fun v x r => rdI r) q

section
variable {w : World} {h : Heap} {A : Around} {E : Value → Shared → Prop} {gs : Array GenState} {dr : Drawn} {tk : Nat} {os : OsState} {v v' : Value} {Q : Value → Shared → Prop} {k : Nat}

theorem Room.cl {n : Nat} (R : Room k A) (hn : n ≤ 10) : A.units + n < cLine := by have := R.un; rw [cLine_is]; omega

theorem z_inI {ns : List Int} {n : Int} {t : Tok} (R : Room k A) (H : IntsV h v ns) (k' : Q (.bool (decide (n ∈ ns))) ⟨h, gs, dr, tk, os⟩) : wpAny (model PG w) A (compareOp .In (.int n t) v) Q E ⟨h, gs, dr, tk, os⟩ := by
  obtain ⟨as, r⟩ := rdI H
  exact PySem.SeqAt.in_list_reads (s := ⟨h, gs, dr, tk, os⟩) r (.int n t) (lay_ints ns) rfl (by rw [dep_ints, Nat.zero_min]; exact R.cl (by omega)) (by rw [any_ints]; exact k')
theorem z_notinI {ns : List Int} {n : Int} {t : Tok} (R : Room k A) (H : IntsV h v ns) (k' : Q (.bool (!decide (n ∈ ns))) ⟨h, gs, dr, tk, os⟩) : wpAny (model PG w) A (compareOp .NotIn (.int n t) v) Q E ⟨h, gs, dr, tk, os⟩ := by
  obtain ⟨as, r⟩ := rdI H
  exact PySem.SeqAt.notIn_list_reads (s := ⟨h, gs, dr, tk, os⟩) r (.int n t) (lay_ints ns) rfl (by rw [dep_ints, Nat.zero_min]; exact R.cl (by omega)) (by rw [any_ints]; exact k')
theorem z_eqI {ns ns' : List Int} (R : Room k A) (H : IntsV h v ns) (H' : IntsV h v' ns') (k' : Q (.bool (decide (ns = ns'))) ⟨h, gs, dr, tk, os⟩) : wpAny (model PG w) A (compareOp .Eq v v') Q E ⟨h, gs, dr, tk, os⟩ := by
  obtain ⟨as, r⟩ := rdI H
  obtain ⟨as', r'⟩ := rdI H'
  exact PySem.SeqAt.compareEq_reads (s := ⟨h, gs, dr, tk, os⟩) r r' (lay_di ns) (lay_di ns') (by rw [dep_di, dep_di]; exact R.cl (by decide)) (by rw [eqv_di]; exact k')
theorem z_neI {ns ns' : List Int} (R : Room k A) (H : IntsV h v ns) (H' : IntsV h v' ns') (k' : Q (.bool (!decide (ns = ns'))) ⟨h, gs, dr, tk, os⟩) : wpAny (model PG w) A (compareOp .NotEq v v') Q E ⟨h, gs, dr, tk, os⟩ := by
  obtain ⟨as, r⟩ := rdI H
  obtain ⟨as', r'⟩ := rdI H'
  exact PySem.SeqAt.compareNe_reads (s := ⟨h, gs, dr, tk, os⟩) r r' (lay_di ns) (lay_di ns') (by rw [dep_di, dep_di]; exact R.cl (by decide)) (by rw [eqv_di]; exact k')
theorem z_neII {ns ns' : List (List Int)} (R : Room k A) (H : LV IntsV h v ns) (H' : LV IntsV h v' ns') (k' : Q (.bool (!decide (ns = ns'))) ⟨h, gs, dr, tk, os⟩) : wpAny (model PG w) A (compareOp .NotEq v v') Q E ⟨h, gs, dr, tk, os⟩ := by
  obtain ⟨as, r⟩ := rdII H
  obtain ⟨as', r'⟩ := rdII H'
  refine PySem.SeqAt.compareNe_reads (s := ⟨h, gs, dr, tk, os⟩) r r' (lay_dii ns) (lay_dii ns') ?_ (by rw [eqv_dii]; exact k')
  have h1 := dep_dii ns
  exact R.cl (Nat.le_trans (Nat.min_le_left _ _) (by omega))

/-- a list against the empty list -/
theorem z_neNil {vs : List Value} {a b : Addr} (R : Room k A) (H : Ha h a (LO vs)) (H' : Ha h b (LO [])) (k' : Q (.bool (!vs.isEmpty)) ⟨h, gs, dr, tk, os⟩) : wpAny (model PG w) A (compareOp .NotEq (.ref a) (.ref b)) Q E ⟨h, gs, dr, tk, os⟩ := by
  cases vs with
  | nil => exact PySem.SeqAt.RcNeAt.lists (s := ⟨h, gs, dr, tk, os⟩) (e := fun _ => true) H.list H'.list rfl (R.cl (n := 0) (by decide)) (fun j h1 => absurd h1 (Nat.not_lt_zero _)) PG w E Q k'
  | cons v vs => exact PySem.SeqAt.RcNeAt.lists_lengths (s := ⟨h, gs, dr, tk, os⟩) H.list H'.list (by simp) (R.cl (n := 0) (by decide)) PG w E Q k'

theorem z_inS {ws : List Str} {x : Str} {t : Tok} (H : StrsV h v ws) (k' : Q (.bool (decide (x ∈ ws))) ⟨h, gs, dr, tk, os⟩) : wpAny (model PG w) A (compareOp .In (.str x t) v) Q E ⟨h, gs, dr, tk, os⟩ := by
  obtain ⟨a, vs, rfl, H, q⟩ := H
  refine PySem.SeqAt.in_listAt (s := ⟨h, gs, dr, tk, os⟩) (fun y => match y with | .str z _ => z == x | _ => false) H.list (fun y hy => ?_) ?_
  · obtain ⟨i, hi⟩ := List.mem_iff_getElem?.mp (by simpa using hy)
    obtain ⟨z, _, u, rfl⟩ := q.get hi
    exact PySem.SeqAt.EqAt.str_str z u x t
  · have : (vs.toArray.any fun y => match y with | .str z _ => z == x | _ => false) = decide (x ∈ ws) := by
      rw [List.any_toArray]
      clear H k'
      induction q with
      | nil => simp
      | cons r _ ih =>
        obtain ⟨u, rfl⟩ := r
        rw [List.any_cons, ih]
        rename_i b as bs _
        by_cases h1 : b = x
        · simp [h1]
        · by_cases h2 : x ∈ bs <;> simp [h1, h2, Ne.symm h1]
    rw [this]; exact k'

/-- what a call leaves, all that it made frozen -/
theorem St.done {b g h h' : Heap} {f f' : Fm} {m m' cm cm' : Str → Option Value} {gp gp' gr led led' : Led} {g1 : Heap} (S : St w b f g m cm (gp ++ gr) led h) (S' : St w b f' g1 m' cm' gp' led' h') (G : Gle f'.e g g1) (he : f'.e = hideAll h (gp.map (·.1)) := by rfl) (hpp : gp'.map (·.1) = gp.map (·.1) := by rfl) :
    ∃ g', Gle f.e g g' ∧ Sub g1 g' ∧ St w b f g' m cm (gp' ++ gr) led h' ∧ (∀ {l P}, (l, P) ∈ led' → Ha g' l P) ∧ Sub (hideAll h (gp.map (·.1))) h' := by
  obtain ⟨g', G', FZ, S5⟩ := St.freeze (new := led') (led := []) (by rw [List.append_nil]; exact S')
  have S6 := S.back he (G.trans G') S5 hpp
  exact ⟨g', S6.1, G'.1, S6.2, fun {l P} hm => FZ _ hm, fun a o e => S5.ke _ _ (by rw [he]; exact e)⟩

/-- steps that take a token, the state written out -/
theorem zc_int {env : Env} {i : Int} {kd : Nat} {pos : Pos} (k' : Q (.int i tk) ⟨h, gs, dr, tk + 1, os⟩) : wpAny (model PG w) A (eval (.Constant (.int i) kd pos) env) Q E ⟨h, gs, dr, tk, os⟩ := wpAny_Constant_int k'
theorem zc_str {env : Env} {x : Str} {kd : Nat} {pos : Pos} (k' : Q (.str x tk) ⟨h, gs, dr, tk + 1, os⟩) : wpAny (model PG w) A (eval (.Constant (.str x) kd pos) env) Q E ⟨h, gs, dr, tk, os⟩ := Calls.Constant_str k'
theorem zc_neg {a : Int} {t : Tok} (k' : Q (.int (-a) tk) ⟨h, gs, dr, tk + 1, os⟩) : wpAny (model PG w) A (unaryOp .USub (.int a t)) Q E ⟨h, gs, dr, tk, os⟩ := neg_int k'
theorem zc_add {a c : Int} {t u : Tok} (k' : Q (.int (a + c) tk) ⟨h, gs, dr, tk + 1, os⟩) : wpAny (model PG w) A (binaryOp .Add (.int a t) (.int c u)) Q E ⟨h, gs, dr, tk, os⟩ := PyProof.Rows.add_int k'
end
end Mine

namespace Mine
/- rules whose posts are letters: what a proof hands on stays small -/
section
variable {w : World} {b : Heap} {f : Fm} {g : Heap} {m cm : Str → Option Value} {gl gl' gp gr led led' : Led} {h h' : Heap} {A : Around} {E : Value → Shared → Prop} {env : Env} {gs : Array GenState} {dr : Drawn} {tk : Nat} {os : OsState} {x y : Str} {pos px py spos : Pos} {v : Value}
  {Q : Value → Shared → Prop} {QF : Flow → Shared → Prop} {QU : Unit → Shared → Prop} {a d dx C l : Addr} {P P' : Obj → Prop} {name : Str} {s : Shared} {its : List Value} {rest : List Stmt} {st : Stmt}
  {R : Result → Shared → Prop} {qual : Str} {params : Arguments} {body : List Stmt} {scope : Scope} {cl : List (Str × Addr)} {dV kV doc pm cdv ct oc : Value} {an od : Option Addr} {osl : Array (Option Value)} {fn : Addr} {args : Args} {binds : List (Str × Value)}

theorem nodup_cellsF {names : List (Str × NameKind)} {n : Nat} (h : ((cellsFrom 0 names []).map (·.1)).Nodup) : ((cellsFrom n names []).map (·.1)).Nodup := cellsFrom_names names 0 n [] [] rfl ▸ h
/-- what comes behind a statement -/
def thenP (w : World) (A : Around) (rest : List Stmt) (env : Env) (Q : Flow → Shared → Prop) (E : Value → Shared → Prop) : Flow → Shared → Prop := fun fl s => match fl with
  | .next => wpAny (model PG w) A (execs rest env) Q E s
  | f => Q f s
theorem zx_cons (k : wpAny (model PG w) A (exec st env) (thenP w A rest env QF E) E s) : wpAny (model PG w) A (execs (st :: rest) env) QF E s :=
  wpAny_execs_cons (wpAny_mono k (fun fl s' h => by cases fl <;> exact h) fun _ _ h => h)
theorem thenP_next (k : wpAny (model PG w) A (execs rest env) QF E s) : thenP w A rest env QF E .next s := k
theorem thenP_ret (k : QF (.ret v) s) : thenP w A rest env QF E (.ret v) s := k
theorem thenP_brk (k : QF .brk s) : thenP w A rest env QF E .brk s := k
theorem thenP_cont (k : QF .cont s) : thenP w A rest env QF E .cont s := k

/-- a store into a local: the names' map is a letter -/
theorem z_storeV (S : St w b f g m cm gl led h) (k : let m' : Str → Option Value := fun y => if y = x then some v else m y; ∀ h', St w b f g m' cm gl led h' → QU () ⟨h', gs, dr, tk + 1, os⟩) (hL : env.locals = f.L := by rfl) (hk : env.scope.kind = .function := by rfl) (hx : env.kindOf x = some .local := by rfl) :
    wpAny (model PG w) A (storeName env x v) QU E ⟨h, gs, dr, tk, os⟩ := z_store S k hL hk hx

/-- a def without cells of its own is entered: its posts, its surroundings and its frame are letters -/
theorem z_enterV {k : Nat} (S : St w b f g m cm (gp ++ gr) led h) (RM : Room (k + 1) A) (ho : (hd.heap_39 w.params).lookup fn = some ⟨oc, od, .func (fnX name qual params body scope cl dV kV doc pm an cdv ct), osl⟩) (hcd : codeIn (hd.heap_39 w.params) cdv qual = true)
    (hbind : BindsTo ⟨h, gs, dr, tk, os⟩ (fnX name qual params body scope cl dV kV doc pm an cdv ct) args binds) (hloc : ∀ y ∈ binds, scope.names.lookup y.1 = some .local)
    (hb : ∀ L' h₁ (Q' : Flow → Shared → Prop) (E' : Value → Shared → Prop), let A' : Around := A.deeper (envX qual scope L' fn cdv cl); let f' : Fm := ⟨L', [], hideAll h (gp.map (·.1))⟩; let m' : Str → Option Value := fun y => binds.reverse.lookup y; St w b f' g m' (fun _ => none) gp [] h₁ → Room k A' →
      (∀ v s', R (.ok (.ret v)) s' → Q' (.ret v) s') → (∀ s', R (.ok (.ret .none)) s' → Q' .next s') → (∀ e s', wpAny (model PG w) A' (leaving (envX qual scope L' fn cdv cl) e) (fun _ s'' => R (.error e) s'') (fun e' s'' => R (.error e') s'') s' → E' e s') →
      wpAny (model PG w) A' (execs body (envX qual scope L' fn cdv cl)) Q' E' ⟨h₁, gs, dr, tk + binds.length, os⟩)
    (hcell : ∀ x ∈ scope.names, x.2 ≠ .cell) (hco : scope.isCoroutine = false := by rfl) (hgen : scope.isGenerator = false := by rfl) (hk : scope.kind = .function := by rfl) : codeAny (model PG w) A (.call (.ref fn) args) R ⟨h, gs, dr, tk, os⟩ :=
  z_enter S RM ho hcd hbind hloc (fun L' h₁ S' RM' => hb L' h₁ _ _ S' RM' (fun _ _ z => z) (fun _ z => z) (fun _ _ z => z)) hcell hco hgen hk
theorem z_enterCV {k : Nat} (S : St w b f g m cm (gp ++ gr) led h) (RM : Room (k + 1) A) (ho : (hd.heap_39 w.params).lookup fn = some ⟨oc, od, .func (fnX name qual params body scope [] dV kV doc pm an cdv ct), osl⟩) (hcd : codeIn (hd.heap_39 w.params) cdv qual = true)
    (hbind : BindsTo ⟨h, gs, dr, tk, os⟩ (fnX name qual params body scope [] dV kV doc pm an cdv ct) args binds)
    (hkind : (binds.all fun y => scope.names.lookup y.1 == some .local || scope.names.lookup y.1 == some .cell) = true)
    (hnd : ((cellsFrom 0 scope.names []).map (·.1)).Nodup)
    (hb : ∀ L' h₁ tk' (Q' : Flow → Shared → Prop) (E' : Value → Shared → Prop), let A' : Around := A.deeper (envOfC qual scope L' fn cdv); let f' : Fm := ⟨L', cellsFrom (L' + 1) scope.names [], hideAll h (gp.map (·.1))⟩; let m' : Str → Option Value := bindL (envOfC qual scope L' fn cdv).kindOf binds fun _ => none; let cm' : Str → Option Value := bindC (envOfC qual scope L' fn cdv).kindOf binds fun _ => none; St w b f' g m' cm' gp [] h₁ → Room k A' →
      (∀ v s', R (.ok (.ret v)) s' → Q' (.ret v) s') → (∀ s', R (.ok (.ret .none)) s' → Q' .next s') → (∀ e s', wpAny (model PG w) A' (leaving (envOfC qual scope L' fn cdv) e) (fun _ s'' => R (.error e) s'') (fun e' s'' => R (.error e') s'') s' → E' e s') →
      wpAny (model PG w) A' (execs body (envOfC qual scope L' fn cdv)) Q' E' ⟨h₁, gs, dr, tk', os⟩)
    (hco : scope.isCoroutine = false := by rfl) (hgen : scope.isGenerator = false := by rfl) (hk : scope.kind = .function := by rfl) : codeAny (model PG w) A (.call (.ref fn) args) R ⟨h, gs, dr, tk, os⟩ :=
  z_enterC S RM ho hcd hbind hkind hnd (fun L' h₁ tk' S' RM' => hb L' h₁ tk' _ _ S' RM' (fun _ _ z => z) (fun _ z => z) (fun _ _ z => z)) hco hgen hk

/-- the ways out of a loop's turn -/
def onward : Flow → Bool
  | .next => true
  | .cont => true
  | _ => false
/-- what a turn owes -/
def LoopK (w : World) (b : Heap) (f : Fm) (e' : Heap) (gs : Array GenState) (dr : Drawn) (os : OsState) (g : Heap) (J : Heap → (Str → Option Value) → (Str → Option Value) → Led → Led → Prop) (Q : Flow → Shared → Prop) : Prop :=
  ∀ fl g' m' cm' gl' led' h' tk', onward fl = true → St w b ⟨f.L, f.cl, e'⟩ g' m' cm' gl' led' h' → Gle e' g g' → J g' m' cm' gl' led' → Q fl ⟨h', gs, dr, tk', os⟩
theorem LoopK.go {e' : Heap} {J : Heap → (Str → Option Value) → (Str → Option Value) → Led → Led → Prop} {fl : Flow} {g' : Heap} (H : LoopK w b f e' gs dr os g J QF) (S : St w b ⟨f.L, f.cl, e'⟩ g' m cm gl led h) (G : Gle e' g g') (j : J g' m cm gl led) (ho : onward fl = true := by rfl) : QF fl ⟨h, gs, dr, tk, os⟩ :=
  H _ _ _ _ _ _ _ _ ho S G j
theorem LoopK.post {e' : Heap} {J : Heap → (Str → Option Value) → (Str → Option Value) → Led → Led → Prop} : LoopK w b f e' gs dr os g J (LoopPost w b f e' gs dr os (fun g₂ m₂ cm₂ gl₂ led₂ => Gle e' g g₂ ∧ J g₂ m₂ cm₂ gl₂ led₂) R) := by
  intro fl g' m' cm' gl' led' h' tk' ha S G j
  cases fl with
  | next => exact ⟨_, _, _, _, _, _, _, rfl, S, G, j⟩
  | cont => exact ⟨_, _, _, _, _, _, _, rfl, S, G, j⟩
  | brk => cases ha
  | ret v => cases ha
/-- for x in a list -/
theorem z_forLQ (S : St w b f g m cm gl led h) (hh : A.handled = none) (hl : Ha h l (LO its)) (O : Off b f g gl led l)
    (hx : env.kindOf x = some .local) (hke : env.scope.kind = .function) (hL : env.locals = f.L)
    (J : Nat → Heap → (Str → Option Value) → (Str → Option Value) → Led → Led → Prop) (j0 : J 0 g m cm gl led)
    (turn : ∀ i v e' g₁ m₁ cm₁ gl₁ led₁ h₁ tk₁ (Q' : Flow → Shared → Prop), let J' := J (i + 1); its[i]? = some v → Sub f.e e' → Gle f.e g g₁ → let f' : Fm := ⟨f.L, f.cl, e'⟩; let m' : Str → Option Value := fun y => if y = x then some v else m₁ y; St w b f' g₁ m' cm₁ gl₁ led₁ h₁ →
      LoopK w b f e' gs dr os g₁ J' Q' → (∀ v s', R (.ok (.ret v)) s' → Q' (.ret v) s') → (∀ s', R (.ok .next) s' → Q' .brk s') → J i g₁ m₁ cm₁ gl₁ led₁ →
      wpAny (model PG w) A (execs body env) Q' (fun _ _ => False) ⟨h₁, gs, dr, tk₁, os⟩)
    (done : ∀ g₁ m₁ cm₁ gl₁ led₁ h₁ tk₁, J its.length g₁ m₁ cm₁ gl₁ led₁ → Gle f.e g g₁ → St w b f g₁ m₁ cm₁ gl₁ led₁ h₁ → R (.ok .next) ⟨h₁, gs, dr, tk₁, os⟩) :
    wpAny (model PG w) A (pyIter (.ref l)) (fun it s₂ => codeAny (model PG w) A (.forLoop (.Name x px) it body [] env) R s₂) E ⟨h, gs, dr, tk, os⟩ :=
  z_forL S hh hl O hx hke hL J j0 (fun i v e' g₁ m₁ cm₁ gl₁ led₁ h₁ tk₁ hi j hs hG S1 => turn i v e' g₁ m₁ cm₁ gl₁ led₁ h₁ tk₁ _ hi hs hG S1 LoopK.post (fun _ _ z => z) (fun _ z => z) j) done
/-- for x in range(a, a + n) -/
theorem z_forRQ {r : Addr} {a₀ : Int} {c : Int} {t u v' : Tok} {n : Nat} (S : St w b f g m cm gl led h) (hh : A.handled = none) (hr : IsRange h r a₀ c 1 t u v') (hsm : Builtin.Range.small a₀ c 1 = true) (hn : Builtin.Range.rangeSize a₀ c 1 = (n : Int))
    (hx : env.kindOf x = some .local) (hke : env.scope.kind = .function) (hL : env.locals = f.L)
    (J : Nat → Heap → (Str → Option Value) → (Str → Option Value) → Led → Led → Prop) (j0 : J 0 g m cm gl led)
    (turn : ∀ i t e' g₁ m₁ cm₁ gl₁ led₁ h₁ tk₁ (Q' : Flow → Shared → Prop), let J' := J (i + 1); i < n → Sub f.e e' → Gle f.e g g₁ → let f' : Fm := ⟨f.L, f.cl, e'⟩; let m' : Str → Option Value := fun y => if y = x then some (.int (a₀ + (i : Int)) t) else m₁ y; St w b f' g₁ m' cm₁ gl₁ led₁ h₁ →
      LoopK w b f e' gs dr os g₁ J' Q' → (∀ v s', R (.ok (.ret v)) s' → Q' (.ret v) s') → (∀ s', R (.ok .next) s' → Q' .brk s') → J i g₁ m₁ cm₁ gl₁ led₁ →
      wpAny (model PG w) A (execs body env) Q' (fun _ _ => False) ⟨h₁, gs, dr, tk₁, os⟩)
    (done : ∀ g₁ m₁ cm₁ gl₁ led₁ h₁ tk₁, J n g₁ m₁ cm₁ gl₁ led₁ → Gle f.e g g₁ → St w b f g₁ m₁ cm₁ gl₁ led₁ h₁ → R (.ok .next) ⟨h₁, gs, dr, tk₁, os⟩) :
    wpAny (model PG w) A (pyIter (.ref r)) (fun it s₂ => codeAny (model PG w) A (.forLoop (.Name x px) it body [] env) R s₂) E ⟨h, gs, dr, tk, os⟩ :=
  z_forR S hh hr hsm hn hx hke hL J j0 (fun i v e' g₁ m₁ cm₁ gl₁ led₁ h₁ tk₁ hi j hs hG S1 => turn i v e' g₁ m₁ cm₁ gl₁ led₁ h₁ tk₁ _ hi hs hG S1 LoopK.post (fun _ _ z => z) (fun _ z => z) j) done

/-- what an element of a comprehension owes, and a turn that the test leaves out -/
def CompQ (w : World) (b : Heap) (C : Addr) (e' : Heap) (gs : Array GenState) (dr : Drawn) (os : OsState) (g : Heap) (ys : List Value) (J : List Value → Heap → Led → Prop) (Q : Value → Shared → Prop) : Prop :=
  ∀ y g' m' gl' led' h' tk', St w b ⟨C, [], e'⟩ g' m' (fun _ => none) gl' led' h' → Gle e' g g' → J (ys ++ [y]) g' gl' → Q y ⟨h', gs, dr, tk', os⟩
def CompN (w : World) (b : Heap) (C : Addr) (e' : Heap) (gs : Array GenState) (dr : Drawn) (os : OsState) (g : Heap) (ys : List Value) (J : List Value → Heap → Led → Prop) (Q : Shared → Prop) : Prop :=
  ∀ g' m' gl' led' h' tk', St w b ⟨C, [], e'⟩ g' m' (fun _ => none) gl' led' h' → Gle e' g g' → J ys g' gl' → Q ⟨h', gs, dr, tk', os⟩
theorem CompQ.go {e' : Heap} {ys : List Value} {J : List Value → Heap → Led → Prop} {g' : Heap} (H : CompQ w b C e' gs dr os g ys J Q) (S : St w b ⟨C, [], e'⟩ g' m (fun _ => none) gl led h) (G : Gle e' g g') (j : J (ys ++ [v]) g' gl) : Q v ⟨h, gs, dr, tk, os⟩ := H _ _ _ _ _ _ _ S G j
theorem CompN.go {e' : Heap} {ys : List Value} {J : List Value → Heap → Led → Prop} {g' : Heap} {QS : Shared → Prop} (H : CompN w b C e' gs dr os g ys J QS) (S : St w b ⟨C, [], e'⟩ g' m (fun _ => none) gl led h) (G : Gle e' g g') (j : J ys g' gl) : QS ⟨h, gs, dr, tk, os⟩ := H _ _ _ _ _ _ S G j
def CompTurnQ (w : World) (b : Heap) (A : Around) (gs : Array GenState) (dr : Drawn) (os : OsState) (x : Str) (ifs : List Expr) (elt : Expr) (scope : Scope) (cl : List (Str × Addr)) (env : Env) (eh g : Heap) (n : Nat) (PI : Nat → Value → Prop) (J : Nat → List Value → Heap → Led → Prop) : Prop :=
  ∀ C i v e' ys g₁ (m₁ : Str → Option Value) gl₁ h₁ tk₁ (Qy : Value → Shared → Prop) (Qn : Shared → Prop), let J' := J (i + 1); i < n → PI i v → Sub eh e' → Gle eh g g₁ → let f' : Fm := ⟨C, [], e'⟩; let m' : Str → Option Value := fun y => if y = x then some v else m₁ y; St w b f' g₁ m' (fun _ => none) gl₁ [] h₁ →
    CompQ w b C e' gs dr os g₁ ys J' Qy → CompN w b C e' gs dr os g₁ ys J' Qn → J i ys g₁ gl₁ →
      wpAny (model PG w) A (tests ifs (compEnvC scope cl C env)) (fun ok s₂ => if ok = true then wpAny (model PG w) A (eval elt (compEnvC scope cl C env)) Qy (fun _ _ => False) s₂ else Qn s₂) (fun _ _ => False) ⟨h₁, gs, dr, tk₁, os⟩
theorem CompTurnQ.turn {ifs : List Expr} {elt : Expr} {eh : Heap} {n : Nat} {PI : Nat → Value → Prop} {J : Nat → List Value → Heap → Led → Prop} (T : CompTurnQ w b A gs dr os x ifs elt scope cl env eh g n PI J) : CompTurn w b A gs dr os x ifs elt scope cl env eh g n PI J :=
  fun C i v e' ys g₁ m₁ gl₁ h₁ tk₁ hi hp j hs hG S => T C i v e' ys g₁ m₁ gl₁ h₁ tk₁ _ _ hi hp hs hG S (fun _ _ _ _ _ _ _ S G j => ⟨_, _, _, _, _, _, rfl, S, G, j⟩) (fun _ _ _ _ _ _ S G j => ⟨_, _, _, _, _, _, rfl, S, G, j⟩) j
end
end Mine

namespace Mine
section
local macro_rules | `(tactic| walk_at "S") => `(tactic| with_reducible assumption)
local macro_rules | `(tactic| walk_at "Znm") => `(tactic| first
  | refine z_local (by assumption) (by first | exact rfl | assumption) ?_ rfl rfl rfl (by decide)
  | refine z_cellF (by assumption) rfl rfl (by first | exact rfl | assumption) ?_ rfl rfl (by decide)
  | refine z_global (by assumption) (by k_is) ?_ rfl rfl rfl (by decide)
  | refine z_builtin (by assumption) (by k_is) (by boot_fast) ?_ (by decide) rfl rfl rfl rfl (by decide)
  | refine z_cellE (by assumption) rfl (by assumption) ?_ rfl rfl (by decide)
  | refine z_cellG (by assumption) rfl (by assumption) ?_ rfl rfl (by decide)
  | refine z_freeG (by assumption) rfl (by assumption) ?_ rfl rfl (by decide) (by decide))
local macro_rules | `(tactic| walk_at "Zst") => do
  let m := Lean.mkIdent `m9
  `(tactic| first
  | (refine z_storeV (by assumption) ?_ rfl rfl rfl; intro $m:ident _ _)
  | (refine z_storeC2 (by assumption) rfl rfl (by first | decide | exact nodup_cellsF (by decide) | (simp (config := {zetaDelta := true}) only [List.map_cons, List.map_nil]; decide)) ?_ rfl rfl; intro _ _))
local macro_rules | `(tactic| walk_at "Zret") => do
  let a := Lean.mkIdent `hret9
  let c := Lean.mkIdent `hr9
  let d := Lean.mkIdent `hnext9
  `(tactic| first | with_reducible refine $a _ _ ?_ | with_reducible refine $c _ _ ?_ | with_reducible refine $d _ ?_ | fail "Zret")
local macro_rules | `(tactic| walk_at "Zif") => `(tactic| with_reducible refine wpAny_If ?_)
local macro_rules | `(tactic| walk_at "Z") => `(tactic| first
  | ((with_reducible show wpAny _ _ (eval _ _) _ _ _); first
    | ((with_reducible show wpAny _ _ (eval (Expr.Name _ _) _) _ _ _); walk_at "Znm")
    | with_reducible (first | refine zc_int ?_ | refine zc_str ?_ | refine Constant_none ?_ | refine Constant_bool ?_)
    | ((with_reducible show wpAny _ _ (eval (Expr.Compare _ [_] [_] _) _) _ _ _); refine wpAny_Compare1 ?_)
    | with_reducible (first | refine wpAny_BinOp ?_ | refine UnaryOp_ ?_ | refine IfExp_ ?_ | refine BoolOp_one ?_ | refine BoolOp_and ?_ | refine BoolOp_or ?_ | refine Subscript_ ?_ | refine List_ ?_ | refine Tuple_ ?_)
    | ((with_reducible show wpAny _ _ (eval (Expr.Attribute (Expr.Name _ _) _ _) _) _ _ _); refine Attribute_Name_ ?_)
    | ((with_reducible show wpAny _ _ (eval (Expr.Attribute _ _ _) _) _ _ _); refine Attribute_any_ ?_)
    | ((with_reducible show wpAny _ _ (eval (Expr.Call (Expr.Attribute _ _ _) _ [] _) _) _ _ _); refine MethodCall_ ?_)
    | ((with_reducible show wpAny _ _ (eval (Expr.Call _ _ [] _) _) _ _ _); refine Call_ ?_))
  | ((with_reducible show wpAny _ _ (execs _ _) _ _ _); first
    | with_reducible (first | refine zx_cons ?_ | refine wpAny_execs_nil ?_))
  | ((with_reducible show wpAny _ _ (storeName _ _ _) _ _ _); walk_at "Zst")
  | ((with_reducible show wpAny _ _ (spliced _) _ _ _); first
    | ((with_reducible show wpAny _ _ (spliced (backTo _ (starEach (_ :: _) _))) _ _ _); refine spliced_more ?_)
    | with_reducible refine spliced_none ?_)
  | ((with_reducible show wpAny _ _ (exec _ _) _ _ _); first
    | ((with_reducible show wpAny _ _ (exec (Stmt.Assign [Expr.Name _ _] _ _) _) _ _ _); refine wpAny_Assign_Name ?_)
    | ((with_reducible show wpAny _ _ (exec (Stmt.Assign [Expr.Attribute _ _ _] _ _) _) _ _ _); refine plainObj_wpAny_Assign_Attribute ?_)
    | ((with_reducible show wpAny _ _ (exec (Stmt.Assign [Expr.Subscript _ _ _] _ _) _) _ _ _); refine wpAny_Assign_Subscript ?_)
    | ((with_reducible show wpAny _ _ (exec (Stmt.Assign [Expr.Tuple _ _ _] _ _) _) _ _ _); refine Assign_Tuple ?_)
    | with_reducible (first | refine wpAny_Return_some ?_ | refine wpAny_Return_none ?_)
    | ((with_reducible show wpAny _ _ (exec (Stmt.Expr _ _) _) _ _ _); refine wpAny_Expr_any ?_))
  | ((with_reducible show wpAny _ _ (isTrue _ _ _) _ _ _); first
    | ((with_reducible show wpAny _ _ (isTrue (Expr.Compare _ [_] [_] _) _ _) _ _ _); refine wpAny_isTrue_Compare1 ?_)
    | with_reducible (first | refine isTrue_not ?_ | refine isTrue_and ?_ | refine isTrue_and_nil ?_ | refine isTrue_or ?_ | refine isTrue_or_nil ?_)
    | ((with_reducible show wpAny _ _ (isTrue (Expr.Call _ _ _ _) _ _) _ _ _); refine isTrue_plain ?_)
    | ((with_reducible show wpAny _ _ (isTrue (Expr.Name _ _) _ _) _ _ _); refine isTrue_plain ?_))
  | ((with_reducible show wpAny _ _ (callWith _ _ _ _ _) _ _ _); first
    | ((with_reducible show wpAny _ _ (callWith _ (Value.ref _) _ (backTo _ (starEach (_ :: _) _)) []) _ _ _); refine' z_cw ?k ?_; (case k => k_is))
    | ((with_reducible show wpAny _ _ (callWith _ (Value.ref _) _ (backTo _ (starEach [] _)) []) _ _ _); refine' z_cw0 ?s ?k ?_; (case s => assumption); (case k => k_is))
    | ((with_reducible show wpAny _ _ (callWith _ (Value.builtin _) [] (backTo _ (starEach (_ :: _) _)) []) _ _ _); refine PyProof.Rows.callWith_builtin1 ?_)
    | ((with_reducible show wpAny _ _ (callWith _ (Value.builtin _) _ (backTo _ (starEach (_ :: _) _)) []) _ _ _); refine callWith_method1 ?_)
    | ((with_reducible show wpAny _ _ (callWith _ (Value.type _) [] (backTo _ (starEach (_ :: _) _)) []) _ _ _); refine Pv.callWith_type1 ?_))
  | ((with_reducible show Frag.In _ _ ∧ _); refine ⟨St.K (by assumption), ?_⟩)
  | ((with_reducible show wpAny _ _ (newList _) _ _ _); refine' z_newList ?s ?_; (case s => assumption); intro _ _ _ _)
  | ((with_reducible show wpAny _ _ (evalPairs _) _ _ _); first
    | with_reducible (first | refine pairTrees_cons_walk ?_ | refine pairTrees_nil_walk ?_))
  | ((with_reducible show wpAny _ _ (newTuple _) _ _ _); refine' z_newTuple ?s ?_; (case s => assumption); intro _ _ _ _)
  | with_reducible refine wpAny_truthy_bool ?_
  | ((with_reducible show wpAny _ _ (unaryOp _ _) _ _ _); first
    | with_reducible (first | refine not_of ?_ | refine zc_neg ?_))
  | with_reducible refine zc_add ?_
  | ((with_reducible show wpAny _ _ (compareOp _ _ _) _ _ _); first
    | with_reducible (first | refine eq_int ?_ | refine ne_int ?_ | refine lt_int ?_ | refine gt_int ?_ | refine ge_int ?_ | refine eq_str ?_ | refine ne_str ?_ | refine is_none_none ?_ | refine is_ref_none ?_ | refine isnot_none_none ?_ | refine isnot_ref_none ?_))
  | ((with_reducible show thenP _ _ _ _ _ _ _ _); first | with_reducible refine thenP_next ?_ | with_reducible refine thenP_ret ?_ | with_reducible refine thenP_brk ?_ | with_reducible refine thenP_cont ?_)
  | ((with_reducible show (if true = true then _ else _)); refine if_t rfl ?_)
  | ((with_reducible show (if (!false) = true then _ else _)); refine if_t rfl ?_)
  | ((with_reducible show (if (!true) = true then _ else _)); refine if_f rfl ?_)
  | ((with_reducible show (if false = true then _ else _)); refine if_f rfl ?_)
  | walk_at "Zret")
section
variable {w : World} {b : Heap} {f : Fm} {g : Heap} {m cm : Str → Option Value} {gl gl' gp gr led led' : Led} {h h' X : Heap} {A : Around} {E : Value → Shared → Prop} {env : Env} {gs : Array GenState} {dr : Drawn} {tk : Nat} {os : OsState} {x y : Str} {pos px py spos : Pos} {v t c r : Value}
  {Q : Value → Shared → Prop} {QF : Flow → Shared → Prop} {QU : Unit → Shared → Prop} {a d dx C l ta tra : Addr} {P P' : Obj → Prop} {name : Str} {s : Shared} {e : Expr} {rest : List Expr} {its : List Value} {value slice : Expr} {tab : List (Int × Value)} {trl : List (Str × Value)} {kvs : List (Str × Value)} {D : Doc} {H : Head} {o : Option Value} {ns : List Int} {ws : List Str}

theorem z_unpack2 {t : Addr} {n1 n2 : Str} {v1 v2 : Value} {k : Nat} (S : St w b f g m cm gl led h) (hh : A.handled = none) (ht : Ha h t (TO [v1, v2]))
    (k' : ∀ h' tk', St w b f g (fun y => if y = n2 then some v2 else if y = n1 then some v1 else m y) cm gl led h' → Sub (hideAll h [f.L]) h' → QU () ⟨h', gs, dr, tk', os⟩) (hL : env.locals = f.L) (hk : env.scope.kind = .function) (q1 : env.kindOf n1 = some .local) (q2 : env.kindOf n2 = some .local) :
    wpAny (model PG w) A (assign (.Tuple [.Name n1 px, .Name n2 py] k pos) env (.ref t)) QU E ⟨h, gs, dr, tk, os⟩ := by
  refine wpAny_assign_Tuple (s := ⟨h, gs, dr, tk, os⟩) (items := #[v1, v2]) hh ht.tup rfl rfl fun h' he => ?_
  have S1 := S.keeps (h' := h') (fun a o e => he a o (Nat.ne_of_lt (Heap.lt_size e)) e)
  refine assignInOrder_cons ?_
  show wpAny _ _ (assign (.Name n1 px) env v1) _ _ _
  refine assign_Name ?_
  refine wpAny_storeName_local q1 (by rw [hL]; exact S1.ns) (fun h2 hn2 hs2 => ?_) (by rw [hk]; rfl)
  rw [hL] at hn2 hs2
  have S2 := S1.locals hn2 hs2
  refine assignInOrder_cons ?_
  show wpAny _ _ (assign (.Name n2 py) env v2) _ _ _
  refine assign_Name ?_
  refine wpAny_storeName_local q2 (by rw [hL]; exact S2.ns) (fun h3 hn3 hs3 => ?_) (by rw [hk]; rfl)
  rw [hL] at hn3 hs3
  refine assignInOrder_nil ?_
  refine k' _ _ (S2.locals hn3 hs3) fun a o e => ?_
  have e1 := of_hideAll _ e
  have ne : a ≠ f.L := fun q => by rw [q, hideAll_none _ (.head _)] at e; cases e
  exact (hs3.2 a ne).trans ((hs2.2 a ne).trans (he a o (Nat.ne_of_lt (Heap.lt_size e1)) e1))
theorem z_attr {expr : Bool} (S : St w b f g m cm gl led h) (I : Ha h a (IO C dx)) (D : Ha h dx (SD w dx kvs)) (hl : valueAt kvs name = some v) (hg : plainGet (hd.heap_39 w.params) C name = true) (hh : hasDictIn (hd.heap_39 w.params) C = true)
    (ha : findIn (hd.heap_39 w.params) (.ref C) name = some none) (hv : handedIn v = true) (k : Q v ⟨h, gs, dr, tk + 1, os⟩) :
    wpAny (model PG w) A (getAttr (.ref a) name expr) Q E ⟨h, gs, dr, tk, os⟩ := z_getAttr S I D hl hg hh ha rfl hv k
theorem kit_same {K : Frag} (e : (t == t) = true) : kitOne K t t = some true := by unfold kitOne; rw [if_pos e]
theorem fetch_plain (S : St w b f g m cm gl led h) (RM : Room 3 A) (kd : KindV w h v t) (hn : kitOne (hd.heap_39 w.params) t (.ref 254) = some false)
    (k : ∀ h' tk', St w b f g m cm gl led h' → Sub h h' → Q v ⟨h', gs, dr, tk', os⟩) : wpAny (model PG w) A (call (.ref 299) [.ref a, v] []) Q E ⟨h, gs, dr, tk, os⟩ := by
  refine wpAny_call ?_
  refine' z_enterV (gp := []) (gr := gl) (binds := [("self", .ref a), ("value", v)]) S RM ?k1 ?k2 ?k3 ?k4 ?_ ?k5 ?k6 ?k7 ?k8
  case k1 => k_is
  case k2 => k_is
  case k3 => exact BindsTo.of_eq rfl
  case k4 => exact locs rfl
  case k5 => decide
  case k6 => rfl
  case k7 => rfl
  case k8 => rfl
  intro L' h1 Q9 E9 A9 f9 m9 S1 RM1 hret9 hnext9 hE9
  repeat' (first | walk_at "Z" | walk_at "Zif")
  refine wpAny_For ?_
  repeat' (first | walk_at "Z" | walk_at "Zif")
  refine' z_range ?s ?_
  case s => assumption
  intro r h2 tk2 t1 u1 v1 hr S2 sub2
  refine' z_forRQ (n := 30) S2 RM1.hh hr (by decide) (by decide) rfl rfl rfl (fun i g₁ m₁ cm₁ gl₁ led₁ => i = 0 ∧ g = g₁ ∧ gl₁ = [] ∧ led₁ = [] ∧ m₁ "here" = some v) ⟨rfl, rfl, rfl, rfl, rfl⟩ ?_ ?_
  · intro i ti e' g₁ m₁ cm₁ gl₁ led₁ h₁ tk₁ Q9 J9 hi hs hG f9 m9 S3 hn9 hr9 hb9 j9
    obtain ⟨rfl, rfl, rfl, rfl, hm⟩ := j9
    have sb : Sub h h₁ := fun a o e => S3.ke _ _ (hs _ _ e)
    repeat' (first | walk_at "Z" | walk_at "Zif")
    refine z_isi S3 (kd.mono sb) hn ?_
    intro tk'
    repeat' (first | walk_at "Z" | walk_at "Zif")
    exact k _ _ ((S.back (gp := []) (gr := gl) rfl (Gle.refl _ _) (S3.unprot hs) rfl).2) sb
  · rintro g₁ m₁ cm₁ gl₁ led₁ h₁ tk₁ ⟨q, _⟩
    cases q

theorem fetch_spec (S : St w b f g m cm gl led h) (RM : Room 3 A) (sX : Sub X h) (SH : ShelfH w X a ta tra tab trl) (FT : Fet w X tab v r)
    (k : ∀ h' tk', St w b f g m cm gl led h' → Sub h h' → Q r ⟨h', gs, dr, tk', os⟩) : wpAny (model PG w) A (call (.ref 299) [.ref a, v] []) Q E ⟨h, gs, dr, tk, os⟩ := by
  cases FT with
  | plain p q => exact fetch_plain S RM (p.mono sX) q k
  | ref p q z u hn =>
  rename_i n tp t0 t
  obtain ⟨dx, I1, D1, T1, R1⟩ := SH
  obtain ⟨ar, dr', t1, t2, rfl, I2, D2⟩ := id p
  refine wpAny_call ?_
  refine' z_enterV (gp := []) (gr := gl) (binds := [("self", .ref a), ("value", .ref ar)]) S RM ?k1 ?k2 ?k3 ?k4 ?_ ?k5 ?k6 ?k7 ?k8
  case k1 => k_is
  case k2 => k_is
  case k3 => exact BindsTo.of_eq rfl
  case k4 => exact locs rfl
  case k5 => decide
  case k6 => rfl
  case k7 => rfl
  case k8 => rfl
  intro L' h1 Q9 E9 A9 f9 m9 S1 RM1 hret9 hnext9 hE9
  repeat' (first | walk_at "Z" | walk_at "Zif")
  refine wpAny_For ?_
  repeat' (first | walk_at "Z" | walk_at "Zif")
  refine' z_range ?s ?_
  case s => assumption
  intro rr h2 tk2 t1 u1 v1 hr S2 sub2
  refine' z_forRQ (n := 30) S2 RM1.hh hr (by decide) (by decide) rfl rfl rfl (fun i g₁ m₁ cm₁ gl₁ led₁ => i ≤ 1 ∧ g₁ = g ∧ gl₁ = [] ∧ m₁ "self" = some (.ref a) ∧ m₁ "here" = some (if i = 0 then .ref ar else r)) ⟨by decide, rfl, rfl, rfl, rfl⟩ ?_ ?_
  · intro i ti e' g₁ m₁ cm₁ gl₁ led₁ h₁ tk₁ Q9 J9 hi hs hG f9 m9 S3 hn9 hr9 hb9 j9
    obtain ⟨hi1, rfl, rfl, hm1, hm⟩ := j9
    have sb : Sub h h₁ := fun a o e => S3.ke _ _ (hs _ _ e)
    have sx : Sub X h₁ := fun a o e => sb _ _ (sX _ _ e)
    by_cases h0 : i = 0
    · subst h0
      rw [if_pos rfl] at hm
      repeat' (first | walk_at "Z" | walk_at "Zif")
      refine z_isi S3 (p.kind.mono sx) (b' := true) (kit_same (by decide)) ?_
      intro tk'
      repeat' (first | walk_at "Z" | walk_at "Zif")
      refine' z_attr S3 (I1.keeps sx) (D1.keeps sx) rfl ?k1 ?k2 ?k3 rfl ?_
      case k1 => k_is
      case k2 => k_is
      case k3 => k_is
      refine zz_getM (T1.keeps sx).id ?_
      repeat' (first | walk_at "Z" | walk_at "Zif")
      refine' z_attr S3 (I2.keeps sx) (D2.keeps sx) rfl ?k1 ?k2 ?k3 rfl ?_
      case k1 => k_is
      case k2 => k_is
      case k3 => k_is
      repeat' (first | walk_at "Z" | walk_at "Zif")
      rename_i lt h4 S4 nlt
      have sx4 : Sub X h4 := fun a o e => S4.ke _ _ (hs _ _ (sX _ _ e))
      refine zz_get2 (kk := n) (T1.keeps sx4).id T1.idn (iis _ _) ?_
      rw [q]
      refine z_unpack2 S4 RM1.hh (z.keeps sx4) ?_ rfl rfl rfl rfl
      intro h5 tk5 S5 _
      have sx5 : Sub X h5 := fun a o e => S5.ke _ _ (hs _ _ (sX _ _ e))
      repeat' (first | walk_at "Z" | walk_at "Zif")
      refine' z_attr S5 (I2.keeps sx5) (D2.keeps sx5) rfl ?k1 ?k2 ?k3 rfl ?_
      case k1 => k_is
      case k2 => k_is
      case k3 => k_is
      repeat' (first | walk_at "Z" | walk_at "Zif")
      refine if_f rfl ?_
      repeat' (first | walk_at "Z" | walk_at "Zif")
      rename_i h6 S6
      exact hn9.go S6 (Gle.refl _ _) ⟨by decide, rfl, rfl, hm1, rfl⟩
    · rw [if_neg h0] at hm
      repeat' (first | walk_at "Z" | walk_at "Zif")
      refine z_isi S3 (u.mono sx) hn ?_
      intro tk'
      repeat' (first | walk_at "Z" | walk_at "Zif")
      exact k _ _ ((S.back (gp := []) (gr := gl) rfl (Gle.refl _ _) (S3.unprot hs) rfl).2.sub (List.sublist_append_right _ _)) sb
  · rintro g₁ m₁ cm₁ gl₁ led₁ h₁ tk₁ ⟨q, _⟩
    exact absurd q (by decide)

end
section
variable {w : World} {b : Heap} {f : Fm} {g : Heap} {m cm : Str → Option Value} {gl gl' gp gr led led' : Led} {h h' X : Heap} {A : Around} {E : Value → Shared → Prop} {env : Env} {gs : Array GenState} {dr : Drawn} {tk : Nat} {os : OsState} {x y : Str} {pos px py spos : Pos} {v t c r : Value}
  {Q : Value → Shared → Prop} {QF : Flow → Shared → Prop} {QU : Unit → Shared → Prop} {a d dx C l ta tra : Addr} {P P' : Obj → Prop} {name : Str} {s : Shared} {e : Expr} {rest : List Expr} {its : List Value} {value slice : Expr} {tab : List (Int × Value)} {trl : List (Str × Value)} {kvs : List (Str × Value)} {D : Doc} {H : Head} {o : Option Value} {ns : List Int} {ws : List Str}

theorem get_spec {d : Addr} {key : Str} {tkk : Tok} (S : St w b f g m cm gl led h) (RM : Room 4 A) (sX : Sub X h) (SH : ShelfH w X a ta tra tab trl) (HD : Ha X d (SD w d kvs)) (FT : Fet w X tab ((valueAt kvs key).getD .none) r)
    (k : ∀ h' tk', St w b f g m cm gl led h' → Sub h h' → Q r ⟨h', gs, dr, tk', os⟩) : wpAny (model PG w) A (call (.ref 306) [.ref a, .ref d, .str key tkk] []) Q E ⟨h, gs, dr, tk, os⟩ := by
  obtain ⟨dx, I1, D1, T1, R1⟩ := id SH
  refine wpAny_call ?_
  refine' z_enterV (gp := []) (gr := gl) (binds := [("self", .ref a), ("head", .ref d), ("key", .str key tkk)]) S RM ?k1 ?k2 ?k3 ?k4 ?_ ?k5 ?k6 ?k7 ?k8
  case k1 => k_is
  case k2 => k_is
  case k3 => exact BindsTo.of_eq rfl
  case k4 => exact locs rfl
  case k5 => decide
  case k6 => rfl
  case k7 => rfl
  case k8 => rfl
  intro L' h1 Q9 E9 A9 f9 m9 S1 RM1 hret9 hnext9 hE9
  have sx : Sub X h1 := fun a o e => S1.ke _ _ (sX _ _ e)
  repeat' (first | walk_at "Z" | walk_at "Zif")
  refine' z_method S1 (I1.keeps sx) (D1.keeps sx) rfl ?k1 ?k2 ?k3 ?_
  case k1 => k_is
  case k2 => k_is
  case k3 => k_is
  repeat' (first | walk_at "Z" | walk_at "Zif")
  refine zz_getM (HD.keeps sx).sd ?_
  repeat' (first | walk_at "Z" | walk_at "Zif")
  refine zz_get1 (kk := key) (HD.keeps sx).sd HD.sdn (sis _ _) ?_
  repeat' (first | walk_at "Z" | walk_at "Zif")
  refine fetch_spec S1 RM1 sx SH FT fun h2 tk2 S2 s2 => ?_
  repeat' (first | walk_at "Z" | walk_at "Zif")
  exact k _ _ ((S.back (gp := []) (gr := gl) rfl (Gle.refl _ _) S2 rfl).2) fun a o e => S2.ke _ _ e

theorem root_specY {Y : Heap} (sY : Sub Y X) (S : St w b f g m cm gl led h) (RM : Room 5 A) (sX : Sub X h) (SH : ShelfH w X a ta tra tab trl) (TB : TabOk w Y tab D) (hr : valueAt trl "Root" = some v) (RV : RefV w X v 20)
    (k : ∀ r h' tk', RootV w Y r D → St w b f g m cm gl led h' → Sub h h' → Q r ⟨h', gs, dr, tk', os⟩) : wpAny (model PG w) A (call (.ref 355) [.ref a] []) Q E ⟨h, gs, dr, tk, os⟩ := by
  obtain ⟨dx, I1, D1, T1, R1⟩ := id SH
  obtain ⟨_, tp, t0, rt, q1, q2, q3⟩ := TB
  obtain ⟨dd, kvs, lv, rfl, q4, q5⟩ := id q3
  refine wpAny_call ?_
  refine' z_enterV (gp := []) (gr := gl) (binds := [("self", .ref a)]) S RM ?k1 ?k2 ?k3 ?k4 ?_ ?k5 ?k6 ?k7 ?k8
  case k1 => k_is
  case k2 => k_is
  case k3 => exact BindsTo.of_eq rfl
  case k4 => exact locs rfl
  case k5 => decide
  case k6 => rfl
  case k7 => rfl
  case k8 => rfl
  intro L' h1 Q9 E9 A9 f9 m9 S1 RM1 hret9 hnext9 hE9
  have sx : Sub X h1 := fun a o e => S1.ke _ _ (sX _ _ e)
  repeat' (first | walk_at "Z" | walk_at "Zif")
  refine' z_method S1 (I1.keeps sx) (D1.keeps sx) rfl ?k1 ?k2 ?k3 ?_
  case k1 => k_is
  case k2 => k_is
  case k3 => k_is
  repeat' (first | walk_at "Z" | walk_at "Zif")
  refine' z_attr S1 (I1.keeps sx) (D1.keeps sx) rfl ?k1 ?k2 ?k3 rfl ?_
  case k1 => k_is
  case k2 => k_is
  case k3 => k_is
  repeat' (first | walk_at "Z" | walk_at "Zif")
  have FT : Fet w X tab ((valueAt trl "Root").getD .none) (.ref dd) := by
    rw [hr]
    refine' .ref RV q1 (q2.keeps sY) (.dict (q4.keeps sY)) ?k1
    case k1 => first | kit_is | k_is
  refine get_spec S1 RM1 sx SH R1 FT fun h2 tk2 S2 s2 => ?_
  repeat' (first | walk_at "Z" | walk_at "Zif")
  rename_i h3 S3
  refine z_isi (b' := true) S3 (.dict (q4.keeps fun a o e => S3.ke _ _ (sX _ _ (sY _ _ e)))) (kit_same (by decide)) ?_
  intro tk'
  repeat' (first | walk_at "Z" | walk_at "Zif")
  exact k _ _ _ q3 ((S.back (gp := []) (gr := gl) rfl (Gle.refl _ _) S3 rfl).2) fun a o e => S3.ke _ _ e

theorem root_spec (S : St w b f g m cm gl led h) (RM : Room 5 A) (sX : Sub X h) (SH : ShelfH w X a ta tra tab trl) (TB : TabOk w X tab D) (hr : valueAt trl "Root" = some v) (RV : RefV w X v 20)
    (k : ∀ r h' tk', RootV w X r D → St w b f g m cm gl led h' → Sub h h' → Q r ⟨h', gs, dr, tk', os⟩) : wpAny (model PG w) A (call (.ref 355) [.ref a] []) Q E ⟨h, gs, dr, tk, os⟩ := root_specY (fun _ _ e => e) S RM sX SH TB hr RV k

end
section
variable {w : World} {b : Heap} {f : Fm} {g : Heap} {m cm : Str → Option Value} {gl gl' gp gr led led' : Led} {h h' X : Heap} {A : Around} {E : Value → Shared → Prop} {env : Env} {gs : Array GenState} {dr : Drawn} {tk : Nat} {os : OsState} {x y : Str} {pos px py spos : Pos} {v t c r : Value}
  {Q : Value → Shared → Prop} {QF : Flow → Shared → Prop} {QU : Unit → Shared → Prop} {a d dx C l ta tra : Addr} {P P' : Obj → Prop} {name : Str} {s : Shared} {e : Expr} {rest : List Expr} {its : List Value} {value slice : Expr} {tab : List (Int × Value)} {trl : List (Str × Value)} {kvs : List (Str × Value)} {D : Doc} {H : Head} {o : Option Value} {ns : List Int} {ws : List Str}

theorem word_spec {d : Addr} {key : Str} {tkk : Tok} {os' : Option Str} (S : St w b f g m cm gl led h) (RM : Room 5 A) (sX : Sub X h) (SH : ShelfH w X a ta tra tab trl) (HD : Ha X d (SD w d kvs)) (ON : OptName w X (valueAt kvs key) os')
    (k : ∀ r h' tk', ((os' = none ∧ r = v) ∨ ∃ s', os' = some s' ∧ StrV r s') → St w b f g m cm gl led h' → Sub h h' → Q r ⟨h', gs, dr, tk', os⟩) : wpAny (model PG w) A (call (.ref 372) [.ref a, .ref d, .str key tkk, v] []) Q E ⟨h, gs, dr, tk, os⟩ := by
  obtain ⟨dx, I1, D1, T1, R1⟩ := id SH
  refine wpAny_call ?_
  refine' z_enterV (gp := []) (gr := gl) (binds := [("shelf", .ref a), ("head", .ref d), ("key", .str key tkk), ("default", v)]) S RM ?k1 ?k2 ?k3 ?k4 ?_ ?k5 ?k6 ?k7 ?k8
  case k1 => k_is
  case k2 => k_is
  case k3 => exact BindsTo.of_eq rfl
  case k4 => exact locs rfl
  case k5 => decide
  case k6 => rfl
  case k7 => rfl
  case k8 => rfl
  intro L' h1 Q9 E9 A9 f9 m9 S1 RM1 hret9 hnext9 hE9
  have sx : Sub X h1 := fun a o e => S1.ke _ _ (sX _ _ e)
  repeat' (first | walk_at "Z" | walk_at "Zif")
  refine' z_method S1 (I1.keeps sx) (D1.keeps sx) rfl ?k1 ?k2 ?k3 ?_
  case k1 => k_is
  case k2 => k_is
  case k3 => k_is
  repeat' (first | walk_at "Z" | walk_at "Zif")
  rcases ON with ⟨e1, e2⟩ | ⟨nv, s', e1, e2, NV⟩
  · have FT : Fet w X tab ((valueAt kvs key).getD .none) .none := by
      rw [e1]
      refine' .plain .none ?k1
      case k1 => first | kit_is | k_is
    refine get_spec S1 RM1 sx SH HD FT fun h2 tk2 S2 s2 => ?_
    repeat' (first | walk_at "Z" | walk_at "Zif")
    rename_i h3 S3
    refine' z_isi S3 .none (b' := false) ?k1 ?_
    case k1 => first | kit_is | k_is
    intro tk'
    repeat' (first | walk_at "Z" | walk_at "Zif")
    exact k _ _ _ (.inl ⟨e2, rfl⟩) ((S.back (gp := []) (gr := gl) rfl (Gle.refl _ _) S3 rfl).2) fun a o e => S3.ke _ _ e
  · have FT : Fet w X tab ((valueAt kvs key).getD .none) nv := by
      rw [e1]
      refine' .plain NV.kind ?k1
      case k1 => first | kit_is | k_is
    refine get_spec S1 RM1 sx SH HD FT fun h2 tk2 S2 s2 => ?_
    repeat' (first | walk_at "Z" | walk_at "Zif")
    rename_i h3 S3
    have sx3 : Sub X h3 := fun a o e => S3.ke _ _ (sX _ _ e)
    refine z_isi S3 (NV.mono sx3).kind (b' := true) (kit_same (by decide)) ?_
    intro tk'
    obtain ⟨na, ndx, t, rfl, NI, ND⟩ := id NV
    repeat' (first | walk_at "Z" | walk_at "Zif")
    refine' z_attr S3 (NI.keeps sx3) (ND.keeps sx3) rfl ?k1 ?k2 ?k3 rfl ?_
    case k1 => k_is
    case k2 => k_is
    case k3 => k_is
    repeat' (first | walk_at "Z" | walk_at "Zif")
    exact k _ _ _ (.inr ⟨_, e2, _, rfl⟩) ((S.back (gp := []) (gr := gl) rfl (Gle.refl _ _) S3 rfl).2) fun a o e => S3.ke _ _ e

theorem items_specY {α : Type} {Y : Heap} (sY : Sub Y X) {R : Heap → Value → α → Prop} {xs : List α} {d : Addr} {key : Str} {tkk : Tok} (S : St w b f g m cm gl led h) (RM : Room 5 A) (sX : Sub X h) (SH : ShelfH w X a ta tra tab trl) (HD : Ha X d (SD w d kvs)) (OL : OptL R Y (valueAt kvs key) xs)
    (k : ∀ l vs g' h' tk', Gle f.e g g' → St w b f g' m cm gl led h' → Sub h h' → Ha h' l (LO vs) → (Ha Y l (LO vs) ∨ Ha g' l (LO vs)) → All2 (R Y) vs xs → Q (.ref l) ⟨h', gs, dr, tk', os⟩) : wpAny (model PG w) A (call (.ref 379) [.ref a, .ref d, .str key tkk] []) Q E ⟨h, gs, dr, tk, os⟩ := by
  obtain ⟨dx, I1, D1, T1, R1⟩ := id SH
  refine wpAny_call ?_
  refine' z_enterV (gp := []) (gr := gl) (binds := [("shelf", .ref a), ("head", .ref d), ("key", .str key tkk)]) S RM ?k1 ?k2 ?k3 ?k4 ?_ ?k5 ?k6 ?k7 ?k8
  case k1 => k_is
  case k2 => k_is
  case k3 => exact BindsTo.of_eq rfl
  case k4 => exact locs rfl
  case k5 => decide
  case k6 => rfl
  case k7 => rfl
  case k8 => rfl
  intro L' h1 Q9 E9 A9 f9 m9 S1 RM1 hret9 hnext9 hE9
  have sx : Sub X h1 := fun a o e => S1.ke _ _ (sX _ _ e)
  repeat' (first | walk_at "Z" | walk_at "Zif")
  refine' z_method S1 (I1.keeps sx) (D1.keeps sx) rfl ?k1 ?k2 ?k3 ?_
  case k1 => k_is
  case k2 => k_is
  case k3 => k_is
  repeat' (first | walk_at "Z" | walk_at "Zif")
  rcases OL with ⟨e1, e2⟩ | ⟨lv, e1, LL⟩
  · have FT : Fet w X tab ((valueAt kvs key).getD .none) .none := by
      rw [e1]
      refine' .plain .none ?k1
      case k1 => first | kit_is | k_is
    refine get_spec S1 RM1 sx SH HD FT fun h2 tk2 S2 s2 => ?_
    repeat' (first | walk_at "Z" | walk_at "Zif")
    rename_i h3 S3
    refine' z_isi S3 .none (b' := false) ?k1 ?_
    case k1 => first | kit_is | k_is
    intro tk'
    repeat' (first | walk_at "Z" | walk_at "Zif")
    rename_i l h4 S4 nl
    obtain ⟨g', G, FZ, S5⟩ := S4.freeze (new := [(l, LO [])]) (led := [])
    have S6 := (S.back (gp := []) (gr := gl) rfl G S5 rfl)
    have F1 : Ha g' l (LO []) := FZ _ (.head _)
    exact k _ _ _ _ _ S6.1 S6.2 (fun a o e => S5.ke _ _ e) (F1.keeps S5.kg) (.inr F1) (by rw [e2]; exact .nil)
  · obtain ⟨l, vs, rfl, LH, LA⟩ := id LL
    have FT : Fet w X tab ((valueAt kvs key).getD .none) (.ref l) := by
      rw [e1]
      refine' .plain (.list (LH.keeps sY)) ?k1
      case k1 => first | kit_is | k_is
    refine get_spec S1 RM1 sx SH HD FT fun h2 tk2 S2 s2 => ?_
    repeat' (first | walk_at "Z" | walk_at "Zif")
    rename_i h3 S3
    have sx3 : Sub X h3 := fun a o e => S3.ke _ _ (sX _ _ e)
    refine z_isi S3 (.list (LH.keeps fun a o e => sx3 _ _ (sY _ _ e))) (b' := true) (kit_same (by decide)) ?_
    intro tk'
    repeat' (first | walk_at "Z" | walk_at "Zif")
    have S6 := (S.back (gp := []) (gr := gl) rfl (Gle.refl _ _) S3 rfl)
    exact k _ _ _ _ _ S6.1 S6.2 (fun a o e => S3.ke _ _ e) (LH.keeps fun a o e => sx3 _ _ (sY _ _ e)) (.inl LH) LA

theorem items_spec {α : Type} {R : Heap → Value → α → Prop} {xs : List α} {d : Addr} {key : Str} {tkk : Tok} (S : St w b f g m cm gl led h) (RM : Room 5 A) (sX : Sub X h) (SH : ShelfH w X a ta tra tab trl) (HD : Ha X d (SD w d kvs)) (OL : OptL R X (valueAt kvs key) xs)
    (k : ∀ l vs g' h' tk', Gle f.e g g' → St w b f g' m cm gl led h' → Sub h h' → Ha h' l (LO vs) → (Ha X l (LO vs) ∨ Ha g' l (LO vs)) → All2 (R X) vs xs → Q (.ref l) ⟨h', gs, dr, tk', os⟩) : wpAny (model PG w) A (call (.ref 379) [.ref a, .ref d, .str key tkk] []) Q E ⟨h, gs, dr, tk, os⟩ := items_specY (fun _ _ e => e) S RM sX SH HD OL k

end
section
variable {w : World} {b : Heap} {f : Fm} {g : Heap} {m cm : Str → Option Value} {gl gl' gp gr led led' : Led} {h h' X : Heap} {A : Around} {E : Value → Shared → Prop} {env : Env} {gs : Array GenState} {dr : Drawn} {tk : Nat} {os : OsState} {x y : Str} {pos px py spos : Pos} {v t c r : Value}
  {Q : Value → Shared → Prop} {QF : Flow → Shared → Prop} {QU : Unit → Shared → Prop} {a d dx C l ta tra : Addr} {P P' : Obj → Prop} {name : Str} {s : Shared} {e : Expr} {rest : List Expr} {its : List Value} {value slice : Expr} {tab : List (Int × Value)} {trl : List (Str × Value)} {kvs : List (Str × Value)} {D : Doc} {H : Head} {o : Option Value} {ns : List Int} {ws : List Str}

def addN (acc : List Int) (n : Int) : List Int := if n ∈ acc then acc else acc ++ [n]
def once (ns : List Int) : List Int := ns.foldl addN []
theorem once_take {ns : List Int} {i : Nat} {n : Int} (e : ns[i]? = some n) : once (ns.take (i + 1)) = addN (once (ns.take i)) n := by rw [take_snoc e]; unfold once; rw [List.foldl_append]; rfl
theorem addN_len (acc : List Int) (n : Int) : (addN acc n).length ≤ acc.length + 1 := by unfold addN; split <;> simp
theorem foldl_len (ns acc : List Int) : (ns.foldl addN acc).length ≤ acc.length + ns.length := by
  induction ns generalizing acc with
  | nil => simp
  | cons n ns ih => rw [List.foldl_cons, List.length_cons]; have := ih (addN acc n); have := addN_len acc n; omega
theorem once_len (ns : List Int) : (once ns).length ≤ ns.length := by have := foldl_len ns []; simpa [once] using this

theorem is_group_spec {n : Int} (S : St w b f g m cm gl led h) (RM : Room 6 A) (sX : Sub X h) (SH : ShelfH w X a ta tra tab trl) (TB : TabOk w X tab D) (RV : RefV w X v n) (n1 : 1 ≤ n) (n2 : n ≤ D.many)
    (k : ∀ h' tk', St w b f g m cm gl led h' → Sub h h' → Q (.bool true) ⟨h', gs, dr, tk', os⟩) : wpAny (model PG w) A (call (.ref 386) [.ref a, v] []) Q E ⟨h, gs, dr, tk, os⟩ := by
  obtain ⟨dx, I1, D1, T1, R1⟩ := id SH
  obtain ⟨tp, t0, gd, e1, e2, GV⟩ := TB.1 n n1 n2
  obtain ⟨d, kvs, tv, rfl, GD, e3, NV, OT⟩ := GV
  refine wpAny_call ?_
  refine' z_enterV (gp := []) (gr := gl) (binds := [("shelf", .ref a), ("value", v)]) S RM ?k1 ?k2 ?k3 ?k4 ?_ ?k5 ?k6 ?k7 ?k8
  case k1 => k_is
  case k2 => k_is
  case k3 => exact BindsTo.of_eq rfl
  case k4 => exact locs rfl
  case k5 => decide
  case k6 => rfl
  case k7 => rfl
  case k8 => rfl
  intro L' h1 Q9 E9 A9 f9 m9 S1 RM1 hret9 hnext9 hE9
  have sx : Sub X h1 := fun a o e => S1.ke _ _ (sX _ _ e)
  repeat' (first | walk_at "Z" | walk_at "Zif")
  refine' z_method S1 (I1.keeps sx) (D1.keeps sx) rfl ?k1 ?k2 ?k3 ?_
  case k1 => k_is
  case k2 => k_is
  case k3 => k_is
  repeat' (first | walk_at "Z" | walk_at "Zif")
  have FT : Fet w X tab v (.ref d) := by
    refine' .ref RV e1 e2 (.dict GD) ?k1
    case k1 => first | kit_is | k_is
  refine fetch_spec S1 (RM1.less (by decide)) sx SH FT fun h2 tk2 S2 s2 => ?_
  repeat' (first | walk_at "Z" | walk_at "Zif")
  rename_i h3 S3
  have sx3 : Sub X h3 := fun a o e => S3.ke _ _ (sX _ _ e)
  refine z_isi S3 (RV.mono sx3).kind (b' := true) (kit_same (by decide)) ?_
  intro tk'
  repeat' (first | walk_at "Z" | walk_at "Zif")
  refine z_isi S3 (.dict (GD.keeps sx3)) (b' := true) (kit_same (by decide)) ?_
  intro tk'
  repeat' (first | walk_at "Z" | walk_at "Zif")
  refine word_spec S3 RM1 sx3 SH GD (os' := some "OCG") (.inr ⟨_, _, e3, rfl, NV⟩) fun r h4 tk4 hr S4 s4 => ?_
  rcases hr with ⟨q, _⟩ | ⟨s', q, t, rfl⟩
  · cases q
  cases q
  repeat' (first | walk_at "Z" | walk_at "Zif")
  exact k _ _ ((S.back (gp := []) (gr := gl) rfl (Gle.refl _ _) S4 rfl).2) fun a o e => S4.ke _ _ e

theorem groups_spec {vs : List Value} (S : St w b f g m cm gl led h) (RM : Room 7 A) (sX : Sub X h) (SH : ShelfH w X a ta tra tab trl) (TB : TabOk w X tab D) (HL : Ha h l (LO vs)) (HV : All2 (RefV w X) vs ns) (GR : D.Gr ns) (hlen : ns.length ≤ 100)
    (k : ∀ r g' h' tk', Gle f.e g g' → St w b f g' m cm gl led h' → Sub h h' → IntsV g' r (once ns) → Q r ⟨h', gs, dr, tk', os⟩) : wpAny (model PG w) A (call (.ref 393) [.ref a, .ref l] []) Q E ⟨h, gs, dr, tk, os⟩ := by
  refine wpAny_call ?_
  refine' z_enterV (gp := []) (gr := gl) (binds := [("shelf", .ref a), ("items", .ref l)]) S RM ?k1 ?k2 ?k3 ?k4 ?_ ?k5 ?k6 ?k7 ?k8
  case k1 => k_is
  case k2 => k_is
  case k3 => exact BindsTo.of_eq rfl
  case k4 => exact locs rfl
  case k5 => decide
  case k6 => rfl
  case k7 => rfl
  case k8 => rfl
  intro L' h1 Q9 E9 A9 f9 m9 S1 RM1 hret9 hnext9 hE9
  repeat' (first | walk_at "Z" | walk_at "Zif")
  rename_i lf h2 S2 nlf h3 S3
  refine wpAny_For ?_
  repeat' (first | walk_at "Z" | walk_at "Zif")
  obtain ⟨ol, eol, _⟩ := id HL
  refine z_forLQ S3 RM1.hh (HL.keeps fun a o e => S3.ke _ _ e) (S3.off_of_e (o := ol) eol) rfl rfl rfl
    (fun i g₁ m₁ cm₁ gl₁ led₁ => g = g₁ ∧ gl₁ = [] ∧ m₁ "shelf" = some (.ref a) ∧ m₁ "found" = some (.ref lf) ∧ ∃ ys, led₁ = [(lf, LO ys)] ∧ All2 IntV ys (once (ns.take i))) ⟨rfl, rfl, rfl, rfl, [], rfl, .nil⟩ ?_ ?_
  · intro i v e' g₁ m₁ cm₁ gl₁ led₁ h₁ tk₁ Q9 J9 hi hs hG f9 m9 S4 hn9 hr9 hb9 j9
    obtain ⟨rfl, rfl, hm1, hm2, ys, rfl, hy⟩ := j9
    obtain ⟨n, hn, RV⟩ := HV.get hi
    have sx4 : Sub X h₁ := fun a o e => S4.ke _ _ (hs _ _ (sX _ _ e))
    have gn := GR n (List.mem_of_getElem? hn)
    repeat' (first | walk_at "Z" | walk_at "Zif")
    refine is_group_spec S4 RM1 sx4 SH TB RV gn.1 gn.2 fun h5 tk5 S5 s5 => ?_
    have sx5 : Sub X h5 := fun a o e => S5.ke _ _ (hs _ _ (sX _ _ e))
    obtain ⟨ar, dr', t1, t2, rfl, I2, D2⟩ := id RV
    repeat' (first | walk_at "Z" | walk_at "Zif")
    refine' z_attr S5 (I2.keeps sx5) (D2.keeps sx5) rfl ?k1 ?k2 ?k3 rfl ?_
    case k1 => k_is
    case k2 => k_is
    case k3 => k_is
    repeat' (first | walk_at "Z" | walk_at "Zif")
    refine z_notinI RM1 ⟨_, _, rfl, S5.ha (.head _), hy⟩ ?_
    have ot := once_take hn
    unfold addN at ot
    by_cases hm : n ∈ once (ns.take i)
    · rw [decide_eq_true hm]
      rw [if_pos hm] at ot
      repeat' (first | walk_at "Z" | walk_at "Zif")
      exact hn9.go S5 (Gle.refl _ _) ⟨rfl, rfl, hm1, hm2, ys, rfl, by rw [ot]; exact hy⟩
    · rw [decide_eq_false hm]
      rw [if_neg hm] at ot
      repeat' (first | walk_at "Z" | walk_at "Zif")
      refine z_appendM (S5.ha (.head _)) ?_
      repeat' (first | walk_at "Z" | walk_at "Zif")
      refine' z_attr S5 (I2.keeps sx5) (D2.keeps sx5) rfl ?k1 ?k2 ?k3 rfl ?_
      case k1 => k_is
      case k2 => k_is
      case k3 => k_is
      repeat' (first | walk_at "Z" | walk_at "Zif")
      have hl2 : ys.length ≤ ns.length := by
        rw [hy.length]; refine Nat.le_trans (once_len _) ?_; rw [List.length_take]; omega
      refine z_append S5 .here (fun h6 S6 => ?_) (by rw [sizeLine_eq]; omega)
      repeat' (first | walk_at "Z" | walk_at "Zif")
      exact hn9.go S6 (Gle.refl _ _) ⟨rfl, rfl, hm1, hm2, _, rfl, by rw [ot]; exact hy.snoc ⟨_, rfl⟩⟩
  · rintro g₁ m₁ cm₁ gl₁ led₁ h₁ tk₁ ⟨rfl, rfl, hm1, hm2, ys, rfl, hy⟩ hG S4
    repeat' (first | walk_at "Z" | walk_at "Zif")
    obtain ⟨g', G, FZ, S5⟩ := S4.freeze (new := [(lf, LO ys)]) (led := [])
    have S6 := (S.back (gp := []) (gr := gl) rfl G S5 rfl)
    have F1 : Ha g' lf (LO ys) := FZ _ (.head _)
    rw [List.take_of_length_le (Nat.le_of_eq HV.length.symm)] at hy
    exact k _ _ _ _ S6.1 S6.2 (fun a o e => S5.ke _ _ e) ⟨_, _, rfl, F1, hy⟩

end
section
variable {w : World} {b : Heap} {f : Fm} {g : Heap} {m cm : Str → Option Value} {gl gl' gp gr led led' : Led} {h h' X : Heap} {A : Around} {E : Value → Shared → Prop} {env : Env} {gs : Array GenState} {dr : Drawn} {tk : Nat} {os : OsState} {x y : Str} {pos px py spos : Pos} {v t c r : Value}
  {Q : Value → Shared → Prop} {QF : Flow → Shared → Prop} {QU : Unit → Shared → Prop} {a d dx C l ta tra : Addr} {P P' : Obj → Prop} {name : Str} {s : Shared} {e : Expr} {rest : List Expr} {its : List Value} {value slice : Expr} {tab : List (Int × Value)} {trl : List (Str × Value)} {kvs : List (Str × Value)} {D : Doc} {H : Head} {o : Option Value} {ns : List Int} {ws : List Str}

theorem St.cellE {c : Addr} (S : St w b f g m cm gl led h) (hm : (x, c) ∈ f.cl) (hv : cm x = some v) : (hideAll h (gl.map (·.1))).IsCell c (some v) := by
  obtain ⟨o, e, d⟩ := S.cell _ hm
  rw [hv] at d
  refine ⟨o, hideAll_get _ e (fun q => ?_), d⟩
  obtain ⟨p, hp, q⟩ := List.mem_map.mp q
  exact (S.cfr _ hm).2.2.2.2 p (List.mem_append_left _ hp) q

theorem layer_specY {Y : Heap} {rr : Value} (sY : Sub Y X) (S : St w b f g m cm gl led h) (RM : Room 6 A) (sX : Sub X h) (SH : ShelfH w X a ta tra tab trl) (TB : TabOk w Y tab D) (hr : valueAt trl "Root" = some rr) (RV : RefV w X rr 20)
    (k : ∀ r h' tk', LayV w Y r D → St w b f g m cm gl led h' → Sub h h' → Q r ⟨h', gs, dr, tk', os⟩) : wpAny (model PG w) A (call (.ref 400) [.ref a] []) Q E ⟨h, gs, dr, tk, os⟩ := by
  obtain ⟨dx, I1, D1, T1, R1⟩ := id SH
  refine wpAny_call ?_
  refine' z_enterV (gp := []) (gr := gl) (binds := [("shelf", .ref a)]) S RM ?k1 ?k2 ?k3 ?k4 ?_ ?k5 ?k6 ?k7 ?k8
  case k1 => k_is
  case k2 => k_is
  case k3 => exact BindsTo.of_eq rfl
  case k4 => exact locs rfl
  case k5 => decide
  case k6 => rfl
  case k7 => rfl
  case k8 => rfl
  intro L' h1 Q9 E9 A9 f9 m9 S1 RM1 hret9 hnext9 hE9
  have sx : Sub X h1 := fun a o e => S1.ke _ _ (sX _ _ e)
  repeat' (first | walk_at "Z" | walk_at "Zif")
  refine' z_method S1 (I1.keeps sx) (D1.keeps sx) rfl ?k1 ?k2 ?k3 ?_
  case k1 => k_is
  case k2 => k_is
  case k3 => k_is
  repeat' (first | walk_at "Z" | walk_at "Zif")
  refine' z_method S1 (I1.keeps sx) (D1.keeps sx) rfl ?k1 ?k2 ?k3 ?_
  case k1 => k_is
  case k2 => k_is
  case k3 => k_is
  repeat' (first | walk_at "Z" | walk_at "Zif")
  refine root_specY sY S1 RM1 sx SH TB hr RV fun r h2 tk2 RT S2 s2 => ?_
  obtain ⟨d, kvs, lv, rfl, RD, e1, LY, _⟩ := RT
  repeat' (first | walk_at "Z" | walk_at "Zif")
  have sx2 : Sub X h2 := fun a o e => S2.ke _ _ (sX _ _ e)
  have FT : Fet w X tab ((valueAt kvs "OCProperties").getD .none) lv := by
    rw [e1]
    obtain ⟨d2, kvs2, _, _, _, rfl, z, _⟩ := LY
    refine' .plain (.dict (z.keeps sY)) ?k1
    case k1 => first | kit_is | k_is
  refine get_spec S2 (RM1.less (by decide)) sx2 SH (RD.keeps sY) FT fun h3 tk3 S3 s3 => ?_
  repeat' (first | walk_at "Z" | walk_at "Zif")
  rename_i h4 S4
  have sx4 : Sub X h4 := fun a o e => S4.ke _ _ (sX _ _ e)
  obtain ⟨d2, kvs2, v1, v2, v3, rfl, z, zz⟩ := id LY
  refine z_isi S4 (.dict (z.keeps fun a o e => sx4 _ _ (sY _ _ e))) (b' := true) (kit_same (by decide)) ?_
  intro tk'
  repeat' (first | walk_at "Z" | walk_at "Zif")
  exact k _ _ _ LY ((S.back (gp := []) (gr := gl) rfl (Gle.refl _ _) S4 rfl).2) fun a o e => S4.ke _ _ e
theorem layer_spec (S : St w b f g m cm gl led h) (RM : Room 6 A) (sX : Sub X h) (SK : ShOk w X a D)
    (k : ∀ r h' tk', LayV w X r D → St w b f g m cm gl led h' → Sub h h' → Q r ⟨h', gs, dr, tk', os⟩) : wpAny (model PG w) A (call (.ref 400) [.ref a] []) Q E ⟨h, gs, dr, tk, os⟩ := by
  obtain ⟨ta, tra, tab, trl, rr, SH, TB, hr, RV⟩ := SK
  exact layer_specY (fun _ _ e => e) S RM sX SH TB hr RV k

theorem numbers_spec (S : St w b f g m cm gl led h) (RM : Room 8 A) (sX : Sub X h) (SK : ShOk w X a D) (DO : D.Ok)
    (k : ∀ r g' h' tk', Gle f.e g g' → St w b f g' m cm gl led h' → Sub h h' → IntsV g' r (once D.listed) → Q r ⟨h', gs, dr, tk', os⟩) : wpAny (model PG w) A (call (.ref 407) [.ref a] []) Q E ⟨h, gs, dr, tk, os⟩ := by
  refine wpAny_call ?_
  refine' z_enterV (gp := []) (gr := gl) (binds := [("shelf", .ref a)]) S RM ?k1 ?k2 ?k3 ?k4 ?_ ?k5 ?k6 ?k7 ?k8
  case k1 => k_is
  case k2 => k_is
  case k3 => exact BindsTo.of_eq rfl
  case k4 => exact locs rfl
  case k5 => decide
  case k6 => rfl
  case k7 => rfl
  case k8 => rfl
  intro L' h1 Q9 E9 A9 f9 m9 S1 RM1 hret9 hnext9 hE9
  have sx : Sub X h1 := fun a o e => S1.ke _ _ (sX _ _ e)
  repeat' (first | walk_at "Z" | walk_at "Zif")
  refine layer_spec S1 (RM1.less (by decide)) sx SK fun r h2 tk2 LY S2 s2 => ?_
  obtain ⟨d2, kvs2, v1, v2, v3, rfl, z, e1, q1, zz⟩ := id LY
  repeat' (first | walk_at "Z" | walk_at "Zif")
  obtain ⟨ta, tra, tab, trl, rr, SH, TB, hr, RV⟩ := SK
  have sx2 : Sub X h2 := fun a o e => S2.ke _ _ (sX _ _ e)
  refine items_spec S2 (RM1.less (by decide)) sx2 SH z (.inr ⟨_, e1, q1⟩) fun l vs g3 h3 tk3 G3 S3 s3 HL _ AL => ?_
  repeat' (first | walk_at "Z" | walk_at "Zif")
  have sx3 : Sub X h3 := fun a o e => S3.ke _ _ (sX _ _ e)
  refine groups_spec S3 RM1 sx3 SH TB HL AL DO.listed DO.llisted fun r g4 h4 tk4 G4 S4 s4 IV => ?_
  repeat' (first | walk_at "Z" | walk_at "Zif")
  have S6 := (S.back (gp := []) (gr := gl) rfl (G3.trans G4) S4 rfl)
  exact k _ _ _ _ S6.1 S6.2 (fun a o e => S4.ke _ _ e) IV

def wordsOf (ws : List Str) : List Str := if ws = [] then ["View"] else ws
theorem purposes_spec {d : Addr} (S : St w b f g m cm gl led h) (RM : Room 8 A) (sX : Sub X h) (SH : ShelfH w X a ta tra tab trl) (HD : Ha X d (SD w d kvs)) (OT : OptTold w X (valueAt kvs "Intent") ws) (hlen : ws.length ≤ 100)
    (k : ∀ r g' h' tk', Gle f.e g g' → St w b f g' m cm gl led h' → Sub h h' → StrsV g' r (wordsOf ws) → Q r ⟨h', gs, dr, tk', os⟩) : wpAny (model PG w) A (call (.ref 412) [.ref a, .ref d] []) Q E ⟨h, gs, dr, tk, os⟩ := by
  obtain ⟨dx, I1, D1, T1, R1⟩ := id SH
  refine wpAny_call ?_
  refine' z_enterCV (gp := []) (gr := gl) (binds := [("shelf", .ref a), ("head", .ref d)]) S RM ?k1 ?k2 ?k3 ?k4 ?k5 ?_ ?k6 ?k7 ?k8
  case k1 => k_is
  case k2 => k_is
  case k3 => exact BindsTo.of_eq rfl
  case k4 => rfl
  case k5 => decide
  case k6 => rfl
  case k7 => rfl
  case k8 => rfl
  intro L' h1 tk1 Q9 E9 A9 f9 m9 cm9 S1 RM1 hret9 hnext9 hE9
  have sx : Sub X h1 := fun a o e => S1.ke _ _ (sX _ _ e)
  repeat' (first | walk_at "Z" | walk_at "Zif")
  refine' z_method S1 (I1.keeps sx) (D1.keeps sx) rfl ?k1 ?k2 ?k3 ?_
  case k1 => k_is
  case k2 => k_is
  case k3 => k_is
  repeat' (first | walk_at "Z" | walk_at "Zif")
  have CASE : (∃ s, ws = [s] ∧ ∃ nv, valueAt kvs "Intent" = some nv ∧ NameV w X nv s) ∨ (OptL (NameV w) X (valueAt kvs "Intent") ws ∧ ∃ t, KindV w X ((valueAt kvs "Intent").getD .none) t ∧ kitOne (hd.heap_39 w.params) t (.ref 254) = some false ∧ kitOne (hd.heap_39 w.params) t (.ref 183) = some false) := by
    rcases OT with ⟨e1, e2⟩ | ⟨nv, e1, e2, ⟨s, e3, NV⟩ | ⟨e3, NV⟩⟩
    · refine .inr ⟨.inl ⟨e1, e2⟩, .type "NoneType", ?_, ?_, ?_⟩
      · rw [e1]; exact .none
      · kit_is
      · kit_is
    · exact .inl ⟨s, e3, nv, e1, NV⟩
    · refine .inr ⟨.inr ⟨nv, e1, NV⟩, .type "list", ?_, ?_, ?_⟩
      · rw [e1]; exact NV.kind
      · kit_is
      · kit_is
  rcases CASE with ⟨s, rfl, nv, e1, NV⟩ | ⟨OL, t, KV, k1, k2⟩
  · have FT : Fet w X tab ((valueAt kvs "Intent").getD .none) nv := by
      rw [e1]
      refine' .plain NV.kind ?k1
      case k1 => first | kit_is | k_is
    refine get_spec S1 (RM1.less (by decide)) sx SH HD FT fun h2 tk2 S2 s2 => ?_
    repeat' (first | walk_at "Z" | walk_at "Zif")
    rename_i h3 S3
    have sx3 : Sub X h3 := fun a o e => S3.ke _ _ (sX _ _ e)
    refine z_isi S3 (NV.mono sx3).kind (b' := true) (kit_same (by decide)) ?_
    intro tk'
    obtain ⟨na, ndx, t, rfl, NI, ND⟩ := id NV
    repeat' (first | walk_at "Z" | walk_at "Zif")
    refine' z_attr S3 (NI.keeps sx3) (ND.keeps sx3) rfl ?k1 ?k2 ?k3 rfl ?_
    case k1 => k_is
    case k2 => k_is
    case k3 => k_is
    repeat' (first | walk_at "Z" | walk_at "Zif")
    rename_i l h4 S4 nl
    obtain ⟨g', G, FZ, S5⟩ := S4.freeze (new := [(l, LO [.str s t])]) (led := [])
    have S6 := (S.back (gp := []) (gr := gl) rfl G S5 rfl)
    have F1 : Ha g' l (LO [.str s t]) := FZ _ (.head _)
    exact k _ _ _ _ S6.1 S6.2 (fun a o e => S5.ke _ _ e) ⟨_, _, rfl, F1, .cons ⟨_, rfl⟩ .nil⟩
  · have FT : Fet w X tab ((valueAt kvs "Intent").getD .none) ((valueAt kvs "Intent").getD .none) := .plain KV k1
    refine get_spec S1 (RM1.less (by decide)) sx SH HD FT fun h2 tk2 S2 s2 => ?_
    repeat' (first | walk_at "Z" | walk_at "Zif")
    rename_i h3 S3
    have sx3 : Sub X h3 := fun a o e => S3.ke _ _ (sX _ _ e)
    refine z_isi S3 (KV.mono sx3) k2 ?_
    intro tk'
    repeat' (first | walk_at "Z" | walk_at "Zif")
    refine z_compA (cl := [("shelf", L' + 1)]) rfl rfl rfl (by decide) ?_ (fun _ => rfl)
    repeat' (first | walk_at "Z" | walk_at "Zif")
    refine items_spec S3 (RM1.less (by decide)) sx3 SH HD OL fun l vs g4 h4 tk4 G4 S4 s4 HL _ AL => ?_
    have hl1 : vs.length ≤ 100 := by rw [AL.length]; exact hlen
    have big : (100 : Nat) ≤ sizeLine := by rw [sizeLine_eq]; decide
    refine z_compLA S4 RM1.hh HL (fun p hp => nomatch hp) (Nat.le_trans hl1 big) (by decide) rfl rfl rfl rfl rfl (fun i ys g gl => g4 = g ∧ gl = [] ∧ ys = vs.take i) ⟨rfl, rfl, rfl⟩ (fun i ys g gl ⟨_, _, q⟩ => by rw [q]; exact List.length_take_le _ _) (fun i ys g gl ⟨_, q, _⟩ => by rw [q]) (CompTurnQ.turn ?_) ?_
    · intro C i v e' ys g₁ m₁ gl₁ h₁ tk₁ Qy9 Qn9 J9 hi hv hs hG f9 m9 S5 hy9 hz9 j9
      obtain ⟨rfl, rfl, rfl⟩ := j9
      obtain ⟨n, hn, NV⟩ := AL.get hv
      have sx5 : Sub X h₁ := fun a o e => S5.ke _ _ (hs _ _ (S4.ke _ _ (sX _ _ e)))
      have hc : e'.IsCell (L' + 1) (some (.ref a)) := (S4.cellE (x := "shelf") (lookup_mem rfl) rfl).keeps hs
      refine tests_nil (if_t rfl ?_)
      repeat' (first | walk_at "Z" | walk_at "Zif")
      refine' z_method S5 (I1.keeps sx5) (D1.keeps sx5) rfl ?k1 ?k2 ?k3 ?_
      case k1 => k_is
      case k2 => k_is
      case k3 => k_is
      repeat' (first | walk_at "Z" | walk_at "Zif")
      have FT : Fet w X tab v v := by
        refine' .plain NV.kind ?k1
        case k1 => first | kit_is | k_is
      refine fetch_spec S5 (RM1.less (by decide)) sx5 SH FT fun h6 tk6 S6 s6 => ?_
      exact hy9.go S6 (Gle.refl _ _) ⟨rfl, rfl, by rw [take_snoc hv]⟩
    · rintro W1 ys g5 gl5 h5 tk5 ⟨rfl, rfl, rfl⟩ G5 S5 nW1
      rw [List.take_length] at S5
      repeat' (first | walk_at "Z" | walk_at "Zif")
      refine z_compA (cl := []) rfl rfl rfl (by decide) ?_ (fun _ => rfl)
      repeat' (first | walk_at "Z" | walk_at "Zif")
      refine z_compLA S5 RM1.hh (S5.ha (.head _)) (fun p hp => nomatch hp) (Nat.le_trans hl1 big) (by decide) rfl rfl rfl rfl rfl (fun i ys g gl => g4 = g ∧ gl = [] ∧ All2 StrV ys (ws.take i) ∧ ys.length ≤ i) ⟨rfl, rfl, .nil, Nat.le_refl _⟩ (fun i ys g gl ⟨_, _, _, q⟩ => q) (fun i ys g gl ⟨_, q, _⟩ => by rw [q]) (CompTurnQ.turn ?_) ?_
      · intro C i v e' ys g₁ m₁ gl₁ h₁ tk₁ Qy9 Qn9 J9 hi hv hs hG f9 m9 S6 hy9 hz9 j9
        obtain ⟨rfl, rfl, hy, hl⟩ := j9
        obtain ⟨n, hn, NV⟩ := AL.get hv
        have sx6 : Sub X h₁ := fun a o e => S6.ke _ _ (hs _ _ (S5.ke _ _ (sX _ _ e)))
        refine tests_one ?_
        repeat' (first | walk_at "Z" | walk_at "Zif")
        refine z_isi S6 (NV.mono sx6).kind (b' := true) (kit_same (by decide)) ?_
        intro tk'
        obtain ⟨na, ndx, t, rfl, NI, ND⟩ := id NV
        repeat' (first | walk_at "Z" | walk_at "Zif")
        refine' z_attr S6 (NI.keeps sx6) (ND.keeps sx6) rfl ?k1 ?k2 ?k3 rfl ?_
        case k1 => k_is
        case k2 => k_is
        case k3 => k_is
        exact hy9.go S6 (Gle.refl _ _) ⟨rfl, rfl, by rw [take_snoc hn]; exact hy.snoc ⟨_, rfl⟩, by simp; omega⟩
      · rintro W2 ys g6 gl6 h6 tk6 ⟨rfl, rfl, hy, hl⟩ G6 S6 nW2
        rw [AL.length, List.take_length] at hy
        repeat' (first | walk_at "Z" | walk_at "Zif")
        rename_i lz h7 S7 nlz
        refine z_neNil RM1 (S7.ha (.tail _ (.head _))) (S7.ha (.head _)) ?_
        have yl := hy.length
        cases hw : ws with
        | nil =>
          rw [hw] at yl
          rw [List.eq_nil_of_length_eq_zero yl]
          repeat' (first | walk_at "Z" | walk_at "Zif")
          refine if_f rfl ?_
          repeat' (first | walk_at "Z" | walk_at "Zif")
          rename_i lv h8 S8 nlv
          obtain ⟨g', G', s', S9, FZ, sh⟩ := S.done (gp := []) (gr := gl) S8 (G4.trans (G5.trans G6))
          exact k _ _ _ _ G' S9 sh ⟨_, _, rfl, FZ (.head _), by rw [hw]; exact .cons ⟨_, rfl⟩ .nil⟩
        | cons x xs =>
          cases ys with
          | nil => rw [hw] at yl; cases yl
          | cons y ys =>
          repeat' (first | walk_at "Z" | walk_at "Zif")
          refine if_t rfl ?_
          repeat' (first | walk_at "Z" | walk_at "Zif")
          obtain ⟨g', G', s', S9, FZ, sh⟩ := S.done (gp := []) (gr := gl) S7 (G4.trans (G5.trans G6))
          exact k _ _ _ _ G' S9 sh ⟨_, _, rfl, FZ (.tail _ (.head _)), by rw [hw] at hy ⊢; exact hy⟩

end
section
variable {w : World} {b : Heap} {f : Fm} {g : Heap} {m cm : Str → Option Value} {gl gl' gp gr led led' : Led} {h h' X : Heap} {A : Around} {E : Value → Shared → Prop} {env : Env} {gs : Array GenState} {dr : Drawn} {tk : Nat} {os : OsState} {x y : Str} {pos px py spos : Pos} {v t c r : Value}
  {Q : Value → Shared → Prop} {QF : Flow → Shared → Prop} {QU : Unit → Shared → Prop} {a d dx C l ta tra : Addr} {P P' : Obj → Prop} {name : Str} {s : Shared} {e : Expr} {rest : List Expr} {its : List Value} {value slice : Expr} {tab : List (Int × Value)} {trl : List (Str × Value)} {kvs : List (Str × Value)} {D : Doc} {H : Head} {o : Option Value} {ns : List Int} {ws : List Str}

theorem St.born {kvs : List (Str × Value)} {xa : Addr} (S1 : St w b f g m cm ((dx, SD w dx kvs) :: gl) (led' ++ (xa, IO C dx) :: led) h) : ∃ g', Gle f.e g g' ∧ St w b f g' m cm gl led h ∧ Ha g' xa (IO C dx) ∧ Ha g' dx (SD w dx kvs) := by
  have S2 := S1.sub (led' := (xa, IO C dx) :: led) (List.sublist_append_right _ _)
  have S3 : St w b f g m cm gl ([(xa, IO C dx), (dx, SD w dx kvs)] ++ led) h := S2.perm (by
    have e1 : ((dx, SD w dx kvs) :: (gl ++ (xa, IO C dx) :: led)).Perm (gl ++ (dx, SD w dx kvs) :: (xa, IO C dx) :: led) := List.perm_middle.symm
    exact e1.trans (List.Perm.append_left _ (List.Perm.swap _ _ _)))
  obtain ⟨g', G, FZ, S4⟩ := S3.freeze
  exact ⟨g', G, S4, FZ _ (.head _), FZ _ (.tail _ (.head _))⟩

theorem new_Name (S : St w b f g m cm gl led h) (RM : Room 3 A) (k : ∀ x dx g' h' tk', Gle f.e g g' → St w b f g' m cm gl led h' → Ha g' x (IO 183 dx) → Ha g' dx (SD w dx [("text", v)]) → Q (.ref x) ⟨h', gs, dr, tk', os⟩) :
    wpAny (model PG w) A (call (.ref 183) [v] []) Q E ⟨h, gs, dr, tk, os⟩ := by
  refine' z_make S RM ?k1 ?k2 ?k3 ?_
  case k1 => k_is
  case k2 => k_is
  case k3 => k_is
  intro x dx h1 nx ndx S1 RM1
  refine' z_enterV (gp := [(dx, SD w dx [])]) (gr := gl) (binds := [("self", .ref x), ("text", v)]) S1 RM1 ?k1 ?k2 ?k3 ?k4 ?_ ?k5 ?k6 ?k7 ?k8
  case k1 => k_is
  case k2 => k_is
  case k3 => exact BindsTo.of_eq rfl
  case k4 => exact locs rfl
  case k5 => decide
  case k6 => rfl
  case k7 => rfl
  case k8 => rfl
  intro L' h2 Q9 E9 A9 f9 m9 S2 RM2 hret9 hnext9 hE9
  repeat' (first | walk_at "Z" | walk_at "Zif")
  refine' z_setAttr S2 (S2.hae (S1.pass (gp := [(dx, SD w dx [])]) (List.mem_append_right _ (.head _)))) .here ?k1 ?k2 ?k3 ?k4 ?_
  case k1 => k_is
  case k2 => k_is
  case k3 => k_is
  case k4 => k_is
  intro h3 S3
  repeat' (first | walk_at "Z" | walk_at "Zif")
  refine ⟨rfl, ?_⟩
  obtain ⟨g', G, S5, F1, F2⟩ := St.born (S1.back (gp := [(dx, SD w dx [])]) rfl (Gle.refl _ _) S3 rfl).2
  exact k _ _ _ _ _ G S5 F1 F2

theorem new_Ref {v2 : Value} (S : St w b f g m cm gl led h) (RM : Room 3 A) (k : ∀ x dx g' h' tk', Gle f.e g g' → St w b f g' m cm gl led h' → Ha g' x (IO 254 dx) → Ha g' dx (SD w dx [("number", v), ("generation", v2)]) → Q (.ref x) ⟨h', gs, dr, tk', os⟩) :
    wpAny (model PG w) A (call (.ref 254) [v, v2] []) Q E ⟨h, gs, dr, tk, os⟩ := by
  refine' z_make S RM ?k1 ?k2 ?k3 ?_
  case k1 => k_is
  case k2 => k_is
  case k3 => k_is
  intro x dx h1 nx ndx S1 RM1
  refine' z_enterV (gp := [(dx, SD w dx [])]) (gr := gl) (binds := [("self", .ref x), ("number", v), ("generation", v2)]) S1 RM1 ?k1 ?k2 ?k3 ?k4 ?_ ?k5 ?k6 ?k7 ?k8
  case k1 => k_is
  case k2 => k_is
  case k3 => exact BindsTo.of_eq rfl
  case k4 => exact locs rfl
  case k5 => decide
  case k6 => rfl
  case k7 => rfl
  case k8 => rfl
  intro L' h2 Q9 E9 A9 f9 m9 S2 RM2 hret9 hnext9 hE9
  have I : ∀ {h : Heap}, Sub (hideAll h1 ([(dx, SD w dx [])].map (·.1))) h → Ha h x (IO 254 dx) := fun k => (S1.pass (gp := [(dx, SD w dx [])]) (List.mem_append_right _ (.head _))).keeps k
  repeat' (first | walk_at "Z" | walk_at "Zif")
  refine' z_setAttr S2 (I S2.ke) .here ?k1 ?k2 ?k3 ?k4 ?_ (Nat.le_of_ble_eq_true rfl)
  case k1 => k_is
  case k2 => k_is
  case k3 => k_is
  case k4 => k_is
  intro h3 S3
  repeat' (first | walk_at "Z" | walk_at "Zif")
  refine' z_setAttr S3 (I S3.ke) .here ?k1 ?k2 ?k3 ?k4 ?_ (Nat.le_of_ble_eq_true rfl)
  case k1 => k_is
  case k2 => k_is
  case k3 => k_is
  case k4 => k_is
  intro h4 S4
  repeat' (first | walk_at "Z" | walk_at "Zif")
  refine ⟨rfl, ?_⟩
  obtain ⟨g', G, S5, F1, F2⟩ := St.born (S1.back (gp := [(dx, SD w dx [])]) rfl (Gle.refl _ _) S4 rfl).2
  exact k _ _ _ _ _ G S5 F1 F2

theorem new_Conf {v1 v2 v3 v4 v5 v6 v7 : Value} (S : St w b f g m cm gl led h) (RM : Room 3 A) (k : ∀ x dx g' h' tk', Gle f.e g g' → St w b f g' m cm gl led h' → Ha g' x (IO 429 dx) → Ha g' dx (SD w dx [("base", v1), ("on", v2), ("off", v3), ("radio", v4), ("locked", v5), ("order", v6), ("words", v7)]) → Q (.ref x) ⟨h', gs, dr, tk', os⟩) :
    wpAny (model PG w) A (call (.ref 429) [v1, v2, v3, v4, v5, v6, v7] []) Q E ⟨h, gs, dr, tk, os⟩ := by
  refine' z_make S RM ?k1 ?k2 ?k3 ?_
  case k1 => k_is
  case k2 => k_is
  case k3 => k_is
  intro x dx h1 nx ndx S1 RM1
  refine' z_enterV (gp := [(dx, SD w dx [])]) (gr := gl) (binds := [("self", .ref x), ("base", v1), ("on", v2), ("off", v3), ("radio", v4), ("locked", v5), ("order", v6), ("words", v7)]) S1 RM1 ?k1 ?k2 ?k3 ?k4 ?_ ?k5 ?k6 ?k7 ?k8
  case k1 => k_is
  case k2 => k_is
  case k3 => exact BindsTo.of_eq rfl
  case k4 => exact locs rfl
  case k5 => decide
  case k6 => rfl
  case k7 => rfl
  case k8 => rfl
  intro L' h2 Q9 E9 A9 f9 m9 S2 RM2 hret9 hnext9 hE9
  have I : ∀ {h : Heap}, Sub (hideAll h1 ([(dx, SD w dx [])].map (·.1))) h → Ha h x (IO 429 dx) := fun k => (S1.pass (gp := [(dx, SD w dx [])]) (List.mem_append_right _ (.head _))).keeps k
  repeat' (first | walk_at "Z" | walk_at "Zif")
  refine' z_setAttr S2 (I S2.ke) .here ?k1 ?k2 ?k3 ?k4 ?_ (Nat.le_of_ble_eq_true rfl)
  case k1 => k_is
  case k2 => k_is
  case k3 => k_is
  case k4 => k_is
  intro h3 S3
  repeat' (first | walk_at "Z" | walk_at "Zif")
  refine' z_setAttr S3 (I S3.ke) .here ?k1 ?k2 ?k3 ?k4 ?_ (Nat.le_of_ble_eq_true rfl)
  case k1 => k_is
  case k2 => k_is
  case k3 => k_is
  case k4 => k_is
  intro h4 S4
  repeat' (first | walk_at "Z" | walk_at "Zif")
  refine' z_setAttr S4 (I S4.ke) .here ?k1 ?k2 ?k3 ?k4 ?_ (Nat.le_of_ble_eq_true rfl)
  case k1 => k_is
  case k2 => k_is
  case k3 => k_is
  case k4 => k_is
  intro h5 S5
  repeat' (first | walk_at "Z" | walk_at "Zif")
  refine' z_setAttr S5 (I S5.ke) .here ?k1 ?k2 ?k3 ?k4 ?_ (Nat.le_of_ble_eq_true rfl)
  case k1 => k_is
  case k2 => k_is
  case k3 => k_is
  case k4 => k_is
  intro h6 S6
  repeat' (first | walk_at "Z" | walk_at "Zif")
  refine' z_setAttr S6 (I S6.ke) .here ?k1 ?k2 ?k3 ?k4 ?_ (Nat.le_of_ble_eq_true rfl)
  case k1 => k_is
  case k2 => k_is
  case k3 => k_is
  case k4 => k_is
  intro h7 S7
  repeat' (first | walk_at "Z" | walk_at "Zif")
  refine' z_setAttr S7 (I S7.ke) .here ?k1 ?k2 ?k3 ?k4 ?_ (Nat.le_of_ble_eq_true rfl)
  case k1 => k_is
  case k2 => k_is
  case k3 => k_is
  case k4 => k_is
  intro h8 S8
  repeat' (first | walk_at "Z" | walk_at "Zif")
  refine' z_setAttr S8 (I S8.ke) .here ?k1 ?k2 ?k3 ?k4 ?_ (Nat.le_of_ble_eq_true rfl)
  case k1 => k_is
  case k2 => k_is
  case k3 => k_is
  case k4 => k_is
  intro h9 S9
  repeat' (first | walk_at "Z" | walk_at "Zif")
  refine ⟨rfl, ?_⟩
  obtain ⟨g', G, S10, F1, F2⟩ := St.born (S1.back (gp := [(dx, SD w dx [])]) rfl (Gle.refl _ _) S9 rfl).2
  exact k _ _ _ _ _ G S10 F1 F2

end
section
variable {w : World} {b : Heap} {f : Fm} {g : Heap} {m cm : Str → Option Value} {gl gl' gp gr led led' : Led} {h h' X : Heap} {A : Around} {E : Value → Shared → Prop} {env : Env} {gs : Array GenState} {dr : Drawn} {tk : Nat} {os : OsState} {x y : Str} {pos px py spos : Pos} {v t c r : Value}
  {Q : Value → Shared → Prop} {QF : Flow → Shared → Prop} {QU : Unit → Shared → Prop} {a d dx C l ta tra : Addr} {P P' : Obj → Prop} {name : Str} {s : Shared} {e : Expr} {rest : List Expr} {its : List Value} {value slice : Expr} {tab : List (Int × Value)} {trl : List (Str × Value)} {kvs : List (Str × Value)} {D : Doc} {H : Head} {o : Option Value} {ns : List Int} {ws : List Str}

structure Conf where
  base : Str
  on : List Int
  off : List Int
  radio : List (List Int)
  locked : List Int
  words : List Str
inductive ConfV (w : World) (h : Heap) (v : Value) (C : Conf) : Prop
  | mk a dx t v2 v3 v4 v5 v6 v7 (q1 : v = .ref a) (q2 : Ha h a (IO 429 dx)) (q3 : Ha h dx (SD w dx [("base", .str C.base t), ("on", .ref v2), ("off", .ref v3), ("radio", .ref v4), ("locked", .ref v5), ("order", v6), ("words", .ref v7)])) (q4 : IntsV h (.ref v2) C.on) (q5 : IntsV h (.ref v3) C.off) (q6 : LV IntsV h (.ref v4) C.radio) (q7 : IntsV h (.ref v5) C.locked) (q8 : StrsV h (.ref v7) C.words) : ConfV w h v C
theorem ConfV.mono {C : Conf} (x : ConfV w h v C) (s : Sub h h') : ConfV w h' v C :=
  let ⟨a, dx, t, v2, v3, v4, v5, v6, v7, e, p, q, r1, r2, r3, r4, r5⟩ := x
  ⟨a, dx, t, v2, v3, v4, v5, v6, v7, e, p.keeps s, q.keeps s, r1.mono monoI s, r2.mono monoI s, r3.mono (monoL monoI) s, r4.mono monoI s, r5.mono monoS s⟩
def Head.conf (H : Head) : Conf := ⟨H.base.getD "ON", once H.on, once H.off, H.rows.map once, once H.locked, wordsOf H.words⟩

theorem conf_of_spec {d : Addr} (S : St w b f g m cm gl led h) (RM : Room 9 A) (sX : Sub X h) (SH : ShelfH w X a ta tra tab trl) (TB : TabOk w X tab D) (HV : HeadV w X (.ref d) H) (HO : H.Ok D)
    (k : ∀ r g' h' tk', Gle f.e g g' → St w b f g' m cm gl led h' → ConfV w g' r H.conf → Q r ⟨h', gs, dr, tk', os⟩) : wpAny (model PG w) A (call (.ref 438) [.ref a, .ref d] []) Q E ⟨h, gs, dr, tk, os⟩ := by
  obtain ⟨dx, I1, D1, T1, R1⟩ := id SH
  obtain ⟨d', kvs, ed, HD, q1, q2, q3, q4, q5, q6, q7, _⟩ := HV
  cases ed
  have big : (100 : Nat) ≤ sizeLine := by rw [sizeLine_eq]; decide
  refine wpAny_call ?_
  refine' z_enterCV (gp := []) (gr := gl) (binds := [("shelf", .ref a), ("head", .ref d)]) S RM ?k1 ?k2 ?k3 ?k4 ?k5 ?_ ?k6 ?k7 ?k8
  case k1 => k_is
  case k2 => k_is
  case k3 => exact BindsTo.of_eq rfl
  case k4 => rfl
  case k5 => decide
  case k6 => rfl
  case k7 => rfl
  case k8 => rfl
  intro L' h1 tk1 Q9 E9 A9 f9 m9 cm9 S1 RM1 hret9 hnext9 hE9
  have sx : Sub X h1 := fun a o e => S1.ke _ _ (sX _ _ e)
  repeat' (first | walk_at "Z" | walk_at "Zif")
  refine z_compA (cl := [("shelf", L' + 1)]) rfl rfl rfl (by decide) ?_ (fun _ => rfl)
  repeat' (first | walk_at "Z" | walk_at "Zif")
  refine items_spec S1 (RM1.less (by decide)) sx SH HD q4 fun l vs g2 h2 tk2 G2 S2 s2 HL _ AL => ?_
  have hl1 : vs.length ≤ 100 := by rw [AL.length]; exact HO.lrows
  refine z_compLA S2 RM1.hh HL (fun p hp => nomatch hp) (Nat.le_trans hl1 big) (by decide) rfl rfl rfl rfl rfl (fun i ys g gl => g2 = g ∧ gl = [] ∧ ys = vs.take i) ⟨rfl, rfl, rfl⟩ (fun i ys g gl ⟨_, _, q⟩ => by rw [q]; exact List.length_take_le _ _) (fun i ys g gl ⟨_, q, _⟩ => by rw [q]) (CompTurnQ.turn ?_) ?_
  · intro C i v e' ys g₁ m₁ gl₁ h₁ tk₁ Qy9 Qn9 J9 hi hv hs hG f9 m9 S5 hy9 hz9 j9
    obtain ⟨rfl, rfl, rfl⟩ := j9
    obtain ⟨n, hn, NV⟩ := AL.get hv
    have sx5 : Sub X h₁ := fun a o e => S5.ke _ _ (hs _ _ (S2.ke _ _ (sX _ _ e)))
    have hc : e'.IsCell (L' + 1) (some (.ref a)) := (S2.cellE (x := "shelf") (lookup_mem rfl) rfl).keeps hs
    refine tests_nil (if_t rfl ?_)
    repeat' (first | walk_at "Z" | walk_at "Zif")
    refine' z_method S5 (I1.keeps sx5) (D1.keeps sx5) rfl ?k1 ?k2 ?k3 ?_
    case k1 => k_is
    case k2 => k_is
    case k3 => k_is
    repeat' (first | walk_at "Z" | walk_at "Zif")
    have FT : Fet w X tab v v := by
      refine' .plain NV.kind ?k1
      case k1 => first | kit_is | k_is
    refine fetch_spec S5 (RM1.less (by decide)) sx5 SH FT fun h6 tk6 S6 s6 => ?_
    exact hy9.go S6 (Gle.refl _ _) ⟨rfl, rfl, by rw [take_snoc hv]⟩
  · rintro W1 ys g3 gl3 h3 tk3 ⟨rfl, rfl, rfl⟩ G3 S3 nW1
    rw [List.take_length] at S3
    have sx3 : Sub X h3 := fun a o e => S3.ke _ _ (sX _ _ e)
    repeat' (first | walk_at "Z" | walk_at "Zif")
    refine word_spec S3 (RM1.less (by decide)) sx3 SH HD q1 fun v1 h4 tk4 hv1 S4 s4 => ?_
    have sx4 : Sub X h4 := fun a o e => S4.ke _ _ (sX _ _ e)
    repeat' (first | walk_at "Z" | walk_at "Zif")
    refine items_spec S4 (RM1.less (by decide)) sx4 SH HD q2 fun l2 vs2 g5 h5 tk5 G5 S5 s5 HL2 _ AL2 => ?_
    have sx5 : Sub X h5 := fun a o e => S5.ke _ _ (sX _ _ e)
    repeat' (first | walk_at "Z" | walk_at "Zif")
    refine groups_spec S5 (RM1.less (by decide)) sx5 SH TB HL2 AL2 HO.on HO.lon fun v2 g6 h6 tk6 G6 S6 s6 IV2 => ?_
    have sx6 : Sub X h6 := fun a o e => S6.ke _ _ (sX _ _ e)
    repeat' (first | walk_at "Z" | walk_at "Zif")
    refine items_spec S6 (RM1.less (by decide)) sx6 SH HD q3 fun l3 vs3 g7 h7 tk7 G7 S7 s7 HL3 _ AL3 => ?_
    have sx7 : Sub X h7 := fun a o e => S7.ke _ _ (sX _ _ e)
    repeat' (first | walk_at "Z" | walk_at "Zif")
    refine groups_spec S7 (RM1.less (by decide)) sx7 SH TB HL3 AL3 HO.off HO.loff fun v3 g8 h8 tk8 G8 S8 s8 IV3 => ?_
    have sx8 : Sub X h8 := fun a o e => S8.ke _ _ (sX _ _ e)
    repeat' (first | walk_at "Z" | walk_at "Zif")
    refine z_comp (cl := [("shelf", L' + 1)]) rfl rfl (by decide) ?_ (fun _ => rfl)
    repeat' (first | walk_at "Z" | walk_at "Zif")
    refine z_compL S8 RM1.hh (S8.ha (.head _)) (fun p hp => nomatch hp) (Nat.le_trans hl1 big) (by decide) rfl rfl (fun i ys g gl => gl = [] ∧ All2 (IntsV g) ys ((H.rows.take i).map once) ∧ ys.length ≤ i) ⟨rfl, .nil, Nat.le_refl _⟩ (fun i ys g gl q => q.2.2) (fun i ys g gl ⟨q, _⟩ => by rw [q]) (CompTurnQ.turn ?_) ?_
    · intro C i v e' ys g₁ m₁ gl₁ h₁ tk₁ Qy9 Qn9 J9 hi hv hs hG f9 m9 S9 hy9 hz9 j9
      obtain ⟨rfl, hy, hl⟩ := j9
      obtain ⟨n, hn, NV⟩ := AL.get hv
      have sx9 : Sub X h₁ := fun a o e => S9.ke _ _ (hs _ _ (S8.ke _ _ (sX _ _ e)))
      have hc : e'.IsCell (L' + 1) (some (.ref a)) := (S8.cellE (x := "shelf") (lookup_mem rfl) rfl).keeps hs
      refine tests_one ?_
      obtain ⟨la, lvs, rfl, LH, LA⟩ := id NV
      repeat' (first | walk_at "Z" | walk_at "Zif")
      refine z_isi S9 (.list (LH.keeps sx9)) (b' := true) (kit_same (by decide)) ?_
      intro tk'
      repeat' (first | walk_at "Z" | walk_at "Zif")
      have nm := List.mem_of_getElem? hn
      refine groups_spec S9 (RM1.less (by decide)) sx9 SH TB (LH.keeps sx9) LA (HO.rows _ nm) (HO.lrow _ nm) fun v2 g10 h10 tk10 G10 S10 s10 IV2 => ?_
      exact hy9.go S10 G10 ⟨rfl, by rw [take_snoc hn, List.map_append]; exact (hy.mono fun _ _ z => LV.mono monoI z G10.1).snoc IV2, by simp; omega⟩
    · rintro W4 ys g9 gl9 h9 tk9 ⟨rfl, hy, hl⟩ G9 S9 nW4 _
      rw [AL.length, List.take_length] at hy
      have sx9 : Sub X h9 := fun a o e => S9.ke _ _ (sX _ _ e)
      repeat' (first | walk_at "Z" | walk_at "Zif")
      refine items_spec S9 (RM1.less (by decide)) sx9 SH HD q5 fun l5 vs5 g10 h10 tk10 G10 S10 s10 HL5 _ AL5 => ?_
      have sx10 : Sub X h10 := fun a o e => S10.ke _ _ (sX _ _ e)
      repeat' (first | walk_at "Z" | walk_at "Zif")
      refine groups_spec S10 (RM1.less (by decide)) sx10 SH TB HL5 AL5 HO.locked HO.llocked fun v5 g11 h11 tk11 G11 S11 s11 IV5 => ?_
      have sx11 : Sub X h11 := fun a o e => S11.ke _ _ (sX _ _ e)
      repeat' (first | walk_at "Z" | walk_at "Zif")
      refine items_spec S11 (RM1.less (by decide)) sx11 SH HD (R := RefV w) (xs := []) (.inl ⟨q6, rfl⟩) fun l6 vs6 g12 h12 tk12 G12 S12 s12 HL6 _ AL6 => ?_
      have sx12 : Sub X h12 := fun a o e => S12.ke _ _ (sX _ _ e)
      repeat' (first | walk_at "Z" | walk_at "Zif")
      refine purposes_spec S12 (RM1.less (by decide)) sx12 SH HD q7 HO.lwords fun v7 g13 h13 tk13 G13 S13 s13 SV7 => ?_
      repeat' (first | walk_at "Z" | walk_at "Zif")
      refine new_Conf S13 (RM1.less (by decide)) fun x xd g14 h14 tk14 G14 S14 F1 F2 => ?_
      repeat' (first | walk_at "Z" | walk_at "Zif")
      have e1 : Sub g13 g14 := G14.1
      have e2 : Sub g11 g14 := fun a o e => e1 _ _ (G13.1 _ _ (G12.1 _ _ e))
      have e3 : Sub g9 g14 := fun a o e => e2 _ _ (G11.1 _ _ (G10.1 _ _ e))
      have e4 : Sub g8 g14 := fun a o e => e3 _ _ (G9.1 _ _ e)
      have e5 : Sub g6 g14 := fun a o e => e4 _ _ (G8.1 _ _ (G7.1 _ _ e))
      obtain ⟨g', G', s', S15, FZ, sh⟩ := S.done (gp := []) (gr := gl) S14 (G2.trans (G3.trans (G5.trans (G6.trans (G7.trans (G8.trans (G9.trans (G10.trans (G11.trans (G12.trans (G13.trans G14)))))))))))
      have hb : StrV v1 (H.base.getD "ON") := by
        rcases hv1 with ⟨z1, rfl⟩ | ⟨s', z1, z2⟩
        · rw [z1]; exact ⟨_, rfl⟩
        · rw [z1]; exact z2
      obtain ⟨t, rfl⟩ := hb
      have f2 : IntsV g' v2 (once H.on) := LV.mono monoI IV2 fun a o e => s' _ _ (e5 _ _ e)
      have f3 : IntsV g' v3 (once H.off) := LV.mono monoI IV3 fun a o e => s' _ _ (e4 _ _ e)
      have f5 : IntsV g' v5 (once H.locked) := LV.mono monoI IV5 fun a o e => s' _ _ (e2 _ _ e)
      have f7 : StrsV g' v7 (wordsOf H.words) := LV.mono monoS SV7 fun a o e => s' _ _ (e1 _ _ e)
      have f4 : LV IntsV g' (.ref W4) (H.rows.map once) := ⟨_, _, rfl, FZ (.head _), hy.mono fun _ _ z => LV.mono monoI z fun a o e => s' _ _ (e3 _ _ e)⟩
      obtain ⟨a2, _, rfl, _⟩ := id f2
      obtain ⟨a3, _, rfl, _⟩ := id f3
      obtain ⟨a5, _, rfl, _⟩ := id f5
      obtain ⟨a7, _, rfl, _⟩ := id f7
      exact k _ _ _ _ G' S15 ⟨_, _, _, _, _, _, _, _, _, rfl, F1.keeps s', F2.keeps s', f2, f3, f4, f5, f7⟩

end
section
variable {w : World} {b : Heap} {f : Fm} {g : Heap} {m cm : Str → Option Value} {gl gl' gp gr led led' : Led} {h h' X : Heap} {A : Around} {E : Value → Shared → Prop} {env : Env} {gs : Array GenState} {dr : Drawn} {tk : Nat} {os : OsState} {x y : Str} {pos px py spos : Pos} {v t c r : Value}
  {Q : Value → Shared → Prop} {QF : Flow → Shared → Prop} {QU : Unit → Shared → Prop} {a d dx C l ta tra : Addr} {P P' : Obj → Prop} {name : Str} {s : Shared} {e : Expr} {rest : List Expr} {its : List Value} {value slice : Expr} {tab : List (Int × Value)} {trl : List (Str × Value)} {kvs : List (Str × Value)} {D : Doc} {H : Head} {o : Option Value} {ns : List Int} {ws : List Str}

theorem conf_d_spec {t : Tok} (S : St w b f g m cm gl led h) (RM : Room 10 A) (sX : Sub X h) (SK : ShOk w X a D) (DO : D.Ok)
    (k : ∀ r g' h' tk', Gle f.e g g' → St w b f g' m cm gl led h' → ConfV w g' r D.d0.conf → Q r ⟨h', gs, dr, tk', os⟩) : wpAny (model PG w) A (call (.ref 444) [.ref a, .int (-1) t] []) Q E ⟨h, gs, dr, tk, os⟩ := by
  refine wpAny_call ?_
  refine' z_enterCV (gp := []) (gr := gl) (binds := [("shelf", .ref a), ("index", .int (-1) t)]) S RM ?k1 ?k2 ?k3 ?k4 ?k5 ?_ ?k6 ?k7 ?k8
  case k1 => k_is
  case k2 => k_is
  case k3 => exact binds_K S.K rfl (by k_is) rfl rfl rfl
  case k4 => rfl
  case k5 => decide
  case k6 => rfl
  case k7 => rfl
  case k8 => rfl
  intro L' h1 tk1 Q9 E9 A9 f9 m9 cm9 S1 RM1 hret9 hnext9 hE9
  have sx : Sub X h1 := fun a o e => S1.ke _ _ (sX _ _ e)
  repeat' (first | walk_at "Z" | walk_at "Zif")
  refine if_t (by decide) ?_
  repeat' (first | walk_at "Z" | walk_at "Zif")
  have SK' := SK
  obtain ⟨ta, tra, tab, trl, rr, SH, TB, hr, RV⟩ := SK'
  obtain ⟨dx, I1, D1, T1, R1⟩ := id SH
  refine' z_method S1 (I1.keeps sx) (D1.keeps sx) rfl ?k1 ?k2 ?k3 ?_
  case k1 => k_is
  case k2 => k_is
  case k3 => k_is
  repeat' (first | walk_at "Z" | walk_at "Zif")
  refine layer_spec S1 (RM1.less (by decide)) sx SK fun r h2 tk2 LY S2 s2 => ?_
  obtain ⟨d2, kvs2, v1, v2, v3, rfl, z, e1, q1, e2, HV, e3, q3, _⟩ := id LY
  have sx2 : Sub X h2 := fun a o e => S2.ke _ _ (sX _ _ e)
  repeat' (first | walk_at "Z" | walk_at "Zif")
  obtain ⟨d3, kvs3, rfl, HD3, _⟩ := id HV
  have FT : Fet w X tab ((valueAt kvs2 "D").getD .none) (.ref d3) := by
    rw [e2]
    refine' .plain (.dict HD3) ?k1
    case k1 => first | kit_is | k_is
  refine get_spec S2 (RM1.less (by decide)) sx2 SH z FT fun h3 tk3 S3 s3 => ?_
  repeat' (first | walk_at "Z" | walk_at "Zif")
  rename_i h4 S4
  have sx4 : Sub X h4 := fun a o e => S4.ke _ _ (sX _ _ e)
  refine z_isi S4 (.dict (HD3.keeps sx4)) (b' := true) (kit_same (by decide)) ?_
  intro tk'
  repeat' (first | walk_at "Z" | walk_at "Zif")
  refine conf_of_spec S4 (RM1.less (by decide)) sx4 SH TB HV DO.d0 fun r g5 h5 tk5 G5 S5 CV => ?_
  have S6 := (S.back (gp := []) (gr := gl) rfl G5 S5 rfl)
  repeat' (first | walk_at "Z" | walk_at "Zif")
  exact k _ _ _ _ S6.1 S6.2 CV

theorem conf_1_spec (S : St w b f g m cm gl led h) (RM : Room 10 A) (sX : Sub X h) (SK : ShOk w X a D) (DO : D.Ok)
    (k : ∀ r g' h' tk', Gle f.e g g' → St w b f g' m cm gl led h' → ConfV w g' r D.d0.conf → Q r ⟨h', gs, dr, tk', os⟩) : wpAny (model PG w) A (call (.ref 444) [.ref a] []) Q E ⟨h, gs, dr, tk, os⟩ := by
  refine wpAny_call ?_
  refine' z_enterCV (gp := []) (gr := gl) (binds := [("shelf", .ref a), ("index", .int (-1) 756)]) S RM ?k1 ?k2 ?k3 ?k4 ?k5 ?_ ?k6 ?k7 ?k8
  case k1 => k_is
  case k2 => k_is
  case k3 => exact binds_K S.K rfl (by k_is) rfl rfl rfl
  case k4 => rfl
  case k5 => decide
  case k6 => rfl
  case k7 => rfl
  case k8 => rfl
  intro L' h1 tk1 Q9 E9 A9 f9 m9 cm9 S1 RM1 hret9 hnext9 hE9
  have sx : Sub X h1 := fun a o e => S1.ke _ _ (sX _ _ e)
  repeat' (first | walk_at "Z" | walk_at "Zif")
  refine if_t (by decide) ?_
  repeat' (first | walk_at "Z" | walk_at "Zif")
  have SK' := SK
  obtain ⟨ta, tra, tab, trl, rr, SH, TB, hr, RV⟩ := SK'
  obtain ⟨dx, I1, D1, T1, R1⟩ := id SH
  refine' z_method S1 (I1.keeps sx) (D1.keeps sx) rfl ?k1 ?k2 ?k3 ?_
  case k1 => k_is
  case k2 => k_is
  case k3 => k_is
  repeat' (first | walk_at "Z" | walk_at "Zif")
  refine layer_spec S1 (RM1.less (by decide)) sx SK fun r h2 tk2 LY S2 s2 => ?_
  obtain ⟨d2, kvs2, v1, v2, v3, rfl, z, e1, q1, e2, HV, e3, q3, _⟩ := id LY
  have sx2 : Sub X h2 := fun a o e => S2.ke _ _ (sX _ _ e)
  repeat' (first | walk_at "Z" | walk_at "Zif")
  obtain ⟨d3, kvs3, rfl, HD3, _⟩ := id HV
  have FT : Fet w X tab ((valueAt kvs2 "D").getD .none) (.ref d3) := by
    rw [e2]
    refine' .plain (.dict HD3) ?k1
    case k1 => first | kit_is | k_is
  refine get_spec S2 (RM1.less (by decide)) sx2 SH z FT fun h3 tk3 S3 s3 => ?_
  repeat' (first | walk_at "Z" | walk_at "Zif")
  rename_i h4 S4
  have sx4 : Sub X h4 := fun a o e => S4.ke _ _ (sX _ _ e)
  refine z_isi S4 (.dict (HD3.keeps sx4)) (b' := true) (kit_same (by decide)) ?_
  intro tk'
  repeat' (first | walk_at "Z" | walk_at "Zif")
  refine conf_of_spec S4 (RM1.less (by decide)) sx4 SH TB HV DO.d0 fun r g5 h5 tk5 G5 S5 CV => ?_
  have S6 := (S.back (gp := []) (gr := gl) rfl G5 S5 rfl)
  repeat' (first | walk_at "Z" | walk_at "Zif")
  exact k _ _ _ _ S6.1 S6.2 CV

end
section
variable {w : World} {b : Heap} {f : Fm} {g : Heap} {m cm : Str → Option Value} {gl gl' gp gr led led' : Led} {h h' X : Heap} {A : Around} {E : Value → Shared → Prop} {env : Env} {gs : Array GenState} {dr : Drawn} {tk : Nat} {os : OsState} {x y : Str} {pos px py spos : Pos} {v t c r : Value}
  {Q : Value → Shared → Prop} {QF : Flow → Shared → Prop} {QU : Unit → Shared → Prop} {a d dx C l ta tra : Addr} {P P' : Obj → Prop} {name : Str} {s : Shared} {e : Expr} {rest : List Expr} {its : List Value} {value slice : Expr} {tab : List (Int × Value)} {trl : List (Str × Value)} {kvs : List (Str × Value)} {D : Doc} {H : Head} {o : Option Value} {ns : List Int} {ws : List Str}

theorem z_len {vs : List Value} (H : Ha h l (LO vs)) (hs : vs.length ≤ 100000) (k : ∀ t' tk', Q (.int vs.length t') ⟨h, gs, dr, tk', os⟩) : wpAny (model PG w) A (call (.builtin "len") [.ref l]) Q E ⟨h, gs, dr, tk, os⟩ := by
  refine len_list (s := ⟨h, gs, dr, tk, os⟩) H.list (by rw [List.size_toArray]; omega) ?_
  simpa using k _ _

theorem conf_0_spec {t : Tok} (S : St w b f g m cm gl led h) (RM : Room 10 A) (sX : Sub X h) (SK : ShOk w X a D) (DO : D.Ok) (HC : D.confs[0]? = some H)
    (k : ∀ r g' h' tk', Gle f.e g g' → St w b f g' m cm gl led h' → ConfV w g' r H.conf → Q r ⟨h', gs, dr, tk', os⟩) : wpAny (model PG w) A (call (.ref 444) [.ref a, .int 0 t] []) Q E ⟨h, gs, dr, tk, os⟩ := by
  have big : (100 : Nat) ≤ sizeLine := by rw [sizeLine_eq]; decide
  refine wpAny_call ?_
  refine' z_enterCV (gp := []) (gr := gl) (binds := [("shelf", .ref a), ("index", .int 0 t)]) S RM ?k1 ?k2 ?k3 ?k4 ?k5 ?_ ?k6 ?k7 ?k8
  case k1 => k_is
  case k2 => k_is
  case k3 => exact binds_K S.K rfl (by k_is) rfl rfl rfl
  case k4 => rfl
  case k5 => decide
  case k6 => rfl
  case k7 => rfl
  case k8 => rfl
  intro L' h1 tk1 Q9 E9 A9 f9 m9 cm9 S1 RM1 hret9 hnext9 hE9
  have sx : Sub X h1 := fun a o e => S1.ke _ _ (sX _ _ e)
  repeat' (first | walk_at "Z" | walk_at "Zif")
  refine if_f (by decide) ?_
  repeat' (first | walk_at "Z" | walk_at "Zif")
  have SK' := SK
  obtain ⟨ta, tra, tab, trl, rr, SH, TB, hr, RV⟩ := SK'
  obtain ⟨dx, I1, D1, T1, R1⟩ := id SH
  refine z_compA (cl := [("shelf", L' + 1)]) rfl rfl rfl (by decide) ?_ (fun _ => rfl)
  repeat' (first | walk_at "Z" | walk_at "Zif")
  refine layer_spec S1 (RM1.less (by decide)) sx SK fun r h2 tk2 LY S2 s2 => ?_
  obtain ⟨d2, kvs2, v1, v2, v3, rfl, z, e1, q1, e2, HV, e3, q3, _⟩ := id LY
  have sx2 : Sub X h2 := fun a o e => S2.ke _ _ (sX _ _ e)
  repeat' (first | walk_at "Z" | walk_at "Zif")
  refine items_spec S2 (RM1.less (by decide)) sx2 SH z (.inr ⟨_, e3, q3⟩) fun l vs g3 h3 tk3 G3 S3 s3 HL _ AL => ?_
  have hl1 : vs.length ≤ 100 := by rw [AL.length]; exact DO.lconfs
  refine z_compLA S3 RM1.hh HL (fun p hp => nomatch hp) (Nat.le_trans hl1 big) (by decide) rfl rfl rfl rfl rfl (fun i ys g gl => g3 = g ∧ gl = [] ∧ ys = vs.take i) ⟨rfl, rfl, rfl⟩ (fun i ys g gl ⟨_, _, q⟩ => by rw [q]; exact List.length_take_le _ _) (fun i ys g gl ⟨_, q, _⟩ => by rw [q]) (CompTurnQ.turn ?_) ?_
  · intro C i v e' ys g₁ m₁ gl₁ h₁ tk₁ Qy9 Qn9 J9 hi hv hs hG f9 m9 S5 hy9 hz9 j9
    obtain ⟨rfl, rfl, rfl⟩ := j9
    obtain ⟨n, hn, NV⟩ := AL.get hv
    have sx5 : Sub X h₁ := fun a o e => S5.ke _ _ (hs _ _ (S3.ke _ _ (sX _ _ e)))
    have hc : e'.IsCell (L' + 1) (some (.ref a)) := (S3.cellE (x := "shelf") (lookup_mem rfl) rfl).keeps hs
    refine tests_nil (if_t rfl ?_)
    repeat' (first | walk_at "Z" | walk_at "Zif")
    refine' z_method S5 (I1.keeps sx5) (D1.keeps sx5) rfl ?k1 ?k2 ?k3 ?_
    case k1 => k_is
    case k2 => k_is
    case k3 => k_is
    repeat' (first | walk_at "Z" | walk_at "Zif")
    obtain ⟨nd, nkvs, rfl, ND, _⟩ := id NV
    have FT : Fet w X tab (.ref nd) (.ref nd) := by
      refine' .plain (.dict ND) ?k1
      case k1 => first | kit_is | k_is
    refine fetch_spec S5 (RM1.less (by decide)) sx5 SH FT fun h6 tk6 S6 s6 => ?_
    exact hy9.go S6 (Gle.refl _ _) ⟨rfl, rfl, by rw [take_snoc hv]⟩
  · rintro W1 ys g4 gl4 h4 tk4 ⟨rfl, rfl, rfl⟩ G4 S4 nW1
    rw [List.take_length] at S4
    obtain ⟨v0, hv0, HV0⟩ := AL.get' HC
    obtain ⟨nd, nkvs, rfl, ND, _⟩ := id HV0
    have sx4 : Sub X h4 := fun a o e => S4.ke _ _ (sX _ _ e)
    repeat' (first | walk_at "Z" | walk_at "Zif")
    refine z_len (S4.ha (.head _)) (by omega) fun t5 tk5 => ?_
    repeat' (first | walk_at "Z" | walk_at "Zif")
    have lt0 := lt_of_get hv0
    rw [show decide ((0 : Int) ≥ (vs.length : Int)) = false by rw [decide_eq_false_iff_not]; omega]
    repeat' (first | walk_at "Z" | walk_at "Zif")
    refine z_item (S4.ha (.head _)) (by decide) (by decide) hv0 ?_
    repeat' (first | walk_at "Z" | walk_at "Zif")
    refine z_isi S4 (.dict (ND.keeps sx4)) (b' := true) (kit_same (by decide)) ?_
    intro tk'
    repeat' (first | walk_at "Z" | walk_at "Zif")
    refine z_item (S4.ha (.head _)) (by decide) (by decide) hv0 ?_
    repeat' (first | walk_at "Z" | walk_at "Zif")
    refine conf_of_spec S4 (RM1.less (by decide)) sx4 SH TB HV0 (DO.confs _ (List.mem_of_getElem? HC)) fun r g5 h5 tk5 G5 S5 CV => ?_
    have S6 := (S.back (gp := []) (gr := gl) rfl (G3.trans (G4.trans G5)) S5 rfl)
    repeat' (first | walk_at "Z" | walk_at "Zif")
    exact k _ _ _ _ S6.1 (S6.2.sub (List.sublist_append_right _ _)) CV

end
section
variable {w : World} {b : Heap} {f : Fm} {g : Heap} {m cm : Str → Option Value} {gl gl' gp gr led led' : Led} {h h' X : Heap} {A : Around} {E : Value → Shared → Prop} {env : Env} {gs : Array GenState} {dr : Drawn} {tk : Nat} {os : OsState} {x y : Str} {pos px py spos : Pos} {v t c r : Value}
  {Q : Value → Shared → Prop} {QF : Flow → Shared → Prop} {QU : Unit → Shared → Prop} {a d dx C l ta tra : Addr} {P P' : Obj → Prop} {name : Str} {s : Shared} {e : Expr} {rest : List Expr} {its : List Value} {value slice : Expr} {tab : List (Int × Value)} {trl : List (Str × Value)} {kvs : List (Str × Value)} {D : Doc} {H : Head} {o : Option Value} {ns : List Int} {ws : List Str}

theorem filter_ne {α : Type} (l : List α) (p : α → Bool) : (!(l.filter p).isEmpty) = l.any p := by
  induction l with
  | nil => rfl
  | cons x xs ih =>
    rw [List.filter_cons, List.any_cons]
    cases h : p x
    · simpa using ih
    · simp
theorem All2.empty {α β : Type} {R : α → β → Prop} {as : List α} {bs : List β} (x : All2 R as bs) : as.isEmpty = bs.isEmpty := by cases x <;> rfl
theorem zz_itemA {K : Type} [DecidableEq K] {knd : PySem.KeyKind PG w K} {kk : K} {key : Value} {kvs : List (K × Value)} (hD : h.DictOf knd d kvs) (hkey : knd.is kk key = true) (hl : valueAt kvs kk = some v) (k : Q v ⟨h, gs, dr, tk + 1, os⟩)
    (hs : subscripted slice false (.ref d) key = operate [.ref d, key] (getItem (.ref d) key)) :
    wpAny (model PG w) A (subscriptTail value slice (.ref d) key) Q E ⟨h, gs, dr, tk, os⟩ :=
  tail_any (s := ⟨h, gs, dr, tk, os⟩) hD.typeIs slot_dict_getitem.lookup (wpAny_getItem_of (s := ⟨h, gs, dr, tk, os⟩) hkey hD.mapOf hl k) hs
def counted (D : Doc) (C : Conf) : List Int := if ("All" : Str) ∈ C.words then once D.listed else (once D.listed).filter fun n => (wordsOf (D.words n)).any fun x => decide (x ∈ C.words)
theorem once_mem {ns : List Int} {n : Int} (h : n ∈ once ns) : n ∈ ns := by
  have key : ∀ (ns acc : List Int), n ∈ ns.foldl addN acc → n ∈ acc ∨ n ∈ ns := by
    intro ns
    induction ns with
    | nil => intro acc h; exact .inl h
    | cons x xs ih =>
      intro acc h
      rcases ih _ h with h | h
      · unfold addN at h
        split at h
        · exact .inl h
        · rcases List.mem_append.mp h with h | h
          · exact .inl h
          · exact .inr (by rw [List.mem_singleton.mp h]; exact .head _)
      · exact .inr (.tail _ h)
  exact (key ns [] h).resolve_left (by simp)

theorem counted_spec {cv : Value} {C : Conf} (S : St w b f g m cm gl led h) (RM : Room 9 A) (sX : Sub X h) (SK : ShOk w X a D) (DO : D.Ok) (CV : ConfV w X cv C)
    (k : ∀ r g' h' tk', Gle f.e g g' → St w b f g' m cm gl led h' → IntsV g' r (counted D C) → Q r ⟨h', gs, dr, tk', os⟩) : wpAny (model PG w) A (call (.ref 449) [.ref a, cv] []) Q E ⟨h, gs, dr, tk, os⟩ := by
  have big : (100 : Nat) ≤ sizeLine := by rw [sizeLine_eq]; decide
  obtain ⟨ta, tra, tab, trl, rr, SH, TB, hr, RV⟩ := id SK
  obtain ⟨dx, I1, D1, T1, R1⟩ := id SH
  obtain ⟨ca, cdx, ct, v2, v3, v4, v5, v6, v7, rfl, CI, CD, f2, f3, f4, f5, f7⟩ := CV
  refine wpAny_call ?_
  refine' z_enterCV (gp := []) (gr := gl) (binds := [("shelf", .ref a), ("config", .ref ca)]) S RM ?k1 ?k2 ?k3 ?k4 ?k5 ?_ ?k6 ?k7 ?k8
  case k1 => k_is
  case k2 => k_is
  case k3 => exact BindsTo.of_eq rfl
  case k4 => rfl
  case k5 => decide
  case k6 => rfl
  case k7 => rfl
  case k8 => rfl
  intro L' h1 tk1 Q9 E9 A9 f9 m9 cm9 S1 RM1 hret9 hnext9 hE9
  have sx : Sub X h1 := fun a o e => S1.ke _ _ (sX _ _ e)
  repeat' (first | walk_at "Z" | walk_at "Zif")
  refine' z_attr S1 (CI.keeps sx) (CD.keeps sx) rfl ?k1 ?k2 ?k3 rfl ?_
  case k1 => k_is
  case k2 => k_is
  case k3 => k_is
  refine z_inS (LV.mono monoS f7 sx) ?_
  unfold counted at k
  by_cases hA : ("All" : Str) ∈ C.words
  · rw [if_pos hA] at k
    rw [decide_eq_true hA]
    repeat' (first | walk_at "Z" | walk_at "Zif")
    refine numbers_spec S1 (RM1.less (by decide)) sx SK DO fun r g2 h2 tk2 G2 S2 s2 IV => ?_
    repeat' (first | walk_at "Z" | walk_at "Zif")
    have S6 := (S.back (gp := []) (gr := gl) rfl G2 S2 rfl)
    exact k _ _ _ _ S6.1 S6.2 IV
  · rw [if_neg hA] at k
    rw [decide_eq_false hA]
    repeat' (first | walk_at "Z" | walk_at "Zif")
    rename_i lf h2 S2 nlf h3 S3
    have sx3 : Sub X h3 := fun a o e => S3.ke _ _ (sX _ _ e)
    refine wpAny_For ?_
    repeat' (first | walk_at "Z" | walk_at "Zif")
    refine numbers_spec S3 (RM1.less (by decide)) sx3 SK DO fun r g4 h4 tk4 G4 S4 s4 IV => ?_
    obtain ⟨ln, nvs, rfl, LN, NA⟩ := id IV
    obtain ⟨oln, eln, _⟩ := id LN
    have hl1 : nvs.length ≤ 100 := by rw [NA.length]; exact Nat.le_trans (once_len _) DO.llisted
    refine z_forLQ S4 RM1.hh (LN.keeps S4.kg) (S4.off_of_g eln) rfl rfl rfl
      (fun i g₁ m₁ cm₁ gl₁ led₁ => gl₁ = [] ∧ cm₁ "config" = some (.ref ca) ∧ m₁ "shelf" = some (.ref a) ∧ m₁ "found" = some (.ref lf) ∧ ∃ ys, led₁ = [(lf, LO ys)] ∧ ys.length ≤ i ∧ All2 IntV ys (((once D.listed).take i).filter fun n => (wordsOf (D.words n)).any fun x => decide (x ∈ C.words))) ⟨rfl, rfl, rfl, rfl, [], rfl, Nat.le_refl _, .nil⟩ ?_ ?_
    · intro i v e' g₁ m₁ cm₁ gl₁ led₁ h₁ tk₁ Q9 J9 hi hs hG f9 m9 S5 hn9 hr9 hb9 j9
      obtain ⟨rfl, hc1, hm1, hm2, ys, rfl, hyl, hy⟩ := j9
      obtain ⟨n, hn, t, rfl⟩ := NA.get hi
      have sxe : Sub X e' := fun a o e => hs _ _ (sX _ _ e)
      have sx5 : Sub X h₁ := fun a o e => S5.ke _ _ (sxe _ _ e)
      have gn := DO.listed n (once_mem (List.mem_of_getElem? hn))
      obtain ⟨tp, t0, gd, e1, e2, GV⟩ := TB.1 n gn.1 gn.2
      obtain ⟨gdd, gkvs, tv, rfl, GD, e3, NV, OT⟩ := GV
      repeat' (first | walk_at "Z" | walk_at "Zif")
      refine z_comp (cl := [("config", L' + 1)]) rfl rfl (by decide) ?_ (fun _ => rfl)
      repeat' (first | walk_at "Z" | walk_at "Zif")
      refine' z_attr S5 (I1.keeps sx5) (D1.keeps sx5) rfl ?k1 ?k2 ?k3 rfl ?_
      case k1 => k_is
      case k2 => k_is
      case k3 => k_is
      repeat' (first | walk_at "Z" | walk_at "Zif")
      refine zz_itemA (kk := n) (T1.keeps sx5).id (iis _ _) e1 ?_ (by with_unfolding_all rfl)
      repeat' (first | walk_at "Z" | walk_at "Zif")
      refine z_itemT (e2.keeps sx5) (by decide) (by decide) rfl (by show 2 < 2 ^ 62; decide) ?_
      repeat' (first | walk_at "Z" | walk_at "Zif")
      refine purposes_spec S5 (RM1.less (by decide)) sx5 SH GD OT (DO.lwords n) fun r g6 h6 tk6 G6 S6 s6 SV => ?_
      obtain ⟨lp, pvs, rfl, PN, PA⟩ := id SV
      have hl2 : pvs.length ≤ 100 := by
        rw [PA.length]; unfold wordsOf
        split
        · decide
        · exact DO.lwords n
      refine z_compL S6 RM1.hh (PN.keeps S6.kg) (fun p hp => nomatch hp) (Nat.le_trans hl2 big) (by decide) rfl rfl (fun i ys g gl => g6 = g ∧ gl = [] ∧ ys.length ≤ i ∧ All2 StrV ys (((wordsOf (D.words n)).take i).filter fun x => decide (x ∈ C.words))) ⟨rfl, rfl, Nat.le_refl _, .nil⟩ (fun i ys g gl q => q.2.2.1) (fun i ys g gl ⟨_, q, _⟩ => by rw [q]) (CompTurnQ.turn ?_) ?_
      · intro W j vv e'' zs g₂ m₂ gl₂ h₂ tk₂ Qy9 Qn9 J9 hj hv hs2 hG2 f9 m9 S7 hy9 hz9 j9
        obtain ⟨rfl, rfl, hzl, hz⟩ := j9
        obtain ⟨x, hx, t', rfl⟩ := PA.get hv
        have sx7 : Sub X h₂ := fun a o e => S7.ke _ _ (hs2 _ _ (S6.ke _ _ (sxe _ _ e)))
        have hc : e''.IsCell (L' + 1) (some (.ref ca)) := (S6.cellE (x := "config") (lookup_mem rfl) hc1).keeps hs2
        refine tests_one ?_
        repeat' (first | walk_at "Z" | walk_at "Zif")
        refine' z_attr S7 (CI.keeps sx7) (CD.keeps sx7) rfl ?k1 ?k2 ?k3 rfl ?_
        case k1 => k_is
        case k2 => k_is
        case k3 => k_is
        refine z_inS (LV.mono monoS f7 sx7) ?_
        by_cases hxw : x ∈ C.words
        · rw [decide_eq_true hxw]
          repeat' (first | walk_at "Z" | walk_at "Zif")
          exact hy9.go S7 (Gle.refl _ _) ⟨rfl, rfl, by simp; omega, by rw [take_snoc hx, List.filter_append, (by simp [hxw] : List.filter (fun x => decide (x ∈ C.words)) [x] = [x])]; exact hz.snoc ⟨_, rfl⟩⟩
        · rw [decide_eq_false hxw]
          repeat' (first | walk_at "Z" | walk_at "Zif")
          exact hz9.go S7 (Gle.refl _ _) ⟨rfl, rfl, by omega, by rw [take_snoc hx, List.filter_append, (by simp [hxw] : List.filter (fun x => decide (x ∈ C.words)) [x] = []), List.append_nil]; exact hz⟩
      · rintro W2 zs g7 gl7 h7 tk7 ⟨rfl, rfl, hzl, hz⟩ G7 S7 nW2 _
        rw [PA.length, List.take_length] at hz
        repeat' (first | walk_at "Z" | walk_at "Zif")
        rename_i lz h8 S8 nlz
        have hb := filter_ne (wordsOf (D.words n)) fun x => decide (x ∈ C.words)
        rw [← hz.empty] at hb
        refine z_neNil RM1 (S8.ha (.tail _ (.head _))) (S8.ha (.head _)) ?_
        rw [hb]
        have gg := G6.trans G7
        cases hany : (wordsOf (D.words n)).any fun x => decide (x ∈ C.words) with
        | true =>
          repeat' (first | walk_at "Z" | walk_at "Zif")
          refine z_appendM (S8.ha (.tail _ (.tail _ (.head _)))) ?_
          repeat' (first | walk_at "Z" | walk_at "Zif")
          refine z_append S8 (.there (.there .here)) (fun h9 S9 => ?_) (by have := lt_of_get hi; omega)
          repeat' (first | walk_at "Z" | walk_at "Zif")
          exact hn9.go (S9.sub (List.sublist_append_right [_, _] _)) gg ⟨rfl, hc1, hm1, hm2, _, rfl, by simp; omega, by rw [take_snoc hn, List.filter_append, (by simp [hany] : List.filter (fun n => (wordsOf (D.words n)).any fun x => decide (x ∈ C.words)) [n] = [n])]; exact hy.snoc ⟨_, rfl⟩⟩
        | false =>
          repeat' (first | walk_at "Z" | walk_at "Zif")
          exact hn9.go (S8.sub (List.sublist_append_right [_, _] _)) gg ⟨rfl, hc1, hm1, hm2, _, rfl, by omega, by rw [take_snoc hn, List.filter_append, (by simp [hany] : List.filter (fun n => (wordsOf (D.words n)).any fun x => decide (x ∈ C.words)) [n] = []), List.append_nil]; exact hy⟩
    · rintro g₁ m₁ cm₁ gl₁ led₁ h₁ tk₁ ⟨rfl, hc1, hm1, hm2, ys, rfl, hyl, hy⟩ hG S5
      repeat' (first | walk_at "Z" | walk_at "Zif")
      rw [NA.length, List.take_length] at hy
      obtain ⟨g', G', s', S9, FZ, sh⟩ := S.done (gp := []) (gr := gl) S5 (G4.trans hG)
      exact k _ _ _ _ G' S9 ⟨_, _, rfl, FZ (.head _), hy⟩

end
section
variable {w : World} {b : Heap} {f : Fm} {g : Heap} {m cm : Str → Option Value} {gl gl' gp gr led led' : Led} {h h' X : Heap} {A : Around} {E : Value → Shared → Prop} {env : Env} {gs : Array GenState} {dr : Drawn} {tk : Nat} {os : OsState} {x y : Str} {pos px py spos : Pos} {v t c r : Value}
  {Q : Value → Shared → Prop} {QF : Flow → Shared → Prop} {QU : Unit → Shared → Prop} {a d dx C l ta tra : Addr} {P P' : Obj → Prop} {name : Str} {s : Shared} {e : Expr} {rest : List Expr} {its : List Value} {value slice : Expr} {tab : List (Int × Value)} {trl : List (Str × Value)} {kvs : List (Str × Value)} {D : Doc} {H : Head} {o : Option Value} {ns : List Int} {ws : List Str}

abbrev BS := List (Int × Bool)
def encB (st : BS) : List (Int × Value) := st.map fun p => (p.1, .bool p.2)
def getB (st : BS) (n : Int) : Option Bool := (st.find? fun p => decide (p.1 = n)).map (·.2)
def hasB (st : BS) (n : Int) : Bool := st.any fun p => decide (p.1 = n)
def putB (st : BS) (n : Int) (v : Bool) : BS := if hasB st n = true then st.map (fun p => if p.1 = n then (p.1, v) else p) else st ++ [(n, v)]
theorem stored_enc (st : BS) (n : Int) (v : Bool) : stored (encB st) n (.bool v) = encB (putB st n v) := by
  unfold stored putB
  have e : ((encB st).any fun kv => decide (kv.1 = n)) = hasB st n := by unfold encB hasB; rw [List.any_map]; rfl
  rw [e]
  split
  · unfold encB
    rw [List.map_map, List.map_map]
    congr 1
    funext p
    simp only [Function.comp]
    split <;> rfl
  · unfold encB; rw [List.map_append]; rfl
theorem valueAt_enc (st : BS) (n : Int) : valueAt (encB st) n = (getB st n).map .bool := by
  unfold valueAt getB encB
  rw [List.find?_map]
  simp only [Function.comp_def, Option.map_map]
theorem hasB_get (st : BS) (n : Int) : (getB st n).isSome = hasB st n := by
  unfold getB hasB
  rw [Option.isSome_map]
  induction st with
  | nil => rfl
  | cons p st ih =>
    rw [List.find?_cons, List.any_cons]
    cases h : decide (p.1 = n)
    · simpa using ih
    · rfl
theorem putB_len (st : BS) (n : Int) (v : Bool) : (putB st n v).length ≤ st.length + 1 := by unfold putB; split <;> simp

/-- a dict of numbers and truths -/
inductive StV (w : World) (h : Heap) (v : Value) (st : BS) : Prop
  | mk d (q1 : v = .ref d) (q2 : Ha h d (ID w d (encB st))) : StV w h v st
def BefV (w : World) (h : Heap) (v : Value) (o : Option BS) : Prop := (v = .none ∧ o = none) ∨ ∃ st, o = some st ∧ StV w h v st
theorem StV.mono {st : BS} (x : StV w h v st) (s : Sub h h') : StV w h' v st := let ⟨d, e, p⟩ := x; ⟨d, e, p.keeps s⟩
theorem BefV.mono {o : Option BS} (x : BefV w h v o) (s : Sub h h') : BefV w h' v o := x.imp id fun ⟨st, e, p⟩ => ⟨st, e, p.mono s⟩

def initB (base : Str) (bef : Option BS) (n : Int) : Bool := match bef with
  | some st => if base = "Unchanged" then (getB st n).getD true else decide (base ≠ "OFF")
  | none => decide (base ≠ "OFF")
def setAll (st : BS) (ns : List Int) (v : Bool) : BS := ns.foldl (fun st n => if hasB st n = true then putB st n v else st) st
def starting (ns : List Int) (C : Conf) (bef : Option BS) : BS := setAll (setAll (ns.foldl (fun st n => putB st n (initB C.base bef n)) []) C.on true) C.off false

theorem z_forT {R : Result → Shared → Prop} {body : List Stmt} {target : Expr} (S : St w b f g m cm gl led h) (hh : A.handled = none) (hl : Ha h l (TO its)) (O : Off b f g gl led l)
    (J : Nat → Heap → (Str → Option Value) → (Str → Option Value) → Led → Led → Prop) (j0 : J 0 g m cm gl led)
    (turn : ∀ i v e' g₁ m₁ cm₁ gl₁ led₁ h₁ tk₁, its[i]? = some v → J i g₁ m₁ cm₁ gl₁ led₁ → Sub f.e e' → Gle f.e g g₁ → St w b ⟨f.L, f.cl, e'⟩ g₁ m₁ cm₁ gl₁ led₁ h₁ →
      wpAny (model PG w) A (assign target env v) (fun _ s₂ => wpAny (model PG w) A (execs body env) (LoopPost w b f e' gs dr os (fun g₂ m₂ cm₂ gl₂ led₂ => Gle e' g₁ g₂ ∧ J (i + 1) g₂ m₂ cm₂ gl₂ led₂) R) (fun _ _ => False) s₂) (fun _ _ => False) ⟨h₁, gs, dr, tk₁, os⟩)
    (done : ∀ g₁ m₁ cm₁ gl₁ led₁ h₁ tk₁, J its.length g₁ m₁ cm₁ gl₁ led₁ → Gle f.e g g₁ → St w b f g₁ m₁ cm₁ gl₁ led₁ h₁ → R (.ok .next) ⟨h₁, gs, dr, tk₁, os⟩) :
    wpAny (model PG w) A (pyIter (.ref l)) (fun it s₂ => codeAny (model PG w) A (.forLoop target it body [] env) R s₂) E ⟨h, gs, dr, tk, os⟩ := by
  obtain ⟨o, e, n, rfl⟩ := id hl
  have hne : l ≠ h.objs.size := Nat.ne_of_lt (Heap.lt_size e)
  refine wpAny_pyIter_tuple hl.tup ?_
  have W := Walks.tuple (prog := PG) (w := w) hh h.objs.size l hne its.toArray
  rw [List.size_toArray] at W
  have W' : Walks PG w A h.objs.size [h.objs.size, l] [h.objs.size] its.length (fun i v => its[i]? = some v) (fun i hh => hh.IsTupleIter h.objs.size l i ∧ hh.IsTuple l its.toArray) := by
    have q : (fun (i : Nat) (v : Value) => its.toArray[i]? = some v) = fun i v => its[i]? = some v := by funext i v; simp
    rw [← q]; exact W
  have fr := fresh_at h
  have S' := S.keeps (h' := h.push { cls := .type "tuple_iterator", data := .fields #[.ref l, .int 0 0] }) fun _ _ e => Heap.get?_push_of_some _ e
  refine z_loopW W' S' (fun a ha => ?_) (fun a ha => ?_) ⟨⟨_, Heap.get?_push_size _ rfl, rfl, rfl⟩, hl.tup.push _⟩ (fun i h st a ha => by obtain ⟨o, e, _⟩ := st.1; rw [List.mem_singleton.mp ha]; exact ⟨o, e⟩)
    (fun v h tk Q' E' st q => by obtain ⟨i, st⟩ := st; exact letGo_tupleiter (s' := ⟨h, gs, dr, tk, os⟩) st.1 q) J j0 (fun i v e' g₁ m₁ cm₁ gl₁ led₁ h₁ tk₁ hi hP hJ hs hG S₁ => turn i v e' g₁ m₁ cm₁ gl₁ led₁ h₁ tk₁ hP hJ hs hG S₁) done
  · rcases List.mem_cons.mp ha with rfl | ha
    · exact ⟨⟨_, Heap.get?_push_size _ rfl⟩, S.off_fresh fr⟩
    · rw [List.mem_singleton.mp ha]; exact ⟨⟨_, Heap.get?_push_of_some _ e⟩, O⟩
  · rw [List.mem_singleton.mp ha]; exact ⟨none_of_le S.kb fr, none_of_le S.ke fr, none_of_le S.kg fr⟩
theorem z_forTQ {R : Result → Shared → Prop} {body : List Stmt} {target : Expr} (S : St w b f g m cm gl led h) (hh : A.handled = none) (hl : Ha h l (TO its)) (O : Off b f g gl led l)
    (J : Nat → Heap → (Str → Option Value) → (Str → Option Value) → Led → Led → Prop) (j0 : J 0 g m cm gl led)
    (turn : ∀ i v e' g₁ m₁ cm₁ gl₁ led₁ h₁ tk₁ (Q' : Flow → Shared → Prop), let J' := J (i + 1); its[i]? = some v → Sub f.e e' → Gle f.e g g₁ → let f' : Fm := ⟨f.L, f.cl, e'⟩; St w b f' g₁ m₁ cm₁ gl₁ led₁ h₁ →
      LoopK w b f e' gs dr os g₁ J' Q' → (∀ v s', R (.ok (.ret v)) s' → Q' (.ret v) s') → (∀ s', R (.ok .next) s' → Q' .brk s') → J i g₁ m₁ cm₁ gl₁ led₁ →
      wpAny (model PG w) A (assign target env v) (fun _ s₂ => wpAny (model PG w) A (execs body env) Q' (fun _ _ => False) s₂) (fun _ _ => False) ⟨h₁, gs, dr, tk₁, os⟩)
    (done : ∀ g₁ m₁ cm₁ gl₁ led₁ h₁ tk₁, J its.length g₁ m₁ cm₁ gl₁ led₁ → Gle f.e g g₁ → St w b f g₁ m₁ cm₁ gl₁ led₁ h₁ → R (.ok .next) ⟨h₁, gs, dr, tk₁, os⟩) :
    wpAny (model PG w) A (pyIter (.ref l)) (fun it s₂ => codeAny (model PG w) A (.forLoop target it body [] env) R s₂) E ⟨h, gs, dr, tk, os⟩ :=
  z_forT S hh hl O J j0 (fun i v e' g₁ m₁ cm₁ gl₁ led₁ h₁ tk₁ hi j hs hG S1 => turn i v e' g₁ m₁ cm₁ gl₁ led₁ h₁ tk₁ _ hi hs hG S1 LoopK.post (fun _ _ z => z) (fun _ z => z) j) done

end
section
variable {w : World} {b : Heap} {f : Fm} {g : Heap} {m cm : Str → Option Value} {gl gl' gp gr led led' : Led} {h h' X : Heap} {A : Around} {E : Value → Shared → Prop} {env : Env} {gs : Array GenState} {dr : Drawn} {tk : Nat} {os : OsState} {x y : Str} {pos px py spos : Pos} {v t c r : Value}
  {Q : Value → Shared → Prop} {QF : Flow → Shared → Prop} {QU : Unit → Shared → Prop} {a d dx C l ta tra : Addr} {P P' : Obj → Prop} {name : Str} {s : Shared} {e : Expr} {rest : List Expr} {its : List Value} {value slice : Expr} {tab : List (Int × Value)} {trl : List (Str × Value)} {kvs : List (Str × Value)} {D : Doc} {H : Head} {o : Option Value} {ns : List Int} {ws : List Str}

theorem putB_has {st : BS} {n : Int} {v : Bool} (h : hasB st n = true) : (putB st n v).length = st.length := by unfold putB; rw [if_pos h, List.length_map]
theorem setAll_len (ns : List Int) (v : Bool) (st : BS) : (setAll st ns v).length = st.length := by
  unfold setAll
  induction ns generalizing st with
  | nil => rfl
  | cons n ns ih =>
    rw [List.foldl_cons, ih]
    split
    · rename_i h; exact putB_has h
    · rfl
theorem foldPut_len (F : Int → Bool) (l : List Int) (acc : BS) : (l.foldl (fun st n => putB st n (F n)) acc).length ≤ acc.length + l.length := by
  induction l generalizing acc with
  | nil => simp
  | cons x xs ih => rw [List.foldl_cons, List.length_cons]; have := ih (putB acc x (F x)); have := putB_len acc x (F x); omega
theorem setAll_take {st : BS} {ns : List Int} {v : Bool} {i : Nat} {n : Int} (h : ns[i]? = some n) : setAll st (ns.take (i + 1)) v = if hasB (setAll st (ns.take i) v) n = true then putB (setAll st (ns.take i) v) n v else setAll st (ns.take i) v := by
  rw [take_snoc h]; unfold setAll; rw [List.foldl_append]; rfl
theorem bne_dec (x y : Str) : (x != y) = decide (x ≠ y) := by
  cases h : x == y
  · rw [bne, h]; have : x ≠ y := by simpa using h
    simp [this]
  · rw [bne, h]; have : x = y := by simpa using h
    simp [this]
def stepB (ns : List Int) (C : Conf) (bef : Option BS) : Nat → BS
  | 0 => ns.foldl (fun st n => putB st n (initB C.base bef n)) []
  | 1 => setAll (ns.foldl (fun st n => putB st n (initB C.base bef n)) []) C.on true
  | _ => starting ns C bef
theorem start_both {nv cv bv : Value} {C : Conf} {bef : Option BS} {args : List Value} (ha : args = [nv, cv, bv] ∨ args = [nv, cv] ∧ bv = .none) (S : St w b f g m cm gl led h) (RM : Room 3 A) (sX : Sub X h) (NV : IntsV X nv ns) (CV : ConfV w X cv C) (BV : BefV w X bv bef) (hlen : ns.length ≤ 100)
    (k : ∀ r g' h' tk', Gle f.e g g' → St w b f g' m cm gl led h' → StV w g' r (starting ns C bef) → Q r ⟨h', gs, dr, tk', os⟩) : wpAny (model PG w) A (call (.ref 457) args []) Q E ⟨h, gs, dr, tk, os⟩ := by
  have big : (10000 : Nat) ≤ sizeLine := by rw [sizeLine_eq]; decide
  obtain ⟨ca, cdx, ct, v2, v3, v4, v5, v6, v7, rfl, CI, CD, f2, f3, f4, f5, f7⟩ := CV
  obtain ⟨ln, nvs, rfl, LN, NA⟩ := id NV
  refine wpAny_call ?_
  refine' z_enterV (gp := []) (gr := gl) (binds := [("numbers", .ref ln), ("config", .ref ca), ("before", bv)]) S RM ?k1 ?k2 ?k3 ?k4 ?_ ?k5 ?k6 ?k7 ?k8
  case k1 => k_is
  case k2 => k_is
  case k3 => rcases ha with rfl | ⟨rfl, rfl⟩; (exact binds_K S.K rfl (by k_is) rfl rfl rfl); exact binds_K S.K rfl (by k_is) rfl rfl rfl
  case k4 => exact locs rfl
  case k5 => decide
  case k6 => rfl
  case k7 => rfl
  case k8 => rfl
  intro L' h1 Q9 E9 A9 f9 m9 S1 RM1 hret9 hnext9 hE9
  have sx : Sub X h1 := fun a o e => S1.ke _ _ (sX _ _ e)
  repeat' (first | walk_at "Z" | walk_at "Zif")
  refine z_newDict S1 fun d h2 nd _ S2 => ?_
  repeat' (first | walk_at "Z" | walk_at "Zif")
  rename_i h3 S3
  have sx3 : Sub X h3 := fun a o e => S3.ke _ _ (sX _ _ e)
  refine wpAny_For ?_
  repeat' (first | walk_at "Z" | walk_at "Zif")
  obtain ⟨oln, eln, _⟩ := id LN
  refine z_forLQ S3 RM1.hh (LN.keeps sx3) (S3.off_of_e (o := oln) (sX _ _ eln)) rfl rfl rfl
    (fun i g₁ m₁ cm₁ gl₁ led₁ => g = g₁ ∧ gl₁ = [] ∧ m₁ "config" = some (.ref ca) ∧ m₁ "before" = some bv ∧ m₁ "states" = some (.ref d) ∧ led₁ = [(d, ID w d (encB ((ns.take i).foldl (fun st n => putB st n (initB C.base bef n)) [])))]) ⟨rfl, rfl, rfl, rfl, rfl, rfl⟩ ?_ ?_
  · intro i v e' g₁ m₁ cm₁ gl₁ led₁ h₁ tk₁ Q9 J9 hi hs hG f9 m9 S4 hn9 hr9 hb9 j9
    obtain ⟨rfl, rfl, hm1, hm2, hm3, rfl⟩ := j9
    obtain ⟨n, hn, t, rfl⟩ := NA.get hi
    have sx4 : Sub X h₁ := fun a o e => S4.ke _ _ (hs _ _ (sX _ _ e))
    repeat' (first | walk_at "Z" | walk_at "Zif")
    refine' z_attr S4 (CI.keeps sx4) (CD.keeps sx4) rfl ?k1 ?k2 ?k3 rfl ?_
    case k1 => k_is
    case k2 => k_is
    case k3 => k_is
    repeat' (first | walk_at "Z" | walk_at "Zif")
    have stp : ∀ (x : Bool), x = initB C.base bef n → encB (putB ((ns.take i).foldl (fun st n => putB st n (initB C.base bef n)) []) n x) = encB ((ns.take (i + 1)).foldl (fun st n => putB st n (initB C.base bef n)) []) := fun x hx => by
      rw [take_snoc hn, List.foldl_append, hx]; rfl
    have ln0 : (encB ((ns.take i).foldl (fun st n => putB st n (initB C.base bef n)) [])).length ≤ sizeLine := by
      have key : ∀ (l : List Int) (acc : BS), (l.foldl (fun st n => putB st n (initB C.base bef n)) acc).length ≤ acc.length + l.length := by
        intro l
        induction l with
        | nil => intro acc; simp
        | cons x xs ih => intro acc; rw [List.foldl_cons, List.length_cons]; have := ih (putB acc x (initB C.base bef x)); have := putB_len acc x (initB C.base bef x); omega
      unfold encB
      rw [List.length_map]
      have := key (ns.take i) []
      have := List.length_take_le i ns
      have : (ns.take i).length ≤ ns.length := by rw [List.length_take]; omega
      simp at *
      omega
    cases hb : (C.base == Str.ofString "Unchanged") with
    | true =>
      have hb' : C.base = "Unchanged" := beq_iff_eq.mp hb
      repeat' (first | walk_at "Z" | walk_at "Zif")
      rcases BV with ⟨rfl, rfl⟩ | ⟨st, rfl, bd, rfl, BD⟩
      · repeat' (first | walk_at "Z" | walk_at "Zif")
        refine' z_attr S4 (CI.keeps sx4) (CD.keeps sx4) rfl ?k1 ?k2 ?k3 rfl ?_
        case k1 => k_is
        case k2 => k_is
        case k3 => k_is
        repeat' (first | walk_at "Z" | walk_at "Zif")
        refine z_setI S4 .here (fun h5 S5 => ?_) ln0
        repeat' (first | walk_at "Z" | walk_at "Zif")
        exact hn9.go S5 (Gle.refl _ _) ⟨rfl, rfl, hm1, hm2, hm3, by rw [stored_enc, stp _ (bne_dec _ _)]⟩
      · repeat' (first | walk_at "Z" | walk_at "Zif")
        refine zz_getM (BD.keeps sx4).id ?_
        repeat' (first | walk_at "Z" | walk_at "Zif")
        refine zz_get2 (kk := n) (BD.keeps sx4).id BD.idn (iis _ _) ?_
        rw [valueAt_enc, (by cases getB st n <;> rfl : ((getB st n).map Value.bool).getD (.bool true) = .bool ((getB st n).getD true))]
        repeat' (first | walk_at "Z" | walk_at "Zif")
        refine z_setI S4 .here (fun h5 S5 => ?_) ln0
        repeat' (first | walk_at "Z" | walk_at "Zif")
        exact hn9.go S5 (Gle.refl _ _) ⟨rfl, rfl, hm1, hm2, hm3, by rw [stored_enc, stp _ (by unfold initB; dsimp only; rw [if_pos hb'])]⟩
    | false =>
      have hb' : ¬ C.base = "Unchanged" := fun e => by rw [beq_iff_eq.mpr e] at hb; cases hb
      repeat' (first | walk_at "Z" | walk_at "Zif")
      refine' z_attr S4 (CI.keeps sx4) (CD.keeps sx4) rfl ?k1 ?k2 ?k3 rfl ?_
      case k1 => k_is
      case k2 => k_is
      case k3 => k_is
      repeat' (first | walk_at "Z" | walk_at "Zif")
      refine z_setI S4 .here (fun h5 S5 => ?_) ln0
      repeat' (first | walk_at "Z" | walk_at "Zif")
      exact hn9.go S5 (Gle.refl _ _) ⟨rfl, rfl, hm1, hm2, hm3, by rw [stored_enc, stp _ (by rw [bne_dec]; unfold initB; cases bef <;> simp [hb'])]⟩
  · rintro g₁ m₁ cm₁ gl₁ led₁ h₁ tk₁ ⟨rfl, rfl, hm1, hm2, hm3, rfl⟩ hG S4
    rw [NA.length, List.take_length] at S4
    have sx4 : Sub X h₁ := fun a o e => S4.ke _ _ (sX _ _ e)
    repeat' (first | walk_at "Z" | walk_at "Zif")
    refine wpAny_For ?_
    repeat' (first | walk_at "Z" | walk_at "Zif")
    refine' z_attr S4 (CI.keeps sx4) (CD.keeps sx4) rfl ?k1 ?k2 ?k3 rfl ?_
    case k1 => k_is
    case k2 => k_is
    case k3 => k_is
    repeat' (first | walk_at "Z" | walk_at "Zif")
    rename_i t1 h5 S5 nt1
    have sx5 : Sub X h5 := fun a o e => S5.ke _ _ (sX _ _ e)
    refine' z_attr S5 (CI.keeps sx5) (CD.keeps sx5) rfl ?k1 ?k2 ?k3 rfl ?_
    case k1 => k_is
    case k2 => k_is
    case k3 => k_is
    repeat' (first | walk_at "Z" | walk_at "Zif")
    rename_i t2 h6 S6 nt2 tt h7 S7 ntt
    obtain ⟨g8, G8, FZ, S8⟩ := St.freeze (new := [(tt, TO [.ref t1, .ref t2]), (t2, TO [.ref v3, .bool false]), (t1, TO [.ref v2, .bool true])]) (led := [(d, ID w d (encB (ns.foldl (fun st n => putB st n (initB C.base bef n)) [])))]) S7
    have F0 : Ha g8 tt (TO [.ref t1, .ref t2]) := FZ _ (.head _)
    have F2 : Ha g8 t2 (TO [.ref v3, .bool false]) := FZ _ (.tail _ (.head _))
    have F1 : Ha g8 t1 (TO [.ref v2, .bool true]) := FZ _ (.tail _ (.tail _ (.head _)))
    obtain ⟨ott, ett, _⟩ := id F0
    have l0 : (ns.foldl (fun st n => putB st n (initB C.base bef n)) []).length ≤ 100 := by
      have := foldPut_len (initB C.base bef) ns []
      simp at this; omega
    refine z_forTQ S8 RM1.hh (F0.keeps S8.kg) (S8.off_of_g ett)
      (fun i g₁ m₁ cm₁ gl₁ led₁ => gl₁ = [] ∧ m₁ "states" = some (.ref d) ∧ led₁ = [(d, ID w d (encB (stepB ns C bef i)))]) ⟨rfl, hm3, rfl⟩ ?_ ?_
    · intro i v e' g₂ m₂ cm₂ gl₂ led₂ h₂ tk₂ Q9 J9 hi hs hG f9 S9 hn9 hr9 hb9 j9
      obtain ⟨rfl, hs1, rfl⟩ := j9
      have CASE : ∃ tv lv bb xs st, v = .ref tv ∧ Ha g8 tv (TO [.ref lv, .bool bb]) ∧ IntsV X (.ref lv) xs ∧ (stepB ns C bef i) = st ∧ st.length ≤ 100 ∧
          stepB ns C bef (i + 1) = setAll st xs bb := by
        match i, hi with
        | 0, hi => cases hi; exact ⟨_, _, _, _, _, rfl, F1, f2, rfl, l0, rfl⟩
        | 1, hi => cases hi; exact ⟨_, _, _, _, _, rfl, F2, f3, rfl, Nat.le_trans (Nat.le_of_eq (setAll_len C.on true _)) l0, rfl⟩
        | (j + 2), hi => simp at hi
      obtain ⟨tv, lv, bb, xs, st, rfl, FT, IV, e1, e2, e3⟩ := CASE
      rw [e1] at S9
      refine z_unpack2 S9 RM1.hh (FT.keeps fun a o e => S9.kg _ _ (hG.1 _ _ e)) ?_ rfl rfl rfl rfl
      intro h10 tk10 S10 _
      repeat' (first | walk_at "Z" | walk_at "Zif")
      refine wpAny_For ?_
      repeat' (first | walk_at "Z" | walk_at "Zif")
      obtain ⟨_, xvs, ez, LX, XA⟩ := id IV
      cases ez
      obtain ⟨olx, elx, _⟩ := id LX
      refine z_forLQ S10 RM1.hh (LX.keeps fun a o e => S10.ke _ _ (hs _ _ (sX _ _ e))) (S10.off_of_e (o := olx) (hs _ _ (sX _ _ elx))) rfl rfl rfl
        (fun j g₃ m₃ cm₃ gl₃ led₃ => g₂ = g₃ ∧ gl₃ = [] ∧ m₃ "states" = some (.ref d) ∧ m₃ "is_on" = some (.bool bb) ∧ led₃ = [(d, ID w d (encB (setAll st (xs.take j) bb)))]) ⟨rfl, rfl, hs1, rfl, rfl⟩ ?_ ?_
      · intro j vv e'' g₃ m₃ cm₃ gl₃ led₃ h₃ tk₃ Q9 J9 hj hs2 hG2 f9 m9 S11 hn9 hr9 hb9 j9
        obtain ⟨rfl, rfl, hq1, hq2, rfl⟩ := j9
        obtain ⟨n, hn, t, rfl⟩ := XA.get hj
        have DH := S11.ha (.head _)
        repeat' (first | walk_at "Z" | walk_at "Zif")
        refine zz_in (kk := n) DH.id DH.idn (iis _ _) ?_
        rw [valueAt_enc, Option.isSome_map, hasB_get]
        have tk1 := setAll_take (st := st) (v := bb) hn
        cases hb : hasB (setAll st (xs.take j) bb) n with
        | true =>
          rw [if_pos hb] at tk1
          repeat' (first | walk_at "Z" | walk_at "Zif")
          refine z_setI S11 .here (fun h12 S12 => ?_) (by unfold encB; rw [List.length_map, setAll_len]; omega)
          repeat' (first | walk_at "Z" | walk_at "Zif")
          exact hn9.go S12 (Gle.refl _ _) ⟨rfl, rfl, hq1, hq2, by rw [stored_enc, tk1]⟩
        | false =>
          rw [if_neg (by rw [hb]; decide)] at tk1
          repeat' (first | walk_at "Z" | walk_at "Zif")
          exact hn9.go S11 (Gle.refl _ _) ⟨rfl, rfl, hq1, hq2, by rw [tk1]⟩
      · rintro g₃ m₃ cm₃ gl₃ led₃ h₃ tk₃ ⟨rfl, rfl, hq1, hq2, rfl⟩ hG2 S11
        repeat' (first | walk_at "Z" | walk_at "Zif")
        rw [XA.length, List.take_length, ← e3] at S11
        exact hn9.go S11 hG2 ⟨rfl, hq1, rfl⟩
    · rintro g₂ m₂ cm₂ gl₂ led₂ h₂ tk₂ ⟨rfl, hs1, rfl⟩ hG S9
      repeat' (first | walk_at "Z" | walk_at "Zif")
      obtain ⟨g', G', s', S12, FZ, sh⟩ := S.done (gp := []) (gr := gl) S9 (G8.trans hG)
      exact k _ _ _ _ G' S12 ⟨_, rfl, FZ (.head _)⟩
theorem start_spec {nv cv bv : Value} {C : Conf} {bef : Option BS} (S : St w b f g m cm gl led h) (RM : Room 3 A) (sX : Sub X h) (NV : IntsV X nv ns) (CV : ConfV w X cv C) (BV : BefV w X bv bef) (hlen : ns.length ≤ 100)
    (k : ∀ r g' h' tk', Gle f.e g g' → St w b f g' m cm gl led h' → StV w g' r (starting ns C bef) → Q r ⟨h', gs, dr, tk', os⟩) : wpAny (model PG w) A (call (.ref 457) [nv, cv, bv] []) Q E ⟨h, gs, dr, tk, os⟩ :=
  start_both (.inl rfl) S RM sX NV CV BV hlen k
theorem start2_spec {nv cv : Value} {C : Conf} (S : St w b f g m cm gl led h) (RM : Room 3 A) (sX : Sub X h) (NV : IntsV X nv ns) (CV : ConfV w X cv C) (hlen : ns.length ≤ 100)
    (k : ∀ r g' h' tk', Gle f.e g g' → St w b f g' m cm gl led h' → StV w g' r (starting ns C none) → Q r ⟨h', gs, dr, tk', os⟩) : wpAny (model PG w) A (call (.ref 457) [nv, cv] []) Q E ⟨h, gs, dr, tk, os⟩ :=
  start_both (.inr ⟨rfl, rfl⟩) S RM sX NV CV (.inl ⟨rfl, rfl⟩) hlen k

end
section
variable {w : World} {b : Heap} {f : Fm} {g : Heap} {m cm : Str → Option Value} {gl gl' gp gr led led' : Led} {h h' X : Heap} {A : Around} {E : Value → Shared → Prop} {env : Env} {gs : Array GenState} {dr : Drawn} {tk : Nat} {os : OsState} {x y : Str} {pos px py spos : Pos} {v t c r : Value}
  {Q : Value → Shared → Prop} {QF : Flow → Shared → Prop} {QU : Unit → Shared → Prop} {a d dx C l ta tra : Addr} {P P' : Obj → Prop} {name : Str} {s : Shared} {e : Expr} {rest : List Expr} {its : List Value} {value slice : Expr} {tab : List (Int × Value)} {trl : List (Str × Value)} {kvs : List (Str × Value)} {D : Doc} {H : Head} {o : Option Value} {ns : List Int} {ws : List Str}

theorem z_dictI {d : Addr} {kvs : List (Int × Value)} (S : St w b f g m cm gl led h) (H : Ha h d (ID w d kvs)) (hsz : kvs.length ≤ sizeLine) (k : ∀ d' h', h.get? d' = none → St w b f g m cm gl ((d', ID w d' kvs) :: led) h' → Q (.ref d') ⟨h', gs, dr, tk, os⟩) : wpAny (model PG w) A (call (.type "dict") [.ref d]) Q E ⟨h, gs, dr, tk, os⟩ :=
  kt_call_dict (s := ⟨h, gs, dr, tk, os⟩) H.idn H.id hsz fun h' hD hs => k _ h' (fresh_at h) (S.add (fun c o e => (hs.2 c (Nat.ne_of_lt (Heap.lt_size e))).trans (Heap.get?_push_of_some _ e)) (fresh_at h) (let ⟨o, e, p⟩ := Heap.dictOf_iff.mp hD; ⟨o, e, S.nosys, p⟩))
theorem z_dictSS {d : Addr} (S : St w b f g m cm gl led h) (H : Ha h d (SD w d kvs)) (hsz : kvs.length ≤ sizeLine) (k : ∀ d' h', h.get? d' = none → St w b f g m cm gl ((d', SD w d' kvs) :: led) h' → Q (.ref d') ⟨h', gs, dr, tk, os⟩) : wpAny (model PG w) A (call (.type "dict") [.ref d]) Q E ⟨h, gs, dr, tk, os⟩ :=
  kt_call_dict (s := ⟨h, gs, dr, tk, os⟩) H.sdn H.sd hsz fun h' hD hs => k _ h' (fresh_at h) (S.add (fun c o e => (hs.2 c (Nat.ne_of_lt (Heap.lt_size e))).trans (Heap.get?_push_of_some _ e)) (fresh_at h) (let ⟨o, e, p⟩ := Heap.dictOf_iff.mp hD; ⟨o, e, S.nosys, p⟩))

def rowStep (n : Int) (st : BS) (row : List Int) : BS := if n ∈ row then setAll st row false else st
def switchB (st : BS) (radio : List (List Int)) (n : Int) (on : Bool) : BS := putB (if on = true then radio.foldl (rowStep n) st else st) n on
theorem rowStep_len (n : Int) (st : BS) (row : List Int) : (rowStep n st row).length = st.length := by
  unfold rowStep; split
  · exact setAll_len _ _ _
  · rfl
theorem radio_len (n : Int) (rows : List (List Int)) (st : BS) : (rows.foldl (rowStep n) st).length = st.length := by
  induction rows generalizing st with
  | nil => rfl
  | cons r rs ih => rw [List.foldl_cons, ih, rowStep_len]
theorem radio_take {n : Int} {st : BS} {rows : List (List Int)} {i : Nat} {r : List Int} (h : rows[i]? = some r) : (rows.take (i + 1)).foldl (rowStep n) st = rowStep n ((rows.take i).foldl (rowStep n) st) r := by
  rw [take_snoc h, List.foldl_append]; rfl

theorem switch_spec {sv cv : Value} {C : Conf} {st : BS} {n : Int} {tn : Tok} {on : Bool} (S : St w b f g m cm gl led h) (RM : Room 3 A) (sX : Sub X h) (SV : StV w X sv st) (CV : ConfV w X cv C) (hs1 : hasB st n = true) (hs2 : n ∉ C.locked) (hlen : st.length ≤ 100)
    (k : ∀ r g' h' tk', Gle f.e g g' → St w b f g' m cm gl led h' → StV w g' r (switchB st C.radio n on) → Q r ⟨h', gs, dr, tk', os⟩) : wpAny (model PG w) A (call (.ref 464) [sv, cv, .int n tn, .bool on] []) Q E ⟨h, gs, dr, tk, os⟩ := by
  have big : (10000 : Nat) ≤ sizeLine := by rw [sizeLine_eq]; decide
  have bl : ∀ (st' : BS), st'.length ≤ 101 → (encB st').length ≤ sizeLine := fun st' q => by unfold encB; rw [List.length_map]; omega
  obtain ⟨ca, cdx, ct, v2, v3, v4, v5, v6, v7, rfl, CI, CD, f2, f3, f4, f5, f7⟩ := CV
  obtain ⟨sd, rfl, SD'⟩ := SV
  refine wpAny_call ?_
  refine' z_enterV (gp := []) (gr := gl) (binds := [("states", .ref sd), ("config", .ref ca), ("number", .int n tn), ("is_on", .bool on)]) S RM ?k1 ?k2 ?k3 ?k4 ?_ ?k5 ?k6 ?k7 ?k8
  case k1 => k_is
  case k2 => k_is
  case k3 => exact BindsTo.of_eq rfl
  case k4 => exact locs rfl
  case k5 => decide
  case k6 => rfl
  case k7 => rfl
  case k8 => rfl
  intro L' h1 Q9 E9 A9 f9 m9 S1 RM1 hret9 hnext9 hE9
  have sx : Sub X h1 := fun a o e => S1.ke _ _ (sX _ _ e)
  repeat' (first | walk_at "Z" | walk_at "Zif")
  refine zz_notin (kk := n) (SD'.keeps sx).id SD'.idn (iis _ _) ?_
  rw [valueAt_enc, Option.isSome_map, hasB_get, hs1]
  repeat' (first | walk_at "Z" | walk_at "Zif")
  refine' z_attr S1 (CI.keeps sx) (CD.keeps sx) rfl ?k1 ?k2 ?k3 rfl ?_
  case k1 => k_is
  case k2 => k_is
  case k3 => k_is
  refine z_inI RM1 (LV.mono monoI f5 sx) ?_
  rw [decide_eq_false hs2]
  repeat' (first | walk_at "Z" | walk_at "Zif")
  refine z_dictI S1 (SD'.keeps sx) (bl _ (by omega)) fun d h2 nd S2 => ?_
  repeat' (first | walk_at "Z" | walk_at "Zif")
  rename_i h3 S3
  have sx3 : Sub X h3 := fun a o e => S3.ke _ _ (sX _ _ e)
  unfold switchB at k
  cases on with
  | false =>
    repeat' (first | walk_at "Z" | walk_at "Zif")
    refine z_setI S3 .here (fun h5 S5 => ?_) (bl _ (by omega))
    repeat' (first | walk_at "Z" | walk_at "Zif")
    rw [stored_enc] at S5
    obtain ⟨g', G', s', S12, FZ, sh⟩ := S.done (gp := []) (gr := gl) S5 (Gle.refl _ _)
    exact k _ _ _ _ G' S12 ⟨_, rfl, FZ (.head _)⟩
  | true =>
    repeat' (first | walk_at "Z" | walk_at "Zif")
    refine wpAny_For ?_
    repeat' (first | walk_at "Z" | walk_at "Zif")
    refine' z_attr S3 (CI.keeps sx3) (CD.keeps sx3) rfl ?k1 ?k2 ?k3 rfl ?_
    case k1 => k_is
    case k2 => k_is
    case k3 => k_is
    obtain ⟨_, rvs, ez, LR, RA⟩ := id f4
    cases ez
    obtain ⟨olr, elr, _⟩ := id LR
    refine z_forLQ S3 RM1.hh (LR.keeps sx3) (S3.off_of_e (o := olr) (sX _ _ elr)) rfl rfl rfl
      (fun i g₁ m₁ cm₁ gl₁ led₁ => g = g₁ ∧ gl₁ = [] ∧ m₁ "number" = some (.int n tn) ∧ m₁ "is_on" = some (.bool true) ∧ m₁ "found" = some (.ref d) ∧ led₁ = [(d, ID w d (encB ((C.radio.take i).foldl (rowStep n) st)))]) ⟨rfl, rfl, rfl, rfl, rfl, rfl⟩ ?_ ?_
    · intro i v e' g₁ m₁ cm₁ gl₁ led₁ h₁ tk₁ Q9 J9 hi hs hG f9 m9 S4 hn9 hr9 hb9 j9
      obtain ⟨rfl, rfl, hm1, hm2, hm3, rfl⟩ := j9
      obtain ⟨row, hrow, RW⟩ := RA.get hi
      have sxe : Sub X e' := fun a o e => hs _ _ (sX _ _ e)
      have sx4 : Sub X h₁ := fun a o e => S4.ke _ _ (sxe _ _ e)
      have tk1 := radio_take (n := n) (st := st) hrow
      rw [show ∀ X, rowStep n X row = if n ∈ row then setAll X row false else X from fun _ => rfl] at tk1
      repeat' (first | walk_at "Z" | walk_at "Zif")
      refine z_inI RM1 (LV.mono monoI RW sx4) ?_
      by_cases hin : n ∈ row
      · rw [if_pos hin] at tk1
        rw [decide_eq_true hin]
        repeat' (first | walk_at "Z" | walk_at "Zif")
        refine wpAny_For ?_
        repeat' (first | walk_at "Z" | walk_at "Zif")
        obtain ⟨lx, xvs, rfl, LX, XA⟩ := id RW
        obtain ⟨olx, elx, _⟩ := id LX
        refine z_forLQ S4 RM1.hh (LX.keeps sx4) (S4.off_of_e (o := olx) (sxe _ _ elx)) rfl rfl rfl
          (fun j g₃ m₃ cm₃ gl₃ led₃ => g = g₃ ∧ gl₃ = [] ∧ m₃ "number" = some (.int n tn) ∧ m₃ "is_on" = some (.bool true) ∧ m₃ "found" = some (.ref d) ∧ led₃ = [(d, ID w d (encB (setAll ((C.radio.take i).foldl (rowStep n) st) (row.take j) false)))]) ⟨rfl, rfl, hm1, hm2, hm3, rfl⟩ ?_ ?_
        · intro j vv e'' g₃ m₃ cm₃ gl₃ led₃ h₃ tk₃ Q9 J9 hj hs2 hG2 f9 m9 S11 hn9 hr9 hb9 j9
          obtain ⟨rfl, rfl, hq1, hq2, hq3, rfl⟩ := j9
          obtain ⟨n', hn, t, rfl⟩ := XA.get hj
          have DH := S11.ha (.head _)
          repeat' (first | walk_at "Z" | walk_at "Zif")
          refine zz_in (kk := n') DH.id DH.idn (iis _ _) ?_
          rw [valueAt_enc, Option.isSome_map, hasB_get]
          have tk2 := setAll_take (st := (C.radio.take i).foldl (rowStep n) st) (v := false) hn
          cases hb : hasB (setAll ((C.radio.take i).foldl (rowStep n) st) (row.take j) false) n' with
          | true =>
            rw [if_pos hb] at tk2
            repeat' (first | walk_at "Z" | walk_at "Zif")
            refine z_setI S11 .here (fun h12 S12 => ?_) (bl _ (by rw [setAll_len, radio_len]; omega))
            repeat' (first | walk_at "Z" | walk_at "Zif")
            exact hn9.go S12 (Gle.refl _ _) ⟨rfl, rfl, hq1, hq2, hq3, by rw [stored_enc, tk2]⟩
          | false =>
            rw [if_neg (by rw [hb]; decide)] at tk2
            repeat' (first | walk_at "Z" | walk_at "Zif")
            exact hn9.go S11 (Gle.refl _ _) ⟨rfl, rfl, hq1, hq2, hq3, by rw [tk2]⟩
        · rintro g₃ m₃ cm₃ gl₃ led₃ h₃ tk₃ ⟨rfl, rfl, hq1, hq2, hq3, rfl⟩ hG2 S11
          repeat' (first | walk_at "Z" | walk_at "Zif")
          rw [XA.length, List.take_length] at S11
          exact hn9.go S11 hG2 ⟨rfl, rfl, hq1, hq2, hq3, by rw [tk1]⟩
      · rw [if_neg hin] at tk1
        rw [decide_eq_false hin]
        repeat' (first | walk_at "Z" | walk_at "Zif")
        exact hn9.go S4 (Gle.refl _ _) ⟨rfl, rfl, hm1, hm2, hm3, by rw [tk1]⟩
    · rintro g₁ m₁ cm₁ gl₁ led₁ h₁ tk₁ ⟨rfl, rfl, hm1, hm2, hm3, rfl⟩ hG S4
      rw [RA.length, List.take_length] at S4
      repeat' (first | walk_at "Z" | walk_at "Zif")
      refine z_setI S4 .here (fun h5 S5 => ?_) (bl _ (by rw [radio_len]; omega))
      repeat' (first | walk_at "Z" | walk_at "Zif")
      rw [stored_enc] at S5
      obtain ⟨g', G', s', S12, FZ, sh⟩ := S.done (gp := []) (gr := gl) S5 hG
      exact k _ _ _ _ G' S12 ⟨_, rfl, FZ (.head _)⟩

end
section
variable {w : World} {b : Heap} {f : Fm} {g : Heap} {m cm : Str → Option Value} {gl gl' gp gr led led' : Led} {h h' X : Heap} {A : Around} {E : Value → Shared → Prop} {env : Env} {gs : Array GenState} {dr : Drawn} {tk : Nat} {os : OsState} {x y : Str} {pos px py spos : Pos} {v t c r : Value}
  {Q : Value → Shared → Prop} {QF : Flow → Shared → Prop} {QU : Unit → Shared → Prop} {a d dx C l ta tra : Addr} {P P' : Obj → Prop} {name : Str} {s : Shared} {e : Expr} {rest : List Expr} {its : List Value} {value slice : Expr} {tab : List (Int × Value)} {trl : List (Str × Value)} {kvs : List (Str × Value)} {D : Doc} {H : Head} {o : Option Value} {ns : List Int} {ws : List Str}

def litB (st : BS) (n : Int) : Bool := (getB st n).getD false
def crowdI (st : BS) (rows : List (List Int)) (i : Nat) : Bool := decide (1 < ((rows.getD i []).filter (litB st)).length)
def crowd (st : BS) (rows : List (List Int)) (k : Nat) : List Int := ((List.range k).filter (crowdI st rows)).map Int.ofNat
theorem crowd_succ (st : BS) (rows : List (List Int)) (k : Nat) : crowd st rows (k + 1) = crowd st rows k ++ (if crowdI st rows k = true then [(k : Int)] else []) := by
  unfold crowd
  rw [List.range_succ, List.filter_append, List.map_append]
  congr 1
  cases h : crowdI st rows k <;> simp [h]
theorem crowd_len (st : BS) (rows : List (List Int)) (k : Nat) : (crowd st rows k).length ≤ k := by
  unfold crowd
  rw [List.length_map]
  exact Nat.le_trans (List.length_filter_le _ _) (by rw [List.length_range]; exact Nat.le_refl _)

theorem crowd_spec {sv cv : Value} {C : Conf} {st : BS} (S : St w b f g m cm gl led h) (RM : Room 3 A) (sX : Sub X h) (SV : StV w X sv st) (CV : ConfV w X cv C) (hlen : C.radio.length ≤ 100) (hrow : ∀ r ∈ C.radio, r.length ≤ 100)
    (k : ∀ r g' h' tk', Gle f.e g g' → St w b f g' m cm gl led h' → IntsV g' r (crowd st C.radio C.radio.length) → Q r ⟨h', gs, dr, tk', os⟩) : wpAny (model PG w) A (call (.ref 469) [sv, cv] []) Q E ⟨h, gs, dr, tk, os⟩ := by
  have big : (10000 : Nat) ≤ sizeLine := by rw [sizeLine_eq]; decide
  obtain ⟨ca, cdx, ct, v2, v3, v4, v5, v6, v7, rfl, CI, CD, f2, f3, f4, f5, f7⟩ := CV
  obtain ⟨sd, rfl, SD'⟩ := SV
  refine wpAny_call ?_
  refine' z_enterCV (gp := []) (gr := gl) (binds := [("states", .ref sd), ("config", .ref ca)]) S RM ?k1 ?k2 ?k3 ?k4 ?k5 ?_ ?k6 ?k7 ?k8
  case k1 => k_is
  case k2 => k_is
  case k3 => exact BindsTo.of_eq rfl
  case k4 => rfl
  case k5 => decide
  case k6 => rfl
  case k7 => rfl
  case k8 => rfl
  intro L' h1 tk1 Q9 E9 A9 f9 m9 cm9 S1 RM1 hret9 hnext9 hE9
  repeat' (first | walk_at "Z" | walk_at "Zif")
  rename_i lf h2 S2 nlf h3 S3
  have sx3 : Sub X h3 := fun a o e => S3.ke _ _ (sX _ _ e)
  refine wpAny_For ?_
  repeat' (first | walk_at "Z" | walk_at "Zif")
  refine' z_attr S3 (CI.keeps sx3) (CD.keeps sx3) rfl ?k1 ?k2 ?k3 rfl ?_
  case k1 => k_is
  case k2 => k_is
  case k3 => k_is
  obtain ⟨_, rvs, ez, LR, RA⟩ := id f4
  cases ez
  have rl := RA.length
  repeat' (first | walk_at "Z" | walk_at "Zif")
  refine z_len (LR.keeps sx3) (by omega) fun t4 tk4 => ?_
  repeat' (first | walk_at "Z" | walk_at "Zif")
  refine z_range S3 fun r h5 tk5 t1 u1 w1 hr S5 sub5 => ?_
  have rs := range_small (a := 0) (c := (rvs.length : Int)) (by omega) (by omega) (by omega)
  refine z_forRQ (n := rvs.length) S5 RM1.hh hr rs.1 (by rw [rs.2]; omega) rfl rfl rfl
    (fun i g₁ m₁ cm₁ gl₁ led₁ => g = g₁ ∧ gl₁ = [] ∧ cm₁ "states" = some (.ref sd) ∧ m₁ "config" = some (.ref ca) ∧ m₁ "found" = some (.ref lf) ∧ ∃ ys, led₁ = [(lf, LO ys)] ∧ All2 IntV ys (crowd st C.radio i)) ⟨rfl, rfl, rfl, rfl, rfl, [], rfl, .nil⟩ ?_ ?_
  · intro i t e' g₁ m₁ cm₁ gl₁ led₁ h₁ tk₁ Q9 J9 hi hs hG f9 m9 S6 hn9 hr9 hb9 j9
    obtain ⟨rfl, rfl, hc1, hm1, hm2, ys, rfl, hy⟩ := j9
    have sxe : Sub X e' := fun a o e => hs _ _ (sX _ _ e)
    have sx6 : Sub X h₁ := fun a o e => S6.ke _ _ (sxe _ _ e)
    obtain ⟨rv, hrv⟩ : ∃ rv, rvs[i]? = some rv := ⟨_, List.getElem?_eq_getElem hi⟩
    obtain ⟨row, hrow', RW⟩ := RA.get hrv
    obtain ⟨lx, xvs, rfl, LX, XA⟩ := id RW
    repeat' (first | walk_at "Z" | walk_at "Zif")
    refine z_comp (cl := [("states", L' + 1)]) rfl rfl (by decide) ?_ (fun _ => rfl)
    repeat' (first | walk_at "Z" | walk_at "Zif")
    refine' z_attr S6 (CI.keeps sx6) (CD.keeps sx6) rfl ?k1 ?k2 ?k3 rfl ?_
    case k1 => k_is
    case k2 => k_is
    case k3 => k_is
    repeat' (first | walk_at "Z" | walk_at "Zif")
    refine z_item (LR.keeps sx6) (by omega) (by omega) (by rw [Int.zero_add, Int.toNat_natCast]; exact hrv) ?_
    have xl : xvs.length ≤ 100 := by rw [XA.length]; exact hrow _ (List.mem_of_getElem? hrow')
    refine z_compL S6 RM1.hh (LX.keeps sx6) (fun p hp => nomatch hp) (by omega) (by decide) rfl rfl (fun j ys g' gl => g = g' ∧ gl = [] ∧ ys.length ≤ j ∧ ys.length = ((row.take j).filter (litB st)).length) ⟨rfl, rfl, Nat.le_refl _, rfl⟩ (fun i ys g gl q => q.2.2.1) (fun i ys g gl ⟨_, q, _⟩ => by rw [q]) (CompTurnQ.turn ?_) ?_
    · intro W j vv e'' zs g₂ m₂ gl₂ h₂ tk₂ Qy9 Qn9 J9 hj hv hs2 hG2 f9 m9 S7 hy9 hz9 j9
      obtain ⟨rfl, rfl, hzl, hz⟩ := j9
      obtain ⟨n, hn, t', rfl⟩ := XA.get hv
      have sx7 : Sub X h₂ := fun a o e => S7.ke _ _ (hs2 _ _ (S6.ke _ _ (sxe _ _ e)))
      have hc : e''.IsCell (L' + 1) (some (.ref sd)) := (S6.cellE (x := "states") (lookup_mem rfl) hc1).keeps hs2
      refine tests_one ?_
      repeat' (first | walk_at "Z" | walk_at "Zif")
      refine zz_getM (SD'.keeps sx7).id ?_
      repeat' (first | walk_at "Z" | walk_at "Zif")
      refine zz_get2 (kk := n) (SD'.keeps sx7).id SD'.idn (iis _ _) ?_
      rw [valueAt_enc, (by unfold litB; cases getB st n <;> rfl : ((getB st n).map Value.bool).getD (.bool false) = .bool (litB st n))]
      cases hlit : litB st n with
      | true =>
        repeat' (first | walk_at "Z" | walk_at "Zif")
        exact hy9.go S7 (Gle.refl _ _) ⟨rfl, rfl, by simp; omega, by rw [take_snoc hn, List.filter_append, (by simp [hlit] : List.filter (litB st) [n] = [n]), List.length_append, List.length_append, hz]; rfl⟩
      | false =>
        repeat' (first | walk_at "Z" | walk_at "Zif")
        exact hz9.go S7 (Gle.refl _ _) ⟨rfl, rfl, by omega, by rw [take_snoc hn, List.filter_append, (by simp [hlit] : List.filter (litB st) [n] = []), List.append_nil, hz]⟩
    · rintro W2 zs g7 gl7 h7 tk7 ⟨rfl, rfl, hzl, hz⟩ G7 S7 nW2 _
      rw [XA.length, List.take_length] at hz
      repeat' (first | walk_at "Z" | walk_at "Zif")
      refine z_len (S7.ha (.head _)) (by omega) fun t8 tk8 => ?_
      repeat' (first | walk_at "Z" | walk_at "Zif")
      have cs := crowd_succ st C.radio i
      have ci : decide ((zs.length : Int) > 1) = crowdI st C.radio i := by
        unfold crowdI
        rw [List.getD_eq_getElem?_getD, hrow', hz]
        simp
        omega
      rw [ci]
      cases hcr : crowdI st C.radio i with
      | true =>
        rw [if_pos hcr] at cs
        repeat' (first | walk_at "Z" | walk_at "Zif")
        refine z_appendM (S7.ha (.tail _ (.head _))) ?_
        repeat' (first | walk_at "Z" | walk_at "Zif")
        have yl := hy.length
        have cl := crowd_len st C.radio i
        refine z_append S7 (.there .here) (fun h9 S9 => ?_) (by omega)
        repeat' (first | walk_at "Z" | walk_at "Zif")
        exact hn9.go (S9.sub (List.sublist_append_right [_] _)) (Gle.refl _ _) ⟨rfl, rfl, hc1, hm1, hm2, _, rfl, by rw [cs]; exact hy.snoc ⟨t, by rw [Int.zero_add]⟩⟩
      | false =>
        rw [if_neg (by rw [hcr]; decide), List.append_nil] at cs
        repeat' (first | walk_at "Z" | walk_at "Zif")
        exact hn9.go (S7.sub (List.sublist_append_right [_] _)) (Gle.refl _ _) ⟨rfl, rfl, hc1, hm1, hm2, _, rfl, by rw [cs]; exact hy⟩
  · rintro g₁ m₁ cm₁ gl₁ led₁ h₁ tk₁ ⟨rfl, rfl, hc1, hm1, hm2, ys, rfl, hy⟩ hG S6
    repeat' (first | walk_at "Z" | walk_at "Zif")
    rw [rl] at hy
    obtain ⟨g', G', s', S12, FZ, sh⟩ := S.done (gp := []) (gr := gl) S6 hG
    exact k _ _ _ _ G' S12 ⟨_, _, rfl, FZ (.head _), hy⟩

end
section
variable {w : World} {b : Heap} {f : Fm} {g : Heap} {m cm : Str → Option Value} {gl gl' gp gr led led' : Led} {h h' X : Heap} {A : Around} {E : Value → Shared → Prop} {env : Env} {gs : Array GenState} {dr : Drawn} {tk : Nat} {os : OsState} {x y : Str} {pos px py spos : Pos} {v t c r : Value}
  {Q : Value → Shared → Prop} {QF : Flow → Shared → Prop} {QU : Unit → Shared → Prop} {a d dx C l ta tra : Addr} {P P' : Obj → Prop} {name : Str} {s : Shared} {e : Expr} {rest : List Expr} {its : List Value} {value slice : Expr} {tab : List (Int × Value)} {trl : List (Str × Value)} {kvs : List (Str × Value)} {D : Doc} {H : Head} {o : Option Value} {ns : List Int} {ws : List Str}

theorem valueAt_cons {K : Type} [DecidableEq K] (p : K × Value) (kvs : List (K × Value)) (k : K) : valueAt (p :: kvs) k = if p.1 = k then some p.2 else valueAt kvs k := by
  unfold valueAt
  rw [List.find?_cons]
  by_cases h : p.1 = k <;> simp [h]
theorem valueAt_app {K : Type} [DecidableEq K] (kvs more : List (K × Value)) (k : K) : valueAt (kvs ++ more) k = (valueAt kvs k).or (valueAt more k) := by
  induction kvs with
  | nil => simp [valueAt]
  | cons p kvs ih =>
    rw [List.cons_append, valueAt_cons, valueAt_cons, ih]
    split <;> simp
theorem valueAt_mapped {K : Type} [DecidableEq K] (kvs : List (K × Value)) (k k' : K) (v : Value) : valueAt (kvs.map fun kv => if kv.1 = k then (kv.1, v) else kv) k' = if k = k' then (valueAt kvs k').map (fun _ => v) else valueAt kvs k' := by
  induction kvs with
  | nil => simp [valueAt]
  | cons p kvs ih =>
    rw [List.map_cons, valueAt_cons, valueAt_cons, ih]
    by_cases h1 : p.1 = k <;> by_cases h2 : k = k' <;> by_cases h3 : p.1 = k' <;> simp_all
theorem valueAt_none_any {K : Type} [DecidableEq K] {kvs : List (K × Value)} {k : K} (h : ¬ (kvs.any fun kv => decide (kv.1 = k)) = true) : valueAt kvs k = none := by
  induction kvs with
  | nil => rfl
  | cons p kvs ih =>
    rw [List.any_cons, Bool.or_eq_true, not_or] at h
    rw [valueAt_cons, if_neg (by simpa using h.1), ih h.2]
theorem valueAt_some_any {K : Type} [DecidableEq K] {kvs : List (K × Value)} {k : K} (h : (kvs.any fun kv => decide (kv.1 = k)) = true) : ∃ v, valueAt kvs k = some v := by
  induction kvs with
  | nil => simp at h
  | cons p kvs ih =>
    rw [valueAt_cons]
    by_cases hp : p.1 = k
    · exact ⟨_, if_pos hp⟩
    · rw [if_neg hp]
      rw [List.any_cons, decide_eq_false hp, Bool.false_or] at h
      exact ih h
theorem valueAt_stored {K : Type} [DecidableEq K] (kvs : List (K × Value)) (k k' : K) (v : Value) : valueAt (stored kvs k v) k' = if k = k' then some v else valueAt kvs k' := by
  unfold stored
  split
  · rename_i h
    rw [valueAt_mapped]
    by_cases hk : k = k'
    · subst hk
      obtain ⟨x, hx⟩ := valueAt_some_any h
      rw [if_pos rfl, if_pos rfl, hx]; rfl
    · rw [if_neg hk, if_neg hk]
  · rename_i h
    rw [valueAt_app, valueAt_cons]
    by_cases hk : k = k'
    · subst hk
      rw [if_pos rfl, if_pos rfl, valueAt_none_any h]; rfl
    · rw [if_neg hk, if_neg hk]
      simp [valueAt]
theorem valueAt_without {K : Type} [DecidableEq K] (kvs : List (K × Value)) (k k' : K) : valueAt (without kvs k) k' = if k = k' then none else valueAt kvs k' := by
  unfold without
  induction kvs with
  | nil => simp [valueAt]
  | cons p kvs ih =>
    rw [List.filter_cons]
    by_cases h1 : p.1 = k
    · rw [if_neg (by simp [h1]), ih, valueAt_cons]
      by_cases h2 : k = k'
      · rw [if_pos h2, if_pos h2]
      · rw [if_neg h2, if_neg h2, if_neg (fun e => h2 (h1.symm.trans e))]
    · rw [if_pos (by simp [h1]), valueAt_cons, valueAt_cons, ih]
      by_cases h2 : k = k'
      · subst h2
        rw [if_neg h1, if_pos rfl, if_pos rfl]
      · rw [if_neg h2, if_neg h2]
theorem without_len {K : Type} [DecidableEq K] (kvs : List (K × Value)) (k : K) : (without kvs k).length ≤ kvs.length := List.length_filter_le _ _
theorem stored_len' {K : Type} [DecidableEq K] (kvs : List (K × Value)) (k : K) (v : Value) : (stored kvs k v).length ≤ kvs.length + 1 := by
  unfold stored; split <;> simp

/-- pop of a key that is there -/
theorem z_popM {pl : Sem Bool} {QM : Value × List Value → Shared → Prop} (H : Ha h d (SD w d kvs)) (k : QM (.builtin "dict.pop", [.ref d]) ⟨h, gs, dr, tk, os⟩) : wpAny (model PG w) A (getMethod (.ref d) "pop" pl) QM E ⟨h, gs, dr, tk, os⟩ :=
  getMethod_builtin (s := ⟨h, gs, dr, tk, os⟩) H.sd.typeIs PySem.F.plainAttrs_dict PySem.F.slot_dict_pop PySem.F.type_dict_pop H.sd.mapOf.noDict k
theorem z_popS {n : Str} {t : Tok} (S : St w b f g m cm gl led h) (U : At d (SD w d kvs) (SD w d (without kvs n)) led led') (hv : valueAt kvs n = some v) (k : ∀ h' tk', St w b f g m cm gl led' h' → Q v ⟨h', gs, dr, tk', os⟩) (hsz : kvs.length ≤ sizeLine) :
    wpAny (model PG w) A (call (.builtin "dict.pop") [.ref d, .str n t]) Q E ⟨h, gs, dr, tk, os⟩ :=
  call_meetsIn (s := ⟨h, gs, dr, tk, os⟩) PySem.F.slot_dict_pop (S.ha U.mem).sd.typeIs PySem.F.entry_dict_pop (PySem.F.args_dict_pop_2 _ _) (meets_dict_pop_there (PySem.strKind PG w) d (sis n t) [] (.inl rfl) rfl)
    ⟨_, _, (S.ha U.mem).sd, hsz, hv, fun h' hD hs => k h' _ (S.upd U (fun c o hc e => (hs.2 c hc).trans e) (let ⟨o, e, p⟩ := Heap.dictOf_iff.mp hD; ⟨o, e, (S.ha U.mem).sdn, p⟩))⟩

theorem keq_same {K : Type} [DecidableEq K] {A : Around} {s : Shared} {kvs : List (K × Value)} (hn : (kvs.map (·.1)).Nodup) : KeqHits A s kvs kvs true := by
  have key : ∀ (r pre : List (K × Value)), kvs = pre ++ r → KeqHits A s kvs r true := by
    intro r
    induction r with
    | nil => intro pre _; exact .nil
    | cons p r ih =>
      intro pre e
      obtain ⟨k, v⟩ := p
      have hv : valueAt kvs k = some v := valueAt_of_get hn (i := pre.length) (by rw [e]; simp)
      exact KeqHits.hit (e := true) (b := true) hv (PySem.SeqAt.EqAt.same v) (ih (pre ++ [(k, v)]) (by rw [e]; simp))
  exact key kvs [] rfl
theorem z_eqB {x y : Value} {st : BS} {k : Nat} (R : Room k A) (H : StV w h x st) (H' : StV w h y st) (k' : Q (.bool true) ⟨h, gs, dr, tk, os⟩) : wpAny (model PG w) A (compareOp .Eq x y) Q E ⟨h, gs, dr, tk, os⟩ := by
  obtain ⟨a, rfl, p⟩ := H
  obtain ⟨b, rfl, q⟩ := H'
  obtain ⟨o, e, _, _, _, _, _, _, _, hn⟩ := id p
  exact keq_eq (s := ⟨h, gs, dr, tk, os⟩) p.idn q.idn p.id q.id (R.cl (n := 0) (by decide)) (fun _ => keq_same hn) (by rw [beq_self_eq_true]; exact k')
theorem z_neB {x y : Value} {st : BS} {k : Nat} (R : Room k A) (H : StV w h x st) (H' : StV w h y st) (k' : Q (.bool false) ⟨h, gs, dr, tk, os⟩) : wpAny (model PG w) A (compareOp .NotEq x y) Q E ⟨h, gs, dr, tk, os⟩ := by
  obtain ⟨a, rfl, p⟩ := H
  obtain ⟨b, rfl, q⟩ := H'
  obtain ⟨o, e, _, _, _, _, _, _, _, hn⟩ := id p
  exact keq_ne (s := ⟨h, gs, dr, tk, os⟩) p.idn q.idn p.id q.id (R.cl (n := 0) (by decide)) (fun _ => keq_same hn) (by rw [beq_self_eq_true]; exact k')
/-- a dict that holds something is no empty one -/
theorem z_eqNilD {d2 : Addr} {k : Nat} (R : Room k A) (H : Ha h d (SD w d kvs)) (H' : Ha h d2 (SD w d2 [])) (hne : kvs.length ≠ 0) (k' : Q (.bool false) ⟨h, gs, dr, tk, os⟩) : wpAny (model PG w) A (compareOp .Eq (.ref d) (.ref d2)) Q E ⟨h, gs, dr, tk, os⟩ :=
  keq_eq (s := ⟨h, gs, dr, tk, os⟩) (r := false) H.sdn H'.sdn H.sd H'.sd (R.cl (n := 0) (by decide)) (fun e => absurd e hne) (by rw [Bool.and_false]; exact k')

end
section
variable {w : World} {b : Heap} {f : Fm} {g : Heap} {m cm : Str → Option Value} {gl gl' gp gr led led' : Led} {h h' X : Heap} {A : Around} {E : Value → Shared → Prop} {env : Env} {gs : Array GenState} {dr : Drawn} {tk : Nat} {os : OsState} {x y : Str} {pos px py spos : Pos} {v t c r : Value}
  {Q : Value → Shared → Prop} {QF : Flow → Shared → Prop} {QU : Unit → Shared → Prop} {a d dx C l ta tra : Addr} {P P' : Obj → Prop} {name : Str} {s : Shared} {e : Expr} {rest : List Expr} {its : List Value} {value slice : Expr} {tab : List (Int × Value)} {trl : List (Str × Value)} {kvs : List (Str × Value)} {D : Doc} {H : Head} {o : Option Value} {ns : List Int} {ws : List Str}

theorem put_spec {n : Int} {tn : Tok} {gv : Value} (S : St w b f g m cm ((ta, ID w ta tab) :: gr) led h) (RM : Room 3 A) (I1 : Ha g a (IO 363 dx)) (D1 : Ha g dx (SD w dx [("table", .ref ta), ("trailer", .ref tra)])) (hlen : tab.length ≤ 1000)
    (k : ∀ tp g' h' tk', Gle f.e g g' → St w b f g' m cm ((ta, ID w ta (stored tab n (.ref tp))) :: gr) led h' → Ha g' tp (TO [gv, v]) → Q .none ⟨h', gs, dr, tk', os⟩) : wpAny (model PG w) A (call (.ref 327) [.ref a, .int n tn, gv, v] []) Q E ⟨h, gs, dr, tk, os⟩ := by
  refine wpAny_call ?_
  refine' z_enterV (gp := [(ta, ID w ta tab)]) (gr := gr) (binds := [("self", .ref a), ("number", .int n tn), ("generation", gv), ("value", v)]) S RM ?k1 ?k2 ?k3 ?k4 ?_ ?k5 ?k6 ?k7 ?k8
  case k1 => k_is
  case k2 => k_is
  case k3 => exact BindsTo.of_eq rfl
  case k4 => exact locs rfl
  case k5 => decide
  case k6 => rfl
  case k7 => rfl
  case k8 => rfl
  intro L' h1 Q9 E9 A9 f9 m9 S1 RM1 hret9 hnext9 hE9
  repeat' (first | walk_at "Z" | walk_at "Zif")
  rename_i tp h2 S2 ntp
  refine' z_attr S2 (I1.keeps S2.kg) (D1.keeps S2.kg) rfl ?k1 ?k2 ?k3 rfl ?_
  case k1 => k_is
  case k2 => k_is
  case k3 => k_is
  repeat' (first | walk_at "Z" | walk_at "Zif")
  refine z_setIG S2 .here (fun h3 S3 => ?_) (by rw [sizeLine_eq]; omega)
  repeat' (first | walk_at "Z" | walk_at "Zif")
  obtain ⟨g', G', s', S12, FZ, sh⟩ := St.done (gp := [(ta, ID w ta tab)]) (gr := gr) S S3 (Gle.refl _ _)
  exact k _ _ _ _ G' S12 (FZ (.head _))

/-- the shelf, its table aside -/
structure ShP (w : World) (h : Heap) (a ta : Addr) (tab : List (Int × Value)) (D : Doc) : Prop where
  ex : ∃ dx tra trl rr, Ha h a (IO 363 dx) ∧ Ha h dx (SD w dx [("table", .ref ta), ("trailer", .ref tra)]) ∧ Ha h tra (SD w tra trl) ∧ valueAt trl "Root" = some rr ∧ RefV w h rr 20
  tab : TabOk w h tab D
theorem ShP.mono (x : ShP w h a ta tab D) (s : Sub h h') : ShP w h' a ta tab D :=
  ⟨let ⟨dx, tra, trl, rr, p, q, r, t, u⟩ := x.ex; ⟨dx, tra, trl, rr, p.keeps s, q.keeps s, r.keeps s, t, u.mono s⟩, x.tab.mono s⟩
theorem ShP.ok (x : ShP w h a ta tab D) (H : Ha h ta (ID w ta tab)) : ShOk w h a D :=
  let ⟨dx, tra, trl, rr, p, q, r, t, u⟩ := x.ex; ⟨ta, tra, tab, trl, rr, ⟨dx, p, q, H, r⟩, x.tab, t, u⟩

theorem stored_len_has {K : Type} [DecidableEq K] {kvs : List (K × Value)} {k : K} {v x : Value} (h : valueAt kvs k = some x) : (stored kvs k v).length = kvs.length := by
  unfold stored
  rw [if_pos, List.length_map]
  cases q : (kvs.any fun kv => decide (kv.1 = k)) with
  | true => rfl
  | false => rw [valueAt_none_any (by rw [q]; decide)] at h; cases h

theorem put_layer_spec {hv : Value} (S : St w b f g m cm ((ta, ID w ta tab) :: gr) led h) (RM : Room 7 A) (SP : ShP w g a ta tab D) (hlen : tab.length ≤ 1000)
    (k : ∀ rt rkvs tp t0 g' h' tk', Gle f.e g g' → St w b f g' m cm ((ta, ID w ta (stored tab 20 (.ref tp))) :: gr) led h' → Ha g' tp (TO [.int 0 t0, .ref rt]) → Ha g' rt (SD w rt rkvs) → valueAt rkvs "OCProperties" = some hv → rkvs.length ≤ 100 → Q .none ⟨h', gs, dr, tk', os⟩) :
    wpAny (model PG w) A (call (.ref 476) [.ref a, hv] []) Q E ⟨h, gs, dr, tk, os⟩ := by
  have big : (10000 : Nat) ≤ sizeLine := by rw [sizeLine_eq]; decide
  obtain ⟨dx, tra, trl, rr, I1, D1, R1, hr, RV⟩ := SP.ex
  refine wpAny_call ?_
  refine' z_enterV (gp := [(ta, ID w ta tab)]) (gr := gr) (binds := [("shelf", .ref a), ("head", hv)]) S RM ?k1 ?k2 ?k3 ?k4 ?_ ?k5 ?k6 ?k7 ?k8
  case k1 => k_is
  case k2 => k_is
  case k3 => exact BindsTo.of_eq rfl
  case k4 => exact locs rfl
  case k5 => decide
  case k6 => rfl
  case k7 => rfl
  case k8 => rfl
  intro L' h1 Q9 E9 A9 f9 m9 S1 RM1 hret9 hnext9 hE9
  have SHa : ShelfH w h1 a ta tra tab trl := ⟨dx, I1.keeps S1.kg, D1.keeps S1.kg, S1.haG (.head _), R1.keeps S1.kg⟩
  repeat' (first | walk_at "Z" | walk_at "Zif")
  refine' z_method S1 (I1.keeps S1.kg) (D1.keeps S1.kg) rfl ?k1 ?k2 ?k3 ?_
  case k1 => k_is
  case k2 => k_is
  case k3 => k_is
  repeat' (first | walk_at "Z" | walk_at "Zif")
  refine root_specY S1.kg S1 (RM1.less (by decide)) (fun _ _ e => e) SHa SP.tab hr (RV.mono S1.kg) fun r h2 tk2 RT S2 s2 => ?_
  obtain ⟨rd, rk, lv, rfl, RD, e1, LY, _⟩ := RT
  repeat' (first | walk_at "Z" | walk_at "Zif")
  refine z_newDict S2 fun d0 h3 nd0 S3 _ => ?_
  have RDlen : rk.length ≠ 0 := fun q => by rw [List.eq_nil_of_length_eq_zero q] at e1; cases e1
  refine z_eqNilD RM1 (RD.keeps S3.kg) (S3.ha (.head _)) RDlen ?_
  repeat' (first | walk_at "Z" | walk_at "Zif")
  have SHb : ShelfH w h3 a ta tra tab trl := ⟨dx, I1.keeps S3.kg, D1.keeps S3.kg, S3.haG (.head _), R1.keeps S3.kg⟩
  refine' z_method S3 (I1.keeps S3.kg) (D1.keeps S3.kg) rfl ?k1 ?k2 ?k3 ?_
  case k1 => k_is
  case k2 => k_is
  case k3 => k_is
  repeat' (first | walk_at "Z" | walk_at "Zif")
  refine root_specY S3.kg S3 (RM1.less (by decide)) (fun _ _ e => e) SHb SP.tab hr (RV.mono S3.kg) fun r h4 tk4 RT S4 s4 => ?_
  obtain ⟨rd2, rk2, lv2, rfl, RD2, e2, LY2, rlen⟩ := RT
  repeat' (first | walk_at "Z" | walk_at "Zif")
  refine z_dictSS S4 (RD2.keeps S4.kg) (by omega) fun d5 h5 nd5 S5 => ?_
  repeat' (first | walk_at "Z" | walk_at "Zif")
  rename_i h6 S6
  refine z_setS S6 .here (fun h7 S7 => ?_) (by omega)
  repeat' (first | walk_at "Z" | walk_at "Zif")
  refine' z_attr S7 (I1.keeps S7.kg) (D1.keeps S7.kg) rfl ?k1 ?k2 ?k3 rfl ?_
  case k1 => k_is
  case k2 => k_is
  case k3 => k_is
  repeat' (first | walk_at "Z" | walk_at "Zif")
  refine zz_itemA (R1.keeps S7.kg).sd (sis _ _) hr ?_ (by with_unfolding_all rfl)
  repeat' (first | walk_at "Z" | walk_at "Zif")
  rename_i h8 S8
  refine z_isi S8 (RV.mono S8.kg).kind (b' := true) (kit_same (by decide)) ?_
  intro tk'
  obtain ⟨ra, rdx, t1, t2, rfl, RI, RDD⟩ := id RV
  repeat' (first | walk_at "Z" | walk_at "Zif")
  refine' z_method S8 (I1.keeps S8.kg) (D1.keeps S8.kg) rfl ?k1 ?k2 ?k3 ?_
  case k1 => k_is
  case k2 => k_is
  case k3 => k_is
  repeat' (first | walk_at "Z" | walk_at "Zif")
  refine' z_attr S8 (RI.keeps S8.kg) (RDD.keeps S8.kg) rfl ?k1 ?k2 ?k3 rfl ?_
  case k1 => k_is
  case k2 => k_is
  case k3 => k_is
  repeat' (first | walk_at "Z" | walk_at "Zif")
  refine' z_attr S8 (RI.keeps S8.kg) (RDD.keeps S8.kg) rfl ?k1 ?k2 ?k3 rfl ?_
  case k1 => k_is
  case k2 => k_is
  case k3 => k_is
  repeat' (first | walk_at "Z" | walk_at "Zif")
  refine put_spec (gr := []) S8 (RM1.less (by decide)) (I1.keeps fun _ _ e => e) (D1.keeps fun _ _ e => e) hlen fun tp g9 h9 tk9 G9 S9 FT => ?_
  repeat' (first | walk_at "Z" | walk_at "Zif")
  obtain ⟨g', G', s', S12, FZ, sh⟩ := St.done (gp := [(ta, ID w ta tab)]) (gr := gr) S S9 G9
  refine k _ _ _ _ _ _ _ G' S12 (FT.keeps s') (FZ (.head _)) (by rw [valueAt_stored, if_pos rfl]) (by rw [stored_len_has e2]; exact rlen)

end
section
variable {w : World} {b : Heap} {f : Fm} {g : Heap} {m cm : Str → Option Value} {gl gl' gp gr led led' : Led} {h h' X : Heap} {A : Around} {E : Value → Shared → Prop} {env : Env} {gs : Array GenState} {dr : Drawn} {tk : Nat} {os : OsState} {x y : Str} {pos px py spos : Pos} {v t c r : Value}
  {Q : Value → Shared → Prop} {QF : Flow → Shared → Prop} {QU : Unit → Shared → Prop} {a d dx C l ta tra : Addr} {P P' : Obj → Prop} {name : Str} {s : Shared} {e : Expr} {rest : List Expr} {its : List Value} {value slice : Expr} {tab : List (Int × Value)} {trl : List (Str × Value)} {kvs : List (Str × Value)} {D : Doc} {H : Head} {o : Option Value} {ns : List Int} {ws : List Str}

def offN (st : BS) (n : Int) : Bool := !((getB st n).getD true)
def Doc.after (D : Doc) (st : BS) : Doc := { D with d0 := { D.d0 with base := none, on := [], off := D.listed.filter (offN st), cap := D.d0.cap + 1 } }
def popKeys : List Str := ["BaseState", "ON", "OFF"]
def popped (kvs : List (Str × Value)) (ks : List Str) : List (Str × Value) := ks.foldl without kvs
theorem popped_len (kvs : List (Str × Value)) (ks : List Str) : (popped kvs ks).length ≤ kvs.length := by
  unfold popped
  induction ks generalizing kvs with
  | nil => exact Nat.le_refl _
  | cons k ks ih => exact Nat.le_trans (ih _) (without_len _ _)
theorem without_none {kvs : List (Str × Value)} {k : Str} (h : valueAt kvs k = none) : without kvs k = kvs := by
  refine without_of_not_mem kvs k fun hm => ?_
  obtain ⟨p, hp, e⟩ := List.mem_map.mp hm
  have : (kvs.any fun kv => decide (kv.1 = k)) = true := List.any_eq_true.mpr ⟨p, hp, by simpa using e⟩
  obtain ⟨v, q⟩ := valueAt_some_any this
  rw [h] at q; cases q

theorem popped_at (kvs : List (Str × Value)) (k : Str) : valueAt (popped kvs popKeys) k = if k = "OFF" ∨ k = "BaseState" ∨ k = "ON" then none else valueAt kvs k := by
  unfold popped popKeys
  rw [List.foldl_cons, List.foldl_cons, List.foldl_cons, List.foldl_nil, valueAt_without, valueAt_without, valueAt_without]
  by_cases h1 : k = "OFF"
  · rw [if_pos h1.symm, if_pos (.inl h1)]
  · rw [if_neg (fun e => h1 e.symm)]
    by_cases h2 : k = "ON"
    · rw [if_pos h2.symm, if_pos (.inr (.inr h2))]
    · rw [if_neg (fun e => h2 e.symm)]
      by_cases h3 : k = "BaseState"
      · rw [if_pos h3.symm, if_pos (.inr (.inl h3))]
      · rw [if_neg (fun e => h3 e.symm), if_neg (fun z => z.elim h1 fun z => z.elim h3 h2)]
theorem newHead {fd : Addr} {kv1 kvs3 : List (Str × Value)} {off : List Int} (HF : Ha h fd (SD w fd kv1)) (hk : ∀ k, valueAt kv1 k = if k = "OFF" then o else if k = "BaseState" ∨ k = "ON" then none else valueAt kvs3 k) (OF : OptL (RefV w) h o off)
    (p4 : OptL (RefsV w) h (valueAt kvs3 "RBGroups") H.rows) (p5 : OptL (RefV w) h (valueAt kvs3 "Locked") H.locked) (p6 : valueAt kvs3 "Order" = none) (p7 : OptTold w h (valueAt kvs3 "Intent") H.words) {cp : Nat} (ln : kv1.length ≤ cp) :
    HeadV w h (.ref fd) { H with base := none, on := [], off := off, cap := cp } := by
  have off' : ∀ k : Str, k ≠ "OFF" → k ≠ "BaseState" → k ≠ "ON" → valueAt kv1 k = valueAt kvs3 k := fun k a b c => by rw [hk, if_neg a, if_neg (fun z => z.elim b c)]
  refine ⟨fd, kv1, rfl, HF, .inl ⟨?_, rfl⟩, .inl ⟨?_, rfl⟩, ?_, ?_, ?_, ?_, ?_, ln⟩
  · rw [hk, if_neg (by decide), if_pos (.inl rfl)]
  · rw [hk, if_neg (by decide), if_pos (.inr rfl)]
  · rw [hk, if_pos rfl]; exact OF
  · rw [off' _ (by decide) (by decide) (by decide)]; exact p4
  · rw [off' _ (by decide) (by decide) (by decide)]; exact p5
  · rw [off' _ (by decide) (by decide) (by decide)]; exact p6
  · rw [off' _ (by decide) (by decide) (by decide)]; exact p7
theorem after_shp {st : BS} {fd v1 v3 : Value} {hda tpa rta : Addr} {kvs2 rkvs : List (Str × Value)} {t0 : Tok} (SP : ShP w h a ta tab D) (DO : D.Ok) (HL : Ha h hda (SD w hda (stored kvs2 "D" fd))) (ln2 : kvs2.length ≤ 100) (hD : valueAt kvs2 "D" = some v)
    (e1 : valueAt kvs2 "OCGs" = some v1) (q1 : RefsV w h v1 D.listed) (e3 : valueAt kvs2 "Configs" = some v3) (q3 : LV (HeadV w) h v3 D.confs) (NH : HeadV w h fd { D.d0 with base := none, on := [], off := D.listed.filter (offN st), cap := D.d0.cap + 1 })
    (TP : Ha h tpa (TO [.int 0 t0, .ref rta])) (RT : Ha h rta (SD w rta rkvs)) (rO : valueAt rkvs "OCProperties" = some (.ref hda)) (rl : rkvs.length ≤ 100) : ShP w h a ta (stored tab 20 (.ref tpa)) (D.after st) := by
  have vs : ∀ k : Str, k ≠ "D" → valueAt (stored kvs2 "D" fd) k = valueAt kvs2 k := fun k n => by rw [valueAt_stored, if_neg (fun e => n e.symm)]
  refine ⟨SP.ex, fun n h1 h2 => ?_, tpa, t0, .ref rta, by rw [valueAt_stored, if_pos rfl], TP, rta, rkvs, _, rfl, RT, rO, ⟨hda, _, v1, fd, v3, rfl, HL, ?_, q1, ?_, NH, ?_, q3, ?_⟩, rl⟩
  · have := DO.many
    have h2' : n ≤ D.many := h2
    rw [valueAt_stored, if_neg (by omega)]
    exact SP.tab.1 n h1 h2
  · rw [vs _ (by decide)]; exact e1
  · rw [valueAt_stored, if_pos rfl]
  · rw [vs _ (by decide)]; exact e3
  · rw [stored_len_has hD]; exact ln2

theorem put_states_spec {sv : Value} {st : BS} (S : St w b f g m cm ((ta, ID w ta tab) :: gr) led h) (RM : Room 9 A) (SP : ShP w g a ta tab D) (DO : D.Ok) (hlen : tab.length ≤ 1000) (SV : StV w g sv st)
    (k : ∀ tab' g' h' tk', Gle f.e g g' → St w b f g' m cm ((ta, ID w ta tab') :: gr) led h' → ShP w g' a ta tab' (D.after st) → Q .none ⟨h', gs, dr, tk', os⟩) :
    wpAny (model PG w) A (call (.ref 481) [.ref a, sv] []) Q E ⟨h, gs, dr, tk, os⟩ := by
  have big : (10000 : Nat) ≤ sizeLine := by rw [sizeLine_eq]; decide
  have lcap := DO.d0.lcap
  obtain ⟨dx, tra, trl, rr, I1, D1, R1, hr, RV⟩ := SP.ex
  obtain ⟨sd, rfl, SD'⟩ := SV
  refine wpAny_call ?_
  refine' z_enterCV (gp := [(ta, ID w ta tab)]) (gr := gr) (binds := [("shelf", .ref a), ("states", .ref sd)]) S RM ?k1 ?k2 ?k3 ?k4 ?k5 ?_ ?k6 ?k7 ?k8
  case k1 => k_is
  case k2 => k_is
  case k3 => exact BindsTo.of_eq rfl
  case k4 => rfl
  case k5 => decide
  case k6 => rfl
  case k7 => rfl
  case k8 => rfl
  intro L' h1 tk1 Q9 E9 A9 f9 m9 cm9 S1 RM1 hret9 hnext9 hE9
  have SHm : ∀ {g0 h0 : Heap}, Sub g g0 → Sub g0 h0 → Ha h0 ta (ID w ta tab) → ShelfH w h0 a ta tra tab trl := fun k1 k2 H => ⟨dx, I1.keeps fun a o e => k2 _ _ (k1 _ _ e), D1.keeps fun a o e => k2 _ _ (k1 _ _ e), H, R1.keeps fun a o e => k2 _ _ (k1 _ _ e)⟩
  have refl : ∀ {x : Heap}, Sub x x := fun _ _ e => e
  repeat' (first | walk_at "Z" | walk_at "Zif")
  refine layer_specY S1.kg S1 (RM1.less (by decide)) refl (SHm refl S1.kg (S1.haG (.head _))) SP.tab hr (RV.mono S1.kg) fun r h2 tk2 LY S2 s2 => ?_
  obtain ⟨d2, kvs2, v1, v2, v3, rfl, z, e1, q1, e2, HV, e3, q3, ln2⟩ := id LY
  repeat' (first | walk_at "Z" | walk_at "Zif")
  refine z_dictSS S2 (z.keeps S2.kg) (by omega) fun hd' h3 nd3 S3 => ?_
  repeat' (first | walk_at "Z" | walk_at "Zif")
  rename_i h4 S4
  obtain ⟨d3, kvs3, rfl, HD3, p1, p2, p3, p4, p5, p6, p7, ln3⟩ := id HV
  have SH4 := SHm refl S4.kg (S4.haG (.head _))
  refine' z_method S4 (I1.keeps S4.kg) (D1.keeps S4.kg) rfl ?k1 ?k2 ?k3 ?_
  case k1 => k_is
  case k2 => k_is
  case k3 => k_is
  repeat' (first | walk_at "Z" | walk_at "Zif")
  have FT : Fet w h4 tab ((valueAt kvs2 "D").getD .none) (.ref d3) := by
    rw [e2]
    refine' .plain (.dict (HD3.keeps S4.kg)) ?k1
    case k1 => first | kit_is | k_is
  refine get_spec S4 (RM1.less (by decide)) refl SH4 (S4.ha (.head _)) FT fun h5 tk5 S5 s5 => ?_
  repeat' (first | walk_at "Z" | walk_at "Zif")
  rename_i h6 S6
  refine z_isi S6 (.dict (HD3.keeps S6.kg)) (b' := true) (kit_same (by decide)) ?_
  intro tk'
  repeat' (first | walk_at "Z" | walk_at "Zif")
  refine z_dictSS S6 (HD3.keeps S6.kg) (by omega) fun fd h7 nd7 S7 => ?_
  repeat' (first | walk_at "Z" | walk_at "Zif")
  rename_i h8 S8
  refine z_compA (cl := [("states", L' + 1 + 1), ("shelf", L' + 1)]) rfl rfl rfl (by decide) ?_ (fun _ => rfl)
  repeat' (first | walk_at "Z" | walk_at "Zif")
  refine items_specY S8.kg S8 (RM1.less (by decide)) refl (SHm refl S8.kg (S8.haG (.head _))) (S8.ha (.tail _ (.head _))) (.inr ⟨_, e1, q1⟩) fun l vs g9 h9 tk9 G9 S9 s9 HL HLL AL => ?_
  have hl1 : vs.length ≤ 100 := by rw [AL.length]; exact DO.llisted
  have lne : ta ≠ l := fun q => by
    rcases HLL with z | z
    · obtain ⟨o, e, _⟩ := z
      have := (S9.at_ (ta, ID w ta tab) (.head _)).2.2.2.2
      rw [q, G9.1 _ _ e] at this; cases this
    · obtain ⟨o, e, _⟩ := z
      have := (S9.at_ (ta, ID w ta tab) (.head _)).2.2.2.2
      rw [q, e] at this; cases this
  refine z_compLA S9 RM1.hh HL (fun p hp => by rw [List.mem_singleton.mp hp]; exact lne) (by omega) (by decide) rfl rfl rfl rfl rfl (fun i ys g gl => g9 = g ∧ gl = [(ta, ID w ta tab)] ∧ ys.length ≤ i ∧ All2 (RefV w g9) ys ((D.listed.take i).filter (offN st))) ⟨rfl, rfl, Nat.le_refl _, .nil⟩ (fun i ys g gl q => q.2.2.1) (fun i ys g gl q => by rw [q.2.1]) (CompTurnQ.turn ?_) ?_
  · intro C i v e' ys g₁ m₁ gl₁ h₁ tk₁ Qy9 Qn9 J9 hi hv hs hG f9 m9 S10 hy9 hz9 j9
    obtain ⟨rfl, rfl, hyl, hy⟩ := j9
    obtain ⟨n, hn, RVn⟩ := AL.get hv
    have gn := DO.listed n (List.mem_of_getElem? hn)
    have sg : Sub g g9 := G9.1
    have hc1 : e'.IsCell (L' + 1) (some (.ref a)) := (S9.cellE (x := "shelf") (lookup_mem rfl) rfl).keeps hs
    have hc2 : e'.IsCell (L' + 1 + 1) (some (.ref sd)) := (S9.cellE (x := "states") (lookup_mem rfl) rfl).keeps hs
    refine tests_one ?_
    repeat' (first | walk_at "Z" | walk_at "Zif")
    refine is_group_spec S10 (RM1.less (by decide)) refl (SHm sg S10.kg (S10.haG (.head _))) (SP.tab.mono fun a o e => S10.kg _ _ (sg _ _ e)) (RVn.mono fun a o e => S10.kg _ _ (sg _ _ e)) gn.1 gn.2 fun h11 tk11 S11 s11 => ?_
    obtain ⟨ar, rdx, t1, t2, rfl, RI, RDD⟩ := id RVn
    have sg11 : Sub g h11 := fun a o e => S11.kg _ _ (sg _ _ e)
    repeat' (first | walk_at "Z" | walk_at "Zif")
    refine zz_getM (SD'.keeps sg11).id ?_
    repeat' (first | walk_at "Z" | walk_at "Zif")
    refine' z_attr S11 (RI.keeps sg11) (RDD.keeps sg11) rfl ?k1 ?k2 ?k3 rfl ?_
    case k1 => k_is
    case k2 => k_is
    case k3 => k_is
    repeat' (first | walk_at "Z" | walk_at "Zif")
    refine zz_get2 (kk := n) (SD'.keeps sg11).id SD'.idn (iis _ _) ?_
    rw [valueAt_enc, (by cases getB st n <;> rfl : ((getB st n).map Value.bool).getD (.bool true) = .bool ((getB st n).getD true))]
    have hon : offN st n = !((getB st n).getD true) := rfl
    cases hlit : (getB st n).getD true with
    | true =>
      rw [hlit] at hon
      repeat' (first | walk_at "Z" | walk_at "Zif")
      exact hz9.go S11 (Gle.refl _ _) ⟨rfl, rfl, by omega, by rw [take_snoc hn, List.filter_append, (by simp [hon] : List.filter (offN st) [n] = []), List.append_nil]; exact hy⟩
    | false =>
      rw [hlit] at hon
      repeat' (first | walk_at "Z" | walk_at "Zif")
      exact hy9.go S11 (Gle.refl _ _) ⟨rfl, rfl, by simp; omega, by rw [take_snoc hn, List.filter_append, (by simp [hon] : List.filter (offN st) [n] = [n])]; exact hy.snoc (RVn.mono sg)⟩
  · rintro W ys g10 gl10 h10 tk10 ⟨rfl, rfl, hyl, hy⟩ G10 S10 nW
    rw [AL.length, List.take_length] at hy
    repeat' (first | walk_at "Z" | walk_at "Zif")
    refine wpAny_For ?_
    repeat' (first | walk_at "Z" | walk_at "Zif")
    rename_i tt h11 S11 ntt
    obtain ⟨g12, G12, FZ, S12⟩ := St.freeze (new := [(tt, _)]) (led := [(W, LO ys), (fd, SD w fd kvs3), (hd', SD w hd' kvs2)]) S11
    have F0 := FZ _ (.head _)
    dsimp only at F0
    obtain ⟨ott, ett, _⟩ := id F0
    refine z_forTQ S12 RM1.hh (Ha.keeps F0 S12.kg) (S12.off_of_g ett)
      (fun i g₁ m₁ cm₁ gl₁ led₁ => gl₁ = [(ta, ID w ta tab)] ∧ cm₁ "shelf" = some (.ref a) ∧ m₁ "head" = some (.ref hd') ∧ m₁ "first" = some (.ref fd) ∧ m₁ "off" = some (.ref W) ∧ led₁ = [(W, LO ys), (fd, SD w fd (popped kvs3 (popKeys.take i))), (hd', SD w hd' kvs2)]) ⟨rfl, rfl, rfl, rfl, rfl, rfl⟩ ?_ ?_
    · intro i v e' g₁ m₁ cm₁ gl₁ led₁ h₁ tk₁ Q9 J9 hi hs hG f9 S13 hn9 hr9 hb9 j9
      obtain ⟨rfl, hc1, hm1, hm2, hm3, rfl⟩ := j9
      obtain ⟨kk, tkk, rfl, hkk⟩ : ∃ kk tkk, v = .str kk tkk ∧ popKeys[i]? = some kk := by
        match i, hi with
        | 0, hi => cases hi; exact ⟨_, _, rfl, rfl⟩
        | 1, hi => cases hi; exact ⟨_, _, rfl, rfl⟩
        | 2, hi => cases hi; exact ⟨_, _, rfl, rfl⟩
        | (j + 3), hi => simp at hi
      have tp1 : popped kvs3 (popKeys.take (i + 1)) = without (popped kvs3 (popKeys.take i)) kk := by
        rw [take_snoc hkk]; unfold popped; rw [List.foldl_append]; rfl
      have pl := popped_len kvs3 (popKeys.take i)
      refine wpAny_assign_Name ?_
      repeat' (first | walk_at "Z" | walk_at "Zif")
      rename_i h14 S14
      have DH := S14.ha (.tail _ (.head _))
      refine zz_in (kk := kk) DH.sd DH.sdn (sis _ _) ?_
      cases hv : valueAt (popped kvs3 (popKeys.take i)) kk with
      | none =>
        rw [without_none hv] at tp1
        repeat' (first | walk_at "Z" | walk_at "Zif")
        refine if_f rfl ?_
        repeat' (first | walk_at "Z" | walk_at "Zif")
        exact hn9.go S14 (Gle.refl _ _) ⟨rfl, hc1, hm1, hm2, hm3, by rw [tp1]⟩
      | some x =>
        repeat' (first | walk_at "Z" | walk_at "Zif")
        refine if_t rfl ?_
        repeat' (first | walk_at "Z" | walk_at "Zif")
        refine z_popM DH ?_
        repeat' (first | walk_at "Z" | walk_at "Zif")
        refine z_popS S14 (.there .here) hv (fun h15 tk15 S15 => ?_) (by omega)
        repeat' (first | walk_at "Z" | walk_at "Zif")
        exact hn9.go S15 (Gle.refl _ _) ⟨rfl, hc1, hm1, hm2, hm3, by rw [tp1]⟩
    · rintro g₁ m₁ cm₁ gl₁ led₁ h₁ tk₁ ⟨rfl, hc1, hm1, hm2, hm3, rfl⟩ hG S13
      repeat' (first | walk_at "Z" | walk_at "Zif")
      rename_i lz h14 S14 nlz
      have hb := hy.empty
      refine z_neNil RM1 (S14.ha (.tail _ (.head _))) (S14.ha (.head _)) ?_
      have sg : Sub g g₁ := fun a o e => hG.1 _ _ (G12.1 _ _ (G10.1 _ _ (G9.1 _ _ e)))
      have S14' : St w b _ g₁ m₁ cm₁ [(ta, ID w ta tab)] [(lz, LO []), (W, LO ys), (fd, SD w fd (popped kvs3 popKeys)), (hd', SD w hd' kvs2)] h14 := S14
      have pl := popped_len kvs3 popKeys
      have GG := G9.trans (G10.trans (G12.trans hG))
      cases hys : ys with
      | nil =>
        rw [hys] at hb
        have off0 : D.listed.filter (offN st) = [] := List.isEmpty_iff.mp hb.symm
        repeat' (first | walk_at "Z" | walk_at "Zif")
        refine if_f rfl ?_
        repeat' (first | walk_at "Z" | walk_at "Zif")
        refine z_setS S14' (.there (.there (.there .here))) (fun h15 S15 => ?_) (by omega)
        repeat' (first | walk_at "Z" | walk_at "Zif")
        obtain ⟨g16, G16, FZ, S16⟩ := St.freeze (new := _) (led := []) (by rw [List.append_nil]; exact S15)
        have Ffd : Ha g16 fd (SD w fd (popped kvs3 popKeys)) := FZ _ (.tail _ (.tail _ (.head _)))
        have Fhd : Ha g16 hd' (SD w hd' (stored kvs2 "D" (.ref fd))) := FZ _ (.tail _ (.tail _ (.tail _ (.head _))))
        have sg2 : Sub g g16 := fun a o e => G16.1 _ _ (sg _ _ e)
        refine put_layer_spec (gr := []) S16 (RM1.less (by decide)) (SP.mono sg2) hlen fun rt rkvs tp t0 g17 h17 tk17 G17 S17 TP RT rO rl => ?_
        repeat' (first | walk_at "Z" | walk_at "Zif")
        obtain ⟨g', G', s', S18, FZ2, sh⟩ := St.done (gp := [(ta, ID w ta tab)]) (gr := gr) S S17 (GG.trans (G16.trans G17))
        have sA : Sub g16 g' := fun a o e => s' _ _ (G17.1 _ _ e)
        have sB : Sub g g' := fun a o e => sA _ _ (sg2 _ _ e)
        refine k _ _ _ _ G' S18 (after_shp (SP.mono sB) DO (Fhd.keeps sA) ln2 e2 e1 (q1.mono monoRef sB) e3 (q3.mono monoHead sB) ?_ (TP.keeps s') (RT.keeps s') rO rl)
        refine newHead (o := none) (kvs3 := kvs3) (Ffd.keeps sA) (fun k => ?_) (.inl ⟨rfl, off0⟩) (p4.mono monoRefs sB) (p5.mono monoRef sB) p6 (p7.mono sB) (by omega)
        rw [popped_at]
        by_cases h1 : k = "OFF"
        · rw [if_pos (.inl h1), if_pos h1]
        · rw [if_neg h1]
          by_cases h2 : k = "BaseState" ∨ k = "ON"
          · rw [if_pos (.inr h2), if_pos h2]
          · rw [if_neg h2, if_neg (fun z => z.elim h1 h2)]
      | cons y0 ys0 =>
        repeat' (first | walk_at "Z" | walk_at "Zif")
        refine if_t rfl ?_
        repeat' (first | walk_at "Z" | walk_at "Zif")
        refine z_setS S14' (.there (.there .here)) (fun h15 S15 => ?_) (by omega)
        repeat' (first | walk_at "Z" | walk_at "Zif")
        refine z_setS S15 (.there (.there (.there .here))) (fun h15 S15 => ?_) (by omega)
        repeat' (first | walk_at "Z" | walk_at "Zif")
        obtain ⟨g16, G16, FZ, S16⟩ := St.freeze (new := _) (led := []) (by rw [List.append_nil]; exact S15)
        have FW : Ha g16 W (LO ys) := FZ _ (.tail _ (.head _))
        have Ffd : Ha g16 fd (SD w fd (stored (popped kvs3 popKeys) "OFF" (.ref W))) := FZ _ (.tail _ (.tail _ (.head _)))
        have Fhd : Ha g16 hd' (SD w hd' (stored kvs2 "D" (.ref fd))) := FZ _ (.tail _ (.tail _ (.tail _ (.head _))))
        have sg2 : Sub g g16 := fun a o e => G16.1 _ _ (sg _ _ e)
        refine put_layer_spec (gr := []) S16 (RM1.less (by decide)) (SP.mono sg2) hlen fun rt rkvs tp t0 g17 h17 tk17 G17 S17 TP RT rO rl => ?_
        repeat' (first | walk_at "Z" | walk_at "Zif")
        obtain ⟨g', G', s', S18, FZ2, sh⟩ := St.done (gp := [(ta, ID w ta tab)]) (gr := gr) S S17 (GG.trans (G16.trans G17))
        have sA : Sub g16 g' := fun a o e => s' _ _ (G17.1 _ _ e)
        have sB : Sub g g' := fun a o e => sA _ _ (sg2 _ _ e)
        have sC : Sub g9 g' := fun a o e => sA _ _ (G16.1 _ _ (hG.1 _ _ (G12.1 _ _ e)))
        have sl := stored_len' (popped kvs3 popKeys) "OFF" (.ref W)
        refine k _ _ _ _ G' S18 (after_shp (SP.mono sB) DO (Fhd.keeps sA) ln2 e2 e1 (q1.mono monoRef sB) e3 (q3.mono monoHead sB) ?_ (TP.keeps s') (RT.keeps s') rO rl)
        refine newHead (o := some (.ref W)) (kvs3 := kvs3) (Ffd.keeps sA) (fun k => ?_) (.inr ⟨_, rfl, _, _, rfl, FW.keeps sA, hy.mono fun _ _ z => z.mono sC⟩) (p4.mono monoRefs sB) (p5.mono monoRef sB) p6 (p7.mono sB) (by omega)
        rw [valueAt_stored, popped_at]
        by_cases h1 : k = "OFF"
        · rw [if_pos h1.symm, if_pos h1]
        · rw [if_neg h1, if_neg (fun e => h1 e.symm)]
          by_cases h2 : k = "BaseState" ∨ k = "ON"
          · rw [if_pos (.inr h2), if_pos h2]
          · rw [if_neg h2, if_neg (fun z => z.elim h1 h2)]

end
section
variable {w : World} {b : Heap} {f : Fm} {g : Heap} {m cm : Str → Option Value} {gl gl' gp gr led led' : Led} {h h' X : Heap} {A : Around} {E : Value → Shared → Prop} {env : Env} {gs : Array GenState} {dr : Drawn} {tk : Nat} {os : OsState} {x y : Str} {pos px py spos : Pos} {v t c r : Value}
  {Q : Value → Shared → Prop} {QF : Flow → Shared → Prop} {QU : Unit → Shared → Prop} {a d dx C l ta tra : Addr} {P P' : Obj → Prop} {name : Str} {s : Shared} {e : Expr} {rest : List Expr} {its : List Value} {value slice : Expr} {tab : List (Int × Value)} {trl : List (Str × Value)} {kvs : List (Str × Value)} {D : Doc} {H : Head} {o : Option Value} {ns : List Int} {ws : List Str}

/-- the place of the next number: not beyond n -/
def PLB (n : Int) : Obj → Prop := fun o => ∃ k t, 0 ≤ k ∧ k ≤ n ∧ o.cls = .type "list" ∧ ∃ e, o.data = .seq #[.int k t] e
theorem PLB.mono {n n' : Int} (h : n ≤ n') : ∀ o, PLB n o → PLB n' o := fun _ ⟨k, t, a, b, c⟩ => ⟨k, t, a, Int.le_trans b h, c⟩
theorem St.weakG (S : St w b f g m cm ((a, P) :: gr) led h) (k : ∀ o, P o → P' o) : St w b f g m cm ((a, P') :: gr) led h := by
  obtain ⟨o, e, p⟩ := S.haG (.head _)
  exact S.updG .here (fun _ _ _ e => e) ⟨o, e, k _ p⟩

theorem log_pow (l : Nat) (hl : l ≤ 400) : (720720 ^ l).log2 < 8001 := by
  have h1 : 720720 ^ l ≤ (2 ^ 20) ^ l := Nat.pow_le_pow_left (by decide) l
  rw [← Nat.pow_mul] at h1
  have h2 : 2 ^ (20 * l) ≤ 2 ^ 8000 := Nat.pow_le_pow_right (by decide) (by omega)
  have hne : 720720 ^ l ≠ 0 := Nat.ne_of_gt (Nat.pow_pos (by decide))
  rw [Nat.log2_lt hne]
  exact Nat.lt_of_le_of_lt (Nat.le_trans h1 h2) (Nat.pow_lt_pow_right (by decide) (by decide))
theorem pow_abs (l : Nat) : ((720720 : Int) ^ l).natAbs = 720720 ^ l := by rw [Int.natAbs_pow]; rfl
theorem z_pow {l : Int} {t u : Tok} (h0 : 0 ≤ l) (hl : l ≤ 400) (k : ∀ t' tk', Q (.int (720720 ^ l.toNat) t') ⟨h, gs, dr, tk', os⟩) : wpAny (model PG w) A (binaryOp .Pow (.int 720720 t) (.int l u)) Q E ⟨h, gs, dr, tk, os⟩ := by
  by_cases hz : (l == 0) = true
  · refine PySem.AutoIntOps.pow_0 h0 hz ?_
    have : l = 0 := by simpa using hz
    subst this
    exact k _ _
  · refine PySem.AutoIntOps.pow_4 h0 hz (by decide) (by decide) ?_ (k _ _)
    unfold Builtin.Int.intTooBig
    have : (Builtin.Int.intBits (720720 : Int) : Nat) = 20 := by decide +kernel
    rw [this, decide_eq_true_iff]
    have : (bitsLine : Int) = 134217728 := by decide +kernel
    omega
theorem noPylong {x y : Int} (hy : y.natAbs.log2 < 8970) : Builtin.divisionGoesByPylong x y = false := by
  unfold Builtin.divisionGoesByPylong
  dsimp only
  rw [Bool.and_eq_false_iff]
  left
  rw [decide_eq_false_iff_not]
  split <;> omega
theorem z_fdiv {x : Int} {l : Nat} {t u : Tok} (hl : l ≤ 400) (k : ∀ t' tk', Q (.int (x.fdiv (720720 ^ l)) t') ⟨h, gs, dr, tk', os⟩) : wpAny (model PG w) A (binaryOp .FloorDiv (.int x t) (.int (720720 ^ l) u)) Q E ⟨h, gs, dr, tk, os⟩ := by
  refine PySem.AutoIntOps.floordiv_1 ?_ ?_ (k _ _)
  · have : ((720720 : Int) ^ l) ≠ 0 := Int.pow_ne_zero (by decide)
    simpa using this
  · rw [noPylong (by rw [pow_abs]; have := log_pow l hl; omega)]; decide
theorem z_fdivS {x y : Int} {t u : Tok} (h1 : 0 < y) (h2 : y < 1000) (k : ∀ t' tk', Q (.int (x.fdiv y) t') ⟨h, gs, dr, tk', os⟩) : wpAny (model PG w) A (binaryOp .FloorDiv (.int x t) (.int y u)) Q E ⟨h, gs, dr, tk, os⟩ := by
  refine PySem.AutoIntOps.floordiv_1 ?_ ?_ (k _ _)
  · have : y ≠ 0 := by omega
    simpa using this
  · rw [noPylong (by have hne : y.natAbs ≠ 0 := by omega
                     have : y.natAbs.log2 < 10 := by rw [Nat.log2_lt hne]; omega
                     omega)]; decide

theorem PLB.at {n : Int} (H : Ha h l (PLB n)) : ∃ k t, 0 ≤ k ∧ k ≤ n ∧ h.IsList l #[.int k t] := let ⟨o, e, k, t, a, b, c, d⟩ := H; ⟨k, t, a, b, o, e, c, d⟩
theorem z_plItem {k : Int} {t t0 : Tok} (H : h.IsList l #[.int k t]) (k' : Q (.int k t) ⟨h, gs, dr, tk, os⟩)
    (hs : subscripted slice false (.ref l) (.int 0 t0) = operate [.ref l, .int 0 t0] (getItem (.ref l) (.int 0 t0)) := by with_unfolding_all rfl) :
    wpAny (model PG w) A (subscriptTail value slice (.ref l) (.int 0 t0)) Q E ⟨h, gs, dr, tk, os⟩ :=
  tail_any H.typeIs slot_list_getitem.lookup (wpAny_getItem_list (s := ⟨h, gs, dr, tk, os⟩) H (by decide) (by decide) rfl k') hs
theorem z_plSet {n k : Int} {t t0 t1 : Tok} (S : St w b f g m cm ((l, PLB n) :: gr) led h) (H : h.IsList l #[.int k t]) (h0 : 0 ≤ k) (h1 : k ≤ n) (k' : ∀ h', St w b f g m cm ((l, PLB (n + 1)) :: gr) led h' → QU () ⟨h', gs, dr, tk, os⟩) :
    wpAny (model PG w) A (setItem (.ref l) (.int 0 t0) (.int (k + 1) t1)) QU E ⟨h, gs, dr, tk, os⟩ := by
  refine wpAny_setItem_list (s := ⟨h, gs, dr, tk, os⟩) H (by decide) (by decide) (by show (0 : Int) < ((1 : Nat) : Int); decide) fun h' hl hs => ?_
  obtain ⟨o, e, c, d⟩ := hl
  exact k' h' (S.updG .here (fun a o hc e => (hs.2 a hc).trans e) ⟨o, e, k + 1, t1, by omega, by omega, c, d⟩)

end
section
variable {w : World} {b : Heap} {f : Fm} {g : Heap} {m cm : Str → Option Value} {gl gl' gp gr led led' : Led} {h h' X : Heap} {A : Around} {E : Value → Shared → Prop} {env : Env} {gs : Array GenState} {dr : Drawn} {tk : Nat} {os : OsState} {x y : Str} {pos px py spos : Pos} {v t c r : Value}
  {Q : Value → Shared → Prop} {QF : Flow → Shared → Prop} {QU : Unit → Shared → Prop} {a d dx C l ta tra : Addr} {P P' : Obj → Prop} {name : Str} {s : Shared} {e : Expr} {rest : List Expr} {its : List Value} {value slice : Expr} {tab : List (Int × Value)} {trl : List (Str × Value)} {kvs : List (Str × Value)} {D : Doc} {H : Head} {o : Option Value} {ns : List Int} {ws : List Str}

theorem nodup_cells {names : List (Str × NameKind)} {n : Nat} (h : ((cellsFrom 0 names []).map (·.1)).Nodup) : ((cellsFrom n names []).map (·.1)).Nodup := cellsFrom_names names 0 n [] [] rfl ▸ h
theorem St.make {c d : Addr} {Pc : Obj → Prop} (S : St w b f g m cm ((d, P) :: gr) led h) (k : ∀ a o, a ≠ d → h.get? a = some o → h'.get? a = some o) (hd' : ∃ x, h'.get? d = some x ∧ P' x) (hc : h.get? c = none) (hc' : ∃ x, h'.get? c = some x ∧ Pc x) : St w b f g m cm ((d, P') :: gr) ((c, Pc) :: led) h' := by
  have S1 := S.updG (gl' := (d, P') :: gr) .here k hd'
  have O := S.off_fresh hc
  refine S1.claim hc' ⟨O.L, O.cl, fun p hp => ?_⟩ (none_of_le S.kb hc) (none_of_le S.ke hc) (none_of_le S.kg hc)
  rcases List.mem_cons.mp hp with rfl | hp
  · exact O.led (d, P) (.head _)
  · exact O.led p (.tail _ hp)
/-- a cell of the frame becomes an entry of the ledger -/
theorem St.uncell {L c : Addr} {e : Heap} {cl : List (Str × Addr)} (S : St w b ⟨L, (x, c) :: cl, e⟩ g m cm gl led h) : St w b ⟨L, cl, e⟩ g m cm gl ((c, fun o => o.data = .cell (cm x)) :: led) h := by
  have C := S.cfr (x, c) (.head _)
  have S1 : St w b ⟨L, cl, e⟩ g m cm gl led h := { S with cell := fun p hp => S.cell p (.tail _ hp), cfr := fun p hp => S.cfr p (.tail _ hp), cap := (List.pairwise_cons.mp S.cap).2 }
  refine S1.claim (S.cell (x, c) (.head _)) ⟨C.1, fun p hp q => (List.pairwise_cons.mp S.cap).1 p hp q.symm, fun p hp => C.2.2.2.2 p hp⟩ C.2.1 C.2.2.1 C.2.2.2.1
/-- the taker: what stands frozen, and what a call of it does -/
structure TakeV (w : World) (b g : Heap) (fa pa : Addr) : Prop where
  fn : ∃ oc od fd sl, g.get? fa = some (⟨oc, od, .func fd, sl⟩ : Obj)
  call : ∀ {f : Fm} {g' : Heap} {m cm : Str → Option Value} {gr led : Led} {h : Heap} {A : Around} {E : Value → Shared → Prop} {gs : Array GenState} {dr : Drawn} {tk : Nat} {os : OsState} {Q : Value → Shared → Prop} {n limit : Int} {tl : Tok},
    Sub g g' → St w b f g' m cm ((pa, PLB n) :: gr) led h → Room 2 A → n ≤ 400 → 0 < limit → (∀ v t h' tk', 0 ≤ v → v < limit → St w b f g' m cm ((pa, PLB (n + 1)) :: gr) led h' → Q (.int v t) ⟨h', gs, dr, tk', os⟩) →
      wpAny (model PG w) A (call (.ref fa) [.int limit tl] []) Q E ⟨h, gs, dr, tk, os⟩
theorem TakeV.at {fa pa : Addr} (T : TakeV w b g fa pa) (k : Sub g h) : FnAt fa h := let ⟨oc, od, fd, sl, e⟩ := T.fn; ⟨oc, od, fd, sl, k _ _ e⟩
theorem TakeV.mono {fa pa : Addr} (T : TakeV w b g fa pa) (k : Sub g h) : TakeV w b h fa pa := ⟨let ⟨oc, od, fd, sl, e⟩ := T.fn; ⟨oc, od, fd, sl, k _ _ e⟩, fun s => T.call fun _ _ e => s _ _ (k _ _ e)⟩

theorem ints_of {vs : List Value} {ns : List Int} (x : All2 IntV vs ns) : PyProof.Rows.IntsAre vs ns := by
  induction x with
  | nil => exact .nil
  | cons r _ ih => obtain ⟨t, rfl⟩ := r; exact .cons _ t ih
theorem of_ints {vs : List Value} {ns : List Int} (x : PyProof.Rows.IntsAre vs ns) : All2 IntV vs ns := by
  induction x with
  | nil => exact .nil
  | cons n t _ ih => exact .cons ⟨t, rfl⟩ ih

/-- a slice x[:n] -/
theorem z_upto {vs : List Value} {n : Int} {t : Tok} (S : St w b f g m cm gl led h) (H : h.IsList l vs.toArray) (I : All2 IntV vs ns) (h0 : 0 ≤ n) (hsz : vs.length ≤ sizeLine) (k : ∀ l' ys h', St w b f g m cm gl ((l', LO ys) :: led) h' → All2 IntV ys (ns.take n.toNat) → Q (.ref l') ⟨h', gs, dr, tk, os⟩)
    (hs : subscripted slice false (.ref l) (.ref h.objs.size) = operate [.ref h.objs.size, .ref l] (getItem (.ref l) (.ref h.objs.size)) := by with_unfolding_all rfl) (ht : ∀ r, letTemporaryGo value (.ref l) r = pure () := by intro _; with_unfolding_all rfl) :
    wpAny (model PG w) A (subscriptTail value slice (.ref l) (.ref h.objs.size)) Q E ⟨h.push { cls := .type "slice", data := .fields #[.none, .int n t, .none] }, gs, dr, tk, os⟩ := by
  refine subscriptTail_ops (Heap.IsList.typeIs (s := ⟨h.push { cls := .type "slice", data := .fields #[.none, .int n t, .none] }, gs, dr, tk, os⟩) (H.push _)) list_getitem_lookup
    (wpAny_getItem_list_slice (H.push _) (Heap.IsSliceOf.new ..) .none (.int _ _) .none (by simp) ?_ (by rw [List.size_toArray]; exact hsz)) hs ht
  have S1 := S.keeps (h' := h.push { cls := .type "slice", data := .fields #[.none, .int n t, .none] }) fun _ _ e => Heap.get?_push_of_some _ e
  have S2 := S1.push { cls := .type "list", data := .seq (slicePick vs.toArray none (some n) none) } (LO (slicePick vs.toArray none (some n) none).toList) ⟨0, rfl⟩ rfl
  exact k _ _ _ S2 (of_ints (slice_ints_uptoW (ints_of I) h0))

end
section
variable {w : World} {b : Heap} {f : Fm} {g : Heap} {m cm : Str → Option Value} {gl gl' gp gr led led' : Led} {h h' X : Heap} {A : Around} {E : Value → Shared → Prop} {env : Env} {gs : Array GenState} {dr : Drawn} {tk : Nat} {os : OsState} {x y : Str} {pos px py spos : Pos} {v t c r : Value}
  {Q : Value → Shared → Prop} {QF : Flow → Shared → Prop} {QU : Unit → Shared → Prop} {a d dx C l ta tra : Addr} {P P' : Obj → Prop} {name : Str} {s : Shared} {e : Expr} {rest : List Expr} {its : List Value} {value slice : Expr} {tab : List (Int × Value)} {trl : List (Str × Value)} {kvs : List (Str × Value)} {D : Doc} {H : Head} {o : Option Value} {ns : List Int} {ws : List Str}

theorem z_pushed {α : Type} {M : Model} {p : Sem α} {QA : α → Shared → Prop} {o : Obj} (S : St w b f g m cm gl led h) (ho : o.isFreed = false) (k : St w b f g m cm gl ((h.objs.size, fun x => x = o) :: led) (h.push o) → wpAny M A p QA E ⟨h.push o, gs, dr, tk, os⟩) : wpAny M A p QA E ⟨h.push o, gs, dr, tk, os⟩ := k (S.push o (fun x => x = o) rfl ho)
def PLX (k : Int) (t : Tok) : Obj → Prop := fun o => o.cls = .type "list" ∧ ∃ e, o.data = .seq #[.int k t] e
theorem z_plSetX {n k : Int} {t t0 t1 : Tok} (S : St w b f g m cm ((l, PLX k t) :: gr) led h) (h0 : 0 ≤ k) (h1 : k ≤ n) (k' : ∀ h', St w b f g m cm ((l, PLB (n + 1)) :: gr) led h' → QU () ⟨h', gs, dr, tk, os⟩) :
    wpAny (model PG w) A (setItem (.ref l) (.int 0 t0) (.int (k + 1) t1)) QU E ⟨h, gs, dr, tk, os⟩ := by
  obtain ⟨o, e, c, n', d⟩ := S.haG (.head _)
  refine wpAny_setItem_list (s := ⟨h, gs, dr, tk, os⟩) ⟨o, e, c, n', d⟩ (by decide) (by decide) (by show (0 : Int) < ((1 : Nat) : Int); decide) fun h' hl hs => ?_
  obtain ⟨o, e, c, d⟩ := hl
  exact k' h' (S.updG .here (fun a o hc e => (hs.2 a hc).trans e) ⟨o, e, k + 1, t1, by omega, by omega, c, d⟩)
theorem smallBits {x : Int} (h0 : 0 ≤ x) (h1 : x ≤ 100000) : Builtin.Int.intBits x ≤ 64 := by
  unfold Builtin.Int.intBits
  split
  · omega
  · rename_i hz
    have hne : x.natAbs ≠ 0 := by intro q; apply hz; have : x = 0 := by omega
                                  subst this; rfl
    have : x.natAbs.log2 < 18 := by rw [Nat.log2_lt hne]; omega
    omega
def TabP : Obj → Prop := fun o => o = tabObj #[]
def GrownP : Obj → Prop := fun o => ∃ ps, o = tabObj ps
theorem z_enterFn {k : Nat} {fn : Addr} {oc : Value} {od an : Option Addr} {osl : Array (Option Value)} {qual : Str} {params : Arguments} {body : List Stmt} {scope : Scope} {cl : List (Str × Addr)} {dV kV doc pm cdv ct : Value} {args : Args} {binds : List (Str × Value)} {R : Result → Shared → Prop}
    (S : St w b f g m cm (gp ++ gr) led h) (RM : Room (k + 1) A) (ho : h.get? fn = some ⟨oc, od, .func (fnX name qual params body scope cl dV kV doc pm an cdv ct), osl⟩) (hcd : h.CodeRec cdv qual)
    (hbind : BindsTo ⟨h, gs, dr, tk, os⟩ (fnX name qual params body scope cl dV kV doc pm an cdv ct) args binds) (hloc : ∀ y ∈ binds, scope.names.lookup y.1 = some .local)
    (hb : ∀ L' h₁, St w b ⟨L', [], hideAll h (gp.map (·.1))⟩ g (fun y => binds.reverse.lookup y) (fun _ => none) gp [] h₁ → Room k (A.deeper (envX qual scope L' fn cdv cl)) →
      wpAny (model PG w) (A.deeper (envX qual scope L' fn cdv cl)) (execs body (envX qual scope L' fn cdv cl)) (fun fl s' => R (.ok (.ret (match fl with | .ret v => v | _ => .none))) s')
        (fun e s' => wpAny (model PG w) (A.deeper (envX qual scope L' fn cdv cl)) (leaving (envX qual scope L' fn cdv cl) e) (fun _ s'' => R (.error e) s'') (fun e' s'' => R (.error e') s'') s')
        ⟨h₁, gs, dr, tk + binds.length, os⟩)
    (hcell : ∀ x ∈ scope.names, x.2 ≠ .cell) (hco : scope.isCoroutine = false) (hgen : scope.isGenerator = false) (hk : scope.kind = .function) : codeAny (model PG w) A (.call (.ref fn) args) R ⟨h, gs, dr, tk, os⟩ := by
  refine codeAny_call_def (s := ⟨h, gs, dr, tk, os⟩) (fd := fnX name qual params body scope cl dV kV doc pm an cdv ct) (body := body) (binds := binds) RM.depth ho rfl S.nolimit hcd rfl hbind hcell hloc (fun h₁ hns hk₁ => ?_) hco hgen hk
  exact hb _ _ (enterSt S rfl hns hk₁) (RM.deeper _)
theorem St.freezeBut {pre post : Led} (S : St w b f g m cm gl (pre ++ (a, P) :: post) h) : ∃ g', Gle f.e g g' ∧ (∀ {l P}, (l, P) ∈ pre ++ post → Ha g' l P) ∧ St w b f g' m cm gl [(a, P)] h := by
  have S1 : St w b f g m cm gl ((pre ++ post) ++ [(a, P)]) h := S.perm (List.Perm.append_left _ (List.perm_middle.trans (by
    have : ((a, P) :: (pre ++ post)).Perm ((pre ++ post) ++ [(a, P)]) := (List.perm_append_comm (l₁ := [(a, P)]) (l₂ := pre ++ post))
    exact this)))
  obtain ⟨g', G, FZ, S2⟩ := S1.freeze
  exact ⟨g', G, fun {l P} hm => FZ _ hm, S2⟩

theorem taker_spec {vs : List Value} (S : St w b f g m cm ((483, TabP) :: gr) led h) (RM : Room 4 A) (CH : CodeHd b 487 483) (BM : ∃ mg, b.Ns mainGlobals mg ∧ b.BuiltinsAt mg 483) (HS : b.IsList l vs.toArray) (IV : All2 IntV vs ns) (hlen : vs.length ≤ 100)
    (k : ∀ fa pa g' h' tk', Gle f.e g g' → St w b f g' m cm ((483, GrownP) :: gr) ((pa, PLB 0) :: led) h' → TakeV w b g' fa pa → Q (.ref fa) ⟨h', gs, dr, tk', os⟩) : wpAny (model PG w) A (call (.ref 488) [.ref l] []) Q E ⟨h, gs, dr, tk, os⟩ := by
  have big : (10000 : Nat) ≤ sizeLine := by rw [sizeLine_eq]; decide
  refine wpAny_call ?_
  refine' z_enterCV (gp := [(483, TabP)]) (gr := gr) (binds := [("script", .ref l)]) S RM ?k1 ?k2 ?k3 ?k4 ?k5 ?_ ?k6 ?k7 ?k8
  case k1 => k_is
  case k2 => k_is
  case k3 => exact BindsTo.of_eq rfl
  case k4 => rfl
  case k5 => decide
  case k6 => rfl
  case k7 => rfl
  case k8 => rfl
  intro L' h1 tk1 Q9 E9 A9 f9 m9 cm9 S1 RM1 hret9 hnext9 hE9
  repeat' (first | walk_at "Z" | walk_at "Zif")
  have HS1 : h1.IsList l vs.toArray := let ⟨o, e, r⟩ := HS; ⟨o, S1.kb _ _ e, r⟩
  refine wpAny_Slice ?_
  refine wpAny_pure ?_
  show wpAny _ _ (eval _ _) _ _ _
  repeat' (first | walk_at "Z" | walk_at "Zif")
  refine wpAny_pure ?_
  refine z_upto S1 HS1 IV (by decide) (by omega) fun lcc ys h2 S2 hy => ?_
  repeat' (first | walk_at "Z" | walk_at "Zif")
  rename_i h3 S3 l0 h4 S4 nl0
  refine z_eqI RM1 ⟨lcc, ys, rfl, S4.ha (.tail _ (.head _)), hy⟩ ⟨l0, [], rfl, S4.ha (.head _), .nil⟩ ?_
  have yl := hy.length
  have sC : St w b _ g _ _ [(483, TabP)] _ h4 := S4
  cases hz : ns.take (63 : Int).toNat with
  | nil =>
    rw [decide_eq_true rfl]
    repeat' (first | walk_at "Z" | walk_at "Zif")
    rename_i lc2 hA SA nA hB SB lp hC SC nC hD SD
    obtain ⟨mg, hmg, bm, obm, b1, b2, b3, b4, b5, b6, b7, b8⟩ := BM
    obtain ⟨oP, eP, rfl⟩ := SD.haG (.head _)
    refine nestDef_K rfl rfl rfl ?_
    refine makeFunction_K (clos := [("place", L' + 1 + 1), ("cells", L' + 1)]) (c := 487) (P := 483) (ps := #[]) rfl rfl (hmg.keeps SD.kb) rfl (CH.keeps SD.kb) eP trivial rfl (by decide) ⟨bm, obm, b1, b2, b3, b4, SD.kb _ _ b5, b6, b7, b8⟩ ?_
    intro c' ctv doc h' tkX hx hge hlt hrec htb
    obtain ⟨c₂, oc, vsc, tc, e2, hoc, hdc, hvc⟩ := hrec
    cases e2
    have SD1 := SD.make (c := c') (Pc := fun o => o = oc) (P' := GrownP) (fun a o ne e => hx a o ne e) ⟨_, htb, _, rfl⟩ (Heap.get?_none_of_le hge) ⟨_, hoc, rfl⟩
    refine z_pushed SD1 rfl fun SE => ?_
    repeat' (first | walk_at "Z" | walk_at "Zif")
    rename_i hF SF
    have U1 := St.uncell (x := "place") (c := L' + 1 + 1) (cl := [("cells", L' + 1)]) SF
    have U2 := St.uncell (x := "cells") (c := L' + 1) (cl := []) U1
    have U3 := U2.upd (o' := PLB 0) (.there (.there (.there (.there .here)))) (fun _ _ _ e => e) (by
      obtain ⟨o, e, n, rfl⟩ := U2.ha (.tail _ (.tail _ (.tail _ (.tail _ (.head _)))))
      exact ⟨_, e, 0, _, Int.le_refl _, Int.le_refl _, rfl, n, rfl⟩)
    obtain ⟨g7, G7, FZ, U4⟩ := St.freezeBut (pre := [_, _, _, _]) (post := _) U3
    have Bk := S.back (gp := [(483, TabP)]) (gr := gr) rfl G7 U4 rfl
    refine k _ lp g7 _ _ Bk.1 Bk.2 ?_
    have Fc1 : g7.IsCell (L' + 1) (some (.ref lc2)) := FZ (.head _)
    have Fpl : g7.IsCell (L' + 1 + 1) (some (.ref lp)) := FZ (.tail _ (.head _))
    have Ffn := FZ (.tail _ (.tail _ (.head _)))
    have Fco := FZ (.tail _ (.tail _ (.tail _ (.head _))))
    obtain ⟨cs, cns, Fl, Fi, cne, clen⟩ : ∃ cs cns, Ha g7 lc2 (LO cs) ∧ All2 IntV cs cns ∧ 0 < cs.length ∧ cs.length ≤ 100 := ⟨_, [1], FZ (.tail _ (.tail _ (.tail _ (.tail _ (.head _))))), .cons ⟨_, rfl⟩ .nil, Nat.one_pos, Nat.le_of_ble_eq_true rfl⟩
    obtain ⟨ofn, efn, rfl⟩ := Ffn
    obtain ⟨oco, eco, rfl⟩ := Fco
    refine ⟨⟨_, _, _, _, efn⟩, ?_⟩
    intro f2 g2 m2 cm2 gr2 led2 h2' A2 E2 gs2 dr2 tk2 os2 Q2 n limit tl sg S2' RM2 hn hlim k2
    have hc1 : g2.IsCell (L' + 1) (some (.ref lc2)) := let ⟨o, e, d⟩ := Fc1; ⟨o, sg _ _ e, d⟩
    have hc2 : g2.IsCell (L' + 1 + 1) (some (.ref lp)) := let ⟨o, e, d⟩ := Fpl; ⟨o, sg _ _ e, d⟩
    refine wpAny_call ?_
    refine' z_enterFn (gp := [(lp, PLB n)]) (gr := gr2) (binds := [("limit", .int limit tl)]) S2' RM2 (S2'.kg _ _ (sg _ _ efn)) ?k2 ?k3 ?k4 ?_ ?k5 ?k6 ?k7 ?k8
    case k2 => exact ⟨_, _, _, _, rfl, S2'.kg _ _ (sg _ _ eco), hdc, hvc⟩
    case k3 => exact BindsTo.of_eq rfl
    case k4 => exact locs rfl
    case k5 => decide
    case k6 => rfl
    case k7 => rfl
    case k8 => rfl
    intro L2 h3' S3' RM3
    obtain ⟨opl, epl, kk, tkk, k0, k1, kc, ke, kd⟩ := S3'.haG (.head _)
    have S3x : St w b _ g2 _ _ [(lp, PLX kk tkk)] [] h3' := S3'.updG .here (fun _ _ _ e => e) ⟨opl, epl, kc, ke, kd⟩
    clear S3'
    repeat' (first | walk_at "Z" | walk_at "Zif")
    refine z_plItem ⟨opl, epl, kc, ke, kd⟩ ?_
    repeat' (first | walk_at "Z" | walk_at "Zif")
    rename_i h4' S4'
    refine z_plSetX (n := n) S4' k0 k1 fun h5' S5' => ?_
    repeat' (first | walk_at "Z" | walk_at "Zif")
    refine z_len (Fl.keeps fun a o e => S5'.kg _ _ (sg _ _ e)) (by omega) fun t6 tk6 => ?_
    refine z_fdivS (by omega) (by omega) fun t7 tk7 => ?_
    repeat' (first | walk_at "Z" | walk_at "Zif")
    rename_i h8' S8'
    have lv0 : 0 ≤ kk.fdiv (cs.length : Int) := Int.fdiv_nonneg k0 (by omega)
    have lv1 : kk.fdiv (cs.length : Int) ≤ 400 := by
      have e1 : kk.fdiv (cs.length : Int) = kk / (cs.length : Int) := Int.fdiv_eq_ediv_of_nonneg _ (by omega)
      rw [e1]
      have := Int.ediv_le_self (cs.length : Int) k0
      omega
    refine z_len (Fl.keeps fun a o e => S8'.kg _ _ (sg _ _ e)) (by omega) fun t9 tk9 => ?_
    refine mod_int (by omega) ?_
    have md0 : 0 ≤ kk.fmod (cs.length : Int) := Int.fmod_nonneg_of_pos _ (by omega)
    have md1 : kk.fmod (cs.length : Int) < cs.length := Int.fmod_lt_of_pos _ (by omega)
    obtain ⟨cv, hcv⟩ : ∃ cv, cs[(kk.fmod (cs.length : Int)).toNat]? = some cv := ⟨_, List.getElem?_eq_getElem (by omega)⟩
    obtain ⟨cn, _, ct, rfl⟩ := Fi.get hcv
    refine z_item (Fl.keeps fun a o e => S8'.kg _ _ (sg _ _ e)) md0 (by omega) hcv ?_
    repeat' (first | walk_at "Z" | walk_at "Zif")
    refine z_pow lv0 lv1 fun t10 tk10 => ?_
    refine z_fdiv (by omega) fun t11 tk11 => ?_
    repeat' (first | walk_at "Z" | walk_at "Zif")
    refine PySem.P.mul_int ?_ (IntMulOk.of_left (by decide))
    repeat' (first | walk_at "Z" | walk_at "Zif")
    refine PySem.P.mul_int ?_ (IntMulOk.of_left (smallBits lv0 (by omega)))
    repeat' (first | walk_at "Z" | walk_at "Zif")
    refine mod_int (by omega) ?_
    have B2 := S2'.back (gp := [(lp, PLB n)]) (gr := gr2) rfl (Gle.refl _ _) S8' rfl
    exact k2 _ _ _ _ (Int.fmod_nonneg_of_pos _ hlim) (Int.fmod_lt_of_pos _ hlim) B2.2
  | cons n0 ns0 =>
    rw [decide_eq_false (by simp)]
    repeat' (first | walk_at "Z" | walk_at "Zif")
    rename_i lp hC SC nC hD SD
    obtain ⟨mg, hmg, bm, obm, b1, b2, b3, b4, b5, b6, b7, b8⟩ := BM
    obtain ⟨oP, eP, rfl⟩ := SD.haG (.head _)
    refine nestDef_K rfl rfl rfl ?_
    refine makeFunction_K (clos := [("place", L' + 1 + 1), ("cells", L' + 1)]) (c := 487) (P := 483) (ps := #[]) rfl rfl (hmg.keeps SD.kb) rfl (CH.keeps SD.kb) eP trivial rfl (by decide) ⟨bm, obm, b1, b2, b3, b4, SD.kb _ _ b5, b6, b7, b8⟩ ?_
    intro c' ctv doc h' tkX hx hge hlt hrec htb
    obtain ⟨c₂, oc, vsc, tc, e2, hoc, hdc, hvc⟩ := hrec
    cases e2
    have SD1 := SD.make (c := c') (Pc := fun o => o = oc) (P' := GrownP) (fun a o ne e => hx a o ne e) ⟨_, htb, _, rfl⟩ (Heap.get?_none_of_le hge) ⟨_, hoc, rfl⟩
    refine z_pushed SD1 rfl fun SE => ?_
    repeat' (first | walk_at "Z" | walk_at "Zif")
    rename_i hF SF
    have U1 := St.uncell (x := "place") (c := L' + 1 + 1) (cl := [("cells", L' + 1)]) SF
    have U2 := St.uncell (x := "cells") (c := L' + 1) (cl := []) U1
    have U3 := U2.upd (o' := PLB 0) (.there (.there (.there (.there .here)))) (fun _ _ _ e => e) (by
      obtain ⟨o, e, n, rfl⟩ := U2.ha (.tail _ (.tail _ (.tail _ (.tail _ (.head _)))))
      exact ⟨_, e, 0, _, Int.le_refl _, Int.le_refl _, rfl, n, rfl⟩)
    obtain ⟨g7, G7, FZ, U4⟩ := St.freezeBut (pre := [_, _, _, _]) (post := _) U3
    have Bk := S.back (gp := [(483, TabP)]) (gr := gr) rfl G7 U4 rfl
    refine k _ lp g7 _ _ Bk.1 Bk.2 ?_
    have Fc1 : g7.IsCell (L' + 1) (some (.ref lcc)) := FZ (.head _)
    have Fpl : g7.IsCell (L' + 1 + 1) (some (.ref lp)) := FZ (.tail _ (.head _))
    have Ffn := FZ (.tail _ (.tail _ (.head _)))
    have Fco := FZ (.tail _ (.tail _ (.tail _ (.head _))))
    obtain ⟨cs, cns, Fl, Fi, cne, clen⟩ : ∃ cs cns, Ha g7 lcc (LO cs) ∧ All2 IntV cs cns ∧ 0 < cs.length ∧ cs.length ≤ 100 := ⟨ys, _, FZ (.tail _ (.tail _ (.tail _ (.tail _ (.tail _ (.head _)))))), hy, by rw [yl, hz]; exact Nat.succ_pos _, by rw [yl, List.length_take]; have := IV.length; omega⟩
    obtain ⟨ofn, efn, rfl⟩ := Ffn
    obtain ⟨oco, eco, rfl⟩ := Fco
    refine ⟨⟨_, _, _, _, efn⟩, ?_⟩
    intro f2 g2 m2 cm2 gr2 led2 h2' A2 E2 gs2 dr2 tk2 os2 Q2 n limit tl sg S2' RM2 hn hlim k2
    have hc1 : g2.IsCell (L' + 1) (some (.ref lcc)) := let ⟨o, e, d⟩ := Fc1; ⟨o, sg _ _ e, d⟩
    have hc2 : g2.IsCell (L' + 1 + 1) (some (.ref lp)) := let ⟨o, e, d⟩ := Fpl; ⟨o, sg _ _ e, d⟩
    refine wpAny_call ?_
    refine' z_enterFn (gp := [(lp, PLB n)]) (gr := gr2) (binds := [("limit", .int limit tl)]) S2' RM2 (S2'.kg _ _ (sg _ _ efn)) ?k2 ?k3 ?k4 ?_ ?k5 ?k6 ?k7 ?k8
    case k2 => exact ⟨_, _, _, _, rfl, S2'.kg _ _ (sg _ _ eco), hdc, hvc⟩
    case k3 => exact BindsTo.of_eq rfl
    case k4 => exact locs rfl
    case k5 => decide
    case k6 => rfl
    case k7 => rfl
    case k8 => rfl
    intro L2 h3' S3' RM3
    obtain ⟨opl, epl, kk, tkk, k0, k1, kc, ke, kd⟩ := S3'.haG (.head _)
    have S3x : St w b _ g2 _ _ [(lp, PLX kk tkk)] [] h3' := S3'.updG .here (fun _ _ _ e => e) ⟨opl, epl, kc, ke, kd⟩
    clear S3'
    repeat' (first | walk_at "Z" | walk_at "Zif")
    refine z_plItem ⟨opl, epl, kc, ke, kd⟩ ?_
    repeat' (first | walk_at "Z" | walk_at "Zif")
    rename_i h4' S4'
    refine z_plSetX (n := n) S4' k0 k1 fun h5' S5' => ?_
    repeat' (first | walk_at "Z" | walk_at "Zif")
    refine z_len (Fl.keeps fun a o e => S5'.kg _ _ (sg _ _ e)) (by omega) fun t6 tk6 => ?_
    refine z_fdivS (by omega) (by omega) fun t7 tk7 => ?_
    repeat' (first | walk_at "Z" | walk_at "Zif")
    rename_i h8' S8'
    have lv0 : 0 ≤ kk.fdiv (cs.length : Int) := Int.fdiv_nonneg k0 (by omega)
    have lv1 : kk.fdiv (cs.length : Int) ≤ 400 := by
      have e1 : kk.fdiv (cs.length : Int) = kk / (cs.length : Int) := Int.fdiv_eq_ediv_of_nonneg _ (by omega)
      rw [e1]
      have := Int.ediv_le_self (cs.length : Int) k0
      omega
    refine z_len (Fl.keeps fun a o e => S8'.kg _ _ (sg _ _ e)) (by omega) fun t9 tk9 => ?_
    refine mod_int (by omega) ?_
    have md0 : 0 ≤ kk.fmod (cs.length : Int) := Int.fmod_nonneg_of_pos _ (by omega)
    have md1 : kk.fmod (cs.length : Int) < cs.length := Int.fmod_lt_of_pos _ (by omega)
    obtain ⟨cv, hcv⟩ : ∃ cv, cs[(kk.fmod (cs.length : Int)).toNat]? = some cv := ⟨_, List.getElem?_eq_getElem (by omega)⟩
    obtain ⟨cn, _, ct, rfl⟩ := Fi.get hcv
    refine z_item (Fl.keeps fun a o e => S8'.kg _ _ (sg _ _ e)) md0 (by omega) hcv ?_
    repeat' (first | walk_at "Z" | walk_at "Zif")
    refine z_pow lv0 lv1 fun t10 tk10 => ?_
    refine z_fdiv (by omega) fun t11 tk11 => ?_
    repeat' (first | walk_at "Z" | walk_at "Zif")
    refine PySem.P.mul_int ?_ (IntMulOk.of_left (by decide))
    repeat' (first | walk_at "Z" | walk_at "Zif")
    refine PySem.P.mul_int ?_ (IntMulOk.of_left (smallBits lv0 (by omega)))
    repeat' (first | walk_at "Z" | walk_at "Zif")
    refine mod_int (by omega) ?_
    have B2 := S2'.back (gp := [(lp, PLB n)]) (gr := gr2) rfl (Gle.refl _ _) S8' rfl
    exact k2 _ _ _ _ (Int.fmod_nonneg_of_pos _ hlim) (Int.fmod_lt_of_pos _ hlim) B2.2

end
section
variable {w : World} {b : Heap} {f : Fm} {g : Heap} {m cm : Str → Option Value} {gl gl' gp gr led led' : Led} {h h' X : Heap} {A : Around} {E : Value → Shared → Prop} {env : Env} {gs : Array GenState} {dr : Drawn} {tk : Nat} {os : OsState} {x y : Str} {pos px py spos : Pos} {v t c r : Value}
  {Q : Value → Shared → Prop} {QF : Flow → Shared → Prop} {QU : Unit → Shared → Prop} {a d dx C l ta tra : Addr} {P P' : Obj → Prop} {name : Str} {s : Shared} {e : Expr} {rest : List Expr} {its : List Value} {value slice : Expr} {tab : List (Int × Value)} {trl : List (Str × Value)} {kvs : List (Str × Value)} {D : Doc} {H : Head} {o : Option Value} {ns : List Int} {ws : List Str}

def InR (M : Int) (ns : List Int) : Prop := ∀ x ∈ ns, 1 ≤ x ∧ x ≤ M
theorem picked_spec {fa pa : Addr} {n M : Int} {tM : Tok} (S : St w b f g m cm ((pa, PLB n) :: gr) led h) (RM : Room 3 A) (T : TakeV w b g fa pa) (hn : n ≤ 390) (hM : M ≤ 5)
    (k : ∀ r ns g' h' tk', Gle f.e g g' → St w b f g' m cm ((pa, PLB (n + 4)) :: gr) led h' → IntsV g' r ns → InR M ns → ns.length ≤ 3 → Q r ⟨h', gs, dr, tk', os⟩) : wpAny (model PG w) A (call (.ref 493) [.ref fa, .int M tM] []) Q E ⟨h, gs, dr, tk, os⟩ := by
  have big : (10000 : Nat) ≤ sizeLine := by rw [sizeLine_eq]; decide
  refine wpAny_call ?_
  refine' z_enterCV (gp := [(pa, PLB n)]) (gr := gr) (binds := [("take", .ref fa), ("many", .int M tM)]) S RM ?k1 ?k2 ?k3 ?k4 ?k5 ?_ ?k6 ?k7 ?k8
  case k1 => k_is
  case k2 => k_is
  case k3 => exact BindsTo.of_eq rfl
  case k4 => rfl
  case k5 => decide
  case k6 => rfl
  case k7 => rfl
  case k8 => rfl
  intro L' h1 tk1 Q9 E9 A9 f9 m9 cm9 S1 RM1 hret9 hnext9 hE9
  repeat' (first | walk_at "Z" | walk_at "Zif")
  by_cases hp : M > 0
  · rw [decide_eq_true hp]
    repeat' (first | walk_at "Z" | walk_at "Zif")
    refine z_comp (cl := [("take", L' + 1), ("many", L' + 1 + 1)]) rfl rfl (by decide) ?_ (fun _ => rfl)
    repeat' (first | walk_at "Z" | walk_at "Zif")
    refine callWith_F (T.at S1.kg) ?_
    repeat' (first | walk_at "Z" | walk_at "Zif")
    refine ⟨T.at S1.kg, ?_⟩
    refine T.call (gr := []) (fun _ _ e => e) S1 RM1 (by omega) (by decide) fun v tv h2 tk2 v0 v1 S2 => ?_
    repeat' (first | walk_at "Z" | walk_at "Zif")
    refine z_range S2 fun r h3 tk3 t1 u1 w1 hr S3 sub3 => ?_
    obtain ⟨c, rfl⟩ : ∃ c : Nat, v = (c : Int) := ⟨v.toNat, by omega⟩
    have rs := range_small (a := 0) (c := (c : Int)) (by omega) (by omega) (by omega)
    refine z_compR (n := c) S3 RM1.hh hr rs.1 (by rw [rs.2]; omega) (by omega) (by decide) rfl rfl (fun i ys g' gl => g = g' ∧ gl = [(pa, PLB (n + 1 + i))] ∧ ys.length = i ∧ ∃ ns, All2 IntV ys ns ∧ InR M ns) ⟨rfl, by simp, rfl, [], .nil, fun x hx => nomatch hx⟩ (fun i ys g gl q => Nat.le_of_eq q.2.2.1) (fun i ys g gl ⟨_, q, _⟩ => by rw [q]; rfl) (CompTurnQ.turn ?_) ?_
    · intro C i vv e' ys g₁ m₁ gl₁ h₁ tk₁ Qy9 Qn9 J9 hi hv hs hG f9 m9 S4 hy9 hz9 j9
      obtain ⟨rfl, rfl, hyl, ns, hy, hin⟩ := j9
      have hc1 : e'.IsCell (L' + 1) (some (.ref fa)) := (S3.cellE (x := "take") (lookup_mem rfl) rfl).keeps hs
      have hc2 : e'.IsCell (L' + 1 + 1) (some (.int M tM)) := (S3.cellE (x := "many") (lookup_mem rfl) rfl).keeps hs
      refine tests_nil (if_t rfl ?_)
      repeat' (first | walk_at "Z" | walk_at "Zif")
      refine callWith_F (T.at S4.kg) ?_
      repeat' (first | walk_at "Z" | walk_at "Zif")
      refine ⟨T.at S4.kg, ?_⟩
      refine T.call (gr := []) (fun _ _ e => e) S4 (RM1.less (by decide)) (by omega) hp fun v tv h5 tk5 v0 v1 S5 => ?_
      repeat' (first | walk_at "Z" | walk_at "Zif")
      refine hy9.go S5 (Gle.refl _ _) ⟨rfl, by rw [show n + 1 + (i : Int) + 1 = n + 1 + ((i + 1 : Nat) : Int) by omega], by rw [List.length_append, hyl]; rfl, ns ++ [1 + v], hy.snoc ⟨_, rfl⟩, fun x hx => ?_⟩
      rcases List.mem_append.mp hx with hx | hx
      · exact hin x hx
      · rw [List.mem_singleton.mp hx]; omega
    · rintro W ys g4 gl4 h4 tk4 ⟨rfl, rfl, hyl, ns, hy, hin⟩ G4 S4 nW _
      repeat' (first | walk_at "Z" | walk_at "Zif")
      obtain ⟨g', G', s', S9, FZ, sh⟩ := St.done (gp := [(pa, PLB n)]) (gr := gr) S (S4.weakG (PLB.mono (n' := n + 4) (by omega))) G4
      exact k _ ns _ _ _ G' S9 ⟨_, _, rfl, FZ (.head _), hy⟩ hin (by rw [← hy.length]; omega)
  · rw [decide_eq_false hp]
    repeat' (first | walk_at "Z" | walk_at "Zif")
    rename_i l0 h2 S2 nl0
    obtain ⟨g', G', s', S9, FZ, sh⟩ := St.done (gp := [(pa, PLB n)]) (gr := gr) S (S2.weakG (PLB.mono (n' := n + 4) (by omega))) (Gle.refl _ _)
    exact k _ [] _ _ _ G' S9 ⟨_, _, rfl, FZ (.head _), .nil⟩ (fun x hx => nomatch hx) (by decide)

theorem refs_spec {vs : List Value} (S : St w b f g m cm gl led h) (RM : Room 4 A) (HL : Ha h l (LO vs)) (IV : All2 IntV vs ns) (hlen : ns.length ≤ 100)
    (k : ∀ r g' h' tk', Gle f.e g g' → St w b f g' m cm gl led h' → RefsV w g' r ns → Q r ⟨h', gs, dr, tk', os⟩) : wpAny (model PG w) A (call (.ref 498) [.ref l] []) Q E ⟨h, gs, dr, tk, os⟩ := by
  have big : (10000 : Nat) ≤ sizeLine := by rw [sizeLine_eq]; decide
  have il := IV.length
  refine wpAny_call ?_
  refine' z_enterV (gp := []) (gr := gl) (binds := [("numbers", .ref l)]) S RM ?k1 ?k2 ?k3 ?k4 ?_ ?k5 ?k6 ?k7 ?k8
  case k1 => k_is
  case k2 => k_is
  case k3 => exact BindsTo.of_eq rfl
  case k4 => exact locs rfl
  case k5 => decide
  case k6 => rfl
  case k7 => rfl
  case k8 => rfl
  intro L' h1 Q9 E9 A9 f9 m9 S1 RM1 hret9 hnext9 hE9
  repeat' (first | walk_at "Z" | walk_at "Zif")
  refine z_comp (cl := []) rfl rfl (by decide) ?_ (fun _ => rfl)
  repeat' (first | walk_at "Z" | walk_at "Zif")
  refine z_compL S1 RM1.hh (HL.keeps fun a o e => S1.ke _ _ e) (fun p hp => nomatch hp) (by omega) (by decide) rfl rfl (fun i ys g gl => gl = [] ∧ ys.length ≤ i ∧ All2 (RefV w g) ys (ns.take i)) ⟨rfl, Nat.le_refl _, .nil⟩ (fun i ys g gl q => q.2.1) (fun i ys g gl ⟨q, _⟩ => by rw [q]) (CompTurnQ.turn ?_) ?_
  · intro C i v e' ys g₁ m₁ gl₁ h₁ tk₁ Qy9 Qn9 J9 hi hv hs hG f9 m9 S2 hy9 hz9 j9
    obtain ⟨rfl, hyl, hy⟩ := j9
    obtain ⟨n, hn, t, rfl⟩ := IV.get hv
    refine tests_nil (if_t rfl ?_)
    repeat' (first | walk_at "Z" | walk_at "Zif")
    refine new_Ref S2 RM1 fun x dx g3 h3 tk3 G3 S3 F1 F2 => ?_
    exact hy9.go S3 G3 ⟨rfl, by simp; omega, by rw [take_snoc hn]; exact (hy.mono fun _ _ z => z.mono G3.1).snoc ⟨_, _, _, _, rfl, F1, F2⟩⟩
  · rintro W ys g2 gl2 h2 tk2 ⟨rfl, hyl, hy⟩ G2 S2 nW _
    rw [il, List.take_length] at hy
    repeat' (first | walk_at "Z" | walk_at "Zif")
    obtain ⟨g', G', s', S9, FZ, sh⟩ := St.done (gp := []) (gr := gl) S S2 G2
    exact k _ _ _ _ G' S9 ⟨_, _, rfl, FZ (.head _), hy.mono fun _ _ z => z.mono s'⟩

end
section
variable {w : World} {b : Heap} {f : Fm} {g : Heap} {m cm : Str → Option Value} {gl gl' gp gr led led' : Led} {h h' X : Heap} {A : Around} {E : Value → Shared → Prop} {env : Env} {gs : Array GenState} {dr : Drawn} {tk : Nat} {os : OsState} {x y : Str} {pos px py spos : Pos} {v t c r : Value}
  {Q : Value → Shared → Prop} {QF : Flow → Shared → Prop} {QU : Unit → Shared → Prop} {a d dx C l ta tra : Addr} {P P' : Obj → Prop} {name : Str} {s : Shared} {e : Expr} {rest : List Expr} {its : List Value} {value slice : Expr} {tab : List (Int × Value)} {trl : List (Str × Value)} {kvs : List (Str × Value)} {D : Doc} {H : Head} {o : Option Value} {ns : List Int} {ws : List Str}

theorem words_spec {fa pa : Addr} {n : Int} (S : St w b f g m cm ((pa, PLB n) :: gr) led h) (RM : Room 3 A) (T : TakeV w b g fa pa) (hn : n ≤ 390)
    (k : ∀ r ws g' h' tk', Gle f.e g g' → St w b f g' m cm ((pa, PLB (n + 1)) :: gr) led h' → StrsV g' r ws → ws.length ≤ 2 → Q r ⟨h', gs, dr, tk', os⟩) : wpAny (model PG w) A (call (.ref 505) [.ref fa] []) Q E ⟨h, gs, dr, tk, os⟩ := by
  refine wpAny_call ?_
  refine' z_enterV (gp := [(pa, PLB n)]) (gr := gr) (binds := [("take", .ref fa)]) S RM ?k1 ?k2 ?k3 ?k4 ?_ ?k5 ?k6 ?k7 ?k8
  case k1 => k_is
  case k2 => k_is
  case k3 => exact BindsTo.of_eq rfl
  case k4 => exact locs rfl
  case k5 => decide
  case k6 => rfl
  case k7 => rfl
  case k8 => rfl
  intro L' h1 Q9 E9 A9 f9 m9 S1 RM1 hret9 hnext9 hE9
  repeat' (first | walk_at "Z" | walk_at "Zif")
  rename_i l1 h2 S2 n2 l2 h3 S3 n3 l3 h4 S4 n4 l4 h5 S5 n5 l5 h6 S6 n6 lt h7 S7 n7
  refine callWith_F (T.at S7.kg) ?_
  repeat' (first | walk_at "Z" | walk_at "Zif")
  refine ⟨T.at S7.kg, ?_⟩
  refine T.call (gr := []) (fun _ _ e => e) S7 RM1 (by omega) (by decide) fun v tv h8 tk8 v0 v1 S8 => ?_
  have TH := S8.ha (.head _)
  have hv : v = 0 ∨ v = 1 ∨ v = 2 ∨ v = 3 ∨ v = 4 := by omega
  obtain ⟨g', G', s', S9, FZ, sh⟩ := St.done (gp := [(pa, PLB n)]) (gr := gr) S S8 (Gle.refl _ _)
  rcases hv with rfl | rfl | rfl | rfl | rfl
  · refine z_itemT TH (by decide) (by decide) rfl (by show 5 < 2 ^ 62; decide) ?_
    repeat' (first | walk_at "Z" | walk_at "Zif")
    exact k _ [] _ _ _ G' S9 ⟨_, _, rfl, FZ (.tail _ (.tail _ (.tail _ (.tail _ (.tail _ (.head _)))))), .nil⟩ (by decide)
  · refine z_itemT TH (by decide) (by decide) rfl (by show 5 < 2 ^ 62; decide) ?_
    repeat' (first | walk_at "Z" | walk_at "Zif")
    exact k _ ["View"] _ _ _ G' S9 ⟨_, _, rfl, FZ (.tail _ (.tail _ (.tail _ (.tail _ (.head _))))), .cons ⟨_, rfl⟩ .nil⟩ (by decide)
  · refine z_itemT TH (by decide) (by decide) rfl (by show 5 < 2 ^ 62; decide) ?_
    repeat' (first | walk_at "Z" | walk_at "Zif")
    exact k _ ["Design"] _ _ _ G' S9 ⟨_, _, rfl, FZ (.tail _ (.tail _ (.tail _ (.head _)))), .cons ⟨_, rfl⟩ .nil⟩ (by decide)
  · refine z_itemT TH (by decide) (by decide) rfl (by show 5 < 2 ^ 62; decide) ?_
    repeat' (first | walk_at "Z" | walk_at "Zif")
    exact k _ ["View", "Design"] _ _ _ G' S9 ⟨_, _, rfl, FZ (.tail _ (.tail _ (.head _))), .cons ⟨_, rfl⟩ (.cons ⟨_, rfl⟩ .nil)⟩ (by decide)
  · refine z_itemT TH (by decide) (by decide) rfl (by show 5 < 2 ^ 62; decide) ?_
    repeat' (first | walk_at "Z" | walk_at "Zif")
    exact k _ ["All"] _ _ _ G' S9 ⟨_, _, rfl, FZ (.tail _ (.head _)), .cons ⟨_, rfl⟩ .nil⟩ (by decide)

theorem told_spec (S : St w b f g m cm gl led h) (RM : Room 4 A) (SV : StrsV h v ws) (hlen : ws.length ≤ 100)
    (k : ∀ r g' h' tk', Gle f.e g g' → St w b f g' m cm gl led h' → ToldV w g' r ws → Q r ⟨h', gs, dr, tk', os⟩) : wpAny (model PG w) A (call (.ref 510) [v] []) Q E ⟨h, gs, dr, tk, os⟩ := by
  have big : (10000 : Nat) ≤ sizeLine := by rw [sizeLine_eq]; decide
  obtain ⟨l, vs, rfl, HL, AL⟩ := SV
  have il := AL.length
  refine wpAny_call ?_
  refine' z_enterV (gp := []) (gr := gl) (binds := [("words", .ref l)]) S RM ?k1 ?k2 ?k3 ?k4 ?_ ?k5 ?k6 ?k7 ?k8
  case k1 => k_is
  case k2 => k_is
  case k3 => exact BindsTo.of_eq rfl
  case k4 => exact locs rfl
  case k5 => decide
  case k6 => rfl
  case k7 => rfl
  case k8 => rfl
  intro L' h1 Q9 E9 A9 f9 m9 S1 RM1 hret9 hnext9 hE9
  have HL1 := HL.keeps fun a o e => S1.ke _ _ e
  repeat' (first | walk_at "Z" | walk_at "Zif")
  refine z_len HL1 (by omega) fun t2 tk2 => ?_
  repeat' (first | walk_at "Z" | walk_at "Zif")
  by_cases h1' : ws.length = 1
  · obtain ⟨s0, rfl⟩ : ∃ s0, ws = [s0] := by
      match ws, h1' with
      | [s0], _ => exact ⟨_, rfl⟩
    have : (((vs.length : Int)) == 1) = true := by rw [il]; rfl
    rw [this]
    repeat' (first | walk_at "Z" | walk_at "Zif")
    obtain ⟨v0, hv0, t, rfl⟩ := AL.get' (i := 0) rfl
    refine z_item HL1 (by decide) (by decide) hv0 ?_
    repeat' (first | walk_at "Z" | walk_at "Zif")
    refine new_Name S1 RM1 fun x dx g3 h3 tk3 G3 S3 F1 F2 => ?_
    have Bk := S.back (gp := []) (gr := gl) rfl G3 S3 rfl
    repeat' (first | walk_at "Z" | walk_at "Zif")
    exact k _ _ _ _ Bk.1 Bk.2 (.inl ⟨_, rfl, _, _, _, rfl, F1, F2⟩)
  · have : (((vs.length : Int)) == 1) = false := by
      rw [il]
      have : (ws.length : Int) ≠ 1 := by omega
      simpa using this
    rw [this]
    repeat' (first | walk_at "Z" | walk_at "Zif")
    refine z_comp (cl := []) rfl rfl (by decide) ?_ (fun _ => rfl)
    repeat' (first | walk_at "Z" | walk_at "Zif")
    refine z_compL S1 RM1.hh HL1 (fun p hp => nomatch hp) (by omega) (by decide) rfl rfl (fun i ys g gl => gl = [] ∧ ys.length ≤ i ∧ All2 (NameV w g) ys (ws.take i)) ⟨rfl, Nat.le_refl _, .nil⟩ (fun i ys g gl q => q.2.1) (fun i ys g gl ⟨q, _⟩ => by rw [q]) (CompTurnQ.turn ?_) ?_
    · intro C i v e' ys g₁ m₁ gl₁ h₁ tk₁ Qy9 Qn9 J9 hi hv hs hG f9 m9 S2 hy9 hz9 j9
      obtain ⟨rfl, hyl, hy⟩ := j9
      obtain ⟨n, hn, t, rfl⟩ := AL.get hv
      refine tests_nil (if_t rfl ?_)
      repeat' (first | walk_at "Z" | walk_at "Zif")
      refine new_Name S2 RM1 fun x dx g3 h3 tk3 G3 S3 F1 F2 => ?_
      exact hy9.go S3 G3 ⟨rfl, by simp; omega, by rw [take_snoc hn]; exact (hy.mono fun _ _ z => z.mono G3.1).snoc ⟨_, _, _, rfl, F1, F2⟩⟩
    · rintro W ys g2 gl2 h2 tk2 ⟨rfl, hyl, hy⟩ G2 S2 nW _
      rw [il, List.take_length] at hy
      repeat' (first | walk_at "Z" | walk_at "Zif")
      obtain ⟨g', G', s', S9, FZ, sh⟩ := St.done (gp := []) (gr := gl) S S2 G2
      repeat' (first | walk_at "Z" | walk_at "Zif")
      exact k _ _ _ _ G' S9 (.inr ⟨h1', _, _, rfl, FZ (.head _), hy.mono fun _ _ z => z.mono s'⟩)

theorem once_spec {vs : List Value} (S : St w b f g m cm gl led h) (RM : Room 4 A) (HL : Ha h l (LO vs)) (IV : All2 IntV vs ns) (hlen : ns.length ≤ 100)
    (k : ∀ r g' h' tk', Gle f.e g g' → St w b f g' m cm gl led h' → IntsV g' r (once ns) → Q r ⟨h', gs, dr, tk', os⟩) : wpAny (model PG w) A (call (.ref 517) [.ref l] []) Q E ⟨h, gs, dr, tk, os⟩ := by
  refine wpAny_call ?_
  refine' z_enterV (gp := []) (gr := gl) (binds := [("numbers", .ref l)]) S RM ?k1 ?k2 ?k3 ?k4 ?_ ?k5 ?k6 ?k7 ?k8
  case k1 => k_is
  case k2 => k_is
  case k3 => exact BindsTo.of_eq rfl
  case k4 => exact locs rfl
  case k5 => decide
  case k6 => rfl
  case k7 => rfl
  case k8 => rfl
  intro L' h1 Q9 E9 A9 f9 m9 S1 RM1 hret9 hnext9 hE9
  repeat' (first | walk_at "Z" | walk_at "Zif")
  rename_i lf h2 S2 nlf h3 S3
  refine wpAny_For ?_
  repeat' (first | walk_at "Z" | walk_at "Zif")
  obtain ⟨ol, eol, _⟩ := id HL
  refine z_forLQ S3 RM1.hh (HL.keeps fun a o e => S3.ke _ _ e) (S3.off_of_e (o := ol) eol) rfl rfl rfl
    (fun i g₁ m₁ cm₁ gl₁ led₁ => g = g₁ ∧ gl₁ = [] ∧ m₁ "found" = some (.ref lf) ∧ ∃ ys, led₁ = [(lf, LO ys)] ∧ All2 IntV ys (once (ns.take i))) ⟨rfl, rfl, rfl, [], rfl, .nil⟩ ?_ ?_
  · intro i v e' g₁ m₁ cm₁ gl₁ led₁ h₁ tk₁ Q9 J9 hi hs hG f9 m9 S4 hn9 hr9 hb9 j9
    obtain ⟨rfl, rfl, hm2, ys, rfl, hy⟩ := j9
    obtain ⟨n, hn, t, rfl⟩ := IV.get hi
    repeat' (first | walk_at "Z" | walk_at "Zif")
    refine z_notinI RM1 ⟨_, _, rfl, S4.ha (.head _), hy⟩ ?_
    have ot := once_take hn
    unfold addN at ot
    by_cases hm : n ∈ once (ns.take i)
    · rw [decide_eq_true hm]
      rw [if_pos hm] at ot
      repeat' (first | walk_at "Z" | walk_at "Zif")
      exact hn9.go S4 (Gle.refl _ _) ⟨rfl, rfl, hm2, ys, rfl, by rw [ot]; exact hy⟩
    · rw [decide_eq_false hm]
      rw [if_neg hm] at ot
      repeat' (first | walk_at "Z" | walk_at "Zif")
      refine z_appendM (S4.ha (.head _)) ?_
      repeat' (first | walk_at "Z" | walk_at "Zif")
      have hl2 : ys.length ≤ ns.length := by
        rw [hy.length]; refine Nat.le_trans (once_len _) ?_; rw [List.length_take]; omega
      refine z_append S4 .here (fun h6 S6 => ?_) (by rw [sizeLine_eq]; omega)
      repeat' (first | walk_at "Z" | walk_at "Zif")
      exact hn9.go S6 (Gle.refl _ _) ⟨rfl, rfl, hm2, _, rfl, by rw [ot]; exact hy.snoc ⟨_, rfl⟩⟩
  · rintro g₁ m₁ cm₁ gl₁ led₁ h₁ tk₁ ⟨rfl, rfl, hm2, ys, rfl, hy⟩ hG S4
    repeat' (first | walk_at "Z" | walk_at "Zif")
    rw [IV.length, List.take_length] at hy
    obtain ⟨g', G', s', S9, FZ, sh⟩ := St.done (gp := []) (gr := gl) S S4 hG
    repeat' (first | walk_at "Z" | walk_at "Zif")
    exact k _ _ _ _ G' S9 ⟨_, _, rfl, FZ (.head _), hy⟩

end
section
variable {w : World} {b : Heap} {f : Fm} {g : Heap} {m cm : Str → Option Value} {gl gl' gp gr led led' : Led} {h h' X : Heap} {A : Around} {E : Value → Shared → Prop} {env : Env} {gs : Array GenState} {dr : Drawn} {tk : Nat} {os : OsState} {x y : Str} {pos px py spos : Pos} {v t c r : Value}
  {Q : Value → Shared → Prop} {QF : Flow → Shared → Prop} {QU : Unit → Shared → Prop} {a d dx C l ta tra : Addr} {P P' : Obj → Prop} {name : Str} {s : Shared} {e : Expr} {rest : List Expr} {its : List Value} {value slice : Expr} {tab : List (Int × Value)} {trl : List (Str × Value)} {kvs : List (Str × Value)} {D : Doc} {H : Head} {o : Option Value} {ns : List Int} {ws : List Str}

structure Told where
  base : Str
  on : List Int
  off : List Int
  rows : List (List Int)
  locked : List Int
  words : List Str
def Told.head (T : Told) : Head := { base := if T.base = "" then none else some T.base, on := T.on, off := T.off, rows := T.rows, locked := T.locked, words := T.words, cap := 7 }
structure Told.Ok (M : Int) (T : Told) : Prop where
  base : T.base = "ON" ∨ T.base = "OFF" ∨ T.base = "Unchanged" ∨ T.base = ""
  on : InR M T.on
  off : InR M T.off
  locked : InR M T.locked
  rows : ∀ r ∈ T.rows, InR M r
  lon : T.on.length ≤ 3
  loff : T.off.length ≤ 3
  llocked : T.locked.length ≤ 3
  lrows : T.rows.length ≤ 2
  lrow : ∀ r ∈ T.rows, r.length ≤ 3
  lwords : T.words.length ≤ 2
inductive ToldD (w : World) (h : Heap) (v : Value) (T : Told) : Prop
  | mk d t v1 v2 v3 v4 v5 (q1 : v = .ref d) (q2 : Ha h d (SD w d [("BaseState", .str T.base t), ("ON", .ref v1), ("OFF", .ref v2), ("rows", .ref v3), ("Locked", .ref v4), ("words", .ref v5)])) (q3 : IntsV h (.ref v1) T.on) (q4 : IntsV h (.ref v2) T.off) (q5 : LV IntsV h (.ref v3) T.rows) (q6 : IntsV h (.ref v4) T.locked) (q7 : StrsV h (.ref v5) T.words) : ToldD w h v T
theorem ToldD.mono {T : Told} (x : ToldD w h v T) (s : Sub h h') : ToldD w h' v T :=
  let ⟨d, t, v1, v2, v3, v4, v5, e, p, q1, q2, q3, q4, q5⟩ := x
  ⟨d, t, v1, v2, v3, v4, v5, e, p.keeps s, q1.mono monoI s, q2.mono monoI s, q3.mono (monoL monoI) s, q4.mono monoI s, q5.mono monoS s⟩
theorem pick4 {v1 v2 v3 v4 : Str} {t1 t2 t3 t4 : Tok} {v : Int} (_ : Ha h l (TO [.str v1 t1, .str v2 t2, .str v3 t3, .str v4 t4])) (h0 : 0 ≤ v) (h1 : v < 4) :
    ∃ s t, [Value.str v1 t1, .str v2 t2, .str v3 t3, .str v4 t4][v.toNat]? = some (.str s t) ∧ (s = v1 ∨ s = v2 ∨ s = v3 ∨ s = v4) := by
  have hv : v = 0 ∨ v = 1 ∨ v = 2 ∨ v = 3 := by omega
  rcases hv with rfl | rfl | rfl | rfl
  · exact ⟨_, _, rfl, .inl rfl⟩
  · exact ⟨_, _, rfl, .inr (.inl rfl)⟩
  · exact ⟨_, _, rfl, .inr (.inr (.inl rfl))⟩
  · exact ⟨_, _, rfl, .inr (.inr (.inr rfl))⟩

/-- a statement's end, whichever way it went -/
theorem z_cut {M : Model} {p : Sem Flow} (I : Shared → Prop) (h1 : wpAny M A p (fun fl s' => fl = Flow.next ∧ I s') (fun _ _ => False) s) (h2 : ∀ s', I s' → QF .next s') : wpAny M A p QF E s :=
  wpAny_mono h1 (fun fl s' ⟨e, i⟩ => e ▸ h2 s' i) fun _ _ z => z.elim
def hkey : Nat → Str
  | 0 => "ON"
  | 1 => "OFF"
  | _ => "Locked"
def Told.list (T : Told) : Nat → List Int
  | 0 => T.on
  | 1 => T.off
  | _ => T.locked
theorem Told.list_len {T : Told} (h0 : T.on.length ≤ 3) (h1 : T.off.length ≤ 3) (h2 : T.locked.length ≤ 3) : ∀ i, i < 3 → (T.list i).length ≤ 3
  | 0, _ => h0
  | 1, _ => h1
  | 2, _ => h2
  | (j + 3), h => absurd h (by omega)
def Told.part (T : Told) (j i : Nat) : List Int := if j < i then T.list j else []
theorem Told.part_lt {T : Told} {j i : Nat} (h : j < i) : T.part j i = T.list j := if_pos h
theorem Told.part_ge {T : Told} {j i : Nat} (h : ¬ j < i) : T.part j i = [] := if_neg h
/-- how far the head has come -/
def HeadUp (w : World) (h : Heap) (kvs : List (Str × Value)) (T : Told) (i : Nat) : Prop :=
  OptName w h (valueAt kvs "BaseState") (if T.base = "" then none else some T.base) ∧ (∀ j, j < 3 → OptL (RefV w) h (valueAt kvs (hkey j)) (T.part j i)) ∧ valueAt kvs "Order" = none ∧ valueAt kvs "RBGroups" = none ∧ valueAt kvs "Intent" = none ∧ kvs.length ≤ 1 + i
theorem HeadUp.mono {T : Told} {i : Nat} (x : HeadUp w h kvs T i) (s : Sub h h') : HeadUp w h' kvs T i :=
  let ⟨a, b, c⟩ := x; ⟨a.mono s, fun j hj => (b j hj).mono monoRef s, c⟩
theorem hkey_inj : ∀ {i j : Nat}, i < 3 → j < 3 → i ≠ j → hkey i ≠ hkey j := by
  intro i j hi hj hn
  match i, j, hi, hj, hn with
  | 0, 0, _, _, n => exact absurd rfl n
  | 0, 1, _, _, _ => show ("ON" : Str) ≠ "OFF"; decide
  | 0, 2, _, _, _ => show ("ON" : Str) ≠ "Locked"; decide
  | 1, 0, _, _, _ => show ("OFF" : Str) ≠ "ON"; decide
  | 1, 1, _, _, n => exact absurd rfl n
  | 1, 2, _, _, _ => show ("OFF" : Str) ≠ "Locked"; decide
  | 2, 0, _, _, _ => show ("Locked" : Str) ≠ "ON"; decide
  | 2, 1, _, _, _ => show ("Locked" : Str) ≠ "OFF"; decide
  | 2, 2, _, _, n => exact absurd rfl n
theorem hkey_ne : ∀ {i : Nat}, i < 3 → hkey i ≠ "BaseState" ∧ hkey i ≠ "Order" ∧ hkey i ≠ "RBGroups" ∧ hkey i ≠ "Intent" := by
  intro i hi
  match i, hi with
  | 0, _ => show ("ON" : Str) ≠ "BaseState" ∧ ("ON" : Str) ≠ "Order" ∧ ("ON" : Str) ≠ "RBGroups" ∧ ("ON" : Str) ≠ "Intent"; decide
  | 1, _ => show ("OFF" : Str) ≠ "BaseState" ∧ ("OFF" : Str) ≠ "Order" ∧ ("OFF" : Str) ≠ "RBGroups" ∧ ("OFF" : Str) ≠ "Intent"; decide
  | 2, _ => show ("Locked" : Str) ≠ "BaseState" ∧ ("Locked" : Str) ≠ "Order" ∧ ("Locked" : Str) ≠ "RBGroups" ∧ ("Locked" : Str) ≠ "Intent"; decide
theorem HeadUp.skip {T : Told} {i : Nat} (x : HeadUp w h kvs T i) (e : T.list i = []) : HeadUp w h kvs T (i + 1) := by
  obtain ⟨a, b, p, q, r, s⟩ := x
  refine ⟨a, fun j hj => ?_, p, q, r, by omega⟩
  have := b j hj
  by_cases h1 : j < i
  · rw [Told.part_lt h1] at this; rw [Told.part_lt (by omega)]; exact this
  · rw [Told.part_ge h1] at this
    by_cases h2 : j < i + 1
    · rw [Told.part_lt h2, show j = i by omega, e, ← show j = i by omega]; exact this
    · rw [Told.part_ge h2]; exact this
theorem HeadUp.put {T : Told} {i : Nat} (x : HeadUp w h kvs T i) (hi : i < 3) (RV : RefsV w h v (T.list i)) : HeadUp w h (stored kvs (hkey i) v) T (i + 1) := by
  obtain ⟨a, b, p, q, r, s⟩ := x
  have sl := stored_len' kvs (hkey i) v
  obtain ⟨n1, n2, n3, n4⟩ := hkey_ne hi
  refine ⟨?_, fun j hj => ?_, ?_, ?_, ?_, by omega⟩
  · rw [valueAt_stored, if_neg n1]; exact a
  · by_cases h1 : j = i
    · subst h1
      rw [valueAt_stored, if_pos rfl, Told.part_lt (Nat.lt_succ_self _)]
      exact .inr ⟨v, rfl, RV⟩
    · rw [valueAt_stored, if_neg (hkey_inj hi hj (fun e => h1 e.symm))]
      have := b j hj
      by_cases h2 : j < i
      · rw [Told.part_lt h2] at this; rw [Told.part_lt (by omega)]; exact this
      · rw [Told.part_ge h2] at this; rw [Told.part_ge (by omega)]; exact this
  · rw [valueAt_stored, if_neg n2]; exact p
  · rw [valueAt_stored, if_neg n3]; exact q
  · rw [valueAt_stored, if_neg n4]; exact r

theorem HeadUp.zero0 {T : Told} (e : T.base = "") : HeadUp w h [] T 0 :=
  ⟨.inl ⟨rfl, if_pos e⟩, fun j hj => .inl ⟨rfl, Told.part_ge (Nat.not_lt_zero _)⟩, rfl, rfl, rfl, by decide⟩
theorem HeadUp.zero1 {T : Told} (e : ¬ T.base = "") (N : NameV w h v T.base) : HeadUp w h (stored [] "BaseState" v) T 0 := by
  refine ⟨.inr ⟨v, T.base, ?_, if_neg e, N⟩, fun j hj => .inl ⟨?_, Told.part_ge (Nat.not_lt_zero _)⟩, ?_, ?_, ?_, ?_⟩
  · rw [valueAt_stored, if_pos rfl]
  · rw [valueAt_stored, if_neg (fun e => (hkey_ne hj).1 e.symm)]; rfl
  · rw [valueAt_stored, if_neg (by decide)]; rfl
  · rw [valueAt_stored, if_neg (by decide)]; rfl
  · rw [valueAt_stored, if_neg (by decide)]; rfl
  · have := stored_len' ([] : List (Str × Value)) "BaseState" v; simpa using this
/-- the head, its rows told -/
def HeadR (w : World) (h : Heap) (kvs : List (Str × Value)) (T : Told) : Prop :=
  OptName w h (valueAt kvs "BaseState") (if T.base = "" then none else some T.base) ∧ (∀ j, j < 3 → OptL (RefV w) h (valueAt kvs (hkey j)) (T.list j)) ∧ valueAt kvs "Order" = none ∧ OptL (RefsV w) h (valueAt kvs "RBGroups") T.rows ∧ valueAt kvs "Intent" = none ∧ kvs.length ≤ 5
theorem HeadR.mono {T : Told} (x : HeadR w h kvs T) (s : Sub h h') : HeadR w h' kvs T :=
  let ⟨a, b, c, d, e⟩ := x; ⟨a.mono s, fun j hj => (b j hj).mono monoRef s, c, d.mono monoRefs s, e⟩
theorem HeadUp.rows0 {T : Told} (x : HeadUp w h kvs T 3) (e : T.rows = []) : HeadR w h kvs T := by
  obtain ⟨a, b, p, q, r, s⟩ := x
  exact ⟨a, fun j hj => by have := b j hj; rw [Told.part_lt hj] at this; exact this, p, .inl ⟨q, e⟩, r, by omega⟩
theorem HeadUp.rows1 {T : Told} (x : HeadUp w h kvs T 3) (RV : LV (RefsV w) h v T.rows) : HeadR w h (stored kvs "RBGroups" v) T := by
  obtain ⟨a, b, p, q, r, s⟩ := x
  have sl := stored_len' kvs "RBGroups" v
  refine ⟨?_, fun j hj => ?_, ?_, ?_, ?_, by omega⟩
  · rw [valueAt_stored, if_neg (by decide)]; exact a
  · rw [valueAt_stored, if_neg (fun e => (hkey_ne hj).2.2.1 e.symm)]; have := b j hj; rw [Told.part_lt hj] at this; exact this
  · rw [valueAt_stored, if_neg (by decide)]; exact p
  · rw [valueAt_stored, if_pos rfl]; exact .inr ⟨v, rfl, RV⟩
  · rw [valueAt_stored, if_neg (by decide)]; exact r
/-- the head, all told -/
def HeadW (w : World) (h : Heap) (kvs : List (Str × Value)) (T : Told) : Prop :=
  OptName w h (valueAt kvs "BaseState") (if T.base = "" then none else some T.base) ∧ (∀ j, j < 3 → OptL (RefV w) h (valueAt kvs (hkey j)) (T.list j)) ∧ valueAt kvs "Order" = none ∧ OptL (RefsV w) h (valueAt kvs "RBGroups") T.rows ∧ OptTold w h (valueAt kvs "Intent") T.words ∧ kvs.length ≤ 7
theorem HeadR.words0 {T : Told} (x : HeadR w h kvs T) (e : T.words = []) : HeadW w h kvs T :=
  let ⟨a, b, p, q, r, s⟩ := x; ⟨a, b, p, q, .inl ⟨r, e⟩, by omega⟩
theorem HeadR.words1 {T : Told} (x : HeadR w h kvs T) (ne : T.words ≠ []) (TV : ToldV w h v T.words) : HeadW w h (stored kvs "Intent" v) T := by
  obtain ⟨a, b, p, q, r, s⟩ := x
  have sl := stored_len' kvs "Intent" v
  refine ⟨?_, fun j hj => ?_, ?_, ?_, ?_, by omega⟩
  · rw [valueAt_stored, if_neg (by decide)]; exact a
  · rw [valueAt_stored, if_neg (fun e => (hkey_ne hj).2.2.2 e.symm)]; exact b j hj
  · rw [valueAt_stored, if_neg (by decide)]; exact p
  · rw [valueAt_stored, if_neg (by decide)]; exact q
  · rw [valueAt_stored, if_pos rfl]; exact .inr ⟨v, rfl, ne, TV⟩
theorem HeadW.mono {T : Told} (x : HeadW w h kvs T) (s : Sub h h') : HeadW w h' kvs T :=
  let ⟨a, b, p, q, r, t⟩ := x; ⟨a.mono s, fun j hj => (b j hj).mono monoRef s, p, q.mono monoRefs s, r.mono s, t⟩
theorem HeadW.head {T : Told} {d : Addr} (x : HeadW w h kvs T) (H : Ha h d (SD w d kvs)) : HeadV w h (.ref d) T.head := by
  obtain ⟨a, b, p, q, r, s⟩ := x
  exact ⟨d, kvs, rfl, H, a, b 0 (by decide), b 1 (by decide), q, b 2 (by decide), p, r, s⟩
/-- a statement that leaves the locals: its end, whichever way it went -/
theorem z_cutS {p : Sem Flow} (S : St w b f g m cm gl led h) (I : Heap → Led → Led → Prop)
    (h1 : wpAny (model PG w) A p (fun fl s' => fl = Flow.next ∧ ∃ g' gl' led' h' tk', s' = ⟨h', gs, dr, tk', os⟩ ∧ Gle f.e g g' ∧ St w b f g' m cm gl' led' h' ∧ I g' gl' led') (fun _ _ => False) ⟨h, gs, dr, tk, os⟩)
    (h2 : ∀ g' gl' led' h' tk', Gle f.e g g' → St w b f g' m cm gl' led' h' → I g' gl' led' → QF .next ⟨h', gs, dr, tk', os⟩) : wpAny (model PG w) A p QF E ⟨h, gs, dr, tk, os⟩ :=
  wpAny_mono h1 (fun fl s' ⟨e, g', gl', led', h', tk', e2, G, S', i⟩ => by subst e; subst e2; exact h2 _ _ _ _ _ G S' i) fun _ _ z => z.elim
theorem z_cutSQ {p : Sem Flow} (S : St w b f g m cm gl led h) (I : Heap → Led → Led → Prop)
    (h1 : let I' := I; ∀ Q' : Flow → Shared → Prop, (∀ g' gl' led' h' tk', Gle f.e g g' → St w b f g' m cm gl' led' h' → I' g' gl' led' → Q' .next ⟨h', gs, dr, tk', os⟩) → wpAny (model PG w) A p Q' (fun _ _ => False) ⟨h, gs, dr, tk, os⟩)
    (h2 : ∀ g' gl' led' h' tk', Gle f.e g g' → St w b f g' m cm gl' led' h' → I g' gl' led' → QF .next ⟨h', gs, dr, tk', os⟩) : wpAny (model PG w) A p QF E ⟨h, gs, dr, tk, os⟩ :=
  z_cutS S I (h1 _ fun _ _ _ _ _ G S i => ⟨rfl, _, _, _, _, _, rfl, G, S, i⟩) h2

end
section
variable {w : World} {b : Heap} {f : Fm} {g : Heap} {m cm : Str → Option Value} {gl gl' gp gr led led' : Led} {h h' X : Heap} {A : Around} {E : Value → Shared → Prop} {env : Env} {gs : Array GenState} {dr : Drawn} {tk : Nat} {os : OsState} {x y : Str} {pos px py spos : Pos} {v t c r : Value}
  {Q : Value → Shared → Prop} {QF : Flow → Shared → Prop} {QU : Unit → Shared → Prop} {a d dx C l ta tra : Addr} {P P' : Obj → Prop} {name : Str} {s : Shared} {e : Expr} {rest : List Expr} {its : List Value} {value slice : Expr} {tab : List (Int × Value)} {trl : List (Str × Value)} {kvs : List (Str × Value)} {D : Doc} {H : Head} {o : Option Value} {ns : List Int} {ws : List Str}

theorem drawn_spec {fa pa : Addr} {n M : Int} {tM : Tok} (S : St w b f g m cm ((pa, PLB n) :: gr) led h) (RM : Room 6 A) (T : TakeV w b g fa pa) (hn : n ≤ 300) (hM : M ≤ 5)
    (k : ∀ tp hv tv TD g' h' tk', Gle f.e g g' → St w b f g' m cm ((pa, PLB (n + 23)) :: gr) led h' → Ha g' tp (TO [hv, tv]) → TD.Ok M → HeadV w g' hv TD.head → ToldD w g' tv TD → Q (.ref tp) ⟨h', gs, dr, tk', os⟩) : wpAny (model PG w) A (call (.ref 522) [.ref fa, .int M tM] []) Q E ⟨h, gs, dr, tk, os⟩ := by
  have big : (10000 : Nat) ≤ sizeLine := by rw [sizeLine_eq]; decide
  refine wpAny_call ?_
  refine' z_enterCV (gp := [(pa, PLB n)]) (gr := gr) (binds := [("take", .ref fa), ("many", .int M tM)]) S RM ?k1 ?k2 ?k3 ?k4 ?k5 ?_ ?k6 ?k7 ?k8
  case k1 => k_is
  case k2 => k_is
  case k3 => exact BindsTo.of_eq rfl
  case k4 => rfl
  case k5 => decide
  case k6 => rfl
  case k7 => rfl
  case k8 => rfl
  intro L' h1 tk1 Q9 E9 A9 f9 m9 cm9 S1 RM1 hret9 hnext9 hE9
  repeat' (first | walk_at "Z" | walk_at "Zif")
  refine z_dictS S1 rfl rfl (by decide) (by decide) fun td h2 ntd S2 => ?_
  repeat' (first | walk_at "Z" | walk_at "Zif")
  rename_i lt h3 S3 nlt
  refine callWith_F (T.at S3.kg) ?_
  repeat' (first | walk_at "Z" | walk_at "Zif")
  refine ⟨T.at S3.kg, ?_⟩
  refine T.call (gr := []) (fun _ _ e => e) S3 (RM1.less (by decide)) (by omega) (by decide) fun v tv h4 tk4 v0 v1 S4 => ?_
  obtain ⟨base, bt, hb, hbm⟩ := pick4 (S4.ha (.head _)) v0 v1
  refine z_itemT (S4.ha (.head _)) v0 (by omega) hb (by show 4 < 2 ^ 62; decide) ?_
  repeat' (first | walk_at "Z" | walk_at "Zif")
  refine picked_spec (gr := []) S4 (RM1.less (by decide)) T (by omega) hM fun r1 on g5 h5 tk5 G5 S5 V1 R1 N1 => ?_
  repeat' (first | walk_at "Z" | walk_at "Zif")
  refine picked_spec (gr := []) S5 (RM1.less (by decide)) (T.mono G5.1) (by omega) hM fun r2 off g6 h6 tk6 G6 S6 V2 R2 N2 => ?_
  repeat' (first | walk_at "Z" | walk_at "Zif")
  obtain ⟨a1, vs1, rfl, L1, A1⟩ := id V1
  obtain ⟨a2, vs2, rfl, L2, A2⟩ := id V2
  refine z_dictEnd S6 (.there .here) rfl (by show ([("BaseState" : Str), "ON", "OFF"] : List Str).Nodup; decide) fun h7 S7 => ?_
  have S7' : St w b _ g6 _ _ _ [(lt, _), (td, SD w td [("BaseState", .str base bt), ("ON", .ref a1), ("OFF", .ref a2)])] h7 := S7
  clear S7
  repeat' (first | walk_at "Z" | walk_at "Zif")
  rename_i h8 S8
  refine z_comp (cl := [("take", L' + 1), ("many", L' + 1 + 1)]) rfl rfl (by decide) ?_ (fun _ => rfl)
  repeat' (first | walk_at "Z" | walk_at "Zif")
  have sg6 : Sub g g6 := fun a o e => G6.1 _ _ (G5.1 _ _ e)
  refine callWith_F (T.at fun a o e => S8.kg _ _ (sg6 _ _ e)) ?_
  repeat' (first | walk_at "Z" | walk_at "Zif")
  refine ⟨T.at fun a o e => S8.kg _ _ (sg6 _ _ e), ?_⟩
  refine T.call (gr := []) sg6 S8 (RM1.less (by decide)) (by omega) (by decide) fun v9 tv9 h9 tk9 v90 v91 S9 => ?_
  repeat' (first | walk_at "Z" | walk_at "Zif")
  refine z_range S9 fun r h10 tk10 t1 u1 w1 hr S10 sub10 => ?_
  obtain ⟨c, rfl⟩ : ∃ c : Nat, v9 = (c : Int) := ⟨v9.toNat, by omega⟩
  have rs := range_small (a := 0) (c := (c : Int)) (by omega) (by omega) (by omega)
  refine z_compR (n := c) S10 RM1.hh hr rs.1 (by rw [rs.2]; omega) (by omega) (by decide) rfl rfl (fun i ys g' gl => Sub g6 g' ∧ gl = [(pa, PLB (n + 1 + 4 + 4 + 1 + 4 * i))] ∧ ys.length = i ∧ ∃ nss, All2 (IntsV g') ys nss ∧ ∀ x ∈ nss, InR M x ∧ x.length ≤ 3) ⟨fun _ _ e => e, by simp, rfl, [], .nil, fun x hx => nomatch hx⟩ (fun i ys g gl q => Nat.le_of_eq q.2.2.1) (fun i ys g gl ⟨_, q, _⟩ => by rw [q]; rfl) (CompTurnQ.turn ?_) ?_
  · intro C i vv e' ys g₁ m₁ gl₁ h₁ tk₁ Qy9 Qn9 J9 hi hv hs hG f9 m9 S11 hy9 hz9 j9
    obtain ⟨sg, rfl, hyl, nss, hy, hin⟩ := j9
    have hc1 : e'.IsCell (L' + 1) (some (.ref fa)) := (S10.cellE (x := "take") (lookup_mem rfl) rfl).keeps hs
    have hc2 : e'.IsCell (L' + 1 + 1) (some (.int M tM)) := (S10.cellE (x := "many") (lookup_mem rfl) rfl).keeps hs
    refine tests_nil (if_t rfl ?_)
    repeat' (first | walk_at "Z" | walk_at "Zif")
    refine picked_spec (gr := []) S11 (RM1.less (by decide)) (T.mono fun a o e => sg _ _ (sg6 _ _ e)) (by omega) hM fun r1 ns1 g12 h12 tk12 G12 S12 V12 R12 N12 => ?_
    refine hy9.go S12 G12 ⟨fun a o e => G12.1 _ _ (sg _ _ e), by rw [show n + 1 + 4 + 4 + 1 + 4 * (i : Int) + 4 = n + 1 + 4 + 4 + 1 + 4 * ((i + 1 : Nat) : Int) by omega], by rw [List.length_append, hyl]; rfl, nss ++ [ns1], (hy.mono fun _ _ z => LV.mono monoI z G12.1).snoc V12, fun x hx => ?_⟩
    rcases List.mem_append.mp hx with hx | hx
    · exact hin x hx
    · rw [List.mem_singleton.mp hx]; exact ⟨R12, N12⟩
  · rintro W ys g11 gl11 h11 tk11 ⟨sg, rfl, hyl, nss, hy, hin⟩ G11 S11 nW _
    repeat' (first | walk_at "Z" | walk_at "Zif")
    refine z_setS S11 (.there (.there .here)) (fun h12 S12 => ?_) (by show 3 ≤ sizeLine; omega)
    repeat' (first | walk_at "Z" | walk_at "Zif")
    have S12' := S12.weakG (PLB.mono (n' := n + 18) (by omega))
    clear S12
    refine picked_spec (gr := []) S12' (RM1.less (by decide)) (T.mono fun a o e => sg _ _ (sg6 _ _ e)) (by omega) hM fun r3 lk g13 h13 tk13 G13 S13 V3 R3 N3 => ?_
    repeat' (first | walk_at "Z" | walk_at "Zif")
    refine z_setS S13 (.there (.there .here)) (fun h14 S14 => ?_) (by show 4 ≤ sizeLine; omega)
    repeat' (first | walk_at "Z" | walk_at "Zif")
    have sg13 : Sub g6 g13 := fun a o e => G13.1 _ _ (sg _ _ e)
    refine words_spec (gr := []) S14 (RM1.less (by decide)) (T.mono fun a o e => sg13 _ _ (sg6 _ _ e)) (by omega) fun r4 ws g15 h15 tk15 G15 S15 V4 N4 => ?_
    repeat' (first | walk_at "Z" | walk_at "Zif")
    refine z_setS S15 (.there (.there .here)) (fun h16 S16 => ?_) (by show 5 ≤ sizeLine; omega)
    obtain ⟨a3, vs3, rfl, L3, A3⟩ := id V3
    obtain ⟨a4, vs4, rfl, L4, A4⟩ := id V4
    have SX : St w b _ g15 _ _ [(pa, PLB (n + 18 + 4 + 1))] [(W, LO ys), (lt, _), (td, SD w td [("BaseState", .str base bt), ("ON", .ref a1), ("OFF", .ref a2), ("rows", .ref W), ("Locked", .ref a3), ("words", .ref a4)])] h16 := S16
    clear S16
    repeat' (first | walk_at "Z" | walk_at "Zif")
    refine z_newDict SX fun hd' h17 nhd S17 S17i => ?_
    clear S17i
    clear SX
    repeat' walk_at "Z"
    rename_i h18 S18
    let TKV : List (Str × Value) := [("BaseState", .str base bt), ("ON", .ref a1), ("OFF", .ref a2), ("rows", .ref W), ("Locked", .ref a3), ("words", .ref a4)]
    have SY0 := S18.sub (led' := [(hd', SD w hd' []), (W, LO ys), (td, SD w td TKV)]) (.cons₂ _ (.cons₂ _ (.cons _ (.cons₂ _ .slnil))))
    clear S18
    have SY := SY0.weakG (PLB.mono (n' := n + 23) (by omega))
    clear SY0
    let TD : Told := ⟨base, on, off, nss, lk, ws⟩
    have TL : ∀ i, i < 3 → (TD.list i).length ≤ 3 := Told.list_len N1 N2 N3
    have sgF : Sub g13 g15 := G15.1
    have IV1 : IntsV g15 (.ref a1) on := LV.mono monoI V1 fun a o e => sgF _ _ (sg13 _ _ (G6.1 _ _ e))
    have IV2 : IntsV g15 (.ref a2) off := LV.mono monoI V2 fun a o e => sgF _ _ (sg13 _ _ e)
    have IV3 : IntsV g15 (.ref a3) lk := LV.mono monoI V3 sgF
    have hyF : All2 (IntsV g15) ys nss := hy.mono fun _ _ z => LV.mono monoI z fun a o e => sgF _ _ (G13.1 _ _ e)
    refine z_cutSQ SY (fun g' gl' led' => gl' = [(pa, PLB (n + 23))] ∧ Sub g15 g' ∧ ∃ kvs, led' = [(hd', SD w hd' kvs), (W, LO ys), (td, SD w td TKV)] ∧ HeadUp w g' kvs TD 0) ?_ ?_
    · intro I9 Q9 hn9
      refine wpAny_If ?_
      repeat' (first | walk_at "Z" | walk_at "Zif")
      refine zz_itemA (kk := ("BaseState" : Str)) (SY.ha (.tail _ (.tail _ (.head _)))).sd (sis _ _) rfl ?_ (by with_unfolding_all rfl)
      repeat' (first | walk_at "Z" | walk_at "Zif")
      cases hbe : (base != Str.ofString "") with
      | false =>
        have hb0 : base = "" := by simpa using hbe
        repeat' (first | walk_at "Z" | walk_at "Zif")
        exact hn9 _ _ _ _ _ (Gle.refl _ _) SY ⟨rfl, fun _ _ e => e, [], rfl, HeadUp.zero0 hb0⟩
      | true =>
        have hb0 : ¬ base = "" := by simpa using hbe
        repeat' (first | walk_at "Z" | walk_at "Zif")
        refine zz_itemA (kk := ("BaseState" : Str)) (SY.ha (.tail _ (.tail _ (.head _)))).sd (sis _ _) rfl ?_ (by with_unfolding_all rfl)
        repeat' (first | walk_at "Z" | walk_at "Zif")
        refine new_Name SY (RM1.less (by decide)) fun xN xdN g16 h16 tk16 G16 S16 FN1 FN2 => ?_
        repeat' (first | walk_at "Z" | walk_at "Zif")
        refine z_setS S16 .here (fun h17 S17 => ?_) (by show 0 ≤ sizeLine; omega)
        repeat' (first | walk_at "Z" | walk_at "Zif")
        exact hn9 _ _ _ _ _ G16 S17 ⟨rfl, G16.1, _, rfl, HeadUp.zero1 hb0 ⟨_, _, _, rfl, FN1, FN2⟩⟩
    · rintro g16 gl16 led16 h16 tk16 G16 S16 ⟨rfl, sg16, kvs0, rfl, HU0⟩
      repeat' walk_at "Z"
      refine wpAny_For ?_
      repeat' walk_at "Z"
      rename_i tt h17 S17 ntt
      obtain ⟨g18, G18, FZ, S18⟩ := St.freeze (new := [(tt, _)]) (led := [(hd', SD w hd' kvs0), (W, LO ys), (td, SD w td TKV)]) S17
      have F0 := FZ _ (.head _)
      dsimp only at F0
      obtain ⟨ott, ett, _⟩ := id F0
      refine z_forTQ S18 RM1.hh (Ha.keeps F0 S18.kg) (S18.off_of_g ett)
        (fun i g₁ m₁ cm₁ gl₁ led₁ => gl₁ = [(pa, PLB (n + 23))] ∧ m₁ "told_of" = some (.ref td) ∧ m₁ "head" = some (.ref hd') ∧ Sub g15 g₁ ∧ ∃ kvs, led₁ = [(hd', SD w hd' kvs), (W, LO ys), (td, SD w td TKV)] ∧ HeadUp w g₁ kvs TD i) ⟨rfl, rfl, rfl, fun a o e => G18.1 _ _ (sg16 _ _ e), kvs0, rfl, HU0.mono G18.1⟩ ?_ ?_
      · intro i v e' g₁ m₁ cm₁ gl₁ led₁ h₁ tk₁ Q9 J9 hi hs hG f9 S19 hn9 hr9 hb9 j9
        obtain ⟨rfl, hm1, hm2, sg1, kvs, rfl, HU⟩ := j9
        obtain ⟨tkk, la, rfl, hi3, hla, IVa⟩ : ∃ tkk la, v = .str (hkey i) tkk ∧ i < 3 ∧ valueAt TKV (hkey i) = some (.ref la) ∧ IntsV g15 (.ref la) (TD.list i) := by
          match i, hi with
          | 0, hi => cases hi; exact ⟨_, _, rfl, by decide, rfl, IV1⟩
          | 1, hi => cases hi; exact ⟨_, _, rfl, by decide, rfl, IV2⟩
          | 2, hi => cases hi; exact ⟨_, _, rfl, by decide, rfl, IV3⟩
          | (j + 3), hi => simp at hi
        obtain ⟨_, lvs, ez, LA, AA⟩ := id IVa
        cases ez
        refine wpAny_assign_Name ?_
        repeat' (first | walk_at "Z" | walk_at "Zif")
        rename_i h20 S20
        refine zz_itemA (kk := hkey i) (S20.ha (.tail _ (.tail _ (.head _)))).sd (sis _ _) hla ?_ (by with_unfolding_all rfl)
        repeat' (first | walk_at "Z" | walk_at "Zif")
        rename_i lz h21 S21 nlz
        refine z_neNil RM1 (LA.keeps fun a o e => S21.kg _ _ (sg1 _ _ e)) (S21.ha (.head _)) ?_
        have lz' := AA.empty
        cases hlv : (TD.list i).isEmpty with
        | true =>
          rw [lz', hlv]
          repeat' (first | walk_at "Z" | walk_at "Zif")
          exact hn9.go (S21.sub (List.sublist_append_right [_] _)) (Gle.refl _ _) ⟨rfl, hm1, hm2, sg1, kvs, rfl, HU.skip (List.isEmpty_iff.mp hlv)⟩
        | false =>
          rw [lz', hlv]
          repeat' (first | walk_at "Z" | walk_at "Zif")
          refine zz_itemA (kk := hkey i) (S21.ha (.tail _ (.tail _ (.tail _ (.head _))))).sd (sis _ _) hla ?_ (by with_unfolding_all rfl)
          repeat' (first | walk_at "Z" | walk_at "Zif")
          refine refs_spec S21 (RM1.less (by decide)) (LA.keeps fun a o e => S21.kg _ _ (sg1 _ _ e)) AA (Nat.le_trans (TL i hi3) (by decide)) fun r g22 h22 tk22 G22 S22 RV => ?_
          repeat' (first | walk_at "Z" | walk_at "Zif")
          refine z_setS S22 (.there .here) (fun h23 S23 => ?_) (by have := HU.2.2.2.2.2; omega)
          repeat' (first | walk_at "Z" | walk_at "Zif")
          exact hn9.go (S23.sub (List.sublist_append_right [_] _)) G22 ⟨rfl, hm1, hm2, fun a o e => G22.1 _ _ (sg1 _ _ e), _, rfl, (HU.mono G22.1).put hi3 RV⟩
      · rintro g₁ m₁ cm₁ gl₁ led₁ h₁ tk₁ ⟨rfl, hm1, hm2, sg1, kvs, rfl, HU⟩ hG S19
        repeat' walk_at "Z"
        have S19' : St w b _ g₁ m₁ cm₁ [(pa, PLB (n + 23))] [(hd', SD w hd' kvs), (W, LO ys), (td, SD w td TKV)] h₁ := S19
        have HU3 : HeadUp w g₁ kvs TD 3 := HU
        clear S19 HU
        have hyG : All2 (IntsV g₁) ys nss := hyF.mono fun _ _ z => LV.mono monoI z sg1
        have hlnss : nss.length ≤ 2 := by rw [← hyF.length, hyl]; omega
        refine z_cutSQ S19' (fun g' gl' led' => gl' = [(pa, PLB (n + 23))] ∧ Sub g₁ g' ∧ ∃ kvs, led' = [(hd', SD w hd' kvs), (W, LO ys), (td, SD w td TKV)] ∧ HeadR w g' kvs TD) ?_ ?_
        · intro I9 Q9 hn9
          refine wpAny_If ?_
          repeat' (first | walk_at "Z" | walk_at "Zif")
          refine zz_itemA (kk := ("rows" : Str)) (S19'.ha (.tail _ (.tail _ (.head _)))).sd (sis _ _) rfl ?_ (by with_unfolding_all rfl)
          repeat' (first | walk_at "Z" | walk_at "Zif")
          rename_i lz h20 S20 nlz
          refine z_neNil RM1 (S20.ha (.tail _ (.tail _ (.head _)))) (S20.ha (.head _)) ?_
          have rz := hyG.empty
          cases hrv : nss.isEmpty with
          | true =>
            rw [rz, hrv]
            repeat' (first | walk_at "Z" | walk_at "Zif")
            exact hn9 _ _ _ _ _ (Gle.refl _ _) (S20.sub (List.sublist_append_right [_] _)) ⟨rfl, fun _ _ e => e, kvs, rfl, HU3.rows0 (List.isEmpty_iff.mp hrv)⟩
          | false =>
            rw [rz, hrv]
            repeat' (first | walk_at "Z" | walk_at "Zif")
            refine z_comp (cl := []) rfl rfl (by decide) ?_ (fun _ => rfl)
            repeat' (first | walk_at "Z" | walk_at "Zif")
            refine zz_itemA (kk := ("rows" : Str)) (S20.ha (.tail _ (.tail _ (.tail _ (.head _))))).sd (sis _ _) rfl ?_ (by with_unfolding_all rfl)
            have WH := S20.ha (.tail _ (.tail _ (.head _)))
            have wne : ∀ p ∈ [(pa, PLB (n + 23))], p.1 ≠ W := fun p hp q => by
              have nd := S20.nd
              rw [List.mem_singleton.mp hp] at q
              simp only [List.singleton_append, List.map_cons, List.nodup_cons] at nd
              exact nd.1 (by rw [show pa = W from q]; simp)
            refine z_compL S20 RM1.hh WH wne (by have := hyG.length; omega) (by decide) rfl rfl (fun i zs g gl => Sub g₁ g ∧ gl = [(pa, PLB (n + 23))] ∧ zs.length ≤ i ∧ All2 (RefsV w g) zs (nss.take i)) ⟨fun _ _ e => e, rfl, Nat.le_refl _, .nil⟩ (fun i ys g gl q => q.2.2.1) (fun i ys g gl ⟨_, q, _⟩ => by rw [q]) (CompTurnQ.turn ?_) ?_
            · intro C i v e'' zs g₂ m₂ gl₂ h₂ tk₂ Qy9 Qn9 J9 hi hv hs2 hG2 f9 m9 S21 hy9 hz9 j9
              obtain ⟨sg2, rfl, hzl, hz⟩ := j9
              obtain ⟨row, hrow, RW⟩ := hyG.get hv
              obtain ⟨lr, rvs, rfl, LR, RA⟩ := id RW
              refine tests_nil (if_t rfl ?_)
              repeat' (first | walk_at "Z" | walk_at "Zif")
              refine refs_spec S21 (RM1.less (by decide)) (LR.keeps fun a o e => S21.kg _ _ (sg2 _ _ e)) RA (by have := (hin row (List.mem_of_getElem? hrow)).2; omega) fun r g22 h22 tk22 G22 S22 RV => ?_
              exact hy9.go S22 G22 ⟨fun a o e => G22.1 _ _ (sg2 _ _ e), rfl, by simp; omega, by rw [take_snoc hrow]; exact (hz.mono fun _ _ z => z.mono monoRef G22.1).snoc RV⟩
            · rintro W2 zs g21 gl21 h21 tk21 ⟨sg2, rfl, hzl, hz⟩ G21 S21 nW2 _
              rw [hyG.length, List.take_length] at hz
              repeat' (first | walk_at "Z" | walk_at "Zif")
              obtain ⟨g22, G22, FZ2, S22⟩ := St.freeze (new := [(W2, LO zs)]) (led := [(lz, LO []), (hd', SD w hd' kvs), (W, LO ys), (td, SD w td TKV)]) S21
              have FW2 : Ha g22 W2 (LO zs) := FZ2 _ (.head _)
              have sgA : Sub g₁ g22 := fun a o e => G22.1 _ _ (sg2 _ _ e)
              refine z_setS S22 (.there .here) (fun h23 S23 => ?_) (by have := HU3.2.2.2.2.2; omega)
              repeat' (first | walk_at "Z" | walk_at "Zif")
              exact hn9 _ _ _ _ _ (G21.trans G22) (S23.sub (List.sublist_append_right [_] _)) ⟨rfl, sgA, _, rfl, (HU3.mono sgA).rows1 ⟨_, _, rfl, FW2, hz.mono fun _ _ z => z.mono monoRef G22.1⟩⟩
        · rintro g20 gl20 led20 h20 tk20 G20 S20 ⟨rfl, sg20, kvs1, rfl, HR⟩
          repeat' walk_at "Z"
          have sg20' : Sub g15 g20 := fun a o e => sg20 _ _ (sg1 _ _ e)
          have V4' : StrsV g20 (.ref a4) ws := LV.mono monoS ⟨_, _, rfl, L4, A4⟩ sg20'
          refine z_cutSQ S20 (fun g' gl' led' => gl' = [(pa, PLB (n + 23))] ∧ Sub g20 g' ∧ ∃ kvs, led' = [(hd', SD w hd' kvs), (W, LO ys), (td, SD w td TKV)] ∧ HeadW w g' kvs TD) ?_ ?_
          · intro I9 Q9 hn9
            refine wpAny_If ?_
            repeat' (first | walk_at "Z" | walk_at "Zif")
            refine zz_itemA (kk := ("words" : Str)) (S20.ha (.tail _ (.tail _ (.head _)))).sd (sis _ _) rfl ?_ (by with_unfolding_all rfl)
            repeat' (first | walk_at "Z" | walk_at "Zif")
            rename_i lz h21 S21 nlz
            refine z_neNil RM1 (L4.keeps fun a o e => S21.kg _ _ (sg20' _ _ e)) (S21.ha (.head _)) ?_
            have wz := A4.empty
            cases hwv : ws.isEmpty with
            | true =>
              rw [wz, hwv]
              repeat' (first | walk_at "Z" | walk_at "Zif")
              exact hn9 _ _ _ _ _ (Gle.refl _ _) (S21.sub (List.sublist_append_right [_] _)) ⟨rfl, fun _ _ e => e, kvs1, rfl, HR.words0 (List.isEmpty_iff.mp hwv)⟩
            | false =>
              rw [wz, hwv]
              repeat' (first | walk_at "Z" | walk_at "Zif")
              refine zz_itemA (kk := ("words" : Str)) (S21.ha (.tail _ (.tail _ (.tail _ (.head _))))).sd (sis _ _) rfl ?_ (by with_unfolding_all rfl)
              repeat' (first | walk_at "Z" | walk_at "Zif")
              refine told_spec S21 (RM1.less (by decide)) (LV.mono monoS V4' S21.kg) (by omega) fun r g22 h22 tk22 G22 S22 TV => ?_
              repeat' (first | walk_at "Z" | walk_at "Zif")
              refine z_setS S22 (.there .here) (fun h23 S23 => ?_) (by have := HR.2.2.2.2.2; omega)
              repeat' (first | walk_at "Z" | walk_at "Zif")
              have nw : TD.words ≠ [] := by
                intro e
                have e' : ws = [] := e
                rw [e'] at hwv
                cases hwv
              exact hn9 _ _ _ _ _ G22 (S23.sub (List.sublist_append_right [_] _)) ⟨rfl, G22.1, _, rfl, (HR.mono G22.1).words1 nw TV⟩
          · rintro g21 gl21 led21 h21 tk21 G21 S21 ⟨rfl, sg21, kvs2, rfl, HW⟩
            repeat' (first | walk_at "Z" | walk_at "Zif")
            rename_i tp h22 S22 ntp
            obtain ⟨g', G', s', S23, FZ, sh⟩ := St.done (gp := [(pa, PLB n)]) (gr := gr) S S22 ((((((((G5.trans G6).trans G11).trans G13).trans G15).trans G16).trans G18).trans hG).trans (G20.trans G21))
            have sgZ : Sub g₁ g' := fun a o e => s' _ _ (sg21 _ _ (sg20 _ _ e))
            have sgY : Sub g15 g' := fun a o e => sgZ _ _ (sg1 _ _ e)
            refine k _ _ _ TD _ _ _ G' S23 (FZ (.head _)) ?_ ((HW.mono s').head (FZ (.tail _ (.head _)))) ⟨td, bt, a1, a2, W, a3, a4, rfl, FZ (.tail _ (.tail _ (.tail _ (.head _)))), ?_, ?_, ?_, ?_, ?_⟩
            · exact ⟨hbm, R1, R2, R3, fun r hr => (hin r hr).1, N1, N2, N3, hlnss, fun r hr => (hin r hr).2, N4⟩
            · exact LV.mono monoI IV1 sgY
            · exact LV.mono monoI IV2 sgY
            · exact ⟨_, _, rfl, FZ (.tail _ (.tail _ (.head _))), hyG.mono fun _ _ z => LV.mono monoI z sgZ⟩
            · exact LV.mono monoI IV3 sgY
            · exact LV.mono monoS V4' fun a o e => s' _ _ (sg21 _ _ e)

end
section
variable {w : World} {b : Heap} {f : Fm} {g : Heap} {m cm : Str → Option Value} {gl gl' gp gr led led' : Led} {h h' X : Heap} {A : Around} {E : Value → Shared → Prop} {env : Env} {gs : Array GenState} {dr : Drawn} {tk : Nat} {os : OsState} {x y : Str} {pos px py spos : Pos} {v t c r : Value}
  {Q : Value → Shared → Prop} {QF : Flow → Shared → Prop} {QU : Unit → Shared → Prop} {a d dx C l ta tra : Addr} {P P' : Obj → Prop} {name : Str} {s : Shared} {e : Expr} {rest : List Expr} {its : List Value} {value slice : Expr} {tab : List (Int × Value)} {trl : List (Str × Value)} {kvs : List (Str × Value)} {D : Doc} {H : Head} {o : Option Value} {ns : List Int} {ws : List Str}

theorem z_cutV {M : Model} {p : Sem Value} (I : Value → Shared → Prop) (h1 : wpAny M A p I (fun _ _ => False) s) (h2 : ∀ v s', I v s' → Q v s') : wpAny M A p Q E s :=
  wpAny_mono h1 h2 fun _ _ z => z.elim
def keptB (bef : Option BS) (n : Int) : Bool := match bef with
  | some st => (getB st n).getD true
  | none => true
def lawB (base : Str) (bef : Option BS) (n : Int) : Bool := if base = "OFF" then false else if base = "Unchanged" then keptB bef n else true
def lawOn (T : Told) (st : BS) (n : Int) : BS := if n ∈ T.on then putB st n true else st
def lawOff (T : Told) (st : BS) (n : Int) : BS := if n ∈ T.off then putB st n false else st
def lawStep (T : Told) (bef : Option BS) (st : BS) (n : Int) : BS := lawOff T (lawOn T (putB st n (lawB T.base bef n)) n) n
def lawStart (ns : List Int) (T : Told) (bef : Option BS) : BS := ns.foldl (lawStep T bef) []
theorem hasB_put (st : BS) (n : Int) (v : Bool) : hasB (putB st n v) n = true := by
  unfold putB
  split
  · rename_i h
    unfold hasB at h ⊢
    rw [List.any_eq_true] at h ⊢
    obtain ⟨p, hp, e⟩ := h
    have e' := of_decide_eq_true e
    exact ⟨(p.1, v), List.mem_map.mpr ⟨p, hp, by rw [if_pos e']⟩, by simpa using e'⟩
  · unfold hasB
    rw [List.any_append]
    simp
theorem lawStep_len (T : Told) (bef : Option BS) (st : BS) (n : Int) : (lawStep T bef st n).length ≤ st.length + 1 := by
  unfold lawStep
  have h0 := hasB_put st n (lawB T.base bef n)
  have l0 := putB_len st n (lawB T.base bef n)
  have h1 : hasB (lawOn T (putB st n (lawB T.base bef n)) n) n = true := by
    unfold lawOn; split
    · exact hasB_put _ _ _
    · exact h0
  have l1 : (lawOn T (putB st n (lawB T.base bef n)) n).length ≤ st.length + 1 := by
    unfold lawOn; split
    · rw [putB_has h0]; exact l0
    · exact l0
  unfold lawOff; split
  · rw [putB_has h1]; exact l1
  · exact l1
theorem lawFold_len (T : Told) (bef : Option BS) (l : List Int) (acc : BS) : (l.foldl (lawStep T bef) acc).length ≤ acc.length + l.length := by
  induction l generalizing acc with
  | nil => simp
  | cons x xs ih => rw [List.foldl_cons, List.length_cons]; have := ih (lawStep T bef acc x); have := lawStep_len T bef acc x; omega
theorem lawb_spec {nv tv bv : Value} {TD : Told} {bef : Option BS} (S : St w b f g m cm gl led h) (RM : Room 3 A) (sX : Sub X h) (NV : IntsV X nv ns) (TV : ToldD w X tv TD) (BV : BefV w X bv bef) (hlen : ns.length ≤ 100)
    (k : ∀ r g' h' tk', Gle f.e g g' → St w b f g' m cm gl led h' → StV w g' r (lawStart ns TD bef) → Q r ⟨h', gs, dr, tk', os⟩) : wpAny (model PG w) A (call (.ref 529) [nv, tv, bv] []) Q E ⟨h, gs, dr, tk, os⟩ := by
  have big : (10000 : Nat) ≤ sizeLine := by rw [sizeLine_eq]; decide
  have bl : ∀ (st' : BS), st'.length ≤ 102 → (encB st').length ≤ sizeLine := fun st' q => by unfold encB; rw [List.length_map]; omega
  obtain ⟨td, t0, v1, v2, v3, v4, v5, rfl, TH, q1, q2, q3, q4, q5⟩ := TV
  obtain ⟨ln, nvs, rfl, LN, NA⟩ := id NV
  refine wpAny_call ?_
  refine' z_enterV (gp := []) (gr := gl) (binds := [("numbers", .ref ln), ("told_of", .ref td), ("before", bv)]) S RM ?k1 ?k2 ?k3 ?k4 ?_ ?k5 ?k6 ?k7 ?k8
  case k1 => k_is
  case k2 => k_is
  case k3 => exact BindsTo.of_eq rfl
  case k4 => exact locs rfl
  case k5 => decide
  case k6 => rfl
  case k7 => rfl
  case k8 => rfl
  intro L' h1 Q9 E9 A9 f9 m9 S1 RM1 hret9 hnext9 hE9
  have sx : Sub X h1 := fun a o e => S1.ke _ _ (sX _ _ e)
  repeat' (first | walk_at "Z" | walk_at "Zif")
  refine z_newDict S1 fun d h2 nd _ S2 => ?_
  repeat' (first | walk_at "Z" | walk_at "Zif")
  rename_i h3 S3
  have sx3 : Sub X h3 := fun a o e => S3.ke _ _ (sX _ _ e)
  refine wpAny_For ?_
  repeat' (first | walk_at "Z" | walk_at "Zif")
  obtain ⟨oln, eln, _⟩ := id LN
  refine z_forLQ S3 RM1.hh (LN.keeps sx3) (S3.off_of_e (o := oln) (sX _ _ eln)) rfl rfl rfl
    (fun i g₁ m₁ cm₁ gl₁ led₁ => g = g₁ ∧ gl₁ = [] ∧ m₁ "told_of" = some (.ref td) ∧ m₁ "before" = some bv ∧ m₁ "states" = some (.ref d) ∧ led₁ = [(d, ID w d (encB ((ns.take i).foldl (lawStep TD bef) [])))]) ⟨rfl, rfl, rfl, rfl, rfl, rfl⟩ ?_ ?_
  · intro i v e' g₁ m₁ cm₁ gl₁ led₁ h₁ tk₁ Q9 J9 hi hs hG f9 m9 S4 hn9 hr9 hb9 j9
    obtain ⟨rfl, rfl, hm1, hm2, hm3, rfl⟩ := j9
    obtain ⟨n, hn, t, rfl⟩ := NA.get hi
    have sx4 : Sub X h₁ := fun a o e => S4.ke _ _ (hs _ _ (sX _ _ e))
    have stp : lawStep TD bef ((ns.take i).foldl (lawStep TD bef) []) n = (ns.take (i + 1)).foldl (lawStep TD bef) [] := by
      rw [take_snoc hn, List.foldl_append]; rfl
    have l0 : ((ns.take i).foldl (lawStep TD bef) []).length ≤ 100 := by
      have := lawFold_len TD bef (ns.take i) []
      have : (ns.take i).length ≤ ns.length := by rw [List.length_take]; omega
      simp at *
      omega
    generalize (ns.take i).foldl (lawStep TD bef) [] = st at *
    refine wpAny_execs_cons ?_
    refine wpAny_Assign_Name ?_
    refine z_cutV (fun v s' => ∃ tk', v = .bool (keptB bef n) ∧ s' = ⟨h₁, gs, dr, tk', os⟩) ?_ ?_
    · repeat' (first | walk_at "Z" | walk_at "Zif")
      rcases BV with ⟨rfl, rfl⟩ | ⟨bst, rfl, bd, rfl, BD⟩
      · repeat' (first | walk_at "Z" | walk_at "Zif")
        exact ⟨_, rfl, rfl⟩
      · repeat' (first | walk_at "Z" | walk_at "Zif")
        refine zz_getM (BD.keeps sx4).id ?_
        repeat' (first | walk_at "Z" | walk_at "Zif")
        refine zz_get2 (kk := n) (BD.keeps sx4).id BD.idn (iis _ _) ?_
        rw [valueAt_enc, (by cases getB bst n <;> rfl : ((getB bst n).map Value.bool).getD (.bool true) = .bool ((getB bst n).getD true))]
        repeat' (first | walk_at "Z" | walk_at "Zif")
        exact ⟨_, rfl, rfl⟩
    · rintro vk s' ⟨tk9, rfl, rfl⟩
      repeat' (first | walk_at "Z" | walk_at "Zif")
      rename_i h5 S5
      refine z_dictS S5 rfl rfl (by decide) (by decide) fun dd h6 ndd S6 => ?_
      repeat' (first | walk_at "Z" | walk_at "Zif")
      refine z_dictEnd S6 .here rfl (by show ([("OFF" : Str), "Unchanged"] : List Str).Nodup; decide) fun h7 S7 => ?_
      have S7' : St w b _ g _ _ _ [(dd, SD w dd [("OFF", .bool false), ("Unchanged", .bool (keptB bef n))]), (d, ID w d (encB st))] h7 := S7
      clear S7
      have sx7 : Sub X h7 := fun a o e => S7'.ke _ _ (hs _ _ (sX _ _ e))
      refine zz_getM (S7'.ha (.head _)).sd ?_
      repeat' (first | walk_at "Z" | walk_at "Zif")
      refine zz_itemA (kk := ("BaseState" : Str)) (TH.keeps sx7).sd (sis _ _) rfl ?_ (by with_unfolding_all rfl)
      repeat' (first | walk_at "Z" | walk_at "Zif")
      refine zz_get2 (kk := TD.base) (S7'.ha (.head _)).sd (S7'.ha (.head _)).sdn (sis _ _) ?_
      have ev : (valueAt ([("OFF", .bool false), ("Unchanged", .bool (keptB bef n))] : List (Str × Value)) TD.base).getD (.bool true) = .bool (lawB TD.base bef n) := by
        rw [valueAt_cons, valueAt_cons]
        unfold lawB
        by_cases h1 : TD.base = "OFF"
        · rw [if_pos h1.symm, if_pos h1]; rfl
        · rw [if_neg (fun e => h1 e.symm), if_neg h1]
          by_cases h2 : TD.base = "Unchanged"
          · rw [if_pos h2.symm, if_pos h2]; rfl
          · rw [if_neg (fun e => h2 e.symm), if_neg h2]; rfl
      rw [ev]
      repeat' (first | walk_at "Z" | walk_at "Zif")
      refine z_setI S7' (.there .here) (fun h8 S8 => ?_) (bl _ (by omega))
      rw [stored_enc] at S8
      have hb0 := hasB_put st n (lawB TD.base bef n)
      have lb0 := putB_len st n (lawB TD.base bef n)
      have stp' : lawOff TD (lawOn TD (putB st n (lawB TD.base bef n)) n) n = (ns.take (i + 1)).foldl (lawStep TD bef) [] := stp
      generalize putB st n (lawB TD.base bef n) = s1 at *
      have sx8 : Sub X h8 := fun a o e => S8.ke _ _ (hs _ _ (sX _ _ e))
      have b1 : hasB (lawOn TD s1 n) n = true := by
        unfold lawOn; split
        · exact hasB_put _ _ _
        · exact hb0
      have l1 : (lawOn TD s1 n).length ≤ 101 := by
        unfold lawOn; split
        · rw [putB_has hb0]; omega
        · omega
      repeat' walk_at "Z"
      refine z_cutSQ S8 (fun g' gl' led' => g = g' ∧ gl' = [] ∧ led' = [(dd, SD w dd [("OFF", .bool false), ("Unchanged", .bool (keptB bef n))]), (d, ID w d (encB (lawOn TD s1 n)))]) ?_ ?_
      · intro I9 Q9 hn9
        refine wpAny_If ?_
        repeat' (first | walk_at "Z" | walk_at "Zif")
        refine zz_itemA (kk := ("ON" : Str)) (TH.keeps sx8).sd (sis _ _) rfl ?_ (by with_unfolding_all rfl)
        repeat' (first | walk_at "Z" | walk_at "Zif")
        refine z_inI RM1 (LV.mono monoI q1 sx8) ?_
        by_cases hin : n ∈ TD.on
        · rw [decide_eq_true hin]
          repeat' (first | walk_at "Z" | walk_at "Zif")
          refine z_setI S8 (.there .here) (fun h9 S9 => ?_) (bl _ (by omega))
          rw [stored_enc] at S9
          repeat' (first | walk_at "Z" | walk_at "Zif")
          exact hn9 _ _ _ _ _ (Gle.refl _ _) S9 ⟨rfl, rfl, by unfold lawOn; rw [if_pos hin]⟩
        · rw [decide_eq_false hin]
          repeat' (first | walk_at "Z" | walk_at "Zif")
          exact hn9 _ _ _ _ _ (Gle.refl _ _) S8 ⟨rfl, rfl, by unfold lawOn; rw [if_neg hin]⟩
      · rintro g9 gl9 led9 h9 tk9 G9 S9 ⟨rfl, rfl, rfl⟩
        generalize lawOn TD s1 n = s2 at *
        have sx9 : Sub X h9 := fun a o e => S9.ke _ _ (hs _ _ (sX _ _ e))
        repeat' (first | walk_at "Z" | walk_at "Zif")
        refine zz_itemA (kk := ("OFF" : Str)) (TH.keeps sx9).sd (sis _ _) rfl ?_ (by with_unfolding_all rfl)
        repeat' (first | walk_at "Z" | walk_at "Zif")
        refine z_inI RM1 (LV.mono monoI q2 sx9) ?_
        by_cases hin : n ∈ TD.off
        · rw [decide_eq_true hin]
          repeat' (first | walk_at "Z" | walk_at "Zif")
          refine z_setI S9 (.there .here) (fun h10 S10 => ?_) (bl _ (by omega))
          rw [stored_enc] at S10
          repeat' (first | walk_at "Z" | walk_at "Zif")
          exact hn9.go (S10.sub (List.sublist_append_right [_] _)) (Gle.refl _ _) ⟨rfl, rfl, hm1, hm2, hm3, by rw [← stp']; unfold lawOff; rw [if_pos hin]⟩
        · rw [decide_eq_false hin]
          repeat' (first | walk_at "Z" | walk_at "Zif")
          exact hn9.go (S9.sub (List.sublist_append_right [_] _)) (Gle.refl _ _) ⟨rfl, rfl, hm1, hm2, hm3, by rw [← stp']; unfold lawOff; rw [if_neg hin]⟩
  · rintro g₁ m₁ cm₁ gl₁ led₁ h₁ tk₁ ⟨rfl, rfl, hm1, hm2, hm3, rfl⟩ hG S4
    rw [NA.length, List.take_length] at S4
    repeat' (first | walk_at "Z" | walk_at "Zif")
    obtain ⟨g', G', s', S12, FZ, sh⟩ := S.done (gp := []) (gr := gl) S4 hG
    exact k _ _ _ _ G' S12 ⟨_, rfl, FZ (.head _)⟩

end
section
variable {w : World} {b : Heap} {f : Fm} {g : Heap} {m cm : Str → Option Value} {gl gl' gp gr led led' : Led} {h h' X : Heap} {A : Around} {E : Value → Shared → Prop} {env : Env} {gs : Array GenState} {dr : Drawn} {tk : Nat} {os : OsState} {x y : Str} {pos px py spos : Pos} {v t c r : Value}
  {Q : Value → Shared → Prop} {QF : Flow → Shared → Prop} {QU : Unit → Shared → Prop} {a d dx C l ta tra : Addr} {P P' : Obj → Prop} {name : Str} {s : Shared} {e : Expr} {rest : List Expr} {its : List Value} {value slice : Expr} {tab : List (Int × Value)} {trl : List (Str × Value)} {kvs : List (Str × Value)} {D : Doc} {H : Head} {o : Option Value} {ns : List Int} {ws : List Str}

abbrev bmX : List Value := [.ref 46, .type "Exception", .type "BaseException", .type "object"]
section exc
variable {nm q : Str} {N : Addr} {bs : List Value} {hdct : Bool} {sn : List Str} {sub : List Value} {ab : Bool} {col : Option Bool} {dd : Option Addr} {k0 k1 k2 k3 k5 : Option Value}
theorem exc_new {R : Result → Shared → Prop} {rest : List Value} (hC : h.get? 59 = some (excClassObj nm q 59 N bs bmX hdct sn sub ab col dd k0 k1 k2 k3 k5 "Exception.__new__"))
    (hq : R (.ok (.ret (.ref (h.objs.size + 1)))) ⟨(h.push { cls := .type "tuple", data := .seq rest.toArray }).push
      { cls := .ref 59, data := .fields #[.ref h.objs.size, .none, .none, .none, .bool false, .none] }, gs, dr, tk, os⟩) (hrest : rest.length ≤ sizeLine := by size_fits) :
    codeAny (model PG w) A (.builtin "Exception.__new__" ⟨.ref 59 :: rest, []⟩) R ⟨h, gs, dr, tk, os⟩ := by
  have Fn := PySem.F.excBase_Exception
  have hends := Fn.ends
  have hcB : (Value.ref 59 :: bmX).contains (.type "Exception") = true := by decide
  have hcA : (Value.ref 59 :: bmX).contains (.type "AttributeError") = false := by decide
  have hcN : (Value.ref 59 :: bmX).contains (.type "NameError") = false := by decide
  refine codeAny_builtinAt Fn.entry ?_
  unfold Builtin.«BaseException.__new__»
  refine _root_.PySem.wpAt_bind ?_
  show _root_.PySem.wpAt _ _ _ (stack >>= _) _ _ _
  refine _root_.PySem.wpAt_bind (_root_.PySem.wpAt_stack fun p below => _root_.PySem.wpAt_of_wpAny ?_)
  wp_walk
  refine _root_.PySem.wpAt_of_wpAny ?_
  rw [Fn.owner]
  repeat (first | with_reducible refine wpAny_madeHere_exc Fn.canon hC ?_ | with_reducible refine wpAny_loadPart_at hC ?_ | (with_reducible refine wpAny_isSubtype_exc hC ?_; first | rw [hcB] | rw [hcA] | rw [hcN]) | wp_step)
  show R _ _
  rw [Heap.size_push]
  exact hq
theorem exc_typeCall {rest : List Value} {QF' : Fin → Shared → Prop} (hC : h.get? 59 = some (excClassObj nm q 59 N bs bmX hdct sn sub ab col dd k0 k1 k2 k3 k5 "Exception.__new__")) (K : (hd.heap_39 w.params).In h) (hi : findIn (hd.heap_39 w.params) (.ref 59) "__init__" = some (some (.ref 36))) (hf : isFn (hd.heap_39 w.params) (.ref 36) = true)
    (hq : ∀ h' e, Heap.MadeExcOf h h' e (.ref 59) rest → h' = (h.push { cls := .type "tuple", data := .seq rest.toArray }).push { cls := .ref 59, data := .fields #[.ref h.objs.size, .none, .none, .none, .bool false, .none] } → e = h.objs.size + 1 →
      wpAny (model PG w) A (call (.ref 36) (.ref e :: rest)) (fun r s' => r = .none ∧ QF' (.done (.ret (.ref e))) s') E ⟨h', gs, dr, tk, os⟩) (hrest : rest.length ≤ sizeLine := by size_fits) :
    wpAny (model PG w) A (Builtin.«type.__call__» ⟨.ref 59 :: rest, []⟩) QF' E ⟨h, gs, dr, tk, os⟩ := by
  have Fn := PySem.F.excBase_Exception
  repeat (first | with_reducible refine wpAny_loadPart_at hC ?_ | with_reducible refine wpAny_madeBy_exc hC ?_ | wp_step)
  refine codeAny_call_builtin_code (Code.quiet_builtin _ Fn.quiet) (wpAny_check_new_subU Fn (bmB := bmX) (by decide) .base hC ?_)
  refine exc_new hC ?_ hrest
  show wpAny _ _ _ _ _ _
  have kp : ∀ b o, h.get? b = some o → ((h.push { cls := .type "tuple", data := .seq rest.toArray }).push { cls := .ref 59, data := .fields #[.ref h.objs.size, .none, .none, .none, .bool false, .none] }).get? b = some o := fun b o e => Heap.get?_push_of_some _ (Heap.get?_push_of_some _ e)
  have hC₁ := kp _ _ hC
  have K₁ := K.keeps kp
  have hget : ((h.push { cls := .type "tuple", data := .seq rest.toArray }).push
      { cls := .ref 59, data := .fields #[.ref h.objs.size, .none, .none, .none, .bool false, .none] }).get? (h.objs.size + 1) = some
      { cls := .ref 59, data := .fields #[.ref h.objs.size, .none, .none, .none, .bool false, .none] } := by heap_get
  have hcC : (Value.ref 59 :: bmX).contains (.ref 59) = true := by decide
  unfold isInstance
  repeat (first | with_reducible refine wpAny_loadPart_at hget ?_ | (with_reducible refine wpAny_isSubtype_exc hC₁ ?_; rw [hcC]) | wp_step)
  show wpAny _ _ (typeLookup (.ref 59) _) _ _ _
  refine (looks_findIn K₁ hi).here ?_
  refine wpAny_holding (wpAny_bind ((bind_fn K₁ _ (beq_iff_eq.mp hf)).here ?_))
  refine wpAny_bind (wpAny_mono (hq _ (h.objs.size + 1) ⟨kp, Heap.get?_none_of_le (Nat.le_succ _), h.objs.size, hget, Heap.get?_none_of_le (Nat.le_refl _), ?_⟩ rfl rfl) (fun r s' hr => ?_) fun _ _ x => x)
  · exact Heap.get?_push_of_some _ (Heap.get?_push_at rfl rfl)
  · obtain ⟨rfl, hQ⟩ := hr
    wp_walk
    exact hQ
theorem exc_call {rest : List Value} (hC : h.get? 59 = some (excClassObj nm q 59 N bs bmX hdct sn sub ab col dd k0 k1 k2 k3 k5 "Exception.__new__")) (K : (hd.heap_39 w.params).In h) (hi : findIn (hd.heap_39 w.params) (.ref 59) "__init__" = some (some (.ref 36))) (hf : isFn (hd.heap_39 w.params) (.ref 36) = true)
    (hq : ∀ h' e, Heap.MadeExcOf h h' e (.ref 59) rest → h' = (h.push { cls := .type "tuple", data := .seq rest.toArray }).push { cls := .ref 59, data := .fields #[.ref h.objs.size, .none, .none, .none, .bool false, .none] } → e = h.objs.size + 1 →
      wpAny (model PG w) (A.under (.builtin "type.__call__" ⟨.ref 59 :: rest, []⟩)) (call (.ref 36) (.ref e :: rest)) (fun r s' => r = .none ∧ Q (.ref e) s') E ⟨h', gs, dr, tk, os⟩) (hrest : rest.length ≤ sizeLine := by size_fits) :
    wpAny (model PG w) A (call (.ref 59) rest) Q E ⟨h, gs, dr, tk, os⟩ := by
  have f1 := tc_lookup
  have f2 := tc_bind (.ref 59)
  have hT : (⟨h, gs, dr, tk, os⟩ : Shared).TypeIs (.ref 59) "type" := ⟨_, hC, rfl⟩
  refine wpAny_call (codeAny_of_tree ?_)
  show wpAny _ _ (callAny (.ref 59) _) _ _ _
  repeat (any_goals (first | assumption | with_reducible refine wpAny_loadPart_at hC ?_ | wp_step))
  refine ⟨rfl, ?_⟩
  refine codeAny_call_builtin_at (Code.quiet_builtin _ (by decide +kernel)) entry_typeCall (wpAny_check_type_call_sub hC (exc_typeCall (hrest := hrest) hC K hi hf fun h' e hm he1 he2 => ?_))
  exact hq h' e hm he1 he2
end exc
structure ClsX (K : Frag) : Prop where
  obj : ∃ (nm q : Str) (N : Addr) (bs : List Value) (sn : List Str) (sub : List Value) (ab : Bool) (col : Option Bool) (dd : Option Addr) (k0 k1 k2 k3 k5 : Option Value), K.lookup 59 = some (excClassObj nm q 59 N bs bmX true sn sub ab col dd k0 k1 k2 k3 k5 "Exception.__new__")
  setter : findIn K (.ref 59) "__setattr__" = some (some (.builtin "object.__setattr__"))
  init : findIn K (.ref 59) "__init__" = some (some (.ref 36))
  fn : isFn K (.ref 36) = true
theorem ClsX.of {K : Frag} {nm q : Str} {N : Addr} {bs : List Value} {sn : List Str} {sub : List Value} {ab : Bool} {col : Option Bool} {dd : Option Addr} {k0 k1 k2 k3 k5 : Option Value} (h : K.lookup 59 = some (excClassObj nm q 59 N bs bmX true sn sub ab col dd k0 k1 k2 k3 k5 "Exception.__new__")) (h1 : findIn K (.ref 59) "__setattr__" = some (some (.builtin "object.__setattr__")))
  (h2 : findIn K (.ref 59) "__init__" = some (some (.ref 36))) (h3 : isFn K (.ref 36) = true) : ClsX K := ⟨⟨nm, q, N, bs, sn, sub, ab, col, dd, k0, k1, k2, k3, k5, h⟩, h1, h2, h3⟩
theorem clsX : ClsX (hd.heap_39 w.params) := by
  refine' ClsX.of ?k1 ?k2 ?k3 ?k4
  case k1 => k_is
  case k2 => k_is
  case k3 => k_is
  case k4 => k_is
open PySem.Builtin PySem.Builtin.ObjectAttr in
theorem exc_osa {ox : Obj} {e : Addr} {R : Result → Shared → Prop} {tk' : Tok} (X : (hd.heap_39 w.params).In s.heap) (hx : s.heap.get? e = some ox) (hcl : ox.cls = .ref 59) (ht : takerIn (hd.heap_39 w.params) 59 name = some none)
    (k : ∀ bb, wpAny (model PG w) A.in1 (storeInOwnDict (.ref e) (.ref 59) (.str name tk') name v bb)
      (fun fin s' => match fin with | .done f => R (.ok f) s' | .again c' => c'.quiet = true ∧ codeAny (model PG w) A c' R s') (fun e s' => R (.error e) s') s) :
    codeAny (model PG w) A (.call (.builtin "object.__setattr__") ⟨[.ref e, .str name tk', v], []⟩) R s := by
  have SF := PySem.F.store_object
  obtain ⟨nm, q, N, bs, sn, sub, ab, col, dd, k0, k1, k2, k3, k5, hC⟩ := (clsX (w := w)).obj
  have hc : ∃ cd, clsIn (hd.heap_39 w.params) 59 = some cd ∧ cd.mro = .ref 59 :: bmX := by
    unfold clsIn; rw [hC]; exact ⟨_, rfl, rfl⟩
  obtain ⟨cd, hc, hm⟩ := hc
  have ty : Looks (model PG w) s.heap (typeOf (.ref e)) (.ref 59) := hcl ▸ (Looks.ld hx).andThen .now
  have sub' : Looks (model PG w) s.heap (isInstance (.ref e) (.type "object")) true := ty.andThen (looks_mroIn X (by unfold mroIn; rw [hc, Option.bind_some, hm]; rfl))
  refine codeAny_call_builtin SF.slot.plain SF.entry (@check_slot (model PG w) _ _ s "object.__setattr__" "object" "__setattr__" (.ref e) [.str name tk', v] [] _ SF.kind SF.split sub' (SF.args (.ref e) (.str name tk') v) ?_)
  obtain ⟨attr, ha, hr⟩ := Option.bind_eq_some_iff.mp ht
  have hmr : Looks (model PG w) s.heap (mroOf (.ref 59)) cd.mro := (looks_clsIn X hc).andThen .now
  have L3 : Looks (model PG w) s.heap (storeTaker? attr) none := by
    cases attr with
    | none => exact .now
    | some a =>
      obtain ⟨bb, hb, hbb⟩ := Option.map_eq_some_iff.mp hr
      refine (looks_takesIn X hb).andThen ?_
      cases bb with
      | true => cases hbb
      | false => exact .now
  rw [osa_eq, refuse_eq]
  refine wpAny_bind (wpAny_bind (ty.here (wpAny_bind (hmr.here ?_))))
  rw [hm, refuseLoop_ref, refuseLoop_ref, PySem.F.store_Exception.passes]
  refine wpAny_pure (wpAny_bind (ty.here (wpAny_bind ((looks_findIn X ha).here (wpAny_bind (L3.here ?_))))))
  exact k _
theorem exc_setAttr {ox : Obj} {e : Addr} (X : (hd.heap_39 w.params).In h) (hx : h.get? e = some ox) (hcl : ox.cls = .ref 59)
    (k : codeAny (model PG w) A (.call (.builtin "object.__setattr__") ⟨[.ref e, .str name tk, v], []⟩) (fun r s' => match r with | .ok (.ret _) => QU () s' | .ok _ => False | .error e => E e s') ⟨h, gs, dr, tk + 1, os⟩) :
    wpAny (model PG w) A (setAttr (.ref e) name v) QU E ⟨h, gs, dr, tk, os⟩ := by
  have ty : ∀ M, Looks M h (typeOf (.ref e)) (.ref 59) := fun M => hcl ▸ (Looks.ld hx).andThen .now
  refine wpAny_bind (wpAny_mkText (wpAny_bind (wpAny_bind (wpAny_bind (ty _ _ _ _ _ (fun _ _ e => e) (looks_findIn X (clsX (w := w)).setter _ _ _ _ (fun _ _ e => e) (wpAny_holding ?_)))))))
  rw [PySem.F.store_object.slot.bind]
  refine wpAny_bind (wpAny_pure (wpAny_bind (wpAny_call (codeAny_mono k fun r s' z => ?_))))
  rcases r with e | (v | _ | _ | _) <;> first | exact z | exact wpAny_pure (wpAny_pure z)
def oX (t : Value) (od : Option Addr) : Obj := { cls := .ref 59, dict := od, data := .fields #[t, .none, .none, .none, .bool false, .none] }
theorem exc_dict0 {e : Addr} {QO : Option Addr → Shared → Prop} {EO : Value → Shared → Prop} {tv : Value} (X : (hd.heap_39 w.params).In h) (hx : h.get? e = some (oX tv none))
    (k : QO (some h.objs.size) ⟨(h.push { cls := .type "dict", data := .dict #[] }).update e fun o => { o with dict := some h.objs.size }, gs, dr, tk, os⟩) : wpAny (model PG w) A (instanceDict e true) QO EO ⟨h, gs, dr, tk, os⟩ := by
  obtain ⟨nm, q, N, bs, sn, sub, ab, col, dd, k0, k1, k2, k3, k5, hC⟩ := (clsX (w := w)).obj
  have hC' := X _ _ hC
  unfold oX at hx
  unfold instanceDict
  repeat (first | with_reducible refine wpAny_loadPart_at hx ?_ | with_reducible refine wpAny_loadPart_at hC' ?_ | wp_step)
  have hx1 := Heap.get?_push_of_some (h := h) { cls := .type "dict", data := .dict #[] } hx
  exact k
theorem exc_dict1 {e d : Addr} {QO : Option Addr → Shared → Prop} {EO : Value → Shared → Prop} {tv : Value} (X : (hd.heap_39 w.params).In h) (hx : h.get? e = some (oX tv (some d)))
    (k : QO (some d) ⟨h, gs, dr, tk, os⟩) : wpAny (model PG w) A (instanceDict e true) QO EO ⟨h, gs, dr, tk, os⟩ := by
  obtain ⟨nm, q, N, bs, sn, sub, ab, col, dd, k0, k1, k2, k3, k5, hC⟩ := (clsX (w := w)).obj
  have hC' := X _ _ hC
  unfold oX at hx
  unfold instanceDict
  repeat (first | with_reducible refine wpAny_loadPart_at hx ?_ | with_reducible refine wpAny_loadPart_at hC' ?_ | wp_step)
  exact k
def EX (tv : Value) (od : Option Addr) : Obj → Prop := fun o => o = oX tv od
/-- a name is stored into a dict -/
theorem exc_put {d : Addr} {kvs : List (Str × Value)} {R : Fin → Shared → Prop} (S : St w b f g m cm gl led h) (U : At d (SD w d kvs) (SD w d (stored kvs name v)) led led') (hz : kvs.length ≤ 1000)
    {tk' : Tok} (k : ∀ h', St w b f g m cm gl led' h' → R (.done (.ret .none)) ⟨h', gs, dr, tk + 1, os⟩) : wpAny (model PG w) A (Builtin.ObjectAttr.storeInDict d (.str name tk') name v) R E ⟨h, gs, dr, tk, os⟩ := by
  have D := S.ha U.mem
  obtain ⟨od, e, p⟩ := D
  unfold Builtin.ObjectAttr.storeInDict Builtin.ObjectAttr.newKeyGuard
  refine wpAny_bind (wpAny_pure (wpAny_bind ?_))
  unfold nsSet
  refine wpAny_bind (wpAny_bind (wpAny_askSetting (wpAny_pure (wpAny_bind (wpAny_mkText (wpAny_bind (wpAny_loadPart (o := od) e ?_)))))))
  obtain ⟨es, ep, hc', hdd, hk', hpp, hn⟩ := id p.2
  rw [hdd]
  dsimp only
  have c : (!es.any (·.key.isStr name) && es.any (·.refKey)) = false := by
    have z : es.any (·.refKey) = false := by rw [← Array.any_toList]; exact (pairs_find (n := name) hpp).2
    rw [z, Bool.and_false]
  rw [aRefKeyMayBeTheName_at, c]
  have p' := put_sd (n := name) (t := tk) (v := v) p.2
  have fr : (Obj.putName name (PyData.keyHash w.params name) (.str name tk) v od).isFreed = false := by obtain ⟨es', ep', _, q, _⟩ := p'; exact Obj.isFreed_of_dict q
  have e2 := Heap.get?_update_self (Obj.putName name (PyData.keyHash w.params name) (.str name tk) v) e fr
  refine wpAny_updatePart e ?_
  obtain ⟨es', ep', _, q, _⟩ := id p'
  have sz : es'.size ≤ 1001 := by
    rw [sd_size p' q]
    have : (stored kvs name v).length ≤ kvs.length + 1 := by unfold stored; split <;> simp
    omega
  refine wpAny_bind (wpAny_lookBehind e2 (by rw [q]; exact pastItsLine_dict (by rw [sizeLine_eq]; omega)) ?_)
  refine wpAny_pure ?_
  show R _ _
  exact k _ (S.upd U (fun c o hc e => (Heap.get?_update_ne _ _ _ _ hc).trans e) ⟨_, e2, p.1, p'⟩)
theorem exc_set0 {e : Addr} {tv : Value} (S : St w b f g m cm ((e, EX tv none) :: gl) led h) (ht : takerIn (hd.heap_39 w.params) 59 name = some none)
    (k : ∀ dx h', St w b f g m cm ((e, EX tv (some dx)) :: gl) ((dx, SD w dx (stored [] name v)) :: led) h' → QU () ⟨h', gs, dr, tk + 2, os⟩) : wpAny (model PG w) A (setAttr (.ref e) name v) QU E ⟨h, gs, dr, tk, os⟩ := by
  obtain ⟨ox, hx, rfl⟩ := S.haG (.head _)
  refine exc_setAttr S.K hx rfl (exc_osa (s := ⟨h, gs, dr, tk + 1, os⟩) S.K hx rfl ht fun bb => ?_)
  refine wpAny_bind (wpAny_pure (wpAny_bind (exc_dict0 S.K hx ?_)))
  dsimp only
  obtain ⟨o, ho, hd⟩ := Heap.dictOf_iff.mp (Heap.DictOf.new (knd := PySem.strKind PG w) h)
  rw [Heap.get?_push_size _ rfl] at ho
  cases ho
  have S1 := S.push emptyDict (SD w h.objs.size []) ⟨S.nosys, hd⟩
  have hx1 := Heap.get?_push_of_some emptyDict hx
  have S2 := S1.updG (gl' := (e, EX tv (some h.objs.size)) :: gl) .here (h' := (h.push emptyDict).update e fun o => { o with dict := some h.objs.size }) (fun c o hc e => (Heap.get?_update_ne _ _ _ _ hc).trans e) ⟨_, Heap.get?_update_self (fun o : Obj => { o with dict := some h.objs.size }) hx1 rfl, rfl⟩
  exact exc_put S2 .here (by decide) fun h' S' => k _ _ S'
theorem exc_set1 {e dx : Addr} {tv : Value} (S : St w b f g m cm ((e, EX tv (some dx)) :: gl) led h) (U : At dx (SD w dx kvs) (SD w dx (stored kvs name v)) led led') (hz : kvs.length ≤ 1000) (ht : takerIn (hd.heap_39 w.params) 59 name = some none)
    (k : ∀ h', St w b f g m cm ((e, EX tv (some dx)) :: gl) led' h' → QU () ⟨h', gs, dr, tk + 2, os⟩) : wpAny (model PG w) A (setAttr (.ref e) name v) QU E ⟨h, gs, dr, tk, os⟩ := by
  obtain ⟨ox, hx, rfl⟩ := S.haG (.head _)
  refine exc_setAttr S.K hx rfl (exc_osa (s := ⟨h, gs, dr, tk + 1, os⟩) S.K hx rfl ht fun bb => ?_)
  refine wpAny_bind (wpAny_pure (wpAny_bind (exc_dict1 S.K hx ?_)))
  dsimp only
  exact exc_put S U hz fun h' S' => k _ S'
theorem exc_check_init {M : Model} {e : Addr} {oe : Obj} {rest : List Value} {QQ : Unit → Shared → Prop} (X : (hd.heap_39 w.params).In h) (he : h.get? e = some oe) (hcls : oe.cls = .ref 59) (hq : QQ () ⟨h, gs, dr, tk, os⟩) :
    wpAny M A (checkBuiltinCall "Exception.__init__" ⟨.ref e :: rest, []⟩) QQ E ⟨h, gs, dr, tk, os⟩ := by
  have F := PySem.F.excBase_Exception
  obtain ⟨nm, q, N, bs, sn, sub, ab, col, dd, k0, k1, k2, k3, k5, hC⟩ := (clsX (w := w)).obj
  have hC := X _ _ hC
  have hcB : (Value.ref 59 :: bmX).contains (.type "Exception") = true := by decide
  have hshort := F.noStar
  simp only [checkBuiltinCall, F.initKind, F.initSplit, F.initRow]
  repeat (first | (with_reducible refine wpAny_loadPart_at he ?_; rw [hcls]) | with_reducible refine wpAny_loadPart_at hC ?_ | (with_reducible refine wpAny_isSubtype_exc hC ?_; rw [hcB]) | wp_step)
  refine wpAny_onRaise ?_
  rw [show ∀ (a b : String) (n : Nat), Bind.check ⟨.positional, "*", "Exception", .self, [⟨"args", .varPos, false⟩]⟩ a b n (List.map (fun x => x.fst) ({ pos := Value.ref e :: rest } : Args).kw) = pure () from
    fun a b n => check_star_args _ _ _ _ _ _]
  exact wpAny_pure hq
theorem exc_init {e t0 : Addr} {od : Option Addr} {rest : List Value} (S : St w b f g m cm ((e, EX (.ref t0) od) :: gl) led h) (k : ∀ t h', St w b f g m cm ((e, EX (.ref t) od) :: gl) ((t, TO rest) :: led) h' → Q .none ⟨h', gs, dr, tk, os⟩) (hrest : rest.length ≤ sizeLine := by size_fits) :
    wpAny (model PG w) A (call (.builtin "Exception.__init__") (.ref e :: rest)) Q E ⟨h, gs, dr, tk, os⟩ := by
  have hc := PySem.F.excBase_Exception
  obtain ⟨ox, hx, rfl⟩ := S.haG (.head _)
  refine wpAny_call (codeAny_call_builtin hc.init.plain hc.initEntry (exc_check_init S.K hx rfl ?_))
  unfold Builtin.«BaseException.__init__»
  dsimp only
  rw [if_neg (by simp)]
  unfold newTuple Builtin.BaseException.bexcPut
  have S1 := S.push { cls := .type "tuple", data := .seq rest.toArray } (TO rest) ⟨0, rfl⟩ rfl
  have hx1 := Heap.get?_push_of_some { cls := .type "tuple", data := .seq rest.toArray } hx
  refine wpAny_bind (wpAny_newObj_type (wpAny_bind (wpAny_bind (wpAny_field hx1 (vs := #[.ref t0, .none, .none, .none, .bool false, .none]) rfl (x := .ref t0) rfl (wpAny_bind (wpAny_setField hx1 (vs := #[.ref t0, .none, .none, .none, .bool false, .none]) rfl (Nat.le_of_ble_eq_true rfl) ?_))))) (by show rest.toArray.size ≤ sizeLine; rw [List.size_toArray]; exact hrest))
  have S2 := S1.updG (gl' := (e, EX (.ref h.objs.size) od) :: gl) .here (h' := (h.push { cls := .type "tuple", data := .seq rest.toArray }).update e (Obj.mapFields (·.setIfInBounds 0 (.ref h.objs.size)))) (fun c o hc e => (Heap.get?_update_ne _ _ _ _ hc).trans e) ⟨_, Heap.get?_update_self (Obj.mapFields (·.setIfInBounds 0 (.ref h.objs.size))) hx1 rfl, rfl⟩
  exact wpAny_letGo (wpAny_pure (k _ _ S2))

end
section
variable {w : World} {b : Heap} {f : Fm} {g : Heap} {m cm : Str → Option Value} {gl gl' gp gr led led' : Led} {h h' X : Heap} {A : Around} {E : Value → Shared → Prop} {env : Env} {gs : Array GenState} {dr : Drawn} {tk : Nat} {os : OsState} {x y : Str} {pos px py spos : Pos} {v t c r : Value}
  {Q : Value → Shared → Prop} {QF : Flow → Shared → Prop} {QU : Unit → Shared → Prop} {a d dx C l ta tra : Addr} {P P' : Obj → Prop} {name : Str} {s : Shared} {e : Expr} {rest : List Expr} {its : List Value} {value slice : Expr} {tab : List (Int × Value)} {trl : List (Str × Value)} {kvs : List (Str × Value)} {D : Doc} {H : Head} {o : Option Value} {ns : List Int} {ws : List Str}

theorem z_typeMethod {T : String} {pl : Sem Bool} {QM : Value × List Value → Shared → Prop} (S : St w b f g m cm gl led h) (ht : typeOf (.type T) = pure (.type "type")) (hs : Manifest.isStub T = false) (e : findCls (hd.heap_39 w.params) (.type T) (.type "type") name = some (.val v)) (hh : handedIn v = true) (k : QM (v, []) ⟨h, gs, dr, tk + 1, os⟩) :
    wpAny (model PG w) A (getMethod (.type T) name pl) QM E ⟨h, gs, dr, tk, os⟩ := method_type (s := ⟨h, gs, dr, tk, os⟩) S.fr S.bs.K ht hs e hh k
theorem new_Fault (S : St w b f g m cm gl led h) (RM : Room 3 A)
    (k : ∀ e t od h' tk', h.get? e = none → St w b f g m cm gl ((e, EX (.ref t) od) :: led) h' → Q (.ref e) ⟨h', gs, dr, tk', os⟩) : wpAny (model PG w) A (call (.ref 59) [v] []) Q E ⟨h, gs, dr, tk, os⟩ := by
  obtain ⟨nm, q, N, bs, sn, sub, ab, col, dd, k0, k1, k2, k3, k5, hC⟩ := (clsX (w := w)).obj
  refine exc_call (rest := [v]) (S.K _ _ hC) S.K (clsX (w := w)).init (clsX (w := w)).fn fun h' e M he1 he2 => ?_
  have ne := M.new
  subst he1 he2
  have S1 := S.push { cls := .type "tuple", data := .seq #[v] } (TO [v]) ⟨0, rfl⟩ rfl
  have S2 := S1.push { cls := .ref 59, data := .fields #[.ref h.objs.size, .none, .none, .none, .bool false, .none] } (EX (.ref h.objs.size) none) rfl rfl
  rw [Heap.size_push] at S2
  have S3 : St w b f g m cm ([(h.objs.size + 1, EX (.ref h.objs.size) none)] ++ gl) ((h.objs.size, TO [v]) :: led) _ := S2.perm List.perm_middle
  refine wpAny_call ?_
  refine' z_enterV (gp := [(h.objs.size + 1, EX (.ref h.objs.size) none)]) (gr := gl) (binds := [("self", .ref (h.objs.size + 1)), ("what", v), ("at", .int (-1) 209)]) S3 RM.make ?k1 ?k2 ?k3 ?k4 ?_ ?k5 ?k6 ?k7 ?k8
  case k1 => k_is
  case k2 => k_is
  case k3 => exact binds_K S3.K rfl (by k_is) rfl rfl rfl
  case k4 => exact locs rfl
  case k5 => decide
  case k6 => rfl
  case k7 => rfl
  case k8 => rfl
  intro L' h1 Q9 E9 A9 f9 m9 S4 RM1 hret9 hnext9 hE9
  repeat' (first | walk_at "Z" | walk_at "Zif")
  refine' z_typeMethod S4 rfl (by decide +kernel) ?k1 ?k2 ?_
  case k1 => k_is
  case k2 => rfl
  repeat' (first | walk_at "Z" | walk_at "Zif")
  refine exc_init S4 fun t h5 S5 => ?_
  repeat' (first | walk_at "Z" | walk_at "Zif")
  refine' exc_set0 S5 ?k1 ?_
  case k1 => k_is
  intro dx h6 S6
  repeat' (first | walk_at "Z" | walk_at "Zif")
  refine' exc_set1 S6 .here (Nat.le_of_ble_eq_true rfl) ?k1 ?_
  case k1 => k_is
  intro h7 S7
  repeat' (first | walk_at "Z" | walk_at "Zif")
  refine ⟨rfl, ?_⟩
  have Bk := (S3.back (gp := [(h.objs.size + 1, EX (.ref h.objs.size) none)]) (gr := gl) rfl (Gle.refl _ _) S7 rfl).2
  have S8 := Bk.perm (gl' := gl) (led' := (h.objs.size + 1, EX (.ref t) (some dx)) :: _) List.perm_middle.symm
  exact k _ _ _ _ _ ne (S8.sub (List.Sublist.cons_cons _ ((List.sublist_cons_self _ _).trans (List.sublist_append_right _ _))))
def Rsd (w : World) (E : Value → Shared → Prop) (v : Value) (s₁ : Shared) : Prop := ∃ e t od, v = .ref e ∧ (hd.heap_39 w.params).In s₁.heap ∧ s₁.heap.get? e = some (oX (.ref t) od) ∧ E (.ref e) s₁
theorem z_raise {pos : Pos} (hh : A.handled = none) (h : wpAny (model PG w) A (eval e env) (Rsd w E) E s) : wpAny (model PG w) A (exec (.Raise (some e) none pos) env) QF E s := by
  show wpAny (model PG w) A (do standAt pos; raiseStmt env (some (do let v ← eval e env; standAt pos; pure v)) none) QF E s
  refine wpAny_bind (wpAny_standAt ?_)
  have hcB : (Value.ref 59 :: bmX).contains (.type "BaseException") = true := by decide
  unfold raiseStmt
  dsimp only
  refine wpAny_bind (wpAny_bind (wpAny_mono h (fun v s₁ h₁ => wpAny_bind (wpAny_standAt (wpAny_pure ?_))) fun _ _ x => x))
  obtain ⟨e, t, od, rfl, X, he, hE⟩ := h₁
  obtain ⟨hp, g, d, tk, os⟩ := s₁
  obtain ⟨nm, q, N, bs, sn, sub, ab, col, dd, k0, k1, k2, k3, k5, hC⟩ := (clsX (w := w)).obj
  have hC := X _ _ hC
  unfold oX at he
  repeat (first | with_reducible refine wpAny_loadPart_at he ?_ | with_reducible refine wpAny_loadPart_at hC ?_ | (with_reducible refine wpAny_isSubtype_exc hC ?_; rw [hcB]) | wp_step)
  exact wpAny_raiseNew_none hh hE

end
section
variable {w : World} {b : Heap} {f : Fm} {g : Heap} {m cm : Str → Option Value} {gl gl' gp gr led led' : Led} {h h' X : Heap} {A : Around} {E : Value → Shared → Prop} {env : Env} {gs : Array GenState} {dr : Drawn} {tk : Nat} {os : OsState} {x y : Str} {pos px py spos : Pos} {v t c r : Value}
  {Q : Value → Shared → Prop} {QF : Flow → Shared → Prop} {QU : Unit → Shared → Prop} {a d dx C l ta tra : Addr} {P P' : Obj → Prop} {name : Str} {s : Shared} {e : Expr} {rest : List Expr} {its : List Value} {value slice : Expr} {tab : List (Int × Value)} {trl : List (Str × Value)} {kvs : List (Str × Value)} {D : Doc} {H : Head} {o : Option Value} {ns : List Int} {ws : List Str}

/-- an object, but for its slots -/
def SlO (o : Obj) : Obj → Prop := fun o' => ∃ sl, o' = { o with slots := sl }
theorem SlO.refl (o : Obj) : SlO o o := ⟨o.slots, rfl⟩
theorem St.weakE {e' : Heap} (S : St w b f g m cm gl led h) (k : ∀ a o, e'.get? a = some o → f.e.get? a = some o) : St w b ⟨f.L, f.cl, e'⟩ g m cm gl led h :=
  { S with
    ke := fun a o q => S.ke a o (k a o q)
    nL := ⟨none_of_le k S.nL.1, S.nL.2⟩
    cfr := fun p hp => let x := S.cfr p hp; ⟨x.1, x.2.1, none_of_le k x.2.2.1, x.2.2.2⟩
    at_ := fun p hp => let x := S.at_ p hp; ⟨x.1, x.2.1, x.2.2.1, none_of_le k x.2.2.2.1, x.2.2.2.2⟩ }
/-- an object of the heap that is kept becomes one whose slots may change -/
theorem St.expose {a : Addr} {o : Obj} (S : St w b f g m cm gl led h) (he : f.e.get? a = some o) (hb : b.get? a = none) (hg : g.get? a = none) : St w b ⟨f.L, f.cl, hideAll f.e [a]⟩ g m cm ((a, SlO o) :: gl) led h := by
  have S1 := S.weakE (e' := hideAll f.e [a]) fun _ _ q => of_hideAll _ q
  have off : ∀ {c : Addr}, f.e.get? c = none → c ≠ a := fun q z => by rw [z, he] at q; cases q
  have S2 := S1.claim (a := a) (P := SlO o) ⟨o, S.ke _ _ he, SlO.refl o⟩ ⟨fun z => off S.nL.1 z.symm, fun p hp z => off (S.cfr p hp).2.2.1 z, fun p hp z => off (S.at_ p hp).2.2.2.1 z⟩ hb (hideAll_none _ (.head _)) hg
  exact S2.perm List.perm_middle
/-- it goes back into the heap that is kept -/
theorem St.absorb {a : Addr} {o : Obj} {e e' : Heap} {L : Addr} {cl : List (Str × Addr)} (S : St w b ⟨L, cl, e'⟩ g m cm ((a, fun x => x = o) :: gl) led h) (ho : e.get? a = some o) (he : ∀ c, c ≠ a → e.get? c = e'.get? c) : St w b ⟨L, cl, e⟩ g m cm gl led h := by
  have X := S.at_ (a, _) (.head _)
  have nd := S.nd
  simp only [List.cons_append, List.map_cons, List.nodup_cons] at nd
  have ne : ∀ p ∈ gl ++ led, p.1 ≠ a := fun p hp z => nd.1 (by rw [← z]; exact List.mem_map_of_mem hp)
  refine { S with ke := fun c x q => ?_, nL := ⟨?_, S.nL.2⟩, cfr := fun p hp => ?_, at_ := fun p hp => ?_, nd := nd.2 }
  · by_cases hc : c = a
    · subst hc
      obtain ⟨⟨y, y1, y2⟩, _⟩ := X
      have q' : e.get? c = some x := q
      rw [ho] at q'; cases q'
      have y2' : y = o := y2
      rw [← y2']; exact y1
    · exact S.ke c x ((he c hc) ▸ q)
  · show e.get? L = none
    rw [he L (fun z => X.2.1 z.symm)]; exact S.nL.1
  · have x := S.cfr p hp
    have z : p.2 ≠ a := fun z => x.2.2.2.2 (a, _) (.head _) z.symm
    exact ⟨x.1, x.2.1, (he _ z).trans x.2.2.1, x.2.2.2.1, fun q hq => x.2.2.2.2 q (.tail _ hq)⟩
  · have x := S.at_ p (.tail _ hp)
    exact ⟨x.1, x.2.1, x.2.2.1, (he _ (ne p hp)).trans x.2.2.2.1, x.2.2.2.2⟩

theorem led_unique : ∀ {l : Led} {p q : Addr × (Obj → Prop)}, (l.map (·.1)).Nodup → p ∈ l → q ∈ l → p.1 = q.1 → p = q
  | [], _, _, _, h, _, _ => nomatch h
  | x :: l, p, q, n, hp, hq, e => by
    rw [List.map_cons, List.nodup_cons] at n
    rcases List.mem_cons.mp hp with rfl | hp' <;> rcases List.mem_cons.mp hq with rfl | hq'
    · rfl
    · exact absurd (List.mem_map.mpr ⟨q, hq', e.symm⟩) n.1
    · exact absurd (List.mem_map.mpr ⟨p, hp', e⟩) n.1
    · exact led_unique n.2 hp' hq' e
/-- an address whose object may change its slots, or is nothing to this frame -/
def Free (b : Heap) (f : Fm) (g : Heap) (gl led : Led) (a : Addr) : Prop :=
  a = f.L ∨ (∃ o, (a, SlO o) ∈ gl ∧ ∀ vs, o.data ≠ .fields vs) ∨ (b.get? a = none ∧ f.e.get? a = none ∧ g.get? a = none ∧ (∀ p ∈ f.cl, p.2 ≠ a) ∧ ∀ p ∈ gl ++ led, p.1 ≠ a)
theorem St.slots {as : List Addr} {h₂ : Heap} (S : St w b f g m cm gl led h) (hs : (hideAll h as).StaysIn h₂) (hup : h.UpToSlots h₂) (has : ∀ a ∈ as, Free b f g gl led a) : St w b f g m cm gl led h₂ := by
  have FR : ∀ a ∈ as, b.get? a = none ∧ f.e.get? a = none ∧ g.get? a = none ∧ (∀ p ∈ f.cl, p.2 ≠ a) := fun a ha => by
    rcases has a ha with rfl | ⟨o, ho, _⟩ | h1
    · exact ⟨Heap.get?_none_of_le S.bL, S.nL.1, S.nL.2, fun p hp => (S.cfr p hp).1⟩
    · have x := S.at_ _ (List.mem_append_left led ho)
      exact ⟨x.2.2.1, x.2.2.2.1, x.2.2.2.2, fun p hp z => (S.cfr p hp).2.2.2.2 _ (List.mem_append_left led ho) z.symm⟩
    · exact ⟨h1.1, h1.2.1, h1.2.2.1, h1.2.2.2.1⟩
  have kp : ∀ a o, h.get? a = some o → a ∉ as → h₂.get? a = some o := fun a o q n => hs a o (hideAll_get _ q n)
  have nin : ∀ {x : Heap}, (∀ a ∈ as, x.get? a = none) → ∀ {a o}, x.get? a = some o → a ∉ as := fun q a o e z => by rw [q a z] at e; cases e
  refine { S with ns := hup.ns S.ns, kb := fun a o q => kp a o (S.kb a o q) (nin (fun a ha => (FR a ha).1) q), ke := fun a o q => kp a o (S.ke a o q) (nin (fun a ha => (FR a ha).2.1) q), kg := fun a o q => kp a o (S.kg a o q) (nin (fun a ha => (FR a ha).2.2.1) q), cell := fun p hp => ?_, at_ := fun p hp => ?_ }
  · obtain ⟨o, ho, r⟩ := S.cell p hp
    exact ⟨o, kp _ _ ho (fun z => (FR _ z).2.2.2 p hp rfl), r⟩
  · obtain ⟨⟨o, ho, po⟩, r⟩ := S.at_ p hp
    refine ⟨?_, r⟩
    by_cases z : p.1 ∈ as
    · rcases has _ z with q | ⟨o', ho', nf⟩ | q
      · exact absurd q r.1
      · have e := led_unique S.nd hp (List.mem_append_left led ho') rfl
        rw [e] at po
        obtain ⟨sl, rfl⟩ := po
        obtain ⟨sl', h2⟩ := hup p.1 _ ho (fun vs => nf vs)
        exact ⟨_, h2, by rw [e]; exact ⟨sl', rfl⟩⟩
      · exact absurd rfl (q.2.2.2.2 p hp)
    · exact ⟨o, kp _ _ ho z, po⟩
theorem funFrames_at {base : Heap} : ∀ {l : List Env}, (∀ en ∈ l, en.scope.kind ≠ .module ∧ ∃ a o, en.frame = some a ∧ base.get? a = none ∧ h.get? a = some o ∧ ∀ vs, o.data ≠ .fields vs) → h.FunFrames base l
  | [], _ => trivial
  | en :: l, q => let ⟨k1, a, o, k2, k3, k4, k5⟩ := q en (.head _); ⟨k1, ⟨a, o, k2, k3, k4, k5⟩, funFrames_at fun en he => q en (.tail _ he)⟩
theorem ns_nofields {L : Addr} (hn : h.Ns L m) : ∃ o, h.get? L = some o ∧ ∀ vs, o.data ≠ .fields vs :=
  let ⟨o, es, ep, ho, hd, _⟩ := hn; ⟨o, ho, fun vs q => by rw [hd] at q; cases q⟩
/-- an exception leaves the frame -/
theorem z_leave {outer : List Env} {e t : Addr} {od : Option Addr} (S : St w b f g m cm gl ((e, EX (.ref t) od) :: led) h) (hfr : A.frames = some (env :: outer)) (hf : env.frame = some f.L) (hk : env.scope.kind ≠ .module)
    (hout : ∀ en ∈ outer, en.scope.kind ≠ .module ∧ ∃ a o, en.frame = some a ∧ (a, SlO o) ∈ gl ∧ ∀ vs, o.data ≠ .fields vs)
    (k : ∀ base h', (∀ h₂, base.StaysIn h₂ → h'.UpToSlots h₂ → St w b f g m cm gl led h₂) → Heap.FlyingW base outer e (.ref 59) (.ref t) h' → QU () ⟨h', gs, dr, tk, os⟩) : wpAny (model PG w) A (leaving env (.ref e)) QU E ⟨h, gs, dr, tk, os⟩ := by
  obtain ⟨ox, hx, rfl⟩ := S.ha (.head _)
  obtain ⟨oL, hL, nL⟩ := ns_nofields S.ns
  let as : List Addr := e :: (env :: outer).filterMap (·.frame)
  have hm : ∀ en ∈ env :: outer, ∀ a, en.frame = some a → a ∈ as := fun en he a ha => List.mem_cons_of_mem _ (List.mem_filterMap.mpr ⟨en, he, ha⟩)
  have FF : h.FunFrames (hideAll h as) (env :: outer) := funFrames_at fun en he => by
    rcases List.mem_cons.mp he with rfl | he'
    · exact ⟨hk, _, oL, hf, hideAll_none _ (hm _ he _ hf), hL, nL⟩
    · obtain ⟨k1, a, o, k2, k3, k4⟩ := hout en he'
      obtain ⟨⟨o', q1, sl, rfl⟩, _⟩ := S.at_ _ (List.mem_append_left _ k3)
      exact ⟨k1, a, _, k2, hideAll_none _ (hm _ he _ k2), q1, k4⟩
  have S' : St w b f g m cm gl led h := S.sub (List.sublist_cons_self _ _)
  have X := S.at_ (e, _) (List.mem_append_right _ (.head _))
  have free : ∀ a ∈ as, Free b f g gl led a := fun a ha => by
    rcases List.mem_cons.mp ha with rfl | ha
    · have nd := S.nd
      rw [List.map_append, List.map_cons, nodup_ins, ← List.map_append] at nd
      exact .inr (.inr ⟨X.2.2.1, X.2.2.2.1, X.2.2.2.2, fun p hp z => (S.cfr p hp).2.2.2.2 _ (List.mem_append_right _ (.head _)) z.symm, fun p hp z => nd.1 (List.mem_map.mpr ⟨p, hp, z⟩)⟩)
    · obtain ⟨en, he, hfe⟩ := List.mem_filterMap.mp ha
      rcases List.mem_cons.mp he with rfl | he
      · rw [hf] at hfe; cases hfe; exact .inl rfl
      · obtain ⟨k1, a', o, k2, k3, k4⟩ := hout en he
        rw [k2] at hfe; cases hfe
        exact .inr (.inl ⟨o, k3, k4⟩)
  refine wpAny_leaving_firstW (base := hideAll h as) (s := ⟨h, gs, dr, tk, os⟩) (vs := #[.ref t, .none, .none, .none, .bool false, .none]) (a0 := .ref t) hfr FF hf hx (fun _ _ q => of_hideAll _ q) (hideAll_none _ (.head _)) rfl rfl rfl fun h' hl => ?_
  obtain ⟨k1, ⟨_, _, k2⟩, k3, k4⟩ := hl
  exact k (hideAll h as) h' (fun h₂ q1 q2 => S'.slots q1 (Heap.UpToSlots.trans k4 q2) free) ⟨k1, hideAll_none _ (.head _), k2, k3⟩

/-- back in the caller's frame, whose locals' slots may have changed -/
theorem St.backR {L' : Addr} {cl' : List (Str × Addr)} {g' : Heap} {m' cm' : Str → Option Value} {gp gp' gr : Led} {oL : Obj} (S : St w b f g m cm (gp ++ gr) led h) (ho : h.get? f.L = some oL) (G : Gle (hideAll (hideAll h (gp.map (·.1))) [f.L]) g g')
    (S' : St w b ⟨L', cl', hideAll (hideAll h (gp.map (·.1))) [f.L]⟩ g' m' cm' ((f.L, SlO oL) :: gp') led' h') (hpp : gp'.map (·.1) = gp.map (·.1)) : Gle f.e g g' ∧ St w b f g' m cm (gp' ++ gr) (led' ++ led) h' := by
  have X := S'.at_ (f.L, _) (.head _)
  obtain ⟨⟨o', ho', sl, rfl⟩, X1, X2, X3, X4⟩ := X
  have nL : f.L ∉ gp.map (·.1) := S.gpn (.inr (.inr (.inr (.inl rfl))))
  have eL : (hideAll h (gp.map (·.1))).get? f.L = some oL := hideAll_get _ ho nL
  have fr : oL.isFreed = false := (Heap.get?_some_iff.mp ho).2
  have r1 : (h'.update f.L fun _ => oL).get? f.L = some oL := Heap.get?_update_self (fun _ => oL) ho' fr
  have r2 : ∀ c, c ≠ f.L → (h'.update f.L fun _ => oL).get? c = h'.get? c := fun c hc => Heap.get?_update_ne _ _ _ _ hc
  have S1 := S'.updG (gl' := (f.L, fun x => x = oL) :: gp') (h' := h'.update f.L fun _ => oL) .here (fun c o hc q => (r2 c hc).trans q) ⟨_, r1, rfl⟩
  have S2 : St w b ⟨L', cl', hideAll h (gp.map (·.1))⟩ g' m' cm' gp' led' (h'.update f.L fun _ => oL) := S1.absorb eL fun c hc => by
    cases q : (hideAll h (gp.map (·.1))).get? c with
    | some o => exact (hideAll_get _ q (by simpa using hc)).symm
    | none => exact (none_of_le (fun _ _ z => of_hideAll _ z) q).symm
  have G2 : Gle (hideAll h (gp.map (·.1))) g g' := ⟨G.1, fun a o q => (G.2 a o q).imp id fun z => by
    by_cases hc : a = f.L
    · subst hc; rw [X4] at q; cases q
    · cases y : (hideAll h (gp.map (·.1))).get? a with
      | none => rfl
      | some o => rw [hideAll_get _ y (by simpa using hc)] at z; cases z⟩
  have B := S.back (f' := ⟨L', cl', hideAll h (gp.map (·.1))⟩) rfl G2 S2 hpp
  refine ⟨B.1, B.2.locals ?_ ⟨?_, fun c hc => (r2 c hc).symm⟩⟩
  · obtain ⟨o, es, ep, q1, q2, r⟩ := S.ns
    rw [ho] at q1; cases q1
    exact ⟨_, es, ep, ho', q2, r⟩
  · exact (Heap.size_after_update ..).symm

end
section
variable {w : World} {b : Heap} {f : Fm} {g : Heap} {m cm : Str → Option Value} {gl gl' gp gr led led' : Led} {h h' X : Heap} {A : Around} {E : Value → Shared → Prop} {env : Env} {gs : Array GenState} {dr : Drawn} {tk : Nat} {os : OsState} {x y : Str} {pos px py spos : Pos} {v t c r : Value}
  {Q : Value → Shared → Prop} {QF : Flow → Shared → Prop} {QU : Unit → Shared → Prop} {a d dx C l ta tra : Addr} {P P' : Obj → Prop} {name : Str} {s : Shared} {e : Expr} {rest : List Expr} {its : List Value} {value slice : Expr} {tab : List (Int × Value)} {trl : List (Str × Value)} {kvs : List (Str × Value)} {D : Doc} {H : Head} {o : Option Value} {ns : List Int} {ws : List Str}

theorem z_addS {x y : Str} {t u : Tok} (hsz : x.length + y.length ≤ sizeLine) (k : ∀ t' tk', Q (.str (x ++ y) t') ⟨h, gs, dr, tk', os⟩) : wpAny (model PG w) A (binaryOp .Add (.str x t) (.str y u)) Q E ⟨h, gs, dr, tk, os⟩ :=
  PySem.SB.add (s := ⟨h, gs, dr, tk, os⟩) (fun t' k' => k t' k') hsz
theorem z_strI {n : Int} {t : Tok} (hn : 0 ≤ n) (hn' : n ≤ 6) (k : ∀ x t' tk', x.length ≤ 10 → Q (.str x t') ⟨h, gs, dr, tk', os⟩) : wpAny (model PG w) A (call (.type "str") [.int n t]) Q E ⟨h, gs, dr, tk, os⟩ := by
  have hc : n = 0 ∨ n = 1 ∨ n = 2 ∨ n = 3 ∨ n = 4 ∨ n = 5 ∨ n = 6 := by omega
  refine PySem.P.str_of_int (s := ⟨h, gs, dr, tk, os⟩) ?_ (k _ _ _ ?_)
  · rcases hc with rfl | rfl | rfl | rfl | rfl | rfl | rfl <;> decide
  · rcases hc with rfl | rfl | rfl | rfl | rfl | rfl | rfl <;> decide
def DObj (o : Obj) : Prop := ∃ es ep, o.data = .dict es ep
theorem DObj.nf {o : Obj} (x : DObj o) : ∀ vs, o.data ≠ .fields vs := fun vs q => by obtain ⟨es, ep, e⟩ := x; rw [e] at q; cases q
theorem ns_dobj {L : Addr} (hn : h.Ns L m) : ∃ o, h.get? L = some o ∧ DObj o :=
  let ⟨o, es, ep, ho, hd, _⟩ := hn; ⟨o, ho, es, ep, hd⟩
theorem ne_list {c l : Addr} {o : Obj} {vs : List Value} (H : ∃ x, h.get? c = some x ∧ SlO o x) (D : DObj o) (HL : Ha h l (LO vs)) : c ≠ l := fun z => by
  obtain ⟨x, y1, sl, y2⟩ := H
  obtain ⟨es, ep, y3⟩ := D
  obtain ⟨o1, q1, n1, q2⟩ := HL
  rw [z, q1] at y1; cases y1; rw [q2] at y2; have := congrArg Obj.data y2; rw [show ({ o with slots := sl } : Obj).data = o.data from rfl, y3] at this; cases this
theorem conf_raise {t : Tok} {aL : Addr} {oL of : Obj} {env0 env1 : Env} (S : St w b f g m cm [(aL, SlO oL)] led h) (RM : Room 10 A) (sX : Sub X h) (SK : ShOk w X a D) (DO : D.Ok) (HC : D.confs.length = 1)
    (xL : X.get? aL = none) (xF : X.get? f.L = none) (hof : h.get? f.L = some of) (hfr : A.frames = some [env0, env1]) (hf0 : env0.frame = some f.L) (hk0 : env0.scope.kind ≠ .module) (hf1 : env1.frame = some aL) (hk1 : env1.scope.kind ≠ .module) (nf : DObj oL)
    (k : ∀ e t base g' h' tk', Gle f.e g g' → (∀ h₂, base.StaysIn h₂ → h'.UpToSlots h₂ → ∃ led', St w b f g' m cm [(aL, SlO oL)] (led' ++ led) h₂) → Heap.FlyingW base [env0, env1] e (.ref 59) (.ref t) h' → E (.ref e) ⟨h', gs, dr, tk', os⟩) :
    wpAny (model PG w) A (call (.ref 444) [.ref a, .int 1 t] []) Q E ⟨h, gs, dr, tk, os⟩ := by
  have big : (10000 : Nat) ≤ sizeLine := by rw [sizeLine_eq]; decide
  have nof : DObj of := by
    obtain ⟨o, h1, h2⟩ := ns_dobj S.ns
    rw [hof] at h1; cases h1; exact h2
  refine wpAny_call ?_
  refine' z_enterCV (gp := [(aL, SlO oL)]) (gr := []) (binds := [("shelf", .ref a), ("index", .int 1 t)]) S RM ?k1 ?k2 ?k3 ?k4 ?k5 ?_ ?k6 ?k7 ?k8
  case k1 => k_is
  case k2 => k_is
  case k3 => exact binds_K S.K rfl (by k_is) rfl rfl rfl
  case k4 => rfl
  case k5 => decide
  case k6 => rfl
  case k7 => rfl
  case k8 => rfl
  intro L' h1 tk1 Q9 E9 A9 f9 m9 cm9 S1 RM1 hret9 hnext9 hE9
  have eL : (hideAll h [aL]).get? f.L = some of := hideAll_get _ hof (by
    intro z
    exact (S.at_ (aL, _) (.head _)).2.1 (List.mem_singleton.mp z).symm)
  have SS1 := S1.expose (a := f.L) eL (Heap.get?_none_of_le S.bL) S.nL.2
  clear S1
  have xn : ∀ {c : Addr} {o : Obj}, X.get? c = some o → c ∉ [f.L, aL] := fun e z => by
    rcases List.mem_cons.mp z with rfl | z
    · rw [xF] at e; cases e
    · rw [List.mem_singleton.mp z, xL] at e; cases e
  have sxe : Sub X (hideAll (hideAll h [aL]) [f.L]) := fun a o e => hideAll_get _ (hideAll_get _ (sX _ _ e) fun z => xn e (.tail _ z)) (fun z => xn e (by rw [List.mem_singleton.mp z]; exact .head _))
  have sx : Sub X h1 := fun a o e => SS1.ke _ _ (sxe _ _ e)
  repeat' (first | walk_at "Z" | walk_at "Zif")
  refine if_f (by decide) ?_
  repeat' (first | walk_at "Z" | walk_at "Zif")
  have SK' := SK
  obtain ⟨ta, tra, tab, trl, rr, SH, TB, hr, RV⟩ := SK'
  obtain ⟨dx, I1, D1, T1, R1⟩ := id SH
  refine z_compA (cl := [("shelf", L' + 1)]) rfl rfl rfl (by decide) ?_ (fun _ => rfl)
  repeat' (first | walk_at "Z" | walk_at "Zif")
  refine layer_spec SS1 (RM1.less (by decide)) sx SK fun r h2 tk2 LY S2 s2 => ?_
  obtain ⟨d2, kvs2, v1, v2, v3, rfl, z, e1, q1, e2, HV, e3, q3, _⟩ := id LY
  have sx2 : Sub X h2 := fun a o e => S2.ke _ _ (sxe _ _ e)
  repeat' (first | walk_at "Z" | walk_at "Zif")
  refine items_spec S2 (RM1.less (by decide)) sx2 SH z (.inr ⟨_, e3, q3⟩) fun l vs g3 h3 tk3 G3 S3 s3 HL _ AL => ?_
  have hl1 : vs.length ≤ 100 := by rw [AL.length]; exact DO.lconfs
  have lne : ∀ p ∈ [(f.L, SlO of), (aL, SlO oL)], p.1 ≠ l := fun p hp => by
    rcases List.mem_cons.mp hp with rfl | hp
    · exact ne_list (S3.haG (.head _)) nof HL
    · rw [List.mem_singleton.mp hp]
      exact ne_list (S3.haG (.tail _ (.head _))) nf HL
  have sxh : Sub X (hideAll h3 [f.L, aL]) := fun a o e => hideAll_get _ (S3.ke _ _ (sxe _ _ e)) (xn e)
  refine z_compLA S3 RM1.hh HL lne (by omega) (by decide) rfl rfl rfl rfl rfl (fun i ys g gl => g3 = g ∧ gl = [(f.L, SlO of), (aL, SlO oL)] ∧ ys = vs.take i) ⟨rfl, rfl, rfl⟩ (fun i ys g gl ⟨_, _, q⟩ => by rw [q]; exact List.length_take_le _ _) (fun i ys g gl ⟨_, q, _⟩ => by rw [q]) (CompTurnQ.turn ?_) ?_
  · intro C i v e' ys g₁ m₁ gl₁ h₁ tk₁ Qy9 Qn9 J9 hi hv hs hG f9 m9 S5 hy9 hz9 j9
    obtain ⟨rfl, rfl, rfl⟩ := j9
    obtain ⟨n, hn, NV⟩ := AL.get hv
    have sx5 : Sub X h₁ := fun a o e => S5.ke _ _ (hs _ _ (sxh _ _ e))
    have hc : e'.IsCell (L' + 1) (some (.ref a)) := (S3.cellE (x := "shelf") (lookup_mem rfl) rfl).keeps hs
    refine tests_nil (if_t rfl ?_)
    repeat' (first | walk_at "Z" | walk_at "Zif")
    refine' z_method S5 (I1.keeps sx5) (D1.keeps sx5) rfl ?k1 ?k2 ?k3 ?_
    case k1 => k_is
    case k2 => k_is
    case k3 => k_is
    repeat' (first | walk_at "Z" | walk_at "Zif")
    obtain ⟨nd, nkvs, rfl, ND, _⟩ := id NV
    have FT : Fet w X tab (.ref nd) (.ref nd) := by
      refine' .plain (.dict ND) ?k1
      case k1 => first | kit_is | k_is
    refine fetch_spec S5 (RM1.less (by decide)) sx5 SH FT fun h6 tk6 S6 s6 => ?_
    exact hy9.go S6 (Gle.refl _ _) ⟨rfl, rfl, by rw [take_snoc hv]⟩
  · rintro W1 ys g4 gl4 h4 tk4 ⟨rfl, rfl, rfl⟩ G4 S4 nW1
    rw [List.take_length] at S4
    repeat' (first | walk_at "Z" | walk_at "Zif")
    refine z_len (S4.ha (.head _)) (by omega) fun t5 tk5 => ?_
    repeat' (first | walk_at "Z" | walk_at "Zif")
    rw [show decide ((1 : Int) ≥ (vs.length : Int)) = true by rw [decide_eq_true_iff, AL.length, HC]; decide]
    repeat' (first | walk_at "Z" | walk_at "Zif")
    refine z_raise RM1.hh ?_
    repeat' (first | walk_at "Z" | walk_at "Zif")
    refine z_strI (by decide) (by decide) fun x t' tk' hx => ?_
    repeat' (first | walk_at "Z" | walk_at "Zif")
    refine z_addS (by have : (Str.ofString "no configuration ").length = 17 := rfl; omega) fun t'' tk'' => ?_
    repeat' (first | walk_at "Z" | walk_at "Zif")
    refine new_Fault S4 (RM1.less (by decide)) fun ex tx od h5 tk5 nex S5 => ?_
    obtain ⟨ox, hox, eox⟩ := S5.ha (.head _)
    refine ⟨ex, tx, od, rfl, S5.K, by rw [hox]; exact congrArg some eox, ?_⟩
    refine hE9 _ _ ?_
    refine z_leave S5 (Around.frames_deeper hfr) rfl (show ScopeKind.function ≠ .module by decide) (fun en he => ?_) fun base h6 T F => ?_
    · rcases List.mem_cons.mp he with rfl | he
      · exact ⟨hk0, _, _, hf0, .head _, nof.nf⟩
      · rw [List.mem_singleton.mp he]
        exact ⟨hk1, _, _, hf1, .tail _ (.head _), nf.nf⟩
    · have GG := G3.trans G4
      exact k _ _ base _ _ _ (S.backR (gp := [(aL, SlO oL)]) (gr := []) hof GG (T h6 F.1 (Heap.UpToSlots.refl _)) rfl).1 (fun h₂ q1 q2 => ⟨_, (S.backR (gp := [(aL, SlO oL)]) (gr := []) hof GG (T h₂ q1 q2) rfl).2⟩) F

end
section
variable {w : World} {b : Heap} {f : Fm} {g : Heap} {m cm : Str → Option Value} {gl gl' gp gr led led' : Led} {h h' X : Heap} {A : Around} {E : Value → Shared → Prop} {env : Env} {gs : Array GenState} {dr : Drawn} {tk : Nat} {os : OsState} {x y : Str} {pos px py spos : Pos} {v t c r : Value}
  {Q : Value → Shared → Prop} {QF : Flow → Shared → Prop} {QU : Unit → Shared → Prop} {a d dx C l ta tra : Addr} {P P' : Obj → Prop} {name : Str} {s : Shared} {e : Expr} {rest : List Expr} {its : List Value} {value slice : Expr} {tab : List (Int × Value)} {trl : List (Str × Value)} {kvs : List (Str × Value)} {D : Doc} {H : Head} {o : Option Value} {ns : List Int} {ws : List Str}

theorem z_caught {outer : List Env} {e t : Addr} {base : Heap} {np : Pos} {L : Addr} {b₀ : Stmt} {suite : List Stmt} {rest : List ExceptHandler} {np2 : Pos} {QQ : Flow → Shared → Prop} {x : Str} (hfr : A.frames = some (env :: outer)) (hf : env.frame = some L) (F : Heap.FlyingW base (env :: outer) e (.ref 59) (.ref t) h)
    (hK : ∀ h₂, base.StaysIn h₂ → h.UpToSlots h₂ → (hd.heap_39 w.params).In h₂)
    (hn : ∀ (h₂ : Heap) (Q2 : Value → Shared → Prop) (E2 : Value → Shared → Prop), base.StaysIn h₂ → h.UpToSlots h₂ → Q2 (.ref 59) ⟨h₂, gs, dr, tk, os⟩ → wpAny (model PG w) (A.mark (some (.ref e))) (eval (.Name x np2) env) Q2 E2 ⟨h₂, gs, dr, tk, os⟩)
    (k : ∀ h₂ E2, base.StaysIn h₂ → h.UpToSlots h₂ → wpAny (model PG w) (A.mark (some (.ref e))) (execs (b₀ :: suite) env) QQ E2 ⟨h₂, gs, dr, tk, os⟩) :
    wpAny (model PG w) A (noteFrame (.ref e) env) (fun _ s₂ => wpAny (model PG w) A (setFlight (.ref e) none) (fun _ s₃ => wpAny (model PG w) A (handleBy (.ref e) env (.ExceptHandler (some (.Name x np2)) none (b₀ :: suite) np :: rest)) QQ E s₃) E s₂) E ⟨h, gs, dr, tk, os⟩ := by
  refine wpAny_looks_onW hfr hf F fun h₄ held₄ sm₄ => ?_
  refine wpAny_landsW held₄ fun h₅ held sm₅ => ?_
  have s5 := Heap.UpToSlots.trans sm₄ sm₅
  have K5 := hK h₅ held.1 s5
  obtain ⟨ob, hob, hobc⟩ := held.there
  obtain ⟨nm, q, N, bs, sn, sub, ab, col, dd, k0, k1, k2, k3, k5, hC⟩ := (clsX (w := w)).obj
  refine wpAny_handleBy_cons (codeAny_handlers_test (hn h₅ _ _ held.1 s5 ?_)) (by intro q; cases q)
  refine wpAny_excMatches_sub_self (K5 _ _ hC) hob hobc (by decide) (codeAny_handlers_suite ?_)
  refine lands_againW held fun h₆ hfl₆ hsm₆ => ?_
  exact k h₆ _ hfl₆.1 (Heap.UpToSlots.trans s5 hsm₆)
theorem lacking_spec {t : Tok} {en : Env} (S : St w b f g m cm gl led h) (RM : Room 11 A) (sX : Sub X h) (SK : ShOk w X a D) (DO : D.Ok) (HC : D.confs.length = 1) (xF : X.get? f.L = none) (hfr : A.frames = some [en]) (hen : en.frame = some f.L) (hk : en.scope.kind ≠ .module)
    (k : ∀ g' h' tk', Gle f.e g g' → St w b f g' m cm gl led h' → Q (.bool true) ⟨h', gs, dr, tk', os⟩) : wpAny (model PG w) A (call (.ref 548) [.ref a, .int 1 t] []) Q E ⟨h, gs, dr, tk, os⟩ := by
  obtain ⟨oL, hoL, DL⟩ := ns_dobj S.ns
  refine wpAny_call ?_
  refine' z_enterV (gp := []) (gr := gl) (binds := [("shelf", .ref a), ("index", .int 1 t)]) S RM ?k1 ?k2 ?k3 ?k4 ?_ ?k5 ?k6 ?k7 ?k8
  case k1 => k_is
  case k2 => k_is
  case k3 => exact BindsTo.of_eq rfl
  case k4 => exact locs rfl
  case k5 => decide
  case k6 => rfl
  case k7 => rfl
  case k8 => rfl
  intro L' h1 Q9 E9 A9 f9 m9 S1 RM1 hret9 hnext9 hE9
  have eL : (hideAll h (([] : Led).map (·.1))).get? f.L = some oL := hideNil _ _ hoL
  have SS1 := S1.expose (a := f.L) eL (Heap.get?_none_of_le S.bL) S.nL.2
  have xn : ∀ {c : Addr} {o : Obj}, X.get? c = some o → c ∉ [f.L] := fun e z => by
    rw [List.mem_singleton.mp z, xF] at e; cases e
  have sx : Sub X h1 := fun a o e => SS1.ke _ _ (hideAll_get _ (hideNil _ _ (sX _ _ e)) (xn e))
  have xL' : X.get? L' = none := none_of_le (fun a o e => hideNil _ _ (sX _ _ e)) S1.nL.1
  clear S1
  obtain ⟨oL', hoL', DL'⟩ := ns_dobj SS1.ns
  refine wpAny_execs_cons ?_
  refine wpAny_Try_except ?_
  repeat' (first | walk_at "Z" | walk_at "Zif")
  refine conf_raise SS1 (RM1.less (by decide)) sx SK DO HC xF xL' hoL' (Around.frames_deeper hfr) rfl (show ScopeKind.function ≠ .module by decide) hen hk DL fun e t' base g2 h2 tk2 G2 T2 F2 => ?_
  refine z_caught (Around.frames_deeper hfr) rfl F2 (fun h₂ q1 q2 => let ⟨_, T⟩ := T2 h₂ q1 q2; T.K) (fun h₂ Q2 E2 q1 q2 kk => ?_) fun h₂ E2 q1 q2 => ?_
  · obtain ⟨led2, T⟩ := T2 h₂ q1 q2
    repeat' (first | walk_at "Z" | walk_at "Zif")
    exact kk
  · obtain ⟨led2, T⟩ := T2 h₂ q1 q2
    repeat' (first | walk_at "Z" | walk_at "Zif")
    have B := S.backR (gp := []) (gr := gl) hoL G2 T rfl
    exact k _ _ _ B.1 (B.2.sub (List.sublist_append_right _ _))

end
section
variable {w : World} {b : Heap} {f : Fm} {g : Heap} {m cm : Str → Option Value} {gl gl' gp gr led led' : Led} {h h' X : Heap} {A : Around} {E : Value → Shared → Prop} {env : Env} {gs : Array GenState} {dr : Drawn} {tk : Nat} {os : OsState} {x y : Str} {pos px py spos : Pos} {v t c r : Value}
  {Q : Value → Shared → Prop} {QF : Flow → Shared → Prop} {QU : Unit → Shared → Prop} {a d dx C l ta tra : Addr} {P P' : Obj → Prop} {name : Str} {s : Shared} {e : Expr} {rest : List Expr} {its : List Value} {value slice : Expr} {tab : List (Int × Value)} {trl : List (Str × Value)} {kvs : List (Str × Value)} {D : Doc} {H : Head} {o : Option Value} {ns : List Int} {ws : List Str}

theorem switch_raise {sv cv : Value} {C : Conf} {st : BS} {n : Int} {tn : Tok} {on : Bool} {aL : Addr} {oL of : Obj} {env0 env1 : Env} (S : St w b f g m cm [(aL, SlO oL)] led h) (RM : Room 4 A) (sX : Sub X h) (SV : StV w X sv st) (CV : ConfV w X cv C) (hbad : hasB st n = false ∨ n ∈ C.locked) (hn0 : 0 ≤ n) (hn6 : n ≤ 6)
    (xL : X.get? aL = none) (xF : X.get? f.L = none) (hof : h.get? f.L = some of) (hfr : A.frames = some [env0, env1]) (hf0 : env0.frame = some f.L) (hk0 : env0.scope.kind ≠ .module) (hf1 : env1.frame = some aL) (hk1 : env1.scope.kind ≠ .module) (nf : DObj oL)
    (k : ∀ e t base g' h' tk', Gle f.e g g' → (∀ h₂, base.StaysIn h₂ → h'.UpToSlots h₂ → ∃ led', St w b f g' m cm [(aL, SlO oL)] (led' ++ led) h₂) → Heap.FlyingW base [env0, env1] e (.ref 59) (.ref t) h' → E (.ref e) ⟨h', gs, dr, tk', os⟩) :
    wpAny (model PG w) A (call (.ref 464) [sv, cv, .int n tn, .bool on] []) Q E ⟨h, gs, dr, tk, os⟩ := by
  have big : (10000 : Nat) ≤ sizeLine := by rw [sizeLine_eq]; decide
  obtain ⟨ca, cdx, ct, v2, v3, v4, v5, v6, v7, rfl, CI, CD, f2, f3, f4, f5, f7⟩ := CV
  obtain ⟨sd, rfl, SD'⟩ := SV
  have nof : DObj of := by
    obtain ⟨o, h1, h2⟩ := ns_dobj S.ns
    rw [hof] at h1; cases h1; exact h2
  refine wpAny_call ?_
  refine' z_enterV (gp := [(aL, SlO oL)]) (gr := []) (binds := [("states", .ref sd), ("config", .ref ca), ("number", .int n tn), ("is_on", .bool on)]) S RM ?k1 ?k2 ?k3 ?k4 ?_ ?k5 ?k6 ?k7 ?k8
  case k1 => k_is
  case k2 => k_is
  case k3 => exact BindsTo.of_eq rfl
  case k4 => exact locs rfl
  case k5 => decide
  case k6 => rfl
  case k7 => rfl
  case k8 => rfl
  intro L' h1 Q9 E9 A9 f9 m9 S1 RM1 hret9 hnext9 hE9
  have eL : (hideAll h [aL]).get? f.L = some of := hideAll_get _ hof (by
    intro z
    exact (S.at_ (aL, _) (.head _)).2.1 (List.mem_singleton.mp z).symm)
  have SS1 := S1.expose (a := f.L) eL (Heap.get?_none_of_le S.bL) S.nL.2
  clear S1
  have xn : ∀ {c : Addr} {o : Obj}, X.get? c = some o → c ∉ [f.L, aL] := fun e z => by
    rcases List.mem_cons.mp z with rfl | z
    · rw [xF] at e; cases e
    · rw [List.mem_singleton.mp z, xL] at e; cases e
  have sxe : Sub X (hideAll (hideAll h [aL]) [f.L]) := fun a o e => hideAll_get _ (hideAll_get _ (sX _ _ e) fun z => xn e (.tail _ z)) (fun z => xn e (by rw [List.mem_singleton.mp z]; exact .head _))
  have sx : Sub X h1 := fun a o e => SS1.ke _ _ (sxe _ _ e)
  have fin : ∀ {g4 : Heap} {m4 cm4 : Str → Option Value} {led4 : Led} {h4 : Heap} {tk4 : Nat} {ex tx : Addr} {od : Option Addr} {envc : Env} {cl4 : List (Str × Addr)}, envc.frame = some L' → envc.scope.kind ≠ .module → Gle (hideAll (hideAll h [aL]) [f.L]) g g4 →
      St w b ⟨L', cl4, hideAll (hideAll h [aL]) [f.L]⟩ g4 m4 cm4 [(f.L, SlO of), (aL, SlO oL)] ((ex, EX (.ref tx) od) :: led4) h4 → (∀ s, E (.ref ex) s → E (.ref ex) s) →
      wpAny (model PG w) (A.deeper envc) (leaving envc (.ref ex)) (fun _ s'' => E (.ref ex) s'') (fun e' s'' => E e' s'') ⟨h4, gs, dr, tk4, os⟩ := fun q1 q2 GG S5 _ => by
    refine z_leave S5 (Around.frames_deeper hfr) q1 q2 (fun en he => ?_) fun base h6 T F => ?_
    · rcases List.mem_cons.mp he with rfl | he
      · exact ⟨hk0, _, _, hf0, .head _, nof.nf⟩
      · rw [List.mem_singleton.mp he]
        exact ⟨hk1, _, _, hf1, .tail _ (.head _), nf.nf⟩
    · exact k _ _ base _ _ _ (S.backR (gp := [(aL, SlO oL)]) (gr := []) hof GG (T h6 F.1 (Heap.UpToSlots.refl _)) rfl).1 (fun h₂ q1 q2 => ⟨_, (S.backR (gp := [(aL, SlO oL)]) (gr := []) hof GG (T h₂ q1 q2) rfl).2⟩) F
  repeat' (first | walk_at "Z" | walk_at "Zif")
  refine zz_notin (kk := n) (SD'.keeps sx).id SD'.idn (iis _ _) ?_
  rw [valueAt_enc, Option.isSome_map, hasB_get]
  cases hs : hasB st n with
  | false =>
    repeat' (first | walk_at "Z" | walk_at "Zif")
    refine z_raise RM1.hh ?_
    repeat' (first | walk_at "Z" | walk_at "Zif")
    refine z_strI hn0 hn6 fun x t' tk' hx => ?_
    repeat' (first | walk_at "Z" | walk_at "Zif")
    refine z_addS (by have : (Str.ofString "no group ").length = 9 := rfl; omega) fun t'' tk'' => ?_
    repeat' (first | walk_at "Z" | walk_at "Zif")
    refine new_Fault SS1 (RM1.less (by decide)) fun ex tx od h5 tk5 nex S5 => ?_
    obtain ⟨ox, hox, eox⟩ := S5.ha (.head _)
    refine ⟨ex, tx, od, rfl, S5.K, by rw [hox]; exact congrArg some eox, ?_⟩
    refine hE9 _ _ ?_
    exact fin rfl (show ScopeKind.function ≠ .module by decide) (Gle.refl _ _) S5 fun _ q => q
  | true =>
    have hl : n ∈ C.locked := by rcases hbad with q | q; · rw [hs] at q; cases q
                                 · exact q
    repeat' (first | walk_at "Z" | walk_at "Zif")
    refine' z_attr SS1 (CI.keeps sx) (CD.keeps sx) rfl ?k1 ?k2 ?k3 rfl ?_
    case k1 => k_is
    case k2 => k_is
    case k3 => k_is
    refine z_inI RM1 (LV.mono monoI f5 sx) ?_
    rw [decide_eq_true hl]
    repeat' (first | walk_at "Z" | walk_at "Zif")
    refine z_raise RM1.hh ?_
    repeat' (first | walk_at "Z" | walk_at "Zif")
    refine z_strI hn0 hn6 fun x t' tk' hx => ?_
    repeat' (first | walk_at "Z" | walk_at "Zif")
    refine z_addS (by have : (Str.ofString "the group ").length = 10 := rfl; omega) fun t'' tk'' => ?_
    repeat' (first | walk_at "Z" | walk_at "Zif")
    refine z_addS (by rw [size_cat]; have : (Str.ofString "the group ").length = 10 := rfl; have : (Str.ofString " is locked").length = 10 := rfl; omega) fun t'' tk'' => ?_
    repeat' (first | walk_at "Z" | walk_at "Zif")
    refine new_Fault SS1 (RM1.less (by decide)) fun ex tx od h5 tk5 nex S5 => ?_
    obtain ⟨ox, hox, eox⟩ := S5.ha (.head _)
    refine ⟨ex, tx, od, rfl, S5.K, by rw [hox]; exact congrArg some eox, ?_⟩
    refine hE9 _ _ ?_
    exact fin rfl (show ScopeKind.function ≠ .module by decide) (Gle.refl _ _) S5 fun _ q => q
theorem lawsw_spec {sv cv : Value} {C : Conf} {st : BS} {n : Int} {tn : Tok} {on : Bool} {en : Env} (S : St w b f g m cm gl led h) (RM : Room 5 A) (sX : Sub X h) (SV : StV w X sv st) (CV : ConfV w X cv C) (hlen : st.length ≤ 100) (hn0 : 0 ≤ n) (hn6 : n ≤ 6) (xF : X.get? f.L = none) (hfr : A.frames = some [en]) (hen : en.frame = some f.L) (hk : en.scope.kind ≠ .module)
    (k1 : hasB st n = true → n ∉ C.locked → ∀ r g' h' tk', Gle f.e g g' → St w b f g' m cm gl led h' → StV w g' r (switchB st C.radio n on) → Q r ⟨h', gs, dr, tk', os⟩)
    (k2 : (hasB st n = false ∨ n ∈ C.locked) → ∀ g' h' tk', Gle f.e g g' → St w b f g' m cm gl led h' → Q .none ⟨h', gs, dr, tk', os⟩) : wpAny (model PG w) A (call (.ref 541) [sv, cv, .int n tn, .bool on] []) Q E ⟨h, gs, dr, tk, os⟩ := by
  refine wpAny_call ?_
  obtain ⟨oL, hoL, DL⟩ := ns_dobj S.ns
  refine' z_enterV (gp := []) (gr := gl) (binds := [("states", sv), ("config", cv), ("number", .int n tn), ("is_on", .bool on)]) S RM ?k1 ?k2 ?k3 ?k4 ?_ ?k5 ?k6 ?k7 ?k8
  case k1 => k_is
  case k2 => k_is
  case k3 => exact BindsTo.of_eq rfl
  case k4 => exact locs rfl
  case k5 => decide
  case k6 => rfl
  case k7 => rfl
  case k8 => rfl
  intro L' h1 Q9 E9 A9 f9 m9 S1 RM1 hret9 hnext9 hE9
  by_cases hgood : hasB st n = true ∧ n ∉ C.locked
  · have sx : Sub X h1 := fun a o e => S1.ke _ _ (hideNil _ _ (sX _ _ e))
    refine wpAny_execs_cons ?_
    refine wpAny_Try_except ?_
    repeat' (first | walk_at "Z" | walk_at "Zif")
    refine switch_spec S1 (RM1.less (by decide)) sx SV CV hgood.1 hgood.2 hlen fun r g2 h2 tk2 G2 S2 SV2 => ?_
    have B := S.back (gp := []) (gr := gl) rfl G2 S2 rfl
    repeat' (first | walk_at "Z" | walk_at "Zif")
    exact k1 hgood.1 hgood.2 _ _ _ _ B.1 (B.2.sub (List.sublist_append_right _ _)) SV2
  · have hbad : hasB st n = false ∨ n ∈ C.locked := by
      cases hh : hasB st n with
      | false => exact .inl rfl
      | true => exact .inr (Classical.byContradiction fun q => hgood ⟨hh, q⟩)
    have eL : (hideAll h (([] : Led).map (·.1))).get? f.L = some oL := hideNil _ _ hoL
    have SS1 := S1.expose (a := f.L) eL (Heap.get?_none_of_le S.bL) S.nL.2
    have xn : ∀ {c : Addr} {o : Obj}, X.get? c = some o → c ∉ [f.L] := fun e z => by
      rw [List.mem_singleton.mp z, xF] at e; cases e
    have sx : Sub X h1 := fun a o e => SS1.ke _ _ (hideAll_get _ (hideNil _ _ (sX _ _ e)) (xn e))
    have xL' : X.get? L' = none := none_of_le (fun a o e => hideNil _ _ (sX _ _ e)) S1.nL.1
    clear S1
    obtain ⟨oL', hoL', DL'⟩ := ns_dobj SS1.ns
    refine wpAny_execs_cons ?_
    refine wpAny_Try_except ?_
    repeat' (first | walk_at "Z" | walk_at "Zif")
    refine switch_raise SS1 (RM1.less (by decide)) sx SV CV hbad hn0 hn6 xF xL' hoL' (Around.frames_deeper hfr) rfl (show ScopeKind.function ≠ .module by decide) hen hk DL fun e t' base g2 h2 tk2 G2 T2 F2 => ?_
    refine z_caught (Around.frames_deeper hfr) rfl F2 (fun h₂ q1 q2 => let ⟨_, T⟩ := T2 h₂ q1 q2; T.K) (fun h₂ Q2 E2 q1 q2 kk => ?_) fun h₂ E2 q1 q2 => ?_
    · obtain ⟨led2, T⟩ := T2 h₂ q1 q2
      repeat' (first | walk_at "Z" | walk_at "Zif")
      exact kk
    · obtain ⟨led2, T⟩ := T2 h₂ q1 q2
      repeat' (first | walk_at "Z" | walk_at "Zif")
      have B := S.backR (gp := []) (gr := gl) hoL G2 T rfl
      exact k2 hbad _ _ _ B.1 (B.2.sub (List.sublist_append_right _ _))

end
section
variable {w : World} {b : Heap} {f : Fm} {g : Heap} {m cm : Str → Option Value} {gl gl' gp gr led led' : Led} {h h' X : Heap} {A : Around} {E : Value → Shared → Prop} {env : Env} {gs : Array GenState} {dr : Drawn} {tk : Nat} {os : OsState} {x y : Str} {pos px py spos : Pos} {v t c r : Value}
  {Q : Value → Shared → Prop} {QF : Flow → Shared → Prop} {QU : Unit → Shared → Prop} {a d dx C l ta tra : Addr} {P P' : Obj → Prop} {name : Str} {s : Shared} {e : Expr} {rest : List Expr} {its : List Value} {value slice : Expr} {tab : List (Int × Value)} {trl : List (Str × Value)} {kvs : List (Str × Value)} {D : Doc} {H : Head} {o : Option Value} {ns : List Int} {ws : List Str}

theorem z_truthyL {vs : List Value} {QB : Bool → Shared → Prop} (H : Ha h l (LO vs)) (hlen : vs.length ≤ 1000) (k : ∀ tk', QB (!vs.isEmpty) ⟨h, gs, dr, tk', os⟩) : wpAny (model PG w) A (truthy (.ref l)) QB E ⟨h, gs, dr, tk, os⟩ :=
  wpAny_truthy_list (s := ⟨h, gs, dr, tk, os⟩) H.list (by rw [List.size_toArray]; omega) (by
    have : vs.toArray.isEmpty = vs.isEmpty := by cases vs <;> rfl
    rw [this]; exact k _)
theorem z_truthyS {x : Str} {t : Tok} {QB : Bool → Shared → Prop} (hx : x.length ≤ 1000) (k : ∀ tk', QB ((x.length : Int) != 0) ⟨h, gs, dr, tk', os⟩) : wpAny (model PG w) A (truthy (.str x t)) QB E ⟨h, gs, dr, tk, os⟩ :=
  PySem.P.truthy_str (s := ⟨h, gs, dr, tk, os⟩) (by omega) (k _)
/-- two tuples of a base and two lists -/
def dT (s : Str) (on off : List Int) : PyData := .tuple [.str s, di on, di off]
theorem rdT {x v2 v3 : Value} {p : Addr} {s : Str} {t : Tok} {on off : List Int} (H : Ha h p (TO [.str s t, v2, v3])) (H2 : IntsV h v2 on) (H3 : IntsV h v3 off) : ∃ as, Reads h (.ref p) (dT s on off) as := by
  obtain ⟨a2, r2⟩ := rdI H2
  obtain ⟨a3, r3⟩ := rdI H3
  obtain ⟨o, e, n, rfl⟩ := H
  exact ⟨_, .tuple e rfl rfl (by simpa using .cons (.str s t) (.cons r2 (.cons r3 .nil)))⟩
theorem eqv_dT (s : Str) (on off : List Int) : PyData.eqv (dT s on off) (dT s on off) = true := by
  unfold dT
  rw [PyData.eqv, PyData.eqvAll, PyData.eqvAll, PyData.eqvAll, PyData.eqvAll, eqv_di, eqv_di, PyData.eqv]
  simp
theorem lay_dT {s : Str} (hs : PyData.strOk s = true) (on off : List Int) : (dT s on off).canLay0 = true := by
  unfold dT
  rw [PyData.canLay0, PyData.canLayAll0, PyData.canLayAll0, PyData.canLayAll0, PyData.canLayAll0, lay_di, lay_di, PyData.canLay0, hs]
  rfl
theorem dep_dT (s : Str) (on off : List Int) : (dT s on off).depth ≤ 2 := by
  unfold dT
  rw [PyData.depth, PyData.depthAll, PyData.depthAll, PyData.depthAll, PyData.depthAll, dep_di, dep_di, PyData.depth]
  decide
theorem z_neT {v2 v3 u2 u3 : Value} {p q : Addr} {s : Str} {t t' : Tok} {on off : List Int} {k : Nat} (R : Room k A) (hs : PyData.strOk s = true) (H : Ha h p (TO [.str s t, v2, v3])) (H2 : IntsV h v2 on) (H3 : IntsV h v3 off) (J : Ha h q (TO [.str s t', u2, u3])) (J2 : IntsV h u2 on) (J3 : IntsV h u3 off)
    (k' : Q (.bool false) ⟨h, gs, dr, tk, os⟩) : wpAny (model PG w) A (compareOp .NotEq (.ref p) (.ref q)) Q E ⟨h, gs, dr, tk, os⟩ := by
  obtain ⟨as, r⟩ := rdT (x := v2) H H2 H3
  obtain ⟨as', r'⟩ := rdT (x := v2) J J2 J3
  refine PySem.SeqAt.compareNe_reads (s := ⟨h, gs, dr, tk, os⟩) r r' (lay_dT hs ..) (lay_dT hs ..) ?_ (by rw [eqv_dT]; exact k')
  exact R.cl (Nat.le_trans (Nat.min_le_left _ _) (Nat.le_trans (dep_dT ..) (by decide)))

def tabB (F : Int → Bool) (ns : List Int) : BS := ns.map fun n => (n, F n)
theorem hasB_tab (F : Int → Bool) (ns : List Int) (n : Int) : hasB (tabB F ns) n = decide (n ∈ ns) := by
  unfold hasB tabB
  rw [List.any_map]
  induction ns with
  | nil => rfl
  | cons x xs ih =>
    rw [List.any_cons, ih]
    by_cases h : x = n
    · simp [h]
    · have h' : ¬ n = x := fun e => h e.symm
      simp [h, h']
theorem getB_tab (F : Int → Bool) (ns : List Int) (n : Int) : getB (tabB F ns) n = if n ∈ ns then some (F n) else none := by
  unfold getB tabB
  rw [List.find?_map, Option.map_map]
  induction ns with
  | nil => rfl
  | cons x xs ih =>
    rw [List.find?_cons]
    by_cases h : x = n
    · simp [h]
    · have h' : ¬ n = x := fun e => h e.symm
      simp only [Function.comp_def, h, decide_false] at ih ⊢
      rw [ih]
      simp [h']
theorem putB_tab {F : Int → Bool} {ns : List Int} {n : Int} {v : Bool} (h : n ∈ ns) : putB (tabB F ns) n v = tabB (fun m => if m = n then v else F m) ns := by
  unfold putB
  rw [hasB_tab, decide_eq_true h, if_pos rfl]
  unfold tabB
  rw [List.map_map]
  apply List.map_congr_left
  intro m _
  simp only [Function.comp_def]
  split <;> rfl
theorem putB_new {F : Int → Bool} {ns : List Int} {n : Int} {v : Bool} (h : n ∉ ns) : putB (tabB F ns) n v = tabB F ns ++ [(n, v)] := by
  unfold putB
  rw [hasB_tab, decide_eq_false h, if_neg (by decide)]
theorem putB_last {st : BS} {n : Int} {u v : Bool} (h : hasB st n = false) : putB (st ++ [(n, u)]) n v = st ++ [(n, v)] := by
  unfold putB
  have e : hasB (st ++ [(n, u)]) n = true := by unfold hasB; rw [List.any_append]; simp
  rw [e, if_pos rfl, List.map_append]
  congr 1
  · unfold hasB at h
    rw [List.any_eq_false] at h
    conv => rhs; rw [← List.map_id st]
    apply List.map_congr_left
    intro p hp
    have := h p hp
    simp at this
    simp [this]
  · simp
theorem foldPut_tab (F : Int → Bool) : ∀ (ns pre : List Int), (pre ++ ns).Nodup → ns.foldl (fun st n => putB st n (F n)) (tabB F pre) = tabB F (pre ++ ns)
  | [], pre, _ => by simp
  | n :: ns, pre, h => by
    have hn : n ∉ pre := fun q => by
      rw [List.nodup_append] at h
      exact h.2.2 n q n (.head _) rfl
    rw [List.foldl_cons, putB_new hn]
    have : tabB F pre ++ [(n, F n)] = tabB F (pre ++ [n]) := by unfold tabB; rw [List.map_append]; rfl
    rw [this, foldPut_tab F ns (pre ++ [n]) (by simpa using h)]
    simp
theorem setAll_tab (F : Int → Bool) (ns : List Int) (v : Bool) : ∀ (xs : List Int), setAll (tabB F ns) xs v = tabB (fun m => if m ∈ xs then v else F m) ns
  | [] => by unfold setAll; simp
  | x :: xs => by
    have : setAll (tabB F ns) (x :: xs) v = setAll (if hasB (tabB F ns) x = true then putB (tabB F ns) x v else tabB F ns) xs v := rfl
    rw [this, hasB_tab]
    by_cases h : x ∈ ns
    · rw [decide_eq_true h, if_pos rfl, putB_tab h, setAll_tab _ ns v xs]
      unfold tabB
      apply List.map_congr_left
      intro m _
      by_cases h1 : m ∈ xs <;> by_cases h2 : m = x <;> simp [h1, h2]
    · rw [decide_eq_false h, if_neg (by decide), setAll_tab _ ns v xs]
      unfold tabB
      apply List.map_congr_left
      intro m hm
      have h2 : ¬ m = x := fun e => h (e ▸ hm)
      by_cases h1 : m ∈ xs <;> simp [h1, h2]
theorem once_mem' {ns : List Int} {n : Int} : n ∈ once ns ↔ n ∈ ns := by
  have key : ∀ (ns acc : List Int), n ∈ ns.foldl addN acc ↔ n ∈ acc ∨ n ∈ ns := by
    intro ns
    induction ns with
    | nil => intro acc; simp
    | cons x xs ih =>
      intro acc
      rw [List.foldl_cons, ih]
      unfold addN
      split
      · rename_i hx
        constructor
        · rintro (h | h)
          · exact .inl h
          · exact .inr (.tail _ h)
        · rintro (h | h)
          · exact .inl h
          · rcases List.mem_cons.mp h with rfl | h
            · exact .inl hx
            · exact .inr h
      · simp [List.mem_append, or_assoc]
  have := key ns []
  simpa [once] using this
theorem once_nodup (ns : List Int) : (once ns).Nodup := by
  have key : ∀ (ns acc : List Int), acc.Nodup → (ns.foldl addN acc).Nodup := by
    intro ns
    induction ns with
    | nil => intro acc h; exact h
    | cons x xs ih =>
      intro acc h
      rw [List.foldl_cons]
      apply ih
      unfold addN
      split
      · exact h
      · rename_i hx
        rw [List.nodup_append]
        exact ⟨h, by simp, fun a ha b hb e => hx (by rw [List.mem_singleton.mp hb] at e; exact e ▸ ha)⟩
  exact key ns [] .nil
/-- what the law holds for a group's first state -/
def firstB (T : Told) (bef : Option BS) (n : Int) : Bool := if n ∈ T.off then false else if n ∈ T.on then true else lawB T.base bef n
theorem lawStep_tab (T : Told) (bef : Option BS) {F : Int → Bool} {ns : List Int} {n : Int} (h : n ∉ ns) : lawStep T bef (tabB F ns) n = tabB F ns ++ [(n, firstB T bef n)] := by
  have hb : hasB (tabB F ns) n = false := by rw [hasB_tab, decide_eq_false h]
  unfold lawStep lawOff lawOn firstB
  rw [putB_new h]
  by_cases h1 : n ∈ T.off <;> by_cases h2 : n ∈ T.on <;> simp only [h1, h2, if_true, if_false, putB_last hb]
theorem lawStart_tab (T : Told) (bef : Option BS) {ns : List Int} (h : ns.Nodup) : lawStart ns T bef = tabB (firstB T bef) ns := by
  have key : ∀ (ns pre : List Int), (pre ++ ns).Nodup → ns.foldl (lawStep T bef) (tabB (firstB T bef) pre) = tabB (firstB T bef) (pre ++ ns) := by
    intro ns
    induction ns with
    | nil => intro pre _; simp
    | cons n ns ih =>
      intro pre h
      have hn : n ∉ pre := fun q => by
        rw [List.nodup_append] at h
        exact h.2.2 n q n (.head _) rfl
      rw [List.foldl_cons, lawStep_tab T bef hn]
      have : tabB (firstB T bef) pre ++ [(n, firstB T bef n)] = tabB (firstB T bef) (pre ++ [n]) := by unfold tabB; rw [List.map_append]; rfl
      rw [this, ih (pre ++ [n]) (by simpa using h)]
      simp
  exact key ns [] (by simpa using h)
theorem starting_tab (C : Conf) (bef : Option BS) {ns : List Int} (h : ns.Nodup) : starting ns C bef = tabB (fun n => if n ∈ C.off then false else if n ∈ C.on then true else initB C.base bef n) ns := by
  unfold starting
  have := foldPut_tab (initB C.base bef) ns [] (by simpa using h)
  rw [show ([] : BS) = tabB (initB C.base bef) [] from rfl, this, List.nil_append, setAll_tab, setAll_tab]
theorem starting_law {T : Told} {M : Int} (O : T.Ok M) (bef : Option BS) {ns : List Int} (h : ns.Nodup) : starting ns T.head.conf bef = lawStart ns T bef := by
  rw [starting_tab _ _ h, lawStart_tab _ _ h]
  unfold tabB
  apply List.map_congr_left
  intro n _
  have e1 : (n ∈ T.head.conf.off) = (n ∈ T.off) := propext (once_mem' (ns := T.off))
  have e2 : (n ∈ T.head.conf.on) = (n ∈ T.on) := propext (once_mem' (ns := T.on))
  have e3 : initB T.head.conf.base bef n = lawB T.base bef n := by
    show initB ((if T.base = "" then none else some T.base).getD "ON") bef n = _
    rcases O.base with h | h | h | h <;> rw [h] <;> cases bef <;> rfl
  simp only [e1, e2, e3]
  rfl

end
section
variable {w : World} {b : Heap} {f : Fm} {g : Heap} {m cm : Str → Option Value} {gl gl' gp gr led led' : Led} {h h' X : Heap} {A : Around} {E : Value → Shared → Prop} {env : Env} {gs : Array GenState} {dr : Drawn} {tk : Nat} {os : OsState} {x y : Str} {pos px py spos : Pos} {v t c r : Value}
  {Q : Value → Shared → Prop} {QF : Flow → Shared → Prop} {QU : Unit → Shared → Prop} {a d dx C l ta tra : Addr} {P P' : Obj → Prop} {name : Str} {s : Shared} {e : Expr} {rest : List Expr} {its : List Value} {value slice : Expr} {tab : List (Int × Value)} {trl : List (Str × Value)} {kvs : List (Str × Value)} {D : Doc} {H : Head} {o : Option Value} {ns : List Int} {ws : List Str}

def joinH (h x y : Heap) : Heap := only h fun a => (x.get? a).isSome || (y.get? a).isSome
theorem joinH_left {x y : Heap} (sx : Sub x h) : Sub x (joinH h x y) := fun a o e => by
  unfold joinH; rw [get?_only, e]; exact sx _ _ e
theorem joinH_right {x y : Heap} (sy : Sub y h) : Sub y (joinH h x y) := fun a o e => by
  unfold joinH; rw [get?_only, e, Option.isSome_some, Bool.or_true]; exact sy _ _ e
theorem joinH_out {x y : Heap} (sx : Sub x h) (sy : Sub y h) (sx' : Sub x h') (sy' : Sub y h') : Sub (joinH h x y) h' := fun a o e => by
  unfold joinH at e
  rw [get?_only] at e
  split at e
  · rename_i q
    rcases Bool.or_eq_true_iff.mp q with q | q
    · obtain ⟨o', e'⟩ := Option.isSome_iff_exists.mp q
      have := sx _ _ e'
      rw [e] at this; cases this
      exact sx' _ _ e'
    · obtain ⟨o', e'⟩ := Option.isSome_iff_exists.mp q
      have := sy _ _ e'
      rw [e] at this; cases this
      exact sy' _ _ e'
  · cases e
theorem z_orCut {e : Expr} (I : Value → Shared → Prop) (h1 : wpAny (model PG w) A (truthy v) (fun c s₂ => if c = true then I v s₂ else wpAny (model PG w) A (eval e env) I (fun _ _ => False) s₂) (fun _ _ => False) s) (h2 : ∀ v s', I v s' → Q v s') :
    wpAny (model PG w) A (truthy v) (fun c s₂ => if c = true then Q v s₂ else wpAny (model PG w) A (eval e env) Q E s₂) E s :=
  wpAny_mono h1 (fun c s₂ q => by
    cases c with
    | true => rw [if_pos rfl] at q ⊢; exact h2 _ _ q
    | false => rw [if_neg (by decide)] at q ⊢; exact wpAny_mono q h2 fun _ _ z => z.elim) fun _ _ z => z.elim
theorem z_orCutS {e : Expr} (S : St w b f g m cm gl led h) (I : Value → Heap → Led → Prop)
    (h1 : wpAny (model PG w) A (truthy v) (fun c s₂ => if c = true then (∃ g' led' h' tk', s₂ = ⟨h', gs, dr, tk', os⟩ ∧ Gle f.e g g' ∧ St w b f g' m cm gl led' h' ∧ I v g' led') else wpAny (model PG w) A (eval e env) (fun v s' => ∃ g' led' h' tk', s' = ⟨h', gs, dr, tk', os⟩ ∧ Gle f.e g g' ∧ St w b f g' m cm gl led' h' ∧ I v g' led') (fun _ _ => False) s₂) (fun _ _ => False) ⟨h, gs, dr, tk, os⟩)
    (h2 : ∀ v g' led' h' tk', Gle f.e g g' → St w b f g' m cm gl led' h' → I v g' led' → Q v ⟨h', gs, dr, tk', os⟩) :
    wpAny (model PG w) A (truthy v) (fun c s₂ => if c = true then Q v s₂ else wpAny (model PG w) A (eval e env) Q E s₂) E ⟨h, gs, dr, tk, os⟩ :=
  z_orCut (fun v s' => ∃ g' led' h' tk', s' = ⟨h', gs, dr, tk', os⟩ ∧ Gle f.e g g' ∧ St w b f g' m cm gl led' h' ∧ I v g' led') h1 fun v s' ⟨g', led', h', tk', e, G, S', i⟩ => e ▸ h2 _ _ _ _ _ G S' i
def wantP (D : Doc) (W : List Str) (n : Int) : Bool := decide (("All" : Str) ∈ W) || (wordsOf (D.words n)).any fun x => decide (x ∈ W)
theorem filter_yes {α : Type} {p : α → Bool} {x : α} (h : p x = true) : List.filter p [x] = [x] := by simp [h]
theorem filter_no {α : Type} {p : α → Bool} {x : α} (h : p x = false) : List.filter p [x] = [] := by simp [h]
theorem counted_want (D : Doc) (C : Conf) : counted D C = (once D.listed).filter (wantP D C.words) := by
  unfold counted
  split
  · rename_i h
    symm
    rw [List.filter_eq_self]
    intro n _
    unfold wantP; rw [decide_eq_true h]; rfl
  · rename_i h
    congr 1
    funext n
    unfold wantP; rw [decide_eq_false h]; rfl
def ConfAt (w : World) (b X : Heap) (a : Addr) (iv : Value) (C : Conf) : Prop := ∀ {f : Fm} {g : Heap} {m cm : Str → Option Value} {gl led : Led} {h : Heap} {A : Around} {E : Value → Shared → Prop} {gs : Array GenState} {dr : Drawn} {tk : Nat} {os : OsState} {Q : Value → Shared → Prop},
  St w b f g m cm gl led h → Room 10 A → Sub X h → (∀ r g' h' tk', Gle f.e g g' → St w b f g' m cm gl led h' → ConfV w g' r C → Q r ⟨h', gs, dr, tk', os⟩) → wpAny (model PG w) A (call (.ref 444) [.ref a, iv] []) Q E ⟨h, gs, dr, tk, os⟩
inductive IntentsV (w : World) (h : Heap) (v : Value) (D : Doc) : Prop
  | mk d kvs (q1 : v = .ref d) (q2 : Ha h d (ID w d kvs)) (q3 : ∀ n : Int, 1 ≤ n → n ≤ D.many → ∃ wv, valueAt kvs n = some wv ∧ StrsV h wv (D.words n)) : IntentsV w h v D
theorem right_spec {iv tv nv ov bv : Value} {TD : Told} {M : Int} {bef : Option BS} (S : St w b f g m cm gl led h) (RM : Room 11 A) (sX : Sub X h) (SK : ShOk w X a D) (DO : D.Ok) (CA : ConfAt w b X a iv TD.head.conf) (TK : TD.Ok M) (TV : ToldD w X tv TD) (IV : IntentsV w X nv D) (OV : IntsV X ov (once D.listed)) (BV : BefV w X bv bef)
    (k : ∀ g' h' tk', Gle f.e g g' → St w b f g' m cm gl led h' → Q (.bool true) ⟨h', gs, dr, tk', os⟩) : wpAny (model PG w) A (call (.ref 534) [.ref a, iv, tv, nv, ov, bv] []) Q E ⟨h, gs, dr, tk, os⟩ := by
  have big : (10000 : Nat) ≤ sizeLine := by rw [sizeLine_eq]; decide
  obtain ⟨td, t0, v1, v2, v3, v4, v5, rfl, TH, q1, q2, q3, q4, q5⟩ := TV
  obtain ⟨nd, nkvs, rfl, NH, NK⟩ := IV
  obtain ⟨ln, nvs, rfl, LN, NA⟩ := id OV
  refine wpAny_call ?_
  refine' z_enterCV (gp := []) (gr := gl) (binds := [("shelf", .ref a), ("index", iv), ("told_of", .ref td), ("intents", .ref nd), ("order", .ref ln), ("before", bv)]) S RM ?k1 ?k2 ?k3 ?k4 ?k5 ?_ ?k6 ?k7 ?k8
  case k1 => k_is
  case k2 => k_is
  case k3 => exact BindsTo.of_eq rfl
  case k4 => rfl
  case k5 => decide
  case k6 => rfl
  case k7 => rfl
  case k8 => rfl
  intro L' h1 tk1 Q9 E9 A9 f9 m9 cm9 S1 RM1 hret9 hnext9 hE9
  have sx : Sub X h1 := fun a o e => S1.ke _ _ (sX _ _ e)
  repeat' (first | walk_at "Z" | walk_at "Zif")
  refine CA S1 RM1 sx fun cv g2 h2 tk2 G2 S2 CV => ?_
  repeat' (first | walk_at "Z" | walk_at "Zif")
  rename_i h3 S3
  obtain ⟨ca, cdx, ct, c2, c3, c4, c5, c6, c7, rfl, CI, CD, f2, f3, f4, f5, f7⟩ := id CV
  refine' z_attr S3 (CI.keeps S3.kg) (CD.keeps S3.kg) rfl ?k1 ?k2 ?k3 rfl ?_
  case k1 => k_is
  case k2 => k_is
  case k3 => k_is
  repeat' (first | walk_at "Z" | walk_at "Zif")
  refine' z_attr S3 (CI.keeps S3.kg) (CD.keeps S3.kg) rfl ?k1 ?k2 ?k3 rfl ?_
  case k1 => k_is
  case k2 => k_is
  case k3 => k_is
  repeat' (first | walk_at "Z" | walk_at "Zif")
  refine' z_attr S3 (CI.keeps S3.kg) (CD.keeps S3.kg) rfl ?k1 ?k2 ?k3 rfl ?_
  case k1 => k_is
  case k2 => k_is
  case k3 => k_is
  repeat' (first | walk_at "Z" | walk_at "Zif")
  rename_i tp h4 S4 ntp
  have sx4 : Sub X h4 := fun a o e => S4.ke _ _ (sX _ _ e)
  refine zz_itemA (kk := ("BaseState" : Str)) (TH.keeps sx4).sd (sis _ _) rfl ?_ (by with_unfolding_all rfl)
  repeat' (first | walk_at "Z" | walk_at "Zif")
  refine z_orCut (fun v s' => ∃ t tk', v = .str (TD.head.base.getD "ON") t ∧ s' = ⟨h4, gs, dr, tk', os⟩) ?_ ?_
  · refine z_truthyS (by rcases TK.base with e | e | e | e <;> rw [e] <;> decide) fun tk' => ?_
    by_cases hb : TD.base = ""
    · rw [show ((TD.base.length : Int) != 0) = false by rw [hb]; decide]
      refine if_f rfl ?_
      repeat' (first | walk_at "Z" | walk_at "Zif")
      exact ⟨_, _, by show _ = Value.str ((if TD.base = "" then none else some TD.base).getD "ON") _; rw [if_pos hb]; rfl, rfl⟩
    · rw [show ((TD.base.length : Int) != 0) = true by rcases TK.base with e | e | e | e <;> first | exact absurd e hb | (rw [e]; decide)]
      refine if_t rfl ?_
      exact ⟨_, _, by show _ = Value.str ((if TD.base = "" then none else some TD.base).getD "ON") _; rw [if_neg hb]; rfl, rfl⟩
  · rintro vb s' ⟨tb, tkb, rfl, rfl⟩
    repeat' (first | walk_at "Z" | walk_at "Zif")
    obtain ⟨_, vs1, ez, L1, A1⟩ := id q1
    cases ez
    obtain ⟨_, vs2, ez, L2, A2⟩ := id q2
    cases ez
    refine zz_itemA (kk := ("ON" : Str)) (TH.keeps sx4).sd (sis _ _) rfl ?_ (by with_unfolding_all rfl)
    repeat' (first | walk_at "Z" | walk_at "Zif")
    refine once_spec S4 (RM1.less (by decide)) (L1.keeps sx4) A1 (Nat.le_trans TK.lon (by decide)) fun r1 g5 h5 tk5 G5 S5 V1 => ?_
    repeat' (first | walk_at "Z" | walk_at "Zif")
    have sx5 : Sub X h5 := fun a o e => S5.ke _ _ (sX _ _ e)
    refine zz_itemA (kk := ("OFF" : Str)) (TH.keeps sx5).sd (sis _ _) rfl ?_ (by with_unfolding_all rfl)
    repeat' (first | walk_at "Z" | walk_at "Zif")
    refine once_spec S5 (RM1.less (by decide)) (L2.keeps sx5) A2 (Nat.le_trans TK.loff (by decide)) fun r2 g6 h6 tk6 G6 S6 V2 => ?_
    repeat' (first | walk_at "Z" | walk_at "Zif")
    rename_i tp2 h7 S7 ntp2
    have sx7 : Sub X h7 := fun a o e => S7.ke _ _ (sX _ _ e)
    have sg7 : Sub g2 h7 := fun a o e => S7.kg _ _ (G6.1 _ _ (G5.1 _ _ e))
    have sok : PyData.strOk (TD.head.base.getD "ON") = true := by
      show PyData.strOk ((if TD.base = "" then none else some TD.base).getD "ON") = true
      rcases TK.base with e | e | e | e <;> rw [e] <;> decide +kernel
    refine z_neT RM1 sok (S7.ha (.tail _ (.head _))) (LV.mono monoI f2 sg7) (LV.mono monoI f3 sg7) (S7.ha (.head _)) (LV.mono monoI V1 fun a o e => S7.kg _ _ (G6.1 _ _ e)) (LV.mono monoI V2 S7.kg) ?_
    repeat' (first | walk_at "Z" | walk_at "Zif")
    refine' z_attr S7 (CI.keeps sg7) (CD.keeps sg7) rfl ?k1 ?k2 ?k3 rfl ?_
    case k1 => k_is
    case k2 => k_is
    case k3 => k_is
    repeat' (first | walk_at "Z" | walk_at "Zif")
    refine z_comp (cl := []) rfl rfl (by decide) ?_ (fun _ => rfl)
    repeat' (first | walk_at "Z" | walk_at "Zif")
    refine zz_itemA (kk := ("rows" : Str)) (TH.keeps sx7).sd (sis _ _) rfl ?_ (by with_unfolding_all rfl)
    obtain ⟨_, vs3, ez, L3, A3⟩ := id q3
    cases ez
    have l3 : vs3.length ≤ 2 := by rw [A3.length]; exact TK.lrows
    refine z_compL S7 RM1.hh (L3.keeps sx7) (fun p hp => nomatch hp) (by omega) (by decide) rfl rfl (fun i zs g gl => gl = [] ∧ zs.length ≤ i ∧ All2 (IntsV g) zs ((TD.rows.take i).map once)) ⟨rfl, Nat.le_refl _, .nil⟩ (fun i ys g gl q => q.2.1) (fun i ys g gl ⟨q, _⟩ => by rw [q]) (CompTurnQ.turn ?_) ?_
    · intro C i v e'' zs g₂ m₂ gl₂ h₂ tk₂ Qy9 Qn9 J9 hi hv hs2 hG2 f9 m9 S8 hy9 hz9 j9
      obtain ⟨rfl, hzl, hz⟩ := j9
      obtain ⟨row, hrow, RW⟩ := A3.get hv
      obtain ⟨lr, rvs, rfl, LR, RA⟩ := id RW
      have sx8 : Sub X h₂ := fun a o e => S8.ke _ _ (hs2 _ _ (sx7 _ _ e))
      refine tests_nil (if_t rfl ?_)
      repeat' (first | walk_at "Z" | walk_at "Zif")
      refine once_spec S8 (RM1.less (by decide)) (LR.keeps sx8) RA (Nat.le_trans (TK.lrow _ (List.mem_of_getElem? hrow)) (by decide)) fun r g9 h9 tk9 G9 S9 V9 => ?_
      exact hy9.go S9 G9 ⟨rfl, by simp; omega, by rw [take_snoc hrow, List.map_append]; exact (hz.mono fun _ _ z => LV.mono monoI z G9.1).snoc V9⟩
    · rintro W2 zs g8 gl8 h8 tk8 ⟨rfl, hzl, hz⟩ G8 S8 nW2 _
      rw [A3.length, List.take_length] at hz
      have sx8 : Sub X h8 := fun a o e => S8.ke _ _ (sX _ _ e)
      have sg8 : Sub g2 h8 := fun a o e => S8.kg _ _ (G8.1 _ _ (G6.1 _ _ (G5.1 _ _ e)))
      repeat' (first | walk_at "Z" | walk_at "Zif")
      refine z_neII RM1 (ns := TD.head.conf.radio) (ns' := TD.rows.map once) (LV.mono (monoL monoI) f4 sg8) ⟨_, _, rfl, S8.ha (.head _), hz.mono fun _ _ z => LV.mono monoI z S8.kg⟩ ?_
      rw [show decide (TD.head.conf.radio = TD.rows.map once) = true from decide_eq_true rfl]
      repeat' (first | walk_at "Z" | walk_at "Zif")
      refine' z_attr S8 (CI.keeps sg8) (CD.keeps sg8) rfl ?k1 ?k2 ?k3 rfl ?_
      case k1 => k_is
      case k2 => k_is
      case k3 => k_is
      repeat' (first | walk_at "Z" | walk_at "Zif")
      obtain ⟨_, vs4, ez, L4, A4⟩ := id q4
      cases ez
      refine zz_itemA (kk := ("Locked" : Str)) (TH.keeps sx8).sd (sis _ _) rfl ?_ (by with_unfolding_all rfl)
      repeat' (first | walk_at "Z" | walk_at "Zif")
      refine once_spec S8 (RM1.less (by decide)) (L4.keeps sx8) A4 (Nat.le_trans TK.llocked (by decide)) fun r4 g10 h10 tk10 G10 S10 V10 => ?_
      have sx10 : Sub X h10 := fun a o e => S10.ke _ _ (sX _ _ e)
      have sg10 : Sub g2 h10 := fun a o e => S10.kg _ _ (G10.1 _ _ (G8.1 _ _ (G6.1 _ _ (G5.1 _ _ e))))
      repeat' (first | walk_at "Z" | walk_at "Zif")
      refine z_neI RM1 (ns := TD.head.conf.locked) (ns' := once TD.locked) (LV.mono monoI f5 sg10) (LV.mono monoI V10 S10.kg) ?_
      rw [show decide (TD.head.conf.locked = once TD.locked) = true from decide_eq_true rfl]
      repeat' (first | walk_at "Z" | walk_at "Zif")
      obtain ⟨_, vs5, ez, L5, A5⟩ := id q5
      cases ez
      have S11 := S10.forget
      clear S10
      refine zz_itemA (kk := ("words" : Str)) (TH.keeps sx10).sd (sis _ _) rfl ?_ (by with_unfolding_all rfl)
      repeat' (first | walk_at "Z" | walk_at "Zif")
      refine z_orCutS S11 (fun v g' led' => led' = [] ∧ ∃ lw, v = .ref lw ∧ ∀ h₂, Sub X h₂ → Sub g' h₂ → StrsV h₂ (.ref lw) (wordsOf TD.words)) ?_ ?_
      · refine z_truthyL (L5.keeps sx10) (by rw [A5.length]; exact Nat.le_trans TK.lwords (by decide)) fun tk' => ?_
        cases hv5 : vs5.isEmpty with
        | true =>
          refine if_f rfl ?_
          repeat' (first | walk_at "Z" | walk_at "Zif")
          rename_i lv h12 S12 nlv
          have e5 : TD.words = [] := by
            have := A5.empty; rw [hv5] at this; exact List.isEmpty_iff.mp this.symm
          obtain ⟨g13, G13, FZ, S13⟩ := St.freeze (new := [(lv, _)]) (led := []) S12
          have FV := FZ _ (.head _)
          have FV' : ∃ t, Ha g13 lv (LO [.str "View" t]) := ⟨_, FV⟩
          obtain ⟨tv, FV'⟩ := FV'
          exact ⟨_, _, _, _, rfl, G13, S13, rfl, _, rfl, fun h₂ _ q => ⟨_, _, rfl, FV'.keeps q, by rw [e5]; exact .cons ⟨_, rfl⟩ .nil⟩⟩
        | false =>
          refine if_t rfl ?_
          have e5 : ¬ TD.words = [] := fun e => by
            have := A5.empty; rw [hv5, e] at this; cases this
          exact ⟨_, _, _, _, rfl, Gle.refl _ _, S11, rfl, _, rfl, fun h₂ q _ => by unfold wordsOf; rw [if_neg e5]; exact ⟨_, _, rfl, L5.keeps q, A5⟩⟩
      · rintro vw g12 led12 h12 tk12 G12 S12 ⟨rfl, lw, rfl, WV⟩
        repeat' (first | walk_at "Z" | walk_at "Zif")
        refine z_compA (cl := [("wanted", L' + 1 + 1), ("intents", L' + 1)]) rfl rfl rfl (by decide) ?_ (fun _ => rfl)
        repeat' (first | walk_at "Z" | walk_at "Zif")
        rename_i h13 S13
        have sx13 : Sub X h13 := fun a o e => S13.ke _ _ (sX _ _ e)
        have nl1 : nvs.length ≤ 100 := by rw [NA.length]; exact Nat.le_trans (once_len _) DO.llisted
        generalize hW : wordsOf TD.words = W at WV
        have lW : ∀ n, (wordsOf (D.words n)).length ≤ 100 := fun n => by
          unfold wordsOf
          split
          · decide
          · exact DO.lwords n
        refine z_compLA S13 RM1.hh (LN.keeps sx13) (fun p hp => nomatch hp) (by omega) (by decide) rfl rfl rfl rfl rfl (fun i ys g gl => gl = [] ∧ ys.length ≤ i ∧ All2 IntV ys (((once D.listed).take i).filter (wantP D W))) ⟨rfl, Nat.le_refl _, .nil⟩ (fun i ys g gl q => q.2.1) (fun i ys g gl ⟨q, _⟩ => by rw [q]) (CompTurnQ.turn ?_) ?_
        · intro C i vv e'' zs g₂ m₂ gl₂ h₂ tk₂ Qy9 Qn9 J9 hi hv hs2 hG2 f9 m9 S14 hy9 hz9 j9
          obtain ⟨rfl, hzl, hz⟩ := j9
          obtain ⟨n, hn, t, rfl⟩ := NA.get hv
          have sx14 : Sub X h₂ := fun a o e => S14.ke _ _ (hs2 _ _ (sx13 _ _ e))
          have hcW : e''.IsCell (L' + 1 + 1) (some (.ref lw)) := (S13.cellE (x := "wanted") (lookup_mem rfl) rfl).keeps hs2
          have hcI : e''.IsCell (L' + 1) (some (.ref nd)) := (S13.cellE (x := "intents") (lookup_mem rfl) rfl).keeps hs2
          have W14 := WV h₂ sx14 (fun a o e => S14.kg _ _ (hG2.1 _ _ e))
          refine tests_one ?_
          repeat' (first | walk_at "Z" | walk_at "Zif")
          refine z_inS W14 ?_
          by_cases hA : ("All" : Str) ∈ W
          · rw [decide_eq_true hA]
            repeat' (first | walk_at "Z" | walk_at "Zif")
            exact hy9.go S14 (Gle.refl _ _) ⟨rfl, by simp; omega, by rw [take_snoc hn, List.filter_append, filter_yes (by unfold wantP; rw [decide_eq_true hA]; rfl)]; exact hz.snoc ⟨_, rfl⟩⟩
          · rw [decide_eq_false hA]
            have gn := DO.listed n (once_mem (List.mem_of_getElem? hn))
            obtain ⟨wv, hwv, SWV⟩ := NK n gn.1 gn.2
            obtain ⟨lx, xvs, rfl, LX, XA⟩ := id SWV
            repeat' (first | walk_at "Z" | walk_at "Zif")
            refine z_comp (cl := [("wanted", L' + 1 + 1)]) rfl rfl (by decide) ?_ (fun _ => rfl)
            repeat' (first | walk_at "Z" | walk_at "Zif")
            refine zz_itemA (kk := n) (NH.keeps sx14).id (iis _ _) hwv ?_ (by with_unfolding_all rfl)
            repeat' (first | walk_at "Z" | walk_at "Zif")
            have lx1 : xvs.length ≤ 100 := by rw [XA.length]; exact DO.lwords n
            refine z_orCutS S14 (fun v g' led' => led' = [] ∧ ∃ ls, v = .ref ls ∧ ∀ h₂, Sub X h₂ → Sub g' h₂ → StrsV h₂ (.ref ls) (wordsOf (D.words n))) ?_ ?_
            · refine z_truthyL (LX.keeps sx14) (by omega) fun tk' => ?_
              cases hv5 : xvs.isEmpty with
              | true =>
                refine if_f rfl ?_
                repeat' (first | walk_at "Z" | walk_at "Zif")
                rename_i lv h15 S15 nlv
                have e5 : D.words n = [] := by
                  have := XA.empty; rw [hv5] at this; exact List.isEmpty_iff.mp this.symm
                obtain ⟨g15, G15, FZ, S15'⟩ := St.freeze (new := [(lv, _)]) (led := []) S15
                have FV := FZ _ (.head _)
                have FV' : ∃ t, Ha g15 lv (LO [.str "View" t]) := ⟨_, FV⟩
                obtain ⟨tv, FV'⟩ := FV'
                exact ⟨_, _, _, _, rfl, G15, S15', rfl, _, rfl, fun h₂ _ q => ⟨_, _, rfl, FV'.keeps q, by rw [e5]; exact .cons ⟨_, rfl⟩ .nil⟩⟩
              | false =>
                refine if_t rfl ?_
                have e5 : ¬ D.words n = [] := fun e => by
                  have := XA.empty; rw [hv5, e] at this; cases this
                exact ⟨_, _, _, _, rfl, Gle.refl _ _, S14, rfl, _, rfl, fun h₂ q _ => by unfold wordsOf; rw [if_neg e5]; exact ⟨_, _, rfl, LX.keeps q, XA⟩⟩
            · rintro vl g15 led15 h15 tk15 G15 S15 ⟨rfl, ls, rfl, LSV⟩
              have sx15 : Sub X h15 := fun a o e => S15.ke _ _ (hs2 _ _ (sx13 _ _ e))
              obtain ⟨_, pvs, ez, PN, PA⟩ := LSV h15 sx15 S15.kg
              cases ez
              have lp := lW n
              rw [← PA.length] at lp
              refine z_compL S15 RM1.hh PN (fun p hp => nomatch hp) (by omega) (by decide) rfl rfl (fun j ys g gl => g15 = g ∧ gl = [] ∧ ys.length ≤ j ∧ All2 StrV ys (((wordsOf (D.words n)).take j).filter fun x => decide (x ∈ W))) ⟨rfl, rfl, Nat.le_refl _, .nil⟩ (fun i ys g gl q => q.2.2.1) (fun i ys g gl ⟨_, q, _⟩ => by rw [q]) (CompTurnQ.turn ?_) ?_
              · intro C2 j vv2 e3 zs2 g3 m3 gl3 h3' tk3 Qy9 Qn9 J9 hj hv2 hs3 hG3 f9 m9 S16 hy9 hz9 j9
                obtain ⟨rfl, rfl, hzl2, hz2⟩ := j9
                obtain ⟨x, hx, t', rfl⟩ := PA.get hv2
                have sx16 : Sub X h3' := fun a o e => S16.ke _ _ (hs3 _ _ (sx15 _ _ e))
                have hcW2 : e3.IsCell (L' + 1 + 1) (some (.ref lw)) := (hcW.keeps S15.ke).keeps hs3
                have W16 := WV h3' sx16 (fun a o e => S16.kg _ _ (G15.1 _ _ (hG2.1 _ _ e)))
                refine tests_one ?_
                repeat' (first | walk_at "Z" | walk_at "Zif")
                refine z_inS W16 ?_
                by_cases hxw : x ∈ W
                · rw [decide_eq_true hxw]
                  repeat' (first | walk_at "Z" | walk_at "Zif")
                  exact hy9.go S16 (Gle.refl _ _) ⟨rfl, rfl, by simp; omega, by rw [take_snoc hx, List.filter_append, filter_yes (p := fun x => decide (x ∈ W)) (decide_eq_true hxw)]; exact hz2.snoc ⟨_, rfl⟩⟩
                · rw [decide_eq_false hxw]
                  repeat' (first | walk_at "Z" | walk_at "Zif")
                  exact hz9.go S16 (Gle.refl _ _) ⟨rfl, rfl, by omega, by rw [take_snoc hx, List.filter_append, filter_no (p := fun x => decide (x ∈ W)) (decide_eq_false hxw), List.append_nil]; exact hz2⟩
              · rintro W2 zs2 g3 gl3 h3' tk3 ⟨rfl, rfl, hzl2, hz2⟩ G16 S16 nW2 _
                rw [PA.length, List.take_length] at hz2
                repeat' (first | walk_at "Z" | walk_at "Zif")
                rename_i lz h17 S17 nlz
                have hb := filter_ne (wordsOf (D.words n)) fun x => decide (x ∈ W)
                rw [← hz2.empty] at hb
                refine z_neNil RM1 (S17.ha (.tail _ (.head _))) (S17.ha (.head _)) ?_
                rw [hb]
                cases hany : (wordsOf (D.words n)).any fun x => decide (x ∈ W) with
                | true =>
                  repeat' (first | walk_at "Z" | walk_at "Zif")
                  exact hy9.go (S17.sub (List.sublist_append_right [_, _] _)) G15 ⟨rfl, by simp; omega, by rw [take_snoc hn, List.filter_append, filter_yes (by unfold wantP; rw [hany, Bool.or_true])]; exact hz.snoc ⟨_, rfl⟩⟩
                | false =>
                  repeat' (first | walk_at "Z" | walk_at "Zif")
                  exact hz9.go (S17.sub (List.sublist_append_right [_, _] _)) G15 ⟨rfl, by omega, by rw [take_snoc hn, List.filter_append, filter_no (by unfold wantP; rw [hany, decide_eq_false hA]; rfl), List.append_nil]; exact hz⟩
        · rintro W3 zs g14 gl14 h14 tk14 ⟨rfl, hzl, hz⟩ G14 S14 nW3
          rw [NA.length, List.take_length] at hz
          obtain ⟨g15, G15, FZ, S15⟩ := St.freeze (new := [(W3, LO zs)]) (led := []) S14
          have FW : Ha g15 W3 (LO zs) := FZ _ (.head _)
          have sx15 : Sub X h14 := fun a o e => S15.ke _ _ (sX _ _ e)
          have GG : Gle (hideAll h (([] : Led).map (·.1))) g g15 := (((((G2.trans G5).trans G6).trans G8).trans G10).trans G12).trans (G14.trans G15)
          have s2_15 : Sub g2 g15 := fun a o e => G15.1 _ _ (G14.1 _ _ (G12.1 _ _ (G10.1 _ _ (G8.1 _ _ (G6.1 _ _ (G5.1 _ _ e))))))
          have jx : Sub X (joinH h14 X g15) := joinH_left sx15
          have jg : Sub g15 (joinH h14 X g15) := joinH_right S15.kg
          have jout : ∀ {h₂ : Heap}, Sub X h₂ → Sub g15 h₂ → Sub (joinH h14 X g15) h₂ := fun q1 q2 => joinH_out sx15 S15.kg q1 q2
          generalize joinH h14 X g15 = Y at jx jg jout
          have zl : zs.length ≤ 100 := by omega
          repeat' (first | walk_at "Z" | walk_at "Zif")
          refine counted_spec S15 (RM1.less (by decide)) (jout sx15 S15.kg) (SK.mono jx) DO (CV.mono fun a o e => jg _ _ (s2_15 _ _ e)) fun rc g16 h16 tk16 G16 S16 V16 => ?_
          have hcnt : counted D TD.head.conf = (once D.listed).filter (wantP D W) := by
            rw [counted_want, ← hW]; rfl
          rw [hcnt] at V16
          have nd : ((once D.listed).filter (wantP D W)).Nodup := (once_nodup _).filter _
          have sx16 : Sub X h16 := fun a o e => S16.ke _ _ (sX _ _ e)
          have sy16 : Sub Y h16 := jout sx16 fun a o e => S16.kg _ _ (G16.1 _ _ e)
          have NVY : IntsV Y (.ref W3) ((once D.listed).filter (wantP D W)) := ⟨_, _, rfl, FW.keeps jg, hz⟩
          have lY : ((once D.listed).filter (wantP D W)).length ≤ 100 := by rw [← hz.length]; exact zl
          generalize (once D.listed).filter (wantP D W) = those at *
          repeat' (first | walk_at "Z" | walk_at "Zif")
          refine z_neI RM1 (ns := those) (ns' := those) (LV.mono monoI V16 S16.kg) (LV.mono monoI NVY sy16) ?_
          rw [show decide (those = those) = true from decide_eq_true rfl]
          repeat' (first | walk_at "Z" | walk_at "Zif")
          refine start_spec S16 (RM1.less (by decide)) sy16 NVY (CV.mono fun a o e => jg _ _ (s2_15 _ _ e)) (BV.mono jx) lY fun r17 g17 h17 tk17 G17 S17 V17 => ?_
          rw [starting_law TK bef nd] at V17
          have sx17 : Sub X h17 := fun a o e => S17.ke _ _ (sX _ _ e)
          have sy17 : Sub Y h17 := jout sx17 fun a o e => S17.kg _ _ (G17.1 _ _ (G16.1 _ _ e))
          repeat' (first | walk_at "Z" | walk_at "Zif")
          refine lawb_spec S17 (RM1.less (by decide)) sy17 NVY (ToldD.mono ⟨td, t0, v1, v2, v3, v4, v5, rfl, TH, q1, q2, q3, q4, q5⟩ jx) (BV.mono jx) lY fun r18 g18 h18 tk18 G18 S18 V18 => ?_
          repeat' (first | walk_at "Z" | walk_at "Zif")
          refine z_eqB RM1 (V17.mono fun a o e => S18.kg _ _ (G18.1 _ _ e)) (V18.mono S18.kg) ?_
          repeat' (first | walk_at "Z" | walk_at "Zif")
          have B := S.back (gp := []) (gr := gl) rfl (GG.trans (G16.trans (G17.trans G18))) S18 rfl
          exact k _ _ _ B.1 (B.2.sub (List.sublist_append_right _ _))

end
section
variable {w : World} {b : Heap} {f : Fm} {g : Heap} {m cm : Str → Option Value} {gl gl' gp gr led led' : Led} {h h' X : Heap} {A : Around} {E : Value → Shared → Prop} {env : Env} {gs : Array GenState} {dr : Drawn} {tk : Nat} {os : OsState} {x y : Str} {pos px py spos : Pos} {v t c r : Value}
  {Q : Value → Shared → Prop} {QF : Flow → Shared → Prop} {QU : Unit → Shared → Prop} {a d dx C l ta tra : Addr} {P P' : Obj → Prop} {name : Str} {s : Shared} {e : Expr} {rest : List Expr} {its : List Value} {value slice : Expr} {tab : List (Int × Value)} {trl : List (Str × Value)} {kvs : List (Str × Value)} {D : Doc} {H : Head} {o : Option Value} {ns : List Int} {ws : List Str}

theorem new_Shelf (S : St w b f g m cm gl led h) (RM : Room 3 A)
    (k : ∀ a dx ta tra g' h' tk', Gle f.e g g' → St w b f g' m cm gl ((ta, ID w ta []) :: (tra, SD w tra []) :: led) h' → Ha g' a (IO 363 dx) → Ha g' dx (SD w dx [("table", .ref ta), ("trailer", .ref tra)]) → Q (.ref a) ⟨h', gs, dr, tk', os⟩) : wpAny (model PG w) A (call (.ref 363) [] []) Q E ⟨h, gs, dr, tk, os⟩ := by
  refine' z_make S RM ?k1 ?k2 ?k3 ?_
  case k1 => k_is
  case k2 => k_is
  case k3 => k_is
  intro x dx h1 nx ndx S1 RM1
  refine' z_enterV (gp := [(dx, SD w dx [])]) (gr := gl) (binds := [("self", .ref x), ("table", .none), ("trailer", .none)]) S1 RM1 ?k1 ?k2 ?k3 ?k4 ?_ ?k5 ?k6 ?k7 ?k8
  case k1 => k_is
  case k2 => k_is
  case k3 => exact binds_K S1.K rfl (by k_is) rfl rfl rfl
  case k4 => exact locs rfl
  case k5 => decide
  case k6 => rfl
  case k7 => rfl
  case k8 => rfl
  intro L' h2 Q9 E9 A9 f9 m9 S2 RM2 hret9 hnext9 hE9
  have I : ∀ {h : Heap}, Sub (hideAll h1 ([(dx, SD w dx [])].map (·.1))) h → Ha h x (IO 363 dx) := fun k => (S1.pass (gp := [(dx, SD w dx [])]) (List.mem_append_right _ (.head _))).keeps k
  repeat' (first | walk_at "Z" | walk_at "Zif")
  refine z_newDict S2 fun ta h3 nta S3s S3 => ?_
  clear S3s
  repeat' (first | walk_at "Z" | walk_at "Zif")
  refine' z_setAttr S3 (I S3.ke) .here ?k1 ?k2 ?k3 ?k4 ?_ (Nat.le_of_ble_eq_true rfl)
  case k1 => k_is
  case k2 => k_is
  case k3 => k_is
  case k4 => k_is
  intro h4 S4
  repeat' (first | walk_at "Z" | walk_at "Zif")
  refine z_newDict S4 fun tra h5 ntra S5 S5i => ?_
  clear S5i
  repeat' (first | walk_at "Z" | walk_at "Zif")
  refine' z_setAttr S5 (I S5.ke) .here ?k1 ?k2 ?k3 ?k4 ?_ (Nat.le_of_ble_eq_true rfl)
  case k1 => k_is
  case k2 => k_is
  case k3 => k_is
  case k4 => k_is
  intro h6 S6
  repeat' (first | walk_at "Z" | walk_at "Zif")
  refine ⟨rfl, ?_⟩
  have B := (S1.back (gp := [(dx, SD w dx [])]) (gr := gl) rfl (Gle.refl _ _) S6 rfl).2
  have P : ((dx, SD w dx (stored (stored [] "table" (.ref ta)) "trailer" (.ref tra))) :: (gl ++ (tra, SD w tra []) :: (ta, ID w ta []) :: (x, IO 363 dx) :: led)).Perm (gl ++ ((x, IO 363 dx) :: (dx, SD w dx (stored (stored [] "table" (.ref ta)) "trailer" (.ref tra))) :: (ta, ID w ta []) :: (tra, SD w tra []) :: led)) := by
    refine List.perm_middle.symm.trans (List.Perm.append_left _ ?_)
    refine (List.Perm.cons _ (List.Perm.swap _ _ _)).trans ?_
    refine (List.Perm.cons _ (List.Perm.cons _ (List.Perm.swap _ _ _))).trans ?_
    refine (List.Perm.cons _ (List.Perm.swap _ _ _)).trans ?_
    refine (List.Perm.swap _ _ _).trans ?_
    exact List.Perm.cons _ (List.Perm.cons _ (List.Perm.refl _))
  have S7 : St w b f g m cm gl ([(x, IO 363 dx), (dx, SD w dx (stored (stored [] "table" (.ref ta)) "trailer" (.ref tra)))] ++ ((ta, ID w ta []) :: (tra, SD w tra []) :: led)) h6 := B.perm P
  obtain ⟨g', G, FZ, S8⟩ := S7.freeze
  exact k _ _ _ _ _ _ _ G S8 (FZ _ (.head _)) (FZ _ (.tail _ (.head _)))

end
section
variable {w : World} {b : Heap} {f : Fm} {g : Heap} {m cm : Str → Option Value} {gl gl' gp gr led led' : Led} {h h' X : Heap} {A : Around} {E : Value → Shared → Prop} {env : Env} {gs : Array GenState} {dr : Drawn} {tk : Nat} {os : OsState} {x y : Str} {pos px py spos : Pos} {v t c r : Value}
  {Q : Value → Shared → Prop} {QF : Flow → Shared → Prop} {QU : Unit → Shared → Prop} {a d dx C l ta tra : Addr} {P P' : Obj → Prop} {name : Str} {s : Shared} {e : Expr} {rest : List Expr} {its : List Value} {value slice : Expr} {tab : List (Int × Value)} {trl : List (Str × Value)} {kvs : List (Str × Value)} {D : Doc} {H : Head} {o : Option Value} {ns : List Int} {ws : List Str}

def fnParts (K : Frag) (n : Addr) : Option (List Stmt × Scope) := match K.lookup n with
  | some ⟨_, _, .func fd, _⟩ => (match fd.body with | .stmts b => some (b, fd.scope) | _ => none)
  | _ => none
theorem parts_of {K : Frag} {n : Addr} {oc : Value} {od an : Option Addr} {osl : Array (Option Value)} {qual : Str} {params : Arguments} {body : List Stmt} {scope : Scope} {cl : List (Str × Addr)} {dV kV doc pm cdv ct : Value}
    (e : K.lookup n = some ⟨oc, od, .func (fnX name qual params body scope cl dV kV doc pm an cdv ct), osl⟩) : fnParts K n = some (body, scope) := by
  unfold fnParts; rw [e]
/-- the law's statements and scope, not to be opened by chance -/
theorem lw_ex (w : World) : ∃ p : List Stmt × Scope, p = (fnParts (hd.heap_39 w.params) 553).getD ([], { kind := .function, names := [], isGenerator := false, isCoroutine := false }) := ⟨_, rfl⟩
noncomputable def lwB (w : World) : List Stmt := (Classical.choose (lw_ex w)).1
noncomputable def lwS (w : World) : Scope := (Classical.choose (lw_ex w)).2
theorem law_parts {oc : Value} {od an : Option Addr} {osl : Array (Option Value)} {qual : Str} {params : Arguments} {body : List Stmt} {scope : Scope} {cl : List (Str × Addr)} {dV kV doc pm cdv ct : Value} {P : List Stmt → Scope → Prop}
    (e : (hd.heap_39 w.params).lookup 553 = some ⟨oc, od, .func (fnX name qual params body scope cl dV kV doc pm an cdv ct), osl⟩) (h : P body scope) : P (lwB w) (lwS w) := by
  unfold lwB lwS; rw [Classical.choose_spec (lw_ex w), parts_of e]; exact h
theorem law_parts' {oc : Value} {od an : Option Addr} {osl : Array (Option Value)} {qual : Str} {params : Arguments} {body : List Stmt} {scope : Scope} {cl : List (Str × Addr)} {dV kV doc pm cdv ct : Value} {P : List Stmt → Scope → Prop}
    (e : (hd.heap_39 w.params).lookup 553 = some ⟨oc, od, .func (fnX name qual params body scope cl dV kV doc pm an cdv ct), osl⟩) (h : P (lwB w) (lwS w)) : P body scope := by
  unfold lwB lwS at h; rw [Classical.choose_spec (lw_ex w), parts_of e] at h; exact h
abbrev lawCl (L : Addr) : List (Str × Addr) := [("rows", L + 1 + 1 + 1 + 1 + 1), ("due", L + 1 + 1 + 1 + 1), ("states", L + 1 + 1 + 1), ("many", L + 1 + 1), ("take", L + 1)]
theorem lawCl_nd (L : Addr) : ((lawCl L).map (·.1)).Nodup := by
  show (["rows", "due", "states", "many", "take"] : List Str).Nodup
  decide
structure GrowA (w : World) (g : Heap) (W : Int → List Str) (tab ikvs : List (Int × Value)) (M : Nat) : Prop where
  got : ∀ n : Int, 1 ≤ n → n ≤ M → (∃ tp t0 gd, valueAt tab n = some (.ref tp) ∧ Ha g tp (TO [.int 0 t0, gd]) ∧ GroupV w g gd (W n)) ∧ ∃ wv, valueAt ikvs n = some wv ∧ StrsV g wv (W n)
  len : ∀ n, (W n).length ≤ 2
  lt : tab.length ≤ M
  li : ikvs.length ≤ M
theorem GrowA.zero (w : World) (g : Heap) : GrowA w g (fun _ => []) [] [] 0 := ⟨fun n h1 h2 => absurd h2 (by omega), fun _ => by decide, Nat.le_refl _, Nat.le_refl _⟩
theorem GrowA.mono {W : Int → List Str} {tab ikvs : List (Int × Value)} {M : Nat} (x : GrowA w h W tab ikvs M) (s : Sub h h') : GrowA w h' W tab ikvs M :=
  ⟨fun n h1 h2 => let ⟨⟨tp, t0, gd, q1, q2, q3⟩, wv, q4, q5⟩ := x.got n h1 h2; ⟨⟨tp, t0, gd, q1, q2.keeps s, q3.mono s⟩, wv, q4, q5.mono monoS s⟩, x.len, x.lt, x.li⟩
theorem GrowA.more {W : Int → List Str} {tab ikvs : List (Int × Value)} {M : Nat} (x : GrowA w h W tab ikvs M) {ws : List Str} {tp : Addr} {t0 : Tok} {gd wv : Value} (lw : ws.length ≤ 2) (q2 : Ha h tp (TO [.int 0 t0, gd])) (q3 : GroupV w h gd ws) (q5 : StrsV h wv ws) :
    GrowA w h (fun n => if n = (M : Int) + 1 then ws else W n) (stored tab ((M : Int) + 1) (.ref tp)) (stored ikvs ((M : Int) + 1) wv) (M + 1) := by
  refine ⟨fun n h1 h2 => ?_, fun n => ?_, Nat.le_trans (stored_len' _ _ _) (Nat.succ_le_succ x.lt), Nat.le_trans (stored_len' _ _ _) (Nat.succ_le_succ x.li)⟩
  · by_cases hn : n = (M : Int) + 1
    · subst hn
      simp only [if_true]
      exact ⟨⟨tp, t0, gd, by rw [valueAt_stored, if_pos rfl], q2, q3⟩, wv, by rw [valueAt_stored, if_pos rfl], q5⟩
    · rw [if_neg hn]
      obtain ⟨⟨tp, t0, gd, r1, r2, r3⟩, wv, r4, r5⟩ := x.got n h1 (by omega)
      exact ⟨⟨tp, t0, gd, by rw [valueAt_stored, if_neg (fun e => hn e.symm)]; exact r1, r2, r3⟩, wv, by rw [valueAt_stored, if_neg (fun e => hn e.symm)]; exact r4, r5⟩
  · show (if n = (M : Int) + 1 then ws else W n).length ≤ 2
    split
    · exact lw
    · exact x.len n
structure ShB (w : World) (g : Heap) (a dx ta tra : Addr) : Prop where
  I : Ha g a (IO 363 dx)
  Dx : Ha g dx (SD w dx [("table", .ref ta), ("trailer", .ref tra)])
theorem ShB.mono {dx ta tra : Addr} (x : ShB w h a dx ta tra) (s : Sub h h') : ShB w h' a dx ta tra := ⟨x.I.keeps s, x.Dx.keeps s⟩
theorem law_A {L fn : Addr} {cd : Value} {e : Heap} {rest : List Stmt} {vs : List Value} (S : St w b ⟨L, lawCl L, e⟩ g m cm [(483, TabP)] [] h) (RM : Room 12 A) (CH : CodeHd b 487 483) (BM : ∃ mg, b.Ns mainGlobals mg ∧ b.BuiltinsAt mg 483) (HS : b.IsList l vs.toArray) (IV : All2 IntV vs ns) (hlen : vs.length ≤ 100) (hm0 : m "script" = some (.ref l))
    (hr : ∀ fa pa a dx ta tra idd M tM W tab ikvs g' m' cm' h' tk', Gle e g g' → St w b ⟨L, lawCl L, e⟩ g' m' cm' [(pa, PLB 6), (483, GrownP)] [(ta, ID w ta tab), (tra, SD w tra []), (idd, ID w idd ikvs)] h' → TakeV w b g' fa pa → ShB w g' a dx ta tra → M ≤ 5 → GrowA w g' W tab ikvs M →
      m' "shelf" = some (.ref a) → m' "intents" = some (.ref idd) → cm' "take" = some (.ref fa) → cm' "many" = some (.int M tM) → wpAny (model PG w) A (execs rest (envOfC "law" (lwS w) L fn cd)) QF E ⟨h', gs, dr, tk', os⟩) :
    wpAny (model PG w) A (execs ((lwB w).take 5 ++ rest) (envOfC "law" (lwS w) L fn cd)) QF E ⟨h, gs, dr, tk, os⟩ := by
  have big : (10000 : Nat) ≤ sizeLine := by rw [sizeLine_eq]; decide
  revert hr
  refine' law_parts (P := fun B sc => (∀ fa pa a dx ta tra idd M tM W tab ikvs g' m' cm' h' tk', Gle e g g' → St w b ⟨L, lawCl L, e⟩ g' m' cm' [(pa, PLB 6), (483, GrownP)] [(ta, ID w ta tab), (tra, SD w tra []), (idd, ID w idd ikvs)] h' → TakeV w b g' fa pa → ShB w g' a dx ta tra → M ≤ 5 → GrowA w g' W tab ikvs M →
      m' "shelf" = some (.ref a) → m' "intents" = some (.ref idd) → cm' "take" = some (.ref fa) → cm' "many" = some (.int M tM) → wpAny (model PG w) A (execs rest (envOfC "law" sc L fn cd)) QF E ⟨h', gs, dr, tk', os⟩) → wpAny (model PG w) A (execs (B.take 5 ++ rest) (envOfC "law" sc L fn cd)) QF E ⟨h, gs, dr, tk, os⟩) ?k1 ?_
  case k1 => k_is
  intro hr
  dsimp only [List.take, List.cons_append, List.nil_append]
  repeat' (first | walk_at "Z" | walk_at "Zif")
  refine taker_spec (gr := []) S (RM.less (by decide)) CH BM HS IV hlen fun fa pa g1 h1 tk1 G1 S1 T1 => ?_
  have S1' : St w b ⟨L, lawCl L, e⟩ g1 m cm [(pa, PLB 0), (483, GrownP)] [] h1 := S1.perm (List.Perm.swap _ _ _)
  clear S1 S
  repeat' (first | walk_at "Z" | walk_at "Zif")
  rename_i h2 S2
  refine callWith_F (T1.at S2.kg) ?_
  repeat' (first | walk_at "Z" | walk_at "Zif")
  refine ⟨T1.at S2.kg, ?_⟩
  refine T1.call (gr := [(483, GrownP)]) (fun _ _ e => e) S2 (RM.less (by decide)) (by omega) (by decide) fun v tv h3 tk3 v0 v1 S3 => ?_
  obtain ⟨M, rfl⟩ : ∃ M : Nat, v = (M : Int) := ⟨v.toNat, by omega⟩
  repeat' (first | walk_at "Z" | walk_at "Zif")
  refine z_newDict (by assumption) fun idd h5 nidd S5s S5 => ?_
  clear S5s
  repeat' (first | walk_at "Z" | walk_at "Zif")
  rename_i h5' S5'
  refine new_Shelf S5' (RM.less (by decide)) fun a dx ta tra g6 h6 tk6 G6 S6 FI FD => ?_
  clear S5 S5'
  repeat' (first | walk_at "Z" | walk_at "Zif")
  refine wpAny_For ?_
  repeat' (first | walk_at "Z" | walk_at "Zif")
  rename_i h7 S7
  refine z_range2 S7 fun r h8 tk8 t1 u1 w1 hrg S8 sub8 => ?_
  have rs := range_small (a := 1) (c := (M : Int) + 1) (by omega) (by omega) (by omega)
  clear S7
  refine z_forRQ (n := M) S8 RM.hh hrg rs.1 (by rw [rs.2]; omega) rfl rfl rfl
    (fun i g₁ m₁ cm₁ gl₁ led₁ => Sub g6 g₁ ∧ m₁ "shelf" = some (.ref a) ∧ m₁ "intents" = some (.ref idd) ∧ cm₁ "take" = some (.ref fa) ∧ cm₁ "many" = some (.int M tv) ∧ gl₁ = [(pa, PLB (0 + 1 + i)), (483, GrownP)] ∧ ∃ W tab ikvs, led₁ = [(ta, ID w ta tab), (tra, SD w tra []), (idd, ID w idd ikvs)] ∧ GrowA w g₁ W tab ikvs i)
    ⟨fun _ _ e => e, rfl, rfl, rfl, rfl, by simp, _, _, _, rfl, GrowA.zero _ _⟩ ?_ ?_
  · intro i t e' g₁ m₁ cm₁ gl₁ led₁ h₁ tk₁ Q9 J9 hi hs hG f9 m9 S9 hn9 hr9 hb9 j9
    obtain ⟨sg, hm1, hm2, hc1, hc2, rfl, W, tab, ikvs, rfl, GA⟩ := j9
    repeat' (first | walk_at "Z" | walk_at "Zif")
    have en : (1 : Int) + i = i + 1 := by omega
    have lik := GA.li
    have ltb := GA.lt
    refine words_spec (gr := [(483, GrownP)]) S9 (RM.less (by decide)) (T1.mono fun a o e => sg _ _ (G6.1 _ _ e)) (by omega) fun r ws g10 h10 tk10 G10 S10 WV lws => ?_
    repeat' (first | walk_at "Z" | walk_at "Zif")
    refine z_setI S10 (.there (.there .here)) (fun h11 S11 => ?_) (by omega)
    repeat' (first | walk_at "Z" | walk_at "Zif")
    refine z_dictS S11 rfl rfl (by decide) (by decide) fun gd h12 ngd S12 => ?_
    repeat' (first | walk_at "Z" | walk_at "Zif")
    refine new_Name S12 (RM.less (by decide)) fun xN xdN g13 h13 tk13 G13 S13 N1 N2 => ?_
    repeat' (first | walk_at "Z" | walk_at "Zif")
    refine z_dictEnd S13 .here rfl (by show ([("Type" : Str)] : List Str).Nodup; decide) fun h14 S14 => ?_
    have S14' : St w b ⟨L, lawCl L, e'⟩ g13 _ _ [(pa, PLB (0 + 1 + i + 1)), (483, GrownP)] [(gd, SD w gd [("Type", .ref xN)]), (ta, ID w ta tab), (tra, SD w tra []), (idd, ID w idd (stored ikvs (1 + (i : Int)) r))] h14 := S14
    clear S14
    repeat' walk_at "Z"
    rename_i h15 S15
    clear S14'
    have WV15 : StrsV g13 r ws := LV.mono monoS WV G13.1
    have NV : NameV w g13 (.ref xN) "OCG" := ⟨_, _, _, rfl, N1, N2⟩
    have vik : valueAt (stored ikvs (1 + (i : Int)) r) (1 + (i : Int)) = some r := by rw [valueAt_stored, if_pos rfl]
    refine z_cutSQ S15 (fun g' gl' led' => gl' = [(pa, PLB (0 + 1 + i + 1)), (483, GrownP)] ∧ ∃ gkvs, led' = [(gd, SD w gd gkvs), (ta, ID w ta tab), (tra, SD w tra []), (idd, ID w idd (stored ikvs (1 + (i : Int)) r))] ∧ valueAt gkvs "Type" = some (.ref xN) ∧ OptTold w g' (valueAt gkvs "Intent") ws) ?_ ?_
    · intro I9 Q9 hn9
      obtain ⟨lr, rvs, rfl, LR, RA⟩ := id WV15
      refine wpAny_If ?_
      repeat' (first | walk_at "Z" | walk_at "Zif")
      refine zz_itemA (kk := 1 + (i : Int)) (S15.ha (.tail _ (.tail _ (.tail _ (.head _))))).id (iis _ _) vik ?_ (by with_unfolding_all rfl)
      repeat' (first | walk_at "Z" | walk_at "Zif")
      rename_i lz h16 S16 nlz
      refine z_neNil RM (LR.keeps S16.kg) (S16.ha (.head _)) ?_
      have wz := RA.empty
      cases hwv : ws.isEmpty with
      | true =>
        rw [wz, hwv]
        repeat' (first | walk_at "Z" | walk_at "Zif")
        exact hn9 _ _ _ _ _ (Gle.refl _ _) (S16.sub (List.sublist_append_right [_] _)) ⟨rfl, _, rfl, rfl, .inl ⟨rfl, List.isEmpty_iff.mp hwv⟩⟩
      | false =>
        rw [wz, hwv]
        repeat' (first | walk_at "Z" | walk_at "Zif")
        refine zz_itemA (kk := 1 + (i : Int)) (S16.ha (.tail _ (.tail _ (.tail _ (.tail _ (.head _)))))).id (iis _ _) vik ?_ (by with_unfolding_all rfl)
        repeat' (first | walk_at "Z" | walk_at "Zif")
        refine told_spec S16 (RM.less (by decide)) (LV.mono monoS WV15 S16.kg) (by omega) fun r2 g17 h17 tk17 G17 S17 TV => ?_
        repeat' (first | walk_at "Z" | walk_at "Zif")
        refine z_setS S17 (.there .here) (fun h18 S18 => ?_) (by show 1 ≤ sizeLine; omega)
        repeat' (first | walk_at "Z" | walk_at "Zif")
        exact hn9 _ _ _ _ _ G17 (S18.sub (List.sublist_append_right [_] _)) ⟨rfl, _, rfl, by rw [valueAt_stored, if_neg (by decide)]; rfl, .inr ⟨_, by rw [valueAt_stored, if_pos rfl], (fun e => by rw [e] at hwv; cases hwv), TV⟩⟩
    · rintro g16 gl16 led16 h16 tk16 G16 S16 ⟨rfl, gkvs, rfl, ty, OT⟩
      repeat' (first | walk_at "Z" | walk_at "Zif")
      have sg16 : Sub g6 g16 := fun a o e => G16.1 _ _ (G13.1 _ _ (G10.1 _ _ (sg _ _ e)))
      refine' z_method S16 (FI.keeps fun a o e => S16.kg _ _ (sg16 _ _ e)) (FD.keeps fun a o e => S16.kg _ _ (sg16 _ _ e)) rfl ?k1 ?k2 ?k3 ?_
      case k1 => k_is
      case k2 => k_is
      case k3 => k_is
      repeat' (first | walk_at "Z" | walk_at "Zif")
      obtain ⟨g17, G17, FZ, S17⟩ := St.freeze (new := [(gd, SD w gd gkvs)]) (led := [(ta, ID w ta tab), (tra, SD w tra []), (idd, ID w idd (stored ikvs (1 + (i : Int)) r))]) S16
      have FG : Ha g17 gd (SD w gd gkvs) := FZ _ (.head _)
      have S18 : St w b ⟨L, lawCl L, e'⟩ g17 _ _ [(ta, ID w ta tab), (pa, PLB (0 + 1 + i + 1)), (483, GrownP)] [(tra, SD w tra []), (idd, ID w idd (stored ikvs (1 + (i : Int)) r))] h16 := S17.perm (List.perm_middle (l₁ := [(pa, PLB (0 + 1 + i + 1)), (483, GrownP)]))
      have sg17 : Sub g6 g17 := fun a o e => G17.1 _ _ (sg16 _ _ e)
      clear S17 S16
      refine put_spec S18 (RM.less (by decide)) (FI.keeps sg17) (FD.keeps sg17) (by omega) fun tp g19 h19 tk19 G19 S19 TP => ?_
      repeat' (first | walk_at "Z" | walk_at "Zif")
      have S20 : St w b ⟨L, lawCl L, e'⟩ g19 _ _ [(pa, PLB (0 + 1 + i + 1)), (483, GrownP)] [(ta, ID w ta (stored tab (1 + (i : Int)) (.ref tp))), (tra, SD w tra []), (idd, ID w idd (stored ikvs (1 + (i : Int)) r))] h19 := S19.perm (List.perm_middle (l₁ := [(pa, PLB (0 + 1 + i + 1)), (483, GrownP)])).symm
      rw [en] at S20
      have k16 : Sub g16 g19 := fun a o e => G19.1 _ _ (G17.1 _ _ e)
      have k13 : Sub g13 g19 := fun a o e => k16 _ _ (G16.1 _ _ e)
      have kg1 : Sub g₁ g19 := fun a o e => k13 _ _ (G13.1 _ _ (G10.1 _ _ e))
      refine hn9.go S20 ((((G10.trans G13).trans G16).trans G17).trans G19) ⟨fun a o e => G19.1 _ _ (sg17 _ _ e), hm1, hm2, hc1, hc2, ?_, _, _, _, rfl, (GA.mono kg1).more lws TP ⟨gd, gkvs, _, rfl, FG.keeps G19.1, ty, NV.mono k13, OT.mono k16⟩ (LV.mono monoS WV15 k13)⟩
      rw [show (0 + 1 + (i : Int) + 1) = 0 + 1 + ((i + 1 : Nat) : Int) by omega]
  · rintro g₁ m₁ cm₁ gl₁ led₁ h₁ tk₁ ⟨sg, hm1, hm2, hc1, hc2, rfl, W, tab, ikvs, rfl, GA⟩ hG S9
    repeat' (first | walk_at "Z" | walk_at "Zif")
    exact hr fa pa a dx ta tra idd M tv W tab ikvs g₁ _ _ _ _ (G1.trans (G6.trans hG)) (S9.weakG (PLB.mono (by omega))) (T1.mono fun a o e => sg _ _ (G6.1 _ _ e)) (ShB.mono ⟨FI, FD⟩ sg) (by omega) GA hm1 hm2 hc1 hc2

end
section
variable {w : World} {b : Heap} {f : Fm} {g : Heap} {m cm : Str → Option Value} {gl gl' gp gr led led' : Led} {h h' X : Heap} {A : Around} {E : Value → Shared → Prop} {env : Env} {gs : Array GenState} {dr : Drawn} {tk : Nat} {os : OsState} {x y : Str} {pos px py spos : Pos} {v t c r : Value}
  {Q : Value → Shared → Prop} {QF : Flow → Shared → Prop} {QU : Unit → Shared → Prop} {a d dx C l ta tra : Addr} {P P' : Obj → Prop} {name : Str} {s : Shared} {e : Expr} {rest : List Expr} {its : List Value} {value slice : Expr} {tab : List (Int × Value)} {trl : List (Str × Value)} {kvs : List (Str × Value)} {D : Doc} {H : Head} {o : Option Value} {ns : List Int} {ws : List Str}

theorem keys_miss : typeLookup (.type "list") "keys" = pure none := am_miss_of_fast (by kernel_rfl)
theorem attr_none_list {xs : Array Value} {kk : Nat} {sl : Array (Option Value)} {QO : Option Value → Shared → Prop} (hx : h.get? a = some { cls := .type "list", dict := none, data := .seq xs kk, slots := sl }) (hA : A.handled = none)
    (k : ∀ h' tk', Sub h h' → QO none ⟨h', gs, dr, tk', os⟩) : wpAny (model PG w) A (getAttr? (.ref a) "keys") QO E ⟨h, gs, dr, tk, os⟩ := by
  have hT : ∀ tk', (⟨h, gs, dr, tk', os⟩ : Shared).TypeIs (.ref a) "list" := fun _ => ⟨_, hx, rfl⟩
  have f1 := sub_AttributeError
  have f3 := F.slot_list_getattribute.lookup
  have f4 := F.slot_list_getattribute.bind (.ref a)
  have f5 := am_list_getattr_none
  unfold getAttr? getAttrBy? getAttrBy
  repeat (any_goals (first | assumption | exact hT _ | ((with_reducible show wpAny _ _ (call (Value.builtin "list.__getattribute__") _ _) _ _ _); refine call_meets F.slot_list_getattribute (hT _) am_entry_list_getattribute (F.args_list_getattribute_2 _ _) (meets_getattribute_miss_list a xs kk sl "keys" _ keys_miss (by decide +kernel)) ⟨hx, hA, fun h' tk' e hx' => ?_⟩) | wp_step))
  obtain ⟨t', u', he⟩ := hx'.there
  show wpAny _ _ (getattributeRaised _ _ _ _ _ _ _) _ _ _
  unfold getattributeRaised
  repeat (any_goals (first | assumption | wp_step))
  exact k _ _ hx'.keeps
theorem plain_upd : plainId "dict.update.loop" = true := by decide +kernel
theorem entry_upd : entryFor table "dict.update.loop" = some Builtin.«dict.update.loop» := entryFor_of_fast (by kernel_rfl)
def PairV (h : Heap) (v : Value) (p : Int × Bool) : Prop := ∃ a t, v = .ref a ∧ Ha h a (TO [.int p.1 t, .bool p.2])
def putAll (st ps : BS) : BS := ps.foldl (fun s p => putB s p.1 p.2) st
theorem putAll_len (st ps : BS) : (putAll st ps).length ≤ st.length + ps.length := by
  unfold putAll
  induction ps generalizing st with
  | nil => simp
  | cons p ps ih => rw [List.foldl_cons, List.length_cons]; have := ih (putB st p.1 p.2); have := putB_len st p.1 p.2; omega
theorem upd_loop {I l d : Addr} {vs : List Value} {ps : BS} {X : Heap} {result : Value} {R : Result → Shared → Prop} (hh : A.handled = none) (dI : d ≠ I) (dl : d ≠ l) (lI : l ≠ I) (PV : All2 (PairV X) vs ps) (Xd : X.get? d = none) (XI : X.get? I = none) :
    ∀ (k i : Nat) (st : BS) (h : Heap) (tk : Nat), vs.length - i = k → i ≤ vs.length → h.IsListIter I l i → h.IsList l vs.toArray → Sub X h → h.DictOf (PySem.intKind PG w) d (encB st) → st.length + k ≤ 1000 →
    (∀ h' tk', h'.DictOf (PySem.intKind PG w) d (encB (putAll st (ps.drop i))) → (∀ c o, c ≠ d → c ≠ I → h.get? c = some o → h'.get? c = some o) → R (.ok (.ret result)) ⟨h', gs, dr, tk', os⟩) →
    codeAny (model PG w) A (.builtin "dict.update.loop" ⟨[.ref d, .ref I, rawInt (i : Int), result], []⟩) R ⟨h, gs, dr, tk, os⟩ := by
  have big : (10000 : Nat) ≤ sizeLine := by rw [sizeLine_eq]; decide
  have W := Walks.list (prog := PG) (w := w) (A := A.in1) hh I l lI vs.toArray
  rw [List.size_toArray] at W
  intro k
  induction k with
  | zero =>
    intro i st h tk hk hi hit hl sX hd hz hR
    have hin : i = vs.length := by omega
    subst hin
    refine codeAny_builtin entry_upd ?_
    rw [Around.under_plainId plain_upd _]
    show wpAny _ A.in1 (pyNext (.ref I) >>= _) _ _ _
    refine wpAny_bind (W.done ⟨h, gs, dr, tk, os⟩ _ _ ⟨hit, hl⟩ fun h' tk' mv => ?_)
    rw [List.drop_of_length_le (Nat.le_of_eq PV.length.symm)] at hR
    exact wpAny_pure (hR h' tk' (let ⟨o, es, ep, ho, r⟩ := hd; ⟨o, es, ep, mv _ _ (by simpa using dI) ho, r⟩) fun c o c1 c2 e => mv c o (by simpa using c2) e)
  | succ k ih =>
    intro i st h tk hk hi hit hl sX hd hz hR
    have hlt : i < vs.length := by omega
    refine codeAny_builtin entry_upd ?_
    rw [Around.under_plainId plain_upd _]
    show wpAny _ A.in1 (pyNext (.ref I) >>= _) _ _ _
    refine wpAny_bind (W.item i ⟨h, gs, dr, tk, os⟩ _ _ hlt ⟨hit, hl⟩ fun v h1 tk1 hP st1 mv => ?_)
    obtain ⟨⟨n, bb⟩, hp, ta, t, rfl, TA⟩ := PV.get (i := i) (a := v) (by simpa using hP)
    have sX1 : Sub X h1 := fun a o e => mv a o (by intro z; rw [List.mem_singleton.mp z, XI] at e; cases e) (sX _ _ e)
    obtain ⟨ot, et, nt, rfl⟩ := TA.keeps sX1
    have hd1 : h1.DictOf (PySem.intKind PG w) d (encB st) := let ⟨o, es, ep, ho, r⟩ := hd; ⟨o, es, ep, mv _ _ (by simpa using dI) ho, r⟩
    refine wpAny_bind (wpAny_holding ?_)
    refine wpAny_bind (wpAny_tryCatch ?_)
    unfold Builtin.Dict.pairItems
    refine wpAny_bind (wpAny_typeOf (T := "tuple") ⟨_, et, rfl⟩ ?_)
    rw [if_pos (by decide)]
    refine wpAny_bind (wpAny_seqItems et rfl ?_)
    refine wpAny_pure ?_
    show wpAny _ _ (holding [.int n t, .bool bb] (dictSet d (.int n t) (.bool bb))) _ _ _
    refine wpAny_holding (wpAny_dictSet_pairs (knd := PySem.intKind PG w) (k := n) (iis _ _) hd1 (fun h2 hd2 sb2 => ?_) (by unfold encB; rw [List.length_map]; omega))
    rw [stored_enc] at hd2
    have dX : ∀ a o, X.get? a = some o → a ≠ d := fun a o e z => by rw [z, Xd] at e; cases e
    refine wpAny_pure ⟨plainId_quiet plain_upd _, ih (i + 1) (putB st n bb) h2 _ (by omega) hlt ?_ ?_ (fun a o e => (sb2.2 a (dX a o e)).trans (sX1 _ _ e)) hd2 (by have := putB_len st n bb; omega) fun h' tk' q1 q2 => hR h' tk' ?_ fun c o c1 c2 e => q2 c o c1 c2 ((sb2.2 c c1).trans (mv c o (by simpa using c2) e))⟩
    · exact st1.1.at fun o e => (sb2.2 I (Ne.symm dI)).trans e
    · exact st1.2.at fun o e => (sb2.2 l (Ne.symm dl)).trans e
    · have : ps.drop i = (n, bb) :: ps.drop (i + 1) := by
        obtain ⟨h0, e0⟩ := List.getElem?_eq_some_iff.mp hp
        rw [← e0]; exact List.drop_eq_getElem_cons h0
      rw [this]; exact q1
theorem upd_from {uid : String} {l d : Addr} {vs : List Value} {ps st : BS} {X : Heap} {result : Value} {R : Result → Shared → Prop} {A2 : Around} (hh : A.handled = none) (hh2 : A2.handled = none) (H : Ha h l (LO vs))
    (hd : h.DictOf (PySem.intKind PG w) d (encB st)) (dl : d ≠ l) (PV : All2 (PairV X) vs ps) (sX : Sub X h) (Xd : X.get? d = none) (hz : st.length + vs.length ≤ 1000)
    (k : ∀ h' tk', h'.DictOf (PySem.intKind PG w) d (encB (putAll st ps)) → (∀ c o, c ≠ d → h.get? c = some o → h'.get? c = some o) → R (.ok (.ret result)) ⟨h', gs, dr, tk', os⟩) :
    wpAny (model PG w) A (Builtin.Dict.updateFrom uid d (.ref l) [] result) (fun fin s' => match fin with | .done f => R (.ok f) s' | .again c' => c'.quiet = true ∧ codeAny (model PG w) A2 c' R s') E ⟨h, gs, dr, tk, os⟩ := by
  obtain ⟨ol, el, nl, rfl⟩ := id H
  unfold Builtin.Dict.updateFrom
  refine wpAny_bind (wpAny_typeOf (T := "list") ⟨_, el, rfl⟩ ?_)
  rw [if_pos (by decide)]
  refine wpAny_bind (attr_none_list el hh fun h1 tk1 s1 => ?_)
  rw [if_pos (show (none : Option Value).isNone = true from rfl)]
  refine wpAny_bind (wpAny_rule ?_)
  have H1 := H.keeps s1
  refine wpAny_bind (wpAny_pyIter_list H1.list ?_)
  have fr := fresh_at h1
  have dlt : d < h.objs.size := by obtain ⟨o, es, ep, ho, _⟩ := hd; exact Heap.lt_size ho
  have h1d : h1.DictOf (PySem.intKind PG w) d (encB st) := let ⟨o, es, ep, ho, r⟩ := hd; ⟨o, es, ep, s1 _ _ ho, r⟩
  have dI : d ≠ h1.objs.size := fun z => by obtain ⟨o, es, ep, ho, _⟩ := h1d; rw [z, fr] at ho; cases ho
  have lI : l ≠ h1.objs.size := fun z => by obtain ⟨o, e, _⟩ := H1; rw [z, fr] at e; cases e
  have kp : Sub h1 (h1.push { cls := .type "list_iterator", data := .fields #[.ref l, .int 0 0] }) := fun _ _ e => Heap.get?_push_of_some _ e
  refine wpAny_pure ⟨plainId_quiet plain_upd _, upd_loop hh2 dI dl lI PV Xd (none_of_le (fun a o e => s1 _ _ (sX _ _ e)) fr) vs.length 0 st _ _ rfl (Nat.zero_le _) ⟨_, Heap.get?_push_size _ rfl, rfl, rfl⟩ (H1.keeps kp).list (fun a o e => kp _ _ (s1 _ _ (sX _ _ e))) (let ⟨o, es, ep, ho, r⟩ := h1d; ⟨o, es, ep, kp _ _ ho, r⟩) hz fun h' tk' q1 q2 => ?_⟩
  exact k _ _ q1 fun c o c1 e => q2 c o c1 (fun z => by have := s1 _ _ e; rw [z, fr] at this; cases this) (kp _ _ (s1 _ _ e))
theorem z_dictP {l : Addr} {vs : List Value} {ps : BS} {X : Heap} {kk : Nat} (S : St w b f g m cm gl led h) (RM : Room kk A) (H : Ha h l (LO vs)) (PV : All2 (PairV X) vs ps) (sX : Sub X h) (hz : vs.length ≤ 1000)
    (k : ∀ d h' tk', h.get? d = none → St w b f g m cm gl ((d, ID w d (encB (putAll [] ps))) :: led) h' → Q (.ref d) ⟨h', gs, dr, tk', os⟩) : wpAny (model PG w) A (call (.type "dict") [.ref l]) Q E ⟨h, gs, dr, tk, os⟩ := by
  refine callType_codes (Q₁ := fun obj s₁ => obj = .ref h.objs.size ∧ s₁ = ⟨h.push { cls := .type "dict", data := .dict #[] }, gs, dr, tk, os⟩) F.kt_called_dict (F.kt_typeCall_dict_1 _) F.entry_dict_init (kt_code_dict_new _ ⟨rfl, rfl⟩) ?_
  rintro obj s₁ ⟨rfl, rfl⟩
  have hnew : (h.push { cls := .type "dict", data := .dict #[] }).DictOf (PySem.intKind PG w) h.objs.size [] := Heap.DictOf.new h
  have kp : Sub h (h.push { cls := .type "dict", data := .dict #[] }) := fun _ _ e => Heap.get?_push_of_some _ e
  have fr := fresh_at h
  refine ⟨hnew.typeIs, F.args_dict_init_2 _ _, ?_⟩
  unfold Builtin.«dict.__init__»
  refine wpAny_bind ?_
  unfold Builtin.Dict.selfAndRest
  refine wpAny_bind (wpAny_notOrdered_dict hnew.typeIs ?_)
  show wpAny _ _ (pure (h.objs.size, [Value.ref l])) _ _ _
  refine wpAny_pure ?_
  show wpAny _ _ (Builtin.Dict.updateFrom "dict.__init__" h.objs.size (.ref l) [] .none) _ _ _
  refine upd_from (st := []) (X := X) ?_ ?_ (H.keeps kp) hnew (fun z => by obtain ⟨o, e, _⟩ := H; rw [← z, fr] at e; cases e) PV (fun a o e => kp _ _ (sX _ _ e)) (none_of_le sX fr) (by simpa using hz) fun h' tk' q1 q2 => ?_
  · exact RM.hh
  · exact RM.hh
  · exact ⟨rfl, k _ _ _ fr (S.add (fun c o e => q2 c o (Nat.ne_of_lt (Heap.lt_size e)) (kp _ _ e)) fr (let ⟨o, e, p⟩ := Heap.dictOf_iff.mp q1; ⟨o, e, S.nosys, p⟩))⟩
theorem z_updM {pl : Sem Bool} {kvs : List (Int × Value)} {QM : Value × List Value → Shared → Prop} (H : Ha h d (ID w d kvs)) (k : QM (.builtin "dict.update", [.ref d]) ⟨h, gs, dr, tk, os⟩) : wpAny (model PG w) A (getMethod (.ref d) "update" pl) QM E ⟨h, gs, dr, tk, os⟩ :=
  getMethod_builtin (s := ⟨h, gs, dr, tk, os⟩) H.id.typeIs PySem.F.plainAttrs_dict PySem.F.slot_dict_update PySem.F.type_dict_update H.id.mapOf.noDict k
theorem z_updateP {l d : Addr} {vs : List Value} {ps st : BS} {X : Heap} {kk : Nat} (S : St w b f g m cm gl led h) (RM : Room kk A) (U : At d (ID w d (encB st)) (ID w d (encB (putAll st ps))) led led') (H : Ha h l (LO vs)) (dl : d ≠ l) (PV : All2 (PairV X) vs ps) (sX : Sub X h) (Xd : X.get? d = none) (hz : st.length + vs.length ≤ 1000)
    (k : ∀ h' tk', St w b f g m cm gl led' h' → Q .none ⟨h', gs, dr, tk', os⟩) : wpAny (model PG w) A (call (.builtin "dict.update") [.ref d, .ref l]) Q E ⟨h, gs, dr, tk, os⟩ := by
  have D := S.ha U.mem
  refine wpAny_call (codeAny_call_builtin PySem.F.slot_dict_update.plain PySem.F.entry_dict_update (PySem.F.slot_dict_update.check _ _ _ _ _ _ _ _ D.id.typeIs (PySem.F.args_dict_update_2 _ _) ?_))
  unfold Builtin.«dict.update»
  refine wpAny_bind ?_
  unfold Builtin.Dict.selfAndRest
  refine wpAny_bind (wpAny_notOrdered_dict D.id.typeIs ?_)
  show wpAny _ _ (pure (d, [Value.ref l])) _ _ _
  refine wpAny_pure ?_
  show wpAny _ _ (Builtin.Dict.updateFrom "dict.update" d (.ref l) [] .none) _ _ _
  refine upd_from (st := st) (X := X) (R := wants Q E) ?_ ?_ H D.id dl PV sX Xd hz fun h' tk' q1 q2 => ?_
  · exact RM.hh
  · exact RM.hh
  · exact k _ _ (S.upd U (fun c o hc e => q2 c o hc e) (let ⟨o, e, p⟩ := Heap.dictOf_iff.mp q1; ⟨o, e, D.idn, p⟩))

end
section
variable {w : World} {b : Heap} {f : Fm} {g : Heap} {m cm : Str → Option Value} {gl gl' gp gr led led' : Led} {h h' X : Heap} {A : Around} {E : Value → Shared → Prop} {env : Env} {gs : Array GenState} {dr : Drawn} {tk : Nat} {os : OsState} {x y : Str} {pos px py spos : Pos} {v t c r : Value}
  {Q : Value → Shared → Prop} {QF : Flow → Shared → Prop} {QU : Unit → Shared → Prop} {a d dx C l ta tra : Addr} {P P' : Obj → Prop} {name : Str} {s : Shared} {e : Expr} {rest : List Expr} {its : List Value} {value slice : Expr} {tab : List (Int × Value)} {trl : List (Str × Value)} {kvs : List (Str × Value)} {D : Doc} {H : Head} {o : Option Value} {ns : List Int} {ws : List Str}

/-- an expression's value, whichever way it came -/
theorem z_cutVS {p : Sem Value} (S : St w b f g m cm gl led h) (I : Value → Heap → Led → Led → Prop)
    (h1 : wpAny (model PG w) A p (fun v s' => ∃ g' gl' led' h' tk', s' = ⟨h', gs, dr, tk', os⟩ ∧ Gle f.e g g' ∧ St w b f g' m cm gl' led' h' ∧ I v g' gl' led') (fun _ _ => False) ⟨h, gs, dr, tk, os⟩)
    (h2 : ∀ v g' gl' led' h' tk', Gle f.e g g' → St w b f g' m cm gl' led' h' → I v g' gl' led' → Q v ⟨h', gs, dr, tk', os⟩) : wpAny (model PG w) A p Q E ⟨h, gs, dr, tk, os⟩ :=
  wpAny_mono h1 (fun v s' ⟨g', gl', led', h', tk', e2, G, S', i⟩ => by subst e2; exact h2 _ _ _ _ _ _ G S' i) fun _ _ z => z.elim
theorem z_cutVSQ {p : Sem Value} (S : St w b f g m cm gl led h) (I : Value → Heap → Led → Led → Prop)
    (h1 : let I' := I; ∀ Q' : Value → Shared → Prop, (∀ v g' gl' led' h' tk', Gle f.e g g' → St w b f g' m cm gl' led' h' → I' v g' gl' led' → Q' v ⟨h', gs, dr, tk', os⟩) → wpAny (model PG w) A p Q' (fun _ _ => False) ⟨h, gs, dr, tk, os⟩)
    (h2 : ∀ v g' gl' led' h' tk', Gle f.e g g' → St w b f g' m cm gl' led' h' → I v g' gl' led' → Q v ⟨h', gs, dr, tk', os⟩) : wpAny (model PG w) A p Q E ⟨h, gs, dr, tk, os⟩ :=
  z_cutVS S I (h1 _ fun _ _ _ _ _ _ G S i => ⟨_, _, _, _, _, rfl, G, S, i⟩) h2
structure LawB (w : World) (b g : Heap) (a ta fa pa lh p0 p1 : Addr) (M : Nat) (tab ikvs : List (Int × Value)) (D : Doc) (T0 T1 : Told) (bef : Option BS) (hv0 tv0 hv1 tv1 ov bv : Value) : Prop where
  T : TakeV w b g fa pa
  SP : ShP w g a ta tab D
  DO : D.Ok
  many : D.many = M
  d0 : D.d0 = T0.head
  confs : D.confs = [T1.head]
  ltab : tab.length ≤ 100
  ldoc : D.listed.length ≤ 7
  k0 : T0.Ok M
  k1 : T1.Ok M
  LH : Ha g lh (LO [.ref p0, .ref p1])
  P0 : Ha g p0 (TO [hv0, tv0])
  P1 : Ha g p1 (TO [hv1, tv1])
  D0 : ToldD w g tv0 T0
  D1 : ToldD w g tv1 T1
  O : IntsV g ov (once D.listed)
  B : BefV w g bv bef
  IN : ∀ n : Int, 1 ≤ n → n ≤ D.many → ∃ wv, valueAt ikvs n = some wv ∧ StrsV g wv (D.words n)
theorem Told.Ok.head {T : Told} {M : Nat} (x : T.Ok M) (e : D.many = M) : T.head.Ok D := by
  have g : ∀ {l : List Int}, InR (M : Int) l → D.Gr l := fun h n hn => by rw [e]; exact h n hn
  exact ⟨g x.on, g x.off, g x.locked, fun r hr => g (x.rows r hr), Nat.le_trans x.lon (by decide), Nat.le_trans x.loff (by decide), Nat.le_trans x.llocked (by decide), Nat.le_trans x.lrows (by decide), fun r hr => Nat.le_trans (x.lrow r hr) (by decide), Nat.le_trans x.lwords (by decide), (show 7 ≤ 1000 by decide)⟩
theorem law_B {L fn : Addr} {cd : Value} {e : Heap} {rest : List Stmt} {fa pa a dx ta tra idd : Addr} {M : Nat} {tM : Tok} {W : Int → List Str} {tab ikvs : List (Int × Value)}
    (S : St w b ⟨L, lawCl L, e⟩ g m cm [(pa, PLB 6), (483, GrownP)] [(ta, ID w ta tab), (tra, SD w tra []), (idd, ID w idd ikvs)] h) (RM : Room 12 A) (T : TakeV w b g fa pa) (SB : ShB w g a dx ta tra) (hM : M ≤ 5) (GA : GrowA w g W tab ikvs M)
    (hm1 : m "shelf" = some (.ref a)) (hm2 : m "intents" = some (.ref idd)) (hc1 : cm "take" = some (.ref fa)) (hc2 : cm "many" = some (.int M tM))
    (hr : ∀ tab' D T0 T1 bef lh p0 p1 hv0 tv0 hv1 tv1 ov bv g' m' cm' h' tk', Gle e g g' → St w b ⟨L, lawCl L, e⟩ g' m' cm' [(pa, PLB 75), (483, GrownP)] [(ta, ID w ta tab'), (idd, ID w idd ikvs)] h' → LawB w b g' a ta fa pa lh p0 p1 M tab' ikvs D T0 T1 bef hv0 tv0 hv1 tv1 ov bv →
      m' "shelf" = some (.ref a) → m' "intents" = some (.ref idd) → m' "order" = some ov → m' "heads" = some (.ref lh) → m' "before" = some bv → cm' "take" = some (.ref fa) → wpAny (model PG w) A (execs rest (envOfC "law" (lwS w) L fn cd)) QF E ⟨h', gs, dr, tk', os⟩) :
    wpAny (model PG w) A (execs (((lwB w).drop 5).take 6 ++ rest) (envOfC "law" (lwS w) L fn cd)) QF E ⟨h, gs, dr, tk, os⟩ := by
  have big : (10000 : Nat) ≤ sizeLine := by rw [sizeLine_eq]; decide
  revert hr
  refine' law_parts (P := fun B sc => (∀ tab' D T0 T1 bef lh p0 p1 hv0 tv0 hv1 tv1 ov bv g' m' cm' h' tk', Gle e g g' → St w b ⟨L, lawCl L, e⟩ g' m' cm' [(pa, PLB 75), (483, GrownP)] [(ta, ID w ta tab'), (idd, ID w idd ikvs)] h' → LawB w b g' a ta fa pa lh p0 p1 M tab' ikvs D T0 T1 bef hv0 tv0 hv1 tv1 ov bv →
      m' "shelf" = some (.ref a) → m' "intents" = some (.ref idd) → m' "order" = some ov → m' "heads" = some (.ref lh) → m' "before" = some bv → cm' "take" = some (.ref fa) → wpAny (model PG w) A (execs rest (envOfC "law" sc L fn cd)) QF E ⟨h', gs, dr, tk', os⟩) → wpAny (model PG w) A (execs ((B.drop 5).take 6 ++ rest) (envOfC "law" sc L fn cd)) QF E ⟨h, gs, dr, tk, os⟩) ?k1 ?_
  case k1 => k_is
  intro hr
  dsimp only [List.take, List.drop, List.cons_append, List.nil_append]
  refine wpAny_execs_cons ?_
  refine wpAny_Assign_Name ?_
  refine z_cutVSQ S (fun v g' gl' led' => gl' = [(pa, PLB 14), (483, GrownP)] ∧ led' = [(ta, ID w ta tab), (tra, SD w tra []), (idd, ID w idd ikvs)] ∧ ∃ listed, IntsV g' v listed ∧ InR M listed ∧ listed.length ≤ 7) ?_ ?_
  · intro I9 Q9 hn9
    repeat' (first | walk_at "Z" | walk_at "Zif")
    by_cases hp : (M : Int) > 0
    · rw [decide_eq_true hp]
      repeat' (first | walk_at "Z" | walk_at "Zif")
      refine z_comp (cl := [("take", L + 1), ("many", L + 1 + 1)]) rfl rfl (by decide) ?_ (fun _ => rfl)
      repeat' (first | walk_at "Z" | walk_at "Zif")
      refine callWith_F (T.at S.kg) ?_
      repeat' (first | walk_at "Z" | walk_at "Zif")
      refine ⟨T.at S.kg, ?_⟩
      refine T.call (gr := [(483, GrownP)]) (fun _ _ e => e) S (RM.less (by decide)) (by omega) (by decide) fun v tv h2 tk2 v0 v1 S2 => ?_
      repeat' (first | walk_at "Z" | walk_at "Zif")
      refine z_range S2 fun r h3 tk3 t1 u1 w1 hrg S3 sub3 => ?_
      obtain ⟨c, rfl⟩ : ∃ c : Nat, v = (c : Int) := ⟨v.toNat, by omega⟩
      have rs := range_small (a := 0) (c := (c : Int)) (by omega) (by omega) (by omega)
      refine z_compR (n := c) S3 RM.hh hrg rs.1 (by rw [rs.2]; omega) (by omega) (by decide) rfl rfl (fun i ys g' gl => g = g' ∧ gl = [(pa, PLB (6 + 1 + i)), (483, GrownP)] ∧ ys.length = i ∧ ∃ ns, All2 IntV ys ns ∧ InR M ns) ⟨rfl, by simp, rfl, [], .nil, fun x hx => nomatch hx⟩ (fun i ys g gl q => Nat.le_of_eq q.2.2.1) (fun i ys g gl ⟨_, q, _⟩ => by rw [q]; rfl) (CompTurnQ.turn ?_) ?_
      · intro C i vv e' ys g₁ m₁ gl₁ h₁ tk₁ Qy9 Qn9 J9 hi hv hs hG f9 m9 S4 hy9 hz9 j9
        obtain ⟨rfl, rfl, hyl, ns, hy, hin⟩ := j9
        have hc1' : e'.IsCell (L + 1) (some (.ref fa)) := (S3.cellE (x := "take") (lookup_mem rfl) hc1).keeps hs
        have hc2' : e'.IsCell (L + 1 + 1) (some (.int M tM)) := (S3.cellE (x := "many") (lookup_mem rfl) hc2).keeps hs
        refine tests_nil (if_t rfl ?_)
        repeat' (first | walk_at "Z" | walk_at "Zif")
        refine callWith_F (T.at S4.kg) ?_
        repeat' (first | walk_at "Z" | walk_at "Zif")
        refine ⟨T.at S4.kg, ?_⟩
        refine T.call (gr := [(483, GrownP)]) (fun _ _ e => e) S4 (RM.less (by decide)) (by omega) hp fun v tv h5 tk5 v0 v1 S5 => ?_
        repeat' (first | walk_at "Z" | walk_at "Zif")
        refine hy9.go S5 (Gle.refl _ _) ⟨rfl, by rw [show 6 + 1 + (i : Int) + 1 = 6 + 1 + ((i + 1 : Nat) : Int) by omega], by rw [List.length_append, hyl]; rfl, ns ++ [1 + v], hy.snoc ⟨_, rfl⟩, fun x hx => ?_⟩
        rcases List.mem_append.mp hx with hx | hx
        · exact hin x hx
        · rw [List.mem_singleton.mp hx]; omega
      · rintro W1 ys g4 gl4 h4 tk4 ⟨rfl, rfl, hyl, ns, hy, hin⟩ G4 S4 nW _
        repeat' (first | walk_at "Z" | walk_at "Zif")
        obtain ⟨g5, G5, FZ, S5⟩ := St.freeze (new := [(W1, LO ys)]) (led := [(ta, ID w ta tab), (tra, SD w tra []), (idd, ID w idd ikvs)]) S4
        exact hn9 _ _ _ _ _ _ G5 (S5.weakG (PLB.mono (by omega))) ⟨rfl, rfl, ns, ⟨_, _, rfl, FZ _ (.head _), hy⟩, hin, by rw [← hy.length]; omega⟩
    · rw [decide_eq_false hp]
      repeat' (first | walk_at "Z" | walk_at "Zif")
      rename_i l0 h2 S2 nl0
      obtain ⟨g5, G5, FZ, S5⟩ := St.freeze (new := [(l0, LO [])]) (led := [(ta, ID w ta tab), (tra, SD w tra []), (idd, ID w idd ikvs)]) S2
      exact hn9 _ _ _ _ _ _ G5 (S5.weakG (PLB.mono (by omega))) ⟨rfl, rfl, [], ⟨_, _, rfl, FZ _ (.head _), .nil⟩, (fun x hx => nomatch hx), by decide⟩
  · rintro vl g1 gl1 led1 h1 tk1 G1 S1 ⟨rfl, rfl, listed, LV1, inl, ll⟩
    obtain ⟨ll', lvs, rfl, LL, LA⟩ := id LV1
    repeat' (first | walk_at "Z" | walk_at "Zif")
    rename_i h1' S1'
    clear S1 S
    refine once_spec S1' (RM.less (by decide)) (LL.keeps S1'.kg) LA (by omega) fun ov g2 h2 tk2 G2 S2 OV => ?_
    repeat' (first | walk_at "Z" | walk_at "Zif")
    rename_i h3 S3
    clear S2 S1'
    refine drawn_spec (gr := [(483, GrownP)]) S3 (RM.less (by decide)) (T.mono fun a o e => G2.1 _ _ (G1.1 _ _ e)) (by omega) (by omega) fun p0 hv0 tv0 T0 g4 h4 tk4 G4 S4 P0 K0 H0 D0 => ?_
    repeat' (first | walk_at "Z" | walk_at "Zif")
    refine drawn_spec (gr := [(483, GrownP)]) S4 (RM.less (by decide)) (T.mono fun a o e => G4.1 _ _ (G2.1 _ _ (G1.1 _ _ e))) (by omega) (by omega) fun p1 hv1 tv1 T1 g5 h5 tk5 G5 S5 P1 K1 H1 D1 => ?_
    clear S3 S4
    repeat' (first | walk_at "Z" | walk_at "Zif")
    rename_i lh h6 S6 nlh h7 S7
    clear S6 S5
    have k1 : Sub g g1 := G1.1
    have k2 : Sub g g2 := fun a o e => G2.1 _ _ (k1 _ _ e)
    have k5' : Sub g2 g5 := fun a o e => G5.1 _ _ (G4.1 _ _ e)
    have k5 : Sub g g5 := fun a o e => k5' _ _ (k2 _ _ e)
    refine' z_method S7 (SB.I.keeps fun a o e => S7.kg _ _ (k5 _ _ e)) (SB.Dx.keeps fun a o e => S7.kg _ _ (k5 _ _ e)) rfl ?k1 ?k2 ?k3 ?_
    case k1 => k_is
    case k2 => k_is
    case k3 => k_is
    repeat' (first | walk_at "Z" | walk_at "Zif")
    refine z_dictS S7 rfl rfl (by decide) (by decide) fun rd h8 nrd S8 => ?_
    repeat' (first | walk_at "Z" | walk_at "Zif")
    refine new_Name S8 (RM.less (by decide)) fun xN xdN g9 h9 tk9 G9 S9 N1 N2 => ?_
    repeat' (first | walk_at "Z" | walk_at "Zif")
    refine z_dictS S9 rfl rfl (by decide) (by decide) fun ld h10 nld S10 => ?_
    repeat' (first | walk_at "Z" | walk_at "Zif")
    have k9' : Sub g5 g9 := G9.1
    have k1_9 : Sub g1 g9 := fun a o e => k9' _ _ (k5' _ _ (G2.1 _ _ e))
    refine refs_spec S10 (RM.less (by decide)) (LL.keeps fun a o e => S10.kg _ _ (k1_9 _ _ e)) LA (by omega) fun rf g11 h11 tk11 G11 S11 RV11 => ?_
    clear S8 S9 S10
    repeat' (first | walk_at "Z" | walk_at "Zif")
    refine z_item (S11.ha (.tail _ (.tail _ (.head _)))) (by decide) (by decide) rfl ?_
    repeat' (first | walk_at "Z" | walk_at "Zif")
    have k4_11 : Sub g4 g11 := fun a o e => G11.1 _ _ (k9' _ _ (G5.1 _ _ e))
    have k5_11 : Sub g5 g11 := fun a o e => G11.1 _ _ (k9' _ _ e)
    refine z_itemT (P0.keeps fun a o e => S11.kg _ _ (k4_11 _ _ e)) (by decide) (by decide) rfl (by show 2 < 2 ^ 62; decide) ?_
    repeat' (first | walk_at "Z" | walk_at "Zif")
    refine z_item (S11.ha (.tail _ (.tail _ (.head _)))) (by decide) (by decide) rfl ?_
    repeat' (first | walk_at "Z" | walk_at "Zif")
    refine z_itemT (P1.keeps fun a o e => S11.kg _ _ (k5_11 _ _ e)) (by decide) (by decide) rfl (by show 2 < 2 ^ 62; decide) ?_
    repeat' (first | walk_at "Z" | walk_at "Zif")
    rename_i cl h12 S12 ncl
    clear S11
    refine z_dictEnd S12 (.there .here) rfl (by show ([("OCGs" : Str), "D", "Configs"] : List Str).Nodup; decide) fun h13 S13 => ?_
    clear S12
    have S13' : St w b ⟨L, lawCl L, e⟩ g11 _ _ [(pa, PLB (14 + 23 + 23)), (483, GrownP)] [(cl, LO [hv1]), (ld, SD w ld [("OCGs", rf), ("D", hv0), ("Configs", .ref cl)]), (rd, SD w rd []), (lh, LO [.ref p0, .ref p1]), (ta, ID w ta tab), (tra, SD w tra []), (idd, ID w idd ikvs)] h13 := S13
    clear S13
    repeat' (first | walk_at "Z" | walk_at "Zif")
    refine z_dictEnd S13' (.there (.there .here)) rfl (by show ([("Type" : Str), "OCProperties"] : List Str).Nodup; decide) fun h14 S14 => ?_
    clear S13'
    have S14' : St w b ⟨L, lawCl L, e⟩ g11 _ _ [(pa, PLB (14 + 23 + 23)), (483, GrownP)] ([(cl, LO [hv1]), (ld, SD w ld [("OCGs", rf), ("D", hv0), ("Configs", .ref cl)]), (rd, SD w rd [("Type", .ref xN), ("OCProperties", .ref ld)]), (lh, LO [.ref p0, .ref p1])] ++ [(ta, ID w ta tab), (tra, SD w tra []), (idd, ID w idd ikvs)]) h14 := S14
    clear S14
    repeat' (first | walk_at "Z" | walk_at "Zif")
    obtain ⟨g15, G15, FZ, S15⟩ := S14'.freeze
    clear S14'
    have FC : Ha g15 cl (LO [hv1]) := FZ _ (.head _)
    have FL : Ha g15 ld (SD w ld [("OCGs", rf), ("D", hv0), ("Configs", .ref cl)]) := FZ _ (.tail _ (.head _))
    have FR : Ha g15 rd (SD w rd [("Type", .ref xN), ("OCProperties", .ref ld)]) := FZ _ (.tail _ (.tail _ (.head _)))
    have FH : Ha g15 lh (LO [.ref p0, .ref p1]) := FZ _ (.tail _ (.tail _ (.tail _ (.head _))))
    clear FZ
    have S16 : St w b ⟨L, lawCl L, e⟩ g15 _ _ [(ta, ID w ta tab), (pa, PLB (14 + 23 + 23)), (483, GrownP)] [(tra, SD w tra []), (idd, ID w idd ikvs)] h14 := S15.perm (List.perm_middle (l₁ := [(pa, PLB (14 + 23 + 23)), (483, GrownP)]))
    clear S15
    have k5_15 : Sub g5 g15 := fun a o e => G15.1 _ _ (k5_11 _ _ e)
    have k0_15 : Sub g g15 := fun a o e => k5_15 _ _ (k5 _ _ e)
    have ltb := GA.lt
    refine put_spec S16 (RM.less (by decide)) (SB.I.keeps k0_15) (SB.Dx.keeps k0_15) (by omega) fun tp g17 h17 tk17 G17 S17 TP => ?_
    clear S16
    repeat' (first | walk_at "Z" | walk_at "Zif")
    have S18 : St w b ⟨L, lawCl L, e⟩ g17 _ _ [(pa, PLB (14 + 23 + 23)), (483, GrownP)] [(ta, ID w ta (stored tab 20 (.ref tp))), (tra, SD w tra []), (idd, ID w idd ikvs)] h17 := S17.perm (List.perm_middle (l₁ := [(pa, PLB (14 + 23 + 23)), (483, GrownP)])).symm
    clear S17
    refine new_Ref S18 (RM.less (by decide)) fun xR xdR g19 h19 tk19 G19 S19 R1 R2 => ?_
    clear S18
    repeat' (first | walk_at "Z" | walk_at "Zif")
    have k0_19 : Sub g g19 := fun a o e => G19.1 _ _ (G17.1 _ _ (k0_15 _ _ e))
    refine' z_attr S19 (SB.I.keeps fun a o e => S19.kg _ _ (k0_19 _ _ e)) (SB.Dx.keeps fun a o e => S19.kg _ _ (k0_19 _ _ e)) rfl ?k1 ?k2 ?k3 rfl ?_
    case k1 => k_is
    case k2 => k_is
    case k3 => k_is
    repeat' (first | walk_at "Z" | walk_at "Zif")
    refine z_setS S19 (.there .here) (fun h20 S20 => ?_) (by show 0 ≤ sizeLine; omega)
    clear S19
    have S20' : St w b ⟨L, lawCl L, e⟩ g19 _ _ [(pa, PLB (14 + 23 + 23)), (483, GrownP)] ([(tra, SD w tra (stored [] "Root" (.ref xR)))] ++ [(ta, ID w ta (stored tab 20 (.ref tp))), (idd, ID w idd ikvs)]) h20 := S20.perm (List.Perm.append_left _ (List.Perm.swap _ _ _))
    clear S20
    obtain ⟨g21, G21, FZ, S21⟩ := S20'.freeze
    have FT : Ha g21 tra (SD w tra (stored [] "Root" (.ref xR))) := FZ _ (.head _)
    clear FZ S20'
    have k2_21 : Sub g2 g21 := fun a o e => G21.1 _ _ (G19.1 _ _ (G17.1 _ _ (k5_15 _ _ (k5' _ _ e))))
    have k15_21 : Sub g15 g21 := fun a o e => G21.1 _ _ (G19.1 _ _ (G17.1 _ _ e))
    have k0_21 : Sub g g21 := fun a o e => G21.1 _ _ (k0_19 _ _ e)
    have lo : (once listed).length ≤ 7 := Nat.le_trans (once_len _) (by omega)
    refine wpAny_execs_cons ?_
    refine wpAny_Assign_Name ?_
    refine z_cutVSQ S21 (fun v g' gl' led' => gl' = [(pa, PLB 75), (483, GrownP)] ∧ led' = [(ta, ID w ta (stored tab 20 (.ref tp))), (idd, ID w idd ikvs)] ∧ ∃ bef, BefV w g' v bef) ?_ ?_
    · intro I9 Q9 hn9
      repeat' (first | walk_at "Z" | walk_at "Zif")
      refine callWith_F (T.at fun a o e => S21.kg _ _ (k0_21 _ _ e)) ?_
      repeat' (first | walk_at "Z" | walk_at "Zif")
      refine ⟨T.at fun a o e => S21.kg _ _ (k0_21 _ _ e), ?_⟩
      refine T.call (gr := [(483, GrownP)]) k0_21 S21 (RM.less (by decide)) (by omega) (by decide) fun v tv h22 tk22 v0 v1 S22 => ?_
      repeat' (first | walk_at "Z" | walk_at "Zif")
      obtain ⟨lo', ovs, rfl, LO', OA⟩ := id OV
      cases hv0' : (v == 0) with
      | false =>
        repeat' (first | walk_at "Z" | walk_at "Zif")
        exact hn9 _ _ _ _ _ _ (Gle.refl _ _) (S22.weakG (PLB.mono (by omega))) ⟨rfl, rfl, none, .inl ⟨rfl, rfl⟩⟩
      | true =>
        have LG : Ha g21 lo' (LO ovs) := LO'.keeps k2_21
        have lov : ovs.length ≤ 7 := by rw [OA.length]; exact lo
        repeat' (first | walk_at "Z" | walk_at "Zif")
        refine z_comp (cl := [("take", L + 1)]) rfl rfl (by decide) ?_ (fun _ => rfl)
        repeat' (first | walk_at "Z" | walk_at "Zif")
        refine z_compL S22 RM.hh (LG.keeps S22.kg) (fun p hp z => by
          have := (S22.at_ p (List.mem_append_left _ hp)).2.2.2.2
          obtain ⟨o, e, _⟩ := LG
          rw [z, e] at this; cases this) (by omega) (by decide) rfl rfl (fun i ys g gl => Sub g21 g ∧ gl = [(pa, PLB (14 + 23 + 23 + 1 + 2 * (i : Int))), (483, GrownP)] ∧ ys.length ≤ i ∧ ∃ ps, All2 (PairV g) ys ps) ⟨fun _ _ e => e, by simp, Nat.le_refl _, [], .nil⟩ (fun i ys g gl q => q.2.2.1) (fun i ys g gl ⟨_, q, _⟩ => by rw [q]; rfl) (CompTurnQ.turn ?_) ?_
        · intro C i vv e' ys g₁ m₁ gl₁ h₁ tk₁ Qy9 Qn9 J9 hi hv hs hG f9 m9 S23 hy9 hz9 j9
          obtain ⟨sg, rfl, hyl, ps, hy⟩ := j9
          obtain ⟨n, hn, t, rfl⟩ := OA.get hv
          have hcT : e'.IsCell (L + 1) (some (.ref fa)) := (S22.cellE (x := "take") (lookup_mem rfl) hc1).keeps hs
          have kT : Sub g g₁ := fun a o e => sg _ _ (k0_21 _ _ e)
          refine tests_one ?_
          repeat' (first | walk_at "Z" | walk_at "Zif")
          refine callWith_F (T.at fun a o e => S23.kg _ _ (kT _ _ e)) ?_
          repeat' (first | walk_at "Z" | walk_at "Zif")
          refine ⟨T.at fun a o e => S23.kg _ _ (kT _ _ e), ?_⟩
          refine T.call (gr := [(483, GrownP)]) kT S23 (RM.less (by decide)) (by omega) (by decide) fun v3 tv3 h24 tk24 v30 v31 S24 => ?_
          repeat' (first | walk_at "Z" | walk_at "Zif")
          by_cases h3 : v3 > 0
          · rw [decide_eq_true h3]
            repeat' (first | walk_at "Z" | walk_at "Zif")
            refine callWith_F (T.at fun a o e => S24.kg _ _ (kT _ _ e)) ?_
            repeat' (first | walk_at "Z" | walk_at "Zif")
            refine ⟨T.at fun a o e => S24.kg _ _ (kT _ _ e), ?_⟩
            refine T.call (gr := [(483, GrownP)]) kT S24 (RM.less (by decide)) (by omega) (by decide) fun v4 tv4 h25 tk25 v40 v41 S25 => ?_
            repeat' (first | walk_at "Z" | walk_at "Zif")
            rename_i lt h26 S26 nlt
            obtain ⟨g27, G27, FZ, S27⟩ := St.freeze (new := [(lt, _)]) (led := []) S26
            have FT' : Ha g27 lt (TO [.int n t, .bool (v4 == 0)]) := FZ _ (.head _)
            exact hy9.go S27 G27 ⟨fun a o e => G27.1 _ _ (sg _ _ e), by rw [show 14 + 23 + 23 + 1 + 2 * (i : Int) + 1 + 1 = 14 + 23 + 23 + 1 + 2 * ((i + 1 : Nat) : Int) by omega], by simp; omega, ps ++ [(n, v4 == 0)], (hy.mono fun _ _ ⟨a, t, q1, q2⟩ => ⟨a, t, q1, q2.keeps G27.1⟩).snoc ⟨_, _, rfl, FT'⟩⟩
          · rw [decide_eq_false h3]
            repeat' (first | walk_at "Z" | walk_at "Zif")
            exact hz9.go (S24.weakG (PLB.mono (n' := 14 + 23 + 23 + 1 + 2 * ((i + 1 : Nat) : Int)) (by omega))) (Gle.refl _ _) ⟨sg, rfl, by omega, ps, hy⟩
        · rintro W1 ys g23 gl23 h23 tk23 ⟨sg, rfl, hyl, ps, hy⟩ G23 S23 nW _
          repeat' (first | walk_at "Z" | walk_at "Zif")
          refine z_dictP S23 RM (S23.ha (.head _)) hy S23.kg (by omega) fun d h24 tk24 nd S24 => ?_
          obtain ⟨g25, G25, FZ, S25⟩ := St.freeze (new := [(d, ID w d (encB (putAll [] ps))), (W1, LO ys)]) (led := [(ta, ID w ta (stored tab 20 (.ref tp))), (idd, ID w idd ikvs)]) S24
          exact hn9 _ _ _ _ _ _ (G23.trans G25) (S25.weakG (PLB.mono (by omega))) ⟨rfl, rfl, some (putAll [] ps), .inr ⟨_, rfl, d, rfl, FZ _ (.head _)⟩⟩
    · rintro bv g30 gl30 led30 h30 tk30 G30 S30 ⟨rfl, rfl, bef, BV⟩
      repeat' (first | walk_at "Z" | walk_at "Zif")
      rename_i h31 S31
      show wpAny _ _ (execs rest _) _ _ _
      have k21_30 : Sub g21 g30 := G30.1
      have k15_30 : Sub g15 g30 := fun a o e => k21_30 _ _ (k15_21 _ _ e)
      have k5_30 : Sub g5 g30 := fun a o e => k15_30 _ _ (k5_15 _ _ e)
      have k4_30 : Sub g4 g30 := fun a o e => k5_30 _ _ (G5.1 _ _ e)
      have k11_30 : Sub g11 g30 := fun a o e => k15_30 _ _ (G15.1 _ _ e)
      have k0_30 : Sub g g30 := fun a o e => k21_30 _ _ (k0_21 _ _ e)
      have k17_30 : Sub g17 g30 := fun a o e => k21_30 _ _ (G21.1 _ _ (G19.1 _ _ e))
      have k19_30 : Sub g19 g30 := fun a o e => k21_30 _ _ (G21.1 _ _ e)
      let D : Doc := ⟨M, W, listed, T0.head, [T1.head]⟩
      have GG : Gle e g g30 := ((((((((G1.trans G2).trans G4).trans G5).trans G9).trans G11).trans G15).trans G17).trans G19).trans (G21.trans G30)
      have DOk : D.Ok := ⟨hM, fun n hn => inl n hn, Nat.le_trans ll (by decide), fun n => Nat.le_trans (GA.len n) (by decide), K0.head rfl, fun H hH => by rw [List.mem_singleton.mp hH]; exact K1.head rfl, (show 1 ≤ 100 by decide)⟩
      have LAY : LayV w g30 (.ref ld) D := ⟨ld, _, rf, hv0, .ref cl, rfl, FL.keeps k15_30, rfl, LV.mono monoRef RV11 k11_30, rfl, H0.mono k4_30, rfl, ⟨cl, [hv1], rfl, FC.keeps k15_30, .cons (H1.mono k5_30) .nil⟩, (show 3 ≤ 100 by decide)⟩
      have TAB : TabOk w g30 (stored tab 20 (.ref tp)) D := by
        refine ⟨fun n n1 n2 => ?_, tp, _, .ref rd, by rw [valueAt_stored, if_pos rfl], TP.keeps k17_30, ⟨rd, _, .ref ld, rfl, FR.keeps k15_30, rfl, LAY, (show 2 ≤ 100 by decide)⟩⟩
        have n2' : n ≤ M := n2
        obtain ⟨⟨tp', t0, gd, q1, q2, q3⟩, _⟩ := GA.got n n1 n2'
        exact ⟨tp', t0, gd, by rw [valueAt_stored, if_neg (by omega)]; exact q1, q2.keeps k0_30, q3.mono k0_30⟩
      refine hr _ D T0 T1 bef lh p0 p1 hv0 tv0 hv1 tv1 ov bv g30 _ _ _ _ GG S31 ⟨T.mono k0_30, ⟨⟨dx, tra, _, .ref xR, SB.I.keeps k0_30, SB.Dx.keeps k0_30, FT.keeps k21_30, rfl, ⟨_, _, _, _, rfl, R1.keeps k19_30, R2.keeps k19_30⟩⟩, TAB⟩, DOk, rfl, rfl, rfl, ?_, ll, K0, K1, FH.keeps k15_30, P0.keeps k4_30, P1.keeps k5_30, D0.mono k4_30, D1.mono k5_30, LV.mono monoI OV fun a o e => k21_30 _ _ (k2_21 _ _ e), BV, fun n n1 n2 => ?_⟩ hm1 hm2 rfl rfl rfl hc1
      · have : (stored tab 20 (.ref tp)).length ≤ tab.length + 1 := stored_len' _ _ _
        omega
      · have n2' : n ≤ M := n2
        obtain ⟨_, wv, q1, q2⟩ := GA.got n n1 n2'
        exact ⟨wv, q1, q2.mono monoS k0_30⟩

end
section
variable {w : World} {b : Heap} {f : Fm} {g : Heap} {m cm : Str → Option Value} {gl gl' gp gr led led' : Led} {h h' X : Heap} {A : Around} {E : Value → Shared → Prop} {env : Env} {gs : Array GenState} {dr : Drawn} {tk : Nat} {os : OsState} {x y : Str} {pos px py spos : Pos} {v t c r : Value}
  {Q : Value → Shared → Prop} {QF : Flow → Shared → Prop} {QU : Unit → Shared → Prop} {a d dx C l ta tra : Addr} {P P' : Obj → Prop} {name : Str} {s : Shared} {e : Expr} {rest : List Expr} {its : List Value} {value slice : Expr} {tab : List (Int × Value)} {trl : List (Str × Value)} {kvs : List (Str × Value)} {D : Doc} {H : Head} {o : Option Value} {ns : List Int} {ws : List Str}

theorem LawB.mono {a ta fa pa lh p0 p1 : Addr} {M : Nat} {tab ikvs : List (Int × Value)} {T0 T1 : Told} {bef : Option BS} {hv0 tv0 hv1 tv1 ov bv : Value} (x : LawB w b h a ta fa pa lh p0 p1 M tab ikvs D T0 T1 bef hv0 tv0 hv1 tv1 ov bv) (s : Sub h h') :
    LawB w b h' a ta fa pa lh p0 p1 M tab ikvs D T0 T1 bef hv0 tv0 hv1 tv1 ov bv :=
  { x with
    T := x.T.mono s
    SP := x.SP.mono s
    LH := x.LH.keeps s
    P0 := x.P0.keeps s
    P1 := x.P1.keeps s
    D0 := x.D0.mono s
    D1 := x.D1.mono s
    O := x.O.mono monoI s
    B := x.B.mono s
    IN := fun n h1 h2 => let ⟨wv, q1, q2⟩ := x.IN n h1 h2; ⟨wv, q1, q2.mono monoS s⟩ }
theorem St.window (S : St w b f g m cm gl led h) : ∃ X, Sub X h ∧ X.get? f.L = none ∧ Sub g X ∧ ∀ {a P}, (a, P) ∈ led → Ha X a P :=
  ⟨hideAll h [f.L], fun _ _ e => of_hideAll _ e, hideAll_none _ (.head _), fun a o e => hideAll_get _ (S.kg _ _ e) (fun z => by rw [List.mem_singleton.mp z, S.nL.2] at e; cases e),
    fun {a P} hm => by
      obtain ⟨⟨o, e, p⟩, n, _⟩ := S.at_ (a, P) (List.mem_append_right _ hm)
      exact ⟨o, hideAll_get _ e (fun z => n (List.mem_singleton.mp z)), p⟩⟩
theorem law_win {a ta fa pa lh p0 p1 idd : Addr} {M : Nat} {tab ikvs : List (Int × Value)} {T0 T1 : Told} {bef : Option BS} {hv0 tv0 hv1 tv1 ov bv : Value} (S : St w b f g m cm gl [(ta, ID w ta tab), (idd, ID w idd ikvs)] h) (B : LawB w b g a ta fa pa lh p0 p1 M tab ikvs D T0 T1 bef hv0 tv0 hv1 tv1 ov bv) :
    ∃ X, Sub X h ∧ X.get? f.L = none ∧ Sub g X ∧ ShOk w X a D ∧ IntentsV w X (.ref idd) D := by
  obtain ⟨X, sX, xL, sg, q⟩ := S.window
  exact ⟨X, sX, xL, sg, (B.SP.mono sg).ok (q (.head _)), idd, ikvs, rfl, q (.tail _ (.head _)), fun n h1 h2 => let ⟨wv, r1, r2⟩ := B.IN n h1 h2; ⟨wv, r1, r2.mono monoS sg⟩⟩
theorem law_C {L fn : Addr} {cd : Value} {e : Heap} {rest : List Stmt} {a ta fa pa lh p0 p1 idd : Addr} {M : Nat} {tab ikvs : List (Int × Value)} {T0 T1 : Told} {bef : Option BS} {hv0 tv0 hv1 tv1 ov bv : Value}
    (S : St w b ⟨L, lawCl L, e⟩ g m cm [(pa, PLB 75), (483, GrownP)] [(ta, ID w ta tab), (idd, ID w idd ikvs)] h) (RM : Room 12 A) (B : LawB w b g a ta fa pa lh p0 p1 M tab ikvs D T0 T1 bef hv0 tv0 hv1 tv1 ov bv)
    (hm1 : m "shelf" = some (.ref a)) (hm2 : m "intents" = some (.ref idd)) (hm3 : m "order" = some ov) (hm4 : m "heads" = some (.ref lh)) (hm5 : m "before" = some bv) (hc1 : cm "take" = some (.ref fa)) (hfr : A.frames = some [envOfC "law" (lwS w) L fn cd])
    (hr : ∀ cv sv g' m' cm' h' tk', Gle e g g' → St w b ⟨L, lawCl L, e⟩ g' m' cm' [(pa, PLB 75), (483, GrownP)] [(ta, ID w ta tab), (idd, ID w idd ikvs)] h' → ConfV w g' cv T0.head.conf → StV w g' sv (starting (once D.listed) T0.head.conf bef) →
      m' "shelf" = some (.ref a) → m' "order" = some ov → m' "heads" = some (.ref lh) → m' "config" = some cv → cm' "states" = some sv → cm' "take" = some (.ref fa) → wpAny (model PG w) A (execs rest (envOfC "law" (lwS w) L fn cd)) QF E ⟨h', gs, dr, tk', os⟩) :
    wpAny (model PG w) A (execs (((lwB w).drop 11).take 4 ++ rest) (envOfC "law" (lwS w) L fn cd)) QF E ⟨h, gs, dr, tk, os⟩ := by
  have big : (10000 : Nat) ≤ sizeLine := by rw [sizeLine_eq]; decide
  revert hfr hr
  refine' law_parts (P := fun BD sc => A.frames = some [envOfC "law" sc L fn cd] → (∀ cv sv g' m' cm' h' tk', Gle e g g' → St w b ⟨L, lawCl L, e⟩ g' m' cm' [(pa, PLB 75), (483, GrownP)] [(ta, ID w ta tab), (idd, ID w idd ikvs)] h' → ConfV w g' cv T0.head.conf → StV w g' sv (starting (once D.listed) T0.head.conf bef) →
      m' "shelf" = some (.ref a) → m' "order" = some ov → m' "heads" = some (.ref lh) → m' "config" = some cv → cm' "states" = some sv → cm' "take" = some (.ref fa) → wpAny (model PG w) A (execs rest (envOfC "law" sc L fn cd)) QF E ⟨h', gs, dr, tk', os⟩) → wpAny (model PG w) A (execs ((BD.drop 11).take 4 ++ rest) (envOfC "law" sc L fn cd)) QF E ⟨h, gs, dr, tk, os⟩) ?k1 ?_
  case k1 => k_is
  intro hfr hr
  dsimp only [List.take, List.drop, List.cons_append, List.nil_append]
  obtain ⟨X, sX, xL, sg, SK, IV⟩ := law_win S B
  repeat' (first | walk_at "Z" | walk_at "Zif")
  refine numbers_spec S (RM.less (by decide)) sX SK B.DO fun r g2 h2 tk2 G2 S2 s2 V2 => ?_
  have B2 := B.mono G2.1
  repeat' (first | walk_at "Z" | walk_at "Zif")
  refine z_neI RM (ns := once D.listed) (ns' := once D.listed) (LV.mono monoI V2 S2.kg) (LV.mono monoI B2.O S2.kg) ?_
  rw [decide_eq_true rfl]
  repeat' (first | walk_at "Z" | walk_at "Zif")
  obtain ⟨X2, sX2, xL2, sg2, SK2, IV2⟩ := law_win S2 B2
  refine lacking_spec S2 (RM.less (by decide)) sX2 SK2 B.DO (by rw [B.confs]; rfl) xL2 hfr rfl (show ScopeKind.function ≠ .module by decide) fun g3 h3 tk3 G3 S3 => ?_
  have B3 := B2.mono G3.1
  clear S2 S
  repeat' (first | walk_at "Z" | walk_at "Zif")
  refine z_item (B3.LH.keeps S3.kg) (by decide) (by decide) rfl ?_
  repeat' (first | walk_at "Z" | walk_at "Zif")
  refine z_itemT (B3.P0.keeps S3.kg) (by decide) (by decide) rfl (by show 2 < 2 ^ 62; decide) ?_
  repeat' (first | walk_at "Z" | walk_at "Zif")
  obtain ⟨X3, sX3, xL3, sg3, SK3, IV3⟩ := law_win S3 B3
  refine right_spec (TD := T0) (M := M) (bef := bef) S3 (RM.less (by decide)) sX3 SK3 B.DO (fun S RM sX k => conf_d_spec S RM sX SK3 B.DO (fun r g' h' tk' G S' CV => k r g' h' tk' G S' (by rw [← B.d0]; exact CV))) B.k0 (B3.D0.mono sg3) IV3 (LV.mono monoI B3.O sg3) (B3.B.mono sg3) fun g4 h4 tk4 G4 S4 => ?_
  have B4 := B3.mono G4.1
  clear S3
  repeat' (first | walk_at "Z" | walk_at "Zif")
  refine z_item (B4.LH.keeps S4.kg) (by decide) (by decide) rfl ?_
  repeat' (first | walk_at "Z" | walk_at "Zif")
  refine z_itemT (B4.P1.keeps S4.kg) (by decide) (by decide) rfl (by show 2 < 2 ^ 62; decide) ?_
  repeat' (first | walk_at "Z" | walk_at "Zif")
  obtain ⟨X4, sX4, xL4, sg4, SK4, IV4⟩ := law_win S4 B4
  refine right_spec (TD := T1) (M := M) (bef := bef) S4 (RM.less (by decide)) sX4 SK4 B.DO (fun S RM sX k => conf_0_spec S RM sX SK4 B.DO (H := T1.head) (by rw [B.confs]; rfl) k) B.k1 (B4.D1.mono sg4) IV4 (LV.mono monoI B4.O sg4) (B4.B.mono sg4) fun g5 h5 tk5 G5 S5 => ?_
  have B5 := B4.mono G5.1
  clear S4
  repeat' (first | walk_at "Z" | walk_at "Zif")
  obtain ⟨X5, sX5, xL5, sg5, SK5, IV5⟩ := law_win S5 B5
  refine conf_1_spec S5 (RM.less (by decide)) sX5 SK5 B.DO fun cv g6 h6 tk6 G6 S6 CV => ?_
  have B6 := B5.mono G6.1
  rw [B.d0] at CV
  clear S5
  repeat' (first | walk_at "Z" | walk_at "Zif")
  rename_i h7 S7
  clear S6
  refine start_spec S7 (RM.less (by decide)) S7.kg B6.O CV B6.B (Nat.le_trans (once_len _) (Nat.le_trans B.ldoc (by decide))) fun sv g8 h8 tk8 G8 S8 SV => ?_
  clear S7
  repeat' (first | walk_at "Z" | walk_at "Zif")
  rename_i h9 S9
  show wpAny _ _ (execs rest _) _ _ _
  exact hr cv sv g8 _ _ _ _ (((((G2.trans G3).trans G4).trans G5).trans G6).trans G8) S9 (CV.mono G8.1) SV hm1 hm3 hm4 rfl rfl hc1

end
section
variable {w : World} {b : Heap} {f : Fm} {g : Heap} {m cm : Str → Option Value} {gl gl' gp gr led led' : Led} {h h' X : Heap} {A : Around} {E : Value → Shared → Prop} {env : Env} {gs : Array GenState} {dr : Drawn} {tk : Nat} {os : OsState} {x y : Str} {pos px py spos : Pos} {v t c r : Value}
  {Q : Value → Shared → Prop} {QF : Flow → Shared → Prop} {QU : Unit → Shared → Prop} {a d dx C l ta tra : Addr} {P P' : Obj → Prop} {name : Str} {s : Shared} {e : Expr} {rest : List Expr} {its : List Value} {value slice : Expr} {tab : List (Int × Value)} {trl : List (Str × Value)} {kvs : List (Str × Value)} {D : Doc} {H : Head} {o : Option Value} {ns : List Int} {ws : List Str}

theorem hasB_put_of {st : BS} {x : Int} {v : Bool} (h : hasB st x = true) (m : Int) : hasB (putB st x v) m = hasB st m := by
  unfold putB
  rw [if_pos h]
  unfold hasB
  rw [List.any_map]
  congr 1
  funext p
  simp only [Function.comp_def]
  split <;> rfl
def offRow (st : BS) (row : List Int) : BS := (row.filter (hasB st)).map fun o => (o, false)
theorem putAll_off (st : BS) : ∀ (row : List Int) (st' : BS), (∀ m, hasB st' m = hasB st m) → putAll st' (offRow st row) = setAll st' row false
  | [], st', _ => rfl
  | x :: row, st', h => by
    have e : setAll st' (x :: row) false = setAll (if hasB st' x = true then putB st' x false else st') row false := rfl
    rw [e, h x]
    cases hx : hasB st x with
    | true =>
      have : offRow st (x :: row) = (x, false) :: offRow st row := by unfold offRow; rw [List.filter_cons_of_pos hx]; rfl
      rw [this, if_pos rfl]
      have h' : hasB st' x = true := by rw [h x]; exact hx
      exact putAll_off st row (putB st' x false) fun m => by rw [hasB_put_of h', h m]
    | false =>
      have : offRow st (x :: row) = offRow st row := by unfold offRow; rw [List.filter_cons_of_neg (by rw [hx]; decide)]
      rw [this, if_neg (by decide)]
      exact putAll_off st row st' h
theorem rowStep_tab {F : Int → Bool} {ns : List Int} {n : Int} {row : List Int} : rowStep n (tabB F ns) row = tabB (fun m => if n ∈ row ∧ m ∈ row then false else F m) ns := by
  unfold rowStep
  by_cases h : n ∈ row
  · rw [if_pos h, setAll_tab]
    unfold tabB
    apply List.map_congr_left
    intro m _
    by_cases h2 : m ∈ row <;> simp [h, h2]
  · rw [if_neg h]
    unfold tabB
    apply List.map_congr_left
    intro m _
    simp [h]
theorem radio_tab {ns : List Int} {n : Int} : ∀ (rows : List (List Int)) (F : Int → Bool), ∃ F', rows.foldl (rowStep n) (tabB F ns) = tabB F' ns ∧ (rows.map once).foldl (rowStep n) (tabB F ns) = tabB F' ns
  | [], F => ⟨F, rfl, rfl⟩
  | r :: rows, F => by
    rw [List.map_cons, List.foldl_cons, List.foldl_cons]
    have e : rowStep n (tabB F ns) (once r) = rowStep n (tabB F ns) r := by
      rw [rowStep_tab, rowStep_tab]
      simp only [once_mem']
    rw [e, rowStep_tab]
    exact radio_tab rows _
theorem switch_tab {F : Int → Bool} {ns : List Int} {n : Int} {on : Bool} (rows : List (List Int)) (h : n ∈ ns) : ∃ F', switchB (tabB F ns) rows n on = tabB F' ns ∧ switchB (tabB F ns) (rows.map once) n on = tabB F' ns := by
  unfold switchB
  cases on with
  | false => rw [if_neg (by decide), if_neg (by decide), putB_tab h]; exact ⟨_, rfl, rfl⟩
  | true =>
    obtain ⟨F', q1, q2⟩ := radio_tab (n := n) rows F
    rw [if_pos rfl, if_pos rfl, q1, q2, putB_tab h]; exact ⟨_, rfl, rfl⟩
def dueStep (on : Bool) (n : Int) (st : BS) (row : List Int) : BS := if on = true ∧ n ∈ row then setAll st row false else st
theorem dueStep_len (on : Bool) (n : Int) (st : BS) (row : List Int) : (dueStep on n st row).length = st.length := by
  unfold dueStep; split
  · exact setAll_len _ _ _
  · rfl
theorem dueFold_len (on : Bool) (n : Int) (rows : List (List Int)) (st : BS) : (rows.foldl (dueStep on n) st).length = st.length := by
  induction rows generalizing st with
  | nil => rfl
  | cons r rs ih => rw [List.foldl_cons, ih, dueStep_len]
theorem due_take {on : Bool} {n : Int} {st : BS} {rows : List (List Int)} {i : Nat} {r : List Int} (h : rows[i]? = some r) : (rows.take (i + 1)).foldl (dueStep on n) st = dueStep on n ((rows.take i).foldl (dueStep on n) st) r := by
  rw [take_snoc h, List.foldl_append]; rfl
theorem due_switch (on : Bool) (n : Int) (rows : List (List Int)) (st : BS) : putB (rows.foldl (dueStep on n) st) n on = switchB st rows n on := by
  unfold switchB
  congr 1
  cases on with
  | false =>
    rw [if_neg (by decide)]
    induction rows generalizing st with
    | nil => rfl
    | cons r rs ih => rw [List.foldl_cons]; have : dueStep false n st r = st := by unfold dueStep; rw [if_neg (by simp)]
                      rw [this]; exact ih st
  | true =>
    rw [if_pos rfl]
    have : dueStep true n = rowStep n := by funext st r; unfold dueStep rowStep; simp
    rw [this]

end
section
variable {w : World} {b : Heap} {f : Fm} {g : Heap} {m cm : Str → Option Value} {gl gl' gp gr led led' : Led} {h h' X : Heap} {A : Around} {E : Value → Shared → Prop} {env : Env} {gs : Array GenState} {dr : Drawn} {tk : Nat} {os : OsState} {x y : Str} {pos px py spos : Pos} {v t c r : Value}
  {Q : Value → Shared → Prop} {QF : Flow → Shared → Prop} {QU : Unit → Shared → Prop} {a d dx C l ta tra : Addr} {P P' : Obj → Prop} {name : Str} {s : Shared} {e : Expr} {rest : List Expr} {its : List Value} {value slice : Expr} {tab : List (Int × Value)} {trl : List (Str × Value)} {kvs : List (Str × Value)} {D : Doc} {H : Head} {o : Option Value} {ns : List Int} {ws : List Str}

theorem z_unpackSw {t : Addr} {n1 n2 : Str} {v1 v2 : Value} (S : St w b f g m cm gl led h) (hh : A.handled = none) (ht : Ha h t (TO [v1, v2]))
    (k' : ∀ h' tk', St w b f g (fun y => if y = n1 then some v1 else if y = n2 then some v2 else m y) cm gl led h' → QU () ⟨h', gs, dr, tk', os⟩) (hL : env.locals = f.L) (hk : env.scope.kind = .function) (q1 : env.kindOf n1 = some .local) (q2 : env.kindOf n2 = some .local) :
    wpAny (model PG w) A (unpackItems (.ref t) [n1, n2].length none) (fun items s₂ => wpAny (model PG w) A (assignInOrder ([n1, n2].reverse.map fun n => bindName env n) items.reverse) QU E s₂) E ⟨h, gs, dr, tk, os⟩ := by
  refine unpackItems_tuple (s := ⟨h, gs, dr, tk, os⟩) (items := #[v1, v2]) hh ht.tup fun h' he => ?_
  have S1 := S.keeps (h' := h') (fun a o e => he a o (Nat.ne_of_lt (Heap.lt_size e)) e)
  refine assignInOrder_cons ?_
  refine bindName_ ?_
  refine z_store S1 (fun h2 S2 => ?_) hL hk q2
  refine assignInOrder_cons ?_
  refine bindName_ ?_
  refine z_store S2 (fun h3 S3 => ?_) hL hk q1
  refine assignInOrder_nil ?_
  exact k' _ _ S3
/-- a statement's end, the locals too may have changed -/
theorem z_cutM {p : Sem Flow} (S : St w b f g m cm gl led h) (I : (Str → Option Value) → (Str → Option Value) → Heap → Led → Led → Prop)
    (h1 : wpAny (model PG w) A p (fun fl s' => fl = Flow.next ∧ ∃ g' m' cm' gl' led' h' tk', s' = ⟨h', gs, dr, tk', os⟩ ∧ Gle f.e g g' ∧ St w b f g' m' cm' gl' led' h' ∧ I m' cm' g' gl' led') (fun _ _ => False) ⟨h, gs, dr, tk, os⟩)
    (h2 : ∀ g' m' cm' gl' led' h' tk', Gle f.e g g' → St w b f g' m' cm' gl' led' h' → I m' cm' g' gl' led' → QF .next ⟨h', gs, dr, tk', os⟩) : wpAny (model PG w) A p QF E ⟨h, gs, dr, tk, os⟩ :=
  wpAny_mono h1 (fun fl s' ⟨e, g', m', cm', gl', led', h', tk', e2, G, S', i⟩ => by subst e; subst e2; exact h2 _ _ _ _ _ _ _ G S' i) fun _ _ z => z.elim
theorem z_cutMQ {p : Sem Flow} (S : St w b f g m cm gl led h) (I : (Str → Option Value) → (Str → Option Value) → Heap → Led → Led → Prop)
    (h1 : let I' := I; ∀ Q' : Flow → Shared → Prop, (∀ g' m' cm' gl' led' h' tk', Gle f.e g g' → St w b f g' m' cm' gl' led' h' → I' m' cm' g' gl' led' → Q' .next ⟨h', gs, dr, tk', os⟩) → wpAny (model PG w) A p Q' (fun _ _ => False) ⟨h, gs, dr, tk, os⟩)
    (h2 : ∀ g' m' cm' gl' led' h' tk', Gle f.e g g' → St w b f g' m' cm' gl' led' h' → I m' cm' g' gl' led' → QF .next ⟨h', gs, dr, tk', os⟩) : wpAny (model PG w) A p QF E ⟨h, gs, dr, tk, os⟩ :=
  z_cutM S I (h1 _ fun _ _ _ _ _ _ _ G S i => ⟨rfl, _, _, _, _, _, _, _, rfl, G, S, i⟩) h2
theorem law_D {L fn : Addr} {cd : Value} {e : Heap} {rest : List Stmt} {a ta fa pa lh p0 p1 idd : Addr} {M : Nat} {tab ikvs : List (Int × Value)} {T0 T1 : Told} {bef : Option BS} {hv0 tv0 hv1 tv1 ov bv cv sv : Value} {F0 : Int → Bool}
    (S : St w b ⟨L, lawCl L, e⟩ g m cm [(pa, PLB 75), (483, GrownP)] [(ta, ID w ta tab), (idd, ID w idd ikvs)] h) (RM : Room 12 A) (B : LawB w b g a ta fa pa lh p0 p1 M tab ikvs D T0 T1 bef hv0 tv0 hv1 tv1 ov bv) (CV : ConfV w g cv T0.head.conf) (SV : StV w g sv (tabB F0 (once D.listed)))
    (hm1 : m "shelf" = some (.ref a)) (hm3 : m "order" = some ov) (hm4 : m "heads" = some (.ref lh)) (hm5 : m "config" = some cv) (hc1 : cm "take" = some (.ref fa)) (hc2 : cm "states" = some sv) (hfr : A.frames = some [envOfC "law" (lwS w) L fn cd])
    (hr : ∀ sv' F' g' m' cm' h' tk', Gle e g g' → St w b ⟨L, lawCl L, e⟩ g' m' cm' [(pa, PLB 90), (483, GrownP)] [(ta, ID w ta tab), (idd, ID w idd ikvs)] h' → StV w g' sv' (tabB F' (once D.listed)) →
      m' "shelf" = some (.ref a) → m' "order" = some ov → m' "heads" = some (.ref lh) → m' "config" = some cv → cm' "states" = some sv' → wpAny (model PG w) A (execs rest (envOfC "law" (lwS w) L fn cd)) QF E ⟨h', gs, dr, tk', os⟩) :
    wpAny (model PG w) A (execs (((lwB w).drop 15).take 1 ++ rest) (envOfC "law" (lwS w) L fn cd)) QF E ⟨h, gs, dr, tk, os⟩ := by
  have big : (10000 : Nat) ≤ sizeLine := by rw [sizeLine_eq]; decide
  revert hfr hr
  refine' law_parts (P := fun BD sc => A.frames = some [envOfC "law" sc L fn cd] → (∀ sv' F' g' m' cm' h' tk', Gle e g g' → St w b ⟨L, lawCl L, e⟩ g' m' cm' [(pa, PLB 90), (483, GrownP)] [(ta, ID w ta tab), (idd, ID w idd ikvs)] h' → StV w g' sv' (tabB F' (once D.listed)) →
      m' "shelf" = some (.ref a) → m' "order" = some ov → m' "heads" = some (.ref lh) → m' "config" = some cv → cm' "states" = some sv' → wpAny (model PG w) A (execs rest (envOfC "law" sc L fn cd)) QF E ⟨h', gs, dr, tk', os⟩) → wpAny (model PG w) A (execs ((BD.drop 15).take 1 ++ rest) (envOfC "law" sc L fn cd)) QF E ⟨h, gs, dr, tk, os⟩) ?k1 ?_
  case k1 => k_is
  intro hfr hr
  dsimp only [List.take, List.drop, List.cons_append, List.nil_append]
  have lo : (once D.listed).length ≤ 7 := Nat.le_trans (once_len _) B.ldoc
  have lt : ∀ F, (tabB F (once D.listed)).length ≤ 7 := fun F => by unfold tabB; rw [List.length_map]; exact lo
  have bl : ∀ (st' : BS), st'.length ≤ 100 → (encB st').length ≤ sizeLine := fun st' q => by unfold encB; rw [List.length_map]; omega
  repeat' (first | walk_at "Z" | walk_at "Zif")
  refine wpAny_For ?_
  repeat' (first | walk_at "Z" | walk_at "Zif")
  refine callWith_F (B.T.at S.kg) ?_
  repeat' (first | walk_at "Z" | walk_at "Zif")
  refine ⟨B.T.at S.kg, ?_⟩
  refine B.T.call (gr := [(483, GrownP)]) (fun _ _ e => e) S (RM.less (by decide)) (by omega) (by decide) fun v tv h2 tk2 v0 v1 S2 => ?_
  clear S
  repeat' (first | walk_at "Z" | walk_at "Zif")
  refine z_range S2 fun r h3 tk3 t1 u1 w1 hrg S3 sub3 => ?_
  clear S2
  obtain ⟨c, rfl⟩ : ∃ c : Nat, v = (c : Int) := ⟨v.toNat, by omega⟩
  have rs := range_small (a := 0) (c := (c : Int)) (by omega) (by omega) (by omega)
  refine z_forRQ (n := c) S3 RM.hh hrg rs.1 (by rw [rs.2]; omega) rfl rfl rfl
    (fun i g₁ m₁ cm₁ gl₁ led₁ => Sub g g₁ ∧ m₁ "shelf" = some (.ref a) ∧ m₁ "order" = some ov ∧ m₁ "heads" = some (.ref lh) ∧ m₁ "config" = some cv ∧ cm₁ "take" = some (.ref fa) ∧ gl₁ = [(pa, PLB (75 + 1 + 2 * (i : Int))), (483, GrownP)] ∧ led₁ = [(ta, ID w ta tab), (idd, ID w idd ikvs)] ∧ ∃ sv₁ F₁, cm₁ "states" = some sv₁ ∧ StV w g₁ sv₁ (tabB F₁ (once D.listed)))
    ⟨fun _ _ e => e, hm1, hm3, hm4, hm5, hc1, by simp, rfl, _, _, hc2, SV⟩ ?_ ?_
  · intro i t e' g₁ m₁ cm₁ gl₁ led₁ h₁ tk₁ Q9 J9 hi hs hG f9 m9 S4 hn9 hr9 hb9 j9
    obtain ⟨sg, hm1, hm3, hm4, hm5, hc1, rfl, rfl, sv₁, F₁, hc2, SV1⟩ := j9
    clear S3
    have B1 := B.mono sg
    have CV1 := CV.mono sg
    repeat' (first | walk_at "Z" | walk_at "Zif")
    refine Assign_Tuple_swapped (names := ["number", "is_on"]) ?_
    repeat' (first | walk_at "Z" | walk_at "Zif")
    refine callWith_F (B1.T.at S4.kg) ?_
    repeat' (first | walk_at "Z" | walk_at "Zif")
    refine ⟨B1.T.at S4.kg, ?_⟩
    refine B1.T.call (gr := [(483, GrownP)]) (fun _ _ e => e) S4 (RM.less (by decide)) (by omega) (by decide) fun n0 tn0 h5 tk5 n00 n01 S5 => ?_
    clear S4
    repeat' (first | walk_at "Z" | walk_at "Zif")
    refine callWith_F (B1.T.at S5.kg) ?_
    repeat' (first | walk_at "Z" | walk_at "Zif")
    refine ⟨B1.T.at S5.kg, ?_⟩
    refine B1.T.call (gr := [(483, GrownP)]) (fun _ _ e => e) S5 (RM.less (by decide)) (by omega) (by decide) fun o0 to0 h6 tk6 o00 o01 S6 => ?_
    clear S5
    repeat' (first | walk_at "Z" | walk_at "Zif")
    rename_i lt' h7 S7 nlt
    clear S6
    have hb1 : 1 ≤ 1 + n0 ∧ 1 + n0 ≤ 6 := by omega
    generalize (1 : Int) + n0 = n at *
    generalize decide (o0 > 0) = on at *
    refine' z_unpackSw (n1 := "number") (n2 := "is_on") S7 RM.hh (S7.ha (.head _)) ?ka ?kb ?kc ?kd ?ke
    case kb => exact rfl
    case kc => exact rfl
    case kd => exact rfl
    case ke => exact rfl
    intro h8 tk8 S8
    have S9 := S8.sub (List.sublist_append_right [_] _)
    clear S7 S8
    obtain ⟨sd, rfl, SD1⟩ := id SV1
    repeat' (first | walk_at "Z" | walk_at "Zif")
    refine z_dictI S9 (SD1.keeps S9.kg) (bl _ (Nat.le_trans (lt _) (by decide))) fun dd h10 ndd S10 => ?_
    clear S9
    repeat' (first | walk_at "Z" | walk_at "Zif")
    rename_i h11 S11
    clear S10
    refine wpAny_For ?_
    repeat' (first | walk_at "Z" | walk_at "Zif")
    refine z_item (B1.LH.keeps S11.kg) (by decide) (by decide) rfl ?_
    repeat' (first | walk_at "Z" | walk_at "Zif")
    obtain ⟨td, t0, w1, w2, w3, w4, w5, rfl, TH, q1, q2, q3, q4, q5⟩ := id B1.D0
    refine z_itemT (B1.P0.keeps S11.kg) (by decide) (by decide) rfl (by show 2 < 2 ^ 62; decide) ?_
    repeat' (first | walk_at "Z" | walk_at "Zif")
    refine zz_itemA (kk := ("rows" : Str)) (TH.keeps S11.kg).sd (sis _ _) rfl ?_ (by with_unfolding_all rfl)
    obtain ⟨_, rvs, ez, LR, RA⟩ := id q3
    cases ez
    obtain ⟨olr, elr, _⟩ := id LR
    have k0 := B.k0
    refine z_forLQ S11 RM.hh (LR.keeps S11.kg) (S11.off_of_g elr) rfl rfl rfl
      (fun j g₂ m₂ cm₂ gl₂ led₂ => Sub g₁ g₂ ∧ m₂ "shelf" = some (.ref a) ∧ m₂ "order" = some ov ∧ m₂ "heads" = some (.ref lh) ∧ m₂ "config" = some cv ∧ m₂ "number" = m₂ "number" ∧ cm₂ "take" = some (.ref fa) ∧ cm₂ "states" = some (.ref sd) ∧ cm₂ "due" = some (.ref dd) ∧ gl₂ = [(pa, PLB (75 + 1 + 2 * (i : Int) + 1 + 1)), (483, GrownP)] ∧
        (∃ tn, m₂ "number" = some (.int n tn)) ∧ m₂ "is_on" = some (.bool on) ∧ led₂ = [(dd, ID w dd (encB ((T0.rows.take j).foldl (dueStep on n) (tabB F₁ (once D.listed))))), (ta, ID w ta tab), (idd, ID w idd ikvs)])
      ⟨fun _ _ e => e, hm1, hm3, hm4, hm5, rfl, hc1, hc2, rfl, rfl, ⟨_, rfl⟩, rfl, rfl⟩ ?_ ?_
    · intro j vv e'' g₂ m₂ cm₂ gl₂ led₂ h₂ tk₂ Q9 J9 hj hs2 hG2 f9 m9 S12 hn9 hr9 hb9 j9
      obtain ⟨sg2, hm1, hm3, hm4, hm5, _, hc1, hc2, hc3, rfl, ⟨tn, hm6⟩, hm7, rfl⟩ := j9
      obtain ⟨row, hrow, RW⟩ := RA.get hj
      replace RW : IntsV g₂ vv row := LV.mono monoI RW sg2
      obtain ⟨lr, xvs, rfl, LX, XA⟩ := id RW
      have dtk := due_take (on := on) (n := n) (st := tabB F₁ (once D.listed)) hrow
      have lst := Nat.le_of_eq (dueFold_len on n (T0.rows.take j) (tabB F₁ (once D.listed)))
      have lst' := Nat.le_trans lst (lt F₁)
      generalize (T0.rows.take j).foldl (dueStep on n) (tabB F₁ (once D.listed)) = stj at *
      have lrow : xvs.length ≤ 3 := by rw [XA.length]; exact k0.lrow _ (List.mem_of_getElem? hrow)
      repeat' (first | walk_at "Z" | walk_at "Zif")
      cases on with
      | false =>
        repeat' (first | walk_at "Z" | walk_at "Zif")
        exact hn9.go S12 (Gle.refl _ _) ⟨sg2, hm1, hm3, hm4, hm5, rfl, hc1, hc2, hc3, rfl, ⟨tn, hm6⟩, hm7, by rw [dtk]; unfold dueStep; rw [if_neg (by simp)]⟩
      | true =>
        repeat' (first | walk_at "Z" | walk_at "Zif")
        refine z_inI RM (LV.mono monoI RW S12.kg) ?_
        by_cases hin : n ∈ row
        · rw [decide_eq_true hin]
          repeat' (first | walk_at "Z" | walk_at "Zif")
          refine z_updM (S12.ha (.head _)) ?_
          repeat' (first | walk_at "Z" | walk_at "Zif")
          refine z_comp (cl := [("due", L + 1 + 1 + 1 + 1)]) rfl rfl (by decide) ?_ (fun _ => rfl)
          repeat' (first | walk_at "Z" | walk_at "Zif")
          have DH := St.pass (gp := [(pa, PLB (75 + 1 + 2 * (i : Int) + 1 + 1)), (483, GrownP)]) (gr := []) S12 (.head _)
          refine z_compL S12 RM.hh (LX.keeps S12.kg) (fun p hp z => by
            have := (S12.at_ p (List.mem_append_left _ hp)).2.2.2.2
            obtain ⟨o, e, _⟩ := LX
            rw [z, e] at this; cases this) (by omega) (by decide) rfl rfl (fun jj ys g gl => Sub g₂ g ∧ gl = [(pa, PLB (75 + 1 + 2 * (i : Int) + 1 + 1)), (483, GrownP)] ∧ ys.length ≤ jj ∧ All2 (PairV g) ys (offRow stj (row.take jj))) ⟨fun _ _ e => e, rfl, Nat.le_refl _, .nil⟩ (fun i ys g gl q => q.2.2.1) (fun i ys g gl ⟨_, q, _⟩ => by rw [q]) (CompTurnQ.turn ?_) ?_
          · intro C jj xv e3 ys g₃ m₃ gl₃ h₃ tk₃ Qy9 Qn9 J9 hjj hxv hs3 hG3 f9 m9 S13 hy9 hz9 j9
            obtain ⟨sg3, rfl, hyl, hy⟩ := j9
            obtain ⟨x, hx, tx, rfl⟩ := XA.get hxv
            have hcD : e3.IsCell (L + 1 + 1 + 1 + 1) (some (.ref dd)) := (S12.cellE (x := "due") (lookup_mem rfl) hc3).keeps hs3
            have DH3 := DH.keeps fun a o e => S13.ke _ _ (hs3 _ _ e)
            refine tests_one ?_
            repeat' (first | walk_at "Z" | walk_at "Zif")
            refine zz_in (kk := x) DH3.id DH3.idn (iis _ _) ?_
            rw [valueAt_enc, Option.isSome_map, hasB_get]
            cases hb : hasB stj x with
            | true =>
              repeat' (first | walk_at "Z" | walk_at "Zif")
              rename_i lt2 h14 S14 nlt2
              obtain ⟨g14, G14, FZ, S14'⟩ := St.freeze (new := [(lt2, _)]) (led := []) S14
              have FT : Ha g14 lt2 (TO [.int x tx, .bool false]) := FZ _ (.head _)
              exact hy9.go S14' G14 ⟨fun a o e => G14.1 _ _ (sg3 _ _ e), rfl, by simp; omega, by
                unfold offRow at hy ⊢
                rw [take_snoc hx, List.filter_append, filter_yes hb, List.map_append]
                exact (hy.mono fun _ _ ⟨a, t, q1, q2⟩ => ⟨a, t, q1, q2.keeps G14.1⟩).snoc ⟨_, _, rfl, FT⟩⟩
            | false =>
              repeat' (first | walk_at "Z" | walk_at "Zif")
              exact hz9.go S13 (Gle.refl _ _) ⟨sg3, rfl, by omega, by
                unfold offRow at hy ⊢
                rw [take_snoc hx, List.filter_append, filter_no hb, List.append_nil]
                exact hy⟩
          · rintro W3 ys g₃ gl₃ h₃ tk₃ ⟨sg3, rfl, hyl, hy⟩ G13 S13 nW _
            rw [XA.length, List.take_length] at hy
            repeat' (first | walk_at "Z" | walk_at "Zif")
            have nd := S13.nd
            have dW : dd ≠ W3 := fun z => by
              simp only [List.cons_append, List.nil_append, List.map_cons, List.nodup_cons] at nd
              exact nd.2.2.1 (by rw [← z]; exact .head _)
            refine z_updateP (st := stj) (X := g₃) S13 RM (.there .here) (S13.ha (.head _)) dW hy S13.kg (S13.at_ (dd, _) (List.mem_append_right _ (.tail _ (.head _)))).2.2.2.2 (by omega) fun h14 tk14 S14 => ?_
            rw [putAll_off stj row stj (fun _ => rfl)] at S14
            repeat' (first | walk_at "Z" | walk_at "Zif")
            exact hn9.go (S14.sub (List.sublist_append_right [_] _)) G13 ⟨(fun a o e => G13.1 _ _ (sg2 _ _ e)), hm1, hm3, hm4, hm5, rfl, hc1, hc2, hc3, rfl, ⟨tn, hm6⟩, hm7, by rw [dtk]; unfold dueStep; rw [if_pos ⟨rfl, hin⟩]⟩
        · rw [decide_eq_false hin]
          repeat' (first | walk_at "Z" | walk_at "Zif")
          exact hn9.go S12 (Gle.refl _ _) ⟨sg2, hm1, hm3, hm4, hm5, rfl, hc1, hc2, hc3, rfl, ⟨tn, hm6⟩, hm7, by rw [dtk]; unfold dueStep; rw [if_neg (fun z => hin z.2)]⟩
    · rintro g₂ m₂ cm₂ gl₂ led₂ h₂ tk₂ ⟨sg2, hm1, hm3, hm4, hm5, _, hc1, hc2, hc3, rfl, ⟨tn, hm6⟩, hm7, rfl⟩ hG2 S12
      rw [RA.length, List.take_length] at S12
      have B2 := B1.mono sg2
      have CV2 := CV1.mono sg2
      have SD2 := SD1.keeps sg2
      have ls0 := Nat.le_of_eq (dueFold_len on n T0.rows (tabB F₁ (once D.listed)))
      have ls1 := Nat.le_trans ls0 (lt F₁)
      repeat' (first | walk_at "Z" | walk_at "Zif")
      refine z_setI S12 .here (fun h13 S13 => ?_) (bl _ (by omega))
      rw [stored_enc, due_switch] at S13
      clear S12
      repeat' walk_at "Z"
      refine z_cutMQ S13 (fun m' cm' g' gl' led' => g₂ = g' ∧ m' = m₂ ∧ gl' = [(pa, PLB (75 + 1 + 2 * (i : Int) + 1 + 1)), (483, GrownP)] ∧ led' = [(dd, ID w dd (encB (switchB (tabB F₁ (once D.listed)) T0.rows n on))), (ta, ID w ta tab), (idd, ID w idd ikvs)] ∧ cm' "take" = some (.ref fa) ∧ cm' "states" = some (.ref sd) ∧
        ((n ∈ once D.listed ∧ n ∉ T0.locked ∧ cm' "due" = some (.ref dd)) ∨ ((n ∉ once D.listed ∨ n ∈ T0.locked) ∧ cm' "due" = some .none))) ?_ ?_
      · intro I9 Q9 hn9
        refine wpAny_If ?_
        repeat' (first | walk_at "Z" | walk_at "Zif")
        refine z_notinI RM (LV.mono monoI B2.O S13.kg) ?_
        by_cases hno : n ∈ once D.listed
        · rw [decide_eq_true hno]
          repeat' (first | walk_at "Z" | walk_at "Zif")
          refine z_item (B2.LH.keeps S13.kg) (by decide) (by decide) rfl ?_
          repeat' (first | walk_at "Z" | walk_at "Zif")
          refine z_itemT (B2.P0.keeps S13.kg) (by decide) (by decide) rfl (by show 2 < 2 ^ 62; decide) ?_
          repeat' (first | walk_at "Z" | walk_at "Zif")
          refine zz_itemA (kk := ("Locked" : Str)) (TH.keeps fun a o e => S13.kg _ _ (sg2 _ _ e)).sd (sis _ _) rfl ?_ (by with_unfolding_all rfl)
          repeat' (first | walk_at "Z" | walk_at "Zif")
          refine z_inI RM (LV.mono monoI q4 fun a o e => S13.kg _ _ (sg2 _ _ e)) ?_
          by_cases hlk : n ∈ T0.locked
          · rw [decide_eq_true hlk]
            repeat' (first | walk_at "Z" | walk_at "Zif")
            rename_i h14 S14
            exact hn9 _ _ _ _ _ _ _ (Gle.refl _ _) S14 ⟨rfl, rfl, rfl, rfl, hc1, hc2, .inr ⟨.inr hlk, rfl⟩⟩
          · rw [decide_eq_false hlk]
            repeat' (first | walk_at "Z" | walk_at "Zif")
            exact hn9 _ _ _ _ _ _ _ (Gle.refl _ _) S13 ⟨rfl, rfl, rfl, rfl, hc1, hc2, .inl ⟨hno, hlk, hc3⟩⟩
        · rw [decide_eq_false hno]
          repeat' (first | walk_at "Z" | walk_at "Zif")
          rename_i h14 S14
          exact hn9 _ _ _ _ _ _ _ (Gle.refl _ _) S14 ⟨rfl, rfl, rfl, rfl, hc1, hc2, .inr ⟨.inl hno, rfl⟩⟩
      · rintro g₃ m₃ cm₃ gl₃ led₃ h14 tk14 G14 S14 ⟨rfl, rfl, rfl, rfl, hc1, hc2, hgb⟩
        clear S13
        repeat' (first | walk_at "Z" | walk_at "Zif")
        refine z_dictI S14 (SD2.keeps S14.kg) (bl _ (Nat.le_trans (lt _) (by decide))) fun kd h15 nkd S15 => ?_
        clear S14
        repeat' (first | walk_at "Z" | walk_at "Zif")
        rename_i h16 S16
        clear S15
        obtain ⟨F2, sw1, sw2⟩ : ∃ F2, (n ∈ once D.listed → switchB (tabB F₁ (once D.listed)) T0.rows n on = tabB F2 (once D.listed)) ∧ (n ∈ once D.listed → switchB (tabB F₁ (once D.listed)) (T0.rows.map once) n on = tabB F2 (once D.listed)) := by
          by_cases hno : n ∈ once D.listed
          · obtain ⟨F2, x1, x2⟩ := switch_tab (F := F₁) (on := on) T0.rows hno
            exact ⟨F2, fun _ => x1, fun _ => x2⟩
          · exact ⟨F₁, fun z => absurd z hno, fun z => absurd z hno⟩
        refine lawsw_spec (st := tabB F₁ (once D.listed)) S16 (RM.less (by decide)) S16.kg ⟨_, rfl, SD2⟩ CV2 (Nat.le_trans (lt _) (by decide)) (by omega) (by omega) S16.nL.2 hfr rfl (show ScopeKind.function ≠ .module by decide) (fun hh1 hh2 r g17 h17 tk17 G17 S17 RV => ?_) (fun hbad g17 h17 tk17 G17 S17 => ?_)
        · have hno : n ∈ once D.listed := by rw [hasB_tab] at hh1; exact of_decide_eq_true hh1
          have hnl : n ∉ T0.locked := fun z => hh2 (once_mem'.mpr z)
          have RV' : StV w g17 r (tabB F2 (once D.listed)) := by
            have : switchB (tabB F₁ (once D.listed)) T0.head.conf.radio n on = tabB F2 (once D.listed) := sw2 hno
            rw [this] at RV; exact RV
          rcases hgb with ⟨_, _, hc3⟩ | ⟨z, _⟩
          · rw [sw1 hno] at S17
            repeat' (first | walk_at "Z" | walk_at "Zif")
            refine z_neB RM (RV'.mono S17.kg) ⟨_, rfl, S17.ha (.tail _ (.head _))⟩ ?_
            repeat' (first | walk_at "Z" | walk_at "Zif")
            refine z_neB RM ⟨_, rfl, SD2.keeps fun a o e => S17.kg _ _ (G17.1 _ _ e)⟩ ⟨_, rfl, S17.ha (.head _)⟩ ?_
            repeat' (first | walk_at "Z" | walk_at "Zif")
            rename_i h18 S18
            obtain ⟨g19, G19, FZ, S19⟩ := St.freeze (new := [(kd, ID w kd (encB (tabB F₁ (once D.listed)))), (dd, ID w dd (encB (tabB F2 (once D.listed))))]) (led := [(ta, ID w ta tab), (idd, ID w idd ikvs)]) S18
            exact hn9.go S19 (hG2.trans (G17.trans G19)) ⟨(fun a o e => G19.1 _ _ (G17.1 _ _ (sg2 _ _ (sg _ _ e)))), hm1, hm3, hm4, hm5, hc1, by rw [show 75 + 1 + 2 * (i : Int) + 1 + 1 = 75 + 1 + 2 * ((i + 1 : Nat) : Int) by omega], rfl, _, F2, rfl, ⟨_, rfl, FZ _ (.tail _ (.head _))⟩⟩
          · exact absurd hno (by rcases z with z | z <;> first | exact z | exact absurd z hnl)
        · rcases hgb with ⟨hno, hnl, _⟩ | ⟨_, hc3⟩
          · exfalso
            rcases hbad with z | z
            · rw [hasB_tab, decide_eq_true hno] at z; cases z
            · exact hnl (once_mem'.mp z)
          · repeat' (first | walk_at "Z" | walk_at "Zif")
            refine PySem.EqNone.ne_none_none ?_
            repeat' (first | walk_at "Z" | walk_at "Zif")
            refine z_neB RM ⟨_, rfl, SD2.keeps fun a o e => S17.kg _ _ (G17.1 _ _ e)⟩ ⟨_, rfl, S17.ha (.head _)⟩ ?_
            repeat' (first | walk_at "Z" | walk_at "Zif")
            rename_i h18 S18
            obtain ⟨g19, G19, FZ, S19⟩ := St.freeze (new := [(kd, ID w kd (encB (tabB F₁ (once D.listed)))), (dd, ID w dd (encB (switchB (tabB F₁ (once D.listed)) T0.rows n on)))]) (led := [(ta, ID w ta tab), (idd, ID w idd ikvs)]) S18
            exact hn9.go S19 (hG2.trans (G17.trans G19)) ⟨(fun a o e => G19.1 _ _ (G17.1 _ _ (sg2 _ _ (sg _ _ e)))), hm1, hm3, hm4, hm5, hc1, by rw [show 75 + 1 + 2 * (i : Int) + 1 + 1 = 75 + 1 + 2 * ((i + 1 : Nat) : Int) by omega], rfl, _, F₁, rfl, ⟨_, rfl, FZ _ (.head _)⟩⟩
  · rintro g₁ m₁ cm₁ gl₁ led₁ h₁ tk₁ ⟨sg, hm1, hm3, hm4, hm5, hc1, rfl, rfl, sv₁, F₁, hc2, SV1⟩ hG S4
    repeat' (first | walk_at "Z" | walk_at "Zif")
    show wpAny _ _ (execs rest _) _ _ _
    exact hr sv₁ F₁ g₁ _ _ _ _ hG (S4.weakG (PLB.mono (by omega))) SV1 hm1 hm3 hm4 hm5 hc2

end
section
variable {w : World} {b : Heap} {f : Fm} {g : Heap} {m cm : Str → Option Value} {gl gl' gp gr led led' : Led} {h h' X : Heap} {A : Around} {E : Value → Shared → Prop} {env : Env} {gs : Array GenState} {dr : Drawn} {tk : Nat} {os : OsState} {x y : Str} {pos px py spos : Pos} {v t c r : Value}
  {Q : Value → Shared → Prop} {QF : Flow → Shared → Prop} {QU : Unit → Shared → Prop} {a d dx C l ta tra : Addr} {P P' : Obj → Prop} {name : Str} {s : Shared} {e : Expr} {rest : List Expr} {its : List Value} {value slice : Expr} {tab : List (Int × Value)} {trl : List (Str × Value)} {kvs : List (Str × Value)} {D : Doc} {H : Head} {o : Option Value} {ns : List Int} {ws : List Str}

theorem after_ok {st : BS} (O : D.Ok) (hc : D.d0.cap ≤ 999) : (D.after st).Ok := by
  have h0 := O.d0
  refine ⟨O.many, O.listed, O.llisted, O.lwords, ⟨(fun n hn => nomatch hn), fun n hn => O.listed n (List.mem_filter.mp hn).1, h0.locked, h0.rows, (Nat.zero_le _), Nat.le_trans (List.length_filter_le _ _) O.llisted, h0.llocked, h0.lrows, h0.lrow, h0.lwords, (Nat.succ_le_succ hc)⟩, fun H hH => ?_, O.lconfs⟩
  have x := O.confs H hH
  exact ⟨x.on, x.off, x.locked, x.rows, x.lon, x.loff, x.llocked, x.lrows, x.lrow, x.lwords, x.lcap⟩
theorem after_start (D : Doc) (F : Int → Bool) : starting (once D.listed) (D.after (tabB F (once D.listed))).d0.conf none = tabB F (once D.listed) := by
  rw [starting_tab _ _ (once_nodup _)]
  refine List.map_congr_left fun n hn => ?_
  have e1 : (n ∈ (D.after (tabB F (once D.listed))).d0.conf.off) = (F n = false) := by
    apply propext
    show n ∈ once (D.listed.filter (offN (tabB F (once D.listed)))) ↔ _
    rw [once_mem', List.mem_filter]
    unfold offN
    rw [getB_tab, if_pos hn]
    have := once_mem hn
    cases F n <;> simp [this]
  have e2 : (n ∈ (D.after (tabB F (once D.listed))).d0.conf.on) = False := by
    apply propext
    show n ∈ once [] ↔ _
    simp [once]
  have e3 : initB (D.after (tabB F (once D.listed))).d0.conf.base none n = true := by
    show decide (("ON" : Str) ≠ "OFF") = true
    decide
  simp only [e1, e2, e3]
  cases F n <;> simp
theorem law_F {L fn : Addr} {cd : Value} {e : Heap} {a ta fa pa lh p0 p1 idd : Addr} {M : Nat} {tab ikvs : List (Int × Value)} {T0 T1 : Told} {bef : Option BS} {hv0 tv0 hv1 tv1 ov bv sv : Value} {F0 : Int → Bool} {n0 : Int}
    (S : St w b ⟨L, lawCl L, e⟩ g m cm [(pa, PLB n0), (483, GrownP)] [(ta, ID w ta tab), (idd, ID w idd ikvs)] h) (RM : Room 12 A) (B : LawB w b g a ta fa pa lh p0 p1 M tab ikvs D T0 T1 bef hv0 tv0 hv1 tv1 ov bv) (SV : StV w g sv (tabB F0 (once D.listed)))
    (hm1 : m "shelf" = some (.ref a)) (hm3 : m "order" = some ov) (hc2 : cm "states" = some sv) (hr : ∀ g' m' cm' gl' led' h' tk', St w b ⟨L, lawCl L, e⟩ g' m' cm' gl' led' h' → (483, GrownP) ∈ gl' → QF (.ret (.bool true)) ⟨h', gs, dr, tk', os⟩) :
    wpAny (model PG w) A (execs ((lwB w).drop 18) (envOfC "law" (lwS w) L fn cd)) QF E ⟨h, gs, dr, tk, os⟩ := by
  have big : (10000 : Nat) ≤ sizeLine := by rw [sizeLine_eq]; decide
  refine' law_parts (P := fun BD sc => wpAny (model PG w) A (execs (BD.drop 18) (envOfC "law" sc L fn cd)) QF E ⟨h, gs, dr, tk, os⟩) ?k1 ?_
  case k1 => k_is
  dsimp only [List.take, List.drop, List.cons_append, List.nil_append]
  have lo : (once D.listed).length ≤ 7 := Nat.le_trans (once_len _) B.ldoc
  have S1 : St w b ⟨L, lawCl L, e⟩ g m cm [(ta, ID w ta tab), (pa, PLB n0), (483, GrownP)] [(idd, ID w idd ikvs)] h := S.perm (List.perm_middle (l₁ := [(pa, PLB n0), (483, GrownP)]))
  clear S
  repeat' (first | walk_at "Z" | walk_at "Zif")
  refine put_states_spec S1 (RM.less (by decide)) B.SP B.DO (Nat.le_trans B.ltab (by decide)) SV fun tab' g2 h2 tk2 G2 S2 SP2 => ?_
  clear S1
  have S3 : St w b ⟨L, lawCl L, e⟩ g2 m cm [(pa, PLB n0), (483, GrownP)] [(ta, ID w ta tab'), (idd, ID w idd ikvs)] h2 := S2.perm (List.perm_middle (l₁ := [(pa, PLB n0), (483, GrownP)])).symm
  clear S2
  have DO' : (D.after (tabB F0 (once D.listed))).Ok := after_ok B.DO (by rw [B.d0]; show 7 ≤ 999; decide)
  repeat' (first | walk_at "Z" | walk_at "Zif")
  obtain ⟨X, sX, xL, sg, q⟩ := S3.window
  refine conf_1_spec S3 (RM.less (by decide)) sX ((SP2.mono sg).ok (q (.head _))) DO' fun cv g4 h4 tk4 G4 S4 CV => ?_
  repeat' (first | walk_at "Z" | walk_at "Zif")
  have O4 : IntsV g4 ov (once D.listed) := LV.mono monoI B.O fun a o e => G4.1 _ _ (G2.1 _ _ e)
  refine start2_spec S4 (RM.less (by decide)) S4.kg O4 CV (Nat.le_trans lo (by decide)) fun r g5 h5 tk5 G5 S5 RV => ?_
  rw [after_start] at RV
  repeat' (first | walk_at "Z" | walk_at "Zif")
  refine z_eqB RM (RV.mono S5.kg) ((SV.mono fun a o e => G5.1 _ _ (G4.1 _ _ (G2.1 _ _ e))).mono S5.kg) ?_
  repeat' (first | walk_at "Z" | walk_at "Zif")
  obtain ⟨X2, sX2, xL2, sg2, q2⟩ := S5.window
  refine numbers_spec S5 (RM.less (by decide)) sX2 (((SP2.mono fun a o e => G5.1 _ _ (G4.1 _ _ e)).mono sg2).ok (q2 (.head _))) DO' fun r2 g6 h6 tk6 G6 S6 s6 V6 => ?_
  repeat' (first | walk_at "Z" | walk_at "Zif")
  refine z_eqI RM (ns := once D.listed) (ns' := once D.listed) (LV.mono monoI V6 S6.kg) (LV.mono monoI O4 fun a o e => S6.kg _ _ (G6.1 _ _ (G5.1 _ _ e))) ?_
  rw [decide_eq_true rfl]
  repeat' (first | walk_at "Z" | walk_at "Zif")
  exact hr _ _ _ _ _ _ _ S6 (.tail _ (.head _))

end
section
variable {w : World} {b : Heap} {f : Fm} {g : Heap} {m cm : Str → Option Value} {gl gl' gp gr led led' : Led} {h h' X : Heap} {A : Around} {E : Value → Shared → Prop} {env : Env} {gs : Array GenState} {dr : Drawn} {tk : Nat} {os : OsState} {x y : Str} {pos px py spos : Pos} {v t c r : Value}
  {Q : Value → Shared → Prop} {QF : Flow → Shared → Prop} {QU : Unit → Shared → Prop} {a d dx C l ta tra : Addr} {P P' : Obj → Prop} {name : Str} {s : Shared} {e : Expr} {rest : List Expr} {its : List Value} {value slice : Expr} {tab : List (Int × Value)} {trl : List (Str × Value)} {kvs : List (Str × Value)} {D : Doc} {H : Head} {o : Option Value} {ns : List Int} {ws : List Str}

/-- the sets of up to three of the numbers 1 to 5, rising -/
def subs5 : List (List Int) := [[], [1], [2], [3], [4], [5], [1, 2], [1, 3], [1, 4], [1, 5], [2, 3], [2, 4], [2, 5], [3, 4], [3, 5], [4, 5], [1, 2, 3], [1, 2, 4], [1, 2, 5], [1, 3, 4], [1, 3, 5], [1, 4, 5], [2, 3, 4], [2, 3, 5], [2, 4, 5], [3, 4, 5]]
def tabT (ks : List Int) (ld : Bool) : SetTable := { mask := 7, place := (ks.map Int.toNat).toArray, dummies := #[], finger := 0, led := ld, moves := 0, plain := true }
def insP (ks : List Int) (k : Int) : Nat := (ks.takeWhile fun x => decide (x < k)).length
def insK (ks : List Int) (k : Int) : List Int := ks.take (insP ks k) ++ k :: ks.drop (insP ks k)
theorem tab_facts : ∀ ld : Bool, ∀ ks ∈ subs5, ∀ k ∈ ([1, 2, 3, 4, 5] : List Int), k ∉ ks → ks.length ≤ 2 →
    (tabT ks ld).freeSlot (hashInt k) = some (k.toNat, false) ∧ (tabT ks ld).put k.toNat = (tabT (insK ks k) ld, insP ks k) ∧ insK ks k ∈ subs5 := by decide +kernel
theorem tab_fits : ∀ ld : Bool, ∀ ks ∈ subs5, (tabT ks ld).fits ks.length = true ∧ (tabT ks ld).tooFull = false := by decide +kernel
def slotAt (bt : Bool) (ks : List Int) (i : Nat) : Nat := if bt = true then 0 else if i = 0 then 0 else (ks.getD (i - 1) 0).toNat + 1
theorem below_facts : ∀ ks ∈ subs5, ∀ i ∈ List.range 4, i ≤ ks.length → SetTable.below (ks.map Int.toNat).toArray (slotAt false ks i) = i := by decide +kernel
theorem subs5_small : ∀ ks ∈ subs5, ks.length ≤ 3 ∧ ∀ k ∈ ks, k ∈ ([1, 2, 3, 4, 5] : List Int) := by decide +kernel
theorem hash_of : ∀ k ∈ ([1, 2, 3, 4, 5] : List Int), hashInt k = k := by decide +kernel

end
section
variable {w : World} {b : Heap} {f : Fm} {g : Heap} {m cm : Str → Option Value} {gl gl' gp gr led led' : Led} {h h' X : Heap} {A : Around} {E : Value → Shared → Prop} {env : Env} {gs : Array GenState} {dr : Drawn} {tk : Nat} {os : OsState} {x y : Str} {pos px py spos : Pos} {v t c r : Value}
  {Q : Value → Shared → Prop} {QF : Flow → Shared → Prop} {QU : Unit → Shared → Prop} {a d dx C l ta tra : Addr} {P P' : Obj → Prop} {name : Str} {s : Shared} {e : Expr} {rest : List Expr} {its : List Value} {value slice : Expr} {tab : List (Int × Value)} {trl : List (Str × Value)} {kvs : List (Str × Value)} {D : Doc} {H : Head} {o : Option Value} {ns : List Int} {ws : List Str}

/-- a set's entries stand for the rising list `ks` -/
def SetE (es : Array (Int × Value)) (ks : List Int) : Prop := All2 (fun (e : Int × Value) k => e.1 = k ∧ ∃ t, e.2 = .int k t) es.toList ks
def soO (w : World) (ks : List Int) (ep : Nat) (es : Array (Int × Value)) : Obj := { cls := .type "set", dict := none, data := .set es ep (tabT ks (!w.params.followText "set-order")), slots := #[] }
def PSet (w : World) (h : Heap) (a : Addr) (ks : List Int) : Prop := ks ∈ subs5 ∧ ∃ es ep, SetE es ks ∧ h.get? a = some (soO w ks ep es)
def addK (ks : List Int) (k : Int) : List Int := if k ∈ ks then ks else insK ks k

theorem All2.take {α β : Type} {R : α → β → Prop} {as : List α} {bs : List β} (x : All2 R as bs) : ∀ n, All2 R (as.take n) (bs.take n) := by
  induction x with
  | nil => intro n; simp; exact .nil
  | cons r _ ih => intro n; cases n with
    | zero => exact .nil
    | succ n => simpa using All2.cons r (ih n)
theorem All2.drop {α β : Type} {R : α → β → Prop} {as : List α} {bs : List β} (x : All2 R as bs) : ∀ n, All2 R (as.drop n) (bs.drop n) := by
  induction x with
  | nil => intro n; simp; exact .nil
  | cons r xs ih => intro n; cases n with
    | zero => exact .cons r xs
    | succ n => simpa using ih n
theorem All2.app {α β : Type} {R : α → β → Prop} {as as' : List α} {bs bs' : List β} (x : All2 R as bs) (y : All2 R as' bs') : All2 R (as ++ as') (bs ++ bs') := by
  induction x with
  | nil => exact y
  | cons r _ ih => exact .cons r ih

theorem SetE.size {es : Array (Int × Value)} {ks : List Int} (x : SetE es ks) : es.size = ks.length := by rw [← Array.length_toList]; exact All2.length x
theorem SetE.elems {prog : Program} {es : Array (Int × Value)} {ks : List Int} (x : SetE es ks) (hk : ∀ k ∈ ks, hashInt k = k) : ElemsOf (intKind prog w) es.toList := by
  intro e he
  obtain ⟨i, hi⟩ := List.getElem?_of_mem he
  obtain ⟨k, hb, e1, t, e2⟩ := All2.get x hi
  have hkm := List.mem_of_getElem? hb
  refine ⟨⟨k, by rw [e2]; exact intKind_is _ _ _ _, ?_⟩, by rw [e2]; rfl⟩
  rw [e1]; exact (hk k hkm).symm
theorem SetE.find {prog : Program} {es : Array (Int × Value)} {ks : List Int} (x : SetE es ks) (k : Int) : (es.toList.findIdx? (fun e => (intKind prog w).is k e.2)).isSome = decide (k ∈ ks) := by
  have : ∀ {as : List (Int × Value)} {bs : List Int}, All2 (fun (e : Int × Value) k => e.1 = k ∧ ∃ t, e.2 = .int k t) as bs → (as.findIdx? (fun e => (intKind prog w).is k e.2)).isSome = decide (k ∈ bs) := by
    intro as bs y
    induction y with
    | nil => simp
    | @cons a b as bs r _ ih =>
      obtain ⟨e1, t, e2⟩ := r
      have q : (intKind prog w).is k a.2 = decide (k = b) := KeyKind.is_eq_decide (by rw [e2]; exact intKind_is _ _ _ _) k
      rw [List.findIdx?_cons, q]
      by_cases e : k = b
      · simp [e]
      · simp [e, ih]
  exact this x
theorem SetE.ins {es : Array (Int × Value)} {ks : List Int} {k : Int} {t : Tok} (x : SetE es ks) : SetE (SetTable.insertAt es (insP ks k) (k, .int k t)) (insK ks k) := by
  unfold SetE
  rw [SetTable.toList_insertAt]
  unfold insK
  exact (x.take _).app (.cons ⟨rfl, t, rfl⟩ (x.drop _))

theorem PSet.keeps {h h' : Heap} {a : Addr} {ks : List Int} (x : PSet w h a ks) (k : ∀ o, h.get? a = some o → h'.get? a = some o) : PSet w h' a ks :=
  let ⟨m, es, ep, e, o⟩ := x; ⟨m, es, ep, e, k _ o⟩

theorem addP {a : Addr} {ks : List Int} {k : Int} {t : Tok} {Q : Bool → Shared → Prop} (hS : PSet w s.heap a ks) (hk : k ∈ ([1, 2, 3, 4, 5] : List Int)) (hroom : k ∈ ks ∨ ks.length ≤ 2)
    (h : ∀ r h', Heap.SameBut a s.heap h' → PSet w h' a (addK ks k) → Q r { s with heap := h' }) :
    wpAny (model PG w) A (setAddHashed a (.int k t) ((intKind PG w).hash k)) Q E s := by
  obtain ⟨hm, es, ep, he, ho⟩ := hS
  have sm := subs5_small ks hm
  have el : ElemsOf (intKind PG w) es.toList := he.elems (prog := PG) fun x hx => hash_of x (sm.2 x hx)
  have hf : (tabT ks (!w.params.followText "set-order")).fits es.size = true := by rw [he.size]; exact (tab_fits _ ks hm).1
  have hkey := intKind_is PG w k t
  have hsc : (Value.int k t).scannable = true := rfl
  have hb : es.size < scanBound := by rw [he.size]; unfold scanBound; omega
  unfold setAddHashed setAddHashedIn
  refine wpAny_holding (wpAny_bind (wpAny_setState_of ho rfl hf ?_))
  dsimp only
  rw [byScan_of hsc hb el]
  simp only [↓reduceIte]
  unfold setAddByScan
  refine wpAny_bind ?_
  refine wpAny_bind (wpAny_rule ?_)
  refine wpAny_bind (wpAny_setScan_of hkey ho rfl hf el ?_)
  have fnd := he.find (prog := PG) (w := w) k
  cases hr : List.findIdx? (fun e => (intKind PG w).is k e.2) es.toList with
  | some j =>
    rw [hr] at fnd
    have hin : k ∈ ks := by simpa using fnd.symm
    dsimp only
    refine wpAny_pure (wpAny_pure ?_)
    have := h false s.heap (Heap.SameBut.refl a s.heap) (by unfold addK; rw [if_pos hin]; exact ⟨hm, es, ep, he, ho⟩)
    exact this
  | none =>
    rw [hr] at fnd
    have hin : k ∉ ks := by simpa using fnd.symm
    have hl : ks.length ≤ 2 := hroom.resolve_left hin
    have tf := tab_facts (!w.params.followText "set-order") ks hm k hk hin hl
    have hh : (intKind PG w).hash k = k := hash_of k hk
    have hei := he.ins (k := k) (t := t)
    have tf2 := tab_fits (!w.params.followText "set-order") _ tf.2.2
    have lay : layNew (tabT ks (!w.params.followText "set-order")) es ((intKind PG w).hash k) (.int k t) = (SetTable.insertAt es (insP ks k) (k, .int k t), tabT (insK ks k) (!w.params.followText "set-order"), false, false) := by
      have e1 : (tabT ks (!w.params.followText "set-order")).freeSlot ((intKind PG w).hash k) = some (k.toNat, false) := tf.1
      unfold layNew
      rw [e1]
      dsimp only
      rw [tf.2.1, hh]
      dsimp only
      unfold SetTable.orStandIn
      rw [hei.size, tf2.1]
      rfl
    rw [lay]
    dsimp only
    refine wpAny_bind (wpAny_pure ?_)
    rw [hashByValue_scannable 8 hsc]
    have pl : (tabT (insK ks k) (!w.params.followText "set-order")).plain = true := rfl
    rw [if_pos pl]
    refine wpAny_bind (wpAny_pure ?_)
    have pk : plainKind (.int k t) = true := rfl
    rw [if_pos pk]
    refine wpAny_bind (wpAny_storeSet_of ho rfl ?_ (by rw [hei.size]; have := (subs5_small _ tf.2.2).1; have := sizeLine_eq; omega))
    rw [tf2.2]
    simp only [Bool.and_false, Bool.false_eq_true, ↓reduceIte]
    refine wpAny_pure (wpAny_pure ?_)
    refine h true _ (Heap.SameBut.update s.heap a _) ?_
    unfold addK
    rw [if_neg hin]
    refine ⟨tf.2.2, _, ep + 1, hei, ?_⟩
    have := Heap.get?_update_self (Obj.putSet (SetTable.insertAt es (insP ks k) (k, .int k t)) (tabT (insK ks k) (!w.params.followText "set-order"))) ho rfl
    exact this

end
section
variable {w : World} {b : Heap} {f : Fm} {g : Heap} {m cm : Str → Option Value} {gl gl' gp gr led led' : Led} {h h' X : Heap} {A : Around} {E : Value → Shared → Prop} {env : Env} {gs : Array GenState} {dr : Drawn} {tk : Nat} {os : OsState} {x y : Str} {pos px py spos : Pos} {v t c r : Value}
  {Q : Value → Shared → Prop} {QF : Flow → Shared → Prop} {QU : Unit → Shared → Prop} {a d dx C l ta tra : Addr} {P P' : Obj → Prop} {name : Str} {s : Shared} {e : Expr} {rest : List Expr} {its : List Value} {value slice : Expr} {tab : List (Int × Value)} {trl : List (Str × Value)} {kvs : List (Str × Value)} {D : Doc} {H : Head} {o : Option Value} {ns : List Int} {ws : List Str}

theorem fold_snoc (ns : List Int) (i : Nat) (k : Int) (e : ns[i]? = some k) : (ns.take (i + 1)).foldl addK [] = addK ((ns.take i).foldl addK []) k := by
  rw [take_snoc e, List.foldl_append]; rfl
theorem insK_mem (ks : List Int) (k x : Int) : x ∈ insK ks k ↔ x = k ∨ x ∈ ks := by
  unfold insK
  have e : ks = ks.take (insP ks k) ++ ks.drop (insP ks k) := (List.take_append_drop _ _).symm
  have : x ∈ ks ↔ x ∈ ks.take (insP ks k) ∨ x ∈ ks.drop (insP ks k) := by rw [← List.mem_append, ← e]
  rw [this]
  simp only [List.mem_append, List.mem_cons]
  constructor
  · rintro (h | h | h)
    · exact .inr (.inl h)
    · exact .inl h
    · exact .inr (.inr h)
  · rintro (h | h | h)
    · exact .inr (.inl h)
    · exact .inl h
    · exact .inr (.inr h)
theorem insK_len (ks : List Int) (k : Int) : (insK ks k).length = ks.length + 1 := by
  unfold insK
  have e : ks = ks.take (insP ks k) ++ ks.drop (insP ks k) := (List.take_append_drop _ _).symm
  have := congrArg List.length e
  rw [List.length_append] at this
  rw [List.length_append, List.length_cons]; omega
theorem addK_len (ks : List Int) (k : Int) : (addK ks k).length ≤ ks.length + 1 := by
  unfold addK; split
  · omega
  · rw [insK_len]; exact Nat.le_refl _
theorem fold_len (ns : List Int) : ∀ ks : List Int, (ns.foldl addK ks).length ≤ ks.length + ns.length := by
  induction ns with
  | nil => intro ks; simp
  | cons n ns ih => intro ks; have h1 := ih (addK ks n); have h2 := addK_len ks n; rw [List.foldl_cons, List.length_cons]; omega

theorem loopP {I : Addr} {fp wr : List Addr} {G : Array GenState → Array GenState → Prop} {n : Nat} {PI : Nat → Value → Prop} {Sw : Nat → Shared → Prop} {R : Result → Shared → Prop}
    (W : WalksS PG w A.in1 I fp wr G n PI Sw) (hSf : a ∉ fp) (ns : List Int) (hn : ns.length = n) (h3 : n ≤ 3) (hin : ∀ x ∈ ns, x ∈ ([1, 2, 3, 4, 5] : List Int))
    (hval : ∀ i v, PI i v → ∃ k t, ns[i]? = some k ∧ v = .int k t) :
    ∀ (k i : Nat) (s : Shared), n - i = k → i ≤ n → Sw i s → PSet w s.heap a ((ns.take i).foldl addK []) →
      (∀ s', Moved (a :: wr) G s s' → PSet w s'.heap a (ns.foldl addK []) → R (.ok (.ret .none)) s') →
      codeAny (model PG w) A (.builtin "set.update.loop" ⟨[.ref a, .ref I], []⟩) R s := by
  have hSw : a ∉ wr := fun h => hSf (W.sub _ h)
  have hsub : ∀ b ∈ wr, b ∈ a :: wr := fun b hb => List.mem_cons_of_mem _ hb
  intro k
  induction k with
  | zero =>
    intro i s hk hi hst hS hR
    have hin : i = n := by omega
    subst hin
    refine codeAny_builtin PyProof.Rows.F.entry_set_update_loop ?_
    rw [Around.under_plainId PyProof.Rows.F.plain_set_update_loop _]
    show wpAny _ A.in1 (pyNext (.ref I) >>= _) _ _ s
    refine wpAny_bind (W.done s _ _ hst fun s' hm => ?_)
    show wpAny _ A.in1 (ret Value.none) _ _ s'
    rw [List.take_of_length_le (by omega)] at hS
    exact wpAny_pure (hR s' (hm.mono hsub) (hS.keeps fun o e => hm.heap a o hSw e))
  | succ k ih =>
    intro i s hk hi hst hS hR
    have hlt : i < n := by omega
    refine codeAny_builtin PyProof.Rows.F.entry_set_update_loop ?_
    rw [Around.under_plainId PyProof.Rows.F.plain_set_update_loop _]
    show wpAny _ A.in1 (pyNext (.ref I) >>= _) _ _ s
    refine wpAny_bind (W.item i s _ _ hlt hst fun v s' hP hst' hm => ?_)
    obtain ⟨x, t, hx, rfl⟩ := hval i v hP
    have hS' : PSet w s'.heap a ((ns.take i).foldl addK []) := hS.keeps fun o e => hm.heap a o hSw e
    show wpAny _ A.in1 (holding [Value.int x t] (setAdd a (.int x t)) >>= _) _ _ s'
    refine wpAny_bind (wpAny_holding ?_)
    unfold setAdd
    refine wpAny_holding ?_
    refine wpAny_bind ((intKind PG w).pyHash (k := x) (intKind_is _ _ _ _) ?_)
    have hroom : ((ns.take i).foldl addK []).length ≤ 2 := by
      have h1 := fold_len (ns.take i) []
      have h2 : (ns.take i).length ≤ i := List.length_take_le _ _
      simp only [List.length_nil] at h1
      omega
    refine addP (w := w) (s := { s' with toks := s'.toks + 1 }) hS' (hin x (List.mem_of_getElem? hx)) (.inr hroom) fun r h' hsb hS2 => ?_
    rw [← fold_snoc ns i x hx] at hS2
    refine wpAny_pure ⟨plainId_quiet PyProof.Rows.F.plain_set_update_loop _, ih (i + 1) _ (by omega) hlt (W.frame _ s' _ _ hst' (Nat.le_succ _) fun b hb o e => ?_) hS2 fun s'' hm'' hS'' => ?_⟩
    · rw [hsb.2 b (fun h : b = a => hSf (by rw [← h]; exact hb))]; exact e
    · refine hR s'' (Moved.trans W.gtrans ((hm.mono hsub).then_heap (Nat.le_succ _) fun b o hb e => ?_) hm'') hS''
      rw [hsb.2 b (fun h : b = a => hb (by rw [h]; exact List.mem_cons_self))]; exact e

theorem newP (v : Value) {Q₁ : Value → Shared → Prop}
    (h : Q₁ (.ref s.heap.objs.size) { s with heap := s.heap.push (soO w [] 0 #[]) }) :
    codeAny (model PG w) A (.call (.builtin "set.__new__") ⟨[.type "set", v], []⟩) (wants Q₁ E) s := by
  refine codeAny_of_tree ?_
  show wpAny _ A.in1 (do checkBuiltinCall "set.__new__" ⟨[.type "set", v], []⟩; again (.builtin "set.__new__" ⟨[.type "set", v], []⟩)) _ _ s
  refine wpAny_bind (wpAny_of_eq (PySem.F.newCall_set_1 v) (wpAny_pure ⟨plainId_quiet PySem.F.plain_set_new _, codeAny_builtin PySem.F.entry_set_new ?_⟩))
  rw [Around.under_plainId PySem.F.plain_set_new _]
  unfold Builtin.«set.__new__» Builtin.Frozenset.newClass
  have hsub := sub_set_self
  obtain ⟨hp, g, d, tk, os⟩ := s
  dsimp only
  wp_walk
  refine wpAny_askSetting (wpAny_pure ?_)
  dsimp only
  simp only [newObj]
  refine wpAny_bind (wpAny_alloc (wpAny_pure ?_))
  exact wpAny_pure h

end
section
variable {w : World} {b : Heap} {f : Fm} {g : Heap} {m cm : Str → Option Value} {gl gl' gp gr led led' : Led} {h h' X : Heap} {A : Around} {E : Value → Shared → Prop} {env : Env} {gs : Array GenState} {dr : Drawn} {tk : Nat} {os : OsState} {x y : Str} {pos px py spos : Pos} {v t c r : Value}
  {Q : Value → Shared → Prop} {QF : Flow → Shared → Prop} {QU : Unit → Shared → Prop} {a d dx C l ta tra : Addr} {P P' : Obj → Prop} {name : Str} {s : Shared} {e : Expr} {rest : List Expr} {its : List Value} {value slice : Expr} {tab : List (Int × Value)} {trl : List (Str × Value)} {kvs : List (Str × Value)} {D : Doc} {H : Head} {o : Option Value} {ns : List Int} {ws : List Str}

theorem nilSub : ([] : List Int) ∈ subs5 := by decide
theorem setP {items : Array Value} (hh : A.handled = none) (hl : s.heap.IsList l items) (hi : All2 IntV items.toList ns) (h3 : ns.length ≤ 3) (hin : ∀ x ∈ ns, x ∈ ([1, 2, 3, 4, 5] : List Int))
    (h : ∀ (h' : Heap) (tk : Nat), PSet w h' s.heap.objs.size (ns.foldl addK []) → (∀ b o, b < s.heap.objs.size → s.heap.get? b = some o → h'.get? b = some o) → Q (.ref s.heap.objs.size) { s with heap := h', toks := tk }) :
    wpAny (model PG w) A (call (.type "set") [.ref l]) Q E s := by
  obtain ⟨c, tl, hmro⟩ := PySem.F.called_set.mro
  have hmade := PySem.F.called_set.made
  have hsub := PySem.F.called_set.sub
  have hlen : items.size = ns.length := by rw [← Array.length_toList]; exact hi.length
  refine wpAny_call (codeAny_of_tree ?_)
  show wpAny _ _ (callAny (.type "set") _) _ _ _
  refine wpAny_pure ⟨Code.quiet_builtin _ (by decide +kernel), codeAny_builtin PySem.F.entry_type_call ?_⟩
  rw [Around.under_plain (weight_type_call_type "set" [.ref l] []) rfl]
  have h1 := PySem.F.called_set.notType
  have h2 := PySem.F.called_set.canCreate
  have hct := PySem.F.typeCall_set_1 (.ref l)
  repeat (any_goals (first | assumption | wp_step))
  refine codeAny_mono (newP (.ref l) (E := E) (Q₁ := fun obj s₁ => obj = .ref s.heap.objs.size ∧ s₁ = { s with heap := s.heap.push (soO w [] 0 #[]) }) ⟨rfl, rfl⟩) fun r s₁ hr => ?_
  cases r with
  | error e => exact hr
  | ok fl =>
    cases fl with
    | ret obj =>
      obtain ⟨rfl, rfl⟩ := hr
      have hS : (s.heap.push (soO w [] 0 #[])).get? s.heap.objs.size = some (soO w [] 0 #[]) := Heap.get?_push_size _ rfl
      have hT : Shared.TypeIs { s with heap := s.heap.push (soO w [] 0 #[]) } (.ref s.heap.objs.size) "set" := ⟨_, hS, rfl⟩
      have hli := PySem.F.called_set.init.lookup
      have hbi := PySem.F.called_set.init.bind (.ref s.heap.objs.size)
      repeat (any_goals (first | assumption | wp_step))
      refine codeAny_mono (codeAny_call_builtin (R := wants (fun r s₂ => r = .none ∧ ∃ h' tk, s₂ = { s with heap := h', toks := tk } ∧ PSet w h' s.heap.objs.size (ns.foldl addK []) ∧
          (∀ b o, b < s.heap.objs.size → s.heap.get? b = some o → h'.get? b = some o)) E) PySem.F.called_set.init.plain PySem.F.entry_set_init (check_set_init_1 hT ?_)) fun r₂ s₂ hr₂ => ?_
      · obtain ⟨ol, hol, hcl, nl, hdl⟩ := hl
        obtain ⟨ocls, odict, odata, oslots⟩ := ol
        simp only at hcl hdl
        subst hcl; subst hdl
        have hol' : (s.heap.push (soO w [] 0 #[])).get? l = some { cls := .type "list", dict := odict, data := .seq items nl, slots := oslots } := Heap.get?_push_of_some _ hol
        have hsls := PySem.F.sub_list_set
        have hslf := PySem.F.sub_list_frozenset
        have hne : (Value.type "list" == Value.type "dict") = false := by decide
        have hl1 : (s.heap.push (soO w [] 0 #[])).IsList l items := ⟨_, hol', rfl, nl, rfl⟩
        unfold Builtin.«set.__init__» noKeywords Builtin.Frozenset.updateFrom
        generalize hPI : pyIter = PI
        wp_walk
        subst hPI
        refine wpAny_pyIter_list hl1 ?_
        refine wpAny_bind (wpAny_runValue ?_)
        have hlS : l < s.heap.objs.size := Heap.lt_size hol
        have hh3 : A.in1.in1.in1.handled = none := by simp [hh]
        have hneI : l ≠ (s.heap.push (soO w [] 0 #[])).objs.size := by
          rw [Heap.size_push]; exact Nat.ne_of_lt (Nat.lt_succ_of_lt hlS)
        have hSf : s.heap.objs.size ∉ [(s.heap.push (soO w [] 0 #[])).objs.size, l] := by
          rw [Heap.size_push]; simp only [List.mem_cons, List.mem_singleton, List.not_mem_nil, or_false, not_or]
          exact ⟨Nat.ne_of_lt (Nat.lt_succ_self _), Nat.ne_of_gt hlS⟩
        have hval : ∀ (i : Nat) (v : Value), items[i]? = some v → ∃ k t, ns[i]? = some k ∧ v = .int k t := fun i v hv => by
          obtain ⟨k, e1, t, e2⟩ := hi.get (by rw [Array.getElem?_toList]; exact hv)
          exact ⟨k, t, e1, e2⟩
        refine loopP ((Walks.list hh3 _ l hneI items).toS) hSf ns hlen.symm (by omega) hin hval (items.size - 0) 0 _ (by omega) (Nat.zero_le _)
          ⟨⟨_, Heap.get?_push_size _ rfl, rfl, rfl⟩, (hl1.push _)⟩ ?hS0 ?hR
        case hS0 =>
          exact ⟨nilSub, #[], 0, .nil, Heap.get?_push_of_some _ hS⟩
        case hR =>
          intro s' hm hS'
          obtain ⟨h', g', d', tk', os'⟩ := s'
          have eg : g' = s.gens := hm.gens
          have ed : d' = s.drawn := hm.drawn
          have eo : os' = s.os := hm.os
          subst eg; subst ed; subst eo
          show wpAny _ _ _ _ _ _
          refine wpAny_pure ?_
          show wpAny _ _ (ret Value.none) _ _ _
          refine wpAny_pure ⟨rfl, h', tk', rfl, hS', fun b o hb e => ?_⟩
          have hb1 : b ≠ s.heap.objs.size := Nat.ne_of_lt hb
          have hb2 : b ≠ (s.heap.push (soO w [] 0 #[])).objs.size := by
            rw [Heap.size_push]; exact Nat.ne_of_lt (Nat.lt_succ_of_lt hb)
          exact hm.heap b o (by simp only [List.mem_cons, List.mem_singleton, List.not_mem_nil, or_false, not_or]; exact ⟨hb1, hb2⟩) (Heap.get?_push_of_some _ (Heap.get?_push_of_some _ e))
      · cases r₂ with
        | error e => exact hr₂
        | ok fl₂ =>
          cases fl₂ with
          | ret r =>
            obtain ⟨rfl, h', tk, rfl, hS', hk'⟩ := hr₂
            repeat (any_goals (first | assumption | wp_step))
            exact h _ _ hS' hk'
          | _ => exact hr₂.elim
    | _ => exact hr.elim

theorem z_setL {vs : List Value} (S : St w b f g m cm gl led h) (hh : A.handled = none) (hl : Ha h l (LO vs)) (hi : All2 IntV vs ns) (h3 : ns.length ≤ 3) (hin : ∀ x ∈ ns, x ∈ ([1, 2, 3, 4, 5] : List Int))
    (k : ∀ a h' tk', PSet w h' a (ns.foldl addK []) → h.get? a = none → St w b f g m cm gl led h' → Sub h h' → Q (.ref a) ⟨h', gs, dr, tk', os⟩) : wpAny (model PG w) A (call (.type "set") [.ref l]) Q E ⟨h, gs, dr, tk, os⟩ := by
  refine setP (items := vs.toArray) (s := ⟨h, gs, dr, tk, os⟩) hh hl.list (by simpa using hi) h3 hin fun h' tk' P hk => ?_
  have sx : Sub h h' := fun b o e => hk b o (Heap.lt_size e) e
  exact k _ h' tk' P (Heap.get?_none_of_le (Nat.le_refl _)) (S.keeps sx) sx

end
section
variable {w : World} {b : Heap} {f : Fm} {g : Heap} {m cm : Str → Option Value} {gl gl' gp gr led led' : Led} {h h' X : Heap} {A : Around} {E : Value → Shared → Prop} {env : Env} {gs : Array GenState} {dr : Drawn} {tk : Nat} {os : OsState} {x y : Str} {pos px py spos : Pos} {v t c r : Value}
  {Q : Value → Shared → Prop} {QF : Flow → Shared → Prop} {QU : Unit → Shared → Prop} {a d dx C l ta tra : Addr} {P P' : Obj → Prop} {name : Str} {s : Shared} {e : Expr} {rest : List Expr} {its : List Value} {value slice : Expr} {tab : List (Int × Value)} {trl : List (Str × Value)} {kvs : List (Str × Value)} {D : Doc} {H : Head} {o : Option Value} {ns : List Int} {ws : List Str}

theorem slot_set_iter : Slot "set" "__iter__" "set.__iter__" :=
  .of (owner := "set") (n := "__iter__") (by rw [typeLookup_type, builtinLookup_eq_fast]; kernel_rfl) (by decide +kernel) (by decide +kernel) (by decide +kernel)
    (by first | exact .inl (by decide +kernel) | exact .inr (by decide +kernel)) (by rw [isSubtype_type]; kernel_rfl)
theorem slot_setiter_next : Slot "set_iterator" "__next__" "set_iterator.__next__" :=
  .of (owner := "set_iterator") (n := "__next__") (by rw [typeLookup_type, builtinLookup_eq_fast]; kernel_rfl) (by decide +kernel) (by decide +kernel) (by decide +kernel)
    (by first | exact .inl (by decide +kernel) | exact .inr (by decide +kernel)) (by rw [isSubtype_type]; kernel_rfl)
theorem slot_setiter_iter : Slot "set_iterator" "__iter__" "set_iterator.__iter__" :=
  .of (owner := "set_iterator") (n := "__iter__") (by rw [typeLookup_type, builtinLookup_eq_fast]; kernel_rfl) (by decide +kernel) (by decide +kernel) (by decide +kernel)
    (by first | exact .inl (by decide +kernel) | exact .inr (by decide +kernel)) (by rw [isSubtype_type]; kernel_rfl)
theorem entry_set_iter : entryFor table "set.__iter__" = some Builtin.«frozenset.__iter__» :=
  entryFor_alias (id' := "frozenset.__iter__") (by kernel_rfl) rfl (by decide +kernel) (by kernel_rfl)
theorem entry_setiter_next : entryFor table "set_iterator.__next__" = some Builtin.«set_iterator.__next__» := entryFor_of_fast (by kernel_rfl)
theorem entry_setiter_iter : entryFor table "set_iterator.__iter__" = some Builtin.«dict_keyiterator.__iter__» :=
  entryFor_alias (id' := "dict_keyiterator.__iter__") (by kernel_rfl) rfl (by decide +kernel) (by kernel_rfl)
theorem args_set_iter (a : Value) : argsOk "set.__iter__" ⟨[a], []⟩ := by unfold argsOk; kernel_rfl
theorem args_setiter_next (a : Value) : argsOk "set_iterator.__next__" ⟨[a], []⟩ := by unfold argsOk; kernel_rfl
theorem args_setiter_iter (a : Value) : argsOk "set_iterator.__iter__" ⟨[a], []⟩ := by unfold argsOk; kernel_rfl

theorem erase_perm {α : Type} : ∀ (l : List α) (i : Nat) (h : i < l.length), List.Perm (l[i] :: l.eraseIdx i) l
  | x :: l, 0, _ => by simp
  | x :: l, i + 1, h => by
    have := erase_perm l i (by simpa using h)
    simp only [List.getElem_cons_succ, List.eraseIdx_cons_succ]
    exact (List.Perm.swap x _ _).trans (this.cons x)
/-- an order of the model's own is a permutation -/
theorem pick_go {α : Type} (nx : Nat → Nat) : ∀ (n k : Nat) (left : List α) (out : Array α), left.length = n → List.Perm (pickOrder.go nx n k left out).toList (out.toList ++ left) := by
  intro n
  induction n with
  | zero =>
    intro k left out e
    have : left = [] := List.length_eq_zero_iff.mp e
    subst this
    unfold pickOrder.go
    rw [List.append_nil]
  | succ n ih =>
    intro k left out e
    have hlt : nx k % left.length < left.length := Nat.mod_lt _ (by omega)
    unfold pickOrder.go
    rw [List.getElem?_eq_getElem hlt]
    dsimp only
    refine (ih (k + 1) _ _ (by rw [List.length_eraseIdx_of_lt hlt]; omega)).trans ?_
    rw [Array.toList_push, List.append_assoc]
    exact (erase_perm left _ hlt).append_left _
theorem pick_perm {α : Type} (nx : Nat → Nat) (xs : Array α) : List.Perm (pickOrder nx xs).toList xs.toList := by
  unfold pickOrder
  have := pick_go nx xs.size 0 xs.toList #[] (by simp)
  simpa using this

/-- where the next element of a set's walk is looked for -/
def bt (w : World) : Bool := w.params.followText "set-order"
def itO (w : World) (a : Addr) (ks : List Int) (i n ep : Nat) : Obj := { cls := .type "set_iterator", data := .fields #[rawInt (slotAt (bt w) ks i : Nat), rawInt (i : Nat), .ref a, rawInt (n : Nat), rawInt (ep : Nat)] }
def SIter (w : World) (h : Heap) (I a : Addr) (ks : List Int) (i n ep : Nat) : Prop := ∃ o, h.get? I = some o ∧ o.cls = .type "set_iterator" ∧ o.data = .fields #[rawInt (slotAt (bt w) ks i : Nat), rawInt (i : Nat), .ref a, rawInt (n : Nat), rawInt (ep : Nat)]
def walkV (w : World) (a : Addr) (ep : Nat) (es : Array (Int × Value)) : List Value := (if bt w = true then (pickOrder (w.params.setOrder a ep) es).toList else es.toList).map (·.2)
theorem SIter.typeIs {I a : Addr} {ks : List Int} {i n ep : Nat} (x : SIter w s.heap I a ks i n ep) : s.TypeIs (.ref I) "set_iterator" := let ⟨o, ho, hc, _⟩ := x; ⟨o, ho, hc⟩
theorem soO_type {a : Addr} {ks : List Int} {ep : Nat} {es : Array (Int × Value)} (ho : s.heap.get? a = some (soO w ks ep es)) : s.TypeIs (.ref a) "set" := ⟨_, ho, rfl⟩
theorem walkV_perm (a : Addr) (ep : Nat) (es : Array (Int × Value)) : List.Perm (walkV w a ep es) (es.toList.map (·.2)) := by
  unfold walkV
  split
  · exact (pick_perm _ es).map _
  · exact .refl _
theorem walkV_len (a : Addr) (ep : Nat) (es : Array (Int × Value)) : (walkV w a ep es).length = es.size := by
  rw [(walkV_perm (w := w) a ep es).length_eq, List.length_map, Array.length_toList]

theorem set_byText {Q : Bool → Shared → Prop} (k : Q (bt w) s) : wpAny (model PG w) A setsByText Q E s := by
  unfold setsByText
  exact wpAny_bind (wpAny_askSetting (wpAny_pure k))
theorem set_plain {a : Addr} {ks : List Int} {ep : Nat} {es : Array (Int × Value)} {Q : Bool → Shared → Prop} (hm : ks ∈ subs5) (he : SetE es ks) (ho : s.heap.get? a = some (soO w ks ep es)) (k : Q false s) : wpAny (model PG w) A (setDrawn a) Q E s := by
  have hf : (tabT ks (!w.params.followText "set-order")).fits es.size = true := by rw [he.size]; exact (tab_fits _ ks hm).1
  unfold setDrawn
  refine wpAny_bind (wpAny_setState_of ho rfl hf ?_)
  dsimp only
  refine wpAny_bind (set_byText ?_)
  refine wpAny_pure ?_
  have : ∀ x : Bool, (!x && (!true && decide (es.size > 1))) = false := by intro x; cases x <;> rfl
  exact (this (bt w)).symm ▸ k

theorem iter_set {a : Addr} {ks : List Int} {ep : Nat} {es : Array (Int × Value)} {Q : Value → Shared → Prop} (hm : ks ∈ subs5) (he : SetE es ks) (ho : s.heap.get? a = some (soO w ks ep es))
    (hQ : Q (.ref s.heap.objs.size) { s with heap := s.heap.push (itO w a ks 0 es.size ep) }) : wpAny (model PG w) A (pyIter (.ref a)) Q E s := by
  have hf : (tabT ks (!w.params.followText "set-order")).fits es.size = true := by rw [he.size]; exact (tab_fits _ ks hm).1
  refine wpAny_pyIter_slot (soO_type ho) slot_set_iter (wpAny_call_entry slot_set_iter (soO_type ho) entry_set_iter ?_ (args_set_iter _))
  unfold Builtin.«frozenset.__iter__»
  refine wpAny_bind (wpAny_pure ?_)
  unfold Builtin.Frozenset.sizeOf
  refine wpAny_bind (wpAny_bind (wpAny_setEntries_of ho rfl hf (wpAny_pure ?_)))
  refine wpAny_bind (set_plain hm he ho ?_)
  simp only [Bool.false_eq_true, ↓reduceIte]
  refine wpAny_bind (wpAny_pure ?_)
  refine wpAny_bind (wpAny_setEpoch_of ho rfl hf ?_)
  have e0 : slotAt (bt w) ks 0 = 0 := by unfold slotAt; split <;> rfl
  have eo : ({ cls := .type "set_iterator", data := .fields #[rawInt 0, rawInt 0, .ref a, rawInt es.size, rawInt ep] } : Obj) = itO w a ks 0 es.size ep := by unfold itO; rw [e0]; rfl
  refine wpAny_bind (wpAny_newObj_type (wpAny_pure ⟨_, rfl, "set_iterator", _, ⟨_, Heap.get?_push_size _ rfl, rfl⟩, slot_setiter_next.lookup, ?_⟩))
  rw [← eo] at hQ
  exact hQ

end
section
variable {w : World} {b : Heap} {f : Fm} {g : Heap} {m cm : Str → Option Value} {gl gl' gp gr led led' : Led} {h h' X : Heap} {A : Around} {E : Value → Shared → Prop} {env : Env} {gs : Array GenState} {dr : Drawn} {tk : Nat} {os : OsState} {x y : Str} {pos px py spos : Pos} {v t c r : Value}
  {Q : Value → Shared → Prop} {QF : Flow → Shared → Prop} {QU : Unit → Shared → Prop} {a d dx C l ta tra : Addr} {P P' : Obj → Prop} {name : Str} {s : Shared} {e : Expr} {rest : List Expr} {its : List Value} {value slice : Expr} {tab : List (Int × Value)} {trl : List (Str × Value)} {kvs : List (Str × Value)} {D : Doc} {H : Head} {o : Option Value} {ns : List Int} {ws : List Str}

theorem set_next {a : Addr} {ks : List Int} {ep i : Nat} {es : Array (Int × Value)} {Q : Option (Value × Nat) → Shared → Prop} (hm : ks ∈ subs5) (he : SetE es ks) (ho : s.heap.get? a = some (soO w ks ep es)) (hi : i ≤ ks.length)
    (k : Q (((walkV w a ep es)[i]?).map fun v => (v, slotAt (bt w) ks (i + 1))) s) : wpAny (model PG w) A (setNext a (slotAt (bt w) ks i) i ep) Q E s := by
  have hf : (tabT ks (!w.params.followText "set-order")).fits es.size = true := by rw [he.size]; exact (tab_fits _ ks hm).1
  unfold setNext
  refine wpAny_bind (wpAny_setState_of ho rfl hf ?_)
  dsimp only
  refine wpAny_bind (set_byText ?_)
  by_cases hb : bt w = true
  · rw [if_pos hb]
    have en : (ep != ep) = false := by simp
    rw [en]
    simp only [Bool.false_eq_true, ↓reduceIte]
    refine wpAny_bind ?_
    unfold setWalk
    refine wpAny_bind (wpAny_setState_of ho rfl hf ?_)
    dsimp only
    refine wpAny_bind (set_byText ?_)
    rw [if_pos hb]
    refine wpAny_bind (wpAny_askSetting (wpAny_pure (wpAny_pure ?_)))
    have e : Option.map (fun v => (v, slotAt (bt w) ks (i + 1))) (walkV w a ep es)[i]? = Option.map (fun (e : Int × Value) => (e.2, slotAt (bt w) ks i)) (pickOrder (w.params.setOrder a ep) es)[i]? := by
      have e1 : ∀ j, slotAt (bt w) ks j = 0 := fun j => by unfold slotAt; rw [if_pos hb]
      unfold walkV
      rw [if_pos hb, e1, e1, List.getElem?_map, Array.getElem?_toList, Option.map_map]
      rfl
    rw [e] at k
    exact k
  · have hb' : bt w = false := by cases h : bt w <;> simp_all
    rw [if_neg hb]
    have ld : (!w.params.followText "set-order") = true := by show (!bt w) = true; rw [hb']; rfl
    rw [ld]
    refine wpAny_bind (wpAny_of_eq (a := ()) (by rfl) ?_)
    have bf := below_facts ks hm i (List.mem_range.mpr (by have := (subs5_small ks hm).1; omega)) hi
    have tp : (tabT ks true).place = (ks.map Int.toNat).toArray := rfl
    rw [hb', tp, bf]
    have wv : walkV w a ep es = es.toList.map (·.2) := by unfold walkV; rw [if_neg hb]
    rw [wv, hb'] at k
    by_cases hlt : i < ks.length
    · obtain ⟨x, hx⟩ : ∃ x, ks[i]? = some x := ⟨_, List.getElem?_eq_getElem hlt⟩
      obtain ⟨p, hp, -, -⟩ := All2.get' he hx
      have hp' : es[i]? = some p := by rw [← Array.getElem?_toList]; exact hp
      have hq : (ks.map Int.toNat).toArray[i]? = some x.toNat := by simp [hx]
      rw [hp', hq]
      obtain ⟨p1, p2⟩ := p
      refine wpAny_pure ?_
      rw [List.getElem?_map, hp] at k
      have e2 : slotAt false ks (i + 1) = x.toNat + 1 := by unfold slotAt; simp [List.getD_eq_getElem?_getD, hx]
      rw [e2] at k
      exact k
    · have hq : es[i]? = none := by rw [← Array.getElem?_toList]; exact List.getElem?_eq_none (by rw [Array.length_toList, he.size]; omega)
      rw [hq]
      refine wpAny_pure ?_
      rw [List.getElem?_map, Array.getElem?_toList, hq] at k
      exact k

theorem next_set {I a : Addr} {ks : List Int} {ep i : Nat} {es : Array (Int × Value)} {x : Value} {Q : Option Value → Shared → Prop} (hm : ks ∈ subs5) (he : SetE es ks) (hit : SIter w s.heap I a ks i es.size ep) (ho : s.heap.get? a = some (soO w ks ep es)) (hx : (walkV w a ep es)[i]? = some x)
    (hQ : ∀ h', SIter w h' I a ks (i + 1) es.size ep → Heap.SameBut I s.heap h' → Q (some x) { s with heap := h' }) : wpAny (model PG w) A (pyNext (.ref I)) Q E s := by
  have hf : (tabT ks (!w.params.followText "set-order")).fits es.size = true := by rw [he.size]; exact (tab_fits _ ks hm).1
  obtain ⟨o, hI, hc, hd⟩ := id hit
  have hi : i ≤ ks.length := by
    have := (List.getElem?_eq_some_iff.mp hx).1
    rw [walkV_len, he.size] at this; omega
  unfold pyNext
  refine wpAny_bind (wpAny_attempt (wpAny_callSpecial?_slot (name := Str.ofString "__next__") hit.typeIs slot_setiter_next
    (wpAny_call_entry slot_setiter_next hit.typeIs entry_setiter_next ?_ (args_setiter_next _))))
  unfold Builtin.«set_iterator.__next__»
  refine wpAny_bind (wpAny_pure ?_)
  unfold fieldsOf
  refine wpAny_bind (wpAny_bind (wpAny_load hI ?_))
  rw [hd]
  refine wpAny_pure ?_
  simp only [rawInt]
  refine wpAny_bind (wpAny_setEntries_of ho rfl hf ?_)
  have es0 : ((es.size : Int) != (es.size : Int)) = false := by simp
  rw [es0]
  simp only [Bool.false_eq_true, ↓reduceIte, Int.toNat_natCast]
  refine wpAny_bind (set_next hm he ho hi ?_)
  rw [hx]
  dsimp only [Option.map]
  refine wpAny_bind (wpAny_setField hI hd (by simp) ?_)
  have hI2 := Heap.get?_update_self (Obj.mapFields (·.setIfInBounds 0 (rawInt (slotAt (bt w) ks (i + 1) : Nat)))) hI (Obj.isFreed_of_fields (Obj.data_mapFields hd _))
  refine wpAny_bind (wpAny_setField hI2 (Obj.data_mapFields hd _) (by simp) (wpAny_pure ⟨x, rfl, wpAny_pure (hQ _ ?_ ?_)⟩))
  · exact ⟨_, Heap.get?_update_self _ hI2 (Obj.isFreed_of_fields (Obj.data_mapFields (Obj.data_mapFields hd _) _)), (Obj.cls_mapFields ..).trans ((Obj.cls_mapFields ..).trans hc), by
      rw [Obj.data_mapFields (Obj.data_mapFields hd _)]; simp [rawInt]⟩
  · exact (Heap.SameBut.update ..).trans (Heap.SameBut.update ..)

theorem end_set {I a : Addr} {ks : List Int} {ep i : Nat} {es : Array (Int × Value)} {Q : Option Value → Shared → Prop} (hh : A.handled = none) (hm : ks ∈ subs5) (he : SetE es ks) (hit : SIter w s.heap I a ks i es.size ep) (ho : s.heap.get? a = some (soO w ks ep es)) (hi : i ≤ ks.length) (hx : (walkV w a ep es)[i]? = none)
    (hQ : ∀ h', Heap.ExtBut I s.heap h' → Q none { s with heap := h' }) : wpAny (model PG w) A (pyNext (.ref I)) Q E s := by
  have hf : (tabT ks (!w.params.followText "set-order")).fits es.size = true := by rw [he.size]; exact (tab_fits _ ks hm).1
  obtain ⟨o, hI, hc, hd⟩ := id hit
  unfold pyNext
  refine wpAny_bind (wpAny_attempt (wpAny_callSpecial?_slot (name := Str.ofString "__next__") hit.typeIs slot_setiter_next
    (wpAny_call_entry slot_setiter_next hit.typeIs entry_setiter_next ?_ (args_setiter_next _))))
  unfold Builtin.«set_iterator.__next__»
  refine wpAny_bind (wpAny_pure ?_)
  unfold fieldsOf
  refine wpAny_bind (wpAny_bind (wpAny_load hI ?_))
  rw [hd]
  refine wpAny_pure ?_
  simp only [rawInt]
  refine wpAny_bind (wpAny_setEntries_of ho rfl hf ?_)
  have es0 : ((es.size : Int) != (es.size : Int)) = false := by simp
  rw [es0]
  simp only [Bool.false_eq_true, ↓reduceIte, Int.toNat_natCast]
  refine wpAny_bind (set_next hm he ho hi ?_)
  rw [hx]
  dsimp only [Option.map]
  refine wpAny_bind (wpAny_setField hI hd (by simp) ?_)
  show wpAny _ _ (newExc (.type "StopIteration") [] >>= _) _ _ _
  refine wpAny_bind ?_
  simp only [newExc, newTuple]
  refine wpAny_bind (wpAny_newObj_type ?_ (by size_fits))
  refine wpAny_bind (m := firstArgMember _ _) (wpAny_of_eq (a := Value.none) (by first | rfl | (simp only [firstArgMember]; rfl)) ?_)
  refine wpAny_newObj_type ?_ (by size_fits)
  simp only [raiseNew]
  refine wpAny_bind (wpAny_handled ?_)
  rw [show A.in1.handled = none from hh]
  refine wpAny_bind (wpAny_pure (wpAny_throw ?_))
  refine wpAny_bind (wpAny_isInstance (T := "StopIteration") (b := true) ⟨_, Heap.get?_push_size _ rfl, rfl⟩ isSubtype_stop ?_)
  exact wpAny_pure (hQ _ (((Heap.SameBut.update ..).extBut.push _).push _))

theorem self_set {I a : Addr} {ks : List Int} {ep i n : Nat} {Q : Value → Shared → Prop} (hit : SIter w s.heap I a ks i n ep) (hQ : Q (.ref I) s) : wpAny (model PG w) A (pyIter (.ref I)) Q E s := by
  refine wpAny_pyIter_slot hit.typeIs slot_setiter_iter (wpAny_call_entry slot_setiter_iter hit.typeIs entry_setiter_iter ?_ (args_setiter_iter _))
  show wpAny _ _ (ret (.ref I)) _ _ s
  exact wpAny_pure ⟨_, rfl, "set_iterator", _, hit.typeIs, slot_setiter_next.lookup, hQ⟩

end
section
variable {w : World} {b : Heap} {f : Fm} {g : Heap} {m cm : Str → Option Value} {gl gl' gp gr led led' : Led} {h h' X : Heap} {A : Around} {E : Value → Shared → Prop} {env : Env} {gs : Array GenState} {dr : Drawn} {tk : Nat} {os : OsState} {x y : Str} {pos px py spos : Pos} {v t c r : Value}
  {Q : Value → Shared → Prop} {QF : Flow → Shared → Prop} {QU : Unit → Shared → Prop} {a d dx C l ta tra : Addr} {P P' : Obj → Prop} {name : Str} {s : Shared} {e : Expr} {rest : List Expr} {its : List Value} {value slice : Expr} {tab : List (Int × Value)} {trl : List (Str × Value)} {kvs : List (Str × Value)} {D : Doc} {H : Head} {o : Option Value} {ns : List Int} {ws : List Str}

/-- over a set -/
theorem walks_set {I a : Addr} {ks : List Int} {ep : Nat} {es : Array (Int × Value)} (hh : A.handled = none) (hne : a ≠ I) (hm : ks ∈ subs5) (he : SetE es ks) :
    Walks PG w A I [I, a] [I] ks.length (fun i v => (walkV w a ep es)[i]? = some v) (fun i h => SIter w h I a ks i es.size ep ∧ h.get? a = some (soO w ks ep es) ∧ i ≤ ks.length) where
  sub := fun b hb => by simp at hb; simp [hb]
  frame := fun _ _ _ st hk => ⟨let ⟨o, ho, r⟩ := st.1; ⟨o, hk I (by simp) o ho, r⟩, hk a (by simp) _ st.2.1, st.2.2⟩
  item := fun i s Q E hi st hQ => by
    have hl : i < (walkV w a ep es).length := by rw [walkV_len, he.size]; exact hi
    refine next_set hm he st.1 st.2.1 (List.getElem?_eq_getElem hl) fun h' hit' hs' => ?_
    exact hQ _ h' s.toks (List.getElem?_eq_getElem hl) ⟨hit', hs'.extBut a _ hne st.2.1, hi⟩ fun b o hb e => hs'.extBut b o (fun h => hb (by simp [h])) e
  done := fun s Q E st hQ => end_set hh hm he st.1 st.2.1 st.2.2 (List.getElem?_eq_none (by rw [walkV_len, he.size]; exact Nat.le_refl _)) fun h' he' => hQ h' s.toks fun b o hb e => he' b o (fun h => hb (by simp [h])) e
  self := fun _ _ _ _ st hQ => self_set st.1 hQ

theorem z_compS {elt iter : Expr} {ifs : List Expr} {scope : Scope} {cl : List (Str × Addr)} {ks : List Int} (S : St w b f g m cm gl led h) (hh : A.handled = none) (P : PSet w h a ks) (hg : ∀ p ∈ gl, p.1 ≠ a)
    (hcell : ∀ y ∈ scope.names, y.2 ≠ .cell) (hkind : scope.kind = .function) (hx : scope.names.lookup x = some .local)
    (J : List Int → Nat → List Value → Heap → Led → Prop) (j0 : ∀ its, J its 0 [] g gl) (hlen : ∀ its i ys g gl, J its i ys g gl → ys.length ≤ i) (hgl : ∀ its i ys g₁ gl₁, J its i ys g₁ gl₁ → gl₁.map (·.1) = gl.map (·.1))
    (turn : ∀ its zs, All2 IntV its zs → zs.Perm ks → CompTurn w b A gs dr os x ifs elt scope cl env (hideAll h (gl.map (·.1))) g ks.length (fun i v => its[i]? = some v) (J zs))
    (k : ∀ its zs D ys g₁ gl₁ h₁ tk₁, All2 IntV its zs → zs.Perm ks → J zs ks.length ys g₁ gl₁ → Gle f.e g g₁ → St w b f g₁ m cm gl₁ ((D, LO ys) :: led) h₁ → h.get? D = none → Sub (hideAll h (gl.map (·.1))) h₁ → Q (.ref D) ⟨h₁, gs, dr, tk₁, os⟩) :
    wpAny (model PG w) A (pyIter (.ref a)) (CompK w A E none Q elt x px iter ifs scope pos cl env) E ⟨h, gs, dr, tk, os⟩ := by
  obtain ⟨hm, es, ep, he, ho⟩ := P
  have big : (10000 : Nat) ≤ sizeLine := by rw [sizeLine_eq]; decide
  have hne : a ≠ h.objs.size := Nat.ne_of_lt (Heap.lt_size ho)
  have sz : ks.length ≤ sizeLine := by have := (subs5_small ks hm).1; omega
  obtain ⟨zs, hz, hp⟩ : ∃ zs, All2 IntV (walkV w a ep es) zs ∧ zs.Perm ks := by
    have e1 : ∀ {as : List (Int × Value)} {bs : List Int}, All2 (fun (e : Int × Value) k => e.1 = k ∧ ∃ t, e.2 = .int k t) as bs → as.map (·.1) = bs := by
      intro as bs y
      induction y with
      | nil => rfl
      | cons r _ ih => rw [List.map_cons, ih, r.1]
    have e2 : ∀ as : List (Int × Value), (∀ e ∈ as, e ∈ es.toList) → All2 IntV (as.map (·.2)) (as.map (·.1)) := by
      intro as
      induction as with
      | nil => intro _; exact .nil
      | cons e as ih =>
        intro hin
        refine .cons ?_ (ih fun x hx => hin x (.tail _ hx))
        obtain ⟨i, hi⟩ := List.getElem?_of_mem (hin e (.head _))
        obtain ⟨k, -, r1, t, r2⟩ := All2.get he hi
        exact ⟨t, by show e.2 = Value.int e.1 t; rw [r1]; exact r2⟩
    by_cases hb : bt w = true
    · have pp := pick_perm (w.params.setOrder a ep) es
      refine ⟨(pickOrder (w.params.setOrder a ep) es).toList.map (·.1), ?_, ?_⟩
      · unfold walkV; rw [if_pos hb]
        exact e2 _ fun e he' => pp.mem_iff.mp he'
      · rw [← e1 he]; exact pp.map _
    · refine ⟨es.toList.map (·.1), ?_, ?_⟩
      · unfold walkV; rw [if_neg hb]; exact e2 _ fun _ e => e
      · rw [e1 he]
  refine iter_set hm he ho ?_
  exact compE S (fun _ _ e => Heap.get?_push_of_some _ e) (Nat.le_refl _) ⟨_, Heap.get?_push_size _ rfl⟩ rfl (walks_set hh hne hm he) sz ⟨⟨_, Heap.get?_push_size _ rfl, rfl, rfl⟩, Heap.get?_push_of_some _ ho, Nat.zero_le _⟩
    (fun i h st a ha => by
      obtain ⟨o, e, _⟩ := st.1
      rw [List.mem_singleton.mp ha]; exact ⟨o, e⟩)
    (fun c hc => by
      rcases List.mem_cons.mp hc with rfl | hc
      · exact .inl rfl
      · rw [List.mem_singleton.mp hc]; exact .inr ⟨⟨_, ho⟩, hg⟩) hcell hkind hx (J zs) (j0 _) (hlen _) (hgl _) (turn _ zs hz hp) fun D ys g₁ gl₁ h₁ tk₁ => k _ zs D ys g₁ gl₁ h₁ tk₁ hz hp

theorem filt_len (p : Int → Bool) : ∀ (as bs : List Int), as.Nodup → bs.Nodup → (∀ x, x ∈ as ↔ x ∈ bs) → (as.filter p).length = (bs.filter p).length := by
  intro as
  induction as with
  | nil =>
    intro bs _ _ h
    have : bs = [] := List.eq_nil_iff_forall_not_mem.mpr fun x hx => nomatch (h x).mpr hx
    rw [this]
  | cons a as ih =>
    intro bs na nb h
    have ha : a ∈ bs := (h a).mp (.head _)
    obtain ⟨l, r, rfl⟩ := List.append_of_mem ha
    have na' := List.nodup_cons.mp na
    have nb' : (a :: (l ++ r)).Nodup := (List.perm_middle.nodup_iff).mp nb
    have nb2 := List.nodup_cons.mp nb'
    have e := ih (l ++ r) na'.2 nb2.2 fun x => by
      constructor
      · intro hx
        have := (h x).mp (.tail _ hx)
        rcases List.mem_append.mp this with q | q
        · exact List.mem_append_left _ q
        · rcases List.mem_cons.mp q with rfl | q
          · exact absurd hx na'.1
          · exact List.mem_append_right _ q
      · intro hx
        have hxa : x ≠ a := fun q => nb2.1 (q ▸ hx)
        have : x ∈ a :: as := (h x).mpr (by
          rcases List.mem_append.mp hx with q | q
          · exact List.mem_append_left _ q
          · exact List.mem_append_right _ (.tail _ q))
        exact (List.mem_cons.mp this).resolve_left hxa
    have pm := ((List.perm_middle (l₁ := l) (a := a) (l₂ := r)).filter p).length_eq
    rw [pm]
    cases hp : p a
    · rw [List.filter_cons_of_neg (by rw [hp]; decide), List.filter_cons_of_neg (by rw [hp]; decide)]; exact e
    · rw [List.filter_cons_of_pos hp, List.filter_cons_of_pos hp, List.length_cons, List.length_cons, e]
theorem subs5_nodup : ∀ ks ∈ subs5, ks.Nodup := by decide
theorem fold_mem (x : Int) (ns : List Int) : ∀ ks, x ∈ ns.foldl addK ks ↔ x ∈ ks ∨ x ∈ ns := by
  induction ns with
  | nil => intro ks; simp
  | cons n ns ih =>
    intro ks
    rw [List.foldl_cons, ih]
    unfold addK
    split
    · rename_i q
      constructor
      · rintro (h | h)
        · exact .inl h
        · exact .inr (.tail _ h)
      · rintro (h | h)
        · exact .inl h
        · rcases List.mem_cons.mp h with rfl | h
          · exact .inl q
          · exact .inr h
    · rw [insK_mem]
      simp only [List.mem_cons]
      constructor
      · rintro ((h | h) | h)
        · exact .inr (.inl h)
        · exact .inl h
        · exact .inr (.inr h)
      · rintro (h | h | h)
        · exact .inl (.inr h)
        · exact .inl (.inl h)
        · exact .inr h

end
section
variable {w : World} {b : Heap} {f : Fm} {g : Heap} {m cm : Str → Option Value} {gl gl' gp gr led led' : Led} {h h' X : Heap} {A : Around} {E : Value → Shared → Prop} {env : Env} {gs : Array GenState} {dr : Drawn} {tk : Nat} {os : OsState} {x y : Str} {pos px py spos : Pos} {v t c r : Value}
  {Q : Value → Shared → Prop} {QF : Flow → Shared → Prop} {QU : Unit → Shared → Prop} {a d dx C l ta tra : Addr} {P P' : Obj → Prop} {name : Str} {s : Shared} {e : Expr} {rest : List Expr} {its : List Value} {value slice : Expr} {tab : List (Int × Value)} {trl : List (Str × Value)} {kvs : List (Str × Value)} {D : Doc} {H : Head} {o : Option Value} {ns : List Int} {ws : List Str}

theorem St.keH (S : St w b f g m cm gl led h) : Sub f.e (hideAll h (gl.map (·.1))) := fun a o e => hideAll_get _ (S.ke _ _ e) fun q => by
  obtain ⟨p, hp, rfl⟩ := List.mem_map.mp q
  rw [(S.at_ p (List.mem_append_left _ hp)).2.2.2.1] at e; cases e
theorem five {x : Int} (h : 1 ≤ x ∧ x ≤ 5) : x ∈ ([1, 2, 3, 4, 5] : List Int) := by
  have : x = 1 ∨ x = 2 ∨ x = 3 ∨ x = 4 ∨ x = 5 := by omega
  rcases this with rfl | rfl | rfl | rfl | rfl <;> decide
theorem law_E {L fn : Addr} {cd : Value} {e : Heap} {rest : List Stmt} {a ta fa pa lh p0 p1 idd : Addr} {M : Nat} {tab ikvs : List (Int × Value)} {T0 T1 : Told} {bef : Option BS} {hv0 tv0 hv1 tv1 ov bv cv sv : Value} {F0 : Int → Bool} {n0 : Int}
    (S : St w b ⟨L, lawCl L, e⟩ g m cm [(pa, PLB n0), (483, GrownP)] [(ta, ID w ta tab), (idd, ID w idd ikvs)] h) (RM : Room 12 A) (hM : M ≤ 5) (B : LawB w b g a ta fa pa lh p0 p1 M tab ikvs D T0 T1 bef hv0 tv0 hv1 tv1 ov bv) (CV : ConfV w g cv T0.head.conf) (SV : StV w g sv (tabB F0 (once D.listed)))
    (hm1 : m "shelf" = some (.ref a)) (hm3 : m "order" = some ov) (hm4 : m "heads" = some (.ref lh)) (hm5 : m "config" = some cv) (hc2 : cm "states" = some sv)
    (hr : ∀ g' m' cm' h' tk', Gle e g g' → St w b ⟨L, lawCl L, e⟩ g' m' cm' [(pa, PLB n0), (483, GrownP)] [(ta, ID w ta tab), (idd, ID w idd ikvs)] h' → m' "shelf" = some (.ref a) → m' "order" = some ov → cm' "states" = some sv → wpAny (model PG w) A (execs rest (envOfC "law" (lwS w) L fn cd)) QF E ⟨h', gs, dr, tk', os⟩) :
    wpAny (model PG w) A (execs (((lwB w).drop 16).take 2 ++ rest) (envOfC "law" (lwS w) L fn cd)) QF E ⟨h, gs, dr, tk, os⟩ := by
  have big : (10000 : Nat) ≤ sizeLine := by rw [sizeLine_eq]; decide
  revert hr
  refine' law_parts (P := fun BD sc => (∀ g' m' cm' h' tk', Gle e g g' → St w b ⟨L, lawCl L, e⟩ g' m' cm' [(pa, PLB n0), (483, GrownP)] [(ta, ID w ta tab), (idd, ID w idd ikvs)] h' → m' "shelf" = some (.ref a) → m' "order" = some ov → cm' "states" = some sv → wpAny (model PG w) A (execs rest (envOfC "law" sc L fn cd)) QF E ⟨h', gs, dr, tk', os⟩) → wpAny (model PG w) A (execs ((BD.drop 16).take 2 ++ rest) (envOfC "law" sc L fn cd)) QF E ⟨h, gs, dr, tk, os⟩) ?k1 ?_
  case k1 => k_is
  intro hr
  dsimp only [List.take, List.drop, List.cons_append, List.nil_append]
  have k0 := B.k0
  repeat' (first | walk_at "Z" | walk_at "Zif")
  refine z_item (B.LH.keeps S.kg) (by decide) (by decide) rfl ?_
  repeat' (first | walk_at "Z" | walk_at "Zif")
  obtain ⟨td, t0, w1, w2, w3, w4, w5, rfl, TH, q1, q2, q3, q4, q5⟩ := id B.D0
  refine z_itemT (B.P0.keeps S.kg) (by decide) (by decide) rfl (by show 2 < 2 ^ 62; decide) ?_
  repeat' (first | walk_at "Z" | walk_at "Zif")
  refine zz_itemA (kk := ("rows" : Str)) (TH.keeps S.kg).sd (sis _ _) rfl ?_ (by with_unfolding_all rfl)
  obtain ⟨_, rvs, ez, LR, RA⟩ := id q3
  cases ez
  repeat' (first | walk_at "Z" | walk_at "Zif")
  rename_i h2 S2
  refine crowd_spec S2 (RM.less (by decide)) S2.kg SV CV (by show (T0.rows.map once).length ≤ 100; rw [List.length_map]; exact Nat.le_trans k0.lrows (by decide)) (fun r hrr => ?_) fun r g3 h3 tk3 G3 S3 CR => ?_
  · obtain ⟨r0, hr0, rfl⟩ := List.mem_map.mp hrr
    exact Nat.le_trans (once_len _) (Nat.le_trans (k0.lrow _ hr0) (by decide))
  have B3 := B.mono G3.1
  clear S
  repeat' (first | walk_at "Z" | walk_at "Zif")
  refine z_comp (cl := [("states", L + 1 + 1 + 1), ("rows", L + 1 + 1 + 1 + 1 + 1)]) rfl rfl (by decide) ?_ (fun _ => rfl)
  repeat' (first | walk_at "Z" | walk_at "Zif")
  have rl := RA.length
  have l2 : rvs.length ≤ 2 := by rw [rl]; exact k0.lrows
  refine z_len (LR.keeps fun a o e => S3.kg _ _ (G3.1 _ _ e)) (by omega) fun t4 tk4 => ?_
  repeat' (first | walk_at "Z" | walk_at "Zif")
  refine z_range S3 fun rr h5 tk5 t1 u1 w1 hrr S5 sub5 => ?_
  have rs := range_small (a := 0) (c := (rvs.length : Int)) (by omega) (by omega) (by omega)
  refine z_compR (n := rvs.length) S5 RM.hh hrr rs.1 (by rw [rs.2]; omega) (by omega) (by decide) rfl rfl
    (fun i ys g' gl' => g3 = g' ∧ gl' = [(pa, PLB n0), (483, GrownP)] ∧ ys.length ≤ i ∧ All2 IntV ys (crowd (tabB F0 (once D.listed)) (T0.rows.map once) i)) ⟨rfl, rfl, Nat.le_refl _, .nil⟩ (fun i ys g gl q => q.2.2.1) (fun i ys g gl ⟨_, q, _⟩ => by rw [q]) (CompTurnQ.turn ?_) ?_
  · intro C i vv e'' zs g₂ m₂ gl₂ h₂ tk₂ Qy9 Qn9 J9 hi hv9 hs2 hG2 f9 m9 S6 hy9 hz9 j9
    obtain ⟨t, rfl⟩ := hv9
    obtain ⟨rfl, rfl, hzl, hz⟩ := j9
    obtain ⟨rv, hrv⟩ : ∃ rv, rvs[i]? = some rv := ⟨_, List.getElem?_eq_getElem hi⟩
    obtain ⟨row, hrow, RW⟩ := RA.get hrv
    obtain ⟨lx, xvs, rfl, LX, XA⟩ := id RW
    have hcR : e''.IsCell (L + 1 + 1 + 1 + 1 + 1) (some (.ref w3)) := (S5.cellE (x := "rows") (lookup_mem rfl) rfl).keeps hs2
    have hcS : e''.IsCell (L + 1 + 1 + 1) (some sv) := (S5.cellE (x := "states") (lookup_mem rfl) hc2).keeps hs2
    have xl : xvs.length ≤ 3 := by rw [XA.length]; exact k0.lrow _ (List.mem_of_getElem? hrow)
    have s36 : Sub g h₂ := fun a o e => S6.kg _ _ (hG2.1 _ _ (G3.1 _ _ e))
    have LX6 := LX.keeps s36
    obtain ⟨sd, rfl, SD0⟩ := id SV
    have cs := crowd_succ (tabB F0 (once D.listed)) (T0.rows.map once) i
    refine tests_one ?_
    repeat' (first | walk_at "Z" | walk_at "Zif")
    refine z_comp (cl := [("states", L + 1 + 1 + 1)]) rfl rfl (by decide) ?_ (fun _ => rfl)
    repeat' (first | walk_at "Z" | walk_at "Zif")
    refine z_item (LR.keeps s36) (by omega) (by omega) (by rw [Int.zero_add, Int.toNat_natCast]; exact hrv) ?_
    repeat' (first | walk_at "Z" | walk_at "Zif")
    refine z_setL S6 RM.hh LX6 XA (by rw [← XA.length]; exact xl) (fun x hx => five (by
      have := k0.rows _ (List.mem_of_getElem? hrow) x hx
      omega)) fun sa h7 tk7 P7 nsa S7 sub7 => ?_
    have nd := subs5_nodup _ P7.1
    generalize hks : row.foldl addK [] = ks at *
    have km : ∀ x, x ∈ ks ↔ x ∈ row := fun x => by rw [← hks, fold_mem]; simp
    have k3 := (subs5_small _ P7.1).1
    refine z_compS S7 RM.hh P7 (fun p hp e7 => ?_) (by decide) rfl rfl
      (fun zs2 j ys g' gl' => g3 = g' ∧ gl' = [(pa, PLB n0), (483, GrownP)] ∧ ys.length ≤ j ∧ ys.length = ((zs2.take j).filter (litB (tabB F0 (once D.listed)))).length) (fun _ => ⟨rfl, rfl, Nat.le_refl _, rfl⟩) (fun _ i ys g gl q => q.2.2.1) (fun _ i ys g gl ⟨_, q, _⟩ => by rw [q]) ?_ ?_
    · obtain ⟨o, e8, _⟩ := (S6.at_ p (List.mem_append_left _ hp)).1
      rw [e7, nsa] at e8; cases e8
    · rintro its2 zs2 IT2 PM2 C2 j v2 e3 ys2 g8 m8 gl8 h8 tk8 hj hv2 ⟨rfl, rfl, hyl, hy2⟩ hs8 hG8 S8
      obtain ⟨n, hn, t', rfl⟩ := IT2.get hv2
      have hcS2 : e3.IsCell (L + 1 + 1 + 1) (some (.ref sd)) := (hcS.keeps S7.keH).keeps hs8
      have s48 : Sub g h8 := fun a o e => S8.kg _ _ (hG8.1 _ _ (hG2.1 _ _ (G3.1 _ _ e)))
      refine tests_one ?_
      repeat' (first | walk_at "Z" | walk_at "Zif")
      refine zz_getM (SD0.keeps s48).id ?_
      repeat' (first | walk_at "Z" | walk_at "Zif")
      refine zz_get2 (kk := n) (SD0.keeps s48).id SD0.idn (iis _ _) ?_
      rw [valueAt_enc, (by unfold litB; cases getB (tabB F0 (once D.listed)) n <;> rfl : ((getB (tabB F0 (once D.listed)) n).map Value.bool).getD (.bool false) = .bool (litB (tabB F0 (once D.listed)) n))]
      cases hlit : litB (tabB F0 (once D.listed)) n with
      | true =>
        repeat' (first | walk_at "Z" | walk_at "Zif")
        exact ⟨_, _, _, _, _, _, rfl, S8, Gle.refl _ _, rfl, rfl, by simp; omega, by rw [take_snoc hn, List.filter_append, filter_yes hlit, List.length_append, List.length_append, hy2]; rfl⟩
      | false =>
        repeat' (first | walk_at "Z" | walk_at "Zif")
        exact ⟨_, _, _, _, _, _, rfl, S8, Gle.refl _ _, rfl, rfl, by omega, by rw [take_snoc hn, List.filter_append, filter_no hlit, List.append_nil, hy2]⟩
    · rintro its2 zs2 W2 ys2 g8 gl8 h8 tk8 IT2 PM2 ⟨rfl, rfl, hyl, hy2⟩ G8 S8 nW2 _
      rw [← PM2.length_eq, List.take_length] at hy2
      repeat' (first | walk_at "Z" | walk_at "Zif")
      refine z_len (S8.ha (.head _)) (by omega) fun t9 tk9 => ?_
      repeat' (first | walk_at "Z" | walk_at "Zif")
      have fl := filt_len (litB (tabB F0 (once D.listed))) zs2 (once row) (PM2.nodup_iff.mpr nd) (once_nodup row) fun x => by rw [PM2.mem_iff, km, once_mem']
      have ci : decide ((ys2.length : Int) > 1) = crowdI (tabB F0 (once D.listed)) (T0.rows.map once) i := by
        unfold crowdI
        rw [List.getD_eq_getElem?_getD, List.getElem?_map, hrow, hy2, fl]
        simp
        omega
      rw [ci]
      cases hcr : crowdI (tabB F0 (once D.listed)) (T0.rows.map once) i with
      | true =>
        rw [if_pos hcr] at cs
        repeat' (first | walk_at "Z" | walk_at "Zif")
        exact hy9.go (S8.sub (List.sublist_append_right [_] _)) (Gle.refl _ _) ⟨rfl, rfl, by simp; omega, by rw [cs]; exact hz.snoc ⟨t, by rw [Int.zero_add]⟩⟩
      | false =>
        rw [if_neg (by rw [hcr]; decide), List.append_nil] at cs
        repeat' (first | walk_at "Z" | walk_at "Zif")
        exact hz9.go (S8.sub (List.sublist_append_right [_] _)) (Gle.refl _ _) ⟨rfl, rfl, by omega, by rw [cs]; exact hz⟩
  · rintro W2 ys g6 gl6 h6 tk6 ⟨rfl, rfl, hyl, hy⟩ G6 S6 nW2 _
    have rl2 : rvs.length = (T0.rows.map once).length := by rw [List.length_map]; exact rl
    rw [rl2] at hy
    refine z_neI RM (ns := crowd (tabB F0 (once D.listed)) (T0.rows.map once) (T0.rows.map once).length) (ns' := crowd (tabB F0 (once D.listed)) (T0.rows.map once) (T0.rows.map once).length) (LV.mono monoI CR S6.kg) ⟨_, _, rfl, S6.ha (.head _), hy⟩ ?_
    rw [decide_eq_true rfl]
    repeat' (first | walk_at "Z" | walk_at "Zif")
    show wpAny _ _ (execs rest _) _ _ _
    exact hr _ _ _ _ _ G3 (S6.sub (List.sublist_append_right [_] _)) hm1 hm3 hc2

end
section
variable {w : World} {b : Heap} {f : Fm} {g : Heap} {m cm : Str → Option Value} {gl gl' gp gr led led' : Led} {h h' X : Heap} {A : Around} {E : Value → Shared → Prop} {env : Env} {gs : Array GenState} {dr : Drawn} {tk : Nat} {os : OsState} {x y : Str} {pos px py spos : Pos} {v t c r : Value}
  {Q : Value → Shared → Prop} {QF : Flow → Shared → Prop} {QU : Unit → Shared → Prop} {a d dx C l ta tra : Addr} {P P' : Obj → Prop} {name : Str} {s : Shared} {e : Expr} {rest : List Expr} {its : List Value} {value slice : Expr} {tab : List (Int × Value)} {trl : List (Str × Value)} {kvs : List (Str × Value)} {D : Doc} {H : Head} {o : Option Value} {ns : List Int} {ws : List Str}

theorem exec_split {l : List Stmt} (n c k : Nat) (e : n + c = k) {P : List Stmt → Prop} (h : P ((l.drop n).take c ++ l.drop k)) : P (l.drop n) := by
  rw [← e, ← List.drop_drop, List.take_append_drop] at h; exact h
theorem exec_split0 {l : List Stmt} (c : Nat) {P : List Stmt → Prop} (h : P (l.take c ++ l.drop c)) : P l := by
  rw [List.take_append_drop] at h; exact h
theorem law_all {L fn : Addr} {cd : Value} {e : Heap} {vs : List Value} (S : St w b ⟨L, lawCl L, e⟩ g m cm [(483, TabP)] [] h) (RM : Room 12 A) (CH : CodeHd b 487 483) (BM : ∃ mg, b.Ns mainGlobals mg ∧ b.BuiltinsAt mg 483) (HS : b.IsList l vs.toArray) (IV : All2 IntV vs ns) (hlen : vs.length ≤ 100) (hm0 : m "script" = some (.ref l))
    (hfr : A.frames = some [envOfC "law" (lwS w) L fn cd]) (hr : ∀ g' m' cm' gl' led' h' tk', St w b ⟨L, lawCl L, e⟩ g' m' cm' gl' led' h' → (483, GrownP) ∈ gl' → QF (.ret (.bool true)) ⟨h', gs, dr, tk', os⟩) :
    wpAny (model PG w) A (execs (lwB w) (envOfC "law" (lwS w) L fn cd)) QF E ⟨h, gs, dr, tk, os⟩ := by
  refine exec_split0 (l := lwB w) 5 (P := fun B => wpAny (model PG w) A (execs B (envOfC "law" (lwS w) L fn cd)) QF E ⟨h, gs, dr, tk, os⟩) ?_
  refine law_A S RM CH BM HS IV hlen hm0 fun fa pa a dx ta tra idd M tM W tab ikvs g1 m1 cm1 h1 tk1 G1 S1 T1 SB hM GA hm1 hm2 hc1 hc2 => ?_
  refine exec_split (l := lwB w) 5 6 11 rfl (P := fun B => wpAny (model PG w) A (execs B (envOfC "law" (lwS w) L fn cd)) QF E _) ?_
  refine law_B S1 RM T1 SB hM GA hm1 hm2 hc1 hc2 fun tab' D T0 T1 bef lh p0 p1 hv0 tv0 hv1 tv1 ov bv g2 m2 cm2 h2 tk2 G2 S2 B hm1 hm2 hm3 hm4 hm5 hc1 => ?_
  refine exec_split (l := lwB w) 11 4 15 rfl (P := fun B => wpAny (model PG w) A (execs B (envOfC "law" (lwS w) L fn cd)) QF E _) ?_
  refine law_C S2 RM B hm1 hm2 hm3 hm4 hm5 hc1 hfr fun cv sv g3 m3 cm3 h3 tk3 G3 S3 CV SV hm1 hm3 hm4 hm5 hc2 hc1 => ?_
  have B3 := B.mono G3.1
  have nd := once_nodup D.listed
  have SV' : StV w g3 sv (tabB (firstB T0 bef) (once D.listed)) := by
    rw [starting_law B.k0 bef nd, lawStart_tab T0 bef nd] at SV; exact SV
  refine exec_split (l := lwB w) 15 1 16 rfl (P := fun B => wpAny (model PG w) A (execs B (envOfC "law" (lwS w) L fn cd)) QF E _) ?_
  refine law_D S3 RM B3 CV SV' hm1 hm3 hm4 hm5 hc1 hc2 hfr fun sv4 F4 g4 m4 cm4 h4 tk4 G4 S4 SV4 hm1 hm3 hm4 hm5 hc2 => ?_
  have B4 := B3.mono G4.1
  refine exec_split (l := lwB w) 16 2 18 rfl (P := fun B => wpAny (model PG w) A (execs B (envOfC "law" (lwS w) L fn cd)) QF E _) ?_
  refine law_E S4 RM hM B4 (CV.mono G4.1) SV4 hm1 hm3 hm4 hm5 hc2 fun g5 m5 cm5 h5 tk5 G5 S5 hm1 hm3 hc2 => ?_
  exact law_F S5 RM (B4.mono G5.1) (SV4.mono G5.1) hm1 hm3 hc2 hr
theorem law_St {p : Program} {loose : List Str} {mean : ExcName → Option Value} {mg mb : Str → Option Value} {L : Addr} {o1 o2 o3 o4 o5 : Obj} (X9 : (hd.heap_39 w.params).In b) (T9 : Top p loose mean mg mb b) (F9 : Fr b L h m)
    (N9 : News b L h [(L + 1 + 1 + 1 + 1 + 1, o5), (L + 1 + 1 + 1 + 1, o4), (L + 1 + 1 + 1, o3), (L + 1 + 1, o2), (L + 1, o1), (483, tabObj #[])]) (c1 : o1.data = .cell none) (c2 : o2.data = .cell none) (c3 : o3.data = .cell none) (c4 : o4.data = .cell none) (c5 : o5.data = .cell none) :
    St w b ⟨L, lawCl L, b⟩ b m (fun _ => none) [(483, TabP)] [] h ∧ ∃ mg, b.Ns mainGlobals mg ∧ b.BuiltinsAt mg 483 := by
  have n1 := N9 _ (.head _)
  have n2 := N9 _ (.tail _ (.head _))
  have n3 := N9 _ (.tail _ (.tail _ (.head _)))
  have n4 := N9 _ (.tail _ (.tail _ (.tail _ (.head _))))
  have n5 := N9 _ (.tail _ (.tail _ (.tail _ (.tail _ (.head _)))))
  have n6 := N9 _ (.tail _ (.tail _ (.tail _ (.tail _ (.tail _ (.head _))))))
  have bn : b.get? L = none := Heap.get?_none_of_le F9.above
  have hne : ∀ {a : Addr} {o : Obj} {v : Option Value}, h.get? a = some o → o.data = .cell v → (483 : Addr) ≠ a := fun e d z => by
    rw [← z, n6.1] at e; cases e; cases d
  refine ⟨{ bs := ⟨X9, ⟨mg, mb, T9.g, T9.b, T9.builtins⟩, T9.nolimit⟩, ns := F9.ns, kb := F9.keep, bL := F9.above, ke := F9.keep, kg := F9.keep, nL := ⟨bn, bn⟩, cell := fun p hp => ?_, cfr := fun p hp => ?_, cap := ?_, at_ := fun p hp => ?_, nd := ?_ }, mg, T9.g, ?_⟩
  · simp only [lawCl, List.mem_cons, List.not_mem_nil, or_false] at hp
    rcases hp with rfl | rfl | rfl | rfl | rfl
    · exact ⟨_, n1.1, c5⟩
    · exact ⟨_, n2.1, c4⟩
    · exact ⟨_, n3.1, c3⟩
    · exact ⟨_, n4.1, c2⟩
    · exact ⟨_, n5.1, c1⟩
  · have led : ∀ {a : Addr}, (483 : Addr) ≠ a → ∀ q ∈ ([(483, TabP)] : Led) ++ [], q.1 ≠ a := fun hn q hq => by
      rw [List.append_nil] at hq
      rw [List.mem_singleton.mp hq]; exact hn
    simp only [lawCl, List.mem_cons, List.not_mem_nil, or_false] at hp
    rcases hp with rfl | rfl | rfl | rfl | rfl
    · exact ⟨n1.2.1, n1.2.2, n1.2.2, n1.2.2, led (hne n1.1 c5)⟩
    · exact ⟨n2.2.1, n2.2.2, n2.2.2, n2.2.2, led (hne n2.1 c4)⟩
    · exact ⟨n3.2.1, n3.2.2, n3.2.2, n3.2.2, led (hne n3.1 c3)⟩
    · exact ⟨n4.2.1, n4.2.2, n4.2.2, n4.2.2, led (hne n4.1 c2)⟩
    · exact ⟨n5.2.1, n5.2.2, n5.2.2, n5.2.2, led (hne n5.1 c1)⟩
  · simp [lawCl, List.pairwise_cons, Nat.succ_ne_self]
    omega
  · rw [List.append_nil] at hp
    rw [List.mem_singleton.mp hp]
    exact ⟨⟨_, n6.1, rfl⟩, n6.2.1, n6.2.2, n6.2.2, n6.2.2⟩
  · simp
  · obtain ⟨bm, ob, b1, b2, b3, b4, b5, b6⟩ := T9.bmain
    refine ⟨bm, ob, b1, b2, fun z => ?_, fun z => ?_, b3, b4, b5, b6⟩
    · obtain ⟨o, es, ep, ho, hd', _⟩ := T9.g
      rw [z, ho] at b3; cases b3; rw [hd'] at b6; cases b6
    · rw [z, n6.2.2] at b3; cases b3
theorem all2_of {vs : List Value} {ns : List Int} (h : PyProof.Rows.IntsAre vs ns) : All2 IntV vs ns := of_ints h
theorem room_law (env : Env) : Room 12 (callerA.deeper env) := ⟨rfl, by show callerA.depth + 1 + 12 ≤ 900; decide, by show callerA.units + 3 + 10 * 12 ≤ 9000; decide⟩
theorem short_of {vs : List Value} {ns : List Int} (h : PyProof.Rows.IntsAre vs ns) (h2 : ¬ ((63 : Nat) : Int) < (ns.length : Int)) : vs.length ≤ 100 := by
  have : vs.length = ns.length := (of_ints h).length
  omega
theorem law_post (a : WData) : WTm.value PySem.Challenge.rw_pb0482_01.row.records PySem.Challenge.rw_pb0482_01.row.post { args := [a], res := some (WData.bool true), after := [a] } = some (WData.bool true) := by
  show WTm.value [] (.eq .res (.lit (.bool true))) _ = _
  simp only [WTm.value]
  first | rfl | (simp [same]; done) | decide

end
end
end Mine

theorem PySem.Challenge.cw_pb0482_01_holds : PySem.Challenge.rw_pb0482_01.Holds := by
  refine Mine.hd (D := ?D) ?e ?walk
  case e => conv => rhs; whnf
  k_go0
  rename World => w9
  rename (Mine.hd.heap_39 _).In (ghostOf _ _) => X9
  rename Top topProg _ _ _ _ _ => T9
  rename Fr _ _ _ _ => F9
  rename News _ _ _ _ => N9
  rename CodeHd _ _ _ => CH9
  rename IntsAre _ _ => IA9
  have HL9 := lifted
  rename ¬ _ => HC9
  rename _ = #[] => G9
  have SS := Mine.law_St X9 T9 F9 N9 (by assumption) (by assumption) (by assumption) (by assumption) (by assumption)
  clear F9 N9
  refine' Mine.law_parts' (w := w9) (P := fun BD sc => wpAny _ (callerA.deeper (envOfC "law" sc _ _ _)) (execs BD (envOfC "law" sc _ _ _)) _ _ _) ?k1 ?_
  case k1 => k_is
  refine Mine.law_all SS.1 ?_ CH9 SS.2 HL9 (Mine.of_ints IA9) ?_ rfl rfl fun g' m' cm' gl' led' h' tk' S' hm => ?_
  · exact Mine.room_law _
  · exact Mine.short_of IA9 HC9
  · obtain ⟨⟨o, ho, ps, rfl⟩, _⟩ := S'.at_ _ (List.mem_append_left _ hm)
    exact ⟨⟨.inl ⟨.bool true, .bool true, [], rfl, fun _ => rfl, .bool true, postW_of (X := true) (by rfl) (Mine.law_post _) rfl, fun _ => ⟨.nil, fun a ha => nomatch ha⟩⟩, fun b o e => S'.kb b o e, rfl, G9⟩, ⟨ps, ho⟩, trivial⟩
