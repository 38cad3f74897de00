import PyProof.Rows.All
import Wide.All
import OpenK.AllK
import Wide.FinOn
import KE.IntTextText
import PySem.Challenge.RW_or0057_01
set_option Elab.async false
set_option maxRecDepth 1000000
set_option maxHeartbeats 0
set_option linter.unusedVariables false
namespace Mine
section
open PySem PySem.W PyProof.Rows
set_option linter.unusedVariables false
noncomputable abbrev hd.pg : Program := PySem.Challenge.rw_or0057_01.row.toRowW.prog
noncomputable def hd.st (i : Nat) : Stmt := (PySem.Challenge.pw_or0057_01.main.body[i]?).getD (.Pass ⟨0, 0, 0, 0⟩)
noncomputable def hd.me (i j : Nat) : Stmt := match hd.st i with
  | .ClassDef _ _ _ b _ _ _ _ _ _ _ => (b[j]?).getD (.Pass ⟨0, 0, 0, 0⟩)
  | s => s
noncomputable def hd.fA : Stmt → Arguments
  | .FunctionDef _ a _ _ _ _ _ _ _ _ => a
  | _ => ⟨[], [], none, [], [], none, []⟩
noncomputable def hd.fB : Stmt → List Stmt
  | .FunctionDef _ _ b _ _ _ _ _ _ _ => b
  | _ => []
noncomputable def hd.fS : Stmt → Scope
  | .FunctionDef _ _ _ _ _ _ s _ _ _ => s
  | _ => PySem.Challenge.pw_or0057_01.main.scope
noncomputable def hd.vs (s : String) (t : Tok) : Value := .str (.ofString s) t
noncomputable def hd.en (P : Params) (s : String) (t : Tok) (v : Value) : DictEntry := ⟨PyData.keyHash P (.ofString s), .str (.ofString s) t, v⟩
noncomputable def hd.o_43 (P : Params) : Obj := (Obj.mk (.type "tuple") none (Data.seq #[] 0) #[])
noncomputable def hd.o_44 (P : Params) : Obj := (Obj.mk .none none (Data.fields #[]) #[])
noncomputable def hd.o_45 (P : Params) : Obj := (Obj.mk (.type "code") none (Data.fields #[(hd.vs "<module>" 182), (hd.vs "<module>" 183), (hd.vs "/claim/cut.py" 184), (.int 1 0), (.int 0 0), (.int 0 0), (.int 0 0), (.int 0 0), (.ref 11), (.bool false), (.int 181 0), (.ref 12), .none, .none, .none, .none, (.int 185 0), (.int 1 0), (hd.vs "/claim/cut.py" 186)]) #[])
noncomputable def hd.o_46 (P : Params) : Obj := (Obj.mk (.type "frame") none Data.plain #[(some (.ref 13)), (some (.ref 3)), (some (.ref 3)), none, (some (hd.vs "__main__" 164)), none, (some (.ref 0))])
noncomputable def hd.o_49 (P : Params) : Obj := (Obj.mk .none none (Data.dict #[(hd.en P "type.__subclasses__.Exception.0" 225 (.int 39 0)), (hd.en P "type.__subclasses__.Exception.n" 226 (.int 1 0))] 2) #[])
noncomputable def hd.o_50 (P : Params) : Obj := (Obj.mk (.type "dict") none (Data.dict #[(hd.en P "__name__" 165 (hd.vs "postkeep.errors" 187)), (hd.en P "__doc__" 166 .none), (hd.en P "__package__" 167 .none), (hd.en P "__loader__" 168 (Value.builtin "__main__.__loader__#opaque")), (hd.en P "__spec__" 169 .none), (hd.en P "__annotations__" 170 (.ref 6)), (hd.en P "__builtins__" 171 (.ref 4)), (hd.en P "__file__" 173 (hd.vs "/claim/cut.py" 172)), (hd.en P "__cached__" 174 .none), (hd.en P "PostError" 228 (.ref 39))] 10) #[])
noncomputable def hd.o_51 (P : Params) : Obj := (Obj.mk .none none (Data.fields #[(.int 2 0), (.int 0 0), (.ref 20)]) #[])
noncomputable def hd.o_52 (P : Params) : Obj := (Obj.mk (.type "tuple") none (Data.seq #[(.type "Exception")] 0) #[])
noncomputable def hd.o_53 (P : Params) : Obj := (Obj.mk (.type "builtin_function_or_method") none (Data.fields #[(Value.builtin "type.__prepare__"), (.type "type")]) #[])
noncomputable def hd.o_54 (P : Params) : Obj := (Obj.mk (.type "dict") none (Data.dict #[(hd.en P "__module__" 196 (hd.vs "postkeep.errors" 187)), (hd.en P "__qualname__" 198 (hd.vs "PostError" 197)), (hd.en P "__firstlineno__" 200 (.int 2 199)), (hd.en P "__init__" 211 (.ref 29)), (hd.en P "told" 218 (.ref 36)), (hd.en P "__static_attributes__" 221 (.ref 37))] 6) #[])
noncomputable def hd.o_55 (P : Params) : Obj := (Obj.mk (.type "tuple") none (Data.seq #[] 0) #[])
noncomputable def hd.o_56 (P : Params) : Obj := (Obj.mk .none none (Data.fields #[(.int 4 0), (.int 4 0), (.ref 28), (.int 9 0), (.int 4 0), (.ref 35)]) #[])
noncomputable def hd.o_57 (P : Params) : Obj := (Obj.mk (.type "code") none (Data.fields #[(hd.vs "PostError" 191), (hd.vs "PostError" 192), (hd.vs "/claim/cut.py" 193), (.int 2 0), (.int 0 0), (.int 0 0), (.int 0 0), (.int 0 0), (.ref 18), (.bool false), (.int 181 0), (.ref 19), .none, .none, .none, .none, (.int 194 0), (.int 2 0), (hd.vs "/claim/cut.py" 195)]) #[])
noncomputable def hd.o_58 (P : Params) : Obj := (Obj.mk (.type "frame") none Data.plain #[(some (.ref 20)), (some (.ref 3)), (some (.ref 17)), none, (some (hd.vs "postkeep.errors" 187)), none, (some (.ref 0))])
noncomputable def hd.o_59 (P : Params) : Obj := (Obj.mk (.type "tuple") none (Data.seq #[(.int (-1) 202)] 0) #[])
noncomputable def hd.o_60 (P : Params) : Obj := (Obj.mk (.type "tuple") none (Data.seq #[] 0) #[])
noncomputable def hd.o_61 (P : Params) : Obj := (Obj.mk .none none (Data.fields #[]) #[])
noncomputable def hd.o_62 (P : Params) : Obj := (Obj.mk (.type "tuple") none (Data.seq #[(hd.vs "self" 206), (hd.vs "what" 207), (hd.vs "at" 208)] 0) #[])
noncomputable def hd.o_63 (P : Params) : Obj := (Obj.mk (.type "tuple") none (Data.seq #[] 0) #[])
noncomputable def hd.o_64 (P : Params) : Obj := (Obj.mk .none none (Data.func (FuncData.mk (Str.ofString "__init__") (Str.ofString "PostError.__init__") (hd.fA (hd.me 1 0)) (FuncBody.stmts (hd.fB (hd.me 1 0))) (hd.fS (hd.me 1 0)) 0 [] .none .none .none .none none .none .none 0)) #[])
noncomputable def hd.o_65 (P : Params) : Obj := (Obj.mk (.type "code") none (Data.fields #[(hd.vs "__init__" 203), (hd.vs "PostError.__init__" 204), (hd.vs "/claim/cut.py" 205), (.int 4 0), (.int 3 0), (.int 0 0), (.int 0 0), (.int 3 0), (.ref 23), (.bool true), (.int 181 0), (.ref 24), .none, (.ref 25), (.ref 26), (.ref 27), (.int 209 0), (.int 4 0), (hd.vs "/claim/cut.py" 210)]) #[])
noncomputable def hd.o_66 (P : Params) : Obj := (Obj.mk (.type "function") none (Data.func (FuncData.mk (Str.ofString "__init__") (Str.ofString "PostError.__init__") (hd.fA (hd.me 1 0)) (FuncBody.stmts (hd.fB (hd.me 1 0))) (hd.fS (hd.me 1 0)) 3 [] (.ref 22) .none .none (hd.vs "postkeep.errors" 187) none (.ref 28) .none 0)) #[])
noncomputable def hd.o_67 (P : Params) : Obj := (Obj.mk (.type "tuple") none (Data.seq #[] 0) #[])
noncomputable def hd.o_68 (P : Params) : Obj := (Obj.mk .none none (Data.fields #[]) #[])
noncomputable def hd.o_69 (P : Params) : Obj := (Obj.mk (.type "tuple") none (Data.seq #[(hd.vs "self" 215)] 0) #[])
noncomputable def hd.o_70 (P : Params) : Obj := (Obj.mk (.type "tuple") none (Data.seq #[] 0) #[])
noncomputable def hd.o_71 (P : Params) : Obj := (Obj.mk .none none (Data.func (FuncData.mk (Str.ofString "told") (Str.ofString "PostError.told") (hd.fA (hd.me 1 1)) (FuncBody.stmts (hd.fB (hd.me 1 1))) (hd.fS (hd.me 1 1)) 0 [] .none .none .none .none none .none .none 0)) #[])
noncomputable def hd.o_72 (P : Params) : Obj := (Obj.mk (.type "code") none (Data.fields #[(hd.vs "told" 212), (hd.vs "PostError.told" 213), (hd.vs "/claim/cut.py" 214), (.int 9 0), (.int 1 0), (.int 0 0), (.int 0 0), (.int 3 0), (.ref 30), (.bool true), (.int 181 0), (.ref 31), .none, (.ref 32), (.ref 33), (.ref 34), (.int 216 0), (.int 9 0), (hd.vs "/claim/cut.py" 217)]) #[])
noncomputable def hd.o_73 (P : Params) : Obj := (Obj.mk (.type "function") none (Data.func (FuncData.mk (Str.ofString "told") (Str.ofString "PostError.told") (hd.fA (hd.me 1 1)) (FuncBody.stmts (hd.fB (hd.me 1 1))) (hd.fS (hd.me 1 1)) 3 [] .none .none .none (hd.vs "postkeep.errors" 187) none (.ref 35) .none 0)) #[])
noncomputable def hd.o_74 (P : Params) : Obj := (Obj.mk (.type "tuple") none (Data.seq #[(hd.vs "at" 219), (hd.vs "what" 220)] 0) #[])
noncomputable def hd.o_75 (P : Params) : Obj := (Obj.mk (.type "dict") none (Data.dict #[(hd.en P "__module__" 196 (hd.vs "postkeep.errors" 187)), (hd.en P "__firstlineno__" 200 (.int 2 199)), (hd.en P "__init__" 211 (.ref 29)), (hd.en P "told" 218 (.ref 36)), (hd.en P "__static_attributes__" 221 (.ref 37)), (hd.en P "__weakref__" 223 (.ref 40)), (hd.en P "__doc__" 224 .none)] 3) #[])
noncomputable def hd.o_76 (P : Params) : Obj := (Obj.mk (.type "type") none (Data.cls (ClassData.mk (Str.ofString "PostError") [(.type "Exception")] [(.ref 39), (.type "Exception"), (.type "BaseException"), (.type "object")] 38 (Str.ofString "PostError") true [] [] false none false)) #[(some (.ref 15)), none, (some (hd.vs "PostError" 189)), (some (hd.vs "PostError" 197)), (some (Value.builtin "Exception.__new__")), (some (.bool true))])
noncomputable def hd.o_77 (P : Params) : Obj := (Obj.mk (.type "getset_descriptor") none (Data.fields #[(hd.vs "__weakref__" 222), (.ref 39), (Value.builtin "ExceptionGroup.__weakref__"), .none]) #[])
noncomputable def hd.o_78 (P : Params) : Obj := (Obj.mk (.type "super") none (Data.fields #[(.ref 39), (.ref 39), (.ref 39)]) #[])
noncomputable def hd.o_79 (P : Params) : Obj := (Obj.mk (.type "builtin_function_or_method") none (Data.fields #[(Value.builtin "object.__init_subclass__"), (.ref 39)]) #[])
noncomputable def hd.o_80 (P : Params) : Obj := (Obj.mk (.type "dict") none (Data.dict #[(hd.en P "__name__" 165 (hd.vs "postkeep.tokens" 260)), (hd.en P "__doc__" 166 .none), (hd.en P "__package__" 167 .none), (hd.en P "__loader__" 168 (Value.builtin "__main__.__loader__#opaque")), (hd.en P "__spec__" 169 .none), (hd.en P "__annotations__" 170 (.ref 6)), (hd.en P "__builtins__" 171 (.ref 4)), (hd.en P "__file__" 173 (hd.vs "/claim/cut.py" 172)), (hd.en P "__cached__" 174 .none), (hd.en P "PostError" 228 (.ref 39)), (hd.en P "WordFault" 244 (.ref 52)), (hd.en P "lower_code" 253 (.ref 61)), (hd.en P "lower_text" 259 (.ref 66)), (hd.en P "MOST_DEPTH" 263 (.int 20 262)), (hd.en P "SIGNS" 265 (Value.bytes #[60, 62, 64, 44, 59, 58, 46, 92] 264)), (hd.en P "ATOM_SIGNS" 267 (Value.bytes #[33, 35, 36, 37, 38, 39, 42, 43, 45, 47, 61, 63, 94, 95, 96, 123, 124, 125, 126] 266)), (hd.en P "NEVER_ESCAPED" 271 (.ref 67)), (hd.en P "is_atom_code" 278 (.ref 74)), (hd.en P "line_end" 286 (.ref 81))] 19) #[])
noncomputable def hd.o_81 (P : Params) : Obj := (Obj.mk .none none (Data.fields #[(.int 2 0), (.int 0 0), (.ref 20), (.int 11 0), (.int 0 0), (.ref 48), (.int 14 0), (.int 0 0), (.ref 60), (.int 16 0), (.int 0 0), (.ref 65), (.int 23 0), (.int 0 0), (.ref 73), (.int 25 0), (.int 0 0), (.ref 80)]) #[])
noncomputable def hd.o_82 (P : Params) : Obj := (Obj.mk (.type "type") none (Data.cls (ClassData.mk (Str.ofString "PostError") [(.type "Exception")] [(.ref 39), (.type "Exception"), (.type "BaseException"), (.type "object")] 38 (Str.ofString "PostError") true [] [(.ref 52)] false none false)) #[(some (.ref 15)), none, (some (hd.vs "PostError" 189)), (some (hd.vs "PostError" 197)), (some (Value.builtin "Exception.__new__")), (some (.bool true))])
noncomputable def hd.o_83 (P : Params) : Obj := (Obj.mk (.type "tuple") none (Data.seq #[(.ref 39)] 0) #[])
noncomputable def hd.o_84 (P : Params) : Obj := (Obj.mk (.type "builtin_function_or_method") none (Data.fields #[(Value.builtin "type.__prepare__"), (.type "type")]) #[])
noncomputable def hd.o_85 (P : Params) : Obj := (Obj.mk (.type "dict") none (Data.dict #[(hd.en P "__module__" 236 (hd.vs "postkeep.errors" 187)), (hd.en P "__qualname__" 238 (hd.vs "WordFault" 237)), (hd.en P "__firstlineno__" 240 (.int 11 239)), (hd.en P "__static_attributes__" 241 (.ref 50))] 4) #[])
noncomputable def hd.o_86 (P : Params) : Obj := (Obj.mk (.type "tuple") none (Data.seq #[] 0) #[])
noncomputable def hd.o_87 (P : Params) : Obj := (Obj.mk .none none (Data.fields #[]) #[])
noncomputable def hd.o_88 (P : Params) : Obj := (Obj.mk (.type "code") none (Data.fields #[(hd.vs "WordFault" 231), (hd.vs "WordFault" 232), (hd.vs "/claim/cut.py" 233), (.int 11 0), (.int 0 0), (.int 0 0), (.int 0 0), (.int 0 0), (.ref 46), (.bool false), (.int 181 0), (.ref 47), .none, .none, .none, .none, (.int 234 0), (.int 11 0), (hd.vs "/claim/cut.py" 235)]) #[])
noncomputable def hd.o_89 (P : Params) : Obj := (Obj.mk (.type "frame") none Data.plain #[(some (.ref 48)), (some (.ref 3)), (some (.ref 45)), none, (some (hd.vs "postkeep.errors" 187)), none, (some (.ref 0))])
noncomputable def hd.o_90 (P : Params) : Obj := (Obj.mk (.type "tuple") none (Data.seq #[] 0) #[])
noncomputable def hd.o_91 (P : Params) : Obj := (Obj.mk (.type "dict") none (Data.dict #[(hd.en P "__module__" 236 (hd.vs "postkeep.errors" 187)), (hd.en P "__firstlineno__" 240 (.int 11 239)), (hd.en P "__static_attributes__" 241 (.ref 50)), (hd.en P "__doc__" 242 .none)] 2) #[])
noncomputable def hd.o_92 (P : Params) : Obj := (Obj.mk (.type "type") none (Data.cls (ClassData.mk (Str.ofString "WordFault") [(.ref 39)] [(.ref 52), (.ref 39), (.type "Exception"), (.type "BaseException"), (.type "object")] 51 (Str.ofString "WordFault") true [] [] false none false)) #[(some (.ref 43)), none, (some (hd.vs "WordFault" 229)), (some (hd.vs "WordFault" 237)), (some (Value.builtin "Exception.__new__")), (some (.bool true))])
noncomputable def hd.o_93 (P : Params) : Obj := (Obj.mk (.type "super") none (Data.fields #[(.ref 52), (.ref 52), (.ref 52)]) #[])
noncomputable def hd.o_94 (P : Params) : Obj := (Obj.mk (.type "builtin_function_or_method") none (Data.fields #[(Value.builtin "object.__init_subclass__"), (.ref 52)]) #[])
noncomputable def hd.o_95 (P : Params) : Obj := (Obj.mk (.type "tuple") none (Data.seq #[] 0) #[])
noncomputable def hd.o_96 (P : Params) : Obj := (Obj.mk .none none (Data.fields #[]) #[])
noncomputable def hd.o_97 (P : Params) : Obj := (Obj.mk (.type "tuple") none (Data.seq #[(hd.vs "code" 250)] 0) #[])
noncomputable def hd.o_98 (P : Params) : Obj := (Obj.mk (.type "tuple") none (Data.seq #[] 0) #[])
noncomputable def hd.o_99 (P : Params) : Obj := (Obj.mk .none none (Data.func (FuncData.mk (Str.ofString "lower_code") (Str.ofString "lower_code") (hd.fA (hd.st 4)) (FuncBody.stmts (hd.fB (hd.st 4))) (hd.fS (hd.st 4)) 0 [] .none .none .none .none none .none .none 0)) #[])
noncomputable def hd.o_100 (P : Params) : Obj := (Obj.mk (.type "code") none (Data.fields #[(hd.vs "lower_code" 247), (hd.vs "lower_code" 248), (hd.vs "/claim/cut.py" 249), (.int 14 0), (.int 1 0), (.int 0 0), (.int 0 0), (.int 3 0), (.ref 55), (.bool true), (.int 181 0), (.ref 56), .none, (.ref 57), (.ref 58), (.ref 59), (.int 251 0), (.int 14 0), (hd.vs "/claim/cut.py" 252)]) #[])
noncomputable def hd.o_101 (P : Params) : Obj := (Obj.mk (.type "function") none (Data.func (FuncData.mk (Str.ofString "lower_code") (Str.ofString "lower_code") (hd.fA (hd.st 4)) (FuncBody.stmts (hd.fB (hd.st 4))) (hd.fS (hd.st 4)) 3 [] .none .none .none (hd.vs "postkeep.octets" 245) none (.ref 60) .none 0)) #[])
noncomputable def hd.o_102 (P : Params) : Obj := (Obj.mk (.type "tuple") none (Data.seq #[] 0) #[])
noncomputable def hd.o_103 (P : Params) : Obj := (Obj.mk .none none (Data.fields #[]) #[])
noncomputable def hd.o_104 (P : Params) : Obj := (Obj.mk .none none (Data.func (FuncData.mk (Str.ofString "lower_text") (Str.ofString "lower_text") (hd.fA (hd.st 5)) (FuncBody.stmts (hd.fB (hd.st 5))) (hd.fS (hd.st 5)) 0 [] .none .none .none .none none .none .none 0)) #[])
noncomputable def hd.o_105 (P : Params) : Obj := (Obj.mk (.type "code") none (Data.fields #[(hd.vs "lower_text" 254), (hd.vs "lower_text" 255), (hd.vs "/claim/cut.py" 256), (.int 16 0), (.int 1 0), (.int 0 0), (.int 0 0), (.int 3 0), (.ref 62), (.bool true), (.int 181 0), (.ref 63), .none, .none, .none, (.ref 64), (.int 257 0), (.int 16 0), (hd.vs "/claim/cut.py" 258)]) #[])
noncomputable def hd.o_106 (P : Params) : Obj := (Obj.mk (.type "function") none (Data.func (FuncData.mk (Str.ofString "lower_text") (Str.ofString "lower_text") (hd.fA (hd.st 5)) (FuncBody.stmts (hd.fB (hd.st 5))) (hd.fS (hd.st 5)) 3 [] .none .none .none (hd.vs "postkeep.octets" 245) none (.ref 65) .none 0)) #[])
noncomputable def hd.o_107 (P : Params) : Obj := (Obj.mk (.type "tuple") none (Data.seq #[(.int 0 268), (.int 10 269), (.int 13 270)] 0) #[])
noncomputable def hd.o_108 (P : Params) : Obj := (Obj.mk (.type "tuple") none (Data.seq #[] 0) #[])
noncomputable def hd.o_109 (P : Params) : Obj := (Obj.mk .none none (Data.fields #[]) #[])
noncomputable def hd.o_110 (P : Params) : Obj := (Obj.mk (.type "tuple") none (Data.seq #[(hd.vs "code" 275)] 0) #[])
noncomputable def hd.o_111 (P : Params) : Obj := (Obj.mk (.type "tuple") none (Data.seq #[] 0) #[])
noncomputable def hd.o_112 (P : Params) : Obj := (Obj.mk .none none (Data.func (FuncData.mk (Str.ofString "is_atom_code") (Str.ofString "is_atom_code") (hd.fA (hd.st 11)) (FuncBody.stmts (hd.fB (hd.st 11))) (hd.fS (hd.st 11)) 0 [] .none .none .none .none none .none .none 0)) #[])
noncomputable def hd.o_113 (P : Params) : Obj := (Obj.mk (.type "code") none (Data.fields #[(hd.vs "is_atom_code" 272), (hd.vs "is_atom_code" 273), (hd.vs "/claim/cut.py" 274), (.int 23 0), (.int 1 0), (.int 0 0), (.int 0 0), (.int 3 0), (.ref 68), (.bool true), (.int 181 0), (.ref 69), .none, (.ref 70), (.ref 71), (.ref 72), (.int 276 0), (.int 23 0), (hd.vs "/claim/cut.py" 277)]) #[])
noncomputable def hd.o_114 (P : Params) : Obj := (Obj.mk (.type "function") none (Data.func (FuncData.mk (Str.ofString "is_atom_code") (Str.ofString "is_atom_code") (hd.fA (hd.st 11)) (FuncBody.stmts (hd.fB (hd.st 11))) (hd.fS (hd.st 11)) 3 [] .none .none .none (hd.vs "postkeep.tokens" 260) none (.ref 73) .none 0)) #[])
noncomputable def hd.o_115 (P : Params) : Obj := (Obj.mk (.type "tuple") none (Data.seq #[] 0) #[])
noncomputable def hd.o_116 (P : Params) : Obj := (Obj.mk .none none (Data.fields #[]) #[])
noncomputable def hd.o_117 (P : Params) : Obj := (Obj.mk (.type "tuple") none (Data.seq #[(hd.vs "data" 282), (hd.vs "at" 283)] 0) #[])
noncomputable def hd.o_118 (P : Params) : Obj := (Obj.mk (.type "tuple") none (Data.seq #[] 0) #[])
noncomputable def hd.o_119 (P : Params) : Obj := (Obj.mk .none none (Data.func (FuncData.mk (Str.ofString "line_end") (Str.ofString "line_end") (hd.fA (hd.st 12)) (FuncBody.stmts (hd.fB (hd.st 12))) (hd.fS (hd.st 12)) 0 [] .none .none .none .none none .none .none 0)) #[])
noncomputable def hd.o_120 (P : Params) : Obj := (Obj.mk (.type "code") none (Data.fields #[(hd.vs "line_end" 279), (hd.vs "line_end" 280), (hd.vs "/claim/cut.py" 281), (.int 25 0), (.int 2 0), (.int 0 0), (.int 0 0), (.int 3 0), (.ref 75), (.bool true), (.int 181 0), (.ref 76), .none, (.ref 77), (.ref 78), (.ref 79), (.int 284 0), (.int 25 0), (hd.vs "/claim/cut.py" 285)]) #[])
noncomputable def hd.o_121 (P : Params) : Obj := (Obj.mk (.type "function") none (Data.func (FuncData.mk (Str.ofString "line_end") (Str.ofString "line_end") (hd.fA (hd.st 12)) (FuncBody.stmts (hd.fB (hd.st 12))) (hd.fS (hd.st 12)) 3 [] .none .none .none (hd.vs "postkeep.tokens" 260) none (.ref 80) .none 0)) #[])
noncomputable def hd.o_122 (P : Params) : Obj := (Obj.mk (.type "dict") none (Data.dict #[(hd.en P "__name__" 165 (hd.vs "postkeep.dates" 368)), (hd.en P "__doc__" 166 .none), (hd.en P "__package__" 167 .none), (hd.en P "__loader__" 168 (Value.builtin "__main__.__loader__#opaque")), (hd.en P "__spec__" 169 .none), (hd.en P "__annotations__" 170 (.ref 6)), (hd.en P "__builtins__" 171 (.ref 4)), (hd.en P "__file__" 173 (hd.vs "/claim/cut.py" 172)), (hd.en P "__cached__" 174 .none), (hd.en P "PostError" 228 (.ref 39)), (hd.en P "WordFault" 244 (.ref 52)), (hd.en P "lower_code" 253 (.ref 61)), (hd.en P "lower_text" 259 (.ref 66)), (hd.en P "MOST_DEPTH" 263 (.int 20 262)), (hd.en P "SIGNS" 265 (Value.bytes #[60, 62, 64, 44, 59, 58, 46, 92] 264)), (hd.en P "ATOM_SIGNS" 267 (Value.bytes #[33, 35, 36, 37, 38, 39, 42, 43, 45, 47, 61, 63, 94, 95, 96, 123, 124, 125, 126] 266)), (hd.en P "NEVER_ESCAPED" 271 (.ref 67)), (hd.en P "is_atom_code" 278 (.ref 74)), (hd.en P "line_end" 286 (.ref 81)), (hd.en P "inside_at" 296 (.ref 88)), (hd.en P "closed_at" 309 (.ref 95)), (hd.en P "comment_at" 322 (.ref 102)), (hd.en P "atom_at" 331 (.ref 109)), (hd.en P "token_at" 342 (.ref 116)), (hd.en P "past_white" 351 (.ref 123)), (hd.en P "tokens_of" 361 (.ref 130)), (hd.en P "without_comments" 367 (.ref 135)), (hd.en P "MONTHS" 382 (.ref 136)), (hd.en P "DAYS" 390 (.ref 137)), (hd.en P "MOST_YEAR" 392 (.int 9999 391)), (hd.en P "MOST_ZONE" 398 (.int 5999 397)), (hd.en P "FIRST_DAY" 400 (.int 719162 399))] 32) #[])
noncomputable def hd.o_123 (P : Params) : Obj := (Obj.mk .none none (Data.fields #[(.int 2 0), (.int 0 0), (.ref 20), (.int 11 0), (.int 0 0), (.ref 48), (.int 14 0), (.int 0 0), (.ref 60), (.int 16 0), (.int 0 0), (.ref 65), (.int 23 0), (.int 0 0), (.ref 73), (.int 25 0), (.int 0 0), (.ref 80), (.int 29 0), (.int 0 0), (.ref 87), (.int 42 0), (.int 0 0), (.ref 94), (.int 51 0), (.int 0 0), (.ref 101), (.int 66 0), (.int 0 0), (.ref 108), (.int 71 0), (.int 0 0), (.ref 115), (.int 88 0), (.int 0 0), (.ref 122), (.int 95 0), (.int 0 0), (.ref 129), (.int 103 0), (.int 0 0), (.ref 134)]) #[])
noncomputable def hd.o_124 (P : Params) : Obj := (Obj.mk (.type "tuple") none (Data.seq #[] 0) #[])
noncomputable def hd.o_125 (P : Params) : Obj := (Obj.mk .none none (Data.fields #[]) #[])
noncomputable def hd.o_126 (P : Params) : Obj := (Obj.mk (.type "tuple") none (Data.seq #[(hd.vs "data" 290), (hd.vs "at" 291), (hd.vs "begun" 292), (hd.vs "behind" 293)] 0) #[])
noncomputable def hd.o_127 (P : Params) : Obj := (Obj.mk (.type "tuple") none (Data.seq #[] 0) #[])
noncomputable def hd.o_128 (P : Params) : Obj := (Obj.mk .none none (Data.func (FuncData.mk (Str.ofString "inside_at") (Str.ofString "inside_at") (hd.fA (hd.st 13)) (FuncBody.stmts (hd.fB (hd.st 13))) (hd.fS (hd.st 13)) 0 [] .none .none .none .none none .none .none 0)) #[])
noncomputable def hd.o_129 (P : Params) : Obj := (Obj.mk (.type "code") none (Data.fields #[(hd.vs "inside_at" 287), (hd.vs "inside_at" 288), (hd.vs "/claim/cut.py" 289), (.int 29 0), (.int 3 0), (.int 0 0), (.int 0 0), (.int 3 0), (.ref 82), (.bool true), (.int 181 0), (.ref 83), .none, (.ref 84), (.ref 85), (.ref 86), (.int 294 0), (.int 29 0), (hd.vs "/claim/cut.py" 295)]) #[])
noncomputable def hd.o_130 (P : Params) : Obj := (Obj.mk (.type "function") none (Data.func (FuncData.mk (Str.ofString "inside_at") (Str.ofString "inside_at") (hd.fA (hd.st 13)) (FuncBody.stmts (hd.fB (hd.st 13))) (hd.fS (hd.st 13)) 3 [] .none .none .none (hd.vs "postkeep.tokens" 260) none (.ref 87) .none 0)) #[])
noncomputable def hd.o_131 (P : Params) : Obj := (Obj.mk (.type "tuple") none (Data.seq #[] 0) #[])
noncomputable def hd.o_132 (P : Params) : Obj := (Obj.mk .none none (Data.fields #[]) #[])
noncomputable def hd.o_133 (P : Params) : Obj := (Obj.mk (.type "tuple") none (Data.seq #[(hd.vs "data" 300), (hd.vs "begun" 301), (hd.vs "closing" 302), (hd.vs "barred" 303), (hd.vs "parts" 304), (hd.vs "at" 305), (hd.vs "octets" 306)] 0) #[])
noncomputable def hd.o_134 (P : Params) : Obj := (Obj.mk (.type "tuple") none (Data.seq #[] 0) #[])
noncomputable def hd.o_135 (P : Params) : Obj := (Obj.mk .none none (Data.func (FuncData.mk (Str.ofString "closed_at") (Str.ofString "closed_at") (hd.fA (hd.st 14)) (FuncBody.stmts (hd.fB (hd.st 14))) (hd.fS (hd.st 14)) 0 [] .none .none .none .none none .none .none 0)) #[])
noncomputable def hd.o_136 (P : Params) : Obj := (Obj.mk (.type "code") none (Data.fields #[(hd.vs "closed_at" 297), (hd.vs "closed_at" 298), (hd.vs "/claim/cut.py" 299), (.int 42 0), (.int 4 0), (.int 0 0), (.int 0 0), (.int 3 0), (.ref 89), (.bool true), (.int 181 0), (.ref 90), .none, (.ref 91), (.ref 92), (.ref 93), (.int 307 0), (.int 42 0), (hd.vs "/claim/cut.py" 308)]) #[])
noncomputable def hd.o_137 (P : Params) : Obj := (Obj.mk (.type "function") none (Data.func (FuncData.mk (Str.ofString "closed_at") (Str.ofString "closed_at") (hd.fA (hd.st 14)) (FuncBody.stmts (hd.fB (hd.st 14))) (hd.fS (hd.st 14)) 3 [] .none .none .none (hd.vs "postkeep.tokens" 260) none (.ref 94) .none 0)) #[])
noncomputable def hd.o_138 (P : Params) : Obj := (Obj.mk (.type "tuple") none (Data.seq #[] 0) #[])
noncomputable def hd.o_139 (P : Params) : Obj := (Obj.mk .none none (Data.fields #[]) #[])
noncomputable def hd.o_140 (P : Params) : Obj := (Obj.mk (.type "tuple") none (Data.seq #[(hd.vs "data" 313), (hd.vs "begun" 314), (hd.vs "parts" 315), (hd.vs "depth" 316), (hd.vs "at" 317), (hd.vs "sign" 318), (hd.vs "octets" 319)] 0) #[])
noncomputable def hd.o_141 (P : Params) : Obj := (Obj.mk (.type "tuple") none (Data.seq #[] 0) #[])
noncomputable def hd.o_142 (P : Params) : Obj := (Obj.mk .none none (Data.func (FuncData.mk (Str.ofString "comment_at") (Str.ofString "comment_at") (hd.fA (hd.st 15)) (FuncBody.stmts (hd.fB (hd.st 15))) (hd.fS (hd.st 15)) 0 [] .none .none .none .none none .none .none 0)) #[])
noncomputable def hd.o_143 (P : Params) : Obj := (Obj.mk (.type "code") none (Data.fields #[(hd.vs "comment_at" 310), (hd.vs "comment_at" 311), (hd.vs "/claim/cut.py" 312), (.int 51 0), (.int 2 0), (.int 0 0), (.int 0 0), (.int 3 0), (.ref 96), (.bool true), (.int 181 0), (.ref 97), .none, (.ref 98), (.ref 99), (.ref 100), (.int 320 0), (.int 51 0), (hd.vs "/claim/cut.py" 321)]) #[])
noncomputable def hd.o_144 (P : Params) : Obj := (Obj.mk (.type "function") none (Data.func (FuncData.mk (Str.ofString "comment_at") (Str.ofString "comment_at") (hd.fA (hd.st 15)) (FuncBody.stmts (hd.fB (hd.st 15))) (hd.fS (hd.st 15)) 3 [] .none .none .none (hd.vs "postkeep.tokens" 260) none (.ref 101) .none 0)) #[])
noncomputable def hd.o_145 (P : Params) : Obj := (Obj.mk (.type "tuple") none (Data.seq #[] 0) #[])
noncomputable def hd.o_146 (P : Params) : Obj := (Obj.mk .none none (Data.fields #[]) #[])
noncomputable def hd.o_147 (P : Params) : Obj := (Obj.mk (.type "tuple") none (Data.seq #[(hd.vs "data" 326), (hd.vs "at" 327), (hd.vs "end" 328)] 0) #[])
noncomputable def hd.o_148 (P : Params) : Obj := (Obj.mk (.type "tuple") none (Data.seq #[] 0) #[])
noncomputable def hd.o_149 (P : Params) : Obj := (Obj.mk .none none (Data.func (FuncData.mk (Str.ofString "atom_at") (Str.ofString "atom_at") (hd.fA (hd.st 16)) (FuncBody.stmts (hd.fB (hd.st 16))) (hd.fS (hd.st 16)) 0 [] .none .none .none .none none .none .none 0)) #[])
noncomputable def hd.o_150 (P : Params) : Obj := (Obj.mk (.type "code") none (Data.fields #[(hd.vs "atom_at" 323), (hd.vs "atom_at" 324), (hd.vs "/claim/cut.py" 325), (.int 66 0), (.int 2 0), (.int 0 0), (.int 0 0), (.int 3 0), (.ref 103), (.bool true), (.int 181 0), (.ref 104), .none, (.ref 105), (.ref 106), (.ref 107), (.int 329 0), (.int 66 0), (hd.vs "/claim/cut.py" 330)]) #[])
noncomputable def hd.o_151 (P : Params) : Obj := (Obj.mk (.type "function") none (Data.func (FuncData.mk (Str.ofString "atom_at") (Str.ofString "atom_at") (hd.fA (hd.st 16)) (FuncBody.stmts (hd.fB (hd.st 16))) (hd.fS (hd.st 16)) 3 [] .none .none .none (hd.vs "postkeep.tokens" 260) none (.ref 108) .none 0)) #[])
noncomputable def hd.o_152 (P : Params) : Obj := (Obj.mk (.type "tuple") none (Data.seq #[] 0) #[])
noncomputable def hd.o_153 (P : Params) : Obj := (Obj.mk .none none (Data.fields #[]) #[])
noncomputable def hd.o_154 (P : Params) : Obj := (Obj.mk (.type "tuple") none (Data.seq #[(hd.vs "data" 335), (hd.vs "at" 336), (hd.vs "sign" 337), (hd.vs "worth" 338), (hd.vs "behind" 339)] 0) #[])
noncomputable def hd.o_155 (P : Params) : Obj := (Obj.mk (.type "tuple") none (Data.seq #[] 0) #[])
noncomputable def hd.o_156 (P : Params) : Obj := (Obj.mk .none none (Data.func (FuncData.mk (Str.ofString "token_at") (Str.ofString "token_at") (hd.fA (hd.st 17)) (FuncBody.stmts (hd.fB (hd.st 17))) (hd.fS (hd.st 17)) 0 [] .none .none .none .none none .none .none 0)) #[])
noncomputable def hd.o_157 (P : Params) : Obj := (Obj.mk (.type "code") none (Data.fields #[(hd.vs "token_at" 332), (hd.vs "token_at" 333), (hd.vs "/claim/cut.py" 334), (.int 71 0), (.int 2 0), (.int 0 0), (.int 0 0), (.int 3 0), (.ref 110), (.bool true), (.int 181 0), (.ref 111), .none, (.ref 112), (.ref 113), (.ref 114), (.int 340 0), (.int 71 0), (hd.vs "/claim/cut.py" 341)]) #[])
noncomputable def hd.o_158 (P : Params) : Obj := (Obj.mk (.type "function") none (Data.func (FuncData.mk (Str.ofString "token_at") (Str.ofString "token_at") (hd.fA (hd.st 17)) (FuncBody.stmts (hd.fB (hd.st 17))) (hd.fS (hd.st 17)) 3 [] .none .none .none (hd.vs "postkeep.tokens" 260) none (.ref 115) .none 0)) #[])
noncomputable def hd.o_159 (P : Params) : Obj := (Obj.mk (.type "tuple") none (Data.seq #[] 0) #[])
noncomputable def hd.o_160 (P : Params) : Obj := (Obj.mk .none none (Data.fields #[]) #[])
noncomputable def hd.o_161 (P : Params) : Obj := (Obj.mk (.type "tuple") none (Data.seq #[(hd.vs "data" 346), (hd.vs "at" 347), (hd.vs "behind" 348)] 0) #[])
noncomputable def hd.o_162 (P : Params) : Obj := (Obj.mk (.type "tuple") none (Data.seq #[] 0) #[])
noncomputable def hd.o_163 (P : Params) : Obj := (Obj.mk .none none (Data.func (FuncData.mk (Str.ofString "past_white") (Str.ofString "past_white") (hd.fA (hd.st 18)) (FuncBody.stmts (hd.fB (hd.st 18))) (hd.fS (hd.st 18)) 0 [] .none .none .none .none none .none .none 0)) #[])
noncomputable def hd.o_164 (P : Params) : Obj := (Obj.mk (.type "code") none (Data.fields #[(hd.vs "past_white" 343), (hd.vs "past_white" 344), (hd.vs "/claim/cut.py" 345), (.int 88 0), (.int 2 0), (.int 0 0), (.int 0 0), (.int 3 0), (.ref 117), (.bool true), (.int 181 0), (.ref 118), .none, (.ref 119), (.ref 120), (.ref 121), (.int 349 0), (.int 88 0), (hd.vs "/claim/cut.py" 350)]) #[])
noncomputable def hd.o_165 (P : Params) : Obj := (Obj.mk (.type "function") none (Data.func (FuncData.mk (Str.ofString "past_white") (Str.ofString "past_white") (hd.fA (hd.st 18)) (FuncBody.stmts (hd.fB (hd.st 18))) (hd.fS (hd.st 18)) 3 [] .none .none .none (hd.vs "postkeep.tokens" 260) none (.ref 122) .none 0)) #[])
noncomputable def hd.o_166 (P : Params) : Obj := (Obj.mk (.type "tuple") none (Data.seq #[] 0) #[])
noncomputable def hd.o_167 (P : Params) : Obj := (Obj.mk .none none (Data.fields #[]) #[])
noncomputable def hd.o_168 (P : Params) : Obj := (Obj.mk (.type "tuple") none (Data.seq #[(hd.vs "octets" 355), (hd.vs "found" 356), (hd.vs "at" 357), (hd.vs "token" 358)] 0) #[])
noncomputable def hd.o_169 (P : Params) : Obj := (Obj.mk (.type "tuple") none (Data.seq #[] 0) #[])
noncomputable def hd.o_170 (P : Params) : Obj := (Obj.mk .none none (Data.func (FuncData.mk (Str.ofString "tokens_of") (Str.ofString "tokens_of") (hd.fA (hd.st 19)) (FuncBody.stmts (hd.fB (hd.st 19))) (hd.fS (hd.st 19)) 0 [] .none .none .none .none none .none .none 0)) #[])
noncomputable def hd.o_171 (P : Params) : Obj := (Obj.mk (.type "code") none (Data.fields #[(hd.vs "tokens_of" 352), (hd.vs "tokens_of" 353), (hd.vs "/claim/cut.py" 354), (.int 95 0), (.int 1 0), (.int 0 0), (.int 0 0), (.int 3 0), (.ref 124), (.bool true), (.int 181 0), (.ref 125), .none, (.ref 126), (.ref 127), (.ref 128), (.int 359 0), (.int 95 0), (hd.vs "/claim/cut.py" 360)]) #[])
noncomputable def hd.o_172 (P : Params) : Obj := (Obj.mk (.type "function") none (Data.func (FuncData.mk (Str.ofString "tokens_of") (Str.ofString "tokens_of") (hd.fA (hd.st 19)) (FuncBody.stmts (hd.fB (hd.st 19))) (hd.fS (hd.st 19)) 3 [] .none .none .none (hd.vs "postkeep.tokens" 260) none (.ref 129) .none 0)) #[])
noncomputable def hd.o_173 (P : Params) : Obj := (Obj.mk (.type "tuple") none (Data.seq #[] 0) #[])
noncomputable def hd.o_174 (P : Params) : Obj := (Obj.mk .none none (Data.fields #[]) #[])
noncomputable def hd.o_175 (P : Params) : Obj := (Obj.mk .none none (Data.func (FuncData.mk (Str.ofString "without_comments") (Str.ofString "without_comments") (hd.fA (hd.st 20)) (FuncBody.stmts (hd.fB (hd.st 20))) (hd.fS (hd.st 20)) 0 [] .none .none .none .none none .none .none 0)) #[])
noncomputable def hd.o_176 (P : Params) : Obj := (Obj.mk (.type "code") none (Data.fields #[(hd.vs "without_comments" 362), (hd.vs "without_comments" 363), (hd.vs "/claim/cut.py" 364), (.int 103 0), (.int 1 0), (.int 0 0), (.int 0 0), (.int 3 0), (.ref 131), (.bool true), (.int 181 0), (.ref 132), .none, .none, .none, (.ref 133), (.int 365 0), (.int 103 0), (hd.vs "/claim/cut.py" 366)]) #[])
noncomputable def hd.o_177 (P : Params) : Obj := (Obj.mk (.type "function") none (Data.func (FuncData.mk (Str.ofString "without_comments") (Str.ofString "without_comments") (hd.fA (hd.st 20)) (FuncBody.stmts (hd.fB (hd.st 20))) (hd.fS (hd.st 20)) 3 [] .none .none .none (hd.vs "postkeep.tokens" 260) none (.ref 134) .none 0)) #[])
noncomputable def hd.o_178 (P : Params) : Obj := (Obj.mk (.type "tuple") none (Data.seq #[(hd.vs "Jan" 370), (hd.vs "Feb" 371), (hd.vs "Mar" 372), (hd.vs "Apr" 373), (hd.vs "May" 374), (hd.vs "Jun" 375), (hd.vs "Jul" 376), (hd.vs "Aug" 377), (hd.vs "Sep" 378), (hd.vs "Oct" 379), (hd.vs "Nov" 380), (hd.vs "Dec" 381)] 0) #[])
noncomputable def hd.o_179 (P : Params) : Obj := (Obj.mk (.type "tuple") none (Data.seq #[(hd.vs "Mon" 383), (hd.vs "Tue" 384), (hd.vs "Wed" 385), (hd.vs "Thu" 386), (hd.vs "Fri" 387), (hd.vs "Sat" 388), (hd.vs "Sun" 389)] 0) #[])
noncomputable def hd.o_180 (P : Params) : Obj := (Obj.mk (.type "dict") none (Data.dict #[(hd.en P "__name__" 165 (hd.vs "postkeep.dates" 368)), (hd.en P "__doc__" 166 .none), (hd.en P "__package__" 167 .none), (hd.en P "__loader__" 168 (Value.builtin "__main__.__loader__#opaque")), (hd.en P "__spec__" 169 .none), (hd.en P "__annotations__" 170 (.ref 6)), (hd.en P "__builtins__" 171 (.ref 4)), (hd.en P "__file__" 173 (hd.vs "/claim/cut.py" 172)), (hd.en P "__cached__" 174 .none), (hd.en P "PostError" 228 (.ref 39)), (hd.en P "WordFault" 244 (.ref 52)), (hd.en P "lower_code" 253 (.ref 61)), (hd.en P "lower_text" 259 (.ref 66)), (hd.en P "MOST_DEPTH" 263 (.int 20 262)), (hd.en P "SIGNS" 265 (Value.bytes #[60, 62, 64, 44, 59, 58, 46, 92] 264)), (hd.en P "ATOM_SIGNS" 267 (Value.bytes #[33, 35, 36, 37, 38, 39, 42, 43, 45, 47, 61, 63, 94, 95, 96, 123, 124, 125, 126] 266)), (hd.en P "NEVER_ESCAPED" 271 (.ref 67)), (hd.en P "is_atom_code" 278 (.ref 74)), (hd.en P "line_end" 286 (.ref 81)), (hd.en P "inside_at" 296 (.ref 88)), (hd.en P "closed_at" 309 (.ref 95)), (hd.en P "comment_at" 322 (.ref 102)), (hd.en P "atom_at" 331 (.ref 109)), (hd.en P "token_at" 342 (.ref 116)), (hd.en P "past_white" 351 (.ref 123)), (hd.en P "tokens_of" 361 (.ref 130)), (hd.en P "without_comments" 367 (.ref 135)), (hd.en P "MONTHS" 382 (.ref 136)), (hd.en P "DAYS" 390 (.ref 137)), (hd.en P "MOST_YEAR" 392 (.int 9999 391)), (hd.en P "MOST_ZONE" 398 (.int 5999 397)), (hd.en P "FIRST_DAY" 400 (.int 719162 399)), (hd.en P "Moment" 448 (.ref 161)), (hd.en P "is_leap" 455 (.ref 172)), (hd.en P "month_length" 463 (.ref 179)), (hd.en P "days_before_year" 471 (.ref 186)), (hd.en P "day_number" 482 (.ref 193))] 37) #[])
noncomputable def hd.o_181 (P : Params) : Obj := (Obj.mk .none none (Data.fields #[(.int 2 0), (.int 0 0), (.ref 20), (.int 11 0), (.int 0 0), (.ref 48), (.int 14 0), (.int 0 0), (.ref 60), (.int 16 0), (.int 0 0), (.ref 65), (.int 23 0), (.int 0 0), (.ref 73), (.int 25 0), (.int 0 0), (.ref 80), (.int 29 0), (.int 0 0), (.ref 87), (.int 42 0), (.int 0 0), (.ref 94), (.int 51 0), (.int 0 0), (.ref 101), (.int 66 0), (.int 0 0), (.ref 108), (.int 71 0), (.int 0 0), (.ref 115), (.int 88 0), (.int 0 0), (.ref 122), (.int 95 0), (.int 0 0), (.ref 129), (.int 103 0), (.int 0 0), (.ref 134), (.int 111 0), (.int 0 0), (.ref 143), (.int 124 0), (.int 0 0), (.ref 171), (.int 126 0), (.int 0 0), (.ref 178), (.int 130 0), (.int 0 0), (.ref 185), (.int 133 0), (.int 0 0), (.ref 192)]) #[])
noncomputable def hd.o_182 (P : Params) : Obj := (Obj.mk (.type "tuple") none (Data.seq #[] 0) #[])
noncomputable def hd.o_183 (P : Params) : Obj := (Obj.mk (.type "builtin_function_or_method") none (Data.fields #[(Value.builtin "type.__prepare__"), (.type "type")]) #[])
noncomputable def hd.o_184 (P : Params) : Obj := (Obj.mk (.type "dict") none (Data.dict #[(hd.en P "__module__" 408 (hd.vs "postkeep.dates" 368)), (hd.en P "__qualname__" 410 (hd.vs "Moment" 409)), (hd.en P "__firstlineno__" 412 (.int 111 411)), (hd.en P "__init__" 426 (.ref 151)), (hd.en P "told" 433 (.ref 158)), (hd.en P "__static_attributes__" 441 (.ref 159))] 6) #[])
noncomputable def hd.o_185 (P : Params) : Obj := (Obj.mk (.type "tuple") none (Data.seq #[] 0) #[])
noncomputable def hd.o_186 (P : Params) : Obj := (Obj.mk .none none (Data.fields #[(.int 113 0), (.int 4 0), (.ref 150), (.int 122 0), (.int 4 0), (.ref 157)]) #[])
noncomputable def hd.o_187 (P : Params) : Obj := (Obj.mk (.type "code") none (Data.fields #[(hd.vs "Moment" 403), (hd.vs "Moment" 404), (hd.vs "/claim/cut.py" 405), (.int 111 0), (.int 0 0), (.int 0 0), (.int 0 0), (.int 0 0), (.ref 141), (.bool false), (.int 181 0), (.ref 142), .none, .none, .none, .none, (.int 406 0), (.int 111 0), (hd.vs "/claim/cut.py" 407)]) #[])
noncomputable def hd.o_188 (P : Params) : Obj := (Obj.mk (.type "frame") none Data.plain #[(some (.ref 143)), (some (.ref 3)), (some (.ref 140)), none, (some (hd.vs "postkeep.dates" 368)), none, (some (.ref 0))])
noncomputable def hd.o_189 (P : Params) : Obj := (Obj.mk (.type "tuple") none (Data.seq #[] 0) #[])
noncomputable def hd.o_190 (P : Params) : Obj := (Obj.mk .none none (Data.fields #[]) #[])
noncomputable def hd.o_191 (P : Params) : Obj := (Obj.mk (.type "tuple") none (Data.seq #[(hd.vs "self" 416), (hd.vs "year" 417), (hd.vs "month" 418), (hd.vs "day" 419), (hd.vs "hour" 420), (hd.vs "minute" 421), (hd.vs "second" 422), (hd.vs "zone" 423)] 0) #[])
noncomputable def hd.o_192 (P : Params) : Obj := (Obj.mk (.type "tuple") none (Data.seq #[] 0) #[])
noncomputable def hd.o_193 (P : Params) : Obj := (Obj.mk .none none (Data.func (FuncData.mk (Str.ofString "__init__") (Str.ofString "Moment.__init__") (hd.fA (hd.me 27 0)) (FuncBody.stmts (hd.fB (hd.me 27 0))) (hd.fS (hd.me 27 0)) 0 [] .none .none .none .none none .none .none 0)) #[])
noncomputable def hd.o_194 (P : Params) : Obj := (Obj.mk (.type "code") none (Data.fields #[(hd.vs "__init__" 413), (hd.vs "Moment.__init__" 414), (hd.vs "/claim/cut.py" 415), (.int 113 0), (.int 8 0), (.int 0 0), (.int 0 0), (.int 3 0), (.ref 145), (.bool true), (.int 181 0), (.ref 146), .none, (.ref 147), (.ref 148), (.ref 149), (.int 424 0), (.int 113 0), (hd.vs "/claim/cut.py" 425)]) #[])
noncomputable def hd.o_195 (P : Params) : Obj := (Obj.mk (.type "function") none (Data.func (FuncData.mk (Str.ofString "__init__") (Str.ofString "Moment.__init__") (hd.fA (hd.me 27 0)) (FuncBody.stmts (hd.fB (hd.me 27 0))) (hd.fS (hd.me 27 0)) 3 [] .none .none .none (hd.vs "postkeep.dates" 368) none (.ref 150) .none 0)) #[])
noncomputable def hd.o_196 (P : Params) : Obj := (Obj.mk (.type "tuple") none (Data.seq #[] 0) #[])
noncomputable def hd.o_197 (P : Params) : Obj := (Obj.mk .none none (Data.fields #[]) #[])
noncomputable def hd.o_198 (P : Params) : Obj := (Obj.mk (.type "tuple") none (Data.seq #[(hd.vs "self" 430)] 0) #[])
noncomputable def hd.o_199 (P : Params) : Obj := (Obj.mk (.type "tuple") none (Data.seq #[] 0) #[])
noncomputable def hd.o_200 (P : Params) : Obj := (Obj.mk .none none (Data.func (FuncData.mk (Str.ofString "told") (Str.ofString "Moment.told") (hd.fA (hd.me 27 1)) (FuncBody.stmts (hd.fB (hd.me 27 1))) (hd.fS (hd.me 1 1)) 0 [] .none .none .none .none none .none .none 0)) #[])
noncomputable def hd.o_201 (P : Params) : Obj := (Obj.mk (.type "code") none (Data.fields #[(hd.vs "told" 427), (hd.vs "Moment.told" 428), (hd.vs "/claim/cut.py" 429), (.int 122 0), (.int 1 0), (.int 0 0), (.int 0 0), (.int 3 0), (.ref 152), (.bool true), (.int 181 0), (.ref 153), .none, (.ref 154), (.ref 155), (.ref 156), (.int 431 0), (.int 122 0), (hd.vs "/claim/cut.py" 432)]) #[])
noncomputable def hd.o_202 (P : Params) : Obj := (Obj.mk (.type "function") none (Data.func (FuncData.mk (Str.ofString "told") (Str.ofString "Moment.told") (hd.fA (hd.me 27 1)) (FuncBody.stmts (hd.fB (hd.me 27 1))) (hd.fS (hd.me 1 1)) 3 [] .none .none .none (hd.vs "postkeep.dates" 368) none (.ref 157) .none 0)) #[])
noncomputable def hd.o_203 (P : Params) : Obj := (Obj.mk (.type "tuple") none (Data.seq #[(hd.vs "day" 434), (hd.vs "hour" 435), (hd.vs "minute" 436), (hd.vs "month" 437), (hd.vs "second" 438), (hd.vs "year" 439), (hd.vs "zone" 440)] 0) #[])
noncomputable def hd.o_204 (P : Params) : Obj := (Obj.mk (.type "dict") none (Data.dict #[(hd.en P "__module__" 408 (hd.vs "postkeep.dates" 368)), (hd.en P "__firstlineno__" 412 (.int 111 411)), (hd.en P "__init__" 426 (.ref 151)), (hd.en P "told" 433 (.ref 158)), (hd.en P "__static_attributes__" 441 (.ref 159)), (hd.en P "__dict__" 443 (.ref 162)), (hd.en P "__weakref__" 445 (.ref 163)), (hd.en P "__doc__" 446 .none)] 4) #[])
noncomputable def hd.o_205 (P : Params) : Obj := (Obj.mk (.type "type") none (Data.cls (ClassData.mk (Str.ofString "Moment") [(.type "object")] [(.ref 161), (.type "object")] 160 (Str.ofString "Moment") true [] [] false none false)) #[none, none, (some (hd.vs "Moment" 401)), (some (hd.vs "Moment" 409)), (some (Value.builtin "object.__new__")), (some (.bool true))])
noncomputable def hd.o_206 (P : Params) : Obj := (Obj.mk (.type "getset_descriptor") none (Data.fields #[(hd.vs "__dict__" 442), (.ref 161), (Value.builtin "function.__dict__"), (Value.builtin "function.__dict__#set")]) #[])
noncomputable def hd.o_207 (P : Params) : Obj := (Obj.mk (.type "getset_descriptor") none (Data.fields #[(hd.vs "__weakref__" 444), (.ref 161), (Value.builtin "ExceptionGroup.__weakref__"), .none]) #[])
noncomputable def hd.o_208 (P : Params) : Obj := (Obj.mk (.type "super") none (Data.fields #[(.ref 161), (.ref 161), (.ref 161)]) #[])
noncomputable def hd.o_209 (P : Params) : Obj := (Obj.mk (.type "builtin_function_or_method") none (Data.fields #[(Value.builtin "object.__init_subclass__"), (.ref 161)]) #[])
noncomputable def hd.o_210 (P : Params) : Obj := (Obj.mk (.type "tuple") none (Data.seq #[] 0) #[])
noncomputable def hd.o_211 (P : Params) : Obj := (Obj.mk .none none (Data.fields #[]) #[])
noncomputable def hd.o_212 (P : Params) : Obj := (Obj.mk (.type "tuple") none (Data.seq #[(hd.vs "year" 452)] 0) #[])
noncomputable def hd.o_213 (P : Params) : Obj := (Obj.mk (.type "tuple") none (Data.seq #[] 0) #[])
noncomputable def hd.o_214 (P : Params) : Obj := (Obj.mk .none none (Data.func (FuncData.mk (Str.ofString "is_leap") (Str.ofString "is_leap") (hd.fA (hd.st 28)) (FuncBody.stmts (hd.fB (hd.st 28))) (hd.fS (hd.st 28)) 0 [] .none .none .none .none none .none .none 0)) #[])
noncomputable def hd.o_215 (P : Params) : Obj := (Obj.mk (.type "code") none (Data.fields #[(hd.vs "is_leap" 449), (hd.vs "is_leap" 450), (hd.vs "/claim/cut.py" 451), (.int 124 0), (.int 1 0), (.int 0 0), (.int 0 0), (.int 3 0), (.ref 166), (.bool true), (.int 181 0), (.ref 167), .none, (.ref 168), (.ref 169), (.ref 170), (.int 453 0), (.int 124 0), (hd.vs "/claim/cut.py" 454)]) #[])
noncomputable def hd.o_216 (P : Params) : Obj := (Obj.mk (.type "function") none (Data.func (FuncData.mk (Str.ofString "is_leap") (Str.ofString "is_leap") (hd.fA (hd.st 28)) (FuncBody.stmts (hd.fB (hd.st 28))) (hd.fS (hd.st 28)) 3 [] .none .none .none (hd.vs "postkeep.dates" 368) none (.ref 171) .none 0)) #[])
noncomputable def hd.o_217 (P : Params) : Obj := (Obj.mk (.type "tuple") none (Data.seq #[] 0) #[])
noncomputable def hd.o_218 (P : Params) : Obj := (Obj.mk .none none (Data.fields #[]) #[])
noncomputable def hd.o_219 (P : Params) : Obj := (Obj.mk (.type "tuple") none (Data.seq #[(hd.vs "year" 459), (hd.vs "month" 460)] 0) #[])
noncomputable def hd.o_220 (P : Params) : Obj := (Obj.mk (.type "tuple") none (Data.seq #[] 0) #[])
noncomputable def hd.o_221 (P : Params) : Obj := (Obj.mk .none none (Data.func (FuncData.mk (Str.ofString "month_length") (Str.ofString "month_length") (hd.fA (hd.st 29)) (FuncBody.stmts (hd.fB (hd.st 29))) (hd.fS (hd.st 29)) 0 [] .none .none .none .none none .none .none 0)) #[])
noncomputable def hd.o_222 (P : Params) : Obj := (Obj.mk (.type "code") none (Data.fields #[(hd.vs "month_length" 456), (hd.vs "month_length" 457), (hd.vs "/claim/cut.py" 458), (.int 126 0), (.int 2 0), (.int 0 0), (.int 0 0), (.int 3 0), (.ref 173), (.bool true), (.int 181 0), (.ref 174), .none, (.ref 175), (.ref 176), (.ref 177), (.int 461 0), (.int 126 0), (hd.vs "/claim/cut.py" 462)]) #[])
noncomputable def hd.o_223 (P : Params) : Obj := (Obj.mk (.type "function") none (Data.func (FuncData.mk (Str.ofString "month_length") (Str.ofString "month_length") (hd.fA (hd.st 29)) (FuncBody.stmts (hd.fB (hd.st 29))) (hd.fS (hd.st 29)) 3 [] .none .none .none (hd.vs "postkeep.dates" 368) none (.ref 178) .none 0)) #[])
noncomputable def hd.o_224 (P : Params) : Obj := (Obj.mk (.type "tuple") none (Data.seq #[] 0) #[])
noncomputable def hd.o_225 (P : Params) : Obj := (Obj.mk .none none (Data.fields #[]) #[])
noncomputable def hd.o_226 (P : Params) : Obj := (Obj.mk (.type "tuple") none (Data.seq #[(hd.vs "year" 467), (hd.vs "past" 468)] 0) #[])
noncomputable def hd.o_227 (P : Params) : Obj := (Obj.mk (.type "tuple") none (Data.seq #[] 0) #[])
noncomputable def hd.o_228 (P : Params) : Obj := (Obj.mk .none none (Data.func (FuncData.mk (Str.ofString "days_before_year") (Str.ofString "days_before_year") (hd.fA (hd.st 30)) (FuncBody.stmts (hd.fB (hd.st 30))) (hd.fS (hd.st 30)) 0 [] .none .none .none .none none .none .none 0)) #[])
noncomputable def hd.o_229 (P : Params) : Obj := (Obj.mk (.type "code") none (Data.fields #[(hd.vs "days_before_year" 464), (hd.vs "days_before_year" 465), (hd.vs "/claim/cut.py" 466), (.int 130 0), (.int 1 0), (.int 0 0), (.int 0 0), (.int 3 0), (.ref 180), (.bool true), (.int 181 0), (.ref 181), .none, (.ref 182), (.ref 183), (.ref 184), (.int 469 0), (.int 130 0), (hd.vs "/claim/cut.py" 470)]) #[])
noncomputable def hd.o_230 (P : Params) : Obj := (Obj.mk (.type "function") none (Data.func (FuncData.mk (Str.ofString "days_before_year") (Str.ofString "days_before_year") (hd.fA (hd.st 30)) (FuncBody.stmts (hd.fB (hd.st 30))) (hd.fS (hd.st 30)) 3 [] .none .none .none (hd.vs "postkeep.dates" 368) none (.ref 185) .none 0)) #[])
noncomputable def hd.o_231 (P : Params) : Obj := (Obj.mk (.type "tuple") none (Data.seq #[] 0) #[])
noncomputable def hd.o_232 (P : Params) : Obj := (Obj.mk .none none (Data.fields #[]) #[])
noncomputable def hd.o_233 (P : Params) : Obj := (Obj.mk (.type "tuple") none (Data.seq #[(hd.vs "year" 475), (hd.vs "month" 476), (hd.vs "day" 477), (hd.vs "total" 478), (hd.vs "earlier" 479)] 0) #[])
noncomputable def hd.o_234 (P : Params) : Obj := (Obj.mk (.type "tuple") none (Data.seq #[] 0) #[])
noncomputable def hd.o_235 (P : Params) : Obj := (Obj.mk .none none (Data.func (FuncData.mk (Str.ofString "day_number") (Str.ofString "day_number") (hd.fA (hd.st 31)) (FuncBody.stmts (hd.fB (hd.st 31))) (hd.fS (hd.st 31)) 0 [] .none .none .none .none none .none .none 0)) #[])
noncomputable def hd.o_236 (P : Params) : Obj := (Obj.mk (.type "code") none (Data.fields #[(hd.vs "day_number" 472), (hd.vs "day_number" 473), (hd.vs "/claim/cut.py" 474), (.int 133 0), (.int 3 0), (.int 0 0), (.int 0 0), (.int 3 0), (.ref 187), (.bool true), (.int 181 0), (.ref 188), .none, (.ref 189), (.ref 190), (.ref 191), (.int 480 0), (.int 133 0), (hd.vs "/claim/cut.py" 481)]) #[])
noncomputable def hd.o_237 (P : Params) : Obj := (Obj.mk (.type "function") none (Data.func (FuncData.mk (Str.ofString "day_number") (Str.ofString "day_number") (hd.fA (hd.st 31)) (FuncBody.stmts (hd.fB (hd.st 31))) (hd.fS (hd.st 31)) 3 [] .none .none .none (hd.vs "postkeep.dates" 368) none (.ref 192) .none 0)) #[])
noncomputable def hd.o_238 (P : Params) : Obj := (Obj.mk (.type "dict") none (Data.dict #[(hd.en P "__name__" 165 (hd.vs "postkeep.dates" 368)), (hd.en P "__doc__" 166 .none), (hd.en P "__package__" 167 .none), (hd.en P "__loader__" 168 (Value.builtin "__main__.__loader__#opaque")), (hd.en P "__spec__" 169 .none), (hd.en P "__annotations__" 170 (.ref 6)), (hd.en P "__builtins__" 171 (.ref 4)), (hd.en P "__file__" 173 (hd.vs "/claim/cut.py" 172)), (hd.en P "__cached__" 174 .none), (hd.en P "PostError" 228 (.ref 39)), (hd.en P "WordFault" 244 (.ref 52)), (hd.en P "lower_code" 253 (.ref 61)), (hd.en P "lower_text" 259 (.ref 66)), (hd.en P "MOST_DEPTH" 263 (.int 20 262)), (hd.en P "SIGNS" 265 (Value.bytes #[60, 62, 64, 44, 59, 58, 46, 92] 264)), (hd.en P "ATOM_SIGNS" 267 (Value.bytes #[33, 35, 36, 37, 38, 39, 42, 43, 45, 47, 61, 63, 94, 95, 96, 123, 124, 125, 126] 266)), (hd.en P "NEVER_ESCAPED" 271 (.ref 67)), (hd.en P "is_atom_code" 278 (.ref 74)), (hd.en P "line_end" 286 (.ref 81)), (hd.en P "inside_at" 296 (.ref 88)), (hd.en P "closed_at" 309 (.ref 95)), (hd.en P "comment_at" 322 (.ref 102)), (hd.en P "atom_at" 331 (.ref 109)), (hd.en P "token_at" 342 (.ref 116)), (hd.en P "past_white" 351 (.ref 123)), (hd.en P "tokens_of" 361 (.ref 130)), (hd.en P "without_comments" 367 (.ref 135)), (hd.en P "MONTHS" 382 (.ref 136)), (hd.en P "DAYS" 390 (.ref 137)), (hd.en P "MOST_YEAR" 392 (.int 9999 391)), (hd.en P "MOST_ZONE" 398 (.int 5999 397)), (hd.en P "FIRST_DAY" 400 (.int 719162 399)), (hd.en P "Moment" 448 (.ref 161)), (hd.en P "is_leap" 455 (.ref 172)), (hd.en P "month_length" 463 (.ref 179)), (hd.en P "days_before_year" 471 (.ref 186)), (hd.en P "day_number" 482 (.ref 193)), (hd.en P "weekday" 491 (.ref 200)), (hd.en P "is_day" 500 (.ref 207)), (hd.en P "is_time" 509 (.ref 214)), (hd.en P "check_moment" 517 (.ref 221)), (hd.en P "month_number" 523 (.ref 226)), (hd.en P "is_day_name" 529 (.ref 231)), (hd.en P "padded" 538 (.ref 238)), (hd.en P "zone_text" 545 (.ref 245)), (hd.en P "clock_text" 551 (.ref 250)), (hd.en P "is_figures" 557 (.ref 255)), (hd.en P "zone_in" 565 (.ref 262)), (hd.en P "named_zone" 571 (.ref 267))] 49) #[])
noncomputable def hd.o_239 (P : Params) : Obj := (Obj.mk .none none (Data.fields #[(.int 2 0), (.int 0 0), (.ref 20), (.int 11 0), (.int 0 0), (.ref 48), (.int 14 0), (.int 0 0), (.ref 60), (.int 16 0), (.int 0 0), (.ref 65), (.int 23 0), (.int 0 0), (.ref 73), (.int 25 0), (.int 0 0), (.ref 80), (.int 29 0), (.int 0 0), (.ref 87), (.int 42 0), (.int 0 0), (.ref 94), (.int 51 0), (.int 0 0), (.ref 101), (.int 66 0), (.int 0 0), (.ref 108), (.int 71 0), (.int 0 0), (.ref 115), (.int 88 0), (.int 0 0), (.ref 122), (.int 95 0), (.int 0 0), (.ref 129), (.int 103 0), (.int 0 0), (.ref 134), (.int 111 0), (.int 0 0), (.ref 143), (.int 124 0), (.int 0 0), (.ref 171), (.int 126 0), (.int 0 0), (.ref 178), (.int 130 0), (.int 0 0), (.ref 185), (.int 133 0), (.int 0 0), (.ref 192), (.int 138 0), (.int 0 0), (.ref 199), (.int 140 0), (.int 0 0), (.ref 206), (.int 142 0), (.int 0 0), (.ref 213), (.int 144 0), (.int 0 0), (.ref 220), (.int 148 0), (.int 0 0), (.ref 225), (.int 151 0), (.int 0 0), (.ref 230), (.int 153 0), (.int 0 0), (.ref 237), (.int 156 0), (.int 0 0), (.ref 244), (.int 158 0), (.int 0 0), (.ref 249), (.int 161 0), (.int 0 0), (.ref 254), (.int 163 0), (.int 0 0), (.ref 261), (.int 168 0), (.int 0 0), (.ref 266)]) #[])
noncomputable def hd.o_240 (P : Params) : Obj := (Obj.mk (.type "tuple") none (Data.seq #[] 0) #[])
noncomputable def hd.o_241 (P : Params) : Obj := (Obj.mk .none none (Data.fields #[]) #[])
noncomputable def hd.o_242 (P : Params) : Obj := (Obj.mk (.type "tuple") none (Data.seq #[(hd.vs "year" 486), (hd.vs "month" 487), (hd.vs "day" 488)] 0) #[])
noncomputable def hd.o_243 (P : Params) : Obj := (Obj.mk (.type "tuple") none (Data.seq #[] 0) #[])
noncomputable def hd.o_244 (P : Params) : Obj := (Obj.mk .none none (Data.func (FuncData.mk (Str.ofString "weekday") (Str.ofString "weekday") (hd.fA (hd.st 32)) (FuncBody.stmts (hd.fB (hd.st 32))) (hd.fS (hd.st 32)) 0 [] .none .none .none .none none .none .none 0)) #[])
noncomputable def hd.o_245 (P : Params) : Obj := (Obj.mk (.type "code") none (Data.fields #[(hd.vs "weekday" 483), (hd.vs "weekday" 484), (hd.vs "/claim/cut.py" 485), (.int 138 0), (.int 3 0), (.int 0 0), (.int 0 0), (.int 3 0), (.ref 194), (.bool true), (.int 181 0), (.ref 195), .none, (.ref 196), (.ref 197), (.ref 198), (.int 489 0), (.int 138 0), (hd.vs "/claim/cut.py" 490)]) #[])
noncomputable def hd.o_246 (P : Params) : Obj := (Obj.mk (.type "function") none (Data.func (FuncData.mk (Str.ofString "weekday") (Str.ofString "weekday") (hd.fA (hd.st 32)) (FuncBody.stmts (hd.fB (hd.st 32))) (hd.fS (hd.st 32)) 3 [] .none .none .none (hd.vs "postkeep.dates" 368) none (.ref 199) .none 0)) #[])
noncomputable def hd.o_247 (P : Params) : Obj := (Obj.mk (.type "tuple") none (Data.seq #[] 0) #[])
noncomputable def hd.o_248 (P : Params) : Obj := (Obj.mk .none none (Data.fields #[]) #[])
noncomputable def hd.o_249 (P : Params) : Obj := (Obj.mk (.type "tuple") none (Data.seq #[(hd.vs "year" 495), (hd.vs "month" 496), (hd.vs "day" 497)] 0) #[])
noncomputable def hd.o_250 (P : Params) : Obj := (Obj.mk (.type "tuple") none (Data.seq #[] 0) #[])
noncomputable def hd.o_251 (P : Params) : Obj := (Obj.mk .none none (Data.func (FuncData.mk (Str.ofString "is_day") (Str.ofString "is_day") (hd.fA (hd.st 33)) (FuncBody.stmts (hd.fB (hd.st 33))) (hd.fS (hd.st 33)) 0 [] .none .none .none .none none .none .none 0)) #[])
noncomputable def hd.o_252 (P : Params) : Obj := (Obj.mk (.type "code") none (Data.fields #[(hd.vs "is_day" 492), (hd.vs "is_day" 493), (hd.vs "/claim/cut.py" 494), (.int 140 0), (.int 3 0), (.int 0 0), (.int 0 0), (.int 3 0), (.ref 201), (.bool true), (.int 181 0), (.ref 202), .none, (.ref 203), (.ref 204), (.ref 205), (.int 498 0), (.int 140 0), (hd.vs "/claim/cut.py" 499)]) #[])
noncomputable def hd.o_253 (P : Params) : Obj := (Obj.mk (.type "function") none (Data.func (FuncData.mk (Str.ofString "is_day") (Str.ofString "is_day") (hd.fA (hd.st 33)) (FuncBody.stmts (hd.fB (hd.st 33))) (hd.fS (hd.st 33)) 3 [] .none .none .none (hd.vs "postkeep.dates" 368) none (.ref 206) .none 0)) #[])
noncomputable def hd.o_254 (P : Params) : Obj := (Obj.mk (.type "tuple") none (Data.seq #[] 0) #[])
noncomputable def hd.o_255 (P : Params) : Obj := (Obj.mk .none none (Data.fields #[]) #[])
noncomputable def hd.o_256 (P : Params) : Obj := (Obj.mk (.type "tuple") none (Data.seq #[(hd.vs "hour" 504), (hd.vs "minute" 505), (hd.vs "second" 506)] 0) #[])
noncomputable def hd.o_257 (P : Params) : Obj := (Obj.mk (.type "tuple") none (Data.seq #[] 0) #[])
noncomputable def hd.o_258 (P : Params) : Obj := (Obj.mk .none none (Data.func (FuncData.mk (Str.ofString "is_time") (Str.ofString "is_time") (hd.fA (hd.st 34)) (FuncBody.stmts (hd.fB (hd.st 34))) (hd.fS (hd.st 34)) 0 [] .none .none .none .none none .none .none 0)) #[])
noncomputable def hd.o_259 (P : Params) : Obj := (Obj.mk (.type "code") none (Data.fields #[(hd.vs "is_time" 501), (hd.vs "is_time" 502), (hd.vs "/claim/cut.py" 503), (.int 142 0), (.int 3 0), (.int 0 0), (.int 0 0), (.int 3 0), (.ref 208), (.bool true), (.int 181 0), (.ref 209), .none, (.ref 210), (.ref 211), (.ref 212), (.int 507 0), (.int 142 0), (hd.vs "/claim/cut.py" 508)]) #[])
noncomputable def hd.o_260 (P : Params) : Obj := (Obj.mk (.type "function") none (Data.func (FuncData.mk (Str.ofString "is_time") (Str.ofString "is_time") (hd.fA (hd.st 34)) (FuncBody.stmts (hd.fB (hd.st 34))) (hd.fS (hd.st 34)) 3 [] .none .none .none (hd.vs "postkeep.dates" 368) none (.ref 213) .none 0)) #[])
noncomputable def hd.o_261 (P : Params) : Obj := (Obj.mk (.type "tuple") none (Data.seq #[] 0) #[])
noncomputable def hd.o_262 (P : Params) : Obj := (Obj.mk .none none (Data.fields #[]) #[])
noncomputable def hd.o_263 (P : Params) : Obj := (Obj.mk (.type "tuple") none (Data.seq #[(hd.vs "moment" 513), (hd.vs "is_right" 514)] 0) #[])
noncomputable def hd.o_264 (P : Params) : Obj := (Obj.mk (.type "tuple") none (Data.seq #[] 0) #[])
noncomputable def hd.o_265 (P : Params) : Obj := (Obj.mk .none none (Data.func (FuncData.mk (Str.ofString "check_moment") (Str.ofString "check_moment") (hd.fA (hd.st 35)) (FuncBody.stmts (hd.fB (hd.st 35))) (hd.fS (hd.st 35)) 0 [] .none .none .none .none none .none .none 0)) #[])
noncomputable def hd.o_266 (P : Params) : Obj := (Obj.mk (.type "code") none (Data.fields #[(hd.vs "check_moment" 510), (hd.vs "check_moment" 511), (hd.vs "/claim/cut.py" 512), (.int 144 0), (.int 1 0), (.int 0 0), (.int 0 0), (.int 3 0), (.ref 215), (.bool true), (.int 181 0), (.ref 216), .none, (.ref 217), (.ref 218), (.ref 219), (.int 515 0), (.int 144 0), (hd.vs "/claim/cut.py" 516)]) #[])
noncomputable def hd.o_267 (P : Params) : Obj := (Obj.mk (.type "function") none (Data.func (FuncData.mk (Str.ofString "check_moment") (Str.ofString "check_moment") (hd.fA (hd.st 35)) (FuncBody.stmts (hd.fB (hd.st 35))) (hd.fS (hd.st 35)) 3 [] .none .none .none (hd.vs "postkeep.dates" 368) none (.ref 220) .none 0)) #[])
noncomputable def hd.o_268 (P : Params) : Obj := (Obj.mk (.type "tuple") none (Data.seq #[] 0) #[])
noncomputable def hd.o_269 (P : Params) : Obj := (Obj.mk .none none (Data.fields #[]) #[])
noncomputable def hd.o_270 (P : Params) : Obj := (Obj.mk .none none (Data.func (FuncData.mk (Str.ofString "month_number") (Str.ofString "month_number") (hd.fA (hd.st 36)) (FuncBody.stmts (hd.fB (hd.st 36))) (hd.fS (hd.st 36)) 0 [] .none .none .none .none none .none .none 0)) #[])
noncomputable def hd.o_271 (P : Params) : Obj := (Obj.mk (.type "code") none (Data.fields #[(hd.vs "month_number" 518), (hd.vs "month_number" 519), (hd.vs "/claim/cut.py" 520), (.int 148 0), (.int 1 0), (.int 0 0), (.int 0 0), (.int 3 0), (.ref 222), (.bool true), (.int 181 0), (.ref 223), .none, .none, .none, (.ref 224), (.int 521 0), (.int 148 0), (hd.vs "/claim/cut.py" 522)]) #[])
noncomputable def hd.o_272 (P : Params) : Obj := (Obj.mk (.type "function") none (Data.func (FuncData.mk (Str.ofString "month_number") (Str.ofString "month_number") (hd.fA (hd.st 36)) (FuncBody.stmts (hd.fB (hd.st 36))) (hd.fS (hd.st 36)) 3 [] .none .none .none (hd.vs "postkeep.dates" 368) none (.ref 225) .none 0)) #[])
noncomputable def hd.o_273 (P : Params) : Obj := (Obj.mk (.type "tuple") none (Data.seq #[] 0) #[])
noncomputable def hd.o_274 (P : Params) : Obj := (Obj.mk .none none (Data.fields #[]) #[])
noncomputable def hd.o_275 (P : Params) : Obj := (Obj.mk .none none (Data.func (FuncData.mk (Str.ofString "is_day_name") (Str.ofString "is_day_name") (hd.fA (hd.st 37)) (FuncBody.stmts (hd.fB (hd.st 37))) (hd.fS (hd.st 37)) 0 [] .none .none .none .none none .none .none 0)) #[])
noncomputable def hd.o_276 (P : Params) : Obj := (Obj.mk (.type "code") none (Data.fields #[(hd.vs "is_day_name" 524), (hd.vs "is_day_name" 525), (hd.vs "/claim/cut.py" 526), (.int 151 0), (.int 1 0), (.int 0 0), (.int 0 0), (.int 3 0), (.ref 227), (.bool true), (.int 181 0), (.ref 228), .none, .none, .none, (.ref 229), (.int 527 0), (.int 151 0), (hd.vs "/claim/cut.py" 528)]) #[])
noncomputable def hd.o_277 (P : Params) : Obj := (Obj.mk (.type "function") none (Data.func (FuncData.mk (Str.ofString "is_day_name") (Str.ofString "is_day_name") (hd.fA (hd.st 37)) (FuncBody.stmts (hd.fB (hd.st 37))) (hd.fS (hd.st 37)) 3 [] .none .none .none (hd.vs "postkeep.dates" 368) none (.ref 230) .none 0)) #[])
noncomputable def hd.o_278 (P : Params) : Obj := (Obj.mk (.type "tuple") none (Data.seq #[] 0) #[])
noncomputable def hd.o_279 (P : Params) : Obj := (Obj.mk .none none (Data.fields #[]) #[])
noncomputable def hd.o_280 (P : Params) : Obj := (Obj.mk (.type "tuple") none (Data.seq #[(hd.vs "number" 533), (hd.vs "width" 534), (hd.vs "figures" 535)] 0) #[])
noncomputable def hd.o_281 (P : Params) : Obj := (Obj.mk (.type "tuple") none (Data.seq #[] 0) #[])
noncomputable def hd.o_282 (P : Params) : Obj := (Obj.mk .none none (Data.func (FuncData.mk (Str.ofString "padded") (Str.ofString "padded") (hd.fA (hd.st 38)) (FuncBody.stmts (hd.fB (hd.st 38))) (hd.fS (hd.st 38)) 0 [] .none .none .none .none none .none .none 0)) #[])
noncomputable def hd.o_283 (P : Params) : Obj := (Obj.mk (.type "code") none (Data.fields #[(hd.vs "padded" 530), (hd.vs "padded" 531), (hd.vs "/claim/cut.py" 532), (.int 153 0), (.int 2 0), (.int 0 0), (.int 0 0), (.int 3 0), (.ref 232), (.bool true), (.int 181 0), (.ref 233), .none, (.ref 234), (.ref 235), (.ref 236), (.int 536 0), (.int 153 0), (hd.vs "/claim/cut.py" 537)]) #[])
noncomputable def hd.o_284 (P : Params) : Obj := (Obj.mk (.type "function") none (Data.func (FuncData.mk (Str.ofString "padded") (Str.ofString "padded") (hd.fA (hd.st 38)) (FuncBody.stmts (hd.fB (hd.st 38))) (hd.fS (hd.st 38)) 3 [] .none .none .none (hd.vs "postkeep.dates" 368) none (.ref 237) .none 0)) #[])
noncomputable def hd.o_285 (P : Params) : Obj := (Obj.mk (.type "tuple") none (Data.seq #[] 0) #[])
noncomputable def hd.o_286 (P : Params) : Obj := (Obj.mk .none none (Data.fields #[]) #[])
noncomputable def hd.o_287 (P : Params) : Obj := (Obj.mk (.type "tuple") none (Data.seq #[(hd.vs "zone" 542)] 0) #[])
noncomputable def hd.o_288 (P : Params) : Obj := (Obj.mk (.type "tuple") none (Data.seq #[] 0) #[])
noncomputable def hd.o_289 (P : Params) : Obj := (Obj.mk .none none (Data.func (FuncData.mk (Str.ofString "zone_text") (Str.ofString "zone_text") (hd.fA (hd.st 39)) (FuncBody.stmts (hd.fB (hd.st 39))) (hd.fS (hd.st 39)) 0 [] .none .none .none .none none .none .none 0)) #[])
noncomputable def hd.o_290 (P : Params) : Obj := (Obj.mk (.type "code") none (Data.fields #[(hd.vs "zone_text" 539), (hd.vs "zone_text" 540), (hd.vs "/claim/cut.py" 541), (.int 156 0), (.int 1 0), (.int 0 0), (.int 0 0), (.int 3 0), (.ref 239), (.bool true), (.int 181 0), (.ref 240), .none, (.ref 241), (.ref 242), (.ref 243), (.int 543 0), (.int 156 0), (hd.vs "/claim/cut.py" 544)]) #[])
noncomputable def hd.o_291 (P : Params) : Obj := (Obj.mk (.type "function") none (Data.func (FuncData.mk (Str.ofString "zone_text") (Str.ofString "zone_text") (hd.fA (hd.st 39)) (FuncBody.stmts (hd.fB (hd.st 39))) (hd.fS (hd.st 39)) 3 [] .none .none .none (hd.vs "postkeep.dates" 368) none (.ref 244) .none 0)) #[])
noncomputable def hd.o_292 (P : Params) : Obj := (Obj.mk (.type "tuple") none (Data.seq #[] 0) #[])
noncomputable def hd.o_293 (P : Params) : Obj := (Obj.mk .none none (Data.fields #[]) #[])
noncomputable def hd.o_294 (P : Params) : Obj := (Obj.mk .none none (Data.func (FuncData.mk (Str.ofString "clock_text") (Str.ofString "clock_text") (hd.fA (hd.st 40)) (FuncBody.stmts (hd.fB (hd.st 40))) (hd.fS (hd.st 40)) 0 [] .none .none .none .none none .none .none 0)) #[])
noncomputable def hd.o_295 (P : Params) : Obj := (Obj.mk (.type "code") none (Data.fields #[(hd.vs "clock_text" 546), (hd.vs "clock_text" 547), (hd.vs "/claim/cut.py" 548), (.int 158 0), (.int 1 0), (.int 0 0), (.int 0 0), (.int 3 0), (.ref 246), (.bool true), (.int 181 0), (.ref 247), .none, .none, .none, (.ref 248), (.int 549 0), (.int 158 0), (hd.vs "/claim/cut.py" 550)]) #[])
noncomputable def hd.o_296 (P : Params) : Obj := (Obj.mk (.type "function") none (Data.func (FuncData.mk (Str.ofString "clock_text") (Str.ofString "clock_text") (hd.fA (hd.st 40)) (FuncBody.stmts (hd.fB (hd.st 40))) (hd.fS (hd.st 40)) 3 [] .none .none .none (hd.vs "postkeep.dates" 368) none (.ref 249) .none 0)) #[])
noncomputable def hd.o_297 (P : Params) : Obj := (Obj.mk (.type "tuple") none (Data.seq #[] 0) #[])
noncomputable def hd.o_298 (P : Params) : Obj := (Obj.mk .none none (Data.fields #[]) #[])
noncomputable def hd.o_299 (P : Params) : Obj := (Obj.mk .none none (Data.func (FuncData.mk (Str.ofString "is_figures") (Str.ofString "is_figures") (hd.fA (hd.st 41)) (FuncBody.stmts (hd.fB (hd.st 41))) (hd.fS (hd.st 5)) 0 [] .none .none .none .none none .none .none 0)) #[])
noncomputable def hd.o_300 (P : Params) : Obj := (Obj.mk (.type "code") none (Data.fields #[(hd.vs "is_figures" 552), (hd.vs "is_figures" 553), (hd.vs "/claim/cut.py" 554), (.int 161 0), (.int 1 0), (.int 0 0), (.int 0 0), (.int 3 0), (.ref 251), (.bool true), (.int 181 0), (.ref 252), .none, .none, .none, (.ref 253), (.int 555 0), (.int 161 0), (hd.vs "/claim/cut.py" 556)]) #[])
noncomputable def hd.o_301 (P : Params) : Obj := (Obj.mk (.type "function") none (Data.func (FuncData.mk (Str.ofString "is_figures") (Str.ofString "is_figures") (hd.fA (hd.st 41)) (FuncBody.stmts (hd.fB (hd.st 41))) (hd.fS (hd.st 5)) 3 [] .none .none .none (hd.vs "postkeep.dates" 368) none (.ref 254) .none 0)) #[])
noncomputable def hd.o_302 (P : Params) : Obj := (Obj.mk (.type "tuple") none (Data.seq #[] 0) #[])
noncomputable def hd.o_303 (P : Params) : Obj := (Obj.mk .none none (Data.fields #[]) #[])
noncomputable def hd.o_304 (P : Params) : Obj := (Obj.mk (.type "tuple") none (Data.seq #[(hd.vs "text" 561), (hd.vs "minutes" 562)] 0) #[])
noncomputable def hd.o_305 (P : Params) : Obj := (Obj.mk (.type "tuple") none (Data.seq #[] 0) #[])
noncomputable def hd.o_306 (P : Params) : Obj := (Obj.mk .none none (Data.func (FuncData.mk (Str.ofString "zone_in") (Str.ofString "zone_in") (hd.fA (hd.st 42)) (FuncBody.stmts (hd.fB (hd.st 42))) (hd.fS (hd.st 42)) 0 [] .none .none .none .none none .none .none 0)) #[])
noncomputable def hd.o_307 (P : Params) : Obj := (Obj.mk (.type "code") none (Data.fields #[(hd.vs "zone_in" 558), (hd.vs "zone_in" 559), (hd.vs "/claim/cut.py" 560), (.int 163 0), (.int 1 0), (.int 0 0), (.int 0 0), (.int 3 0), (.ref 256), (.bool true), (.int 181 0), (.ref 257), .none, (.ref 258), (.ref 259), (.ref 260), (.int 563 0), (.int 163 0), (hd.vs "/claim/cut.py" 564)]) #[])
noncomputable def hd.o_308 (P : Params) : Obj := (Obj.mk (.type "function") none (Data.func (FuncData.mk (Str.ofString "zone_in") (Str.ofString "zone_in") (hd.fA (hd.st 42)) (FuncBody.stmts (hd.fB (hd.st 42))) (hd.fS (hd.st 42)) 3 [] .none .none .none (hd.vs "postkeep.dates" 368) none (.ref 261) .none 0)) #[])
noncomputable def hd.o_309 (P : Params) : Obj := (Obj.mk (.type "tuple") none (Data.seq #[] 0) #[])
noncomputable def hd.o_310 (P : Params) : Obj := (Obj.mk .none none (Data.fields #[]) #[])
noncomputable def hd.o_311 (P : Params) : Obj := (Obj.mk .none none (Data.func (FuncData.mk (Str.ofString "named_zone") (Str.ofString "named_zone") (hd.fA (hd.st 43)) (FuncBody.stmts (hd.fB (hd.st 43))) (hd.fS (hd.st 43)) 0 [] .none .none .none .none none .none .none 0)) #[])
noncomputable def hd.o_312 (P : Params) : Obj := (Obj.mk (.type "code") none (Data.fields #[(hd.vs "named_zone" 566), (hd.vs "named_zone" 567), (hd.vs "/claim/cut.py" 568), (.int 168 0), (.int 1 0), (.int 0 0), (.int 0 0), (.int 3 0), (.ref 263), (.bool true), (.int 181 0), (.ref 264), .none, .none, .none, (.ref 265), (.int 569 0), (.int 168 0), (hd.vs "/claim/cut.py" 570)]) #[])
noncomputable def hd.o_313 (P : Params) : Obj := (Obj.mk (.type "function") none (Data.func (FuncData.mk (Str.ofString "named_zone") (Str.ofString "named_zone") (hd.fA (hd.st 43)) (FuncBody.stmts (hd.fB (hd.st 43))) (hd.fS (hd.st 43)) 3 [] .none .none .none (hd.vs "postkeep.dates" 368) none (.ref 266) .none 0)) #[])
noncomputable def hd.o_314 (P : Params) : Obj := (Obj.mk (.type "dict") none (Data.dict #[(hd.en P "__name__" 165 (hd.vs "postkeep.dates" 368)), (hd.en P "__doc__" 166 .none), (hd.en P "__package__" 167 .none), (hd.en P "__loader__" 168 (Value.builtin "__main__.__loader__#opaque")), (hd.en P "__spec__" 169 .none), (hd.en P "__annotations__" 170 (.ref 6)), (hd.en P "__builtins__" 171 (.ref 4)), (hd.en P "__file__" 173 (hd.vs "/claim/cut.py" 172)), (hd.en P "__cached__" 174 .none), (hd.en P "PostError" 228 (.ref 39)), (hd.en P "WordFault" 244 (.ref 52)), (hd.en P "lower_code" 253 (.ref 61)), (hd.en P "lower_text" 259 (.ref 66)), (hd.en P "MOST_DEPTH" 263 (.int 20 262)), (hd.en P "SIGNS" 265 (Value.bytes #[60, 62, 64, 44, 59, 58, 46, 92] 264)), (hd.en P "ATOM_SIGNS" 267 (Value.bytes #[33, 35, 36, 37, 38, 39, 42, 43, 45, 47, 61, 63, 94, 95, 96, 123, 124, 125, 126] 266)), (hd.en P "NEVER_ESCAPED" 271 (.ref 67)), (hd.en P "is_atom_code" 278 (.ref 74)), (hd.en P "line_end" 286 (.ref 81)), (hd.en P "inside_at" 296 (.ref 88)), (hd.en P "closed_at" 309 (.ref 95)), (hd.en P "comment_at" 322 (.ref 102)), (hd.en P "atom_at" 331 (.ref 109)), (hd.en P "token_at" 342 (.ref 116)), (hd.en P "past_white" 351 (.ref 123)), (hd.en P "tokens_of" 361 (.ref 130)), (hd.en P "without_comments" 367 (.ref 135)), (hd.en P "MONTHS" 382 (.ref 136)), (hd.en P "DAYS" 390 (.ref 137)), (hd.en P "MOST_YEAR" 392 (.int 9999 391)), (hd.en P "MOST_ZONE" 398 (.int 5999 397)), (hd.en P "FIRST_DAY" 400 (.int 719162 399)), (hd.en P "Moment" 448 (.ref 161)), (hd.en P "is_leap" 455 (.ref 172)), (hd.en P "month_length" 463 (.ref 179)), (hd.en P "days_before_year" 471 (.ref 186)), (hd.en P "day_number" 482 (.ref 193)), (hd.en P "weekday" 491 (.ref 200)), (hd.en P "is_day" 500 (.ref 207)), (hd.en P "is_time" 509 (.ref 214)), (hd.en P "check_moment" 517 (.ref 221)), (hd.en P "month_number" 523 (.ref 226)), (hd.en P "is_day_name" 529 (.ref 231)), (hd.en P "padded" 538 (.ref 238)), (hd.en P "zone_text" 545 (.ref 245)), (hd.en P "clock_text" 551 (.ref 250)), (hd.en P "is_figures" 557 (.ref 255)), (hd.en P "zone_in" 565 (.ref 262)), (hd.en P "named_zone" 571 (.ref 267)), (hd.en P "DateReader" 642 (.ref 317))] 50) #[])
noncomputable def hd.o_315 (P : Params) : Obj := (Obj.mk .none none (Data.fields #[(.int 2 0), (.int 0 0), (.ref 20), (.int 11 0), (.int 0 0), (.ref 48), (.int 14 0), (.int 0 0), (.ref 60), (.int 16 0), (.int 0 0), (.ref 65), (.int 23 0), (.int 0 0), (.ref 73), (.int 25 0), (.int 0 0), (.ref 80), (.int 29 0), (.int 0 0), (.ref 87), (.int 42 0), (.int 0 0), (.ref 94), (.int 51 0), (.int 0 0), (.ref 101), (.int 66 0), (.int 0 0), (.ref 108), (.int 71 0), (.int 0 0), (.ref 115), (.int 88 0), (.int 0 0), (.ref 122), (.int 95 0), (.int 0 0), (.ref 129), (.int 103 0), (.int 0 0), (.ref 134), (.int 111 0), (.int 0 0), (.ref 143), (.int 124 0), (.int 0 0), (.ref 171), (.int 126 0), (.int 0 0), (.ref 178), (.int 130 0), (.int 0 0), (.ref 185), (.int 133 0), (.int 0 0), (.ref 192), (.int 138 0), (.int 0 0), (.ref 199), (.int 140 0), (.int 0 0), (.ref 206), (.int 142 0), (.int 0 0), (.ref 213), (.int 144 0), (.int 0 0), (.ref 220), (.int 148 0), (.int 0 0), (.ref 225), (.int 151 0), (.int 0 0), (.ref 230), (.int 153 0), (.int 0 0), (.ref 237), (.int 156 0), (.int 0 0), (.ref 244), (.int 158 0), (.int 0 0), (.ref 249), (.int 161 0), (.int 0 0), (.ref 254), (.int 163 0), (.int 0 0), (.ref 261), (.int 168 0), (.int 0 0), (.ref 266), (.int 173 0), (.int 0 0), (.ref 273)]) #[])
noncomputable def hd.o_316 (P : Params) : Obj := (Obj.mk (.type "tuple") none (Data.seq #[] 0) #[])
noncomputable def hd.o_317 (P : Params) : Obj := (Obj.mk (.type "builtin_function_or_method") none (Data.fields #[(Value.builtin "type.__prepare__"), (.type "type")]) #[])
noncomputable def hd.o_318 (P : Params) : Obj := (Obj.mk (.type "dict") none (Data.dict #[(hd.en P "__module__" 579 (hd.vs "postkeep.dates" 368)), (hd.en P "__qualname__" 581 (hd.vs "DateReader" 580)), (hd.en P "__firstlineno__" 583 (.int 173 582)), (hd.en P "__init__" 591 (.ref 281)), (hd.en P "place" 598 (.ref 288)), (hd.en P "atom" 604 (.ref 293)), (hd.en P "skip" 612 (.ref 300)), (hd.en P "number" 622 (.ref 307)), (hd.en P "need" 631 (.ref 314)), (hd.en P "__static_attributes__" 635 (.ref 315))] 10) #[])
noncomputable def hd.o_319 (P : Params) : Obj := (Obj.mk (.type "tuple") none (Data.seq #[] 0) #[])
noncomputable def hd.o_320 (P : Params) : Obj := (Obj.mk .none none (Data.fields #[(.int 175 0), (.int 4 0), (.ref 280), (.int 180 0), (.int 4 0), (.ref 287), (.int 183 0), (.int 4 0), (.ref 292), (.int 188 0), (.int 4 0), (.ref 299), (.int 194 0), (.int 4 0), (.ref 306), (.int 201 0), (.int 4 0), (.ref 313)]) #[])
noncomputable def hd.o_321 (P : Params) : Obj := (Obj.mk (.type "code") none (Data.fields #[(hd.vs "DateReader" 574), (hd.vs "DateReader" 575), (hd.vs "/claim/cut.py" 576), (.int 173 0), (.int 0 0), (.int 0 0), (.int 0 0), (.int 0 0), (.ref 271), (.bool false), (.int 181 0), (.ref 272), .none, .none, .none, .none, (.int 577 0), (.int 173 0), (hd.vs "/claim/cut.py" 578)]) #[])
noncomputable def hd.o_322 (P : Params) : Obj := (Obj.mk (.type "frame") none Data.plain #[(some (.ref 273)), (some (.ref 3)), (some (.ref 270)), none, (some (hd.vs "postkeep.dates" 368)), none, (some (.ref 0))])
noncomputable def hd.o_323 (P : Params) : Obj := (Obj.mk (.type "tuple") none (Data.seq #[] 0) #[])
noncomputable def hd.o_324 (P : Params) : Obj := (Obj.mk .none none (Data.fields #[]) #[])
noncomputable def hd.o_325 (P : Params) : Obj := (Obj.mk (.type "tuple") none (Data.seq #[(hd.vs "self" 587), (hd.vs "octets" 588)] 0) #[])
noncomputable def hd.o_326 (P : Params) : Obj := (Obj.mk (.type "tuple") none (Data.seq #[] 0) #[])
noncomputable def hd.o_327 (P : Params) : Obj := (Obj.mk .none none (Data.func (FuncData.mk (Str.ofString "__init__") (Str.ofString "DateReader.__init__") (hd.fA (hd.me 44 0)) (FuncBody.stmts (hd.fB (hd.me 44 0))) (hd.fS (hd.me 44 0)) 0 [] .none .none .none .none none .none .none 0)) #[])
noncomputable def hd.o_328 (P : Params) : Obj := (Obj.mk (.type "code") none (Data.fields #[(hd.vs "__init__" 584), (hd.vs "DateReader.__init__" 585), (hd.vs "/claim/cut.py" 586), (.int 175 0), (.int 2 0), (.int 0 0), (.int 0 0), (.int 3 0), (.ref 275), (.bool true), (.int 181 0), (.ref 276), .none, (.ref 277), (.ref 278), (.ref 279), (.int 589 0), (.int 175 0), (hd.vs "/claim/cut.py" 590)]) #[])
noncomputable def hd.o_329 (P : Params) : Obj := (Obj.mk (.type "function") none (Data.func (FuncData.mk (Str.ofString "__init__") (Str.ofString "DateReader.__init__") (hd.fA (hd.me 44 0)) (FuncBody.stmts (hd.fB (hd.me 44 0))) (hd.fS (hd.me 44 0)) 3 [] .none .none .none (hd.vs "postkeep.dates" 368) none (.ref 280) .none 0)) #[])
noncomputable def hd.o_330 (P : Params) : Obj := (Obj.mk (.type "tuple") none (Data.seq #[] 0) #[])
noncomputable def hd.o_331 (P : Params) : Obj := (Obj.mk .none none (Data.fields #[]) #[])
noncomputable def hd.o_332 (P : Params) : Obj := (Obj.mk (.type "tuple") none (Data.seq #[(hd.vs "self" 595)] 0) #[])
noncomputable def hd.o_333 (P : Params) : Obj := (Obj.mk (.type "tuple") none (Data.seq #[] 0) #[])
noncomputable def hd.o_334 (P : Params) : Obj := (Obj.mk .none none (Data.func (FuncData.mk (Str.ofString "place") (Str.ofString "DateReader.place") (hd.fA (hd.me 44 1)) (FuncBody.stmts (hd.fB (hd.me 44 1))) (hd.fS (hd.me 44 1)) 0 [] .none .none .none .none none .none .none 0)) #[])
noncomputable def hd.o_335 (P : Params) : Obj := (Obj.mk (.type "code") none (Data.fields #[(hd.vs "place" 592), (hd.vs "DateReader.place" 593), (hd.vs "/claim/cut.py" 594), (.int 180 0), (.int 1 0), (.int 0 0), (.int 0 0), (.int 3 0), (.ref 282), (.bool true), (.int 181 0), (.ref 283), .none, (.ref 284), (.ref 285), (.ref 286), (.int 596 0), (.int 180 0), (hd.vs "/claim/cut.py" 597)]) #[])
noncomputable def hd.o_336 (P : Params) : Obj := (Obj.mk (.type "function") none (Data.func (FuncData.mk (Str.ofString "place") (Str.ofString "DateReader.place") (hd.fA (hd.me 44 1)) (FuncBody.stmts (hd.fB (hd.me 44 1))) (hd.fS (hd.me 44 1)) 3 [] .none .none .none (hd.vs "postkeep.dates" 368) none (.ref 287) .none 0)) #[])
noncomputable def hd.o_337 (P : Params) : Obj := (Obj.mk (.type "tuple") none (Data.seq #[] 0) #[])
noncomputable def hd.o_338 (P : Params) : Obj := (Obj.mk .none none (Data.fields #[]) #[])
noncomputable def hd.o_339 (P : Params) : Obj := (Obj.mk .none none (Data.func (FuncData.mk (Str.ofString "atom") (Str.ofString "DateReader.atom") (hd.fA (hd.me 44 2)) (FuncBody.stmts (hd.fB (hd.me 44 2))) (hd.fS (hd.me 44 2)) 0 [] .none .none .none .none none .none .none 0)) #[])
noncomputable def hd.o_340 (P : Params) : Obj := (Obj.mk (.type "code") none (Data.fields #[(hd.vs "atom" 599), (hd.vs "DateReader.atom" 600), (hd.vs "/claim/cut.py" 601), (.int 183 0), (.int 1 0), (.int 0 0), (.int 0 0), (.int 3 0), (.ref 289), (.bool true), (.int 181 0), (.ref 290), .none, .none, .none, (.ref 291), (.int 602 0), (.int 183 0), (hd.vs "/claim/cut.py" 603)]) #[])
noncomputable def hd.o_341 (P : Params) : Obj := (Obj.mk (.type "function") none (Data.func (FuncData.mk (Str.ofString "atom") (Str.ofString "DateReader.atom") (hd.fA (hd.me 44 2)) (FuncBody.stmts (hd.fB (hd.me 44 2))) (hd.fS (hd.me 44 2)) 3 [] .none .none .none (hd.vs "postkeep.dates" 368) none (.ref 292) .none 0)) #[])
noncomputable def hd.o_342 (P : Params) : Obj := (Obj.mk (.type "tuple") none (Data.seq #[] 0) #[])
noncomputable def hd.o_343 (P : Params) : Obj := (Obj.mk .none none (Data.fields #[]) #[])
noncomputable def hd.o_344 (P : Params) : Obj := (Obj.mk (.type "tuple") none (Data.seq #[(hd.vs "self" 608), (hd.vs "sign" 609)] 0) #[])
noncomputable def hd.o_345 (P : Params) : Obj := (Obj.mk (.type "tuple") none (Data.seq #[] 0) #[])
noncomputable def hd.o_346 (P : Params) : Obj := (Obj.mk .none none (Data.func (FuncData.mk (Str.ofString "skip") (Str.ofString "DateReader.skip") (hd.fA (hd.me 44 3)) (FuncBody.stmts (hd.fB (hd.me 44 3))) (hd.fS (hd.me 44 3)) 0 [] .none .none .none .none none .none .none 0)) #[])
noncomputable def hd.o_347 (P : Params) : Obj := (Obj.mk (.type "code") none (Data.fields #[(hd.vs "skip" 605), (hd.vs "DateReader.skip" 606), (hd.vs "/claim/cut.py" 607), (.int 188 0), (.int 2 0), (.int 0 0), (.int 0 0), (.int 3 0), (.ref 294), (.bool true), (.int 181 0), (.ref 295), .none, (.ref 296), (.ref 297), (.ref 298), (.int 610 0), (.int 188 0), (hd.vs "/claim/cut.py" 611)]) #[])
noncomputable def hd.o_348 (P : Params) : Obj := (Obj.mk (.type "function") none (Data.func (FuncData.mk (Str.ofString "skip") (Str.ofString "DateReader.skip") (hd.fA (hd.me 44 3)) (FuncBody.stmts (hd.fB (hd.me 44 3))) (hd.fS (hd.me 44 3)) 3 [] .none .none .none (hd.vs "postkeep.dates" 368) none (.ref 299) .none 0)) #[])
noncomputable def hd.o_349 (P : Params) : Obj := (Obj.mk (.type "tuple") none (Data.seq #[] 0) #[])
noncomputable def hd.o_350 (P : Params) : Obj := (Obj.mk .none none (Data.fields #[]) #[])
noncomputable def hd.o_351 (P : Params) : Obj := (Obj.mk (.type "tuple") none (Data.seq #[(hd.vs "self" 616), (hd.vs "least_figures" 617), (hd.vs "most_figures" 618), (hd.vs "text" 619)] 0) #[])
noncomputable def hd.o_352 (P : Params) : Obj := (Obj.mk (.type "tuple") none (Data.seq #[] 0) #[])
noncomputable def hd.o_353 (P : Params) : Obj := (Obj.mk .none none (Data.func (FuncData.mk (Str.ofString "number") (Str.ofString "DateReader.number") (hd.fA (hd.me 44 4)) (FuncBody.stmts (hd.fB (hd.me 44 4))) (hd.fS (hd.me 44 4)) 0 [] .none .none .none .none none .none .none 0)) #[])
noncomputable def hd.o_354 (P : Params) : Obj := (Obj.mk (.type "code") none (Data.fields #[(hd.vs "number" 613), (hd.vs "DateReader.number" 614), (hd.vs "/claim/cut.py" 615), (.int 194 0), (.int 3 0), (.int 0 0), (.int 0 0), (.int 3 0), (.ref 301), (.bool true), (.int 181 0), (.ref 302), .none, (.ref 303), (.ref 304), (.ref 305), (.int 620 0), (.int 194 0), (hd.vs "/claim/cut.py" 621)]) #[])
noncomputable def hd.o_355 (P : Params) : Obj := (Obj.mk (.type "function") none (Data.func (FuncData.mk (Str.ofString "number") (Str.ofString "DateReader.number") (hd.fA (hd.me 44 4)) (FuncBody.stmts (hd.fB (hd.me 44 4))) (hd.fS (hd.me 44 4)) 3 [] .none .none .none (hd.vs "postkeep.dates" 368) none (.ref 306) .none 0)) #[])
noncomputable def hd.o_356 (P : Params) : Obj := (Obj.mk (.type "tuple") none (Data.seq #[] 0) #[])
noncomputable def hd.o_357 (P : Params) : Obj := (Obj.mk .none none (Data.fields #[]) #[])
noncomputable def hd.o_358 (P : Params) : Obj := (Obj.mk (.type "tuple") none (Data.seq #[(hd.vs "self" 626), (hd.vs "is_right" 627), (hd.vs "what" 628)] 0) #[])
noncomputable def hd.o_359 (P : Params) : Obj := (Obj.mk (.type "tuple") none (Data.seq #[] 0) #[])
noncomputable def hd.o_360 (P : Params) : Obj := (Obj.mk .none none (Data.func (FuncData.mk (Str.ofString "need") (Str.ofString "DateReader.need") (hd.fA (hd.me 44 5)) (FuncBody.stmts (hd.fB (hd.me 44 5))) (hd.fS (hd.me 44 5)) 0 [] .none .none .none .none none .none .none 0)) #[])
noncomputable def hd.o_361 (P : Params) : Obj := (Obj.mk (.type "code") none (Data.fields #[(hd.vs "need" 623), (hd.vs "DateReader.need" 624), (hd.vs "/claim/cut.py" 625), (.int 201 0), (.int 3 0), (.int 0 0), (.int 0 0), (.int 3 0), (.ref 308), (.bool true), (.int 181 0), (.ref 309), .none, (.ref 310), (.ref 311), (.ref 312), (.int 629 0), (.int 201 0), (hd.vs "/claim/cut.py" 630)]) #[])
noncomputable def hd.o_362 (P : Params) : Obj := (Obj.mk (.type "function") none (Data.func (FuncData.mk (Str.ofString "need") (Str.ofString "DateReader.need") (hd.fA (hd.me 44 5)) (FuncBody.stmts (hd.fB (hd.me 44 5))) (hd.fS (hd.me 44 5)) 3 [] .none .none .none (hd.vs "postkeep.dates" 368) none (.ref 313) .none 0)) #[])
noncomputable def hd.o_363 (P : Params) : Obj := (Obj.mk (.type "tuple") none (Data.seq #[(hd.vs "at" 632), (hd.vs "length" 633), (hd.vs "tokens" 634)] 0) #[])
noncomputable def hd.o_364 (P : Params) : Obj := (Obj.mk (.type "dict") none (Data.dict #[(hd.en P "__module__" 579 (hd.vs "postkeep.dates" 368)), (hd.en P "__firstlineno__" 583 (.int 173 582)), (hd.en P "__init__" 591 (.ref 281)), (hd.en P "place" 598 (.ref 288)), (hd.en P "atom" 604 (.ref 293)), (hd.en P "skip" 612 (.ref 300)), (hd.en P "number" 622 (.ref 307)), (hd.en P "need" 631 (.ref 314)), (hd.en P "__static_attributes__" 635 (.ref 315)), (hd.en P "__dict__" 637 (.ref 318)), (hd.en P "__weakref__" 639 (.ref 319)), (hd.en P "__doc__" 640 .none)] 4) #[])
noncomputable def hd.o_365 (P : Params) : Obj := (Obj.mk (.type "type") none (Data.cls (ClassData.mk (Str.ofString "DateReader") [(.type "object")] [(.ref 317), (.type "object")] 316 (Str.ofString "DateReader") true [] [] false none false)) #[none, none, (some (hd.vs "DateReader" 572)), (some (hd.vs "DateReader" 580)), (some (Value.builtin "object.__new__")), (some (.bool true))])
noncomputable def hd.o_366 (P : Params) : Obj := (Obj.mk (.type "getset_descriptor") none (Data.fields #[(hd.vs "__dict__" 636), (.ref 317), (Value.builtin "function.__dict__"), (Value.builtin "function.__dict__#set")]) #[])
noncomputable def hd.o_367 (P : Params) : Obj := (Obj.mk (.type "getset_descriptor") none (Data.fields #[(hd.vs "__weakref__" 638), (.ref 317), (Value.builtin "ExceptionGroup.__weakref__"), .none]) #[])
noncomputable def hd.o_368 (P : Params) : Obj := (Obj.mk (.type "super") none (Data.fields #[(.ref 317), (.ref 317), (.ref 317)]) #[])
noncomputable def hd.o_369 (P : Params) : Obj := (Obj.mk (.type "builtin_function_or_method") none (Data.fields #[(Value.builtin "object.__init_subclass__"), (.ref 317)]) #[])
noncomputable def hd.o_370 (P : Params) : Obj := (Obj.mk (.type "dict") none (Data.dict #[(hd.en P "__name__" 165 (hd.vs "law_or0057_01" 694)), (hd.en P "__doc__" 166 .none), (hd.en P "__package__" 167 .none), (hd.en P "__loader__" 168 (Value.builtin "__main__.__loader__#opaque")), (hd.en P "__spec__" 169 .none), (hd.en P "__annotations__" 170 (.ref 6)), (hd.en P "__builtins__" 171 (.ref 4)), (hd.en P "__file__" 173 (hd.vs "/claim/cut.py" 172)), (hd.en P "__cached__" 174 .none), (hd.en P "PostError" 228 (.ref 39)), (hd.en P "WordFault" 244 (.ref 52)), (hd.en P "lower_code" 253 (.ref 61)), (hd.en P "lower_text" 259 (.ref 66)), (hd.en P "MOST_DEPTH" 263 (.int 20 262)), (hd.en P "SIGNS" 265 (Value.bytes #[60, 62, 64, 44, 59, 58, 46, 92] 264)), (hd.en P "ATOM_SIGNS" 267 (Value.bytes #[33, 35, 36, 37, 38, 39, 42, 43, 45, 47, 61, 63, 94, 95, 96, 123, 124, 125, 126] 266)), (hd.en P "NEVER_ESCAPED" 271 (.ref 67)), (hd.en P "is_atom_code" 278 (.ref 74)), (hd.en P "line_end" 286 (.ref 81)), (hd.en P "inside_at" 296 (.ref 88)), (hd.en P "closed_at" 309 (.ref 95)), (hd.en P "comment_at" 322 (.ref 102)), (hd.en P "atom_at" 331 (.ref 109)), (hd.en P "token_at" 342 (.ref 116)), (hd.en P "past_white" 351 (.ref 123)), (hd.en P "tokens_of" 361 (.ref 130)), (hd.en P "without_comments" 367 (.ref 135)), (hd.en P "MONTHS" 382 (.ref 136)), (hd.en P "DAYS" 390 (.ref 137)), (hd.en P "MOST_YEAR" 392 (.int 9999 391)), (hd.en P "MOST_ZONE" 398 (.int 5999 397)), (hd.en P "FIRST_DAY" 400 (.int 719162 399)), (hd.en P "Moment" 448 (.ref 161)), (hd.en P "is_leap" 455 (.ref 172)), (hd.en P "month_length" 463 (.ref 179)), (hd.en P "days_before_year" 471 (.ref 186)), (hd.en P "day_number" 482 (.ref 193)), (hd.en P "weekday" 491 (.ref 200)), (hd.en P "is_day" 500 (.ref 207)), (hd.en P "is_time" 509 (.ref 214)), (hd.en P "check_moment" 517 (.ref 221)), (hd.en P "month_number" 523 (.ref 226)), (hd.en P "is_day_name" 529 (.ref 231)), (hd.en P "padded" 538 (.ref 238)), (hd.en P "zone_text" 545 (.ref 245)), (hd.en P "clock_text" 551 (.ref 250)), (hd.en P "is_figures" 557 (.ref 255)), (hd.en P "zone_in" 565 (.ref 262)), (hd.en P "named_zone" 571 (.ref 267)), (hd.en P "DateReader" 642 (.ref 317)), (hd.en P "full_year" 650 (.ref 328)), (hd.en P "read_clock" 660 (.ref 335)), (hd.en P "read_zone" 669 (.ref 342)), (hd.en P "read_date" 687 (.ref 349)), (hd.en P "write_date" 693 (.ref 354)), (hd.en P "_law_box" 701 (.ref 359)), (hd.en P "_law_draw" 711 (.ref 366)), (hd.en P "_law_year" 719 (.ref 373)), (hd.en P "_law_days" 727 (.ref 380)), (hd.en P "law" 733 (.ref 385))] 60) #[])
noncomputable def hd.o_371 (P : Params) : Obj := (Obj.mk .none none (Data.fields #[(.int 2 0), (.int 0 0), (.ref 20), (.int 11 0), (.int 0 0), (.ref 48), (.int 14 0), (.int 0 0), (.ref 60), (.int 16 0), (.int 0 0), (.ref 65), (.int 23 0), (.int 0 0), (.ref 73), (.int 25 0), (.int 0 0), (.ref 80), (.int 29 0), (.int 0 0), (.ref 87), (.int 42 0), (.int 0 0), (.ref 94), (.int 51 0), (.int 0 0), (.ref 101), (.int 66 0), (.int 0 0), (.ref 108), (.int 71 0), (.int 0 0), (.ref 115), (.int 88 0), (.int 0 0), (.ref 122), (.int 95 0), (.int 0 0), (.ref 129), (.int 103 0), (.int 0 0), (.ref 134), (.int 111 0), (.int 0 0), (.ref 143), (.int 124 0), (.int 0 0), (.ref 171), (.int 126 0), (.int 0 0), (.ref 178), (.int 130 0), (.int 0 0), (.ref 185), (.int 133 0), (.int 0 0), (.ref 192), (.int 138 0), (.int 0 0), (.ref 199), (.int 140 0), (.int 0 0), (.ref 206), (.int 142 0), (.int 0 0), (.ref 213), (.int 144 0), (.int 0 0), (.ref 220), (.int 148 0), (.int 0 0), (.ref 225), (.int 151 0), (.int 0 0), (.ref 230), (.int 153 0), (.int 0 0), (.ref 237), (.int 156 0), (.int 0 0), (.ref 244), (.int 158 0), (.int 0 0), (.ref 249), (.int 161 0), (.int 0 0), (.ref 254), (.int 163 0), (.int 0 0), (.ref 261), (.int 168 0), (.int 0 0), (.ref 266), (.int 173 0), (.int 0 0), (.ref 273), (.int 205 0), (.int 0 0), (.ref 327), (.int 209 0), (.int 0 0), (.ref 334), (.int 216 0), (.int 0 0), (.ref 341), (.int 223 0), (.int 0 0), (.ref 348), (.int 244 0), (.int 0 0), (.ref 353), (.int 250 0), (.int 0 0), (.ref 358), (.int 259 0), (.int 0 0), (.ref 365), (.int 270 0), (.int 0 0), (.ref 372), (.int 279 0), (.int 0 0), (.ref 379), (.int 283 0), (.int 0 0), (.ref 384)]) #[])
noncomputable def hd.o_372 (P : Params) : Obj := (Obj.mk (.type "tuple") none (Data.seq #[] 0) #[])
noncomputable def hd.o_373 (P : Params) : Obj := (Obj.mk .none none (Data.fields #[]) #[])
noncomputable def hd.o_374 (P : Params) : Obj := (Obj.mk (.type "tuple") none (Data.seq #[(hd.vs "number" 646), (hd.vs "figures" 647)] 0) #[])
noncomputable def hd.o_375 (P : Params) : Obj := (Obj.mk (.type "tuple") none (Data.seq #[] 0) #[])
noncomputable def hd.o_376 (P : Params) : Obj := (Obj.mk .none none (Data.func (FuncData.mk (Str.ofString "full_year") (Str.ofString "full_year") (hd.fA (hd.st 45)) (FuncBody.stmts (hd.fB (hd.st 45))) (hd.fS (hd.st 45)) 0 [] .none .none .none .none none .none .none 0)) #[])
noncomputable def hd.o_377 (P : Params) : Obj := (Obj.mk (.type "code") none (Data.fields #[(hd.vs "full_year" 643), (hd.vs "full_year" 644), (hd.vs "/claim/cut.py" 645), (.int 205 0), (.int 2 0), (.int 0 0), (.int 0 0), (.int 3 0), (.ref 322), (.bool true), (.int 181 0), (.ref 323), .none, (.ref 324), (.ref 325), (.ref 326), (.int 648 0), (.int 205 0), (hd.vs "/claim/cut.py" 649)]) #[])
noncomputable def hd.o_378 (P : Params) : Obj := (Obj.mk (.type "function") none (Data.func (FuncData.mk (Str.ofString "full_year") (Str.ofString "full_year") (hd.fA (hd.st 45)) (FuncBody.stmts (hd.fB (hd.st 45))) (hd.fS (hd.st 45)) 3 [] .none .none .none (hd.vs "postkeep.dates" 368) none (.ref 327) .none 0)) #[])
noncomputable def hd.o_379 (P : Params) : Obj := (Obj.mk (.type "tuple") none (Data.seq #[] 0) #[])
noncomputable def hd.o_380 (P : Params) : Obj := (Obj.mk .none none (Data.fields #[]) #[])
noncomputable def hd.o_381 (P : Params) : Obj := (Obj.mk (.type "tuple") none (Data.seq #[(hd.vs "reader" 654), (hd.vs "hour" 655), (hd.vs "minute" 656), (hd.vs "second" 657)] 0) #[])
noncomputable def hd.o_382 (P : Params) : Obj := (Obj.mk (.type "tuple") none (Data.seq #[] 0) #[])
noncomputable def hd.o_383 (P : Params) : Obj := (Obj.mk .none none (Data.func (FuncData.mk (Str.ofString "read_clock") (Str.ofString "read_clock") (hd.fA (hd.st 46)) (FuncBody.stmts (hd.fB (hd.st 46))) (hd.fS (hd.st 46)) 0 [] .none .none .none .none none .none .none 0)) #[])
noncomputable def hd.o_384 (P : Params) : Obj := (Obj.mk (.type "code") none (Data.fields #[(hd.vs "read_clock" 651), (hd.vs "read_clock" 652), (hd.vs "/claim/cut.py" 653), (.int 209 0), (.int 1 0), (.int 0 0), (.int 0 0), (.int 3 0), (.ref 329), (.bool true), (.int 181 0), (.ref 330), .none, (.ref 331), (.ref 332), (.ref 333), (.int 658 0), (.int 209 0), (hd.vs "/claim/cut.py" 659)]) #[])
noncomputable def hd.o_385 (P : Params) : Obj := (Obj.mk (.type "function") none (Data.func (FuncData.mk (Str.ofString "read_clock") (Str.ofString "read_clock") (hd.fA (hd.st 46)) (FuncBody.stmts (hd.fB (hd.st 46))) (hd.fS (hd.st 46)) 3 [] .none .none .none (hd.vs "postkeep.dates" 368) none (.ref 334) .none 0)) #[])
noncomputable def hd.o_386 (P : Params) : Obj := (Obj.mk (.type "tuple") none (Data.seq #[] 0) #[])
noncomputable def hd.o_387 (P : Params) : Obj := (Obj.mk .none none (Data.fields #[]) #[])
noncomputable def hd.o_388 (P : Params) : Obj := (Obj.mk (.type "tuple") none (Data.seq #[(hd.vs "reader" 664), (hd.vs "text" 665), (hd.vs "zone" 666)] 0) #[])
noncomputable def hd.o_389 (P : Params) : Obj := (Obj.mk (.type "tuple") none (Data.seq #[] 0) #[])
noncomputable def hd.o_390 (P : Params) : Obj := (Obj.mk .none none (Data.func (FuncData.mk (Str.ofString "read_zone") (Str.ofString "read_zone") (hd.fA (hd.st 47)) (FuncBody.stmts (hd.fB (hd.st 47))) (hd.fS (hd.st 47)) 0 [] .none .none .none .none none .none .none 0)) #[])
noncomputable def hd.o_391 (P : Params) : Obj := (Obj.mk (.type "code") none (Data.fields #[(hd.vs "read_zone" 661), (hd.vs "read_zone" 662), (hd.vs "/claim/cut.py" 663), (.int 216 0), (.int 1 0), (.int 0 0), (.int 0 0), (.int 3 0), (.ref 336), (.bool true), (.int 181 0), (.ref 337), .none, (.ref 338), (.ref 339), (.ref 340), (.int 667 0), (.int 216 0), (hd.vs "/claim/cut.py" 668)]) #[])
noncomputable def hd.o_392 (P : Params) : Obj := (Obj.mk (.type "function") none (Data.func (FuncData.mk (Str.ofString "read_zone") (Str.ofString "read_zone") (hd.fA (hd.st 47)) (FuncBody.stmts (hd.fB (hd.st 47))) (hd.fS (hd.st 47)) 3 [] .none .none .none (hd.vs "postkeep.dates" 368) none (.ref 341) .none 0)) #[])
noncomputable def hd.o_393 (P : Params) : Obj := (Obj.mk (.type "tuple") none (Data.seq #[] 0) #[])
noncomputable def hd.o_394 (P : Params) : Obj := (Obj.mk .none none (Data.fields #[]) #[])
noncomputable def hd.o_395 (P : Params) : Obj := (Obj.mk (.type "tuple") none (Data.seq #[(hd.vs "octets" 673), (hd.vs "reader" 674), (hd.vs "begun" 675), (hd.vs "day" 676), (hd.vs "month" 677), (hd.vs "number" 678), (hd.vs "figures" 679), (hd.vs "year" 680), (hd.vs "hour" 681), (hd.vs "minute" 682), (hd.vs "second" 683), (hd.vs "zone" 684)] 0) #[])
noncomputable def hd.o_396 (P : Params) : Obj := (Obj.mk (.type "tuple") none (Data.seq #[] 0) #[])
noncomputable def hd.o_397 (P : Params) : Obj := (Obj.mk .none none (Data.func (FuncData.mk (Str.ofString "read_date") (Str.ofString "read_date") (hd.fA (hd.st 48)) (FuncBody.stmts (hd.fB (hd.st 48))) (hd.fS (hd.st 48)) 0 [] .none .none .none .none none .none .none 0)) #[])
noncomputable def hd.o_398 (P : Params) : Obj := (Obj.mk (.type "code") none (Data.fields #[(hd.vs "read_date" 670), (hd.vs "read_date" 671), (hd.vs "/claim/cut.py" 672), (.int 223 0), (.int 1 0), (.int 0 0), (.int 0 0), (.int 3 0), (.ref 343), (.bool true), (.int 181 0), (.ref 344), .none, (.ref 345), (.ref 346), (.ref 347), (.int 685 0), (.int 223 0), (hd.vs "/claim/cut.py" 686)]) #[])
noncomputable def hd.o_399 (P : Params) : Obj := (Obj.mk (.type "function") none (Data.func (FuncData.mk (Str.ofString "read_date") (Str.ofString "read_date") (hd.fA (hd.st 48)) (FuncBody.stmts (hd.fB (hd.st 48))) (hd.fS (hd.st 48)) 3 [] .none .none .none (hd.vs "postkeep.dates" 368) none (.ref 348) .none 0)) #[])
noncomputable def hd.o_400 (P : Params) : Obj := (Obj.mk (.type "tuple") none (Data.seq #[] 0) #[])
noncomputable def hd.o_401 (P : Params) : Obj := (Obj.mk .none none (Data.fields #[]) #[])
noncomputable def hd.o_402 (P : Params) : Obj := (Obj.mk .none none (Data.func (FuncData.mk (Str.ofString "write_date") (Str.ofString "write_date") (hd.fA (hd.st 49)) (FuncBody.stmts (hd.fB (hd.st 49))) (hd.fS (hd.st 49)) 0 [] .none .none .none .none none .none .none 0)) #[])
noncomputable def hd.o_403 (P : Params) : Obj := (Obj.mk (.type "code") none (Data.fields #[(hd.vs "write_date" 688), (hd.vs "write_date" 689), (hd.vs "/claim/cut.py" 690), (.int 244 0), (.int 1 0), (.int 0 0), (.int 0 0), (.int 3 0), (.ref 350), (.bool true), (.int 181 0), (.ref 351), .none, .none, .none, (.ref 352), (.int 691 0), (.int 244 0), (hd.vs "/claim/cut.py" 692)]) #[])
noncomputable def hd.o_404 (P : Params) : Obj := (Obj.mk (.type "function") none (Data.func (FuncData.mk (Str.ofString "write_date") (Str.ofString "write_date") (hd.fA (hd.st 49)) (FuncBody.stmts (hd.fB (hd.st 49))) (hd.fS (hd.st 49)) 3 [] .none .none .none (hd.vs "postkeep.dates" 368) none (.ref 353) .none 0)) #[])
noncomputable def hd.o_405 (P : Params) : Obj := (Obj.mk (.type "tuple") none (Data.seq #[] 0) #[])
noncomputable def hd.o_406 (P : Params) : Obj := (Obj.mk .none none (Data.fields #[]) #[])
noncomputable def hd.o_407 (P : Params) : Obj := (Obj.mk .none none (Data.func (FuncData.mk (Str.ofString "_law_box") (Str.ofString "_law_box") (hd.fA (hd.st 51)) (FuncBody.stmts (hd.fB (hd.st 51))) (hd.fS (hd.st 51)) 0 [] .none .none .none .none none .none .none 0)) #[])
noncomputable def hd.o_408 (P : Params) : Obj := (Obj.mk (.type "code") none (Data.fields #[(hd.vs "_law_box" 696), (hd.vs "_law_box" 697), (hd.vs "/claim/cut.py" 698), (.int 250 0), (.int 1 0), (.int 0 0), (.int 0 0), (.int 3 0), (.ref 355), (.bool true), (.int 181 0), (.ref 356), .none, .none, .none, (.ref 357), (.int 699 0), (.int 250 0), (hd.vs "/claim/cut.py" 700)]) #[])
noncomputable def hd.o_409 (P : Params) : Obj := (Obj.mk (.type "function") none (Data.func (FuncData.mk (Str.ofString "_law_box") (Str.ofString "_law_box") (hd.fA (hd.st 51)) (FuncBody.stmts (hd.fB (hd.st 51))) (hd.fS (hd.st 51)) 3 [] .none .none .none (hd.vs "law_or0057_01" 694) none (.ref 358) .none 0)) #[])
noncomputable def hd.o_410 (P : Params) : Obj := (Obj.mk (.type "tuple") none (Data.seq #[] 0) #[])
noncomputable def hd.o_411 (P : Params) : Obj := (Obj.mk .none none (Data.fields #[]) #[])
noncomputable def hd.o_412 (P : Params) : Obj := (Obj.mk (.type "tuple") none (Data.seq #[(hd.vs "pool" 705), (hd.vs "most" 706), (hd.vs "place" 707), (hd.vs "digit" 708)] 0) #[])
noncomputable def hd.o_413 (P : Params) : Obj := (Obj.mk (.type "tuple") none (Data.seq #[] 0) #[])
noncomputable def hd.o_414 (P : Params) : Obj := (Obj.mk .none none (Data.func (FuncData.mk (Str.ofString "_law_draw") (Str.ofString "_law_draw") (hd.fA (hd.st 52)) (FuncBody.stmts (hd.fB (hd.st 52))) (hd.fS (hd.st 52)) 0 [] .none .none .none .none none .none .none 0)) #[])
noncomputable def hd.o_415 (P : Params) : Obj := (Obj.mk (.type "code") none (Data.fields #[(hd.vs "_law_draw" 702), (hd.vs "_law_draw" 703), (hd.vs "/claim/cut.py" 704), (.int 259 0), (.int 2 0), (.int 0 0), (.int 0 0), (.int 3 0), (.ref 360), (.bool true), (.int 181 0), (.ref 361), .none, (.ref 362), (.ref 363), (.ref 364), (.int 709 0), (.int 259 0), (hd.vs "/claim/cut.py" 710)]) #[])
noncomputable def hd.o_416 (P : Params) : Obj := (Obj.mk (.type "function") none (Data.func (FuncData.mk (Str.ofString "_law_draw") (Str.ofString "_law_draw") (hd.fA (hd.st 52)) (FuncBody.stmts (hd.fB (hd.st 52))) (hd.fS (hd.st 52)) 3 [] .none .none .none (hd.vs "law_or0057_01" 694) none (.ref 365) .none 0)) #[])
noncomputable def hd.o_417 (P : Params) : Obj := (Obj.mk (.type "tuple") none (Data.seq #[] 0) #[])
noncomputable def hd.o_418 (P : Params) : Obj := (Obj.mk .none none (Data.fields #[]) #[])
noncomputable def hd.o_419 (P : Params) : Obj := (Obj.mk (.type "tuple") none (Data.seq #[(hd.vs "figures" 715), (hd.vs "number" 716)] 0) #[])
noncomputable def hd.o_420 (P : Params) : Obj := (Obj.mk (.type "tuple") none (Data.seq #[] 0) #[])
noncomputable def hd.o_421 (P : Params) : Obj := (Obj.mk .none none (Data.func (FuncData.mk (Str.ofString "_law_year") (Str.ofString "_law_year") (hd.fA (hd.st 53)) (FuncBody.stmts (hd.fB (hd.st 53))) (hd.fS (hd.st 53)) 0 [] .none .none .none .none none .none .none 0)) #[])
noncomputable def hd.o_422 (P : Params) : Obj := (Obj.mk (.type "code") none (Data.fields #[(hd.vs "_law_year" 712), (hd.vs "_law_year" 713), (hd.vs "/claim/cut.py" 714), (.int 270 0), (.int 1 0), (.int 0 0), (.int 0 0), (.int 3 0), (.ref 367), (.bool true), (.int 181 0), (.ref 368), .none, (.ref 369), (.ref 370), (.ref 371), (.int 717 0), (.int 270 0), (hd.vs "/claim/cut.py" 718)]) #[])
noncomputable def hd.o_423 (P : Params) : Obj := (Obj.mk (.type "function") none (Data.func (FuncData.mk (Str.ofString "_law_year") (Str.ofString "_law_year") (hd.fA (hd.st 53)) (FuncBody.stmts (hd.fB (hd.st 53))) (hd.fS (hd.st 53)) 3 [] .none .none .none (hd.vs "law_or0057_01" 694) none (.ref 372) .none 0)) #[])
noncomputable def hd.o_424 (P : Params) : Obj := (Obj.mk (.type "tuple") none (Data.seq #[] 0) #[])
noncomputable def hd.o_425 (P : Params) : Obj := (Obj.mk .none none (Data.fields #[]) #[])
noncomputable def hd.o_426 (P : Params) : Obj := (Obj.mk (.type "tuple") none (Data.seq #[(hd.vs "year" 723), (hd.vs "month" 724)] 0) #[])
noncomputable def hd.o_427 (P : Params) : Obj := (Obj.mk (.type "tuple") none (Data.seq #[] 0) #[])
noncomputable def hd.o_428 (P : Params) : Obj := (Obj.mk .none none (Data.func (FuncData.mk (Str.ofString "_law_days") (Str.ofString "_law_days") (hd.fA (hd.st 54)) (FuncBody.stmts (hd.fB (hd.st 54))) (hd.fS (hd.st 54)) 0 [] .none .none .none .none none .none .none 0)) #[])
noncomputable def hd.o_429 (P : Params) : Obj := (Obj.mk (.type "code") none (Data.fields #[(hd.vs "_law_days" 720), (hd.vs "_law_days" 721), (hd.vs "/claim/cut.py" 722), (.int 279 0), (.int 2 0), (.int 0 0), (.int 0 0), (.int 3 0), (.ref 374), (.bool true), (.int 181 0), (.ref 375), .none, (.ref 376), (.ref 377), (.ref 378), (.int 725 0), (.int 279 0), (hd.vs "/claim/cut.py" 726)]) #[])
noncomputable def hd.o_430 (P : Params) : Obj := (Obj.mk (.type "function") none (Data.func (FuncData.mk (Str.ofString "_law_days") (Str.ofString "_law_days") (hd.fA (hd.st 54)) (FuncBody.stmts (hd.fB (hd.st 54))) (hd.fS (hd.st 54)) 3 [] .none .none .none (hd.vs "law_or0057_01" 694) none (.ref 379) .none 0)) #[])
noncomputable def hd.o_431 (P : Params) : Obj := (Obj.mk (.type "tuple") none (Data.seq #[] 0) #[])
noncomputable def hd.o_432 (P : Params) : Obj := (Obj.mk .none none (Data.fields #[]) #[])
noncomputable def hd.o_433 (P : Params) : Obj := (Obj.mk .none none (Data.func (FuncData.mk (Str.ofString "law") (Str.ofString "law") (hd.fA (hd.st 55)) (FuncBody.stmts (hd.fB (hd.st 55))) (hd.fS (hd.st 55)) 0 [] .none .none .none .none none .none .none 0)) #[])
noncomputable def hd.o_434 (P : Params) : Obj := (Obj.mk (.type "code") none (Data.fields #[(hd.vs "law" 728), (hd.vs "law" 729), (hd.vs "/claim/cut.py" 730), (.int 283 0), (.int 1 0), (.int 0 0), (.int 0 0), (.int 3 0), (.ref 381), (.bool true), (.int 181 0), (.ref 382), .none, .none, .none, (.ref 383), (.int 731 0), (.int 283 0), (hd.vs "/claim/cut.py" 732)]) #[])
noncomputable def hd.o_435 (P : Params) : Obj := (Obj.mk (.type "function") none (Data.func (FuncData.mk (Str.ofString "law") (Str.ofString "law") (hd.fA (hd.st 55)) (FuncBody.stmts (hd.fB (hd.st 55))) (hd.fS (hd.st 55)) 3 [] .none .none .none (hd.vs "law_or0057_01" 694) none (.ref 384) .none 0)) #[])
noncomputable def hd.l0 (P : Params) : List Obj := [boot_o_0 P, boot_o_1 P, boot_o_2 P, boot_o_3 P, boot_o_4 P, boot_o_5 P, boot_o_6 P, boot_o_7 P, boot_o_8 P, boot_o_9 P, boot_o_10 P, hd.o_43 P, hd.o_44 P, hd.o_45 P, hd.o_46 P]
noncomputable def hd.l1 (P : Params) : List Obj := [boot_o_0 P, boot_o_1 P, hd.o_49 P, hd.o_50 P, boot_o_4 P, boot_o_5 P, boot_o_6 P, boot_o_7 P, boot_o_8 P, boot_o_9 P, boot_o_10 P, hd.o_43 P, hd.o_51 P, hd.o_45 P, hd.o_46 P, hd.o_52 P, hd.o_53 P, hd.o_54 P, hd.o_55 P, hd.o_56 P, hd.o_57 P, hd.o_58 P, hd.o_59 P, hd.o_60 P, hd.o_61 P, hd.o_62 P, hd.o_63 P, hd.o_64 P, hd.o_65 P, hd.o_66 P, hd.o_67 P, hd.o_68 P, hd.o_69 P, hd.o_70 P, hd.o_71 P, hd.o_72 P, hd.o_73 P, hd.o_74 P, hd.o_75 P, hd.o_76 P, hd.o_77 P, hd.o_78 P, hd.o_79 P]
noncomputable def hd.l2 (P : Params) : List Obj := [boot_o_0 P, boot_o_1 P, hd.o_49 P, hd.o_80 P, boot_o_4 P, boot_o_5 P, boot_o_6 P, boot_o_7 P, boot_o_8 P, boot_o_9 P, boot_o_10 P, hd.o_43 P, hd.o_81 P, hd.o_45 P, hd.o_46 P, hd.o_52 P, hd.o_53 P, hd.o_54 P, hd.o_55 P, hd.o_56 P, hd.o_57 P, hd.o_58 P, hd.o_59 P, hd.o_60 P, hd.o_61 P, hd.o_62 P, hd.o_63 P, hd.o_64 P, hd.o_65 P, hd.o_66 P, hd.o_67 P, hd.o_68 P, hd.o_69 P, hd.o_70 P, hd.o_71 P, hd.o_72 P, hd.o_73 P, hd.o_74 P, hd.o_75 P, hd.o_82 P, hd.o_77 P, hd.o_78 P, hd.o_79 P, hd.o_83 P, hd.o_84 P, hd.o_85 P, hd.o_86 P, hd.o_87 P, hd.o_88 P, hd.o_89 P, hd.o_90 P, hd.o_91 P, hd.o_92 P, hd.o_93 P, hd.o_94 P, hd.o_95 P, hd.o_96 P, hd.o_97 P, hd.o_98 P, hd.o_99 P, hd.o_100 P, hd.o_101 P, hd.o_102 P, hd.o_103 P, hd.o_104 P, hd.o_105 P, hd.o_106 P, hd.o_107 P, hd.o_108 P, hd.o_109 P, hd.o_110 P, hd.o_111 P, hd.o_112 P, hd.o_113 P, hd.o_114 P, hd.o_115 P, hd.o_116 P, hd.o_117 P, hd.o_118 P, hd.o_119 P, hd.o_120 P, hd.o_121 P]
noncomputable def hd.l3 (P : Params) : List Obj := [boot_o_0 P, boot_o_1 P, hd.o_49 P, hd.o_122 P, boot_o_4 P, boot_o_5 P, boot_o_6 P, boot_o_7 P, boot_o_8 P, boot_o_9 P, boot_o_10 P, hd.o_43 P, hd.o_123 P, hd.o_45 P, hd.o_46 P, hd.o_52 P, hd.o_53 P, hd.o_54 P, hd.o_55 P, hd.o_56 P, hd.o_57 P, hd.o_58 P, hd.o_59 P, hd.o_60 P, hd.o_61 P, hd.o_62 P, hd.o_63 P, hd.o_64 P, hd.o_65 P, hd.o_66 P, hd.o_67 P, hd.o_68 P, hd.o_69 P, hd.o_70 P, hd.o_71 P, hd.o_72 P, hd.o_73 P, hd.o_74 P, hd.o_75 P, hd.o_82 P, hd.o_77 P, hd.o_78 P, hd.o_79 P, hd.o_83 P, hd.o_84 P, hd.o_85 P, hd.o_86 P, hd.o_87 P, hd.o_88 P, hd.o_89 P, hd.o_90 P, hd.o_91 P, hd.o_92 P, hd.o_93 P, hd.o_94 P, hd.o_95 P, hd.o_96 P, hd.o_97 P, hd.o_98 P, hd.o_99 P, hd.o_100 P, hd.o_101 P, hd.o_102 P, hd.o_103 P, hd.o_104 P, hd.o_105 P, hd.o_106 P, hd.o_107 P, hd.o_108 P, hd.o_109 P, hd.o_110 P, hd.o_111 P, hd.o_112 P, hd.o_113 P, hd.o_114 P, hd.o_115 P, hd.o_116 P, hd.o_117 P, hd.o_118 P, hd.o_119 P, hd.o_120 P, hd.o_121 P, hd.o_124 P, hd.o_125 P, hd.o_126 P, hd.o_127 P, hd.o_128 P, hd.o_129 P, hd.o_130 P, hd.o_131 P, hd.o_132 P, hd.o_133 P, hd.o_134 P, hd.o_135 P, hd.o_136 P, hd.o_137 P, hd.o_138 P, hd.o_139 P, hd.o_140 P, hd.o_141 P, hd.o_142 P, hd.o_143 P, hd.o_144 P, hd.o_145 P, hd.o_146 P, hd.o_147 P, hd.o_148 P, hd.o_149 P, hd.o_150 P, hd.o_151 P, hd.o_152 P, hd.o_153 P, hd.o_154 P, hd.o_155 P, hd.o_156 P, hd.o_157 P, hd.o_158 P, hd.o_159 P, hd.o_160 P, hd.o_161 P, hd.o_162 P, hd.o_163 P, hd.o_164 P, hd.o_165 P, hd.o_166 P, hd.o_167 P, hd.o_168 P, hd.o_169 P, hd.o_170 P, hd.o_171 P, hd.o_172 P, hd.o_173 P, hd.o_174 P, hd.o_175 P, hd.o_176 P, hd.o_177 P, hd.o_178 P, hd.o_179 P]
noncomputable def hd.l4 (P : Params) : List Obj := [boot_o_0 P, boot_o_1 P, hd.o_49 P, hd.o_180 P, boot_o_4 P, boot_o_5 P, boot_o_6 P, boot_o_7 P, boot_o_8 P, boot_o_9 P, boot_o_10 P, hd.o_43 P, hd.o_181 P, hd.o_45 P, hd.o_46 P, hd.o_52 P, hd.o_53 P, hd.o_54 P, hd.o_55 P, hd.o_56 P, hd.o_57 P, hd.o_58 P, hd.o_59 P, hd.o_60 P, hd.o_61 P, hd.o_62 P, hd.o_63 P, hd.o_64 P, hd.o_65 P, hd.o_66 P, hd.o_67 P, hd.o_68 P, hd.o_69 P, hd.o_70 P, hd.o_71 P, hd.o_72 P, hd.o_73 P, hd.o_74 P, hd.o_75 P, hd.o_82 P, hd.o_77 P, hd.o_78 P, hd.o_79 P, hd.o_83 P, hd.o_84 P, hd.o_85 P, hd.o_86 P, hd.o_87 P, hd.o_88 P, hd.o_89 P, hd.o_90 P, hd.o_91 P, hd.o_92 P, hd.o_93 P, hd.o_94 P, hd.o_95 P, hd.o_96 P, hd.o_97 P, hd.o_98 P, hd.o_99 P, hd.o_100 P, hd.o_101 P, hd.o_102 P, hd.o_103 P, hd.o_104 P, hd.o_105 P, hd.o_106 P, hd.o_107 P, hd.o_108 P, hd.o_109 P, hd.o_110 P, hd.o_111 P, hd.o_112 P, hd.o_113 P, hd.o_114 P, hd.o_115 P, hd.o_116 P, hd.o_117 P, hd.o_118 P, hd.o_119 P, hd.o_120 P, hd.o_121 P, hd.o_124 P, hd.o_125 P, hd.o_126 P, hd.o_127 P, hd.o_128 P, hd.o_129 P, hd.o_130 P, hd.o_131 P, hd.o_132 P, hd.o_133 P, hd.o_134 P, hd.o_135 P, hd.o_136 P, hd.o_137 P, hd.o_138 P, hd.o_139 P, hd.o_140 P, hd.o_141 P, hd.o_142 P, hd.o_143 P, hd.o_144 P, hd.o_145 P, hd.o_146 P, hd.o_147 P, hd.o_148 P, hd.o_149 P, hd.o_150 P, hd.o_151 P, hd.o_152 P, hd.o_153 P, hd.o_154 P, hd.o_155 P, hd.o_156 P, hd.o_157 P, hd.o_158 P, hd.o_159 P, hd.o_160 P, hd.o_161 P, hd.o_162 P, hd.o_163 P, hd.o_164 P, hd.o_165 P, hd.o_166 P, hd.o_167 P, hd.o_168 P, hd.o_169 P, hd.o_170 P, hd.o_171 P, hd.o_172 P, hd.o_173 P, hd.o_174 P, hd.o_175 P, hd.o_176 P, hd.o_177 P, hd.o_178 P, hd.o_179 P, hd.o_182 P, hd.o_183 P, hd.o_184 P, hd.o_185 P, hd.o_186 P, hd.o_187 P, hd.o_188 P, hd.o_189 P, hd.o_190 P, hd.o_191 P, hd.o_192 P, hd.o_193 P, hd.o_194 P, hd.o_195 P, hd.o_196 P, hd.o_197 P, hd.o_198 P, hd.o_199 P, hd.o_200 P, hd.o_201 P, hd.o_202 P, hd.o_203 P, hd.o_204 P, hd.o_205 P, hd.o_206 P, hd.o_207 P, hd.o_208 P, hd.o_209 P, hd.o_210 P, hd.o_211 P, hd.o_212 P, hd.o_213 P, hd.o_214 P, hd.o_215 P, hd.o_216 P, hd.o_217 P, hd.o_218 P, hd.o_219 P, hd.o_220 P, hd.o_221 P, hd.o_222 P, hd.o_223 P, hd.o_224 P, hd.o_225 P, hd.o_226 P, hd.o_227 P, hd.o_228 P, hd.o_229 P, hd.o_230 P, hd.o_231 P, hd.o_232 P, hd.o_233 P, hd.o_234 P, hd.o_235 P, hd.o_236 P, hd.o_237 P]
noncomputable def hd.l5 (P : Params) : List Obj := [boot_o_0 P, boot_o_1 P, hd.o_49 P, hd.o_238 P, boot_o_4 P, boot_o_5 P, boot_o_6 P, boot_o_7 P, boot_o_8 P, boot_o_9 P, boot_o_10 P, hd.o_43 P, hd.o_239 P, hd.o_45 P, hd.o_46 P, hd.o_52 P, hd.o_53 P, hd.o_54 P, hd.o_55 P, hd.o_56 P, hd.o_57 P, hd.o_58 P, hd.o_59 P, hd.o_60 P, hd.o_61 P, hd.o_62 P, hd.o_63 P, hd.o_64 P, hd.o_65 P, hd.o_66 P, hd.o_67 P, hd.o_68 P, hd.o_69 P, hd.o_70 P, hd.o_71 P, hd.o_72 P, hd.o_73 P, hd.o_74 P, hd.o_75 P, hd.o_82 P, hd.o_77 P, hd.o_78 P, hd.o_79 P, hd.o_83 P, hd.o_84 P, hd.o_85 P, hd.o_86 P, hd.o_87 P, hd.o_88 P, hd.o_89 P, hd.o_90 P, hd.o_91 P, hd.o_92 P, hd.o_93 P, hd.o_94 P, hd.o_95 P, hd.o_96 P, hd.o_97 P, hd.o_98 P, hd.o_99 P, hd.o_100 P, hd.o_101 P, hd.o_102 P, hd.o_103 P, hd.o_104 P, hd.o_105 P, hd.o_106 P, hd.o_107 P, hd.o_108 P, hd.o_109 P, hd.o_110 P, hd.o_111 P, hd.o_112 P, hd.o_113 P, hd.o_114 P, hd.o_115 P, hd.o_116 P, hd.o_117 P, hd.o_118 P, hd.o_119 P, hd.o_120 P, hd.o_121 P, hd.o_124 P, hd.o_125 P, hd.o_126 P, hd.o_127 P, hd.o_128 P, hd.o_129 P, hd.o_130 P, hd.o_131 P, hd.o_132 P, hd.o_133 P, hd.o_134 P, hd.o_135 P, hd.o_136 P, hd.o_137 P, hd.o_138 P, hd.o_139 P, hd.o_140 P, hd.o_141 P, hd.o_142 P, hd.o_143 P, hd.o_144 P, hd.o_145 P, hd.o_146 P, hd.o_147 P, hd.o_148 P, hd.o_149 P, hd.o_150 P, hd.o_151 P, hd.o_152 P, hd.o_153 P, hd.o_154 P, hd.o_155 P, hd.o_156 P, hd.o_157 P, hd.o_158 P, hd.o_159 P, hd.o_160 P, hd.o_161 P, hd.o_162 P, hd.o_163 P, hd.o_164 P, hd.o_165 P, hd.o_166 P, hd.o_167 P, hd.o_168 P, hd.o_169 P, hd.o_170 P, hd.o_171 P, hd.o_172 P, hd.o_173 P, hd.o_174 P, hd.o_175 P, hd.o_176 P, hd.o_177 P, hd.o_178 P, hd.o_179 P, hd.o_182 P, hd.o_183 P, hd.o_184 P, hd.o_185 P, hd.o_186 P, hd.o_187 P, hd.o_188 P, hd.o_189 P, hd.o_190 P, hd.o_191 P, hd.o_192 P, hd.o_193 P, hd.o_194 P, hd.o_195 P, hd.o_196 P, hd.o_197 P, hd.o_198 P, hd.o_199 P, hd.o_200 P, hd.o_201 P, hd.o_202 P, hd.o_203 P, hd.o_204 P, hd.o_205 P, hd.o_206 P, hd.o_207 P, hd.o_208 P, hd.o_209 P, hd.o_210 P, hd.o_211 P, hd.o_212 P, hd.o_213 P, hd.o_214 P, hd.o_215 P, hd.o_216 P, hd.o_217 P, hd.o_218 P, hd.o_219 P, hd.o_220 P, hd.o_221 P, hd.o_222 P, hd.o_223 P, hd.o_224 P, hd.o_225 P, hd.o_226 P, hd.o_227 P, hd.o_228 P, hd.o_229 P, hd.o_230 P, hd.o_231 P, hd.o_232 P, hd.o_233 P, hd.o_234 P, hd.o_235 P, hd.o_236 P, hd.o_237 P, hd.o_240 P, hd.o_241 P, hd.o_242 P, hd.o_243 P, hd.o_244 P, hd.o_245 P, hd.o_246 P, hd.o_247 P, hd.o_248 P, hd.o_249 P, hd.o_250 P, hd.o_251 P, hd.o_252 P, hd.o_253 P, hd.o_254 P, hd.o_255 P, hd.o_256 P, hd.o_257 P, hd.o_258 P, hd.o_259 P, hd.o_260 P, hd.o_261 P, hd.o_262 P, hd.o_263 P, hd.o_264 P, hd.o_265 P, hd.o_266 P, hd.o_267 P, hd.o_268 P, hd.o_269 P, hd.o_270 P, hd.o_271 P, hd.o_272 P, hd.o_273 P, hd.o_274 P, hd.o_275 P, hd.o_276 P, hd.o_277 P, hd.o_278 P, hd.o_279 P, hd.o_280 P, hd.o_281 P, hd.o_282 P, hd.o_283 P, hd.o_284 P, hd.o_285 P, hd.o_286 P, hd.o_287 P, hd.o_288 P, hd.o_289 P, hd.o_290 P, hd.o_291 P, hd.o_292 P, hd.o_293 P, hd.o_294 P, hd.o_295 P, hd.o_296 P, hd.o_297 P, hd.o_298 P, hd.o_299 P, hd.o_300 P, hd.o_301 P, hd.o_302 P, hd.o_303 P, hd.o_304 P, hd.o_305 P, hd.o_306 P, hd.o_307 P, hd.o_308 P, hd.o_309 P, hd.o_310 P, hd.o_311 P, hd.o_312 P, hd.o_313 P]
noncomputable def hd.l6 (P : Params) : List Obj := [boot_o_0 P, boot_o_1 P, hd.o_49 P, hd.o_314 P, boot_o_4 P, boot_o_5 P, boot_o_6 P, boot_o_7 P, boot_o_8 P, boot_o_9 P, boot_o_10 P, hd.o_43 P, hd.o_315 P, hd.o_45 P, hd.o_46 P, hd.o_52 P, hd.o_53 P, hd.o_54 P, hd.o_55 P, hd.o_56 P, hd.o_57 P, hd.o_58 P, hd.o_59 P, hd.o_60 P, hd.o_61 P, hd.o_62 P, hd.o_63 P, hd.o_64 P, hd.o_65 P, hd.o_66 P, hd.o_67 P, hd.o_68 P, hd.o_69 P, hd.o_70 P, hd.o_71 P, hd.o_72 P, hd.o_73 P, hd.o_74 P, hd.o_75 P, hd.o_82 P, hd.o_77 P, hd.o_78 P, hd.o_79 P, hd.o_83 P, hd.o_84 P, hd.o_85 P, hd.o_86 P, hd.o_87 P, hd.o_88 P, hd.o_89 P, hd.o_90 P, hd.o_91 P, hd.o_92 P, hd.o_93 P, hd.o_94 P, hd.o_95 P, hd.o_96 P, hd.o_97 P, hd.o_98 P, hd.o_99 P, hd.o_100 P, hd.o_101 P, hd.o_102 P, hd.o_103 P, hd.o_104 P, hd.o_105 P, hd.o_106 P, hd.o_107 P, hd.o_108 P, hd.o_109 P, hd.o_110 P, hd.o_111 P, hd.o_112 P, hd.o_113 P, hd.o_114 P, hd.o_115 P, hd.o_116 P, hd.o_117 P, hd.o_118 P, hd.o_119 P, hd.o_120 P, hd.o_121 P, hd.o_124 P, hd.o_125 P, hd.o_126 P, hd.o_127 P, hd.o_128 P, hd.o_129 P, hd.o_130 P, hd.o_131 P, hd.o_132 P, hd.o_133 P, hd.o_134 P, hd.o_135 P, hd.o_136 P, hd.o_137 P, hd.o_138 P, hd.o_139 P, hd.o_140 P, hd.o_141 P, hd.o_142 P, hd.o_143 P, hd.o_144 P, hd.o_145 P, hd.o_146 P, hd.o_147 P, hd.o_148 P, hd.o_149 P, hd.o_150 P, hd.o_151 P, hd.o_152 P, hd.o_153 P, hd.o_154 P, hd.o_155 P, hd.o_156 P, hd.o_157 P, hd.o_158 P, hd.o_159 P, hd.o_160 P, hd.o_161 P, hd.o_162 P, hd.o_163 P, hd.o_164 P, hd.o_165 P, hd.o_166 P, hd.o_167 P, hd.o_168 P, hd.o_169 P, hd.o_170 P, hd.o_171 P, hd.o_172 P, hd.o_173 P, hd.o_174 P, hd.o_175 P, hd.o_176 P, hd.o_177 P, hd.o_178 P, hd.o_179 P, hd.o_182 P, hd.o_183 P, hd.o_184 P, hd.o_185 P, hd.o_186 P, hd.o_187 P, hd.o_188 P, hd.o_189 P, hd.o_190 P, hd.o_191 P, hd.o_192 P, hd.o_193 P, hd.o_194 P, hd.o_195 P, hd.o_196 P, hd.o_197 P, hd.o_198 P, hd.o_199 P, hd.o_200 P, hd.o_201 P, hd.o_202 P, hd.o_203 P, hd.o_204 P, hd.o_205 P, hd.o_206 P, hd.o_207 P, hd.o_208 P, hd.o_209 P, hd.o_210 P, hd.o_211 P, hd.o_212 P, hd.o_213 P, hd.o_214 P, hd.o_215 P, hd.o_216 P, hd.o_217 P, hd.o_218 P, hd.o_219 P, hd.o_220 P, hd.o_221 P, hd.o_222 P, hd.o_223 P, hd.o_224 P, hd.o_225 P, hd.o_226 P, hd.o_227 P, hd.o_228 P, hd.o_229 P, hd.o_230 P, hd.o_231 P, hd.o_232 P, hd.o_233 P, hd.o_234 P, hd.o_235 P, hd.o_236 P, hd.o_237 P, hd.o_240 P, hd.o_241 P, hd.o_242 P, hd.o_243 P, hd.o_244 P, hd.o_245 P, hd.o_246 P, hd.o_247 P, hd.o_248 P, hd.o_249 P, hd.o_250 P, hd.o_251 P, hd.o_252 P, hd.o_253 P, hd.o_254 P, hd.o_255 P, hd.o_256 P, hd.o_257 P, hd.o_258 P, hd.o_259 P, hd.o_260 P, hd.o_261 P, hd.o_262 P, hd.o_263 P, hd.o_264 P, hd.o_265 P, hd.o_266 P, hd.o_267 P, hd.o_268 P, hd.o_269 P, hd.o_270 P, hd.o_271 P, hd.o_272 P, hd.o_273 P, hd.o_274 P, hd.o_275 P, hd.o_276 P, hd.o_277 P, hd.o_278 P, hd.o_279 P, hd.o_280 P, hd.o_281 P, hd.o_282 P, hd.o_283 P, hd.o_284 P, hd.o_285 P, hd.o_286 P, hd.o_287 P, hd.o_288 P, hd.o_289 P, hd.o_290 P, hd.o_291 P, hd.o_292 P, hd.o_293 P, hd.o_294 P, hd.o_295 P, hd.o_296 P, hd.o_297 P, hd.o_298 P, hd.o_299 P, hd.o_300 P, hd.o_301 P, hd.o_302 P, hd.o_303 P, hd.o_304 P, hd.o_305 P, hd.o_306 P, hd.o_307 P, hd.o_308 P, hd.o_309 P, hd.o_310 P, hd.o_311 P, hd.o_312 P, hd.o_313 P, hd.o_316 P, hd.o_317 P, hd.o_318 P, hd.o_319 P, hd.o_320 P, hd.o_321 P, hd.o_322 P, hd.o_323 P, hd.o_324 P, hd.o_325 P, hd.o_326 P, hd.o_327 P, hd.o_328 P, hd.o_329 P, hd.o_330 P, hd.o_331 P, hd.o_332 P, hd.o_333 P, hd.o_334 P, hd.o_335 P, hd.o_336 P, hd.o_337 P, hd.o_338 P, hd.o_339 P, hd.o_340 P, hd.o_341 P, hd.o_342 P, hd.o_343 P, hd.o_344 P, hd.o_345 P, hd.o_346 P, hd.o_347 P, hd.o_348 P, hd.o_349 P, hd.o_350 P, hd.o_351 P, hd.o_352 P, hd.o_353 P, hd.o_354 P, hd.o_355 P, hd.o_356 P, hd.o_357 P, hd.o_358 P, hd.o_359 P, hd.o_360 P, hd.o_361 P, hd.o_362 P, hd.o_363 P, hd.o_364 P, hd.o_365 P, hd.o_366 P, hd.o_367 P, hd.o_368 P, hd.o_369 P]
noncomputable def hd.l7 (P : Params) : List Obj := [boot_o_0 P, boot_o_1 P, hd.o_49 P, hd.o_370 P, boot_o_4 P, boot_o_5 P, boot_o_6 P, boot_o_7 P, boot_o_8 P, boot_o_9 P, boot_o_10 P, hd.o_43 P, hd.o_371 P, hd.o_45 P, hd.o_46 P, hd.o_52 P, hd.o_53 P, hd.o_54 P, hd.o_55 P, hd.o_56 P, hd.o_57 P, hd.o_58 P, hd.o_59 P, hd.o_60 P, hd.o_61 P, hd.o_62 P, hd.o_63 P, hd.o_64 P, hd.o_65 P, hd.o_66 P, hd.o_67 P, hd.o_68 P, hd.o_69 P, hd.o_70 P, hd.o_71 P, hd.o_72 P, hd.o_73 P, hd.o_74 P, hd.o_75 P, hd.o_82 P, hd.o_77 P, hd.o_78 P, hd.o_79 P, hd.o_83 P, hd.o_84 P, hd.o_85 P, hd.o_86 P, hd.o_87 P, hd.o_88 P, hd.o_89 P, hd.o_90 P, hd.o_91 P, hd.o_92 P, hd.o_93 P, hd.o_94 P, hd.o_95 P, hd.o_96 P, hd.o_97 P, hd.o_98 P, hd.o_99 P, hd.o_100 P, hd.o_101 P, hd.o_102 P, hd.o_103 P, hd.o_104 P, hd.o_105 P, hd.o_106 P, hd.o_107 P, hd.o_108 P, hd.o_109 P, hd.o_110 P, hd.o_111 P, hd.o_112 P, hd.o_113 P, hd.o_114 P, hd.o_115 P, hd.o_116 P, hd.o_117 P, hd.o_118 P, hd.o_119 P, hd.o_120 P, hd.o_121 P, hd.o_124 P, hd.o_125 P, hd.o_126 P, hd.o_127 P, hd.o_128 P, hd.o_129 P, hd.o_130 P, hd.o_131 P, hd.o_132 P, hd.o_133 P, hd.o_134 P, hd.o_135 P, hd.o_136 P, hd.o_137 P, hd.o_138 P, hd.o_139 P, hd.o_140 P, hd.o_141 P, hd.o_142 P, hd.o_143 P, hd.o_144 P, hd.o_145 P, hd.o_146 P, hd.o_147 P, hd.o_148 P, hd.o_149 P, hd.o_150 P, hd.o_151 P, hd.o_152 P, hd.o_153 P, hd.o_154 P, hd.o_155 P, hd.o_156 P, hd.o_157 P, hd.o_158 P, hd.o_159 P, hd.o_160 P, hd.o_161 P, hd.o_162 P, hd.o_163 P, hd.o_164 P, hd.o_165 P, hd.o_166 P, hd.o_167 P, hd.o_168 P, hd.o_169 P, hd.o_170 P, hd.o_171 P, hd.o_172 P, hd.o_173 P, hd.o_174 P, hd.o_175 P, hd.o_176 P, hd.o_177 P, hd.o_178 P, hd.o_179 P, hd.o_182 P, hd.o_183 P, hd.o_184 P, hd.o_185 P, hd.o_186 P, hd.o_187 P, hd.o_188 P, hd.o_189 P, hd.o_190 P, hd.o_191 P, hd.o_192 P, hd.o_193 P, hd.o_194 P, hd.o_195 P, hd.o_196 P, hd.o_197 P, hd.o_198 P, hd.o_199 P, hd.o_200 P, hd.o_201 P, hd.o_202 P, hd.o_203 P, hd.o_204 P, hd.o_205 P, hd.o_206 P, hd.o_207 P, hd.o_208 P, hd.o_209 P, hd.o_210 P, hd.o_211 P, hd.o_212 P, hd.o_213 P, hd.o_214 P, hd.o_215 P, hd.o_216 P, hd.o_217 P, hd.o_218 P, hd.o_219 P, hd.o_220 P, hd.o_221 P, hd.o_222 P, hd.o_223 P, hd.o_224 P, hd.o_225 P, hd.o_226 P, hd.o_227 P, hd.o_228 P, hd.o_229 P, hd.o_230 P, hd.o_231 P, hd.o_232 P, hd.o_233 P, hd.o_234 P, hd.o_235 P, hd.o_236 P, hd.o_237 P, hd.o_240 P, hd.o_241 P, hd.o_242 P, hd.o_243 P, hd.o_244 P, hd.o_245 P, hd.o_246 P, hd.o_247 P, hd.o_248 P, hd.o_249 P, hd.o_250 P, hd.o_251 P, hd.o_252 P, hd.o_253 P, hd.o_254 P, hd.o_255 P, hd.o_256 P, hd.o_257 P, hd.o_258 P, hd.o_259 P, hd.o_260 P, hd.o_261 P, hd.o_262 P, hd.o_263 P, hd.o_264 P, hd.o_265 P, hd.o_266 P, hd.o_267 P, hd.o_268 P, hd.o_269 P, hd.o_270 P, hd.o_271 P, hd.o_272 P, hd.o_273 P, hd.o_274 P, hd.o_275 P, hd.o_276 P, hd.o_277 P, hd.o_278 P, hd.o_279 P, hd.o_280 P, hd.o_281 P, hd.o_282 P, hd.o_283 P, hd.o_284 P, hd.o_285 P, hd.o_286 P, hd.o_287 P, hd.o_288 P, hd.o_289 P, hd.o_290 P, hd.o_291 P, hd.o_292 P, hd.o_293 P, hd.o_294 P, hd.o_295 P, hd.o_296 P, hd.o_297 P, hd.o_298 P, hd.o_299 P, hd.o_300 P, hd.o_301 P, hd.o_302 P, hd.o_303 P, hd.o_304 P, hd.o_305 P, hd.o_306 P, hd.o_307 P, hd.o_308 P, hd.o_309 P, hd.o_310 P, hd.o_311 P, hd.o_312 P, hd.o_313 P, hd.o_316 P, hd.o_317 P, hd.o_318 P, hd.o_319 P, hd.o_320 P, hd.o_321 P, hd.o_322 P, hd.o_323 P, hd.o_324 P, hd.o_325 P, hd.o_326 P, hd.o_327 P, hd.o_328 P, hd.o_329 P, hd.o_330 P, hd.o_331 P, hd.o_332 P, hd.o_333 P, hd.o_334 P, hd.o_335 P, hd.o_336 P, hd.o_337 P, hd.o_338 P, hd.o_339 P, hd.o_340 P, hd.o_341 P, hd.o_342 P, hd.o_343 P, hd.o_344 P, hd.o_345 P, hd.o_346 P, hd.o_347 P, hd.o_348 P, hd.o_349 P, hd.o_350 P, hd.o_351 P, hd.o_352 P, hd.o_353 P, hd.o_354 P, hd.o_355 P, hd.o_356 P, hd.o_357 P, hd.o_358 P, hd.o_359 P, hd.o_360 P, hd.o_361 P, hd.o_362 P, hd.o_363 P, hd.o_364 P, hd.o_365 P, hd.o_366 P, hd.o_367 P, hd.o_368 P, hd.o_369 P, hd.o_372 P, hd.o_373 P, hd.o_374 P, hd.o_375 P, hd.o_376 P, hd.o_377 P, hd.o_378 P, hd.o_379 P, hd.o_380 P, hd.o_381 P, hd.o_382 P, hd.o_383 P, hd.o_384 P, hd.o_385 P, hd.o_386 P, hd.o_387 P, hd.o_388 P, hd.o_389 P, hd.o_390 P, hd.o_391 P, hd.o_392 P, hd.o_393 P, hd.o_394 P, hd.o_395 P, hd.o_396 P, hd.o_397 P, hd.o_398 P, hd.o_399 P, hd.o_400 P, hd.o_401 P, hd.o_402 P, hd.o_403 P, hd.o_404 P, hd.o_405 P, hd.o_406 P, hd.o_407 P, hd.o_408 P, hd.o_409 P, hd.o_410 P, hd.o_411 P, hd.o_412 P, hd.o_413 P, hd.o_414 P, hd.o_415 P, hd.o_416 P, hd.o_417 P, hd.o_418 P, hd.o_419 P, hd.o_420 P, hd.o_421 P, hd.o_422 P, hd.o_423 P, hd.o_424 P, hd.o_425 P, hd.o_426 P, hd.o_427 P, hd.o_428 P, hd.o_429 P, hd.o_430 P, hd.o_431 P, hd.o_432 P, hd.o_433 P, hd.o_434 P, hd.o_435 P]
noncomputable def hd.heap_39 (P : Params) : Frag := (nat_lit 2, hd.o_49 P) :: (nat_lit 3, hd.o_370 P) :: (nat_lit 15, hd.o_52 P) :: (nat_lit 22, hd.o_59 P) :: (nat_lit 23, hd.o_431 P) :: (nat_lit 25, hd.o_62 P) :: (nat_lit 26, hd.o_431 P) :: (nat_lit 28, hd.o_65 P) :: (nat_lit 29, hd.o_66 P) :: (nat_lit 30, hd.o_431 P) :: (nat_lit 32, hd.o_69 P) :: (nat_lit 33, hd.o_431 P) :: (nat_lit 35, hd.o_72 P) :: (nat_lit 36, hd.o_73 P) :: (nat_lit 37, hd.o_74 P) :: (nat_lit 38, hd.o_75 P) :: (nat_lit 39, hd.o_82 P) :: (nat_lit 40, hd.o_77 P) :: (nat_lit 43, hd.o_83 P) :: (nat_lit 50, hd.o_431 P) :: (nat_lit 51, hd.o_91 P) :: (nat_lit 52, hd.o_92 P) :: (nat_lit 55, hd.o_431 P) :: (nat_lit 57, hd.o_97 P) :: (nat_lit 58, hd.o_431 P) :: (nat_lit 60, hd.o_100 P) :: (nat_lit 61, hd.o_101 P) :: (nat_lit 62, hd.o_431 P) :: (nat_lit 65, hd.o_105 P) :: (nat_lit 66, hd.o_106 P) :: (nat_lit 67, hd.o_107 P) :: (nat_lit 68, hd.o_431 P) :: (nat_lit 70, hd.o_110 P) :: (nat_lit 71, hd.o_431 P) :: (nat_lit 73, hd.o_113 P) :: (nat_lit 74, hd.o_114 P) :: (nat_lit 75, hd.o_431 P) :: (nat_lit 77, hd.o_117 P) :: (nat_lit 78, hd.o_431 P) :: (nat_lit 80, hd.o_120 P) :: (nat_lit 81, hd.o_121 P) :: (nat_lit 82, hd.o_431 P) :: (nat_lit 84, hd.o_126 P) :: (nat_lit 85, hd.o_431 P) :: (nat_lit 87, hd.o_129 P) :: (nat_lit 88, hd.o_130 P) :: (nat_lit 89, hd.o_431 P) :: (nat_lit 91, hd.o_133 P) :: (nat_lit 92, hd.o_431 P) :: (nat_lit 94, hd.o_136 P) :: (nat_lit 95, hd.o_137 P) :: (nat_lit 96, hd.o_431 P) :: (nat_lit 98, hd.o_140 P) :: (nat_lit 99, hd.o_431 P) :: (nat_lit 101, hd.o_143 P) :: (nat_lit 102, hd.o_144 P) :: (nat_lit 103, hd.o_431 P) :: (nat_lit 105, hd.o_147 P) :: (nat_lit 106, hd.o_431 P) :: (nat_lit 108, hd.o_150 P) :: (nat_lit 109, hd.o_151 P) :: (nat_lit 110, hd.o_431 P) :: (nat_lit 112, hd.o_154 P) :: (nat_lit 113, hd.o_431 P) :: (nat_lit 115, hd.o_157 P) :: (nat_lit 116, hd.o_158 P) :: (nat_lit 117, hd.o_431 P) :: (nat_lit 119, hd.o_161 P) :: (nat_lit 120, hd.o_431 P) :: (nat_lit 122, hd.o_164 P) :: (nat_lit 123, hd.o_165 P) :: (nat_lit 124, hd.o_431 P) :: (nat_lit 126, hd.o_168 P) :: (nat_lit 127, hd.o_431 P) :: (nat_lit 129, hd.o_171 P) :: (nat_lit 130, hd.o_172 P) :: (nat_lit 131, hd.o_431 P) :: (nat_lit 134, hd.o_176 P) :: (nat_lit 135, hd.o_177 P) :: (nat_lit 136, hd.o_178 P) :: (nat_lit 137, hd.o_179 P) :: (nat_lit 145, hd.o_431 P) :: (nat_lit 147, hd.o_191 P) :: (nat_lit 148, hd.o_431 P) :: (nat_lit 150, hd.o_194 P) :: (nat_lit 151, hd.o_195 P) :: (nat_lit 152, hd.o_431 P) :: (nat_lit 154, hd.o_198 P) :: (nat_lit 155, hd.o_431 P) :: (nat_lit 157, hd.o_201 P) :: (nat_lit 158, hd.o_202 P) :: (nat_lit 159, hd.o_203 P) :: (nat_lit 160, hd.o_204 P) :: (nat_lit 161, hd.o_205 P) :: (nat_lit 162, hd.o_206 P) :: (nat_lit 163, hd.o_207 P) :: (nat_lit 166, hd.o_431 P) :: (nat_lit 168, hd.o_212 P) :: (nat_lit 169, hd.o_431 P) :: (nat_lit 171, hd.o_215 P) :: (nat_lit 172, hd.o_216 P) :: (nat_lit 173, hd.o_431 P) :: (nat_lit 175, hd.o_219 P) :: (nat_lit 176, hd.o_431 P) :: (nat_lit 178, hd.o_222 P) :: (nat_lit 179, hd.o_223 P) :: (nat_lit 180, hd.o_431 P) :: (nat_lit 182, hd.o_226 P) :: (nat_lit 183, hd.o_431 P) :: (nat_lit 185, hd.o_229 P) :: (nat_lit 186, hd.o_230 P) :: (nat_lit 187, hd.o_431 P) :: (nat_lit 189, hd.o_233 P) :: (nat_lit 190, hd.o_431 P) :: (nat_lit 192, hd.o_236 P) :: (nat_lit 193, hd.o_237 P) :: (nat_lit 194, hd.o_431 P) :: (nat_lit 196, hd.o_242 P) :: (nat_lit 197, hd.o_431 P) :: (nat_lit 199, hd.o_245 P) :: (nat_lit 200, hd.o_246 P) :: (nat_lit 201, hd.o_431 P) :: (nat_lit 203, hd.o_249 P) :: (nat_lit 204, hd.o_431 P) :: (nat_lit 206, hd.o_252 P) :: (nat_lit 207, hd.o_253 P) :: (nat_lit 208, hd.o_431 P) :: (nat_lit 210, hd.o_256 P) :: (nat_lit 211, hd.o_431 P) :: (nat_lit 213, hd.o_259 P) :: (nat_lit 214, hd.o_260 P) :: (nat_lit 215, hd.o_431 P) :: (nat_lit 217, hd.o_263 P) :: (nat_lit 218, hd.o_431 P) :: (nat_lit 220, hd.o_266 P) :: (nat_lit 221, hd.o_267 P) :: (nat_lit 222, hd.o_431 P) :: (nat_lit 225, hd.o_271 P) :: (nat_lit 226, hd.o_272 P) :: (nat_lit 227, hd.o_431 P) :: (nat_lit 230, hd.o_276 P) :: (nat_lit 231, hd.o_277 P) :: (nat_lit 232, hd.o_431 P) :: (nat_lit 234, hd.o_280 P) :: (nat_lit 235, hd.o_431 P) :: (nat_lit 237, hd.o_283 P) :: (nat_lit 238, hd.o_284 P) :: (nat_lit 239, hd.o_431 P) :: (nat_lit 241, hd.o_287 P) :: (nat_lit 242, hd.o_431 P) :: (nat_lit 244, hd.o_290 P) :: (nat_lit 245, hd.o_291 P) :: (nat_lit 246, hd.o_431 P) :: (nat_lit 249, hd.o_295 P) :: (nat_lit 250, hd.o_296 P) :: (nat_lit 251, hd.o_431 P) :: (nat_lit 254, hd.o_300 P) :: (nat_lit 255, hd.o_301 P) :: (nat_lit 256, hd.o_431 P) :: (nat_lit 258, hd.o_304 P) :: (nat_lit 259, hd.o_431 P) :: (nat_lit 261, hd.o_307 P) :: (nat_lit 262, hd.o_308 P) :: (nat_lit 263, hd.o_431 P) :: (nat_lit 266, hd.o_312 P) :: (nat_lit 267, hd.o_313 P) :: (nat_lit 275, hd.o_431 P) :: (nat_lit 277, hd.o_325 P) :: (nat_lit 278, hd.o_431 P) :: (nat_lit 280, hd.o_328 P) :: (nat_lit 281, hd.o_329 P) :: (nat_lit 282, hd.o_431 P) :: (nat_lit 284, hd.o_332 P) :: (nat_lit 285, hd.o_431 P) :: (nat_lit 287, hd.o_335 P) :: (nat_lit 288, hd.o_336 P) :: (nat_lit 289, hd.o_431 P) :: (nat_lit 292, hd.o_340 P) :: (nat_lit 293, hd.o_341 P) :: (nat_lit 294, hd.o_431 P) :: (nat_lit 296, hd.o_344 P) :: (nat_lit 297, hd.o_431 P) :: (nat_lit 299, hd.o_347 P) :: (nat_lit 300, hd.o_348 P) :: (nat_lit 301, hd.o_431 P) :: (nat_lit 303, hd.o_351 P) :: (nat_lit 304, hd.o_431 P) :: (nat_lit 306, hd.o_354 P) :: (nat_lit 307, hd.o_355 P) :: (nat_lit 308, hd.o_431 P) :: (nat_lit 310, hd.o_358 P) :: (nat_lit 311, hd.o_431 P) :: (nat_lit 313, hd.o_361 P) :: (nat_lit 314, hd.o_362 P) :: (nat_lit 315, hd.o_363 P) :: (nat_lit 316, hd.o_364 P) :: (nat_lit 317, hd.o_365 P) :: (nat_lit 318, hd.o_366 P) :: (nat_lit 319, hd.o_367 P) :: (nat_lit 322, hd.o_431 P) :: (nat_lit 324, hd.o_374 P) :: (nat_lit 325, hd.o_431 P) :: (nat_lit 327, hd.o_377 P) :: (nat_lit 328, hd.o_378 P) :: (nat_lit 329, hd.o_431 P) :: (nat_lit 331, hd.o_381 P) :: (nat_lit 332, hd.o_431 P) :: (nat_lit 334, hd.o_384 P) :: (nat_lit 335, hd.o_385 P) :: (nat_lit 336, hd.o_431 P) :: (nat_lit 338, hd.o_388 P) :: (nat_lit 339, hd.o_431 P) :: (nat_lit 341, hd.o_391 P) :: (nat_lit 342, hd.o_392 P) :: (nat_lit 343, hd.o_431 P) :: (nat_lit 345, hd.o_395 P) :: (nat_lit 346, hd.o_431 P) :: (nat_lit 348, hd.o_398 P) :: (nat_lit 349, hd.o_399 P) :: (nat_lit 350, hd.o_431 P) :: (nat_lit 353, hd.o_403 P) :: (nat_lit 354, hd.o_404 P) :: (nat_lit 355, hd.o_431 P) :: (nat_lit 358, hd.o_408 P) :: (nat_lit 359, hd.o_409 P) :: (nat_lit 360, hd.o_431 P) :: (nat_lit 362, hd.o_412 P) :: (nat_lit 363, hd.o_431 P) :: (nat_lit 365, hd.o_415 P) :: (nat_lit 366, hd.o_416 P) :: (nat_lit 367, hd.o_431 P) :: (nat_lit 369, hd.o_419 P) :: (nat_lit 370, hd.o_431 P) :: (nat_lit 372, hd.o_422 P) :: (nat_lit 373, hd.o_423 P) :: (nat_lit 374, hd.o_431 P) :: (nat_lit 376, hd.o_426 P) :: (nat_lit 377, hd.o_431 P) :: (nat_lit 379, hd.o_429 P) :: (nat_lit 380, hd.o_430 P) :: (nat_lit 381, hd.o_431 P) :: (nat_lit 384, hd.o_434 P) :: (nat_lit 385, hd.o_435 P) :: []
noncomputable def hd.as : List Addr := nat_lit 2 :: nat_lit 3 :: nat_lit 15 :: nat_lit 22 :: nat_lit 23 :: nat_lit 25 :: nat_lit 26 :: nat_lit 28 :: nat_lit 29 :: nat_lit 30 :: nat_lit 32 :: nat_lit 33 :: nat_lit 35 :: nat_lit 36 :: nat_lit 37 :: nat_lit 38 :: nat_lit 39 :: nat_lit 40 :: nat_lit 43 :: nat_lit 50 :: nat_lit 51 :: nat_lit 52 :: nat_lit 55 :: nat_lit 57 :: nat_lit 58 :: nat_lit 60 :: nat_lit 61 :: nat_lit 62 :: nat_lit 65 :: nat_lit 66 :: nat_lit 67 :: nat_lit 68 :: nat_lit 70 :: nat_lit 71 :: nat_lit 73 :: nat_lit 74 :: nat_lit 75 :: nat_lit 77 :: nat_lit 78 :: nat_lit 80 :: nat_lit 81 :: nat_lit 82 :: nat_lit 84 :: nat_lit 85 :: nat_lit 87 :: nat_lit 88 :: nat_lit 89 :: nat_lit 91 :: nat_lit 92 :: nat_lit 94 :: nat_lit 95 :: nat_lit 96 :: nat_lit 98 :: nat_lit 99 :: nat_lit 101 :: nat_lit 102 :: nat_lit 103 :: nat_lit 105 :: nat_lit 106 :: nat_lit 108 :: nat_lit 109 :: nat_lit 110 :: nat_lit 112 :: nat_lit 113 :: nat_lit 115 :: nat_lit 116 :: nat_lit 117 :: nat_lit 119 :: nat_lit 120 :: nat_lit 122 :: nat_lit 123 :: nat_lit 124 :: nat_lit 126 :: nat_lit 127 :: nat_lit 129 :: nat_lit 130 :: nat_lit 131 :: nat_lit 134 :: nat_lit 135 :: nat_lit 136 :: nat_lit 137 :: nat_lit 145 :: nat_lit 147 :: nat_lit 148 :: nat_lit 150 :: nat_lit 151 :: nat_lit 152 :: nat_lit 154 :: nat_lit 155 :: nat_lit 157 :: nat_lit 158 :: nat_lit 159 :: nat_lit 160 :: nat_lit 161 :: nat_lit 162 :: nat_lit 163 :: nat_lit 166 :: nat_lit 168 :: nat_lit 169 :: nat_lit 171 :: nat_lit 172 :: nat_lit 173 :: nat_lit 175 :: nat_lit 176 :: nat_lit 178 :: nat_lit 179 :: nat_lit 180 :: nat_lit 182 :: nat_lit 183 :: nat_lit 185 :: nat_lit 186 :: nat_lit 187 :: nat_lit 189 :: nat_lit 190 :: nat_lit 192 :: nat_lit 193 :: nat_lit 194 :: nat_lit 196 :: nat_lit 197 :: nat_lit 199 :: nat_lit 200 :: nat_lit 201 :: nat_lit 203 :: nat_lit 204 :: nat_lit 206 :: nat_lit 207 :: nat_lit 208 :: nat_lit 210 :: nat_lit 211 :: nat_lit 213 :: nat_lit 214 :: nat_lit 215 :: nat_lit 217 :: nat_lit 218 :: nat_lit 220 :: nat_lit 221 :: nat_lit 222 :: nat_lit 225 :: nat_lit 226 :: nat_lit 227 :: nat_lit 230 :: nat_lit 231 :: nat_lit 232 :: nat_lit 234 :: nat_lit 235 :: nat_lit 237 :: nat_lit 238 :: nat_lit 239 :: nat_lit 241 :: nat_lit 242 :: nat_lit 244 :: nat_lit 245 :: nat_lit 246 :: nat_lit 249 :: nat_lit 250 :: nat_lit 251 :: nat_lit 254 :: nat_lit 255 :: nat_lit 256 :: nat_lit 258 :: nat_lit 259 :: nat_lit 261 :: nat_lit 262 :: nat_lit 263 :: nat_lit 266 :: nat_lit 267 :: nat_lit 275 :: nat_lit 277 :: nat_lit 278 :: nat_lit 280 :: nat_lit 281 :: nat_lit 282 :: nat_lit 284 :: nat_lit 285 :: nat_lit 287 :: nat_lit 288 :: nat_lit 289 :: nat_lit 292 :: nat_lit 293 :: nat_lit 294 :: nat_lit 296 :: nat_lit 297 :: nat_lit 299 :: nat_lit 300 :: nat_lit 301 :: nat_lit 303 :: nat_lit 304 :: nat_lit 306 :: nat_lit 307 :: nat_lit 308 :: nat_lit 310 :: nat_lit 311 :: nat_lit 313 :: nat_lit 314 :: nat_lit 315 :: nat_lit 316 :: nat_lit 317 :: nat_lit 318 :: nat_lit 319 :: nat_lit 322 :: nat_lit 324 :: nat_lit 325 :: nat_lit 327 :: nat_lit 328 :: nat_lit 329 :: nat_lit 331 :: nat_lit 332 :: nat_lit 334 :: nat_lit 335 :: nat_lit 336 :: nat_lit 338 :: nat_lit 339 :: nat_lit 341 :: nat_lit 342 :: nat_lit 343 :: nat_lit 345 :: nat_lit 346 :: nat_lit 348 :: nat_lit 349 :: nat_lit 350 :: nat_lit 353 :: nat_lit 354 :: nat_lit 355 :: nat_lit 358 :: nat_lit 359 :: nat_lit 360 :: nat_lit 362 :: nat_lit 363 :: nat_lit 365 :: nat_lit 366 :: nat_lit 367 :: nat_lit 369 :: nat_lit 370 :: nat_lit 372 :: nat_lit 373 :: nat_lit 374 :: nat_lit 376 :: nat_lit 377 :: nat_lit 379 :: nat_lit 380 :: nat_lit 381 :: nat_lit 384 :: nat_lit 385 :: []
noncomputable def hd.view_39 : Program := view PySem.Challenge.pw_or0057_01 [1, 2, 4, 5, 7, 8, 9, 10, 11, 12, 13, 14, 15, 16, 17, 18, 19, 20, 22, 23, 24, 25, 26, 27, 28, 29, 30, 31, 32, 33, 34, 35, 36, 37, 38, 39, 40, 41, 42, 43, 44, 45, 46, 47, 48, 49, 51, 52, 53, 54, 55]
noncomputable def hd.btOf : List Obj → Nat → BT → BT
  | [], _, t => t
  | o :: l, i, t => hd.btOf l (i + 1) (t.ins i o)
noncomputable abbrev hd.body : List Stmt := behindTheImports hd.pg
noncomputable def hd.env : Env := { scope := hd.pg.main.scope, locals := mainNs, globals := mainNs, cells := [], code := .ref 13, frame := some 14 }
noncomputable abbrev hd.cd : Code := .body hd.body hd.env
noncomputable abbrev hd.fr : List Frame := [topFrame ⟨0, 0, 0, 0⟩]
noncomputable def hd.sts (i k : Nat) : List Stmt := (hd.body.drop i).take k
noncomputable def hd.s0 (P : Params) (os : OsState) : SharedT := ⟨hd.btOf (hd.l0 P) 0 .nil, 15, {}, #[], {}, 187, os⟩
noncomputable def hd.s1 (P : Params) (os : OsState) : SharedT := ⟨hd.btOf (hd.l1 P) 0 .nil, 43, {}, #[], {}, 229, os⟩
noncomputable def hd.s2 (P : Params) (os : OsState) : SharedT := ⟨hd.btOf (hd.l2 P) 0 .nil, 82, {}, #[], {}, 287, os⟩
noncomputable def hd.s3 (P : Params) (os : OsState) : SharedT := ⟨hd.btOf (hd.l3 P) 0 .nil, 138, {}, #[], {}, 401, os⟩
noncomputable def hd.s4 (P : Params) (os : OsState) : SharedT := ⟨hd.btOf (hd.l4 P) 0 .nil, 194, {}, #[], {}, 483, os⟩
noncomputable def hd.s5 (P : Params) (os : OsState) : SharedT := ⟨hd.btOf (hd.l5 P) 0 .nil, 268, {}, #[], {}, 572, os⟩
noncomputable def hd.s6 (P : Params) (os : OsState) : SharedT := ⟨hd.btOf (hd.l6 P) 0 .nil, 322, {}, #[], {}, 643, os⟩
noncomputable def hd.s7 (P : Params) (os : OsState) : SharedT := ⟨hd.btOf (hd.l7 P) 0 .nil, 386, {}, #[], {}, 734, os⟩
theorem hd.r0 (w : World) : (fun os => topGo treeTable hd.pg w 11 (some (.ref 6)) 12 ⟨boot_heap w.params, #[], boot_drawn, boot_toks, os⟩ (topStub hd.pg)) = fun os => some ((hd.s0 w.params os).abs, ⟨denote treeTable hd.cd, hd.cd, ⟨0, 0, 0, 0⟩, hd.fr⟩) := by kernel_rfl
theorem hd.rb (w : World) : (fun os => segRun treeTable hd.pg w 11 (some (.ref 6)) 1 1 (hd.s0 w.params os).abs (blockOf hd.body hd.env hd.cd ⟨0, 0, 0, 0⟩ hd.fr)) = fun os => some (.next, (hd.s0 w.params os).abs, hd.cd, ⟨0, 0, 0, 0⟩) := by kernel_rfl
theorem hd.p0 (w : World) : (fun os => segRunT treeTable hd.pg w 11 (some (.ref 6)) 1 278 (hd.s0 w.params os) (piecesOf (hd.sts 0 2) hd.env hd.cd ⟨0, 0, 0, 0⟩ hd.fr)) = fun os => some (.next, hd.s1 w.params os, hd.cd, ⟨2, 0, 10, 35⟩) := by first | (rw [PySem.W.Fast.te10110043849684766642, PySem.W.Fast.te14364793385576792824]; kernel_rfl) | kernel_rfl
theorem hd.p1 (w : World) : (fun os => segRunT treeTable hd.pg w 11 (some (.ref 6)) 1 386 (hd.s1 w.params os) (piecesOf (hd.sts 2 11) hd.env hd.cd ⟨2, 0, 10, 35⟩ hd.fr)) = fun os => some (.next, hd.s2 w.params os, hd.cd, ⟨25, 0, 28, 55⟩) := by first | (rw [PySem.W.Fast.te10110043849684766642, PySem.W.Fast.te14364793385576792824]; kernel_rfl) | kernel_rfl
theorem hd.p2 (w : World) : (fun os => segRunT treeTable hd.pg w 11 (some (.ref 6)) 1 343 (hd.s2 w.params os) (piecesOf (hd.sts 13 14) hd.env hd.cd ⟨25, 0, 28, 55⟩ hd.fr)) = fun os => some (.next, hd.s3 w.params os, hd.cd, ⟨110, 0, 110, 9⟩) := by first | (rw [PySem.W.Fast.te10110043849684766642, PySem.W.Fast.te14364793385576792824]; kernel_rfl) | kernel_rfl
theorem hd.p3 (w : World) : (fun os => segRunT treeTable hd.pg w 11 (some (.ref 6)) 1 388 (hd.s3 w.params os) (piecesOf (hd.sts 27 5) hd.env hd.cd ⟨110, 0, 110, 9⟩ hd.fr)) = fun os => some (.next, hd.s4 w.params os, hd.cd, ⟨133, 0, 137, 16⟩) := by first | (rw [PySem.W.Fast.te10110043849684766642, PySem.W.Fast.te14364793385576792824]; kernel_rfl) | kernel_rfl
theorem hd.p4 (w : World) : (fun os => segRunT treeTable hd.pg w 11 (some (.ref 6)) 1 344 (hd.s4 w.params os) (piecesOf (hd.sts 32 12) hd.env hd.cd ⟨133, 0, 137, 16⟩ hd.fr)) = fun os => some (.next, hd.s5 w.params os, hd.cd, ⟨168, 0, 172, 46⟩) := by first | (rw [PySem.W.Fast.te10110043849684766642, PySem.W.Fast.te14364793385576792824]; kernel_rfl) | kernel_rfl
theorem hd.p5 (w : World) : (fun os => segRunT treeTable hd.pg w 11 (some (.ref 6)) 1 383 (hd.s5 w.params os) (piecesOf (hd.sts 44 1) hd.env hd.cd ⟨168, 0, 172, 46⟩ hd.fr)) = fun os => some (.next, hd.s6 w.params os, hd.cd, ⟨173, 0, 204, 29⟩) := by first | (rw [PySem.W.Fast.te10110043849684766642, PySem.W.Fast.te14364793385576792824]; kernel_rfl) | kernel_rfl
theorem hd.p6 (w : World) : (fun os => segRunT treeTable hd.pg w 11 (some (.ref 6)) 1 313 (hd.s6 w.params os) (piecesOf (hd.sts 45 11) hd.env hd.cd ⟨173, 0, 204, 29⟩ hd.fr)) = fun os => some (.next, hd.s7 w.params os, hd.cd, ⟨283, 0, 300, 87⟩) := by first | (rw [PySem.W.Fast.te10110043849684766642, PySem.W.Fast.te14364793385576792824]; kernel_rfl) | kernel_rfl
theorem hd.re (w : World) (os : OsState) : topRun treeTable hd.pg w 11 (some (.ref 6)) 2 (hd.s7 w.params os).abs ⟨doneF .next, hd.cd, ⟨283, 0, 300, 87⟩, hd.fr⟩ = some (hd.s7 w.params os).abs := rfl
theorem hd.cells : hd.body = hd.sts 0 2 ++ (hd.sts 2 11 ++ (hd.sts 13 14 ++ (hd.sts 27 5 ++ (hd.sts 32 12 ++ (hd.sts 44 1 ++ (hd.sts 45 11 ++ [])))))) := by kernel_rfl
theorem hd.run (w : World) (os : OsState) : topRun treeTable hd.pg w 11 (some (.ref 6)) (12 + (1 + (278 + (386 + (343 + (388 + (344 + (383 + (313 + 2))))))))) ⟨boot_heap w.params, #[], boot_drawn, boot_toks, os⟩ (topStub hd.pg) = some (hd.s7 w.params os).abs := by
  refine go_top (congrFun (hd.r0 w) os) (piece_block (congrFun (hd.rb w) os) ?_)
  rw [hd.cells]
  exact piece_app (segRun_of (congrFun (hd.p0 w) os)) (piece_app (segRun_of (congrFun (hd.p1 w) os)) (piece_app (segRun_of (congrFun (hd.p2 w) os)) (piece_app (segRun_of (congrFun (hd.p3 w) os)) (piece_app (segRun_of (congrFun (hd.p4 w) os))
    (piece_app (segRun_of (congrFun (hd.p5 w) os)) (piece_app (segRun_of (congrFun (hd.p6 w) os)) (piece_nil (hd.re w os))))))))
end
open PySem PySem.W PyProof.Rows
noncomputable def hd.H (P : Params) : Heap := ⟨(hd.l7 P).toArray, {}⟩
theorem hd.abs7 (w : World) : (fun os => (hd.s7 w.params os).abs) = fun os => ⟨hd.H w.params, #[], {}, 734, os⟩ := by kernel_rfl
noncomputable abbrev hd.hook : Hook := kHook hd.heap_39 hd.as (fun _ => by kernel_rfl)
noncomputable abbrev hd.lv : List (PySem.Str × WData) := [(.ofString "MOST_ZONE", .int 5999)]
noncomputable abbrev hd.loose : List PySem.Str := [.ofString "PostError", .ofString "MOST_ZONE"]
noncomputable abbrev hd.Xt (s : Shared) : Bool := xlAt hd.view_39 hd.lv s && recOk PySem.Challenge.rw_or0057_01.row.records s
theorem hd.k1 (w : World) : (fun os : OsState => staticsOk (importedModules hd.pg.main.body) (boot_heap w.params) (hd.H w.params) && namesBound hd.pg (hd.H w.params) && gensDone ⟨hd.H w.params, #[], {}, 734, os⟩ && laidKept (boot_heap w.params) (hd.H w.params)) = fun _ => true := by kernel_rfl
theorem hd.k2 (w : World) : (fun os : OsState => openSeen hd.view_39 hd.loose (importedModules hd.pg.main.body) hd.Xt true ⟨hd.H w.params, #[], {}, 734, os⟩) = fun _ => openGood hd.view_39 hd.loose := by kernel_rfl
theorem hd.k3 (w : World) : (fun os : OsState => hd.hook.obs ⟨hd.H w.params, #[], {}, 734, os⟩) = fun _ => hd.hook.val w := by kernel_rfl
theorem hd.left : LeftO PySem.Challenge.rw_or0057_01.row.prog hd.view_39 hd.loose hd.Xt hd.hook.obs hd.hook.val 4982 := by
  refine LeftO.of_pieces (H₁ := hd.H) (boot_open (by kernel_rfl) (by decide) (fun s => by kernel_rfl)) (m₀ := 11) (ann := some (.ref 6)) (fun w => by kernel_rfl) (fun w os => (hd.run w os).trans (congrArg some (congrFun (hd.abs7 w) os))) (by decide) (fun w => funext fun os => ?_)
  have e1 := congrFun (hd.k1 w) os
  have e2 := congrFun (hd.k2 w) os
  have e3 := congrFun (hd.k3 w) os
  exact congr (congrArg Prod.mk e1) (congr (congrArg Prod.mk e2) e3)
open PySem PySem.W PySem.Calls PyProof.Rows PySem.Spec
def fns : List Nat := [52, 61, 66, 74, 81, 109, 116, 123, 130, 135, 158, 161, 172, 179, 186, 193, 200, 207, 214, 221, 226, 231, 238, 245, 250, 255, 262, 288, 293, 300, 307, 314, 317, 328, 335, 342, 349, 354, 359, 366, 373, 380]
def Keeps (h h' : Heap) : Prop := ∀ b o, h.get? b = some o → h'.get? b = some o
theorem Keeps.refl (h : Heap) : Keeps h h := fun _ _ e => e
theorem Keeps.trans {a b c : Heap} (x : Keeps a b) (y : Keeps b c) : Keeps a c := fun _ _ e => y _ _ (x _ _ e)
theorem Keeps.fr {h₀ h h' : Heap} {L : Addr} {m : Str → Option Value} (k : Keeps h h') (F : Fr h₀ L h m) : Fr h₀ L h' m := by
  obtain ⟨⟨oL, a1, a2, hL, a3⟩, k1, k2⟩ := F
  exact ⟨⟨oL, a1, a2, k _ _ hL, a3⟩, fun b o e => k _ _ (k1 b o e), k2⟩
theorem Keeps.news {h₀ h h' : Heap} {L : Addr} {n : List (Addr × Obj)} (k : Keeps h h') (N : News h₀ L h n) : News h₀ L h' n :=
  fun p hp => ⟨k _ _ (N p hp).1, (N p hp).2⟩


section
variable {prog : Program} {w : World} {A A₀ : Around} {s : Shared} {K : Frag} {L : Addr} {h₀ base : Heap} {m mg mb : Str → Option Value} {p : Program} {loose : List Str} {mean : ExcName → Option Value}

theorem code_defP {env : Env} {outer : List Env} {R : Result → Shared → Prop} {name qual : Str} {params params₁ : Arguments} {body body₁ : List Stmt} {scope scope₁ : Scope} {dV kV doc pm cdv ct oc : Value} {an od : Option Addr} {osl : Array (Option Value)} {f : Addr} {args : Args} {binds : List (Str × Value)}
    (B : Below A₀ base outer h₀) (F : Fr h₀ L s.heap m) (X₀ : K.In h₀) (T : Top p loose mean mg mb h₀) (hA : A.frames = some (env :: outer)) (hf : env.frame = some L) (hke : env.scope.kind = .function)
    (ho : K.lookup f = some ⟨oc, od, .func (fnOf name qual params body scope dV kV doc pm an cdv ct), osl⟩) (hp : params = params₁) (hb : body = body₁) (hs : scope = scope₁) (hcd : codeIn K cdv qual = true) (hroom : A.depth < recursionLimit)
    (hbind : BindsTo s (fnOf name qual params₁ body₁ scope₁ dV kV doc pm an cdv ct) args binds) (hloc : ∀ y ∈ binds, scope₁.names.lookup y.1 = some .local)
    (h : ∀ g L' h₁, Fr h₀ L g m → Fr g L' h₁ (fun y => binds.reverse.lookup y) → News g L' h₁ [] → Below A base (env :: outer) g → K.In g → Top p loose mean mg mb g → Keeps s.heap g → Keeps g s.heap →
      wpAny (model prog w) (A.deeper (envOf qual scope₁ L' f cdv)) (execs body₁ (envOf qual scope₁ L' f cdv))
        (fun fl s' => LeaveK h₀ L m g R (match fl with | .ret v => v | _ => .none) s')
        (fun e s' => wpAny (model prog w) (A.deeper (envOf qual scope₁ L' f cdv)) (leaving (envOf qual scope₁ L' f cdv) e) (fun _ s'' => R (.error e) s'') (fun e' s'' => R (.error e') s'') s')
        { s with heap := h₁, toks := s.toks + binds.length })
    (hco : scope₁.isCoroutine = false) (hgen : scope₁.isGenerator = false) (hk : scope₁.kind = .function)
    (hcell : ∀ x ∈ scope₁.names, x.2 ≠ .cell) : codeAny (model prog w) A (.call (.ref f) args) R s := by
  subst hp hb hs
  obtain ⟨FG, BG, st, lv⟩ := groundX (R := R) B F News.nil hA hf hke
  refine codeAny_call_def (fd := fnX name qual params body scope [] dV kV doc pm an cdv ct) (body := body) (binds := binds) hroom ((X₀.keeps F.keep) _ _ ho) rfl (T.nolimit.keeps F.keep) (codeRec_of (X₀.keeps F.keep) hcd) rfl hbind hcell hloc (fun h₁ hns hk₁ => ?_) hco hgen hk
  exact wpAny_mono (h s.heap s.heap.objs.size h₁ FG ⟨hns, fun b o e => hk₁ b o e, Nat.le_refl _⟩ News.nil BG (X₀.keeps st) (T.keeps st) (Keeps.refl _) (Keeps.refl _)) (fun fl s' hl => lv _ _ hl) fun _ _ y => y
theorem code_defN {news : List (Addr × Obj)} {env : Env} {outer : List Env} {R : Result → Shared → Prop} {name qual : Str} {params params₁ : Arguments} {body body₁ : List Stmt} {scope scope₁ : Scope} {dV kV doc pm cdv ct oc : Value} {an od : Option Addr} {osl : Array (Option Value)} {f : Addr} {args : Args} {binds : List (Str × Value)}
    (B : Below A₀ base outer h₀) (F : Fr h₀ L s.heap m) (X₀ : K.In h₀) (N : News h₀ L s.heap news) (T : Top p loose mean mg mb h₀) (hA : A.frames = some (env :: outer)) (hf : env.frame = some L) (hke : env.scope.kind = .function)
    (ho : K.lookup f = some ⟨oc, od, .func (fnOf name qual params body scope dV kV doc pm an cdv ct), osl⟩) (hp : params = params₁) (hb : body = body₁) (hs : scope = scope₁) (hcd : codeIn K cdv qual = true) (hroom : A.depth < recursionLimit)
    (hbind : BindsTo s (fnOf name qual params₁ body₁ scope₁ dV kV doc pm an cdv ct) args binds) (hloc : ∀ y ∈ binds, scope₁.names.lookup y.1 = some .local)
    (h : ∀ g L' h₁, Fr h₀ L g m → Fr g L' h₁ (fun y => binds.reverse.lookup y) → News g L' h₁ news → Below A base (env :: outer) g → K.In g → Top p loose mean mg mb g →
      wpAny (model prog w) (A.deeper (envOf qual scope₁ L' f cdv)) (execs body₁ (envOf qual scope₁ L' f cdv))
        (fun fl s' => LeaveK h₀ L m g R (match fl with | .ret v => v | _ => .none) s')
        (fun e s' => wpAny (model prog w) (A.deeper (envOf qual scope₁ L' f cdv)) (leaving (envOf qual scope₁ L' f cdv) e) (fun _ s'' => R (.error e) s'') (fun e' s'' => R (.error e') s'') s')
        { s with heap := h₁, toks := s.toks + binds.length })
    (hco : scope₁.isCoroutine = false) (hgen : scope₁.isGenerator = false) (hk : scope₁.kind = .function)
    (hcell : ∀ x ∈ scope₁.names, x.2 ≠ .cell) : codeAny (model prog w) A (.call (.ref f) args) R s := by
  subst hp hb hs
  exact code_def B F X₀ N T hA hf hke ho hcd hroom hbind hloc h hco hgen hk hcell
theorem letA {M : Model} {A : Around} {t : Sem Flow} {Q : Flow → Shared → Prop} {E : Value → Shared → Prop} {s : Shared} (h : let A' := A; let Q' := Q; let E' := E; wpAny M A' t Q' E' s) : wpAny M A t Q E s := h
theorem room_ (k : Nat) {x b n : Nat} (h : x + b < n) (e : k ≤ b) : x + k < n := Nat.lt_of_le_of_lt (Nat.add_le_add_left e x) h
theorem room_0 {x b n : Nat} (h : x + b < n) : x < n := Nat.lt_of_le_of_lt (Nat.le_add_right x b) h
end

section
variable {prog : Program} {w : World} {A : Around} {E : Value → Shared → Prop} {s : Shared} {b x : Array UInt8} {tb tx tc : Tok} {c : Int}
theorem gives_bytes_contains_int (h0 : 0 ≤ c) (h1 : c < 256) : Gives (Builtin.«bytes.__contains__» ⟨[.bytes b tb, .int c tc], []⟩) (.val (.bool (b.contains c.toNat.toUInt8))) := by
  refine .of_wp fun M A E s Q hq => ?_
  show wpAny M A (Builtin.Bytes.containsIn "bytes.__contains__" (.bytes b tb) (.int c tc) >>= fun r => _) _ E s
  refine wpAny_bind ?_
  unfold Builtin.Bytes.containsIn
  refine wpAny_bind (wpAny_attempt ?_)
  refine wpAny_of_eq (a := c) rfl ?_
  refine wpAny_bind (wpAny_of_eq KBy.buffer_eq ?_)
  dsimp only
  refine wpAny_ite ?_
  rw [if_neg (by simp; lia)]
  exact wpAny_pure (wpAny_pure ⟨_, rfl, hq⟩)
theorem in_bytes_int {Q : Value → Shared → Prop} (h0 : 0 ≤ c) (h1 : c < 256) (h : Q (.bool (b.contains c.toNat.toUInt8)) s) :
    wpAny (model prog w) A (compareOp .In (.int c tc) (.bytes b tb)) Q E s :=
  in_gives (typeIs_bytes s b tb) FB.slot_bytes_contains FB.entry_bytes_contains (FB.args_bytes_contains_2 _ _) (gives_bytes_contains_int h0 h1) h

theorem no_index_bytes : typeLookup (.type "bytes") "__index__" = pure none := by rw [typeLookup_type, builtinLookup_eq_fast]; kernel_rfl

theorem meets_bytes_contains : Meets (Builtin.«bytes.__contains__» ⟨[.bytes b tb, .bytes x tx], []⟩)
    (fun A R s => A.handled = none ∧ ∀ h' tk', Keeps s.heap h' → R (.ok (.ret (.bool (Builtin.Bytes.find? b x 0 b.size).isSome))) { s with heap := h', toks := tk' }) := by
  refine .of_wp fun prog w A R s hS => ?_
  obtain ⟨hh, hR⟩ := hS
  show wpAny _ _ (Builtin.Bytes.containsIn "bytes.__contains__" (.bytes b tb) (.bytes x tx) >>= fun r => _) _ _ s
  refine wpAny_bind ?_
  unfold Builtin.Bytes.containsIn
  refine wpAny_bind (wpAny_attempt ?_)
  unfold asIndex
  refine wpAny_bind (wpAny_of_eq (a := none) rfl ?_)
  refine wpAny_bind ?_
  unfold callSpecial?
  refine wpAny_bind (wpAny_of_eq (KBy.special_eq no_index_bytes) (wpAny_pure ?_))
  dsimp only
  refine wpAny_bind (wpAny_of_eq (a := "bytes") (by rfl) ?_)
  refine wpAny_raiseErrorMade plainExc_TypeError hh (fun h' tk e hN => ?_) (by decide +kernel)
  refine wpAny_bind (wpAny_of_eq KBy.buffer_eq ?_)
  dsimp only
  refine wpAny_bind (wpAny_of_eq KBy.buffer_eq ?_)
  dsimp only
  refine wpAny_bind (wpAny_rule (wpAny_pure (wpAny_pure ⟨_, rfl, ?_⟩)))
  exact hR _ _ hN.keeps

theorem in_bytes_bytes {Q : Value → Shared → Prop} (hh : A.handled = none) (h : ∀ h' tk', Keeps s.heap h' → Q (.bool (Builtin.Bytes.find? b x 0 b.size).isSome) { s with heap := h', toks := tk' }) :
    wpAny (model prog w) A (compareOp .In (.bytes x tx) (.bytes b tb)) Q E s := by
  show wpAny _ _ (do return .bool (← contains (.bytes b tb) (.bytes x tx))) Q E s
  refine wpAny_bind (wpAny_contains_slot (typeIs_bytes s b tb) FB.slot_bytes_contains ?_)
  refine call_meets FB.slot_bytes_contains (typeIs_bytes s b tb) FB.entry_bytes_contains (FB.args_bytes_contains_2 _ _) meets_bytes_contains ⟨hh, fun h' tk' hK => ?_⟩
  exact wpAny_pure (wpAny_pure (h h' tk' hK))
end

section
variable {s : Shared} {h' : Heap} {tk' : Nat} {Q : Value → Shared → Prop} {t : Tok}
theorem ret_int {x y : Int} (hret : ∀ t h' tk', Keeps s.heap h' → Q (.int x t) { s with heap := h', toks := tk' }) (e : y = x) (k : Keeps s.heap h') : Q (.int y t) { s with heap := h', toks := tk' } := by
  subst e; exact hret _ _ _ k
theorem ret_str {x y : Str} (hret : ∀ t h' tk', Keeps s.heap h' → Q (.str x t) { s with heap := h', toks := tk' }) (e : y = x) (k : Keeps s.heap h') : Q (.str y t) { s with heap := h', toks := tk' } := by
  subst e; exact hret _ _ _ k
theorem ret_bool {x y : Bool} (hret : ∀ h' tk', Keeps s.heap h' → Q (.bool x) { s with heap := h', toks := tk' }) (e : y = x) (k : Keeps s.heap h') : Q (.bool y) { s with heap := h', toks := tk' } := by
  subst e; exact hret _ _ k
end

def Stop (P : Prop) : Prop := P
theorem stop_ {P : Prop} (h : Stop P) : P := h
theorem Stop.out {P : Prop} (h : P) : Stop P := h
theorem tok_gen {A : Around} {α : Type} {c : Sem α} {Q : α → Shared → Prop} {E : Value → Shared → Prop} {prog : Program} {w : World} {h : Heap} {gs : Array GenState} {dr : Drawn} {a b : Nat} {o : OsState} (H : ∀ t, wpAny (model prog w) A c Q E ⟨h, gs, dr, t, o⟩) : wpAny (model prog w) A c Q E ⟨h, gs, dr, a + b, o⟩ := H _
theorem stopC {M : Model} {A : Around} {f : Nat} {args : List Value} {Q E : Value → Shared → Prop} {s : Shared} (_ : fns.contains f = true) (h : Stop (wpAny M A (call (.ref f) args) Q E s)) : wpAny M A (call (.ref f) args) Q E s := h

section
variable {prog : Program} {w : World} {A : Around} {E : Value → Shared → Prop} {s : Shared} {value slice : PySem.Expr} {b : Array UInt8} {t : Tok} {h₀ : Heap} {L : Addr} {m : PySem.Str → Option Value} {news : List (Addr × Obj)} {ks : List Int} {i j : Int} {Q : Value → Shared → Prop}
theorem cut_list {i j : Int} {ks : List Int} (h0 : 0 ≤ i) (h1 : i ≤ j) : (ks.drop (clipAt ks.length i)).take (clipAt ks.length j - clipAt ks.length i) = (ks.drop i.toNat).take (j - i).toNat := by
  obtain ⟨a, rfl⟩ := Int.eq_ofNat_of_zero_le h0
  obtain ⟨c, rfl⟩ := Int.le.dest h1
  have e (n : Nat) : clipAt ks.length (n : Int) = min n ks.length := clipAt_nat _ _
  rw [show ((a : Int) + (c : Int)) = ((a + c : Nat) : Int) from rfl, e, e, show (((a + c : Nat) : Int) - (a : Int)).toNat = c by rw [Int.natCast_add, Int.add_comm, Int.add_sub_cancel]; rfl]
  show _ = (ks.drop a).take c
  rcases Nat.le_total a ks.length with q | q
  · rw [Nat.min_eq_left q]
    rcases Nat.le_total (a + c) ks.length with r | r
    · rw [Nat.min_eq_left r, Nat.add_sub_cancel_left]
    · rw [Nat.min_eq_right r, List.take_of_length_le (Nat.le_of_eq List.length_drop), List.take_of_length_le (by rw [List.length_drop]; exact Nat.sub_le_iff_le_add'.mpr r)]
  · rw [Nat.min_eq_right q, List.drop_of_length_le q, List.drop_of_length_le (Nat.le_refl _), List.take_nil, List.take_nil]
theorem m_cut {ti tj : Tok} (hF : Fr h₀ L s.heap m) (hN : News h₀ L s.heap news) (hk : KBw.bInts b = ks) (h0 : 0 ≤ i) (h1 : i ≤ j) (hz : ks.length ≤ 100)
    (h : ∀ v h' t' k, Fr h₀ L h' m → News h₀ L h' news → KBw.bInts v = (ks.drop i.toNat).take (j - i).toNat → Q (.bytes v t') { s with heap := h', toks := k })
    (hs : subscripted slice false (.bytes b t) (.ref s.heap.objs.size) = operate [.ref s.heap.objs.size, .bytes b t] (getItem (.bytes b t) (.ref s.heap.objs.size)) := by with_unfolding_all rfl)
    (ht : ∀ r, letTemporaryGo value (.bytes b t) r = pure () := by intro _; with_unfolding_all rfl) :
    wpAny (model prog w) A (subscriptTail value slice (.bytes b t) (.ref s.heap.objs.size)) Q E { s with heap := s.heap.push { cls := .type "slice", data := .fields #[.int i ti, .int j tj, .none] } } := by
  refine KBc.slice_K (lo := some i) (hi := some j) hF hN hk (by constructor) (by constructor) (by lia) (fun h' t' k F N e => h _ h' t' k F N ?_) hs ht
  rw [e]
  simp only [Option.elim]
  exact cut_list h0 h1

theorem bInts_inj {x y : Array UInt8} (h : KBw.bInts x = KBw.bInts y) : x = y := by
  have : x.toList = y.toList := by
    have h' : x.toList.map (fun c : UInt8 => (c.toNat : Int)) = y.toList.map (fun c : UInt8 => (c.toNat : Int)) := h
    refine List.map_inj_right (f := fun c : UInt8 => (c.toNat : Int)) (fun a b e => ?_) |>.mp h'
    exact UInt8.toNat_inj.mp (by exact_mod_cast e)
  exact Array.toList_inj.mp this
end

section
variable {prog : Program} {w : World} {A : Around} {E : Value → Shared → Prop} {s : Shared} {x y : Array UInt8} {t u : Tok} {kx ky : List Int} {Q : Value → Shared → Prop}
theorem m_eq_bytes (hx : KBw.bInts x = kx) (hy : KBw.bInts y = ky) (h : Q (.bool (decide (kx = ky))) s) : wpAny (model prog w) A (compareOp .Eq (.bytes x t) (.bytes y u)) Q E s := by
  refine PySem.W.eq_bytes ?_
  have e : (x.toList == y.toList) = decide (kx = ky) := by
    subst hx hy
    by_cases q : x = y
    · subst q; simp
    · have q1 : ¬ (KBw.bInts x = KBw.bInts y) := fun z => q (bInts_inj z)
      simp [q1, q]
  rw [e]; exact h
theorem m_eq_bytes_ff (hx : KBw.bInts x = kx) (hy : KBw.bInts y = ky) (hn : kx ≠ ky) (h : Q (.bool false) s) : wpAny (model prog w) A (compareOp .Eq (.bytes x t) (.bytes y u)) Q E s :=
  m_eq_bytes hx hy (by rw [decide_eq_false hn]; exact h)
end

section
variable {prog : Program} {w : World} {A : Around} {E : Value → Shared → Prop} {s : Shared} {value slice : PySem.Expr} {b : Array UInt8} {t : Tok} {h₀ : Heap} {L : Addr} {m : PySem.Str → Option Value} {news : List (Addr × Obj)} {ks r : List Int} {i j k : Int} {Q : Value → Shared → Prop}
theorem m_cut1 {ti tj : Tok} (hF : Fr h₀ L s.heap m) (hN : News h₀ L s.heap news) (hk : KBw.bInts b = ks) (hdr : ks.drop i.toNat = k :: r) (h0 : 0 ≤ i) (hz : ks.length ≤ 100)
    (h : ∀ v h' t' k', Fr h₀ L h' m → News h₀ L h' news → KBw.bInts v = [k] → Q (.bytes v t') { s with heap := h', toks := k' })
    (hs : subscripted slice false (.bytes b t) (.ref s.heap.objs.size) = operate [.ref s.heap.objs.size, .bytes b t] (getItem (.bytes b t) (.ref s.heap.objs.size)) := by with_unfolding_all rfl)
    (ht : ∀ r, letTemporaryGo value (.bytes b t) r = pure () := by intro _; with_unfolding_all rfl) :
    wpAny (model prog w) A (subscriptTail value slice (.bytes b t) (.ref s.heap.objs.size)) Q E { s with heap := s.heap.push { cls := .type "slice", data := .fields #[.int i ti, .int (i + 1) tj, .none] } } :=
  m_cut hF hN hk h0 (by lia) hz (fun v h' t' k' F N e => h v h' t' k' F N (by rw [e, hdr, show (i + 1 - i).toNat = 1 by lia]; rfl)) hs ht
theorem m_cut2 {ti tj : Tok} (hF : Fr h₀ L s.heap m) (hN : News h₀ L s.heap news) (hk : KBw.bInts b = ks) (hdr : ks.drop i.toNat = k :: r) (h0 : 0 ≤ i) (hz : ks.length ≤ 100)
    (h : ∀ v h' t' k', Fr h₀ L h' m → News h₀ L h' news → KBw.bInts v = k :: r.take 1 → Q (.bytes v t') { s with heap := h', toks := k' })
    (hs : subscripted slice false (.bytes b t) (.ref s.heap.objs.size) = operate [.ref s.heap.objs.size, .bytes b t] (getItem (.bytes b t) (.ref s.heap.objs.size)) := by with_unfolding_all rfl)
    (ht : ∀ r, letTemporaryGo value (.bytes b t) r = pure () := by intro _; with_unfolding_all rfl) :
    wpAny (model prog w) A (subscriptTail value slice (.bytes b t) (.ref s.heap.objs.size)) Q E { s with heap := s.heap.push { cls := .type "slice", data := .fields #[.int i ti, .int (i + 2) tj, .none] } } :=
  m_cut hF hN hk h0 (by lia) hz (fun v h' t' k' F N e => h v h' t' k' F N (by rw [e, hdr, show (i + 2 - i).toNat = 2 by lia]; rfl)) hs ht
theorem m_item {ui : Tok} (hk : KBw.bInts b = ks) (hdr : ks.drop i.toNat = k :: r) (h0 : 0 ≤ i) (hz : ks.length ≤ 100)
    (h : ∀ t' k', 0 ≤ k → k < 256 → Q (.int k t') { s with toks := k' })
    (hs : subscripted slice false (.bytes b t) (.int i ui) = operate [.bytes b t, .int i ui] (getItem (.bytes b t) (.int i ui)) := by with_unfolding_all rfl)
    (ht : ∀ r, letTemporaryGo value (.bytes b t) r = pure () := by intro _; with_unfolding_all rfl) : wpAny (model prog w) A (subscriptTail value slice (.bytes b t) (.int i ui)) Q E s := by
  have hl : i.toNat < ks.length := by
    have := congrArg List.length hdr
    simp only [List.length_drop, List.length_cons] at this
    lia
  have hg : ks.getD i.toNat 0 = k := by
    have := congrArg (fun l => l.getD 0 0) hdr
    simpa [List.getD] using this
  refine KBw.item_K hk (by lia) h0 (by lia) (fun t' k' p q => ?_) hs ht
  rw [hg] at p q ⊢
  exact h t' k' p q
end

def signU : Array UInt8 := #[60, 62, 64, 44, 59, 58, 46, 92]
theorem find_sign : ∀ n, n < 256 → (Builtin.Bytes.find? signU #[UInt8.ofNat n] 0 8).isSome = signU.contains (UInt8.ofNat n) := by decide +kernel
def signB (k : Int) : Bool := signU.contains k.toNat.toUInt8
section
variable {prog : Program} {w : World} {A : Around} {E : Value → Shared → Prop} {s : Shared} {x : Array UInt8} {tb tx : Tok} {k : Int}
theorem m_in_signs {Q : Value → Shared → Prop} (hh : A.handled = none) (hx : KBw.bInts x = [k]) (h : ∀ h' tk', Keeps s.heap h' → Q (.bool (signB k)) { s with heap := h', toks := tk' }) :
    wpAny (model prog w) A (compareOp .In (.bytes x tx) (.bytes signU tb)) Q E s := by
  have hk : k ∈ KBw.bInts x := by rw [hx]; exact .head _
  have hr := KBw.ints_in hk
  have e : x = #[UInt8.ofNat k.toNat] := bInts_inj (by
    rw [hx]
    show [k] = [(((UInt8.ofNat k.toNat).toNat : Nat) : Int)]
    rw [UInt8.toNat_ofNat']
    congr 1; lia)
  refine in_bytes_bytes hh fun h' tk' K => ?_
  have e2 := find_sign k.toNat (by lia)
  rw [e]
  show Q (.bool (Builtin.Bytes.find? signU #[UInt8.ofNat k.toNat] 0 8).isSome) _
  rw [e2]
  exact h h' tk' K
end

abbrev tupO (vs : List Value) : Obj := { cls := .type "tuple", data := .seq vs.toArray }
theorem fr_norm {h₀ h : Heap} {L : Addr} {m₁ : Str → Option Value} (ps : List (Str × Value)) (F : Fr h₀ L h m₁) (hp : ∀ p ∈ ps, m₁ p.1 = some p.2) : Fr h₀ L h (kstB m₁ ps) := by
  have e : kstB m₁ ps = m₁ := funext fun z => kstB_eq hp fun _ => rfl
  rw [e]; exact F
theorem fresh_of {a b : Heap} (k : Keeps a b) {x : Addr} (e : b.get? x = none) : a.get? x = none := by
  cases q : a.get? x with
  | none => rfl
  | some o => have := k x o q; rw [e] at this; cases this
theorem news_add {h₀ h h' : Heap} {L d : Addr} {m : Str → Option Value} {o : Obj} {news : List (Addr × Obj)} (k : Keeps h h') (F : Fr h₀ L h m) (N : News h₀ L h news) (hd : h'.get? d = some o) (hn : h.get? d = none) : News h₀ L h' ((d, o) :: news) := by
  intro p hp
  rcases List.mem_cons.mp hp with rfl | hp
  · refine ⟨hd, fun e => ?_, fresh_of F.keep hn⟩
    obtain ⟨⟨oL, _, _, hL, _⟩, _, _⟩ := F
    have e' : d = L := e
    rw [← e', hn] at hL; cases hL
  · exact ⟨k _ _ (N p hp).1, (N p hp).2⟩
theorem news_ne {h₀ h : Heap} {L d : Addr} {news : List (Addr × Obj)} (N : News h₀ L h news) (hn : h.get? d = none) : ∀ p ∈ news, p.1 ≠ d := fun p hp e => by
  have := (N p hp).1
  rw [e, hn] at this; cases this
theorem news_add2 {h₀ h h' : Heap} {L d d' : Addr} {m : Str → Option Value} {o o' : Obj} {news : List (Addr × Obj)} (k : Keeps h h') (F : Fr h₀ L h m) (N : News h₀ L h news) (hd : h'.get? d = some o) (hn : h.get? d = none) (hd' : h'.get? d' = some o') (hn' : h.get? d' = none) :
    News h₀ L h' ((d, o) :: (d', o') :: news) := by
  intro p hp
  rcases List.mem_cons.mp hp with rfl | hp
  · exact news_add k F N hd hn _ (.head _)
  · exact news_add k F N hd' hn' _ hp
theorem news_sub {h₀ h : Heap} {L : Addr} {l l' : List (Addr × Obj)} (N : News h₀ L h l) (hs : ∀ p ∈ l', p ∈ l) : News h₀ L h l' := fun p hp => N p (hs p hp)
def Src (prog : Program) (w : World) (A : Around) (E : Value → Shared → Prop) (xv : Value) (s₁ : Shared) (n : Nat) (P : Nat → Value → Prop) : Prop :=
  ∀ Q : Value → Shared → Prop, (∀ h₂ I fp wr St, Keeps s₁.heap h₂ → Walks prog w A I fp wr n P St → St 0 h₂ → (∀ b ∈ fp, b < h₂.objs.size) → (∀ b ∈ wr, s₁.heap.get? b = none) → Q (.ref I) { s₁ with heap := h₂ }) → wpAny (model prog w) A (pyIter xv) Q E s₁

section
variable {prog : Program} {w : World} {A : Around} {E : Value → Shared → Prop} {s : Shared}
theorem get_size (h : Heap) : h.get? h.objs.size = none := by
  cases q : h.get? h.objs.size with
  | none => rfl
  | some o => exact absurd (Heap.lt_size q) (Nat.lt_irrefl _)
theorem src_str {x : Str} {t : Tok} (hh : A.handled = none) : Src prog w A E (.str x t) s x.cps.size (SignAt x) := fun Q hQ =>
  wpAny_pyIter_str fun o St W hst => hQ _ _ _ _ St (fun _ _ e => Heap.get?_push_of_some _ e) (W A hh) hst
    (fun b hb => by rw [List.mem_singleton.mp hb]; show _ < (s.heap.push o).objs.size; rw [Heap.size_push]; exact Nat.lt_succ_self _)
    (fun b hb => by rw [List.mem_singleton.mp hb]; exact get_size _)
theorem src_bytes {b : Array UInt8} {t : Tok} (hh : A.handled = none) : Src prog w A E (.bytes b t) s b.size (fun i v => ∃ c u, b[i]? = some c ∧ v = .int (c.toNat : Int) u) := fun Q hQ =>
  KBw.pyIter_bytes (hQ _ _ _ _ _ (fun _ _ e => Heap.get?_push_of_some _ e) (KBw.walks hh _ b t) ⟨_, Heap.get?_push_size _ rfl, rfl, rfl⟩
    (fun b hb => by rw [List.mem_singleton.mp hb]; show _ < (s.heap.push _).objs.size; rw [Heap.size_push]; exact Nat.lt_succ_self _)
    (fun b hb => by rw [List.mem_singleton.mp hb]; exact get_size _))
theorem src_list {l : Addr} {items : Array Value} (hh : A.handled = none) (hl : s.heap.IsList l items) : Src prog w A E (.ref l) s items.size (fun i v => items[i]? = some v) := fun Q hQ => by
  have hlt : l < s.heap.objs.size := by obtain ⟨_, e, _⟩ := hl; exact Heap.lt_size e
  refine wpAny_pyIter_list hl (hQ _ _ _ _ _ (fun _ _ e => Heap.get?_push_of_some _ e) (Walks.list hh s.heap.objs.size l (Nat.ne_of_lt hlt) items) ⟨⟨_, Heap.get?_push_size _ rfl, rfl, rfl⟩, hl.push _⟩ (fun b hb => ?_) (fun b hb => by rw [List.mem_singleton.mp hb]; exact get_size _))
  show b < (s.heap.push _).objs.size
  rw [Heap.size_push]
  rcases List.mem_cons.mp hb with rfl | hb
  · exact Nat.lt_succ_self _
  · rw [List.mem_singleton.mp hb]; exact Nat.lt_succ_of_lt hlt
theorem src_tuple {l : Addr} {items : Array Value} (hh : A.handled = none) (hl : s.heap.IsTuple l items) : Src prog w A E (.ref l) s items.size (fun i v => items[i]? = some v) := fun Q hQ => by
  have hlt : l < s.heap.objs.size := by obtain ⟨_, e, _⟩ := hl; exact Heap.lt_size e
  refine wpAny_pyIter_tuple hl (hQ _ _ _ _ _ (fun _ _ e => Heap.get?_push_of_some _ e) (Walks.tuple hh s.heap.objs.size l (Nat.ne_of_lt hlt) items) ⟨⟨_, Heap.get?_push_size _ rfl, rfl, rfl⟩, hl.at fun o e => Heap.get?_push_of_some _ e⟩ (fun b hb => ?_) (fun b hb => by rw [List.mem_singleton.mp hb]; exact get_size _))
  show b < (s.heap.push _).objs.size
  rw [Heap.size_push]
  rcases List.mem_cons.mp hb with rfl | hb
  · exact Nat.lt_succ_self _
  · rw [List.mem_singleton.mp hb]; exact Nat.lt_succ_of_lt hlt

theorem m_comp {env : Env} {elt iter : PySem.Expr} {x : Str} {px : Pos} {ifs : List PySem.Expr} {scope : Scope} {pos : Pos} {Q : Value → Shared → Prop} (p : Value → Bool) (Fv : Value → Value → Prop)
    (hfree : ∀ y ∈ scope.names, y.2 ≠ .free) (hcell : ∀ y ∈ scope.names, y.2 ≠ .cell) (hkind : scope.kind = .function)
    (hnames : ∀ y ∈ scope.names, y.2 = .local → scope.names.lookup y.1 = some .local) (hx : scope.names.lookup x = some .local)
    (h : wpAny (model prog w) A (eval iter env) (fun xv s₁ => Stop (∃ n P, Src prog w A E xv s₁ n P ∧ n ≤ sizeLine ∧
      (∀ C i v s₂ m₂ E', P i v → s₂.heap.Ns C m₂ → m₂ x = some v → Keeps s₁.heap s₂.heap →
        wpAny (model prog w) A (forIn ifs true fun c r => if r = true then do let ok ← isTrue c (compEnv scope C env) (eval c (compEnv scope C env)); pure (ForInStep.yield ok) else pure (ForInStep.yield r))
          (fun ok s₃ => ok = p v ∧ PySem.Keeps s₂ s₃) E' s₂) ∧
      (∀ C i v s₂ m₂ E', P i v → p v = true → s₂.heap.Ns C m₂ → m₂ x = some v → Keeps s₁.heap s₂.heap →
        wpAny (model prog w) A (eval elt (compEnv scope C env)) (fun y s₃ => Fv v y ∧ PySem.Keeps s₂ s₃) E' s₂) ∧
      (∀ D c ys (vs : List Value) h' tk, s₁.heap.get? D = none → h'.get? D = some (listOf ys c) → vs.length = n → (∀ j v, vs[j]? = some v → P j v) → Paired Fv (vs.filter p) ys.toList → Keeps s₁.heap h' → Q (.ref D) { s₁ with heap := h', toks := tk }))) E s)
    (hs : ∀ x, foldedSetIterable iter env x = pure x := by intro _; rfl) :
    wpAny (model prog w) A (eval (.ListComp elt [⟨.Name x px, iter, ifs, 0⟩] scope pos) env) Q E s := by
  refine wpAny_ListComp_walk p Fv hfree hcell hkind hnames hx (wpAny_mono h (fun xv s₁ h₁ => ?_) fun _ _ e => e) hs
  obtain ⟨n, P, hsrc, hsz, htests, helt, hfin⟩ := h₁
  refine hsrc _ fun h₂ I fp wr St hK W hst hfp hwr => ⟨I, fp, wr, n, P, St, rfl, W, hsz, hst, hfp, ⟨?_, ?_⟩, ?_⟩
  · intro C i v s₃ m₃ E' hP hn hm hk _
    refine htests C i v s₃ m₃ E' hP hn hm fun b o e => hk b o (fun hb => ?_) (hK b o e)
    rw [hwr b hb] at e; cases e
  · intro C i v s₃ m₃ E' hP hp hn hm hk _
    refine helt C i v s₃ m₃ E' hP hp hn hm fun b o e => hk b o (fun hb => ?_) (hK b o e)
    rw [hwr b hb] at e; cases e
  · intro D h' tk ys vs hD _ hpl hlen hP hF hk
    obtain ⟨c, hc⟩ := hpl
    refine hfin D c ys vs h' tk (fresh_of hK hD) hc hlen hP hF fun b o e => hk b o (fun hb => ?_) (hK b o e)
    rw [hwr b hb] at e; cases e
end

theorem paired_eq : ∀ {l l' : List Value}, Paired (fun v y => v = y) l l' → l = l'
  | _, _, .nil => rfl
  | _, _, .cons h t => by rw [h, paired_eq t]
theorem filter_tt {α : Type} : ∀ (l : List α), l.filter (fun _ => true) = l
  | [] => rfl
  | a :: r => by rw [List.filter_cons_of_pos rfl, filter_tt r]
theorem list_of_get {α : Type} : ∀ (l l' : List α), l.length = l'.length → (∀ (j : Nat) (v : α), l[j]? = some v → l'[j]? = some v) → l = l'
  | [], [], _, _ => rfl
  | [], _ :: _, h, _ => by simp at h
  | _ :: _, [], h, _ => by simp at h
  | a :: r, b :: r', h, hg => by
    have h0 := hg 0 a rfl
    simp only [List.getElem?_cons_zero, Option.some.injEq] at h0
    rw [h0, list_of_get r r' (by simpa using h) fun j v hv => by simpa using hg (j + 1) v (by simpa using hv)]
section
variable {prog : Program} {w : World} {A : Around} {E : Value → Shared → Prop} {s : Shared} {K : Frag} {h₀ : Heap} {L C : Addr} {m m₂ mg mb : Str → Option Value} {p : Program} {loose : List Str} {scope : Scope} {env : Env} {x : Str} {pos : Pos} {v : Value} {Q : Value → Shared → Prop}
theorem cname_L (hn : s.heap.Ns C m₂) (hv : m₂ x = some v) (h : Q v s) (hk : scope.kind = .function := by rfl) (hx : (compEnv scope C env).kindOf x = some .local := by rfl) (hd : (x == ("__debug__" : Str)) = false := by decide) :
    wpAny (model prog w) A (eval (.Name x pos) (compEnv scope C env)) Q E s := wpAny_Name (wpAny_loadName_local hk hx hn hv h) hd
theorem cname_K (F : Fr h₀ L s.heap m) (X : K.In h₀) (T : TopRead p loose mg mb h₀) (e : nsIn K mainGlobals x = some (some v)) (h : Q v s) (hg : env.globals = mainGlobals := by rfl) (hk : scope.kind = .function := by rfl)
    (hx : (compEnv scope C env).kindOf x = some .globalImplicit := by rfl) (hd : (x == ("__debug__" : Str)) = false := by decide) :
    wpAny (model prog w) A (eval (.Name x pos) (compEnv scope C env)) Q E s := nameG_K (env := compEnv scope C env) F X T e h hg hk hx hd
theorem cname_B (F : Fr h₀ L s.heap m) (X : K.In h₀) (T : TopRead p loose mg mb h₀) (e : nsIn K mainGlobals x = some none) (hv : bootBuiltins x = some v) (hn : x ≠ "__name__") (h : Q v s) (hg : env.globals = mainGlobals := by rfl) (hb : env.builtins = builtinsNs := by rfl) (hk : scope.kind = .function := by rfl)
    (hx : (compEnv scope C env).kindOf x = some .globalImplicit := by rfl) (hd : (x == ("__debug__" : Str)) = false := by decide) :
    wpAny (model prog w) A (eval (.Name x pos) (compEnv scope C env)) Q E s :=
  Name_function_global hk hx (loadGlobal_builtin (env := compEnv scope C env) (mg := mg) (mb := mb) (by show s.heap.Ns env.globals mg; rw [hg]; exact T.g.keeps F.keep) (mg_none_of X T.g e) (by show s.heap.Ns env.builtins mb; rw [hb]; exact T.b.keeps F.keep) ((T.builtins x hn).trans hv) h) hd
end
theorem Keeps.of (s₂ : Shared) {h' : Heap} {tk : Nat} (k : Keeps s₂.heap h') : PySem.Keeps s₂ { s₂ with heap := h', toks := tk } := ⟨h', tk, rfl, k⟩
inductive Each {α : Type} (S : α → Value → Prop) : List Value → List α → Prop
  | nil : Each S [] []
  | cons {a : α} {v : Value} {vs : List Value} {l : List α} : S a v → Each S vs l → Each S (v :: vs) (a :: l)
theorem each_of {α : Type} {R S : α → Value → Prop} : ∀ (l : List α) (vs ys : List Value), vs.length = l.length → (∀ (j : Nat) (v : Value), vs[j]? = some v → ∃ a, l[j]? = some a ∧ R a v) → Paired (fun v y => ∀ a, R a v → S a y) vs ys → Each S ys l
  | [], [], _, _, _, .nil => .nil
  | a :: l, v :: vs, _, hl, hg, .cons h t => by
    obtain ⟨a', ha, hR⟩ := hg 0 v rfl
    simp only [List.getElem?_cons_zero, Option.some.injEq] at ha
    subst ha
    exact .cons (h _ hR) (each_of l vs _ (by simpa using hl) (fun j v hv => by simpa using hg (j + 1) v (by simpa using hv)) t)
theorem Each.strs {α : Type} {f : α → Str} : ∀ {vs : List Value} {l : List α}, Each (fun a v => ∃ u, v = .str (f a) u) vs l → StrsAre vs (l.map f)
  | _, _, .nil => .nil
  | _, _, .cons ⟨_, e⟩ t => by rw [e]; exact .cons _ _ t.strs
theorem Each.ints {α : Type} {f : α → Int} : ∀ {vs : List Value} {l : List α}, Each (fun a v => ∃ u, v = .int (f a) u) vs l → IntsAre vs (l.map f)
  | _, _, .nil => .nil
  | _, _, .cons ⟨_, e⟩ t => by rw [e]; exact .cons _ _ t.ints
theorem Each.len {α : Type} {S : α → Value → Prop} : ∀ {vs : List Value} {l : List α}, Each S vs l → vs.length = l.length
  | _, _, .nil => rfl
  | _, _, .cons _ t => by simp [t.len]
def MapR {α : Type} (R S : α → Value → Prop) (v y : Value) : Prop := ∀ a, R a v → S a y
def isSign (c : Nat) (v : Value) : Prop := ∃ u, v = .str ⟨#[c]⟩ u
def isStr {α : Type} (f : α → Str) (a : α) (v : Value) : Prop := ∃ u, v = .str (f a) u
def isInt {α : Type} (f : α → Int) (a : α) (v : Value) : Prop := ∃ u, v = .int (f a) u
theorem mapR_sign {S : Nat → Value → Prop} {c : Nat} {u : Tok} {y : Value} (h : S c y) : MapR isSign S (.str ⟨#[c]⟩ u) y := by
  rintro a ⟨u', e⟩; cases e; exact h
theorem mapR_int {α : Type} {f : α → Int} {S : α → Value → Prop} {n : Int} {u : Tok} {y : Value} (h : ∀ a, f a = n → S a y) : MapR (isInt f) S (.int n u) y := by
  rintro a ⟨u', e⟩; cases e; exact h a rfl
theorem mapR_str {α : Type} {f : α → Str} {S : α → Value → Prop} {x : Str} {u : Tok} {y : Value} (h : ∀ a, f a = x → S a y) : MapR (isStr f) S (.str x u) y := by
  rintro a ⟨u', e⟩; cases e; exact h a rfl
theorem each_signs {x : Str} {S : Nat → Value → Prop} {vs : List Value} {ys : Array Value} (hlen : vs.length = x.cps.size) (hP : ∀ (j : Nat) (v : Value), vs[j]? = some v → SignAt x j v) (hF : Paired (MapR isSign S) vs ys.toList) : Each S ys.toList x.cps.toList :=
  each_of (R := isSign) x.cps.toList vs ys.toList (by simpa using hlen) (fun j v hv => by obtain ⟨c, u, h1, h2⟩ := hP j v hv; exact ⟨c, by simpa using h1, u, h2⟩) hF
theorem signs_weight (w : Str) : ((signs w).map (·.length)).sum + (signs w).length = 2 * w.cps.size := by
  have h : ∀ l : List Nat, ((l.map fun n => (⟨#[n]⟩ : Str)).map (·.length)).sum = l.length := by
    intro l
    induction l with
    | nil => rfl
    | cons a r ih => rw [List.map_cons, List.map_cons, List.sum_cons, ih, List.length_cons]; show 1 + _ = _; lia
  rw [signs_length]
  unfold signs
  rw [h]
  show w.cps.toList.length + w.cps.size = _
  rw [Array.length_toList]; lia
theorem join_empty (w : Str) : Txt.join (Str.ofString "") (signs w) = w := by
  rw [show Str.ofString "" = (⟨#[]⟩ : Str) by decide]
  exact (StrLaws.glued_eq_join _ _).trans (join_nil_signs w)
theorem sign_lt0 {c : Nat} (h : 48 ≤ c) : ¬ ((⟨#[c]⟩ : Str).cps.toList < (Str.ofString "0").cps.toList) := by
  rw [show (Str.ofString "0").cps.toList = [48] from by decide]
  show ¬ [c] < [48]
  simp [List.cons_lt_cons_iff]; lia
theorem sign_gt9 {c : Nat} (h : c ≤ 57) : ¬ ((Str.ofString "9").cps.toList < (⟨#[c]⟩ : Str).cps.toList) := by
  rw [show (Str.ofString "9").cps.toList = [57] from by decide]
  show ¬ [57] < [c]
  simp [List.cons_lt_cons_iff]; lia
theorem filter_ff {α : Type} : ∀ (l : List α), l.filter (fun _ => false) = []
  | [] => rfl
  | a :: r => by rw [List.filter_cons_of_neg (by decide), filter_ff r]
abbrev ent (w : World) (nm : String) (t : Tok) (v : Value) : DictEntry := { hash := PyData.keyHash w.params (Str.ofString nm), key := .str (Str.ofString nm) t, val := v }
structure MomAt (w : World) (h : Heap) (x : Addr) (y mo d : Int) : Prop where
  ex : ∃ dx k1 k2 k3 k4 k5 k6 k7 t1 t2 t3 t4 t5 t6 t7, h.get? x = some (instObj 161 dx) ∧ h.get? dx = some (dictOf [ent w "year" k1 (.int y t1), ent w "month" k2 (.int mo t2), ent w "day" k3 (.int d t3), ent w "hour" k4 (.int 1 t4), ent w "minute" k5 (.int 2 t5), ent w "second" k6 (.int 3 t6), ent w "zone" k7 (.int 245 t7)] 7)
theorem MomAt.keeps {w : World} {h h' : Heap} {x : Addr} {y mo d : Int} (k : Keeps h h') (M : MomAt w h x y mo d) : MomAt w h' x y mo d := by
  obtain ⟨dx, k1, k2, k3, k4, k5, k6, k7, t1, t2, t3, t4, t5, t6, t7, e1, e2⟩ := M
  exact ⟨dx, k1, k2, k3, k4, k5, k6, k7, t1, t2, t3, t4, t5, t6, t7, k _ _ e1, k _ _ e2⟩
theorem inst_base {h₀ h : Heap} {L x dx C : Addr} {m : Str → Option Value} {od : Obj} (F : Fr h₀ L h m) (hx : h₀.get? x = some (instObj C dx)) (hd : h₀.get? dx = some od) : InstAt h x (instObj C dx) C (some od) :=
  ⟨F.keep _ _ hx, rfl, rfl, F.keep _ _ hd⟩
def padS (n wd : Int) : Str := Txt.mul (Str.ofString "0") (wd - (Str.ofString (toString n)).length) ++ Str.ofString (toString n)
section
variable {prog : Program} {w : World} {A : Around} {E : Value → Shared → Prop} {s : Shared}
theorem m_compA {env : Env} {h₀ : Heap} {L : Addr} {elt iter : PySem.Expr} {x y : Str} {px py : Pos} {ifs : List PySem.Expr} {scope : Scope} {pos spos : Pos} {Q : Flow → Shared → Prop} (p : Value → Bool) (Fv : Value → Value → Prop) (hL : env.locals = L)
    (hsw : swapsWith (.ListComp elt [⟨.Name x px, iter, ifs, 0⟩] scope pos) (some (.Name y py)) spos.line env = pure true)
    (hfree : ∀ y ∈ scope.names, y.2 ≠ .free) (hcell : ∀ y ∈ scope.names, y.2 ≠ .cell) (hkind : scope.kind = .function)
    (hnames : ∀ y ∈ scope.names, y.2 = .local → scope.names.lookup y.1 = some .local) (hx : scope.names.lookup x = some .local)
    (hy : env.kindOf y = some .local) (hp : (env.scope.kind == .class || (env.scope.kind == .module && env.locals != env.globals)) = false)
    (h : wpAny (model prog w) A (eval iter env) (fun xv s₁ => Stop (∃ n P m news, Src prog w A E xv s₁ n P ∧ n ≤ sizeLine ∧ Fr h₀ L s₁.heap m ∧ News h₀ L s₁.heap news ∧
      (∀ C i v s₂ m₂ E', P i v → s₂.heap.Ns C m₂ → m₂ x = some v → Keeps s₁.heap s₂.heap →
        wpAny (model prog w) A (forIn ifs true fun c r => if r = true then do let ok ← isTrue c (compEnv scope C env) (eval c (compEnv scope C env)); pure (ForInStep.yield ok) else pure (ForInStep.yield r))
          (fun ok s₃ => ok = p v ∧ PySem.Keeps s₂ s₃) E' s₂) ∧
      (∀ C i v s₂ m₂ E', P i v → p v = true → s₂.heap.Ns C m₂ → m₂ x = some v → Keeps s₁.heap s₂.heap →
        wpAny (model prog w) A (eval elt (compEnv scope C env)) (fun y s₃ => Fv v y ∧ PySem.Keeps s₂ s₃) E' s₂) ∧
      (∀ D c ys (vs : List Value) h' tk, Fr h₀ L h' (fun z => if z = y then some (.ref D) else m z) → News h₀ L h' ((D, listOf ys c) :: news) → (∀ p ∈ news, p.1 ≠ D) → vs.length = n → (∀ j v, vs[j]? = some v → P j v) → Paired Fv (vs.filter p) ys.toList → Q .next { s₁ with heap := h', toks := tk }))) E s)
    (hs : ∀ x, foldedSetIterable iter env x = pure x := by intro _; rfl) :
    wpAny (model prog w) A (exec (.Assign [.Name y py] (.ListComp elt [⟨.Name x px, iter, ifs, 0⟩] scope pos) spos) env) Q E s := by
  subst hL
  refine wpAny_Assign_ListComp_walk p Fv hsw hfree hcell hkind hnames hx hy hp (wpAny_mono h (fun xv s₁ h₁ => ?_) fun _ _ e => e) hs
  obtain ⟨n, P, m, news, hsrc, hsz, F, N, htests, helt, hfin⟩ := h₁
  refine hsrc _ fun h₂ I fp wr St hK W hst hfp hwr => ?_
  obtain ⟨⟨oL, a1, a2, hoL, a3⟩, hkeep, habove⟩ := F
  have hLw : env.locals ∉ wr := fun hb => by rw [hwr _ hb] at hoL; cases hoL
  refine ⟨I, fp, wr, n, P, St, m, rfl, W, hsz, hst, hfp, hLw, ⟨oL, a1, a2, hK _ _ hoL, a3⟩, ⟨?_, ?_⟩, ?_⟩
  · intro C i v s₃ m₃ E' hP hn hm hk _
    refine htests C i v s₃ m₃ E' hP hn hm fun b o e => hk b o (fun hb => ?_) (hK b o e)
    rw [hwr b hb] at e; cases e
  · intro C i v s₃ m₃ E' hP hp hn hm hk _
    refine helt C i v s₃ m₃ E' hP hp hn hm fun b o e => hk b o (fun hb => ?_) (hK b o e)
    rw [hwr b hb] at e; cases e
  · intro D h' tk ys vs hD _ hpl hlen hP hF hns hk
    obtain ⟨c, hc⟩ := hpl
    have up : ∀ b o, b ≠ env.locals → s₁.heap.get? b = some o → h'.get? b = some o := fun b o hb e => hk b o hb (fun hw => by rw [hwr b hw] at e; cases e) (hK b o e)
    have hDL : D ≠ env.locals := fun e => by rw [e, hK _ _ hoL] at hD; cases hD
    refine hfin D c ys vs h' tk ⟨hns, fun b o e => up b o (Nat.ne_of_lt (Nat.lt_of_lt_of_le (Heap.lt_size e) habove)) (hkeep b o e), habove⟩ ?_ (fun p hp e => ?_) hlen hP hF
    · intro p hp
      rcases List.mem_cons.mp hp with rfl | hp
      · exact ⟨hc, hDL, fresh_of (a := h₀) (b := h₂) (fun b o e => hK b o (hkeep b o e)) hD⟩
      · exact ⟨up _ _ (N p hp).2.1 (N p hp).1, (N p hp).2⟩
    · have := hK _ _ (N p hp).1
      rw [e, hD] at this; cases this
end
theorem intText_of_digits {x : Str} (hx : x.cps.size ≤ 100) (h0 : 0 < x.cps.size) (hr : ∀ c ∈ x.cps.toList, 48 ≤ c ∧ c ≤ 57) : PySem.intText? x = some ((NumText.digitsVal x.cps.toList : Nat) : Int) :=
  PySem.intText_digits hr (fun e => by have h1 : x.cps.toList.length = x.cps.size := Array.length_toList; rw [e] at h1; change 0 = _ at h1; lia) (by show x.cps.size ≤ 4300; lia)
def yearOf (l : List Nat) : Int := if l.length = 4 then (NumText.digitsVal l : Nat) else if l.length = 3 then 1900 + (NumText.digitsVal l : Nat) else if l.length = 2 then (if ((NumText.digitsVal l : Nat) : Int) ≤ 49 then 2000 + (NumText.digitsVal l : Nat) else 1900 + (NumText.digitsVal l : Nat)) else 0
variable {prog : Program} {w : World} {A₀ : Around} {s : Shared} {L : Addr} {h₀ base : Heap} {m mg mb : Str → Option Value} {p : Program} {loose : List Str} {mean : ExcName → Option Value}
  {dp un : Nat} {gd : Option (List Code)} {cn : Str} {cs : Scope} {a : Addr} {ccd : Value} {cl : List (Str × Addr)} {outer : List Env} {Q E : Value → Shared → Prop}
theorem fill_one : (PySem.Challenge.rw_or0057_01, hd.heap_39) = (PySem.Challenge.rw_or0057_01, hd.heap_39) := by
  k_fill
  rfl
local macro_rules | `(tactic| walk_at "m_room") => `(tactic| first | decide | ((with_reducible rename Scope.kind _ = ScopeKind.function => hg9); first | exact room_0 (by with_reducible assumption) | exact room_ 2 (by with_reducible assumption) (by decide) | exact room_ 4 (by with_reducible assumption) (by decide) | exact room_ 6 (by with_reducible assumption) (by decide) | exact room_ 10 (by with_reducible assumption) (by decide) | exact room_ 1 (by with_reducible assumption) (by decide) | exact room_ 7 (by with_reducible assumption) (by decide) | exact room_ 12 (by with_reducible assumption) (by decide) | exact room_ 15 (by with_reducible assumption) (by decide) | exact room_ 21 (by with_reducible assumption) (by decide) | exact room_ 11 (by with_reducible assumption) (by decide)))
local macro_rules | `(tactic| walk_at "m_units") => `(tactic| first | (refine Nat.lt_of_lt_of_eq ?_ cLine_is.symm; decide) | ((with_reducible rename Scope.kind _ = ScopeKind.function => hg9); first | exact room_ 11 (by with_reducible assumption) (by decide) | exact room_ 51 (by with_reducible assumption) (by decide) | exact room_ 27 (by with_reducible assumption) (by decide) | exact room_ 203 (by with_reducible assumption) (by decide) | exact room_ 163 (by with_reducible assumption) (by decide) | exact room_ 263 (by with_reducible assumption) (by decide) | exact room_ 303 (by with_reducible assumption) (by decide) | exact room_ 3 (by with_reducible assumption) (by decide) | exact room_ 75 (by with_reducible assumption) (by decide) | exact room_ 67 (by with_reducible assumption) (by decide) | exact room_ 323 (by with_reducible assumption) (by decide) | exact room_ 76 (by with_reducible assumption) (by decide) | exact room_ 152 (by with_reducible assumption) (by decide) | exact room_0 (by with_reducible assumption)))
local macro_rules | `(tactic| ktr_room) => `(tactic| walk_at "m_room")
local macro_rules | `(tactic| ktr_units) => `(tactic| walk_at "m_units")
local macro_rules | `(tactic| walk_at "m_whnf") => `(tactic| ((conv => lhs; whnf); (try rfl)))
local macro_rules | `(tactic| walk_at "m_enter") => `(tactic| (refine' code_defP ?k1 ?k2 ?k3 ?k5 ?kA ?kF ?kK ?k6 ?kp ?kb ?ks ?k7 ?k8 ?k9 ?kB ?_ ?c2 ?c3 ?c4 ?c5; (case kA => exact rfl); (case kF => exact rfl); (case kK => first | exact rfl | assumption); (case k1 => k_asm); (case k2 => k_asm); (case k3 => k_asm); (case k5 => k_asm); (case k6 => k_is); (case kp => walk_at "m_whnf"); (case kb => walk_at "m_whnf"); (case ks => walk_at "m_whnf"); (case k7 => k_is); (case k8 => ktr_room); (case k9 => first | exact BindsTo.of_eq rfl | exact binds_K (by k_in) rfl (by k_is) rfl rfl rfl); (case c5 => decide); (case kB => exact locs rfl); (case c2 => exact rfl); (case c3 => exact rfl); (case c4 => exact rfl); k_whole))
local macro_rules | `(tactic| walk_at "m_fold") => `(tactic| ((try dsimp only); (try k_fold)))
local macro_rules | `(tactic| walk_at "m_keep") => `(tactic| first | exact Keeps.trans (by assumption) (Fr.keep (by k_asm)) | assumption)
local macro_rules | `(tactic| walk_at "m_after") => `(tactic| (rename Keeps _ _ => hK9; have F9 := Keeps.fr hK9 (by k_asm); have N9 := Keeps.news hK9 (by k_asm); (try k_sweep); (try dsimp only); (try k_fold)))
local macro_rules | `(tactic| walk_at "exec While BoolOp cons nil") => `(tactic| (k_here; refine stop_ ?_))
local macro_rules | `(tactic| walk_at "exec While Compare cons nil") => `(tactic| (k_here; refine stop_ ?_))
local macro_rules | `(tactic| walk_at "compareOp In int bytes") => `(tactic| (k_here; (with_reducible show wpAny _ _ (compareOp CmpOp.In (Value.int _ _) (Value.bytes _ _)) _ _ _); refine in_bytes_int (by lia) (by lia) ?_))
local macro_rules | `(tactic| walk_at "subscriptTail") => `(tactic| (k_here; (with_reducible show wpAny _ _ (subscriptTail _ (Expr.Slice _ _ none _) (Value.bytes _ _) (Value.ref _)) _ _ _); (with_reducible rename Fr _ _ _ _ => F'); (with_reducible rename News _ _ _ _ => N'); (first | refine m_cut1 (s := ⟨_, _, _, _, _⟩) F' N' (by assumption) (by assumption) (by lia) (by lia) ?_ | refine m_cut2 (s := ⟨_, _, _, _, _⟩) F' N' (by assumption) (by assumption) (by lia) (by lia) ?_ | refine m_cut (s := ⟨_, _, _, _, _⟩) F' N' (by assumption) (by lia) (by lia) (by lia) ?_); intro v8 _ _ _ _ _ hv8; (try k_sweep)))
local macro_rules | `(tactic| walk_at "subscriptTail") => `(tactic| (k_here; (with_reducible show wpAny _ _ (subscriptTail _ _ (Value.bytes _ _) (Value.int _ _)) _ _ _); (refine m_item (by assumption) (by assumption) (by lia) (by lia) ?_); intro _ _ kLo9 kHi9))
local macro_rules | `(tactic| walk_at "compareOp Eq bytes bytes") => `(tactic| (k_here; k_dflt (refine m_eq_bytes_ff (by assumption) rfl (by (intro h9; (have h8 := congrArg List.head? h9); (simp [KBw.bInts] at h8); lia)) ?_)))
local macro_rules | `(tactic| walk_at "compareOp In bytes bytes") => `(tactic| (k_here; k_dflt (refine m_in_signs rfl (by assumption) ?_); intro h9 tk9 hK9; walk_at "m_after"))
local macro_rules | `(tactic| walk_at "m_after1") => `(tactic| (rename Keeps _ _ => hK9; rename _ = some (tupO _) => hd9; rename Heap.get? _ _ = none => hn9; have N9 := news_add hK9 (by k_asm) (by k_asm) hd9 hn9; have F9 := Keeps.fr hK9 (by k_asm); clear hn9 hd9; (try k_sweep); (try dsimp only); (try k_fold)))
local macro_rules | `(tactic| k_all) => `(tactic| assumption)
local macro_rules | `(tactic| k_in) => `(tactic| first | exact (by first | k_in_fast | exact Frag.In.keeps (by with_reducible assumption) (Fr.keep (by with_reducible assumption)) | fail) | fail)
local macro_rules | `(tactic| walk_at "eval Name") => `(tactic| (k_here; (with_reducible show wpAny _ _ (eval (Expr.Name _ _) (compEnv _ _ _)) _ _ _); k_dflt (first
  | (refine' cname_L ?n ?v ?_ ?a ?b; (case n => assumption); (case a => rfl); (case b => rfl); (case v => assumption); k_whole)
  | (refine' cname_K ?F ?X ?T ?e ?_ ?g ?a ?b; (case F => k_asm); (case X => k_asm); (case T => k_asm); (case g => rfl); (case a => rfl); (case b => rfl); (case e => k_is); k_whole)
  | (refine' cname_B ?F ?X ?T ?e ?v ?n ?_ ?g ?gb ?a ?b; (case F => k_asm); (case X => k_asm); (case T => k_asm); (case g => rfl); (case gb => rfl); (case a => rfl); (case b => rfl); (case e => k_is); (case v => boot_fast); (case n => decide); k_whole))))
local macro_rules | `(tactic| ke_room) => `(tactic| ktr_units)
local macro_rules | `(tactic| k_room) => `(tactic| ktr_room)
local macro_rules | `(tactic| k_enter) => `(tactic| (refine' code_defN ?k1 ?k2 ?k3 ?k4 ?k5 ?kA ?kF ?kK ?k6 ?kp ?kb ?ks ?k7 ?k8 ?k9 ?kB ?_ ?c2 ?c3 ?c4 ?c5; (case kA => exact rfl); (case kF => exact rfl); (case kK => first | exact rfl | assumption); (case k1 => k_asm); (case k2 => k_asm); (case k3 => k_asm); (case k4 => k_asm); (case k5 => k_asm); (case k6 => k_is); (case kp => walk_at "m_whnf"); (case kb => walk_at "m_whnf"); (case ks => walk_at "m_whnf"); (case k7 => k_is); (case k8 => ktr_room); (case k9 => first | exact BindsTo.of_eq rfl | exact binds_K (by k_in) rfl (by k_is) rfl rfl rfl | fail "k_enter: no rule for these arguments"); (case c5 => decide); (case kB => exact locs rfl); (case c2 => exact rfl); (case c3 => exact rfl); (case c4 => exact rfl); k_whole; intro g' L' h' FG' F' N' B' X' T'; (try dsimp only); (try k_fold)))
local macro_rules | `(tactic| k_inst) => `(tactic| exact inst_base (by k_asm) (by assumption) (by assumption))
local macro_rules | `(tactic| walk_at "call type:int") => `(tactic| (k_here; (with_reducible show wpAny _ _ (call (Value.type "int") [Value.str _ _]) _ _ _); (refine KIN.call_text (by assumption) (by assumption) ?_)))
local macro_rules | `(tactic| walk_at "call ref") => `(tactic| (k_here; (with_reducible show wpAny _ _ (call (Value.ref _) _) _ _ _); (refine stopC rfl ?_)))
section
 local macro_rules | `(tactic| walk_at "execs cons") => `(tactic| (k_here; (with_reducible refine tok_gen ?_); intro tk))
 local macro_rules | `(tactic| walk_at "execs nil") => `(tactic| (k_here; (with_reducible refine tok_gen ?_); intro tk))
theorem c_law_box {l : Addr} {vs0 : List Value} {ns : List Int} (hl : s.heap.IsList l vs0.toArray) (hi : IntsAre vs0 ns) (hn : ns.length ≤ 63)
    (B : Below A₀ base outer h₀) (F : Fr h₀ L s.heap m) (X : (hd.heap_39 w.params).In h₀) (T : Top p loose mean mg mb h₀) (hk : cs.kind = .function)
    (hdp : dp + 9 < recursionLimit) (hun : un + 200 < cLine)
    (hret : ∀ P C c c2 us ms great state t1 t2 t3 h' tk', Keeps s.heap h' → h'.get? P = some (listOf [Value.ref C, .int great t1, .int state t2, .int 0 t3].toArray c) → h'.get? C = some (listOf (List.toArray us) c2) → s.heap.get? P = none → s.heap.get? C = none → C ≠ P → IntsAre us ms → ms.length ≤ 40 → 0 ≤ great → Q (.ref P) { s with heap := h', toks := tk' }) :
    wpAny (model prog w) (ktrTop dp un gd cn cs L a ccd cl outer) (call (.ref 359) [.ref l]) Q E s := by
  refine wpAny_call ?_
  k_dflt (walk_at "m_enter")
  intro g L1 h1 FG F1 N1 B1 X1 T1 hKG hGK
  have hl1 : g.IsList l vs0.toArray := by obtain ⟨o, e, r⟩ := hl; exact ⟨o, hKG _ _ e, r⟩
  walk_at "m_fold"
  refine letA ?_
  intro A9 Q9 E9
  k_steps
  all_goals (rename News g _ _ _ => NN)
  all_goals (rename _ < _ ∧ _ < _ => l19)
  all_goals (rename IntsAre _ (List.map _ _) => hI8)
  all_goals (refine hret _ _ _ _ _ _ _ _ _ _ _ _ _ (hKG.trans (Fr.keep (L := L1) (h₀ := g) (by k_asm))) (NN.get (.head _)) (NN.get (.tail _ (.head _))) (fresh_of hKG (NN.fresh (.head _))) (fresh_of hKG (NN.fresh (.tail _ (.head _)))) (Nat.ne_of_lt l19.1) hI8 ?_ ?_)
  all_goals first
    | exact Int.le_refl 0
    | (rw [List.length_map, List.length_take]; lia)
    | exact Int.fmod_nonneg_of_pos _ (by decide)
end
theorem draw_fin {news : List (Addr × Obj)} {h' : Heap} {P C : Addr} {c c2 : Nat} {us : List Value} {rest : List (Addr × Obj)} {g st pl : Int} {t1 t2 t3 : Tok} (N : News h₀ L h' news) (hm : (P, listOf [Value.ref C, .int g t1, .int st t2, .int pl t3].toArray c) ∈ news) (hs : ∀ p ∈ (C, listOf us.toArray c2) :: rest, p ∈ news) :
    News h₀ L h' ((P, listOf [Value.ref C, .int g t1, .int st t2, .int pl t3].toArray c) :: (C, listOf us.toArray c2) :: rest) := fun p hp => by
  rcases List.mem_cons.mp hp with rfl | hp
  · exact N _ hm
  · exact N p (hs p hp)
theorem c_law_draw {P C : Addr} {c c2 : Nat} {us : List Value} {ms : List Int} {rest : List (Addr × Obj)} {great state place most : Int} {t1 t2 t3 tm : Tok} (hi : IntsAre us ms) (hn : ms.length ≤ 40) (hg : 0 ≤ great) (hp0 : 0 ≤ place) (hp1 : place ≤ 100) (hm : 0 < most) (hm2 : most ≤ 100000)
    (hne : ∀ p ∈ (C, listOf us.toArray c2) :: rest, p.1 ≠ P)
    (B : Below A₀ base outer h₀) (F : Fr h₀ L s.heap m) (N : News h₀ L s.heap ((P, listOf [Value.ref C, .int great t1, .int state t2, .int place t3].toArray c) :: (C, listOf us.toArray c2) :: rest)) (X : (hd.heap_39 w.params).In h₀) (T : Top p loose mean mg mb h₀) (hk : cs.kind = .function)
    (hdp : dp + 9 < recursionLimit) (hun : un + 200 < cLine)
    (hret : ∀ r great' state' t1' t2' t3' t' h' tk', Fr h₀ L h' m → News h₀ L h' ((P, listOf [Value.ref C, .int great' t1', .int state' t2', .int (place + 1) t3'].toArray c) :: (C, listOf us.toArray c2) :: rest) → 0 ≤ great' → 0 ≤ r → r < most → Q (.int r t') { s with heap := h', toks := tk' }) :
    wpAny (model prog w) (ktrTop dp un gd cn cs L a ccd cl outer) (call (.ref 366) [.ref P, .int most tm]) Q E s := by
  refine wpAny_call ?_
  k_dflt (k_enter)
  walk_at "m_fold"
  refine letA ?_
  intro A9 Q9 E9
  k_steps
  all_goals (with_reducible rename News _ _ _ _ => NZ)
  all_goals (refine hret _ _ _ _ _ _ _ _ _ (by k_asm) (draw_fin NZ (by k_mem) (by intro p9 hp9; (simp only [List.mem_cons] at hp9 ⊢); (rcases hp9 with h9 | h9 <;> simp [h9]))) ?_ ?_ ?_)
  all_goals first
    | assumption
    | exact Int.fmod_nonneg_of_pos _ hm
    | exact Int.fmod_lt_of_pos _ hm
    | exact Int.fdiv_nonneg hg (Int.le_of_lt hm)
local macro_rules | `(tactic| walk_at "eval ListComp") => `(tactic| (k_here; refine stop_ ?_))
local macro_rules | `(tactic| walk_at "exec Assign cons ListComp") => `(tactic| (k_here; refine stop_ ?_))
def lowerC (c : Int) : Int := if 65 ≤ c ∧ c ≤ 90 then c + 32 else c
def atomU : Array UInt8 := #[33, 35, 36, 37, 38, 39, 42, 43, 45, 47, 61, 63, 94, 95, 96, 123, 124, 125, 126]
def atomIn (c : Int) : Bool := atomU.contains c.toNat.toUInt8
def atomB (c : Int) : Bool := if 48 ≤ c ∧ c ≤ 57 then true else if 65 ≤ c ∧ c ≤ 90 then true else if 97 ≤ c ∧ c ≤ 122 then true else if 127 < c then true else atomIn c
theorem c_lower_code {c : Int} {tc : Tok} (B : Below A₀ base outer h₀) (F : Fr h₀ L s.heap m) (X : (hd.heap_39 w.params).In h₀) (T : Top p loose mean mg mb h₀) (hk : cs.kind = .function)
    (hd : dp + 1 < recursionLimit) (hu : un + 8 < cLine)
    (hret : ∀ t h' tk', Keeps s.heap h' → Q (.int (lowerC c) t) { s with heap := h', toks := tk' }) :
    wpAny (model prog w) (ktrTop dp un gd cn cs L a ccd cl outer) (call (.ref 61) [.int c tc]) Q E s := by
  refine wpAny_call ?_
  k_dflt (walk_at "m_enter")
  intro g L1 h1 FG F1 N1 B1 X1 T1 hKG hGK
  walk_at "m_fold"
  refine letA ?_
  intro A9 Q9 E9
  k_steps
  all_goals (refine ret_int hret ?_ (by walk_at "m_keep"))
  all_goals (unfold lowerC; split <;> lia)

theorem c_is_atom_code {c : Int} {tc : Tok} (h0 : 0 ≤ c) (h1 : c < 256) (B : Below A₀ base outer h₀) (F : Fr h₀ L s.heap m) (X : (hd.heap_39 w.params).In h₀) (T : Top p loose mean mg mb h₀) (hk : cs.kind = .function)
    (hd : dp + 1 < recursionLimit) (hu : un + 8 < cLine)
    (hret : ∀ h' tk', Keeps s.heap h' → Q (.bool (atomB c)) { s with heap := h', toks := tk' }) :
    wpAny (model prog w) (ktrTop dp un gd cn cs L a ccd cl outer) (call (.ref 74) [.int c tc]) Q E s := by
  refine wpAny_call ?_
  k_dflt (walk_at "m_enter")
  intro g L1 h1 FG F1 N1 B1 X1 T1 hKG hGK
  walk_at "m_fold"
  refine letA ?_
  intro A9 Q9 E9
  k_steps
  all_goals (refine ret_bool hret ?_ (by walk_at "m_keep"))
  all_goals first
    | (show atomIn c = atomB c; unfold atomB; (repeat' split) <;> first | rfl | (exfalso; lia))
    | (unfold atomB; (repeat' split) <;> first | rfl | (exfalso; lia) | (simp; lia))
theorem c_line_end {b : Array UInt8} {tb : Tok} {ks : List Int} {i : Int} {ti : Tok} (hb : KBw.bInts b = ks) (h0 : 0 ≤ i) (h1 : i < ks.length) (hz : ks.length ≤ 100) {k : Int} {r : List Int} (hdr : ks.drop i.toNat = k :: r) (hk10 : k ≠ 10) (hk13 : k ≠ 13)
    (B : Below A₀ base outer h₀) (F : Fr h₀ L s.heap m) (X : (hd.heap_39 w.params).In h₀) (T : Top p loose mean mg mb h₀) (hk : cs.kind = .function)
    (hdp : dp + 1 < recursionLimit) (hun : un + 8 < cLine)
    (hret : ∀ t h' tk', Keeps s.heap h' → Q (.int (-1) t) { s with heap := h', toks := tk' }) :
    wpAny (model prog w) (ktrTop dp un gd cn cs L a ccd cl outer) (call (.ref 81) [.bytes b tb, .int i ti]) Q E s := by
  refine wpAny_call ?_
  k_dflt (walk_at "m_enter")
  intro g L1 h1 FG F1 N1 B1 X1 T1 hKG hGK
  walk_at "m_fold"
  refine letA ?_
  intro A9 Q9 E9
  k_steps
  all_goals (refine ret_int hret (by lia) (by walk_at "m_keep"))


theorem c_atom_at {b : Array UInt8} {tb : Tok} {ks : List Int} {i : Int} {ti : Tok} (hb : KBw.bInts b = ks) (h0 : 0 ≤ i) (hz : ks.length ≤ 100) {al r : List Int} (hdr : ks.drop i.toNat = al ++ r) (hi : i.toNat ≤ ks.length) (hal : ∀ k ∈ al, atomB k = true) (hr : ∀ k ∈ r.head?, atomB k = false)
    (B : Below A₀ base outer h₀) (F : Fr h₀ L s.heap m) (X : (hd.heap_39 w.params).In h₀) (T : Top p loose mean mg mb h₀) (hk : cs.kind = .function)
    (hdp : dp + 3 < recursionLimit) (hun : un + 24 < cLine)
    (hret : ∀ d v t1 t2 h' tk', Keeps s.heap h' → h'.get? d = some (tupO [.bytes v t1, .int (i + al.length) t2]) → KBw.bInts v = al → s.heap.get? d = none → Q (.ref d) { s with heap := h', toks := tk' }) :
    wpAny (model prog w) (ktrTop dp un gd cn cs L a ccd cl outer) (call (.ref 109) [.bytes b tb, .int i ti]) Q E s := by
  have hlen : ks.length = i.toNat + al.length + r.length := by
    have := congrArg List.length hdr
    simp only [List.length_drop, List.length_append] at this
    lia
  refine wpAny_call ?_
  k_dflt (walk_at "m_enter")
  intro g L1 h1 FG F1 N1 B1 X1 T1 hKG hGK
  walk_at "m_fold"
  refine letA ?_
  intro A9 Q9 E9
  (k_steps; repeat (any_goals ((refine Stop.out ?_); (first | (k_here; (with_reducible show wpAny _ _ (call (Value.ref 74) _) _ _ _); k_dflt (refine' c_is_atom_code ?z9h0 ?z9h1 ?z9B ?z9F ?z9X ?z9T ?z9k ?z9d ?z9u ?_; (case z9B => k_asm); (case z9F => k_asm); (case z9X => k_asm); (case z9T => k_asm); (case z9k => first | exact rfl | assumption); (case z9d => ktr_room); (case z9u => ktr_units); (case z9h0 => lia); (case z9h1 => lia); k_whole); intro h9 tk9 hK9; walk_at "m_after")); k_steps)))
  refine Stop.out ?_
  (with_reducible rename Fr _ _ _ _ => F2)
  (with_reducible rename News _ _ _ _ => N2)
  refine While_inv (fun n m₁ news₁ => news₁ = [] ∧ ∃ (k : Nat) (e : Int) (t : Tok), n = al.length - k ∧ k ≤ al.length ∧ e = i + k ∧ m₁ (Str.ofString "end") = some (.int e t) ∧ m₁ (Str.ofString "data") = some (.bytes b tb) ∧ m₁ (Str.ofString "at") = some (.int i ti))
    (n₀ := al.length) F2 N2 ⟨rfl, 0, i, ti, by lia, by lia, by lia, rfl, rfl, rfl⟩ ?_
  rintro n m₁ news₁ h₁ tk₁ F₁ N₁ ⟨rfl, k, e, t, hn, hkl, he, hm1, hm2, hm3⟩
  have F₃ := fr_norm [(Str.ofString "end", .int e t), (Str.ofString "data", .bytes b tb), (Str.ofString "at", .int i ti)] F₁ (by simp [hm1, hm2, hm3])
  clear F₁ hm1 hm2 hm3 F2 N2
  have hdrop : ks.drop e.toNat = al.drop k ++ r := by
    rw [show e.toNat = i.toNat + k by lia, ← List.drop_drop, hdr, List.drop_append_of_le_length hkl]
  by_cases hlt : k < al.length
  · have hd2 : ks.drop e.toNat = al[k] :: (al.drop (k + 1) ++ r) := by rw [hdrop, List.drop_eq_getElem_cons hlt]; rfl
    have ha : atomB al[k] = true := hal _ (List.getElem_mem hlt)
    have hel : e < ks.length := by lia
    generalize al[k] = k' at hd2 ha
    (k_steps; repeat (any_goals ((refine Stop.out ?_); (first | (k_here; (with_reducible show wpAny _ _ (call (Value.ref 74) _) _ _ _); k_dflt (refine' c_is_atom_code ?z9h0 ?z9h1 ?z9B ?z9F ?z9X ?z9T ?z9k ?z9d ?z9u ?_; (case z9B => k_asm); (case z9F => k_asm); (case z9X => k_asm); (case z9T => k_asm); (case z9k => first | exact rfl | assumption); (case z9d => ktr_room); (case z9u => ktr_units); (case z9h0 => lia); (case z9h1 => lia); k_whole); intro h9 tk9 hK9; walk_at "m_after")); k_steps)))
    exact WhileStep.intro (n' := al.length - (k + 1)) (by k_asm) (by k_asm) (by lia) ⟨rfl, k + 1, e + 1, _, rfl, by lia, by lia, rfl, rfl, rfl⟩
  · have hke : k = al.length := by lia
    subst hke
    have hcut : (ks.drop i.toNat).take (e - i).toNat = al := by
      rw [hdr, show (e - i).toNat = al.length by lia, List.take_left]
    rw [List.drop_length, List.nil_append] at hdrop
    subst he
    cases hrr : r with
    | nil =>
      subst hrr
      have hel : i + (al.length : Int) = ks.length := by simp at hlen; lia
      (k_steps; repeat (any_goals ((refine Stop.out ?_); (first | (k_here; (with_reducible show wpAny _ _ (call (Value.ref 74) _) _ _ _); k_dflt (refine' c_is_atom_code ?z9h0 ?z9h1 ?z9B ?z9F ?z9X ?z9T ?z9k ?z9d ?z9u ?_; (case z9B => k_asm); (case z9F => k_asm); (case z9X => k_asm); (case z9T => k_asm); (case z9k => first | exact rfl | assumption); (case z9d => ktr_room); (case z9u => ktr_units); (case z9h0 => lia); (case z9h1 => lia); k_whole); intro h9 tk9 hK9; walk_at "m_after")); k_steps)))
      (rename News g L1 _ _ => NN)
      (rename KBw.bInts _ = List.take _ _ => hv)
      exact hret _ _ _ _ _ _ (hKG.trans (Fr.keep (L := L1) (h₀ := g) (by k_asm))) (NN.get (by k_mem)) (hv.trans hcut) (fresh_of hKG (NN.fresh (by k_mem)))
    | cons k' r' =>
      subst hrr
      have ha : atomB k' = false := hr k' rfl
      have hel : i + (al.length : Int) < ks.length := by simp at hlen; lia
      (k_steps; repeat (any_goals ((refine Stop.out ?_); (first | (k_here; (with_reducible show wpAny _ _ (call (Value.ref 74) _) _ _ _); k_dflt (refine' c_is_atom_code ?z9h0 ?z9h1 ?z9B ?z9F ?z9X ?z9T ?z9k ?z9d ?z9u ?_; (case z9B => k_asm); (case z9F => k_asm); (case z9X => k_asm); (case z9T => k_asm); (case z9k => first | exact rfl | assumption); (case z9d => ktr_room); (case z9u => ktr_units); (case z9h0 => lia); (case z9h1 => lia); k_whole); intro h9 tk9 hK9; walk_at "m_after")); k_steps)))
      (rename News g L1 _ _ => NN)
      (rename KBw.bInts _ = List.take _ _ => hv)
      exact hret _ _ _ _ _ _ (hKG.trans (Fr.keep (L := L1) (h₀ := g) (by k_asm))) (NN.get (by k_mem)) (hv.trans hcut) (fresh_of hKG (NN.fresh (by k_mem)))
theorem c_past_white {b : Array UInt8} {tb : Tok} {ks : List Int} {i : Int} {ti : Tok} (hb : KBw.bInts b = ks) (h0 : 0 ≤ i) (hz : ks.length ≤ 100) {ws r : List Int} (hdr : ks.drop i.toNat = ws ++ r) (hi : i.toNat ≤ ks.length) (hws : ∀ k ∈ ws, k = 32) (hr : ∀ k ∈ r.head?, k ≠ 32 ∧ k ≠ 9 ∧ k ≠ 10 ∧ k ≠ 13)
    (B : Below A₀ base outer h₀) (F : Fr h₀ L s.heap m) (X : (hd.heap_39 w.params).In h₀) (T : Top p loose mean mg mb h₀) (hk : cs.kind = .function)
    (hdp : dp + 3 < recursionLimit) (hun : un + 24 < cLine)
    (hret : ∀ t h' tk', Keeps s.heap h' → Q (.int (i + ws.length) t) { s with heap := h', toks := tk' }) :
    wpAny (model prog w) (ktrTop dp un gd cn cs L a ccd cl outer) (call (.ref 123) [.bytes b tb, .int i ti]) Q E s := by
  have hlen : ks.length = i.toNat + ws.length + r.length := by
    have := congrArg List.length hdr
    simp only [List.length_drop, List.length_append] at this
    lia
  refine wpAny_call ?_
  k_dflt (walk_at "m_enter")
  intro g L1 h1 FG F1 N1 B1 X1 T1 hKG hGK
  walk_at "m_fold"
  refine letA ?_
  intro A9 Q9 E9
  (k_steps; repeat (any_goals ((refine Stop.out ?_); (first | (k_here; (with_reducible show wpAny _ _ (call (Value.ref 81) _) _ _ _); k_dflt (refine' c_line_end ?z9a1 ?z9a2 ?z9a3 ?z9a4 ?z9a5 ?z9a6 ?z9a7 ?z9B ?z9F ?z9X ?z9T ?z9k ?z9d ?z9u ?_; (case z9B => k_asm); (case z9F => k_asm); (case z9X => k_asm); (case z9T => k_asm); (case z9k => first | exact rfl | assumption); (case z9d => ktr_room); (case z9u => ktr_units); (case z9a1 => assumption); (case z9a5 => assumption); (case z9a2 => lia); (case z9a3 => lia); (case z9a4 => lia); (case z9a6 => lia); (case z9a7 => lia); k_whole); intro t9 h9 tk9 hK9; walk_at "m_after")); k_steps)))
  refine Stop.out ?_
  (with_reducible rename Fr _ _ _ _ => F2)
  (with_reducible rename News _ _ _ _ => N2)
  refine While_inv2 (fun n m₁ news₁ => news₁ = [] ∧ ∃ (k : Nat) (e : Int) (t : Tok), n = ws.length - k ∧ k ≤ ws.length ∧ e = i + k ∧ m₁ (Str.ofString "at") = some (.int e t) ∧ m₁ (Str.ofString "data") = some (.bytes b tb))
    (n₀ := ws.length) F2 N2 ⟨rfl, 0, i, ti, by lia, by lia, by lia, rfl, rfl⟩ ?_
  rintro n m₁ news₁ h₁ tk₁ F₁ N₁ ⟨rfl, k, e, t, hn, hkl, he, hm1, hm2⟩
  have F₃ := fr_norm [(Str.ofString "at", .int e t), (Str.ofString "data", .bytes b tb)] F₁ (by simp [hm1, hm2])
  clear F₁ hm1 hm2 F2 N2
  have hdrop : ks.drop e.toNat = ws.drop k ++ r := by
    rw [show e.toNat = i.toNat + k by lia, ← List.drop_drop, hdr, List.drop_append_of_le_length hkl]
  by_cases hlt : k < ws.length
  · have hd2 : ks.drop e.toNat = ws[k] :: (ws.drop (k + 1) ++ r) := by rw [hdrop, List.drop_eq_getElem_cons hlt]; rfl
    have ha : ws[k] = 32 := hws _ (List.getElem_mem hlt)
    have hel : e < ks.length := by lia
    rw [ha] at hd2
    (k_steps; repeat (any_goals ((refine Stop.out ?_); (first | (k_here; (with_reducible show wpAny _ _ (call (Value.ref 81) _) _ _ _); k_dflt (refine' c_line_end ?z9a1 ?z9a2 ?z9a3 ?z9a4 ?z9a5 ?z9a6 ?z9a7 ?z9B ?z9F ?z9X ?z9T ?z9k ?z9d ?z9u ?_; (case z9B => k_asm); (case z9F => k_asm); (case z9X => k_asm); (case z9T => k_asm); (case z9k => first | exact rfl | assumption); (case z9d => ktr_room); (case z9u => ktr_units); (case z9a1 => assumption); (case z9a5 => assumption); (case z9a2 => lia); (case z9a3 => lia); (case z9a4 => lia); (case z9a6 => lia); (case z9a7 => lia); k_whole); intro t9 h9 tk9 hK9; walk_at "m_after")); k_steps)))
    exact ⟨_, _, _, [], ws.length - (k + 1), rfl, by k_asm, News.nil, by lia, rfl, k + 1, e + 1, _, rfl, by lia, by lia, rfl, rfl⟩
  · have hke : k = ws.length := by lia
    subst hke
    rw [List.drop_length, List.nil_append] at hdrop
    subst he
    cases hrr : r with
    | nil =>
      subst hrr
      have hel : i + (ws.length : Int) = ks.length := by simp at hlen; lia
      (k_steps; repeat (any_goals ((refine Stop.out ?_); (first | (k_here; (with_reducible show wpAny _ _ (call (Value.ref 81) _) _ _ _); k_dflt (refine' c_line_end ?z9a1 ?z9a2 ?z9a3 ?z9a4 ?z9a5 ?z9a6 ?z9a7 ?z9B ?z9F ?z9X ?z9T ?z9k ?z9d ?z9u ?_; (case z9B => k_asm); (case z9F => k_asm); (case z9X => k_asm); (case z9T => k_asm); (case z9k => first | exact rfl | assumption); (case z9d => ktr_room); (case z9u => ktr_units); (case z9a1 => assumption); (case z9a5 => assumption); (case z9a2 => lia); (case z9a3 => lia); (case z9a4 => lia); (case z9a6 => lia); (case z9a7 => lia); k_whole); intro t9 h9 tk9 hK9; walk_at "m_after")); k_steps)))
      exact hret _ _ _ (hKG.trans (Fr.keep (L := L1) (h₀ := g) (by k_asm)))
    | cons k' r' =>
      subst hrr
      obtain ⟨ha1, ha2, ha3, ha4⟩ := hr k' rfl
      have hel : i + (ws.length : Int) < ks.length := by simp at hlen; lia
      (k_steps; repeat (any_goals ((refine Stop.out ?_); (first | (k_here; (with_reducible show wpAny _ _ (call (Value.ref 81) _) _ _ _); k_dflt (refine' c_line_end ?z9a1 ?z9a2 ?z9a3 ?z9a4 ?z9a5 ?z9a6 ?z9a7 ?z9B ?z9F ?z9X ?z9T ?z9k ?z9d ?z9u ?_; (case z9B => k_asm); (case z9F => k_asm); (case z9X => k_asm); (case z9T => k_asm); (case z9k => first | exact rfl | assumption); (case z9d => ktr_room); (case z9u => ktr_units); (case z9a1 => assumption); (case z9a5 => assumption); (case z9a2 => lia); (case z9a3 => lia); (case z9a4 => lia); (case z9a6 => lia); (case z9a7 => lia); k_whole); intro t9 h9 tk9 hK9; walk_at "m_after")); k_steps)))
      all_goals first
        | (exfalso; rename (List.any _ _ = true) => h9; simp at h9; lia)
        | (unfold WhileStep2; dsimp only; (k_steps; repeat (any_goals ((refine Stop.out ?_); (first | (k_here; (with_reducible show wpAny _ _ (call (Value.ref 81) _) _ _ _); k_dflt (refine' c_line_end ?z9a1 ?z9a2 ?z9a3 ?z9a4 ?z9a5 ?z9a6 ?z9a7 ?z9B ?z9F ?z9X ?z9T ?z9k ?z9d ?z9u ?_; (case z9B => k_asm); (case z9F => k_asm); (case z9X => k_asm); (case z9T => k_asm); (case z9k => first | exact rfl | assumption); (case z9d => ktr_room); (case z9u => ktr_units); (case z9a1 => assumption); (case z9a5 => assumption); (case z9a2 => lia); (case z9a3 => lia); (case z9a4 => lia); (case z9a6 => lia); (case z9a7 => lia); k_whole); intro t9 h9 tk9 hK9; walk_at "m_after")); k_steps))); exact hret _ _ _ (hKG.trans (Fr.keep (L := L1) (h₀ := g) (by k_asm))))
structure Tk where
  atom : Bool
  w : List Int
  pos : Int
def kindS (b : Bool) : Str := if b then Str.ofString "atom" else Str.ofString "sign"
def TokAt (h : Heap) (d : Addr) (T : Tk) : Prop := ∃ v t1 t2 t3, h.get? d = some (tupO [.str (kindS T.atom) t1, .bytes v t2, .int T.pos t3]) ∧ KBw.bInts v = T.w
theorem TokAt.keeps {h h' : Heap} {d : Addr} {T : Tk} (k : Keeps h h') (x : TokAt h d T) : TokAt h' d T := by
  obtain ⟨v, t1, t2, t3, e, r⟩ := x
  exact ⟨v, t1, t2, t3, k _ _ e, r⟩

inductive TokStep (ks : List Int) (i : Int) : Tk → Nat → Prop
  | sign {k : Int} {r : List Int} : ks.drop i.toNat = k :: r → signB k = true → k ≠ 34 → k ≠ 91 → k ≠ 40 → TokStep ks i ⟨false, [k], i⟩ 1
  | atom {k : Int} {al r : List Int} : ks.drop i.toNat = (k :: al) ++ r → signB k = false → (∀ x ∈ k :: al, atomB x = true) → (∀ x ∈ r.head?, atomB x = false) → k ≠ 34 → k ≠ 91 → k ≠ 40 → TokStep ks i ⟨true, k :: al, i⟩ (al.length + 1)

theorem c_token_at {b : Array UInt8} {tb : Tok} {ks : List Int} {i : Int} {ti : Tok} {T0 : Tk} {n : Nat} (hb : KBw.bInts b = ks) (h0 : 0 ≤ i) (hz : ks.length ≤ 100) (hs : TokStep ks i T0 n)
    (B : Below A₀ base outer h₀) (F : Fr h₀ L s.heap m) (X : (hd.heap_39 w.params).In h₀) (T : Top p loose mean mg mb h₀) (hk : cs.kind = .function)
    (hdp : dp + 6 < recursionLimit) (hun : un + 48 < cLine)
    (hret : ∀ d d' t4 h' tk', Keeps s.heap h' → h'.get? d = some (tupO [.ref d', .int (i + n) t4]) → TokAt h' d' T0 → s.heap.get? d = none → s.heap.get? d' = none → Q (.ref d) { s with heap := h', toks := tk' }) :
    wpAny (model prog w) (ktrTop dp un gd cn cs L a ccd cl outer) (call (.ref 116) [.bytes b tb, .int i ti]) Q E s := by
  have hlt : ∀ {k : Int} {r : List Int}, ks.drop i.toNat = k :: r → i.toNat < ks.length := fun {k r} e => by
    have := congrArg List.length e
    simp only [List.length_drop, List.length_cons] at this
    lia
  cases hs with
  | @sign k r hdr hs q1 q2 q3 =>
    have hl := hlt hdr
    refine wpAny_call ?_
    k_dflt (walk_at "m_enter")
    intro g L1 h1 FG F1 N1 B1 X1 T1 hKG hGK
    walk_at "m_fold"
    (k_steps; repeat (any_goals ((refine Stop.out ?_); (first | (k_here; (with_reducible show wpAny _ _ (call (Value.ref 109) _) _ _ _); k_dflt (refine' c_atom_at ?z9a1 ?z9a2 ?z9a3 ?z9a4 ?z9a5 ?z9a6 ?z9a7 ?z9B ?z9F ?z9X ?z9T ?z9k ?z9d ?z9u ?_; (case z9B => k_asm); (case z9F => k_asm); (case z9X => k_asm); (case z9T => k_asm); (case z9k => first | exact rfl | assumption); (case z9d => ktr_room); (case z9u => ktr_units); (case z9a1 => assumption); (case z9a4 => assumption); (case z9a2 => lia); (case z9a3 => lia); (case z9a5 => lia); (case z9a6 => assumption); (case z9a7 => assumption); k_whole); intro d9 v9 u9 w9 h9 tk9 hK9 hd9 hv9 hn9; walk_at "m_after1") | (k_here; (with_reducible show wpAny _ _ (call (Value.ref 74) _) _ _ _); k_dflt (refine' c_is_atom_code ?z9h0 ?z9h1 ?z9B ?z9F ?z9X ?z9T ?z9k ?z9d ?z9u ?_; (case z9B => k_asm); (case z9F => k_asm); (case z9X => k_asm); (case z9T => k_asm); (case z9k => first | exact rfl | assumption); (case z9d => ktr_room); (case z9u => ktr_units); (case z9h0 => lia); (case z9h1 => lia); k_whole); intro h9 tk9 hK9; walk_at "m_after")); k_steps)))
    (rename News g L1 _ _ => NN)
    (rename KBw.bInts _ = [k] => hv)
    exact hret _ _ _ _ _ (hKG.trans (Fr.keep (L := L1) (h₀ := g) (by k_asm))) (NN.get (by k_mem)) ⟨_, _, _, _, NN.get (by k_mem), hv⟩ (fresh_of hKG (NN.fresh (by k_mem))) (fresh_of hKG (NN.fresh (by k_mem)))
  | @atom k al r hdr0 hs hal hr q1 q2 q3 =>
    have hdr : ks.drop i.toNat = k :: (al ++ r) := hdr0
    have hl := hlt hdr
    have hak : atomB k = true := hal k (.head _)
    refine wpAny_call ?_
    k_dflt (walk_at "m_enter")
    intro g L1 h1 FG F1 N1 B1 X1 T1 hKG hGK
    walk_at "m_fold"
    (k_steps; repeat (any_goals ((refine Stop.out ?_); (first | (k_here; (with_reducible show wpAny _ _ (call (Value.ref 109) _) _ _ _); k_dflt (refine' c_atom_at ?z9a1 ?z9a2 ?z9a3 ?z9a4 ?z9a5 ?z9a6 ?z9a7 ?z9B ?z9F ?z9X ?z9T ?z9k ?z9d ?z9u ?_; (case z9B => k_asm); (case z9F => k_asm); (case z9X => k_asm); (case z9T => k_asm); (case z9k => first | exact rfl | assumption); (case z9d => ktr_room); (case z9u => ktr_units); (case z9a1 => assumption); (case z9a4 => assumption); (case z9a2 => lia); (case z9a3 => lia); (case z9a5 => lia); (case z9a6 => assumption); (case z9a7 => assumption); k_whole); intro d9 v9 u9 w9 h9 tk9 hK9 hd9 hv9 hn9; walk_at "m_after1") | (k_here; (with_reducible show wpAny _ _ (call (Value.ref 74) _) _ _ _); k_dflt (refine' c_is_atom_code ?z9h0 ?z9h1 ?z9B ?z9F ?z9X ?z9T ?z9k ?z9d ?z9u ?_; (case z9B => k_asm); (case z9F => k_asm); (case z9X => k_asm); (case z9T => k_asm); (case z9k => first | exact rfl | assumption); (case z9d => ktr_room); (case z9u => ktr_units); (case z9h0 => lia); (case z9h1 => lia); k_whole); intro h9 tk9 hK9; walk_at "m_after")); k_steps)))
    (rename News g L1 _ _ => NN)
    (rename KBw.bInts _ = k :: al => hv)
    exact hret _ _ _ _ _ (hKG.trans (Fr.keep (L := L1) (h₀ := g) (by k_asm))) (NN.get (by k_mem)) ⟨_, _, _, _, NN.get (by k_mem), hv⟩ (fresh_of hKG (NN.fresh (by k_mem))) (fresh_of hKG (NN.fresh (by k_mem)))
inductive Lex (ks : List Int) : Int → List Tk → Prop
  | done : Lex ks ks.length []
  | step {i : Int} {T : Tk} {n : Nat} {ws r : List Int} {Ts : List Tk} : 0 ≤ i → TokStep ks i T n → ks.drop (i + n).toNat = ws ++ r → (i + n).toNat ≤ ks.length → (∀ k ∈ ws, k = 32) → (∀ k ∈ r.head?, k ≠ 32 ∧ k ≠ 9 ∧ k ≠ 10 ∧ k ≠ 13) → Lex ks (i + n + ws.length) Ts → Lex ks i (T :: Ts)

inductive TokIn (tl : List (Addr × Obj)) : List Value → List Tk → Prop
  | nil : TokIn tl [] []
  | snoc {vs : List Value} {Ts : List Tk} {d : Addr} {T : Tk} {v : Array UInt8} {t1 t2 t3 : Tok} : TokIn tl vs Ts → (d, tupO [.str (kindS T.atom) t1, .bytes v t2, .int T.pos t3]) ∈ tl → KBw.bInts v = T.w → TokIn tl (vs ++ [.ref d]) (Ts ++ [T])
theorem TokIn.mono {tl tl' : List (Addr × Obj)} {vs : List Value} {Ts : List Tk} (x : TokIn tl vs Ts) (h : ∀ p ∈ tl, p ∈ tl') : TokIn tl' vs Ts := by
  induction x with
  | nil => exact .nil
  | snoc _ hm hv ih => exact .snoc ih (h _ hm) hv
theorem Lex.len {ks : List Int} {i : Int} {Ts : List Tk} (x : Lex ks i Ts) : Ts = [] ∧ i = ks.length ∨ ∃ T Ts', Ts = T :: Ts' ∧ 0 ≤ i ∧ i < ks.length := by
  cases x with
  | done => exact .inl ⟨rfl, rfl⟩
  | @step i T n ws r Ts h0 hs h1 h2 h3 h4 h5 =>
    refine .inr ⟨_, _, rfl, h0, ?_⟩
    cases hs with
    | sign hdr _ _ _ _ => have := congrArg List.length hdr; simp only [List.length_drop, List.length_cons] at this; lia
    | atom hdr _ _ _ _ _ _ => have := congrArg List.length hdr; simp only [List.length_drop, List.cons_append, List.length_cons] at this; lia

theorem c_tokens_of {b : Array UInt8} {tb : Tok} {ks ws r : List Int} {Ts : List Tk} (hb : KBw.bInts b = ks) (hz : ks.length ≤ 100) (hw0 : ks = ws ++ r) (hws : ∀ k ∈ ws, k = 32) (hwr : ∀ k ∈ r.head?, k ≠ 32 ∧ k ≠ 9 ∧ k ≠ 10 ∧ k ≠ 13) (hlex : Lex ks ws.length Ts)
    (B : Below A₀ base outer h₀) (F : Fr h₀ L s.heap m) (X : (hd.heap_39 w.params).In h₀) (T : Top p loose mean mg mb h₀) (hk : cs.kind = .function)
    (hdp : dp + 9 < recursionLimit) (hun : un + 72 < cLine)
    (hret : ∀ d vs c tl h' tk', Keeps s.heap h' → h'.get? d = some (listOf vs.toArray c) → s.heap.get? d = none → (∀ p ∈ tl, h'.get? p.1 = some p.2 ∧ s.heap.get? p.1 = none) → TokIn tl vs Ts → Q (.ref d) { s with heap := h', toks := tk' }) :
    wpAny (model prog w) (ktrTop dp un gd cn cs L a ccd cl outer) (call (.ref 130) [.bytes b tb]) Q E s := by
  have hdr0 : ks.drop (0 : Int).toNat = ws ++ r := hw0
  refine wpAny_call ?_
  k_dflt (walk_at "m_enter")
  intro g L1 h1 FG F1 N1 B1 X1 T1 hKG hGK
  walk_at "m_fold"
  refine letA ?_
  intro A9 Q9 E9
  (k_steps; repeat (any_goals ((refine Stop.out ?_); (first | (k_here; (with_reducible show wpAny _ _ (call (Value.ref 123) _) _ _ _); k_dflt (refine' c_past_white ?z9a1 ?z9a2 ?z9a3 ?z9a4 ?z9a5 ?z9a6 ?z9a7 ?z9B ?z9F ?z9X ?z9T ?z9k ?z9d ?z9u ?_; (case z9B => k_asm); (case z9F => k_asm); (case z9X => k_asm); (case z9T => k_asm); (case z9k => first | exact rfl | assumption); (case z9d => ktr_room); (case z9u => ktr_units); (case z9a1 => assumption); (case z9a4 => assumption); (case z9a2 => lia); (case z9a3 => lia); (case z9a5 => lia); (case z9a6 => assumption); (case z9a7 => assumption); k_whole); intro t9 h9 tk9 hK9; walk_at "m_after")); k_steps)))
  refine Stop.out ?_
  (with_reducible rename Fr _ _ _ _ => F2)
  (with_reducible rename News _ _ _ _ => N2)
  refine While_inv (fun n m₁ news₁ => ∃ (fd : Addr) (vs : List Value) (c : Nat) (tl : List (Addr × Obj)) (Td Tr : List Tk) (e : Int) (t : Tok), news₁ = (fd, listOf vs.toArray c) :: tl ∧ TokIn tl vs Td ∧ Ts = Td ++ Tr ∧ Lex ks e Tr ∧ n = Tr.length ∧
      m₁ (Str.ofString "at") = some (.int e t) ∧ m₁ (Str.ofString "octets") = some (.bytes b tb) ∧ m₁ (Str.ofString "found") = some (.ref fd) ∧ (∀ p ∈ tl, p.1 ≠ fd) ∧ (vs.length : Int) ≤ e)
    (n₀ := Ts.length) F2 N2 ⟨_, [], 0, [], [], Ts, 0 + (ws.length : Int), _, rfl, .nil, rfl, by rw [Int.zero_add]; exact hlex, rfl, rfl, rfl, rfl, fun _ h => (nomatch h), by simp⟩ ?_
  rintro n m₁ news₁ h₁ tk₁ F₁ N₁ ⟨fd, vs, c, tl, Td, Tr, e, t, rfl, hin, hTs, hlx, hn, hm1, hm2, hm3, hne, hvl⟩
  have F₃ := fr_norm [(Str.ofString "at", .int e t), (Str.ofString "octets", .bytes b tb), (Str.ofString "found", .ref fd)] F₁ (by simp [hm1, hm2, hm3])
  clear F₁ hm1 hm2 hm3 F2 N2
  cases hlx with
  | done =>
    rw [List.append_nil] at hTs
    subst hTs
    (k_steps; repeat (any_goals ((refine Stop.out ?_); (first | (k_here; (with_reducible show wpAny _ _ (call (Value.ref 123) _) _ _ _); k_dflt (refine' c_past_white ?z9a1 ?z9a2 ?z9a3 ?z9a4 ?z9a5 ?z9a6 ?z9a7 ?z9B ?z9F ?z9X ?z9T ?z9k ?z9d ?z9u ?_; (case z9B => k_asm); (case z9F => k_asm); (case z9X => k_asm); (case z9T => k_asm); (case z9k => first | exact rfl | assumption); (case z9d => ktr_room); (case z9u => ktr_units); (case z9a1 => assumption); (case z9a4 => assumption); (case z9a2 => lia); (case z9a3 => lia); (case z9a5 => lia); (case z9a6 => assumption); (case z9a7 => assumption); k_whole); intro t9 h9 tk9 hK9; walk_at "m_after")); k_steps)))
    (rename News g L1 _ _ => NN)
    exact hret _ _ _ _ _ _ (hKG.trans (Fr.keep (L := L1) (h₀ := g) (by k_asm))) (NN.get (by k_mem)) (fresh_of hKG (NN.fresh (by k_mem))) (fun p hp => ⟨(NN p (.tail _ hp)).1, fresh_of hKG (NN p (.tail _ hp)).2.2⟩) hin
  | @step i T0 n ws' r' Ts' h0 hs hd2 hle hw2 hr2 hl5 =>
    have hel : e < ks.length := by
      cases hs with
      | sign hdr _ _ _ _ => have := congrArg List.length hdr; simp only [List.length_drop, List.length_cons] at this; lia
      | atom hdr _ _ _ _ _ _ => have := congrArg List.length hdr; simp only [List.length_drop, List.cons_append, List.length_cons] at this; lia
    (k_steps; repeat (any_goals ((refine Stop.out ?_); (first | (k_here; (with_reducible show wpAny _ _ (call (Value.ref 123) _) _ _ _); k_dflt (refine' c_past_white ?z9a1 ?z9a2 ?z9a3 ?z9a4 ?z9a5 ?z9a6 ?z9a7 ?z9B ?z9F ?z9X ?z9T ?z9k ?z9d ?z9u ?_; (case z9B => k_asm); (case z9F => k_asm); (case z9X => k_asm); (case z9T => k_asm); (case z9k => first | exact rfl | assumption); (case z9d => ktr_room); (case z9u => ktr_units); (case z9a1 => assumption); (case z9a4 => assumption); (case z9a2 => lia); (case z9a3 => lia); (case z9a5 => lia); (case z9a6 => assumption); (case z9a7 => assumption); k_whole); intro t9 h9 tk9 hK9; walk_at "m_after")); k_steps)))
    refine Stop.out ?_
    k_dflt (refine c_token_at hb h0 hz hs (by k_asm) (by k_asm) (by k_asm) (by k_asm) rfl (by ktr_room) (by ktr_units) ?_)
    intro d d' t4 h9 tk9 hK ed hT en en'
    obtain ⟨tv, u1, u2, u3, ed', hv⟩ := hT
    have q1 : @Ne Nat d fd := fun q => news_ne N₁ en (fd, _) (.head _) q.symm
    have q2 : @Ne Nat d' fd := fun q => news_ne N₁ en' (fd, _) (.head _) q.symm
    have q3 := news_ne N₁ en'
    have N9 := news_add2 hK F₃ N₁ ed en ed' en'
    have F9 := hK.fr F₃
    clear hK ed en ed' en' N₁ F₃
    walk_at "m_fold"
    (k_steps; repeat (any_goals ((refine Stop.out ?_); (first | (k_here; (with_reducible show wpAny _ _ (call (Value.ref 123) _) _ _ _); k_dflt (refine' c_past_white ?z9a1 ?z9a2 ?z9a3 ?z9a4 ?z9a5 ?z9a6 ?z9a7 ?z9B ?z9F ?z9X ?z9T ?z9k ?z9d ?z9u ?_; (case z9B => k_asm); (case z9F => k_asm); (case z9X => k_asm); (case z9T => k_asm); (case z9k => first | exact rfl | assumption); (case z9d => ktr_room); (case z9u => ktr_units); (case z9a1 => assumption); (case z9a4 => assumption); (case z9a2 => lia); (case z9a3 => lia); (case z9a5 => lia); (case z9a6 => assumption); (case z9a7 => assumption); k_whole); intro t9 h9 tk9 hK9; walk_at "m_after")); k_steps)))
    (rename News g L1 _ _ => NN)
    rw [List.push_toArray] at NN
    have hn1 : 1 ≤ n := by cases hs <;> lia
    refine WhileStep.intro (n' := Ts'.length) (news₂ := (fd, listOf (vs ++ [Value.ref d']).toArray (c + 1)) :: (d', tupO [.str (kindS T0.atom) u1, .bytes tv u2, .int T0.pos u3]) :: tl) (by k_asm) (news_sub NN ?_) (by rw [hn]; exact Nat.lt_succ_self _)
      ⟨fd, vs ++ [Value.ref d'], c + 1, _, Td ++ [T0], Ts', _, _, rfl, (hin.mono fun p hp => .tail _ hp).snoc (.head _) hv, by rw [hTs]; simp, hl5, rfl, rfl, rfl, rfl, List.forall_mem_cons.mpr ⟨q2, hne⟩, ?_⟩
    · intro p hp
      simp only [List.mem_cons] at hp ⊢
      rcases hp with h | h | h <;> simp [h]
    · simp only [List.length_append, List.length_cons, List.length_nil]
      lia
def lowerN (c : Nat) : Nat := if 65 ≤ c ∧ c ≤ 90 then c + 32 else c
def lowerS (x : Str) : Str := ⟨x.cps.map lowerN⟩
theorem c_lower_text {x : Str} {tx : Tok} (hx : x.cps.size ≤ 100) (hr : ∀ c ∈ x.cps.toList, c < 128)
    (B : Below A₀ base outer h₀) (F : Fr h₀ L s.heap m) (X : (hd.heap_39 w.params).In h₀) (T : Top p loose mean mg mb h₀) (hk : cs.kind = .function)
    (hdp : dp + 3 < recursionLimit) (hun : un + 24 < cLine)
    (hret : ∀ t h' tk', Keeps s.heap h' → Q (.str (lowerS x) t) { s with heap := h', toks := tk' }) :
    wpAny (model prog w) (ktrTop dp un gd cn cs L a ccd cl outer) (call (.ref 66) [.str x tx]) Q E s := by
  refine wpAny_call ?_
  k_dflt (walk_at "m_enter")
  intro g L1 h1 FG F1 N1 B1 X1 T1 hKG hGK
  walk_at "m_fold"
  refine letA ?_
  intro A9 Q9 E9
  (k_steps; repeat (any_goals ((refine Stop.out ?_); (first | (k_here; (with_reducible show wpAny _ _ (call (Value.ref 61) _) _ _ _); k_dflt (refine' c_lower_code ?z9B ?z9F ?z9X ?z9T ?z9k ?z9d ?z9u ?_; (case z9B => k_asm); (case z9F => k_asm); (case z9X => k_asm); (case z9T => k_asm); (case z9k => first | exact rfl | assumption); (case z9d => ktr_room); (case z9u => ktr_units); k_whole); intro t9 h9 tk9 hK9; walk_at "m_after")); k_steps)))
  refine Stop.out ?_
  refine m_comp (fun _ => true) (MapR isSign (isStr fun c => ⟨#[lowerN c]⟩)) (by decide) (by decide) rfl (by decide) rfl ?_
  walk1
  refine Stop.out ⟨_, _, src_str rfl, by rw [sizeLine_eq]; lia, ?_, ?_, ?_⟩
  · intro C i v s₂ m₂ E' _ _ _ _
    exact wpAny_tests_nil ⟨rfl, Keeps.of s₂ (Keeps.refl _)⟩
  · intro C i v s₂ m₂ E' hP _ hNs hmx hKs
    obtain ⟨c, u, hc, rfl⟩ := hP
    have F2 := hKs.fr F1
    have N2 := hKs.news N1
    have hc2 : c < 128 := hr c (List.mem_of_getElem? (by rw [Array.getElem?_toList]; exact hc))
    have hb : 0 ≤ lowerC (c : Int) ∧ lowerC (c : Int) < 200 := by unfold lowerC; split <;> lia
    have he : (lowerC (c : Int)).toNat = lowerN c := by unfold lowerC lowerN; split <;> split <;> lia
    (k_steps; repeat (any_goals ((refine Stop.out ?_); (first | (k_here; (with_reducible show wpAny _ _ (call (Value.ref 61) _) _ _ _); k_dflt (refine' c_lower_code ?z9B ?z9F ?z9X ?z9T ?z9k ?z9d ?z9u ?_; (case z9B => k_asm); (case z9F => k_asm); (case z9X => k_asm); (case z9T => k_asm); (case z9k => first | exact rfl | assumption); (case z9d => ktr_room); (case z9u => ktr_units); k_whole); intro t9 h9 tk9 hK9; walk_at "m_after")); k_steps)))
    · exact mapR_sign ⟨_, by rw [he]⟩
    · exact Keeps.of s₂ (by assumption)
  · intro D c ys vs h' tk hD hys hlen hP hF hKs
    have F2 := hKs.fr F1
    have N2 := hKs.news N1
    have hS := (each_signs hlen hP (by rw [filter_tt] at hF; exact hF)).strs
    have hj : x.cps.toList.map (fun c => (⟨#[lowerN c]⟩ : Str)) = signs (lowerS x) := by simp [signs, lowerS]
    rw [hj] at hS
    walk_at "m_fold"
    (k_steps; repeat (any_goals ((refine Stop.out ?_); (first | (k_here; (with_reducible show wpAny _ _ (call (Value.ref 61) _) _ _ _); k_dflt (refine' c_lower_code ?z9B ?z9F ?z9X ?z9T ?z9k ?z9d ?z9u ?_; (case z9B => k_asm); (case z9F => k_asm); (case z9X => k_asm); (case z9T => k_asm); (case z9k => first | exact rfl | assumption); (case z9d => ktr_room); (case z9u => ktr_units); k_whole); intro t9 h9 tk9 hK9; walk_at "m_after")); k_steps)))
    k_dflt (refine' join_listW (x := Str.ofString "") (D := D) ?ja ?jb ?jc ?jd (fun t' k => ?je))
    case ja => exact ⟨_, hys, rfl, _, rfl⟩
    case jb => exact hS
    case jc => decide
    case jd => rw [signs_weight]; simp only [lowerS, Array.size_map]; lia
    rw [join_empty]
    walk_at "m_fold"
    (k_steps; repeat (any_goals ((refine Stop.out ?_); (first | (k_here; (with_reducible show wpAny _ _ (call (Value.ref 61) _) _ _ _); k_dflt (refine' c_lower_code ?z9B ?z9F ?z9X ?z9T ?z9k ?z9d ?z9u ?_; (case z9B => k_asm); (case z9F => k_asm); (case z9X => k_asm); (case z9T => k_asm); (case z9k => first | exact rfl | assumption); (case z9d => ktr_room); (case z9u => ktr_units); k_whole); intro t9 h9 tk9 hK9; walk_at "m_after")); k_steps)))
    exact hret _ _ _ (hKG.trans (Fr.keep (L := L1) (h₀ := g) (by k_asm)))
def leapB (y : Int) : Bool := decide (y.fmod 4 = 0) && (decide (y.fmod 100 ≠ 0) || decide (y.fmod 400 = 0))
def monthLen (y m : Int) : Int := if m = 2 then (if leapB y = true then 29 else 28) else if m = 4 ∨ m = 6 ∨ m = 9 ∨ m = 11 then 30 else 31
def dayOk (y m d : Int) : Bool := decide (1 ≤ y ∧ y ≤ 9999 ∧ 1 ≤ m ∧ m ≤ 12 ∧ 1 ≤ d ∧ d ≤ monthLen y m)
def fullYear (n k : Int) : Int := if k = 2 then (if n < 50 then n + 2000 else n + 1900) else if k = 3 then n + 1900 else n

theorem law_leap (y : Int) : (y.fmod 400 = 0 ∨ (y.fmod 4 = 0 ∧ 0 < y.fmod 100)) ↔ leapB y = true := by
  have e1 : y.fmod 4 = y % 4 := Int.fmod_eq_emod_of_nonneg y (by decide)
  have e2 : y.fmod 100 = y % 100 := Int.fmod_eq_emod_of_nonneg y (by decide)
  have e3 : y.fmod 400 = y % 400 := Int.fmod_eq_emod_of_nonneg y (by decide)
  unfold leapB
  rw [e1, e2, e3]
  simp only [Bool.and_eq_true, Bool.or_eq_true, decide_eq_true_eq]
  lia

theorem c_is_leap {y : Int} {ty : Tok} (B : Below A₀ base outer h₀) (F : Fr h₀ L s.heap m) (X : (hd.heap_39 w.params).In h₀) (T : Top p loose mean mg mb h₀) (hk : cs.kind = .function)
    (hdp : dp + 1 < recursionLimit) (hun : un + 8 < cLine)
    (hret : ∀ h' tk', Keeps s.heap h' → Q (.bool (leapB y)) { s with heap := h', toks := tk' }) :
    wpAny (model prog w) (ktrTop dp un gd cn cs L a ccd cl outer) (call (.ref 172) [.int y ty]) Q E s := by
  refine wpAny_call ?_
  k_dflt (walk_at "m_enter")
  intro g L1 h1 FG F1 N1 B1 X1 T1 hKG hGK
  walk_at "m_fold"
  refine letA ?_
  intro A9 Q9 E9
  k_steps
  all_goals (refine ret_bool hret ?_ (hKG.trans (Fr.keep (L := L1) (h₀ := g) (by k_asm))))
  all_goals first | (simp [leapB, *]; done) | (simp [leapB, *]; rfl)

theorem c_month_length {y mo : Int} {ty tm : Tok} (B : Below A₀ base outer h₀) (F : Fr h₀ L s.heap m) (X : (hd.heap_39 w.params).In h₀) (T : Top p loose mean mg mb h₀) (hk : cs.kind = .function)
    (hdp : dp + 3 < recursionLimit) (hun : un + 24 < cLine)
    (hret : ∀ t h' tk', Keeps s.heap h' → Q (.int (monthLen y mo) t) { s with heap := h', toks := tk' }) :
    wpAny (model prog w) (ktrTop dp un gd cn cs L a ccd cl outer) (call (.ref 179) [.int y ty, .int mo tm]) Q E s := by
  refine wpAny_call ?_
  k_dflt (walk_at "m_enter")
  intro g L1 h1 FG F1 N1 B1 X1 T1 hKG hGK
  walk_at "m_fold"
  refine letA ?_
  intro A9 Q9 E9
  (k_steps; repeat (any_goals ((refine Stop.out ?_); (first | (k_here; (with_reducible show wpAny _ _ (call (Value.ref 172) _) _ _ _); k_dflt (refine' c_is_leap ?z9B ?z9F ?z9X ?z9T ?z9k ?z9d ?z9u ?_; (case z9B => k_asm); (case z9F => k_asm); (case z9X => k_asm); (case z9T => k_asm); (case z9k => first | exact rfl | assumption); (case z9d => ktr_room); (case z9u => ktr_units); k_whole); intro h9 tk9 hK9; walk_at "m_after")); k_steps)))
  all_goals (refine ret_int hret ?_ (hKG.trans (Fr.keep (L := L1) (h₀ := g) (by k_asm))))
  · simp [monthLen, *]
  · simp [monthLen, *]
  · rename (List.any _ _ = true) => h9
    simp at h9
    unfold monthLen
    rw [if_neg (by lia), if_pos (by lia)]
  · rename (List.any _ _ = false) => h9
    simp at h9
    unfold monthLen
    rw [if_neg (by lia), if_neg (by lia)]

theorem c_is_day {y mo d : Int} {ty tm td : Tok} (B : Below A₀ base outer h₀) (F : Fr h₀ L s.heap m) (X : (hd.heap_39 w.params).In h₀) (T : Top p loose mean mg mb h₀) (hk : cs.kind = .function)
    (hdp : dp + 6 < recursionLimit) (hun : un + 48 < cLine)
    (hret : ∀ h' tk', Keeps s.heap h' → Q (.bool (dayOk y mo d)) { s with heap := h', toks := tk' }) :
    wpAny (model prog w) (ktrTop dp un gd cn cs L a ccd cl outer) (call (.ref 207) [.int y ty, .int mo tm, .int d td]) Q E s := by
  refine wpAny_call ?_
  k_dflt (walk_at "m_enter")
  intro g L1 h1 FG F1 N1 B1 X1 T1 hKG hGK
  walk_at "m_fold"
  refine letA ?_
  intro A9 Q9 E9
  (k_steps; repeat (any_goals ((refine Stop.out ?_); (first | (k_here; (with_reducible show wpAny _ _ (call (Value.ref 179) _) _ _ _); k_dflt (refine' c_month_length ?z9B ?z9F ?z9X ?z9T ?z9k ?z9d ?z9u ?_; (case z9B => k_asm); (case z9F => k_asm); (case z9X => k_asm); (case z9T => k_asm); (case z9k => first | exact rfl | assumption); (case z9d => ktr_room); (case z9u => ktr_units); k_whole); intro t9 h9 tk9 hK9; walk_at "m_after")); k_steps)))
  all_goals (refine ret_bool hret ?_ (hKG.trans (Fr.keep (L := L1) (h₀ := g) (by k_asm))))
  all_goals (unfold dayOk; rw [decide_eq_decide]; lia)

theorem c_full_year {n k : Int} {tn tk : Tok} (B : Below A₀ base outer h₀) (F : Fr h₀ L s.heap m) (X : (hd.heap_39 w.params).In h₀) (T : Top p loose mean mg mb h₀) (hk : cs.kind = .function)
    (hdp : dp + 1 < recursionLimit) (hun : un + 8 < cLine)
    (hret : ∀ t h' tk', Keeps s.heap h' → Q (.int (fullYear n k) t) { s with heap := h', toks := tk' }) :
    wpAny (model prog w) (ktrTop dp un gd cn cs L a ccd cl outer) (call (.ref 328) [.int n tn, .int k tk]) Q E s := by
  refine wpAny_call ?_
  k_dflt (walk_at "m_enter")
  intro g L1 h1 FG F1 N1 B1 X1 T1 hKG hGK
  walk_at "m_fold"
  refine letA ?_
  intro A9 Q9 E9
  k_steps
  all_goals (refine ret_int hret ?_ (hKG.trans (Fr.keep (L := L1) (h₀ := g) (by k_asm))))
  all_goals (unfold fullYear; (repeat' split) <;> lia)
theorem c_days_before_year {y : Int} {ty : Tok} (hy1 : 1 ≤ y) (hy2 : y ≤ 9999) (B : Below A₀ base outer h₀) (F : Fr h₀ L s.heap m) (X : (hd.heap_39 w.params).In h₀) (T : Top p loose mean mg mb h₀) (hk : cs.kind = .function)
    (hdp : dp + 1 < recursionLimit) (hun : un + 8 < cLine)
    (hret : ∀ n t h' tk', Keeps s.heap h' → Q (.int n t) { s with heap := h', toks := tk' }) :
    wpAny (model prog w) (ktrTop dp un gd cn cs L a ccd cl outer) (call (.ref 186) [.int y ty]) Q E s := by
  refine wpAny_call ?_
  k_dflt (walk_at "m_enter")
  intro g L1 h1 FG F1 N1 B1 X1 T1 hKG hGK
  walk_at "m_fold"
  refine letA ?_
  intro A9 Q9 E9
  k_steps
  exact hret _ _ _ _ (hKG.trans (Fr.keep (L := L1) (h₀ := g) (by k_asm)))

local macro_rules | `(tactic| walk_at "call ref") => `(tactic| (k_here; (with_reducible show wpAny _ _ (call (Value.ref 179) _) _ _ _); k_dflt (refine' c_month_length ?z9B ?z9F ?z9X ?z9T ?z9k ?z9d ?z9u ?_; (case z9B => k_asm); (case z9F => k_asm); (case z9X => k_asm); (case z9T => k_asm); (case z9k => first | exact rfl | assumption); (case z9d => ktr_room); (case z9u => ktr_units); k_whole); intro t9 h9 tk9 hK9; walk_at "m_after"))
theorem c_day_number {y mo d : Int} {ty tm td : Tok} (hy1 : 1 ≤ y) (hy2 : y ≤ 9999) (hm1 : 1 ≤ mo) (hm2 : mo ≤ 12) (B : Below A₀ base outer h₀) (F : Fr h₀ L s.heap m) (X : (hd.heap_39 w.params).In h₀) (T : Top p loose mean mg mb h₀) (hk : cs.kind = .function)
    (hdp : dp + 6 < recursionLimit) (hun : un + 48 < cLine)
    (hret : ∀ n t h' tk', Keeps s.heap h' → Q (.int n t) { s with heap := h', toks := tk' }) :
    wpAny (model prog w) (ktrTop dp un gd cn cs L a ccd cl outer) (call (.ref 193) [.int y ty, .int mo tm, .int d td]) Q E s := by
  refine wpAny_call ?_
  k_dflt (walk_at "m_enter")
  intro g L1 h1 FG F1 N1 B1 X1 T1 hKG hGK
  walk_at "m_fold"
  refine letA ?_
  intro A9 Q9 E9
  (k_steps; repeat (any_goals ((refine Stop.out ?_); (first | (k_here; (with_reducible show wpAny _ _ (call (Value.ref 186) _) _ _ _); k_dflt (refine' c_days_before_year ?z9a1 ?z9a2 ?z9B ?z9F ?z9X ?z9T ?z9k ?z9d ?z9u ?_; (case z9B => k_asm); (case z9F => k_asm); (case z9X => k_asm); (case z9T => k_asm); (case z9k => first | exact rfl | assumption); (case z9d => ktr_room); (case z9u => ktr_units); (case z9a1 => lia); (case z9a2 => lia); k_whole); intro n9 t9 h9 tk9 hK9; walk_at "m_after") | (k_here; (with_reducible show wpAny _ _ (call (Value.ref 179) _) _ _ _); k_dflt (refine' c_month_length ?z9B ?z9F ?z9X ?z9T ?z9k ?z9d ?z9u ?_; (case z9B => k_asm); (case z9F => k_asm); (case z9X => k_asm); (case z9T => k_asm); (case z9k => first | exact rfl | assumption); (case z9d => ktr_room); (case z9u => ktr_units); k_whole); intro t9 h9 tk9 hK9; walk_at "m_after")); k_steps)))
  exact hret _ _ _ _ (hKG.trans (Fr.keep (L := L1) (h₀ := g) (by k_asm)))

theorem c_weekday {y mo d : Int} {ty tm td : Tok} (hy1 : 1 ≤ y) (hy2 : y ≤ 9999) (hm1 : 1 ≤ mo) (hm2 : mo ≤ 12) (B : Below A₀ base outer h₀) (F : Fr h₀ L s.heap m) (X : (hd.heap_39 w.params).In h₀) (T : Top p loose mean mg mb h₀) (hk : cs.kind = .function)
    (hdp : dp + 9 < recursionLimit) (hun : un + 72 < cLine)
    (hret : ∀ n t h' tk', Keeps s.heap h' → 0 ≤ n → n < 7 → Q (.int n t) { s with heap := h', toks := tk' }) :
    wpAny (model prog w) (ktrTop dp un gd cn cs L a ccd cl outer) (call (.ref 200) [.int y ty, .int mo tm, .int d td]) Q E s := by
  refine wpAny_call ?_
  k_dflt (walk_at "m_enter")
  intro g L1 h1 FG F1 N1 B1 X1 T1 hKG hGK
  walk_at "m_fold"
  refine letA ?_
  intro A9 Q9 E9
  (k_steps; repeat (any_goals ((refine Stop.out ?_); (first | (k_here; (with_reducible show wpAny _ _ (call (Value.ref 193) _) _ _ _); k_dflt (refine' c_day_number ?z9a1 ?z9a2 ?z9a3 ?z9a4 ?z9B ?z9F ?z9X ?z9T ?z9k ?z9d ?z9u ?_; (case z9B => k_asm); (case z9F => k_asm); (case z9X => k_asm); (case z9T => k_asm); (case z9k => first | exact rfl | assumption); (case z9d => ktr_room); (case z9u => ktr_units); (case z9a1 => lia); (case z9a2 => lia); (case z9a3 => lia); (case z9a4 => lia); k_whole); intro n9 t9 h9 tk9 hK9; walk_at "m_after")); k_steps)))
  exact hret _ _ _ _ (hKG.trans (Fr.keep (L := L1) (h₀ := g) (by k_asm))) (Int.fmod_nonneg_of_pos _ (by decide)) (Int.fmod_lt_of_pos _ (by decide))

theorem c_is_time {a1 a2 a3 : Int} {ta tb tc : Tok} (hx : 0 ≤ a1 ∧ a1 ≤ 23 ∧ 0 ≤ a2 ∧ a2 ≤ 59 ∧ 0 ≤ a3 ∧ a3 ≤ 60) (B : Below A₀ base outer h₀) (F : Fr h₀ L s.heap m) (X : (hd.heap_39 w.params).In h₀) (T : Top p loose mean mg mb h₀) (hk : cs.kind = .function)
    (hdp : dp + 1 < recursionLimit) (hun : un + 8 < cLine)
    (hret : ∀ h' tk', Keeps s.heap h' → Q (.bool true) { s with heap := h', toks := tk' }) :
    wpAny (model prog w) (ktrTop dp un gd cn cs L a ccd cl outer) (call (.ref 214) [.int a1 ta, .int a2 tb, .int a3 tc]) Q E s := by
  refine wpAny_call ?_
  k_dflt (walk_at "m_enter")
  intro g L1 h1 FG F1 N1 B1 X1 T1 hKG hGK
  walk_at "m_fold"
  refine letA ?_
  intro A9 Q9 E9
  k_steps
  exact ret_bool hret (by simp; lia) (hKG.trans (Fr.keep (L := L1) (h₀ := g) (by k_asm)))

theorem c_is_figures {x : Str} {tx : Tok} (hx : x.cps.size ≤ 100) (h0 : 0 < x.cps.size) (hr : ∀ c ∈ x.cps.toList, 48 ≤ c ∧ c ≤ 57) (B : Below A₀ base outer h₀) (F : Fr h₀ L s.heap m) (X : (hd.heap_39 w.params).In h₀) (T : Top p loose mean mg mb h₀) (hk : cs.kind = .function)
    (hdp : dp + 1 < recursionLimit) (hun : un + 160 < cLine)
    (hret : ∀ h' tk', Keeps s.heap h' → Q (.bool true) { s with heap := h', toks := tk' }) :
    wpAny (model prog w) (ktrTop dp un gd cn cs L a ccd cl outer) (call (.ref 255) [.str x tx]) Q E s := by
  refine wpAny_call ?_
  k_dflt (walk_at "m_enter")
  intro g L1 h1 FG F1 N1 B1 X1 T1 hKG hGK
  walk_at "m_fold"
  k_steps
  · refine Stop.out ?_
    refine m_comp (fun _ => false) (fun _ _ => False) (by decide) (by decide) rfl (by decide) rfl ?_
    walk1
    refine Stop.out ⟨_, _, src_str rfl, by rw [sizeLine_eq]; lia, ?_, ?_, ?_⟩
    · intro C i v s₂ m₂ E' hP hNs hmx hKs
      obtain ⟨c, u, hc, rfl⟩ := hP
      have F2 := hKs.fr F1
      have N2 := hKs.news N1
      have hc2 := hr c (List.mem_of_getElem? (by rw [Array.getElem?_toList]; exact hc))
      have e1 := sign_lt0 hc2.1
      have e2 := sign_gt9 hc2.2
      refine wpAny_tests_one ?_
      k_steps
      all_goals first
        | exact Keeps.of s₂ (Keeps.refl _)
        | (exfalso; exact e1 (by assumption))
        | (rw [decide_eq_false e2]; rfl)
    · intro C i v s₂ m₂ E' _ hp _ _ _
      cases hp
    · intro D c ys vs h' tk hD hys hlen hP hF hKs
      have hy : ys = #[] := by
        rw [filter_ff] at hF
        generalize hq : ys.toList = l at hF
        cases hF
        exact Array.toList_inj.mp (by rw [hq])
      subst hy
      have F2 := hKs.fr F1
      have N2 := news_add hKs F1 N1 hys hD
      walk_at "m_fold"
      k_steps
      exact ret_bool hret rfl (hKG.trans (Fr.keep (L := L1) (h₀ := g) (by k_asm)))
  · exfalso
    rename ((x != Str.ofString "") = false) => h9
    simp at h9
    rw [h9] at h0
    exact absurd h0 (by decide)
theorem c_padded {n wd : Int} {tn tw : Tok} (hn1 : 0 ≤ n) (hn2 : n ≤ 9999) (hw1 : 0 ≤ wd) (hw2 : wd ≤ 9) (B : Below A₀ base outer h₀) (F : Fr h₀ L s.heap m) (X : (hd.heap_39 w.params).In h₀) (T : Top p loose mean mg mb h₀) (hk : cs.kind = .function)
    (hdp : dp + 1 < recursionLimit) (hun : un + 160 < cLine)
    (hret : ∀ t h' tk', Keeps s.heap h' → Q (.str (padS n wd) t) { s with heap := h', toks := tk' }) :
    wpAny (model prog w) (ktrTop dp un gd cn cs L a ccd cl outer) (call (.ref 238) [.int n tn, .int wd tw]) Q E s := by
  refine wpAny_call ?_
  k_dflt (walk_at "m_enter")
  intro g L1 h1 FG F1 N1 B1 X1 T1 hKG hGK
  walk_at "m_fold"
  refine letA ?_
  intro A9 Q9 E9
  k_steps
  exact ret_str hret rfl (hKG.trans (Fr.keep (L := L1) (h₀ := g) (by k_asm)))

theorem c_zone_text {tz : Tok} (B : Below A₀ base outer h₀) (F : Fr h₀ L s.heap m) (X : (hd.heap_39 w.params).In h₀) (T : Top p loose mean mg mb h₀) (hk : cs.kind = .function)
    (hdp : dp + 3 < recursionLimit) (hun : un + 200 < cLine)
    (hret : ∀ t h' tk', Keeps s.heap h' → Q (.str (Str.ofString "+0405") t) { s with heap := h', toks := tk' }) :
    wpAny (model prog w) (ktrTop dp un gd cn cs L a ccd cl outer) (call (.ref 245) [.int 245 tz]) Q E s := by
  refine wpAny_call ?_
  k_dflt (walk_at "m_enter")
  intro g L1 h1 FG F1 N1 B1 X1 T1 hKG hGK
  walk_at "m_fold"
  refine letA ?_
  intro A9 Q9 E9
  (k_steps; repeat (any_goals ((refine Stop.out ?_); (first | (k_here; (with_reducible show wpAny _ _ (call (Value.ref 238) _) _ _ _); k_dflt (refine' c_padded ?z9a1 ?z9a2 ?z9a3 ?z9a4 ?z9B ?z9F ?z9X ?z9T ?z9k ?z9d ?z9u ?_; (case z9B => k_asm); (case z9F => k_asm); (case z9X => k_asm); (case z9T => k_asm); (case z9k => first | exact rfl | assumption); (case z9d => ktr_room); (case z9u => ktr_units); (case z9a1 => first | lia | decide); (case z9a2 => first | lia | decide); (case z9a3 => first | lia | decide); (case z9a4 => first | lia | decide); k_whole); intro t9 h9 tk9 hK9; walk_at "m_after")); k_steps)))
  exact ret_str hret (by decide +kernel) (hKG.trans (Fr.keep (L := L1) (h₀ := g) (by k_asm)))

theorem c_check_moment {x : Addr} {y mo d : Int} (hM : MomAt w s.heap x y mo d) (hok : dayOk y mo d = true) (B : Below A₀ base outer h₀) (F : Fr h₀ L s.heap m) (X : (hd.heap_39 w.params).In h₀) (T : Top p loose mean mg mb h₀) (hk : cs.kind = .function)
    (hdp : dp + 9 < recursionLimit) (hun : un + 200 < cLine)
    (hret : ∀ h' tk', Keeps s.heap h' → Q .none { s with heap := h', toks := tk' }) :
    wpAny (model prog w) (ktrTop dp un gd cn cs L a ccd cl outer) (call (.ref 221) [.ref x]) Q E s := by
  refine wpAny_call ?_
  k_dflt (walk_at "m_enter")
  intro g L1 h1 FG F1 N1 B1 X1 T1 hKG hGK
  walk_at "m_fold"
  refine letA ?_
  intro A9 Q9 E9
  obtain ⟨⟨dx, k1, k2, k3, k4, k5, k6, k7, t1, t2, t3, t4, t5, t6, t7, e1, e2⟩⟩ := hM
  replace e1 := hKG _ _ e1
  replace e2 := hKG _ _ e2
  (k_steps; repeat (any_goals ((refine Stop.out ?_); (first | (k_here; (with_reducible show wpAny _ _ (call (Value.ref 214) _) _ _ _); k_dflt (refine' c_is_time ?z9a1 ?z9B ?z9F ?z9X ?z9T ?z9k ?z9d ?z9u ?_; (case z9B => k_asm); (case z9F => k_asm); (case z9X => k_asm); (case z9T => k_asm); (case z9k => first | exact rfl | assumption); (case z9d => ktr_room); (case z9u => ktr_units); (case z9a1 => first | decide | lia); k_whole); intro h9 tk9 hK9; walk_at "m_after") | (k_here; (with_reducible show wpAny _ _ (call (Value.ref 207) _) _ _ _); k_dflt (refine' c_is_day ?z9B ?z9F ?z9X ?z9T ?z9k ?z9d ?z9u ?_; (case z9B => k_asm); (case z9F => k_asm); (case z9X => k_asm); (case z9T => k_asm); (case z9k => first | exact rfl | assumption); (case z9d => ktr_room); (case z9u => ktr_units); k_whole); intro h9 tk9 hK9; walk_at "m_after")); k_steps)))
  exact hret _ _ (hKG.trans (Fr.keep (L := L1) (h₀ := g) (by k_asm)))

theorem c_mom_told {x : Addr} {y mo d : Int} (hM : MomAt w s.heap x y mo d) (B : Below A₀ base outer h₀) (F : Fr h₀ L s.heap m) (X : (hd.heap_39 w.params).In h₀) (T : Top p loose mean mg mb h₀) (hk : cs.kind = .function)
    (hdp : dp + 1 < recursionLimit) (hun : un + 8 < cLine)
    (hret : ∀ d9 t1 t2 t3 t4 t5 t6 t7 h' tk', Keeps s.heap h' → h'.get? d9 = some (tupO [.int y t1, .int mo t2, .int d t3, .int 1 t4, .int 2 t5, .int 3 t6, .int 245 t7]) → s.heap.get? d9 = none → Q (.ref d9) { s with heap := h', toks := tk' }) :
    wpAny (model prog w) (ktrTop dp un gd cn cs L a ccd cl outer) (call (.ref 158) [.ref x]) Q E s := by
  refine wpAny_call ?_
  k_dflt (walk_at "m_enter")
  intro g L1 h1 FG F1 N1 B1 X1 T1 hKG hGK
  walk_at "m_fold"
  refine letA ?_
  intro A9 Q9 E9
  obtain ⟨⟨dx, k1, k2, k3, k4, k5, k6, k7, t1, t2, t3, t4, t5, t6, t7, e1, e2⟩⟩ := hM
  replace e1 := hKG _ _ e1
  replace e2 := hKG _ _ e2
  k_steps
  (rename News g L1 _ _ => NN)
  exact hret _ _ _ _ _ _ _ _ _ _ (hKG.trans (Fr.keep (L := L1) (h₀ := g) (by k_asm))) (NN.get (by k_mem)) (fresh_of hKG (NN.fresh (by k_mem)))
theorem c_clock_text {x : Addr} {y mo d : Int} (hM : MomAt w s.heap x y mo d) (B : Below A₀ base outer h₀) (F : Fr h₀ L s.heap m) (X : (hd.heap_39 w.params).In h₀) (T : Top p loose mean mg mb h₀) (hk : cs.kind = .function)
    (hdp : dp + 9 < recursionLimit) (hun : un + 300 < cLine)
    (hret : ∀ t h' tk', Keeps s.heap h' → Q (.str (Str.ofString "01:02:03 +0405") t) { s with heap := h', toks := tk' }) :
    wpAny (model prog w) (ktrTop dp un gd cn cs L a ccd cl outer) (call (.ref 250) [.ref x]) Q E s := by
  refine wpAny_call ?_
  k_dflt (walk_at "m_enter")
  intro g L1 h1 FG F1 N1 B1 X1 T1 hKG hGK
  walk_at "m_fold"
  refine letA ?_
  intro A9 Q9 E9
  obtain ⟨⟨dx, k1, k2, k3, k4, k5, k6, k7, t1, t2, t3, t4, t5, t6, t7, e1, e2⟩⟩ := hM
  replace e1 := hKG _ _ e1
  replace e2 := hKG _ _ e2
  (k_steps; repeat (any_goals ((refine Stop.out ?_); (first | (k_here; (with_reducible show wpAny _ _ (call (Value.ref 245) _) _ _ _); k_dflt (refine' c_zone_text ?z9B ?z9F ?z9X ?z9T ?z9k ?z9d ?z9u ?_; (case z9B => k_asm); (case z9F => k_asm); (case z9X => k_asm); (case z9T => k_asm); (case z9k => first | exact rfl | assumption); (case z9d => ktr_room); (case z9u => ktr_units); k_whole); intro t9 h9 tk9 hK9; walk_at "m_after") | (k_here; (with_reducible show wpAny _ _ (call (Value.ref 238) _) _ _ _); k_dflt (refine' c_padded ?z9a1 ?z9a2 ?z9a3 ?z9a4 ?z9B ?z9F ?z9X ?z9T ?z9k ?z9d ?z9u ?_; (case z9B => k_asm); (case z9F => k_asm); (case z9X => k_asm); (case z9T => k_asm); (case z9k => first | exact rfl | assumption); (case z9d => ktr_room); (case z9u => ktr_units); (case z9a1 => first | lia | decide); (case z9a2 => first | lia | decide); (case z9a3 => first | lia | decide); (case z9a4 => first | lia | decide); k_whole); intro t9 h9 tk9 hK9; walk_at "m_after")); k_steps)))
  refine Stop.out ?_
  refine m_compA (h₀ := g) (fun _ => true) (MapR (isInt fun n : Int => n) (isStr fun n => padS n 2)) rfl (by with_unfolding_all rfl) (by decide) (by decide) rfl (by decide) rfl (by rfl) (by rfl) ?_
  (k_steps; repeat (any_goals ((refine Stop.out ?_); (first | (k_here; (with_reducible show wpAny _ _ (call (Value.ref 245) _) _ _ _); k_dflt (refine' c_zone_text ?z9B ?z9F ?z9X ?z9T ?z9k ?z9d ?z9u ?_; (case z9B => k_asm); (case z9F => k_asm); (case z9X => k_asm); (case z9T => k_asm); (case z9k => first | exact rfl | assumption); (case z9d => ktr_room); (case z9u => ktr_units); k_whole); intro t9 h9 tk9 hK9; walk_at "m_after") | (k_here; (with_reducible show wpAny _ _ (call (Value.ref 238) _) _ _ _); k_dflt (refine' c_padded ?z9a1 ?z9a2 ?z9a3 ?z9a4 ?z9B ?z9F ?z9X ?z9T ?z9k ?z9d ?z9u ?_; (case z9B => k_asm); (case z9F => k_asm); (case z9X => k_asm); (case z9T => k_asm); (case z9k => first | exact rfl | assumption); (case z9d => ktr_room); (case z9u => ktr_units); (case z9a1 => first | lia | decide); (case z9a2 => first | lia | decide); (case z9a3 => first | lia | decide); (case z9a4 => first | lia | decide); k_whole); intro t9 h9 tk9 hK9; walk_at "m_after")); k_steps)))
  (rename News g L1 _ _ => NN)
  (rename Fr g L1 _ _ => FF)
  refine Stop.out ⟨_, _, _, _, src_tuple rfl ⟨_, NN.get (by k_mem), rfl, _, rfl⟩, by simp [sizeLine_eq], FF, NN, ?_, ?_, ?_⟩
  · intro C i v s₂ m₂ E' _ _ _ _
    exact wpAny_tests_nil ⟨rfl, Keeps.of s₂ (Keeps.refl _)⟩
  · intro C i v s₂ m₂ E' hP _ hNs hmx hKs
    have hv : ∃ n t, v = .int n t ∧ 0 ≤ n ∧ n ≤ 9999 := by
      match i, hP with
      | 0, hP => exact ⟨1, t4, by simpa using hP.symm, by decide, by decide⟩
      | 1, hP => exact ⟨2, t5, by simpa using hP.symm, by decide, by decide⟩
      | 2, hP => exact ⟨3, t6, by simpa using hP.symm, by decide, by decide⟩
      | n + 3, hP => simp at hP
    obtain ⟨n, t, rfl, hn0, hn1⟩ := hv
    have F2 := hKs.fr FF
    have N2 := hKs.news NN
    (k_steps; repeat (any_goals ((refine Stop.out ?_); (first | (k_here; (with_reducible show wpAny _ _ (call (Value.ref 245) _) _ _ _); k_dflt (refine' c_zone_text ?z9B ?z9F ?z9X ?z9T ?z9k ?z9d ?z9u ?_; (case z9B => k_asm); (case z9F => k_asm); (case z9X => k_asm); (case z9T => k_asm); (case z9k => first | exact rfl | assumption); (case z9d => ktr_room); (case z9u => ktr_units); k_whole); intro t9 h9 tk9 hK9; walk_at "m_after") | (k_here; (with_reducible show wpAny _ _ (call (Value.ref 238) _) _ _ _); k_dflt (refine' c_padded ?z9a1 ?z9a2 ?z9a3 ?z9a4 ?z9B ?z9F ?z9X ?z9T ?z9k ?z9d ?z9u ?_; (case z9B => k_asm); (case z9F => k_asm); (case z9X => k_asm); (case z9T => k_asm); (case z9k => first | exact rfl | assumption); (case z9d => ktr_room); (case z9u => ktr_units); (case z9a1 => first | lia | decide); (case z9a2 => first | lia | decide); (case z9a3 => first | lia | decide); (case z9a4 => first | lia | decide); k_whole); intro t9 h9 tk9 hK9; walk_at "m_after")); k_steps)))
    · exact mapR_int fun a ha => by subst ha; exact ⟨_, rfl⟩
    · exact Keeps.of s₂ (by assumption)
  · intro D c ys vs h' tk F2 N2 hne hlen hP hF
    have hS := (each_of (R := isInt fun n : Int => n) [1, 2, 3] vs ys.toList hlen (fun j v hv => by
      have := hP j v hv
      match j, this with
      | 0, h => exact ⟨1, rfl, t4, by simpa using h.symm⟩
      | 1, h => exact ⟨2, rfl, t5, by simpa using h.symm⟩
      | 2, h => exact ⟨3, rfl, t6, by simpa using h.symm⟩
      | n + 3, h => simp at h) (by rw [filter_tt] at hF; exact hF)).strs
    walk_at "m_fold"
    (k_steps; repeat (any_goals ((refine Stop.out ?_); (first | (k_here; (with_reducible show wpAny _ _ (call (Value.ref 245) _) _ _ _); k_dflt (refine' c_zone_text ?z9B ?z9F ?z9X ?z9T ?z9k ?z9d ?z9u ?_; (case z9B => k_asm); (case z9F => k_asm); (case z9X => k_asm); (case z9T => k_asm); (case z9k => first | exact rfl | assumption); (case z9d => ktr_room); (case z9u => ktr_units); k_whole); intro t9 h9 tk9 hK9; walk_at "m_after") | (k_here; (with_reducible show wpAny _ _ (call (Value.ref 238) _) _ _ _); k_dflt (refine' c_padded ?z9a1 ?z9a2 ?z9a3 ?z9a4 ?z9B ?z9F ?z9X ?z9T ?z9k ?z9d ?z9u ?_; (case z9B => k_asm); (case z9F => k_asm); (case z9X => k_asm); (case z9T => k_asm); (case z9k => first | exact rfl | assumption); (case z9d => ktr_room); (case z9u => ktr_units); (case z9a1 => first | lia | decide); (case z9a2 => first | lia | decide); (case z9a3 => first | lia | decide); (case z9a4 => first | lia | decide); k_whole); intro t9 h9 tk9 hK9; walk_at "m_after")); k_steps)))
    (rename News g L1 _ _ => N3)
    k_dflt (refine' join_listW (x := Str.ofString ":") (D := D) ?ja ?jb ?jc ?jd (fun t' k => ?je))
    case ja => exact ⟨_, N3.get (by k_mem), rfl, _, rfl⟩
    case jb => exact hS
    case jc => decide
    case jd => decide +kernel
    rw [show Txt.join (Str.ofString ":") (List.map (fun n => padS n 2) [1, 2, 3]) = Str.ofString "01:02:03" by decide +kernel]
    walk_at "m_fold"
    (k_steps; repeat (any_goals ((refine Stop.out ?_); (first | (k_here; (with_reducible show wpAny _ _ (call (Value.ref 245) _) _ _ _); k_dflt (refine' c_zone_text ?z9B ?z9F ?z9X ?z9T ?z9k ?z9d ?z9u ?_; (case z9B => k_asm); (case z9F => k_asm); (case z9X => k_asm); (case z9T => k_asm); (case z9k => first | exact rfl | assumption); (case z9d => ktr_room); (case z9u => ktr_units); k_whole); intro t9 h9 tk9 hK9; walk_at "m_after") | (k_here; (with_reducible show wpAny _ _ (call (Value.ref 238) _) _ _ _); k_dflt (refine' c_padded ?z9a1 ?z9a2 ?z9a3 ?z9a4 ?z9B ?z9F ?z9X ?z9T ?z9k ?z9d ?z9u ?_; (case z9B => k_asm); (case z9F => k_asm); (case z9X => k_asm); (case z9T => k_asm); (case z9k => first | exact rfl | assumption); (case z9d => ktr_room); (case z9u => ktr_units); (case z9a1 => first | lia | decide); (case z9a2 => first | lia | decide); (case z9a3 => first | lia | decide); (case z9a4 => first | lia | decide); k_whole); intro t9 h9 tk9 hK9; walk_at "m_after")); k_steps)))
    exact ret_str hret (by decide +kernel) (hKG.trans (Fr.keep (L := L1) (h₀ := g) (by k_asm)))
section
variable {prog : Program} {w : World} {A : Around} {E : Value → Shared → Prop} {s : Shared}
theorem strs_get : ∀ {vs : List Value} {ys : List Str}, StrsAre vs ys → ∀ (i : Nat) (v : Value), vs[i]? = some v → ∃ y, ys[i]? = some y ∧ ∃ t, v = .str y t
  | _, _, .nil, i, v, h => by simp at h
  | _, _, .cons y t r, 0, v, h => ⟨y, rfl, t, by simpa using h.symm⟩
  | _, _, .cons y t r, i + 1, v, h => by simpa using strs_get r i v (by simpa using h)
def strIs (x : Str) : Value → Bool
  | .str y _ => y == x
  | _ => false
theorem index_strs {l : Addr} {vs : List Value} {c : Nat} {ys : List Str} {x : Str} {t : Tok} {j : Nat} {Q : Value → Shared → Prop} (hl : s.heap.get? l = some (listOf vs.toArray c)) (hi : StrsAre vs ys) (hj : ys[j]? = some x) (hno : ∀ m, m < j → ys[m]? ≠ some x) (hsm : ys.length ≤ 100)
    (h : Q (.int j s.toks) { s with toks := s.toks + 1 }) : wpAny (model prog w) A (call (.builtin "list.index") [.ref l, .str x t]) Q E s := by
  have hlen : vs.length = ys.length := hi.len_eq
  have hj' : j < ys.length := by
    rcases Nat.lt_or_ge j ys.length with q | q
    · exact q
    · rw [List.getElem?_eq_none q] at hj; cases hj
  have key : ∀ m (hm : m < vs.toArray.size), ∃ y t, vs.toArray[m] = .str y t ∧ ys[m]? = some y := fun m hm => by
    have hm' : m < vs.length := by simpa using hm
    obtain ⟨y, h1, t, h2⟩ := strs_get hi m vs[m] (by simp [hm'])
    exact ⟨y, t, by simpa using h2, h1⟩
  have hjs : j < vs.toArray.size := by simpa [hlen] using hj'
  refine call_meets PySem.F.slot_list_index ⟨_, hl, rfl⟩ PySem.F.entry_list_index (PySem.F.args_list_index_2 _ _)
    (MeetsSeq.list_index l vs.toArray c (.str x t) (strIs x) (fun v hv => ?_) j hjs (by lia) ?_ ?_) ⟨hl, h⟩
  · obtain ⟨m, hm, rfl⟩ := Array.mem_iff_getElem.mp hv
    obtain ⟨y, t', e, _⟩ := key m hm
    rw [e]
    exact fun _ _ _ _ _ _ hq => eqBool_str hq
  · obtain ⟨y, t', e, h2⟩ := key j hjs
    rw [e]
    rw [hj] at h2; cases h2
    exact beq_self_eq_true _
  · intro m hm hlt
    obtain ⟨y, t', e, h2⟩ := key m hm
    rw [e]
    show (y == x) = false
    rw [beq_eq_false_iff_ne]
    rintro rfl
    exact hno m hlt h2
end

def monN : List Str := [Str.ofString "Jan", Str.ofString "Feb", Str.ofString "Mar", Str.ofString "Apr", Str.ofString "May", Str.ofString "Jun", Str.ofString "Jul", Str.ofString "Aug", Str.ofString "Sep", Str.ofString "Oct", Str.ofString "Nov", Str.ofString "Dec"]
def dayN : List Str := [Str.ofString "Mon", Str.ofString "Tue", Str.ofString "Wed", Str.ofString "Thu", Str.ofString "Fri", Str.ofString "Sat", Str.ofString "Sun"]

def strsB : List Value → List Str → Bool
  | [], [] => true
  | .str x _ :: vs, y :: ys => (x == y) && strsB vs ys
  | _, _ => false
theorem strs_of_B : ∀ {vs : List Value} {ys : List Str}, strsB vs ys = true → StrsAre vs ys
  | [], [], _ => .nil
  | .str x t :: vs, y :: ys, h => by
    obtain ⟨h1, h2⟩ := Bool.and_eq_true_iff.mp h
    rw [eq_of_beq h1]
    exact .cons _ _ (strs_of_B h2)
theorem months_K (P : Params) : ∃ vs n, (hd.heap_39 P).lookup 136 = some ⟨.type "tuple", none, .seq (List.toArray vs) n, #[]⟩ ∧ StrsAre vs monN := by
  exact ⟨_, _, by k_dflt k_is, strs_of_B (by decide +kernel)⟩
theorem days_K (P : Params) : ∃ vs n, (hd.heap_39 P).lookup 137 = some ⟨.type "tuple", none, .seq (List.toArray vs) n, #[]⟩ ∧ StrsAre vs dayN := by
  exact ⟨_, _, by k_dflt k_is, strs_of_B (by decide +kernel)⟩
theorem low_ok : ∀ y ∈ monN ++ dayN, y.cps.size ≤ 100 ∧ ∀ c ∈ y.cps.toList, c < 128 := by decide +kernel

theorem c_month_number {x : Str} {tx : Tok} {j : Nat} (hx : x.cps.size ≤ 100) (hr : ∀ c ∈ x.cps.toList, c < 128) (hj : (monN.map lowerS)[j]? = some (lowerS x)) (hno : ∀ m, m < j → (monN.map lowerS)[m]? ≠ some (lowerS x))
    (B : Below A₀ base outer h₀) (F : Fr h₀ L s.heap m) (X : (hd.heap_39 w.params).In h₀) (T : Top p loose mean mg mb h₀) (hk : cs.kind = .function)
    (hdp : dp + 9 < recursionLimit) (hun : un + 200 < cLine)
    (hret : ∀ t h' tk', Keeps s.heap h' → Q (.int (j + 1) t) { s with heap := h', toks := tk' }) :
    wpAny (model prog w) (ktrTop dp un gd cn cs L a ccd cl outer) (call (.ref 226) [.str x tx]) Q E s := by
  refine wpAny_call ?_
  k_dflt (walk_at "m_enter")
  intro g L1 h1 FG F1 N1 B1 X1 T1 hKG hGK
  walk_at "m_fold"
  refine letA ?_
  intro A9 Q9 E9
  (k_steps; repeat (any_goals ((refine Stop.out ?_); (first | (k_here; (with_reducible show wpAny _ _ (call (Value.ref 66) _) _ _ _); k_dflt (refine' c_lower_text ?z9a1 ?z9a2 ?z9B ?z9F ?z9X ?z9T ?z9k ?z9d ?z9u ?_; (case z9B => k_asm); (case z9F => k_asm); (case z9X => k_asm); (case z9T => k_asm); (case z9k => first | exact rfl | assumption); (case z9d => ktr_room); (case z9u => ktr_units); (case z9a1 => first | assumption | lia | decide); (case z9a2 => first | assumption | decide); k_whole); intro t9 h9 tk9 hK9; walk_at "m_after")); k_steps)))
  refine Stop.out ?_
  refine m_compA (h₀ := g) (fun _ => true) (MapR (isStr fun n : Str => n) (isStr fun n => lowerS n)) rfl (by with_unfolding_all rfl) (by decide) (by decide) rfl (by decide) rfl (by rfl) (by rfl) ?_
  (k_steps; repeat (any_goals ((refine Stop.out ?_); (first | (k_here; (with_reducible show wpAny _ _ (call (Value.ref 66) _) _ _ _); k_dflt (refine' c_lower_text ?z9a1 ?z9a2 ?z9B ?z9F ?z9X ?z9T ?z9k ?z9d ?z9u ?_; (case z9B => k_asm); (case z9F => k_asm); (case z9X => k_asm); (case z9T => k_asm); (case z9k => first | exact rfl | assumption); (case z9d => ktr_room); (case z9u => ktr_units); (case z9a1 => first | assumption | lia | decide); (case z9a2 => first | assumption | decide); k_whole); intro t9 h9 tk9 hK9; walk_at "m_after")); k_steps)))
  obtain ⟨vs0, n0, hl0, hS0⟩ := months_K w.params
  have hT0 : h1.IsTuple 136 vs0.toArray := ⟨_, (Frag.In.keeps X1 F1.keep) 136 _ hl0, rfl, _, rfl⟩
  refine Stop.out ⟨_, _, _, _, src_tuple rfl hT0, by rw [sizeLine_eq, List.size_toArray, hS0.len_eq]; decide, F1, N1, ?_, ?_, ?_⟩
  · intro C i v s₂ m₂ E' _ _ _ _
    exact wpAny_tests_nil ⟨rfl, Keeps.of s₂ (Keeps.refl _)⟩
  · intro C i v s₂ m₂ E' hP _ hNs hmx hKs
    obtain ⟨y, hy, t, rfl⟩ := strs_get hS0 i v (by simpa using hP)
    obtain ⟨hy1, hy2⟩ := low_ok y (List.mem_append_left _ (List.mem_of_getElem? hy))
    have F2 := hKs.fr F1
    have N2 := hKs.news N1
    (k_steps; repeat (any_goals ((refine Stop.out ?_); (first | (k_here; (with_reducible show wpAny _ _ (call (Value.ref 66) _) _ _ _); k_dflt (refine' c_lower_text ?z9a1 ?z9a2 ?z9B ?z9F ?z9X ?z9T ?z9k ?z9d ?z9u ?_; (case z9B => k_asm); (case z9F => k_asm); (case z9X => k_asm); (case z9T => k_asm); (case z9k => first | exact rfl | assumption); (case z9d => ktr_room); (case z9u => ktr_units); (case z9a1 => first | assumption | lia | decide); (case z9a2 => first | assumption | decide); k_whole); intro t9 h9 tk9 hK9; walk_at "m_after")); k_steps)))
    · exact mapR_str fun a ha => by subst ha; exact ⟨_, rfl⟩
    · exact Keeps.of s₂ (by assumption)
  · intro D c ys vs h' tk F2 N2 hne hlen hP hF
    have hS := (each_of (R := isStr fun n : Str => n) monN vs ys.toList (by rw [hlen, List.size_toArray, hS0.len_eq]) (fun j v hv => by
      obtain ⟨y, hy, t, rfl⟩ := strs_get hS0 j v (by simpa using hP j v hv)
      exact ⟨y, hy, t, rfl⟩) (by rw [filter_tt] at hF; exact hF)).strs
    obtain ⟨l, rfl⟩ : ∃ l : List Value, ys = l.toArray := ⟨ys.toList, by simp⟩
    replace hS : StrsAre l (monN.map lowerS) := hS
    walk_at "m_fold"
    (k_steps; repeat (any_goals ((refine Stop.out ?_); (first | (k_here; (with_reducible show wpAny _ _ (call (Value.ref 66) _) _ _ _); k_dflt (refine' c_lower_text ?z9a1 ?z9a2 ?z9B ?z9F ?z9X ?z9T ?z9k ?z9d ?z9u ?_; (case z9B => k_asm); (case z9F => k_asm); (case z9X => k_asm); (case z9T => k_asm); (case z9k => first | exact rfl | assumption); (case z9d => ktr_room); (case z9u => ktr_units); (case z9a1 => first | assumption | lia | decide); (case z9a2 => first | assumption | decide); k_whole); intro t9 h9 tk9 hK9; walk_at "m_after")); k_steps)))
    · (rename News g L1 _ _ => N3)
      k_dflt (refine index_strs (N3.get (by k_mem)) hS hj hno (by decide) ?_)
      walk_at "m_fold"
      (k_steps; repeat (any_goals ((refine Stop.out ?_); (first | (k_here; (with_reducible show wpAny _ _ (call (Value.ref 66) _) _ _ _); k_dflt (refine' c_lower_text ?z9a1 ?z9a2 ?z9B ?z9F ?z9X ?z9T ?z9k ?z9d ?z9u ?_; (case z9B => k_asm); (case z9F => k_asm); (case z9X => k_asm); (case z9T => k_asm); (case z9k => first | exact rfl | assumption); (case z9d => ktr_room); (case z9u => ktr_units); (case z9a1 => first | assumption | lia | decide); (case z9a2 => first | assumption | decide); k_whole); intro t9 h9 tk9 hK9; walk_at "m_after")); k_steps)))
      exact ret_int hret rfl (hKG.trans (Fr.keep (L := L1) (h₀ := g) (by k_asm)))
    · exfalso
      rename (List.any _ _ = false) => h9
      have h8 := List.any_eq_false.mp h9 (lowerS x) (List.mem_of_getElem? hj)
      simp at h8


theorem c_is_day_name {x : Str} {tx : Tok} {r : Bool} (hx : x.cps.size ≤ 100) (hr : ∀ c ∈ x.cps.toList, c < 128) (hres : ((dayN.map lowerS).any (· == lowerS x)) = r)
    (B : Below A₀ base outer h₀) (F : Fr h₀ L s.heap m) (X : (hd.heap_39 w.params).In h₀) (T : Top p loose mean mg mb h₀) (hk : cs.kind = .function)
    (hdp : dp + 9 < recursionLimit) (hun : un + 200 < cLine)
    (hret : ∀ h' tk', Keeps s.heap h' → Q (.bool r) { s with heap := h', toks := tk' }) :
    wpAny (model prog w) (ktrTop dp un gd cn cs L a ccd cl outer) (call (.ref 231) [.str x tx]) Q E s := by
  refine wpAny_call ?_
  k_dflt (walk_at "m_enter")
  intro g L1 h1 FG F1 N1 B1 X1 T1 hKG hGK
  walk_at "m_fold"
  refine letA ?_
  intro A9 Q9 E9
  (k_steps; repeat (any_goals ((refine Stop.out ?_); (first | (k_here; (with_reducible show wpAny _ _ (call (Value.ref 66) _) _ _ _); k_dflt (refine' c_lower_text ?z9a1 ?z9a2 ?z9B ?z9F ?z9X ?z9T ?z9k ?z9d ?z9u ?_; (case z9B => k_asm); (case z9F => k_asm); (case z9X => k_asm); (case z9T => k_asm); (case z9k => first | exact rfl | assumption); (case z9d => ktr_room); (case z9u => ktr_units); (case z9a1 => first | assumption | lia | decide); (case z9a2 => first | assumption | decide); k_whole); intro t9 h9 tk9 hK9; walk_at "m_after")); k_steps)))
  (rename Fr g L1 _ _ => F3)
  (rename News g L1 _ _ => N3)
  refine Stop.out ?_
  refine m_comp (fun _ => true) (MapR (isStr fun n : Str => n) (isStr fun n => lowerS n)) (by decide) (by decide) rfl (by decide) rfl ?_
  (k_steps; repeat (any_goals ((refine Stop.out ?_); (first | (k_here; (with_reducible show wpAny _ _ (call (Value.ref 66) _) _ _ _); k_dflt (refine' c_lower_text ?z9a1 ?z9a2 ?z9B ?z9F ?z9X ?z9T ?z9k ?z9d ?z9u ?_; (case z9B => k_asm); (case z9F => k_asm); (case z9X => k_asm); (case z9T => k_asm); (case z9k => first | exact rfl | assumption); (case z9d => ktr_room); (case z9u => ktr_units); (case z9a1 => first | assumption | lia | decide); (case z9a2 => first | assumption | decide); k_whole); intro t9 h9 tk9 hK9; walk_at "m_after")); k_steps)))
  obtain ⟨vs0, n0, hl0, hS0⟩ := days_K w.params
  have hT0 : ∀ {h : Heap} {m1 : Str → Option Value}, Fr g L1 h m1 → h.IsTuple 137 vs0.toArray := fun F => ⟨_, (Frag.In.keeps X1 F.keep) 137 _ hl0, rfl, _, rfl⟩
  refine Stop.out ⟨_, _, src_tuple rfl (hT0 F3), by rw [sizeLine_eq, List.size_toArray, hS0.len_eq]; decide, ?_, ?_, ?_⟩
  · intro C i v s₂ m₂ E' _ _ _ _
    exact wpAny_tests_nil ⟨rfl, Keeps.of s₂ (Keeps.refl _)⟩
  · intro C i v s₂ m₂ E' hP _ hNs hmx hKs
    obtain ⟨y, hy, t, rfl⟩ := strs_get hS0 i v (by simpa using hP)
    obtain ⟨hy1, hy2⟩ := low_ok y (List.mem_append_right _ (List.mem_of_getElem? hy))
    have F2 := hKs.fr F3
    have N2 := hKs.news N3
    clear F3 N3
    (k_steps; repeat (any_goals ((refine Stop.out ?_); (first | (k_here; (with_reducible show wpAny _ _ (call (Value.ref 66) _) _ _ _); k_dflt (refine' c_lower_text ?z9a1 ?z9a2 ?z9B ?z9F ?z9X ?z9T ?z9k ?z9d ?z9u ?_; (case z9B => k_asm); (case z9F => k_asm); (case z9X => k_asm); (case z9T => k_asm); (case z9k => first | exact rfl | assumption); (case z9d => ktr_room); (case z9u => ktr_units); (case z9a1 => first | assumption | lia | decide); (case z9a2 => first | assumption | decide); k_whole); intro t9 h9 tk9 hK9; walk_at "m_after")); k_steps)))
    · exact mapR_str fun a ha => by subst ha; exact ⟨_, rfl⟩
    · exact Keeps.of s₂ (by assumption)
  · intro D c ys vs h' tk hD hys hlen hP hF hKs
    have hS := (each_of (R := isStr fun n : Str => n) dayN vs ys.toList (by rw [hlen, List.size_toArray, hS0.len_eq]) (fun j v hv => by
      obtain ⟨y, hy, t, rfl⟩ := strs_get hS0 j v (by simpa using hP j v hv)
      exact ⟨y, hy, t, rfl⟩) (by rw [filter_tt] at hF; exact hF)).strs
    obtain ⟨l, rfl⟩ : ∃ l : List Value, ys = l.toArray := ⟨ys.toList, by simp⟩
    replace hS : StrsAre l (dayN.map lowerS) := hS
    have F2 := hKs.fr F3
    have N2 := news_add hKs F3 N3 hys hD
    clear F3 N3
    walk_at "m_fold"
    (k_steps; repeat (any_goals ((refine Stop.out ?_); (first | (k_here; (with_reducible show wpAny _ _ (call (Value.ref 66) _) _ _ _); k_dflt (refine' c_lower_text ?z9a1 ?z9a2 ?z9B ?z9F ?z9X ?z9T ?z9k ?z9d ?z9u ?_; (case z9B => k_asm); (case z9F => k_asm); (case z9X => k_asm); (case z9T => k_asm); (case z9k => first | exact rfl | assumption); (case z9d => ktr_room); (case z9u => ktr_units); (case z9a1 => first | assumption | lia | decide); (case z9a2 => first | assumption | decide); k_whole); intro t9 h9 tk9 hK9; walk_at "m_after")); k_steps)))
    exact ret_bool hret hres (hKG.trans (Fr.keep (L := L1) (h₀ := g) (by k_asm)))
theorem c_zone_in {tx : Tok} (B : Below A₀ base outer h₀) (F : Fr h₀ L s.heap m) (X : (hd.heap_39 w.params).In h₀) (T : Top p loose mean mg mb h₀) (hk : cs.kind = .function)
    (hdp : dp + 9 < recursionLimit) (hun : un + 200 < cLine)
    (hret : ∀ t h' tk', Keeps s.heap h' → Q (.int 245 t) { s with heap := h', toks := tk' }) :
    wpAny (model prog w) (ktrTop dp un gd cn cs L a ccd cl outer) (call (.ref 262) [.str (Str.ofString "+0405") tx]) Q E s := by
  refine wpAny_call ?_
  k_dflt (walk_at "m_enter")
  intro g L1 h1 FG F1 N1 B1 X1 T1 hKG hGK
  walk_at "m_fold"
  refine letA ?_
  intro A9 Q9 E9
  (k_steps; repeat (any_goals ((refine Stop.out ?_); (first | (k_here; (with_reducible show wpAny _ _ (call (Value.ref 255) _) _ _ _); k_dflt (refine' c_is_figures ?z9a1 ?z9a2 ?z9a3 ?z9B ?z9F ?z9X ?z9T ?z9k ?z9d ?z9u ?_; (case z9B => k_asm); (case z9F => k_asm); (case z9X => k_asm); (case z9T => k_asm); (case z9k => first | exact rfl | assumption); (case z9d => ktr_room); (case z9u => ktr_units); (case z9a1 => first | lia | decide); (case z9a2 => first | lia | decide); (case z9a3 => first | assumption | decide); k_whole); intro h9 tk9 hK9; walk_at "m_after")); k_steps)))
  · exfalso
    rename (List.isEmpty _ = _) => h9
    revert h9
    decide +kernel
  · exact ret_int hret (by decide) (hKG.trans (Fr.keep (L := L1) (h₀ := g) (by k_asm)))

theorem c_law_year {x : Str} {tx : Tok} (hx : x.cps.size ≤ 100) (h0 : 0 < x.cps.size) (hr : ∀ c ∈ x.cps.toList, 48 ≤ c ∧ c ≤ 57) (B : Below A₀ base outer h₀) (F : Fr h₀ L s.heap m) (X : (hd.heap_39 w.params).In h₀) (T : Top p loose mean mg mb h₀) (hk : cs.kind = .function)
    (hdp : dp + 1 < recursionLimit) (hun : un + 8 < cLine)
    (hret : ∀ t h' tk', Keeps s.heap h' → Q (.int (yearOf x.cps.toList) t) { s with heap := h', toks := tk' }) :
    wpAny (model prog w) (ktrTop dp un gd cn cs L a ccd cl outer) (call (.ref 373) [.str x tx]) Q E s := by
  have hit := intText_of_digits hx h0 hr
  have hln : x.length ≤ 640 := by show x.cps.size ≤ 640; lia
  have hsz : x.length = x.cps.toList.length := by show x.cps.size = _; simp
  refine wpAny_call ?_
  k_dflt (walk_at "m_enter")
  intro g L1 h1 FG F1 N1 B1 X1 T1 hKG hGK
  walk_at "m_fold"
  refine letA ?_
  intro A9 Q9 E9
  k_steps
  all_goals (refine ret_int hret ?_ (hKG.trans (Fr.keep (L := L1) (h₀ := g) (by k_asm))))
  all_goals (unfold yearOf; (repeat' split) <;> lia)
abbrev ClsAt (h : Heap) (C : Addr) (bm : List Value) : Prop :=
  ∃ nm q N bs sn sub ab col dd k0 k1 k2 k3 k5, h.get? C = some (excClassObj nm q C N bs bm true sn sub ab col dd k0 k1 k2 k3 k5 "Exception.__new__")
structure BmOk (bm : List Value) : Prop where
  hasE : bm.contains (.type "Exception") = true
  hasB : bm.contains (.type "BaseException") = true
  noA : bm.contains (.type "AttributeError") = false
  noN : bm.contains (.type "NameError") = false
section
variable {M : Model} {A : Around} {E : Value → Shared → Prop} {h : Heap} {g : Array GenState} {d : Drawn} {t : Nat} {os : OsState}
variable {nm q : Str} {C N : Addr} {bs bm : List Value} {hdct : Bool} {sn : List Str} {sub : List Value} {ab : Bool} {col : Option Bool} {dd : Option Addr} {k0 k1 k2 k3 k5 : Option Value}

theorem check_newX (O : BmOk bm) {rest : List Value} {Q : Unit → Shared → Prop} (hC : h.get? C = some (excClassObj nm q C N bs bm hdct sn sub ab col dd k0 k1 k2 k3 k5 "Exception.__new__"))
    (hq : Q () ⟨h, g, d, t, os⟩) : wpAny M A (checkBuiltinCall "Exception.__new__" ⟨.ref C :: rest, []⟩) Q E ⟨h, g, d, t, os⟩ := by
  have F := PySem.F.excBase_Exception
  have hcont : (Value.ref C :: bm).contains (.type "Exception") = true := by rw [List.contains_cons, O.hasE, Bool.or_true]
  have hstar := F.noStar
  simp only [checkBuiltinCall, F.newKind, F.newSplit, F.newRow]
  repeat (first | refine wpAny_loadPart_at hC ?_ | (refine wpAny_isSubtype_exc hC ?_; rw [hcont]) | refine wpAny_staticBase_exc hC ?_ | refine wpAny_madeBy_exc hC ?_ | simp only [bne_self_eq_false, Bool.false_eq_true, if_false] | wp_step)
  exact hq
end
section
variable {prog : Program} {w : World} {A : Around} {E : Value → Shared → Prop} {R : Result → Shared → Prop} {h : Heap} {g : Array GenState} {d : Drawn} {t : Nat} {os : OsState}
variable {nm q : Str} {C N : Addr} {bs bm : List Value} {hdct : Bool} {sn : List Str} {sub : List Value} {ab : Bool} {col : Option Bool} {dd : Option Addr} {k0 k1 k2 k3 k5 : Option Value}
theorem codeAny_newX (O : BmOk bm) {rest : List Value} (hC : h.get? C = some (excClassObj nm q C N bs bm hdct sn sub ab col dd k0 k1 k2 k3 k5 "Exception.__new__"))
    (hq : R (.ok (.ret (.ref (h.objs.size + 1)))) ⟨(h.push { cls := .type "tuple", data := .seq rest.toArray }).push
      { cls := .ref C, data := .fields #[.ref h.objs.size, .none, .none, .none, .bool false, .none] }, g, d, t, os⟩) (hrest : rest.length ≤ sizeLine := by size_fits) :
    codeAny (model prog w) A (.builtin "Exception.__new__" ⟨.ref C :: rest, []⟩) R ⟨h, g, d, t, os⟩ := by
  have F := PySem.F.excBase_Exception
  have hends := F.ends
  have hcB : (Value.ref C :: bm).contains (.type "Exception") = true := by rw [List.contains_cons, O.hasE, Bool.or_true]
  have hcA : (Value.ref C :: bm).contains (.type "AttributeError") = false := by rw [List.contains_cons, O.noA]; rfl
  have hcN : (Value.ref C :: bm).contains (.type "NameError") = false := by rw [List.contains_cons, O.noN]; rfl
  refine codeAny_builtinAt F.entry ?_
  unfold Builtin.«BaseException.__new__»
  refine PySem.wpAt_bind ?_
  show PySem.wpAt _ _ _ (stack >>= _) _ _ _
  refine PySem.wpAt_bind (PySem.wpAt_stack fun p below => PySem.wpAt_of_wpAny ?_)
  wp_walk
  refine PySem.wpAt_of_wpAny ?_
  rw [F.owner]
  repeat (first | with_reducible refine wpAny_madeHere_exc F.canon hC ?_ | with_reducible refine wpAny_loadPart_at hC ?_ | (with_reducible refine wpAny_isSubtype_exc hC ?_; first | rw [hcB] | rw [hcA] | rw [hcN]) | wp_step)
  show R _ _
  rw [Heap.size_push]
  exact hq

theorem type_call_initX (O : BmOk bm) {rest : List Value} {fI : Addr} {oI : Obj} {Q : Fin → Shared → Prop}
    (hC : h.get? C = some (excClassObj nm q C N bs bm hdct sn sub ab col dd k0 k1 k2 k3 k5 "Exception.__new__")) (hi : Looks (model prog w) h (typeLookup (.ref C) "__init__") (some (.ref fI)))
    (hfI : h.get? fI = some oI) (hfc : oI.cls = .type "function")
    (hq : ∀ h' e, Heap.MadeExcOf h h' e (.ref C) rest →
      wpAny (model prog w) A (call (.ref fI) (.ref e :: rest)) (fun r s' => r = .none ∧ Q (.done (.ret (.ref e))) s') E ⟨h', g, d, t, os⟩) (hrest : rest.length ≤ sizeLine := by size_fits) :
    wpAny (model prog w) A (Builtin.«type.__call__» ⟨.ref C :: rest, []⟩) Q E ⟨h, g, d, t, os⟩ := by
  have F := PySem.F.excBase_Exception
  repeat (first | with_reducible refine wpAny_loadPart_at hC ?_ | with_reducible refine wpAny_madeBy_exc hC ?_ | wp_step)
  refine codeAny_call_builtin_code (Code.quiet_builtin _ F.quiet) (check_newX O hC ?_)
  refine codeAny_newX O hC ?_ hrest
  show wpAny _ _ _ _ _ _
  have hC₁ := Heap.get?_push_of_some { cls := .ref C, data := .fields #[.ref h.objs.size, .none, .none, .none, .bool false, .none] }
    (Heap.get?_push_of_some { cls := .type "tuple", data := .seq rest.toArray } hC)
  have hfI₁ := Heap.get?_push_of_some { cls := .ref C, data := .fields #[.ref h.objs.size, .none, .none, .none, .bool false, .none] }
    (Heap.get?_push_of_some { cls := .type "tuple", data := .seq rest.toArray } hfI)
  have hget : ((h.push { cls := .type "tuple", data := .seq rest.toArray }).push
      { cls := .ref C, data := .fields #[.ref h.objs.size, .none, .none, .none, .bool false, .none] }).get? (h.objs.size + 1) = some
      { cls := .ref C, data := .fields #[.ref h.objs.size, .none, .none, .none, .bool false, .none] } := by heap_get
  have hi₁ := hi.keeps (h' := (h.push { cls := .type "tuple", data := .seq rest.toArray }).push { cls := .ref C, data := .fields #[.ref h.objs.size, .none, .none, .none, .bool false, .none] })
    fun b o e => Heap.get?_push_of_some _ (Heap.get?_push_of_some _ e)
  have hcC : (Value.ref C :: bm).contains (.ref C) = true := by simp
  unfold isInstance
  repeat (first | with_reducible refine wpAny_loadPart_at hget ?_ | (with_reducible refine wpAny_isSubtype_exc hC₁ ?_; rw [hcC]) | wp_step)
  show wpAny _ _ (typeLookup (.ref C) _) _ _ _
  refine hi₁.here ?_
  refine wpAny_holding (wpAny_bind ?_)
  unfold bindSpecial
  refine wpAny_bind (wpAny_typeOf (T := "function") ⟨_, hfI₁, hfc⟩ ?_)
  rw [if_pos (by decide)]
  refine wpAny_pure (wpAny_bind (wpAny_mono (hq _ (h.objs.size + 1) ⟨fun b o hb => Heap.get?_push_of_some _ (Heap.get?_push_of_some _ hb), Heap.get?_none_of_le (Nat.le_succ _), h.objs.size, hget, Heap.get?_none_of_le (Nat.le_refl _), ?_⟩) (fun r s' hr => ?_) fun _ _ x => x))
  · exact Heap.get?_push_of_some _ (Heap.get?_push_at rfl rfl)
  · obtain ⟨rfl, hQ⟩ := hr
    wp_walk
    exact hQ

theorem call_initX (O : BmOk bm) {rest : List Value} {fI : Addr} {oI : Obj} {Q : Value → Shared → Prop}
    (hC : h.get? C = some (excClassObj nm q C N bs bm hdct sn sub ab col dd k0 k1 k2 k3 k5 "Exception.__new__")) (hi : Looks (model prog w) h (typeLookup (.ref C) "__init__") (some (.ref fI)))
    (hfI : h.get? fI = some oI) (hfc : oI.cls = .type "function")
    (hq : ∀ h' e, Heap.MadeExcOf h h' e (.ref C) rest →
      wpAny (model prog w) (A.under (.builtin "type.__call__" ⟨.ref C :: rest, []⟩)) (call (.ref fI) (.ref e :: rest)) (fun r s' => r = .none ∧ Q (.ref e) s') E ⟨h', g, d, t, os⟩) (hrest : rest.length ≤ sizeLine := by size_fits) :
    wpAny (model prog w) A (call (.ref C) rest) Q E ⟨h, g, d, t, os⟩ := by
  have f1 := tc_lookup
  have f2 := tc_bind (.ref C)
  have hT : (⟨h, g, d, t, os⟩ : Shared).TypeIs (.ref C) "type" := ⟨_, hC, rfl⟩
  refine wpAny_call (codeAny_of_tree ?_)
  show wpAny _ _ (callAny (.ref C) _) _ _ _
  repeat (any_goals (first | assumption | with_reducible refine wpAny_loadPart_at hC ?_ | wp_step))
  refine ⟨rfl, ?_⟩
  refine codeAny_call_builtin_at (Code.quiet_builtin _ (by decide +kernel)) entry_typeCall (wpAny_check_type_call_sub hC (type_call_initX (hrest := hrest) O hC hi hfI hfc fun h' e hm => ?_))
  exact hq h' e hm
end
structure NewX (C : Addr) (h h' : Heap) (e : Addr) : Prop where
  keeps : Keeps h h'
  new : h.get? e = none
  there : ∃ oe vs a0, h'.get? e = some oe ∧ oe.cls = .ref C ∧ oe.data = .fields vs ∧ vs[0]? = some a0 ∧ vs[1]? = some .none
section
variable {M : Model} {A : Around} {E : Value → Shared → Prop} {env : Env}
variable {C : Addr} {bm : List Value}
theorem raise_made {s : Shared} {x : Sem Value} {Q : Flow → Shared → Prop} (O : BmOk bm) (hh : A.handled = none)
    (h : wpAny M A x (fun v s₁ => Stop (∃ e oe vs, v = .ref e ∧ ClsAt s₁.heap C bm ∧ s₁.heap.get? e = some oe ∧ oe.cls = .ref C ∧ oe.data = .fields vs ∧ vs[1]? = some .none ∧ E (.ref e) s₁)) E s) :
    wpAny M A (raiseStmt env (some x) none) Q E s := by
  have hcB : (Value.ref C :: bm).contains (.type "BaseException") = true := by rw [List.contains_cons, O.hasB, Bool.or_true]
  unfold raiseStmt
  refine wpAny_bind (wpAny_mono h (fun v s₁ h₁ => ?_) fun _ _ x => x)
  obtain ⟨e, oe, vs, rfl, ⟨nm, q, N, bs, sn, sub, ab, col, dd, k0, k1, k2, k3, k5, hC⟩, he, hcls, hd, hv1, hE⟩ := h₁
  obtain ⟨hp, g, d, tk, os⟩ := s₁
  repeat (first | (with_reducible refine wpAny_loadPart_at he ?_; rw [hcls]) | with_reducible refine wpAny_loadPart_at hC ?_ | (with_reducible refine wpAny_isSubtype_exc hC ?_; rw [hcB]) | wp_step)
  rw [hd]
  refine wpAny_pure ?_
  simp only [hv1]
  refine wpAny_pure ?_
  rw [if_neg (by decide)]
  exact wpAny_pure (wpAny_raiseNew_none hh hE)
end
section
variable {prog : Program} {w : World} {A : Around} {E : Value → Shared → Prop} {s : Shared} {env : Env} {C : Addr} {bm : List Value}
theorem raise_stmt {ex : PySem.Expr} {pos : Pos} {Q : Flow → Shared → Prop} (O : BmOk bm) (hh : A.handled = none)
    (h : wpAny (model prog w) A (eval ex env) (fun v s₁ => Stop (∃ e oe vs, v = .ref e ∧ ClsAt s₁.heap C bm ∧ s₁.heap.get? e = some oe ∧ oe.cls = .ref C ∧ oe.data = .fields vs ∧ vs[1]? = some .none ∧ E (.ref e) s₁)) E s) :
    wpAny (model prog w) A (exec (.Raise (some ex) none pos) env) Q E s := by
  rw [arm_exec_Raise]
  simp only [evalOpt, Option.map]
  exact wpAny_bind (wpAny_standAt (raise_made (C := C) O hh (wpAny_bind (wpAny_mono h (fun v s₃ h₃ => wpAny_bind (wpAny_standAt (wpAny_pure h₃))) fun _ _ x => x))))
end
section
variable {prog : Program} {w : World} {A : Around} {E : Value → Shared → Prop} {R : Result → Shared → Prop} {h : Heap} {g : Array GenState} {d : Drawn} {t : Nat} {os : OsState}
variable {C : Addr} {bm : List Value}
theorem check_initX (O : BmOk bm) {M : Model} {e : Addr} {oe : Obj} {rest : List Value} {Q : Unit → Shared → Prop}
    (hC : ClsAt h C bm) (he : h.get? e = some oe) (hcls : oe.cls = .ref C) (hq : Q () ⟨h, g, d, t, os⟩) :
    wpAny M A (checkBuiltinCall "Exception.__init__" ⟨.ref e :: rest, []⟩) Q E ⟨h, g, d, t, os⟩ := by
  obtain ⟨nm, q, N, bs, sn, sub, ab, col, dd, k0, k1, k2, k3, k5, hC⟩ := hC
  have F := PySem.F.excBase_Exception
  have hcB : (Value.ref C :: bm).contains (.type "Exception") = true := by rw [List.contains_cons, O.hasE, Bool.or_true]
  have hshort := F.noStar
  simp only [checkBuiltinCall, F.initKind, F.initSplit, F.initRow]
  repeat (first | (with_reducible refine wpAny_loadPart_at he ?_; rw [hcls]) | with_reducible refine wpAny_loadPart_at hC ?_ | (with_reducible refine wpAny_isSubtype_exc hC ?_; rw [hcB]) | wp_step)
  refine wpAny_onRaise ?_
  rw [show ∀ (a b : String) (n : Nat), Bind.check ⟨.positional, "*", "Exception", .self, [⟨"args", .varPos, false⟩]⟩ a b n (List.map (fun x => x.fst) ({ pos := Value.ref e :: rest } : Args).kw) = pure () from
    fun a b n => check_star_args _ _ _ _ _ _]
  exact wpAny_pure hq
theorem init_callX (O : BmOk bm) {e : Addr} {oe : Obj} {vs : Array Value} {rest : List Value} (hC : ClsAt h C bm) (he : h.get? e = some oe) (hcls : oe.cls = .ref C) (hd : oe.data = .fields vs) (hsz : 0 < vs.size)
    (hq : ∀ h' u, (∀ b o, b ≠ e → h.get? b = some o → h'.get? b = some o) → h'.get? e = some { oe with data := .fields (vs.setIfInBounds 0 (.ref u)) } → R (.ok (.ret .none)) ⟨h', g, d, t, os⟩) (hrest : rest.length ≤ sizeLine := by size_fits) :
    codeAny (model prog w) A (.call (.builtin "Exception.__init__") ⟨.ref e :: rest, []⟩) R ⟨h, g, d, t, os⟩ := by
  have F := PySem.F.excBase_Exception
  refine codeAny_call_builtin F.init.plain F.initEntry (check_initX O hC he hcls ?_)
  unfold Builtin.«BaseException.__init__»
  have he' : (h.push { cls := .type "tuple", data := .seq rest.toArray }).get? e = some oe := Heap.get?_push_of_some _ he
  repeat wp_step
  rw [hd]
  refine wpAny_pure ?_
  have hv : vs[0]? = some vs[0] := Array.getElem?_eq_getElem hsz
  simp only [hv]
  refine wpAny_pure ?_
  refine wpAny_bind (wpAny_setField he' hd hsz ?_)
  have fin : R (.ok (.ret .none)) ⟨(h.push { cls := .type "tuple", data := .seq rest.toArray }).update e (Obj.mapFields (·.setIfInBounds 0 (Value.ref h.objs.size))), g, d, t, os⟩ := by
    refine hq _ h.objs.size (fun b o hb ho => ?_) ?_
    · rw [Heap.get?_update_other _ _ (Ne.symm hb)]
      exact Heap.get?_push_of_some _ ho
    · refine (Heap.get?_update_self _ he' (Obj.isFreed_of_fields (Obj.data_mapFields hd _))).trans ?_
      obtain ⟨oc, od, oda, osl⟩ := oe
      dsimp only at hd
      subst hd
      rfl
  split
  · refine wpAny_letGo ?_
    exact wpAny_pure fin
  · exact wpAny_pure (wpAny_pure fin)
end
open Builtin Builtin.ObjectAttr
section
variable {prog : Program} {w : World} {A : Around} {E : Value → Shared → Prop} {R : Result → Shared → Prop} {h : Heap} {g : Array GenState} {d : Drawn} {t : Nat} {os : OsState}
variable {C c2 x : Addr} {bm : List Value} {mA : Str → Option Value} {name : Str} {v : Value}
theorem storeX_own {o : Obj} {tk : Tok} {ns : List Str} {Q : Fin → Shared → Prop} {b : Bool} (hC : ClsAt h C bm) (hx : h.get? x = some o) (hc : o.cls = .ref C) (hnc : ∀ c, o.data ≠ .cls c)
    (hd : (o.dict = none ∧ ∀ n, mA n = none) ∨ ∃ dx, o.dict = some dx ∧ dx ≠ x ∧ h.Ns1 dx mA)
    (hq : ∀ h' tk' dx, (h'.get? x = some { o with dict := some dx } ∧ dx ≠ x ∧ h'.Ns1 dx (fun y => if y = name then some v else mA y) ∧ (o.dict = none → h.get? dx = none) ∧ ∀ dx', o.dict = some dx' → dx = dx') →
      (∀ b o', b ≠ x → (∀ dx, o.dict = some dx → b ≠ dx) → h.get? b = some o' → h'.get? b = some o') → Q (.done (.ret .none)) ⟨h', g, d, tk', os⟩)
    (hw : PySem.Within mA ns) (hsz : ns.length ≤ 100) :
    wpAny (model prog w) A (storeInOwnDict (.ref x) (.ref C) (.str name tk) name v b) Q E ⟨h, g, d, t, os⟩ := by
  obtain ⟨nm, q, N, bs, sn, sub, ab, col, dd, k0, k1, k2, k3, k5, hC⟩ := hC
  have hz : ns.length + 1 ≤ sizeLine := by rw [sizeLine_eq]; lia
  have Lc : Looks (model prog w) h (classData C) { name := nm, bases := bs, mro := .ref C :: bm, ns := N, qualname := q, hasDict := true, slotNames := sn, subclasses := sub, abstract := ab, collection := col, hasDel := false } := (Looks.ld hC).andThen .now
  unfold storeInOwnDict
  repeat (first | (with_reducible refine wpAny_loadPart_at hx ?_) | with_reducible refine wpAny_loadPart_at hC ?_ | wp_step)
  rcases hd with ⟨hdn, hmA⟩ | ⟨dx, hdx, hne, hns⟩
  · simp only [hdn, hc]
    refine wpAny_bind (Lc.at ?_)
    rw [if_neg (by simp), if_neg (by simp [typeHasDict])]
    · have hx₁ : (h.push { cls := .type "dict", data := .dict #[] }).get? x = some o := Heap.get?_push_of_some _ hx
      have hxs : x ≠ h.objs.size := Nat.ne_of_lt (Heap.lt_size hx)
      refine wpAny_bind (wpAny_alloc' ?_)
      refine wpAny_bind (wpAny_update' hx₁ ?_)
      refine wpAny_pure ?_
      have hgd : ((h.push { cls := .type "dict", data := .dict #[] }).update x fun o => { cls := o.cls, dict := some h.objs.size, data := o.data, slots := o.slots }).get? h.objs.size
          = some { cls := .type "dict", data := .dict #[] } :=
        (Heap.get?_update_ne _ _ _ _ hxs.symm).trans (Heap.get?_push_at rfl rfl)
      have hnd : ((h.push { cls := .type "dict", data := .dict #[] }).update x fun o => { cls := o.cls, dict := some h.objs.size, data := o.data, slots := o.slots }).Ns h.objs.size (fun _ => none) :=
        ⟨_, #[], _, hgd, rfl, fun e he => absurd he (by simp), fun _ => rfl⟩
      show wpAny _ _ (storeInDict h.objs.size (.str name tk) name v) _ _ _
      unfold storeInDict newKeyGuard
      refine wpAny_bind (wpAny_pure (wpAny_bind (wpAny_nsSet1 (Heap.Ns1.of_empty hnd) fun h' hn' hs => ?_)))
      obtain ⟨oD, esD, epD, hoD, hdD, hcD⟩ := hn'.count (PySem.Within.cons name v PySem.Within.nil)
      refine wpAny_bind (wpAny_lookBehind hoD (by rw [hdD]; exact pastItsLine_dict (Nat.le_trans hcD (by rw [List.length_cons, List.length_nil, sizeLine_eq]; lia))) ?_)
      wp_walk
      refine hq h' _ h.objs.size ⟨?_, hxs.symm, ?_, fun _ => ?_, fun dx e => (by rw [hdn] at e; cases e)⟩ fun b ob hbx _ hb => ?_
      · refine (hs.2 x hxs).trans (Heap.get?_update_self _ hx₁ ?_)
        have hfr := (Heap.get?_some_iff.mp hx).2
        obtain ⟨oc, od, odt, osl⟩ := o
        cases odt <;> first | rfl | exact hfr
      · obtain ⟨o', es, ep, e1, e2, e3, eu, e4⟩ := hn'
        exact ⟨o', es, ep, e1, e2, e3, eu, fun y => by rw [e4 y]; by_cases hy : y = name <;> simp [hy, hmA]⟩
      · exact Heap.get?_none_of_le (Nat.le_refl _)
      · exact (hs.2 b (Nat.ne_of_lt (Heap.lt_size hb))).trans ((Heap.get?_update_ne _ _ _ _ hbx).trans (Heap.get?_push_of_some _ hb))
  · simp only [hdx, hc]
    refine wpAny_bind (Lc.at ?_)
    rw [if_neg (by simp)]
    refine wpAny_pure ?_
    show wpAny _ _ (storeInDict dx (.str name tk) name v) _ _ _
    unfold storeInDict newKeyGuard
    refine wpAny_bind (wpAny_pure (wpAny_bind (wpAny_nsSet1 hns fun h' hn' hs => ?_)))
    obtain ⟨oD, esD, epD, hoD, hdD, hcD⟩ := hn'.count (PySem.Within.cons name v hw)
    refine wpAny_bind (wpAny_lookBehind hoD (by rw [hdD]; exact pastItsLine_dict (Nat.le_trans hcD (by rw [List.length_cons]; lia))) ?_)
    wp_walk
    refine hq h' _ dx ⟨?_, hne, hn', fun e => (by rw [hdx] at e; cases e), fun dx' e => (by rw [hdx] at e; exact Option.some.inj e)⟩ fun b ob _ hbd hb => ?_
    · refine ((hs.2 x hne.symm).trans hx).trans ?_
      obtain ⟨oc, od, odt, osl⟩ := o
      dsimp only at hdx
      rw [hdx]
    · exact (hs.2 b (hbd dx hdx)).trans hb

theorem storeX {o : Obj} {tk : Tok} {ns : List Str} (hC : ClsAt h C [.ref c2, .type "Exception", .type "BaseException", .type "object"]) (hx : h.get? x = some o) (hc : o.cls = .ref C) (hnc : ∀ c, o.data ≠ .cls c)
    (hl : Looks (model prog w) h (typeLookup (.ref C) name) none)
    (hd : (o.dict = none ∧ ∀ n, mA n = none) ∨ ∃ dx, o.dict = some dx ∧ dx ≠ x ∧ h.Ns1 dx mA)
    (hq : ∀ h' tk' dx, (h'.get? x = some { o with dict := some dx } ∧ dx ≠ x ∧ h'.Ns1 dx (fun y => if y = name then some v else mA y) ∧ (o.dict = none → h.get? dx = none) ∧ ∀ dx', o.dict = some dx' → dx = dx') →
      (∀ b o', b ≠ x → (∀ dx, o.dict = some dx → b ≠ dx) → h.get? b = some o' → h'.get? b = some o') → R (.ok (.ret .none)) ⟨h', g, d, tk', os⟩)
    (hw : PySem.Within mA ns) (hsz : ns.length ≤ 100) :
    codeAny (model prog w) A (.call (.builtin "object.__setattr__") ⟨[.ref x, .str name tk, v], []⟩) R ⟨h, g, d, t, os⟩ := by
  have SF := PySem.F.store_Exception
  have hC' := hC
  obtain ⟨nm, q, N, bs, sn, sub, ab, col, dd, k0, k1, k2, k3, k5, hC⟩ := hC
  have hcB : (Value.ref C :: [Value.ref c2, .type "Exception", .type "BaseException", .type "object"]).contains (.type "object") = true := by simp
  have L0 : Looks (model prog w) h (typeOf (.ref x)) (.ref C) := by rw [← hc]; exact (Looks.ld hx).andThen .now
  have L1 : Looks (model prog w) h (isSubtype (.ref C) (.type "object")) true := fun A Q E s k q => by
    obtain ⟨hh, g, d, t, os⟩ := s
    exact wpAny_isSubtype_exc (k _ _ hC) (by rw [hcB]; exact q)
  have L2 : Looks (model prog w) h (mroOf (.ref C)) (.ref C :: [Value.ref c2, .type "Exception", .type "BaseException", .type "object"]) := fun A Q E s k q => by
    obtain ⟨hh, g, d, t, os⟩ := s
    exact wpAny_mroOf_exc (k _ _ hC) q
  have sub : Looks (model prog w) h (isInstance (.ref x) (.type "object")) true := L0.andThen L1
  refine codeAny_call_builtin SF.slot.plain SF.entry (@check_slot (model prog w) _ _ ⟨h, g, d, t, os⟩ "object.__setattr__" "object" "__setattr__" (.ref x) [.str name tk, v] [] _ SF.kind SF.split sub (SF.args (.ref x) (.str name tk) v) ?_)
  rw [osa_eq, refuse_eq]
  refine wpAny_bind (wpAny_bind (L0.here (wpAny_bind (L2.here ?_))))
  rw [refuseLoop_ref, refuseLoop_ref, SF.passes]
  refine wpAny_pure (wpAny_bind (L0.here (wpAny_bind (hl.here (wpAny_bind (wpAny_pure ?_))))))
  exact storeX_own hC' hx hc hnc hd hq hw hsz

theorem set_attrX {o : Obj} {ns : List Str} {Q : Unit → Shared → Prop} (hC : ClsAt h C [.ref c2, .type "Exception", .type "BaseException", .type "object"]) (hx : h.get? x = some o) (hc : o.cls = .ref C) (hnc : ∀ c, o.data ≠ .cls c)
    (hs : Looks (model prog w) h (typeLookup (.ref C) "__setattr__") (some (.builtin "object.__setattr__")))
    (hl : Looks (model prog w) h (typeLookup (.ref C) name) none)
    (hd : (o.dict = none ∧ ∀ n, mA n = none) ∨ ∃ dx, o.dict = some dx ∧ dx ≠ x ∧ h.Ns1 dx mA)
    (hq : ∀ h' tk' dx, (h'.get? x = some { o with dict := some dx } ∧ dx ≠ x ∧ h'.Ns1 dx (fun y => if y = name then some v else mA y) ∧ (o.dict = none → h.get? dx = none) ∧ ∀ dx', o.dict = some dx' → dx = dx') →
      (∀ b o', b ≠ x → (∀ dx, o.dict = some dx → b ≠ dx) → h.get? b = some o' → h'.get? b = some o') → Q () ⟨h', g, d, tk', os⟩)
    (hw : PySem.Within mA ns) (hsz : ns.length ≤ 100) :
    wpAny (model prog w) A (setAttr (.ref x) name v) Q E ⟨h, g, d, t, os⟩ := by
  have SF := PySem.F.store_Exception
  have f3 := SF.slot.bind (.ref x)
  have L0 : Looks (model prog w) h (typeOf (.ref x)) (.ref C) := by rw [← hc]; exact (Looks.ld hx).andThen .now
  unfold setAttr callSpecial? specialOf
  refine wpAny_bind (wpAny_mkText (wpAny_bind (wpAny_bind (wpAny_bind (L0.here (hs.here ?_))))))
  refine wpAny_holding (wpAny_bind ?_)
  rw [f3]
  refine wpAny_pure (wpAny_bind (wpAny_call ?_))
  refine storeX hC hx hc hnc hl hd (fun h' tk' dx k1 k2 => ?_) hw hsz
  exact wpAny_pure (wpAny_pure (hq h' tk' dx k1 k2))
end
theorem code_defH {K : Frag} {A : Around} {news : List (Addr × Obj)} {env : Env} {R : Result → Shared → Prop} {name qual : Str} {params params₁ : Arguments} {body body₁ : List Stmt} {scope scope₁ : Scope} {dV kV doc pm cdv ct oc : Value} {an od : Option Addr} {osl : Array (Option Value)} {f : Addr} {args : Args} {binds : List (Str × Value)}
    (B : Below A₀ base outer h₀) (F : Fr h₀ L s.heap m) (X₀ : K.In h₀) (N : News h₀ L s.heap news) (T : Top p loose mean mg mb h₀) (hA : A.frames = some (env :: outer)) (hf : env.frame = some L) (hke : env.scope.kind = .function)
    (ho : K.lookup f = some ⟨oc, od, .func (fnOf name qual params body scope dV kV doc pm an cdv ct), osl⟩) (hp : params = params₁) (hb : body = body₁) (hs : scope = scope₁) (hcd : codeIn K cdv qual = true) (hroom : A.depth < recursionLimit)
    (hbind : BindsTo s (fnOf name qual params₁ body₁ scope₁ dV kV doc pm an cdv ct) args binds) (hloc : ∀ y ∈ binds, scope₁.names.lookup y.1 = some .local)
    (h : ∀ g L' h₁, Fr h₀ L g m → Fr g L' h₁ (fun y => binds.reverse.lookup y) → News g L' h₁ news → Below A base (env :: outer) g → K.In g → Top p loose mean mg mb g → (∀ b o, b ∉ news.map (·.1) → s.heap.get? b = some o → g.get? b = some o) → Keeps g s.heap →
      wpAny (model prog w) (A.deeper (envOf qual scope₁ L' f cdv)) (execs body₁ (envOf qual scope₁ L' f cdv))
        (fun fl s' => LeaveK h₀ L m g R (match fl with | .ret v => v | _ => .none) s')
        (fun e s' => wpAny (model prog w) (A.deeper (envOf qual scope₁ L' f cdv)) (leaving (envOf qual scope₁ L' f cdv) e) (fun _ s'' => R (.error e) s'') (fun e' s'' => R (.error e') s'') s')
        { s with heap := h₁, toks := s.toks + binds.length })
    (hco : scope₁.isCoroutine = false) (hgen : scope₁.isGenerator = false) (hk : scope₁.kind = .function)
    (hcell : ∀ x ∈ scope₁.names, x.2 ≠ .cell) : codeAny (model prog w) A (.call (.ref f) args) R s := by
  subst hp hb hs
  obtain ⟨FG, BG, st, lv⟩ := groundX (R := R) B F N hA hf hke
  refine codeAny_call_def (fd := fnX name qual params body scope [] dV kV doc pm an cdv ct) (body := body) (binds := binds) hroom ((X₀.keeps F.keep) _ _ ho) rfl (T.nolimit.keeps F.keep) (codeRec_of (X₀.keeps F.keep) hcd) rfl hbind hcell hloc (fun h₁ hns hk₁ => ?_) hco hgen hk
  exact wpAny_mono (h _ s.heap.objs.size h₁ FG ⟨hns, fun b o e => hk₁ b o (of_hideAll _ e), Nat.le_of_eq (hideAll_size _ _)⟩
    (fun p hp => ⟨hk₁ _ _ (N p hp).1, Nat.ne_of_lt (Heap.lt_size (N p hp).1), hideAll_none _ (List.mem_map_of_mem hp)⟩) BG (X₀.keeps st) (T.keeps st) (fun b o hn e => hideAll_get _ e hn) (fun b o e => of_hideAll _ e)) (fun fl s' hl => lv _ _ hl) fun _ _ y => y
local macro_rules | `(tactic| walk_at "m_enterH") => `(tactic| (refine' code_defH ?k1 ?k2 ?k3 ?k4 ?k5 ?kA ?kF ?kK ?k6 ?kp ?kb ?ks ?k7 ?k8 ?k9 ?kB ?_ ?c2 ?c3 ?c4 ?c5; (case kA => exact rfl); (case kF => exact rfl); (case kK => first | exact rfl | assumption); (case k1 => k_asm); (case k2 => k_asm); (case k3 => k_asm); (case k4 => assumption); (case k5 => k_asm); (case k6 => k_is); (case kp => walk_at "m_whnf"); (case kb => walk_at "m_whnf"); (case ks => walk_at "m_whnf"); (case k7 => k_is); (case k8 => ktr_room); (case k9 => first | exact BindsTo.of_eq rfl | exact binds_K (by k_in) rfl (by k_is) rfl rfl rfl); (case c5 => decide); (case kB => exact locs rfl); (case c2 => exact rfl); (case c3 => exact rfl); (case c4 => exact rfl); k_whole))

theorem meta_Exception : typeOf (.type "Exception") = pure (.type "type") := by kernel_rfl
local macro_rules | `(tactic| walk_at "getMethod type:Exception") => `(tactic| (k_here; refine' method_type ?F ?X ?m (by decide +kernel) ?e ?h ?_; (case F => k_asm); (case X => k_asm); (case m => exact meta_Exception); (case e => k_dflt k_is); (case h => k_handed)))
def bmX : List Value := [.ref 39, .type "Exception", .type "BaseException", .type "object"]
theorem bmX_ok : BmOk bmX := ⟨by decide, by decide, by decide, by decide⟩
theorem cls52 {h : Heap} (X : (hd.heap_39 w.params).In h) : ClsAt h 52 bmX := ⟨_, _, _, _, _, _, _, _, _, _, _, _, _, _, X _ _ rfl⟩
structure ExcAt (g h : Heap) (L e : Addr) (k : Nat) : Prop where
  ex : ∃ (o : Obj) (vs : Array Value) (a0 : Value) (mA : Str → Option Value) (ns : List Str), h.get? e = some o ∧ o.cls = .ref 52 ∧ o.data = .fields vs ∧ vs[0]? = some a0 ∧ vs[1]? = some .none ∧ PySem.Within mA ns ∧ ns.length ≤ k ∧
    ((o.dict = none ∧ ∀ n, mA n = none) ∨ ∃ d, o.dict = some d ∧ d ≠ e ∧ d ≠ L ∧ g.get? d = none ∧ h.Ns1 d mA)
  fresh : g.get? e = none
  notL : e ≠ L
theorem fr_but {g h h' : Heap} {L : Addr} {m : Str → Option Value} (F : Fr g L h m) (k : ∀ b o, b = L ∨ g.get? b = some o → h.get? b = some o → h'.get? b = some o) : Fr g L h' m := by
  obtain ⟨⟨oL, a1, a2, hL, a3⟩, k1, k2⟩ := F
  exact ⟨⟨oL, a1, a2, k _ _ (.inl rfl) hL, a3⟩, fun b o e => k _ _ (.inr e) (k1 b o e), k2⟩
theorem excAt_init {g : Heap} {A : Around} {e : Addr} {v : Value} {k : Nat} {X : (hd.heap_39 w.params).In g} (F : Fr g L s.heap m) (Y : ExcAt g s.heap L e k)
    (h : ∀ h', Fr g L h' m → ExcAt g h' L e k → Q .none { s with heap := h' }) : wpAny (model prog w) A (call (.builtin "Exception.__init__") [.ref e, v]) Q E s := by
  obtain ⟨⟨o, vs, a0, mA, ns, he, hcls, hd, h0, h1, hw, hn, hdict⟩, fr, nL⟩ := Y
  obtain ⟨hh, gn, dr, tk, os⟩ := s
  refine wpAny_call (init_callX bmX_ok (cls52 (X.keeps F.keep)) he hcls hd (Array.getElem?_eq_some_iff.mp h0).1 (fun h' u k1 k2 => ?_) (by size_fits))
  refine h h' (fr_but F fun b o' hb ho => k1 b o' (fun q => ?_) ho) ⟨⟨_, _, .ref u, mA, ns, k2, hcls, rfl, ?_, ?_, hw, hn, ?_⟩, fr, nL⟩
  · subst q
    rcases hb with q | q
    · exact nL q
    · rw [fr] at q; cases q
  · rw [Array.getElem?_setIfInBounds_self_of_lt (Array.getElem?_eq_some_iff.mp h0).1]
  · rw [Array.getElem?_setIfInBounds_ne (by decide)]; exact h1
  · rcases hdict with q | ⟨d, q1, q2, q3, q4, q5⟩
    · exact .inl q
    · obtain ⟨oD, es, ep, e1, e2⟩ := q5
      exact .inr ⟨d, q1, q2, q3, q4, oD, es, ep, k1 _ _ q2 e1, e2⟩
theorem excAt_store {g : Heap} {A : Around} {e : Addr} {name : Str} {v : Value} {k : Nat} {Q : Unit → Shared → Prop} {X : (hd.heap_39 w.params).In g} (F : Fr g L s.heap m) (Y : ExcAt g s.heap L e k) (hk : k < 50)
    (h1 : findIn (hd.heap_39 w.params) (.ref 52) "__setattr__" = some (some (.builtin "object.__setattr__"))) (h2 : findIn (hd.heap_39 w.params) (.ref 52) name = some none)
    (h : ∀ h' tk', Fr g L h' m → ExcAt g h' L e (k + 1) → Q () { s with heap := h', toks := tk' }) : wpAny (model prog w) A (setAttr (.ref e) name v) Q E s := by
  obtain ⟨⟨o, vs, a0, mA, ns, he, hcls, hd, h0, h1', hw, hn, hdict⟩, fr, nL⟩ := Y
  have X' := X.keeps F.keep
  obtain ⟨hh, gn, dr, tk, os⟩ := s
  refine set_attrX (cls52 X') he hcls (fun c q => by rw [hd] at q; cases q) (looks_findIn X' h1) (looks_findIn X' h2) (hdict.imp id fun ⟨d, q1, q2, _, _, q5⟩ => ⟨d, q1, q2, q5⟩) (fun h' tk' dx k1 k2 => ?_) hw (by lia)
  obtain ⟨c1, c2, c3, c4, c5⟩ := k1
  have hL : ∃ oL, hh.get? L = some oL := by obtain ⟨⟨oL, _, _, hL, _⟩, _⟩ := F; exact ⟨oL, hL⟩
  have hdx : dx ≠ L ∧ g.get? dx = none := by
    rcases hdict with q | ⟨d, q1, q2, q3, q4, q5⟩
    · have z := c4 q.1
      refine ⟨fun q => ?_, ?_⟩
      · obtain ⟨oL, hL⟩ := hL
        rw [q, hL] at z; cases z
      · cases y : g.get? dx with
        | none => rfl
        | some oo => have := F.keep _ _ y; rw [z] at this; cases this
    · rw [c5 d q1]; exact ⟨q3, q4⟩
  refine h h' tk' (fr_but F fun b o' hb ho => k2 b o' (fun q => ?_) (fun d q1 q => ?_) ho) ⟨⟨_, vs, a0, _, _, c1, hcls, hd, h0, h1', hw.cons name v, by simp only [List.length_cons]; lia, .inr ⟨dx, rfl, c2, hdx.1, hdx.2, c3⟩⟩, fr, nL⟩
  · subst q
    rcases hb with q | q
    · exact nL q
    · rw [fr] at q; cases q
  · rw [← c5 d q1] at q
    subst q
    rcases hb with q | q
    · exact hdx.1 q
    · rw [hdx.2] at q; cases q

theorem c_post_init {e t : Addr} {x : Str} {i : Int} {tx ti : Tok} (B : Below A₀ base outer h₀) (F : Fr h₀ L s.heap m) (N : News h₀ L s.heap [(e, { cls := .ref 52, data := .fields #[.ref t, .none, .none, .none, .bool false, .none] })]) (X : (hd.heap_39 w.params).In h₀) (T : Top p loose mean mg mb h₀) (hk : cs.kind = .function)
    (hdp : dp + 5 < recursionLimit) (hun : un + 8 < cLine)
    (hret : ∀ h' tk', (∀ b o, b ≠ e → s.heap.get? b = some o → h'.get? b = some o) → (∃ oe vs a0, h'.get? e = some oe ∧ oe.cls = .ref 52 ∧ oe.data = .fields vs ∧ vs[0]? = some a0 ∧ vs[1]? = some .none) → Q .none { s with heap := h', toks := tk' }) :
    wpAny (model prog w) ((ktrTop dp un gd cn cs L a ccd cl outer).under (.builtin "type.__call__" ⟨.ref 52 :: [.str x tx, .int i ti], []⟩)) (call (.ref 29) [.ref e, .str x tx, .int i ti]) Q E s := by
  refine wpAny_call ?_
  k_dflt (walk_at "m_enterH")
  intro g L1 h1 FG F1 N1 B1 X1 T1 hKG hGK
  walk_at "m_fold"
  refine letA ?_
  intro A9 Q9 E9
  k_steps
  have Y : ExcAt g h1 L1 e 0 := ⟨⟨_, _, _, fun _ => none, [], N1.get (by k_mem), rfl, rfl, rfl, rfl, PySem.Within.nil, Nat.le_refl _, .inl ⟨rfl, fun _ => rfl⟩⟩, (N1 _ (.head _)).2.2, (N1 _ (.head _)).2.1⟩
  clear N1
  k_dflt (refine excAt_init (X := X1) (by assumption) Y ?_)
  intro h2 F2 Y2
  have N2 : News g L1 h2 [] := News.nil
  k_steps
  k_dflt (refine excAt_store (X := X1) (by assumption) Y2 (by decide) (by k_is) (by k_is) ?_)
  intro h3 tk3 F3 Y3
  have N3 : News g L1 h3 [] := News.nil
  k_steps
  k_dflt (refine excAt_store (X := X1) (by assumption) Y3 (by decide) (by k_is) (by k_is) ?_)
  intro h4 tk4 F4 Y4
  have N4 : News g L1 h4 [] := News.nil
  k_steps
  obtain ⟨⟨o, vs, a0, mA, ns, he, hcls, hd, h0, h1', -, -, -⟩, -, -⟩ := Y4
  exact hret _ _ (fun b o hb ho => Fr.keep F4 b o (hKG b o (by simpa using hb) ho)) ⟨o, vs, a0, he, hcls, hd, h0, h1'⟩

theorem fn29 {h : Heap} (X : (hd.heap_39 w.params).In h) : ∃ oI, h.get? 29 = some oI ∧ oI.cls = .type "function" := ⟨_, X _ _ rfl, rfl⟩
theorem c_fault {x : Str} {i : Int} {tx ti : Tok} (B : Below A₀ base outer h₀) (F : Fr h₀ L s.heap m) (X : (hd.heap_39 w.params).In h₀) (T : Top p loose mean mg mb h₀) (hk : cs.kind = .function)
    (hdp : dp + 5 < recursionLimit) (hun : un + 8 < cLine)
    (hret : ∀ e h' tk', NewX 52 s.heap h' e → Q (.ref e) { s with heap := h', toks := tk' }) :
    wpAny (model prog w) (ktrTop dp un gd cn cs L a ccd cl outer) (call (.ref 52) [.str x tx, .int i ti]) Q E s := by
  have X' := X.keeps F.keep
  obtain ⟨oI, hI, hIc⟩ := fn29 X'
  obtain ⟨nm, q, N, bs, sn, sub, ab, col, dd, k0, k1, k2, k3, k5, hC⟩ := cls52 X'
  obtain ⟨hh, gn, dr, tk, os⟩ := s
  refine call_initX bmX_ok hC (looks_findIn (K := hd.heap_39 w.params) X' (by k_is)) hI hIc (fun h' e hm => ?_) (by size_fits)
  obtain ⟨t, ht, -, -⟩ := hm.there
  have eL : e ≠ L := fun q => by
    obtain ⟨⟨oL, _, _, hL, _⟩, _⟩ := F
    have z := hm.new
    rw [q, hL] at z; cases z
  have e0 : h₀.get? e = none := by
    cases y : h₀.get? e with
    | none => rfl
    | some oo => have := F.keep _ _ y; rw [hm.new] at this; cases this
  refine c_post_init (s := ⟨h', gn, dr, tk, os⟩) B (Keeps.fr hm.keeps F) (fun p hp => by rw [List.mem_singleton.mp hp]; exact ⟨ht, eL, e0⟩) X T hk hdp hun fun h2 tk2 k9 hthere => ⟨rfl, ?_⟩
  exact hret e h2 tk2 ⟨fun b o ho => k9 b o (fun q => by rw [q, hm.new] at ho; cases ho) (hm.keeps b o ho), hm.new, hthere⟩

theorem raise_ex {h : Heap} {e : Addr} {s₁ : Shared} (hx : NewX 52 h s₁.heap e) (X : (hd.heap_39 w.params).In h) (hE : E (.ref e) s₁) :
    Stop (∃ e' oe vs, Value.ref e = .ref e' ∧ ClsAt s₁.heap 52 bmX ∧ s₁.heap.get? e' = some oe ∧ oe.cls = .ref 52 ∧ oe.data = .fields vs ∧ vs[1]? = some .none ∧ E (.ref e') s₁) := by
  obtain ⟨oe, vs, a0, h1, h2, h3, h4, h5⟩ := hx.there
  exact ⟨e, oe, vs, rfl, cls52 (X.keeps hx.keeps), h1, h2, h3, h5, hE⟩

theorem leave_newX {M : Model} {A : Around} {g h : Heap} {s' : Shared} {e : Addr} {name : Str} {scope : Scope} {cd : Value} {news : List (Addr × Obj)} {Q : Unit → Shared → Prop} (K : Below A base outer g) (hx : NewX 52 h s'.heap e) (F : Fr g L h m) (N : News g L h news)
    (hQ : ∀ h', RaisedN base outer e (.ref 52) news h' → g.UpToSlots h' → Q () { s' with heap := h' }) (hk : scope.kind = .function := by rfl) :
    wpAny M (A.deeper (envOf name scope L a cd)) (leaving (envOf name scope L a cd) (.ref e)) Q E s' := by
  have K' := K.push (name := name) (a := a) (cd := cd) F hk
  have hin : ∀ env ∈ (envOf name scope L a cd :: outer), ∀ b, env.frame = some b → b ∈ (envOf name scope L a cd :: outer).filterMap (·.frame) := fun env he b hb => List.mem_filterMap.mpr ⟨env, he, hb⟩
  have st : base.StaysIn (hideAll h ((envOf name scope L a cd :: outer).filterMap (·.frame))) := fun b o q => hideAll_get _ (K'.stays b o q) fun hm => by
    rw [(K'.frames.mem hm).1] at q; cases q
  have hl : ∀ q ∈ news, (hideAll h ((envOf name scope L a cd :: outer).filterMap (·.frame))).get? q.1 = some q.2 ∧ base.get? q.1 = none := fun q hq => by
    refine ⟨hideAll_get _ (N q hq).1 fun hm => ?_, fresh_of_stays K.stays (N q hq).2.2⟩
    obtain ⟨env, he, hf⟩ := List.mem_filterMap.mp hm
    rcases List.mem_cons.mp he with rfl | he
    · exact (N q hq).2.1 (Option.some.inj hf).symm
    · obtain ⟨o, ho, _⟩ := (K.frames.mem (List.mem_filterMap.mpr ⟨env, he, hf⟩)).2
      rw [(N q hq).2.2] at ho; cases ho
  obtain ⟨oe, vs, a0, he, hcls, hd, hv0, hv1⟩ := hx.there
  have hen : (hideAll h ((envOf name scope L a cd :: outer).filterMap (·.frame))).get? e = none := by
    cases q : (hideAll h ((envOf name scope L a cd :: outer).filterMap (·.frame))).get? e with
    | none => rfl
    | some o => have := of_hideAll _ q; rw [hx.new] at this; cases this
  refine wpAny_leaving_firstW (a0 := a0) K'.stack ((funFrames_hide K'.frames hin).of_keeps fun b o hb _ => ⟨o, hx.keeps b o hb, rfl⟩) rfl he (fun b o hb => hx.keeps b o (of_hideAll _ hb)) hen hd hv1 hv0 fun h' hL => ?_
  obtain ⟨k1, ⟨_, _, k2⟩, k3, k4⟩ := hL
  exact hQ h' ⟨_, a0, st, hl, k1, hen, k2, by rw [← hcls]; exact k3⟩ (((Heap.UpToSlots.of_keeps F.keep).trans (Heap.UpToSlots.of_keeps hx.keeps)).trans k4)
local macro_rules | `(tactic| walk_at "exec Raise some none") => `(tactic| (k_here; (with_reducible show wpAny _ _ (exec (Stmt.Raise (some (Expr.Call (Expr.Name _ _) (_ :: _) [] _)) none _) _) _ _ _); k_dflt (refine raise_stmt (C := 52) (bm := bmX) bmX_ok rfl ?_)))
local macro_rules | `(tactic| walk_at "leaving ref") => `(tactic| (k_here; (refine' leave_newX ?k1 ?k0 ?k2 ?k3 ?_; (case k0 => assumption); (case k1 => assumption); (case k2 => assumption); (case k3 => k_asm); k_whole; intro h' R' U'; (try dsimp only at R' U' ⊢))))
theorem tokIn_get {tl : List (Addr × Obj)} {vs : List Value} {Ts : List Tk} (x : TokIn tl vs Ts) : vs.length = Ts.length ∧ ∀ (i : Nat) (T : Tk), Ts[i]? = some T → ∃ d v t1 t2 t3, vs[i]? = some (.ref d) ∧ (d, tupO [.str (kindS T.atom) t1, .bytes v t2, .int T.pos t3]) ∈ tl ∧ KBw.bInts v = T.w := by
  induction x with
  | nil => exact ⟨rfl, fun i T h => by simp at h⟩
  | @snoc vs Ts d T v t1 t2 t3 h1 hm hv ih =>
    refine ⟨by simp [ih.1], fun i T' h => ?_⟩
    rcases Nat.lt_or_ge i Ts.length with q | q
    · rw [List.getElem?_append_left q] at h
      obtain ⟨d', v', u1, u2, u3, a1, a2, a3⟩ := ih.2 i T' h
      exact ⟨d', v', u1, u2, u3, by rw [List.getElem?_append_left (by lia)]; exact a1, a2, a3⟩
    · rw [List.getElem?_append_right q] at h
      have q0 : i - Ts.length = 0 := by
        rcases Nat.eq_zero_or_pos (i - Ts.length) with z | z
        · exact z
        · rw [List.getElem?_eq_none (by simp; lia)] at h; cases h
      rw [q0] at h
      simp only [List.getElem?_cons_zero, Option.some.injEq] at h
      subst h
      refine ⟨d, v, t1, t2, t3, ?_, hm, hv⟩
      rw [List.getElem?_append_right (by lia), ih.1, q0]
      rfl
abbrev rdObj (w : World) (lt : Addr) (k1 k2 k3 t2 t3 : Tok) (i n : Int) : Obj := dictOf [ent w "tokens" k1 (.ref lt), ent w "at" k2 (.int i t2), ent w "length" k3 (.int n t3)] 3
abbrev rdL (w : World) (x dx lt : Addr) (k1 k2 k3 t2 t3 : Tok) (i n : Int) (vs : List Value) (c : Nat) (tl : List (Addr × Obj)) : List (Addr × Obj) :=
  (dx, rdObj w lt k1 k2 k3 t2 t3 i n) :: (x, instObj 317 dx) :: (lt, listOf vs.toArray c) :: tl
abbrev atomTk (y : Str) (pos : Int) : Tk := ⟨true, y.cps.toList.map Int.ofNat, pos⟩
abbrev signTk (c : Int) (pos : Int) : Tk := ⟨false, [c], pos⟩
theorem m_listItem {A : Around} {value slice : PySem.Expr} {l : Addr} {vs : List Value} {k : Int} {u : Tok} {v : Value} {Q : Value → Shared → Prop}
    (hl : s.heap.IsList l vs.toArray) (hx : vs[k.toNat]? = some v) (h0 : 0 ≤ k) (hhi : k < 2 ^ 63) (h : Q v s)
    (hs : subscripted slice false (.ref l) (.int k u) = operate [.ref l, .int k u] (getItem (.ref l) (.int k u)) := by with_unfolding_all rfl) :
    wpAny (model prog w) A (subscriptTail value slice (.ref l) (.int k u)) Q E s :=
  tail_any hl.typeIs slot_list_getitem.lookup (wpAny_getItem_list hl h0 hhi (by simpa using hx) h) hs
local macro_rules | `(tactic| walk_at "subscriptTail") => `(tactic| (k_here; (with_reducible show wpAny _ _ (subscriptTail _ _ (Value.ref _) (Value.int _ _)) _ _ _); (with_unfolding_all refine' m_listItem ?k1 ?k2 ?k3 ?k4 ?_ ?k6; (case k1 => is_list); (case k2 => assumption); (case k3 => lia); (case k4 => lia); (case k6 => with_unfolding_all rfl); k_whole)))

theorem m_len {A : Around} {l : Addr} {vs : List Value} {N : Nat} {Q : Value → Shared → Prop} (hl : s.heap.IsList l vs.toArray) (hlen : vs.length = N) (hN : N ≤ 100) (h : Q (.int (N : Int) (s.toks + 1)) { s with toks := s.toks + 1 + 1 }) : wpAny (model prog w) A (call (.builtin "len") [.ref l]) Q E s := by
  have z : vs.toArray.size = N := by simpa using hlen
  exact call_len_list hl (by rw [z]; lia) (by rw [z]; exact h)
local macro_rules | `(tactic| walk_at "call builtin:len") => `(tactic| (k_here; (with_reducible show wpAny _ _ (call (Value.builtin "len") [Value.ref _]) _ _ _); k_dflt (refine' m_len ?k1 ?k2 ?k3 ?_; (case k1 => is_list); (case k2 => assumption); (case k3 => assumption); k_whole)))

theorem rdN_of {news : List (Addr × Obj)} {x dx lt : Addr} {k1 k2 k3 t2 t3 : Tok} {i n : Int} {vs : List Value} {c : Nat} {tl : List (Addr × Obj)} (N : News h₀ L s.heap news) (hm : (dx, rdObj w lt k1 k2 k3 t2 t3 i n) ∈ news) (hx : ∀ p ∈ (x, instObj 317 dx) :: (lt, listOf vs.toArray c) :: tl, p ∈ news) :
    News h₀ L s.heap (rdL w x dx lt k1 k2 k3 t2 t3 i n vs c tl) := news_sub N fun p hp => by
  rcases List.mem_cons.mp hp with rfl | hp
  · exact hm
  · exact hx p hp
local macro_rules | `(tactic| walk_at "led_in3") => `(tactic| (intro p9 hp9; (simp only [List.mem_cons] at hp9 ⊢); (rcases hp9 with h9 | h9 | h9 <;> simp [h9])))
local macro_rules | `(tactic| walk_at "led_in") => `(tactic| (intro p9 hp9; (simp only [rdL, List.mem_cons] at hp9 ⊢); (rcases hp9 with h9 | h9 | h9 | h9 <;> simp [h9])))

theorem c_place {x dx lt : Addr} {k1 k2 k3 t2 t3 : Tok} {i n : Int} {vs : List Value} {c : Nat} {tl : List (Addr × Obj)} {Ts : List Tk} {T0 : Tk} (hne : ∀ p ∈ (x, instObj 317 dx) :: (lt, listOf vs.toArray c) :: tl, p.1 ≠ dx) (hI : TokIn tl vs Ts) (hT : Ts[i.toNat]? = some T0) (h0 : 0 ≤ i) (hz : Ts.length ≤ 100)
    (B : Below A₀ base outer h₀) (F : Fr h₀ L s.heap m) (N : News h₀ L s.heap (rdL w x dx lt k1 k2 k3 t2 t3 i n vs c tl)) (X : (hd.heap_39 w.params).In h₀) (T : Top p loose mean mg mb h₀) (hk : cs.kind = .function)
    (hdp : dp + 5 < recursionLimit) (hun : un + 48 < cLine)
    (hret : ∀ t h' tk', Fr h₀ L h' m → News h₀ L h' (rdL w x dx lt k1 k2 k3 t2 t3 i n vs c tl) → Q (.int T0.pos t) { s with heap := h', toks := tk' }) :
    wpAny (model prog w) (ktrTop dp un gd cn cs L a ccd cl outer) (call (.ref 288) [.ref x]) Q E s := by
  obtain ⟨hlen, hg⟩ := tokIn_get hI
  obtain ⟨d, v, u1, u2, u3, hv1, hm9, hv2⟩ := hg _ _ hT
  have hlt : i.toNat < vs.length := (List.getElem?_eq_some_iff.mp hv1).1
  have N0 : News h₀ L s.heap ((d, tupO [.str (kindS T0.atom) u1, .bytes v u2, .int T0.pos u3]) :: rdL w x dx lt k1 k2 k3 t2 t3 i n vs c tl) := fun p hp => by
    rcases List.mem_cons.mp hp with rfl | hp
    · exact N _ (.tail _ (.tail _ (.tail _ hm9)))
    · exact N p hp
  clear N
  unfold rdL at N0
  refine wpAny_call ?_
  k_dflt (k_enter)
  walk_at "m_fold"
  refine letA ?_
  intro A9 Q9 E9
  k_steps
  exact hret _ _ _ (by k_asm) (news_sub (by k_asm) (by walk_at "led_in"))

theorem c_atom {x dx lt : Addr} {k1 k2 k3 t2 t3 : Tok} {i n : Int} {vs : List Value} {c : Nat} {tl : List (Addr × Obj)} {Ts : List Tk} {y : Str} {pos : Int} (hne : ∀ p ∈ (x, instObj 317 dx) :: (lt, listOf vs.toArray c) :: tl, p.1 ≠ dx) (hI : TokIn tl vs Ts) (hT : Ts[i.toNat]? = some (atomTk y pos)) (hy : y.cps.size ≤ 100) (h0 : 0 ≤ i) (hz : Ts.length ≤ 100)
    (B : Below A₀ base outer h₀) (F : Fr h₀ L s.heap m) (N : News h₀ L s.heap (rdL w x dx lt k1 k2 k3 t2 t3 i n vs c tl)) (X : (hd.heap_39 w.params).In h₀) (T : Top p loose mean mg mb h₀) (hk : cs.kind = .function)
    (hdp : dp + 5 < recursionLimit) (hun : un + 48 < cLine)
    (hret : ∀ t h' tk', Fr h₀ L h' m → News h₀ L h' (rdL w x dx lt k1 k2 k3 t2 t3 i n vs c tl) → Q (.str y t) { s with heap := h', toks := tk' }) :
    wpAny (model prog w) (ktrTop dp un gd cn cs L a ccd cl outer) (call (.ref 293) [.ref x]) Q E s := by
  obtain ⟨hlen, hg⟩ := tokIn_get hI
  obtain ⟨d, v, u1, u2, u3, hv1, hm9, hv2⟩ := hg _ _ hT
  have hlt : i.toNat < vs.length := (List.getElem?_eq_some_iff.mp hv1).1
  have N0 : News h₀ L s.heap ((d, tupO [.str (Str.ofString "atom") u1, .bytes v u2, .int pos u3]) :: rdL w x dx lt k1 k2 k3 t2 t3 i n vs c tl) := fun p hp => by
    rcases List.mem_cons.mp hp with rfl | hp
    · exact N _ (.tail _ (.tail _ (.tail _ hm9)))
    · exact N p hp
  clear N
  unfold rdL at N0
  refine wpAny_call ?_
  k_dflt (k_enter)
  walk_at "m_fold"
  refine letA ?_
  intro A9 Q9 E9
  k_steps
  refine Stop.out ?_
  (with_reducible rename Fr _ _ _ _ => F1)
  (with_reducible rename News _ _ _ _ => N1)
  refine m_comp (fun _ => true) (MapR (isInt fun a : Nat => (a : Int)) (isStr fun a => ⟨#[a]⟩)) (by decide) (by decide) rfl (by decide) rfl ?_
  k_steps
  have hbs : v.size = y.cps.size := by
    have z := congrArg List.length hv2
    rw [KBw.ints_length] at z
    simpa using z
  refine Stop.out ⟨_, _, src_bytes rfl, by rw [sizeLine_eq]; lia, ?_, ?_, ?_⟩
  · intro C i v s₂ m₂ E' _ _ _ _
    exact wpAny_tests_nil ⟨rfl, Keeps.of s₂ (Keeps.refl _)⟩
  · intro C i v' s₂ m₂ E' hP _ hNs hmx hKs
    obtain ⟨b0, u, hb0, rfl⟩ := hP
    have F2 := hKs.fr F1
    have N2 := hKs.news N1
    have hb : b0.toNat < 256 := b0.toNat_lt
    k_steps
    · exact mapR_int fun a ha => ⟨_, by rw [← ha]; rfl⟩
    · exact Keeps.of s₂ (by assumption)
  · intro D c' ys vs' h' tk' hD hys hlen' hP hF hKs
    have F2 := hKs.fr F1
    have N2 := hKs.news N1
    have hS := (each_of (R := isInt fun a : Nat => (a : Int)) (S := isStr fun a => (⟨#[a]⟩ : Str)) y.cps.toList vs' ys.toList (by rw [hlen', hbs]; simp) (fun j v' hv' => by
      obtain ⟨b0, u, hb0, rfl⟩ := hP j v' hv'
      have z := KBw.ints_get hb0
      rw [hv2] at z
      simp only [List.getElem?_map, Option.map_eq_some_iff] at z
      obtain ⟨a, ha, hab⟩ := z
      exact ⟨a, ha, u, by rw [← hab]; rfl⟩) (by rw [filter_tt] at hF; exact hF)).strs
    have hj : y.cps.toList.map (fun c => (⟨#[c]⟩ : Str)) = signs y := by simp [signs]
    rw [hj] at hS
    walk_at "m_fold"
    k_steps
    k_dflt (refine' join_listW (x := Str.ofString "") (D := D) ?ja ?jb ?jc ?jd (fun t' k => ?je))
    case ja => exact ⟨_, hys, rfl, _, rfl⟩
    case jb => exact hS
    case jc => decide
    case jd => rw [signs_weight]; lia
    rw [join_empty]
    walk_at "m_fold"
    k_steps
    exact hret _ _ _ (by k_asm) (news_sub (by k_asm) (by walk_at "led_in"))
theorem sliceApplied_2 {A : Around} {sl : Addr} {u : Tok} {Q : Int × Int × Nat → Shared → Prop} (hs : s.heap.IsSliceOf sl .none (.int 2 u) .none) (h : Q (0, 1, 2) s) :
    wpAny (model prog w) A (Builtin.Slice.sliceApplied (.ref sl) (pure (3 : Int))) Q E s := by
  obtain ⟨os, hos, hcs, hds⟩ := id hs
  unfold Builtin.Slice.sliceApplied Builtin.Slice.sliceFields
  refine wpAny_bind (wpAny_bind (wpAny_field hos hds (x := .none) rfl (wpAny_bind (wpAny_field hos hds (x := .int 2 u) rfl (wpAny_bind (wpAny_field hos hds (x := .none) rfl (wpAny_pure ?_)))))))
  refine wpAny_bind (slicePart_none ?_)
  show wpAny _ _ (if ((1 : Int) == 0) = true then _ else _) _ _ s
  rw [if_neg (by decide)]
  refine wpAny_bind (slicePart_none (wpAny_bind (slicePart_int (wpAny_bind (wpAny_pure ?_)))))
  exact wpAny_pure h
theorem getItem_cut2 {A : Around} {t sl : Addr} {x0 x1 x2 : Value} {u : Tok} {Q : Value → Shared → Prop} (ht : IsTup s.heap t #[x0, x1, x2]) (hs : s.heap.IsSliceOf sl .none (.int 2 u) .none)
    (h : Q (.ref s.heap.objs.size) { s with heap := s.heap.push (tupO [x0, x1]) }) : wpAny (model prog w) A (getItem (.ref t) (.ref sl)) Q E s := by
  obtain ⟨os, hos, hcs, hds⟩ := id hs
  have hTs : s.TypeIs (.ref sl) "slice" := ⟨os, hos, hcs⟩
  have hz : sizeOk (.seq [x0, x1].toArray) := by show 2 ≤ sizeLine; size_fits
  unfold getItem
  try with_reducible refine wpAny_holding ?_
  first | refine wpAny_bind (wpAny_pure ?_) | skip
  refine wpAny_bind (wpAny_sequenceKey ht.typeIs (by decide) ?_)
  refine wpAny_bind (wpAny_callSpecial?_slot (name := Str.ofString "__getitem__") ht.typeIs slot_tuple_getitem
    (wpAny_call_entry slot_tuple_getitem ht.typeIs entry_tuple_getitem ?_ (args_tuple_getitem _ _)))
  show wpAny _ _ (Builtin.Tuple.tupleItemsOf (.ref t) >>= _) _ _ s
  refine wpAny_bind (tupleItemsOf_ ht ?_)
  refine wpAny_bind (wpAny_typeOf hTs ?_)
  rw [if_pos (by decide)]
  refine wpAny_bind (sliceApplied_2 hs ?_)
  have hno : ¬ (((0 : Int) == 0 && (1 : Int) == 1 && (2 : Nat) == #[x0, x1, x2].size) = true) := by simp
  show wpAny _ _ (if ((0 : Int) == 0 && (1 : Int) == 1 && (2 : Nat) == #[x0, x1, x2].size) = true then _ else _) _ _ s
  rw [if_neg hno]
  have hpick : ((List.range 2).filterMap fun (k : Nat) => #[x0, x1, x2][((0 : Int) + (k : Int) * 1).toNat]?).toArray = [x0, x1].toArray := rfl
  rw [hpick]
  first
    | exact wpAny_bind (m := Builtin.Tuple.tupleExact _) (wpAny_newObj_type (wpAny_pure ⟨_, rfl, wpAny_pure h⟩) hz)
    | exact wpAny_bind (m := Builtin.Tuple.tupleExact _) (wpAny_newObj_type (wpAny_bind (wpAny_pure (wpAny_pure ⟨_, rfl, wpAny_pure h⟩))) hz)
    | exact wpAny_bind (wpAny_bind (m := Builtin.Tuple.tupleExact _) (wpAny_newObj_type (wpAny_pure (wpAny_pure ⟨_, rfl, wpAny_pure h⟩)) hz))
    | exact wpAny_bind (wpAny_bind (m := Builtin.Tuple.tupleExact _) (wpAny_newObj_type (wpAny_pure ⟨_, rfl, wpAny_pure h⟩) hz))
theorem slice_cut2 {A : Around} {value slice : PySem.Expr} {t : Addr} {x0 x1 x2 : Value} {u : Tok} {Q : Value → Shared → Prop} {news : List (Addr × Obj)}
    (F : Fr h₀ L s.heap m) (N : News h₀ L s.heap news) (ht : IsTup s.heap t #[x0, x1, x2])
    (h : ∀ d h', Fr h₀ L h' m → News h₀ L h' ((d, tupO [x0, x1]) :: news) → Q (.ref d) { s with heap := h' })
    (hs : subscripted slice false (.ref t) (.ref s.heap.objs.size) = operate [.ref s.heap.objs.size, .ref t] (getItem (.ref t) (.ref s.heap.objs.size)) := by with_unfolding_all rfl)
    (hg : ∀ r, letTemporaryGo value (.ref t) r = pure () := by intro _; with_unfolding_all rfl) :
    wpAny (model prog w) A (subscriptTail value slice (.ref t) (.ref s.heap.objs.size)) Q E { s with heap := s.heap.push { cls := .type "slice", data := .fields #[.none, .int 2 u, .none] } } := by
  have ht' : IsTup (s.heap.push { cls := .type "slice", data := .fields #[.none, .int 2 u, .none] }) t #[x0, x1, x2] := ht.keeps fun _ _ e => Heap.get?_push_of_some _ e
  refine subscriptTail_ops (s := { s with heap := s.heap.push { cls := .type "slice", data := .fields #[.none, .int 2 u, .none] } }) ht'.typeIs slot_tuple_getitem.lookup
    (getItem_cut2 (s := { s with heap := s.heap.push { cls := .type "slice", data := .fields #[.none, .int 2 u, .none] } }) ht' (Heap.IsSliceOf.new ..) ?_) hs hg
  have N1 := News.push (F.push { cls := .type "slice", data := .fields #[.none, .int 2 u, .none] }) (N.grown fun _ _ e => Heap.get?_push_of_some _ e) (tupO [x0, x1])
  exact h _ _ ((F.push _).push _) N1
theorem eqAt_bytes {A : Around} (x y : Array UInt8) (t u : Tok) : SeqAt.EqAt A s (.bytes x t) (.bytes y u) (x.toList == y.toList) := fun prog w E Q h => by
  unfold eqBool
  refine wpAny_holding ?_
  refine wpAny_ite_split (fun hab => ?_) (fun _ => ?_)
  · have e : x = y := by have := eq_of_beq hab; injection this
    subst e
    exact wpAny_bind (wpAny_rule (wpAny_pure (by simpa using h)))
  · exact wpAny_bind (richCompare_gives (op := .Eq) (typeIs_bytes s x t) (typeIs_bytes s y u) FB.slot_bytes_eq FB.entry_bytes_eq (FB.args_bytes_eq_2 _ _) (gives_bytes_eq x y t u) (fun e => nomatch e) (wpAny_truthy_bool h))
theorem ne_pairs {A : Around} {d d' : Addr} {a b : Str} {x y : Array UInt8} {t1 t2 t3 t4 : Tok} {Q : Value → Shared → Prop} (N1 : s.heap.get? d = some (tupO [.str a t1, .bytes x t2])) (N2 : s.heap.get? d' = some (tupO [.str b t3, .bytes y t4])) (hu : A.units < cLine)
    (h : Q (.bool (!(a == b && x.toList == y.toList))) s) : wpAny (model prog w) A (compareOp .NotEq (.ref d) (.ref d')) Q E s := by
  refine SeqAt.RcNeAt.tuples (items := #[.str a t1, .bytes x t2]) (items2 := #[.str b t3, .bytes y t4]) (e := fun j => if j = 0 then a == b else x.toList == y.toList) ⟨_, N1, rfl, _, rfl⟩ ⟨_, N2, rfl, _, rfl⟩ hu (fun j h1 h2 => ?_) prog w E Q ?_
  · match j, h1, h2 with
    | 0, _, _ => exact SeqAt.EqAt.str_str a t1 b t3
    | 1, _, _ => exact eqAt_bytes x y t2 t4
    | j + 2, h1, _ => exact absurd h1 (by simp)
  · have e : (List.range (min (#[Value.str a t1, .bytes x t2] : Array Value).size (#[Value.str b t3, .bytes y t4] : Array Value).size)) = [0, 1] := rfl
    rw [e]
    simpa using h
theorem ne_pairs_r {A : Around} {d d' : Addr} {a b : Str} {x y : Array UInt8} {t1 t2 t3 t4 : Tok} {r : Bool} {Q : Value → Shared → Prop} (N1 : s.heap.get? d = some (tupO [.str a t1, .bytes x t2])) (N2 : s.heap.get? d' = some (tupO [.str b t3, .bytes y t4])) (hr : (!(a == b && x.toList == y.toList)) = r) (hu : A.units < cLine)
    (h : Q (.bool r) s) : wpAny (model prog w) A (compareOp .NotEq (.ref d) (.ref d')) Q E s := ne_pairs N1 N2 hu (by rw [hr]; exact h)
theorem rd_ne {x dx lt : Addr} {k1 k2 k3 t2 t3 : Tok} {i n : Int} {vs : List Value} {c : Nat} {tl : List (Addr × Obj)} (N : News h₀ L s.heap (rdL w x dx lt k1 k2 k3 t2 t3 i n vs c tl)) (htl : ∀ p ∈ tl, p.1 ≠ dx) :
    ∀ p ∈ (x, instObj 317 dx) :: (lt, listOf vs.toArray c) :: tl, p.1 ≠ dx := by
  have h0 := (N _ (.head _)).1
  refine List.forall_mem_cons.mpr ⟨fun q => ?_, List.forall_mem_cons.mpr ⟨fun q => ?_, htl⟩⟩
  · have h1 := (N _ (.tail _ (.head _))).1
    dsimp only at q h1 h0
    rw [q, h0] at h1
    have z := congrArg (Option.map (·.cls)) h1
    simp at z
  · have h1 := (N _ (.tail _ (.tail _ (.head _)))).1
    dsimp only at q h1 h0
    rw [q, h0] at h1
    have z := congrArg (Option.map (·.cls)) h1
    simp at z
local macro_rules | `(tactic| walk_at "compareOp NotEq ref ref") => `(tactic| (k_here; (with_reducible rename News _ _ _ _ => N'); k_dflt (refine' ne_pairs_r ?k1 ?k2 ?k3 ?k4 ?_; (case k1 => exact News.get N' (by k_mem)); (case k2 => exact News.get N' (by k_mem)); (case k3 => assumption); (case k4 => ktr_units); k_whole)))
local macro_rules | `(tactic| walk_at "subscriptTail") => `(tactic| (k_here; (with_reducible show wpAny _ _ (subscriptTail _ (Expr.Slice none _ none _) (Value.ref _) (Value.ref _)) _ _ _); (with_reducible rename Fr _ _ _ _ => F'); (with_reducible rename News _ _ _ _ => N'); k_dflt (refine' slice_cut2 (s := ⟨_, _, _, _, _⟩) F' N' ?k1 ?_ ?k2 ?k3; (case k1 => exact News.isTup N' (by k_mem)); (case k2 => with_unfolding_all rfl); (case k3 => (intro _; with_unfolding_all rfl)); k_whole); intro d' h' F' N'; (try k_sweep)))
theorem c_skip_hit {x dx lt : Addr} {k1 k2 k3 t2 t3 : Tok} {i n : Int} {vs : List Value} {c : Nat} {tl : List (Addr × Obj)} {Ts : List Tk} {ch pos : Int} {sg : Array UInt8} {tsg : Tok} (hne : ∀ p ∈ (x, instObj 317 dx) :: (lt, listOf vs.toArray c) :: tl, p.1 ≠ dx) (hI : TokIn tl vs Ts) (hT : Ts[i.toNat]? = some (signTk ch pos)) (hsg : KBw.bInts sg = [ch]) (h0 : 0 ≤ i) (hz : Ts.length ≤ 100)
    (B : Below A₀ base outer h₀) (F : Fr h₀ L s.heap m) (N : News h₀ L s.heap (rdL w x dx lt k1 k2 k3 t2 t3 i n vs c tl)) (X : (hd.heap_39 w.params).In h₀) (T : Top p loose mean mg mb h₀) (hk : cs.kind = .function)
    (hdp : dp + 5 < recursionLimit) (hun : un + 48 < cLine)
    (hret : ∀ t2' h' tk', Fr h₀ L h' m → News h₀ L h' (rdL w x dx lt k1 k2 k3 t2' t3 (i + 1) n vs c tl) → Q (.bool true) { s with heap := h', toks := tk' }) :
    wpAny (model prog w) (ktrTop dp un gd cn cs L a ccd cl outer) (call (.ref 300) [.ref x, .bytes sg tsg]) Q E s := by
  obtain ⟨hlen, hg⟩ := tokIn_get hI
  obtain ⟨d, v, u1, u2, u3, hv1, hm9, hv2⟩ := hg _ _ hT
  have hlt : i.toNat < vs.length := (List.getElem?_eq_some_iff.mp hv1).1
  have hne9 := hne
  have N0 : News h₀ L s.heap ((d, tupO [.str (Str.ofString "sign") u1, .bytes v u2, .int pos u3]) :: rdL w x dx lt k1 k2 k3 t2 t3 i n vs c tl) := fun p hp => by
    rcases List.mem_cons.mp hp with rfl | hp
    · exact N _ (.tail _ (.tail _ (.tail _ hm9)))
    · exact N p hp
  clear N
  unfold rdL at N0
  have hr9 : (!(Str.ofString "sign" == Str.ofString "sign" && v.toList == sg.toList)) = false := by
    have z : v = sg := bInts_inj (hv2.trans hsg.symm)
    rw [z]; simp
  refine wpAny_call ?_
  k_dflt (k_enter)
  walk_at "m_fold"
  k_steps
  (with_reducible rename News _ _ _ _ => N8)
  have N9 : News _ _ _ (rdL w x dx lt k1 k2 k3 t2 t3 i n vs c tl) := news_sub N8 (by walk_at "led_in")
  clear N8
  dsimp only [rdL] at N9
  k_steps
  (with_reducible rename News _ _ _ _ => NZ)
  exact hret _ _ _ (by k_asm) (rdN_of (w := w) NZ (by k_mem) (by walk_at "led_in3"))
theorem c_skip_miss {x dx lt : Addr} {k1 k2 k3 t2 t3 : Tok} {i n : Int} {vs : List Value} {c : Nat} {tl : List (Addr × Obj)} {Ts : List Tk} {y : Str} {pos : Int} {sg : Array UInt8} {tsg : Tok} (hne : ∀ p ∈ (x, instObj 317 dx) :: (lt, listOf vs.toArray c) :: tl, p.1 ≠ dx) (hI : TokIn tl vs Ts) (hT : Ts[i.toNat]? = some (atomTk y pos)) (h0 : 0 ≤ i) (hz : Ts.length ≤ 100)
    (B : Below A₀ base outer h₀) (F : Fr h₀ L s.heap m) (N : News h₀ L s.heap (rdL w x dx lt k1 k2 k3 t2 t3 i n vs c tl)) (X : (hd.heap_39 w.params).In h₀) (T : Top p loose mean mg mb h₀) (hk : cs.kind = .function)
    (hdp : dp + 5 < recursionLimit) (hun : un + 48 < cLine)
    (hret : ∀ h' tk', Fr h₀ L h' m → News h₀ L h' (rdL w x dx lt k1 k2 k3 t2 t3 i n vs c tl) → Q (.bool false) { s with heap := h', toks := tk' }) :
    wpAny (model prog w) (ktrTop dp un gd cn cs L a ccd cl outer) (call (.ref 300) [.ref x, .bytes sg tsg]) Q E s := by
  obtain ⟨hlen, hg⟩ := tokIn_get hI
  obtain ⟨d, v, u1, u2, u3, hv1, hm9, hv2⟩ := hg _ _ hT
  have hlt : i.toNat < vs.length := (List.getElem?_eq_some_iff.mp hv1).1
  have N0 : News h₀ L s.heap ((d, tupO [.str (Str.ofString "atom") u1, .bytes v u2, .int pos u3]) :: rdL w x dx lt k1 k2 k3 t2 t3 i n vs c tl) := fun p hp => by
    rcases List.mem_cons.mp hp with rfl | hp
    · exact N _ (.tail _ (.tail _ (.tail _ hm9)))
    · exact N p hp
  clear N
  unfold rdL at N0
  have hr9 : (!(Str.ofString "atom" == Str.ofString "sign" && v.toList == sg.toList)) = true := by
    rw [show (Str.ofString "atom" == Str.ofString "sign") = false by decide]; rfl
  refine wpAny_call ?_
  k_dflt (k_enter)
  walk_at "m_fold"
  k_steps
  (with_reducible rename News _ _ _ _ => NZ)
  exact hret _ _ (by k_asm) (rdN_of (w := w) NZ (by k_mem) (by walk_at "led_in3"))

theorem c_need {x dx lt : Addr} {k1 k2 k3 t2 t3 : Tok} {i n : Int} {vs : List Value} {c : Nat} {tl : List (Addr × Obj)} {wh : Str} {tw : Tok} {bb : Bool} (hbb : bb = true) (hne : ∀ p ∈ (x, instObj 317 dx) :: (lt, listOf vs.toArray c) :: tl, p.1 ≠ dx)
    (B : Below A₀ base outer h₀) (F : Fr h₀ L s.heap m) (N : News h₀ L s.heap (rdL w x dx lt k1 k2 k3 t2 t3 i n vs c tl)) (X : (hd.heap_39 w.params).In h₀) (T : Top p loose mean mg mb h₀) (hk : cs.kind = .function)
    (hdp : dp + 5 < recursionLimit) (hun : un + 48 < cLine)
    (hret : ∀ t2' h' tk', Fr h₀ L h' m → News h₀ L h' (rdL w x dx lt k1 k2 k3 t2' t3 (i + 1) n vs c tl) → Q .none { s with heap := h', toks := tk' }) :
    wpAny (model prog w) (ktrTop dp un gd cn cs L a ccd cl outer) (call (.ref 314) [.ref x, .bool bb, .str wh tw]) Q E s := by
  subst hbb
  have hne9 := hne
  unfold rdL at N
  refine wpAny_call ?_
  k_dflt (k_enter)
  walk_at "m_fold"
  refine letA ?_
  intro A9 Q9 E9
  k_steps
  (with_reducible rename News _ _ _ _ => NZ)
  exact hret _ _ _ (by k_asm) (rdN_of (w := w) NZ (by k_mem) (by walk_at "led_in3"))
theorem c_number {x dx lt : Addr} {k1 k2 k3 t2 t3 : Tok} {i n : Int} {vs : List Value} {c : Nat} {tl : List (Addr × Obj)} {Ts : List Tk} {y : Str} {pos lo hi : Int} {tlo thi : Tok} (hne : ∀ p ∈ (x, instObj 317 dx) :: (lt, listOf vs.toArray c) :: tl, p.1 ≠ dx) (hI : TokIn tl vs Ts) (hT : Ts[i.toNat]? = some (atomTk y pos)) (hy : y.cps.size ≤ 100) (hy0 : 0 < y.cps.size) (hr : ∀ c ∈ y.cps.toList, 48 ≤ c ∧ c ≤ 57) (hlo : lo ≤ (y.cps.size : Int)) (hhi : (y.cps.size : Int) ≤ hi) (h0 : 0 ≤ i) (hz : Ts.length ≤ 100)
    (B : Below A₀ base outer h₀) (F : Fr h₀ L s.heap m) (N : News h₀ L s.heap (rdL w x dx lt k1 k2 k3 t2 t3 i n vs c tl)) (X : (hd.heap_39 w.params).In h₀) (T : Top p loose mean mg mb h₀) (hk : cs.kind = .function)
    (hdp : dp + 11 < recursionLimit) (hun : un + 260 < cLine)
    (hret : ∀ d u1 u2 t2' h' tk', Fr h₀ L h' m → News h₀ L h' ((d, tupO [.int ((NumText.digitsVal y.cps.toList : Nat) : Int) u1, .int (y.cps.size : Int) u2]) :: rdL w x dx lt k1 k2 k3 t2' t3 (i + 1) n vs c tl) → Q (.ref d) { s with heap := h', toks := tk' }) :
    wpAny (model prog w) (ktrTop dp un gd cn cs L a ccd cl outer) (call (.ref 307) [.ref x, .int lo tlo, .int hi thi]) Q E s := by
  have hne9 := hne
  have hit := intText_of_digits hy hy0 hr
  have hln : y.length ≤ 640 := by show y.cps.size ≤ 640; lia
  have hsz : y.length = y.cps.size := rfl
  unfold rdL at N
  refine wpAny_call ?_
  k_dflt (k_enter)
  walk_at "m_fold"
  refine letA ?_
  intro A9 Q9 E9
  (k_steps; repeat (any_goals ((refine Stop.out ?_); (first | (k_here; (with_reducible show wpAny _ _ (call (Value.ref 293) _) _ _ _); k_dflt (refine' c_atom ?z9a0 ?z9a1 ?z9a2 ?z9a3 ?z9a4 ?z9a5 ?z9B ?z9F ?z9N ?z9X ?z9T ?z9k ?z9d ?z9u ?_; (case z9a0 => assumption); (case z9B => k_asm); (case z9F => k_asm); (case z9N => exact rdN_of (by k_asm) (by k_mem) (by walk_at "led_in3")); (case z9X => k_asm); (case z9T => k_asm); (case z9k => first | exact rfl | assumption); (case z9d => ktr_room); (case z9u => ktr_units); (case z9a1 => first | assumption | rfl | lia | decide); (case z9a2 => first | assumption | rfl | lia | decide); (case z9a3 => first | assumption | rfl | lia | decide); (case z9a4 => first | assumption | rfl | lia | decide); (case z9a5 => first | assumption | rfl | lia | decide); k_whole); intro t9 h9 tk9 F' N'; (dsimp only [rdL] at N'); (try k_sweep); (try dsimp only); (try k_fold)) | (k_here; (with_reducible show wpAny _ _ (call (Value.ref 255) _) _ _ _); k_dflt (refine' c_is_figures ?z9a1 ?z9a2 ?z9a3 ?z9B ?z9F ?z9X ?z9T ?z9k ?z9d ?z9u ?_; (case z9B => k_asm); (case z9F => k_asm); (case z9X => k_asm); (case z9T => k_asm); (case z9k => first | exact rfl | assumption); (case z9d => ktr_room); (case z9u => ktr_units); (case z9a1 => first | lia | decide); (case z9a2 => first | lia | decide); (case z9a3 => first | assumption | decide); k_whole); intro h9 tk9 hK9; walk_at "m_after")); k_steps)))
  (with_reducible rename News _ _ _ _ => NZ)
  refine hret _ _ _ _ _ _ (by k_asm) (List.forall_mem_cons.mpr ⟨NZ _ (by k_mem), rdN_of (w := w) NZ (by k_mem) (by walk_at "led_in3")⟩)
theorem raisedN_nil {e : Addr} {cls : Value} {news : List (Addr × Obj)} {l : List Env} {h : Heap} (R : RaisedN base l e cls news h) : RaisedN base l e cls [] h := by
  obtain ⟨B, a0, hB, _, hfl⟩ := R
  exact ⟨B, a0, hB, fun _ h => (nomatch h), hfl⟩
theorem c_number_bad {x dx lt : Addr} {k1 k2 k3 t2 t3 : Tok} {i n : Int} {vs : List Value} {c : Nat} {tl : List (Addr × Obj)} {Ts : List Tk} {y : Str} {pos lo hi : Int} {tlo thi : Tok} (hne : ∀ p ∈ (x, instObj 317 dx) :: (lt, listOf vs.toArray c) :: tl, p.1 ≠ dx) (hI : TokIn tl vs Ts) (hT : Ts[i.toNat]? = some (atomTk y pos)) (hy : y.cps.size ≤ 100) (hy0 : 0 < y.cps.size) (hr : ∀ c ∈ y.cps.toList, 48 ≤ c ∧ c ≤ 57) (hlo : (y.cps.size : Int) < lo ∨ hi < (y.cps.size : Int)) (h0 : 0 ≤ i) (hz : Ts.length ≤ 100)
    (B : Below A₀ base outer h₀) (F : Fr h₀ L s.heap m) (N : News h₀ L s.heap (rdL w x dx lt k1 k2 k3 t2 t3 i n vs c tl)) (X : (hd.heap_39 w.params).In h₀) (T : Top p loose mean mg mb h₀) (hk : cs.kind = .function)
    (hdp : dp + 11 < recursionLimit) (hun : un + 260 < cLine)
    (hbad : ∀ e h' tk' g, Fr h₀ L g m → RaisedN base (envX cn cs L a ccd cl :: outer) e (.ref 52) [] h' → g.UpToSlots h' → E (.ref e) { s with heap := h', toks := tk' }) :
    wpAny (model prog w) (ktrTop dp un gd cn cs L a ccd cl outer) (call (.ref 307) [.ref x, .int lo tlo, .int hi thi]) Q E s := by
  have hne9 := hne
  have hit := intText_of_digits hy hy0 hr
  have hln : y.length ≤ 640 := by show y.cps.size ≤ 640; lia
  have hsz : y.length = y.cps.size := rfl
  unfold rdL at N
  refine wpAny_call ?_
  k_dflt (k_enter)
  walk_at "m_fold"
  refine letA ?_
  intro A9 Q9 E9
  (k_steps; repeat (any_goals ((refine Stop.out ?_); (first | (k_here; (with_reducible show wpAny _ _ (call (Value.ref 293) _) _ _ _); k_dflt (refine' c_atom ?z9a0 ?z9a1 ?z9a2 ?z9a3 ?z9a4 ?z9a5 ?z9B ?z9F ?z9N ?z9X ?z9T ?z9k ?z9d ?z9u ?_; (case z9a0 => assumption); (case z9B => k_asm); (case z9F => k_asm); (case z9N => exact rdN_of (by k_asm) (by k_mem) (by walk_at "led_in3")); (case z9X => k_asm); (case z9T => k_asm); (case z9k => first | exact rfl | assumption); (case z9d => ktr_room); (case z9u => ktr_units); (case z9a1 => first | assumption | rfl | lia | decide); (case z9a2 => first | assumption | rfl | lia | decide); (case z9a3 => first | assumption | rfl | lia | decide); (case z9a4 => first | assumption | rfl | lia | decide); (case z9a5 => first | assumption | rfl | lia | decide); k_whole); intro t9 h9 tk9 F' N'; (dsimp only [rdL] at N'); (try k_sweep); (try dsimp only); (try k_fold)) | (k_here; (with_reducible show wpAny _ _ (call (Value.ref 288) _) _ _ _); k_dflt (refine' c_place ?z9a0 ?z9a1 ?z9a2 ?z9a4 ?z9a5 ?z9B ?z9F ?z9N ?z9X ?z9T ?z9k ?z9d ?z9u ?_; (case z9a0 => assumption); (case z9B => k_asm); (case z9F => k_asm); (case z9N => exact rdN_of (by k_asm) (by k_mem) (by walk_at "led_in3")); (case z9X => k_asm); (case z9T => k_asm); (case z9k => first | exact rfl | assumption); (case z9d => ktr_room); (case z9u => ktr_units); (case z9a1 => first | assumption | rfl | lia | decide); (case z9a2 => first | assumption | rfl | lia | decide); (case z9a4 => first | assumption | rfl | lia | decide); (case z9a5 => first | assumption | rfl | lia | decide); k_whole); intro t9 h9 tk9 F' N'; (dsimp only [rdL] at N'); (try k_sweep); (try dsimp only); (try k_fold)) | (k_here; (with_reducible show wpAny _ _ (call (Value.ref 52) _) _ _ _); k_dflt (refine' c_fault ?z9B ?z9F ?z9X ?z9T ?z9k ?z9d ?z9u ?_; (case z9B => k_asm); (case z9F => k_asm); (case z9X => k_asm); (case z9T => k_asm); (case z9k => first | exact rfl | assumption); (case z9d => ktr_room); (case z9u => ktr_units); k_whole); intro e9 h9 tk9 hX9) | (k_here; (with_reducible show wpAny _ _ (call (Value.ref 255) _) _ _ _); k_dflt (refine' c_is_figures ?z9a1 ?z9a2 ?z9a3 ?z9B ?z9F ?z9X ?z9T ?z9k ?z9d ?z9u ?_; (case z9B => k_asm); (case z9F => k_asm); (case z9X => k_asm); (case z9T => k_asm); (case z9k => first | exact rfl | assumption); (case z9d => ktr_room); (case z9u => ktr_units); (case z9a1 => first | lia | decide); (case z9a2 => first | lia | decide); (case z9a3 => first | assumption | decide); k_whole); intro h9 tk9 hK9; walk_at "m_after")); k_steps)))
  all_goals (with_reducible rename Fr _ _ _ _ => FZ)
  all_goals (with_reducible rename Frag.In _ _ => XZ)
  all_goals (refine raise_ex (w := w) (by assumption) (XZ.keeps FZ.keep) ?_)
  all_goals (k_steps; repeat (any_goals ((refine Stop.out ?_); (first | (k_here; (with_reducible show wpAny _ _ (call (Value.ref 293) _) _ _ _); k_dflt (refine' c_atom ?z9a0 ?z9a1 ?z9a2 ?z9a3 ?z9a4 ?z9a5 ?z9B ?z9F ?z9N ?z9X ?z9T ?z9k ?z9d ?z9u ?_; (case z9a0 => assumption); (case z9B => k_asm); (case z9F => k_asm); (case z9N => exact rdN_of (by k_asm) (by k_mem) (by walk_at "led_in3")); (case z9X => k_asm); (case z9T => k_asm); (case z9k => first | exact rfl | assumption); (case z9d => ktr_room); (case z9u => ktr_units); (case z9a1 => first | assumption | rfl | lia | decide); (case z9a2 => first | assumption | rfl | lia | decide); (case z9a3 => first | assumption | rfl | lia | decide); (case z9a4 => first | assumption | rfl | lia | decide); (case z9a5 => first | assumption | rfl | lia | decide); k_whole); intro t9 h9 tk9 F' N'; (dsimp only [rdL] at N'); (try k_sweep); (try dsimp only); (try k_fold)) | (k_here; (with_reducible show wpAny _ _ (call (Value.ref 288) _) _ _ _); k_dflt (refine' c_place ?z9a0 ?z9a1 ?z9a2 ?z9a4 ?z9a5 ?z9B ?z9F ?z9N ?z9X ?z9T ?z9k ?z9d ?z9u ?_; (case z9a0 => assumption); (case z9B => k_asm); (case z9F => k_asm); (case z9N => exact rdN_of (by k_asm) (by k_mem) (by walk_at "led_in3")); (case z9X => k_asm); (case z9T => k_asm); (case z9k => first | exact rfl | assumption); (case z9d => ktr_room); (case z9u => ktr_units); (case z9a1 => first | assumption | rfl | lia | decide); (case z9a2 => first | assumption | rfl | lia | decide); (case z9a4 => first | assumption | rfl | lia | decide); (case z9a5 => first | assumption | rfl | lia | decide); k_whole); intro t9 h9 tk9 F' N'; (dsimp only [rdL] at N'); (try k_sweep); (try dsimp only); (try k_fold)) | (k_here; (with_reducible show wpAny _ _ (call (Value.ref 52) _) _ _ _); k_dflt (refine' c_fault ?z9B ?z9F ?z9X ?z9T ?z9k ?z9d ?z9u ?_; (case z9B => k_asm); (case z9F => k_asm); (case z9X => k_asm); (case z9T => k_asm); (case z9k => first | exact rfl | assumption); (case z9d => ktr_room); (case z9u => ktr_units); k_whole); intro e9 h9 tk9 hX9) | (k_here; (with_reducible show wpAny _ _ (call (Value.ref 255) _) _ _ _); k_dflt (refine' c_is_figures ?z9a1 ?z9a2 ?z9a3 ?z9B ?z9F ?z9X ?z9T ?z9k ?z9d ?z9u ?_; (case z9B => k_asm); (case z9F => k_asm); (case z9X => k_asm); (case z9T => k_asm); (case z9k => first | exact rfl | assumption); (case z9d => ktr_room); (case z9u => ktr_units); (case z9a1 => first | lia | decide); (case z9a2 => first | lia | decide); (case z9a3 => first | assumption | decide); k_whole); intro h9 tk9 hK9; walk_at "m_after")); k_steps)))
  all_goals (with_reducible rename RaisedN _ _ _ _ _ _ => RZ)
  all_goals (with_reducible rename Heap.UpToSlots _ _ => UZ)
  all_goals exact hbad _ _ _ _ (by assumption) (raisedN_nil RZ) UZ
theorem tokIn_vs {tl : List (Addr × Obj)} {vs : List Value} {Ts : List Tk} (x : TokIn tl vs Ts) (i : Nat) (v : Value) (hv : vs[i]? = some v) : ∃ (T : Tk) (d : Addr) (b : Array UInt8) (t1 t2 t3 : Tok), v = .ref d ∧ (d, tupO [.str (kindS T.atom) t1, .bytes b t2, .int T.pos t3]) ∈ tl := by
  obtain ⟨hl, hg⟩ := tokIn_get x
  have hlt : i < vs.length := (List.getElem?_eq_some_iff.mp hv).1
  obtain ⟨d, b, t1, t2, t3, a1, a2, _⟩ := hg i Ts[i] (List.getElem?_eq_getElem (by lia))
  rw [hv] at a1
  exact ⟨_, d, b, t1, t2, t3, Option.some.inj a1, a2⟩
local macro_rules | `(tactic| walk_at "subscriptTail") => `(tactic| (k_here; (with_reducible show wpAny _ _ (subscriptTail _ _ (Value.ref _) (Value.int 0 _)) _ _ _); (rename IsTup _ _ _ => hT9); (with_unfolding_all refine' item_tuple hT9 ?k2 ?k3 ?_ ?k6; (case k2 => rfl); (case k3 => rfl); (case k6 => with_unfolding_all rfl); k_whole)))
theorem c_without_comments {l : Addr} {vs : List Value} {c : Nat} {tl : List (Addr × Obj)} {Ts : List Tk} (hI : TokIn tl vs Ts) (hz : Ts.length ≤ 100) (hl : s.heap.get? l = some (listOf vs.toArray c)) (ht : ∀ p ∈ tl, s.heap.get? p.1 = some p.2)
    (B : Below A₀ base outer h₀) (F : Fr h₀ L s.heap m) (X : (hd.heap_39 w.params).In h₀) (T : Top p loose mean mg mb h₀) (hk : cs.kind = .function)
    (hdp : dp + 5 < recursionLimit) (hun : un + 148 < cLine)
    (hret : ∀ D c' h' tk', Keeps s.heap h' → h'.get? D = some (listOf vs.toArray c') → s.heap.get? D = none → Q (.ref D) { s with heap := h', toks := tk' }) :
    wpAny (model prog w) (ktrTop dp un gd cn cs L a ccd cl outer) (call (.ref 135) [.ref l]) Q E s := by
  obtain ⟨hlen, hg⟩ := tokIn_get hI
  refine wpAny_call ?_
  k_dflt (walk_at "m_enter")
  intro g L1 h1 FG F1 N1 B1 X1 T1 hKG hGK
  walk_at "m_fold"
  refine letA ?_
  intro A9 Q9 E9
  k_steps
  refine Stop.out ?_
  refine m_comp (fun _ => true) (fun v y => v = y) (by decide) (by decide) rfl (by decide) rfl ?_
  walk1
  have hl1 : h1.IsList l vs.toArray := ⟨_, F1.keep _ _ (hKG _ _ hl), rfl, _, rfl⟩
  refine Stop.out ⟨_, _, src_list rfl hl1, by rw [sizeLine_eq, List.size_toArray]; lia, ?_, ?_, ?_⟩
  · intro C i v s₂ m₂ E' hP hNs hmx hKs
    obtain ⟨T0, d, b, t1, t2, t3, rfl, hm⟩ := tokIn_vs hI i v (by simpa using hP)
    have F2 := hKs.fr F1
    have N2 := hKs.news N1
    have hT9 : IsTup s₂.heap d #[.str (kindS T0.atom) t1, .bytes b t2, .int T0.pos t3] := ⟨_, hKs _ _ (F1.keep _ _ (hKG _ _ (ht _ hm))), rfl, _, rfl⟩
    refine wpAny_tests_one ?_
    k_steps
    · cases T0.atom <;> decide
    · exact Keeps.of s₂ (Keeps.refl _)
  · intro C i v s₂ m₂ E' hP _ hNs hmx hKs
    have F2 := hKs.fr F1
    have N2 := hKs.news N1
    k_steps
    exact Keeps.of s₂ (Keeps.refl _)
  · intro D c' ys vs' h' tk' hD hys hlen' hP hF hKs
    have F2 := hKs.fr F1
    have N2 := hKs.news N1
    have e1 : vs' = vs := list_of_get vs' vs (by rw [hlen', List.size_toArray]) fun j v hv => by simpa using hP j v hv
    have e2 : ys = vs.toArray := by
      rw [filter_tt, e1] at hF
      exact Array.toList_inj.mp (by rw [← paired_eq hF])
    subst e2
    have hF1 : Keeps h1 h' := hKs
    k_steps
    exact hret _ _ _ _ (hKG.trans (Fr.keep (L := L1) (h₀ := g) (by k_asm))) hys (fresh_of (fun b o e => F1.keep b o (hKG b o e)) hD)
local macro_rules | `(tactic| ktr_units) => `(tactic| (have hcL9 := cLine_is; (try simp only [units_under_make, units_in1, units_deeper, Around.mark_units, units_caller] at *); (try dsimp only [ktrTop] at *); lia))
local macro_rules | `(tactic| ktr_units) => `(tactic| walk_at "m_units")

theorem make_P {K : Frag} {C : Addr} {A : Around} {R : Result → Shared → Prop} {rest : List Value} {fI : Addr} (X : K.In s.heap) (hm : makesIn K C = true) (hi : findIn K (.ref C) "__init__" = some (some (.ref fI))) (hf : typeIn K (.ref fI) = some (.type "function"))
    (h : ∀ x dx h', Keeps s.heap h' → h'.get? x = some (instObj C dx) → h'.get? dx = some (dictOf [] 0) → s.heap.get? x = none → s.heap.get? dx = none →
      codeAny (model prog w) (A.under (.builtin "type.__call__" ⟨.ref C :: rest, []⟩)) (.call (.ref fI) ⟨.ref x :: rest, []⟩) (InitBack x R) { s with heap := h' }) :
    codeAny (model prog w) A (.call (.ref C) ⟨rest, []⟩) R s := by
  obtain ⟨hh, g, d, t, os⟩ := s
  refine make_core (makes_of X hm) (looks_findIn X hi) (fun self => bind_fn X self hf) (.inl rfl) (h _ hh.objs.size _ (fun b o e => Heap.get?_push_of_some _ (Heap.get?_push_of_some _ e)) ?_ ?_ (Heap.get?_none_of_le (Nat.le_succ _)) (Heap.get?_none_of_le (Nat.le_refl _)))
  · heap_get
  · heap_get
theorem rd_build {g h0 h1 h2 : Heap} {L' x dx D : Addr} {m' : Str → Option Value} {o : Obj} {tl : List (Addr × Obj)} (FA : Fr g L' h0 m') (NA : News g L' h0 [(dx, dictOf [] 0), (x, instObj 317 dx)]) (hK1 : Keeps h0 h1) (hK2 : Keeps h1 h2)
    (htl : ∀ p ∈ tl, h1.get? p.1 = some p.2 ∧ h0.get? p.1 = none) (eD : h2.get? D = some o) (nD : h1.get? D = none) :
    News g L' h2 ((dx, dictOf [] 0) :: (x, instObj 317 dx) :: (D, o) :: tl) ∧ ∀ p ∈ (x, instObj 317 dx) :: (D, o) :: tl, p.1 ≠ dx := by
  have FB := hK1.fr FA
  have n0 : News g L' h1 tl := fun p hp => news_add hK1 FA News.nil (htl p hp).1 (htl p hp).2 _ (.head _)
  have n1 : News g L' h2 ((D, o) :: tl) := news_add hK2 FB n0 eD nD
  have n2 := hK2.news (hK1.news NA)
  have e1 := (NA _ (.head _)).1
  refine ⟨fun p hp => ?_, List.forall_mem_cons.mpr ⟨fun q => ?_, List.forall_mem_cons.mpr ⟨fun q => ?_, fun p hp q => ?_⟩⟩⟩
  · rcases List.mem_cons.mp hp with rfl | hp
    · exact n2 _ (.head _)
    · rcases List.mem_cons.mp hp with rfl | hp
      · exact n2 _ (.tail _ (.head _))
      · exact n1 p hp
  · have e2 := (NA _ (.tail _ (.head _))).1
    dsimp only at q e1 e2
    rw [q, e1] at e2
    have z := congrArg (Option.map (·.cls)) e2
    simp at z
  · dsimp only at q e1
    rw [q, hK1 _ _ e1] at nD; cases nD
  · have z := (htl p hp).2
    rw [q, e1] at z; cases z

theorem rd_fin {news : List (Addr × Obj)} {h h' : Heap} {x dx lt : Addr} {k1 k2 k3 t2 t3 : Tok} {i n : Int} {vs : List Value} {c : Nat} {tl : List (Addr × Obj)} (N : News h₀ L h' news) (hm : (dx, rdObj w lt k1 k2 k3 t2 t3 i n) ∈ news) (hx : ∀ p ∈ (x, instObj 317 dx) :: (lt, listOf vs.toArray c) :: tl, p ∈ news)
    (ndx : h.get? dx = none) (nx : h.get? x = none) (nall : ∀ p ∈ (lt, listOf vs.toArray c) :: tl, h.get? p.1 = none) : ∀ p ∈ rdL w x dx lt k1 k2 k3 t2 t3 i n vs c tl, h'.get? p.1 = some p.2 ∧ h.get? p.1 = none := fun p hp => by
  rcases List.mem_cons.mp hp with rfl | hp
  · exact ⟨(N _ hm).1, ndx⟩
  · refine ⟨(N _ (hx p hp)).1, ?_⟩
    rcases List.mem_cons.mp hp with rfl | hp
    · exact nx
    · exact nall p hp

theorem c_reader {b : Array UInt8} {tb : Tok} {ks ws r : List Int} {Ts : List Tk} (hb : KBw.bInts b = ks) (hz : ks.length ≤ 100) (hTz : Ts.length ≤ 100) (hw0 : ks = ws ++ r) (hws : ∀ k ∈ ws, k = 32) (hwr : ∀ k ∈ r.head?, k ≠ 32 ∧ k ≠ 9 ∧ k ≠ 10 ∧ k ≠ 13) (hlex : Lex ks ws.length Ts)
    (B : Below A₀ base outer h₀) (F : Fr h₀ L s.heap m) (X : (hd.heap_39 w.params).In h₀) (T : Top p loose mean mg mb h₀) (hk : cs.kind = .function)
    (hdp : dp + 20 < recursionLimit) (hun : un + 300 < cLine)
    (hret : ∀ x dx lt k1 k2 k3 t2 t3 vs c tl h' tk', Keeps s.heap h' → TokIn tl vs Ts → (∀ p ∈ rdL w x dx lt k1 k2 k3 t2 t3 0 ks.length vs c tl, h'.get? p.1 = some p.2 ∧ s.heap.get? p.1 = none) → (∀ p ∈ (x, instObj 317 dx) :: (lt, listOf vs.toArray c) :: tl, p.1 ≠ dx) → Q (.ref x) { s with heap := h', toks := tk' }) :
    wpAny (model prog w) (ktrTop dp un gd cn cs L a ccd cl outer) (call (.ref 317) [.bytes b tb]) Q E s := by
  refine wpAny_call (make_P (K := hd.heap_39 w.params) (fI := 281) (X.keeps F.keep) (by k_is) (by k_is) (by k_is) fun x dx h0 hK0 ex edx nx ndx => ?_)
  have F0 := hK0.fr F
  have N0 : News h₀ L h0 [(dx, dictOf [] 0), (x, instObj 317 dx)] := List.forall_mem_cons.mpr ⟨news_add hK0 F News.nil edx ndx _ (.head _), List.forall_mem_cons.mpr ⟨news_add hK0 F News.nil ex nx _ (.head _), fun _ h => (nomatch h)⟩⟩
  k_dflt (walk_at "m_enterH")
  intro g L1 h1 FG F1 N1 B1 X1 T1 hKG hGK
  walk_at "m_fold"
  refine letA ?_
  intro A9 Q9 E9
  k_steps
  refine Stop.out ?_
  k_dflt (refine c_tokens_of hb hz hw0 hws hwr hlex (by k_asm) (by k_asm) (by k_asm) (by k_asm) rfl (by ktr_room) (by ktr_units) ?_)
  intro d1 vs c1 tl h3 tk1 hK1 ed1 en1 htl1 hI
  have FB := hK1.fr F1
  have NB := hK1.news N1
  k_steps
  refine Stop.out ?_
  k_dflt (refine c_without_comments hI hTz ed1 (fun p hp => (htl1 p hp).1) (by k_asm) (by k_asm) (by k_asm) (by k_asm) rfl (by ktr_room) (by ktr_units) ?_)
  intro D c2 h2 tk2 hK2 eD nD
  obtain ⟨NC, hne9⟩ := rd_build F1 N1 hK1 hK2 htl1 eD nD
  have FC := hK2.fr (hK1.fr F1)
  have kg : Keeps s.heap g := fun b o e => hKG b o (fun q => by
    simp only [List.map_cons, List.map_nil, List.mem_cons, List.not_mem_nil, or_false] at q
    rcases q with q | q
    · rw [q, ndx] at e; cases e
    · rw [q, nx] at e; cases e) (hK0 b o e)
  have kk : Keeps s.heap h1 := fun b o e => F1.keep b o (kg b o e)
  have nall : ∀ p ∈ (D, listOf vs.toArray c2) :: tl, s.heap.get? p.1 = none := List.forall_mem_cons.mpr ⟨fresh_of (kk.trans hK1) nD, fun p hp => fresh_of kk (htl1 p hp).2⟩
  clear N1 NB FB F1 eD nD hK2 htl1 en1 ed1 hK1
  k_steps
  (with_reducible rename News _ _ _ _ => NZ)
  k_dflt (refine' hret x dx D ?k1 ?k2 ?k3 ?t2 ?t3 vs c2 tl _ _ ?hk hI (rd_fin (w := w) NZ ?hm ?hx ndx nx nall) hne9)
  case hm => k_mem
  case hx => walk_at "led_in3"
  case hk => exact kg.trans (Fr.keep (L := L1) (h₀ := g) (by k_asm))
theorem c_numberV {x dx lt : Addr} {k1 k2 k3 t2 t3 : Tok} {i n : Int} {vs : List Value} {c : Nat} {tl : List (Addr × Obj)} {Ts : List Tk} {y : Str} {pos lo hi v : Int} {tlo thi : Tok} (hne : ∀ p ∈ (x, instObj 317 dx) :: (lt, listOf vs.toArray c) :: tl, p.1 ≠ dx) (hI : TokIn tl vs Ts) (hT : Ts[i.toNat]? = some (atomTk y pos)) (hy : y.cps.size ≤ 100) (hy0 : 0 < y.cps.size) (hr : ∀ c ∈ y.cps.toList, 48 ≤ c ∧ c ≤ 57) (hlo : lo ≤ (y.cps.size : Int)) (hhi : (y.cps.size : Int) ≤ hi) (hv : ((NumText.digitsVal y.cps.toList : Nat) : Int) = v) (h0 : 0 ≤ i) (hz : Ts.length ≤ 100)
    (B : Below A₀ base outer h₀) (F : Fr h₀ L s.heap m) (N : News h₀ L s.heap (rdL w x dx lt k1 k2 k3 t2 t3 i n vs c tl)) (X : (hd.heap_39 w.params).In h₀) (T : Top p loose mean mg mb h₀) (hk : cs.kind = .function)
    (hdp : dp + 11 < recursionLimit) (hun : un + 260 < cLine)
    (hret : ∀ d u1 u2 t2' h' tk', Fr h₀ L h' m → News h₀ L h' ((d, tupO [.int v u1, .int (y.cps.size : Int) u2]) :: rdL w x dx lt k1 k2 k3 t2' t3 (i + 1) n vs c tl) → Q (.ref d) { s with heap := h', toks := tk' }) :
    wpAny (model prog w) (ktrTop dp un gd cn cs L a ccd cl outer) (call (.ref 307) [.ref x, .int lo tlo, .int hi thi]) Q E s := by
  subst hv
  exact c_number hne hI hT hy hy0 hr hlo hhi h0 hz B F N X T hk hdp hun hret
theorem c_numberB {x dx lt : Addr} {k1 k2 k3 t2 t3 : Tok} {i n : Int} {vs : List Value} {c : Nat} {tl : List (Addr × Obj)} {Ts : List Tk} {y : Str} {pos lo hi v : Int} {tlo thi : Tok} (hne : ∀ p ∈ (x, instObj 317 dx) :: (lt, listOf vs.toArray c) :: tl, p.1 ≠ dx) (hI : TokIn tl vs Ts) (hT : Ts[i.toNat]? = some (atomTk y pos)) (hy : y.cps.size ≤ 100) (hy0 : 0 < y.cps.size) (hr : ∀ c ∈ y.cps.toList, 48 ≤ c ∧ c ≤ 57) (hv : ((NumText.digitsVal y.cps.toList : Nat) : Int) = v) (h0 : 0 ≤ i) (hz : Ts.length ≤ 100)
    (B : Below A₀ base outer h₀) (F : Fr h₀ L s.heap m) (N : News h₀ L s.heap (rdL w x dx lt k1 k2 k3 t2 t3 i n vs c tl)) (X : (hd.heap_39 w.params).In h₀) (T : Top p loose mean mg mb h₀) (hk : cs.kind = .function)
    (hdp : dp + 11 < recursionLimit) (hun : un + 260 < cLine)
    (hret : lo ≤ (y.cps.size : Int) → (y.cps.size : Int) ≤ hi → ∀ d u1 u2 t2' h' tk', Fr h₀ L h' m → News h₀ L h' ((d, tupO [.int v u1, .int (y.cps.size : Int) u2]) :: rdL w x dx lt k1 k2 k3 t2' t3 (i + 1) n vs c tl) → Q (.ref d) { s with heap := h', toks := tk' })
    (hbad : ((y.cps.size : Int) < lo ∨ hi < (y.cps.size : Int)) → ∀ e h' tk' g, Fr h₀ L g m → RaisedN base (envX cn cs L a ccd cl :: outer) e (.ref 52) [] h' → g.UpToSlots h' → E (.ref e) { s with heap := h', toks := tk' }) :
    wpAny (model prog w) (ktrTop dp un gd cn cs L a ccd cl outer) (call (.ref 307) [.ref x, .int lo tlo, .int hi thi]) Q E s := by
  by_cases h : lo ≤ (y.cps.size : Int) ∧ (y.cps.size : Int) ≤ hi
  · exact c_numberV hne hI hT hy hy0 hr h.1 h.2 hv h0 hz B F N X T hk hdp hun (hret h.1 h.2)
  · have hb : (y.cps.size : Int) < lo ∨ hi < (y.cps.size : Int) := by lia
    exact c_number_bad hne hI hT hy hy0 hr hb h0 hz B F N X T hk hdp hun (hbad hb)

theorem c_read_clock {x dx lt : Addr} {k1 k2 k3 t2 t3 : Tok} {i n : Int} {vs : List Value} {c : Nat} {tl : List (Addr × Obj)} {Ts : List Tk} {p1 p2 p3 p4 p5 : Int} (hne : ∀ p ∈ (x, instObj 317 dx) :: (lt, listOf vs.toArray c) :: tl, p.1 ≠ dx) (hI : TokIn tl vs Ts) (hT1 : Ts[i.toNat]? = some (atomTk (Str.ofString "01") p1)) (hT2 : Ts[(i + 1).toNat]? = some (signTk 58 p2)) (hT3 : Ts[(i + 1 + 1).toNat]? = some (atomTk (Str.ofString "02") p3)) (hT4 : Ts[(i + 1 + 1 + 1).toNat]? = some (signTk 58 p4)) (hT5 : Ts[(i + 1 + 1 + 1 + 1).toNat]? = some (atomTk (Str.ofString "03") p5)) (h0 : 0 ≤ i) (hz : Ts.length ≤ 100)
    (B : Below A₀ base outer h₀) (F : Fr h₀ L s.heap m) (N : News h₀ L s.heap (rdL w x dx lt k1 k2 k3 t2 t3 i n vs c tl)) (X : (hd.heap_39 w.params).In h₀) (T : Top p loose mean mg mb h₀) (hk : cs.kind = .function)
    (hdp : dp + 14 < recursionLimit) (hun : un + 320 < cLine)
    (hret : ∀ d u1 u2 u3 t2' h' tk', Fr h₀ L h' m → News h₀ L h' ((d, tupO [.int 1 u1, .int 2 u2, .int 3 u3]) :: rdL w x dx lt k1 k2 k3 t2' t3 (i + 1 + 1 + 1 + 1 + 1) n vs c tl) → Q (.ref d) { s with heap := h', toks := tk' }) :
    wpAny (model prog w) (ktrTop dp un gd cn cs L a ccd cl outer) (call (.ref 335) [.ref x]) Q E s := by
  have hne9 := hne
  have hv1 : ((NumText.digitsVal (Str.ofString "01").cps.toList : Nat) : Int) = 1 := by decide
  have hv2 : ((NumText.digitsVal (Str.ofString "02").cps.toList : Nat) : Int) = 2 := by decide
  have hv3 : ((NumText.digitsVal (Str.ofString "03").cps.toList : Nat) : Int) = 3 := by decide
  unfold rdL at N
  refine wpAny_call ?_
  k_dflt (k_enter)
  walk_at "m_fold"
  refine letA ?_
  intro A9 Q9 E9
  (k_steps; repeat (any_goals ((refine Stop.out ?_); (first | (k_here; (with_reducible show wpAny _ _ (call (Value.ref 307) _) _ _ _); k_dflt (refine' c_numberV ?z9a0 ?z9a1 ?z9a2 ?z9a3 ?z9a4 ?z9a5 ?z9a6 ?z9a7 ?z9av ?z9a8 ?z9a9 ?z9B ?z9F ?z9N ?z9X ?z9T ?z9k ?z9d ?z9u ?_; (case z9a0 => assumption); (case z9B => k_asm); (case z9F => k_asm); (case z9N => exact rdN_of (by k_asm) (by k_mem) (by walk_at "led_in3")); (case z9X => k_asm); (case z9T => k_asm); (case z9k => first | exact rfl | assumption); (case z9d => ktr_room); (case z9u => ktr_units); (case z9a1 => first | assumption | rfl | lia | decide); (case z9a2 => first | assumption | rfl | lia | decide); (case z9a3 => first | assumption | rfl | lia | decide); (case z9a4 => first | assumption | rfl | lia | decide); (case z9a5 => first | assumption | rfl | lia | decide); (case z9a6 => first | assumption | rfl | lia | decide); (case z9a7 => first | assumption | rfl | lia | decide); (case z9av => first | assumption | rfl | lia | decide); (case z9a8 => first | assumption | rfl | lia | decide); (case z9a9 => first | assumption | rfl | lia | decide); k_whole); intro d9 u91 u92 t9 h9 tk9 F' N'; (dsimp only [rdL] at N'); (try k_sweep); (try dsimp only); (try k_fold)) | (k_here; (with_reducible show wpAny _ _ (call (Value.ref 300) _) _ _ _); k_dflt (refine' c_skip_hit ?z9a0 ?z9a1 ?z9a2 ?z9a3 ?z9a4 ?z9a5 ?z9B ?z9F ?z9N ?z9X ?z9T ?z9k ?z9d ?z9u ?_; (case z9a0 => assumption); (case z9B => k_asm); (case z9F => k_asm); (case z9N => exact rdN_of (by k_asm) (by k_mem) (by walk_at "led_in3")); (case z9X => k_asm); (case z9T => k_asm); (case z9k => first | exact rfl | assumption); (case z9d => ktr_room); (case z9u => ktr_units); (case z9a1 => first | assumption | rfl | lia | decide); (case z9a2 => first | assumption | rfl | lia | decide); (case z9a3 => first | assumption | rfl | lia | decide); (case z9a4 => first | assumption | rfl | lia | decide); (case z9a5 => first | assumption | rfl | lia | decide); k_whole); intro t9 h9 tk9 F' N'; (dsimp only [rdL] at N'); (try k_sweep); (try dsimp only); (try k_fold))); k_steps)))
  (with_reducible rename News _ _ _ _ => NZ)
  refine hret _ _ _ _ _ _ _ (by k_asm) (List.forall_mem_cons.mpr ⟨NZ _ (by k_mem), rdN_of (w := w) NZ (by k_mem) (by walk_at "led_in3")⟩)

theorem c_read_zone {x dx lt : Addr} {k1 k2 k3 t2 t3 : Tok} {i n : Int} {vs : List Value} {c : Nat} {tl : List (Addr × Obj)} {Ts : List Tk} {p1 : Int} (hne : ∀ p ∈ (x, instObj 317 dx) :: (lt, listOf vs.toArray c) :: tl, p.1 ≠ dx) (hI : TokIn tl vs Ts) (hT1 : Ts[i.toNat]? = some (atomTk (Str.ofString "+0405") p1)) (h0 : 0 ≤ i) (hz : Ts.length ≤ 100)
    (B : Below A₀ base outer h₀) (F : Fr h₀ L s.heap m) (N : News h₀ L s.heap (rdL w x dx lt k1 k2 k3 t2 t3 i n vs c tl)) (X : (hd.heap_39 w.params).In h₀) (T : Top p loose mean mg mb h₀) (hk : cs.kind = .function)
    (hdp : dp + 14 < recursionLimit) (hun : un + 320 < cLine)
    (hret : ∀ u1 t2' h' tk', Fr h₀ L h' m → News h₀ L h' (rdL w x dx lt k1 k2 k3 t2' t3 (i + 1) n vs c tl) → Q (.int 245 u1) { s with heap := h', toks := tk' }) :
    wpAny (model prog w) (ktrTop dp un gd cn cs L a ccd cl outer) (call (.ref 342) [.ref x]) Q E s := by
  have hne9 := hne
  unfold rdL at N
  refine wpAny_call ?_
  k_dflt (k_enter)
  walk_at "m_fold"
  refine letA ?_
  intro A9 Q9 E9
  (k_steps; repeat (any_goals ((refine Stop.out ?_); (first | (k_here; (with_reducible show wpAny _ _ (call (Value.ref 314) _) _ _ _); (refine' c_need ?z9bb ?z9a0 ?z9B ?z9F ?z9N ?z9X ?z9T ?z9k ?z9d ?z9u ?_; (case z9bb => first | rfl | exact decide_eq_true (by lia)); (case z9a0 => assumption); (case z9B => k_asm); (case z9F => k_asm); (case z9N => exact rdN_of (by k_asm) (by k_mem) (by walk_at "led_in3")); (case z9X => k_asm); (case z9T => k_asm); (case z9k => first | exact rfl | assumption); (case z9d => ktr_room); (case z9u => ktr_units); k_whole); intro t9 h9 tk9 F' N'; (dsimp only [rdL] at N'); (try k_sweep); (try dsimp only); (try k_fold)) | (k_here; (with_reducible show wpAny _ _ (call (Value.ref 293) _) _ _ _); k_dflt (refine' c_atom ?z9a0 ?z9a1 ?z9a2 ?z9a3 ?z9a4 ?z9a5 ?z9B ?z9F ?z9N ?z9X ?z9T ?z9k ?z9d ?z9u ?_; (case z9a0 => assumption); (case z9B => k_asm); (case z9F => k_asm); (case z9N => exact rdN_of (by k_asm) (by k_mem) (by walk_at "led_in3")); (case z9X => k_asm); (case z9T => k_asm); (case z9k => first | exact rfl | assumption); (case z9d => ktr_room); (case z9u => ktr_units); (case z9a1 => first | assumption | rfl | lia | decide); (case z9a2 => first | assumption | rfl | lia | decide); (case z9a3 => first | assumption | rfl | lia | decide); (case z9a4 => first | assumption | rfl | lia | decide); (case z9a5 => first | assumption | rfl | lia | decide); k_whole); intro t9 h9 tk9 F' N'; (dsimp only [rdL] at N'); (try k_sweep); (try dsimp only); (try k_fold)) | (k_here; (with_reducible show wpAny _ _ (call (Value.ref 262) _) _ _ _); k_dflt (refine' c_zone_in ?z9B ?z9F ?z9X ?z9T ?z9k ?z9d ?z9u ?_; (case z9B => k_asm); (case z9F => k_asm); (case z9X => k_asm); (case z9T => k_asm); (case z9k => first | exact rfl | assumption); (case z9d => ktr_room); (case z9u => ktr_units); k_whole); intro t9 h9 tk9 hK9; walk_at "m_after")); k_steps)))
  (with_reducible rename News _ _ _ _ => NZ)
  refine hret _ _ _ _ (by k_asm) (rdN_of (w := w) NZ (by k_mem) (by walk_at "led_in3"))
abbrev momD (w : World) (y mo d : Int) (k1 k2 k3 k4 k5 k6 k7 t1 t2 t3 t4 t5 t6 t7 : Tok) : Obj := dictOf [ent w "year" k1 (.int y t1), ent w "month" k2 (.int mo t2), ent w "day" k3 (.int d t3), ent w "hour" k4 (.int 1 t4), ent w "minute" k5 (.int 2 t5), ent w "second" k6 (.int 3 t6), ent w "zone" k7 (.int 245 t7)] 7
structure MomNew (w : World) (h h' : Heap) (x : Addr) (y mo d : Int) : Prop where
  ex : ∃ dx k1 k2 k3 k4 k5 k6 k7 t1 t2 t3 t4 t5 t6 t7, h'.get? x = some (instObj 161 dx) ∧ h'.get? dx = some (momD w y mo d k1 k2 k3 k4 k5 k6 k7 t1 t2 t3 t4 t5 t6 t7) ∧ h.get? x = none ∧ h.get? dx = none
theorem c_moment {y mo d : Int} {t1 t2 t3 t4 t5 t6 t7 : Tok} (B : Below A₀ base outer h₀) (F : Fr h₀ L s.heap m) (X : (hd.heap_39 w.params).In h₀) (T : Top p loose mean mg mb h₀) (hk : cs.kind = .function)
    (hdp : dp + 5 < recursionLimit) (hun : un + 48 < cLine)
    (hret : ∀ x dx k1 k2 k3 k4 k5 k6 k7 h' tk', Keeps s.heap h' → h'.get? x = some (instObj 161 dx) → h'.get? dx = some (momD w y mo d k1 k2 k3 k4 k5 k6 k7 t1 t2 t3 t4 t5 t6 t7) → s.heap.get? x = none → s.heap.get? dx = none → Q (.ref x) { s with heap := h', toks := tk' }) :
    wpAny (model prog w) (ktrTop dp un gd cn cs L a ccd cl outer) (call (.ref 161) [.int y t1, .int mo t2, .int d t3, .int 1 t4, .int 2 t5, .int 3 t6, .int 245 t7]) Q E s := by
  refine wpAny_call (make_P (K := hd.heap_39 w.params) (fI := 151) (X.keeps F.keep) (by k_is) (by k_is) (by k_is) fun x dx h0 hK0 ex edx nx ndx => ?_)
  have F0 := hK0.fr F
  have N0 : News h₀ L h0 [(dx, dictOf [] 0), (x, instObj 161 dx)] := List.forall_mem_cons.mpr ⟨news_add hK0 F News.nil edx ndx _ (.head _), List.forall_mem_cons.mpr ⟨news_add hK0 F News.nil ex nx _ (.head _), fun _ h => (nomatch h)⟩⟩
  have hne9 : ∀ p ∈ ((x, instObj 161 dx) :: ([] : List (Addr × Obj))), p.1 ≠ dx := fun p hp q => by
    rw [List.mem_singleton.mp hp] at q
    dsimp only at q
    rw [q, edx] at ex
    have z := congrArg (Option.map (·.cls)) ex
    simp at z
  k_dflt (walk_at "m_enterH")
  intro g L1 h1 FG F1 N1 B1 X1 T1 hKG hGK
  walk_at "m_fold"
  refine letA ?_
  intro A9 Q9 E9
  have kg : Keeps s.heap g := fun b o e => hKG b o (fun q => by
    simp only [List.map_cons, List.map_nil, List.mem_cons, List.not_mem_nil, or_false] at q
    rcases q with q | q
    · rw [q, ndx] at e; cases e
    · rw [q, nx] at e; cases e) (hK0 b o e)
  k_steps
  (rename News g L1 _ _ => NZ)
  exact hret _ _ _ _ _ _ _ _ _ _ _ (kg.trans (Fr.keep (L := L1) (h₀ := g) (by k_asm))) (NZ.get (by k_mem)) (NZ.get (by k_mem)) nx ndx
structure Mark9 : Prop where
  x : 1 = 1
local macro_rules | `(tactic| walk_at "exec If Call cons nil") => `(tactic| (k_here; (have hm9 : Mark9 := by assumption); clear hm9; refine stop_ ?_))
inductive NameCase (Ts : List Tk) : Int → Prop
  | none {y : Str} {pos : Int} : Ts[(0 : Int).toNat]? = some (atomTk y pos) → y.cps.size ≤ 100 → (∀ c ∈ y.cps.toList, c < 128) → ((dayN.map lowerS).any (· == lowerS y)) = false → NameCase Ts 0
  | plain {y y2 : Str} {pos p2 : Int} : Ts[(0 : Int).toNat]? = some (atomTk y pos) → y.cps.size ≤ 100 → (∀ c ∈ y.cps.toList, c < 128) → ((dayN.map lowerS).any (· == lowerS y)) = true → Ts[((0 : Int) + 1).toNat]? = some (atomTk y2 p2) → NameCase Ts (0 + 1)
  | comma {y : Str} {pos p2 : Int} : Ts[(0 : Int).toNat]? = some (atomTk y pos) → y.cps.size ≤ 100 → (∀ c ∈ y.cps.toList, c < 128) → ((dayN.map lowerS).any (· == lowerS y)) = true → Ts[((0 : Int) + 1).toNat]? = some (signTk 44 p2) → NameCase Ts (0 + 1 + 1)
theorem cut_at {α : Type} {M : Model} {A : Around} {t : Sem α} {P Q : α → Shared → Prop} (h1 : wpAny M A t P E s) (h2 : ∀ a s', P a s' → Q a s') : wpAny M A t Q E s := wpAny_mono h1 h2 fun _ _ x => x
theorem news_many {h h' : Heap} {l : List (Addr × Obj)} (k : Keeps h h') (F : Fr h₀ L h m) (hl : ∀ p ∈ l, h'.get? p.1 = some p.2 ∧ h.get? p.1 = none) : News h₀ L h' l := fun p hp => news_add k F News.nil (hl p hp).1 (hl p hp).2 _ (.head _)

theorem rdN_h {news : List (Addr × Obj)} {h : Heap} {x dx lt : Addr} {k1 k2 k3 t2 t3 : Tok} {i n : Int} {vs : List Value} {c : Nat} {tl : List (Addr × Obj)} (N : News h₀ L h news) (hm : (dx, rdObj w lt k1 k2 k3 t2 t3 i n) ∈ news) (hx : ∀ p ∈ (x, instObj 317 dx) :: (lt, listOf vs.toArray c) :: tl, p ∈ news) :
    News h₀ L h (rdL w x dx lt k1 k2 k3 t2 t3 i n vs c tl) := news_sub N fun p hp => by
  rcases List.mem_cons.mp hp with rfl | hp
  · exact hm
  · exact hx p hp
theorem mom_new {g h h' : Heap} {L1 x dx : Addr} {y mo d : Int} {k1 k2 k3 k4 k5 k6 k7 t1 t2 t3 t4 t5 t6 t7 : Tok} {news : List (Addr × Obj)} (k : Keeps h g) (N : News g L1 h' news) (e1 : (x, instObj 161 dx) ∈ news) (e2 : (dx, momD w y mo d k1 k2 k3 k4 k5 k6 k7 t1 t2 t3 t4 t5 t6 t7) ∈ news) : MomNew w h h' x y mo d :=
  ⟨⟨dx, _, _, _, _, _, _, _, _, _, _, _, _, _, _, N.get e1, N.get e2, fresh_of k (N.fresh e1), fresh_of k (N.fresh e2)⟩⟩
theorem momN {h : Heap} {x dx : Addr} {y mo d : Int} {k1 k2 k3 k4 k5 k6 k7 t1 t2 t3 t4 t5 t6 t7 : Tok} {news : List (Addr × Obj)} (N : News h₀ L h news) (e1 : (x, instObj 161 dx) ∈ news) (e2 : (dx, momD w y mo d k1 k2 k3 k4 k5 k6 k7 t1 t2 t3 t4 t5 t6 t7) ∈ news) : MomAt w h x y mo d :=
  ⟨⟨dx, _, _, _, _, _, _, _, _, _, _, _, _, _, _, N.get e1, N.get e2⟩⟩
theorem c_read_date {b : Array UInt8} {tb : Tok} {ks ws r : List Int} {Ts : List Tk} {i0 : Int} {yD yM yY : Str} {pD pM pY q1 q2 q3 q4 q5 q6 vd vy : Int} {j : Nat} (hb : KBw.bInts b = ks) (hz : ks.length ≤ 100) (hTz : Ts.length ≤ 100) (hw0 : ks = ws ++ r) (hws : ∀ k ∈ ws, k = 32) (hwr : ∀ k ∈ r.head?, k ≠ 32 ∧ k ≠ 9 ∧ k ≠ 10 ∧ k ≠ 13) (hlex : Lex ks ws.length Ts)
    (hname : NameCase Ts i0) (hTD : Ts[i0.toNat]? = some (atomTk yD pD)) (hTM : Ts[(i0 + 1).toNat]? = some (atomTk yM pM)) (hTY : Ts[(i0 + 1 + 1).toNat]? = some (atomTk yY pY))
    (hT1 : Ts[(i0 + 1 + 1 + 1).toNat]? = some (atomTk (Str.ofString "01") q1)) (hT2 : Ts[(i0 + 1 + 1 + 1 + 1).toNat]? = some (signTk 58 q2)) (hT3 : Ts[(i0 + 1 + 1 + 1 + 1 + 1).toNat]? = some (atomTk (Str.ofString "02") q3)) (hT4 : Ts[(i0 + 1 + 1 + 1 + 1 + 1 + 1).toNat]? = some (signTk 58 q4)) (hT5 : Ts[(i0 + 1 + 1 + 1 + 1 + 1 + 1 + 1).toNat]? = some (atomTk (Str.ofString "03") q5))
    (hT6 : Ts[(i0 + 1 + 1 + 1 + 1 + 1 + 1 + 1 + 1).toNat]? = some (atomTk (Str.ofString "+0405") q6)) (hTL : (Ts.length : Int) = i0 + 9) (hi0 : 0 ≤ i0)
    (hD1 : 0 < yD.cps.size) (hD2 : yD.cps.size ≤ 2) (hD3 : ∀ c ∈ yD.cps.toList, 48 ≤ c ∧ c ≤ 57) (hD4 : ((NumText.digitsVal yD.cps.toList : Nat) : Int) = vd)
    (hM1 : yM.cps.size ≤ 100) (hM2 : ∀ c ∈ yM.cps.toList, c < 128) (hM3 : (monN.map lowerS)[j]? = some (lowerS yM)) (hM4 : ∀ m, m < j → (monN.map lowerS)[m]? ≠ some (lowerS yM)) (hM5 : j < 12)
    (hY1 : 0 < yY.cps.size) (hY2 : yY.cps.size ≤ 100) (hY3 : ∀ c ∈ yY.cps.toList, 48 ≤ c ∧ c ≤ 57) (hY4 : ((NumText.digitsVal yY.cps.toList : Nat) : Int) = vy)
    (B : Below A₀ base outer h₀) (F : Fr h₀ L s.heap m) (X : (hd.heap_39 w.params).In h₀) (T : Top p loose mean mg mb h₀) (hk : cs.kind = .function)
    (hdp : dp + 40 < recursionLimit) (hun : un + 500 < cLine)
    (hret : ∀ x h' tk', 2 ≤ yY.cps.size → yY.cps.size ≤ 4 → dayOk (fullYear vy yY.cps.size) (j + 1) vd = true → Keeps s.heap h' → MomNew w s.heap h' x (fullYear vy yY.cps.size) (j + 1) vd → Q (.ref x) { s with heap := h', toks := tk' })
    (hbad : ∀ e h' tk' g, (yY.cps.size < 2 ∨ 4 < yY.cps.size ∨ dayOk (fullYear vy yY.cps.size) (j + 1) vd = false) → Fr h₀ L g m → RaisedN base (envX cn cs L a ccd cl :: outer) e (.ref 52) [] h' → g.UpToSlots h' → E (.ref e) { s with heap := h', toks := tk' }) :
    wpAny (model prog w) (ktrTop dp un gd cn cs L a ccd cl outer) (call (.ref 349) [.bytes b tb]) Q E s := by
  have hD0 : yD.cps.size ≤ 100 := by lia
  have mark : Mark9 := ⟨rfl⟩
  refine wpAny_call ?_
  k_dflt (walk_at "m_enter")
  intro g L1 h1 FG F1 N1 B1 X1 T1 hKG hGK
  walk_at "m_fold"
  (k_steps; repeat (any_goals ((refine Stop.out ?_); (first | (k_here; (with_reducible show wpAny _ _ (call (Value.ref 342) _) _ _ _); k_dflt (refine' c_read_zone ?z9a0 ?z9a1 ?z9a2 ?z9a7 ?z9a8 ?z9B ?z9F ?z9N ?z9X ?z9T ?z9k ?z9d ?z9u ?_; (case z9a0 => assumption); (case z9B => k_asm); (case z9F => k_asm); (case z9N => exact rdN_of (by k_asm) (by k_mem) (by walk_at "led_in3")); (case z9X => k_asm); (case z9T => k_asm); (case z9k => first | exact rfl | assumption); (case z9d => ktr_room); (case z9u => ktr_units); (case z9a1 => first | assumption | rfl | lia | decide); (case z9a2 => first | assumption | rfl | lia | decide); (case z9a7 => first | assumption | rfl | lia | decide); (case z9a8 => first | assumption | rfl | lia | decide); k_whole); intro u91 t9 h9 tk9 F' N'; (dsimp only [rdL] at N'); (try k_sweep); (try dsimp only); (try k_fold)) | (k_here; (with_reducible show wpAny _ _ (call (Value.ref 335) _) _ _ _); k_dflt (refine' c_read_clock ?z9a0 ?z9a1 ?z9a2 ?z9a3 ?z9a4 ?z9a5 ?z9a6 ?z9a7 ?z9a8 ?z9B ?z9F ?z9N ?z9X ?z9T ?z9k ?z9d ?z9u ?_; (case z9a0 => assumption); (case z9B => k_asm); (case z9F => k_asm); (case z9N => exact rdN_of (by k_asm) (by k_mem) (by walk_at "led_in3")); (case z9X => k_asm); (case z9T => k_asm); (case z9k => first | exact rfl | assumption); (case z9d => ktr_room); (case z9u => ktr_units); (case z9a1 => first | assumption | rfl | lia | decide); (case z9a2 => first | assumption | rfl | lia | decide); (case z9a3 => first | assumption | rfl | lia | decide); (case z9a4 => first | assumption | rfl | lia | decide); (case z9a5 => first | assumption | rfl | lia | decide); (case z9a6 => first | assumption | rfl | lia | decide); (case z9a7 => first | assumption | rfl | lia | decide); (case z9a8 => first | assumption | rfl | lia | decide); k_whole); intro d9 u91 u92 u93 t9 h9 tk9 F' N'; (dsimp only [rdL] at N'); (try k_sweep); (try dsimp only); (try k_fold)) | (k_here; (with_reducible show wpAny _ _ (call (Value.ref 161) _) _ _ _); k_dflt (refine' c_moment ?z9B ?z9F ?z9X ?z9T ?z9k ?z9d ?z9u ?_; (case z9B => k_asm); (case z9F => k_asm); (case z9X => k_asm); (case z9T => k_asm); (case z9k => first | exact rfl | assumption); (case z9d => ktr_room); (case z9u => ktr_units); k_whole); intro x9 dx9 k91 k92 k93 k94 k95 k96 k97 h9 tk9 hK9 hx9 hd9 nx9 nd9; have N9 := news_add2 hK9 (by k_asm) (by k_asm) hx9 nx9 hd9 nd9; have F9 := Keeps.fr hK9 (by k_asm); clear hK9 hx9 hd9 nx9 nd9; (try k_sweep); (try dsimp only); (try k_fold)) | (k_here; (with_reducible show wpAny _ _ (call (Value.ref 307) [_, Value.int 2 _, _]) _ _ _); k_dflt (refine' c_numberB ?z9a0 ?z9a1 ?z9a2 ?z9a3 ?z9a4 ?z9a5 ?z9av ?z9a8 ?z9a9 ?z9B ?z9F ?z9N ?z9X ?z9T ?z9k ?z9d ?z9u ?z9hr ?z9hb; (case z9a0 => assumption); (case z9B => k_asm); (case z9F => k_asm); (case z9N => exact rdN_of (by k_asm) (by k_mem) (by walk_at "led_in3")); (case z9X => k_asm); (case z9T => k_asm); (case z9k => first | exact rfl | assumption); (case z9d => ktr_room); (case z9u => ktr_units); (case z9a1 => first | assumption | rfl | lia | decide); (case z9a2 => first | assumption | rfl | lia | decide); (case z9a3 => first | assumption | rfl | lia | decide); (case z9a4 => first | assumption | rfl | lia | decide); (case z9a5 => first | assumption | rfl | lia | decide); (case z9av => first | assumption | rfl | lia | decide); (case z9a8 => first | assumption | rfl | lia | decide); (case z9a9 => first | assumption | rfl | lia | decide); k_whole); (case' z9hr => (intro hs1 hs2 d9 u91 u92 t9 h9 tk9 F' N'; (dsimp only [rdL] at N'); (try k_sweep); (try dsimp only); (try k_fold))); (case' z9hb => (intro hs3 e9 h9 tk9 g9 F9g R' U'; (try dsimp only at R' U' ⊢)))) | (k_here; (with_reducible show wpAny _ _ (call (Value.ref 307) _) _ _ _); k_dflt (refine' c_numberV ?z9a0 ?z9a1 ?z9a2 ?z9a3 ?z9a4 ?z9a5 ?z9a6 ?z9a7 ?z9av ?z9a8 ?z9a9 ?z9B ?z9F ?z9N ?z9X ?z9T ?z9k ?z9d ?z9u ?_; (case z9a0 => assumption); (case z9B => k_asm); (case z9F => k_asm); (case z9N => exact rdN_of (by k_asm) (by k_mem) (by walk_at "led_in3")); (case z9X => k_asm); (case z9T => k_asm); (case z9k => first | exact rfl | assumption); (case z9d => ktr_room); (case z9u => ktr_units); (case z9a1 => first | assumption | rfl | lia | decide); (case z9a2 => first | assumption | rfl | lia | decide); (case z9a3 => first | assumption | rfl | lia | decide); (case z9a4 => first | assumption | rfl | lia | decide); (case z9a5 => first | assumption | rfl | lia | decide); (case z9a6 => first | assumption | rfl | lia | decide); (case z9a7 => first | assumption | rfl | lia | decide); (case z9av => first | assumption | rfl | lia | decide); (case z9a8 => first | assumption | rfl | lia | decide); (case z9a9 => first | assumption | rfl | lia | decide); k_whole); intro d9 u91 u92 t9 h9 tk9 F' N'; (dsimp only [rdL] at N'); (try k_sweep); (try dsimp only); (try k_fold)) | (k_here; (with_reducible show wpAny _ _ (call (Value.ref 314) _) _ _ _); (refine' c_need ?z9bb ?z9a0 ?z9B ?z9F ?z9N ?z9X ?z9T ?z9k ?z9d ?z9u ?_; (case z9bb => first | rfl | exact decide_eq_true (by lia)); (case z9a0 => assumption); (case z9B => k_asm); (case z9F => k_asm); (case z9N => exact rdN_of (by k_asm) (by k_mem) (by walk_at "led_in3")); (case z9X => k_asm); (case z9T => k_asm); (case z9k => first | exact rfl | assumption); (case z9d => ktr_room); (case z9u => ktr_units); k_whole); intro t9 h9 tk9 F' N'; (dsimp only [rdL] at N'); (try k_sweep); (try dsimp only); (try k_fold)) | (k_here; (with_reducible show wpAny _ _ (call (Value.ref 300) _) _ _ _); k_dflt (refine' c_skip_hit ?z9a0 ?z9a1 ?z9a2 ?z9a3 ?z9a4 ?z9a5 ?z9B ?z9F ?z9N ?z9X ?z9T ?z9k ?z9d ?z9u ?_; (case z9a0 => assumption); (case z9B => k_asm); (case z9F => k_asm); (case z9N => exact rdN_of (by k_asm) (by k_mem) (by walk_at "led_in3")); (case z9X => k_asm); (case z9T => k_asm); (case z9k => first | exact rfl | assumption); (case z9d => ktr_room); (case z9u => ktr_units); (case z9a1 => first | assumption | rfl | lia | decide); (case z9a2 => first | assumption | rfl | lia | decide); (case z9a3 => first | assumption | rfl | lia | decide); (case z9a4 => first | assumption | rfl | lia | decide); (case z9a5 => first | assumption | rfl | lia | decide); k_whole); intro t9 h9 tk9 F' N'; (dsimp only [rdL] at N'); (try k_sweep); (try dsimp only); (try k_fold)) | (k_here; (with_reducible show wpAny _ _ (call (Value.ref 300) _) _ _ _); k_dflt (refine' c_skip_miss ?z9a0 ?z9a1 ?z9a2 ?z9a4 ?z9a5 ?z9B ?z9F ?z9N ?z9X ?z9T ?z9k ?z9d ?z9u ?_; (case z9a0 => assumption); (case z9B => k_asm); (case z9F => k_asm); (case z9N => exact rdN_of (by k_asm) (by k_mem) (by walk_at "led_in3")); (case z9X => k_asm); (case z9T => k_asm); (case z9k => first | exact rfl | assumption); (case z9d => ktr_room); (case z9u => ktr_units); (case z9a1 => first | assumption | rfl | lia | decide); (case z9a2 => first | assumption | rfl | lia | decide); (case z9a4 => first | assumption | rfl | lia | decide); (case z9a5 => first | assumption | rfl | lia | decide); k_whole); intro h9 tk9 F' N'; (dsimp only [rdL] at N'); (try k_sweep); (try dsimp only); (try k_fold)) | (k_here; (with_reducible show wpAny _ _ (call (Value.ref 293) _) _ _ _); k_dflt (refine' c_atom ?z9a0 ?z9a1 ?z9a2 ?z9a3 ?z9a4 ?z9a5 ?z9B ?z9F ?z9N ?z9X ?z9T ?z9k ?z9d ?z9u ?_; (case z9a0 => assumption); (case z9B => k_asm); (case z9F => k_asm); (case z9N => exact rdN_of (by k_asm) (by k_mem) (by walk_at "led_in3")); (case z9X => k_asm); (case z9T => k_asm); (case z9k => first | exact rfl | assumption); (case z9d => ktr_room); (case z9u => ktr_units); (case z9a1 => first | assumption | rfl | lia | decide); (case z9a2 => first | assumption | rfl | lia | decide); (case z9a3 => first | assumption | rfl | lia | decide); (case z9a4 => first | assumption | rfl | lia | decide); (case z9a5 => first | assumption | rfl | lia | decide); k_whole); intro t9 h9 tk9 F' N'; (dsimp only [rdL] at N'); (try k_sweep); (try dsimp only); (try k_fold)) | (k_here; (with_reducible show wpAny _ _ (call (Value.ref 288) _) _ _ _); k_dflt (refine' c_place ?z9a0 ?z9a1 ?z9a2 ?z9a4 ?z9a5 ?z9B ?z9F ?z9N ?z9X ?z9T ?z9k ?z9d ?z9u ?_; (case z9a0 => assumption); (case z9B => k_asm); (case z9F => k_asm); (case z9N => exact rdN_of (by k_asm) (by k_mem) (by walk_at "led_in3")); (case z9X => k_asm); (case z9T => k_asm); (case z9k => first | exact rfl | assumption); (case z9d => ktr_room); (case z9u => ktr_units); (case z9a1 => first | assumption | rfl | lia | decide); (case z9a2 => first | assumption | rfl | lia | decide); (case z9a4 => first | assumption | rfl | lia | decide); (case z9a5 => first | assumption | rfl | lia | decide); k_whole); intro t9 h9 tk9 F' N'; (dsimp only [rdL] at N'); (try k_sweep); (try dsimp only); (try k_fold)) | (k_here; (with_reducible show wpAny _ _ (call (Value.ref 52) _) _ _ _); k_dflt (refine' c_fault ?z9B ?z9F ?z9X ?z9T ?z9k ?z9d ?z9u ?_; (case z9B => k_asm); (case z9F => k_asm); (case z9X => k_asm); (case z9T => k_asm); (case z9k => first | exact rfl | assumption); (case z9d => ktr_room); (case z9u => ktr_units); k_whole); intro e9 h9 tk9 hX9) | (k_here; (with_reducible show wpAny _ _ (call (Value.ref 231) _) _ _ _); k_dflt (refine' c_is_day_name ?z9a1 ?z9a2 ?z9a3 ?z9B ?z9F ?z9X ?z9T ?z9k ?z9d ?z9u ?_; (case z9B => k_asm); (case z9F => k_asm); (case z9X => k_asm); (case z9T => k_asm); (case z9k => first | exact rfl | assumption); (case z9d => ktr_room); (case z9u => ktr_units); (case z9a1 => first | assumption | lia | decide); (case z9a2 => first | assumption | lia | decide); (case z9a3 => first | assumption | lia | decide); k_whole); intro h9 tk9 hK9; walk_at "m_after") | (k_here; (with_reducible show wpAny _ _ (call (Value.ref 226) _) _ _ _); k_dflt (refine' c_month_number ?z9a1 ?z9a2 ?z9a3 ?z9a4 ?z9B ?z9F ?z9X ?z9T ?z9k ?z9d ?z9u ?_; (case z9B => k_asm); (case z9F => k_asm); (case z9X => k_asm); (case z9T => k_asm); (case z9k => first | exact rfl | assumption); (case z9d => ktr_room); (case z9u => ktr_units); (case z9a1 => first | assumption | lia | decide); (case z9a2 => first | assumption | lia | decide); (case z9a3 => first | assumption | lia | decide); (case z9a4 => first | assumption | lia | decide); k_whole); intro t9 h9 tk9 hK9; walk_at "m_after") | (k_here; (with_reducible show wpAny _ _ (call (Value.ref 214) _) _ _ _); k_dflt (refine' c_is_time ?z9a1 ?z9B ?z9F ?z9X ?z9T ?z9k ?z9d ?z9u ?_; (case z9B => k_asm); (case z9F => k_asm); (case z9X => k_asm); (case z9T => k_asm); (case z9k => first | exact rfl | assumption); (case z9d => ktr_room); (case z9u => ktr_units); (case z9a1 => first | decide | lia); k_whole); intro h9 tk9 hK9; walk_at "m_after") | (k_here; (with_reducible show wpAny _ _ (call (Value.ref 328) _) _ _ _); k_dflt (refine' c_full_year ?z9B ?z9F ?z9X ?z9T ?z9k ?z9d ?z9u ?_; (case z9B => k_asm); (case z9F => k_asm); (case z9X => k_asm); (case z9T => k_asm); (case z9k => first | exact rfl | assumption); (case z9d => ktr_room); (case z9u => ktr_units); k_whole); intro t9 h9 tk9 hK9; walk_at "m_after") | (k_here; (with_reducible show wpAny _ _ (call (Value.ref 207) _) _ _ _); k_dflt (refine' c_is_day ?z9B ?z9F ?z9X ?z9T ?z9k ?z9d ?z9u ?_; (case z9B => k_asm); (case z9F => k_asm); (case z9X => k_asm); (case z9T => k_asm); (case z9k => first | exact rfl | assumption); (case z9d => ktr_room); (case z9u => ktr_units); k_whole); intro h9 tk9 hK9; walk_at "m_after")); k_steps)))
  refine Stop.out ?_
  k_dflt (refine c_reader hb hz hTz hw0 hws hwr hlex (by k_asm) (by k_asm) (by k_asm) (by k_asm) rfl (by ktr_room) (by ktr_units) ?_)
  intro x dx lt k1 k2 k3 t2 t3 vs c tl h2 tk2 hK2 hI hL hne
  have F2 := hK2.fr F1
  have N2 := news_many hK2 F1 hL
  clear N1 F1 hL hK2
  dsimp only [rdL] at N2
  walk_at "m_fold"
  (k_steps; repeat (any_goals ((refine Stop.out ?_); (first | (k_here; (with_reducible show wpAny _ _ (call (Value.ref 342) _) _ _ _); k_dflt (refine' c_read_zone ?z9a0 ?z9a1 ?z9a2 ?z9a7 ?z9a8 ?z9B ?z9F ?z9N ?z9X ?z9T ?z9k ?z9d ?z9u ?_; (case z9a0 => assumption); (case z9B => k_asm); (case z9F => k_asm); (case z9N => exact rdN_of (by k_asm) (by k_mem) (by walk_at "led_in3")); (case z9X => k_asm); (case z9T => k_asm); (case z9k => first | exact rfl | assumption); (case z9d => ktr_room); (case z9u => ktr_units); (case z9a1 => first | assumption | rfl | lia | decide); (case z9a2 => first | assumption | rfl | lia | decide); (case z9a7 => first | assumption | rfl | lia | decide); (case z9a8 => first | assumption | rfl | lia | decide); k_whole); intro u91 t9 h9 tk9 F' N'; (dsimp only [rdL] at N'); (try k_sweep); (try dsimp only); (try k_fold)) | (k_here; (with_reducible show wpAny _ _ (call (Value.ref 335) _) _ _ _); k_dflt (refine' c_read_clock ?z9a0 ?z9a1 ?z9a2 ?z9a3 ?z9a4 ?z9a5 ?z9a6 ?z9a7 ?z9a8 ?z9B ?z9F ?z9N ?z9X ?z9T ?z9k ?z9d ?z9u ?_; (case z9a0 => assumption); (case z9B => k_asm); (case z9F => k_asm); (case z9N => exact rdN_of (by k_asm) (by k_mem) (by walk_at "led_in3")); (case z9X => k_asm); (case z9T => k_asm); (case z9k => first | exact rfl | assumption); (case z9d => ktr_room); (case z9u => ktr_units); (case z9a1 => first | assumption | rfl | lia | decide); (case z9a2 => first | assumption | rfl | lia | decide); (case z9a3 => first | assumption | rfl | lia | decide); (case z9a4 => first | assumption | rfl | lia | decide); (case z9a5 => first | assumption | rfl | lia | decide); (case z9a6 => first | assumption | rfl | lia | decide); (case z9a7 => first | assumption | rfl | lia | decide); (case z9a8 => first | assumption | rfl | lia | decide); k_whole); intro d9 u91 u92 u93 t9 h9 tk9 F' N'; (dsimp only [rdL] at N'); (try k_sweep); (try dsimp only); (try k_fold)) | (k_here; (with_reducible show wpAny _ _ (call (Value.ref 161) _) _ _ _); k_dflt (refine' c_moment ?z9B ?z9F ?z9X ?z9T ?z9k ?z9d ?z9u ?_; (case z9B => k_asm); (case z9F => k_asm); (case z9X => k_asm); (case z9T => k_asm); (case z9k => first | exact rfl | assumption); (case z9d => ktr_room); (case z9u => ktr_units); k_whole); intro x9 dx9 k91 k92 k93 k94 k95 k96 k97 h9 tk9 hK9 hx9 hd9 nx9 nd9; have N9 := news_add2 hK9 (by k_asm) (by k_asm) hx9 nx9 hd9 nd9; have F9 := Keeps.fr hK9 (by k_asm); clear hK9 hx9 hd9 nx9 nd9; (try k_sweep); (try dsimp only); (try k_fold)) | (k_here; (with_reducible show wpAny _ _ (call (Value.ref 307) [_, Value.int 2 _, _]) _ _ _); k_dflt (refine' c_numberB ?z9a0 ?z9a1 ?z9a2 ?z9a3 ?z9a4 ?z9a5 ?z9av ?z9a8 ?z9a9 ?z9B ?z9F ?z9N ?z9X ?z9T ?z9k ?z9d ?z9u ?z9hr ?z9hb; (case z9a0 => assumption); (case z9B => k_asm); (case z9F => k_asm); (case z9N => exact rdN_of (by k_asm) (by k_mem) (by walk_at "led_in3")); (case z9X => k_asm); (case z9T => k_asm); (case z9k => first | exact rfl | assumption); (case z9d => ktr_room); (case z9u => ktr_units); (case z9a1 => first | assumption | rfl | lia | decide); (case z9a2 => first | assumption | rfl | lia | decide); (case z9a3 => first | assumption | rfl | lia | decide); (case z9a4 => first | assumption | rfl | lia | decide); (case z9a5 => first | assumption | rfl | lia | decide); (case z9av => first | assumption | rfl | lia | decide); (case z9a8 => first | assumption | rfl | lia | decide); (case z9a9 => first | assumption | rfl | lia | decide); k_whole); (case' z9hr => (intro hs1 hs2 d9 u91 u92 t9 h9 tk9 F' N'; (dsimp only [rdL] at N'); (try k_sweep); (try dsimp only); (try k_fold))); (case' z9hb => (intro hs3 e9 h9 tk9 g9 F9g R' U'; (try dsimp only at R' U' ⊢)))) | (k_here; (with_reducible show wpAny _ _ (call (Value.ref 307) _) _ _ _); k_dflt (refine' c_numberV ?z9a0 ?z9a1 ?z9a2 ?z9a3 ?z9a4 ?z9a5 ?z9a6 ?z9a7 ?z9av ?z9a8 ?z9a9 ?z9B ?z9F ?z9N ?z9X ?z9T ?z9k ?z9d ?z9u ?_; (case z9a0 => assumption); (case z9B => k_asm); (case z9F => k_asm); (case z9N => exact rdN_of (by k_asm) (by k_mem) (by walk_at "led_in3")); (case z9X => k_asm); (case z9T => k_asm); (case z9k => first | exact rfl | assumption); (case z9d => ktr_room); (case z9u => ktr_units); (case z9a1 => first | assumption | rfl | lia | decide); (case z9a2 => first | assumption | rfl | lia | decide); (case z9a3 => first | assumption | rfl | lia | decide); (case z9a4 => first | assumption | rfl | lia | decide); (case z9a5 => first | assumption | rfl | lia | decide); (case z9a6 => first | assumption | rfl | lia | decide); (case z9a7 => first | assumption | rfl | lia | decide); (case z9av => first | assumption | rfl | lia | decide); (case z9a8 => first | assumption | rfl | lia | decide); (case z9a9 => first | assumption | rfl | lia | decide); k_whole); intro d9 u91 u92 t9 h9 tk9 F' N'; (dsimp only [rdL] at N'); (try k_sweep); (try dsimp only); (try k_fold)) | (k_here; (with_reducible show wpAny _ _ (call (Value.ref 314) _) _ _ _); (refine' c_need ?z9bb ?z9a0 ?z9B ?z9F ?z9N ?z9X ?z9T ?z9k ?z9d ?z9u ?_; (case z9bb => first | rfl | exact decide_eq_true (by lia)); (case z9a0 => assumption); (case z9B => k_asm); (case z9F => k_asm); (case z9N => exact rdN_of (by k_asm) (by k_mem) (by walk_at "led_in3")); (case z9X => k_asm); (case z9T => k_asm); (case z9k => first | exact rfl | assumption); (case z9d => ktr_room); (case z9u => ktr_units); k_whole); intro t9 h9 tk9 F' N'; (dsimp only [rdL] at N'); (try k_sweep); (try dsimp only); (try k_fold)) | (k_here; (with_reducible show wpAny _ _ (call (Value.ref 300) _) _ _ _); k_dflt (refine' c_skip_hit ?z9a0 ?z9a1 ?z9a2 ?z9a3 ?z9a4 ?z9a5 ?z9B ?z9F ?z9N ?z9X ?z9T ?z9k ?z9d ?z9u ?_; (case z9a0 => assumption); (case z9B => k_asm); (case z9F => k_asm); (case z9N => exact rdN_of (by k_asm) (by k_mem) (by walk_at "led_in3")); (case z9X => k_asm); (case z9T => k_asm); (case z9k => first | exact rfl | assumption); (case z9d => ktr_room); (case z9u => ktr_units); (case z9a1 => first | assumption | rfl | lia | decide); (case z9a2 => first | assumption | rfl | lia | decide); (case z9a3 => first | assumption | rfl | lia | decide); (case z9a4 => first | assumption | rfl | lia | decide); (case z9a5 => first | assumption | rfl | lia | decide); k_whole); intro t9 h9 tk9 F' N'; (dsimp only [rdL] at N'); (try k_sweep); (try dsimp only); (try k_fold)) | (k_here; (with_reducible show wpAny _ _ (call (Value.ref 300) _) _ _ _); k_dflt (refine' c_skip_miss ?z9a0 ?z9a1 ?z9a2 ?z9a4 ?z9a5 ?z9B ?z9F ?z9N ?z9X ?z9T ?z9k ?z9d ?z9u ?_; (case z9a0 => assumption); (case z9B => k_asm); (case z9F => k_asm); (case z9N => exact rdN_of (by k_asm) (by k_mem) (by walk_at "led_in3")); (case z9X => k_asm); (case z9T => k_asm); (case z9k => first | exact rfl | assumption); (case z9d => ktr_room); (case z9u => ktr_units); (case z9a1 => first | assumption | rfl | lia | decide); (case z9a2 => first | assumption | rfl | lia | decide); (case z9a4 => first | assumption | rfl | lia | decide); (case z9a5 => first | assumption | rfl | lia | decide); k_whole); intro h9 tk9 F' N'; (dsimp only [rdL] at N'); (try k_sweep); (try dsimp only); (try k_fold)) | (k_here; (with_reducible show wpAny _ _ (call (Value.ref 293) _) _ _ _); k_dflt (refine' c_atom ?z9a0 ?z9a1 ?z9a2 ?z9a3 ?z9a4 ?z9a5 ?z9B ?z9F ?z9N ?z9X ?z9T ?z9k ?z9d ?z9u ?_; (case z9a0 => assumption); (case z9B => k_asm); (case z9F => k_asm); (case z9N => exact rdN_of (by k_asm) (by k_mem) (by walk_at "led_in3")); (case z9X => k_asm); (case z9T => k_asm); (case z9k => first | exact rfl | assumption); (case z9d => ktr_room); (case z9u => ktr_units); (case z9a1 => first | assumption | rfl | lia | decide); (case z9a2 => first | assumption | rfl | lia | decide); (case z9a3 => first | assumption | rfl | lia | decide); (case z9a4 => first | assumption | rfl | lia | decide); (case z9a5 => first | assumption | rfl | lia | decide); k_whole); intro t9 h9 tk9 F' N'; (dsimp only [rdL] at N'); (try k_sweep); (try dsimp only); (try k_fold)) | (k_here; (with_reducible show wpAny _ _ (call (Value.ref 288) _) _ _ _); k_dflt (refine' c_place ?z9a0 ?z9a1 ?z9a2 ?z9a4 ?z9a5 ?z9B ?z9F ?z9N ?z9X ?z9T ?z9k ?z9d ?z9u ?_; (case z9a0 => assumption); (case z9B => k_asm); (case z9F => k_asm); (case z9N => exact rdN_of (by k_asm) (by k_mem) (by walk_at "led_in3")); (case z9X => k_asm); (case z9T => k_asm); (case z9k => first | exact rfl | assumption); (case z9d => ktr_room); (case z9u => ktr_units); (case z9a1 => first | assumption | rfl | lia | decide); (case z9a2 => first | assumption | rfl | lia | decide); (case z9a4 => first | assumption | rfl | lia | decide); (case z9a5 => first | assumption | rfl | lia | decide); k_whole); intro t9 h9 tk9 F' N'; (dsimp only [rdL] at N'); (try k_sweep); (try dsimp only); (try k_fold)) | (k_here; (with_reducible show wpAny _ _ (call (Value.ref 52) _) _ _ _); k_dflt (refine' c_fault ?z9B ?z9F ?z9X ?z9T ?z9k ?z9d ?z9u ?_; (case z9B => k_asm); (case z9F => k_asm); (case z9X => k_asm); (case z9T => k_asm); (case z9k => first | exact rfl | assumption); (case z9d => ktr_room); (case z9u => ktr_units); k_whole); intro e9 h9 tk9 hX9) | (k_here; (with_reducible show wpAny _ _ (call (Value.ref 231) _) _ _ _); k_dflt (refine' c_is_day_name ?z9a1 ?z9a2 ?z9a3 ?z9B ?z9F ?z9X ?z9T ?z9k ?z9d ?z9u ?_; (case z9B => k_asm); (case z9F => k_asm); (case z9X => k_asm); (case z9T => k_asm); (case z9k => first | exact rfl | assumption); (case z9d => ktr_room); (case z9u => ktr_units); (case z9a1 => first | assumption | lia | decide); (case z9a2 => first | assumption | lia | decide); (case z9a3 => first | assumption | lia | decide); k_whole); intro h9 tk9 hK9; walk_at "m_after") | (k_here; (with_reducible show wpAny _ _ (call (Value.ref 226) _) _ _ _); k_dflt (refine' c_month_number ?z9a1 ?z9a2 ?z9a3 ?z9a4 ?z9B ?z9F ?z9X ?z9T ?z9k ?z9d ?z9u ?_; (case z9B => k_asm); (case z9F => k_asm); (case z9X => k_asm); (case z9T => k_asm); (case z9k => first | exact rfl | assumption); (case z9d => ktr_room); (case z9u => ktr_units); (case z9a1 => first | assumption | lia | decide); (case z9a2 => first | assumption | lia | decide); (case z9a3 => first | assumption | lia | decide); (case z9a4 => first | assumption | lia | decide); k_whole); intro t9 h9 tk9 hK9; walk_at "m_after") | (k_here; (with_reducible show wpAny _ _ (call (Value.ref 214) _) _ _ _); k_dflt (refine' c_is_time ?z9a1 ?z9B ?z9F ?z9X ?z9T ?z9k ?z9d ?z9u ?_; (case z9B => k_asm); (case z9F => k_asm); (case z9X => k_asm); (case z9T => k_asm); (case z9k => first | exact rfl | assumption); (case z9d => ktr_room); (case z9u => ktr_units); (case z9a1 => first | decide | lia); k_whole); intro h9 tk9 hK9; walk_at "m_after") | (k_here; (with_reducible show wpAny _ _ (call (Value.ref 328) _) _ _ _); k_dflt (refine' c_full_year ?z9B ?z9F ?z9X ?z9T ?z9k ?z9d ?z9u ?_; (case z9B => k_asm); (case z9F => k_asm); (case z9X => k_asm); (case z9T => k_asm); (case z9k => first | exact rfl | assumption); (case z9d => ktr_room); (case z9u => ktr_units); k_whole); intro t9 h9 tk9 hK9; walk_at "m_after") | (k_here; (with_reducible show wpAny _ _ (call (Value.ref 207) _) _ _ _); k_dflt (refine' c_is_day ?z9B ?z9F ?z9X ?z9T ?z9k ?z9d ?z9u ?_; (case z9B => k_asm); (case z9F => k_asm); (case z9X => k_asm); (case z9T => k_asm); (case z9k => first | exact rfl | assumption); (case z9d => ktr_room); (case z9u => ktr_units); k_whole); intro h9 tk9 hK9; walk_at "m_after")); k_steps)))
  clear mark
  refine Stop.out ?_
  refine cut_at (P := fun fl s' => Stop (fl = .next ∧ ∃ h' tk t2' m', s' = { s with heap := h', toks := tk } ∧ Fr g L1 h' m' ∧ m' (Str.ofString "reader") = some (.ref x) ∧ News g L1 h' (rdL w x dx lt k1 k2 k3 t2' t3 i0 ks.length vs c tl))) ?_ ?_
  · have hne9 := hne
    cases hname with
    | none hn1 hn2 hn3 hn4 =>
      clear hTD
      (k_steps; repeat (any_goals ((refine Stop.out ?_); (first | (k_here; (with_reducible show wpAny _ _ (call (Value.ref 342) _) _ _ _); k_dflt (refine' c_read_zone ?z9a0 ?z9a1 ?z9a2 ?z9a7 ?z9a8 ?z9B ?z9F ?z9N ?z9X ?z9T ?z9k ?z9d ?z9u ?_; (case z9a0 => assumption); (case z9B => k_asm); (case z9F => k_asm); (case z9N => exact rdN_of (by k_asm) (by k_mem) (by walk_at "led_in3")); (case z9X => k_asm); (case z9T => k_asm); (case z9k => first | exact rfl | assumption); (case z9d => ktr_room); (case z9u => ktr_units); (case z9a1 => first | assumption | rfl | lia | decide); (case z9a2 => first | assumption | rfl | lia | decide); (case z9a7 => first | assumption | rfl | lia | decide); (case z9a8 => first | assumption | rfl | lia | decide); k_whole); intro u91 t9 h9 tk9 F' N'; (dsimp only [rdL] at N'); (try k_sweep); (try dsimp only); (try k_fold)) | (k_here; (with_reducible show wpAny _ _ (call (Value.ref 335) _) _ _ _); k_dflt (refine' c_read_clock ?z9a0 ?z9a1 ?z9a2 ?z9a3 ?z9a4 ?z9a5 ?z9a6 ?z9a7 ?z9a8 ?z9B ?z9F ?z9N ?z9X ?z9T ?z9k ?z9d ?z9u ?_; (case z9a0 => assumption); (case z9B => k_asm); (case z9F => k_asm); (case z9N => exact rdN_of (by k_asm) (by k_mem) (by walk_at "led_in3")); (case z9X => k_asm); (case z9T => k_asm); (case z9k => first | exact rfl | assumption); (case z9d => ktr_room); (case z9u => ktr_units); (case z9a1 => first | assumption | rfl | lia | decide); (case z9a2 => first | assumption | rfl | lia | decide); (case z9a3 => first | assumption | rfl | lia | decide); (case z9a4 => first | assumption | rfl | lia | decide); (case z9a5 => first | assumption | rfl | lia | decide); (case z9a6 => first | assumption | rfl | lia | decide); (case z9a7 => first | assumption | rfl | lia | decide); (case z9a8 => first | assumption | rfl | lia | decide); k_whole); intro d9 u91 u92 u93 t9 h9 tk9 F' N'; (dsimp only [rdL] at N'); (try k_sweep); (try dsimp only); (try k_fold)) | (k_here; (with_reducible show wpAny _ _ (call (Value.ref 161) _) _ _ _); k_dflt (refine' c_moment ?z9B ?z9F ?z9X ?z9T ?z9k ?z9d ?z9u ?_; (case z9B => k_asm); (case z9F => k_asm); (case z9X => k_asm); (case z9T => k_asm); (case z9k => first | exact rfl | assumption); (case z9d => ktr_room); (case z9u => ktr_units); k_whole); intro x9 dx9 k91 k92 k93 k94 k95 k96 k97 h9 tk9 hK9 hx9 hd9 nx9 nd9; have N9 := news_add2 hK9 (by k_asm) (by k_asm) hx9 nx9 hd9 nd9; have F9 := Keeps.fr hK9 (by k_asm); clear hK9 hx9 hd9 nx9 nd9; (try k_sweep); (try dsimp only); (try k_fold)) | (k_here; (with_reducible show wpAny _ _ (call (Value.ref 307) [_, Value.int 2 _, _]) _ _ _); k_dflt (refine' c_numberB ?z9a0 ?z9a1 ?z9a2 ?z9a3 ?z9a4 ?z9a5 ?z9av ?z9a8 ?z9a9 ?z9B ?z9F ?z9N ?z9X ?z9T ?z9k ?z9d ?z9u ?z9hr ?z9hb; (case z9a0 => assumption); (case z9B => k_asm); (case z9F => k_asm); (case z9N => exact rdN_of (by k_asm) (by k_mem) (by walk_at "led_in3")); (case z9X => k_asm); (case z9T => k_asm); (case z9k => first | exact rfl | assumption); (case z9d => ktr_room); (case z9u => ktr_units); (case z9a1 => first | assumption | rfl | lia | decide); (case z9a2 => first | assumption | rfl | lia | decide); (case z9a3 => first | assumption | rfl | lia | decide); (case z9a4 => first | assumption | rfl | lia | decide); (case z9a5 => first | assumption | rfl | lia | decide); (case z9av => first | assumption | rfl | lia | decide); (case z9a8 => first | assumption | rfl | lia | decide); (case z9a9 => first | assumption | rfl | lia | decide); k_whole); (case' z9hr => (intro hs1 hs2 d9 u91 u92 t9 h9 tk9 F' N'; (dsimp only [rdL] at N'); (try k_sweep); (try dsimp only); (try k_fold))); (case' z9hb => (intro hs3 e9 h9 tk9 g9 F9g R' U'; (try dsimp only at R' U' ⊢)))) | (k_here; (with_reducible show wpAny _ _ (call (Value.ref 307) _) _ _ _); k_dflt (refine' c_numberV ?z9a0 ?z9a1 ?z9a2 ?z9a3 ?z9a4 ?z9a5 ?z9a6 ?z9a7 ?z9av ?z9a8 ?z9a9 ?z9B ?z9F ?z9N ?z9X ?z9T ?z9k ?z9d ?z9u ?_; (case z9a0 => assumption); (case z9B => k_asm); (case z9F => k_asm); (case z9N => exact rdN_of (by k_asm) (by k_mem) (by walk_at "led_in3")); (case z9X => k_asm); (case z9T => k_asm); (case z9k => first | exact rfl | assumption); (case z9d => ktr_room); (case z9u => ktr_units); (case z9a1 => first | assumption | rfl | lia | decide); (case z9a2 => first | assumption | rfl | lia | decide); (case z9a3 => first | assumption | rfl | lia | decide); (case z9a4 => first | assumption | rfl | lia | decide); (case z9a5 => first | assumption | rfl | lia | decide); (case z9a6 => first | assumption | rfl | lia | decide); (case z9a7 => first | assumption | rfl | lia | decide); (case z9av => first | assumption | rfl | lia | decide); (case z9a8 => first | assumption | rfl | lia | decide); (case z9a9 => first | assumption | rfl | lia | decide); k_whole); intro d9 u91 u92 t9 h9 tk9 F' N'; (dsimp only [rdL] at N'); (try k_sweep); (try dsimp only); (try k_fold)) | (k_here; (with_reducible show wpAny _ _ (call (Value.ref 314) _) _ _ _); (refine' c_need ?z9bb ?z9a0 ?z9B ?z9F ?z9N ?z9X ?z9T ?z9k ?z9d ?z9u ?_; (case z9bb => first | rfl | exact decide_eq_true (by lia)); (case z9a0 => assumption); (case z9B => k_asm); (case z9F => k_asm); (case z9N => exact rdN_of (by k_asm) (by k_mem) (by walk_at "led_in3")); (case z9X => k_asm); (case z9T => k_asm); (case z9k => first | exact rfl | assumption); (case z9d => ktr_room); (case z9u => ktr_units); k_whole); intro t9 h9 tk9 F' N'; (dsimp only [rdL] at N'); (try k_sweep); (try dsimp only); (try k_fold)) | (k_here; (with_reducible show wpAny _ _ (call (Value.ref 300) _) _ _ _); k_dflt (refine' c_skip_hit ?z9a0 ?z9a1 ?z9a2 ?z9a3 ?z9a4 ?z9a5 ?z9B ?z9F ?z9N ?z9X ?z9T ?z9k ?z9d ?z9u ?_; (case z9a0 => assumption); (case z9B => k_asm); (case z9F => k_asm); (case z9N => exact rdN_of (by k_asm) (by k_mem) (by walk_at "led_in3")); (case z9X => k_asm); (case z9T => k_asm); (case z9k => first | exact rfl | assumption); (case z9d => ktr_room); (case z9u => ktr_units); (case z9a1 => first | assumption | rfl | lia | decide); (case z9a2 => first | assumption | rfl | lia | decide); (case z9a3 => first | assumption | rfl | lia | decide); (case z9a4 => first | assumption | rfl | lia | decide); (case z9a5 => first | assumption | rfl | lia | decide); k_whole); intro t9 h9 tk9 F' N'; (dsimp only [rdL] at N'); (try k_sweep); (try dsimp only); (try k_fold)) | (k_here; (with_reducible show wpAny _ _ (call (Value.ref 300) _) _ _ _); k_dflt (refine' c_skip_miss ?z9a0 ?z9a1 ?z9a2 ?z9a4 ?z9a5 ?z9B ?z9F ?z9N ?z9X ?z9T ?z9k ?z9d ?z9u ?_; (case z9a0 => assumption); (case z9B => k_asm); (case z9F => k_asm); (case z9N => exact rdN_of (by k_asm) (by k_mem) (by walk_at "led_in3")); (case z9X => k_asm); (case z9T => k_asm); (case z9k => first | exact rfl | assumption); (case z9d => ktr_room); (case z9u => ktr_units); (case z9a1 => first | assumption | rfl | lia | decide); (case z9a2 => first | assumption | rfl | lia | decide); (case z9a4 => first | assumption | rfl | lia | decide); (case z9a5 => first | assumption | rfl | lia | decide); k_whole); intro h9 tk9 F' N'; (dsimp only [rdL] at N'); (try k_sweep); (try dsimp only); (try k_fold)) | (k_here; (with_reducible show wpAny _ _ (call (Value.ref 293) _) _ _ _); k_dflt (refine' c_atom ?z9a0 ?z9a1 ?z9a2 ?z9a3 ?z9a4 ?z9a5 ?z9B ?z9F ?z9N ?z9X ?z9T ?z9k ?z9d ?z9u ?_; (case z9a0 => assumption); (case z9B => k_asm); (case z9F => k_asm); (case z9N => exact rdN_of (by k_asm) (by k_mem) (by walk_at "led_in3")); (case z9X => k_asm); (case z9T => k_asm); (case z9k => first | exact rfl | assumption); (case z9d => ktr_room); (case z9u => ktr_units); (case z9a1 => first | assumption | rfl | lia | decide); (case z9a2 => first | assumption | rfl | lia | decide); (case z9a3 => first | assumption | rfl | lia | decide); (case z9a4 => first | assumption | rfl | lia | decide); (case z9a5 => first | assumption | rfl | lia | decide); k_whole); intro t9 h9 tk9 F' N'; (dsimp only [rdL] at N'); (try k_sweep); (try dsimp only); (try k_fold)) | (k_here; (with_reducible show wpAny _ _ (call (Value.ref 288) _) _ _ _); k_dflt (refine' c_place ?z9a0 ?z9a1 ?z9a2 ?z9a4 ?z9a5 ?z9B ?z9F ?z9N ?z9X ?z9T ?z9k ?z9d ?z9u ?_; (case z9a0 => assumption); (case z9B => k_asm); (case z9F => k_asm); (case z9N => exact rdN_of (by k_asm) (by k_mem) (by walk_at "led_in3")); (case z9X => k_asm); (case z9T => k_asm); (case z9k => first | exact rfl | assumption); (case z9d => ktr_room); (case z9u => ktr_units); (case z9a1 => first | assumption | rfl | lia | decide); (case z9a2 => first | assumption | rfl | lia | decide); (case z9a4 => first | assumption | rfl | lia | decide); (case z9a5 => first | assumption | rfl | lia | decide); k_whole); intro t9 h9 tk9 F' N'; (dsimp only [rdL] at N'); (try k_sweep); (try dsimp only); (try k_fold)) | (k_here; (with_reducible show wpAny _ _ (call (Value.ref 52) _) _ _ _); k_dflt (refine' c_fault ?z9B ?z9F ?z9X ?z9T ?z9k ?z9d ?z9u ?_; (case z9B => k_asm); (case z9F => k_asm); (case z9X => k_asm); (case z9T => k_asm); (case z9k => first | exact rfl | assumption); (case z9d => ktr_room); (case z9u => ktr_units); k_whole); intro e9 h9 tk9 hX9) | (k_here; (with_reducible show wpAny _ _ (call (Value.ref 231) _) _ _ _); k_dflt (refine' c_is_day_name ?z9a1 ?z9a2 ?z9a3 ?z9B ?z9F ?z9X ?z9T ?z9k ?z9d ?z9u ?_; (case z9B => k_asm); (case z9F => k_asm); (case z9X => k_asm); (case z9T => k_asm); (case z9k => first | exact rfl | assumption); (case z9d => ktr_room); (case z9u => ktr_units); (case z9a1 => first | assumption | lia | decide); (case z9a2 => first | assumption | lia | decide); (case z9a3 => first | assumption | lia | decide); k_whole); intro h9 tk9 hK9; walk_at "m_after") | (k_here; (with_reducible show wpAny _ _ (call (Value.ref 226) _) _ _ _); k_dflt (refine' c_month_number ?z9a1 ?z9a2 ?z9a3 ?z9a4 ?z9B ?z9F ?z9X ?z9T ?z9k ?z9d ?z9u ?_; (case z9B => k_asm); (case z9F => k_asm); (case z9X => k_asm); (case z9T => k_asm); (case z9k => first | exact rfl | assumption); (case z9d => ktr_room); (case z9u => ktr_units); (case z9a1 => first | assumption | lia | decide); (case z9a2 => first | assumption | lia | decide); (case z9a3 => first | assumption | lia | decide); (case z9a4 => first | assumption | lia | decide); k_whole); intro t9 h9 tk9 hK9; walk_at "m_after") | (k_here; (with_reducible show wpAny _ _ (call (Value.ref 214) _) _ _ _); k_dflt (refine' c_is_time ?z9a1 ?z9B ?z9F ?z9X ?z9T ?z9k ?z9d ?z9u ?_; (case z9B => k_asm); (case z9F => k_asm); (case z9X => k_asm); (case z9T => k_asm); (case z9k => first | exact rfl | assumption); (case z9d => ktr_room); (case z9u => ktr_units); (case z9a1 => first | decide | lia); k_whole); intro h9 tk9 hK9; walk_at "m_after") | (k_here; (with_reducible show wpAny _ _ (call (Value.ref 328) _) _ _ _); k_dflt (refine' c_full_year ?z9B ?z9F ?z9X ?z9T ?z9k ?z9d ?z9u ?_; (case z9B => k_asm); (case z9F => k_asm); (case z9X => k_asm); (case z9T => k_asm); (case z9k => first | exact rfl | assumption); (case z9d => ktr_room); (case z9u => ktr_units); k_whole); intro t9 h9 tk9 hK9; walk_at "m_after") | (k_here; (with_reducible show wpAny _ _ (call (Value.ref 207) _) _ _ _); k_dflt (refine' c_is_day ?z9B ?z9F ?z9X ?z9T ?z9k ?z9d ?z9u ?_; (case z9B => k_asm); (case z9F => k_asm); (case z9X => k_asm); (case z9T => k_asm); (case z9k => first | exact rfl | assumption); (case z9d => ktr_room); (case z9u => ktr_units); k_whole); intro h9 tk9 hK9; walk_at "m_after")); k_steps)))
      (with_reducible rename News _ _ _ _ => NZ)
      (with_reducible rename Fr _ _ _ _ => FZ)
      k_dflt (refine' Stop.out ⟨rfl, _, _, ?u1, _, rfl, FZ, rfl, rdN_h (w := w) NZ ?hm1 ?hx1⟩)
      case hm1 => k_mem
      case hx1 => walk_at "led_in3"
    | plain hn1 hn2 hn3 hn4 hn5 =>
      (k_steps; repeat (any_goals ((refine Stop.out ?_); (first | (k_here; (with_reducible show wpAny _ _ (call (Value.ref 342) _) _ _ _); k_dflt (refine' c_read_zone ?z9a0 ?z9a1 ?z9a2 ?z9a7 ?z9a8 ?z9B ?z9F ?z9N ?z9X ?z9T ?z9k ?z9d ?z9u ?_; (case z9a0 => assumption); (case z9B => k_asm); (case z9F => k_asm); (case z9N => exact rdN_of (by k_asm) (by k_mem) (by walk_at "led_in3")); (case z9X => k_asm); (case z9T => k_asm); (case z9k => first | exact rfl | assumption); (case z9d => ktr_room); (case z9u => ktr_units); (case z9a1 => first | assumption | rfl | lia | decide); (case z9a2 => first | assumption | rfl | lia | decide); (case z9a7 => first | assumption | rfl | lia | decide); (case z9a8 => first | assumption | rfl | lia | decide); k_whole); intro u91 t9 h9 tk9 F' N'; (dsimp only [rdL] at N'); (try k_sweep); (try dsimp only); (try k_fold)) | (k_here; (with_reducible show wpAny _ _ (call (Value.ref 335) _) _ _ _); k_dflt (refine' c_read_clock ?z9a0 ?z9a1 ?z9a2 ?z9a3 ?z9a4 ?z9a5 ?z9a6 ?z9a7 ?z9a8 ?z9B ?z9F ?z9N ?z9X ?z9T ?z9k ?z9d ?z9u ?_; (case z9a0 => assumption); (case z9B => k_asm); (case z9F => k_asm); (case z9N => exact rdN_of (by k_asm) (by k_mem) (by walk_at "led_in3")); (case z9X => k_asm); (case z9T => k_asm); (case z9k => first | exact rfl | assumption); (case z9d => ktr_room); (case z9u => ktr_units); (case z9a1 => first | assumption | rfl | lia | decide); (case z9a2 => first | assumption | rfl | lia | decide); (case z9a3 => first | assumption | rfl | lia | decide); (case z9a4 => first | assumption | rfl | lia | decide); (case z9a5 => first | assumption | rfl | lia | decide); (case z9a6 => first | assumption | rfl | lia | decide); (case z9a7 => first | assumption | rfl | lia | decide); (case z9a8 => first | assumption | rfl | lia | decide); k_whole); intro d9 u91 u92 u93 t9 h9 tk9 F' N'; (dsimp only [rdL] at N'); (try k_sweep); (try dsimp only); (try k_fold)) | (k_here; (with_reducible show wpAny _ _ (call (Value.ref 161) _) _ _ _); k_dflt (refine' c_moment ?z9B ?z9F ?z9X ?z9T ?z9k ?z9d ?z9u ?_; (case z9B => k_asm); (case z9F => k_asm); (case z9X => k_asm); (case z9T => k_asm); (case z9k => first | exact rfl | assumption); (case z9d => ktr_room); (case z9u => ktr_units); k_whole); intro x9 dx9 k91 k92 k93 k94 k95 k96 k97 h9 tk9 hK9 hx9 hd9 nx9 nd9; have N9 := news_add2 hK9 (by k_asm) (by k_asm) hx9 nx9 hd9 nd9; have F9 := Keeps.fr hK9 (by k_asm); clear hK9 hx9 hd9 nx9 nd9; (try k_sweep); (try dsimp only); (try k_fold)) | (k_here; (with_reducible show wpAny _ _ (call (Value.ref 307) [_, Value.int 2 _, _]) _ _ _); k_dflt (refine' c_numberB ?z9a0 ?z9a1 ?z9a2 ?z9a3 ?z9a4 ?z9a5 ?z9av ?z9a8 ?z9a9 ?z9B ?z9F ?z9N ?z9X ?z9T ?z9k ?z9d ?z9u ?z9hr ?z9hb; (case z9a0 => assumption); (case z9B => k_asm); (case z9F => k_asm); (case z9N => exact rdN_of (by k_asm) (by k_mem) (by walk_at "led_in3")); (case z9X => k_asm); (case z9T => k_asm); (case z9k => first | exact rfl | assumption); (case z9d => ktr_room); (case z9u => ktr_units); (case z9a1 => first | assumption | rfl | lia | decide); (case z9a2 => first | assumption | rfl | lia | decide); (case z9a3 => first | assumption | rfl | lia | decide); (case z9a4 => first | assumption | rfl | lia | decide); (case z9a5 => first | assumption | rfl | lia | decide); (case z9av => first | assumption | rfl | lia | decide); (case z9a8 => first | assumption | rfl | lia | decide); (case z9a9 => first | assumption | rfl | lia | decide); k_whole); (case' z9hr => (intro hs1 hs2 d9 u91 u92 t9 h9 tk9 F' N'; (dsimp only [rdL] at N'); (try k_sweep); (try dsimp only); (try k_fold))); (case' z9hb => (intro hs3 e9 h9 tk9 g9 F9g R' U'; (try dsimp only at R' U' ⊢)))) | (k_here; (with_reducible show wpAny _ _ (call (Value.ref 307) _) _ _ _); k_dflt (refine' c_numberV ?z9a0 ?z9a1 ?z9a2 ?z9a3 ?z9a4 ?z9a5 ?z9a6 ?z9a7 ?z9av ?z9a8 ?z9a9 ?z9B ?z9F ?z9N ?z9X ?z9T ?z9k ?z9d ?z9u ?_; (case z9a0 => assumption); (case z9B => k_asm); (case z9F => k_asm); (case z9N => exact rdN_of (by k_asm) (by k_mem) (by walk_at "led_in3")); (case z9X => k_asm); (case z9T => k_asm); (case z9k => first | exact rfl | assumption); (case z9d => ktr_room); (case z9u => ktr_units); (case z9a1 => first | assumption | rfl | lia | decide); (case z9a2 => first | assumption | rfl | lia | decide); (case z9a3 => first | assumption | rfl | lia | decide); (case z9a4 => first | assumption | rfl | lia | decide); (case z9a5 => first | assumption | rfl | lia | decide); (case z9a6 => first | assumption | rfl | lia | decide); (case z9a7 => first | assumption | rfl | lia | decide); (case z9av => first | assumption | rfl | lia | decide); (case z9a8 => first | assumption | rfl | lia | decide); (case z9a9 => first | assumption | rfl | lia | decide); k_whole); intro d9 u91 u92 t9 h9 tk9 F' N'; (dsimp only [rdL] at N'); (try k_sweep); (try dsimp only); (try k_fold)) | (k_here; (with_reducible show wpAny _ _ (call (Value.ref 314) _) _ _ _); (refine' c_need ?z9bb ?z9a0 ?z9B ?z9F ?z9N ?z9X ?z9T ?z9k ?z9d ?z9u ?_; (case z9bb => first | rfl | exact decide_eq_true (by lia)); (case z9a0 => assumption); (case z9B => k_asm); (case z9F => k_asm); (case z9N => exact rdN_of (by k_asm) (by k_mem) (by walk_at "led_in3")); (case z9X => k_asm); (case z9T => k_asm); (case z9k => first | exact rfl | assumption); (case z9d => ktr_room); (case z9u => ktr_units); k_whole); intro t9 h9 tk9 F' N'; (dsimp only [rdL] at N'); (try k_sweep); (try dsimp only); (try k_fold)) | (k_here; (with_reducible show wpAny _ _ (call (Value.ref 300) _) _ _ _); k_dflt (refine' c_skip_hit ?z9a0 ?z9a1 ?z9a2 ?z9a3 ?z9a4 ?z9a5 ?z9B ?z9F ?z9N ?z9X ?z9T ?z9k ?z9d ?z9u ?_; (case z9a0 => assumption); (case z9B => k_asm); (case z9F => k_asm); (case z9N => exact rdN_of (by k_asm) (by k_mem) (by walk_at "led_in3")); (case z9X => k_asm); (case z9T => k_asm); (case z9k => first | exact rfl | assumption); (case z9d => ktr_room); (case z9u => ktr_units); (case z9a1 => first | assumption | rfl | lia | decide); (case z9a2 => first | assumption | rfl | lia | decide); (case z9a3 => first | assumption | rfl | lia | decide); (case z9a4 => first | assumption | rfl | lia | decide); (case z9a5 => first | assumption | rfl | lia | decide); k_whole); intro t9 h9 tk9 F' N'; (dsimp only [rdL] at N'); (try k_sweep); (try dsimp only); (try k_fold)) | (k_here; (with_reducible show wpAny _ _ (call (Value.ref 300) _) _ _ _); k_dflt (refine' c_skip_miss ?z9a0 ?z9a1 ?z9a2 ?z9a4 ?z9a5 ?z9B ?z9F ?z9N ?z9X ?z9T ?z9k ?z9d ?z9u ?_; (case z9a0 => assumption); (case z9B => k_asm); (case z9F => k_asm); (case z9N => exact rdN_of (by k_asm) (by k_mem) (by walk_at "led_in3")); (case z9X => k_asm); (case z9T => k_asm); (case z9k => first | exact rfl | assumption); (case z9d => ktr_room); (case z9u => ktr_units); (case z9a1 => first | assumption | rfl | lia | decide); (case z9a2 => first | assumption | rfl | lia | decide); (case z9a4 => first | assumption | rfl | lia | decide); (case z9a5 => first | assumption | rfl | lia | decide); k_whole); intro h9 tk9 F' N'; (dsimp only [rdL] at N'); (try k_sweep); (try dsimp only); (try k_fold)) | (k_here; (with_reducible show wpAny _ _ (call (Value.ref 293) _) _ _ _); k_dflt (refine' c_atom ?z9a0 ?z9a1 ?z9a2 ?z9a3 ?z9a4 ?z9a5 ?z9B ?z9F ?z9N ?z9X ?z9T ?z9k ?z9d ?z9u ?_; (case z9a0 => assumption); (case z9B => k_asm); (case z9F => k_asm); (case z9N => exact rdN_of (by k_asm) (by k_mem) (by walk_at "led_in3")); (case z9X => k_asm); (case z9T => k_asm); (case z9k => first | exact rfl | assumption); (case z9d => ktr_room); (case z9u => ktr_units); (case z9a1 => first | assumption | rfl | lia | decide); (case z9a2 => first | assumption | rfl | lia | decide); (case z9a3 => first | assumption | rfl | lia | decide); (case z9a4 => first | assumption | rfl | lia | decide); (case z9a5 => first | assumption | rfl | lia | decide); k_whole); intro t9 h9 tk9 F' N'; (dsimp only [rdL] at N'); (try k_sweep); (try dsimp only); (try k_fold)) | (k_here; (with_reducible show wpAny _ _ (call (Value.ref 288) _) _ _ _); k_dflt (refine' c_place ?z9a0 ?z9a1 ?z9a2 ?z9a4 ?z9a5 ?z9B ?z9F ?z9N ?z9X ?z9T ?z9k ?z9d ?z9u ?_; (case z9a0 => assumption); (case z9B => k_asm); (case z9F => k_asm); (case z9N => exact rdN_of (by k_asm) (by k_mem) (by walk_at "led_in3")); (case z9X => k_asm); (case z9T => k_asm); (case z9k => first | exact rfl | assumption); (case z9d => ktr_room); (case z9u => ktr_units); (case z9a1 => first | assumption | rfl | lia | decide); (case z9a2 => first | assumption | rfl | lia | decide); (case z9a4 => first | assumption | rfl | lia | decide); (case z9a5 => first | assumption | rfl | lia | decide); k_whole); intro t9 h9 tk9 F' N'; (dsimp only [rdL] at N'); (try k_sweep); (try dsimp only); (try k_fold)) | (k_here; (with_reducible show wpAny _ _ (call (Value.ref 52) _) _ _ _); k_dflt (refine' c_fault ?z9B ?z9F ?z9X ?z9T ?z9k ?z9d ?z9u ?_; (case z9B => k_asm); (case z9F => k_asm); (case z9X => k_asm); (case z9T => k_asm); (case z9k => first | exact rfl | assumption); (case z9d => ktr_room); (case z9u => ktr_units); k_whole); intro e9 h9 tk9 hX9) | (k_here; (with_reducible show wpAny _ _ (call (Value.ref 231) _) _ _ _); k_dflt (refine' c_is_day_name ?z9a1 ?z9a2 ?z9a3 ?z9B ?z9F ?z9X ?z9T ?z9k ?z9d ?z9u ?_; (case z9B => k_asm); (case z9F => k_asm); (case z9X => k_asm); (case z9T => k_asm); (case z9k => first | exact rfl | assumption); (case z9d => ktr_room); (case z9u => ktr_units); (case z9a1 => first | assumption | lia | decide); (case z9a2 => first | assumption | lia | decide); (case z9a3 => first | assumption | lia | decide); k_whole); intro h9 tk9 hK9; walk_at "m_after") | (k_here; (with_reducible show wpAny _ _ (call (Value.ref 226) _) _ _ _); k_dflt (refine' c_month_number ?z9a1 ?z9a2 ?z9a3 ?z9a4 ?z9B ?z9F ?z9X ?z9T ?z9k ?z9d ?z9u ?_; (case z9B => k_asm); (case z9F => k_asm); (case z9X => k_asm); (case z9T => k_asm); (case z9k => first | exact rfl | assumption); (case z9d => ktr_room); (case z9u => ktr_units); (case z9a1 => first | assumption | lia | decide); (case z9a2 => first | assumption | lia | decide); (case z9a3 => first | assumption | lia | decide); (case z9a4 => first | assumption | lia | decide); k_whole); intro t9 h9 tk9 hK9; walk_at "m_after") | (k_here; (with_reducible show wpAny _ _ (call (Value.ref 214) _) _ _ _); k_dflt (refine' c_is_time ?z9a1 ?z9B ?z9F ?z9X ?z9T ?z9k ?z9d ?z9u ?_; (case z9B => k_asm); (case z9F => k_asm); (case z9X => k_asm); (case z9T => k_asm); (case z9k => first | exact rfl | assumption); (case z9d => ktr_room); (case z9u => ktr_units); (case z9a1 => first | decide | lia); k_whole); intro h9 tk9 hK9; walk_at "m_after") | (k_here; (with_reducible show wpAny _ _ (call (Value.ref 328) _) _ _ _); k_dflt (refine' c_full_year ?z9B ?z9F ?z9X ?z9T ?z9k ?z9d ?z9u ?_; (case z9B => k_asm); (case z9F => k_asm); (case z9X => k_asm); (case z9T => k_asm); (case z9k => first | exact rfl | assumption); (case z9d => ktr_room); (case z9u => ktr_units); k_whole); intro t9 h9 tk9 hK9; walk_at "m_after") | (k_here; (with_reducible show wpAny _ _ (call (Value.ref 207) _) _ _ _); k_dflt (refine' c_is_day ?z9B ?z9F ?z9X ?z9T ?z9k ?z9d ?z9u ?_; (case z9B => k_asm); (case z9F => k_asm); (case z9X => k_asm); (case z9T => k_asm); (case z9k => first | exact rfl | assumption); (case z9d => ktr_room); (case z9u => ktr_units); k_whole); intro h9 tk9 hK9; walk_at "m_after")); k_steps)))
      (with_reducible rename News _ _ _ _ => NZ)
      (with_reducible rename Fr _ _ _ _ => FZ)
      k_dflt (refine' Stop.out ⟨rfl, _, _, ?u2, _, rfl, FZ, rfl, rdN_h (w := w) NZ ?hm2 ?hx2⟩)
      case hm2 => k_mem
      case hx2 => walk_at "led_in3"
    | comma hn1 hn2 hn3 hn4 hn5 =>
      (k_steps; repeat (any_goals ((refine Stop.out ?_); (first | (k_here; (with_reducible show wpAny _ _ (call (Value.ref 342) _) _ _ _); k_dflt (refine' c_read_zone ?z9a0 ?z9a1 ?z9a2 ?z9a7 ?z9a8 ?z9B ?z9F ?z9N ?z9X ?z9T ?z9k ?z9d ?z9u ?_; (case z9a0 => assumption); (case z9B => k_asm); (case z9F => k_asm); (case z9N => exact rdN_of (by k_asm) (by k_mem) (by walk_at "led_in3")); (case z9X => k_asm); (case z9T => k_asm); (case z9k => first | exact rfl | assumption); (case z9d => ktr_room); (case z9u => ktr_units); (case z9a1 => first | assumption | rfl | lia | decide); (case z9a2 => first | assumption | rfl | lia | decide); (case z9a7 => first | assumption | rfl | lia | decide); (case z9a8 => first | assumption | rfl | lia | decide); k_whole); intro u91 t9 h9 tk9 F' N'; (dsimp only [rdL] at N'); (try k_sweep); (try dsimp only); (try k_fold)) | (k_here; (with_reducible show wpAny _ _ (call (Value.ref 335) _) _ _ _); k_dflt (refine' c_read_clock ?z9a0 ?z9a1 ?z9a2 ?z9a3 ?z9a4 ?z9a5 ?z9a6 ?z9a7 ?z9a8 ?z9B ?z9F ?z9N ?z9X ?z9T ?z9k ?z9d ?z9u ?_; (case z9a0 => assumption); (case z9B => k_asm); (case z9F => k_asm); (case z9N => exact rdN_of (by k_asm) (by k_mem) (by walk_at "led_in3")); (case z9X => k_asm); (case z9T => k_asm); (case z9k => first | exact rfl | assumption); (case z9d => ktr_room); (case z9u => ktr_units); (case z9a1 => first | assumption | rfl | lia | decide); (case z9a2 => first | assumption | rfl | lia | decide); (case z9a3 => first | assumption | rfl | lia | decide); (case z9a4 => first | assumption | rfl | lia | decide); (case z9a5 => first | assumption | rfl | lia | decide); (case z9a6 => first | assumption | rfl | lia | decide); (case z9a7 => first | assumption | rfl | lia | decide); (case z9a8 => first | assumption | rfl | lia | decide); k_whole); intro d9 u91 u92 u93 t9 h9 tk9 F' N'; (dsimp only [rdL] at N'); (try k_sweep); (try dsimp only); (try k_fold)) | (k_here; (with_reducible show wpAny _ _ (call (Value.ref 161) _) _ _ _); k_dflt (refine' c_moment ?z9B ?z9F ?z9X ?z9T ?z9k ?z9d ?z9u ?_; (case z9B => k_asm); (case z9F => k_asm); (case z9X => k_asm); (case z9T => k_asm); (case z9k => first | exact rfl | assumption); (case z9d => ktr_room); (case z9u => ktr_units); k_whole); intro x9 dx9 k91 k92 k93 k94 k95 k96 k97 h9 tk9 hK9 hx9 hd9 nx9 nd9; have N9 := news_add2 hK9 (by k_asm) (by k_asm) hx9 nx9 hd9 nd9; have F9 := Keeps.fr hK9 (by k_asm); clear hK9 hx9 hd9 nx9 nd9; (try k_sweep); (try dsimp only); (try k_fold)) | (k_here; (with_reducible show wpAny _ _ (call (Value.ref 307) [_, Value.int 2 _, _]) _ _ _); k_dflt (refine' c_numberB ?z9a0 ?z9a1 ?z9a2 ?z9a3 ?z9a4 ?z9a5 ?z9av ?z9a8 ?z9a9 ?z9B ?z9F ?z9N ?z9X ?z9T ?z9k ?z9d ?z9u ?z9hr ?z9hb; (case z9a0 => assumption); (case z9B => k_asm); (case z9F => k_asm); (case z9N => exact rdN_of (by k_asm) (by k_mem) (by walk_at "led_in3")); (case z9X => k_asm); (case z9T => k_asm); (case z9k => first | exact rfl | assumption); (case z9d => ktr_room); (case z9u => ktr_units); (case z9a1 => first | assumption | rfl | lia | decide); (case z9a2 => first | assumption | rfl | lia | decide); (case z9a3 => first | assumption | rfl | lia | decide); (case z9a4 => first | assumption | rfl | lia | decide); (case z9a5 => first | assumption | rfl | lia | decide); (case z9av => first | assumption | rfl | lia | decide); (case z9a8 => first | assumption | rfl | lia | decide); (case z9a9 => first | assumption | rfl | lia | decide); k_whole); (case' z9hr => (intro hs1 hs2 d9 u91 u92 t9 h9 tk9 F' N'; (dsimp only [rdL] at N'); (try k_sweep); (try dsimp only); (try k_fold))); (case' z9hb => (intro hs3 e9 h9 tk9 g9 F9g R' U'; (try dsimp only at R' U' ⊢)))) | (k_here; (with_reducible show wpAny _ _ (call (Value.ref 307) _) _ _ _); k_dflt (refine' c_numberV ?z9a0 ?z9a1 ?z9a2 ?z9a3 ?z9a4 ?z9a5 ?z9a6 ?z9a7 ?z9av ?z9a8 ?z9a9 ?z9B ?z9F ?z9N ?z9X ?z9T ?z9k ?z9d ?z9u ?_; (case z9a0 => assumption); (case z9B => k_asm); (case z9F => k_asm); (case z9N => exact rdN_of (by k_asm) (by k_mem) (by walk_at "led_in3")); (case z9X => k_asm); (case z9T => k_asm); (case z9k => first | exact rfl | assumption); (case z9d => ktr_room); (case z9u => ktr_units); (case z9a1 => first | assumption | rfl | lia | decide); (case z9a2 => first | assumption | rfl | lia | decide); (case z9a3 => first | assumption | rfl | lia | decide); (case z9a4 => first | assumption | rfl | lia | decide); (case z9a5 => first | assumption | rfl | lia | decide); (case z9a6 => first | assumption | rfl | lia | decide); (case z9a7 => first | assumption | rfl | lia | decide); (case z9av => first | assumption | rfl | lia | decide); (case z9a8 => first | assumption | rfl | lia | decide); (case z9a9 => first | assumption | rfl | lia | decide); k_whole); intro d9 u91 u92 t9 h9 tk9 F' N'; (dsimp only [rdL] at N'); (try k_sweep); (try dsimp only); (try k_fold)) | (k_here; (with_reducible show wpAny _ _ (call (Value.ref 314) _) _ _ _); (refine' c_need ?z9bb ?z9a0 ?z9B ?z9F ?z9N ?z9X ?z9T ?z9k ?z9d ?z9u ?_; (case z9bb => first | rfl | exact decide_eq_true (by lia)); (case z9a0 => assumption); (case z9B => k_asm); (case z9F => k_asm); (case z9N => exact rdN_of (by k_asm) (by k_mem) (by walk_at "led_in3")); (case z9X => k_asm); (case z9T => k_asm); (case z9k => first | exact rfl | assumption); (case z9d => ktr_room); (case z9u => ktr_units); k_whole); intro t9 h9 tk9 F' N'; (dsimp only [rdL] at N'); (try k_sweep); (try dsimp only); (try k_fold)) | (k_here; (with_reducible show wpAny _ _ (call (Value.ref 300) _) _ _ _); k_dflt (refine' c_skip_hit ?z9a0 ?z9a1 ?z9a2 ?z9a3 ?z9a4 ?z9a5 ?z9B ?z9F ?z9N ?z9X ?z9T ?z9k ?z9d ?z9u ?_; (case z9a0 => assumption); (case z9B => k_asm); (case z9F => k_asm); (case z9N => exact rdN_of (by k_asm) (by k_mem) (by walk_at "led_in3")); (case z9X => k_asm); (case z9T => k_asm); (case z9k => first | exact rfl | assumption); (case z9d => ktr_room); (case z9u => ktr_units); (case z9a1 => first | assumption | rfl | lia | decide); (case z9a2 => first | assumption | rfl | lia | decide); (case z9a3 => first | assumption | rfl | lia | decide); (case z9a4 => first | assumption | rfl | lia | decide); (case z9a5 => first | assumption | rfl | lia | decide); k_whole); intro t9 h9 tk9 F' N'; (dsimp only [rdL] at N'); (try k_sweep); (try dsimp only); (try k_fold)) | (k_here; (with_reducible show wpAny _ _ (call (Value.ref 300) _) _ _ _); k_dflt (refine' c_skip_miss ?z9a0 ?z9a1 ?z9a2 ?z9a4 ?z9a5 ?z9B ?z9F ?z9N ?z9X ?z9T ?z9k ?z9d ?z9u ?_; (case z9a0 => assumption); (case z9B => k_asm); (case z9F => k_asm); (case z9N => exact rdN_of (by k_asm) (by k_mem) (by walk_at "led_in3")); (case z9X => k_asm); (case z9T => k_asm); (case z9k => first | exact rfl | assumption); (case z9d => ktr_room); (case z9u => ktr_units); (case z9a1 => first | assumption | rfl | lia | decide); (case z9a2 => first | assumption | rfl | lia | decide); (case z9a4 => first | assumption | rfl | lia | decide); (case z9a5 => first | assumption | rfl | lia | decide); k_whole); intro h9 tk9 F' N'; (dsimp only [rdL] at N'); (try k_sweep); (try dsimp only); (try k_fold)) | (k_here; (with_reducible show wpAny _ _ (call (Value.ref 293) _) _ _ _); k_dflt (refine' c_atom ?z9a0 ?z9a1 ?z9a2 ?z9a3 ?z9a4 ?z9a5 ?z9B ?z9F ?z9N ?z9X ?z9T ?z9k ?z9d ?z9u ?_; (case z9a0 => assumption); (case z9B => k_asm); (case z9F => k_asm); (case z9N => exact rdN_of (by k_asm) (by k_mem) (by walk_at "led_in3")); (case z9X => k_asm); (case z9T => k_asm); (case z9k => first | exact rfl | assumption); (case z9d => ktr_room); (case z9u => ktr_units); (case z9a1 => first | assumption | rfl | lia | decide); (case z9a2 => first | assumption | rfl | lia | decide); (case z9a3 => first | assumption | rfl | lia | decide); (case z9a4 => first | assumption | rfl | lia | decide); (case z9a5 => first | assumption | rfl | lia | decide); k_whole); intro t9 h9 tk9 F' N'; (dsimp only [rdL] at N'); (try k_sweep); (try dsimp only); (try k_fold)) | (k_here; (with_reducible show wpAny _ _ (call (Value.ref 288) _) _ _ _); k_dflt (refine' c_place ?z9a0 ?z9a1 ?z9a2 ?z9a4 ?z9a5 ?z9B ?z9F ?z9N ?z9X ?z9T ?z9k ?z9d ?z9u ?_; (case z9a0 => assumption); (case z9B => k_asm); (case z9F => k_asm); (case z9N => exact rdN_of (by k_asm) (by k_mem) (by walk_at "led_in3")); (case z9X => k_asm); (case z9T => k_asm); (case z9k => first | exact rfl | assumption); (case z9d => ktr_room); (case z9u => ktr_units); (case z9a1 => first | assumption | rfl | lia | decide); (case z9a2 => first | assumption | rfl | lia | decide); (case z9a4 => first | assumption | rfl | lia | decide); (case z9a5 => first | assumption | rfl | lia | decide); k_whole); intro t9 h9 tk9 F' N'; (dsimp only [rdL] at N'); (try k_sweep); (try dsimp only); (try k_fold)) | (k_here; (with_reducible show wpAny _ _ (call (Value.ref 52) _) _ _ _); k_dflt (refine' c_fault ?z9B ?z9F ?z9X ?z9T ?z9k ?z9d ?z9u ?_; (case z9B => k_asm); (case z9F => k_asm); (case z9X => k_asm); (case z9T => k_asm); (case z9k => first | exact rfl | assumption); (case z9d => ktr_room); (case z9u => ktr_units); k_whole); intro e9 h9 tk9 hX9) | (k_here; (with_reducible show wpAny _ _ (call (Value.ref 231) _) _ _ _); k_dflt (refine' c_is_day_name ?z9a1 ?z9a2 ?z9a3 ?z9B ?z9F ?z9X ?z9T ?z9k ?z9d ?z9u ?_; (case z9B => k_asm); (case z9F => k_asm); (case z9X => k_asm); (case z9T => k_asm); (case z9k => first | exact rfl | assumption); (case z9d => ktr_room); (case z9u => ktr_units); (case z9a1 => first | assumption | lia | decide); (case z9a2 => first | assumption | lia | decide); (case z9a3 => first | assumption | lia | decide); k_whole); intro h9 tk9 hK9; walk_at "m_after") | (k_here; (with_reducible show wpAny _ _ (call (Value.ref 226) _) _ _ _); k_dflt (refine' c_month_number ?z9a1 ?z9a2 ?z9a3 ?z9a4 ?z9B ?z9F ?z9X ?z9T ?z9k ?z9d ?z9u ?_; (case z9B => k_asm); (case z9F => k_asm); (case z9X => k_asm); (case z9T => k_asm); (case z9k => first | exact rfl | assumption); (case z9d => ktr_room); (case z9u => ktr_units); (case z9a1 => first | assumption | lia | decide); (case z9a2 => first | assumption | lia | decide); (case z9a3 => first | assumption | lia | decide); (case z9a4 => first | assumption | lia | decide); k_whole); intro t9 h9 tk9 hK9; walk_at "m_after") | (k_here; (with_reducible show wpAny _ _ (call (Value.ref 214) _) _ _ _); k_dflt (refine' c_is_time ?z9a1 ?z9B ?z9F ?z9X ?z9T ?z9k ?z9d ?z9u ?_; (case z9B => k_asm); (case z9F => k_asm); (case z9X => k_asm); (case z9T => k_asm); (case z9k => first | exact rfl | assumption); (case z9d => ktr_room); (case z9u => ktr_units); (case z9a1 => first | decide | lia); k_whole); intro h9 tk9 hK9; walk_at "m_after") | (k_here; (with_reducible show wpAny _ _ (call (Value.ref 328) _) _ _ _); k_dflt (refine' c_full_year ?z9B ?z9F ?z9X ?z9T ?z9k ?z9d ?z9u ?_; (case z9B => k_asm); (case z9F => k_asm); (case z9X => k_asm); (case z9T => k_asm); (case z9k => first | exact rfl | assumption); (case z9d => ktr_room); (case z9u => ktr_units); k_whole); intro t9 h9 tk9 hK9; walk_at "m_after") | (k_here; (with_reducible show wpAny _ _ (call (Value.ref 207) _) _ _ _); k_dflt (refine' c_is_day ?z9B ?z9F ?z9X ?z9T ?z9k ?z9d ?z9u ?_; (case z9B => k_asm); (case z9F => k_asm); (case z9X => k_asm); (case z9T => k_asm); (case z9k => first | exact rfl | assumption); (case z9d => ktr_room); (case z9u => ktr_units); k_whole); intro h9 tk9 hK9; walk_at "m_after")); k_steps)))
      (with_reducible rename News _ _ _ _ => NZ)
      (with_reducible rename Fr _ _ _ _ => FZ)
      k_dflt (refine' Stop.out ⟨rfl, _, _, ?u3, _, rfl, FZ, rfl, rdN_h (w := w) NZ ?hm3 ?hx3⟩)
      case hm3 => k_mem
      case hx3 => walk_at "led_in3"
  · rintro fl s' ⟨rfl, h3, tk3, t2', m', rfl, F3, hm3, N3⟩
    have F4 := fr_norm [(Str.ofString "reader", .ref x)] F3 (by simp [hm3])
    clear F3 hm3
    dsimp only [rdL] at N3
    have hne9 := hne
    clear hname
    have hlen9 : vs.length = Ts.length := (tokIn_get hI).1
    walk_at "m_fold"
    (k_steps; repeat (any_goals ((refine Stop.out ?_); (first | (k_here; (with_reducible show wpAny _ _ (call (Value.ref 342) _) _ _ _); k_dflt (refine' c_read_zone ?z9a0 ?z9a1 ?z9a2 ?z9a7 ?z9a8 ?z9B ?z9F ?z9N ?z9X ?z9T ?z9k ?z9d ?z9u ?_; (case z9a0 => assumption); (case z9B => k_asm); (case z9F => k_asm); (case z9N => exact rdN_of (by k_asm) (by k_mem) (by walk_at "led_in3")); (case z9X => k_asm); (case z9T => k_asm); (case z9k => first | exact rfl | assumption); (case z9d => ktr_room); (case z9u => ktr_units); (case z9a1 => first | assumption | rfl | lia | decide); (case z9a2 => first | assumption | rfl | lia | decide); (case z9a7 => first | assumption | rfl | lia | decide); (case z9a8 => first | assumption | rfl | lia | decide); k_whole); intro u91 t9 h9 tk9 F' N'; (dsimp only [rdL] at N'); (try k_sweep); (try dsimp only); (try k_fold)) | (k_here; (with_reducible show wpAny _ _ (call (Value.ref 335) _) _ _ _); k_dflt (refine' c_read_clock ?z9a0 ?z9a1 ?z9a2 ?z9a3 ?z9a4 ?z9a5 ?z9a6 ?z9a7 ?z9a8 ?z9B ?z9F ?z9N ?z9X ?z9T ?z9k ?z9d ?z9u ?_; (case z9a0 => assumption); (case z9B => k_asm); (case z9F => k_asm); (case z9N => exact rdN_of (by k_asm) (by k_mem) (by walk_at "led_in3")); (case z9X => k_asm); (case z9T => k_asm); (case z9k => first | exact rfl | assumption); (case z9d => ktr_room); (case z9u => ktr_units); (case z9a1 => first | assumption | rfl | lia | decide); (case z9a2 => first | assumption | rfl | lia | decide); (case z9a3 => first | assumption | rfl | lia | decide); (case z9a4 => first | assumption | rfl | lia | decide); (case z9a5 => first | assumption | rfl | lia | decide); (case z9a6 => first | assumption | rfl | lia | decide); (case z9a7 => first | assumption | rfl | lia | decide); (case z9a8 => first | assumption | rfl | lia | decide); k_whole); intro d9 u91 u92 u93 t9 h9 tk9 F' N'; (dsimp only [rdL] at N'); (try k_sweep); (try dsimp only); (try k_fold)) | (k_here; (with_reducible show wpAny _ _ (call (Value.ref 161) _) _ _ _); k_dflt (refine' c_moment ?z9B ?z9F ?z9X ?z9T ?z9k ?z9d ?z9u ?_; (case z9B => k_asm); (case z9F => k_asm); (case z9X => k_asm); (case z9T => k_asm); (case z9k => first | exact rfl | assumption); (case z9d => ktr_room); (case z9u => ktr_units); k_whole); intro x9 dx9 k91 k92 k93 k94 k95 k96 k97 h9 tk9 hK9 hx9 hd9 nx9 nd9; have N9 := news_add2 hK9 (by k_asm) (by k_asm) hx9 nx9 hd9 nd9; have F9 := Keeps.fr hK9 (by k_asm); clear hK9 hx9 hd9 nx9 nd9; (try k_sweep); (try dsimp only); (try k_fold)) | (k_here; (with_reducible show wpAny _ _ (call (Value.ref 307) [_, Value.int 2 _, _]) _ _ _); k_dflt (refine' c_numberB ?z9a0 ?z9a1 ?z9a2 ?z9a3 ?z9a4 ?z9a5 ?z9av ?z9a8 ?z9a9 ?z9B ?z9F ?z9N ?z9X ?z9T ?z9k ?z9d ?z9u ?z9hr ?z9hb; (case z9a0 => assumption); (case z9B => k_asm); (case z9F => k_asm); (case z9N => exact rdN_of (by k_asm) (by k_mem) (by walk_at "led_in3")); (case z9X => k_asm); (case z9T => k_asm); (case z9k => first | exact rfl | assumption); (case z9d => ktr_room); (case z9u => ktr_units); (case z9a1 => first | assumption | rfl | lia | decide); (case z9a2 => first | assumption | rfl | lia | decide); (case z9a3 => first | assumption | rfl | lia | decide); (case z9a4 => first | assumption | rfl | lia | decide); (case z9a5 => first | assumption | rfl | lia | decide); (case z9av => first | assumption | rfl | lia | decide); (case z9a8 => first | assumption | rfl | lia | decide); (case z9a9 => first | assumption | rfl | lia | decide); k_whole); (case' z9hr => (intro hs1 hs2 d9 u91 u92 t9 h9 tk9 F' N'; (dsimp only [rdL] at N'); (try k_sweep); (try dsimp only); (try k_fold))); (case' z9hb => (intro hs3 e9 h9 tk9 g9 F9g R' U'; (try dsimp only at R' U' ⊢)))) | (k_here; (with_reducible show wpAny _ _ (call (Value.ref 307) _) _ _ _); k_dflt (refine' c_numberV ?z9a0 ?z9a1 ?z9a2 ?z9a3 ?z9a4 ?z9a5 ?z9a6 ?z9a7 ?z9av ?z9a8 ?z9a9 ?z9B ?z9F ?z9N ?z9X ?z9T ?z9k ?z9d ?z9u ?_; (case z9a0 => assumption); (case z9B => k_asm); (case z9F => k_asm); (case z9N => exact rdN_of (by k_asm) (by k_mem) (by walk_at "led_in3")); (case z9X => k_asm); (case z9T => k_asm); (case z9k => first | exact rfl | assumption); (case z9d => ktr_room); (case z9u => ktr_units); (case z9a1 => first | assumption | rfl | lia | decide); (case z9a2 => first | assumption | rfl | lia | decide); (case z9a3 => first | assumption | rfl | lia | decide); (case z9a4 => first | assumption | rfl | lia | decide); (case z9a5 => first | assumption | rfl | lia | decide); (case z9a6 => first | assumption | rfl | lia | decide); (case z9a7 => first | assumption | rfl | lia | decide); (case z9av => first | assumption | rfl | lia | decide); (case z9a8 => first | assumption | rfl | lia | decide); (case z9a9 => first | assumption | rfl | lia | decide); k_whole); intro d9 u91 u92 t9 h9 tk9 F' N'; (dsimp only [rdL] at N'); (try k_sweep); (try dsimp only); (try k_fold)) | (k_here; (with_reducible show wpAny _ _ (call (Value.ref 314) _) _ _ _); (refine' c_need ?z9bb ?z9a0 ?z9B ?z9F ?z9N ?z9X ?z9T ?z9k ?z9d ?z9u ?_; (case z9bb => first | rfl | exact decide_eq_true (by lia)); (case z9a0 => assumption); (case z9B => k_asm); (case z9F => k_asm); (case z9N => exact rdN_of (by k_asm) (by k_mem) (by walk_at "led_in3")); (case z9X => k_asm); (case z9T => k_asm); (case z9k => first | exact rfl | assumption); (case z9d => ktr_room); (case z9u => ktr_units); k_whole); intro t9 h9 tk9 F' N'; (dsimp only [rdL] at N'); (try k_sweep); (try dsimp only); (try k_fold)) | (k_here; (with_reducible show wpAny _ _ (call (Value.ref 300) _) _ _ _); k_dflt (refine' c_skip_hit ?z9a0 ?z9a1 ?z9a2 ?z9a3 ?z9a4 ?z9a5 ?z9B ?z9F ?z9N ?z9X ?z9T ?z9k ?z9d ?z9u ?_; (case z9a0 => assumption); (case z9B => k_asm); (case z9F => k_asm); (case z9N => exact rdN_of (by k_asm) (by k_mem) (by walk_at "led_in3")); (case z9X => k_asm); (case z9T => k_asm); (case z9k => first | exact rfl | assumption); (case z9d => ktr_room); (case z9u => ktr_units); (case z9a1 => first | assumption | rfl | lia | decide); (case z9a2 => first | assumption | rfl | lia | decide); (case z9a3 => first | assumption | rfl | lia | decide); (case z9a4 => first | assumption | rfl | lia | decide); (case z9a5 => first | assumption | rfl | lia | decide); k_whole); intro t9 h9 tk9 F' N'; (dsimp only [rdL] at N'); (try k_sweep); (try dsimp only); (try k_fold)) | (k_here; (with_reducible show wpAny _ _ (call (Value.ref 300) _) _ _ _); k_dflt (refine' c_skip_miss ?z9a0 ?z9a1 ?z9a2 ?z9a4 ?z9a5 ?z9B ?z9F ?z9N ?z9X ?z9T ?z9k ?z9d ?z9u ?_; (case z9a0 => assumption); (case z9B => k_asm); (case z9F => k_asm); (case z9N => exact rdN_of (by k_asm) (by k_mem) (by walk_at "led_in3")); (case z9X => k_asm); (case z9T => k_asm); (case z9k => first | exact rfl | assumption); (case z9d => ktr_room); (case z9u => ktr_units); (case z9a1 => first | assumption | rfl | lia | decide); (case z9a2 => first | assumption | rfl | lia | decide); (case z9a4 => first | assumption | rfl | lia | decide); (case z9a5 => first | assumption | rfl | lia | decide); k_whole); intro h9 tk9 F' N'; (dsimp only [rdL] at N'); (try k_sweep); (try dsimp only); (try k_fold)) | (k_here; (with_reducible show wpAny _ _ (call (Value.ref 293) _) _ _ _); k_dflt (refine' c_atom ?z9a0 ?z9a1 ?z9a2 ?z9a3 ?z9a4 ?z9a5 ?z9B ?z9F ?z9N ?z9X ?z9T ?z9k ?z9d ?z9u ?_; (case z9a0 => assumption); (case z9B => k_asm); (case z9F => k_asm); (case z9N => exact rdN_of (by k_asm) (by k_mem) (by walk_at "led_in3")); (case z9X => k_asm); (case z9T => k_asm); (case z9k => first | exact rfl | assumption); (case z9d => ktr_room); (case z9u => ktr_units); (case z9a1 => first | assumption | rfl | lia | decide); (case z9a2 => first | assumption | rfl | lia | decide); (case z9a3 => first | assumption | rfl | lia | decide); (case z9a4 => first | assumption | rfl | lia | decide); (case z9a5 => first | assumption | rfl | lia | decide); k_whole); intro t9 h9 tk9 F' N'; (dsimp only [rdL] at N'); (try k_sweep); (try dsimp only); (try k_fold)) | (k_here; (with_reducible show wpAny _ _ (call (Value.ref 288) _) _ _ _); k_dflt (refine' c_place ?z9a0 ?z9a1 ?z9a2 ?z9a4 ?z9a5 ?z9B ?z9F ?z9N ?z9X ?z9T ?z9k ?z9d ?z9u ?_; (case z9a0 => assumption); (case z9B => k_asm); (case z9F => k_asm); (case z9N => exact rdN_of (by k_asm) (by k_mem) (by walk_at "led_in3")); (case z9X => k_asm); (case z9T => k_asm); (case z9k => first | exact rfl | assumption); (case z9d => ktr_room); (case z9u => ktr_units); (case z9a1 => first | assumption | rfl | lia | decide); (case z9a2 => first | assumption | rfl | lia | decide); (case z9a4 => first | assumption | rfl | lia | decide); (case z9a5 => first | assumption | rfl | lia | decide); k_whole); intro t9 h9 tk9 F' N'; (dsimp only [rdL] at N'); (try k_sweep); (try dsimp only); (try k_fold)) | (k_here; (with_reducible show wpAny _ _ (call (Value.ref 52) _) _ _ _); k_dflt (refine' c_fault ?z9B ?z9F ?z9X ?z9T ?z9k ?z9d ?z9u ?_; (case z9B => k_asm); (case z9F => k_asm); (case z9X => k_asm); (case z9T => k_asm); (case z9k => first | exact rfl | assumption); (case z9d => ktr_room); (case z9u => ktr_units); k_whole); intro e9 h9 tk9 hX9) | (k_here; (with_reducible show wpAny _ _ (call (Value.ref 231) _) _ _ _); k_dflt (refine' c_is_day_name ?z9a1 ?z9a2 ?z9a3 ?z9B ?z9F ?z9X ?z9T ?z9k ?z9d ?z9u ?_; (case z9B => k_asm); (case z9F => k_asm); (case z9X => k_asm); (case z9T => k_asm); (case z9k => first | exact rfl | assumption); (case z9d => ktr_room); (case z9u => ktr_units); (case z9a1 => first | assumption | lia | decide); (case z9a2 => first | assumption | lia | decide); (case z9a3 => first | assumption | lia | decide); k_whole); intro h9 tk9 hK9; walk_at "m_after") | (k_here; (with_reducible show wpAny _ _ (call (Value.ref 226) _) _ _ _); k_dflt (refine' c_month_number ?z9a1 ?z9a2 ?z9a3 ?z9a4 ?z9B ?z9F ?z9X ?z9T ?z9k ?z9d ?z9u ?_; (case z9B => k_asm); (case z9F => k_asm); (case z9X => k_asm); (case z9T => k_asm); (case z9k => first | exact rfl | assumption); (case z9d => ktr_room); (case z9u => ktr_units); (case z9a1 => first | assumption | lia | decide); (case z9a2 => first | assumption | lia | decide); (case z9a3 => first | assumption | lia | decide); (case z9a4 => first | assumption | lia | decide); k_whole); intro t9 h9 tk9 hK9; walk_at "m_after") | (k_here; (with_reducible show wpAny _ _ (call (Value.ref 214) _) _ _ _); k_dflt (refine' c_is_time ?z9a1 ?z9B ?z9F ?z9X ?z9T ?z9k ?z9d ?z9u ?_; (case z9B => k_asm); (case z9F => k_asm); (case z9X => k_asm); (case z9T => k_asm); (case z9k => first | exact rfl | assumption); (case z9d => ktr_room); (case z9u => ktr_units); (case z9a1 => first | decide | lia); k_whole); intro h9 tk9 hK9; walk_at "m_after") | (k_here; (with_reducible show wpAny _ _ (call (Value.ref 328) _) _ _ _); k_dflt (refine' c_full_year ?z9B ?z9F ?z9X ?z9T ?z9k ?z9d ?z9u ?_; (case z9B => k_asm); (case z9F => k_asm); (case z9X => k_asm); (case z9T => k_asm); (case z9k => first | exact rfl | assumption); (case z9d => ktr_room); (case z9u => ktr_units); k_whole); intro t9 h9 tk9 hK9; walk_at "m_after") | (k_here; (with_reducible show wpAny _ _ (call (Value.ref 207) _) _ _ _); k_dflt (refine' c_is_day ?z9B ?z9F ?z9X ?z9T ?z9k ?z9d ?z9u ?_; (case z9B => k_asm); (case z9F => k_asm); (case z9X => k_asm); (case z9T => k_asm); (case z9k => first | exact rfl | assumption); (case z9d => ktr_room); (case z9u => ktr_units); k_whole); intro h9 tk9 hK9; walk_at "m_after")); k_steps)))
    · (with_reducible rename RaisedN _ _ _ _ _ _ => RZ)
      (with_reducible rename Heap.UpToSlots _ _ => UZ)
      exact hbad _ _ _ _ (hs3.elim (fun q => .inl (Int.ofNat_lt.mp q)) fun q => .inr (.inl (Int.ofNat_lt.mp q))) (by assumption) (raisedN_nil RZ) UZ
    · (rename News g L1 _ _ => NZ)
      k_dflt (refine' hret _ _ _ (Int.ofNat_le.mp hs1) (Int.ofNat_le.mp hs2) (by assumption) ?wkk (mom_new (w := w) hKG NZ ?wi1 ?wi2))
      case wi1 => k_mem
      case wi2 => k_mem
      case wkk => exact hKG.trans (Fr.keep (L := L1) (h₀ := g) (by k_asm))
    · (with_reducible rename Fr _ _ _ _ => FZ)
      (with_reducible rename Frag.In _ _ => XZ)
      refine raise_ex (w := w) (by assumption) (XZ.keeps FZ.keep) ?_
      (k_steps; repeat (any_goals ((refine Stop.out ?_); (first | (k_here; (with_reducible show wpAny _ _ (call (Value.ref 342) _) _ _ _); k_dflt (refine' c_read_zone ?z9a0 ?z9a1 ?z9a2 ?z9a7 ?z9a8 ?z9B ?z9F ?z9N ?z9X ?z9T ?z9k ?z9d ?z9u ?_; (case z9a0 => assumption); (case z9B => k_asm); (case z9F => k_asm); (case z9N => exact rdN_of (by k_asm) (by k_mem) (by walk_at "led_in3")); (case z9X => k_asm); (case z9T => k_asm); (case z9k => first | exact rfl | assumption); (case z9d => ktr_room); (case z9u => ktr_units); (case z9a1 => first | assumption | rfl | lia | decide); (case z9a2 => first | assumption | rfl | lia | decide); (case z9a7 => first | assumption | rfl | lia | decide); (case z9a8 => first | assumption | rfl | lia | decide); k_whole); intro u91 t9 h9 tk9 F' N'; (dsimp only [rdL] at N'); (try k_sweep); (try dsimp only); (try k_fold)) | (k_here; (with_reducible show wpAny _ _ (call (Value.ref 335) _) _ _ _); k_dflt (refine' c_read_clock ?z9a0 ?z9a1 ?z9a2 ?z9a3 ?z9a4 ?z9a5 ?z9a6 ?z9a7 ?z9a8 ?z9B ?z9F ?z9N ?z9X ?z9T ?z9k ?z9d ?z9u ?_; (case z9a0 => assumption); (case z9B => k_asm); (case z9F => k_asm); (case z9N => exact rdN_of (by k_asm) (by k_mem) (by walk_at "led_in3")); (case z9X => k_asm); (case z9T => k_asm); (case z9k => first | exact rfl | assumption); (case z9d => ktr_room); (case z9u => ktr_units); (case z9a1 => first | assumption | rfl | lia | decide); (case z9a2 => first | assumption | rfl | lia | decide); (case z9a3 => first | assumption | rfl | lia | decide); (case z9a4 => first | assumption | rfl | lia | decide); (case z9a5 => first | assumption | rfl | lia | decide); (case z9a6 => first | assumption | rfl | lia | decide); (case z9a7 => first | assumption | rfl | lia | decide); (case z9a8 => first | assumption | rfl | lia | decide); k_whole); intro d9 u91 u92 u93 t9 h9 tk9 F' N'; (dsimp only [rdL] at N'); (try k_sweep); (try dsimp only); (try k_fold)) | (k_here; (with_reducible show wpAny _ _ (call (Value.ref 161) _) _ _ _); k_dflt (refine' c_moment ?z9B ?z9F ?z9X ?z9T ?z9k ?z9d ?z9u ?_; (case z9B => k_asm); (case z9F => k_asm); (case z9X => k_asm); (case z9T => k_asm); (case z9k => first | exact rfl | assumption); (case z9d => ktr_room); (case z9u => ktr_units); k_whole); intro x9 dx9 k91 k92 k93 k94 k95 k96 k97 h9 tk9 hK9 hx9 hd9 nx9 nd9; have N9 := news_add2 hK9 (by k_asm) (by k_asm) hx9 nx9 hd9 nd9; have F9 := Keeps.fr hK9 (by k_asm); clear hK9 hx9 hd9 nx9 nd9; (try k_sweep); (try dsimp only); (try k_fold)) | (k_here; (with_reducible show wpAny _ _ (call (Value.ref 307) [_, Value.int 2 _, _]) _ _ _); k_dflt (refine' c_numberB ?z9a0 ?z9a1 ?z9a2 ?z9a3 ?z9a4 ?z9a5 ?z9av ?z9a8 ?z9a9 ?z9B ?z9F ?z9N ?z9X ?z9T ?z9k ?z9d ?z9u ?z9hr ?z9hb; (case z9a0 => assumption); (case z9B => k_asm); (case z9F => k_asm); (case z9N => exact rdN_of (by k_asm) (by k_mem) (by walk_at "led_in3")); (case z9X => k_asm); (case z9T => k_asm); (case z9k => first | exact rfl | assumption); (case z9d => ktr_room); (case z9u => ktr_units); (case z9a1 => first | assumption | rfl | lia | decide); (case z9a2 => first | assumption | rfl | lia | decide); (case z9a3 => first | assumption | rfl | lia | decide); (case z9a4 => first | assumption | rfl | lia | decide); (case z9a5 => first | assumption | rfl | lia | decide); (case z9av => first | assumption | rfl | lia | decide); (case z9a8 => first | assumption | rfl | lia | decide); (case z9a9 => first | assumption | rfl | lia | decide); k_whole); (case' z9hr => (intro hs1 hs2 d9 u91 u92 t9 h9 tk9 F' N'; (dsimp only [rdL] at N'); (try k_sweep); (try dsimp only); (try k_fold))); (case' z9hb => (intro hs3 e9 h9 tk9 g9 F9g R' U'; (try dsimp only at R' U' ⊢)))) | (k_here; (with_reducible show wpAny _ _ (call (Value.ref 307) _) _ _ _); k_dflt (refine' c_numberV ?z9a0 ?z9a1 ?z9a2 ?z9a3 ?z9a4 ?z9a5 ?z9a6 ?z9a7 ?z9av ?z9a8 ?z9a9 ?z9B ?z9F ?z9N ?z9X ?z9T ?z9k ?z9d ?z9u ?_; (case z9a0 => assumption); (case z9B => k_asm); (case z9F => k_asm); (case z9N => exact rdN_of (by k_asm) (by k_mem) (by walk_at "led_in3")); (case z9X => k_asm); (case z9T => k_asm); (case z9k => first | exact rfl | assumption); (case z9d => ktr_room); (case z9u => ktr_units); (case z9a1 => first | assumption | rfl | lia | decide); (case z9a2 => first | assumption | rfl | lia | decide); (case z9a3 => first | assumption | rfl | lia | decide); (case z9a4 => first | assumption | rfl | lia | decide); (case z9a5 => first | assumption | rfl | lia | decide); (case z9a6 => first | assumption | rfl | lia | decide); (case z9a7 => first | assumption | rfl | lia | decide); (case z9av => first | assumption | rfl | lia | decide); (case z9a8 => first | assumption | rfl | lia | decide); (case z9a9 => first | assumption | rfl | lia | decide); k_whole); intro d9 u91 u92 t9 h9 tk9 F' N'; (dsimp only [rdL] at N'); (try k_sweep); (try dsimp only); (try k_fold)) | (k_here; (with_reducible show wpAny _ _ (call (Value.ref 314) _) _ _ _); (refine' c_need ?z9bb ?z9a0 ?z9B ?z9F ?z9N ?z9X ?z9T ?z9k ?z9d ?z9u ?_; (case z9bb => first | rfl | exact decide_eq_true (by lia)); (case z9a0 => assumption); (case z9B => k_asm); (case z9F => k_asm); (case z9N => exact rdN_of (by k_asm) (by k_mem) (by walk_at "led_in3")); (case z9X => k_asm); (case z9T => k_asm); (case z9k => first | exact rfl | assumption); (case z9d => ktr_room); (case z9u => ktr_units); k_whole); intro t9 h9 tk9 F' N'; (dsimp only [rdL] at N'); (try k_sweep); (try dsimp only); (try k_fold)) | (k_here; (with_reducible show wpAny _ _ (call (Value.ref 300) _) _ _ _); k_dflt (refine' c_skip_hit ?z9a0 ?z9a1 ?z9a2 ?z9a3 ?z9a4 ?z9a5 ?z9B ?z9F ?z9N ?z9X ?z9T ?z9k ?z9d ?z9u ?_; (case z9a0 => assumption); (case z9B => k_asm); (case z9F => k_asm); (case z9N => exact rdN_of (by k_asm) (by k_mem) (by walk_at "led_in3")); (case z9X => k_asm); (case z9T => k_asm); (case z9k => first | exact rfl | assumption); (case z9d => ktr_room); (case z9u => ktr_units); (case z9a1 => first | assumption | rfl | lia | decide); (case z9a2 => first | assumption | rfl | lia | decide); (case z9a3 => first | assumption | rfl | lia | decide); (case z9a4 => first | assumption | rfl | lia | decide); (case z9a5 => first | assumption | rfl | lia | decide); k_whole); intro t9 h9 tk9 F' N'; (dsimp only [rdL] at N'); (try k_sweep); (try dsimp only); (try k_fold)) | (k_here; (with_reducible show wpAny _ _ (call (Value.ref 300) _) _ _ _); k_dflt (refine' c_skip_miss ?z9a0 ?z9a1 ?z9a2 ?z9a4 ?z9a5 ?z9B ?z9F ?z9N ?z9X ?z9T ?z9k ?z9d ?z9u ?_; (case z9a0 => assumption); (case z9B => k_asm); (case z9F => k_asm); (case z9N => exact rdN_of (by k_asm) (by k_mem) (by walk_at "led_in3")); (case z9X => k_asm); (case z9T => k_asm); (case z9k => first | exact rfl | assumption); (case z9d => ktr_room); (case z9u => ktr_units); (case z9a1 => first | assumption | rfl | lia | decide); (case z9a2 => first | assumption | rfl | lia | decide); (case z9a4 => first | assumption | rfl | lia | decide); (case z9a5 => first | assumption | rfl | lia | decide); k_whole); intro h9 tk9 F' N'; (dsimp only [rdL] at N'); (try k_sweep); (try dsimp only); (try k_fold)) | (k_here; (with_reducible show wpAny _ _ (call (Value.ref 293) _) _ _ _); k_dflt (refine' c_atom ?z9a0 ?z9a1 ?z9a2 ?z9a3 ?z9a4 ?z9a5 ?z9B ?z9F ?z9N ?z9X ?z9T ?z9k ?z9d ?z9u ?_; (case z9a0 => assumption); (case z9B => k_asm); (case z9F => k_asm); (case z9N => exact rdN_of (by k_asm) (by k_mem) (by walk_at "led_in3")); (case z9X => k_asm); (case z9T => k_asm); (case z9k => first | exact rfl | assumption); (case z9d => ktr_room); (case z9u => ktr_units); (case z9a1 => first | assumption | rfl | lia | decide); (case z9a2 => first | assumption | rfl | lia | decide); (case z9a3 => first | assumption | rfl | lia | decide); (case z9a4 => first | assumption | rfl | lia | decide); (case z9a5 => first | assumption | rfl | lia | decide); k_whole); intro t9 h9 tk9 F' N'; (dsimp only [rdL] at N'); (try k_sweep); (try dsimp only); (try k_fold)) | (k_here; (with_reducible show wpAny _ _ (call (Value.ref 288) _) _ _ _); k_dflt (refine' c_place ?z9a0 ?z9a1 ?z9a2 ?z9a4 ?z9a5 ?z9B ?z9F ?z9N ?z9X ?z9T ?z9k ?z9d ?z9u ?_; (case z9a0 => assumption); (case z9B => k_asm); (case z9F => k_asm); (case z9N => exact rdN_of (by k_asm) (by k_mem) (by walk_at "led_in3")); (case z9X => k_asm); (case z9T => k_asm); (case z9k => first | exact rfl | assumption); (case z9d => ktr_room); (case z9u => ktr_units); (case z9a1 => first | assumption | rfl | lia | decide); (case z9a2 => first | assumption | rfl | lia | decide); (case z9a4 => first | assumption | rfl | lia | decide); (case z9a5 => first | assumption | rfl | lia | decide); k_whole); intro t9 h9 tk9 F' N'; (dsimp only [rdL] at N'); (try k_sweep); (try dsimp only); (try k_fold)) | (k_here; (with_reducible show wpAny _ _ (call (Value.ref 52) _) _ _ _); k_dflt (refine' c_fault ?z9B ?z9F ?z9X ?z9T ?z9k ?z9d ?z9u ?_; (case z9B => k_asm); (case z9F => k_asm); (case z9X => k_asm); (case z9T => k_asm); (case z9k => first | exact rfl | assumption); (case z9d => ktr_room); (case z9u => ktr_units); k_whole); intro e9 h9 tk9 hX9) | (k_here; (with_reducible show wpAny _ _ (call (Value.ref 231) _) _ _ _); k_dflt (refine' c_is_day_name ?z9a1 ?z9a2 ?z9a3 ?z9B ?z9F ?z9X ?z9T ?z9k ?z9d ?z9u ?_; (case z9B => k_asm); (case z9F => k_asm); (case z9X => k_asm); (case z9T => k_asm); (case z9k => first | exact rfl | assumption); (case z9d => ktr_room); (case z9u => ktr_units); (case z9a1 => first | assumption | lia | decide); (case z9a2 => first | assumption | lia | decide); (case z9a3 => first | assumption | lia | decide); k_whole); intro h9 tk9 hK9; walk_at "m_after") | (k_here; (with_reducible show wpAny _ _ (call (Value.ref 226) _) _ _ _); k_dflt (refine' c_month_number ?z9a1 ?z9a2 ?z9a3 ?z9a4 ?z9B ?z9F ?z9X ?z9T ?z9k ?z9d ?z9u ?_; (case z9B => k_asm); (case z9F => k_asm); (case z9X => k_asm); (case z9T => k_asm); (case z9k => first | exact rfl | assumption); (case z9d => ktr_room); (case z9u => ktr_units); (case z9a1 => first | assumption | lia | decide); (case z9a2 => first | assumption | lia | decide); (case z9a3 => first | assumption | lia | decide); (case z9a4 => first | assumption | lia | decide); k_whole); intro t9 h9 tk9 hK9; walk_at "m_after") | (k_here; (with_reducible show wpAny _ _ (call (Value.ref 214) _) _ _ _); k_dflt (refine' c_is_time ?z9a1 ?z9B ?z9F ?z9X ?z9T ?z9k ?z9d ?z9u ?_; (case z9B => k_asm); (case z9F => k_asm); (case z9X => k_asm); (case z9T => k_asm); (case z9k => first | exact rfl | assumption); (case z9d => ktr_room); (case z9u => ktr_units); (case z9a1 => first | decide | lia); k_whole); intro h9 tk9 hK9; walk_at "m_after") | (k_here; (with_reducible show wpAny _ _ (call (Value.ref 328) _) _ _ _); k_dflt (refine' c_full_year ?z9B ?z9F ?z9X ?z9T ?z9k ?z9d ?z9u ?_; (case z9B => k_asm); (case z9F => k_asm); (case z9X => k_asm); (case z9T => k_asm); (case z9k => first | exact rfl | assumption); (case z9d => ktr_room); (case z9u => ktr_units); k_whole); intro t9 h9 tk9 hK9; walk_at "m_after") | (k_here; (with_reducible show wpAny _ _ (call (Value.ref 207) _) _ _ _); k_dflt (refine' c_is_day ?z9B ?z9F ?z9X ?z9T ?z9k ?z9d ?z9u ?_; (case z9B => k_asm); (case z9F => k_asm); (case z9X => k_asm); (case z9T => k_asm); (case z9k => first | exact rfl | assumption); (case z9d => ktr_room); (case z9u => ktr_units); k_whole); intro h9 tk9 hK9; walk_at "m_after")); k_steps)))
      (with_reducible rename RaisedN _ _ _ _ _ _ => RZ)
      (with_reducible rename Heap.UpToSlots _ _ => UZ)
      exact hbad _ _ _ _ (.inr (.inr (by assumption))) (by assumption) (raisedN_nil RZ) UZ
open NumText
theorem dg_all {n : Int} (h0 : 0 ≤ n) : AllDigits (Str.ofString (toString n)).cps.toList := by
  obtain ⟨m, rfl⟩ := Int.eq_ofNat_of_zero_le h0
  intro c hc
  rw [KIN.signs_num] at hc
  obtain ⟨ch, hch, e⟩ := List.mem_map.mp hc
  have r := digit_range (Nat.isDigit_of_mem_toDigits (by decide) (by decide) hch)
  rw [← e]
  exact r
theorem dg_val {n : Int} (h0 : 0 ≤ n) : ((digitsVal (Str.ofString (toString n)).cps.toList : Nat) : Int) = n := by
  obtain ⟨m, rfl⟩ := Int.eq_ofNat_of_zero_le h0
  rw [KIN.signs_num, KIN.val_back]
theorem dg_pos {n : Int} (h0 : 0 ≤ n) : 1 ≤ (Str.ofString (toString n)).cps.size := KLn.one_le h0
theorem dg_le {n : Int} (h0 : 0 ≤ n) {k : Nat} (hk : 0 < k) (h : n < 10 ^ k) : (Str.ofString (toString n)).cps.size ≤ k := toString_length_le h0 hk h
theorem val_zeros (z : Nat) (l : List Nat) : digitsVal (List.replicate z 48 ++ l) = digitsVal l := by
  induction z with
  | zero => rfl
  | succ z ih => rw [List.replicate_succ, List.cons_append]; exact ih
theorem app_list (x y : Str) : (x ++ y).cps.toList = x.cps.toList ++ y.cps.toList := by rw [PySem.Str.cps_append, Array.toList_append]
theorem is_y {y : Int} (h0 : 0 ≤ y) (h1 : y ≤ 9999) : (padS y 4).cps.size = 4 ∧ (∀ c ∈ (padS y 4).cps.toList, 48 ≤ c ∧ c ≤ 57) ∧ ((digitsVal (padS y 4).cps.toList : Nat) : Int) = y := by
  have e1 := dg_pos h0
  have e2 := dg_le h0 (k := 4) (by decide) (by lia)
  have e3 := dg_all h0
  have e4 := dg_val h0
  have key : ∃ z : Nat, (padS y 4).cps.toList = List.replicate z 48 ++ (Str.ofString (toString y)).cps.toList ∧ z + (Str.ofString (toString y)).cps.size = 4 := by
    unfold padS
    have hl : (Str.ofString (toString y)).length = (Str.ofString (toString y)).cps.size := rfl
    rw [hl, app_list]
    generalize (Str.ofString (toString y)).cps.size = l at e1 e2
    match l, e1, e2 with
    | 1, _, _ => exact ⟨3, by rw [show (Txt.mul (Str.ofString "0") (4 - ((1 : Nat) : Int))).cps.toList = List.replicate 3 48 by decide], rfl⟩
    | 2, _, _ => exact ⟨2, by rw [show (Txt.mul (Str.ofString "0") (4 - ((2 : Nat) : Int))).cps.toList = List.replicate 2 48 by decide], rfl⟩
    | 3, _, _ => exact ⟨1, by rw [show (Txt.mul (Str.ofString "0") (4 - ((3 : Nat) : Int))).cps.toList = List.replicate 1 48 by decide], rfl⟩
    | 4, _, _ => exact ⟨0, by rw [show (Txt.mul (Str.ofString "0") (4 - ((4 : Nat) : Int))).cps.toList = List.replicate 0 48 by decide], rfl⟩
  obtain ⟨z, k1, k2⟩ := key
  refine ⟨?_, fun c hc => ?_, by rw [k1, val_zeros]; exact e4⟩
  · rw [← Array.length_toList, k1, List.length_append, List.length_replicate, Array.length_toList]; exact k2
  · rw [k1] at hc
    rcases List.mem_append.mp hc with hc | hc
    · rw [(List.mem_replicate.mp hc).2]; decide
    · exact e3 c hc
theorem is_d {y : Int} (h0 : 0 ≤ y) (h1 : y ≤ 31) : 1 ≤ (Str.ofString (toString y)).cps.size ∧ (Str.ofString (toString y)).cps.size ≤ 2 ∧ (∀ c ∈ (Str.ofString (toString y)).cps.toList, 48 ≤ c ∧ c ≤ 57) ∧ ((digitsVal (Str.ofString (toString y)).cps.toList : Nat) : Int) = y :=
  ⟨dg_pos h0, dg_le h0 (k := 2) (by decide) (by lia), dg_all h0, dg_val h0⟩
theorem len_d {y : Int} (h0 : 0 ≤ y) (h1 : y ≤ 31) : 1 ≤ (Str.ofString (toString y)).length ∧ (Str.ofString (toString y)).length ≤ 2 := ⟨(is_d h0 h1).1, (is_d h0 h1).2.1⟩
theorem len_y {y : Int} (h0 : 0 ≤ y) (h1 : y ≤ 9999) : (padS y 4).length = 4 := (is_y h0 h1).1

def codes (x : Str) : List Int := x.cps.toList.map Int.ofNat
theorem codes_app (x y : Str) : codes (x ++ y) = codes x ++ codes y := by unfold codes; rw [app_list, List.map_append]
def atk (x : Str) (pos : Int) : Tk := ⟨true, codes x, pos⟩
structure Word (x : Str) : Prop where
  ne : 0 < x.cps.size
  at_ : ∀ k ∈ codes x, atomB k = true
  hd : ∀ k ∈ codes x, signB k = false ∧ k ≠ 34 ∧ k ≠ 91 ∧ k ≠ 40
def Lx (i : Int) (rem : List Int) (Ts : List Tk) : Prop := ∀ ks : List Int, 0 ≤ i → ks.drop i.toNat = rem → i.toNat + rem.length = ks.length → Lex ks i Ts
theorem lx_nil {i : Int} : Lx i [] [] := fun ks h0 hd hl => by
  have e : i = ks.length := by simp only [List.length_nil] at hl; lia
  subst e
  exact .done
theorem drop_more {ks a r : List Int} {i : Int} (h0 : 0 ≤ i) (hd : ks.drop i.toNat = a ++ r) : ks.drop (i + a.length).toNat = r := by
  rw [show (i + a.length).toNat = i.toNat + a.length by lia, ← List.drop_drop, hd, List.drop_left]
theorem lx_word {i : Int} {x : Str} {ws r : List Int} {Ts : List Tk} (hx : Word x) (hs : ∀ k ∈ (ws ++ r).head?, atomB k = false) (hw : ∀ k ∈ ws, k = 32) (hr : ∀ k ∈ r.head?, k ≠ 32 ∧ k ≠ 9 ∧ k ≠ 10 ∧ k ≠ 13)
    (h : Lx (i + x.cps.size + ws.length) r Ts) : Lx i (codes x ++ (ws ++ r)) (atk x i :: Ts) := fun ks h0 hd hl => by
  have hlen : (codes x).length = x.cps.size := by simp [codes]
  have d1 := drop_more h0 hd
  rw [hlen] at d1
  have d2 := drop_more (i := i + x.cps.size) (by lia) d1
  have e1 : codes x ≠ [] := fun e => by rw [e] at hlen; have := hx.ne; simp at hlen; lia
  obtain ⟨k, al, ek⟩ : ∃ k al, codes x = k :: al := by cases q : codes x with | nil => exact absurd q e1 | cons k al => exact ⟨k, al, rfl⟩
  simp only [List.length_append, hlen] at hl
  have hn : al.length + 1 = x.cps.size := by rw [← hlen, ek]; rfl
  have hh := hx.hd k (by rw [ek]; exact .head _)
  have st : TokStep ks i (atk x i) (al.length + 1) := by
    unfold atk
    rw [ek]
    exact .atom (by rw [hd, ek]) hh.1 (fun y hy => hx.at_ y (by rw [ek]; exact hy)) hs hh.2.1 hh.2.2.1 hh.2.2.2
  have e2 : i + ((al.length + 1 : Nat) : Int) = i + x.cps.size := by lia
  refine Lex.step h0 st (ws := ws) (r := r) (by rw [e2]; exact d1) (by rw [e2]; lia) hw hr ?_
  rw [e2]
  exact h ks (by lia) d2 (by lia)
theorem lx_sign {i k : Int} {ws r : List Int} {Ts : List Tk} (hk : signB k = true) (h1 : k ≠ 34) (h2 : k ≠ 91) (h3 : k ≠ 40) (hw : ∀ k ∈ ws, k = 32) (hr : ∀ k ∈ r.head?, k ≠ 32 ∧ k ≠ 9 ∧ k ≠ 10 ∧ k ≠ 13)
    (h : Lx (i + 1 + ws.length) r Ts) : Lx i ([k] ++ (ws ++ r)) (⟨false, [k], i⟩ :: Ts) := fun ks h0 hd hl => by
  have d1 := drop_more h0 hd
  have d2 := drop_more (i := i + ([k] : List Int).length) (by simp; lia) d1
  simp only [List.length_append, List.length_cons, List.length_nil] at hl
  have st : TokStep ks i ⟨false, [k], i⟩ 1 := .sign hd hk h1 h2 h3
  refine Lex.step h0 st (ws := ws) (r := r) d1 (by lia) hw hr ?_
  exact h ks (by lia) d2 (by lia)

def wtext (dn mn : Str) (d y : Int) : Str := Txt.join (Str.ofString " ") [dn ++ Str.ofString ",", Str.ofString (toString d), mn, padS y 4, Str.ofString "01:02:03 +0405"]

theorem wtext_list (dn mn : Str) (d y : Int) : (wtext dn mn d y).cps.toList = (dn.cps.toList ++ [44]) ++ [32] ++ (Str.ofString (toString d)).cps.toList ++ [32] ++ mn.cps.toList ++ [32] ++ (padS y 4).cps.toList ++ [32] ++ (Str.ofString "01:02:03 +0405").cps.toList := by
  have e1 : (Str.ofString " ").cps = #[32] := by decide
  have e2 : (dn ++ Str.ofString ",").cps.toList = dn.cps.toList ++ [44] := by rw [app_list]; rfl
  show ((((((dn ++ Str.ofString ",").cps ++ (Str.ofString " ").cps ++ (Str.ofString (toString d)).cps) ++ (Str.ofString " ").cps ++ mn.cps) ++ (Str.ofString " ").cps ++ (padS y 4).cps) ++ (Str.ofString " ").cps ++ (Str.ofString "01:02:03 +0405").cps)).toList = _
  rw [e1]
  simp only [Array.toList_append, e2]
theorem names_ok : ∀ x ∈ dayN ++ monN, x.cps.size = 3 ∧ ∀ c ∈ x.cps.toList, c < 128 := by decide +kernel
theorem wtext_ok {dn mn : Str} {d y : Int} (hdn : dn ∈ dayN) (hmn : mn ∈ monN) (h0 : 0 ≤ d) (h1 : d ≤ 31) (h2 : 0 ≤ y) (h3 : y ≤ 9999) : (wtext dn mn d y).cps.size ≤ 40 ∧ ∀ c ∈ (wtext dn mn d y).cps.toList, c < 128 := by
  obtain ⟨a1, a2⟩ := names_ok dn (List.mem_append_left _ hdn)
  obtain ⟨b1, b2⟩ := names_ok mn (List.mem_append_right _ hmn)
  obtain ⟨c1, c2, c3, _⟩ := is_d h0 h1
  obtain ⟨d1, d2, _⟩ := is_y h2 h3
  have ez : ((Str.ofString "01:02:03 +0405").cps.toList).length = 14 ∧ ∀ c ∈ (Str.ofString "01:02:03 +0405").cps.toList, c < 128 := by decide
  refine ⟨?_, fun c hc => ?_⟩
  · rw [← Array.length_toList, wtext_list]
    simp only [List.length_append, Array.length_toList, List.length_cons, List.length_nil, ez.1] at ez ⊢
    have := ez.1
    lia
  · rw [wtext_list] at hc
    simp only [List.mem_append, List.mem_singleton] at hc
    rcases hc with (((((((((hc | hc) | hc) | hc) | hc) | hc) | hc) | hc) | hc) | hc)
    · exact a2 c hc
    · lia
    · lia
    · have := c3 c hc; lia
    · lia
    · exact b2 c hc
    · lia
    · have := d2 c hc; lia
    · lia
    · exact ez.2 c hc
theorem codes_in {x : Str} (h : ∀ c ∈ x.cps.toList, c < 128) : KBa.In (codes x) := fun n hn => by
  obtain ⟨c, hc, rfl⟩ := List.mem_map.mp hn
  have := h c hc
  exact ⟨Int.natCast_nonneg _, by show (c : Int) < 256; lia⟩
theorem tab_item {A : Around} {K : Frag} {value slice : PySem.Expr} {a : Addr} {l : List Value} {n : Nat} {ys : List Str} {k : Int} {u : Tok} {Q : Value → Shared → Prop} (F : Fr h₀ L s.heap m) (X : K.In h₀) (hl : K.lookup a = some ⟨.type "tuple", none, .seq l.toArray n, #[]⟩) (hi : StrsAre l ys)
    (h0 : 0 ≤ k) (hk : k < ys.length) (hfit : k < 2 ^ 63) (h : ∀ t' x, ys[k.toNat]? = some x → Q (.str x t') s)
    (hs : subscripted slice false (.ref a) (.int k u) = operate [.ref a, .int k u] (getItem (.ref a) (.int k u)) := by with_unfolding_all rfl) (hg : ∀ r, letTemporaryGo value (.ref a) r = pure () := by intro _; with_unfolding_all rfl) :
    wpAny (model prog w) A (subscriptTail value slice (.ref a) (.int k u)) Q E s :=
  item_strsTu ⟨_, (X.keeps F.keep) _ _ hl, rfl, _, rfl⟩ hi h0 hk hfit (fun t' => h t' _ (by
    have hlt : k.toNat < ys.length := by lia
    simp [List.getD, hlt])) hs hg
theorem mon_len {k : Nat} {x : Str} (h : monN[k]? = some x) : x.length ≤ 3 :=
  (show ∀ y ∈ monN, y.length ≤ 3 by decide +kernel) x (List.mem_of_getElem? h)
theorem day_len {k : Nat} {x : Str} (h : dayN[k]? = some x) : x.length ≤ 3 :=
  (show ∀ y ∈ dayN, y.length ≤ 3 by decide +kernel) x (List.mem_of_getElem? h)
theorem m_addS {A : Around} {x y : Str} {t u : Tok} {Q : Value → Shared → Prop} {K L : Nat} (hx : x.length ≤ K) (hy : y.length ≤ L) (hs : K + L ≤ 16777216) (h : ∀ t' k, (x ++ y).length ≤ K + L → Q (.str (x ++ y) t') { s with toks := k }) : wpAny (model prog w) A (binaryOp .Add (.str x t) (.str y u)) Q E s :=
  KXadd.add hx hy hs fun t' k hl => h t' k (by lia)
local macro_rules | `(tactic| walk_at "binaryOp Add str str") => `(tactic| (k_here; (with_reducible show wpAny _ _ (binaryOp Operator.Add (Value.str _ _) (Value.str _ _)) _ _ _); (refine' m_addS ?kxaa ?kxab ?kxac ?_; (case kxaa => first | assumption | exact Nat.le_refl _); (case kxab => first | assumption | exact Nat.le_refl _); (case kxac => decide)); intro t8 k8 hl8))
local macro_rules | `(tactic| walk_at "subscriptTail") => `(tactic| (k_here; (with_reducible show wpAny _ _ (subscriptTail _ _ (Value.ref 136) (Value.int _ _)) _ _ _); (obtain ⟨vs8, n8, hl8, hi8⟩ := months_K w.params); k_dflt (refine' tab_item ?F ?X hl8 hi8 ?k1 ?k2 ?k3 ?_ ?k5 ?k6; (case F => k_asm); (case X => k_asm); (case k1 => lia); (case k2 => (show _ < ((12 : Nat) : Int); lia)); (case k3 => lia); (case k5 => with_unfolding_all rfl); (case k6 => (intro _; with_unfolding_all rfl)); k_whole); intro t8 mn9 hmn9; (have hml9 := mon_len hmn9)))
local macro_rules | `(tactic| walk_at "subscriptTail") => `(tactic| (k_here; (with_reducible show wpAny _ _ (subscriptTail _ _ (Value.ref 137) (Value.int _ _)) _ _ _); (obtain ⟨vs8, n8, hl8, hi8⟩ := days_K w.params); k_dflt (refine' tab_item ?F ?X hl8 hi8 ?k1 ?k2 ?k3 ?_ ?k5 ?k6; (case F => k_asm); (case X => k_asm); (case k1 => lia); (case k2 => (show _ < ((7 : Nat) : Int); lia)); (case k3 => lia); (case k5 => with_unfolding_all rfl); (case k6 => (intro _; with_unfolding_all rfl)); k_whole); intro t8 dn9 hdn9; (have hdl9 := day_len hdn9)))

theorem c_write_date {x : Addr} {y mo d : Int} (hM : MomAt w s.heap x y mo d) (hok : dayOk y mo d = true) (B : Below A₀ base outer h₀) (F : Fr h₀ L s.heap m) (X : (hd.heap_39 w.params).In h₀) (T : Top p loose mean mg mb h₀) (hk : cs.kind = .function)
    (hdp : dp + 12 < recursionLimit) (hun : un + 400 < cLine)
    (hret : ∀ v t dn mn h' tk', dn ∈ dayN → monN[(mo - 1).toNat]? = some mn → Keeps s.heap h' → KBw.bInts v = (wtext dn mn d y).cps.toList.map Int.ofNat → Q (.bytes v t) { s with heap := h', toks := tk' }) :
    wpAny (model prog w) (ktrTop dp un gd cn cs L a ccd cl outer) (call (.ref 354) [.ref x]) Q E s := by
  obtain ⟨hy1, hy2, hm1, hm2, hd1, hd2⟩ := of_decide_eq_true hok
  have hd3 : d ≤ 31 := by unfold monthLen at hd2; (repeat' split at hd2) <;> lia
  refine wpAny_call ?_
  k_dflt (walk_at "m_enter")
  intro g L1 h1 FG F1 N1 B1 X1 T1 hKG hGK
  have hMg := hM.keeps hKG
  obtain ⟨dx, k1, k2, k3, k4, k5, k6, k7, t1, t2, t3, t4, t5, t6, t7, he1, he2⟩ := id hMg
  walk_at "m_fold"
  refine letA ?_
  intro A9 Q9 E9
  (k_steps; repeat (any_goals ((refine Stop.out ?_); (first | (k_here; (with_reducible show wpAny _ _ (call (Value.ref 250) _) _ _ _); k_dflt (refine' c_clock_text ?z9M ?z9B ?z9F ?z9X ?z9T ?z9k ?z9d ?z9u ?_; (case z9M => first | exact momN (by k_asm) (by k_mem) (by k_mem) | exact MomAt.keeps (Fr.keep (by k_asm)) (by assumption)); (case z9B => k_asm); (case z9F => k_asm); (case z9X => k_asm); (case z9T => k_asm); (case z9k => first | exact rfl | assumption); (case z9d => ktr_room); (case z9u => ktr_units); k_whole); intro t9 h9 tk9 hK9; walk_at "m_after") | (k_here; (with_reducible show wpAny _ _ (call (Value.ref 221) _) _ _ _); k_dflt (refine' c_check_moment ?z9M ?z9a1 ?z9B ?z9F ?z9X ?z9T ?z9k ?z9d ?z9u ?_; (case z9M => first | exact momN (by k_asm) (by k_mem) (by k_mem) | exact MomAt.keeps (Fr.keep (by k_asm)) (by assumption)); (case z9B => k_asm); (case z9F => k_asm); (case z9X => k_asm); (case z9T => k_asm); (case z9k => first | exact rfl | assumption); (case z9d => ktr_room); (case z9u => ktr_units); (case z9a1 => assumption); k_whole); intro h9 tk9 hK9; walk_at "m_after") | (k_here; (with_reducible show wpAny _ _ (call (Value.ref 238) _) _ _ _); k_dflt (refine' c_padded ?z9a1 ?z9a2 ?z9a3 ?z9a4 ?z9B ?z9F ?z9X ?z9T ?z9k ?z9d ?z9u ?_; (case z9B => k_asm); (case z9F => k_asm); (case z9X => k_asm); (case z9T => k_asm); (case z9k => first | exact rfl | assumption); (case z9d => ktr_room); (case z9u => ktr_units); (case z9a1 => first | lia | decide); (case z9a2 => first | lia | decide); (case z9a3 => first | lia | decide); (case z9a4 => first | lia | decide); k_whole); intro t9 h9 tk9 hK9; walk_at "m_after") | (k_here; (with_reducible show wpAny _ _ (call (Value.ref 200) _) _ _ _); k_dflt (refine' c_weekday ?z9a1 ?z9a2 ?z9a3 ?z9a4 ?z9B ?z9F ?z9X ?z9T ?z9k ?z9d ?z9u ?_; (case z9B => k_asm); (case z9F => k_asm); (case z9X => k_asm); (case z9T => k_asm); (case z9k => first | exact rfl | assumption); (case z9d => ktr_room); (case z9u => ktr_units); (case z9a1 => lia); (case z9a2 => lia); (case z9a3 => lia); (case z9a4 => lia); k_whole); intro n9 t9 h9 tk9 hK9 hl9 hh9; walk_at "m_after")); k_steps)))
  refine Stop.out ?_
  (with_reducible rename Fr _ _ _ _ => F2)
  (with_reducible rename News _ _ _ _ => N2)
  refine m_comp (fun _ => true) (MapR isSign (isInt fun c : Nat => (c : Int))) (by decide) (by decide) rfl (by decide) rfl ?_
  (k_steps; repeat (any_goals ((refine Stop.out ?_); (first | (k_here; (with_reducible show wpAny _ _ (call (Value.ref 250) _) _ _ _); k_dflt (refine' c_clock_text ?z9M ?z9B ?z9F ?z9X ?z9T ?z9k ?z9d ?z9u ?_; (case z9M => first | exact momN (by k_asm) (by k_mem) (by k_mem) | exact MomAt.keeps (Fr.keep (by k_asm)) (by assumption)); (case z9B => k_asm); (case z9F => k_asm); (case z9X => k_asm); (case z9T => k_asm); (case z9k => first | exact rfl | assumption); (case z9d => ktr_room); (case z9u => ktr_units); k_whole); intro t9 h9 tk9 hK9; walk_at "m_after") | (k_here; (with_reducible show wpAny _ _ (call (Value.ref 221) _) _ _ _); k_dflt (refine' c_check_moment ?z9M ?z9a1 ?z9B ?z9F ?z9X ?z9T ?z9k ?z9d ?z9u ?_; (case z9M => first | exact momN (by k_asm) (by k_mem) (by k_mem) | exact MomAt.keeps (Fr.keep (by k_asm)) (by assumption)); (case z9B => k_asm); (case z9F => k_asm); (case z9X => k_asm); (case z9T => k_asm); (case z9k => first | exact rfl | assumption); (case z9d => ktr_room); (case z9u => ktr_units); (case z9a1 => assumption); k_whole); intro h9 tk9 hK9; walk_at "m_after") | (k_here; (with_reducible show wpAny _ _ (call (Value.ref 238) _) _ _ _); k_dflt (refine' c_padded ?z9a1 ?z9a2 ?z9a3 ?z9a4 ?z9B ?z9F ?z9X ?z9T ?z9k ?z9d ?z9u ?_; (case z9B => k_asm); (case z9F => k_asm); (case z9X => k_asm); (case z9T => k_asm); (case z9k => first | exact rfl | assumption); (case z9d => ktr_room); (case z9u => ktr_units); (case z9a1 => first | lia | decide); (case z9a2 => first | lia | decide); (case z9a3 => first | lia | decide); (case z9a4 => first | lia | decide); k_whole); intro t9 h9 tk9 hK9; walk_at "m_after") | (k_here; (with_reducible show wpAny _ _ (call (Value.ref 200) _) _ _ _); k_dflt (refine' c_weekday ?z9a1 ?z9a2 ?z9a3 ?z9a4 ?z9B ?z9F ?z9X ?z9T ?z9k ?z9d ?z9u ?_; (case z9B => k_asm); (case z9F => k_asm); (case z9X => k_asm); (case z9T => k_asm); (case z9k => first | exact rfl | assumption); (case z9d => ktr_room); (case z9u => ktr_units); (case z9a1 => lia); (case z9a2 => lia); (case z9a3 => lia); (case z9a4 => lia); k_whole); intro n9 t9 h9 tk9 hK9 hl9 hh9; walk_at "m_after")); k_steps)))
  k_dflt (refine' join_listW ?ja ?jb ?jc ?jd (fun t' k => ?je))
  case ja => exact News.isList N2 (by k_mem)
  case jb => exact .cons _ _ (.cons _ _ (.cons _ _ (.cons _ _ (.cons _ _ .nil))))
  case jc => decide
  case jd =>
    have e1 := (len_d (by lia) hd3).2
    have e2 := len_y (by lia) hy2
    have e3 : (Str.ofString "01:02:03 +0405").length = 14 := by decide
    have e4 : (Str.ofString ",").length = 1 := by decide
    simp only [List.map_cons, List.map_nil, List.sum_cons, List.sum_nil, List.length_cons, List.length_nil]
    lia
  rename dayN[_]? = some _ => hdn9
  rename monN[_]? = some _ => hmn9
  have hw9 := wtext_ok (d := d) (y := y) (List.mem_of_getElem? hdn9) (List.mem_of_getElem? hmn9) (by lia) hd3 (by lia) hy2
  obtain ⟨hws, hwr⟩ := hw9
  have hin := codes_in hwr
  unfold codes at hin
  unfold wtext at hws hwr hin
  refine Stop.out ⟨_, _, src_str rfl, by rw [sizeLine_eq]; lia, ?_, ?_, ?_⟩
  · intro C i v s₂ m₂ E' _ _ _ _
    exact wpAny_tests_nil ⟨rfl, Keeps.of s₂ (Keeps.refl _)⟩
  · intro C i v s₂ m₂ E' hP _ hNs hmx hKs
    obtain ⟨c, u, hc, rfl⟩ := hP
    have F3 := hKs.fr F2
    have N3 := hKs.news N2
    (k_steps; repeat (any_goals ((refine Stop.out ?_); (first | (k_here; (with_reducible show wpAny _ _ (call (Value.ref 250) _) _ _ _); k_dflt (refine' c_clock_text ?z9M ?z9B ?z9F ?z9X ?z9T ?z9k ?z9d ?z9u ?_; (case z9M => first | exact momN (by k_asm) (by k_mem) (by k_mem) | exact MomAt.keeps (Fr.keep (by k_asm)) (by assumption)); (case z9B => k_asm); (case z9F => k_asm); (case z9X => k_asm); (case z9T => k_asm); (case z9k => first | exact rfl | assumption); (case z9d => ktr_room); (case z9u => ktr_units); k_whole); intro t9 h9 tk9 hK9; walk_at "m_after") | (k_here; (with_reducible show wpAny _ _ (call (Value.ref 221) _) _ _ _); k_dflt (refine' c_check_moment ?z9M ?z9a1 ?z9B ?z9F ?z9X ?z9T ?z9k ?z9d ?z9u ?_; (case z9M => first | exact momN (by k_asm) (by k_mem) (by k_mem) | exact MomAt.keeps (Fr.keep (by k_asm)) (by assumption)); (case z9B => k_asm); (case z9F => k_asm); (case z9X => k_asm); (case z9T => k_asm); (case z9k => first | exact rfl | assumption); (case z9d => ktr_room); (case z9u => ktr_units); (case z9a1 => assumption); k_whole); intro h9 tk9 hK9; walk_at "m_after") | (k_here; (with_reducible show wpAny _ _ (call (Value.ref 238) _) _ _ _); k_dflt (refine' c_padded ?z9a1 ?z9a2 ?z9a3 ?z9a4 ?z9B ?z9F ?z9X ?z9T ?z9k ?z9d ?z9u ?_; (case z9B => k_asm); (case z9F => k_asm); (case z9X => k_asm); (case z9T => k_asm); (case z9k => first | exact rfl | assumption); (case z9d => ktr_room); (case z9u => ktr_units); (case z9a1 => first | lia | decide); (case z9a2 => first | lia | decide); (case z9a3 => first | lia | decide); (case z9a4 => first | lia | decide); k_whole); intro t9 h9 tk9 hK9; walk_at "m_after") | (k_here; (with_reducible show wpAny _ _ (call (Value.ref 200) _) _ _ _); k_dflt (refine' c_weekday ?z9a1 ?z9a2 ?z9a3 ?z9a4 ?z9B ?z9F ?z9X ?z9T ?z9k ?z9d ?z9u ?_; (case z9B => k_asm); (case z9F => k_asm); (case z9X => k_asm); (case z9T => k_asm); (case z9k => first | exact rfl | assumption); (case z9d => ktr_room); (case z9u => ktr_units); (case z9a1 => lia); (case z9a2 => lia); (case z9a3 => lia); (case z9a4 => lia); k_whole); intro n9 t9 h9 tk9 hK9 hl9 hh9; walk_at "m_after")); k_steps)))
    · exact mapR_sign ⟨_, rfl⟩
    · exact Keeps.of s₂ (Keeps.refl _)
  · intro D c ys vs h' tk hD hys hlen hP hF hKs
    have F3 := hKs.fr F2
    have N3 := hKs.news N2
    have hS := (each_signs hlen hP (by rw [filter_tt] at hF; exact hF)).ints
    walk_at "m_fold"
    (k_steps; repeat (any_goals ((refine Stop.out ?_); (first | (k_here; (with_reducible show wpAny _ _ (call (Value.ref 250) _) _ _ _); k_dflt (refine' c_clock_text ?z9M ?z9B ?z9F ?z9X ?z9T ?z9k ?z9d ?z9u ?_; (case z9M => first | exact momN (by k_asm) (by k_mem) (by k_mem) | exact MomAt.keeps (Fr.keep (by k_asm)) (by assumption)); (case z9B => k_asm); (case z9F => k_asm); (case z9X => k_asm); (case z9T => k_asm); (case z9k => first | exact rfl | assumption); (case z9d => ktr_room); (case z9u => ktr_units); k_whole); intro t9 h9 tk9 hK9; walk_at "m_after") | (k_here; (with_reducible show wpAny _ _ (call (Value.ref 221) _) _ _ _); k_dflt (refine' c_check_moment ?z9M ?z9a1 ?z9B ?z9F ?z9X ?z9T ?z9k ?z9d ?z9u ?_; (case z9M => first | exact momN (by k_asm) (by k_mem) (by k_mem) | exact MomAt.keeps (Fr.keep (by k_asm)) (by assumption)); (case z9B => k_asm); (case z9F => k_asm); (case z9X => k_asm); (case z9T => k_asm); (case z9k => first | exact rfl | assumption); (case z9d => ktr_room); (case z9u => ktr_units); (case z9a1 => assumption); k_whole); intro h9 tk9 hK9; walk_at "m_after") | (k_here; (with_reducible show wpAny _ _ (call (Value.ref 238) _) _ _ _); k_dflt (refine' c_padded ?z9a1 ?z9a2 ?z9a3 ?z9a4 ?z9B ?z9F ?z9X ?z9T ?z9k ?z9d ?z9u ?_; (case z9B => k_asm); (case z9F => k_asm); (case z9X => k_asm); (case z9T => k_asm); (case z9k => first | exact rfl | assumption); (case z9d => ktr_room); (case z9u => ktr_units); (case z9a1 => first | lia | decide); (case z9a2 => first | lia | decide); (case z9a3 => first | lia | decide); (case z9a4 => first | lia | decide); k_whole); intro t9 h9 tk9 hK9; walk_at "m_after") | (k_here; (with_reducible show wpAny _ _ (call (Value.ref 200) _) _ _ _); k_dflt (refine' c_weekday ?z9a1 ?z9a2 ?z9a3 ?z9a4 ?z9B ?z9F ?z9X ?z9T ?z9k ?z9d ?z9u ?_; (case z9B => k_asm); (case z9F => k_asm); (case z9X => k_asm); (case z9T => k_asm); (case z9k => first | exact rfl | assumption); (case z9d => ktr_room); (case z9u => ktr_units); (case z9a1 => lia); (case z9a2 => lia); (case z9a3 => lia); (case z9a4 => lia); k_whole); intro n9 t9 h9 tk9 hK9 hl9 hh9; walk_at "m_after")); k_steps)))
    k_dflt (refine' KBa.make_K F3 N3 rfl ⟨_, hys, rfl, _, rfl⟩ hS ?kin ?kl (fun h'' t'' k'' F4 N4 _ => ?_))
    case kin => exact hin
    case kl => rw [List.length_map, Array.length_toList]; lia
    have hbb := KBa.ints_make hin
    clear F3 N3 hin
    walk_at "m_fold"
    (k_steps; repeat (any_goals ((refine Stop.out ?_); (first | (k_here; (with_reducible show wpAny _ _ (call (Value.ref 250) _) _ _ _); k_dflt (refine' c_clock_text ?z9M ?z9B ?z9F ?z9X ?z9T ?z9k ?z9d ?z9u ?_; (case z9M => first | exact momN (by k_asm) (by k_mem) (by k_mem) | exact MomAt.keeps (Fr.keep (by k_asm)) (by assumption)); (case z9B => k_asm); (case z9F => k_asm); (case z9X => k_asm); (case z9T => k_asm); (case z9k => first | exact rfl | assumption); (case z9d => ktr_room); (case z9u => ktr_units); k_whole); intro t9 h9 tk9 hK9; walk_at "m_after") | (k_here; (with_reducible show wpAny _ _ (call (Value.ref 221) _) _ _ _); k_dflt (refine' c_check_moment ?z9M ?z9a1 ?z9B ?z9F ?z9X ?z9T ?z9k ?z9d ?z9u ?_; (case z9M => first | exact momN (by k_asm) (by k_mem) (by k_mem) | exact MomAt.keeps (Fr.keep (by k_asm)) (by assumption)); (case z9B => k_asm); (case z9F => k_asm); (case z9X => k_asm); (case z9T => k_asm); (case z9k => first | exact rfl | assumption); (case z9d => ktr_room); (case z9u => ktr_units); (case z9a1 => assumption); k_whole); intro h9 tk9 hK9; walk_at "m_after") | (k_here; (with_reducible show wpAny _ _ (call (Value.ref 238) _) _ _ _); k_dflt (refine' c_padded ?z9a1 ?z9a2 ?z9a3 ?z9a4 ?z9B ?z9F ?z9X ?z9T ?z9k ?z9d ?z9u ?_; (case z9B => k_asm); (case z9F => k_asm); (case z9X => k_asm); (case z9T => k_asm); (case z9k => first | exact rfl | assumption); (case z9d => ktr_room); (case z9u => ktr_units); (case z9a1 => first | lia | decide); (case z9a2 => first | lia | decide); (case z9a3 => first | lia | decide); (case z9a4 => first | lia | decide); k_whole); intro t9 h9 tk9 hK9; walk_at "m_after") | (k_here; (with_reducible show wpAny _ _ (call (Value.ref 200) _) _ _ _); k_dflt (refine' c_weekday ?z9a1 ?z9a2 ?z9a3 ?z9a4 ?z9B ?z9F ?z9X ?z9T ?z9k ?z9d ?z9u ?_; (case z9B => k_asm); (case z9F => k_asm); (case z9X => k_asm); (case z9T => k_asm); (case z9k => first | exact rfl | assumption); (case z9d => ktr_room); (case z9u => ktr_units); (case z9a1 => lia); (case z9a2 => lia); (case z9a3 => lia); (case z9a4 => lia); k_whole); intro n9 t9 h9 tk9 hK9 hl9 hh9; walk_at "m_after")); k_steps)))
    exact hret _ _ _ _ _ _ (List.mem_of_getElem? hdn9) hmn9 (hKG.trans (Fr.keep (L := L1) (h₀ := g) (by k_asm))) hbb
open NumText
theorem sign_dig : ∀ n, n < 58 → 48 ≤ n → signB (Int.ofNat n) = false := by decide +kernel
theorem word_digits {x : Str} (h0 : 0 < x.cps.size) (hr : ∀ c ∈ x.cps.toList, 48 ≤ c ∧ c ≤ 57) : Word x := by
  refine ⟨h0, fun k hk => ?_, fun k hk => ?_⟩
  · obtain ⟨c, hc, rfl⟩ := List.mem_map.mp hk
    have := hr c hc
    unfold atomB
    rw [if_pos (by show (48 : Int) ≤ (c : Int) ∧ (c : Int) ≤ 57; lia)]
  · obtain ⟨c, hc, rfl⟩ := List.mem_map.mp hk
    have := hr c hc
    refine ⟨sign_dig c (by lia) (by lia), ?_, ?_, ?_⟩ <;> (show (c : Int) ≠ _; lia)
theorem word_head {x : Str} {r : List Int} (hx : Word x) : ∀ k ∈ (codes x ++ r).head?, k ≠ 32 ∧ k ≠ 9 ∧ k ≠ 10 ∧ k ≠ 13 := fun k hk => by
  have hlen : (codes x).length = x.cps.size := by simp [codes]
  have hx0 := hx.ne
  have hm : k ∈ codes x := by
    cases q : codes x with
    | nil => rw [q] at hlen; simp at hlen; lia
    | cons a l => rw [q] at hk; simp at hk; rw [← hk]; exact .head _
  have ha := hx.at_ k hm
  refine ⟨?_, ?_, ?_, ?_⟩ <;> (rintro rfl; revert ha; decide +kernel)
theorem word_of {x : Str} (h : decide (0 < x.cps.size) = true) (h2 : (codes x).all (fun k => atomB k && !signB k && decide (k ≠ 34) && decide (k ≠ 91) && decide (k ≠ 40)) = true) : Word x := by
  have h3 := List.all_eq_true.mp h2
  refine ⟨of_decide_eq_true h, fun k hk => ?_, fun k hk => ?_⟩
  · have := h3 k hk; simp only [Bool.and_eq_true] at this; exact this.1.1.1.1
  · have := h3 k hk
    simp only [Bool.and_eq_true, Bool.not_eq_true', decide_eq_true_eq] at this
    exact ⟨this.1.1.1.2, this.1.1.2, this.1.2, this.2⟩
theorem sp_atom {r : List Int} : ∀ k ∈ (([32] : List Int) ++ r).head?, atomB k = false := fun k hk => by
  have : k = 32 := by simpa using hk.symm
  subst this; decide +kernel
theorem sp_ws : ∀ k ∈ ([32] : List Int), k = 32 := fun k hk => by simpa using hk
theorem no_ws : ∀ k ∈ ([] : List Int), k = 32 := fun k hk => by simp at hk
theorem col_atom {r : List Int} : ∀ k ∈ (([] : List Int) ++ ([58] ++ r)).head?, atomB k = false := fun k hk => by
  have : k = 58 := by simpa using hk.symm
  subst this; decide +kernel
theorem col_head {r : List Int} : ∀ k ∈ (([58] : List Int) ++ r).head?, k ≠ 32 ∧ k ≠ 9 ∧ k ≠ 10 ∧ k ≠ 13 := fun k hk => by
  have : k = 58 := by simpa using hk.symm
  subst this; decide +kernel
theorem com_atom {r : List Int} : ∀ k ∈ (([] : List Int) ++ ([44] ++ r)).head?, atomB k = false := fun k hk => by
  have : k = 44 := by simpa using hk.symm
  subst this; decide +kernel
theorem com_head {r : List Int} : ∀ k ∈ (([44] : List Int) ++ r).head?, k ≠ 32 ∧ k ≠ 9 ∧ k ≠ 10 ∧ k ≠ 13 := fun k hk => by
  have : k = 44 := by simpa using hk.symm
  subst this; decide +kernel
theorem end_atom : ∀ k ∈ (([] : List Int) ++ ([] : List Int)).head?, atomB k = false := fun k hk => by simp at hk
theorem end_head : ∀ k ∈ ([] : List Int).head?, k ≠ 32 ∧ k ≠ 9 ∧ k ≠ 10 ∧ k ≠ 13 := fun k hk => by simp at hk
theorem w01 : Word (Str.ofString "01") := word_of (by decide) (by decide +kernel)
theorem w02 : Word (Str.ofString "02") := word_of (by decide) (by decide +kernel)
theorem w03 : Word (Str.ofString "03") := word_of (by decide) (by decide +kernel)
theorem wzone : Word (Str.ofString "+0405") := word_of (by decide) (by decide +kernel)
theorem clock_codes : codes (Str.ofString "01:02:03 +0405") = codes (Str.ofString "01") ++ ([] ++ ([58] ++ ([] ++ (codes (Str.ofString "02") ++ ([] ++ ([58] ++ ([] ++ (codes (Str.ofString "03") ++ ([32] ++ (codes (Str.ofString "+0405") ++ ([] ++ []))))))))))) := by decide +kernel
def tailC (d nm fg : Str) : List Int := codes d ++ ([32] ++ (codes nm ++ ([32] ++ (codes fg ++ ([32] ++ codes (Str.ofString "01:02:03 +0405"))))))
abbrev tailT (d nm fg : Str) (i p1 p2 p3 p4 p5 p6 p7 p8 : Int) : List Tk := [atk d i, atk nm p1, atk fg p2, atk (Str.ofString "01") p3, ⟨false, [58], p4⟩, atk (Str.ofString "02") p5, ⟨false, [58], p6⟩, atk (Str.ofString "03") p7, atk (Str.ofString "+0405") p8]
theorem lx_tail {d nm fg : Str} (hd : Word d) (hn : Word nm) (hf : Word fg) (i : Int) : ∃ p1 p2 p3 p4 p5 p6 p7 p8, Lx i (tailC d nm fg) (tailT d nm fg i p1 p2 p3 p4 p5 p6 p7 p8) := by
  unfold tailC
  rw [clock_codes]
  exact ⟨_, _, _, _, _, _, _, _, lx_word hd sp_atom sp_ws (word_head hn) (lx_word hn sp_atom sp_ws (word_head hf) (lx_word hf sp_atom sp_ws (word_head w01) (lx_word w01 col_atom no_ws col_head
    (lx_sign (by decide +kernel) (by decide) (by decide) (by decide) no_ws (word_head w02) (lx_word w02 col_atom no_ws col_head (lx_sign (by decide +kernel) (by decide) (by decide) (by decide) no_ws (word_head w03)
      (lx_word w03 sp_atom sp_ws (word_head wzone) (lx_word wzone end_atom no_ws end_head lx_nil))))))))⟩

def DateIs (ks : List Int) (d nm fg : Str) : Prop := ∃ (Ts : List Tk) (i0 p0 p1 p2 p3 p4 p5 p6 p7 p8 : Int), Lex ks 0 Ts ∧ (∀ k ∈ ks.head?, k ≠ 32 ∧ k ≠ 9 ∧ k ≠ 10 ∧ k ≠ 13) ∧ NameCase Ts i0 ∧ (∃ hs : List Tk, Ts = hs ++ tailT d nm fg p0 p1 p2 p3 p4 p5 p6 p7 p8 ∧ (hs.length : Int) = i0 ∧ hs.length ≤ 2)
theorem lex_of {ks : List Int} {Ts : List Tk} (h : Lx 0 ks Ts) : Lex ks 0 Ts := h ks (by decide) rfl (by simp)
theorem day_size : ∀ y ∈ dayN.map lowerS, y.cps.size = 3 := by decide +kernel
theorem not_day {d : Str} (h : d.cps.size ≤ 2) : ((dayN.map lowerS).any (· == lowerS d)) = false := by
  rw [List.any_eq_false]
  intro y hy e
  have e1 := day_size y hy
  rw [eq_of_beq e] at e1
  simp [lowerS] at e1
  lia
theorem low_dig {x : Str} (hr : ∀ c ∈ x.cps.toList, 48 ≤ c ∧ c ≤ 57) : ∀ c ∈ x.cps.toList, c < 128 := fun c hc => by have := hr c hc; lia
theorem date_none {d nm fg : Str} (h0 : 0 < d.cps.size) (h2 : d.cps.size ≤ 2) (hr : ∀ c ∈ d.cps.toList, 48 ≤ c ∧ c ≤ 57) (hn : Word nm) (hf : Word fg) : DateIs (tailC d nm fg) d nm fg := by
  have hd := word_digits h0 hr
  obtain ⟨p1, p2, p3, p4, p5, p6, p7, p8, hl⟩ := lx_tail hd hn hf 0
  exact ⟨_, 0, _, p1, p2, p3, p4, p5, p6, p7, p8, lex_of hl, word_head hd, .none rfl (by lia) (low_dig hr) (not_day h2), [], rfl, rfl, by decide⟩
theorem date_plain {dn d nm fg : Str} (wd : Word dn) (ds : dn.cps.size ≤ 100) (dl : ∀ c ∈ dn.cps.toList, c < 128) (dd : ((dayN.map lowerS).any (· == lowerS dn)) = true) (h0 : 0 < d.cps.size) (hr : ∀ c ∈ d.cps.toList, 48 ≤ c ∧ c ≤ 57) (hn : Word nm) (hf : Word fg) : DateIs (codes dn ++ ([32] ++ tailC d nm fg)) d nm fg := by
  have hd := word_digits h0 hr
  obtain ⟨p1, p2, p3, p4, p5, p6, p7, p8, hl⟩ := lx_tail hd hn hf (0 + dn.cps.size + ([32] : List Int).length)
  have hl2 := lx_word (i := 0) wd sp_atom sp_ws (word_head hd) hl
  exact ⟨_, _, _, p1, p2, p3, p4, p5, p6, p7, p8, lex_of hl2, word_head wd, .plain rfl ds dl dd rfl, [atk dn 0], rfl, rfl, by simp⟩
theorem date_comma {dn d nm fg : Str} (wd : Word dn) (ds : dn.cps.size ≤ 100) (dl : ∀ c ∈ dn.cps.toList, c < 128) (dd : ((dayN.map lowerS).any (· == lowerS dn)) = true) (h0 : 0 < d.cps.size) (hr : ∀ c ∈ d.cps.toList, 48 ≤ c ∧ c ≤ 57) (hn : Word nm) (hf : Word fg) : DateIs (codes dn ++ ([] ++ ([44] ++ ([32] ++ tailC d nm fg)))) d nm fg := by
  have hd := word_digits h0 hr
  obtain ⟨p1, p2, p3, p4, p5, p6, p7, p8, hl⟩ := lx_tail hd hn hf (0 + dn.cps.size + ([] : List Int).length + 1 + ([32] : List Int).length)
  have hl1 := lx_sign (k := 44) (by decide +kernel) (by decide) (by decide) (by decide) sp_ws (word_head hd) hl
  have hl2 := lx_word (i := 0) wd com_atom no_ws com_head hl1
  exact ⟨_, _, _, p1, p2, p3, p4, p5, p6, p7, p8, lex_of hl2, word_head wd, .comma rfl ds dl dd rfl, [atk dn 0, ⟨false, [44], _⟩], rfl, rfl, by simp⟩

def lname : List Str := [Str.ofString "Jan", Str.ofString "fEB", Str.ofString "Mar", Str.ofString "APR", Str.ofString "May", Str.ofString "Jun", Str.ofString "jul", Str.ofString "Aug", Str.ofString "Sep", Str.ofString "Oct", Str.ofString "nov", Str.ofString "Dec"]
def lheads : List Str := [Str.ofString "", Str.ofString "Tue, ", Str.ofString "sun "]
def nameB (x : Str) : Bool := decide (0 < x.cps.size) && (codes x).all (fun k => atomB k && !signB k && decide (k ≠ 34) && decide (k ≠ 91) && decide (k ≠ 40)) && decide (x.cps.size ≤ 3) && x.cps.toList.all (fun c => decide (c < 128))
theorem names_all : ∀ x ∈ lname ++ monN ++ dayN ++ [Str.ofString "sun"], nameB x = true := by decide +kernel
theorem name_ok {x : Str} (hx : x ∈ lname ++ monN ++ dayN ++ [Str.ofString "sun"]) : Word x ∧ x.cps.size ≤ 3 ∧ ∀ c ∈ x.cps.toList, c < 128 := by
  have h := names_all x hx
  unfold nameB at h
  simp only [Bool.and_eq_true] at h
  obtain ⟨⟨⟨h1, h2⟩, h3⟩, h4⟩ := h
  exact ⟨word_of h1 h2, of_decide_eq_true h3, fun c hc => of_decide_eq_true (List.all_eq_true.mp h4 c hc)⟩
theorem days_all : ∀ x ∈ dayN ++ [Str.ofString "sun"], ((dayN.map lowerS).any (· == lowerS x)) = true := by decide +kernel
def monIx (l : List Str) : Bool := (List.range 12).all fun j => (monN.map lowerS)[j]? == l[j]?.map lowerS && (List.range j).all fun m => (monN.map lowerS)[m]? != l[j]?.map lowerS
theorem monIx_l : monIx lname = true := by decide +kernel
theorem monIx_m : monIx monN = true := by decide +kernel
theorem mon_at {l : List Str} (hl : monIx l = true) (hz : l.length = 12) {j : Nat} {x : Str} (hx : l[j]? = some x) : j < 12 ∧ (monN.map lowerS)[j]? = some (lowerS x) ∧ ∀ m, m < j → (monN.map lowerS)[m]? ≠ some (lowerS x) := by
  have hj : j < 12 := by rw [← hz]; exact (List.getElem?_eq_some_iff.mp hx).1
  have h := List.all_eq_true.mp hl j (List.mem_range.mpr hj)
  rw [Bool.and_eq_true, hx] at h
  refine ⟨hj, eq_of_beq h.1, fun m hm => ?_⟩
  have h2 := List.all_eq_true.mp h.2 m (List.mem_range.mpr hm)
  exact fun e => by rw [e] at h2; simp at h2

def ltext (h d nm fg : Str) : Str := h ++ d ++ Str.ofString " " ++ nm ++ Str.ofString " " ++ fg ++ Str.ofString " 01:02:03 +0405"
theorem ltext_codes (h d nm fg : Str) : codes (ltext h d nm fg) = codes h ++ tailC d nm fg := by
  unfold ltext tailC
  simp only [codes_app, show codes (Str.ofString " ") = [32] by decide, show codes (Str.ofString " 01:02:03 +0405") = [32] ++ codes (Str.ofString "01:02:03 +0405") by decide +kernel, List.append_assoc]
theorem ltext_date {h d nm fg : Str} (hh : h ∈ lheads) (h0 : 0 < d.cps.size) (h2 : d.cps.size ≤ 2) (hr : ∀ c ∈ d.cps.toList, 48 ≤ c ∧ c ≤ 57) (hn : nm ∈ lname) (hf : Word fg) : DateIs (codes (ltext h d nm fg)) d nm fg := by
  rw [ltext_codes]
  have wn := (name_ok (x := nm) (by simp [hn])).1
  simp only [lheads, List.mem_cons, List.not_mem_nil, or_false] at hh
  rcases hh with rfl | rfl | rfl
  · rw [show codes (Str.ofString "") = [] by decide]
    exact date_none h0 h2 hr wn hf
  · rw [show codes (Str.ofString "Tue, ") = codes (Str.ofString "Tue") ++ ([] ++ ([44] ++ [32])) by decide +kernel]
    have e := name_ok (x := Str.ofString "Tue") (by simp [dayN])
    have z := date_comma e.1 (by have := e.2.1; lia) e.2.2 (days_all _ (by simp [dayN])) h0 hr wn hf
    simpa only [List.append_assoc] using z
  · rw [show codes (Str.ofString "sun ") = codes (Str.ofString "sun") ++ [32] by decide +kernel]
    have e := name_ok (x := Str.ofString "sun") (by simp)
    have z := date_plain e.1 (by have := e.2.1; lia) e.2.2 (days_all _ (by simp)) h0 hr wn hf
    simpa only [List.append_assoc] using z
theorem wtext_codes (dn mn : Str) (d y : Int) : codes (wtext dn mn d y) = codes dn ++ ([] ++ ([44] ++ ([32] ++ tailC (Str.ofString (toString d)) mn (padS y 4)))) := by
  show (wtext dn mn d y).cps.toList.map Int.ofNat = _
  rw [wtext_list]
  unfold tailC codes
  simp only [List.map_append, List.append_assoc, List.map_cons, List.map_nil, List.nil_append]
  rfl
theorem wtext_date {dn mn : Str} {d y : Int} (hdn : dn ∈ dayN) (hmn : mn ∈ monN) (h0 : 0 ≤ d) (h1 : d ≤ 31) (h2 : 0 ≤ y) (h3 : y ≤ 9999) : DateIs (codes (wtext dn mn d y)) (Str.ofString (toString d)) mn (padS y 4) := by
  rw [wtext_codes]
  obtain ⟨a1, a2, a3, a4⟩ := is_d h0 h1
  obtain ⟨b1, b2, b3⟩ := is_y h2 h3
  have e := name_ok (x := dn) (by simp [hdn])
  exact date_comma e.1 (by have := e.2.1; lia) e.2.2 (days_all _ (by simp [hdn])) (by lia) a3 (name_ok (x := mn) (by simp [hmn])).1 (word_digits (by lia) b2)
theorem ltext_len {h d nm fg : Str} (hh : h ∈ lheads) (h2 : d.cps.size ≤ 2) (hr : ∀ c ∈ d.cps.toList, 48 ≤ c ∧ c ≤ 57) (hn : nm ∈ lname) (hf : fg.cps.size ≤ 5) (hfr : ∀ c ∈ fg.cps.toList, 48 ≤ c ∧ c ≤ 57) : (ltext h d nm fg).cps.size ≤ 40 ∧ ∀ c ∈ (ltext h d nm fg).cps.toList, c < 128 := by
  obtain ⟨-, n1, n2⟩ := name_ok (x := nm) (by simp [hn])
  have ez : (Str.ofString " 01:02:03 +0405").cps.size = 15 ∧ ∀ c ∈ (Str.ofString " 01:02:03 +0405").cps.toList, c < 128 := by decide +kernel
  have es : (Str.ofString " ").cps.size = 1 ∧ ∀ c ∈ (Str.ofString " ").cps.toList, c < 128 := by decide +kernel
  have eh : ∀ h ∈ lheads, h.cps.size ≤ 5 ∧ ∀ c ∈ h.cps.toList, c < 128 := by decide +kernel
  obtain ⟨q1, q2⟩ := eh h hh
  constructor
  · unfold ltext
    simp only [PySem.Str.cps_append, Array.size_append]
    lia
  · intro c hc
    unfold ltext at hc
    simp only [app_list, List.mem_append] at hc
    rcases hc with (((((hc | hc) | hc) | hc) | hc) | hc) | hc
    · exact q2 c hc
    · have := hr c hc; lia
    · exact es.2 c hc
    · exact n2 c hc
    · exact es.2 c hc
    · have := hfr c hc; lia
    · exact ez.2 c hc
theorem foldl_lt : ∀ (l : List Nat) (a : Nat), (∀ c ∈ l, 48 ≤ c ∧ c ≤ 57) → l.foldl (fun acc c => acc * 10 + (c - 48)) a < (a + 1) * 10 ^ l.length
  | [], a, _ => by simp
  | c :: l, a, h => by
    have h1 := h c (.head _)
    have ih := foldl_lt l (a * 10 + (c - 48)) fun x hx => h x (.tail _ hx)
    have e : (a * 10 + (c - 48) + 1) * 10 ^ l.length ≤ ((a + 1) * 10) * 10 ^ l.length := Nat.mul_le_mul_right _ (by lia)
    simp only [List.foldl_cons, List.length_cons, Nat.pow_succ]
    calc _ < _ := ih
      _ ≤ _ := e
      _ = _ := by rw [Nat.mul_assoc, Nat.mul_comm 10]
theorem val_lt {l : List Nat} (h : ∀ c ∈ l, 48 ≤ c ∧ c ≤ 57) : digitsVal l < 10 ^ l.length := by
  have := foldl_lt l 0 h
  simpa [digitsVal] using this
theorem year_full {x : Str} (hr : ∀ c ∈ x.cps.toList, 48 ≤ c ∧ c ≤ 57) (h2 : 2 ≤ x.cps.size) (h4 : x.cps.size ≤ 4) : fullYear ((digitsVal x.cps.toList : Nat) : Int) x.cps.size = yearOf x.cps.toList ∧ yearOf x.cps.toList ≤ 9999 ∧ 0 ≤ yearOf x.cps.toList := by
  have hv := val_lt hr
  have hl : x.cps.toList.length = x.cps.size := Array.length_toList
  unfold fullYear yearOf
  rw [hl] at hv ⊢
  generalize digitsVal x.cps.toList = v at hv ⊢
  generalize x.cps.size = k at hv h2 h4 ⊢
  have hk : k = 2 ∨ k = 3 ∨ k = 4 := by lia
  rcases hk with rfl | rfl | rfl
  · simp only [show ((2 : Nat) : Int) = 2 from rfl] at *
    simp
    refine ⟨?_, ?_, ?_⟩ <;> (repeat' split) <;> lia
  · simp at *; lia
  · simp at *; lia
theorem year_zero {x : Str} (h : x.cps.size < 2 ∨ 4 < x.cps.size) : yearOf x.cps.toList = 0 := by
  have hl : x.cps.toList.length = x.cps.size := Array.length_toList
  unfold yearOf
  rw [hl, if_neg (by lia), if_neg (by lia), if_neg (by lia)]
theorem law_bad {x : Str} {mo d : Int} (hr : ∀ c ∈ x.cps.toList, 48 ≤ c ∧ c ≤ 57) (hm1 : 1 ≤ mo) (hm2 : mo ≤ 12) (hd : 1 ≤ d) (h : x.cps.size < 2 ∨ 4 < x.cps.size ∨ dayOk (fullYear ((digitsVal x.cps.toList : Nat) : Int) x.cps.size) mo d = false) : yearOf x.cps.toList = 0 ∨ monthLen (yearOf x.cps.toList) mo < d := by
  by_cases h2 : x.cps.size < 2 ∨ 4 < x.cps.size
  · exact .inl (year_zero h2)
  · obtain ⟨e1, e2, e3⟩ := year_full hr (by lia) (by lia)
    have h3 : dayOk (fullYear ((digitsVal x.cps.toList : Nat) : Int) x.cps.size) mo d = false := by
      rcases h with h | h | h
      · exact absurd (.inl h) h2
      · exact absurd (.inr h) h2
      · exact h
    rw [e1] at h3
    have h4 := of_decide_eq_false h3
    lia
theorem law_good {y mo d : Int} (h : dayOk y mo d = true) : y ≠ 0 ∧ d ≤ monthLen y mo ∧ 1 ≤ y ∧ y ≤ 9999 ∧ 1 ≤ d ∧ 1 ≤ mo ∧ mo ≤ 12 := by
  have := of_decide_eq_true h
  lia
theorem slice_tail {x : Str} {i : Int} (h0 : i < 0) (hl : -(x.cps.size : Int) ≤ i) (hr : ∀ c ∈ x.cps.toList, 48 ≤ c ∧ c ≤ 57) : ((Txt.slice x (some i) none).cps.size : Int) = -i ∧ ∀ c ∈ (Txt.slice x (some i) none).cps.toList, 48 ≤ c ∧ c ≤ 57 := by
  have e : Txt.slice x (some i) none = ⟨((x.cps.toList.drop (i + x.length).toNat).take ((x.cps.toList.length : Int) - (i + x.length)).toNat).toArray⟩ := StrLaws.sliceText_from_neg h0 hl
  have hsz : x.length = x.cps.size := rfl
  rw [e]
  constructor
  · simp only [List.size_toArray, List.length_take, List.length_drop, Array.length_toList, hsz]
    lia
  · intro c hc
    exact hr c (List.mem_of_mem_drop (List.mem_of_mem_take hc))
theorem dig_app {x y : Str} (hx : ∀ c ∈ x.cps.toList, 48 ≤ c ∧ c ≤ 57) (hy : ∀ c ∈ y.cps.toList, 48 ≤ c ∧ c ≤ 57) : ∀ c ∈ (x ++ y).cps.toList, 48 ≤ c ∧ c ≤ 57 := fun c hc => by
  rw [app_list] at hc
  rcases List.mem_append.mp hc with h | h
  · exact hx c h
  · exact hy c h
theorem figs_lt {n i : Int} (h0 : 0 ≤ n) (h1 : i ≤ -1) (h4 : -4 ≤ i) : ((Txt.slice (Str.ofString "0000" ++ Str.ofString (toString n)) (some i) none).cps.size : Int) = -i ∧ ∀ c ∈ (Txt.slice (Str.ofString "0000" ++ Str.ofString (toString n)) (some i) none).cps.toList, 48 ≤ c ∧ c ≤ 57 := by
  have e : (Str.ofString "0000").cps.size = 4 := by decide
  refine slice_tail (by lia) ?_ (dig_app (by decide) (dg_all h0))
  rw [PySem.Str.cps_append, Array.size_append, e]
  lia
theorem figs_five {n : Int} (h0 : 0 ≤ n) : ((Str.ofString "0" ++ Txt.slice (Str.ofString "000" ++ Str.ofString (toString n)) (some (-4)) none).cps.size : Int) = 5 ∧ ∀ c ∈ (Str.ofString "0" ++ Txt.slice (Str.ofString "000" ++ Str.ofString (toString n)) (some (-4)) none).cps.toList, 48 ≤ c ∧ c ≤ 57 := by
  have e : (Str.ofString "000").cps.size = 3 := by decide
  have e1 : (Str.ofString "0").cps.size = 1 := by decide
  have e2 := dg_pos h0
  obtain ⟨a, b⟩ := slice_tail (x := Str.ofString "000" ++ Str.ofString (toString n)) (i := -4) (by lia) (by rw [PySem.Str.cps_append, Array.size_append, e]; lia) (dig_app (by decide) (dg_all h0))
  refine ⟨?_, dig_app (by decide) b⟩
  rw [PySem.Str.cps_append, Array.size_append, e1]
  lia
theorem tail_at {hs t : List Tk} {i : Int} (k : Nat) (hi : i.toNat = hs.length + k) : (hs ++ t)[i.toNat]? = t[k]? := by
  rw [hi, List.getElem?_append_right (Nat.le_add_right _ _), Nat.add_sub_cancel_left]
section
variable {prog : Program} {w : World} {A₀ : Around} {s : Shared} {L : Addr} {h₀ base : Heap} {m mg mb : Str → Option Value} {p : Program} {loose : List Str} {mean : ExcName → Option Value}
  {dp un : Nat} {gd : Option (List Code)} {cn : Str} {cs : Scope} {a : Addr} {ccd : Value} {cl : List (Str × Addr)} {outer : List Env} {Q E : Value → Shared → Prop}
theorem c_read_D {b : Array UInt8} {tb : Tok} {ks : List Int} {yD yM yY : Str} {vd vy : Int} {j : Nat} (hb : KBw.bInts b = ks) (hz : ks.length ≤ 100) (hD : DateIs ks yD yM yY)
    (hD1 : 0 < yD.cps.size) (hD2 : yD.cps.size ≤ 2) (hD3 : ∀ c ∈ yD.cps.toList, 48 ≤ c ∧ c ≤ 57) (hD4 : ((NumText.digitsVal yD.cps.toList : Nat) : Int) = vd)
    (hM1 : yM.cps.size ≤ 100) (hM2 : ∀ c ∈ yM.cps.toList, c < 128) (hM3 : j < 12 ∧ (monN.map lowerS)[j]? = some (lowerS yM) ∧ ∀ m, m < j → (monN.map lowerS)[m]? ≠ some (lowerS yM))
    (hY1 : 0 < yY.cps.size) (hY2 : yY.cps.size ≤ 100) (hY3 : ∀ c ∈ yY.cps.toList, 48 ≤ c ∧ c ≤ 57) (hY4 : ((NumText.digitsVal yY.cps.toList : Nat) : Int) = vy)
    (B : Below A₀ base outer h₀) (F : Fr h₀ L s.heap m) (X : (hd.heap_39 w.params).In h₀) (T : Top p loose mean mg mb h₀) (hk : cs.kind = .function)
    (hdp : dp + 40 < recursionLimit) (hun : un + 500 < cLine)
    (hret : ∀ x h' tk', 2 ≤ yY.cps.size → yY.cps.size ≤ 4 → dayOk (fullYear vy yY.cps.size) (j + 1) vd = true → Keeps s.heap h' → MomNew w s.heap h' x (fullYear vy yY.cps.size) (j + 1) vd → Q (.ref x) { s with heap := h', toks := tk' })
    (hbad : ∀ e h' tk' g, (yY.cps.size < 2 ∨ 4 < yY.cps.size ∨ dayOk (fullYear vy yY.cps.size) (j + 1) vd = false) → Fr h₀ L g m → RaisedN base (envX cn cs L a ccd cl :: outer) e (.ref 52) [] h' → g.UpToSlots h' → E (.ref e) { s with heap := h', toks := tk' }) :
    wpAny (model prog w) (ktrTop dp un gd cn cs L a ccd cl outer) (call (.ref 349) [.bytes b tb]) Q E s := by
  obtain ⟨Ts, i0, p0, p1, p2, p3, p4, p5, p6, p7, p8, hlex, hwr, hname, hs, rfl, rfl, hl2⟩ := hD
  exact c_read_date (ws := []) (r := ks) hb hz (by simp only [List.length_append, List.length_cons, List.length_nil]; lia) rfl (fun _ h => (nomatch h)) hwr hlex hname
    (tail_at 0 (by lia)) (tail_at 1 (by lia)) (tail_at 2 (by lia)) (tail_at 3 (by lia)) (tail_at 4 (by lia)) (tail_at 5 (by lia)) (tail_at 6 (by lia)) (tail_at 7 (by lia)) (tail_at 8 (by lia))
    (by simp only [List.length_append, List.length_cons, List.length_nil]; lia) (by lia) hD1 hD2 hD3 hD4 hM1 hM2 hM3.2.1 hM3.2.2 hM3.1 hY1 hY2 hY3 hY4 B F X T hk hdp hun hret hbad
end
theorem caught_own {A₁ : Around} {s' : Shared} {h g₁ : Heap} {e : Addr} {name : Str} {scope : Scope} {cd : Value} {b₀ : Stmt} {suite : List Stmt} {pos np : Pos} {rest : List ExceptHandler} {Q₁ : Flow → Shared → Prop} {news : List (Addr × Obj)} {x : Str} {K : Frag} {cls c : Value}
    (Kb : Below A₁ g₁ outer g₁) (F : Fr g₁ L h m) (hsm : h.UpToSlots s'.heap) (R : RaisedN g₁ (envOf name scope L a cd :: outer) e cls news s'.heap)
    (X : K.In g₁) (T : TopRead p loose mg mb g₁) (hc : KtsName K x c) (he : exmOne K cls c = some true)
    (k : ∀ h', Fr g₁ L h' m → News g₁ L h' news →
      wpAny (model prog w) ((A₁.deeper (envOf name scope L a cd)).mark (some (.ref e))) (execs (b₀ :: suite) (envOf name scope L a cd)) Q₁ E { s' with heap := h' })
    (hk : scope.kind = .function := by rfl) (hx : (envOf name scope L a cd).kindOf x = some .globalImplicit := by rfl) (hd : (x == ("__debug__" : Str)) = false := by decide)
    (hE : PassesOwnAt (model prog w) ((A₁.deeper (envOf name scope L a cd)).mark (some (.ref e))) (A₁.deeper (envOf name scope L a cd)) (envOf name scope L a cd) E := by passes_own) :
    wpAny (model prog w) (A₁.deeper (envOf name scope L a cd)) (noteFrame (.ref e) (envOf name scope L a cd))
      (fun _ s₂ => wpAny (model prog w) (A₁.deeper (envOf name scope L a cd)) (setFlight (.ref e) none) (fun _ s₃ =>
        wpAny (model prog w) (A₁.deeper (envOf name scope L a cd)) (handleBy (.ref e) (envOf name scope L a cd) (.ExceptHandler (some (.Name x np)) none (b₀ :: suite) pos :: rest)) Q₁ E s₃) E s₂) E s' := by
  obtain ⟨B, a0, hB, hl, hfl⟩ := R
  have hL : B.get? L = none := by
    obtain ⟨_, ⟨L', _, hf, hn', _⟩, _⟩ := hfl.2.2.1
    obtain rfl : L = L' := Option.some.inj hf
    exact hn'
  refine wpAny_looks_onW (Around.frames_deeper Kb.stack) rfl hfl fun h₄ hheld₄ hsm₄ => ?_
  refine wpAny_landsW hheld₄ fun h₅ hheld hsm₅' => ?_
  have hsm₅ := hsm₄.trans hsm₅'
  have hheld' := flyingW_base hB hheld
  have F₅ := F.of_stays hheld'.1 (hsm.trans hsm₅)
  obtain ⟨ob, hob, hobc⟩ := hheld'.there
  subst hobc
  have LT : Looks (model prog w) h₅ (typeOf (.ref e)) ob.cls := (Looks.ld hob).andThen .now
  refine wpAny_handleBy_cons (codeAny_handlers_test (kts_name hc F₅ X T ((exm_one (X.keeps F₅.keep) LT he).here ?_) hk hx hd)) (by intro q; cases q)
  refine codeAny_handlers_suite ?_
  refine lands_againW hheld fun h₆ hfl₆ hsm₆ => ?_
  have F₆ := F.of_stays (flyingW_base hB hfl₆).1 ((hsm.trans hsm₅).trans hsm₆)
  exact wpAny_passesOwnAt hE (k h₆ F₆ fun q hq => ⟨hfl₆.1 _ _ (hl q hq).1, (fun z => by have := (hl q hq).1; rw [z, hL] at this; cases this), (hl q hq).2⟩)

theorem ml_29 {y mo : Int} (hm : mo = 2) (h : y.fmod 400 = 0 ∨ (y.fmod 4 = 0 ∧ 0 < y.fmod 100)) : 29 = monthLen y mo := by
  rw [monthLen, if_pos hm, if_pos ((law_leap y).mp h)]
theorem ml_28 {y mo : Int} (hm : mo = 2) (h : ¬ (y.fmod 400 = 0 ∨ (y.fmod 4 = 0 ∧ 0 < y.fmod 100))) : 28 = monthLen y mo := by
  rw [monthLen, if_pos hm, if_neg fun q => h ((law_leap y).mpr q)]
theorem ml_tab {y mo : Int} (h1 : 1 ≤ mo) (h2 : mo ≤ 12) (h : mo ≠ 2) : [31, 0, 31, 30, 31, 30, 31, 31, 30, 31, 30, 31].getD (mo - 1).toNat 0 = monthLen y mo := by
  obtain ⟨n, rfl⟩ : ∃ n : Nat, mo = n + 1 := ⟨(mo - 1).toNat, by lia⟩
  rw [monthLen, if_neg h, show ((n : Int) + 1 - 1).toNat = n by lia]
  have key : ∀ n : Nat, n < 12 → (n : Int) + 1 ≠ 2 → ([31, 0, 31, 30, 31, 30, 31, 31, 30, 31, 30, 31] : List Int).getD n 0 = if (n : Int) + 1 = 4 ∨ (n : Int) + 1 = 6 ∨ (n : Int) + 1 = 9 ∨ (n : Int) + 1 = 11 then 30 else 31 := by decide
  exact key n (by lia) h

abbrev ktrTopH (hv : Option Value) (dp un : Nat) (gd : Option (List Code)) (cn : Str) (cs : Scope) (L a : Addr) (ccd : Value) (cl : List (Str × Addr)) (outer : List Env) : Around := { handled := hv, depth := dp, frames := some (envX cn cs L a ccd cl :: outer), guards := gd, units := un }
theorem c_law_daysH {hv : Option Value} {y mo : Int} {ty tm : Tok} (h1 : 1 ≤ mo) (h2 : mo ≤ 12) (B : Below A₀ base outer h₀) (F : Fr h₀ L s.heap m) (X : (hd.heap_39 w.params).In h₀) (T : Top p loose mean mg mb h₀) (hk : cs.kind = .function)
    (hdp : dp + 1 < recursionLimit) (hun : un + 8 < cLine)
    (hret : ∀ t h' tk', Keeps s.heap h' → Q (.int (monthLen y mo) t) { s with heap := h', toks := tk' }) :
    wpAny (model prog w) (ktrTopH hv dp un gd cn cs L a ccd cl outer) (call (.ref 380) [.int y ty, .int mo tm]) Q E s := by
  refine wpAny_call ?_
  k_dflt (walk_at "m_enter")
  intro g L1 h1 FG F1 N1 B1 X1 T1 hKG hGK
  walk_at "m_fold"
  refine letA ?_
  intro A9 Q9 E9
  k_steps
  all_goals (refine ret_int hret ?_ (hKG.trans (Fr.keep (L := L1) (h₀ := g) (by k_asm))))
  all_goals first
    | exact ml_29 (by assumption) (.inl (by assumption))
    | exact ml_29 (by assumption) (.inr ⟨by assumption, by assumption⟩)
    | exact ml_28 (by assumption) (fun h => h.elim (by assumption) fun q => absurd q.1 (by assumption))
    | exact ml_28 (by assumption) (fun h => h.elim (by assumption) fun q => absurd q.2 (by assumption))
    | exact ml_tab (by assumption) (by assumption) (by assumption)
theorem pow_w {r : Int} (h0 : 0 ≤ r) (h1 : r < 5) : (0 : Int) < 10 ^ (1 + r).toNat ∧ (10 : Int) ^ (1 + r).toNat ≤ 100000 := by
  obtain ⟨n, rfl⟩ := Int.eq_ofNat_of_zero_le h0
  have h2 : n < 5 := by lia
  match n, h2 with
  | 0, _ => decide
  | 1, _ => decide
  | 2, _ => decide
  | 3, _ => decide
  | 4, _ => decide
local macro_rules | `(tactic| walk_at "exec Assign cons Subscript") => `(tactic| (k_here; (have hm9 : Mark9 := by assumption); clear hm9; refine stop_ ?_))
local macro_rules | `(tactic| walk_at "exec Assign cons IfExp") => `(tactic| (k_here; (have hm9 : Mark9 := by assumption); clear hm9; refine stop_ ?_))
def LawMid (h₀ : Heap) (L P C : Addr) (c : Nat) (us : List Value) (c2 : Nat) (s s' : Shared) : Prop := ∃ h' tk m' figs t' g1 s1 a1 a2 a3, s' = { s with heap := h', toks := tk } ∧ Fr h₀ L h' m' ∧ m' (Str.ofString "pool") = some (.ref P) ∧ m' (Str.ofString "figures") = some (.str figs t') ∧ News h₀ L h' [(P, listOf [Value.ref C, .int g1 a1, .int s1 a2, .int (0 + 1 + 1) a3].toArray c), (C, listOf us.toArray c2)] ∧ 0 ≤ g1 ∧ 1 ≤ figs.cps.size ∧ figs.cps.size ≤ 5 ∧ ∀ x ∈ figs.cps.toList, 48 ≤ x ∧ x ≤ 57
theorem cut_law {M : Model} {A : Around} {t : Sem Flow} {Q : Flow → Shared → Prop} {P C : Addr} {c : Nat} {us : List Value} {c2 : Nat} (F : Fr h₀ L s.heap m) (h1 : wpAny M A t (fun fl s' => Stop (fl = .next ∧ LawMid h₀ L P C c us c2 s s')) E s) (h2 : ∀ s', LawMid h₀ L P C c us c2 s s' → Q .next s') : wpAny M A t Q E s :=
  wpAny_mono h1 (fun _ s' h => by obtain ⟨rfl, h⟩ := h; exact h2 s' h) fun _ _ x => x
theorem tup_item {A : Around} {value slice : PySem.Expr} {a : Addr} {l : List Value} {ys : List Str} {k : Int} {u : Tok} {Q : Value → Shared → Prop} (hl : IsTup s.heap a l.toArray) (hi : StrsAre l ys)
    (h0 : 0 ≤ k) (hk : k < ys.length) (hfit : k < 2 ^ 63) (h : ∀ t' x, ys[k.toNat]? = some x → Q (.str x t') s)
    (hs : subscripted slice false (.ref a) (.int k u) = operate [.ref a, .int k u] (getItem (.ref a) (.int k u)) := by with_unfolding_all rfl) :
    wpAny (model prog w) A (subscriptTail value slice (.ref a) (.int k u)) Q E s := by
  have hlt : k.toNat < ys.length := by lia
  have e : ys[k.toNat]? = some ys[k.toNat] := List.getElem?_eq_getElem hlt
  obtain ⟨t, ht⟩ := hi.at e
  have hj : seqIndex? k l.length = some k.toNat := by
    rw [hi.len_eq]
    exact StrLaws.seqIndex_nonneg h0 hk
  exact item_tupleT hl (by lia) hfit hj ht (h _ _ e) hs
local macro_rules | `(tactic| walk_at "subscriptTail") => `(tactic| (k_here; (with_reducible show wpAny _ _ (subscriptTail _ _ (Value.ref _) (Value.int _ _)) _ _ _); refine stop_ ?_))
abbrev heads (a b e : Tok) : Obj := tupO [.str (Str.ofString "") a, .str (Str.ofString "Tue, ") b, .str (Str.ofString "sun ") e]
theorem draw_led {news : List (Addr × Obj)} {h' : Heap} {P C d : Addr} {c c2 : Nat} {us : List Value} {g st pl : Int} {t1 t2 t3 a b e : Tok} (N : News h₀ L h' news) (hm : (P, listOf [Value.ref C, .int g t1, .int st t2, .int pl t3].toArray c) ∈ news) (hs : ∀ p ∈ (C, listOf us.toArray c2) :: ([] : List (Addr × Obj)), p ∈ news) (ht : (d, heads a b e) ∈ news)
    (hne : ∀ p ∈ (C, listOf us.toArray c2) :: ([] : List (Addr × Obj)), p.1 ≠ P) : News h₀ L h' ((P, listOf [Value.ref C, .int g t1, .int st t2, .int pl t3].toArray c) :: (C, listOf us.toArray c2) :: [(d, heads a b e)]) ∧ ∀ p ∈ (C, listOf us.toArray c2) :: [(d, heads a b e)], p.1 ≠ P := by
  refine ⟨fun p hp => ?_, List.forall_mem_cons.mpr ⟨hne _ (.head _), List.forall_mem_cons.mpr ⟨fun q => ?_, fun _ h => (nomatch h)⟩⟩⟩
  · rcases List.mem_cons.mp hp with rfl | hp
    · exact N _ hm
    · rcases List.mem_cons.mp hp with rfl | hp
      · exact N _ (hs _ (.head _))
      · rw [List.mem_singleton.mp hp]; exact N _ ht
  · have e1 := (N _ hm).1
    have e2 := (N _ ht).1
    dsimp only at q e1 e2
    rw [q, e1] at e2
    have z := congrArg (Option.map (·.cls)) e2
    simp at z
theorem isList_keep {h : Heap} {l : Addr} {items : Array Value} (F : Fr h₀ L h m) (x : h₀.IsList l items) : h.IsList l items := by obtain ⟨o, e, r⟩ := x; exact ⟨o, F.keep _ _ e, r⟩
local macro_rules | `(tactic| k_inst) => `(tactic| exact InstAt.of_news (by k_asm) (by k_mem) (by k_mem))
theorem ints4 {l : List Value} {a b c d : Int} (h : IntsAre l [a, b, c, d]) : ∃ t1 t2 t3 t4, l = [.int a t1, .int b t2, .int c t3, .int d t4] := by
  cases h with
  | cons _ t1 h => cases h with
    | cons _ t2 h => cases h with
      | cons _ t3 h => cases h with
        | cons _ t4 h => cases h with
          | nil => exact ⟨t1, t2, t3, t4, rfl⟩
theorem fy4 {y : Int} (h0 : 0 ≤ y) (h1 : y ≤ 9999) : fullYear y ((padS y 4).cps.size : Int) = y := by
  rw [(is_y h0 h1).1]
  rfl
theorem wt_ok {dn mn : Str} {r y : Int} {k : Nat} (hdn : dn ∈ dayN) (hmn : monN[k]? = some mn) (h0 : 0 ≤ r) (h1 : r < 31) (h2 : 0 ≤ y) (h3 : y ≤ 9999) : (codes (wtext dn mn (1 + r) y)).length ≤ 100 ∧ DateIs (codes (wtext dn mn (1 + r) y)) (Str.ofString (toString (1 + r))) mn (padS y 4) := by
  have hm := List.mem_of_getElem? hmn
  have h := (wtext_ok hdn hm (d := 1 + r) (by omega) (by omega) h2 h3).1
  exact ⟨by unfold codes; rw [List.length_map, Array.length_toList]; omega, wtext_date hdn hm (by omega) (by omega) h2 h3⟩
theorem toNat_mo {r : Int} (h0 : 0 ≤ r) (_ : r < 12) : (((1 + r - 1).toNat : Nat) : Int) + 1 = 1 + r := by omega
theorem law_bad2 {x : Str} {rm rd : Int} (hr : ∀ c ∈ x.cps.toList, 48 ≤ c ∧ c ≤ 57) (h0 : 0 ≤ rm) (h1 : rm < 12) (h2 : 0 ≤ rd) (_ : rd < 31)
    (h : x.cps.size < 2 ∨ 4 < x.cps.size ∨ dayOk (fullYear ((NumText.digitsVal x.cps.toList : Nat) : Int) x.cps.size) (1 + rm) (1 + rd) = false) : yearOf x.cps.toList = 0 ∨ monthLen (yearOf x.cps.toList) (1 + rm) < 1 + rd :=
  law_bad hr (by omega) (by omega) (by omega) h
theorem is_d9 {r : Int} (h0 : 0 ≤ r) (h1 : r < 31) : 0 < (Str.ofString (toString (1 + r))).cps.size ∧ (Str.ofString (toString (1 + r))).cps.size ≤ 2 ∧ (∀ c ∈ (Str.ofString (toString (1 + r))).cps.toList, 48 ≤ c ∧ c ≤ 57) ∧ ((NumText.digitsVal (Str.ofString (toString (1 + r))).cps.toList : Nat) : Int) = 1 + r := by
  obtain ⟨a, b, c, d⟩ := is_d (y := 1 + r) (by omega) (by omega)
  exact ⟨by omega, b, c, d⟩
local macro_rules | `(tactic| walk_at "execs cons") => `(tactic| (k_here; (with_reducible refine tok_gen ?_); intro tk))
theorem day_len2 {r : Int} (h0 : 0 ≤ r) (h : r < 31) : (Str.ofString (toString (1 + r))).length ≤ 2 := (len_d (by omega) (by omega)).2
theorem heads_len {k : Nat} {x : Str} (h : lheads[k]? = some x) : x.length ≤ 5 := (show ∀ y ∈ lheads, y.length ≤ 5 by decide +kernel) x (List.mem_of_getElem? h)
theorem lname_len {k : Nat} {x : Str} (h : lname[k]? = some x) : x.length ≤ 3 := (show ∀ y ∈ lname, y.length ≤ 3 by decide +kernel) x (List.mem_of_getElem? h)
theorem lt5 {r : Int} (h : r < 5) : r < 4 ∨ r = 4 := by omega
theorem mid_of {figs : Str} {k : Int} (h : (figs.cps.size : Int) = k ∧ ∀ x ∈ figs.cps.toList, 48 ≤ x ∧ x ≤ 57) (h1 : 1 ≤ k) (h2 : k ≤ 5) : 1 ≤ figs.cps.size ∧ figs.cps.size ≤ 5 ∧ ∀ x ∈ figs.cps.toList, 48 ≤ x ∧ x ≤ 57 :=
  ⟨by omega, by omega, h.2⟩
local macro_rules | `(tactic| k_qdec) => `(tactic| decide +kernel)
theorem law_said : OpenLaw.wellSaid PySem.Challenge.rw_or0057_01 = true := by
  repeat' (first | with_reducible refine look_both ?_ ?_ | delta OpenLaw.wellSaid | delta OpenRow.wellSaid | delta OpenScript.wellSaid | delta looksOpen | delta OpenRow.partSaid)
  all_goals (decide +kernel)
theorem law_holds : PySem.Challenge.rw_or0057_01.Holds := by
  w_on
  refine holds_law law_said fun said => ?_
  refine holds_open (q := hd.view_39) (loose := hd.loose) (Xt := hd.Xt) (XP := XL hd.view_39 hd.lv) (Yf := Hook.obs hd.hook) (Ya := Hook.val hd.hook) (YP := Hook.says hd.hook) (N := 4982) hd.left (Hook.of hd.hook) (Hook.keeps hd.hook) (fun s e => xl_of s (Bool.and_eq_true_iff.mp e).1) XL.keeps (by rfl) (by rfl) (by rfl) (fun s e => recFacts_of (Bool.and_eq_true_iff.mp e).2) (by rfl) (by first | assumption | decide +kernel) (by decide +kernel) ⟨rfl, rfl, rfl, rfl, rfl, by decide +kernel⟩ ?hw ?hc
  case hw => w_witness2
  k_go0
  all_goals (try k_fold)
  (k_steps; repeat (any_goals ((refine Stop.out ?_); (first | (k_here; (with_reducible show wpAny _ _ (call (Value.ref 366) _) _ _ _); (fail_if_success (with_reducible show wpAny _ _ (call (Value.ref 366) [_, Value.int 3 _]) _ _ _)); k_dflt (refine' c_law_draw ?z9hi ?z9hn ?z9hg ?z9hp0 ?z9hp1 ?z9hm ?z9hm2 ?z9hne ?z9B ?z9F ?z9N ?z9X ?z9T ?z9k ?z9d ?z9u ?_; (case z9hne => with_reducible assumption); (case z9hi => with_reducible assumption); (case z9hn => with_reducible assumption); (case z9B => k_asm); (case z9F => k_asm); (case z9N => exact draw_fin (by k_asm) (by k_mem) (by intro p9 hp9; (simp only [List.mem_cons, List.not_mem_nil, or_false] at hp9 ⊢); simp [hp9])); (case z9X => k_asm); (case z9T => k_asm); (case z9k => first | exact rfl | with_reducible assumption); (case z9d => ktr_room); (case z9u => ktr_units); (case z9hg => with_reducible assumption); (case z9hp0 => first | decide | omega); (case z9hp1 => first | decide | omega); (case z9hm => first | decide | omega | exact (pow_w (by omega) (by omega)).1); (case z9hm2 => first | decide | omega | exact (pow_w (by omega) (by omega)).2); k_whole); intro r9 g9 s9 u91 u92 u93 t9 h9 tk9 F' N' hg9 hr9 hq9; (try k_sweep); (try dsimp only); (try k_fold)) | (k_here; (with_reducible show wpAny _ _ (call (Value.ref 380) _) _ _ _); k_dflt (refine' c_law_daysH ?z9a1 ?z9a2 ?z9B ?z9F ?z9X ?z9T ?z9k ?z9d ?z9u ?_; (case z9B => k_asm); (case z9F => k_asm); (case z9X => k_asm); (case z9T => k_asm); (case z9k => first | exact rfl | with_reducible assumption); (case z9d => ktr_room); (case z9u => ktr_units); (case z9a1 => omega); (case z9a2 => omega); k_whole); intro t9 h9 tk9 hK9; walk_at "m_after") | (k_here; (with_reducible show wpAny _ _ (call (Value.ref 158) _) _ _ _); k_dflt (refine' c_mom_told ?z9M ?z9B ?z9F ?z9X ?z9T ?z9k ?z9d ?z9u ?_; (case z9M => first | exact momN (by k_asm) (by k_mem) (by k_mem) | exact MomAt.keeps (Fr.keep (by k_asm)) (by with_reducible assumption)); (case z9B => k_asm); (case z9F => k_asm); (case z9X => k_asm); (case z9T => k_asm); (case z9k => first | exact rfl | with_reducible assumption); (case z9d => ktr_room); (case z9u => ktr_units); k_whole); intro d9 u1 u2 u3 u4 u5 u6 u7 h9 tk9 hK9 hd9 hn9; walk_at "m_after1") | (k_here; (with_reducible show wpAny _ _ (call (Value.ref 373) _) _ _ _); k_dflt (refine' c_law_year ?z9a1 ?z9a2 ?z9a3 ?z9B ?z9F ?z9X ?z9T ?z9k ?z9d ?z9u ?_; (case z9B => k_asm); (case z9F => k_asm); (case z9X => k_asm); (case z9T => k_asm); (case z9k => first | exact rfl | with_reducible assumption); (case z9d => ktr_room); (case z9u => ktr_units); (case z9a1 => first | with_reducible assumption | omega | decide); (case z9a2 => first | with_reducible assumption | omega | decide); (case z9a3 => first | with_reducible assumption | omega | decide); k_whole); intro t9 h9 tk9 hK9; walk_at "m_after") | (k_here; (with_reducible show wpAny _ _ (call (Value.ref 328) _) _ _ _); k_dflt (refine' c_full_year ?z9B ?z9F ?z9X ?z9T ?z9k ?z9d ?z9u ?_; (case z9B => k_asm); (case z9F => k_asm); (case z9X => k_asm); (case z9T => k_asm); (case z9k => first | exact rfl | with_reducible assumption); (case z9d => ktr_room); (case z9u => ktr_units); k_whole); intro t9 h9 tk9 hK9; walk_at "m_after")); k_steps)))
  refine Stop.out ?_
  rename Heap.IsList _ _ _ => hL9
  (with_reducible rename Fr _ _ _ _ => FA)
  rename IntsAre _ _ => hI9
  rename ¬ _ < _ => hz9
  k_dflt (refine c_law_box (isList_keep FA hL9) hI9 (by omega) (by k_asm) (by k_asm) (by k_asm) (by k_asm) rfl (by ktr_room) (by ktr_units) ?_)
  intro P C c c2 us ms great state t1 t2 t3 h1 tk1 hK1 hP hC nP nC hCP hi hn hg
  have FB := hK1.fr FA
  have NB := news_add2 hK1 FA News.nil hP nP hC nC
  have hne9 : ∀ p ∈ (C, listOf us.toArray c2) :: ([] : List (Addr × Obj)), p.1 ≠ P := List.forall_mem_cons.mpr ⟨hCP, fun _ h => (nomatch h)⟩
  clear hK1 hP hC nP nC hCP FA hL9 hI9 hz9
  have mark : Mark9 := ⟨rfl⟩
  walk_at "m_fold"
  (k_steps; repeat (any_goals ((refine Stop.out ?_); (first | (k_here; (with_reducible show wpAny _ _ (call (Value.ref 366) _) _ _ _); (fail_if_success (with_reducible show wpAny _ _ (call (Value.ref 366) [_, Value.int 3 _]) _ _ _)); k_dflt (refine' c_law_draw ?z9hi ?z9hn ?z9hg ?z9hp0 ?z9hp1 ?z9hm ?z9hm2 ?z9hne ?z9B ?z9F ?z9N ?z9X ?z9T ?z9k ?z9d ?z9u ?_; (case z9hne => with_reducible assumption); (case z9hi => with_reducible assumption); (case z9hn => with_reducible assumption); (case z9B => k_asm); (case z9F => k_asm); (case z9N => exact draw_fin (by k_asm) (by k_mem) (by intro p9 hp9; (simp only [List.mem_cons, List.not_mem_nil, or_false] at hp9 ⊢); simp [hp9])); (case z9X => k_asm); (case z9T => k_asm); (case z9k => first | exact rfl | with_reducible assumption); (case z9d => ktr_room); (case z9u => ktr_units); (case z9hg => with_reducible assumption); (case z9hp0 => first | decide | omega); (case z9hp1 => first | decide | omega); (case z9hm => first | decide | omega | exact (pow_w (by omega) (by omega)).1); (case z9hm2 => first | decide | omega | exact (pow_w (by omega) (by omega)).2); k_whole); intro r9 g9 s9 u91 u92 u93 t9 h9 tk9 F' N' hg9 hr9 hq9; (try k_sweep); (try dsimp only); (try k_fold)) | (k_here; (with_reducible show wpAny _ _ (call (Value.ref 380) _) _ _ _); k_dflt (refine' c_law_daysH ?z9a1 ?z9a2 ?z9B ?z9F ?z9X ?z9T ?z9k ?z9d ?z9u ?_; (case z9B => k_asm); (case z9F => k_asm); (case z9X => k_asm); (case z9T => k_asm); (case z9k => first | exact rfl | with_reducible assumption); (case z9d => ktr_room); (case z9u => ktr_units); (case z9a1 => omega); (case z9a2 => omega); k_whole); intro t9 h9 tk9 hK9; walk_at "m_after") | (k_here; (with_reducible show wpAny _ _ (call (Value.ref 158) _) _ _ _); k_dflt (refine' c_mom_told ?z9M ?z9B ?z9F ?z9X ?z9T ?z9k ?z9d ?z9u ?_; (case z9M => first | exact momN (by k_asm) (by k_mem) (by k_mem) | exact MomAt.keeps (Fr.keep (by k_asm)) (by with_reducible assumption)); (case z9B => k_asm); (case z9F => k_asm); (case z9X => k_asm); (case z9T => k_asm); (case z9k => first | exact rfl | with_reducible assumption); (case z9d => ktr_room); (case z9u => ktr_units); k_whole); intro d9 u1 u2 u3 u4 u5 u6 u7 h9 tk9 hK9 hd9 hn9; walk_at "m_after1") | (k_here; (with_reducible show wpAny _ _ (call (Value.ref 373) _) _ _ _); k_dflt (refine' c_law_year ?z9a1 ?z9a2 ?z9a3 ?z9B ?z9F ?z9X ?z9T ?z9k ?z9d ?z9u ?_; (case z9B => k_asm); (case z9F => k_asm); (case z9X => k_asm); (case z9T => k_asm); (case z9k => first | exact rfl | with_reducible assumption); (case z9d => ktr_room); (case z9u => ktr_units); (case z9a1 => first | with_reducible assumption | omega | decide); (case z9a2 => first | with_reducible assumption | omega | decide); (case z9a3 => first | with_reducible assumption | omega | decide); k_whole); intro t9 h9 tk9 hK9; walk_at "m_after") | (k_here; (with_reducible show wpAny _ _ (call (Value.ref 328) _) _ _ _); k_dflt (refine' c_full_year ?z9B ?z9F ?z9X ?z9T ?z9k ?z9d ?z9u ?_; (case z9B => k_asm); (case z9F => k_asm); (case z9X => k_asm); (case z9T => k_asm); (case z9k => first | exact rfl | with_reducible assumption); (case z9d => ktr_room); (case z9u => ktr_units); k_whole); intro t9 h9 tk9 hK9; walk_at "m_after")); k_steps)))
  clear mark
  refine Stop.out ?_
  (with_reducible rename Fr _ _ _ _ => FA)
  (with_reducible rename News _ _ _ _ => NA)
  rename _ < (5 : Int) => hw5
  rename _ < (10 : Int) ^ _ => hp5
  refine cut_law (P := P) (C := C) (c := c) (us := us) (c2 := c2) FA ?_ ?_
  · exact by
      have hq9 := pow_w (h1 := hw5) (by with_reducible assumption)
      have h59 := Int.lt_of_lt_of_le hp5 hq9.2
      have hnl := dg_le (k := 5) (by with_reducible assumption) (by decide) (show _ < (10 : Int) ^ 5 from h59)
      change (Str.ofString (toString _)).length ≤ 5 at hnl
      rcases lt5 hw5 with h4 | h4
      · (k_steps; repeat (any_goals ((refine Stop.out ?_); (first | (k_here; (with_reducible show wpAny _ _ (call (Value.ref 366) _) _ _ _); (fail_if_success (with_reducible show wpAny _ _ (call (Value.ref 366) [_, Value.int 3 _]) _ _ _)); k_dflt (refine' c_law_draw ?z9hi ?z9hn ?z9hg ?z9hp0 ?z9hp1 ?z9hm ?z9hm2 ?z9hne ?z9B ?z9F ?z9N ?z9X ?z9T ?z9k ?z9d ?z9u ?_; (case z9hne => with_reducible assumption); (case z9hi => with_reducible assumption); (case z9hn => with_reducible assumption); (case z9B => k_asm); (case z9F => k_asm); (case z9N => exact draw_fin (by k_asm) (by k_mem) (by intro p9 hp9; (simp only [List.mem_cons, List.not_mem_nil, or_false] at hp9 ⊢); simp [hp9])); (case z9X => k_asm); (case z9T => k_asm); (case z9k => first | exact rfl | with_reducible assumption); (case z9d => ktr_room); (case z9u => ktr_units); (case z9hg => with_reducible assumption); (case z9hp0 => first | decide | omega); (case z9hp1 => first | decide | omega); (case z9hm => first | decide | omega | exact (pow_w (by omega) (by omega)).1); (case z9hm2 => first | decide | omega | exact (pow_w (by omega) (by omega)).2); k_whole); intro r9 g9 s9 u91 u92 u93 t9 h9 tk9 F' N' hg9 hr9 hq9; (try k_sweep); (try dsimp only); (try k_fold)) | (k_here; (with_reducible show wpAny _ _ (call (Value.ref 380) _) _ _ _); k_dflt (refine' c_law_daysH ?z9a1 ?z9a2 ?z9B ?z9F ?z9X ?z9T ?z9k ?z9d ?z9u ?_; (case z9B => k_asm); (case z9F => k_asm); (case z9X => k_asm); (case z9T => k_asm); (case z9k => first | exact rfl | with_reducible assumption); (case z9d => ktr_room); (case z9u => ktr_units); (case z9a1 => omega); (case z9a2 => omega); k_whole); intro t9 h9 tk9 hK9; walk_at "m_after") | (k_here; (with_reducible show wpAny _ _ (call (Value.ref 158) _) _ _ _); k_dflt (refine' c_mom_told ?z9M ?z9B ?z9F ?z9X ?z9T ?z9k ?z9d ?z9u ?_; (case z9M => first | exact momN (by k_asm) (by k_mem) (by k_mem) | exact MomAt.keeps (Fr.keep (by k_asm)) (by with_reducible assumption)); (case z9B => k_asm); (case z9F => k_asm); (case z9X => k_asm); (case z9T => k_asm); (case z9k => first | exact rfl | with_reducible assumption); (case z9d => ktr_room); (case z9u => ktr_units); k_whole); intro d9 u1 u2 u3 u4 u5 u6 u7 h9 tk9 hK9 hd9 hn9; walk_at "m_after1") | (k_here; (with_reducible show wpAny _ _ (call (Value.ref 373) _) _ _ _); k_dflt (refine' c_law_year ?z9a1 ?z9a2 ?z9a3 ?z9B ?z9F ?z9X ?z9T ?z9k ?z9d ?z9u ?_; (case z9B => k_asm); (case z9F => k_asm); (case z9X => k_asm); (case z9T => k_asm); (case z9k => first | exact rfl | with_reducible assumption); (case z9d => ktr_room); (case z9u => ktr_units); (case z9a1 => first | with_reducible assumption | omega | decide); (case z9a2 => first | with_reducible assumption | omega | decide); (case z9a3 => first | with_reducible assumption | omega | decide); k_whole); intro t9 h9 tk9 hK9; walk_at "m_after") | (k_here; (with_reducible show wpAny _ _ (call (Value.ref 328) _) _ _ _); k_dflt (refine' c_full_year ?z9B ?z9F ?z9X ?z9T ?z9k ?z9d ?z9u ?_; (case z9B => k_asm); (case z9F => k_asm); (case z9X => k_asm); (case z9T => k_asm); (case z9k => first | exact rfl | with_reducible assumption); (case z9d => ktr_room); (case z9u => ktr_units); k_whole); intro t9 h9 tk9 hK9; walk_at "m_after")); k_steps)))
        (with_reducible rename Fr _ _ _ _ => FZ)
        (with_reducible rename News _ _ _ _ => NZ)
        refine Stop.out ⟨trivial, _, _, _, _, _, _, _, _, _, _, rfl, FZ, rfl, rfl, NZ, by assumption, mid_of (figs_lt ?_ ?_ ?_) ?_ ?_⟩ <;> omega
      · subst h4
        (k_steps; repeat (any_goals ((refine Stop.out ?_); (first | (k_here; (with_reducible show wpAny _ _ (call (Value.ref 366) _) _ _ _); (fail_if_success (with_reducible show wpAny _ _ (call (Value.ref 366) [_, Value.int 3 _]) _ _ _)); k_dflt (refine' c_law_draw ?z9hi ?z9hn ?z9hg ?z9hp0 ?z9hp1 ?z9hm ?z9hm2 ?z9hne ?z9B ?z9F ?z9N ?z9X ?z9T ?z9k ?z9d ?z9u ?_; (case z9hne => with_reducible assumption); (case z9hi => with_reducible assumption); (case z9hn => with_reducible assumption); (case z9B => k_asm); (case z9F => k_asm); (case z9N => exact draw_fin (by k_asm) (by k_mem) (by intro p9 hp9; (simp only [List.mem_cons, List.not_mem_nil, or_false] at hp9 ⊢); simp [hp9])); (case z9X => k_asm); (case z9T => k_asm); (case z9k => first | exact rfl | with_reducible assumption); (case z9d => ktr_room); (case z9u => ktr_units); (case z9hg => with_reducible assumption); (case z9hp0 => first | decide | omega); (case z9hp1 => first | decide | omega); (case z9hm => first | decide | omega | exact (pow_w (by omega) (by omega)).1); (case z9hm2 => first | decide | omega | exact (pow_w (by omega) (by omega)).2); k_whole); intro r9 g9 s9 u91 u92 u93 t9 h9 tk9 F' N' hg9 hr9 hq9; (try k_sweep); (try dsimp only); (try k_fold)) | (k_here; (with_reducible show wpAny _ _ (call (Value.ref 380) _) _ _ _); k_dflt (refine' c_law_daysH ?z9a1 ?z9a2 ?z9B ?z9F ?z9X ?z9T ?z9k ?z9d ?z9u ?_; (case z9B => k_asm); (case z9F => k_asm); (case z9X => k_asm); (case z9T => k_asm); (case z9k => first | exact rfl | with_reducible assumption); (case z9d => ktr_room); (case z9u => ktr_units); (case z9a1 => omega); (case z9a2 => omega); k_whole); intro t9 h9 tk9 hK9; walk_at "m_after") | (k_here; (with_reducible show wpAny _ _ (call (Value.ref 158) _) _ _ _); k_dflt (refine' c_mom_told ?z9M ?z9B ?z9F ?z9X ?z9T ?z9k ?z9d ?z9u ?_; (case z9M => first | exact momN (by k_asm) (by k_mem) (by k_mem) | exact MomAt.keeps (Fr.keep (by k_asm)) (by with_reducible assumption)); (case z9B => k_asm); (case z9F => k_asm); (case z9X => k_asm); (case z9T => k_asm); (case z9k => first | exact rfl | with_reducible assumption); (case z9d => ktr_room); (case z9u => ktr_units); k_whole); intro d9 u1 u2 u3 u4 u5 u6 u7 h9 tk9 hK9 hd9 hn9; walk_at "m_after1") | (k_here; (with_reducible show wpAny _ _ (call (Value.ref 373) _) _ _ _); k_dflt (refine' c_law_year ?z9a1 ?z9a2 ?z9a3 ?z9B ?z9F ?z9X ?z9T ?z9k ?z9d ?z9u ?_; (case z9B => k_asm); (case z9F => k_asm); (case z9X => k_asm); (case z9T => k_asm); (case z9k => first | exact rfl | with_reducible assumption); (case z9d => ktr_room); (case z9u => ktr_units); (case z9a1 => first | with_reducible assumption | omega | decide); (case z9a2 => first | with_reducible assumption | omega | decide); (case z9a3 => first | with_reducible assumption | omega | decide); k_whole); intro t9 h9 tk9 hK9; walk_at "m_after") | (k_here; (with_reducible show wpAny _ _ (call (Value.ref 328) _) _ _ _); k_dflt (refine' c_full_year ?z9B ?z9F ?z9X ?z9T ?z9k ?z9d ?z9u ?_; (case z9B => k_asm); (case z9F => k_asm); (case z9X => k_asm); (case z9T => k_asm); (case z9k => first | exact rfl | with_reducible assumption); (case z9d => ktr_room); (case z9u => ktr_units); k_whole); intro t9 h9 tk9 hK9; walk_at "m_after")); k_steps)))
        (with_reducible rename Fr _ _ _ _ => FZ)
        (with_reducible rename News _ _ _ _ => NZ)
        refine Stop.out ⟨trivial, _, _, _, _, _, _, _, _, _, _, rfl, FZ, rfl, rfl, NZ, by assumption, mid_of (figs_five ?_) ?_ ?_⟩ <;> omega
  · rintro s' ⟨h2, tk2, m2, figs, tf, g1, s1, a1, a2, a3, rfl, F2, hm2, hm3, N2, hg1, hf1, hf2, hf3⟩
    have F3 := fr_norm [(Str.ofString "pool", .ref P), (Str.ofString "figures", .str figs tf)] F2 (by simp [hm2, hm3])
    clear F2 hm2 hm3 FA NA hw5 hp5
    have mark : Mark9 := ⟨rfl⟩
    walk_at "m_fold"
    (k_steps; repeat (any_goals ((refine Stop.out ?_); (first | (k_here; (with_reducible show wpAny _ _ (call (Value.ref 366) _) _ _ _); (fail_if_success (with_reducible show wpAny _ _ (call (Value.ref 366) [_, Value.int 3 _]) _ _ _)); k_dflt (refine' c_law_draw ?z9hi ?z9hn ?z9hg ?z9hp0 ?z9hp1 ?z9hm ?z9hm2 ?z9hne ?z9B ?z9F ?z9N ?z9X ?z9T ?z9k ?z9d ?z9u ?_; (case z9hne => with_reducible assumption); (case z9hi => with_reducible assumption); (case z9hn => with_reducible assumption); (case z9B => k_asm); (case z9F => k_asm); (case z9N => exact draw_fin (by k_asm) (by k_mem) (by intro p9 hp9; (simp only [List.mem_cons, List.not_mem_nil, or_false] at hp9 ⊢); simp [hp9])); (case z9X => k_asm); (case z9T => k_asm); (case z9k => first | exact rfl | with_reducible assumption); (case z9d => ktr_room); (case z9u => ktr_units); (case z9hg => with_reducible assumption); (case z9hp0 => first | decide | omega); (case z9hp1 => first | decide | omega); (case z9hm => first | decide | omega | exact (pow_w (by omega) (by omega)).1); (case z9hm2 => first | decide | omega | exact (pow_w (by omega) (by omega)).2); k_whole); intro r9 g9 s9 u91 u92 u93 t9 h9 tk9 F' N' hg9 hr9 hq9; (try k_sweep); (try dsimp only); (try k_fold)) | (k_here; (with_reducible show wpAny _ _ (call (Value.ref 380) _) _ _ _); k_dflt (refine' c_law_daysH ?z9a1 ?z9a2 ?z9B ?z9F ?z9X ?z9T ?z9k ?z9d ?z9u ?_; (case z9B => k_asm); (case z9F => k_asm); (case z9X => k_asm); (case z9T => k_asm); (case z9k => first | exact rfl | with_reducible assumption); (case z9d => ktr_room); (case z9u => ktr_units); (case z9a1 => omega); (case z9a2 => omega); k_whole); intro t9 h9 tk9 hK9; walk_at "m_after") | (k_here; (with_reducible show wpAny _ _ (call (Value.ref 158) _) _ _ _); k_dflt (refine' c_mom_told ?z9M ?z9B ?z9F ?z9X ?z9T ?z9k ?z9d ?z9u ?_; (case z9M => first | exact momN (by k_asm) (by k_mem) (by k_mem) | exact MomAt.keeps (Fr.keep (by k_asm)) (by with_reducible assumption)); (case z9B => k_asm); (case z9F => k_asm); (case z9X => k_asm); (case z9T => k_asm); (case z9k => first | exact rfl | with_reducible assumption); (case z9d => ktr_room); (case z9u => ktr_units); k_whole); intro d9 u1 u2 u3 u4 u5 u6 u7 h9 tk9 hK9 hd9 hn9; walk_at "m_after1") | (k_here; (with_reducible show wpAny _ _ (call (Value.ref 373) _) _ _ _); k_dflt (refine' c_law_year ?z9a1 ?z9a2 ?z9a3 ?z9B ?z9F ?z9X ?z9T ?z9k ?z9d ?z9u ?_; (case z9B => k_asm); (case z9F => k_asm); (case z9X => k_asm); (case z9T => k_asm); (case z9k => first | exact rfl | with_reducible assumption); (case z9d => ktr_room); (case z9u => ktr_units); (case z9a1 => first | with_reducible assumption | omega | decide); (case z9a2 => first | with_reducible assumption | omega | decide); (case z9a3 => first | with_reducible assumption | omega | decide); k_whole); intro t9 h9 tk9 hK9; walk_at "m_after") | (k_here; (with_reducible show wpAny _ _ (call (Value.ref 328) _) _ _ _); k_dflt (refine' c_full_year ?z9B ?z9F ?z9X ?z9T ?z9k ?z9d ?z9u ?_; (case z9B => k_asm); (case z9F => k_asm); (case z9X => k_asm); (case z9T => k_asm); (case z9k => first | exact rfl | with_reducible assumption); (case z9d => ktr_room); (case z9u => ktr_units); k_whole); intro t9 h9 tk9 hK9; walk_at "m_after")); k_steps)))
    clear mark
    refine Stop.out ?_
    (k_steps; repeat (any_goals ((refine Stop.out ?_); (first | (k_here; (with_reducible show wpAny _ _ (call (Value.ref 366) _) _ _ _); (fail_if_success (with_reducible show wpAny _ _ (call (Value.ref 366) [_, Value.int 3 _]) _ _ _)); k_dflt (refine' c_law_draw ?z9hi ?z9hn ?z9hg ?z9hp0 ?z9hp1 ?z9hm ?z9hm2 ?z9hne ?z9B ?z9F ?z9N ?z9X ?z9T ?z9k ?z9d ?z9u ?_; (case z9hne => with_reducible assumption); (case z9hi => with_reducible assumption); (case z9hn => with_reducible assumption); (case z9B => k_asm); (case z9F => k_asm); (case z9N => exact draw_fin (by k_asm) (by k_mem) (by intro p9 hp9; (simp only [List.mem_cons, List.not_mem_nil, or_false] at hp9 ⊢); simp [hp9])); (case z9X => k_asm); (case z9T => k_asm); (case z9k => first | exact rfl | with_reducible assumption); (case z9d => ktr_room); (case z9u => ktr_units); (case z9hg => with_reducible assumption); (case z9hp0 => first | decide | omega); (case z9hp1 => first | decide | omega); (case z9hm => first | decide | omega | exact (pow_w (by omega) (by omega)).1); (case z9hm2 => first | decide | omega | exact (pow_w (by omega) (by omega)).2); k_whole); intro r9 g9 s9 u91 u92 u93 t9 h9 tk9 F' N' hg9 hr9 hq9; (try k_sweep); (try dsimp only); (try k_fold)) | (k_here; (with_reducible show wpAny _ _ (call (Value.ref 380) _) _ _ _); k_dflt (refine' c_law_daysH ?z9a1 ?z9a2 ?z9B ?z9F ?z9X ?z9T ?z9k ?z9d ?z9u ?_; (case z9B => k_asm); (case z9F => k_asm); (case z9X => k_asm); (case z9T => k_asm); (case z9k => first | exact rfl | with_reducible assumption); (case z9d => ktr_room); (case z9u => ktr_units); (case z9a1 => omega); (case z9a2 => omega); k_whole); intro t9 h9 tk9 hK9; walk_at "m_after") | (k_here; (with_reducible show wpAny _ _ (call (Value.ref 158) _) _ _ _); k_dflt (refine' c_mom_told ?z9M ?z9B ?z9F ?z9X ?z9T ?z9k ?z9d ?z9u ?_; (case z9M => first | exact momN (by k_asm) (by k_mem) (by k_mem) | exact MomAt.keeps (Fr.keep (by k_asm)) (by with_reducible assumption)); (case z9B => k_asm); (case z9F => k_asm); (case z9X => k_asm); (case z9T => k_asm); (case z9k => first | exact rfl | with_reducible assumption); (case z9d => ktr_room); (case z9u => ktr_units); k_whole); intro d9 u1 u2 u3 u4 u5 u6 u7 h9 tk9 hK9 hd9 hn9; walk_at "m_after1") | (k_here; (with_reducible show wpAny _ _ (call (Value.ref 373) _) _ _ _); k_dflt (refine' c_law_year ?z9a1 ?z9a2 ?z9a3 ?z9B ?z9F ?z9X ?z9T ?z9k ?z9d ?z9u ?_; (case z9B => k_asm); (case z9F => k_asm); (case z9X => k_asm); (case z9T => k_asm); (case z9k => first | exact rfl | with_reducible assumption); (case z9d => ktr_room); (case z9u => ktr_units); (case z9a1 => first | with_reducible assumption | omega | decide); (case z9a2 => first | with_reducible assumption | omega | decide); (case z9a3 => first | with_reducible assumption | omega | decide); k_whole); intro t9 h9 tk9 hK9; walk_at "m_after") | (k_here; (with_reducible show wpAny _ _ (call (Value.ref 328) _) _ _ _); k_dflt (refine' c_full_year ?z9B ?z9F ?z9X ?z9T ?z9k ?z9d ?z9u ?_; (case z9B => k_asm); (case z9F => k_asm); (case z9X => k_asm); (case z9T => k_asm); (case z9k => first | exact rfl | with_reducible assumption); (case z9d => ktr_room); (case z9u => ktr_units); k_whole); intro t9 h9 tk9 hK9; walk_at "m_after")); k_steps)))
    refine Stop.out ?_
    (with_reducible rename News _ _ _ _ => N5)
    k_dflt (refine' tup_item ?ka ?kb ?kc ?kd ?ke ?_ ?kf)
    case ka => exact N5.isTup (by k_mem)
    case kb => exact .cons _ _ (.cons _ _ (.cons _ _ (.cons _ _ (.cons _ _ (.cons _ _ (.cons _ _ (.cons _ _ (.cons _ _ (.cons _ _ (.cons _ _ (.cons _ _ .nil)))))))))))
    case kc => omega
    case kd => (show _ < ((12 : Nat) : Int)); omega
    case ke => omega
    case kf => with_unfolding_all rfl
    intro tn nm hnm
    walk_at "m_fold"
    have markD : Mark9 := ⟨rfl⟩
    (k_steps; repeat (any_goals ((refine Stop.out ?_); (first | (k_here; (with_reducible show wpAny _ _ (call (Value.ref 366) _) _ _ _); (fail_if_success (with_reducible show wpAny _ _ (call (Value.ref 366) [_, Value.int 3 _]) _ _ _)); k_dflt (refine' c_law_draw ?z9hi ?z9hn ?z9hg ?z9hp0 ?z9hp1 ?z9hm ?z9hm2 ?z9hne ?z9B ?z9F ?z9N ?z9X ?z9T ?z9k ?z9d ?z9u ?_; (case z9hne => with_reducible assumption); (case z9hi => with_reducible assumption); (case z9hn => with_reducible assumption); (case z9B => k_asm); (case z9F => k_asm); (case z9N => exact draw_fin (by k_asm) (by k_mem) (by intro p9 hp9; (simp only [List.mem_cons, List.not_mem_nil, or_false] at hp9 ⊢); simp [hp9])); (case z9X => k_asm); (case z9T => k_asm); (case z9k => first | exact rfl | with_reducible assumption); (case z9d => ktr_room); (case z9u => ktr_units); (case z9hg => with_reducible assumption); (case z9hp0 => first | decide | omega); (case z9hp1 => first | decide | omega); (case z9hm => first | decide | omega | exact (pow_w (by omega) (by omega)).1); (case z9hm2 => first | decide | omega | exact (pow_w (by omega) (by omega)).2); k_whole); intro r9 g9 s9 u91 u92 u93 t9 h9 tk9 F' N' hg9 hr9 hq9; (try k_sweep); (try dsimp only); (try k_fold)) | (k_here; (with_reducible show wpAny _ _ (call (Value.ref 380) _) _ _ _); k_dflt (refine' c_law_daysH ?z9a1 ?z9a2 ?z9B ?z9F ?z9X ?z9T ?z9k ?z9d ?z9u ?_; (case z9B => k_asm); (case z9F => k_asm); (case z9X => k_asm); (case z9T => k_asm); (case z9k => first | exact rfl | with_reducible assumption); (case z9d => ktr_room); (case z9u => ktr_units); (case z9a1 => omega); (case z9a2 => omega); k_whole); intro t9 h9 tk9 hK9; walk_at "m_after") | (k_here; (with_reducible show wpAny _ _ (call (Value.ref 158) _) _ _ _); k_dflt (refine' c_mom_told ?z9M ?z9B ?z9F ?z9X ?z9T ?z9k ?z9d ?z9u ?_; (case z9M => first | exact momN (by k_asm) (by k_mem) (by k_mem) | exact MomAt.keeps (Fr.keep (by k_asm)) (by with_reducible assumption)); (case z9B => k_asm); (case z9F => k_asm); (case z9X => k_asm); (case z9T => k_asm); (case z9k => first | exact rfl | with_reducible assumption); (case z9d => ktr_room); (case z9u => ktr_units); k_whole); intro d9 u1 u2 u3 u4 u5 u6 u7 h9 tk9 hK9 hd9 hn9; walk_at "m_after1") | (k_here; (with_reducible show wpAny _ _ (call (Value.ref 373) _) _ _ _); k_dflt (refine' c_law_year ?z9a1 ?z9a2 ?z9a3 ?z9B ?z9F ?z9X ?z9T ?z9k ?z9d ?z9u ?_; (case z9B => k_asm); (case z9F => k_asm); (case z9X => k_asm); (case z9T => k_asm); (case z9k => first | exact rfl | with_reducible assumption); (case z9d => ktr_room); (case z9u => ktr_units); (case z9a1 => first | with_reducible assumption | omega | decide); (case z9a2 => first | with_reducible assumption | omega | decide); (case z9a3 => first | with_reducible assumption | omega | decide); k_whole); intro t9 h9 tk9 hK9; walk_at "m_after") | (k_here; (with_reducible show wpAny _ _ (call (Value.ref 328) _) _ _ _); k_dflt (refine' c_full_year ?z9B ?z9F ?z9X ?z9T ?z9k ?z9d ?z9u ?_; (case z9B => k_asm); (case z9F => k_asm); (case z9X => k_asm); (case z9T => k_asm); (case z9k => first | exact rfl | with_reducible assumption); (case z9d => ktr_room); (case z9u => ktr_units); k_whole); intro t9 h9 tk9 hK9; walk_at "m_after")); k_steps)))
    clear markD
    refine Stop.out ?_
    exact by
      (with_reducible rename News _ _ _ _ => N6)
      k_dflt (have N7 := draw_led (P := P) (C := C) N6 (by k_mem) (by intro p9 hp9; (simp only [List.mem_cons, List.not_mem_nil, or_false] at hp9 ⊢); simp [hp9]) (by k_mem) hne9)
      k_dflt (refine' c_law_draw hi hn ?hg ?hp0 ?hp1 ?hm ?hm2 N7.2 ?B ?F N7.1 ?X ?T rfl ?d ?u ?_)
      case hg => assumption
      case hp0 => decide
      case hp1 => decide
      case hm => decide
      case hm2 => decide
      case B => k_asm
      case F => k_asm
      case X => k_asm
      case T => k_asm
      case d => ktr_room
      case u => ktr_units
      intro r7 g7 s7 u71 u72 u73 t7 h7 tk7 F7 N8 hg7 hr7 hq7
      clear N7 N6
      walk_at "m_fold"
      (k_steps; repeat (any_goals ((refine Stop.out ?_); (first | (k_here; (with_reducible show wpAny _ _ (call (Value.ref 366) _) _ _ _); (fail_if_success (with_reducible show wpAny _ _ (call (Value.ref 366) [_, Value.int 3 _]) _ _ _)); k_dflt (refine' c_law_draw ?z9hi ?z9hn ?z9hg ?z9hp0 ?z9hp1 ?z9hm ?z9hm2 ?z9hne ?z9B ?z9F ?z9N ?z9X ?z9T ?z9k ?z9d ?z9u ?_; (case z9hne => with_reducible assumption); (case z9hi => with_reducible assumption); (case z9hn => with_reducible assumption); (case z9B => k_asm); (case z9F => k_asm); (case z9N => exact draw_fin (by k_asm) (by k_mem) (by intro p9 hp9; (simp only [List.mem_cons, List.not_mem_nil, or_false] at hp9 ⊢); simp [hp9])); (case z9X => k_asm); (case z9T => k_asm); (case z9k => first | exact rfl | with_reducible assumption); (case z9d => ktr_room); (case z9u => ktr_units); (case z9hg => with_reducible assumption); (case z9hp0 => first | decide | omega); (case z9hp1 => first | decide | omega); (case z9hm => first | decide | omega | exact (pow_w (by omega) (by omega)).1); (case z9hm2 => first | decide | omega | exact (pow_w (by omega) (by omega)).2); k_whole); intro r9 g9 s9 u91 u92 u93 t9 h9 tk9 F' N' hg9 hr9 hq9; (try k_sweep); (try dsimp only); (try k_fold)) | (k_here; (with_reducible show wpAny _ _ (call (Value.ref 380) _) _ _ _); k_dflt (refine' c_law_daysH ?z9a1 ?z9a2 ?z9B ?z9F ?z9X ?z9T ?z9k ?z9d ?z9u ?_; (case z9B => k_asm); (case z9F => k_asm); (case z9X => k_asm); (case z9T => k_asm); (case z9k => first | exact rfl | with_reducible assumption); (case z9d => ktr_room); (case z9u => ktr_units); (case z9a1 => omega); (case z9a2 => omega); k_whole); intro t9 h9 tk9 hK9; walk_at "m_after") | (k_here; (with_reducible show wpAny _ _ (call (Value.ref 158) _) _ _ _); k_dflt (refine' c_mom_told ?z9M ?z9B ?z9F ?z9X ?z9T ?z9k ?z9d ?z9u ?_; (case z9M => first | exact momN (by k_asm) (by k_mem) (by k_mem) | exact MomAt.keeps (Fr.keep (by k_asm)) (by with_reducible assumption)); (case z9B => k_asm); (case z9F => k_asm); (case z9X => k_asm); (case z9T => k_asm); (case z9k => first | exact rfl | with_reducible assumption); (case z9d => ktr_room); (case z9u => ktr_units); k_whole); intro d9 u1 u2 u3 u4 u5 u6 u7 h9 tk9 hK9 hd9 hn9; walk_at "m_after1") | (k_here; (with_reducible show wpAny _ _ (call (Value.ref 373) _) _ _ _); k_dflt (refine' c_law_year ?z9a1 ?z9a2 ?z9a3 ?z9B ?z9F ?z9X ?z9T ?z9k ?z9d ?z9u ?_; (case z9B => k_asm); (case z9F => k_asm); (case z9X => k_asm); (case z9T => k_asm); (case z9k => first | exact rfl | with_reducible assumption); (case z9d => ktr_room); (case z9u => ktr_units); (case z9a1 => first | with_reducible assumption | omega | decide); (case z9a2 => first | with_reducible assumption | omega | decide); (case z9a3 => first | with_reducible assumption | omega | decide); k_whole); intro t9 h9 tk9 hK9; walk_at "m_after") | (k_here; (with_reducible show wpAny _ _ (call (Value.ref 328) _) _ _ _); k_dflt (refine' c_full_year ?z9B ?z9F ?z9X ?z9T ?z9k ?z9d ?z9u ?_; (case z9B => k_asm); (case z9F => k_asm); (case z9X => k_asm); (case z9T => k_asm); (case z9k => first | exact rfl | with_reducible assumption); (case z9d => ktr_room); (case z9u => ktr_units); k_whole); intro t9 h9 tk9 hK9; walk_at "m_after")); k_steps)))
      refine Stop.out ?_
      (with_reducible rename News _ _ _ _ => N9)
      k_dflt (refine' tup_item ?ka ?kb ?kc ?kd ?ke ?_ ?kf)
      case ka => exact N9.isTup (by k_mem)
      case kb => exact .cons _ _ (.cons _ _ (.cons _ _ .nil))
      case kc => omega
      case kd => (show _ < ((3 : Nat) : Int)); omega
      case ke => omega
      case kf => with_unfolding_all rfl
      intro th hh hhh
      walk_at "m_fold"
      exact by
        rename _ < (31 : Int) => hday
        rename _ < (12 : Int) => hmon
        have hld := day_len2 (h := hday) (by with_reducible assumption)
        have hhl := heads_len hhh
        have hnl := lname_len hnm
        have hfl : figs.length ≤ 5 := hf2
        (k_steps; repeat (any_goals ((refine Stop.out ?_); (first | (k_here; (with_reducible show wpAny _ _ (call (Value.ref 366) _) _ _ _); (fail_if_success (with_reducible show wpAny _ _ (call (Value.ref 366) [_, Value.int 3 _]) _ _ _)); k_dflt (refine' c_law_draw ?z9hi ?z9hn ?z9hg ?z9hp0 ?z9hp1 ?z9hm ?z9hm2 ?z9hne ?z9B ?z9F ?z9N ?z9X ?z9T ?z9k ?z9d ?z9u ?_; (case z9hne => with_reducible assumption); (case z9hi => with_reducible assumption); (case z9hn => with_reducible assumption); (case z9B => k_asm); (case z9F => k_asm); (case z9N => exact draw_fin (by k_asm) (by k_mem) (by intro p9 hp9; (simp only [List.mem_cons, List.not_mem_nil, or_false] at hp9 ⊢); simp [hp9])); (case z9X => k_asm); (case z9T => k_asm); (case z9k => first | exact rfl | with_reducible assumption); (case z9d => ktr_room); (case z9u => ktr_units); (case z9hg => with_reducible assumption); (case z9hp0 => first | decide | omega); (case z9hp1 => first | decide | omega); (case z9hm => first | decide | omega | exact (pow_w (by omega) (by omega)).1); (case z9hm2 => first | decide | omega | exact (pow_w (by omega) (by omega)).2); k_whole); intro r9 g9 s9 u91 u92 u93 t9 h9 tk9 F' N' hg9 hr9 hq9; (try k_sweep); (try dsimp only); (try k_fold)) | (k_here; (with_reducible show wpAny _ _ (call (Value.ref 380) _) _ _ _); k_dflt (refine' c_law_daysH ?z9a1 ?z9a2 ?z9B ?z9F ?z9X ?z9T ?z9k ?z9d ?z9u ?_; (case z9B => k_asm); (case z9F => k_asm); (case z9X => k_asm); (case z9T => k_asm); (case z9k => first | exact rfl | with_reducible assumption); (case z9d => ktr_room); (case z9u => ktr_units); (case z9a1 => omega); (case z9a2 => omega); k_whole); intro t9 h9 tk9 hK9; walk_at "m_after") | (k_here; (with_reducible show wpAny _ _ (call (Value.ref 158) _) _ _ _); k_dflt (refine' c_mom_told ?z9M ?z9B ?z9F ?z9X ?z9T ?z9k ?z9d ?z9u ?_; (case z9M => first | exact momN (by k_asm) (by k_mem) (by k_mem) | exact MomAt.keeps (Fr.keep (by k_asm)) (by with_reducible assumption)); (case z9B => k_asm); (case z9F => k_asm); (case z9X => k_asm); (case z9T => k_asm); (case z9k => first | exact rfl | with_reducible assumption); (case z9d => ktr_room); (case z9u => ktr_units); k_whole); intro d9 u1 u2 u3 u4 u5 u6 u7 h9 tk9 hK9 hd9 hn9; walk_at "m_after1") | (k_here; (with_reducible show wpAny _ _ (call (Value.ref 373) _) _ _ _); k_dflt (refine' c_law_year ?z9a1 ?z9a2 ?z9a3 ?z9B ?z9F ?z9X ?z9T ?z9k ?z9d ?z9u ?_; (case z9B => k_asm); (case z9F => k_asm); (case z9X => k_asm); (case z9T => k_asm); (case z9k => first | exact rfl | with_reducible assumption); (case z9d => ktr_room); (case z9u => ktr_units); (case z9a1 => first | with_reducible assumption | omega | decide); (case z9a2 => first | with_reducible assumption | omega | decide); (case z9a3 => first | with_reducible assumption | omega | decide); k_whole); intro t9 h9 tk9 hK9; walk_at "m_after") | (k_here; (with_reducible show wpAny _ _ (call (Value.ref 328) _) _ _ _); k_dflt (refine' c_full_year ?z9B ?z9F ?z9X ?z9T ?z9k ?z9d ?z9u ?_; (case z9B => k_asm); (case z9F => k_asm); (case z9X => k_asm); (case z9T => k_asm); (case z9k => first | exact rfl | with_reducible assumption); (case z9d => ktr_room); (case z9u => ktr_units); k_whole); intro t9 h9 tk9 hK9; walk_at "m_after")); k_steps)))
        exact by
          refine Stop.out ?_
          have hd9 := is_d9 (h1 := hday) (by with_reducible assumption)
          have hhm : hh ∈ lheads := List.mem_of_getElem? hhh
          have hnmm : nm ∈ lname := List.mem_of_getElem? hnm
          have hnok := name_ok (x := nm) (by simp [hnmm])
          have hmat := mon_at monIx_l rfl hnm
          have htx := ltext_len hhm hd9.2.1 hd9.2.2.1 hnmm hf2 hf3
          have hdt := ltext_date hhm hd9.1 hd9.2.1 hd9.2.2.1 hnmm (word_digits (by omega) hf3)
          have hin := codes_in htx.2
          (with_reducible rename Fr _ _ _ _ => F2)
          (with_reducible rename News _ _ _ _ => N2)
          refine m_comp (fun _ => true) (MapR isSign (isInt fun c : Nat => (c : Int))) (by decide) (by decide) rfl (by decide) rfl ?_
          (k_steps; repeat (any_goals ((refine Stop.out ?_); (first | (k_here; (with_reducible show wpAny _ _ (call (Value.ref 366) _) _ _ _); (fail_if_success (with_reducible show wpAny _ _ (call (Value.ref 366) [_, Value.int 3 _]) _ _ _)); k_dflt (refine' c_law_draw ?z9hi ?z9hn ?z9hg ?z9hp0 ?z9hp1 ?z9hm ?z9hm2 ?z9hne ?z9B ?z9F ?z9N ?z9X ?z9T ?z9k ?z9d ?z9u ?_; (case z9hne => with_reducible assumption); (case z9hi => with_reducible assumption); (case z9hn => with_reducible assumption); (case z9B => k_asm); (case z9F => k_asm); (case z9N => exact draw_fin (by k_asm) (by k_mem) (by intro p9 hp9; (simp only [List.mem_cons, List.not_mem_nil, or_false] at hp9 ⊢); simp [hp9])); (case z9X => k_asm); (case z9T => k_asm); (case z9k => first | exact rfl | with_reducible assumption); (case z9d => ktr_room); (case z9u => ktr_units); (case z9hg => with_reducible assumption); (case z9hp0 => first | decide | omega); (case z9hp1 => first | decide | omega); (case z9hm => first | decide | omega | exact (pow_w (by omega) (by omega)).1); (case z9hm2 => first | decide | omega | exact (pow_w (by omega) (by omega)).2); k_whole); intro r9 g9 s9 u91 u92 u93 t9 h9 tk9 F' N' hg9 hr9 hq9; (try k_sweep); (try dsimp only); (try k_fold)) | (k_here; (with_reducible show wpAny _ _ (call (Value.ref 380) _) _ _ _); k_dflt (refine' c_law_daysH ?z9a1 ?z9a2 ?z9B ?z9F ?z9X ?z9T ?z9k ?z9d ?z9u ?_; (case z9B => k_asm); (case z9F => k_asm); (case z9X => k_asm); (case z9T => k_asm); (case z9k => first | exact rfl | with_reducible assumption); (case z9d => ktr_room); (case z9u => ktr_units); (case z9a1 => omega); (case z9a2 => omega); k_whole); intro t9 h9 tk9 hK9; walk_at "m_after") | (k_here; (with_reducible show wpAny _ _ (call (Value.ref 158) _) _ _ _); k_dflt (refine' c_mom_told ?z9M ?z9B ?z9F ?z9X ?z9T ?z9k ?z9d ?z9u ?_; (case z9M => first | exact momN (by k_asm) (by k_mem) (by k_mem) | exact MomAt.keeps (Fr.keep (by k_asm)) (by with_reducible assumption)); (case z9B => k_asm); (case z9F => k_asm); (case z9X => k_asm); (case z9T => k_asm); (case z9k => first | exact rfl | with_reducible assumption); (case z9d => ktr_room); (case z9u => ktr_units); k_whole); intro d9 u1 u2 u3 u4 u5 u6 u7 h9 tk9 hK9 hd9 hn9; walk_at "m_after1") | (k_here; (with_reducible show wpAny _ _ (call (Value.ref 373) _) _ _ _); k_dflt (refine' c_law_year ?z9a1 ?z9a2 ?z9a3 ?z9B ?z9F ?z9X ?z9T ?z9k ?z9d ?z9u ?_; (case z9B => k_asm); (case z9F => k_asm); (case z9X => k_asm); (case z9T => k_asm); (case z9k => first | exact rfl | with_reducible assumption); (case z9d => ktr_room); (case z9u => ktr_units); (case z9a1 => first | with_reducible assumption | omega | decide); (case z9a2 => first | with_reducible assumption | omega | decide); (case z9a3 => first | with_reducible assumption | omega | decide); k_whole); intro t9 h9 tk9 hK9; walk_at "m_after") | (k_here; (with_reducible show wpAny _ _ (call (Value.ref 328) _) _ _ _); k_dflt (refine' c_full_year ?z9B ?z9F ?z9X ?z9T ?z9k ?z9d ?z9u ?_; (case z9B => k_asm); (case z9F => k_asm); (case z9X => k_asm); (case z9T => k_asm); (case z9k => first | exact rfl | with_reducible assumption); (case z9d => ktr_room); (case z9u => ktr_units); k_whole); intro t9 h9 tk9 hK9; walk_at "m_after")); k_steps)))
          have htl := htx.1
          have htr := htx.2
          unfold ltext at htl htr hin
          unfold codes at hin
          refine Stop.out ⟨_, _, src_str rfl, by rw [sizeLine_eq]; omega, ?_, ?_, ?_⟩
          · intro C i v s₂ m₂ E' _ _ _ _
            exact wpAny_tests_nil ⟨rfl, Keeps.of s₂ (Keeps.refl _)⟩
          · intro C i v s₂ m₂ E' hP _ hNs hmx hKs
            obtain ⟨c, u, hc, rfl⟩ := hP
            have F3 := hKs.fr F2
            have N3 := hKs.news N2
            (k_steps; repeat (any_goals ((refine Stop.out ?_); (first | (k_here; (with_reducible show wpAny _ _ (call (Value.ref 366) _) _ _ _); (fail_if_success (with_reducible show wpAny _ _ (call (Value.ref 366) [_, Value.int 3 _]) _ _ _)); k_dflt (refine' c_law_draw ?z9hi ?z9hn ?z9hg ?z9hp0 ?z9hp1 ?z9hm ?z9hm2 ?z9hne ?z9B ?z9F ?z9N ?z9X ?z9T ?z9k ?z9d ?z9u ?_; (case z9hne => with_reducible assumption); (case z9hi => with_reducible assumption); (case z9hn => with_reducible assumption); (case z9B => k_asm); (case z9F => k_asm); (case z9N => exact draw_fin (by k_asm) (by k_mem) (by intro p9 hp9; (simp only [List.mem_cons, List.not_mem_nil, or_false] at hp9 ⊢); simp [hp9])); (case z9X => k_asm); (case z9T => k_asm); (case z9k => first | exact rfl | with_reducible assumption); (case z9d => ktr_room); (case z9u => ktr_units); (case z9hg => with_reducible assumption); (case z9hp0 => first | decide | omega); (case z9hp1 => first | decide | omega); (case z9hm => first | decide | omega | exact (pow_w (by omega) (by omega)).1); (case z9hm2 => first | decide | omega | exact (pow_w (by omega) (by omega)).2); k_whole); intro r9 g9 s9 u91 u92 u93 t9 h9 tk9 F' N' hg9 hr9 hq9; (try k_sweep); (try dsimp only); (try k_fold)) | (k_here; (with_reducible show wpAny _ _ (call (Value.ref 380) _) _ _ _); k_dflt (refine' c_law_daysH ?z9a1 ?z9a2 ?z9B ?z9F ?z9X ?z9T ?z9k ?z9d ?z9u ?_; (case z9B => k_asm); (case z9F => k_asm); (case z9X => k_asm); (case z9T => k_asm); (case z9k => first | exact rfl | with_reducible assumption); (case z9d => ktr_room); (case z9u => ktr_units); (case z9a1 => omega); (case z9a2 => omega); k_whole); intro t9 h9 tk9 hK9; walk_at "m_after") | (k_here; (with_reducible show wpAny _ _ (call (Value.ref 158) _) _ _ _); k_dflt (refine' c_mom_told ?z9M ?z9B ?z9F ?z9X ?z9T ?z9k ?z9d ?z9u ?_; (case z9M => first | exact momN (by k_asm) (by k_mem) (by k_mem) | exact MomAt.keeps (Fr.keep (by k_asm)) (by with_reducible assumption)); (case z9B => k_asm); (case z9F => k_asm); (case z9X => k_asm); (case z9T => k_asm); (case z9k => first | exact rfl | with_reducible assumption); (case z9d => ktr_room); (case z9u => ktr_units); k_whole); intro d9 u1 u2 u3 u4 u5 u6 u7 h9 tk9 hK9 hd9 hn9; walk_at "m_after1") | (k_here; (with_reducible show wpAny _ _ (call (Value.ref 373) _) _ _ _); k_dflt (refine' c_law_year ?z9a1 ?z9a2 ?z9a3 ?z9B ?z9F ?z9X ?z9T ?z9k ?z9d ?z9u ?_; (case z9B => k_asm); (case z9F => k_asm); (case z9X => k_asm); (case z9T => k_asm); (case z9k => first | exact rfl | with_reducible assumption); (case z9d => ktr_room); (case z9u => ktr_units); (case z9a1 => first | with_reducible assumption | omega | decide); (case z9a2 => first | with_reducible assumption | omega | decide); (case z9a3 => first | with_reducible assumption | omega | decide); k_whole); intro t9 h9 tk9 hK9; walk_at "m_after") | (k_here; (with_reducible show wpAny _ _ (call (Value.ref 328) _) _ _ _); k_dflt (refine' c_full_year ?z9B ?z9F ?z9X ?z9T ?z9k ?z9d ?z9u ?_; (case z9B => k_asm); (case z9F => k_asm); (case z9X => k_asm); (case z9T => k_asm); (case z9k => first | exact rfl | with_reducible assumption); (case z9d => ktr_room); (case z9u => ktr_units); k_whole); intro t9 h9 tk9 hK9; walk_at "m_after")); k_steps)))
            · exact mapR_sign ⟨_, rfl⟩
            · exact Keeps.of s₂ (Keeps.refl _)
          · intro D c ys vs h' tk hD hys hlen hP hF hKs
            have F3 := hKs.fr F2
            have N3 := hKs.news N2
            have hS := (each_signs hlen hP (by rw [filter_tt] at hF; exact hF)).ints
            walk_at "m_fold"
            (k_steps; repeat (any_goals ((refine Stop.out ?_); (first | (k_here; (with_reducible show wpAny _ _ (call (Value.ref 366) _) _ _ _); (fail_if_success (with_reducible show wpAny _ _ (call (Value.ref 366) [_, Value.int 3 _]) _ _ _)); k_dflt (refine' c_law_draw ?z9hi ?z9hn ?z9hg ?z9hp0 ?z9hp1 ?z9hm ?z9hm2 ?z9hne ?z9B ?z9F ?z9N ?z9X ?z9T ?z9k ?z9d ?z9u ?_; (case z9hne => with_reducible assumption); (case z9hi => with_reducible assumption); (case z9hn => with_reducible assumption); (case z9B => k_asm); (case z9F => k_asm); (case z9N => exact draw_fin (by k_asm) (by k_mem) (by intro p9 hp9; (simp only [List.mem_cons, List.not_mem_nil, or_false] at hp9 ⊢); simp [hp9])); (case z9X => k_asm); (case z9T => k_asm); (case z9k => first | exact rfl | with_reducible assumption); (case z9d => ktr_room); (case z9u => ktr_units); (case z9hg => with_reducible assumption); (case z9hp0 => first | decide | omega); (case z9hp1 => first | decide | omega); (case z9hm => first | decide | omega | exact (pow_w (by omega) (by omega)).1); (case z9hm2 => first | decide | omega | exact (pow_w (by omega) (by omega)).2); k_whole); intro r9 g9 s9 u91 u92 u93 t9 h9 tk9 F' N' hg9 hr9 hq9; (try k_sweep); (try dsimp only); (try k_fold)) | (k_here; (with_reducible show wpAny _ _ (call (Value.ref 380) _) _ _ _); k_dflt (refine' c_law_daysH ?z9a1 ?z9a2 ?z9B ?z9F ?z9X ?z9T ?z9k ?z9d ?z9u ?_; (case z9B => k_asm); (case z9F => k_asm); (case z9X => k_asm); (case z9T => k_asm); (case z9k => first | exact rfl | with_reducible assumption); (case z9d => ktr_room); (case z9u => ktr_units); (case z9a1 => omega); (case z9a2 => omega); k_whole); intro t9 h9 tk9 hK9; walk_at "m_after") | (k_here; (with_reducible show wpAny _ _ (call (Value.ref 158) _) _ _ _); k_dflt (refine' c_mom_told ?z9M ?z9B ?z9F ?z9X ?z9T ?z9k ?z9d ?z9u ?_; (case z9M => first | exact momN (by k_asm) (by k_mem) (by k_mem) | exact MomAt.keeps (Fr.keep (by k_asm)) (by with_reducible assumption)); (case z9B => k_asm); (case z9F => k_asm); (case z9X => k_asm); (case z9T => k_asm); (case z9k => first | exact rfl | with_reducible assumption); (case z9d => ktr_room); (case z9u => ktr_units); k_whole); intro d9 u1 u2 u3 u4 u5 u6 u7 h9 tk9 hK9 hd9 hn9; walk_at "m_after1") | (k_here; (with_reducible show wpAny _ _ (call (Value.ref 373) _) _ _ _); k_dflt (refine' c_law_year ?z9a1 ?z9a2 ?z9a3 ?z9B ?z9F ?z9X ?z9T ?z9k ?z9d ?z9u ?_; (case z9B => k_asm); (case z9F => k_asm); (case z9X => k_asm); (case z9T => k_asm); (case z9k => first | exact rfl | with_reducible assumption); (case z9d => ktr_room); (case z9u => ktr_units); (case z9a1 => first | with_reducible assumption | omega | decide); (case z9a2 => first | with_reducible assumption | omega | decide); (case z9a3 => first | with_reducible assumption | omega | decide); k_whole); intro t9 h9 tk9 hK9; walk_at "m_after") | (k_here; (with_reducible show wpAny _ _ (call (Value.ref 328) _) _ _ _); k_dflt (refine' c_full_year ?z9B ?z9F ?z9X ?z9T ?z9k ?z9d ?z9u ?_; (case z9B => k_asm); (case z9F => k_asm); (case z9X => k_asm); (case z9T => k_asm); (case z9k => first | exact rfl | with_reducible assumption); (case z9d => ktr_room); (case z9u => ktr_units); k_whole); intro t9 h9 tk9 hK9; walk_at "m_after")); k_steps)))
            k_dflt (refine' KBa.make_K F3 N3 rfl ⟨_, hys, rfl, _, rfl⟩ hS ?kin ?kl (fun h'' t'' k'' F4 N4 _ => ?_))
            case kin => exact hin
            case kl => rw [List.length_map, Array.length_toList]; omega
            have hbb := KBa.ints_make hin
            clear F3 N3 hin hP hF hS
            walk_at "m_fold"
            (k_steps; repeat (any_goals ((refine Stop.out ?_); (first | (k_here; (with_reducible show wpAny _ _ (call (Value.ref 366) _) _ _ _); (fail_if_success (with_reducible show wpAny _ _ (call (Value.ref 366) [_, Value.int 3 _]) _ _ _)); k_dflt (refine' c_law_draw ?z9hi ?z9hn ?z9hg ?z9hp0 ?z9hp1 ?z9hm ?z9hm2 ?z9hne ?z9B ?z9F ?z9N ?z9X ?z9T ?z9k ?z9d ?z9u ?_; (case z9hne => with_reducible assumption); (case z9hi => with_reducible assumption); (case z9hn => with_reducible assumption); (case z9B => k_asm); (case z9F => k_asm); (case z9N => exact draw_fin (by k_asm) (by k_mem) (by intro p9 hp9; (simp only [List.mem_cons, List.not_mem_nil, or_false] at hp9 ⊢); simp [hp9])); (case z9X => k_asm); (case z9T => k_asm); (case z9k => first | exact rfl | with_reducible assumption); (case z9d => ktr_room); (case z9u => ktr_units); (case z9hg => with_reducible assumption); (case z9hp0 => first | decide | omega); (case z9hp1 => first | decide | omega); (case z9hm => first | decide | omega | exact (pow_w (by omega) (by omega)).1); (case z9hm2 => first | decide | omega | exact (pow_w (by omega) (by omega)).2); k_whole); intro r9 g9 s9 u91 u92 u93 t9 h9 tk9 F' N' hg9 hr9 hq9; (try k_sweep); (try dsimp only); (try k_fold)) | (k_here; (with_reducible show wpAny _ _ (call (Value.ref 380) _) _ _ _); k_dflt (refine' c_law_daysH ?z9a1 ?z9a2 ?z9B ?z9F ?z9X ?z9T ?z9k ?z9d ?z9u ?_; (case z9B => k_asm); (case z9F => k_asm); (case z9X => k_asm); (case z9T => k_asm); (case z9k => first | exact rfl | with_reducible assumption); (case z9d => ktr_room); (case z9u => ktr_units); (case z9a1 => omega); (case z9a2 => omega); k_whole); intro t9 h9 tk9 hK9; walk_at "m_after") | (k_here; (with_reducible show wpAny _ _ (call (Value.ref 158) _) _ _ _); k_dflt (refine' c_mom_told ?z9M ?z9B ?z9F ?z9X ?z9T ?z9k ?z9d ?z9u ?_; (case z9M => first | exact momN (by k_asm) (by k_mem) (by k_mem) | exact MomAt.keeps (Fr.keep (by k_asm)) (by with_reducible assumption)); (case z9B => k_asm); (case z9F => k_asm); (case z9X => k_asm); (case z9T => k_asm); (case z9k => first | exact rfl | with_reducible assumption); (case z9d => ktr_room); (case z9u => ktr_units); k_whole); intro d9 u1 u2 u3 u4 u5 u6 u7 h9 tk9 hK9 hd9 hn9; walk_at "m_after1") | (k_here; (with_reducible show wpAny _ _ (call (Value.ref 373) _) _ _ _); k_dflt (refine' c_law_year ?z9a1 ?z9a2 ?z9a3 ?z9B ?z9F ?z9X ?z9T ?z9k ?z9d ?z9u ?_; (case z9B => k_asm); (case z9F => k_asm); (case z9X => k_asm); (case z9T => k_asm); (case z9k => first | exact rfl | with_reducible assumption); (case z9d => ktr_room); (case z9u => ktr_units); (case z9a1 => first | with_reducible assumption | omega | decide); (case z9a2 => first | with_reducible assumption | omega | decide); (case z9a3 => first | with_reducible assumption | omega | decide); k_whole); intro t9 h9 tk9 hK9; walk_at "m_after") | (k_here; (with_reducible show wpAny _ _ (call (Value.ref 328) _) _ _ _); k_dflt (refine' c_full_year ?z9B ?z9F ?z9X ?z9T ?z9k ?z9d ?z9u ?_; (case z9B => k_asm); (case z9F => k_asm); (case z9X => k_asm); (case z9T => k_asm); (case z9k => first | exact rfl | with_reducible assumption); (case z9d => ktr_room); (case z9u => ktr_units); k_whole); intro t9 h9 tk9 hK9; walk_at "m_after")); k_steps)))
            exact by
              refine Stop.out ?_
              have hyv := year_full hf3
              have hmo := toNat_mo (by with_reducible assumption) hmon
              k_dflt (refine c_read_D (ks := codes (ltext hh _ nm figs)) hbb (by unfold codes; rw [List.length_map, Array.length_toList]; omega) hdt hd9.1 hd9.2.1 hd9.2.2.1 hd9.2.2.2 (by omega) hnok.2.2 hmat hf1 (by omega) hf3 rfl (by k_asm) (by k_asm) (by k_asm) (by k_asm) rfl (by ktr_room) (by ktr_units) ?_ ?_)
              · intro x hx tkx h2' h4' hok hKx hMx
                rw [hmo] at hok hMx
                exact by
                  have hye := hyv h2' h4'
                  rw [hye.1] at hok hMx
                  have hgd := law_good hok
                  (with_reducible rename Fr _ _ _ _ => F4)
                  (with_reducible rename News _ _ _ _ => N4)
                  have F5 := hKx.fr F4
                  obtain ⟨dx, k1, k2, k3, k4, k5, k6, k7, u1, u2, u3, u4, u5, u6, u7, e1, e2, n1, n2⟩ := hMx.ex
                  have N5 := news_add2 hKx F4 N4 e1 n1 e2 n2
                  clear hKx hMx e1 e2 n1 n2 N4 F4
                  walk_at "m_fold"
                  (k_steps; repeat (any_goals ((refine Stop.out ?_); (first | (k_here; (with_reducible show wpAny _ _ (call (Value.ref 366) _) _ _ _); (fail_if_success (with_reducible show wpAny _ _ (call (Value.ref 366) [_, Value.int 3 _]) _ _ _)); k_dflt (refine' c_law_draw ?z9hi ?z9hn ?z9hg ?z9hp0 ?z9hp1 ?z9hm ?z9hm2 ?z9hne ?z9B ?z9F ?z9N ?z9X ?z9T ?z9k ?z9d ?z9u ?_; (case z9hne => with_reducible assumption); (case z9hi => with_reducible assumption); (case z9hn => with_reducible assumption); (case z9B => k_asm); (case z9F => k_asm); (case z9N => exact draw_fin (by k_asm) (by k_mem) (by intro p9 hp9; (simp only [List.mem_cons, List.not_mem_nil, or_false] at hp9 ⊢); simp [hp9])); (case z9X => k_asm); (case z9T => k_asm); (case z9k => first | exact rfl | with_reducible assumption); (case z9d => ktr_room); (case z9u => ktr_units); (case z9hg => with_reducible assumption); (case z9hp0 => first | decide | omega); (case z9hp1 => first | decide | omega); (case z9hm => first | decide | omega | exact (pow_w (by omega) (by omega)).1); (case z9hm2 => first | decide | omega | exact (pow_w (by omega) (by omega)).2); k_whole); intro r9 g9 s9 u91 u92 u93 t9 h9 tk9 F' N' hg9 hr9 hq9; (try k_sweep); (try dsimp only); (try k_fold)) | (k_here; (with_reducible show wpAny _ _ (call (Value.ref 380) _) _ _ _); k_dflt (refine' c_law_daysH ?z9a1 ?z9a2 ?z9B ?z9F ?z9X ?z9T ?z9k ?z9d ?z9u ?_; (case z9B => k_asm); (case z9F => k_asm); (case z9X => k_asm); (case z9T => k_asm); (case z9k => first | exact rfl | with_reducible assumption); (case z9d => ktr_room); (case z9u => ktr_units); (case z9a1 => omega); (case z9a2 => omega); k_whole); intro t9 h9 tk9 hK9; walk_at "m_after") | (k_here; (with_reducible show wpAny _ _ (call (Value.ref 158) _) _ _ _); k_dflt (refine' c_mom_told ?z9M ?z9B ?z9F ?z9X ?z9T ?z9k ?z9d ?z9u ?_; (case z9M => first | exact momN (by k_asm) (by k_mem) (by k_mem) | exact MomAt.keeps (Fr.keep (by k_asm)) (by with_reducible assumption)); (case z9B => k_asm); (case z9F => k_asm); (case z9X => k_asm); (case z9T => k_asm); (case z9k => first | exact rfl | with_reducible assumption); (case z9d => ktr_room); (case z9u => ktr_units); k_whole); intro d9 u1 u2 u3 u4 u5 u6 u7 h9 tk9 hK9 hd9 hn9; walk_at "m_after1") | (k_here; (with_reducible show wpAny _ _ (call (Value.ref 373) _) _ _ _); k_dflt (refine' c_law_year ?z9a1 ?z9a2 ?z9a3 ?z9B ?z9F ?z9X ?z9T ?z9k ?z9d ?z9u ?_; (case z9B => k_asm); (case z9F => k_asm); (case z9X => k_asm); (case z9T => k_asm); (case z9k => first | exact rfl | with_reducible assumption); (case z9d => ktr_room); (case z9u => ktr_units); (case z9a1 => first | with_reducible assumption | omega | decide); (case z9a2 => first | with_reducible assumption | omega | decide); (case z9a3 => first | with_reducible assumption | omega | decide); k_whole); intro t9 h9 tk9 hK9; walk_at "m_after") | (k_here; (with_reducible show wpAny _ _ (call (Value.ref 328) _) _ _ _); k_dflt (refine' c_full_year ?z9B ?z9F ?z9X ?z9T ?z9k ?z9d ?z9u ?_; (case z9B => k_asm); (case z9F => k_asm); (case z9X => k_asm); (case z9T => k_asm); (case z9k => first | exact rfl | with_reducible assumption); (case z9d => ktr_room); (case z9u => ktr_units); k_whole); intro t9 h9 tk9 hK9; walk_at "m_after")); k_steps)))
                  exact by
                    refine Stop.out ?_
                    (with_reducible rename Fr _ _ _ _ => F9)
                    (with_reducible rename News _ _ _ _ => N9)
                    k_dflt (refine c_write_date (momN N9 (by k_mem) (by k_mem)) hok (by k_asm) (by k_asm) (by k_asm) (by k_asm) rfl (by ktr_room) (by ktr_units) ?_)
                    intro v tv dn mn h21 tk21 hdn hmn hK21 hb21
                    have F10 := hK21.fr F9
                    have N10 := hK21.news N9
                    clear hK21 F9 N9
                    walk_at "m_fold"
                    (k_steps; repeat (any_goals ((refine Stop.out ?_); (first | (k_here; (with_reducible show wpAny _ _ (call (Value.ref 366) _) _ _ _); (fail_if_success (with_reducible show wpAny _ _ (call (Value.ref 366) [_, Value.int 3 _]) _ _ _)); k_dflt (refine' c_law_draw ?z9hi ?z9hn ?z9hg ?z9hp0 ?z9hp1 ?z9hm ?z9hm2 ?z9hne ?z9B ?z9F ?z9N ?z9X ?z9T ?z9k ?z9d ?z9u ?_; (case z9hne => with_reducible assumption); (case z9hi => with_reducible assumption); (case z9hn => with_reducible assumption); (case z9B => k_asm); (case z9F => k_asm); (case z9N => exact draw_fin (by k_asm) (by k_mem) (by intro p9 hp9; (simp only [List.mem_cons, List.not_mem_nil, or_false] at hp9 ⊢); simp [hp9])); (case z9X => k_asm); (case z9T => k_asm); (case z9k => first | exact rfl | with_reducible assumption); (case z9d => ktr_room); (case z9u => ktr_units); (case z9hg => with_reducible assumption); (case z9hp0 => first | decide | omega); (case z9hp1 => first | decide | omega); (case z9hm => first | decide | omega | exact (pow_w (by omega) (by omega)).1); (case z9hm2 => first | decide | omega | exact (pow_w (by omega) (by omega)).2); k_whole); intro r9 g9 s9 u91 u92 u93 t9 h9 tk9 F' N' hg9 hr9 hq9; (try k_sweep); (try dsimp only); (try k_fold)) | (k_here; (with_reducible show wpAny _ _ (call (Value.ref 380) _) _ _ _); k_dflt (refine' c_law_daysH ?z9a1 ?z9a2 ?z9B ?z9F ?z9X ?z9T ?z9k ?z9d ?z9u ?_; (case z9B => k_asm); (case z9F => k_asm); (case z9X => k_asm); (case z9T => k_asm); (case z9k => first | exact rfl | with_reducible assumption); (case z9d => ktr_room); (case z9u => ktr_units); (case z9a1 => omega); (case z9a2 => omega); k_whole); intro t9 h9 tk9 hK9; walk_at "m_after") | (k_here; (with_reducible show wpAny _ _ (call (Value.ref 158) _) _ _ _); k_dflt (refine' c_mom_told ?z9M ?z9B ?z9F ?z9X ?z9T ?z9k ?z9d ?z9u ?_; (case z9M => first | exact momN (by k_asm) (by k_mem) (by k_mem) | exact MomAt.keeps (Fr.keep (by k_asm)) (by with_reducible assumption)); (case z9B => k_asm); (case z9F => k_asm); (case z9X => k_asm); (case z9T => k_asm); (case z9k => first | exact rfl | with_reducible assumption); (case z9d => ktr_room); (case z9u => ktr_units); k_whole); intro d9 u1 u2 u3 u4 u5 u6 u7 h9 tk9 hK9 hd9 hn9; walk_at "m_after1") | (k_here; (with_reducible show wpAny _ _ (call (Value.ref 373) _) _ _ _); k_dflt (refine' c_law_year ?z9a1 ?z9a2 ?z9a3 ?z9B ?z9F ?z9X ?z9T ?z9k ?z9d ?z9u ?_; (case z9B => k_asm); (case z9F => k_asm); (case z9X => k_asm); (case z9T => k_asm); (case z9k => first | exact rfl | with_reducible assumption); (case z9d => ktr_room); (case z9u => ktr_units); (case z9a1 => first | with_reducible assumption | omega | decide); (case z9a2 => first | with_reducible assumption | omega | decide); (case z9a3 => first | with_reducible assumption | omega | decide); k_whole); intro t9 h9 tk9 hK9; walk_at "m_after") | (k_here; (with_reducible show wpAny _ _ (call (Value.ref 328) _) _ _ _); k_dflt (refine' c_full_year ?z9B ?z9F ?z9X ?z9T ?z9k ?z9d ?z9u ?_; (case z9B => k_asm); (case z9F => k_asm); (case z9X => k_asm); (case z9T => k_asm); (case z9k => first | exact rfl | with_reducible assumption); (case z9d => ktr_room); (case z9u => ktr_units); k_whole); intro t9 h9 tk9 hK9; walk_at "m_after")); k_steps)))
                    refine Stop.out ?_
                    have hwt := wt_ok hdn hmn (by with_reducible assumption) hday hye.2.2 hye.2.1
                    have hiy := is_y hye.2.2 hye.2.1
                    have hfy := fy4 hye.2.2 hye.2.1
                    have hmok := name_ok (x := mn) (by simp [List.mem_of_getElem? hmn])
                    k_dflt (refine c_read_D (ks := codes (wtext dn mn (1 + _) (yearOf figs.cps.toList))) hb21 hwt.1 hwt.2 hd9.1 hd9.2.1 hd9.2.2.1 hd9.2.2.2 (by omega) hmok.2.2 (mon_at monIx_m rfl hmn) (by omega) (by omega) hiy.2.1 hiy.2.2 (by k_asm) (by k_asm) (by k_asm) (by k_asm) rfl (by ktr_room) (by ktr_units) ?_ ?_)
                    · intro x2 h22 tk22 _ _ hok2 hK22 hM22
                      rw [hfy, hmo] at hM22
                      clear hok2
                      exact by
                        (with_reducible rename Fr _ _ _ _ => F10)
                        (with_reducible rename News _ _ _ _ => N10)
                        have F11 := hK22.fr F10
                        obtain ⟨dx2, k1', k2', k3', k4', k5', k6', k7', u1', u2', u3', u4', u5', u6', u7', e1, e2, n1, n2⟩ := hM22.ex
                        have N11 := news_add2 hK22 F10 N10 e1 n1 e2 n2
                        clear hK22 hM22 e1 e2 n1 n2 N10 F10
                        walk_at "m_fold"
                        (k_steps; repeat (any_goals ((refine Stop.out ?_); (first | (k_here; (with_reducible show wpAny _ _ (call (Value.ref 366) _) _ _ _); (fail_if_success (with_reducible show wpAny _ _ (call (Value.ref 366) [_, Value.int 3 _]) _ _ _)); k_dflt (refine' c_law_draw ?z9hi ?z9hn ?z9hg ?z9hp0 ?z9hp1 ?z9hm ?z9hm2 ?z9hne ?z9B ?z9F ?z9N ?z9X ?z9T ?z9k ?z9d ?z9u ?_; (case z9hne => with_reducible assumption); (case z9hi => with_reducible assumption); (case z9hn => with_reducible assumption); (case z9B => k_asm); (case z9F => k_asm); (case z9N => exact draw_fin (by k_asm) (by k_mem) (by intro p9 hp9; (simp only [List.mem_cons, List.not_mem_nil, or_false] at hp9 ⊢); simp [hp9])); (case z9X => k_asm); (case z9T => k_asm); (case z9k => first | exact rfl | with_reducible assumption); (case z9d => ktr_room); (case z9u => ktr_units); (case z9hg => with_reducible assumption); (case z9hp0 => first | decide | omega); (case z9hp1 => first | decide | omega); (case z9hm => first | decide | omega | exact (pow_w (by omega) (by omega)).1); (case z9hm2 => first | decide | omega | exact (pow_w (by omega) (by omega)).2); k_whole); intro r9 g9 s9 u91 u92 u93 t9 h9 tk9 F' N' hg9 hr9 hq9; (try k_sweep); (try dsimp only); (try k_fold)) | (k_here; (with_reducible show wpAny _ _ (call (Value.ref 380) _) _ _ _); k_dflt (refine' c_law_daysH ?z9a1 ?z9a2 ?z9B ?z9F ?z9X ?z9T ?z9k ?z9d ?z9u ?_; (case z9B => k_asm); (case z9F => k_asm); (case z9X => k_asm); (case z9T => k_asm); (case z9k => first | exact rfl | with_reducible assumption); (case z9d => ktr_room); (case z9u => ktr_units); (case z9a1 => omega); (case z9a2 => omega); k_whole); intro t9 h9 tk9 hK9; walk_at "m_after") | (k_here; (with_reducible show wpAny _ _ (call (Value.ref 158) _) _ _ _); k_dflt (refine' c_mom_told ?z9M ?z9B ?z9F ?z9X ?z9T ?z9k ?z9d ?z9u ?_; (case z9M => first | exact momN (by k_asm) (by k_mem) (by k_mem) | exact MomAt.keeps (Fr.keep (by k_asm)) (by with_reducible assumption)); (case z9B => k_asm); (case z9F => k_asm); (case z9X => k_asm); (case z9T => k_asm); (case z9k => first | exact rfl | with_reducible assumption); (case z9d => ktr_room); (case z9u => ktr_units); k_whole); intro d9 u1 u2 u3 u4 u5 u6 u7 h9 tk9 hK9 hd9 hn9; walk_at "m_after1") | (k_here; (with_reducible show wpAny _ _ (call (Value.ref 373) _) _ _ _); k_dflt (refine' c_law_year ?z9a1 ?z9a2 ?z9a3 ?z9B ?z9F ?z9X ?z9T ?z9k ?z9d ?z9u ?_; (case z9B => k_asm); (case z9F => k_asm); (case z9X => k_asm); (case z9T => k_asm); (case z9k => first | exact rfl | with_reducible assumption); (case z9d => ktr_room); (case z9u => ktr_units); (case z9a1 => first | with_reducible assumption | omega | decide); (case z9a2 => first | with_reducible assumption | omega | decide); (case z9a3 => first | with_reducible assumption | omega | decide); k_whole); intro t9 h9 tk9 hK9; walk_at "m_after") | (k_here; (with_reducible show wpAny _ _ (call (Value.ref 328) _) _ _ _); k_dflt (refine' c_full_year ?z9B ?z9F ?z9X ?z9T ?z9k ?z9d ?z9u ?_; (case z9B => k_asm); (case z9F => k_asm); (case z9X => k_asm); (case z9T => k_asm); (case z9k => first | exact rfl | with_reducible assumption); (case z9d => ktr_room); (case z9u => ktr_units); k_whole); intro t9 h9 tk9 hK9; walk_at "m_after")); k_steps)))
                        exact by
                          refine Stop.out ?_
                          (with_reducible rename Fr _ _ _ _ => F2)
                          (with_reducible rename News _ _ _ _ => N2)
                          refine m_comp (fun _ => true) (MapR (isInt fun n : Int => n) (isInt fun n => fullYear n 2)) (by decide) (by decide) rfl (by decide) rfl ?_
                          (k_steps; repeat (any_goals ((refine Stop.out ?_); (first | (k_here; (with_reducible show wpAny _ _ (call (Value.ref 366) _) _ _ _); (fail_if_success (with_reducible show wpAny _ _ (call (Value.ref 366) [_, Value.int 3 _]) _ _ _)); k_dflt (refine' c_law_draw ?z9hi ?z9hn ?z9hg ?z9hp0 ?z9hp1 ?z9hm ?z9hm2 ?z9hne ?z9B ?z9F ?z9N ?z9X ?z9T ?z9k ?z9d ?z9u ?_; (case z9hne => with_reducible assumption); (case z9hi => with_reducible assumption); (case z9hn => with_reducible assumption); (case z9B => k_asm); (case z9F => k_asm); (case z9N => exact draw_fin (by k_asm) (by k_mem) (by intro p9 hp9; (simp only [List.mem_cons, List.not_mem_nil, or_false] at hp9 ⊢); simp [hp9])); (case z9X => k_asm); (case z9T => k_asm); (case z9k => first | exact rfl | with_reducible assumption); (case z9d => ktr_room); (case z9u => ktr_units); (case z9hg => with_reducible assumption); (case z9hp0 => first | decide | omega); (case z9hp1 => first | decide | omega); (case z9hm => first | decide | omega | exact (pow_w (by omega) (by omega)).1); (case z9hm2 => first | decide | omega | exact (pow_w (by omega) (by omega)).2); k_whole); intro r9 g9 s9 u91 u92 u93 t9 h9 tk9 F' N' hg9 hr9 hq9; (try k_sweep); (try dsimp only); (try k_fold)) | (k_here; (with_reducible show wpAny _ _ (call (Value.ref 380) _) _ _ _); k_dflt (refine' c_law_daysH ?z9a1 ?z9a2 ?z9B ?z9F ?z9X ?z9T ?z9k ?z9d ?z9u ?_; (case z9B => k_asm); (case z9F => k_asm); (case z9X => k_asm); (case z9T => k_asm); (case z9k => first | exact rfl | with_reducible assumption); (case z9d => ktr_room); (case z9u => ktr_units); (case z9a1 => omega); (case z9a2 => omega); k_whole); intro t9 h9 tk9 hK9; walk_at "m_after") | (k_here; (with_reducible show wpAny _ _ (call (Value.ref 158) _) _ _ _); k_dflt (refine' c_mom_told ?z9M ?z9B ?z9F ?z9X ?z9T ?z9k ?z9d ?z9u ?_; (case z9M => first | exact momN (by k_asm) (by k_mem) (by k_mem) | exact MomAt.keeps (Fr.keep (by k_asm)) (by with_reducible assumption)); (case z9B => k_asm); (case z9F => k_asm); (case z9X => k_asm); (case z9T => k_asm); (case z9k => first | exact rfl | with_reducible assumption); (case z9d => ktr_room); (case z9u => ktr_units); k_whole); intro d9 u1 u2 u3 u4 u5 u6 u7 h9 tk9 hK9 hd9 hn9; walk_at "m_after1") | (k_here; (with_reducible show wpAny _ _ (call (Value.ref 373) _) _ _ _); k_dflt (refine' c_law_year ?z9a1 ?z9a2 ?z9a3 ?z9B ?z9F ?z9X ?z9T ?z9k ?z9d ?z9u ?_; (case z9B => k_asm); (case z9F => k_asm); (case z9X => k_asm); (case z9T => k_asm); (case z9k => first | exact rfl | with_reducible assumption); (case z9d => ktr_room); (case z9u => ktr_units); (case z9a1 => first | with_reducible assumption | omega | decide); (case z9a2 => first | with_reducible assumption | omega | decide); (case z9a3 => first | with_reducible assumption | omega | decide); k_whole); intro t9 h9 tk9 hK9; walk_at "m_after") | (k_here; (with_reducible show wpAny _ _ (call (Value.ref 328) _) _ _ _); k_dflt (refine' c_full_year ?z9B ?z9F ?z9X ?z9T ?z9k ?z9d ?z9u ?_; (case z9B => k_asm); (case z9F => k_asm); (case z9X => k_asm); (case z9T => k_asm); (case z9k => first | exact rfl | with_reducible assumption); (case z9d => ktr_room); (case z9u => ktr_units); k_whole); intro t9 h9 tk9 hK9; walk_at "m_after")); k_steps)))
                          (with_reducible rename Fr _ _ _ _ => F5)
                          (with_reducible rename News _ _ _ _ => N5)
                          exact by
                            have hT : Heap.IsTuple _ _ _ := ⟨_, N5.get (.head _), rfl, _, rfl⟩
                            refine Stop.out ⟨_, _, src_tuple rfl hT, by rw [sizeLine_eq]; show (4 : Nat) ≤ _; decide, ?_, ?_, ?_⟩
                            · intro C i v s₂ m₂ E' _ _ _ _
                              exact wpAny_tests_nil ⟨rfl, Keeps.of s₂ (Keeps.refl _)⟩
                            · intro C i v s₂ m₂ E' hP _ hNs hmx hKs
                              have hv : ∃ n u, v = Value.int n u := by
                                have hi := (Array.getElem?_eq_some_iff.mp hP).1
                                match i, hi, hP with
                                | 0, _, h => exact ⟨_, _, (Option.some.inj h).symm⟩
                                | 1, _, h => exact ⟨_, _, (Option.some.inj h).symm⟩
                                | 2, _, h => exact ⟨_, _, (Option.some.inj h).symm⟩
                                | 3, _, h => exact ⟨_, _, (Option.some.inj h).symm⟩
                                | n + 4, hi, _ => exact absurd hi (by simp)
                              obtain ⟨n, u, rfl⟩ := hv
                              have F3 := hKs.fr F5
                              have N3 := hKs.news N5
                              clear F5 N5 hP hT
                              (k_steps; repeat (any_goals ((refine Stop.out ?_); (first | (k_here; (with_reducible show wpAny _ _ (call (Value.ref 366) _) _ _ _); (fail_if_success (with_reducible show wpAny _ _ (call (Value.ref 366) [_, Value.int 3 _]) _ _ _)); k_dflt (refine' c_law_draw ?z9hi ?z9hn ?z9hg ?z9hp0 ?z9hp1 ?z9hm ?z9hm2 ?z9hne ?z9B ?z9F ?z9N ?z9X ?z9T ?z9k ?z9d ?z9u ?_; (case z9hne => with_reducible assumption); (case z9hi => with_reducible assumption); (case z9hn => with_reducible assumption); (case z9B => k_asm); (case z9F => k_asm); (case z9N => exact draw_fin (by k_asm) (by k_mem) (by intro p9 hp9; (simp only [List.mem_cons, List.not_mem_nil, or_false] at hp9 ⊢); simp [hp9])); (case z9X => k_asm); (case z9T => k_asm); (case z9k => first | exact rfl | with_reducible assumption); (case z9d => ktr_room); (case z9u => ktr_units); (case z9hg => with_reducible assumption); (case z9hp0 => first | decide | omega); (case z9hp1 => first | decide | omega); (case z9hm => first | decide | omega | exact (pow_w (by omega) (by omega)).1); (case z9hm2 => first | decide | omega | exact (pow_w (by omega) (by omega)).2); k_whole); intro r9 g9 s9 u91 u92 u93 t9 h9 tk9 F' N' hg9 hr9 hq9; (try k_sweep); (try dsimp only); (try k_fold)) | (k_here; (with_reducible show wpAny _ _ (call (Value.ref 380) _) _ _ _); k_dflt (refine' c_law_daysH ?z9a1 ?z9a2 ?z9B ?z9F ?z9X ?z9T ?z9k ?z9d ?z9u ?_; (case z9B => k_asm); (case z9F => k_asm); (case z9X => k_asm); (case z9T => k_asm); (case z9k => first | exact rfl | with_reducible assumption); (case z9d => ktr_room); (case z9u => ktr_units); (case z9a1 => omega); (case z9a2 => omega); k_whole); intro t9 h9 tk9 hK9; walk_at "m_after") | (k_here; (with_reducible show wpAny _ _ (call (Value.ref 158) _) _ _ _); k_dflt (refine' c_mom_told ?z9M ?z9B ?z9F ?z9X ?z9T ?z9k ?z9d ?z9u ?_; (case z9M => first | exact momN (by k_asm) (by k_mem) (by k_mem) | exact MomAt.keeps (Fr.keep (by k_asm)) (by with_reducible assumption)); (case z9B => k_asm); (case z9F => k_asm); (case z9X => k_asm); (case z9T => k_asm); (case z9k => first | exact rfl | with_reducible assumption); (case z9d => ktr_room); (case z9u => ktr_units); k_whole); intro d9 u1 u2 u3 u4 u5 u6 u7 h9 tk9 hK9 hd9 hn9; walk_at "m_after1") | (k_here; (with_reducible show wpAny _ _ (call (Value.ref 373) _) _ _ _); k_dflt (refine' c_law_year ?z9a1 ?z9a2 ?z9a3 ?z9B ?z9F ?z9X ?z9T ?z9k ?z9d ?z9u ?_; (case z9B => k_asm); (case z9F => k_asm); (case z9X => k_asm); (case z9T => k_asm); (case z9k => first | exact rfl | with_reducible assumption); (case z9d => ktr_room); (case z9u => ktr_units); (case z9a1 => first | with_reducible assumption | omega | decide); (case z9a2 => first | with_reducible assumption | omega | decide); (case z9a3 => first | with_reducible assumption | omega | decide); k_whole); intro t9 h9 tk9 hK9; walk_at "m_after") | (k_here; (with_reducible show wpAny _ _ (call (Value.ref 328) _) _ _ _); k_dflt (refine' c_full_year ?z9B ?z9F ?z9X ?z9T ?z9k ?z9d ?z9u ?_; (case z9B => k_asm); (case z9F => k_asm); (case z9X => k_asm); (case z9T => k_asm); (case z9k => first | exact rfl | with_reducible assumption); (case z9d => ktr_room); (case z9u => ktr_units); k_whole); intro t9 h9 tk9 hK9; walk_at "m_after")); k_steps)))
                              · exact mapR_int fun a ha => by subst ha; exact ⟨_, rfl⟩
                              · exact Keeps.of s₂ (by with_reducible assumption)
                            · intro D c ys vs h' tk hD hys hlen hP hF hKs
                              have hS := (each_of (R := isInt fun n : Int => n) [0, 49, 50, 99] vs ys.toList hlen (fun j v hv => by
                                have hv := hP j v hv
                                have hi := (Array.getElem?_eq_some_iff.mp hv).1
                                match j, hi, hv with
                                | 0, _, h => exact ⟨_, rfl, _, (Option.some.inj h).symm⟩
                                | 1, _, h => exact ⟨_, rfl, _, (Option.some.inj h).symm⟩
                                | 2, _, h => exact ⟨_, rfl, _, (Option.some.inj h).symm⟩
                                | 3, _, h => exact ⟨_, rfl, _, (Option.some.inj h).symm⟩
                                | n + 4, hi, _ => exact absurd hi (by simp)) (by rw [filter_tt] at hF; exact hF)).ints
                              obtain ⟨l, rfl⟩ : ∃ l : List Value, ys = l.toArray := ⟨ys.toList, by simp⟩
                              replace hS : IntsAre l [2000, 2049, 1950, 1999] := hS
                              obtain ⟨t1, t2, t3, t4, rfl⟩ := ints4 hS
                              have N3 := news_add hKs F5 N5 hys hD
                              have F3 := hKs.fr F5
                              clear F5 N5 hP hT hF hS hD hys
                              repeat ((rename List.length _ ≤ _ => hB9); clear hB9)
                              walk_at "m_fold"
                              (k_steps; repeat (any_goals ((refine Stop.out ?_); (first | (k_here; (with_reducible show wpAny _ _ (call (Value.ref 366) _) _ _ _); (fail_if_success (with_reducible show wpAny _ _ (call (Value.ref 366) [_, Value.int 3 _]) _ _ _)); k_dflt (refine' c_law_draw ?z9hi ?z9hn ?z9hg ?z9hp0 ?z9hp1 ?z9hm ?z9hm2 ?z9hne ?z9B ?z9F ?z9N ?z9X ?z9T ?z9k ?z9d ?z9u ?_; (case z9hne => with_reducible assumption); (case z9hi => with_reducible assumption); (case z9hn => with_reducible assumption); (case z9B => k_asm); (case z9F => k_asm); (case z9N => exact draw_fin (by k_asm) (by k_mem) (by intro p9 hp9; (simp only [List.mem_cons, List.not_mem_nil, or_false] at hp9 ⊢); simp [hp9])); (case z9X => k_asm); (case z9T => k_asm); (case z9k => first | exact rfl | with_reducible assumption); (case z9d => ktr_room); (case z9u => ktr_units); (case z9hg => with_reducible assumption); (case z9hp0 => first | decide | omega); (case z9hp1 => first | decide | omega); (case z9hm => first | decide | omega | exact (pow_w (by omega) (by omega)).1); (case z9hm2 => first | decide | omega | exact (pow_w (by omega) (by omega)).2); k_whole); intro r9 g9 s9 u91 u92 u93 t9 h9 tk9 F' N' hg9 hr9 hq9; (try k_sweep); (try dsimp only); (try k_fold)) | (k_here; (with_reducible show wpAny _ _ (call (Value.ref 380) _) _ _ _); k_dflt (refine' c_law_daysH ?z9a1 ?z9a2 ?z9B ?z9F ?z9X ?z9T ?z9k ?z9d ?z9u ?_; (case z9B => k_asm); (case z9F => k_asm); (case z9X => k_asm); (case z9T => k_asm); (case z9k => first | exact rfl | with_reducible assumption); (case z9d => ktr_room); (case z9u => ktr_units); (case z9a1 => omega); (case z9a2 => omega); k_whole); intro t9 h9 tk9 hK9; walk_at "m_after") | (k_here; (with_reducible show wpAny _ _ (call (Value.ref 158) _) _ _ _); k_dflt (refine' c_mom_told ?z9M ?z9B ?z9F ?z9X ?z9T ?z9k ?z9d ?z9u ?_; (case z9M => first | exact momN (by k_asm) (by k_mem) (by k_mem) | exact MomAt.keeps (Fr.keep (by k_asm)) (by with_reducible assumption)); (case z9B => k_asm); (case z9F => k_asm); (case z9X => k_asm); (case z9T => k_asm); (case z9k => first | exact rfl | with_reducible assumption); (case z9d => ktr_room); (case z9u => ktr_units); k_whole); intro d9 u1 u2 u3 u4 u5 u6 u7 h9 tk9 hK9 hd9 hn9; walk_at "m_after1") | (k_here; (with_reducible show wpAny _ _ (call (Value.ref 373) _) _ _ _); k_dflt (refine' c_law_year ?z9a1 ?z9a2 ?z9a3 ?z9B ?z9F ?z9X ?z9T ?z9k ?z9d ?z9u ?_; (case z9B => k_asm); (case z9F => k_asm); (case z9X => k_asm); (case z9T => k_asm); (case z9k => first | exact rfl | with_reducible assumption); (case z9d => ktr_room); (case z9u => ktr_units); (case z9a1 => first | with_reducible assumption | omega | decide); (case z9a2 => first | with_reducible assumption | omega | decide); (case z9a3 => first | with_reducible assumption | omega | decide); k_whole); intro t9 h9 tk9 hK9; walk_at "m_after") | (k_here; (with_reducible show wpAny _ _ (call (Value.ref 328) _) _ _ _); k_dflt (refine' c_full_year ?z9B ?z9F ?z9X ?z9T ?z9k ?z9d ?z9u ?_; (case z9B => k_asm); (case z9F => k_asm); (case z9X => k_asm); (case z9T => k_asm); (case z9k => first | exact rfl | with_reducible assumption); (case z9d => ktr_room); (case z9u => ktr_units); k_whole); intro t9 h9 tk9 hK9; walk_at "m_after")); k_steps)))
                    · intro e he tke g9 hbc F9 R9 U9
                      exfalso
                      rw [hfy, hmo, hok] at hbc
                      have hs4 := hiy.1
                      rcases hbc with h | h | h
                      · omega
                      · omega
                      · cases h
              · intro e he tke g9 hbc F9 R9 U9
                rw [hmo] at hbc
                have hbx := law_bad2 hf3 (by with_reducible assumption) hmon (by with_reducible assumption) hday hbc
                exact by
                  k_dflt (refine caught_own (K := hd.heap_39 _) (by k_asm) F9 U9 R9 (by k_asm) (topRead_of (by k_asm)) (.inl (by k_is)) (by kts_exm) ?_)
                  intro h10 F10 N10
                  (k_steps; repeat (any_goals ((refine Stop.out ?_); (first | (k_here; (with_reducible show wpAny _ _ (call (Value.ref 366) _) _ _ _); (fail_if_success (with_reducible show wpAny _ _ (call (Value.ref 366) [_, Value.int 3 _]) _ _ _)); k_dflt (refine' c_law_draw ?z9hi ?z9hn ?z9hg ?z9hp0 ?z9hp1 ?z9hm ?z9hm2 ?z9hne ?z9B ?z9F ?z9N ?z9X ?z9T ?z9k ?z9d ?z9u ?_; (case z9hne => with_reducible assumption); (case z9hi => with_reducible assumption); (case z9hn => with_reducible assumption); (case z9B => k_asm); (case z9F => k_asm); (case z9N => exact draw_fin (by k_asm) (by k_mem) (by intro p9 hp9; (simp only [List.mem_cons, List.not_mem_nil, or_false] at hp9 ⊢); simp [hp9])); (case z9X => k_asm); (case z9T => k_asm); (case z9k => first | exact rfl | with_reducible assumption); (case z9d => ktr_room); (case z9u => ktr_units); (case z9hg => with_reducible assumption); (case z9hp0 => first | decide | omega); (case z9hp1 => first | decide | omega); (case z9hm => first | decide | omega | exact (pow_w (by omega) (by omega)).1); (case z9hm2 => first | decide | omega | exact (pow_w (by omega) (by omega)).2); k_whole); intro r9 g9 s9 u91 u92 u93 t9 h9 tk9 F' N' hg9 hr9 hq9; (try k_sweep); (try dsimp only); (try k_fold)) | (k_here; (with_reducible show wpAny _ _ (call (Value.ref 380) _) _ _ _); k_dflt (refine' c_law_daysH ?z9a1 ?z9a2 ?z9B ?z9F ?z9X ?z9T ?z9k ?z9d ?z9u ?_; (case z9B => k_asm); (case z9F => k_asm); (case z9X => k_asm); (case z9T => k_asm); (case z9k => first | exact rfl | with_reducible assumption); (case z9d => ktr_room); (case z9u => ktr_units); (case z9a1 => omega); (case z9a2 => omega); k_whole); intro t9 h9 tk9 hK9; walk_at "m_after") | (k_here; (with_reducible show wpAny _ _ (call (Value.ref 158) _) _ _ _); k_dflt (refine' c_mom_told ?z9M ?z9B ?z9F ?z9X ?z9T ?z9k ?z9d ?z9u ?_; (case z9M => first | exact momN (by k_asm) (by k_mem) (by k_mem) | exact MomAt.keeps (Fr.keep (by k_asm)) (by with_reducible assumption)); (case z9B => k_asm); (case z9F => k_asm); (case z9X => k_asm); (case z9T => k_asm); (case z9k => first | exact rfl | with_reducible assumption); (case z9d => ktr_room); (case z9u => ktr_units); k_whole); intro d9 u1 u2 u3 u4 u5 u6 u7 h9 tk9 hK9 hd9 hn9; walk_at "m_after1") | (k_here; (with_reducible show wpAny _ _ (call (Value.ref 373) _) _ _ _); k_dflt (refine' c_law_year ?z9a1 ?z9a2 ?z9a3 ?z9B ?z9F ?z9X ?z9T ?z9k ?z9d ?z9u ?_; (case z9B => k_asm); (case z9F => k_asm); (case z9X => k_asm); (case z9T => k_asm); (case z9k => first | exact rfl | with_reducible assumption); (case z9d => ktr_room); (case z9u => ktr_units); (case z9a1 => first | with_reducible assumption | omega | decide); (case z9a2 => first | with_reducible assumption | omega | decide); (case z9a3 => first | with_reducible assumption | omega | decide); k_whole); intro t9 h9 tk9 hK9; walk_at "m_after") | (k_here; (with_reducible show wpAny _ _ (call (Value.ref 328) _) _ _ _); k_dflt (refine' c_full_year ?z9B ?z9F ?z9X ?z9T ?z9k ?z9d ?z9u ?_; (case z9B => k_asm); (case z9F => k_asm); (case z9X => k_asm); (case z9T => k_asm); (case z9k => first | exact rfl | with_reducible assumption); (case z9d => ktr_room); (case z9u => ktr_units); k_whole); intro t9 h9 tk9 hK9; walk_at "m_after")); k_steps)))
end Mine
theorem PySem.Challenge.cw_or0057_01_holds : PySem.Challenge.rw_or0057_01.Holds :=
  Mine.law_holds
