import PyProof.Rows.All
import Wide.All
import OpenK.AllK
import Wide.FinOn
import PySem.Challenge.RW_pq0465_01
open PySem PySem.W PyProof.Rows PySem.Calls PySem.Spec
set_option Elab.async false
set_option maxRecDepth 100000
set_option maxHeartbeats 4000000
set_option linter.unusedVariables false
set_option compiler.extract_closed false
namespace Mine
/- the statements of the text that the walk may lean on, by their places -/
def kept : List Nat := [1, 2, 3, 4, 5, 6, 7, 8, 9, 10, 11, 12, 13, 14, 15, 16, 20, 21, 22, 23, 24, 25, 26, 27, 28, 30, 32, 33, 34, 35, 36, 37, 38, 39, 40, 41, 42, 43, 44]
def seenProg : Program := { PySem.Challenge.rw_pq0465_01.prog with main := { PySem.Challenge.rw_pq0465_01.prog.main with body := kept.filterMap fun i => PySem.Challenge.rw_pq0465_01.prog.main.body[i]? } }
section
set_option linter.unusedVariables false
set_option maxHeartbeats 0
set_option autoImplicit false
noncomputable abbrev pP : Program := PySem.Challenge.rw_pq0465_01.row.prog
noncomputable def hAt (i : Nat) : Stmt := pP.main.body.getD i default
noncomputable def hIn (i j : Nat) : Stmt := match hAt i with | .ClassDef _ _ _ b _ _ _ _ _ _ _ => b.getD j default | s => s
noncomputable def hF (st : Stmt) (u : String) (c : Value) (k : Str → Str → Arguments → FuncBody → Scope → Data) : Obj := match st with | .FunctionDef n a b _ _ _ sc _ _ _ => ⟨c, none, k n (Str.ofString u) a (.stmts b) sc, #[]⟩ | _ => default
noncomputable abbrev hO (s : String) : Str := Str.ofString s
noncomputable abbrev hS (s : String) (t : Nat) : Value := .str (Str.ofString s) t
noncomputable abbrev hR (a : Nat) : Value := .ref a
noncomputable abbrev hT (l : List Value) : Obj := ⟨.type "tuple", none, .seq l.toArray 0, #[]⟩
noncomputable abbrev hE (P : Params) (s : String) (t : Nat) (v : Value) : DictEntry := ⟨PyData.keyHash P (Str.ofString s), .str (Str.ofString s) t, v⟩

noncomputable def o_43 (P : Params) : Obj := hT []
noncomputable def o_44 (P : Params) : Obj := .mk .none none (.fields #[]) #[]
noncomputable def o_45 (P : Params) : Obj := .mk (.type "code") none (.fields #[hS "<module>" 182, hS "<module>" 183, hS "/claim/cut.py" 184, .int 1 0, .int 0 0, .int 0 0, .int 0 0, .int 0 0, hR 11, .bool .false, .int 181 0, hR 12, .none, .none, .none, .none, .int 185 0, .int 1 0, hS "/claim/cut.py" 186]) #[]
noncomputable def o_46 (P : Params) : Obj := .mk (.type "frame") none .plain #[some (hR 13), some (hR 3), some (hR 3), none, some (hS "__main__" 164), none, some (hR 0)]
noncomputable def heap_46 (P : Params) : Heap := .mk #[boot_o_0 P, boot_o_1 P, boot_o_2 P, boot_o_3 P, boot_o_4 P, boot_o_5 P, boot_o_6 P, boot_o_7 P, boot_o_8 P, boot_o_9 P, boot_o_10 P, o_43 P, o_44 P, o_45 P, o_46 P] (.mk [] [] [] 0 [] [] .false #[] [] 0 .false .false .false 0 [2000, 10, 10] .false 0 .true [] [] 0 .false)
noncomputable def tree_47 (P : Params) : BT := .node (boot_o_0 P) (.node (boot_o_1 P) (.node (boot_o_3 P) (.node (boot_o_7 P) .nil .nil) (.node (o_43 P) .nil .nil)) (.node (boot_o_5 P) (.node (boot_o_9 P) .nil .nil) (.node (o_45 P) .nil .nil))) (.node (boot_o_2 P) (.node (boot_o_4 P) (.node (boot_o_8 P) .nil .nil) (.node (o_44 P) .nil .nil)) (.node (boot_o_6 P) (.node (boot_o_10 P) .nil .nil) (.node (o_46 P) .nil .nil)))
noncomputable def o_49 (P : Params) : Obj := .mk (.type "dict") none (.dict #[hE P "__name__" 165 (hS "gateloom.checknames" 187), hE P "__doc__" 166 .none, hE P "__package__" 167 .none, hE P "__loader__" 168 (.builtin "__main__.__loader__#opaque"), hE P "__spec__" 169 .none, hE P "__annotations__" 170 (hR 6), hE P "__builtins__" 171 (hR 4), hE P "__file__" 173 (hS "/claim/cut.py" 172), hE P "__cached__" 174 .none, hE P "Report" 230 (hR 38)] 10) #[]
noncomputable def o_50 (P : Params) : Obj := .mk .none none (.fields #[.int 2 0, .int 0 0, hR 20]) #[]
noncomputable def o_51 (P : Params) : Obj := hT []
noncomputable def o_52 (P : Params) : Obj := .mk (.type "builtin_function_or_method") none (.fields #[.builtin "type.__prepare__", .type "type"]) #[]
noncomputable def o_53 (P : Params) : Obj := .mk (.type "dict") none (.dict #[hE P "__module__" 196 (hS "gateloom.checknames" 187), hE P "__qualname__" 198 (hS "Report" 197), hE P "__firstlineno__" 200 (.int 2 199), hE P "__init__" 209 (hR 28), hE P "add" 219 (hR 35), hE P "__static_attributes__" 223 (hR 36)] 6) #[]
noncomputable def o_54 (P : Params) : Obj := hT []
noncomputable def o_55 (P : Params) : Obj := .mk .none none (.fields #[.int 4 0, .int 4 0, hR 27, .int 9 0, .int 4 0, hR 34]) #[]
noncomputable def o_56 (P : Params) : Obj := .mk (.type "code") none (.fields #[hS "Report" 191, hS "Report" 192, hS "/claim/cut.py" 193, .int 2 0, .int 0 0, .int 0 0, .int 0 0, .int 0 0, hR 18, .bool .false, .int 181 0, hR 19, .none, .none, .none, .none, .int 194 0, .int 2 0, hS "/claim/cut.py" 195]) #[]
noncomputable def o_57 (P : Params) : Obj := .mk (.type "frame") none .plain #[some (hR 20), some (hR 3), some (hR 17), none, some (hS "gateloom.checknames" 187), none, some (hR 0)]
noncomputable def o_58 (P : Params) : Obj := hT []
noncomputable def o_59 (P : Params) : Obj := .mk .none none (.fields #[]) #[]
noncomputable def o_60 (P : Params) : Obj := hT [hS "self" 204, hS "names" 205, hS "nettype" 206]
noncomputable def o_61 (P : Params) : Obj := hT []
noncomputable def o_62 (P : Params) : Obj := hF (hIn 1 0) "Report.__init__" .none fun n u a b c => .func ⟨n, u, a, b, c,0, [], .none, .none, .none, .none, none, .none, .none, 0⟩
noncomputable def o_63 (P : Params) : Obj := .mk (.type "code") none (.fields #[hS "__init__" 201, hS "Report.__init__" 202, hS "/claim/cut.py" 203, .int 4 0, .int 3 0, .int 0 0, .int 0 0, .int 3 0, hR 22, .bool .true, .int 181 0, hR 23, .none, hR 24, hR 25, hR 26, .int 207 0, .int 4 0, hS "/claim/cut.py" 208]) #[]
noncomputable def o_64 (P : Params) : Obj := hF (hIn 1 0) "Report.__init__" (.type "function") fun n u a b c => .func ⟨n, u, a, b, c,3, [], .none, .none, .none, hS "gateloom.checknames" 187, none, hR 27, .none, 0⟩
noncomputable def o_65 (P : Params) : Obj := hT []
noncomputable def o_66 (P : Params) : Obj := .mk .none none (.fields #[]) #[]
noncomputable def o_67 (P : Params) : Obj := hT [hS "self" 213, hS "kind" 214, hS "at" 215, hS "detail" 216]
noncomputable def o_68 (P : Params) : Obj := hT []
noncomputable def o_69 (P : Params) : Obj := hF (hIn 1 1) "Report.add" .none fun n u a b c => .func ⟨n, u, a, b, c,0, [], .none, .none, .none, .none, none, .none, .none, 0⟩
noncomputable def o_70 (P : Params) : Obj := .mk (.type "code") none (.fields #[hS "add" 210, hS "Report.add" 211, hS "/claim/cut.py" 212, .int 9 0, .int 4 0, .int 0 0, .int 0 0, .int 3 0, hR 29, .bool .true, .int 181 0, hR 30, .none, hR 31, hR 32, hR 33, .int 217 0, .int 9 0, hS "/claim/cut.py" 218]) #[]
noncomputable def o_71 (P : Params) : Obj := hF (hIn 1 1) "Report.add" (.type "function") fun n u a b c => .func ⟨n, u, a, b, c,3, [], .none, .none, .none, hS "gateloom.checknames" 187, none, hR 34, .none, 0⟩
noncomputable def o_72 (P : Params) : Obj := hT [hS "names" 220, hS "nettype" 221, hS "rows" 222]
noncomputable def o_73 (P : Params) : Obj := .mk (.type "dict") none (.dict #[hE P "__module__" 196 (hS "gateloom.checknames" 187), hE P "__firstlineno__" 200 (.int 2 199), hE P "__init__" 209 (hR 28), hE P "add" 219 (hR 35), hE P "__static_attributes__" 223 (hR 36), hE P "__dict__" 225 (hR 39), hE P "__weakref__" 227 (hR 40), hE P "__doc__" 228 .none] 4) #[]
noncomputable def o_74 (P : Params) : Obj := .mk (.type "type") none (.cls (.mk (hO "Report") [.type "object"] [hR 38, .type "object"] 37 (hO "Report") .true [] [] .false none .false)) #[none, none, some (hS "Report" 189), some (hS "Report" 197), some (.builtin "object.__new__"), some (.bool .true)]
noncomputable def o_75 (P : Params) : Obj := .mk (.type "getset_descriptor") none (.fields #[hS "__dict__" 224, hR 38, .builtin "function.__dict__", .builtin "function.__dict__#set"]) #[]
noncomputable def o_76 (P : Params) : Obj := .mk (.type "getset_descriptor") none (.fields #[hS "__weakref__" 226, hR 38, .builtin "ExceptionGroup.__weakref__", .none]) #[]
noncomputable def o_77 (P : Params) : Obj := .mk (.type "super") none (.fields #[hR 38, hR 38, hR 38]) #[]
noncomputable def o_78 (P : Params) : Obj := .mk (.type "builtin_function_or_method") none (.fields #[.builtin "object.__init_subclass__", hR 38]) #[]
noncomputable def tree_78 (P : Params) : BT := .node (boot_o_0 P) (.node (boot_o_1 P) (.node (o_49 P) (.node (boot_o_7 P) (.node (o_51 P) (.node (o_67 P) .nil .nil) .nil) (.node (o_59 P) (.node (o_75 P) .nil .nil) .nil)) (.node (o_43 P) (.node (o_55 P) (.node (o_71 P) .nil .nil) .nil) (.node (o_63 P) .nil .nil))) (.node (boot_o_5 P) (.node (boot_o_9 P) (.node (o_53 P) (.node (o_69 P) .nil .nil) .nil) (.node (o_61 P) (.node (o_77 P) .nil .nil) .nil)) (.node (o_45 P) (.node (o_57 P) (.node (o_73 P) .nil .nil) .nil) (.node (o_65 P) .nil .nil)))) (.node (boot_o_2 P) (.node (boot_o_4 P) (.node (boot_o_8 P) (.node (o_52 P) (.node (o_68 P) .nil .nil) .nil) (.node (o_60 P) (.node (o_76 P) .nil .nil) .nil)) (.node (o_50 P) (.node (o_56 P) (.node (o_72 P) .nil .nil) .nil) (.node (o_64 P) .nil .nil))) (.node (boot_o_6 P) (.node (boot_o_10 P) (.node (o_54 P) (.node (o_70 P) .nil .nil) .nil) (.node (o_62 P) (.node (o_78 P) .nil .nil) .nil)) (.node (o_46 P) (.node (o_58 P) (.node (o_74 P) .nil .nil) .nil) (.node (o_66 P) .nil .nil))))
noncomputable def o_79 (P : Params) : Obj := .mk (.type "dict") none (.dict #[hE P "__name__" 165 (hS "gateloom.checknames" 187), hE P "__doc__" 166 .none, hE P "__package__" 167 .none, hE P "__loader__" 168 (.builtin "__main__.__loader__#opaque"), hE P "__spec__" 169 .none, hE P "__annotations__" 170 (hR 6), hE P "__builtins__" 171 (hR 4), hE P "__file__" 173 (hS "/claim/cut.py" 172), hE P "__cached__" 174 .none, hE P "Report" 230 (hR 38), hE P "NameTable" 260 (hR 59), hE P "find" 268 (hR 70), hE P "find_routine" 277 (hR 77), hE P "add_name" 289 (hR 84), hE P "add_label" 301 (hR 91), hE P "add_port" 316 (hR 98)] 16) #[]
noncomputable def o_80 (P : Params) : Obj := .mk .none none (.fields #[.int 2 0, .int 0 0, hR 20, .int 11 0, .int 0 0, hR 48, .int 16 0, .int 0 0, hR 69, .int 22 0, .int 0 0, hR 76, .int 30 0, .int 0 0, hR 83, .int 35 0, .int 0 0, hR 90, .int 42 0, .int 0 0, hR 97]) #[]
noncomputable def o_81 (P : Params) : Obj := hT []
noncomputable def o_82 (P : Params) : Obj := .mk (.type "builtin_function_or_method") none (.fields #[.builtin "type.__prepare__", .type "type"]) #[]
noncomputable def o_83 (P : Params) : Obj := .mk (.type "dict") none (.dict #[hE P "__module__" 238 (hS "gateloom.checknames" 187), hE P "__qualname__" 240 (hS "NameTable" 239), hE P "__firstlineno__" 242 (.int 11 241), hE P "__init__" 250 (hR 56), hE P "__static_attributes__" 253 (hR 57)] 5) #[]
noncomputable def o_84 (P : Params) : Obj := hT []
noncomputable def o_85 (P : Params) : Obj := .mk .none none (.fields #[.int 13 0, .int 4 0, hR 55]) #[]
noncomputable def o_86 (P : Params) : Obj := .mk (.type "code") none (.fields #[hS "NameTable" 233, hS "NameTable" 234, hS "/claim/cut.py" 235, .int 11 0, .int 0 0, .int 0 0, .int 0 0, .int 0 0, hR 46, .bool .false, .int 181 0, hR 47, .none, .none, .none, .none, .int 236 0, .int 11 0, hS "/claim/cut.py" 237]) #[]
noncomputable def o_87 (P : Params) : Obj := .mk (.type "frame") none .plain #[some (hR 48), some (hR 3), some (hR 45), none, some (hS "gateloom.checknames" 187), none, some (hR 0)]
noncomputable def o_88 (P : Params) : Obj := hT []
noncomputable def o_89 (P : Params) : Obj := .mk .none none (.fields #[]) #[]
noncomputable def o_90 (P : Params) : Obj := hT [hS "self" 246, hS "parent" 247]
noncomputable def o_91 (P : Params) : Obj := hT []
noncomputable def o_92 (P : Params) : Obj := hF (hIn 2 0) "NameTable.__init__" .none fun n u a b c => .func ⟨n, u, a, b, c,0, [], .none, .none, .none, .none, none, .none, .none, 0⟩
noncomputable def o_93 (P : Params) : Obj := .mk (.type "code") none (.fields #[hS "__init__" 243, hS "NameTable.__init__" 244, hS "/claim/cut.py" 245, .int 13 0, .int 2 0, .int 0 0, .int 0 0, .int 3 0, hR 50, .bool .true, .int 181 0, hR 51, .none, hR 52, hR 53, hR 54, .int 248 0, .int 13 0, hS "/claim/cut.py" 249]) #[]
noncomputable def o_94 (P : Params) : Obj := hF (hIn 2 0) "NameTable.__init__" (.type "function") fun n u a b c => .func ⟨n, u, a, b, c,3, [], .none, .none, .none, hS "gateloom.checknames" 187, none, hR 55, .none, 0⟩
noncomputable def o_95 (P : Params) : Obj := hT [hS "entries" 251, hS "parent" 252]
noncomputable def o_96 (P : Params) : Obj := .mk (.type "dict") none (.dict #[hE P "__module__" 238 (hS "gateloom.checknames" 187), hE P "__firstlineno__" 242 (.int 11 241), hE P "__init__" 250 (hR 56), hE P "__static_attributes__" 253 (hR 57), hE P "__dict__" 255 (hR 60), hE P "__weakref__" 257 (hR 61), hE P "__doc__" 258 .none] 4) #[]
noncomputable def o_97 (P : Params) : Obj := .mk (.type "type") none (.cls (.mk (hO "NameTable") [.type "object"] [hR 59, .type "object"] 58 (hO "NameTable") .true [] [] .false none .false)) #[none, none, some (hS "NameTable" 231), some (hS "NameTable" 239), some (.builtin "object.__new__"), some (.bool .true)]
noncomputable def o_98 (P : Params) : Obj := .mk (.type "getset_descriptor") none (.fields #[hS "__dict__" 254, hR 59, .builtin "function.__dict__", .builtin "function.__dict__#set"]) #[]
noncomputable def o_99 (P : Params) : Obj := .mk (.type "getset_descriptor") none (.fields #[hS "__weakref__" 256, hR 59, .builtin "ExceptionGroup.__weakref__", .none]) #[]
noncomputable def o_100 (P : Params) : Obj := .mk (.type "super") none (.fields #[hR 59, hR 59, hR 59]) #[]
noncomputable def o_101 (P : Params) : Obj := .mk (.type "builtin_function_or_method") none (.fields #[.builtin "object.__init_subclass__", hR 59]) #[]
noncomputable def o_102 (P : Params) : Obj := hT []
noncomputable def o_103 (P : Params) : Obj := .mk .none none (.fields #[]) #[]
noncomputable def o_104 (P : Params) : Obj := hT [hS "table" 264, hS "name" 265]
noncomputable def o_105 (P : Params) : Obj := hT []
noncomputable def o_106 (P : Params) : Obj := hF (hAt 3) "find" .none fun n u a b c => .func ⟨n, u, a, b, c,0, [], .none, .none, .none, .none, none, .none, .none, 0⟩
noncomputable def o_107 (P : Params) : Obj := .mk (.type "code") none (.fields #[hS "find" 261, hS "find" 262, hS "/claim/cut.py" 263, .int 16 0, .int 2 0, .int 0 0, .int 0 0, .int 3 0, hR 64, .bool .true, .int 181 0, hR 65, .none, hR 66, hR 67, hR 68, .int 266 0, .int 16 0, hS "/claim/cut.py" 267]) #[]
noncomputable def o_108 (P : Params) : Obj := hF (hAt 3) "find" (.type "function") fun n u a b c => .func ⟨n, u, a, b, c,3, [], .none, .none, .none, hS "gateloom.checknames" 187, none, hR 69, .none, 0⟩
noncomputable def o_109 (P : Params) : Obj := hT []
noncomputable def o_110 (P : Params) : Obj := .mk .none none (.fields #[]) #[]
noncomputable def o_111 (P : Params) : Obj := hT [hS "table" 272, hS "name" 273, hS "entry" 274]
noncomputable def o_112 (P : Params) : Obj := hT []
noncomputable def o_113 (P : Params) : Obj := hF (hAt 4) "find_routine" .none fun n u a b c => .func ⟨n, u, a, b, c,0, [], .none, .none, .none, .none, none, .none, .none, 0⟩
noncomputable def o_114 (P : Params) : Obj := .mk (.type "code") none (.fields #[hS "find_routine" 269, hS "find_routine" 270, hS "/claim/cut.py" 271, .int 22 0, .int 2 0, .int 0 0, .int 0 0, .int 3 0, hR 71, .bool .true, .int 181 0, hR 72, .none, hR 73, hR 74, hR 75, .int 275 0, .int 22 0, hS "/claim/cut.py" 276]) #[]
noncomputable def o_115 (P : Params) : Obj := hF (hAt 4) "find_routine" (.type "function") fun n u a b c => .func ⟨n, u, a, b, c,3, [], .none, .none, .none, hS "gateloom.checknames" 187, none, hR 76, .none, 0⟩
noncomputable def o_116 (P : Params) : Obj := hT []
noncomputable def o_117 (P : Params) : Obj := .mk .none none (.fields #[]) #[]
noncomputable def o_118 (P : Params) : Obj := hT [hS "report" 281, hS "table" 282, hS "name" 283, hS "what" 284, hS "at" 285, hS "info" 286]
noncomputable def o_119 (P : Params) : Obj := hT []
noncomputable def o_120 (P : Params) : Obj := hF (hAt 5) "add_name" .none fun n u a b c => .func ⟨n, u, a, b, c,0, [], .none, .none, .none, .none, none, .none, .none, 0⟩
noncomputable def o_121 (P : Params) : Obj := .mk (.type "code") none (.fields #[hS "add_name" 278, hS "add_name" 279, hS "/claim/cut.py" 280, .int 30 0, .int 6 0, .int 0 0, .int 0 0, .int 3 0, hR 78, .bool .true, .int 181 0, hR 79, .none, hR 80, hR 81, hR 82, .int 287 0, .int 30 0, hS "/claim/cut.py" 288]) #[]
noncomputable def o_122 (P : Params) : Obj := hF (hAt 5) "add_name" (.type "function") fun n u a b c => .func ⟨n, u, a, b, c,3, [], .none, .none, .none, hS "gateloom.checknames" 187, none, hR 83, .none, 0⟩
noncomputable def o_123 (P : Params) : Obj := hT []
noncomputable def o_124 (P : Params) : Obj := .mk .none none (.fields #[]) #[]
noncomputable def o_125 (P : Params) : Obj := hT [hS "report" 293, hS "table" 294, hS "name" 295, hS "at" 296, hS "group" 297, hS "entry" 298]
noncomputable def o_126 (P : Params) : Obj := hT []
noncomputable def o_127 (P : Params) : Obj := hF (hAt 6) "add_label" .none fun n u a b c => .func ⟨n, u, a, b, c,0, [], .none, .none, .none, .none, none, .none, .none, 0⟩
noncomputable def o_128 (P : Params) : Obj := .mk (.type "code") none (.fields #[hS "add_label" 290, hS "add_label" 291, hS "/claim/cut.py" 292, .int 35 0, .int 5 0, .int 0 0, .int 0 0, .int 3 0, hR 85, .bool .true, .int 181 0, hR 86, .none, hR 87, hR 88, hR 89, .int 299 0, .int 35 0, hS "/claim/cut.py" 300]) #[]
noncomputable def o_129 (P : Params) : Obj := hF (hAt 6) "add_label" (.type "function") fun n u a b c => .func ⟨n, u, a, b, c,3, [], .none, .none, .none, hS "gateloom.checknames" 187, none, hR 90, .none, 0⟩
noncomputable def o_130 (P : Params) : Obj := hT []
noncomputable def o_131 (P : Params) : Obj := .mk .none none (.fields #[]) #[]
noncomputable def o_132 (P : Params) : Obj := hT [hS "report" 305, hS "table" 306, hS "name" 307, hS "at" 308, hS "direction" 309, hS "in_routine" 310, hS "what" 311, hS "first" 312, hS "info" 313]
noncomputable def o_133 (P : Params) : Obj := hT []
noncomputable def o_134 (P : Params) : Obj := hF (hAt 7) "add_port" .none fun n u a b c => .func ⟨n, u, a, b, c,0, [], .none, .none, .none, .none, none, .none, .none, 0⟩
noncomputable def o_135 (P : Params) : Obj := .mk (.type "code") none (.fields #[hS "add_port" 302, hS "add_port" 303, hS "/claim/cut.py" 304, .int 42 0, .int 6 0, .int 0 0, .int 0 0, .int 3 0, hR 92, .bool .true, .int 181 0, hR 93, .none, hR 94, hR 95, hR 96, .int 314 0, .int 42 0, hS "/claim/cut.py" 315]) #[]
noncomputable def o_136 (P : Params) : Obj := hF (hAt 7) "add_port" (.type "function") fun n u a b c => .func ⟨n, u, a, b, c,3, [], .none, .none, .none, hS "gateloom.checknames" 187, none, hR 97, .none, 0⟩
noncomputable def tree_136 (P : Params) : BT := .node (boot_o_0 P) (.node (boot_o_1 P) (.node (o_79 P) (.node (boot_o_7 P) (.node (o_51 P) (.node (o_67 P) (.node (o_101 P) .nil .nil) (.node (o_133 P) .nil .nil)) (.node (o_85 P) (.node (o_117 P) .nil .nil) .nil)) (.node (o_59 P) (.node (o_75 P) (.node (o_109 P) .nil .nil) .nil) (.node (o_93 P) (.node (o_125 P) .nil .nil) .nil))) (.node (o_43 P) (.node (o_55 P) (.node (o_71 P) (.node (o_105 P) .nil .nil) .nil) (.node (o_89 P) (.node (o_121 P) .nil .nil) .nil)) (.node (o_63 P) (.node (o_81 P) (.node (o_113 P) .nil .nil) .nil) (.node (o_97 P) (.node (o_129 P) .nil .nil) .nil)))) (.node (boot_o_5 P) (.node (boot_o_9 P) (.node (o_53 P) (.node (o_69 P) (.node (o_103 P) .nil .nil) (.node (o_135 P) .nil .nil)) (.node (o_87 P) (.node (o_119 P) .nil .nil) .nil)) (.node (o_61 P) (.node (o_77 P) (.node (o_111 P) .nil .nil) .nil) (.node (o_95 P) (.node (o_127 P) .nil .nil) .nil))) (.node (o_45 P) (.node (o_57 P) (.node (o_73 P) (.node (o_107 P) .nil .nil) .nil) (.node (o_91 P) (.node (o_123 P) .nil .nil) .nil)) (.node (o_65 P) (.node (o_83 P) (.node (o_115 P) .nil .nil) .nil) (.node (o_99 P) (.node (o_131 P) .nil .nil) .nil))))) (.node (boot_o_2 P) (.node (boot_o_4 P) (.node (boot_o_8 P) (.node (o_52 P) (.node (o_68 P) (.node (o_102 P) .nil .nil) (.node (o_134 P) .nil .nil)) (.node (o_86 P) (.node (o_118 P) .nil .nil) .nil)) (.node (o_60 P) (.node (o_76 P) (.node (o_110 P) .nil .nil) .nil) (.node (o_94 P) (.node (o_126 P) .nil .nil) .nil))) (.node (o_80 P) (.node (o_56 P) (.node (o_72 P) (.node (o_106 P) .nil .nil) .nil) (.node (o_90 P) (.node (o_122 P) .nil .nil) .nil)) (.node (o_64 P) (.node (o_82 P) (.node (o_114 P) .nil .nil) .nil) (.node (o_98 P) (.node (o_130 P) .nil .nil) .nil)))) (.node (boot_o_6 P) (.node (boot_o_10 P) (.node (o_54 P) (.node (o_70 P) (.node (o_104 P) .nil .nil) (.node (o_136 P) .nil .nil)) (.node (o_88 P) (.node (o_120 P) .nil .nil) .nil)) (.node (o_62 P) (.node (o_78 P) (.node (o_112 P) .nil .nil) .nil) (.node (o_96 P) (.node (o_128 P) .nil .nil) .nil))) (.node (o_46 P) (.node (o_58 P) (.node (o_74 P) (.node (o_108 P) .nil .nil) .nil) (.node (o_92 P) (.node (o_124 P) .nil .nil) .nil)) (.node (o_66 P) (.node (o_84 P) (.node (o_116 P) .nil .nil) .nil) (.node (o_100 P) (.node (o_132 P) .nil .nil) .nil)))))
noncomputable def o_137 (P : Params) : Obj := .mk (.type "dict") none (.dict #[hE P "__name__" 165 (hS "gateloom.checkstmts" 442), hE P "__doc__" 166 .none, hE P "__package__" 167 .none, hE P "__loader__" 168 (.builtin "__main__.__loader__#opaque"), hE P "__spec__" 169 .none, hE P "__annotations__" 170 (hR 6), hE P "__builtins__" 171 (hR 4), hE P "__file__" 173 (hS "/claim/cut.py" 172), hE P "__cached__" 174 .none, hE P "Report" 230 (hR 38), hE P "NameTable" 260 (hR 59), hE P "find" 268 (hR 70), hE P "find_routine" 277 (hR 77), hE P "add_name" 289 (hR 84), hE P "add_label" 301 (hR 91), hE P "add_port" 316 (hR 98), hE P "add_signal" 330 (hR 105), hE P "declare_item" 345 (hR 112), hE P "check_expr" 355 (hR 119), hE P "check_each" 365 (hR 126), hE P "check_optional" 374 (hR 133), hE P "check_range" 383 (hR 140), hE P "check_path" 394 (hR 147), hE P "check_call" 404 (hR 154), hE P "check_declaration" 415 (hR 161), hE P "check_target" 428 (hR 169), hE P "check_target_name" 441 (hR 177)] 27) #[]
noncomputable def o_138 (P : Params) : Obj := .mk .none none (.fields #[.int 2 0, .int 0 0, hR 20, .int 11 0, .int 0 0, hR 48, .int 16 0, .int 0 0, hR 69, .int 22 0, .int 0 0, hR 76, .int 30 0, .int 0 0, hR 83, .int 35 0, .int 0 0, hR 90, .int 42 0, .int 0 0, hR 97, .int 56 0, .int 0 0, hR 104, .int 68 0, .int 0 0, hR 111, .int 95 0, .int 0 0, hR 118, .int 118 0, .int 0 0, hR 125, .int 121 0, .int 0 0, hR 132, .int 124 0, .int 0 0, hR 139, .int 127 0, .int 0 0, hR 146, .int 130 0, .int 0 0, hR 153, .int 137 0, .int 0 0, hR 160, .int 156 0, .int 0 0, hR 168, .int 170 0, .int 0 0, hR 176]) #[]
noncomputable def o_139 (P : Params) : Obj := hT []
noncomputable def o_140 (P : Params) : Obj := .mk .none none (.fields #[]) #[]
noncomputable def o_141 (P : Params) : Obj := hT [hS "report" 320, hS "table" 321, hS "name" 322, hS "what" 323, hS "at" 324, hS "in_routine" 325, hS "entry" 326, hS "direction" 327]
noncomputable def o_142 (P : Params) : Obj := hT []
noncomputable def o_143 (P : Params) : Obj := hF (hAt 8) "add_signal" .none fun n u a b c => .func ⟨n, u, a, b, c,0, [], .none, .none, .none, .none, none, .none, .none, 0⟩
noncomputable def o_144 (P : Params) : Obj := .mk (.type "code") none (.fields #[hS "add_signal" 317, hS "add_signal" 318, hS "/claim/cut.py" 319, .int 56 0, .int 6 0, .int 0 0, .int 0 0, .int 3 0, hR 99, .bool .true, .int 181 0, hR 100, .none, hR 101, hR 102, hR 103, .int 328 0, .int 56 0, hS "/claim/cut.py" 329]) #[]
noncomputable def o_145 (P : Params) : Obj := hF (hAt 8) "add_signal" (.type "function") fun n u a b c => .func ⟨n, u, a, b, c,3, [], .none, .none, .none, hS "gateloom.checknames" 187, none, hR 104, .none, 0⟩
noncomputable def o_146 (P : Params) : Obj := hT []
noncomputable def o_147 (P : Params) : Obj := .mk .none none (.fields #[]) #[]
noncomputable def o_148 (P : Params) : Obj := hT [hS "report" 334, hS "table" 335, hS "item" 336, hS "in_routine" 337, hS "tag" 338, hS "at" 339, hS "directions" 340, hS "inner" 341, hS "name" 342]
noncomputable def o_149 (P : Params) : Obj := hT []
noncomputable def o_150 (P : Params) : Obj := hF (hAt 9) "declare_item" .none fun n u a b c => .func ⟨n, u, a, b, c,0, [], .none, .none, .none, .none, none, .none, .none, 0⟩
noncomputable def o_151 (P : Params) : Obj := .mk (.type "code") none (.fields #[hS "declare_item" 331, hS "declare_item" 332, hS "/claim/cut.py" 333, .int 68 0, .int 4 0, .int 0 0, .int 0 0, .int 3 0, hR 106, .bool .true, .int 181 0, hR 107, .none, hR 108, hR 109, hR 110, .int 343 0, .int 68 0, hS "/claim/cut.py" 344]) #[]
noncomputable def o_152 (P : Params) : Obj := hF (hAt 9) "declare_item" (.type "function") fun n u a b c => .func ⟨n, u, a, b, c,3, [], .none, .none, .none, hS "gateloom.checknames" 187, none, hR 111, .none, 0⟩
noncomputable def o_153 (P : Params) : Obj := hT []
noncomputable def o_154 (P : Params) : Obj := .mk .none none (.fields #[]) #[]
noncomputable def o_155 (P : Params) : Obj := hT [hS "report" 349, hS "table" 350, hS "e" 351, hS "tag" 352]
noncomputable def o_156 (P : Params) : Obj := hT []
noncomputable def o_157 (P : Params) : Obj := hF (hAt 10) "check_expr" .none fun n u a b c => .func ⟨n, u, a, b, c,0, [], .none, .none, .none, .none, none, .none, .none, 0⟩
noncomputable def o_158 (P : Params) : Obj := .mk (.type "code") none (.fields #[hS "check_expr" 346, hS "check_expr" 347, hS "/claim/cut.py" 348, .int 95 0, .int 3 0, .int 0 0, .int 0 0, .int 3 0, hR 113, .bool .true, .int 181 0, hR 114, .none, hR 115, hR 116, hR 117, .int 353 0, .int 95 0, hS "/claim/cut.py" 354]) #[]
noncomputable def o_159 (P : Params) : Obj := hF (hAt 10) "check_expr" (.type "function") fun n u a b c => .func ⟨n, u, a, b, c,3, [], .none, .none, .none, hS "gateloom.checknames" 187, none, hR 118, .none, 0⟩
noncomputable def o_160 (P : Params) : Obj := hT []
noncomputable def o_161 (P : Params) : Obj := .mk .none none (.fields #[]) #[]
noncomputable def o_162 (P : Params) : Obj := hT [hS "report" 359, hS "table" 360, hS "items" 361, hS "e" 362]
noncomputable def o_163 (P : Params) : Obj := hT []
noncomputable def o_164 (P : Params) : Obj := hF (hAt 11) "check_each" .none fun n u a b c => .func ⟨n, u, a, b, c,0, [], .none, .none, .none, .none, none, .none, .none, 0⟩
noncomputable def o_165 (P : Params) : Obj := .mk (.type "code") none (.fields #[hS "check_each" 356, hS "check_each" 357, hS "/claim/cut.py" 358, .int 118 0, .int 3 0, .int 0 0, .int 0 0, .int 3 0, hR 120, .bool .true, .int 181 0, hR 121, .none, hR 122, hR 123, hR 124, .int 363 0, .int 118 0, hS "/claim/cut.py" 364]) #[]
noncomputable def o_166 (P : Params) : Obj := hF (hAt 11) "check_each" (.type "function") fun n u a b c => .func ⟨n, u, a, b, c,3, [], .none, .none, .none, hS "gateloom.checknames" 187, none, hR 125, .none, 0⟩
noncomputable def o_167 (P : Params) : Obj := hT []
noncomputable def o_168 (P : Params) : Obj := .mk .none none (.fields #[]) #[]
noncomputable def o_169 (P : Params) : Obj := hT [hS "report" 369, hS "table" 370, hS "e" 371]
noncomputable def o_170 (P : Params) : Obj := hT []
noncomputable def o_171 (P : Params) : Obj := hF (hAt 12) "check_optional" .none fun n u a b c => .func ⟨n, u, a, b, c,0, [], .none, .none, .none, .none, none, .none, .none, 0⟩
noncomputable def o_172 (P : Params) : Obj := .mk (.type "code") none (.fields #[hS "check_optional" 366, hS "check_optional" 367, hS "/claim/cut.py" 368, .int 121 0, .int 3 0, .int 0 0, .int 0 0, .int 3 0, hR 127, .bool .true, .int 181 0, hR 128, .none, hR 129, hR 130, hR 131, .int 372 0, .int 121 0, hS "/claim/cut.py" 373]) #[]
noncomputable def o_173 (P : Params) : Obj := hF (hAt 12) "check_optional" (.type "function") fun n u a b c => .func ⟨n, u, a, b, c,3, [], .none, .none, .none, hS "gateloom.checknames" 187, none, hR 132, .none, 0⟩
noncomputable def o_174 (P : Params) : Obj := hT []
noncomputable def o_175 (P : Params) : Obj := .mk .none none (.fields #[]) #[]
noncomputable def o_176 (P : Params) : Obj := hT [hS "report" 378, hS "table" 379, hS "bounds" 380]
noncomputable def o_177 (P : Params) : Obj := hT []
noncomputable def o_178 (P : Params) : Obj := hF (hAt 13) "check_range" .none fun n u a b c => .func ⟨n, u, a, b, c,0, [], .none, .none, .none, .none, none, .none, .none, 0⟩
noncomputable def o_179 (P : Params) : Obj := .mk (.type "code") none (.fields #[hS "check_range" 375, hS "check_range" 376, hS "/claim/cut.py" 377, .int 124 0, .int 3 0, .int 0 0, .int 0 0, .int 3 0, hR 134, .bool .true, .int 181 0, hR 135, .none, hR 136, hR 137, hR 138, .int 381 0, .int 124 0, hS "/claim/cut.py" 382]) #[]
noncomputable def o_180 (P : Params) : Obj := hF (hAt 13) "check_range" (.type "function") fun n u a b c => .func ⟨n, u, a, b, c,3, [], .none, .none, .none, hS "gateloom.checknames" 187, none, hR 139, .none, 0⟩
noncomputable def o_181 (P : Params) : Obj := hT []
noncomputable def o_182 (P : Params) : Obj := .mk .none none (.fields #[]) #[]
noncomputable def o_183 (P : Params) : Obj := hT [hS "report" 387, hS "table" 388, hS "e" 389, hS "name" 390, hS "index" 391]
noncomputable def o_184 (P : Params) : Obj := hT []
noncomputable def o_185 (P : Params) : Obj := hF (hAt 14) "check_path" .none fun n u a b c => .func ⟨n, u, a, b, c,0, [], .none, .none, .none, .none, none, .none, .none, 0⟩
noncomputable def o_186 (P : Params) : Obj := .mk (.type "code") none (.fields #[hS "check_path" 384, hS "check_path" 385, hS "/claim/cut.py" 386, .int 127 0, .int 3 0, .int 0 0, .int 0 0, .int 3 0, hR 141, .bool .true, .int 181 0, hR 142, .none, hR 143, hR 144, hR 145, .int 392 0, .int 127 0, hS "/claim/cut.py" 393]) #[]
noncomputable def o_187 (P : Params) : Obj := hF (hAt 14) "check_path" (.type "function") fun n u a b c => .func ⟨n, u, a, b, c,3, [], .none, .none, .none, hS "gateloom.checknames" 187, none, hR 146, .none, 0⟩
noncomputable def o_188 (P : Params) : Obj := hT []
noncomputable def o_189 (P : Params) : Obj := .mk .none none (.fields #[]) #[]
noncomputable def o_190 (P : Params) : Obj := hT [hS "report" 398, hS "table" 399, hS "e" 400, hS "entry" 401]
noncomputable def o_191 (P : Params) : Obj := hT []
noncomputable def o_192 (P : Params) : Obj := hF (hAt 15) "check_call" .none fun n u a b c => .func ⟨n, u, a, b, c,0, [], .none, .none, .none, .none, none, .none, .none, 0⟩
noncomputable def o_193 (P : Params) : Obj := .mk (.type "code") none (.fields #[hS "check_call" 395, hS "check_call" 396, hS "/claim/cut.py" 397, .int 130 0, .int 3 0, .int 0 0, .int 0 0, .int 3 0, hR 148, .bool .true, .int 181 0, hR 149, .none, hR 150, hR 151, hR 152, .int 402 0, .int 130 0, hS "/claim/cut.py" 403]) #[]
noncomputable def o_194 (P : Params) : Obj := hF (hAt 15) "check_call" (.type "function") fun n u a b c => .func ⟨n, u, a, b, c,3, [], .none, .none, .none, hS "gateloom.checknames" 187, none, hR 153, .none, 0⟩
noncomputable def o_195 (P : Params) : Obj := hT []
noncomputable def o_196 (P : Params) : Obj := .mk .none none (.fields #[]) #[]
noncomputable def o_197 (P : Params) : Obj := hT [hS "report" 408, hS "table" 409, hS "item" 410, hS "tag" 411, hS "bounds" 412]
noncomputable def o_198 (P : Params) : Obj := hT []
noncomputable def o_199 (P : Params) : Obj := hF (hAt 16) "check_declaration" .none fun n u a b c => .func ⟨n, u, a, b, c,0, [], .none, .none, .none, .none, none, .none, .none, 0⟩
noncomputable def o_200 (P : Params) : Obj := .mk (.type "code") none (.fields #[hS "check_declaration" 405, hS "check_declaration" 406, hS "/claim/cut.py" 407, .int 137 0, .int 3 0, .int 0 0, .int 0 0, .int 3 0, hR 155, .bool .true, .int 181 0, hR 156, .none, hR 157, hR 158, hR 159, .int 413 0, .int 137 0, hS "/claim/cut.py" 414]) #[]
noncomputable def o_201 (P : Params) : Obj := hF (hAt 16) "check_declaration" (.type "function") fun n u a b c => .func ⟨n, u, a, b, c,3, [], .none, .none, .none, hS "gateloom.checknames" 187, none, hR 160, .none, 0⟩
noncomputable def o_202 (P : Params) : Obj := hT [.bool .false]
noncomputable def o_203 (P : Params) : Obj := hT []
noncomputable def o_204 (P : Params) : Obj := .mk .none none (.fields #[]) #[]
noncomputable def o_205 (P : Params) : Obj := hT [hS "report" 419, hS "table" 420, hS "lv" 421, hS "procedural" 422, hS "inputs" 423, hS "tag" 424, hS "part" 425]
noncomputable def o_206 (P : Params) : Obj := hT []
noncomputable def o_207 (P : Params) : Obj := hF (hAt 17) "check_target" .none fun n u a b c => .func ⟨n, u, a, b, c,0, [], .none, .none, .none, .none, none, .none, .none, 0⟩
noncomputable def o_208 (P : Params) : Obj := .mk (.type "code") none (.fields #[hS "check_target" 416, hS "check_target" 417, hS "/claim/cut.py" 418, .int 156 0, .int 5 0, .int 0 0, .int 0 0, .int 3 0, hR 163, .bool .true, .int 181 0, hR 164, .none, hR 165, hR 166, hR 167, .int 426 0, .int 156 0, hS "/claim/cut.py" 427]) #[]
noncomputable def o_209 (P : Params) : Obj := hF (hAt 17) "check_target" (.type "function") fun n u a b c => .func ⟨n, u, a, b, c,3, [], hR 162, .none, .none, hS "gateloom.checknames" 187, none, hR 168, .none, 0⟩
noncomputable def o_210 (P : Params) : Obj := hT [.bool .false]
noncomputable def o_211 (P : Params) : Obj := hT []
noncomputable def o_212 (P : Params) : Obj := .mk .none none (.fields #[]) #[]
noncomputable def o_213 (P : Params) : Obj := hT [hS "report" 432, hS "table" 433, hS "at" 434, hS "name" 435, hS "procedural" 436, hS "inputs" 437, hS "entry" 438]
noncomputable def o_214 (P : Params) : Obj := hT []
noncomputable def o_215 (P : Params) : Obj := hF (hAt 18) "check_target_name" .none fun n u a b c => .func ⟨n, u, a, b, c,0, [], .none, .none, .none, .none, none, .none, .none, 0⟩
noncomputable def o_216 (P : Params) : Obj := .mk (.type "code") none (.fields #[hS "check_target_name" 429, hS "check_target_name" 430, hS "/claim/cut.py" 431, .int 170 0, .int 6 0, .int 0 0, .int 0 0, .int 3 0, hR 171, .bool .true, .int 181 0, hR 172, .none, hR 173, hR 174, hR 175, .int 439 0, .int 170 0, hS "/claim/cut.py" 440]) #[]
noncomputable def o_217 (P : Params) : Obj := hF (hAt 18) "check_target_name" (.type "function") fun n u a b c => .func ⟨n, u, a, b, c,3, [], hR 170, .none, .none, hS "gateloom.checknames" 187, none, hR 176, .none, 0⟩
noncomputable def tree_217 (P : Params) : BT := .node (boot_o_0 P) (.node (boot_o_1 P) (.node (o_137 P) (.node (boot_o_7 P) (.node (o_51 P) (.node (o_67 P) (.node (o_101 P) (.node (o_167 P) .nil .nil) .nil) (.node (o_133 P) (.node (o_199 P) .nil .nil) .nil)) (.node (o_85 P) (.node (o_117 P) (.node (o_183 P) .nil .nil) .nil) (.node (o_151 P) (.node (o_215 P) .nil .nil) .nil))) (.node (o_59 P) (.node (o_75 P) (.node (o_109 P) (.node (o_175 P) .nil .nil) .nil) (.node (o_143 P) (.node (o_207 P) .nil .nil) .nil)) (.node (o_93 P) (.node (o_125 P) (.node (o_191 P) .nil .nil) .nil) (.node (o_159 P) .nil .nil)))) (.node (o_43 P) (.node (o_55 P) (.node (o_71 P) (.node (o_105 P) (.node (o_171 P) .nil .nil) .nil) (.node (o_139 P) (.node (o_203 P) .nil .nil) .nil)) (.node (o_89 P) (.node (o_121 P) (.node (o_187 P) .nil .nil) .nil) (.node (o_155 P) .nil .nil))) (.node (o_63 P) (.node (o_81 P) (.node (o_113 P) (.node (o_179 P) .nil .nil) .nil) (.node (o_147 P) (.node (o_211 P) .nil .nil) .nil)) (.node (o_97 P) (.node (o_129 P) (.node (o_195 P) .nil .nil) .nil) (.node (o_163 P) .nil .nil))))) (.node (boot_o_5 P) (.node (boot_o_9 P) (.node (o_53 P) (.node (o_69 P) (.node (o_103 P) (.node (o_169 P) .nil .nil) .nil) (.node (o_135 P) (.node (o_201 P) .nil .nil) .nil)) (.node (o_87 P) (.node (o_119 P) (.node (o_185 P) .nil .nil) .nil) (.node (o_153 P) (.node (o_217 P) .nil .nil) .nil))) (.node (o_61 P) (.node (o_77 P) (.node (o_111 P) (.node (o_177 P) .nil .nil) .nil) (.node (o_145 P) (.node (o_209 P) .nil .nil) .nil)) (.node (o_95 P) (.node (o_127 P) (.node (o_193 P) .nil .nil) .nil) (.node (o_161 P) .nil .nil)))) (.node (o_45 P) (.node (o_57 P) (.node (o_73 P) (.node (o_107 P) (.node (o_173 P) .nil .nil) .nil) (.node (o_141 P) (.node (o_205 P) .nil .nil) .nil)) (.node (o_91 P) (.node (o_123 P) (.node (o_189 P) .nil .nil) .nil) (.node (o_157 P) .nil .nil))) (.node (o_65 P) (.node (o_83 P) (.node (o_115 P) (.node (o_181 P) .nil .nil) .nil) (.node (o_149 P) (.node (o_213 P) .nil .nil) .nil)) (.node (o_99 P) (.node (o_131 P) (.node (o_197 P) .nil .nil) .nil) (.node (o_165 P) .nil .nil)))))) (.node (boot_o_2 P) (.node (boot_o_4 P) (.node (boot_o_8 P) (.node (o_52 P) (.node (o_68 P) (.node (o_102 P) (.node (o_168 P) .nil .nil) .nil) (.node (o_134 P) (.node (o_200 P) .nil .nil) .nil)) (.node (o_86 P) (.node (o_118 P) (.node (o_184 P) .nil .nil) .nil) (.node (o_152 P) (.node (o_216 P) .nil .nil) .nil))) (.node (o_60 P) (.node (o_76 P) (.node (o_110 P) (.node (o_176 P) .nil .nil) .nil) (.node (o_144 P) (.node (o_208 P) .nil .nil) .nil)) (.node (o_94 P) (.node (o_126 P) (.node (o_192 P) .nil .nil) .nil) (.node (o_160 P) .nil .nil)))) (.node (o_138 P) (.node (o_56 P) (.node (o_72 P) (.node (o_106 P) (.node (o_172 P) .nil .nil) .nil) (.node (o_140 P) (.node (o_204 P) .nil .nil) .nil)) (.node (o_90 P) (.node (o_122 P) (.node (o_188 P) .nil .nil) .nil) (.node (o_156 P) .nil .nil))) (.node (o_64 P) (.node (o_82 P) (.node (o_114 P) (.node (o_180 P) .nil .nil) .nil) (.node (o_148 P) (.node (o_212 P) .nil .nil) .nil)) (.node (o_98 P) (.node (o_130 P) (.node (o_196 P) .nil .nil) .nil) (.node (o_164 P) .nil .nil))))) (.node (boot_o_6 P) (.node (boot_o_10 P) (.node (o_54 P) (.node (o_70 P) (.node (o_104 P) (.node (o_170 P) .nil .nil) .nil) (.node (o_136 P) (.node (o_202 P) .nil .nil) .nil)) (.node (o_88 P) (.node (o_120 P) (.node (o_186 P) .nil .nil) .nil) (.node (o_154 P) .nil .nil))) (.node (o_62 P) (.node (o_78 P) (.node (o_112 P) (.node (o_178 P) .nil .nil) .nil) (.node (o_146 P) (.node (o_210 P) .nil .nil) .nil)) (.node (o_96 P) (.node (o_128 P) (.node (o_194 P) .nil .nil) .nil) (.node (o_162 P) .nil .nil)))) (.node (o_46 P) (.node (o_58 P) (.node (o_74 P) (.node (o_108 P) (.node (o_174 P) .nil .nil) .nil) (.node (o_142 P) (.node (o_206 P) .nil .nil) .nil)) (.node (o_92 P) (.node (o_124 P) (.node (o_190 P) .nil .nil) .nil) (.node (o_158 P) .nil .nil))) (.node (o_66 P) (.node (o_84 P) (.node (o_116 P) (.node (o_182 P) .nil .nil) .nil) (.node (o_150 P) (.node (o_214 P) .nil .nil) .nil)) (.node (o_100 P) (.node (o_132 P) (.node (o_198 P) .nil .nil) .nil) (.node (o_166 P) .nil .nil))))))
noncomputable def o_218 (P : Params) : Obj := .mk (.type "dict") none (.dict #[hE P "__name__" 165 (hS "law_pq0465_01" 562), hE P "__doc__" 166 .none, hE P "__package__" 167 .none, hE P "__loader__" 168 (.builtin "__main__.__loader__#opaque"), hE P "__spec__" 169 .none, hE P "__annotations__" 170 (hR 6), hE P "__builtins__" 171 (hR 4), hE P "__file__" 173 (hS "/claim/cut.py" 172), hE P "__cached__" 174 .none, hE P "Report" 230 (hR 38), hE P "NameTable" 260 (hR 59), hE P "find" 268 (hR 70), hE P "find_routine" 277 (hR 77), hE P "add_name" 289 (hR 84), hE P "add_label" 301 (hR 91), hE P "add_port" 316 (hR 98), hE P "add_signal" 330 (hR 105), hE P "declare_item" 345 (hR 112), hE P "check_expr" 355 (hR 119), hE P "check_each" 365 (hR 126), hE P "check_optional" 374 (hR 133), hE P "check_range" 383 (hR 140), hE P "check_path" 394 (hR 147), hE P "check_call" 404 (hR 154), hE P "check_declaration" 415 (hR 161), hE P "check_target" 428 (hR 169), hE P "check_target_name" 441 (hR 177), hE P "declare_labels" 455 (hR 184), hE P "check_stmt" 469 (hR 191), hE P "check_block" 482 (hR 198), hE P "check_case" 495 (hR 205), hE P "check_control" 504 (hR 212), hE P "check_events" 515 (hR 219), hE P "check_trigger" 525 (hR 226), hE P "check_disable" 535 (hR 233), hE P "check_task" 548 (hR 240), hE P "check_routine" 561 (hR 247), hE P "_law_draw" 574 (hR 254)] 38) #[]
noncomputable def o_219 (P : Params) : Obj := .mk .none none (.fields #[.int 2 0, .int 0 0, hR 20, .int 11 0, .int 0 0, hR 48, .int 16 0, .int 0 0, hR 69, .int 22 0, .int 0 0, hR 76, .int 30 0, .int 0 0, hR 83, .int 35 0, .int 0 0, hR 90, .int 42 0, .int 0 0, hR 97, .int 56 0, .int 0 0, hR 104, .int 68 0, .int 0 0, hR 111, .int 95 0, .int 0 0, hR 118, .int 118 0, .int 0 0, hR 125, .int 121 0, .int 0 0, hR 132, .int 124 0, .int 0 0, hR 139, .int 127 0, .int 0 0, hR 146, .int 130 0, .int 0 0, hR 153, .int 137 0, .int 0 0, hR 160, .int 156 0, .int 0 0, hR 168, .int 170 0, .int 0 0, hR 176, .int 186 0, .int 0 0, hR 183, .int 208 0, .int 0 0, hR 190, .int 253 0, .int 0 0, hR 197, .int 265 0, .int 0 0, hR 204, .int 276 0, .int 0 0, hR 211, .int 281 0, .int 0 0, hR 218, .int 286 0, .int 0 0, hR 225, .int 294 0, .int 0 0, hR 232, .int 300 0, .int 0 0, hR 239, .int 319 0, .int 0 0, hR 246, .int 334 0, .int 0 0, hR 253]) #[]
noncomputable def o_220 (P : Params) : Obj := hT []
noncomputable def o_221 (P : Params) : Obj := .mk .none none (.fields #[]) #[]
noncomputable def o_222 (P : Params) : Obj := hT [hS "report" 447, hS "table" 448, hS "s" 449, hS "tag" 450, hS "inner" 451, hS "labels" 452]
noncomputable def o_223 (P : Params) : Obj := hT []
noncomputable def o_224 (P : Params) : Obj := hF (hAt 20) "declare_labels" .none fun n u a b c => .func ⟨n, u, a, b, c,0, [], .none, .none, .none, .none, none, .none, .none, 0⟩
noncomputable def o_225 (P : Params) : Obj := .mk (.type "code") none (.fields #[hS "declare_labels" 444, hS "declare_labels" 445, hS "/claim/cut.py" 446, .int 186 0, .int 3 0, .int 0 0, .int 0 0, .int 3 0, hR 178, .bool .true, .int 181 0, hR 179, .none, hR 180, hR 181, hR 182, .int 453 0, .int 186 0, hS "/claim/cut.py" 454]) #[]
noncomputable def o_226 (P : Params) : Obj := hF (hAt 20) "declare_labels" (.type "function") fun n u a b c => .func ⟨n, u, a, b, c,3, [], .none, .none, .none, hS "gateloom.checkstmts" 442, none, hR 183, .none, 0⟩
noncomputable def o_227 (P : Params) : Obj := hT []
noncomputable def o_228 (P : Params) : Obj := .mk .none none (.fields #[]) #[]
noncomputable def o_229 (P : Params) : Obj := hT [hS "report" 459, hS "table" 460, hS "s" 461, hS "timing" 462, hS "tag" 463, hS "at" 464, hS "lv" 465, hS "e" 466]
noncomputable def o_230 (P : Params) : Obj := hT []
noncomputable def o_231 (P : Params) : Obj := hF (hAt 21) "check_stmt" .none fun n u a b c => .func ⟨n, u, a, b, c,0, [], .none, .none, .none, .none, none, .none, .none, 0⟩
noncomputable def o_232 (P : Params) : Obj := .mk (.type "code") none (.fields #[hS "check_stmt" 456, hS "check_stmt" 457, hS "/claim/cut.py" 458, .int 208 0, .int 4 0, .int 0 0, .int 0 0, .int 3 0, hR 185, .bool .true, .int 181 0, hR 186, .none, hR 187, hR 188, hR 189, .int 467 0, .int 208 0, hS "/claim/cut.py" 468]) #[]
noncomputable def o_233 (P : Params) : Obj := hF (hAt 21) "check_stmt" (.type "function") fun n u a b c => .func ⟨n, u, a, b, c,3, [], .none, .none, .none, hS "gateloom.checkstmts" 442, none, hR 190, .none, 0⟩
noncomputable def o_234 (P : Params) : Obj := hT []
noncomputable def o_235 (P : Params) : Obj := .mk .none none (.fields #[]) #[]
noncomputable def o_236 (P : Params) : Obj := hT [hS "report" 473, hS "table" 474, hS "s" 475, hS "timing" 476, hS "inner" 477, hS "item" 478, hS "statement" 479]
noncomputable def o_237 (P : Params) : Obj := hT []
noncomputable def o_238 (P : Params) : Obj := hF (hAt 22) "check_block" .none fun n u a b c => .func ⟨n, u, a, b, c,0, [], .none, .none, .none, .none, none, .none, .none, 0⟩
noncomputable def o_239 (P : Params) : Obj := .mk (.type "code") none (.fields #[hS "check_block" 470, hS "check_block" 471, hS "/claim/cut.py" 472, .int 253 0, .int 4 0, .int 0 0, .int 0 0, .int 3 0, hR 192, .bool .true, .int 181 0, hR 193, .none, hR 194, hR 195, hR 196, .int 480 0, .int 253 0, hS "/claim/cut.py" 481]) #[]
noncomputable def o_240 (P : Params) : Obj := hF (hAt 22) "check_block" (.type "function") fun n u a b c => .func ⟨n, u, a, b, c,3, [], .none, .none, .none, hS "gateloom.checkstmts" 442, none, hR 197, .none, 0⟩
noncomputable def o_241 (P : Params) : Obj := hT []
noncomputable def o_242 (P : Params) : Obj := .mk .none none (.fields #[]) #[]
noncomputable def o_243 (P : Params) : Obj := hT [hS "report" 486, hS "table" 487, hS "s" 488, hS "timing" 489, hS "defaults" 490, hS "labels" 491, hS "inner" 492]
noncomputable def o_244 (P : Params) : Obj := hT []
noncomputable def o_245 (P : Params) : Obj := hF (hAt 23) "check_case" .none fun n u a b c => .func ⟨n, u, a, b, c,0, [], .none, .none, .none, .none, none, .none, .none, 0⟩
noncomputable def o_246 (P : Params) : Obj := .mk (.type "code") none (.fields #[hS "check_case" 483, hS "check_case" 484, hS "/claim/cut.py" 485, .int 265 0, .int 4 0, .int 0 0, .int 0 0, .int 3 0, hR 199, .bool .true, .int 181 0, hR 200, .none, hR 201, hR 202, hR 203, .int 493 0, .int 265 0, hS "/claim/cut.py" 494]) #[]
noncomputable def o_247 (P : Params) : Obj := hF (hAt 23) "check_case" (.type "function") fun n u a b c => .func ⟨n, u, a, b, c,3, [], .none, .none, .none, hS "gateloom.checkstmts" 442, none, hR 204, .none, 0⟩
noncomputable def o_248 (P : Params) : Obj := hT []
noncomputable def o_249 (P : Params) : Obj := .mk .none none (.fields #[]) #[]
noncomputable def o_250 (P : Params) : Obj := hT [hS "report" 499, hS "table" 500, hS "control" 501]
noncomputable def o_251 (P : Params) : Obj := hT []
noncomputable def o_252 (P : Params) : Obj := hF (hAt 24) "check_control" .none fun n u a b c => .func ⟨n, u, a, b, c,0, [], .none, .none, .none, .none, none, .none, .none, 0⟩
noncomputable def o_253 (P : Params) : Obj := .mk (.type "code") none (.fields #[hS "check_control" 496, hS "check_control" 497, hS "/claim/cut.py" 498, .int 276 0, .int 3 0, .int 0 0, .int 0 0, .int 3 0, hR 206, .bool .true, .int 181 0, hR 207, .none, hR 208, hR 209, hR 210, .int 502 0, .int 276 0, hS "/claim/cut.py" 503]) #[]
noncomputable def o_254 (P : Params) : Obj := hF (hAt 24) "check_control" (.type "function") fun n u a b c => .func ⟨n, u, a, b, c,3, [], .none, .none, .none, hS "gateloom.checkstmts" 442, none, hR 211, .none, 0⟩
noncomputable def o_255 (P : Params) : Obj := hT []
noncomputable def o_256 (P : Params) : Obj := .mk .none none (.fields #[]) #[]
noncomputable def o_257 (P : Params) : Obj := hT [hS "report" 508, hS "table" 509, hS "events" 510, hS "edge" 511, hS "e" 512]
noncomputable def o_258 (P : Params) : Obj := hT []
noncomputable def o_259 (P : Params) : Obj := hF (hAt 25) "check_events" .none fun n u a b c => .func ⟨n, u, a, b, c,0, [], .none, .none, .none, .none, none, .none, .none, 0⟩
noncomputable def o_260 (P : Params) : Obj := .mk (.type "code") none (.fields #[hS "check_events" 505, hS "check_events" 506, hS "/claim/cut.py" 507, .int 281 0, .int 3 0, .int 0 0, .int 0 0, .int 3 0, hR 213, .bool .true, .int 181 0, hR 214, .none, hR 215, hR 216, hR 217, .int 513 0, .int 281 0, hS "/claim/cut.py" 514]) #[]
noncomputable def o_261 (P : Params) : Obj := hF (hAt 25) "check_events" (.type "function") fun n u a b c => .func ⟨n, u, a, b, c,3, [], .none, .none, .none, hS "gateloom.checkstmts" 442, none, hR 218, .none, 0⟩
noncomputable def o_262 (P : Params) : Obj := hT []
noncomputable def o_263 (P : Params) : Obj := .mk .none none (.fields #[]) #[]
noncomputable def o_264 (P : Params) : Obj := hT [hS "report" 519, hS "table" 520, hS "e" 521, hS "entry" 522]
noncomputable def o_265 (P : Params) : Obj := hT []
noncomputable def o_266 (P : Params) : Obj := hF (hAt 26) "check_trigger" .none fun n u a b c => .func ⟨n, u, a, b, c,0, [], .none, .none, .none, .none, none, .none, .none, 0⟩
noncomputable def o_267 (P : Params) : Obj := .mk (.type "code") none (.fields #[hS "check_trigger" 516, hS "check_trigger" 517, hS "/claim/cut.py" 518, .int 286 0, .int 3 0, .int 0 0, .int 0 0, .int 3 0, hR 220, .bool .true, .int 181 0, hR 221, .none, hR 222, hR 223, hR 224, .int 523 0, .int 286 0, hS "/claim/cut.py" 524]) #[]
noncomputable def o_268 (P : Params) : Obj := hF (hAt 26) "check_trigger" (.type "function") fun n u a b c => .func ⟨n, u, a, b, c,3, [], .none, .none, .none, hS "gateloom.checkstmts" 442, none, hR 225, .none, 0⟩
noncomputable def o_269 (P : Params) : Obj := hT []
noncomputable def o_270 (P : Params) : Obj := .mk .none none (.fields #[]) #[]
noncomputable def o_271 (P : Params) : Obj := hT [hS "report" 529, hS "table" 530, hS "e" 531, hS "entry" 532]
noncomputable def o_272 (P : Params) : Obj := hT []
noncomputable def o_273 (P : Params) : Obj := hF (hAt 27) "check_disable" .none fun n u a b c => .func ⟨n, u, a, b, c,0, [], .none, .none, .none, .none, none, .none, .none, 0⟩
noncomputable def o_274 (P : Params) : Obj := .mk (.type "code") none (.fields #[hS "check_disable" 526, hS "check_disable" 527, hS "/claim/cut.py" 528, .int 294 0, .int 3 0, .int 0 0, .int 0 0, .int 3 0, hR 227, .bool .true, .int 181 0, hR 228, .none, hR 229, hR 230, hR 231, .int 533 0, .int 294 0, hS "/claim/cut.py" 534]) #[]
noncomputable def o_275 (P : Params) : Obj := hF (hAt 27) "check_disable" (.type "function") fun n u a b c => .func ⟨n, u, a, b, c,3, [], .none, .none, .none, hS "gateloom.checkstmts" 442, none, hR 232, .none, 0⟩
noncomputable def o_276 (P : Params) : Obj := hT []
noncomputable def o_277 (P : Params) : Obj := .mk .none none (.fields #[]) #[]
noncomputable def o_278 (P : Params) : Obj := hT [hS "report" 539, hS "table" 540, hS "s" 541, hS "args" 542, hS "directions" 543, hS "entry" 544, hS "i" 545]
noncomputable def o_279 (P : Params) : Obj := hT []
noncomputable def o_280 (P : Params) : Obj := hF (hAt 28) "check_task" .none fun n u a b c => .func ⟨n, u, a, b, c,0, [], .none, .none, .none, .none, none, .none, .none, 0⟩
noncomputable def o_281 (P : Params) : Obj := .mk (.type "code") none (.fields #[hS "check_task" 536, hS "check_task" 537, hS "/claim/cut.py" 538, .int 300 0, .int 3 0, .int 0 0, .int 0 0, .int 3 0, hR 234, .bool .true, .int 181 0, hR 235, .none, hR 236, hR 237, hR 238, .int 546 0, .int 300 0, hS "/claim/cut.py" 547]) #[]
noncomputable def o_282 (P : Params) : Obj := hF (hAt 28) "check_task" (.type "function") fun n u a b c => .func ⟨n, u, a, b, c,3, [], .none, .none, .none, hS "gateloom.checkstmts" 442, none, hR 239, .none, 0⟩
noncomputable def o_283 (P : Params) : Obj := hT []
noncomputable def o_284 (P : Params) : Obj := .mk .none none (.fields #[]) #[]
noncomputable def o_285 (P : Params) : Obj := hT [hS "report" 554, hS "table" 555, hS "item" 556, hS "inner" 557, hS "declaration" 558]
noncomputable def o_286 (P : Params) : Obj := hT []
noncomputable def o_287 (P : Params) : Obj := hF (hAt 30) "check_routine" .none fun n u a b c => .func ⟨n, u, a, b, c,0, [], .none, .none, .none, .none, none, .none, .none, 0⟩
noncomputable def o_288 (P : Params) : Obj := .mk (.type "code") none (.fields #[hS "check_routine" 551, hS "check_routine" 552, hS "/claim/cut.py" 553, .int 319 0, .int 3 0, .int 0 0, .int 0 0, .int 3 0, hR 241, .bool .true, .int 181 0, hR 242, .none, hR 243, hR 244, hR 245, .int 559 0, .int 319 0, hS "/claim/cut.py" 560]) #[]
noncomputable def o_289 (P : Params) : Obj := hF (hAt 30) "check_routine" (.type "function") fun n u a b c => .func ⟨n, u, a, b, c,3, [], .none, .none, .none, hS "gateloom.checks" 549, none, hR 246, .none, 0⟩
noncomputable def o_290 (P : Params) : Obj := hT []
noncomputable def o_291 (P : Params) : Obj := .mk .none none (.fields #[]) #[]
noncomputable def o_292 (P : Params) : Obj := hT [hS "jar" 567, hS "count" 568, hS "cell" 569, hS "low" 570, hS "got" 571]
noncomputable def o_293 (P : Params) : Obj := hT []
noncomputable def o_294 (P : Params) : Obj := hF (hAt 32) "_law_draw" .none fun n u a b c => .func ⟨n, u, a, b, c,0, [], .none, .none, .none, .none, none, .none, .none, 0⟩
noncomputable def o_295 (P : Params) : Obj := .mk (.type "code") none (.fields #[hS "_law_draw" 564, hS "_law_draw" 565, hS "/claim/cut.py" 566, .int 334 0, .int 2 0, .int 0 0, .int 0 0, .int 3 0, hR 248, .bool .true, .int 181 0, hR 249, .none, hR 250, hR 251, hR 252, .int 572 0, .int 334 0, hS "/claim/cut.py" 573]) #[]
noncomputable def o_296 (P : Params) : Obj := hF (hAt 32) "_law_draw" (.type "function") fun n u a b c => .func ⟨n, u, a, b, c,3, [], .none, .none, .none, hS "law_pq0465_01" 562, none, hR 253, .none, 0⟩
noncomputable def tree_296 (P : Params) : BT := .node (boot_o_0 P) (.node (boot_o_1 P) (.node (o_218 P) (.node (boot_o_7 P) (.node (o_51 P) (.node (o_67 P) (.node (o_101 P) (.node (o_167 P) .nil .nil) (.node (o_233 P) .nil .nil)) (.node (o_133 P) (.node (o_199 P) .nil .nil) (.node (o_265 P) .nil .nil))) (.node (o_85 P) (.node (o_117 P) (.node (o_183 P) .nil .nil) (.node (o_249 P) .nil .nil)) (.node (o_151 P) (.node (o_215 P) .nil .nil) (.node (o_281 P) .nil .nil)))) (.node (o_59 P) (.node (o_75 P) (.node (o_109 P) (.node (o_175 P) .nil .nil) (.node (o_241 P) .nil .nil)) (.node (o_143 P) (.node (o_207 P) .nil .nil) (.node (o_273 P) .nil .nil))) (.node (o_93 P) (.node (o_125 P) (.node (o_191 P) .nil .nil) (.node (o_257 P) .nil .nil)) (.node (o_159 P) (.node (o_225 P) .nil .nil) (.node (o_289 P) .nil .nil))))) (.node (o_43 P) (.node (o_55 P) (.node (o_71 P) (.node (o_105 P) (.node (o_171 P) .nil .nil) (.node (o_237 P) .nil .nil)) (.node (o_139 P) (.node (o_203 P) .nil .nil) (.node (o_269 P) .nil .nil))) (.node (o_89 P) (.node (o_121 P) (.node (o_187 P) .nil .nil) (.node (o_253 P) .nil .nil)) (.node (o_155 P) (.node (o_221 P) .nil .nil) (.node (o_285 P) .nil .nil)))) (.node (o_63 P) (.node (o_81 P) (.node (o_113 P) (.node (o_179 P) .nil .nil) (.node (o_245 P) .nil .nil)) (.node (o_147 P) (.node (o_211 P) .nil .nil) (.node (o_277 P) .nil .nil))) (.node (o_97 P) (.node (o_129 P) (.node (o_195 P) .nil .nil) (.node (o_261 P) .nil .nil)) (.node (o_163 P) (.node (o_229 P) .nil .nil) (.node (o_293 P) .nil .nil)))))) (.node (boot_o_5 P) (.node (boot_o_9 P) (.node (o_53 P) (.node (o_69 P) (.node (o_103 P) (.node (o_169 P) .nil .nil) (.node (o_235 P) .nil .nil)) (.node (o_135 P) (.node (o_201 P) .nil .nil) (.node (o_267 P) .nil .nil))) (.node (o_87 P) (.node (o_119 P) (.node (o_185 P) .nil .nil) (.node (o_251 P) .nil .nil)) (.node (o_153 P) (.node (o_217 P) .nil .nil) (.node (o_283 P) .nil .nil)))) (.node (o_61 P) (.node (o_77 P) (.node (o_111 P) (.node (o_177 P) .nil .nil) (.node (o_243 P) .nil .nil)) (.node (o_145 P) (.node (o_209 P) .nil .nil) (.node (o_275 P) .nil .nil))) (.node (o_95 P) (.node (o_127 P) (.node (o_193 P) .nil .nil) (.node (o_259 P) .nil .nil)) (.node (o_161 P) (.node (o_227 P) .nil .nil) (.node (o_291 P) .nil .nil))))) (.node (o_45 P) (.node (o_57 P) (.node (o_73 P) (.node (o_107 P) (.node (o_173 P) .nil .nil) (.node (o_239 P) .nil .nil)) (.node (o_141 P) (.node (o_205 P) .nil .nil) (.node (o_271 P) .nil .nil))) (.node (o_91 P) (.node (o_123 P) (.node (o_189 P) .nil .nil) (.node (o_255 P) .nil .nil)) (.node (o_157 P) (.node (o_223 P) .nil .nil) (.node (o_287 P) .nil .nil)))) (.node (o_65 P) (.node (o_83 P) (.node (o_115 P) (.node (o_181 P) .nil .nil) (.node (o_247 P) .nil .nil)) (.node (o_149 P) (.node (o_213 P) .nil .nil) (.node (o_279 P) .nil .nil))) (.node (o_99 P) (.node (o_131 P) (.node (o_197 P) .nil .nil) (.node (o_263 P) .nil .nil)) (.node (o_165 P) (.node (o_231 P) .nil .nil) (.node (o_295 P) .nil .nil))))))) (.node (boot_o_2 P) (.node (boot_o_4 P) (.node (boot_o_8 P) (.node (o_52 P) (.node (o_68 P) (.node (o_102 P) (.node (o_168 P) .nil .nil) (.node (o_234 P) .nil .nil)) (.node (o_134 P) (.node (o_200 P) .nil .nil) (.node (o_266 P) .nil .nil))) (.node (o_86 P) (.node (o_118 P) (.node (o_184 P) .nil .nil) (.node (o_250 P) .nil .nil)) (.node (o_152 P) (.node (o_216 P) .nil .nil) (.node (o_282 P) .nil .nil)))) (.node (o_60 P) (.node (o_76 P) (.node (o_110 P) (.node (o_176 P) .nil .nil) (.node (o_242 P) .nil .nil)) (.node (o_144 P) (.node (o_208 P) .nil .nil) (.node (o_274 P) .nil .nil))) (.node (o_94 P) (.node (o_126 P) (.node (o_192 P) .nil .nil) (.node (o_258 P) .nil .nil)) (.node (o_160 P) (.node (o_226 P) .nil .nil) (.node (o_290 P) .nil .nil))))) (.node (o_219 P) (.node (o_56 P) (.node (o_72 P) (.node (o_106 P) (.node (o_172 P) .nil .nil) (.node (o_238 P) .nil .nil)) (.node (o_140 P) (.node (o_204 P) .nil .nil) (.node (o_270 P) .nil .nil))) (.node (o_90 P) (.node (o_122 P) (.node (o_188 P) .nil .nil) (.node (o_254 P) .nil .nil)) (.node (o_156 P) (.node (o_222 P) .nil .nil) (.node (o_286 P) .nil .nil)))) (.node (o_64 P) (.node (o_82 P) (.node (o_114 P) (.node (o_180 P) .nil .nil) (.node (o_246 P) .nil .nil)) (.node (o_148 P) (.node (o_212 P) .nil .nil) (.node (o_278 P) .nil .nil))) (.node (o_98 P) (.node (o_130 P) (.node (o_196 P) .nil .nil) (.node (o_262 P) .nil .nil)) (.node (o_164 P) (.node (o_230 P) .nil .nil) (.node (o_294 P) .nil .nil)))))) (.node (boot_o_6 P) (.node (boot_o_10 P) (.node (o_54 P) (.node (o_70 P) (.node (o_104 P) (.node (o_170 P) .nil .nil) (.node (o_236 P) .nil .nil)) (.node (o_136 P) (.node (o_202 P) .nil .nil) (.node (o_268 P) .nil .nil))) (.node (o_88 P) (.node (o_120 P) (.node (o_186 P) .nil .nil) (.node (o_252 P) .nil .nil)) (.node (o_154 P) (.node (o_220 P) .nil .nil) (.node (o_284 P) .nil .nil)))) (.node (o_62 P) (.node (o_78 P) (.node (o_112 P) (.node (o_178 P) .nil .nil) (.node (o_244 P) .nil .nil)) (.node (o_146 P) (.node (o_210 P) .nil .nil) (.node (o_276 P) .nil .nil))) (.node (o_96 P) (.node (o_128 P) (.node (o_194 P) .nil .nil) (.node (o_260 P) .nil .nil)) (.node (o_162 P) (.node (o_228 P) .nil .nil) (.node (o_292 P) .nil .nil))))) (.node (o_46 P) (.node (o_58 P) (.node (o_74 P) (.node (o_108 P) (.node (o_174 P) .nil .nil) (.node (o_240 P) .nil .nil)) (.node (o_142 P) (.node (o_206 P) .nil .nil) (.node (o_272 P) .nil .nil))) (.node (o_92 P) (.node (o_124 P) (.node (o_190 P) .nil .nil) (.node (o_256 P) .nil .nil)) (.node (o_158 P) (.node (o_224 P) .nil .nil) (.node (o_288 P) .nil .nil)))) (.node (o_66 P) (.node (o_84 P) (.node (o_116 P) (.node (o_182 P) .nil .nil) (.node (o_248 P) .nil .nil)) (.node (o_150 P) (.node (o_214 P) .nil .nil) (.node (o_280 P) .nil .nil))) (.node (o_100 P) (.node (o_132 P) (.node (o_198 P) .nil .nil) (.node (o_264 P) .nil .nil)) (.node (o_166 P) (.node (o_232 P) .nil .nil) (.node (o_296 P) .nil .nil)))))))
noncomputable def o_297 (P : Params) : Obj := .mk (.type "dict") none (.dict #[hE P "__name__" 165 (hS "law_pq0465_01" 562), hE P "__doc__" 166 .none, hE P "__package__" 167 .none, hE P "__loader__" 168 (.builtin "__main__.__loader__#opaque"), hE P "__spec__" 169 .none, hE P "__annotations__" 170 (hR 6), hE P "__builtins__" 171 (hR 4), hE P "__file__" 173 (hS "/claim/cut.py" 172), hE P "__cached__" 174 .none, hE P "Report" 230 (hR 38), hE P "NameTable" 260 (hR 59), hE P "find" 268 (hR 70), hE P "find_routine" 277 (hR 77), hE P "add_name" 289 (hR 84), hE P "add_label" 301 (hR 91), hE P "add_port" 316 (hR 98), hE P "add_signal" 330 (hR 105), hE P "declare_item" 345 (hR 112), hE P "check_expr" 355 (hR 119), hE P "check_each" 365 (hR 126), hE P "check_optional" 374 (hR 133), hE P "check_range" 383 (hR 140), hE P "check_path" 394 (hR 147), hE P "check_call" 404 (hR 154), hE P "check_declaration" 415 (hR 161), hE P "check_target" 428 (hR 169), hE P "check_target_name" 441 (hR 177), hE P "declare_labels" 455 (hR 184), hE P "check_stmt" 469 (hR 191), hE P "check_block" 482 (hR 198), hE P "check_case" 495 (hR 205), hE P "check_control" 504 (hR 212), hE P "check_events" 515 (hR 219), hE P "check_trigger" 525 (hR 226), hE P "check_disable" 535 (hR 233), hE P "check_task" 548 (hR 240), hE P "check_routine" 561 (hR 247), hE P "_law_draw" 574 (hR 254), hE P "_law_spot" 581 (hR 261), hE P "_law_id" 588 (hR 268), hE P "_law_extent" 595 (hR 275), hE P "_law_declared" 604 (hR 282), hE P "_law_statement" 610 (hR 287), hE P "_law_labels" 616 (hR 292), hE P "_law_expr_rows" 624 (hR 299), hE P "_law_target_rows" 633 (hR 306), hE P "_law_body_rows" 648 (hR 313), hE P "_law_rows" 664 (hR 320), hE P "_law_good" 673 (hR 327), hE P "law" 679 (hR 332)] 50) #[]
noncomputable def o_298 (P : Params) : Obj := .mk .none none (.fields #[.int 2 0, .int 0 0, hR 20, .int 11 0, .int 0 0, hR 48, .int 16 0, .int 0 0, hR 69, .int 22 0, .int 0 0, hR 76, .int 30 0, .int 0 0, hR 83, .int 35 0, .int 0 0, hR 90, .int 42 0, .int 0 0, hR 97, .int 56 0, .int 0 0, hR 104, .int 68 0, .int 0 0, hR 111, .int 95 0, .int 0 0, hR 118, .int 118 0, .int 0 0, hR 125, .int 121 0, .int 0 0, hR 132, .int 124 0, .int 0 0, hR 139, .int 127 0, .int 0 0, hR 146, .int 130 0, .int 0 0, hR 153, .int 137 0, .int 0 0, hR 160, .int 156 0, .int 0 0, hR 168, .int 170 0, .int 0 0, hR 176, .int 186 0, .int 0 0, hR 183, .int 208 0, .int 0 0, hR 190, .int 253 0, .int 0 0, hR 197, .int 265 0, .int 0 0, hR 204, .int 276 0, .int 0 0, hR 211, .int 281 0, .int 0 0, hR 218, .int 286 0, .int 0 0, hR 225, .int 294 0, .int 0 0, hR 232, .int 300 0, .int 0 0, hR 239, .int 319 0, .int 0 0, hR 246, .int 334 0, .int 0 0, hR 253, .int 348 0, .int 0 0, hR 260, .int 351 0, .int 0 0, hR 267, .int 353 0, .int 0 0, hR 274, .int 355 0, .int 0 0, hR 281, .int 361 0, .int 0 0, hR 286, .int 369 0, .int 0 0, hR 291, .int 377 0, .int 0 0, hR 298, .int 381 0, .int 0 0, hR 305, .int 386 0, .int 0 0, hR 312, .int 405 0, .int 0 0, hR 319, .int 437 0, .int 0 0, hR 326, .int 444 0, .int 0 0, hR 331]) #[]
noncomputable def o_299 (P : Params) : Obj := hT []
noncomputable def o_300 (P : Params) : Obj := .mk .none none (.fields #[]) #[]
noncomputable def o_301 (P : Params) : Obj := hT [hS "jar" 578]
noncomputable def o_302 (P : Params) : Obj := hT []
noncomputable def o_303 (P : Params) : Obj := hF (hAt 33) "_law_spot" .none fun n u a b c => .func ⟨n, u, a, b, c,0, [], .none, .none, .none, .none, none, .none, .none, 0⟩
noncomputable def o_304 (P : Params) : Obj := .mk (.type "code") none (.fields #[hS "_law_spot" 575, hS "_law_spot" 576, hS "/claim/cut.py" 577, .int 348 0, .int 1 0, .int 0 0, .int 0 0, .int 3 0, hR 255, .bool .true, .int 181 0, hR 256, .none, hR 257, hR 258, hR 259, .int 579 0, .int 348 0, hS "/claim/cut.py" 580]) #[]
noncomputable def o_305 (P : Params) : Obj := hF (hAt 33) "_law_spot" (.type "function") fun n u a b c => .func ⟨n, u, a, b, c,3, [], .none, .none, .none, hS "law_pq0465_01" 562, none, hR 260, .none, 0⟩
noncomputable def o_306 (P : Params) : Obj := hT []
noncomputable def o_307 (P : Params) : Obj := .mk .none none (.fields #[]) #[]
noncomputable def o_308 (P : Params) : Obj := hT [hS "jar" 585]
noncomputable def o_309 (P : Params) : Obj := hT []
noncomputable def o_310 (P : Params) : Obj := hF (hAt 34) "_law_id" .none fun n u a b c => .func ⟨n, u, a, b, c,0, [], .none, .none, .none, .none, none, .none, .none, 0⟩
noncomputable def o_311 (P : Params) : Obj := .mk (.type "code") none (.fields #[hS "_law_id" 582, hS "_law_id" 583, hS "/claim/cut.py" 584, .int 351 0, .int 1 0, .int 0 0, .int 0 0, .int 3 0, hR 262, .bool .true, .int 181 0, hR 263, .none, hR 264, hR 265, hR 266, .int 586 0, .int 351 0, hS "/claim/cut.py" 587]) #[]
noncomputable def o_312 (P : Params) : Obj := hF (hAt 34) "_law_id" (.type "function") fun n u a b c => .func ⟨n, u, a, b, c,3, [], .none, .none, .none, hS "law_pq0465_01" 562, none, hR 267, .none, 0⟩
noncomputable def o_313 (P : Params) : Obj := hT []
noncomputable def o_314 (P : Params) : Obj := .mk .none none (.fields #[]) #[]
noncomputable def o_315 (P : Params) : Obj := hT [hS "jar" 592]
noncomputable def o_316 (P : Params) : Obj := hT []
noncomputable def o_317 (P : Params) : Obj := hF (hAt 35) "_law_extent" .none fun n u a b c => .func ⟨n, u, a, b, c,0, [], .none, .none, .none, .none, none, .none, .none, 0⟩
noncomputable def o_318 (P : Params) : Obj := .mk (.type "code") none (.fields #[hS "_law_extent" 589, hS "_law_extent" 590, hS "/claim/cut.py" 591, .int 353 0, .int 1 0, .int 0 0, .int 0 0, .int 3 0, hR 269, .bool .true, .int 181 0, hR 270, .none, hR 271, hR 272, hR 273, .int 593 0, .int 353 0, hS "/claim/cut.py" 594]) #[]
noncomputable def o_319 (P : Params) : Obj := hF (hAt 35) "_law_extent" (.type "function") fun n u a b c => .func ⟨n, u, a, b, c,3, [], .none, .none, .none, hS "law_pq0465_01" 562, none, hR 274, .none, 0⟩
noncomputable def o_320 (P : Params) : Obj := hT []
noncomputable def o_321 (P : Params) : Obj := .mk .none none (.fields #[]) #[]
noncomputable def o_322 (P : Params) : Obj := hT [hS "jar" 599, hS "name" 600, hS "first" 601]
noncomputable def o_323 (P : Params) : Obj := hT []
noncomputable def o_324 (P : Params) : Obj := hF (hAt 36) "_law_declared" .none fun n u a b c => .func ⟨n, u, a, b, c,0, [], .none, .none, .none, .none, none, .none, .none, 0⟩
noncomputable def o_325 (P : Params) : Obj := .mk (.type "code") none (.fields #[hS "_law_declared" 596, hS "_law_declared" 597, hS "/claim/cut.py" 598, .int 355 0, .int 1 0, .int 0 0, .int 0 0, .int 3 0, hR 276, .bool .true, .int 181 0, hR 277, .none, hR 278, hR 279, hR 280, .int 602 0, .int 355 0, hS "/claim/cut.py" 603]) #[]
noncomputable def o_326 (P : Params) : Obj := hF (hAt 36) "_law_declared" (.type "function") fun n u a b c => .func ⟨n, u, a, b, c,3, [], .none, .none, .none, hS "law_pq0465_01" 562, none, hR 281, .none, 0⟩
noncomputable def o_327 (P : Params) : Obj := hT []
noncomputable def o_328 (P : Params) : Obj := .mk .none none (.fields #[]) #[]
noncomputable def o_329 (P : Params) : Obj := hF (hAt 37) "_law_statement" .none fun n u a b c => .func ⟨n, u, a, b, c,0, [], .none, .none, .none, .none, none, .none, .none, 0⟩
noncomputable def o_330 (P : Params) : Obj := .mk (.type "code") none (.fields #[hS "_law_statement" 605, hS "_law_statement" 606, hS "/claim/cut.py" 607, .int 361 0, .int 2 0, .int 0 0, .int 0 0, .int 3 0, hR 283, .bool .true, .int 181 0, hR 284, .none, .none, .none, hR 285, .int 608 0, .int 361 0, hS "/claim/cut.py" 609]) #[]
noncomputable def o_331 (P : Params) : Obj := hF (hAt 37) "_law_statement" (.type "function") fun n u a b c => .func ⟨n, u, a, b, c,3, [], .none, .none, .none, hS "law_pq0465_01" 562, none, hR 286, .none, 0⟩
noncomputable def o_332 (P : Params) : Obj := hT []
noncomputable def o_333 (P : Params) : Obj := .mk .none none (.fields #[]) #[]
noncomputable def o_334 (P : Params) : Obj := hF (hAt 38) "_law_labels" .none fun n u a b c => .func ⟨n, u, a, b, c,0, [], .none, .none, .none, .none, none, .none, .none, 0⟩
noncomputable def o_335 (P : Params) : Obj := .mk (.type "code") none (.fields #[hS "_law_labels" 611, hS "_law_labels" 612, hS "/claim/cut.py" 613, .int 369 0, .int 1 0, .int 0 0, .int 0 0, .int 3 0, hR 288, .bool .true, .int 181 0, hR 289, .none, .none, .none, hR 290, .int 614 0, .int 369 0, hS "/claim/cut.py" 615]) #[]
noncomputable def o_336 (P : Params) : Obj := hF (hAt 38) "_law_labels" (.type "function") fun n u a b c => .func ⟨n, u, a, b, c,3, [], .none, .none, .none, hS "law_pq0465_01" 562, none, hR 291, .none, 0⟩
noncomputable def o_337 (P : Params) : Obj := hT []
noncomputable def o_338 (P : Params) : Obj := .mk .none none (.fields #[]) #[]
noncomputable def o_339 (P : Params) : Obj := hT [hS "e" 620, hS "seen" 621]
noncomputable def o_340 (P : Params) : Obj := hT []
noncomputable def o_341 (P : Params) : Obj := hF (hAt 39) "_law_expr_rows" .none fun n u a b c => .func ⟨n, u, a, b, c,0, [], .none, .none, .none, .none, none, .none, .none, 0⟩
noncomputable def o_342 (P : Params) : Obj := .mk (.type "code") none (.fields #[hS "_law_expr_rows" 617, hS "_law_expr_rows" 618, hS "/claim/cut.py" 619, .int 377 0, .int 2 0, .int 0 0, .int 0 0, .int 3 0, hR 293, .bool .true, .int 181 0, hR 294, .none, hR 295, hR 296, hR 297, .int 622 0, .int 377 0, hS "/claim/cut.py" 623]) #[]
noncomputable def o_343 (P : Params) : Obj := hF (hAt 39) "_law_expr_rows" (.type "function") fun n u a b c => .func ⟨n, u, a, b, c,3, [], .none, .none, .none, hS "law_pq0465_01" 562, none, hR 298, .none, 0⟩
noncomputable def o_344 (P : Params) : Obj := hT []
noncomputable def o_345 (P : Params) : Obj := .mk .none none (.fields #[]) #[]
noncomputable def o_346 (P : Params) : Obj := hT [hS "lv" 628, hS "seen" 629, hS "kind" 630]
noncomputable def o_347 (P : Params) : Obj := hT []
noncomputable def o_348 (P : Params) : Obj := hF (hAt 40) "_law_target_rows" .none fun n u a b c => .func ⟨n, u, a, b, c,0, [], .none, .none, .none, .none, none, .none, .none, 0⟩
noncomputable def o_349 (P : Params) : Obj := .mk (.type "code") none (.fields #[hS "_law_target_rows" 625, hS "_law_target_rows" 626, hS "/claim/cut.py" 627, .int 381 0, .int 2 0, .int 0 0, .int 0 0, .int 3 0, hR 300, .bool .true, .int 181 0, hR 301, .none, hR 302, hR 303, hR 304, .int 631 0, .int 381 0, hS "/claim/cut.py" 632]) #[]
noncomputable def o_350 (P : Params) : Obj := hF (hAt 40) "_law_target_rows" (.type "function") fun n u a b c => .func ⟨n, u, a, b, c,3, [], .none, .none, .none, hS "law_pq0465_01" 562, none, hR 305, .none, 0⟩
noncomputable def o_351 (P : Params) : Obj := hT []
noncomputable def o_352 (P : Params) : Obj := .mk .none none (.fields #[]) #[]
noncomputable def o_353 (P : Params) : Obj := hT [hS "s" 637, hS "seen" 638, hS "may_wait" 639, hS "first" 640, hS "found" 641, hS "met" 642, hS "inner" 643, hS "name" 644, hS "at" 645]
noncomputable def o_354 (P : Params) : Obj := hT []
noncomputable def o_355 (P : Params) : Obj := hF (hAt 41) "_law_body_rows" .none fun n u a b c => .func ⟨n, u, a, b, c,0, [], .none, .none, .none, .none, none, .none, .none, 0⟩
noncomputable def o_356 (P : Params) : Obj := .mk (.type "code") none (.fields #[hS "_law_body_rows" 634, hS "_law_body_rows" 635, hS "/claim/cut.py" 636, .int 386 0, .int 3 0, .int 0 0, .int 0 0, .int 3 0, hR 307, .bool .true, .int 181 0, hR 308, .none, hR 309, hR 310, hR 311, .int 646 0, .int 386 0, hS "/claim/cut.py" 647]) #[]
noncomputable def o_357 (P : Params) : Obj := hF (hAt 41) "_law_body_rows" (.type "function") fun n u a b c => .func ⟨n, u, a, b, c,3, [], .none, .none, .none, hS "law_pq0465_01" 562, none, hR 312, .none, 0⟩
noncomputable def o_358 (P : Params) : Obj := hT []
noncomputable def o_359 (P : Params) : Obj := .mk .none none (.fields #[]) #[]
noncomputable def o_360 (P : Params) : Obj := hT [hS "item" 652, hS "seen" 653, hS "found" 654, hS "pairs" 655, hS "one" 656, hS "half" 657, hS "own_names" 658, hS "name" 659, hS "met" 660, hS "at" 661]
noncomputable def o_361 (P : Params) : Obj := hT []
noncomputable def o_362 (P : Params) : Obj := hF (hAt 42) "_law_rows" .none fun n u a b c => .func ⟨n, u, a, b, c,0, [], .none, .none, .none, .none, none, .none, .none, 0⟩
noncomputable def o_363 (P : Params) : Obj := .mk (.type "code") none (.fields #[hS "_law_rows" 649, hS "_law_rows" 650, hS "/claim/cut.py" 651, .int 405 0, .int 1 0, .int 0 0, .int 0 0, .int 3 0, hR 314, .bool .true, .int 181 0, hR 315, .none, hR 316, hR 317, hR 318, .int 662 0, .int 405 0, hS "/claim/cut.py" 663]) #[]
noncomputable def o_364 (P : Params) : Obj := hF (hAt 42) "_law_rows" (.type "function") fun n u a b c => .func ⟨n, u, a, b, c,3, [], .none, .none, .none, hS "law_pq0465_01" 562, none, hR 319, .none, 0⟩
noncomputable def o_365 (P : Params) : Obj := hT []
noncomputable def o_366 (P : Params) : Obj := .mk .none none (.fields #[]) #[]
noncomputable def o_367 (P : Params) : Obj := hT [hS "item" 668, hS "table" 669, hS "notes_of" 670]
noncomputable def o_368 (P : Params) : Obj := hT []
noncomputable def o_369 (P : Params) : Obj := hF (hAt 43) "_law_good" .none fun n u a b c => .func ⟨n, u, a, b, c,0, [], .none, .none, .none, .none, none, .none, .none, 0⟩
noncomputable def o_370 (P : Params) : Obj := .mk (.type "code") none (.fields #[hS "_law_good" 665, hS "_law_good" 666, hS "/claim/cut.py" 667, .int 437 0, .int 1 0, .int 0 0, .int 0 0, .int 3 0, hR 321, .bool .true, .int 181 0, hR 322, .none, hR 323, hR 324, hR 325, .int 671 0, .int 437 0, hS "/claim/cut.py" 672]) #[]
noncomputable def o_371 (P : Params) : Obj := hF (hAt 43) "_law_good" (.type "function") fun n u a b c => .func ⟨n, u, a, b, c,3, [], .none, .none, .none, hS "law_pq0465_01" 562, none, hR 326, .none, 0⟩
noncomputable def o_372 (P : Params) : Obj := hT []
noncomputable def o_373 (P : Params) : Obj := .mk .none none (.fields #[]) #[]
noncomputable def o_374 (P : Params) : Obj := hF (hAt 44) "law" .none fun n u a b c => .func ⟨n, u, a, b, c,0, [], .none, .none, .none, .none, none, .none, .none, 0⟩
noncomputable def o_375 (P : Params) : Obj := .mk (.type "code") none (.fields #[hS "law" 674, hS "law" 675, hS "/claim/cut.py" 676, .int 444 0, .int 1 0, .int 0 0, .int 0 0, .int 3 0, hR 328, .bool .true, .int 181 0, hR 329, .none, .none, .none, hR 330, .int 677 0, .int 444 0, hS "/claim/cut.py" 678]) #[]
noncomputable def o_376 (P : Params) : Obj := hF (hAt 44) "law" (.type "function") fun n u a b c => .func ⟨n, u, a, b, c,3, [], .none, .none, .none, hS "law_pq0465_01" 562, none, hR 331, .none, 0⟩
noncomputable def tree_376 (P : Params) : BT := .node (boot_o_0 P) (.node (boot_o_1 P) (.node (o_297 P) (.node (boot_o_7 P) (.node (o_51 P) (.node (o_67 P) (.node (o_101 P) (.node (o_167 P) (.node (o_299 P) .nil .nil) .nil) (.node (o_233 P) (.node (o_363 P) .nil .nil) .nil)) (.node (o_133 P) (.node (o_199 P) (.node (o_331 P) .nil .nil) .nil) (.node (o_265 P) .nil .nil))) (.node (o_85 P) (.node (o_117 P) (.node (o_183 P) (.node (o_315 P) .nil .nil) .nil) (.node (o_249 P) .nil .nil)) (.node (o_151 P) (.node (o_215 P) (.node (o_347 P) .nil .nil) .nil) (.node (o_281 P) .nil .nil)))) (.node (o_59 P) (.node (o_75 P) (.node (o_109 P) (.node (o_175 P) (.node (o_307 P) .nil .nil) .nil) (.node (o_241 P) (.node (o_371 P) .nil .nil) .nil)) (.node (o_143 P) (.node (o_207 P) (.node (o_339 P) .nil .nil) .nil) (.node (o_273 P) .nil .nil))) (.node (o_93 P) (.node (o_125 P) (.node (o_191 P) (.node (o_323 P) .nil .nil) .nil) (.node (o_257 P) .nil .nil)) (.node (o_159 P) (.node (o_225 P) (.node (o_355 P) .nil .nil) .nil) (.node (o_289 P) .nil .nil))))) (.node (o_43 P) (.node (o_55 P) (.node (o_71 P) (.node (o_105 P) (.node (o_171 P) (.node (o_303 P) .nil .nil) .nil) (.node (o_237 P) (.node (o_367 P) .nil .nil) .nil)) (.node (o_139 P) (.node (o_203 P) (.node (o_335 P) .nil .nil) .nil) (.node (o_269 P) .nil .nil))) (.node (o_89 P) (.node (o_121 P) (.node (o_187 P) (.node (o_319 P) .nil .nil) .nil) (.node (o_253 P) .nil .nil)) (.node (o_155 P) (.node (o_221 P) (.node (o_351 P) .nil .nil) .nil) (.node (o_285 P) .nil .nil)))) (.node (o_63 P) (.node (o_81 P) (.node (o_113 P) (.node (o_179 P) (.node (o_311 P) .nil .nil) .nil) (.node (o_245 P) (.node (o_375 P) .nil .nil) .nil)) (.node (o_147 P) (.node (o_211 P) (.node (o_343 P) .nil .nil) .nil) (.node (o_277 P) .nil .nil))) (.node (o_97 P) (.node (o_129 P) (.node (o_195 P) (.node (o_327 P) .nil .nil) .nil) (.node (o_261 P) .nil .nil)) (.node (o_163 P) (.node (o_229 P) (.node (o_359 P) .nil .nil) .nil) (.node (o_293 P) .nil .nil)))))) (.node (boot_o_5 P) (.node (boot_o_9 P) (.node (o_53 P) (.node (o_69 P) (.node (o_103 P) (.node (o_169 P) (.node (o_301 P) .nil .nil) .nil) (.node (o_235 P) (.node (o_365 P) .nil .nil) .nil)) (.node (o_135 P) (.node (o_201 P) (.node (o_333 P) .nil .nil) .nil) (.node (o_267 P) .nil .nil))) (.node (o_87 P) (.node (o_119 P) (.node (o_185 P) (.node (o_317 P) .nil .nil) .nil) (.node (o_251 P) .nil .nil)) (.node (o_153 P) (.node (o_217 P) (.node (o_349 P) .nil .nil) .nil) (.node (o_283 P) .nil .nil)))) (.node (o_61 P) (.node (o_77 P) (.node (o_111 P) (.node (o_177 P) (.node (o_309 P) .nil .nil) .nil) (.node (o_243 P) (.node (o_373 P) .nil .nil) .nil)) (.node (o_145 P) (.node (o_209 P) (.node (o_341 P) .nil .nil) .nil) (.node (o_275 P) .nil .nil))) (.node (o_95 P) (.node (o_127 P) (.node (o_193 P) (.node (o_325 P) .nil .nil) .nil) (.node (o_259 P) .nil .nil)) (.node (o_161 P) (.node (o_227 P) (.node (o_357 P) .nil .nil) .nil) (.node (o_291 P) .nil .nil))))) (.node (o_45 P) (.node (o_57 P) (.node (o_73 P) (.node (o_107 P) (.node (o_173 P) (.node (o_305 P) .nil .nil) .nil) (.node (o_239 P) (.node (o_369 P) .nil .nil) .nil)) (.node (o_141 P) (.node (o_205 P) (.node (o_337 P) .nil .nil) .nil) (.node (o_271 P) .nil .nil))) (.node (o_91 P) (.node (o_123 P) (.node (o_189 P) (.node (o_321 P) .nil .nil) .nil) (.node (o_255 P) .nil .nil)) (.node (o_157 P) (.node (o_223 P) (.node (o_353 P) .nil .nil) .nil) (.node (o_287 P) .nil .nil)))) (.node (o_65 P) (.node (o_83 P) (.node (o_115 P) (.node (o_181 P) (.node (o_313 P) .nil .nil) .nil) (.node (o_247 P) .nil .nil)) (.node (o_149 P) (.node (o_213 P) (.node (o_345 P) .nil .nil) .nil) (.node (o_279 P) .nil .nil))) (.node (o_99 P) (.node (o_131 P) (.node (o_197 P) (.node (o_329 P) .nil .nil) .nil) (.node (o_263 P) .nil .nil)) (.node (o_165 P) (.node (o_231 P) (.node (o_361 P) .nil .nil) .nil) (.node (o_295 P) .nil .nil))))))) (.node (boot_o_2 P) (.node (boot_o_4 P) (.node (boot_o_8 P) (.node (o_52 P) (.node (o_68 P) (.node (o_102 P) (.node (o_168 P) (.node (o_300 P) .nil .nil) .nil) (.node (o_234 P) (.node (o_364 P) .nil .nil) .nil)) (.node (o_134 P) (.node (o_200 P) (.node (o_332 P) .nil .nil) .nil) (.node (o_266 P) .nil .nil))) (.node (o_86 P) (.node (o_118 P) (.node (o_184 P) (.node (o_316 P) .nil .nil) .nil) (.node (o_250 P) .nil .nil)) (.node (o_152 P) (.node (o_216 P) (.node (o_348 P) .nil .nil) .nil) (.node (o_282 P) .nil .nil)))) (.node (o_60 P) (.node (o_76 P) (.node (o_110 P) (.node (o_176 P) (.node (o_308 P) .nil .nil) .nil) (.node (o_242 P) (.node (o_372 P) .nil .nil) .nil)) (.node (o_144 P) (.node (o_208 P) (.node (o_340 P) .nil .nil) .nil) (.node (o_274 P) .nil .nil))) (.node (o_94 P) (.node (o_126 P) (.node (o_192 P) (.node (o_324 P) .nil .nil) .nil) (.node (o_258 P) .nil .nil)) (.node (o_160 P) (.node (o_226 P) (.node (o_356 P) .nil .nil) .nil) (.node (o_290 P) .nil .nil))))) (.node (o_298 P) (.node (o_56 P) (.node (o_72 P) (.node (o_106 P) (.node (o_172 P) (.node (o_304 P) .nil .nil) .nil) (.node (o_238 P) (.node (o_368 P) .nil .nil) .nil)) (.node (o_140 P) (.node (o_204 P) (.node (o_336 P) .nil .nil) .nil) (.node (o_270 P) .nil .nil))) (.node (o_90 P) (.node (o_122 P) (.node (o_188 P) (.node (o_320 P) .nil .nil) .nil) (.node (o_254 P) .nil .nil)) (.node (o_156 P) (.node (o_222 P) (.node (o_352 P) .nil .nil) .nil) (.node (o_286 P) .nil .nil)))) (.node (o_64 P) (.node (o_82 P) (.node (o_114 P) (.node (o_180 P) (.node (o_312 P) .nil .nil) .nil) (.node (o_246 P) (.node (o_376 P) .nil .nil) .nil)) (.node (o_148 P) (.node (o_212 P) (.node (o_344 P) .nil .nil) .nil) (.node (o_278 P) .nil .nil))) (.node (o_98 P) (.node (o_130 P) (.node (o_196 P) (.node (o_328 P) .nil .nil) .nil) (.node (o_262 P) .nil .nil)) (.node (o_164 P) (.node (o_230 P) (.node (o_360 P) .nil .nil) .nil) (.node (o_294 P) .nil .nil)))))) (.node (boot_o_6 P) (.node (boot_o_10 P) (.node (o_54 P) (.node (o_70 P) (.node (o_104 P) (.node (o_170 P) (.node (o_302 P) .nil .nil) .nil) (.node (o_236 P) (.node (o_366 P) .nil .nil) .nil)) (.node (o_136 P) (.node (o_202 P) (.node (o_334 P) .nil .nil) .nil) (.node (o_268 P) .nil .nil))) (.node (o_88 P) (.node (o_120 P) (.node (o_186 P) (.node (o_318 P) .nil .nil) .nil) (.node (o_252 P) .nil .nil)) (.node (o_154 P) (.node (o_220 P) (.node (o_350 P) .nil .nil) .nil) (.node (o_284 P) .nil .nil)))) (.node (o_62 P) (.node (o_78 P) (.node (o_112 P) (.node (o_178 P) (.node (o_310 P) .nil .nil) .nil) (.node (o_244 P) (.node (o_374 P) .nil .nil) .nil)) (.node (o_146 P) (.node (o_210 P) (.node (o_342 P) .nil .nil) .nil) (.node (o_276 P) .nil .nil))) (.node (o_96 P) (.node (o_128 P) (.node (o_194 P) (.node (o_326 P) .nil .nil) .nil) (.node (o_260 P) .nil .nil)) (.node (o_162 P) (.node (o_228 P) (.node (o_358 P) .nil .nil) .nil) (.node (o_292 P) .nil .nil))))) (.node (o_46 P) (.node (o_58 P) (.node (o_74 P) (.node (o_108 P) (.node (o_174 P) (.node (o_306 P) .nil .nil) .nil) (.node (o_240 P) (.node (o_370 P) .nil .nil) .nil)) (.node (o_142 P) (.node (o_206 P) (.node (o_338 P) .nil .nil) .nil) (.node (o_272 P) .nil .nil))) (.node (o_92 P) (.node (o_124 P) (.node (o_190 P) (.node (o_322 P) .nil .nil) .nil) (.node (o_256 P) .nil .nil)) (.node (o_158 P) (.node (o_224 P) (.node (o_354 P) .nil .nil) .nil) (.node (o_288 P) .nil .nil)))) (.node (o_66 P) (.node (o_84 P) (.node (o_116 P) (.node (o_182 P) (.node (o_314 P) .nil .nil) .nil) (.node (o_248 P) .nil .nil)) (.node (o_150 P) (.node (o_214 P) (.node (o_346 P) .nil .nil) .nil) (.node (o_280 P) .nil .nil))) (.node (o_100 P) (.node (o_132 P) (.node (o_198 P) (.node (o_330 P) .nil .nil) .nil) (.node (o_264 P) .nil .nil)) (.node (o_166 P) (.node (o_232 P) (.node (o_362 P) .nil .nil) .nil) (.node (o_296 P) .nil .nil)))))))
noncomputable def heap_377 (P : Params) : Heap := .mk #[boot_o_0 P, boot_o_1 P, boot_o_2 P, o_297 P, boot_o_4 P, boot_o_5 P, boot_o_6 P, boot_o_7 P, boot_o_8 P, boot_o_9 P, boot_o_10 P, o_43 P, o_298 P, o_45 P, o_46 P, o_51 P, o_52 P, o_53 P, o_54 P, o_55 P, o_56 P, o_57 P, o_58 P, o_59 P, o_60 P, o_61 P, o_62 P, o_63 P, o_64 P, o_65 P, o_66 P, o_67 P, o_68 P, o_69 P, o_70 P, o_71 P, o_72 P, o_73 P, o_74 P, o_75 P, o_76 P, o_77 P, o_78 P, o_81 P, o_82 P, o_83 P, o_84 P, o_85 P, o_86 P, o_87 P, o_88 P, o_89 P, o_90 P, o_91 P, o_92 P, o_93 P, o_94 P, o_95 P, o_96 P, o_97 P, o_98 P, o_99 P, o_100 P, o_101 P, o_102 P, o_103 P, o_104 P, o_105 P, o_106 P, o_107 P, o_108 P, o_109 P, o_110 P, o_111 P, o_112 P, o_113 P, o_114 P, o_115 P, o_116 P, o_117 P, o_118 P, o_119 P, o_120 P, o_121 P, o_122 P, o_123 P, o_124 P, o_125 P, o_126 P, o_127 P, o_128 P, o_129 P, o_130 P, o_131 P, o_132 P, o_133 P, o_134 P, o_135 P, o_136 P, o_139 P, o_140 P, o_141 P, o_142 P, o_143 P, o_144 P, o_145 P, o_146 P, o_147 P, o_148 P, o_149 P, o_150 P, o_151 P, o_152 P, o_153 P, o_154 P, o_155 P, o_156 P, o_157 P, o_158 P, o_159 P, o_160 P, o_161 P, o_162 P, o_163 P, o_164 P, o_165 P, o_166 P, o_167 P, o_168 P, o_169 P, o_170 P, o_171 P, o_172 P, o_173 P, o_174 P, o_175 P, o_176 P, o_177 P, o_178 P, o_179 P, o_180 P, o_181 P, o_182 P, o_183 P, o_184 P, o_185 P, o_186 P, o_187 P, o_188 P, o_189 P, o_190 P, o_191 P, o_192 P, o_193 P, o_194 P, o_195 P, o_196 P, o_197 P, o_198 P, o_199 P, o_200 P, o_201 P, o_202 P, o_203 P, o_204 P, o_205 P, o_206 P, o_207 P, o_208 P, o_209 P, o_210 P, o_211 P, o_212 P, o_213 P, o_214 P, o_215 P, o_216 P, o_217 P, o_220 P, o_221 P, o_222 P, o_223 P, o_224 P, o_225 P, o_226 P, o_227 P, o_228 P, o_229 P, o_230 P, o_231 P, o_232 P, o_233 P, o_234 P, o_235 P, o_236 P, o_237 P, o_238 P, o_239 P, o_240 P, o_241 P, o_242 P, o_243 P, o_244 P, o_245 P, o_246 P, o_247 P, o_248 P, o_249 P, o_250 P, o_251 P, o_252 P, o_253 P, o_254 P, o_255 P, o_256 P, o_257 P, o_258 P, o_259 P, o_260 P, o_261 P, o_262 P, o_263 P, o_264 P, o_265 P, o_266 P, o_267 P, o_268 P, o_269 P, o_270 P, o_271 P, o_272 P, o_273 P, o_274 P, o_275 P, o_276 P, o_277 P, o_278 P, o_279 P, o_280 P, o_281 P, o_282 P, o_283 P, o_284 P, o_285 P, o_286 P, o_287 P, o_288 P, o_289 P, o_290 P, o_291 P, o_292 P, o_293 P, o_294 P, o_295 P, o_296 P, o_299 P, o_300 P, o_301 P, o_302 P, o_303 P, o_304 P, o_305 P, o_306 P, o_307 P, o_308 P, o_309 P, o_310 P, o_311 P, o_312 P, o_313 P, o_314 P, o_315 P, o_316 P, o_317 P, o_318 P, o_319 P, o_320 P, o_321 P, o_322 P, o_323 P, o_324 P, o_325 P, o_326 P, o_327 P, o_328 P, o_329 P, o_330 P, o_331 P, o_332 P, o_333 P, o_334 P, o_335 P, o_336 P, o_337 P, o_338 P, o_339 P, o_340 P, o_341 P, o_342 P, o_343 P, o_344 P, o_345 P, o_346 P, o_347 P, o_348 P, o_349 P, o_350 P, o_351 P, o_352 P, o_353 P, o_354 P, o_355 P, o_356 P, o_357 P, o_358 P, o_359 P, o_360 P, o_361 P, o_362 P, o_363 P, o_364 P, o_365 P, o_366 P, o_367 P, o_368 P, o_369 P, o_370 P, o_371 P, o_372 P, o_373 P, o_374 P, o_375 P, o_376 P] (.mk [] [] [] 0 [] [] .false #[] [] 0 .false .false .false 0 [2000, 10, 10] .false 0 .true [] [] 0 .false)
noncomputable def env_41 : Env := { scope := pP.main.scope, locals := mainNs, globals := mainNs, cells := [], code := .ref 13, frame := some 14 }
noncomputable abbrev bB : List Stmt := behindTheImports pP
noncomputable abbrev cB : Code := .body bB env_41
noncomputable abbrev p0 : Pos := ⟨0, 0, 0, 0⟩
noncomputable def sT (t : BT) (n tk : Nat) (os : OsState) : SharedT := ⟨t, n, {}, #[], {}, tk, os⟩
noncomputable abbrev annH : Option Value := some (.ref 6)
section
variable (w : World) (os : OsState)
theorem open_h : ∀ w : World, (fencedOpening treeTable pP w 3696).map (fun s => (s.heap, s.gens, s.drawn, s.toks)) = some (boot_heap w.params, Array.mk [], boot_drawn, boot_toks) := boot_open (by kernel_rfl) (by decide) (fun s => by kernel_rfl)
theorem size_h : ((boot_heap w.params).isNs mainGlobals && (Array.mk [] : Array GenState).size == 0, (boot_heap w.params).objs.size, (boot_heap w.params).nsMap mainGlobals "__annotations__") = (true, 11, annH) := by kernel_rfl
theorem pre_h : topGo treeTable pP w 11 annH 12 ⟨boot_heap w.params, Array.mk [], boot_drawn, boot_toks, os⟩ (topStub pP) = some (⟨heap_46 w.params, #[], {}, 187, os⟩, ⟨denote treeTable cB, cB, p0, [topFrame p0]⟩) := by kernel_rfl
theorem block_h : segRun treeTable pP w 11 annH 1 1 ⟨heap_46 w.params, #[], {}, 187, os⟩ (blockOf bB env_41 cB p0 [topFrame p0]) = some (.next, (sT (tree_47 w.params) 15 187 os).abs, cB, p0) := by kernel_rfl
theorem part1_h : segRunT treeTable pP w 11 annH 1 269 (sT (tree_47 w.params) 15 187 os) (piecesOf (bB.take 2) env_41 cB p0 [topFrame p0]) = some (.next, sT (tree_78 w.params) 43 231 os, cB, ⟨2, 0, 10, 44⟩) := by kernel_rfl
theorem part2_h : segRunT treeTable pP w 11 annH 1 390 (sT (tree_78 w.params) 43 231 os) (piecesOf ((bB.drop 2).take 6) env_41 cB ⟨2, 0, 10, 44⟩ [topFrame p0]) = some (.next, sT (tree_136 w.params) 99 317 os, cB, ⟨42, 0, 55, 64⟩) := by kernel_rfl
theorem part3_h : segRunT treeTable pP w 11 annH 1 379 (sT (tree_136 w.params) 99 317 os) (piecesOf (((bB.drop 2).drop 6).take 12) env_41 cB ⟨42, 0, 55, 64⟩ [topFrame p0]) = some (.next, sT (tree_217 w.params) 178 444 os, cB, ⟨185, 0, 185, 8⟩) := by kernel_rfl
theorem part4_h : segRunT treeTable pP w 11 annH 1 388 (sT (tree_217 w.params) 178 444 os) (piecesOf ((((bB.drop 2).drop 6).drop 12).take 13) env_41 cB ⟨185, 0, 185, 8⟩ [topFrame p0]) = some (.next, sT (tree_296 w.params) 255 575 os, cB, ⟨334, 0, 347, 14⟩) := by kernel_rfl
theorem part5_h : segRunT treeTable pP w 11 annH 1 364 (sT (tree_296 w.params) 255 575 os) (piecesOf (((((bB.drop 2).drop 6).drop 12).drop 13).take 12) env_41 cB ⟨334, 0, 347, 14⟩ [topFrame p0]) = some (.next, sT (tree_376 w.params) 333 680 os, cB, ⟨444, 0, 453, 216⟩) := by kernel_rfl
theorem last_h : topRun treeTable pP w 11 annH 2 (sT (tree_376 w.params) 333 680 os).abs ⟨doneF .next, cB, ⟨444, 0, 453, 216⟩, [topFrame p0]⟩ = some ⟨heap_377 w.params, #[], {}, 680, os⟩ := by kernel_rfl
theorem piece_take {w : World} {n N k : Nat} {s s' : SharedT} {r : Shared} {l : List Stmt} {pos p' : Pos} (h : segRunT treeTable pP w 11 annH 1 n s (piecesOf (l.take k) env_41 cB pos [topFrame p0]) = some (.next, s', cB, p'))
    (c : topRun treeTable pP w 11 annH N s'.abs (restOf (l.drop k) env_41 cB p' [topFrame p0]) = some r) : topRun treeTable pP w 11 annH (n + N) s.abs (restOf l env_41 cB pos [topFrame p0]) = some r := by
  have := piece_app (segRun_of h) c
  rwa [List.take_append_drop] at this
theorem piece_end {w : World} {N : Nat} {s r : Shared} {l : List Stmt} {pos : Pos} (e : l = []) (c : topRun treeTable pP w 11 annH N s ⟨doneF .next, cB, pos, [topFrame p0]⟩ = some r) : topRun treeTable pP w 11 annH N s (restOf l env_41 cB pos [topFrame p0]) = some r := by
  subst e
  exact piece_nil c
theorem run_h : topRun treeTable pP w 11 annH (12 + (1 + (269 + (390 + (379 + (388 + (364 + 2))))))) ⟨boot_heap w.params, Array.mk [], boot_drawn, boot_toks, os⟩ (topStub pP) = some ⟨heap_377 w.params, #[], {}, 680, os⟩ :=
  go_top (pre_h w os) (piece_block (block_h w os) (piece_take (part1_h w os) (piece_take (part2_h w os) (piece_take (part3_h w os) (piece_take (part4_h w os) (piece_take (part5_h w os) (piece_end (by kernel_rfl) (last_h w os))))))))
noncomputable abbrev fin_h : Shared := ⟨heap_377 w.params, #[], {}, 680, os⟩
noncomputable abbrev seen_h := openSeen seenProg [Str.ofString "check_target", Str.ofString "check_target_name"] (importedModules pP.main.body) (fun s => xlAt seenProg [] s && recOk (RowW.records (OpenRow.toRowW PySem.Challenge.rw_pq0465_01.row)) s) true (fin_h w os)
noncomputable abbrev good_h := openGood seenProg [Str.ofString "check_target", Str.ofString "check_target_name"]
theorem still_h : (staticsOk (importedModules pP.main.body) (boot_heap w.params) (heap_377 w.params) && namesBound pP (heap_377 w.params) && gensDone (fin_h w os) && laidKept (boot_heap w.params) (heap_377 w.params)) = true := by kernel_rfl
theorem looks_h : seen_h w os = good_h := by kernel_rfl
theorem three_h {α β γ : Type} {a a' : α} {b b' : β} {c c' : γ} (x : a = a') (y : b = b') (z : c = c') : (a, b, c) = (a', b', c') := by subst x y z; rfl
end
end
/- the head: the top is run once, in one check by the kernel -/
local macro_rules | `(tactic| o_head $H) => `(tactic| (refine holds_open (q := seenProg) (loose := [Str.ofString "check_target", Str.ofString "check_target_name"]) (Xt := fun s => xlAt seenProg [] s && recOk (RowW.records (OpenRow.toRowW PySem.Challenge.rw_pq0465_01.row)) s) (XP := XL seenProg []) (Yf := Hook.obs $H) (Ya := Hook.val $H) (YP := Hook.says $H) (N := 3696) ?hl (Hook.of $H) (Hook.keeps $H) (fun s e => xl_of s (Bool.and_eq_true_iff.mp e).1) XL.keeps (by rfl) (by rfl) (by rfl) (fun s e => recFacts_of (Bool.and_eq_true_iff.mp e).2) (by rfl) (by assumption) (by decide +kernel) ⟨rfl, rfl, rfl, rfl, rfl, by decide +kernel⟩ ?hw ?hc; (case hl => exact LeftO.of_pieces (H₀ := boot_heap) (H₁ := heap_377) open_h size_h run_h (by rfl) (fun w => funext fun os => three_h (still_h w os) (looks_h w os) (by kernel_rfl)))))
theorem and_t {a b : Bool} (x : a = true) (y : b = true) : (a && b) = true := by rw [x, y]; rfl
theorem said_ : PySem.Challenge.rw_pq0465_01.wellSaid = true := by
  unfold OpenLaw.wellSaid OpenRow.wellSaid OpenRow.partSaid looksOpen
  with_reducible repeat' (refine and_t ?_ ?_)
  all_goals decide +kernel
local macro_rules | `(tactic| o_law) => `(tactic| refine holds_law said_ fun said => ?_)
local macro_rules | `(tactic| k_qdec) => `(tactic| decide +kernel)
set_option maxHeartbeats 0 in
open_top hd for PySem.Challenge.rw_pq0465_01
theorem fill_all : PySem.Challenge.rw_pq0465_01.prog = PySem.Challenge.rw_pq0465_01.prog ∧ hd.heap_1 = hd.heap_1 := by
  k_fill
  w_top off
  exact ⟨rfl, rfl⟩
local macro_rules | `(tactic| walk_at $s:str) => do (let t := Lean.Syntax.mkStrLit ("m:" ++ s.getString); `(tactic| k_extra $t))
noncomputable abbrev PV : Program := seenProg
noncomputable abbrev LS : List Str := looseW seenProg [Str.ofString "check_target", Str.ofString "check_target_name"]
noncomputable abbrev PG : Program := PySem.Challenge.rw_pq0465_01.row.prog
noncomputable abbrev MD (w : World) : Model := model PG w
noncomputable abbrev AR (dp un : Nat) (gd : Option (List Code)) (cn : Str) (cs : Scope) (L a : Addr) (ccd : Value) (cl : List (Str × Addr)) (outer : List Env) : Around :=
  ktrTop dp un gd cn cs L a ccd cl outer

/-- what a body owes at its end -/
noncomputable def Back (h₀ : Heap) (L : Addr) (m : Str → Option Value) (g : Heap) (Q : Value → Shared → Prop) (v : Value) (s' : Shared) : Prop :=
  ∃ L' m' news', Fr g L' s'.heap m' ∧ News g L' s'.heap news' ∧ (Fr h₀ L s'.heap m → News h₀ L s'.heap news' → (∀ b o, g.get? b = some o → s'.heap.get? b = some o) → Q v s')

theorem groundG {A₀ A : Around} {s : Shared} {base h₀ : Heap} {outer : List Env} {L : Addr} {m : Str → Option Value} {env : Env} {cells : List (Addr × Obj)} {Q : Value → Shared → Prop}
    (B : Below A₀ base outer h₀) (F : Fr h₀ L s.heap m) (N : News h₀ L s.heap cells) (hA : A.frames = some (env :: outer)) (hf : env.frame = some L) (hke : env.scope.kind = .function) :
    ∀ v s', Back h₀ L m (hideAll s.heap (cells.map (·.1))) Q v s' → Q v s' := by
  obtain ⟨FG, _, st, lv⟩ := groundX (R := fun r s' => match r with | .ok (.ret v) => Q v s' | _ => False) B F N hA hf hke
  rintro v s' ⟨L', m', news', F', N', k⟩
  exact lv v s' ⟨L', m', news', F', N', fun a b => k a b F'.keep⟩

section
variable {w : World} {mean : ExcName → Option Value} {mg mb : Str → Option Value} {dp un : Nat} {gd : Option (List Code)} {cn : Str} {cs : Scope} {a : Addr} {ccd : Value} {cl : List (Str × Addr)} {outer : List Env} {A₀ : Around}
  {base h₀ : Heap} {L : Addr} {m : Str → Option Value} {s : Shared} {Q E : Value → Shared → Prop}

theorem enterG {cells : List (Addr × Obj)} {f : Addr} {oc : Value} {od : Option Addr} {osl : Array (Option Value)} {name qual : Str} {params : Arguments} {body : List Stmt} {scope : Scope} {dV kV doc pm cdv ct : Value} {an : Option Addr} {vs : List Value} {binds : List (Str × Value)}
    (B : Below A₀ base outer h₀) (F : Fr h₀ L s.heap m) (X : (hd.heap_1 w.params).In h₀) (T : Top PV LS mean mg mb h₀) (hk : cs.kind = .function) (N : News h₀ L s.heap cells) (hroom : dp < recursionLimit)
    (ho : (hd.heap_1 w.params).lookup f = some ⟨oc, od, .func (fnOf name qual params body scope dV kV doc pm an cdv ct), osl⟩) (hcd : codeIn (hd.heap_1 w.params) cdv qual = true)
    (hbind : BindsTo s (fnOf name qual params body scope dV kV doc pm an cdv ct) ⟨vs, []⟩ binds) (hloc : ∀ y ∈ binds, scope.names.lookup y.1 = some .local)
    (h : ∀ g L' h₁, Fr h₀ L g m → Fr g L' h₁ (fun y => binds.reverse.lookup y) → News g L' h₁ cells → Below (AR dp un gd cn cs L a ccd cl outer) base (envX cn cs L a ccd cl :: outer) g → (hd.heap_1 w.params).In g → Top PV LS mean mg mb g →
      (∀ b o, b ∉ cells.map (·.1) → s.heap.get? b = some o → g.get? b = some o) → (∀ b o, g.get? b = some o → s.heap.get? b = some o) → (∀ p ∈ cells, p.1 < L') →
      wpAny (MD w) ((AR dp un gd cn cs L a ccd cl outer).deeper (envOf qual scope L' f cdv)) (execs body (envOf qual scope L' f cdv))
        (fun fl s' => Back h₀ L m g Q (match fl with | .ret v => v | _ => .none) s')
        (fun e s' => wpAny (MD w) ((AR dp un gd cn cs L a ccd cl outer).deeper (envOf qual scope L' f cdv)) (leaving (envOf qual scope L' f cdv) e) (fun _ s'' => E e s'') (fun e' s'' => E e' s'') s')
        { s with heap := h₁, toks := s.toks + binds.length })
    (hcell : ∀ x ∈ scope.names, x.2 ≠ .cell) (hco : scope.isCoroutine = false) (hgen : scope.isGenerator = false) (hks : scope.kind = .function) :
    wpAny (MD w) (AR dp un gd cn cs L a ccd cl outer) (call (.ref f) vs) Q E s := by
  have lv := groundG (A := AR dp un gd cn cs L a ccd cl outer) (Q := Q) B F N rfl rfl hk
  obtain ⟨FG, BG, st, _⟩ := groundX (A := AR dp un gd cn cs L a ccd cl outer) (R := fun _ _ => True) B F N rfl rfl hk
  refine wpAny_call (codeAny_call_def (fd := fnOf name qual params body scope dV kV doc pm an cdv ct) (body := body) (binds := binds) hroom ((X.keeps F.keep) _ _ ho) rfl (T.nolimit.keeps F.keep) (codeRec_of (X.keeps F.keep) hcd) rfl hbind hcell hloc (fun h₁ hns hk₁ => ?_) hco hgen hks)
  refine wpAny_mono (h _ s.heap.objs.size h₁ FG ⟨hns, fun b o e => hk₁ b o (of_hideAll _ e), Nat.le_of_eq (hideAll_size _ _)⟩
    (fun p hp => ⟨hk₁ _ _ (N p hp).1, Nat.ne_of_lt (Heap.lt_size (N p hp).1), hideAll_none _ (List.mem_map_of_mem hp)⟩) BG (X.keeps st) (T.keeps st)
    (fun b o hb e => hideAll_get _ e hb) (fun b o e => of_hideAll _ e) fun p hp => Heap.lt_size (N p hp).1) (fun fl s' hl => lv _ _ hl) fun _ _ y => y
end
theorem room_d {a c k n : Nat} (h : a + c < n + 1 := by with_reducible assumption) (hk : k + 1 ≤ c := by decide) : a + k < n := by omega
theorem room_z {a c n : Nat} (h : a + c < n + 1 := by with_reducible assumption) (hk : 1 ≤ c := by decide) : a < n := by omega
theorem room_u {a c k n : Nat} (h : a + c < n + 3 := by with_reducible assumption) (hk : k + 3 ≤ c := by decide) : a + k < n := by omega
theorem room_v {a c n : Nat} (h : a + c < n + 3 := by with_reducible assumption) (hk : 3 ≤ c := by decide) : a < n := by omega
theorem room_e {a c k n : Nat} (h : a + c < n := by with_reducible assumption) (hk : k ≤ c := by decide) : a + k < n := by omega
theorem room_y {a c n : Nat} (h : a + c < n := by with_reducible assumption) : a < n := by omega
theorem room_d1 {a c b k n : Nat} (h : a + (c + b) < n + 1 := by with_reducible assumption) (hk : k + 1 ≤ c := by decide) : a + k < n := by omega
theorem room_d2 {a c b k n : Nat} (h : a + (c + b) < n + 1 := by with_reducible assumption) (hk : k + 1 ≤ c := by decide) : a + (k + b) < n := by omega
theorem room_d3 {a c d k m n : Nat} (h : a + (c + d * (m + 1)) < n + 1 := by with_reducible assumption) (hk : k + 1 ≤ c + d := by decide) : a + (k + d * m) < n := by
  rw [Nat.mul_add] at h
  omega
theorem room_u1 {a c b k n : Nat} (h : a + (c + b) < n + 3 := by with_reducible assumption) (hk : k + 3 ≤ c := by decide) : a + k < n := by omega
theorem room_u2 {a c b k n : Nat} (h : a + (c + b) < n + 3 := by with_reducible assumption) (hk : k + 3 ≤ c := by decide) : a + (k + b) < n := by omega
theorem room_u3 {a c d k m n : Nat} (h : a + (c + d * (m + 1)) < n + 3 := by with_reducible assumption) (hk : k + 3 ≤ c + d := by decide) : a + (k + d * m) < n := by
  rw [Nat.mul_add] at h
  omega
theorem bud {a c n : Nat} (h : a + c ≤ n) (k : Nat) (hk : k ≤ c) : a + k ≤ n := by omega
theorem bud2 {a c b n : Nat} (h : a + (c + b) ≤ n) (k : Nat) (hk : k ≤ c) : a + k ≤ n := by omega
local macro_rules | `(tactic| k_ne) => `(tactic| (refine neN ?_; (try dsimp only); first | with_reducible assumption | (refine Nat.ne_of_lt ?_; walk_at "Mine.lt") | (refine Nat.ne_of_gt ?_; walk_at "Mine.lt")))
theorem words_1 : True := by
  k_with "m:Mine.ar" => ((first | exact room_d | exact room_z | exact room_d1 | exact room_d2 | exact room_d3 | exact room_u | exact room_v | exact room_u1 | exact room_u2 | exact room_u3 | exact room_e | exact room_y | omega))
  k_with "m:Mine.lt" => ((with_reducible first | assumption | ((rename (_ ∧ _) => l); first | exact l.1 | exact l.2.1 | exact l.2 | exact l.2.2.1 | exact l.2.2 | exact l.2.2.2.1 | exact l.2.2.2 | exact l.2.2.2.2.1 | exact l.2.2.2.2 | exact l.2.2.2.2.2.1 | exact l.2.2.2.2.2 | exact l.2.2.2.2.2.2.1 | exact l.2.2.2.2.2.2 | exact l.2.2.2.2.2.2.2.1 | exact l.2.2.2.2.2.2.2 | exact l.2.2.2.2.2.2.2.2.1 | exact l.2.2.2.2.2.2.2.2 | (clear l; walk_at "Mine.lt"))))
  exact trivial
/-- keeps a large goal under a name while facts are opened -/
theorem hide_of {P : Prop} (h : let G := P; G) : P := h
/-- gives the frame's map a name -/
theorem fr_let {g h : Heap} {L : Addr} {m : Str → Option Value} {P : Prop} (F : Fr g L h m) (k : let m0 := m; Fr g L h m0 → P) : P := k F

/- openers of long facts: one step in place of one for each word -/
theorem ex2 {α0 α1 : Type} {P : α0 → α1 → Prop} {R : Prop} (h : ∃ a b, P a b) (k : ∀ a b, P a b → R) : R := h.elim fun a h => h.elim (k a)
theorem ex3 {α0 α1 α2 : Type} {P : α0 → α1 → α2 → Prop} {R : Prop} (h : ∃ a b c, P a b c) (k : ∀ a b c, P a b c → R) : R := h.elim fun a h => ex2 h (k a)
theorem ex4 {α0 α1 α2 α3 : Type} {P : α0 → α1 → α2 → α3 → Prop} {R : Prop} (h : ∃ a b c d, P a b c d) (k : ∀ a b c d, P a b c d → R) : R := h.elim fun a h => ex3 h (k a)
theorem ex5 {α0 α1 α2 α3 α4 : Type} {P : α0 → α1 → α2 → α3 → α4 → Prop} {R : Prop} (h : ∃ a b c d e, P a b c d e) (k : ∀ a b c d e, P a b c d e → R) : R := h.elim fun a h => ex4 h (k a)
theorem ex6 {α0 α1 α2 α3 α4 α5 : Type} {P : α0 → α1 → α2 → α3 → α4 → α5 → Prop} {R : Prop} (h : ∃ a b c d e f, P a b c d e f) (k : ∀ a b c d e f, P a b c d e f → R) : R := h.elim fun a h => ex5 h (k a)
theorem ex7 {α0 α1 α2 α3 α4 α5 α6 : Type} {P : α0 → α1 → α2 → α3 → α4 → α5 → α6 → Prop} {R : Prop} (h : ∃ a b c d e f g, P a b c d e f g) (k : ∀ a b c d e f g, P a b c d e f g → R) : R := h.elim fun a h => ex6 h (k a)
theorem ex8 {α0 α1 α2 α3 α4 α5 α6 α7 : Type} {P : α0 → α1 → α2 → α3 → α4 → α5 → α6 → α7 → Prop} {R : Prop} (h : ∃ a b c d e f g h, P a b c d e f g h) (k : ∀ a b c d e f g h, P a b c d e f g h → R) : R := h.elim fun a h => ex7 h (k a)
theorem ex9 {α0 α1 α2 α3 α4 α5 α6 α7 α8 : Type} {P : α0 → α1 → α2 → α3 → α4 → α5 → α6 → α7 → α8 → Prop} {R : Prop} (h : ∃ a b c d e f g h i, P a b c d e f g h i) (k : ∀ a b c d e f g h i, P a b c d e f g h i → R) : R := h.elim fun a h => ex8 h (k a)
theorem ex10 {α0 α1 α2 α3 α4 α5 α6 α7 α8 α9 : Type} {P : α0 → α1 → α2 → α3 → α4 → α5 → α6 → α7 → α8 → α9 → Prop} {R : Prop} (h : ∃ a b c d e f g h i j, P a b c d e f g h i j) (k : ∀ a b c d e f g h i j, P a b c d e f g h i j → R) : R := h.elim fun a h => ex9 h (k a)
theorem an2 {A0 A1 R : Prop} (h : A0 ∧ A1) (k : A0 → A1 → R) : R := k h.1 h.2
theorem an3 {A0 A1 A2 R : Prop} (h : A0 ∧ A1 ∧ A2) (k : A0 → A1 → A2 → R) : R := an2 h.2 (k h.1)
theorem an4 {A0 A1 A2 A3 R : Prop} (h : A0 ∧ A1 ∧ A2 ∧ A3) (k : A0 → A1 → A2 → A3 → R) : R := an3 h.2 (k h.1)
theorem an5 {A0 A1 A2 A3 A4 R : Prop} (h : A0 ∧ A1 ∧ A2 ∧ A3 ∧ A4) (k : A0 → A1 → A2 → A3 → A4 → R) : R := an4 h.2 (k h.1)
theorem an6 {A0 A1 A2 A3 A4 A5 R : Prop} (h : A0 ∧ A1 ∧ A2 ∧ A3 ∧ A4 ∧ A5) (k : A0 → A1 → A2 → A3 → A4 → A5 → R) : R := an5 h.2 (k h.1)
theorem an7 {A0 A1 A2 A3 A4 A5 A6 R : Prop} (h : A0 ∧ A1 ∧ A2 ∧ A3 ∧ A4 ∧ A5 ∧ A6) (k : A0 → A1 → A2 → A3 → A4 → A5 → A6 → R) : R := an6 h.2 (k h.1)
theorem an8 {A0 A1 A2 A3 A4 A5 A6 A7 R : Prop} (h : A0 ∧ A1 ∧ A2 ∧ A3 ∧ A4 ∧ A5 ∧ A6 ∧ A7) (k : A0 → A1 → A2 → A3 → A4 → A5 → A6 → A7 → R) : R := an7 h.2 (k h.1)
theorem an9 {A0 A1 A2 A3 A4 A5 A6 A7 A8 R : Prop} (h : A0 ∧ A1 ∧ A2 ∧ A3 ∧ A4 ∧ A5 ∧ A6 ∧ A7 ∧ A8) (k : A0 → A1 → A2 → A3 → A4 → A5 → A6 → A7 → A8 → R) : R := an8 h.2 (k h.1)
theorem an10 {A0 A1 A2 A3 A4 A5 A6 A7 A8 A9 R : Prop} (h : A0 ∧ A1 ∧ A2 ∧ A3 ∧ A4 ∧ A5 ∧ A6 ∧ A7 ∧ A8 ∧ A9) (k : A0 → A1 → A2 → A3 → A4 → A5 → A6 → A7 → A8 → A9 → R) : R := an9 h.2 (k h.1)
theorem an11 {A0 A1 A2 A3 A4 A5 A6 A7 A8 A9 A10 R : Prop} (h : A0 ∧ A1 ∧ A2 ∧ A3 ∧ A4 ∧ A5 ∧ A6 ∧ A7 ∧ A8 ∧ A9 ∧ A10) (k : A0 → A1 → A2 → A3 → A4 → A5 → A6 → A7 → A8 → A9 → A10 → R) : R := an10 h.2 (k h.1)
theorem an12 {A0 A1 A2 A3 A4 A5 A6 A7 A8 A9 A10 A11 R : Prop} (h : A0 ∧ A1 ∧ A2 ∧ A3 ∧ A4 ∧ A5 ∧ A6 ∧ A7 ∧ A8 ∧ A9 ∧ A10 ∧ A11) (k : A0 → A1 → A2 → A3 → A4 → A5 → A6 → A7 → A8 → A9 → A10 → A11 → R) : R := an11 h.2 (k h.1)
theorem mk2 {α0 α1 : Type} {P : α0 → α1 → Prop} (a : α0) (b : α1) (h : P a b) : ∃ a b, P a b := ⟨a, b, h⟩
theorem mk3 {α0 α1 α2 : Type} {P : α0 → α1 → α2 → Prop} (a : α0) (b : α1) (c : α2) (h : P a b c) : ∃ a b c, P a b c := ⟨a, mk2 b c h⟩
theorem mk4 {α0 α1 α2 α3 : Type} {P : α0 → α1 → α2 → α3 → Prop} (a : α0) (b : α1) (c : α2) (d : α3) (h : P a b c d) : ∃ a b c d, P a b c d := ⟨a, mk3 b c d h⟩
theorem mk5 {α0 α1 α2 α3 α4 : Type} {P : α0 → α1 → α2 → α3 → α4 → Prop} (a : α0) (b : α1) (c : α2) (d : α3) (e : α4) (h : P a b c d e) : ∃ a b c d e, P a b c d e := ⟨a, mk4 b c d e h⟩
theorem mk6 {α0 α1 α2 α3 α4 α5 : Type} {P : α0 → α1 → α2 → α3 → α4 → α5 → Prop} (a : α0) (b : α1) (c : α2) (d : α3) (e : α4) (f : α5) (h : P a b c d e f) : ∃ a b c d e f, P a b c d e f := ⟨a, mk5 b c d e f h⟩
theorem mk7 {α0 α1 α2 α3 α4 α5 α6 : Type} {P : α0 → α1 → α2 → α3 → α4 → α5 → α6 → Prop} (a : α0) (b : α1) (c : α2) (d : α3) (e : α4) (f : α5) (g : α6) (h : P a b c d e f g) : ∃ a b c d e f g, P a b c d e f g := ⟨a, mk6 b c d e f g h⟩
theorem mk8 {α0 α1 α2 α3 α4 α5 α6 α7 : Type} {P : α0 → α1 → α2 → α3 → α4 → α5 → α6 → α7 → Prop} (a : α0) (b : α1) (c : α2) (d : α3) (e : α4) (f : α5) (g : α6) (i : α7) (h : P a b c d e f g i) : ∃ a b c d e f g i, P a b c d e f g i := ⟨a, mk7 b c d e f g i h⟩
theorem mk9 {α0 α1 α2 α3 α4 α5 α6 α7 α8 : Type} {P : α0 → α1 → α2 → α3 → α4 → α5 → α6 → α7 → α8 → Prop} (a : α0) (b : α1) (c : α2) (d : α3) (e : α4) (f : α5) (g : α6) (i : α7) (j : α8) (h : P a b c d e f g i j) : ∃ a b c d e f g i j, P a b c d e f g i j := ⟨a, mk8 b c d e f g i j h⟩
theorem mk10 {α0 α1 α2 α3 α4 α5 α6 α7 α8 α9 : Type} {P : α0 → α1 → α2 → α3 → α4 → α5 → α6 → α7 → α8 → α9 → Prop} (a : α0) (b : α1) (c : α2) (d : α3) (e : α4) (f : α5) (g : α6) (i : α7) (j : α8) (l : α9) (h : P a b c d e f g i j l) : ∃ a b c d e f g i j l, P a b c d e f g i j l := ⟨a, mk9 b c d e f g i j l h⟩

/- short steps: a name, a written constant, an item of a tuple at a written place, whole lists of such -/
noncomputable def isLoc (cs : Scope) (x : Str) : Bool := match cs.kind, cs.names.lookup x with
  | .function, some .local => !(x == Str.ofString "__debug__")
  | _, _ => false
theorem isLoc_of {cs : Scope} {x : Str} (h : isLoc cs x = true) : cs.kind = .function ∧ cs.names.lookup x = some .local ∧ (x == Str.ofString "__debug__") = false := by
  unfold isLoc at h
  split at h
  · rename_i h1 h2
    exact ⟨h1, h2, by simpa using h⟩
  · cases h
noncomputable def itemAt (l : List Value) : Int → Option Value
  | .ofNat n => bif Nat.ble n 1000 then l[n]? else none
  | .negSucc _ => none
theorem itemAt_of {l : List Value} {i : Int} {v : Value} (h : itemAt l i = some v) : -(2 ^ 63) ≤ i ∧ i < 2 ^ 63 ∧ ∃ j, seqIndex? i l.length = some j ∧ l[j]? = some v := by
  cases i with
  | negSucc n => cases h
  | ofNat n =>
    simp only [itemAt] at h
    cases hb : Nat.ble n 1000 with
    | false => rw [hb] at h; cases h
    | true =>
      rw [hb] at h
      have hle := Nat.le_of_ble_eq_true hb
      have hl : n < l.length := by
        have h' : l[n]? = some v := h
        exact (List.getElem?_eq_some_iff.mp h').1
      refine ⟨show -(2 ^ 63) ≤ (n : Int) by omega, show (n : Int) < 2 ^ 63 by omega, n, ?_, h⟩
      have h3 := seqIndex_of (k := (Int.ofNat n)) (n := l.length) (by simp) (by simpa using hl)
      simpa using h3
noncomputable def simpleQ (cs : Scope) : Expr → Bool
  | .Name x _ => isLoc cs x
  | .Constant (.str _) _ _ => true
  | .Constant (.int _) _ _ => true
  | .Constant .none _ _ => true
  | .Constant (.bool _) _ _ => true
  | _ => false
noncomputable def simpleV (m : Str → Option Value) (tk : Nat) : Expr → Option (Value × Nat)
  | .Name x _ => match m x with | some v => some (v, tk) | none => none
  | .Constant (.str y) _ _ => some (.str y tk, tk + 1)
  | .Constant (.int i) _ _ => some (.int i tk, tk + 1)
  | .Constant .none _ _ => some (.none, tk)
  | .Constant (.bool b) _ _ => some (.bool b, tk)
  | _ => none
noncomputable def simpleVs (m : Str → Option Value) : Nat → List Expr → Option (List Value × Nat)
  | tk, [] => some ([], tk)
  | tk, e :: r => match simpleV m tk e with
    | some (v, t) => (match simpleVs m t r with | some (vs, t') => some (v :: vs, t') | none => none)
    | none => none
section
variable {w : World} {M : Model} {A : Around} {E : Value → Shared → Prop} {H : Heap} {G : Array GenState} {D : Drawn} {T T' : Nat} {O : OsState} {h₀ : Heap} {L a : Addr} {m : Str → Option Value} {cn : Str} {cs : Scope} {ccd : Value} {cl : List (Str × Addr)} {x y : Str} {pos p1 p2 p3 : Pos} {k : Nat} {i : Int} {e : Expr} {es rest : List Expr} {l vs : List Value} {v : Value} {t : Addr}
theorem name_loc {s : Shared} {Q : Value → Shared → Prop} (h : Q v s) (F : Fr h₀ L s.heap m := by k_asm) (hx : isLoc cs x = true := by kernel_rfl!) (hv : m x = some v := by k_dflt exact rfl) : wpAny M A (eval (.Name x pos) (envX cn cs L a ccd cl)) Q E s :=
  have q := isLoc_of hx
  nameX_L F hv h q.1 q.2.1 q.2.2
theorem simple_one {Q : Value → Shared → Prop} (h : Q v ⟨H, G, D, T', O⟩) (F : Fr h₀ L H m) (hq : simpleQ cs e = true) (hv : simpleV m T e = some (v, T')) : wpAny M A (eval e (envX cn cs L a ccd cl)) Q E ⟨H, G, D, T, O⟩ := by
  unfold simpleQ at hq
  split at hq
  · rename_i x p
    simp only [simpleV] at hv
    split at hv
    · rename_i u hu
      cases hv
      exact name_loc h F hq hu
    · cases hv
  · cases hv; exact Calls.Constant_str h
  · cases hv; exact wpAny_Constant_int h
  · cases hv; exact Constant_none h
  · cases hv; exact Constant_bool h
  · cases hq
theorem simple_star (hq : simpleQ cs e = true) (env : Env) : starEach (e :: rest) env = (false, eval e env) :: starEach rest env := by
  unfold simpleQ at hq
  split at hq <;> first | rfl | cases hq
theorem args_one {Q : List Value → Shared → Prop} (h : wpAny M A (spliced (backTo pos (starEach rest (envX cn cs L a ccd cl)))) (fun vs s₂ => Q (v :: vs) s₂) E ⟨H, G, D, T', O⟩) (F : Fr h₀ L H m := by k_asm) (hq : simpleQ cs e = true := by kernel_rfl!) (hv : simpleV m T e = some (v, T') := by k_dflt exact rfl) :
    wpAny M A (spliced (backTo pos (starEach (e :: rest) (envX cn cs L a ccd cl)))) Q E ⟨H, G, D, T, O⟩ :=
  args_cons (simple_one h F hq hv) (simple_star hq _)
theorem args_all {Q : List Value → Shared → Prop} (h : Q vs ⟨H, G, D, T', O⟩) (F : Fr h₀ L H m := by k_asm) (hq : es.all (simpleQ cs) = true := by kernel_rfl!) (hv : simpleVs m T es = some (vs, T') := by k_dflt exact rfl) :
    wpAny M A (spliced (backTo pos (starEach es (envX cn cs L a ccd cl)))) Q E ⟨H, G, D, T, O⟩ := by
  induction es generalizing T vs Q with
  | nil => simp only [simpleVs, Option.some.injEq, Prod.mk.injEq] at hv; obtain ⟨rfl, rfl⟩ := hv; exact args_nil h
  | cons e r ih =>
    have q := Bool.and_eq_true_iff.mp hq
    unfold simpleVs at hv
    split at hv
    · rename_i u t1 h1
      split at hv
      · rename_i us t2 h2
        cases hv
        exact args_one (ih h q.2 h2) F q.1 h1
      · cases hv
    · cases hv
theorem sub_loc {Q : Value → Shared → Prop} (h : Q v ⟨H, G, D, T + 1, O⟩) (F : Fr h₀ L H m := by k_asm) (hx : isLoc cs x = true := by kernel_rfl!) (hv : m x = some (.ref t) := by k_dflt exact rfl) (ht : IsTup H t l.toArray := by walk_at "Mine.tup") (hi : itemAt l i = some v := by k_dflt exact rfl) :
    wpAny (model PG w) A (eval (.Subscript (.Name x p1) (.Constant (.int i) k p2) p3) (envX cn cs L a ccd cl)) Q E ⟨H, G, D, T, O⟩ :=
  have q := itemAt_of hi
  q.2.2.elim fun _ r => Subscript_ (name_loc (wpAny_Constant_int (item_tupleT ht q.1 q.2.1 r.1 r.2 h)) F hx hv)
theorem sub_const {s : Shared} {env : Env} {Q : Value → Shared → Prop} (h : wpAny M A (eval e env) (fun o s₁ => wpAny M A (subscriptTail e (.Constant (.int i) k p2) o (.int i s₁.toks)) Q E { s₁ with toks := s₁.toks + 1 }) E s) :
    wpAny M A (eval (.Subscript e (.Constant (.int i) k p2) p3) env) Q E s :=
  Subscript_ (wpAny_mono h (fun _ _ x => wpAny_Constant_int x) fun _ _ x => x)
theorem item_tup {s : Shared} {value slice : Expr} {u : Tok} {Q : Value → Shared → Prop} (h : Q v s) (ht : IsTup s.heap t l.toArray := by walk_at "Mine.tup") (hi : itemAt l i = some v := by k_dflt exact rfl)
    (hs : subscripted slice false (.ref t) (.int i u) = operate [.ref t, .int i u] (getItem (.ref t) (.int i u)) := by with_unfolding_all rfl) : wpAny (model PG w) A (subscriptTail value slice (.ref t) (.int i u)) Q E s :=
  have q := itemAt_of hi
  q.2.2.elim fun _ r => item_tupleT ht q.1 q.2.1 r.1 r.2 h hs
theorem args_item {Q : List Value → Shared → Prop} (h : wpAny (model PG w) A (spliced (backTo pos (starEach rest (envX cn cs L a ccd cl)))) (fun vs s₂ => Q (v :: vs) s₂) E ⟨H, G, D, T + 1, O⟩) (F : Fr h₀ L H m := by k_asm) (hx : isLoc cs x = true := by kernel_rfl!) (hv : m x = some (.ref t) := by k_dflt exact rfl) (ht : IsTup H t l.toArray := by walk_at "Mine.tup") (hi : itemAt l i = some v := by k_dflt exact rfl) :
    wpAny (model PG w) A (spliced (backTo pos (starEach (.Subscript (.Name x p1) (.Constant (.int i) k p2) p3 :: rest) (envX cn cs L a ccd cl)))) Q E ⟨H, G, D, T, O⟩ :=
  args_cons (sub_loc h F hx hv ht hi) rfl
variable {whole : Sem Value} {z : Str} {tz : Tok} {Q : Bool → Shared → Prop}
theorem test_eq (h : Q (z == y) ⟨H, G, D, T + 1, O⟩) (F : Fr h₀ L H m := by k_asm) (hx : isLoc cs x = true := by kernel_rfl!) (hv : m x = some (.str z tz) := by k_dflt exact rfl) :
    wpAny (model PG w) A (isTrue (.Compare (.Name x p1) [.Eq] [.Constant (.str y) k p2] p3) (envX cn cs L a ccd cl) whole) Q E ⟨H, G, D, T, O⟩ :=
  wpAny_isTrue_Compare1 (name_loc (Calls.Constant_str (PyProof.Rows.eq_str (wpAny_truthy_bool h))) F hx hv) rfl
theorem test_ne (h : Q (z != y) ⟨H, G, D, T + 1, O⟩) (F : Fr h₀ L H m := by k_asm) (hx : isLoc cs x = true := by kernel_rfl!) (hv : m x = some (.str z tz) := by k_dflt exact rfl) :
    wpAny (model PG w) A (isTrue (.Compare (.Name x p1) [.NotEq] [.Constant (.str y) k p2] p3) (envX cn cs L a ccd cl) whole) Q E ⟨H, G, D, T, O⟩ :=
  wpAny_isTrue_Compare1 (name_loc (Calls.Constant_str (PyProof.Rows.ne_str (wpAny_truthy_bool h))) F hx hv) rfl
theorem test_item {p4 p5 : Pos} {k2 : Nat} (h : Q (z == y) ⟨H, G, D, T + 1 + 1, O⟩) (F : Fr h₀ L H m := by k_asm) (hx : isLoc cs x = true := by kernel_rfl!) (hv : m x = some (.ref t) := by k_dflt exact rfl) (ht : IsTup H t l.toArray := by walk_at "Mine.tup") (hi : itemAt l i = some (.str z tz) := by k_dflt exact rfl) :
    wpAny (model PG w) A (isTrue (.Compare (.Subscript (.Name x p1) (.Constant (.int i) k p2) p3) [.Eq] [.Constant (.str y) k2 p4] p5) (envX cn cs L a ccd cl) whole) Q E ⟨H, G, D, T, O⟩ :=
  wpAny_isTrue_Compare1 (sub_loc (Calls.Constant_str (PyProof.Rows.eq_str (wpAny_truthy_bool h))) F hx hv ht hi) rfl
end
section
variable {M : Model} {A : Around} {E : Value → Shared → Prop} {s : Shared} {env : Env} {Q : Flow → Shared → Prop} {st : Stmt} {rest : List Stmt}
theorem let_in {b : List Stmt} {n : Str} {sc : Scope} {L f : Addr} {cd : Value} {H : Heap} {G : Array GenState} {D : Drawn} {T : Nat} {O : OsState} (h : let A0 := A; let v0 := envX n sc L f cd []; let G0 := G; let D0 := D; let O0 := O; wpAny M A0 (execs b v0) Q E ⟨H, G0, D0, T, O0⟩) : wpAny M A (execs b (envOf n sc L f cd)) Q E ⟨H, G, D, T, O⟩ := h
theorem let_inC {b : List Stmt} {n : Str} {sc : Scope} {L f : Addr} {cd : Value} {H : Heap} {G : Array GenState} {D : Drawn} {T : Nat} {O : OsState} (h : let A0 := A; let v0 := envX n sc L f cd (cellsFrom (L + 1) sc.names []); let G0 := G; let D0 := D; let O0 := O; wpAny M A0 (execs b v0) Q E ⟨H, G0, D0, T, O0⟩) : wpAny M A (execs b (envOfC n sc L f cd)) Q E ⟨H, G, D, T, O⟩ := h
theorem execs_any (h : let K : Flow → Shared → Prop := fun f s' => match f with | .next => wpAny M A (execs rest env) Q E s' | f => Q f s'; wpAny M A (exec st env) K E s) : wpAny M A (execs (st :: rest) env) Q E s := wpAny_execs_cons h
theorem execs_end (h : wpAny M A (execs rest env) Q E s) : wpAny M A (execs [] env) (fun f s' => match f with | .next => wpAny M A (execs rest env) Q E s' | f => Q f s') E s := wpAny_execs_nil h
theorem store_loc {H : Heap} {G : Array GenState} {D : Drawn} {T : Nat} {O : OsState} {h₀ : Heap} {L a : Addr} {m : Str → Option Value} {cn : Str} {cs : Scope} {ccd : Value} {cl : List (Str × Addr)} {x : Str} {v : Value} {news : List (Addr × Obj)} {Q : Unit → Shared → Prop}
    (h : let m' : Str → Option Value := fun y => if y = x then some v else m y; ∀ tk h', Fr h₀ L h' m' → News h₀ L h' news → Q () ⟨h', G, D, tk, O⟩) (F : Fr h₀ L H m := by k_asm) (N : News h₀ L H news := by k_asm) (hx : isLoc cs x = true := by kernel_rfl!) : wpAny M A (storeName (envX cn cs L a ccd cl) x v) Q E ⟨H, G, D, T, O⟩ :=
  have q := isLoc_of hx
  storeX_L F N (h _) q.1 q.2.1
theorem tuple_new {H : Heap} {G : Array GenState} {D : Drawn} {T : Nat} {O : OsState} {h₀ : Heap} {L : Addr} {m : Str → Option Value} {vs : List Value} {news : List (Addr × Obj)} {Q : Value → Shared → Prop}
    (h : ∀ D' h', Fr h₀ L h' m → News h₀ L h' ((D', ({ cls := .type "tuple", data := .seq vs.toArray } : Obj)) :: news) → (∀ p ∈ news, p.1 < D') → Q (.ref D') ⟨h', G, D, T, O⟩) (F : Fr h₀ L H m := by k_asm) (N : News h₀ L H news := by k_asm) (hz : Nat.ble vs.length 1000 = true := by k_dflt exact rfl) : wpAny M A (newTuple vs) Q E ⟨H, G, D, T, O⟩ :=
  kup_newTuple F N h (Nat.le_trans (Nat.le_of_ble_eq_true hz) (by decide))
end
local macro_rules | `(tactic| walk_at "storeName") => `(tactic| (k_here; refine store_loc ?_; (set_option tactic.hygienic false in (intro; intro)); intro h' F' N'; (try k_sweep)))
local macro_rules | `(tactic| walk_at "newTuple") => `(tactic| (k_here; refine tuple_new ?_; intro D' h' F' N' l1; (try k_lt l1); (try k_sweep)))

theorem words_2 : True := by
  k_with "m:Mine.tup" => (first | exact Fr.tup (by with_reducible assumption) (by with_reducible assumption) | exact News.isTup (by with_reducible assumption) (by k_mem))
  k_with "m:eval Name" => ((k_here; refine name_loc ?_))
  k_with "m:eval Subscript" => ((k_here; first | refine sub_loc ?_ | refine sub_const ?_))
  k_with "m:spliced" => ((k_here; first | (refine args_all ?_; (try dsimp only [List.cons_append, List.nil_append])) | refine args_one ?_ | refine args_item ?_))
  k_with "m:isTrue Compare" => ((k_here; first | refine test_eq ?_ | refine test_item ?_ | refine test_ne ?_))
  k_with "m:execs cons" => ((k_here; (try dsimp only); (try k_gentoks); refine execs_any ?_; (set_option tactic.hygienic false in intro)))
  k_with "m:execs nil" => ((k_here; first | refine execs_end ?_ | refine wpAny_execs_nil ?_))
  k_with "m:subscriptTail" => ((k_here; (with_reducible show wpAny _ _ (subscriptTail _ _ (Value.ref _) (Value.int _ _)) _ _ _); k_dflt refine item_tup ?_))
  exact trivial
noncomputable abbrev TP := Addr → Array Value → Prop
/-- a tuple of the base or of the ledger -/
noncomputable def LP (h₀ : Heap) (I : List (Addr × Obj)) : TP := fun a vs => IsTup h₀ a vs ∨ ∃ o, (a, o) ∈ I ∧ o.cls = .type "tuple" ∧ ∃ n, o.data = .seq vs n

structure Row where
  kind : Str
  pos : Int
  det : Str

noncomputable def RowAt (T : TP) (v : Value) (r : Row) : Prop := ∃ a t1 t2 t3, v = .ref a ∧ T a #[.str r.kind t1, .int r.pos t2, .str r.det t3]
noncomputable def RowsIn (T : TP) : List Value → List Row → Prop
  | [], [] => True
  | v :: us, r :: rs => RowAt T v r ∧ RowsIn T us rs
  | _, _ => False

theorem RowAt.mono {T T' : TP} {v : Value} {r : Row} (h : ∀ a vs, T a vs → T' a vs) (x : RowAt T v r) : RowAt T' v r := by
  refine ex4 x ?_
  clear x
  intro a t1 t2 t3
  intro hII
  refine an2 hII ?_
  clear hII
  intro e q
  exact ⟨a, t1, t2, t3, e, h _ _ q⟩
theorem RowsIn.mono {T T' : TP} (h : ∀ a vs, T a vs → T' a vs) : ∀ {us : List Value} {rs : List Row}, RowsIn T us rs → RowsIn T' us rs
  | [], [], _ => trivial
  | _ :: _, _ :: _, x => ⟨x.1.mono h, RowsIn.mono h x.2⟩
  | [], _ :: _, x => x.elim
  | _ :: _, [], x => x.elim
theorem RowsIn.length {T : TP} : ∀ {us : List Value} {rs : List Row}, RowsIn T us rs → us.length = rs.length
  | [], [], _ => rfl
  | _ :: _, _ :: _, x => congrArg (· + 1) (RowsIn.length x.2)
  | [], _ :: _, x => x.elim
  | _ :: _, [], x => x.elim
theorem RowsIn.snoc {T : TP} {v : Value} {r : Row} (hv : RowAt T v r) : ∀ {us : List Value} {rs : List Row}, RowsIn T us rs → RowsIn T (us ++ [v]) (rs ++ [r])
  | [], [], _ => ⟨hv, trivial⟩
  | _ :: _, _ :: _, x => ⟨x.1, RowsIn.snoc hv x.2⟩
  | [], _ :: _, x => x.elim
  | _ :: _, [], x => x.elim

theorem LP.sub {h₀ : Heap} {I J : List (Addr × Obj)} (s : ∀ p ∈ I, p ∈ J) : ∀ a vs, LP h₀ I a vs → LP h₀ J a vs
  | _, _, .inl x => .inl x
  | _, _, .inr ⟨o, m, r⟩ => .inr ⟨o, s _ m, r⟩
theorem LP.up {h₀ h : Heap} {L : Addr} {m : Str → Option Value} {I : List (Addr × Obj)} (F : Fr h₀ L h m) (N : News h₀ L h I) : ∀ a vs, LP h₀ I a vs → IsTup h a vs
  | _, _, .inl x => F.tup x
  | _, _, .inr ⟨o, q, c, d⟩ => ⟨o, N.get q, c, d⟩

/-- the report: an object whose dict names the list of rows -/
noncomputable def IsRep (h : Heap) (R RL : Addr) : Prop := ∃ dx n k1 k2 k3 t1 t2 t3 v1 v2, h.get? R = some (instObj 38 dx) ∧
  h.get? dx = some (dictOf [⟨k1, .str (Str.ofString "names") t1, v1⟩, ⟨k2, .str (Str.ofString "nettype") t2, v2⟩, ⟨k3, .str (Str.ofString "rows") t3, .ref RL⟩] n)
theorem IsRep.open {h : Heap} {R RL : Addr} {P : Prop} (x : IsRep h R RL) (k : ∀ dx n k1 k2 k3 t1 t2 t3 v1 v2, h.get? R = some (instObj 38 dx) → h.get? dx = some (dictOf [⟨k1, .str (Str.ofString "names") t1, v1⟩, ⟨k2, .str (Str.ofString "nettype") t2, v2⟩, ⟨k3, .str (Str.ofString "rows") t3, .ref RL⟩] n) → P) : P := by
  refine ex10 x ?_
  clear x
  intro dx n k1 k2 k3 t1 t2 t3 v1 v2
  intro hII
  refine an2 hII ?_
  clear hII
  intro a b
  exact k dx n k1 k2 k3 t1 t2 t3 v1 v2 a b
theorem IsRep.keeps {h h' : Heap} {R RL : Addr} (k : ∀ b o, h.get? b = some o → h'.get? b = some o) (x : IsRep h R RL) : IsRep h' R RL := ex10 x fun a b c d e f g i j l y => mk10 a b c d e f g i j l ⟨k _ _ y.1, k _ _ y.2⟩

/-- everything of the heap beside the base, the frame and the given cells -/
noncomputable def snap (h₀ : Heap) (L : Addr) (h : Heap) (ex : List Addr) : List (Addr × Obj) :=
  (List.range h.objs.size).filterMap fun b => if b = L ∨ b ∈ ex ∨ (h₀.get? b).isSome then none else (h.get? b).map fun o => (b, o)
theorem mem_snap {h₀ : Heap} {L : Addr} {h : Heap} {ex : List Addr} {b : Addr} {o : Obj} (ho : h.get? b = some o) (hL : b ≠ L) (hx : b ∉ ex) (hn : h₀.get? b = none) : (b, o) ∈ snap h₀ L h ex := by
  refine List.mem_filterMap.mpr ⟨b, List.mem_range.mpr (Heap.lt_size ho), ?_⟩
  simp [hL, hx, hn, ho]
theorem of_snap {h₀ : Heap} {L : Addr} {h : Heap} {ex : List Addr} {p : Addr × Obj} (hp : p ∈ snap h₀ L h ex) : h.get? p.1 = some p.2 ∧ p.1 ≠ L ∧ p.1 ∉ ex ∧ h₀.get? p.1 = none := by
  obtain ⟨b, _, e⟩ := List.mem_filterMap.mp hp
  split at e
  · cases e
  · rename_i hc
    rw [not_or, not_or] at hc
    cases q : h.get? b with
    | none => rw [q] at e; cases e
    | some o =>
      rw [q] at e
      cases e
      refine ⟨q, hc.1, hc.2.1, ?_⟩
      cases r : h₀.get? b with
      | none => rfl
      | some x => rw [r] at hc; exact absurd rfl hc.2.2
theorem news_snap {h₀ : Heap} {L : Addr} {h : Heap} {ex : List Addr} : News h₀ L h (snap h₀ L h ex) := fun _ hp => let ⟨a, b, _, d⟩ := of_snap hp; ⟨a, b, d⟩
theorem lp_snap {h₀ : Heap} {L : Addr} {h : Heap} {ex : List Addr} {a : Addr} {vs : Array Value} {m : Str → Option Value} (F : Fr h₀ L h m) (x : IsTup h a vs) (hx : a ∉ ex) : LP h₀ (snap h₀ L h ex) a vs := by
  obtain ⟨o, ho, c, d⟩ := x
  cases q : h₀.get? a with
  | some o' =>
    have := F.keep _ _ q
    rw [ho] at this
    cases this
    exact .inl ⟨o, q, c, d⟩
  | none => exact .inr ⟨o, mem_snap ho (F.tup_ne ⟨o, ho, c, d⟩) hx q, c, d⟩

theorem News.cons {h₀ h : Heap} {L : Addr} {p : Addr × Obj} {I J : List (Addr × Obj)} (N : News h₀ L h (p :: I)) (M : News h₀ L h J) : News h₀ L h (p :: J) := fun q hq => by
  rcases List.mem_cons.mp hq with rfl | hq
  · exact N _ (.head _)
  · exact M _ hq
theorem News.sub {h₀ h : Heap} {L : Addr} {I J : List (Addr × Obj)} (N : News h₀ L h I) (s : ∀ p ∈ J, p ∈ I) : News h₀ L h J := fun q hq => N _ (s _ hq)

theorem tl_ne : ¬ (Value.type "list" = Value.type "tuple") := fun e => absurd (Value.type.inj e) (by decide)

noncomputable abbrev LIM : Nat := 1000000

/-- a call that notes the rows `new` and hands back None -/
noncomputable def EmitsAt (w : World) (f : Addr) (vs : List Value) (dz uz : Nat) (g₀ : Heap) (RL : Addr) (new : List Row) : Prop :=
  ∀ (mean : ExcName → Option Value) (mg mb : Str → Option Value) (dp un : Nat) (gd : Option (List Code)) (cn : Str) (cs : Scope) (a : Addr) (ccd : Value) (cl : List (Str × Addr)) (outer : List Env) (A₀ : Around) (base h₀ : Heap) (L : Addr) (m : Str → Option Value) (s : Shared)
    (us : List Value) (n : Nat) (rs : List Row) (rest : List (Addr × Obj)) (Q E : Value → Shared → Prop),
    Below A₀ base outer h₀ → Fr h₀ L s.heap m → (hd.heap_1 w.params).In h₀ → Top PV LS mean mg mb h₀ → cs.kind = .function → dp + dz < recursionLimit → un + uz < cLine →
    News h₀ L s.heap ((RL, listOf us.toArray n) :: rest) → RowsIn (LP h₀ rest) us rs → rs.length + new.length ≤ LIM →
    (∀ b o, g₀.get? b = some o → s.heap.get? b = some o) → g₀.get? RL = none →
    (∀ us' n' rest' h' tk', Fr h₀ L h' m → News h₀ L h' ((RL, listOf us'.toArray n') :: rest') → (∀ p ∈ rest', p.1 ≠ RL) → (∀ p ∈ rest, p.1 ≠ RL → p ∈ rest') → RowsIn (LP h₀ rest') us' (rs ++ new) → Q .none { s with heap := h', toks := tk' }) →
    wpAny (MD w) (AR dp un gd cn cs L a ccd cl outer) (call (.ref f) vs) Q E s

/-- a body that notes the rows `new`: its end -/
noncomputable def Noted (g : Heap) (RL : Addr) (rs : List Row) (s₀ : Shared) (v : Value) (s' : Shared) : Prop :=
  v = .none ∧ ∃ L' m' us' n' rest' h' tk', s' = { s₀ with heap := h', toks := tk' } ∧ Fr g L' h' m' ∧ News g L' h' ((RL, listOf us'.toArray n') :: rest') ∧ RowsIn (LP g rest') us' rs

theorem Noted.intro {g : Heap} {RL L' : Addr} {rs : List Row} {s₀ : Shared} {m' : Str → Option Value} {us' : List Value} {n' : Nat} {rest' : List (Addr × Obj)} {h' : Heap} {tk' : Nat} (F : Fr g L' h' m' := by k_asm) (N : News g L' h' ((RL, listOf us'.toArray n') :: rest') := by walk_at "Mine.N1") (R : RowsIn (LP g rest') us' rs := by walk_at "Mine.RR") :
    Noted g RL rs s₀ .none { s₀ with heap := h', toks := tk' } := ⟨rfl, mk7 L' m' us' n' rest' h' tk' ⟨rfl, F, N, R⟩⟩

section
variable {w : World} {f : Addr} {vs : List Value} {dz uz : Nat} {g₀ : Heap} {RL : Addr} {new : List Row}

theorem emits_of {oc : Value} {od : Option Addr} {osl : Array (Option Value)} {name qual : Str} {params : Arguments} {body : List Stmt} {scope : Scope} {dV kV doc pm cdv ct : Value} {an : Option Addr} {binds : List (Str × Value)}
    (ho : (hd.heap_1 w.params).lookup f = some ⟨oc, od, .func (fnOf name qual params body scope dV kV doc pm an cdv ct), osl⟩ := by k_is) (hcd : codeIn (hd.heap_1 w.params) cdv qual = true := by k_is)
    (hbind : ∀ s : Shared, (hd.heap_1 w.params).In s.heap → BindsTo s (fnOf name qual params body scope dV kV doc pm an cdv ct) ⟨vs, []⟩ binds := by (intro s hX; first | exact BindsTo.of_eq rfl | exact binds_K hX rfl (by k_is) rfl rfl rfl)) (hloc : (binds.all fun x => decide (scope.names.lookup x.1 = some .local)) = true := by rfl)
    (hcell : ∀ x ∈ scope.names, x.2 ≠ .cell := by decide) (hco : scope.isCoroutine = false := by rfl) (hgen : scope.isGenerator = false := by rfl) (hks : scope.kind = .function := by rfl)
    (h : ∀ (mean : ExcName → Option Value) (mg mb : Str → Option Value) (dp un : Nat) (gd : Option (List Code)) (outer : List Env) (A₀ : Around) (base g : Heap) (L : Addr) (h₁ : Heap) (s : Shared) (us : List Value) (n : Nat) (rs : List Row) (Qe : Value → Shared → Prop),
      Below A₀ base outer g → Fr g L h₁ (fun y => binds.reverse.lookup y) → (hd.heap_1 w.params).In g → Top PV LS mean mg mb g → dp + dz < recursionLimit + 1 → un + uz < cLine + 3 →
      News g L h₁ [(RL, listOf us.toArray n)] → RowsIn (LP g []) us rs → rs.length + new.length ≤ LIM → (∀ b o, g₀.get? b = some o → g.get? b = some o) →
      wpAny (MD w) (AR dp un gd qual scope L f cdv [] outer) (execs body (envOf qual scope L f cdv)) (fun fl s' => Noted g RL (rs ++ new) s (match fl with | .ret v => v | _ => .none) s') 
        (fun e s' => wpAny (MD w) (AR dp un gd qual scope L f cdv [] outer) (leaving (envOf qual scope L f cdv) e) (fun _ s'' => Qe e s'') (fun e' s'' => Qe e' s'') s') { s with heap := h₁ }) :
    EmitsAt w f vs dz uz g₀ RL new := by
  intro mean mg mb dp un gd cn cs a ccd cl outer A₀ base h₀ L m s us n rs rest Q E B F X T hk hd hu N R hlim hg hRL ret
  have N1 : News h₀ L s.heap [(RL, listOf us.toArray n)] := News.sub N fun p hp => by rw [List.mem_singleton.mp hp]; exact .head _
  have hup := LP.up F (News.sub N fun p hp => .tail _ hp)
  refine enterG B F X T hk N1 (by omega) ho hcd (hbind s (X.keeps F.keep)) (locs hloc) (fun g L' h₁ FG F' N' B' X' T' hide hshow hlt => ?_) hcell hco hgen hks
  have hRLg : ∀ a vs, IsTup s.heap a vs → IsTup g a vs := by
    rintro b xs ⟨o, e, c, d⟩
    refine ⟨o, hide b o (fun q => ?_) e, c, d⟩
    rw [List.map_cons, List.map_nil, List.mem_singleton] at q
    have := (N1 _ (.head _)).1
    dsimp only at this q
    rw [← q, e] at this
    cases this
    exact absurd c tl_ne
  have R' : RowsIn (LP g []) us rs := R.mono fun a vs x => .inl (hRLg _ _ (hup _ _ x))
  have bk : ∀ v s', Noted g RL (rs ++ new) { s with toks := s.toks + binds.length } v s' → Back h₀ L m g Q v s' := by
    intro v s' hII
    obtain ⟨rfl, L₂, m₂, us', n', rest', h', tk', rfl, F₂, N₂, R₂⟩ := hII
    refine ⟨L₂, m₂, _, F₂, N₂, fun F₃ N₃ kp => ?_⟩
    dsimp only at F₃ N₃ kp ⊢
    have hup₂ := LP.up F₂ (News.sub N₂ fun p hp => .tail _ hp)
    have oRL := (N₃ _ (.head _)).1
    refine ret us' n' (snap h₀ L h' [RL]) h' tk' F₃ (News.cons N₃ news_snap) (fun p hp e => (of_snap hp).2.2.1 (by rw [e]; exact .head _)) (fun p hp hne => ?_) (R₂.mono fun a vs x => ?_)
    · have hp' := N p (.tail _ hp)
      refine mem_snap (kp _ _ (hide _ _ (fun q => ?_) hp'.1)) hp'.2.1 (fun q => hne (List.mem_singleton.mp q)) hp'.2.2
      rw [List.map_cons, List.map_nil, List.mem_singleton] at q
      exact hne q
    · have ht := hup₂ _ _ x
      refine lp_snap F₃ ht fun q => ?_
      obtain ⟨o, e, c, d⟩ := ht
      rw [List.mem_singleton.mp q, oRL] at e
      cases e
      exact absurd c tl_ne
  refine wpAny_mono (h mean mg mb (dp + 1) (un + 3) (gd) (envX cn cs L a ccd cl :: outer) (AR dp un gd cn cs L a ccd cl outer) base g L' h₁ { s with toks := s.toks + binds.length } us n rs _ B' F' X' T' (by omega) (by omega) N' R' hlim
    (fun b o e => hide b o (fun q => by
      rw [List.map_cons, List.map_nil, List.mem_singleton] at q
      dsimp only at q
      rw [q, hRL] at e; cases e) (hg b o e))) (fun fl s' hl => bk _ s' hl) fun _ _ y => y
end

theorem InstAt.of_base {h₀ h : Heap} {L x C dx : Addr} {m : Str → Option Value} {od : Obj} {sl : Array (Option Value)} (F : Fr h₀ L h m) (h1 : h₀.get? x = some (⟨.ref C, some dx, .plain, sl⟩ : Obj)) (h2 : h₀.get? dx = some od) :
    InstAt h x ⟨.ref C, some dx, .plain, sl⟩ C (some od) := ⟨F.keep _ _ h1, rfl, rfl, F.keep _ _ h2⟩
theorem size_of {T : TP} {us : List Value} {rs : List Row} {k : Nat} (R : RowsIn T us rs) (h : rs.length + k ≤ LIM) : us.toArray.size ≤ sizeLine := by
  rw [List.size_toArray, R.length]
  have h1 : sizeLine = 16777216 := rfl
  have h2 : LIM = 1000000 := rfl
  omega
theorem Noted.add {g : Heap} {RL L' D : Addr} {rs : List Row} {s₀ : Shared} {m' : Str → Option Value} {us : List Value} {n : Nat} {h' : Heap} {tk' : Nat} {k d : Str} {i : Int} {t1 t2 t3 : Tok} (F : Fr g L' h' m')
    (N : News g L' h' [(D, { cls := .type "tuple", data := .seq #[.str k t1, .int i t2, .str d t3] }), (RL, listOf (us.toArray.push (.ref D)) (n + 1))]) (R : RowsIn (LP g []) us rs) :
    Noted g RL (rs ++ [⟨k, i, d⟩]) s₀ .none { s₀ with heap := h', toks := tk' } := by
  refine Noted.intro (us' := us ++ [.ref D]) (n' := n + 1) (rest' := [(D, { cls := .type "tuple", data := .seq #[.str k t1, .int i t2, .str d t3] })]) F (News.sub N ?_)
    (RowsIn.snoc ⟨_, _, _, _, rfl, .inr ⟨_, .head _, rfl, _, rfl⟩⟩ (R.mono (LP.sub (fun p hp => (List.not_mem_nil hp).elim))))
  intro p hp
  rw [← List.push_toArray] at hp
  rcases List.mem_cons.mp hp with rfl | hp
  · exact .tail _ (.head _)
  · rcases List.mem_singleton.mp hp with rfl
    exact .head _
local macro_rules | `(tactic| k_inst) => `(tactic| refine' InstAt.of_base (by k_asm) (by k_asm) (by k_asm))
local macro_rules | `(tactic| size_fits) => `(tactic| with_reducible assumption)

theorem words_3 : True := by
  k_with "m:Mine.emits" => (refine' emits_of (h := ?_))
  k_with "m:Mine.in" => (((try k_unfold); (try dsimp only); (try ((with_reducible first | refine let_in ?_ | refine let_inC ?_); (set_option tactic.hygienic false in (intro; intro; intro; intro; intro)))); show wpAny _ _ _ _ _ _; (try k_fold); k_steps))
  exact trivial
theorem add_spec {w : World} {R RL : Addr} {g₀ : Heap} (hrep : IsRep g₀ R RL) (k : Str) (i : Int) (d : Str) (t1 t2 t3 : Tok) :
    EmitsAt w 35 [.ref R, .str k t1, .int i t2, .str d t3] 10 100 g₀ RL [⟨k, i, d⟩] := by
  walk_at "Mine.emits"
  intro mean mg mb dp un gd outer A₀ base g L h₁ s us n rs Qe B F X T hd hu N R' hlim hg
  refine hide_of ?_
  intro Gh
  refine hrep.open ?_
  intro dx nn k1 k2 k3 u1 u2 u3 v1 v2 hR hD
  k_unfold
  have hR' := hg _ _ hR
  have hD' := hg _ _ hD
  have hz := size_of R' hlim
  clear hR hD hg
  dsimp only [fnOf, List.map, List.zip, List.zipWith, List.reverse, List.reverseAux, List.append, HAppend.hAppend, Append.append] at F
  refine fr_let F ?_
  clear F
  intro m0 F
  walk_at "Mine.in"
  exact Noted.add (by assumption) (by assumption) (by assumption)

inductive Inf where
  | sig (dir : Str) (p v : Bool)
  | num (i : Int)
structure Ent where
  what : Str
  pos : Int
  inf : Inf
noncomputable abbrev Sc := List (Str × Ent)

noncomputable def InfAt (T : TP) (v : Value) : Inf → Prop
  | .sig d p q => ∃ b t, v = .ref b ∧ T b #[.str d t, .bool p, .bool q]
  | .num i => ∃ t, v = .int i t
noncomputable def EntAt (T : TP) (v : Value) (e : Ent) : Prop := ∃ a t1 t2 iv, v = .ref a ∧ T a #[.str e.what t1, .int e.pos t2, iv] ∧ InfAt T iv e.inf
noncomputable def ScIn (T : TP) : List (Str × Value) → Sc → Prop
  | [], [] => True
  | (k, v) :: r, (k', e) :: r' => k = k' ∧ EntAt T v e ∧ ScIn T r r'
  | _, _ => False

theorem InfAt.mono {T T' : TP} (h : ∀ a vs, T a vs → T' a vs) {v : Value} : ∀ {i : Inf}, InfAt T v i → InfAt T' v i
  | .sig _ _ _, ⟨b, t, e, x⟩ => ⟨b, t, e, h _ _ x⟩
  | .num _, x => x
theorem EntAt.mono {T T' : TP} (h : ∀ a vs, T a vs → T' a vs) {v : Value} {e : Ent} (x : EntAt T v e) : EntAt T' v e := by
  refine ex4 x ?_
  clear x
  intro a t1 t2 iv
  intro hII
  refine an3 hII ?_
  clear hII
  intro p q r
  exact mk4 a t1 t2 iv ⟨p, h _ _ q, r.mono h⟩
theorem ScIn.mono {T T' : TP} (h : ∀ a vs, T a vs → T' a vs) : ∀ {kvs : List (Str × Value)} {es : Sc}, ScIn T kvs es → ScIn T' kvs es
  | [], [], _ => trivial
  | (_, _) :: _, (_, _) :: _, ⟨a, b, c⟩ => ⟨a, b.mono h, ScIn.mono h c⟩
  | [], _ :: _, x => x.elim
  | _ :: _, [], x => x.elim

noncomputable def look (es : Sc) (k : Str) : Option Ent := (es.find? fun p => p.1 = k).map (·.2)
noncomputable def put (es : Sc) (k : Str) (e : Ent) : Sc := if es.any (fun p => p.1 = k) then es.map (fun p => if p.1 = k then (p.1, e) else p) else es ++ [(k, e)]

theorem ScIn.look {T : TP} (k : Str) : ∀ {kvs : List (Str × Value)} {es : Sc}, ScIn T kvs es → (match Mine.look es k with | none => valueAt kvs k = none | some e => ∃ v, valueAt kvs k = some v ∧ EntAt T v e)
  | [], [], _ => rfl
  | (k1, v) :: r, (k2, e) :: r', ⟨a, b, c⟩ => by
    subst a
    have ih := ScIn.look k c
    unfold Mine.look valueAt
    by_cases q : k1 = k
    · simp only [List.find?_cons, q, decide_true, Option.map_some]
      exact ⟨v, rfl, b⟩
    · simp only [List.find?_cons, q, decide_false]
      exact ih
  | [], _ :: _, x => x.elim
  | _ :: _, [], x => x.elim
theorem ScIn.any {T : TP} (k : Str) : ∀ {kvs : List (Str × Value)} {es : Sc}, ScIn T kvs es → kvs.any (fun kv => kv.1 = k) = es.any (fun p => p.1 = k)
  | [], [], _ => rfl
  | (_, _) :: _, (_, _) :: _, ⟨a, _, c⟩ => by
    subst a
    rw [List.any_cons, List.any_cons, ScIn.any k c]
  | [], _ :: _, x => x.elim
  | _ :: _, [], x => x.elim
theorem ScIn.length {T : TP} : ∀ {kvs : List (Str × Value)} {es : Sc}, ScIn T kvs es → kvs.length = es.length
  | [], [], _ => rfl
  | (_, _) :: _, (_, _) :: _, ⟨_, _, c⟩ => congrArg (· + 1) (ScIn.length c)
  | [], _ :: _, x => x.elim
  | _ :: _, [], x => x.elim
theorem ScIn.map {T : TP} (k : Str) {v : Value} {e : Ent} (hv : EntAt T v e) : ∀ {kvs : List (Str × Value)} {es : Sc}, ScIn T kvs es → ScIn T (kvs.map (fun kv => if kv.1 = k then (kv.1, v) else kv)) (es.map (fun p => if p.1 = k then (p.1, e) else p))
  | [], [], _ => trivial
  | (k1, _) :: _, (_, _) :: _, ⟨a, b, c⟩ => by
    subst a
    rw [List.map_cons, List.map_cons]
    by_cases q : k1 = k
    · simp only [q, if_true]; exact ⟨rfl, hv, by simpa [q] using ScIn.map k hv c⟩
    · simp only [if_neg q]; exact ⟨rfl, b, ScIn.map k hv c⟩
  | [], _ :: _, x => x.elim
  | _ :: _, [], x => x.elim
theorem ScIn.snoc {T : TP} (k : Str) {v : Value} {e : Ent} (hv : EntAt T v e) : ∀ {kvs : List (Str × Value)} {es : Sc}, ScIn T kvs es → ScIn T (kvs ++ [(k, v)]) (es ++ [(k, e)])
  | [], [], _ => ⟨rfl, hv, trivial⟩
  | (_, _) :: _, (_, _) :: _, ⟨a, b, c⟩ => ⟨a, b, ScIn.snoc k hv c⟩
  | [], _ :: _, x => x.elim
  | _ :: _, [], x => x.elim
theorem ScIn.put {T : TP} (k : Str) {v : Value} {e : Ent} (hv : EntAt T v e) {kvs : List (Str × Value)} {es : Sc} (h : ScIn T kvs es) : ScIn T (stored kvs k v) (Mine.put es k e) := by
  unfold stored Mine.put
  rw [h.any k]
  split
  · exact h.map k hv
  · exact h.snoc k hv

/-- a chain of tables -/
inductive IsTab (w : World) (h : Heap) : Value → List Sc → Prop
  | nil : IsTab w h .none []
  | cons {x dx ed : Addr} {k1 k2 : Int} {t1 t2 : Tok} {pv : Value} {n : Nat} {o : Obj} {kvs : List (Str × Value)} {es : Sc} {T : List Sc} :
      h.get? x = some (instObj 59 dx) → h.get? dx = some (dictOf [⟨k1, .str (Str.ofString "parent") t1, pv⟩, ⟨k2, .str (Str.ofString "entries") t2, .ref ed⟩] n) →
      h.get? ed = some o → o.IsDictOf (PySem.strKind PG w) kvs → (ed == sysModules) = false → ScIn (IsTup h) kvs es → IsTab w h pv T → IsTab w h (.ref x) (es :: T)
theorem tup_keeps {h h' : Heap} (k : ∀ b o, h.get? b = some o → h'.get? b = some o) : ∀ a vs, IsTup h a vs → IsTup h' a vs := fun _ _ x => x.keeps k
theorem IsTab.keeps {w : World} {h h' : Heap} (k : ∀ b o, h.get? b = some o → h'.get? b = some o) {v : Value} {T : List Sc} (x : IsTab w h v T) : IsTab w h' v T := by
  induction x with
  | nil => exact .nil
  | cons a b c d e f _ ih => exact .cons (k _ _ a) (k _ _ b) (k _ _ c) d e (f.mono (tup_keeps k)) ih

noncomputable def findT : List Sc → Str → Option Ent
  | [], _ => none
  | es :: T, k => match look es k with
    | some e => some e
    | none => findT T k

/-- a call that changes nothing and hands back a value -/
noncomputable def PureAt (w : World) (f : Addr) (vs : List Value) (dz uz : Nat) (g₀ : Heap) (Post : Value → Prop) : Prop :=
  ∀ (mean : ExcName → Option Value) (mg mb : Str → Option Value) (dp un : Nat) (gd : Option (List Code)) (cn : Str) (cs : Scope) (a : Addr) (ccd : Value) (cl : List (Str × Addr)) (outer : List Env) (A₀ : Around) (base h₀ : Heap) (L : Addr) (m : Str → Option Value) (s : Shared)
    (news : List (Addr × Obj)) (Q E : Value → Shared → Prop),
    Below A₀ base outer h₀ → Fr h₀ L s.heap m → (hd.heap_1 w.params).In h₀ → Top PV LS mean mg mb h₀ → cs.kind = .function → dp + dz < recursionLimit → un + uz < cLine →
    News h₀ L s.heap news → (∀ b o, g₀.get? b = some o → s.heap.get? b = some o) →
    (∀ r h' tk', Fr h₀ L h' m → News h₀ L h' news → Post r → Q r { s with heap := h', toks := tk' }) →
    wpAny (MD w) (AR dp un gd cn cs L a ccd cl outer) (call (.ref f) vs) Q E s

noncomputable def Handed (g : Heap) (Post : Value → Prop) (s₀ : Shared) (v : Value) (s' : Shared) : Prop :=
  Post v ∧ ∃ L' m' h' tk', s' = { s₀ with heap := h', toks := tk' } ∧ Fr g L' h' m'
theorem Handed.intro {g : Heap} {L' : Addr} {Post : Value → Prop} {s₀ : Shared} {m' : Str → Option Value} {h' : Heap} {tk' : Nat} {v : Value} (F : Fr g L' h' m') (hv : Post v) :
    Handed g Post s₀ v { s₀ with heap := h', toks := tk' } := ⟨hv, L', m', h', tk', rfl, F⟩

section
variable {w : World} {f : Addr} {vs : List Value} {dz uz : Nat} {g₀ : Heap} {Post : Value → Prop}

theorem pure_of {oc : Value} {od : Option Addr} {osl : Array (Option Value)} {name qual : Str} {params : Arguments} {body : List Stmt} {scope : Scope} {dV kV doc pm cdv ct : Value} {an : Option Addr} {binds : List (Str × Value)}
    (ho : (hd.heap_1 w.params).lookup f = some ⟨oc, od, .func (fnOf name qual params body scope dV kV doc pm an cdv ct), osl⟩ := by k_is) (hcd : codeIn (hd.heap_1 w.params) cdv qual = true := by k_is)
    (hbind : ∀ s, BindsTo s (fnOf name qual params body scope dV kV doc pm an cdv ct) ⟨vs, []⟩ binds := by exact fun s => BindsTo.of_eq rfl) (hloc : (binds.all fun x => decide (scope.names.lookup x.1 = some .local)) = true := by rfl)
    (hcell : ∀ x ∈ scope.names, x.2 ≠ .cell := by decide) (hco : scope.isCoroutine = false := by rfl) (hgen : scope.isGenerator = false := by rfl) (hks : scope.kind = .function := by rfl)
    (h : ∀ (mean : ExcName → Option Value) (mg mb : Str → Option Value) (dp un : Nat) (gd : Option (List Code)) (outer : List Env) (A₀ : Around) (base g : Heap) (L : Addr) (h₁ : Heap) (s : Shared) (Qe : Value → Shared → Prop),
      Below A₀ base outer g → Fr g L h₁ (fun y => binds.reverse.lookup y) → (hd.heap_1 w.params).In g → Top PV LS mean mg mb g → dp + dz < recursionLimit + 1 → un + uz < cLine + 3 →
      News g L h₁ [] → (∀ b o, g₀.get? b = some o → g.get? b = some o) →
      wpAny (MD w) (AR dp un gd qual scope L f cdv [] outer) (execs body (envOf qual scope L f cdv)) (fun fl s' => Handed g Post s (match fl with | .ret v => v | _ => .none) s') 
        (fun e s' => wpAny (MD w) (AR dp un gd qual scope L f cdv [] outer) (leaving (envOf qual scope L f cdv) e) (fun _ s'' => Qe e s'') (fun e' s'' => Qe e' s'') s') { s with heap := h₁ }) :
    PureAt w f vs dz uz g₀ Post := by
  intro mean mg mb dp un gd cn cs a ccd cl outer A₀ base h₀ L m s news Q E B F X T hk hd hu N hg ret
  refine enterG (cells := []) B F X T hk News.nil (by omega) ho hcd (hbind s) (locs hloc) (fun g L' h₁ FG F' N' B' X' T' hide hshow hlt => ?_) hcell hco hgen hks
  have hh : ∀ b o, s.heap.get? b = some o → g.get? b = some o := fun b o e => hide b o (fun q => (List.not_mem_nil q).elim) e
  have bk : ∀ v s', Handed g Post { s with toks := s.toks + binds.length } v s' → Back h₀ L m g Q v s' := by
    intro v s' hII
    obtain ⟨hv, L₂, m₂, h', tk', rfl, F₂⟩ := hII
    refine ⟨L₂, m₂, [], F₂, News.nil, fun F₃ N₃ kp => ?_⟩
    exact ret v h' tk' F₃ (fun p hp => ⟨kp _ _ (hh _ _ (N p hp).1), (N p hp).2⟩) hv
  exact wpAny_mono (h mean mg mb (dp + 1) (un + 3) (gd) (envX cn cs L a ccd cl :: outer) (AR dp un gd cn cs L a ccd cl outer) base g L' h₁ { s with toks := s.toks + binds.length } _ B' F' X' T' (by omega) (by omega) N'
    (fun b o e => hh b o (hg b o e))) (fun fl s' hl => bk _ s' hl) fun _ _ y => y
end


theorem words_4 : True := by
  k_with "m:Mine.pure" => (refine' pure_of (h := ?_))
  exact trivial
/-- a key asked of a dict of the base -/
theorem in_base {w : World} {A : Around} {E : Value → Shared → Prop} {s : Shared} {h₀ : Heap} {L d : Addr} {m : Str → Option Value} {o : Obj} {kvs : List (Str × Value)} {k : Str} {t : Tok} {b : Bool} {Q : Value → Shared → Prop}
    (F : Fr h₀ L s.heap m) (ho : h₀.get? d = some o) (hd : o.IsDictOf (PySem.strKind PG w) kvs) (lo : (d == sysModules) = false) (hb : (valueAt kvs k).isSome = b) (h : Q (.bool b) { s with toks := s.toks + 1 }) :
    wpAny (model PG w) A (compareOp .In (.str k t) (.ref d)) Q E s := wpAny_in_of (strKind_is _ _ _ _) lo (Heap.dictOf_iff.mpr ⟨o, F.keep _ _ ho, hd⟩ : s.heap.DictOf (PySem.strKind PG w) d kvs).mapOf (by rw [hb]; exact h)
theorem item_base {w : World} {A : Around} {E : Value → Shared → Prop} {s : Shared} {h₀ : Heap} {L d : Addr} {m : Str → Option Value} {o : Obj} {kvs : List (Str × Value)} {k : Str} {t : Tok} {v : Value} {value slice : PySem.Expr} {Q : Value → Shared → Prop}
    (F : Fr h₀ L s.heap m) (ho : h₀.get? d = some o) (hd : o.IsDictOf (PySem.strKind PG w) kvs) (hl : valueAt kvs k = some v) (h : Q v { s with toks := s.toks + 1 })
    (hs : subscripted slice false (.ref d) (.str k t) = operate [.ref d, .str k t] (getItem (.ref d) (.str k t)) := by with_unfolding_all rfl) (hg : ∀ r, letTemporaryGo value (.ref d) r = pure () := by intro _; with_unfolding_all rfl) :
    wpAny (model PG w) A (subscriptTail value slice (.ref d) (.str k t)) Q E s :=
  have hD : s.heap.DictOf (PySem.strKind PG w) d kvs := Heap.dictOf_iff.mpr ⟨o, F.keep _ _ ho, hd⟩
  subscriptTail_builtin hD.typeIs slot_dict_getitem.lookup (wpAny_getItem_of (strKind_is _ _ _ _) hD.mapOf hl h) hs hg

theorem words_5 : True := by
  k_with "m:compareOp In str ref" => ((k_here; k_dflt (refine' in_base (by k_asm) (by k_asm) (by k_asm) (by k_asm) (by k_asm) ?_; k_whole)))
  k_with "m:subscriptTail" => ((k_here; (with_reducible show wpAny _ _ (subscriptTail _ _ (Value.ref _) (Value.str _ _)) _ _ _); k_dflt (refine item_base (by k_asm) (by k_asm) (by k_asm) (by k_asm) ?_)))
  exact trivial
theorem IsTab.handed {w : World} {h : Heap} {v : Value} {T : List Sc} (x : IsTab w h v T) : handedIn v = true := by
  cases x <;> rfl
local macro_rules | `(tactic| k_handed) => `(tactic| with_reducible assumption)

noncomputable def FindPost (g : Heap) (T : List Sc) (k : Str) (r : Value) : Prop := match findT T k with
  | none => r = .none
  | some e => EntAt (IsTup g) r e

noncomputable def WPost {δ : Type} (h₀ : Heap) (L : Addr) (s : Shared) (Rel : List (Addr × Obj) → Value → δ → Prop) (size : δ → Nat) (I : δ → Prop) (y : Str) (m₀ : Str → Option Value) (news : List (Addr × Obj)) (Q : Flow → Shared → Prop) (d : δ) (f : Flow) (s₂ : Shared) : Prop :=
  KwdPost0 h₀ L s Rel size I y [] m₀ news Q d f s₂

theorem find_spec {w : World} {g₀ : Heap} {tv : Value} {T : List Sc} (htab : IsTab w g₀ tv T) (k : Str) (t : Tok) :
    PureAt w 70 [tv, .str k t] 10 100 g₀ (FindPost g₀ T k) := by
  walk_at "Mine.pure"
  intro mean mg mb dp un gd outer A₀ base g L h₁ s Qe B F X Tp hd hu N hg
  dsimp only [fnOf, List.map, List.zip, List.zipWith, List.reverse, List.reverseAux, List.append, HAppend.hAppend, Append.append] at F
  refine fr_let F ?_
  clear F
  intro m0 F
  show wpAny _ _ _ _ _ _
  k_fold
  walk1
  refine kwd_while0 (Rel := fun _ v T' => IsTab w g₀ v T') (y := Str.ofString "table") (d₀ := T) [] List.length (fun T0 T' => findT T0 k = findT T' k) F N rfl htab rfl (fun v T' u h tk hR hI F' N' => ?_)
  clear F N htab
  show wpAny _ _ _ (fun b s₂ => if b = true then wpAny _ _ _ (WPost g L _ _ _ _ _ _ _ _ T') _ s₂ else _) _ _
  cases hR with
  | nil =>
    walk_at "Mine.in"
    all_goals (try k_unfold)
    all_goals (try dsimp only)
    exact Handed.intro (by assumption) (by unfold FindPost; rw [hI]; rfl)
  | cons a b c d e f g' =>
    have hl := f.look k
    have hpv := g'.handed
    have a' := hg _ _ a
    have b' := hg _ _ b
    have c' := hg _ _ c
    rename_i es T''
    cases hq : look es k with
    | none =>
      rw [hq] at hl
      have hb := congrArg Option.isSome hl
      dsimp only [Option.isSome] at hb
      walk_at "Mine.in"
      all_goals (try dsimp only)
      have hI' : findT T k = findT T'' k := hI.trans (by simp only [findT, hq])
      refine KwdEnd0.intro (Rel := fun _ v T' => IsTab w g₀ v T') (size := List.length) (I := fun T' => findT T k = findT T' k) (y := Str.ofString "table") (d' := T'') (by assumption) (by assumption) (fun p hp => hp) (by exact rfl) g' hI' (Nat.lt_succ_self _) (fun x hx _ => ?_)
      exact (if_neg hx).trans (if_neg hx)
    | some en =>
      rw [hq] at hl
      refine hide_of ?_
      intro Gh
      obtain ⟨v', hv', hen⟩ := hl
      k_unfold
      have hb := congrArg Option.isSome hv'
      dsimp only [Option.isSome] at hb
      walk_at "Mine.in"
      all_goals (try dsimp only)
      show Handed _ _ _ _ _
      exact Handed.intro (by assumption) (by unfold FindPost; rw [hI]; simp only [findT, hq]; exact hen)


theorem PureAt.use {w : World} {f : Addr} {vs : List Value} {dz uz : Nat} {g₀ : Heap} {Post : Value → Prop} (C : PureAt w f vs dz uz g₀ Post)
    {mean : ExcName → Option Value} {mg mb : Str → Option Value} {dp un : Nat} {gd : Option (List Code)} {cn : Str} {cs : Scope} {a : Addr} {ccd : Value} {cl : List (Str × Addr)} {outer : List Env} {A₀ : Around} {base h₀ : Heap} {L : Addr} {m : Str → Option Value} {s : Shared}
    {news : List (Addr × Obj)} {Q E : Value → Shared → Prop}
    (B : Below A₀ base outer h₀) (F : Fr h₀ L s.heap m) (X : (hd.heap_1 w.params).In h₀) (T : Top PV LS mean mg mb h₀) (hk : cs.kind = .function) (hd : dp + dz < recursionLimit) (hu : un + uz < cLine)
    (N : News h₀ L s.heap news) (hg : ∀ b o, g₀.get? b = some o → s.heap.get? b = some o)
    (ret : ∀ r h' tk', Fr h₀ L h' m → News h₀ L h' news → Post r → Q r { s with heap := h', toks := tk' }) :
    wpAny (MD w) (AR dp un gd cn cs L a ccd cl outer) (call (.ref f) vs) Q E s := C _ _ _ _ _ _ _ _ _ _ _ _ _ _ _ _ _ _ _ _ _ B F X T hk hd hu N hg ret

theorem EmitsAt.use {w : World} {f : Addr} {vs : List Value} {dz uz : Nat} {g₀ : Heap} {RL : Addr} {new : List Row} (C : EmitsAt w f vs dz uz g₀ RL new)
    {mean : ExcName → Option Value} {mg mb : Str → Option Value} {dp un : Nat} {gd : Option (List Code)} {cn : Str} {cs : Scope} {a : Addr} {ccd : Value} {cl : List (Str × Addr)} {outer : List Env} {A₀ : Around} {base h₀ : Heap} {L : Addr} {m : Str → Option Value} {s : Shared}
    {us : List Value} {n : Nat} {rs : List Row} {rest : List (Addr × Obj)} {Q E : Value → Shared → Prop}
    (B : Below A₀ base outer h₀) (F : Fr h₀ L s.heap m) (X : (hd.heap_1 w.params).In h₀) (T : Top PV LS mean mg mb h₀) (hk : cs.kind = .function) (hd : dp + dz < recursionLimit) (hu : un + uz < cLine)
    (N : News h₀ L s.heap ((RL, listOf us.toArray n) :: rest)) (R : RowsIn (LP h₀ rest) us rs) (hlim : rs.length + new.length ≤ LIM) (hg : ∀ b o, g₀.get? b = some o → s.heap.get? b = some o) (hRL : g₀.get? RL = none)
    (ret : ∀ us' n' rest' h' tk', Fr h₀ L h' m → News h₀ L h' ((RL, listOf us'.toArray n') :: rest') → (∀ p ∈ rest', p.1 ≠ RL) → (∀ p ∈ rest, p.1 ≠ RL → p ∈ rest') → RowsIn (LP h₀ rest') us' (rs ++ new) → Q .none { s with heap := h', toks := tk' }) :
    wpAny (MD w) (AR dp un gd cn cs L a ccd cl outer) (call (.ref f) vs) Q E s := C _ _ _ _ _ _ _ _ _ _ _ _ _ _ _ _ _ _ _ _ _ _ _ _ B F X T hk hd hu N R hlim hg hRL ret

theorem none_of_news {h₀ h : Heap} {L a : Addr} {o : Obj} {I : List (Addr × Obj)} (N : News h₀ L h ((a, o) :: I)) : h₀.get? a = none := (N _ (.head _)).2.2

theorem words_6 : True := by
  k_with "m:Mine.lim" => ((first | with_reducible assumption | (simp only [List.length_append, List.length_cons, List.length_nil, LIM] at *; omega)))
  k_with "m:Mine.N1" => (k_asm)
  k_with "m:Mine.R" => (k_asm)
  k_with "m:Mine.hg" => (exact Fr.keep (by k_asm))
  k_with "m:Mine.hRL" => (exact none_of_news (by k_asm))
  k_with "m:Mine.app" => ((simp only [List.append_assoc, List.append_nil, List.nil_append] at *))
  exact trivial
theorem PureAt.useA {w : World} {f : Addr} {vs : List Value} {dz uz : Nat} {g₀ : Heap} {Post : Value → Prop} (C : PureAt w f vs dz uz g₀ Post)
    {mean : ExcName → Option Value} {mg mb : Str → Option Value} {dp un : Nat} {gd : Option (List Code)} {cn : Str} {cs : Scope} {a : Addr} {ccd : Value} {cl : List (Str × Addr)} {outer : List Env} {A₀ : Around} {base h₀ : Heap} {L : Addr} {m : Str → Option Value} {hs : Heap} {gs : Array GenState} {ds : Drawn} {ts : Nat} {os : OsState}
    {news : List (Addr × Obj)} {Q E : Value → Shared → Prop}
    (ret : ∀ r h' tk', Fr h₀ L h' m → News h₀ L h' news → Post r → Q r ⟨h', gs, ds, tk', os⟩)
    (B : Below A₀ base outer h₀ := by k_asm) (F : Fr h₀ L hs m := by k_asm) (X : (hd.heap_1 w.params).In h₀ := by k_asm) (T : Top PV LS mean mg mb h₀ := by k_asm) (hk : cs.kind = .function := by rfl) (hd : dp + dz < recursionLimit := by walk_at "Mine.ar") (hu : un + uz < cLine := by walk_at "Mine.ar")
    (N : News h₀ L hs news := by walk_at "Mine.N1") (hg : ∀ b o, g₀.get? b = some o → hs.get? b = some o := by walk_at "Mine.hg") :
    wpAny (MD w) (AR dp un gd cn cs L a ccd cl outer) (call (.ref f) vs) Q E ⟨hs, gs, ds, ts, os⟩ := C.use B F X T hk hd hu N hg ret
theorem EmitsAt.useA {w : World} {f : Addr} {vs : List Value} {dz uz : Nat} {g₀ : Heap} {RL : Addr} {new : List Row} (C : EmitsAt w f vs dz uz g₀ RL new)
    {mean : ExcName → Option Value} {mg mb : Str → Option Value} {dp un : Nat} {gd : Option (List Code)} {cn : Str} {cs : Scope} {a : Addr} {ccd : Value} {cl : List (Str × Addr)} {outer : List Env} {A₀ : Around} {base h₀ : Heap} {L : Addr} {m : Str → Option Value} {hs : Heap} {gs : Array GenState} {ds : Drawn} {ts : Nat} {os : OsState}
    {us : List Value} {n : Nat} {rs : List Row} {rest : List (Addr × Obj)} {Q E : Value → Shared → Prop}
    (ret : ∀ us' n' rest' h' tk', Fr h₀ L h' m → News h₀ L h' ((RL, listOf us'.toArray n') :: rest') → (∀ p ∈ rest', p.1 ≠ RL) → (∀ p ∈ rest, p.1 ≠ RL → p ∈ rest') → RowsIn (LP h₀ rest') us' (rs ++ new) → Q .none ⟨h', gs, ds, tk', os⟩)
    (B : Below A₀ base outer h₀ := by k_asm) (F : Fr h₀ L hs m := by k_asm) (X : (hd.heap_1 w.params).In h₀ := by k_asm) (T : Top PV LS mean mg mb h₀ := by k_asm) (hk : cs.kind = .function := by rfl) (hd : dp + dz < recursionLimit := by walk_at "Mine.ar") (hu : un + uz < cLine := by walk_at "Mine.ar")
    (N : News h₀ L hs ((RL, listOf us.toArray n) :: rest) := by walk_at "Mine.N1") (R : RowsIn (LP h₀ rest) us rs := by walk_at "Mine.R") (hlim : rs.length + new.length ≤ LIM := by walk_at "Mine.lim") (hg : ∀ b o, g₀.get? b = some o → hs.get? b = some o := by walk_at "Mine.hg") (hRL : g₀.get? RL = none := by walk_at "Mine.hRL") :
    wpAny (MD w) (AR dp un gd cn cs L a ccd cl outer) (call (.ref f) vs) Q E ⟨hs, gs, ds, ts, os⟩ := C.use B F X T hk hd hu N R hlim hg hRL ret

theorem words_7 : True := by
  k_with "m:Mine.done" => (((try k_unfold); (try dsimp only); exact Noted.intro))
  k_with "m:Mine.RR" => (first | walk_at "Mine.R" | (walk_at "Mine.app"; walk_at "Mine.R"))
  exact trivial
structure Idn where
  pos : Int
  name : Str
noncomputable def IdAt (T : TP) (v : Value) (d : Idn) : Prop := ∃ a t1 t2 t3, v = .ref a ∧ T a #[.str (Str.ofString "id") t1, .int d.pos t2, .str d.name t3]
theorem IdAt.mono {T T' : TP} (h : ∀ a vs, T a vs → T' a vs) {v : Value} {d : Idn} (x : IdAt T v d) : IdAt T' v d := by
  refine ex4 x ?_
  clear x
  intro a t1 t2 t3
  intro hII
  refine an2 hII ?_
  clear hII
  intro e q
  exact ⟨a, t1, t2, t3, e, h _ _ q⟩

noncomputable def exprRows (T : List Sc) (d : Idn) : List Row := match findT T d.name with
  | none => [⟨Str.ofString "undeclared", d.pos, d.name⟩]
  | some _ => []

theorem find_none {w : World} {g₀ : Heap} {tv : Value} {T : List Sc} (htab : IsTab w g₀ tv T) {k : Str} (hq : findT T k = none) (t : Tok) : PureAt w 70 [tv, .str k t] 10 100 g₀ (fun r => r = .none) := by
  have h := find_spec htab k t
  unfold FindPost at h
  rw [hq] at h
  exact h
theorem find_some {w : World} {g₀ : Heap} {tv : Value} {T : List Sc} (htab : IsTab w g₀ tv T) {k : Str} {e : Ent} (hq : findT T k = some e) (t : Tok) : PureAt w 70 [tv, .str k t] 10 100 g₀ (fun r => EntAt (IsTup g₀) r e) := by
  have h := find_spec htab k t
  unfold FindPost at h
  rw [hq] at h
  exact h
theorem found_any {w : World} {g₀ : Heap} {tv : Value} {T : List Sc} {k : Str} {e : Ent} {t0 : Tok} {mean : ExcName → Option Value} {mg mb : Str → Option Value} {dp un : Nat} {gd : Option (List Code)} {cn : Str} {cs : Scope} {a : Addr} {ccd : Value} {cl : List (Str × Addr)} {outer : List Env} {A₀ : Around} {base h₀ : Heap} {L : Addr} {m : Str → Option Value} {hs : Heap} {gs : Array GenState} {ds : Drawn} {ts : Nat} {os : OsState}
    {news : List (Addr × Obj)} {Q E : Value → Shared → Prop}
    (ret : ∀ h' tk' a' t1 t2 iv, Fr h₀ L h' m → News h₀ L h' news → IsTup g₀ a' #[.str e.what t1, .int e.pos t2, iv] → InfAt (IsTup g₀) iv e.inf → Q (.ref a') ⟨h', gs, ds, tk', os⟩)
    (htab : IsTab w g₀ tv T := by k_asm) (hq : findT T k = some e := by k_asm)
    (B : Below A₀ base outer h₀ := by k_asm) (F : Fr h₀ L hs m := by k_asm) (X : (hd.heap_1 w.params).In h₀ := by k_asm) (Tp : Top PV LS mean mg mb h₀ := by k_asm) (hk : cs.kind = .function := by rfl) (hd : dp + 10 < recursionLimit := by walk_at "Mine.ar") (hu : un + 100 < cLine := by walk_at "Mine.ar")
    (N : News h₀ L hs news := by walk_at "Mine.N1") (hg : ∀ b o, g₀.get? b = some o → hs.get? b = some o := by walk_at "Mine.hg") :
    wpAny (MD w) (AR dp un gd cn cs L a ccd cl outer) (call (.ref 70) [tv, .str k t0]) Q E ⟨hs, gs, ds, ts, os⟩ := PureAt.useA (find_some htab hq _) (fun r h' tk' F' N' hp => by
    refine ex4 hp ?_
    clear hp
    intro a' t1 t2 iv
    intro hII
    refine an3 hII ?_
    clear hII
    intro e1 hE hI
    subst e1
    exact ret h' tk' a' t1 t2 iv F' N' hE hI) B F X Tp hk hd hu N hg
theorem found_sig {w : World} {g₀ : Heap} {tv : Value} {T : List Sc} {k wh d : Str} {ip : Int} {p q : Bool} {t0 : Tok} {mean : ExcName → Option Value} {mg mb : Str → Option Value} {dp un : Nat} {gd : Option (List Code)} {cn : Str} {cs : Scope} {a : Addr} {ccd : Value} {cl : List (Str × Addr)} {outer : List Env} {A₀ : Around} {base h₀ : Heap} {L : Addr} {m : Str → Option Value} {hs : Heap} {gs : Array GenState} {ds : Drawn} {ts : Nat} {os : OsState}
    {news : List (Addr × Obj)} {Q E : Value → Shared → Prop}
    (ret : ∀ h' tk' a' t1 t2 b' t', Fr h₀ L h' m → News h₀ L h' news → IsTup g₀ a' #[.str wh t1, .int ip t2, .ref b'] → IsTup g₀ b' #[.str d t', .bool p, .bool q] → Q (.ref a') ⟨h', gs, ds, tk', os⟩)
    (htab : IsTab w g₀ tv T := by k_asm) (hq : findT T k = some ⟨wh, ip, .sig d p q⟩ := by k_asm)
    (B : Below A₀ base outer h₀ := by k_asm) (F : Fr h₀ L hs m := by k_asm) (X : (hd.heap_1 w.params).In h₀ := by k_asm) (Tp : Top PV LS mean mg mb h₀ := by k_asm) (hk : cs.kind = .function := by rfl) (hd : dp + 10 < recursionLimit := by walk_at "Mine.ar") (hu : un + 100 < cLine := by walk_at "Mine.ar")
    (N : News h₀ L hs news := by walk_at "Mine.N1") (hg : ∀ b o, g₀.get? b = some o → hs.get? b = some o := by walk_at "Mine.hg") :
    wpAny (MD w) (AR dp un gd cn cs L a ccd cl outer) (call (.ref 70) [tv, .str k t0]) Q E ⟨hs, gs, ds, ts, os⟩ := found_any (fun h' tk' a' t1 t2 iv F' N' hE hI => by
    obtain ⟨b', t', e1, hS⟩ := hI
    subst e1
    exact ret h' tk' a' t1 t2 b' t' F' N' hE hS) htab hq B F X Tp hk hd hu N hg
theorem found_num {w : World} {g₀ : Heap} {tv : Value} {T : List Sc} {k wh : Str} {ip i : Int} {t0 : Tok} {mean : ExcName → Option Value} {mg mb : Str → Option Value} {dp un : Nat} {gd : Option (List Code)} {cn : Str} {cs : Scope} {a : Addr} {ccd : Value} {cl : List (Str × Addr)} {outer : List Env} {A₀ : Around} {base h₀ : Heap} {L : Addr} {m : Str → Option Value} {hs : Heap} {gs : Array GenState} {ds : Drawn} {ts : Nat} {os : OsState}
    {news : List (Addr × Obj)} {Q E : Value → Shared → Prop}
    (ret : ∀ h' tk' a' t1 t2 t', Fr h₀ L h' m → News h₀ L h' news → IsTup g₀ a' #[.str wh t1, .int ip t2, .int i t'] → Q (.ref a') ⟨h', gs, ds, tk', os⟩)
    (htab : IsTab w g₀ tv T := by k_asm) (hq : findT T k = some ⟨wh, ip, .num i⟩ := by k_asm)
    (B : Below A₀ base outer h₀ := by k_asm) (F : Fr h₀ L hs m := by k_asm) (X : (hd.heap_1 w.params).In h₀ := by k_asm) (Tp : Top PV LS mean mg mb h₀ := by k_asm) (hk : cs.kind = .function := by rfl) (hd : dp + 10 < recursionLimit := by walk_at "Mine.ar") (hu : un + 100 < cLine := by walk_at "Mine.ar")
    (N : News h₀ L hs news := by walk_at "Mine.N1") (hg : ∀ b o, g₀.get? b = some o → hs.get? b = some o := by walk_at "Mine.hg") :
    wpAny (MD w) (AR dp un gd cn cs L a ccd cl outer) (call (.ref 70) [tv, .str k t0]) Q E ⟨hs, gs, ds, ts, os⟩ := found_any (fun h' tk' a' t1 t2 iv F' N' hE hI => by
    obtain ⟨t', e1⟩ := hI
    subst e1
    exact ret h' tk' a' t1 t2 t' F' N' hE) htab hq B F X Tp hk hd hu N hg
local macro_rules | `(tactic| walk_at "call ref") => `(tactic| (k_here; k_dflt (refine' PureAt.useA (find_none (by k_asm) (by k_asm) _) ?_); intro r' h' tk' F' N' e'; subst e'))

theorem words_8 : True := by
  k_with "m:call ref" => ((k_here; k_dflt (first | refine found_sig ?_ | refine found_num ?_ | refine found_any ?_); intros))
  k_with "m:call ref" => ((k_here; k_dflt (refine' EmitsAt.useA (add_spec (by k_asm) _ _ _ _ _ _) ?_); intros))
  exact trivial
theorem check_expr_spec {w : World} {R RL : Addr} {g₀ : Heap} {tv ev : Value} {T : List Sc} {d : Idn} (hrep : IsRep g₀ R RL) (htab : IsTab w g₀ tv T) (hid : IdAt (IsTup g₀) ev d) :
    EmitsAt w 119 [.ref R, tv, ev] 20 200 g₀ RL (exprRows T d) := by
  walk_at "Mine.emits"
  intro mean mg mb dp un gd outer A₀ base g L h₁ s us n rs Qe B F X Tp hd hu N R' hlim hg
  have hrep := hrep.keeps hg
  have htab := htab.keeps hg
  have hrep' := hrep
  refine hide_of ?_
  intro Gh
  refine hrep'.open ?_
  intro dx nn k1 k2 k3 w1 w2 w3 v1 v2 hRo hRd
  k_unfold
  refine ex4 (hid.mono (tup_keeps hg)) ?_
  intro ea u1 u2 u3
  intro hII
  refine an2 hII ?_
  clear hII
  intro eqO1
  subst eqO1
  intro hE
  dsimp only [fnOf, List.map, List.zip, List.zipWith, List.reverse, List.reverseAux, List.append, HAppend.hAppend, Append.append] at F
  refine fr_let F ?_
  clear F
  intro m0 F
  unfold exprRows at hlim ⊢
  cases hq : findT T d.name with
  | none =>
    rw [hq] at hlim
    walk_at "Mine.in"
    all_goals walk_at "Mine.done"
  | some e =>
    rw [hq] at hlim
    walk_at "Mine.in"
    all_goals walk_at "Mine.done"

/-- a for loop at its iterator (the library's own word under a name that its lines don't take) -/
noncomputable def Looping (w : World) (A : Around) (g : Heap) (env : Env) (x : Str) (body : List Stmt) (Q : Flow → Shared → Prop) (E : Value → Shared → Prop) (it : Value) (s₂ : Shared) : Prop := LoopAtV PG w A g env x body Q E it s₂

section
variable {w : World} {A : Around} {E : Value → Shared → Prop} {Q : Flow → Shared → Prop} {s : Shared} {env : Env} {g : Heap} {x : Str} {body : List Stmt}

theorem for_start {m : Str → Option Value} {px pos : Pos} {iter : PySem.Expr} (F : Fr g env.locals s.heap m) (hx : env.kindOf x = some .local)
    (hp : (env.scope.kind == .class || (env.scope.kind == .module && env.locals != env.globals)) = false)
    (h : wpAny (MD w) A (eval iter env) (fun xv s₁ => wpAny (MD w) A (pyIter xv) (fun it s₂ => Looping w A g env x body Q E it s₂) E s₁) E s)
    (hs : ∀ x, foldedSetIterable iter env x = pure x)
    (hE : PassesOwn (MD w) A env E) :
    wpAny (MD w) A (exec (.For (.Name x px) iter body [] pos) env) Q E s := For_invVF F hx hp h hs hE

noncomputable def pre (em : Nat → List Row) (i : Nat) : List Row := (List.range i).flatMap em
theorem pre_succ (em : Nat → List Row) (i : Nat) : pre em (i + 1) = pre em i ++ em i := by
  unfold pre
  rw [List.range_succ, List.flatMap_append, List.flatMap_cons, List.flatMap_nil, List.append_nil]

/-- a turn's end -/
noncomputable def TurnR (g : Heap) (L RL : Addr) (x : Str) (m : Str → Option Value) (rs : List Row) (rest : List (Addr × Obj)) (s₁ : Shared) (f : Flow) (s' : Shared) : Prop :=
  (f = .next ∨ f = .cont) ∧ ∃ h' tk' m' us' n' rest', s' = { s₁ with heap := h', toks := tk' } ∧ Fr g L h' m' ∧ (∀ y, y ≠ x → m' y = m y) ∧ News g L h' ((RL, listOf us'.toArray n') :: rest') ∧ (∀ p ∈ rest', p.1 ≠ RL) ∧ (∀ p ∈ rest, p.1 ≠ RL → p ∈ rest') ∧ RowsIn (LP g rest') us' rs
theorem TurnR.intro {L RL : Addr} {m m' : Str → Option Value} {rs : List Row} {rest rest' : List (Addr × Obj)} {s₁ : Shared} {h' : Heap} {tk' : Nat} {us' : List Value} {n' : Nat}
    (F : Fr g L h' m' := by k_asm) (hm : ∀ y, y ≠ x → m' y = m y := by (intro y hy; exact if_neg hy)) (N : News g L h' ((RL, listOf us'.toArray n') :: rest') := by k_asm) (hne : ∀ p ∈ rest', p.1 ≠ RL := by k_asm) (hs : ∀ p ∈ rest, p.1 ≠ RL → p ∈ rest' := by first | k_asm | solve_by_elim (maxDepth := 12)) (R : RowsIn (LP g rest') us' rs := by walk_at "Mine.R0") :
    TurnR g L RL x m rs rest s₁ .next { s₁ with heap := h', toks := tk' } := ⟨.inl rfl, mk6 h' tk' m' us' n' rest' ⟨rfl, F, hm, N, hne, hs, R⟩⟩

theorem LP.filter {h : Heap} {L I : Addr} {rest : List (Addr × Obj)} (N : News g L h rest) {o : Obj} (ho : h.get? I = some o) (hc : o.cls ≠ .type "tuple") : ∀ a vs, LP g rest a vs → LP g (rest.filter fun p => decide (p.1 ≠ I)) a vs
  | _, _, .inl y => .inl y
  | a, _, .inr ⟨o', hm, c, d⟩ => .inr ⟨o', List.mem_filter.mpr ⟨hm, decide_eq_true fun (q : a = I) => by
      have := (N _ hm).1
      dsimp only at this
      rw [q, ho] at this
      cases this
      exact hc c⟩, c, d⟩

theorem fr_known {g : Heap} {x : Str} {h : Heap} {L : Addr} {m m' : Str → Option Value} (F : Fr g L h m') (hm : ∀ y, y ≠ x → m' y = m y) : Fr g L h (fun y => if y = x then m' x else m y) := by
  have e : (fun y => if y = x then m' x else m y) = m' := by
    funext y
    by_cases q : y = x
    · rw [if_pos q, q]
    · rw [if_neg q, hm y q]
  rw [e]; exact F
theorem iter_rows {m : Str → Option Value} {us : List Value} {n : Nat} {rs : List Row} {rest : List (Addr × Obj)} {RL ax : Addr} {items : Array Value} (em : Nat → List Row)
    (hh : A.handled = none) (ht : IsTup g ax items) (F : Fr g env.locals s.heap m) (N : News g env.locals s.heap ((RL, listOf us.toArray n) :: rest)) (hne : ∀ p ∈ rest, p.1 ≠ RL) (R : RowsIn (LP g rest) us rs)
    (turn : ∀ i v h tk us n rest', i < items.size → items[i]? = some v → (∀ p ∈ rest, p.1 ≠ RL → p ∈ rest') → (∀ p ∈ rest', p.1 ≠ RL) → Fr g env.locals h (fun y => if y = x then some v else m y) → News g env.locals h ((RL, listOf us.toArray n) :: rest') → RowsIn (LP g rest') us (rs ++ pre em i) →
      wpAny (MD w) A (execs body env) (fun f s' => TurnR g env.locals RL x m (rs ++ pre em (i + 1)) rest' s f s') E { s with heap := h, toks := tk })
    (done : ∀ h tk u us n rest', (∀ p ∈ rest, p.1 ≠ RL → p ∈ rest') → (∀ p ∈ rest', p.1 ≠ RL) → Fr g env.locals h (fun y => if y = x then u else m y) → News g env.locals h ((RL, listOf us.toArray n) :: rest') → RowsIn (LP g rest') us (rs ++ pre em items.size) →
      Q .next { s with heap := h, toks := tk }) :
    wpAny (MD w) A (pyIter (.ref ax)) (fun it s₂ => Looping w A g env x body Q E it s₂) E s := by
  have hts := F.tup ht
  have hlt : ax < g.objs.size := by obtain ⟨o, ho, _⟩ := ht; exact Heap.lt_size ho
  have hne' : ax ≠ s.heap.objs.size := Nat.ne_of_lt (Nat.lt_trans (Nat.lt_of_lt_of_le hlt F.above) F.ns.lt)
  refine wpAny_pyIter_tuple hts ?_
  have W := Walks.tuple (prog := PG) (w := w) hh s.heap.objs.size ax hne' items
  let J : Nat → (Str → Option Value) → List (Addr × Obj) → Prop := fun i m₁ nw => ∃ us n rest', nw = (RL, listOf us.toArray n) :: rest' ∧ (∀ p ∈ rest', p.1 ≠ RL) ∧ (∀ p ∈ rest, p.1 ≠ RL → p ∈ rest') ∧ RowsIn (LP g rest') us (rs ++ pre em i) ∧ ∀ y, y ≠ x → m₁ y = m y
  refine ⟨_, _, _, items.size, _, _, m, (RL, listOf us.toArray n) :: rest, J, rfl, W, ?_, ?_, ?_, ⟨⟨_, Heap.get?_push_size _ rfl, rfl, rfl⟩, IsTup.push hts _⟩, F.push _, (fun p hp => ⟨Heap.get?_push_of_some _ (N p hp).1, (N p hp).2⟩), ⟨us, n, rest, rfl, hne, fun _ hp _ => hp, ?_, fun _ _ => rfl⟩, ?_, ?_⟩
  · intro hm
    rcases List.mem_cons.mp hm with e | hm
    · exact absurd F.ns.lt (e ▸ Nat.lt_irrefl _)
    · exact absurd (Nat.lt_of_lt_of_le hlt F.above) ((List.mem_singleton.mp hm) ▸ Nat.lt_irrefl _)
  · intro b hb
    rw [List.mem_singleton.mp hb]
    exact next_is_new F
  · intro p hp hI
    exact absurd (Heap.lt_size (N p hp).1) ((List.mem_singleton.mp hI) ▸ Nat.lt_irrefl _)
  · show RowsIn _ _ (rs ++ [])
    rw [List.append_nil]; exact R
  · rintro i v m₁ nw s₁ own ⟨hh', tk', rfl⟩ hin hP hQ
    refine ex3 hQ ?_
    clear hQ
    intro us₁ n₁ rest₁
    intro hII
    refine an5 hII ?_
    clear hII
    intro eqO1
    subst eqO1
    intro hne₁ hsub₁ R₁ hJ
    rintro hoff hown hownI hall ⟨hit, _⟩ F₁ N₁
    have hIlt : (RL, listOf us₁.toArray n₁) ∈ own ++ ((RL, listOf us₁.toArray n₁) :: rest₁) := List.mem_append_right _ (.head _)
    have oRL := (N₁ _ hIlt).1
    have hIRL : s.heap.objs.size ≠ RL := fun q => by
      obtain ⟨o, ho, hc, _⟩ := hit
      rw [q] at ho
      rw [show hh'.get? RL = some _ from oRL] at ho
      cases ho
      exact absurd (Value.type.inj hc) (by decide)
    have hIL : ∀ p ∈ own, p.1 ≠ RL := fun p hp q => by
      have h1 := hownI p hp
      rcases List.mem_cons.mp (hown p hp) with e | e
      · exact hIRL (e ▸ q)
      · rw [List.mem_singleton.mp e] at q
        obtain ⟨o, ho, _⟩ := ht
        have := (N₁ _ hIlt).2.2
        dsimp only at this
        rw [← q, ho] at this; cases this
    have e : (fun y => if y = x then some v else m₁ y) = fun y => if y = x then some v else m y := by
      funext y
      by_cases h1 : y = x
      · simp [h1]
      · simp only [if_neg h1]; exact hJ y h1
    rw [e] at F₁
    have N₂ : News g env.locals hh' ((RL, listOf us₁.toArray n₁) :: (own ++ rest₁)) := News.sub N₁ fun p hp => by
      rcases List.mem_cons.mp hp with rfl | hp
      · exact hIlt
      · rcases List.mem_append.mp hp with hp | hp
        · exact List.mem_append_left _ hp
        · exact List.mem_append_right _ (.tail _ hp)
    refine wpAny_mono (turn i v hh' tk' us₁ n₁ (own ++ rest₁) hin hP (fun p hp hr => List.mem_append_right _ (hsub₁ p hp hr)) (fun p hp => (List.mem_append.mp hp).elim (hIL p) (hne₁ p)) F₁ N₂ (R₁.mono (LP.sub fun p hp => List.mem_append_right _ hp))) (fun f s₂ p => ?_) fun _ _ e => e
    have fin : TurnR g env.locals RL x m (rs ++ pre em (i + 1)) (own ++ rest₁) s .next s₂ → LoopStepU g env.locals [s.heap.objs.size] own (J (i + 1)) { s with heap := hh', toks := tk' } .next s₂ := by
      intro hII
      obtain ⟨_, h', tk, m', us', n', rest', rfl, F', hm', N', hne₂, hs₂, R₂⟩ := hII
      have hI := hown
      have hiton : ∀ p ∈ own, p ∈ rest' := fun p hp => hs₂ p (List.mem_append_left _ hp) (hIL p hp)
      obtain ⟨oi, hoi, hci, _⟩ := hit
      have hIown : (s.heap.objs.size, oi) ∈ own := hall _ (.head _) (next_is_new F) _ hoi
      have hI' : h'.get? s.heap.objs.size = some oi := (N' _ (.tail _ (hiton _ hIown))).1
      have hcne : oi.cls ≠ .type "tuple" := fun q => by rw [hci] at q; exact absurd (Value.type.inj q) (by decide)
      refine ⟨rfl, h', tk, m', (RL, listOf us'.toArray n') :: (rest'.filter fun p => decide (p.1 ≠ s.heap.objs.size)), rfl, F', fun p hp => ?_, fun p hp q => ?_, us', n', _, rfl, fun p hp => hne₂ p (List.mem_filter.mp hp).1, fun p hp hr => ?_, R₂.mono (LP.filter (News.sub N' fun p hp => .tail _ hp) hI' hcne), hm'⟩
      · rcases List.mem_append.mp hp with hp | hp
        · exact N' p (.tail _ (hiton p hp))
        · rcases List.mem_cons.mp hp with rfl | hp
          · exact N' _ (.head _)
          · exact N' p (.tail _ (List.mem_filter.mp hp).1)
      · rcases List.mem_cons.mp hp with rfl | hp
        · exact hIRL (List.mem_singleton.mp q).symm
        · exact of_decide_eq_true (List.mem_filter.mp hp).2 (List.mem_singleton.mp q)
      · refine List.mem_filter.mpr ⟨hs₂ p (List.mem_append_right _ (hsub₁ p hp hr)) hr, decide_eq_true fun q => ?_⟩
        have h3 := hsub₁ p hp hr
        exact hoff p (.tail _ h3) (by rw [q]; exact .head _)
    obtain ⟨hf, r⟩ := id p
    rcases hf with rfl | rfl
    · exact .next (fin ⟨.inl rfl, r⟩)
    · exact .cont (fin ⟨.inl rfl, r⟩)
  · intro h' tk m' nw F' N' _ hII
    refine ex3 hII ?_
    clear hII
    intro us' n' rest'
    intro hII
    refine an5 hII ?_
    clear hII
    intro eqO1
    subst eqO1
    intro hne' hsub' R' hJ
    exact done h' tk (m' x) us' n' rest' hsub' hne' (fr_known F' hJ) N' R'
end

theorem pre_mono (em : Nat → List Row) {i j : Nat} (h : i ≤ j) : (pre em i).length ≤ (pre em j).length := by
  induction h with
  | refl => exact Nat.le_refl _
  | step _ ih => rw [pre_succ, List.length_append]; omega
/-- the rows of a list, item by item -/
noncomputable def at_ {α : Type} (ds : List α) (f : α → List Row) (i : Nat) : List Row := match ds[i]? with
  | some d => f d
  | none => []
theorem pre_at {α : Type} (f : α → List Row) (ds : List α) : pre (at_ ds f) ds.length = ds.flatMap f := by
  have h : ∀ k, k ≤ ds.length → pre (at_ ds f) k = (ds.take k).flatMap f := by
    intro k
    induction k with
    | zero => intro _; rfl
    | succ k ih =>
      intro hk
      rw [pre_succ, ih (by omega), List.take_succ, List.flatMap_append]
      congr 1
      unfold at_
      have : k < ds.length := by omega
      simp [this]
  rw [h _ (Nat.le_refl _), List.take_length]
theorem pre_lim {α : Type} (f : α → List Row) (ds : List α) {rs : List Row} {i : Nat} {d : α} (hd : ds[i]? = some d) (h : rs.length + (ds.flatMap f).length ≤ LIM) :
    (rs ++ pre (at_ ds f) i).length + (f d).length ≤ LIM ∧ rs ++ pre (at_ ds f) (i + 1) = (rs ++ pre (at_ ds f) i) ++ f d := by
  have h1 : at_ ds f i = f d := by unfold at_; rw [hd]
  have hlt : i < ds.length := by
    rcases Nat.lt_or_ge i ds.length with q | q
    · exact q
    · rw [List.getElem?_eq_none q] at hd; cases hd
  have h2 := pre_mono (at_ ds f) (show i + 1 ≤ ds.length from hlt)
  rw [pre_at, pre_succ, List.length_append, h1] at h2
  rw [pre_succ, h1, List.length_append, List.append_assoc]
  exact ⟨by omega, rfl⟩


theorem words_9 : True := by
  k_with "m:exec For" => ((k_here; k_dflt (refine for_start (by k_asm) (by exact rfl) (by exact rfl) ?_ (by intro _; exact rfl) (by passes_own))))
  k_with "m:Mine.turn" => (((try k_unfold); (try dsimp only); exact TurnR.intro))
  k_with "m:Mine.R0" => (first | k_asm | (walk_at "Mine.app"; k_asm))
  exact trivial
noncomputable def ListAt {α : Type} (P : Value → α → Prop) : List Value → List α → Prop
  | [], [] => True
  | v :: r, d :: r' => P v d ∧ ListAt P r r'
  | _, _ => False
theorem ListAt.mono {α : Type} {P P' : Value → α → Prop} (h : ∀ v d, P v d → P' v d) : ∀ {vs : List Value} {ds : List α}, ListAt P vs ds → ListAt P' vs ds
  | [], [], _ => trivial
  | _ :: _, _ :: _, ⟨a, b⟩ => ⟨h _ _ a, ListAt.mono h b⟩
  | [], _ :: _, x => x.elim
  | _ :: _, [], x => x.elim
theorem ListAt.length {α : Type} {P : Value → α → Prop} : ∀ {vs : List Value} {ds : List α}, ListAt P vs ds → vs.length = ds.length
  | [], [], _ => rfl
  | _ :: _, _ :: _, ⟨_, b⟩ => congrArg (· + 1) (ListAt.length b)
  | [], _ :: _, x => x.elim
  | _ :: _, [], x => x.elim
theorem ListAt.get {α : Type} {P : Value → α → Prop} : ∀ {vs : List Value} {ds : List α}, ListAt P vs ds → ∀ {i : Nat} {v : Value}, vs[i]? = some v → ∃ d, ds[i]? = some d ∧ P v d
  | _ :: _, _ :: _, ⟨a, _⟩, 0, _, e => by cases e; exact ⟨_, rfl, a⟩
  | _ :: _, _ :: _, ⟨_, b⟩, i + 1, _, e => ListAt.get b (i := i) e
  | [], [], _, _, _, e => by simp at e
  | [], _ :: _, x, _, _, _ => x.elim
  | _ :: _, [], x, _, _, _ => x.elim


theorem words_10 : True := by
  k_with "m:call ref" => ((k_here; k_dflt (refine' EmitsAt.useA (check_expr_spec (by k_asm) (by k_asm) (by k_asm)) ?_); intros))
  exact trivial
theorem check_each_spec {w : World} {R RL ax : Addr} {g₀ : Heap} {tv : Value} {T : List Sc} {items : List Value} {ds : List Idn} (hrep : IsRep g₀ R RL) (htab : IsTab w g₀ tv T) (ht : IsTup g₀ ax items.toArray) (hids : ListAt (IdAt (IsTup g₀)) items ds) :
    EmitsAt w 126 [.ref R, tv, .ref ax] 30 300 g₀ RL (ds.flatMap (exprRows T)) := by
  walk_at "Mine.emits"
  intro mean mg mb dp un gd outer A₀ base g L h₁ s us n rs Qe B F X Tp hd hu N R' hlim hg
  have hrep := hrep.keeps hg
  have htab := htab.keeps hg
  have ht := ht.keeps hg
  have hids := hids.mono fun v d => IdAt.mono (tup_keeps hg)
  have hN0 : ∀ p ∈ ([] : List (Addr × Obj)), p.1 ≠ RL := fun p hp => (List.not_mem_nil hp).elim
  dsimp only [fnOf, List.map, List.zip, List.zipWith, List.reverse, List.reverseAux, List.append, HAppend.hAppend, Append.append] at F
  refine fr_let F ?_
  clear F
  intro m0 F
  walk_at "Mine.in"
  refine iter_rows (at_ ds (exprRows T)) rfl ht (by k_asm) (by k_asm) hN0 (by k_asm) (fun i v h tk us n rest' hi hv hsub hne F' N' R' => ?_) (fun h tk u us n rest' hsub hne F' N' R' => ?_)
  · refine hide_of ?_
    intro Gh
    obtain ⟨d, hd', hid⟩ := hids.get (i := i) (v := v) (by simpa using hv)
    obtain ⟨hl, he⟩ := pre_lim (exprRows T) ds hd' hlim
    k_unfold
    rw [he]
    walk_at "Mine.in"
    all_goals walk_at "Mine.turn"
  · rw [show items.toArray.size = ds.length from by simpa using hids.length, pre_at] at R'
    walk_at "Mine.in"
    all_goals walk_at "Mine.done"

noncomputable def OptAt (T : TP) (v : Value) : Option Idn → Prop
  | none => v = .none
  | some d => IdAt T v d
theorem OptAt.mono {T T' : TP} (h : ∀ a vs, T a vs → T' a vs) {v : Value} : ∀ {o : Option Idn}, OptAt T v o → OptAt T' v o
  | none, x => x
  | some _, x => IdAt.mono h x
noncomputable def optRows (T : List Sc) : Option Idn → List Row
  | none => []
  | some d => exprRows T d
noncomputable def ExtAt (T : TP) (v : Value) : Option (Idn × Idn) → Prop
  | none => v = .none
  | some (x, y) => ∃ a u1 u2, v = .ref a ∧ T a #[u1, u2] ∧ IdAt T u1 x ∧ IdAt T u2 y
theorem ExtAt.mono {T T' : TP} (h : ∀ a vs, T a vs → T' a vs) {v : Value} : ∀ {o : Option (Idn × Idn)}, ExtAt T v o → ExtAt T' v o
  | none, x => x
  | some (_, _), x => ex3 x fun a u1 u2 y => mk3 a u1 u2 ⟨y.1, h _ _ y.2.1, y.2.2.1.mono h, y.2.2.2.mono h⟩
noncomputable def extRows (T : List Sc) : Option (Idn × Idn) → List Row
  | none => []
  | some (x, y) => [x, y].flatMap (exprRows T)

theorem check_optional_spec {w : World} {R RL : Addr} {g₀ : Heap} {tv ev : Value} {T : List Sc} {o : Option Idn} (hrep : IsRep g₀ R RL) (htab : IsTab w g₀ tv T) (ho : OptAt (IsTup g₀) ev o) :
    EmitsAt w 133 [.ref R, tv, ev] 30 300 g₀ RL (optRows T o) := by
  walk_at "Mine.emits"
  intro mean mg mb dp un gd outer A₀ base g L h₁ s us n rs Qe B F X Tp hd hu N R' hlim hg
  have hrep := hrep.keeps hg
  have htab := htab.keeps hg
  have ho := ho.mono (tup_keeps hg)
  dsimp only [fnOf, List.map, List.zip, List.zipWith, List.reverse, List.reverseAux, List.append, HAppend.hAppend, Append.append] at F
  refine fr_let F ?_
  clear F
  intro m0 F
  cases o with
  | none =>
    have e : ev = .none := ho
    subst e
    unfold optRows at hlim ⊢
    walk_at "Mine.in"
    all_goals walk_at "Mine.done"
  | some d =>
    have hid : IdAt (IsTup g) ev d := ho
    have hid' := hid
    refine hide_of ?_
    intro Gh
    refine ex4 hid' ?_
    clear hid'
    intro ea u1 u2 u3
    intro hII
    refine an2 hII ?_
    clear hII
    intro e hE
    k_unfold
    subst e
    unfold optRows at hlim ⊢
    walk_at "Mine.in"
    all_goals walk_at "Mine.done"


theorem words_11 : True := by
  k_with "m:call ref" => ((k_here; k_dflt (refine' EmitsAt.useA (check_each_spec (by k_asm) (by k_asm) (by k_asm) (by k_asm)) ?_); intros))
  exact trivial
theorem check_range_spec {w : World} {R RL : Addr} {g₀ : Heap} {tv ev : Value} {T : List Sc} {o : Option (Idn × Idn)} (hrep : IsRep g₀ R RL) (htab : IsTab w g₀ tv T) (ho : ExtAt (IsTup g₀) ev o) :
    EmitsAt w 140 [.ref R, tv, ev] 40 400 g₀ RL (extRows T o) := by
  walk_at "Mine.emits"
  intro mean mg mb dp un gd outer A₀ base g L h₁ s us n rs Qe B F X Tp hd hu N R' hlim hg
  have hrep := hrep.keeps hg
  have htab := htab.keeps hg
  have ho := ho.mono (tup_keeps hg)
  dsimp only [fnOf, List.map, List.zip, List.zipWith, List.reverse, List.reverseAux, List.append, HAppend.hAppend, Append.append] at F
  refine fr_let F ?_
  clear F
  intro m0 F
  cases o with
  | none =>
    have e : ev = .none := ho
    subst e
    unfold extRows at hlim ⊢
    walk_at "Mine.in"
    all_goals walk_at "Mine.done"
  | some d =>
    refine hide_of ?_
    intro Gh
    obtain ⟨x, y⟩ := d
    refine ex3 ho ?_
    clear ho
    intro ea u1 u2
    intro hII
    refine an4 hII ?_
    clear hII
    intro e hE h1 h2
    k_unfold
    subst e
    unfold extRows at hlim ⊢
    have hE' : IsTup g ea (List.toArray [u1, u2]) := hE
    have hids : ListAt (IdAt (IsTup g)) [u1, u2] [x, y] := ⟨h1, h2, trivial⟩
    walk_at "Mine.in"
    all_goals walk_at "Mine.done"


theorem words_12 : True := by
  k_with "m:call ref" => ((k_here; k_dflt (refine' EmitsAt.useA (check_optional_spec (by k_asm) (by k_asm) (by k_asm)) ?_); intros))
  k_with "m:call ref" => ((k_here; k_dflt (refine' EmitsAt.useA (check_range_spec (by k_asm) (by k_asm) (by k_asm)) ?_); intros))
  exact trivial
noncomputable abbrev sVar : Str := Str.ofString "var"
noncomputable abbrev sNet : Str := Str.ofString "net"
noncomputable abbrev sBlock : Str := Str.ofString "block"
/-- the entries that this law's tables hold -/
noncomputable def GoodE (e : Ent) : Prop := (e.what = Str.ofString "var" ∧ ∃ d p q, e.inf = .sig d p q) ∨ (e.what = Str.ofString "net" ∧ ∃ p q, e.inf = .sig (Str.ofString "") p q) ∨ (e.what = Str.ofString "block" ∧ ∃ i, e.inf = .num i)
noncomputable def GoodT (T : List Sc) : Prop := ∀ k e, findT T k = some e → GoodE e
noncomputable def targetRows (T : List Sc) (d : Idn) : List Row := match findT T d.name with
  | none => [⟨Str.ofString "undeclared", d.pos, d.name⟩]
  | some e => if e.what = Str.ofString "var" then [] else if e.what = Str.ofString "net" then [⟨Str.ofString "assign_to_net", d.pos, d.name⟩] else [⟨Str.ofString "not_assignable", d.pos, d.name⟩]

theorem check_target_name_spec {w : World} {R RL : Addr} {g₀ : Heap} {tv : Value} {T : List Sc} (hrep : IsRep g₀ R RL) (htab : IsTab w g₀ tv T) (hgood : GoodT T) (i : Int) (k : Str) (t1 t2 : Tok) :
    EmitsAt w 177 [.ref R, tv, .int i t1, .str k t2, .bool true, .bool false] 20 200 g₀ RL (targetRows T ⟨i, k⟩) := by
  walk_at "Mine.emits"
  intro mean mg mb dp un gd outer A₀ base g L h₁ s us n rs Qe B F X Tp hd hu N R' hlim hg
  have hrep := hrep.keeps hg
  have htab := htab.keeps hg
  have hrep' := hrep
  refine hide_of ?_
  intro Gh
  refine hrep'.open ?_
  intro dx nn k1 k2 k3 w1 w2 w3 v1 v2 hRo hRd
  k_unfold
  dsimp only [fnOf, List.map, List.zip, List.zipWith, List.reverse, List.reverseAux, List.append, HAppend.hAppend, Append.append] at F
  refine fr_let F ?_
  clear F
  intro m0 F
  cases hq : findT T k with
  | none =>
    have e : targetRows T ⟨i, k⟩ = [⟨Str.ofString "undeclared", i, k⟩] := by unfold targetRows; rw [hq]
    rw [e] at hlim ⊢
    walk_at "Mine.in"
    all_goals walk_at "Mine.done"
  | some en =>
    refine hide_of ?_
    intro Gh
    obtain ⟨wh, ip, inf⟩ := en
    k_unfold
    rcases hgood k _ hq with ⟨rfl, d, p, q, rfl⟩ | ⟨rfl, p, q, rfl⟩ | ⟨rfl, j, rfl⟩
    · have e : targetRows T ⟨i, k⟩ = [] := by unfold targetRows; rw [hq]; rfl
      rw [e] at hlim ⊢
      walk_at "Mine.in"
      all_goals walk_at "Mine.done"
    · have e : targetRows T ⟨i, k⟩ = [⟨Str.ofString "assign_to_net", i, k⟩] := by unfold targetRows; rw [hq]; rfl
      rw [e] at hlim ⊢
      walk_at "Mine.in"
      all_goals walk_at "Mine.done"
    · have e : targetRows T ⟨i, k⟩ = [⟨Str.ofString "not_assignable", i, k⟩] := by unfold targetRows; rw [hq]; rfl
      rw [e] at hlim ⊢
      walk_at "Mine.in"
      all_goals walk_at "Mine.done"


theorem words_13 : True := by
  k_with "m:call ref" => ((k_here; k_dflt (refine' EmitsAt.useA (check_target_name_spec (by k_asm) (by k_asm) (by k_asm) _ _ _ _) ?_); intros))
  exact trivial
theorem check_target_spec {w : World} {R RL : Addr} {g₀ : Heap} {tv lv : Value} {T : List Sc} {d : Idn} (hrep : IsRep g₀ R RL) (htab : IsTab w g₀ tv T) (hgood : GoodT T) (hid : IdAt (IsTup g₀) lv d) :
    EmitsAt w 169 [.ref R, tv, lv, .bool true] 30 300 g₀ RL (targetRows T d) := by
  walk_at "Mine.emits"
  intro mean mg mb dp un gd outer A₀ base g L h₁ s us n rs Qe B F X Tp hd hu N R' hlim hg
  have hrep := hrep.keeps hg
  have htab := htab.keeps hg
  refine ex4 (hid.mono (tup_keeps hg)) ?_
  intro ea u1 u2 u3
  intro hII
  refine an2 hII ?_
  clear hII
  intro eqO1
  subst eqO1
  intro hE
  refine hide_of ?_
  intro Gh
  obtain ⟨di, dn⟩ := d
  k_unfold
  dsimp only at hE
  dsimp only [fnOf, List.map, List.zip, List.zipWith, List.reverse, List.reverseAux, List.append, HAppend.hAppend, Append.append] at F
  refine fr_let F ?_
  clear F
  intro m0 F
  walk_at "Mine.in"
  all_goals walk_at "Mine.done"

inductive Decl where
  | port (pos : Int) (dir : Str) (ext : Option (Idn × Idn)) (name : Str)
  | var (pos : Int) (ext : Option (Idn × Idn)) (name : Str) (first : Option Idn)
noncomputable def DeclAt (T : TP) (v : Value) : Decl → Prop
  | .port i dir ext nm => ∃ a t1 t2 t3 t4 ev, v = .ref a ∧ T a #[.str (Str.ofString "port") t1, .int i t2, .str dir t3, .bool false, ev, .str nm t4] ∧ ExtAt T ev ext
  | .var i ext nm fo => ∃ a e0 t1 t2 t3 t4 ev fv, v = .ref a ∧ T a #[.str (Str.ofString "var") t1, .int i t2, .str (Str.ofString "reg") t3, .bool false, ev, .str nm t4, .ref e0, fv] ∧ T e0 #[] ∧ ExtAt T ev ext ∧ OptAt T fv fo
theorem DeclAt.mono {T T' : TP} (h : ∀ a vs, T a vs → T' a vs) {v : Value} : ∀ {d : Decl}, DeclAt T v d → DeclAt T' v d := by
  intro d x
  cases d with
  | port i dir ext nm => exact ex6 x fun a t1 t2 t3 t4 ev y => mk6 a t1 t2 t3 t4 ev ⟨y.1, h _ _ y.2.1, y.2.2.mono h⟩
  | var i ext nm fo => exact ex8 x fun a e0 t1 t2 t3 t4 ev fv y => mk8 a e0 t1 t2 t3 t4 ev fv ⟨y.1, h _ _ y.2.1, h _ _ y.2.2.1, y.2.2.2.1.mono h, y.2.2.2.2.mono h⟩
noncomputable def declRows (T : List Sc) : Decl → List Row
  | .port _ _ ext _ => extRows T ext
  | .var _ ext _ fo => extRows T ext ++ optRows T fo
theorem pre_nil (i : Nat) : pre (fun _ => []) i = [] := by
  unfold pre
  simp

theorem check_declaration_spec {w : World} {R RL : Addr} {g₀ : Heap} {tv ev : Value} {T : List Sc} {d : Decl} (hrep : IsRep g₀ R RL) (htab : IsTab w g₀ tv T) (hdec : DeclAt (IsTup g₀) ev d) :
    EmitsAt w 161 [.ref R, tv, ev] 50 500 g₀ RL (declRows T d) := by
  walk_at "Mine.emits"
  intro mean mg mb dp un gd outer A₀ base g L h₁ s us n rs Qe B F X Tp hd hu N R' hlim hg
  have hrep := hrep.keeps hg
  have htab := htab.keeps hg
  have hdec := hdec.mono (tup_keeps hg)
  dsimp only [fnOf, List.map, List.zip, List.zipWith, List.reverse, List.reverseAux, List.append, HAppend.hAppend, Append.append] at F
  refine fr_let F ?_
  clear F
  intro m0 F
  cases d with
  | port i dir ext nm =>
    refine hide_of ?_
    intro Gh
    refine ex6 hdec ?_
    clear hdec
    intro ea t1 t2 t3 t4 xv
    intro hII
    refine an3 hII ?_
    clear hII
    intro e hE hx
    k_unfold
    subst e
    unfold declRows at hlim ⊢
    walk_at "Mine.in"
    all_goals walk_at "Mine.done"
  | var i ext nm fo =>
    refine hide_of ?_
    intro Gh
    refine ex8 hdec ?_
    clear hdec
    intro ea e0 t1 t2 t3 t4 xv fv
    intro hII
    refine an5 hII ?_
    clear hII
    intro e hE hE0 hx hf
    k_unfold
    subst e
    unfold declRows at hlim ⊢
    walk_at "Mine.in"
    rename_i hne _ _
    refine iter_rows (fun _ => []) rfl hE0 (by k_asm) (by k_asm) (by k_asm) (by k_asm) (fun i v h tk us n rest' hi hv hsub hne F' N' R' => absurd hi (Nat.not_lt_zero _)) (fun h tk u us n rest' hsub hne F' N' R' => ?_)
    rw [pre_nil, List.append_nil] at R'
    walk_at "Mine.in"
    all_goals walk_at "Mine.done"

noncomputable def GoodSc (es : Sc) : Prop := ∀ k e, look es k = some e → GoodE e

/-- the table's own object -/
noncomputable def IsTabO (h : Heap) (x ED : Addr) (pv : Value) : Prop := ∃ dx k1 k2 t1 t2 n, h.get? x = some (instObj 59 dx) ∧
  h.get? dx = some (dictOf [⟨k1, .str (Str.ofString "parent") t1, pv⟩, ⟨k2, .str (Str.ofString "entries") t2, .ref ED⟩] n)
theorem IsTabO.open {h : Heap} {x ED : Addr} {pv : Value} {P : Prop} (y : IsTabO h x ED pv) (k : ∀ dx k1 k2 t1 t2 n, h.get? x = some (instObj 59 dx) → h.get? dx = some (dictOf [⟨k1, .str (Str.ofString "parent") t1, pv⟩, ⟨k2, .str (Str.ofString "entries") t2, .ref ED⟩] n) → P) : P := by
  refine ex6 y ?_
  clear y
  intro dx k1 k2 t1 t2 n
  intro hII
  refine an2 hII ?_
  clear hII
  intro a b
  exact k dx k1 k2 t1 t2 n a b
theorem IsTabO.keeps {h h' : Heap} {x ED : Addr} {pv : Value} (k : ∀ b o, h.get? b = some o → h'.get? b = some o) (y : IsTabO h x ED pv) : IsTabO h' x ED pv := ex6 y fun a b c d e f z => mk6 a b c d e f ⟨k _ _ z.1, k _ _ z.2⟩

/-- a call that notes rows and turns a table's entries, and hands back None -/
noncomputable def DeclsAt (w : World) (f : Addr) (vs : List Value) (dz uz : Nat) (g₀ : Heap) (RL ED : Addr) (act : Sc → List Row × Sc) : Prop :=
  ∀ (mean : ExcName → Option Value) (mg mb : Str → Option Value) (dp un : Nat) (gd : Option (List Code)) (cn : Str) (cs : Scope) (a : Addr) (ccd : Value) (cl : List (Str × Addr)) (outer : List Env) (A₀ : Around) (base h₀ : Heap) (L : Addr) (m : Str → Option Value) (s : Shared)
    (us : List Value) (n : Nat) (rs : List Row) (o : Obj) (kvs : List (Str × Value)) (es : Sc) (rest : List (Addr × Obj)) (Q E : Value → Shared → Prop),
    Below A₀ base outer h₀ → Fr h₀ L s.heap m → (hd.heap_1 w.params).In h₀ → Top PV LS mean mg mb h₀ → cs.kind = .function → dp + dz < recursionLimit → un + uz < cLine →
    News h₀ L s.heap ((RL, listOf us.toArray n) :: (ED, o) :: rest) → RowsIn (LP h₀ rest) us rs → o.IsDictOf (PySem.strKind PG w) kvs → ScIn (LP h₀ rest) kvs es → GoodSc es → rs.length + (act es).1.length ≤ LIM → (act es).2.length ≤ LIM →
    (∀ b o, g₀.get? b = some o → s.heap.get? b = some o) → g₀.get? RL = none → g₀.get? ED = none →
    (∀ us' n' o' kvs' rest' h' tk', Fr h₀ L h' m → News h₀ L h' ((RL, listOf us'.toArray n') :: (ED, o') :: rest') → (∀ p ∈ rest', p.1 ≠ RL ∧ p.1 ≠ ED) → (∀ p ∈ rest, p.1 ≠ RL → p.1 ≠ ED → p ∈ rest') → RowsIn (LP h₀ rest') us' (rs ++ (act es).1) →
      o'.IsDictOf (PySem.strKind PG w) kvs' → ScIn (LP h₀ rest') kvs' (act es).2 → Q .none { s with heap := h', toks := tk' }) →
    wpAny (MD w) (AR dp un gd cn cs L a ccd cl outer) (call (.ref f) vs) Q E s

noncomputable def Decld (w : World) (g : Heap) (RL ED : Addr) (rs : List Row) (es : Sc) (s₀ : Shared) (v : Value) (s' : Shared) : Prop :=
  v = .none ∧ ∃ L' m' us' n' o' kvs' rest' h' tk', s' = { s₀ with heap := h', toks := tk' } ∧ Fr g L' h' m' ∧ News g L' h' ((RL, listOf us'.toArray n') :: (ED, o') :: rest') ∧ RowsIn (LP g rest') us' rs ∧ o'.IsDictOf (PySem.strKind PG w) kvs' ∧ ScIn (LP g rest') kvs' es
theorem Decld.intro {w : World} {g : Heap} {RL ED L' : Addr} {rs : List Row} {es : Sc} {s₀ : Shared} {m' : Str → Option Value} {us' : List Value} {n' : Nat} {o' : Obj} {kvs' : List (Str × Value)} {rest' : List (Addr × Obj)} {h' : Heap} {tk' : Nat} (F : Fr g L' h' m' := by k_asm)
    (N : News g L' h' ((RL, listOf us'.toArray n') :: (ED, o') :: rest') := by walk_at "Mine.N") (R : RowsIn (LP g rest') us' rs := by walk_at "Mine.RR") (D : o'.IsDictOf (PySem.strKind PG w) kvs' := by k_asm) (S : ScIn (LP g rest') kvs' es := by walk_at "Mine.S") :
    Decld w g RL ED rs es s₀ .none { s₀ with heap := h', toks := tk' } := ⟨rfl, mk9 L' m' us' n' o' kvs' rest' h' tk' ⟨rfl, F, N, R, D, S⟩⟩
theorem dict_cls {w : World} {o : Obj} {kvs : List (Str × Value)} (h : o.IsDictOf (PySem.strKind PG w) kvs) : o.cls = .type "dict" := by
  obtain ⟨_, _, c, _⟩ := h
  exact c.1
theorem dict_ne {w : World} {o : Obj} {kvs : List (Str × Value)} (h : o.IsDictOf (PySem.strKind PG w) kvs) : ¬ (o.cls = .type "tuple") := fun q => by
  rw [dict_cls h] at q
  exact absurd (Value.type.inj q) (by decide)

section
variable {w : World} {f : Addr} {vs : List Value} {dz uz : Nat} {g₀ : Heap} {RL ED : Addr} {act : Sc → List Row × Sc}

theorem decls_of {oc : Value} {od : Option Addr} {osl : Array (Option Value)} {name qual : Str} {params : Arguments} {body : List Stmt} {scope : Scope} {dV kV doc pm cdv ct : Value} {an : Option Addr} {binds : List (Str × Value)}
    (ho : (hd.heap_1 w.params).lookup f = some ⟨oc, od, .func (fnOf name qual params body scope dV kV doc pm an cdv ct), osl⟩ := by k_is) (hcd : codeIn (hd.heap_1 w.params) cdv qual = true := by k_is)
    (hbind : ∀ s : Shared, (hd.heap_1 w.params).In s.heap → BindsTo s (fnOf name qual params body scope dV kV doc pm an cdv ct) ⟨vs, []⟩ binds := by (intro s hX; first | exact BindsTo.of_eq rfl | exact binds_K hX rfl (by k_is) rfl rfl rfl)) (hloc : (binds.all fun x => decide (scope.names.lookup x.1 = some .local)) = true := by rfl)
    (hcell : ∀ x ∈ scope.names, x.2 ≠ .cell := by decide) (hco : scope.isCoroutine = false := by rfl) (hgen : scope.isGenerator = false := by rfl) (hks : scope.kind = .function := by rfl)
    (h : ∀ (mean : ExcName → Option Value) (mg mb : Str → Option Value) (dp un : Nat) (gd : Option (List Code)) (outer : List Env) (A₀ : Around) (base g : Heap) (L : Addr) (h₁ : Heap) (s : Shared) (us : List Value) (n : Nat) (rs : List Row) (o : Obj) (kvs : List (Str × Value)) (es : Sc) (Qe : Value → Shared → Prop),
      Below A₀ base outer g → Fr g L h₁ (fun y => binds.reverse.lookup y) → (hd.heap_1 w.params).In g → Top PV LS mean mg mb g → dp + dz < recursionLimit + 1 → un + uz < cLine + 3 →
      News g L h₁ [(RL, listOf us.toArray n), (ED, o)] → RowsIn (LP g []) us rs → o.IsDictOf (PySem.strKind PG w) kvs → ScIn (LP g []) kvs es → GoodSc es → rs.length + (act es).1.length ≤ LIM → (act es).2.length ≤ LIM → RL ≠ ED → (∀ b o, g₀.get? b = some o → g.get? b = some o) →
      wpAny (MD w) (AR dp un gd qual scope L f cdv [] outer) (execs body (envOf qual scope L f cdv)) (fun fl s' => Decld w g RL ED (rs ++ (act es).1) (act es).2 s (match fl with | .ret v => v | _ => .none) s')
        (fun e s' => wpAny (MD w) (AR dp un gd qual scope L f cdv [] outer) (leaving (envOf qual scope L f cdv) e) (fun _ s'' => Qe e s'') (fun e' s'' => Qe e' s'') s') { s with heap := h₁ }) :
    DeclsAt w f vs dz uz g₀ RL ED act := by
  intro mean mg mb dp un gd cn cs a ccd cl outer A₀ base h₀ L m s us n rs o kvs es rest Q E B F X T hk hd hu N R hD hS hGood hlim hlim2 hg hRL hED ret
  have N1 : News h₀ L s.heap [(RL, listOf us.toArray n), (ED, o)] := News.sub N fun p hp => by
    rcases List.mem_cons.mp hp with rfl | hp
    · exact .head _
    · rw [List.mem_singleton.mp hp]; exact .tail _ (.head _)
  have hup := LP.up F (News.sub N fun p hp => .tail _ (.tail _ hp))
  have oR := (N1 _ (.head _)).1
  have oE := (N1 _ (.tail _ (.head _))).1
  dsimp only at oR oE
  have hne : RL ≠ ED := fun q => by
    rw [q, oE] at oR
    cases oR
    exact absurd (Value.type.inj (dict_cls hD)) (by decide)
  have hmem : ∀ b, b ∈ [(RL, listOf us.toArray n), (ED, o)].map (·.1) → b = RL ∨ b = ED := fun b hb => by
    rw [List.map_cons, List.map_cons, List.map_nil] at hb
    rcases List.mem_cons.mp hb with e | e
    · exact .inl e
    · exact .inr (List.mem_singleton.mp e)
  refine enterG B F X T hk N1 (by omega) ho hcd (hbind s (X.keeps F.keep)) (locs hloc) (fun g L' h₁ FG F' N' B' X' T' hide hshow hlt => ?_) hcell hco hgen hks
  have hRLg : ∀ a vs, IsTup s.heap a vs → IsTup g a vs := by
    rintro b xs ⟨ob, e, c, d⟩
    refine ⟨ob, hide b ob (fun q => ?_) e, c, d⟩
    rcases hmem b q with q | q
    · rw [q, oR] at e; cases e; exact absurd c tl_ne
    · rw [q, oE] at e; cases e; exact absurd c (dict_ne hD)
  have R' : RowsIn (LP g []) us rs := R.mono fun a vs x => .inl (hRLg _ _ (hup _ _ x))
  have S' : ScIn (LP g []) kvs es := hS.mono fun a vs x => .inl (hRLg _ _ (hup _ _ x))
  have bk : ∀ v s', Decld w g RL ED (rs ++ (act es).1) (act es).2 { s with toks := s.toks + binds.length } v s' → Back h₀ L m g Q v s' := by
    intro v s' hII
    obtain ⟨rfl, L₂, m₂, us', n', o', kvs', rest', h', tk', rfl, F₂, N₂, R₂, D₂, S₂⟩ := hII
    refine ⟨L₂, m₂, _, F₂, N₂, fun F₃ N₃ kp => ?_⟩
    dsimp only at F₃ N₃ kp ⊢
    have hup₂ := LP.up F₂ (News.sub N₂ fun p hp => .tail _ (.tail _ hp))
    have oR₂ := (N₃ _ (.head _)).1
    have oE₂ := (N₃ _ (.tail _ (.head _))).1
    dsimp only at oR₂ oE₂
    have hex : ∀ a vs, LP g rest' a vs → LP h₀ (snap h₀ L h' [RL, ED]) a vs := fun a vs x => by
      have ht := hup₂ _ _ x
      refine lp_snap F₃ ht fun q => ?_
      obtain ⟨ob, e, c, d⟩ := ht
      rcases List.mem_cons.mp q with q | q
      · rw [q, oR₂] at e; cases e; exact absurd c tl_ne
      · rw [List.mem_singleton.mp q, oE₂] at e; cases e; exact absurd c (dict_ne D₂)
    have Ns : News h₀ L h' ((RL, listOf us'.toArray n') :: (ED, o') :: snap h₀ L h' [RL, ED]) := fun p hp => by
      rcases List.mem_cons.mp hp with rfl | hp
      · exact N₃ _ (.head _)
      · rcases List.mem_cons.mp hp with rfl | hp
        · exact N₃ _ (.tail _ (.head _))
        · exact news_snap p hp
    refine ret us' n' o' kvs' (snap h₀ L h' [RL, ED]) h' tk' F₃ Ns (fun p hp => ⟨fun e => (of_snap hp).2.2.1 (by rw [e]; exact .head _), fun e => (of_snap hp).2.2.1 (by rw [e]; exact .tail _ (.head _))⟩) (fun p hp h1 h2 => ?_) (R₂.mono hex) D₂ (S₂.mono hex)
    have hp' := N p (.tail _ (.tail _ hp))
    refine mem_snap (kp _ _ (hide _ _ (fun q => ?_) hp'.1)) hp'.2.1 (fun q => ?_) hp'.2.2
    · rcases hmem _ q with q | q
      · exact h1 q
      · exact h2 q
    · rcases List.mem_cons.mp q with q | q
      · exact h1 q
      · exact h2 (List.mem_singleton.mp q)
  refine wpAny_mono (h mean mg mb (dp + 1) (un + 3) (gd) (envX cn cs L a ccd cl :: outer) (AR dp un gd cn cs L a ccd cl outer) base g L' h₁ { s with toks := s.toks + binds.length } us n rs o kvs es _ B' F' X' T' (by omega) (by omega) N' R' hD S' hGood hlim hlim2 hne
    (fun b o e => hide b o (fun q => by
      rcases hmem b q with q | q
      · rw [q, hRL] at e; cases e
      · rw [q, hED] at e; cases e) (hg b o e))) (fun fl s' hl => bk _ s' hl) fun _ _ y => y

theorem DeclsAt.use (C : DeclsAt w f vs dz uz g₀ RL ED act)
    {mean : ExcName → Option Value} {mg mb : Str → Option Value} {dp un : Nat} {gd : Option (List Code)} {cn : Str} {cs : Scope} {a : Addr} {ccd : Value} {cl : List (Str × Addr)} {outer : List Env} {A₀ : Around} {base h₀ : Heap} {L : Addr} {m : Str → Option Value} {s : Shared}
    {us : List Value} {n : Nat} {rs : List Row} {o : Obj} {kvs : List (Str × Value)} {es : Sc} {rest : List (Addr × Obj)} {Q E : Value → Shared → Prop}
    (B : Below A₀ base outer h₀) (F : Fr h₀ L s.heap m) (X : (hd.heap_1 w.params).In h₀) (T : Top PV LS mean mg mb h₀) (hk : cs.kind = .function) (hd : dp + dz < recursionLimit) (hu : un + uz < cLine)
    (N : News h₀ L s.heap ((RL, listOf us.toArray n) :: (ED, o) :: rest)) (R : RowsIn (LP h₀ rest) us rs) (D : o.IsDictOf (PySem.strKind PG w) kvs) (S : ScIn (LP h₀ rest) kvs es) (G : GoodSc es) (hlim : rs.length + (act es).1.length ≤ LIM) (hlim2 : (act es).2.length ≤ LIM)
    (hg : ∀ b o, g₀.get? b = some o → s.heap.get? b = some o) (hRL : g₀.get? RL = none) (hED : g₀.get? ED = none)
    (ret : ∀ us' n' o' kvs' rest' h' tk', Fr h₀ L h' m → News h₀ L h' ((RL, listOf us'.toArray n') :: (ED, o') :: rest') → (∀ p ∈ rest', p.1 ≠ RL ∧ p.1 ≠ ED) → (∀ p ∈ rest, p.1 ≠ RL → p.1 ≠ ED → p ∈ rest') → RowsIn (LP h₀ rest') us' (rs ++ (act es).1) →
      o'.IsDictOf (PySem.strKind PG w) kvs' → ScIn (LP h₀ rest') kvs' (act es).2 → Q .none { s with heap := h', toks := tk' }) :
    wpAny (MD w) (AR dp un gd cn cs L a ccd cl outer) (call (.ref f) vs) Q E s := C _ _ _ _ _ _ _ _ _ _ _ _ _ _ _ _ _ _ _ _ _ _ _ _ _ _ _ B F X T hk hd hu N R D S G hlim hlim2 hg hRL hED ret
theorem DeclsAt.useA (C : DeclsAt w f vs dz uz g₀ RL ED act)
    {mean : ExcName → Option Value} {mg mb : Str → Option Value} {dp un : Nat} {gd : Option (List Code)} {cn : Str} {cs : Scope} {a : Addr} {ccd : Value} {cl : List (Str × Addr)} {outer : List Env} {A₀ : Around} {base h₀ : Heap} {L : Addr} {m : Str → Option Value} {hs : Heap} {gs : Array GenState} {ds : Drawn} {ts : Nat} {os : OsState}
    {us : List Value} {n : Nat} {rs : List Row} {o : Obj} {kvs : List (Str × Value)} {es : Sc} {rest : List (Addr × Obj)} {Q E : Value → Shared → Prop}
    (ret : ∀ us' n' o' kvs' rest' h' tk', Fr h₀ L h' m → News h₀ L h' ((RL, listOf us'.toArray n') :: (ED, o') :: rest') → (∀ p ∈ rest', p.1 ≠ RL ∧ p.1 ≠ ED) → (∀ p ∈ rest, p.1 ≠ RL → p.1 ≠ ED → p ∈ rest') → RowsIn (LP h₀ rest') us' (rs ++ (act es).1) →
      o'.IsDictOf (PySem.strKind PG w) kvs' → ScIn (LP h₀ rest') kvs' (act es).2 → Q .none ⟨h', gs, ds, tk', os⟩)
    (B : Below A₀ base outer h₀ := by k_asm) (F : Fr h₀ L hs m := by k_asm) (X : (hd.heap_1 w.params).In h₀ := by k_asm) (T : Top PV LS mean mg mb h₀ := by k_asm) (hk : cs.kind = .function := by rfl) (hd : dp + dz < recursionLimit := by walk_at "Mine.ar") (hu : un + uz < cLine := by walk_at "Mine.ar")
    (N : News h₀ L hs ((RL, listOf us.toArray n) :: (ED, o) :: rest) := by walk_at "Mine.N") (R : RowsIn (LP h₀ rest) us rs := by walk_at "Mine.R") (D : o.IsDictOf (PySem.strKind PG w) kvs := by k_asm) (S : ScIn (LP h₀ rest) kvs es := by walk_at "Mine.S") (G : GoodSc es := by k_asm) (hlim : rs.length + (act es).1.length ≤ LIM := by walk_at "Mine.lim") (hlim2 : (act es).2.length ≤ LIM := by walk_at "Mine.lim")
    (hg : ∀ b o, g₀.get? b = some o → hs.get? b = some o := by walk_at "Mine.hg") (hRL : g₀.get? RL = none := by walk_at "Mine.hRL") (hED : g₀.get? ED = none := by walk_at "Mine.hED") :
    wpAny (MD w) (AR dp un gd cn cs L a ccd cl outer) (call (.ref f) vs) Q E ⟨hs, gs, ds, ts, os⟩ := C.use B F X T hk hd hu N R D S G hlim hlim2 hg hRL hED ret
end

theorem words_14 : True := by
  k_with "m:Mine.decls" => (refine' decls_of (h := ?_))
  exact trivial
theorem EmitsAt.decls {w : World} {f : Addr} {vs : List Value} {dz uz : Nat} {g₀ : Heap} {RL : Addr} {new : List Row} (C : EmitsAt w f vs dz uz g₀ RL new) (ED : Addr) : DeclsAt w f vs dz uz g₀ RL ED (fun es => (new, es)) := by
  intro mean mg mb dp un gd cn cs a ccd cl outer A₀ base h₀ L m s us n rs o kvs es rest Q E B F X T hk hd hu N R D S _ hlim _ hg hRL _ ret
  have oR := (N _ (.head _)).1
  have oE := (N _ (.tail _ (.head _))).1
  dsimp only at oR oE
  have hne : ED ≠ RL := fun q => by
    rw [← q, oE] at oR
    cases oR
    exact absurd (Value.type.inj (dict_cls D)) (by decide)
  refine C mean mg mb dp un gd cn cs a ccd cl outer A₀ base h₀ L m s us n rs ((ED, o) :: rest) Q E B F X T hk hd hu N (R.mono (LP.sub fun p hp => .tail _ hp)) hlim hg hRL fun us' n' rest' h' tk' F' N' hne' hsub R' => ?_
  have hE' := hsub _ (.head _) hne
  have oE' := (N' _ (.tail _ hE')).1
  dsimp only at oE'
  have hf : ∀ a vs, LP h₀ rest' a vs → LP h₀ (rest'.filter fun p => decide (p.1 ≠ ED)) a vs := LP.filter (News.sub N' fun p hp => .tail _ hp) oE' (dict_ne D)
  refine ret us' n' o kvs (rest'.filter fun p => decide (p.1 ≠ ED)) h' tk' F' (fun p hp => ?_) (fun p hp => ⟨hne' p (List.mem_filter.mp hp).1, of_decide_eq_true (List.mem_filter.mp hp).2⟩) (fun p hp h1 h2 => List.mem_filter.mpr ⟨hsub p (.tail _ hp) h1, decide_eq_true h2⟩) (R'.mono hf) D (S.mono fun a vs x => hf a vs ?_)
  · rcases List.mem_cons.mp hp with rfl | hp
    · exact N' _ (.head _)
    · rcases List.mem_cons.mp hp with rfl | hp
      · exact N' _ (.tail _ hE')
      · exact N' _ (.tail _ (List.mem_filter.mp hp).1)
  · rcases x with x | ⟨ob, hm, c, d⟩
    · exact .inl x
    · refine .inr ⟨ob, hsub _ (.tail _ hm) (fun q => ?_), c, d⟩
      have := (N _ (.tail _ (.tail _ hm))).1
      dsimp only at this q
      rw [q, oR] at this
      cases this
      exact tl_ne c

section
variable {w : World} {g : Heap} {RL ED L' a b : Addr} {rs : List Row} {es : Sc} {s₀ : Shared} {m' : Str → Option Value} {us' : List Value} {n' : Nat} {o' oa ob : Obj} {kvs : List (Str × Value)} {h' : Heap} {tk' : Nat} {k : Str} {e : Ent}
theorem Decld.put1 (F : Fr g L' h' m') (N : News g L' h' [(a, oa), (RL, listOf us'.toArray n'), (ED, o')]) (R : RowsIn (LP g []) us' rs) (D : o'.IsDictOf (PySem.strKind PG w) (stored kvs k (.ref a))) (S : ScIn (LP g []) kvs es)
    (he : EntAt (LP g [(a, oa)]) (.ref a) e) : Decld w g RL ED (rs ++ []) (put es k e) s₀ .none { s₀ with heap := h', toks := tk' } := by
  have sub : ∀ a' vs, LP g [] a' vs → LP g [(a, oa)] a' vs := LP.sub fun p hp => (List.not_mem_nil hp).elim
  refine Decld.intro (n' := n') (rest' := [(a, oa)]) F (News.sub N fun p hp => ?_) (by rw [List.append_nil]; exact R.mono sub) D ((S.mono sub).put k he)
  rcases List.mem_cons.mp hp with rfl | hp
  · exact .tail _ (.head _)
  · rcases List.mem_cons.mp hp with rfl | hp
    · exact .tail _ (.tail _ (.head _))
    · rw [List.mem_singleton.mp hp]; exact .head _
theorem Decld.put2 (F : Fr g L' h' m') (N : News g L' h' [(a, oa), (b, ob), (RL, listOf us'.toArray n'), (ED, o')]) (R : RowsIn (LP g []) us' rs) (D : o'.IsDictOf (PySem.strKind PG w) (stored kvs k (.ref a))) (S : ScIn (LP g []) kvs es)
    (he : EntAt (LP g [(a, oa), (b, ob)]) (.ref a) e) : Decld w g RL ED (rs ++ []) (put es k e) s₀ .none { s₀ with heap := h', toks := tk' } := by
  have sub : ∀ a' vs, LP g [] a' vs → LP g [(a, oa), (b, ob)] a' vs := LP.sub fun p hp => (List.not_mem_nil hp).elim
  refine Decld.intro (n' := n') (rest' := [(a, oa), (b, ob)]) F (News.sub N fun p hp => ?_) (by rw [List.append_nil]; exact R.mono sub) D ((S.mono sub).put k he)
  rcases List.mem_cons.mp hp with rfl | hp
  · exact .tail _ (.tail _ (.head _))
  · rcases List.mem_cons.mp hp with rfl | hp
    · exact .tail _ (.tail _ (.tail _ (.head _)))
    · rcases List.mem_cons.mp hp with rfl | hp
      · exact .head _
      · rw [List.mem_singleton.mp hp]; exact .tail _ (.head _)
end

theorem notin_led {w : World} {A : Around} {E : Value → Shared → Prop} {s : Shared} {h₀ : Heap} {L d : Addr} {news : List (Addr × Obj)} {o : Obj} {kvs : List (Str × Value)} {k : Str} {t : Tok} {b : Bool} {Q : Value → Shared → Prop} (N : News h₀ L s.heap news) (hp : (d, o) ∈ news) (hd : o.IsDictOf (PySem.strKind PG w) kvs) (lo : (d == sysModules) = false)
    (hb : (valueAt kvs k).isSome = b) (h : Q (.bool (!b)) { s with toks := s.toks + 1 }) : wpAny (model PG w) A (compareOp .NotIn (.str k t) (.ref d)) Q E s := wpAny_notIn_of (strKind_is _ _ _ _) lo (kda_dict N hp hd).mapOf (by rw [hb]; exact h)
theorem words_15 : True := by
  k_with "m:compareOp In str ref" => ((k_here; k_dflt (refine kda_in (knd := PySem.strKind _ _) (by k_asm) (by k_mem) (by k_asm) (by k_asm) (strKind_is _ _ _ _) _ (by k_asm) ?_)))
  k_with "m:compareOp NotIn str ref" => ((k_here; k_dflt (refine' notin_led (by k_asm) (by k_mem) (by k_asm) (by k_asm) (by k_asm) ?_; k_whole)))
  exact trivial
theorem none_of_news2 {h₀ h : Heap} {L a : Addr} {o : Obj} {p : Addr × Obj} {I : List (Addr × Obj)} (N : News h₀ L h (p :: (a, o) :: I)) : h₀.get? a = none := (N _ (.tail _ (.head _))).2.2
theorem kvs_line {T : TP} {kvs : List (Str × Value)} {es : Sc} (S : ScIn T kvs es) (h : es.length ≤ LIM) : kvs.length ≤ sizeLine := by
  rw [S.length]
  have h1 : sizeLine = 16777216 := rfl
  have h2 : LIM = 1000000 := rfl
  omega
theorem put_len (es : Sc) (k : Str) (e : Ent) : es.length ≤ (put es k e).length := by
  unfold put
  split
  · rw [List.length_map]; exact Nat.le_refl _
  · rw [List.length_append]; exact Nat.le_add_right _ _
local macro_rules | `(tactic| walk_at "setItem ref str") => `(tactic| (k_here; k_dflt (refine kda_set (knd := PySem.strKind _ _) (by k_asm) (by k_asm) (by k_updF) (by k_asm) (strKind_is _ _ _ _) (by k_asm) ?_); intro h' o' F' N' hd'; (try dsimp only at N'); (try k_sweep)))

theorem lp_nil {g : Heap} : ∀ a vs, LP g [] a vs → IsTup g a vs
  | _, _, .inl x => x
  | _, _, .inr ⟨_, h, _⟩ => (List.not_mem_nil h).elim
theorem get_led {w : World} {A : Around} {E : Value → Shared → Prop} {s : Shared} {h₀ : Heap} {L d : Addr} {news : List (Addr × Obj)} {o : Obj} {kvs : List (Str × Value)} {k : Str} {t : Tok} {v : Value} {Q : Value → Shared → Prop} (N : News h₀ L s.heap news) (hp : (d, o) ∈ news) (hd : o.IsDictOf (PySem.strKind PG w) kvs)
    (hl : valueAt kvs k = some v) (h : Q v { s with toks := s.toks + 1 }) : wpAny (model PG w) A (getItem (.ref d) (.str k t)) Q E s := wpAny_getItem_of (strKind_is _ _ _ _) (kda_dict N hp hd).mapOf hl h

theorem words_16 : True := by
  k_with "m:getItem ref str" => ((k_here; k_dflt (refine' get_led (by k_asm) (by k_mem) (by k_asm) (by k_asm) ?_; k_whole)))
  k_with "m:subscriptTail" => ((k_here; (with_reducible show wpAny _ _ (subscriptTail _ _ (Value.ref _) (Value.str _ _)) _ _ _); k_dflt (refine kda_item (knd := PySem.strKind _ _) (by k_asm) (by k_mem) (by k_asm) (strKind_is _ _ _ _) (by k_asm) ?_)))
  k_with "m:Mine.N" => (k_asm)
  k_with "m:Mine.S" => (k_asm)
  k_with "m:Mine.hED" => (exact none_of_news2 (by k_asm))
  k_with "m:call ref" => ((k_here; k_dflt (refine' DeclsAt.useA (EmitsAt.decls (add_spec (by k_asm) _ _ _ _ _ _) _) ?_); intros))
  k_with "m:Mine.ddone" => (((try k_unfold); (try dsimp only); exact Decld.intro))
  exact trivial
noncomputable def actLabel (k : Str) (i : Int) (es : Sc) : List Row × Sc := match look es k with
  | none => ([], put es k ⟨Str.ofString "block", i, .num (-1)⟩)
  | some _ => ([⟨Str.ofString "duplicate_label", i, k⟩], es)

theorem add_label_spec {w : World} {R RL x ED : Addr} {g₀ : Heap} {pv : Value} (hrep : IsRep g₀ R RL) (htab : IsTabO g₀ x ED pv) (lo : (ED == sysModules) = false) (k : Str) (i : Int) (t1 t2 t3 : Tok) :
    DeclsAt w 91 [.ref R, .ref x, .str k t1, .int i t2, .int (-1) t3] 20 200 g₀ RL ED (actLabel k i) := by
  walk_at "Mine.decls"
  intro mean mg mb dp un gd outer A₀ base g L h₁ s us n rs o kvs es Qe B F X Tp hd hu N R' D S G hlim hlim2 hRE hg
  have hrep := hrep.keeps hg
  have htab := htab.keeps hg
  have hrep' := hrep
  refine hide_of ?_
  intro Gh
  refine hrep'.open ?_
  intro dx nn k1 k2 k3 w1 w2 w3 v1 v2 hRo hRd
  refine htab.open ?_
  intro dy k4 k5 w4 w5 nn' hTo hTd
  k_unfold
  dsimp only [fnOf, List.map, List.zip, List.zipWith, List.reverse, List.reverseAux, List.append, HAppend.hAppend, Append.append] at F
  refine fr_let F ?_
  clear F
  intro m0 F
  have hl := S.look k
  cases hq : look es k with
  | none =>
    have e : actLabel k i es = ([], put es k ⟨Str.ofString "block", i, .num (-1)⟩) := by unfold actLabel; rw [hq]
    rw [e] at hlim hlim2 ⊢
    rw [hq] at hl
    have hb := congrArg Option.isSome hl
    dsimp only [Option.isSome] at hb
    have hsz := kvs_line S (Nat.le_trans (put_len es k _) hlim2)
    walk_at "Mine.in"
    all_goals ((try k_unfold); (try dsimp only))
    exact Decld.put1 (by k_asm) (by k_asm) R' (by k_asm) S ⟨_, _, _, _, rfl, .inr ⟨_, .head _, rfl, _, rfl⟩, _, rfl⟩
  | some en =>
    have e : actLabel k i es = ([⟨Str.ofString "duplicate_label", i, k⟩], es) := by unfold actLabel; rw [hq]
    rw [e] at hlim hlim2 ⊢
    rw [hq] at hl
    refine hide_of ?_
    intro Gh
    obtain ⟨v', hv', hen⟩ := hl
    k_unfold
    have hb := congrArg Option.isSome hv'
    dsimp only [Option.isSome] at hb
    refine hide_of ?_
    intro Gh
    obtain ⟨wh, ip, inf⟩ := en
    refine ex4 (hen.mono lp_nil) ?_
    intro a' t1' t2' iv'
    intro hII
    refine an3 hII ?_
    clear hII
    intro ev hE hI
    k_unfold
    subst ev
    rcases G k _ hq with ⟨e1, _⟩ | ⟨e1, _⟩ | ⟨e1, _⟩ <;> (dsimp only at e1 hE; subst e1; walk_at "Mine.in"; all_goals walk_at "Mine.ddone")

noncomputable def dupRow (i : Int) (k : Str) : Row := ⟨Str.ofString "duplicate", i, k⟩
noncomputable def actPort (k : Str) (i : Int) (dir : Str) (es : Sc) : List Row × Sc := match look es k with
  | none => ([], put es k ⟨Str.ofString "var", i, .sig dir true false⟩)
  | some ⟨wh, ip, .sig _ false _⟩ => ([], put es k ⟨wh, ip, .sig dir true true⟩)
  | some _ => ([dupRow i k], es)
noncomputable def actVar (k : Str) (i : Int) (es : Sc) : List Row × Sc := match look es k with
  | none => ([], put es k ⟨Str.ofString "var", i, .sig (Str.ofString "") false true⟩)
  | some ⟨_, ip, .sig d _ false⟩ => ([], put es k ⟨Str.ofString "var", ip, .sig d true true⟩)
  | some _ => ([dupRow i k], es)
noncomputable def actName (k : Str) (wh : Str) (i : Int) (inf : Inf) (es : Sc) : List Row × Sc := match look es k with
  | none => ([], put es k ⟨wh, i, inf⟩)
  | some _ => ([dupRow i k], es)

theorem add_name_spec {w : World} {R RL x ED : Addr} {g₀ : Heap} {pv iv : Value} {inf : Inf} (hrep : IsRep g₀ R RL) (htab : IsTabO g₀ x ED pv) (lo : (ED == sysModules) = false) (hI : InfAt (IsTup g₀) iv inf) (hi : handedIn iv = true) (k wh : Str) (i : Int) (t1 t2 t3 : Tok) :
    DeclsAt w 84 [.ref R, .ref x, .str k t1, .str wh t2, .int i t3, iv] 20 200 g₀ RL ED (actName k wh i inf) := by
  walk_at "Mine.decls"
  intro mean mg mb dp un gd outer A₀ base g L h₁ s us n rs o kvs es Qe B F X Tp hd hu N R' D S G hlim hlim2 hRE hg
  have hrep := hrep.keeps hg
  have htab := htab.keeps hg
  have hI := hI.mono (tup_keeps hg)
  have hrep' := hrep
  refine hide_of ?_
  intro Gh
  refine hrep'.open ?_
  intro dx nn k1 k2 k3 w1 w2 w3 v1 v2 hRo hRd
  refine htab.open ?_
  intro dy k4 k5 w4 w5 nn' hTo hTd
  k_unfold
  dsimp only [fnOf, List.map, List.zip, List.zipWith, List.reverse, List.reverseAux, List.append, HAppend.hAppend, Append.append] at F
  refine fr_let F ?_
  clear F
  intro m0 F
  have hl := S.look k
  cases hq : look es k with
  | none =>
    have e : actName k wh i inf es = ([], put es k ⟨wh, i, inf⟩) := by unfold actName; rw [hq]
    rw [e] at hlim hlim2 ⊢
    rw [hq] at hl
    have hb := congrArg Option.isSome hl
    dsimp only [Option.isSome] at hb
    have hsz := kvs_line S (Nat.le_trans (put_len es k _) hlim2)
    walk_at "Mine.in"
    all_goals ((try k_unfold); (try dsimp only))
    exact Decld.put1 (by k_asm) (by k_asm) R' (by k_asm) S ⟨_, _, _, _, rfl, .inr ⟨_, .head _, rfl, _, rfl⟩, hI.mono fun _ _ y => .inl y⟩
  | some en =>
    have e : actName k wh i inf es = ([dupRow i k], es) := by unfold actName; rw [hq]
    unfold dupRow at e
    rw [e] at hlim hlim2 ⊢
    rw [hq] at hl
    refine hide_of ?_
    intro Gh
    obtain ⟨v', hv', hen⟩ := hl
    k_unfold
    have hb := congrArg Option.isSome hv'
    dsimp only [Option.isSome] at hb
    walk_at "Mine.in"
    all_goals walk_at "Mine.ddone"

theorem Decld.putN {w : World} {g : Heap} {RL ED L' a : Addr} {rs : List Row} {es : Sc} {s₀ : Shared} {m' : Str → Option Value} {us' : List Value} {n' : Nat} {o' : Obj} {kvs : List (Str × Value)} {h' : Heap} {tk' : Nat} {k : Str} {e : Ent} {I : List (Addr × Obj)}
    (F : Fr g L' h' m' := by k_asm) (N : News g L' h' I := by k_asm) (hR : (RL, listOf us'.toArray n') ∈ I := by k_mem) (hE : (ED, o') ∈ I := by k_mem) (R : RowsIn (LP g []) us' rs := by k_asm) (D : o'.IsDictOf (PySem.strKind PG w) (stored kvs k (.ref a)) := by k_asm) (S : ScIn (LP g []) kvs es := by k_asm)
    (he : EntAt (LP g I) (.ref a) e := by exact ⟨_, _, _, _, rfl, .inr ⟨_, .head _, rfl, _, rfl⟩, _, _, rfl, .inr ⟨_, .tail _ (.head _), rfl, _, rfl⟩⟩) : Decld w g RL ED (rs ++ []) (put es k e) s₀ .none { s₀ with heap := h', toks := tk' } := by
  have sub : ∀ a' vs, LP g [] a' vs → LP g I a' vs := LP.sub fun p hp => (List.not_mem_nil hp).elim
  refine Decld.intro (n' := n') (rest' := I) F (fun p hp => ?_) (by rw [List.append_nil]; exact R.mono sub) D ((S.mono sub).put k he)
  rcases List.mem_cons.mp hp with rfl | hp
  · exact N _ hR
  · rcases List.mem_cons.mp hp with rfl | hp
    · exact N _ hE
    · exact N _ hp
theorem News.rot1 {h₀ h : Heap} {L : Addr} {a b c : Addr × Obj} {I : List (Addr × Obj)} (N : News h₀ L h (a :: b :: c :: I)) : News h₀ L h (b :: c :: a :: I) := News.sub N fun p hp => by
  simp only [List.mem_cons] at hp ⊢
  rcases hp with h | h | h | h <;> simp [h]
theorem lp_any {g : Heap} {I : List (Addr × Obj)} : ∀ a vs, LP g [] a vs → LP g I a vs := LP.sub fun p hp => (List.not_mem_nil hp).elim

theorem words_17 : True := by
  k_with "m:Mine.N" => (first | k_asm | exact News.rot1 (by k_asm))
  k_with "m:Mine.R" => (first | k_asm | exact RowsIn.mono lp_any (by k_asm))
  k_with "m:Mine.S" => (first | k_asm | exact ScIn.mono lp_any (by k_asm))
  k_with "m:Mine.hRL" => (first | exact none_of_news (News.rot1 (by k_asm)))
  k_with "m:Mine.hED" => (first | exact none_of_news2 (News.rot1 (by k_asm)))
  k_with "m:Mine.put1" => (((try k_unfold); (try dsimp only); exact Decld.putN))
  exact trivial
theorem add_port_spec {w : World} {R RL x ED : Addr} {g₀ : Heap} {pv : Value} (hrep : IsRep g₀ R RL) (htab : IsTabO g₀ x ED pv) (lo : (ED == sysModules) = false) (k : Str) (i : Int) (dir : Str) (t1 t2 t3 : Tok) :
    DeclsAt w 98 [.ref R, .ref x, .str k t1, .int i t2, .str dir t3, .bool true] 20 200 g₀ RL ED (actPort k i dir) := by
  walk_at "Mine.decls"
  intro mean mg mb dp un gd outer A₀ base g L h₁ s us n rs o kvs es Qe B F X Tp hd hu N R' D S G hlim hlim2 hRE hg
  have hrep := hrep.keeps hg
  have htab := htab.keeps hg
  have hrep' := hrep
  refine hide_of ?_
  intro Gh
  refine hrep'.open ?_
  intro dx nn k1 k2 k3 w1 w2 w3 v1 v2 hRo hRd
  refine htab.open ?_
  intro dy k4 k5 w4 w5 nn' hTo hTd
  k_unfold
  dsimp only [fnOf, List.map, List.zip, List.zipWith, List.reverse, List.reverseAux, List.append, HAppend.hAppend, Append.append] at F
  refine fr_let F ?_
  clear F
  intro m0 F
  have hl := S.look k
  cases hq : look es k with
  | none =>
    have e : actPort k i dir es = ([], put es k ⟨Str.ofString "var", i, .sig dir true false⟩) := by unfold actPort; rw [hq]
    rw [e] at hlim hlim2 ⊢
    rw [hq] at hl
    have hb := congrArg Option.isSome hl
    dsimp only [Option.isSome] at hb
    have hsz := kvs_line S (Nat.le_trans (put_len es k _) hlim2)
    walk_at "Mine.in"
    all_goals ((try k_unfold); (try dsimp only))
    exact Decld.put2 (by k_asm) (by k_asm) R' (by k_asm) S ⟨_, _, _, _, rfl, .inr ⟨_, .head _, rfl, _, rfl⟩, _, _, rfl, .inr ⟨_, .tail _ (.head _), rfl, _, rfl⟩⟩
  | some en =>
    rw [hq] at hl
    refine hide_of ?_
    intro Gh
    obtain ⟨v', hv', hen⟩ := hl
    k_unfold
    have hb := congrArg Option.isSome hv'
    dsimp only [Option.isSome] at hb
    refine hide_of ?_
    intro Gh
    obtain ⟨wh, ip, inf⟩ := en
    refine ex4 (hen.mono lp_nil) ?_
    intro a' t1' t2' iv'
    intro hII
    refine an3 hII ?_
    clear hII
    intro ev hE hI
    k_unfold
    subst ev
    have hput : ∀ e, put es k e = (put es k e) := fun _ => rfl
    rcases G k _ hq with ⟨e1, d, p, q, e2⟩ | ⟨e1, p, q, e2⟩ | ⟨e1, j, e2⟩ <;> (dsimp only at e1 e2 hE hI; subst e1; subst e2)
    · refine hide_of ?_
      intro Gh
      obtain ⟨b', t', ei, hS⟩ := hI
      k_unfold
      subst ei
      cases p with
      | false =>
        have e : actPort k i dir es = ([], put es k ⟨Str.ofString "var", ip, .sig dir true true⟩) := by unfold actPort; rw [hq]
        rw [e] at hlim hlim2 ⊢
        have hsz := kvs_line S (Nat.le_trans (put_len es k _) hlim2)
        walk_at "Mine.in"
        all_goals walk_at "Mine.put1"
      | true =>
        have e : actPort k i dir es = ([dupRow i k], es) := by unfold actPort; rw [hq]
        unfold dupRow at e
        rw [e] at hlim hlim2 ⊢
        walk_at "Mine.in"
        all_goals walk_at "Mine.ddone"
    · refine hide_of ?_
      intro Gh
      obtain ⟨b', t', ei, hS⟩ := hI
      k_unfold
      subst ei
      cases p with
      | false =>
        have e : actPort k i dir es = ([], put es k ⟨Str.ofString "net", ip, .sig dir true true⟩) := by unfold actPort; rw [hq]
        rw [e] at hlim hlim2 ⊢
        have hsz := kvs_line S (Nat.le_trans (put_len es k _) hlim2)
        walk_at "Mine.in"
        all_goals walk_at "Mine.put1"
      | true =>
        have e : actPort k i dir es = ([dupRow i k], es) := by unfold actPort; rw [hq]
        unfold dupRow at e
        rw [e] at hlim hlim2 ⊢
        walk_at "Mine.in"
        all_goals walk_at "Mine.ddone"
    · have e : actPort k i dir es = ([dupRow i k], es) := by unfold actPort; rw [hq]
      unfold dupRow at e
      rw [e] at hlim hlim2 ⊢
      refine hide_of ?_
      intro Gh
      obtain ⟨t', ei⟩ := hI
      k_unfold
      subst ei
      walk_at "Mine.in"
      all_goals walk_at "Mine.ddone"

theorem add_signal_spec {w : World} {R RL x ED : Addr} {g₀ : Heap} {pv : Value} (hrep : IsRep g₀ R RL) (htab : IsTabO g₀ x ED pv) (lo : (ED == sysModules) = false) (k : Str) (i : Int) (t1 t2 t3 : Tok) :
    DeclsAt w 105 [.ref R, .ref x, .str k t1, .str (Str.ofString "var") t2, .int i t3, .bool true] 20 200 g₀ RL ED (actVar k i) := by
  walk_at "Mine.decls"
  intro mean mg mb dp un gd outer A₀ base g L h₁ s us n rs o kvs es Qe B F X Tp hd hu N R' D S G hlim hlim2 hRE hg
  have hrep := hrep.keeps hg
  have htab := htab.keeps hg
  have hrep' := hrep
  refine hide_of ?_
  intro Gh
  refine hrep'.open ?_
  intro dx nn k1 k2 k3 w1 w2 w3 v1 v2 hRo hRd
  refine htab.open ?_
  intro dy k4 k5 w4 w5 nn' hTo hTd
  k_unfold
  dsimp only [fnOf, List.map, List.zip, List.zipWith, List.reverse, List.reverseAux, List.append, HAppend.hAppend, Append.append] at F
  refine fr_let F ?_
  clear F
  intro m0 F
  have hl := S.look k
  cases hq : look es k with
  | none =>
    have e : actVar k i es = ([], put es k ⟨Str.ofString "var", i, .sig (Str.ofString "") false true⟩) := by unfold actVar; rw [hq]
    rw [e] at hlim hlim2 ⊢
    rw [hq] at hl
    have hb := congrArg Option.isSome hl
    dsimp only [Option.isSome] at hb
    have hsz := kvs_line S (Nat.le_trans (put_len es k _) hlim2)
    walk_at "Mine.in"
    all_goals walk_at "Mine.put1"
  | some en =>
    rw [hq] at hl
    refine hide_of ?_
    intro Gh
    obtain ⟨v', hv', hen⟩ := hl
    k_unfold
    have hb := congrArg Option.isSome hv'
    dsimp only [Option.isSome] at hb
    refine hide_of ?_
    intro Gh
    obtain ⟨wh, ip, inf⟩ := en
    refine ex4 (hen.mono lp_nil) ?_
    intro a' t1' t2' iv'
    intro hII
    refine an3 hII ?_
    clear hII
    intro ev hE hI
    k_unfold
    subst ev
    have hput : ∀ e, put es k e = (put es k e) := fun _ => rfl
    rcases G k _ hq with ⟨e1, d, p, q, e2⟩ | ⟨e1, p, q, e2⟩ | ⟨e1, j, e2⟩ <;> (dsimp only at e1 e2 hE hI; subst e1; subst e2)
    · refine hide_of ?_
      intro Gh
      obtain ⟨b', t', ei, hS⟩ := hI
      k_unfold
      subst ei
      cases q with
      | false =>
        have e : actVar k i es = ([], put es k ⟨Str.ofString "var", ip, .sig d true true⟩) := by unfold actVar; rw [hq]
        rw [e] at hlim hlim2 ⊢
        have hsz := kvs_line S (Nat.le_trans (put_len es k _) hlim2)
        walk_at "Mine.in"
        all_goals walk_at "Mine.put1"
      | true =>
        have e : actVar k i es = ([dupRow i k], es) := by unfold actVar; rw [hq]
        unfold dupRow at e
        rw [e] at hlim hlim2 ⊢
        walk_at "Mine.in"
        all_goals walk_at "Mine.ddone"
    · refine hide_of ?_
      intro Gh
      obtain ⟨b', t', ei, hS⟩ := hI
      k_unfold
      subst ei
      cases q with
      | false =>
        have e : actVar k i es = ([], put es k ⟨Str.ofString "var", ip, .sig (Str.ofString "") true true⟩) := by unfold actVar; rw [hq]
        rw [e] at hlim hlim2 ⊢
        have hsz := kvs_line S (Nat.le_trans (put_len es k _) hlim2)
        walk_at "Mine.in"
        all_goals walk_at "Mine.put1"
      | true =>
        have e : actVar k i es = ([dupRow i k], es) := by unfold actVar; rw [hq]
        unfold dupRow at e
        rw [e] at hlim hlim2 ⊢
        walk_at "Mine.in"
        all_goals walk_at "Mine.ddone"
    · have e : actVar k i es = ([dupRow i k], es) := by unfold actVar; rw [hq]
      unfold dupRow at e
      rw [e] at hlim hlim2 ⊢
      refine hide_of ?_
      intro Gh
      obtain ⟨t', ei⟩ := hI
      k_unfold
      subst ei
      walk_at "Mine.in"
      all_goals walk_at "Mine.ddone"


theorem words_18 : True := by
  k_with "m:call ref" => ((k_here; k_dflt (refine' DeclsAt.useA (add_port_spec (by k_asm) (by k_asm) (by k_asm) _ _ _ _ _ _) ?_); intros))
  k_with "m:call ref" => ((k_here; k_dflt (refine' DeclsAt.useA (add_signal_spec (by k_asm) (by k_asm) (by k_asm) _ _ _ _ _) ?_); intros))
  exact trivial
noncomputable def actDecl : Decl → Sc → List Row × Sc
  | .port i dir _ nm => actPort nm i dir
  | .var i _ nm _ => actVar nm i

theorem declare_item_spec {w : World} {R RL x ED : Addr} {g₀ : Heap} {pv dv : Value} {d : Decl} (hrep : IsRep g₀ R RL) (htab : IsTabO g₀ x ED pv) (lo : (ED == sysModules) = false) (hdec : DeclAt (IsTup g₀) dv d) :
    DeclsAt w 112 [.ref R, .ref x, dv, .bool true] 30 300 g₀ RL ED (actDecl d) := by
  walk_at "Mine.decls"
  intro mean mg mb dp un gd outer A₀ base g L h₁ s us n rs o kvs es Qe B F X Tp hd hu N R' D S G hlim hlim2 hRE hg
  have hrep := hrep.keeps hg
  have htab := htab.keeps hg
  have hdec := hdec.mono (tup_keeps hg)
  dsimp only [fnOf, List.map, List.zip, List.zipWith, List.reverse, List.reverseAux, List.append, HAppend.hAppend, Append.append] at F
  refine fr_let F ?_
  clear F
  intro m0 F
  cases d with
  | port i dir ext nm =>
    refine hide_of ?_
    intro Gh
    refine ex6 hdec ?_
    clear hdec
    intro ea t1 t2 t3 t4 xv
    intro hII
    refine an3 hII ?_
    clear hII
    intro e hE hx
    k_unfold
    subst e
    unfold actDecl at hlim hlim2 ⊢
    dsimp only at hlim hlim2 ⊢
    walk_at "Mine.in"
    all_goals walk_at "Mine.ddone"
  | var i ext nm fo =>
    refine hide_of ?_
    intro Gh
    refine ex8 hdec ?_
    clear hdec
    intro ea e0 t1 t2 t3 t4 xv fv
    intro hII
    refine an5 hII ?_
    clear hII
    intro e hE hE0 hx hf
    k_unfold
    subst e
    unfold actDecl at hlim hlim2 ⊢
    dsimp only at hlim hlim2 ⊢
    walk_at "Mine.in"
    all_goals walk_at "Mine.ddone"

noncomputable def TurnD (w : World) (g : Heap) (L RL ED : Addr) (x : Str) (m : Str → Option Value) (rs : List Row) (es : Sc) (rest : List (Addr × Obj)) (s₁ : Shared) (f : Flow) (s' : Shared) : Prop :=
  (f = .next ∨ f = .cont) ∧ ∃ h' tk' m' us' n' o' kvs' rest', s' = { s₁ with heap := h', toks := tk' } ∧ Fr g L h' m' ∧ (∀ y, y ≠ x → m' y = m y) ∧ News g L h' ((RL, listOf us'.toArray n') :: (ED, o') :: rest') ∧ (∀ p ∈ rest', p.1 ≠ RL ∧ p.1 ≠ ED) ∧ (∀ p ∈ rest, p.1 ≠ RL → p.1 ≠ ED → p ∈ rest') ∧
    RowsIn (LP g rest') us' rs ∧ o'.IsDictOf (PySem.strKind PG w) kvs' ∧ ScIn (LP g rest') kvs' es
section
variable {w : World} {A : Around} {E : Value → Shared → Prop} {Q : Flow → Shared → Prop} {s : Shared} {env : Env} {g : Heap} {x : Str} {body : List Stmt}
theorem TurnD.intro {L RL ED : Addr} {m m' : Str → Option Value} {rs : List Row} {es : Sc} {rest rest' : List (Addr × Obj)} {s₁ : Shared} {h' : Heap} {tk' : Nat} {us' : List Value} {n' : Nat} {o' : Obj} {kvs' : List (Str × Value)}
    (F : Fr g L h' m' := by k_asm) (hm : ∀ y, y ≠ x → m' y = m y := by (intro y hy; exact if_neg hy)) (N : News g L h' ((RL, listOf us'.toArray n') :: (ED, o') :: rest') := by k_asm) (hne : ∀ p ∈ rest', p.1 ≠ RL ∧ p.1 ≠ ED := by k_asm) (hs : ∀ p ∈ rest, p.1 ≠ RL → p.1 ≠ ED → p ∈ rest' := by first | k_asm | solve_by_elim (maxDepth := 12)) (R : RowsIn (LP g rest') us' rs := by walk_at "Mine.R0")
    (D : o'.IsDictOf (PySem.strKind PG w) kvs' := by k_asm) (S : ScIn (LP g rest') kvs' es := by k_asm) :
    TurnD w g L RL ED x m rs es rest s₁ .next { s₁ with heap := h', toks := tk' } := ⟨.inl rfl, mk8 h' tk' m' us' n' o' kvs' rest' ⟨rfl, F, hm, N, hne, hs, R, D, S⟩⟩

theorem iter_decls {m : Str → Option Value} {us : List Value} {n : Nat} {rs : List Row} {o : Obj} {kvs : List (Str × Value)} {es : Sc} {rest : List (Addr × Obj)} {RL ED ax : Addr} {items : Array Value} (st : Nat → List Row × Sc) (h0 : st 0 = ([], es))
    (hh : A.handled = none) (ht : IsTup g ax items) (F : Fr g env.locals s.heap m) (N : News g env.locals s.heap ((RL, listOf us.toArray n) :: (ED, o) :: rest)) (hne : ∀ p ∈ rest, p.1 ≠ RL ∧ p.1 ≠ ED) (R : RowsIn (LP g rest) us rs) (D : o.IsDictOf (PySem.strKind PG w) kvs) (S : ScIn (LP g rest) kvs es)
    (turn : ∀ i v h tk us n o kvs rest', i < items.size → items[i]? = some v → (∀ p ∈ rest, p.1 ≠ RL → p.1 ≠ ED → p ∈ rest') → (∀ p ∈ rest', p.1 ≠ RL ∧ p.1 ≠ ED) → Fr g env.locals h (fun y => if y = x then some v else m y) → News g env.locals h ((RL, listOf us.toArray n) :: (ED, o) :: rest') → RowsIn (LP g rest') us (rs ++ (st i).1) →
      o.IsDictOf (PySem.strKind PG w) kvs → ScIn (LP g rest') kvs (st i).2 →
      wpAny (MD w) A (execs body env) (fun f s' => TurnD w g env.locals RL ED x m (rs ++ (st (i + 1)).1) (st (i + 1)).2 rest' s f s') E { s with heap := h, toks := tk })
    (done : ∀ h tk u us n o kvs rest', (∀ p ∈ rest, p.1 ≠ RL → p.1 ≠ ED → p ∈ rest') → (∀ p ∈ rest', p.1 ≠ RL ∧ p.1 ≠ ED) → Fr g env.locals h (fun y => if y = x then u else m y) → News g env.locals h ((RL, listOf us.toArray n) :: (ED, o) :: rest') → RowsIn (LP g rest') us (rs ++ (st items.size).1) →
      o.IsDictOf (PySem.strKind PG w) kvs → ScIn (LP g rest') kvs (st items.size).2 →
      Q .next { s with heap := h, toks := tk }) :
    wpAny (MD w) A (pyIter (.ref ax)) (fun it s₂ => Looping w A g env x body Q E it s₂) E s := by
  have hts := F.tup ht
  have hlt : ax < g.objs.size := by obtain ⟨o, ho, _⟩ := ht; exact Heap.lt_size ho
  have hne' : ax ≠ s.heap.objs.size := Nat.ne_of_lt (Nat.lt_trans (Nat.lt_of_lt_of_le hlt F.above) F.ns.lt)
  refine wpAny_pyIter_tuple hts ?_
  have W := Walks.tuple (prog := PG) (w := w) hh s.heap.objs.size ax hne' items
  let J : Nat → (Str → Option Value) → List (Addr × Obj) → Prop := fun i m₁ nw => ∃ us n o kvs rest', nw = (RL, listOf us.toArray n) :: (ED, o) :: rest' ∧ (∀ p ∈ rest', p.1 ≠ RL ∧ p.1 ≠ ED) ∧ (∀ p ∈ rest, p.1 ≠ RL → p.1 ≠ ED → p ∈ rest') ∧ RowsIn (LP g rest') us (rs ++ (st i).1) ∧
    o.IsDictOf (PySem.strKind PG w) kvs ∧ ScIn (LP g rest') kvs (st i).2 ∧ ∀ y, y ≠ x → m₁ y = m y
  refine ⟨_, _, _, items.size, _, _, m, (RL, listOf us.toArray n) :: (ED, o) :: rest, J, rfl, W, ?_, ?_, ?_, ⟨⟨_, Heap.get?_push_size _ rfl, rfl, rfl⟩, IsTup.push hts _⟩, F.push _, (fun p hp => ⟨Heap.get?_push_of_some _ (N p hp).1, (N p hp).2⟩), ⟨us, n, o, kvs, rest, rfl, hne, fun _ hp _ _ => hp, ?_, D, ?_, fun _ _ => rfl⟩, ?_, ?_⟩
  · intro hm
    rcases List.mem_cons.mp hm with e | hm
    · exact absurd F.ns.lt (e ▸ Nat.lt_irrefl _)
    · exact absurd (Nat.lt_of_lt_of_le hlt F.above) ((List.mem_singleton.mp hm) ▸ Nat.lt_irrefl _)
  · intro b hb
    rw [List.mem_singleton.mp hb]
    exact next_is_new F
  · intro p hp hI
    exact absurd (Heap.lt_size (N p hp).1) ((List.mem_singleton.mp hI) ▸ Nat.lt_irrefl _)
  · rw [h0]
    show RowsIn _ _ (rs ++ [])
    rw [List.append_nil]; exact R
  · rw [h0]; exact S
  · rintro i v m₁ nw s₁ own ⟨hh', tk', rfl⟩ hin hP hQ
    refine ex5 hQ ?_
    clear hQ
    intro us₁ n₁ o₁ kvs₁ rest₁
    intro hII
    refine an7 hII ?_
    clear hII
    intro eqO1
    subst eqO1
    intro hne₁ hsub₁ R₁ D₁ S₁ hJ
    rintro hoff hown hownI hall ⟨hit, _⟩ F₁ N₁
    have hIlt : (RL, listOf us₁.toArray n₁) ∈ own ++ ((RL, listOf us₁.toArray n₁) :: (ED, o₁) :: rest₁) := List.mem_append_right _ (.head _)
    have hElt : (ED, o₁) ∈ own ++ ((RL, listOf us₁.toArray n₁) :: (ED, o₁) :: rest₁) := List.mem_append_right _ (.tail _ (.head _))
    have oRL := (N₁ _ hIlt).1
    have oED := (N₁ _ hElt).1
    have hIRL : s.heap.objs.size ≠ RL := fun q => by
      obtain ⟨o, ho, hc, _⟩ := hit
      rw [q] at ho
      rw [show hh'.get? RL = some _ from oRL] at ho
      cases ho
      exact absurd (Value.type.inj hc) (by decide)
    have hIED : s.heap.objs.size ≠ ED := fun q => by
      obtain ⟨o, ho, hc, _⟩ := hit
      rw [q] at ho
      rw [show hh'.get? ED = some _ from oED] at ho
      cases ho
      rw [dict_cls D₁] at hc
      exact absurd (Value.type.inj hc) (by decide)
    have hIL : ∀ p ∈ own, p.1 ≠ RL ∧ p.1 ≠ ED := fun p hp => by
      have h1 := hownI p hp
      rcases List.mem_cons.mp (hown p hp) with e | e
      · exact ⟨fun q => hIRL (e ▸ q), fun q => hIED (e ▸ q)⟩
      · refine ⟨fun q => ?_, fun q => ?_⟩
        · rw [List.mem_singleton.mp e] at q
          obtain ⟨o, ho, _⟩ := ht
          have := (N₁ _ hIlt).2.2
          dsimp only at this
          rw [← q, ho] at this; cases this
        · rw [List.mem_singleton.mp e] at q
          obtain ⟨o, ho, _⟩ := ht
          have := (N₁ _ hElt).2.2
          dsimp only at this
          rw [← q, ho] at this; cases this
    have e : (fun y => if y = x then some v else m₁ y) = fun y => if y = x then some v else m y := by
      funext y
      by_cases h1 : y = x
      · simp [h1]
      · simp only [if_neg h1]; exact hJ y h1
    rw [e] at F₁
    have N₂ : News g env.locals hh' ((RL, listOf us₁.toArray n₁) :: (ED, o₁) :: (own ++ rest₁)) := News.sub N₁ fun p hp => by
      rcases List.mem_cons.mp hp with rfl | hp
      · exact hIlt
      · rcases List.mem_cons.mp hp with rfl | hp
        · exact hElt
        · rcases List.mem_append.mp hp with hp | hp
          · exact List.mem_append_left _ hp
          · exact List.mem_append_right _ (.tail _ (.tail _ hp))
    have up : ∀ a vs, LP g rest₁ a vs → LP g (own ++ rest₁) a vs := LP.sub fun p hp => List.mem_append_right _ hp
    refine wpAny_mono (turn i v hh' tk' us₁ n₁ o₁ kvs₁ (own ++ rest₁) hin hP (fun p hp hr h2 => List.mem_append_right _ (hsub₁ p hp hr h2)) (fun p hp => (List.mem_append.mp hp).elim (hIL p) (hne₁ p)) F₁ N₂ (R₁.mono up) D₁ (S₁.mono up)) (fun f s₂ p => ?_) fun _ _ e => e
    have fin : TurnD w g env.locals RL ED x m (rs ++ (st (i + 1)).1) (st (i + 1)).2 (own ++ rest₁) s .next s₂ → LoopStepU g env.locals [s.heap.objs.size] own (J (i + 1)) { s with heap := hh', toks := tk' } .next s₂ := by
      intro hII
      refine an2 hII ?_
      clear hII
      intro _ hII
      refine ex8 hII ?_
      clear hII
      intro h' tk m' us' n' o' kvs' rest'
      intro hII
      refine an9 hII ?_
      clear hII
      intro eqO1
      subst eqO1
      intro F' hm' N' hne₂ hs₂ R₂ D₂ S₂
      have hI := hown
      have hiton : ∀ p ∈ own, p ∈ rest' := fun p hp => hs₂ p (List.mem_append_left _ hp) (hIL p hp).1 (hIL p hp).2
      obtain ⟨oi, hoi, hci, _⟩ := hit
      have hIown : (s.heap.objs.size, oi) ∈ own := hall _ (.head _) (next_is_new F) _ hoi
      have hI' : h'.get? s.heap.objs.size = some oi := (N' _ (.tail _ (.tail _ (hiton _ hIown)))).1
      have hcne : oi.cls ≠ .type "tuple" := fun q => by rw [hci] at q; exact absurd (Value.type.inj q) (by decide)
      have flt : ∀ a vs, LP g rest' a vs → LP g (rest'.filter fun p => decide (p.1 ≠ s.heap.objs.size)) a vs := LP.filter (News.sub N' fun p hp => .tail _ (.tail _ hp)) hI' hcne
      refine ⟨rfl, h', tk, m', (RL, listOf us'.toArray n') :: (ED, o') :: (rest'.filter fun p => decide (p.1 ≠ s.heap.objs.size)), rfl, F', fun p hp => ?_, fun p hp q => ?_, us', n', o', kvs', _, rfl, fun p hp => hne₂ p (List.mem_filter.mp hp).1, fun p hp hr hr2 => ?_, R₂.mono flt, D₂, S₂.mono flt, hm'⟩
      · rcases List.mem_append.mp hp with hp | hp
        · exact N' p (.tail _ (.tail _ (hiton p hp)))
        · rcases List.mem_cons.mp hp with rfl | hp
          · exact N' _ (.head _)
          · rcases List.mem_cons.mp hp with rfl | hp
            · exact N' _ (.tail _ (.head _))
            · exact N' p (.tail _ (.tail _ (List.mem_filter.mp hp).1))
      · rcases List.mem_cons.mp hp with rfl | hp
        · exact hIRL (List.mem_singleton.mp q).symm
        · rcases List.mem_cons.mp hp with rfl | hp
          · exact hIED (List.mem_singleton.mp q).symm
          · exact of_decide_eq_true (List.mem_filter.mp hp).2 (List.mem_singleton.mp q)
      · refine List.mem_filter.mpr ⟨hs₂ p (List.mem_append_right _ (hsub₁ p hp hr hr2)) hr hr2, decide_eq_true fun q => ?_⟩
        have h3 := hsub₁ p hp hr hr2
        exact hoff p (.tail _ (.tail _ h3)) (by rw [q]; exact .head _)
    obtain ⟨hf, r⟩ := id p
    rcases hf with rfl | rfl
    · exact .next (fin ⟨.inl rfl, r⟩)
    · exact .cont (fin ⟨.inl rfl, r⟩)
  · intro h' tk m' nw F' N' _ hII
    refine ex5 hII ?_
    clear hII
    intro us' n' o' kvs' rest'
    intro hII
    refine an7 hII ?_
    clear hII
    intro eqO1
    subst eqO1
    intro hne' hsub' R' D' S' hJ
    exact done h' tk (m' x) us' n' o' kvs' rest' hsub' hne' (fr_known F' hJ) N' R' D' S'
end

theorem words_19 : True := by
  k_with "m:Mine.dturn" => (((try k_unfold); (try dsimp only); exact TurnD.intro))
  exact trivial
inductive St where
  | set (pos : Int) (l r : Idn)
  | delay (pos : Int) (e : Idn) (s : St)
  | block (pos : Int) (lab : Option Str) (ss : List St)
noncomputable def LabAt (v : Value) : Option Str → Prop
  | none => v = .none
  | some l => ∃ t, v = .str l t
mutual
noncomputable def StAt (T : TP) (v : Value) : St → Prop
  | .set i l r => ∃ a t1 t2 lv ev, v = .ref a ∧ T a #[.str (Str.ofString "set") t1, .int i t2, lv, ev, .none] ∧ IdAt T lv l ∧ IdAt T ev r
  | .delay i e s => ∃ a t1 t2 ev sv, v = .ref a ∧ T a #[.str (Str.ofString "delay") t1, .int i t2, ev, sv] ∧ IdAt T ev e ∧ StAt T sv s
  | .block i lab ss => ∃ a t1 t2 lv e0 b items, v = .ref a ∧ T a #[.str (Str.ofString "block") t1, .int i t2, lv, .ref e0, .ref b] ∧ LabAt lv lab ∧ T e0 #[] ∧ T b (List.toArray items) ∧ StsAt T items ss
noncomputable def StsAt (T : TP) (vs : List Value) : List St → Prop
  | [] => vs = []
  | s :: ss => ∃ v r, vs = v :: r ∧ StAt T v s ∧ StsAt T r ss
end
mutual
noncomputable def labs : St → List (Str × Int)
  | .set .. => []
  | .delay _ _ s => labs s
  | .block i (some l) _ => [(l, i)]
  | .block _ none ss => labsL ss
noncomputable def labsL : List St → List (Str × Int)
  | [] => []
  | s :: ss => labs s ++ labsL ss
end
mutual
noncomputable def ht : St → Nat
  | .set .. => 0
  | .delay _ _ s => ht s + 1
  | .block _ _ ss => htL ss + 1
noncomputable def htL : List St → Nat
  | [] => 0
  | s :: ss => max (ht s) (htL ss)
end
theorem StsAt.list {T : TP} : ∀ {vs : List Value} {ss : List St}, StsAt T vs ss → ListAt (StAt T) vs ss
  | vs, [], h => by
    unfold StsAt at h
    subst h; trivial
  | vs, s :: ss, h => by
    unfold StsAt at h
    refine ex2 h ?_
    clear h
    intro v r
    intro hII
    refine an3 hII ?_
    clear hII
    intro eqO1
    subst eqO1
    intro a b
    exact ⟨a, StsAt.list b⟩
theorem htL_get {ss : List St} {n : Nat} (h : htL ss ≤ n) : ∀ {i : Nat} {s : St}, ss[i]? = some s → ht s ≤ n := by
  induction ss with
  | nil => intro i s e; simp at e
  | cons a r ih =>
    intro i s e
    unfold htL at h
    cases i with
    | zero => cases e; omega
    | succ i => exact ih (by omega) (i := i) e
mutual
theorem StAt.mono {T T' : TP} (h : ∀ a vs, T a vs → T' a vs) {v : Value} : ∀ {s : St}, StAt T v s → StAt T' v s
  | .set .., x => by
    unfold StAt at x ⊢
    refine ex5 x ?_
    clear x
    intro a t1 t2 lv ev
    intro hII
    refine an4 hII ?_
    clear hII
    intro e p q r
    exact mk5 a t1 t2 lv ev ⟨e, h _ _ p, q.mono h, r.mono h⟩
  | .delay _ _ s, x => by
    unfold StAt at x ⊢
    refine ex5 x ?_
    clear x
    intro a t1 t2 ev sv
    intro hII
    refine an4 hII ?_
    clear hII
    intro e p q r
    exact mk5 a t1 t2 ev sv ⟨e, h _ _ p, q.mono h, StAt.mono h r⟩
  | .block _ _ ss, x => by
    unfold StAt at x ⊢
    refine ex7 x ?_
    clear x
    intro a t1 t2 lv e0 b items
    intro hII
    refine an6 hII ?_
    clear hII
    intro e p q r u z
    exact mk7 a t1 t2 lv e0 b items ⟨e, h _ _ p, q, h _ _ r, h _ _ u, StsAt.mono h z⟩
theorem StsAt.mono {T T' : TP} (h : ∀ a vs, T a vs → T' a vs) {vs : List Value} : ∀ {ss : List St}, StsAt T vs ss → StsAt T' vs ss
  | [], x => by unfold StsAt at x ⊢; exact x
  | s :: ss, x => by
    unfold StsAt at x ⊢
    refine ex2 x ?_
    clear x
    intro v r
    intro hII
    refine an3 hII ?_
    clear hII
    intro e p q
    exact ⟨v, r, e, StAt.mono h p, StsAt.mono h q⟩
end


theorem words_20 : True := by
  k_with "m:call ref" => ((k_here; k_dflt (refine' DeclsAt.useA (add_label_spec (by k_asm) (by k_asm) (by k_asm) _ _ _ _ _) ?_); intros))
  k_with "m:call ref" => ((k_here; k_dflt (refine' DeclsAt.useA (by with_reducible assumption) ?_); intros))
  exact trivial
noncomputable def actLabs : List (Str × Int) → Sc → List Row × Sc
  | [], es => ([], es)
  | (k, i) :: r, es => ((actLabel k i es).1 ++ (actLabs r (actLabel k i es).2).1, (actLabs r (actLabel k i es).2).2)
theorem actLabs_append (a b : List (Str × Int)) (es : Sc) : actLabs (a ++ b) es = ((actLabs a es).1 ++ (actLabs b (actLabs a es).2).1, (actLabs b (actLabs a es).2).2) := by
  induction a generalizing es with
  | nil => rfl
  | cons p r ih =>
    obtain ⟨k, i⟩ := p
    show actLabs ((k, i) :: (r ++ b)) es = _
    simp only [actLabs, ih, List.append_assoc]
theorem actLabs_one (k : Str) (i : Int) (es : Sc) : actLabs [(k, i)] es = actLabel k i es := by
  simp only [actLabs, List.append_nil]
theorem look_put {es : Sc} {k : Str} {e : Ent} {j : Str} {e' : Ent} (h : look (put es k e) j = some e') : (j = k ∧ e' = e) ∨ look es j = some e' := by
  unfold put at h
  split at h
  · induction es with
    | nil => exact .inr h
    | cons p r ih =>
      obtain ⟨a, b⟩ := p
      unfold look at h ih ⊢
      simp only [List.map_cons, List.find?_cons] at h ⊢
      by_cases q : a = k
      · by_cases q2 : a = j
        · simp only [q, if_true] at h
          rw [q] at q2
          simp only [q2, decide_true, Option.map_some, Option.some.injEq] at h
          exact .inl ⟨q2.symm, h.symm⟩
        · simp only [q, if_true] at h
          rw [q] at q2
          simp only [q, q2, decide_false] at h ⊢
          by_cases hr : (r.any fun p => decide (p.1 = k)) = true
          · exact ih hr h
          · have e : (r.map fun p => if p.1 = k then (p.1, e) else p) = r := by
              refine (List.map_congr_left fun p hp => ?_).trans (List.map_id r)
              refine if_neg fun hc => hr ?_
              exact List.any_eq_true.mpr ⟨p, hp, decide_eq_true hc⟩
            rw [e] at h
            exact .inr h
      · by_cases q2 : a = j
        · subst q2
          simp only [if_neg q, decide_true, Option.map_some] at h ⊢
          exact .inr h
        · simp only [if_neg q, q2, decide_false] at h ⊢
          rename_i hany
          simp only [List.any_cons, q, decide_false, Bool.false_or] at hany
          exact ih hany h
  · unfold look at h ⊢
    rw [List.find?_append] at h
    cases q : es.find? fun p => decide (p.1 = j) with
    | some p => rw [q] at h; exact .inr h
    | none =>
      rw [q] at h
      simp only [Option.none_or, List.find?_cons] at h
      by_cases q2 : k = j
      · simp only [q2, decide_true, Option.map_some, Option.some.injEq] at h
        exact .inl ⟨q2.symm, h.symm⟩
      · simp only [q2, decide_false, List.find?_nil, Option.map_none] at h
        cases h
theorem GoodSc.put {es : Sc} (G : GoodSc es) (k : Str) {e : Ent} (he : GoodE e) : GoodSc (put es k e) := fun j e' h => by
  rcases look_put h with ⟨_, rfl⟩ | h
  · exact he
  · exact G _ _ h
theorem GoodSc.label {es : Sc} (G : GoodSc es) (k : Str) (i : Int) : GoodSc (actLabel k i es).2 := by
  unfold actLabel
  cases look es k with
  | none => exact G.put k (.inr (.inr ⟨rfl, _, rfl⟩))
  | some _ => exact G
theorem GoodSc.labels : ∀ (ls : List (Str × Int)) {es : Sc}, GoodSc es → GoodSc (actLabs ls es).2
  | [], _, G => G
  | (k, i) :: r, _, G => GoodSc.labels r (G.label k i)
theorem label_len (k : Str) (i : Int) (es : Sc) : es.length ≤ (actLabel k i es).2.length := by
  unfold actLabel
  cases look es k with
  | none => exact put_len _ _ _
  | some _ => exact Nat.le_refl _
theorem labels_len : ∀ (ls : List (Str × Int)) (es : Sc), es.length ≤ (actLabs ls es).2.length
  | [], _ => Nat.le_refl _
  | (k, i) :: r, es => Nat.le_trans (label_len k i es) (labels_len r _)
noncomputable def stLabs (ss : List St) (es : Sc) (i : Nat) : List Row × Sc := actLabs (labsL (ss.take i)) es
theorem labsL_append : ∀ (a b : List St), labsL (a ++ b) = labsL a ++ labsL b
  | [], b => rfl
  | s :: a, b => by
    show labsL (s :: (a ++ b)) = labsL (s :: a) ++ labsL b
    simp only [labsL, labsL_append a b, List.append_assoc]
theorem stLabs_succ {ss : List St} {es : Sc} {i : Nat} {s : St} (h : ss[i]? = some s) : stLabs ss es (i + 1) = ((stLabs ss es i).1 ++ (actLabs (labs s) (stLabs ss es i).2).1, (actLabs (labs s) (stLabs ss es i).2).2) := by
  have e : labsL (ss.take (i + 1)) = labsL (ss.take i) ++ labs s := by
    rw [List.take_add_one, h, labsL_append]
    simp only [Option.toList_some, labsL, List.append_nil]
  unfold stLabs
  rw [e, actLabs_append]
theorem stLabs_lim (ss : List St) (es : Sc) (i : Nat) : (stLabs ss es i).1.length ≤ (actLabs (labsL ss) es).1.length ∧ (stLabs ss es i).2.length ≤ (actLabs (labsL ss) es).2.length := by
  have e : labsL ss = labsL (ss.take i) ++ labsL (ss.drop i) := by rw [← labsL_append, List.take_append_drop]
  unfold stLabs
  rw [e, actLabs_append]
  refine ⟨?_, labels_len _ _⟩
  rw [List.length_append]; exact Nat.le_add_right _ _
theorem stLabs_all (ss : List St) (es : Sc) : stLabs ss es ss.length = actLabs (labsL ss) es := by
  unfold stLabs
  rw [List.take_length]

theorem declare_labels_spec {w : World} {R RL x ED : Addr} {pv : Value} : ∀ (n : Nat) (g₀ : Heap) (sv : Value) (st : St), IsRep g₀ R RL → IsTabO g₀ x ED pv → (ED == sysModules) = false → ht st ≤ n → StAt (IsTup g₀) sv st →
    DeclsAt w 184 [.ref R, .ref x, sv] (40 + 10 * n) (400 + 100 * n) g₀ RL ED (actLabs (labs st)) := by
  intro nn
  induction nn with
  | zero =>
    intro g₀ sv st hrep htab lo hst hs
    cases st with
    | set ip l r =>
      walk_at "Mine.decls"
      intro mean mg mb dp un gd outer A₀ base g L h₁ s us n rs o kvs es Qe B F X Tp hd hu N R' D S G hlim hlim2 hRE hg
      have hs := hs.mono (tup_keeps hg)
      unfold StAt at hs
      refine hide_of ?_
      intro Gh
      refine ex5 hs ?_
      clear hs
      intro a t1 t2 lv ev
      intro hII
      refine an4 hII ?_
      clear hII
      intro e hE h1 h2
      k_unfold
      subst e
      dsimp only [fnOf, List.map, List.zip, List.zipWith, List.reverse, List.reverseAux, List.append, HAppend.hAppend, Append.append] at F
      refine fr_let F ?_
      clear F
      intro m0 F
      unfold labs actLabs at hlim hlim2 ⊢
      walk_at "Mine.in"
      all_goals walk_at "Mine.ddone"
    | delay ip e s => simp [ht] at hst
    | block ip lab ss => simp [ht] at hst
  | succ nn ih =>
    intro g₀ sv st hrep htab lo hst hs
    walk_at "Mine.decls"
    intro mean mg mb dp un gd outer A₀ base g L h₁ s us n rs o kvs es Qe B F X Tp hd hu N R' D S G hlim hlim2 hRE hg
    have hrep := hrep.keeps hg
    have htab := htab.keeps hg
    have hs := hs.mono (tup_keeps hg)
    dsimp only [fnOf, List.map, List.zip, List.zipWith, List.reverse, List.reverseAux, List.append, HAppend.hAppend, Append.append] at F
    refine fr_let F ?_
    clear F
    intro m0 F
    cases st with
    | set ip l r =>
      unfold StAt at hs
      refine hide_of ?_
      intro Gh
      refine ex5 hs ?_
      clear hs
      intro a t1 t2 lv ev
      intro hII
      refine an4 hII ?_
      clear hII
      intro e hE h1 h2
      k_unfold
      subst e
      unfold labs actLabs at hlim hlim2 ⊢
      walk_at "Mine.in"
      all_goals walk_at "Mine.ddone"
    | delay ip e s =>
      unfold StAt at hs
      refine hide_of ?_
      intro Gh
      refine ex5 hs ?_
      clear hs
      intro a t1 t2 ev sv
      intro hII
      refine an4 hII ?_
      clear hII
      intro e hE h1 h2
      k_unfold
      subst e
      have hC := ih g sv s hrep htab lo (by unfold ht at hst; omega) h2
      unfold labs at hlim hlim2 ⊢
      walk_at "Mine.in"
      all_goals walk_at "Mine.ddone"
    | block ip lab ss =>
      unfold StAt at hs
      refine hide_of ?_
      intro Gh
      refine ex7 hs ?_
      clear hs
      intro a t1 t2 lv e0 b items
      intro hII
      refine an6 hII ?_
      clear hII
      intro e hE hl hE0 hB hss
      k_unfold
      subst e
      cases lab with
      | some l =>
        refine hide_of ?_
        intro Gh
        obtain ⟨t3, e⟩ := hl
        k_unfold
        subst e
        unfold labs at hlim hlim2 ⊢
        rw [actLabs_one] at hlim hlim2 ⊢
        walk_at "Mine.in"
        all_goals walk_at "Mine.ddone"
      | none =>
        have e : lv = .none := hl
        subst e
        unfold labs at hlim hlim2 ⊢
        have hN0 : ∀ p ∈ ([] : List (Addr × Obj)), p.1 ≠ RL ∧ p.1 ≠ ED := fun p hp => (List.not_mem_nil hp).elim
        walk_at "Mine.in"
        refine iter_decls (stLabs ss es) rfl rfl hB (by k_asm) (by k_asm) hN0 (by k_asm) (by k_asm) (by k_asm) (fun i v h tk us n o kvs rest' hi hv hsub hne F' N' R' D' S' => ?_) (fun h tk u us n o kvs rest' hsub hne F' N' R' D' S' => ?_)
        · refine hide_of ?_
          intro Gh
          obtain ⟨d, hd', hid⟩ := hss.list.get (i := i) (v := v) (by simpa using hv)
          k_unfold
          have hh : ht d ≤ nn := htL_get (by unfold ht at hst; omega) hd'
          have hC := ih g v d hrep htab lo hh hid
          have hgd : GoodSc (stLabs ss es i).2 := GoodSc.labels _ G
          have hl1 := stLabs_lim ss es (i + 1)
          rw [stLabs_succ hd'] at hl1 ⊢
          dsimp only at hl1 ⊢
          rw [List.length_append] at hl1
          have hm1 : (rs ++ (stLabs ss es i).1).length + (actLabs (labs d) (stLabs ss es i).2).1.length ≤ LIM := by rw [List.length_append]; omega
          have hm2 : (actLabs (labs d) (stLabs ss es i).2).2.length ≤ LIM := by omega
          walk_at "Mine.in"
          all_goals walk_at "Mine.dturn"
        · rw [show items.toArray.size = ss.length from by simpa using hss.list.length, stLabs_all] at R' S'
          walk_at "Mine.in"
          all_goals walk_at "Mine.ddone"

theorem lp_c1 {g : Heap} {I : List (Addr × Obj)} {p : Addr × Obj} : ∀ a vs, LP g I a vs → LP g (p :: I) a vs := LP.sub fun _ hp => .tail _ hp
theorem lp_c2 {g : Heap} {I : List (Addr × Obj)} {p q : Addr × Obj} : ∀ a vs, LP g I a vs → LP g (p :: q :: I) a vs := LP.sub fun _ hp => .tail _ (.tail _ hp)
theorem words_21 : True := by
  k_with "m:Mine.R" => (first | exact RowsIn.mono lp_c1 (by k_asm) | exact RowsIn.mono lp_c2 (by k_asm))
  k_with "m:Mine.S" => (first | exact ScIn.mono lp_c1 (by k_asm) | exact ScIn.mono lp_c2 (by k_asm))
  exact trivial
theorem News.sw1 {h₀ h : Heap} {L : Addr} {a b : Addr × Obj} {I : List (Addr × Obj)} (N : News h₀ L h (a :: b :: I)) : News h₀ L h (b :: a :: I) := News.sub N fun p hp => by
  simp only [List.mem_cons] at hp ⊢
  rcases hp with h | h | h <;> simp [h]
theorem News.sw3 {h₀ h : Heap} {L : Addr} {a b c d : Addr × Obj} {I : List (Addr × Obj)} (N : News h₀ L h (a :: b :: c :: d :: I)) : News h₀ L h (d :: a :: b :: c :: I) := News.sub N fun p hp => by
  simp only [List.mem_cons] at hp ⊢
  rcases hp with h | h | h | h | h <;> simp [h]
theorem ghost {h₀ h : Heap} {L : Addr} {m : Str → Option Value} {I : List (Addr × Obj)} (F : Fr h₀ L h m) (N : News h₀ L h I) :
    ∃ G : Heap, (∀ b o, h₀.get? b = some o → G.get? b = some o) ∧ (∀ p ∈ I, G.get? p.1 = some p.2) ∧ ∀ b o, G.get? b = some o → h₀.get? b = some o ∨ (b, o) ∈ I := by
  let ex := (List.range h.objs.size).filter fun b => (h₀.get? b).isNone && decide (b ∉ I.map (·.1))
  have hex : ∀ b, b ∈ ex → (h₀.get? b).isNone = true ∧ b ∉ I.map (·.1) := fun b hb => by
    have := (List.mem_filter.mp hb).2
    rw [Bool.and_eq_true] at this
    exact ⟨this.1, of_decide_eq_true this.2⟩
  refine ⟨hideAll h ex, fun b o e => hideAll_get _ (F.keep _ _ e) fun hb => ?_, fun p hp => hideAll_get _ (N p hp).1 fun hb => (hex _ hb).2 (List.mem_map_of_mem hp), fun b o e => ?_⟩
  · have := (hex _ hb).1
    rw [e] at this; cases this
  · have e' := of_hideAll _ e
    have hb : b ∉ ex := fun hb => by rw [hideAll_none _ hb] at e; cases e
    cases q : h₀.get? b with
    | some o' =>
      have := F.keep _ _ q
      rw [e'] at this
      cases this
      exact .inl rfl
    | none =>
      refine .inr ?_
      have : b ∈ I.map (·.1) := Classical.byContradiction fun hc => hb (List.mem_filter.mpr ⟨List.mem_range.mpr (Heap.lt_size e'), by rw [q]; simp only [Option.isNone_none, Bool.true_and]; exact decide_eq_true hc⟩)
      obtain ⟨p, hp, rfl⟩ := List.mem_map.mp this
      have h2 := (N p hp).1
      rw [e'] at h2
      cases h2
      exact hp
/-- the ghost of a heap: the base and the given cells, and nothing else -/
noncomputable def Ghost (h₀ : Heap) (I : List (Addr × Obj)) (G : Heap) : Prop := (∀ b o, h₀.get? b = some o → G.get? b = some o) ∧ (∀ p ∈ I, G.get? p.1 = some p.2) ∧ ∀ b o, G.get? b = some o → h₀.get? b = some o ∨ (b, o) ∈ I
theorem Ghost.keep {h₀ h G : Heap} {L : Addr} {m : Str → Option Value} {I J : List (Addr × Obj)} (g : Ghost h₀ I G) (F : Fr h₀ L h m) (N : News h₀ L h J) (hs : ∀ p ∈ I, p ∈ J) : ∀ b o, G.get? b = some o → h.get? b = some o := fun b o e => by
  rcases g.2.2 b o e with q | q
  · exact F.keep _ _ q
  · exact (N _ (hs _ q)).1
theorem Ghost.lp {h₀ G : Heap} {I : List (Addr × Obj)} (g : Ghost h₀ I G) : ∀ a vs, LP h₀ I a vs → IsTup G a vs
  | _, _, .inl x => x.keeps g.1
  | _, _, .inr ⟨o, m, c, d⟩ => ⟨o, g.2.1 _ m, c, d⟩
theorem Ghost.none {h₀ h G : Heap} {L a : Addr} {I : List (Addr × Obj)} {o : Obj} {J : List (Addr × Obj)} (g : Ghost h₀ I G) (N : News h₀ L h J) (ha : (a, o) ∈ J) (hne : ∀ p ∈ I, p.1 ≠ a) : G.get? a = .none := by
  cases q : G.get? a with
  | none => rfl
  | some o' =>
    rcases g.2.2 _ _ q with r | r
    · have := (N _ ha).2.2
      dsimp only at this
      rw [this] at r; cases r
    · exact absurd rfl (hne _ r)

theorem words_22 : True := by
  k_with "m:Mine.N1" => (first | exact News.sw1 (by k_asm) | exact News.sw3 (by k_asm))
  k_with "m:Mine.hg" => (k_asm)
  k_with "m:Mine.hRL" => (first | exact none_of_news (News.sw1 (by k_asm)) | exact none_of_news (News.sw3 (by k_asm)) | k_asm)
  k_with "m:call ref" => ((k_here; k_dflt (refine' EmitsAt.useA (check_expr_spec (by k_asm) (by k_asm) (by k_asm)) ?_); intros))
  k_with "m:call ref" => ((k_here; k_dflt (refine' EmitsAt.useA (check_target_spec (by k_asm) (by k_asm) (by k_asm) (by k_asm)) ?_); intros))
  k_with "m:call ref" => ((k_here; k_dflt (refine' EmitsAt.useA (add_spec (by k_asm) _ _ _ _ _ _) ?_); intros))
  k_with "m:call ref" => ((k_here; k_dflt (refine' EmitsAt.useA (by with_reducible assumption) ?_); intros))
  exact trivial
mutual
noncomputable def sz : St → Nat
  | .set .. => 1
  | .delay _ _ s => sz s + 1
  | .block _ _ ss => szL ss + 1
noncomputable def szL : List St → Nat
  | [] => 0
  | s :: ss => sz s + szL ss
end
mutual
theorem labs_sz : ∀ s, (labs s).length ≤ sz s
  | .set .. => by simp only [labs, List.length_nil]; exact Nat.zero_le _
  | .delay _ _ s => by
    have := labs_sz s
    simp only [labs, sz]; omega
  | .block _ (some _) _ => by simp only [labs, sz, List.length_cons, List.length_nil]; omega
  | .block _ none ss => by
    have := labsL_sz ss
    simp only [labs, sz]; omega
theorem labsL_sz : ∀ ss, (labsL ss).length ≤ szL ss
  | [] => Nat.le_refl _
  | s :: ss => by
    have h1 := labs_sz s
    have h2 := labsL_sz ss
    simp only [labsL, szL, List.length_append]; omega
end
theorem szL_get {ss : List St} : ∀ {i : Nat} {s : St}, ss[i]? = some s → sz s ≤ szL ss := by
  induction ss with
  | nil => intro i s e; simp at e
  | cons a r ih =>
    intro i s e
    unfold szL
    cases i with
    | zero => cases e; omega
    | succ i => have := ih (i := i) e; omega
theorem labels_le : ∀ (ls : List (Str × Int)) (es : Sc), (actLabs ls es).2.length ≤ es.length + ls.length
  | [], _ => Nat.le_refl _
  | (k, i) :: r, es => by
    have h := labels_le r (actLabel k i es).2
    have h2 : (actLabel k i es).2.length ≤ es.length + 1 := by
      unfold actLabel
      cases look es k with
      | none =>
        unfold put
        dsimp only
        split
        · rw [List.length_map]; omega
        · rw [List.length_append, List.length_singleton]; exact Nat.le_refl _
      | some _ => dsimp only; omega
    simp only [actLabs, List.length_cons]; omega
theorem GoodT.cons {es : Sc} {T : List Sc} (h : GoodSc es) (hT : GoodT T) : GoodT (es :: T) := fun k e q => by
  unfold findT at q
  cases r : look es k with
  | some e' => rw [r] at q; cases q; exact h _ _ r
  | none => rw [r] at q; exact hT _ _ q
theorem GoodSc.nil : GoodSc [] := fun _ _ q => by cases q
mutual
noncomputable def bodyRows (T : List Sc) (wait : Bool) : St → List Row
  | .set _ l r => targetRows T l ++ exprRows T r
  | .delay i e s => (if wait then [] else [⟨Str.ofString "timing_in_function", i, Str.ofString ""⟩]) ++ (exprRows T e ++ bodyRows T wait s)
  | .block _ (some _) ss => (actLabs (labsL ss) []).1 ++ bodyRowsL ((actLabs (labsL ss) []).2 :: T) wait ss
  | .block _ none ss => bodyRowsL T wait ss
noncomputable def bodyRowsL (T : List Sc) (wait : Bool) : List St → List Row
  | [] => []
  | s :: ss => bodyRows T wait s ++ bodyRowsL T wait ss
end
theorem bodyRowsL_eq (T : List Sc) (wait : Bool) : ∀ ss, bodyRowsL T wait ss = ss.flatMap (bodyRows T wait)
  | [] => by simp only [bodyRowsL, List.flatMap_nil]
  | s :: ss => by simp only [bodyRowsL, List.flatMap_cons, bodyRowsL_eq T wait ss]

theorem check_stmt_spec {w : World} {R RL : Addr} (n : Nat) (blk : ∀ (g₀ : Heap) (tv sv : Value) (T : List Sc) (wait : Bool) (ip : Int) (lab : Option Str) (ss : List St), IsRep g₀ R RL → IsTab w g₀ tv T → GoodT T → htL ss < n → szL ss ≤ LIM → StAt (IsTup g₀) sv (.block ip lab ss) →
      EmitsAt w 198 [.ref R, tv, sv, .bool wait] (40 + 20 * n) (400 + 200 * n) g₀ RL (bodyRows T wait (.block ip lab ss)))
    (ih : ∀ (g₀ : Heap) (tv sv : Value) (T : List Sc) (wait : Bool) (st : St), IsRep g₀ R RL → IsTab w g₀ tv T → GoodT T → ht st < n → sz st ≤ LIM → StAt (IsTup g₀) sv st → EmitsAt w 191 [.ref R, tv, sv, .bool wait] (30 + 20 * n) (300 + 200 * n) g₀ RL (bodyRows T wait st))
    (g₀ : Heap) (tv sv : Value) (T : List Sc) (wait : Bool) (st : St) (hrep : IsRep g₀ R RL) (htab : IsTab w g₀ tv T) (hgood : GoodT T) (hst : ht st ≤ n) (hz : sz st ≤ LIM) (hs : StAt (IsTup g₀) sv st) :
    EmitsAt w 191 [.ref R, tv, sv, .bool wait] (50 + 20 * n) (500 + 200 * n) g₀ RL (bodyRows T wait st) := by
  walk_at "Mine.emits"
  intro mean mg mb dp un gd outer A₀ base g L h₁ s us n' rs Qe B F X Tp hd hu N R' hlim hg
  have hrep := hrep.keeps hg
  have htab := htab.keeps hg
  have hs := hs.mono (tup_keeps hg)
  have hrep' := hrep
  refine hide_of ?_
  intro Gh
  refine hrep'.open ?_
  intro dx nn k1 k2 k3 w1 w2 w3 v1 v2 hRo hRd
  k_unfold
  dsimp only [fnOf, List.map, List.zip, List.zipWith, List.reverse, List.reverseAux, List.append, HAppend.hAppend, Append.append] at F
  refine fr_let F ?_
  clear F
  intro m0 F
  cases st with
  | set ip l r =>
    unfold StAt at hs
    refine hide_of ?_
    intro Gh
    refine ex5 hs ?_
    clear hs
    intro a t1 t2 lv ev
    intro hII
    refine an4 hII ?_
    clear hII
    intro e hE h1 h2
    k_unfold
    subst e
    unfold bodyRows at hlim ⊢
    cases wait
    all_goals
      walk_at "Mine.in"
      all_goals walk_at "Mine.done"
  | delay ip e st =>
    unfold StAt at hs
    refine hide_of ?_
    intro Gh
    refine ex5 hs ?_
    clear hs
    intro a t1 t2 ev sv
    intro hII
    refine an4 hII ?_
    clear hII
    intro e hE h1 h2
    k_unfold
    subst e
    have hC := ih g tv sv T wait st hrep htab hgood (by unfold ht at hst; omega) (by unfold sz at hz; omega) h2
    unfold bodyRows at hlim ⊢
    cases wait
    · simp only [Bool.false_eq_true, if_false] at hlim ⊢
      walk_at "Mine.in"
      all_goals walk_at "Mine.done"
    · simp only [if_true, List.nil_append] at hlim ⊢
      walk_at "Mine.in"
      all_goals walk_at "Mine.done"
  | block ip lab ss =>
    have hC := blk g tv sv T wait ip lab ss hrep htab hgood (by unfold ht at hst; omega) (by unfold sz at hz; omega) hs
    unfold StAt at hs
    refine hide_of ?_
    intro Gh
    refine ex7 hs ?_
    clear hs
    intro a t1 t2 lv e0 b items
    intro hII
    refine an6 hII ?_
    clear hII
    intro e hE hl hE0 hB hss
    k_unfold
    subst e
    cases wait
    all_goals
      walk_at "Mine.in"
      all_goals walk_at "Mine.done"

theorem ar_depth {dp un : Nat} {gd : Option (List Code)} {cn : Str} {cs : Scope} {L a : Addr} {ccd : Value} {cl : List (Str × Addr)} {outer : List Env} : (ktrTop dp un gd cn cs L a ccd cl outer).depth = dp := rfl
local macro_rules | `(tactic| k_room) => `(tactic| (first | exact room_z | exact room_d | (simp only [depth_under_make, depth_under_kw, depth_in1, depth_deeper, ar_depth]; walk_at "Mine.ar")))
section
variable {w : World} {A : Around} {E : Value → Shared → Prop} {Q : Flow → Shared → Prop} {s : Shared} {env : Env} {g : Heap} {x : Str} {body : List Stmt}
theorem iter_empty {m : Str → Option Value} {ax : Addr} {news : List (Addr × Obj)} (hh : A.handled = none) (ht : IsTup g ax #[]) (F : Fr g env.locals s.heap m) (N : News g env.locals s.heap news)
    (done : ∀ h tk, Fr g env.locals h m → News g env.locals h news → Q .next { s with heap := h, toks := tk }) :
    wpAny (MD w) A (pyIter (.ref ax)) (fun it s₂ => Looping w A g env x body Q E it s₂) E s := by
  have hts := F.tup ht
  have hlt : ax < g.objs.size := by obtain ⟨o, ho, _⟩ := ht; exact Heap.lt_size ho
  have hne' : ax ≠ s.heap.objs.size := Nat.ne_of_lt (Nat.lt_trans (Nat.lt_of_lt_of_le hlt F.above) F.ns.lt)
  refine wpAny_pyIter_tuple hts ?_
  have W := Walks.tuple (prog := PG) (w := w) hh s.heap.objs.size ax hne' #[]
  refine ⟨_, _, _, 0, _, _, m, news, fun i m₁ nw => nw = news ∧ m₁ = m, rfl, W, ?_, ?_, ?_, ⟨⟨_, Heap.get?_push_size _ rfl, rfl, rfl⟩, IsTup.push hts _⟩, F.push _, (fun p hp => ⟨Heap.get?_push_of_some _ (N p hp).1, (N p hp).2⟩), ⟨rfl, rfl⟩, ?_, ?_⟩
  · intro hm
    rcases List.mem_cons.mp hm with e | hm
    · exact absurd F.ns.lt (e ▸ Nat.lt_irrefl _)
    · exact absurd (Nat.lt_of_lt_of_le hlt F.above) ((List.mem_singleton.mp hm) ▸ Nat.lt_irrefl _)
  · intro b hb
    rw [List.mem_singleton.mp hb]
    exact next_is_new F
  · intro p hp hI
    exact absurd (Heap.lt_size (N p hp).1) ((List.mem_singleton.mp hI) ▸ Nat.lt_irrefl _)
  · rintro i v m₁ nw s₁ own hs hin
    exact absurd hin (Nat.not_lt_zero _)
  · rintro h' tk m' nw F' N' _ ⟨rfl, rfl⟩
    exact done h' tk F' N'
end
theorem Ghost.tab {g G : Heap} {I : List (Addr × Obj)} {x dx ED : Addr} {pv : Value} {k1 k2 : Int} {t1 t2 : Tok} {n : Nat} (gh : Ghost g I G) (h1 : (x, instObj 59 dx) ∈ I) (h2 : (dx, dictOf [⟨k1, .str (Str.ofString "parent") t1, pv⟩, ⟨k2, .str (Str.ofString "entries") t2, .ref ED⟩] n) ∈ I) : IsTabO G x ED pv :=
  ⟨dx, k1, k2, t1, t2, n, gh.2.1 _ h1, gh.2.1 _ h2⟩
theorem Ghost.chain {w : World} {g G : Heap} {I : List (Addr × Obj)} {x dx ED : Addr} {pv : Value} {k1 k2 : Int} {t1 t2 : Tok} {n : Nat} {o : Obj} {kvs : List (Str × Value)} {es : Sc} {T : List Sc} (gh : Ghost g I G) (h1 : (x, instObj 59 dx) ∈ I)
    (h2 : (dx, dictOf [⟨k1, .str (Str.ofString "parent") t1, pv⟩, ⟨k2, .str (Str.ofString "entries") t2, .ref ED⟩] n) ∈ I) (h3 : (ED, o) ∈ I) (D : o.IsDictOf (PySem.strKind PG w) kvs) (lo : (ED == sysModules) = false) (S : ScIn (LP g I) kvs es) (hT : IsTab w g pv T) : IsTab w G (.ref x) (es :: T) :=
  .cons (gh.2.1 _ h1) (gh.2.1 _ h2) (gh.2.1 _ h3) D lo (S.mono gh.lp) (hT.keeps gh.1)
theorem words_23 : True := by
  k_with "m:Mine.hED" => (k_asm)
  k_with "m:call ref" => ((k_here; k_dflt (refine' DeclsAt.useA (by with_reducible assumption) ?_); intros))
  exact trivial
theorem tab_ne {RL ED x dx : Addr} (l : x < ED ∧ dx < ED ∧ RL < ED) (l1 : RL < dx) (l2 : dx < x) : (x ≠ RL ∧ x ≠ ED) ∧ (dx ≠ RL ∧ dx ≠ ED) ∧ ED ≠ RL :=
  ⟨⟨Nat.ne_of_gt (Nat.lt_trans l1 l2), Nat.ne_of_lt l.1⟩, ⟨Nat.ne_of_gt l1, Nat.ne_of_lt l.2.1⟩, Nat.ne_of_gt l.2.2⟩
theorem two_ne {RL ED x dx : Addr} {o1 o2 : Obj} (h : (x ≠ RL ∧ x ≠ ED) ∧ (dx ≠ RL ∧ dx ≠ ED) ∧ ED ≠ RL) : ∀ p ∈ [(x, o1), (dx, o2)], p.1 ≠ RL ∧ p.1 ≠ ED := by
  intro p hp
  rcases List.mem_cons.mp hp with rfl | hp
  · exact h.1
  · rw [List.mem_singleton.mp hp]; exact h.2.1
theorem check_block_spec {w : World} {R RL : Addr} (n : Nat) 
    (ih : ∀ (g₀ : Heap) (tv sv : Value) (T : List Sc) (wait : Bool) (st : St), IsRep g₀ R RL → IsTab w g₀ tv T → GoodT T → ht st < n → sz st ≤ LIM → StAt (IsTup g₀) sv st → EmitsAt w 191 [.ref R, tv, sv, .bool wait] (30 + 20 * n) (300 + 200 * n) g₀ RL (bodyRows T wait st))
    (g₀ : Heap) (tv sv : Value) (T : List Sc) (wait : Bool) (ip : Int) (lab : Option Str) (ss : List St) (hrep : IsRep g₀ R RL) (htab : IsTab w g₀ tv T) (hgood : GoodT T) (hst : htL ss < n) (hz : szL ss ≤ LIM) (hs : StAt (IsTup g₀) sv (.block ip lab ss)) :
    EmitsAt w 198 [.ref R, tv, sv, .bool wait] (40 + 20 * n) (400 + 200 * n) g₀ RL (bodyRows T wait (.block ip lab ss)) := by
  walk_at "Mine.emits"
  intro mean mg mb dp un gd outer A₀ base g L h₁ s us n' rs Qe B F X Tp hd hu N R' hlim hg
  have hrep := hrep.keeps hg
  have htab := htab.keeps hg
  have hs := hs.mono (tup_keeps hg)
  have hth := htab.handed
  have hrep' := hrep
  refine hide_of ?_
  intro Gh
  refine hrep'.open ?_
  intro dx nn k1 k2 k3 w1 w2 w3 v1 v2 hRo hRd
  k_unfold
  dsimp only [fnOf, List.map, List.zip, List.zipWith, List.reverse, List.reverseAux, List.append, HAppend.hAppend, Append.append] at F
  refine fr_let F ?_
  clear F
  intro m0 F
  unfold StAt at hs
  refine hide_of ?_
  intro Gh
  refine ex7 hs ?_
  clear hs
  intro a t1 t2 lv e0 b items
  intro hII
  refine an6 hII ?_
  clear hII
  intro e hE hl hE0 hB hss
  k_unfold
  subst e
  have hsz : items.toArray.size = ss.length := by simpa using hss.list.length
  have hN0 : ∀ p ∈ ([] : List (Addr × Obj)), p.1 ≠ RL := fun p hp => (List.not_mem_nil hp).elim
  cases lab with
  | none =>
    have e : lv = .none := hl
    subst e
    unfold bodyRows at hlim ⊢
    rw [bodyRowsL_eq] at hlim ⊢
    walk_at "Mine.in"
    refine iter_rows (at_ ss (bodyRows T wait)) rfl hB (by k_asm) (by k_asm) hN0 (by k_asm) (fun i v h tk us n rest' hi hv hsub hne F' N' R' => ?_) (fun h tk u us n rest' hsub hne F' N' R' => ?_)
    · refine hide_of ?_
      intro Gh
      obtain ⟨d, hd', hid⟩ := hss.list.get (i := i) (v := v) (by simpa using hv)
      obtain ⟨hl, he⟩ := pre_lim (bodyRows T wait) ss hd' hlim
      k_unfold
      have hC := ih g tv v T wait d hrep htab hgood (Nat.lt_of_le_of_lt (htL_get (Nat.le_refl _) hd') hst) (Nat.le_trans (szL_get hd') hz) hid
      rw [he]
      walk_at "Mine.in"
      all_goals walk_at "Mine.turn"
    · rw [hsz, pre_at] at R'
      walk_at "Mine.in"
      all_goals walk_at "Mine.done"
  | some l =>
    refine hide_of ?_
    intro Gh
    obtain ⟨t3, e⟩ := hl
    k_unfold
    subst e
    unfold bodyRows at hlim ⊢
    rw [bodyRowsL_eq] at hlim ⊢
    walk_at "Mine.in"
    rename News g L _ ((_, _) :: (_, instObj 59 _) :: _) => N0
    rename Obj.IsDictOf (PySem.strKind PG w) _ [] => D0
    rename (_ == sysModules) = false => lo
    refine iter_empty rfl hE0 (by k_asm) N0 (fun h tk F0 N0 => ?_)
    rename_i x dy _ la lb _ _ _ _ _ _ _ _ _ ED _ o _ _ _ lc _ _ _ _ _ _ _ _
    have F0 : Fr g L h _ := F0
    have Nx : News g L h _ := News.sw3 N0
    clear N0
    obtain ⟨G2, hG2⟩ : ∃ G2, Ghost g _ G2 := ghost F0 (News.sub Nx fun p hp => .tail _ (.tail _ hp))
    have hx := tab_ne lc la lb
    have hg1 : G2.get? RL = none := hG2.none Nx (.head _) (fun p hp => (two_ne hx p hp).1)
    have hg2 : G2.get? ED = none := hG2.none Nx (.tail _ (.head _)) (fun p hp => (two_ne hx p hp).2)
    have hz2 : (actLabs (labsL ss) []).2.length ≤ LIM := Nat.le_trans (labels_le _ _) (by have := labsL_sz ss; simp only [List.length_nil, Nat.zero_add]; omega)
    rw [List.length_append] at hlim
    walk_at "Mine.in"
    refine iter_decls (stLabs ss []) rfl rfl hB (by k_asm) (by k_asm) (two_ne hx) (R'.mono lp_any) D0 trivial (fun i v h2 tk us n o kvs rest' hi hv hsub hne F' N' R' D' S' => ?_) (fun h3 tk u us n o kvs rest2 hsub hne F' N' R' D' S' => ?_)
    · refine hide_of ?_
      intro Gh
      obtain ⟨d, hd', hid⟩ := hss.list.get (i := i) (v := v) (by simpa using hv)
      k_unfold
      have hgk : ∀ b o, G2.get? b = some o → h2.get? b = some o := hG2.keep F' N' (fun p hp => .tail _ (.tail _ (hsub p hp (two_ne hx p hp).1 (two_ne hx p hp).2)))
      have hC := declare_labels_spec (w := w) (RL := RL) (htL ss) G2 v d (hrep.keeps hG2.1) (hG2.tab (.head _) (.tail _ (.head _))) lo (htL_get (Nat.le_refl _) hd') (hid.mono (tup_keeps hG2.1))
      have hgd : GoodSc (stLabs ss [] i).2 := GoodSc.labels _ GoodSc.nil
      have hl1 := stLabs_lim ss [] (i + 1)
      rw [stLabs_succ hd'] at hl1 ⊢
      dsimp only at hl1 ⊢
      rw [List.length_append] at hl1
      have hm1 : (rs ++ (stLabs ss [] i).1).length + (actLabs (labs d) (stLabs ss [] i).2).1.length ≤ LIM := by rw [List.length_append]; omega
      have hm2 : (actLabs (labs d) (stLabs ss [] i).2).2.length ≤ LIM := by omega
      walk_at "Mine.in"
      all_goals walk_at "Mine.dturn"
    · rw [hsz, stLabs_all] at R' S'
      walk_at "Mine.in"
      refine iter_empty rfl hE0 (by k_asm) (by k_asm) (fun h4 tk F4 N4 => ?_)
      have F4 : Fr g L h4 _ := F4
      have N4 : News g L h4 _ := N4
      obtain ⟨G4, hG4⟩ : ∃ G4, Ghost g _ G4 := ghost F4 (News.sub N4 fun p hp => .tail _ hp)
      have hx4 : ∀ p ∈ (ED, o) :: rest2, p.1 ≠ RL := fun p hp => by
        rcases List.mem_cons.mp hp with rfl | hp
        · exact hx.2.2
        · exact (hne p hp).1
      have hg4 : G4.get? RL = none := hG4.none N4 (.head _) hx4
      have hm0 := hsub _ (.head _) hx.1.1 hx.1.2
      have hm1 := hsub _ (.tail _ (.head _)) hx.2.1.1 hx.2.1.2
      have hT4 : IsTab w G4 (.ref x) ((actLabs (labsL ss) []).2 :: T) := hG4.chain (.tail _ hm0) (.tail _ hm1) (.head _) D' lo (S'.mono lp_c1) htab
      have hgood4 : GoodT ((actLabs (labsL ss) []).2 :: T) := GoodT.cons (GoodSc.labels _ GoodSc.nil) hgood
      have hlim4 : (rs ++ (actLabs (labsL ss) []).1).length + (ss.flatMap (bodyRows ((actLabs (labsL ss) []).2 :: T) wait)).length ≤ LIM := by rw [List.length_append]; omega
      walk_at "Mine.in"
      refine iter_rows (at_ ss (bodyRows ((actLabs (labsL ss) []).2 :: T) wait)) rfl hB (by k_asm) (by k_asm) hx4 (R'.mono lp_c1) (fun i v h5 tk us n rest' hi hv hsub hne F' N' R' => ?_) (fun h tk u us n rest' hsub hne F' N' R' => ?_)
      · refine hide_of ?_
        intro Gh
        obtain ⟨d, hd', hid⟩ := hss.list.get (i := i) (v := v) (by simpa using hv)
        obtain ⟨hl, he⟩ := pre_lim (bodyRows ((actLabs (labsL ss) []).2 :: T) wait) ss hd' hlim4
        k_unfold
        have hgk : ∀ b o, G4.get? b = some o → h5.get? b = some o := hG4.keep F' N' (fun p hp => .tail _ (hsub p hp (hx4 p hp)))
        have hC := ih G4 (.ref x) v ((actLabs (labsL ss) []).2 :: T) wait d (hrep.keeps hG4.1) hT4 hgood4 (Nat.lt_of_le_of_lt (htL_get (Nat.le_refl _) hd') hst) (Nat.le_trans (szL_get hd') hz) (hid.mono (tup_keeps hG4.1))
        rw [he]
        walk_at "Mine.in"
        all_goals walk_at "Mine.turn"
      · rw [hsz, pre_at] at R'
        walk_at "Mine.in"
        all_goals walk_at "Mine.done"

theorem check_stmt_all {w : World} {R RL : Addr} : ∀ (n : Nat) (g₀ : Heap) (tv sv : Value) (T : List Sc) (wait : Bool) (st : St), IsRep g₀ R RL → IsTab w g₀ tv T → GoodT T → ht st < n → sz st ≤ LIM → StAt (IsTup g₀) sv st →
    EmitsAt w 191 [.ref R, tv, sv, .bool wait] (30 + 20 * n) (300 + 200 * n) g₀ RL (bodyRows T wait st) := by
  intro n
  induction n with
  | zero => intro g₀ tv sv T wait st _ _ _ h; exact absurd h (Nat.not_lt_zero _)
  | succ n ih =>
    intro g₀ tv sv T wait st h1 h2 h3 h4 h5 h6
    have h := check_stmt_spec (w := w) (R := R) (RL := RL) n (fun g₀ tv sv T wait ip lab ss a b c d e f => check_block_spec n ih g₀ tv sv T wait ip lab ss a b c d e f) ih g₀ tv sv T wait st h1 h2 h3 (Nat.le_of_lt_succ h4) h5 h6
    rw [show 30 + 20 * (n + 1) = 50 + 20 * n by omega, show 300 + 200 * (n + 1) = 500 + 200 * n by omega]
    exact h

section
variable {w : World} {f : Addr} {vs : List Value} {dz uz : Nat} {RL ED : Addr}
theorem EmitsAt.useT {new : List Row}
    {mean : ExcName → Option Value} {mg mb : Str → Option Value} {dp un : Nat} {gd : Option (List Code)} {cn : Str} {cs : Scope} {a : Addr} {ccd : Value} {cl : List (Str × Addr)} {outer : List Env} {A₀ : Around} {base h₀ : Heap} {L : Addr} {m : Str → Option Value} {hs : Heap} {gs : Array GenState} {ds : Drawn} {ts : Nat} {os : OsState}
    {us : List Value} {n : Nat} {rs : List Row} {I : List (Addr × Obj)} {Q E : Value → Shared → Prop}
    (C : ∀ G, (∀ b o, h₀.get? b = some o → G.get? b = some o) → (∀ p ∈ I, p.1 ≠ RL → G.get? p.1 = some p.2) → (∀ a vs, LP h₀ I a vs → IsTup G a vs) → EmitsAt w f vs dz uz G RL new)
    (B : Below A₀ base outer h₀) (F : Fr h₀ L hs m) (X : (hd.heap_1 w.params).In h₀) (T : Top PV LS mean mg mb h₀) (hk : cs.kind = .function) (hd : dp + dz < recursionLimit) (hu : un + uz < cLine)
    (N : News h₀ L hs I) (hR : (RL, listOf us.toArray n) ∈ I) (R : RowsIn (LP h₀ I) us rs) (hlim : rs.length + new.length ≤ LIM)
    (ret : ∀ us' n' rest' h' tk', Fr h₀ L h' m → News h₀ L h' ((RL, listOf us'.toArray n') :: rest') → (∀ p ∈ rest', p.1 ≠ RL) → (∀ p ∈ I, p.1 ≠ RL → p ∈ rest') → RowsIn (LP h₀ rest') us' (rs ++ new) → Q .none ⟨h', gs, ds, tk', os⟩) :
    wpAny (MD w) (AR dp un gd cn cs L a ccd cl outer) (call (.ref f) vs) Q E ⟨hs, gs, ds, ts, os⟩ := by
  have oR := (N _ hR).1
  dsimp only at oR
  have flt : ∀ a vs, LP h₀ I a vs → LP h₀ (I.filter fun p => decide (p.1 ≠ RL)) a vs := LP.filter N oR tl_ne
  have N' : News h₀ L hs ((RL, listOf us.toArray n) :: I.filter fun p => decide (p.1 ≠ RL)) := fun p hp => by
    rcases List.mem_cons.mp hp with rfl | hp
    · exact N _ hR
    · exact N _ (List.mem_filter.mp hp).1
  have hne : ∀ p ∈ I.filter fun p => decide (p.1 ≠ RL), p.1 ≠ RL := fun p hp => of_decide_eq_true (List.mem_filter.mp hp).2
  obtain ⟨G, hG⟩ : ∃ G, Ghost h₀ _ G := ghost F (News.sub N' fun p hp => .tail _ hp)
  refine EmitsAt.use (C G hG.1 (fun p hp h => hG.2.1 p (List.mem_filter.mpr ⟨hp, decide_eq_true h⟩)) fun a vs x => hG.lp _ _ (flt _ _ x)) B F X T hk hd hu N' (R.mono flt) hlim (hG.keep F N' fun p hp => .tail _ hp) (hG.none N' (.head _) hne) ?_
  intro us' n' rest' h' tk' F' N'' hne' hsub R'
  exact ret us' n' rest' h' tk' F' N'' hne' (fun p hp h => hsub p (List.mem_filter.mpr ⟨hp, decide_eq_true h⟩) h) R'

theorem DeclsAt.useT {act : Sc → List Row × Sc}
    {mean : ExcName → Option Value} {mg mb : Str → Option Value} {dp un : Nat} {gd : Option (List Code)} {cn : Str} {cs : Scope} {a : Addr} {ccd : Value} {cl : List (Str × Addr)} {outer : List Env} {A₀ : Around} {base h₀ : Heap} {L : Addr} {m : Str → Option Value} {hs : Heap} {gs : Array GenState} {ds : Drawn} {ts : Nat} {os : OsState}
    {us : List Value} {n : Nat} {rs : List Row} {o : Obj} {kvs : List (Str × Value)} {es : Sc} {I : List (Addr × Obj)} {Q E : Value → Shared → Prop}
    (C : ∀ G, (∀ b o, h₀.get? b = some o → G.get? b = some o) → (∀ p ∈ I, p.1 ≠ RL → p.1 ≠ ED → G.get? p.1 = some p.2) → (∀ a vs, LP h₀ I a vs → IsTup G a vs) → DeclsAt w f vs dz uz G RL ED act)
    (B : Below A₀ base outer h₀) (F : Fr h₀ L hs m) (X : (hd.heap_1 w.params).In h₀) (T : Top PV LS mean mg mb h₀) (hk : cs.kind = .function) (hd : dp + dz < recursionLimit) (hu : un + uz < cLine)
    (N : News h₀ L hs I) (hR : (RL, listOf us.toArray n) ∈ I) (hE : (ED, o) ∈ I) (R : RowsIn (LP h₀ I) us rs) (D : o.IsDictOf (PySem.strKind PG w) kvs) (S : ScIn (LP h₀ I) kvs es) (Gd : GoodSc es) (hlim : rs.length + (act es).1.length ≤ LIM) (hlim2 : (act es).2.length ≤ LIM)
    (ret : ∀ us' n' o' kvs' rest' h' tk', Fr h₀ L h' m → News h₀ L h' ((RL, listOf us'.toArray n') :: (ED, o') :: rest') → (∀ p ∈ rest', p.1 ≠ RL ∧ p.1 ≠ ED) → (∀ p ∈ I, p.1 ≠ RL → p.1 ≠ ED → p ∈ rest') → RowsIn (LP h₀ rest') us' (rs ++ (act es).1) →
      o'.IsDictOf (PySem.strKind PG w) kvs' → ScIn (LP h₀ rest') kvs' (act es).2 → Q .none ⟨h', gs, ds, tk', os⟩) :
    wpAny (MD w) (AR dp un gd cn cs L a ccd cl outer) (call (.ref f) vs) Q E ⟨hs, gs, ds, ts, os⟩ := by
  have oR := (N _ hR).1
  have oE := (N _ hE).1
  dsimp only at oR oE
  have flt1 : ∀ a vs, LP h₀ I a vs → LP h₀ (I.filter fun p => decide (p.1 ≠ RL)) a vs := LP.filter N oR tl_ne
  have N1 : News h₀ L hs (I.filter fun p => decide (p.1 ≠ RL)) := News.sub N fun p hp => (List.mem_filter.mp hp).1
  have flt2 := LP.filter N1 oE (dict_ne D)
  have flt : ∀ a vs, LP h₀ I a vs → LP h₀ ((I.filter fun p => decide (p.1 ≠ RL)).filter fun p => decide (p.1 ≠ ED)) a vs := fun a vs x => flt2 _ _ (flt1 _ _ x)
  have hin : ∀ p ∈ I, p.1 ≠ RL → p.1 ≠ ED → p ∈ (I.filter fun p => decide (p.1 ≠ RL)).filter fun p => decide (p.1 ≠ ED) := fun p hp h1 h2 => List.mem_filter.mpr ⟨List.mem_filter.mpr ⟨hp, decide_eq_true h1⟩, decide_eq_true h2⟩
  have hne : ∀ p ∈ (I.filter fun p => decide (p.1 ≠ RL)).filter fun p => decide (p.1 ≠ ED), p.1 ≠ RL ∧ p.1 ≠ ED := fun p hp => ⟨of_decide_eq_true (List.mem_filter.mp (List.mem_filter.mp hp).1).2, of_decide_eq_true (List.mem_filter.mp hp).2⟩
  have N' : News h₀ L hs ((RL, listOf us.toArray n) :: (ED, o) :: (I.filter fun p => decide (p.1 ≠ RL)).filter fun p => decide (p.1 ≠ ED)) := fun p hp => by
    rcases List.mem_cons.mp hp with rfl | hp
    · exact N _ hR
    · rcases List.mem_cons.mp hp with rfl | hp
      · exact N _ hE
      · exact N1 _ (List.mem_filter.mp hp).1
  obtain ⟨G, hG⟩ : ∃ G, Ghost h₀ _ G := ghost F (News.sub N' fun p hp => .tail _ (.tail _ hp))
  refine DeclsAt.use (C G hG.1 (fun p hp h1 h2 => hG.2.1 p (hin p hp h1 h2)) fun a vs x => hG.lp _ _ (flt _ _ x)) B F X T hk hd hu N' (R.mono flt) D (S.mono flt) Gd hlim hlim2 (hG.keep F N' fun p hp => .tail _ (.tail _ hp)) (hG.none N' (.head _) fun p hp => (hne p hp).1) (hG.none N' (.tail _ (.head _)) fun p hp => (hne p hp).2) ?_
  intro us' n' o' kvs' rest' h' tk' F' N'' hne' hsub R' D' S'
  exact ret us' n' o' kvs' rest' h' tk' F' N'' hne' (fun p hp h1 h2 => hsub p (hin p hp h1 h2) h1 h2) R' D' S'
end

/-- a call at which the walk stops -/
noncomputable def CallStop (w : World) (A : Around) (f : Addr) (vs : List Value) (Q E : Value → Shared → Prop) (s : Shared) : Prop := wpAny (MD w) A (call (.ref f) vs) Q E s
theorem call_stop {w : World} {A : Around} {f : Addr} {vs : List Value} {Q E : Value → Shared → Prop} {s : Shared} (h : CallStop w A f vs Q E s) : wpAny (MD w) A (call (.ref f) vs) Q E s := h

noncomputable def OwnE (e : Ent) : Prop := (e.what = Str.ofString "var" ∧ ∃ d p q, e.inf = .sig d p q) ∨ (e.what = Str.ofString "block" ∧ ∃ i, e.inf = .num i)
noncomputable def OwnSc (es : Sc) : Prop := ∀ k e, look es k = some e → OwnE e
theorem OwnSc.good {es : Sc} (h : OwnSc es) : GoodSc es := fun k e q => by
  rcases h k e q with x | x
  · exact .inl x
  · exact .inr (.inr x)
theorem OwnSc.put {es : Sc} (G : OwnSc es) (k : Str) {e : Ent} (he : OwnE e) : OwnSc (put es k e) := fun j e' h => by
  rcases look_put h with ⟨_, rfl⟩ | h
  · exact he
  · exact G _ _ h
theorem OwnSc.label {es : Sc} (G : OwnSc es) (k : Str) (i : Int) : OwnSc (actLabel k i es).2 := by
  unfold actLabel
  cases look es k with
  | none => exact G.put k (.inr ⟨rfl, _, rfl⟩)
  | some _ => exact G
theorem OwnSc.labels : ∀ (ls : List (Str × Int)) {es : Sc}, OwnSc es → OwnSc (actLabs ls es).2
  | [], _, G => G
  | (k, i) :: r, _, G => OwnSc.labels r (G.label k i)
theorem OwnSc.nil : OwnSc [] := fun _ _ q => by cases q
theorem OwnSc.decl {es : Sc} (G : OwnSc es) (d : Decl) : OwnSc (actDecl d es).2 := by
  cases d with
  | port i dir ext nm =>
    show OwnSc (actPort nm i dir es).2
    unfold actPort
    cases q : look es nm with
    | none => exact G.put nm (e := ⟨Str.ofString "var", i, .sig dir true false⟩) (.inl ⟨rfl, _, _, _, rfl⟩)
    | some e =>
      obtain ⟨wh, ip, inf⟩ := e
      cases inf with
      | num j => exact G
      | sig d p v =>
        cases p with
        | true => exact G
        | false =>
          refine G.put nm (e := ⟨wh, ip, .sig dir true true⟩) (.inl ⟨?_, _, _, _, rfl⟩)
          rcases G _ _ q with ⟨h, _⟩ | ⟨_, j, h⟩
          · exact h
          · cases h
  | var i ext nm fo =>
    show OwnSc (actVar nm i es).2
    unfold actVar
    cases q : look es nm with
    | none => exact G.put nm (e := ⟨Str.ofString "var", i, .sig (Str.ofString "") false true⟩) (.inl ⟨rfl, _, _, _, rfl⟩)
    | some e =>
      obtain ⟨wh, ip, inf⟩ := e
      cases inf with
      | num j => exact G
      | sig d p v =>
        cases v with
        | true => exact G
        | false => exact G.put nm (e := ⟨Str.ofString "var", ip, .sig d true true⟩) (.inl ⟨rfl, _, _, _, rfl⟩)
noncomputable def Decl.name : Decl → Str
  | .port _ _ _ nm => nm
  | .var _ _ nm _ => nm
noncomputable def Decl.pos : Decl → Int
  | .port i _ _ _ => i
  | .var i _ _ _ => i
noncomputable def Decl.isPort : Decl → Bool
  | .port .. => true
  | .var .. => false
/-- a declaration's turn: a function's own name is no port's -/
noncomputable def actOne (fn : Bool) (nm : Str) (d : Decl) (es : Sc) : List Row × Sc :=
  if fn && d.isPort && decide (d.name = nm) then ([dupRow d.pos nm], es) else actDecl d es
noncomputable def actAll (fn : Bool) (nm : Str) : List Decl → Sc → List Row × Sc
  | [], es => ([], es)
  | d :: r, es => ((actOne fn nm d es).1 ++ (actAll fn nm r (actOne fn nm d es).2).1, (actAll fn nm r (actOne fn nm d es).2).2)
theorem actAll_append (fn : Bool) (nm : Str) (a b : List Decl) (es : Sc) : actAll fn nm (a ++ b) es = ((actAll fn nm a es).1 ++ (actAll fn nm b (actAll fn nm a es).2).1, (actAll fn nm b (actAll fn nm a es).2).2) := by
  induction a generalizing es with
  | nil => rfl
  | cons p r ih =>
    show actAll fn nm (p :: (r ++ b)) es = _
    simp only [actAll, ih, List.append_assoc]
theorem OwnSc.one {es : Sc} (G : OwnSc es) (fn : Bool) (nm : Str) (d : Decl) : OwnSc (actOne fn nm d es).2 := by
  unfold actOne
  split
  · exact G
  · exact G.decl d
theorem OwnSc.all (fn : Bool) (nm : Str) : ∀ (ds : List Decl) {es : Sc}, OwnSc es → OwnSc (actAll fn nm ds es).2
  | [], _, G => G
  | d :: r, _, G => OwnSc.all fn nm r (G.one fn nm d)
theorem put_le (es : Sc) (k : Str) (e : Ent) : (put es k e).length ≤ es.length + 1 := by
  unfold put
  split
  · rw [List.length_map]; omega
  · rw [List.length_append, List.length_singleton]; exact Nat.le_refl _
theorem one_len (fn : Bool) (nm : Str) (d : Decl) (es : Sc) : es.length ≤ (actOne fn nm d es).2.length ∧ (actOne fn nm d es).2.length ≤ es.length + 1 := by
  unfold actOne
  split
  · dsimp only; omega
  · cases d with
    | port i dir ext k =>
      show es.length ≤ (actPort k i dir es).2.length ∧ (actPort k i dir es).2.length ≤ es.length + 1
      unfold actPort
      split
      · exact ⟨put_len _ _ _, put_le _ _ _⟩
      · exact ⟨put_len _ _ _, put_le _ _ _⟩
      · dsimp only; omega
    | var i ext k fo =>
      show es.length ≤ (actVar k i es).2.length ∧ (actVar k i es).2.length ≤ es.length + 1
      unfold actVar
      split
      · exact ⟨put_len _ _ _, put_le _ _ _⟩
      · exact ⟨put_len _ _ _, put_le _ _ _⟩
      · dsimp only; omega
theorem all_len (fn : Bool) (nm : Str) : ∀ (ds : List Decl) (es : Sc), es.length ≤ (actAll fn nm ds es).2.length ∧ (actAll fn nm ds es).2.length ≤ es.length + ds.length
  | [], es => ⟨Nat.le_refl _, Nat.le_refl _⟩
  | d :: r, es => by
    have h1 := one_len fn nm d es
    have h2 := all_len fn nm r (actOne fn nm d es).2
    simp only [actAll, List.length_cons]
    omega
noncomputable def stAll (fn : Bool) (nm : Str) (ds : List Decl) (es : Sc) (i : Nat) : List Row × Sc := actAll fn nm (ds.take i) es
theorem stAll_succ {fn : Bool} {nm : Str} {ds : List Decl} {es : Sc} {i : Nat} {d : Decl} (h : ds[i]? = some d) : stAll fn nm ds es (i + 1) = ((stAll fn nm ds es i).1 ++ (actOne fn nm d (stAll fn nm ds es i).2).1, (actOne fn nm d (stAll fn nm ds es i).2).2) := by
  unfold stAll
  rw [List.take_add_one, h, actAll_append]
  simp only [Option.toList_some, actAll, List.append_nil]
theorem stAll_lim (fn : Bool) (nm : Str) (ds : List Decl) (es : Sc) (i : Nat) : (stAll fn nm ds es i).1.length ≤ (actAll fn nm ds es).1.length ∧ (stAll fn nm ds es i).2.length ≤ (actAll fn nm ds es).2.length := by
  have h := actAll_append fn nm (ds.take i) (ds.drop i) es
  rw [List.take_append_drop] at h
  rw [h]
  unfold stAll
  refine ⟨?_, (all_len _ _ _ _).1⟩
  rw [List.length_append]; exact Nat.le_add_right _ _
theorem stAll_all (fn : Bool) (nm : Str) (ds : List Decl) (es : Sc) : stAll fn nm ds es ds.length = actAll fn nm ds es := by
  unfold stAll
  rw [List.take_length]

structure Item where
  fn : Bool
  pos : Int
  name : Str
  ext : Option (Idn × Idn)
  decls : List Decl
  body : St
noncomputable def kindOf (fn : Bool) : Str := if fn then Str.ofString "function" else Str.ofString "task"
noncomputable def ItemAt (T : TP) (v : Value) (it : Item) : Prop := ∃ a t1 t2 t3 t4 ev da bv ds, v = .ref a ∧ T a #[.str (Str.ofString "routine") t1, .int it.pos t2, .str (kindOf it.fn) t3, .bool false, .bool false, ev, .str it.name t4, .ref da, bv] ∧ ExtAt T ev it.ext ∧ T da (List.toArray ds) ∧ ListAt (DeclAt T) ds it.decls ∧ StAt T bv it.body
theorem ItemAt.mono {T T' : TP} (h : ∀ a vs, T a vs → T' a vs) {v : Value} {it : Item} (x : ItemAt T v it) : ItemAt T' v it := by
  exact ex9 x fun a t1 t2 t3 t4 ev da bv ds y => mk9 a t1 t2 t3 t4 ev da bv ds ⟨y.1, h _ _ y.2.1, y.2.2.1.mono h, h _ _ y.2.2.2.1, y.2.2.2.2.1.mono fun _ _ z => z.mono h, y.2.2.2.2.2.mono h⟩
noncomputable def es0 (it : Item) : Sc := if it.fn then [(it.name, ⟨Str.ofString "var", it.pos, .sig (Str.ofString "") false true⟩)] else []
noncomputable def es1 (it : Item) : Sc := (actAll it.fn it.name it.decls (es0 it)).2
noncomputable def es2 (it : Item) : Sc := (actLabs (labs it.body) (es1 it)).2
noncomputable def routineRows (T : List Sc) (it : Item) : List Row :=
  extRows T it.ext ++ ((actAll it.fn it.name it.decls (es0 it)).1 ++ ((actLabs (labs it.body) (es1 it)).1 ++ (it.decls.flatMap (declRows (es2 it :: T)) ++ bodyRows (es2 it :: T) (!it.fn) it.body)))

theorem own_one (nm : Str) (ip : Int) : OwnSc [(nm, ⟨Str.ofString "var", ip, .sig (Str.ofString "") false true⟩)] := OwnSc.nil.put nm (e := ⟨Str.ofString "var", ip, .sig (Str.ofString "") false true⟩) (.inl ⟨rfl, _, _, _, rfl⟩)
theorem led_split {w : World} {g h : Heap} {L RL ED : Addr} {l o : Obj} {I : List (Addr × Obj)} {kvs : List (Str × Value)} (N : News g L h ((RL, l) :: I)) (hE : (ED, o) ∈ I) (D : o.IsDictOf (PySem.strKind PG w) kvs) :
    ∃ J, News g L h ((RL, l) :: (ED, o) :: J) ∧ (∀ p ∈ I, p.1 ≠ ED → p ∈ J) ∧ (∀ p ∈ J, p.1 ≠ ED ∧ p ∈ I) ∧ ∀ a vs, LP g I a vs → LP g J a vs := by
  have NI : News g L h I := News.sub N fun p hp => .tail _ hp
  refine ⟨I.filter fun p => decide (p.1 ≠ ED), fun p hp => ?_, fun p hp h => List.mem_filter.mpr ⟨hp, decide_eq_true h⟩, fun p hp => ⟨of_decide_eq_true (List.mem_filter.mp hp).2, (List.mem_filter.mp hp).1⟩, LP.filter NI (NI _ hE).1 (dict_ne D)⟩
  rcases List.mem_cons.mp hp with rfl | hp
  · exact N _ (.head _)
  · rcases List.mem_cons.mp hp with rfl | hp
    · exact NI _ hE
    · exact NI _ (List.mem_filter.mp hp).1
section
variable {w : World} {g G : Heap} {RL ED x dy : Addr} {I : List (Addr × Obj)} {k1 k2 : Int} {t1 t2 : Tok} {pv : Value} {n : Nat}
theorem tabO_of (hx : (x ≠ RL ∧ x ≠ ED) ∧ (dy ≠ RL ∧ dy ≠ ED) ∧ ED ≠ RL) (m1 : (x, instObj 59 dy) ∈ I) (m2 : (dy, dictOf [⟨k1, .str (Str.ofString "parent") t1, pv⟩, ⟨k2, .str (Str.ofString "entries") t2, .ref ED⟩] n) ∈ I)
    (h2 : ∀ p ∈ I, p.1 ≠ RL → p.1 ≠ ED → G.get? p.1 = some p.2) : IsTabO G x ED pv := ⟨dy, k1, k2, t1, t2, n, h2 _ m1 hx.1.1 hx.1.2, h2 _ m2 hx.2.1.1 hx.2.1.2⟩
theorem chain_of {o : Obj} {kvs : List (Str × Value)} {es : Sc} {T : List Sc} (hx : (x ≠ RL ∧ x ≠ ED) ∧ (dy ≠ RL ∧ dy ≠ ED) ∧ ED ≠ RL) (m1 : (x, instObj 59 dy) ∈ I) (m2 : (dy, dictOf [⟨k1, .str (Str.ofString "parent") t1, pv⟩, ⟨k2, .str (Str.ofString "entries") t2, .ref ED⟩] n) ∈ I) (m3 : (ED, o) ∈ I)
    (h1 : ∀ b o, g.get? b = some o → G.get? b = some o) (h2 : ∀ p ∈ I, p.1 ≠ RL → G.get? p.1 = some p.2) (h3 : ∀ a vs, LP g I a vs → IsTup G a vs) (D : o.IsDictOf (PySem.strKind PG w) kvs) (lo : (ED == sysModules) = false) (S : ScIn (LP g I) kvs es) (hT : IsTab w g pv T) : IsTab w G (.ref x) (es :: T) :=
  .cons (h2 _ m1 hx.1.1) (h2 _ m2 hx.2.1.1) (h2 _ m3 hx.2.2) D lo (S.mono h3) (hT.keeps h1)
end
section
 local macro_rules | `(tactic| walk_at "call ref") => `(tactic| (k_here; (fail_if_success (with_reducible show wpAny _ _ (call (Value.ref 59) _) _ _ _)); refine' call_stop ?_))
theorem check_routine_spec {w : World} {R RL : Addr} {g₀ : Heap} {tv iv : Value} {T : List Sc} {it : Item} (hrep : IsRep g₀ R RL) (htab : IsTab w g₀ tv T) (hgood : GoodT T) (hit : ItemAt (IsTup g₀) iv it) (hds : it.decls.length ≤ 1000) (hz : sz it.body ≤ 1000) (hht : ht it.body < 8) :
    EmitsAt w 247 [.ref R, tv, iv] 300 3000 g₀ RL (routineRows T it) := by
  have hrep₀ := hrep
  refine hrep₀.open ?_
  intro dxr nnr k1r k2r k3r w1r w2r w3r v1r v2r hRo hRd
  obtain ⟨fn, ip, nm, ext, decls, body⟩ := it
  refine ex9 hit ?_
  clear hit
  intro a t1 t2 t3 t4 ev da bv ds
  intro hII
  refine an6 hII ?_
  clear hII
  intro e hE hext hda hdl hbody
  subst e
  unfold routineRows
  dsimp only at hE hext hdl hbody hds hz hht ⊢
  have hsz : ds.toArray.size = decls.length := by simpa using hdl.length
  cases fn
  · unfold kindOf at hE
    simp only [Bool.false_eq_true, if_false, if_true] at hE
    simp only [es2, es1, es0, Bool.false_eq_true, if_false, if_true, Bool.not_false, Bool.not_true]
    walk_at "Mine.emits"
    intro mean mg mb dp un gd outer A₀ base g L h₁ s us n' rs Qe B F X Tp hd hu N R' hlim hg
    have hrep := hrep.keeps hg
    have htab := htab.keeps hg
    have hth := htab.handed
    have hRo := hg _ _ hRo
    have hRd := hg _ _ hRd
    have hE := tup_keeps hg _ _ hE
    have hext := hext.mono (tup_keeps hg)
    have hda := tup_keeps hg _ _ hda
    have hdl := hdl.mono fun _ _ y => y.mono (tup_keeps hg)
    have hbody := hbody.mono (tup_keeps hg)
    dsimp only [fnOf, List.map, List.zip, List.zipWith, List.reverse, List.reverseAux, List.append, HAppend.hAppend, Append.append] at F
    refine fr_let F ?_
    clear F
    intro m0 F
    have hown : OwnSc [] := OwnSc.nil
    have hlA := all_len false nm decls []
    have hlB := labels_le (labs body) (actAll false nm decls []).2
    have hlS := labs_sz body
    simp only [List.length_cons, List.length_nil] at hlA
    simp only [List.length_append] at hlim
    walk_at "Mine.in"
    rename_i x dy _ la lb _ _ _ _ _ _ _ _ _ ED _ o0 lo D0 _ _ _ lc _ _ _ _ _ _ F0 N0
    have hx := tab_ne lc la lb
    unfold CallStop
    refine EmitsAt.useT (RL := RL) (fun G h1 h2 h3 => check_range_spec (hrep.keeps h1) (htab.keeps h1) (hext.mono (tup_keeps h1))) (by k_asm) F0 (by k_asm) (by k_asm) rfl (by walk_at "Mine.ar") (by walk_at "Mine.ar") N0 (by k_mem) (R'.mono lp_any) (by omega) ?_
    intro us2 n2 I2 h2 tk2 F2 N2 hne2 hsub2 R2
    have m1 := hsub2 (x, instObj 59 dy) (by k_mem) hx.1.1
    have m2 := hsub2 (dy, _) (.tail _ (.tail _ (.head _))) hx.2.1.1
    have m3 := hsub2 (ED, o0) (by k_mem) hx.2.2
    have S2 : ScIn (LP g I2) [] [] := trivial
    have D2 := D0
    refine hide_of ?_
    intro Gh
    refine Exists.elim (led_split N2 m3 D2) ?_
    intro J
    intro hII
    refine an4 hII ?_
    clear hII
    intro NJ hJ1 hJ2 hJ3
    k_unfold
    have m1 := hJ1 _ m1 hx.1.2
    have m2 := hJ1 _ m2 hx.2.1.2
    have hneJ : ∀ p ∈ J, p.1 ≠ RL ∧ p.1 ≠ ED := fun p hp => ⟨hne2 p (hJ2 p hp).2, (hJ2 p hp).1⟩
    clear N2
    walk_at "Mine.in"
    refine iter_decls (stAll false nm decls []) rfl rfl hda (by k_asm) (by k_asm) hneJ (R2.mono hJ3) D2 (S2.mono hJ3) (fun i v h3 tk us n o kvs rest' hi hv hsub hne F' N' R' D' S' => ?_) (fun h3 tk u us3 n3 o3 kvs3 I3 hsub3 hne3 F3 N3 R3 D3 S3 => ?_)
    · refine hide_of ?_
      intro Gh
      obtain ⟨d, hd', hid⟩ := hdl.get (i := i) (v := v) (by simpa using hv)
      k_unfold
      have m1 := hsub _ m1 hx.1.1 hx.1.2
      have m2 := hsub _ m2 hx.2.1.1 hx.2.1.2
      have hgd : GoodSc (stAll false nm decls [] i).2 := (OwnSc.all _ _ _ hown).good
      have hl1 := stAll_lim false nm decls [] (i + 1)
      rw [stAll_succ hd'] at hl1 ⊢
      dsimp only at hl1 ⊢
      rw [List.length_append] at hl1
      have hm1 : (rs ++ extRows T ext ++ (stAll false nm decls [] i).1).length + (actOne false nm d (stAll false nm decls [] i).2).1.length ≤ LIM := by simp only [List.length_append]; omega
      have hm2 : (actOne false nm d (stAll false nm decls [] i).2).2.length ≤ LIM := by simp only [LIM]; omega
      have hid' := hid
      cases d with
      | port j dir ext' nm' =>
        refine hide_of ?_
        intro Gh
        refine ex6 hid ?_
        clear hid
        intro ea u1 u2 u3 u4 xv
        intro hII
        refine an3 hII ?_
        clear hII
        intro e hE' hx'
        k_unfold
        subst e
        have ha : actOne false nm (.port j dir ext' nm') = actDecl (.port j dir ext' nm') := by funext es; rfl
        rw [ha] at hm1 hm2 ⊢
        walk_at "Mine.in"
        unfold CallStop
        refine DeclsAt.useT (RL := RL) (ED := ED) (fun G h1 h2 h3 => declare_item_spec (hrep.keeps h1) (tabO_of hx (.tail _ (.tail _ m1)) (.tail _ (.tail _ m2)) h2) lo (hid'.mono (tup_keeps h1))) (by k_asm) (by k_asm) (by k_asm) (by k_asm) rfl (by walk_at "Mine.ar") (by walk_at "Mine.ar") (by k_asm) (.head _) (.tail _ (.head _)) (R'.mono lp_c2) D' (S'.mono lp_c2) hgd hm1 hm2 ?_
        intro us'' n'' o'' kvs'' rest'' h'' tk'' F'' N'' hne'' hsub'' R'' D'' S''
        have hs9 : ∀ p ∈ rest', p.1 ≠ RL → p.1 ≠ ED → p ∈ rest'' := fun p hp h h' => hsub'' p (.tail _ (.tail _ hp)) h h'
        clear hsub hsub''
        walk_at "Mine.in"
        all_goals walk_at "Mine.dturn"
      | var j ext' nm' fo =>
        refine hide_of ?_
        intro Gh
        refine ex8 hid ?_
        clear hid
        intro ea e0 u1 u2 u3 u4 xv fv
        intro hII
        refine an5 hII ?_
        clear hII
        intro e hE' hE0 hx' hf
        k_unfold
        subst e
        have ha : actOne false nm (.var j ext' nm' fo) = actDecl (.var j ext' nm' fo) := by funext es; rfl
        rw [ha] at hm1 hm2 ⊢
        walk_at "Mine.in"
        unfold CallStop
        refine DeclsAt.useT (RL := RL) (ED := ED) (fun G h1 h2 h3 => declare_item_spec (hrep.keeps h1) (tabO_of hx (.tail _ (.tail _ m1)) (.tail _ (.tail _ m2)) h2) lo (hid'.mono (tup_keeps h1))) (by k_asm) (by k_asm) (by k_asm) (by k_asm) rfl (by walk_at "Mine.ar") (by walk_at "Mine.ar") (by k_asm) (.head _) (.tail _ (.head _)) (R'.mono lp_c2) D' (S'.mono lp_c2) hgd hm1 hm2 ?_
        intro us'' n'' o'' kvs'' rest'' h'' tk'' F'' N'' hne'' hsub'' R'' D'' S''
        have hs9 : ∀ p ∈ rest', p.1 ≠ RL → p.1 ≠ ED → p ∈ rest'' := fun p hp h h' => hsub'' p (.tail _ (.tail _ hp)) h h'
        clear hsub hsub''
        walk_at "Mine.in"
        all_goals walk_at "Mine.dturn"
    · rw [hsz, stAll_all] at R3 S3
      walk_at "Mine.in"
      unfold CallStop
      have m1 := hsub3 _ m1 hx.1.1 hx.1.2
      have m2 := hsub3 _ m2 hx.2.1.1 hx.2.1.2
      refine DeclsAt.useT (RL := RL) (ED := ED) (fun G h1 h2 h3 => declare_labels_spec 8 G _ body (hrep.keeps h1) (tabO_of hx (.tail _ (.tail _ m1)) (.tail _ (.tail _ m2)) h2) lo (Nat.le_of_lt hht) (hbody.mono (tup_keeps h1))) (by k_asm) (by k_asm) (by k_asm) (by k_asm) rfl (by walk_at "Mine.ar") (by walk_at "Mine.ar") N3 (.head _) (.tail _ (.head _)) (R3.mono lp_c2) D3 (S3.mono lp_c2) (OwnSc.all _ _ _ hown).good (by simp only [List.length_append]; omega) (by simp only [LIM]; omega) ?_
      intro us4 n4 o4 kvs4 I4 h4 tk4 F4 N4 hne4 hsub4 R4 D4 S4
      have m1 := hsub4 _ (.tail _ (.tail _ m1)) hx.1.1 hx.1.2
      have m2 := hsub4 _ (.tail _ (.tail _ m2)) hx.2.1.1 hx.2.1.2
      have hne4' : ∀ p ∈ (ED, o4) :: I4, p.1 ≠ RL := fun p hp => by
        rcases List.mem_cons.mp hp with rfl | hp
        · exact hx.2.2
        · exact (hne4 p hp).1
      have hgT : GoodT ((actLabs (labs body) (actAll false nm decls []).2).2 :: T) := GoodT.cons (OwnSc.labels _ (OwnSc.all _ _ _ hown)).good hgood
      have hlim4 : (rs ++ extRows T ext ++ (actAll false nm decls []).1 ++ (actLabs (labs body) (actAll false nm decls []).2).1).length + (decls.flatMap (declRows ((actLabs (labs body) (actAll false nm decls []).2).2 :: T))).length ≤ LIM := by simp only [List.length_append]; omega
      walk_at "Mine.in"
      refine iter_rows (at_ decls (declRows ((actLabs (labs body) (actAll false nm decls []).2).2 :: T))) rfl hda (by k_asm) (by k_asm) hne4' (R4.mono lp_c1) (fun i v h5 tk us n rest' hi hv hsub hne F' N' R' => ?_) (fun h tk u us5 n5 I5 hsub5 hne5 F5 N5 R5 => ?_)
      · refine hide_of ?_
        intro Gh
        obtain ⟨d, hd', hid⟩ := hdl.get (i := i) (v := v) (by simpa using hv)
        obtain ⟨hl, he⟩ := pre_lim (declRows ((actLabs (labs body) (actAll false nm decls []).2).2 :: T)) decls hd' hlim4
        k_unfold
        rw [he]
        walk_at "Mine.in"
        unfold CallStop
        refine EmitsAt.useT (RL := RL) (fun G h1 h2 h3 => check_declaration_spec (hrep.keeps h1) (chain_of hx (.tail _ (hsub _ (.tail _ m1) hx.1.1)) (.tail _ (hsub _ (.tail _ m2) hx.2.1.1)) (.tail _ (hsub _ (.head _) hx.2.2)) h1 h2 h3 D4 lo (S4.mono (LP.sub fun p hp => .tail _ (hsub p (.tail _ hp) (hne4 p hp).1))) htab) (hid.mono (tup_keeps h1))) (by k_asm) (by k_asm) (by k_asm) (by k_asm) rfl (by walk_at "Mine.ar") (by walk_at "Mine.ar") N' (.head _) (R'.mono lp_c1) hl ?_
        intro us'' n'' rest'' h'' tk'' F'' N'' hne'' hsub'' R''
        have hs9 : ∀ p ∈ rest', p.1 ≠ RL → p ∈ rest'' := fun p hp h => hsub'' p (.tail _ hp) h
        clear hsub hsub''
        walk_at "Mine.in"
        all_goals walk_at "Mine.turn"
      · rw [hsz, pre_at] at R5
        walk_at "Mine.in"
        unfold CallStop
        refine EmitsAt.useT (RL := RL) (fun G h1 h2 h3 => check_stmt_all 8 G (.ref x) bv ((actLabs (labs body) (actAll false nm decls []).2).2 :: T) true body (hrep.keeps h1) (chain_of hx (.tail _ (hsub5 _ (.tail _ m1) hx.1.1)) (.tail _ (hsub5 _ (.tail _ m2) hx.2.1.1)) (.tail _ (hsub5 _ (.head _) hx.2.2)) h1 h2 h3 D4 lo (S4.mono (LP.sub fun p hp => .tail _ (hsub5 p (.tail _ hp) (hne4 p hp).1))) htab) hgT hht (Nat.le_trans hz (by decide)) (hbody.mono (tup_keeps h1))) (by k_asm) (by k_asm) (by k_asm) (by k_asm) rfl (by walk_at "Mine.ar") (by walk_at "Mine.ar") N5 (.head _) (R5.mono lp_c1) (by simp only [List.length_append]; omega) ?_
        intro us6 n6 I6 h6 tk6 F6 N6 hne6 hsub6 R6
        simp only [List.append_assoc] at R6
        walk_at "Mine.in"
        all_goals walk_at "Mine.done"
  · unfold kindOf at hE
    simp only [Bool.false_eq_true, if_false, if_true] at hE
    simp only [es2, es1, es0, Bool.false_eq_true, if_false, if_true, Bool.not_false, Bool.not_true]
    walk_at "Mine.emits"
    intro mean mg mb dp un gd outer A₀ base g L h₁ s us n' rs Qe B F X Tp hd hu N R' hlim hg
    have hrep := hrep.keeps hg
    have htab := htab.keeps hg
    have hth := htab.handed
    have hRo := hg _ _ hRo
    have hRd := hg _ _ hRd
    have hE := tup_keeps hg _ _ hE
    have hext := hext.mono (tup_keeps hg)
    have hda := tup_keeps hg _ _ hda
    have hdl := hdl.mono fun _ _ y => y.mono (tup_keeps hg)
    have hbody := hbody.mono (tup_keeps hg)
    dsimp only [fnOf, List.map, List.zip, List.zipWith, List.reverse, List.reverseAux, List.append, HAppend.hAppend, Append.append] at F
    refine fr_let F ?_
    clear F
    intro m0 F
    have hown : OwnSc [(nm, ⟨Str.ofString "var", ip, .sig (Str.ofString "") false true⟩)] := own_one nm ip
    have hlA := all_len true nm decls [(nm, ⟨Str.ofString "var", ip, .sig (Str.ofString "") false true⟩)]
    have hlB := labels_le (labs body) (actAll true nm decls [(nm, ⟨Str.ofString "var", ip, .sig (Str.ofString "") false true⟩)]).2
    have hlS := labs_sz body
    simp only [List.length_cons, List.length_nil] at hlA
    simp only [List.length_append] at hlim
    walk_at "Mine.in"
    rename_i x dy _ la lb _ _ _ _ _ _ _ _ _ ED _ o _ D0 _ _ _ lc _ _ _ _ _ _ TD _ F0 N0 ld
    have lo : (ED == sysModules) = false := by assumption
    have hx := tab_ne lc la lb
    unfold CallStop
    refine DeclsAt.useT (RL := RL) (ED := ED) (es := []) (fun G h1 h2 h3 => add_name_spec (inf := .sig (Str.ofString "") false true) (hrep.keeps h1) (tabO_of hx (.tail _ (.tail _ (.head _))) (.tail _ (.tail _ (.tail _ (.head _)))) h2) lo ⟨_, _, rfl, h3 _ _ (.inr ⟨_, .head _, rfl, _, rfl⟩)⟩ rfl nm _ ip _ _ _) (by k_asm) F0 (by k_asm) (by k_asm) rfl (by walk_at "Mine.ar") (by walk_at "Mine.ar") N0 (by k_mem) (by k_mem) (R'.mono lp_any) D0 trivial OwnSc.nil.good (by simp only [actName, look, List.find?_nil, Option.map_none, List.length_nil]; omega) (show (1 : Nat) ≤ 1000000 by decide) ?_
    intro us1 n1 o0 kvs1 I1 h1 tk1 F1 N1 hne1 hsub1 R1 D1 S1
    have m1 := hsub1 (x, instObj 59 dy) (by k_mem) hx.1.1 hx.1.2
    have m2 := hsub1 (dy, _) (.tail _ (.tail _ (.tail _ (.head _)))) hx.2.1.1 hx.2.1.2
    rw [show actName nm (Str.ofString "var") ip (.sig (Str.ofString "") false true) [] = ([], [(nm, ⟨Str.ofString "var", ip, .sig (Str.ofString "") false true⟩)]) from rfl] at R1 S1
    dsimp only at R1 S1
    rw [List.append_nil] at R1
    walk_at "Mine.in"
    unfold CallStop
    refine EmitsAt.useT (RL := RL) (fun G h1 h2 h3 => check_range_spec (hrep.keeps h1) (htab.keeps h1) (hext.mono (tup_keeps h1))) (by k_asm) (by k_asm) (by k_asm) (by k_asm) rfl (by walk_at "Mine.ar") (by walk_at "Mine.ar") N1 (.head _) (R1.mono lp_c2) (by omega) ?_
    intro us2 n2 I2 h2 tk2 F2 N2 hne2 hsub2 R2
    have m1 := hsub2 (x, instObj 59 dy) (.tail _ (.tail _ m1)) hx.1.1
    have m2 := hsub2 (dy, _) (.tail _ (.tail _ m2)) hx.2.1.1
    have m3 := hsub2 (ED, o0) (.tail _ (.head _)) hx.2.2
    have S2 : ScIn (LP g I2) kvs1 [(nm, ⟨Str.ofString "var", ip, .sig (Str.ofString "") false true⟩)] := S1.mono (LP.sub fun p hp => hsub2 p (.tail _ (.tail _ hp)) (hne1 p hp).1)
    have D2 := D1
    refine hide_of ?_
    intro Gh
    refine Exists.elim (led_split N2 m3 D2) ?_
    intro J
    intro hII
    refine an4 hII ?_
    clear hII
    intro NJ hJ1 hJ2 hJ3
    k_unfold
    have m1 := hJ1 _ m1 hx.1.2
    have m2 := hJ1 _ m2 hx.2.1.2
    have hneJ : ∀ p ∈ J, p.1 ≠ RL ∧ p.1 ≠ ED := fun p hp => ⟨hne2 p (hJ2 p hp).2, (hJ2 p hp).1⟩
    clear N2
    walk_at "Mine.in"
    refine iter_decls (stAll true nm decls [(nm, ⟨Str.ofString "var", ip, .sig (Str.ofString "") false true⟩)]) rfl rfl hda (by k_asm) (by k_asm) hneJ (R2.mono hJ3) D2 (S2.mono hJ3) (fun i v h3 tk us n o kvs rest' hi hv hsub hne F' N' R' D' S' => ?_) (fun h3 tk u us3 n3 o3 kvs3 I3 hsub3 hne3 F3 N3 R3 D3 S3 => ?_)
    · refine hide_of ?_
      intro Gh
      obtain ⟨d, hd', hid⟩ := hdl.get (i := i) (v := v) (by simpa using hv)
      k_unfold
      have m1 := hsub _ m1 hx.1.1 hx.1.2
      have m2 := hsub _ m2 hx.2.1.1 hx.2.1.2
      have hgd : GoodSc (stAll true nm decls [(nm, ⟨Str.ofString "var", ip, .sig (Str.ofString "") false true⟩)] i).2 := (OwnSc.all _ _ _ hown).good
      have hl1 := stAll_lim true nm decls [(nm, ⟨Str.ofString "var", ip, .sig (Str.ofString "") false true⟩)] (i + 1)
      rw [stAll_succ hd'] at hl1 ⊢
      dsimp only at hl1 ⊢
      rw [List.length_append] at hl1
      have hm1 : (rs ++ extRows T ext ++ (stAll true nm decls [(nm, ⟨Str.ofString "var", ip, .sig (Str.ofString "") false true⟩)] i).1).length + (actOne true nm d (stAll true nm decls [(nm, ⟨Str.ofString "var", ip, .sig (Str.ofString "") false true⟩)] i).2).1.length ≤ LIM := by simp only [List.length_append]; omega
      have hm2 : (actOne true nm d (stAll true nm decls [(nm, ⟨Str.ofString "var", ip, .sig (Str.ofString "") false true⟩)] i).2).2.length ≤ LIM := by simp only [LIM]; omega
      have hid' := hid
      cases d with
      | port j dir ext' nm' =>
        refine hide_of ?_
        intro Gh
        refine ex6 hid ?_
        clear hid
        intro ea u1 u2 u3 u4 xv
        intro hII
        refine an3 hII ?_
        clear hII
        intro e hE' hx'
        k_unfold
        subst e
        by_cases hnm : nm' = nm
        · subst hnm
          have ha : actOne true nm' (.port j dir ext' nm') = fun es => ([⟨Str.ofString "duplicate", j, nm'⟩], es) := by funext es; simp [actOne, Decl.isPort, Decl.name, Decl.pos, dupRow]
          rw [ha] at hm1 hm2 ⊢
          walk_at "Mine.in"
          · unfold CallStop
            refine DeclsAt.useT (RL := RL) (ED := ED) (fun G h1 h2 h3 => EmitsAt.decls (add_spec (hrep.keeps h1) _ j _ _ _ _) ED) (by k_asm) (by k_asm) (by k_asm) (by k_asm) rfl (by walk_at "Mine.ar") (by walk_at "Mine.ar") (by k_asm) (.head _) (.tail _ (.head _)) (R'.mono lp_c2) D' (S'.mono lp_c2) hgd hm1 hm2 ?_
            intro us'' n'' o'' kvs'' rest'' h'' tk'' F'' N'' hne'' hsub'' R'' D'' S''
            have hs9 : ∀ p ∈ rest', p.1 ≠ RL → p.1 ≠ ED → p ∈ rest'' := fun p hp h h' => hsub'' p (.tail _ (.tail _ hp)) h h'
            clear hsub hsub''
            walk_at "Mine.in"
            all_goals walk_at "Mine.dturn"
          · exact absurd ‹(nm' == nm') = false› (by simp)
        · have ha : actOne true nm (.port j dir ext' nm') = actDecl (.port j dir ext' nm') := by funext es; simp [actOne, Decl.isPort, Decl.name, hnm]
          rw [ha] at hm1 hm2 ⊢
          walk_at "Mine.in"
          · exact absurd (eq_of_beq ‹(nm' == nm) = true›) hnm
          · unfold CallStop
            refine DeclsAt.useT (RL := RL) (ED := ED) (fun G h1 h2 h3 => declare_item_spec (hrep.keeps h1) (tabO_of hx (.tail _ (.tail _ m1)) (.tail _ (.tail _ m2)) h2) lo (hid'.mono (tup_keeps h1))) (by k_asm) (by k_asm) (by k_asm) (by k_asm) rfl (by walk_at "Mine.ar") (by walk_at "Mine.ar") (by k_asm) (.head _) (.tail _ (.head _)) (R'.mono lp_c2) D' (S'.mono lp_c2) hgd hm1 hm2 ?_
            intro us'' n'' o'' kvs'' rest'' h'' tk'' F'' N'' hne'' hsub'' R'' D'' S''
            have hs9 : ∀ p ∈ rest', p.1 ≠ RL → p.1 ≠ ED → p ∈ rest'' := fun p hp h h' => hsub'' p (.tail _ (.tail _ hp)) h h'
            clear hsub hsub''
            walk_at "Mine.in"
            all_goals walk_at "Mine.dturn"
      | var j ext' nm' fo =>
        refine hide_of ?_
        intro Gh
        refine ex8 hid ?_
        clear hid
        intro ea e0 u1 u2 u3 u4 xv fv
        intro hII
        refine an5 hII ?_
        clear hII
        intro e hE' hE0 hx' hf
        k_unfold
        subst e
        have ha : actOne true nm (.var j ext' nm' fo) = actDecl (.var j ext' nm' fo) := by funext es; rfl
        rw [ha] at hm1 hm2 ⊢
        walk_at "Mine.in"
        unfold CallStop
        refine DeclsAt.useT (RL := RL) (ED := ED) (fun G h1 h2 h3 => declare_item_spec (hrep.keeps h1) (tabO_of hx (.tail _ (.tail _ m1)) (.tail _ (.tail _ m2)) h2) lo (hid'.mono (tup_keeps h1))) (by k_asm) (by k_asm) (by k_asm) (by k_asm) rfl (by walk_at "Mine.ar") (by walk_at "Mine.ar") (by k_asm) (.head _) (.tail _ (.head _)) (R'.mono lp_c2) D' (S'.mono lp_c2) hgd hm1 hm2 ?_
        intro us'' n'' o'' kvs'' rest'' h'' tk'' F'' N'' hne'' hsub'' R'' D'' S''
        have hs9 : ∀ p ∈ rest', p.1 ≠ RL → p.1 ≠ ED → p ∈ rest'' := fun p hp h h' => hsub'' p (.tail _ (.tail _ hp)) h h'
        clear hsub hsub''
        walk_at "Mine.in"
        all_goals walk_at "Mine.dturn"
    · rw [hsz, stAll_all] at R3 S3
      walk_at "Mine.in"
      unfold CallStop
      have m1 := hsub3 _ m1 hx.1.1 hx.1.2
      have m2 := hsub3 _ m2 hx.2.1.1 hx.2.1.2
      refine DeclsAt.useT (RL := RL) (ED := ED) (fun G h1 h2 h3 => declare_labels_spec 8 G _ body (hrep.keeps h1) (tabO_of hx (.tail _ (.tail _ m1)) (.tail _ (.tail _ m2)) h2) lo (Nat.le_of_lt hht) (hbody.mono (tup_keeps h1))) (by k_asm) (by k_asm) (by k_asm) (by k_asm) rfl (by walk_at "Mine.ar") (by walk_at "Mine.ar") N3 (.head _) (.tail _ (.head _)) (R3.mono lp_c2) D3 (S3.mono lp_c2) (OwnSc.all _ _ _ hown).good (by simp only [List.length_append]; omega) (by simp only [LIM]; omega) ?_
      intro us4 n4 o4 kvs4 I4 h4 tk4 F4 N4 hne4 hsub4 R4 D4 S4
      have m1 := hsub4 _ (.tail _ (.tail _ m1)) hx.1.1 hx.1.2
      have m2 := hsub4 _ (.tail _ (.tail _ m2)) hx.2.1.1 hx.2.1.2
      have hne4' : ∀ p ∈ (ED, o4) :: I4, p.1 ≠ RL := fun p hp => by
        rcases List.mem_cons.mp hp with rfl | hp
        · exact hx.2.2
        · exact (hne4 p hp).1
      have hgT : GoodT ((actLabs (labs body) (actAll true nm decls [(nm, ⟨Str.ofString "var", ip, .sig (Str.ofString "") false true⟩)]).2).2 :: T) := GoodT.cons (OwnSc.labels _ (OwnSc.all _ _ _ hown)).good hgood
      have hlim4 : (rs ++ extRows T ext ++ (actAll true nm decls [(nm, ⟨Str.ofString "var", ip, .sig (Str.ofString "") false true⟩)]).1 ++ (actLabs (labs body) (actAll true nm decls [(nm, ⟨Str.ofString "var", ip, .sig (Str.ofString "") false true⟩)]).2).1).length + (decls.flatMap (declRows ((actLabs (labs body) (actAll true nm decls [(nm, ⟨Str.ofString "var", ip, .sig (Str.ofString "") false true⟩)]).2).2 :: T))).length ≤ LIM := by simp only [List.length_append]; omega
      walk_at "Mine.in"
      refine iter_rows (at_ decls (declRows ((actLabs (labs body) (actAll true nm decls [(nm, ⟨Str.ofString "var", ip, .sig (Str.ofString "") false true⟩)]).2).2 :: T))) rfl hda (by k_asm) (by k_asm) hne4' (R4.mono lp_c1) (fun i v h5 tk us n rest' hi hv hsub hne F' N' R' => ?_) (fun h tk u us5 n5 I5 hsub5 hne5 F5 N5 R5 => ?_)
      · refine hide_of ?_
        intro Gh
        obtain ⟨d, hd', hid⟩ := hdl.get (i := i) (v := v) (by simpa using hv)
        obtain ⟨hl, he⟩ := pre_lim (declRows ((actLabs (labs body) (actAll true nm decls [(nm, ⟨Str.ofString "var", ip, .sig (Str.ofString "") false true⟩)]).2).2 :: T)) decls hd' hlim4
        k_unfold
        rw [he]
        walk_at "Mine.in"
        unfold CallStop
        refine EmitsAt.useT (RL := RL) (fun G h1 h2 h3 => check_declaration_spec (hrep.keeps h1) (chain_of hx (.tail _ (hsub _ (.tail _ m1) hx.1.1)) (.tail _ (hsub _ (.tail _ m2) hx.2.1.1)) (.tail _ (hsub _ (.head _) hx.2.2)) h1 h2 h3 D4 lo (S4.mono (LP.sub fun p hp => .tail _ (hsub p (.tail _ hp) (hne4 p hp).1))) htab) (hid.mono (tup_keeps h1))) (by k_asm) (by k_asm) (by k_asm) (by k_asm) rfl (by walk_at "Mine.ar") (by walk_at "Mine.ar") N' (.head _) (R'.mono lp_c1) hl ?_
        intro us'' n'' rest'' h'' tk'' F'' N'' hne'' hsub'' R''
        have hs9 : ∀ p ∈ rest', p.1 ≠ RL → p ∈ rest'' := fun p hp h => hsub'' p (.tail _ hp) h
        clear hsub hsub''
        walk_at "Mine.in"
        all_goals walk_at "Mine.turn"
      · rw [hsz, pre_at] at R5
        walk_at "Mine.in"
        unfold CallStop
        refine EmitsAt.useT (RL := RL) (fun G h1 h2 h3 => check_stmt_all 8 G (.ref x) bv ((actLabs (labs body) (actAll true nm decls [(nm, ⟨Str.ofString "var", ip, .sig (Str.ofString "") false true⟩)]).2).2 :: T) false body (hrep.keeps h1) (chain_of hx (.tail _ (hsub5 _ (.tail _ m1) hx.1.1)) (.tail _ (hsub5 _ (.tail _ m2) hx.2.1.1)) (.tail _ (hsub5 _ (.head _) hx.2.2)) h1 h2 h3 D4 lo (S4.mono (LP.sub fun p hp => .tail _ (hsub5 p (.tail _ hp) (hne4 p hp).1))) htab) hgT hht (Nat.le_trans hz (by decide)) (hbody.mono (tup_keeps h1))) (by k_asm) (by k_asm) (by k_asm) (by k_asm) rfl (by walk_at "Mine.ar") (by walk_at "Mine.ar") N5 (.head _) (R5.mono lp_c1) (by simp only [List.length_append]; omega) ?_
        intro us6 n6 I6 h6 tk6 F6 N6 hne6 hsub6 R6
        simp only [List.append_assoc] at R6
        walk_at "Mine.in"
        all_goals walk_at "Mine.done"
end

/-- a call that hands back a fresh list and touches nothing else -/
noncomputable def GivesAt (w : World) (f : Addr) (vs : List Value) (dz uz : Nat) (g₀ : Heap) (P : TP → List Value → Prop) : Prop :=
  ∀ (mean : ExcName → Option Value) (mg mb : Str → Option Value) (dp un : Nat) (gd : Option (List Code)) (cn : Str) (cs : Scope) (a : Addr) (ccd : Value) (cl : List (Str × Addr)) (outer : List Env) (A₀ : Around) (base h₀ : Heap) (L : Addr) (m : Str → Option Value) (s : Shared)
    (I : List (Addr × Obj)) (Q E : Value → Shared → Prop),
    Below A₀ base outer h₀ → Fr h₀ L s.heap m → (hd.heap_1 w.params).In h₀ → Top PV LS mean mg mb h₀ → cs.kind = .function → dp + dz < recursionLimit → un + uz < cLine →
    News h₀ L s.heap I → (∀ b o, g₀.get? b = some o → s.heap.get? b = some o) →
    (∀ D us n I' h' tk', Fr h₀ L h' m → News h₀ L h' ((D, listOf us.toArray n) :: I') → (∀ p ∈ I', p.1 ≠ D) → (∀ p ∈ I, p ∈ I') → P (LP h₀ I') us → Q (.ref D) { s with heap := h', toks := tk' }) →
    wpAny (MD w) (AR dp un gd cn cs L a ccd cl outer) (call (.ref f) vs) Q E s

noncomputable def Given (g : Heap) (P : TP → List Value → Prop) (s₀ : Shared) (v : Value) (s' : Shared) : Prop :=
  ∃ D L' m' us n I h' tk', v = .ref D ∧ s' = { s₀ with heap := h', toks := tk' } ∧ Fr g L' h' m' ∧ News g L' h' ((D, listOf us.toArray n) :: I) ∧ P (LP g I) us
theorem Given.intro {g : Heap} {P : TP → List Value → Prop} {s₀ : Shared} {D L' : Addr} {m' : Str → Option Value} {us : List Value} {n : Nat} {I : List (Addr × Obj)} {h' : Heap} {tk' : Nat} (F : Fr g L' h' m') (N : News g L' h' I) (hD : (D, listOf us.toArray n) ∈ I) (hP : P (LP g I) us) :
    Given g P s₀ (.ref D) { s₀ with heap := h', toks := tk' } := ⟨D, L', m', us, n, I, h', tk', rfl, rfl, F, fun p hp => by
      rcases List.mem_cons.mp hp with rfl | hp
      · exact N _ hD
      · exact N _ hp, hP⟩

section
variable {w : World} {f : Addr} {vs : List Value} {dz uz : Nat} {g₀ : Heap} {P : TP → List Value → Prop}
theorem gives_of (hmono : ∀ T T' : TP, (∀ a vs, T a vs → T' a vs) → ∀ us, P T us → P T' us)
    {oc : Value} {od : Option Addr} {osl : Array (Option Value)} {name qual : Str} {params : Arguments} {body : List Stmt} {scope : Scope} {dV kV doc pm cdv ct : Value} {an : Option Addr} {binds : List (Str × Value)}
    (ho : (hd.heap_1 w.params).lookup f = some ⟨oc, od, .func (fnOf name qual params body scope dV kV doc pm an cdv ct), osl⟩ := by k_is) (hcd : codeIn (hd.heap_1 w.params) cdv qual = true := by k_is)
    (hbind : ∀ s, BindsTo s (fnOf name qual params body scope dV kV doc pm an cdv ct) ⟨vs, []⟩ binds := by exact fun s => BindsTo.of_eq rfl) (hloc : (binds.all fun x => decide (scope.names.lookup x.1 = some .local)) = true := by rfl)
    (hcell : ∀ x ∈ scope.names, x.2 ≠ .cell := by decide) (hco : scope.isCoroutine = false := by rfl) (hgen : scope.isGenerator = false := by rfl) (hks : scope.kind = .function := by rfl)
    (h : ∀ (mean : ExcName → Option Value) (mg mb : Str → Option Value) (dp un : Nat) (gd : Option (List Code)) (outer : List Env) (A₀ : Around) (base g : Heap) (L : Addr) (h₁ : Heap) (s : Shared) (Qe : Value → Shared → Prop),
      Below A₀ base outer g → Fr g L h₁ (fun y => binds.reverse.lookup y) → (hd.heap_1 w.params).In g → Top PV LS mean mg mb g → dp + dz < recursionLimit + 1 → un + uz < cLine + 3 →
      News g L h₁ [] → (∀ b o, g₀.get? b = some o → g.get? b = some o) →
      wpAny (MD w) (AR dp un gd qual scope L f cdv [] outer) (execs body (envOf qual scope L f cdv)) (fun fl s' => Given g P s (match fl with | .ret v => v | _ => .none) s')
        (fun e s' => wpAny (MD w) (AR dp un gd qual scope L f cdv [] outer) (leaving (envOf qual scope L f cdv) e) (fun _ s'' => Qe e s'') (fun e' s'' => Qe e' s'') s') { s with heap := h₁ }) :
    GivesAt w f vs dz uz g₀ P := by
  intro mean mg mb dp un gd cn cs a ccd cl outer A₀ base h₀ L m s I Q E B F X T hk hd hu N hg ret
  refine enterG (cells := []) B F X T hk News.nil (by omega) ho hcd (hbind s) (locs hloc) (fun g L' h₁ FG F' N' B' X' T' hide hshow hlt => ?_) hcell hco hgen hks
  have hh : ∀ b o, s.heap.get? b = some o → g.get? b = some o := fun b o e => hide b o (fun q => (List.not_mem_nil q).elim) e
  have bk : ∀ v s', Given g P { s with toks := s.toks + binds.length } v s' → Back h₀ L m g Q v s' := by
    intro v s' hII
    refine ex8 hII ?_
    clear hII
    intro D L₂ m₂ us n I₂ h' tk'
    intro hII
    refine an5 hII ?_
    clear hII
    intro eqO1
    subst eqO1
    intro eqO2
    subst eqO2
    intro F₂ N₂ hP
    refine ⟨L₂, m₂, _, F₂, N₂, fun F₃ N₃ kp => ?_⟩
    dsimp only at F₃ N₃ kp ⊢
    have hup₂ := LP.up F₂ (News.sub N₂ fun p hp => .tail _ hp)
    have oD := (N₃ _ (.head _)).1
    have hDg := (N₂ _ (.head _)).2.2
    dsimp only at oD hDg
    refine ret D us n (snap h₀ L h' [D]) h' tk' F₃ (News.cons N₃ news_snap) (fun p hp e => (of_snap hp).2.2.1 (by rw [e]; exact .head _)) (fun p hp => ?_) (hmono _ _ (fun a vs x => ?_) _ hP)
    · have hp' := N p hp
      have hpg := hh _ _ hp'.1
      refine mem_snap (kp _ _ hpg) hp'.2.1 (fun q => ?_) hp'.2.2
      rw [List.mem_singleton.mp q, hDg] at hpg
      cases hpg
    · have ht := hup₂ _ _ x
      refine lp_snap F₃ ht fun q => ?_
      obtain ⟨o, e, c, d⟩ := ht
      rw [List.mem_singleton.mp q, oD] at e
      cases e
      exact absurd c tl_ne
  exact wpAny_mono (h mean mg mb (dp + 1) (un + 3) (gd) (envX cn cs L a ccd cl :: outer) (AR dp un gd cn cs L a ccd cl outer) base g L' h₁ { s with toks := s.toks + binds.length } _ B' F' X' T' (by omega) (by omega) N'
    (fun b o e => hh b o (hg b o e))) (fun fl s' hl => bk _ s' hl) fun _ _ y => y

theorem GivesAt.use (C : GivesAt w f vs dz uz g₀ P)
    {mean : ExcName → Option Value} {mg mb : Str → Option Value} {dp un : Nat} {gd : Option (List Code)} {cn : Str} {cs : Scope} {a : Addr} {ccd : Value} {cl : List (Str × Addr)} {outer : List Env} {A₀ : Around} {base h₀ : Heap} {L : Addr} {m : Str → Option Value} {s : Shared}
    {I : List (Addr × Obj)} {Q E : Value → Shared → Prop}
    (B : Below A₀ base outer h₀) (F : Fr h₀ L s.heap m) (X : (hd.heap_1 w.params).In h₀) (T : Top PV LS mean mg mb h₀) (hk : cs.kind = .function) (hd : dp + dz < recursionLimit) (hu : un + uz < cLine)
    (N : News h₀ L s.heap I) (hg : ∀ b o, g₀.get? b = some o → s.heap.get? b = some o)
    (ret : ∀ D us n I' h' tk', Fr h₀ L h' m → News h₀ L h' ((D, listOf us.toArray n) :: I') → (∀ p ∈ I', p.1 ≠ D) → (∀ p ∈ I, p ∈ I') → P (LP h₀ I') us → Q (.ref D) { s with heap := h', toks := tk' }) :
    wpAny (MD w) (AR dp un gd cn cs L a ccd cl outer) (call (.ref f) vs) Q E s := C _ _ _ _ _ _ _ _ _ _ _ _ _ _ _ _ _ _ _ _ _ B F X T hk hd hu N hg ret
end
theorem rows_mono (rs : List Row) : ∀ T T' : TP, (∀ a vs, T a vs → T' a vs) → ∀ us, RowsIn T us rs → RowsIn T' us rs := fun _ _ h _ x => x.mono h

theorem words_24 : True := by
  k_with "m:Mine.gives" => (refine' gives_of ?hm (h := ?_))
  exact trivial
/-- a dict of names to kinds -/
noncomputable def SeenAt (kvs : List (Str × Value)) (σ : Str → Option Str) : Prop := ∀ k, match σ k with | none => valueAt kvs k = none | some c => ∃ t, valueAt kvs k = some (.str c t)
noncomputable def GoodS (σ : Str → Option Str) : Prop := ∀ k c, σ k = some c → c = Str.ofString "var" ∨ c = Str.ofString "net" ∨ c = Str.ofString "block"
noncomputable def oExpr (σ : Str → Option Str) (d : Idn) : List Row := match σ d.name with
  | none => [⟨Str.ofString "undeclared", d.pos, d.name⟩]
  | some _ => []
noncomputable def oOpt (σ : Str → Option Str) : Option Idn → List Row
  | none => []
  | some d => oExpr σ d
noncomputable def oTarget (σ : Str → Option Str) (d : Idn) : List Row := match σ d.name with
  | none => [⟨Str.ofString "undeclared", d.pos, d.name⟩]
  | some c => if c = Str.ofString "var" then [] else if c = Str.ofString "net" then [⟨Str.ofString "assign_to_net", d.pos, d.name⟩] else [⟨Str.ofString "not_assignable", d.pos, d.name⟩]
theorem Given.nil {g : Heap} {s₀ : Shared} {D L' : Addr} {m' : Str → Option Value} {n : Nat} {I : List (Addr × Obj)} {h' : Heap} {tk' : Nat} (F : Fr g L' h' m') (N : News g L' h' ((D, listOf #[] n) :: I)) :
    Given g (fun T us => RowsIn T us []) s₀ (.ref D) { s₀ with heap := h', toks := tk' } := Given.intro (us := []) F N (.head _) trivial
theorem Given.one {g : Heap} {s₀ : Shared} {D a L' : Addr} {m' : Str → Option Value} {n : Nat} {I : List (Addr × Obj)} {h' : Heap} {tk' : Nat} {k d : Str} {i : Int} {t1 t2 t3 : Tok} (F : Fr g L' h' m')
    (N : News g L' h' ((D, listOf #[.ref a] n) :: (a, { cls := .type "tuple", data := .seq #[.str k t1, .int i t2, .str d t3] }) :: I)) :
    Given g (fun T us => RowsIn T us [⟨k, i, d⟩]) s₀ (.ref D) { s₀ with heap := h', toks := tk' } := Given.intro (us := [.ref a]) F N (.head _) ⟨⟨_, _, _, _, rfl, .inr ⟨_, .tail _ (.head _), rfl, _, rfl⟩⟩, trivial⟩

theorem words_25 : True := by
  k_with "m:Mine.gdone" => (((try k_unfold); (try dsimp only); first | exact Given.nil (by k_asm) (by k_asm) | exact Given.one (by k_asm) (by k_asm)))
  exact trivial
theorem oExpr_none {σ : Str → Option Str} {d : Idn} (h : σ d.name = none) : oOpt σ (some d) = [⟨Str.ofString "undeclared", d.pos, d.name⟩] := by
  show oExpr σ d = _
  unfold oExpr
  rw [h]
theorem oExpr_some {σ : Str → Option Str} {d : Idn} {c : Str} (h : σ d.name = some c) : oOpt σ (some d) = [] := by
  show oExpr σ d = _
  unfold oExpr
  rw [h]
theorem ite_nt {P Q : Prop} (h : Q) : if (!true) = true then P else Q := h
theorem ite_nf {P Q : Prop} (h : P) : if (!false) = true then P else Q := h
theorem words_26 : True := by
  k_with "m:ite" => (first | with_reducible refine' ite_nt ?_ | with_reducible refine' ite_nf ?_)
  exact trivial
theorem notin_base {w : World} {A : Around} {E : Value → Shared → Prop} {s : Shared} {h₀ : Heap} {L d : Addr} {m : Str → Option Value} {o : Obj} {kvs : List (Str × Value)} {k : Str} {t : Tok} {b : Bool} {Q : Value → Shared → Prop}
    (F : Fr h₀ L s.heap m) (ho : h₀.get? d = some o) (hd : o.IsDictOf (PySem.strKind PG w) kvs) (lo : (d == sysModules) = false) (hb : (valueAt kvs k).isSome = b) (h : Q (.bool (!b)) { s with toks := s.toks + 1 }) :
    wpAny (model PG w) A (compareOp .NotIn (.str k t) (.ref d)) Q E s := wpAny_notIn_of (strKind_is _ _ _ _) lo (Heap.dictOf_iff.mpr ⟨o, F.keep _ _ ho, hd⟩ : s.heap.DictOf (PySem.strKind PG w) d kvs).mapOf (by rw [hb]; exact h)
theorem words_27 : True := by
  k_with "m:compareOp NotIn str ref" => ((k_here; k_dflt (refine' notin_base (by k_asm) (by k_asm) (by k_asm) (by k_asm) (by k_asm) ?_; k_whole)))
  exact trivial
theorem law_expr_rows_spec {w : World} {g₀ : Heap} {ev : Value} {e : Option Idn} {sd : Addr} {o : Obj} {kvs : List (Str × Value)} {σ : Str → Option Str} (he : OptAt (IsTup g₀) ev e) (hsd : g₀.get? sd = some o) (hD : o.IsDictOf (PySem.strKind PG w) kvs) (lo : (sd == sysModules) = false) (hσ : SeenAt kvs σ) :
    GivesAt w 299 [ev, .ref sd] 10 100 g₀ (fun T us => RowsIn T us (oOpt σ e)) := by
  walk_at "Mine.gives"
  case hm => exact rows_mono _
  intro mean mg mb dp un gd outer A₀ base g L h₁ s Qe B F X Tp hd hu N hg
  have hsd := hg _ _ hsd
  have he := he.mono (tup_keeps hg)
  clear hg
  dsimp only [fnOf, List.map, List.zip, List.zipWith, List.reverse, List.reverseAux, List.append, HAppend.hAppend, Append.append] at F
  refine fr_let F ?_
  clear F
  intro m0 F
  cases e with
  | none =>
    have e : ev = .none := he
    subst e
    walk_at "Mine.in"
    all_goals walk_at "Mine.gdone"
  | some d =>
    refine hide_of ?_
    intro Gh
    refine ex4 he ?_
    clear he
    intro ea u1 u2 u3
    intro hII
    refine an2 hII ?_
    clear hII
    intro e hE
    k_unfold
    subst e
    have hs := hσ d.name
    cases hq : σ d.name with
    | none =>
      rw [hq] at hs
      rw [oExpr_none hq]
      have hb := congrArg Option.isSome hs
      dsimp only [Option.isSome] at hb
      walk_at "Mine.in"
      all_goals walk_at "Mine.gdone"
    | some c =>
      rw [hq] at hs
      refine hide_of ?_
      intro Gh
      obtain ⟨t, hs⟩ := hs
      k_unfold
      rw [oExpr_some hq]
      have hb := congrArg Option.isSome hs
      dsimp only [Option.isSome] at hb
      walk_at "Mine.in"
      all_goals walk_at "Mine.gdone"

noncomputable def KindIs (c p : Str) : Prop := (c = Str.ofString "var" ∧ p = Str.ofString "") ∨ (c = Str.ofString "net" ∧ p = Str.ofString "assign_to_net") ∨ (c = Str.ofString "block" ∧ p = Str.ofString "not_assignable")
theorem kind_at {c p : Str} {t1 t2 t3 : Tok} (h : KindIs c p) : ∃ t, valueAt [(Str.ofString "var", Value.str (Str.ofString "") t1), (Str.ofString "net", .str (Str.ofString "assign_to_net") t2), (Str.ofString "block", .str (Str.ofString "not_assignable") t3)] c = some (.str p t) := by
  have h12 : ¬ Str.ofString "var" = Str.ofString "net" := by decide
  have h13 : ¬ Str.ofString "var" = Str.ofString "block" := by decide
  have h23 : ¬ Str.ofString "net" = Str.ofString "block" := by decide
  rcases h with ⟨rfl, rfl⟩ | ⟨rfl, rfl⟩ | ⟨rfl, rfl⟩
  · exact ⟨t1, by unfold valueAt; simp only [List.find?_cons, decide_true, Option.map_some]⟩
  · exact ⟨t2, by unfold valueAt; simp only [List.find?_cons, h12, decide_false, decide_true, Option.map_some]⟩
  · exact ⟨t3, by unfold valueAt; simp only [List.find?_cons, h13, h23, decide_false, decide_true, Option.map_some]⟩
theorem get_kind {w : World} {A : Around} {E : Value → Shared → Prop} {s : Shared} {h₀ : Heap} {L d : Addr} {news : List (Addr × Obj)} {o : Obj} {c p : Str} {t t1 t2 t3 : Tok} {Q : Value → Shared → Prop} (N : News h₀ L s.heap news) (hp : (d, o) ∈ news)
    (hd : o.IsDictOf (PySem.strKind PG w) [(Str.ofString "var", Value.str (Str.ofString "") t1), (Str.ofString "net", .str (Str.ofString "assign_to_net") t2), (Str.ofString "block", .str (Str.ofString "not_assignable") t3)]) (hk : KindIs c p) (h : ∀ t', Q (.str p t') { s with toks := s.toks + 1 }) :
    wpAny (model PG w) A (getItem (.ref d) (.str c t)) Q E s := by
  obtain ⟨t', e⟩ := kind_at (t1 := t1) (t2 := t2) (t3 := t3) hk
  exact get_led N hp hd e (h t')
theorem words_28 : True := by
  k_with "m:getItem ref str" => ((k_here; (with_reducible rename KindIs _ _ => hkX); (with_reducible rename Obj.IsDictOf _ _ (strPairs _) => hdX); refine get_kind (by k_asm) (by with_unfolding_all exact List.Mem.head _) (by with_unfolding_all exact hdX) hkX ?_; intros))
  exact trivial
theorem law_target_rows_spec {w : World} {g₀ : Heap} {ev : Value} {d : Idn} {sd : Addr} {o : Obj} {kvs : List (Str × Value)} {σ : Str → Option Str} (he : IdAt (IsTup g₀) ev d) (hsd : g₀.get? sd = some o) (hD : o.IsDictOf (PySem.strKind PG w) kvs) (lo : (sd == sysModules) = false) (hσ : SeenAt kvs σ) (hG : GoodS σ) :
    GivesAt w 306 [ev, .ref sd] 10 100 g₀ (fun T us => RowsIn T us (oTarget σ d)) := by
  walk_at "Mine.gives"
  case hm => exact rows_mono _
  intro mean mg mb dp un gd outer A₀ base g L h₁ s Qe B F X Tp hd hu N hg
  have hsd := hg _ _ hsd
  have he := he.mono (tup_keeps hg)
  clear hg
  dsimp only [fnOf, List.map, List.zip, List.zipWith, List.reverse, List.reverseAux, List.append, HAppend.hAppend, Append.append] at F
  refine fr_let F ?_
  clear F
  intro m0 F
  refine hide_of ?_
  intro Gh
  refine ex4 he ?_
  clear he
  intro ea u1 u2 u3
  intro hII
  refine an2 hII ?_
  clear hII
  intro e hE
  k_unfold
  subst e
  have hs := hσ d.name
  cases hq : σ d.name with
  | none =>
    rw [hq] at hs
    rw [show oTarget σ d = [⟨Str.ofString "undeclared", d.pos, d.name⟩] from (by unfold oTarget; rw [hq])]
    have hb := congrArg Option.isSome hs
    dsimp only [Option.isSome] at hb
    walk_at "Mine.in"
    all_goals walk_at "Mine.gdone"
  | some c =>
    rw [hq] at hs
    refine hide_of ?_
    intro Gh
    obtain ⟨t, hs⟩ := hs
    k_unfold
    have hb := congrArg Option.isSome hs
    dsimp only [Option.isSome] at hb
    rcases hG _ _ hq with e | e | e
    · have hk : KindIs c (Str.ofString "") := .inl ⟨e, rfl⟩
      rw [show oTarget σ d = [] from (by unfold oTarget; rw [hq, e]; rfl)]
      walk_at "Mine.in"
      all_goals walk_at "Mine.gdone"
    · have hk : KindIs c (Str.ofString "assign_to_net") := .inr (.inl ⟨e, rfl⟩)
      rw [show oTarget σ d = [⟨Str.ofString "assign_to_net", d.pos, d.name⟩] from (by unfold oTarget; rw [hq, e]; rfl)]
      walk_at "Mine.in"
      all_goals walk_at "Mine.gdone"
    · have hk : KindIs c (Str.ofString "not_assignable") := .inr (.inr ⟨e, rfl⟩)
      rw [show oTarget σ d = [⟨Str.ofString "not_assignable", d.pos, d.name⟩] from (by unfold oTarget; rw [hq, e]; rfl)]
      walk_at "Mine.in"
      all_goals walk_at "Mine.gdone"

section
variable {w : World} {A : Around} {E : Value → Shared → Prop} {R : Result → Shared → Prop} {s : Shared} {elt t1 i1 t2 i2 : PySem.Expr} {scope : Scope} {pos : Pos} {it acc : Value} {env : Env}
noncomputable abbrev lc2 (elt t1 i1 t2 i2 : PySem.Expr) (scope : Scope) (pos : Pos) : PySem.Expr := .ListComp elt [⟨t1, i1, [], 0⟩, ⟨t2, i2, [], 0⟩] scope pos
theorem turn_outer : compTurn (lc2 elt t1 i1 t2 i2 scope pos) 0 it acc env = (standAt i1.pos >>= fun _ => pyNext it >>= fun r => match r with
      | none => pure (.done .next)
      | some v => letOwnedTupleGo t1 it v >>= fun _ => assign t1 env v >>= fun _ =>
        eval i2 env >>= fun x => standAt i2.pos >>= fun _ => foldedSetIterable i2 env x >>= fun x => holding [x] (pyIter x) >>= fun it2 => runOwn (.compStart (lc2 elt t1 i1 t2 i2 scope pos) 1 it2 acc env) env >>= fun _ =>
          again (.compLoop (lc2 elt t1 i1 t2 i2 scope pos) 0 it acc env)) := by rfl
theorem turn_inner : compTurn (lc2 elt t1 i1 t2 i2 scope pos) 1 it acc env = (standAt i2.pos >>= fun _ => pyNext it >>= fun r => match r with
      | none => pure (.done .next)
      | some v => letOwnedTupleGo t2 it v >>= fun _ => assign t2 env v >>= fun _ =>
        (eval elt env >>= fun x => call (.builtin "list.append") [acc, x] >>= fun _ => pure ()) >>= fun _ =>
          again (.compLoop (lc2 elt t1 i1 t2 i2 scope pos) 1 it acc env)) := by rfl
theorem loop_outer (I : Nat → Shared → Prop)
    (turn : ∀ n s, I n s → ∀ E' : Value → Shared → Prop, wpAny (MD w) A (pyNext it) (fun r s₁ => match r with
      | none => R (.ok .next) s₁
      | some v => wpAny (MD w) A (assign t1 env v) (fun _ s₂ => wpAny (MD w) A (eval i2 env) (fun x s₃ => wpAny (MD w) A (pyIter x) (fun it2 s₄ =>
          codeAny (MD w) A (.compStart (lc2 elt t1 i1 t2 i2 scope pos) 1 it2 acc env) (fun r s' => match r with | .ok _ => ∃ m, m < n ∧ I m s' | .error _ => False) s₄) E' s₃) E' s₂) E' s₁) E' s)
    (n : Nat) (h : I n s) (ht : ∀ v, letOwnedTupleGo t1 it v = pure () := by intro _; rfl) (hf : ∀ x, foldedSetIterable i2 env x = pure x := by intro _; rfl) :
    codeAny (MD w) A (.compLoop (lc2 elt t1 i1 t2 i2 scope pos) 0 it acc env) R s := by
  refine codeAny_loop rfl I (fun n s hI => ?_) n h
  show wpAny _ A ((compTurn (lc2 elt t1 i1 t2 i2 scope pos) 0 it acc env).onRaise (fun x => do noteFrame x env; theTreesLotGoes x)) _ _ s
  refine wpAny_noted ?_
  rw [turn_outer]
  refine wpAny_bind (wpAny_standAt (wpAny_bind (wpAny_mono (turn n s hI _) (fun r s₁ h₁ => ?_) fun _ _ h' => h')))
  cases r with
  | none => exact wpAny_pure h₁
  | some v =>
    refine wpAny_bind (wpAny_of_eq (ht v) ?_)
    refine wpAny_bind (wpAny_mono h₁ (fun _ s₂ h₂ => wpAny_bind (wpAny_mono h₂ (fun x s₃ h₃ => ?_) fun _ _ h' => h')) fun _ _ h' => h')
    refine wpAny_bind (wpAny_standAt (wpAny_bind (wpAny_of_eq (hf x) (wpAny_bind (wpAny_holding (wpAny_mono h₃ (fun it2 s₄ h₄ => ?_) fun _ _ h' => h'))))))
    refine wpAny_bind (wpAny_runOwn ?_ (by intro x; cases x))
    rw [Around.mark_none]
    refine codeAny_mono h₄ fun r s' hr => ?_
    cases r with
    | ok f => exact wpAny_pure ⟨rfl, hr⟩
    | error e => exact hr.elim
theorem loop_inner (I : Nat → Shared → Prop)
    (turn : ∀ n s, I n s → ∀ E' : Value → Shared → Prop, wpAny (MD w) A (pyNext it) (fun r s₁ => match r with
      | none => R (.ok .next) s₁
      | some v => wpAny (MD w) A (assign t2 env v) (fun _ s₂ => wpAny (MD w) A (eval elt env) (fun x s₃ => wpAny (MD w) A (call (.builtin "list.append") [acc, x]) (fun _ s₄ => ∃ m, m < n ∧ I m s₄) E' s₃) E' s₂) E' s₁) E' s)
    (n : Nat) (h : I n s) (ht : ∀ v, letOwnedTupleGo t2 it v = pure () := by intro _; rfl) :
    codeAny (MD w) A (.compLoop (lc2 elt t1 i1 t2 i2 scope pos) 1 it acc env) R s := by
  refine codeAny_loop rfl I (fun n s hI => ?_) n h
  show wpAny _ A ((compTurn (lc2 elt t1 i1 t2 i2 scope pos) 1 it acc env).onRaise (fun x => do noteFrame x env; theTreesLotGoes x)) _ _ s
  refine wpAny_noted ?_
  rw [turn_inner]
  refine wpAny_bind (wpAny_standAt (wpAny_bind (wpAny_mono (turn n s hI _) (fun r s₁ h₁ => ?_) fun _ _ h' => h')))
  cases r with
  | none => exact wpAny_pure h₁
  | some v =>
    refine wpAny_bind (wpAny_of_eq (ht v) ?_)
    exact wpAny_bind (wpAny_mono h₁ (fun _ s₂ h₂ => wpAny_bind (wpAny_bind (wpAny_mono h₂ (fun x s₃ h₃ => wpAny_bind (wpAny_mono h₃ (fun _ s₄ h₄ => wpAny_pure (wpAny_pure ⟨rfl, h₄⟩)) fun _ _ h' => h')) fun _ _ h' => h'))) fun _ _ h' => h')
theorem start_inner {I : Addr} (h0 : codeAny (MD w) A (.compLoop (lc2 elt t1 i1 t2 i2 scope pos) 1 (.ref I) acc env) R s)
    (h : ∀ (E' : Value → Shared → Prop), wpAny (MD w) A (pyIter (.ref I)) (fun it' s' => codeAny (MD w) A (.compLoop (lc2 elt t1 i1 t2 i2 scope pos) 1 it' acc env) R s') E' s) :
    codeAny (MD w) A (.compStart (lc2 elt t1 i1 t2 i2 scope pos) 1 (.ref I) acc env) R s := by
  refine codeAny_of_tree ?_
  show wpAny _ _ ((compStart (lc2 elt t1 i1 t2 i2 scope pos) 1 (.ref I) acc env).onRaise (fun x => do noteFrame x env; standAt theWindowsPlace)) _ _ s
  refine wpAny_notedAt ?_
  unfold compStart
  show wpAny _ _ (ask >>= _) _ _ s
  refine wpAny_bind (wpAny_askSetting (wpAny_ite ?_))
  split
  · first
      | exact wpAny_bind (wpAny_pure (wpAny_pure (And.intro rfl h0)))
      | exact wpAny_pure (And.intro rfl h0)
  · first
      | exact wpAny_bind (wpAny_rule (wpAny_bind (wpAny_standAt (wpAny_bind (wpAny_mono (h _) (fun it' s' h' => wpAny_pure (And.intro rfl h')) fun _ _ x => x)))))
      | (refine wpAny_bind (wpAny_rule ?_); show wpAny _ _ (standAt i2.pos >>= _) _ _ s; exact wpAny_bind (wpAny_standAt (wpAny_bind (wpAny_mono (h _) (fun it' s' h' => wpAny_pure (And.intro rfl h')) fun _ _ x => x))))
end

section
variable {h h' g : Heap} {L : Addr} {m : Str → Option Value} {X : List Addr}
theorem fr_butX (F : Fr g L h m) (hk : ∀ b o, b ∉ X → h.get? b = some o → h'.get? b = some o) (hL : L ∉ X) (hX : ∀ b ∈ X, g.get? b = none) : Fr g L h' m :=
  ⟨F.ns.at fun o e => hk L o hL e, fun b o e => hk b o (fun hb => by rw [hX b hb] at e; cases e) (F.keep b o e), F.above⟩
noncomputable def NoTup (o : Obj) : Prop := ∀ vs n, o.data = .seq vs n → o.cls ≠ .type "tuple"
theorem tup_butX (hk : ∀ b o, b ∉ X → h.get? b = some o → h'.get? b = some o) (hX : ∀ b ∈ X, ∀ o, h.get? b = some o → NoTup o) : ∀ a vs, IsTup h a vs → IsTup h' a vs := by
  intro a vs hII
  obtain ⟨o, ho, c, n, d⟩ := hII
  exact ⟨o, hk a o (fun ha => hX a ha o ho vs n d c) ho, c, n, d⟩
theorem notup_ns {C : Addr} {mC : Str → Option Value} (x : h.Ns C mC) : ∀ o, h.get? C = some o → NoTup o := fun o e vs n d => by
  refine ex3 x ?_
  clear x
  intro o' es ep
  intro hII
  refine an3 hII ?_
  clear hII
  intro e' d' _
  rw [e] at e'; cases e'
  rw [d] at d'; cases d'
theorem notup_list {D : Addr} {us : Array Value} {n : Nat} (x : h.get? D = some (listOf us n)) : ∀ o, h.get? D = some o → NoTup o := fun o e vs n d c => by
  rw [x] at e; cases e
  exact tl_ne c
theorem fresh_none {a : Addr} (ha : h.objs.size ≤ a) : h.get? a = none := by
  cases e : h.get? a with
  | none => rfl
  | some o => exact absurd (Heap.lt_size e) (Nat.not_lt.mpr ha)
theorem base_none (F : Fr g L h m) {a : Addr} (ha : h.get? a = none) : g.get? a = none := by
  cases e : g.get? a with
  | none => rfl
  | some o => have := F.keep _ _ e; rw [ha] at this; cases this
end
noncomputable def PairAt (T : TP) (v : Value) (p : Str × Int) : Prop := ∃ a t1 t2, v = .ref a ∧ T a #[.str p.1 t1, .int p.2 t2]
theorem PairAt.mono {T T' : TP} (h : ∀ a vs, T a vs → T' a vs) {v : Value} {p : Str × Int} (x : PairAt T v p) : PairAt T' v p := by
  refine ex3 x ?_
  clear x
  intro a t1 t2
  intro hII
  refine an2 hII ?_
  clear hII
  intro e q
  exact ⟨a, t1, t2, e, h _ _ q⟩
theorem ListAt.append {α : Type} {P : Value → α → Prop} : ∀ {vs us : List Value} {ds es : List α}, ListAt P vs ds → ListAt P us es → ListAt P (vs ++ us) (ds ++ es)
  | [], _, [], _, _, y => y
  | _ :: _, _, _ :: _, _, ⟨a, b⟩, y => ⟨a, ListAt.append b y⟩
  | [], _, _ :: _, _, x, _ => x.elim
  | _ :: _, _, [], _, x, _ => x.elim
noncomputable def preP (ps : Nat → List (Str × Int)) (i : Nat) : List (Str × Int) := (List.range i).flatMap ps
theorem preP_succ (ps : Nat → List (Str × Int)) (i : Nat) : preP ps (i + 1) = preP ps i ++ ps i := by
  unfold preP
  rw [List.range_succ, List.flatMap_append, List.flatMap_cons, List.flatMap_nil, List.append_nil]
theorem preP_mono (ps : Nat → List (Str × Int)) {i j : Nat} (h : i ≤ j) : (preP ps i).length ≤ (preP ps j).length := by
  induction h with
  | refl => exact Nat.le_refl _
  | step _ ih => rw [preP_succ, List.length_append]; omega

theorem GivesAt.useH {w : World} {f : Addr} {vs : List Value} {dz uz : Nat} {g₀ : Heap} {P : TP → List Value → Prop} (C : GivesAt w f vs dz uz g₀ P) (hmono : ∀ T T' : TP, (∀ a vs, T a vs → T' a vs) → ∀ us, P T us → P T' us)
    {mean : ExcName → Option Value} {mg mb : Str → Option Value} {dp un : Nat} {gd : Option (List Code)} {cn : Str} {cs : Scope} {a : Addr} {ccd : Value} {cl : List (Str × Addr)} {outer : List Env} {A₀ : Around} {base h₀ : Heap} {L : Addr} {m : Str → Option Value} {hs : Heap} {gs : Array GenState} {ds : Drawn} {ts : Nat} {os : OsState}
    {Q E : Value → Shared → Prop}
    (B : Below A₀ base outer h₀) (F : Fr h₀ L hs m) (X : (hd.heap_1 w.params).In h₀) (T : Top PV LS mean mg mb h₀) (hk : cs.kind = .function) (hd : dp + dz < recursionLimit) (hu : un + uz < cLine)
    (hg : ∀ b o, g₀.get? b = some o → hs.get? b = some o)
    (ret : ∀ D us n h' tk', Fr h₀ L h' m → (∀ b o, b ≠ L → hs.get? b = some o → h'.get? b = some o) → h'.get? D = some (listOf us.toArray n) → hs.get? D = none → P (IsTup h') us → Q (.ref D) ⟨h', gs, ds, tk', os⟩) :
    wpAny (MD w) (AR dp un gd cn cs L a ccd cl outer) (call (.ref f) vs) Q E ⟨hs, gs, ds, ts, os⟩ := by
  refine GivesAt.use C B F X T hk hd hu (news_snap (ex := [])) hg fun D us n I' h' tk' F' N' hne hsub hP => ?_
  have oD := (N' _ (.head _))
  have hkeep : ∀ b o, b ≠ L → hs.get? b = some o → h'.get? b = some o := fun b o hb e => by
    cases q : h₀.get? b with
    | some o' =>
      have := F.keep _ _ q
      rw [e] at this; cases this
      exact F'.keep _ _ q
    | none => exact (N' _ (.tail _ (hsub _ (mem_snap e hb (fun x => (List.not_mem_nil x).elim) q)))).1
  refine ret D us n h' tk' F' hkeep oD.1 ?_ (hmono _ _ (LP.up F' (News.sub N' fun p hp => .tail _ hp)) _ hP)
  cases q : hs.get? D with
  | none => rfl
  | some o =>
    exact absurd rfl (hne _ (hsub _ (mem_snap q oD.2.1 (fun x => (List.not_mem_nil x).elim) oD.2.2)))

section
variable {w : World} {A : Around} {E : Value → Shared → Prop} {Q : Value → Shared → Prop} {s : Shared} {env : Env} {g : Heap} {L : Addr} {m : Str → Option Value} {scope : Scope} {pos : Pos} {x y : Str} {px py py' : Pos} {i1 i2 : PySem.Expr}
theorem kind_relabel (hkind : scope.kind = .function) (C : Addr) : ((compEnvC scope [] C env).scope.kind == .class || ((compEnvC scope [] C env).scope.kind == .module && (compEnvC scope [] C env).locals != (compEnvC scope [] C env).globals)) = false := by
  simp [compEnvC, relabel, hkind]

theorem inner_pairs {Rok : Shared → Prop} {D C D2 I2 : Addr} {ys us2 : List Value} {n2 : Nat} {mC : Str → Option Value} (hh : A.handled = none) (hkind : scope.kind = .function) (hy : scope.names.lookup y = some .local) (hdbg : (y == ("__debug__" : Str)) = false)
    (hit : s.heap.IsListIter I2 D2 0) (hl : s.heap.get? D2 = some (listOf us2.toArray n2)) (hD : s.heap.get? D = some (LCg.lst ys)) (hC : s.heap.Ns C mC)
    (n1 : D2 ≠ I2) (n2' : C ≠ I2) (n3 : D ≠ I2) (n4 : D ≠ C) (n5 : D ≠ D2) (n6 : C ≠ D2) (hsz : (ys ++ us2).length ≤ sizeLine)
    (done : ∀ h tk mC', (∀ b o, b ∉ [D, C, I2] → s.heap.get? b = some o → h.get? b = some o) → h.get? D = some (LCg.lst (ys ++ us2)) → h.Ns C mC' → Rok { s with heap := h, toks := tk }) :
    codeAny (MD w) A (.compStart (lc2 (.Name y py') (.Name x px) i1 (.Name y py) i2 scope pos) 1 (.ref I2) (.ref D) (compEnvC scope [] C env)) (fun r s' => match r with | .ok _ => Rok s' | .error _ => False) s := by
  have W := Walks.list (prog := PG) (w := w) hh I2 D2 n1 us2.toArray
  have hst0 : s.heap.IsListIter I2 D2 0 ∧ s.heap.IsList D2 us2.toArray := ⟨hit, ⟨_, hl, rfl, _, rfl⟩⟩
  have loop : codeAny (MD w) A (.compLoop (lc2 (.Name y py') (.Name x px) i1 (.Name y py) i2 scope pos) 1 (.ref I2) (.ref D) (compEnvC scope [] C env)) (fun r s' => match r with | .ok _ => Rok s' | .error _ => False) s := by
    refine loop_inner (fun k s' => ∃ i h tk mC', s' = { s with heap := h, toks := tk } ∧ i ≤ us2.length ∧ k = us2.length + 1 - i ∧ (h.IsListIter I2 D2 i ∧ h.IsList D2 us2.toArray) ∧ (∀ b o, b ∉ [D, C, I2] → s.heap.get? b = some o → h.get? b = some o) ∧
      h.get? D = some (LCg.lst (ys ++ us2.take i)) ∧ h.Ns C mC') ?_ (us2.length + 1) ⟨0, s.heap, s.toks, mC, rfl, Nat.zero_le _, rfl, hst0, fun _ _ _ e => e, by rw [List.take_zero, List.append_nil]; exact hD, hC⟩
    intro k s' hII E'
    refine ex4 hII ?_
    clear hII
    intro i h tk mC'
    intro hII
    refine an7 hII ?_
    clear hII
    intro eqO1
    subst eqO1
    intro hi eqO2
    subst eqO2
    intro hst hk hD' hC'
    by_cases hlt : i < us2.length
    · refine W.item i _ _ _ (by simpa using hlt) hst fun v h₁ tk₁ hv hst₁ hk₁ => ?_
      have hk1 : ∀ b o, b ≠ I2 → h.get? b = some o → h₁.get? b = some o := fun b o hb e => hk₁ b o (fun q => hb (List.mem_singleton.mp q)) e
      refine wpAny_assign_Name (wpAny_storeName_local (lookup_relabel_local hy) (hC'.at fun o e => hk1 _ o n2' e) (fun h₂ hn₂ hs₂ => ?_) (kind_relabel hkind C))
      have hk2 : ∀ b o, b ≠ C → h₁.get? b = some o → h₂.get? b = some o := fun b o hb e => hs₂.extBut b o hb e
      refine wpAny_Name (wpAny_loadName_local (v := v) (show (compEnvC scope [] C env).scope.kind = .function from hkind) (lookup_relabel_local hy) hn₂ (by simp) ?_) hdbg
      refine append_at (hsz := ?_) (hk2 _ _ n4 (hk1 _ _ n3 hD')) fun h₃ hs₃ hD₃ => ?_
      · have hk3 : ∀ b o, b ≠ D → h₂.get? b = some o → h₃.get? b = some o := fun b o hb e => hs₃.extBut b o hb e
        have hv' : us2[i]? = some v := by simpa using hv
        refine ⟨us2.length + 1 - (i + 1), by omega, i + 1, h₃, _, _, rfl, hlt, rfl, W.frame _ _ _ hst₁ fun b hb o e => ?_, fun b o hb e => ?_, ?_, hn₂.at fun o e => hk3 _ o (Ne.symm n4) e⟩
        · have hb' : b = I2 ∨ b = D2 := by
            rcases List.mem_cons.mp hb with q | q
            · exact .inl q
            · exact .inr (List.mem_singleton.mp q)
          rcases hb' with q | q
          · exact hk3 _ _ (q ▸ Ne.symm n3) (hk2 _ _ (q ▸ Ne.symm n2') e)
          · exact hk3 _ _ (q ▸ Ne.symm n5) (hk2 _ _ (q ▸ Ne.symm n6) e)
        · have h1 : b ≠ D := fun q => hb (by simp [q])
          have h2 : b ≠ C := fun q => hb (by simp [q])
          have h3 : b ≠ I2 := fun q => hb (by simp [q])
          exact hk3 _ _ h1 (hk2 _ _ h2 (hk1 _ _ h3 (hk b o hb e)))
        · have e1 : ys ++ us2.take (i + 1) = (ys ++ us2.take i) ++ [v] := by rw [List.take_add_one, hv', Option.toList_some, List.append_assoc]
          rw [e1]
          exact hD₃.trans (congrArg some (LCg.lst_snoc _ v))
      · show (ys ++ us2.take i).toArray.size ≤ sizeLine
        rw [List.size_toArray]
        refine Nat.le_trans ?_ hsz
        rw [List.length_append, List.length_append, List.length_take]
        omega
    · obtain rfl : i = us2.length := Nat.le_antisymm hi (Nat.not_lt.mp hlt)
      refine W.done _ _ _ (by simpa using hst) fun h₂ tk₂ hk₂ => ?_
      have hk1 : ∀ b o, b ≠ I2 → h.get? b = some o → h₂.get? b = some o := fun b o hb e => hk₂ b o (fun q => hb (List.mem_singleton.mp q)) e
      refine done h₂ tk₂ mC' (fun b o hb e => hk1 b o (fun q => hb (by simp [q])) (hk b o hb e)) ?_ (hC'.at fun o e => hk1 _ o n2' e)
      rw [List.take_length] at hD'
      exact hk1 _ _ n3 hD'
  exact start_inner loop fun E' => W.self 0 _ _ _ hst0 loop

/-- a list comprehension with two fors at its source -/
noncomputable def Comp2 (w : World) (A : Around) (env : Env) (elt t1 i1 t2 i2 : PySem.Expr) (scope : Scope) (pos : Pos) (Q E : Value → Shared → Prop) (xv : Value) (s₁ : Shared) : Prop :=
  wpAny (MD w) A (pyIter xv) (fun it s₂ => wpAny (MD w) A (newList []) (fun acc s₃ => wpAny (MD w) A (newFunctionEnv scope env.globals [] [] env.qual none .none (some env)) (fun cenv s₄ =>
    codeAny (MD w) A (.compStart (lc2 elt t1 i1 t2 i2 scope pos) 0 it acc { cenv with scope := relabel scope env }) (compPost (MD w) A E none Q acc cenv.locals) s₄) E s₃) E s₂) E s₁
theorem comp2_start {elt t1 i1 t2 i2 : PySem.Expr} (hclos : closureFor scope env = pure []) (hkind : scope.kind = .function) (hnames : ∀ y ∈ scope.names, y.2 = .local → scope.names.lookup y.1 = some .local)
    (h : wpAny (MD w) A (eval i1 env) (fun xv s₁ => Comp2 w A env elt t1 i1 t2 i2 scope pos Q E xv s₁) E s) (hs : ∀ x, foldedSetIterable i1 env x = pure x) :
    wpAny (MD w) A (eval (lc2 elt t1 i1 t2 i2 scope pos) env) Q E s := by
  show wpAny _ _ (eval (.ListComp elt [⟨t1, i1, [], 0⟩, ⟨t2, i2, [], 0⟩] scope pos) env) _ _ _
  rw [eval_ListComp]
  exact wpAny_comprehension_free (use := none) rfl hs hclos hkind hnames h

theorem comp_pairs {ax : Addr} {items : Array Value} (ps : Nat → List (Str × Int)) (hh : A.handled = none) (hcell : ∀ z ∈ scope.names, z.2 ≠ .cell) (hkind : scope.kind = .function) (hx : scope.names.lookup x = some .local) (hy : scope.names.lookup y = some .local)
    (hdbg : (y == ("__debug__" : Str)) = false) (hf : ∀ C x, foldedSetIterable i2 (compEnvC scope [] C env) x = pure x) (ht : IsTup g ax items) (F : Fr g L s.heap m) (hsz : (preP ps items.size).length ≤ sizeLine)
    (turn : ∀ i v C h tk m₂ (E' : Value → Shared → Prop), items[i]? = some v → Fr g L h m → h.Ns C m₂ → m₂ x = some v → g.get? C = none → C ≠ L →
      wpAny (MD w) A (eval i2 (compEnvC scope [] C env)) (fun r s₂ => ∃ D2 us2 n2 h' tk', r = .ref D2 ∧ s₂ = { s with heap := h', toks := tk' } ∧ Fr g L h' m ∧ (∀ b o, b ≠ L → h.get? b = some o → h'.get? b = some o) ∧ h'.get? D2 = some (listOf us2.toArray n2) ∧ h.get? D2 = none ∧ ListAt (PairAt (IsTup h')) us2 (ps i)) E' { s with heap := h, toks := tk })
    (done : ∀ D us n h tk, Fr g L h m → (∀ b o, b ≠ L → s.heap.get? b = some o → h.get? b = some o) → h.get? D = some (listOf us.toArray n) → s.heap.get? D = none → ListAt (PairAt (IsTup h)) us (preP ps items.size) → Q (.ref D) { s with heap := h, toks := tk }) :
    Comp2 w A env (.Name y py') (.Name x px) i1 (.Name y py) i2 scope pos Q E (.ref ax) s := by
  have hts := F.tup ht
  have hlt : ax < g.objs.size := by obtain ⟨o, ho, _⟩ := ht; exact Heap.lt_size ho
  have hLlt : L < s.heap.objs.size := F.ns.lt
  have hne : ax ≠ s.heap.objs.size := Nat.ne_of_lt (Nat.lt_trans (Nat.lt_of_lt_of_le hlt F.above) hLlt)
  refine wpAny_pyIter_tuple hts ?_
  refine wpAny_newObj_type (wpAny_newFunctionEnv hcell (by intro y hy; simp at hy) (fun h₁ hns₁ hsb₁ => ?_) hkind)
  dsimp only at hns₁ hsb₁ ⊢
  generalize hH1 : s.heap.push { cls := .type "tuple_iterator", dict := none, data := .fields #[.ref ax, .int 0 0] } = H1 at hns₁ hsb₁ ⊢
  generalize hH2 : H1.push { cls := .type "list", dict := none, data := .seq ([] : List Value).toArray } = H2 at hns₁ hsb₁ ⊢
  have z1 : H1.objs.size = s.heap.objs.size + 1 := by rw [← hH1, Heap.size_push]
  have z2 : H2.objs.size = H1.objs.size + 1 := by rw [← hH2, Heap.size_push]
  generalize hIe : s.heap.objs.size = I at *
  generalize hDe : H1.objs.size = D at *
  generalize hCe : H2.objs.size = C at *
  have lID : I < D := by omega
  have lDC : D < C := by omega
  have lIC : I < C := Nat.lt_trans lID lDC
  have ID : I ≠ D := Nat.ne_of_lt lID
  have IC : I ≠ C := Nat.ne_of_lt lIC
  have DC : D ≠ C := Nat.ne_of_lt lDC
  have gI : h₁.get? I = some { cls := .type "tuple_iterator", data := .fields #[.ref ax, .int 0 0] } := by
    refine hsb₁.extBut _ _ IC (Heap.get?_push_of_some _ ?_)
    rw [← hH2]
    refine Heap.get?_push_of_some _ ?_
    rw [← hH1, ← hIe]
    exact Heap.get?_push_size _ rfl
  have gD : h₁.get? D = some (LCg.lst []) := by
    refine hsb₁.extBut _ _ DC (Heap.get?_push_of_some _ ?_)
    rw [← hH2, ← hDe]
    exact Heap.get?_push_size _ rfl
  have old : ∀ b o, s.heap.get? b = some o → h₁.get? b = some o := fun b o e => by
    have hb : b < I := hIe ▸ Heap.lt_size e
    refine hsb₁.extBut _ _ (Nat.ne_of_lt (Nat.lt_trans hb lIC)) (Heap.get?_push_of_some _ ?_)
    rw [← hH2]
    refine Heap.get?_push_of_some _ ?_
    rw [← hH1]
    exact Heap.get?_push_of_some _ e
  have fI : s.heap.get? I = none := fresh_none (by rw [hIe]; exact Nat.le_refl _)
  have fD : s.heap.get? D = none := fresh_none (by rw [hIe]; exact Nat.le_of_lt lID)
  have fC : s.heap.get? C = none := fresh_none (by rw [hIe]; exact Nat.le_of_lt lIC)
  have bI := base_none F fI
  have bD := base_none F fD
  have bC := base_none F fC
  have LI : L ≠ I := Nat.ne_of_lt hLlt
  have LD : L ≠ D := Nat.ne_of_lt (Nat.lt_trans hLlt lID)
  have LC : L ≠ C := Nat.ne_of_lt (Nat.lt_trans hLlt lIC)
  have W := Walks.tuple (prog := PG) (w := w) hh I ax hne items
  have loop : ∀ tk, codeAny (MD w) A (.compLoop (lc2 (.Name y py') (.Name x px) i1 (.Name y py) i2 scope pos) 0 (.ref I) (.ref D) (compEnvC scope [] C env)) (compPost (MD w) A E none Q (.ref D) C) { s with heap := h₁, toks := tk } := by
    intro tk
    refine loop_outer (fun k s' => ∃ i h tk mC ys, s' = { s with heap := h, toks := tk } ∧ i ≤ items.size ∧ k = items.size + 1 - i ∧ h.IsTupleIter I ax i ∧ Fr g L h m ∧ h.Ns C mC ∧ (∀ b o, b ≠ L → s.heap.get? b = some o → h.get? b = some o) ∧
      h.get? D = some (LCg.lst ys) ∧ ListAt (PairAt (IsTup h)) ys (preP ps i)) ?_ (items.size + 1) ⟨0, h₁, tk, _, [], rfl, Nat.zero_le _, rfl, ⟨_, gI, rfl, rfl⟩, F.keeps old, hns₁, fun b o _ e => old b o e, gD, trivial⟩ (hf := hf C)
    intro k s' hII E'
    refine ex5 hII ?_
    clear hII
    intro i h tk mC ys
    intro hII
    refine an9 hII ?_
    clear hII
    intro eqO1
    subst eqO1
    intro hi eqO2
    subst eqO2
    intro hit F' hC' hk hD' hP
    by_cases hlt' : i < items.size
    · refine W.item i _ _ _ hlt' ⟨hit, F'.tup ht⟩ fun v h₂ tk₂ hv hst₂ hk₂ => ?_
      have k2 : ∀ b o, b ≠ I → h.get? b = some o → h₂.get? b = some o := fun b o hb e => hk₂ b o (fun q => hb (List.mem_singleton.mp q)) e
      refine wpAny_assign_Name (wpAny_storeName_local (lookup_relabel_local hx) (hC'.at fun o e => k2 _ o (Ne.symm IC) e) (fun h₃ hn₃ hs₃ => ?_) (kind_relabel hkind C))
      have k3 : ∀ b o, b ≠ C → h₂.get? b = some o → h₃.get? b = some o := fun b o hb e => hs₃.extBut b o hb e
      have F3 : Fr g L h₃ m := fr_butX F' (X := [I, C]) (fun b o hb e => k3 _ _ (fun q => hb (by simp [q])) (k2 _ _ (fun q => hb (by simp [q])) e)) (by simp [LI, LC]) (fun b hb => by
        rcases List.mem_cons.mp hb with q | q
        · rw [q]; exact bI
        · rw [List.mem_singleton.mp q]; exact bC)
      refine wpAny_mono (turn i v C h₃ _ _ E' hv F3 hn₃ (by simp) bC (Ne.symm LC)) (fun r s₄ h4 => ?_) fun _ _ e => e
      refine ex5 h4 ?_
      clear h4
      intro D2 us2 n2 h₄ tk₄
      intro hII
      refine an7 hII ?_
      clear hII
      intro eqO1
      subst eqO1
      intro eqO2
      subst eqO2
      intro F4 k4 hD2 fD2 hps
      have gD3 : h₃.get? D = some (LCg.lst ys) := k3 _ _ DC (k2 _ _ (Ne.symm ID) hD')
      have gD4 := k4 _ _ (Ne.symm LD) gD3
      obtain ⟨oI, gI2, cI, dI⟩ := hst₂.1
      have gI3 := k3 _ _ IC gI2
      have gI4 := k4 _ _ (Ne.symm LI) gI3
      have hn4 : h₄.Ns C _ := hn₃.at fun o e => k4 _ o (Ne.symm LC) e
      have lt4 : ∀ {b o}, h₄.get? b = some o → b < h₄.objs.size := fun e => Heap.lt_size e
      refine wpAny_pyIter_list ⟨_, hD2, rfl, _, rfl⟩ ?_
      have up : ∀ b o, h₄.get? b = some o → (h₄.push { cls := .type "list_iterator", data := .fields #[.ref D2, .int 0 0] }).get? b = some o := fun b o e => Heap.get?_push_of_some _ e
      have DD2 : D ≠ D2 := fun q => by rw [← q, gD3] at fD2; cases fD2
      have ID2 : I ≠ D2 := fun q => by rw [← q, gI3] at fD2; cases fD2
      have CD2 : C ≠ D2 := fun q => by
        refine ex3 hn₃ ?_
        clear hn₃
        intro o es ep
        intro hII
        refine an2 hII ?_
        clear hII
        intro e _
        rw [← q] at fD2
        rw [show h₃.get? C = some o from e] at fD2; cases fD2
      have hlen := hP.length
      have hlen2 := hps.length
      have hpm := preP_mono ps (show i + 1 ≤ items.size from hlt')
      rw [preP_succ, List.length_append] at hpm
      refine inner_pairs (mC := _) (D2 := D2) (us2 := us2) (n2 := n2) hh hkind hy hdbg ⟨_, Heap.get?_push_size _ rfl, rfl, rfl⟩ (up _ _ hD2) (up _ _ gD4) (hn4.keeps up) (Nat.ne_of_lt (lt4 hD2)) (Nat.ne_of_lt hn4.lt) (Nat.ne_of_lt (lt4 gD4)) DC DD2 CD2 (by rw [List.length_append]; omega) (fun h₆ tk₆ mC' k6 gD6 hn6 => ?_)
      have k6' : ∀ b o, b ≠ D → b ≠ C → h₄.get? b = some o → h₆.get? b = some o := fun b o h1 h2 e => k6 b o (fun q => by
        simp only [List.mem_cons, List.not_mem_nil, or_false] at q
        rcases q with q | q | q
        · exact h1 q
        · exact h2 q
        · exact absurd (lt4 e) (by
            have q' : b = h₄.objs.size := q
            rw [q']; exact Nat.lt_irrefl _)) (up _ _ e)
      have T46 : ∀ a vs, IsTup h₄ a vs → IsTup h₆ a vs := tup_butX (X := [D, C]) (fun b o hb e => k6' b o (fun q => hb (by simp [q])) (fun q => hb (by simp [q])) e) (fun b hb => by
        rcases List.mem_cons.mp hb with q | q
        · rw [q]; exact notup_list (us := ys.toArray) (n := ys.length) gD4
        · rw [List.mem_singleton.mp q]; exact notup_ns hn4)
      have T34 : ∀ a vs, IsTup h₃ a vs → IsTup h₄ a vs := tup_butX (X := [L]) (fun b o hb e => k4 b o (fun q => hb (by simp [q])) e) (fun b hb => by rw [List.mem_singleton.mp hb]; exact notup_ns F3.ns)
      have T03 : ∀ a vs, IsTup h a vs → IsTup h₃ a vs := tup_butX (X := [I, C]) (fun b o hb e => k3 _ _ (fun q => hb (by simp [q])) (k2 _ _ (fun q => hb (by simp [q])) e)) (fun b hb => by
        rcases List.mem_cons.mp hb with q | q
        · rw [q]
          obtain ⟨o', e', c', _⟩ := hit
          intro o e vs n _ c
          rw [e'] at e; cases e
          rw [c'] at c
          exact absurd (Value.type.inj c) (by decide)
        · rw [List.mem_singleton.mp q]; exact notup_ns hC')
      refine ⟨items.size + 1 - (i + 1), by omega, i + 1, h₆, tk₆, mC', ys ++ us2, rfl, hlt', rfl, ⟨oI, k6' _ _ ID IC gI4, cI, dI⟩, ?_, hn6, ?_, gD6, ?_⟩
      · exact fr_butX F4 (X := [D, C]) (fun b o hb e => k6' b o (fun q => hb (by simp [q])) (fun q => hb (by simp [q])) e) (by simp [LD, LC]) (fun b hb => by
          rcases List.mem_cons.mp hb with q | q
          · rw [q]; exact bD
          · rw [List.mem_singleton.mp q]; exact bC)
      · intro b o hb e
        have h1 : b ≠ I := fun q => by rw [q, fI] at e; cases e
        have h2 : b ≠ D := fun q => by rw [q, fD] at e; cases e
        have h3 : b ≠ C := fun q => by rw [q, fC] at e; cases e
        exact k6' _ _ h2 h3 (k4 _ _ hb (k3 _ _ h3 (k2 _ _ h1 (hk b o hb e))))
      · rw [preP_succ]
        exact ListAt.append (hP.mono fun v d z => ((z.mono T03).mono T34).mono T46) (hps.mono fun v d z => z.mono T46)
    · obtain rfl : i = items.size := Nat.le_antisymm hi (Nat.not_lt.mp hlt')
      refine W.done _ _ _ ⟨hit, F'.tup ht⟩ fun h₂ tk₂ hk₂ => ?_
      have k2 : ∀ b o, b ≠ I → h.get? b = some o → h₂.get? b = some o := fun b o hb e => hk₂ b o (fun q => hb (List.mem_singleton.mp q)) e
      refine ⟨mC, hC'.at fun o e => k2 _ o (Ne.symm IC) e, fun h₃ hs₃ => ?_⟩
      have k3 : ∀ b o, b ≠ C → h₂.get? b = some o → h₃.get? b = some o := fun b o hb e => hs₃.extBut b o hb e
      have kk : ∀ b o, b ∉ [I, C] → h.get? b = some o → h₃.get? b = some o := fun b o hb e => k3 _ _ (fun q => hb (by simp [q])) (k2 _ _ (fun q => hb (by simp [q])) e)
      have T03 : ∀ a vs, IsTup h a vs → IsTup h₃ a vs := tup_butX (X := [I, C]) kk (fun b hb => by
        rcases List.mem_cons.mp hb with q | q
        · rw [q]
          obtain ⟨o', e', c', _⟩ := hit
          intro o e vs n _ c
          rw [e'] at e; cases e
          rw [c'] at c
          exact absurd (Value.type.inj c) (by decide)
        · rw [List.mem_singleton.mp q]; exact notup_ns hC')
      refine done D ys ys.length h₃ tk₂ (fr_butX F' (X := [I, C]) kk (by simp [LI, LC]) (fun b hb => by
        rcases List.mem_cons.mp hb with q | q
        · rw [q]; exact bI
        · rw [List.mem_singleton.mp q]; exact bC)) (fun b o hb e => ?_) (kk _ _ (by simp [Ne.symm ID, DC]) hD') fD (hP.mono fun v d z => z.mono T03)
      have h1 : b ≠ I := fun q => by rw [q, fI] at e; cases e
      have h3 : b ≠ C := fun q => by rw [q, fC] at e; cases e
      exact kk _ _ (by simp [h1, h3]) (hk b o hb e)
  exact codeAny_compStart_list (loop _) (W.self 0 _ _ _ ⟨⟨_, gI, rfl, rfl⟩, (F.keeps old).tup ht⟩ (loop _))
end

theorem words_29 : True := by
  k_with "m:eval ListComp" => ((k_here; k_dflt (refine' comp2_start ?hclos ?hkind ?hnames ?_ ?hs; (case hclos => with_unfolding_all rfl); (case hkind => exact rfl); (case hnames => decide); (case hs => (intro _; exact rfl)); k_whole)))
  exact trivial
theorem Given.ret {g : Heap} {P : TP → List Value → Prop} {s₀ : Shared} {D L' : Addr} {m' : Str → Option Value} {us : List Value} {n : Nat} {I : List (Addr × Obj)} {h' : Heap} {tk' : Nat} (F : Fr g L' h' m') (N : News g L' h' ((D, listOf us.toArray n) :: I)) (hP : P (LP g I) us) :
    Given g P s₀ (.ref D) { s₀ with heap := h', toks := tk' } := ⟨D, L', m', us, n, I, h', tk', rfl, rfl, F, N, hP⟩
theorem words_30 : True := by
  k_with "m:Mine.gret" => (((try k_unfold); (try dsimp only); exact Given.ret (by k_asm) (by k_asm) (by with_reducible assumption)))
  exact trivial
theorem pairs_mono (ps : List (Str × Int)) : ∀ T T' : TP, (∀ a vs, T a vs → T' a vs) → ∀ us, ListAt (PairAt T) us ps → ListAt (PairAt T') us ps := fun _ _ h _ x => x.mono fun _ _ y => y.mono h
noncomputable def atL (ss : List St) (i : Nat) : List (Str × Int) := match ss[i]? with
  | some s => labs s
  | none => []
theorem preP_take (ss : List St) : ∀ k, k ≤ ss.length → preP (atL ss) k = labsL (ss.take k) := by
  intro k
  induction k with
  | zero => intro _; rfl
  | succ k ih =>
    intro hk
    have hlt : k < ss.length := by omega
    rw [preP_succ, ih (by omega), List.take_add_one, labsL_append]
    congr 1
    unfold atL
    simp only [List.getElem?_eq_getElem hlt, Option.toList_some, labsL, List.append_nil]
theorem preP_all (ss : List St) : preP (atL ss) ss.length = labsL ss := by rw [preP_take ss _ (Nat.le_refl _), List.take_length]
theorem Given.pair {g : Heap} {s₀ : Shared} {D a L' : Addr} {m' : Str → Option Value} {n : Nat} {I : List (Addr × Obj)} {h' : Heap} {tk' : Nat} {k : Str} {i : Int} {t1 t2 : Tok} (F : Fr g L' h' m')
    (N : News g L' h' ((D, listOf #[.ref a] n) :: (a, { cls := .type "tuple", data := .seq #[.str k t1, .int i t2] }) :: I)) :
    Given g (fun T us => ListAt (PairAt T) us [(k, i)]) s₀ (.ref D) { s₀ with heap := h', toks := tk' } := Given.intro (us := [.ref a]) F N (.head _) ⟨⟨_, _, _, rfl, .inr ⟨_, .tail _ (.head _), rfl, _, rfl⟩⟩, trivial⟩
theorem Given.none {g : Heap} {s₀ : Shared} {D L' : Addr} {m' : Str → Option Value} {n : Nat} {I : List (Addr × Obj)} {h' : Heap} {tk' : Nat} (F : Fr g L' h' m') (N : News g L' h' ((D, listOf #[] n) :: I)) :
    Given g (fun T us => ListAt (PairAt T) us []) s₀ (.ref D) { s₀ with heap := h', toks := tk' } := Given.intro (us := []) F N (.head _) trivial
section
 local macro_rules | `(tactic| walk_at "call ref") => `(tactic| (k_here; refine' call_stop ?_))
 local macro_rules | `(tactic| walk_at "Mine.idle") => `(tactic| skip)
theorem law_labels_spec {w : World} : ∀ (n : Nat) (g₀ : Heap) (sv : Value) (st : St), ht st ≤ n → sz st ≤ LIM → StAt (IsTup g₀) sv st → GivesAt w 292 [sv] (20 + 10 * n) (200 + 100 * n) g₀ (fun T us => ListAt (PairAt T) us (labs st)) := by
  intro nn
  induction nn with
  | zero =>
    intro g₀ sv st hst hz hs
    cases st with
    | set ip l r =>
      walk_at "Mine.gives"
      case hm => exact pairs_mono _
      intro mean mg mb dp un gd outer A₀ base g L h₁ s Qe B F X Tp hd hu N hg
      have hs := hs.mono (tup_keeps hg)
      unfold StAt at hs
      refine hide_of ?_
      intro Gh
      refine ex5 hs ?_
      clear hs
      intro a t1 t2 lv ev
      intro hII
      refine an4 hII ?_
      clear hII
      intro e hE h1 h2
      k_unfold
      subst e
      clear hg
      dsimp only [fnOf, List.map, List.zip, List.zipWith, List.reverse, List.reverseAux, List.append, HAppend.hAppend, Append.append] at F
      refine fr_let F ?_
      clear F
      intro m0 F
      unfold labs
      walk_at "Mine.in"
      exact Given.none (by k_asm) (by k_asm)
    | delay ip e s => simp [ht] at hst
    | block ip lab ss => simp [ht] at hst
  | succ nn ih =>
    intro g₀ sv st hst hz hs
    walk_at "Mine.gives"
    case hm => exact pairs_mono _
    intro mean mg mb dp un gd outer A₀ base g L h₁ s Qe B F X Tp hd hu N hg
    have hs := hs.mono (tup_keeps hg)
    clear hg
    dsimp only [fnOf, List.map, List.zip, List.zipWith, List.reverse, List.reverseAux, List.append, HAppend.hAppend, Append.append] at F
    refine fr_let F ?_
    clear F
    intro m0 F
    cases st with
    | set ip l r =>
      unfold StAt at hs
      refine hide_of ?_
      intro Gh
      refine ex5 hs ?_
      clear hs
      intro a t1 t2 lv ev
      intro hII
      refine an4 hII ?_
      clear hII
      intro e hE h1 h2
      k_unfold
      subst e
      unfold labs
      walk_at "Mine.in"
      exact Given.none (by k_asm) (by k_asm)
    | delay ip e s =>
      unfold StAt at hs
      refine hide_of ?_
      intro Gh
      refine ex5 hs ?_
      clear hs
      intro a t1 t2 ev sv
      intro hII
      refine an4 hII ?_
      clear hII
      intro e hE h1 h2
      k_unfold
      subst e
      have hC := ih g sv s (by unfold ht at hst; omega) (by unfold sz at hz; omega) h2
      unfold labs
      walk_at "Mine.in"
      unfold CallStop
      refine GivesAt.use hC (by k_asm) (by k_asm) (by k_asm) (by k_asm) rfl (by walk_at "Mine.ar") (by walk_at "Mine.ar") (by k_asm) (Fr.keep (by k_asm)) (fun D us n I' h' tk' F' N' hne hsub hP => ?_)
      walk_at "Mine.gret"
    | block ip lab ss =>
      unfold StAt at hs
      refine hide_of ?_
      intro Gh
      refine ex7 hs ?_
      clear hs
      intro a t1 t2 lv e0 b items
      intro hII
      refine an6 hII ?_
      clear hII
      intro e hE hl hE0 hB hss
      k_unfold
      subst e
      cases lab with
      | some l =>
        refine hide_of ?_
        intro Gh
        obtain ⟨t3, e⟩ := hl
        k_unfold
        subst e
        unfold labs
        walk_at "Mine.in"
        exact Given.pair (by k_asm) (by k_asm)
      | none =>
        have e : lv = .none := hl
        subst e
        have hlen := hss.list.length
        have hz2 := labsL_sz ss
        unfold labs
        walk_at "Mine.in"
        refine comp_pairs (m := _) (L := L) (atL ss) rfl (by decide) rfl rfl rfl (by decide) (by intro _ _; rfl) hB (by k_asm) (by rw [show items.toArray.size = ss.length from by simpa using hlen, preP_all]; unfold sz at hz; have h1 : sizeLine = 16777216 := rfl; have h2 : LIM = 1000000 := rfl; omega) (fun i v C h tk m₂ E' hv F' hns hm₂ bC hCL => ?_) (fun D us n h tk F' hk hD fD hP => ?_)
        · refine hide_of ?_
          intro Gh
          obtain ⟨oC, eC, hoC⟩ := LCg.ns_obj hns
          k_unfold
          have N' : News g L h [(C, oC)] := fun p hp => by rw [List.mem_singleton.mp hp]; exact ⟨eC, hCL, bC⟩
          refine hide_of ?_
          intro Gh
          obtain ⟨d, hd', hid⟩ := hss.list.get (i := i) (v := v) (by simpa using hv)
          k_unfold
          have hC := ih g v d (htL_get (by unfold ht at hst; omega) hd') (Nat.le_trans (szL_get hd') (by unfold sz at hz; omega)) hid
          walk_at "Mine.in"
          unfold CallStop
          refine GivesAt.useH hC (pairs_mono _) (by k_asm) (by k_asm) (by k_asm) (by k_asm) rfl (by walk_at "Mine.ar") (by walk_at "Mine.ar") (Fr.keep (by k_asm)) (fun D us n h' tk' F' hk hD hfr hP => ?_)
          refine ⟨D, us, n, h', tk', rfl, rfl, F', hk, hD, hfr, ?_⟩
          rw [show atL ss i = labs d from by unfold atL; rw [hd']]
          exact hP
        · rw [show items.toArray.size = ss.length from by simpa using hlen, preP_all] at hP
          have F' : Fr g L h _ := F'
          have hLD : D ≠ L := fun q => by
            refine hide_of ?_
            intro Gh
            refine ex3 F'.ns ?_
            intro o es ep
            intro hII
            refine an2 hII ?_
            clear hII
            intro e _
            k_unfold
            have hd := notup_ns F'.ns
            rw [← q, hD] at e
            cases e
            rename_i _ _ h9
            exact absurd h9.1 (by intro x; cases x)
          have N' : News g L h ((D, listOf us.toArray n) :: snap g L h [D]) := fun p hp => by
            rcases List.mem_cons.mp hp with rfl | hp
            · exact ⟨hD, hLD, base_none (by assumption) fD⟩
            · exact news_snap p hp
          refine Given.intro F' N' (.head _) (hP.mono fun v p y => y.mono fun a vs x => ?_)
          refine LP.sub (fun p hp => .tail _ hp) _ _ (lp_snap F' x fun q => ?_)
          refine hide_of ?_
          intro Gh
          obtain ⟨o, e, c, d⟩ := x
          k_unfold
          rw [List.mem_singleton.mp q, hD] at e
          cases e
          exact absurd c tl_ne
end

/-- a for loop at its source -/
noncomputable def ForStop (w : World) (A : Around) (env : Env) (target : PySem.Expr) (body : List Stmt) (Q : Flow → Shared → Prop) (E : Value → Shared → Prop) (xv : Value) (s₁ : Shared) : Prop :=
  wpAny (MD w) A (pyIter xv) (fun it s₂ => codeAny (MD w) A (.forLoop target it body [] env) (fun r s' => match r with | .ok f => Q f s' | .error e => cameBackBy (MD w) A env E e s') s₂) E s₁
section
variable {w : World} {A : Around} {E : Value → Shared → Prop} {Q : Flow → Shared → Prop} {s : Shared} {env : Env} {g : Heap} {m : Str → Option Value} {body : List Stmt}
theorem for_stop {target iter : PySem.Expr} {pos : Pos} (h : wpAny (MD w) A (eval iter env) (fun xv s₁ => ForStop w A env target body Q E xv s₁) E s) (hs : ∀ x, foldedSetIterable iter env x = pure x) :
    wpAny (MD w) A (exec (.For target iter body [] pos) env) Q E s := wpAny_For h hs

noncomputable def OldIter (c : String) (h : Heap) (I : Addr) : Prop := ∀ o, h.get? I = some o → o.cls = .type c
noncomputable def Keep (M : List Addr) (L : Addr) (h h' : Heap) : Prop := ∀ b o, b ∉ M → b ≠ L → h.get? b = some o → h'.get? b = some o

/-- a turn's end -/
noncomputable def TurnH (g : Heap) (L : Addr) (M : List Addr) (J : (Str → Option Value) → Heap → Prop) (h : Heap) (s : Shared) (f : Flow) (s' : Shared) : Prop :=
  (f = .next ∨ f = .cont) ∧ ∃ h' tk' m', s' = { s with heap := h', toks := tk' } ∧ Fr g L h' m' ∧ J m' h' ∧ Keep M L h h'
theorem TurnH.intro {L : Addr} {M : List Addr} {J : (Str → Option Value) → Heap → Prop} {h h' : Heap} {tk' : Nat} {m' : Str → Option Value} (F : Fr g L h' m') (hJ : J m' h') (K : Keep M L h h') : TurnH g L M J h s .next { s with heap := h', toks := tk' } := ⟨.inl rfl, h', tk', m', rfl, F, hJ, K⟩
theorem for_name {x : Str} {px : Pos} {ax : Addr} {items : Array Value} (hh : A.handled = none) (hx : env.kindOf x = some .local) (hp : (env.scope.kind == .class || (env.scope.kind == .module && env.locals != env.globals)) = false) (hE : PassesOwn (MD w) A env E)
    (ht : IsTup g ax items) (F : Fr g env.locals s.heap m) (J : Nat → (Str → Option Value) → Heap → Prop) (hJ0 : J 0 m s.heap) (M : List Addr) (hM : ∀ b ∈ M, b < s.heap.objs.size) (hMg : ∀ b ∈ M, g.get? b = none)
    (stab : ∀ i m₁ m₂ h h' I, J i m₁ h → Fr g env.locals h m₁ → (∀ y, y ≠ x → m₂ y = m₁ y) → OldIter "tuple_iterator" h I → (∀ b o, b ≠ I → b ≠ env.locals → h.get? b = some o → h'.get? b = some o) → J i m₂ h')
    (turn : ∀ i v h tk m₁, items[i]? = some v → J i m₁ h → Fr g env.locals h (fun y => if y = x then some v else m₁ y) → Keep M env.locals s.heap h →
      wpAny (MD w) A (execs body env) (fun f s' => TurnH g env.locals M (J (i + 1)) h s f s') E { s with heap := h, toks := tk })
    (done : ∀ h tk m', Fr g env.locals h m' → J items.size m' h → Keep M env.locals s.heap h → Q .next { s with heap := h, toks := tk }) :
    ForStop w A env (.Name x px) body Q E (.ref ax) s := by
  have hts := F.tup ht
  have hlt : ax < g.objs.size := by obtain ⟨o, ho, _⟩ := ht; exact Heap.lt_size ho
  have hLlt : env.locals < s.heap.objs.size := F.ns.lt
  have hne : ax ≠ s.heap.objs.size := Nat.ne_of_lt (Nat.lt_trans (Nat.lt_of_lt_of_le hlt F.above) hLlt)
  refine wpAny_pyIter_tuple hts ?_
  have W := Walks.tuple (prog := PG) (w := w) hh s.heap.objs.size ax hne items
  have LI : env.locals ≠ s.heap.objs.size := Nat.ne_of_lt hLlt
  have fI : s.heap.get? s.heap.objs.size = none := fresh_none (Nat.le_refl _)
  have bI : g.get? s.heap.objs.size = none := base_none F fI
  have MI : s.heap.objs.size ∉ M := fun q => absurd (hM _ q) (Nat.lt_irrefl _)
  have up : ∀ b o, s.heap.get? b = some o → (s.heap.push { cls := .type "tuple_iterator", data := .fields #[.ref ax, .int 0 0] }).get? b = some o := fun b o e => Heap.get?_push_of_some _ e
  refine codeAny_forLoop_any (fun k s' => ∃ i h tk m₁, s' = { s with heap := h, toks := tk } ∧ i ≤ items.size ∧ k = items.size + 1 - i ∧ h.IsTupleIter s.heap.objs.size ax i ∧ Fr g env.locals h m₁ ∧ J i m₁ h ∧ Keep M env.locals s.heap h) ?_ (items.size + 1)
    (mk4 0 _ s.toks m ⟨rfl, Nat.zero_le _, rfl, ⟨_, Heap.get?_push_size _ rfl, rfl, rfl⟩, F.keeps up, stab 0 m m s.heap _ s.heap.objs.size hJ0 F (fun _ _ => rfl) (fun o e => by rw [fI] at e; cases e) (fun b o _ _ e => up b o e), fun b o _ _ e => up b o e⟩)
  intro k s' hII
  refine ex4 hII ?_
  clear hII
  intro i h tk m₁
  intro hII
  refine an7 hII ?_
  clear hII
  intro eqO1
  subst eqO1
  intro hi eqO2
  subst eqO2
  intro hit F' hJ hK
  have old : OldIter "tuple_iterator" h s.heap.objs.size := fun o e => by
    obtain ⟨o', e', c, _⟩ := hit
    rw [e] at e'; cases e'; exact c
  by_cases hlt' : i < items.size
  · refine W.item i _ _ _ hlt' ⟨hit, F'.tup ht⟩ fun v h₂ tk₂ hv hst₂ hk₂ => ?_
    have k2 : ∀ b o, b ≠ s.heap.objs.size → h.get? b = some o → h₂.get? b = some o := fun b o hb e => hk₂ b o (fun q => hb (List.mem_singleton.mp q)) e
    refine wpAny_of_eq (show letOwnedTupleGo (.Name x px) _ _ = pure () from rfl) ?_
    have F2 : Fr g env.locals h₂ m₁ := fr_butX F' (X := [s.heap.objs.size]) (fun b o hb e => k2 b o (fun q => hb (by simp [q])) e) (by simp [LI]) (fun b hb => by rw [List.mem_singleton.mp hb]; exact bI)
    refine wpAny_assign_Name (wpAny_storeName_local hx F2.ns (fun h₃ hn₃ hs₃ => ?_) hp)
    have k3 : ∀ b o, b ≠ env.locals → h₂.get? b = some o → h₃.get? b = some o := fun b o hb e => hs₃.extBut b o hb e
    have F3 : Fr g env.locals h₃ _ := F2.set hn₃ hs₃
    have hJ3 : J i m₁ h₃ := stab i m₁ m₁ h h₃ s.heap.objs.size hJ F' (fun _ _ => rfl) old (fun b o h1 h2 e => k3 _ _ h2 (k2 _ _ h1 e))
    have hK3 : Keep M env.locals s.heap h₃ := fun b o h1 h2 e => k3 _ _ h2 (k2 _ _ (fun q => by rw [q, fI] at e; cases e) (hK b o h1 h2 e))
    refine wpAny_mono (wpAny_passesOwn hE (turn i v h₃ _ m₁ hv hJ3 F3 hK3)) (fun f s₃ h3 => ?_) fun _ _ e => e
    refine an2 h3 ?_
    clear h3
    intro hf hII
    refine ex3 hII ?_
    clear hII
    intro h₄ tk₄ m₄
    intro hII
    refine an4 hII ?_
    clear hII
    intro eqO1
    subst eqO1
    intro F4 hJ4 hK4
    have res : ∃ m, m < items.size + 1 - i ∧ ∃ i h tk m₁, ({ s with heap := h₄, toks := tk₄ } : Shared) = { s with heap := h, toks := tk } ∧ i ≤ items.size ∧ m = items.size + 1 - i ∧ h.IsTupleIter s.heap.objs.size ax i ∧ Fr g env.locals h m₁ ∧ J i m₁ h ∧ Keep M env.locals s.heap h := by
      refine ⟨items.size + 1 - (i + 1), by omega, mk4 (i + 1) h₄ tk₄ m₄ ⟨rfl, hlt', rfl, ?_, F4, hJ4, fun b o h1 h2 e => hK4 b o h1 h2 (hK3 b o h1 h2 e)⟩⟩
      obtain ⟨oI, eI, cI, dI⟩ := hst₂.1
      exact ⟨oI, hK4 _ _ MI (Ne.symm LI) (k3 _ _ (Ne.symm LI) eI), cI, dI⟩
    rcases hf with rfl | rfl
    · exact res
    · exact res
  · obtain rfl : i = items.size := Nat.le_antisymm hi (Nat.not_lt.mp hlt')
    refine W.done _ _ _ ⟨hit, F'.tup ht⟩ fun h₂ tk₂ hk₂ => wpAny_execs_nil ?_
    have k2 : ∀ b o, b ≠ s.heap.objs.size → h.get? b = some o → h₂.get? b = some o := fun b o hb e => hk₂ b o (fun q => hb (List.mem_singleton.mp q)) e
    have F2 : Fr g env.locals h₂ m₁ := fr_butX F' (X := [s.heap.objs.size]) (fun b o hb e => k2 b o (fun q => hb (by simp [q])) e) (by simp [LI]) (fun b hb => by rw [List.mem_singleton.mp hb]; exact bI)
    exact done h₂ tk₂ m₁ F2 (stab _ m₁ m₁ h h₂ s.heap.objs.size hJ F' (fun _ _ => rfl) old (fun b o h1 _ e => k2 _ _ h1 e)) (fun b o h1 h2 e => k2 _ _ (fun q => by rw [q, fI] at e; cases e) (hK b o h1 h2 e))

theorem for_pair {xi xc : Str} {pk pv pt : Pos} {x1 : Nat} {D2 : Addr} {us : List Value} {n2 : Nat} {ps : List (Str × Int)} (hh : A.handled = none) (hxi : env.kindOf xi = some .local) (hxc : env.kindOf xc = some .local)
    (hp : (env.scope.kind == .class || (env.scope.kind == .module && env.locals != env.globals)) = false) (hE : PassesOwn (MD w) A env E)
    (hl : s.heap.get? D2 = some (listOf us.toArray n2)) (hps : ListAt (PairAt (IsTup s.heap)) us ps) (F : Fr g env.locals s.heap m) (J : Nat → (Str → Option Value) → Heap → Prop) (hJ0 : J 0 m s.heap) (M : List Addr) (hM : ∀ b ∈ M, b < s.heap.objs.size) (hMg : ∀ b ∈ M, g.get? b = none)
    (hMt : ∀ b ∈ M, ∀ o, s.heap.get? b = some o → NoTup o) (hD : D2 ∉ M)
    (stab : ∀ i m₁ m₂ h h' I, J i m₁ h → Fr g env.locals h m₁ → (∀ y, y ≠ xi → y ≠ xc → m₂ y = m₁ y) → OldIter "list_iterator" h I → (∀ b o, b ≠ I → b ≠ env.locals → h.get? b = some o → h'.get? b = some o) → J i m₂ h')
    (turn : ∀ i k j t1 t2 h tk m₁, ps[i]? = some (k, j) → J i m₁ h → Fr g env.locals h (fun y => if y = xc then some (.int j t2) else if y = xi then some (.str k t1) else m₁ y) → Keep M env.locals s.heap h →
      wpAny (MD w) A (execs body env) (fun f s' => TurnH g env.locals M (J (i + 1)) h s f s') E { s with heap := h, toks := tk })
    (done : ∀ h tk m', Fr g env.locals h m' → J ps.length m' h → Keep M env.locals s.heap h → Q .next { s with heap := h, toks := tk }) :
    ForStop w A env (.Tuple [.Name xi pk, .Name xc pv] x1 pt) body Q E (.ref D2) s := by
  have hls : s.heap.IsList D2 us.toArray := ⟨_, hl, rfl, _, rfl⟩
  have hLlt : env.locals < s.heap.objs.size := F.ns.lt
  have hDlt : D2 < s.heap.objs.size := Heap.lt_size hl
  have hne : D2 ≠ s.heap.objs.size := Nat.ne_of_lt hDlt
  have hDL : D2 ≠ env.locals := fun q => by
    refine ex3 F.ns ?_
    intro o es ep
    intro hII
    refine an3 hII ?_
    clear hII
    intro e d _
    rw [← q, hl] at e; cases e; cases d
  have hlen := hps.length
  refine wpAny_pyIter_list hls ?_
  have W := Walks.list (prog := PG) (w := w) hh s.heap.objs.size D2 hne us.toArray
  have LI : env.locals ≠ s.heap.objs.size := Nat.ne_of_lt hLlt
  have fI : s.heap.get? s.heap.objs.size = none := fresh_none (Nat.le_refl _)
  have bI : g.get? s.heap.objs.size = none := base_none F fI
  have MI : s.heap.objs.size ∉ M := fun q => absurd (hM _ q) (Nat.lt_irrefl _)
  have up : ∀ b o, s.heap.get? b = some o → (s.heap.push { cls := .type "list_iterator", data := .fields #[.ref D2, .int 0 0] }).get? b = some o := fun b o e => Heap.get?_push_of_some _ e
  refine codeAny_forLoop_any (fun k s' => ∃ i h tk m₁, s' = { s with heap := h, toks := tk } ∧ i ≤ us.length ∧ k = us.length + 1 - i ∧ h.IsListIter s.heap.objs.size D2 i ∧ Fr g env.locals h m₁ ∧ J i m₁ h ∧ Keep M env.locals s.heap h) ?_ (us.length + 1)
    (mk4 0 _ s.toks m ⟨rfl, Nat.zero_le _, rfl, ⟨_, Heap.get?_push_size _ rfl, rfl, rfl⟩, F.keeps up, stab 0 m m s.heap _ s.heap.objs.size hJ0 F (fun _ _ _ => rfl) (fun o e => by rw [fI] at e; cases e) (fun b o _ _ e => up b o e), fun b o _ _ e => up b o e⟩)
  intro k s' hII
  refine ex4 hII ?_
  clear hII
  intro i h tk m₁
  intro hII
  refine an7 hII ?_
  clear hII
  intro eqO1
  subst eqO1
  intro hi eqO2
  subst eqO2
  intro hit F' hJ hK
  have old : OldIter "list_iterator" h s.heap.objs.size := fun o e => by
    obtain ⟨o', e', c, _⟩ := hit
    rw [e] at e'; cases e'; exact c
  have hlh : h.IsList D2 us.toArray := ⟨_, hK _ _ hD hDL hl, rfl, _, rfl⟩
  by_cases hlt' : i < us.length
  · refine W.item i _ _ _ (by simpa using hlt') ⟨hit, hlh⟩ fun v h₂ tk₂ hv hst₂ hk₂ => ?_
    have k2 : ∀ b o, b ≠ s.heap.objs.size → h.get? b = some o → h₂.get? b = some o := fun b o hb e => hk₂ b o (fun q => hb (List.mem_singleton.mp q)) e
    obtain ⟨⟨k, j⟩, hpi, a, t1, t2, rfl, hta⟩ := hps.get (i := i) (v := v) (by simpa using hv)
    have aM : a ∉ M := fun q => by
      obtain ⟨o, e, c, n, d⟩ := hta
      exact hMt a q o e _ _ d c
    have aL : a ≠ env.locals := F.tup_ne hta
    have aI : a ≠ s.heap.objs.size := fun q => by
      obtain ⟨o, e, _⟩ := hta
      rw [q, fI] at e; cases e
    have ta2 : h₂.IsTuple a #[.str k t1, .int j t2] := by
      obtain ⟨o, e, c, n, d⟩ := hta
      exact ⟨o, k2 _ _ aI (hK _ _ aM aL e), c, n, d⟩
    refine wpAny_letOwnedTupleGo_listiter hst₂.1 ?_
    refine wpAny_assign_Tuple hh ta2 rfl rfl fun h₃ hx₃ => ?_
    replace hx₃ : Heap.ExtBut h₂.objs.size h₂ h₃ := hx₃
    have k3 : ∀ b o, h₂.get? b = some o → h₃.get? b = some o := fun b o e => hx₃ b o (Nat.ne_of_lt (Heap.lt_size e)) e
    have F3 : Fr g env.locals h₃ m₁ := fr_butX F' (X := [s.heap.objs.size]) (fun b o hb e => k3 _ _ (k2 b o (fun q => hb (by simp [q])) e)) (by simp [LI]) (fun b hb => by rw [List.mem_singleton.mp hb]; exact bI)
    show wpAny _ A (do holding [Value.int j t2] (assign (.Name xi pk) env (.str k t1)); do holding [] (assign (.Name xc pv) env (.int j t2)); pure ()) _ _ _
    refine wpAny_bind (wpAny_holding (wpAny_assign_Name (wpAny_storeName_local hxi F3.ns (fun h₄ hn₄ hs₄ => ?_) hp)))
    have F4 : Fr g env.locals h₄ _ := F3.set hn₄ hs₄
    refine wpAny_bind (wpAny_holding (wpAny_assign_Name (wpAny_storeName_local hxc F4.ns (fun h₅ hn₅ hs₅ => wpAny_pure ?_) hp)))
    have F5 : Fr g env.locals h₅ _ := F4.set hn₅ hs₅
    have k5 : ∀ b o, b ≠ env.locals → h₃.get? b = some o → h₅.get? b = some o := fun b o hb e => hs₅.extBut b o hb (hs₄.extBut b o hb e)
    have hJ5 : J i m₁ h₅ := stab i m₁ m₁ h h₅ s.heap.objs.size hJ F' (fun _ _ _ => rfl) old (fun b o h1 h2 e => k5 _ _ h2 (k3 _ _ (k2 _ _ h1 e)))
    have hK5 : Keep M env.locals s.heap h₅ := fun b o h1 h2 e => k5 _ _ h2 (k3 _ _ (k2 _ _ (fun q => by rw [q, fI] at e; cases e) (hK b o h1 h2 e)))
    refine wpAny_mono (wpAny_passesOwn hE (turn i k j t1 t2 h₅ _ m₁ hpi hJ5 F5 hK5)) (fun f s₃ h3 => ?_) fun _ _ e => e
    refine an2 h3 ?_
    clear h3
    intro hf hII
    refine ex3 hII ?_
    clear hII
    intro h₆ tk₆ m₆
    intro hII
    refine an4 hII ?_
    clear hII
    intro eqO1
    subst eqO1
    intro F6 hJ6 hK6
    have res : ∃ m, m < us.length + 1 - i ∧ ∃ i h tk m₁, ({ s with heap := h₆, toks := tk₆ } : Shared) = { s with heap := h, toks := tk } ∧ i ≤ us.length ∧ m = us.length + 1 - i ∧ h.IsListIter s.heap.objs.size D2 i ∧ Fr g env.locals h m₁ ∧ J i m₁ h ∧ Keep M env.locals s.heap h := by
      refine ⟨us.length + 1 - (i + 1), by omega, mk4 (i + 1) h₆ tk₆ m₆ ⟨rfl, hlt', rfl, ?_, F6, hJ6, fun b o h1 h2 e => hK6 b o h1 h2 (hK5 b o h1 h2 e)⟩⟩
      obtain ⟨oI, eI, cI, dI⟩ := hst₂.1
      exact ⟨oI, hK6 _ _ MI (Ne.symm LI) (k5 _ _ (Ne.symm LI) (k3 _ _ eI)), cI, dI⟩
    rcases hf with rfl | rfl
    · exact res
    · exact res
  · obtain rfl : i = us.length := Nat.le_antisymm hi (Nat.not_lt.mp hlt')
    refine W.done _ _ _ (by simpa using And.intro hit hlh) fun h₂ tk₂ hk₂ => wpAny_execs_nil ?_
    have k2 : ∀ b o, b ≠ s.heap.objs.size → h.get? b = some o → h₂.get? b = some o := fun b o hb e => hk₂ b o (fun q => hb (List.mem_singleton.mp q)) e
    have F2 : Fr g env.locals h₂ m₁ := fr_butX F' (X := [s.heap.objs.size]) (fun b o hb e => k2 b o (fun q => hb (by simp [q])) e) (by simp [LI]) (fun b hb => by rw [List.mem_singleton.mp hb]; exact bI)
    rw [hlen] at hJ
    exact done h₂ tk₂ m₁ F2 (stab _ m₁ m₁ h h₂ s.heap.objs.size hJ F' (fun _ _ _ => rfl) old (fun b o h1 _ e => k2 _ _ h1 e)) (fun b o h1 h2 e => k2 _ _ (fun q => by rw [q, fI] at e; cases e) (hK b o h1 h2 e))
end

noncomputable def setB (σ : Str → Option Str) (ks : List Str) : Str → Option Str := fun k => if k ∈ ks then some (Str.ofString "block") else σ k
/-- rows of labels that were met before -/
noncomputable def oDup : List Str → List (Str × Int) → List Row
  | _, [] => []
  | met, (k, i) :: r => (if k ∈ met then [⟨Str.ofString "duplicate_label", i, k⟩] else []) ++ oDup (met ++ [k]) r
theorem oDup_append (met : List Str) (a b : List (Str × Int)) : oDup met (a ++ b) = oDup met a ++ oDup (met ++ a.map (·.1)) b := by
  induction a generalizing met with
  | nil => simp [oDup]
  | cons p r ih =>
    obtain ⟨k, i⟩ := p
    show oDup met ((k, i) :: (r ++ b)) = _
    simp only [oDup, ih, List.append_assoc, List.map_cons, List.singleton_append]
mutual
noncomputable def oBody (σ : Str → Option Str) (wait : Bool) : St → List Row
  | .set _ l r => oTarget σ l ++ oExpr σ r
  | .delay i e s => ((if wait then [] else [⟨Str.ofString "timing_in_function", i, Str.ofString ""⟩]) ++ oExpr σ e) ++ oBody σ wait s
  | .block _ (some _) ss => oDup [] (labsL ss) ++ oBodyL (setB σ ((labsL ss).map (·.1))) wait ss
  | .block _ none ss => oBodyL σ wait ss
noncomputable def oBodyL (σ : Str → Option Str) (wait : Bool) : List St → List Row
  | [] => []
  | s :: ss => oBody σ wait s ++ oBodyL σ wait ss
end
theorem oBodyL_eq (σ : Str → Option Str) (wait : Bool) : ∀ ss, oBodyL σ wait ss = ss.flatMap (oBody σ wait)
  | [] => by simp only [oBodyL, List.flatMap_nil]
  | s :: ss => by simp only [oBodyL, List.flatMap_cons, oBodyL_eq σ wait ss]
theorem valueAt_put {kvs : List (Str × Value)} {k j : Str} {v : Value} : valueAt (stored kvs k v) j = if j = k then some v else valueAt kvs j := by
  unfold stored
  split
  · rename_i hany
    induction kvs with
    | nil => simp at hany
    | cons p r ih =>
      obtain ⟨a, b⟩ := p
      unfold valueAt at ih ⊢
      simp only [List.map_cons, List.find?_cons]
      by_cases q : a = k
      · subst q
        by_cases q2 : j = a
        · subst q2; simp
        · have q3 : ¬ a = j := fun x => q2 x.symm
          simp only [if_true, q3, decide_false, if_neg q2]
          by_cases hr : (r.any fun kv => decide (kv.1 = a)) = true
          · rw [ih hr, if_neg q2]
          · have e : (r.map fun kv => if kv.1 = a then (kv.1, v) else kv) = r := by
              refine (List.map_congr_left fun p hp => ?_).trans (List.map_id r)
              refine if_neg fun hc => hr ?_
              exact List.any_eq_true.mpr ⟨p, hp, decide_eq_true hc⟩
            rw [e]
      · have hr : (r.any fun kv => decide (kv.1 = k)) = true := by simpa [q] using hany
        by_cases q2 : a = j
        · subst q2; simp [q]
        · simp only [if_neg q, q2, decide_false]
          exact ih hr
  · rename_i hany
    unfold valueAt
    rw [List.find?_append]
    by_cases q2 : j = k
    · subst q2
      have hn : (kvs.find? fun kv => decide (kv.1 = j)) = none := by
        rw [List.find?_eq_none]
        intro p hp hc
        exact hany (List.any_eq_true.mpr ⟨p, hp, hc⟩)
      rw [hn]; simp
    · have q3 : ¬ k = j := fun x => q2 x.symm
      cases h : kvs.find? fun kv => decide (kv.1 = j) with
      | some p => simp [q2]
      | none => simp [q2, q3]
theorem SeenAt.put {kvs : List (Str × Value)} {σ : Str → Option Str} (h : SeenAt kvs σ) (k c : Str) (t : Tok) : SeenAt (stored kvs k (.str c t)) (fun j => if j = k then some c else σ j) := fun j => by
  have hj := h j
  dsimp only
  by_cases q : j = k
  · rw [if_pos q]
    exact ⟨t, by rw [valueAt_put, if_pos q]⟩
  · rw [if_neg q, valueAt_put, if_neg q]
    exact hj
theorem SeenAt.congr {kvs : List (Str × Value)} {σ τ : Str → Option Str} (h : SeenAt kvs σ) (e : ∀ k, σ k = τ k) : SeenAt kvs τ := by
  have : σ = τ := funext e
  exact this ▸ h
theorem setB_snoc (σ : Str → Option Str) (ks : List Str) (k : Str) : ∀ j, (if j = k then some (Str.ofString "block") else setB σ ks j) = setB σ (ks ++ [k]) j := fun j => by
  unfold setB
  by_cases q : j = k
  · simp [q]
  · by_cases q2 : j ∈ ks
    · simp [q, q2]
    · simp [q, q2]
theorem setB_nil (σ : Str → Option Str) : ∀ j, σ j = setB σ [] j := fun j => by simp [setB]
theorem GoodS.setB {σ : Str → Option Str} (h : GoodS σ) (ks : List Str) : GoodS (setB σ ks) := fun k c e => by
  unfold Mine.setB at e
  split at e
  · cases e; exact .inr (.inr rfl)
  · exact h k c e

/-- the state while labels are noted: the rows found, the names met, the names seen -/
noncomputable def LabSt (w : World) (Fd Mt S2 : Addr) (σ : Str → Option Str) (kn : Nat) (ps : List (Str × Int)) (h : Heap) : Prop :=
  (∃ us n, h.get? Fd = some (listOf (List.toArray us) n) ∧ RowsIn (IsTup h) us (oDup [] ps)) ∧ (∃ ms n, h.get? Mt = some (listOf (List.toArray ms) n) ∧ StrsAre ms (ps.map (·.1))) ∧
  ∃ o kvs, h.get? S2 = some o ∧ o.IsDictOf (PySem.strKind PG w) kvs ∧ SeenAt kvs (setB σ (ps.map (·.1))) ∧ kvs.length ≤ kn + ps.length

theorem dict_copy {w : World} {A : Around} {E : Value → Shared → Prop} {s : Shared} {h₀ : Heap} {L d : Addr} {m : Str → Option Value} {o : Obj} {kvs : List (Str × Value)} {news : List (Addr × Obj)} {Q : Value → Shared → Prop}
    (F : Fr h₀ L s.heap m) (N : News h₀ L s.heap news) (ho : h₀.get? d = some o) (hd : o.IsDictOf (PySem.strKind PG w) kvs) (lo : (d == sysModules) = false) (hsz : kvs.length ≤ sizeLine)
    (h : ∀ D o' h', Fr h₀ L h' m → News h₀ L h' ((D, o') :: news) → (∀ p ∈ news, p.1 < D) → h₀.objs.size < D → o'.IsDictOf (PySem.strKind PG w) kvs → Q (.ref D) { s with heap := h' }) :
    wpAny (model PG w) A (call (.type "dict") [.ref d]) Q E s := by
  refine kt_call_dict lo (Heap.dictOf_iff.mpr ⟨o, F.keep _ _ ho, hd⟩ : s.heap.DictOf (PySem.strKind PG w) d kvs) hsz fun h' hD hs => ?_
  obtain ⟨o', eo, hd'⟩ := Heap.dictOf_iff.mp hD
  have up : ∀ b o, s.heap.get? b = some o → h'.get? b = some o := fun b o e => hs.extBut b o (Nat.ne_of_lt (Heap.lt_size e)) (Heap.get?_push_of_some _ e)
  refine h _ o' h' (F.keeps up) (fun p hp => ?_) (fun p hp => Heap.lt_size (N p hp).1) (Nat.lt_of_le_of_lt F.above F.ns.lt) hd'
  rcases List.mem_cons.mp hp with rfl | hp
  · exact ⟨eo, Ne.symm (Nat.ne_of_lt F.ns.lt), next_is_new F⟩
  · exact ⟨up _ _ (N p hp).1, (N p hp).2⟩
theorem in_led_strs {w : World} {A : Around} {E : Value → Shared → Prop} {s : Shared} {h₀ : Heap} {L d : Addr} {news : List (Addr × Obj)} {vs : List Value} {n : Nat} {ys : List Str} {k : Str} {t : Tok} {b : Bool} {Q : Value → Shared → Prop} (N : News h₀ L s.heap news) (hp : (d, listOf (List.toArray vs) n) ∈ news) (hi : StrsAre vs ys)
    (hb : ys.any (· == k) = b) (h : Q (.bool b) s) : wpAny (model PG w) A (compareOp .In (.str k t) (.ref d)) Q E s := in_list_strs ⟨_, (N _ hp).1, rfl, _, rfl⟩ hi (by rw [hb]; exact h)
theorem strs_snoc {vs : List Value} {ys : List Str} (h : StrsAre vs ys) (k : Str) (t : Tok) : StrsAre (vs ++ [.str k t]) (ys ++ [k]) := by
  induction h with
  | nil => exact .cons _ _ .nil
  | cons y u _ ih => exact .cons y u ih
theorem strs_len {vs : List Value} {ys : List Str} (h : StrsAre vs ys) : vs.length = ys.length := by
  induction h with
  | nil => rfl
  | cons y u _ ih => simp [ih]
theorem oDup_len (met : List Str) (ps : List (Str × Int)) : (oDup met ps).length ≤ ps.length := by
  induction ps generalizing met with
  | nil => exact Nat.le_refl _
  | cons p r ih =>
    obtain ⟨k, i⟩ := p
    have := ih (met ++ [k])
    simp only [oDup, List.length_append, List.length_cons]
    split
    · simp only [List.length_cons, List.length_nil]; omega
    · simp only [List.length_nil]; omega
theorem LabSt.keep {w : World} {Fd Mt S2 : Addr} {σ : Str → Option Str} {kn : Nat} {ps : List (Str × Int)} {h h' : Heap} {X : List Addr} (x : LabSt w Fd Mt S2 σ kn ps h) (hk : ∀ b o, b ∉ X → h.get? b = some o → h'.get? b = some o) (h1 : Fd ∉ X) (h2 : Mt ∉ X) (h3 : S2 ∉ X) (hX : ∀ b ∈ X, ∀ o, h.get? b = some o → NoTup o) : LabSt w Fd Mt S2 σ kn ps h' := by
  obtain ⟨⟨us, n, e1, r⟩, ⟨ms, n2, e2, r2⟩, o, kvs, e3, r3, r4, r5⟩ := x
  exact ⟨⟨us, n, hk _ _ h1 e1, r.mono (tup_butX hk hX)⟩, ⟨ms, n2, hk _ _ h2 e2, r2⟩, o, kvs, hk _ _ h3 e3, r3, r4, r5⟩
/-- the three cells of the labels' state are no iterator's -/
theorem LabSt.off {w : World} {Fd Mt S2 : Addr} {σ : Str → Option Str} {kn : Nat} {ps : List (Str × Int)} {h : Heap} (x : LabSt w Fd Mt S2 σ kn ps h) {I : Addr} {c : String} (old : OldIter c h I) (c1 : c ≠ "list") (c2 : c ≠ "dict") : Fd ≠ I ∧ Mt ≠ I ∧ S2 ≠ I := by
  obtain ⟨⟨us, n, e1, r⟩, ⟨ms, n2, e2, r2⟩, o, kvs, e3, r3, _⟩ := x
  refine ⟨fun q => ?_, fun q => ?_, fun q => ?_⟩
  · rw [q] at e1
    exact c1 (Value.type.inj (old _ e1)).symm
  · rw [q] at e2
    exact c1 (Value.type.inj (old _ e2)).symm
  · rw [q] at e3
    have := old _ e3
    rw [dict_cls r3] at this
    exact c2 (Value.type.inj this).symm
noncomputable def VarsBut (X : List Str) (m0 m : Str → Option Value) : Prop := ∀ y, y ∉ X → m y = m0 y
noncomputable abbrev labX : List Str := [Str.ofString "inner", Str.ofString "name", Str.ofString "at"]
theorem fr_lab {g : Heap} {L : Addr} {h : Heap} {m0 m : Str → Option Value} (F : Fr g L h m) (V : VarsBut labX m0 m) :
    Fr g L h (fun y => if y = Str.ofString "at" then m (Str.ofString "at") else if y = Str.ofString "name" then m (Str.ofString "name") else if y = Str.ofString "inner" then m (Str.ofString "inner") else m0 y) := by
  have e : (fun y => if y = Str.ofString "at" then m (Str.ofString "at") else if y = Str.ofString "name" then m (Str.ofString "name") else if y = Str.ofString "inner" then m (Str.ofString "inner") else m0 y) = m := by
    funext y
    by_cases q1 : y = Str.ofString "at"
    · rw [if_pos q1, q1]
    · by_cases q2 : y = Str.ofString "name"
      · rw [if_neg q1, if_pos q2, q2]
      · by_cases q3 : y = Str.ofString "inner"
        · rw [if_neg q1, if_neg q2, if_pos q3, q3]
        · rw [if_neg q1, if_neg q2, if_neg q3]
          exact (V y (by simp only [labX, List.mem_cons, List.not_mem_nil, or_false, not_or]; exact ⟨q3, q2, q1⟩)).symm
  rw [e]; exact F
theorem lab_news {w : World} {g h : Heap} {L Fd Mt S2 : Addr} {us ms : List Value} {n n2 : Nat} {o : Obj} (e1 : h.get? Fd = some (listOf (List.toArray us) n)) (e2 : h.get? Mt = some (listOf (List.toArray ms) n2)) (e3 : h.get? S2 = some o) (hM : ∀ b ∈ [Fd, Mt, S2], b ≠ L ∧ g.get? b = none) :
    News g L h ((Fd, listOf (List.toArray us) n) :: (Mt, listOf (List.toArray ms) n2) :: (S2, o) :: snap g L h [Fd, Mt, S2]) := fun p hp => by
  rcases List.mem_cons.mp hp with rfl | hp
  · exact ⟨e1, hM _ (by simp)⟩
  · rcases List.mem_cons.mp hp with rfl | hp
    · exact ⟨e2, hM _ (by simp)⟩
    · rcases List.mem_cons.mp hp with rfl | hp
      · exact ⟨e3, hM _ (by simp)⟩
      · exact news_snap p hp
theorem any_mem {ks : List Str} {k : Str} : ks.any (· == k) = decide (k ∈ ks) := by
  induction ks with
  | nil => rfl
  | cons a r ih =>
    rw [List.any_cons, ih]
    by_cases q : a = k
    · subst q; simp
    · have q2 : ¬ k = a := fun x => q x.symm
      have q3 : (a == k) = false := by simpa using q
      simp [q3, q2]
theorem lo_new {w : World} {g : Heap} {D : Addr} (X : (hd.heap_1 w.params).In g) (h : g.objs.size < D) : (D == sysModules) = false := by
  obtain ⟨o, e⟩ : ∃ o, (hd.heap_1 w.params).lookup 35 = some o := ⟨_, by k_is⟩
  have h1 := Heap.lt_size (X _ _ e)
  have h2 : (35 : Nat) < D := Nat.lt_trans h1 h
  have h3 : ¬ D = sysModules := fun q => by
    rw [q] at h2
    exact absurd h2 (by decide)
  exact beq_eq_false_iff_ne.mpr h3
theorem Given.ofH {g h : Heap} {L : Addr} {m : Str → Option Value} {P : TP → List Value → Prop} {s₀ : Shared} {D : Addr} {us : List Value} {n : Nat} {tk' : Nat} (hmono : ∀ T T' : TP, (∀ a vs, T a vs → T' a vs) → ∀ us, P T us → P T' us) (F : Fr g L h m) (hD : h.get? D = some (listOf (List.toArray us) n)) (hDg : g.get? D = Option.none) (hP : P (IsTup h) us) :
    Given g P s₀ (.ref D) { s₀ with heap := h, toks := tk' } := by
  have hLD : D ≠ L := fun q => by
    refine ex3 F.ns ?_
    intro o es ep
    intro hII
    refine an3 hII ?_
    clear hII
    intro e d _
    rw [← q, hD] at e
    cases e
    cases d
  have N' : News g L h ((D, listOf us.toArray n) :: snap g L h [D]) := fun p hp => by
    rcases List.mem_cons.mp hp with rfl | hp
    · exact ⟨hD, hLD, hDg⟩
    · exact news_snap p hp
  refine ⟨D, L, m, us, n, snap g L h [D], h, tk', rfl, rfl, F, N', hmono _ _ (fun a vs x => lp_snap F x fun q => ?_) _ hP⟩
  obtain ⟨o, e, c, d⟩ := x
  rw [List.mem_singleton.mp q, hD] at e
  cases e
  exact absurd c tl_ne
/-- a sum of lists at which the walk stops -/
noncomputable def AddStop (w : World) (A : Around) (a b : Addr) (Q E : Value → Shared → Prop) (s : Shared) : Prop := wpAny (MD w) A (binaryOp .Add (.ref a) (.ref b)) Q E s
theorem add_stop {w : World} {A : Around} {a b : Addr} {Q E : Value → Shared → Prop} {s : Shared} (h : AddStop w A a b Q E s) : wpAny (MD w) A (binaryOp .Add (.ref a) (.ref b)) Q E s := h
theorem add_rows {w : World} {A : Around} {E : Value → Shared → Prop} {s : Shared} {g : Heap} {L a b : Addr} {m : Str → Option Value} {us vs : List Value} {n1 n2 : Nat} {Q : Value → Shared → Prop} (F : Fr g L s.heap m) (ha : s.heap.get? a = some (listOf (List.toArray us) n1)) (hb : s.heap.get? b = some (listOf (List.toArray vs) n2))
    (hz : us.length + vs.length ≤ LIM) (h : ∀ D h', Fr g L h' m → (∀ b o, b ≠ L → s.heap.get? b = some o → h'.get? b = some o) → h'.get? D = some (listOf (List.toArray (us ++ vs)) 0) → g.get? D = none → s.heap.get? D = none → (∀ a vs, IsTup s.heap a vs → IsTup h' a vs) → Q (.ref D) { s with heap := h' }) : AddStop w A a b Q E s := by
  have h1 : sizeLine = 16777216 := rfl
  have h2 : LIM = 1000000 := rfl
  refine kmk_add_lit (zs := us ++ vs) F (news_snap (ex := [])) ⟨_, ha, rfl, _, rfl⟩ ⟨_, hb, rfl, _, rfl⟩ rfl (fun D h' F' N' l => ?_) (by show us.length + vs.length ≤ sizeLine; omega)
  have kp : ∀ b o, b ≠ L → s.heap.get? b = some o → h'.get? b = some o := fun b o hb e => by
    cases q : g.get? b with
    | some o' =>
      have := F.keep _ _ q
      rw [e] at this; cases this
      exact F'.keep _ _ q
    | none => exact (N' _ (.tail _ (mem_snap e hb (fun x => (List.not_mem_nil x).elim) q))).1
  have oD := N' _ (.head _)
  refine h D h' F' kp oD.1 oD.2.2 ?_ (tup_butX (X := [L]) (fun b o hb e => kp b o (fun q => hb (by simp [q])) e) (fun b hb => by rw [List.mem_singleton.mp hb]; exact notup_ns F.ns))
  cases q : s.heap.get? D with
  | none => rfl
  | some o => exact absurd (l _ (mem_snap q oD.2.1 (fun x => (List.not_mem_nil x).elim) oD.2.2)) (Nat.lt_irrefl _)

theorem words_31 : True := by
  k_with "m:Mine.gfin" => (((try k_unfold); (try dsimp only)))
  exact trivial
section
 local macro_rules | `(tactic| k_all) => `(tactic| with_reducible assumption)
 local macro_rules | `(tactic| walk_at "call ref") => `(tactic| (k_here; refine' call_stop ?_))
 local macro_rules | `(tactic| walk_at "binaryOp Add ref ref") => `(tactic| (k_here; refine' add_stop ?_))
 local macro_rules | `(tactic| walk_at "exec For") => `(tactic| (k_here; k_dflt (refine' for_stop ?_ ?hs; (case hs => (intro _; exact rfl)))))
 local macro_rules | `(tactic| walk_at "call type:dict") => `(tactic| (k_here; k_dflt (refine dict_copy (by k_asm) (by k_asm) (by k_asm) (by k_asm) (by k_asm) (by k_asm) ?_); intro D' o' h' F' N' l1 l3 hD'; (try k_lt l1)))
 local macro_rules | `(tactic| walk_at "compareOp In str ref") => `(tactic| (k_here; (with_reducible rename StrsAre _ _ => hSX); k_dflt (refine' in_led_strs ?N ?hp hSX ?hb ?_; (case N => k_asm); (case hp => k_mem); (case hb => k_asm))))
theorem tupL {g h h' : Heap} {L : Addr} {m : Str → Option Value} (F : Fr g L h m) (k : ∀ b o, b ≠ L → h.get? b = some o → h'.get? b = some o) : ∀ a vs, IsTup h a vs → IsTup h' a vs :=
  tup_butX (X := [L]) (fun b o hb e => k b o (fun q => hb (by simp [q])) e) (fun b hb => by rw [List.mem_singleton.mp hb]; exact notup_ns F.ns)
theorem tupN {h h' : Heap} {L : Addr} (hn : ∀ o, h.get? L = some o → NoTup o) (k : ∀ b o, b ≠ L → h.get? b = some o → h'.get? b = some o) : ∀ a vs, IsTup h a vs → IsTup h' a vs :=
  tup_butX (X := [L]) (fun b o hb e => k b o (fun q => hb (by simp [q])) e) (fun b hb => by rw [List.mem_singleton.mp hb]; exact hn)
theorem keep_by {g h h' : Heap} {L : Addr} {m' : Str → Option Value} {M : List Addr} {I : List (Addr × Obj)} (kb : ∀ b o, g.get? b = some o → h.get? b = some o) (F' : Fr g L h' m') (N : News g L h' I) (hs : ∀ p ∈ snap g L h M, p ∈ I) : Keep M L h h' := fun b o h1 h2 e => by
  cases q : g.get? b with
  | some o' =>
    have := kb _ _ q
    rw [e] at this; cases this
    exact F'.keep _ _ q
  | none => exact (N _ (hs _ (mem_snap e h2 h1 q))).1
theorem neL {g h : Heap} {L D : Addr} {m : Str → Option Value} {us : Array Value} {n : Nat} (F : Fr g L h m) (hD : h.get? D = some (listOf us n)) : D ≠ L := fun q => by
  refine ex3 F.ns ?_
  intro oL es ep
  intro hII
  refine an3 hII ?_
  clear hII
  intro eL dL _
  rw [← q, hD] at eL
  cases eL; cases dL
theorem rows_app {T : TP} : ∀ {us vs : List Value} {rs qs : List Row}, RowsIn T us rs → RowsIn T vs qs → RowsIn T (us ++ vs) (rs ++ qs)
  | [], _, [], _, _, y => y
  | _ :: _, _, _ :: _, _, ⟨a, b⟩, y => ⟨a, rows_app b y⟩
  | [], _, _ :: _, _, x, _ => x.elim
  | _ :: _, _, [], _, x, _ => x.elim
theorem flt_body {σ : Str → Option Str} {wait : Bool} {ss : List St} {i : Nat} {s : St} (h : ss[i]? = some s) : (oBody σ wait s).length ≤ (ss.flatMap (oBody σ wait)).length := by
  induction ss generalizing i with
  | nil => simp at h
  | cons a r ih =>
    rw [List.flatMap_cons, List.length_append]
    cases i with
    | zero => cases h; omega
    | succ i => have := ih (i := i) h; omega
theorem fr_two {g : Heap} {L : Addr} {h : Heap} {m0 m₁ : Str → Option Value} {v : Value} {Fi : Addr} (F : Fr g L h (fun y => if y = Str.ofString "inner" then some v else m₁ y)) (V : VarsBut [Str.ofString "inner", Str.ofString "found"] m0 m₁) (e1 : m₁ (Str.ofString "found") = some (.ref Fi)) :
    Fr g L h (fun y => if y = Str.ofString "inner" then some v else if y = Str.ofString "found" then some (.ref Fi) else m0 y) := by
  have e : (fun y => if y = Str.ofString "inner" then some v else if y = Str.ofString "found" then some (.ref Fi) else m0 y) = fun y => if y = Str.ofString "inner" then some v else m₁ y := by
    funext y
    by_cases q1 : y = Str.ofString "inner"
    · rw [if_pos q1, if_pos q1]
    · rw [if_neg q1, if_neg q1]
      by_cases q2 : y = Str.ofString "found"
      · rw [if_pos q2, q2, e1]
      · rw [if_neg q2]
        exact (V y (by simp only [List.mem_cons, List.not_mem_nil, or_false, not_or]; exact ⟨q1, q2⟩)).symm
  rw [e]; exact F
theorem fr_one {g : Heap} {L : Addr} {h : Heap} {m0 m₁ : Str → Option Value} {Fi : Addr} (F : Fr g L h m₁) (V : VarsBut [Str.ofString "inner", Str.ofString "found"] m0 m₁) (e1 : m₁ (Str.ofString "found") = some (.ref Fi)) :
    Fr g L h (fun y => if y = Str.ofString "inner" then m₁ (Str.ofString "inner") else if y = Str.ofString "found" then some (.ref Fi) else m0 y) := by
  have e : (fun y => if y = Str.ofString "inner" then m₁ (Str.ofString "inner") else if y = Str.ofString "found" then some (.ref Fi) else m0 y) = m₁ := by
    funext y
    by_cases q1 : y = Str.ofString "inner"
    · rw [if_pos q1, q1]
    · rw [if_neg q1]
      by_cases q2 : y = Str.ofString "found"
      · rw [if_pos q2, q2, e1]
      · rw [if_neg q2]
        exact (V y (by simp only [List.mem_cons, List.not_mem_nil, or_false, not_or]; exact ⟨q1, q2⟩)).symm
  rw [e]; exact F
/-- the state while the rows of statements are summed up -/
noncomputable def SumSt (g : Heap) (m0 : Str → Option Value) (rows : List Row) (m : Str → Option Value) (h : Heap) : Prop :=
  VarsBut [Str.ofString "inner", Str.ofString "found"] m0 m ∧ ∃ Fi us n, m (Str.ofString "found") = some (.ref Fi) ∧ h.get? Fi = some (listOf (List.toArray us) n) ∧ RowsIn (IsTup h) us rows ∧ g.get? Fi = none
theorem notup_old {c : String} {h : Heap} {I : Addr} (old : OldIter c h I) (hc : c ≠ "tuple") : ∀ o, h.get? I = some o → NoTup o := fun o e vs n _ q => by
  rw [old o e] at q
  exact hc (Value.type.inj q)
theorem sum_stab {g : Heap} {L I : Addr} {m0 m₁ m₂ : Str → Option Value} {rows : List Row} {h h' : Heap} (x : SumSt g m0 rows m₁ h) (F : Fr g L h m₁) (hm : ∀ y, y ≠ Str.ofString "inner" → m₂ y = m₁ y) (old : OldIter "tuple_iterator" h I) (k : ∀ b o, b ≠ I → b ≠ L → h.get? b = some o → h'.get? b = some o) : SumSt g m0 rows m₂ h' := by
  refine an2 x ?_
  clear x
  intro V hII
  refine ex3 hII ?_
  clear hII
  intro Fi us n
  intro hII
  refine an4 hII ?_
  clear hII
  intro e1 e2 r e3
  have hI : Fi ≠ I := fun q => by
    have := old _ (q ▸ e2)
    exact absurd (Value.type.inj this) (by decide)
  refine ⟨fun y hy => (hm y (fun q => hy (by rw [q]; exact .head _))).trans (V y hy), Fi, us, n, (hm _ (by decide)).trans e1, k _ _ hI (neL F e2) e2, r.mono (tup_butX (X := [I, L]) (fun b o hb e => k b o (fun q => hb (by simp [q])) (fun q => hb (by simp [q])) e) (fun b hb => ?_)), e3⟩
  rcases List.mem_cons.mp hb with q | q
  · rw [q]; exact notup_old old (by decide)
  · rw [List.mem_singleton.mp q]; exact notup_ns F.ns
theorem hk_sub {a x y n : Nat} (h : a + (x + 1) * (n + 1) ≤ LIM) (hy : y ≤ x) : a + x + y * n ≤ LIM := by
  have h1 : y * n ≤ x * n := Nat.mul_le_mul_right n hy
  have h2 : (x + 1) * (n + 1) = x * n + x + (n + 1) := by rw [Nat.add_mul, Nat.one_mul, Nat.mul_add, Nat.mul_one]
  omega
theorem var_lab {m0 m : Str → Option Value} (V : VarsBut labX m0 m) : VarsBut labX m0 (fun y => if y = Str.ofString "at" then m (Str.ofString "at") else if y = Str.ofString "name" then m (Str.ofString "name") else if y = Str.ofString "inner" then m (Str.ofString "inner") else m0 y) := fun y hy => by
  simp only [labX, List.mem_cons, List.not_mem_nil, or_false, not_or] at hy
  first | exact (if_neg hy.1).trans ((if_neg hy.2.1).trans (if_neg hy.2.2)) | exact (if_neg hy.2.2).trans ((if_neg hy.2.1).trans (if_neg hy.1)) | simp +zetaDelta only [if_neg hy.1, if_neg hy.2.1, if_neg hy.2.2]
theorem lab_stab {w : World} {g : Heap} {L I Fd Mt S2 : Addr} {m0 m₁ m₂ : Str → Option Value} {σ : Str → Option Str} {kn : Nat} {ps : List (Str × Int)} {h h' : Heap} {c : String} (x : VarsBut labX m0 m₁ ∧ LabSt w Fd Mt S2 σ kn ps h) (F : Fr g L h m₁) (hm : ∀ y, y ∉ labX → m₂ y = m₁ y) (old : OldIter c h I)
    (c1 : c ≠ "list") (c2 : c ≠ "dict") (c3 : c ≠ "tuple") (hM : ∀ b ∈ [Fd, Mt, S2], b ≠ L ∧ g.get? b = none) (k : ∀ b o, b ≠ I → b ≠ L → h.get? b = some o → h'.get? b = some o) : VarsBut labX m0 m₂ ∧ LabSt w Fd Mt S2 σ kn ps h' := by
  obtain ⟨V, x⟩ := x
  obtain ⟨o1, o2, o3⟩ := x.off old c1 c2
  have n1 := (hM Fd (by simp)).1
  have n2 := (hM Mt (by simp)).1
  have n3 := (hM S2 (by simp)).1
  refine ⟨fun y hy => (hm y hy).trans (V y hy), x.keep (X := [I, L]) (fun b o hb e => k b o (fun q => hb (by simp [q])) (fun q => hb (by simp [q])) e) (by simp [o1, n1]) (by simp [o2, n2]) (by simp [o3, n3]) (fun b hb => ?_)⟩
  rcases List.mem_cons.mp hb with q | q
  · rw [q]; exact notup_old old c3
  · rw [List.mem_singleton.mp q]; exact notup_ns F.ns
theorem lab_lt {w : World} {Fd Mt S2 : Addr} {σ : Str → Option Str} {kn : Nat} {ps : List (Str × Int)} {h : Heap} (x : LabSt w Fd Mt S2 σ kn ps h) : (∀ b ∈ [Fd, Mt, S2], b < h.objs.size) ∧ (∀ b ∈ [Fd, Mt, S2], ∀ o, h.get? b = some o → NoTup o) := by
  obtain ⟨⟨us, n, e1, r⟩, ⟨ms, n2, e2, r2⟩, o, kvs, e3, r3, _⟩ := x
  refine ⟨fun b hb => ?_, fun b hb => ?_⟩
  · simp only [List.mem_cons, List.not_mem_nil, or_false] at hb
    rcases hb with q | q | q
    · rw [q]; exact Heap.lt_size e1
    · rw [q]; exact Heap.lt_size e2
    · rw [q]; exact Heap.lt_size e3
  · simp only [List.mem_cons, List.not_mem_nil, or_false] at hb
    rcases hb with q | q | q
    · rw [q]; exact notup_list e1
    · rw [q]; exact notup_list e2
    · rw [q]
      intro o' e' vs n' _ c
      rw [e3] at e'; cases e'
      exact dict_ne r3 c
theorem labsL_take {ss : List St} {i : Nat} {d : St} (h : ss[i]? = some d) : labsL (ss.take (i + 1)) = labsL (ss.take i) ++ labs d := by
  rw [List.take_add_one, h, labsL_append]
  simp only [Option.toList_some, labsL, List.append_nil]
theorem labsL_take_le (ss : List St) (i : Nat) : (labsL (ss.take i)).length ≤ (labsL ss).length := by
  have e : labsL ss = labsL (ss.take i) ++ labsL (ss.drop i) := by rw [← labsL_append, List.take_append_drop]
  rw [e, List.length_append]; omega
theorem oDup_snoc (ps : List (Str × Int)) (k : Str) (j : Int) : oDup [] (ps ++ [(k, j)]) = oDup [] ps ++ (if k ∈ ps.map (·.1) then [⟨Str.ofString "duplicate_label", j, k⟩] else []) := by
  rw [oDup_append]
  simp only [oDup, List.nil_append, List.append_nil]
theorem lab_step {w : World} {g h h' : Heap} {L Fd Mt S2 : Addr} {m' : Str → Option Value} {us us' ms : List Value} {n1 n2 : Nat} {o' : Obj} {kvs : List (Str × Value)} {σ : Str → Option Str} {kn : Nat} {ps : List (Str × Int)} {k : Str} {j : Int} {u1 tb : Tok} {I : List (Addr × Obj)}
    (kb : ∀ b o, g.get? b = some o → h.get? b = some o) (nL : ∀ o, h.get? L = some o → NoTup o) (hM : ∀ b ∈ [Fd, Mt, S2], ∀ o, h.get? b = some o → NoTup o) (F : Fr g L h' m') (N : News g L h' I) (hs : ∀ p ∈ snap g L h [Fd, Mt, S2], p ∈ I)
    (r : RowsIn (IsTup h) us (oDup [] ps)) (m1 : (Fd, listOf (List.toArray (us ++ us')) n1) ∈ I) (r' : RowsIn (IsTup h') us' (if k ∈ ps.map (·.1) then [⟨Str.ofString "duplicate_label", j, k⟩] else []))
    (m2 : (Mt, listOf (List.toArray (ms ++ [.str k u1])) n2) ∈ I) (r2 : StrsAre ms (ps.map (·.1))) (m3 : (S2, o') ∈ I) (D : o'.IsDictOf (PySem.strKind PG w) (stored kvs k (.str (Str.ofString "block") tb))) (r4 : SeenAt kvs (setB σ (ps.map (·.1)))) (r5 : kvs.length ≤ kn + ps.length) :
    LabSt w Fd Mt S2 σ kn (ps ++ [(k, j)]) h' ∧ Keep [Fd, Mt, S2] L h h' := by
  have K := keep_by kb F N hs
  refine ⟨⟨⟨us ++ us', n1, (N _ m1).1, ?_⟩, ⟨ms ++ [.str k u1], n2, (N _ m2).1, ?_⟩, o', _, (N _ m3).1, D, ?_, ?_⟩, K⟩
  · rw [oDup_snoc]
    exact rows_app (r.mono (tup_butX (X := L :: [Fd, Mt, S2]) (fun b o hb e => K b o (fun q => hb (List.mem_cons_of_mem _ q)) (fun q => hb (by rw [q]; exact .head _)) e) (fun b hb => by
      rcases List.mem_cons.mp hb with q | q
      · rw [q]; exact nL
      · exact hM b q))) r'
  · rw [List.map_append]
    exact strs_snoc r2 k u1
  · rw [List.map_append]
    exact (r4.put k _ tb).congr (setB_snoc σ _ k)
  · have := stored_length_le kvs k (.str (Str.ofString "block") tb)
    rw [List.length_append, List.length_singleton]
    omega
theorem law_body_spec {w : World} : ∀ (n : Nat) (g₀ : Heap) (sv : Value) (sd : Addr) (o : Obj) (kvs : List (Str × Value)) (σ : Str → Option Str) (wait : Bool) (st : St), ht st < n → (oBody σ wait st).length ≤ LIM → StAt (IsTup g₀) sv st → g₀.get? sd = some o → o.IsDictOf (PySem.strKind PG w) kvs → (sd == sysModules) = false →
    SeenAt kvs σ → GoodS σ → kvs.length + sz st * n ≤ LIM → GivesAt w 313 [sv, .ref sd, .bool wait] (40 + 20 * n) (400 + 200 * n) g₀ (fun T us => RowsIn T us (oBody σ wait st)) := by
  intro n
  induction n with
  | zero => intro g₀ sv sd o kvs σ wait st h; exact absurd h (Nat.not_lt_zero _)
  | succ n ih =>
    intro g₀ sv sd o kvs σ wait st hst hr hs hsd hD lo hσ hG hk
    walk_at "Mine.gives"
    case hm => exact rows_mono _
    intro mean mg mb dp un gd outer A₀ base g L h₁ s Qe B F X Tp hd hu N hg
    have hs := hs.mono (tup_keeps hg)
    have hsd := hg _ _ hsd
    have hksz : kvs.length ≤ sizeLine := by
      have h1 : sizeLine = 16777216 := rfl
      have h2 : LIM = 1000000 := rfl
      omega
    clear hg
    dsimp only [fnOf, List.map, List.zip, List.zipWith, List.reverse, List.reverseAux, List.append, HAppend.hAppend, Append.append] at F
    refine fr_let F ?_
    clear F
    intro m0 F
    cases st with
    | set ip l r =>
      unfold StAt at hs
      refine hide_of ?_
      intro Gh
      refine ex5 hs ?_
      clear hs
      intro a t1 t2 lv ev
      intro hII
      refine an4 hII ?_
      clear hII
      intro e hE h1 h2
      k_unfold
      subst e
      unfold oBody at hr ⊢
      rw [List.length_append] at hr
      walk_at "Mine.in"
      unfold CallStop
      refine GivesAt.useH (law_target_rows_spec h1 hsd hD lo hσ hG) (rows_mono _) (by k_asm) (by k_asm) (by k_asm) (by k_asm) rfl (by walk_at "Mine.ar") (by walk_at "Mine.ar") (Fr.keep (by k_asm)) (fun D1 us1 n1 h1' tk1 F1 k1 hD1 hf1 hP1 => ?_)
      walk_at "Mine.in"
      unfold CallStop
      refine GivesAt.useH (law_expr_rows_spec (e := some r) h2 hsd hD lo hσ) (rows_mono _) (by k_asm) (by k_asm) (by k_asm) (by k_asm) rfl (by walk_at "Mine.ar") (by walk_at "Mine.ar") (Fr.keep (by k_asm)) (fun D2 us2 n2 h2' tk2 F2 k2 hD2 hf2 hP2 => ?_)
      walk_at "Mine.in"
      refine add_rows F2 (k2 _ _ (neL F1 hD1) hD1) hD2 (by have e1 := RowsIn.length (rs := oTarget σ l) hP1; have e2 := RowsIn.length (rs := oExpr σ r) hP2; omega) (fun D h'' F'' k3 hD3 hg3 _ T3 => ?_)
      walk_at "Mine.gfin"
      exact Given.ofH (rows_mono _) F'' hD3 hg3 (rows_app ((hP1.mono (tupL F1 k2)).mono T3) (hP2.mono T3))
    | delay ip e st =>
      unfold StAt at hs
      refine hide_of ?_
      intro Gh
      refine ex5 hs ?_
      clear hs
      intro a t1 t2 ev sv
      intro hII
      refine an4 hII ?_
      clear hII
      intro e' hE h1 h2
      k_unfold
      subst e'
      unfold oBody at hr ⊢
      simp only [List.length_append] at hr
      have hC := ih g sv sd o kvs σ wait st (by unfold ht at hst; omega) (by omega) h2 hsd hD lo hσ hG (by unfold sz at hk; have := hk_sub hk (Nat.le_refl _); omega)
      cases wait
      · simp only [Bool.false_eq_true, if_false, if_true] at hr ⊢
        walk_at "Mine.in"
        rename News g L _ _ => N0
        have hF0 := (N0 _ (.head _)).1
        dsimp only at hF0
        have hF0 : _ = some (listOf (List.toArray [Value.ref _]) _) := hF0
        have hR0 : RowsIn (IsTup _) [Value.ref _] [⟨Str.ofString "timing_in_function", ip, Str.ofString ""⟩] := ⟨⟨_, _, _, _, rfl, ⟨_, (N0 _ (.tail _ (.head _))).1, rfl, _, rfl⟩⟩, trivial⟩
        unfold CallStop
        refine GivesAt.useH (law_expr_rows_spec (e := some e) h1 hsd hD lo hσ) (rows_mono _) (by k_asm) (by k_asm) (by k_asm) (by k_asm) rfl (by walk_at "Mine.ar") (by walk_at "Mine.ar") (Fr.keep (by k_asm)) (fun D1 us1 n1 h1' tk1 F1 k1 hD1 hf1 hP1 => ?_)
        have l3 := RowsIn.length (rs := oOpt σ (some e)) hP1
        walk_at "Mine.in"
        refine add_rows F1 (k1 _ _ (neL (by assumption) hF0) hF0) hD1 (by have e9 : oOpt σ (some e) = oExpr σ e := rfl; rw [e9] at l3; simp only [List.length_cons, List.length_nil] at hr ⊢; omega) (fun D2 h2' F2 k2 hD2 hg2 hf2 T2 => ?_)
        walk_at "Mine.in"
        unfold CallStop
        refine GivesAt.useH hC (rows_mono _) (by k_asm) (by k_asm) (by k_asm) (by k_asm) rfl (by walk_at "Mine.ar") (by walk_at "Mine.ar") (Fr.keep (by k_asm)) (fun D3 us3 n3 h3' tk3 F3 k3 hD3 hf3 hP3 => ?_)
        have l4 := RowsIn.length (rs := oBody σ false st) hP3
        walk_at "Mine.in"
        refine add_rows F3 (k3 _ _ (neL F2 hD2) hD2) hD3 (by have e9 : oOpt σ (some e) = oExpr σ e := rfl; rw [e9] at l3; simp only [List.length_append, List.length_cons, List.length_nil] at hr ⊢; omega) (fun D4 h4' F4 k4 hD4 hg4 hf4 T4 => ?_)
        walk_at "Mine.gfin"
        exact Given.ofH (rows_mono _) F4 hD4 hg4 (rows_app ((rows_app ((hR0.mono (tupL (by assumption) k1)).mono T2) (hP1.mono T2)).mono fun a vs x => T4 _ _ (tupL F2 k3 _ _ x)) (hP3.mono T4))
      · simp only [Bool.false_eq_true, if_false, if_true] at hr ⊢
        walk_at "Mine.in"
        rename News g L _ _ => N0
        have hF0 := (N0 _ (.head _)).1
        dsimp only at hF0
        have hF0 : _ = some (listOf (List.toArray []) _) := hF0
        have hR0 := (show ∀ h L I, News g L h I → RowsIn (IsTup h) [] [] from fun _ _ _ _ => trivial) _ _ _ N0
        unfold CallStop
        refine GivesAt.useH (law_expr_rows_spec (e := some e) h1 hsd hD lo hσ) (rows_mono _) (by k_asm) (by k_asm) (by k_asm) (by k_asm) rfl (by walk_at "Mine.ar") (by walk_at "Mine.ar") (Fr.keep (by k_asm)) (fun D1 us1 n1 h1' tk1 F1 k1 hD1 hf1 hP1 => ?_)
        have l3 := RowsIn.length (rs := oOpt σ (some e)) hP1
        walk_at "Mine.in"
        refine add_rows F1 (k1 _ _ (neL (by assumption) hF0) hF0) hD1 (by have e9 : oOpt σ (some e) = oExpr σ e := rfl; rw [e9] at l3; simp only [List.length_cons, List.length_nil] at hr ⊢; omega) (fun D2 h2' F2 k2 hD2 hg2 hf2 T2 => ?_)
        walk_at "Mine.in"
        unfold CallStop
        refine GivesAt.useH hC (rows_mono _) (by k_asm) (by k_asm) (by k_asm) (by k_asm) rfl (by walk_at "Mine.ar") (by walk_at "Mine.ar") (Fr.keep (by k_asm)) (fun D3 us3 n3 h3' tk3 F3 k3 hD3 hf3 hP3 => ?_)
        have l4 := RowsIn.length (rs := oBody σ true st) hP3
        walk_at "Mine.in"
        refine add_rows F3 (k3 _ _ (neL F2 hD2) hD2) hD3 (by have e9 : oOpt σ (some e) = oExpr σ e := rfl; rw [e9] at l3; simp only [List.length_append, List.length_cons, List.length_nil] at hr ⊢; omega) (fun D4 h4' F4 k4 hD4 hg4 hf4 T4 => ?_)
        walk_at "Mine.gfin"
        exact Given.ofH (rows_mono _) F4 hD4 hg4 (rows_app ((rows_app ((hR0.mono (tupL (by assumption) k1)).mono T2) (hP1.mono T2)).mono fun a vs x => T4 _ _ (tupL F2 k3 _ _ x)) (hP3.mono T4))
    | block ip lab ss =>
      unfold StAt at hs
      refine hide_of ?_
      intro Gh
      refine ex7 hs ?_
      clear hs
      intro a t1 t2 lv e0 b items
      intro hII
      refine an6 hII ?_
      clear hII
      intro e hE hl hE0 hB hss
      k_unfold
      subst e
      cases lab with
      | none =>
        have e : lv = .none := hl
        subst e
        unfold oBody at hr ⊢
        rw [oBodyL_eq] at hr ⊢
        walk_at "Mine.in"
        rename News g L _ _ => N0
        rename Fr g L _ _ => F0
        have hF0 := (N0 _ (.head _)).1
        dsimp only at hF0
        have hF0 : _ = some (listOf (List.toArray []) _) := hF0
        refine for_name (J := fun i m h => SumSt g _ (([] : List Row) ++ pre (at_ ss (oBody σ wait)) i) m h) rfl rfl rfl (by passes_own) hB F0 (hJ0 := ⟨fun _ _ => rfl, _, _, _, rfl, hF0, by rw [show ([] : List Row) ++ pre (at_ ss (oBody σ wait)) 0 = ([] : List Row) from List.append_nil _]; exact ⟨trivial, (N0 _ (.head _)).2.2⟩⟩) (M := []) (fun b hb => (List.not_mem_nil hb).elim) (fun b hb => (List.not_mem_nil hb).elim) (fun i m₁ m₂ h h' I x F hm old k => sum_stab x F hm old k) (fun i v h2 tk m₁ hv hJ F' K => ?_) (fun h2 tk m' F' hJ K => ?_)
        · refine hide_of ?_
          intro Gh
          refine an2 hJ ?_
          clear hJ
          intro V hII
          refine ex3 hII ?_
          clear hII
          intro Fi us nn
          intro hII
          refine an4 hII ?_
          clear hII
          intro e1 e2 r e3
          obtain ⟨d, hd', hid⟩ := hss.list.get (i := i) (v := v) (by simpa using hv)
          k_unfold
          have F' : Fr g L h2 _ := fr_two F' V e1
          have hC := ih h2 v sd o kvs σ wait d (Nat.lt_of_le_of_lt (htL_get (Nat.le_refl _) hd') (by unfold ht at hst; omega)) (Nat.le_trans (flt_body hd') (by omega)) (hid.mono (tup_keeps F'.keep)) (F'.keep _ _ hsd) hD lo hσ hG (by unfold sz at hk; have := hk_sub hk (szL_get hd'); omega)
          have hlen := RowsIn.length r
          walk_at "Mine.in"
          unfold CallStop
          refine GivesAt.useH hC (rows_mono _) (by k_asm) (by k_asm) (by k_asm) (by k_asm) rfl (by walk_at "Mine.ar") (by walk_at "Mine.ar") (fun b o e => e) (fun D1 us1 n1 h3 tk3 F3 k3 hD1 hf1 hP1 => ?_)
          have l1 := RowsIn.length (rs := oBody σ wait d) hP1
          have hpre : pre (at_ ss (oBody σ wait)) (i + 1) = pre (at_ ss (oBody σ wait)) i ++ oBody σ wait d := by rw [pre_succ, show at_ ss (oBody σ wait) i = oBody σ wait d from by unfold at_; rw [hd']]
          have hpm := pre_mono (at_ ss (oBody σ wait)) (show i + 1 ≤ ss.length from (List.getElem?_eq_some_iff.mp hd').1)
          rw [pre_at, hpre, List.length_append] at hpm
          walk_at "Mine.in"
          refine add_rows F3 (k3 _ _ (neL F' e2) e2) hD1 (by simp only [List.length_append, List.length_nil] at hlen hr ⊢; omega) (fun D4 h4 F4 k4 hD4 hg4 hf4 T4 => ?_)
          have N4 : News g L h4 (snap g L h4 []) := news_snap
          have kb4 := F4.keep
          have nL4 := notup_ns F4.ns
          have nD4 := neL F4 hD4
          walk_at "Mine.in"
          walk_at "Mine.gfin"
          rename News g L _ (snap g L h4 []) => N5
          rename Fr g L _ _ => F5
          have K5 := keep_by kb4 F5 N5 (fun _ h => h)
          have T5 := tupN nL4 (fun b o hb e => K5 b o (fun x => (List.not_mem_nil x).elim) hb e)
          refine TurnH.intro F5 ⟨fun y hy => ?_, D4, us ++ us1, 0, rfl, K5 _ _ (fun x => (List.not_mem_nil x).elim) nD4 hD4, ?_, hg4⟩ (fun b o h1 h2 e => K5 b o h1 h2 (k4 b o h2 (k3 b o h2 e)))
          · simp only [List.mem_cons, List.not_mem_nil, or_false, not_or] at hy
            first | exact (if_neg hy.1).trans (if_neg hy.2) | exact (if_neg hy.2).trans (if_neg hy.1) | simp +zetaDelta only [if_neg hy.1, if_neg hy.2]
          · rw [hpre, ← List.append_assoc]
            exact rows_app (((r.mono (tupL F' k3)).mono T4).mono T5) ((hP1.mono T4).mono T5)
        · refine hide_of ?_
          intro Gh
          refine an2 hJ ?_
          clear hJ
          intro V hII
          refine ex3 hII ?_
          clear hII
          intro Fi us nn
          intro hII
          refine an4 hII ?_
          clear hII
          intro e1 e2 r e3
          k_unfold
          have F' : Fr g L h2 _ := fr_one F' V e1
          rw [show items.toArray.size = ss.length from by simpa using hss.list.length, pre_at] at r
          walk_at "Mine.in"
          walk_at "Mine.gfin"
          exact Given.ofH (rows_mono _) F' e2 e3 r

      | some l =>
        refine hide_of ?_
        intro Gh
        obtain ⟨t3, e⟩ := hl
        k_unfold
        subst e
        unfold oBody at hr ⊢
        rw [oBodyL_eq] at hr ⊢
        walk_at "Mine.in"
        rename_i Fd _ _ _ S2 oS _ l3 hDS ld1 _ Mt _ ld2 _ F0 N0
        have lo2 := lo_new X l3
        have hM : ∀ b ∈ [Fd, Mt, S2], b ≠ L ∧ g.get? b = none := fun b hb => by
          simp only [List.mem_cons, List.not_mem_nil, or_false] at hb
          rcases hb with q | q | q
          · rw [q]; exact (N0 _ (.tail _ (.tail _ (.head _)))).2
          · rw [q]; exact (N0 _ (.head _)).2
          · rw [q]; exact (N0 _ (.tail _ (.head _))).2
        have LS0 : LabSt w Fd Mt S2 σ kvs.length (labsL (ss.take 0)) _ := ⟨⟨[], 0, (N0 _ (.tail _ (.tail _ (.head _)))).1, trivial⟩, ⟨[], 0, (N0 _ (.head _)).1, .nil⟩, oS, kvs, (N0 _ (.tail _ (.head _))).1, hDS, hσ.congr (setB_nil σ), Nat.le_refl _⟩
        refine for_name (J := fun i m h => VarsBut labX _ m ∧ LabSt w Fd Mt S2 σ kvs.length (labsL (ss.take i)) h) rfl rfl rfl (by passes_own) hB F0 (hJ0 := ⟨fun _ _ => rfl, LS0⟩) (M := [Fd, Mt, S2]) (lab_lt LS0).1 (fun b hb => (hM b hb).2) (fun i m₁ m₂ h h' I x F hm old k => lab_stab x F (fun y hy => hm y (fun q => hy (by rw [q]; exact .head _))) old (by decide) (by decide) (by decide) hM k) (fun i v h2 tk m₁ hv hJ F' K => ?_) (fun h2 tk m' F' hJ K => ?_)
        · refine hide_of ?_
          intro Gh
          obtain ⟨V, LS⟩ := hJ
          obtain ⟨d, hd', hid⟩ := hss.list.get (i := i) (v := v) (by simpa using hv)
          k_unfold
          have V' : VarsBut labX _ (fun y => if y = Str.ofString "inner" then some v else m₁ y) := fun y hy => (if_neg (fun q => hy (by rw [q]; exact .head _))).trans (V y hy)
          have F' : Fr g L h2 _ := fr_lab F' V'
          walk_at "Mine.in"
          unfold CallStop
          refine GivesAt.useH (law_labels_spec n g v d (htL_get (by unfold ht at hst; omega) hd') (by unfold sz at hk; have := hk_sub hk (szL_get hd'); have := szL_get hd'; omega) hid) (pairs_mono _) (by k_asm) (by k_asm) (by k_asm) (by k_asm) rfl (by walk_at "Mine.ar") (by walk_at "Mine.ar") (Fr.keep (by k_asm)) (fun D us nn h3 tk3 F3 k3 hD3 hf3 hP3 => ?_)
          walk_at "Mine.gfin"
          have LS3 : LabSt w Fd Mt S2 σ kvs.length (labsL (ss.take i) ++ (labs d).take 0) h3 := by
            rw [List.take_zero, List.append_nil]
            exact LS.keep (X := [L]) (fun b o hb e => k3 b o (fun q => hb (by simp [q])) e) (by simpa using (hM Fd (by simp)).1) (by simpa using (hM Mt (by simp)).1) (by simpa using (hM S2 (by simp)).1) (fun b hb => by rw [List.mem_singleton.mp hb]; exact notup_ns F'.ns)
          have hDM : D ∉ [Fd, Mt, S2] := fun q => by
            refine hide_of ?_
            intro Gh
            obtain ⟨⟨us, n1, e1, r1⟩, ⟨ms, n2, e2, r2⟩, oD, kvD, e3, _⟩ := LS
            k_unfold
            simp only [List.mem_cons, List.not_mem_nil, or_false] at q
            rcases q with q | q | q
            · rw [q, e1] at hf3; cases hf3
            · rw [q, e2] at hf3; cases hf3
            · rw [q, e3] at hf3; cases hf3
          refine for_pair (J := fun j m h => VarsBut labX _ m ∧ LabSt w Fd Mt S2 σ kvs.length (labsL (ss.take i) ++ (labs d).take j) h) rfl rfl rfl rfl (by passes_own) hD3 hP3 F3 (hJ0 := ⟨var_lab V', LS3⟩) (M := [Fd, Mt, S2]) (lab_lt LS3).1 (fun b hb => (hM b hb).2) (lab_lt LS3).2 hDM
            (fun i m₁ m₂ h h' I x F hm old k => lab_stab x F (fun y hy => hm y (fun q => hy (by rw [q]; exact .tail _ (.head _))) (fun q => hy (by rw [q]; exact .tail _ (.tail _ (.head _))))) old (by decide) (by decide) (by decide) hM k) (fun j k jj u1 u2 h4 tk4 m₂ hpj hJ4 F4 K4 => ?_) (fun h5 tk5 m5 F5 hJ5 K5 => ?_)
          · refine hide_of ?_
            intro Gh
            obtain ⟨V4, ⟨us, n1, e1, r1⟩, ⟨ms, n2, e2, r2⟩, oD, kvD, e3, r3, r4, r5⟩ := hJ4
            k_unfold
            have V5 : VarsBut labX _ (fun y => if y = Str.ofString "at" then some (Value.int jj u2) else if y = Str.ofString "name" then some (Value.str k u1) else m₂ y) := fun y hy => (if_neg (fun q => hy (by rw [q]; exact .tail _ (.tail _ (.head _))))).trans ((if_neg (fun q => hy (by rw [q]; exact .tail _ (.head _)))).trans (V4 y hy))
            have kb4 := F4.keep
            have nL4 := notup_ns F4.ns
            have F4 : Fr g L h4 _ := fr_lab F4 V5
            have N4 := lab_news (w := w) e1 e2 e3 hM
            have l1 := RowsIn.length r1
            have l2 := strs_len r2
            have l3 := oDup_len [] (labsL (ss.take i) ++ (labs d).take j)
            have hpl : (labsL (ss.take i) ++ (labs d).take j).length ≤ LIM := by
              have h8 := congrArg List.length (labsL_take hd')
              have h9 := labsL_take_le ss (i + 1)
              have h10 := labsL_sz ss
              rw [List.length_append] at h8 ⊢
              rw [List.length_take]
              unfold sz at hk
              have := hk_sub hk (szL_get hd')
              omega
            have hkd : kvD.length ≤ sizeLine := by
              have h8 : sizeLine = 16777216 := rfl
              have h9 : LIM = 1000000 := rfl
              omega
            have hz1 : us.toArray.size ≤ sizeLine := by
              have h8 : sizeLine = 16777216 := rfl
              have h9 : LIM = 1000000 := rfl
              rw [List.size_toArray]; omega
            have hz2 : ms.toArray.size ≤ sizeLine := by
              have h8 : sizeLine = 16777216 := rfl
              have h9 : LIM = 1000000 := rfl
              rw [List.size_toArray, l2, List.length_map]; omega
            have hps : labsL (ss.take i) ++ (labs d).take (j + 1) = (labsL (ss.take i) ++ (labs d).take j) ++ [(k, jj)] := by rw [List.take_add_one, hpj, Option.toList_some, List.append_assoc]
            have hMt4 := (lab_lt ⟨⟨us, n1, e1, r1⟩, ⟨ms, n2, e2, r2⟩, oD, kvD, e3, r3, r4, r5⟩).2
            have hs1 : ∀ p ∈ snap g L h4 [Fd, Mt, S2], p.1 ≠ Fd := fun p hp q => (of_snap hp).2.2.1 (by simp [q])
            have hs2 : ∀ p ∈ snap g L h4 [Fd, Mt, S2], p.1 ≠ Mt := fun p hp q => (of_snap hp).2.2.1 (by simp [q])
            have hs3 : ∀ p ∈ snap g L h4 [Fd, Mt, S2], p.1 ≠ S2 := fun p hp q => (of_snap hp).2.2.1 (by simp [q])
            generalize hpe : labsL (ss.take i) ++ (labs d).take j = ps at *
            by_cases hkm : k ∈ ps.map (·.1)
            · have hb : (ps.map (·.1)).any (· == k) = true := by rw [any_mem]; exact decide_eq_true hkm
              walk_at "Mine.in"
              walk_at "Mine.gfin"
              rename News g L _ _ => N5
              rename Fr g L _ _ => F5
              rename Obj.IsDictOf (PySem.strKind PG w) _ (stored _ _ _) => D5
              rename StrsAre _ _ => r2
              rw [hps]
              refine hide_of ?_
              intro Gh
              obtain ⟨LS5, K5⟩ := lab_step (us' := [.ref _]) (j := jj) kb4 nL4 hMt4 F5 N5 (fun p hp => .tail _ (.tail _ (.tail _ (.tail _ hp)))) r1 (by rw [← List.push_toArray]; k_mem) (by rw [if_pos hkm]; exact ⟨⟨_, _, _, _, rfl, ⟨_, (N5 _ (by k_mem)).1, rfl, _, rfl⟩⟩, trivial⟩) (by rw [← List.push_toArray]; k_mem) r2 (by k_mem) D5 r4 r5
              k_unfold
              exact TurnH.intro F5 ⟨var_lab V5, LS5⟩ K5
            · have hb : (ps.map (·.1)).any (· == k) = false := by rw [any_mem]; exact decide_eq_false hkm
              walk_at "Mine.in"
              walk_at "Mine.gfin"
              rename News g L _ _ => N5
              rename Fr g L _ _ => F5
              rename Obj.IsDictOf (PySem.strKind PG w) _ (stored _ _ _) => D5
              rename StrsAre _ _ => r2
              rw [hps]
              refine hide_of ?_
              intro Gh
              obtain ⟨LS5, K5⟩ := lab_step (us' := []) (j := jj) kb4 nL4 hMt4 F5 N5 (fun p hp => .tail _ (.tail _ (.tail _ hp))) r1 (by rw [List.append_nil]; k_mem) (by rw [if_neg hkm]; exact trivial) (by rw [← List.push_toArray]; k_mem) r2 (by k_mem) D5 r4 r5
              k_unfold
              exact TurnH.intro F5 ⟨var_lab V5, LS5⟩ K5
          · refine hide_of ?_
            intro Gh
            obtain ⟨V5, LS5⟩ := hJ5
            k_unfold
            rw [List.take_length, ← labsL_take hd'] at LS5
            walk_at "Mine.in"
            walk_at "Mine.gfin"
            exact TurnH.intro F5 ⟨V5, LS5⟩ (fun b o h1 h2 e => K5 b o h1 h2 (k3 b o h2 e))
        · refine hide_of ?_
          intro Gh
          obtain ⟨V, ⟨us1, n1, e1, r1⟩, ⟨ms, n2, e2, r2⟩, oD, kvD, e3, r3, r4, r5⟩ := hJ
          k_unfold
          have F2 : Fr g L h2 _ := fr_lab F' V
          rw [show items.toArray.size = ss.length from by simpa using hss.list.length, List.take_length] at r1 r4 r5
          rw [List.length_append] at hr
          walk_at "Mine.in"
          refine for_name (J := fun i m h => SumSt g _ ((oDup [] (labsL ss)) ++ pre (at_ ss (oBody (setB σ ((labsL ss).map (·.1))) wait)) i) m h) rfl rfl rfl (by passes_own) hB F2 (hJ0 := ⟨fun _ _ => rfl, _, _, _, rfl, e1, by rw [show (oDup [] (labsL ss)) ++ pre (at_ ss (oBody (setB σ ((labsL ss).map (·.1))) wait)) 0 = (oDup [] (labsL ss)) from List.append_nil _]; exact ⟨r1, (hM Fd (by simp)).2⟩⟩) (M := []) (fun b hb => (List.not_mem_nil hb).elim) (fun b hb => (List.not_mem_nil hb).elim) (fun i m₁ m₂ h h' I x F hm old k => sum_stab x F hm old k) (fun i v h2 tk m₁ hv hJ F' K => ?_) (fun h2 tk m' F' hJ K => ?_)
          · refine hide_of ?_
            intro Gh
            refine an2 hJ ?_
            clear hJ
            intro V hII
            refine ex3 hII ?_
            clear hII
            intro Fi us nn
            intro hII
            refine an4 hII ?_
            clear hII
            intro e1' e2 r e3'
            obtain ⟨d, hd', hid⟩ := hss.list.get (i := i) (v := v) (by simpa using hv)
            k_unfold
            have F' : Fr g L h2 _ := fr_two F' V e1'
            have hC := ih h2 v S2 oD kvD (setB σ ((labsL ss).map (·.1))) wait d (Nat.lt_of_le_of_lt (htL_get (Nat.le_refl _) hd') (by unfold ht at hst; omega)) (Nat.le_trans (flt_body hd') (by omega)) (hid.mono (tup_keeps F'.keep)) (K _ _ (fun x => (List.not_mem_nil x).elim) (hM S2 (by simp)).1 e3) r3 lo2 r4 (hG.setB _) (by unfold sz at hk; have := hk_sub hk (szL_get hd'); have := labsL_sz ss; omega)
            have hlen := RowsIn.length r
            walk_at "Mine.in"
            unfold CallStop
            refine GivesAt.useH hC (rows_mono _) (by k_asm) (by k_asm) (by k_asm) (by k_asm) rfl (by walk_at "Mine.ar") (by walk_at "Mine.ar") (fun b o e => e) (fun D1 us1 n1 h3 tk3 F3 k3 hD1 hf1 hP1 => ?_)
            have l1 := RowsIn.length (rs := oBody (setB σ ((labsL ss).map (·.1))) wait d) hP1
            have hpre : pre (at_ ss (oBody (setB σ ((labsL ss).map (·.1))) wait)) (i + 1) = pre (at_ ss (oBody (setB σ ((labsL ss).map (·.1))) wait)) i ++ oBody (setB σ ((labsL ss).map (·.1))) wait d := by rw [pre_succ, show at_ ss (oBody (setB σ ((labsL ss).map (·.1))) wait) i = oBody (setB σ ((labsL ss).map (·.1))) wait d from by unfold at_; rw [hd']]
            have hpm := pre_mono (at_ ss (oBody (setB σ ((labsL ss).map (·.1))) wait)) (show i + 1 ≤ ss.length from (List.getElem?_eq_some_iff.mp hd').1)
            rw [pre_at, hpre, List.length_append] at hpm
            walk_at "Mine.in"
            refine add_rows F3 (k3 _ _ (neL F' e2) e2) hD1 (by simp only [List.length_append] at hlen hr ⊢; omega) (fun D4 h4 F4 k4 hD4 hg4 hf4 T4 => ?_)
            have N4 : News g L h4 (snap g L h4 []) := news_snap
            have kb4 := F4.keep
            have nL4 := notup_ns F4.ns
            have nD4 := neL F4 hD4
            walk_at "Mine.in"
            walk_at "Mine.gfin"
            rename News g L _ (snap g L h4 []) => N5
            rename Fr g L _ _ => F5
            have K5 := keep_by kb4 F5 N5 (fun _ h => h)
            have T5 := tupN nL4 (fun b o hb e => K5 b o (fun x => (List.not_mem_nil x).elim) hb e)
            refine TurnH.intro F5 ⟨fun y hy => ?_, D4, us ++ us1, 0, rfl, K5 _ _ (fun x => (List.not_mem_nil x).elim) nD4 hD4, ?_, hg4⟩ (fun b o h1 h2 e => K5 b o h1 h2 (k4 b o h2 (k3 b o h2 e)))
            · simp only [List.mem_cons, List.not_mem_nil, or_false, not_or] at hy
              first | exact (if_neg hy.1).trans (if_neg hy.2) | exact (if_neg hy.2).trans (if_neg hy.1) | simp +zetaDelta only [if_neg hy.1, if_neg hy.2]
            · rw [hpre, ← List.append_assoc]
              exact rows_app (((r.mono (tupL F' k3)).mono T4).mono T5) ((hP1.mono T4).mono T5)
          · refine hide_of ?_
            intro Gh
            refine an2 hJ ?_
            clear hJ
            intro V hII
            refine ex3 hII ?_
            clear hII
            intro Fi us nn
            intro hII
            refine an4 hII ?_
            clear hII
            intro e1' e2 r e3'
            k_unfold
            have F' : Fr g L h2 _ := fr_one F' V e1'
            rw [show items.toArray.size = ss.length from by simpa using hss.list.length, pre_at] at r
            walk_at "Mine.in"
            walk_at "Mine.gfin"
            exact Given.ofH (rows_mono _) F' e2 e3' r
end

theorem str_shape {w : World} {k : Str} {v : Value} (h : (PySem.strKind PG w).is k v = true) : ∃ t, v = .str k t := by
  cases v with
  | str x t =>
    have : x = k := by simpa [PySem.strKind, Value.isStrOf] using h
    exact ⟨t, by rw [this]⟩
  | _ => simp [PySem.strKind, Value.isStrOf] at h
section
variable {w : World} {A : Around} {E : Value → Shared → Prop} {s : Shared} {env : Env} {g : Heap} {m : Str → Option Value} {body : List Stmt}
theorem list_of_dict {L d : Addr} {o : Obj} {kvs : List (Str × Value)} {Q : Value → Shared → Prop} (hh : A.handled = none) (F : Fr g L s.heap m) (ho : s.heap.get? d = some o) (hd : o.IsDictOf (PySem.strKind PG w) kvs) (lo : (d == sysModules) = false) (hsz : kvs.length ≤ LIM)
    (h : ∀ D n h' tk vs, Fr g L h' m → (∀ b o, b ≠ L → s.heap.get? b = some o → h'.get? b = some o) → h'.get? D = some (listOf (List.toArray vs) n) → g.get? D = none → s.heap.get? D = none → StrsAre vs (kvs.map (·.1)) → Q (.ref D) { s with heap := h', toks := tk }) :
    wpAny (model PG w) A (call (.type "list") [.ref d]) Q E s := by
  obtain ⟨ep, hat⟩ := (Heap.dictOf_iff.mpr ⟨o, ho, hd⟩ : s.heap.DictOf (PySem.strKind PG w) d kvs).dictAt
  have h1 : sizeLine = 16777216 := rfl
  have h2 : LIM = 1000000 := rfl
  refine kdl_N (kdl_dict (knd := PySem.strKind PG w) (kvs := kvs) (ep := ep) lo) hh F (news_snap (ex := [])) hat (by omega) fun D n h' tk vs F' N' l1 hl hv => ?_
  have kp : ∀ b o, b ≠ L → s.heap.get? b = some o → h'.get? b = some o := fun b o hb e => by
    cases q : g.get? b with
    | some o' =>
      have := F.keep _ _ q
      rw [e] at this; cases this
      exact F'.keep _ _ q
    | none => exact (N' _ (.tail _ (mem_snap e hb (fun x => (List.not_mem_nil x).elim) q))).1
  have oD := N' _ (.head _)
  refine h D n h' tk vs F' kp oD.1 oD.2.2 ?_ ?_
  · cases q : s.heap.get? D with
    | none => rfl
    | some o => exact absurd (l1 _ (mem_snap q oD.2.1 (fun x => (List.not_mem_nil x).elim) oD.2.2)) (Nat.lt_irrefl _)
  · have gen : ∀ (ks : List (Str × Value)) (us : List Value), us.length = ks.length → (∀ (j : Nat) (v : Value), us[j]? = some v → ∃ k x, ks[j]? = some (k, x) ∧ (PySem.strKind PG w).is k v = true) → StrsAre us (ks.map (·.1)) := by
      intro ks
      induction ks with
      | nil => intro us hl _; cases us with
        | nil => exact .nil
        | cons a r => simp at hl
      | cons p r ih =>
        intro us hl hv
        cases us with
        | nil => simp at hl
        | cons a us =>
          obtain ⟨k, x, e, hk⟩ := hv 0 a rfl
          cases e
          obtain ⟨t, rfl⟩ := str_shape hk
          exact .cons _ _ (ih us (by simpa using hl) fun j v e => hv (j + 1) v e)
    exact gen kvs vs hl hv

theorem for_dict {x : Str} {px : Pos} {d : Addr} {o : Obj} {kvs : List (Str × Value)} {Q : Flow → Shared → Prop} (hh : A.handled = none) (hx : env.kindOf x = some .local) (hp : (env.scope.kind == .class || (env.scope.kind == .module && env.locals != env.globals)) = false) (hE : PassesOwn (MD w) A env E)
    (ho : s.heap.get? d = some o) (hd : o.IsDictOf (PySem.strKind PG w) kvs) (lo : (d == sysModules) = false) (F : Fr g env.locals s.heap m) (J : Nat → (Str → Option Value) → Heap → Prop) (hJ0 : J 0 m s.heap) (M : List Addr) (hM : ∀ b ∈ M, b < s.heap.objs.size) (hdM : d ∉ M) (hdL : d ≠ env.locals)
    (stab : ∀ i m₁ m₂ h h' I, J i m₁ h → Fr g env.locals h m₁ → (∀ y, y ≠ x → m₂ y = m₁ y) → OldIter "dict_keyiterator" h I → (∀ b o, b ≠ I → b ≠ env.locals → h.get? b = some o → h'.get? b = some o) → J i m₂ h')
    (turn : ∀ i k t h tk m₁, (kvs.map (·.1))[i]? = some k → J i m₁ h → Fr g env.locals h (fun y => if y = x then some (.str k t) else m₁ y) → Keep M env.locals s.heap h →
      wpAny (MD w) A (execs body env) (fun f s' => TurnH g env.locals M (J (i + 1)) h s f s') E { s with heap := h, toks := tk })
    (done : ∀ h tk m', Fr g env.locals h m' → J kvs.length m' h → Keep M env.locals s.heap h → Q .next { s with heap := h, toks := tk }) :
    ForStop w A env (.Name x px) body Q E (.ref d) s := by
  obtain ⟨ep, hat⟩ := (Heap.dictOf_iff.mpr ⟨o, ho, hd⟩ : s.heap.DictOf (PySem.strKind PG w) d kvs).dictAt
  have hLlt : env.locals < s.heap.objs.size := F.ns.lt
  have hdlt : d < s.heap.objs.size := Heap.lt_size ho
  have hne : d ≠ s.heap.objs.size := Nat.ne_of_lt hdlt
  refine wpAny_pyIter_dict lo hat ?_
  have W := Walks.dictKeys (prog := PG) (w := w) (knd := PySem.strKind PG w) hh s.heap.objs.size d hne kvs ep
  have LI : env.locals ≠ s.heap.objs.size := Nat.ne_of_lt hLlt
  have fI : s.heap.get? s.heap.objs.size = none := fresh_none (Nat.le_refl _)
  have bI : g.get? s.heap.objs.size = none := base_none F fI
  have MI : s.heap.objs.size ∉ M := fun q => absurd (hM _ q) (Nat.lt_irrefl _)
  have up : ∀ b o, s.heap.get? b = some o → (s.heap.push { cls := .type "dict_keyiterator", data := .fields #[.ref d, .int 0 0, .int kvs.length 0, .int ep 0] }).get? b = some o := fun b o e => Heap.get?_push_of_some _ e
  have dat : ∀ h, Keep M env.locals s.heap h → h.DictAt (PySem.strKind PG w) d kvs ep := fun h K => by
    obtain ⟨o', es, e, r⟩ := hat
    exact ⟨o', es, K _ _ hdM hdL e, r⟩
  refine codeAny_forLoop_any (fun k s' => ∃ i h tk m₁, s' = { s with heap := h, toks := tk } ∧ i ≤ kvs.length ∧ k = kvs.length + 1 - i ∧ h.IsKeyIter s.heap.objs.size d i kvs.length ep ∧ Fr g env.locals h m₁ ∧ J i m₁ h ∧ Keep M env.locals s.heap h) ?_ (kvs.length + 1)
    (mk4 0 _ s.toks m ⟨rfl, Nat.zero_le _, rfl, ⟨_, Heap.get?_push_size _ rfl, rfl, rfl⟩, F.keeps up, stab 0 m m s.heap _ s.heap.objs.size hJ0 F (fun _ _ => rfl) (fun o e => by rw [fI] at e; cases e) (fun b o _ _ e => up b o e), fun b o _ _ e => up b o e⟩)
  intro k s' hII
  refine ex4 hII ?_
  clear hII
  intro i h tk m₁
  intro hII
  refine an7 hII ?_
  clear hII
  intro eqO1
  subst eqO1
  intro hi eqO2
  subst eqO2
  intro hit F' hJ hK
  have old : OldIter "dict_keyiterator" h s.heap.objs.size := fun o e => by
    obtain ⟨o', e', c, _⟩ := hit
    rw [e] at e'; cases e'; exact c
  by_cases hlt' : i < kvs.length
  · refine W.item i _ _ _ hlt' ⟨hit, dat h hK⟩ fun v h₂ tk₂ hv hst₂ hk₂ => ?_
    have k2 : ∀ b o, b ≠ s.heap.objs.size → h.get? b = some o → h₂.get? b = some o := fun b o hb e => hk₂ b o (fun q => hb (List.mem_singleton.mp q)) e
    obtain ⟨kk, xx, hkv, his⟩ := hv
    obtain ⟨t, rfl⟩ := str_shape his
    refine wpAny_of_eq (show letOwnedTupleGo (.Name x px) _ _ = pure () from rfl) ?_
    have F2 : Fr g env.locals h₂ m₁ := fr_butX F' (X := [s.heap.objs.size]) (fun b o hb e => k2 b o (fun q => hb (by simp [q])) e) (by simp [LI]) (fun b hb => by rw [List.mem_singleton.mp hb]; exact bI)
    refine wpAny_assign_Name (wpAny_storeName_local hx F2.ns (fun h₃ hn₃ hs₃ => ?_) hp)
    have k3 : ∀ b o, b ≠ env.locals → h₂.get? b = some o → h₃.get? b = some o := fun b o hb e => hs₃.extBut b o hb e
    have F3 : Fr g env.locals h₃ _ := F2.set hn₃ hs₃
    have hJ3 : J i m₁ h₃ := stab i m₁ m₁ h h₃ s.heap.objs.size hJ F' (fun _ _ => rfl) old (fun b o h1 h2 e => k3 _ _ h2 (k2 _ _ h1 e))
    have hK3 : Keep M env.locals s.heap h₃ := fun b o h1 h2 e => k3 _ _ h2 (k2 _ _ (fun q => by rw [q, fI] at e; cases e) (hK b o h1 h2 e))
    refine wpAny_mono (wpAny_passesOwn hE (turn i kk t h₃ _ m₁ (by rw [List.getElem?_map, hkv]; rfl) hJ3 F3 hK3)) (fun f s₃ h3 => ?_) fun _ _ e => e
    refine an2 h3 ?_
    clear h3
    intro hf hII
    refine ex3 hII ?_
    clear hII
    intro h₄ tk₄ m₄
    intro hII
    refine an4 hII ?_
    clear hII
    intro eqO1
    subst eqO1
    intro F4 hJ4 hK4
    have res : ∃ m, m < kvs.length + 1 - i ∧ ∃ i h tk m₁, ({ s with heap := h₄, toks := tk₄ } : Shared) = { s with heap := h, toks := tk } ∧ i ≤ kvs.length ∧ m = kvs.length + 1 - i ∧ h.IsKeyIter s.heap.objs.size d i kvs.length ep ∧ Fr g env.locals h m₁ ∧ J i m₁ h ∧ Keep M env.locals s.heap h := by
      refine ⟨kvs.length + 1 - (i + 1), by omega, mk4 (i + 1) h₄ tk₄ m₄ ⟨rfl, hlt', rfl, ?_, F4, hJ4, fun b o h1 h2 e => hK4 b o h1 h2 (hK3 b o h1 h2 e)⟩⟩
      obtain ⟨oI, eI, cI, dI⟩ := hst₂.1
      exact ⟨oI, hK4 _ _ MI (Ne.symm LI) (k3 _ _ (Ne.symm LI) eI), cI, dI⟩
    rcases hf with rfl | rfl
    · exact res
    · exact res
  · obtain rfl : i = kvs.length := Nat.le_antisymm hi (Nat.not_lt.mp hlt')
    refine W.done _ _ _ ⟨hit, dat h hK⟩ fun h₂ tk₂ hk₂ => wpAny_execs_nil ?_
    have k2 : ∀ b o, b ≠ s.heap.objs.size → h.get? b = some o → h₂.get? b = some o := fun b o hb e => hk₂ b o (fun q => hb (List.mem_singleton.mp q)) e
    have F2 : Fr g env.locals h₂ m₁ := fr_butX F' (X := [s.heap.objs.size]) (fun b o hb e => k2 b o (fun q => hb (by simp [q])) e) (by simp [LI]) (fun b hb => by rw [List.mem_singleton.mp hb]; exact bI)
    exact done h₂ tk₂ m₁ F2 (stab _ m₁ m₁ h h₂ s.heap.objs.size hJ F' (fun _ _ => rfl) old (fun b o h1 _ e => k2 _ _ h1 e)) (fun b o h1 h2 e => k2 _ _ (fun q => by rw [q, fI] at e; cases e) (hK b o h1 h2 e))
end

theorem look_put_eq {es : Sc} {k j : Str} {e : Ent} : look (put es k e) j = if j = k then some e else look es j := by
  unfold put
  split
  · rename_i hany
    induction es with
    | nil => simp at hany
    | cons p r ih =>
      obtain ⟨a, b⟩ := p
      unfold look at ih ⊢
      simp only [List.map_cons, List.find?_cons]
      by_cases q : a = k
      · subst q
        by_cases q2 : j = a
        · subst q2; simp
        · have q3 : ¬ a = j := fun x => q2 x.symm
          simp only [if_true, q3, decide_false, if_neg q2]
          by_cases hr : (r.any fun p => decide (p.1 = a)) = true
          · rw [ih hr, if_neg q2]
          · have e : (r.map fun p => if p.1 = a then (p.1, e) else p) = r := by
              refine (List.map_congr_left fun p hp => ?_).trans (List.map_id r)
              refine if_neg fun hc => hr ?_
              exact List.any_eq_true.mpr ⟨p, hp, decide_eq_true hc⟩
            rw [e]
      · have hr : (r.any fun p => decide (p.1 = k)) = true := by simpa [q] using hany
        by_cases q2 : a = j
        · subst q2; simp [q]
        · simp only [if_neg q, q2, decide_false]
          exact ih hr
  · rename_i hany
    unfold look
    rw [List.find?_append]
    by_cases q2 : j = k
    · subst q2
      have hn : (es.find? fun p => decide (p.1 = j)) = none := by
        rw [List.find?_eq_none]
        intro p hp hc
        exact hany (List.any_eq_true.mpr ⟨p, hp, hc⟩)
      rw [hn]; simp
    · have q3 : ¬ k = j := fun x => q2 x.symm
      cases h : es.find? fun p => decide (p.1 = j) with
      | some p => simp [q2]
      | none => simp [q2, q3]
/-- rows of labels against names met -/
theorem labs_dup : ∀ (ls : List (Str × Int)) (es : Sc) (met : List Str), (∀ k, (look es k).isSome = true ↔ k ∈ met) → (actLabs ls es).1 = oDup met ls ∧ ∀ k, look (actLabs ls es).2 k = match look es k with
    | some e => some e
    | none => (ls.find? fun p => p.1 = k).map fun p => ⟨Str.ofString "block", p.2, .num (-1)⟩
  | [], es, met, _ => ⟨rfl, fun k => by
      simp only [actLabs, List.find?_nil, Option.map_none]
      cases look es k <;> rfl⟩
  | (k, i) :: r, es, met, h => by
    by_cases hk : k ∈ met
    · obtain ⟨e, he⟩ := Option.isSome_iff_exists.mp ((h k).mpr hk)
      have ea : actLabel k i es = ([⟨Str.ofString "duplicate_label", i, k⟩], es) := by unfold actLabel; rw [he]
      obtain ⟨h1, h2⟩ := labs_dup r es (met ++ [k]) (fun j => (h j).trans ⟨fun x => List.mem_append_left _ x, fun x => by
        rcases List.mem_append.mp x with x | x
        · exact x
        · rw [List.mem_singleton.mp x]; exact hk⟩)
      simp only [actLabs, ea, oDup, if_pos hk, h1]
      refine ⟨trivial, fun j => ?_⟩
      rw [h2 j]
      cases hj : look es j with
      | some e' => rfl
      | none =>
        have : ¬ k = j := fun q => by rw [q, hj] at he; cases he
        simp [this]
    · have he : look es k = none := by
        cases q : look es k with
        | none => rfl
        | some e => exact absurd ((h k).mp (by rw [q]; rfl)) hk
      have ea : actLabel k i es = ([], put es k ⟨Str.ofString "block", i, .num (-1)⟩) := by unfold actLabel; rw [he]
      obtain ⟨h1, h2⟩ := labs_dup r (put es k ⟨Str.ofString "block", i, .num (-1)⟩) (met ++ [k]) (fun j => by
        rw [look_put_eq]
        by_cases q : j = k
        · simp [q]
        · rw [if_neg q, h j]
          simp [q])
      simp only [actLabs, ea, oDup, if_neg hk, h1]
      refine ⟨trivial, fun j => ?_⟩
      rw [h2 j, look_put_eq]
      by_cases q : j = k
      · subst q; rw [if_pos rfl, he]; simp
      · rw [if_neg q]
        have q' : ¬ k = j := fun x => q x.symm
        cases look es j with
        | some e' => rfl
        | none => simp [q']
/-- names seen and tables -/
noncomputable def RelS (σ : Str → Option Str) (T : List Sc) : Prop := ∀ k, σ k = (findT T k).map (·.what)
theorem expr_rel {σ : Str → Option Str} {T : List Sc} (h : RelS σ T) (d : Idn) : exprRows T d = oExpr σ d := by
  unfold exprRows oExpr
  rw [h d.name]
  cases findT T d.name <;> rfl
theorem target_rel {σ : Str → Option Str} {T : List Sc} (h : RelS σ T) (d : Idn) : targetRows T d = oTarget σ d := by
  unfold targetRows oTarget
  rw [h d.name]
  cases findT T d.name <;> rfl
theorem RelS.lab {σ : Str → Option Str} {T : List Sc} (h : RelS σ T) (ls : List (Str × Int)) : RelS (setB σ (ls.map (·.1))) ((actLabs ls []).2 :: T) := fun k => by
  have h2 := (labs_dup ls [] [] (fun k => by simp [look])).2 k
  unfold setB findT
  rw [h2]
  simp only [look, List.find?_nil, Option.map_none]
  cases q : ls.find? fun p => decide (p.1 = k) with
  | none =>
    have hn : k ∉ ls.map (·.1) := fun x => by
      obtain ⟨p, hp, e⟩ := List.mem_map.mp x
      exact absurd (decide_eq_true e) (by simpa using (List.find?_eq_none.mp q) p hp)
    rw [if_neg hn]
    exact h k
  | some p =>
    have hy : k ∈ ls.map (·.1) := List.mem_map.mpr ⟨p, List.mem_of_find?_eq_some q, of_decide_eq_true (by simpa using List.find?_some q)⟩
    rw [if_pos hy]
    rfl
mutual
theorem body_rel (wait : Bool) : ∀ (s : St) (σ : Str → Option Str) (T : List Sc), RelS σ T → bodyRows T wait s = oBody σ wait s
  | .set _ l r, σ, T, h => by simp only [bodyRows, oBody, expr_rel h, target_rel h]
  | .delay i e s, σ, T, h => by simp only [bodyRows, oBody, expr_rel h, body_rel wait s σ T h, List.append_assoc]
  | .block _ (some _) ss, σ, T, h => by
    simp only [bodyRows, oBody]
    rw [bodyL_rel wait ss _ _ (h.lab (labsL ss)), (labs_dup (labsL ss) [] [] (fun k => by simp [look])).1]
  | .block _ none ss, σ, T, h => by simp only [bodyRows, oBody, bodyL_rel wait ss σ T h]
theorem bodyL_rel (wait : Bool) : ∀ (ss : List St) (σ : Str → Option Str) (T : List Sc), RelS σ T → bodyRowsL T wait ss = oBodyL σ wait ss
  | [], σ, T, _ => by simp only [bodyRowsL, oBodyL]
  | s :: ss, σ, T, h => by simp only [bodyRowsL, oBodyL, body_rel wait s σ T h, bodyL_rel wait ss σ T h]
end

noncomputable abbrev Pr := List (Str × (Bool × Bool))
noncomputable def prHas (l : Pr) (k : Str) : Option (Bool × Bool) := (l.find? fun p => p.1 = k).map (·.2)
noncomputable def prSet (l : Pr) (k : Str) (v : Bool × Bool) : Pr := if l.any (fun p => p.1 = k) then l.map (fun p => if p.1 = k then (p.1, v) else p) else l ++ [(k, v)]
theorem prHas_set {l : Pr} {k j : Str} {v : Bool × Bool} : prHas (prSet l k v) j = if j = k then some v else prHas l j := by
  unfold prSet
  split
  · rename_i hany
    induction l with
    | nil => simp at hany
    | cons p r ih =>
      obtain ⟨a, b⟩ := p
      unfold prHas at ih ⊢
      simp only [List.map_cons, List.find?_cons]
      by_cases q : a = k
      · subst q
        by_cases q2 : j = a
        · subst q2; simp
        · have q3 : ¬ a = j := fun x => q2 x.symm
          simp only [if_true, q3, decide_false, if_neg q2]
          by_cases hr : (r.any fun p => decide (p.1 = a)) = true
          · rw [ih hr, if_neg q2]
          · have e : (r.map fun p => if p.1 = a then (p.1, v) else p) = r := by
              refine (List.map_congr_left fun p hp => ?_).trans (List.map_id r)
              refine if_neg fun hc => hr ?_
              exact List.any_eq_true.mpr ⟨p, hp, decide_eq_true hc⟩
            rw [e]
      · have hr : (r.any fun p => decide (p.1 = k)) = true := by simpa [q] using hany
        by_cases q2 : a = j
        · subst q2; simp [q]
        · simp only [if_neg q, q2, decide_false]
          exact ih hr
  · rename_i hany
    unfold prHas
    rw [List.find?_append]
    by_cases q2 : j = k
    · subst q2
      have hn : (l.find? fun p => decide (p.1 = j)) = none := by
        rw [List.find?_eq_none]
        intro p hp hc
        exact hany (List.any_eq_true.mpr ⟨p, hp, hc⟩)
      rw [hn]; simp
    · have q3 : ¬ k = j := fun x => q2 x.symm
      cases h : l.find? fun p => decide (p.1 = j) with
      | some p => simp [q2]
      | none => simp [q2, q3]
theorem prHas_keys {l : Pr} {k : Str} : k ∈ l.map (·.1) ↔ (prHas l k).isSome = true := by
  unfold prHas
  cases q : l.find? fun p => decide (p.1 = k) with
  | none =>
    simp only [Option.map_none, Option.isSome_none, Bool.false_eq_true, iff_false]
    intro x
    obtain ⟨p, hp, e⟩ := List.mem_map.mp x
    exact absurd (decide_eq_true e) (by simpa using (List.find?_eq_none.mp q) p hp)
  | some p =>
    simp only [Option.map_some, Option.isSome_some, iff_true]
    exact List.mem_map.mpr ⟨p, List.mem_of_find?_eq_some q, of_decide_eq_true (by simpa using List.find?_some q)⟩
noncomputable def prOne (one : Decl) (l : Pr) : List Row × Pr := match prHas l one.name with
  | some (p, q) => if (if one.isPort then p else q) then ([dupRow one.pos one.name], l) else ([], prSet l one.name (true, true))
  | none => ([], prSet l one.name (one.isPort, !one.isPort))
noncomputable def prAll : List Decl → Pr → List Row × Pr
  | [], l => ([], l)
  | d :: r, l => ((prOne d l).1 ++ (prAll r (prOne d l).2).1, (prAll r (prOne d l).2).2)
noncomputable def pr0 (it : Item) : Pr := if it.fn then [(it.name, (true, true))] else []
noncomputable def sig0 : Str → Option Str := fun k => if k = Str.ofString "v" then some (Str.ofString "var") else if k = Str.ofString "n" then some (Str.ofString "net") else none
noncomputable def oSigma (ks : List Str) (ls : List (Str × Int)) : Str → Option Str := fun k => if k ∈ ks then some (Str.ofString "var") else if k ∈ ls.map (·.1) then some (Str.ofString "block") else sig0 k
noncomputable def oExt (σ : Str → Option Str) : Option (Idn × Idn) → List Row
  | none => []
  | some (x, y) => oExpr σ x ++ oExpr σ y
noncomputable def oDecl (σ : Str → Option Str) : Decl → List Row
  | .port _ _ ext _ => oExt σ ext
  | .var _ ext _ fo => oExt σ ext ++ oOpt σ fo
noncomputable def oKeys (it : Item) : List Str := (prAll it.decls (pr0 it)).2.map (·.1)
noncomputable def oRows (it : Item) : List Row :=
  (((oExt sig0 it.ext ++ (prAll it.decls (pr0 it)).1) ++ oDup (oKeys it) (labs it.body)) ++ it.decls.flatMap (oDecl (oSigma (oKeys it) (labs it.body)))) ++ oBody (oSigma (oKeys it) (labs it.body)) (!it.fn) it.body

noncomputable def RelP (fn : Bool) (nm : Str) (es : Sc) (pr : Pr) : Prop := ∀ k, match look es k with
  | none => prHas pr k = none ∧ ¬ (fn = true ∧ k = nm)
  | some e => e.what = Str.ofString "var" ∧ ∃ d p q, e.inf = .sig d p q ∧ (if fn = true ∧ k = nm then q = true ∧ prHas pr k = some (true, true) else prHas pr k = some (p, q))
theorem relP_put {fn : Bool} {nm : Str} {es : Sc} {pr : Pr} (h : RelP fn nm es pr) (k : Str) (i : Int) (d : Str) (p q : Bool) (hk : ¬ (fn = true ∧ k = nm)) : RelP fn nm (put es k ⟨Str.ofString "var", i, .sig d p q⟩) (prSet pr k (p, q)) := fun j => by
  rw [look_put_eq, prHas_set]
  by_cases e : j = k
  · subst e
    rw [if_pos rfl, if_pos rfl]
    exact ⟨rfl, d, p, q, rfl, by rw [if_neg hk]⟩
  · rw [if_neg e, if_neg e]
    exact h j
theorem one_rel {fn : Bool} {nm : Str} {es : Sc} {pr : Pr} (h : RelP fn nm es pr) (d : Decl) : (actOne fn nm d es).1 = (prOne d pr).1 ∧ RelP fn nm (actOne fn nm d es).2 (prOne d pr).2 := by
  have hk := h d.name
  by_cases own : fn = true ∧ d.name = nm
  · cases hl : look es d.name with
    | none => rw [hl] at hk; exact absurd own hk.2
    | some e =>
      rw [hl] at hk
      obtain ⟨hw, dd, p, q, hi, hc⟩ := hk
      rw [if_pos own] at hc
      obtain ⟨rfl, hp⟩ := hc
      obtain ⟨wh, ip, inf⟩ := e
      dsimp only at hw hi
      subst hw; subst hi
      have e2 : prOne d pr = ([dupRow d.pos d.name], pr) := by
        unfold prOne
        rw [hp]
        cases d.isPort <;> rfl
      have e1 : actOne fn nm d es = ([dupRow d.pos d.name], es) := by
        cases d with
        | port i dir ext k =>
          have own' : fn = true ∧ k = nm := own
          unfold actOne
          simp [Decl.isPort, Decl.name, Decl.pos, own'.1, own'.2]
        | var i ext k fo =>
          unfold actOne
          simp only [Decl.isPort, Bool.and_false, Bool.false_and, Bool.false_eq_true, if_false]
          show actVar k i es = _
          unfold actVar
          have hl' : look es k = _ := hl
          rw [hl']
          rfl
      rw [e1, e2]
      exact ⟨rfl, h⟩
  · have e0 : actOne fn nm d es = actDecl d es := by
      unfold actOne
      refine if_neg fun c => own ?_
      simp only [Bool.and_eq_true, decide_eq_true_eq] at c
      exact ⟨c.1.1, c.2⟩
    rw [e0]
    cases hl : look es d.name with
    | none =>
      rw [hl] at hk
      have e2 : prOne d pr = ([], prSet pr d.name (d.isPort, !d.isPort)) := by unfold prOne; rw [hk.1]
      rw [e2]
      cases d with
      | port i dir ext k =>
        have hl' : look es k = none := hl
        have e1 : actDecl (.port i dir ext k) es = ([], put es k ⟨Str.ofString "var", i, .sig dir true false⟩) := by
          show actPort k i dir es = _
          unfold actPort
          rw [hl']
        rw [e1]
        exact ⟨rfl, relP_put h k i dir true false own⟩
      | var i ext k fo =>
        have hl' : look es k = none := hl
        have e1 : actDecl (.var i ext k fo) es = ([], put es k ⟨Str.ofString "var", i, .sig (Str.ofString "") false true⟩) := by
          show actVar k i es = _
          unfold actVar
          rw [hl']
        rw [e1]
        exact ⟨rfl, relP_put h k i _ false true own⟩
    | some e =>
      rw [hl] at hk
      obtain ⟨hw, dd, p, q, hi, hc⟩ := hk
      rw [if_neg own] at hc
      obtain ⟨wh, ip, inf⟩ := e
      dsimp only at hw hi
      subst hw; subst hi
      cases d with
      | port i dir ext k =>
        have hl' : look es k = some ⟨Str.ofString "var", ip, .sig dd p q⟩ := hl
        have hc' : prHas pr k = some (p, q) := hc
        cases p with
        | true =>
          have e1 : actDecl (.port i dir ext k) es = ([dupRow i k], es) := by
            show actPort k i dir es = _
            unfold actPort
            rw [hl']
          have e2 : prOne (.port i dir ext k) pr = ([dupRow i k], pr) := by
            unfold prOne
            simp only [Decl.name, hc', Decl.isPort, if_true, Decl.pos]
          rw [e1, e2]
          exact ⟨rfl, h⟩
        | false =>
          have e1 : actDecl (.port i dir ext k) es = ([], put es k ⟨Str.ofString "var", ip, .sig dir true true⟩) := by
            show actPort k i dir es = _
            unfold actPort
            rw [hl']
          have e2 : prOne (.port i dir ext k) pr = ([], prSet pr k (true, true)) := by
            unfold prOne
            simp only [Decl.name, hc', Decl.isPort, if_true, Bool.false_eq_true, if_false]
          rw [e1, e2]
          exact ⟨rfl, relP_put h k ip dir true true own⟩
      | var i ext k fo =>
        have hl' : look es k = some ⟨Str.ofString "var", ip, .sig dd p q⟩ := hl
        have hc' : prHas pr k = some (p, q) := hc
        cases q with
        | true =>
          have e1 : actDecl (.var i ext k fo) es = ([dupRow i k], es) := by
            show actVar k i es = _
            unfold actVar
            rw [hl']
          have e2 : prOne (.var i ext k fo) pr = ([dupRow i k], pr) := by
            unfold prOne
            simp only [Decl.name, hc', Decl.isPort, Bool.false_eq_true, if_false, if_true, Decl.pos]
          rw [e1, e2]
          exact ⟨rfl, h⟩
        | false =>
          have e1 : actDecl (.var i ext k fo) es = ([], put es k ⟨Str.ofString "var", ip, .sig dd true true⟩) := by
            show actVar k i es = _
            unfold actVar
            rw [hl']
          have e2 : prOne (.var i ext k fo) pr = ([], prSet pr k (true, true)) := by
            unfold prOne
            simp only [Decl.name, hc', Decl.isPort, Bool.false_eq_true, if_false]
          rw [e1, e2]
          exact ⟨rfl, relP_put h k ip dd true true own⟩
theorem all_rel {fn : Bool} {nm : Str} : ∀ (ds : List Decl) {es : Sc} {pr : Pr}, RelP fn nm es pr → (actAll fn nm ds es).1 = (prAll ds pr).1 ∧ RelP fn nm (actAll fn nm ds es).2 (prAll ds pr).2
  | [], _, _, h => ⟨rfl, h⟩
  | d :: r, es, pr, h => by
    obtain ⟨h1, h2⟩ := one_rel h d
    obtain ⟨h3, h4⟩ := all_rel r h2
    simp only [actAll, prAll, h1, h3]
    exact ⟨trivial, h4⟩
theorem rel0 (it : Item) : RelP it.fn it.name (es0 it) (pr0 it) := fun k => by
  unfold es0 pr0
  cases hf : it.fn with
  | false =>
    simp only [Bool.false_eq_true, if_false]
    exact ⟨rfl, fun x => x.1⟩
  | true =>
    simp only [if_true]
    by_cases q : it.name = k
    · subst q
      simp only [look, List.find?_cons, decide_true, Option.map_some]
      refine ⟨trivial, _, _, _, rfl, by simp [prHas]⟩
    · simp only [look, List.find?_cons, q, decide_false, List.find?_nil, Option.map_none]
      exact ⟨by simp [prHas, q], fun x => q x.2.symm⟩
theorem ext_rel {σ : Str → Option Str} {T : List Sc} (h : RelS σ T) (e : Option (Idn × Idn)) : extRows T e = oExt σ e := by
  cases e with
  | none => rfl
  | some p =>
    obtain ⟨x, y⟩ := p
    simp only [extRows, oExt, List.flatMap_cons, List.flatMap_nil, List.append_nil, expr_rel h]
theorem decl_rel {σ : Str → Option Str} {T : List Sc} (h : RelS σ T) (d : Decl) : declRows T d = oDecl σ d := by
  cases d with
  | port i dir ext k => simp only [declRows, oDecl, ext_rel h]
  | var i ext k fo =>
    cases fo with
    | none => simp only [declRows, oDecl, ext_rel h, optRows, oOpt]
    | some d => simp only [declRows, oDecl, ext_rel h, optRows, oOpt, expr_rel h]
/-- what check_routine notes is what the oracle lists -/
theorem rows_rel {T : List Sc} (h0 : RelS sig0 T) (it : Item) : routineRows T it = oRows it := by
  obtain ⟨h1, h2⟩ := all_rel it.decls (rel0 it)
  have hkeys : ∀ k, (look (es1 it) k).isSome = true ↔ k ∈ oKeys it := fun k => by
    have := h2 k
    unfold es1 oKeys
    rw [prHas_keys]
    cases q : look (actAll it.fn it.name it.decls (es0 it)).2 k with
    | none => rw [q] at this; simp [this.1]
    | some e =>
      rw [q] at this
      obtain ⟨_, d, p, q', _, hc⟩ := this
      split at hc
      · simp [hc.2]
      · simp [hc]
  obtain ⟨h3, h4⟩ := labs_dup (labs it.body) (es1 it) (oKeys it) hkeys
  have hS : RelS (oSigma (oKeys it) (labs it.body)) (es2 it :: T) := fun k => by
    unfold oSigma findT es2
    rw [h4 k]
    by_cases hk : k ∈ oKeys it
    · obtain ⟨e, he⟩ := Option.isSome_iff_exists.mp ((hkeys k).mpr hk)
      rw [if_pos hk, he]
      have := h2 k
      unfold es1 at he
      rw [he] at this
      simp only [Option.map_some, this.1]
    · have he : look (es1 it) k = none := by
        cases q : look (es1 it) k with
        | none => rfl
        | some e => exact absurd ((hkeys k).mp (by rw [q]; rfl)) hk
      rw [if_neg hk, he]
      cases q : (labs it.body).find? fun p => decide (p.1 = k) with
      | none =>
        have hn : k ∉ (labs it.body).map (·.1) := fun x => by
          obtain ⟨p, hp, e⟩ := List.mem_map.mp x
          exact absurd (decide_eq_true e) (by simpa using (List.find?_eq_none.mp q) p hp)
        rw [if_neg hn]
        exact h0 k
      | some p =>
        have hy : k ∈ (labs it.body).map (·.1) := List.mem_map.mpr ⟨p, List.mem_of_find?_eq_some q, of_decide_eq_true (by simpa using List.find?_some q)⟩
        rw [if_pos hy]
        rfl
  unfold routineRows oRows
  have hd : it.decls.flatMap (declRows (es2 it :: T)) = it.decls.flatMap (oDecl (oSigma (oKeys it) (labs it.body))) := by
    have : declRows (es2 it :: T) = oDecl (oSigma (oKeys it) (labs it.body)) := funext fun d => decl_rel hS d
    rw [this]
  rw [ext_rel h0, h1, h3, hd, body_rel _ _ _ _ hS]
  simp only [List.append_assoc]

/-- a list of two bools, at an address off X -/
noncomputable def PBAt (g : Heap) (X : List Addr) (h : Heap) (v : Value) (p : Bool × Bool) : Prop := ∃ a n, v = .ref a ∧ a ∉ X ∧ g.get? a = none ∧ h.get? a = some (listOf #[.bool p.1, .bool p.2] n)
noncomputable def PrsAt (g : Heap) (X : List Addr) (h : Heap) : List (Str × Value) → Pr → Prop
  | [], [] => True
  | (k, v) :: r, (k', p) :: r' => k = k' ∧ PBAt g X h v p ∧ PrsAt g X h r r'
  | _, _ => False
theorem PrsAt.mono {g : Heap} {X : List Addr} {h h' : Heap} (f : ∀ v p, PBAt g X h v p → PBAt g X h' v p) : ∀ {kvs : List (Str × Value)} {pr : Pr}, PrsAt g X h kvs pr → PrsAt g X h' kvs pr
  | [], [], _ => trivial
  | (_, _) :: _, (_, _) :: _, ⟨a, b, c⟩ => ⟨a, f _ _ b, PrsAt.mono f c⟩
  | [], _ :: _, x => x.elim
  | _ :: _, [], x => x.elim
theorem PrsAt.keys {g : Heap} {X : List Addr} {h : Heap} : ∀ {kvs : List (Str × Value)} {pr : Pr}, PrsAt g X h kvs pr → kvs.map (·.1) = pr.map (·.1)
  | [], [], _ => rfl
  | (_, _) :: _, (_, _) :: _, ⟨a, _, c⟩ => by
    subst a
    rw [List.map_cons, List.map_cons, PrsAt.keys c]
  | [], _ :: _, x => x.elim
  | _ :: _, [], x => x.elim
theorem PrsAt.look {g : Heap} {X : List Addr} {h : Heap} (k : Str) : ∀ {kvs : List (Str × Value)} {pr : Pr}, PrsAt g X h kvs pr → (match prHas pr k with | none => valueAt kvs k = none | some p => ∃ v, valueAt kvs k = some v ∧ PBAt g X h v p)
  | [], [], _ => rfl
  | (k1, v) :: r, (k2, e) :: r', ⟨a, b, c⟩ => by
    subst a
    have ih := PrsAt.look k c
    unfold prHas valueAt
    by_cases q : k1 = k
    · simp only [List.find?_cons, q, decide_true, Option.map_some]
      exact ⟨v, rfl, b⟩
    · simp only [List.find?_cons, q, decide_false]
      exact ih
  | [], _ :: _, x => x.elim
  | _ :: _, [], x => x.elim
theorem PrsAt.any {g : Heap} {X : List Addr} {h : Heap} (k : Str) : ∀ {kvs : List (Str × Value)} {pr : Pr}, PrsAt g X h kvs pr → kvs.any (fun kv => kv.1 = k) = pr.any (fun p => p.1 = k)
  | [], [], _ => rfl
  | (_, _) :: _, (_, _) :: _, ⟨a, _, c⟩ => by
    subst a
    rw [List.any_cons, List.any_cons, PrsAt.any k c]
  | [], _ :: _, x => x.elim
  | _ :: _, [], x => x.elim
theorem PrsAt.map {g : Heap} {X : List Addr} {h : Heap} (k : Str) {v : Value} {e : Bool × Bool} (hv : PBAt g X h v e) : ∀ {kvs : List (Str × Value)} {pr : Pr}, PrsAt g X h kvs pr → PrsAt g X h (kvs.map (fun kv => if kv.1 = k then (kv.1, v) else kv)) (pr.map (fun p => if p.1 = k then (p.1, e) else p))
  | [], [], _ => trivial
  | (k1, _) :: _, (_, _) :: _, ⟨a, b, c⟩ => by
    subst a
    rw [List.map_cons, List.map_cons]
    by_cases q : k1 = k
    · simp only [q, if_true]; exact ⟨rfl, hv, by simpa [q] using PrsAt.map k hv c⟩
    · simp only [if_neg q]; exact ⟨rfl, b, PrsAt.map k hv c⟩
  | [], _ :: _, x => x.elim
  | _ :: _, [], x => x.elim
theorem PrsAt.snoc {g : Heap} {X : List Addr} {h : Heap} (k : Str) {v : Value} {e : Bool × Bool} (hv : PBAt g X h v e) : ∀ {kvs : List (Str × Value)} {pr : Pr}, PrsAt g X h kvs pr → PrsAt g X h (kvs ++ [(k, v)]) (pr ++ [(k, e)])
  | [], [], _ => ⟨rfl, hv, trivial⟩
  | (_, _) :: _, (_, _) :: _, ⟨a, b, c⟩ => ⟨a, b, PrsAt.snoc k hv c⟩
  | [], _ :: _, x => x.elim
  | _ :: _, [], x => x.elim
theorem PrsAt.put {g : Heap} {X : List Addr} {h : Heap} (k : Str) {v : Value} {e : Bool × Bool} (hv : PBAt g X h v e) {kvs : List (Str × Value)} {pr : Pr} (x : PrsAt g X h kvs pr) : PrsAt g X h (stored kvs k v) (prSet pr k e) := by
  unfold stored prSet
  rw [x.any k]
  split
  · exact x.map k hv
  · exact x.snoc k hv
theorem prAll_append (a b : List Decl) (l : Pr) : prAll (a ++ b) l = ((prAll a l).1 ++ (prAll b (prAll a l).2).1, (prAll b (prAll a l).2).2) := by
  induction a generalizing l with
  | nil => rfl
  | cons p r ih =>
    show prAll (p :: (r ++ b)) l = _
    simp only [prAll, ih, List.append_assoc]
theorem prAll_succ {ds : List Decl} {l : Pr} {i : Nat} {d : Decl} (h : ds[i]? = some d) : prAll (ds.take (i + 1)) l = ((prAll (ds.take i) l).1 ++ (prOne d (prAll (ds.take i) l).2).1, (prOne d (prAll (ds.take i) l).2).2) := by
  rw [List.take_add_one, h, prAll_append]
  simp only [Option.toList_some, prAll, List.append_nil]
theorem prAll_len : ∀ (ds : List Decl) (l : Pr), (prAll ds l).1.length ≤ ds.length ∧ (prAll ds l).2.length ≤ l.length + ds.length
  | [], l => ⟨Nat.le_refl _, Nat.le_refl _⟩
  | d :: r, l => by
    have h1 : (prOne d l).1.length ≤ 1 ∧ (prOne d l).2.length ≤ l.length + 1 := by
      have hs : ∀ k v, (prSet l k v).length ≤ l.length + 1 := fun k v => by
        unfold prSet
        split
        · rw [List.length_map]; omega
        · rw [List.length_append, List.length_singleton]; exact Nat.le_refl _
      unfold prOne
      cases prHas l d.name with
      | none => exact ⟨Nat.zero_le _, hs _ _⟩
      | some p =>
        obtain ⟨a, b⟩ := p
        dsimp only
        cases (if d.isPort = true then a else b) with
        | true =>
          simp only [if_true, List.length_cons, List.length_nil]
          omega
        | false =>
          simp only [Bool.false_eq_true, if_false]
          exact ⟨Nat.zero_le _, hs _ _⟩
    have h2 := prAll_len r (prOne d l).2
    simp only [prAll, List.length_append, List.length_cons]
    omega

/-- the jar: a cell of four places beside a list of ints -/
noncomputable def JarIn (h : Heap) (J C : Addr) (ns : List Int) (B : Nat) : Prop :=
  ∃ a b p t1 t2 t3 n cs k, h.get? J = some (listOf #[.int a t1, .int b t2, .ref C, .int p t3] n) ∧ h.get? C = some (listOf (List.toArray cs) k) ∧ IntsAre cs ns ∧ 0 < ns.length ∧ ns.length ≤ 40 ∧ 0 ≤ a ∧ a < 10 ^ 61 ∧ 0 ≤ b ∧ b ≤ (B : Int)
theorem JarIn.ne {h : Heap} {J C : Addr} {ns : List Int} {B : Nat} (x : JarIn h J C ns B) : C ≠ J := fun q => by
  refine ex9 x ?_
  clear x
  intro a b p t1 t2 t3 n cs k
  intro hII
  refine an4 hII ?_
  clear hII
  intro e1 e2 hi _
  rw [q, e1] at e2
  have e3 := congrArg (fun o : Option Obj => o.map (·.data)) e2
  simp only [W.listOf, Option.map_some, Option.some.injEq, Data.seq.injEq] at e3
  have e4 := congrArg Array.toList e3.1
  simp only [List.toList_toArray] at e4
  rw [← e4] at hi
  cases hi with
  | cons _ _ r => cases r with
    | cons _ _ r => cases r
theorem JarIn.keep {h h' : Heap} {J C : Addr} {ns : List Int} {B : Nat} (x : JarIn h J C ns B) (k1 : ∀ o, h.get? J = some o → h'.get? J = some o) (k2 : ∀ o, h.get? C = some o → h'.get? C = some o) : JarIn h' J C ns B := by
  refine ex9 x ?_
  clear x
  intro a b p t1 t2 t3 n cs k
  intro hII
  refine an3 hII ?_
  clear hII
  intro e1 e2 r
  exact ⟨a, b, p, t1, t2, t3, n, cs, k, k1 _ e1, k2 _ e2, r⟩

/-- the numbers of the jar -/
noncomputable def JarNum (cs : List Value) (ns : List Int) (a b : Int) (B : Nat) : Prop := IntsAre cs ns ∧ 0 < ns.length ∧ ns.length ≤ 40 ∧ 0 ≤ a ∧ a < 10 ^ 61 ∧ 0 ≤ b ∧ b ≤ (B : Int)
noncomputable abbrev jarO (C : Addr) (a b p : Int) (t1 t2 t3 : Tok) (n : Nat) : Obj := W.listOf #[.int a t1, .int b t2, .ref C, .int p t3] n
/-- a call that draws from the jar and hands back a value -/
noncomputable def MakesAt (w : World) (f : Addr) (vs : List Value) (dz uz : Nat) (J C : Addr) (ns : List Int) (cost : Nat) (P : TP → Value → Prop) : Prop :=
  ∀ (mean : ExcName → Option Value) (mg mb : Str → Option Value) (dp un : Nat) (gd : Option (List Code)) (cn : Str) (cs : Scope) (a : Addr) (ccd : Value) (cl : List (Str × Addr)) (outer : List Env) (A₀ : Around) (base h₀ : Heap) (L : Addr) (m : Str → Option Value) (s : Shared)
    (B : Nat) (Q E : Value → Shared → Prop),
    Below A₀ base outer h₀ → Fr h₀ L s.heap m → (hd.heap_1 w.params).In h₀ → Top PV LS mean mg mb h₀ → cs.kind = .function → dp + dz < recursionLimit → un + uz < cLine →
    JarIn s.heap J C ns B → h₀.get? J = none → J ≠ L → B + cost ≤ 100000 →
    (∀ v h' tk', Fr h₀ L h' m → Keep [J] L s.heap h' → JarIn h' J C ns (B + cost) → P (IsTup h') v → Q v { s with heap := h', toks := tk' }) →
    wpAny (MD w) (AR dp un gd cn cs L a ccd cl outer) (call (.ref f) vs) Q E s

noncomputable def Made (g : Heap) (J C : Addr) (ns : List Int) (B : Nat) (P : TP → Value → Prop) (s₀ : Shared) (v : Value) (s' : Shared) : Prop :=
  ∃ L' m' h' tk', s' = { s₀ with heap := h', toks := tk' } ∧ Fr g L' h' m' ∧ JarIn h' J C ns B ∧ P (IsTup h') v

section
variable {w : World} {f : Addr} {vs : List Value} {dz uz : Nat} {J C : Addr} {ns : List Int} {cost : Nat} {P : TP → Value → Prop}
theorem makes_of {oc : Value} {od : Option Addr} {osl : Array (Option Value)} {name qual : Str} {params : Arguments} {body : List Stmt} {scope : Scope} {dV kV doc pm cdv ct : Value} {an : Option Addr} {binds : List (Str × Value)}
    (ho : (hd.heap_1 w.params).lookup f = some ⟨oc, od, .func (fnOf name qual params body scope dV kV doc pm an cdv ct), osl⟩) (hcd : codeIn (hd.heap_1 w.params) cdv qual = true)
    (hbind : ∀ s, BindsTo s (fnOf name qual params body scope dV kV doc pm an cdv ct) ⟨vs, []⟩ binds) (hloc : (binds.all fun x => decide (scope.names.lookup x.1 = some .local)) = true)
    (hcell : ∀ x ∈ scope.names, x.2 ≠ .cell) (hco : scope.isCoroutine = false) (hgen : scope.isGenerator = false) (hks : scope.kind = .function)
    (h : ∀ (mean : ExcName → Option Value) (mg mb : Str → Option Value) (dp un : Nat) (gd : Option (List Code)) (outer : List Env) (A₀ : Around) (base g : Heap) (L : Addr) (h₁ : Heap) (s : Shared) (B : Nat) (Qe : Value → Shared → Prop),
      Below A₀ base outer g → Fr g L h₁ (fun y => binds.reverse.lookup y) → (hd.heap_1 w.params).In g → Top PV LS mean mg mb g → dp + dz < recursionLimit + 1 → un + uz < cLine + 3 →
      JarIn h₁ J C ns B → g.get? J = none → J ≠ L → (∀ o, h₁.get? C = some o → g.get? C = some o) → B + cost ≤ 100000 →
      wpAny (MD w) (AR dp un gd qual scope L f cdv [] outer) (execs body (envOf qual scope L f cdv)) (fun fl s' => Made g J C ns (B + cost) P s (match fl with | .ret v => v | _ => .none) s')
        (fun e s' => wpAny (MD w) (AR dp un gd qual scope L f cdv [] outer) (leaving (envOf qual scope L f cdv) e) (fun _ s'' => Qe e s'') (fun e' s'' => Qe e' s'') s') { s with heap := h₁ }) :
    MakesAt w f vs dz uz J C ns cost P := by
  intro mean mg mb dp un gd cn cs a ccd cl outer A₀ base h₀ L m s B Q E Bw F X T hk hd hu hJ hJ0 hJL hB ret
  have hCJ := hJ.ne
  refine ex9 hJ ?_
  clear hJ
  intro a1 b1 p1 t1 t2 t3 n1 cells k1
  intro hII
  refine an4 hII ?_
  clear hII
  intro eJ eC hi r
  have N1 : News h₀ L s.heap [(J, listOf #[.int a1 t1, .int b1 t2, .ref C, .int p1 t3] n1)] := fun p hp => by rw [List.mem_singleton.mp hp]; exact ⟨eJ, hJL, hJ0⟩
  refine enterG Bw F X T hk N1 (by omega) ho hcd (hbind s) (locs hloc) (fun g L' h₁ FG F' N' B' X' T' hide hshow hlt => ?_) hcell hco hgen hks
  have hh : ∀ b o, b ≠ J → s.heap.get? b = some o → g.get? b = some o := fun b o hb e => hide b o (by simpa using hb) e
  have bk : ∀ v s', Made g J C ns (B + cost) P { s with toks := s.toks + binds.length } v s' → Back h₀ L m g Q v s' := by
    intro v s' hII
    refine ex4 hII ?_
    clear hII
    intro L₂ m₂ h' tk'
    intro hII
    refine an4 hII ?_
    clear hII
    intro eqO1
    subst eqO1
    intro F₂ hJ₂ hP
    refine ⟨L₂, m₂, [], F₂, News.nil, fun F₃ N₃ kp => ?_⟩
    exact ret v h' tk' F₃ (fun b o h1 h2 e => kp _ _ (hh _ _ (by simpa using h1) e)) hJ₂ hP
  have hJg := N' _ (.head _)
  have hCg := hh C _ hCJ eC
  exact wpAny_mono (h mean mg mb (dp + 1) (un + 3) (gd) (envX cn cs L a ccd cl :: outer) (AR dp un gd cn cs L a ccd cl outer) base g L' h₁ { s with toks := s.toks + binds.length } B _ B' F' X' T' (by omega) (by omega)
    ⟨a1, b1, p1, t1, t2, t3, n1, cells, k1, hJg.1, F'.keep _ _ hCg, hi, r⟩ hJg.2.2 hJg.2.1 (fun o e => by
      have := F'.keep _ _ hCg
      rw [e] at this; cases this
      exact hCg) hB) (fun fl s' hl => bk _ s' hl) fun _ _ y => y
theorem MakesAt.use (K : MakesAt w f vs dz uz J C ns cost P)
    {mean : ExcName → Option Value} {mg mb : Str → Option Value} {dp un : Nat} {gd : Option (List Code)} {cn : Str} {cs : Scope} {a : Addr} {ccd : Value} {cl : List (Str × Addr)} {outer : List Env} {A₀ : Around} {base h₀ : Heap} {L : Addr} {m : Str → Option Value} {hs : Heap} {gs : Array GenState} {ds : Drawn} {ts : Nat} {os : OsState}
    {B : Nat} {Q E : Value → Shared → Prop}
    (Bw : Below A₀ base outer h₀) (F : Fr h₀ L hs m) (X : (hd.heap_1 w.params).In h₀) (T : Top PV LS mean mg mb h₀) (hk : cs.kind = .function) (hd : dp + dz < recursionLimit) (hu : un + uz < cLine)
    (hJ : JarIn hs J C ns B) (hJ0 : h₀.get? J = none) (hJL : J ≠ L) (hB : B + cost ≤ 100000)
    (ret : ∀ v h' tk', Fr h₀ L h' m → Keep [J] L hs h' → JarIn h' J C ns (B + cost) → P (IsTup h') v → Q v ⟨h', gs, ds, tk', os⟩) :
    wpAny (MD w) (AR dp un gd cn cs L a ccd cl outer) (call (.ref f) vs) Q E ⟨hs, gs, ds, ts, os⟩ := K _ _ _ _ _ _ _ _ _ _ _ _ _ _ _ _ _ _ _ _ _ Bw F X T hk hd hu hJ hJ0 hJL hB ret
end
theorem jar_news {g h : Heap} {L J : Addr} {o : Obj} (e : h.get? J = some o) (hL : J ≠ L) (hg : g.get? J = none) : News g L h ((J, o) :: snap g L h [J]) := fun p hp => by
  rcases List.mem_cons.mp hp with rfl | hp
  · exact ⟨e, hL, hg⟩
  · exact news_snap p hp
theorem jar_off {g h : Heap} {L J : Addr} : ∀ p ∈ snap g L h [J], p.1 ≠ J := fun p hp q => (of_snap hp).2.2.1 (by simp [q])
theorem makes_ofJ {w : World} {f : Addr} {vs : List Value} {dz uz : Nat} {J C : Addr} {ns : List Int} {cost : Nat} {P : TP → Value → Prop} {oc : Value} {od : Option Addr} {osl : Array (Option Value)} {name qual : Str} {params : Arguments} {body : List Stmt} {scope : Scope} {dV kV doc pm cdv ct : Value} {an : Option Addr} {binds : List (Str × Value)}
    (ho : (hd.heap_1 w.params).lookup f = some ⟨oc, od, .func (fnOf name qual params body scope dV kV doc pm an cdv ct), osl⟩ := by k_is) (hcd : codeIn (hd.heap_1 w.params) cdv qual = true := by k_is)
    (hbind : ∀ s, BindsTo s (fnOf name qual params body scope dV kV doc pm an cdv ct) ⟨vs, []⟩ binds := by exact fun s => BindsTo.of_eq rfl) (hloc : (binds.all fun x => decide (scope.names.lookup x.1 = some .local)) = true := by rfl)
    (hcell : ∀ x ∈ scope.names, x.2 ≠ .cell := by decide) (hco : scope.isCoroutine = false := by rfl) (hgen : scope.isGenerator = false := by rfl) (hks : scope.kind = .function := by rfl)
    (h : ∀ (mean : ExcName → Option Value) (mg mb : Str → Option Value) (dp un : Nat) (gd : Option (List Code)) (outer : List Env) (A₀ : Around) (base g : Heap) (L : Addr) (h₁ : Heap) (s : Shared) (B : Nat) (Qe : Value → Shared → Prop) (a b p : Int) (t1 t2 t3 : Tok) (n : Nat) (cs : List Value) (k : Nat),
      Below A₀ base outer g → Fr g L h₁ (fun y => binds.reverse.lookup y) → (hd.heap_1 w.params).In g → Top PV LS mean mg mb g → dp + dz < recursionLimit + 1 → un + uz < cLine + 3 →
      News g L h₁ ((J, jarO C a b p t1 t2 t3 n) :: snap g L h₁ [J]) → (∀ p ∈ snap g L h₁ [J], p.1 ≠ J) → JarNum cs ns a b B → g.get? J = none → J ≠ L → g.get? C = some (W.listOf (List.toArray cs) k) → B + cost ≤ 100000 →
      wpAny (MD w) (AR dp un gd qual scope L f cdv [] outer) (execs body (envOf qual scope L f cdv)) (fun fl s' => Made g J C ns (B + cost) P s (match fl with | .ret v => v | _ => .none) s')
        (fun e s' => wpAny (MD w) (AR dp un gd qual scope L f cdv [] outer) (leaving (envOf qual scope L f cdv) e) (fun _ s'' => Qe e s'') (fun e' s'' => Qe e' s'') s') { s with heap := h₁ }) :
    MakesAt w f vs dz uz J C ns cost P := by
  refine makes_of ho hcd hbind hloc hcell hco hgen hks (fun mean mg mb dp un gd outer A₀ base g L h₁ s B Qe Bw F X T hd hu hJ hJ0 hJL hC hB => ?_)
  refine ex9 hJ ?_
  clear hJ
  intro a b p t1 t2 t3 n cs k
  intro hII
  refine an3 hII ?_
  clear hII
  intro eJ eC hn
  exact h mean mg mb dp un gd outer A₀ base g L h₁ s B Qe a b p t1 t2 t3 n cs k Bw F X T hd hu (jar_news eJ hJL hJ0) jar_off hn hJ0 hJL (hC _ eC) hB
theorem words_32 : True := by
  k_with "m:Mine.makes" => (refine' makes_ofJ (h := ?_))
  exact trivial
section
 local macro_rules | `(tactic| k_all) => `(tactic| with_reducible assumption)
 local macro_rules | `(tactic| walk_at "call ref") => `(tactic| (k_here; refine' call_stop ?_))
 local macro_rules | `(tactic| walk_at "Mine.idle") => `(tactic| skip)
 local macro_rules | `(tactic| walk_at "Mine.idle") => `(tactic| skip)
theorem law_spot_spec {w : World} {J C : Addr} {ns : List Int} : MakesAt w 261 [.ref J] 10 100 J C ns 0 (fun _ v => ∃ i t, v = .int i t) := by
  walk_at "Mine.makes"
  intro mean mg mb dp un gd outer A₀ base g L h₁ s B Qe a b p t1 t2 t3 n cs k Bw F X Tp hd hu N off hn hJ0 hJL eC' hB
  dsimp only [fnOf, List.map, List.zip, List.zipWith, List.reverse, List.reverseAux, List.append, HAppend.hAppend, Append.append] at F
  refine fr_let F ?_
  clear F
  intro m0 F
  walk_at "Mine.in"
  walk_at "Mine.gfin"
  rename News g L _ _ => N2
  rename Fr g L _ _ => F2
  exact ⟨_, _, _, _, rfl, F2, ⟨a, b, p + 1, t1, t2, _, n, cs, k, (N2 _ (.head _)).1, F2.keep _ _ eC', hn⟩, _, _, rfl⟩
theorem draw_fin {x c : Int} (hx : 0 ≤ x) (hx1 : x < 10 ^ 61) (hc : 1 < c) : 0 ≤ x.fmod c ∧ x.fmod c < c ∧ 0 ≤ x.fdiv c ∧ x.fdiv c < 10 ^ 61 := by
  have hc0 : 0 ≤ c := by omega
  rw [Int.fmod_eq_emod_of_nonneg _ hc0, Int.fdiv_eq_ediv_of_nonneg _ hc0]
  have h1 := Int.emod_nonneg x (show c ≠ 0 by omega)
  have h2 := Int.emod_lt_of_pos x (show 0 < c by omega)
  have h3 : 0 ≤ x / c := Int.ediv_nonneg hx hc0
  have h4 : x / c ≤ x := Int.ediv_le_self c hx
  exact ⟨h1, h2, h3, by omega⟩
theorem draw_low {q b : Int} {B : Nat} (hb0 : 0 ≤ b) (hb1 : b ≤ (B : Int)) (hB : B ≤ 100000) : 0 ≤ (q.fmod 1000000007 + 7919 * (b + 1) + 3) * (q.fmod 1000000007 + 7919 * (b + 1) + 3) * 69069 + (b + 1) ∧ (q.fmod 1000000007 + 7919 * (b + 1) + 3) * (q.fmod 1000000007 + 7919 * (b + 1) + 3) * 69069 + (b + 1) < 10 ^ 61 := by
  rw [Int.fmod_eq_emod_of_nonneg _ (by omega)]
  have h1 := Int.emod_nonneg q (show (1000000007 : Int) ≠ 0 by omega)
  have h2 := Int.emod_lt_of_pos q (show (0 : Int) < 1000000007 by omega)
  generalize hl : q % 1000000007 + 7919 * (b + 1) + 3 = l
  have l0 : 0 ≤ l := by omega
  have l1 : l ≤ 2000000000 := by omega
  have m1 : l * l ≤ 2000000000 * 2000000000 := Int.mul_le_mul l1 l1 l0 (by omega)
  have m0 : 0 ≤ l * l := Int.mul_nonneg l0 l0
  generalize l * l = z at *
  omega
theorem draw_made {g h' : Heap} {J C L' : Addr} {ns : List Int} {B : Nat} {c i a b p : Int} {t u1 u2 u3 : Tok} {n' k tk' : Nat} {m' : Str → Option Value} {cs : List Value} {I : List (Addr × Obj)} {s₀ : Shared} (F : Fr g L' h' m') (N : News g L' h' ((J, listOf #[.int a u1, .int b u2, .ref C, .int p u3] n') :: I))
    (eC : g.get? C = some (listOf (List.toArray cs) k)) (hi : IntsAre cs ns) (hn0 : 0 < ns.length) (hn1 : ns.length ≤ 40) (hb0 : 0 ≤ b) (hb1 : b ≤ (B : Int) + 1) (ha0 : 0 ≤ a) (ha1 : a < 10 ^ 61) (h0 : 0 ≤ i) (h1 : i < c) :
    Made g J C ns (B + 1) (fun _ v => ∃ i t, v = .int i t ∧ 0 ≤ i ∧ i < c) s₀ (.int i t) { s₀ with heap := h', toks := tk' } :=
  ⟨_, _, _, _, rfl, F, ⟨a, b, p, u1, u2, u3, n', cs, k, (N _ (.head _)).1, F.keep _ _ eC, hi, hn0, hn1, ha0, ha1, hb0, by omega⟩, _, _, rfl, h0, h1⟩
theorem law_draw_spec {w : World} {J C : Addr} {ns : List Int} {c : Int} {tc : Tok} (hc : 1 < c) (hc9 : c ≤ 100) : MakesAt w 254 [.ref J, .int c tc] 10 100 J C ns 1 (fun _ v => ∃ i t, v = .int i t ∧ 0 ≤ i ∧ i < c) := by
  walk_at "Mine.makes"
  intro mean mg mb dp un gd outer A₀ base g L h₁ s B Qe a b p t1 t2 t3 n cs k Bw F X Tp hd hu N off hn hJ0 hJL eC' hB
  have hi := hn.1
  have hn0 := hn.2.1
  have hn1 := hn.2.2.1
  have ha0 := hn.2.2.2.1
  have ha1 := hn.2.2.2.2.1
  have hb0 := hn.2.2.2.2.2.1
  have hb1 := hn.2.2.2.2.2.2
  clear hn
  have hlC : g.IsList C (List.toArray cs) := ⟨_, eC', rfl, _, rfl⟩
  have hlen := hi.length
  dsimp only [fnOf, List.map, List.zip, List.zipWith, List.reverse, List.reverseAux, List.append, HAppend.hAppend, Append.append] at F
  refine fr_let F ?_
  clear F
  intro m0 F
  walk_at "Mine.in"
  all_goals walk_at "Mine.gfin"
  · rename News g L _ _ => N2
    rename Fr g L _ _ => F2
    exact draw_made F2 N2 eC' hi hn0 hn1 (by omega) (by omega) ha0 ha1 (by omega) (by omega)
  · rename News g L _ _ => N2
    rename Fr g L _ _ => F2
    have e60 : (10 : Int) ^ Int.toNat 60 = 10 ^ 60 := rfl
    have h1 : 0 ≤ (ns.getD (b.fmod ns.length).toNat 0).fmod (10 ^ Int.toNat 60) := by
      rw [e60, Int.fmod_eq_emod_of_nonneg _ (by omega)]
      exact Int.emod_nonneg _ (by omega)
    have h2 : (ns.getD (b.fmod ns.length).toNat 0).fmod (10 ^ Int.toNat 60) < 10 ^ 61 := by
      rw [e60, Int.fmod_eq_emod_of_nonneg _ (by omega)]
      exact Int.lt_trans (Int.emod_lt_of_pos _ (by omega)) (by omega)
    obtain ⟨z1, z2, z3, z4⟩ := draw_fin h1 h2 hc
    exact draw_made F2 N2 eC' hi hn0 hn1 (by omega) (by omega) z3 z4 z1 z2
  · rename News g L _ _ => N2
    rename Fr g L _ _ => F2
    obtain ⟨y1, y2⟩ := draw_low (q := ns.getD (b.fmod ns.length).toNat 0) hb0 hb1 (by omega)
    obtain ⟨z1, z2, z3, z4⟩ := draw_fin y1 y2 hc
    exact draw_made F2 N2 eC' hi hn0 hn1 (by omega) (by omega) z3 z4 z1 z2
  · rename News g L _ _ => N2
    rename Fr g L _ _ => F2
    obtain ⟨y1, y2⟩ := draw_low (q := ns.getD (b.fmod ns.length).toNat 0) hb0 hb1 (by omega)
    obtain ⟨z1, z2, z3, z4⟩ := draw_fin y1 y2 hc
    exact draw_made F2 N2 eC' hi hn0 hn1 (by omega) (by omega) z3 z4 z1 z2
  · rename News g L _ _ => N2
    rename Fr g L _ _ => F2
    obtain ⟨z1, z2, z3, z4⟩ := draw_fin ha0 ha1 hc
    exact draw_made F2 N2 eC' hi hn0 hn1 (by omega) (by omega) z3 z4 z1 z2
end

/-- while this fact is at hand the walk stops at an if -/
noncomputable def StopMark : Prop := True
noncomputable def IfStop (w : World) (A : Around) (c : PySem.Expr) (a b : List Stmt) (p : Pos) (env : Env) (Q : Flow → Shared → Prop) (E : Value → Shared → Prop) (s : Shared) : Prop := wpAny (MD w) A (exec (.If c a b p) env) Q E s
theorem if_stop {w : World} {A : Around} {c : PySem.Expr} {a b : List Stmt} {p : Pos} {env : Env} {Q : Flow → Shared → Prop} {E : Value → Shared → Prop} {s : Shared} (h : IfStop w A c a b p env Q E s) : wpAny (MD w) A (exec (.If c a b p) env) Q E s := h
/-- a list of rows under the name found -/
noncomputable def RowsSt (g : Heap) (L : Addr) (m1 : Str → Option Value) (rows : List Row) (s₀ : Shared) (f : Flow) (s' : Shared) : Prop :=
  f = .next ∧ ∃ h' tk' Fd us n, s' = { s₀ with heap := h', toks := tk' } ∧ Fr g L h' (fun y => if y = Str.ofString "found" then some (.ref Fd) else m1 y) ∧ h'.get? Fd = some (listOf (List.toArray us) n) ∧ g.get? Fd = none ∧ RowsIn (IsTup h') us rows ∧ Keep [] L s₀.heap h'
theorem allLt_mem {d : Addr} : ∀ {l : List (Addr × Obj)}, AllLt d l → ∀ p ∈ l, p.1 < d
  | [], _, _, h => nomatch h
  | _ :: _, x, p, h => by
    rcases List.mem_cons.mp h with rfl | h
    · exact x.1
    · exact allLt_mem x.2 p h
theorem off_of {d Fd Pd : Addr} {o : Obj} {l : List (Addr × Obj)} (h : Pd < d ∧ AllLt d l) (hm : (Fd, o) ∈ l) : d ∉ [Fd, Pd] := fun q => by
  simp only [List.mem_cons, List.not_mem_nil, or_false] at q
  rcases q with q | q
  · have := allLt_mem h.2 _ hm
    dsimp only at this
    rw [q] at this
    exact absurd this (Nat.lt_irrefl _)
  · have := h.1
    rw [q] at this
    exact absurd this (Nat.lt_irrefl _)
/-- the state while declarations are paired -/
noncomputable def DeclSt (w : World) (g : Heap) (m0 : Str → Option Value) (Fd Pd : Addr) (rows : List Row) (pr : Pr) (m : Str → Option Value) (h : Heap) : Prop :=
  VarsBut [Str.ofString "one", Str.ofString "half"] m0 m ∧ (∃ us n, h.get? Fd = some (listOf (List.toArray us) n) ∧ RowsIn (IsTup h) us rows) ∧ ∃ o kvs, h.get? Pd = some o ∧ o.IsDictOf (PySem.strKind PG w) kvs ∧ PrsAt g [Fd, Pd] h kvs pr
theorem pb_keep {g h h' : Heap} {X Y : List Addr} (k : ∀ b o, b ∉ Y → h.get? b = some o → h'.get? b = some o) (hY : ∀ b ∈ Y, b ∈ X ∨ ∀ us n, h.get? b ≠ some (listOf us n)) : ∀ v p, PBAt g X h v p → PBAt g X h' v p := by
  intro v p hII
  refine ex2 hII ?_
  clear hII
  intro a n
  intro hII
  refine an4 hII ?_
  clear hII
  intro eqO1
  subst eqO1
  intro ha hg e
  refine ⟨a, n, rfl, ha, hg, k _ _ (fun q => ?_) e⟩
  rcases hY a q with x | x
  · exact ha x
  · exact x _ _ e
theorem nolist_old {h : Heap} {I : Addr} {c : String} (old : OldIter c h I) (hc : c ≠ "list") : ∀ us n, h.get? I ≠ some (listOf us n) := fun us n e => hc (Value.type.inj (old _ e)).symm
theorem nolist_ns {g h : Heap} {L : Addr} {m : Str → Option Value} (F : Fr g L h m) : ∀ us n, h.get? L ≠ some (listOf us n) := fun us n e => neL F e rfl
theorem decl_stab {w : World} {g : Heap} {L I Fd Pd : Addr} {m0 m₁ m₂ : Str → Option Value} {rows : List Row} {pr : Pr} {h h' : Heap} (x : DeclSt w g m0 Fd Pd rows pr m₁ h) (F : Fr g L h m₁) (hm : ∀ y, y ≠ Str.ofString "one" → m₂ y = m₁ y) (old : OldIter "tuple_iterator" h I) (hPL : Pd ≠ L) (k : ∀ b o, b ≠ I → b ≠ L → h.get? b = some o → h'.get? b = some o) : DeclSt w g m0 Fd Pd rows pr m₂ h' := by
  obtain ⟨V, ⟨us, n, e1, r⟩, o, kvs, e2, D, P⟩ := x
  have n1 : Fd ≠ I := fun q => nolist_old old (by decide) _ _ (q ▸ e1)
  have n2 : Pd ≠ I := fun q => by
    have := old _ (q ▸ e2)
    rw [dict_cls D] at this
    exact absurd (Value.type.inj this) (by decide)
  have kk : ∀ b o, b ∉ [I, L] → h.get? b = some o → h'.get? b = some o := fun b o hb e => k b o (fun q => hb (by simp [q])) (fun q => hb (by simp [q])) e
  refine ⟨fun y hy => (hm y (fun q => hy (by rw [q]; exact .head _))).trans (V y hy), ⟨us, n, k _ _ n1 (neL F e1) e1, r.mono (tup_butX kk (fun b hb => ?_))⟩, o, kvs, k _ _ n2 hPL e2, D, P.mono (pb_keep kk (fun b hb => ?_))⟩
  · rcases List.mem_cons.mp hb with q | q
    · rw [q]; exact notup_old old (by decide)
    · rw [List.mem_singleton.mp q]; exact notup_ns F.ns
  · rcases List.mem_cons.mp hb with q | q
    · rw [q]; exact .inr (nolist_old old (by decide))
    · rw [List.mem_singleton.mp q]; exact .inr (nolist_ns F)
theorem fr_decl {g : Heap} {L : Addr} {h : Heap} {m0 m₁ : Str → Option Value} {v : Value} (F : Fr g L h (fun y => if y = Str.ofString "one" then some v else m₁ y)) (V : VarsBut [Str.ofString "one", Str.ofString "half"] m0 m₁) :
    Fr g L h (fun y => if y = Str.ofString "one" then some v else if y = Str.ofString "half" then m₁ (Str.ofString "half") else m0 y) := by
  have e : (fun y => if y = Str.ofString "one" then some v else if y = Str.ofString "half" then m₁ (Str.ofString "half") else m0 y) = fun y => if y = Str.ofString "one" then some v else m₁ y := by
    funext y
    by_cases q1 : y = Str.ofString "one"
    · rw [if_pos q1, if_pos q1]
    · rw [if_neg q1, if_neg q1]
      by_cases q2 : y = Str.ofString "half"
      · rw [if_pos q2, q2]
      · rw [if_neg q2]
        exact (V y (by simp only [List.mem_cons, List.not_mem_nil, or_false, not_or]; exact ⟨q1, q2⟩)).symm
  rw [e]; exact F
theorem decl_turn {w : World} {g h5 h' : Heap} {L Fd Pd : Addr} {m0 m' : Str → Option Value} {us us' : List Value} {n' : Nat} {rows new : List Row} {o' : Obj} {kvs kvs' : List (Str × Value)} {pr pr' : Pr} {s : Shared} {tk' : Nat} {I : List (Addr × Obj)}
    (kb : ∀ b o, g.get? b = some o → h5.get? b = some o) (nL : ∀ o, h5.get? L = some o → NoTup o) (nl : ∀ us n, h5.get? L ≠ some (listOf us n)) (hMt : ∀ b ∈ [Fd, Pd], ∀ o, h5.get? b = some o → NoTup o) (F : Fr g L h' m') (V : VarsBut [Str.ofString "one", Str.ofString "half"] m0 m') (N : News g L h' I) (hs : ∀ p ∈ snap g L h5 [Fd, Pd], p ∈ I)
    (r : RowsIn (IsTup h5) us rows) (m1 : (Fd, listOf (List.toArray (us ++ us')) n') ∈ I) (r' : RowsIn (IsTup h') us' new) (m2 : (Pd, o') ∈ I) (D : o'.IsDictOf (PySem.strKind PG w) kvs') (P : PrsAt g [Fd, Pd] h5 kvs pr) (up : PrsAt g [Fd, Pd] h' kvs pr → PrsAt g [Fd, Pd] h' kvs' pr') :
    TurnH g L [Fd, Pd] (fun m h => DeclSt w g m0 Fd Pd (rows ++ new) pr' m h) h5 s .next { s with heap := h', toks := tk' } := by
  have K : Keep [Fd, Pd] L h5 h' := keep_by kb F N hs
  have kk : ∀ b o, b ∉ L :: [Fd, Pd] → h5.get? b = some o → h'.get? b = some o := fun b o hb e => K b o (fun q => hb (List.mem_cons_of_mem _ q)) (fun q => hb (by rw [q]; exact .head _)) e
  refine TurnH.intro F ⟨V, ⟨us ++ us', n', (N _ m1).1, rows_app (r.mono (tup_butX kk (fun b hb => ?_))) r'⟩, o', kvs', (N _ m2).1, D, up (P.mono (pb_keep kk (fun b hb => ?_)))⟩ K
  · rcases List.mem_cons.mp hb with q | q
    · rw [q]; exact nL
    · exact hMt b q
  · rcases List.mem_cons.mp hb with q | q
    · rw [q]; exact .inr nl
    · exact .inl q
/-- the dict of pairs -/
noncomputable def PairSt (w : World) (g : Heap) (L : Addr) (m1 : Str → Option Value) (Pd : Addr) (X : List Addr) (pr : Pr) (s₀ : Shared) (f : Flow) (s' : Shared) : Prop :=
  f = .next ∧ ∃ h' tk' o' kvs', s' = { s₀ with heap := h', toks := tk' } ∧ Fr g L h' m1 ∧ h'.get? Pd = some o' ∧ o'.IsDictOf (PySem.strKind PG w) kvs' ∧ PrsAt g X h' kvs' pr ∧ Keep [Pd] L s₀.heap h'
theorem pair_join {w : World} {A : Around} {c : PySem.Expr} {a b : List Stmt} {p : Pos} {env : Env} {Q : Flow → Shared → Prop} {E : Value → Shared → Prop} {s : Shared} {g : Heap} {L : Addr} {m1 : Str → Option Value} (Pd : Addr) (X : List Addr) (pr : Pr) (F : Fr g L s.heap m1) (h : wpAny (MD w) A (exec (.If c a b p) env) (PairSt w g L m1 Pd X pr s) E s)
    (k : ∀ h' tk' o' kvs', Fr g L h' m1 → h'.get? Pd = some o' → o'.IsDictOf (PySem.strKind PG w) kvs' → PrsAt g X h' kvs' pr → Keep [Pd] L s.heap h' → Q .next { s with heap := h', toks := tk' }) : IfStop w A c a b p env Q E s :=
  wpAny_mono h (fun f s' hq => by
    refine an2 hq ?_
    clear hq
    intro eqO1
    subst eqO1
    intro hII
    refine ex4 hII ?_
    clear hII
    intro h' tk' o' kvs'
    intro hII
    refine an6 hII ?_
    clear hII
    intro eqO2
    subst eqO2
    intro x1 x2 x3 x4 x5
    exact k h' tk' o' kvs' x1 x2 x3 x4 x5) fun _ _ e => e
theorem found_join {w : World} {A : Around} {c : PySem.Expr} {a b : List Stmt} {p : Pos} {env : Env} {Q : Flow → Shared → Prop} {E : Value → Shared → Prop} {s : Shared} {g : Heap} {L : Addr} {m1 : Str → Option Value} (rows : List Row) (F : Fr g L s.heap m1) (h : wpAny (MD w) A (exec (.If c a b p) env) (RowsSt g L m1 rows s) E s)
    (k : ∀ h' tk' Fd us n, Fr g L h' (fun y => if y = Str.ofString "found" then some (.ref Fd) else m1 y) → h'.get? Fd = some (listOf (List.toArray us) n) → g.get? Fd = none → RowsIn (IsTup h') us rows → Keep [] L s.heap h' → Q .next { s with heap := h', toks := tk' }) : IfStop w A c a b p env Q E s :=
  wpAny_mono h (fun f s' hq => by
    refine an2 hq ?_
    clear hq
    intro eqO1
    subst eqO1
    intro hII
    refine ex5 hII ?_
    clear hII
    intro h' tk' Fd us n
    intro hII
    refine an6 hII ?_
    clear hII
    intro eqO2
    subst eqO2
    intro x1 x2 x3 x4 x5
    exact k h' tk' Fd us n x1 x2 x3 x4 x5) fun _ _ e => e
theorem fr_found {g h : Heap} {L Fd : Addr} {m1 : Str → Option Value} (F : Fr g L h m1) (e : m1 (Str.ofString "found") = some (.ref Fd)) : Fr g L h (fun y => if y = Str.ofString "found" then some (.ref Fd) else m1 y) := by
  have : (fun y => if y = Str.ofString "found" then some (.ref Fd) else m1 y) = m1 := by
    funext y
    by_cases q : y = Str.ofString "found"
    · rw [if_pos q, q, e]
    · rw [if_neg q]
  rw [this]; exact F
theorem seen0 {t1 t2 : Tok} : SeenAt [(Str.ofString "v", Value.str (Str.ofString "var") t1), (Str.ofString "n", .str (Str.ofString "net") t2)] sig0 := fun k => by
  unfold sig0
  have h12 : ¬ Str.ofString "v" = Str.ofString "n" := by decide
  by_cases q1 : k = Str.ofString "v"
  · subst q1
    simp [valueAt]
  · by_cases q2 : k = Str.ofString "n"
    · subst q2
      rw [if_neg q1, if_pos rfl]
      exact ⟨t2, by simp [valueAt, h12]⟩
    · rw [if_neg q1, if_neg q2]
      have q3 : ¬ Str.ofString "v" = k := fun x => q1 x.symm
      have q4 : ¬ Str.ofString "n" = k := fun x => q2 x.symm
      simp [valueAt, q3, q4]
theorem seen_dict {w : World} {o : Obj} {t1 t2 t3 t4 : Tok} (D : o.IsDictOf (PySem.strKind PG w) (strPairs [(.str (Str.ofString "v") t3, .str (Str.ofString "var") t1), (.str (Str.ofString "n") t4, .str (Str.ofString "net") t2)])) :
    ∃ kvs, o.IsDictOf (PySem.strKind PG w) kvs ∧ SeenAt kvs sig0 ∧ kvs.length = 2 := ⟨_, D, seen0, rfl⟩
theorem good0 : GoodS sig0 := fun k c e => by
  unfold sig0 at e
  split at e
  · cases e; exact .inl rfl
  · split at e
    · cases e; exact .inr (.inl rfl)
    · cases e
theorem oExt_len (σ : Str → Option Str) (e : Option (Idn × Idn)) : (oExt σ e).length ≤ 2 := by
  have lx : ∀ d, (oExpr σ d).length ≤ 1 := fun d => by
    unfold oExpr
    cases σ d.name <;> simp
  cases e with
  | none => exact Nat.zero_le _
  | some p =>
    obtain ⟨x, y⟩ := p
    have h1 := lx x
    have h2 := lx y
    simp only [oExt, List.length_append]
    omega
theorem led3 {g h5 : Heap} {L Fd Pd a' : Addr} {m : Str → Option Value} {p q : Bool} {l o : Obj} {nn : Nat} (F : Fr g L h5 m) (N : News g L h5 ((Fd, l) :: (Pd, o) :: snap g L h5 [Fd, Pd])) (hA : h5.get? a' = some (listOf #[.bool p, .bool q] nn)) (ha : a' ∉ [Fd, Pd]) (hg : g.get? a' = none) :
    News g L h5 ((Fd, l) :: (Pd, o) :: (a', listOf #[.bool p, .bool q] nn) :: snap g L h5 [Fd, Pd]) ∧ a' ≠ Fd ∧ a' ≠ Pd ∧ (a', listOf #[.bool p, .bool q] nn) ∈ snap g L h5 [Fd, Pd] := by
  simp only [List.mem_cons, List.not_mem_nil, or_false, not_or] at ha
  have hm : (a', listOf #[.bool p, .bool q] nn) ∈ snap g L h5 [Fd, Pd] := mem_snap hA (neL F hA) (by simp [ha.1, ha.2]) hg
  refine ⟨fun x hx => ?_, ha.1, ha.2, hm⟩
  rcases List.mem_cons.mp hx with rfl | hx
  · exact N _ (.head _)
  · rcases List.mem_cons.mp hx with rfl | hx
    · exact N _ (.tail _ (.head _))
    · rcases List.mem_cons.mp hx with rfl | hx
      · exact N _ (.tail _ (.tail _ hm))
      · exact N _ (.tail _ (.tail _ hx))
theorem dict_copyL {w : World} {A : Around} {E : Value → Shared → Prop} {s : Shared} {h₀ : Heap} {L d : Addr} {m : Str → Option Value} {o : Obj} {kvs : List (Str × Value)} {news : List (Addr × Obj)} {Q : Value → Shared → Prop}
    (F : Fr h₀ L s.heap m) (N : News h₀ L s.heap news) (ho : (d, o) ∈ news) (hd : o.IsDictOf (PySem.strKind PG w) kvs) (lo : (d == sysModules) = false) (hsz : kvs.length ≤ sizeLine)
    (h : ∀ D o' h', Fr h₀ L h' m → News h₀ L h' ((D, o') :: news) → (∀ p ∈ news, p.1 < D) → h₀.objs.size < D → o'.IsDictOf (PySem.strKind PG w) kvs → Q (.ref D) { s with heap := h' }) :
    wpAny (model PG w) A (call (.type "dict") [.ref d]) Q E s := by
  refine kt_call_dict lo (Heap.dictOf_iff.mpr ⟨o, (N _ ho).1, hd⟩ : s.heap.DictOf (PySem.strKind PG w) d kvs) hsz fun h' hD hs => ?_
  obtain ⟨o', eo, hd'⟩ := Heap.dictOf_iff.mp hD
  have up : ∀ b o, s.heap.get? b = some o → h'.get? b = some o := fun b o e => hs.extBut b o (Nat.ne_of_lt (Heap.lt_size e)) (Heap.get?_push_of_some _ e)
  refine h _ o' h' (F.keeps up) (fun p hp => ?_) (fun p hp => Heap.lt_size (N p hp).1) (Nat.lt_of_le_of_lt F.above F.ns.lt) hd'
  rcases List.mem_cons.mp hp with rfl | hp
  · exact ⟨eo, Ne.symm (Nat.ne_of_lt F.ns.lt), next_is_new F⟩
  · exact ⟨up _ _ (N p hp).1, (N p hp).2⟩
/-- list(..) at which the walk stops -/
noncomputable def ListStop (w : World) (A : Around) (a : Addr) (Q E : Value → Shared → Prop) (s : Shared) : Prop := wpAny (MD w) A (call (.type "list") [.ref a]) Q E s
theorem list_stop {w : World} {A : Around} {a : Addr} {Q E : Value → Shared → Prop} {s : Shared} (h : ListStop w A a Q E s) : wpAny (MD w) A (call (.type "list") [.ref a]) Q E s := h
theorem fr_some {g h : Heap} {L : Addr} {m m' : Str → Option Value} (F : Fr g L h m) (e : ∀ y, m y = m' y) : Fr g L h m' := (funext e : m = m') ▸ F
theorem fr_ones {g : Heap} {L : Addr} {h : Heap} {m0 m₁ : Str → Option Value} (F : Fr g L h m₁) (V : VarsBut [Str.ofString "one", Str.ofString "half"] m0 m₁) :
    Fr g L h (fun y => if y = Str.ofString "one" then m₁ (Str.ofString "one") else if y = Str.ofString "half" then m₁ (Str.ofString "half") else m0 y) :=
  fr_some F fun y => by
    by_cases q1 : y = Str.ofString "one"
    · rw [if_pos q1, q1]
    · rw [if_neg q1]
      by_cases q2 : y = Str.ofString "half"
      · rw [if_pos q2, q2]
      · rw [if_neg q2]
        exact V y (by simp only [List.mem_cons, List.not_mem_nil, or_false, not_or]; exact ⟨q1, q2⟩)
theorem fr_name {g : Heap} {L : Addr} {h : Heap} {m0 m₁ : Str → Option Value} {v : Value} (F : Fr g L h (fun y => if y = Str.ofString "name" then some v else m₁ y)) (V : VarsBut [Str.ofString "name"] m0 m₁) :
    Fr g L h (fun y => if y = Str.ofString "name" then some v else m0 y) :=
  fr_some F fun y => by
    by_cases q1 : y = Str.ofString "name"
    · rw [if_pos q1, if_pos q1]
    · rw [if_neg q1, if_neg q1]
      exact V y (by simpa using q1)
theorem fr_name0 {g : Heap} {L : Addr} {h : Heap} {m0 m₁ : Str → Option Value} (F : Fr g L h m₁) (V : VarsBut [Str.ofString "name"] m0 m₁) :
    Fr g L h (fun y => if y = Str.ofString "name" then m₁ (Str.ofString "name") else m0 y) :=
  fr_some F fun y => by
    by_cases q1 : y = Str.ofString "name"
    · rw [if_pos q1, q1]
    · rw [if_neg q1]
      exact V y (by simpa using q1)
theorem fr_na {g : Heap} {L : Addr} {h : Heap} {m0 m₁ : Str → Option Value} {v u : Value} (F : Fr g L h (fun y => if y = Str.ofString "at" then some v else if y = Str.ofString "name" then some u else m₁ y)) (V : VarsBut [Str.ofString "name", Str.ofString "at"] m0 m₁) :
    Fr g L h (fun y => if y = Str.ofString "at" then some v else if y = Str.ofString "name" then some u else m0 y) :=
  fr_some F fun y => by
    by_cases q1 : y = Str.ofString "at"
    · rw [if_pos q1, if_pos q1]
    · rw [if_neg q1, if_neg q1]
      by_cases q2 : y = Str.ofString "name"
      · rw [if_pos q2, if_pos q2]
      · rw [if_neg q2, if_neg q2]
        exact V y (by simp only [List.mem_cons, List.not_mem_nil, or_false, not_or]; exact ⟨q2, q1⟩)
theorem fr_na0 {g : Heap} {L : Addr} {h : Heap} {m0 m₁ : Str → Option Value} (F : Fr g L h m₁) (V : VarsBut [Str.ofString "name", Str.ofString "at"] m0 m₁) :
    Fr g L h (fun y => if y = Str.ofString "at" then m₁ (Str.ofString "at") else if y = Str.ofString "name" then m₁ (Str.ofString "name") else m0 y) :=
  fr_some F fun y => by
    by_cases q1 : y = Str.ofString "at"
    · rw [if_pos q1, q1]
    · rw [if_neg q1]
      by_cases q2 : y = Str.ofString "name"
      · rw [if_pos q2, q2]
      · rw [if_neg q2]
        exact V y (by simp only [List.mem_cons, List.not_mem_nil, or_false, not_or]; exact ⟨q2, q1⟩)
theorem var_na {m0 : Str → Option Value} {v u : Option Value} : VarsBut [Str.ofString "name", Str.ofString "at"] m0 (fun y => if y = Str.ofString "at" then v else if y = Str.ofString "name" then u else m0 y) := fun y hy => by
  simp only [List.mem_cons, List.not_mem_nil, or_false, not_or] at hy
  simp only [if_neg hy.1, if_neg hy.2]
theorem fr_of {g : Heap} {L : Addr} {h : Heap} {m0 m₁ : Str → Option Value} {v : Value} {Fi : Addr} (F : Fr g L h (fun y => if y = Str.ofString "one" then some v else m₁ y)) (V : VarsBut [Str.ofString "one", Str.ofString "found"] m0 m₁) (e1 : m₁ (Str.ofString "found") = some (.ref Fi)) :
    Fr g L h (fun y => if y = Str.ofString "one" then some v else if y = Str.ofString "found" then some (.ref Fi) else m0 y) :=
  fr_some F fun y => by
    by_cases q1 : y = Str.ofString "one"
    · rw [if_pos q1, if_pos q1]
    · rw [if_neg q1, if_neg q1]
      by_cases q2 : y = Str.ofString "found"
      · rw [if_pos q2, q2, e1]
      · rw [if_neg q2]
        exact V y (by simp only [List.mem_cons, List.not_mem_nil, or_false, not_or]; exact ⟨q1, q2⟩)
theorem fr_of0 {g : Heap} {L : Addr} {h : Heap} {m0 m₁ : Str → Option Value} {Fi : Addr} (F : Fr g L h m₁) (V : VarsBut [Str.ofString "one", Str.ofString "found"] m0 m₁) (e1 : m₁ (Str.ofString "found") = some (.ref Fi)) :
    Fr g L h (fun y => if y = Str.ofString "one" then m₁ (Str.ofString "one") else if y = Str.ofString "found" then some (.ref Fi) else m0 y) :=
  fr_some F fun y => by
    by_cases q1 : y = Str.ofString "one"
    · rw [if_pos q1, q1]
    · rw [if_neg q1]
      by_cases q2 : y = Str.ofString "found"
      · rw [if_pos q2, q2, e1]
      · rw [if_neg q2]
        exact V y (by simp only [List.mem_cons, List.not_mem_nil, or_false, not_or]; exact ⟨q1, q2⟩)
/-- the names of variables are put into the dict of names -/
noncomputable def OwnSt (w : World) (On : Addr) (ks : List Str) (h : Heap) : Prop := ∃ o kvs, h.get? On = some o ∧ o.IsDictOf (PySem.strKind PG w) kvs ∧ SeenAt kvs (oSigma ks []) ∧ kvs.length ≤ 2 + ks.length
theorem own_snoc (ks : List Str) (k : Str) : ∀ j, (if j = k then some (Str.ofString "var") else oSigma ks [] j) = oSigma (ks ++ [k]) [] j := fun j => by
  unfold oSigma
  by_cases q : j = k
  · simp [q]
  · by_cases q2 : j ∈ ks
    · simp [q, q2]
    · simp [q, q2]
theorem own_nil : ∀ j, sig0 j = oSigma [] [] j := fun j => by simp [oSigma]
theorem sig_snoc (ks : List Str) (ls : List (Str × Int)) (k : Str) (i : Int) (h : k ∉ ks) : ∀ j, (if j = k then some (Str.ofString "block") else oSigma ks ls j) = oSigma ks (ls ++ [(k, i)]) j := fun j => by
  unfold oSigma
  by_cases q : j = k
  · subst q; simp [h]
  · rw [if_neg q]
    by_cases q2 : j ∈ ks
    · rw [if_pos q2, if_pos q2]
    · rw [if_neg q2, if_neg q2, List.map_append, List.map_cons, List.map_nil]
      by_cases q3 : j ∈ ls.map (·.1)
      · rw [if_pos q3, if_pos (List.mem_append_left _ q3)]
      · rw [if_neg q3, if_neg (by simp only [List.mem_append, List.mem_singleton, not_or]; exact ⟨q3, q⟩)]
theorem sig_old (ks : List Str) (ls : List (Str × Int)) (k : Str) (i : Int) (h : k ∈ ks ++ ls.map (·.1)) : ∀ j, oSigma ks ls j = oSigma ks (ls ++ [(k, i)]) j := fun j => by
  unfold oSigma
  by_cases q2 : j ∈ ks
  · simp [q2]
  · rw [if_neg q2, if_neg q2, List.map_append, List.map_cons, List.map_nil]
    by_cases q : j = k
    · subst q
      have : j ∈ ls.map (·.1) := by simpa [q2] using h
      rw [if_pos this, if_pos (List.mem_append_left _ this)]
    · by_cases q3 : j ∈ ls.map (·.1)
      · rw [if_pos q3, if_pos (List.mem_append_left _ q3)]
      · rw [if_neg q3, if_neg (by simp only [List.mem_append, List.mem_singleton, not_or]; exact ⟨q3, q⟩)]
theorem good_sigma (ks : List Str) (ls : List (Str × Int)) : GoodS (oSigma ks ls) := fun k c e => by
  unfold oSigma at e
  split at e
  · cases e; exact .inl rfl
  · split at e
    · cases e; exact .inr (.inr rfl)
    · exact good0 k c e
theorem dup_snoc (met : List Str) (ps : List (Str × Int)) (k : Str) (j : Int) : oDup met (ps ++ [(k, j)]) = oDup met ps ++ (if k ∈ met ++ ps.map (·.1) then [⟨Str.ofString "duplicate_label", j, k⟩] else []) := by
  rw [oDup_append]
  simp only [oDup, List.append_nil]
/-- labels of the body: rows found, names met, names known -/
noncomputable def BodySt (w : World) (Fd Mt On : Addr) (rows : List Row) (ks : List Str) (ps : List (Str × Int)) (h : Heap) : Prop :=
  (∃ us n, h.get? Fd = some (listOf (List.toArray us) n) ∧ RowsIn (IsTup h) us (rows ++ oDup ks ps)) ∧ (∃ ms n mk, h.get? Mt = some (listOf (List.toArray ms) n) ∧ StrsAre ms mk ∧ (∀ k, k ∈ mk ↔ k ∈ ks ++ ps.map (·.1)) ∧ mk.length ≤ ks.length + ps.length) ∧
  ∃ o kvs, h.get? On = some o ∧ o.IsDictOf (PySem.strKind PG w) kvs ∧ SeenAt kvs (oSigma ks ps) ∧ kvs.length ≤ 2 + ks.length + ps.length
theorem BodySt.keep {w : World} {Fd Mt On : Addr} {rows : List Row} {ks : List Str} {ps : List (Str × Int)} {h h' : Heap} {X : List Addr} (x : BodySt w Fd Mt On rows ks ps h) (hk : ∀ b o, b ∉ X → h.get? b = some o → h'.get? b = some o) (h1 : Fd ∉ X) (h2 : Mt ∉ X) (h3 : On ∉ X) (hX : ∀ b ∈ X, ∀ o, h.get? b = some o → NoTup o) : BodySt w Fd Mt On rows ks ps h' := by
  obtain ⟨⟨us, n, e1, r⟩, ⟨ms, n2, mk, e2, r2⟩, o, kvs, e3, r3⟩ := x
  exact ⟨⟨us, n, hk _ _ h1 e1, r.mono (tup_butX hk hX)⟩, ⟨ms, n2, mk, hk _ _ h2 e2, r2⟩, o, kvs, hk _ _ h3 e3, r3⟩
theorem body_stab {w : World} {g : Heap} {L I Fd Mt On : Addr} {m0 m₁ m₂ : Str → Option Value} {rows : List Row} {ks : List Str} {ps : List (Str × Int)} {h h' : Heap} (x : VarsBut [Str.ofString "name", Str.ofString "at"] m0 m₁ ∧ BodySt w Fd Mt On rows ks ps h) (F : Fr g L h m₁)
    (hm : ∀ y, y ≠ Str.ofString "name" → y ≠ Str.ofString "at" → m₂ y = m₁ y) (old : OldIter "list_iterator" h I) (hM : ∀ b ∈ [Fd, Mt, On], b ≠ L ∧ g.get? b = none) (k : ∀ b o, b ≠ I → b ≠ L → h.get? b = some o → h'.get? b = some o) : VarsBut [Str.ofString "name", Str.ofString "at"] m0 m₂ ∧ BodySt w Fd Mt On rows ks ps h' := by
  obtain ⟨V, x⟩ := x
  have y := x
  obtain ⟨⟨us, n, e1, r⟩, ⟨ms, n2, mk, e2, r2⟩, o, kvs, e3, r3, _⟩ := y
  have o1 : Fd ≠ I := fun q => nolist_old old (by decide) _ _ (q ▸ e1)
  have o2 : Mt ≠ I := fun q => nolist_old old (by decide) _ _ (q ▸ e2)
  have o3 : On ≠ I := fun q => by
    have := old _ (q ▸ e3)
    rw [dict_cls r3] at this
    exact absurd (Value.type.inj this) (by decide)
  have n1 := (hM Fd (by simp)).1
  have n2 := (hM Mt (by simp)).1
  have n3 := (hM On (by simp)).1
  refine ⟨fun y hy => (hm y (fun q => hy (by rw [q]; exact .head _)) (fun q => hy (by rw [q]; exact .tail _ (.head _)))).trans (V y hy), x.keep (X := [I, L]) (fun b o hb e => k b o (fun q => hb (by simp [q])) (fun q => hb (by simp [q])) e) (by simp [o1, n1]) (by simp [o2, n2]) (by simp [o3, n3]) (fun b hb => ?_)⟩
  rcases List.mem_cons.mp hb with q | q
  · rw [q]; exact notup_old old (by decide)
  · rw [List.mem_singleton.mp q]; exact notup_ns F.ns
theorem body_lt {w : World} {Fd Mt On : Addr} {rows : List Row} {ks : List Str} {ps : List (Str × Int)} {h : Heap} (x : BodySt w Fd Mt On rows ks ps h) : (∀ b ∈ [Fd, Mt, On], b < h.objs.size) ∧ (∀ b ∈ [Fd, Mt, On], ∀ o, h.get? b = some o → NoTup o) := by
  obtain ⟨⟨us, n, e1, r⟩, ⟨ms, n2, mk, e2, r2⟩, o, kvs, e3, r3, _⟩ := x
  refine ⟨fun b hb => ?_, fun b hb => ?_⟩
  · simp only [List.mem_cons, List.not_mem_nil, or_false] at hb
    rcases hb with q | q | q
    · rw [q]; exact Heap.lt_size e1
    · rw [q]; exact Heap.lt_size e2
    · rw [q]; exact Heap.lt_size e3
  · simp only [List.mem_cons, List.not_mem_nil, or_false] at hb
    rcases hb with q | q | q
    · rw [q]; exact notup_list e1
    · rw [q]; exact notup_list e2
    · rw [q]
      intro o' e' vs n' _ c
      rw [e3] at e'; cases e'
      exact dict_ne r3 c
/-- the state while rows of declarations are summed up -/
noncomputable def SumD (g : Heap) (m0 : Str → Option Value) (rows : List Row) (m : Str → Option Value) (h : Heap) : Prop :=
  VarsBut [Str.ofString "one", Str.ofString "found"] m0 m ∧ ∃ Fi us n, m (Str.ofString "found") = some (.ref Fi) ∧ h.get? Fi = some (listOf (List.toArray us) n) ∧ RowsIn (IsTup h) us rows ∧ g.get? Fi = none
theorem sumD_stab {g : Heap} {L I : Addr} {m0 m₁ m₂ : Str → Option Value} {rows : List Row} {h h' : Heap} (x : SumD g m0 rows m₁ h) (F : Fr g L h m₁) (hm : ∀ y, y ≠ Str.ofString "one" → m₂ y = m₁ y) (old : OldIter "tuple_iterator" h I) (k : ∀ b o, b ≠ I → b ≠ L → h.get? b = some o → h'.get? b = some o) : SumD g m0 rows m₂ h' := by
  refine an2 x ?_
  clear x
  intro V hII
  refine ex3 hII ?_
  clear hII
  intro Fi us n
  intro hII
  refine an4 hII ?_
  clear hII
  intro e1 e2 r e3
  have hI : Fi ≠ I := fun q => by
    have := old _ (q ▸ e2)
    exact absurd (Value.type.inj this) (by decide)
  refine ⟨fun y hy => (hm y (fun q => hy (by rw [q]; exact .head _))).trans (V y hy), Fi, us, n, (hm _ (by decide)).trans e1, k _ _ hI (neL F e2) e2, r.mono (tup_butX (X := [I, L]) (fun b o hb e => k b o (fun q => hb (by simp [q])) (fun q => hb (by simp [q])) e) (fun b hb => ?_)), e3⟩
  rcases List.mem_cons.mp hb with q | q
  · rw [q]; exact notup_old old (by decide)
  · rw [List.mem_singleton.mp q]; exact notup_ns F.ns
theorem keep_two {Fd Pd L : Addr} {h h' : Heap} {x y : Obj} (K : Keep [Fd, Pd] L h h') (a : h.get? Fd = some x) (a' : h'.get? Fd = some x) (b : h.get? Pd = some y) (b' : h'.get? Pd = some y) : Keep [] L h h' := fun c o _ hL e => by
  by_cases q : c = Fd
  · rw [q, a] at e; cases e; rw [q]; exact a'
  · by_cases q2 : c = Pd
    · rw [q2, b] at e; cases e; rw [q2]; exact b'
    · exact K c o (by simp [q, q2]) hL e
theorem own_stab {w : World} {L I On : Addr} {m0 m₁ m₂ : Str → Option Value} {ks : List Str} {h h' : Heap} (x : VarsBut [Str.ofString "name"] m0 m₁ ∧ OwnSt w On ks h) (hm : ∀ y, y ≠ Str.ofString "name" → m₂ y = m₁ y) (old : OldIter "dict_keyiterator" h I) (hL : On ≠ L) (k : ∀ b o, b ≠ I → b ≠ L → h.get? b = some o → h'.get? b = some o) :
    VarsBut [Str.ofString "name"] m0 m₂ ∧ OwnSt w On ks h' := by
  refine an2 x ?_
  clear x
  intro V hII
  refine ex2 hII ?_
  clear hII
  intro o kvs
  intro hII
  refine an3 hII ?_
  clear hII
  intro e D r
  refine ⟨fun y hy => (hm y (by simpa using hy)).trans (V y hy), o, kvs, k _ _ (fun q => ?_) hL e, D, r⟩
  have := old _ (q ▸ e)
  rw [dict_cls D] at this
  exact absurd (Value.type.inj this) (by decide)
theorem list3_news {g h : Heap} {L a b c : Addr} {x y z : Obj} (e1 : h.get? a = some x) (e2 : h.get? b = some y) (e3 : h.get? c = some z) (hM : ∀ d ∈ [a, b, c], d ≠ L ∧ g.get? d = none) : News g L h ((a, x) :: (b, y) :: (c, z) :: snap g L h [a, b, c]) := fun p hp => by
  rcases List.mem_cons.mp hp with rfl | hp
  · exact ⟨e1, hM _ (by simp)⟩
  · rcases List.mem_cons.mp hp with rfl | hp
    · exact ⟨e2, hM _ (by simp)⟩
    · rcases List.mem_cons.mp hp with rfl | hp
      · exact ⟨e3, hM _ (by simp)⟩
      · exact news_snap p hp
theorem fr_named {g h : Heap} {L : Addr} {m : Str → Option Value} (F : Fr g L h m) : ∃ m', m' = m ∧ Fr g L h m' := ⟨m, rfl, F⟩
theorem body_step {w : World} {g h h' : Heap} {L Fd Mt On : Addr} {m' : Str → Option Value} {us us' ms' : List Value} {n1 n2 : Nat} {o' : Obj} {kvs' : List (Str × Value)} {rows : List Row} {ks mk' : List Str} {ps : List (Str × Int)} {k : Str} {j : Int} {I : List (Addr × Obj)}
    (kb : ∀ b o, g.get? b = some o → h.get? b = some o) (nL : ∀ o, h.get? L = some o → NoTup o) (hM : ∀ b ∈ [Fd, Mt, On], ∀ o, h.get? b = some o → NoTup o) (F : Fr g L h' m') (N : News g L h' I) (hs : ∀ p ∈ snap g L h [Fd, Mt, On], p ∈ I)
    (r : RowsIn (IsTup h) us (rows ++ oDup ks ps)) (m1 : (Fd, listOf (List.toArray (us ++ us')) n1) ∈ I) (r' : RowsIn (IsTup h') us' (if k ∈ ks ++ ps.map (·.1) then [⟨Str.ofString "duplicate_label", j, k⟩] else []))
    (m2 : (Mt, listOf (List.toArray ms') n2) ∈ I) (r2 : StrsAre ms' mk') (r2m : ∀ x, x ∈ mk' ↔ x ∈ ks ++ (ps ++ [(k, j)]).map (·.1)) (r2l : mk'.length ≤ ks.length + (ps ++ [(k, j)]).length)
    (m3 : (On, o') ∈ I) (D : o'.IsDictOf (PySem.strKind PG w) kvs') (r4 : SeenAt kvs' (oSigma ks (ps ++ [(k, j)]))) (r5 : kvs'.length ≤ 2 + ks.length + (ps ++ [(k, j)]).length) :
    BodySt w Fd Mt On rows ks (ps ++ [(k, j)]) h' ∧ Keep [Fd, Mt, On] L h h' := by
  have K := keep_by kb F N hs
  refine ⟨⟨⟨us ++ us', n1, (N _ m1).1, ?_⟩, ⟨ms', n2, mk', (N _ m2).1, r2, r2m, r2l⟩, o', kvs', (N _ m3).1, D, r4, r5⟩, K⟩
  rw [dup_snoc, ← List.append_assoc]
  exact rows_app (r.mono (tup_butX (X := L :: [Fd, Mt, On]) (fun b o hb e => K b o (fun q => hb (List.mem_cons_of_mem _ q)) (fun q => hb (by rw [q]; exact .head _)) e) (fun b hb => by
    rcases List.mem_cons.mp hb with q | q
    · rw [q]; exact nL
    · exact hM b q))) r'
theorem tupX {h h' : Heap} {L : Addr} {X : List Addr} (K : Keep X L h h') (nL : ∀ o, h.get? L = some o → NoTup o) (hX : ∀ b ∈ X, ∀ o, h.get? b = some o → NoTup o) : ∀ a vs, IsTup h a vs → IsTup h' a vs :=
  tup_butX (X := L :: X) (fun b o hb e => K b o (fun q => hb (List.mem_cons_of_mem _ q)) (fun q => hb (by rw [q]; exact .head _)) e) (fun b hb => by
    rcases List.mem_cons.mp hb with q | q
    · rw [q]; exact nL
    · exact hX b q)
theorem notup_dict {w : World} {h : Heap} {a : Addr} {o : Obj} {kvs : List (Str × Value)} (e : h.get? a = some o) (D : o.IsDictOf (PySem.strKind PG w) kvs) : ∀ o, h.get? a = some o → NoTup o := by
  intro o' e' vs n' _ c
  rw [e] at e'; cases e'
  exact dict_ne D c
theorem keep_three {a b c L : Addr} {h h' : Heap} {x y z : Obj} (K : Keep [a, b, c] L h h') (e1 : h.get? a = some x) (e1' : h'.get? a = some x) (e2 : h.get? b = some y) (e2' : h'.get? b = some y) (e3 : h.get? c = some z) (e3' : h'.get? c = some z) : Keep [] L h h' := fun d o _ hL e => by
  by_cases q : d = a
  · rw [q, e1] at e; cases e; rw [q]; exact e1'
  · by_cases q2 : d = b
    · rw [q2, e2] at e; cases e; rw [q2]; exact e2'
    · by_cases q3 : d = c
      · rw [q3, e3] at e; cases e; rw [q3]; exact e3'
      · exact K d o (by simp [q, q2, q3]) hL e
theorem labs_len_sz (s : St) : (labs s).length ≤ sz s := labs_sz s
theorem mem_old {mk ks : List Str} {ps : List (Str × Int)} {k : Str} {j : Int} (hk : k ∈ ks ++ ps.map (·.1)) (h : ∀ x, x ∈ mk ↔ x ∈ ks ++ ps.map (·.1)) : ∀ x, x ∈ mk ↔ x ∈ ks ++ (ps ++ [(k, j)]).map (·.1) := fun x => by
  rw [h x, List.map_append, List.map_cons, List.map_nil, ← List.append_assoc]
  constructor
  · intro q; exact List.mem_append_left _ q
  · intro q
    rcases List.mem_append.mp q with q | q
    · exact q
    · rw [List.mem_singleton.mp q]; exact hk
theorem mem_new {mk ks : List Str} {ps : List (Str × Int)} {k : Str} {j : Int} (h : ∀ x, x ∈ mk ↔ x ∈ ks ++ ps.map (·.1)) : ∀ x, x ∈ mk ++ [k] ↔ x ∈ ks ++ (ps ++ [(k, j)]).map (·.1) := fun x => by
  rw [List.mem_append, h x, List.map_append, List.map_cons, List.map_nil, ← List.append_assoc, List.mem_append (s := ks ++ _)]
theorem oOpt_len (σ : Str → Option Str) (e : Option Idn) : (oOpt σ e).length ≤ 1 := by
  cases e with
  | none => exact Nat.zero_le _
  | some d =>
    show (oExpr σ d).length ≤ 1
    unfold oExpr
    cases σ d.name <;> simp
theorem oDecl_len (σ : Str → Option Str) (d : Decl) : (oDecl σ d).length ≤ 3 := by
  cases d with
  | port i dir ext k => exact Nat.le_trans (oExt_len σ ext) (by omega)
  | var i ext k fo =>
    have h1 := oExt_len σ ext
    have h2 := oOpt_len σ fo
    simp only [oDecl, List.length_append]
    omega
theorem flt_len (σ : Str → Option Str) (ds : List Decl) : (ds.flatMap (oDecl σ)).length ≤ 3 * ds.length := by
  induction ds with
  | nil => exact Nat.zero_le _
  | cons d r ih =>
    have := oDecl_len σ d
    rw [List.flatMap_cons, List.length_append, List.length_cons]
    omega
theorem var_of {m0 : Str → Option Value} {v u : Option Value} : VarsBut [Str.ofString "one", Str.ofString "found"] m0 (fun y => if y = Str.ofString "one" then v else if y = Str.ofString "found" then u else m0 y) := fun y hy => by
  simp only [List.mem_cons, List.not_mem_nil, or_false, not_or] at hy
  simp only [if_neg hy.1, if_neg hy.2]

theorem jar_split {h : Heap} {J C : Addr} {ns : List Int} {B : Nat} (x : JarIn h J C ns B) : ∃ a b p t1 t2 t3 n cs k, h.get? J = some (jarO C a b p t1 t2 t3 n) ∧ h.get? C = some (W.listOf (List.toArray cs) k) ∧ JarNum cs ns a b B := x
theorem listOf_inj {cs cs' : List Value} {k k' : Nat} (e : W.listOf (List.toArray cs) k = W.listOf (List.toArray cs') k') : cs = cs' := by
  have e3 := congrArg Obj.data e
  simp only [W.listOf, Data.seq.injEq] at e3
  simpa using e3.1
theorem jar_open {h : Heap} {J C : Addr} {ns : List Int} {B k : Nat} {cs : List Value} (x : JarIn h J C ns B) (eC : h.get? C = some (W.listOf (List.toArray cs) k)) : ∃ a b p t1 t2 t3 n, h.get? J = some (jarO C a b p t1 t2 t3 n) ∧ JarNum cs ns a b B := by
  refine ex9 x ?_
  clear x
  intro a b p t1 t2 t3 n cs' k'
  intro hII
  refine an3 hII ?_
  clear hII
  intro e1 e2 hn
  rw [eC] at e2
  have := listOf_inj (Option.some.inj e2)
  subst this
  exact ⟨a, b, p, t1, t2, t3, n, e1, hn⟩
theorem JarNum.mono {cs : List Value} {ns : List Int} {a b : Int} {B B' : Nat} (x : JarNum cs ns a b B) (h : B ≤ B') : JarNum cs ns a b B' := by
  refine an7 x ?_
  clear x
  intro x1 x2 x3 x4 x5 x6 x7
  exact ⟨x1, x2, x3, x4, x5, x6, by omega⟩
theorem jar_of {g h : Heap} {L J C : Addr} {m : Str → Option Value} {ns : List Int} {B k n : Nat} {cs : List Value} {a b p : Int} {t1 t2 t3 : Tok} {I : List (Addr × Obj)} (N : News g L h I) (hm : (J, jarO C a b p t1 t2 t3 n) ∈ I) (F : Fr g L h m) (eC : g.get? C = some (W.listOf (List.toArray cs) k)) (hn : JarNum cs ns a b B) : JarIn h J C ns B :=
  ⟨a, b, p, t1, t2, t3, n, cs, k, (N _ hm).1, F.keep _ _ eC, hn⟩
theorem made_end {g h' : Heap} {L' J C : Addr} {m' : Str → Option Value} {ns : List Int} {B k n tk' : Nat} {cs : List Value} {a b p : Int} {t1 t2 t3 : Tok} {I : List (Addr × Obj)} {P : TP → Value → Prop} {s₀ : Shared} {v : Value} (F : Fr g L' h' m') (N : News g L' h' I) (hm : (J, jarO C a b p t1 t2 t3 n) ∈ I) (eC : g.get? C = some (W.listOf (List.toArray cs) k)) (hn : JarNum cs ns a b B) (hP : P (IsTup h') v) :
    Made g J C ns B P s₀ v { s₀ with heap := h', toks := tk' } := ⟨_, _, _, _, rfl, F, jar_of N hm F eC hn, hP⟩
theorem tupJ {h h' : Heap} {L J C : Addr} {a b p : Int} {t1 t2 t3 : Tok} {n : Nat} (K : Keep [J] L h h') (nL : ∀ o, h.get? L = some o → NoTup o) (eJ : h.get? J = some (jarO C a b p t1 t2 t3 n)) : ∀ a vs, IsTup h a vs → IsTup h' a vs :=
  tupX K nL (fun b hb => by rw [List.mem_singleton.mp hb]; exact notup_list eJ)
theorem jar_ledN {g h h' : Heap} {L J : Addr} {o : Obj} {H : List (Addr × Obj)} (NO : News g L h H) (hc : ∀ x ∈ H, x.1 ≠ J) (K : Keep [J] L h h') (e : h'.get? J = some o) (hL : J ≠ L) (hg : g.get? J = none) : News g L h' (H ++ (J, o) :: snap g L h' [J]) := fun x hx => by
  rcases List.mem_append.mp hx with hx | hx
  · exact ⟨K _ _ (by simpa using hc x hx) (NO x hx).2.1 (NO x hx).1, (NO x hx).2⟩
  · exact jar_news e hL hg _ hx
theorem old_C {g h : Heap} {L J C : Addr} {m : Str → Option Value} {o : Obj} (e : g.get? C = some o) : ∀ h', Fr g L h' m → Keep [J] L h h' → h'.get? C = some o := fun _ F _ => F.keep _ _ e
theorem new_C {g h : Heap} {L J C : Addr} {m : Str → Option Value} {o : Obj} (n1 : C ≠ J) (n2 : C ≠ L) (e : h.get? C = some o) : ∀ h', Fr g L h' m → Keep [J] L h h' → h'.get? C = some o := fun _ _ K => K _ _ (by simpa using n1) n2 e
theorem no_one {J : Addr} : ∀ x ∈ ([] : List (Addr × Obj)), x.1 ≠ J := fun x hx => (List.not_mem_nil hx).elim
theorem one_ne {J : Addr} {p : Addr × Obj} (h : p.1 ≠ J) : ∀ x ∈ [p], x.1 ≠ J := fun x hx => by rw [List.mem_singleton.mp hx]; exact h
theorem one_of {g h : Heap} {L : Addr} {I : List (Addr × Obj)} {p : Addr × Obj} (N : News g L h I) (h1 : p ∈ I) : News g L h [p] := fun x hx => by
  rw [List.mem_singleton.mp hx]; exact N _ h1
section
variable {w : World} {f : Addr} {vs : List Value} {dz uz : Nat} {J C : Addr} {ns : List Int} {cost : Nat} {P : TP → Value → Prop}
/-- a call with the jar, its state handed back opened -/
theorem MakesAt.jar (K : MakesAt w f vs dz uz J C ns cost P) {mean : ExcName → Option Value} {mg mb : Str → Option Value} {dp un : Nat} {gd : Option (List Code)} {cn : Str} {sc : Scope} {a : Addr} {ccd : Value} {cl : List (Str × Addr)} {outer : List Env} {A₀ : Around} {base h₀ : Heap} {L : Addr} {m : Str → Option Value} {hs : Heap} {gs : Array GenState} {ds : Drawn} {ts : Nat} {os : OsState}
    {B k n : Nat} {cs : List Value} {a1 b1 p1 : Int} {t1 t2 t3 : Tok} {H news : List (Addr × Obj)} {R : Obj → Heap → List (Addr × Obj)} {Q E : Value → Shared → Prop}
    (N : News h₀ L hs news) (hm : (J, jarO C a1 b1 p1 t1 t2 t3 n) ∈ news) (NO : News h₀ L hs H) (hc : ∀ x ∈ H, x.1 ≠ J) (hR : ∀ o h, R o h = H ++ (J, o) :: snap h₀ L h [J]) (eC : hs.get? C = some (W.listOf (List.toArray cs) k)) (hn : JarNum cs ns a1 b1 B) (hC : ∀ h', Fr h₀ L h' m → Keep [J] L hs h' → h'.get? C = some (W.listOf (List.toArray cs) k)) (hJ0 : h₀.get? J = none) (hJL : J ≠ L) (hB : B + cost ≤ 100000)
    (Bw : Below A₀ base outer h₀ := by k_asm) (F : Fr h₀ L hs m := by k_asm) (X : (hd.heap_1 w.params).In h₀ := by k_asm) (T : Top PV LS mean mg mb h₀ := by k_asm) (hk : sc.kind = .function := by rfl) (hd : dp + dz < recursionLimit := by walk_at "Mine.ar") (hu : un + uz < cLine := by walk_at "Mine.ar")
    (ret : ∀ (v : Value) (h' : Heap) (tk' : Nat) (a' b' p' : Int) (t1' t2' t3' : Tok) (n' : Nat), P (IsTup h') v → Fr h₀ L h' m → Keep [J] L hs h' → News h₀ L h' (R (jarO C a' b' p' t1' t2' t3' n') h') → (∀ p ∈ snap h₀ L h' [J], p.1 ≠ J) → h'.get? J = some (jarO C a' b' p' t1' t2' t3' n') → h'.get? C = some (W.listOf (List.toArray cs) k) → JarNum cs ns a' b' (B + cost) → Q v ⟨h', gs, ds, tk', os⟩) :
    wpAny (MD w) (AR dp un gd cn sc L a ccd cl outer) (call (.ref f) vs) Q E ⟨hs, gs, ds, ts, os⟩ := by
  refine K.use Bw F X T hk hd hu ⟨a1, b1, p1, t1, t2, t3, n, cs, k, (N _ hm).1, eC, hn⟩ hJ0 hJL hB (fun v h' tk' F' k' J' P' => ?_)
  have eC' := hC _ F' k'
  refine ex7 (jar_open J' eC') ?_
  intro a' b' p' t1' t2' t3' n'
  intro hII
  refine an2 hII ?_
  clear hII
  intro eJ' hn'
  exact ret v h' tk' a' b' p' t1' t2' t3' n' P' F' k' (by rw [hR]; exact jar_ledN NO hc k' eJ' hJL hJ0) jar_off eJ' eC' hn'
theorem MakesAt.jarI {c : Int} (K : MakesAt w f vs dz uz J C ns cost (fun _ v => ∃ i t, v = .int i t ∧ 0 ≤ i ∧ i < c)) {mean : ExcName → Option Value} {mg mb : Str → Option Value} {dp un : Nat} {gd : Option (List Code)} {cn : Str} {sc : Scope} {a : Addr} {ccd : Value} {cl : List (Str × Addr)} {outer : List Env} {A₀ : Around} {base h₀ : Heap} {L : Addr} {m : Str → Option Value} {hs : Heap} {gs : Array GenState} {ds : Drawn} {ts : Nat} {os : OsState}
    {B k n : Nat} {cs : List Value} {a1 b1 p1 : Int} {t1 t2 t3 : Tok} {H news : List (Addr × Obj)} {R : Obj → Heap → List (Addr × Obj)} {Q E : Value → Shared → Prop}
    (N : News h₀ L hs news) (hm : (J, jarO C a1 b1 p1 t1 t2 t3 n) ∈ news) (NO : News h₀ L hs H) (hc : ∀ x ∈ H, x.1 ≠ J) (hR : ∀ o h, R o h = H ++ (J, o) :: snap h₀ L h [J]) (eC : hs.get? C = some (W.listOf (List.toArray cs) k)) (hn : JarNum cs ns a1 b1 B) (hC : ∀ h', Fr h₀ L h' m → Keep [J] L hs h' → h'.get? C = some (W.listOf (List.toArray cs) k)) (hJ0 : h₀.get? J = none) (hJL : J ≠ L) (hB : B + cost ≤ 100000)
    (Bw : Below A₀ base outer h₀ := by k_asm) (F : Fr h₀ L hs m := by k_asm) (X : (hd.heap_1 w.params).In h₀ := by k_asm) (T : Top PV LS mean mg mb h₀ := by k_asm) (hk : sc.kind = .function := by rfl) (hd : dp + dz < recursionLimit := by walk_at "Mine.ar") (hu : un + uz < cLine := by walk_at "Mine.ar")
    (ret : ∀ (i : Int) (t : Tok) (h' : Heap) (tk' : Nat) (a' b' p' : Int) (t1' t2' t3' : Tok) (n' : Nat), 0 ≤ i → i < c → Fr h₀ L h' m → Keep [J] L hs h' → News h₀ L h' (R (jarO C a' b' p' t1' t2' t3' n') h') → (∀ p ∈ snap h₀ L h' [J], p.1 ≠ J) → h'.get? J = some (jarO C a' b' p' t1' t2' t3' n') → h'.get? C = some (W.listOf (List.toArray cs) k) → JarNum cs ns a' b' (B + cost) → Q (.int i t) ⟨h', gs, ds, tk', os⟩) :
    wpAny (MD w) (AR dp un gd cn sc L a ccd cl outer) (call (.ref f) vs) Q E ⟨hs, gs, ds, ts, os⟩ := by
  refine K.jar N hm NO hc hR eC hn hC hJ0 hJL hB Bw F X T hk hd hu (fun v h' tk' a' b' p' t1' t2' t3' n' hP => ?_)
  refine ex2 hP ?_
  clear hP
  intro i t
  intro hII
  refine an3 hII ?_
  clear hII
  intro eqO1
  subst eqO1
  intro h0 h1
  exact ret i t h' tk' a' b' p' t1' t2' t3' n' h0 h1
theorem MakesAt.jarS (K : MakesAt w f vs dz uz J C ns cost (fun _ v => ∃ i t, v = .int i t)) {mean : ExcName → Option Value} {mg mb : Str → Option Value} {dp un : Nat} {gd : Option (List Code)} {cn : Str} {sc : Scope} {a : Addr} {ccd : Value} {cl : List (Str × Addr)} {outer : List Env} {A₀ : Around} {base h₀ : Heap} {L : Addr} {m : Str → Option Value} {hs : Heap} {gs : Array GenState} {ds : Drawn} {ts : Nat} {os : OsState}
    {B k n : Nat} {cs : List Value} {a1 b1 p1 : Int} {t1 t2 t3 : Tok} {H news : List (Addr × Obj)} {R : Obj → Heap → List (Addr × Obj)} {Q E : Value → Shared → Prop}
    (N : News h₀ L hs news) (hm : (J, jarO C a1 b1 p1 t1 t2 t3 n) ∈ news) (NO : News h₀ L hs H) (hc : ∀ x ∈ H, x.1 ≠ J) (hR : ∀ o h, R o h = H ++ (J, o) :: snap h₀ L h [J]) (eC : hs.get? C = some (W.listOf (List.toArray cs) k)) (hn : JarNum cs ns a1 b1 B) (hC : ∀ h', Fr h₀ L h' m → Keep [J] L hs h' → h'.get? C = some (W.listOf (List.toArray cs) k)) (hJ0 : h₀.get? J = none) (hJL : J ≠ L) (hB : B + cost ≤ 100000)
    (Bw : Below A₀ base outer h₀ := by k_asm) (F : Fr h₀ L hs m := by k_asm) (X : (hd.heap_1 w.params).In h₀ := by k_asm) (T : Top PV LS mean mg mb h₀ := by k_asm) (hk : sc.kind = .function := by rfl) (hd : dp + dz < recursionLimit := by walk_at "Mine.ar") (hu : un + uz < cLine := by walk_at "Mine.ar")
    (ret : ∀ (i : Int) (t : Tok) (h' : Heap) (tk' : Nat) (a' b' p' : Int) (t1' t2' t3' : Tok) (n' : Nat), Fr h₀ L h' m → Keep [J] L hs h' → News h₀ L h' (R (jarO C a' b' p' t1' t2' t3' n') h') → (∀ p ∈ snap h₀ L h' [J], p.1 ≠ J) → h'.get? J = some (jarO C a' b' p' t1' t2' t3' n') → h'.get? C = some (W.listOf (List.toArray cs) k) → JarNum cs ns a' b' (B + cost) → Q (.int i t) ⟨h', gs, ds, tk', os⟩) :
    wpAny (MD w) (AR dp un gd cn sc L a ccd cl outer) (call (.ref f) vs) Q E ⟨hs, gs, ds, ts, os⟩ := by
  refine K.jar N hm NO hc hR eC hn hC hJ0 hJL hB Bw F X T hk hd hu (fun v h' tk' a' b' p' t1' t2' t3' n' hP => ?_)
  obtain ⟨i, t, rfl⟩ := hP
  exact ret i t h' tk' a' b' p' t1' t2' t3' n'
theorem MakesAt.jarD {D : Type} {S : D → Prop} {P : TP → Value → D → Prop} (K : MakesAt w f vs dz uz J C ns cost (fun T v => ∃ d, P T v d ∧ S d)) {mean : ExcName → Option Value} {mg mb : Str → Option Value} {dp un : Nat} {gd : Option (List Code)} {cn : Str} {sc : Scope} {a : Addr} {ccd : Value} {cl : List (Str × Addr)} {outer : List Env} {A₀ : Around} {base h₀ : Heap} {L : Addr} {m : Str → Option Value} {hs : Heap} {gs : Array GenState} {ds : Drawn} {ts : Nat} {os : OsState}
    {B k n : Nat} {cs : List Value} {a1 b1 p1 : Int} {t1 t2 t3 : Tok} {H news : List (Addr × Obj)} {R : Obj → Heap → List (Addr × Obj)} {Q E : Value → Shared → Prop}
    (N : News h₀ L hs news) (hm : (J, jarO C a1 b1 p1 t1 t2 t3 n) ∈ news) (NO : News h₀ L hs H) (hc : ∀ x ∈ H, x.1 ≠ J) (hR : ∀ o h, R o h = H ++ (J, o) :: snap h₀ L h [J]) (eC : hs.get? C = some (W.listOf (List.toArray cs) k)) (hn : JarNum cs ns a1 b1 B) (hC : ∀ h', Fr h₀ L h' m → Keep [J] L hs h' → h'.get? C = some (W.listOf (List.toArray cs) k)) (hJ0 : h₀.get? J = none) (hJL : J ≠ L) (hB : B + cost ≤ 100000)
    (Bw : Below A₀ base outer h₀ := by k_asm) (F : Fr h₀ L hs m := by k_asm) (X : (hd.heap_1 w.params).In h₀ := by k_asm) (T : Top PV LS mean mg mb h₀ := by k_asm) (hk : sc.kind = .function := by rfl) (hd : dp + dz < recursionLimit := by walk_at "Mine.ar") (hu : un + uz < cLine := by walk_at "Mine.ar")
    (ret : ∀ (v : Value) (d : D) (h' : Heap) (tk' : Nat) (a' b' p' : Int) (t1' t2' t3' : Tok) (n' : Nat), P (IsTup h') v d → S d → Fr h₀ L h' m → Keep [J] L hs h' → News h₀ L h' (R (jarO C a' b' p' t1' t2' t3' n') h') → (∀ p ∈ snap h₀ L h' [J], p.1 ≠ J) → h'.get? J = some (jarO C a' b' p' t1' t2' t3' n') → h'.get? C = some (W.listOf (List.toArray cs) k) → JarNum cs ns a' b' (B + cost) → Q v ⟨h', gs, ds, tk', os⟩) :
    wpAny (MD w) (AR dp un gd cn sc L a ccd cl outer) (call (.ref f) vs) Q E ⟨hs, gs, ds, ts, os⟩ := by
  refine K.jar N hm NO hc hR eC hn hC hJ0 hJL hB Bw F X T hk hd hu (fun v h' tk' a' b' p' t1' t2' t3' n' hP => ?_)
  obtain ⟨d, h0, h1⟩ := hP
  exact ret v d h' tk' a' b' p' t1' t2' t3' n' h0 h1
end
noncomputable abbrev okN (x : Str) : Prop := PyData.strOk x = true
section
 local macro_rules | `(tactic| k_all) => `(tactic| with_reducible assumption)
 local macro_rules | `(tactic| walk_at "call ref") => `(tactic| (k_here; refine' call_stop ?_))
 local macro_rules | `(tactic| walk_at "Mine.idle") => `(tactic| skip)
 local macro_rules | `(tactic| walk_at "Mine.idle") => `(tactic| skip)
 local macro_rules | `(tactic| walk_at "Mine.idle") => `(tactic| skip)
theorem law_id_spec {w : World} {J C : Addr} {ns : List Int} : MakesAt w 268 [.ref J] 20 200 J C ns 1 (fun T v => ∃ d, IdAt T v d ∧ okN d.name) := by
  walk_at "Mine.makes"
  intro mean mg mb dp un gd outer A₀ base g L h₁ s B Qe a b p t1 t2 t3 n cs k Bw F X Tp hd hu N off hn hJ0 hJL eC' hB
  dsimp only [fnOf, List.map, List.zip, List.zipWith, List.reverse, List.reverseAux, List.append, HAppend.hAppend, Append.append] at F
  refine fr_let F ?_
  clear F
  intro m0 F
  walk_at "Mine.in"
  rename News g L _ _ => N1
  rename Fr g L _ _ => F1
  unfold CallStop
  refine (law_spot_spec).jarS (R := fun o h => (J, o) :: snap g L h [J]) N1 (by k_mem) News.nil no_one (fun _ _ => rfl) (F1.keep _ _ eC') hn (old_C eC') hJ0 hJL (by first | exact bud hB 0 (by decide) | exact bud2 hB 0 (by decide) | omega) (ret := fun i2 u2 h2 tk2 a2 b2 p2 w2 x2 y2 n2 F2 K2 N2 off2 eJ2 eC2 hn2 => ?_)
  clear N1 F1 K2 eC2
  walk_at "Mine.in"
  rename News g L _ _ => N3
  rename Fr g L _ _ => F3
  rename (_ ∧ AllLt _ _) => l3
  have nDJ := Nat.ne_of_gt l3.1
  have nL3 := notup_ns F3.ns
  unfold CallStop
  refine (law_draw_spec (by decide) (by decide)).jarI (R := fun o h => _ :: (J, o) :: snap g L h [J]) N3 (by k_mem) (one_of N3 (.head _)) (one_ne nDJ) (fun _ _ => rfl) (F3.keep _ _ eC') hn2 (old_C eC') hJ0 hJL (by first | exact bud hB 1 (by decide) | exact bud2 hB 1 (by decide) | omega) (ret := fun i4 u4 h4 tk4 a4 b4 p4 w4 x4 y4 n4 i40 i41 F4 K4 N4 off4 eJ4 eC4 hn4 => ?_)
  clear N3 F3 K4 eC4
  have hi4 : i4 = 0 ∨ i4 = 1 ∨ i4 = 2 ∨ i4 = 3 ∨ i4 = 4 ∨ i4 = 5 ∨ i4 = 6 := by omega
  rcases hi4 with e | e | e | e | e | e | e <;> subst e
  all_goals walk_at "Mine.in"
  all_goals walk_at "Mine.gfin"
  all_goals rename News g L _ _ => N5
  all_goals rename Fr g L _ _ => F5
  all_goals exact made_end F5 N5 (by k_mem) eC' hn4 ⟨⟨_, _⟩, ⟨_, _, _, _, rfl, ⟨_, (N5 _ (by k_mem)).1, rfl, _, rfl⟩⟩, by dsimp only; decide +kernel⟩
theorem law_extent_spec {w : World} {J C : Addr} {ns : List Int} : MakesAt w 275 [.ref J] 30 300 J C ns 3 (fun T v => ∃ e, ExtAt T v e ∧ ∀ x y, e = some (x, y) → okN x.name ∧ okN y.name) := by
  walk_at "Mine.makes"
  intro mean mg mb dp un gd outer A₀ base g L h₁ s B Qe a b p t1 t2 t3 n cs k Bw F X Tp hd hu N off hn hJ0 hJL eC' hB
  dsimp only [fnOf, List.map, List.zip, List.zipWith, List.reverse, List.reverseAux, List.append, HAppend.hAppend, Append.append] at F
  refine fr_let F ?_
  clear F
  intro m0 F
  walk_at "Mine.in"
  rename News g L _ _ => N1
  rename Fr g L _ _ => F1
  unfold CallStop
  refine (law_draw_spec (by decide) (by decide)).jarI (R := fun o h => (J, o) :: snap g L h [J]) N1 (by k_mem) News.nil no_one (fun _ _ => rfl) (F1.keep _ _ eC') hn (old_C eC') hJ0 hJL (by first | exact bud hB 1 (by decide) | exact bud2 hB 1 (by decide) | omega) (ret := fun i2 u2 h2 tk2 a2 b2 p2 w2 x2 y2 n2 i20 i21 F2 K2 N2 off2 eJ2 eC2 hn2 => ?_)
  clear N1 F1 K2 eC2
  walk_at "Mine.in"
  · rename News g L _ _ => N3
    rename Fr g L _ _ => F3
    unfold CallStop
    refine (law_id_spec).jarD (R := fun o h => (J, o) :: snap g L h [J]) N3 (by k_mem) News.nil no_one (fun _ _ => rfl) (F3.keep _ _ eC') hn2 (old_C eC') hJ0 hJL (by first | exact bud hB 2 (by decide) | exact bud2 hB 2 (by decide) | omega) (ret := fun v4 d4 h4 tk4 a4 b4 p4 w4 x4 y4 n4 P4 o4 F4 K4 N4 off4 eJ4 eC4 hn4 => ?_)
    have nL4 := notup_ns F4.ns
    have kb4 := F4.keep
    clear N3 F3 K4 eC4
    walk_at "Mine.in"
    rename News g L _ _ => N5
    rename Fr g L _ _ => F5
    have T45 := tupX (keep_by (M := [J]) kb4 F5 N5 (fun p hp => .tail _ hp)) nL4 (fun b hb => by rw [List.mem_singleton.mp hb]; exact notup_list eJ4)
    have nL5 := notup_ns F5.ns
    have eJ5 := (N5 _ (.head _)).1
    unfold CallStop
    refine (law_id_spec).jarD (R := fun o h => (J, o) :: snap g L h [J]) N5 (by k_mem) News.nil no_one (fun _ _ => rfl) (F5.keep _ _ eC') hn4 (old_C eC') hJ0 hJL (by first | exact bud hB 3 (by decide) | exact bud2 hB 3 (by decide) | omega) (ret := fun v6 d6 h6 tk6 a6 b6 p6 w6 x6 y6 n6 P6 o6 F6 K6 N6 off6 eJ6 eC6 hn6 => ?_)
    have T56 := tupJ K6 nL5 eJ5
    have nL6 := notup_ns F6.ns
    have kb6 := F6.keep
    clear N5 F5 K6 eC6
    walk_at "Mine.in"
    walk_at "Mine.gfin"
    rename News g L _ _ => N7
    rename Fr g L _ _ => F7
    have T67 := tupX (keep_by (M := [J]) kb6 F7 N7 (fun p hp => .tail _ (.tail _ hp))) nL6 (fun b hb => by rw [List.mem_singleton.mp hb]; exact notup_list eJ6)
    exact made_end F7 N7 (by k_mem) eC' hn6 ⟨some (d4, d6), ⟨_, _, _, rfl, ⟨_, (N7 _ (by k_mem)).1, rfl, _, rfl⟩, ((P4.mono T45).mono T56).mono T67, P6.mono T67⟩, fun x y e => by cases e; exact ⟨o4, o6⟩⟩
  · walk_at "Mine.gfin"
    rename News g L _ _ => N3
    rename Fr g L _ _ => F3
    exact made_end F3 N3 (by k_mem) eC' (hn2.mono (by omega)) ⟨none, rfl, fun x y e => by cases e⟩
end

theorem item_menu {w : World} {A : Around} {E : Value → Shared → Prop} {s : Shared} {g : Heap} {L D : Addr} {I : List (Addr × Obj)} {vs : List Value} {n : Nat} {i : Int} {u : Tok} {value slice : PySem.Expr} {Q : Value → Shared → Prop} (h : ∀ x t, okN x → Q (.str x t) s) (N : News g L s.heap I := by k_asm) (hm : (D, W.listOf (List.toArray vs) n) ∈ I := by k_mem) (h0 : 0 ≤ i := by omega) (h1 : i < vs.length := by (simp only [List.length_cons, List.length_nil]; omega)) (hfit : i < 2 ^ 63 := by omega)
    (hP : ∀ v ∈ vs, ∃ x t, v = .str x t ∧ okN x := by ((repeat refine List.forall_mem_cons.mpr ⟨⟨_, _, rfl, by decide +kernel⟩, ?_⟩); exact List.forall_mem_nil _)) (hs : subscripted slice false (.ref D) (.int i u) = operate [.ref D, .int i u] (getItem (.ref D) (.int i u)) := by with_unfolding_all rfl) :
    wpAny (model PG w) A (subscriptTail value slice (.ref D) (.int i u)) Q E s := by
  have hl : s.heap.IsList D (List.toArray vs) := ⟨_, (N _ hm).1, rfl, _, rfl⟩
  have hlt : i.toNat < vs.length := by omega
  obtain ⟨x, t, e, hx⟩ := hP vs[i.toNat] (List.getElem_mem hlt)
  refine tail_any hl.typeIs slot_list_getitem.lookup (wpAny_getItem_list (x := .str x t) hl h0 hfit ?_ (h x t hx)) hs
  rw [← e]
  simp
noncomputable def okD : Decl → Prop
  | .port _ _ ext nm => okN nm ∧ ∀ x y, ext = some (x, y) → okN x.name ∧ okN y.name
  | .var _ ext nm fo => okN nm ∧ (∀ x y, ext = some (x, y) → okN x.name ∧ okN y.name) ∧ ∀ d, fo = some d → okN d.name
section
 local macro_rules | `(tactic| k_all) => `(tactic| with_reducible assumption)
 local macro_rules | `(tactic| walk_at "call ref") => `(tactic| (k_here; refine' call_stop ?_))
 local macro_rules | `(tactic| walk_at "subscriptTail List") => `(tactic| (k_here; k_dflt refine item_menu ?_; intros))
 local macro_rules | `(tactic| walk_at "Mine.idle") => `(tactic| skip)
 local macro_rules | `(tactic| walk_at "Mine.idle") => `(tactic| skip)
 local macro_rules | `(tactic| walk_at "Mine.idle") => `(tactic| skip)
 local macro_rules | `(tactic| walk_at "Mine.idle") => `(tactic| skip)
theorem law_declared_spec {w : World} {J C : Addr} {ns : List Int} : MakesAt w 282 [.ref J] 40 400 J C ns 8 (fun T v => ∃ d, DeclAt T v d ∧ okD d) := by
  walk_at "Mine.makes"
  intro mean mg mb dp un gd outer A₀ base g L h₁ s B Qe a b p t1 t2 t3 n cs k Bw F X Tp hd hu N off hn hJ0 hJL eC' hB
  dsimp only [fnOf, List.map, List.zip, List.zipWith, List.reverse, List.reverseAux, List.append, HAppend.hAppend, Append.append] at F
  walk_at "Mine.in"
  rename News g L _ _ => N1
  rename Fr g L _ _ => F1
  rename (_ ∧ AllLt _ _) => l1
  have nD1 := Nat.ne_of_gt l1.1
  have nL1 := notup_ns F1.ns
  have eJ1 := (N1 _ (by k_mem)).1
  unfold CallStop
  refine (law_draw_spec (by decide) (by decide)).jarI (R := fun o h => _ :: (J, o) :: snap g L h [J]) N1 (by k_mem) (one_of N1 (.head _)) (one_ne nD1) (fun _ _ => rfl) (F1.keep _ _ eC') hn (old_C eC') hJ0 hJL (by first | exact bud hB 1 (by decide) | exact bud2 hB 1 (by decide) | omega) (ret := fun i2 u2 h2 tk2 a2 b2 p2 x2 y2 z2 n2 i20 i21 F2 K2 N2 off2 eJ2 eC2 hn2 => ?_)
  clear eC2
  have kb2 := F2.keep
  have nL2 := notup_ns F2.ns
  clear N1 F1 K2
  walk_at "Mine.in"
  with_reducible rename okN _ => ok2
  rename_i nm _ _ _ _
  rename News g L _ _ => N3
  rename Fr g L _ _ => F3
  have nL3 := notup_ns F3.ns
  have eJ3 := (N3 _ (by k_mem)).1
  unfold CallStop
  refine (law_draw_spec (by decide) (by decide)).jarI (R := fun o h => (J, o) :: snap g L h [J]) N3 (by k_mem) News.nil no_one (fun _ _ => rfl) (F3.keep _ _ eC') hn2 (old_C eC') hJ0 hJL (by first | exact bud hB 2 (by decide) | exact bud2 hB 2 (by decide) | omega) (ret := fun i4 u4 h4 tk4 a4 b4 p4 x4 y4 z4 n4 i40 i41 F4 K4 N4 off4 eJ4 eC4 hn4 => ?_)
  clear eC4
  have kb4 := F4.keep
  have nL4 := notup_ns F4.ns
  clear N3 F3 K4
  walk_at "Mine.in"
  · skip
    rename News g L _ _ => N5
    rename Fr g L _ _ => F5
    have nL5 := notup_ns F5.ns
    have eJ5 := (N5 _ (by k_mem)).1
    unfold CallStop
    refine (law_spot_spec).jarS (R := fun o h => (J, o) :: snap g L h [J]) N5 (by k_mem) News.nil no_one (fun _ _ => rfl) (F5.keep _ _ eC') hn4 (old_C eC') hJ0 hJL (by first | exact bud hB 2 (by decide) | exact bud2 hB 2 (by decide) | omega) (ret := fun i6 u6 h6 tk6 a6 b6 p6 x6 y6 z6 n6  F6 K6 N6 off6 eJ6 eC6 hn6 => ?_)
    clear eC6
    have kb6 := F6.keep
    have nL6 := notup_ns F6.ns
    clear N5 F5 K6
    walk_at "Mine.in"
    rename News g L _ _ => N7
    rename Fr g L _ _ => F7
    rename (_ ∧ AllLt _ _) => l7
    have nD7 := Nat.ne_of_gt l7.1
    have nL7 := notup_ns F7.ns
    have eJ7 := (N7 _ (by k_mem)).1
    unfold CallStop
    refine (law_draw_spec (by decide) (by decide)).jarI (R := fun o h => _ :: (J, o) :: snap g L h [J]) N7 (by k_mem) (one_of N7 (.head _)) (one_ne nD7) (fun _ _ => rfl) (F7.keep _ _ eC') hn6 (old_C eC') hJ0 hJL (by first | exact bud hB 3 (by decide) | exact bud2 hB 3 (by decide) | omega) (ret := fun i8 u8 h8 tk8 a8 b8 p8 x8 y8 z8 n8 i80 i81 F8 K8 N8 off8 eJ8 eC8 hn8 => ?_)
    clear eC8
    have kb8 := F8.keep
    have nL8 := notup_ns F8.ns
    clear N7 F7 K8
    walk_at "Mine.in"
    rename News g L _ _ => N9
    rename Fr g L _ _ => F9
    have nL9 := notup_ns F9.ns
    have eJ9 := (N9 _ (by k_mem)).1
    unfold CallStop
    refine (law_extent_spec).jarD (R := fun o h => (J, o) :: snap g L h [J]) N9 (by k_mem) News.nil no_one (fun _ _ => rfl) (F9.keep _ _ eC') hn8 (old_C eC') hJ0 hJL (by first | exact bud hB 6 (by decide) | exact bud2 hB 6 (by decide) | omega) (ret := fun v10 d10 h10 tk10 a10 b10 p10 x10 y10 z10 n10 P10 o10 F10 K10 N10 off10 eJ10 eC10 hn10 => ?_)
    clear eC10
    have kb10 := F10.keep
    have nL10 := notup_ns F10.ns
    clear N9 F9 K10
    walk_at "Mine.in"
    walk_at "Mine.gfin"
    rename News g L _ _ => N11
    rename Fr g L _ _ => F11
    have T11 := tupX (keep_by (M := [J]) kb10 F11 N11 (fun p hp => .tail _ (.tail _ hp))) nL10 (fun b hb => by rw [List.mem_singleton.mp hb]; exact notup_list eJ10)
    exact made_end F11 N11 (by k_mem) eC' (hn10.mono (by omega)) ⟨.port _ _ d10 _, ⟨_, _, _, _, _, _, rfl, ⟨_, (N11 _ (.head _)).1, rfl, _, rfl⟩, P10.mono T11⟩, ok2, o10⟩
  · skip
    rename News g L _ _ => N5
    rename Fr g L _ _ => F5
    have nL5 := notup_ns F5.ns
    have eJ5 := (N5 _ (by k_mem)).1
    unfold CallStop
    refine (law_draw_spec (by decide) (by decide)).jarI (R := fun o h => (J, o) :: snap g L h [J]) N5 (by k_mem) News.nil no_one (fun _ _ => rfl) (F5.keep _ _ eC') hn4 (old_C eC') hJ0 hJL (by first | exact bud hB 3 (by decide) | exact bud2 hB 3 (by decide) | omega) (ret := fun i6 u6 h6 tk6 a6 b6 p6 x6 y6 z6 n6 i60 i61 F6 K6 N6 off6 eJ6 eC6 hn6 => ?_)
    clear eC6
    have kb6 := F6.keep
    have nL6 := notup_ns F6.ns
    clear N5 F5 K6
    walk_at "Mine.in"
    · skip
      rename News g L _ _ => N7
      rename Fr g L _ _ => F7
      have nL7 := notup_ns F7.ns
      have eJ7 := (N7 _ (by k_mem)).1
      unfold CallStop
      refine (law_id_spec).jarD (R := fun o h => (J, o) :: snap g L h [J]) N7 (by k_mem) News.nil no_one (fun _ _ => rfl) (F7.keep _ _ eC') hn6 (old_C eC') hJ0 hJL (by first | exact bud hB 4 (by decide) | exact bud2 hB 4 (by decide) | omega) (ret := fun v8 d8 h8 tk8 a8 b8 p8 x8 y8 z8 n8 P8 o8 F8 K8 N8 off8 eJ8 eC8 hn8 => ?_)
      clear eC8
      have kb8 := F8.keep
      have nL8 := notup_ns F8.ns
      clear N7 F7 K8
      walk_at "Mine.in"
      rename News g L _ _ => N8a
      rename Fr g L _ _ => F8a
      have T8 := tupX (keep_by (M := [J]) kb8 F8a N8a (fun p hp => .tail _ hp)) nL8 (fun b hb => by rw [List.mem_singleton.mp hb]; exact notup_list eJ8)
      rename News g L _ _ => N9
      rename Fr g L _ _ => F9
      have nL9 := notup_ns F9.ns
      have eJ9 := (N9 _ (by k_mem)).1
      unfold CallStop
      refine (law_spot_spec).jarS (R := fun o h => (J, o) :: snap g L h [J]) N9 (by k_mem) News.nil no_one (fun _ _ => rfl) (F9.keep _ _ eC') hn8 (old_C eC') hJ0 hJL (by first | exact bud hB 4 (by decide) | exact bud2 hB 4 (by decide) | omega) (ret := fun i10 u10 h10 tk10 a10 b10 p10 x10 y10 z10 n10  F10 K10 N10 off10 eJ10 eC10 hn10 => ?_)
      clear eC10
      have kb10 := F10.keep
      have nL10 := notup_ns F10.ns
      have T10 := tupJ K10 nL9 eJ9
      clear N9 F9 K10
      walk_at "Mine.in"
      rename News g L _ _ => N10a
      rename Fr g L _ _ => F10a
      have T10a := tupX (keep_by (M := [J]) kb10 F10a N10a (fun p hp => .tail _ hp)) nL10 (fun b hb => by rw [List.mem_singleton.mp hb]; exact notup_list eJ10)
      rename News g L _ _ => N11
      rename Fr g L _ _ => F11
      have nL11 := notup_ns F11.ns
      have eJ11 := (N11 _ (by k_mem)).1
      unfold CallStop
      refine (law_extent_spec).jarD (R := fun o h => (J, o) :: snap g L h [J]) N11 (by k_mem) News.nil no_one (fun _ _ => rfl) (F11.keep _ _ eC') hn10 (old_C eC') hJ0 hJL (by first | exact bud hB 7 (by decide) | exact bud2 hB 7 (by decide) | omega) (ret := fun v12 d12 h12 tk12 a12 b12 p12 x12 y12 z12 n12 P12 o12 F12 K12 N12 off12 eJ12 eC12 hn12 => ?_)
      clear eC12
      have kb12 := F12.keep
      have nL12 := notup_ns F12.ns
      have T12 := tupJ K12 nL11 eJ11
      clear N11 F11 K12
      walk_at "Mine.in"
      walk_at "Mine.gfin"
      rename News g L _ _ => N12a
      rename Fr g L _ _ => F12a
      have T12a := tupX (keep_by (M := [J]) kb12 F12a N12a (fun p hp => by first | exact .tail _ (.tail _ hp) | exact .tail _ (.tail _ (.tail _ hp)))) nL12 (fun b hb => by rw [List.mem_singleton.mp hb]; exact notup_list eJ12)
      exact made_end F12a N12a (by k_mem) eC' (hn12.mono (by omega)) ⟨.var _ d12 _ (some d8), ⟨_, _, _, _, _, _, _, _, rfl, ⟨_, (N12a _ (.head _)).1, rfl, _, rfl⟩, ⟨_, (N12a _ (.tail _ (.head _))).1, rfl, _, rfl⟩, P12.mono T12a, (((((P8).mono T8).mono T10).mono T10a).mono T12).mono T12a⟩, ok2, o12, fun d e => by cases e; exact o8⟩
    · skip
      rename News g L _ _ => N7
      rename Fr g L _ _ => F7
      have nL7 := notup_ns F7.ns
      have eJ7 := (N7 _ (by k_mem)).1
      unfold CallStop
      refine (law_spot_spec).jarS (R := fun o h => (J, o) :: snap g L h [J]) N7 (by k_mem) News.nil no_one (fun _ _ => rfl) (F7.keep _ _ eC') hn6 (old_C eC') hJ0 hJL (by first | exact bud hB 3 (by decide) | exact bud2 hB 3 (by decide) | omega) (ret := fun i8 u8 h8 tk8 a8 b8 p8 x8 y8 z8 n8  F8 K8 N8 off8 eJ8 eC8 hn8 => ?_)
      clear eC8
      have kb8 := F8.keep
      have nL8 := notup_ns F8.ns
      clear N7 F7 K8
      walk_at "Mine.in"
      rename News g L _ _ => N9
      rename Fr g L _ _ => F9
      have nL9 := notup_ns F9.ns
      have eJ9 := (N9 _ (by k_mem)).1
      unfold CallStop
      refine (law_extent_spec).jarD (R := fun o h => (J, o) :: snap g L h [J]) N9 (by k_mem) News.nil no_one (fun _ _ => rfl) (F9.keep _ _ eC') hn8 (old_C eC') hJ0 hJL (by first | exact bud hB 6 (by decide) | exact bud2 hB 6 (by decide) | omega) (ret := fun v10 d10 h10 tk10 a10 b10 p10 x10 y10 z10 n10 P10 o10 F10 K10 N10 off10 eJ10 eC10 hn10 => ?_)
      clear eC10
      have kb10 := F10.keep
      have nL10 := notup_ns F10.ns
      clear N9 F9 K10
      walk_at "Mine.in"
      walk_at "Mine.gfin"
      rename News g L _ _ => N10a
      rename Fr g L _ _ => F10a
      have T10a := tupX (keep_by (M := [J]) kb10 F10a N10a (fun p hp => by first | exact .tail _ (.tail _ hp) | exact .tail _ (.tail _ (.tail _ hp)))) nL10 (fun b hb => by rw [List.mem_singleton.mp hb]; exact notup_list eJ10)
      exact made_end F10a N10a (by k_mem) eC' (hn10.mono (by omega)) ⟨.var _ d10 _ none, ⟨_, _, _, _, _, _, _, _, rfl, ⟨_, (N10a _ (.head _)).1, rfl, _, rfl⟩, ⟨_, (N10a _ (.tail _ (.head _))).1, rfl, _, rfl⟩, P10.mono T10a, rfl⟩, ok2, o10, fun d e => by cases e⟩
end

section
variable {w : World} {mean : ExcName → Option Value} {mg mb : Str → Option Value} {dp un : Nat} {gd : Option (List Code)} {cn : Str} {cs : Scope} {a : Addr} {ccd : Value} {cl : List (Str × Addr)} {outer : List Env} {A₀ : Around}
  {base h₀ : Heap} {L : Addr} {m : Str → Option Value} {s : Shared} {Q E : Value → Shared → Prop}
theorem cells_above {cm : Str → Option Value} {L : Addr} {cs : List (Str × Addr)} {own : List (Addr × Obj)} (x : CellsAre cm cs own) (h : ∀ n c, (n, c) ∈ cs → L < c) : ∀ p ∈ own, L < p.1 := by
  induction x with
  | nil => exact fun p hp => (List.not_mem_nil hp).elim
  | @cons n c o cs cells _ _ ih =>
    intro p hp
    rcases List.mem_cons.mp hp with rfl | hp
    · exact h n c (.head _)
    · exact ih (fun n c hm => h n c (.tail _ hm)) p hp
/-- a call of a function whose parameters are closed over -/
theorem enterGC {cells : List (Addr × Obj)} {f : Addr} {oc : Value} {od : Option Addr} {osl : Array (Option Value)} {name qual : Str} {params : Arguments} {body : List Stmt} {scope : Scope} {dV kV doc pm cdv ct : Value} {an : Option Addr} {vs : List Value} {binds : List (Str × Value)}
    (B : Below A₀ base outer h₀) (F : Fr h₀ L s.heap m) (X : (hd.heap_1 w.params).In h₀) (T : Top PV LS mean mg mb h₀) (hk : cs.kind = .function) (N : News h₀ L s.heap cells) (hroom : dp < recursionLimit)
    (ho : (hd.heap_1 w.params).lookup f = some ⟨oc, od, .func (fnOf name qual params body scope dV kV doc pm an cdv ct), osl⟩) (hcd : codeIn (hd.heap_1 w.params) cdv qual = true)
    (hbind : bindArgs (fnOf name qual params body scope dV kV doc pm an cdv ct) ⟨vs, []⟩ = pure binds)
    (hkind : ∀ n, ∀ x ∈ binds, scope.names.lookup x.1 = some .local ∨ (scope.names.lookup x.1 = some .cell ∧ ((cellsFrom n scope.names []).lookup x.1).isSome = true))
    (hnd : ((cellsFrom 0 scope.names []).map (·.1)).Nodup)
    (h : ∀ g L' h₁ tk own, Fr h₀ L g m → Fr g L' h₁ (bindL (envOfC qual scope L' f cdv).kindOf binds fun _ => none) → News g L' h₁ cells → News g L' h₁ own → (∀ p ∈ own, L' < p.1) →
      CellsAre (bindC (envOfC qual scope L' f cdv).kindOf binds fun _ => none) (cellsFrom (L' + 1) scope.names []) own →
      Below (AR dp un gd cn cs L a ccd cl outer) base (envX cn cs L a ccd cl :: outer) g → (hd.heap_1 w.params).In g → Top PV LS mean mg mb g →
      (∀ b o, b ∉ cells.map (·.1) → s.heap.get? b = some o → g.get? b = some o) → (∀ b o, g.get? b = some o → s.heap.get? b = some o) → (∀ p ∈ cells, p.1 < L') →
      wpAny (MD w) ((AR dp un gd cn cs L a ccd cl outer).deeper (envOfC qual scope L' f cdv)) (execs body (envOfC qual scope L' f cdv))
        (fun fl s' => Back h₀ L m g Q (match fl with | .ret v => v | _ => .none) s')
        (fun e s' => wpAny (MD w) ((AR dp un gd cn cs L a ccd cl outer).deeper (envOfC qual scope L' f cdv)) (leaving (envOfC qual scope L' f cdv) e) (fun _ s'' => E e s'') (fun e' s'' => E e' s'') s')
        { s with heap := h₁, toks := tk })
    (hco : scope.isCoroutine = false) (hgen : scope.isGenerator = false) (hks : scope.kind = .function) :
    wpAny (MD w) (AR dp un gd cn cs L a ccd cl outer) (call (.ref f) vs) Q E s := by
  have lv := groundG (A := AR dp un gd cn cs L a ccd cl outer) (Q := Q) B F N rfl rfl hk
  obtain ⟨FG, BG, st, _⟩ := groundX (A := AR dp un gd cn cs L a ccd cl outer) (R := fun _ _ => True) B F N rfl rfl hk
  refine wpAny_call (codeAny_call_cells (fd := fnOf name qual params body scope dV kV doc pm an cdv ct) (body := body) (binds := binds) hroom ((X.keeps F.keep) _ _ ho) rfl (T.nolimit.keeps F.keep) (codeRec_of (X.keeps F.keep) hcd) rfl hbind rfl (hkind _) (fun s₁ x => ?_) hco hgen hks)
  obtain ⟨h₁, tk, rfl, _⟩ := x.done
  have hk₁ := x.toInCall.keep
  obtain ⟨own, NC, Y⟩ := Cl.news (h₀ := s.heap) (Nat.le_refl _) fun n c hm => ⟨x.cell n c (lookup_of_mem_nodup (cellsFrom_names scope.names 0 (s.heap.objs.size + 1) [] [] rfl ▸ hnd) hm), x.above n c hm⟩
  refine wpAny_mono (h _ s.heap.objs.size h₁ tk own FG ⟨x.toInCall.ns, fun b o e => hk₁ b o (of_hideAll _ e), Nat.le_of_eq (hideAll_size _ _)⟩
    (fun p hp => ⟨hk₁ _ _ (N p hp).1, Nat.ne_of_lt (Heap.lt_size (N p hp).1), hideAll_none _ (List.mem_map_of_mem hp)⟩) (fun p hp => ⟨(NC p hp).1, (NC p hp).2.1, ?_⟩) (cells_above Y x.above) Y BG (X.keeps st) (T.keeps st)
    (fun b o hb e => hideAll_get _ e hb) (fun b o e => of_hideAll _ e) fun p hp => Heap.lt_size (N p hp).1) (fun fl s' hl => lv _ _ hl) fun _ _ y => y
  cases q : (hideAll s.heap (cells.map fun x => x.1)).get? p.1 with
  | none => rfl
  | some o => have := of_hideAll _ q; rw [(NC p hp).2.2] at this; cases this
end

section
variable {w : World} {f : Addr} {vs : List Value} {dz uz : Nat} {J C : Addr} {ns : List Int} {cost : Nat} {P : TP → Value → Prop}
theorem makes_ofC {oc : Value} {od : Option Addr} {osl : Array (Option Value)} {name qual : Str} {params : Arguments} {body : List Stmt} {scope : Scope} {dV kV doc pm cdv ct : Value} {an : Option Addr} {binds : List (Str × Value)}
    (ho : (hd.heap_1 w.params).lookup f = some ⟨oc, od, .func (fnOf name qual params body scope dV kV doc pm an cdv ct), osl⟩) (hcd : codeIn (hd.heap_1 w.params) cdv qual = true)
    (hbind : bindArgs (fnOf name qual params body scope dV kV doc pm an cdv ct) ⟨vs, []⟩ = pure binds)
    (hkind : ∀ n, ∀ x ∈ binds, scope.names.lookup x.1 = some .local ∨ (scope.names.lookup x.1 = some .cell ∧ ((cellsFrom n scope.names []).lookup x.1).isSome = true))
    (hnd : ((cellsFrom 0 scope.names []).map (·.1)).Nodup) (hco : scope.isCoroutine = false) (hgen : scope.isGenerator = false) (hks : scope.kind = .function)
    (h : ∀ (mean : ExcName → Option Value) (mg mb : Str → Option Value) (dp un : Nat) (gd : Option (List Code)) (outer : List Env) (A₀ : Around) (base g : Heap) (L : Addr) (h₁ : Heap) (s : Shared) (own : List (Addr × Obj)) (B : Nat) (Qe : Value → Shared → Prop),
      Below A₀ base outer g → Fr g L h₁ (bindL (envOfC qual scope L f cdv).kindOf binds fun _ => none) → (hd.heap_1 w.params).In g → Top PV LS mean mg mb g → dp + dz < recursionLimit + 1 → un + uz < cLine + 3 →
      News g L h₁ own → (∀ p ∈ own, J < p.1) → CellsAre (bindC (envOfC qual scope L f cdv).kindOf binds fun _ => none) (cellsFrom (L + 1) scope.names []) own →
      JarIn h₁ J C ns B → g.get? J = none → J ≠ L → (∀ o, h₁.get? C = some o → g.get? C = some o) → B + cost ≤ 100000 →
      wpAny (MD w) (AR dp un gd qual scope L f cdv (cellsFrom (L + 1) scope.names []) outer) (execs body (envOfC qual scope L f cdv)) (fun fl s' => Made g J C ns (B + cost) P s (match fl with | .ret v => v | _ => .none) s')
        (fun e s' => wpAny (MD w) (AR dp un gd qual scope L f cdv (cellsFrom (L + 1) scope.names []) outer) (leaving (envOfC qual scope L f cdv) e) (fun _ s'' => Qe e s'') (fun e' s'' => Qe e' s'') s') { s with heap := h₁ }) :
    MakesAt w f vs dz uz J C ns cost P := by
  intro mean mg mb dp un gd cn cs a ccd cl outer A₀ base h₀ L m s B Q E Bw F X T hk hd hu hJ hJ0 hJL hB ret
  have hCJ := hJ.ne
  refine ex9 hJ ?_
  clear hJ
  intro a1 b1 p1 t1 t2 t3 n1 cells k1
  intro hII
  refine an4 hII ?_
  clear hII
  intro eJ eC hi r
  have N1 : News h₀ L s.heap [(J, listOf #[.int a1 t1, .int b1 t2, .ref C, .int p1 t3] n1)] := fun p hp => by rw [List.mem_singleton.mp hp]; exact ⟨eJ, hJL, hJ0⟩
  refine enterGC Bw F X T hk N1 (by omega) ho hcd hbind hkind hnd (fun g L' h₁ tk own FG F' N' NO lO Y B' X' T' hide hshow hlt => ?_) hco hgen hks
  have hh : ∀ b o, b ≠ J → s.heap.get? b = some o → g.get? b = some o := fun b o hb e => hide b o (by simpa using hb) e
  have bk : ∀ v s', Made g J C ns (B + cost) P { s with toks := tk } v s' → Back h₀ L m g Q v s' := by
    intro v s' hII
    refine ex4 hII ?_
    clear hII
    intro L₂ m₂ h' tk'
    intro hII
    refine an4 hII ?_
    clear hII
    intro eqO1
    subst eqO1
    intro F₂ hJ₂ hP
    refine ⟨L₂, m₂, [], F₂, News.nil, fun F₃ N₃ kp => ?_⟩
    exact ret v h' tk' F₃ (fun b o h1 h2 e => kp _ _ (hh _ _ (by simpa using h1) e)) hJ₂ hP
  have hJg := N' _ (.head _)
  have hCg := hh C _ hCJ eC
  exact wpAny_mono (h mean mg mb (dp + 1) (un + 3) (gd) (envX cn cs L a ccd cl :: outer) (AR dp un gd cn cs L a ccd cl outer) base g L' h₁ { s with toks := tk } own B _ B' F' X' T' (by omega) (by omega)
    NO (fun p hp => Nat.lt_trans (hlt _ (.head _)) (lO p hp)) Y ⟨a1, b1, p1, t1, t2, t3, n1, cells, k1, hJg.1, F'.keep _ _ hCg, hi, r⟩ hJg.2.2 hJg.2.1 (fun o e => by
      have := F'.keep _ _ hCg
      rw [e] at this; cases this
      exact hCg) hB) (fun fl s' hl => bk _ s' hl) fun _ _ y => y
end

theorem words_33 : True := by
  k_with "m:Mine.makesC" => (refine makes_ofC (by k_is) (by k_is) (by exact rfl) (by exact kindsX rfl) (by decide +kernel) (by exact rfl) (by exact rfl) (by exact rfl) ?_)
  exact trivial
/-- a list comprehension at its source -/
noncomputable def Comp1 (w : World) (A : Around) (env : Env) (elt t1 i1 : PySem.Expr) (scope : Scope) (cl : List (Str × Addr)) (pos : Pos) (Q E : Value → Shared → Prop) (xv : Value) (s₁ : Shared) : Prop :=
  wpAny (MD w) A (pyIter xv) (fun it s₂ => wpAny (MD w) A (newList []) (fun acc s₃ => wpAny (MD w) A (newFunctionEnv scope env.globals cl [] env.qual none .none (some env)) (fun cenv s₄ =>
    codeAny (MD w) A (.compStart (.ListComp elt [⟨t1, i1, [], 0⟩] scope pos) 0 it acc { cenv with scope := relabel scope env }) (compPost (MD w) A E none Q acc cenv.locals) s₄) E s₃) E s₂) E s₁
section
variable {w : World} {A : Around} {E : Value → Shared → Prop} {Q : Value → Shared → Prop} {s : Shared} {env : Env} {g : Heap} {L : Addr} {m : Str → Option Value} {scope : Scope} {cl : List (Str × Addr)} {pos : Pos} {x : Str} {px : Pos} {elt i1 t1 : PySem.Expr}
theorem comp1_start (hclos : closureFor scope env = pure cl) (hkind : scope.kind = .function) (hnames : ∀ y ∈ scope.names, y.2 = .local → scope.names.lookup y.1 = some .local)
    (h : wpAny (MD w) A (eval i1 env) (fun xv s₁ => Comp1 w A env elt t1 i1 scope cl pos Q E xv s₁) E s) (hs : ∀ x, foldedSetIterable i1 env x = pure x) :
    wpAny (MD w) A (eval (.ListComp elt [⟨t1, i1, [], 0⟩] scope pos) env) Q E s := by
  rw [eval_ListComp]
  exact wpAny_comprehension_free (use := none) rfl hs hclos hkind hnames h
theorem comp_made {J Cc : Addr} {ns : List Int} {B c : Nat} {r : Addr} {a b : Int} {t u v : Tok} {n : Nat} {P : TP → Value → Prop} (hmono : ∀ T T' : TP, (∀ a vs, T a vs → T' a vs) → ∀ y, P T y → P T' y)
    (hh : A.handled = none) (hcell : ∀ z ∈ scope.names, z.2 ≠ .cell) (hkind : scope.kind = .function) (hx : scope.names.lookup x = some .local) (F : Fr g L s.heap m)
    (hr : IsRange s.heap r a b 1 t u v) (hsm : Builtin.Range.small a b 1 = true) (hn : Builtin.Range.rangeSize a b 1 = ((n : Nat) : Int)) (hsz : n ≤ sizeLine) (hJ : JarIn s.heap J Cc ns B) (hJ0 : g.get? J = none)
    (turn : ∀ i h tk C m₂ (E' : Value → Shared → Prop), i < n → Fr g L h m → Keep [J] L s.heap h → JarIn h J Cc ns (B + i * c) → h.Ns C m₂ → g.get? C = none → C ≠ L → C ≠ J →
      wpAny (MD w) A (eval elt (compEnvC scope cl C env)) (fun y s' => ∃ h' tk', s' = { s with heap := h', toks := tk' } ∧ Fr g L h' m ∧ Keep [J] L h h' ∧ JarIn h' J Cc ns (B + (i + 1) * c) ∧ P (IsTup h') y) E' { s with heap := h, toks := tk })
    (done : ∀ D ys h tk, Fr g L h m → Keep [J] L s.heap h → h.get? D = some (LCg.lst ys) → g.get? D = none → s.heap.get? D = none → ys.length = n → JarIn h J Cc ns (B + n * c) → (∀ y ∈ ys, P (IsTup h) y) → Q (.ref D) { s with heap := h, toks := tk }) :
    Comp1 w A env elt (.Name x px) i1 scope cl pos Q E (.ref r) s := by
  have hLlt : L < s.heap.objs.size := F.ns.lt
  refine wpAny_pyIter_range hr hsm ?_
  refine wpAny_newObj_type (wpAny_newFunctionEnv hcell (by intro y hy; simp at hy) (fun h₁ hns₁ hsb₁ => ?_) hkind)
  dsimp only at hns₁ hsb₁ ⊢
  generalize hH1 : s.heap.push _ = H1 at hns₁ hsb₁ ⊢
  generalize hH2 : H1.push { cls := .type "list", dict := none, data := .seq ([] : List Value).toArray } = H2 at hns₁ hsb₁ ⊢
  have z1 : H1.objs.size = s.heap.objs.size + 1 := by rw [← hH1, Heap.size_push]
  have z2 : H2.objs.size = H1.objs.size + 1 := by rw [← hH2, Heap.size_push]
  generalize hIe : s.heap.objs.size = I at *
  generalize hDe : H1.objs.size = D at *
  generalize hCe : H2.objs.size = C at *
  have lID : I < D := by omega
  have lDC : D < C := by omega
  have lIC : I < C := Nat.lt_trans lID lDC
  have ID : I ≠ D := Nat.ne_of_lt lID
  have IC : I ≠ C := Nat.ne_of_lt lIC
  have DC : D ≠ C := Nat.ne_of_lt lDC
  have gI : IsRangeIter h₁ I (a + ((0 : Nat) : Int) * 1) ((n : Int) - ((0 : Nat) : Int)) 1 := by
    refine hsb₁.extBut _ _ IC (Heap.get?_push_of_some _ ?_)
    rw [← hH2]
    refine Heap.get?_push_of_some _ ?_
    rw [← hH1, ← hIe, hn]
    simpa using Heap.get?_push_size _ rfl
  have gD : h₁.get? D = some (LCg.lst []) := by
    refine hsb₁.extBut _ _ DC (Heap.get?_push_of_some _ ?_)
    rw [← hH2, ← hDe]
    exact Heap.get?_push_size _ rfl
  have old : ∀ b o, s.heap.get? b = some o → h₁.get? b = some o := fun b o e => by
    have hb : b < I := hIe ▸ Heap.lt_size e
    refine hsb₁.extBut _ _ (Nat.ne_of_lt (Nat.lt_trans hb lIC)) (Heap.get?_push_of_some _ ?_)
    rw [← hH2]
    refine Heap.get?_push_of_some _ ?_
    rw [← hH1]
    exact Heap.get?_push_of_some _ e
  have fI : s.heap.get? I = none := fresh_none (by rw [hIe]; exact Nat.le_refl _)
  have fD : s.heap.get? D = none := fresh_none (by rw [hIe]; exact Nat.le_of_lt lID)
  have fC : s.heap.get? C = none := fresh_none (by rw [hIe]; exact Nat.le_of_lt lIC)
  have bI := base_none F fI
  have bD := base_none F fD
  have bC := base_none F fC
  have LI : L ≠ I := Nat.ne_of_lt hLlt
  have LD : L ≠ D := Nat.ne_of_lt (Nat.lt_trans hLlt lID)
  have LC : L ≠ C := Nat.ne_of_lt (Nat.lt_trans hLlt lIC)
  have hCJ := hJ.ne
  refine ex9 (id hJ) ?_
  intro _ _ _ _ _ _ _ _ _
  intro hII
  refine an3 hII ?_
  clear hII
  intro eJ eCc _
  have JI : J ≠ I := fun q => by rw [q, fI] at eJ; cases eJ
  have JD : J ≠ D := fun q => by rw [q, fD] at eJ; cases eJ
  have JC : J ≠ C := fun q => by rw [q, fC] at eJ; cases eJ
  have cI : Cc ≠ I := fun q => by rw [q, fI] at eCc; cases eCc
  have cD : Cc ≠ D := fun q => by rw [q, fD] at eCc; cases eCc
  have cC : Cc ≠ C := fun q => by rw [q, fC] at eCc; cases eCc
  have W := LCg.range_walks (prog := PG) (w := w) (I := I) hh a n
  have loop : ∀ tk, codeAny (MD w) A (.compLoop (.ListComp elt [⟨.Name x px, i1, [], 0⟩] scope pos) 0 (.ref I) (.ref D) (compEnvC scope cl C env)) (compPost (MD w) A E none Q (.ref D) C) { s with heap := h₁, toks := tk } := by
    intro tk
    refine codeAny_compLoop_tests (fun k s' => ∃ i h tk mC ys, s' = { s with heap := h, toks := tk } ∧ i ≤ n ∧ k = n + 1 - i ∧ IsRangeIter h I (a + (i : Nat) * 1) ((n : Int) - (i : Nat)) 1 ∧ Fr g L h m ∧ h.Ns C mC ∧ Keep [J] L s.heap h ∧
      h.get? D = some (LCg.lst ys) ∧ ys.length = i ∧ JarIn h J Cc ns (B + i * c) ∧ (∀ y ∈ ys, P (IsTup h) y)) ?_ (n + 1) ⟨0, h₁, tk, _, [], rfl, Nat.zero_le _, rfl, gI, F.keeps old, hns₁, fun b o _ _ e => old b o e, gD, rfl, by
        rw [Nat.zero_mul, Nat.add_zero]; exact hJ.keep (fun o e => old _ _ e) fun o e => old _ _ e, fun y hy => (List.not_mem_nil hy).elim⟩
    intro k s' hII
    refine ex5 hII ?_
    clear hII
    intro i h tk mC ys
    intro hII
    refine an11 hII ?_
    clear hII
    intro eqO1
    subst eqO1
    intro hi eqO2
    subst eqO2
    intro hit F' hC' hk hD' hyl hJ' hP
    by_cases hlt' : i < n
    · refine W.item i _ _ _ hlt' hit fun v h₂ tk₂ hv hst₂ hk₂ => ?_
      have k2 : ∀ b o, b ≠ I → h.get? b = some o → h₂.get? b = some o := fun b o hb e => hk₂ b o (fun q => hb (List.mem_singleton.mp q)) e
      refine wpAny_assign_Name (wpAny_storeName_local (lookup_relabel_local hx) (hC'.at fun o e => k2 _ o (Ne.symm IC) e) (fun h₃ hn₃ hs₃ => ?_) (by simp [compEnvC, relabel, hkind]))
      refine wpAny_tests_nil ?_
      simp only [if_true]
      have k3 : ∀ b o, b ≠ C → h₂.get? b = some o → h₃.get? b = some o := fun b o hb e => hs₃.extBut b o hb e
      have F3 : Fr g L h₃ m := fr_butX F' (X := [I, C]) (fun b o hb e => k3 _ _ (fun q => hb (by simp [q])) (k2 _ _ (fun q => hb (by simp [q])) e)) (by simp [LI, LC]) (fun b hb => by
        rcases List.mem_cons.mp hb with q | q
        · rw [q]; exact bI
        · rw [List.mem_singleton.mp q]; exact bC)
      have k03 : Keep [J] L s.heap h₃ := fun b o h1 h2 e => k3 _ _ (fun q => by rw [q, fC] at e; cases e) (k2 _ _ (fun q => by rw [q, fI] at e; cases e) (hk b o h1 h2 e))
      have J3 : JarIn h₃ J Cc ns (B + i * c) := hJ'.keep (fun o e => k3 _ _ JC (k2 _ _ JI e)) fun o e => k3 _ _ cC (k2 _ _ cI e)
      refine wpAny_mono (turn i h₃ _ C _ _ hlt' F3 k03 J3 hn₃ bC (Ne.symm LC) (Ne.symm JC)) (fun y s₄ h4 => ?_) fun _ _ e => e
      refine ex2 h4 ?_
      clear h4
      intro h₄ tk₄
      intro hII
      refine an5 hII ?_
      clear hII
      intro eqO1
      subst eqO1
      intro F4 k4 J4 hy
      have gD3 : h₃.get? D = some (LCg.lst ys) := k3 _ _ DC (k2 _ _ (Ne.symm ID) hD')
      have gD4 := k4 D _ (by simpa using Ne.symm JD) (Ne.symm LD) gD3
      have gI3 : IsRangeIter h₃ I _ _ _ := k3 _ _ IC hst₂
      have gI4 : IsRangeIter h₄ I _ _ _ := k4 I _ (by simpa using Ne.symm JI) (Ne.symm LI) gI3
      have hn4 : h₄.Ns C _ := hn₃.at fun o e => k4 C o (by simpa using Ne.symm JC) (Ne.symm LC) e
      refine append_at (hsz := by show ys.toArray.size ≤ sizeLine; rw [List.size_toArray, hyl]; exact Nat.le_trans hi hsz) gD4 fun h₅ hs₅ hD₅ => ?_
      have k5 : ∀ b o, b ≠ D → h₄.get? b = some o → h₅.get? b = some o := fun b o hb e => hs₅.extBut b o hb e
      refine ex9 (id J3) ?_
      intro _ _ _ _ _ _ _ _ _
      intro hII
      refine an2 hII ?_
      clear hII
      intro eJ3 _
      have T03 : ∀ a vs, IsTup h a vs → IsTup h₃ a vs := tup_butX (X := [I, C]) (fun b o hb e => k3 _ _ (fun q => hb (by simp [q])) (k2 _ _ (fun q => hb (by simp [q])) e)) (fun b hb => by
        rcases List.mem_cons.mp hb with q | q
        · rw [q]
          intro o e vs n' d c'
          have hit' : h.get? I = some _ := hit
          rw [hit'] at e; cases e; cases d
        · rw [List.mem_singleton.mp q]; exact notup_ns hC')
      have T34 : ∀ a vs, IsTup h₃ a vs → IsTup h₄ a vs := tupX k4 (notup_ns F3.ns) (fun b hb => by rw [List.mem_singleton.mp hb]; exact notup_list eJ3)
      have T45 : ∀ a vs, IsTup h₄ a vs → IsTup h₅ a vs := tup_butX (X := [D]) (fun b o hb e => k5 b o (fun q => hb (by simp [q])) e) (fun b hb => by rw [List.mem_singleton.mp hb]; exact notup_list (us := ys.toArray) (n := ys.length) gD4)
      refine ⟨n + 1 - (i + 1), by omega, i + 1, h₅, tk₄, _, ys ++ [y], rfl, hlt', rfl, k5 _ _ ID gI4, ?_, hn4.at fun o e => k5 _ o (Ne.symm DC) e, ?_, hD₅.trans (congrArg some (LCg.lst_snoc ys y)), by rw [List.length_append, List.length_singleton, hyl], J4.keep (fun o e => k5 _ _ JD e) (fun o e => k5 _ _ cD e), ?_⟩
      · exact fr_butX F4 (X := [D]) (fun b o hb e => k5 b o (fun q => hb (by simp [q])) e) (by simp [LD]) (fun b hb => by rw [List.mem_singleton.mp hb]; exact bD)
      · exact fun b o h1 h2 e => k5 _ _ (fun q => by rw [q, fD] at e; cases e) (k4 _ _ h1 h2 (k03 _ _ h1 h2 e))
      · intro y' hy'
        rcases List.mem_append.mp hy' with q | q
        · exact hmono _ _ (fun a vs x => T45 _ _ (T34 _ _ (T03 _ _ x))) _ (hP _ q)
        · rw [List.mem_singleton.mp q]; exact hmono _ _ T45 _ hy
    · obtain rfl : i = n := Nat.le_antisymm hi (Nat.not_lt.mp hlt')
      refine W.done _ _ _ hit fun h₂ tk₂ hk₂ => ?_
      have k2 : ∀ b o, b ≠ I → h.get? b = some o → h₂.get? b = some o := fun b o hb e => hk₂ b o (fun q => hb (List.mem_singleton.mp q)) e
      refine ⟨mC, hC'.at fun o e => k2 _ o (Ne.symm IC) e, fun h₃ hs₃ => ?_⟩
      have k3 : ∀ b o, b ≠ C → h₂.get? b = some o → h₃.get? b = some o := fun b o hb e => hs₃.extBut b o hb e
      have kk : ∀ b o, b ∉ [I, C] → h.get? b = some o → h₃.get? b = some o := fun b o hb e => k3 _ _ (fun q => hb (by simp [q])) (k2 _ _ (fun q => hb (by simp [q])) e)
      have T03 : ∀ a vs, IsTup h a vs → IsTup h₃ a vs := tup_butX (X := [I, C]) kk (fun b hb => by
        rcases List.mem_cons.mp hb with q | q
        · rw [q]
          intro o e vs n' d c'
          have hit' : h.get? I = some _ := hit
          rw [hit'] at e; cases e; cases d
        · rw [List.mem_singleton.mp q]; exact notup_ns hC')
      refine done D ys h₃ tk₂ (fr_butX F' (X := [I, C]) kk (by simp [LI, LC]) (fun b hb => by
        rcases List.mem_cons.mp hb with q | q
        · rw [q]; exact bI
        · rw [List.mem_singleton.mp q]; exact bC)) (fun b o h1 h2 e => ?_) (kk _ _ (by simp [Ne.symm ID, DC]) hD') bD fD hyl (hJ'.keep (fun o e => kk _ _ (by simp [JI, JC]) e) fun o e => kk _ _ (by simp [cI, cC]) e) (fun y hy => hmono _ _ T03 _ (hP y hy))
      have q1 : b ≠ I := fun q => by rw [q, fI] at e; cases e
      have q3 : b ≠ C := fun q => by rw [q, fC] at e; cases e
      exact kk _ _ (by simp [q1, q3]) (hk b o h1 h2 e)
  exact codeAny_compStart_list (loop _) (W.self 0 _ _ _ gI (loop _))
end

noncomputable def dcost : Nat → Nat
  | 0 => 2
  | n + 1 => 3 + 2 * dcost n
noncomputable def ssz : Nat → Nat
  | 0 => 1
  | n + 1 => 1 + 2 * ssz n
theorem ssz_pos (n : Nat) : 1 ≤ ssz n := by
  cases n with
  | zero => exact Nat.le_refl _
  | succ n => unfold ssz; omega
theorem dcost_pos (n : Nat) : 2 ≤ dcost n := by
  cases n with
  | zero => exact Nat.le_refl _
  | succ n => unfold dcost; omega
/-- a statement of the law's script -/
noncomputable def StMade (n : Nat) (T : TP) (v : Value) : Prop := ∃ st, StAt T v st ∧ ht st ≤ n ∧ sz st ≤ ssz n
theorem StMade.mono {n : Nat} : ∀ T T' : TP, (∀ a vs, T a vs → T' a vs) → ∀ y, StMade n T y → StMade n T' y := fun T T' h y x => by
  obtain ⟨st, p, q, r⟩ := x
  exact ⟨st, p.mono h, q, r⟩
theorem sts_made {n : Nat} {T : TP} : ∀ {ys : List Value}, (∀ y ∈ ys, StMade n T y) → ∃ ss, StsAt T ys ss ∧ htL ss ≤ n ∧ szL ss ≤ ys.length * ssz n
  | [], _ => ⟨[], by unfold StsAt; rfl, by unfold htL; omega, by unfold szL; omega⟩
  | y :: ys, h => by
    obtain ⟨ss, p, q, r⟩ := sts_made (ys := ys) (fun y hy => h y (.tail _ hy))
    obtain ⟨st, p1, q1, r1⟩ := h y (.head _)
    refine ⟨st :: ss, by unfold StsAt; exact ⟨_, _, rfl, p1, p⟩, by unfold htL; omega, ?_⟩
    unfold szL
    rw [List.length_cons, Nat.succ_mul]
    omega
theorem two_of {g h : Heap} {L : Addr} {I : List (Addr × Obj)} {p q : Addr × Obj} (N : News g L h I) (h1 : p ∈ I) (h2 : q ∈ I) : News g L h [p, q] := fun x hx => by
  rcases List.mem_cons.mp hx with rfl | hx
  · exact N _ h1
  · rw [List.mem_singleton.mp hx]; exact N _ h2
theorem jar_led {g h h' : Heap} {L J : Addr} {o : Obj} {p q : Addr × Obj} (NO : News g L h [p, q]) (hc : ∀ x ∈ [p, q], x.1 ≠ J) (K : Keep [J] L h h') (e : h'.get? J = some o) (hL : J ≠ L) (hg : g.get? J = none) : News g L h' (p :: q :: (J, o) :: snap g L h' [J]) := fun x hx => by
  have kk : ∀ x ∈ [p, q], h'.get? x.1 = some x.2 ∧ x.1 ≠ L ∧ g.get? x.1 = none := fun x hx => ⟨K _ _ (by simpa using hc x hx) (NO x hx).2.1 (NO x hx).1, (NO x hx).2⟩
  rcases List.mem_cons.mp hx with rfl | hx
  · exact kk _ (.head _)
  · rcases List.mem_cons.mp hx with rfl | hx
    · exact kk _ (.tail _ (.head _))
    · exact jar_news e hL hg _ hx
/-- tuple(a list) at which the walk stops -/
noncomputable def TupStop (w : World) (A : Around) (a : Addr) (Q E : Value → Shared → Prop) (s : Shared) : Prop := wpAny (MD w) A (call (.type "tuple") [.ref a]) Q E s
theorem tup_stop {w : World} {A : Around} {a : Addr} {Q E : Value → Shared → Prop} {s : Shared} (h : TupStop w A a Q E s) : wpAny (MD w) A (call (.type "tuple") [.ref a]) Q E s := h
section
 local macro_rules | `(tactic| k_all) => `(tactic| with_reducible assumption)
 local macro_rules | `(tactic| walk_at "call ref") => `(tactic| (k_here; refine' call_stop ?_))
 local macro_rules | `(tactic| walk_at "call type:tuple") => `(tactic| (k_here; refine' tup_stop ?_))
 local macro_rules | `(tactic| walk_at "eval ListComp") => `(tactic| (k_here; k_dflt (refine' comp1_start ?hclos ?hkind ?hnames ?_ ?hs; (case hclos => with_unfolding_all rfl); (case hkind => exact rfl); (case hnames => decide); (case hs => (intro _; exact rfl)); k_whole)))
 local macro_rules | `(tactic| walk_at "Mine.idle") => `(tactic| skip)
 local macro_rules | `(tactic| walk_at "Mine.idle") => `(tactic| skip)
 local macro_rules | `(tactic| walk_at "Mine.idle") => `(tactic| skip)
 local macro_rules | `(tactic| walk_at "Mine.idle") => `(tactic| skip)
theorem law_statement_spec {w : World} {J C : Addr} {ns : List Int} : ∀ (n : Nat) (t : Tok), MakesAt w 287 [.ref J, .int (n : Int) t] (40 + 20 * n) (400 + 200 * n) J C ns (dcost n) (StMade n) := by
  intro n
  induction n with
  | zero =>
    intro t
    show MakesAt w 287 [.ref J, .int 0 t] _ _ J C ns 2 _
    walk_at "Mine.makesC"
    intro mean mg mb dp un gd outer A₀ base g L h₁ s own B Qe Bw F X Tp hd hu NO lO Y hJ hJ0 hJL hC hB
    refine hide_of ?_
    intro G
    refine ex9 (jar_split hJ) ?_
    intro a b p t1 t2 t3 n' cs kk
    intro hII
    refine an3 hII ?_
    clear hII
    intro eJ eC hn
    refine ex2 (CellsAre.two Y) ?_
    intro q1 q2
    intro hII
    refine an3 hII ?_
    clear hII
    intro e c1 c2
    subst e
    clear Y
    have F : Fr g L h₁ (fun _ => Option.none) := F
    have c1 : q1.data = .cell (some (.int 0 t)) := c1
    have c2 : q2.data = .cell (some (.ref J)) := c2
    have NO : News g L h₁ [(L + 1 + 1, q1), (L + 1, q2)] := NO
    have lc1 : J < L + 1 + 1 := lO _ (.head _)
    have lc2 : J < L + 1 := lO _ (.tail _ (.head _))
    have hcJ : ∀ p ∈ [(L + 1 + 1, q1), (L + 1, q2)], p.1 ≠ J := fun p hp => Nat.ne_of_gt (lO p hp)
    have nc1 : @Ne Nat (L + 1 + 1) J := Nat.ne_of_gt lc1
    have nc2 : @Ne Nat (L + 1) J := Nat.ne_of_gt lc2
    clear lO
    have N := jar_led NO hcJ (fun b o _ _ e => e) eJ hJL hJ0
    have off := jar_off (g := g) (h := h₁) (L := L) (J := J)
    have eC' := hC _ eC
    clear hC eC hJ NO
    walk_at "Mine.in"
    rename News g L _ _ => N1
    rename Fr g L _ _ => F1
    have nL1 := notup_ns F1.ns
    have nJ1 := notup_list (N1 (J, jarO _ _ _ _ _ _ _ _) (by k_mem)).1
    unfold CallStop
    refine (law_spot_spec).jarS (R := fun o h => (L + 1 + 1, q1) :: (L + 1, q2) :: (J, o) :: snap g L h [J]) N1 (by k_mem) (two_of N1 (by k_mem) (by k_mem)) hcJ (fun _ _ => rfl) (F1.keep _ _ eC') hn (old_C eC') hJ0 hJL (by first | exact bud hB 0 (by decide) | exact bud2 hB 0 (by decide) | omega) (ret := fun i2 u2 h2 tk2 a2 b2 p2 x2 y2 z2 n2  F2 K2 N2 off2 eJ2 eC2 hn2 => ?_)
    clear eC2
    have kb2 := F2.keep
    have nL2 := notup_ns F2.ns
    have nJ2 := notup_list eJ2
    clear N1 F1
    walk_at "Mine.in"
    rename News g L _ _ => N3
    rename Fr g L _ _ => F3
    have nL3 := notup_ns F3.ns
    have nJ3 := notup_list (N3 (J, jarO _ _ _ _ _ _ _ _) (by k_mem)).1
    unfold CallStop
    refine (law_id_spec).jarD (R := fun o h => (L + 1 + 1, q1) :: (L + 1, q2) :: (J, o) :: snap g L h [J]) N3 (by k_mem) (two_of N3 (by k_mem) (by k_mem)) hcJ (fun _ _ => rfl) (F3.keep _ _ eC') hn2 (old_C eC') hJ0 hJL (by first | exact bud hB 1 (by decide) | exact bud2 hB 1 (by decide) | omega) (ret := fun v4 d4 h4 tk4 a4 b4 p4 x4 y4 z4 n4 P4 o4 F4 K4 N4 off4 eJ4 eC4 hn4 => ?_)
    clear eC4
    have kb4 := F4.keep
    have nL4 := notup_ns F4.ns
    have nJ4 := notup_list eJ4
    clear N3 F3
    walk_at "Mine.in"
    rename News g L _ _ => N4a
    rename Fr g L _ _ => F4a
    have T4a := tupX (keep_by (M := [J]) kb4 F4a N4a (fun p hp => by first | exact .tail _ (.tail _ (.tail _ hp)) | exact .tail _ (.tail _ (.tail _ (.tail _ hp))) | exact .tail _ (.tail _ (.tail _ (.tail _ (.tail _ hp)))) | exact .tail _ (.tail _ (.tail _ (.tail _ (.tail _ (.tail _ hp))))))) nL4 (fun b hb => by rw [List.mem_singleton.mp hb]; exact nJ4)
    rename News g L _ _ => N5
    rename Fr g L _ _ => F5
    have nL5 := notup_ns F5.ns
    have nJ5 := notup_list (N5 (J, jarO _ _ _ _ _ _ _ _) (by k_mem)).1
    unfold CallStop
    refine (law_id_spec).jarD (R := fun o h => (L + 1 + 1, q1) :: (L + 1, q2) :: (J, o) :: snap g L h [J]) N5 (by k_mem) (two_of N5 (by k_mem) (by k_mem)) hcJ (fun _ _ => rfl) (F5.keep _ _ eC') hn4 (old_C eC') hJ0 hJL (by first | exact bud hB 2 (by decide) | exact bud2 hB 2 (by decide) | omega) (ret := fun v6 d6 h6 tk6 a6 b6 p6 x6 y6 z6 n6 P6 o6 F6 K6 N6 off6 eJ6 eC6 hn6 => ?_)
    clear eC6
    have kb6 := F6.keep
    have nL6 := notup_ns F6.ns
    have nJ6 := notup_list eJ6
    have T6 := tupX K6 nL5 (fun b hb => by rw [List.mem_singleton.mp hb]; exact nJ5)
    clear N5 F5
    walk_at "Mine.in"
    walk_at "Mine.gfin"
    rename News g L _ _ => N6a
    rename Fr g L _ _ => F6a
    have T6a := tupX (keep_by (M := [J]) kb6 F6a N6a (fun p hp => by first | exact .tail _ (.tail _ (.tail _ hp)) | exact .tail _ (.tail _ (.tail _ (.tail _ hp))) | exact .tail _ (.tail _ (.tail _ (.tail _ (.tail _ hp)))) | exact .tail _ (.tail _ (.tail _ (.tail _ (.tail _ (.tail _ hp))))))) nL6 (fun b hb => by rw [List.mem_singleton.mp hb]; exact nJ6)
    exact made_end F6a N6a (by k_mem) eC' (hn6.mono (by omega)) ⟨.set _ d4 d6, (by unfold StAt; exact ⟨_, _, _, _, _, rfl, ⟨_, (N6a _ (.head _)).1, rfl, _, rfl⟩, ((P4.mono T4a).mono T6).mono T6a, P6.mono T6a⟩), by unfold ht; omega, by unfold sz; exact ssz_pos _⟩
  | succ n ih =>
    intro t
    obtain ⟨k, hk⟩ : ∃ k : Int, k = ((n + 1 : Nat) : Int) := ⟨_, rfl⟩
    rw [← hk]
    have hk0 : 0 < k := by omega
    have ih' : ∀ t', MakesAt w 287 [.ref J, .int (k - 1) t'] (40 + 20 * n) (400 + 200 * n) J C ns (dcost n) (StMade n) := fun t' => by
      rw [show k - 1 = (n : Int) by omega]; exact ih t'
    have hdc : dcost (n + 1) = 3 + 2 * dcost n := rfl
    have hdp := dcost_pos n
    have hsz : ssz (n + 1) = 1 + 2 * ssz n := rfl
    have hsp := ssz_pos n
    rw [hdc]
    generalize hdn : dcost n = dn at *
    clear ih hk
    walk_at "Mine.makesC"
    intro mean mg mb dp un gd outer A₀ base g L h₁ s own B Qe Bw F X Tp hd hu NO lO Y hJ hJ0 hJL hC hB
    refine hide_of ?_
    intro G
    refine ex9 (jar_split hJ) ?_
    intro a b p t1 t2 t3 n' cs kk
    intro hII
    refine an3 hII ?_
    clear hII
    intro eJ eC hn
    refine ex2 (CellsAre.two Y) ?_
    intro q1 q2
    intro hII
    refine an3 hII ?_
    clear hII
    intro e c1 c2
    subst e
    clear Y
    have F : Fr g L h₁ (fun _ => Option.none) := F
    have c1 : q1.data = .cell (some (.int k t)) := c1
    have c2 : q2.data = .cell (some (.ref J)) := c2
    have NO : News g L h₁ [(L + 1 + 1, q1), (L + 1, q2)] := NO
    have lc1 : J < L + 1 + 1 := lO _ (.head _)
    have lc2 : J < L + 1 := lO _ (.tail _ (.head _))
    have hcJ : ∀ p ∈ [(L + 1 + 1, q1), (L + 1, q2)], p.1 ≠ J := fun p hp => Nat.ne_of_gt (lO p hp)
    have nc1 : @Ne Nat (L + 1 + 1) J := Nat.ne_of_gt lc1
    have nc2 : @Ne Nat (L + 1) J := Nat.ne_of_gt lc2
    clear lO
    have N := jar_led NO hcJ (fun b o _ _ e => e) eJ hJL hJ0
    have off := jar_off (g := g) (h := h₁) (L := L) (J := J)
    have eC' := hC _ eC
    clear hC eC hJ NO
    walk_at "Mine.in"
    rename News g L _ _ => N1
    rename Fr g L _ _ => F1
    have nL1 := notup_ns F1.ns
    have nJ1 := notup_list (N1 (J, jarO _ _ _ _ _ _ _ _) (by k_mem)).1
    unfold CallStop
    refine (law_draw_spec (by decide) (by decide)).jarI (R := fun o h => (L + 1 + 1, q1) :: (L + 1, q2) :: (J, o) :: snap g L h [J]) N1 (by k_mem) (two_of N1 (by k_mem) (by k_mem)) hcJ (fun _ _ => rfl) (F1.keep _ _ eC') hn (old_C eC') hJ0 hJL (by first | exact bud hB 1 (by decide) | exact bud2 hB 1 (by decide) | omega) (ret := fun i2 u2 h2 tk2 a2 b2 p2 x2 y2 z2 n2 i20 i21 F2 K2 N2 off2 eJ2 eC2 hn2 => ?_)
    clear eC2
    have kb2 := F2.keep
    have nL2 := notup_ns F2.ns
    have nJ2 := notup_list eJ2
    clear N1 F1
    have hi2 : i2 = 4 ∨ i2 = 5 ∨ i2 = 3 ∨ (i2 ≠ 4 ∧ i2 ≠ 5 ∧ i2 ≠ 3) := by omega
    rcases hi2 with e | e | e | ⟨e4, e5, e3⟩
    · subst e
      walk_at "Mine.in"
      rename News g L _ _ => N3
      rename Fr g L _ _ => F3
      have nL3 := notup_ns F3.ns
      have nJ3 := notup_list (N3 (J, jarO _ _ _ _ _ _ _ _) (by k_mem)).1
      unfold CallStop
      refine (law_spot_spec).jarS (R := fun o h => (L + 1 + 1, q1) :: (L + 1, q2) :: (J, o) :: snap g L h [J]) N3 (by k_mem) (two_of N3 (by k_mem) (by k_mem)) hcJ (fun _ _ => rfl) (F3.keep _ _ eC') hn2 (old_C eC') hJ0 hJL (by first | exact bud hB 1 (by decide) | exact bud2 hB 1 (by decide) | omega) (ret := fun i4 u4 h4 tk4 a4 b4 p4 x4 y4 z4 n4  F4 K4 N4 off4 eJ4 eC4 hn4 => ?_)
      clear eC4
      have kb4 := F4.keep
      have nL4 := notup_ns F4.ns
      have nJ4 := notup_list eJ4
      clear N3 F3
      walk_at "Mine.in"
      rename News g L _ _ => N5
      rename Fr g L _ _ => F5
      have nL5 := notup_ns F5.ns
      have nJ5 := notup_list (N5 (J, jarO _ _ _ _ _ _ _ _) (by k_mem)).1
      unfold CallStop
      refine (law_id_spec).jarD (R := fun o h => (L + 1 + 1, q1) :: (L + 1, q2) :: (J, o) :: snap g L h [J]) N5 (by k_mem) (two_of N5 (by k_mem) (by k_mem)) hcJ (fun _ _ => rfl) (F5.keep _ _ eC') hn4 (old_C eC') hJ0 hJL (by first | exact bud hB 2 (by decide) | exact bud2 hB 2 (by decide) | omega) (ret := fun v6 d6 h6 tk6 a6 b6 p6 x6 y6 z6 n6 P6 o6 F6 K6 N6 off6 eJ6 eC6 hn6 => ?_)
      clear eC6
      have kb6 := F6.keep
      have nL6 := notup_ns F6.ns
      have nJ6 := notup_list eJ6
      clear N5 F5
      walk_at "Mine.in"
      rename News g L _ _ => N6a
      rename Fr g L _ _ => F6a
      have T6a := tupX (keep_by (M := [J]) kb6 F6a N6a (fun p hp => by first | exact .tail _ (.tail _ (.tail _ hp)) | exact .tail _ (.tail _ (.tail _ (.tail _ hp))) | exact .tail _ (.tail _ (.tail _ (.tail _ (.tail _ hp)))) | exact .tail _ (.tail _ (.tail _ (.tail _ (.tail _ (.tail _ hp))))))) nL6 (fun b hb => by rw [List.mem_singleton.mp hb]; exact nJ6)
      rename News g L _ _ => N7
      rename Fr g L _ _ => F7
      have nL7 := notup_ns F7.ns
      have nJ7 := notup_list (N7 (J, jarO _ _ _ _ _ _ _ _) (by k_mem)).1
      unfold CallStop
      refine (ih' _).jar (R := fun o h => (L + 1 + 1, q1) :: (L + 1, q2) :: (J, o) :: snap g L h [J]) N7 (by k_mem) (two_of N7 (by k_mem) (by k_mem)) hcJ (fun _ _ => rfl) (F7.keep _ _ eC') hn6 (old_C eC') hJ0 hJL (by first | exact bud hB 2 (by decide) | exact bud2 hB 2 (by decide) | omega) (ret := fun v8 h8 tk8 a8 b8 p8 x8 y8 z8 n8 P8 F8 K8 N8 off8 eJ8 eC8 hn8 => ?_)
      clear eC8
      have kb8 := F8.keep
      have nL8 := notup_ns F8.ns
      have nJ8 := notup_list eJ8
      refine hide_of ?_
      intro G8
      obtain ⟨st, P8, o8, z8⟩ := P8
      have T8 := tupX K8 nL7 (fun b hb => by rw [List.mem_singleton.mp hb]; exact nJ7)
      clear N7 F7
      walk_at "Mine.in"
      walk_at "Mine.gfin"
      rename News g L _ _ => N8a
      rename Fr g L _ _ => F8a
      have T8a := tupX (keep_by (M := [J]) kb8 F8a N8a (fun p hp => by first | exact .tail _ (.tail _ (.tail _ hp)) | exact .tail _ (.tail _ (.tail _ (.tail _ hp))) | exact .tail _ (.tail _ (.tail _ (.tail _ (.tail _ hp)))) | exact .tail _ (.tail _ (.tail _ (.tail _ (.tail _ (.tail _ hp))))))) nL8 (fun b hb => by rw [List.mem_singleton.mp hb]; exact nJ8)
      exact made_end F8a N8a (by k_mem) eC' (hn8.mono (by omega)) ⟨.delay _ d6 st, (by unfold StAt; exact ⟨_, _, _, _, _, rfl, ⟨_, (N8a _ (.head _)).1, rfl, _, rfl⟩, ((P6.mono T6a).mono T8).mono T8a, P8.mono T8a⟩), by unfold ht; omega, by unfold sz; omega⟩
    · subst e
      walk_at "Mine.in"
      rename News g L _ _ => N3
      rename Fr g L _ _ => F3
      have nL3 := notup_ns F3.ns
      have nJ3 := notup_list (N3 (J, jarO _ _ _ _ _ _ _ _) (by k_mem)).1
      unfold CallStop
      refine (law_draw_spec (by decide) (by decide)).jarI (R := fun o h => (L + 1 + 1, q1) :: (L + 1, q2) :: (J, o) :: snap g L h [J]) N3 (by k_mem) (two_of N3 (by k_mem) (by k_mem)) hcJ (fun _ _ => rfl) (F3.keep _ _ eC') hn2 (old_C eC') hJ0 hJL (by first | exact bud hB 2 (by decide) | exact bud2 hB 2 (by decide) | omega) (ret := fun i4 u4 h4 tk4 a4 b4 p4 x4 y4 z4 n4 i40 i41 F4 K4 N4 off4 eJ4 eC4 hn4 => ?_)
      clear eC4
      have kb4 := F4.keep
      have nL4 := notup_ns F4.ns
      have nJ4 := notup_list eJ4
      clear N3 F3
      walk_at "Mine.in"
      rename News g L _ _ => N5
      rename Fr g L _ _ => F5
      have NO5 : News g L _ [(L + 1 + 1, q1), (L + 1, q2)] := two_of N5 (by k_mem) (by k_mem)
      have J5 := jar_of N5 (by k_mem) F5 eC' hn4
      refine comp_made (c := dn) (P := StMade n) StMade.mono rfl (by decide) rfl rfl F5 (by assumption) (small_one (by omega) (by omega) (by omega) (by omega)) (rangeSize_nat _ _) (by rw [sizeLine_eq]; omega) J5 hJ0 (fun i h tk C' m₂ E' hi F6 K6 J6 hC' bC nCL nCJ => ?_) (fun D ys h6 tk6 F6 K6 hD bD fD hlen J6 hP => ?_)
      · have hid : i * dn ≤ dn := by
          have : i = 0 ∨ i = 1 := by omega
          rcases this with e | e <;> subst e <;> omega
        have hid1 : (i + 1) * dn = i * dn + dn := Nat.succ_mul _ _
        refine hide_of ?_
        intro G7
        refine ex7 (jar_open J6 (F6.keep _ _ eC')) ?_
        intro a7 b7 p7 x7 y7 z7 n7
        intro hII
        refine an2 hII ?_
        clear hII
        intro eJ7 hn7
        have N7 := jar_led NO5 hcJ K6 eJ7 hJL hJ0
        clear N5 J6
        walk_at "Mine.in"
        rename Fr g L _ _ => F8
        unfold CallStop
        refine MakesAt.use (ih' _) (by k_asm) F8 (by k_asm) (by k_asm) rfl (by walk_at "Mine.ar") (by walk_at "Mine.ar") (jar_of N7 (by k_mem) F8 eC' hn7) hJ0 hJL (by omega) (fun v9 h9 tk9 F9 K9 J9 P9 => ?_)
        exact ⟨h9, tk9, rfl, F9, K9, by rw [hid1, ← Nat.add_assoc]; exact J9, P9⟩
      · have hid : (i4 - 0).toNat * dn ≤ 2 * dn := Nat.mul_le_mul_right _ (by omega)
        have hzs : ys.length * ssz n ≤ 2 * ssz n := Nat.mul_le_mul_right _ (by omega)
        refine hide_of ?_
        intro G6
        obtain ⟨ss, hss, hht, hsz9⟩ := sts_made hP
        refine ex7 (jar_open J6 (F6.keep _ _ eC')) ?_
        intro a6 b6 p6 x6 y6 z6 n6
        intro hII
        refine an2 hII ?_
        clear hII
        intro eJ6 hn6
        have N6 := jar_led NO5 hcJ K6 eJ6 hJL hJ0
        have nDL := neL F6 hD
        have nDJ : D ≠ J := fun q => by
          refine ex7 (jar_open J5 (F5.keep _ _ eC')) ?_
          intro _ _ _ _ _ _ _
          intro hII
          refine an2 hII ?_
          clear hII
          intro e9 _
          rw [← q, fD] at e9; cases e9
        have N6 : News g L h6 ((D, LCg.lst ys) :: _) := News.cons (p := (D, LCg.lst ys)) (I := []) (fun p hp => by rw [List.mem_singleton.mp hp]; exact ⟨hD, nDL, bD⟩) N6
        have off6 := jar_off (g := g) (h := h6) (L := L) (J := J)
        have kb6 := F6.keep
        have nL6 := notup_ns F6.ns
        have nJ6 := notup_list eJ6
        clear N5 NO5 J5 F5 J6 hP
        walk_at "Mine.in"
        rename News g L _ _ => N7
        rename Fr g L _ _ => F7
        unfold TupStop
        refine kde_tupleOf (zs := ys) F7 N7 ⟨_, (N7 _ (.head _)).1, rfl, _, rfl⟩ (by rw [List.size_toArray]; omega) (by simp) (fun D7 h7 F7 N7 l7 => ?_)
        skip
        walk_at "Mine.in"
        rename News g L _ _ => N6a
        rename Fr g L _ _ => F6a
        have T6a := tupX (keep_by (M := [J]) kb6 F6a N6a (fun p hp => by first | exact .tail _ (.tail _ (.tail _ hp)) | exact .tail _ (.tail _ (.tail _ (.tail _ hp))) | exact .tail _ (.tail _ (.tail _ (.tail _ (.tail _ hp)))) | exact .tail _ (.tail _ (.tail _ (.tail _ (.tail _ (.tail _ hp))))))) nL6 (fun b hb => by rw [List.mem_singleton.mp hb]; exact nJ6)
        have tD : IsTup _ D7 (List.toArray ys) := ⟨_, (N6a (D7, _) (by k_mem)).1, rfl, _, rfl⟩
        rename News g L _ _ => N8
        rename Fr g L _ _ => F8
        have nL8 := notup_ns F8.ns
        have nJ8 := notup_list (N8 (J, jarO _ _ _ _ _ _ _ _) (by k_mem)).1
        unfold CallStop
        refine (law_spot_spec).jarS (R := fun o h => (L + 1 + 1, q1) :: (L + 1, q2) :: (J, o) :: snap g L h [J]) N8 (by k_mem) (two_of N8 (by k_mem) (by k_mem)) hcJ (fun _ _ => rfl) (F8.keep _ _ eC') hn6 (old_C eC') hJ0 hJL (by first | exact bud hB 2 (by decide) | exact bud2 hB 2 (by decide) | omega) (ret := fun i9 u9 h9 tk9 a9 b9 p9 x9 y9 z9 n9  F9 K9 N9 off9 eJ9 eC9 hn9 => ?_)
        clear eC9
        have kb9 := F9.keep
        have nL9 := notup_ns F9.ns
        have nJ9 := notup_list eJ9
        have T9 := tupX K9 nL8 (fun b hb => by rw [List.mem_singleton.mp hb]; exact nJ8)
        clear N8 F8
        walk_at "Mine.in"
        walk_at "Mine.gfin"
        rename News g L _ _ => N9a
        rename Fr g L _ _ => F9a
        have T9a := tupX (keep_by (M := [J]) kb9 F9a N9a (fun p hp => by first | exact .tail _ (.tail _ (.tail _ hp)) | exact .tail _ (.tail _ (.tail _ (.tail _ hp))) | exact .tail _ (.tail _ (.tail _ (.tail _ (.tail _ hp)))) | exact .tail _ (.tail _ (.tail _ (.tail _ (.tail _ (.tail _ hp))))))) nL9 (fun b hb => by rw [List.mem_singleton.mp hb]; exact nJ9)
        exact made_end F9a N9a (by k_mem) eC' (hn9.mono (by omega)) ⟨.block _ (some (Str.ofString "lab")) ss, (by unfold StAt; exact ⟨_, _, _, _, _, _, ys, rfl, ⟨_, (N9a _ (.head _)).1, rfl, _, rfl⟩, ⟨_, rfl⟩, ⟨_, (N9a _ (.tail _ (.head _))).1, rfl, _, rfl⟩, T9a _ _ (T9 _ _ tD), ((hss.mono T6a).mono T9).mono T9a⟩), by unfold ht; omega, by unfold sz; omega⟩
    · subst e
      walk_at "Mine.in"
      rename News g L _ _ => N3
      rename Fr g L _ _ => F3
      have nL3 := notup_ns F3.ns
      have nJ3 := notup_list (N3 (J, jarO _ _ _ _ _ _ _ _) (by k_mem)).1
      unfold CallStop
      refine (law_draw_spec (by decide) (by decide)).jarI (R := fun o h => (L + 1 + 1, q1) :: (L + 1, q2) :: (J, o) :: snap g L h [J]) N3 (by k_mem) (two_of N3 (by k_mem) (by k_mem)) hcJ (fun _ _ => rfl) (F3.keep _ _ eC') hn2 (old_C eC') hJ0 hJL (by first | exact bud hB 2 (by decide) | exact bud2 hB 2 (by decide) | omega) (ret := fun i4 u4 h4 tk4 a4 b4 p4 x4 y4 z4 n4 i40 i41 F4 K4 N4 off4 eJ4 eC4 hn4 => ?_)
      clear eC4
      have kb4 := F4.keep
      have nL4 := notup_ns F4.ns
      have nJ4 := notup_list eJ4
      clear N3 F3
      walk_at "Mine.in"
      rename News g L _ _ => N5
      rename Fr g L _ _ => F5
      have NO5 : News g L _ [(L + 1 + 1, q1), (L + 1, q2)] := two_of N5 (by k_mem) (by k_mem)
      have J5 := jar_of N5 (by k_mem) F5 eC' hn4
      refine comp_made (c := dn) (P := StMade n) StMade.mono rfl (by decide) rfl rfl F5 (by assumption) (small_one (by omega) (by omega) (by omega) (by omega)) (rangeSize_nat _ _) (by rw [sizeLine_eq]; omega) J5 hJ0 (fun i h tk C' m₂ E' hi F6 K6 J6 hC' bC nCL nCJ => ?_) (fun D ys h6 tk6 F6 K6 hD bD fD hlen J6 hP => ?_)
      · have hid : i * dn ≤ dn := by
          have : i = 0 ∨ i = 1 := by omega
          rcases this with e | e <;> subst e <;> omega
        have hid1 : (i + 1) * dn = i * dn + dn := Nat.succ_mul _ _
        refine hide_of ?_
        intro G7
        refine ex7 (jar_open J6 (F6.keep _ _ eC')) ?_
        intro a7 b7 p7 x7 y7 z7 n7
        intro hII
        refine an2 hII ?_
        clear hII
        intro eJ7 hn7
        have N7 := jar_led NO5 hcJ K6 eJ7 hJL hJ0
        clear N5 J6
        walk_at "Mine.in"
        rename Fr g L _ _ => F8
        unfold CallStop
        refine MakesAt.use (ih' _) (by k_asm) F8 (by k_asm) (by k_asm) rfl (by walk_at "Mine.ar") (by walk_at "Mine.ar") (jar_of N7 (by k_mem) F8 eC' hn7) hJ0 hJL (by omega) (fun v9 h9 tk9 F9 K9 J9 P9 => ?_)
        exact ⟨h9, tk9, rfl, F9, K9, by rw [hid1, ← Nat.add_assoc]; exact J9, P9⟩
      · have hid : (i4 - 0).toNat * dn ≤ 2 * dn := Nat.mul_le_mul_right _ (by omega)
        have hzs : ys.length * ssz n ≤ 2 * ssz n := Nat.mul_le_mul_right _ (by omega)
        refine hide_of ?_
        intro G6
        obtain ⟨ss, hss, hht, hsz9⟩ := sts_made hP
        refine ex7 (jar_open J6 (F6.keep _ _ eC')) ?_
        intro a6 b6 p6 x6 y6 z6 n6
        intro hII
        refine an2 hII ?_
        clear hII
        intro eJ6 hn6
        have N6 := jar_led NO5 hcJ K6 eJ6 hJL hJ0
        have nDL := neL F6 hD
        have nDJ : D ≠ J := fun q => by
          refine ex7 (jar_open J5 (F5.keep _ _ eC')) ?_
          intro _ _ _ _ _ _ _
          intro hII
          refine an2 hII ?_
          clear hII
          intro e9 _
          rw [← q, fD] at e9; cases e9
        have N6 : News g L h6 ((D, LCg.lst ys) :: _) := News.cons (p := (D, LCg.lst ys)) (I := []) (fun p hp => by rw [List.mem_singleton.mp hp]; exact ⟨hD, nDL, bD⟩) N6
        have off6 := jar_off (g := g) (h := h6) (L := L) (J := J)
        have kb6 := F6.keep
        have nL6 := notup_ns F6.ns
        have nJ6 := notup_list eJ6
        clear N5 NO5 J5 F5 J6 hP
        walk_at "Mine.in"
        rename News g L _ _ => N7
        rename Fr g L _ _ => F7
        unfold TupStop
        refine kde_tupleOf (zs := ys) F7 N7 ⟨_, (N7 _ (.head _)).1, rfl, _, rfl⟩ (by rw [List.size_toArray]; omega) (by simp) (fun D7 h7 F7 N7 l7 => ?_)
        skip
        walk_at "Mine.in"
        rename News g L _ _ => N6a
        rename Fr g L _ _ => F6a
        have T6a := tupX (keep_by (M := [J]) kb6 F6a N6a (fun p hp => by first | exact .tail _ (.tail _ (.tail _ hp)) | exact .tail _ (.tail _ (.tail _ (.tail _ hp))) | exact .tail _ (.tail _ (.tail _ (.tail _ (.tail _ hp)))) | exact .tail _ (.tail _ (.tail _ (.tail _ (.tail _ (.tail _ hp))))))) nL6 (fun b hb => by rw [List.mem_singleton.mp hb]; exact nJ6)
        have tD : IsTup _ D7 (List.toArray ys) := ⟨_, (N6a (D7, _) (by k_mem)).1, rfl, _, rfl⟩
        rename News g L _ _ => N8
        rename Fr g L _ _ => F8
        have nL8 := notup_ns F8.ns
        have nJ8 := notup_list (N8 (J, jarO _ _ _ _ _ _ _ _) (by k_mem)).1
        unfold CallStop
        refine (law_spot_spec).jarS (R := fun o h => (L + 1 + 1, q1) :: (L + 1, q2) :: (J, o) :: snap g L h [J]) N8 (by k_mem) (two_of N8 (by k_mem) (by k_mem)) hcJ (fun _ _ => rfl) (F8.keep _ _ eC') hn6 (old_C eC') hJ0 hJL (by first | exact bud hB 2 (by decide) | exact bud2 hB 2 (by decide) | omega) (ret := fun i9 u9 h9 tk9 a9 b9 p9 x9 y9 z9 n9  F9 K9 N9 off9 eJ9 eC9 hn9 => ?_)
        clear eC9
        have kb9 := F9.keep
        have nL9 := notup_ns F9.ns
        have nJ9 := notup_list eJ9
        have T9 := tupX K9 nL8 (fun b hb => by rw [List.mem_singleton.mp hb]; exact nJ8)
        clear N8 F8
        walk_at "Mine.in"
        walk_at "Mine.gfin"
        rename News g L _ _ => N9a
        rename Fr g L _ _ => F9a
        have T9a := tupX (keep_by (M := [J]) kb9 F9a N9a (fun p hp => by first | exact .tail _ (.tail _ (.tail _ hp)) | exact .tail _ (.tail _ (.tail _ (.tail _ hp))) | exact .tail _ (.tail _ (.tail _ (.tail _ (.tail _ hp)))) | exact .tail _ (.tail _ (.tail _ (.tail _ (.tail _ (.tail _ hp))))))) nL9 (fun b hb => by rw [List.mem_singleton.mp hb]; exact nJ9)
        exact made_end F9a N9a (by k_mem) eC' (hn9.mono (by omega)) ⟨.block _ none ss, (by unfold StAt; exact ⟨_, _, _, _, _, _, ys, rfl, ⟨_, (N9a _ (.head _)).1, rfl, _, rfl⟩, rfl, ⟨_, (N9a _ (.tail _ (.head _))).1, rfl, _, rfl⟩, T9a _ _ (T9 _ _ tD), ((hss.mono T6a).mono T9).mono T9a⟩), by unfold ht; omega, by unfold sz; omega⟩
    · skip
      walk_at "Mine.in"
      all_goals first | (exfalso; omega) | skip
      rename News g L _ _ => N3
      rename Fr g L _ _ => F3
      have nL3 := notup_ns F3.ns
      have nJ3 := notup_list (N3 (J, jarO _ _ _ _ _ _ _ _) (by k_mem)).1
      unfold CallStop
      refine (law_spot_spec).jarS (R := fun o h => (L + 1 + 1, q1) :: (L + 1, q2) :: (J, o) :: snap g L h [J]) N3 (by k_mem) (two_of N3 (by k_mem) (by k_mem)) hcJ (fun _ _ => rfl) (F3.keep _ _ eC') hn2 (old_C eC') hJ0 hJL (by first | exact bud hB 1 (by decide) | exact bud2 hB 1 (by decide) | omega) (ret := fun i4 u4 h4 tk4 a4 b4 p4 x4 y4 z4 n4  F4 K4 N4 off4 eJ4 eC4 hn4 => ?_)
      clear eC4
      have kb4 := F4.keep
      have nL4 := notup_ns F4.ns
      have nJ4 := notup_list eJ4
      clear N3 F3
      walk_at "Mine.in"
      rename News g L _ _ => N5
      rename Fr g L _ _ => F5
      have nL5 := notup_ns F5.ns
      have nJ5 := notup_list (N5 (J, jarO _ _ _ _ _ _ _ _) (by k_mem)).1
      unfold CallStop
      refine (law_id_spec).jarD (R := fun o h => (L + 1 + 1, q1) :: (L + 1, q2) :: (J, o) :: snap g L h [J]) N5 (by k_mem) (two_of N5 (by k_mem) (by k_mem)) hcJ (fun _ _ => rfl) (F5.keep _ _ eC') hn4 (old_C eC') hJ0 hJL (by first | exact bud hB 2 (by decide) | exact bud2 hB 2 (by decide) | omega) (ret := fun v6 d6 h6 tk6 a6 b6 p6 x6 y6 z6 n6 P6 o6 F6 K6 N6 off6 eJ6 eC6 hn6 => ?_)
      clear eC6
      have kb6 := F6.keep
      have nL6 := notup_ns F6.ns
      have nJ6 := notup_list eJ6
      clear N5 F5
      walk_at "Mine.in"
      rename News g L _ _ => N6a
      rename Fr g L _ _ => F6a
      have T6a := tupX (keep_by (M := [J]) kb6 F6a N6a (fun p hp => by first | exact .tail _ (.tail _ (.tail _ hp)) | exact .tail _ (.tail _ (.tail _ (.tail _ hp))) | exact .tail _ (.tail _ (.tail _ (.tail _ (.tail _ hp)))) | exact .tail _ (.tail _ (.tail _ (.tail _ (.tail _ (.tail _ hp))))))) nL6 (fun b hb => by rw [List.mem_singleton.mp hb]; exact nJ6)
      rename News g L _ _ => N7
      rename Fr g L _ _ => F7
      have nL7 := notup_ns F7.ns
      have nJ7 := notup_list (N7 (J, jarO _ _ _ _ _ _ _ _) (by k_mem)).1
      unfold CallStop
      refine (law_id_spec).jarD (R := fun o h => (L + 1 + 1, q1) :: (L + 1, q2) :: (J, o) :: snap g L h [J]) N7 (by k_mem) (two_of N7 (by k_mem) (by k_mem)) hcJ (fun _ _ => rfl) (F7.keep _ _ eC') hn6 (old_C eC') hJ0 hJL (by first | exact bud hB 3 (by decide) | exact bud2 hB 3 (by decide) | omega) (ret := fun v8 d8 h8 tk8 a8 b8 p8 x8 y8 z8 n8 P8 o8 F8 K8 N8 off8 eJ8 eC8 hn8 => ?_)
      clear eC8
      have kb8 := F8.keep
      have nL8 := notup_ns F8.ns
      have nJ8 := notup_list eJ8
      have T8 := tupX K8 nL7 (fun b hb => by rw [List.mem_singleton.mp hb]; exact nJ7)
      clear N7 F7
      walk_at "Mine.in"
      walk_at "Mine.gfin"
      rename News g L _ _ => N8a
      rename Fr g L _ _ => F8a
      have T8a := tupX (keep_by (M := [J]) kb8 F8a N8a (fun p hp => by first | exact .tail _ (.tail _ (.tail _ hp)) | exact .tail _ (.tail _ (.tail _ (.tail _ hp))) | exact .tail _ (.tail _ (.tail _ (.tail _ (.tail _ hp)))) | exact .tail _ (.tail _ (.tail _ (.tail _ (.tail _ (.tail _ hp))))))) nL8 (fun b hb => by rw [List.mem_singleton.mp hb]; exact nJ8)
      exact made_end F8a N8a (by k_mem) eC' (hn8.mono (by omega)) ⟨.set _ d6 d8, (by unfold StAt; exact ⟨_, _, _, _, _, rfl, ⟨_, (N8a _ (.head _)).1, rfl, _, rfl⟩, ((P6.mono T6a).mono T8).mono T8a, P8.mono T8a⟩), by unfold ht; omega, by unfold sz; exact ssz_pos _⟩
end

theorem fit1 {a b n : Nat} (h : a ≤ 6000) (e : b = n) (l : n ≤ 1) : a + b ≤ LIM := by
  have h9 : LIM = 1000000 := rfl
  omega
theorem fit2 {x y : List Value} {b n m : Nat} (h : x.length ≤ 6000) (e : y.length = n) (l : n ≤ 1) (e' : b = m) (l' : m ≤ 1) : (x ++ y).length + b ≤ LIM := by
  have h9 : LIM = 1000000 := rfl
  rw [List.length_append]
  omega
theorem fit3 {x y z : List Value} {b n m k : Nat} (h : x.length ≤ 6000) (e : y.length = n) (l : n ≤ 1) (e' : z.length = m) (l' : m ≤ 1) (e2 : b = k) (l2 : k ≤ 1) : (x ++ y ++ z).length + b ≤ LIM := by
  have h9 : LIM = 1000000 := rfl
  rw [List.length_append, List.length_append]
  omega
section
 local macro_rules | `(tactic| k_all) => `(tactic| with_reducible assumption)
 local macro_rules | `(tactic| walk_at "call ref") => `(tactic| (k_here; refine' call_stop ?_))
 local macro_rules | `(tactic| walk_at "binaryOp Add ref ref") => `(tactic| (k_here; refine' add_stop ?_))
 local macro_rules | `(tactic| walk_at "exec For") => `(tactic| (k_here; k_dflt (refine' for_stop ?_ ?hs; (case hs => (intro _; exact rfl)))))
 local macro_rules | `(tactic| walk_at "call type:dict") => `(tactic| (k_here; k_dflt (refine dict_copyL (by k_asm) (by k_asm) (by k_mem) (by k_asm) (by k_asm) (by k_asm) ?_); intro D' o' h' F' N' l1 l3 hD'; (try k_lt l1)))
 local macro_rules | `(tactic| walk_at "call type:list") => `(tactic| (k_here; refine' list_stop ?_))
 local macro_rules | `(tactic| walk_at "exec If") => `(tactic| (k_here; (with_reducible rename StopMark => smX); refine' if_stop ?_))
 local macro_rules | `(tactic| walk_at "Mine.idle") => `(tactic| skip)
 local macro_rules | `(tactic| walk_at "Mine.idle") => `(tactic| skip)

theorem law_rows_spec {w : World} {g₀ : Heap} {iv : Value} {it : Item} (hit : ItemAt (IsTup g₀) iv it) (hds : it.decls.length ≤ 1000) (hz : sz it.body ≤ 1000) (hht : ht it.body < 8) (hr : (oRows it).length ≤ LIM) :
    GivesAt w 320 [iv] 300 3000 g₀ (fun T us => RowsIn T us (oRows it)) := by
  obtain ⟨fn, ip, nm, ext, decls, body⟩ := it
  refine ex9 hit ?_
  clear hit
  intro a t1 t2 t3 t4 ev da bv ds
  intro hII
  refine an6 hII ?_
  clear hII
  intro e hE hext hda hdl hbody
  subst e
  dsimp only at hE hext hdl hbody hds hz hht
  walk_at "Mine.gives"
  case hm => exact rows_mono _
  intro mean mg mb dp un gd outer A₀ base g L h₁ s Qe B F X Tp hd hu N hg
  have hE := tup_keeps hg _ _ hE
  have hext := hext.mono (tup_keeps hg)
  have hda := tup_keeps hg _ _ hda
  have hdl := hdl.mono fun _ _ y => y.mono (tup_keeps hg)
  have hbody := hbody.mono (tup_keeps hg)
  clear hg
  dsimp only [fnOf, List.map, List.zip, List.zipWith, List.reverse, List.reverseAux, List.append, HAppend.hAppend, Append.append] at F
  refine fr_let F ?_
  clear F
  intro m0 F
  have hsz : ds.toArray.size = decls.length := by simpa using hdl.length
  have hsz1 : g.objs.size < h₁.objs.size := Nat.lt_of_le_of_lt F.above F.ns.lt
  have sm : StopMark := trivial
  walk_at "Mine.in"
  rename News g L _ _ => N0
  rename Fr g L _ _ => F0
  rename Obj.IsDictOf (PySem.strKind PG w) _ (strPairs _) => D0
  with_reducible rename StopMark => sm2
  clear sm2
  refine hide_of ?_
  intro Gh
  obtain ⟨kv0, hD0, hσ0, hl0⟩ := seen_dict D0
  k_unfold
  clear D0
  have lo0 := lo_new X hsz1
  have hS0 := N0 _ (.tail _ (.head _))
  have hF0 := N0 _ (.head _)
  dsimp only at hS0 hF0
  have kb0 := F0.keep
  have nL0 := notup_ns F0.ns
  have cS0 := dict_cls hD0
  refine found_join (oExt sig0 ext) F0 ?_ (fun h2 tk2 Fd us2 n2 F2 e2 hg2 r2 K2 => ?_)
  · cases ext with
    | none =>
      have e : ev = .none := hext
      subst e
      walk_at "Mine.in"
      exact ⟨rfl, _, _, _, [], 0, rfl, fr_found F0 rfl, hF0.1, hF0.2.2, trivial, fun b o _ _ e => e⟩
    | some p =>
      refine hide_of ?_
      intro Gh
      obtain ⟨x, y⟩ := p
      refine ex3 hext ?_
      clear hext
      intro ea u1 u2
      intro hII
      refine an4 hII ?_
      clear hII
      intro e hE2 hx1 hx2
      k_unfold
      subst e
      walk_at "Mine.in"
      unfold CallStop
      refine GivesAt.useH (law_expr_rows_spec (e := some x) (hx1.mono (tup_keeps F0.keep)) hS0.1 hD0 lo0 hσ0) (rows_mono _) (by k_asm) (by k_asm) (by k_asm) (by k_asm) rfl (by walk_at "Mine.ar") (by walk_at "Mine.ar") (fun b o e => e) (fun D1 us1 n1 h1' tk1 F1 k1 hD1 hf1 hP1 => ?_)
      have l1 := RowsIn.length (rs := oOpt sig0 (some x)) hP1
      have nL1 := notup_ns F1.ns
      have nD1 := neL F1 hD1
      walk_at "Mine.in"
      unfold CallStop
      refine GivesAt.useH (law_expr_rows_spec (e := some y) (hx2.mono (tup_keeps F1.keep)) (k1 _ _ hS0.2.1 hS0.1) hD0 lo0 hσ0) (rows_mono _) (by k_asm) (by k_asm) (by k_asm) (by k_asm) rfl (by walk_at "Mine.ar") (by walk_at "Mine.ar") (fun b o e => e) (fun D2 us2 n2 h2' tk2 F2 k2 hD2 hf2 hP2 => ?_)
      have l2 := RowsIn.length (rs := oOpt sig0 (some y)) hP2
      have lx : ∀ d, (oOpt sig0 (some d)).length ≤ 1 := fun d => by
        show (oExpr sig0 d).length ≤ 1
        unfold oExpr
        cases sig0 d.name <;> simp
      have lx1 := lx x
      have lx2 := lx y
      walk_at "Mine.in"
      refine add_rows F2 (k2 _ _ nD1 hD1) hD2 (by have h9 : LIM = 1000000 := rfl; omega) (fun D4 h4 F4 k4 hD4 hg4 hf4 T4 => ?_)
      have N4 : News g L h4 (snap g L h4 []) := news_snap
      have kb4 := F4.keep
      have nL4 := notup_ns F4.ns
      have nD4 := neL F4 hD4
      walk_at "Mine.in"
      walk_at "Mine.gfin"
      rename News g L _ (snap g L h4 []) => N5
      rename Fr g L _ _ => F5
      have K5 := keep_by kb4 F5 N5 (fun _ h => h)
      have T5 := tupN nL4 (fun b o hb e => K5 b o (fun x => (List.not_mem_nil x).elim) hb e)
      exact ⟨rfl, _, _, D4, _, 0, rfl, F5, K5 _ _ (fun x => (List.not_mem_nil x).elim) nD4 hD4, hg4, rows_app (((hP1.mono (tupN nL1 k2)).mono T4).mono T5) ((hP2.mono T4).mono T5), fun b o h1 h2 e => K5 b o h1 h2 (k4 b o h2 (k2 b o h2 (k1 b o h2 e)))⟩
  · have N2 : News g L h2 (snap g L h2 []) := news_snap
    have kb2 := F2.keep
    have nL2 := notup_ns F2.ns
    have nFd := neL F2 e2
    have hS2 := K2 _ _ (fun x => (List.not_mem_nil x).elim) hS0.2.1 hS0.1
    have sm : StopMark := trivial
    walk_at "Mine.in"
    with_reducible rename StopMark => sm2
    clear sm2
    rename News g L _ ((_, _) :: snap g L h2 []) => N3
    rename Fr g L _ _ => F3
    rename Obj.IsDictOf (PySem.strKind PG w) _ [] => D3
    rename (_ == sysModules) = false => lo3
    rename_i Pd _ o3 l3 _ _ _ h3
    have hPd := N3 _ (.head _)
    dsimp only at hPd
    have K23 : Keep [] L h2 h3 := keep_by kb2 F3 N3 (fun p hp => .tail _ hp)
    have e3 := K23 _ _ (fun x => (List.not_mem_nil x).elim) nFd e2
    have lFP : Fd < Pd := l3 _ (mem_snap e2 nFd (fun x => (List.not_mem_nil x).elim) hg2)
    have nFP : Fd ≠ Pd := Nat.ne_of_lt lFP
    have lFPN : @LT.lt Nat instLTNat Fd Pd := lFP
    have lSP := l3 _ (mem_snap hS2 hS0.2.1 (fun x => (List.not_mem_nil x).elim) hS0.2.2)
    have hS3 := K23 _ _ (fun x => (List.not_mem_nil x).elim) hS0.2.1 hS2
    have T23 := tupN nL2 (fun b o hb e => K23 b o (fun x => (List.not_mem_nil x).elim) hb e)
    have kb3 := F3.keep
    have nL3 := notup_ns F3.ns
    have N3' : News g L h3 ((Pd, o3) :: snap g L h3 [Pd]) := News.cons N3 news_snap
    have hs3 : ∀ p ∈ snap g L h3 [Pd], p.1 ≠ Pd := fun p hp q => (of_snap hp).2.2.1 (by simp [q])
    have hkz : ([] : List (Str × Value)).length ≤ sizeLine := Nat.zero_le _
    clear N3 l3
    refine pair_join Pd [Fd, Pd] (if fn then [(nm, (true, true))] else []) F3 ?_ (fun h4 tk4 o4 kv4 F4 e4 D4 P4 K4 => ?_)
    · cases fn with
      | false =>
        unfold kindOf at hE
        simp only [Bool.false_eq_true, if_false] at hE ⊢
        walk_at "Mine.in"
        exact ⟨rfl, h3, _, o3, [], rfl, by k_asm, hPd.1, D3, trivial, fun b o _ _ e => e⟩
      | true =>
        unfold kindOf at hE
        simp only [if_true] at hE ⊢
        walk_at "Mine.in"
        rename News g L _ _ => N5
        rename Fr g L _ _ => F5
        rename Obj.IsDictOf (PySem.strKind PG w) _ (stored _ _ _) => D5
        rename (_ ∧ AllLt _ _) => l5
        have nf := off_of l5 (mem_snap e3 nFd (by simp [nFP]) hg2)
        exact ⟨rfl, _, _, _, _, rfl, F5, (N5 _ (.tail _ (.head _))).1, D5, PrsAt.put (kvs := []) (pr := []) nm ⟨_, 0, rfl, nf, (N5 _ (.head _)).2.2, (N5 _ (.head _)).1⟩ trivial, keep_by kb3 F5 N5 (fun p hp => .tail _ (.tail _ hp))⟩
    · have hMt : ∀ b ∈ [L, Pd], ∀ o, h3.get? b = some o → NoTup o := fun b hb => by
        rcases List.mem_cons.mp hb with q | q
        · rw [q]; exact nL3
        · rw [List.mem_singleton.mp q]
          intro o' e' vs n' _ c
          rw [hPd.1] at e'; cases e'
          exact dict_ne D3 c
      have k34 : ∀ b o, b ∉ [L, Pd] → h3.get? b = some o → h4.get? b = some o := fun b o hb e => K4 b o (fun q => hb (by simp only [List.mem_singleton] at q; simp [q])) (fun q => hb (by simp [q])) e
      have e34 := k34 _ _ (by simp [nFd, nFP]) e3
      have hS4 := k34 _ _ (by simp only [List.mem_cons, List.not_mem_nil, or_false, not_or]; exact ⟨hS0.2.1, Nat.ne_of_lt lSP⟩) hS3
      have r4 : RowsIn (IsTup h4) us2 (oExt sig0 ext) := (r2.mono T23).mono (tup_butX k34 hMt)
      have LS0 : ∀ m0, DeclSt w g m0 Fd Pd (oExt sig0 ext ++ (prAll (decls.take 0) (if fn then [(nm, (true, true))] else [])).1) (prAll (decls.take 0) (if fn then [(nm, (true, true))] else [])).2 m0 h4 := fun m0 => ⟨fun _ _ => rfl, ⟨us2, n2, e34, by rw [List.take_zero, show prAll [] (if fn then [(nm, (true, true))] else []) = ([], (if fn then [(nm, (true, true))] else [])) from rfl, List.append_nil]; exact r4⟩, o4, kv4, e4, D4, P4⟩
      walk_at "Mine.in"
      refine for_name (J := fun i m h => DeclSt w g _ Fd Pd (oExt sig0 ext ++ (prAll (decls.take i) (if fn then [(nm, (true, true))] else [])).1) (prAll (decls.take i) (if fn then [(nm, (true, true))] else [])).2 m h) rfl rfl rfl (by passes_own) hda F4 (hJ0 := LS0 _) (M := [Fd, Pd]) (fun b hb => ?_) (fun b hb => ?_) (fun i m₁ m₂ h h' I x F hm old k => decl_stab x F hm old hPd.2.1 k) (fun i v h5 tk5 m5 hv hJ F' K => ?_) (fun h5 tk5 m5 F5 hJ K => ?_)
      · simp only [List.mem_cons, List.not_mem_nil, or_false] at hb
        rcases hb with q | q
        · rw [q]; exact Heap.lt_size e34
        · rw [q]; exact Heap.lt_size e4
      · simp only [List.mem_cons, List.not_mem_nil, or_false] at hb
        rcases hb with q | q
        · rw [q]; exact hg2
        · rw [q]; exact hPd.2.2
      · refine hide_of ?_
        intro Gh
        obtain ⟨V, ⟨us, n, e1, r⟩, o, kvs, e2, D, P⟩ := hJ
        obtain ⟨d, hd', hid⟩ := hdl.get (i := i) (v := v) (by simpa using hv)
        k_unfold
        have F' : Fr g L h5 _ := fr_decl F' V
        rw [prAll_succ hd']
        have N5 : News g L h5 ((Fd, listOf us.toArray n) :: (Pd, o) :: snap g L h5 [Fd, Pd]) := fun p hp => by
          rcases List.mem_cons.mp hp with rfl | hp
          · exact ⟨e1, nFd, hg2⟩
          · rcases List.mem_cons.mp hp with rfl | hp
            · exact ⟨e2, hPd.2⟩
            · exact news_snap p hp
        have hs1 : ∀ p ∈ snap g L h5 [Fd, Pd], p.1 ≠ Fd := fun p hp q => (of_snap hp).2.2.1 (by simp [q])
        have hs2 : ∀ p ∈ snap g L h5 [Fd, Pd], p.1 ≠ Pd := fun p hp q => (of_snap hp).2.2.1 (by simp [q])
        have kb5 := F'.keep
        have nL5 := notup_ns F'.ns
        have hlk := P.look d.name
        have nl5 := nolist_ns F'
        have hMt5 : ∀ b ∈ [Fd, Pd], ∀ o, h5.get? b = some o → NoTup o := fun b hb => by
          rcases List.mem_cons.mp hb with q | q
          · rw [q]; exact notup_list e1
          · rw [List.mem_singleton.mp q]
            intro o' e' vs n' _ c
            rw [e2] at e'; cases e'
            exact dict_ne D c
        have hkz : kvs.length ≤ sizeLine := by
          have h8 : sizeLine = 16777216 := rfl
          have h9 := (prAll_len (decls.take i) (if fn then [(nm, (true, true))] else [])).2
          have h10 := congrArg List.length P.keys
          have h11 : (if fn = true then [(nm, (true, true))] else []).length ≤ 1 := by split <;> simp
          simp only [List.length_map, List.length_take] at h9 h10
          omega
        generalize hpr : (prAll (decls.take i) (if fn then [(nm, (true, true))] else [])).2 = pr at *
        cases d with
        | port j dir ext' k =>
          refine hide_of ?_
          intro Gh
          refine ex6 hid ?_
          clear hid
          intro ea w1 w2 w3 w4 xv
          intro hII
          refine an3 hII ?_
          clear hII
          intro e hE' hx'
          k_unfold
          subst e
          have hlk : (match prHas pr k with | none => valueAt kvs k = none | some p => ∃ v, valueAt kvs k = some v ∧ PBAt g [Fd, Pd] h5 v p) := hlk
          cases hq : prHas pr k with
          | none =>
            rw [hq] at hlk
            have hb := congrArg Option.isSome hlk
            dsimp only [Option.isSome] at hb
            rw [show prOne (.port j dir ext' k) pr = ([], prSet pr k (true, false)) from by unfold prOne; rw [show (Decl.port j dir ext' k).name = k from rfl, hq]; rfl]
            walk_at "Mine.in"
            walk_at "Mine.gfin"
            rename News g L _ _ => N6
            rename Fr g L _ _ => F6
            rename Obj.IsDictOf (PySem.strKind PG w) _ (stored _ _ _) => D6
            rename (_ ∧ _ ∧ AllLt _ _) => l6
            rw [← List.append_assoc]
            exact decl_turn (us' := []) (new := []) kb5 nL5 nl5 hMt5 F6 (fun y hy => by simp only [List.mem_cons, List.not_mem_nil, or_false, not_or] at hy; first | exact (if_neg hy.1).trans (if_neg hy.2) | exact (if_neg hy.2).trans (if_neg hy.1) | simp +zetaDelta only [if_neg hy.1, if_neg hy.2]) N6 (fun p hp => .tail _ (.tail _ (.tail _ hp))) r (by rw [List.append_nil]; k_mem) trivial (by k_mem) D6 P (fun x => x.put k (e := (true, false)) ⟨_, 0, rfl, by simp [Nat.ne_of_gt l6.1, Nat.ne_of_gt l6.2.1], (N6 _ (.head _)).2.2, (N6 _ (.head _)).1⟩)
          | some pq =>
            rw [hq] at hlk
            refine hide_of ?_
            intro Gh
            obtain ⟨p1, q1⟩ := pq
            refine Exists.elim hlk ?_
            clear hlk
            intro v'
            intro hII
            refine an2 hII ?_
            clear hII
            intro hv' hII
            refine ex2 hII ?_
            clear hII
            intro a' nn
            intro hII
            refine an4 hII ?_
            clear hII
            intro ev' ha' hga hA
            k_unfold
            subst ev'
            have hb := congrArg Option.isSome hv'
            dsimp only [Option.isSome] at hb
            refine hide_of ?_
            intro Gh
            obtain ⟨hN5, hna1, hna2, hs3⟩ := led3 F' N5 hA ha' hga
            k_unfold
            clear N5
            have N5 := hN5
            have hna1 : @Ne Nat a' Fd := hna1
            have hna2 : @Ne Nat a' Pd := hna2
            cases p1 with
            | true =>
              rw [show prOne (Decl.port j dir ext' k) pr = ([dupRow j k], pr) from by unfold prOne; rw [show (Decl.port j dir ext' k).name = k from rfl, hq]; rfl]
              have hz1 : us.toArray.size ≤ sizeLine := by
                have h8 : sizeLine = 16777216 := rfl
                have h9 := RowsIn.length r
                have h10 := (prAll_len (decls.take i) (if fn then [(nm, (true, true))] else [])).1
                have h12 := oExt_len sig0 ext
                simp only [List.length_append, List.length_take] at h9 h10
                rw [List.size_toArray]; omega
              walk_at "Mine.in"
              walk_at "Mine.gfin"
              rename News g L _ _ => N6
              rename Fr g L _ _ => F6
              rw [← List.append_assoc]
              exact decl_turn (us' := [.ref _]) (new := [dupRow j k]) kb5 nL5 nl5 hMt5 F6 (fun y hy => by simp only [List.mem_cons, List.not_mem_nil, or_false, not_or] at hy; first | exact (if_neg hy.1).trans (if_neg hy.2) | exact (if_neg hy.2).trans (if_neg hy.1) | simp +zetaDelta only [if_neg hy.1, if_neg hy.2]) N6 (fun p hp => by first | exact .tail _ (.tail _ (.tail _ hp)) | exact .tail _ (.tail _ (.tail _ (.tail _ hp))) | exact .tail _ (.tail _ (.tail _ (.tail _ (.tail _ hp))))) r (by rw [← List.push_toArray]; k_mem) (by exact ⟨⟨_, _, _, _, rfl, ⟨_, (N6 _ (.head _)).1, rfl, _, rfl⟩⟩, trivial⟩) (by k_mem) D P (fun x => x)
            | false =>
              rw [show prOne (Decl.port j dir ext' k) pr = ([], prSet pr k (true, true)) from by unfold prOne; rw [show (Decl.port j dir ext' k).name = k from rfl, hq]; rfl]
              walk_at "Mine.in"
              walk_at "Mine.gfin"
              rename News g L _ _ => N6
              rename Fr g L _ _ => F6
              rename Obj.IsDictOf (PySem.strKind PG w) _ (stored _ _ _) => D6
              rename (_ ∧ _ ∧ _ ∧ AllLt _ _) => l6
              rw [← List.append_assoc]
              exact decl_turn (us' := []) (new := []) kb5 nL5 nl5 hMt5 F6 (fun y hy => by simp only [List.mem_cons, List.not_mem_nil, or_false, not_or] at hy; first | exact (if_neg hy.1).trans (if_neg hy.2) | exact (if_neg hy.2).trans (if_neg hy.1) | simp +zetaDelta only [if_neg hy.1, if_neg hy.2]) N6 (fun p hp => by first | exact .tail _ (.tail _ (.tail _ hp)) | exact .tail _ (.tail _ (.tail _ (.tail _ hp))) | exact .tail _ (.tail _ (.tail _ (.tail _ (.tail _ hp))))) r (by rw [List.append_nil]; k_mem) trivial (by k_mem) D6 P (fun x => x.put k (e := (true, true)) ⟨_, 0, rfl, by simp [Nat.ne_of_gt l6.1, Nat.ne_of_gt l6.2.1], (N6 _ (.head _)).2.2, (N6 _ (.head _)).1⟩)
        | var j ext' k fo =>
          refine hide_of ?_
          intro Gh
          refine ex8 hid ?_
          clear hid
          intro ea e0 w1 w2 w3 w4 xv fv
          intro hII
          refine an5 hII ?_
          clear hII
          intro e hE' hE0 hx' hf
          k_unfold
          subst e
          have hlk : (match prHas pr k with | none => valueAt kvs k = none | some p => ∃ v, valueAt kvs k = some v ∧ PBAt g [Fd, Pd] h5 v p) := hlk
          cases hq : prHas pr k with
          | none =>
            rw [hq] at hlk
            have hb := congrArg Option.isSome hlk
            dsimp only [Option.isSome] at hb
            rw [show prOne (Decl.var j ext' k fo) pr = ([], prSet pr k (false, true)) from by unfold prOne; rw [show (Decl.var j ext' k fo).name = k from rfl, hq]; rfl]
            walk_at "Mine.in"
            walk_at "Mine.gfin"
            rename News g L _ _ => N6
            rename Fr g L _ _ => F6
            rename Obj.IsDictOf (PySem.strKind PG w) _ (stored _ _ _) => D6
            rename (_ ∧ _ ∧ AllLt _ _) => l6
            rw [← List.append_assoc]
            exact decl_turn (us' := []) (new := []) kb5 nL5 nl5 hMt5 F6 (fun y hy => by simp only [List.mem_cons, List.not_mem_nil, or_false, not_or] at hy; first | exact (if_neg hy.1).trans (if_neg hy.2) | exact (if_neg hy.2).trans (if_neg hy.1) | simp +zetaDelta only [if_neg hy.1, if_neg hy.2]) N6 (fun p hp => by first | exact .tail _ (.tail _ (.tail _ hp)) | exact .tail _ (.tail _ (.tail _ (.tail _ hp))) | exact .tail _ (.tail _ (.tail _ (.tail _ (.tail _ hp))))) r (by rw [List.append_nil]; k_mem) trivial (by k_mem) D6 P (fun x => x.put k (e := (false, true)) ⟨_, 0, rfl, by simp [Nat.ne_of_gt l6.1, Nat.ne_of_gt l6.2.1], (N6 _ (.head _)).2.2, (N6 _ (.head _)).1⟩)
          | some pq =>
            rw [hq] at hlk
            refine hide_of ?_
            intro Gh
            obtain ⟨p1, q1⟩ := pq
            refine Exists.elim hlk ?_
            clear hlk
            intro v'
            intro hII
            refine an2 hII ?_
            clear hII
            intro hv' hII
            refine ex2 hII ?_
            clear hII
            intro a' nn
            intro hII
            refine an4 hII ?_
            clear hII
            intro ev' ha' hga hA
            k_unfold
            subst ev'
            have hb := congrArg Option.isSome hv'
            dsimp only [Option.isSome] at hb
            refine hide_of ?_
            intro Gh
            obtain ⟨hN5, hna1, hna2, hs3⟩ := led3 F' N5 hA ha' hga
            k_unfold
            clear N5
            have N5 := hN5
            have hna1 : @Ne Nat a' Fd := hna1
            have hna2 : @Ne Nat a' Pd := hna2
            cases q1 with
            | true =>
              rw [show prOne (Decl.var j ext' k fo) pr = ([dupRow j k], pr) from by unfold prOne; rw [show (Decl.var j ext' k fo).name = k from rfl, hq]; rfl]
              have hz1 : us.toArray.size ≤ sizeLine := by
                have h8 : sizeLine = 16777216 := rfl
                have h9 := RowsIn.length r
                have h10 := (prAll_len (decls.take i) (if fn then [(nm, (true, true))] else [])).1
                have h12 := oExt_len sig0 ext
                simp only [List.length_append, List.length_take] at h9 h10
                rw [List.size_toArray]; omega
              walk_at "Mine.in"
              walk_at "Mine.gfin"
              rename News g L _ _ => N6
              rename Fr g L _ _ => F6
              rw [← List.append_assoc]
              exact decl_turn (us' := [.ref _]) (new := [dupRow j k]) kb5 nL5 nl5 hMt5 F6 (fun y hy => by simp only [List.mem_cons, List.not_mem_nil, or_false, not_or] at hy; first | exact (if_neg hy.1).trans (if_neg hy.2) | exact (if_neg hy.2).trans (if_neg hy.1) | simp +zetaDelta only [if_neg hy.1, if_neg hy.2]) N6 (fun p hp => by first | exact .tail _ (.tail _ (.tail _ hp)) | exact .tail _ (.tail _ (.tail _ (.tail _ hp))) | exact .tail _ (.tail _ (.tail _ (.tail _ (.tail _ hp))))) r (by rw [← List.push_toArray]; k_mem) (by exact ⟨⟨_, _, _, _, rfl, ⟨_, (N6 _ (.head _)).1, rfl, _, rfl⟩⟩, trivial⟩) (by k_mem) D P (fun x => x)
            | false =>
              rw [show prOne (Decl.var j ext' k fo) pr = ([], prSet pr k (true, true)) from by unfold prOne; rw [show (Decl.var j ext' k fo).name = k from rfl, hq]; rfl]
              walk_at "Mine.in"
              walk_at "Mine.gfin"
              rename News g L _ _ => N6
              rename Fr g L _ _ => F6
              rename Obj.IsDictOf (PySem.strKind PG w) _ (stored _ _ _) => D6
              rename (_ ∧ _ ∧ _ ∧ AllLt _ _) => l6
              rw [← List.append_assoc]
              exact decl_turn (us' := []) (new := []) kb5 nL5 nl5 hMt5 F6 (fun y hy => by simp only [List.mem_cons, List.not_mem_nil, or_false, not_or] at hy; first | exact (if_neg hy.1).trans (if_neg hy.2) | exact (if_neg hy.2).trans (if_neg hy.1) | simp +zetaDelta only [if_neg hy.1, if_neg hy.2]) N6 (fun p hp => by first | exact .tail _ (.tail _ (.tail _ hp)) | exact .tail _ (.tail _ (.tail _ (.tail _ hp))) | exact .tail _ (.tail _ (.tail _ (.tail _ (.tail _ hp))))) r (by rw [List.append_nil]; k_mem) trivial (by k_mem) D6 P (fun x => x.put k (e := (true, true)) ⟨_, 0, rfl, by simp [Nat.ne_of_gt l6.1, Nat.ne_of_gt l6.2.1], (N6 _ (.head _)).2.2, (N6 _ (.head _)).1⟩)
      · have hS5 := K _ _ (by simp only [List.mem_cons, List.not_mem_nil, or_false, not_or]; exact ⟨fun q => by rw [q, e34] at hS4; cases hS4; exact absurd (Value.type.inj cS0) (by decide), Nat.ne_of_lt lSP⟩) hS0.2.1 hS4
        refine hide_of ?_
        intro Gh
        obtain ⟨V, ⟨us, n, e1, r⟩, o, kvs, e2, D, P⟩ := hJ
        k_unfold
        have F5 : Fr g L h5 _ := fr_ones F5 V
        rw [show ds.toArray.size = decls.length from hsz, List.take_length] at r P
        have hlk := P.keys
        have hkl := (prAll_len decls (if fn then [(nm, (true, true))] else [])).2
        have hrl := (prAll_len decls (if fn then [(nm, (true, true))] else [])).1
        have h11 : (if fn = true then [(nm, (true, true))] else []).length ≤ 1 := by split <;> simp
        have hrow : oRows ⟨fn, ip, nm, ext, decls, body⟩ = (((oExt sig0 ext ++ (prAll decls (if fn then [(nm, (true, true))] else [])).1) ++ oDup ((prAll decls (if fn then [(nm, (true, true))] else [])).2.map (·.1)) (labs body)) ++ decls.flatMap (oDecl (oSigma ((prAll decls (if fn then [(nm, (true, true))] else [])).2.map (·.1)) (labs body)))) ++ oBody (oSigma ((prAll decls (if fn then [(nm, (true, true))] else [])).2.map (·.1)) (labs body)) (!fn) body := rfl
        rw [hrow] at hr
        generalize hpr : prAll decls (if fn then [(nm, (true, true))] else []) = pa at *
        refine hide_of ?_
        intro Gh
        obtain ⟨prow, pr⟩ := pa
        k_unfold
        dsimp only at r P hlk hkl hrl hr hrow
        simp only [List.length_append] at hr
        have hkz : kv0.length ≤ sizeLine := by rw [hl0]; decide
        have N5 : News g L h5 ((Fd, listOf us.toArray n) :: (Pd, o) :: (_, _) :: snap g L h5 [Fd, Pd]) := fun p hp => by
          rcases List.mem_cons.mp hp with rfl | hp
          · exact ⟨e1, nFd, hg2⟩
          · rcases List.mem_cons.mp hp with rfl | hp
            · exact ⟨e2, hPd.2⟩
            · rcases List.mem_cons.mp hp with rfl | hp
              · exact ⟨hS5, hS0.2⟩
              · exact news_snap p hp
        have kb5 := F5.keep
        have nL5 := notup_ns F5.ns
        walk_at "Mine.in"
        rename News g L _ _ => N6
        rename Fr g L _ _ => F6
        rename Obj.IsDictOf (PySem.strKind PG w) _ kv0 => D6
        rename_i On o6 _ l6g l6 h6
        have hOn := N6 _ (.head _)
        dsimp only at hOn
        have e6F := (N6 _ (.tail _ (.head _))).1
        have e6P := (N6 _ (.tail _ (.tail _ (.head _)))).1
        dsimp only at e6F e6P
        have K56 := keep_two (keep_by (M := [Fd, Pd]) kb5 F6 N6 (fun p hp => .tail _ (.tail _ (.tail _ (.tail _ hp))))) e1 e6F e2 e6P
        have T56 := tupN nL5 (fun b o hb e => K56 b o (fun x => (List.not_mem_nil x).elim) hb e)
        have lo6 := lo_new X l6g
        have nOF : @Ne Nat Fd On := Nat.ne_of_lt l6.1
        have nOP : @Ne Nat Pd On := Nat.ne_of_lt l6.2.1
        refine hide_of ?_
        intro Gh
        obtain ⟨m6, em6, F6⟩ := fr_named F6
        k_unfold
        refine for_dict (J := fun i m h => VarsBut [Str.ofString "name"] m6 m ∧ OwnSt w On ((pr.map (·.1)).take i) h) rfl rfl rfl (by passes_own) e6P D lo3 F6 (hJ0 := ⟨fun _ _ => rfl, o6, kv0, hOn.1, D6, hσ0.congr own_nil, by rw [hl0]; exact Nat.le_add_right _ _⟩) (M := [On]) (fun b hb => by rw [List.mem_singleton.mp hb]; exact Heap.lt_size hOn.1) (fun q => nOP (List.mem_singleton.mp q)) hPd.2.1
          (fun i m₁ m₂ h h' I x F hm old k => own_stab x hm old hOn.2.1 k) (fun i k t h7 tk7 m7 hk hJ F7 K7 => ?_) (fun h7 tk7 m7 F7 hJ K7 => ?_)
        · --B own
          refine hide_of ?_
          intro Gh
          refine an2 hJ ?_
          clear hJ
          intro V hII
          refine ex2 hII ?_
          clear hII
          intro o7 kv7
          intro hII
          refine an4 hII ?_
          clear hII
          intro e7 D7 S7 l7
          k_unfold
          have F7 : Fr g L h7 _ := fr_name F7 V
          subst em6
          have N7 : News g L h7 ((On, o7) :: snap g L h7 [On]) := jar_news e7 hOn.2.1 hOn.2.2
          have off7 : ∀ p ∈ snap g L h7 [On], p.1 ≠ On := jar_off
          have kb7 := F7.keep
          rw [hlk] at hk
          have hkt : (pr.map (·.1)).take (i + 1) = (pr.map (·.1)).take i ++ [k] := by rw [List.take_add_one, hk]; rfl
          have hkz : kv7.length ≤ sizeLine := by
            have h8 : sizeLine = 16777216 := rfl
            rw [List.length_take, List.length_map] at l7
            omega
          walk_at "Mine.in"
          walk_at "Mine.gfin"
          rename News g L _ _ => N8
          rename Fr g L _ _ => F8
          rename Obj.IsDictOf (PySem.strKind PG w) _ (stored _ _ _) => D8
          refine TurnH.intro F8 ⟨fun y hy => if_neg (by simpa using hy), _, _, (N8 _ (.head _)).1, D8, (S7.put k _ _).congr (fun j => by rw [hkt]; exact own_snoc _ _ j), ?_⟩ (keep_by (M := [On]) kb7 F8 N8 (fun p hp => .tail _ hp))
          refine Nat.le_trans (stored_length_le _ _ _) ?_
          rw [hkt, List.length_append, List.length_singleton]
          omega
        · refine hide_of ?_
          intro Gh
          refine an2 hJ ?_
          clear hJ
          intro V hII
          refine ex2 hII ?_
          clear hII
          intro o7 kv7
          intro hII
          refine an4 hII ?_
          clear hII
          intro e7 D7 S7 l7
          k_unfold
          have F7 : Fr g L h7 _ := fr_name0 F7 V
          subst em6
          have hkl2 := congrArg List.length hlk
          rw [List.length_map, List.length_map] at hkl2
          rw [List.take_of_length_le (by rw [List.length_map, hkl2]; exact Nat.le_refl _)] at S7 l7
          rw [List.length_map] at l7
          have e7F := K7 Fd _ (fun q => nOF (List.mem_singleton.mp q)) nFd e6F
          have e7P := K7 Pd _ (fun q => nOP (List.mem_singleton.mp q)) hPd.2.1 e6P
          have N7 := list3_news e7 e7F e7P (fun b hb => by
            simp only [List.mem_cons, List.not_mem_nil, or_false] at hb
            rcases hb with q | q | q
            · rw [q]; exact hOn.2
            · rw [q]; exact ⟨nFd, hg2⟩
            · rw [q]; exact hPd.2)
          walk_at "Mine.in"
          unfold ListStop
          refine list_of_dict rfl (by k_asm) e7P D lo3 (by have h9 : LIM = 1000000 := rfl; omega) (fun Mt nM h8 tk8 ms F8 k8 eM hgM hfM hMs => ?_)
          rw [hlk] at hMs
          have nMt := neL F8 eM
          have e8 := k8 _ _ hOn.2.1 e7
          have e8F := k8 _ _ nFd e7F
          have nMO : @Ne Nat Mt On := fun q => by
            have q' : Mt = On := q
            rw [q', e7] at hfM; cases hfM
          have nMF : @Ne Nat Mt Fd := fun q => by
            have q' : Mt = Fd := q
            rw [q', e7F] at hfM; cases hfM
          have hM : ∀ b ∈ [Fd, Mt, On], b ≠ L ∧ g.get? b = none := fun b hb => by
            simp only [List.mem_cons, List.not_mem_nil, or_false] at hb
            rcases hb with q | q | q
            · rw [q]; exact ⟨nFd, hg2⟩
            · rw [q]; exact ⟨nMt, hgM⟩
            · rw [q]; exact hOn.2
          have N8 := list3_news e8F eM e8 hM
          have kb8 := F8.keep
          have nL7 := notup_ns F7.ns
          have nL8 := notup_ns F8.ns
          have T67 := tupX K7 (notup_ns F6.ns) (fun b hb => by rw [List.mem_singleton.mp hb]; exact notup_dict hOn.1 D6)
          have T78 := tupN nL7 k8
          have hs1 : ∀ p ∈ snap g L h8 [Fd, Mt, On], p.1 ≠ Fd := fun p hp q => (of_snap hp).2.2.1 (by simp [q])
          clear N7
          walk_at "Mine.in"
          rename News g L _ _ => N9
          rename Fr g L _ _ => F9
          have e9F := (N9 _ (.head _)).1
          have e9M := (N9 _ (.tail _ (.head _))).1
          have e9 := (N9 _ (.tail _ (.tail _ (.head _)))).1
          dsimp only at e9F e9M e9
          have K89 := keep_three (keep_by (M := [Fd, Mt, On]) kb8 F9 N9 (fun p hp => .tail _ (.tail _ (.tail _ hp)))) e8F e9F eM e9M e8 e9
          have T89 := tupN nL8 (fun b o hb e => K89 b o (fun x => (List.not_mem_nil x).elim) hb e)
          have nL9 := notup_ns F9.ns
          unfold CallStop
          refine GivesAt.useH (law_labels_spec 8 g bv body (by omega) (Nat.le_trans hz (by decide)) hbody) (pairs_mono _) (by k_asm) (by k_asm) (by k_asm) (by k_asm) rfl (by walk_at "Mine.ar") (by walk_at "Mine.ar") (Fr.keep (by k_asm)) (fun D3 us3 n3 h10 tk10 F10 k10 hD3 hf3 hP3 => ?_)
          have e10F := k10 _ _ nFd e9F
          have e10M := k10 _ _ nMt e9M
          have e10 := k10 _ _ hOn.2.1 e9
          have T910 := tupN nL9 k10
          have r10 := ((((r.mono T56).mono T67).mono T78).mono T89).mono T910
          have hDM : D3 ∉ [Fd, Mt, On] := fun q => by
            simp only [List.mem_cons, List.not_mem_nil, or_false] at q
            rcases q with q | q | q
            · rw [q, e9F] at hf3; cases hf3
            · rw [q, e9M] at hf3; cases hf3
            · rw [q, e9] at hf3; cases hf3
          have hls := labs_sz body
          have BS0 : BodySt w Fd Mt On (oExt sig0 ext ++ prow) (pr.map (·.1)) ((labs body).take 0) h10 := ⟨⟨us, n, e10F, by rw [List.take_zero, show oDup (pr.map (·.1)) [] = [] from rfl, List.append_nil]; exact r10⟩, ⟨ms, nM, pr.map (·.1), e10M, hMs, fun k => by rw [List.take_zero, List.map_nil, List.append_nil], Nat.le_add_right _ _⟩, o7, kv7, e10, D7, by rw [List.take_zero]; exact S7, by rw [List.length_map]; omega⟩
          refine hide_of ?_
          intro Gh
          obtain ⟨m10, em10, F10⟩ := fr_named F10
          k_unfold
          walk_at "Mine.gfin"
          refine for_pair (J := fun j m h => VarsBut [Str.ofString "name", Str.ofString "at"] m10 m ∧ BodySt w Fd Mt On (oExt sig0 ext ++ prow) (pr.map (·.1)) ((labs body).take j) h) rfl rfl rfl rfl (by passes_own) hD3 hP3 F10 (hJ0 := ⟨fun _ _ => rfl, BS0⟩) (M := [Fd, Mt, On]) (body_lt BS0).1 (fun b hb => (hM b hb).2) (body_lt BS0).2 hDM
            (fun i m₁ m₂ h h' I x F hm old k => body_stab x F hm old hM k) (fun j k jj u1 u2 h11 tk11 m11 hpj hJ F11 K11 => ?_) (fun h11 tk11 m11 F11 hJ K11 => ?_)
          · --B labs
            refine hide_of ?_
            intro Gh
            obtain ⟨V, ⟨us, n1, e1, r1⟩, ⟨ms, n2, mk, e2, r2, r2m, r2l⟩, oD, kvD, e3, r3, r4, r5⟩ := hJ
            k_unfold
            have kb11 := F11.keep
            have nL11 := notup_ns F11.ns
            have F11 : Fr g L h11 _ := fr_na F11 V
            subst em10
            have N11 := list3_news e1 e2 e3 hM
            have hMt11 := (body_lt (w := w) (rows := oExt sig0 ext ++ prow) ⟨⟨us, n1, e1, r1⟩, ⟨ms, n2, mk, e2, r2, r2m, r2l⟩, oD, kvD, e3, r3, r4, r5⟩).2
            have hs1 : ∀ p ∈ snap g L h11 [Fd, Mt, On], p.1 ≠ Fd := fun p hp q => (of_snap hp).2.2.1 (by simp [q])
            have hs2 : ∀ p ∈ snap g L h11 [Fd, Mt, On], p.1 ≠ Mt := fun p hp q => (of_snap hp).2.2.1 (by simp [q])
            have hs3 : ∀ p ∈ snap g L h11 [Fd, Mt, On], p.1 ≠ On := fun p hp q => (of_snap hp).2.2.1 (by simp [q])
            have hps : (labs body).take (j + 1) = (labs body).take j ++ [(k, jj)] := by rw [List.take_add_one, hpj, Option.toList_some]
            have l1 := RowsIn.length r1
            have l2 := strs_len r2
            have l3 := oDup_len (pr.map (·.1)) ((labs body).take j)
            have l4 : ((labs body).take j).length ≤ (labs body).length := by rw [List.length_take]; omega
            have l5 := oExt_len sig0 ext
            rw [List.length_map] at r2l r5
            rw [List.length_append, List.length_append] at l1
            have h8 : sizeLine = 16777216 := rfl
            have hkd : kvD.length ≤ sizeLine := by omega
            have hz1 : us.toArray.size ≤ sizeLine := by rw [List.size_toArray]; omega
            have hz2 : ms.toArray.size ≤ sizeLine := by rw [List.size_toArray]; omega
            rw [hps]
            generalize hpe : (labs body).take j = ps at *
            by_cases hkm : k ∈ mk
            · have hb : mk.any (· == k) = true := by rw [any_mem]; exact decide_eq_true hkm
              walk_at "Mine.in"
              walk_at "Mine.gfin"
              rename News g L _ _ => N12
              rename Fr g L _ _ => F12
              have hkq := (r2m k).mp hkm
              refine hide_of ?_
              intro Gh
              obtain ⟨BS, K12⟩ := body_step (us' := [.ref _]) (k := k) (j := jj) (mk' := mk) kb11 nL11 hMt11 F12 N12 (fun p hp => .tail _ (.tail _ (.tail _ (.tail _ hp)))) r1 (by rw [← List.push_toArray]; k_mem) (by rw [if_pos hkq]; exact ⟨⟨_, _, _, _, rfl, ⟨_, (N12 _ (.head _)).1, rfl, _, rfl⟩⟩, trivial⟩) (by k_mem) r2 (mem_old hkq r2m) (by rw [List.length_append, List.length_map]; omega) (by k_mem) r3 (r4.congr (sig_old _ _ k jj hkq)) (by rw [List.length_append, List.length_map]; omega)
              k_unfold
              exact TurnH.intro F12 ⟨var_na, BS⟩ K12
            · have hb : mk.any (· == k) = false := by rw [any_mem]; exact decide_eq_false hkm
              walk_at "Mine.in"
              walk_at "Mine.gfin"
              rename News g L _ _ => N12
              rename Fr g L _ _ => F12
              rename Obj.IsDictOf (PySem.strKind PG w) _ (stored _ _ _) => D12
              have hkq : k ∉ pr.map (·.1) ++ ps.map (·.1) := fun q => hkm ((r2m k).mpr q)
              refine hide_of ?_
              intro Gh
              obtain ⟨BS, K12⟩ := body_step (us' := []) (ms' := ms ++ [.str k u1]) (k := k) (j := jj) (mk' := mk ++ [k]) kb11 nL11 hMt11 F12 N12 (fun p hp => .tail _ (.tail _ (.tail _ hp))) r1 (by rw [List.append_nil]; k_mem) (by rw [if_neg hkq]; exact trivial) (by rw [← List.push_toArray]; k_mem) (strs_snoc r2 k u1) (mem_new r2m) (by rw [List.length_append, List.length_append, List.length_map]; simp only [List.length_singleton]; omega) (by k_mem) D12 ((r4.put k _ _).congr (sig_snoc _ _ k jj (fun q => hkq (List.mem_append_left _ q)))) (Nat.le_trans (stored_length_le _ _ _) (by rw [List.length_append, List.length_map]; simp only [List.length_singleton]; omega))
              k_unfold
              exact TurnH.intro F12 ⟨var_na, BS⟩ K12
          · refine hide_of ?_
            intro Gh
            obtain ⟨V, ⟨us, n1, e1, r1⟩, ⟨ms, n2, mk, e2, r2, r2m, r2l⟩, oD, kvD, e3, r3, r4, r5⟩ := hJ
            k_unfold
            have F11 : Fr g L h11 _ := fr_na0 F11 V
            subst em10
            rw [List.take_length] at r1 r4 r5
            rw [List.length_map] at r5
            walk_at "Mine.in"
            rename Fr g L _ _ => F12
            refine hide_of ?_
            intro Gh
            obtain ⟨m12, em12, F12⟩ := fr_named F12
            k_unfold
            refine for_name (J := fun i m h => SumD g m12 (((oExt sig0 ext ++ prow) ++ oDup (pr.map (·.1)) (labs body)) ++ pre (at_ decls (oDecl (oSigma (pr.map (·.1)) (labs body)))) i) m h) rfl rfl rfl (by passes_own) hda F12 (hJ0 := ⟨fun _ _ => rfl, Fd, us, n1, by rw [em12]; rfl, e1, by rw [show pre (at_ decls (oDecl (oSigma (pr.map (·.1)) (labs body)))) 0 = [] from rfl, List.append_nil]; exact r1, hg2⟩) (M := []) (fun b hb => (List.not_mem_nil hb).elim) (fun b hb => (List.not_mem_nil hb).elim) (fun i m₁ m₂ h h' I x F hm old k => sumD_stab x F hm old k) (fun i v h13 tk13 m13 hv hJ F13 K13 => ?_) (fun h13 tk13 m13 F13 hJ K13 => ?_)
            · refine hide_of ?_
              intro Gh
              refine an2 hJ ?_
              clear hJ
              intro V hII
              refine ex3 hII ?_
              clear hII
              intro Fi us' nn
              intro hII
              refine an4 hII ?_
              clear hII
              intro f1 f2 rr f3
              obtain ⟨d, hd', hid⟩ := hdl.get (i := i) (v := v) (by simpa using hv)
              k_unfold
              have F13 : Fr g L h13 _ := fr_of F13 V f1
              subst em12
              have nL13 := notup_ns F13.ns
              have eOn := K13 _ _ (fun x => (List.not_mem_nil x).elim) hOn.2.1 e3
              have hlen := RowsIn.length rr
              have hpre : pre (at_ decls (oDecl (oSigma (pr.map (·.1)) (labs body)))) (i + 1) = pre (at_ decls (oDecl (oSigma (pr.map (·.1)) (labs body)))) i ++ oDecl (oSigma (pr.map (·.1)) (labs body)) d := by rw [pre_succ, show at_ decls (oDecl (oSigma (pr.map (·.1)) (labs body))) i = oDecl (oSigma (pr.map (·.1)) (labs body)) d from by unfold at_; rw [hd']]
              have hpm := pre_mono (at_ decls (oDecl (oSigma (pr.map (·.1)) (labs body)))) (show i ≤ decls.length from Nat.le_of_lt (List.getElem?_eq_some_iff.mp hd').1)
              rw [pre_at] at hpm
              simp only [List.length_append] at hlen
              have hl9 := flt_len (oSigma (pr.map (·.1)) (labs body)) decls
              have hx9 := oExt_len sig0 ext
              have hd9 := oDup_len (pr.map (·.1)) (labs body)
              have hlb := labs_sz body
              have h9 : LIM = 1000000 := rfl
              have hlen : us'.length ≤ 6000 := by omega
              clear hpm hl9 hx9 hd9 hr
              cases d with
              | port j dir ext' k =>
                refine hide_of ?_
                intro Gh
                refine ex6 hid ?_
                clear hid
                intro ea w1 w2 w3 w4 xv
                intro hII
                refine an3 hII ?_
                clear hII
                intro e hE' hx'
                k_unfold
                subst e
                cases ext' with
                | none =>
                  have e : xv = .none := hx'
                  subst e
                  walk_at "Mine.in"
                  walk_at "Mine.gfin"
                  rename Fr g L _ _ => F18
                  exact TurnH.intro F18 ⟨var_of, Fi, us', nn, rfl, f2, by rw [hpre, show oDecl (oSigma (pr.map (·.1)) (labs body)) (Decl.port j dir none k) = [] from rfl, List.append_nil]; exact rr, f3⟩ (fun b o _ _ e => e)
                | some p =>
                  refine hide_of ?_
                  intro Gh
                  obtain ⟨x, y⟩ := p
                  refine ex3 hx' ?_
                  clear hx'
                  intro xa z1 z2
                  intro hII
                  refine an4 hII ?_
                  clear hII
                  intro e hE2 hx1 hx2
                  k_unfold
                  subst e
                  walk_at "Mine.in"
                  unfold CallStop
                  refine GivesAt.useH (law_expr_rows_spec (e := some x) (hx1.mono (tup_keeps F13.keep)) eOn r3 lo6 r4) (rows_mono _) (by k_asm) (by k_asm) (by k_asm) (by k_asm) rfl (by walk_at "Mine.ar") (by walk_at "Mine.ar") (fun b o e => e) (fun D1 us1 n1 h14 tk14 F14 k14 hD1 hf1 hP1 => ?_)
                  have lr1 := RowsIn.length (rs := oOpt (oSigma (pr.map (·.1)) (labs body)) (some x)) hP1
                  have lx1 := oOpt_len (oSigma (pr.map (·.1)) (labs body)) (some x)
                  walk_at "Mine.in"
                  refine add_rows F14 (k14 _ _ (neL F13 f2) f2) hD1 (by first | exact fit1 hlen lr1 lx1 | omega) (fun D2 h15 F15 k15 hD2 hg15 hf15 T15 => ?_)
                  have eOn15 := k15 _ _ hOn.2.1 (k14 _ _ hOn.2.1 eOn)
                  have nL14 := notup_ns F14.ns
                  have nL15 := notup_ns F15.ns
                  have nD2 := neL F15 hD2
                  walk_at "Mine.in"
                  unfold CallStop
                  refine GivesAt.useH (law_expr_rows_spec (e := some y) (hx2.mono (tup_keeps F15.keep)) eOn15 r3 lo6 r4) (rows_mono _) (by k_asm) (by k_asm) (by k_asm) (by k_asm) rfl (by walk_at "Mine.ar") (by walk_at "Mine.ar") (fun b o e => e) (fun D3 us3 n3 h16 tk16 F16 k16 hD3 hf3 hP3 => ?_)
                  have lr3 := RowsIn.length (rs := oOpt (oSigma (pr.map (·.1)) (labs body)) (some y)) hP3
                  have lx3 := oOpt_len (oSigma (pr.map (·.1)) (labs body)) (some y)
                  walk_at "Mine.in"
                  refine add_rows F16 (k16 _ _ nD2 hD2) hD3 (by first | exact fit2 hlen lr1 lx1 lr3 lx3 | (rw [List.length_append]; omega)) (fun D4 h17 F17 k17 hD4 hg17 hf17 T17 => ?_)
                  have N17 : News g L h17 (snap g L h17 []) := news_snap
                  have kb17 := F17.keep
                  have nL17 := notup_ns F17.ns
                  have nD17 := neL F17 hD4
                  walk_at "Mine.in"
                  walk_at "Mine.gfin"
                  rename News g L _ (snap g L h17 []) => N18
                  rename Fr g L _ _ => F18
                  have K18 := keep_by kb17 F18 N18 (fun _ h => h)
                  have T18 := tupN nL17 (fun b o hb e => K18 b o (fun x => (List.not_mem_nil x).elim) hb e)
                  refine TurnH.intro F18 ⟨(fun y hy => by simp only [List.mem_cons, List.not_mem_nil, or_false, not_or] at hy; first | exact (if_neg hy.1).trans (if_neg hy.2) | exact (if_neg hy.2).trans (if_neg hy.1) | simp +zetaDelta only [if_neg hy.1, if_neg hy.2]), D4, _, 0, rfl, K18 _ _ (fun x => (List.not_mem_nil x).elim) nD17 hD4, ?_, hg17⟩ (fun b o h1 h2 e => K18 b o h1 h2 (k17 b o h2 (k16 b o h2 (k15 b o h2 (k14 b o h2 e)))))
                  rw [hpre, ← List.append_assoc, show oDecl (oSigma (pr.map (·.1)) (labs body)) (Decl.port j dir (some (x, y)) k) = oExpr (oSigma (pr.map (·.1)) (labs body)) x ++ oExpr (oSigma (pr.map (·.1)) (labs body)) y from rfl, ← List.append_assoc]
                  exact (rows_app ((((rows_app ((rr.mono (tupN nL13 k14)).mono T15) (hP1.mono T15)).mono (tupN nL15 k16)).mono T17)) (hP3.mono T17)).mono T18
              | var j ext' k fo =>
                refine hide_of ?_
                intro Gh
                refine ex8 hid ?_
                clear hid
                intro ea e0 w1 w2 w3 w4 xv fv
                intro hII
                refine an5 hII ?_
                clear hII
                intro e hE' hE0 hx' hf
                k_unfold
                subst e
                cases ext' with
                | none =>
                  have e : xv = .none := hx'
                  subst e
                  walk_at "Mine.in"
                  unfold CallStop
                  refine GivesAt.useH (law_expr_rows_spec (e := fo) (hf.mono (tup_keeps F13.keep)) eOn r3 lo6 r4) (rows_mono _) (by k_asm) (by k_asm) (by k_asm) (by k_asm) rfl (by walk_at "Mine.ar") (by walk_at "Mine.ar") (fun b o e => e) (fun D5 us5 n5 h18 tk18 F18 k18 hD5 hf5 hP5 => ?_)
                  have lr5 := RowsIn.length (rs := oOpt (oSigma (pr.map (·.1)) (labs body)) fo) hP5
                  have lx5 := oOpt_len (oSigma (pr.map (·.1)) (labs body)) fo
                  walk_at "Mine.in"
                  refine add_rows F18 (k18 _ _ (neL F13 f2) f2) hD5 (by first | exact fit1 hlen lr5 lx5 | omega) (fun D6 h19 F19 k19 hD6 hg19 hf19 T19 => ?_)
                  have N19 : News g L h19 (snap g L h19 []) := news_snap
                  have kb19 := F19.keep
                  have nL19 := notup_ns F19.ns
                  have nD19 := neL F19 hD6
                  walk_at "Mine.in"
                  walk_at "Mine.gfin"
                  rename News g L _ (snap g L h19 []) => N20
                  rename Fr g L _ _ => F20
                  have K20 := keep_by kb19 F20 N20 (fun _ h => h)
                  have T20 := tupN nL19 (fun b o hb e => K20 b o (fun x => (List.not_mem_nil x).elim) hb e)
                  refine TurnH.intro F20 ⟨(fun y hy => by simp only [List.mem_cons, List.not_mem_nil, or_false, not_or] at hy; first | exact (if_neg hy.1).trans (if_neg hy.2) | exact (if_neg hy.2).trans (if_neg hy.1) | simp +zetaDelta only [if_neg hy.1, if_neg hy.2]), D6, _, 0, rfl, K20 _ _ (fun x => (List.not_mem_nil x).elim) nD19 hD6, ?_, hg19⟩ (fun b o h1 h2 e => K20 b o h1 h2 (k19 b o h2 (k18 b o h2 e)))
                  rw [hpre, ← List.append_assoc, show oDecl (oSigma (pr.map (·.1)) (labs body)) (Decl.var j none k fo) = oOpt (oSigma (pr.map (·.1)) (labs body)) fo from rfl]
                  exact (rows_app ((rr.mono (tupN nL13 k18)).mono T19) (hP5.mono T19)).mono T20
                | some p =>
                  refine hide_of ?_
                  intro Gh
                  obtain ⟨x, y⟩ := p
                  refine ex3 hx' ?_
                  clear hx'
                  intro xa z1 z2
                  intro hII
                  refine an4 hII ?_
                  clear hII
                  intro e hE2 hx1 hx2
                  k_unfold
                  subst e
                  walk_at "Mine.in"
                  unfold CallStop
                  refine GivesAt.useH (law_expr_rows_spec (e := some x) (hx1.mono (tup_keeps F13.keep)) eOn r3 lo6 r4) (rows_mono _) (by k_asm) (by k_asm) (by k_asm) (by k_asm) rfl (by walk_at "Mine.ar") (by walk_at "Mine.ar") (fun b o e => e) (fun D1 us1 n1 h14 tk14 F14 k14 hD1 hf1 hP1 => ?_)
                  have lr1 := RowsIn.length (rs := oOpt (oSigma (pr.map (·.1)) (labs body)) (some x)) hP1
                  have lx1 := oOpt_len (oSigma (pr.map (·.1)) (labs body)) (some x)
                  walk_at "Mine.in"
                  refine add_rows F14 (k14 _ _ (neL F13 f2) f2) hD1 (by first | exact fit1 hlen lr1 lx1 | omega) (fun D2 h15 F15 k15 hD2 hg15 hf15 T15 => ?_)
                  have eOn15 := k15 _ _ hOn.2.1 (k14 _ _ hOn.2.1 eOn)
                  have nL14 := notup_ns F14.ns
                  have nL15 := notup_ns F15.ns
                  have nD2 := neL F15 hD2
                  walk_at "Mine.in"
                  unfold CallStop
                  refine GivesAt.useH (law_expr_rows_spec (e := some y) (hx2.mono (tup_keeps F15.keep)) eOn15 r3 lo6 r4) (rows_mono _) (by k_asm) (by k_asm) (by k_asm) (by k_asm) rfl (by walk_at "Mine.ar") (by walk_at "Mine.ar") (fun b o e => e) (fun D3 us3 n3 h16 tk16 F16 k16 hD3 hf3 hP3 => ?_)
                  have lr3 := RowsIn.length (rs := oOpt (oSigma (pr.map (·.1)) (labs body)) (some y)) hP3
                  have lx3 := oOpt_len (oSigma (pr.map (·.1)) (labs body)) (some y)
                  walk_at "Mine.in"
                  refine add_rows F16 (k16 _ _ nD2 hD2) hD3 (by first | exact fit2 hlen lr1 lx1 lr3 lx3 | (rw [List.length_append]; omega)) (fun D4 h17 F17 k17 hD4 hg17 hf17 T17 => ?_)
                  have N17 : News g L h17 (snap g L h17 []) := news_snap
                  have kb17 := F17.keep
                  have nL17 := notup_ns F17.ns
                  have nD17 := neL F17 hD4
                  walk_at "Mine.in"
                  rename News g L _ (snap g L h17 []) => N18
                  rename Fr g L _ _ => F18
                  have K18 := keep_by kb17 F18 N18 (fun _ h => h)
                  have T18 := tupN nL17 (fun b o hb e => K18 b o (fun x => (List.not_mem_nil x).elim) hb e)
                  have eOn18 := K18 _ _ (fun x => (List.not_mem_nil x).elim) hOn.2.1 (k17 _ _ hOn.2.1 (k16 _ _ hOn.2.1 eOn15))
                  have hD4' := K18 _ _ (fun x => (List.not_mem_nil x).elim) nD17 hD4
                  have rr4 := (rows_app ((((rows_app ((rr.mono (tupN nL13 k14)).mono T15) (hP1.mono T15)).mono (tupN nL15 k16)).mono T17)) (hP3.mono T17)).mono T18
                  have nL18 := notup_ns F18.ns
                  unfold CallStop
                  refine GivesAt.useH (law_expr_rows_spec (e := fo) (hf.mono (tup_keeps F18.keep)) eOn18 r3 lo6 r4) (rows_mono _) (by k_asm) (by k_asm) (by k_asm) (by k_asm) rfl (by walk_at "Mine.ar") (by walk_at "Mine.ar") (fun b o e => e) (fun D5 us5 n5 h18 tk18 F19 k19 hD5 hf5 hP5 => ?_)
                  have lr5 := RowsIn.length (rs := oOpt (oSigma (pr.map (·.1)) (labs body)) fo) hP5
                  have lx5 := oOpt_len (oSigma (pr.map (·.1)) (labs body)) fo
                  walk_at "Mine.in"
                  refine add_rows F19 (k19 _ _ nD17 hD4') hD5 (by first | exact fit3 hlen lr1 lx1 lr3 lx3 lr5 lx5 | (simp only [List.length_append]; omega)) (fun D6 h19 F20 k20 hD6 hg19 hf19 T20 => ?_)
                  have N20 : News g L h19 (snap g L h19 []) := news_snap
                  have kb20 := F20.keep
                  have nL20 := notup_ns F20.ns
                  have nD20 := neL F20 hD6
                  walk_at "Mine.in"
                  walk_at "Mine.gfin"
                  rename News g L _ (snap g L h19 []) => N21
                  rename Fr g L _ _ => F21
                  have K21 := keep_by kb20 F21 N21 (fun _ h => h)
                  have T21 := tupN nL20 (fun b o hb e => K21 b o (fun x => (List.not_mem_nil x).elim) hb e)
                  refine TurnH.intro F21 ⟨(fun y hy => by simp only [List.mem_cons, List.not_mem_nil, or_false, not_or] at hy; first | exact (if_neg hy.1).trans (if_neg hy.2) | exact (if_neg hy.2).trans (if_neg hy.1) | simp +zetaDelta only [if_neg hy.1, if_neg hy.2]), D6, _, 0, rfl, K21 _ _ (fun x => (List.not_mem_nil x).elim) nD20 hD6, ?_, hg19⟩ (fun b o h1 h2 e => K21 b o h1 h2 (k20 b o h2 (k19 b o h2 (K18 b o h1 h2 (k17 b o h2 (k16 b o h2 (k15 b o h2 (k14 b o h2 e))))))))
                  rw [hpre, ← List.append_assoc, show oDecl (oSigma (pr.map (·.1)) (labs body)) (Decl.var j (some (x, y)) k fo) = (oExpr (oSigma (pr.map (·.1)) (labs body)) x ++ oExpr (oSigma (pr.map (·.1)) (labs body)) y) ++ oOpt (oSigma (pr.map (·.1)) (labs body)) fo from rfl, ← List.append_assoc, ← List.append_assoc]
                  exact (rows_app ((rr4.mono (tupN nL18 k19)).mono T20) (hP5.mono T20)).mono T21
            · --B fin
              refine hide_of ?_
              intro Gh
              refine an2 hJ ?_
              clear hJ
              intro V hII
              refine ex3 hII ?_
              clear hII
              intro Fi us' nn
              intro hII
              refine an4 hII ?_
              clear hII
              intro f1 f2 rr f3
              k_unfold
              have F13 : Fr g L h13 _ := fr_of0 F13 V f1
              subst em12
              rw [show ds.toArray.size = decls.length from hsz, pre_at] at rr
              have eOn := K13 _ _ (fun x => (List.not_mem_nil x).elim) hOn.2.1 e3
              have hlen := RowsIn.length rr
              have nL13 := notup_ns F13.ns
              have hlb := labs_sz body
              simp only [List.length_append] at hlen
              have hC := law_body_spec (w := w) 8 h13 bv On oD kvD (oSigma (pr.map (·.1)) (labs body)) (!fn) body hht (by omega) (hbody.mono (tup_keeps F13.keep)) eOn r3 lo6 r4 (good_sigma _ _) (by have h9 : LIM = 1000000 := rfl; omega)
              have hkf : (kindOf fn == Str.ofString "task") = !fn := by cases fn <;> rfl
              walk_at "Mine.in"
              rw [hkf]
              unfold CallStop
              refine GivesAt.useH hC (rows_mono _) (by k_asm) (by k_asm) (by k_asm) (by k_asm) rfl (by walk_at "Mine.ar") (by walk_at "Mine.ar") (fun b o e => e) (fun D1 us1 n1 h14 tk14 F14 k14 hD1 hf1 hP1 => ?_)
              have lr1 := RowsIn.length (rs := oBody (oSigma (pr.map (·.1)) (labs body)) (!fn) body) hP1
              walk_at "Mine.in"
              refine add_rows F14 (k14 _ _ (neL F13 f2) f2) hD1 (by omega) (fun D2 h15 F15 k15 hD2 hg15 hf15 T15 => ?_)
              show Given g (fun T us => RowsIn T us (oRows ⟨fn, ip, nm, ext, decls, body⟩)) _ (.ref D2) _
              rw [hrow]
              exact Given.ofH (rows_mono _) F15 hD2 hg15 (rows_app ((rr.mono (tupN nL13 k14)).mono T15) (hP1.mono T15))
end

theorem RowsIn.get {T : TP} : ∀ {us : List Value} {rs : List Row} {i : Nat} {v : Value}, RowsIn T us rs → us[i]? = some v → ∃ r, rs[i]? = some r ∧ RowAt T v r
  | [], [], _, _, _, e => by simp at e
  | u :: us, r :: rs, 0, v, x, e => by
    cases e
    exact ⟨r, rfl, x.1⟩
  | u :: us, r :: rs, i + 1, v, x, e => RowsIn.get (us := us) (rs := rs) (i := i) x.2 e
  | [], _ :: _, _, _, x, _ => x.elim
  | _ :: _, [], _, _, x, _ => x.elim
theorem eq_row {A : Around} {s : Shared} {v v' : Value} {r : Row} (R1 : RowAt (IsTup s.heap) v r) (R2 : RowAt (IsTup s.heap) v' r) (hu : A.units < cLine) : SeqAt.EqAt A s v v' true := by
  refine ex4 R1 ?_
  clear R1
  intro a t1 t2 t3
  intro hII
  refine an2 hII ?_
  clear hII
  intro eqO1
  subst eqO1
  intro ha
  refine ex4 R2 ?_
  clear R2
  intro b u1 u2 u3
  intro hII
  refine an2 hII ?_
  clear hII
  intro eqO1
  subst eqO1
  intro hb
  by_cases q : a = b
  · subst q; exact SeqAt.EqAt.same _
  · refine SeqAt.EqAt.of_refs q ?_
    have h := SeqAt.RcAt.tuples (A := A) (e := fun _ => true) ha hb hu (fun j j1 j2 => ?_)
    · exact h
    · match j, j1, j2 with
      | 0, _, _ => have := SeqAt.EqAt.str_str (A := A.in1) (s := s) r.kind t1 r.kind u1; rw [beq_self_eq_true] at this; exact this
      | 1, _, _ => have := SeqAt.EqAt.int_int (A := A.in1) (s := s) r.pos t2 r.pos u2; rw [beq_self_eq_true] at this; exact this
      | 2, _, _ => have := SeqAt.EqAt.str_str (A := A.in1) (s := s) r.det t3 r.det u3; rw [beq_self_eq_true] at this; exact this
theorem eq_rows {w : World} {A : Around} {E : Value → Shared → Prop} {s : Shared} {l b : Addr} {us vs : List Value} {n1 n2 : Nat} {rs : List Row} {Q : Value → Shared → Prop} (hl : s.heap.get? l = some (listOf us.toArray n1)) (hb : s.heap.get? b = some (listOf vs.toArray n2)) (R1 : RowsIn (IsTup s.heap) us rs) (R2 : RowsIn (IsTup s.heap) vs rs)
    (hu : A.units + 1 < cLine) (h : Q (.bool true) s) : wpAny (MD w) A (compareOp .Eq (.ref l) (.ref b)) Q E s := by
  have h1 := R1.length
  have h2 := R2.length
  have e : ((List.range us.toArray.size).all fun _ => true) = true := by simp
  refine SeqAt.eq_listAt (e := fun _ => true) ⟨_, hl, rfl, _, rfl⟩ ⟨_, hb, rfl, _, rfl⟩ (by rw [List.size_toArray, List.size_toArray]; omega) (by omega) (fun j j1 j2 => ?_) (by rw [e]; exact h)
  obtain ⟨r, q1, p1⟩ := R1.get (i := j) (v := us.toArray[j]) (by simp at j1; simp [j1])
  obtain ⟨r', q2, p2⟩ := R2.get (i := j) (v := vs.toArray[j]) (by simp at j2; simp [j2])
  rw [q1] at q2; cases q2
  exact eq_row p1 p2 (show A.units + 1 < cLine from hu)
/-- a comparison of two objects at which the walk stops -/
noncomputable def EqStop (w : World) (A : Around) (a b : Addr) (Q E : Value → Shared → Prop) (s : Shared) : Prop := wpAny (MD w) A (compareOp .Eq (.ref a) (.ref b)) Q E s
theorem eq_stop {w : World} {A : Around} {a b : Addr} {Q E : Value → Shared → Prop} {s : Shared} (h : EqStop w A a b Q E s) : wpAny (MD w) A (compareOp .Eq (.ref a) (.ref b)) Q E s := h
noncomputable def outer0 : Sc := [(Str.ofString "v", ⟨Str.ofString "var", 0, .sig (Str.ofString "") false true⟩), (Str.ofString "n", ⟨Str.ofString "net", 0, .sig (Str.ofString "") false true⟩)]
theorem look_outer (k : Str) : look outer0 k = if k = Str.ofString "v" then some ⟨Str.ofString "var", 0, .sig (Str.ofString "") false true⟩ else if k = Str.ofString "n" then some ⟨Str.ofString "net", 0, .sig (Str.ofString "") false true⟩ else none := by
  unfold look outer0
  by_cases h1 : k = Str.ofString "v"
  · rw [if_pos h1, h1]
    simp only [List.find?_cons, decide_true, Option.map_some]
  · rw [if_neg h1]
    by_cases h2 : k = Str.ofString "n"
    · rw [if_pos h2, h2]
      have h3 : ¬ Str.ofString "v" = Str.ofString "n" := by decide
      simp only [List.find?_cons, h3, decide_false, decide_true, Option.map_some]
    · rw [if_neg h2]
      simp only [List.find?_cons, List.find?_nil, show ¬ Str.ofString "v" = k from fun q => h1 q.symm, show ¬ Str.ofString "n" = k from fun q => h2 q.symm, decide_false, Option.map_none]
theorem find_outer (k : Str) : findT [outer0] k = look outer0 k := by
  unfold findT
  cases h : look outer0 k with
  | none => rfl
  | some e => rfl
theorem good_outer : GoodT [outer0] := fun k e h => by
  rw [find_outer, look_outer] at h
  split at h
  · cases h; exact .inl ⟨rfl, _, _, _, rfl⟩
  · split at h
    · cases h; exact .inr (.inl ⟨rfl, _, _, rfl⟩)
    · cases h
theorem rel_outer : RelS sig0 [outer0] := fun k => by
  rw [find_outer, look_outer]
  unfold sig0
  split
  · rfl
  · split
    · rfl
    · rfl
theorem led_ne {g h : Heap} {L a b : Addr} {o1 o2 : Obj} {I : List (Addr × Obj)} (N : News g L h I) (m1 : (a, o1) ∈ I) (m2 : (b, o2) ∈ I) (hc : o1.cls ≠ o2.cls) : a ≠ b := fun q => by
  have e1 := (N _ m1).1
  have e2 := (N _ m2).1
  dsimp only at e1 e2
  rw [q, e2] at e1
  cases e1
  exact hc rfl
theorem led_rep {g h : Heap} {L a b c : Addr} {o1 o2 o3 : Obj} {I : List (Addr × Obj)} (N : News g L h ((a, o1) :: I)) (m1 : (b, o2) ∈ I) (m2 : (c, o3) ∈ I) : News g L h ((a, o1) :: (b, o2) :: (c, o3) :: snap g L h []) := fun p hp => by
  rcases List.mem_cons.mp hp with rfl | hp
  · exact N _ (.head _)
  · rcases List.mem_cons.mp hp with rfl | hp
    · exact N _ (.tail _ m1)
    · rcases List.mem_cons.mp hp with rfl | hp
      · exact N _ (.tail _ m2)
      · exact news_snap p hp
noncomputable abbrev repD (a1 a2 a3 : Tok) (k1 k2 k3 : Int) (v1 v2 : Value) (RL : Addr) (n : Nat) : Obj := dictOf [⟨k1, .str (Str.ofString "names") a1, v1⟩, ⟨k2, .str (Str.ofString "nettype") a2, v2⟩, ⟨k3, .str (Str.ofString "rows") a3, .ref RL⟩] n
section
variable {w : World} {g h : Heap} {L RL R dr l1 t1 t2 t3 t4 ED x dx : Addr} {o1 o : Obj} {a1 a2 a3 a4 a5 b1 b2 b3 b4 b5 b6 : Tok} {k1 k2 k3 k4 k5 : Int} {v1 v2 : Value} {n1 n2 n3 : Nat}
noncomputable abbrev goodLed (RL R dr l1 t1 t2 t3 t4 ED x dx : Addr) (o1 o : Obj) (a1 a2 a3 a4 a5 b1 b2 b3 b4 b5 b6 : Tok) (k1 k2 k3 k4 k5 : Int) (v1 v2 : Value) (n1 n2 n3 : Nat) : List (Addr × Obj) :=
  [(RL, W.listOf #[] n1), (R, instObj 38 dr), (dr, repD a1 a2 a3 k1 k2 k3 v1 v2 RL n2), (l1, o1), (t1, { cls := .type "tuple", data := .seq #[.str (Str.ofString "net") b1, .int 0 b2, .ref t2] }), (t2, { cls := .type "tuple", data := .seq #[.str (Str.ofString "") b3, .bool false, .bool true] }),
    (t3, { cls := .type "tuple", data := .seq #[.str (Str.ofString "var") b4, .int 0 b5, .ref t4] }), (t4, { cls := .type "tuple", data := .seq #[.str (Str.ofString "") b6, .bool false, .bool true] }), (ED, o), (x, instObj 59 dx), (dx, dictOf [⟨k4, .str (Str.ofString "parent") a4, .none⟩, ⟨k5, .str (Str.ofString "entries") a5, .ref ED⟩] n3)]
theorem good_ne (N : News g L h (goodLed RL R dr l1 t1 t2 t3 t4 ED x dx o1 o a1 a2 a3 a4 a5 b1 b2 b3 b4 b5 b6 k1 k2 k3 k4 k5 v1 v2 n1 n2 n3)) : R ≠ RL ∧ dr ≠ RL :=
  ⟨led_ne N (.tail _ (.head _)) (.head _) (by intro q; cases q), led_ne N (.tail _ (.tail _ (.head _))) (.head _) (by intro q; exact absurd (Value.type.inj q) (by decide))⟩
theorem good_ghost {G : Heap} (N : News g L h (goodLed RL R dr l1 t1 t2 t3 t4 ED x dx o1 o a1 a2 a3 a4 a5 b1 b2 b3 b4 b5 b6 k1 k2 k3 k4 k5 v1 v2 n1 n2 n3)) (D : o.IsDictOf (PySem.strKind PG w) [(Str.ofString "v", .ref t3), (Str.ofString "n", .ref t1)]) (lo : (ED == sysModules) = false)
    (h2 : ∀ p ∈ goodLed RL R dr l1 t1 t2 t3 t4 ED x dx o1 o a1 a2 a3 a4 a5 b1 b2 b3 b4 b5 b6 k1 k2 k3 k4 k5 v1 v2 n1 n2 n3, p.1 ≠ RL → G.get? p.1 = some p.2) : IsRep G R RL ∧ IsTab w G (.ref x) [outer0] := by
  have lt : ∀ {a : Addr} {vs : Array Value} {n : Nat}, (a, ({ cls := .type "tuple", data := .seq vs n } : Obj)) ∈ goodLed RL R dr l1 t1 t2 t3 t4 ED x dx o1 o a1 a2 a3 a4 a5 b1 b2 b3 b4 b5 b6 k1 k2 k3 k4 k5 v1 v2 n1 n2 n3 → IsTup G a vs := fun {a vs n} m =>
    ⟨_, h2 _ m (led_ne N m (.head _) (by intro q; exact absurd (Value.type.inj q) (by decide))), rfl, _, rfl⟩
  refine ⟨⟨dr, n2, k1, k2, k3, a1, a2, a3, v1, v2, h2 (R, instObj 38 dr) (.tail _ (.head _)) (good_ne N).1, h2 (dr, _) (.tail _ (.tail _ (.head _))) (good_ne N).2⟩,
    .cons (h2 (x, _) (.tail _ (.tail _ (.tail _ (.tail _ (.tail _ (.tail _ (.tail _ (.tail _ (.tail _ (.head _)))))))))) (led_ne N (.tail _ (.tail _ (.tail _ (.tail _ (.tail _ (.tail _ (.tail _ (.tail _ (.tail _ (.head _)))))))))) (.head _) (by intro q; cases q)))
      (h2 (dx, _) (.tail _ (.tail _ (.tail _ (.tail _ (.tail _ (.tail _ (.tail _ (.tail _ (.tail _ (.tail _ (.head _))))))))))) (led_ne N (.tail _ (.tail _ (.tail _ (.tail _ (.tail _ (.tail _ (.tail _ (.tail _ (.tail _ (.tail _ (.head _))))))))))) (.head _) (by intro q; exact absurd (Value.type.inj q) (by decide))))
      (h2 (ED, o) (.tail _ (.tail _ (.tail _ (.tail _ (.tail _ (.tail _ (.tail _ (.tail _ (.head _))))))))) (led_ne N (.tail _ (.tail _ (.tail _ (.tail _ (.tail _ (.tail _ (.tail _ (.tail _ (.head _))))))))) (.head _) (by rw [dict_cls D]; intro q; exact absurd (Value.type.inj q) (by decide))))
      D lo ⟨rfl, ⟨t3, b4, b5, .ref t4, rfl, lt (.tail _ (.tail _ (.tail _ (.tail _ (.tail _ (.tail _ (.head _))))))), t4, b6, rfl, lt (.tail _ (.tail _ (.tail _ (.tail _ (.tail _ (.tail _ (.tail _ (.head _))))))))⟩,
        rfl, ⟨t1, b1, b2, .ref t2, rfl, lt (.tail _ (.tail _ (.tail _ (.tail _ (.head _))))), t2, b3, rfl, lt (.tail _ (.tail _ (.tail _ (.tail _ (.tail _ (.head _))))))⟩, trivial⟩ .nil⟩
end
section
 local macro_rules | `(tactic| k_all) => `(tactic| with_reducible assumption)
 local macro_rules | `(tactic| walk_at "call ref") => `(tactic| (k_here; (fail_if_success (with_reducible show wpAny _ _ (call (Value.ref 59) _) _ _ _)); (fail_if_success (with_reducible show wpAny _ _ (call (Value.ref 38) _) _ _ _)); refine' call_stop ?_))
 local macro_rules | `(tactic| walk_at "compareOp Eq ref ref") => `(tactic| (k_here; refine' eq_stop ?_))
 local macro_rules | `(tactic| walk_at "Mine.idle") => `(tactic| skip)
 local macro_rules | `(tactic| walk_at "Mine.idle") => `(tactic| skip)
 local macro_rules | `(tactic| walk_at "Mine.idle") => `(tactic| skip)
 local macro_rules | `(tactic| walk_at "Mine.idle") => `(tactic| skip)
 local macro_rules | `(tactic| walk_at "Mine.idle") => `(tactic| skip)
 local macro_rules | `(tactic| walk_at "Mine.idle") => `(tactic| skip)
 local macro_rules | `(tactic| walk_at "Mine.idle") => `(tactic| skip)
theorem law_good_spec {w : World} {g₀ : Heap} {iv : Value} {it : Item} (hit : ItemAt (IsTup g₀) iv it) (hds : it.decls.length ≤ 1000) (hz : sz it.body ≤ 1000) (hht : ht it.body < 8) (hr : (oRows it).length ≤ LIM) :
    PureAt w 327 [iv] 400 4000 g₀ (fun r => r = .bool true) := by
  walk_at "Mine.pure"
  intro mean mg mb dp un gd outer A₀ base g L h₁ s Qe B F X Tp hd hu N hg
  have hit := hit.mono (tup_keeps hg)
  clear hg
  have hh : ∃ a, iv = .ref a := by
    refine ex9 hit ?_
    clear hit
    intro a _ _ _ _ _ _ _ _
    intro hII
    refine an2 hII ?_
    clear hII
    intro e _
    exact ⟨a, e⟩
  obtain ⟨ia, rfl⟩ := hh
  dsimp only [fnOf, List.map, List.zip, List.zipWith, List.reverse, List.reverseAux, List.append, HAppend.hAppend, Append.append] at F
  refine fr_let F ?_
  clear F
  intro m0 F
  walk_at "Mine.in"
  rename News g L _ _ => N2
  rename Fr g L _ _ => F2
  rename Obj.IsDictOf (PySem.strKind PG w) _ [_, _] => D2
  rename (_ == sysModules) = false => lo2
  have hrr : (routineRows [outer0] it).length ≤ LIM := by rw [rows_rel rel_outer it]; exact hr
  have hne := good_ne N2
  unfold CallStop
  refine EmitsAt.useT (us := []) (rs := []) (fun G h1 h2 h3 => check_routine_spec (good_ghost N2 D2 lo2 h2).1 (good_ghost N2 D2 lo2 h2).2 good_outer (hit.mono (tup_keeps h1)) hds hz hht) (by k_asm) F2 (by k_asm) (by k_asm) rfl (by walk_at "Mine.ar") (by walk_at "Mine.ar") N2 (.head _) trivial (by rw [List.length_nil]; omega) (fun us3 n3 I3 h3 tk3 F3 N3 hne3 hsub3 R3 => ?_)
  have mR := hsub3 _ (.tail _ (.head _)) hne.1
  have mD := hsub3 _ (.tail _ (.tail _ (.head _))) hne.2
  have N4 := led_rep N3 mR mD
  have R4 := R3.mono (LP.up F3 (News.sub N3 fun p hp => .tail _ hp))
  rw [List.nil_append, rows_rel rel_outer it] at R4
  have nL3 := notup_ns F3.ns
  clear N3 R3 hsub3 hne3 mR mD
  walk_at "Mine.in"
  rename News g L _ _ => N5
  rename Fr g L _ _ => F5
  have oR5 := (N5 _ (.head _)).1
  have nRL := (N5 _ (.head _)).2.1
  unfold CallStop
  refine GivesAt.useH (law_rows_spec hit hds hz hht hr) (rows_mono _) (by k_asm) F5 (by k_asm) (by k_asm) rfl (by walk_at "Mine.ar") (by walk_at "Mine.ar") F5.keep (fun D us6 n6 h6 tk6 F6 k6 hD hf6 hP6 => ?_)
  have oR6 := k6 _ _ nRL oR5
  have R6 := R4.mono (tupN nL3 k6)
  have hP6 : RowsIn (IsTup h6) us6 (oRows it) := hP6
  walk_at "Mine.in"
  unfold EqStop
  refine eq_rows oR6 hD R6 hP6 (show un + 1 < cLine by omega) ?_
  exact Handed.intro F6 rfl
end

theorem law_gen {w : World} {A : Around} {env : Env} {body : List Stmt} {s : Shared} {h₁ : Heap} {tk : Nat} {Q : Flow → Shared → Prop} {E : Value → Shared → Prop} (hQ : ∀ h' tk' L m, Fr s.heap L h' m → Q (.ret (.bool true)) { s with heap := h', toks := tk' })
    (H : ∀ (Q' : Flow → Shared → Prop) (E' : Value → Shared → Prop), (∀ h' tk' L m, Fr s.heap L h' m → Q' (.ret (.bool true)) { s with heap := h', toks := tk' }) → wpAny (MD w) A (execs body env) Q' E' { s with heap := h₁, toks := tk }) :
    wpAny (MD w) A (execs body env) Q E { s with heap := h₁, toks := tk } := H Q E hQ
theorem top_ar {w : World} {qual : Str} {scope : Scope} {L a : Addr} {cd : Value} {body : List Stmt} {Q : Flow → Shared → Prop} {E : Value → Shared → Prop} {s : Shared} (h : ∀ dp un gd, dp + 602 < recursionLimit → un + 6000 < cLine → wpAny (MD w) (AR dp un gd qual scope L a cd (cellsFrom (L + 1) scope.names []) []) (execs body (envOfC qual scope L a cd)) Q E s) : wpAny (MD w) (callerA.deeper (envOfC qual scope L a cd)) (execs body (envOfC qual scope L a cd)) Q E s := h 302 7 (some []) (by decide) (by decide)
theorem slice_cut {w : World} {A : Around} {E : Value → Shared → Prop} {s : Shared} {g : Heap} {L l : Addr} {m : Str → Option Value} {news : List (Addr × Obj)} {vs : List Value} {k : Nat} {ns : List Int} {t : Tok} {y : Int} {value slice : PySem.Expr} {Q : Value → Shared → Prop} (h : ∀ D ws h', Fr g L h' m → News g L h' ((D, W.listOf (List.toArray ws) 0) :: news) → (∀ p ∈ news, p.1 < D) → IntsAre ws (ns.take y.toNat) → Q (.ref D) { s with heap := h' })
    (F : Fr g L s.heap m := by k_asm) (N : News g L s.heap news := by k_asm) (hm : (l, W.listOf (List.toArray vs) k) ∈ news := by k_mem) (hi : IntsAre vs ns := by with_reducible assumption) (hy : 0 ≤ y := by decide) (hz : ns.length ≤ 100 := by (simp only [List.length_append, List.length_cons, List.length_nil]; omega))
    (hs : subscripted slice false (.ref l) (.ref s.heap.objs.size) = operate [.ref s.heap.objs.size, .ref l] (getItem (.ref l) (.ref s.heap.objs.size)) := by with_unfolding_all rfl) :
    wpAny (model PG w) A (subscriptTail value slice (.ref l) (.ref s.heap.objs.size)) Q E { s with heap := s.heap.push { cls := .type "slice", data := .fields #[.none, .int y t, .none] } } := by
  have hl : s.heap.IsList l (List.toArray vs) := ⟨_, (N _ hm).1, rfl, _, rfl⟩
  refine tail_any (Heap.IsList.typeIs (s := { s with heap := s.heap.push { cls := .type "slice", data := .fields #[.none, .int y t, .none] } }) (hl.push _)) list_getitem_lookup
    (wpAny_getItem_list_slice (hl.push _) (Heap.IsSliceOf.new ..) .none (.int _ _) .none (by simp) ?_ (by rw [List.size_toArray, hi.length, sizeLine_eq]; omega)) hs
  have N1 := News.push (F.push { cls := .type "slice", data := .fields #[.none, .int y t, .none] }) (N.grown fun _ _ e => Heap.get?_push_of_some _ e) { cls := .type "list", data := .seq (slicePick (List.toArray vs) none (some y) none) }
  rw [Heap.size_push] at N1
  show Q (.ref (s.heap.push _).objs.size) _
  rw [Heap.size_push]
  refine h _ (slicePick (List.toArray vs) none (some y) none).toList _ ((F.push _).push _) ?_ (fun p hp => Nat.lt_succ_of_lt (Heap.lt_size (N p hp).1)) (kmk_upto hi hy)
  rw [Array.toArray_toList]
  exact N1
theorem kind_menu {w : World} {A : Around} {E : Value → Shared → Prop} {s : Shared} {g : Heap} {L D : Addr} {I : List (Addr × Obj)} {n : Nat} {i : Int} {u u1 u2 : Tok} {value slice : PySem.Expr} {Q : Value → Shared → Prop} (h : ∀ fn t, Q (.str (kindOf fn) t) s) (N : News g L s.heap I := by k_asm) (hm : (D, W.listOf #[.str (Str.ofString "task") u1, .str (Str.ofString "function") u2] n) ∈ I := by k_mem) (h0 : 0 ≤ i := by omega) (h1 : i < 2 := by omega)
    (hs : subscripted slice false (.ref D) (.int i u) = operate [.ref D, .int i u] (getItem (.ref D) (.int i u)) := by with_unfolding_all rfl) :
    wpAny (model PG w) A (subscriptTail value slice (.ref D) (.int i u)) Q E s := by
  have hl : s.heap.IsList D #[.str (Str.ofString "task") u1, .str (Str.ofString "function") u2] := ⟨_, (N _ hm).1, rfl, _, rfl⟩
  have hi : i = 0 ∨ i = 1 := by omega
  rcases hi with e | e <;> subst e
  · exact tail_any hl.typeIs slot_list_getitem.lookup (wpAny_getItem_list (x := .str (kindOf false) u1) hl (by decide) (by decide) rfl (h false u1)) hs
  · exact tail_any hl.typeIs slot_list_getitem.lookup (wpAny_getItem_list (x := .str (kindOf true) u2) hl (by decide) (by decide) rfl (h true u2)) hs
theorem jar_at {g h : Heap} {L J C : Addr} {ns : List Int} {B k n : Nat} {cs : List Value} {a b p : Int} {t1 t2 t3 : Tok} {I : List (Addr × Obj)} (N : News g L h I) (hm : (J, jarO C a b p t1 t2 t3 n) ∈ I) (eC : h.get? C = some (W.listOf (List.toArray cs) k)) (hn : JarNum cs ns a b B) : JarIn h J C ns B :=
  ⟨a, b, p, t1, t2, t3, n, cs, k, (N _ hm).1, eC, hn⟩
/-- a tuple of declarations -/
noncomputable def InsAt (T : TP) (a : Addr) (ds : List Decl) : Prop := ∃ ys, T a (List.toArray ys) ∧ ListAt (DeclAt T) ys ds
theorem InsAt.mono {T T' : TP} (h : ∀ a vs, T a vs → T' a vs) {a : Addr} {ds : List Decl} (x : InsAt T a ds) : InsAt T' a ds := by
  obtain ⟨ys, p, q⟩ := x
  exact ⟨ys, h _ _ p, q.mono fun _ _ y => y.mono h⟩
noncomputable def EmpAt (T : TP) (a : Addr) : Prop := T a #[]
theorem EmpAt.mono {T T' : TP} (h : ∀ a vs, T a vs → T' a vs) {a : Addr} (x : EmpAt T a) : EmpAt T' a := h _ _ x
noncomputable def DeMade (T : TP) (v : Value) : Prop := ∃ d, DeclAt T v d ∧ okD d
theorem DeMade.mono : ∀ T T' : TP, (∀ a vs, T a vs → T' a vs) → ∀ y, DeMade T y → DeMade T' y := fun T T' h y x => by
  obtain ⟨d, p, q⟩ := x
  exact ⟨d, p.mono h, q⟩
theorem decls_made {T : TP} : ∀ {ys : List Value}, (∀ y ∈ ys, DeMade T y) → ∃ ds, ListAt (DeclAt T) ys ds ∧ ds.length = ys.length
  | [], _ => ⟨[], trivial, rfl⟩
  | y :: ys, h => by
    obtain ⟨ds, p, q⟩ := decls_made (ys := ys) (fun y hy => h y (.tail _ hy))
    obtain ⟨d, p1, _⟩ := h y (.head _)
    exact ⟨d :: ds, ⟨p1, p⟩, by rw [List.length_cons, List.length_cons, q]⟩
theorem oExpr_len (σ : Str → Option Str) (d : Idn) : (oExpr σ d).length ≤ 1 := by
  unfold oExpr
  split
  · exact Nat.le_refl 1
  · exact Nat.zero_le 1
theorem oTarget_len (σ : Str → Option Str) (d : Idn) : (oTarget σ d).length ≤ 1 := by
  unfold oTarget
  split
  · exact Nat.le_refl 1
  · split
    · exact Nat.zero_le 1
    · split <;> exact Nat.le_refl 1
theorem sq_add (a b : Nat) : a * a + b * b ≤ (a + b) * (a + b) := by
  simp only [Nat.add_mul, Nat.mul_add]
  omega
theorem sq_one (a : Nat) : (a + 1) * (a + 1) = a * a + 2 * a + 1 := by
  simp only [Nat.add_mul, Nat.mul_add, Nat.one_mul, Nat.mul_one]
  omega
mutual
theorem oBody_len (wait : Bool) : ∀ (s : St) (σ : Str → Option Str), (oBody σ wait s).length ≤ sz s * sz s + 2 * sz s
  | .set i l r, σ => by
    have h1 := oTarget_len σ l
    have h2 := oExpr_len σ r
    unfold oBody sz
    rw [List.length_append]
    omega
  | .delay i e s, σ => by
    have h1 := oBody_len wait s σ
    have h2 := oExpr_len σ e
    have h3 : (if wait then [] else [(⟨Str.ofString "timing_in_function", i, Str.ofString ""⟩ : Row)]).length ≤ 1 := by
      split
      · exact Nat.zero_le 1
      · exact Nat.le_refl 1
    unfold oBody sz
    rw [List.length_append, List.length_append, sq_one]
    omega
  | .block i (some l) ss, σ => by
    have h1 := oBodyL_len wait ss (setB σ ((labsL ss).map (·.1)))
    have h2 := oDup_len [] (labsL ss)
    have h3 := labsL_sz ss
    unfold oBody sz
    rw [List.length_append, sq_one]
    omega
  | .block i none ss, σ => by
    have h1 := oBodyL_len wait ss σ
    unfold oBody sz
    rw [sq_one]
    omega
theorem oBodyL_len (wait : Bool) : ∀ (ss : List St) (σ : Str → Option Str), (oBodyL σ wait ss).length ≤ szL ss * szL ss + 2 * szL ss
  | [], σ => by unfold oBodyL; exact Nat.zero_le _
  | s :: ss, σ => by
    have h1 := oBody_len wait s σ
    have h2 := oBodyL_len wait ss σ
    have h3 := sq_add (sz s) (szL ss)
    unfold oBodyL szL
    rw [List.length_append]
    omega
end
theorem oRows_len (it : Item) (hd : it.decls.length ≤ 10) (hz : sz it.body ≤ 100) : (oRows it).length ≤ LIM := by
  have h1 := oExt_len sig0 it.ext
  have h2 := (prAll_len it.decls (pr0 it)).1
  have h3 := oDup_len (oKeys it) (labs it.body)
  have h4 := labs_sz it.body
  have h5 := flt_len (oSigma (oKeys it) (labs it.body)) it.decls
  have h6 := oBody_len (!it.fn) it.body (oSigma (oKeys it) (labs it.body))
  have h7 : sz it.body * sz it.body ≤ 100 * 100 := Nat.mul_le_mul hz hz
  unfold oRows
  simp only [List.length_append, LIM]
  omega
/-- the law's own item -/
noncomputable def it2 : Item := ⟨true, 0, Str.ofString "f", none, [.port 1 (Str.ofString "input") none (Str.ofString "f"), .var 2 none (Str.ofString "f") none], .set 3 ⟨4, Str.ofString "f"⟩ ⟨5, Str.ofString "v"⟩⟩
theorem rows_it2 : oRows it2 = [⟨Str.ofString "duplicate", 1, Str.ofString "f"⟩, ⟨Str.ofString "duplicate", 2, Str.ofString "f"⟩] := by rfl
noncomputable abbrev tupO (vs : Array Value) : Obj := { cls := .type "tuple", data := .seq vs }
theorem item2_at {g h : Heap} {L It Ln i5 i4 Tw V E0 P : Addr} {t1 t2 t3 t4 t5 t6 t7 t8 t9 u1 u2 u3 u4 u5 u6 u7 u8 u9 u10 u11 : Tok}
    (N : News g L h [(It, tupO #[.str (Str.ofString "routine") t1, .int 0 t2, .str (Str.ofString "function") t3, .bool false, .bool false, .none, .str (Str.ofString "f") t4, .ref Tw, .ref Ln]),
      (Ln, tupO #[.str (Str.ofString "set") t5, .int 3 t6, .ref i4, .ref i5, .none]), (i5, tupO #[.str (Str.ofString "id") t7, .int 5 t8, .str (Str.ofString "v") t9]), (i4, tupO #[.str (Str.ofString "id") u1, .int 4 u2, .str (Str.ofString "f") u3]),
      (Tw, tupO #[.ref P, .ref V]), (V, tupO #[.str (Str.ofString "var") u4, .int 2 u5, .str (Str.ofString "reg") u6, .bool false, .none, .str (Str.ofString "f") u7, .ref E0, .none]), (E0, tupO #[]),
      (P, tupO #[.str (Str.ofString "port") u8, .int 1 u9, .str (Str.ofString "input") u10, .bool false, .none, .str (Str.ofString "f") u11])]) : ItemAt (IsTup h) (.ref It) it2 := by
  have tt : ∀ {a : Addr} {vs : Array Value} {I : List (Addr × Obj)}, News g L h I → (a, tupO vs) ∈ I → IsTup h a vs := fun N m => ⟨_, (N _ m).1, rfl, _, rfl⟩
  refine ⟨It, t1, t2, t3, t4, .none, Tw, .ref Ln, [.ref P, .ref V], rfl, tt N (.head _), rfl, tt N (.tail _ (.tail _ (.tail _ (.tail _ (.head _))))), ⟨?_, ?_, trivial⟩, ?_⟩
  · exact ⟨P, u8, u9, u10, u11, .none, rfl, tt N (.tail _ (.tail _ (.tail _ (.tail _ (.tail _ (.tail _ (.tail _ (.head _)))))))), rfl⟩
  · exact ⟨V, E0, u4, u5, u6, u7, .none, .none, rfl, tt N (.tail _ (.tail _ (.tail _ (.tail _ (.tail _ (.head _)))))), tt N (.tail _ (.tail _ (.tail _ (.tail _ (.tail _ (.tail _ (.head _))))))), rfl, rfl⟩
  · unfold StAt
    exact ⟨Ln, t5, t6, .ref i4, .ref i5, rfl, tt N (.tail _ (.head _)), ⟨i4, u1, u2, u3, rfl, tt N (.tail _ (.tail _ (.tail _ (.head _))))⟩, ⟨i5, t7, t8, t9, rfl, tt N (.tail _ (.tail _ (.head _)))⟩⟩
theorem it2_ht : ht it2.body < 8 := by unfold it2 ht; decide
theorem it2_sz : sz it2.body ≤ 1000 := by unfold it2 sz; decide
theorem it2_len : (oRows it2).length ≤ LIM := by rw [rows_it2]; decide
section
 local macro_rules | `(tactic| k_all) => `(tactic| with_reducible assumption)
 local macro_rules | `(tactic| walk_at "call ref") => `(tactic| (k_here; refine' call_stop ?_))
 local macro_rules | `(tactic| walk_at "compareOp Eq ref ref") => `(tactic| (k_here; refine' eq_stop ?_))
 local macro_rules | `(tactic| walk_at "call type:tuple") => `(tactic| (k_here; refine' tup_stop ?_))
 local macro_rules | `(tactic| walk_at "eval ListComp") => `(tactic| (k_here; k_dflt (refine' comp1_start ?hclos ?hkind ?hnames ?_ ?hs; (case hclos => with_unfolding_all rfl); (case hkind => exact rfl); (case hnames => decide); (case hs => (intro _; exact rfl)); k_whole)))
 local macro_rules | `(tactic| walk_at "subscriptTail BinOp") => `(tactic| (k_here; k_dflt refine slice_cut ?_; intro D' ws' h' F' N' l1 hI'; (try k_lt l1); (try k_sweep)))
 local macro_rules | `(tactic| walk_at "subscriptTail List") => `(tactic| (k_here; k_dflt refine kind_menu ?_; intros))
 local macro_rules | `(tactic| walk_at "Mine.idle") => `(tactic| skip)
 local macro_rules | `(tactic| walk_at "Mine.idle") => `(tactic| skip)
 local macro_rules | `(tactic| walk_at "Mine.idle") => `(tactic| skip)
 local macro_rules | `(tactic| walk_at "Mine.idle") => `(tactic| skip)
theorem law_holds : PySem.Challenge.rw_pq0465_01.Holds := hd (by
  k_go0
  all_goals (try k_fold)
  rename Below callerA _ [] _ => K0
  rename Fr _ _ _ _ => F0
  rename News _ _ _ _ => N0
  rename Top _ _ _ _ _ _ => T0
  rename Frag.In _ _ => KX
  rename IntsAre _ _ => hI
  rename Heap.IsList _ _ _ => hL
  rename ¬ _ < _ => hlen
  rename Obj.data _ = Data.cell _ => c0
  refine law_gen (fun h' tk' L m Fe => ?_) (fun Q' E' hQ' => ?_)
  · k_unfold
    try dsimp only
    refine goodW_bool Fe (by assumption) (raisesW_false (by wrow_none_raised)) ?_
    refine' postW_of ?ps ?pv ?pe; (case ps => o_shape); (case pv => wtm_val); (case pe => w_fin)
  rename Ground _ _ _ _ _ _ _ _ _ => G0
  clear G0
  rename_i w s0 s1 mg mb Y fa o pm doc ho hg X V GL B TE TW wa wb M wc wd hcd ns hs hlay0 hL0 hr1 hl2 we wf S vs wg ra w1 r0 hr2 hcond hD h₁ tk₁ q1 X0
  clear qk ek Y hg X V GL B TE TW M hs hlay0 hL0 hr1 hl2 ra w1 r0 hr2 hcond X0
  have F : Fr s1.heap s1.heap.objs.size h₁ (fun y => if y = Str.ofString "script" then some (.ref S) else none) := F0
  have c1 : q1.data = .cell none := c0
  have K : Below callerA s1.heap [] s1.heap := K0
  have hlen : ns.length ≤ 63 := by omega
  clear hcd ho hD F0 c0 K0
  obtain ⟨mean, hmean⟩ : ∃ m, m = ExcName.means s0.heap := ⟨_, rfl⟩
  have T0 : Top PV LS mean mg mb s1.heap := by rw [hmean]; exact T0
  clear hmean
  refine top_ar (fun dp un gd hd hu => ?_)
  dsimp only
  obtain ⟨L, hLe⟩ : ∃ L, L = s1.heap.objs.size := ⟨_, rfl⟩
  rw [← hLe] at F ⊢
  have N0 : News s1.heap L h₁ [(L + 1, q1)] := by rw [hLe]; exact N0
  obtain ⟨g, hg⟩ : ∃ g, g = s1.heap := ⟨_, rfl⟩
  rw [← hg] at F N0 K T0 KX hL hQ'
  clear hg hLe
  walk_at "Mine.in"
  rename IntsAre _ (List.take _ _) => hI40
  rename_i D2 c9 h6 l5 E2 h5 l4 D1 ws1 h4 hI1 l3 C cs h3 l2 J h2' l1 h1' q d1 KD hh F1 N1 l0
  obtain ⟨ms, hms⟩ : ∃ ms, ms = List.take (Int.toNat 40) (ns ++ [0]) := ⟨_, rfl⟩
  have hm0 : 0 < ms.length := by rw [hms, List.length_take, List.length_append]; show 0 < min 40 (ns.length + 1); omega
  have hm1 : ms.length ≤ 40 := by rw [hms, List.length_take]; exact Nat.min_le_left 40 _
  rw [← hms] at hI40
  have hn1 : JarNum cs ms 0 0 0 := ⟨hI40, hm0, hm1, by omega, by decide, by omega, by omega⟩
  have hCJ : C ≠ J := Nat.ne_of_lt l1.1
  have hKJ : KD ≠ J := Nat.ne_of_gt l0.1
  have hQJ : L + 1 ≠ J := Nat.ne_of_lt l1.2.2.2.2
  have hJL := (N1 _ (.tail _ (.head _))).2.1
  have hJ0 := (N1 _ (.tail _ (.head _))).2.2
  have hCL := (N1 _ (.tail _ (.tail _ (.head _)))).2.1
  clear hI hlen hL c1 hms l5 l4 l3 l2 l1 l0 hI1 hI40 hm0 hm1
  have hcJ : ∀ p ∈ [(L + 1, q), (C, W.listOf (List.toArray cs) 0)], p.1 ≠ J := List.forall_mem_cons.mpr ⟨hQJ, one_ne hCJ⟩
  have hcK : ∀ p ∈ [(L + 1, q), (C, W.listOf (List.toArray cs) 0), (KD, W.listOf #[.str (Str.ofString "task") tk, .str (Str.ofString "function") (tk + 1)] 0)], p.1 ≠ J := List.forall_mem_cons.mpr ⟨hQJ, List.forall_mem_cons.mpr ⟨hCJ, one_ne hKJ⟩⟩
  have hst : ∀ t, MakesAt w 287 [.ref J, .int 2 t] 80 800 J C ms 17 (StMade 2) := fun t => law_statement_spec 2 t
  have hde : MakesAt w 282 [.ref J] 40 400 J C ms 8 DeMade := law_declared_spec
  --WALK
  have nL1 := notup_ns F1.ns
  have NO1 : News g L _ ((L + 1, q) :: (C, W.listOf (List.toArray cs) 0) :: (KD, W.listOf #[.str (Str.ofString "task") tk, .str (Str.ofString "function") (tk + 1)] 0) :: []) := News.sub N1 (by lcg_sub)
  have eC1 := (NO1 _ (.tail _ (.head _))).1
  have nJ1 := notup_list (N1 (J, jarO _ _ _ _ _ _ _ _) (by k_mem)).1
  unfold CallStop
  refine (law_draw_spec (by decide) (by decide)).jarI (R := fun o h => (L + 1, q) :: (C, W.listOf (List.toArray cs) 0) :: (KD, W.listOf #[.str (Str.ofString "task") tk, .str (Str.ofString "function") (tk + 1)] 0) :: (J, o) :: snap g L h [J]) N1 (by k_mem) NO1 hcK (fun _ _ => rfl) eC1 hn1 (new_C hCJ hCL eC1) hJ0 hJL (by first | decide | omega) (ret := fun i2 u2 h2 tk2 a2 b2 p2 x2 y2 z2 n2 i20 i21 F2 K2 N2 off2 eJ2 eC2 hn2 => ?_)
  have kb2 := F2.keep
  have nL2 := notup_ns F2.ns
  have nJ2 := notup_list eJ2
  clear N1 NO1 F1 K2 nL1 nJ1 eC1
  walk_at "Mine.in"
  rename News g L _ _ => N3
  rename Fr g L _ _ => F3
  have T3 := tupX (keep_by (M := [J]) kb2 F3 N3 (fun p hp => by (repeat first | with_reducible exact hp | refine List.mem_cons_of_mem _ ?_))) nL2 (fun b hb => by rw [List.mem_singleton.mp hb]; exact nJ2)
  clear kb2 nL2 nJ2 off2 eJ2
  clear hKJ T3
  rename_i fn kt _
  have nL3 := notup_ns F3.ns
  have NO3 : News g L _ ((L + 1, q) :: (C, W.listOf (List.toArray cs) 0) :: []) := News.sub N3 (by lcg_sub)
  have eC3 := (NO3 _ (.tail _ (.head _))).1
  have nJ3 := notup_list (N3 (J, jarO _ _ _ _ _ _ _ _) (by k_mem)).1
  unfold CallStop
  refine (law_draw_spec (by decide) (by decide)).jarI (R := fun o h => (L + 1, q) :: (C, W.listOf (List.toArray cs) 0) :: (J, o) :: snap g L h [J]) N3 (by k_mem) NO3 hcJ (fun _ _ => rfl) eC3 hn2 (new_C hCJ hCL eC3) hJ0 hJL (by first | decide | omega) (ret := fun i4 u4 h4 tk4 a4 b4 p4 x4 y4 z4 n4 i40 i41 F4 K4 N4 off4 eJ4 eC4 hn4 => ?_)
  have kb4 := F4.keep
  have nL4 := notup_ns F4.ns
  have nJ4 := notup_list eJ4
  clear N3 NO3 F3 K4 nL3 nJ3 eC3
  walk_at "Mine.in"
  rename News g L _ _ => N5
  rename Fr g L _ _ => F5
  have T5 := tupX (keep_by (M := [J]) kb4 F5 N5 (fun p hp => by (repeat first | with_reducible exact hp | refine List.mem_cons_of_mem _ ?_))) nL4 (fun b hb => by rw [List.mem_singleton.mp hb]; exact nJ4)
  clear kb4 nL4 nJ4 off4 eJ4
  have nL5 := notup_ns F5.ns
  have NO5 : News g L _ ((L + 1, q) :: (C, W.listOf (List.toArray cs) 0) :: []) := News.sub N5 (by lcg_sub)
  have eC5 := (NO5 _ (.tail _ (.head _))).1
  have nJ5 := notup_list (N5 (J, jarO _ _ _ _ _ _ _ _) (by k_mem)).1
  have J5 := jar_at N5 (by k_mem) eC5 hn4
  refine comp_made (c := 8) (P := DeMade) DeMade.mono rfl (by decide) rfl rfl F5 (by assumption) (small_one (by omega) (by omega) (by omega) (by omega)) (rangeSize_nat _ _) (by rw [sizeLine_eq]; omega) J5 hJ0 (fun i h tk C' m₂ E' hi F6 K6 J6 hC' bC nCL nCJ => ?_) (fun D ys h6 tk6 F6 K6 hD bD fD hlen J6 hP => ?_)
  · have hid : i * 8 ≤ 4 * 8 := Nat.mul_le_mul_right _ (by omega)
    have hid1 : (i + 1) * 8 = i * 8 + 8 := Nat.succ_mul _ _
    refine hide_of ?_
    intro G7
    have eC6 := K6 _ _ (by simpa using hCJ) hCL eC5
    refine ex7 (jar_open J6 eC6) ?_
    intro a7 b7 p7 x7 y7 z7 n7
    intro hII
    refine an2 hII ?_
    clear hII
    intro eJ7 hn7
    have N7 : News g L h ((L + 1, q) :: (C, W.listOf (List.toArray cs) 0) :: (J, jarO C a7 b7 p7 x7 y7 z7 n7) :: snap g L h [J]) := jar_ledN NO5 hcJ K6 eJ7 hJL hJ0
    clear N5 J6 F5 NO5 J5
    walk_at "Mine.in"
    rename Fr g L _ _ => F8
    unfold CallStop
    refine MakesAt.use (hde) (by k_asm) F8 (by k_asm) (by k_asm) rfl (by walk_at "Mine.ar") (by walk_at "Mine.ar") (jar_at N7 (by k_mem) eC6 hn7) hJ0 hJL (by omega) (fun v9 h9 tk9 F9 K9 J9 P9 => ?_)
    exact ⟨h9, tk9, rfl, F9, K9, by rw [hid1, ← Nat.add_assoc]; exact J9, P9⟩
  refine hide_of ?_
  intro G6
  have hid : (i4 - 0).toNat * 8 ≤ 5 * 8 := Nat.mul_le_mul_right _ (by omega)
  have eC6 := K6 _ _ (by simpa using hCJ) hCL eC5
  refine ex7 (jar_open J6 eC6) ?_
  intro a6 b6 p6 x6 y6 z6 n6
  intro hII
  refine an2 hII ?_
  clear hII
  intro eJ6 hn6
  have hn6 := hn6.mono (show _ ≤ 100 by omega)
  clear hid
  have nDL := neL F6 hD
  have nDJ : D ≠ J := fun q => by
    refine ex7 (jar_open J5 eC5) ?_
    intro _ _ _ _ _ _ _
    intro hII
    refine an2 hII ?_
    clear hII
    intro e9 _
    rw [← q, fD] at e9; cases e9
  have N6 : News g L h6 ((D, LCg.lst ys) :: (L + 1, q) :: (C, W.listOf (List.toArray cs) 0) :: (J, jarO C a6 b6 p6 x6 y6 z6 n6) :: snap g L h6 [J]) := News.cons (p := (D, LCg.lst ys)) (I := []) (fun p hp => by rw [List.mem_singleton.mp hp]; exact ⟨hD, nDL, bD⟩) (jar_ledN NO5 hcJ K6 eJ6 hJL hJ0)
  have off6 := jar_off (g := g) (h := h6) (L := L) (J := J)
  have kb6 := F6.keep
  have nL6 := notup_ns F6.ns
  have nJ6 := notup_list eJ6
  have T6 := tupX K6 nL5 (fun b hb => by rw [List.mem_singleton.mp hb]; exact nJ5)
  clear N5 NO5 F5 J5 J6 T6
  obtain ⟨ds, hds, hdl⟩ := decls_made hP
  clear hP
  walk_at "Mine.in"
  rename News g L _ _ => N6
  rename Fr g L _ _ => F6
  unfold TupStop
  refine kde_tupleOf (zs := ys) F6 N6 ⟨_, (N6 _ (.head _)).1, rfl, _, rfl⟩ (by rw [List.size_toArray]; omega) (by simp) (fun D6 h6' F6 N6 l6 => ?_)
  walk_at "Mine.in"
  rename News g L _ _ => N7
  rename Fr g L _ _ => F7
  have T7 := tupX (keep_by (M := [J]) kb6 F7 N7 (fun p hp => by (repeat first | with_reducible exact hp | refine List.mem_cons_of_mem _ ?_))) nL6 (fun b hb => by rw [List.mem_singleton.mp hb]; exact nJ6)
  have I7 : InsAt (IsTup _) D6 ds := ⟨ys, ⟨_, (N7 (D6, _) (by k_mem)).1, rfl, _, rfl⟩, hds.mono fun _ _ y => y.mono T7⟩
  clear kb6 nL6 nJ6 off6 eJ6 hds T7
  have nL7 := notup_ns F7.ns
  have NO7 : News g L _ ((L + 1, q) :: (C, W.listOf (List.toArray cs) 0) :: []) := News.sub N7 (by lcg_sub)
  have eC7 := (NO7 _ (.tail _ (.head _))).1
  have nJ7 := notup_list (N7 (J, jarO _ _ _ _ _ _ _ _) (by k_mem)).1
  unfold CallStop
  refine (law_spot_spec).jarS (R := fun o h => (L + 1, q) :: (C, W.listOf (List.toArray cs) 0) :: (J, o) :: snap g L h [J]) N7 (by k_mem) NO7 hcJ (fun _ _ => rfl) eC7 hn6 (new_C hCJ hCL eC7) hJ0 hJL (by first | decide | omega) (ret := fun i8 u8 h8 tk8 a8 b8 p8 x8 y8 z8 n8  F8 K8 N8 off8 eJ8 eC8 hn8 => ?_)
  have kb8 := F8.keep
  have nL8 := notup_ns F8.ns
  have nJ8 := notup_list eJ8
  have T8 := tupX K8 nL7 (fun b hb => by rw [List.mem_singleton.mp hb]; exact nJ7)
  have I8 := I7.mono T8
  clear N7 NO7 F7 K8 nL7 nJ7 eC7 T8 I7
  walk_at "Mine.in"
  rename News g L _ _ => N9
  rename Fr g L _ _ => F9
  have T9 := tupX (keep_by (M := [J]) kb8 F9 N9 (fun p hp => by (repeat first | with_reducible exact hp | refine List.mem_cons_of_mem _ ?_))) nL8 (fun b hb => by rw [List.mem_singleton.mp hb]; exact nJ8)
  have I9 := I8.mono T9
  clear kb8 nL8 nJ8 off8 eJ8 I8
  have E9 : EmpAt (IsTup _) _ := ⟨_, (N9 _ (.head _)).1, rfl, _, rfl⟩
  have nL9 := notup_ns F9.ns
  have NO9 : News g L _ ((L + 1, q) :: (C, W.listOf (List.toArray cs) 0) :: []) := News.sub N9 (by lcg_sub)
  have eC9 := (NO9 _ (.tail _ (.head _))).1
  have nJ9 := notup_list (N9 (J, jarO _ _ _ _ _ _ _ _) (by k_mem)).1
  unfold CallStop
  refine (law_draw_spec (by decide) (by decide)).jarI (R := fun o h => (L + 1, q) :: (C, W.listOf (List.toArray cs) 0) :: (J, o) :: snap g L h [J]) N9 (by k_mem) NO9 hcJ (fun _ _ => rfl) eC9 hn8 (new_C hCJ hCL eC9) hJ0 hJL (by first | decide | omega) (ret := fun i10 u10 h10 tk10 a10 b10 p10 x10 y10 z10 n10 i100 i101 F10 K10 N10 off10 eJ10 eC10 hn10 => ?_)
  have kb10 := F10.keep
  have nL10 := notup_ns F10.ns
  have nJ10 := notup_list eJ10
  have T10 := tupX K10 nL9 (fun b hb => by rw [List.mem_singleton.mp hb]; exact nJ9)
  have I10 := I9.mono T10
  have E10 := E9.mono T10
  clear N9 NO9 F9 K10 nL9 nJ9 eC9 T10 I9 E9
  walk_at "Mine.in"
  rename News g L _ _ => N11
  rename Fr g L _ _ => F11
  have T11 := tupX (keep_by (M := [J]) kb10 F11 N11 (fun p hp => by (repeat first | with_reducible exact hp | refine List.mem_cons_of_mem _ ?_))) nL10 (fun b hb => by rw [List.mem_singleton.mp hb]; exact nJ10)
  have I11 := I10.mono T11
  have E11 := E10.mono T11
  clear kb10 nL10 nJ10 off10 eJ10 I10 E10
  have nL11 := notup_ns F11.ns
  have NO11 : News g L _ ((L + 1, q) :: (C, W.listOf (List.toArray cs) 0) :: []) := News.sub N11 (by lcg_sub)
  have eC11 := (NO11 _ (.tail _ (.head _))).1
  have nJ11 := notup_list (N11 (J, jarO _ _ _ _ _ _ _ _) (by k_mem)).1
  have J11 := jar_at N11 (by k_mem) eC11 hn10
  refine comp_made (c := 17) (P := StMade 2) StMade.mono rfl (by decide) rfl rfl F11 (by assumption) (small_one (by omega) (by omega) (by omega) (by omega)) (rangeSize_nat _ _) (by rw [sizeLine_eq]; omega) J11 hJ0 (fun i h tk C' m₂ E' hi F12 K12 J12 hC' bC nCL nCJ => ?_) (fun D ys h12 tk12 F12 K12 hD bD fD hlen J12 hP => ?_)
  · have hid : i * 17 ≤ 3 * 17 := Nat.mul_le_mul_right _ (by omega)
    have hid1 : (i + 1) * 17 = i * 17 + 17 := Nat.succ_mul _ _
    refine hide_of ?_
    intro G7
    have eC12 := K12 _ _ (by simpa using hCJ) hCL eC11
    refine ex7 (jar_open J12 eC12) ?_
    intro a7 b7 p7 x7 y7 z7 n7
    intro hII
    refine an2 hII ?_
    clear hII
    intro eJ7 hn7
    have N7 : News g L h ((L + 1, q) :: (C, W.listOf (List.toArray cs) 0) :: (J, jarO C a7 b7 p7 x7 y7 z7 n7) :: snap g L h [J]) := jar_ledN NO11 hcJ K12 eJ7 hJL hJ0
    clear N11 J12 F11 NO11 J11 I11 E11
    walk_at "Mine.in"
    rename Fr g L _ _ => F8
    unfold CallStop
    refine MakesAt.use (hst _) (by k_asm) F8 (by k_asm) (by k_asm) rfl (by walk_at "Mine.ar") (by walk_at "Mine.ar") (jar_at N7 (by k_mem) eC12 hn7) hJ0 hJL (by omega) (fun v9 h9 tk9 F9 K9 J9 P9 => ?_)
    exact ⟨h9, tk9, rfl, F9, K9, by rw [hid1, ← Nat.add_assoc]; exact J9, P9⟩
  refine hide_of ?_
  intro G12
  have hid : (i10 - 0).toNat * 17 ≤ 4 * 17 := Nat.mul_le_mul_right _ (by omega)
  have eC12 := K12 _ _ (by simpa using hCJ) hCL eC11
  refine ex7 (jar_open J12 eC12) ?_
  intro a12 b12 p12 x12 y12 z12 n12
  intro hII
  refine an2 hII ?_
  clear hII
  intro eJ12 hn12
  have hn12 := hn12.mono (show _ ≤ 300 by omega)
  clear hid
  have nDL := neL F12 hD
  have nDJ : D ≠ J := fun q => by
    refine ex7 (jar_open J11 eC11) ?_
    intro _ _ _ _ _ _ _
    intro hII
    refine an2 hII ?_
    clear hII
    intro e9 _
    rw [← q, fD] at e9; cases e9
  have N12 : News g L h12 ((D, LCg.lst ys) :: (L + 1, q) :: (C, W.listOf (List.toArray cs) 0) :: (J, jarO C a12 b12 p12 x12 y12 z12 n12) :: snap g L h12 [J]) := News.cons (p := (D, LCg.lst ys)) (I := []) (fun p hp => by rw [List.mem_singleton.mp hp]; exact ⟨hD, nDL, bD⟩) (jar_ledN NO11 hcJ K12 eJ12 hJL hJ0)
  have off12 := jar_off (g := g) (h := h12) (L := L) (J := J)
  have kb12 := F12.keep
  have nL12 := notup_ns F12.ns
  have nJ12 := notup_list eJ12
  have T12 := tupX K12 nL11 (fun b hb => by rw [List.mem_singleton.mp hb]; exact nJ11)
  have I12 := I11.mono T12
  have E12 := E11.mono T12
  clear N11 NO11 F11 J11 J12 T12 I11 E11
  obtain ⟨ss, hss, hht, hsz⟩ := sts_made hP
  clear hP
  walk_at "Mine.in"
  rename News g L _ _ => N12
  rename Fr g L _ _ => F12
  unfold TupStop
  refine kde_tupleOf (zs := ys) F12 N12 ⟨_, (N12 _ (.head _)).1, rfl, _, rfl⟩ (by rw [List.size_toArray]; omega) (by simp) (fun D12 h12' F12 N12 l12 => ?_)
  walk_at "Mine.in"
  rename News g L _ _ => N13
  rename Fr g L _ _ => F13
  have T13 := tupX (keep_by (M := [J]) kb12 F13 N13 (fun p hp => by (repeat first | with_reducible exact hp | refine List.mem_cons_of_mem _ ?_))) nL12 (fun b hb => by rw [List.mem_singleton.mp hb]; exact nJ12)
  have I13 := I12.mono T13
  rename_i Bd _ _ h13
  have S13 : StAt (IsTup h13) (.ref Bd) (.block i8 none ss) := by unfold StAt; exact ⟨_, _, _, _, _, _, ys, rfl, ⟨_, (N13 _ (.head _)).1, rfl, _, rfl⟩, rfl, E12.mono T13, ⟨_, (N13 (D12, _) (by k_mem)).1, rfl, _, rfl⟩, hss.mono T13⟩
  rw [show ssz 2 = 7 from rfl] at hsz
  have hblk : sz (.block i8 none ss) ≤ 100 := by unfold sz; omega
  have hblh : ht (.block i8 none ss) < 8 := by unfold ht; omega
  clear kb12 nL12 nJ12 off12 eJ12 hss T13 E12 I12 hsz hht
  have nL13 := notup_ns F13.ns
  have NO13 : News g L _ ((L + 1, q) :: (C, W.listOf (List.toArray cs) 0) :: []) := News.sub N13 (by lcg_sub)
  have eC13 := (NO13 _ (.tail _ (.head _))).1
  have nJ13 := notup_list (N13 (J, jarO _ _ _ _ _ _ _ _) (by k_mem)).1
  unfold CallStop
  refine (law_spot_spec).jarS (R := fun o h => (L + 1, q) :: (C, W.listOf (List.toArray cs) 0) :: (J, o) :: snap g L h [J]) N13 (by k_mem) NO13 hcJ (fun _ _ => rfl) eC13 hn12 (new_C hCJ hCL eC13) hJ0 hJL (by first | decide | omega) (ret := fun i14 u14 h14 tk14 a14 b14 p14 x14 y14 z14 n14  F14 K14 N14 off14 eJ14 eC14 hn14 => ?_)
  have kb14 := F14.keep
  have nL14 := notup_ns F14.ns
  have nJ14 := notup_list eJ14
  have T14 := tupX K14 nL13 (fun b hb => by rw [List.mem_singleton.mp hb]; exact nJ13)
  have I14 := I13.mono T14
  have S14 := S13.mono T14
  clear N13 NO13 F13 K14 nL13 nJ13 eC13 T14 I13 S13
  walk_at "Mine.in"
  rename News g L _ _ => N15
  rename Fr g L _ _ => F15
  have T15 := tupX (keep_by (M := [J]) kb14 F15 N15 (fun p hp => by (repeat first | with_reducible exact hp | refine List.mem_cons_of_mem _ ?_))) nL14 (fun b hb => by rw [List.mem_singleton.mp hb]; exact nJ14)
  have I15 := I14.mono T15
  have S15 := S14.mono T15
  clear kb14 nL14 nJ14 off14 eJ14 I14 S14
  have nL15 := notup_ns F15.ns
  have NO15 : News g L _ ((L + 1, q) :: (C, W.listOf (List.toArray cs) 0) :: []) := News.sub N15 (by lcg_sub)
  have eC15 := (NO15 _ (.tail _ (.head _))).1
  have nJ15 := notup_list (N15 (J, jarO _ _ _ _ _ _ _ _) (by k_mem)).1
  unfold CallStop
  refine (law_extent_spec).jarD (R := fun o h => (L + 1, q) :: (C, W.listOf (List.toArray cs) 0) :: (J, o) :: snap g L h [J]) N15 (by k_mem) NO15 hcJ (fun _ _ => rfl) eC15 hn14 (new_C hCJ hCL eC15) hJ0 hJL (by first | decide | omega) (ret := fun v16 d16 h16 tk16 a16 b16 p16 x16 y16 z16 n16 X16 o16 F16 K16 N16 off16 eJ16 eC16 hn16 => ?_)
  have kb16 := F16.keep
  have nL16 := notup_ns F16.ns
  have nJ16 := notup_list eJ16
  have T16 := tupX K16 nL15 (fun b hb => by rw [List.mem_singleton.mp hb]; exact nJ15)
  have I16 := I15.mono T16
  have S16 := S15.mono T16
  clear N15 NO15 F15 K16 nL15 nJ15 eC15 T16 I15 S15
  clear o16
  walk_at "Mine.in"
  rename News g L _ _ => N17
  rename Fr g L _ _ => F17
  have T17 := tupX (keep_by (M := [J]) kb16 F17 N17 (fun p hp => by (repeat first | with_reducible exact hp | refine List.mem_cons_of_mem _ ?_))) nL16 (fun b hb => by rw [List.mem_singleton.mp hb]; exact nJ16)
  have I17 := I16.mono T17
  have S17 := S16.mono T17
  have X17 := X16.mono T17
  clear kb16 nL16 nJ16 off16 eJ16 I16 S16 X16
  rename_i It h17 _
  obtain ⟨ys9, hI9, hD9⟩ := I17
  have hit : ItemAt (IsTup h17) (.ref It) ⟨fn, i14, Str.ofString "f", d16, ds, .block i8 none ss⟩ := ⟨It, _, _, _, _, _, D6, .ref Bd, ys9, rfl, ⟨_, (N17 _ (.head _)).1, rfl, _, rfl⟩, X17, hI9, hD9, S17⟩
  have hdn : ds.length ≤ 10 := by omega
  clear hI9 hD9 S17 X17 T17 N17
  unfold CallStop
  refine PureAt.use (law_good_spec hit (Nat.le_trans hdn (by decide)) (Nat.le_trans hblk (by decide)) hblh (oRows_len _ hdn hblk)) (by k_asm) F17 (by k_asm) (by k_asm) rfl (by walk_at "Mine.ar") (by walk_at "Mine.ar") News.nil (fun b o e => e) (fun r h18 tk18 F18 N18 e18 => ?_)
  subst e18
  clear hit F17
  walk_at "Mine.in"
  rename News g L _ _ => N19
  rename Fr g L _ _ => F19
  have hit := item2_at N19
  have N19t : News g L _ _ := fun p hp => N19 p (.tail _ hp)
  clear N19
  unfold CallStop
  refine PureAt.use (law_good_spec hit (by decide) it2_sz it2_ht it2_len) (by k_asm) F19 (by k_asm) (by k_asm) rfl (by walk_at "Mine.ar") (by walk_at "Mine.ar") N19t (fun b o e => e) (fun r h20 tk20 F20 N20 e20 => ?_)
  subst e20
  clear hit F19 N19t
  walk_at "Mine.in"
  rename News g L _ _ => N21
  rename Fr g L _ _ => F21
  have hit := item2_at N21
  have N21t : News g L _ _ := fun p hp => N21 p (.tail _ hp)
  clear N21
  unfold CallStop
  refine GivesAt.useH (law_rows_spec hit (by decide) it2_sz it2_ht it2_len) (rows_mono _) (by k_asm) F21 (by k_asm) (by k_asm) rfl (by walk_at "Mine.ar") (by walk_at "Mine.ar") (fun b o e => e) (fun D us n22 h22 tk22 F22 k22 hD22 hf22 hP22 => ?_)
  have R22 : RowsIn (IsTup h22) us (oRows it2) := hP22
  have bD := base_none F21 hf22
  have nDL := neL F22 hD22
  have N22 : News g L h22 ((D, W.listOf (List.toArray us) n22) :: snap g L h22 [D]) := jar_news hD22 nDL bD
  have off22 := jar_off (g := g) (h := h22) (L := L) (J := D)
  have kb22 := F22.keep
  have nL22 := notup_ns F22.ns
  have nD22 := notup_list hD22
  clear hit N21t F21 k22 hf22 hP22
  repeat walk1
  rename News g L _ _ => N23
  rename Fr g L _ _ => F23
  have K23 := keep_by (M := [D]) kb22 F23 N23 (fun p hp => by (repeat first | with_reducible exact hp | refine List.mem_cons_of_mem _ ?_))
  have T23 := tupX K23 nL22 (fun b hb => by rw [List.mem_singleton.mp hb]; exact nD22)
  rw [rows_it2] at R22
  have R23 := R22.mono T23
  have tt : ∀ {a : Addr} {vs : Array Value} {I : List (Addr × Obj)} {h : Heap}, News g L h I → (a, tupO vs) ∈ I → IsTup h a vs := fun N m => ⟨_, (N _ m).1, rfl, _, rfl⟩
  have oD := (N23 _ (.tail _ (.tail _ (.tail _ (.head _))))).1
  have oM := (N23 _ (.head _)).1
  have S23 : RowsIn (IsTup _) [.ref _, .ref _] [⟨Str.ofString "duplicate", 1, Str.ofString "f"⟩, ⟨Str.ofString "duplicate", 2, Str.ofString "f"⟩] := ⟨⟨_, _, _, _, rfl, tt N23 (.tail _ (.tail _ (.head _)))⟩, ⟨_, _, _, _, rfl, tt N23 (.tail _ (.head _))⟩, trivial⟩
  unfold EqStop
  refine eq_rows oD oM R23 S23 (show un + 1 < cLine by omega) ?_
  exact hQ' _ _ _ _ F23)
  end

end Mine
theorem PySem.Challenge.cw_pq0465_01_holds : PySem.Challenge.rw_pq0465_01.Holds := by
  exact Mine.law_holds
