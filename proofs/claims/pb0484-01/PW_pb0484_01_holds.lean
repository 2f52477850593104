import PyProof.Rows.All
import Wide.All
import OpenK.AllK
import Wide.FinOn
import KE.KNest
import PyProof.Rows.ExtendIn
import KE.KDictOf
import PyProof.ExcInit
import PyProof.ExcBaseAll.Exception
import PyProof.Rows.SetFrom
import Lean
import PySem.Challenge.RW_pb0484_01
open PySem PySem.W PySem.Calls PyProof.Rows
set_option Elab.async false
set_option maxRecDepth 100000
set_option linter.unusedVariables false
set_option compiler.extract_closed false
namespace Mine
noncomputable section
noncomputable abbrev PE : Program := PySem.Challenge.rw_pb0484_01.row.toRowW.1
noncomputable def stm (i : Nat) : Stmt := (PySem.Challenge.pw_pb0484_01.main.body)[i]?.getD (.Pass default)
noncomputable def bodyOf : Stmt → List Stmt
  | .FunctionDef _ _ b _ _ _ _ _ _ _ => b
  | .ClassDef _ _ _ b _ _ _ _ _ _ _ => b
  | _ => []
noncomputable def meth (i j : Nat) : Stmt := (bodyOf (stm i))[j]?.getD (.Pass default)
noncomputable def fPar : Stmt → Arguments
  | .FunctionDef _ a _ _ _ _ _ _ _ _ => a
  | _ => default
noncomputable def fSco : Stmt → Scope
  | .FunctionDef _ _ _ _ _ _ s _ _ _ => s
  | _ => default
noncomputable def dE (P : Params) (s : String) (n : Nat) (v : Value) : DictEntry := ⟨PyData.keyHash P s, .str s n, v⟩
noncomputable def lF (o : Obj) : BT := .node o .nil .nil
noncomputable def o_43 : Obj := ⟨(.type "tuple"), none, (.seq #[] 0), #[]⟩
noncomputable def o_44 : Obj := ⟨.none, none, (.fields #[]), #[]⟩
noncomputable def o_45 : Obj := ⟨(.type "code"), none, (.fields (List.toArray [(.str "<module>" 182), (.str "<module>" 183), (.str "/claim/cut.py" 184), (.int 1 0), (.int 0 0), (.int 0 0), (.int 0 0), (.int 0 0), (.ref 11), (.bool false), (.int 181 0), (.ref 12), .none, .none, .none, .none, (.int 185 0), (.int 1 0), (.str "/claim/cut.py" 186)])), #[]⟩
noncomputable def o_46 : Obj := ⟨(.type "frame"), none, .plain, (List.toArray [(some (.ref 13)), (some (.ref 3)), (some (.ref 3)), none, (some (.str "__main__" 164)), none, (some (.ref 0))])⟩
noncomputable def hp_46 (P : Params) : Heap := ⟨⟨[(boot_o_0 P), (boot_o_1 P), (boot_o_2 P), (boot_o_3 P), (boot_o_4 P), (boot_o_5 P), (boot_o_6 P), (boot_o_7 P), (boot_o_8 P), (boot_o_9 P), (boot_o_10 P), o_43, o_44, o_45, o_46]⟩, ⟨[], [], [], 0, [], [], false, #[], [], 0, false, false, false, 0, [2000, 10, 10], false, 0, true, [], [], 0, false⟩⟩
noncomputable def tr_47 (P : Params) : BT := (.node (boot_o_0 P) (.node (boot_o_1 P) (.node (boot_o_3 P) (lF (boot_o_7 P)) (lF o_43)) (.node (boot_o_5 P) (lF (boot_o_9 P)) (lF o_45))) (.node (boot_o_2 P) (.node (boot_o_4 P) (lF (boot_o_8 P)) (lF o_44)) (.node (boot_o_6 P) (lF (boot_o_10 P)) (lF o_46))))
noncomputable def o_49 (P : Params) : Obj := ⟨.none, none, (.dict (List.toArray [dE P "type.__subclasses__.Exception.0" 232 (.int 46 0), dE P "type.__subclasses__.Exception.n" 233 (.int 1 0)]) 2), #[]⟩
noncomputable def o_50 (P : Params) : Obj := ⟨(.type "dict"), none, (.dict (List.toArray [dE P "__name__" 165 (.str "paperhold.errors" 194), dE P "__doc__" 166 .none, dE P "__package__" 167 .none, dE P "__loader__" 168 (.builtin "__main__.__loader__#opaque"), dE P "__spec__" 169 .none, dE P "__annotations__" 170 (.ref 6), dE P "__builtins__" 171 (.ref 4), dE P "__file__" 173 (.str "/claim/cut.py" 172), dE P "__cached__" 174 .none, dE P "_wall" 193 (.ref 21), dE P "PaperError" 235 (.ref 46)]) 11), #[]⟩
noncomputable def o_51 : Obj := ⟨.none, none, (.fields (List.toArray [(.int 1 0), (.int 0 0), (.ref 20), (.int 5 0), (.int 0 0), (.ref 27)])), #[]⟩
noncomputable def o_52 : Obj := ⟨(.type "tuple"), none, (.seq #[] 0), #[]⟩
noncomputable def o_53 : Obj := ⟨.none, none, (.fields #[]), #[]⟩
noncomputable def o_54 : Obj := ⟨(.type "tuple"), none, (.seq (List.toArray [(.str "k" 190)]) 0), #[]⟩
noncomputable def o_55 : Obj := ⟨(.type "tuple"), none, (.seq #[] 0), #[]⟩
noncomputable def o_56 : Obj := ⟨.none, none, (.func ⟨"_wall", "_wall", (fPar (stm 0)), (.stmts (bodyOf (stm 0))), (fSco (stm 0)), 0, [], .none, .none, .none, .none, none, .none, .none, 0⟩), #[]⟩
noncomputable def o_57 : Obj := ⟨(.type "code"), none, (.fields (List.toArray [(.str "_wall" 187), (.str "_wall" 188), (.str "/claim/cut.py" 189), (.int 1 0), (.int 1 0), (.int 0 0), (.int 0 0), (.int 3 0), (.ref 15), (.bool true), (.int 181 0), (.ref 16), .none, (.ref 17), (.ref 18), (.ref 19), (.int 191 0), (.int 1 0), (.str "/claim/cut.py" 192)])), #[]⟩
noncomputable def o_58 : Obj := ⟨(.type "function"), none, (.func ⟨"_wall", "_wall", (fPar (stm 0)), (.stmts (bodyOf (stm 0))), (fSco (stm 0)), 3, [], .none, .none, .none, (.str "__main__" 164), none, (.ref 20), .none, 0⟩), #[]⟩
noncomputable def o_59 : Obj := ⟨(.type "tuple"), none, (.seq (List.toArray [(.type "Exception")]) 0), #[]⟩
noncomputable def o_60 : Obj := ⟨(.type "builtin_function_or_method"), none, (.fields (List.toArray [(.builtin "type.__prepare__"), (.type "type")])), #[]⟩
noncomputable def o_61 (P : Params) : Obj := ⟨(.type "dict"), none, (.dict (List.toArray [dE P "__module__" 203 (.str "paperhold.errors" 194), dE P "__qualname__" 205 (.str "PaperError" 204), dE P "__firstlineno__" 207 (.int 5 206), dE P "__init__" 218 (.ref 36), dE P "told" 225 (.ref 43), dE P "__static_attributes__" 228 (.ref 44)]) 6), #[]⟩
noncomputable def o_62 : Obj := ⟨(.type "tuple"), none, (.seq #[] 0), #[]⟩
noncomputable def o_63 : Obj := ⟨.none, none, (.fields (List.toArray [(.int 7 0), (.int 4 0), (.ref 35), (.int 12 0), (.int 4 0), (.ref 42)])), #[]⟩
noncomputable def o_64 : Obj := ⟨(.type "code"), none, (.fields (List.toArray [(.str "PaperError" 198), (.str "PaperError" 199), (.str "/claim/cut.py" 200), (.int 5 0), (.int 0 0), (.int 0 0), (.int 0 0), (.int 0 0), (.ref 25), (.bool false), (.int 181 0), (.ref 26), .none, .none, .none, .none, (.int 201 0), (.int 5 0), (.str "/claim/cut.py" 202)])), #[]⟩
noncomputable def o_65 : Obj := ⟨(.type "frame"), none, .plain, (List.toArray [(some (.ref 27)), (some (.ref 3)), (some (.ref 24)), none, (some (.str "paperhold.errors" 194)), none, (some (.ref 0))])⟩
noncomputable def o_66 : Obj := ⟨(.type "tuple"), none, (.seq (List.toArray [(.int (-1) 209)]) 0), #[]⟩
noncomputable def o_67 : Obj := ⟨(.type "tuple"), none, (.seq #[] 0), #[]⟩
noncomputable def o_68 : Obj := ⟨.none, none, (.fields #[]), #[]⟩
noncomputable def o_69 : Obj := ⟨(.type "tuple"), none, (.seq (List.toArray [(.str "self" 213), (.str "what" 214), (.str "at" 215)]) 0), #[]⟩
noncomputable def o_70 : Obj := ⟨(.type "tuple"), none, (.seq #[] 0), #[]⟩
noncomputable def o_71 : Obj := ⟨.none, none, (.func ⟨"__init__", "PaperError.__init__", (fPar (meth 2 0)), (.stmts (bodyOf (meth 2 0))), (fSco (meth 2 0)), 0, [], .none, .none, .none, .none, none, .none, .none, 0⟩), #[]⟩
noncomputable def o_72 : Obj := ⟨(.type "code"), none, (.fields (List.toArray [(.str "__init__" 210), (.str "PaperError.__init__" 211), (.str "/claim/cut.py" 212), (.int 7 0), (.int 3 0), (.int 0 0), (.int 0 0), (.int 3 0), (.ref 30), (.bool true), (.int 181 0), (.ref 31), .none, (.ref 32), (.ref 33), (.ref 34), (.int 216 0), (.int 7 0), (.str "/claim/cut.py" 217)])), #[]⟩
noncomputable def o_73 : Obj := ⟨(.type "function"), none, (.func ⟨"__init__", "PaperError.__init__", (fPar (meth 2 0)), (.stmts (bodyOf (meth 2 0))), (fSco (meth 2 0)), 3, [], (.ref 29), .none, .none, (.str "paperhold.errors" 194), none, (.ref 35), .none, 0⟩), #[]⟩
noncomputable def o_74 : Obj := ⟨(.type "tuple"), none, (.seq #[] 0), #[]⟩
noncomputable def o_75 : Obj := ⟨.none, none, (.fields #[]), #[]⟩
noncomputable def o_76 : Obj := ⟨(.type "tuple"), none, (.seq (List.toArray [(.str "self" 222)]) 0), #[]⟩
noncomputable def o_77 : Obj := ⟨(.type "tuple"), none, (.seq #[] 0), #[]⟩
noncomputable def o_78 : Obj := ⟨.none, none, (.func ⟨"told", "PaperError.told", (fPar (meth 2 1)), (.stmts (bodyOf (meth 2 1))), (fSco (meth 6 9)), 0, [], .none, .none, .none, .none, none, .none, .none, 0⟩), #[]⟩
noncomputable def o_79 : Obj := ⟨(.type "code"), none, (.fields (List.toArray [(.str "told" 219), (.str "PaperError.told" 220), (.str "/claim/cut.py" 221), (.int 12 0), (.int 1 0), (.int 0 0), (.int 0 0), (.int 3 0), (.ref 37), (.bool true), (.int 181 0), (.ref 38), .none, (.ref 39), (.ref 40), (.ref 41), (.int 223 0), (.int 12 0), (.str "/claim/cut.py" 224)])), #[]⟩
noncomputable def o_80 : Obj := ⟨(.type "function"), none, (.func ⟨"told", "PaperError.told", (fPar (meth 2 1)), (.stmts (bodyOf (meth 2 1))), (fSco (meth 6 9)), 3, [], .none, .none, .none, (.str "paperhold.errors" 194), none, (.ref 42), .none, 0⟩), #[]⟩
noncomputable def o_81 : Obj := ⟨(.type "tuple"), none, (.seq (List.toArray [(.str "at" 226), (.str "what" 227)]) 0), #[]⟩
noncomputable def o_82 (P : Params) : Obj := ⟨(.type "dict"), none, (.dict (List.toArray [dE P "__module__" 203 (.str "paperhold.errors" 194), dE P "__firstlineno__" 207 (.int 5 206), dE P "__init__" 218 (.ref 36), dE P "told" 225 (.ref 43), dE P "__static_attributes__" 228 (.ref 44), dE P "__weakref__" 230 (.ref 47), dE P "__doc__" 231 .none]) 3), #[]⟩
noncomputable def o_83 : Obj := ⟨(.type "type"), none, (.cls ⟨"PaperError", [(.type "Exception")], [(.ref 46), (.type "Exception"), (.type "BaseException"), (.type "object")], 45, "PaperError", true, [], [], false, none, false⟩), (List.toArray [(some (.ref 22)), none, (some (.str "PaperError" 196)), (some (.str "PaperError" 204)), (some (.builtin "Exception.__new__")), (some (.bool true))])⟩
noncomputable def o_84 : Obj := ⟨(.type "getset_descriptor"), none, (.fields (List.toArray [(.str "__weakref__" 229), (.ref 46), (.builtin "ExceptionGroup.__weakref__"), .none])), #[]⟩
noncomputable def o_85 : Obj := ⟨(.type "super"), none, (.fields (List.toArray [(.ref 46), (.ref 46), (.ref 46)])), #[]⟩
noncomputable def o_86 : Obj := ⟨(.type "builtin_function_or_method"), none, (.fields (List.toArray [(.builtin "object.__init_subclass__"), (.ref 46)])), #[]⟩
noncomputable def b_1 (P : Params) : BT := (.node o_52 (lF o_68) (lF o_84))
noncomputable def b_2 (P : Params) : BT := (.node o_54 (lF o_70) (lF o_86))
noncomputable def b_3 (P : Params) : BT := (.node o_53 (lF o_69) (lF o_85))
noncomputable def tr_86 (P : Params) : BT := (.node (boot_o_0 P) (.node (boot_o_1 P) (.node (o_50 P) (.node (boot_o_7 P) (b_1 P) (.node o_60 (lF o_76) .nil)) (.node o_43 (.node o_56 (lF o_72) .nil) (.node o_64 (lF o_80) .nil))) (.node (boot_o_5 P) (.node (boot_o_9 P) (b_2 P) (.node o_62 (lF o_78) .nil)) (.node o_45 (.node o_58 (lF o_74) .nil) (.node o_66 (lF (o_82 P)) .nil)))) (.node (o_49 P) (.node (boot_o_4 P) (.node (boot_o_8 P) (b_3 P) (.node (o_61 P) (lF o_77) .nil)) (.node o_51 (.node o_57 (lF o_73) .nil) (.node o_65 (lF o_81) .nil))) (.node (boot_o_6 P) (.node (boot_o_10 P) (.node o_55 (lF o_71) .nil) (.node o_63 (lF o_79) .nil)) (.node o_46 (.node o_59 (lF o_75) .nil) (.node o_67 (lF o_83) .nil)))))
noncomputable def o_87 (P : Params) : Obj := ⟨(.type "dict"), none, (.dict (List.toArray [dE P "__name__" 165 (.str "paperhold.errors" 194), dE P "__doc__" 166 .none, dE P "__package__" 167 .none, dE P "__loader__" 168 (.builtin "__main__.__loader__#opaque"), dE P "__spec__" 169 .none, dE P "__annotations__" 170 (.ref 6), dE P "__builtins__" 171 (.ref 4), dE P "__file__" 173 (.str "/claim/cut.py" 172), dE P "__cached__" 174 .none, dE P "_wall" 193 (.ref 21), dE P "PaperError" 235 (.ref 46), dE P "TreeFault" 251 (.ref 59)]) 12), #[]⟩
noncomputable def o_88 : Obj := ⟨.none, none, (.fields (List.toArray [(.int 1 0), (.int 0 0), (.ref 20), (.int 5 0), (.int 0 0), (.ref 27), (.int 14 0), (.int 0 0), (.ref 55)])), #[]⟩
noncomputable def o_89 : Obj := ⟨(.type "type"), none, (.cls ⟨"PaperError", [(.type "Exception")], [(.ref 46), (.type "Exception"), (.type "BaseException"), (.type "object")], 45, "PaperError", true, [], [(.ref 59)], false, none, false⟩), (List.toArray [(some (.ref 22)), none, (some (.str "PaperError" 196)), (some (.str "PaperError" 204)), (some (.builtin "Exception.__new__")), (some (.bool true))])⟩
noncomputable def o_90 : Obj := ⟨(.type "tuple"), none, (.seq (List.toArray [(.ref 46)]) 0), #[]⟩
noncomputable def o_91 : Obj := ⟨(.type "builtin_function_or_method"), none, (.fields (List.toArray [(.builtin "type.__prepare__"), (.type "type")])), #[]⟩
noncomputable def o_92 (P : Params) : Obj := ⟨(.type "dict"), none, (.dict (List.toArray [dE P "__module__" 243 (.str "paperhold.errors" 194), dE P "__qualname__" 245 (.str "TreeFault" 244), dE P "__firstlineno__" 247 (.int 14 246), dE P "__static_attributes__" 248 (.ref 57)]) 4), #[]⟩
noncomputable def o_93 : Obj := ⟨(.type "tuple"), none, (.seq #[] 0), #[]⟩
noncomputable def o_94 : Obj := ⟨.none, none, (.fields #[]), #[]⟩
noncomputable def o_95 : Obj := ⟨(.type "code"), none, (.fields (List.toArray [(.str "TreeFault" 238), (.str "TreeFault" 239), (.str "/claim/cut.py" 240), (.int 14 0), (.int 0 0), (.int 0 0), (.int 0 0), (.int 0 0), (.ref 53), (.bool false), (.int 181 0), (.ref 54), .none, .none, .none, .none, (.int 241 0), (.int 14 0), (.str "/claim/cut.py" 242)])), #[]⟩
noncomputable def o_96 : Obj := ⟨(.type "frame"), none, .plain, (List.toArray [(some (.ref 55)), (some (.ref 3)), (some (.ref 52)), none, (some (.str "paperhold.errors" 194)), none, (some (.ref 0))])⟩
noncomputable def o_97 : Obj := ⟨(.type "tuple"), none, (.seq #[] 0), #[]⟩
noncomputable def o_98 (P : Params) : Obj := ⟨(.type "dict"), none, (.dict (List.toArray [dE P "__module__" 243 (.str "paperhold.errors" 194), dE P "__firstlineno__" 247 (.int 14 246), dE P "__static_attributes__" 248 (.ref 57), dE P "__doc__" 249 .none]) 2), #[]⟩
noncomputable def o_99 : Obj := ⟨(.type "type"), none, (.cls ⟨"TreeFault", [(.ref 46)], [(.ref 59), (.ref 46), (.type "Exception"), (.type "BaseException"), (.type "object")], 58, "TreeFault", true, [], [], false, none, false⟩), (List.toArray [(some (.ref 50)), none, (some (.str "TreeFault" 236)), (some (.str "TreeFault" 244)), (some (.builtin "Exception.__new__")), (some (.bool true))])⟩
noncomputable def o_100 : Obj := ⟨(.type "super"), none, (.fields (List.toArray [(.ref 59), (.ref 59), (.ref 59)])), #[]⟩
noncomputable def o_101 : Obj := ⟨(.type "builtin_function_or_method"), none, (.fields (List.toArray [(.builtin "object.__init_subclass__"), (.ref 59)])), #[]⟩
noncomputable def b_4 (P : Params) : BT := (.node o_64 (lF o_80) (lF o_99))
noncomputable def b_5 (P : Params) : BT := (.node o_66 (lF (o_82 P)) (lF o_101))
noncomputable def b_6 (P : Params) : BT := (.node o_65 (lF o_81) (lF o_100))
noncomputable def b_7 (P : Params) : BT := (.node o_63 (lF o_79) (lF (o_98 P)))
noncomputable def tr_101 (P : Params) : BT := (.node (boot_o_0 P) (.node (boot_o_1 P) (.node (o_87 P) (.node (boot_o_7 P) (b_1 P) (.node o_60 (lF o_76) (lF o_95))) (.node o_43 (.node o_56 (lF o_72) (lF o_91)) (b_4 P))) (.node (boot_o_5 P) (.node (boot_o_9 P) (b_2 P) (.node o_62 (lF o_78) (lF o_97))) (.node o_45 (.node o_58 (lF o_74) (lF o_93)) (b_5 P)))) (.node (o_49 P) (.node (boot_o_4 P) (.node (boot_o_8 P) (b_3 P) (.node (o_61 P) (lF o_77) (lF o_96))) (.node o_88 (.node o_57 (lF o_73) (lF (o_92 P))) (b_6 P))) (.node (boot_o_6 P) (.node (boot_o_10 P) (.node o_55 (lF o_71) (lF o_90)) (b_7 P)) (.node o_46 (.node o_59 (lF o_75) (lF o_94)) (.node o_67 (lF o_89) .nil)))))
noncomputable def o_102 (P : Params) : Obj := ⟨(.type "dict"), none, (.dict (List.toArray [dE P "__name__" 165 (.str "paperhold.decimals" 268), dE P "__doc__" 166 .none, dE P "__package__" 167 .none, dE P "__loader__" 168 (.builtin "__main__.__loader__#opaque"), dE P "__spec__" 169 .none, dE P "__annotations__" 170 (.ref 6), dE P "__builtins__" 171 (.ref 4), dE P "__file__" 173 (.str "/claim/cut.py" 172), dE P "__cached__" 174 .none, dE P "_wall" 193 (.ref 21), dE P "PaperError" 235 (.ref 46), dE P "TreeFault" 251 (.ref 59), dE P "DraftFault" 267 (.ref 71)]) 13), #[]⟩
noncomputable def o_103 : Obj := ⟨.none, none, (.fields (List.toArray [(.int 1 0), (.int 0 0), (.ref 20), (.int 5 0), (.int 0 0), (.ref 27), (.int 14 0), (.int 0 0), (.ref 55), (.int 16 0), (.int 0 0), (.ref 67)])), #[]⟩
noncomputable def o_104 : Obj := ⟨(.type "type"), none, (.cls ⟨"PaperError", [(.type "Exception")], [(.ref 46), (.type "Exception"), (.type "BaseException"), (.type "object")], 45, "PaperError", true, [], [(.ref 59), (.ref 71)], false, none, false⟩), (List.toArray [(some (.ref 22)), none, (some (.str "PaperError" 196)), (some (.str "PaperError" 204)), (some (.builtin "Exception.__new__")), (some (.bool true))])⟩
noncomputable def o_105 : Obj := ⟨(.type "tuple"), none, (.seq (List.toArray [(.ref 46)]) 0), #[]⟩
noncomputable def o_106 : Obj := ⟨(.type "builtin_function_or_method"), none, (.fields (List.toArray [(.builtin "type.__prepare__"), (.type "type")])), #[]⟩
noncomputable def o_107 (P : Params) : Obj := ⟨(.type "dict"), none, (.dict (List.toArray [dE P "__module__" 259 (.str "paperhold.errors" 194), dE P "__qualname__" 261 (.str "DraftFault" 260), dE P "__firstlineno__" 263 (.int 16 262), dE P "__static_attributes__" 264 (.ref 69)]) 4), #[]⟩
noncomputable def o_108 : Obj := ⟨(.type "tuple"), none, (.seq #[] 0), #[]⟩
noncomputable def o_109 : Obj := ⟨.none, none, (.fields #[]), #[]⟩
noncomputable def o_110 : Obj := ⟨(.type "code"), none, (.fields (List.toArray [(.str "DraftFault" 254), (.str "DraftFault" 255), (.str "/claim/cut.py" 256), (.int 16 0), (.int 0 0), (.int 0 0), (.int 0 0), (.int 0 0), (.ref 65), (.bool false), (.int 181 0), (.ref 66), .none, .none, .none, .none, (.int 257 0), (.int 16 0), (.str "/claim/cut.py" 258)])), #[]⟩
noncomputable def o_111 : Obj := ⟨(.type "frame"), none, .plain, (List.toArray [(some (.ref 67)), (some (.ref 3)), (some (.ref 64)), none, (some (.str "paperhold.errors" 194)), none, (some (.ref 0))])⟩
noncomputable def o_112 : Obj := ⟨(.type "tuple"), none, (.seq #[] 0), #[]⟩
noncomputable def o_113 (P : Params) : Obj := ⟨(.type "dict"), none, (.dict (List.toArray [dE P "__module__" 259 (.str "paperhold.errors" 194), dE P "__firstlineno__" 263 (.int 16 262), dE P "__static_attributes__" 264 (.ref 69), dE P "__doc__" 265 .none]) 2), #[]⟩
noncomputable def o_114 : Obj := ⟨(.type "type"), none, (.cls ⟨"DraftFault", [(.ref 46)], [(.ref 71), (.ref 46), (.type "Exception"), (.type "BaseException"), (.type "object")], 70, "DraftFault", true, [], [], false, none, false⟩), (List.toArray [(some (.ref 62)), none, (some (.str "DraftFault" 252)), (some (.str "DraftFault" 260)), (some (.builtin "Exception.__new__")), (some (.bool true))])⟩
noncomputable def o_115 : Obj := ⟨(.type "super"), none, (.fields (List.toArray [(.ref 71), (.ref 71), (.ref 71)])), #[]⟩
noncomputable def o_116 : Obj := ⟨(.type "builtin_function_or_method"), none, (.fields (List.toArray [(.builtin "object.__init_subclass__"), (.ref 71)])), #[]⟩
noncomputable def tr_116 (P : Params) : BT := (.node (boot_o_0 P) (.node (boot_o_1 P) (.node (o_102 P) (.node (boot_o_7 P) (.node o_52 (.node o_68 (lF o_106) .nil) (lF o_84)) (.node o_60 (.node o_76 (lF o_114) .nil) (lF o_95))) (.node o_43 (.node o_56 (.node o_72 (lF o_110) .nil) (lF o_91)) (b_4 P))) (.node (boot_o_5 P) (.node (boot_o_9 P) (.node o_54 (.node o_70 (lF o_108) .nil) (lF o_86)) (.node o_62 (.node o_78 (lF o_116) .nil) (lF o_97))) (.node o_45 (.node o_58 (.node o_74 (lF o_112) .nil) (lF o_93)) (b_5 P)))) (.node (o_49 P) (.node (boot_o_4 P) (.node (boot_o_8 P) (.node o_53 (.node o_69 (lF (o_107 P)) .nil) (lF o_85)) (.node (o_61 P) (.node o_77 (lF o_115) .nil) (lF o_96))) (.node o_103 (.node o_57 (.node o_73 (lF o_111) .nil) (lF (o_92 P))) (b_6 P))) (.node (boot_o_6 P) (.node (boot_o_10 P) (.node o_55 (.node o_71 (lF o_109) .nil) (lF o_90)) (b_7 P)) (.node o_46 (.node o_59 (.node o_75 (lF (o_113 P)) .nil) (lF o_94)) (.node o_67 (lF o_104) (lF o_105))))))
noncomputable def o_117 (P : Params) : Obj := ⟨(.type "dict"), none, (.dict (List.toArray [dE P "__name__" 165 (.str "paperhold.decimals" 268), dE P "__doc__" 166 .none, dE P "__package__" 167 .none, dE P "__loader__" 168 (.builtin "__main__.__loader__#opaque"), dE P "__spec__" 169 .none, dE P "__annotations__" 170 (.ref 6), dE P "__builtins__" 171 (.ref 4), dE P "__file__" 173 (.str "/claim/cut.py" 172), dE P "__cached__" 174 .none, dE P "_wall" 193 (.ref 21), dE P "PaperError" 235 (.ref 46), dE P "TreeFault" 251 (.ref 59), dE P "DraftFault" 267 (.ref 71), dE P "Decimal" 383 (.ref 167)]) 14), #[]⟩
noncomputable def o_118 : Obj := ⟨.none, none, (.fields (List.toArray [(.int 1 0), (.int 0 0), (.ref 20), (.int 5 0), (.int 0 0), (.ref 27), (.int 14 0), (.int 0 0), (.ref 55), (.int 16 0), (.int 0 0), (.ref 67), (.int 19 0), (.int 0 0), (.ref 79)])), #[]⟩
noncomputable def o_119 : Obj := ⟨(.type "tuple"), none, (.seq #[] 0), #[]⟩
noncomputable def o_120 : Obj := ⟨(.type "builtin_function_or_method"), none, (.fields (List.toArray [(.builtin "type.__prepare__"), (.type "type")])), #[]⟩
noncomputable def o_121 (P : Params) : Obj := ⟨(.type "dict"), none, (.dict (List.toArray [dE P "__module__" 277 (.str "paperhold.decimals" 268), dE P "__qualname__" 279 (.str "Decimal" 278), dE P "__firstlineno__" 281 (.int 19 280), dE P "__init__" 290 (.ref 87), dE P "plus" 298 (.ref 94), dE P "minus" 306 (.ref 101), dE P "times" 314 (.ref 108), dE P "negated" 321 (.ref 115), dE P "compared" 329 (.ref 122), dE P "is_whole" 336 (.ref 129), dE P "floor" 343 (.ref 136), dE P "rounded" 351 (.ref 143), dE P "told" 358 (.ref 150), dE P "text" 366 (.ref 157), dE P "least_text" 373 (.ref 164), dE P "__static_attributes__" 376 (.ref 165)]) 16), #[]⟩
noncomputable def o_122 : Obj := ⟨(.type "tuple"), none, (.seq #[] 0), #[]⟩
noncomputable def o_123 : Obj := ⟨.none, none, (.fields (List.toArray [(.int 21 0), (.int 4 0), (.ref 86), (.int 28 0), (.int 4 0), (.ref 93), (.int 31 0), (.int 4 0), (.ref 100), (.int 34 0), (.int 4 0), (.ref 107), (.int 37 0), (.int 4 0), (.ref 114), (.int 40 0), (.int 4 0), (.ref 121), (.int 43 0), (.int 4 0), (.ref 128), (.int 46 0), (.int 4 0), (.ref 135), (.int 49 0), (.int 4 0), (.ref 142), (.int 52 0), (.int 4 0), (.ref 149), (.int 55 0), (.int 4 0), (.ref 156), (.int 62 0), (.int 4 0), (.ref 163)])), #[]⟩
noncomputable def o_124 : Obj := ⟨(.type "code"), none, (.fields (List.toArray [(.str "Decimal" 272), (.str "Decimal" 273), (.str "/claim/cut.py" 274), (.int 19 0), (.int 0 0), (.int 0 0), (.int 0 0), (.int 0 0), (.ref 77), (.bool false), (.int 181 0), (.ref 78), .none, .none, .none, .none, (.int 275 0), (.int 19 0), (.str "/claim/cut.py" 276)])), #[]⟩
noncomputable def o_125 : Obj := ⟨(.type "frame"), none, .plain, (List.toArray [(some (.ref 79)), (some (.ref 3)), (some (.ref 76)), none, (some (.str "paperhold.decimals" 268)), none, (some (.ref 0))])⟩
noncomputable def o_126 : Obj := ⟨(.type "tuple"), none, (.seq #[] 0), #[]⟩
noncomputable def o_127 : Obj := ⟨.none, none, (.fields #[]), #[]⟩
noncomputable def o_128 : Obj := ⟨(.type "tuple"), none, (.seq (List.toArray [(.str "self" 285), (.str "top" 286), (.str "places" 287)]) 0), #[]⟩
noncomputable def o_129 : Obj := ⟨(.type "tuple"), none, (.seq #[] 0), #[]⟩
noncomputable def o_130 : Obj := ⟨.none, none, (.func ⟨"__init__", "Decimal.__init__", (fPar (meth 6 0)), (.stmts (bodyOf (meth 6 0))), (fSco (meth 6 0)), 0, [], .none, .none, .none, .none, none, .none, .none, 0⟩), #[]⟩
noncomputable def o_131 : Obj := ⟨(.type "code"), none, (.fields (List.toArray [(.str "__init__" 282), (.str "Decimal.__init__" 283), (.str "/claim/cut.py" 284), (.int 21 0), (.int 3 0), (.int 0 0), (.int 0 0), (.int 3 0), (.ref 81), (.bool true), (.int 181 0), (.ref 82), .none, (.ref 83), (.ref 84), (.ref 85), (.int 288 0), (.int 21 0), (.str "/claim/cut.py" 289)])), #[]⟩
noncomputable def o_132 : Obj := ⟨(.type "function"), none, (.func ⟨"__init__", "Decimal.__init__", (fPar (meth 6 0)), (.stmts (bodyOf (meth 6 0))), (fSco (meth 6 0)), 3, [], .none, .none, .none, (.str "paperhold.decimals" 268), none, (.ref 86), .none, 0⟩), #[]⟩
noncomputable def o_133 : Obj := ⟨(.type "tuple"), none, (.seq #[] 0), #[]⟩
noncomputable def o_134 : Obj := ⟨.none, none, (.fields #[]), #[]⟩
noncomputable def o_135 : Obj := ⟨(.type "tuple"), none, (.seq (List.toArray [(.str "self" 294), (.str "other" 295)]) 0), #[]⟩
noncomputable def o_136 : Obj := ⟨(.type "tuple"), none, (.seq #[] 0), #[]⟩
noncomputable def o_137 : Obj := ⟨.none, none, (.func ⟨"plus", "Decimal.plus", (fPar (meth 6 1)), (.stmts (bodyOf (meth 6 1))), (fSco (meth 6 5)), 0, [], .none, .none, .none, .none, none, .none, .none, 0⟩), #[]⟩
noncomputable def o_138 : Obj := ⟨(.type "code"), none, (.fields (List.toArray [(.str "plus" 291), (.str "Decimal.plus" 292), (.str "/claim/cut.py" 293), (.int 28 0), (.int 2 0), (.int 0 0), (.int 0 0), (.int 3 0), (.ref 88), (.bool true), (.int 181 0), (.ref 89), .none, (.ref 90), (.ref 91), (.ref 92), (.int 296 0), (.int 28 0), (.str "/claim/cut.py" 297)])), #[]⟩
noncomputable def o_139 : Obj := ⟨(.type "function"), none, (.func ⟨"plus", "Decimal.plus", (fPar (meth 6 1)), (.stmts (bodyOf (meth 6 1))), (fSco (meth 6 5)), 3, [], .none, .none, .none, (.str "paperhold.decimals" 268), none, (.ref 93), .none, 0⟩), #[]⟩
noncomputable def o_140 : Obj := ⟨(.type "tuple"), none, (.seq #[] 0), #[]⟩
noncomputable def o_141 : Obj := ⟨.none, none, (.fields #[]), #[]⟩
noncomputable def o_142 : Obj := ⟨(.type "tuple"), none, (.seq (List.toArray [(.str "self" 302), (.str "other" 303)]) 0), #[]⟩
noncomputable def o_143 : Obj := ⟨(.type "tuple"), none, (.seq #[] 0), #[]⟩
noncomputable def o_144 : Obj := ⟨.none, none, (.func ⟨"minus", "Decimal.minus", (fPar (meth 6 2)), (.stmts (bodyOf (meth 6 2))), (fSco (meth 6 5)), 0, [], .none, .none, .none, .none, none, .none, .none, 0⟩), #[]⟩
noncomputable def o_145 : Obj := ⟨(.type "code"), none, (.fields (List.toArray [(.str "minus" 299), (.str "Decimal.minus" 300), (.str "/claim/cut.py" 301), (.int 31 0), (.int 2 0), (.int 0 0), (.int 0 0), (.int 3 0), (.ref 95), (.bool true), (.int 181 0), (.ref 96), .none, (.ref 97), (.ref 98), (.ref 99), (.int 304 0), (.int 31 0), (.str "/claim/cut.py" 305)])), #[]⟩
noncomputable def o_146 : Obj := ⟨(.type "function"), none, (.func ⟨"minus", "Decimal.minus", (fPar (meth 6 2)), (.stmts (bodyOf (meth 6 2))), (fSco (meth 6 5)), 3, [], .none, .none, .none, (.str "paperhold.decimals" 268), none, (.ref 100), .none, 0⟩), #[]⟩
noncomputable def o_147 : Obj := ⟨(.type "tuple"), none, (.seq #[] 0), #[]⟩
noncomputable def o_148 : Obj := ⟨.none, none, (.fields #[]), #[]⟩
noncomputable def o_149 : Obj := ⟨(.type "tuple"), none, (.seq (List.toArray [(.str "self" 310), (.str "other" 311)]) 0), #[]⟩
noncomputable def o_150 : Obj := ⟨(.type "tuple"), none, (.seq #[] 0), #[]⟩
noncomputable def o_151 : Obj := ⟨.none, none, (.func ⟨"times", "Decimal.times", (fPar (meth 6 3)), (.stmts (bodyOf (meth 6 3))), (fSco (meth 6 5)), 0, [], .none, .none, .none, .none, none, .none, .none, 0⟩), #[]⟩
noncomputable def o_152 : Obj := ⟨(.type "code"), none, (.fields (List.toArray [(.str "times" 307), (.str "Decimal.times" 308), (.str "/claim/cut.py" 309), (.int 34 0), (.int 2 0), (.int 0 0), (.int 0 0), (.int 3 0), (.ref 102), (.bool true), (.int 181 0), (.ref 103), .none, (.ref 104), (.ref 105), (.ref 106), (.int 312 0), (.int 34 0), (.str "/claim/cut.py" 313)])), #[]⟩
noncomputable def o_153 : Obj := ⟨(.type "function"), none, (.func ⟨"times", "Decimal.times", (fPar (meth 6 3)), (.stmts (bodyOf (meth 6 3))), (fSco (meth 6 5)), 3, [], .none, .none, .none, (.str "paperhold.decimals" 268), none, (.ref 107), .none, 0⟩), #[]⟩
noncomputable def o_154 : Obj := ⟨(.type "tuple"), none, (.seq #[] 0), #[]⟩
noncomputable def o_155 : Obj := ⟨.none, none, (.fields #[]), #[]⟩
noncomputable def o_156 : Obj := ⟨(.type "tuple"), none, (.seq (List.toArray [(.str "self" 318)]) 0), #[]⟩
noncomputable def o_157 : Obj := ⟨(.type "tuple"), none, (.seq #[] 0), #[]⟩
noncomputable def o_158 : Obj := ⟨.none, none, (.func ⟨"negated", "Decimal.negated", (fPar (meth 6 4)), (.stmts (bodyOf (meth 6 4))), (fSco (meth 13 1)), 0, [], .none, .none, .none, .none, none, .none, .none, 0⟩), #[]⟩
noncomputable def o_159 : Obj := ⟨(.type "code"), none, (.fields (List.toArray [(.str "negated" 315), (.str "Decimal.negated" 316), (.str "/claim/cut.py" 317), (.int 37 0), (.int 1 0), (.int 0 0), (.int 0 0), (.int 3 0), (.ref 109), (.bool true), (.int 181 0), (.ref 110), .none, (.ref 111), (.ref 112), (.ref 113), (.int 319 0), (.int 37 0), (.str "/claim/cut.py" 320)])), #[]⟩
noncomputable def o_160 : Obj := ⟨(.type "function"), none, (.func ⟨"negated", "Decimal.negated", (fPar (meth 6 4)), (.stmts (bodyOf (meth 6 4))), (fSco (meth 13 1)), 3, [], .none, .none, .none, (.str "paperhold.decimals" 268), none, (.ref 114), .none, 0⟩), #[]⟩
noncomputable def o_161 : Obj := ⟨(.type "tuple"), none, (.seq #[] 0), #[]⟩
noncomputable def o_162 : Obj := ⟨.none, none, (.fields #[]), #[]⟩
noncomputable def o_163 : Obj := ⟨(.type "tuple"), none, (.seq (List.toArray [(.str "self" 325), (.str "other" 326)]) 0), #[]⟩
noncomputable def o_164 : Obj := ⟨(.type "tuple"), none, (.seq #[] 0), #[]⟩
noncomputable def o_165 : Obj := ⟨.none, none, (.func ⟨"compared", "Decimal.compared", (fPar (meth 6 5)), (.stmts (bodyOf (meth 6 5))), (fSco (meth 6 5)), 0, [], .none, .none, .none, .none, none, .none, .none, 0⟩), #[]⟩
noncomputable def o_166 : Obj := ⟨(.type "code"), none, (.fields (List.toArray [(.str "compared" 322), (.str "Decimal.compared" 323), (.str "/claim/cut.py" 324), (.int 40 0), (.int 2 0), (.int 0 0), (.int 0 0), (.int 3 0), (.ref 116), (.bool true), (.int 181 0), (.ref 117), .none, (.ref 118), (.ref 119), (.ref 120), (.int 327 0), (.int 40 0), (.str "/claim/cut.py" 328)])), #[]⟩
noncomputable def o_167 : Obj := ⟨(.type "function"), none, (.func ⟨"compared", "Decimal.compared", (fPar (meth 6 5)), (.stmts (bodyOf (meth 6 5))), (fSco (meth 6 5)), 3, [], .none, .none, .none, (.str "paperhold.decimals" 268), none, (.ref 121), .none, 0⟩), #[]⟩
noncomputable def o_168 : Obj := ⟨(.type "tuple"), none, (.seq #[] 0), #[]⟩
noncomputable def o_169 : Obj := ⟨.none, none, (.fields #[]), #[]⟩
noncomputable def o_170 : Obj := ⟨(.type "tuple"), none, (.seq (List.toArray [(.str "self" 333)]) 0), #[]⟩
noncomputable def o_171 : Obj := ⟨(.type "tuple"), none, (.seq #[] 0), #[]⟩
noncomputable def o_172 : Obj := ⟨.none, none, (.func ⟨"is_whole", "Decimal.is_whole", (fPar (meth 6 6)), (.stmts (bodyOf (meth 6 6))), (fSco (meth 13 1)), 0, [], .none, .none, .none, .none, none, .none, .none, 0⟩), #[]⟩
noncomputable def o_173 : Obj := ⟨(.type "code"), none, (.fields (List.toArray [(.str "is_whole" 330), (.str "Decimal.is_whole" 331), (.str "/claim/cut.py" 332), (.int 43 0), (.int 1 0), (.int 0 0), (.int 0 0), (.int 3 0), (.ref 123), (.bool true), (.int 181 0), (.ref 124), .none, (.ref 125), (.ref 126), (.ref 127), (.int 334 0), (.int 43 0), (.str "/claim/cut.py" 335)])), #[]⟩
noncomputable def o_174 : Obj := ⟨(.type "function"), none, (.func ⟨"is_whole", "Decimal.is_whole", (fPar (meth 6 6)), (.stmts (bodyOf (meth 6 6))), (fSco (meth 13 1)), 3, [], .none, .none, .none, (.str "paperhold.decimals" 268), none, (.ref 128), .none, 0⟩), #[]⟩
noncomputable def o_175 : Obj := ⟨(.type "tuple"), none, (.seq #[] 0), #[]⟩
noncomputable def o_176 : Obj := ⟨.none, none, (.fields #[]), #[]⟩
noncomputable def o_177 : Obj := ⟨(.type "tuple"), none, (.seq (List.toArray [(.str "self" 340)]) 0), #[]⟩
noncomputable def o_178 : Obj := ⟨(.type "tuple"), none, (.seq #[] 0), #[]⟩
noncomputable def o_179 : Obj := ⟨.none, none, (.func ⟨"floor", "Decimal.floor", (fPar (meth 6 7)), (.stmts (bodyOf (meth 6 7))), (fSco (meth 13 1)), 0, [], .none, .none, .none, .none, none, .none, .none, 0⟩), #[]⟩
noncomputable def o_180 : Obj := ⟨(.type "code"), none, (.fields (List.toArray [(.str "floor" 337), (.str "Decimal.floor" 338), (.str "/claim/cut.py" 339), (.int 46 0), (.int 1 0), (.int 0 0), (.int 0 0), (.int 3 0), (.ref 130), (.bool true), (.int 181 0), (.ref 131), .none, (.ref 132), (.ref 133), (.ref 134), (.int 341 0), (.int 46 0), (.str "/claim/cut.py" 342)])), #[]⟩
noncomputable def o_181 : Obj := ⟨(.type "function"), none, (.func ⟨"floor", "Decimal.floor", (fPar (meth 6 7)), (.stmts (bodyOf (meth 6 7))), (fSco (meth 13 1)), 3, [], .none, .none, .none, (.str "paperhold.decimals" 268), none, (.ref 135), .none, 0⟩), #[]⟩
noncomputable def o_182 : Obj := ⟨(.type "tuple"), none, (.seq #[] 0), #[]⟩
noncomputable def o_183 : Obj := ⟨.none, none, (.fields #[]), #[]⟩
noncomputable def o_184 : Obj := ⟨(.type "tuple"), none, (.seq (List.toArray [(.str "self" 347), (.str "places" 348)]) 0), #[]⟩
noncomputable def o_185 : Obj := ⟨(.type "tuple"), none, (.seq #[] 0), #[]⟩
noncomputable def o_186 : Obj := ⟨.none, none, (.func ⟨"rounded", "Decimal.rounded", (fPar (meth 6 8)), (.stmts (bodyOf (meth 6 8))), (fSco (meth 6 8)), 0, [], .none, .none, .none, .none, none, .none, .none, 0⟩), #[]⟩
noncomputable def o_187 : Obj := ⟨(.type "code"), none, (.fields (List.toArray [(.str "rounded" 344), (.str "Decimal.rounded" 345), (.str "/claim/cut.py" 346), (.int 49 0), (.int 2 0), (.int 0 0), (.int 0 0), (.int 3 0), (.ref 137), (.bool true), (.int 181 0), (.ref 138), .none, (.ref 139), (.ref 140), (.ref 141), (.int 349 0), (.int 49 0), (.str "/claim/cut.py" 350)])), #[]⟩
noncomputable def o_188 : Obj := ⟨(.type "function"), none, (.func ⟨"rounded", "Decimal.rounded", (fPar (meth 6 8)), (.stmts (bodyOf (meth 6 8))), (fSco (meth 6 8)), 3, [], .none, .none, .none, (.str "paperhold.decimals" 268), none, (.ref 142), .none, 0⟩), #[]⟩
noncomputable def o_189 : Obj := ⟨(.type "tuple"), none, (.seq #[] 0), #[]⟩
noncomputable def o_190 : Obj := ⟨.none, none, (.fields #[]), #[]⟩
noncomputable def o_191 : Obj := ⟨(.type "tuple"), none, (.seq (List.toArray [(.str "self" 355)]) 0), #[]⟩
noncomputable def o_192 : Obj := ⟨(.type "tuple"), none, (.seq #[] 0), #[]⟩
noncomputable def o_193 : Obj := ⟨.none, none, (.func ⟨"told", "Decimal.told", (fPar (meth 6 9)), (.stmts (bodyOf (meth 6 9))), (fSco (meth 6 9)), 0, [], .none, .none, .none, .none, none, .none, .none, 0⟩), #[]⟩
noncomputable def o_194 : Obj := ⟨(.type "code"), none, (.fields (List.toArray [(.str "told" 352), (.str "Decimal.told" 353), (.str "/claim/cut.py" 354), (.int 52 0), (.int 1 0), (.int 0 0), (.int 0 0), (.int 3 0), (.ref 144), (.bool true), (.int 181 0), (.ref 145), .none, (.ref 146), (.ref 147), (.ref 148), (.int 356 0), (.int 52 0), (.str "/claim/cut.py" 357)])), #[]⟩
noncomputable def o_195 : Obj := ⟨(.type "function"), none, (.func ⟨"told", "Decimal.told", (fPar (meth 6 9)), (.stmts (bodyOf (meth 6 9))), (fSco (meth 6 9)), 3, [], .none, .none, .none, (.str "paperhold.decimals" 268), none, (.ref 149), .none, 0⟩), #[]⟩
noncomputable def o_196 : Obj := ⟨(.type "tuple"), none, (.seq #[] 0), #[]⟩
noncomputable def o_197 : Obj := ⟨.none, none, (.fields #[]), #[]⟩
noncomputable def o_198 : Obj := ⟨(.type "tuple"), none, (.seq (List.toArray [(.str "self" 362), (.str "numerals" 363)]) 0), #[]⟩
noncomputable def o_199 : Obj := ⟨(.type "tuple"), none, (.seq #[] 0), #[]⟩
noncomputable def o_200 : Obj := ⟨.none, none, (.func ⟨"text", "Decimal.text", (fPar (meth 6 10)), (.stmts (bodyOf (meth 6 10))), (fSco (meth 6 10)), 0, [], .none, .none, .none, .none, none, .none, .none, 0⟩), #[]⟩
noncomputable def o_201 : Obj := ⟨(.type "code"), none, (.fields (List.toArray [(.str "text" 359), (.str "Decimal.text" 360), (.str "/claim/cut.py" 361), (.int 55 0), (.int 1 0), (.int 0 0), (.int 0 0), (.int 3 0), (.ref 151), (.bool true), (.int 181 0), (.ref 152), .none, (.ref 153), (.ref 154), (.ref 155), (.int 364 0), (.int 55 0), (.str "/claim/cut.py" 365)])), #[]⟩
noncomputable def o_202 : Obj := ⟨(.type "function"), none, (.func ⟨"text", "Decimal.text", (fPar (meth 6 10)), (.stmts (bodyOf (meth 6 10))), (fSco (meth 6 10)), 3, [], .none, .none, .none, (.str "paperhold.decimals" 268), none, (.ref 156), .none, 0⟩), #[]⟩
noncomputable def o_203 : Obj := ⟨(.type "tuple"), none, (.seq #[] 0), #[]⟩
noncomputable def o_204 : Obj := ⟨.none, none, (.fields #[]), #[]⟩
noncomputable def o_205 : Obj := ⟨(.type "tuple"), none, (.seq (List.toArray [(.str "self" 370)]) 0), #[]⟩
noncomputable def o_206 : Obj := ⟨(.type "tuple"), none, (.seq #[] 0), #[]⟩
noncomputable def o_207 : Obj := ⟨.none, none, (.func ⟨"least_text", "Decimal.least_text", (fPar (meth 6 11)), (.stmts (bodyOf (meth 6 11))), (fSco (meth 13 1)), 0, [], .none, .none, .none, .none, none, .none, .none, 0⟩), #[]⟩
noncomputable def o_208 : Obj := ⟨(.type "code"), none, (.fields (List.toArray [(.str "least_text" 367), (.str "Decimal.least_text" 368), (.str "/claim/cut.py" 369), (.int 62 0), (.int 1 0), (.int 0 0), (.int 0 0), (.int 3 0), (.ref 158), (.bool true), (.int 181 0), (.ref 159), .none, (.ref 160), (.ref 161), (.ref 162), (.int 371 0), (.int 62 0), (.str "/claim/cut.py" 372)])), #[]⟩
noncomputable def o_209 : Obj := ⟨(.type "function"), none, (.func ⟨"least_text", "Decimal.least_text", (fPar (meth 6 11)), (.stmts (bodyOf (meth 6 11))), (fSco (meth 13 1)), 3, [], .none, .none, .none, (.str "paperhold.decimals" 268), none, (.ref 163), .none, 0⟩), #[]⟩
noncomputable def o_210 : Obj := ⟨(.type "tuple"), none, (.seq (List.toArray [(.str "places" 374), (.str "top" 375)]) 0), #[]⟩
noncomputable def o_211 (P : Params) : Obj := ⟨(.type "dict"), none, (.dict (List.toArray [dE P "__module__" 277 (.str "paperhold.decimals" 268), dE P "__firstlineno__" 281 (.int 19 280), dE P "__init__" 290 (.ref 87), dE P "plus" 298 (.ref 94), dE P "minus" 306 (.ref 101), dE P "times" 314 (.ref 108), dE P "negated" 321 (.ref 115), dE P "compared" 329 (.ref 122), dE P "is_whole" 336 (.ref 129), dE P "floor" 343 (.ref 136), dE P "rounded" 351 (.ref 143), dE P "told" 358 (.ref 150), dE P "text" 366 (.ref 157), dE P "least_text" 373 (.ref 164), dE P "__static_attributes__" 376 (.ref 165), dE P "__dict__" 378 (.ref 168), dE P "__weakref__" 380 (.ref 169), dE P "__doc__" 381 .none]) 4), #[]⟩
noncomputable def o_212 : Obj := ⟨(.type "type"), none, (.cls ⟨"Decimal", [(.type "object")], [(.ref 167), (.type "object")], 166, "Decimal", true, [], [], false, none, false⟩), (List.toArray [none, none, (some (.str "Decimal" 270)), (some (.str "Decimal" 278)), (some (.builtin "object.__new__")), (some (.bool true))])⟩
noncomputable def o_213 : Obj := ⟨(.type "getset_descriptor"), none, (.fields (List.toArray [(.str "__dict__" 377), (.ref 167), (.builtin "function.__dict__"), (.builtin "function.__dict__#set")])), #[]⟩
noncomputable def o_214 : Obj := ⟨(.type "getset_descriptor"), none, (.fields (List.toArray [(.str "__weakref__" 379), (.ref 167), (.builtin "ExceptionGroup.__weakref__"), .none])), #[]⟩
noncomputable def o_215 : Obj := ⟨(.type "super"), none, (.fields (List.toArray [(.ref 167), (.ref 167), (.ref 167)])), #[]⟩
noncomputable def o_216 : Obj := ⟨(.type "builtin_function_or_method"), none, (.fields (List.toArray [(.builtin "object.__init_subclass__"), (.ref 167)])), #[]⟩
noncomputable def b_8 (P : Params) : BT := (.node o_80 (.node o_120 (lF o_184) .nil) (.node o_152 (lF o_216) .nil))
noncomputable def b_9 (P : Params) : BT := (.node o_78 (.node o_116 (lF o_182) .nil) (.node o_150 (lF o_214) .nil))
noncomputable def b_10 (P : Params) : BT := (.node o_77 (.node o_115 (lF o_181) .nil) (.node o_149 (lF o_213) .nil))
noncomputable def b_11 (P : Params) : BT := (.node o_79 (.node o_119 (lF o_183) .nil) (.node o_151 (lF o_215) .nil))
noncomputable def tr_216 (P : Params) : BT := (.node (boot_o_0 P) (.node (boot_o_1 P) (.node (o_117 P) (.node (boot_o_7 P) (.node o_52 (.node o_68 (.node o_106 (lF o_172) .nil) (.node o_140 (lF o_204) .nil)) (.node o_84 (.node o_124 (lF o_188) .nil) (lF o_156))) (.node o_60 (.node o_76 (.node o_114 (lF o_180) .nil) (.node o_148 (lF o_212) .nil)) (.node o_95 (.node o_132 (lF o_196) .nil) (lF o_164)))) (.node o_43 (.node o_56 (.node o_72 (.node o_110 (lF o_176) .nil) (.node o_144 (lF o_208) .nil)) (.node o_91 (.node o_128 (lF o_192) .nil) (lF o_160))) (.node o_64 (b_8 P) (.node o_99 (.node o_136 (lF o_200) .nil) (lF o_168))))) (.node (boot_o_5 P) (.node (boot_o_9 P) (.node o_54 (.node o_70 (.node o_108 (lF o_174) .nil) (.node o_142 (lF o_206) .nil)) (.node o_86 (.node o_126 (lF o_190) .nil) (lF o_158))) (.node o_62 (b_9 P) (.node o_97 (.node o_134 (lF o_198) .nil) (lF o_166)))) (.node o_45 (.node o_58 (.node o_74 (.node o_112 (lF o_178) .nil) (.node o_146 (lF o_210) .nil)) (.node o_93 (.node o_130 (lF o_194) .nil) (lF o_162))) (.node o_66 (.node (o_82 P) (.node o_122 (lF o_186) .nil) (lF o_154)) (.node o_101 (.node o_138 (lF o_202) .nil) (lF o_170)))))) (.node (o_49 P) (.node (boot_o_4 P) (.node (boot_o_8 P) (.node o_53 (.node o_69 (.node (o_107 P) (lF o_173) .nil) (.node o_141 (lF o_205) .nil)) (.node o_85 (.node o_125 (lF o_189) .nil) (lF o_157))) (.node (o_61 P) (b_10 P) (.node o_96 (.node o_133 (lF o_197) .nil) (lF o_165)))) (.node o_118 (.node o_57 (.node o_73 (.node o_111 (lF o_177) .nil) (.node o_145 (lF o_209) .nil)) (.node (o_92 P) (.node o_129 (lF o_193) .nil) (lF o_161))) (.node o_65 (.node o_81 (.node (o_121 P) (lF o_185) .nil) (lF o_153)) (.node o_100 (.node o_137 (lF o_201) .nil) (lF o_169))))) (.node (boot_o_6 P) (.node (boot_o_10 P) (.node o_55 (.node o_71 (.node o_109 (lF o_175) .nil) (.node o_143 (lF o_207) .nil)) (.node o_90 (.node o_127 (lF o_191) .nil) (lF o_159))) (.node o_63 (b_11 P) (.node (o_98 P) (.node o_135 (lF o_199) .nil) (lF o_167)))) (.node o_46 (.node o_59 (.node o_75 (.node (o_113 P) (lF o_179) .nil) (.node o_147 (lF (o_211 P)) .nil)) (.node o_94 (.node o_131 (lF o_195) .nil) (lF o_163))) (.node o_67 (.node o_104 (.node o_123 (lF o_187) .nil) (lF o_155)) (.node o_105 (.node o_139 (lF o_203) .nil) (lF o_171)))))))
noncomputable def o_217 (P : Params) : Obj := ⟨(.type "dict"), none, (.dict (List.toArray [dE P "__name__" 165 (.str "paperhold.objects" 391), dE P "__doc__" 166 .none, dE P "__package__" 167 .none, dE P "__loader__" 168 (.builtin "__main__.__loader__#opaque"), dE P "__spec__" 169 .none, dE P "__annotations__" 170 (.ref 6), dE P "__builtins__" 171 (.ref 4), dE P "__file__" 173 (.str "/claim/cut.py" 172), dE P "__cached__" 174 .none, dE P "_wall" 193 (.ref 21), dE P "PaperError" 235 (.ref 46), dE P "TreeFault" 251 (.ref 59), dE P "DraftFault" 267 (.ref 71), dE P "Decimal" 383 (.ref 167), dE P "sign_text" 390 (.ref 178), dE P "MOST_HOPS" 394 (.int 30 393), dE P "Name" 423 (.ref 195)]) 17), #[]⟩
noncomputable def o_218 : Obj := ⟨.none, none, (.fields (List.toArray [(.int 1 0), (.int 0 0), (.ref 20), (.int 5 0), (.int 0 0), (.ref 27), (.int 14 0), (.int 0 0), (.ref 55), (.int 16 0), (.int 0 0), (.ref 67), (.int 19 0), (.int 0 0), (.ref 79), (.int 64 0), (.int 0 0), (.ref 177), (.int 68 0), (.int 0 0), (.ref 184)])), #[]⟩
noncomputable def o_219 : Obj := ⟨(.type "tuple"), none, (.seq #[] 0), #[]⟩
noncomputable def o_220 : Obj := ⟨.none, none, (.fields #[]), #[]⟩
noncomputable def o_221 : Obj := ⟨(.type "tuple"), none, (.seq (List.toArray [(.str "number" 387)]) 0), #[]⟩
noncomputable def o_222 : Obj := ⟨(.type "tuple"), none, (.seq #[] 0), #[]⟩
noncomputable def o_223 : Obj := ⟨.none, none, (.func ⟨"sign_text", "sign_text", (fPar (stm 7)), (.stmts (bodyOf (stm 7))), (fSco (stm 7)), 0, [], .none, .none, .none, .none, none, .none, .none, 0⟩), #[]⟩
noncomputable def o_224 : Obj := ⟨(.type "code"), none, (.fields (List.toArray [(.str "sign_text" 384), (.str "sign_text" 385), (.str "/claim/cut.py" 386), (.int 64 0), (.int 1 0), (.int 0 0), (.int 0 0), (.int 3 0), (.ref 172), (.bool true), (.int 181 0), (.ref 173), .none, (.ref 174), (.ref 175), (.ref 176), (.int 388 0), (.int 64 0), (.str "/claim/cut.py" 389)])), #[]⟩
noncomputable def o_225 : Obj := ⟨(.type "function"), none, (.func ⟨"sign_text", "sign_text", (fPar (stm 7)), (.stmts (bodyOf (stm 7))), (fSco (stm 7)), 3, [], .none, .none, .none, (.str "paperhold.decimals" 268), none, (.ref 177), .none, 0⟩), #[]⟩
noncomputable def o_226 : Obj := ⟨(.type "tuple"), none, (.seq #[] 0), #[]⟩
noncomputable def o_227 : Obj := ⟨(.type "builtin_function_or_method"), none, (.fields (List.toArray [(.builtin "type.__prepare__"), (.type "type")])), #[]⟩
noncomputable def o_228 (P : Params) : Obj := ⟨(.type "dict"), none, (.dict (List.toArray [dE P "__module__" 402 (.str "paperhold.objects" 391), dE P "__qualname__" 404 (.str "Name" 403), dE P "__firstlineno__" 406 (.int 68 405), dE P "__init__" 414 (.ref 192), dE P "__static_attributes__" 416 (.ref 193)]) 5), #[]⟩
noncomputable def o_229 : Obj := ⟨(.type "tuple"), none, (.seq #[] 0), #[]⟩
noncomputable def o_230 : Obj := ⟨.none, none, (.fields (List.toArray [(.int 70 0), (.int 4 0), (.ref 191)])), #[]⟩
noncomputable def o_231 : Obj := ⟨(.type "code"), none, (.fields (List.toArray [(.str "Name" 397), (.str "Name" 398), (.str "/claim/cut.py" 399), (.int 68 0), (.int 0 0), (.int 0 0), (.int 0 0), (.int 0 0), (.ref 182), (.bool false), (.int 181 0), (.ref 183), .none, .none, .none, .none, (.int 400 0), (.int 68 0), (.str "/claim/cut.py" 401)])), #[]⟩
noncomputable def o_232 : Obj := ⟨(.type "frame"), none, .plain, (List.toArray [(some (.ref 184)), (some (.ref 3)), (some (.ref 181)), none, (some (.str "paperhold.objects" 391)), none, (some (.ref 0))])⟩
noncomputable def o_233 : Obj := ⟨(.type "tuple"), none, (.seq #[] 0), #[]⟩
noncomputable def o_234 : Obj := ⟨.none, none, (.fields #[]), #[]⟩
noncomputable def o_235 : Obj := ⟨(.type "tuple"), none, (.seq (List.toArray [(.str "self" 410), (.str "text" 411)]) 0), #[]⟩
noncomputable def o_236 : Obj := ⟨(.type "tuple"), none, (.seq #[] 0), #[]⟩
noncomputable def o_237 : Obj := ⟨.none, none, (.func ⟨"__init__", "Name.__init__", (fPar (meth 10 0)), (.stmts (bodyOf (meth 10 0))), (fSco (meth 10 0)), 0, [], .none, .none, .none, .none, none, .none, .none, 0⟩), #[]⟩
noncomputable def o_238 : Obj := ⟨(.type "code"), none, (.fields (List.toArray [(.str "__init__" 407), (.str "Name.__init__" 408), (.str "/claim/cut.py" 409), (.int 70 0), (.int 2 0), (.int 0 0), (.int 0 0), (.int 3 0), (.ref 186), (.bool true), (.int 181 0), (.ref 187), .none, (.ref 188), (.ref 189), (.ref 190), (.int 412 0), (.int 70 0), (.str "/claim/cut.py" 413)])), #[]⟩
noncomputable def o_239 : Obj := ⟨(.type "function"), none, (.func ⟨"__init__", "Name.__init__", (fPar (meth 10 0)), (.stmts (bodyOf (meth 10 0))), (fSco (meth 10 0)), 3, [], .none, .none, .none, (.str "paperhold.objects" 391), none, (.ref 191), .none, 0⟩), #[]⟩
noncomputable def o_240 : Obj := ⟨(.type "tuple"), none, (.seq (List.toArray [(.str "text" 415)]) 0), #[]⟩
noncomputable def o_241 (P : Params) : Obj := ⟨(.type "dict"), none, (.dict (List.toArray [dE P "__module__" 402 (.str "paperhold.objects" 391), dE P "__firstlineno__" 406 (.int 68 405), dE P "__init__" 414 (.ref 192), dE P "__static_attributes__" 416 (.ref 193), dE P "__dict__" 418 (.ref 196), dE P "__weakref__" 420 (.ref 197), dE P "__doc__" 421 .none]) 4), #[]⟩
noncomputable def o_242 : Obj := ⟨(.type "type"), none, (.cls ⟨"Name", [(.type "object")], [(.ref 195), (.type "object")], 194, "Name", true, [], [], false, none, false⟩), (List.toArray [none, none, (some (.str "Name" 395)), (some (.str "Name" 403)), (some (.builtin "object.__new__")), (some (.bool true))])⟩
noncomputable def o_243 : Obj := ⟨(.type "getset_descriptor"), none, (.fields (List.toArray [(.str "__dict__" 417), (.ref 195), (.builtin "function.__dict__"), (.builtin "function.__dict__#set")])), #[]⟩
noncomputable def o_244 : Obj := ⟨(.type "getset_descriptor"), none, (.fields (List.toArray [(.str "__weakref__" 419), (.ref 195), (.builtin "ExceptionGroup.__weakref__"), .none])), #[]⟩
noncomputable def o_245 : Obj := ⟨(.type "super"), none, (.fields (List.toArray [(.ref 195), (.ref 195), (.ref 195)])), #[]⟩
noncomputable def o_246 : Obj := ⟨(.type "builtin_function_or_method"), none, (.fields (List.toArray [(.builtin "object.__init_subclass__"), (.ref 195)])), #[]⟩
noncomputable def b_12 (P : Params) : BT := (.node o_106 (lF o_172) (lF o_238))
noncomputable def b_13 (P : Params) : BT := (.node o_68 (b_12 P) (.node o_140 (lF o_204) .nil))
noncomputable def b_14 (P : Params) : BT := (.node o_114 (lF o_180) (lF o_246))
noncomputable def b_15 (P : Params) : BT := (.node o_76 (b_14 P) (.node o_148 (lF o_212) .nil))
noncomputable def b_16 (P : Params) : BT := (.node o_110 (lF o_176) (lF o_242))
noncomputable def b_17 (P : Params) : BT := (.node o_72 (b_16 P) (.node o_144 (lF o_208) .nil))
noncomputable def b_18 (P : Params) : BT := (.node o_108 (lF o_174) (lF o_240))
noncomputable def b_19 (P : Params) : BT := (.node o_70 (b_18 P) (.node o_142 (lF o_206) .nil))
noncomputable def b_20 (P : Params) : BT := (.node o_112 (lF o_178) (lF o_244))
noncomputable def b_21 (P : Params) : BT := (.node o_74 (b_20 P) (.node o_146 (lF o_210) .nil))
noncomputable def b_22 (P : Params) : BT := (.node (o_107 P) (lF o_173) (lF o_239))
noncomputable def b_23 (P : Params) : BT := (.node o_69 (b_22 P) (.node o_141 (lF o_205) .nil))
noncomputable def b_24 (P : Params) : BT := (.node o_111 (lF o_177) (lF o_243))
noncomputable def b_25 (P : Params) : BT := (.node o_73 (b_24 P) (.node o_145 (lF o_209) .nil))
noncomputable def b_26 (P : Params) : BT := (.node o_109 (lF o_175) (lF (o_241 P)))
noncomputable def b_27 (P : Params) : BT := (.node o_71 (b_26 P) (.node o_143 (lF o_207) .nil))
noncomputable def b_28 (P : Params) : BT := (.node (o_113 P) (lF o_179) (lF o_245))
noncomputable def b_29 (P : Params) : BT := (.node o_75 (b_28 P) (.node o_147 (lF (o_211 P)) .nil))
noncomputable def b_30 (P : Params) : BT := (.node o_105 (.node o_139 (lF o_203) .nil) (.node o_171 (lF o_237) .nil))
noncomputable def tr_246 (P : Params) : BT := (.node (boot_o_0 P) (.node (boot_o_1 P) (.node (o_217 P) (.node (boot_o_7 P) (.node o_52 (b_13 P) (.node o_84 (.node o_124 (lF o_188) .nil) (.node o_156 (lF o_222) .nil))) (.node o_60 (b_15 P) (.node o_95 (.node o_132 (lF o_196) .nil) (.node o_164 (lF o_230) .nil)))) (.node o_43 (.node o_56 (b_17 P) (.node o_91 (.node o_128 (lF o_192) .nil) (.node o_160 (lF o_226) .nil))) (.node o_64 (b_8 P) (.node o_99 (.node o_136 (lF o_200) .nil) (.node o_168 (lF o_234) .nil))))) (.node (boot_o_5 P) (.node (boot_o_9 P) (.node o_54 (b_19 P) (.node o_86 (.node o_126 (lF o_190) .nil) (.node o_158 (lF o_224) .nil))) (.node o_62 (b_9 P) (.node o_97 (.node o_134 (lF o_198) .nil) (.node o_166 (lF o_232) .nil)))) (.node o_45 (.node o_58 (b_21 P) (.node o_93 (.node o_130 (lF o_194) .nil) (.node o_162 (lF (o_228 P)) .nil))) (.node o_66 (.node (o_82 P) (.node o_122 (lF o_186) .nil) (.node o_154 (lF o_220) .nil)) (.node o_101 (.node o_138 (lF o_202) .nil) (.node o_170 (lF o_236) .nil)))))) (.node (o_49 P) (.node (boot_o_4 P) (.node (boot_o_8 P) (.node o_53 (b_23 P) (.node o_85 (.node o_125 (lF o_189) .nil) (.node o_157 (lF o_223) .nil))) (.node (o_61 P) (b_10 P) (.node o_96 (.node o_133 (lF o_197) .nil) (.node o_165 (lF o_231) .nil)))) (.node o_218 (.node o_57 (b_25 P) (.node (o_92 P) (.node o_129 (lF o_193) .nil) (.node o_161 (lF o_227) .nil))) (.node o_65 (.node o_81 (.node (o_121 P) (lF o_185) .nil) (.node o_153 (lF o_219) .nil)) (.node o_100 (.node o_137 (lF o_201) .nil) (.node o_169 (lF o_235) .nil))))) (.node (boot_o_6 P) (.node (boot_o_10 P) (.node o_55 (b_27 P) (.node o_90 (.node o_127 (lF o_191) .nil) (.node o_159 (lF o_225) .nil))) (.node o_63 (b_11 P) (.node (o_98 P) (.node o_135 (lF o_199) .nil) (.node o_167 (lF o_233) .nil)))) (.node o_46 (.node o_59 (b_29 P) (.node o_94 (.node o_131 (lF o_195) .nil) (.node o_163 (lF o_229) .nil))) (.node o_67 (.node o_104 (.node o_123 (lF o_187) .nil) (.node o_155 (lF o_221) .nil)) (b_30 P))))))
noncomputable def o_247 (P : Params) : Obj := ⟨(.type "dict"), none, (.dict (List.toArray [dE P "__name__" 165 (.str "paperhold.objects" 391), dE P "__doc__" 166 .none, dE P "__package__" 167 .none, dE P "__loader__" 168 (.builtin "__main__.__loader__#opaque"), dE P "__spec__" 169 .none, dE P "__annotations__" 170 (.ref 6), dE P "__builtins__" 171 (.ref 4), dE P "__file__" 173 (.str "/claim/cut.py" 172), dE P "__cached__" 174 .none, dE P "_wall" 193 (.ref 21), dE P "PaperError" 235 (.ref 46), dE P "TreeFault" 251 (.ref 59), dE P "DraftFault" 267 (.ref 71), dE P "Decimal" 383 (.ref 167), dE P "sign_text" 390 (.ref 178), dE P "MOST_HOPS" 394 (.int 30 393), dE P "Name" 423 (.ref 195), dE P "String" 454 (.ref 217)]) 18), #[]⟩
noncomputable def o_248 : Obj := ⟨.none, none, (.fields (List.toArray [(.int 1 0), (.int 0 0), (.ref 20), (.int 5 0), (.int 0 0), (.ref 27), (.int 14 0), (.int 0 0), (.ref 55), (.int 16 0), (.int 0 0), (.ref 67), (.int 19 0), (.int 0 0), (.ref 79), (.int 64 0), (.int 0 0), (.ref 177), (.int 68 0), (.int 0 0), (.ref 184), (.int 72 0), (.int 0 0), (.ref 205)])), #[]⟩
noncomputable def o_249 : Obj := ⟨(.type "tuple"), none, (.seq #[] 0), #[]⟩
noncomputable def o_250 : Obj := ⟨(.type "builtin_function_or_method"), none, (.fields (List.toArray [(.builtin "type.__prepare__"), (.type "type")])), #[]⟩
noncomputable def o_251 (P : Params) : Obj := ⟨(.type "dict"), none, (.dict (List.toArray [dE P "__module__" 431 (.str "paperhold.objects" 391), dE P "__qualname__" 433 (.str "String" 432), dE P "__firstlineno__" 435 (.int 72 434), dE P "__init__" 444 (.ref 214), dE P "__static_attributes__" 447 (.ref 215)]) 5), #[]⟩
noncomputable def o_252 : Obj := ⟨(.type "tuple"), none, (.seq #[] 0), #[]⟩
noncomputable def o_253 : Obj := ⟨.none, none, (.fields (List.toArray [(.int 74 0), (.int 4 0), (.ref 213)])), #[]⟩
noncomputable def o_254 : Obj := ⟨(.type "code"), none, (.fields (List.toArray [(.str "String" 426), (.str "String" 427), (.str "/claim/cut.py" 428), (.int 72 0), (.int 0 0), (.int 0 0), (.int 0 0), (.int 0 0), (.ref 203), (.bool false), (.int 181 0), (.ref 204), .none, .none, .none, .none, (.int 429 0), (.int 72 0), (.str "/claim/cut.py" 430)])), #[]⟩
noncomputable def o_255 : Obj := ⟨(.type "frame"), none, .plain, (List.toArray [(some (.ref 205)), (some (.ref 3)), (some (.ref 202)), none, (some (.str "paperhold.objects" 391)), none, (some (.ref 0))])⟩
noncomputable def o_256 : Obj := ⟨(.type "tuple"), none, (.seq (List.toArray [(.bool false)]) 0), #[]⟩
noncomputable def o_257 : Obj := ⟨(.type "tuple"), none, (.seq #[] 0), #[]⟩
noncomputable def o_258 : Obj := ⟨.none, none, (.fields #[]), #[]⟩
noncomputable def o_259 : Obj := ⟨(.type "tuple"), none, (.seq (List.toArray [(.str "self" 439), (.str "octets" 440), (.str "is_hex" 441)]) 0), #[]⟩
noncomputable def o_260 : Obj := ⟨(.type "tuple"), none, (.seq #[] 0), #[]⟩
noncomputable def o_261 : Obj := ⟨.none, none, (.func ⟨"__init__", "String.__init__", (fPar (meth 11 0)), (.stmts (bodyOf (meth 11 0))), (fSco (meth 11 0)), 0, [], .none, .none, .none, .none, none, .none, .none, 0⟩), #[]⟩
noncomputable def o_262 : Obj := ⟨(.type "code"), none, (.fields (List.toArray [(.str "__init__" 436), (.str "String.__init__" 437), (.str "/claim/cut.py" 438), (.int 74 0), (.int 3 0), (.int 0 0), (.int 0 0), (.int 3 0), (.ref 208), (.bool true), (.int 181 0), (.ref 209), .none, (.ref 210), (.ref 211), (.ref 212), (.int 442 0), (.int 74 0), (.str "/claim/cut.py" 443)])), #[]⟩
noncomputable def o_263 : Obj := ⟨(.type "function"), none, (.func ⟨"__init__", "String.__init__", (fPar (meth 11 0)), (.stmts (bodyOf (meth 11 0))), (fSco (meth 11 0)), 3, [], (.ref 207), .none, .none, (.str "paperhold.objects" 391), none, (.ref 213), .none, 0⟩), #[]⟩
noncomputable def o_264 : Obj := ⟨(.type "tuple"), none, (.seq (List.toArray [(.str "is_hex" 445), (.str "octets" 446)]) 0), #[]⟩
noncomputable def o_265 (P : Params) : Obj := ⟨(.type "dict"), none, (.dict (List.toArray [dE P "__module__" 431 (.str "paperhold.objects" 391), dE P "__firstlineno__" 435 (.int 72 434), dE P "__init__" 444 (.ref 214), dE P "__static_attributes__" 447 (.ref 215), dE P "__dict__" 449 (.ref 218), dE P "__weakref__" 451 (.ref 219), dE P "__doc__" 452 .none]) 4), #[]⟩
noncomputable def o_266 : Obj := ⟨(.type "type"), none, (.cls ⟨"String", [(.type "object")], [(.ref 217), (.type "object")], 216, "String", true, [], [], false, none, false⟩), (List.toArray [none, none, (some (.str "String" 424)), (some (.str "String" 432)), (some (.builtin "object.__new__")), (some (.bool true))])⟩
noncomputable def o_267 : Obj := ⟨(.type "getset_descriptor"), none, (.fields (List.toArray [(.str "__dict__" 448), (.ref 217), (.builtin "function.__dict__"), (.builtin "function.__dict__#set")])), #[]⟩
noncomputable def o_268 : Obj := ⟨(.type "getset_descriptor"), none, (.fields (List.toArray [(.str "__weakref__" 450), (.ref 217), (.builtin "ExceptionGroup.__weakref__"), .none])), #[]⟩
noncomputable def o_269 : Obj := ⟨(.type "super"), none, (.fields (List.toArray [(.ref 217), (.ref 217), (.ref 217)])), #[]⟩
noncomputable def o_270 : Obj := ⟨(.type "builtin_function_or_method"), none, (.fields (List.toArray [(.builtin "object.__init_subclass__"), (.ref 217)])), #[]⟩
noncomputable def b_31 (P : Params) : BT := (.node o_124 (lF o_188) (lF o_256))
noncomputable def b_32 (P : Params) : BT := (.node o_95 (.node o_132 (lF o_196) (lF o_264)) (.node o_164 (lF o_230) .nil))
noncomputable def b_33 (P : Params) : BT := (.node o_91 (.node o_128 (lF o_192) (lF o_260)) (.node o_160 (lF o_226) .nil))
noncomputable def b_34 (P : Params) : BT := (.node o_120 (lF o_184) (lF o_252))
noncomputable def b_35 (P : Params) : BT := (.node o_99 (.node o_136 (lF o_200) (lF o_268)) (.node o_168 (lF o_234) .nil))
noncomputable def b_36 (P : Params) : BT := (.node o_126 (lF o_190) (lF o_258))
noncomputable def b_37 (P : Params) : BT := (.node o_116 (lF o_182) (lF o_250))
noncomputable def b_38 (P : Params) : BT := (.node o_97 (.node o_134 (lF o_198) (lF o_266)) (.node o_166 (lF o_232) .nil))
noncomputable def b_39 (P : Params) : BT := (.node o_93 (.node o_130 (lF o_194) (lF o_262)) (.node o_162 (lF (o_228 P)) .nil))
noncomputable def b_40 (P : Params) : BT := (.node o_122 (lF o_186) (lF o_254))
noncomputable def b_41 (P : Params) : BT := (.node o_101 (.node o_138 (lF o_202) (lF o_270)) (.node o_170 (lF o_236) .nil))
noncomputable def b_42 (P : Params) : BT := (.node o_125 (lF o_189) (lF o_257))
noncomputable def b_43 (P : Params) : BT := (.node o_115 (lF o_181) (lF o_249))
noncomputable def b_44 (P : Params) : BT := (.node o_96 (.node o_133 (lF o_197) (lF (o_265 P))) (.node o_165 (lF o_231) .nil))
noncomputable def b_45 (P : Params) : BT := (.node (o_92 P) (.node o_129 (lF o_193) (lF o_261)) (.node o_161 (lF o_227) .nil))
noncomputable def b_46 (P : Params) : BT := (.node (o_121 P) (lF o_185) (lF o_253))
noncomputable def b_47 (P : Params) : BT := (.node o_100 (.node o_137 (lF o_201) (lF o_269)) (.node o_169 (lF o_235) .nil))
noncomputable def b_48 (P : Params) : BT := (.node o_127 (lF o_191) (lF o_259))
noncomputable def b_49 (P : Params) : BT := (.node o_119 (lF o_183) (lF (o_251 P)))
noncomputable def b_50 (P : Params) : BT := (.node (o_98 P) (.node o_135 (lF o_199) (lF o_267)) (.node o_167 (lF o_233) .nil))
noncomputable def b_51 (P : Params) : BT := (.node o_94 (.node o_131 (lF o_195) (lF o_263)) (.node o_163 (lF o_229) .nil))
noncomputable def b_52 (P : Params) : BT := (.node o_123 (lF o_187) (lF o_255))
noncomputable def tr_270 (P : Params) : BT := (.node (boot_o_0 P) (.node (boot_o_1 P) (.node (o_247 P) (.node (boot_o_7 P) (.node o_52 (b_13 P) (.node o_84 (b_31 P) (.node o_156 (lF o_222) .nil))) (.node o_60 (b_15 P) (b_32 P))) (.node o_43 (.node o_56 (b_17 P) (b_33 P)) (.node o_64 (.node o_80 (b_34 P) (.node o_152 (lF o_216) .nil)) (b_35 P)))) (.node (boot_o_5 P) (.node (boot_o_9 P) (.node o_54 (b_19 P) (.node o_86 (b_36 P) (.node o_158 (lF o_224) .nil))) (.node o_62 (.node o_78 (b_37 P) (.node o_150 (lF o_214) .nil)) (b_38 P))) (.node o_45 (.node o_58 (b_21 P) (b_39 P)) (.node o_66 (.node (o_82 P) (b_40 P) (.node o_154 (lF o_220) .nil)) (b_41 P))))) (.node (o_49 P) (.node (boot_o_4 P) (.node (boot_o_8 P) (.node o_53 (b_23 P) (.node o_85 (b_42 P) (.node o_157 (lF o_223) .nil))) (.node (o_61 P) (.node o_77 (b_43 P) (.node o_149 (lF o_213) .nil)) (b_44 P))) (.node o_248 (.node o_57 (b_25 P) (b_45 P)) (.node o_65 (.node o_81 (b_46 P) (.node o_153 (lF o_219) .nil)) (b_47 P)))) (.node (boot_o_6 P) (.node (boot_o_10 P) (.node o_55 (b_27 P) (.node o_90 (b_48 P) (.node o_159 (lF o_225) .nil))) (.node o_63 (.node o_79 (b_49 P) (.node o_151 (lF o_215) .nil)) (b_50 P))) (.node o_46 (.node o_59 (b_29 P) (b_51 P)) (.node o_67 (.node o_104 (b_52 P) (.node o_155 (lF o_221) .nil)) (b_30 P))))))
noncomputable def o_271 (P : Params) : Obj := ⟨(.type "dict"), none, (.dict (List.toArray [dE P "__name__" 165 (.str "paperhold.objects" 391), dE P "__doc__" 166 .none, dE P "__package__" 167 .none, dE P "__loader__" 168 (.builtin "__main__.__loader__#opaque"), dE P "__spec__" 169 .none, dE P "__annotations__" 170 (.ref 6), dE P "__builtins__" 171 (.ref 4), dE P "__file__" 173 (.str "/claim/cut.py" 172), dE P "__cached__" 174 .none, dE P "_wall" 193 (.ref 21), dE P "PaperError" 235 (.ref 46), dE P "TreeFault" 251 (.ref 59), dE P "DraftFault" 267 (.ref 71), dE P "Decimal" 383 (.ref 167), dE P "sign_text" 390 (.ref 178), dE P "MOST_HOPS" 394 (.int 30 393), dE P "Name" 423 (.ref 195), dE P "String" 454 (.ref 217), dE P "Stream" 485 (.ref 238)]) 19), #[]⟩
noncomputable def o_272 : Obj := ⟨.none, none, (.fields (List.toArray [(.int 1 0), (.int 0 0), (.ref 20), (.int 5 0), (.int 0 0), (.ref 27), (.int 14 0), (.int 0 0), (.ref 55), (.int 16 0), (.int 0 0), (.ref 67), (.int 19 0), (.int 0 0), (.ref 79), (.int 64 0), (.int 0 0), (.ref 177), (.int 68 0), (.int 0 0), (.ref 184), (.int 72 0), (.int 0 0), (.ref 205), (.int 77 0), (.int 0 0), (.ref 227)])), #[]⟩
noncomputable def o_273 : Obj := ⟨(.type "tuple"), none, (.seq #[] 0), #[]⟩
noncomputable def o_274 : Obj := ⟨(.type "builtin_function_or_method"), none, (.fields (List.toArray [(.builtin "type.__prepare__"), (.type "type")])), #[]⟩
noncomputable def o_275 (P : Params) : Obj := ⟨(.type "dict"), none, (.dict (List.toArray [dE P "__module__" 462 (.str "paperhold.objects" 391), dE P "__qualname__" 464 (.str "Stream" 463), dE P "__firstlineno__" 466 (.int 77 465), dE P "__init__" 475 (.ref 235), dE P "__static_attributes__" 478 (.ref 236)]) 5), #[]⟩
noncomputable def o_276 : Obj := ⟨(.type "tuple"), none, (.seq #[] 0), #[]⟩
noncomputable def o_277 : Obj := ⟨.none, none, (.fields (List.toArray [(.int 79 0), (.int 4 0), (.ref 234)])), #[]⟩
noncomputable def o_278 : Obj := ⟨(.type "code"), none, (.fields (List.toArray [(.str "Stream" 457), (.str "Stream" 458), (.str "/claim/cut.py" 459), (.int 77 0), (.int 0 0), (.int 0 0), (.int 0 0), (.int 0 0), (.ref 225), (.bool false), (.int 181 0), (.ref 226), .none, .none, .none, .none, (.int 460 0), (.int 77 0), (.str "/claim/cut.py" 461)])), #[]⟩
noncomputable def o_279 : Obj := ⟨(.type "frame"), none, .plain, (List.toArray [(some (.ref 227)), (some (.ref 3)), (some (.ref 224)), none, (some (.str "paperhold.objects" 391)), none, (some (.ref 0))])⟩
noncomputable def o_280 : Obj := ⟨(.type "tuple"), none, (.seq #[] 0), #[]⟩
noncomputable def o_281 : Obj := ⟨.none, none, (.fields #[]), #[]⟩
noncomputable def o_282 : Obj := ⟨(.type "tuple"), none, (.seq (List.toArray [(.str "self" 470), (.str "head" 471), (.str "octets" 472)]) 0), #[]⟩
noncomputable def o_283 : Obj := ⟨(.type "tuple"), none, (.seq #[] 0), #[]⟩
noncomputable def o_284 : Obj := ⟨.none, none, (.func ⟨"__init__", "Stream.__init__", (fPar (meth 12 0)), (.stmts (bodyOf (meth 12 0))), (fSco (meth 12 0)), 0, [], .none, .none, .none, .none, none, .none, .none, 0⟩), #[]⟩
noncomputable def o_285 : Obj := ⟨(.type "code"), none, (.fields (List.toArray [(.str "__init__" 467), (.str "Stream.__init__" 468), (.str "/claim/cut.py" 469), (.int 79 0), (.int 3 0), (.int 0 0), (.int 0 0), (.int 3 0), (.ref 229), (.bool true), (.int 181 0), (.ref 230), .none, (.ref 231), (.ref 232), (.ref 233), (.int 473 0), (.int 79 0), (.str "/claim/cut.py" 474)])), #[]⟩
noncomputable def o_286 : Obj := ⟨(.type "function"), none, (.func ⟨"__init__", "Stream.__init__", (fPar (meth 12 0)), (.stmts (bodyOf (meth 12 0))), (fSco (meth 12 0)), 3, [], .none, .none, .none, (.str "paperhold.objects" 391), none, (.ref 234), .none, 0⟩), #[]⟩
noncomputable def o_287 : Obj := ⟨(.type "tuple"), none, (.seq (List.toArray [(.str "head" 476), (.str "octets" 477)]) 0), #[]⟩
noncomputable def o_288 (P : Params) : Obj := ⟨(.type "dict"), none, (.dict (List.toArray [dE P "__module__" 462 (.str "paperhold.objects" 391), dE P "__firstlineno__" 466 (.int 77 465), dE P "__init__" 475 (.ref 235), dE P "__static_attributes__" 478 (.ref 236), dE P "__dict__" 480 (.ref 239), dE P "__weakref__" 482 (.ref 240), dE P "__doc__" 483 .none]) 4), #[]⟩
noncomputable def o_289 : Obj := ⟨(.type "type"), none, (.cls ⟨"Stream", [(.type "object")], [(.ref 238), (.type "object")], 237, "Stream", true, [], [], false, none, false⟩), (List.toArray [none, none, (some (.str "Stream" 455)), (some (.str "Stream" 463)), (some (.builtin "object.__new__")), (some (.bool true))])⟩
noncomputable def o_290 : Obj := ⟨(.type "getset_descriptor"), none, (.fields (List.toArray [(.str "__dict__" 479), (.ref 238), (.builtin "function.__dict__"), (.builtin "function.__dict__#set")])), #[]⟩
noncomputable def o_291 : Obj := ⟨(.type "getset_descriptor"), none, (.fields (List.toArray [(.str "__weakref__" 481), (.ref 238), (.builtin "ExceptionGroup.__weakref__"), .none])), #[]⟩
noncomputable def o_292 : Obj := ⟨(.type "super"), none, (.fields (List.toArray [(.ref 238), (.ref 238), (.ref 238)])), #[]⟩
noncomputable def o_293 : Obj := ⟨(.type "builtin_function_or_method"), none, (.fields (List.toArray [(.builtin "object.__init_subclass__"), (.ref 238)])), #[]⟩
noncomputable def b_53 (P : Params) : BT := (.node o_156 (lF o_222) (lF o_290))
noncomputable def b_54 (P : Params) : BT := (.node o_148 (lF o_212) (lF o_282))
noncomputable def b_55 (P : Params) : BT := (.node o_144 (lF o_208) (lF o_278))
noncomputable def b_56 (P : Params) : BT := (.node o_152 (lF o_216) (lF o_286))
noncomputable def b_57 (P : Params) : BT := (.node o_158 (lF o_224) (lF o_292))
noncomputable def b_58 (P : Params) : BT := (.node o_150 (lF o_214) (lF o_284))
noncomputable def b_59 (P : Params) : BT := (.node o_146 (lF o_210) (lF o_280))
noncomputable def b_60 (P : Params) : BT := (.node o_154 (lF o_220) (lF (o_288 P)))
noncomputable def b_61 (P : Params) : BT := (.node o_157 (lF o_223) (lF o_291))
noncomputable def b_62 (P : Params) : BT := (.node o_149 (lF o_213) (lF o_283))
noncomputable def b_63 (P : Params) : BT := (.node o_145 (lF o_209) (lF o_279))
noncomputable def b_64 (P : Params) : BT := (.node o_153 (lF o_219) (lF o_287))
noncomputable def b_65 (P : Params) : BT := (.node o_143 (lF o_207) (lF o_277))
noncomputable def b_66 (P : Params) : BT := (.node o_159 (lF o_225) (lF o_293))
noncomputable def b_67 (P : Params) : BT := (.node o_151 (lF o_215) (lF o_285))
noncomputable def b_68 (P : Params) : BT := (.node o_147 (lF (o_211 P)) (lF o_281))
noncomputable def b_69 (P : Params) : BT := (.node o_155 (lF o_221) (lF o_289))
noncomputable def tr_293 (P : Params) : BT := (.node (boot_o_0 P) (.node (boot_o_1 P) (.node (o_271 P) (.node (boot_o_7 P) (.node o_52 (.node o_68 (b_12 P) (.node o_140 (lF o_204) (lF o_274))) (.node o_84 (b_31 P) (b_53 P))) (.node o_60 (.node o_76 (b_14 P) (b_54 P)) (b_32 P))) (.node o_43 (.node o_56 (.node o_72 (b_16 P) (b_55 P)) (b_33 P)) (.node o_64 (.node o_80 (b_34 P) (b_56 P)) (b_35 P)))) (.node (boot_o_5 P) (.node (boot_o_9 P) (.node o_54 (.node o_70 (b_18 P) (.node o_142 (lF o_206) (lF o_276))) (.node o_86 (b_36 P) (b_57 P))) (.node o_62 (.node o_78 (b_37 P) (b_58 P)) (b_38 P))) (.node o_45 (.node o_58 (.node o_74 (b_20 P) (b_59 P)) (b_39 P)) (.node o_66 (.node (o_82 P) (b_40 P) (b_60 P)) (b_41 P))))) (.node (o_49 P) (.node (boot_o_4 P) (.node (boot_o_8 P) (.node o_53 (.node o_69 (b_22 P) (.node o_141 (lF o_205) (lF (o_275 P)))) (.node o_85 (b_42 P) (b_61 P))) (.node (o_61 P) (.node o_77 (b_43 P) (b_62 P)) (b_44 P))) (.node o_272 (.node o_57 (.node o_73 (b_24 P) (b_63 P)) (b_45 P)) (.node o_65 (.node o_81 (b_46 P) (b_64 P)) (b_47 P)))) (.node (boot_o_6 P) (.node (boot_o_10 P) (.node o_55 (.node o_71 (b_26 P) (b_65 P)) (.node o_90 (b_48 P) (b_66 P))) (.node o_63 (.node o_79 (b_49 P) (b_67 P)) (b_50 P))) (.node o_46 (.node o_59 (.node o_75 (b_28 P) (b_68 P)) (b_51 P)) (.node o_67 (.node o_104 (b_52 P) (b_69 P)) (.node o_105 (.node o_139 (lF o_203) (lF o_273)) (.node o_171 (lF o_237) .nil)))))))
noncomputable def o_294 (P : Params) : Obj := ⟨(.type "dict"), none, (.dict (List.toArray [dE P "__name__" 165 (.str "paperhold.objects" 391), dE P "__doc__" 166 .none, dE P "__package__" 167 .none, dE P "__loader__" 168 (.builtin "__main__.__loader__#opaque"), dE P "__spec__" 169 .none, dE P "__annotations__" 170 (.ref 6), dE P "__builtins__" 171 (.ref 4), dE P "__file__" 173 (.str "/claim/cut.py" 172), dE P "__cached__" 174 .none, dE P "_wall" 193 (.ref 21), dE P "PaperError" 235 (.ref 46), dE P "TreeFault" 251 (.ref 59), dE P "DraftFault" 267 (.ref 71), dE P "Decimal" 383 (.ref 167), dE P "sign_text" 390 (.ref 178), dE P "MOST_HOPS" 394 (.int 30 393), dE P "Name" 423 (.ref 195), dE P "String" 454 (.ref 217), dE P "Stream" 485 (.ref 238), dE P "Reference" 523 (.ref 266), dE P "kind_of" 530 (.ref 277), dE P "told_plain" 538 (.ref 284), dE P "told" 544 (.ref 289), dE P "told_objects" 545 (.ref 289)]) 24), #[]⟩
noncomputable def o_295 : Obj := ⟨.none, none, (.fields (List.toArray [(.int 1 0), (.int 0 0), (.ref 20), (.int 5 0), (.int 0 0), (.ref 27), (.int 14 0), (.int 0 0), (.ref 55), (.int 16 0), (.int 0 0), (.ref 67), (.int 19 0), (.int 0 0), (.ref 79), (.int 64 0), (.int 0 0), (.ref 177), (.int 68 0), (.int 0 0), (.ref 184), (.int 72 0), (.int 0 0), (.ref 205), (.int 77 0), (.int 0 0), (.ref 227), (.int 82 0), (.int 0 0), (.ref 248), (.int 90 0), (.int 0 0), (.ref 276), (.int 112 0), (.int 0 0), (.ref 283), (.int 126 0), (.int 0 0), (.ref 288)])), #[]⟩
noncomputable def o_296 : Obj := ⟨(.type "tuple"), none, (.seq #[] 0), #[]⟩
noncomputable def o_297 : Obj := ⟨(.type "builtin_function_or_method"), none, (.fields (List.toArray [(.builtin "type.__prepare__"), (.type "type")])), #[]⟩
noncomputable def o_298 (P : Params) : Obj := ⟨(.type "dict"), none, (.dict (List.toArray [dE P "__module__" 493 (.str "paperhold.objects" 391), dE P "__qualname__" 495 (.str "Reference" 494), dE P "__firstlineno__" 497 (.int 82 496), dE P "__init__" 506 (.ref 256), dE P "pair" 513 (.ref 263), dE P "__static_attributes__" 516 (.ref 264)]) 6), #[]⟩
noncomputable def o_299 : Obj := ⟨(.type "tuple"), none, (.seq #[] 0), #[]⟩
noncomputable def o_300 : Obj := ⟨.none, none, (.fields (List.toArray [(.int 84 0), (.int 4 0), (.ref 255), (.int 88 0), (.int 4 0), (.ref 262)])), #[]⟩
noncomputable def o_301 : Obj := ⟨(.type "code"), none, (.fields (List.toArray [(.str "Reference" 488), (.str "Reference" 489), (.str "/claim/cut.py" 490), (.int 82 0), (.int 0 0), (.int 0 0), (.int 0 0), (.int 0 0), (.ref 246), (.bool false), (.int 181 0), (.ref 247), .none, .none, .none, .none, (.int 491 0), (.int 82 0), (.str "/claim/cut.py" 492)])), #[]⟩
noncomputable def o_302 : Obj := ⟨(.type "frame"), none, .plain, (List.toArray [(some (.ref 248)), (some (.ref 3)), (some (.ref 245)), none, (some (.str "paperhold.objects" 391)), none, (some (.ref 0))])⟩
noncomputable def o_303 : Obj := ⟨(.type "tuple"), none, (.seq #[] 0), #[]⟩
noncomputable def o_304 : Obj := ⟨.none, none, (.fields #[]), #[]⟩
noncomputable def o_305 : Obj := ⟨(.type "tuple"), none, (.seq (List.toArray [(.str "self" 501), (.str "number" 502), (.str "generation" 503)]) 0), #[]⟩
noncomputable def o_306 : Obj := ⟨(.type "tuple"), none, (.seq #[] 0), #[]⟩
noncomputable def o_307 : Obj := ⟨.none, none, (.func ⟨"__init__", "Reference.__init__", (fPar (meth 13 0)), (.stmts (bodyOf (meth 13 0))), (fSco (meth 13 0)), 0, [], .none, .none, .none, .none, none, .none, .none, 0⟩), #[]⟩
noncomputable def o_308 : Obj := ⟨(.type "code"), none, (.fields (List.toArray [(.str "__init__" 498), (.str "Reference.__init__" 499), (.str "/claim/cut.py" 500), (.int 84 0), (.int 3 0), (.int 0 0), (.int 0 0), (.int 3 0), (.ref 250), (.bool true), (.int 181 0), (.ref 251), .none, (.ref 252), (.ref 253), (.ref 254), (.int 504 0), (.int 84 0), (.str "/claim/cut.py" 505)])), #[]⟩
noncomputable def o_309 : Obj := ⟨(.type "function"), none, (.func ⟨"__init__", "Reference.__init__", (fPar (meth 13 0)), (.stmts (bodyOf (meth 13 0))), (fSco (meth 13 0)), 3, [], .none, .none, .none, (.str "paperhold.objects" 391), none, (.ref 255), .none, 0⟩), #[]⟩
noncomputable def o_310 : Obj := ⟨(.type "tuple"), none, (.seq #[] 0), #[]⟩
noncomputable def o_311 : Obj := ⟨.none, none, (.fields #[]), #[]⟩
noncomputable def o_312 : Obj := ⟨(.type "tuple"), none, (.seq (List.toArray [(.str "self" 510)]) 0), #[]⟩
noncomputable def o_313 : Obj := ⟨(.type "tuple"), none, (.seq #[] 0), #[]⟩
noncomputable def o_314 : Obj := ⟨.none, none, (.func ⟨"pair", "Reference.pair", (fPar (meth 13 1)), (.stmts (bodyOf (meth 13 1))), (fSco (meth 13 1)), 0, [], .none, .none, .none, .none, none, .none, .none, 0⟩), #[]⟩
noncomputable def o_315 : Obj := ⟨(.type "code"), none, (.fields (List.toArray [(.str "pair" 507), (.str "Reference.pair" 508), (.str "/claim/cut.py" 509), (.int 88 0), (.int 1 0), (.int 0 0), (.int 0 0), (.int 3 0), (.ref 257), (.bool true), (.int 181 0), (.ref 258), .none, (.ref 259), (.ref 260), (.ref 261), (.int 511 0), (.int 88 0), (.str "/claim/cut.py" 512)])), #[]⟩
noncomputable def o_316 : Obj := ⟨(.type "function"), none, (.func ⟨"pair", "Reference.pair", (fPar (meth 13 1)), (.stmts (bodyOf (meth 13 1))), (fSco (meth 13 1)), 3, [], .none, .none, .none, (.str "paperhold.objects" 391), none, (.ref 262), .none, 0⟩), #[]⟩
noncomputable def o_317 : Obj := ⟨(.type "tuple"), none, (.seq (List.toArray [(.str "generation" 514), (.str "number" 515)]) 0), #[]⟩
noncomputable def o_318 (P : Params) : Obj := ⟨(.type "dict"), none, (.dict (List.toArray [dE P "__module__" 493 (.str "paperhold.objects" 391), dE P "__firstlineno__" 497 (.int 82 496), dE P "__init__" 506 (.ref 256), dE P "pair" 513 (.ref 263), dE P "__static_attributes__" 516 (.ref 264), dE P "__dict__" 518 (.ref 267), dE P "__weakref__" 520 (.ref 268), dE P "__doc__" 521 .none]) 4), #[]⟩
noncomputable def o_319 : Obj := ⟨(.type "type"), none, (.cls ⟨"Reference", [(.type "object")], [(.ref 266), (.type "object")], 265, "Reference", true, [], [], false, none, false⟩), (List.toArray [none, none, (some (.str "Reference" 486)), (some (.str "Reference" 494)), (some (.builtin "object.__new__")), (some (.bool true))])⟩
noncomputable def o_320 : Obj := ⟨(.type "getset_descriptor"), none, (.fields (List.toArray [(.str "__dict__" 517), (.ref 266), (.builtin "function.__dict__"), (.builtin "function.__dict__#set")])), #[]⟩
noncomputable def o_321 : Obj := ⟨(.type "getset_descriptor"), none, (.fields (List.toArray [(.str "__weakref__" 519), (.ref 266), (.builtin "ExceptionGroup.__weakref__"), .none])), #[]⟩
noncomputable def o_322 : Obj := ⟨(.type "super"), none, (.fields (List.toArray [(.ref 266), (.ref 266), (.ref 266)])), #[]⟩
noncomputable def o_323 : Obj := ⟨(.type "builtin_function_or_method"), none, (.fields (List.toArray [(.builtin "object.__init_subclass__"), (.ref 266)])), #[]⟩
noncomputable def o_324 : Obj := ⟨(.type "tuple"), none, (.seq #[] 0), #[]⟩
noncomputable def o_325 : Obj := ⟨.none, none, (.fields #[]), #[]⟩
noncomputable def o_326 : Obj := ⟨(.type "tuple"), none, (.seq (List.toArray [(.str "value" 527)]) 0), #[]⟩
noncomputable def o_327 : Obj := ⟨(.type "tuple"), none, (.seq #[] 0), #[]⟩
noncomputable def o_328 : Obj := ⟨.none, none, (.func ⟨"kind_of", "kind_of", (fPar (stm 14)), (.stmts (bodyOf (stm 14))), (fSco (stm 14)), 0, [], .none, .none, .none, .none, none, .none, .none, 0⟩), #[]⟩
noncomputable def o_329 : Obj := ⟨(.type "code"), none, (.fields (List.toArray [(.str "kind_of" 524), (.str "kind_of" 525), (.str "/claim/cut.py" 526), (.int 90 0), (.int 1 0), (.int 0 0), (.int 0 0), (.int 3 0), (.ref 271), (.bool true), (.int 181 0), (.ref 272), .none, (.ref 273), (.ref 274), (.ref 275), (.int 528 0), (.int 90 0), (.str "/claim/cut.py" 529)])), #[]⟩
noncomputable def o_330 : Obj := ⟨(.type "function"), none, (.func ⟨"kind_of", "kind_of", (fPar (stm 14)), (.stmts (bodyOf (stm 14))), (fSco (stm 14)), 3, [], .none, .none, .none, (.str "paperhold.objects" 391), none, (.ref 276), .none, 0⟩), #[]⟩
noncomputable def o_331 : Obj := ⟨(.type "tuple"), none, (.seq #[] 0), #[]⟩
noncomputable def o_332 : Obj := ⟨.none, none, (.fields #[]), #[]⟩
noncomputable def o_333 : Obj := ⟨(.type "tuple"), none, (.seq (List.toArray [(.str "kind" 534), (.str "value" 535)]) 0), #[]⟩
noncomputable def o_334 : Obj := ⟨(.type "tuple"), none, (.seq #[] 0), #[]⟩
noncomputable def o_335 : Obj := ⟨.none, none, (.func ⟨"told_plain", "told_plain", (fPar (stm 15)), (.stmts (bodyOf (stm 15))), (fSco (stm 15)), 0, [], .none, .none, .none, .none, none, .none, .none, 0⟩), #[]⟩
noncomputable def o_336 : Obj := ⟨(.type "code"), none, (.fields (List.toArray [(.str "told_plain" 531), (.str "told_plain" 532), (.str "/claim/cut.py" 533), (.int 112 0), (.int 2 0), (.int 0 0), (.int 0 0), (.int 3 0), (.ref 278), (.bool true), (.int 181 0), (.ref 279), .none, (.ref 280), (.ref 281), (.ref 282), (.int 536 0), (.int 112 0), (.str "/claim/cut.py" 537)])), #[]⟩
noncomputable def o_337 : Obj := ⟨(.type "function"), none, (.func ⟨"told_plain", "told_plain", (fPar (stm 15)), (.stmts (bodyOf (stm 15))), (fSco (stm 15)), 3, [], .none, .none, .none, (.str "paperhold.objects" 391), none, (.ref 283), .none, 0⟩), #[]⟩
noncomputable def o_338 : Obj := ⟨(.type "tuple"), none, (.seq #[] 0), #[]⟩
noncomputable def o_339 : Obj := ⟨.none, none, (.fields #[]), #[]⟩
noncomputable def o_340 : Obj := ⟨.none, none, (.func ⟨"told", "told", (fPar (stm 16)), (.stmts (bodyOf (stm 16))), (fSco (stm 16)), 0, [], .none, .none, .none, .none, none, .none, .none, 0⟩), #[]⟩
noncomputable def o_341 : Obj := ⟨(.type "code"), none, (.fields (List.toArray [(.str "told" 539), (.str "told" 540), (.str "/claim/cut.py" 541), (.int 126 0), (.int 1 0), (.int 0 0), (.int 0 0), (.int 3 0), (.ref 285), (.bool true), (.int 181 0), (.ref 286), .none, .none, .none, (.ref 287), (.int 542 0), (.int 126 0), (.str "/claim/cut.py" 543)])), #[]⟩
noncomputable def o_342 : Obj := ⟨(.type "function"), none, (.func ⟨"told", "told", (fPar (stm 16)), (.stmts (bodyOf (stm 16))), (fSco (stm 16)), 3, [], .none, .none, .none, (.str "paperhold.objects" 391), none, (.ref 288), .none, 0⟩), #[]⟩
noncomputable def b_70 (P : Params) : BT := (.node o_140 (.node o_204 (lF o_340) .nil) (lF o_274))
noncomputable def b_71 (P : Params) : BT := (.node o_124 (.node o_188 (lF o_324) .nil) (lF o_256))
noncomputable def b_72 (P : Params) : BT := (.node o_114 (.node o_180 (lF o_316) .nil) (lF o_246))
noncomputable def b_73 (P : Params) : BT := (.node o_132 (.node o_196 (lF o_332) .nil) (lF o_264))
noncomputable def b_74 (P : Params) : BT := (.node o_128 (.node o_192 (lF o_328) .nil) (lF o_260))
noncomputable def b_75 (P : Params) : BT := (.node o_120 (.node o_184 (lF o_320) .nil) (lF o_252))
noncomputable def b_76 (P : Params) : BT := (.node o_136 (.node o_200 (lF o_336) .nil) (lF o_268))
noncomputable def b_77 (P : Params) : BT := (.node o_142 (.node o_206 (lF o_342) .nil) (lF o_276))
noncomputable def b_78 (P : Params) : BT := (.node o_126 (.node o_190 (lF o_326) .nil) (lF o_258))
noncomputable def b_79 (P : Params) : BT := (.node o_116 (.node o_182 (lF (o_318 P)) .nil) (lF o_250))
noncomputable def b_80 (P : Params) : BT := (.node o_134 (.node o_198 (lF o_334) .nil) (lF o_266))
noncomputable def b_81 (P : Params) : BT := (.node o_130 (.node o_194 (lF o_330) .nil) (lF o_262))
noncomputable def b_82 (P : Params) : BT := (.node o_122 (.node o_186 (lF o_322) .nil) (lF o_254))
noncomputable def b_83 (P : Params) : BT := (.node o_138 (.node o_202 (lF o_338) .nil) (lF o_270))
noncomputable def b_84 (P : Params) : BT := (.node o_141 (.node o_205 (lF o_341) .nil) (lF (o_275 P)))
noncomputable def b_85 (P : Params) : BT := (.node o_125 (.node o_189 (lF o_325) .nil) (lF o_257))
noncomputable def b_86 (P : Params) : BT := (.node o_115 (.node o_181 (lF o_317) .nil) (lF o_249))
noncomputable def b_87 (P : Params) : BT := (.node o_133 (.node o_197 (lF o_333) .nil) (lF (o_265 P)))
noncomputable def b_88 (P : Params) : BT := (.node o_129 (.node o_193 (lF o_329) .nil) (lF o_261))
noncomputable def b_89 (P : Params) : BT := (.node (o_121 P) (.node o_185 (lF o_321) .nil) (lF o_253))
noncomputable def b_90 (P : Params) : BT := (.node o_137 (.node o_201 (lF o_337) .nil) (lF o_269))
noncomputable def b_91 (P : Params) : BT := (.node o_127 (.node o_191 (lF o_327) .nil) (lF o_259))
noncomputable def b_92 (P : Params) : BT := (.node o_119 (.node o_183 (lF o_319) .nil) (lF (o_251 P)))
noncomputable def b_93 (P : Params) : BT := (.node o_135 (.node o_199 (lF o_335) .nil) (lF o_267))
noncomputable def b_94 (P : Params) : BT := (.node (o_113 P) (.node o_179 (lF o_315) .nil) (lF o_245))
noncomputable def b_95 (P : Params) : BT := (.node o_131 (.node o_195 (lF o_331) .nil) (lF o_263))
noncomputable def b_96 (P : Params) : BT := (.node o_123 (.node o_187 (lF o_323) .nil) (lF o_255))
noncomputable def b_97 (P : Params) : BT := (.node o_139 (.node o_203 (lF o_339) .nil) (lF o_273))
noncomputable def tr_342 (P : Params) : BT := (.node (boot_o_0 P) (.node (boot_o_1 P) (.node (o_294 P) (.node (boot_o_7 P) (.node o_52 (.node o_68 (.node o_106 (.node o_172 (lF o_308) .nil) (lF o_238)) (b_70 P)) (.node o_84 (b_71 P) (b_53 P))) (.node o_60 (.node o_76 (b_72 P) (b_54 P)) (.node o_95 (b_73 P) (.node o_164 (lF o_230) (lF o_300))))) (.node o_43 (.node o_56 (.node o_72 (.node o_110 (.node o_176 (lF o_312) .nil) (lF o_242)) (b_55 P)) (.node o_91 (b_74 P) (.node o_160 (lF o_226) (lF o_296)))) (.node o_64 (.node o_80 (b_75 P) (b_56 P)) (.node o_99 (b_76 P) (.node o_168 (lF o_234) (lF o_304)))))) (.node (boot_o_5 P) (.node (boot_o_9 P) (.node o_54 (.node o_70 (.node o_108 (.node o_174 (lF o_310) .nil) (lF o_240)) (b_77 P)) (.node o_86 (b_78 P) (b_57 P))) (.node o_62 (.node o_78 (b_79 P) (b_58 P)) (.node o_97 (b_80 P) (.node o_166 (lF o_232) (lF o_302))))) (.node o_45 (.node o_58 (.node o_74 (.node o_112 (.node o_178 (lF o_314) .nil) (lF o_244)) (b_59 P)) (.node o_93 (b_81 P) (.node o_162 (lF (o_228 P)) (lF (o_298 P))))) (.node o_66 (.node (o_82 P) (b_82 P) (b_60 P)) (.node o_101 (b_83 P) (.node o_170 (lF o_236) (lF o_306))))))) (.node (o_49 P) (.node (boot_o_4 P) (.node (boot_o_8 P) (.node o_53 (.node o_69 (.node (o_107 P) (.node o_173 (lF o_309) .nil) (lF o_239)) (b_84 P)) (.node o_85 (b_85 P) (b_61 P))) (.node (o_61 P) (.node o_77 (b_86 P) (b_62 P)) (.node o_96 (b_87 P) (.node o_165 (lF o_231) (lF o_301))))) (.node o_295 (.node o_57 (.node o_73 (.node o_111 (.node o_177 (lF o_313) .nil) (lF o_243)) (b_63 P)) (.node (o_92 P) (b_88 P) (.node o_161 (lF o_227) (lF o_297)))) (.node o_65 (.node o_81 (b_89 P) (b_64 P)) (.node o_100 (b_90 P) (.node o_169 (lF o_235) (lF o_305)))))) (.node (boot_o_6 P) (.node (boot_o_10 P) (.node o_55 (.node o_71 (.node o_109 (.node o_175 (lF o_311) .nil) (lF (o_241 P))) (b_65 P)) (.node o_90 (b_91 P) (b_66 P))) (.node o_63 (.node o_79 (b_92 P) (b_67 P)) (.node (o_98 P) (b_93 P) (.node o_167 (lF o_233) (lF o_303))))) (.node o_46 (.node o_59 (.node o_75 (b_94 P) (b_68 P)) (.node o_94 (b_95 P) (.node o_163 (lF o_229) (lF o_299)))) (.node o_67 (.node o_104 (b_96 P) (b_69 P)) (.node o_105 (b_97 P) (.node o_171 (lF o_237) (lF o_307))))))))
noncomputable def o_343 (P : Params) : Obj := ⟨(.type "dict"), none, (.dict (List.toArray [dE P "__name__" 165 (.str "paperhold.objects" 391), dE P "__doc__" 166 .none, dE P "__package__" 167 .none, dE P "__loader__" 168 (.builtin "__main__.__loader__#opaque"), dE P "__spec__" 169 .none, dE P "__annotations__" 170 (.ref 6), dE P "__builtins__" 171 (.ref 4), dE P "__file__" 173 (.str "/claim/cut.py" 172), dE P "__cached__" 174 .none, dE P "_wall" 193 (.ref 21), dE P "PaperError" 235 (.ref 46), dE P "TreeFault" 251 (.ref 59), dE P "DraftFault" 267 (.ref 71), dE P "Decimal" 383 (.ref 167), dE P "sign_text" 390 (.ref 178), dE P "MOST_HOPS" 394 (.int 30 393), dE P "Name" 423 (.ref 195), dE P "String" 454 (.ref 217), dE P "Stream" 485 (.ref 238), dE P "Reference" 523 (.ref 266), dE P "kind_of" 530 (.ref 277), dE P "told_plain" 538 (.ref 284), dE P "told" 544 (.ref 289), dE P "told_objects" 545 (.ref 289), dE P "Lookup" 597 (.ref 321)]) 25), #[]⟩
noncomputable def o_344 : Obj := ⟨.none, none, (.fields (List.toArray [(.int 1 0), (.int 0 0), (.ref 20), (.int 5 0), (.int 0 0), (.ref 27), (.int 14 0), (.int 0 0), (.ref 55), (.int 16 0), (.int 0 0), (.ref 67), (.int 19 0), (.int 0 0), (.ref 79), (.int 64 0), (.int 0 0), (.ref 177), (.int 68 0), (.int 0 0), (.ref 184), (.int 72 0), (.int 0 0), (.ref 205), (.int 77 0), (.int 0 0), (.ref 227), (.int 82 0), (.int 0 0), (.ref 248), (.int 90 0), (.int 0 0), (.ref 276), (.int 112 0), (.int 0 0), (.ref 283), (.int 126 0), (.int 0 0), (.ref 288), (.int 136 0), (.int 0 0), (.ref 295)])), #[]⟩
noncomputable def o_345 : Obj := ⟨(.type "tuple"), none, (.seq #[] 0), #[]⟩
noncomputable def o_346 : Obj := ⟨(.type "builtin_function_or_method"), none, (.fields (List.toArray [(.builtin "type.__prepare__"), (.type "type")])), #[]⟩
noncomputable def o_347 (P : Params) : Obj := ⟨(.type "dict"), none, (.dict (List.toArray [dE P "__module__" 553 (.str "paperhold.objects" 391), dE P "__qualname__" 555 (.str "Lookup" 554), dE P "__firstlineno__" 557 (.int 136 556), dE P "__init__" 566 (.ref 304), dE P "fetch" 578 (.ref 311), dE P "get" 587 (.ref 318), dE P "__static_attributes__" 590 (.ref 319)]) 7), #[]⟩
noncomputable def o_348 : Obj := ⟨(.type "tuple"), none, (.seq #[] 0), #[]⟩
noncomputable def o_349 : Obj := ⟨.none, none, (.fields (List.toArray [(.int 138 0), (.int 4 0), (.ref 303), (.int 142 0), (.int 4 0), (.ref 310), (.int 153 0), (.int 4 0), (.ref 317)])), #[]⟩
noncomputable def o_350 : Obj := ⟨(.type "code"), none, (.fields (List.toArray [(.str "Lookup" 548), (.str "Lookup" 549), (.str "/claim/cut.py" 550), (.int 136 0), (.int 0 0), (.int 0 0), (.int 0 0), (.int 0 0), (.ref 293), (.bool false), (.int 181 0), (.ref 294), .none, .none, .none, .none, (.int 551 0), (.int 136 0), (.str "/claim/cut.py" 552)])), #[]⟩
noncomputable def o_351 : Obj := ⟨(.type "frame"), none, .plain, (List.toArray [(some (.ref 295)), (some (.ref 3)), (some (.ref 292)), none, (some (.str "paperhold.objects" 391)), none, (some (.ref 0))])⟩
noncomputable def o_352 : Obj := ⟨(.type "tuple"), none, (.seq (List.toArray [.none, .none]) 0), #[]⟩
noncomputable def o_353 : Obj := ⟨(.type "tuple"), none, (.seq #[] 0), #[]⟩
noncomputable def o_354 : Obj := ⟨.none, none, (.fields #[]), #[]⟩
noncomputable def o_355 : Obj := ⟨(.type "tuple"), none, (.seq (List.toArray [(.str "self" 561), (.str "table" 562), (.str "trailer" 563)]) 0), #[]⟩
noncomputable def o_356 : Obj := ⟨(.type "tuple"), none, (.seq #[] 0), #[]⟩
noncomputable def o_357 : Obj := ⟨.none, none, (.func ⟨"__init__", "Lookup.__init__", (fPar (meth 18 0)), (.stmts (bodyOf (meth 18 0))), (fSco (meth 18 0)), 0, [], .none, .none, .none, .none, none, .none, .none, 0⟩), #[]⟩
noncomputable def o_358 : Obj := ⟨(.type "code"), none, (.fields (List.toArray [(.str "__init__" 558), (.str "Lookup.__init__" 559), (.str "/claim/cut.py" 560), (.int 138 0), (.int 3 0), (.int 0 0), (.int 0 0), (.int 3 0), (.ref 298), (.bool true), (.int 181 0), (.ref 299), .none, (.ref 300), (.ref 301), (.ref 302), (.int 564 0), (.int 138 0), (.str "/claim/cut.py" 565)])), #[]⟩
noncomputable def o_359 : Obj := ⟨(.type "function"), none, (.func ⟨"__init__", "Lookup.__init__", (fPar (meth 18 0)), (.stmts (bodyOf (meth 18 0))), (fSco (meth 18 0)), 3, [], (.ref 297), .none, .none, (.str "paperhold.objects" 391), none, (.ref 303), .none, 0⟩), #[]⟩
noncomputable def o_360 : Obj := ⟨(.type "tuple"), none, (.seq #[] 0), #[]⟩
noncomputable def o_361 : Obj := ⟨.none, none, (.fields #[]), #[]⟩
noncomputable def o_362 : Obj := ⟨(.type "tuple"), none, (.seq (List.toArray [(.str "self" 570), (.str "value" 571), (.str "here" 572), (.str "hop" 573), (.str "generation" 574), (.str "found" 575)]) 0), #[]⟩
noncomputable def o_363 : Obj := ⟨(.type "tuple"), none, (.seq #[] 0), #[]⟩
noncomputable def o_364 : Obj := ⟨.none, none, (.func ⟨"fetch", "Lookup.fetch", (fPar (meth 18 1)), (.stmts (bodyOf (meth 18 1))), (fSco (meth 18 1)), 0, [], .none, .none, .none, .none, none, .none, .none, 0⟩), #[]⟩
noncomputable def o_365 : Obj := ⟨(.type "code"), none, (.fields (List.toArray [(.str "fetch" 567), (.str "Lookup.fetch" 568), (.str "/claim/cut.py" 569), (.int 142 0), (.int 2 0), (.int 0 0), (.int 0 0), (.int 3 0), (.ref 305), (.bool true), (.int 181 0), (.ref 306), .none, (.ref 307), (.ref 308), (.ref 309), (.int 576 0), (.int 142 0), (.str "/claim/cut.py" 577)])), #[]⟩
noncomputable def o_366 : Obj := ⟨(.type "function"), none, (.func ⟨"fetch", "Lookup.fetch", (fPar (meth 18 1)), (.stmts (bodyOf (meth 18 1))), (fSco (meth 18 1)), 3, [], .none, .none, .none, (.str "paperhold.objects" 391), none, (.ref 310), .none, 0⟩), #[]⟩
noncomputable def o_367 : Obj := ⟨(.type "tuple"), none, (.seq #[] 0), #[]⟩
noncomputable def o_368 : Obj := ⟨.none, none, (.fields #[]), #[]⟩
noncomputable def o_369 : Obj := ⟨(.type "tuple"), none, (.seq (List.toArray [(.str "self" 582), (.str "head" 583), (.str "key" 584)]) 0), #[]⟩
noncomputable def o_370 : Obj := ⟨(.type "tuple"), none, (.seq #[] 0), #[]⟩
noncomputable def o_371 : Obj := ⟨.none, none, (.func ⟨"get", "Lookup.get", (fPar (meth 18 2)), (.stmts (bodyOf (meth 18 2))), (fSco (meth 18 2)), 0, [], .none, .none, .none, .none, none, .none, .none, 0⟩), #[]⟩
noncomputable def o_372 : Obj := ⟨(.type "code"), none, (.fields (List.toArray [(.str "get" 579), (.str "Lookup.get" 580), (.str "/claim/cut.py" 581), (.int 153 0), (.int 3 0), (.int 0 0), (.int 0 0), (.int 3 0), (.ref 312), (.bool true), (.int 181 0), (.ref 313), .none, (.ref 314), (.ref 315), (.ref 316), (.int 585 0), (.int 153 0), (.str "/claim/cut.py" 586)])), #[]⟩
noncomputable def o_373 : Obj := ⟨(.type "function"), none, (.func ⟨"get", "Lookup.get", (fPar (meth 18 2)), (.stmts (bodyOf (meth 18 2))), (fSco (meth 18 2)), 3, [], .none, .none, .none, (.str "paperhold.objects" 391), none, (.ref 317), .none, 0⟩), #[]⟩
noncomputable def o_374 : Obj := ⟨(.type "tuple"), none, (.seq (List.toArray [(.str "table" 588), (.str "trailer" 589)]) 0), #[]⟩
noncomputable def o_375 (P : Params) : Obj := ⟨(.type "dict"), none, (.dict (List.toArray [dE P "__module__" 553 (.str "paperhold.objects" 391), dE P "__firstlineno__" 557 (.int 136 556), dE P "__init__" 566 (.ref 304), dE P "fetch" 578 (.ref 311), dE P "get" 587 (.ref 318), dE P "__static_attributes__" 590 (.ref 319), dE P "__dict__" 592 (.ref 322), dE P "__weakref__" 594 (.ref 323), dE P "__doc__" 595 .none]) 4), #[]⟩
noncomputable def o_376 : Obj := ⟨(.type "type"), none, (.cls ⟨"Lookup", [(.type "object")], [(.ref 321), (.type "object")], 320, "Lookup", true, [], [], false, none, false⟩), (List.toArray [none, none, (some (.str "Lookup" 546)), (some (.str "Lookup" 554)), (some (.builtin "object.__new__")), (some (.bool true))])⟩
noncomputable def o_377 : Obj := ⟨(.type "getset_descriptor"), none, (.fields (List.toArray [(.str "__dict__" 591), (.ref 321), (.builtin "function.__dict__"), (.builtin "function.__dict__#set")])), #[]⟩
noncomputable def o_378 : Obj := ⟨(.type "getset_descriptor"), none, (.fields (List.toArray [(.str "__weakref__" 593), (.ref 321), (.builtin "ExceptionGroup.__weakref__"), .none])), #[]⟩
noncomputable def o_379 : Obj := ⟨(.type "super"), none, (.fields (List.toArray [(.ref 321), (.ref 321), (.ref 321)])), #[]⟩
noncomputable def o_380 : Obj := ⟨(.type "builtin_function_or_method"), none, (.fields (List.toArray [(.builtin "object.__init_subclass__"), (.ref 321)])), #[]⟩
noncomputable def b_98 (P : Params) : BT := (.node o_106 (.node o_172 (lF o_308) .nil) (.node o_238 (lF o_374) .nil))
noncomputable def b_99 (P : Params) : BT := (.node o_110 (.node o_176 (lF o_312) .nil) (.node o_242 (lF o_378) .nil))
noncomputable def b_100 (P : Params) : BT := (.node o_168 (.node o_234 (lF o_370) .nil) (lF o_304))
noncomputable def b_101 (P : Params) : BT := (.node o_112 (.node o_178 (lF o_314) .nil) (.node o_244 (lF o_380) .nil))
noncomputable def b_102 (P : Params) : BT := (.node o_170 (.node o_236 (lF o_372) .nil) (lF o_306))
noncomputable def b_103 (P : Params) : BT := (.node (o_107 P) (.node o_173 (lF o_309) .nil) (.node o_239 (lF (o_375 P)) .nil))
noncomputable def b_104 (P : Params) : BT := (.node o_111 (.node o_177 (lF o_313) .nil) (.node o_243 (lF o_379) .nil))
noncomputable def b_105 (P : Params) : BT := (.node o_169 (.node o_235 (lF o_371) .nil) (lF o_305))
noncomputable def b_106 (P : Params) : BT := (.node o_109 (.node o_175 (lF o_311) .nil) (.node (o_241 P) (lF o_377) .nil))
noncomputable def b_107 (P : Params) : BT := (.node o_167 (.node o_233 (lF o_369) .nil) (lF o_303))
noncomputable def b_108 (P : Params) : BT := (.node o_171 (.node o_237 (lF o_373) .nil) (lF o_307))
noncomputable def tr_380 (P : Params) : BT := (.node (boot_o_0 P) (.node (boot_o_1 P) (.node (o_343 P) (.node (boot_o_7 P) (.node o_52 (.node o_68 (b_98 P) (b_70 P)) (.node o_84 (b_71 P) (.node o_156 (.node o_222 (lF o_358) .nil) (lF o_290)))) (.node o_60 (.node o_76 (b_72 P) (.node o_148 (.node o_212 (lF o_350) .nil) (lF o_282))) (.node o_95 (b_73 P) (.node o_164 (.node o_230 (lF o_366) .nil) (lF o_300))))) (.node o_43 (.node o_56 (.node o_72 (b_99 P) (.node o_144 (.node o_208 (lF o_346) .nil) (lF o_278))) (.node o_91 (b_74 P) (.node o_160 (.node o_226 (lF o_362) .nil) (lF o_296)))) (.node o_64 (.node o_80 (b_75 P) (.node o_152 (.node o_216 (lF o_354) .nil) (lF o_286))) (.node o_99 (b_76 P) (b_100 P))))) (.node (boot_o_5 P) (.node (boot_o_9 P) (.node o_54 (.node o_70 (.node o_108 (.node o_174 (lF o_310) .nil) (.node o_240 (lF o_376) .nil)) (b_77 P)) (.node o_86 (b_78 P) (.node o_158 (.node o_224 (lF o_360) .nil) (lF o_292)))) (.node o_62 (.node o_78 (b_79 P) (.node o_150 (.node o_214 (lF o_352) .nil) (lF o_284))) (.node o_97 (b_80 P) (.node o_166 (.node o_232 (lF o_368) .nil) (lF o_302))))) (.node o_45 (.node o_58 (.node o_74 (b_101 P) (.node o_146 (.node o_210 (lF o_348) .nil) (lF o_280))) (.node o_93 (b_81 P) (.node o_162 (.node (o_228 P) (lF o_364) .nil) (lF (o_298 P))))) (.node o_66 (.node (o_82 P) (b_82 P) (.node o_154 (.node o_220 (lF o_356) .nil) (lF (o_288 P)))) (.node o_101 (b_83 P) (b_102 P)))))) (.node (o_49 P) (.node (boot_o_4 P) (.node (boot_o_8 P) (.node o_53 (.node o_69 (b_103 P) (b_84 P)) (.node o_85 (b_85 P) (.node o_157 (.node o_223 (lF o_359) .nil) (lF o_291)))) (.node (o_61 P) (.node o_77 (b_86 P) (.node o_149 (.node o_213 (lF o_351) .nil) (lF o_283))) (.node o_96 (b_87 P) (.node o_165 (.node o_231 (lF o_367) .nil) (lF o_301))))) (.node o_344 (.node o_57 (.node o_73 (b_104 P) (.node o_145 (.node o_209 (lF (o_347 P)) .nil) (lF o_279))) (.node (o_92 P) (b_88 P) (.node o_161 (.node o_227 (lF o_363) .nil) (lF o_297)))) (.node o_65 (.node o_81 (b_89 P) (.node o_153 (.node o_219 (lF o_355) .nil) (lF o_287))) (.node o_100 (b_90 P) (b_105 P))))) (.node (boot_o_6 P) (.node (boot_o_10 P) (.node o_55 (.node o_71 (b_106 P) (.node o_143 (.node o_207 (lF o_345) .nil) (lF o_277))) (.node o_90 (b_91 P) (.node o_159 (.node o_225 (lF o_361) .nil) (lF o_293)))) (.node o_63 (.node o_79 (b_92 P) (.node o_151 (.node o_215 (lF o_353) .nil) (lF o_285))) (.node (o_98 P) (b_93 P) (b_107 P)))) (.node o_46 (.node o_59 (.node o_75 (b_94 P) (.node o_147 (.node (o_211 P) (lF o_349) .nil) (lF o_281))) (.node o_94 (b_95 P) (.node o_163 (.node o_229 (lF o_365) .nil) (lF o_299)))) (.node o_67 (.node o_104 (b_96 P) (.node o_155 (.node o_221 (lF o_357) .nil) (lF o_289))) (.node o_105 (b_97 P) (b_108 P)))))))
noncomputable def o_381 (P : Params) : Obj := ⟨(.type "dict"), none, (.dict (List.toArray [dE P "__name__" 165 (.str "paperhold.objects" 391), dE P "__doc__" 166 .none, dE P "__package__" 167 .none, dE P "__loader__" 168 (.builtin "__main__.__loader__#opaque"), dE P "__spec__" 169 .none, dE P "__annotations__" 170 (.ref 6), dE P "__builtins__" 171 (.ref 4), dE P "__file__" 173 (.str "/claim/cut.py" 172), dE P "__cached__" 174 .none, dE P "_wall" 193 (.ref 21), dE P "PaperError" 235 (.ref 46), dE P "TreeFault" 251 (.ref 59), dE P "DraftFault" 267 (.ref 71), dE P "Decimal" 383 (.ref 167), dE P "sign_text" 390 (.ref 178), dE P "MOST_HOPS" 394 (.int 30 393), dE P "Name" 423 (.ref 195), dE P "String" 454 (.ref 217), dE P "Stream" 485 (.ref 238), dE P "Reference" 523 (.ref 266), dE P "kind_of" 530 (.ref 277), dE P "told_plain" 538 (.ref 284), dE P "told" 544 (.ref 289), dE P "told_objects" 545 (.ref 289), dE P "Lookup" 597 (.ref 321), dE P "Shelf" 661 (.ref 375)]) 26), #[]⟩
noncomputable def o_382 : Obj := ⟨.none, none, (.fields (List.toArray [(.int 1 0), (.int 0 0), (.ref 20), (.int 5 0), (.int 0 0), (.ref 27), (.int 14 0), (.int 0 0), (.ref 55), (.int 16 0), (.int 0 0), (.ref 67), (.int 19 0), (.int 0 0), (.ref 79), (.int 64 0), (.int 0 0), (.ref 177), (.int 68 0), (.int 0 0), (.ref 184), (.int 72 0), (.int 0 0), (.ref 205), (.int 77 0), (.int 0 0), (.ref 227), (.int 82 0), (.int 0 0), (.ref 248), (.int 90 0), (.int 0 0), (.ref 276), (.int 112 0), (.int 0 0), (.ref 283), (.int 126 0), (.int 0 0), (.ref 288), (.int 136 0), (.int 0 0), (.ref 295), (.int 155 0), (.int 0 0), (.ref 331)])), #[]⟩
noncomputable def o_383 : Obj := ⟨(.type "type"), none, (.cls ⟨"Lookup", [(.type "object")], [(.ref 321), (.type "object")], 320, "Lookup", true, [], [(.ref 375)], false, none, false⟩), (List.toArray [none, none, (some (.str "Lookup" 546)), (some (.str "Lookup" 554)), (some (.builtin "object.__new__")), (some (.bool true))])⟩
noncomputable def o_384 : Obj := ⟨(.type "tuple"), none, (.seq (List.toArray [(.ref 321)]) 0), #[]⟩
noncomputable def o_385 : Obj := ⟨(.type "builtin_function_or_method"), none, (.fields (List.toArray [(.builtin "type.__prepare__"), (.type "type")])), #[]⟩
noncomputable def o_386 (P : Params) : Obj := ⟨(.type "dict"), none, (.dict (List.toArray [dE P "__module__" 605 (.str "paperhold.objects" 391), dE P "__qualname__" 607 (.str "Shelf" 606), dE P "__firstlineno__" 609 (.int 155 608), dE P "put" 619 (.ref 339), dE P "add" 628 (.ref 346), dE P "drop" 636 (.ref 353), dE P "numbers" 643 (.ref 360), dE P "root" 651 (.ref 367), dE P "told" 657 (.ref 372), dE P "__static_attributes__" 658 (.ref 373)]) 10), #[]⟩
noncomputable def o_387 : Obj := ⟨(.type "tuple"), none, (.seq #[] 0), #[]⟩
noncomputable def o_388 : Obj := ⟨.none, none, (.fields (List.toArray [(.int 157 0), (.int 4 0), (.ref 338), (.int 160 0), (.int 4 0), (.ref 345), (.int 167 0), (.int 4 0), (.ref 352), (.int 170 0), (.int 4 0), (.ref 359), (.int 173 0), (.int 4 0), (.ref 366), (.int 177 0), (.int 4 0), (.ref 371)])), #[]⟩
noncomputable def o_389 : Obj := ⟨(.type "code"), none, (.fields (List.toArray [(.str "Shelf" 600), (.str "Shelf" 601), (.str "/claim/cut.py" 602), (.int 155 0), (.int 0 0), (.int 0 0), (.int 0 0), (.int 0 0), (.ref 329), (.bool false), (.int 181 0), (.ref 330), .none, .none, .none, .none, (.int 603 0), (.int 155 0), (.str "/claim/cut.py" 604)])), #[]⟩
noncomputable def o_390 : Obj := ⟨(.type "frame"), none, .plain, (List.toArray [(some (.ref 331)), (some (.ref 3)), (some (.ref 328)), none, (some (.str "paperhold.objects" 391)), none, (some (.ref 0))])⟩
noncomputable def o_391 : Obj := ⟨(.type "tuple"), none, (.seq #[] 0), #[]⟩
noncomputable def o_392 : Obj := ⟨.none, none, (.fields #[]), #[]⟩
noncomputable def o_393 : Obj := ⟨(.type "tuple"), none, (.seq (List.toArray [(.str "self" 613), (.str "number" 614), (.str "generation" 615), (.str "value" 616)]) 0), #[]⟩
noncomputable def o_394 : Obj := ⟨(.type "tuple"), none, (.seq #[] 0), #[]⟩
noncomputable def o_395 : Obj := ⟨.none, none, (.func ⟨"put", "Shelf.put", (fPar (meth 19 0)), (.stmts (bodyOf (meth 19 0))), (fSco (meth 19 0)), 0, [], .none, .none, .none, .none, none, .none, .none, 0⟩), #[]⟩
noncomputable def o_396 : Obj := ⟨(.type "code"), none, (.fields (List.toArray [(.str "put" 610), (.str "Shelf.put" 611), (.str "/claim/cut.py" 612), (.int 157 0), (.int 4 0), (.int 0 0), (.int 0 0), (.int 3 0), (.ref 333), (.bool true), (.int 181 0), (.ref 334), .none, (.ref 335), (.ref 336), (.ref 337), (.int 617 0), (.int 157 0), (.str "/claim/cut.py" 618)])), #[]⟩
noncomputable def o_397 : Obj := ⟨(.type "function"), none, (.func ⟨"put", "Shelf.put", (fPar (meth 19 0)), (.stmts (bodyOf (meth 19 0))), (fSco (meth 19 0)), 3, [], .none, .none, .none, (.str "paperhold.objects" 391), none, (.ref 338), .none, 0⟩), #[]⟩
noncomputable def o_398 : Obj := ⟨(.type "tuple"), none, (.seq #[] 0), #[]⟩
noncomputable def o_399 : Obj := ⟨.none, none, (.fields #[]), #[]⟩
noncomputable def o_400 : Obj := ⟨(.type "tuple"), none, (.seq (List.toArray [(.str "self" 623), (.str "value" 624), (.str "number" 625)]) 0), #[]⟩
noncomputable def o_401 : Obj := ⟨(.type "tuple"), none, (.seq #[] 0), #[]⟩
noncomputable def o_402 : Obj := ⟨.none, none, (.func ⟨"add", "Shelf.add", (fPar (meth 19 1)), (.stmts (bodyOf (meth 19 1))), (fSco (meth 19 1)), 0, [], .none, .none, .none, .none, none, .none, .none, 0⟩), #[]⟩
noncomputable def o_403 : Obj := ⟨(.type "code"), none, (.fields (List.toArray [(.str "add" 620), (.str "Shelf.add" 621), (.str "/claim/cut.py" 622), (.int 160 0), (.int 2 0), (.int 0 0), (.int 0 0), (.int 3 0), (.ref 340), (.bool true), (.int 181 0), (.ref 341), .none, (.ref 342), (.ref 343), (.ref 344), (.int 626 0), (.int 160 0), (.str "/claim/cut.py" 627)])), #[]⟩
noncomputable def o_404 : Obj := ⟨(.type "function"), none, (.func ⟨"add", "Shelf.add", (fPar (meth 19 1)), (.stmts (bodyOf (meth 19 1))), (fSco (meth 19 1)), 3, [], .none, .none, .none, (.str "paperhold.objects" 391), none, (.ref 345), .none, 0⟩), #[]⟩
noncomputable def o_405 : Obj := ⟨(.type "tuple"), none, (.seq #[] 0), #[]⟩
noncomputable def o_406 : Obj := ⟨.none, none, (.fields #[]), #[]⟩
noncomputable def o_407 : Obj := ⟨(.type "tuple"), none, (.seq (List.toArray [(.str "self" 632), (.str "number" 633)]) 0), #[]⟩
noncomputable def o_408 : Obj := ⟨(.type "tuple"), none, (.seq #[] 0), #[]⟩
noncomputable def o_409 : Obj := ⟨.none, none, (.func ⟨"drop", "Shelf.drop", (fPar (meth 19 2)), (.stmts (bodyOf (meth 19 2))), (fSco (meth 19 2)), 0, [], .none, .none, .none, .none, none, .none, .none, 0⟩), #[]⟩
noncomputable def o_410 : Obj := ⟨(.type "code"), none, (.fields (List.toArray [(.str "drop" 629), (.str "Shelf.drop" 630), (.str "/claim/cut.py" 631), (.int 167 0), (.int 2 0), (.int 0 0), (.int 0 0), (.int 3 0), (.ref 347), (.bool true), (.int 181 0), (.ref 348), .none, (.ref 349), (.ref 350), (.ref 351), (.int 634 0), (.int 167 0), (.str "/claim/cut.py" 635)])), #[]⟩
noncomputable def o_411 : Obj := ⟨(.type "function"), none, (.func ⟨"drop", "Shelf.drop", (fPar (meth 19 2)), (.stmts (bodyOf (meth 19 2))), (fSco (meth 19 2)), 3, [], .none, .none, .none, (.str "paperhold.objects" 391), none, (.ref 352), .none, 0⟩), #[]⟩
noncomputable def o_412 : Obj := ⟨(.type "tuple"), none, (.seq #[] 0), #[]⟩
noncomputable def o_413 : Obj := ⟨.none, none, (.fields #[]), #[]⟩
noncomputable def o_414 : Obj := ⟨(.type "tuple"), none, (.seq (List.toArray [(.str "self" 640)]) 0), #[]⟩
noncomputable def o_415 : Obj := ⟨(.type "tuple"), none, (.seq #[] 0), #[]⟩
noncomputable def o_416 : Obj := ⟨.none, none, (.func ⟨"numbers", "Shelf.numbers", (fPar (meth 19 3)), (.stmts (bodyOf (meth 19 3))), (fSco (meth 19 3)), 0, [], .none, .none, .none, .none, none, .none, .none, 0⟩), #[]⟩
noncomputable def o_417 : Obj := ⟨(.type "code"), none, (.fields (List.toArray [(.str "numbers" 637), (.str "Shelf.numbers" 638), (.str "/claim/cut.py" 639), (.int 170 0), (.int 1 0), (.int 0 0), (.int 0 0), (.int 3 0), (.ref 354), (.bool true), (.int 181 0), (.ref 355), .none, (.ref 356), (.ref 357), (.ref 358), (.int 641 0), (.int 170 0), (.str "/claim/cut.py" 642)])), #[]⟩
noncomputable def o_418 : Obj := ⟨(.type "function"), none, (.func ⟨"numbers", "Shelf.numbers", (fPar (meth 19 3)), (.stmts (bodyOf (meth 19 3))), (fSco (meth 19 3)), 3, [], .none, .none, .none, (.str "paperhold.objects" 391), none, (.ref 359), .none, 0⟩), #[]⟩
noncomputable def o_419 : Obj := ⟨(.type "tuple"), none, (.seq #[] 0), #[]⟩
noncomputable def o_420 : Obj := ⟨.none, none, (.fields #[]), #[]⟩
noncomputable def o_421 : Obj := ⟨(.type "tuple"), none, (.seq (List.toArray [(.str "self" 647), (.str "found" 648)]) 0), #[]⟩
noncomputable def o_422 : Obj := ⟨(.type "tuple"), none, (.seq #[] 0), #[]⟩
noncomputable def o_423 : Obj := ⟨.none, none, (.func ⟨"root", "Shelf.root", (fPar (meth 19 4)), (.stmts (bodyOf (meth 19 4))), (fSco (meth 19 4)), 0, [], .none, .none, .none, .none, none, .none, .none, 0⟩), #[]⟩
noncomputable def o_424 : Obj := ⟨(.type "code"), none, (.fields (List.toArray [(.str "root" 644), (.str "Shelf.root" 645), (.str "/claim/cut.py" 646), (.int 173 0), (.int 1 0), (.int 0 0), (.int 0 0), (.int 3 0), (.ref 361), (.bool true), (.int 181 0), (.ref 362), .none, (.ref 363), (.ref 364), (.ref 365), (.int 649 0), (.int 173 0), (.str "/claim/cut.py" 650)])), #[]⟩
noncomputable def o_425 : Obj := ⟨(.type "function"), none, (.func ⟨"root", "Shelf.root", (fPar (meth 19 4)), (.stmts (bodyOf (meth 19 4))), (fSco (meth 19 4)), 3, [], .none, .none, .none, (.str "paperhold.objects" 391), none, (.ref 366), .none, 0⟩), #[]⟩
noncomputable def o_426 : Obj := ⟨(.type "tuple"), none, (.seq #[] 0), #[]⟩
noncomputable def o_427 : Obj := ⟨.none, none, (.fields #[]), #[]⟩
noncomputable def o_428 : Obj := ⟨.none, none, (.func ⟨"told", "Shelf.told", (fPar (meth 19 5)), (.stmts (bodyOf (meth 19 5))), (fSco (meth 19 5)), 0, [], .none, .none, .none, .none, none, .none, .none, 0⟩), #[]⟩
noncomputable def o_429 : Obj := ⟨(.type "code"), none, (.fields (List.toArray [(.str "told" 652), (.str "Shelf.told" 653), (.str "/claim/cut.py" 654), (.int 177 0), (.int 1 0), (.int 0 0), (.int 0 0), (.int 3 0), (.ref 368), (.bool true), (.int 181 0), (.ref 369), .none, .none, .none, (.ref 370), (.int 655 0), (.int 177 0), (.str "/claim/cut.py" 656)])), #[]⟩
noncomputable def o_430 : Obj := ⟨(.type "function"), none, (.func ⟨"told", "Shelf.told", (fPar (meth 19 5)), (.stmts (bodyOf (meth 19 5))), (fSco (meth 19 5)), 3, [], .none, .none, .none, (.str "paperhold.objects" 391), none, (.ref 371), .none, 0⟩), #[]⟩
noncomputable def o_431 : Obj := ⟨(.type "tuple"), none, (.seq #[] 0), #[]⟩
noncomputable def o_432 (P : Params) : Obj := ⟨(.type "dict"), none, (.dict (List.toArray [dE P "__module__" 605 (.str "paperhold.objects" 391), dE P "__firstlineno__" 609 (.int 155 608), dE P "put" 619 (.ref 339), dE P "add" 628 (.ref 346), dE P "drop" 636 (.ref 353), dE P "numbers" 643 (.ref 360), dE P "root" 651 (.ref 367), dE P "told" 657 (.ref 372), dE P "__static_attributes__" 658 (.ref 373), dE P "__doc__" 659 .none]) 2), #[]⟩
noncomputable def o_433 : Obj := ⟨(.type "type"), none, (.cls ⟨"Shelf", [(.ref 321)], [(.ref 375), (.ref 321), (.type "object")], 374, "Shelf", true, [], [], false, none, false⟩), (List.toArray [(some (.ref 326)), none, (some (.str "Shelf" 598)), (some (.str "Shelf" 606)), (some (.builtin "object.__new__")), (some (.bool true))])⟩
noncomputable def o_434 : Obj := ⟨(.type "super"), none, (.fields (List.toArray [(.ref 375), (.ref 375), (.ref 375)])), #[]⟩
noncomputable def o_435 : Obj := ⟨(.type "builtin_function_or_method"), none, (.fields (List.toArray [(.builtin "object.__init_subclass__"), (.ref 375)])), #[]⟩
noncomputable def b_109 (P : Params) : BT := (.node o_164 (.node o_230 (lF o_366) .nil) (.node o_300 (lF o_433) .nil))
noncomputable def b_110 (P : Params) : BT := (.node o_160 (.node o_226 (lF o_362) .nil) (.node o_296 (lF o_429) .nil))
noncomputable def b_111 (P : Params) : BT := (.node o_158 (.node o_224 (lF o_360) .nil) (.node o_292 (lF o_427) .nil))
noncomputable def b_112 (P : Params) : BT := (.node o_166 (.node o_232 (lF o_368) .nil) (.node o_302 (lF o_435) .nil))
noncomputable def b_113 (P : Params) : BT := (.node o_162 (.node (o_228 P) (lF o_364) .nil) (.node (o_298 P) (lF o_431) .nil))
noncomputable def b_114 (P : Params) : BT := (.node o_157 (.node o_223 (lF o_359) .nil) (.node o_291 (lF o_426) .nil))
noncomputable def b_115 (P : Params) : BT := (.node o_165 (.node o_231 (lF o_367) .nil) (.node o_301 (lF o_434) .nil))
noncomputable def b_116 (P : Params) : BT := (.node o_161 (.node o_227 (lF o_363) .nil) (.node o_297 (lF o_430) .nil))
noncomputable def b_117 (P : Params) : BT := (.node o_159 (.node o_225 (lF o_361) .nil) (.node o_293 (lF o_428) .nil))
noncomputable def b_118 (P : Params) : BT := (.node o_163 (.node o_229 (lF o_365) .nil) (.node o_299 (lF (o_432 P)) .nil))
noncomputable def tr_435 (P : Params) : BT := (.node (boot_o_0 P) (.node (boot_o_1 P) (.node (o_381 P) (.node (boot_o_7 P) (.node o_52 (.node o_68 (b_98 P) (.node o_140 (.node o_204 (lF o_340) .nil) (.node o_274 (lF o_409) .nil))) (.node o_84 (.node o_124 (.node o_188 (lF o_324) .nil) (.node o_256 (lF o_393) .nil)) (.node o_156 (.node o_222 (lF o_358) .nil) (.node o_290 (lF o_425) .nil)))) (.node o_60 (.node o_76 (.node o_114 (.node o_180 (lF o_316) .nil) (.node o_246 (lF o_385) .nil)) (.node o_148 (.node o_212 (lF o_350) .nil) (.node o_282 (lF o_417) .nil))) (.node o_95 (.node o_132 (.node o_196 (lF o_332) .nil) (.node o_264 (lF o_401) .nil)) (b_109 P)))) (.node o_43 (.node o_56 (.node o_72 (b_99 P) (.node o_144 (.node o_208 (lF o_346) .nil) (.node o_278 (lF o_413) .nil))) (.node o_91 (.node o_128 (.node o_192 (lF o_328) .nil) (.node o_260 (lF o_397) .nil)) (b_110 P))) (.node o_64 (.node o_80 (.node o_120 (.node o_184 (lF o_320) .nil) (.node o_252 (lF o_389) .nil)) (.node o_152 (.node o_216 (lF o_354) .nil) (.node o_286 (lF o_421) .nil))) (.node o_99 (.node o_136 (.node o_200 (lF o_336) .nil) (.node o_268 (lF o_405) .nil)) (b_100 P))))) (.node (boot_o_5 P) (.node (boot_o_9 P) (.node o_54 (.node o_70 (.node o_108 (.node o_174 (lF o_310) .nil) (.node o_240 (lF o_383) .nil)) (.node o_142 (.node o_206 (lF o_342) .nil) (.node o_276 (lF o_411) .nil))) (.node o_86 (.node o_126 (.node o_190 (lF o_326) .nil) (.node o_258 (lF o_395) .nil)) (b_111 P))) (.node o_62 (.node o_78 (.node o_116 (.node o_182 (lF (o_318 P)) .nil) (.node o_250 (lF o_387) .nil)) (.node o_150 (.node o_214 (lF o_352) .nil) (.node o_284 (lF o_419) .nil))) (.node o_97 (.node o_134 (.node o_198 (lF o_334) .nil) (.node o_266 (lF o_403) .nil)) (b_112 P)))) (.node o_45 (.node o_58 (.node o_74 (b_101 P) (.node o_146 (.node o_210 (lF o_348) .nil) (.node o_280 (lF o_415) .nil))) (.node o_93 (.node o_130 (.node o_194 (lF o_330) .nil) (.node o_262 (lF o_399) .nil)) (b_113 P))) (.node o_66 (.node (o_82 P) (.node o_122 (.node o_186 (lF o_322) .nil) (.node o_254 (lF o_391) .nil)) (.node o_154 (.node o_220 (lF o_356) .nil) (.node (o_288 P) (lF o_423) .nil))) (.node o_101 (.node o_138 (.node o_202 (lF o_338) .nil) (.node o_270 (lF o_407) .nil)) (b_102 P)))))) (.node (o_49 P) (.node (boot_o_4 P) (.node (boot_o_8 P) (.node o_53 (.node o_69 (b_103 P) (.node o_141 (.node o_205 (lF o_341) .nil) (.node (o_275 P) (lF o_410) .nil))) (.node o_85 (.node o_125 (.node o_189 (lF o_325) .nil) (.node o_257 (lF o_394) .nil)) (b_114 P))) (.node (o_61 P) (.node o_77 (.node o_115 (.node o_181 (lF o_317) .nil) (.node o_249 (lF (o_386 P)) .nil)) (.node o_149 (.node o_213 (lF o_351) .nil) (.node o_283 (lF o_418) .nil))) (.node o_96 (.node o_133 (.node o_197 (lF o_333) .nil) (.node (o_265 P) (lF o_402) .nil)) (b_115 P)))) (.node o_382 (.node o_57 (.node o_73 (b_104 P) (.node o_145 (.node o_209 (lF (o_347 P)) .nil) (.node o_279 (lF o_414) .nil))) (.node (o_92 P) (.node o_129 (.node o_193 (lF o_329) .nil) (.node o_261 (lF o_398) .nil)) (b_116 P))) (.node o_65 (.node o_81 (.node (o_121 P) (.node o_185 (lF o_321) .nil) (.node o_253 (lF o_390) .nil)) (.node o_153 (.node o_219 (lF o_355) .nil) (.node o_287 (lF o_422) .nil))) (.node o_100 (.node o_137 (.node o_201 (lF o_337) .nil) (.node o_269 (lF o_406) .nil)) (b_105 P))))) (.node (boot_o_6 P) (.node (boot_o_10 P) (.node o_55 (.node o_71 (b_106 P) (.node o_143 (.node o_207 (lF o_345) .nil) (.node o_277 (lF o_412) .nil))) (.node o_90 (.node o_127 (.node o_191 (lF o_327) .nil) (.node o_259 (lF o_396) .nil)) (b_117 P))) (.node o_63 (.node o_79 (.node o_119 (.node o_183 (lF o_319) .nil) (.node (o_251 P) (lF o_388) .nil)) (.node o_151 (.node o_215 (lF o_353) .nil) (.node o_285 (lF o_420) .nil))) (.node (o_98 P) (.node o_135 (.node o_199 (lF o_335) .nil) (.node o_267 (lF o_404) .nil)) (b_107 P)))) (.node o_46 (.node o_59 (.node o_75 (.node (o_113 P) (.node o_179 (lF o_315) .nil) (.node o_245 (lF o_384) .nil)) (.node o_147 (.node (o_211 P) (lF o_349) .nil) (.node o_281 (lF o_416) .nil))) (.node o_94 (.node o_131 (.node o_195 (lF o_331) .nil) (.node o_263 (lF o_400) .nil)) (b_118 P))) (.node o_67 (.node o_104 (.node o_123 (.node o_187 (lF o_323) .nil) (.node o_255 (lF o_392) .nil)) (.node o_155 (.node o_221 (lF o_357) .nil) (.node o_289 (lF o_424) .nil))) (.node o_105 (.node o_139 (.node o_203 (lF o_339) .nil) (.node o_273 (lF o_408) .nil)) (b_108 P)))))))
noncomputable def o_436 (P : Params) : Obj := ⟨(.type "dict"), none, (.dict (List.toArray [dE P "__name__" 165 (.str "paperhold.layers" 662), dE P "__doc__" 166 .none, dE P "__package__" 167 .none, dE P "__loader__" 168 (.builtin "__main__.__loader__#opaque"), dE P "__spec__" 169 .none, dE P "__annotations__" 170 (.ref 6), dE P "__builtins__" 171 (.ref 4), dE P "__file__" 173 (.str "/claim/cut.py" 172), dE P "__cached__" 174 .none, dE P "_wall" 193 (.ref 21), dE P "PaperError" 235 (.ref 46), dE P "TreeFault" 251 (.ref 59), dE P "DraftFault" 267 (.ref 71), dE P "Decimal" 383 (.ref 167), dE P "sign_text" 390 (.ref 178), dE P "MOST_HOPS" 394 (.int 30 393), dE P "Name" 423 (.ref 195), dE P "String" 454 (.ref 217), dE P "Stream" 485 (.ref 238), dE P "Reference" 523 (.ref 266), dE P "kind_of" 530 (.ref 277), dE P "told_plain" 538 (.ref 284), dE P "told" 544 (.ref 289), dE P "told_objects" 545 (.ref 289), dE P "Lookup" 597 (.ref 321), dE P "Shelf" 661 (.ref 375), dE P "MOST_NESTED" 665 (.int 20 664), dE P "word_at" 676 (.ref 384), dE P "items_at" 686 (.ref 391), dE P "is_group" 695 (.ref 398), dE P "groups_in" 705 (.ref 405), dE P "layer_head" 713 (.ref 412), dE P "group_numbers" 720 (.ref 419), dE P "group_label" 730 (.ref 426), dE P "purposes" 736 (.ref 431)]) 35), #[]⟩
noncomputable def o_437 : Obj := ⟨.none, none, (.fields (List.toArray [(.int 1 0), (.int 0 0), (.ref 20), (.int 5 0), (.int 0 0), (.ref 27), (.int 14 0), (.int 0 0), (.ref 55), (.int 16 0), (.int 0 0), (.ref 67), (.int 19 0), (.int 0 0), (.ref 79), (.int 64 0), (.int 0 0), (.ref 177), (.int 68 0), (.int 0 0), (.ref 184), (.int 72 0), (.int 0 0), (.ref 205), (.int 77 0), (.int 0 0), (.ref 227), (.int 82 0), (.int 0 0), (.ref 248), (.int 90 0), (.int 0 0), (.ref 276), (.int 112 0), (.int 0 0), (.ref 283), (.int 126 0), (.int 0 0), (.ref 288), (.int 136 0), (.int 0 0), (.ref 295), (.int 155 0), (.int 0 0), (.ref 331), (.int 182 0), (.int 0 0), (.ref 383), (.int 185 0), (.int 0 0), (.ref 390), (.int 188 0), (.int 0 0), (.ref 397), (.int 191 0), (.int 0 0), (.ref 404), (.int 197 0), (.int 0 0), (.ref 411), (.int 200 0), (.int 0 0), (.ref 418), (.int 202 0), (.int 0 0), (.ref 425), (.int 206 0), (.int 0 0), (.ref 430)])), #[]⟩
noncomputable def o_438 : Obj := ⟨(.type "tuple"), none, (.seq #[] 0), #[]⟩
noncomputable def o_439 : Obj := ⟨.none, none, (.fields #[]), #[]⟩
noncomputable def o_440 : Obj := ⟨(.type "tuple"), none, (.seq (List.toArray [(.str "shelf" 669), (.str "head" 670), (.str "key" 671), (.str "default" 672), (.str "found" 673)]) 0), #[]⟩
noncomputable def o_441 : Obj := ⟨(.type "tuple"), none, (.seq #[] 0), #[]⟩
noncomputable def o_442 : Obj := ⟨.none, none, (.func ⟨"word_at", "word_at", (fPar (stm 22)), (.stmts (bodyOf (stm 22))), (fSco (stm 22)), 0, [], .none, .none, .none, .none, none, .none, .none, 0⟩), #[]⟩
noncomputable def o_443 : Obj := ⟨(.type "code"), none, (.fields (List.toArray [(.str "word_at" 666), (.str "word_at" 667), (.str "/claim/cut.py" 668), (.int 182 0), (.int 4 0), (.int 0 0), (.int 0 0), (.int 3 0), (.ref 378), (.bool true), (.int 181 0), (.ref 379), .none, (.ref 380), (.ref 381), (.ref 382), (.int 674 0), (.int 182 0), (.str "/claim/cut.py" 675)])), #[]⟩
noncomputable def o_444 : Obj := ⟨(.type "function"), none, (.func ⟨"word_at", "word_at", (fPar (stm 22)), (.stmts (bodyOf (stm 22))), (fSco (stm 22)), 3, [], .none, .none, .none, (.str "paperhold.layers" 662), none, (.ref 383), .none, 0⟩), #[]⟩
noncomputable def o_445 : Obj := ⟨(.type "tuple"), none, (.seq #[] 0), #[]⟩
noncomputable def o_446 : Obj := ⟨.none, none, (.fields #[]), #[]⟩
noncomputable def o_447 : Obj := ⟨(.type "tuple"), none, (.seq (List.toArray [(.str "shelf" 680), (.str "head" 681), (.str "key" 682), (.str "found" 683)]) 0), #[]⟩
noncomputable def o_448 : Obj := ⟨(.type "tuple"), none, (.seq #[] 0), #[]⟩
noncomputable def o_449 : Obj := ⟨.none, none, (.func ⟨"items_at", "items_at", (fPar (stm 23)), (.stmts (bodyOf (stm 23))), (fSco (stm 23)), 0, [], .none, .none, .none, .none, none, .none, .none, 0⟩), #[]⟩
noncomputable def o_450 : Obj := ⟨(.type "code"), none, (.fields (List.toArray [(.str "items_at" 677), (.str "items_at" 678), (.str "/claim/cut.py" 679), (.int 185 0), (.int 3 0), (.int 0 0), (.int 0 0), (.int 3 0), (.ref 385), (.bool true), (.int 181 0), (.ref 386), .none, (.ref 387), (.ref 388), (.ref 389), (.int 684 0), (.int 185 0), (.str "/claim/cut.py" 685)])), #[]⟩
noncomputable def o_451 : Obj := ⟨(.type "function"), none, (.func ⟨"items_at", "items_at", (fPar (stm 23)), (.stmts (bodyOf (stm 23))), (fSco (stm 23)), 3, [], .none, .none, .none, (.str "paperhold.layers" 662), none, (.ref 390), .none, 0⟩), #[]⟩
noncomputable def o_452 : Obj := ⟨(.type "tuple"), none, (.seq #[] 0), #[]⟩
noncomputable def o_453 : Obj := ⟨.none, none, (.fields #[]), #[]⟩
noncomputable def o_454 : Obj := ⟨(.type "tuple"), none, (.seq (List.toArray [(.str "shelf" 690), (.str "value" 691), (.str "found" 692)]) 0), #[]⟩
noncomputable def o_455 : Obj := ⟨(.type "tuple"), none, (.seq #[] 0), #[]⟩
noncomputable def o_456 : Obj := ⟨.none, none, (.func ⟨"is_group", "is_group", (fPar (stm 24)), (.stmts (bodyOf (stm 24))), (fSco (stm 24)), 0, [], .none, .none, .none, .none, none, .none, .none, 0⟩), #[]⟩
noncomputable def o_457 : Obj := ⟨(.type "code"), none, (.fields (List.toArray [(.str "is_group" 687), (.str "is_group" 688), (.str "/claim/cut.py" 689), (.int 188 0), (.int 2 0), (.int 0 0), (.int 0 0), (.int 3 0), (.ref 392), (.bool true), (.int 181 0), (.ref 393), .none, (.ref 394), (.ref 395), (.ref 396), (.int 693 0), (.int 188 0), (.str "/claim/cut.py" 694)])), #[]⟩
noncomputable def o_458 : Obj := ⟨(.type "function"), none, (.func ⟨"is_group", "is_group", (fPar (stm 24)), (.stmts (bodyOf (stm 24))), (fSco (stm 24)), 3, [], .none, .none, .none, (.str "paperhold.layers" 662), none, (.ref 397), .none, 0⟩), #[]⟩
noncomputable def o_459 : Obj := ⟨(.type "tuple"), none, (.seq #[] 0), #[]⟩
noncomputable def o_460 : Obj := ⟨.none, none, (.fields #[]), #[]⟩
noncomputable def o_461 : Obj := ⟨(.type "tuple"), none, (.seq (List.toArray [(.str "shelf" 699), (.str "items" 700), (.str "found" 701), (.str "item" 702)]) 0), #[]⟩
noncomputable def o_462 : Obj := ⟨(.type "tuple"), none, (.seq #[] 0), #[]⟩
noncomputable def o_463 : Obj := ⟨.none, none, (.func ⟨"groups_in", "groups_in", (fPar (stm 25)), (.stmts (bodyOf (stm 25))), (fSco (stm 25)), 0, [], .none, .none, .none, .none, none, .none, .none, 0⟩), #[]⟩
noncomputable def o_464 : Obj := ⟨(.type "code"), none, (.fields (List.toArray [(.str "groups_in" 696), (.str "groups_in" 697), (.str "/claim/cut.py" 698), (.int 191 0), (.int 2 0), (.int 0 0), (.int 0 0), (.int 3 0), (.ref 399), (.bool true), (.int 181 0), (.ref 400), .none, (.ref 401), (.ref 402), (.ref 403), (.int 703 0), (.int 191 0), (.str "/claim/cut.py" 704)])), #[]⟩
noncomputable def o_465 : Obj := ⟨(.type "function"), none, (.func ⟨"groups_in", "groups_in", (fPar (stm 25)), (.stmts (bodyOf (stm 25))), (fSco (stm 25)), 3, [], .none, .none, .none, (.str "paperhold.layers" 662), none, (.ref 404), .none, 0⟩), #[]⟩
noncomputable def o_466 : Obj := ⟨(.type "tuple"), none, (.seq #[] 0), #[]⟩
noncomputable def o_467 : Obj := ⟨.none, none, (.fields #[]), #[]⟩
noncomputable def o_468 : Obj := ⟨(.type "tuple"), none, (.seq (List.toArray [(.str "shelf" 709), (.str "found" 710)]) 0), #[]⟩
noncomputable def o_469 : Obj := ⟨(.type "tuple"), none, (.seq #[] 0), #[]⟩
noncomputable def o_470 : Obj := ⟨.none, none, (.func ⟨"layer_head", "layer_head", (fPar (stm 26)), (.stmts (bodyOf (stm 26))), (fSco (stm 26)), 0, [], .none, .none, .none, .none, none, .none, .none, 0⟩), #[]⟩
noncomputable def o_471 : Obj := ⟨(.type "code"), none, (.fields (List.toArray [(.str "layer_head" 706), (.str "layer_head" 707), (.str "/claim/cut.py" 708), (.int 197 0), (.int 1 0), (.int 0 0), (.int 0 0), (.int 3 0), (.ref 406), (.bool true), (.int 181 0), (.ref 407), .none, (.ref 408), (.ref 409), (.ref 410), (.int 711 0), (.int 197 0), (.str "/claim/cut.py" 712)])), #[]⟩
noncomputable def o_472 : Obj := ⟨(.type "function"), none, (.func ⟨"layer_head", "layer_head", (fPar (stm 26)), (.stmts (bodyOf (stm 26))), (fSco (stm 26)), 3, [], .none, .none, .none, (.str "paperhold.layers" 662), none, (.ref 411), .none, 0⟩), #[]⟩
noncomputable def o_473 : Obj := ⟨(.type "tuple"), none, (.seq #[] 0), #[]⟩
noncomputable def o_474 : Obj := ⟨.none, none, (.fields #[]), #[]⟩
noncomputable def o_475 : Obj := ⟨(.type "tuple"), none, (.seq (List.toArray [(.str "shelf" 717)]) 0), #[]⟩
noncomputable def o_476 : Obj := ⟨(.type "tuple"), none, (.seq #[] 0), #[]⟩
noncomputable def o_477 : Obj := ⟨.none, none, (.func ⟨"group_numbers", "group_numbers", (fPar (stm 27)), (.stmts (bodyOf (stm 27))), (fSco (stm 27)), 0, [], .none, .none, .none, .none, none, .none, .none, 0⟩), #[]⟩
noncomputable def o_478 : Obj := ⟨(.type "code"), none, (.fields (List.toArray [(.str "group_numbers" 714), (.str "group_numbers" 715), (.str "/claim/cut.py" 716), (.int 200 0), (.int 1 0), (.int 0 0), (.int 0 0), (.int 3 0), (.ref 413), (.bool true), (.int 181 0), (.ref 414), .none, (.ref 415), (.ref 416), (.ref 417), (.int 718 0), (.int 200 0), (.str "/claim/cut.py" 719)])), #[]⟩
noncomputable def o_479 : Obj := ⟨(.type "function"), none, (.func ⟨"group_numbers", "group_numbers", (fPar (stm 27)), (.stmts (bodyOf (stm 27))), (fSco (stm 27)), 3, [], .none, .none, .none, (.str "paperhold.layers" 662), none, (.ref 418), .none, 0⟩), #[]⟩
noncomputable def o_480 : Obj := ⟨(.type "tuple"), none, (.seq #[] 0), #[]⟩
noncomputable def o_481 : Obj := ⟨.none, none, (.fields #[]), #[]⟩
noncomputable def o_482 : Obj := ⟨(.type "tuple"), none, (.seq (List.toArray [(.str "shelf" 724), (.str "number" 725), (.str "head" 726), (.str "label" 727)]) 0), #[]⟩
noncomputable def o_483 : Obj := ⟨(.type "tuple"), none, (.seq #[] 0), #[]⟩
noncomputable def o_484 : Obj := ⟨.none, none, (.func ⟨"group_label", "group_label", (fPar (stm 28)), (.stmts (bodyOf (stm 28))), (fSco (stm 28)), 0, [], .none, .none, .none, .none, none, .none, .none, 0⟩), #[]⟩
noncomputable def o_485 : Obj := ⟨(.type "code"), none, (.fields (List.toArray [(.str "group_label" 721), (.str "group_label" 722), (.str "/claim/cut.py" 723), (.int 202 0), (.int 2 0), (.int 0 0), (.int 0 0), (.int 3 0), (.ref 420), (.bool true), (.int 181 0), (.ref 421), .none, (.ref 422), (.ref 423), (.ref 424), (.int 728 0), (.int 202 0), (.str "/claim/cut.py" 729)])), #[]⟩
noncomputable def o_486 : Obj := ⟨(.type "function"), none, (.func ⟨"group_label", "group_label", (fPar (stm 28)), (.stmts (bodyOf (stm 28))), (fSco (stm 28)), 3, [], .none, .none, .none, (.str "paperhold.layers" 662), none, (.ref 425), .none, 0⟩), #[]⟩
noncomputable def o_487 : Obj := ⟨(.type "tuple"), none, (.seq #[] 0), #[]⟩
noncomputable def o_488 : Obj := ⟨.none, none, (.fields #[]), #[]⟩
noncomputable def o_489 : Obj := ⟨.none, none, (.func ⟨"purposes", "purposes", (fPar (stm 29)), (.stmts (bodyOf (stm 29))), (fSco (stm 29)), 0, [], .none, .none, .none, .none, none, .none, .none, 0⟩), #[]⟩
noncomputable def o_490 : Obj := ⟨(.type "code"), none, (.fields (List.toArray [(.str "purposes" 731), (.str "purposes" 732), (.str "/claim/cut.py" 733), (.int 206 0), (.int 2 0), (.int 0 0), (.int 0 0), (.int 3 0), (.ref 427), (.bool true), (.int 181 0), (.ref 428), .none, .none, .none, (.ref 429), (.int 734 0), (.int 206 0), (.str "/claim/cut.py" 735)])), #[]⟩
noncomputable def o_491 : Obj := ⟨(.type "function"), none, (.func ⟨"purposes", "purposes", (fPar (stm 29)), (.stmts (bodyOf (stm 29))), (fSco (stm 29)), 3, [], .none, .none, .none, (.str "paperhold.layers" 662), none, (.ref 430), .none, 0⟩), #[]⟩
noncomputable def b_119 (P : Params) : BT := (.node o_172 (lF o_308) (lF o_443))
noncomputable def b_120 (P : Params) : BT := (.node o_204 (lF o_340) (lF o_475))
noncomputable def b_121 (P : Params) : BT := (.node o_188 (lF o_324) (lF o_459))
noncomputable def b_122 (P : Params) : BT := (.node o_222 (lF o_358) (lF o_491))
noncomputable def b_123 (P : Params) : BT := (.node o_156 (b_122 P) (.node o_290 (lF o_425) .nil))
noncomputable def b_124 (P : Params) : BT := (.node o_180 (lF o_316) (lF o_451))
noncomputable def b_125 (P : Params) : BT := (.node o_212 (lF o_350) (lF o_483))
noncomputable def b_126 (P : Params) : BT := (.node o_148 (b_125 P) (.node o_282 (lF o_417) .nil))
noncomputable def b_127 (P : Params) : BT := (.node o_196 (lF o_332) (lF o_467))
noncomputable def b_128 (P : Params) : BT := (.node o_176 (lF o_312) (lF o_447))
noncomputable def b_129 (P : Params) : BT := (.node o_208 (lF o_346) (lF o_479))
noncomputable def b_130 (P : Params) : BT := (.node o_192 (lF o_328) (lF o_463))
noncomputable def b_131 (P : Params) : BT := (.node o_184 (lF o_320) (lF o_455))
noncomputable def b_132 (P : Params) : BT := (.node o_216 (lF o_354) (lF o_487))
noncomputable def b_133 (P : Params) : BT := (.node o_152 (b_132 P) (.node o_286 (lF o_421) .nil))
noncomputable def b_134 (P : Params) : BT := (.node o_200 (lF o_336) (lF o_471))
noncomputable def b_135 (P : Params) : BT := (.node o_174 (lF o_310) (lF o_445))
noncomputable def b_136 (P : Params) : BT := (.node o_206 (lF o_342) (lF o_477))
noncomputable def b_137 (P : Params) : BT := (.node o_190 (lF o_326) (lF o_461))
noncomputable def b_138 (P : Params) : BT := (.node o_182 (lF (o_318 P)) (lF o_453))
noncomputable def b_139 (P : Params) : BT := (.node o_214 (lF o_352) (lF o_485))
noncomputable def b_140 (P : Params) : BT := (.node o_150 (b_139 P) (.node o_284 (lF o_419) .nil))
noncomputable def b_141 (P : Params) : BT := (.node o_198 (lF o_334) (lF o_469))
noncomputable def b_142 (P : Params) : BT := (.node o_178 (lF o_314) (lF o_449))
noncomputable def b_143 (P : Params) : BT := (.node o_210 (lF o_348) (lF o_481))
noncomputable def b_144 (P : Params) : BT := (.node o_146 (b_143 P) (.node o_280 (lF o_415) .nil))
noncomputable def b_145 (P : Params) : BT := (.node o_194 (lF o_330) (lF o_465))
noncomputable def b_146 (P : Params) : BT := (.node o_186 (lF o_322) (lF o_457))
noncomputable def b_147 (P : Params) : BT := (.node o_220 (lF o_356) (lF o_489))
noncomputable def b_148 (P : Params) : BT := (.node o_154 (b_147 P) (.node (o_288 P) (lF o_423) .nil))
noncomputable def b_149 (P : Params) : BT := (.node o_202 (lF o_338) (lF o_473))
noncomputable def b_150 (P : Params) : BT := (.node o_173 (lF o_309) (lF o_444))
noncomputable def b_151 (P : Params) : BT := (.node o_205 (lF o_341) (lF o_476))
noncomputable def b_152 (P : Params) : BT := (.node o_189 (lF o_325) (lF o_460))
noncomputable def b_153 (P : Params) : BT := (.node o_181 (lF o_317) (lF o_452))
noncomputable def b_154 (P : Params) : BT := (.node o_213 (lF o_351) (lF o_484))
noncomputable def b_155 (P : Params) : BT := (.node o_149 (b_154 P) (.node o_283 (lF o_418) .nil))
noncomputable def b_156 (P : Params) : BT := (.node o_197 (lF o_333) (lF o_468))
noncomputable def b_157 (P : Params) : BT := (.node o_177 (lF o_313) (lF o_448))
noncomputable def b_158 (P : Params) : BT := (.node o_209 (lF (o_347 P)) (lF o_480))
noncomputable def b_159 (P : Params) : BT := (.node o_193 (lF o_329) (lF o_464))
noncomputable def b_160 (P : Params) : BT := (.node o_185 (lF o_321) (lF o_456))
noncomputable def b_161 (P : Params) : BT := (.node o_219 (lF o_355) (lF o_488))
noncomputable def b_162 (P : Params) : BT := (.node o_153 (b_161 P) (.node o_287 (lF o_422) .nil))
noncomputable def b_163 (P : Params) : BT := (.node o_201 (lF o_337) (lF o_472))
noncomputable def b_164 (P : Params) : BT := (.node o_175 (lF o_311) (lF o_446))
noncomputable def b_165 (P : Params) : BT := (.node o_207 (lF o_345) (lF o_478))
noncomputable def b_166 (P : Params) : BT := (.node o_191 (lF o_327) (lF o_462))
noncomputable def b_167 (P : Params) : BT := (.node o_183 (lF o_319) (lF o_454))
noncomputable def b_168 (P : Params) : BT := (.node o_215 (lF o_353) (lF o_486))
noncomputable def b_169 (P : Params) : BT := (.node o_151 (b_168 P) (.node o_285 (lF o_420) .nil))
noncomputable def b_170 (P : Params) : BT := (.node o_199 (lF o_335) (lF o_470))
noncomputable def b_171 (P : Params) : BT := (.node o_179 (lF o_315) (lF o_450))
noncomputable def b_172 (P : Params) : BT := (.node (o_211 P) (lF o_349) (lF o_482))
noncomputable def b_173 (P : Params) : BT := (.node o_147 (b_172 P) (.node o_281 (lF o_416) .nil))
noncomputable def b_174 (P : Params) : BT := (.node o_195 (lF o_331) (lF o_466))
noncomputable def b_175 (P : Params) : BT := (.node o_187 (lF o_323) (lF o_458))
noncomputable def b_176 (P : Params) : BT := (.node o_221 (lF o_357) (lF o_490))
noncomputable def b_177 (P : Params) : BT := (.node o_155 (b_176 P) (.node o_289 (lF o_424) .nil))
noncomputable def b_178 (P : Params) : BT := (.node o_203 (lF o_339) (lF o_474))
noncomputable def tr_491 (P : Params) : BT := (.node (boot_o_0 P) (.node (boot_o_1 P) (.node (o_436 P) (.node (boot_o_7 P) (.node o_52 (.node o_68 (.node o_106 (b_119 P) (.node o_238 (lF o_374) .nil)) (.node o_140 (b_120 P) (.node o_274 (lF o_409) .nil))) (.node o_84 (.node o_124 (b_121 P) (.node o_256 (lF o_393) .nil)) (b_123 P))) (.node o_60 (.node o_76 (.node o_114 (b_124 P) (.node o_246 (lF o_385) .nil)) (b_126 P)) (.node o_95 (.node o_132 (b_127 P) (.node o_264 (lF o_401) .nil)) (b_109 P)))) (.node o_43 (.node o_56 (.node o_72 (.node o_110 (b_128 P) (.node o_242 (lF o_378) .nil)) (.node o_144 (b_129 P) (.node o_278 (lF o_413) .nil))) (.node o_91 (.node o_128 (b_130 P) (.node o_260 (lF o_397) .nil)) (b_110 P))) (.node o_64 (.node o_80 (.node o_120 (b_131 P) (.node o_252 (lF o_389) .nil)) (b_133 P)) (.node o_99 (.node o_136 (b_134 P) (.node o_268 (lF o_405) .nil)) (.node o_168 (.node o_234 (lF o_370) .nil) (.node o_304 (lF o_439) .nil)))))) (.node (boot_o_5 P) (.node (boot_o_9 P) (.node o_54 (.node o_70 (.node o_108 (b_135 P) (.node o_240 (lF o_383) .nil)) (.node o_142 (b_136 P) (.node o_276 (lF o_411) .nil))) (.node o_86 (.node o_126 (b_137 P) (.node o_258 (lF o_395) .nil)) (b_111 P))) (.node o_62 (.node o_78 (.node o_116 (b_138 P) (.node o_250 (lF o_387) .nil)) (b_140 P)) (.node o_97 (.node o_134 (b_141 P) (.node o_266 (lF o_403) .nil)) (b_112 P)))) (.node o_45 (.node o_58 (.node o_74 (.node o_112 (b_142 P) (.node o_244 (lF o_380) .nil)) (b_144 P)) (.node o_93 (.node o_130 (b_145 P) (.node o_262 (lF o_399) .nil)) (b_113 P))) (.node o_66 (.node (o_82 P) (.node o_122 (b_146 P) (.node o_254 (lF o_391) .nil)) (b_148 P)) (.node o_101 (.node o_138 (b_149 P) (.node o_270 (lF o_407) .nil)) (.node o_170 (.node o_236 (lF o_372) .nil) (.node o_306 (lF o_441) .nil))))))) (.node (o_49 P) (.node (boot_o_4 P) (.node (boot_o_8 P) (.node o_53 (.node o_69 (.node (o_107 P) (b_150 P) (.node o_239 (lF (o_375 P)) .nil)) (.node o_141 (b_151 P) (.node (o_275 P) (lF o_410) .nil))) (.node o_85 (.node o_125 (b_152 P) (.node o_257 (lF o_394) .nil)) (b_114 P))) (.node (o_61 P) (.node o_77 (.node o_115 (b_153 P) (.node o_249 (lF (o_386 P)) .nil)) (b_155 P)) (.node o_96 (.node o_133 (b_156 P) (.node (o_265 P) (lF o_402) .nil)) (b_115 P)))) (.node o_437 (.node o_57 (.node o_73 (.node o_111 (b_157 P) (.node o_243 (lF o_379) .nil)) (.node o_145 (b_158 P) (.node o_279 (lF o_414) .nil))) (.node (o_92 P) (.node o_129 (b_159 P) (.node o_261 (lF o_398) .nil)) (b_116 P))) (.node o_65 (.node o_81 (.node (o_121 P) (b_160 P) (.node o_253 (lF o_390) .nil)) (b_162 P)) (.node o_100 (.node o_137 (b_163 P) (.node o_269 (lF o_406) .nil)) (.node o_169 (.node o_235 (lF o_371) .nil) (.node o_305 (lF o_440) .nil)))))) (.node (boot_o_6 P) (.node (boot_o_10 P) (.node o_55 (.node o_71 (.node o_109 (b_164 P) (.node (o_241 P) (lF o_377) .nil)) (.node o_143 (b_165 P) (.node o_277 (lF o_412) .nil))) (.node o_90 (.node o_127 (b_166 P) (.node o_259 (lF o_396) .nil)) (b_117 P))) (.node o_63 (.node o_79 (.node o_119 (b_167 P) (.node (o_251 P) (lF o_388) .nil)) (b_169 P)) (.node (o_98 P) (.node o_135 (b_170 P) (.node o_267 (lF o_404) .nil)) (.node o_167 (.node o_233 (lF o_369) .nil) (.node o_303 (lF o_438) .nil))))) (.node o_46 (.node o_59 (.node o_75 (.node (o_113 P) (b_171 P) (.node o_245 (lF o_384) .nil)) (b_173 P)) (.node o_94 (.node o_131 (b_174 P) (.node o_263 (lF o_400) .nil)) (b_118 P))) (.node o_67 (.node o_104 (.node o_123 (b_175 P) (.node o_255 (lF o_392) .nil)) (b_177 P)) (.node o_105 (.node o_139 (b_178 P) (.node o_273 (lF o_408) .nil)) (.node o_171 (.node o_237 (lF o_373) .nil) (.node o_307 (lF o_442) .nil))))))))
noncomputable def o_492 (P : Params) : Obj := ⟨(.type "dict"), none, (.dict (List.toArray [dE P "__name__" 165 (.str "paperhold.layers" 662), dE P "__doc__" 166 .none, dE P "__package__" 167 .none, dE P "__loader__" 168 (.builtin "__main__.__loader__#opaque"), dE P "__spec__" 169 .none, dE P "__annotations__" 170 (.ref 6), dE P "__builtins__" 171 (.ref 4), dE P "__file__" 173 (.str "/claim/cut.py" 172), dE P "__cached__" 174 .none, dE P "_wall" 193 (.ref 21), dE P "PaperError" 235 (.ref 46), dE P "TreeFault" 251 (.ref 59), dE P "DraftFault" 267 (.ref 71), dE P "Decimal" 383 (.ref 167), dE P "sign_text" 390 (.ref 178), dE P "MOST_HOPS" 394 (.int 30 393), dE P "Name" 423 (.ref 195), dE P "String" 454 (.ref 217), dE P "Stream" 485 (.ref 238), dE P "Reference" 523 (.ref 266), dE P "kind_of" 530 (.ref 277), dE P "told_plain" 538 (.ref 284), dE P "told" 544 (.ref 289), dE P "told_objects" 545 (.ref 289), dE P "Lookup" 597 (.ref 321), dE P "Shelf" 661 (.ref 375), dE P "MOST_NESTED" 665 (.int 20 664), dE P "word_at" 676 (.ref 384), dE P "items_at" 686 (.ref 391), dE P "is_group" 695 (.ref 398), dE P "groups_in" 705 (.ref 405), dE P "layer_head" 713 (.ref 412), dE P "group_numbers" 720 (.ref 419), dE P "group_label" 730 (.ref 426), dE P "purposes" 736 (.ref 431), dE P "Configuration" 777 (.ref 448), dE P "configuration_of" 783 (.ref 457), dE P "configuration" 791 (.ref 463), dE P "starting_states" 804 (.ref 471), dE P "crowded_rows" 810 (.ref 476), dE P "order_rows" 823 (.ref 484)]) 41), #[]⟩
noncomputable def o_493 : Obj := ⟨.none, none, (.fields (List.toArray [(.int 1 0), (.int 0 0), (.ref 20), (.int 5 0), (.int 0 0), (.ref 27), (.int 14 0), (.int 0 0), (.ref 55), (.int 16 0), (.int 0 0), (.ref 67), (.int 19 0), (.int 0 0), (.ref 79), (.int 64 0), (.int 0 0), (.ref 177), (.int 68 0), (.int 0 0), (.ref 184), (.int 72 0), (.int 0 0), (.ref 205), (.int 77 0), (.int 0 0), (.ref 227), (.int 82 0), (.int 0 0), (.ref 248), (.int 90 0), (.int 0 0), (.ref 276), (.int 112 0), (.int 0 0), (.ref 283), (.int 126 0), (.int 0 0), (.ref 288), (.int 136 0), (.int 0 0), (.ref 295), (.int 155 0), (.int 0 0), (.ref 331), (.int 182 0), (.int 0 0), (.ref 383), (.int 185 0), (.int 0 0), (.ref 390), (.int 188 0), (.int 0 0), (.ref 397), (.int 191 0), (.int 0 0), (.ref 404), (.int 197 0), (.int 0 0), (.ref 411), (.int 200 0), (.int 0 0), (.ref 418), (.int 202 0), (.int 0 0), (.ref 425), (.int 206 0), (.int 0 0), (.ref 430), (.int 213 0), (.int 0 0), (.ref 437), (.int 223 0), (.int 0 0), (.ref 456), (.int 226 0), (.int 0 0), (.ref 462), (.int 234 0), (.int 0 0), (.ref 470), (.int 246 0), (.int 0 0), (.ref 475), (.int 252 0), (.int 0 0), (.ref 483)])), #[]⟩
noncomputable def o_494 : Obj := ⟨(.type "tuple"), none, (.seq #[] 0), #[]⟩
noncomputable def o_495 : Obj := ⟨(.type "builtin_function_or_method"), none, (.fields (List.toArray [(.builtin "type.__prepare__"), (.type "type")])), #[]⟩
noncomputable def o_496 (P : Params) : Obj := ⟨(.type "dict"), none, (.dict (List.toArray [dE P "__module__" 744 (.str "paperhold.layers" 662), dE P "__qualname__" 746 (.str "Configuration" 745), dE P "__firstlineno__" 748 (.int 213 747), dE P "__init__" 762 (.ref 445), dE P "__static_attributes__" 770 (.ref 446)]) 5), #[]⟩
noncomputable def o_497 : Obj := ⟨(.type "tuple"), none, (.seq #[] 0), #[]⟩
noncomputable def o_498 : Obj := ⟨.none, none, (.fields (List.toArray [(.int 215 0), (.int 4 0), (.ref 444)])), #[]⟩
noncomputable def o_499 : Obj := ⟨(.type "code"), none, (.fields (List.toArray [(.str "Configuration" 739), (.str "Configuration" 740), (.str "/claim/cut.py" 741), (.int 213 0), (.int 0 0), (.int 0 0), (.int 0 0), (.int 0 0), (.ref 435), (.bool false), (.int 181 0), (.ref 436), .none, .none, .none, .none, (.int 742 0), (.int 213 0), (.str "/claim/cut.py" 743)])), #[]⟩
noncomputable def o_500 : Obj := ⟨(.type "frame"), none, .plain, (List.toArray [(some (.ref 437)), (some (.ref 3)), (some (.ref 434)), none, (some (.str "paperhold.layers" 662)), none, (some (.ref 0))])⟩
noncomputable def o_501 : Obj := ⟨(.type "tuple"), none, (.seq #[] 0), #[]⟩
noncomputable def o_502 : Obj := ⟨.none, none, (.fields #[]), #[]⟩
noncomputable def o_503 : Obj := ⟨(.type "tuple"), none, (.seq (List.toArray [(.str "self" 752), (.str "base" 753), (.str "on" 754), (.str "off" 755), (.str "radio" 756), (.str "locked" 757), (.str "order" 758), (.str "words" 759)]) 0), #[]⟩
noncomputable def o_504 : Obj := ⟨(.type "tuple"), none, (.seq #[] 0), #[]⟩
noncomputable def o_505 : Obj := ⟨.none, none, (.func ⟨"__init__", "Configuration.__init__", (fPar (meth 30 0)), (.stmts (bodyOf (meth 30 0))), (fSco (meth 30 0)), 0, [], .none, .none, .none, .none, none, .none, .none, 0⟩), #[]⟩
noncomputable def o_506 : Obj := ⟨(.type "code"), none, (.fields (List.toArray [(.str "__init__" 749), (.str "Configuration.__init__" 750), (.str "/claim/cut.py" 751), (.int 215 0), (.int 8 0), (.int 0 0), (.int 0 0), (.int 3 0), (.ref 439), (.bool true), (.int 181 0), (.ref 440), .none, (.ref 441), (.ref 442), (.ref 443), (.int 760 0), (.int 215 0), (.str "/claim/cut.py" 761)])), #[]⟩
noncomputable def o_507 : Obj := ⟨(.type "function"), none, (.func ⟨"__init__", "Configuration.__init__", (fPar (meth 30 0)), (.stmts (bodyOf (meth 30 0))), (fSco (meth 30 0)), 3, [], .none, .none, .none, (.str "paperhold.layers" 662), none, (.ref 444), .none, 0⟩), #[]⟩
noncomputable def o_508 : Obj := ⟨(.type "tuple"), none, (.seq (List.toArray [(.str "base" 763), (.str "locked" 764), (.str "off" 765), (.str "on" 766), (.str "order" 767), (.str "radio" 768), (.str "words" 769)]) 0), #[]⟩
noncomputable def o_509 (P : Params) : Obj := ⟨(.type "dict"), none, (.dict (List.toArray [dE P "__module__" 744 (.str "paperhold.layers" 662), dE P "__firstlineno__" 748 (.int 213 747), dE P "__init__" 762 (.ref 445), dE P "__static_attributes__" 770 (.ref 446), dE P "__dict__" 772 (.ref 449), dE P "__weakref__" 774 (.ref 450), dE P "__doc__" 775 .none]) 4), #[]⟩
noncomputable def o_510 : Obj := ⟨(.type "type"), none, (.cls ⟨"Configuration", [(.type "object")], [(.ref 448), (.type "object")], 447, "Configuration", true, [], [], false, none, false⟩), (List.toArray [none, none, (some (.str "Configuration" 737)), (some (.str "Configuration" 745)), (some (.builtin "object.__new__")), (some (.bool true))])⟩
noncomputable def o_511 : Obj := ⟨(.type "getset_descriptor"), none, (.fields (List.toArray [(.str "__dict__" 771), (.ref 448), (.builtin "function.__dict__"), (.builtin "function.__dict__#set")])), #[]⟩
noncomputable def o_512 : Obj := ⟨(.type "getset_descriptor"), none, (.fields (List.toArray [(.str "__weakref__" 773), (.ref 448), (.builtin "ExceptionGroup.__weakref__"), .none])), #[]⟩
noncomputable def o_513 : Obj := ⟨(.type "super"), none, (.fields (List.toArray [(.ref 448), (.ref 448), (.ref 448)])), #[]⟩
noncomputable def o_514 : Obj := ⟨(.type "builtin_function_or_method"), none, (.fields (List.toArray [(.builtin "object.__init_subclass__"), (.ref 448)])), #[]⟩
noncomputable def o_515 : Obj := ⟨(.type "tuple"), none, (.seq #[] 0), #[]⟩
noncomputable def o_516 : Obj := ⟨.none, none, (.fields #[]), #[]⟩
noncomputable def o_517 : Obj := ⟨.none, none, (.func ⟨"configuration_of", "configuration_of", (fPar (stm 31)), (.stmts (bodyOf (stm 31))), (fSco (stm 31)), 0, [], .none, .none, .none, .none, none, .none, .none, 0⟩), #[]⟩
noncomputable def o_518 : Obj := ⟨(.type "code"), none, (.fields (List.toArray [(.str "configuration_of" 778), (.str "configuration_of" 779), (.str "/claim/cut.py" 780), (.int 223 0), (.int 2 0), (.int 0 0), (.int 0 0), (.int 3 0), (.ref 453), (.bool true), (.int 181 0), (.ref 454), .none, .none, .none, (.ref 455), (.int 781 0), (.int 223 0), (.str "/claim/cut.py" 782)])), #[]⟩
noncomputable def o_519 : Obj := ⟨(.type "function"), none, (.func ⟨"configuration_of", "configuration_of", (fPar (stm 31)), (.stmts (bodyOf (stm 31))), (fSco (stm 31)), 3, [], .none, .none, .none, (.str "paperhold.layers" 662), none, (.ref 456), .none, 0⟩), #[]⟩
noncomputable def o_520 : Obj := ⟨(.type "tuple"), none, (.seq (List.toArray [(.int (-1) 785)]) 0), #[]⟩
noncomputable def o_521 : Obj := ⟨(.type "tuple"), none, (.seq #[] 0), #[]⟩
noncomputable def o_522 : Obj := ⟨.none, none, (.fields #[]), #[]⟩
noncomputable def o_523 : Obj := ⟨.none, none, (.func ⟨"configuration", "configuration", (fPar (stm 32)), (.stmts (bodyOf (stm 32))), (fSco (stm 32)), 0, [], .none, .none, .none, .none, none, .none, .none, 0⟩), #[]⟩
noncomputable def o_524 : Obj := ⟨(.type "code"), none, (.fields (List.toArray [(.str "configuration" 786), (.str "configuration" 787), (.str "/claim/cut.py" 788), (.int 226 0), (.int 2 0), (.int 0 0), (.int 0 0), (.int 3 0), (.ref 459), (.bool true), (.int 181 0), (.ref 460), .none, .none, .none, (.ref 461), (.int 789 0), (.int 226 0), (.str "/claim/cut.py" 790)])), #[]⟩
noncomputable def o_525 : Obj := ⟨(.type "function"), none, (.func ⟨"configuration", "configuration", (fPar (stm 32)), (.stmts (bodyOf (stm 32))), (fSco (stm 32)), 3, [], (.ref 458), .none, .none, (.str "paperhold.layers" 662), none, (.ref 462), .none, 0⟩), #[]⟩
noncomputable def o_526 : Obj := ⟨(.type "tuple"), none, (.seq (List.toArray [.none]) 0), #[]⟩
noncomputable def o_527 : Obj := ⟨(.type "tuple"), none, (.seq #[] 0), #[]⟩
noncomputable def o_528 : Obj := ⟨.none, none, (.fields #[]), #[]⟩
noncomputable def o_529 : Obj := ⟨(.type "tuple"), none, (.seq (List.toArray [(.str "numbers" 795), (.str "config" 796), (.str "before" 797), (.str "states" 798), (.str "number" 799), (.str "listed" 800), (.str "is_on" 801)]) 0), #[]⟩
noncomputable def o_530 : Obj := ⟨(.type "tuple"), none, (.seq #[] 0), #[]⟩
noncomputable def o_531 : Obj := ⟨.none, none, (.func ⟨"starting_states", "starting_states", (fPar (stm 33)), (.stmts (bodyOf (stm 33))), (fSco (stm 33)), 0, [], .none, .none, .none, .none, none, .none, .none, 0⟩), #[]⟩
noncomputable def o_532 : Obj := ⟨(.type "code"), none, (.fields (List.toArray [(.str "starting_states" 792), (.str "starting_states" 793), (.str "/claim/cut.py" 794), (.int 234 0), (.int 3 0), (.int 0 0), (.int 0 0), (.int 3 0), (.ref 465), (.bool true), (.int 181 0), (.ref 466), .none, (.ref 467), (.ref 468), (.ref 469), (.int 802 0), (.int 234 0), (.str "/claim/cut.py" 803)])), #[]⟩
noncomputable def o_533 : Obj := ⟨(.type "function"), none, (.func ⟨"starting_states", "starting_states", (fPar (stm 33)), (.stmts (bodyOf (stm 33))), (fSco (stm 33)), 3, [], (.ref 464), .none, .none, (.str "paperhold.layers" 662), none, (.ref 470), .none, 0⟩), #[]⟩
noncomputable def o_534 : Obj := ⟨(.type "tuple"), none, (.seq #[] 0), #[]⟩
noncomputable def o_535 : Obj := ⟨.none, none, (.fields #[]), #[]⟩
noncomputable def o_536 : Obj := ⟨.none, none, (.func ⟨"crowded_rows", "crowded_rows", (fPar (stm 34)), (.stmts (bodyOf (stm 34))), (fSco (stm 34)), 0, [], .none, .none, .none, .none, none, .none, .none, 0⟩), #[]⟩
noncomputable def o_537 : Obj := ⟨(.type "code"), none, (.fields (List.toArray [(.str "crowded_rows" 805), (.str "crowded_rows" 806), (.str "/claim/cut.py" 807), (.int 246 0), (.int 2 0), (.int 0 0), (.int 0 0), (.int 3 0), (.ref 472), (.bool true), (.int 181 0), (.ref 473), .none, .none, .none, (.ref 474), (.int 808 0), (.int 246 0), (.str "/claim/cut.py" 809)])), #[]⟩
noncomputable def o_538 : Obj := ⟨(.type "function"), none, (.func ⟨"crowded_rows", "crowded_rows", (fPar (stm 34)), (.stmts (bodyOf (stm 34))), (fSco (stm 34)), 3, [], .none, .none, .none, (.str "paperhold.layers" 662), none, (.ref 475), .none, 0⟩), #[]⟩
noncomputable def o_539 : Obj := ⟨(.type "tuple"), none, (.seq (List.toArray [(.int 0 811)]) 0), #[]⟩
noncomputable def o_540 : Obj := ⟨(.type "tuple"), none, (.seq #[] 0), #[]⟩
noncomputable def o_541 : Obj := ⟨.none, none, (.fields #[]), #[]⟩
noncomputable def o_542 : Obj := ⟨(.type "tuple"), none, (.seq (List.toArray [(.str "shelf" 815), (.str "items" 816), (.str "depth" 817), (.str "rows" 818), (.str "item" 819), (.str "inner" 820)]) 0), #[]⟩
noncomputable def o_543 : Obj := ⟨(.type "tuple"), none, (.seq #[] 0), #[]⟩
noncomputable def o_544 : Obj := ⟨.none, none, (.func ⟨"order_rows", "order_rows", (fPar (stm 35)), (.stmts (bodyOf (stm 35))), (fSco (stm 35)), 0, [], .none, .none, .none, .none, none, .none, .none, 0⟩), #[]⟩
noncomputable def o_545 : Obj := ⟨(.type "code"), none, (.fields (List.toArray [(.str "order_rows" 812), (.str "order_rows" 813), (.str "/claim/cut.py" 814), (.int 252 0), (.int 3 0), (.int 0 0), (.int 0 0), (.int 3 0), (.ref 478), (.bool true), (.int 181 0), (.ref 479), .none, (.ref 480), (.ref 481), (.ref 482), (.int 821 0), (.int 252 0), (.str "/claim/cut.py" 822)])), #[]⟩
noncomputable def o_546 : Obj := ⟨(.type "function"), none, (.func ⟨"order_rows", "order_rows", (fPar (stm 35)), (.stmts (bodyOf (stm 35))), (fSco (stm 35)), 3, [], (.ref 477), .none, .none, (.str "paperhold.layers" 662), none, (.ref 483), .none, 0⟩), #[]⟩
noncomputable def b_179 (P : Params) : BT := (.node o_238 (lF o_374) (lF (o_509 P)))
noncomputable def b_180 (P : Params) : BT := (.node o_140 (b_120 P) (.node o_274 (lF o_409) (lF o_541)))
noncomputable def b_181 (P : Params) : BT := (.node o_256 (lF o_393) (lF o_525))
noncomputable def b_182 (P : Params) : BT := (.node o_246 (lF o_385) (lF o_517))
noncomputable def b_183 (P : Params) : BT := (.node o_132 (b_127 P) (.node o_264 (lF o_401) (lF o_533)))
noncomputable def b_184 (P : Params) : BT := (.node o_230 (lF o_366) (lF o_501))
noncomputable def b_185 (P : Params) : BT := (.node o_242 (lF o_378) (lF o_513))
noncomputable def b_186 (P : Params) : BT := (.node o_144 (b_129 P) (.node o_278 (lF o_413) (lF o_545)))
noncomputable def b_187 (P : Params) : BT := (.node o_128 (b_130 P) (.node o_260 (lF o_397) (lF o_529)))
noncomputable def b_188 (P : Params) : BT := (.node o_226 (lF o_362) (lF o_497))
noncomputable def b_189 (P : Params) : BT := (.node o_252 (lF o_389) (lF o_521))
noncomputable def b_190 (P : Params) : BT := (.node o_136 (b_134 P) (.node o_268 (lF o_405) (lF o_537)))
noncomputable def b_191 (P : Params) : BT := (.node o_234 (lF o_370) (lF o_505))
noncomputable def b_192 (P : Params) : BT := (.node o_240 (lF o_383) (lF o_511))
noncomputable def b_193 (P : Params) : BT := (.node o_142 (b_136 P) (.node o_276 (lF o_411) (lF o_543)))
noncomputable def b_194 (P : Params) : BT := (.node o_126 (b_137 P) (.node o_258 (lF o_395) (lF o_527)))
noncomputable def b_195 (P : Params) : BT := (.node o_224 (lF o_360) (lF o_495))
noncomputable def b_196 (P : Params) : BT := (.node o_250 (lF o_387) (lF o_519))
noncomputable def b_197 (P : Params) : BT := (.node o_134 (b_141 P) (.node o_266 (lF o_403) (lF o_535)))
noncomputable def b_198 (P : Params) : BT := (.node o_232 (lF o_368) (lF o_503))
noncomputable def b_199 (P : Params) : BT := (.node o_244 (lF o_380) (lF o_515))
noncomputable def b_200 (P : Params) : BT := (.node o_130 (b_145 P) (.node o_262 (lF o_399) (lF o_531)))
noncomputable def b_201 (P : Params) : BT := (.node (o_228 P) (lF o_364) (lF o_499))
noncomputable def b_202 (P : Params) : BT := (.node o_254 (lF o_391) (lF o_523))
noncomputable def b_203 (P : Params) : BT := (.node o_138 (b_149 P) (.node o_270 (lF o_407) (lF o_539)))
noncomputable def b_204 (P : Params) : BT := (.node o_236 (lF o_372) (lF o_507))
noncomputable def b_205 (P : Params) : BT := (.node o_239 (lF (o_375 P)) (lF o_510))
noncomputable def b_206 (P : Params) : BT := (.node o_141 (b_151 P) (.node (o_275 P) (lF o_410) (lF o_542)))
noncomputable def b_207 (P : Params) : BT := (.node o_125 (b_152 P) (.node o_257 (lF o_394) (lF o_526)))
noncomputable def b_208 (P : Params) : BT := (.node o_223 (lF o_359) (lF o_494))
noncomputable def b_209 (P : Params) : BT := (.node o_249 (lF (o_386 P)) (lF o_518))
noncomputable def b_210 (P : Params) : BT := (.node o_133 (b_156 P) (.node (o_265 P) (lF o_402) (lF o_534)))
noncomputable def b_211 (P : Params) : BT := (.node o_231 (lF o_367) (lF o_502))
noncomputable def b_212 (P : Params) : BT := (.node o_243 (lF o_379) (lF o_514))
noncomputable def b_213 (P : Params) : BT := (.node o_145 (b_158 P) (.node o_279 (lF o_414) (lF o_546)))
noncomputable def b_214 (P : Params) : BT := (.node o_129 (b_159 P) (.node o_261 (lF o_398) (lF o_530)))
noncomputable def b_215 (P : Params) : BT := (.node o_227 (lF o_363) (lF o_498))
noncomputable def b_216 (P : Params) : BT := (.node o_253 (lF o_390) (lF o_522))
noncomputable def b_217 (P : Params) : BT := (.node o_137 (b_163 P) (.node o_269 (lF o_406) (lF o_538)))
noncomputable def b_218 (P : Params) : BT := (.node o_235 (lF o_371) (lF o_506))
noncomputable def b_219 (P : Params) : BT := (.node (o_241 P) (lF o_377) (lF o_512))
noncomputable def b_220 (P : Params) : BT := (.node o_143 (b_165 P) (.node o_277 (lF o_412) (lF o_544)))
noncomputable def b_221 (P : Params) : BT := (.node o_127 (b_166 P) (.node o_259 (lF o_396) (lF o_528)))
noncomputable def b_222 (P : Params) : BT := (.node o_225 (lF o_361) (lF (o_496 P)))
noncomputable def b_223 (P : Params) : BT := (.node (o_251 P) (lF o_388) (lF o_520))
noncomputable def b_224 (P : Params) : BT := (.node o_135 (b_170 P) (.node o_267 (lF o_404) (lF o_536)))
noncomputable def b_225 (P : Params) : BT := (.node o_233 (lF o_369) (lF o_504))
noncomputable def b_226 (P : Params) : BT := (.node o_245 (lF o_384) (lF o_516))
noncomputable def b_227 (P : Params) : BT := (.node o_131 (b_174 P) (.node o_263 (lF o_400) (lF o_532)))
noncomputable def b_228 (P : Params) : BT := (.node o_229 (lF o_365) (lF o_500))
noncomputable def b_229 (P : Params) : BT := (.node o_255 (lF o_392) (lF o_524))
noncomputable def b_230 (P : Params) : BT := (.node o_139 (b_178 P) (.node o_273 (lF o_408) (lF o_540)))
noncomputable def b_231 (P : Params) : BT := (.node o_237 (lF o_373) (lF o_508))
noncomputable def tr_546 (P : Params) : BT := (.node (boot_o_0 P) (.node (boot_o_1 P) (.node (o_492 P) (.node (boot_o_7 P) (.node o_52 (.node o_68 (.node o_106 (b_119 P) (b_179 P)) (b_180 P)) (.node o_84 (.node o_124 (b_121 P) (b_181 P)) (b_123 P))) (.node o_60 (.node o_76 (.node o_114 (b_124 P) (b_182 P)) (b_126 P)) (.node o_95 (b_183 P) (.node o_164 (b_184 P) (.node o_300 (lF o_433) .nil))))) (.node o_43 (.node o_56 (.node o_72 (.node o_110 (b_128 P) (b_185 P)) (b_186 P)) (.node o_91 (b_187 P) (.node o_160 (b_188 P) (.node o_296 (lF o_429) .nil)))) (.node o_64 (.node o_80 (.node o_120 (b_131 P) (b_189 P)) (b_133 P)) (.node o_99 (b_190 P) (.node o_168 (b_191 P) (.node o_304 (lF o_439) .nil)))))) (.node (boot_o_5 P) (.node (boot_o_9 P) (.node o_54 (.node o_70 (.node o_108 (b_135 P) (b_192 P)) (b_193 P)) (.node o_86 (b_194 P) (.node o_158 (b_195 P) (.node o_292 (lF o_427) .nil)))) (.node o_62 (.node o_78 (.node o_116 (b_138 P) (b_196 P)) (b_140 P)) (.node o_97 (b_197 P) (.node o_166 (b_198 P) (.node o_302 (lF o_435) .nil))))) (.node o_45 (.node o_58 (.node o_74 (.node o_112 (b_142 P) (b_199 P)) (b_144 P)) (.node o_93 (b_200 P) (.node o_162 (b_201 P) (.node (o_298 P) (lF o_431) .nil)))) (.node o_66 (.node (o_82 P) (.node o_122 (b_146 P) (b_202 P)) (b_148 P)) (.node o_101 (b_203 P) (.node o_170 (b_204 P) (.node o_306 (lF o_441) .nil))))))) (.node (o_49 P) (.node (boot_o_4 P) (.node (boot_o_8 P) (.node o_53 (.node o_69 (.node (o_107 P) (b_150 P) (b_205 P)) (b_206 P)) (.node o_85 (b_207 P) (.node o_157 (b_208 P) (.node o_291 (lF o_426) .nil)))) (.node (o_61 P) (.node o_77 (.node o_115 (b_153 P) (b_209 P)) (b_155 P)) (.node o_96 (b_210 P) (.node o_165 (b_211 P) (.node o_301 (lF o_434) .nil))))) (.node o_493 (.node o_57 (.node o_73 (.node o_111 (b_157 P) (b_212 P)) (b_213 P)) (.node (o_92 P) (b_214 P) (.node o_161 (b_215 P) (.node o_297 (lF o_430) .nil)))) (.node o_65 (.node o_81 (.node (o_121 P) (b_160 P) (b_216 P)) (b_162 P)) (.node o_100 (b_217 P) (.node o_169 (b_218 P) (.node o_305 (lF o_440) .nil)))))) (.node (boot_o_6 P) (.node (boot_o_10 P) (.node o_55 (.node o_71 (.node o_109 (b_164 P) (b_219 P)) (b_220 P)) (.node o_90 (b_221 P) (.node o_159 (b_222 P) (.node o_293 (lF o_428) .nil)))) (.node o_63 (.node o_79 (.node o_119 (b_167 P) (b_223 P)) (b_169 P)) (.node (o_98 P) (b_224 P) (.node o_167 (b_225 P) (.node o_303 (lF o_438) .nil))))) (.node o_46 (.node o_59 (.node o_75 (.node (o_113 P) (b_171 P) (b_226 P)) (b_173 P)) (.node o_94 (b_227 P) (.node o_163 (b_228 P) (.node o_299 (lF (o_432 P)) .nil)))) (.node o_67 (.node o_104 (.node o_123 (b_175 P) (b_229 P)) (b_177 P)) (.node o_105 (b_230 P) (.node o_171 (b_231 P) (.node o_307 (lF o_442) .nil))))))))
noncomputable def o_547 (P : Params) : Obj := ⟨(.type "dict"), none, (.dict (List.toArray [dE P "__name__" 165 (.str "law_pb0484_01" 852), dE P "__doc__" 166 .none, dE P "__package__" 167 .none, dE P "__loader__" 168 (.builtin "__main__.__loader__#opaque"), dE P "__spec__" 169 .none, dE P "__annotations__" 170 (.ref 6), dE P "__builtins__" 171 (.ref 4), dE P "__file__" 173 (.str "/claim/cut.py" 172), dE P "__cached__" 174 .none, dE P "_wall" 193 (.ref 21), dE P "PaperError" 235 (.ref 46), dE P "TreeFault" 251 (.ref 59), dE P "DraftFault" 267 (.ref 71), dE P "Decimal" 383 (.ref 167), dE P "sign_text" 390 (.ref 178), dE P "MOST_HOPS" 394 (.int 30 393), dE P "Name" 423 (.ref 195), dE P "String" 454 (.ref 217), dE P "Stream" 485 (.ref 238), dE P "Reference" 523 (.ref 266), dE P "kind_of" 530 (.ref 277), dE P "told_plain" 538 (.ref 284), dE P "told" 544 (.ref 289), dE P "told_objects" 545 (.ref 289), dE P "Lookup" 597 (.ref 321), dE P "Shelf" 661 (.ref 375), dE P "MOST_NESTED" 665 (.int 20 664), dE P "word_at" 676 (.ref 384), dE P "items_at" 686 (.ref 391), dE P "is_group" 695 (.ref 398), dE P "groups_in" 705 (.ref 405), dE P "layer_head" 713 (.ref 412), dE P "group_numbers" 720 (.ref 419), dE P "group_label" 730 (.ref 426), dE P "purposes" 736 (.ref 431), dE P "Configuration" 777 (.ref 448), dE P "configuration_of" 783 (.ref 457), dE P "configuration" 791 (.ref 463), dE P "starting_states" 804 (.ref 471), dE P "crowded_rows" 810 (.ref 476), dE P "order_rows" 823 (.ref 484), dE P "put_layer_head" 833 (.ref 491), dE P "put_group" 845 (.ref 498), dE P "layer_faults" 851 (.ref 503), dE P "_law_taker" 863 (.ref 510), dE P "_law_items" 869 (.ref 515), dE P "_law_is_refused" 876 (.ref 522), dE P "law" 882 (.ref 527)]) 48), #[]⟩
noncomputable def o_548 : Obj := ⟨.none, none, (.fields (List.toArray [(.int 1 0), (.int 0 0), (.ref 20), (.int 5 0), (.int 0 0), (.ref 27), (.int 14 0), (.int 0 0), (.ref 55), (.int 16 0), (.int 0 0), (.ref 67), (.int 19 0), (.int 0 0), (.ref 79), (.int 64 0), (.int 0 0), (.ref 177), (.int 68 0), (.int 0 0), (.ref 184), (.int 72 0), (.int 0 0), (.ref 205), (.int 77 0), (.int 0 0), (.ref 227), (.int 82 0), (.int 0 0), (.ref 248), (.int 90 0), (.int 0 0), (.ref 276), (.int 112 0), (.int 0 0), (.ref 283), (.int 126 0), (.int 0 0), (.ref 288), (.int 136 0), (.int 0 0), (.ref 295), (.int 155 0), (.int 0 0), (.ref 331), (.int 182 0), (.int 0 0), (.ref 383), (.int 185 0), (.int 0 0), (.ref 390), (.int 188 0), (.int 0 0), (.ref 397), (.int 191 0), (.int 0 0), (.ref 404), (.int 197 0), (.int 0 0), (.ref 411), (.int 200 0), (.int 0 0), (.ref 418), (.int 202 0), (.int 0 0), (.ref 425), (.int 206 0), (.int 0 0), (.ref 430), (.int 213 0), (.int 0 0), (.ref 437), (.int 223 0), (.int 0 0), (.ref 456), (.int 226 0), (.int 0 0), (.ref 462), (.int 234 0), (.int 0 0), (.ref 470), (.int 246 0), (.int 0 0), (.ref 475), (.int 252 0), (.int 0 0), (.ref 483), (.int 266 0), (.int 0 0), (.ref 490), (.int 276 0), (.int 0 0), (.ref 497), (.int 290 0), (.int 0 0), (.ref 502), (.int 307 0), (.int 0 0), (.ref 509), (.int 319 0), (.int 0 0), (.ref 514), (.int 341 0), (.int 0 0), (.ref 521), (.int 347 0), (.int 0 0), (.ref 526)])), #[]⟩
noncomputable def o_549 : Obj := ⟨(.type "tuple"), none, (.seq #[] 0), #[]⟩
noncomputable def o_550 : Obj := ⟨.none, none, (.fields #[]), #[]⟩
noncomputable def o_551 : Obj := ⟨(.type "tuple"), none, (.seq (List.toArray [(.str "shelf" 827), (.str "head" 828), (.str "root" 829), (.str "place" 830)]) 0), #[]⟩
noncomputable def o_552 : Obj := ⟨(.type "tuple"), none, (.seq #[] 0), #[]⟩
noncomputable def o_553 : Obj := ⟨.none, none, (.func ⟨"put_layer_head", "put_layer_head", (fPar (stm 36)), (.stmts (bodyOf (stm 36))), (fSco (stm 36)), 0, [], .none, .none, .none, .none, none, .none, .none, 0⟩), #[]⟩
noncomputable def o_554 : Obj := ⟨(.type "code"), none, (.fields (List.toArray [(.str "put_layer_head" 824), (.str "put_layer_head" 825), (.str "/claim/cut.py" 826), (.int 266 0), (.int 2 0), (.int 0 0), (.int 0 0), (.int 3 0), (.ref 485), (.bool true), (.int 181 0), (.ref 486), .none, (.ref 487), (.ref 488), (.ref 489), (.int 831 0), (.int 266 0), (.str "/claim/cut.py" 832)])), #[]⟩
noncomputable def o_555 : Obj := ⟨(.type "function"), none, (.func ⟨"put_layer_head", "put_layer_head", (fPar (stm 36)), (.stmts (bodyOf (stm 36))), (fSco (stm 36)), 3, [], .none, .none, .none, (.str "paperhold.layers" 662), none, (.ref 490), .none, 0⟩), #[]⟩
noncomputable def o_556 : Obj := ⟨(.type "tuple"), none, (.seq #[] 0), #[]⟩
noncomputable def o_557 : Obj := ⟨.none, none, (.fields #[]), #[]⟩
noncomputable def o_558 : Obj := ⟨(.type "tuple"), none, (.seq (List.toArray [(.str "shelf" 837), (.str "label" 838), (.str "head" 839), (.str "found" 840), (.str "first" 841), (.str "place" 842)]) 0), #[]⟩
noncomputable def o_559 : Obj := ⟨(.type "tuple"), none, (.seq #[] 0), #[]⟩
noncomputable def o_560 : Obj := ⟨.none, none, (.func ⟨"put_group", "put_group", (fPar (stm 37)), (.stmts (bodyOf (stm 37))), (fSco (stm 37)), 0, [], .none, .none, .none, .none, none, .none, .none, 0⟩), #[]⟩
noncomputable def o_561 : Obj := ⟨(.type "code"), none, (.fields (List.toArray [(.str "put_group" 834), (.str "put_group" 835), (.str "/claim/cut.py" 836), (.int 276 0), (.int 2 0), (.int 0 0), (.int 0 0), (.int 3 0), (.ref 492), (.bool true), (.int 181 0), (.ref 493), .none, (.ref 494), (.ref 495), (.ref 496), (.int 843 0), (.int 276 0), (.str "/claim/cut.py" 844)])), #[]⟩
noncomputable def o_562 : Obj := ⟨(.type "function"), none, (.func ⟨"put_group", "put_group", (fPar (stm 37)), (.stmts (bodyOf (stm 37))), (fSco (stm 37)), 3, [], .none, .none, .none, (.str "paperhold.layers" 662), none, (.ref 497), .none, 0⟩), #[]⟩
noncomputable def o_563 : Obj := ⟨(.type "tuple"), none, (.seq #[] 0), #[]⟩
noncomputable def o_564 : Obj := ⟨.none, none, (.fields #[]), #[]⟩
noncomputable def o_565 : Obj := ⟨.none, none, (.func ⟨"layer_faults", "layer_faults", (fPar (stm 38)), (.stmts (bodyOf (stm 38))), (fSco (stm 38)), 0, [], .none, .none, .none, .none, none, .none, .none, 0⟩), #[]⟩
noncomputable def o_566 : Obj := ⟨(.type "code"), none, (.fields (List.toArray [(.str "layer_faults" 846), (.str "layer_faults" 847), (.str "/claim/cut.py" 848), (.int 290 0), (.int 1 0), (.int 0 0), (.int 0 0), (.int 3 0), (.ref 499), (.bool true), (.int 181 0), (.ref 500), .none, .none, .none, (.ref 501), (.int 849 0), (.int 290 0), (.str "/claim/cut.py" 850)])), #[]⟩
noncomputable def o_567 : Obj := ⟨(.type "function"), none, (.func ⟨"layer_faults", "layer_faults", (fPar (stm 38)), (.stmts (bodyOf (stm 38))), (fSco (stm 38)), 3, [], .none, .none, .none, (.str "paperhold.layers" 662), none, (.ref 502), .none, 0⟩), #[]⟩
noncomputable def o_568 : Obj := ⟨(.type "tuple"), none, (.seq #[] 0), #[]⟩
noncomputable def o_569 : Obj := ⟨.none, none, (.fields #[]), #[]⟩
noncomputable def o_570 : Obj := ⟨(.type "tuple"), none, (.seq (List.toArray [(.str "script" 857), (.str "take" 858)]) 0), #[]⟩
noncomputable def o_571 : Obj := ⟨(.type "tuple"), none, (.seq (List.toArray [(.str "cells" 859), (.str "place" 860)]) 0), #[]⟩
noncomputable def o_572 : Obj := ⟨.none, none, (.func ⟨"_law_taker", "_law_taker", (fPar (stm 40)), (.stmts (bodyOf (stm 40))), (fSco (stm 40)), 0, [], .none, .none, .none, .none, none, .none, .none, 0⟩), #[]⟩
noncomputable def o_573 : Obj := ⟨(.type "code"), none, (.fields (List.toArray [(.str "_law_taker" 854), (.str "_law_taker" 855), (.str "/claim/cut.py" 856), (.int 307 0), (.int 1 0), (.int 0 0), (.int 0 0), (.int 3 0), (.ref 504), (.bool true), (.int 181 0), (.ref 505), .none, (.ref 506), (.ref 507), (.ref 508), (.int 861 0), (.int 307 0), (.str "/claim/cut.py" 862)])), #[]⟩
noncomputable def o_574 : Obj := ⟨(.type "function"), none, (.func ⟨"_law_taker", "_law_taker", (fPar (stm 40)), (.stmts (bodyOf (stm 40))), (fSco (stm 40)), 3, [], .none, .none, .none, (.str "law_pb0484_01" 852), none, (.ref 509), .none, 0⟩), #[]⟩
noncomputable def o_575 : Obj := ⟨(.type "tuple"), none, (.seq #[] 0), #[]⟩
noncomputable def o_576 : Obj := ⟨.none, none, (.fields #[]), #[]⟩
noncomputable def o_577 : Obj := ⟨.none, none, (.func ⟨"_law_items", "_law_items", (fPar (stm 41)), (.stmts (bodyOf (stm 41))), (fSco (stm 41)), 0, [], .none, .none, .none, .none, none, .none, .none, 0⟩), #[]⟩
noncomputable def o_578 : Obj := ⟨(.type "code"), none, (.fields (List.toArray [(.str "_law_items" 864), (.str "_law_items" 865), (.str "/claim/cut.py" 866), (.int 319 0), (.int 4 0), (.int 0 0), (.int 0 0), (.int 3 0), (.ref 511), (.bool true), (.int 181 0), (.ref 512), .none, .none, .none, (.ref 513), (.int 867 0), (.int 319 0), (.str "/claim/cut.py" 868)])), #[]⟩
noncomputable def o_579 : Obj := ⟨(.type "function"), none, (.func ⟨"_law_items", "_law_items", (fPar (stm 41)), (.stmts (bodyOf (stm 41))), (fSco (stm 41)), 3, [], .none, .none, .none, (.str "law_pb0484_01" 852), none, (.ref 514), .none, 0⟩), #[]⟩
noncomputable def o_580 : Obj := ⟨(.type "tuple"), none, (.seq #[] 0), #[]⟩
noncomputable def o_581 : Obj := ⟨.none, none, (.fields #[]), #[]⟩
noncomputable def o_582 : Obj := ⟨(.type "tuple"), none, (.seq (List.toArray [(.str "shelf" 873)]) 0), #[]⟩
noncomputable def o_583 : Obj := ⟨(.type "tuple"), none, (.seq #[] 0), #[]⟩
noncomputable def o_584 : Obj := ⟨.none, none, (.func ⟨"_law_is_refused", "_law_is_refused", (fPar (stm 42)), (.stmts (bodyOf (stm 42))), (fSco (stm 42)), 0, [], .none, .none, .none, .none, none, .none, .none, 0⟩), #[]⟩
noncomputable def o_585 : Obj := ⟨(.type "code"), none, (.fields (List.toArray [(.str "_law_is_refused" 870), (.str "_law_is_refused" 871), (.str "/claim/cut.py" 872), (.int 341 0), (.int 1 0), (.int 0 0), (.int 0 0), (.int 3 0), (.ref 516), (.bool true), (.int 181 0), (.ref 517), .none, (.ref 518), (.ref 519), (.ref 520), (.int 874 0), (.int 341 0), (.str "/claim/cut.py" 875)])), #[]⟩
noncomputable def o_586 : Obj := ⟨(.type "function"), none, (.func ⟨"_law_is_refused", "_law_is_refused", (fPar (stm 42)), (.stmts (bodyOf (stm 42))), (fSco (stm 42)), 3, [], .none, .none, .none, (.str "law_pb0484_01" 852), none, (.ref 521), .none, 0⟩), #[]⟩
noncomputable def o_587 : Obj := ⟨(.type "tuple"), none, (.seq #[] 0), #[]⟩
noncomputable def o_588 : Obj := ⟨.none, none, (.fields #[]), #[]⟩
noncomputable def o_589 : Obj := ⟨.none, none, (.func ⟨"law", "law", (fPar (stm 43)), (.stmts (bodyOf (stm 43))), (fSco (stm 43)), 0, [], .none, .none, .none, .none, none, .none, .none, 0⟩), #[]⟩
noncomputable def o_590 : Obj := ⟨(.type "code"), none, (.fields (List.toArray [(.str "law" 877), (.str "law" 878), (.str "/claim/cut.py" 879), (.int 347 0), (.int 1 0), (.int 0 0), (.int 0 0), (.int 3 0), (.ref 523), (.bool true), (.int 181 0), (.ref 524), .none, .none, .none, (.ref 525), (.int 880 0), (.int 347 0), (.str "/claim/cut.py" 881)])), #[]⟩
noncomputable def o_591 : Obj := ⟨(.type "function"), none, (.func ⟨"law", "law", (fPar (stm 43)), (.stmts (bodyOf (stm 43))), (fSco (stm 43)), 3, [], .none, .none, .none, (.str "law_pb0484_01" 852), none, (.ref 526), .none, 0⟩), #[]⟩
noncomputable def tr_591 (P : Params) : BT := (.node (boot_o_0 P) (.node (boot_o_1 P) (.node (o_547 P) (.node (boot_o_7 P) (.node o_52 (.node o_68 (.node o_106 (.node o_172 (.node o_308 (lF o_575) .nil) (lF o_443)) (b_179 P)) (b_180 P)) (.node o_84 (.node o_124 (.node o_188 (.node o_324 (lF o_591) .nil) (lF o_459)) (b_181 P)) (.node o_156 (b_122 P) (.node o_290 (lF o_425) (lF o_559))))) (.node o_60 (.node o_76 (.node o_114 (.node o_180 (.node o_316 (lF o_583) .nil) (lF o_451)) (b_182 P)) (.node o_148 (b_125 P) (.node o_282 (lF o_417) (lF o_551)))) (.node o_95 (b_183 P) (.node o_164 (b_184 P) (.node o_300 (lF o_433) (lF o_567)))))) (.node o_43 (.node o_56 (.node o_72 (.node o_110 (.node o_176 (.node o_312 (lF o_579) .nil) (lF o_447)) (b_185 P)) (b_186 P)) (.node o_91 (b_187 P) (.node o_160 (b_188 P) (.node o_296 (lF o_429) (lF o_563))))) (.node o_64 (.node o_80 (.node o_120 (.node o_184 (.node o_320 (lF o_587) .nil) (lF o_455)) (b_189 P)) (.node o_152 (b_132 P) (.node o_286 (lF o_421) (lF o_555)))) (.node o_99 (b_190 P) (.node o_168 (b_191 P) (.node o_304 (lF o_439) (lF o_571))))))) (.node (boot_o_5 P) (.node (boot_o_9 P) (.node o_54 (.node o_70 (.node o_108 (.node o_174 (.node o_310 (lF o_577) .nil) (lF o_445)) (b_192 P)) (b_193 P)) (.node o_86 (b_194 P) (.node o_158 (b_195 P) (.node o_292 (lF o_427) (lF o_561))))) (.node o_62 (.node o_78 (.node o_116 (.node o_182 (.node (o_318 P) (lF o_585) .nil) (lF o_453)) (b_196 P)) (.node o_150 (b_139 P) (.node o_284 (lF o_419) (lF o_553)))) (.node o_97 (b_197 P) (.node o_166 (b_198 P) (.node o_302 (lF o_435) (lF o_569)))))) (.node o_45 (.node o_58 (.node o_74 (.node o_112 (.node o_178 (.node o_314 (lF o_581) .nil) (lF o_449)) (b_199 P)) (.node o_146 (b_143 P) (.node o_280 (lF o_415) (lF o_549)))) (.node o_93 (b_200 P) (.node o_162 (b_201 P) (.node (o_298 P) (lF o_431) (lF o_565))))) (.node o_66 (.node (o_82 P) (.node o_122 (.node o_186 (.node o_322 (lF o_589) .nil) (lF o_457)) (b_202 P)) (.node o_154 (b_147 P) (.node (o_288 P) (lF o_423) (lF o_557)))) (.node o_101 (b_203 P) (.node o_170 (b_204 P) (.node o_306 (lF o_441) (lF o_573)))))))) (.node (o_49 P) (.node (boot_o_4 P) (.node (boot_o_8 P) (.node o_53 (.node o_69 (.node (o_107 P) (.node o_173 (.node o_309 (lF o_576) .nil) (lF o_444)) (b_205 P)) (b_206 P)) (.node o_85 (b_207 P) (.node o_157 (b_208 P) (.node o_291 (lF o_426) (lF o_560))))) (.node (o_61 P) (.node o_77 (.node o_115 (.node o_181 (.node o_317 (lF o_584) .nil) (lF o_452)) (b_209 P)) (.node o_149 (b_154 P) (.node o_283 (lF o_418) (lF o_552)))) (.node o_96 (b_210 P) (.node o_165 (b_211 P) (.node o_301 (lF o_434) (lF o_568)))))) (.node o_548 (.node o_57 (.node o_73 (.node o_111 (.node o_177 (.node o_313 (lF o_580) .nil) (lF o_448)) (b_212 P)) (b_213 P)) (.node (o_92 P) (b_214 P) (.node o_161 (b_215 P) (.node o_297 (lF o_430) (lF o_564))))) (.node o_65 (.node o_81 (.node (o_121 P) (.node o_185 (.node o_321 (lF o_588) .nil) (lF o_456)) (b_216 P)) (.node o_153 (b_161 P) (.node o_287 (lF o_422) (lF o_556)))) (.node o_100 (b_217 P) (.node o_169 (b_218 P) (.node o_305 (lF o_440) (lF o_572))))))) (.node (boot_o_6 P) (.node (boot_o_10 P) (.node o_55 (.node o_71 (.node o_109 (.node o_175 (.node o_311 (lF o_578) .nil) (lF o_446)) (b_219 P)) (b_220 P)) (.node o_90 (b_221 P) (.node o_159 (b_222 P) (.node o_293 (lF o_428) (lF o_562))))) (.node o_63 (.node o_79 (.node o_119 (.node o_183 (.node o_319 (lF o_586) .nil) (lF o_454)) (b_223 P)) (.node o_151 (b_168 P) (.node o_285 (lF o_420) (lF o_554)))) (.node (o_98 P) (b_224 P) (.node o_167 (b_225 P) (.node o_303 (lF o_438) (lF o_570)))))) (.node o_46 (.node o_59 (.node o_75 (.node (o_113 P) (.node o_179 (.node o_315 (lF o_582) .nil) (lF o_450)) (b_226 P)) (.node o_147 (b_172 P) (.node o_281 (lF o_416) (lF o_550)))) (.node o_94 (b_227 P) (.node o_163 (b_228 P) (.node o_299 (lF (o_432 P)) (lF o_566))))) (.node o_67 (.node o_104 (.node o_123 (.node o_187 (.node o_323 (lF o_590) .nil) (lF o_458)) (b_229 P)) (.node o_155 (b_176 P) (.node o_289 (lF o_424) (lF o_558)))) (.node o_105 (b_230 P) (.node o_171 (b_231 P) (.node o_307 (lF o_442) (lF o_574)))))))))
noncomputable def hp_592 (P : Params) : Heap := ⟨⟨[(boot_o_0 P), (boot_o_1 P), (o_49 P), (o_547 P), (boot_o_4 P), (boot_o_5 P), (boot_o_6 P), (boot_o_7 P), (boot_o_8 P), (boot_o_9 P), (boot_o_10 P), o_43, o_548, o_45, o_46, o_52, o_53, o_54, o_55, o_56, o_57, o_58, o_59, o_60, (o_61 P), o_62, o_63, o_64, o_65, o_66, o_67, o_68, o_69, o_70, o_71, o_72, o_73, o_74, o_75, o_76, o_77, o_78, o_79, o_80, o_81, (o_82 P), o_104, o_84, o_85, o_86, o_90, o_91, (o_92 P), o_93, o_94, o_95, o_96, o_97, (o_98 P), o_99, o_100, o_101, o_105, o_106, (o_107 P), o_108, o_109, o_110, o_111, o_112, (o_113 P), o_114, o_115, o_116, o_119, o_120, (o_121 P), o_122, o_123, o_124, o_125, o_126, o_127, o_128, o_129, o_130, o_131, o_132, o_133, o_134, o_135, o_136, o_137, o_138, o_139, o_140, o_141, o_142, o_143, o_144, o_145, o_146, o_147, o_148, o_149, o_150, o_151, o_152, o_153, o_154, o_155, o_156, o_157, o_158, o_159, o_160, o_161, o_162, o_163, o_164, o_165, o_166, o_167, o_168, o_169, o_170, o_171, o_172, o_173, o_174, o_175, o_176, o_177, o_178, o_179, o_180, o_181, o_182, o_183, o_184, o_185, o_186, o_187, o_188, o_189, o_190, o_191, o_192, o_193, o_194, o_195, o_196, o_197, o_198, o_199, o_200, o_201, o_202, o_203, o_204, o_205, o_206, o_207, o_208, o_209, o_210, (o_211 P), o_212, o_213, o_214, o_215, o_216, o_219, o_220, o_221, o_222, o_223, o_224, o_225, o_226, o_227, (o_228 P), o_229, o_230, o_231, o_232, o_233, o_234, o_235, o_236, o_237, o_238, o_239, o_240, (o_241 P), o_242, o_243, o_244, o_245, o_246, o_249, o_250, (o_251 P), o_252, o_253, o_254, o_255, o_256, o_257, o_258, o_259, o_260, o_261, o_262, o_263, o_264, (o_265 P), o_266, o_267, o_268, o_269, o_270, o_273, o_274, (o_275 P), o_276, o_277, o_278, o_279, o_280, o_281, o_282, o_283, o_284, o_285, o_286, o_287, (o_288 P), o_289, o_290, o_291, o_292, o_293, o_296, o_297, (o_298 P), o_299, o_300, o_301, o_302, o_303, o_304, o_305, o_306, o_307, o_308, o_309, o_310, o_311, o_312, o_313, o_314, o_315, o_316, o_317, (o_318 P), o_319, o_320, o_321, o_322, o_323, o_324, o_325, o_326, o_327, o_328, o_329, o_330, o_331, o_332, o_333, o_334, o_335, o_336, o_337, o_338, o_339, o_340, o_341, o_342, o_345, o_346, (o_347 P), o_348, o_349, o_350, o_351, o_352, o_353, o_354, o_355, o_356, o_357, o_358, o_359, o_360, o_361, o_362, o_363, o_364, o_365, o_366, o_367, o_368, o_369, o_370, o_371, o_372, o_373, o_374, (o_375 P), o_383, o_377, o_378, o_379, o_380, o_384, o_385, (o_386 P), o_387, o_388, o_389, o_390, o_391, o_392, o_393, o_394, o_395, o_396, o_397, o_398, o_399, o_400, o_401, o_402, o_403, o_404, o_405, o_406, o_407, o_408, o_409, o_410, o_411, o_412, o_413, o_414, o_415, o_416, o_417, o_418, o_419, o_420, o_421, o_422, o_423, o_424, o_425, o_426, o_427, o_428, o_429, o_430, o_431, (o_432 P), o_433, o_434, o_435, o_438, o_439, o_440, o_441, o_442, o_443, o_444, o_445, o_446, o_447, o_448, o_449, o_450, o_451, o_452, o_453, o_454, o_455, o_456, o_457, o_458, o_459, o_460, o_461, o_462, o_463, o_464, o_465, o_466, o_467, o_468, o_469, o_470, o_471, o_472, o_473, o_474, o_475, o_476, o_477, o_478, o_479, o_480, o_481, o_482, o_483, o_484, o_485, o_486, o_487, o_488, o_489, o_490, o_491, o_494, o_495, (o_496 P), o_497, o_498, o_499, o_500, o_501, o_502, o_503, o_504, o_505, o_506, o_507, o_508, (o_509 P), o_510, o_511, o_512, o_513, o_514, o_515, o_516, o_517, o_518, o_519, o_520, o_521, o_522, o_523, o_524, o_525, o_526, o_527, o_528, o_529, o_530, o_531, o_532, o_533, o_534, o_535, o_536, o_537, o_538, o_539, o_540, o_541, o_542, o_543, o_544, o_545, o_546, o_549, o_550, o_551, o_552, o_553, o_554, o_555, o_556, o_557, o_558, o_559, o_560, o_561, o_562, o_563, o_564, o_565, o_566, o_567, o_568, o_569, o_570, o_571, o_572, o_573, o_574, o_575, o_576, o_577, o_578, o_579, o_580, o_581, o_582, o_583, o_584, o_585, o_586, o_587, o_588, o_589, o_590, o_591]⟩, ⟨[], [], [], 0, [], [], false, #[], [], 0, false, false, false, 0, [2000, 10, 10], false, 0, true, [], [], 0, false⟩⟩
noncomputable def K39 (P : Params) : Frag := (nat_lit 2, o_49 P) :: (nat_lit 3, o_547 P) :: (nat_lit 15, o_52) :: (nat_lit 17, o_54) :: (nat_lit 18, o_55) :: (nat_lit 20, o_57) :: (nat_lit 21, o_58) :: (nat_lit 22, o_59) :: (nat_lit 29, o_66) :: (nat_lit 30, o_67) :: (nat_lit 32, o_69) :: (nat_lit 33, o_70) :: (nat_lit 35, o_72) :: (nat_lit 36, o_73) :: (nat_lit 37, o_74) :: (nat_lit 39, o_76) :: (nat_lit 40, o_77) :: (nat_lit 42, o_79) :: (nat_lit 43, o_80) :: (nat_lit 44, o_81) :: (nat_lit 45, o_82 P) :: (nat_lit 46, o_104) :: (nat_lit 47, o_84) :: (nat_lit 50, o_90) :: (nat_lit 57, o_97) :: (nat_lit 58, o_98 P) :: (nat_lit 59, o_99) :: (nat_lit 62, o_105) :: (nat_lit 69, o_112) :: (nat_lit 70, o_113 P) :: (nat_lit 71, o_114) :: (nat_lit 81, o_126) :: (nat_lit 83, o_128) :: (nat_lit 84, o_129) :: (nat_lit 86, o_131) :: (nat_lit 87, o_132) :: (nat_lit 88, o_133) :: (nat_lit 90, o_135) :: (nat_lit 91, o_136) :: (nat_lit 93, o_138) :: (nat_lit 94, o_139) :: (nat_lit 95, o_140) :: (nat_lit 97, o_142) :: (nat_lit 98, o_143) :: (nat_lit 100, o_145) :: (nat_lit 101, o_146) :: (nat_lit 102, o_147) :: (nat_lit 104, o_149) :: (nat_lit 105, o_150) :: (nat_lit 107, o_152) :: (nat_lit 108, o_153) :: (nat_lit 109, o_154) :: (nat_lit 111, o_156) :: (nat_lit 112, o_157) :: (nat_lit 114, o_159) :: (nat_lit 115, o_160) :: (nat_lit 116, o_161) :: (nat_lit 118, o_163) :: (nat_lit 119, o_164) :: (nat_lit 121, o_166) :: (nat_lit 122, o_167) :: (nat_lit 123, o_168) :: (nat_lit 125, o_170) :: (nat_lit 126, o_171) :: (nat_lit 128, o_173) :: (nat_lit 129, o_174) :: (nat_lit 130, o_175) :: (nat_lit 132, o_177) :: (nat_lit 133, o_178) :: (nat_lit 135, o_180) :: (nat_lit 136, o_181) :: (nat_lit 137, o_182) :: (nat_lit 139, o_184) :: (nat_lit 140, o_185) :: (nat_lit 142, o_187) :: (nat_lit 143, o_188) :: (nat_lit 144, o_189) :: (nat_lit 146, o_191) :: (nat_lit 147, o_192) :: (nat_lit 149, o_194) :: (nat_lit 150, o_195) :: (nat_lit 151, o_196) :: (nat_lit 153, o_198) :: (nat_lit 154, o_199) :: (nat_lit 156, o_201) :: (nat_lit 157, o_202) :: (nat_lit 158, o_203) :: (nat_lit 160, o_205) :: (nat_lit 161, o_206) :: (nat_lit 163, o_208) :: (nat_lit 164, o_209) :: (nat_lit 165, o_210) :: (nat_lit 166, o_211 P) :: (nat_lit 167, o_212) :: (nat_lit 168, o_213) :: (nat_lit 169, o_214) :: (nat_lit 172, o_219) :: (nat_lit 174, o_221) :: (nat_lit 175, o_222) :: (nat_lit 177, o_224) :: (nat_lit 178, o_225) :: (nat_lit 186, o_233) :: (nat_lit 188, o_235) :: (nat_lit 189, o_236) :: (nat_lit 191, o_238) :: (nat_lit 192, o_239) :: (nat_lit 193, o_240) :: (nat_lit 194, o_241 P) :: (nat_lit 195, o_242) :: (nat_lit 196, o_243) :: (nat_lit 197, o_244) :: (nat_lit 207, o_256) :: (nat_lit 208, o_257) :: (nat_lit 210, o_259) :: (nat_lit 211, o_260) :: (nat_lit 213, o_262) :: (nat_lit 214, o_263) :: (nat_lit 215, o_264) :: (nat_lit 216, o_265 P) :: (nat_lit 217, o_266) :: (nat_lit 218, o_267) :: (nat_lit 219, o_268) :: (nat_lit 229, o_280) :: (nat_lit 231, o_282) :: (nat_lit 232, o_283) :: (nat_lit 234, o_285) :: (nat_lit 235, o_286) :: (nat_lit 236, o_287) :: (nat_lit 237, o_288 P) :: (nat_lit 238, o_289) :: (nat_lit 239, o_290) :: (nat_lit 240, o_291) :: (nat_lit 250, o_303) :: (nat_lit 252, o_305) :: (nat_lit 253, o_306) :: (nat_lit 255, o_308) :: (nat_lit 256, o_309) :: (nat_lit 257, o_310) :: (nat_lit 259, o_312) :: (nat_lit 260, o_313) :: (nat_lit 262, o_315) :: (nat_lit 263, o_316) :: (nat_lit 264, o_317) :: (nat_lit 265, o_318 P) :: (nat_lit 266, o_319) :: (nat_lit 267, o_320) :: (nat_lit 268, o_321) :: (nat_lit 271, o_324) :: (nat_lit 273, o_326) :: (nat_lit 274, o_327) :: (nat_lit 276, o_329) :: (nat_lit 277, o_330) :: (nat_lit 278, o_331) :: (nat_lit 280, o_333) :: (nat_lit 281, o_334) :: (nat_lit 283, o_336) :: (nat_lit 284, o_337) :: (nat_lit 285, o_338) :: (nat_lit 288, o_341) :: (nat_lit 289, o_342) :: (nat_lit 297, o_352) :: (nat_lit 298, o_353) :: (nat_lit 300, o_355) :: (nat_lit 301, o_356) :: (nat_lit 303, o_358) :: (nat_lit 304, o_359) :: (nat_lit 305, o_360) :: (nat_lit 307, o_362) :: (nat_lit 308, o_363) :: (nat_lit 310, o_365) :: (nat_lit 311, o_366) :: (nat_lit 312, o_367) :: (nat_lit 314, o_369) :: (nat_lit 315, o_370) :: (nat_lit 317, o_372) :: (nat_lit 318, o_373) :: (nat_lit 319, o_374) :: (nat_lit 320, o_375 P) :: (nat_lit 321, o_383) :: (nat_lit 322, o_377) :: (nat_lit 323, o_378) :: (nat_lit 326, o_384) :: (nat_lit 333, o_391) :: (nat_lit 335, o_393) :: (nat_lit 336, o_394) :: (nat_lit 338, o_396) :: (nat_lit 339, o_397) :: (nat_lit 340, o_398) :: (nat_lit 342, o_400) :: (nat_lit 343, o_401) :: (nat_lit 345, o_403) :: (nat_lit 346, o_404) :: (nat_lit 347, o_405) :: (nat_lit 349, o_407) :: (nat_lit 350, o_408) :: (nat_lit 352, o_410) :: (nat_lit 353, o_411) :: (nat_lit 354, o_412) :: (nat_lit 356, o_414) :: (nat_lit 357, o_415) :: (nat_lit 359, o_417) :: (nat_lit 360, o_418) :: (nat_lit 361, o_419) :: (nat_lit 363, o_421) :: (nat_lit 364, o_422) :: (nat_lit 366, o_424) :: (nat_lit 367, o_425) :: (nat_lit 368, o_426) :: (nat_lit 371, o_429) :: (nat_lit 372, o_430) :: (nat_lit 373, o_431) :: (nat_lit 374, o_432 P) :: (nat_lit 375, o_433) :: (nat_lit 378, o_438) :: (nat_lit 380, o_440) :: (nat_lit 381, o_441) :: (nat_lit 383, o_443) :: (nat_lit 384, o_444) :: (nat_lit 385, o_445) :: (nat_lit 387, o_447) :: (nat_lit 388, o_448) :: (nat_lit 390, o_450) :: (nat_lit 391, o_451) :: (nat_lit 392, o_452) :: (nat_lit 394, o_454) :: (nat_lit 395, o_455) :: (nat_lit 397, o_457) :: (nat_lit 398, o_458) :: (nat_lit 399, o_459) :: (nat_lit 401, o_461) :: (nat_lit 402, o_462) :: (nat_lit 404, o_464) :: (nat_lit 405, o_465) :: (nat_lit 406, o_466) :: (nat_lit 408, o_468) :: (nat_lit 409, o_469) :: (nat_lit 411, o_471) :: (nat_lit 412, o_472) :: (nat_lit 413, o_473) :: (nat_lit 415, o_475) :: (nat_lit 416, o_476) :: (nat_lit 418, o_478) :: (nat_lit 419, o_479) :: (nat_lit 420, o_480) :: (nat_lit 422, o_482) :: (nat_lit 423, o_483) :: (nat_lit 425, o_485) :: (nat_lit 426, o_486) :: (nat_lit 427, o_487) :: (nat_lit 430, o_490) :: (nat_lit 431, o_491) :: (nat_lit 439, o_501) :: (nat_lit 441, o_503) :: (nat_lit 442, o_504) :: (nat_lit 444, o_506) :: (nat_lit 445, o_507) :: (nat_lit 446, o_508) :: (nat_lit 447, o_509 P) :: (nat_lit 448, o_510) :: (nat_lit 449, o_511) :: (nat_lit 450, o_512) :: (nat_lit 453, o_515) :: (nat_lit 456, o_518) :: (nat_lit 457, o_519) :: (nat_lit 458, o_520) :: (nat_lit 459, o_521) :: (nat_lit 462, o_524) :: (nat_lit 463, o_525) :: (nat_lit 464, o_526) :: (nat_lit 465, o_527) :: (nat_lit 467, o_529) :: (nat_lit 468, o_530) :: (nat_lit 470, o_532) :: (nat_lit 471, o_533) :: (nat_lit 472, o_534) :: (nat_lit 475, o_537) :: (nat_lit 476, o_538) :: (nat_lit 477, o_539) :: (nat_lit 478, o_540) :: (nat_lit 480, o_542) :: (nat_lit 481, o_543) :: (nat_lit 483, o_545) :: (nat_lit 484, o_546) :: (nat_lit 485, o_549) :: (nat_lit 487, o_551) :: (nat_lit 488, o_552) :: (nat_lit 490, o_554) :: (nat_lit 491, o_555) :: (nat_lit 492, o_556) :: (nat_lit 494, o_558) :: (nat_lit 495, o_559) :: (nat_lit 497, o_561) :: (nat_lit 498, o_562) :: (nat_lit 499, o_563) :: (nat_lit 502, o_566) :: (nat_lit 503, o_567) :: (nat_lit 504, o_568) :: (nat_lit 506, o_570) :: (nat_lit 507, o_571) :: (nat_lit 509, o_573) :: (nat_lit 510, o_574) :: (nat_lit 511, o_575) :: (nat_lit 514, o_578) :: (nat_lit 515, o_579) :: (nat_lit 516, o_580) :: (nat_lit 518, o_582) :: (nat_lit 519, o_583) :: (nat_lit 521, o_585) :: (nat_lit 522, o_586) :: (nat_lit 523, o_587) :: (nat_lit 526, o_590) :: (nat_lit 527, o_591) :: []
noncomputable def env_41 : Env := { scope := PE.main.scope, locals := mainNs, globals := mainNs, cells := [], code := .ref 13, frame := some 14 }
noncomputable abbrev cE : Code := Code.body (behindTheImports PE) env_41
noncomputable abbrev p0 : Pos := ⟨0, 0, 0, 0⟩
noncomputable abbrev aN : Option Value := some (.ref 6)
noncomputable def sts_49 : List Stmt := ((behindTheImports PE).drop 0).take 3
noncomputable def sts_87 : List Stmt := ((behindTheImports PE).drop 3).take 1
noncomputable def sts_102 : List Stmt := ((behindTheImports PE).drop 4).take 2
noncomputable def sts_117 : List Stmt := ((behindTheImports PE).drop 6).take 1
noncomputable def sts_217 : List Stmt := ((behindTheImports PE).drop 7).take 4
noncomputable def sts_247 : List Stmt := ((behindTheImports PE).drop 11).take 1
noncomputable def sts_271 : List Stmt := ((behindTheImports PE).drop 12).take 1
noncomputable def sts_294 : List Stmt := ((behindTheImports PE).drop 13).take 5
noncomputable def sts_343 : List Stmt := ((behindTheImports PE).drop 18).take 1
noncomputable def sts_381 : List Stmt := ((behindTheImports PE).drop 19).take 1
noncomputable def sts_436 : List Stmt := ((behindTheImports PE).drop 20).take 10
noncomputable def sts_492 : List Stmt := ((behindTheImports PE).drop 30).take 6
noncomputable def sts_547 : List Stmt := ((behindTheImports PE).drop 36).take 8
theorem run_pre (w : World) : (fun os => topGo treeTable PE w 11 aN 12 ⟨boot_heap w.params, ⟨[]⟩, boot_drawn, boot_toks, os⟩ (topStub PE)) =
    fun os => some (⟨hp_46 w.params, ⟨[]⟩, {}, 187, os⟩, ⟨denote treeTable cE, cE, p0, [topFrame p0]⟩) := by
  rw [PySem.W.Fast.te15667345088766844465, PySem.W.Fast.te14364793385576792824, PySem.W.Fast.te11892475500146522536]
  kernel_rfl
theorem run_block (w : World) : (fun os => segRun treeTable PE w 11 aN 1 1 ⟨hp_46 w.params, ⟨[]⟩, {}, 187, os⟩ (blockOf (behindTheImports PE) env_41 cE p0 [topFrame p0])) =
    fun os => some (.next, (⟨tr_47 w.params, 15, {}, ⟨[]⟩, {}, 187, os⟩ : SharedT).abs, cE, p0) := by
  rw [PySem.W.Fast.te14374325043358763698, PySem.W.Fast.te14364793385576792824]
  kernel_rfl
theorem run_87 (w : World) : (fun os => segRunT treeTable PE w 11 aN 1 307 ⟨tr_47 w.params, 15, {}, ⟨[]⟩, {}, 187, os⟩ (piecesOf sts_49 env_41 cE ⟨0, 0, 0, 0⟩ [topFrame p0])) =
    fun os => some (.next, ⟨tr_86 w.params, 50, {}, ⟨[]⟩, {}, 236, os⟩, cE, ⟨5, 0, 13, 35⟩) := by
  rw [PySem.W.Fast.te10110043849684766642, PySem.W.Fast.te14364793385576792824]
  kernel_rfl
theorem run_102 (w : World) : (fun os => segRunT treeTable PE w 11 aN 1 214 ⟨tr_86 w.params, 50, {}, ⟨[]⟩, {}, 236, os⟩ (piecesOf sts_87 env_41 cE ⟨5, 0, 13, 35⟩ [topFrame p0])) =
    fun os => some (.next, ⟨tr_101 w.params, 62, {}, ⟨[]⟩, {}, 252, os⟩, cE, ⟨14, 0, 15, 8⟩) := by
  rw [PySem.W.Fast.te10110043849684766642, PySem.W.Fast.te14364793385576792824]
  kernel_rfl
theorem run_117 (w : World) : (fun os => segRunT treeTable PE w 11 aN 1 223 ⟨tr_101 w.params, 62, {}, ⟨[]⟩, {}, 252, os⟩ (piecesOf sts_102 env_41 cE ⟨14, 0, 15, 8⟩ [topFrame p0])) =
    fun os => some (.next, ⟨tr_116 w.params, 74, {}, ⟨[]⟩, {}, 270, os⟩, cE, ⟨18, 0, 18, 8⟩) := by
  rw [PySem.W.Fast.te10110043849684766642, PySem.W.Fast.te14364793385576792824]
  kernel_rfl
theorem run_217 (w : World) : (fun os => segRunT treeTable PE w 11 aN 1 572 ⟨tr_116 w.params, 74, {}, ⟨[]⟩, {}, 270, os⟩ (piecesOf sts_117 env_41 cE ⟨18, 0, 18, 8⟩ [topFrame p0])) =
    fun os => some (.next, ⟨tr_216 w.params, 172, {}, ⟨[]⟩, {}, 384, os⟩, cE, ⟨19, 0, 63, 16⟩) := by
  rw [PySem.W.Fast.te10110043849684766642, PySem.W.Fast.te14364793385576792824]
  kernel_rfl
theorem run_247 (w : World) : (fun os => segRunT treeTable PE w 11 aN 1 270 ⟨tr_216 w.params, 172, {}, ⟨[]⟩, {}, 384, os⟩ (piecesOf sts_217 env_41 cE ⟨19, 0, 63, 16⟩ [topFrame p0])) =
    fun os => some (.next, ⟨tr_246 w.params, 200, {}, ⟨[]⟩, {}, 424, os⟩, cE, ⟨68, 0, 71, 24⟩) := by
  rw [PySem.W.Fast.te10110043849684766642, PySem.W.Fast.te14364793385576792824]
  kernel_rfl
theorem run_271 (w : World) : (fun os => segRunT treeTable PE w 11 aN 1 226 ⟨tr_246 w.params, 200, {}, ⟨[]⟩, {}, 424, os⟩ (piecesOf sts_247 env_41 cE ⟨68, 0, 71, 24⟩ [topFrame p0])) =
    fun os => some (.next, ⟨tr_270 w.params, 222, {}, ⟨[]⟩, {}, 455, os⟩, cE, ⟨72, 0, 76, 28⟩) := by
  rw [PySem.W.Fast.te10110043849684766642, PySem.W.Fast.te14364793385576792824]
  kernel_rfl
theorem run_294 (w : World) : (fun os => segRunT treeTable PE w 11 aN 1 225 ⟨tr_270 w.params, 222, {}, ⟨[]⟩, {}, 455, os⟩ (piecesOf sts_271 env_41 cE ⟨72, 0, 76, 28⟩ [topFrame p0])) =
    fun os => some (.next, ⟨tr_293 w.params, 243, {}, ⟨[]⟩, {}, 486, os⟩, cE, ⟨77, 0, 81, 28⟩) := by
  rw [PySem.W.Fast.te10110043849684766642, PySem.W.Fast.te14364793385576792824]
  kernel_rfl
theorem run_343 (w : World) : (fun os => segRunT treeTable PE w 11 aN 1 351 ⟨tr_293 w.params, 243, {}, ⟨[]⟩, {}, 486, os⟩ (piecesOf sts_294 env_41 cE ⟨77, 0, 81, 28⟩ [topFrame p0])) =
    fun os => some (.next, ⟨tr_342 w.params, 290, {}, ⟨[]⟩, {}, 546, os⟩, cE, ⟨135, 0, 135, 12⟩) := by
  rw [PySem.W.Fast.te10110043849684766642, PySem.W.Fast.te14364793385576792824]
  kernel_rfl
theorem run_381 (w : World) : (fun os => segRunT treeTable PE w 11 aN 1 295 ⟨tr_342 w.params, 290, {}, ⟨[]⟩, {}, 546, os⟩ (piecesOf sts_343 env_41 cE ⟨135, 0, 135, 12⟩ [topFrame p0])) =
    fun os => some (.next, ⟨tr_380 w.params, 326, {}, ⟨[]⟩, {}, 598, os⟩, cE, ⟨136, 0, 154, 40⟩) := by
  rw [PySem.W.Fast.te10110043849684766642, PySem.W.Fast.te14364793385576792824]
  kernel_rfl
theorem run_436 (w : World) : (fun os => segRunT treeTable PE w 11 aN 1 403 ⟨tr_380 w.params, 326, {}, ⟨[]⟩, {}, 598, os⟩ (piecesOf sts_381 env_41 cE ⟨136, 0, 154, 40⟩ [topFrame p0])) =
    fun os => some (.next, ⟨tr_435 w.params, 378, {}, ⟨[]⟩, {}, 662, os⟩, cE, ⟨155, 0, 179, 49⟩) := by
  rw [PySem.W.Fast.te10110043849684766642, PySem.W.Fast.te14364793385576792824]
  kernel_rfl
theorem run_492 (w : World) : (fun os => segRunT treeTable PE w 11 aN 1 264 ⟨tr_435 w.params, 378, {}, ⟨[]⟩, {}, 662, os⟩ (piecesOf sts_436 env_41 cE ⟨155, 0, 179, 49⟩ [topFrame p0])) =
    fun os => some (.next, ⟨tr_491 w.params, 432, {}, ⟨[]⟩, {}, 737, os⟩, cE, ⟨206, 0, 212, 45⟩) := by
  rw [PySem.W.Fast.te10110043849684766642, PySem.W.Fast.te14364793385576792824]
  kernel_rfl
theorem run_547 (w : World) : (fun os => segRunT treeTable PE w 11 aN 1 392 ⟨tr_491 w.params, 432, {}, ⟨[]⟩, {}, 737, os⟩ (piecesOf sts_492 env_41 cE ⟨206, 0, 212, 45⟩ [topFrame p0])) =
    fun os => some (.next, ⟨tr_546 w.params, 485, {}, ⟨[]⟩, {}, 824, os⟩, cE, ⟨252, 0, 265, 15⟩) := by
  rw [PySem.W.Fast.te10110043849684766642, PySem.W.Fast.te14364793385576792824]
  kernel_rfl
theorem run_592 (w : World) : (fun os => segRunT treeTable PE w 11 aN 1 215 ⟨tr_546 w.params, 485, {}, ⟨[]⟩, {}, 824, os⟩ (piecesOf sts_547 env_41 cE ⟨252, 0, 265, 15⟩ [topFrame p0])) =
    fun os => some (.next, ⟨tr_591 w.params, 528, {}, ⟨[]⟩, {}, 883, os⟩, cE, ⟨347, 0, 392, 131⟩) := by
  rw [PySem.W.Fast.te10110043849684766642, PySem.W.Fast.te14364793385576792824]
  kernel_rfl
theorem run_fin (w : World) : (fun os => topRun treeTable PE w 11 aN 2 (⟨tr_591 w.params, 528, {}, ⟨[]⟩, {}, 883, os⟩ : SharedT).abs ⟨doneF .next, cE, ⟨347, 0, 392, 131⟩, [topFrame p0]⟩) =
    fun os => some ⟨hp_592 w.params, ⟨[]⟩, {}, 883, os⟩ := by
  rw [PySem.W.Fast.te14082659384304107361, PySem.W.Fast.te14364793385576792824]
  kernel_rfl
theorem body_cut : behindTheImports PE = (sts_49 ++ (sts_87 ++ (sts_102 ++ (sts_117 ++ (sts_217 ++ (sts_247 ++ (sts_271 ++ (sts_294 ++ (sts_343 ++ (sts_381 ++ (sts_436 ++ (sts_492 ++ (sts_547 ++ []))))))))))))) := by kernel_rfl
theorem run_rest (w : World) (os : OsState) : topRun treeTable PE w 11 aN (307 + (214 + (223 + (572 + (270 + (226 + (225 + (351 + (295 + (403 + (264 + (392 + (215 + 2))))))))))))) (⟨tr_47 w.params, 15, {}, ⟨[]⟩, {}, 187, os⟩ : SharedT).abs (restOf (sts_49 ++ (sts_87 ++ (sts_102 ++ (sts_117 ++ (sts_217 ++ (sts_247 ++ (sts_271 ++ (sts_294 ++ (sts_343 ++ (sts_381 ++ (sts_436 ++ (sts_492 ++ (sts_547 ++ []))))))))))))) env_41 cE p0 [topFrame p0]) = some ⟨hp_592 w.params, ⟨[]⟩, {}, 883, os⟩ :=
  piece_app (segRun_of (congrFun (run_87 w) os)) (piece_app (segRun_of (congrFun (run_102 w) os)) (piece_app (segRun_of (congrFun (run_117 w) os)) (piece_app (segRun_of (congrFun (run_217 w) os)) (piece_app (segRun_of (congrFun (run_247 w) os)) (piece_app (segRun_of (congrFun (run_271 w) os)) (piece_app (segRun_of (congrFun (run_294 w) os)) (piece_app (segRun_of (congrFun (run_343 w) os)) (piece_app (segRun_of (congrFun (run_381 w) os)) (piece_app (segRun_of (congrFun (run_436 w) os)) (piece_app (segRun_of (congrFun (run_492 w) os)) (piece_app (segRun_of (congrFun (run_547 w) os)) (piece_app (segRun_of (congrFun (run_592 w) os)) (congrFun (run_fin w) os)))))))))))))
theorem run_all (w : World) (os : OsState) : topRun treeTable PE w 11 aN (12 + (1 + (307 + (214 + (223 + (572 + (270 + (226 + (225 + (351 + (295 + (403 + (264 + (392 + (215 + 2))))))))))))))) ⟨boot_heap w.params, ⟨[]⟩, boot_drawn, boot_toks, os⟩ (topStub PE) = some ⟨hp_592 w.params, ⟨[]⟩, {}, 883, os⟩ := by
  refine go_top (congrFun (run_pre w) os) (piece_block (congrFun (run_block w) os) ?_)
  rw [body_cut]
  exact run_rest w os
end
noncomputable section
noncomputable def VW : Program := { PE with main := { PE.main with body := [0, 2, 3, 4, 6, 7, 9, 10, 11, 12, 13, 14, 15, 16, 17, 18, 19, 21, 22, 23, 24, 25, 26, 27, 28, 29, 30, 31, 34, 36, 37, 38, 40, 41, 42, 43].filterMap fun i => PE.main.body[i]? } }
noncomputable abbrev LO : List Str := ["PaperError", "told_objects", "configuration", "starting_states", "order_rows"]
noncomputable def aK : List Addr := [2, 3, 15, 17, 18, 20, 21, 22, 29, 30, 32, 33, 35, 36, 37, 39, 40, 42, 43, 44, 45, 46, 47, 50, 57, 58, 59, 62, 69, 70, 71, 81, 83, 84, 86, 87, 88, 90, 91, 93, 94, 95, 97, 98, 100, 101, 102, 104, 105, 107, 108, 109, 111, 112, 114, 115, 116, 118, 119, 121, 122, 123, 125, 126, 128, 129, 130, 132, 133, 135, 136, 137, 139, 140, 142, 143, 144, 146, 147, 149, 150, 151, 153, 154, 156, 157, 158, 160, 161, 163, 164, 165, 166, 167, 168, 169, 172, 174, 175, 177, 178, 186, 188, 189, 191, 192, 193, 194, 195, 196, 197, 207, 208, 210, 211, 213, 214, 215, 216, 217, 218, 219, 229, 231, 232, 234, 235, 236, 237, 238, 239, 240, 250, 252, 253, 255, 256, 257, 259, 260, 262, 263, 264, 265, 266, 267, 268, 271, 273, 274, 276, 277, 278, 280, 281, 283, 284, 285, 288, 289, 297, 298, 300, 301, 303, 304, 305, 307, 308, 310, 311, 312, 314, 315, 317, 318, 319, 320, 321, 322, 323, 326, 333, 335, 336, 338, 339, 340, 342, 343, 345, 346, 347, 349, 350, 352, 353, 354, 356, 357, 359, 360, 361, 363, 364, 366, 367, 368, 371, 372, 373, 374, 375, 378, 380, 381, 383, 384, 385, 387, 388, 390, 391, 392, 394, 395, 397, 398, 399, 401, 402, 404, 405, 406, 408, 409, 411, 412, 413, 415, 416, 418, 419, 420, 422, 423, 425, 426, 427, 430, 431, 439, 441, 442, 444, 445, 446, 447, 448, 449, 450, 453, 456, 457, 458, 459, 462, 463, 464, 465, 467, 468, 470, 471, 472, 475, 476, 477, 478, 480, 481, 483, 484, 485, 487, 488, 490, 491, 492, 494, 495, 497, 498, 499, 502, 503, 504, 506, 507, 509, 510, 511, 514, 515, 516, 518, 519, 521, 522, 523, 526, 527]
theorem aK_of (P : Params) : aK = (K39 P).map (·.1) := by kernel_rfl
noncomputable abbrev hK : Hook := kmHook K39 aK aK_of [505]
noncomputable abbrev sE (w : World) (os : OsState) : Shared := ⟨hp_592 w.params, ⟨[]⟩, {}, 883, os⟩
noncomputable abbrev xT : Shared → Bool := fun s => xlAt VW [] s && recOk (RowW.records PySem.Challenge.rw_pb0484_01.row.toRowW) s
theorem look_size (w : World) : ((boot_heap w.params).isNs mainGlobals && (⟨[]⟩ : Array GenState).size == 0, (boot_heap w.params).objs.size, (boot_heap w.params).nsMap mainGlobals "__annotations__") = (true, 11, aN) := by
  rw [PySem.W.Fast.te8920871248978507458]
  kernel_rfl
theorem look_0 (w : World) (os : OsState) : (staticsOk (importedModules PE.main.body) (boot_heap w.params) (hp_592 w.params) && namesBound PE (hp_592 w.params) && gensDone (sE w os) && laidKept (boot_heap w.params) (hp_592 w.params)) = true := by
  rw [PySem.W.Fast.te5923862056798008813]
  kernel_rfl
theorem look_1 (w : World) (os : OsState) : seen ((recsOf VW).map (·.name)) (ownsOf VW) [] { sE w os with gens := #[] } = expectedOf VW := by
  rw [PySem.W.Fast.te5160383126252970620, PySem.W.Fast.te3399658132070893891, PySem.W.Fast.te5991557255702980513]
  kernel_rfl
theorem look_2 (w : World) (os : OsState) : (sE w os).heap.bltView = bltViewBooted := by kernel_rfl
theorem look_3 (w : World) (os : OsState) : ((sE w os).heap.keysOk (looseW VW LO) ((recsOf VW).map (·.name)) ((litsOf VW).map (·.1)) ((clssOf VW (looseW VW LO)).map (·.name)) && (sE w os).heap.accountedOkI (importedModules PE.main.body) && (sE w os).heap.isNs mainGlobals && (sE w os).heap.isNs builtinsNs && tablesOk VW (sE w os).heap && xT (sE w os) &&
    (if true then (sE w os).gens.size == 0 else !leftWithCleanup (sE w os).gens)) = true := by
  rw [PySem.W.Fast.te10880121769531294198, PySem.W.Fast.te821141287760084731, PySem.W.Fast.te3399658132070893891, PySem.W.Fast.te7409074990110511671, PySem.W.Fast.te13664370479719496447, PySem.W.Fast.te14722251495701143533, PySem.W.Fast.te5923862056798008813, PySem.W.Fast.te10994771534591457954]
  kernel_rfl
theorem look_4 (w : World) (os : OsState) : tabsOk VW (sE w os) = true := by
  rw [PySem.W.Fast.te479339242167458305]
  kernel_rfl
theorem look_5 (w : World) (os : OsState) : pinSeenD VW (drecsOf VW) (sE w os) = pinGoodD (drecsOf VW) := by
  rw [PySem.W.Fast.te16090120013241838585, PySem.W.Fast.te3247288618530077131]
  kernel_rfl
theorem look_6 (w : World) (os : OsState) : plainSeenE VW (looseW VW LO) (sE w os) = plainGoodE VW (looseW VW LO) := by
  rw [PySem.W.Fast.te2386780881361962483, PySem.W.Fast.te821141287760084731]
  kernel_rfl
theorem look_7 (w : World) (os : OsState) : plainSeenD VW LO (sE w os) = plainGoodD VW LO := by
  rw [PySem.W.Fast.te11698064438423848299]
  kernel_rfl
theorem look_8 (w : World) (os : OsState) : wideSeen VW (sE w os) = wideGood VW := by
  rw [PySem.W.Fast.te7317090234206586261]
  kernel_rfl
theorem look_9 (w : World) (os : OsState) : clsSeenW VW LO (sE w os) = clsGoodW VW LO := by
  rw [PySem.W.Fast.te7369524293546568484]
  kernel_rfl
theorem look_10 (w : World) (os : OsState) : hK.obs (sE w os) = hK.val w := by kernel_rfl
theorem look_open (w : World) (os : OsState) : openSeen VW LO (importedModules PE.main.body) xT true (sE w os) = openGood VW LO :=
  looks_pair (look_1 w os) (looks_pair (look_2 w os) (looks_pair (look_3 w os) (looks_pair (look_4 w os) (looks_pair (look_5 w os) (looks_pair (look_6 w os) (looks_pair (look_7 w os) (looks_pair (look_8 w os) (look_9 w os))))))))
theorem left : LeftO PE VW LO xT hK.obs hK.val 8014 true :=
  LeftO.of_pieces (H₀ := boot_heap) (H₁ := hp_592) (boot_open (N := 8014) (by kernel_rfl) (by decide) (fun s => by rw [PySem.W.Fast.te14289696077712309145]; kernel_rfl)) look_size run_all (by decide)
    (fun w => funext fun os => looks_pair (look_0 w os) (looks_pair (look_open w os) (look_10 w os)))
end
noncomputable abbrev LP : Program := PySem.Challenge.rw_pb0484_01.row.toRowW.prog
set_option maxHeartbeats 0 in
theorem said_1 : (sreFenced LP.main && ((moduleNames LP.main.body).isEmpty || lookedIntoSs (moduleNames LP.main.body) LP.main.body)) = true := by
  rw [PySem.W.Fast.te11788848310118352699]
  kernel_rfl
set_option maxHeartbeats 0 in
theorem said_2 : namesResolve LP = true := by
  rw [PySem.W.Fast.te8377067652309620493]
  kernel_rfl
set_option maxHeartbeats 0 in
theorem said_3 : LP.boundNames.all (fun n => !worldNames.contains n) = true := by kernel_rfl
set_option maxHeartbeats 0 in
theorem said_v : readsOut LP LP.main.body "vars" = false := by
  unfold readsOut
  rw [PySem.W.Fast.te17119622794617984870]
  kernel_rfl
set_option maxHeartbeats 0 in
theorem said_d : readsOut LP LP.main.body "dir" = false := by
  unfold readsOut
  rw [PySem.W.Fast.te17119622794617984870]
  kernel_rfl
set_option maxHeartbeats 0 in
theorem said_l : readsOut LP LP.main.body "locals" = false := by
  unfold readsOut
  rw [PySem.W.Fast.te17119622794617984870]
  kernel_rfl
set_option maxHeartbeats 0 in
theorem said_b : (["vars", "dir", "locals"] : List Str).filter (readsOut LP LP.main.body) = [] := by
  rw [List.filter_cons_of_neg (by rw [said_v]; exact Bool.false_ne_true), List.filter_cons_of_neg (by rw [said_d]; exact Bool.false_ne_true), List.filter_cons_of_neg (by rw [said_l]; exact Bool.false_ne_true)]
  rfl
set_option maxHeartbeats 0 in
theorem said_4 : noRoadLSs { strict := !(importedModules LP.main.body).all cThrough.contains, foot := none, bare := (["vars", "dir", "locals"] : List Str).filter (readsOut LP LP.main.body) } LP.main.body = true := by
  rw [said_b, PySem.W.Fast.te8326940854005059898]
  kernel_rfl
set_option maxHeartbeats 0 in
theorem said_5 : namesMeet LP LP.main.body (fun _ n => attrL n) = true := by
  rw [PySem.W.Fast.te17119622794617984870]
  kernel_rfl
set_option maxHeartbeats 0 in
theorem said_look : looksOpen LP = true := by
  unfold looksOpen
  exact look_both (look_both (look_both (look_both said_1 said_2) said_3) said_4) said_5
set_option maxHeartbeats 0 in
theorem said_row : PySem.Challenge.rw_pb0484_01.row.wellSaid = true := by
  unfold OpenRow.wellSaid OpenRow.partSaid
  rw [show looksOpen PySem.Challenge.rw_pb0484_01.row.prog = true from said_look, PySem.W.Fast.te13582783067957832011]
  kernel_rfl
set_option maxHeartbeats 0 in
theorem said_above : namesMeet PySem.Challenge.rw_pb0484_01.prog PySem.Challenge.rw_pb0484_01.above (fun _ n => !PySem.Challenge.rw_pb0484_01.own.contains n) = true := by
  rw [PySem.W.Fast.te17119622794617984870]
  kernel_rfl
set_option maxHeartbeats 0 in
theorem said : PySem.Challenge.rw_pb0484_01.wellSaid = true := by
  unfold OpenLaw.wellSaid
  rw [said_row, said_above, PySem.W.Fast.te17119622794617984870, PySem.W.Fast.te8326940854005059898]
  kernel_rfl
section
noncomputable abbrev Cell := Addr × (Obj → Prop)
noncomputable def Pt (h : Heap) (a : Addr) (P : Obj → Prop) : Prop := ∃ o, h.get? a = some o ∧ P o
noncomputable def Le (p q : Heap) : Prop := ∀ b o, p.get? b = some o → q.get? b = some o
theorem Le.rfl {p : Heap} : Le p p := fun _ _ e => e
theorem Le.trans {p q r : Heap} (a : Le p q) (b : Le q r) : Le p r := fun _ _ e => b _ _ (a _ _ e)
theorem Pt.mono {p q : Heap} {a P} (h : Pt p a P) (l : Le p q) : Pt q a P := let ⟨o, e, r⟩ := h; ⟨o, l _ _ e, r⟩
theorem Pt.imp {p : Heap} {a} {P P' : Obj → Prop} (h : Pt p a P) (l : ∀ o, P o → P' o) : Pt p a P' := let ⟨o, e, r⟩ := h; ⟨o, e, l o r⟩

structure St (σ : Shared) (p : Heap) (mu : List Cell) (s : Shared) : Prop where
  keep : Le p s.heap
  own : ∀ q ∈ mu, Pt s.heap q.1 q.2 ∧ p.get? q.1 = none
  nd : (mu.map (·.1)).Nodup
  gens : s.gens = σ.gens
  drawn : s.drawn = σ.drawn
  os : s.os = σ.os

inductive CUpd (a : Addr) (P P' : Obj → Prop) : List Cell → List Cell → Prop
  | head {r} : CUpd a P P' ((a, P) :: r) ((a, P') :: r)
  | tail {q r r'} : CUpd a P P' r r' → CUpd a P P' (q :: r) (q :: r')

theorem CUpd.keys {a P P' l l'} (u : CUpd a P P' l l') : l'.map (·.1) = l.map (·.1) := by
  induction u with
  | head => rfl
  | tail _ ih => simp [ih]
theorem CUpd.mem {a P P' l l'} (u : CUpd a P P' l l') : (a, P) ∈ l := by
  induction u with
  | head => exact .head _
  | tail _ ih => exact .tail _ ih
theorem CUpd.split {a P P' l l'} (u : CUpd a P P' l l') (nd : (l.map (·.1)).Nodup) : ∀ q ∈ l', (q = (a, P')) ∨ (q ∈ l ∧ q.1 ≠ a) := by
  induction u with
  | @head r =>
    intro q hq
    rcases List.mem_cons.mp hq with rfl | hq
    · exact .inl rfl
    · refine .inr ⟨.tail _ hq, fun e => ?_⟩
      have := (List.nodup_cons.mp nd).1
      exact this (e ▸ List.mem_map_of_mem (f := (·.1)) hq)
  | @tail q₀ r r' u ih =>
    intro q hq
    have nd' := List.nodup_cons.mp nd
    rcases List.mem_cons.mp hq with rfl | hq
    · refine .inr ⟨.head _, fun e => nd'.1 ?_⟩
      show q.1 ∈ _
      rw [e]; exact List.mem_map_of_mem (f := (·.1)) u.mem
    · rcases ih nd'.2 q hq with e | ⟨h1, h2⟩
      · exact .inl e
      · exact .inr ⟨.tail _ h1, h2⟩

namespace St
variable {σ : Shared} {p p' : Heap} {mu mu' : List Cell} {s s' : Shared}

theorem get (H : St σ p mu s) {a P} (m : (a, P) ∈ mu) : Pt s.heap a P := (H.own _ m).1
theorem per (H : St σ p mu s) {a P} (m : Pt p a P) : Pt s.heap a P := m.mono H.keep
theorem toks (H : St σ p mu s) (t : Nat) : St σ p mu { s with toks := t } := ⟨H.keep, H.own, H.nd, H.gens, H.drawn, H.os⟩
theorem ne (H : St σ p mu s) {a P b o} (m : (a, P) ∈ mu) (e : p.get? b = some o) : b ≠ a := fun x => by
  have := (H.own _ m).2; rw [← x, e] at this; cases this
theorem grow (H : St σ p mu s) (k : Le s.heap s'.heap) (hg : s'.gens = s.gens := by rfl) (hd : s'.drawn = s.drawn := by rfl) (ho : s'.os = s.os := by rfl) : St σ p mu s' :=
  ⟨H.keep.trans k, fun q m => ⟨(H.own q m).1.mono k, (H.own q m).2⟩, H.nd, hg.trans H.gens, hd.trans H.drawn, ho.trans H.os⟩
theorem push (H : St σ p mu s) (o : Obj) : St σ p mu { s with heap := s.heap.push o } := H.grow fun _ _ e => Heap.get?_push_of_some _ e
theorem alloc (H : St σ p mu s) (o : Obj) (P : Obj → Prop) (hP : P o) (hf : o.isFreed = false := by rfl) : St σ p ((s.heap.objs.size, P) :: mu) { s with heap := s.heap.push o } := by
  have H' := H.push o
  refine ⟨H'.keep, fun q m => ?_, ?_, H.gens, H.drawn, H.os⟩
  · rcases List.mem_cons.mp m with rfl | m
    · refine ⟨⟨o, Heap.get?_push_size _ hf, hP⟩, ?_⟩
      cases e : p.get? s.heap.objs.size with
      | none => rfl
      | some x => exact absurd (Heap.lt_size (H.keep _ _ e)) (Nat.lt_irrefl _)
    · exact H'.own q m
  · refine List.nodup_cons.mpr ⟨fun m => ?_, H.nd⟩
    obtain ⟨q, hq, e⟩ := List.mem_map.mp m
    obtain ⟨x, ex, _⟩ := (H.own q hq).1
    exact absurd (Heap.lt_size ex) (by rw [e]; exact Nat.lt_irrefl _)
theorem set (H : St σ p mu s) {a P P'} (u : CUpd a P P' mu mu') (hs : Heap.SameBut a s.heap s'.heap) (hp : Pt s'.heap a P')
    (hg : s'.gens = s.gens := by rfl) (hd : s'.drawn = s.drawn := by rfl) (ho : s'.os = s.os := by rfl) : St σ p mu' s' := by
  refine ⟨fun b o e => (hs.2 b (H.ne u.mem e)).trans (H.keep b o e), fun q m => ?_, by rw [u.keys]; exact H.nd, hg.trans H.gens, hd.trans H.drawn, ho.trans H.os⟩
  rcases u.split H.nd q m with rfl | ⟨m', ne⟩
  · exact ⟨hp, (H.own _ u.mem).2⟩
  · obtain ⟨⟨o, e, r⟩, z⟩ := H.own q m'
    exact ⟨⟨o, (hs.2 q.1 ne).trans e, r⟩, z⟩
theorem setX (H : St σ p mu s) {a P P'} (u : CUpd a P P' mu mu') (hs : Heap.ExtBut a s.heap s'.heap) (hp : Pt s'.heap a P')
    (hg : s'.gens = s.gens := by rfl) (hd : s'.drawn = s.drawn := by rfl) (ho : s'.os = s.os := by rfl) : St σ p mu' s' := by
  refine ⟨fun b o e => hs b o (H.ne u.mem e) (H.keep b o e), fun q m => ?_, by rw [u.keys]; exact H.nd, hg.trans H.gens, hd.trans H.drawn, ho.trans H.os⟩
  rcases u.split H.nd q m with rfl | ⟨m', ne⟩
  · exact ⟨hp, (H.own _ u.mem).2⟩
  · obtain ⟨⟨o, e, r⟩, z⟩ := H.own q m'
    exact ⟨⟨o, hs q.1 o ne e, r⟩, z⟩
theorem weak (H : St σ p mu s) {a P P'} (u : CUpd a P P' mu mu') (hw : ∀ o, P o → P' o) : St σ p mu' s := by
  refine ⟨H.keep, fun q m => ?_, by rw [u.keys]; exact H.nd, H.gens, H.drawn, H.os⟩
  rcases u.split H.nd q m with rfl | ⟨m', ne⟩
  · exact ⟨(H.own _ u.mem).1.imp hw, (H.own _ u.mem).2⟩
  · exact H.own q m'
theorem drop {q : Cell} (H : St σ p (q :: mu) s) : St σ p mu s := ⟨H.keep, fun x m => H.own x (.tail _ m), (List.nodup_cons.mp H.nd).2, H.gens, H.drawn, H.os⟩
theorem perm (H : St σ p mu s) (q : mu.Perm mu') : St σ p mu' s := ⟨H.keep, fun x m => H.own x (q.mem_iff.mpr m), (q.map (·.1)).nodup_iff.mp H.nd, H.gens, H.drawn, H.os⟩
theorem swap {a b : Cell} (H : St σ p (a :: b :: mu) s) : St σ p (b :: a :: mu) s := H.perm (List.Perm.swap _ _ _)
theorem drop2 {a b : Cell} (H : St σ p (a :: b :: mu) s) : St σ p (a :: mu) s := H.swap.drop
theorem less (H : St σ p' mu s) (l : Le p p') : St σ p mu s := ⟨l.trans H.keep, fun q m => ⟨(H.own q m).1, by
  cases e : p.get? q.1 with
  | none => rfl
  | some o => have := (H.own q m).2; rw [l _ _ e] at this; cases this⟩, H.nd, H.gens, H.drawn, H.os⟩
end St

noncomputable def addAt (p : Heap) (a : Addr) (o : Obj) : Heap :=
  { objs := Array.ofFn (n := max p.objs.size (a + 1)) fun i => if i.1 = a then o else p.objs.getD i.1 { cls := .none, data := .freed } }
theorem addAt_get (p : Heap) (a : Addr) (o : Obj) (hf : o.isFreed = false) (b : Addr) : (addAt p a o).get? b = if b = a then some o else p.get? b := by
  have hs : (addAt p a o).objs.size = max p.objs.size (a + 1) := by simp [addAt]
  by_cases hb : b < max p.objs.size (a + 1)
  · have e : (addAt p a o).objs[b]? = some (if b = a then o else p.objs.getD b { cls := .none, data := .freed }) := by
      simp [addAt, hb]
    by_cases hba : b = a
    · rw [if_pos hba]
      exact Heap.get?_some_iff.mpr ⟨by rw [e, if_pos hba], hf⟩
    · rw [if_neg hba] at e ⊢
      unfold Heap.get?
      rw [e]
      by_cases hlt : b < p.objs.size
      · have e2 : p.objs[b]? = some (p.objs.getD b { cls := .none, data := .freed }) := by
          simp [Array.getD, hlt]
        rw [e2]
      · have e2 : p.objs[b]? = none := Array.getElem?_eq_none (Nat.not_lt.mp hlt)
        have e3 : p.objs.getD b { cls := .none, data := .freed } = { cls := .none, data := .freed } := by simp [Array.getD, hlt]
        rw [e2, e3]
  · have hb' : max p.objs.size (a + 1) ≤ b := Nat.not_lt.mp hb
    have h1 : (addAt p a o).objs[b]? = none := Array.getElem?_eq_none (by rw [hs]; exact hb')
    have h2 : p.objs[b]? = none := Array.getElem?_eq_none (Nat.le_trans (Nat.le_max_left _ _) hb')
    have h3 : b ≠ a := fun z => by
      have : a + 1 ≤ b := Nat.le_trans (Nat.le_max_right _ _) hb'
      exact absurd this (by rw [z]; exact Nat.not_succ_le_self _)
    rw [if_neg h3]
    unfold Heap.get?
    rw [h1, h2]

theorem Pt.notFreed {h : Heap} {a P} (x : Pt h a P) : ∃ o, h.get? a = some o ∧ P o ∧ o.isFreed = false := by
  obtain ⟨o, e, r⟩ := x
  exact ⟨o, e, r, (Heap.get?_some_iff.mp e).2⟩
theorem St.freeze {σ : Shared} {p : Heap} {mu : List Cell} {s : Shared} {a P} (H : St σ p ((a, P) :: mu) s) : ∃ p', Le p p' ∧ Pt p' a P ∧ St σ p' mu s := by
  obtain ⟨o, e, r, hf⟩ := (H.own _ (.head _)).1.notFreed
  have hn := (H.own _ (.head _)).2
  refine ⟨addAt p a o, fun b x q => ?_, ⟨o, by rw [addAt_get _ _ _ hf, if_pos rfl], r⟩, fun b x q => ?_, fun q m => ?_, (List.nodup_cons.mp H.nd).2, H.gens, H.drawn, H.os⟩
  · rw [addAt_get _ _ _ hf]
    have : b ≠ a := fun z => by subst z; rw [hn] at q; cases q
    rw [if_neg this]; exact q
  · rw [addAt_get _ _ _ hf] at q
    by_cases z : b = a
    · rw [if_pos z] at q; cases q; rw [z]; exact e
    · rw [if_neg z] at q; exact H.keep _ _ q
  · have hm := H.own q (.tail _ m)
    refine ⟨hm.1, ?_⟩
    have hne : q.1 ≠ a := fun z => (List.nodup_cons.mp H.nd).1 (by have := List.mem_map_of_mem (f := (·.1)) m; rw [z] at this; exact this)
    rw [addAt_get _ _ _ hf, if_neg hne]
    exact hm.2
theorem St.freeze2 {σ : Shared} {p : Heap} {mu : List Cell} {s : Shared} {q : Cell} {a P} (H : St σ p (q :: (a, P) :: mu) s) : ∃ p', Le p p' ∧ Pt p' a P ∧ St σ p' (q :: mu) s := H.swap.freeze
theorem St.fz {σ : Shared} {p : Heap} {mu : List Cell} {s : Shared} {a P} {G : Prop} (H : St σ p ((a, P) :: mu) s) (k : ∀ p', Le p p' → Pt p' a P → St σ p' mu s → G) : G := let ⟨p', l, x, H'⟩ := H.freeze; k p' l x H'
theorem St.fz2 {σ : Shared} {p : Heap} {mu : List Cell} {s : Shared} {q : Cell} {a P} {G : Prop} (H : St σ p (q :: (a, P) :: mu) s) (k : ∀ p', Le p p' → Pt p' a P → St σ p' (q :: mu) s → G) : G := let ⟨p', l, x, H'⟩ := H.freeze2; k p' l x H'
theorem St.allocP {σ : Shared} {p : Heap} {mu : List Cell} {s : Shared} (H : St σ p mu s) (o : Obj) (hf : o.isFreed = false := by rfl) : ∃ p', Le p p' ∧ p'.get? s.heap.objs.size = some o ∧ St σ p' mu { s with heap := s.heap.push o } := by
  obtain ⟨p', l, ⟨o', e, r⟩, H'⟩ := (H.alloc o (· = o) rfl hf).freeze
  exact ⟨p', l, r ▸ e, H'⟩
end
structure Rm (A : Around) (k : Nat) : Prop where
  d : A.depth + k < recursionLimit
  u : A.units + 8 * k < cLine
  h : A.handled = none
theorem Rm.deeper {A k env} (r : Rm A (k + 1)) : Rm (A.deeper env) k := ⟨by have := r.d; show A.depth + 1 + k < _; omega, by have := r.u; show A.units + 3 + 8 * k < _; omega, r.h⟩
theorem Rm.less {A k j} (r : Rm A k) (h : j ≤ k) : Rm A j := ⟨by have := r.d; omega, by have := r.u; omega, r.h⟩
theorem Rm.in1 {A k} (r : Rm A (k + 1)) : Rm A.in1 k := ⟨by have := r.d; show A.depth + k < _; omega, by have := r.u; show A.units + 1 + 8 * k < _; omega, r.h⟩

noncomputable def NsO (m : Str → Option Value) (o : Obj) : Prop := ∃ es ep, o.data = .dict es ep ∧ StrKeys es ∧ ∀ name, nsFind es name = m name
noncomputable def FrameP (env : Env) (fs : List (Str × Option Value)) (o : Obj) : Prop :=
  (∃ m, NsO m o ∧ ∀ x v, (x, some v) ∈ fs → m x = some v) ∧ (fs.map (·.1)).Nodup ∧ (∀ q ∈ fs, env.kindOf q.1 = some .local) ∧ env.scope.kind = .function
theorem FrameP.ns {env fs h L} (x : Pt h L (FrameP env fs)) : ∃ m, h.Ns L m ∧ (∀ x v, (x, some v) ∈ fs → m x = some v) :=
  let ⟨o, e, ⟨m, ⟨es, ep, a, b, c⟩, k⟩, _⟩ := x; ⟨m, ⟨o, es, ep, e, a, b, c⟩, k⟩
theorem FrameP.rest {env fs h L} (x : Pt h L (FrameP env fs)) : (fs.map (·.1)).Nodup ∧ (∀ q ∈ fs, env.kindOf q.1 = some .local) ∧ env.scope.kind = .function :=
  let ⟨_, _, _, r⟩ := x; r
theorem FrameP.of {env fs h L m} (n : h.Ns L m) (k : ∀ x v, (x, some v) ∈ fs → m x = some v) (r : (fs.map (·.1)).Nodup ∧ (∀ q ∈ fs, env.kindOf q.1 = some .local) ∧ env.scope.kind = .function) : Pt h L (FrameP env fs) :=
  let ⟨o, es, ep, e, a, b, c⟩ := n; ⟨o, e, ⟨m, ⟨es, ep, a, b, c⟩, k⟩, r⟩

inductive FPut (x : Str) (v : Value) : List (Str × Option Value) → List (Str × Option Value) → Prop
  | head {o r} : FPut x v ((x, o) :: r) ((x, some v) :: r)
  | tail {q r r'} : FPut x v r r' → FPut x v (q :: r) (q :: r')
theorem FPut.keys {x v l l'} (u : FPut x v l l') : l'.map (·.1) = l.map (·.1) := by
  induction u with
  | head => rfl
  | tail _ ih => simp [ih]
theorem FPut.mem {x v l l'} (u : FPut x v l l') : x ∈ l.map (·.1) := by
  induction u with
  | head => exact .head _
  | tail _ ih => exact .tail _ ih
theorem FPut.split {x v l l'} (u : FPut x v l l') (nd : (l.map (·.1)).Nodup) : ∀ q ∈ l', q = (x, some v) ∨ (q ∈ l ∧ q.1 ≠ x) := by
  induction u with
  | @head o r =>
    intro q hq
    rcases List.mem_cons.mp hq with rfl | hq
    · exact .inl rfl
    · refine .inr ⟨.tail _ hq, fun e => ?_⟩
      exact (List.nodup_cons.mp nd).1 (e ▸ List.mem_map_of_mem (f := (·.1)) hq)
  | @tail q₀ r r' u ih =>
    intro q hq
    have nd' := List.nodup_cons.mp nd
    rcases List.mem_cons.mp hq with rfl | hq
    · refine .inr ⟨.head _, fun e => nd'.1 ?_⟩
      show q.1 ∈ _
      rw [e]; exact u.mem
    · rcases ih nd'.2 q hq with e | ⟨h1, h2⟩
      · exact .inl e
      · exact .inr ⟨.tail _ h1, h2⟩

noncomputable def GN (env : Env) (mg mb : Str → Option Value) (x : Str) (v : Value) : Prop :=
  env.kindOf x = some .globalImplicit ∧ (mg x = some v ∨ (mg x = none ∧ mb x = some v)) ∧ (x == ("__debug__" : Str)) = false

structure EnvOk (env : Env) : Prop where
  kind : env.scope.kind = .function
  g : env.globals = mainGlobals
  b : env.builtins = builtinsNs

structure Tp (K : Frag) (mg mb : Str → Option Value) (p : Heap) : Prop where
  K : K.In p
  g : p.Ns mainGlobals mg
  b : p.Ns builtinsNs mb
  lim : p.NoLimit
  bi : ∀ x : Str, x ≠ "__name__" → mb x = bootBuiltins x
theorem Tp.mono {K mg mb p p'} (T : Tp K mg mb p) (l : Le p p') : Tp K mg mb p' := ⟨T.K.keeps l, T.g.keeps l, T.b.keeps l, T.lim.keeps l, T.bi⟩

section
variable {prog : Program} {w : World} {A : Around} {E : Value → Shared → Prop} {σ s : Shared} {p : Heap} {mu mu' : List Cell} {env : Env} {fs fs' : List (Str × Option Value)} {K : Frag} {mg mb : Str → Option Value}

theorem r_loc {x : Str} {pos : Pos} {v : Value} {Q : Value → Shared → Prop} (H : St σ p ((env.locals, FrameP env fs) :: mu) s) (hx : (x, some v) ∈ fs) (h : Q v s) (hd : (x == ("__debug__" : Str)) = false := by decide) :
    wpAny (model prog w) A (eval (.Name x pos) env) Q E s := by
  have P := (H.own _ (.head _)).1
  obtain ⟨m, n, k⟩ := FrameP.ns P
  obtain ⟨_, k1, k2⟩ := FrameP.rest P
  exact wpAny_Name (wpAny_loadName_local k2 (k1 _ hx) n (k _ _ hx) h) hd
theorem r_glob {x : Str} {pos : Pos} {v : Value} {Q : Value → Shared → Prop} (G : GN env mg mb x v) (he : EnvOk env) (T : Tp K mg mb p) (H : St σ p mu s) (h : Q v s) :
    wpAny (model prog w) A (eval (.Name x pos) env) Q E s := by
  refine Name_function_global he.kind G.1 ?_ G.2.2
  rcases G.2.1 with e | ⟨e1, e2⟩
  · exact loadGlobal_global (he.g ▸ T.g.keeps H.keep) e h
  · exact loadGlobal_builtin (he.g ▸ T.g.keeps H.keep) e1 (he.b ▸ T.b.keeps H.keep) e2 h
theorem r_int {i : Int} {k pos} {Q : Value → Shared → Prop} (H : St σ p mu s) (h : ∀ t s', St σ p mu s' → Q (.int i t) s') : wpAny (model prog w) A (eval (.Constant (.int i) k pos) env) Q E s := wpAny_Constant_int (h _ _ (H.toks _))
theorem r_str {x : Str} {k pos} {Q : Value → Shared → Prop} (H : St σ p mu s) (h : ∀ t s', St σ p mu s' → Q (.str x t) s') : wpAny (model prog w) A (eval (.Constant (.str x) k pos) env) Q E s := wpAny_Constant_str (h _ _ (H.toks _))
theorem r_bytes {b : List UInt8} {k pos} {Q : Value → Shared → Prop} (H : St σ p mu s) (h : ∀ t s', St σ p mu s' → Q (.bytes b.toArray t) s') : wpAny (model prog w) A (eval (.Constant (.bytes b) k pos) env) Q E s :=
  fun _ _ _ => h _ _ (H.toks _)
theorem r_none {k pos} {Q : Value → Shared → Prop} (h : Q .none s) : wpAny (model prog w) A (eval (.Constant .none k pos) env) Q E s := wpAny_Constant_none h
theorem r_bool {b k pos} {Q : Value → Shared → Prop} (h : Q (.bool b) s) : wpAny (model prog w) A (eval (.Constant (.bool b) k pos) env) Q E s := wpAny_Constant_bool h

theorem st_loc {x : Str} {v : Value} {Q : Unit → Shared → Prop} (H : St σ p ((env.locals, FrameP env fs) :: mu) s) (u : FPut x v fs fs')
    (h : ∀ s', St σ p ((env.locals, FrameP env fs') :: mu) s' → Q () s') : wpAny (model prog w) A (storeName env x v) Q E s := by
  have P := (H.own _ (.head _)).1
  obtain ⟨m, n, k⟩ := FrameP.ns P
  obtain ⟨k0, k1, k2⟩ := FrameP.rest P
  have hx : env.kindOf x = some .local := by
    obtain ⟨q, hq, e⟩ := List.mem_map.mp u.mem
    exact e ▸ k1 q hq
  refine wpAny_storeName_local hx n (fun h' hn hs => h _ (H.set .head hs (FrameP.of hn (fun y z hz => ?_) ⟨by rw [u.keys]; exact k0, fun q hq => ?_, k2⟩))) (by rw [k2]; rfl)
  · rcases u.split k0 _ hz with e | ⟨e1, e2⟩
    · cases e; exact if_pos rfl
    · rw [if_neg e2]; exact k _ _ e1
  · rcases u.split k0 _ hq with rfl | ⟨e1, _⟩
    · exact hx
    · exact k1 q e1
end
noncomputable abbrev NE : Value → Shared → Prop := fun _ _ => False
section
variable {prog : Program} {w : World} {A : Around} {E : Value → Shared → Prop} {σ s : Shared} {p : Heap} {mu mu' : List Cell} {env : Env} {fs fs' : List (Str × Option Value)} {K : Frag} {mg mb : Str → Option Value} {rest : List Stmt}

theorem ne {α : Type} {t : Sem α} {Q : α → Shared → Prop} (h : wpAny (model prog w) A t Q NE s) : wpAny (model prog w) A t Q E s := wpAny_mono h (fun _ _ q => q) fun _ _ q => q.elim

theorem x_nil {Q : Flow → Shared → Prop} (h : Q .next s) : wpAny (model prog w) A (execs [] env) Q E s := wpAny_execs_nil h
theorem x_next {st : Stmt} {Q : Flow → Shared → Prop} (h : wpAny (model prog w) A (exec st env) (fun f s' => f = .next ∧ wpAny (model prog w) A (execs rest env) Q E s') E s) :
    wpAny (model prog w) A (execs (st :: rest) env) Q E s :=
  wpAny_execs_cons (wpAny_mono h (fun f s' h' => by obtain ⟨rfl, h'⟩ := h'; exact h') fun _ _ q => q)
theorem x_assign {x : Str} {pos' pos : Pos} {value : Expr} {Q : Flow → Shared → Prop}
    (h : wpAny (model prog w) A (eval value env) (fun v s₁ => wpAny (model prog w) A (storeName env x v) (fun _ s₂ => wpAny (model prog w) A (execs rest env) Q E s₂) E s₁) E s)
    (hs : swapsWith value (some (.Name x pos')) pos.line env = pure false := by rfl) :
    wpAny (model prog w) A (execs (.Assign [.Name x pos'] value pos :: rest) env) Q E s :=
  x_next (wpAny_Assign_Name (wpAny_mono h (fun _ _ h₁ => wpAny_mono h₁ (fun _ _ h₂ => ⟨rfl, h₂⟩) fun _ _ q => q) fun _ _ q => q) hs)
theorem x_setitem {o i value : Expr} {pos' pos : Pos} {Q : Flow → Shared → Prop}
    (h : wpAny (model prog w) A (eval value env) (fun v s₁ => wpAny (model prog w) A (eval o env) (fun ov s₂ => wpAny (model prog w) A (eval i env) (fun iv s₃ =>
      wpAny (model prog w) A (setItem ov iv v) (fun _ s₄ => wpAny (model prog w) A (execs rest env) Q E s₄) E s₃) E s₂) E s₁) E s)
    (hs : swapsWith value (some (.Subscript o i pos')) pos.line env = pure false := by rfl) :
    wpAny (model prog w) A (execs (.Assign [.Subscript o i pos'] value pos :: rest) env) Q E s :=
  x_next (wpAny_Assign_Subscript (wpAny_mono h (fun _ _ h₁ => wpAny_mono h₁ (fun _ _ h₂ => wpAny_mono h₂ (fun _ _ h₃ => wpAny_mono h₃ (fun _ _ h₄ => ⟨rfl, h₄⟩) fun _ _ q => q) fun _ _ q => q) fun _ _ q => q) fun _ _ q => q) hs)
theorem x_setattr {o value : Expr} {attr : Str} {pos' pos : Pos} {Q : Flow → Shared → Prop}
    (h : wpAny (model prog w) A (eval value env) (fun v s₁ => wpAny (model prog w) A (eval o env) (fun ov s₂ =>
      wpAny (model prog w) A (setAttr ov attr v) (fun _ s₄ => wpAny (model prog w) A (execs rest env) Q E s₄) E s₂) E s₁) E s)
    (hs : swapsWith value (some (.Attribute o attr pos')) pos.line env = pure false := by rfl) :
    wpAny (model prog w) A (execs (.Assign [.Attribute o attr pos'] value pos :: rest) env) Q E s :=
  x_next (plainObj_wpAny_Assign_Attribute (wpAny_mono h (fun _ _ h₁ => wpAny_mono h₁ (fun _ _ h₂ => wpAny_mono h₂ (fun _ _ h₄ => ⟨rfl, h₄⟩) fun _ _ q => q) fun _ _ q => q) fun _ _ q => q) hs)
theorem x_tuple {elts : List Expr} {k : Nat} {tpos pos : Pos} {value : Expr} {Q : Flow → Shared → Prop}
    (h : wpAny (model prog w) A (eval value env) (fun v s₁ => wpAny (model prog w) A (assign (.Tuple elts k tpos) env v) (fun _ s₄ => wpAny (model prog w) A (execs rest env) Q E s₄) E s₁) E s)
    (hs : swapsWithSole [.Tuple elts k tpos] value pos.line env = pure false := by rfl)
    (hw : swappedStores [.Tuple elts k tpos] value env = pure none := by rfl) :
    wpAny (model prog w) A (execs (.Assign [.Tuple elts k tpos] value pos :: rest) env) Q E s :=
  x_next (Assign_Tuple (wpAny_mono h (fun _ _ h₁ => wpAny_mono h₁ (fun _ _ h₄ => ⟨rfl, h₄⟩) fun _ _ q => q) fun _ _ q => q) hs hw)
theorem x_expr {e : Expr} {pos : Pos} {Q : Flow → Shared → Prop} (he : EnvOk env)
    (h : wpAny (model prog w) A (eval e env) (fun _ s₁ => wpAny (model prog w) A (execs rest env) Q E s₁) E s)
    (hs : swapsWith e none pos.line env = pure false := by rfl) :
    wpAny (model prog w) A (execs (.Expr e pos :: rest) env) Q E s :=
  x_next (wpAny_Expr_any (wpAny_mono h (fun _ _ h₁ => ⟨rfl, h₁⟩) fun _ _ q => q) (by unfold interactive; rw [he.kind]; rfl) hs)
theorem x_if {test : Expr} {body orelse : List Stmt} {pos : Pos} {Q : Flow → Shared → Prop}
    (h : wpAny (model prog w) A (isTrue test env (eval test env)) (fun b s₂ => if b then wpAny (model prog w) A (execs body env) (fun f s' => match f with | .next => wpAny (model prog w) A (execs rest env) Q E s' | f => Q f s') E s₂
      else wpAny (model prog w) A (execs orelse env) (fun f s' => match f with | .next => wpAny (model prog w) A (execs rest env) Q E s' | f => Q f s') E s₂) E s) :
    wpAny (model prog w) A (execs (.If test body orelse pos :: rest) env) Q E s :=
  wpAny_execs_cons (wpAny_If h)
theorem x_ret {e : Expr} {pos : Pos} {Q : Flow → Shared → Prop} (h : wpAny (model prog w) A (eval e env) (fun v => Q (.ret v)) E s) : wpAny (model prog w) A (execs (.Return (some e) pos :: rest) env) Q E s :=
  wpAny_execs_cons (wpAny_Return_some (wpAny_mono h (fun _ _ q => q) fun _ _ q => q))

theorem a_nil {pos : Pos} {Q : List Value → Shared → Prop} (h : Q [] s) : wpAny (model prog w) A (spliced (backTo pos (starEach [] env))) Q E s := wpAny_pure h
theorem a_cons {pos : Pos} {e : Expr} {es : List Expr} {Q : List Value → Shared → Prop}
    (h : wpAny (model prog w) A (eval e env) (fun v s₁ => wpAny (model prog w) A (spliced (backTo pos (starEach es env))) (fun vs s₂ => Q (v :: vs) s₂) E s₁) E s)
    (he : starEach (e :: es) env = (false, eval e env) :: starEach es env := by rfl) :
    wpAny (model prog w) A (spliced (backTo pos (starEach (e :: es) env))) Q E s := by
  rw [he]
  show wpAny (model prog w) A (do
    let v ← eval e env
    let here ← pure [v]
    return here ++ (← holding here (spliced (backTo pos (starEach es env))))) Q E s
  exact wpAny_bind (wpAny_mono h (fun v s₁ h₁ => wpAny_bind (wpAny_pure (wpAny_bind (wpAny_holding (wpAny_mono h₁ (fun vs s₂ h₂ => wpAny_pure h₂) fun _ _ q => q)))))
    fun _ _ q => q)

theorem c_K {pos : Pos} {f : Value} {first : List Value} {e : Expr} {es : List Expr} {Q : Value → Shared → Prop} (hk : keepIn K f = true)
    (h : wpAny (model prog w) A (spliced (backTo pos (starEach (e :: es) env))) (fun vs s₁ => K.In s₁.heap ∧ wpAny (model prog w) A (call f (first ++ vs)) Q E s₁) E s)
    (he : starEach (e :: es) env = (false, eval e env) :: starEach es env := by rfl) (hplain : (backTo pos (starEach es env)).any (·.1) = false := by rfl) :
    wpAny (model prog w) A (callWith pos f first (backTo pos (starEach (e :: es) env)) []) Q E s := by
  rw [he] at h ⊢
  exact callWith_of (by show ((false || (backTo pos (starEach es env)).any (·.1)) || false) = false; rw [hplain]; rfl) (keeps_K hk) (evalArgs_plain h)
theorem keeps_B {M : Model} {f : Value} (hf : ∀ a, f ≠ .ref a) (h : Heap) (_ : True) : ∃ k, (k = Keeper.frame ∨ k = Keeper.machine ∨ k = Keeper.boundFrame) ∧ Looks M h (keeperOf f) k := by
  refine ⟨.machine, .inr (.inl rfl), ?_⟩
  have e : keeperOf f = pure Keeper.machine := by
    unfold keeperOf
    cases f <;> first | rfl | exact absurd rfl (hf _)
  rw [e]
  exact .now
theorem c_B {pos : Pos} {f : Value} {first : List Value} {e : Expr} {es : List Expr} {Q : Value → Shared → Prop}
    (h : wpAny (model prog w) A (spliced (backTo pos (starEach (e :: es) env))) (fun vs s₁ => wpAny (model prog w) A (call f (first ++ vs)) Q E s₁) E s)
    (hf : ∀ a, f ≠ .ref a := by intro _ h; cases h)
    (he : starEach (e :: es) env = (false, eval e env) :: starEach es env := by rfl) (hplain : (backTo pos (starEach es env)).any (·.1) = false := by rfl) :
    wpAny (model prog w) A (callWith pos f first (backTo pos (starEach (e :: es) env)) []) Q E s := by
  rw [he] at h ⊢
  exact callWith_of (P := fun _ => True) (by show ((false || (backTo pos (starEach es env)).any (·.1)) || false) = false; rw [hplain]; rfl) (keeps_B hf) (evalArgs_plain (wpAny_mono h (fun _ _ q => ⟨trivial, q⟩) fun _ _ q => q))
theorem e_call {x : Str} {np pos : Pos} {args : List Expr} {Q : Value → Shared → Prop}
    (h : wpAny (model prog w) A (eval (.Name x np) env) (fun f s₁ => wpAny (model prog w) A (callWith pos f [] (backTo pos (starEach args env)) []) Q E s₁) E s) :
    wpAny (model prog w) A (eval (.Call (.Name x np) args [] pos) env) Q E s := wpAny_Call_NameR h
theorem e_meth {o : Expr} {name : Str} {apos pos : Pos} {args : List Expr} {pl : Sem Bool} {Q : Value → Shared → Prop}
    (h : wpAny (model prog w) A (eval o env) (fun ov s₁ => wpAny (model prog w) A (getMethod ov name pl) (fun fx s₂ => match fx with | (f, first) => wpAny (model prog w) A (callWith pos f first (backTo pos (starEach args env)) []) Q E s₂) E s₁) E s)
    (he : eval (.Call (.Attribute o name apos) args [] pos) env = (do
      let ov ← eval o env
      standAt apos.atName
      let (f, first) ← holding [ov] (getMethod ov name pl)
      callWith pos f first (backTo pos (starEach args env)) (backToKw pos (keywordEach [] env))) := by rfl) :
    wpAny (model prog w) A (eval (.Call (.Attribute o name apos) args [] pos) env) Q E s := methodCall_KW (wpAny_mono h (fun _ _ h₁ => wpAny_mono h₁ (fun fx _ h₂ => by obtain ⟨f, first⟩ := fx; exact h₂) fun _ _ q => q) fun _ _ q => q) he
theorem e_attr {o : Expr} {attr : Str} {pos : Pos} {Q : Value → Shared → Prop}
    (h : wpAny (model prog w) A (eval o env) (fun ov s₁ => wpAny (model prog w) A (getAttr ov attr true) Q E s₁) E s)
    (he : eval (.Attribute o attr pos) env = (do
      let ov ← eval o env
      standAt pos.atName
      let r ← holding [ov] (getAttr ov attr true)
      letTemporaryGo o ov r
      pure r) := by with_unfolding_all rfl) :
    wpAny (model prog w) A (eval (.Attribute o attr pos) env) Q E s := Attribute_any_ h he
end
noncomputable def CellP (v : Option Value) (o : Obj) : Prop := o.data = .cell v
inductive CellsOn (env : Env) : List (Str × Option Value) → List Cell → Prop
  | nil : CellsOn env [] []
  | cons {x v c r l} : env.kindOf x = some .cell → env.cells.lookup x = some c → CellsOn env r l → CellsOn env ((x, v) :: r) ((c, CellP v) :: l)

noncomputable def fdOf (K : Frag) (f : Addr) : FuncData := match K.lookup f with
  | some ⟨_, _, .func fd, _⟩ => fd
  | _ => default
noncomputable def isFd (K : Frag) (f : Addr) : Bool := match K.lookup f with
  | some ⟨_, _, .func _, _⟩ => true
  | _ => false
theorem fdOf_is {K : Frag} {f : Addr} (h : isFd K f = true) : ∃ oc od osl, K.lookup f = some ⟨oc, od, .func (fdOf K f), osl⟩ := by
  unfold isFd at h
  unfold fdOf
  split at h
  · rename_i oc od fd osl e
    rw [e]; exact ⟨oc, od, osl, rfl⟩
  · cases h

noncomputable def isLoc (k : NameKind) : Bool := k == .local
noncomputable def isCel (k : NameKind) : Bool := k == .cell
noncomputable def mkFs (sc : Scope) (binds : List (Str × Value)) : List (Str × Option Value) := sc.names.filterMap fun q => if q.2 == .local then some (q.1, bindL (fun n => sc.names.lookup n) binds (fun _ => none) q.1) else none
noncomputable def mkCs (sc : Scope) (binds : List (Str × Value)) : List (Str × Option Value) := sc.names.filterMap fun q => if q.2 == .cell then some (q.1, bindC (fun n => sc.names.lookup n) binds (fun _ => none) q.1) else none
noncomputable def scopeOk (sc : Scope) : Bool := decide (sc.names.map (·.1)).Nodup && (sc.names.all fun q => sc.names.lookup q.1 == some q.2) && sc.kind == .function && !sc.isCoroutine && !sc.isGenerator
theorem scopeOk_is {sc : Scope} (h : scopeOk sc = true) : (sc.names.map (·.1)).Nodup ∧ (∀ q ∈ sc.names, sc.names.lookup q.1 = some q.2) ∧ sc.kind = .function ∧ sc.isCoroutine = false ∧ sc.isGenerator = false := by
  simp only [scopeOk, Bool.and_eq_true, decide_eq_true_eq, List.all_eq_true, beq_iff_eq, Bool.not_eq_true'] at h
  obtain ⟨⟨⟨⟨a, b⟩, c⟩, d⟩, e⟩ := h
  exact ⟨a, b, c, d, e⟩

theorem cellsFrom_some : ∀ (names : List (Str × NameKind)) (lo : Nat) (acc : List (Str × Addr)) (n : Str), ((n, NameKind.cell) ∈ names ∨ (acc.lookup n).isSome = true) → ((cellsFrom lo names acc).lookup n).isSome = true
  | [], _, _, _, h => by
    rcases h with h | h
    · cases h
    · exact h
  | (m, kind) :: r, lo, acc, n, h => by
    unfold cellsFrom
    split
    · rename_i hk
      refine cellsFrom_some r _ _ n ?_
      rcases h with h | h
      · rcases List.mem_cons.mp h with e | h
        · cases e; right; simp
        · exact .inl h
      · right
        rw [List.lookup_cons]
        cases n == m <;> simp [h]
    · rename_i hk
      refine cellsFrom_some r _ _ n ?_
      rcases h with h | h
      · rcases List.mem_cons.mp h with e | h
        · cases e; exact absurd rfl hk
        · exact .inl h
      · exact .inr h

theorem filt_sub (m : Str → Option Value) : ∀ l : List (Str × NameKind), ((l.filterMap fun q => if q.2 == NameKind.local then some (q.1, m q.1) else none).map (·.1)).Sublist (l.map (·.1))
  | [] => .slnil
  | q :: r => by
    rw [List.filterMap_cons]
    cases h : q.2 == NameKind.local with
    | true => simp only [if_true, List.map_cons]; exact (filt_sub m r).cons_cons _
    | false => simp only [Bool.false_eq_true, if_false, List.map_cons]; exact (filt_sub m r).cons _
section
variable {prog : Program} {w : World} {A : Around} {E : Value → Shared → Prop} {σ s : Shared} {p : Heap} {mu mu' : List Cell} {env : Env} {K : Frag} {mg mb : Str → Option Value}

noncomputable def retv : Flow → Value
  | .ret v => v
  | _ => .none
noncomputable def RQ (Q : Value → Shared → Prop) (r : Result) (s : Shared) : Prop := ∃ v, r = .ok (.ret v) ∧ Q v s
theorem call_of {f : Value} {vs : List Value} {kw : List (Str × Value)} {Q : Value → Shared → Prop} (h : codeAny (model prog w) A (.call f ⟨vs, kw⟩) (RQ Q) s) : wpAny (model prog w) A (call f vs kw) Q E s :=
  wpAny_call (codeAny_mono h fun r s' q => by obtain ⟨v, rfl, q⟩ := q; exact q)
theorem cellsOn_of {s s₁ : Shared} {m cm : Str → Option Value} (x : InCallC s env.locals m env.cells cm s₁) (hex : ∀ n, (env.kindOf n = some .cell) → (env.cells.lookup n).isSome = true) :
    ∀ (names : List (Str × NameKind)), (∀ q ∈ names, env.kindOf q.1 = some q.2) → (names.map (·.1)).Nodup →
      ∃ cl, CellsOn env (names.filterMap fun q => if q.2 == .cell then some (q.1, cm q.1) else none) cl ∧
        (∀ q ∈ cl, Pt s₁.heap q.1 q.2 ∧ env.locals < q.1) ∧ (cl.map (·.1)).Nodup ∧ ∀ q ∈ cl, ∃ n, (n, NameKind.cell) ∈ names ∧ env.cells.lookup n = some q.1
  | [], _, _ => ⟨[], .nil, fun _ h => (nomatch h), List.nodup_nil, fun _ h => (nomatch h)⟩
  | (n, k) :: r, hk, nd => by
    obtain ⟨cl, c1, c2, c3, c4⟩ := cellsOn_of x hex r (fun q hq => hk q (.tail _ hq)) (List.nodup_cons.mp nd).2
    cases hb : k == NameKind.cell with
    | false =>
      refine ⟨cl, ?_, c2, c3, fun q hq => let ⟨n', h1, h2⟩ := c4 q hq; ⟨n', .tail _ h1, h2⟩⟩
      rw [List.filterMap_cons]
      simp only [hb]
      exact c1
    | true =>
      have hkc : k = .cell := by simpa using hb
      subst hkc
      have hn := hk _ (.head _)
      obtain ⟨c, hc⟩ := Option.isSome_iff_exists.mp (hex n hn)
      refine ⟨(c, CellP (cm n)) :: cl, ?_, ?_, ?_, ?_⟩
      · rw [List.filterMap_cons]
        simp only [hb]
        exact .cons hn hc c1
      · intro q hq
        rcases List.mem_cons.mp hq with rfl | hq
        · exact ⟨x.cell n c hc, x.above n c (mem_of_lookup hc)⟩
        · exact c2 q hq
      · refine List.nodup_cons.mpr ⟨fun m => ?_, c3⟩
        obtain ⟨q, hq, e⟩ := List.mem_map.mp m
        obtain ⟨n', h1, h2⟩ := c4 q hq
        have : n' = n := name_of_addr x.apart (mem_of_lookup h2) (by rw [e]; exact mem_of_lookup hc)
        subst this
        exact (List.nodup_cons.mp nd).1 (List.mem_map_of_mem (f := (·.1)) h1)
      · intro q hq
        rcases List.mem_cons.mp hq with rfl | hq
        · exact ⟨n, .head _, hc⟩
        · obtain ⟨n', h1, h2⟩ := c4 q hq
          exact ⟨n', .tail _ h1, h2⟩

structure DefOk (K : Frag) (f : Addr) (body : List Stmt) : Prop where
  hf : isFd K f = true
  hcd : codeIn K (fdOf K f).code (fdOf K f).qualname = true
  hbody : (fdOf K f).body = .stmts body
  hg : (fdOf K f).globals = mainGlobals
  hb : (fdOf K f).builtins = builtinsNs
  hc : (fdOf K f).closure = []
  hsc : scopeOk (fdOf K f).scope = true
noncomputable def bindOk (sc : Scope) (binds : List (Str × Value)) : Bool := binds.all fun q => match sc.names.lookup q.1 with | some .local => true | some .cell => true | _ => false
theorem enterB {f : Addr} {body : List Stmt} {args : Args} {binds : List (Str × Value)} {fs cs : List (Str × Option Value)} {k : Nat} {Q : Value → Shared → Prop}
    (T : Tp K mg mb p) (H : St σ p mu s) (R : Rm A (k + 1))
    (D : DefOk K f body) (hbind : BindsTo s (fdOf K f) args binds) (hb : bindOk (fdOf K f).scope binds = true)
    (hfs : mkFs (fdOf K f).scope binds = fs) (hcs : mkCs (fdOf K f).scope binds = cs)
    (h : ∀ env s' cl, env.code = (fdOf K f).code ∧ env.frame = some env.locals → env.scope = (fdOf K f).scope → EnvOk env → CellsOn env cs cl → St σ p ((env.locals, FrameP env fs) :: (cl ++ mu)) s' → Rm (A.deeper env) k →
      wpAny (model prog w) (A.deeper env) (execs body env) (fun fl s' => Q (retv fl) s') NE s') :
    codeAny (model prog w) A (.call (.ref f) args) (RQ Q) s := by
  obtain ⟨hf, hcd, hbody, hg1, hg2, hg3, hsc⟩ := D
  have hg : (fdOf K f).globals = mainGlobals ∧ (fdOf K f).builtins = builtinsNs ∧ (fdOf K f).closure = [] := ⟨hg1, hg2, hg3⟩
  clear hg1 hg2 hg3
  obtain ⟨oc, od, osl, ho⟩ := fdOf_is hf
  obtain ⟨nd, lk, kf, kc, kg⟩ := scopeOk_is hsc
  generalize fdOf K f = fd at *
  obtain ⟨g1, g2, g3⟩ := hg
  have X := T.K.keeps H.keep
  refine codeAny_call_function (fd := fd) (body := body) (by have := R.d; omega) (X _ _ ho) rfl kc kg hbody (codeRec_of X hcd) ?_
  refine hbind _ _ _ _ ?_
  rw [g3]
  have hkind : ∀ x ∈ binds, fd.scope.names.lookup x.1 = some .local ∨ (fd.scope.names.lookup x.1 = some .cell ∧ ((cellsFrom (s.heap.objs.size + 1) fd.scope.names []).lookup x.1).isSome = true) := by
    intro x hx
    have := List.all_eq_true.mp hb x hx
    split at this
    · rename_i e; exact .inl e
    · rename_i e; exact .inr ⟨e, cellsFrom_some _ _ _ _ (.inl (mem_of_lookup e))⟩
    · cases this
  refine wpAny_newFunctionEnv_cells kf hkind fun env he s' x => ?_
  have hes : env.scope = fd.scope := by subst he; rfl
  have hcf : env.code = fd.code ∧ env.frame = some env.locals := by subst he; exact ⟨rfl, rfl⟩
  have heg : env.globals = fd.globals := by subst he; rfl
  have heb : env.builtins = fd.builtins := by subst he; rfl
  have hec : env.cells = cellsFrom (s.heap.objs.size + 1) fd.scope.names [] := by subst he; rfl
  have hko : env.kindOf = fun n => fd.scope.names.lookup n := by funext n; show env.scope.names.lookup n = _; rw [hes]
  clear he
  refine ⟨(T.lim.keeps H.keep).keeps x.toInCall.keep, ?_⟩
  obtain ⟨cl, c1, c2, c3, c4⟩ := cellsOn_of x (fun n hn => by rw [hec]; exact cellsFrom_some _ _ _ _ (.inl (mem_of_lookup (by rw [hko] at hn; exact hn)))) fd.scope.names (fun q hq => by rw [hko]; exact lk q hq) nd
  obtain ⟨h', tk, rfl⟩ := x.toInCall.same
  have low : ∀ q ∈ mu, q.1 < env.locals := fun q hq => let ⟨⟨o, e, _⟩, _⟩ := H.own q hq; Nat.lt_of_lt_of_le (Heap.lt_size e) x.toInCall.fresh
  have off : ∀ a, env.locals ≤ a → p.get? a = none := fun a ha => by
    cases e : p.get? a with
    | none => rfl
    | some o => exact absurd (Heap.lt_size (H.keep _ _ e)) (Nat.not_lt.mpr (Nat.le_trans x.toInCall.fresh ha))
  have F : Pt h' env.locals (FrameP env fs) := by
    refine FrameP.of x.toInCall.ns (fun y v hy => ?_) ⟨?_, fun q hq => ?_, by rw [hes]; exact kf⟩
    · rw [← hfs] at hy
      obtain ⟨q, hq, e⟩ := List.mem_filterMap.mp hy
      rw [hko]
      split at e
      · have e' := Option.some.inj e
        obtain ⟨e1, e2⟩ := Prod.mk.inj e'
        rw [← e1]; exact e2
      · cases e
    · rw [← hfs]
      have sub : ((mkFs fd.scope binds).map (·.1)).Sublist (fd.scope.names.map (·.1)) := by
        unfold mkFs
        exact filt_sub (bindL (fun n => fd.scope.names.lookup n) binds fun _ => none) fd.scope.names
      exact sub.nodup nd
    · rw [← hfs] at hq
      obtain ⟨q', hq', e⟩ := List.mem_filterMap.mp hq
      split at e
      · rename_i z
        cases e
        rw [hko]
        show List.lookup q'.1 fd.scope.names = _
        have := lk q' hq'
        rw [this]
        congr 1
        simpa using z
      · cases e
  have H' : St σ p ((env.locals, FrameP env fs) :: (cl ++ mu)) { s with heap := h', toks := tk } := by
    refine ⟨H.keep.trans x.toInCall.keep, fun q hq => ?_, ?_, H.gens, H.drawn, H.os⟩
    · rcases List.mem_cons.mp hq with rfl | hq
      · exact ⟨F, off _ (Nat.le_refl _)⟩
      · rcases List.mem_append.mp hq with hq | hq
        · exact ⟨(c2 q hq).1, off _ (Nat.le_of_lt (c2 q hq).2)⟩
        · exact ⟨(H.own q hq).1.mono x.toInCall.keep, (H.own q hq).2⟩
    · simp only [List.map_cons, List.map_append]
      refine List.nodup_cons.mpr ⟨fun m => ?_, List.nodup_append.mpr ⟨c3, H.nd, fun a ha b hb e => ?_⟩⟩
      · rcases List.mem_append.mp m with m | m
        · obtain ⟨q, hq, e⟩ := List.mem_map.mp m
          exact absurd (c2 q hq).2 (by rw [e]; exact Nat.lt_irrefl _)
        · obtain ⟨q, hq, e⟩ := List.mem_map.mp m
          exact absurd (low q hq) (by rw [e]; exact Nat.lt_irrefl _)
      · obtain ⟨q, hq, e1⟩ := List.mem_map.mp ha
        obtain ⟨q', hq', e2⟩ := List.mem_map.mp hb
        have h1 := (c2 q hq).2
        have h2 := low q' hq'
        rw [e1] at h1
        rw [e2, ← e] at h2
        exact absurd (Nat.lt_trans h1 h2) (Nat.lt_irrefl _)
  have hcs' : CellsOn env cs cl := by
    rw [← hcs]
    unfold mkCs
    rw [hko] at c1
    exact c1
  refine codeAny_func (wpAny_mono (h env _ cl hcf hes ⟨by rw [hes]; exact kf, heg.trans g1, heb.trans g2⟩ hcs' H' R.deeper) (fun fl s' q => ?_) fun _ _ q => q.elim)
  cases fl <;> exact ⟨_, rfl, q⟩
theorem enter {f : Addr} {body : List Stmt} {args : Args} {binds : List (Str × Value)} {fs cs : List (Str × Option Value)} {k : Nat} {Q : Value → Shared → Prop}
    (T : Tp K mg mb p) (H : St σ p mu s) (R : Rm A (k + 1)) (D : DefOk K f body) (hbind : bindArgs (fdOf K f) args = pure binds) (hb : bindOk (fdOf K f).scope binds = true)
    (hfs : mkFs (fdOf K f).scope binds = fs) (hcs : mkCs (fdOf K f).scope binds = cs)
    (h : ∀ env s' cl, env.scope = (fdOf K f).scope → EnvOk env → CellsOn env cs cl → St σ p ((env.locals, FrameP env fs) :: (cl ++ mu)) s' → Rm (A.deeper env) k →
      wpAny (model prog w) (A.deeper env) (execs body env) (fun fl s' => Q (retv fl) s') NE s') :
    codeAny (model prog w) A (.call (.ref f) args) (RQ Q) s := enterB T H R D (BindsTo.of_eq hbind) hb hfs hcs fun env s' cl _ => h env s' cl
theorem enter0 {f : Addr} {body : List Stmt} {args : Args} {binds : List (Str × Value)} {fs : List (Str × Option Value)} {k : Nat} {Q : Value → Shared → Prop}
    (T : Tp K mg mb p) (H : St σ p mu s) (R : Rm A (k + 1)) (D : DefOk K f body) (hbind : bindArgs (fdOf K f) args = pure binds) (hb : bindOk (fdOf K f).scope binds = true)
    (hfs : mkFs (fdOf K f).scope binds = fs) (hcs : mkCs (fdOf K f).scope binds = [])
    (h : ∀ A env s', env.scope = (fdOf K f).scope → EnvOk env → St σ p ((env.locals, FrameP env fs) :: mu) s' → Rm A k →
      wpAny (model prog w) A (execs body env) (fun fl s' => Q (retv fl) s') NE s') :
    codeAny (model prog w) A (.call (.ref f) args) (RQ Q) s := enterB T H R D (BindsTo.of_eq hbind) hb hfs hcs fun env s' cl _ he ho hc H R => by cases hc; exact h _ env s' he ho H R
end
noncomputable def FlP (fl : List (Str × Value)) (o : Obj) : Prop :=
  ∃ es n, o = dictOf es n ∧ (∀ e ∈ es, ∃ x t, e.key = .str x t) ∧ (∀ name, (es.find? (·.key.isStr name)).map (·.val) = fl.lookup name) ∧ es.length = fl.length
theorem FlP.getL {fl : List (Str × Value)} {es : List DictEntry} (hk : ∀ e ∈ es, ∃ x t, e.key = .str x t) (hf : ∀ name, (es.find? (·.key.isStr name)).map (·.val) = fl.lookup name) (name : Str) : getL name es = some (fl.lookup name) := by
  unfold PySem.W.getL
  have := hf name
  cases e : es.find? (·.key.isStr name) with
  | some q => rw [e] at this; simp only; rw [← this]; rfl
  | none =>
    rw [e] at this
    have hr : es.any (·.refKey) = false := by
      rw [List.any_eq_false]
      intro q hq
      obtain ⟨x, t, h⟩ := hk q hq
      simp [DictEntry.refKey, h]
    simp only [hr, Bool.false_eq_true, if_false]
    rw [← this]; rfl
noncomputable def InstIs (p : Heap) (x C : Addr) (fl : List (Str × Value)) : Prop := ∃ dx, p.get? x = some (instObj C dx) ∧ Pt p dx (FlP fl)
theorem InstIs.mono {p q : Heap} {x C fl} (h : InstIs p x C fl) (l : Le p q) : InstIs q x C fl := let ⟨dx, a, b⟩ := h; ⟨dx, l _ _ a, b.mono l⟩
theorem InstIs.at {h : Heap} {x C fl} (i : InstIs h x C fl) : ∃ dx es n, InstAt h x (instObj C dx) C (some (dictOf es n)) ∧ ∀ name, getL name es = some (fl.lookup name) := by
  obtain ⟨dx, a, o, b, es, n, rfl, hk, hf, _⟩ := i
  exact ⟨dx, es, n, ⟨a, rfl, rfl, b⟩, FlP.getL hk hf⟩

section
variable {prog : Program} {w : World} {A : Around} {E : Value → Shared → Prop} {σ s : Shared} {p : Heap} {mu mu' : List Cell} {env : Env} {fs fs' : List (Str × Option Value)} {K : Frag} {mg mb : Str → Option Value}

noncomputable def fieldOk (K : Frag) (C : Addr) (name : Str) : Bool := plainGet K C name && hasDictIn K C && findIn K (.ref C) name == some none
theorem r_field {x C : Addr} {fl : List (Str × Value)} {name : Str} {v : Value} {Q : Value → Shared → Prop} (T : Tp K mg mb p) (H : St σ p mu s) (I : InstIs p x C fl) (hf : fieldOk K C name = true)
    (hv : fl.lookup name = some v) (hh : handedIn v = true) (h : ∀ s', St σ p mu s' → Q v s') : wpAny (model prog w) A (getAttr (.ref x) name true) Q E s := by
  obtain ⟨dx, es, n, I', g⟩ := (I.mono H.keep).at
  simp only [fieldOk, Bool.and_eq_true, beq_iff_eq] at hf
  refine get_value (T.K.keeps H.keep) I' (plainGet_of hf.1.1).1 (findObj_own hf.1.2 hf.2 rfl ?_) hh (h _ (H.toks _))
  rw [lookIn_dict, g, hv]
noncomputable def methOk (K : Frag) (C : Addr) (name : Str) (f : Addr) : Bool := plainGet K C name && findIn K (.ref C) name == some (some (.ref f)) && isFn K (.ref f)
theorem r_meth {x C f : Addr} {fl : List (Str × Value)} {name : Str} {pl : Sem Bool} {Q : Value × List Value → Shared → Prop} (T : Tp K mg mb p) (H : St σ p mu s) (I : InstIs p x C fl) (hf : methOk K C name f = true)
    (hv : fl.lookup name = none) (h : Q (.ref f, [.ref x]) s) : wpAny (model prog w) A (getMethod (.ref x) name pl) Q E s := by
  obtain ⟨dx, es, n, I', g⟩ := (I.mono H.keep).at
  simp only [methOk, Bool.and_eq_true, beq_iff_eq] at hf
  refine method_fn (T.K.keeps H.keep) I' (plainGet_of hf.1.1).1 (plainGet_of hf.1.1).2 hf.1.2 (beq_iff_eq.mp hf.2) ?_ h
  show (lookIn name (dictOf es n)).map _ = _
  rw [lookIn_dict, g, hv]; rfl

noncomputable def VT (K : Frag) (p : Heap) (x t : Value) : Prop := ∃ H : Heap → Prop, KitX K x t H ∧ H p ∧ (∀ p', Le p p' → H p') ∧ x ≠ .builtin "__main__.__loader__#opaque"
theorem VT.mono {x t : Value} {p' : Heap} (v : VT K p x t) (l : Le p p') : VT K p' x t := let ⟨H, a, _, c, d⟩ := v; ⟨H, a, c _ l, fun q l' => c q (l.trans l'), d⟩
theorem VT.int {i : Int} {t : Tok} : VT K p (.int i t) (.type "int") := ⟨_, kitx_int, trivial, fun _ _ => trivial, fun h => by cases h⟩
theorem VT.none : VT K p .none (.type "NoneType") := ⟨_, kitx_none, trivial, fun _ _ => trivial, fun h => by cases h⟩
theorem VT.list {a : Addr} (h : KitAt a "list" p) : VT K p (.ref a) (.type "list") := ⟨_, kitx_list, h, fun _ l => let ⟨o, e, c⟩ := h; ⟨o, l _ _ e, c⟩, fun h => by cases h⟩
theorem VT.dict {a : Addr} (h : KitAt a "dict" p) : VT K p (.ref a) (.type "dict") := ⟨_, kitx_dict, h, fun _ l => let ⟨o, e, c⟩ := h; ⟨o, l _ _ e, c⟩, fun h => by cases h⟩
noncomputable def classOk (K : Frag) (D : Addr) : Bool := plainGet K D "__class__" && hasDictIn K D && findIn K (.ref D) "__class__" == some (some (.builtin "object.__class__")) &&
  specialIn K (.builtin "object.__class__") "__get__" == some (some (.builtin "getset_descriptor.__get__")) && takesIn K (.builtin "object.__class__") == some true && mroIn K D (.type "object") == some true
theorem VT.inst {x C : Addr} {fl : List (Str × Value)} (i : InstIs p x C fl) (hc : classOk K C = true) : VT K p (.ref x) (.ref C) := by
  obtain ⟨dx, a, o, b, es, n, rfl, hk, hf, _⟩ := i
  simp only [classOk, Bool.and_eq_true, beq_iff_eq] at hc
  obtain ⟨⟨⟨⟨⟨h1, h2⟩, h3⟩, h4⟩, h5⟩, h6⟩ := hc
  exact ⟨_, kitx_own (ox := instObj C dx) (od := dictOf es n) h1 h2 h3 h4 h5 h6, ⟨a, rfl, rfl, b⟩, fun q l => ⟨l _ _ a, rfl, rfl, l _ _ b⟩, fun h => by cases h⟩
theorem r_isi {x t c : Value} {b : Bool} {Q : Value → Shared → Prop} (T : Tp K mg mb p) (H : St σ p mu s) (V : VT K p x t) (e : kitOne K t c = some b) (h : ∀ s', St σ p mu s' → Q (.bool b) s') :
    wpAny (model prog w) A (call (.builtin "isinstance") [x, c]) Q E s := by
  obtain ⟨Hp, Z, _, c', d⟩ := V
  exact kia_one Z (T.K.keeps H.keep) (c' _ H.keep) e d fun tk => h _ (H.toks _)

theorem Rm.under {k : Nat} {C : Addr} {vs : List Value} (R : Rm A (k + 1)) : Rm (A.under (.builtin "type.__call__" ⟨.ref C :: vs, []⟩)) k :=
  ⟨by have := R.d; show A.depth + 1 + k < _; omega, by have := R.u; show A.units + 1 + 8 * k < _; omega, R.h⟩
noncomputable def makeOk (K : Frag) (C f : Addr) : Bool := makesIn K C && findIn K (.ref C) "__init__" == some (some (.ref f)) && typeIn K (.ref f) == some (.type "function")
theorem r_make {C f : Addr} {vs : List Value} {k : Nat} {Q : Value → Shared → Prop} (T : Tp K mg mb p) (H : St σ p mu s) (R : Rm A (k + 1)) (hm : makeOk K C f = true)
    (h : ∀ A' x dx p' s', Rm A' k → Le p p' → p'.get? x = some (instObj C dx) → St σ p' ((dx, FlP []) :: mu) s' → codeAny (model prog w) A' (.call (.ref f) ⟨.ref x :: vs, []⟩) (RQ fun r s'' => r = .none ∧ Q (.ref x) s'') s') :
    codeAny (model prog w) A (.call (.ref C) ⟨vs, []⟩) (RQ Q) s := by
  simp only [makeOk, Bool.and_eq_true, beq_iff_eq] at hm
  obtain ⟨⟨h1, h2⟩, h3⟩ := hm
  have X := T.K.keeps H.keep
  obtain ⟨hp, g, d, t, os⟩ := s
  have H1 := H.alloc emptyDict (FlP []) ⟨[], 0, rfl, fun _ he => (nomatch he), fun _ => rfl, rfl⟩
  have H2 := H1.allocP (instObj C hp.objs.size)
  obtain ⟨p', l, e, H3⟩ := H2
  have hx : ({ heap := hp.push emptyDict, gens := g, drawn := d, toks := t, os := os } : Shared).heap.objs.size = hp.objs.size + 1 := Heap.size_push ..
  rw [hx] at e
  refine make_core (makes_of X h1) (looks_findIn X h2) (fun self => bind_fn X self h3) (.inl rfl) ?_
  have hw := h _ (hp.objs.size + 1) hp.objs.size p' _ (R.under (C := C) (vs := vs)) l e H3
  refine codeAny_mono hw fun r s' q => ?_
  obtain ⟨v, rfl, rfl, q⟩ := q
  exact ⟨rfl, _, rfl, q⟩
end
noncomputable def others (h : Heap) (L d : Addr) : List (Addr × Obj) := (List.range h.objs.size).filterMap fun a => if a = L ∨ a = d then none else (h.get? a).map fun o => (a, o)
theorem mem_others {h : Heap} {L d a : Addr} {o : Obj} : (a, o) ∈ others h L d ↔ h.get? a = some o ∧ a ≠ L ∧ a ≠ d := by
  unfold others
  rw [List.mem_filterMap]
  constructor
  · rintro ⟨b, _, e⟩
    split at e
    · cases e
    · rename_i hn
      obtain ⟨o', e1, e2⟩ := Option.map_eq_some_iff.mp e
      cases e2
      exact ⟨e1, fun z => hn (.inl z), fun z => hn (.inr z)⟩
  · rintro ⟨e, h1, h2⟩
    refine ⟨a, List.mem_range.mpr (Heap.lt_size e), ?_⟩
    rw [if_neg (by rintro (z | z); exact h1 z; exact h2 z), e]; rfl
theorem empty_get (b : Addr) : ({} : Heap).get? b = none := rfl

section
variable {prog : Program} {w : World} {A : Around} {E : Value → Shared → Prop} {σ s : Shared} {p : Heap} {mu mu' : List Cell} {env : Env} {fs fs' : List (Str × Option Value)} {K : Frag} {mg mb : Str → Option Value}

theorem bridge {d : Addr} {od : Obj} {m : Str → Option Value} (hd : s.heap.get? d = some od) (hn : d ≠ env.locals) (hns : s.heap.Ns env.locals m) :
    Fr {} env.locals s.heap m ∧ News {} env.locals s.heap ([] ++ (d, od) :: others s.heap env.locals d) ∧ ∀ q ∈ others s.heap env.locals d, q.1 ≠ d := by
  refine ⟨⟨hns, (fun b o e => by rw [empty_get] at e; cases e), Nat.zero_le _⟩, fun q hq => ?_, fun q hq => (mem_others.mp hq).2.2⟩
  rcases List.mem_cons.mp hq with rfl | hq
  · exact ⟨hd, hn, empty_get _⟩
  · obtain ⟨a, o⟩ := q
    obtain ⟨e, h1, h2⟩ := mem_others.mp hq
    exact ⟨e, h1, empty_get _⟩
theorem bridge_back {d : Addr} {od' : Obj} {P P' : Obj → Prop} {m : Str → Option Value} {h' : Heap} {t : Nat} (H : St σ p ((env.locals, FrameP env fs) :: mu) s) (u : CUpd d P P' mu mu') (hP : P' od')
    (hm : ∀ x v, (x, some v) ∈ fs → m x = some v)
    (F : Fr {} env.locals h' m) (N : News {} env.locals h' ([] ++ (d, od') :: others s.heap env.locals d)) : St σ p ((env.locals, FrameP env fs) :: mu') { s with heap := h', toks := t } := by
  have nd := List.nodup_cons.mp H.nd
  have kept : ∀ a o, s.heap.get? a = some o → a ≠ env.locals → a ≠ d → h'.get? a = some o := fun a o e h1 h2 => (N (a, o) (.tail _ (mem_others.mpr ⟨e, h1, h2⟩))).1
  have hL : p.get? env.locals = none := (H.own _ (.head _)).2
  have hdm := u.mem
  have hdp : p.get? d = none := (H.own _ (.tail _ hdm)).2
  have hdL : d ≠ env.locals := (N _ (.head _)).2.1
  refine ⟨fun b o e => kept b o (H.keep _ _ e) (fun z => by subst z; rw [hL] at e; cases e) (fun z => by subst z; rw [hdp] at e; cases e), fun q hq => ?_, ?_, H.gens, H.drawn, H.os⟩
  · rcases List.mem_cons.mp hq with rfl | hq
    · exact ⟨FrameP.of F.ns hm (FrameP.rest (H.own _ (.head _)).1), hL⟩
    · rcases u.split nd.2 q hq with rfl | ⟨m', ne⟩
      · exact ⟨⟨od', (N _ (.head _)).1, hP⟩, hdp⟩
      · obtain ⟨⟨o, e, r⟩, z⟩ := H.own q (.tail _ m')
        refine ⟨⟨o, kept _ _ e (fun y => nd.1 ?_) ne, r⟩, z⟩
        show env.locals ∈ _
        rw [← y]; exact List.mem_map_of_mem (f := (·.1)) m'
  · rw [List.map_cons, u.keys]; exact H.nd

noncomputable def setOk (K : Frag) (C : Addr) (name : Str) : Bool := findIn K (.ref C) "__setattr__" == some (some (.builtin "object.__setattr__")) && plainOver K C && takerIn K C name == some none && hasDictIn K C
theorem lookup_snoc {l : List (Str × Value)} {x y : Str} {v : Value} (hn : l.lookup x = none) : (l ++ [(x, v)]).lookup y = if y = x then some v else l.lookup y := by
  induction l with
  | nil =>
    show (match y == x with | true => some v | false => List.lookup y []) = _
    by_cases h : y = x
    · simp [h]
    · have : (y == x) = false := by simpa using h
      rw [this, if_neg h]
  | cons q r ih =>
    rw [List.lookup_cons] at hn
    rw [List.cons_append, List.lookup_cons, List.lookup_cons]
    cases hb : x == q.1 with
    | true => rw [hb] at hn; cases hn
    | false =>
      rw [hb] at hn
      cases hc : y == q.1 with
      | true =>
        have : y ≠ x := fun z => by rw [z, hb] at hc; cases hc
        simp [this]
      | false => exact ih hn
theorem isStr_str (x y : Str) (t : Tok) : (Value.str y t).isStr x = (y == x) := rfl
theorem putL_new {name : Str} {hsh : Int} {key v : Value} : ∀ {es : List DictEntry}, es.find? (·.key.isStr name) = none → putL name hsh key v es = es ++ [⟨hsh, key, v⟩]
  | [], _ => rfl
  | e :: r, h => by
    rw [List.find?_cons] at h
    cases hb : e.key.isStr name with
    | true => rw [hb] at h; cases h
    | false => rw [hb] at h; unfold putL; rw [hb]; simp [putL_new (es := r) h]
theorem FlP.put {fl : List (Str × Value)} {es : List DictEntry} {n : Nat} {name : Str} {hsh : Int} {t : Tok} {v : Value} (hk : ∀ e ∈ es, ∃ x t, e.key = .str x t)
    (hf : ∀ x, (es.find? (·.key.isStr x)).map (·.val) = fl.lookup x) (hl : es.length = fl.length) (hn : fl.lookup name = none) :
    FlP (fl ++ [(name, v)]) (Obj.putName name hsh (.str name t) v (dictOf es n)) := by
  have hnone : es.find? (·.key.isStr name) = none := by
    have := hf name
    rw [hn] at this
    simpa using this
  refine ⟨putL name hsh (.str name t) v es, putN name es n, putName_dict .., ?_, ?_, ?_⟩
  · rw [putL_new hnone]
    intro e he
    rcases List.mem_append.mp he with he | he
    · exact hk e he
    · rw [List.mem_singleton.mp he]; exact ⟨name, t, rfl⟩
  · intro x
    rw [putL_new hnone, lookup_snoc hn, List.find?_append]
    by_cases hx : x = name
    · subst hx
      rw [hnone, if_pos rfl]
      simp [isStr_str]
    · rw [if_neg hx, ← hf x]
      cases es.find? (·.key.isStr x) with
      | some q => rfl
      | none =>
        have : (Value.str name t).isStr x = false := by rw [isStr_str]; simpa using fun z => hx z.symm
        simp [this]
  · rw [putL_new hnone]; simp [hl]
theorem r_setattr {x C dx : Addr} {fl : List (Str × Value)} {name : Str} {v : Value} {Q : Unit → Shared → Prop} (T : Tp K mg mb p) (H : St σ p ((env.locals, FrameP env fs) :: mu) s)
    (hx : p.get? x = some (instObj C dx)) (ok : setOk K C name = true) (hn : fl.lookup name = none) (u : CUpd dx (FlP fl) (FlP (fl ++ [(name, v)])) mu mu') (hz : fl.length ≤ 900)
    (h : ∀ s', St σ p ((env.locals, FrameP env fs) :: mu') s' → Q () s') : wpAny (model prog w) A (setAttr (.ref x) name v) Q E s := by
  simp only [setOk, Bool.and_eq_true, beq_iff_eq] at ok
  obtain ⟨⟨⟨k1, k2⟩, k3⟩, k4⟩ := ok
  obtain ⟨o, e, es, n, rfl, hk, hf, hl⟩ := (H.own _ (.tail _ u.mem)).1
  have hdL : dx ≠ env.locals := fun z => (List.nodup_cons.mp H.nd).1 (by show env.locals ∈ _; rw [← z]; exact List.mem_map_of_mem (f := (·.1)) u.mem)
  obtain ⟨m, hns, hm⟩ := FrameP.ns (H.own _ (.head _)).1
  obtain ⟨F, N, a⟩ := bridge (s := { s with toks := s.toks + 1 }) e hdL hns
  have I : InstAt s.heap x (instObj C dx) C (some (dictOf es n)) := ⟨H.keep _ _ hx, rfl, rfl, e⟩
  have X := T.K.keeps H.keep
  have W := FlP.put (n := n) (hsh := PyData.keyHash w.params name) (t := s.toks + 1) (v := v) hk hf hl hn
  obtain ⟨es', n', e', hk', hf', hl'⟩ := W
  refine set_plain X I k1 (osa_dict (s := { s with toks := s.toks + 1 }) (pre := []) F N X I rfl k2 k3 k4 ?_ (fun _ hq => nomatch hq) a e' rfl (by rw [hl']; simp; omega) fun h' F' N' => ?_)
  · show (getL name es).isSome = true
    rw [FlP.getL hk hf]; rfl
  · exact h _ (bridge_back (H.toks _) u ⟨es', n', rfl, hk', hf', hl'⟩ hm F' N')
end
theorem eps {α : Type} {d : Nonempty α} {P : α → Prop} (h : P (@Classical.epsilon α d fun x => ¬ P x)) (x : α) : P x :=
  Classical.byContradiction fun hn => (@Classical.epsilon_spec α (fun x => ¬ P x) ⟨x, hn⟩) h
noncomputable def dA : Around := callerA
noncomputable def dS : Shared := (start (plainProg [])).1
noncomputable def dW : World := ⟨fun _ _ => 0, { strHash := fun _ => 0, shareClass := fun _ => 0, mergeTok := fun t => t, idOf := fun _ => 0, idOfShared := fun _ _ => 0, followText := fun _ => false, idOfImm := fun _ => 0 }⟩
-- small words for the walk: membership, a slot of the frame, an owned cell
local macro_rules | `(tactic| walk_at "mem") => `(tactic| with_reducible first | exact List.mem_cons_self | assumption | (refine List.mem_cons_of_mem _ ?_; walk_at "mem"))
local macro_rules | `(tactic| walk_at "put") => `(tactic| with_reducible first | exact FPut.head | (refine' FPut.tail ?z; (case z => walk_at "put")))
local macro_rules | `(tactic| walk_at "upd") => `(tactic| with_reducible first | exact CUpd.head | (refine' CUpd.tail ?z; (case z => walk_at "upd")))
local macro_rules | `(tactic| walk_at "as") => `(tactic| with_reducible assumption)
-- a name of the frame
local macro_rules | `(tactic| walk_at "loc") => `(tactic| (with_reducible refine' r_loc ?H ?x ?_; (case H => walk_at "as"); (case x => walk_at "mem")))
local macro_rules | `(tactic| walk_at "sto") => `(tactic| (with_reducible refine' st_loc ?H ?u ?_; (case H => walk_at "as"); (case u => walk_at "put")))
local macro_rules | `(tactic| walk_at "glo") => `(tactic| (with_reducible refine' r_glob ?G ?e ?T ?H ?_; (case G => walk_at "as"); (case e => walk_at "as"); (case H => walk_at "as"); (case T => walk_at "as")))
local macro_rules | `(tactic| walk_at "sat") => `(tactic| (refine' r_setattr ?T ?H ?hx ?ok ?hn ?u ?hz ?_; (case H => walk_at "as"); (case u => walk_at "upd"); (case T => walk_at "as"); (case hx => walk_at "as"); (case ok => walk_at "sok"); (case hn => rfl); (case hz => exact Nat.le_of_ble_eq_true rfl)))
noncomputable abbrev KK (w : World) : Frag := K39 w.params
inductive CDel (a : Addr) : List Cell → List Cell → Prop
  | head {P r} : CDel a ((a, P) :: r) r
  | tail {q r r'} : CDel a r r' → CDel a (q :: r) (q :: r')
theorem CDel.mem {a l l'} (u : CDel a l l') : a ∈ l.map (·.1) := by
  induction u with
  | head => exact List.mem_cons_self
  | tail _ ih => exact List.mem_cons_of_mem _ ih
theorem CDel.sub {a l l'} (u : CDel a l l') : l'.Sublist l := by
  induction u with
  | head => exact List.sublist_cons_self _ _
  | tail _ ih => exact ih.cons_cons _
theorem CDel.ne {a l l'} (u : CDel a l l') (nd : (l.map (·.1)).Nodup) : ∀ q ∈ l', q.1 ≠ a := by
  induction u with
  | head =>
    intro q hq e
    exact (List.nodup_cons.mp nd).1 (by rw [← e]; exact List.mem_map_of_mem (f := (·.1)) hq)
  | @tail q₀ r r' u ih =>
    intro q hq e
    have nd' := List.nodup_cons.mp nd
    rcases List.mem_cons.mp hq with rfl | hq
    · exact nd'.1 (by show q.1 ∈ _; rw [e]; exact u.mem)
    · exact ih nd'.2 q hq e
theorem St.del {σ : Shared} {p : Heap} {mu mu' : List Cell} {s s' : Shared} {a : Addr} (H : St σ p mu s) (u : CDel a mu mu') (hs : Heap.ExtBut a s.heap s'.heap)
    (hg : s'.gens = s.gens := by rfl) (hd : s'.drawn = s.drawn := by rfl) (ho : s'.os = s.os := by rfl) : St σ p mu' s' := by
  have hn : p.get? a = none := by
    obtain ⟨q, hq, e⟩ := List.mem_map.mp u.mem
    rw [← e]; exact (H.own q hq).2
  refine ⟨fun b o e => hs b o (fun z => by rw [z, hn] at e; cases e) (H.keep _ _ e), fun q hq => ?_, (u.sub.map _).nodup H.nd, hg.trans H.gens, hd.trans H.drawn, ho.trans H.os⟩
  obtain ⟨⟨o, e, r⟩, z⟩ := H.own q (u.sub.subset hq)
  exact ⟨⟨o, hs _ _ (u.ne H.nd q hq) e, r⟩, z⟩

section
variable {prog : Program} {w : World} {σ : Shared} {p : Heap}

structure Yl (prog : Program) (w : World) (σ : Shared) (p : Heap) (it : Addr) (P : Nat → Obj → Prop) (n : Nat) (val : Nat → Value → Prop) : Prop where
  item : ∀ {A : Around} {E : Value → Shared → Prop} {Q : Option Value → Shared → Prop} {s : Shared} {p' : Heap} {mu mu' : List Cell} (i : Nat), A.handled = none → Le p p' → i < n → St σ p' mu s → CUpd it (P i) (P (i + 1)) mu mu' →
    (∀ v s', val i v → St σ p' mu' s' → Q (some v) s') → wpAny (model prog w) A (pyNext (.ref it)) Q E s
  stop : ∀ {A : Around} {E : Value → Shared → Prop} {Q : Option Value → Shared → Prop} {s : Shared} {p' : Heap} {mu mu' : List Cell}, A.handled = none → Le p p' → St σ p' mu s → (it, P n) ∈ mu → CDel it mu mu' →
    (∀ s', St σ p' mu' s' → Q none s') → wpAny (model prog w) A (pyNext (.ref it)) Q E s
  again : ∀ {A : Around} {E : Value → Shared → Prop} {Q : Value → Shared → Prop} {s : Shared} {p' : Heap} {mu : List Cell}, St σ p' mu s → (it, P 0) ∈ mu → Q (.ref it) s → wpAny (model prog w) A (pyIter (.ref it)) Q E s
noncomputable def Itb (prog : Program) (w : World) (σ : Shared) (p : Heap) (x : Value) (n : Nat) (val : Nat → Value → Prop) : Prop :=
  ∀ {A : Around} {E : Value → Shared → Prop} {Q : Value → Shared → Prop} {s : Shared} {p' : Heap} {mu : List Cell}, Le p p' → St σ p' mu s →
    (∀ it P s', Yl prog w σ p it P n val → St σ p' ((it, P 0) :: mu) s' → Q (.ref it) s') → wpAny (model prog w) A (pyIter x) Q E s

theorem islist_keeps {h h' : Heap} {a : Addr} {items : Array Value} (x : h.IsList a items) (k : Le h h') : h'.IsList a items := let ⟨o, e, r⟩ := x; ⟨o, k _ _ e, r⟩
theorem itb_list {l : Addr} {vs : List Value} (hl : p.IsList l vs.toArray) : Itb prog w σ p (.ref l) vs.length (fun i v => vs[i]? = some v) := by
  intro A E Q s p' mu le H h
  refine wpAny_pyIter_list (islist_keeps hl (le.trans H.keep)) ?_
  refine h _ (fun i o => o.cls = .type "list_iterator" ∧ o.data = .fields #[.ref l, .int i 0]) _ ⟨?_, ?_, ?_⟩ (H.alloc _ _ ⟨rfl, rfl⟩)
  · intro A E Q s p' mu mu' i _ le hi H u h
    obtain ⟨o, e, e1, e2⟩ := (H.own _ u.mem).1
    refine wpAny_pyNext_list_item ⟨o, e, e1, e2⟩ (islist_keeps hl (le.trans H.keep)) (x := vs[i]) (by simp [hi]) fun h' hit hs => h _ _ (by simp [hi]) ?_
    obtain ⟨o', e', e1', e2'⟩ := hit
    exact H.set u hs ⟨o', e', e1', e2'⟩
  · intro A E Q s p' mu mu' hh le H m u h
    obtain ⟨o, e, e1, e2⟩ := (H.own _ m).1
    exact wpAny_pyNext_list_end hh ⟨o, e, e1, e2⟩ (islist_keeps hl (le.trans H.keep)) (by simp) fun h' hs => h _ (H.del u hs)
  · intro A E Q s p' mu H m h
    obtain ⟨o, e, e1, e2⟩ := (H.own _ m).1
    exact wpAny_pyIter_listiter ⟨o, e, e1, e2⟩ h
theorem istuple_keeps {h h' : Heap} {a : Addr} {items : Array Value} (x : h.IsTuple a items) (k : Le h h') : h'.IsTuple a items := let ⟨o, e, r⟩ := x; ⟨o, k _ _ e, r⟩
noncomputable def RgP (a b : Int) (o : Obj) : Prop := ∃ t u v, o = { cls := .type "range", dict := none, data := .fields #[.int a t, .int b u, .int 1 v], slots := #[] }
theorem rangeSize_one (a b : Int) : Builtin.Range.rangeSize a b 1 = ((b - a).toNat : Int) := by
  unfold Builtin.Range.rangeSize
  simp only [show (1 : Int) > 0 from by decide, if_true, Int.ediv_one]
  split <;> omega
theorem itb_range {r : Addr} {a b : Int} (hr : Pt p r (RgP a b)) (ha : -(2 ^ 40) ≤ a ∧ a < 2 ^ 40) (hb : -(2 ^ 40) ≤ b ∧ b < 2 ^ 40) : Itb prog w σ p (.ref r) (b - a).toNat (fun i v => ∃ t, v = .int (a + i) t) := by
  intro A E Q s p' mu le H h
  obtain ⟨o, e, t, u, v, rfl⟩ := hr
  have hsmall : Builtin.Range.small a b 1 = true := by
    unfold Builtin.Range.small Builtin.Range.rangeFitsLong
    rw [rangeSize_one]
    simp only [Bool.and_eq_true, Bool.or_eq_true, decide_eq_true_eq]
    refine ⟨⟨⟨⟨by omega, by omega⟩, by omega⟩, by omega⟩, .inr ?_⟩
    simp; omega
  refine wpAny_pyIter_range (le.trans H.keep _ _ e) hsmall ?_
  refine h _ (fun i o => o = { cls := .type "range_iterator", dict := none, data := .fields #[rawInt (a + i), rawInt (((b - a).toNat : Int) - i), rawInt 1], slots := #[] }) _ ⟨?_, ?_, ?_⟩ (H.alloc _ _ ?_)
  · intro A E Q s p' mu mu' i _ le hi H u h
    obtain ⟨o, e, rfl⟩ := (H.own _ u.mem).1
    refine wpAny_pyNext_range_item e (by omega) fun h' hit hs => h _ _ ⟨_, rfl⟩ ?_
    have e1 : a + (i : Int) + 1 = a + ((i + 1 : Nat) : Int) := by omega
    have e2 : ((b - a).toNat : Int) - (i : Int) - 1 = ((b - a).toNat : Int) - ((i + 1 : Nat) : Int) := by omega
    rw [e1, e2] at hit
    exact H.set u hs ⟨_, hit, rfl⟩
  · intro A E Q s p' mu mu' hh le H m u h
    obtain ⟨o, e, rfl⟩ := (H.own _ m).1
    exact wpAny_pyNext_range_end hh e (by omega) fun h' hs => h _ (H.del u hs)
  · intro A E Q s p' mu H m h
    obtain ⟨o, e, rfl⟩ := (H.own _ m).1
    exact wpAny_pyIter_rangeiter e h
  · rw [rangeSize_one]; simp

end
section
variable {prog : Program} {w : World} {A : Around} {E : Value → Shared → Prop} {σ s : Shared} {p : Heap} {mu mu' : List Cell} {env : Env} {fs fs' : List (Str × Option Value)} {rest : List Stmt}

noncomputable def TurnQ (σ : Shared) (env : Env) (I : Nat → Heap → List (Str × Option Value) → List Cell → Prop) (i : Nat) (p : Heap) (c : Cell) (Q : Flow → Shared → Prop) (f : Flow) (s : Shared) : Prop := match f with
  | .next => ∃ p' fs' mu', Le p p' ∧ I (i + 1) p' fs' mu' ∧ St σ p' ((env.locals, FrameP env fs') :: c :: mu') s
  | .cont => ∃ p' fs' mu', Le p p' ∧ I (i + 1) p' fs' mu' ∧ St σ p' ((env.locals, FrameP env fs') :: c :: mu') s
  | .brk => Q .next s
  | .ret v => Q (.ret v) s

theorem turn_of {I : Nat → Heap → List (Str × Option Value) → List Cell → Prop} {i : Nat} {c : Cell} {p' : Heap} {Q : Flow → Shared → Prop} (l : Le p p') (h : I (i + 1) p' fs' mu') (H : St σ p' ((env.locals, FrameP env fs') :: c :: mu') s) : TurnQ σ env I i p c Q .next s := ⟨_, _, _, l, h, H⟩
theorem for_go {x : Value} {N : Nat} {val : Nat → Value → Prop} {I : Nat → Heap → List (Str × Option Value) → List Cell → Prop} {target : Expr} {body : List Stmt} {Q : Flow → Shared → Prop}
    (hh : A.handled = none) (hi : Itb prog w σ p x N val) (H : St σ p ((env.locals, FrameP env fs) :: mu) s) (h0 : I 0 p fs mu)
    (turn : ∀ i p' fs' mu' c v s', i < N → Le p p' → I i p' fs' mu' → val i v → St σ p' ((env.locals, FrameP env fs') :: c :: mu') s' →
      wpAny (model prog w) A (assign target env v) (fun _ s₂ => wpAny (model prog w) A (execs body env) (TurnQ σ env I i p' c Q) NE s₂) NE s')
    (done : ∀ p' fs' mu' s', Le p p' → I N p' fs' mu' → St σ p' ((env.locals, FrameP env fs') :: mu') s' → Q .next s')
    (ht : ∀ it v, letOwnedTupleGo target it v = pure () := by intro _ _; rfl) :
    wpAny (model prog w) A (pyIter x) (fun it s₂ => codeAny (model prog w) A (.forLoop target it body [] env) (fun r s' => match r with | .ok f => Q f s' | .error e => cameBackBy (model prog w) A env E e s') s₂) E s := by
  refine hi Le.rfl H fun it P s₂ Y H₂ => ?_
  refine codeAny_forLoop (fun n s => ∃ i p' fs' mu', n = N - i ∧ i ≤ N ∧ Le p p' ∧ I i p' fs' mu' ∧ St σ p' ((env.locals, FrameP env fs') :: (it, P i) :: mu') s) ?_ N ⟨0, p, fs, mu, rfl, Nat.zero_le _, Le.rfl, h0, H₂.swap⟩ (ht _)
  rintro n s₃ ⟨i, p', fs', mu', rfl, hiN, le, hI, H₃⟩
  rcases Nat.lt_or_ge i N with hlt | hge
  · refine Y.item i hh le hlt H₃ (.tail .head) fun v s₄ hv H₄ => ?_
    refine wpAny_mono (turn i p' fs' mu' _ v s₄ hlt le hI hv H₄) (fun _ s₅ h₅ => wpAny_mono h₅ (fun f s₆ h₆ => ?_) fun _ _ q => q.elim) fun _ _ q => q.elim
    cases f with
    | next =>
      obtain ⟨p'', fs'', mu'', l, hI', H₆⟩ := h₆
      exact ⟨N - (i + 1), by omega, i + 1, p'', fs'', mu'', rfl, hlt, le.trans l, hI', H₆⟩
    | cont =>
      obtain ⟨p'', fs'', mu'', l, hI', H₆⟩ := h₆
      exact ⟨N - (i + 1), by omega, i + 1, p'', fs'', mu'', rfl, hlt, le.trans l, hI', H₆⟩
    | brk => exact h₆
    | ret v => exact h₆
  · have : i = N := by omega
    subst this
    refine Y.stop hh le H₃ (.tail _ (.head _)) (.tail .head) fun s₄ H₄ => ?_
    exact wpAny_execs_nil (done p' fs' mu' s₄ le hI H₄)

theorem x_for {target iter : Expr} {body : List Stmt} {pos : Pos} {Q : Flow → Shared → Prop}
    (h : wpAny (model prog w) A (eval iter env) (fun x s₁ => wpAny (model prog w) A (pyIter x) (fun it s₂ =>
      codeAny (model prog w) A (.forLoop target it body [] env) (fun r s' => match r with | .ok f => (match f with | .next => wpAny (model prog w) A (execs rest env) Q E s' | f => Q f s') | .error e => cameBackBy (model prog w) A env E e s') s₂) E s₁) E s)
    (hs : ∀ x, foldedSetIterable iter env x = pure x := by intro _; rfl) :
    wpAny (model prog w) A (execs (.For target iter body [] pos :: rest) env) Q E s :=
  wpAny_execs_cons (wpAny_For h hs)
theorem as_name {x : Str} {pos : Pos} {v : Value} {Q : Unit → Shared → Prop} (h : wpAny (model prog w) A (storeName env x v) Q E s) : wpAny (model prog w) A (assign (.Name x pos) env v) Q E s := wpAny_assign_Name h

theorem r_range1 {n : Int} {t : Tok} {Q : Value → Shared → Prop} (H : St σ p mu s) (h : ∀ r p' s', Le p p' → Pt p' r (RgP 0 n) → St σ p' mu s' → Q (.ref r) s') : wpAny (model prog w) A (call (.type "range") [.int n t]) Q E s := by
  refine call_range_1 ?_
  obtain ⟨p', l, e, H'⟩ := H.allocP { cls := .type "range", data := .fields #[.int 0 s.toks, .int n t, .int 1 (s.toks + 1)] }
  exact h _ p' _ l ⟨_, e, _, _, _, rfl⟩ (H'.toks _)
theorem r_range2 {a b : Int} {t u : Tok} {Q : Value → Shared → Prop} (H : St σ p mu s) (h : ∀ r p' s', Le p p' → Pt p' r (RgP a b) → St σ p' mu s' → Q (.ref r) s') : wpAny (model prog w) A (call (.type "range") [.int a t, .int b u]) Q E s := by
  refine call_range_2 ?_
  obtain ⟨p', l, e, H'⟩ := H.allocP { cls := .type "range", data := .fields #[.int a t, .int b u, .int 1 s.toks] }
  exact h _ p' _ l ⟨_, e, _, _, _, rfl⟩ (H'.toks _)

theorem e_cmp {l r : Expr} {op : CmpOp} {pos : Pos} {Q : Value → Shared → Prop}
    (h : wpAny (model prog w) A (eval l env) (fun a s₁ => wpAny (model prog w) A (eval r env) (fun b s₂ => wpAny (model prog w) A (compareOp op a b) Q E s₂) E s₁) E s)
    (hm : behindInMarks op r = false := by with_unfolding_all rfl) : wpAny (model prog w) A (eval (.Compare l [op] [r] pos) env) Q E s := wpAny_Compare1 h hm
theorem t_cmp {l r : Expr} {op : CmpOp} {pos : Pos} {whole : Sem Value} {Q : Bool → Shared → Prop}
    (h : wpAny (model prog w) A (eval l env) (fun a s₁ => wpAny (model prog w) A (eval r env) (fun b s₂ => wpAny (model prog w) A (compareOp op a b) (fun c s₃ => wpAny (model prog w) A (truthy c) Q E s₃) E s₂) E s₁) E s)
    (hm : behindInMarks op r = false := by with_unfolding_all rfl) : wpAny (model prog w) A (isTrue (.Compare l [op] [r] pos) env whole) Q E s := wpAny_isTrue_Compare1 h hm
theorem t_not {x : Expr} {pos : Pos} {whole : Sem Value} {Q : Bool → Shared → Prop} (h : wpAny (model prog w) A (isTrue x env (eval x env)) (fun b s₁ => Q (!b) s₁) E s) :
    wpAny (model prog w) A (isTrue (.UnaryOp .Not x pos) env whole) Q E s := wpAny_isTrue_Not h
theorem t_call {f : Expr} {args : List Expr} {kw : List Keyword} {pos : Pos} {whole : Sem Value} {Q : Bool → Shared → Prop} (h : wpAny (model prog w) A whole (fun v s₁ => wpAny (model prog w) A (truthy v) Q E s₁) E s) :
    wpAny (model prog w) A (isTrue (.Call f args kw pos) env whole) Q E s := wpAny_isTrue_value h
theorem t_name {x : Str} {pos : Pos} {whole : Sem Value} {Q : Bool → Shared → Prop} (h : wpAny (model prog w) A whole (fun v s₁ => wpAny (model prog w) A (truthy v) Q E s₁) E s) :
    wpAny (model prog w) A (isTrue (.Name x pos) env whole) Q E s := wpAny_isTrue_value h
theorem r_tb {b : Bool} {Q : Bool → Shared → Prop} (h : Q b s) : wpAny (model prog w) A (truthy (.bool b)) Q E s := wpAny_truthy_bool h
theorem e_ife {test body orelse : Expr} {pos : Pos} {Q : Value → Shared → Prop}
    (h : wpAny (model prog w) A (isTrue test env (eval test env)) (fun b s₁ => if b then wpAny (model prog w) A (eval body env) Q E s₁ else wpAny (model prog w) A (eval orelse env) Q E s₁) E s) :
    wpAny (model prog w) A (eval (.IfExp test body orelse pos) env) Q E s := wpAny_IfExp h
theorem t_bool {op : BoolOp} {values : List Expr} {pos : Pos} {whole : Sem Value} {Q : Bool → Shared → Prop} (h : wpAny (model prog w) A (allTrue op values env) Q E s) :
    wpAny (model prog w) A (isTrue (.BoolOp op values pos) env whole) Q E s := wpAny_isTrue_BoolOp h
theorem and_cons {x : Expr} {r : List Expr} {Q : Bool → Shared → Prop} (h : wpAny (model prog w) A (isTrue x env (eval x env)) (fun b s₁ => if b then wpAny (model prog w) A (allTrue .And r env) Q E s₁ else Q false s₁) E s) :
    wpAny (model prog w) A (allTrue .And (x :: r) env) Q E s := wpAny_allTrue_And_cons h
theorem and_nil {Q : Bool → Shared → Prop} (h : Q true s) : wpAny (model prog w) A (allTrue .And [] env) Q E s := wpAny_allTrue_And_nil h
theorem e_tuple {elts : List Expr} {k : Nat} {pos : Pos} {Q : Value → Shared → Prop}
    (h : wpAny (model prog w) A (spliced (backTo pos (starEach elts env))) (fun vs s₁ => wpAny (model prog w) A (newTuple vs) Q E s₁) E s) : wpAny (model prog w) A (eval (.Tuple elts k pos) env) Q E s := Tuple_ h
theorem e_list {elts : List Expr} {pos : Pos} {Q : Value → Shared → Prop}
    (h : wpAny (model prog w) A (spliced (backTo pos (starEach elts env))) (fun vs s₁ => wpAny (model prog w) A (newList vs) Q E s₁) E s) : wpAny (model prog w) A (eval (.List elts pos) env) Q E s := List_ h
noncomputable abbrev tupObj (vs : List Value) : Obj := { cls := .type "tuple", data := .seq vs.toArray }
theorem r_newTuple {vs : List Value} {Q : Value → Shared → Prop} (H : St σ p mu s) (hz : vs.length ≤ sizeLine) (h : ∀ a p' s', Le p p' → p'.get? a = some (tupObj vs) → St σ p' mu s' → Q (.ref a) s') :
    wpAny (model prog w) A (newTuple vs) Q E s := by
  obtain ⟨p', l, e, H'⟩ := H.allocP (tupObj vs)
  refine wpAny_newObj_type (h _ p' _ l e H') (by show vs.toArray.size ≤ sizeLine; rw [List.size_toArray]; exact hz)
noncomputable def LsP (vs : List Value) (o : Obj) : Prop := ∃ n, o = { cls := .type "list", data := .seq vs.toArray n }
theorem r_newList {vs : List Value} {Q : Value → Shared → Prop} (H : St σ p mu s) (hz : vs.length ≤ sizeLine) (h : ∀ a s', St σ p ((a, LsP vs) :: mu) s' → Q (.ref a) s') :
    wpAny (model prog w) A (newList vs) Q E s :=
  wpAny_newObj_type (h _ _ (H.alloc { cls := .type "list", data := .seq vs.toArray } (LsP vs) ⟨0, rfl⟩)) (by show vs.toArray.size ≤ sizeLine; rw [List.size_toArray]; exact hz)
end
section
variable {prog : Program} {w : World} {A : Around} {E : Value → Shared → Prop} {σ s : Shared} {p : Heap} {mu mu' : List Cell} {env : Env} {fs fs' : List (Str × Option Value)} {K : Frag} {mg mb : Str → Option Value}
variable {KT : Type} [DecidableEq KT] {knd : KeyKind prog w KT}

noncomputable def DcP (knd : KeyKind prog w KT) (kvs : List (KT × Value)) (o : Obj) : Prop := o.IsDictOf knd kvs
theorem DcP.is {h : Heap} {a : Addr} {kvs : List (KT × Value)} (x : Pt h a (DcP knd kvs)) : h.DictOf knd a kvs := let ⟨o, e, es, ep, r⟩ := x; ⟨o, es, ep, e, r⟩
theorem DcP.of {h : Heap} {a : Addr} {kvs : List (KT × Value)} (x : h.DictOf knd a kvs) : Pt h a (DcP knd kvs) := let ⟨o, es, ep, e, r⟩ := x; ⟨o, e, es, ep, r⟩

theorem ik {n : Int} {t : Tok} : (intKind prog w).is n (.int n t) = true := by simp [intKind, Value.isInt]
theorem sk {x : Str} {t : Tok} : (strKind prog w).is x (.str x t) = true := strKind_is prog w x t
theorem rd_p {a : Addr} {P : Obj → Prop} (H : St σ p mu s) (x : Pt p a P) : Pt s.heap a P := x.mono H.keep
theorem rd_m {a : Addr} {P : Obj → Prop} (H : St σ p mu s) (x : (a, P) ∈ mu) : Pt s.heap a P := (H.own _ x).1

theorem m_dget {d : Addr} {kvs : List (KT × Value)} {pl : Sem Bool} {Q : Value × List Value → Shared → Prop} (x : Pt s.heap d (DcP knd kvs)) (h : Q (.builtin "dict.get", [.ref d]) s) : wpAny (model prog w) A (getMethod (.ref d) "get" pl) Q E s :=
  getMethod_builtin (DcP.is x).typeIs PySem.F.plainAttrs_dict PySem.F.slot_dict_get PySem.F.type_dict_get (DcP.is x).mapOf.noDict h
theorem r_dget2 {d : Addr} {kvs : List (KT × Value)} {k : KT} {key dflt : Value} {Q : Value → Shared → Prop} (H : St σ p mu s) (x : Pt s.heap d (DcP knd kvs)) (lo : (d == sysModules) = false) (hk : knd.is k key = true)
    (h : ∀ s', St σ p mu s' → Q ((valueAt kvs k).getD dflt) s') : wpAny (model prog w) A (call (.builtin "dict.get") [.ref d, key, dflt]) Q E s :=
  call_meetsIn PySem.F.slot_dict_get (DcP.is x).typeIs PySem.F.entry_dict_get (PySem.F.args_dict_get_3 _ _ _) (meets_dict_get_default knd d hk lo dflt) ⟨_, (DcP.is x).mapOf, h _ (H.toks _)⟩
theorem r_dget1 {d : Addr} {kvs : List (KT × Value)} {k : KT} {key : Value} {Q : Value → Shared → Prop} (H : St σ p mu s) (x : Pt s.heap d (DcP knd kvs)) (lo : (d == sysModules) = false) (hk : knd.is k key = true)
    (h : ∀ s', St σ p mu s' → Q ((valueAt kvs k).getD .none) s') : wpAny (model prog w) A (call (.builtin "dict.get") [.ref d, key]) Q E s :=
  call_meetsIn PySem.F.slot_dict_get (DcP.is x).typeIs PySem.F.entry_dict_get (PySem.F.args_dict_get_2 _ _) (meets_dict_get knd d hk lo) ⟨_, (DcP.is x).mapOf, h _ (H.toks _)⟩
theorem r_dset {d : Addr} {kvs : List (KT × Value)} {k : KT} {key v : Value} {Q : Unit → Shared → Prop} (H : St σ p mu s) (u : CUpd d (DcP knd kvs) (DcP knd (stored kvs k v)) mu mu') (hk : knd.is k key = true) (hz : kvs.length ≤ sizeLine)
    (h : ∀ s', St σ p mu' s' → Q () s') : wpAny (model prog w) A (setItem (.ref d) key v) Q E s :=
  wpAny_setItem_pairs hk (DcP.is (H.own _ u.mem).1) (fun h' hd hs => h _ (H.set u hs (DcP.of hd))) hz
theorem r_ditem {d : Addr} {kvs : List (KT × Value)} {k : KT} {key v : Value} {Q : Value → Shared → Prop} (H : St σ p mu s) (x : Pt s.heap d (DcP knd kvs)) (hk : knd.is k key = true) (hv : valueAt kvs k = some v)
    (h : ∀ s', St σ p mu s' → Q v s') : wpAny (model prog w) A (getItem (.ref d) key) Q E s :=
  wpAny_getItem_of hk (DcP.is x).mapOf hv (h _ (H.toks _))
theorem r_din {d : Addr} {kvs : List (KT × Value)} {k : KT} {key : Value} {Q : Value → Shared → Prop} (H : St σ p mu s) (x : Pt s.heap d (DcP knd kvs)) (lo : (d == sysModules) = false) (hk : knd.is k key = true)
    (h : ∀ s', St σ p mu s' → Q (.bool (valueAt kvs k).isSome) s') : wpAny (model prog w) A (compareOp .In key (.ref d)) Q E s :=
  wpAny_in_of hk lo (DcP.is x).mapOf (h _ (H.toks _))

theorem as_pair {a b : Str} {pa pb pos : Pos} {k : Nat} {t : Addr} {x y : Value} {Q : Unit → Shared → Prop} (hh : A.handled = none) (H : St σ p mu s) (ht : p.get? t = some (tupObj [x, y]))
    (h : ∀ s', St σ p mu s' → wpAny (model prog w) A (storeName env a x) (fun _ s₂ => wpAny (model prog w) A (storeName env b y) Q E s₂) E s') :
    wpAny (model prog w) A (assign (.Tuple [.Name a pa, .Name b pb] k pos) env (.ref t)) Q E s := by
  refine wpAny_assign_Tuple hh ⟨_, H.keep _ _ ht, rfl, 0, rfl⟩ rfl rfl fun h' he => ?_
  have H' : St σ p mu { s with heap := h' } := H.grow (fun b o e => he b o (Nat.ne_of_lt (Heap.lt_size e)) e)
  show wpAny (model prog w) A (assignInOrder [assign (.Name a pa) env, assign (.Name b pb) env] [x, y]) Q E _
  refine wpAny_assignInOrder_more (as_name (wpAny_mono (h _ H') (fun _ _ q => ?_) fun _ _ q => q))
  exact wpAny_assignInOrder_more (as_name (wpAny_mono q (fun _ _ q => wpAny_assignInOrder_none q) fun _ _ q => q))
end
theorem ite_t {a b : Prop} (h : a) : if true = true then a else b := h
theorem ite_nt {a b : Prop} (h : b) : if (!true) = true then a else b := h
theorem ite_nf {a b : Prop} (h : a) : if (!false) = true then a else b := h
theorem ite_f {a b : Prop} (h : b) : if false = true then a else b := h
section
variable {prog : Program} {w : World} {A : Around} {E : Value → Shared → Prop} {σ s : Shared} {p : Heap} {mu mu' : List Cell} {env : Env} {fs fs' : List (Str × Option Value)} {K : Frag} {mg mb : Str → Option Value}
theorem kin {P : Prop} (T : Tp K mg mb p) (H : St σ p mu s) (h : P) : K.In s.heap ∧ P := ⟨T.K.keeps H.keep, h⟩
theorem c_KT {pos : Pos} {f : Value} {first : List Value} {e : Expr} {es : List Expr} {Q : Value → Shared → Prop} (_T : Tp K mg mb p) (hk : keepIn K f = true)
    (h : wpAny (model prog w) A (spliced (backTo pos (starEach (e :: es) env))) (fun vs s₁ => K.In s₁.heap ∧ wpAny (model prog w) A (call f (first ++ vs)) Q E s₁) E s)
    (he : starEach (e :: es) env = (false, eval e env) :: starEach es env) (hplain : (backTo pos (starEach es env)).any (·.1) = false) :
    wpAny (model prog w) A (callWith pos f first (backTo pos (starEach (e :: es) env)) []) Q E s := c_K hk h he hplain
theorem c_KT0 {pos : Pos} {f : Value} {first : List Value} {Q : Value → Shared → Prop} (T : Tp K mg mb p) (H : St σ p mu s) (hk : keepIn K f = true) (h : wpAny (model prog w) A (call f (first ++ [])) Q E s) :
    wpAny (model prog w) A (callWith pos f first (backTo pos (starEach [] env)) []) Q E s := callWith_K0 (T.K.keeps H.keep) hk h
theorem e_bin {l r : Expr} {op : Operator} {pos : Pos} {Q : Value → Shared → Prop}
    (h : wpAny (model prog w) A (eval l env) (fun a s₁ => wpAny (model prog w) A (eval r env) (fun b s₂ => wpAny (model prog w) A (binaryOp op a b) Q E s₂) E s₁) E s) :
    wpAny (model prog w) A (eval (.BinOp l op r pos) env) Q E s := wpAny_BinOp h
theorem e_not {x : Expr} {pos : Pos} {op : UnaryOp} {Q : Value → Shared → Prop} (h : wpAny (model prog w) A (eval x env) (fun v s₁ => wpAny (model prog w) A (unaryOp op v) Q E s₁) E s) :
    wpAny (model prog w) A (eval (.UnaryOp op x pos) env) Q E s := wpAny_UnaryOp h
theorem r_nint {a : Int} {t : Tok} {Q : Value → Shared → Prop} (H : St σ p mu s) (h : ∀ t' s', St σ p mu s' → Q (.int (-a) t') s') : wpAny (model prog w) A (unaryOp .USub (.int a t)) Q E s := PyProof.Rows.neg_int (h _ _ (H.toks _))
end
local macro_rules | `(tactic| walk_at "go") => `(tactic| first
  | ((with_reducible refine' r_loc ?H ?x ?_); (case H => with_reducible assumption); (case x => walk_at "mem"))
  | ((with_reducible refine' r_glob ?G ?e ?T ?H ?_); (case G => with_reducible assumption); (case e => with_reducible assumption); (case H => with_reducible assumption); (case T => with_reducible assumption))
  | ((with_reducible refine' a_cons ?_ ?a); (case a => exact rfl))
  | (with_reducible refine' a_nil ?_)
  | ((with_reducible refine' x_assign ?_ ?a); (case a => exact rfl))
  | (with_reducible refine' e_call ?_)
  | ((with_reducible refine' e_meth ?_ ?a); (case a => exact rfl))
  | ((with_reducible refine' e_attr ?_ ?a); (case a => with_unfolding_all rfl))
  | (with_reducible first
    | refine' x_ret ?_
    | refine' x_if ?_
    | refine' x_nil ?_)
  | ((with_reducible refine' t_cmp ?_ ?a); (case a => with_unfolding_all rfl))
  | (with_reducible first
    | refine' t_not ?_
    | refine' t_call ?_
    | refine' t_name ?_
    | refine' t_bool ?_
    | refine' and_cons ?_
    | refine' and_nil ?_)
  | ((with_reducible refine' e_cmp ?_ ?a); (case a => with_unfolding_all rfl))
  | (with_reducible first
    | refine' e_bin ?_
    | refine' e_ife ?_
    | refine' e_tuple ?_
    | refine' e_list ?_)
  | ((with_reducible refine' x_tuple ?_ ?a ?b); (case a => exact rfl); (case b => exact rfl))
  | ((with_reducible refine' x_setitem ?_ ?a); (case a => exact rfl))
  | ((with_reducible refine' x_setattr ?_ ?a); (case a => exact rfl))
  | ((with_reducible refine' x_expr ?he ?_ ?a); (case he => with_reducible assumption); (case a => exact rfl))
  | (with_reducible refine' as_name ?_)
  | ((with_reducible refine' st_loc ?H ?u ?_); (case H => with_reducible assumption); (case u => walk_at "put"); intro s H)
  | ((with_reducible refine' r_int ?H ?_); (case H => with_reducible assumption); intro t s H)
  | ((with_reducible refine' r_str ?H ?_); (case H => with_reducible assumption); intro t s H)
  | ((with_reducible refine' r_bytes ?H ?_); (case H => with_reducible assumption); intro t s H)
  | (with_reducible first
    | refine' r_none ?_
    | refine' r_bool ?_
    | refine' r_tb ?_)
  | ((with_reducible refine' c_B ?_ ?a ?b ?c); (case a => (intro _ h; cases h)); (case b => exact rfl); (case c => exact rfl))
  | ((with_reducible refine' c_KT ?T ?hk ?_ ?b ?c); (case T => with_reducible assumption); (case hk => walk_at "kok"); (case b => exact rfl); (case c => exact rfl))
  | ((with_reducible refine' c_KT0 ?T ?H ?hk ?_); (case H => with_reducible assumption); (case T => with_reducible assumption); (case hk => walk_at "kok"))
  | ((with_reducible refine' kin ?T ?H ?_); (case H => with_reducible assumption); (case T => with_reducible assumption))
  | ((with_reducible refine' r_field ?T ?H ?I ?hf ?hv ?hh ?_); (case H => with_reducible assumption); (case T => with_reducible assumption); (case I => with_reducible assumption); (case hf => walk_at "fok"); (case hv => exact rfl); (case hh => exact rfl); intro s H)
  | ((with_reducible refine' r_meth ?T ?H ?I ?hf ?hv ?_); (case H => with_reducible assumption); (case T => with_reducible assumption); (case I => with_reducible assumption); (case hv => exact rfl); (case hf => walk_at "mok"))
  | (with_reducible first
    | refine ite_t ?_
    | refine ite_f ?_
    | refine ite_nt ?_
    | refine ite_nf ?_))
section
variable {prog : Program} {w : World} {A : Around} {E : Value → Shared → Prop} {σ s : Shared} {p : Heap} {mu mu' : List Cell} {env : Env} {fs fs' : List (Str × Option Value)} {K : Frag} {mg mb : Str → Option Value}
variable {KT : Type} [DecidableEq KT] {knd : KeyKind prog w KT}

noncomputable def Rd (p : Heap) (mu : List Cell) (a : Addr) (P : Obj → Prop) : Prop := (a, P) ∈ mu ∨ Pt p a P
theorem Rd.c {q : Cell} {a P} (x : Rd p mu a P) : Rd p (q :: mu) a P := x.imp (List.mem_cons_of_mem _) id
theorem Rd.at {a P} (x : Rd p mu a P) (H : St σ p mu s) : Pt s.heap a P := x.elim (fun m => (H.own _ m).1) (fun y => y.mono H.keep)
theorem Rd.mono {p' : Heap} {a P} (x : Rd p mu a P) (l : Le p p') : Rd p' mu a P := x.imp id fun y => y.mono l
theorem Rd.sub {a P} (x : Rd p mu a P) (l : ∀ q ∈ mu, q ∈ mu') : Rd p mu' a P := x.imp (l _) id

theorem fresh_mods (T : Tp K mg mb p) (H : St σ p mu s) : (s.heap.objs.size == sysModules) = false := by
  have h : s.heap.objs.size ≠ sysModules := Nat.ne_of_gt (PyProof.Rows.modules_low (T.lim.keeps H.keep))
  simpa using h

theorem e_dict0 {pos : Pos} {Q : Value → Shared → Prop} (T : Tp K mg mb p) (H : St σ p mu s)
    (h : ∀ d s', (d == sysModules) = false → St σ p ((d, DcP knd []) :: mu) s' → Q (.ref d) s') : wpAny (model prog w) A (eval (.Dict [] [] pos) env) Q E s :=
  wpAny_Dict_empty (h _ _ (fresh_mods T H) (H.alloc { cls := .type "dict", data := .dict #[] } (DcP knd []) ⟨#[], 0, ⟨rfl, rfl, rfl⟩, rfl, fun _ he => by simp at he, .nil, List.nodup_nil⟩))
noncomputable def DictQ (knd : KeyKind prog w KT) (σ : Shared) (env : Env) (fs : List (Str × Option Value)) (d : Addr) (Q : Value → Shared → Prop) (vs : List (Value × Value)) (s₂ : Shared) : Prop :=
  ∃ kvs p' mu', Carries knd vs kvs ∧ (kvs.map (·.1)).Nodup ∧ St σ p' ((env.locals, FrameP env fs) :: (d, DcP knd []) :: mu') s₂ ∧ ∀ s₃, St σ p' ((env.locals, FrameP env fs) :: (d, DcP knd kvs) :: mu') s₃ → Q (.ref d) s₃
theorem dict_of {d : Addr} {Q : Value → Shared → Prop} {vs : List (Value × Value)} (kvs : List (KT × Value)) (hc : Carries knd vs kvs) (hn : (kvs.map (·.1)).Nodup) (H : St σ p ((env.locals, FrameP env fs) :: (d, DcP knd []) :: mu) s)
    (k : ∀ s₃, St σ p ((env.locals, FrameP env fs) :: (d, DcP knd kvs) :: mu) s₃ → Q (.ref d) s₃) : DictQ knd σ env fs d Q vs s := ⟨kvs, p, mu, hc, hn, H, k⟩
theorem e_dict {keys : List (Option Expr)} {values : List Expr} {pos : Pos} {Q : Value → Shared → Prop} (T : Tp K mg mb p) (H : St σ p ((env.locals, FrameP env fs) :: mu) s)
    (hall : keys.all (·.isSome) = true) (hl : keys.length = values.length) (h0 : keys ≠ []) (hlen : keys.length ≤ 15)
    (h : ∀ d s₁, (d == sysModules) = false → St σ p ((env.locals, FrameP env fs) :: (d, DcP knd []) :: mu) s₁ →
      wpAny (model prog w) A (evalPairs (pairTrees keys values env pos)) (DictQ knd σ env fs d Q) E s₁) :
    wpAny (model prog w) A (eval (.Dict keys values pos) env) Q E s := by
  refine wpAny_Dict_walk (knd := knd) hall hl h0 hlen ?_
  have H1 := (H.alloc { cls := .type "dict", data := .dict #[] } (DcP knd []) ⟨#[], 0, ⟨rfl, rfl, rfl⟩, rfl, fun _ he => by simp at he, .nil, List.nodup_nil⟩).swap
  refine wpAny_mono (h _ _ (fresh_mods T H) H1) (fun vs s₂ q => ?_) fun _ _ q => q
  obtain ⟨kvs, p', mu', hc, hn, H2, k⟩ := q
  refine ⟨kvs, hc, DcP.is (H2.own _ (.tail _ (.head _))).1, fun h' hd hs => ?_⟩
  rw [merged_nil_of_nodup _ hn] at hd
  exact k _ ((H2.toks _).set (.tail .head) hs (DcP.of hd))
theorem p_cons {k v : Expr} {ks : List (Option Expr)} {vs : List Expr} {pos : Pos} {Q : List (Value × Value) → Shared → Prop}
    (h : wpAny (model prog w) A (eval k env) (fun kv s₁ => wpAny (model prog w) A (eval v env) (fun vv s₂ => wpAny (model prog w) A (evalPairs (pairTrees ks vs env pos)) (fun r s₃ => Q ((kv, vv) :: r) s₃) E s₂) E s₁) E s) :
    wpAny (model prog w) A (evalPairs (pairTrees (some k :: ks) (v :: vs) env pos)) Q E s := pairTrees_cons_walk h
theorem p_nil {pos : Pos} {Q : List (Value × Value) → Shared → Prop} (h : Q [] s) : wpAny (model prog w) A (evalPairs (pairTrees [] [] env pos)) Q E s := pairTrees_nil_walk h

theorem r_deq {a b : Addr} {ka kb : List (KT × Value)} {Q : Value → Shared → Prop} (da : Pt s.heap a (DcP knd ka)) (db : Pt s.heap b (DcP knd kb)) (la : (a == sysModules) = false) (lb : (b == sysModules) = false) (hu : A.units < cLine)
    (hl : (ka.length == kb.length) = false) (h : Q (.bool false) s) : wpAny (model prog w) A (compareOp .Eq (.ref a) (.ref b)) Q E s :=
  keq_eq la lb (DcP.is da) (DcP.is db) hu (r := false) (fun e => by rw [e] at hl; simp at hl) (by rw [hl]; exact h)
theorem r_deq0 {a b : Addr} {Q : Value → Shared → Prop} (da : Pt s.heap a (DcP knd ([] : List (KT × Value)))) (db : Pt s.heap b (DcP knd [])) (la : (a == sysModules) = false) (lb : (b == sysModules) = false) (hu : A.units < cLine)
    (h : Q (.bool true) s) : wpAny (model prog w) A (compareOp .Eq (.ref a) (.ref b)) Q E s :=
  keq_eq la lb (DcP.is da) (DcP.is db) hu (r := true) (fun _ => .nil) h
end
section
variable {prog : Program} {w : World} {A : Around} {E : Value → Shared → Prop} {σ s : Shared} {p : Heap} {mu mu' : List Cell} {env : Env} {fs fs' : List (Str × Option Value)} {K : Frag} {mg mb : Str → Option Value}
theorem LsP.is {h : Heap} {a : Addr} {vs : List Value} (x : Pt h a (LsP vs)) : h.IsList a vs.toArray := let ⟨o, e, n, q⟩ := x; ⟨o, e, by rw [q], n, by rw [q]⟩
theorem LsP.plain {h : Heap} {a : Addr} {vs : List Value} (x : Pt h a (LsP vs)) : h.PlainList a vs.toArray := let ⟨o, e, n, q⟩ := x; ⟨n, by rw [e, q]⟩
theorem m_append {l : Addr} {vs : List Value} {pl : Sem Bool} {Q : Value × List Value → Shared → Prop} (x : Pt s.heap l (LsP vs)) (h : Q (.builtin "list.append", [.ref l]) s) : wpAny (model prog w) A (getMethod (.ref l) "append" pl) Q E s := by
  obtain ⟨o, e, n, rfl⟩ := x
  exact getMethod_list_append e rfl rfl h
theorem r_append {l : Addr} {vs : List Value} {x : Value} {Q : Value → Shared → Prop} (H : St σ p mu s) (u : CUpd l (LsP vs) (LsP (vs ++ [x])) mu mu') (hz : vs.length ≤ sizeLine)
    (h : ∀ s', St σ p mu' s' → Q .none s') : wpAny (model prog w) A (call (.builtin "list.append") [.ref l, x]) Q E s :=
  wpAny_list_append_plain (LsP.plain (H.own _ u.mem).1) (fun h' hp hs => h _ (H.set u hs (by obtain ⟨n, e⟩ := hp; exact ⟨_, e, n, by simp⟩))) (by simpa using hz)
theorem r_notin {l : Addr} {vs : List Value} {ns : List Int} {k : Int} {t : Tok} {Q : Value → Shared → Prop} (x : Pt s.heap l (LsP vs)) (hi : IntsAre vs ns) (h : Q (.bool (!(ns.any (· == k)))) s) :
    wpAny (model prog w) A (compareOp .NotIn (.int k t) (.ref l)) Q E s := notin_list_ints (LsP.is x) hi h
theorem r_in {l : Addr} {vs : List Value} {ns : List Int} {k : Int} {t : Tok} {Q : Value → Shared → Prop} (x : Pt s.heap l (LsP vs)) (hi : IntsAre vs ns) (h : Q (.bool (ns.any (· == k))) s) :
    wpAny (model prog w) A (compareOp .In (.int k t) (.ref l)) Q E s := in_list_ints (LsP.is x) hi h
theorem itb_ls {l : Addr} {vs : List Value} (hl : Pt p l (LsP vs)) : Itb prog w σ p (.ref l) vs.length (fun i v => vs[i]? = some v) := itb_list (LsP.is hl)
theorem e_bool {op : BoolOp} {values : List Expr} {pos : Pos} {Q : Value → Shared → Prop} (h : wpAny (model prog w) A (boolOp pos op (evalEach values env)) Q E s) :
    wpAny (model prog w) A (eval (.BoolOp op values pos) env) Q E s := h
theorem bo_one {x : Expr} {op : BoolOp} {pos : Pos} {Q : Value → Shared → Prop} (h : wpAny (model prog w) A (eval x env) Q E s) : wpAny (model prog w) A (boolOp pos op (evalEach [x] env)) Q E s := h
theorem bo_and {x y : Expr} {r : List Expr} {pos : Pos} {Q : Value → Shared → Prop}
    (h : wpAny (model prog w) A (eval x env) (fun v s₁ => wpAny (model prog w) A (truthy v) (fun t s₂ => if t = true then wpAny (model prog w) A (boolOp pos .And (evalEach (y :: r) env)) Q E s₂ else Q v s₂) E s₁) E s) :
    wpAny (model prog w) A (boolOp pos .And (evalEach (x :: y :: r) env)) Q E s := by
  show wpAny (model prog w) A (do
    let v ← eval x env
    standAt pos
    let t ← holding [v] (truthy v)
    match BoolOp.And, t with
    | .And, false | .Or, true => pure v
    | _, _ => boolOp pos .And (evalEach (y :: r) env)) Q E s
  refine wpAny_bind (wpAny_mono h (fun v s₁ h₁ => wpAny_bind (wpAny_standAt (wpAny_bind (wpAny_holding (wpAny_mono h₁ (fun t s₂ h₂ => ?_) fun _ _ q => q))))) fun _ _ q => q)
  cases t with
  | true => exact h₂
  | false => exact wpAny_pure h₂
theorem bo_or {x y : Expr} {r : List Expr} {pos : Pos} {Q : Value → Shared → Prop}
    (h : wpAny (model prog w) A (eval x env) (fun v s₁ => wpAny (model prog w) A (truthy v) (fun t s₂ => if t = true then Q v s₂ else wpAny (model prog w) A (boolOp pos .Or (evalEach (y :: r) env)) Q E s₂) E s₁) E s) :
    wpAny (model prog w) A (boolOp pos .Or (evalEach (x :: y :: r) env)) Q E s := by
  show wpAny (model prog w) A (do
    let v ← eval x env
    standAt pos
    let t ← holding [v] (truthy v)
    match BoolOp.Or, t with
    | .And, false | .Or, true => pure v
    | _, _ => boolOp pos .Or (evalEach (y :: r) env)) Q E s
  refine wpAny_bind (wpAny_mono h (fun v s₁ h₁ => wpAny_bind (wpAny_standAt (wpAny_bind (wpAny_holding (wpAny_mono h₁ (fun t s₂ h₂ => ?_) fun _ _ q => q))))) fun _ _ q => q)
  cases t with
  | true => exact wpAny_pure h₂
  | false => exact h₂
end
section
variable {w : World} {mg mb : Str → Option Value} {p : Heap}
noncomputable def Gl (mg mb : Str → Option Value) (x : Str) (v : Value) : Prop := mg x = some v ∨ (mg x = none ∧ mb x = some v)
theorem gl_n {K : Frag} {x : Str} {v : Value} (T : Tp K mg mb p) (e : nsIn K mainGlobals x = some (some v)) : Gl mg mb x v := .inl (mg_of T.K T.g e)
theorem gl_b {K : Frag} {x : Str} {v : Value} (T : Tp K mg mb p) (e : nsIn K mainGlobals x = some none) (hb : bootBuiltins x = some v) (hn : x ≠ "__name__") : Gl mg mb x v := .inr ⟨mg_none_of T.K T.g e, (T.bi x hn).trans hb⟩
theorem gnl {env : Env} {sc : Scope} {x : Str} {v : Value} (he : env.scope = sc) (e : sc.names.lookup x = some .globalImplicit) (g : Gl mg mb x v) (hd : (x == ("__debug__" : Str)) = false := by decide) : GN env mg mb x v :=
  ⟨by unfold Env.kindOf; rw [he]; exact e, g, hd⟩
theorem gl_gName (T : Tp (KK w) mg mb p) : Gl mg mb "Name" (.ref 195) := gl_n T (by kernel_rfl)
theorem gl_gString (T : Tp (KK w) mg mb p) : Gl mg mb "String" (.ref 217) := gl_n T (by kernel_rfl)
theorem gl_gReference (T : Tp (KK w) mg mb p) : Gl mg mb "Reference" (.ref 266) := gl_n T (by kernel_rfl)
theorem gl_gShelf (T : Tp (KK w) mg mb p) : Gl mg mb "Shelf" (.ref 375) := gl_n T (by kernel_rfl)
theorem gl_gword_at (T : Tp (KK w) mg mb p) : Gl mg mb "word_at" (.ref 384) := gl_n T (by kernel_rfl)
theorem gl_gitems_at (T : Tp (KK w) mg mb p) : Gl mg mb "items_at" (.ref 391) := gl_n T (by kernel_rfl)
theorem gl_gis_group (T : Tp (KK w) mg mb p) : Gl mg mb "is_group" (.ref 398) := gl_n T (by kernel_rfl)
theorem gl_ggroups_in (T : Tp (KK w) mg mb p) : Gl mg mb "groups_in" (.ref 405) := gl_n T (by kernel_rfl)
theorem gl_glayer_head (T : Tp (KK w) mg mb p) : Gl mg mb "layer_head" (.ref 412) := gl_n T (by kernel_rfl)
theorem gl_ggroup_numbers (T : Tp (KK w) mg mb p) : Gl mg mb "group_numbers" (.ref 419) := gl_n T (by kernel_rfl)
theorem gl_ggroup_label (T : Tp (KK w) mg mb p) : Gl mg mb "group_label" (.ref 426) := gl_n T (by kernel_rfl)
theorem gl_gpurposes (T : Tp (KK w) mg mb p) : Gl mg mb "purposes" (.ref 431) := gl_n T (by kernel_rfl)
theorem gl_gConfiguration (T : Tp (KK w) mg mb p) : Gl mg mb "Configuration" (.ref 448) := gl_n T (by kernel_rfl)
theorem gl_gconfiguration_of (T : Tp (KK w) mg mb p) : Gl mg mb "configuration_of" (.ref 457) := gl_n T (by kernel_rfl)
theorem gl_gconfiguration (T : Tp (KK w) mg mb p) : Gl mg mb "configuration" (.ref 463) := gl_n T (by kernel_rfl)
theorem gl_gstarting_states (T : Tp (KK w) mg mb p) : Gl mg mb "starting_states" (.ref 471) := gl_n T (by kernel_rfl)
theorem gl_gcrowded_rows (T : Tp (KK w) mg mb p) : Gl mg mb "crowded_rows" (.ref 476) := gl_n T (by kernel_rfl)
theorem gl_gorder_rows (T : Tp (KK w) mg mb p) : Gl mg mb "order_rows" (.ref 484) := gl_n T (by kernel_rfl)
theorem gl_gput_layer_head (T : Tp (KK w) mg mb p) : Gl mg mb "put_layer_head" (.ref 491) := gl_n T (by kernel_rfl)
theorem gl_gput_group (T : Tp (KK w) mg mb p) : Gl mg mb "put_group" (.ref 498) := gl_n T (by kernel_rfl)
theorem gl_glayer_faults (T : Tp (KK w) mg mb p) : Gl mg mb "layer_faults" (.ref 503) := gl_n T (by kernel_rfl)
theorem gl_glaw_taker (T : Tp (KK w) mg mb p) : Gl mg mb "_law_taker" (.ref 510) := gl_n T (by kernel_rfl)
theorem gl_glaw_items (T : Tp (KK w) mg mb p) : Gl mg mb "_law_items" (.ref 515) := gl_n T (by kernel_rfl)
theorem gl_glaw_is_refused (T : Tp (KK w) mg mb p) : Gl mg mb "_law_is_refused" (.ref 522) := gl_n T (by kernel_rfl)
theorem gl_gDraftFault (T : Tp (KK w) mg mb p) : Gl mg mb "DraftFault" (.ref 71) := gl_n T (by kernel_rfl)
theorem gl_gTreeFault (T : Tp (KK w) mg mb p) : Gl mg mb "TreeFault" (.ref 59) := gl_n T (by kernel_rfl)
theorem gl_gMOST_HOPS (T : Tp (KK w) mg mb p) : Gl mg mb "MOST_HOPS" (.int 30 393) := gl_n T (by kernel_rfl)
theorem gl_gMOST_NESTED (T : Tp (KK w) mg mb p) : Gl mg mb "MOST_NESTED" (.int 20 664) := gl_n T (by kernel_rfl)
theorem gl_grange (T : Tp (KK w) mg mb p) : Gl mg mb "range" (.type "range") := gl_b T (by kernel_rfl) (by kernel_rfl) (by decide)
theorem gl_gisinstance (T : Tp (KK w) mg mb p) : Gl mg mb "isinstance" (.builtin "isinstance") := gl_b T (by kernel_rfl) (by kernel_rfl) (by decide)
theorem gl_glen (T : Tp (KK w) mg mb p) : Gl mg mb "len" (.builtin "len") := gl_b T (by kernel_rfl) (by kernel_rfl) (by decide)
theorem gl_gdict (T : Tp (KK w) mg mb p) : Gl mg mb "dict" (.type "dict") := gl_b T (by kernel_rfl) (by kernel_rfl) (by decide)
theorem gl_glist (T : Tp (KK w) mg mb p) : Gl mg mb "list" (.type "list") := gl_b T (by kernel_rfl) (by kernel_rfl) (by decide)
theorem gl_gbytes (T : Tp (KK w) mg mb p) : Gl mg mb "bytes" (.type "bytes") := gl_b T (by kernel_rfl) (by kernel_rfl) (by decide)
theorem gl_gset (T : Tp (KK w) mg mb p) : Gl mg mb "set" (.type "set") := gl_b T (by kernel_rfl) (by kernel_rfl) (by decide)
theorem gl_gstr (T : Tp (KK w) mg mb p) : Gl mg mb "str" (.type "str") := gl_b T (by kernel_rfl) (by kernel_rfl) (by decide)
theorem gl_gException (T : Tp (KK w) mg mb p) : Gl mg mb "Exception" (.type "Exception") := gl_b T (by kernel_rfl) (by kernel_rfl) (by decide)
theorem mk_fetch : methOk (KK w) 375 "fetch" 311 = true := by kernel_rfl
theorem mk_get : methOk (KK w) 375 "get" 318 = true := by kernel_rfl
theorem mk_root : methOk (KK w) 375 "root" 367 = true := by kernel_rfl
theorem mk_put : methOk (KK w) 375 "put" 339 = true := by kernel_rfl
theorem mk_add : methOk (KK w) 375 "add" 346 = true := by kernel_rfl
theorem fk_octets : fieldOk (KK w) 217 "octets" = true := by kernel_rfl
theorem fk_radio : fieldOk (KK w) 448 "radio" = true := by kernel_rfl
theorem ck_195 : classOk (KK w) 195 = true := by kernel_rfl
theorem ck_217 : classOk (KK w) 217 = true := by kernel_rfl
theorem ck_266 : classOk (KK w) 266 = true := by kernel_rfl
theorem mo_195 : makeOk (KK w) 195 192 = true := by kernel_rfl
theorem mo_217 : makeOk (KK w) 217 214 = true := by kernel_rfl
theorem mo_266 : makeOk (KK w) 266 256 = true := by kernel_rfl
theorem mo_448 : makeOk (KK w) 448 445 = true := by kernel_rfl
theorem mo_375 : makeOk (KK w) 375 304 = true := by kernel_rfl
theorem ki_int_r266 : kitOne (KK w) (.type "int") (.ref 266) = some false := by kernel_rfl
theorem ki_int_list : kitOne (KK w) (.type "int") (.type "list") = some false := by kernel_rfl
theorem ki_int_r217 : kitOne (KK w) (.type "int") (.ref 217) = some false := by kernel_rfl
theorem ki_none_r266 : kitOne (KK w) (.type "NoneType") (.ref 266) = some false := by kernel_rfl
theorem ki_none_list : kitOne (KK w) (.type "NoneType") (.type "list") = some false := by kernel_rfl
theorem ki_none_dict : kitOne (KK w) (.type "NoneType") (.type "dict") = some false := by kernel_rfl
theorem ki_none_r195 : kitOne (KK w) (.type "NoneType") (.ref 195) = some false := by kernel_rfl
theorem ki_none_r217 : kitOne (KK w) (.type "NoneType") (.ref 217) = some false := by kernel_rfl
theorem ki_list_r266 : kitOne (KK w) (.type "list") (.ref 266) = some false := by kernel_rfl
theorem ki_list_list : kitOne (KK w) (.type "list") (.type "list") = some true := by kernel_rfl
theorem ki_list_dict : kitOne (KK w) (.type "list") (.type "dict") = some false := by kernel_rfl
theorem ki_list_r217 : kitOne (KK w) (.type "list") (.ref 217) = some false := by kernel_rfl
theorem ki_dict_r266 : kitOne (KK w) (.type "dict") (.ref 266) = some false := by kernel_rfl
theorem ki_dict_dict : kitOne (KK w) (.type "dict") (.type "dict") = some true := by kernel_rfl
theorem ki_dict_r217 : kitOne (KK w) (.type "dict") (.ref 217) = some false := by kernel_rfl
theorem ki_r266_r266 : kitOne (KK w) (.ref 266) (.ref 266) = some true := by kernel_rfl
theorem ki_r266_r217 : kitOne (KK w) (.ref 266) (.ref 217) = some false := by kernel_rfl
theorem ki_r195_r266 : kitOne (KK w) (.ref 195) (.ref 266) = some false := by kernel_rfl
theorem ki_r195_r195 : kitOne (KK w) (.ref 195) (.ref 195) = some true := by kernel_rfl
theorem ki_r217_r266 : kitOne (KK w) (.ref 217) (.ref 266) = some false := by kernel_rfl
theorem ki_r217_list : kitOne (KK w) (.ref 217) (.type "list") = some false := by kernel_rfl
theorem ki_r217_r217 : kitOne (KK w) (.ref 217) (.ref 217) = some true := by kernel_rfl
theorem d256 : DefOk (KK w) 256 (bodyOf (meth 13 0)) := ⟨by kernel_rfl, by kernel_rfl, by kernel_rfl, by kernel_rfl, by kernel_rfl, by kernel_rfl, by kernel_rfl⟩
theorem d192 : DefOk (KK w) 192 (bodyOf (meth 10 0)) := ⟨by kernel_rfl, by kernel_rfl, by kernel_rfl, by kernel_rfl, by kernel_rfl, by kernel_rfl, by kernel_rfl⟩
theorem d214 : DefOk (KK w) 214 (bodyOf (meth 11 0)) := ⟨by kernel_rfl, by kernel_rfl, by kernel_rfl, by kernel_rfl, by kernel_rfl, by kernel_rfl, by kernel_rfl⟩
theorem d304 : DefOk (KK w) 304 (bodyOf (meth 18 0)) := ⟨by kernel_rfl, by kernel_rfl, by kernel_rfl, by kernel_rfl, by kernel_rfl, by kernel_rfl, by kernel_rfl⟩
theorem d311 : DefOk (KK w) 311 (bodyOf (meth 18 1)) := ⟨by kernel_rfl, by kernel_rfl, by kernel_rfl, by kernel_rfl, by kernel_rfl, by kernel_rfl, by kernel_rfl⟩
theorem d318 : DefOk (KK w) 318 (bodyOf (meth 18 2)) := ⟨by kernel_rfl, by kernel_rfl, by kernel_rfl, by kernel_rfl, by kernel_rfl, by kernel_rfl, by kernel_rfl⟩
theorem d339 : DefOk (KK w) 339 (bodyOf (meth 19 0)) := ⟨by kernel_rfl, by kernel_rfl, by kernel_rfl, by kernel_rfl, by kernel_rfl, by kernel_rfl, by kernel_rfl⟩
theorem d346 : DefOk (KK w) 346 (bodyOf (meth 19 1)) := ⟨by kernel_rfl, by kernel_rfl, by kernel_rfl, by kernel_rfl, by kernel_rfl, by kernel_rfl, by kernel_rfl⟩
theorem d367 : DefOk (KK w) 367 (bodyOf (meth 19 4)) := ⟨by kernel_rfl, by kernel_rfl, by kernel_rfl, by kernel_rfl, by kernel_rfl, by kernel_rfl, by kernel_rfl⟩
theorem d445 : DefOk (KK w) 445 (bodyOf (meth 30 0)) := ⟨by kernel_rfl, by kernel_rfl, by kernel_rfl, by kernel_rfl, by kernel_rfl, by kernel_rfl, by kernel_rfl⟩
theorem d384 : DefOk (KK w) 384 (bodyOf (stm 22)) := ⟨by kernel_rfl, by kernel_rfl, by kernel_rfl, by kernel_rfl, by kernel_rfl, by kernel_rfl, by kernel_rfl⟩
theorem d391 : DefOk (KK w) 391 (bodyOf (stm 23)) := ⟨by kernel_rfl, by kernel_rfl, by kernel_rfl, by kernel_rfl, by kernel_rfl, by kernel_rfl, by kernel_rfl⟩
theorem d398 : DefOk (KK w) 398 (bodyOf (stm 24)) := ⟨by kernel_rfl, by kernel_rfl, by kernel_rfl, by kernel_rfl, by kernel_rfl, by kernel_rfl, by kernel_rfl⟩
theorem d405 : DefOk (KK w) 405 (bodyOf (stm 25)) := ⟨by kernel_rfl, by kernel_rfl, by kernel_rfl, by kernel_rfl, by kernel_rfl, by kernel_rfl, by kernel_rfl⟩
theorem d412 : DefOk (KK w) 412 (bodyOf (stm 26)) := ⟨by kernel_rfl, by kernel_rfl, by kernel_rfl, by kernel_rfl, by kernel_rfl, by kernel_rfl, by kernel_rfl⟩
theorem d419 : DefOk (KK w) 419 (bodyOf (stm 27)) := ⟨by kernel_rfl, by kernel_rfl, by kernel_rfl, by kernel_rfl, by kernel_rfl, by kernel_rfl, by kernel_rfl⟩
theorem d426 : DefOk (KK w) 426 (bodyOf (stm 28)) := ⟨by kernel_rfl, by kernel_rfl, by kernel_rfl, by kernel_rfl, by kernel_rfl, by kernel_rfl, by kernel_rfl⟩
theorem d431 : DefOk (KK w) 431 (bodyOf (stm 29)) := ⟨by kernel_rfl, by kernel_rfl, by kernel_rfl, by kernel_rfl, by kernel_rfl, by kernel_rfl, by kernel_rfl⟩
theorem d457 : DefOk (KK w) 457 (bodyOf (stm 31)) := ⟨by kernel_rfl, by kernel_rfl, by kernel_rfl, by kernel_rfl, by kernel_rfl, by kernel_rfl, by kernel_rfl⟩
theorem d463 : DefOk (KK w) 463 (bodyOf (stm 32)) := ⟨by kernel_rfl, by kernel_rfl, by kernel_rfl, by kernel_rfl, by kernel_rfl, by kernel_rfl, by kernel_rfl⟩
theorem d471 : DefOk (KK w) 471 (bodyOf (stm 33)) := ⟨by kernel_rfl, by kernel_rfl, by kernel_rfl, by kernel_rfl, by kernel_rfl, by kernel_rfl, by kernel_rfl⟩
theorem d476 : DefOk (KK w) 476 (bodyOf (stm 34)) := ⟨by kernel_rfl, by kernel_rfl, by kernel_rfl, by kernel_rfl, by kernel_rfl, by kernel_rfl, by kernel_rfl⟩
theorem d484 : DefOk (KK w) 484 (bodyOf (stm 35)) := ⟨by kernel_rfl, by kernel_rfl, by kernel_rfl, by kernel_rfl, by kernel_rfl, by kernel_rfl, by kernel_rfl⟩
theorem d491 : DefOk (KK w) 491 (bodyOf (stm 36)) := ⟨by kernel_rfl, by kernel_rfl, by kernel_rfl, by kernel_rfl, by kernel_rfl, by kernel_rfl, by kernel_rfl⟩
theorem d498 : DefOk (KK w) 498 (bodyOf (stm 37)) := ⟨by kernel_rfl, by kernel_rfl, by kernel_rfl, by kernel_rfl, by kernel_rfl, by kernel_rfl, by kernel_rfl⟩
theorem d503 : DefOk (KK w) 503 (bodyOf (stm 38)) := ⟨by kernel_rfl, by kernel_rfl, by kernel_rfl, by kernel_rfl, by kernel_rfl, by kernel_rfl, by kernel_rfl⟩
theorem d510 : DefOk (KK w) 510 (bodyOf (stm 40)) := ⟨by kernel_rfl, by kernel_rfl, by kernel_rfl, by kernel_rfl, by kernel_rfl, by kernel_rfl, by kernel_rfl⟩
theorem d515 : DefOk (KK w) 515 (bodyOf (stm 41)) := ⟨by kernel_rfl, by kernel_rfl, by kernel_rfl, by kernel_rfl, by kernel_rfl, by kernel_rfl, by kernel_rfl⟩
theorem d522 : DefOk (KK w) 522 (bodyOf (stm 42)) := ⟨by kernel_rfl, by kernel_rfl, by kernel_rfl, by kernel_rfl, by kernel_rfl, by kernel_rfl, by kernel_rfl⟩
theorem d36 : DefOk (KK w) 36 (bodyOf (meth 2 0)) := ⟨by kernel_rfl, by kernel_rfl, by kernel_rfl, by kernel_rfl, by kernel_rfl, by kernel_rfl, by kernel_rfl⟩
noncomputable def kpT : List Addr := [195, 217, 266, 375, 448, 71, 311, 318, 339, 346, 367, 384, 391, 398, 405, 412, 419, 426, 431, 457, 463, 471, 476, 484, 491, 498, 503, 510, 515, 522]
theorem kp_all : kpT.all (fun n => keepIn (KK w) (.ref n)) = true := by kernel_rfl
theorem kp_of {n : Addr} (h : kpT.contains n = true) : keepIn (KK w) (.ref n) = true := List.all_eq_true.mp kp_all n (List.contains_iff_mem.mp h)
noncomputable def soT : List (Addr × Str) := [(195, "text"), (217, "octets"), (217, "is_hex"), (266, "number"), (266, "generation"), (375, "table"), (375, "trailer"), (448, "base"), (448, "on"), (448, "off"), (448, "radio"), (448, "locked"), (448, "order"), (448, "words")]
theorem so_all : soT.all (fun q => setOk (KK w) q.1 q.2) = true := by kernel_rfl
theorem so_of {C : Addr} {x : Str} (h : soT.contains (C, x) = true) : setOk (KK w) C x = true := List.all_eq_true.mp so_all (C, x) (List.contains_iff_mem.mp h)
noncomputable def fkT : List (Addr × Str) := [(375, "table"), (375, "trailer"), (266, "number"), (266, "generation"), (195, "text"), (217, "octets"), (448, "base"), (448, "on"), (448, "off"), (448, "radio"), (448, "locked"), (448, "order"), (448, "words")]
theorem fk_all : fkT.all (fun q => fieldOk (KK w) q.1 q.2) = true := by kernel_rfl
theorem fk_of {C : Addr} {x : Str} (h : fkT.contains (C, x) = true) : fieldOk (KK w) C x = true := List.all_eq_true.mp fk_all (C, x) (List.contains_iff_mem.mp h)
end
local macro_rules | `(tactic| walk_at "mok") => `(tactic| with_reducible first | exact mk_fetch | exact mk_get | exact mk_root | exact mk_put | exact mk_add)
local macro_rules | `(tactic| walk_at "fok") => `(tactic| ((with_reducible refine' fk_of ?z); (case z => kernel_rfl)))
local macro_rules | `(tactic| walk_at "sok") => `(tactic| ((with_reducible refine' so_of ?z); (case z => kernel_rfl)))
local macro_rules | `(tactic| walk_at "kok") => `(tactic| ((with_reducible refine' kp_of ?z); (case z => exact rfl)))
section
variable {prog : Program} {w : World} {A : Around} {E : Value → Shared → Prop} {σ s : Shared} {p : Heap} {mu mu' : List Cell} {env : Env} {fs fs' : List (Str × Option Value)} {K : Frag} {mg mb : Str → Option Value}
variable {KT : Type} [DecidableEq KT] {knd : KeyKind prog w KT}
theorem e_sub {value slice : Expr} {pos : Pos} {Q : Value → Shared → Prop}
    (h : wpAny (model prog w) A (eval value env) (fun o s₁ => wpAny (model prog w) A (eval slice env) (fun i s₂ => wpAny (model prog w) A (subscriptTail value slice o i) Q E s₂) E s₁) E s) :
    wpAny (model prog w) A (eval (.Subscript value slice pos) env) Q E s := Subscript_ h
theorem sub_tup {value slice : Expr} {t : Addr} {l : List Value} {k : Int} {u : Tok} {j : Nat} {x : Value} {Q : Value → Shared → Prop} (H : St σ p mu s) (ht : p.get? t = some (tupObj l))
    (hlo : -(2 ^ 63) ≤ k) (hhi : k < 2 ^ 63) (hj : seqIndex? k l.length = some j) (hx : l[j]? = some x) (h : Q x s)
    (hs : subscripted slice false (.ref t) (.int k u) = operate [.ref t, .int k u] (getItem (.ref t) (.int k u)) := by with_unfolding_all rfl) :
    wpAny (model prog w) A (subscriptTail value slice (.ref t) (.int k u)) Q E s := item_tupleT ⟨_, H.keep _ _ ht, rfl, 0, rfl⟩ hlo hhi hj hx h hs
theorem sub_list {value slice : Expr} {l : Addr} {vs : List Value} {k : Int} {u : Tok} {x : Value} {Q : Value → Shared → Prop} (L : Pt s.heap l (LsP vs))
    (h0 : 0 ≤ k) (hhi : k < 2 ^ 63) (hx : vs[k.toNat]? = some x) (h : Q x s)
    (hs : subscripted slice false (.ref l) (.int k u) = operate [.ref l, .int k u] (getItem (.ref l) (.int k u)) := by with_unfolding_all rfl) :
    wpAny (model prog w) A (subscriptTail value slice (.ref l) (.int k u)) Q E s :=
  tail_any (LsP.is L).typeIs slot_list_getitem.lookup (wpAny_getItem_list (LsP.is L) h0 hhi (by simpa using hx) h) hs
theorem sub_dict {value slice : Expr} {d : Addr} {kvs : List (KT × Value)} {k : KT} {key v : Value} {Q : Value → Shared → Prop} (H : St σ p mu s) (x : Pt s.heap d (DcP knd kvs)) (hk : knd.is k key = true) (hv : valueAt kvs k = some v)
    (h : ∀ s', St σ p mu s' → Q v s')
    (hs : subscripted slice false (.ref d) key = operate [.ref d, key] (getItem (.ref d) key) := by with_unfolding_all rfl) :
    wpAny (model prog w) A (subscriptTail value slice (.ref d) key) Q E s :=
  tail_any (DcP.is x).typeIs slot_dict_getitem.lookup (r_ditem H x hk hv h) hs
end
inductive Caps (env : Env) : List (Str × NameKind) → List (Str × Addr) → List (Str × Addr) → Prop
  | nil {acc} : Caps env [] acc acc
  | free {x a r acc cl} : env.cells.lookup x = some a → Caps env r ((x, a) :: acc) cl → Caps env ((x, .free) :: r) acc cl
  | skip {x k r acc cl} : k ≠ .free → Caps env r acc cl → Caps env ((x, k) :: r) acc cl
theorem Caps.closure {env : Env} {sc : Scope} {cl : List (Str × Addr)} (h : Caps env sc.names [] cl) : closureFor sc env = pure cl := by
  unfold closureFor
  have key : ∀ {names acc}, Caps env names acc cl → (forIn names acc fun (x : Str × NameKind) (r : List (Str × Addr)) => (do
      if x.2 == NameKind.free then do
        let a ← cellOf env x.1
        pure (ForInStep.yield ((x.1, a) :: r))
      else pure (ForInStep.yield r) : Sem (ForInStep (List (Str × Addr))))) = (pure cl : Sem _) := by
    intro names acc hc
    induction hc with
    | nil => rfl
    | @free x a r acc cl ha _ ih =>
      rw [List.forIn_cons]
      have : cellOf env x = pure a := by unfold cellOf; rw [ha]
      simp only [beq_self_eq_true, if_true, this]
      exact ih h
    | @skip x k r acc cl hk _ ih =>
      rw [List.forIn_cons]
      have : (k == NameKind.free) = false := by simpa using hk
      simp only [this, Bool.false_eq_true, if_false]
      exact ih h
  have := key h
  first
  | exact this
  | (simp only [bind_pure] at *; exact this)
  | (refine Eq.trans ?_ this; simp)

theorem rel_lookup {env : Env} {x : Str} {k : NameKind} : ∀ {names : List (Str × NameKind)}, k ≠ .free → names.lookup x = some k →
    (names.map fun (n, k) => if (k == .free && env.scope.kind == .function && env.kindOf n == some .cell) then (n, .cell) else (n, k)).lookup x = some k
  | [], _, h => by cases h
  | (n, k') :: r, hk, h => by
    rw [List.lookup_cons] at h
    rw [List.map_cons]
    cases hb : x == n with
    | true =>
      rw [hb] at h
      cases h
      have : (k == NameKind.free) = false := by simpa using hk
      simp only [this, Bool.false_and, Bool.false_eq_true, if_false, List.lookup_cons, hb]
    | false =>
      rw [hb] at h
      have ih := rel_lookup (env := env) hk h
      dsimp only
      split <;> (rw [List.lookup_cons]; simp only [hb]; exact ih)
theorem rel_free {env : Env} {x : Str} : ∀ {names : List (Str × NameKind)}, names.lookup x = some .free →
    (names.map fun (n, k) => if (k == .free && env.scope.kind == .function && env.kindOf n == some .cell) then (n, .cell) else (n, k)).lookup x = some .free ∨
    (names.map fun (n, k) => if (k == .free && env.scope.kind == .function && env.kindOf n == some .cell) then (n, .cell) else (n, k)).lookup x = some .cell
  | [], h => by cases h
  | (n, k') :: r, h => by
    rw [List.lookup_cons] at h
    rw [List.map_cons]
    cases hb : x == n with
    | true =>
      rw [hb] at h
      cases h
      dsimp only
      split <;> (rw [List.lookup_cons]; simp only [hb]; simp)
    | false =>
      rw [hb] at h
      have ih := rel_free (env := env) h
      dsimp only
      split <;> (rw [List.lookup_cons]; simp only [hb]; exact ih)

noncomputable def CN (env : Env) (x : Str) (c : Addr) : Prop := env.scope.kind = .function ∧ (env.kindOf x = some .free ∨ env.kindOf x = some .cell) ∧ env.cells.lookup x = some c ∧ (x == ("__debug__" : Str)) = false ∧ (x == ("__classdict__" : Str)) = false

noncomputable def compFs (sc : Scope) : List (Str × Option Value) := sc.names.filterMap fun q => if q.2 == .local then some (q.1, none) else none
noncomputable def compOk (sc : Scope) : Bool := decide (sc.names.map (·.1)).Nodup && (sc.names.all fun q => sc.names.lookup q.1 == some q.2) && sc.kind == .function && sc.names.all fun q => q.2 != .cell

theorem filt_sub0 : ∀ l : List (Str × NameKind), ((l.filterMap fun q => if q.2 == NameKind.local then some (q.1, (none : Option Value)) else none).map (·.1)).Sublist (l.map (·.1))
  | [] => .slnil
  | q :: r => by
    rw [List.filterMap_cons]
    cases h : q.2 == NameKind.local with
    | true => simp only [if_true, List.map_cons]; exact (filt_sub0 r).cons_cons _
    | false => simp only [Bool.false_eq_true, if_false, List.map_cons]; exact (filt_sub0 r).cons _
section
variable {prog : Program} {w : World} {A : Around} {E : Value → Shared → Prop} {σ s : Shared} {p : Heap} {mu mu' : List Cell} {env : Env} {fs fs' : List (Str × Option Value)} {K : Frag} {mg mb : Str → Option Value}

theorem r_cell {x : Str} {c : Addr} {v : Value} {pos : Pos} {Q : Value → Shared → Prop} (C : CN env x c) (H : St σ p mu s) (m : (c, CellP (some v)) ∈ mu) (h : Q v s) : wpAny (model prog w) A (eval (.Name x pos) env) Q E s := by
  obtain ⟨k, k1, k2, k3, k4⟩ := C
  refine wpAny_Name ?_ k3
  rcases k1 with k1 | k1
  · exact wpAny_loadName_free k k1 k2 (H.own _ m).1 h k4
  · exact wpAny_loadName_cell k k1 k2 (H.own _ m).1 h
theorem st_cell {x : Str} {c : Addr} {o : Option Value} {v : Value} {Q : Unit → Shared → Prop} (hk : env.scope.kind = .function) (hx : env.kindOf x = some .cell) (hc : env.cells.lookup x = some c) (H : St σ p mu s)
    (u : CUpd c (CellP o) (CellP (some v)) mu mu') (h : ∀ s', St σ p mu' s' → Q () s') : wpAny (model prog w) A (storeName env x v) Q E s :=
  wpAny_storeName_cell hk hx hc (H.own _ u.mem).1 fun h' hc' hs => h _ (H.set u hs hc')

structure CompEnv (env : Env) (sc : Scope) (cl : List (Str × Addr)) (env' : Env) : Prop where
  ok : EnvOk env'
  kn : ∀ x k, k ≠ .free → sc.names.lookup x = some k → env'.kindOf x = some k
  cn : ∀ x a, sc.names.lookup x = some .free → cl.lookup x = some a → (x == ("__debug__" : Str)) = false → (x == ("__classdict__" : Str)) = false → CN env' x a

theorem comp_core {use : Option (Value → Sem Unit)} {elt target iter : Expr} {ifs : List Expr} {sc : Scope} {pos : Pos} {cl : List (Str × Addr)} {cfs : List (Str × Option Value)} {Q : Value → Shared → Prop} (he : EnvOk env)
    (C : Caps env sc.names [] cl) (ok : compOk sc = true) (hf : compFs sc = cfs) (hsx : ∀ x, foldedSetIterable iter env x = pure x) (ht : ∀ it v, letOwnedTupleGo target it v = pure ())
    (hh : A.handled = none)
    (h : wpAny (model prog w) A (eval iter env) (fun x s₁ => ∃ N val p₁ mu₁, ∃ J : Nat → List Value → Heap → List (Str × Option Value) → List Cell → Prop, Itb prog w σ p₁ x N val ∧ St σ p₁ mu₁ s₁ ∧ J 0 [] p₁ cfs mu₁ ∧
      (∀ env', CompEnv env sc cl env' → ∀ i vs p' fs' mu' c acc v s', i < N → Le p₁ p' → J i vs p' fs' mu' → val i v → St σ p' ((env'.locals, FrameP env' fs') :: c :: (acc, LsP vs) :: mu') s' →
        vs.length ≤ sizeLine ∧ wpAny (model prog w) A (assign target env' v) (fun _ s₂ =>
          wpAny (model prog w) A (forIn ifs true fun c r => if r = true then do let ok ← isTrue c env' (eval c env'); pure (ForInStep.yield ok) else pure (ForInStep.yield r)) (fun ok s₃ =>
            if ok = true then wpAny (model prog w) A (eval elt env') (fun y s₄ => ∃ p'' fs'' mu'', Le p' p'' ∧ J (i + 1) (vs ++ [y]) p'' fs'' mu'' ∧ St σ p'' ((env'.locals, FrameP env' fs'') :: c :: (acc, LsP vs) :: mu'') s₄) NE s₃
            else ∃ p'' fs'' mu'', Le p' p'' ∧ J (i + 1) vs p'' fs'' mu'' ∧ St σ p'' ((env'.locals, FrameP env' fs'') :: c :: (acc, LsP vs) :: mu'') s₃) NE s₂) NE s') ∧
      (∀ env' vs p' fs' mu' acc s', Le p₁ p' → J N vs p' fs' mu' → St σ p' ((env'.locals, FrameP env' fs') :: (acc, LsP vs) :: mu') s' → compPost (model prog w) A E use Q (.ref acc) env'.locals (.ok .next) s')) E s) :
    wpAny (model prog w) A (comprehension (.ListComp elt [⟨target, iter, ifs, 0⟩] sc pos) sc env (firstIterPos [⟨target, iter, ifs, 0⟩] pos) (newList []) false (eval iter env) use) Q E s := by
  simp only [compOk, Bool.and_eq_true, decide_eq_true_eq, List.all_eq_true, beq_iff_eq, bne_iff_ne] at ok
  obtain ⟨⟨⟨nd, lk⟩, kf⟩, nc⟩ := ok
  refine wpAny_comprehension_free (use := use) rfl hsx C.closure kf (fun x hx hl => by rw [← hl]; exact lk x hx) (wpAny_mono h (fun x s₁ h₁ => ?_) fun _ _ q => q)
  obtain ⟨N, val, p₁, mu₁, J, hi, H, h0, turn, done⟩ := h₁
  refine hi Le.rfl H fun it P s₂ Y H₂ => ?_
  refine r_newList H₂ (Nat.zero_le _) fun acc s₃ H₃ => ?_
  have H₃ := H₃.swap
  refine wpAny_newFunctionEnv nc (fun _ hx => nomatch hx) (fun h' hns hsb => ?_) kf
  obtain ⟨env', henv⟩ : ∃ env' : Env, env' = { newEnv sc s₃.heap.objs.size env.globals cl env.qual none .none (some env) builtinsNs with scope := relabel sc env } := ⟨_, rfl⟩
  have eL : env'.locals = s₃.heap.objs.size := by rw [henv]; rfl
  have eS : env'.scope = relabel sc env := by rw [henv]
  have eC : env'.cells = cl := by rw [henv]; rfl
  have eG : env'.globals = env.globals := by rw [henv]; rfl
  have eB : env'.builtins = env.builtins := by rw [henv]; rfl
  have kfr : (relabel sc env).kind = .function := kf
  have CE : CompEnv env sc cl env' := by
    refine ⟨⟨by rw [eS]; exact kfr, eG.trans he.g, eB.trans he.b⟩, fun x k hk hl => ?_, fun x a hl ha h1 h2 => ?_⟩
    · show env'.scope.names.lookup x = _
      rw [eS]; exact rel_lookup hk hl
    · refine ⟨by rw [eS]; exact kfr, ?_, by rw [eC]; exact ha, h1, h2⟩
      show env'.scope.names.lookup x = _ ∨ env'.scope.names.lookup x = _
      rw [eS]; exact rel_free hl
  have H₄ : St σ p₁ ((env'.locals, FrameP env' cfs) :: (it, P 0) :: (acc, LsP []) :: mu₁) { s₃ with heap := h', toks := s₃.toks + ([] : List (Str × Value)).length } := by
    have H5 := H₃.alloc { cls := .type "dict", data := .dict #[] } (fun _ => True) trivial
    rw [eL]
    refine St.set (s := { s₃ with heap := s₃.heap.push { cls := .type "dict", data := .dict #[] } }) H5 .head hsb ?_
    refine FrameP.of hns (fun x v hx => ?_) ⟨?_, fun q hq => ?_, by rw [eS]; exact kfr⟩
    · rw [← hf] at hx
      obtain ⟨q, _, e⟩ := List.mem_filterMap.mp hx
      split at e <;> cases e
    · rw [← hf]
      exact (filt_sub0 sc.names).nodup nd
    · rw [← hf] at hq
      obtain ⟨q', hq', e⟩ := List.mem_filterMap.mp hq
      split at e
      · rename_i z
        cases e
        refine CE.kn _ _ (by intro h; cases h) ?_
        rw [lk q' hq']
        congr 1
        simpa using z
      · cases e
  suffices hgoal : codeAny (model prog w) A (.compStart (.ListComp elt [⟨target, iter, ifs, 0⟩] sc pos) 0 (.ref it) (.ref acc) env') (compPost (model prog w) A E use Q (.ref acc) env'.locals) { s₃ with heap := h', toks := s₃.toks + ([] : List (Str × Value)).length } by
    rw [eL, henv] at hgoal; exact hgoal
  generalize ({ s₃ with heap := h', toks := s₃.toks + ([] : List (Str × Value)).length } : Shared) = s₄ at H₄ ⊢
  have loop : codeAny (model prog w) A (.compLoop (.ListComp elt [⟨target, iter, ifs, 0⟩] sc pos) 0 (.ref it) (.ref acc) env') (compPost (model prog w) A E use Q (.ref acc) env'.locals) s₄ := by
    refine codeAny_compLoop_tests (fun n s => ∃ i vs p' fs' mu', n = N - i ∧ i ≤ N ∧ Le p₁ p' ∧ J i vs p' fs' mu' ∧ St σ p' ((env'.locals, FrameP env' fs') :: (it, P i) :: (acc, LsP vs) :: mu') s) ?_ N ⟨0, [], p₁, cfs, mu₁, rfl, Nat.zero_le _, Le.rfl, h0, H₄⟩ (ht _)
    rintro n s ⟨i, vs, p', fs', mu', rfl, hiN, le, hJ, H⟩
    rcases Nat.lt_or_ge i N with hlt | hge
    · refine Y.item i hh le hlt H (.tail .head) fun v s₅ hv H₅ => ?_
      obtain ⟨hz, t⟩ := turn env' CE i vs p' fs' mu' _ acc v s₅ hlt le hJ hv H₅
      refine wpAny_mono t (fun _ s₆ h₆ => wpAny_mono h₆ (fun b s₇ h₇ => ?_) fun _ _ q => q.elim) fun _ _ q => q.elim
      cases b with
      | false =>
        obtain ⟨p'', fs'', mu'', l, hJ', H₇⟩ := h₇
        exact ⟨N - (i + 1), by omega, i + 1, vs, p'', fs'', mu'', rfl, hlt, le.trans l, hJ', H₇⟩
      | true =>
        refine wpAny_mono h₇ (fun y s₈ h₈ => ?_) fun _ _ q => q.elim
        obtain ⟨p'', fs'', mu'', l, hJ', H₈⟩ := h₈
        refine r_append H₈ (.tail (.tail .head)) hz fun s₉ H₉ => ?_
        exact ⟨N - (i + 1), by omega, i + 1, _, p'', fs'', mu'', rfl, hlt, le.trans l, hJ', H₉⟩
    · have : i = N := by omega
      subst this
      refine Y.stop hh le H (.tail _ (.head _)) (.tail .head) fun s₅ H₅ => ?_
      exact done env' vs p' fs' mu' acc s₅ le hJ H₅
  exact codeAny_compStart_list loop (Y.again H₄ (.tail _ (.head _)) loop)

noncomputable def CT (σ : Shared) (env' : Env) (J : Nat → List Value → Heap → List (Str × Option Value) → List Cell → Prop) (n : Nat) (us : List Value) (p' : Heap) (c : Cell) (acc : Addr) (vs : List Value) (s : Shared) : Prop :=
  ∃ p'' fs'' mu'', Le p' p'' ∧ J n us p'' fs'' mu'' ∧ St σ p'' ((env'.locals, FrameP env' fs'') :: c :: (acc, LsP vs) :: mu'') s
noncomputable def CTX (σ : Shared) (env' env : Env) (J : Nat → List Value → Heap → List (Str × Option Value) → List (Str × Option Value) → List Cell → Prop) (n : Nat) (us : List Value) (p' : Heap) (c : Cell) (acc : Addr) (vs : List Value) (s : Shared) : Prop :=
  ∃ p'' cf'' fs'' mu'', Le p' p'' ∧ J n us p'' cf'' fs'' mu'' ∧ St σ p'' ((env'.locals, FrameP env' cf'') :: c :: (acc, LsP vs) :: (env.locals, FrameP env fs'') :: mu'') s
theorem ct_of {env' : Env} {J : Nat → List Value → Heap → List (Str × Option Value) → List Cell → Prop} {n : Nat} {us vs : List Value} {p' p'' : Heap} {c : Cell} {acc : Addr} (l : Le p' p'') (h : J n us p'' fs' mu') (H : St σ p'' ((env'.locals, FrameP env' fs') :: c :: (acc, LsP vs) :: mu') s) : CT σ env' J n us p' c acc vs s := ⟨_, _, _, l, h, H⟩
theorem ctx_of {env' : Env} {J : Nat → List Value → Heap → List (Str × Option Value) → List (Str × Option Value) → List Cell → Prop} {n : Nat} {us vs : List Value} {p' p'' : Heap} {cf' : List (Str × Option Value)} {c : Cell} {acc : Addr} (l : Le p' p'') (h : J n us p'' cf' fs' mu') (H : St σ p'' ((env'.locals, FrameP env' cf') :: c :: (acc, LsP vs) :: (env.locals, FrameP env fs') :: mu') s) : CTX σ env' env J n us p' c acc vs s := ⟨_, _, _, _, l, h, H⟩
noncomputable def CompQ (prog : Program) (w : World) (A : Around) (E : Value → Shared → Prop) (σ : Shared) (env : Env) (sc : Scope) (cl : List (Str × Addr)) (cfs : List (Str × Option Value)) (elt target : Expr) (ifs : List Expr) (Q : Value → Shared → Prop) (x : Value) (s₁ : Shared) : Prop :=
  ∃ N val p₁ mu₁, ∃ J : Nat → List Value → Heap → List (Str × Option Value) → List Cell → Prop, Itb prog w σ p₁ x N val ∧ St σ p₁ mu₁ s₁ ∧ J 0 [] p₁ cfs mu₁ ∧
      (∀ env', CompEnv env sc cl env' → ∀ i vs p' fs' mu' c acc v s', i < N → Le p₁ p' → J i vs p' fs' mu' → val i v → St σ p' ((env'.locals, FrameP env' fs') :: c :: (acc, LsP vs) :: mu') s' →
        vs.length ≤ sizeLine ∧ wpAny (model prog w) A (assign target env' v) (fun _ s₂ =>
          wpAny (model prog w) A (forIn ifs true fun c r => if r = true then do let ok ← isTrue c env' (eval c env'); pure (ForInStep.yield ok) else pure (ForInStep.yield r)) (fun ok s₃ =>
            if ok = true then wpAny (model prog w) A (eval elt env') (fun y s₄ => CT σ env' J (i + 1) (vs ++ [y]) p' c acc vs s₄) NE s₃
            else CT σ env' J (i + 1) vs p' c acc vs s₃) NE s₂) NE s') ∧
      (∀ vs p' fs' mu' acc s', Le p₁ p' → J N vs p' fs' mu' → St σ p' ((acc, LsP vs) :: mu') s' → Q (.ref acc) s')
theorem comp_of {sc : Scope} {cl : List (Str × Addr)} {cfs : List (Str × Option Value)} {elt target : Expr} {ifs : List Expr} {Q : Value → Shared → Prop} {x : Value} {N : Nat} {val : Nat → Value → Prop} {J : Nat → List Value → Heap → List (Str × Option Value) → List Cell → Prop}
    (hi : Itb prog w σ p x N val) (H : St σ p mu s) (h0 : J 0 [] p cfs mu)
    (turn : ∀ env', CompEnv env sc cl env' → ∀ i vs p' fs' mu' c acc v s', i < N → Le p p' → J i vs p' fs' mu' → val i v → St σ p' ((env'.locals, FrameP env' fs') :: c :: (acc, LsP vs) :: mu') s' →
        vs.length ≤ sizeLine ∧ wpAny (model prog w) A (assign target env' v) (fun _ s₂ =>
          wpAny (model prog w) A (forIn ifs true fun c r => if r = true then do let ok ← isTrue c env' (eval c env'); pure (ForInStep.yield ok) else pure (ForInStep.yield r)) (fun ok s₃ =>
            if ok = true then wpAny (model prog w) A (eval elt env') (fun y s₄ => CT σ env' J (i + 1) (vs ++ [y]) p' c acc vs s₄) NE s₃
            else CT σ env' J (i + 1) vs p' c acc vs s₃) NE s₂) NE s')
    (done : ∀ vs p' fs' mu' acc s', Le p p' → J N vs p' fs' mu' → St σ p' ((acc, LsP vs) :: mu') s' → Q (.ref acc) s') :
    CompQ prog w A E σ env sc cl cfs elt target ifs Q x s := ⟨N, val, p, mu, J, hi, H, h0, turn, done⟩
noncomputable def XCompQ (prog : Program) (w : World) (A : Around) (E : Value → Shared → Prop) (σ : Shared) (env : Env) (sc : Scope) (cl : List (Str × Addr)) (cfs : List (Str × Option Value)) (elt target : Expr) (ifs : List Expr) (y : Str) (rest : List Stmt) (Q : Flow → Shared → Prop) (x : Value) (s₁ : Shared) : Prop :=
  ∃ N val p₁ fs₁ mu₁, ∃ J : Nat → List Value → Heap → List (Str × Option Value) → List (Str × Option Value) → List Cell → Prop,
      Itb prog w σ p₁ x N val ∧ St σ p₁ ((env.locals, FrameP env fs₁) :: mu₁) s₁ ∧ J 0 [] p₁ cfs fs₁ mu₁ ∧
      (∀ env', CompEnv env sc cl env' → ∀ i vs p' cf' fs' mu' c acc v s', i < N → Le p₁ p' → J i vs p' cf' fs' mu' → val i v → St σ p' ((env'.locals, FrameP env' cf') :: c :: (acc, LsP vs) :: (env.locals, FrameP env fs') :: mu') s' →
        vs.length ≤ sizeLine ∧ wpAny (model prog w) A (assign target env' v) (fun _ s₂ =>
          wpAny (model prog w) A (forIn ifs true fun c r => if r = true then do let ok ← isTrue c env' (eval c env'); pure (ForInStep.yield ok) else pure (ForInStep.yield r)) (fun ok s₃ =>
            if ok = true then wpAny (model prog w) A (eval elt env') (fun y s₄ => CTX σ env' env J (i + 1) (vs ++ [y]) p' c acc vs s₄) NE s₃
            else CTX σ env' env J (i + 1) vs p' c acc vs s₃) NE s₂) NE s') ∧
      (∀ vs p' cf' fs' mu' acc, Le p₁ p' → J N vs p' cf' fs' mu' → ∃ fs'', FPut y (.ref acc) fs' fs'' ∧ ∀ s', St σ p' ((env.locals, FrameP env fs'') :: (acc, LsP vs) :: mu') s' → wpAny (model prog w) A (execs rest env) Q E s')
theorem xcomp_of {sc : Scope} {cl : List (Str × Addr)} {cfs : List (Str × Option Value)} {elt target : Expr} {ifs : List Expr} {y : Str} {rest : List Stmt} {Q : Flow → Shared → Prop} {x : Value} {N : Nat} {val : Nat → Value → Prop} {J : Nat → List Value → Heap → List (Str × Option Value) → List (Str × Option Value) → List Cell → Prop}
    (hi : Itb prog w σ p x N val) (H : St σ p ((env.locals, FrameP env fs) :: mu) s) (h0 : J 0 [] p cfs fs mu)
    (turn : ∀ env', CompEnv env sc cl env' → ∀ i vs p' cf' fs' mu' c acc v s', i < N → Le p p' → J i vs p' cf' fs' mu' → val i v → St σ p' ((env'.locals, FrameP env' cf') :: c :: (acc, LsP vs) :: (env.locals, FrameP env fs') :: mu') s' →
        vs.length ≤ sizeLine ∧ wpAny (model prog w) A (assign target env' v) (fun _ s₂ =>
          wpAny (model prog w) A (forIn ifs true fun c r => if r = true then do let ok ← isTrue c env' (eval c env'); pure (ForInStep.yield ok) else pure (ForInStep.yield r)) (fun ok s₃ =>
            if ok = true then wpAny (model prog w) A (eval elt env') (fun y s₄ => CTX σ env' env J (i + 1) (vs ++ [y]) p' c acc vs s₄) NE s₃
            else CTX σ env' env J (i + 1) vs p' c acc vs s₃) NE s₂) NE s')
    (done : ∀ vs p' cf' fs' mu' acc, Le p p' → J N vs p' cf' fs' mu' → ∃ fs'', FPut y (.ref acc) fs' fs'' ∧ ∀ s', St σ p' ((env.locals, FrameP env fs'') :: (acc, LsP vs) :: mu') s' → wpAny (model prog w) A (execs rest env) Q E s') :
    XCompQ prog w A E σ env sc cl cfs elt target ifs y rest Q x s := ⟨N, val, p, fs, mu, J, hi, H, h0, turn, done⟩
theorem e_comp {elt target iter : Expr} {ifs : List Expr} {sc : Scope} {pos : Pos} {cl : List (Str × Addr)} {cfs : List (Str × Option Value)} {Q : Value → Shared → Prop} (he : EnvOk env)
    (C : Caps env sc.names [] cl) (ok : compOk sc = true) (hf : compFs sc = cfs) (hsx : ∀ x, foldedSetIterable iter env x = pure x) (ht : ∀ it v, letOwnedTupleGo target it v = pure ())
    (hh : A.handled = none)
    (h : wpAny (model prog w) A (eval iter env) (CompQ prog w A E σ env sc cl cfs elt target ifs Q) E s) :
    wpAny (model prog w) A (eval (.ListComp elt [⟨target, iter, ifs, 0⟩] sc pos) env) Q E s := by
  rw [eval_ListComp]
  show wpAny _ A (comprehension (.ListComp elt [⟨target, iter, ifs, 0⟩] sc pos) sc env (firstIterPos [⟨target, iter, ifs, 0⟩] pos) (newList []) false (eval iter env) none) Q E s
  refine comp_core (σ := σ) (use := none) he C ok hf hsx ht hh (wpAny_mono h (fun x s₁ h₁ => ?_) fun _ _ q => q)
  obtain ⟨N, val, p₁, mu₁, J, hi, H, h0, turn, done⟩ := h₁
  refine ⟨N, val, p₁, mu₁, J, hi, H, h0, turn, fun env' vs p' fs' mu' acc s' le hJ H' => ?_⟩
  obtain ⟨m, hm, _⟩ := FrameP.ns (H'.own _ (.head _)).1
  exact ⟨m, hm, fun h'' hs'' => done vs p' fs' mu' acc _ le hJ (St.del H' .head hs''.extBut)⟩

theorem x_comp {elt target iter : Expr} {ifs : List Expr} {sc : Scope} {y : Str} {py pos spos : Pos} {rest : List Stmt} {cl : List (Str × Addr)} {cfs : List (Str × Option Value)} {Q : Flow → Shared → Prop} (he : EnvOk env)
    (hy : env.kindOf y = some .local) (hsw : (py.line == pos.line && !(sc.names.any fun (n, k) => n == y && (k == .local || k == .cell))) = true)
    (C : Caps env sc.names [] cl) (ok : compOk sc = true) (hf : compFs sc = cfs) (hsx : ∀ x, foldedSetIterable iter env x = pure x) (ht : ∀ it v, letOwnedTupleGo target it v = pure ())
    (hh : A.handled = none)
    (h : wpAny (model prog w) A (eval iter env) (XCompQ prog w A E σ env sc cl cfs elt target ifs y rest Q) E s) :
    wpAny (model prog w) A (execs (.Assign [.Name y py] (.ListComp elt [⟨target, iter, ifs, 0⟩] sc pos) spos :: rest) env) Q E s := by
  have hsw' : swapsWith (.ListComp elt [⟨target, iter, ifs, 0⟩] sc pos) (some (.Name y py)) spos.line env = pure true := by
    show (pure (env.blockKind == .function && env.kindOf y == some .local && py.line == pos.line && !(sc.names.any fun (n, k) => n == y && (k == .local || k == .cell))) : Sem Bool) = pure true
    have hb : (env.blockKind == ScopeKind.function) = true := by
      unfold Env.blockKind
      rw [he.kind]; rfl
    rw [hb, hy, Bool.and_assoc, hsw]; rfl
  refine x_next ?_
  rw [exec_Assign_Name_used _ _ _ _ hsw']
  refine wpAny_bind (wpAny_standAt (wpAny_bind ?_))
  show wpAny _ A (do let _ ← comprehension (.ListComp elt [⟨target, iter, ifs, 0⟩] sc pos) sc env (firstIterPos [⟨target, iter, ifs, 0⟩] pos) (newList []) false (eval iter env) (some (assign (.Name y py) env))) _ _ s
  refine wpAny_bind (wpAny_mono (comp_core (σ := σ) (use := some (assign (.Name y py) env)) (Q := fun _ s' => wpAny (model prog w) A (execs rest env) Q E s') he C ok hf hsx ht hh (wpAny_mono h (fun x s₁ h₁ => ?_) fun _ _ q => q))
    (fun _ s' hq => wpAny_pure (wpAny_pure ⟨rfl, hq⟩)) fun _ _ e => e)
  obtain ⟨N, val, p₁, fs₁, mu₁, J, hi, H, h0, turn, done⟩ := h₁
  refine ⟨N, val, p₁, _, fun i vs p' cf' mu' => ∃ fs' mu'', mu' = (env.locals, FrameP env fs') :: mu'' ∧ J i vs p' cf' fs' mu'', hi, H, ⟨fs₁, mu₁, rfl, h0⟩, ?_, ?_⟩
  · rintro env' CE i vs p' cf' mu' c acc v s' hiN le ⟨fs', mu'', rfl, hJ⟩ hv H'
    obtain ⟨hz, t⟩ := turn env' CE i vs p' cf' fs' mu'' c acc v s' hiN le hJ hv H'
    refine ⟨hz, wpAny_mono t (fun _ s₂ h₂ => wpAny_mono h₂ (fun b s₃ h₃ => ?_) fun _ _ q => q) fun _ _ q => q⟩
    cases b with
    | false =>
      obtain ⟨p'', cf'', fs'', mu3, l, a, b⟩ := h₃
      exact ⟨p'', cf'', _, l, ⟨fs'', mu3, rfl, a⟩, b⟩
    | true =>
      refine wpAny_mono h₃ (fun y s₄ h₄ => ?_) fun _ _ q => q
      obtain ⟨p'', cf'', fs'', mu3, l, a, b⟩ := h₄
      exact ⟨p'', cf'', _, l, ⟨fs'', mu3, rfl, a⟩, b⟩
  · rintro env' vs p' cf' mu' acc s' le ⟨fs', mu'', rfl, hJ⟩ H'
    obtain ⟨fs'', u, k⟩ := done vs p' cf' fs' mu'' acc le hJ
    show wpAny _ A (assign (.Name y py) env (.ref acc)) _ _ _
    have H2 : St σ p' ((env.locals, FrameP env fs') :: (env'.locals, FrameP env' cf') :: (acc, LsP vs) :: mu'') s' := H'.perm (by
      refine List.Perm.trans (List.Perm.cons _ (List.Perm.swap _ _ _)) (List.Perm.swap _ _ _))
    refine as_name (st_loc H2 u fun s₂ H3 => ?_)
    obtain ⟨m, hm, _⟩ := FrameP.ns (H3.own _ (.tail _ (.head _))).1
    exact ⟨m, hm, fun h'' hs'' => k _ (St.del H3 (.tail .head) hs''.extBut)⟩

theorem ko {sc : Scope} {x : Str} {k : NameKind} (hs : env.scope = sc) (e : sc.names.lookup x = some k) : env.kindOf x = some k := by unfold Env.kindOf; rw [hs]; exact e
theorem x_comp_nil {elt target iter : Expr} {ifs : List Expr} {sc : Scope} {y : Str} {py pos spos : Pos} {rest : List Stmt} {cl : List (Str × Addr)} {Q : Flow → Shared → Prop} (he : EnvOk env)
    (hy : env.kindOf y = some .local) (hsw : (py.line == pos.line && !(sc.names.any fun (n, k) => n == y && (k == .local || k == .cell))) = true)
    (C : Caps env sc.names [] cl) (ok : compOk sc = true) (hsx : ∀ x, foldedSetIterable iter env x = pure x) (ht : ∀ it v, letOwnedTupleGo target it v = pure ())
    (hh : A.handled = none)
    (h : wpAny (model prog w) A (eval iter env) (fun x s₁ => ∃ l p₁ fs₁ mu₁, x = .ref l ∧ Pt p₁ l (LsP []) ∧ St σ p₁ ((env.locals, FrameP env fs₁) :: mu₁) s₁ ∧
      ∀ acc, ∃ fs'', FPut y (.ref acc) fs₁ fs'' ∧ ∀ s', St σ p₁ ((env.locals, FrameP env fs'') :: (acc, LsP []) :: mu₁) s' → wpAny (model prog w) A (execs rest env) Q E s') E s) :
    wpAny (model prog w) A (execs (.Assign [.Name y py] (.ListComp elt [⟨target, iter, ifs, 0⟩] sc pos) spos :: rest) env) Q E s := by
  refine x_comp (σ := σ) he hy hsw C ok rfl hsx ht hh (wpAny_mono h (fun x s₁ h₁ => ?_) fun _ _ q => q)
  obtain ⟨l, p₁, fs₁, mu₁, rfl, hl, H, k⟩ := h₁
  refine ⟨0, _, p₁, fs₁, mu₁, fun _ vs p' _ fs' mu' => vs = [] ∧ p' = p₁ ∧ fs' = fs₁ ∧ mu' = mu₁, itb_ls hl, H, ⟨rfl, rfl, rfl, rfl⟩, fun _ _ i _ _ _ _ _ _ _ _ _ hi => absurd hi (Nat.not_lt_zero _), ?_⟩
  rintro vs p' cf' fs' mu' acc _ ⟨rfl, rfl, rfl, rfl⟩
  exact k acc
theorem enter1 {f : Addr} {body : List Stmt} {args : Args} {binds : List (Str × Value)} {fs : List (Str × Option Value)} {x : Str} {o : Option Value} {k : Nat} {Q : Value → Shared → Prop}
    (T : Tp K mg mb p) (H : St σ p mu s) (R : Rm A (k + 1)) (D : DefOk K f body) (hbind : bindArgs (fdOf K f) args = pure binds) (hb : bindOk (fdOf K f).scope binds = true)
    (hfs : mkFs (fdOf K f).scope binds = fs) (hcs : mkCs (fdOf K f).scope binds = [(x, o)]) (h1 : (x == ("__debug__" : Str)) = false) (h2 : (x == ("__classdict__" : Str)) = false)
    (h : ∀ A env s' c, env.scope = (fdOf K f).scope → EnvOk env → CN env x c → env.kindOf x = some .cell → env.cells.lookup x = some c → St σ p ((env.locals, FrameP env fs) :: (c, CellP o) :: mu) s' → Rm A k →
      wpAny (model prog w) A (execs body env) (fun fl s' => Q (retv fl) s') NE s') :
    codeAny (model prog w) A (.call (.ref f) args) (RQ Q) s := enter T H R D hbind hb hfs hcs fun env s' cl he ho hc H R => by
  cases hc with
  | cons a b c =>
    cases c
    exact h _ env s' _ he ho ⟨ho.kind, .inr a, b, h1, h2⟩ a b H R
end
local macro_rules | `(tactic| walk_at "caps") => `(tactic| first | exact Caps.nil | (refine' Caps.free ?z ?zz; (case z => assumption); (case zz => walk_at "caps")) | (refine' Caps.skip ?z ?zz; (case z => decide); (case zz => walk_at "caps")))
section
variable {prog : Program} {w : World} {A : Around} {E : Value → Shared → Prop} {σ s : Shared} {p : Heap} {mu mu' : List Cell} {env : Env} {fs fs' : List (Str × Option Value)} {K : Frag} {mg mb : Str → Option Value}
theorem Rm.cl {k : Nat} (R : Rm A k) : A.units < cLine := by have := R.u; omega
theorem r_lne_len {a b : Addr} {vs us : List Value} {Q : Value → Shared → Prop} (x : Pt s.heap a (LsP vs)) (y : Pt s.heap b (LsP us)) (hl : vs.length ≠ us.length) (hu : A.units < cLine) (h : Q (.bool true) s) :
    wpAny (model prog w) A (compareOp .NotEq (.ref a) (.ref b)) Q E s :=
  SeqAt.RcNeAt.lists_lengths (LsP.is x) (LsP.is y) (by simpa using hl) hu prog w E Q h
theorem r_lne_same {a b : Addr} {vs us : List Value} {Q : Value → Shared → Prop} (x : Pt s.heap a (LsP vs)) (y : Pt s.heap b (LsP us)) (hl : vs.length = us.length)
    (he : ∀ (j : Nat) v u, vs[j]? = some v → us[j]? = some u → SeqAt.EqAt A.in1 s v u true) (hu : A.units < cLine) (h : Q (.bool false) s) :
    wpAny (model prog w) A (compareOp .NotEq (.ref a) (.ref b)) Q E s := by
  refine SeqAt.RcNeAt.lists (e := fun _ => true) (LsP.is x) (LsP.is y) (by simpa using hl) hu (fun j h1 h2 => ?_) prog w E Q ?_
  · have h1' : j < vs.length := by simpa using h1
    have h2' : j < us.length := by simpa using h2
    have := he j vs[j] us[j] (by simp [h1']) (by simp [h2'])
    simpa using this
  · have e : ((List.range vs.toArray.size).all fun _ => true) = true := List.all_eq_true.mpr fun _ _ => rfl
    rw [e]; exact h
theorem r_leq_same {a b : Addr} {vs us : List Value} {Q : Value → Shared → Prop} (x : Pt s.heap a (LsP vs)) (y : Pt s.heap b (LsP us)) (hl : vs.length = us.length)
    (he : ∀ (j : Nat) v u, vs[j]? = some v → us[j]? = some u → SeqAt.EqAt A.in1 s v u true) (hu : A.units < cLine) (h : Q (.bool true) s) :
    wpAny (model prog w) A (compareOp .Eq (.ref a) (.ref b)) Q E s := by
  refine SeqAt.eq_listAt (e := fun _ => true) (LsP.is x) (LsP.is y) (by simpa using hl) hu (fun j h1 h2 => ?_) ?_
  · have h1' : j < vs.length := by simpa using h1
    have h2' : j < us.length := by simpa using h2
    have := he j vs[j] us[j] (by simp [h1']) (by simp [h2'])
    simpa using this
  · have e : ((List.range vs.toArray.size).all fun _ => true) = true := List.all_eq_true.mpr fun _ _ => rfl
    rw [e]; exact h
theorem r_leq_len {a b : Addr} {vs us : List Value} {Q : Value → Shared → Prop} (x : Pt s.heap a (LsP vs)) (y : Pt s.heap b (LsP us)) (hl : vs.length ≠ us.length) (hu : A.units < cLine) (h : Q (.bool false) s) :
    wpAny (model prog w) A (compareOp .Eq (.ref a) (.ref b)) Q E s := SeqAt.eq_list_lengthsAt (LsP.is x) (LsP.is y) (by simpa using hl) hu h
theorem r_len {l : Addr} {vs : List Value} {Q : Value → Shared → Prop} (H : St σ p mu s) (x : Pt s.heap l (LsP vs)) (hz : vs.length ≤ sizeLine) (h : ∀ t s', St σ p mu s' → Q (.int vs.length t) s') :
    wpAny (model prog w) A (call (.builtin "len") [.ref l]) Q E s := by
  refine call_len_list (LsP.is x) (by rw [sizeLine_eq] at hz; simp; omega) ?_
  have e : (vs.toArray.size : Int) = vs.length := by simp
  rw [e]
  exact h _ _ (H.toks _)
theorem t_one {c : Expr} {Q : Bool → Shared → Prop} (h : wpAny (model prog w) A (isTrue c env (eval c env)) Q E s) :
    wpAny (model prog w) A (forIn [c] true fun c r => if r = true then do let ok ← isTrue c env (eval c env); pure (ForInStep.yield ok) else pure (ForInStep.yield r)) Q E s := wpAny_tests_one h
theorem t_nil {Q : Bool → Shared → Prop} (h : Q true s) :
    wpAny (model prog w) A (forIn ([] : List Expr) true fun c r => if r = true then do let ok ← isTrue c env (eval c env); pure (ForInStep.yield ok) else pure (ForInStep.yield r)) Q E s := wpAny_tests_nil h
theorem r_gt {a b : Int} {t u : Tok} {Q : Value → Shared → Prop} (h : Q (.bool (decide (b < a))) s) : wpAny (model prog w) A (compareOp .Gt (.int a t) (.int b u)) Q E s := PyProof.Rows.gt_int h
theorem r_lt {a b : Int} {t u : Tok} {Q : Value → Shared → Prop} (h : Q (.bool (decide (a < b))) s) : wpAny (model prog w) A (compareOp .Lt (.int a t) (.int b u)) Q E s := PyProof.Rows.lt_int h
end
local macro_rules | `(tactic| walk_at "go2") => `(tactic| first
  | walk_at "go"
  | ((with_reducible refine' r_cell ?C ?H ?m ?_); (case C => with_reducible assumption); (case H => with_reducible assumption); (case m => walk_at "mem"))
  | (with_reducible refine' e_sub ?_)
  | (with_reducible refine' e_bool ?_)
  | (with_reducible refine' bo_one ?_)
  | (with_reducible refine' bo_and ?_)
  | (with_reducible refine' bo_or ?_)
  | (with_reducible refine' PyProof.Rows.eq_str ?_)
  | (with_reducible refine' PyProof.Rows.ne_int ?_)
  | (with_reducible refine' PyProof.Rows.eq_int ?_)
  | (with_reducible refine' r_gt ?_)
  | (with_reducible refine' r_lt ?_))
local macro_rules | `(tactic| walk_at "g") => `(tactic| repeat walk_at "go2")
section
variable {prog : Program} {w : World} {A : Around} {E : Value → Shared → Prop} {σ s : Shared} {p : Heap} {mu mu' : List Cell} {mg mb : Str → Option Value} {K : Frag}

noncomputable abbrev cRef : Addr := 266
noncomputable def RefI (p : Heap) (v : Value) (n g : Int) : Prop := ∃ a t u, v = .ref a ∧ InstIs p a 266 [("number", .int n t), ("generation", .int g u)]
theorem ex11 {α : Sort _} {P : α → Prop} {G : Prop} (h : ∃ a, P a) (k : ∀ a, P a → G) : G := let ⟨a, x⟩ := h; k a x
theorem ex12 {α : Sort _} {P Q : α → Prop} {G : Prop} (h : ∃ a, P a ∧ Q a) (k : ∀ a, P a → Q a → G) : G := let ⟨a, x, y⟩ := h; k a x y
theorem ex13 {α : Sort _} {P Q R : α → Prop} {G : Prop} (h : ∃ a, P a ∧ Q a ∧ R a) (k : ∀ a, P a → Q a → R a → G) : G := let ⟨a, x, y, z⟩ := h; k a x y z
theorem ex23 {α β : Sort _} {P Q R : α → β → Prop} {G : Prop} (h : ∃ a b, P a b ∧ Q a b ∧ R a b) (k : ∀ a b, P a b → Q a b → R a b → G) : G := let ⟨a, b, x, y, z⟩ := h; k a b x y z
theorem ex24 {α β : Sort _} {P Q R S : α → β → Prop} {G : Prop} (h : ∃ a b, P a b ∧ Q a b ∧ R a b ∧ S a b) (k : ∀ a b, P a b → Q a b → R a b → S a b → G) : G := let ⟨a, b, x, y, z, w⟩ := h; k a b x y z w
theorem ex34 {α β γ : Sort _} {P Q R S : α → β → γ → Prop} {G : Prop} (h : ∃ a b c, P a b c ∧ Q a b c ∧ R a b c ∧ S a b c) (k : ∀ a b c, P a b c → Q a b c → R a b c → S a b c → G) : G := let ⟨a, b, c, x, y, z, w⟩ := h; k a b c x y z w
theorem ex35 {α β γ : Sort _} {P Q R S T : α → β → γ → Prop} {G : Prop} (h : ∃ a b c, P a b c ∧ Q a b c ∧ R a b c ∧ S a b c ∧ T a b c) (k : ∀ a b c, P a b c → Q a b c → R a b c → S a b c → T a b c → G) : G := let ⟨a, b, c, x, y, z, w, t⟩ := h; k a b c x y z w t
theorem ex_el {α β : Sort _} {f : α → β} {v : β} {C : β → Prop} (h : ∃ t, v = f t) (k : ∀ t, C (f t)) : C v := by
  obtain ⟨t, rfl⟩ := h
  exact k t
theorem ex25 {α β : Sort _} {P Q R S T : α → β → Prop} {G : Prop} (h : ∃ a b, P a b ∧ Q a b ∧ R a b ∧ S a b ∧ T a b) (k : ∀ a b, P a b → Q a b → R a b → S a b → T a b → G) : G := let ⟨a, b, x, y, z, w, t⟩ := h; k a b x y z w t
theorem RefI.el {p : Heap} {v : Value} {n g : Int} {C : Value → Prop} (h : RefI p v n g) (k : ∀ a t u, InstIs p a 266 [("number", .int n t), ("generation", .int g u)] → C (.ref a)) : C v := by
  obtain ⟨a, t, u, rfl, x⟩ := h
  exact k a t u x
noncomputable def NotRef (K : Frag) (p : Heap) (v : Value) : Prop := ∃ t, VT K p v t ∧ kitOne K t (.ref 266) = some false
theorem VT.notRef {w : World} {p : Heap} {v t : Value} (h : VT (KK w) p v t) (k : kitOne (KK w) t (.ref 266) = some false) : NotRef (KK w) p v := ⟨t, h, k⟩
inductive Fet (K : Frag) (p : Heap) (kvs : List (Int × Value)) : Value → Value → Prop
  | here {v} : NotRef K p v → Fet K p kvs v v
  | hop {v n a t x} : RefI p v n 0 → valueAt kvs n = some (.ref a) → p.get? a = some (tupObj [.int 0 t, x]) → NotRef K p x → Fet K p kvs v x
  | miss {v n} : RefI p v n 0 → valueAt kvs n = none → Fet K p kvs v .none
noncomputable abbrev ShelfI (p : Heap) (sh TB TR : Addr) : Prop := InstIs p sh 375 [("table", .ref TB), ("trailer", .ref TR)]

end
namespace c_fetch_E
noncomputable section
def eS (prog : Program) (w : World) (A : Around) (σ s : Shared) (p : Heap) (mu : List Cell) (mg mb : Str → Option Value) (k : Nat) (sh TB TR : Addr) (kvs : List (Int × Value)) (Q : Value → Shared → Prop) : Prop := ∀ {v : Value} {r : Value} (T : Tp (KK w) mg mb p) (H : St σ p mu s) (R : Rm A (k + 2)) (I : ShelfI p sh TB TR) (m : (TB, DcP (intKind prog w) kvs) ∈ mu) (lo : (TB == sysModules) = false) (F : Fet (KK w) p kvs v r) (h : ∀ s', St σ p mu s' → Q r s'), codeAny (model prog w) A (.call (.ref 311) ⟨[.ref sh, v], []⟩) (RQ Q) s
abbrev eT := (Program) × (World) × (Around) × (Shared) × (Shared) × (Heap) × (List Cell) × (Str → Option Value) × (Str → Option Value) × (Nat) × (Addr) × (Addr) × (Addr) × (List (Int × Value)) × (Value → Shared → Prop)
def eg1 (x : eT) := x.2.2.2.2.2.2.2.2
def eP (x : eT) : Prop := eS x.1 x.2.1 x.2.2.1 x.2.2.2.1 x.2.2.2.2.1 x.2.2.2.2.2.1 x.2.2.2.2.2.2.1 x.2.2.2.2.2.2.2.1 (eg1 x).1 (eg1 x).2.1 (eg1 x).2.2.1 (eg1 x).2.2.2.1 (eg1 x).2.2.2.2.1 (eg1 x).2.2.2.2.2.1 (eg1 x).2.2.2.2.2.2
noncomputable def ec : eT := @Classical.epsilon eT ⟨(default, dW, dA, dS, dS, default, default, default, default, default, default, default, default, default, default)⟩ fun x => ¬ eP x
@[irreducible] def prog := ec.1
@[irreducible] def w := ec.2.1
@[irreducible] def A := ec.2.2.1
@[irreducible] def σ := ec.2.2.2.1
@[irreducible] def s := ec.2.2.2.2.1
@[irreducible] def p := ec.2.2.2.2.2.1
@[irreducible] def mu := ec.2.2.2.2.2.2.1
@[irreducible] def mg := ec.2.2.2.2.2.2.2.1
@[irreducible] def mb := (eg1 ec).1
@[irreducible] def k := (eg1 ec).2.1
@[irreducible] def sh := (eg1 ec).2.2.1
@[irreducible] def TB := (eg1 ec).2.2.2.1
@[irreducible] def TR := (eg1 ec).2.2.2.2.1
@[irreducible] def kvs := (eg1 ec).2.2.2.2.2.1
@[irreducible] def Q := (eg1 ec).2.2.2.2.2.2
end
theorem main : eS prog w A σ s p mu mg mb k sh TB TR kvs Q := by
  intro v r T H R I m lo F h
  refine enter0 (fs := [("self", some (.ref sh)), ("value", some v), ("here", none), ("hop", none), ("generation", none), ("found", none)]) (binds := [("self", .ref sh), ("value", v)]) T H R d311 (by kernel_rfl) (by kernel_rfl) (by kernel_rfl) (by kernel_rfl) ?_
  intro A env s1 hs he H R
  have G_range := gnl hs (by kernel_rfl) (gl_grange T)
  have G_isinstance := gnl hs (by kernel_rfl) (gl_gisinstance T)
  have G_Reference := gnl hs (by kernel_rfl) (gl_gReference T)
  have G_MOST_HOPS := gnl hs (by kernel_rfl) (gl_gMOST_HOPS T)
  refine x_assign ?_
  walk_at "loc"
  walk_at "sto"
  intro s2 H
  refine x_for ?_
  refine e_call ?_
  walk_at "glo"
  refine c_B (a_cons ?_)
  walk_at "glo"
  refine a_nil ?_
  refine r_range1 H ?_
  intro rg p2 s3 l2 hrg H
  have T := T.mono l2
  refine for_go (I := fun i _ fs' mu' => mu' = mu ∧ ∃ v' o1 o2 o3, fs' = ([("self", some (.ref sh)), ("value", some v), ("here", some v'), ("hop", o1), ("generation", o2), ("found", o3)] : List (Str × Option Value)) ∧ ((i = 0 ∧ v' = v) ∨ (i = 1 ∧ NotRef (KK w) p v' ∧ v' = r))) R.h (itb_range hrg (by decide) (by decide)) H ⟨rfl, v, none, none, none, rfl, .inl ⟨rfl, rfl⟩⟩ ?_ ?_
  · intro i p3 fs3 mu3 c hv s4 _ l3 hI ⟨tk, hval⟩ H
    obtain ⟨rfl, v', o1, o2, o3, rfl, hI⟩ := hI
    subst hval
    have T := T.mono l3
    have I := I.mono (l2.trans l3)
    refine as_name ?_
    walk_at "sto"
    intro s5 H
    refine x_if (t_not (t_call (e_call ?_)))
    walk_at "glo"
    refine c_B (a_cons ?_)
    walk_at "loc"
    refine a_cons ?_
    walk_at "glo"
    refine a_nil ?_
    have key : (NotRef (KK w) p v' ∧ v' = r) ∨ (i = 0 ∧ ∃ n, RefI p v' n 0 ∧ ((∃ a t, valueAt kvs n = some (.ref a) ∧ p.get? a = some (tupObj [.int 0 t, r]) ∧ NotRef (KK w) p r) ∨ (valueAt kvs n = none ∧ r = .none))) := by
      rcases hI with ⟨rfl, rfl⟩ | ⟨rfl, h1, h2⟩
      · cases F with
        | here h => exact .inl ⟨h, rfl⟩
        | hop a b c d => exact .inr ⟨rfl, _, a, .inl ⟨_, _, b, c, d⟩⟩
        | miss a b => exact .inr ⟨rfl, _, a, .inr ⟨b, rfl⟩⟩
      · exact .inl ⟨h1, h2⟩
    rcases key with ⟨⟨ty, hty, hk⟩, rfl⟩ | ⟨rfl, n, ⟨x, t1, t2, rfl, hx⟩, key⟩
    · refine r_isi T H (hty.mono (l2.trans l3)) hk ?_
      intro s6 H
      refine r_tb ?_
      refine x_ret ?_
      walk_at "loc"
      exact h _ ((H.less (l2.trans l3)).drop.drop)
    · have hx := hx.mono (l2.trans l3)
      refine r_isi T H (VT.inst hx ck_266) ki_r266_r266 ?_
      intro s6 H
      refine r_tb ?_
      refine x_nil ?_
      refine x_tuple (e_meth (e_attr ?_))
      walk_at "loc"
      refine r_field T H I (by walk_at "fok") rfl rfl ?_
      intro s7 H
      refine m_dget (rd_m H (by walk_at "mem")) ?_
      refine c_B (a_cons (e_attr ?_))
      walk_at "loc"
      refine r_field T H hx (by walk_at "fok") rfl rfl ?_
      intro s8 H
      refine a_cons (e_tuple (a_cons (wpAny_UnaryOp (r_int H ?_))))
      intro t3 s9 H
      refine PyProof.Rows.neg_int ?_
      refine a_cons (r_none (a_nil ?_))
      refine r_newTuple (H.toks _) (Nat.le_of_ble_eq_true rfl) ?_
      intro tp p4 s10 l4 htp H
      refine a_nil ?_
      have T := T.mono l4
      refine r_dget2 (kvs := kvs) (knd := intKind prog w) H (rd_m H (by walk_at "mem")) lo (k := n) ik ?_
      intro s11 H
      rcases key with ⟨a, t, hv, ha, hnr⟩ | ⟨hv, rfl⟩
      · rw [hv]
        refine as_pair R.h H (l2.trans (l3.trans l4) _ _ ha) ?_
        intro s12 H
        walk_at "sto"
        intro s13 H
        walk_at "sto"
        intro s14 H
        refine x_if (t_cmp ?_)
        walk_at "loc"
        refine e_attr ?_
        walk_at "loc"
        refine r_field T H (hx.mono l4) (by walk_at "fok") rfl rfl ?_
        intro s15 H
        refine PyProof.Rows.ne_int (r_tb ?_)
        refine x_nil ?_
        refine x_assign ?_
        walk_at "loc"
        walk_at "sto"
        intro s16 H
        refine x_nil ?_
        exact ⟨p4, _, _, l4, ⟨rfl, r, _, _, _, rfl, .inr ⟨rfl, hnr, rfl⟩⟩, H⟩
      · rw [hv]
        refine as_pair R.h H htp ?_
        intro s12 H
        walk_at "sto"
        intro s13 H
        walk_at "sto"
        intro s14 H
        refine x_if (t_cmp ?_)
        walk_at "loc"
        refine e_attr ?_
        walk_at "loc"
        refine r_field T H (hx.mono l4) (by walk_at "fok") rfl rfl ?_
        intro s15 H
        refine PyProof.Rows.ne_int (r_tb ?_)
        refine x_ret (r_none ?_)
        exact h _ ((H.less (l2.trans (l3.trans l4))).drop.drop)
  · rintro p3 fs3 mu3 s4 l3 ⟨rfl, v', o1, o2, o3, rfl, hI⟩ H
    exfalso
    have : ((30 : Int) - 0).toNat = 30 := rfl
    rcases hI with ⟨h, _⟩ | ⟨h, _⟩ <;> (rw [this] at h; cases h)
theorem all (x : eT) : eP x := eps (show eP ec by with_unfolding_all exact main) x
end c_fetch_E
theorem c_fetch {prog : Program} {w : World} {A : Around} {σ s : Shared} {p : Heap} {mu : List Cell} {mg mb : Str → Option Value} {k : Nat} {sh TB TR : Addr} {kvs : List (Int × Value)} {Q : Value → Shared → Prop} : c_fetch_E.eS prog w A σ s p mu mg mb k sh TB TR kvs Q :=
  c_fetch_E.all (prog, w, A, σ, s, p, mu, mg, mb, k, sh, TB, TR, kvs, Q)
section
end
section
variable {prog : Program} {w : World} {A : Around} {E : Value → Shared → Prop} {σ s : Shared} {p : Heap} {mu mu' : List Cell} {mg mb : Str → Option Value} {K : Frag}
variable {sh TB TR : Addr} {kvs : List (Int × Value)}
structure RD (prog : Program) (w : World) (p : Heap) (mu : List Cell) (d : Addr) (kvs : List (Str × Value)) : Prop where
  pt : Rd p mu d (DcP (strKind prog w) kvs)
  lo : (d == sysModules) = false
theorem RD.c {q : Cell} {d : Addr} {kvs : List (Str × Value)} (x : RD prog w p mu d kvs) : RD prog w p (q :: mu) d kvs := ⟨x.pt.c, x.lo⟩
theorem RD.mono {p' : Heap} {d : Addr} {kvs : List (Str × Value)} (x : RD prog w p mu d kvs) (l : Le p p') : RD prog w p' mu d kvs := ⟨x.pt.mono l, x.lo⟩
structure Sf (prog : Program) (w : World) (p : Heap) (mu : List Cell) (sh TB TR : Addr) (kvs : List (Int × Value)) : Prop where
  I : ShelfI p sh TB TR
  tb : (TB, DcP (intKind prog w) kvs) ∈ mu
  lo : (TB == sysModules) = false
theorem Sf.c {q : Cell} (x : Sf prog w p mu sh TB TR kvs) : Sf prog w p (q :: mu) sh TB TR kvs := ⟨x.I, .tail _ x.tb, x.lo⟩
theorem Sf.mono {p' : Heap} (x : Sf prog w p mu sh TB TR kvs) (l : Le p p') : Sf prog w p' mu sh TB TR kvs := ⟨x.I.mono l, x.tb, x.lo⟩
theorem Sf.fetch {k : Nat} {v r : Value} {Q : Value → Shared → Prop} (S : Sf prog w p mu sh TB TR kvs) (T : Tp (KK w) mg mb p) (H : St σ p mu s) (R : Rm A (k + 2)) (F : Fet (KK w) p kvs v r) (h : ∀ s', St σ p mu s' → Q r s') :
    wpAny (model prog w) A (call (.ref 311) [.ref sh, v]) Q E s := call_of (c_fetch T H R S.I S.tb S.lo F h)

theorem Sf.get {k : Nat} {hd : Addr} {hk : List (Str × Value)} {x : Str} {t : Tok} {r : Value} {Q : Value → Shared → Prop} (S : Sf prog w p mu sh TB TR kvs) (T : Tp (KK w) mg mb p) (H : St σ p mu s) (R : Rm A (k + 3))
    (D : RD prog w p mu hd hk) (F : Fet (KK w) p kvs ((valueAt hk x).getD .none) r) (h : ∀ s', St σ p mu s' → Q r s') :
    wpAny (model prog w) A (call (.ref 318) [.ref sh, .ref hd, .str x t]) Q E s := by
  refine call_of (enter0 (fs := [("self", some (.ref sh)), ("head", some (.ref hd)), ("key", some (.str x t))]) (binds := [("self", .ref sh), ("head", .ref hd), ("key", .str x t)]) T H R d318 (by kernel_rfl) (by kernel_rfl) (by kernel_rfl) (by kernel_rfl) ?_)
  intro A env s1 hs he H R
  have I := S.I
  have S := S.c (q := (env.locals, FrameP env [("self", some (.ref sh)), ("head", some (.ref hd)), ("key", some (.str x t))]))
  refine x_ret ?_
  walk_at "g"
  refine m_dget (D.pt.c.at ‹_›) ?_
  walk_at "g"
  refine r_dget1 ‹_› (D.pt.c.at ‹_›) D.lo sk ?_
  intro s2 H
  walk_at "g"
  refine S.fetch T H R F ?_
  intro s3 H
  exact h _ H.drop

theorem Sf.root {k : Nat} {rd : Addr} {tk : List (Str × Value)} {Q : Value → Shared → Prop} (S : Sf prog w p mu sh TB TR kvs) (T : Tp (KK w) mg mb p) (H : St σ p mu s) (R : Rm A (k + 4))
    (D : RD prog w p mu TR tk) (F : Fet (KK w) p kvs ((valueAt tk "Root").getD .none) (.ref rd)) (V : VT (KK w) p (.ref rd) (.type "dict")) (h : ∀ s', St σ p mu s' → Q (.ref rd) s') :
    wpAny (model prog w) A (call (.ref 367) [.ref sh]) Q E s := by
  refine call_of (enter0 (fs := [("self", some (.ref sh)), ("found", none)]) (binds := [("self", .ref sh)]) T H R d367 (by kernel_rfl) (by kernel_rfl) (by kernel_rfl) (by kernel_rfl) ?_)
  intro A env s1 hs he H R
  have I := S.I
  have G_isinstance := gnl hs (by kernel_rfl) (gl_gisinstance T)
  have G_dict := gnl hs (by kernel_rfl) (gl_gdict T)
  refine x_assign ?_
  walk_at "g"
  refine S.c.get T ‹_› R D.c F ?_
  intro s2 H
  walk_at "g"
  refine r_isi T ‹_› V ki_dict_dict ?_
  intro s3 H
  walk_at "g"
  exact h _ H.drop
theorem Sf.root0 {k : Nat} {tk : List (Str × Value)} {Q : Value → Shared → Prop} (S : Sf prog w p mu sh TB TR kvs) (T : Tp (KK w) mg mb p) (H : St σ p mu s) (R : Rm A (k + 4))
    (D : RD prog w p mu TR tk) (F : valueAt tk "Root" = none) (h : ∀ d s', (d == sysModules) = false → St σ p ((d, DcP (strKind prog w) []) :: mu) s' → Q (.ref d) s') :
    wpAny (model prog w) A (call (.ref 367) [.ref sh]) Q E s := by
  refine call_of (enter0 (fs := [("self", some (.ref sh)), ("found", none)]) (binds := [("self", .ref sh)]) T H R d367 (by kernel_rfl) (by kernel_rfl) (by kernel_rfl) (by kernel_rfl) ?_)
  intro A env s1 hs he H R
  have I := S.I
  have G_isinstance := gnl hs (by kernel_rfl) (gl_gisinstance T)
  have G_dict := gnl hs (by kernel_rfl) (gl_gdict T)
  refine x_assign ?_
  walk_at "g"
  refine S.c.get T ‹_› R D.c (r := .none) (by rw [F]; exact .here (VT.notRef VT.none ki_none_r266)) ?_
  intro s2 H
  walk_at "g"
  refine r_isi T ‹_› VT.none ki_none_dict ?_
  intro s3 H
  walk_at "g"
  refine e_dict0 (knd := strKind prog w) T ‹_› ?_
  intro d s4 lo H
  exact h _ _ lo H.drop2
end
section
variable {prog : Program} {w : World} {A : Around} {E : Value → Shared → Prop} {σ s : Shared} {p : Heap} {mu mu' : List Cell} {mg mb : Str → Option Value} {K : Frag}
variable {sh TB TR : Addr} {kvs : List (Int × Value)}

noncomputable def NmI (p : Heap) (v : Value) (x : Str) : Prop := ∃ a t, v = .ref a ∧ InstIs p a 195 [("text", .str x t)]
theorem NmI.mono {p p' : Heap} {v x} (h : NmI p v x) (l : Le p p') : NmI p' v x := let ⟨a, t, e, i⟩ := h; ⟨a, t, e, i.mono l⟩
theorem Sf.word_at {k : Nat} {hd : Addr} {hk : List (Str × Value)} {x y : Str} {t : Tok} {r dflt : Value} {Q : Value → Shared → Prop} (S : Sf prog w p mu sh TB TR kvs) (T : Tp (KK w) mg mb p) (H : St σ p mu s) (R : Rm A (k + 4))
    (D : RD prog w p mu hd hk) (F : Fet (KK w) p kvs ((valueAt hk x).getD .none) r) (N : NmI p r y) (h : ∀ t s', St σ p mu s' → Q (.str y t) s') :
    wpAny (model prog w) A (call (.ref 384) [.ref sh, .ref hd, .str x t, dflt]) Q E s := by
  refine call_of (enter0 (fs := [("shelf", some (.ref sh)), ("head", some (.ref hd)), ("key", some (.str x t)), ("default", some (dflt)), ("found", none)]) (binds := [("shelf", .ref sh), ("head", .ref hd), ("key", .str x t), ("default", dflt)]) T H R d384 (by kernel_rfl) (by kernel_rfl) (by kernel_rfl) (by kernel_rfl) ?_)
  intro A env s1 hs he H R
  have G_isinstance := gnl hs (by kernel_rfl) (gl_gisinstance T)
  have G_Name := gnl hs (by kernel_rfl) (gl_gName T)
  obtain ⟨a, t2, rfl, i⟩ := N
  have I := S.I
  refine x_assign ?_
  walk_at "g"
  refine S.c.get T ‹_› R D.c F ?_
  intro s2 H
  walk_at "g"
  refine r_isi T ‹_› (VT.inst i ck_195) ki_r195_r195 ?_
  intro s3 H
  walk_at "g"
  exact h _ _ (St.drop ‹_›)
theorem Sf.word_at0 {k : Nat} {hd : Addr} {hk : List (Str × Value)} {x : Str} {t : Tok} {r dflt ty : Value} {Q : Value → Shared → Prop} (S : Sf prog w p mu sh TB TR kvs) (T : Tp (KK w) mg mb p) (H : St σ p mu s) (R : Rm A (k + 4))
    (D : RD prog w p mu hd hk) (F : Fet (KK w) p kvs ((valueAt hk x).getD .none) r) (V : VT (KK w) p r ty) (V' : kitOne (KK w) ty (.ref 195) = some false) (h : ∀ s', St σ p mu s' → Q dflt s') :
    wpAny (model prog w) A (call (.ref 384) [.ref sh, .ref hd, .str x t, dflt]) Q E s := by
  refine call_of (enter0 (fs := [("shelf", some (.ref sh)), ("head", some (.ref hd)), ("key", some (.str x t)), ("default", some (dflt)), ("found", none)]) (binds := [("shelf", .ref sh), ("head", .ref hd), ("key", .str x t), ("default", dflt)]) T H R d384 (by kernel_rfl) (by kernel_rfl) (by kernel_rfl) (by kernel_rfl) ?_)
  intro A env s1 hs he H R
  have G_isinstance := gnl hs (by kernel_rfl) (gl_gisinstance T)
  have G_Name := gnl hs (by kernel_rfl) (gl_gName T)
  have I := S.I
  refine x_assign ?_
  walk_at "g"
  refine S.c.get T ‹_› R D.c F ?_
  intro s2 H
  walk_at "g"
  refine r_isi T ‹_› V V' ?_
  intro s3 H
  walk_at "g"
  exact h _ (St.drop ‹_›)
theorem Sf.items_at {k : Nat} {hd l : Addr} {hk : List (Str × Value)} {x : Str} {t : Tok} {Q : Value → Shared → Prop} (S : Sf prog w p mu sh TB TR kvs) (T : Tp (KK w) mg mb p) (H : St σ p mu s) (R : Rm A (k + 4))
    (D : RD prog w p mu hd hk) (F : Fet (KK w) p kvs ((valueAt hk x).getD .none) (.ref l)) (V : VT (KK w) p (.ref l) (.type "list")) (h : ∀ s', St σ p mu s' → Q (.ref l) s') :
    wpAny (model prog w) A (call (.ref 391) [.ref sh, .ref hd, .str x t]) Q E s := by
  refine call_of (enter0 (fs := [("shelf", some (.ref sh)), ("head", some (.ref hd)), ("key", some (.str x t)), ("found", none)]) (binds := [("shelf", .ref sh), ("head", .ref hd), ("key", .str x t)]) T H R d391 (by kernel_rfl) (by kernel_rfl) (by kernel_rfl) (by kernel_rfl) ?_)
  intro A env s1 hs he H R
  have G_isinstance := gnl hs (by kernel_rfl) (gl_gisinstance T)
  have G_list := gnl hs (by kernel_rfl) (gl_glist T)
  have I := S.I
  refine x_assign ?_
  walk_at "g"
  refine S.c.get T ‹_› R D.c F ?_
  intro s2 H
  walk_at "g"
  refine r_isi T ‹_› V ki_list_list ?_
  intro s3 H
  walk_at "g"
  exact h _ (St.drop ‹_›)
theorem Sf.items_at0 {k : Nat} {hd : Addr} {hk : List (Str × Value)} {x : Str} {t : Tok} {Q : Value → Shared → Prop} (S : Sf prog w p mu sh TB TR kvs) (T : Tp (KK w) mg mb p) (H : St σ p mu s) (R : Rm A (k + 4))
    (D : RD prog w p mu hd hk) (F : valueAt hk x = none) (h : ∀ l s', St σ p ((l, LsP []) :: mu) s' → Q (.ref l) s') :
    wpAny (model prog w) A (call (.ref 391) [.ref sh, .ref hd, .str x t]) Q E s := by
  refine call_of (enter0 (fs := [("shelf", some (.ref sh)), ("head", some (.ref hd)), ("key", some (.str x t)), ("found", none)]) (binds := [("shelf", .ref sh), ("head", .ref hd), ("key", .str x t)]) T H R d391 (by kernel_rfl) (by kernel_rfl) (by kernel_rfl) (by kernel_rfl) ?_)
  intro A env s1 hs he H R
  have G_isinstance := gnl hs (by kernel_rfl) (gl_gisinstance T)
  have G_list := gnl hs (by kernel_rfl) (gl_glist T)
  have I := S.I
  refine x_assign ?_
  walk_at "g"
  refine S.c.get T ‹_› R D.c (r := .none) (by rw [F]; exact .here (VT.notRef VT.none ki_none_r266)) ?_
  intro s2 H
  walk_at "g"
  refine r_isi T ‹_› VT.none ki_none_list ?_
  intro s3 H
  walk_at "g"
  refine r_newList ‹_› (Nat.zero_le _) ?_
  intro l s4 H
  exact h _ _ H.drop2

noncomputable def GrpD (prog : Program) (w : World) (p : Heap) (gd : Addr) : Prop := ∃ kv ty nm, RD prog w p [] gd kv ∧ valueAt kv "Type" = some nm ∧ Fet (KK w) p [] nm ty ∧ NmI p ty "OCG"
end
section
variable {prog : Program} {w : World} {A : Around} {E : Value → Shared → Prop} {σ s : Shared} {p : Heap} {mu mu' : List Cell} {mg mb : Str → Option Value} {K : Frag}
variable {sh TB TR : Addr} {kvs : List (Int × Value)}

theorem RD.any {d : Addr} {kv : List (Str × Value)} (x : RD prog w p [] d kv) : RD prog w p mu d kv := ⟨x.pt.sub (fun _ h => nomatch h), x.lo⟩
theorem VT.dc {d : Addr} {KT : Type} [DecidableEq KT] {knd : KeyKind prog w KT} {kv : List (KT × Value)} (x : Pt p d (DcP knd kv)) : VT K p (.ref d) (.type "dict") := .dict (let ⟨o, e, _, _, ⟨c, _⟩, _⟩ := x; ⟨o, e, c⟩)
theorem RD.pp {d : Addr} {kv : List (Str × Value)} (x : RD prog w p [] d kv) : Pt p d (DcP (strKind prog w) kv) := x.pt.elim (fun h => nomatch h) id
theorem VT.ls {l : Addr} {vs : List Value} (x : Pt p l (LsP vs)) : VT K p (.ref l) (.type "list") := .list (let ⟨o, e, n, q⟩ := x; ⟨o, e, by rw [q]⟩)
theorem NmI.notRef {v : Value} {x : Str} (h : NmI p v x) : NotRef (KK w) p v := let ⟨a, t, e, i⟩ := h; ⟨_, e ▸ VT.inst i ck_195, ki_r195_r266⟩
theorem NotRef.mono {v : Value} {p' : Heap} (h : NotRef K p v) (l : Le p p') : NotRef K p' v := let ⟨t, a, b⟩ := h; ⟨t, a.mono l, b⟩
theorem RefI.mono {v : Value} {n g : Int} {p' : Heap} (h : RefI p v n g) (l : Le p p') : RefI p' v n g := let ⟨a, t, u, e, i⟩ := h; ⟨a, t, u, e, i.mono l⟩
theorem RefI.vt {v : Value} {n g : Int} (h : RefI p v n g) : VT (KK w) p v (.ref 266) := let ⟨a, t, u, e, i⟩ := h; e ▸ VT.inst i ck_266
noncomputable def GrD (prog : Program) (w : World) (p : Heap) (gd : Addr) : Prop := ∃ kv nm, RD prog w p [] gd kv ∧ valueAt kv "Type" = some nm ∧ NmI p nm "OCG"
theorem GrD.mono {gd : Addr} {p' : Heap} (h : GrD prog w p gd) (l : Le p p') : GrD prog w p' gd := let ⟨kv, nm, a, b, c⟩ := h; ⟨kv, nm, a.mono l, b, c.mono l⟩
inductive IsG (prog : Program) (w : World) (p : Heap) (kvs : List (Int × Value)) : Value → Bool → Prop
  | grp {v n a t gd} : RefI p v n 0 → valueAt kvs n = some (.ref a) → p.get? a = some (tupObj [.int 0 t, .ref gd]) → GrD prog w p gd → IsG prog w p kvs v true
  | nonref {v} : NotRef (KK w) p v → IsG prog w p kvs v false
  | arr {v n a t l} : RefI p v n 0 → valueAt kvs n = some (.ref a) → p.get? a = some (tupObj [.int 0 t, .ref l]) → VT (KK w) p (.ref l) (.type "list") → IsG prog w p kvs v false
  | miss {v n} : RefI p v n 0 → valueAt kvs n = none → IsG prog w p kvs v false
theorem Sf.is_group {k : Nat} {v : Value} {b : Bool} {Q : Value → Shared → Prop} (S : Sf prog w p mu sh TB TR kvs) (T : Tp (KK w) mg mb p) (H : St σ p mu s) (R : Rm A (k + 5))
    (G : IsG prog w p kvs v b) (h : ∀ s', St σ p mu s' → Q (.bool b) s') :
    wpAny (model prog w) A (call (.ref 398) [.ref sh, v]) Q E s := by
  refine call_of (enter0 (fs := [("shelf", some (.ref sh)), ("value", some (v)), ("found", none)]) (binds := [("shelf", .ref sh), ("value", v)]) T H R d398 (by kernel_rfl) (by kernel_rfl) (by kernel_rfl) (by kernel_rfl) ?_)
  intro A env s1 hs he H R
  have G_isinstance := gnl hs (by kernel_rfl) (gl_gisinstance T)
  have G_Reference := gnl hs (by kernel_rfl) (gl_gReference T)
  have G_dict := gnl hs (by kernel_rfl) (gl_gdict T)
  have G_word_at := gnl hs (by kernel_rfl) (gl_gword_at T)
  have I := S.I
  refine x_assign ?_
  walk_at "g"
  cases G with
  | grp h1 h2 h3 h4 =>
    obtain ⟨kv, nm, hd, hv, hn⟩ := h4
    refine S.c.fetch T ‹_› R (.hop h1 h2 h3 (VT.notRef (VT.dc hd.pp) ki_dict_r266)) ?_
    intro s2 H
    walk_at "g"
    refine r_isi T ‹_› h1.vt ki_r266_r266 ?_
    intro s3 H
    walk_at "g"
    refine r_isi T ‹_› (VT.dc hd.pp) ki_dict_dict ?_
    intro s4 H
    walk_at "g"
    refine S.c.word_at T ‹_› R hd.any (r := nm) (by rw [hv]; exact .here hn.notRef) hn ?_
    intro t s5 H
    walk_at "g"
    exact h _ (St.drop ‹_›)
  | nonref h1 =>
    refine S.c.fetch T ‹_› R (.here h1) ?_
    intro s2 H
    walk_at "g"
    obtain ⟨t, h2, h3⟩ := h1
    refine r_isi T ‹_› h2 h3 ?_
    intro s3 H
    walk_at "g"
    exact h _ (St.drop ‹_›)
  | arr h1 h2 h3 h4 =>
    refine S.c.fetch T ‹_› R (.hop h1 h2 h3 (VT.notRef h4 ki_list_r266)) ?_
    intro s2 H
    walk_at "g"
    refine r_isi T ‹_› h1.vt ki_r266_r266 ?_
    intro s3 H
    walk_at "g"
    refine r_isi T ‹_› h4 ki_list_dict ?_
    intro s4 H
    walk_at "g"
    exact h _ (St.drop ‹_›)
  | miss h1 h2 =>
    refine S.c.fetch T ‹_› R (.miss h1 h2) ?_
    intro s2 H
    walk_at "g"
    refine r_isi T ‹_› h1.vt ki_r266_r266 ?_
    intro s3 H
    walk_at "g"
    refine r_isi T ‹_› VT.none ki_none_dict ?_
    intro s4 H
    walk_at "g"
    exact h _ (St.drop ‹_›)

noncomputable def ddp1 (acc : List Int) (n : Int) : List Int := if acc.any (· == n) then acc else acc ++ [n]
noncomputable def ddp (ns : List Int) : List Int := ns.foldl ddp1 []
theorem ddp_take {ns : List Int} {i : Nat} {n : Int} (h : ns[i]? = some n) : ddp (ns.take (i + 1)) = ddp1 (ddp (ns.take i)) n := by
  unfold ddp
  rw [List.take_add_one, h, List.foldl_append]; rfl
theorem ddp1_length (acc : List Int) (n : Int) : (ddp1 acc n).length ≤ acc.length + 1 := by
  unfold ddp1; split <;> simp
theorem ddp_length (ns : List Int) : (ddp ns).length ≤ ns.length := by
  unfold ddp
  have : ∀ (l acc : List Int), (l.foldl ddp1 acc).length ≤ acc.length + l.length := by
    intro l
    induction l with
    | nil => intro acc; simp
    | cons n r ih => intro acc; rw [List.foldl_cons]; have := ih (ddp1 acc n); have := ddp1_length acc n; simp; omega
  simpa using this ns []
theorem ints_snoc {us : List Value} {ms : List Int} (h : IntsAre us ms) (n : Int) (t : Tok) : IntsAre (us ++ [.int n t]) (ms ++ [n]) := by
  induction h with
  | nil => exact .cons n t .nil
  | cons m u _ ih => exact .cons m u ih
inductive GRefs (prog : Program) (w : World) (p : Heap) (kvs : List (Int × Value)) : List Value → List Int → Prop
  | nil : GRefs prog w p kvs [] []
  | cons {v n vs ns} : RefI p v n 0 → IsG prog w p kvs v true → GRefs prog w p kvs vs ns → GRefs prog w p kvs (v :: vs) (n :: ns)
theorem GRefs.length {vs : List Value} {ns : List Int} (h : GRefs prog w p kvs vs ns) : vs.length = ns.length := by
  induction h with
  | nil => rfl
  | cons _ _ _ ih => simp [ih]
theorem GRefs.at {vs : List Value} {ns : List Int} (h : GRefs prog w p kvs vs ns) : ∀ {i : Nat} {v : Value}, vs[i]? = some v → ∃ n, ns[i]? = some n ∧ RefI p v n 0 ∧ IsG prog w p kvs v true := by
  induction h with
  | nil => intro i v e; cases e
  | @cons v' n' vs' ns' a b _ ih =>
    intro i v e
    cases i with
    | zero => cases e; exact ⟨n', rfl, a, b⟩
    | succ i => exact ih e
theorem IsG.mono {v : Value} {b : Bool} {p' : Heap} (h : IsG prog w p kvs v b) (l : Le p p') : IsG prog w p' kvs v b := by
  cases h with
  | grp a b c d => exact .grp (a.mono l) b (l _ _ c) (d.mono l)
  | nonref a => exact .nonref (a.mono l)
  | arr a b c d => exact .arr (a.mono l) b (l _ _ c) (d.mono l)
  | miss a b => exact .miss (a.mono l) b
theorem GRefs.mono {vs : List Value} {ns : List Int} {p' : Heap} (h : GRefs prog w p kvs vs ns) (l : Le p p') : GRefs prog w p' kvs vs ns := by
  induction h with
  | nil => exact .nil
  | cons a b _ ih => exact .cons (a.mono l) (b.mono l) ih

theorem Sf.groups_in {k : Nat} {l : Addr} {vs : List Value} {ns : List Int} {Q : Value → Shared → Prop} (S : Sf prog w p mu sh TB TR kvs) (T : Tp (KK w) mg mb p) (H : St σ p mu s) (R : Rm A (k + 6))
    (L : Pt p l (LsP vs)) (G : GRefs prog w p kvs vs ns) (hz : ns.length ≤ 1000) (h : ∀ a us s', IntsAre us (ddp ns) → St σ p ((a, LsP us) :: mu) s' → Q (.ref a) s') :
    wpAny (model prog w) A (call (.ref 405) [.ref sh, .ref l]) Q E s := by
  refine call_of (enter0 (fs := [("shelf", some (.ref sh)), ("items", some (.ref l)), ("found", none), ("item", none)]) (binds := [("shelf", .ref sh), ("items", .ref l)]) T H R d405 (by kernel_rfl) (by kernel_rfl) (by kernel_rfl) (by kernel_rfl) ?_)
  intro A env s1 hs he H R
  have G_is_group := gnl hs (by kernel_rfl) (gl_gis_group T)
  have I := S.I
  refine x_assign ?_
  walk_at "g"
  refine r_newList ‹_› (Nat.zero_le _) ?_
  intro a s2 H
  have H := H.swap
  walk_at "g"
  refine x_for ?_
  walk_at "g"
  refine for_go (I := fun i p' fs' mu' => ∀ C : List (Str × Option Value) → List Cell → Prop, (∀ us o1, Le p p' → IntsAre us (ddp (ns.take i)) → C [("shelf", some (.ref sh)), ("items", some (.ref l)), ("found", some (.ref a)), ("item", o1)] ((a, LsP us) :: mu)) → C fs' mu') R.h (itb_ls L) ‹_› (fun _ K => K [] none Le.rfl IntsAre.nil) ?_ ?_
  · intro i p3 fs3 mu3 c v s4 hi l3 J hv
    apply J
    clear J
    intro us o1 _ hu
    intro H
    obtain ⟨n, hn, hr, hg⟩ := G.at hv
    have T := T.mono l3
    have S := ((S.mono l3).c (q := (a, LsP us))).c (q := c)
    have hus : us.length ≤ 1000 := by
      have e1 := hu.length
      have := ddp_length (ns.take i)
      have : (ns.take i).length ≤ ns.length := List.length_take_le' _ _
      omega
    walk_at "g"
    refine S.c.is_group T ‹_› R (hg.mono l3) ?_
    intro s5 H
    walk_at "g"
    obtain ⟨x, t1, t2, rfl, hx⟩ := hr
    have hx := hx.mono l3
    walk_at "g"
    refine r_notin (rd_m ‹_› (by walk_at "mem")) hu ?_
    cases hb : (ddp (ns.take i)).any (· == n) with
    | true =>
      walk_at "g"
      refine turn_of Le.rfl (fun _ K => K us _ l3 ?_) ‹_›
      rw [ddp_take hn, ddp1, if_pos hb]; exact hu
    | false =>
      walk_at "g"
      refine m_append (rd_m ‹_› (by walk_at "mem")) ?_
      walk_at "g"
      refine r_append ‹_› (by walk_at "upd") (Nat.le_trans hus (by decide)) ?_
      intro s7 H
      walk_at "g"
      refine turn_of Le.rfl (fun _ K => K _ _ l3 ?_) H
      rw [ddp_take hn, ddp1, if_neg (by rw [hb]; exact Bool.false_ne_true)]
      exact ints_snoc hu n _
  · intro p3 fs3 mu3 s4 l3 J
    apply J
    clear J
    intro us o1 _ hu
    intro H
    walk_at "g"
    have e : ns.take vs.length = ns := by rw [G.length]; exact List.take_length
    rw [e] at hu
    exact h _ us _ hu ((St.less ‹_› l3).drop)
end
section
variable {prog : Program} {w : World} {A : Around} {E : Value → Shared → Prop} {σ s : Shared} {p : Heap} {mu mu' : List Cell} {mg mb : Str → Option Value} {K : Frag}
variable {sh TB TR : Addr} {kvs : List (Int × Value)}

theorem RD.vt {d : Addr} {kv : List (Str × Value)} (x : RD prog w p [] d kv) : VT K p (.ref d) (.type "dict") := VT.dc x.pp
structure Doc (prog : Program) (w : World) (p : Heap) (mu : List Cell) (kvs : List (Int × Value)) (TR : Addr) (tk : List (Str × Value)) (rd : Addr) (rk : List (Str × Value)) (hd : Addr) (hk : List (Str × Value)) : Prop where
  tr : RD prog w p mu TR tk
  root : Fet (KK w) p kvs ((valueAt tk "Root").getD .none) (.ref rd)
  rd : RD prog w p [] rd rk
  ocp : Fet (KK w) p kvs ((valueAt rk "OCProperties").getD .none) (.ref hd)
  hd : RD prog w p [] hd hk
theorem Fet.mono {v r : Value} {p' : Heap} (h : Fet (KK w) p kvs v r) (l : Le p p') : Fet (KK w) p' kvs v r := by
  cases h with
  | here a => exact .here (a.mono l)
  | hop a b c d => exact .hop (a.mono l) b (l _ _ c) (d.mono l)
  | miss a b => exact .miss (a.mono l) b
variable {tk rk hk : List (Str × Value)} {rd hd : Addr}
theorem Doc.mono {p' : Heap} (x : Doc prog w p mu kvs TR tk rd rk hd hk) (l : Le p p') : Doc prog w p' mu kvs TR tk rd rk hd hk := ⟨x.tr.mono l, x.root.mono l, x.rd.mono l, x.ocp.mono l, x.hd.mono l⟩
theorem Doc.c {q : Cell} (x : Doc prog w p mu kvs TR tk rd rk hd hk) : Doc prog w p (q :: mu) kvs TR tk rd rk hd hk := ⟨x.tr.c, x.root, x.rd, x.ocp, x.hd⟩

theorem Sf.layer_head {k : Nat} {Q : Value → Shared → Prop} (S : Sf prog w p mu sh TB TR kvs) (T : Tp (KK w) mg mb p) (H : St σ p mu s) (R : Rm A (k + 6))
    (D : Doc prog w p mu kvs TR tk rd rk hd hk) (h : ∀ s', St σ p mu s' → Q (.ref hd) s') :
    wpAny (model prog w) A (call (.ref 412) [.ref sh]) Q E s := by
  refine call_of (enter0 (fs := [("shelf", some (.ref sh)), ("found", none)]) (binds := [("shelf", .ref sh)]) T H R d412 (by kernel_rfl) (by kernel_rfl) (by kernel_rfl) (by kernel_rfl) ?_)
  intro A env s1 hs he H R
  have G_isinstance := gnl hs (by kernel_rfl) (gl_gisinstance T)
  have G_dict := gnl hs (by kernel_rfl) (gl_gdict T)
  have I := S.I
  refine x_assign ?_
  walk_at "g"
  refine S.c.root T ‹_› R D.tr.c D.root D.rd.vt ?_
  intro s2 H
  walk_at "g"
  refine S.c.get T ‹_› R D.rd.any D.ocp ?_
  intro s3 H
  walk_at "g"
  refine r_isi T ‹_› D.hd.vt ki_dict_dict ?_
  intro s4 H
  walk_at "g"
  exact h _ (St.drop ‹_›)
theorem Sf.layer_head0 {k : Nat} {Q : Value → Shared → Prop} (S : Sf prog w p mu sh TB TR kvs) (T : Tp (KK w) mg mb p) (H : St σ p mu s) (R : Rm A (k + 6))
    (D : RD prog w p mu TR tk) (F : valueAt tk "Root" = none) (h : ∀ d s', (d == sysModules) = false → St σ p ((d, DcP (strKind prog w) []) :: mu) s' → Q (.ref d) s') :
    wpAny (model prog w) A (call (.ref 412) [.ref sh]) Q E s := by
  refine call_of (enter0 (fs := [("shelf", some (.ref sh)), ("found", none)]) (binds := [("shelf", .ref sh)]) T H R d412 (by kernel_rfl) (by kernel_rfl) (by kernel_rfl) (by kernel_rfl) ?_)
  intro A env s1 hs he H R
  have G_isinstance := gnl hs (by kernel_rfl) (gl_gisinstance T)
  have G_dict := gnl hs (by kernel_rfl) (gl_gdict T)
  have I := S.I
  refine x_assign ?_
  walk_at "g"
  refine S.c.root0 T ‹_› R D.c F ?_
  intro d s2 lo H
  have H := H.swap
  walk_at "g"
  refine Sf.get (hd := d) (hk := []) (S.c (q := (d, DcP (strKind prog w) []))).c T ‹_› R ⟨.inl (by walk_at "mem"), lo⟩ (r := .none) (.here (VT.notRef VT.none ki_none_r266)) ?_
  intro s3 H
  walk_at "g"
  refine r_isi T ‹_› VT.none ki_none_dict ?_
  intro s4 H
  walk_at "g"
  refine e_dict0 (knd := strKind prog w) T ‹_› ?_
  intro d2 s5 lo2 H
  exact h _ _ lo2 H.drop2.drop2

theorem Sf.group_numbers {k : Nat} {l : Addr} {vs : List Value} {ns : List Int} {Q : Value → Shared → Prop} (S : Sf prog w p mu sh TB TR kvs) (T : Tp (KK w) mg mb p) (H : St σ p mu s) (R : Rm A (k + 8))
    (D : Doc prog w p mu kvs TR tk rd rk hd hk) (hv : valueAt hk "OCGs" = some (.ref l)) (L : Pt p l (LsP vs)) (G : GRefs prog w p kvs vs ns) (hz : ns.length ≤ 1000)
    (h : ∀ a us s', IntsAre us (ddp ns) → St σ p ((a, LsP us) :: mu) s' → Q (.ref a) s') :
    wpAny (model prog w) A (call (.ref 419) [.ref sh]) Q E s := by
  refine call_of (enter0 (fs := [("shelf", some (.ref sh))]) (binds := [("shelf", .ref sh)]) T H R d419 (by kernel_rfl) (by kernel_rfl) (by kernel_rfl) (by kernel_rfl) ?_)
  intro A env s1 hs he H R
  have G_groups_in := gnl hs (by kernel_rfl) (gl_ggroups_in T)
  have G_items_at := gnl hs (by kernel_rfl) (gl_gitems_at T)
  have G_layer_head := gnl hs (by kernel_rfl) (gl_glayer_head T)
  have I := S.I
  refine x_ret ?_
  walk_at "g"
  refine S.c.layer_head T ‹_› R D.c ?_
  intro s2 H
  walk_at "g"
  refine S.c.items_at T ‹_› R D.hd.any (by rw [hv]; exact .here (VT.notRef (VT.ls L) ki_list_r266)) (VT.ls L) ?_
  intro s3 H
  walk_at "g"
  refine S.c.groups_in T ‹_› R L G hz ?_
  intro a us s4 hu H
  exact h _ _ _ hu H.drop2

noncomputable def StI (p : Heap) (v o : Value) : Prop := ∃ a b, v = .ref a ∧ InstIs p a 217 [("octets", o), ("is_hex", b)]
theorem StI.el {p : Heap} {v o : Value} {C : Value → Prop} (h : StI p v o) (k : ∀ a b, InstIs p a 217 [("octets", o), ("is_hex", b)] → C (.ref a)) : C v := by
  obtain ⟨a, b, rfl, x⟩ := h
  exact k a b x
theorem Sf.group_label {k : Nat} {n : Int} {t u : Tok} {a gd : Addr} {kv : List (Str × Value)} {st o : Value} {Q : Value → Shared → Prop} (S : Sf prog w p mu sh TB TR kvs) (T : Tp (KK w) mg mb p) (H : St σ p mu s) (R : Rm A (k + 5))
    (hn : valueAt kvs n = some (.ref a)) (ha : p.get? a = some (tupObj [.int 0 u, .ref gd])) (D : RD prog w p [] gd kv) (hv : valueAt kv "Name" = some st) (hsi : StI p st o) (ho : handedIn o = true)
    (h : ∀ s', St σ p mu s' → Q o s') :
    wpAny (model prog w) A (call (.ref 426) [.ref sh, .int n t]) Q E s := by
  refine call_of (enter0 (fs := [("shelf", some (.ref sh)), ("number", some (.int n t)), ("head", none), ("label", none)]) (binds := [("shelf", .ref sh), ("number", .int n t)]) T H R d426 (by kernel_rfl) (by kernel_rfl) (by kernel_rfl) (by kernel_rfl) ?_)
  intro A env s1 hs he H R
  have G_isinstance := gnl hs (by kernel_rfl) (gl_gisinstance T)
  have G_dict := gnl hs (by kernel_rfl) (gl_gdict T)
  have G_String := gnl hs (by kernel_rfl) (gl_gString T)
  have I := S.I
  obtain ⟨sa, sb, rfl, hst⟩ := hsi
  refine x_assign (e_sub ?_)
  walk_at "g"
  refine m_dget (rd_m ‹_› (.tail _ S.tb)) ?_
  walk_at "g"
  refine r_newTuple ‹_› (Nat.le_of_ble_eq_true rfl) ?_
  intro tp p2 s2 l2 htp H
  have T := T.mono l2
  have S := S.mono l2
  have I := S.I
  have hst := hst.mono l2
  walk_at "g"
  refine r_dget2 ‹_› (rd_m ‹_› (.tail _ S.tb)) S.lo ik ?_
  intro s3 H
  rw [hn]
  walk_at "g"
  refine sub_tup ‹_› (l2 _ _ ha) (by decide) (by decide) rfl rfl ?_
  walk_at "g"
  refine r_isi T ‹_› (D.mono l2).vt ki_dict_dict ?_
  intro s4 H
  walk_at "g"
  refine S.c.get T ‹_› R (D.mono l2).any (r := .ref sa) (by rw [hv]; exact .here (VT.notRef (VT.inst hst ck_217) ki_r217_r266)) ?_
  intro s5 H
  walk_at "g"
  refine r_isi T ‹_› (VT.inst hst ck_217) ki_r217_r217 ?_
  intro s6 H
  walk_at "g"
  refine r_field T ‹_› hst fk_octets rfl ho ?_
  intro s7 H
  exact h _ (H.less l2).drop
end
section
variable {prog : Program} {w : World} {A : Around} {E : Value → Shared → Prop} {σ s : Shared} {p : Heap} {mu mu' : List Cell} {mg mb : Str → Option Value} {K : Frag}
variable {sh TB TR : Addr} {kvs : List (Int × Value)}

theorem Sf.purposes {k : Nat} {hd : Addr} {hk : List (Str × Value)} {Q : Value → Shared → Prop} (S : Sf prog w p mu sh TB TR kvs) (T : Tp (KK w) mg mb p) (H : St σ p mu s) (R : Rm A (k + 6))
    (D : RD prog w p mu hd hk) (F : valueAt hk "Intent" = none) (h : ∀ p' v s', Le p p' → St σ p' mu s' → Q v s') :
    wpAny (model prog w) A (call (.ref 431) [.ref sh, .ref hd]) Q E s := by
  refine call_of (enter1 (fs := [("head", some (.ref hd)), ("found", none), ("words", none)]) (binds := [("shelf", .ref sh), ("head", .ref hd)]) (x := "shelf") (o := some (.ref sh)) T H R d431 (by kernel_rfl) (by kernel_rfl) (by kernel_rfl) (by kernel_rfl) (by decide) (by decide) ?_)
  intro A env s1 cc hs he hcn hck hcl H R
  have G_isinstance := gnl hs (by kernel_rfl) (gl_gisinstance T)
  have G_Name := gnl hs (by kernel_rfl) (gl_gName T)
  have G_items_at := gnl hs (by kernel_rfl) (gl_gitems_at T)
  have I := S.I
  refine x_assign ?_
  walk_at "g"
  refine S.c.c.get T ‹_› R D.c.c (r := .none) (by rw [F]; exact .here (VT.notRef VT.none ki_none_r266)) ?_
  intro s2 H
  walk_at "g"
  refine r_isi T ‹_› VT.none ki_none_r195 ?_
  intro s3 H
  walk_at "g"
  refine x_comp_nil (σ := σ) he (ko hs (by kernel_rfl)) rfl (by walk_at "caps") (by kernel_rfl) (fun _ => rfl) (fun _ _ => rfl) R.h ?_
  walk_at "g"
  refine S.c.c.items_at0 T ‹_› R D.c.c F ?_
  intro l s4 H
  refine St.fz H ?_
  intro p2 l2 hl H
  have T := T.mono l2
  refine ⟨l, p2, _, _, rfl, hl, H, fun acc => ⟨_, by walk_at "put", ?_⟩⟩
  intro s5 H
  refine St.fz2 H ?_
  intro p3 l3 hl H
  have T := T.mono l3
  refine x_comp_nil (σ := σ) he (ko hs (by kernel_rfl)) rfl (by walk_at "caps") (by kernel_rfl) (fun _ => rfl) (fun _ _ => rfl) R.h ?_
  walk_at "g"
  refine ⟨acc, p3, _, _, rfl, hl, ‹_›, fun acc2 => ⟨_, by walk_at "put", ?_⟩⟩
  intro s6 H
  walk_at "g"
  refine r_newList ‹_› (Nat.zero_le _) ?_
  intro lz s7 H
  have H := H.swap
  refine r_lne_same (rd_m H (by walk_at "mem")) (rd_m H (by walk_at "mem")) rfl (fun j v u e => by cases e) R.cl ?_
  walk_at "g"
  refine r_newList ‹_› (Nat.le_of_ble_eq_true rfl) ?_
  intro ly s8 H
  refine St.fz H ?_
  intro p4 l4 hl H
  exact h p4 _ _ (l2.trans (l3.trans l4)) H.drop.drop.drop.drop

theorem mk_config {k : Nat} {a b c d e f g : Value} {Q : Value → Shared → Prop} (T : Tp (KK w) mg mb p) (H : St σ p mu s) (R : Rm A (k + 2))
    (h : ∀ x p' s', Le p p' → InstIs p' x 448 [("base", a), ("on", b), ("off", c), ("radio", d), ("locked", e), ("order", f), ("words", g)] → St σ p' mu s' → Q (.ref x) s') :
    wpAny (model prog w) A (call (.ref 448) [a, b, c, d, e, f, g]) Q E s := by
  refine call_of (r_make T H R mo_448 ?_)
  intro A x dx p2 s2 R l2 hx H
  have T := T.mono l2
  refine enter0 (fs := [("self", some (.ref x)), ("base", some a), ("on", some b), ("off", some c), ("radio", some d), ("locked", some e), ("order", some f), ("words", some g)]) (binds := [("self", .ref x), ("base", a), ("on", b), ("off", c), ("radio", d), ("locked", e), ("order", f), ("words", g)]) T H R d445 (by kernel_rfl) (by kernel_rfl) (by kernel_rfl) (by kernel_rfl) ?_
  intro A env s3 hs he H R
  refine x_setattr ?_
  walk_at "g"
  walk_at "sat"; intro s4 H
  walk_at "g"
  walk_at "sat"; intro s5 H
  walk_at "g"
  walk_at "sat"; intro s6 H
  walk_at "g"
  walk_at "sat"; intro s7 H
  walk_at "g"
  walk_at "sat"; intro s8 H
  walk_at "g"
  walk_at "sat"; intro s9 H
  walk_at "g"
  walk_at "sat"; intro s10 H
  walk_at "g"
  refine St.fz (St.drop ‹_›) ?_
  intro p3 l3 hd H
  exact ⟨rfl, h x p3 _ (l2.trans l3) ⟨dx, l3 _ _ hx, hd⟩ H⟩
end
section
variable {prog : Program} {w : World} {A : Around} {E : Value → Shared → Prop} {σ s : Shared} {p : Heap} {mu mu' : List Cell} {mg mb : Str → Option Value} {K : Frag}
variable {sh TB TR : Addr} {kvs : List (Int × Value)}

noncomputable def stB (sv : List (Int × Value)) (n : Int) : Bool := match valueAt sv n with
  | some (.bool b) => b
  | _ => false
noncomputable def BoolVals (sv : List (Int × Value)) : Prop := ∀ n v, valueAt sv n = some v → ∃ b, v = .bool b
theorem BoolVals.get {sv : List (Int × Value)} (h : BoolVals sv) (n : Int) : (valueAt sv n).getD (.bool false) = .bool (stB sv n) := by
  unfold stB
  cases e : valueAt sv n with
  | none => rfl
  | some v => obtain ⟨b, rfl⟩ := h n v e; rfl
theorem ints_at {us : List Value} {ns : List Int} (h : IntsAre us ns) : ∀ {i : Nat} {v : Value}, us[i]? = some v → ∃ n t, v = .int n t ∧ ns[i]? = some n := by
  induction h with
  | nil => intro i v e; cases e
  | cons n t _ ih =>
    intro i v e
    cases i with
    | zero => cases e; exact ⟨n, t, rfl, rfl⟩
    | succ i => exact ih e
theorem ints_el {us : List Value} {ns : List Int} {i : Nat} {v : Value} {C : Value → Prop} (h : IntsAre us ns) (e : us[i]? = some v) (k : ∀ n t, ns[i]? = some n → C (.int n t)) : C v := by
  obtain ⟨n, t, rfl, z⟩ := ints_at h e
  exact k n t z
theorem take_snoc {α : Type} {ns : List α} {i : Nat} {n : α} (h : ns[i]? = some n) : ns.take (i + 1) = ns.take i ++ [n] := by rw [List.take_add_one, h]; rfl
noncomputable def crowded (sv : List (Int × Value)) (ns : List Int) : List Int := if 1 < (ns.filter (stB sv)).length then [0] else []
theorem c_crowded {k : Nat} {st cf rad rr : Addr} {sv : List (Int × Value)} {fl : List (Str × Value)} {us : List Value} {ns : List Int} {Q : Value → Shared → Prop} (T : Tp (KK w) mg mb p) (H : St σ p mu s) (R : Rm A (k + 2))
    (D : Pt p st (DcP (intKind prog w) sv)) (lo : (st == sysModules) = false) (hb : BoolVals sv) (C : InstIs p cf 448 fl) (hr : fl.lookup ("radio" : Str) = some (.ref rad)) (hrad : Pt p rad (LsP [.ref rr])) (hrr : Pt p rr (LsP us)) (hu : IntsAre us ns) (hz : ns.length ≤ 1000)
    (h : ∀ a vs s', IntsAre vs (crowded sv ns) → St σ p ((a, LsP vs) :: mu) s' → Q (.ref a) s') :
    wpAny (model prog w) A (call (.ref 476) [.ref st, .ref cf]) Q E s := by
  refine call_of (enter1 (fs := [("config", some (.ref cf)), ("found", none), ("spot", none)]) (binds := [("states", .ref st), ("config", .ref cf)]) (x := "states") (o := some (.ref st)) T H R d476 (by kernel_rfl) (by kernel_rfl) (by kernel_rfl) (by kernel_rfl) (by decide) (by decide) ?_)
  intro A env s1 cc hs he hcn hck hcl H R
  have G_range := gnl hs (by kernel_rfl) (gl_grange T)
  have G_len := gnl hs (by kernel_rfl) (gl_glen T)
  refine x_assign ?_
  walk_at "g"
  refine r_newList ‹_› (Nat.zero_le _) ?_
  intro fo s2 H
  have H := H.swap
  walk_at "g"
  refine x_for ?_
  walk_at "g"
  refine r_field T ‹_› C fk_radio hr rfl ?_
  intro s3 H
  walk_at "g"
  refine r_len ‹_› (rd_p ‹_› hrad) (Nat.le_of_ble_eq_true rfl) ?_
  intro t4 s4 H
  walk_at "g"
  refine r_range1 H ?_
  intro rg p5 s5 l5 hrg H
  have T := T.mono l5
  refine for_go (I := fun i p' fs' mu' => ∀ C : List (Str × Option Value) → List Cell → Prop, (∀ vs o1, Le p p' → IntsAre vs (if i = 0 then [] else crowded sv ns) → C [("config", some (.ref cf)), ("found", some (.ref fo)), ("spot", o1)] ((fo, LsP vs) :: (cc, CellP (some (.ref st))) :: mu)) → C fs' mu') R.h (itb_range hrg (by decide) (by show -(2 ^ 40) ≤ (1 : Int) ∧ (1 : Int) < 2 ^ 40; decide)) H (fun _ K => K [] none l5 .nil) ?_ ?_
  · intro i p6 fs6 mu6 c v s6 hi l6 J hv
    apply J
    clear J
    intro vs o1 l06 hvs
    apply ex_el hv
    clear hv
    intro tk
    intro H
    have hi0 : i = 0 := by
      have : ((([Value.ref rr] : List Value).length : Int) - 0).toNat = 1 := rfl
      rw [this] at hi; omega
    subst hi0
    have T := T.mono l6
    walk_at "g"
    refine e_comp (σ := σ) he (by walk_at "caps") (by kernel_rfl) rfl (fun _ => rfl) (fun _ _ => rfl) R.h ?_
    walk_at "g"
    refine r_field T ‹_› (C.mono l06) fk_radio hr rfl ?_
    intro s7 H
    walk_at "g"
    refine sub_list (rd_p ‹_› (hrad.mono l06)) (by decide) (by decide) rfl ?_
    refine comp_of (N := us.length) (p := p6) (J := fun i vs p' fs' mu' => ∀ C : Heap → List (Str × Option Value) → List Cell → Prop, (∀ o2, IntsAre vs ((ns.take i).filter (stB sv)) → C p6 [(".0", none), ("number", o2)] _) → C p' fs' mu') (itb_ls (hrr.mono l06)) ‹_› (fun _ K => K none .nil) ?_ ?_
    · intro env' CE i vs p' fs' mu' c' acc v s8 hi l8 J hv
      apply J
      clear J
      intro o2 hvs'
      intro H
      apply ints_el hu hv
      intro n tn hn
      have hl : vs.length ≤ 1000 := by
        have e1 := hvs'.length
        have e2 := List.length_filter_le (stB sv) (ns.take i)
        have e3 := List.length_take_le' i ns
        omega
      refine ⟨Nat.le_trans hl (by decide), ?_⟩
      have hcn' := CE.cn "states" cc rfl rfl (by decide) (by decide)
      have he := CE.ok
      walk_at "g"
      refine t_one ?_
      walk_at "g"
      refine m_dget (rd_p ‹_› (D.mono l06)) ?_
      walk_at "g"
      refine r_dget2 ‹_› (rd_p ‹_› (D.mono l06)) lo ik ?_
      intro s9 H
      rw [hb.get]
      refine r_tb ?_
      have ht := take_snoc hn
      cases hs : stB sv n with
      | true =>
        walk_at "g"
        refine ct_of Le.rfl (fun _ K => K _ ?_) ‹_›
        rw [ht, List.filter_append]
        have : List.filter (stB sv) [n] = [n] := by simp [hs]
        rw [this]; exact ints_snoc hvs' n tn
      | false =>
        walk_at "g"
        refine ct_of Le.rfl (fun _ K => K _ ?_) ‹_›
        rw [ht, List.filter_append]
        have : List.filter (stB sv) [n] = [] := by simp [hs]
        rw [this, List.append_nil]; exact hvs'
    · intro vs' p' fs' mu' acc s8 l8 J
      apply J
      clear J
      intro o2 hvs'
      intro H
      have H := H.swap
      have e : ns.take us.length = ns := by rw [hu.length]; exact List.take_length
      rw [e] at hvs'
      have hl : vs'.length ≤ 1000 := by
        have e1 := hvs'.length
        have e2 := List.length_filter_le (stB sv) ns
        omega
      walk_at "g"
      refine r_len ‹_› (rd_m ‹_› (by walk_at "mem")) (Nat.le_trans hl (by decide)) ?_
      intro t9 s9 H
      walk_at "g"
      have hlen : vs'.length = (ns.filter (stB sv)).length := hvs'.length
      by_cases hc : 1 < (ns.filter (stB sv)).length
      · have hd : decide ((1 : Int) < (vs'.length : Int)) = true := decide_eq_true (by omega)
        rw [hd]
        walk_at "g"
        refine m_append (rd_m ‹_› (by walk_at "mem")) ?_
        walk_at "g"
        refine r_append ‹_› (by walk_at "upd") (by rw [hvs.length]; exact Nat.zero_le _) ?_
        intro s11 H
        have H := H.drop2
        walk_at "g"
        refine turn_of Le.rfl (fun _ K => K _ _ l06 ?_) ‹_›
        rw [if_neg (by decide), crowded, if_pos hc]
        cases hvs
        exact .cons 0 _ .nil
      · have hd : decide ((1 : Int) < (vs'.length : Int)) = false := decide_eq_false (by omega)
        rw [hd]
        walk_at "g"
        refine turn_of Le.rfl (fun _ K => K _ _ l06 ?_) (St.drop2 ‹_›)
        rw [if_neg (by decide), crowded, if_neg hc]
        cases hvs
        exact .nil
  · intro p6 fs6 mu6 s6 l6 J
    apply J
    clear J
    intro vs o1 l06 hvs
    intro H
    walk_at "g"
    rw [if_neg (by show ¬ ((1 : Int) - 0).toNat = 0; decide)] at hvs
    exact h _ vs _ hvs ((St.less ‹_› l06).drop.perm (List.Perm.refl _)).drop2
end
section
variable {prog : Program} {w : World} {A : Around} {E : Value → Shared → Prop} {σ s : Shared} {p : Heap} {mu mu' : List Cell} {mg mb : Str → Option Value} {K : Frag}
variable {sh TB TR : Addr} {kvs : List (Int × Value)}

noncomputable def RefsAt (prog : Program) (w : World) (p : Heap) (kvs : List (Int × Value)) (fk : List (Str × Value)) (x : Str) (ns : List Int) : Prop :=
  ∃ l vs, valueAt fk x = some (.ref l) ∧ Pt p l (LsP vs) ∧ GRefs prog w p kvs vs ns ∧ ns.length ≤ 1000
theorem RefsAt.mono {fk : List (Str × Value)} {x : Str} {ns : List Int} {p' : Heap} (h : RefsAt prog w p kvs fk x ns) (l : Le p p') : RefsAt prog w p' kvs fk x ns :=
  let ⟨a, vs, h1, h2, h3, h4⟩ := h; ⟨a, vs, h1, h2.mono l, h3.mono l, h4⟩
structure CfD (prog : Program) (w : World) (p : Heap) (kvs : List (Int × Value)) (fd : Addr) (fk : List (Str × Value)) (ord : Addr) (ons offs lks rbs : List Int) (base : Str) : Prop where
  rd : RD prog w p [] fd fk
  ordv : valueAt fk "Order" = some (.ref ord)
  ordl : VT (KK w) p (.ref ord) (.type "list")
  on : RefsAt prog w p kvs fk "ON" ons
  off : RefsAt prog w p kvs fk "OFF" offs
  lk : RefsAt prog w p kvs fk "Locked" lks
  rb : ∃ rl rr vs, valueAt fk "RBGroups" = some (.ref rl) ∧ Pt p rl (LsP [.ref rr]) ∧ Pt p rr (LsP vs) ∧ GRefs prog w p kvs vs rbs ∧ rbs.length ≤ 1000
  base : (valueAt fk "BaseState" = none ∧ base = "ON") ∨ ∃ nm, valueAt fk "BaseState" = some nm ∧ NmI p nm base
  intent : valueAt fk "Intent" = none
theorem CfD.mono {fd ord : Addr} {fk : List (Str × Value)} {ons offs lks rbs : List Int} {base : Str} {p' : Heap} (h : CfD prog w p kvs fd fk ord ons offs lks rbs base) (l : Le p p') : CfD prog w p' kvs fd fk ord ons offs lks rbs base :=
  ⟨h.rd.mono l, h.ordv, h.ordl.mono l, h.on.mono l, h.off.mono l, h.lk.mono l, let ⟨a, b, vs, h1, h2, h3, h4, h5⟩ := h.rb; ⟨a, b, vs, h1, h2.mono l, h3.mono l, h4.mono l, h5⟩,
    h.base.imp id fun ⟨nm, a, b⟩ => ⟨nm, a, b.mono l⟩, h.intent⟩
noncomputable def IntL (p : Heap) (v : Value) (ns : List Int) : Prop := ∃ a us, v = .ref a ∧ Pt p a (LsP us) ∧ IntsAre us ns
structure CfI (p : Heap) (x : Addr) (ord : Value) (ons offs lks rbs : List Int) (base : Str) : Prop where
  ex : ∃ t on off rad rr lk wd, InstIs p x 448 [("base", .str base t), ("on", on), ("off", off), ("radio", .ref rad), ("locked", lk), ("order", ord), ("words", wd)] ∧
    IntL p on (ddp ons) ∧ IntL p off (ddp offs) ∧ Pt p rad (LsP [rr]) ∧ IntL p rr (ddp rbs) ∧ IntL p lk (ddp lks)
theorem CfI.el {p : Heap} {x : Addr} {ord : Value} {ons offs lks rbs : List Int} {base : Str} {G : Prop} (h : CfI p x ord ons offs lks rbs base) (k : ∀ t rad wd ona onu ofa ofu rra rru lka lku, InstIs p x 448 [("base", .str base t), ("on", .ref ona), ("off", .ref ofa), ("radio", .ref rad), ("locked", .ref lka), ("order", ord), ("words", wd)] → Pt p ona (LsP onu) → IntsAre onu (ddp ons) → Pt p ofa (LsP ofu) → IntsAre ofu (ddp offs) → Pt p rad (LsP [.ref rra]) → Pt p rra (LsP rru) → IntsAre rru (ddp rbs) → Pt p lka (LsP lku) → IntsAre lku (ddp lks) → G) : G := by
  obtain ⟨t, on, off, rad, rr, lk, wd, C, ⟨ona, onu, rfl, on1, on2⟩, ⟨ofa, ofu, rfl, of1, of2⟩, hrad, ⟨rra, rru, rfl, rr1, rr2⟩, ⟨lka, lku, rfl, lk1, lk2⟩⟩ := h.ex
  exact k _ _ _ _ _ _ _ _ _ _ _ C on1 on2 of1 of2 hrad rr1 rr2 lk1 lk2
theorem CfI.of {p : Heap} {x : Addr} {ord : Value} {ons offs lks rbs : List Int} {base : Str} {t : Tok} {rad ona ofa rra lka : Addr} {wd : Value} {onu ofu rru lku : List Value} (h : InstIs p x 448 [("base", .str base t), ("on", .ref ona), ("off", .ref ofa), ("radio", .ref rad), ("locked", .ref lka), ("order", ord), ("words", wd)]) (h0 : Pt p ona (LsP onu)) (h1 : IntsAre onu (ddp ons)) (h2 : Pt p ofa (LsP ofu)) (h3 : IntsAre ofu (ddp offs)) (h4 : Pt p rad (LsP [.ref rra])) (h5 : Pt p rra (LsP rru)) (h6 : IntsAre rru (ddp rbs)) (h7 : Pt p lka (LsP lku)) (h8 : IntsAre lku (ddp lks)) : CfI p x ord ons offs lks rbs base := ⟨_, _, _, _, _, _, _, h, ⟨_, _, rfl, h0, h1⟩, ⟨_, _, rfl, h2, h3⟩, h4, ⟨_, _, rfl, h5, h6⟩, ⟨_, _, rfl, h7, h8⟩⟩
theorem CfI.mono {x : Addr} {ord : Value} {ons offs lks rbs : List Int} {base : Str} {p' : Heap} (h : CfI p x ord ons offs lks rbs base) (l : Le p p') : CfI p' x ord ons offs lks rbs base :=
  h.el fun _ _ _ _ _ _ _ _ _ _ _ hx a1 b1 a2 b2 hr a3 b3 a4 b4 => .of (hx.mono l) (a1.mono l) b1 (a2.mono l) b2 (hr.mono l) (a3.mono l) b3 (a4.mono l) b4

theorem Sf.word_in {k : Nat} {hd : Addr} {hk : List (Str × Value)} {x y d : Str} {t td : Tok} {Q : Value → Shared → Prop} (S : Sf prog w p mu sh TB TR kvs) (T : Tp (KK w) mg mb p) (H : St σ p mu s) (R : Rm A (k + 4))
    (D : RD prog w p mu hd hk) (F : (valueAt hk x = none ∧ y = d) ∨ ∃ nm, valueAt hk x = some nm ∧ NmI p nm y) (h : ∀ t s', St σ p mu s' → Q (.str y t) s') :
    wpAny (model prog w) A (call (.ref 384) [.ref sh, .ref hd, .str x t, .str d td]) Q E s := by
  rcases F with ⟨F, rfl⟩ | ⟨nm, F, N⟩
  · exact S.word_at0 T H R D (r := .none) (by rw [F]; exact .here (VT.notRef VT.none ki_none_r266)) VT.none ki_none_r195 fun s' H => h _ _ H
  · exact S.word_at T H R D (r := nm) (by rw [F]; exact .here N.notRef) N h
set_option maxHeartbeats 2000000 in
theorem Sf.conf_of {k : Nat} {fd ord : Addr} {fk : List (Str × Value)} {ons offs lks rbs : List Int} {base : Str} {Q : Value → Shared → Prop} (S : Sf prog w p mu sh TB TR kvs) (T : Tp (KK w) mg mb p) (H : St σ p mu s) (R : Rm A (k + 8))
    (D : CfD prog w p kvs fd fk ord ons offs lks rbs base) (h : ∀ x p' s', Le p p' → CfI p' x (.ref ord) ons offs lks rbs base → St σ p' mu s' → Q (.ref x) s') :
    wpAny (model prog w) A (call (.ref 457) [.ref sh, .ref fd]) Q E s := by
  refine ex35 D.rb ?_
  intro rl rr rvs rb1 rb2 rb3 rb4 rb5
  refine ex24 D.on ?_
  intro onl onv on1 on2 on3 on4
  refine ex24 D.off ?_
  intro ofl ofv of1 of2 of3 of4
  refine ex24 D.lk ?_
  intro lkl lkv lk1 lk2 lk3 lk4
  refine call_of (enter1 (fs := [("head", some (.ref fd)), ("rows", none)]) (binds := [("shelf", .ref sh), ("head", .ref fd)]) (x := "shelf") (o := some (.ref sh)) T H R d457 (by kernel_rfl) (by kernel_rfl) (by kernel_rfl) (by kernel_rfl) (by decide) (by decide) ?_)
  intro A env s1 cc hs he hcn hck hcl H R
  have G_Configuration := gnl hs (by kernel_rfl) (gl_gConfiguration T)
  have G_word_at := gnl hs (by kernel_rfl) (gl_gword_at T)
  have G_groups_in := gnl hs (by kernel_rfl) (gl_ggroups_in T)
  have G_items_at := gnl hs (by kernel_rfl) (gl_gitems_at T)
  have G_purposes := gnl hs (by kernel_rfl) (gl_gpurposes T)
  refine x_comp (σ := σ) he (ko hs (by kernel_rfl)) rfl (by walk_at "caps") (by kernel_rfl) rfl (fun _ => rfl) (fun _ _ => rfl) R.h ?_
  walk_at "g"
  refine S.c.c.items_at T ‹_› R D.rd.any (by rw [rb1]; exact .here (VT.notRef (VT.ls rb2) ki_list_r266)) (VT.ls rb2) ?_
  intro s2 H
  refine xcomp_of (N := 1) (J := fun i vs p' cf fs' mu' => ∀ C : List Value → Heap → List (Str × Option Value) → List (Str × Option Value) → List Cell → Prop, (∀ o1, C (if i = 0 then [] else [.ref rr]) p [(".0", none), ("row", o1)] _ _) → C vs p' cf fs' mu') (itb_ls rb2) H (fun _ K => K none) ?_ ?_
  · intro env' CE i vs p' cf' fs' mu' c acc v s3 hi l3 J hv
    apply J
    clear J l3 p' cf' fs' mu'
    intro o1
    have hi0 : i = 0 := by omega
    subst hi0
    cases hv
    intro H
    refine ⟨Nat.zero_le _, ?_⟩
    have hcn' := CE.cn "shelf" cc rfl rfl (by decide) (by decide)
    have he := CE.ok
    have I := S.I
    walk_at "g"
    refine t_nil ?_
    walk_at "g"
    refine Sf.fetch (S.c.c.c.c.c) T ‹_› R (.here (VT.notRef (VT.ls rb3) ki_list_r266)) ?_
    intro s4 H
    exact ctx_of Le.rfl (fun _ K => K _) H
  · intro vs p' cf' fs' mu' acc l3 J
    apply J
    clear J l3 p' cf' fs' mu'
    intro o1
    refine ⟨_, by walk_at "put", ?_⟩
    intro s3 H
    refine St.fz2 H ?_
    intro p4 l4 hrows H
    have T := T.mono l4
    have S := S.mono l4
    walk_at "g"
    have D := D.mono l4
    refine S.c.c.word_in T ‹_› R D.rd.any D.base ?_
    intro tb s4 H
    walk_at "g"
    refine S.c.c.items_at T ‹_› R D.rd.any (by rw [on1]; exact .here (VT.notRef (VT.ls (on2.mono l4)) ki_list_r266)) (VT.ls (on2.mono l4)) ?_
    intro s5 H
    walk_at "g"
    refine S.c.c.groups_in T ‹_› R (on2.mono l4) (on3.mono l4) on4 ?_
    intro a1 u1 s6 hu1 H
    refine St.fz H ?_
    intro p6 l6 hp1 H
    have T := T.mono l6
    have S := S.mono l6
    have l06 := l4.trans l6
    walk_at "g"
    refine S.c.c.items_at T ‹_› R (D.mono l6).rd.any (by rw [of1]; exact .here (VT.notRef (VT.ls (of2.mono l06)) ki_list_r266)) (VT.ls (of2.mono l06)) ?_
    intro s7 H
    walk_at "g"
    refine S.c.c.groups_in T ‹_› R (of2.mono l06) (of3.mono l06) of4 ?_
    intro a2 u2 s8 hu2 H
    refine St.fz H ?_
    intro p8 l8 hp2 H
    have T := T.mono l8
    have S := S.mono l8
    have l08 := l06.trans l8
    walk_at "g"
    refine e_comp (σ := σ) he (by walk_at "caps") (by kernel_rfl) rfl (fun _ => rfl) (fun _ _ => rfl) R.h ?_
    walk_at "g"
    refine comp_of (N := 1) (p := p8) (J := (fun (M : List Cell) (i : Nat) (vs : List Value) (p' : Heap) (fs' : List (Str × Option Value)) (mu' : List Cell) => ∀ C : List Value → Heap → List (Str × Option Value) → List Cell → Prop, (∀ o1, i = 0 → C [] p8 [(".0", none), ("row", o1)] M) → (∀ o1 ra us, i = 1 → Pt p' ra (LsP us) → IntsAre us (ddp rbs) → C [.ref ra] p' [(".0", none), ("row", o1)] M) → C vs p' fs' mu') _) (itb_ls (hrows.mono (l6.trans l8))) ‹_› (fun _ K _ => K none rfl) ?_ ?_
    · intro env' CE i vs p' fs' mu' c acc v s9 hi l9 J hv
      apply J
      · clear J l9 p' fs' mu'
        intro o1 e
        subst e
        cases hv
        intro H
        refine ⟨Nat.zero_le _, ?_⟩
        have hcn' := CE.cn "shelf" cc rfl rfl (by decide) (by decide)
        have gl : env'.globals = env.globals := CE.ok.g.trans he.g.symm
        have he := CE.ok
        have G_isinstance : GN env' mg mb "isinstance" (.builtin "isinstance") := ⟨CE.kn _ .globalImplicit (by decide) rfl, gl_gisinstance T, by decide⟩
        have G_list : GN env' mg mb "list" (.type "list") := ⟨CE.kn _ .globalImplicit (by decide) rfl, gl_glist T, by decide⟩
        have G_gi : GN env' mg mb "groups_in" (.ref 405) := ⟨CE.kn _ .globalImplicit (by decide) rfl, gl_ggroups_in T, by decide⟩
        walk_at "g"
        refine t_one ?_
        walk_at "g"
        refine r_isi T ‹_› (VT.ls (rb3.mono l08)) ki_list_list ?_
        intro s10 H
        walk_at "g"
        refine Sf.groups_in (S.c.c.c.c.c) T ‹_› R (rb3.mono l08) (rb4.mono l08) rb5 ?_
        intro a3 u3 s11 hu3 H
        refine St.fz H ?_
        intro p11 l11 hp3 H
        exact ct_of l11 (fun _ _ K => K _ a3 u3 rfl hp3 hu3) H
      · intro _ _ _ e
        omega
    · intro vs p' fs' mu' acc s9 l9 J
      apply J
      · intro _ e
        cases e
      · clear J
        intro o1 ra u3 _ hp3 hu3 H
        refine St.fz H ?_
        intro p10 l10 hrad H
        have l810 := l9.trans l10
        have T := T.mono l810
        have S := S.mono l810
        have l010 := l08.trans l810
        walk_at "g"
        refine S.c.c.items_at T ‹_› R (D.mono ((l6.trans l8).trans l810)).rd.any (by rw [lk1]; exact .here (VT.notRef (VT.ls (lk2.mono l010)) ki_list_r266)) (VT.ls (lk2.mono l010)) ?_
        intro s10 H
        walk_at "g"
        refine S.c.c.groups_in T ‹_› R (lk2.mono l010) (lk3.mono l010) lk4 ?_
        intro a4 u4 s11 hu4 H
        refine St.fz H ?_
        intro p11 l11 hp4 H
        have T := T.mono l11
        have S := S.mono l11
        have l011 := l010.trans l11
        have D := D.mono ((l6.trans l8).trans (l810.trans l11))
        walk_at "g"
        refine S.c.c.items_at T ‹_› R D.rd.any (by rw [D.ordv]; exact .here (VT.notRef D.ordl ki_list_r266)) D.ordl ?_
        intro s12 H
        walk_at "g"
        refine S.c.c.purposes T ‹_› R D.rd.any D.intent ?_
        intro p13 vw s13 l13 H
        have T := T.mono l13
        walk_at "g"
        refine mk_config T ‹_› R ?_
        intro x p14 s14 l14 hx H
        have l1314 := l13.trans l14
        exact h x p14 _ (l011.trans l1314) (.of hx (hp1.mono (l8.trans (l810.trans (l11.trans l1314)))) hu1 (hp2.mono (l810.trans (l11.trans l1314))) hu2
          (hrad.mono (l11.trans l1314)) (hp3.mono (l10.trans (l11.trans l1314))) hu3 (hp4.mono l1314) hu4) H.drop.drop
end
noncomputable def bindKS (fd : FuncData) (pos : List Value) : {k : Option (Array Value) → Sem (List (Str × Value)) // bindArgs fd ⟨pos, []⟩ = seqItems? fd.defaults >>= k} := ⟨_, rfl⟩
noncomputable def seqIn (K : Frag) (a : Addr) : Option (List Value) := match K.lookup a with
  | some ⟨_, _, .seq items _, _⟩ => some items.toList
  | _ => none
section
variable {prog : Program} {w : World} {A : Around} {E : Value → Shared → Prop} {σ s : Shared} {p : Heap} {mu mu' : List Cell} {env : Env} {fs fs' : List (Str × Option Value)} {K : Frag} {mg mb : Str → Option Value}
theorem binds_d {f D : Addr} {pos items : List Value} {binds : List (Str × Value)} (T : Tp K mg mb p) (H : St σ p mu s) (hd : (fdOf K f).defaults = .ref D) (hk : seqIn K D = some items)
    (hb : (bindKS (fdOf K f) pos).1 (some items.toArray) = pure binds) : BindsTo s (fdOf K f) ⟨pos, []⟩ binds := by
  unfold seqIn at hk
  split at hk
  · rename_i a b c d e
    have := Option.some.inj hk
    subst this
    exact BindsTo.of_defaults hd (T.K.keeps H.keep _ _ e) rfl (bindKS (fdOf K f) pos).2 (by rw [← hb])
  · cases hk
theorem enter0d {f D : Addr} {body : List Stmt} {pos items : List Value} {binds : List (Str × Value)} {fs : List (Str × Option Value)} {k : Nat} {Q : Value → Shared → Prop}
    (T : Tp K mg mb p) (H : St σ p mu s) (R : Rm A (k + 1)) (D' : DefOk K f body) (hd : (fdOf K f).defaults = .ref D) (hk : seqIn K D = some items)
    (hbind : (bindKS (fdOf K f) pos).1 (some items.toArray) = pure binds) (hb : bindOk (fdOf K f).scope binds = true)
    (hfs : mkFs (fdOf K f).scope binds = fs) (hcs : mkCs (fdOf K f).scope binds = [])
    (h : ∀ A env s', env.scope = (fdOf K f).scope → EnvOk env → St σ p ((env.locals, FrameP env fs) :: mu) s' → Rm A k →
      wpAny (model prog w) A (execs body env) (fun fl s' => Q (retv fl) s') NE s') :
    codeAny (model prog w) A (.call (.ref f) ⟨pos, []⟩) (RQ Q) s := enterB T H R D' (binds_d T H hd hk hbind) hb hfs hcs fun env s' cl _ he ho hc H R => by cases hc; exact h _ env s' he ho H R
theorem enter1d {f D : Addr} {body : List Stmt} {pos items : List Value} {binds : List (Str × Value)} {fs : List (Str × Option Value)} {x : Str} {o : Option Value} {k : Nat} {Q : Value → Shared → Prop}
    (T : Tp K mg mb p) (H : St σ p mu s) (R : Rm A (k + 1)) (D' : DefOk K f body) (hd : (fdOf K f).defaults = .ref D) (hk : seqIn K D = some items)
    (hbind : (bindKS (fdOf K f) pos).1 (some items.toArray) = pure binds) (hb : bindOk (fdOf K f).scope binds = true)
    (hfs : mkFs (fdOf K f).scope binds = fs) (hcs : mkCs (fdOf K f).scope binds = [(x, o)]) (h1 : (x == ("__debug__" : Str)) = false) (h2 : (x == ("__classdict__" : Str)) = false)
    (h : ∀ A env s' c, env.scope = (fdOf K f).scope → EnvOk env → CN env x c → env.kindOf x = some .cell → env.cells.lookup x = some c → St σ p ((env.locals, FrameP env fs) :: (c, CellP o) :: mu) s' → Rm A k →
      wpAny (model prog w) A (execs body env) (fun fl s' => Q (retv fl) s') NE s') :
    codeAny (model prog w) A (.call (.ref f) ⟨pos, []⟩) (RQ Q) s := enterB T H R D' (binds_d T H hd hk hbind) hb hfs hcs fun env s' cl _ he ho hc H R => by
  cases hc with
  | cons a b c =>
    cases c
    exact h _ env s' _ he ho ⟨ho.kind, .inr a, b, h1, h2⟩ a b H R
end
section
variable {prog : Program} {w : World} {A : Around} {E : Value → Shared → Prop} {σ s : Shared} {p : Heap} {mu mu' : List Cell} {mg mb : Str → Option Value} {K : Frag}
variable {sh TB TR : Addr} {kvs : List (Int × Value)}

theorem Sf.configuration {k : Nat} {tk rk hk fk : List (Str × Value)} {rd hd fd ord : Addr} {ons offs lks rbs : List Int} {base : Str} {Q : Value → Shared → Prop} (S : Sf prog w p mu sh TB TR kvs) (T : Tp (KK w) mg mb p) (H : St σ p mu s) (R : Rm A (k + 9))
    (D : Doc prog w p mu kvs TR tk rd rk hd hk) (hv : valueAt hk "D" = some (.ref fd)) (C : CfD prog w p kvs fd fk ord ons offs lks rbs base)
    (h : ∀ x p' s', Le p p' → CfI p' x (.ref ord) ons offs lks rbs base → St σ p' mu s' → Q (.ref x) s') :
    wpAny (model prog w) A (call (.ref 463) [.ref sh]) Q E s := by
  refine call_of (enter1d (D := 458) (pos := [.ref sh]) (items := [.int (-1) 785]) (fs := [("index", some (.int (-1) 785)), ("head", none), ("heads", none)]) (binds := [("shelf", .ref sh), ("index", .int (-1) 785)]) (x := "shelf") (o := some (.ref sh)) T H R d463 (by kernel_rfl) (by kernel_rfl) (by kernel_rfl) (by kernel_rfl) (by kernel_rfl) (by kernel_rfl) (by decide) (by decide) ?_)
  intro A env s1 cc hs he hcn hck hcl H R
  have G_isinstance := gnl hs (by kernel_rfl) (gl_gisinstance T)
  have G_dict := gnl hs (by kernel_rfl) (gl_gdict T)
  have G_configuration_of := gnl hs (by kernel_rfl) (gl_gconfiguration_of T)
  have G_layer_head := gnl hs (by kernel_rfl) (gl_glayer_head T)
  have I := S.I
  refine x_if ?_
  walk_at "g"
  refine ite_t ?_
  walk_at "g"
  refine S.c.c.layer_head T ‹_› R D.c.c ?_
  intro s2 H
  walk_at "g"
  refine S.c.c.get T ‹_› R D.hd.any (r := .ref fd) (by rw [hv]; exact .here (VT.notRef C.rd.vt ki_dict_r266)) ?_
  intro s3 H
  walk_at "g"
  refine r_isi T ‹_› C.rd.vt ki_dict_dict ?_
  intro s4 H
  walk_at "g"
  refine S.c.c.conf_of T ‹_› R C ?_
  intro x p' s5 l hx H
  exact h x p' _ l hx H.drop.drop
end
section
variable {prog : Program} {w : World} {A : Around} {E : Value → Shared → Prop} {σ s : Shared} {p : Heap} {mu mu' : List Cell} {env : Env} {fs fs' : List (Str × Option Value)} {K : Frag} {mg mb : Str → Option Value}
theorem letgo_tupiter {target : Expr} {I l : Addr} {i : Int} {v : Value} {Q : Unit → Shared → Prop} (hit : Pt s.heap I (fun o => o.cls = .type "tuple_iterator" ∧ o.data = .fields #[.ref l, .int i 0])) (hQ : Q () s) :
    wpAny (model prog w) A (letOwnedTupleGo target (.ref I) v) Q E s := by
  obtain ⟨o, ho, hc, hd⟩ := hit
  unfold letOwnedTupleGo
  have key : ∀ (r : Sem Unit), wpAny (model prog w) A (match (⟨.ref I, v⟩ : Value × Value) with
    | (.ref r, .ref a) => (do
      let o ← load r
      match o.cls, o.data with
      | .type n, .fields vs =>
        if ["enumerate", "zip", "dict_itemiterator", "dict_reverseitemiterator", "odict_iterator", "itertools.zip_longest", "itertools.pairwise"].contains n && vs[0]? == some (rawInt a) then
          rule "for.unpacks-the-owned-tuple"
          updateField r 0 .none
      | _, _ => pure () : Sem Unit)
    | _ => pure ()) Q E s := by
    intro _
    cases v
    case ref a =>
      refine wpAny_bind (wpAny_load ho ?_)
      rw [hc, hd]
      show wpAny _ A (if (["enumerate", "zip", "dict_itemiterator", "dict_reverseitemiterator", "odict_iterator", "itertools.zip_longest", "itertools.pairwise"].contains "tuple_iterator" &&
          (#[.ref l, .int i 0] : Array Value)[0]? == some (rawInt a)) = true then _ else _) Q E s
      rw [if_neg (by
        intro h
        rw [show (["enumerate", "zip", "dict_itemiterator", "dict_reverseitemiterator", "odict_iterator", "itertools.zip_longest", "itertools.pairwise"].contains "tuple_iterator") = false from by decide, Bool.false_and] at h
        cases h)]
      exact wpAny_pure hQ
    all_goals exact wpAny_pure hQ
  split
  · exact key (pure ())
  · exact key (pure ())
  · exact wpAny_pure hQ

noncomputable def TiP (x : Addr) (i : Nat) (o : Obj) : Prop := o.cls = .type "tuple_iterator" ∧ o.data = .fields #[.ref x, .int i 0]
theorem for_goT {x : Addr} {vs : List Value} {I : Nat → Heap → List (Str × Option Value) → List Cell → Prop} {target : Expr} {body : List Stmt} {Q : Flow → Shared → Prop}
    (hh : A.handled = none) (hx : p.get? x = some (tupObj vs)) (H : St σ p ((env.locals, FrameP env fs) :: mu) s) (h0 : I 0 p fs mu)
    (turn : ∀ i p' fs' mu' c v s', i < vs.length → Le p p' → I i p' fs' mu' → vs[i]? = some v → St σ p' ((env.locals, FrameP env fs') :: c :: mu') s' →
      wpAny (model prog w) A (assign target env v) (fun _ s₂ => wpAny (model prog w) A (execs body env) (TurnQ σ env I i p' c Q) NE s₂) NE s')
    (done : ∀ p' fs' mu' s', Le p p' → I vs.length p' fs' mu' → St σ p' ((env.locals, FrameP env fs') :: mu') s' → Q .next s') :
    wpAny (model prog w) A (pyIter (.ref x)) (fun it s₂ => codeAny (model prog w) A (.forLoop target it body [] env) (fun r s' => match r with | .ok f => Q f s' | .error e => cameBackBy (model prog w) A env E e s') s₂) E s := by
  have hl : p.IsTuple x vs.toArray := ⟨_, hx, rfl, 0, rfl⟩
  refine wpAny_pyIter_tuple (istuple_keeps hl H.keep) ?_
  generalize hit : s.heap.objs.size = it
  have H₂ : St σ p ((it, TiP x 0) :: (env.locals, FrameP env fs) :: mu) _ := hit ▸ H.alloc { cls := .type "tuple_iterator", data := .fields #[.ref x, .int 0 0] } (TiP x 0) ⟨rfl, rfl⟩
  refine codeAny_forLoop_any (fun n s => ∃ i p' fs' mu', n = vs.length - i ∧ i ≤ vs.length ∧ Le p p' ∧ I i p' fs' mu' ∧
    St σ p' ((env.locals, FrameP env fs') :: (it, TiP x i) :: mu') s) ?_ vs.length ⟨0, p, fs, mu, rfl, Nat.zero_le _, Le.rfl, h0, H₂.swap⟩
  rintro n s₃ ⟨i, p', fs', mu', rfl, hiN, le, hI, H₃⟩
  obtain ⟨o, e, e1, e2⟩ := (H₃.own _ (.tail _ (.head _))).1
  rcases Nat.lt_or_ge i vs.length with hlt | hge
  · refine wpAny_pyNext_tuple_item ⟨o, e, e1, e2⟩ (istuple_keeps hl (le.trans H₃.keep)) (x := vs[i]) (by simp [hlt]) fun h' hit' hs => ?_
    obtain ⟨o', e', e1', e2'⟩ := hit'
    have H₄ : St σ p' ((env.locals, FrameP env fs') :: (it, TiP x (i + 1)) :: mu') { s₃ with heap := h' } := H₃.set (.tail .head) hs ⟨o', e', e1', e2'⟩
    refine letgo_tupiter (H₄.own _ (.tail _ (.head _))).1 ?_
    refine wpAny_mono (turn i p' fs' mu' _ vs[i] _ hlt le hI (by simp [hlt]) H₄) (fun _ s₅ h₅ => wpAny_mono h₅ (fun f s₆ h₆ => ?_) fun _ _ q => q.elim) fun _ _ q => q.elim
    cases f with
    | next =>
      obtain ⟨p'', fs'', mu'', l, hI', H₆⟩ := h₆
      exact ⟨vs.length - (i + 1), by omega, i + 1, p'', fs'', mu'', rfl, hlt, le.trans l, hI', H₆⟩
    | cont =>
      obtain ⟨p'', fs'', mu'', l, hI', H₆⟩ := h₆
      exact ⟨vs.length - (i + 1), by omega, i + 1, p'', fs'', mu'', rfl, hlt, le.trans l, hI', H₆⟩
    | brk => exact h₆
    | ret v => exact h₆
  · have : i = vs.length := by omega
    subst this
    refine wpAny_pyNext_tuple_end hh ⟨o, e, e1, e2⟩ (istuple_keeps hl (le.trans H₃.keep)) (by simp) fun h' hs => ?_
    exact wpAny_execs_nil (done p' fs' mu' _ le hI (H₃.del (.tail .head) hs))
end
local macro_rules | `(tactic| walk_at "go3") => `(tactic| first
  | walk_at "go2"
  | (with_reducible refine' PyProof.Rows.ne_str ?_))
local macro_rules | `(tactic| walk_at "g") => `(tactic| repeat walk_at "go3")
section
variable {prog : Program} {w : World} {A : Around} {E : Value → Shared → Prop} {σ s : Shared} {p : Heap} {mu mu' : List Cell} {mg mb : Str → Option Value} {K : Frag}
variable {sh TB TR : Addr} {kvs : List (Int × Value)}

noncomputable def setAll (b : Bool) (sv : List (Int × Value)) (ns : List Int) : List (Int × Value) := ns.foldl (fun sv n => stored sv n (.bool b)) sv
noncomputable def setIn1 (b : Bool) (sv : List (Int × Value)) (n : Int) : List (Int × Value) := if (valueAt sv n).isSome then stored sv n (.bool b) else sv
noncomputable def setIn (b : Bool) (sv : List (Int × Value)) (ns : List Int) : List (Int × Value) := ns.foldl (setIn1 b) sv
noncomputable def startS (b : Bool) (ns ons offs : List Int) : List (Int × Value) := setIn false (setIn true (setAll b [] ns) ons) offs
theorem setAll_take {b : Bool} {sv : List (Int × Value)} {ns : List Int} {i : Nat} {n : Int} (h : ns[i]? = some n) : setAll b sv (ns.take (i + 1)) = stored (setAll b sv (ns.take i)) n (.bool b) := by
  unfold setAll; rw [take_snoc h, List.foldl_append]; rfl
theorem setIn_take {b : Bool} {sv : List (Int × Value)} {ns : List Int} {i : Nat} {n : Int} (h : ns[i]? = some n) : setIn b sv (ns.take (i + 1)) = setIn1 b (setIn b sv (ns.take i)) n := by
  unfold setIn; rw [take_snoc h, List.foldl_append]; rfl
theorem setAll_len {b : Bool} : ∀ (ns : List Int) (sv : List (Int × Value)), (setAll b sv ns).length ≤ sv.length + ns.length
  | [], sv => by simp [setAll]
  | n :: r, sv => by
    have h1 := setAll_len r (b := b) (stored sv n (.bool b))
    have h2 := stored_length_le sv n (.bool b)
    have h3 : setAll b sv (n :: r) = setAll b (stored sv n (.bool b)) r := rfl
    rw [h3, List.length_cons]; omega
theorem setIn_len {b : Bool} : ∀ (ns : List Int) (sv : List (Int × Value)), (setIn b sv ns).length ≤ sv.length + ns.length
  | [], sv => by simp [setIn]
  | n :: r, sv => by
    have h1 := setIn_len r (b := b) (setIn1 b sv n)
    have h2 : (setIn1 b sv n).length ≤ sv.length + 1 := by
      unfold setIn1; split
      · exact stored_length_le _ _ _
      · omega
    have h3 : setIn b sv (n :: r) = setIn b (setIn1 b sv n) r := rfl
    rw [h3, List.length_cons]; omega
noncomputable def curS (S0 : List (Int × Value)) (ons offs : List Int) (i : Nat) : List (Int × Value) := if i = 0 then S0 else if i = 1 then setIn true S0 ons else setIn false (setIn true S0 ons) offs

theorem starting {k : Nat} {nl cf : Addr} {us : List Value} {ns ons offs lks rbs : List Int} {ord : Value} {base : Str} {Q : Value → Shared → Prop} (T : Tp (KK w) mg mb p) (H : St σ p mu s) (R : Rm A (k + 2))
    (N : Pt p nl (LsP us)) (hu : IntsAre us ns) (C : CfI p cf ord ons offs lks rbs base) (hb : base = "ON" ∨ base = "OFF") (z1 : ns.length ≤ 300) (z2 : ons.length ≤ 300) (z3 : offs.length ≤ 300)
    (h : ∀ d s', (d == sysModules) = false → St σ p ((d, DcP (intKind prog w) (startS (base != "OFF") ns (ddp ons) (ddp offs))) :: mu) s' → Q (.ref d) s') :
    wpAny (model prog w) A (call (.ref 471) [.ref nl, .ref cf]) Q E s := by
  refine C.el ?_
  intro bt rad wd ona onu ofa ofu _ _ lka _ C on1 on2 of1 of2 _ _ _ _ _
  refine call_of (enter0d (D := 464) (pos := [.ref nl, .ref cf]) (items := [.none]) (fs := [("numbers", some (.ref nl)), ("config", some (.ref cf)), ("before", some (.none)), ("states", none), ("number", none), ("listed", none), ("is_on", none)]) (binds := [("numbers", .ref nl), ("config", .ref cf), ("before", .none)]) T H R d471 (by kernel_rfl) (by kernel_rfl) (by kernel_rfl) (by kernel_rfl) (by kernel_rfl) (by kernel_rfl) ?_)
  intro A env s1 hs he H R
  have hU : (base == ("Unchanged" : Str)) = false := by rcases hb with rfl | rfl <;> decide
  refine x_assign ?_
  walk_at "g"
  refine e_dict0 (knd := intKind prog w) T ‹_› ?_
  intro d s2 lo H
  have H := H.swap
  walk_at "g"
  refine x_for ?_
  walk_at "g"
  refine for_go (I := fun i p' fs' mu' => ∀ C : Heap → List (Str × Option Value) → List Cell → Prop, (∀ o1, C p [("numbers", some (.ref nl)), ("config", some (.ref cf)), ("before", some .none), ("states", some (.ref d)), ("number", o1), ("listed", none), ("is_on", none)] ((d, DcP (intKind prog w) (setAll (base != "OFF") [] (ns.take i))) :: mu)) → C p' fs' mu') R.h (itb_ls N) ‹_› (fun _ K => K none) ?_ ?_
  · intro i p3 fs3 mu3 c v s4 hi l3 J hv
    apply J
    clear J l3 p3 fs3 mu3
    intro o1
    apply ints_el hu hv
    intro n tn hn H
    walk_at "g"
    rw [hU]
    walk_at "g"
    have e0 := setAll_len (ns.take i) [] (b := base != "OFF")
    have e1 : (ns.take i).length ≤ ns.length := List.length_take_le' _ _
    have ez : (setAll (base != "OFF") [] (ns.take i)).length ≤ sizeLine := Nat.le_trans (Nat.le_trans e0 (by simp; omega)) (Nat.le_of_ble_eq_true rfl : 300 ≤ sizeLine)
    refine r_dset (kvs := setAll (base != "OFF") [] (ns.take i)) ‹_› (by walk_at "upd") ik ez ?_
    intro s6 H
    rw [← setAll_take hn] at H
    walk_at "g"
    exact turn_of Le.rfl (fun _ K => K _) ‹_›
  · intro p3 fs3 mu3 s4 l3 J
    apply J
    clear J l3 p3 fs3 mu3
    intro o1 H
    have et : ns.take us.length = ns := by rw [hu.length]; exact List.take_length
    rw [et] at H
    walk_at "g"
    refine x_for ?_
    walk_at "g"
    refine r_newTuple ‹_› (Nat.le_of_ble_eq_true rfl) ?_
    intro t1 p4 s5 l4 ht1 H
    have T := T.mono l4
    have C := C.mono l4
    walk_at "g"
    refine r_newTuple ‹_› (Nat.le_of_ble_eq_true rfl) ?_
    intro t2 p5 s6 l5 ht2 H
    have T := T.mono l5
    walk_at "g"
    refine r_newTuple ‹_› (Nat.le_of_ble_eq_true rfl) ?_
    intro t3 p6 s7 l6 ht3 H
    have T := T.mono l6
    have l06 := l4.trans (l5.trans l6)
    have ht1 := l6 _ _ (l5 _ _ ht1)
    have ht2 := l6 _ _ ht2
    have on1 := on1.mono l06
    have of1 := of1.mono l06
    have z0 : (setAll (base != "OFF") [] ns).length ≤ 300 := by
      have := setAll_len ns [] (b := base != "OFF")
      simpa using Nat.le_trans this (by simpa using z1)
    unfold startS at h
    generalize setAll (base != "OFF") [] ns = S0 at *
    have zon : (ddp ons).length ≤ 300 := Nat.le_trans (ddp_length _) z2
    have zof : (ddp offs).length ≤ 300 := Nat.le_trans (ddp_length _) z3
    refine for_goT (I := fun i p' fs' mu' => ∀ C : Heap → List (Str × Option Value) → List Cell → Prop, (∀ o1 o2 o3, C p6 [("numbers", some (.ref nl)), ("config", some (.ref cf)), ("before", some .none), ("states", some (.ref d)), ("number", o1), ("listed", o2), ("is_on", o3)] ((d, DcP (intKind prog w) (curS S0 (ddp ons) (ddp offs) i)) :: mu)) → C p' fs' mu') R.h ht3 ‹_› (fun _ K => K _ _ _) ?_ ?_
    · intro i p7 fs7 mu7 c v s8 hi l7 J hv
      apply J
      clear J l7 p7 fs7 mu7
      intro o1 o2 o3
      have key : ∀ C : Value → Prop, (∀ ti la lu ls b, p6.get? ti = some (tupObj [.ref la, .bool b]) → Pt p6 la (LsP lu) → IntsAre lu ls → curS S0 (ddp ons) (ddp offs) (i + 1) = setIn b (curS S0 (ddp ons) (ddp offs) i) ls → (curS S0 (ddp ons) (ddp offs) i).length + ls.length ≤ 1000 → C (.ref ti)) → C v := by
        intro C K
        rcases (show i = 0 ∨ i = 1 from by have : i < 2 := hi; omega) with rfl | rfl
        · cases hv; exact K t1 ona onu (ddp ons) true ht1 on1 on2 rfl (by show S0.length + _ ≤ _; omega)
        · cases hv
          have := setIn_len (ddp ons) S0 (b := true)
          exact K t2 ofa ofu (ddp offs) false ht2 of1 of2 rfl (by show (setIn true S0 (ddp ons)).length + _ ≤ _; omega)
      apply key
      clear key hv
      intro ti la lu ls b hti hla hls hnext hz H
      generalize curS S0 (ddp ons) (ddp offs) i = S1 at *
      refine as_pair R.h ‹_› hti ?_
      intro s9 H
      walk_at "g"
      refine x_for ?_
      walk_at "g"
      refine for_go (I := fun j p' fs' mu' => ∀ C : Heap → List (Str × Option Value) → List Cell → Prop, (∀ o1, C p6 [("numbers", some (.ref nl)), ("config", some (.ref cf)), ("before", some .none), ("states", some (.ref d)), ("number", o1), ("listed", some (.ref la)), ("is_on", some (.bool b))] (c :: (d, DcP (intKind prog w) (setIn b S1 (ls.take j))) :: mu)) → C p' fs' mu') R.h (itb_ls hla) ‹_› (fun _ K => K _) ?_ ?_
      · intro j p8 fs8 mu8 c2 v s10 hj l8 J hv
        apply J
        clear J l8 p8 fs8 mu8
        intro o1
        apply ints_el hls hv
        intro n tn hn H
        walk_at "g"
        refine r_din ‹_› (rd_m ‹_› (by walk_at "mem")) lo ik ?_
        intro s11 H
        have e0 := setIn_len (ls.take j) S1 (b := b)
        have e1 : (ls.take j).length ≤ ls.length := List.length_take_le' _ _
        have ez : (setIn b S1 (ls.take j)).length ≤ sizeLine := Nat.le_trans (Nat.le_trans e0 (by omega)) (Nat.le_of_ble_eq_true rfl : 1000 ≤ sizeLine)
        cases hin : (valueAt (setIn b S1 (ls.take j)) n).isSome with
        | true =>
          walk_at "g"
          refine r_dset (kvs := setIn b S1 (ls.take j)) ‹_› (by walk_at "upd") ik ez ?_
          intro s12 H
          have ee : setIn b S1 (ls.take (j + 1)) = stored (setIn b S1 (ls.take j)) n (.bool b) := by rw [setIn_take hn, setIn1, if_pos hin]
          rw [← ee] at H
          walk_at "g"
          exact turn_of Le.rfl (fun _ K => K _) ‹_›
        | false =>
          have ee : setIn b S1 (ls.take (j + 1)) = setIn b S1 (ls.take j) := by rw [setIn_take hn, setIn1, if_neg (by rw [hin]; exact Bool.false_ne_true)]
          rw [← ee] at H
          walk_at "g"
          exact turn_of Le.rfl (fun _ K => K _) ‹_›
      · intro p8 fs8 mu8 s10 l8 J
        apply J
        clear J l8 p8 fs8 mu8
        intro o1 H
        have et : ls.take lu.length = ls := by rw [hls.length]; exact List.take_length
        rw [et, ← hnext] at H
        walk_at "g"
        exact turn_of Le.rfl (fun _ K => K _ _ _) ‹_›
    · intro p7 fs7 mu7 s8 l7 J
      apply J
      clear J l7 p7 fs7 mu7
      intro o1 o2 o3 H
      walk_at "g"
      exact h _ _ lo (St.less ‹_› l06).drop
end
section
variable {prog : Program} {w : World} {A : Around} {E : Value → Shared → Prop} {σ s : Shared} {p : Heap} {mu mu' : List Cell} {env : Env} {fs fs' : List (Str × Option Value)} {K : Frag} {mg mb : Str → Option Value} {rest : List Stmt}
noncomputable def FromQ (Q : Value → Shared → Prop) (o vl : Value) (s₂ : Shared) : Prop :=
  ∃ l vs, ∃ a : Nat, ∃ t σ p mu, o = .ref l ∧ vl = .int a t ∧ Pt s₂.heap l (LsP vs) ∧ a ≤ vs.length ∧ vs.length ≤ sizeLine ∧ St σ p mu s₂ ∧ ∀ D s', St σ p ((D, LsP (vs.drop a)) :: mu) s' → Q (.ref D) s'
theorem from_of {l : Addr} {vs : List Value} (a : Nat) {t : Tok} {Q : Value → Shared → Prop} (hl : Pt s.heap l (LsP vs)) (ha : a ≤ vs.length) (hz : vs.length ≤ sizeLine) (H : St σ p mu s) (k : ∀ D s', St σ p ((D, LsP (vs.drop a)) :: mu) s' → Q (.ref D) s') : FromQ Q (.ref l) (.int a t) s :=
  ⟨l, vs, a, t, σ, p, mu, rfl, rfl, hl, ha, hz, H, k⟩
noncomputable def UptoQ (Q : Value → Shared → Prop) (o vl : Value) (s₂ : Shared) : Prop :=
  ∃ l, ∃ vs : List Value, ∃ a : Nat, ∃ t σ p mu, o = .ref l ∧ vl = .int a t ∧ s₂.heap.IsList l vs.toArray ∧ vs.length ≤ sizeLine ∧ St σ p mu s₂ ∧ ∀ D s', St σ p ((D, LsP (vs.take a)) :: mu) s' → Q (.ref D) s'
theorem upto_of {l : Addr} {vs : List Value} (a : Nat) {t : Tok} {Q : Value → Shared → Prop} (hl : s.heap.IsList l vs.toArray) (hz : vs.length ≤ sizeLine) (H : St σ p mu s) (k : ∀ D s', St σ p ((D, LsP (vs.take a)) :: mu) s' → Q (.ref D) s') : UptoQ Q (.ref l) (.int a t) s :=
  ⟨l, vs, a, t, σ, p, mu, rfl, rfl, hl, hz, H, k⟩
theorem e_from {value lower : Expr} {q pos : Pos} {Q : Value → Shared → Prop}
    (h : wpAny (model prog w) A (eval value env) (fun o s₁ => wpAny (model prog w) A (eval lower env) (FromQ Q o) E s₁) E s)
    (ht : ∀ o r, letTemporaryGo value o r = pure () := by intro _ _; rfl) :
    wpAny (model prog w) A (eval (.Subscript value (.Slice (some lower) none none q) pos) env) Q E s := by
  refine wpAny_Subscript_list_slice (wpAny_mono h (fun o s₁ h₁ => wpAny_evalPart_some (wpAny_mono h₁ (fun vl s₂ h₂ => wpAny_evalPart_none ?_) fun _ _ e => e)) fun _ _ e => e) ht
  obtain ⟨l, vs, a, t, σ, p, mu, rfl, rfl, hl, ha, hz, H, k⟩ := h₂
  refine ⟨l, vs.toArray, some a, none, rfl, LsP.is hl, by simpa using hz, .int _ _, .none, ?_⟩
  rw [slicePick_from _ _ (by simpa using ha)]
  have H2 := (H.push { cls := .type "slice", data := .fields #[.int a t, .none, .none] }).alloc { cls := .type "list", data := .seq (vs.drop a).toArray } (LsP (vs.drop a)) ⟨0, rfl⟩
  rw [Heap.size_push] at H2
  exact k _ _ H2
theorem slicePick_upto' (items : Array Value) (b : Nat) : slicePick items none (some b) none = (items.toList.take b).toArray := by
  have e : sliceBounds none (some (b : Int)) none items.size = (((0 : Nat) : Int), ((min b items.size : Nat) : Int), 1) := by
    simp only [sliceBounds, Option.getD_none]
    have h2 : ¬ ((b : Int) < 0) := by omega
    simp only [h2, if_false, show (1 : Int) > 0 by decide, if_true]
    congr 1
    congr 1
    omega
  unfold slicePick
  rw [e]
  simp only [sliceRange_one, pick_run]
  simp only [List.drop_zero, Nat.sub_zero]
  rw [← Array.length_toList, List.take_eq_take_min (i := b)]
theorem e_upto {value upper : Expr} {q pos : Pos} {Q : Value → Shared → Prop}
    (h : wpAny (model prog w) A (eval value env) (fun o s₁ => wpAny (model prog w) A (eval upper env) (UptoQ Q o) E s₁) E s)
    (ht : ∀ o r, letTemporaryGo value o r = pure () := by intro _ _; rfl) :
    wpAny (model prog w) A (eval (.Subscript value (.Slice none (some upper) none q) pos) env) Q E s := by
  refine wpAny_Subscript_list_slice (wpAny_mono h (fun o s₁ h₁ => wpAny_evalPart_none (wpAny_evalPart_some (wpAny_mono h₁ (fun vl s₂ h₂ => ?_) fun _ _ e => e))) fun _ _ e => e) ht
  obtain ⟨l, vs, a, t, σ, p, mu, rfl, rfl, hl, hz, H, k⟩ := h₂
  refine ⟨l, vs.toArray, none, some a, rfl, hl, by simpa using hz, .none, .int _ _, ?_⟩
  rw [slicePick_upto']
  have H2 := (H.push { cls := .type "slice", data := .fields #[.none, .int a t, .none] }).alloc { cls := .type "list", data := .seq (vs.take a).toArray } (LsP (vs.take a)) ⟨0, rfl⟩
  rw [Heap.size_push] at H2
  exact k _ _ H2
theorem m_extend {l : Addr} {vs : List Value} {pl : Sem Bool} {Q : Value × List Value → Shared → Prop} (x : Pt s.heap l (LsP vs)) (h : Q (.builtin "list.extend", [.ref l]) s) : wpAny (model prog w) A (getMethod (.ref l) "extend" pl) Q E s := by
  obtain ⟨o, e, n, q⟩ := x
  exact getMethod_builtin ⟨_, e, by rw [q]⟩ PySem.F.plainAttrs_list PySem.F.slot_list_extend PySem.F.type_list_extend (fun a ea => by cases ea; exact ⟨_, e, by rw [q]⟩) h
theorem r_extend {l b : Addr} {vs us : List Value} {Q : Value → Shared → Prop} (H : St σ p mu s) (y : Pt s.heap b (LsP us)) (u : CUpd l (LsP vs) (LsP (vs ++ us)) mu mu') (hz : vs.length + us.length ≤ sizeLine)
    (h : ∀ s', St σ p mu' s' → Q .none s') : wpAny (model prog w) A (call (.builtin "list.extend") [.ref l, .ref b]) Q E s := by
  obtain ⟨o, e, n, q⟩ := (H.own _ u.mem).1
  obtain ⟨o2, e2, n2, q2⟩ := y
  subst q q2
  have hz' : vs.toArray.size + us.toArray.size ≤ sizeLine := by simpa using hz
  refine call_meets PySem.F.slot_list_extend ⟨_, e, rfl⟩ PySem.F.entry_list_extend (PySem.F.args_list_extend_2 _ _) (AutoSeq1.list_extend_list_list_0 l vs.toArray n b us.toArray n2 (extend_door hz') (Nat.le_trans (Nat.le_add_right _ _) hz') (Nat.le_trans hz' (Nat.le_succ _))) ⟨e, e2, ?_⟩
  refine h _ (H.set u (Heap.SameBut.update ..) ⟨_, Heap.get?_update_self _ e (by rw [mapSeq_app]; rfl), ?_⟩)
  rw [mapSeq_app, List.append_toArray]
  exact ⟨_, rfl⟩
theorem r_ladd {l b : Addr} {vs us : List Value} {Q : Value → Shared → Prop} (H : St σ p mu s) (x : Pt s.heap l (LsP vs)) (y : Pt s.heap b (LsP us)) (hz : vs.length + us.length ≤ sizeLine)
    (h : ∀ D s', St σ p ((D, LsP (vs ++ us)) :: mu) s' → Q (.ref D) s') : wpAny (model prog w) A (binaryOp .Add (.ref l) (.ref b)) Q E s := by
  obtain ⟨o, e, n, q⟩ := x
  obtain ⟨o2, e2, n2, q2⟩ := y
  subst q q2
  have hz' : vs.toArray.size + us.toArray.size ≤ sizeLine := by simpa using hz
  refine PySem.P.add_list e e2 ?_ hz'
  rw [List.append_toArray]
  exact h _ _ (H.alloc _ _ ⟨0, rfl⟩)
theorem r_add {a b : Int} {t u : Tok} {Q : Value → Shared → Prop} (H : St σ p mu s) (h : ∀ t' s', St σ p mu s' → Q (.int (a + b) t') s') : wpAny (model prog w) A (binaryOp .Add (.int a t) (.int b u)) Q E s := PyProof.Rows.add_int (h _ _ (H.toks _))
theorem r_sub {a b : Int} {t u : Tok} {Q : Value → Shared → Prop} (H : St σ p mu s) (h : ∀ t' s', St σ p mu s' → Q (.int (a - b) t') s') : wpAny (model prog w) A (binaryOp .Sub (.int a t) (.int b u)) Q E s := PyProof.Rows.sub_int (h _ _ (H.toks _))
theorem x_while {test : Expr} {body : List Stmt} {pos : Pos} {Q : Flow → Shared → Prop} (I : Nat → Heap → List (Str × Option Value) → List Cell → Prop) (n : Nat)
    (H : St σ p ((env.locals, FrameP env fs) :: mu) s) (h0 : I n p fs mu)
    (turn : ∀ n p' fs' mu' s', Le p p' → I n p' fs' mu' → St σ p' ((env.locals, FrameP env fs') :: mu') s' → wpAny (model prog w) A (isTrue test env (eval test env)) (fun b s₂ =>
      if b = true then wpAny (model prog w) A (execs body env) (fun f s₃ => f = .next ∧ ∃ m p'' fs'' mu'', m < n ∧ Le p' p'' ∧ I m p'' fs'' mu'' ∧ St σ p'' ((env.locals, FrameP env fs'') :: mu'') s₃) NE s₂
      else wpAny (model prog w) A (execs rest env) Q E s₂) NE s') :
    wpAny (model prog w) A (execs (.While test body [] pos :: rest) env) Q E s := by
  refine wpAny_execs_cons (wpAny_While ?_)
  refine codeAny_whileLoop (fun n s => ∃ p' fs' mu', Le p p' ∧ I n p' fs' mu' ∧ St σ p' ((env.locals, FrameP env fs') :: mu') s) ?_ n ⟨p, fs, mu, Le.rfl, h0, H⟩
  rintro n s₃ ⟨p', fs', mu', le, hI, H₃⟩
  refine wpAny_mono (turn n p' fs' mu' s₃ le hI H₃) (fun b s₄ h₄ => ?_) fun _ _ q => q.elim
  cases b with
  | true =>
    refine wpAny_mono h₄ (fun f s₅ h₅ => ?_) fun _ _ q => q.elim
    obtain ⟨rfl, m, p'', fs'', mu'', hm, l, hI', H₅⟩ := h₅
    exact ⟨m, hm, p'', fs'', mu'', le.trans l, hI', H₅⟩
  | false => exact wpAny_execs_nil h₄
end
local macro_rules | `(tactic| walk_at "go4") => `(tactic| first
  | ((with_reducible refine' e_from ?_ ?a); (case a => (intro _ _; rfl)))
  | ((with_reducible refine' e_upto ?_ ?a); (case a => (intro _ _; rfl)))
  | walk_at "go3"
  | ((with_reducible refine' r_add ?H ?_); (case H => with_reducible assumption); intro t s H)
  | ((with_reducible refine' r_sub ?H ?_); (case H => with_reducible assumption); intro t s H))
local macro_rules | `(tactic| walk_at "g") => `(tactic| repeat walk_at "go4")
section
variable {prog : Program} {w : World} {A : Around} {E : Value → Shared → Prop} {σ s : Shared} {p : Heap} {mu mu' : List Cell} {env : Env} {fs fs' : List (Str × Option Value)} {K : Frag} {mg mb : Str → Option Value} {rest : List Stmt}
variable {KT : Type} [DecidableEq KT] {knd : KeyKind prog w KT}
theorem r_dcopy {o : Addr} {more : List (KT × Value)} {Q : Value → Shared → Prop} (T : Tp K mg mb p) (H : St σ p mu s) (x : Pt s.heap o (DcP knd more)) (lo : (o == sysModules) = false) (hz : more.length ≤ sizeLine)
    (h : ∀ d s', (d == sysModules) = false → St σ p ((d, DcP knd more) :: mu) s' → Q (.ref d) s') : wpAny (model prog w) A (call (.type "dict") [.ref o]) Q E s := by
  refine kt_call_dict lo (DcP.is x) hz fun h' hd hs => h _ _ (fresh_mods T H) ?_
  have H2 := H.alloc { cls := .type "dict", data := .dict #[] } (fun _ => True) trivial
  exact St.set (s := { s with heap := s.heap.push { cls := .type "dict", data := .dict #[] } }) H2 .head hs (DcP.of hd)
end
theorem valueAt_nil {KT : Type} [DecidableEq KT] (k : KT) : valueAt ([] : List (KT × Value)) k = none := rfl
theorem valueAt_cons {KT : Type} [DecidableEq KT] (q : KT × Value) (r : List (KT × Value)) (k : KT) : valueAt (q :: r) k = if q.1 = k then some q.2 else valueAt r k := by
  unfold valueAt
  rw [List.find?_cons]
  by_cases h : q.1 = k <;> simp [h]
theorem valueAt_append {KT : Type} [DecidableEq KT] (k : KT) : ∀ (a b : List (KT × Value)), valueAt (a ++ b) k = (valueAt a k).or (valueAt b k)
  | [], b => rfl
  | q :: r, b => by
    rw [List.cons_append, valueAt_cons, valueAt_cons, valueAt_append k r b]
    by_cases h : q.1 = k <;> simp [h]
theorem valueAt_map {KT : Type} [DecidableEq KT] (k k' : KT) (v : Value) : ∀ kvs : List (KT × Value), valueAt (kvs.map (fun kv => if kv.1 = k then (kv.1, v) else kv)) k' = if k' = k then (valueAt kvs k).map (fun _ => v) else valueAt kvs k'
  | [] => by simp [valueAt_nil]
  | q :: r => by
    rw [List.map_cons, valueAt_cons, valueAt_cons, valueAt_cons, valueAt_map k k' v r]
    by_cases h1 : q.1 = k
    · by_cases h2 : k' = k
      · simp [h1, h2]
      · have h3 : ¬ k = k' := fun e => h2 e.symm
        simp [h1, h2, h3]
    · by_cases h2 : k' = k
      · simp [h1, h2]
      · simp [h1, h2]
theorem valueAt_any {KT : Type} [DecidableEq KT] (k : KT) : ∀ kvs : List (KT × Value), (valueAt kvs k).isSome = kvs.any (fun kv => kv.1 = k)
  | [] => rfl
  | q :: r => by
    rw [valueAt_cons, List.any_cons, ← valueAt_any k r]
    by_cases h : q.1 = k <;> simp [h]
theorem valueAt_stored {KT : Type} [DecidableEq KT] (kvs : List (KT × Value)) (k k' : KT) (v : Value) : valueAt (stored kvs k v) k' = if k' = k then some v else valueAt kvs k' := by
  unfold stored
  have ha := valueAt_any k kvs
  cases hs : kvs.any (fun kv => decide (kv.1 = k)) with
  | true =>
    rw [if_pos rfl, valueAt_map]
    rw [hs] at ha
    obtain ⟨x, hx⟩ := Option.isSome_iff_exists.mp ha
    rw [hx]; rfl
  | false =>
    rw [if_neg Bool.false_ne_true, valueAt_append, valueAt_cons, valueAt_nil]
    rw [hs] at ha
    have hx : valueAt kvs k = none := Option.not_isSome_iff_eq_none.mp (by rw [ha]; exact Bool.false_ne_true)
    by_cases h : k' = k
    · subst h; simp [hx]
    · have h3 : ¬ k = k' := fun e => h e.symm
      simp [h, h3]
theorem stored_new {KT : Type} [DecidableEq KT] {kvs : List (KT × Value)} {k : KT} {v : Value} (h : valueAt kvs k = none) : stored kvs k v = kvs ++ [(k, v)] := by
  unfold stored
  have ha := valueAt_any k kvs
  rw [h] at ha
  rw [← ha]; rfl
section
variable {prog : Program} {w : World} {A : Around} {E : Value → Shared → Prop} {σ s : Shared} {p : Heap} {mu mu' : List Cell} {mg mb : Str → Option Value} {K : Frag}
variable {sh TB TR : Addr} {kvs : List (Int × Value)}

theorem mk_ref {k : Nat} {n g : Value} {Q : Value → Shared → Prop} (T : Tp (KK w) mg mb p) (H : St σ p mu s) (R : Rm A (k + 2))
    (h : ∀ x p' s', Le p p' → InstIs p' x 266 [("number", n), ("generation", g)] → St σ p' mu s' → Q (.ref x) s') :
    wpAny (model prog w) A (call (.ref 266) [n, g]) Q E s := by
  refine call_of (r_make T H R mo_266 ?_)
  intro A x dx p2 s2 R l2 hx H
  have T := T.mono l2
  refine enter0 (fs := [("self", some (.ref x)), ("number", some n), ("generation", some g)]) (binds := [("self", .ref x), ("number", n), ("generation", g)]) T H R d256 (by kernel_rfl) (by kernel_rfl) (by kernel_rfl) (by kernel_rfl) ?_
  intro A env s3 hs he H R
  refine x_setattr ?_
  walk_at "g"
  walk_at "sat"; intro s4 H
  walk_at "g"
  walk_at "sat"; intro s5 H
  walk_at "g"
  refine St.fz (St.drop ‹_›) ?_
  intro p3 l3 hd H
  exact ⟨rfl, h x p3 _ (l2.trans l3) ⟨dx, l3 _ _ hx, hd⟩ H⟩
theorem mk_name {k : Nat} {n : Value} {Q : Value → Shared → Prop} (T : Tp (KK w) mg mb p) (H : St σ p mu s) (R : Rm A (k + 2))
    (h : ∀ x p' s', Le p p' → InstIs p' x 195 [("text", n)] → St σ p' mu s' → Q (.ref x) s') :
    wpAny (model prog w) A (call (.ref 195) [n]) Q E s := by
  refine call_of (r_make T H R mo_195 ?_)
  intro A x dx p2 s2 R l2 hx H
  have T := T.mono l2
  refine enter0 (fs := [("self", some (.ref x)), ("text", some n)]) (binds := [("self", .ref x), ("text", n)]) T H R d192 (by kernel_rfl) (by kernel_rfl) (by kernel_rfl) (by kernel_rfl) ?_
  intro A env s3 hs he H R
  refine x_setattr ?_
  walk_at "g"
  walk_at "sat"; intro s4 H
  walk_at "g"
  refine St.fz (St.drop ‹_›) ?_
  intro p3 l3 hd H
  exact ⟨rfl, h x p3 _ (l2.trans l3) ⟨dx, l3 _ _ hx, hd⟩ H⟩
theorem mk_str {k : Nat} {n : Value} {Q : Value → Shared → Prop} (T : Tp (KK w) mg mb p) (H : St σ p mu s) (R : Rm A (k + 2))
    (h : ∀ x p' s', Le p p' → InstIs p' x 217 [("octets", n), ("is_hex", .bool false)] → St σ p' mu s' → Q (.ref x) s') :
    wpAny (model prog w) A (call (.ref 217) [n]) Q E s := by
  refine call_of (r_make T H R mo_217 ?_)
  intro A x dx p2 s2 R l2 hx H
  have T := T.mono l2
  refine enter0d (D := 207) (pos := [.ref x, n]) (items := [.bool false]) (fs := [("self", some (.ref x)), ("octets", some n), ("is_hex", some (.bool false))]) (binds := [("self", .ref x), ("octets", n), ("is_hex", .bool false)]) T H R d214 (by kernel_rfl) (by kernel_rfl) (by kernel_rfl) (by kernel_rfl) (by kernel_rfl) (by kernel_rfl) ?_
  intro A env s3 hs he H R
  refine x_setattr ?_
  walk_at "g"
  walk_at "sat"; intro s4 H
  walk_at "g"
  walk_at "sat"; intro s5 H
  walk_at "g"
  refine St.fz (St.drop ‹_›) ?_
  intro p3 l3 hd H
  exact ⟨rfl, h x p3 _ (l2.trans l3) ⟨dx, l3 _ _ hx, hd⟩ H⟩
theorem mk_shelf {k : Nat} {Q : Value → Shared → Prop} (T : Tp (KK w) mg mb p) (H : St σ p mu s) (R : Rm A (k + 2))
    (h : ∀ x p' s' TB TR, Le p p' → ShelfI p' x TB TR → (TB == sysModules) = false → (TR == sysModules) = false → St σ p' ((TB, DcP (intKind prog w) []) :: (TR, DcP (strKind prog w) []) :: mu) s' → Q (.ref x) s') :
    wpAny (model prog w) A (call (.ref 375) []) Q E s := by
  refine call_of (r_make T H R mo_375 ?_)
  intro A x dx p2 s2 R l2 hx H
  have T := T.mono l2
  refine enter0d (D := 297) (pos := [.ref x]) (items := [.none, .none]) (fs := [("self", some (.ref x)), ("table", some .none), ("trailer", some .none)]) (binds := [("self", .ref x), ("table", .none), ("trailer", .none)]) T H R d304 (by kernel_rfl) (by kernel_rfl) (by kernel_rfl) (by kernel_rfl) (by kernel_rfl) (by kernel_rfl) ?_
  intro A env s3 hs he H R
  refine x_setattr ?_
  walk_at "g"
  refine is_none_none ?_
  walk_at "g"
  refine e_dict0 (knd := intKind prog w) T ‹_› ?_
  intro d1 s4 lo1 H
  have H := H.swap
  walk_at "g"
  refine r_setattr (fl := []) T ‹_› hx (by walk_at "sok") rfl (.tail .head) (Nat.le_of_ble_eq_true rfl) ?_; intro s5 H
  walk_at "g"
  refine is_none_none ?_
  walk_at "g"
  refine e_dict0 (knd := strKind prog w) T ‹_› ?_
  intro d2 s6 lo2 H
  have H := H.swap
  walk_at "g"
  refine r_setattr (fl := [("table", .ref d1)]) T ‹_› hx (by walk_at "sok") rfl (.tail (.tail .head)) (Nat.le_of_ble_eq_true rfl) ?_; intro s5 H
  walk_at "g"
  have H := (St.drop ‹_›).perm (List.perm_middle (l₁ := [_, _]))
  refine St.fz H ?_
  intro p3 l3 hd H
  exact ⟨rfl, h x p3 _ _ _ (l2.trans l3) ⟨dx, l3 _ _ hx, hd⟩ lo1 lo2 H.swap⟩
theorem Sf.put {k : Nat} {n : Int} {tn : Tok} {g v : Value} {f : List (Int × Value) → List Cell} {Q : Value → Shared → Prop} (S : Sf prog w p mu sh TB TR kvs) (T : Tp (KK w) mg mb p) (H : St σ p mu s) (R : Rm A (k + 2))
    (u : ∀ x, CUpd TB (DcP (intKind prog w) kvs) (DcP (intKind prog w) x) mu (f x)) (hz : kvs.length ≤ 1000)
    (h : ∀ t p' s', Le p p' → p'.get? t = some (tupObj [g, v]) → St σ p' (f (stored kvs n (.ref t))) s' → Q .none s') :
    wpAny (model prog w) A (call (.ref 339) [.ref sh, .int n tn, g, v]) Q E s := by
  refine call_of (enter0 (fs := [("self", some (.ref sh)), ("number", some (.int n tn)), ("generation", some (g)), ("value", some (v))]) (binds := [("self", .ref sh), ("number", .int n tn), ("generation", g), ("value", v)]) T H R d339 (by kernel_rfl) (by kernel_rfl) (by kernel_rfl) (by kernel_rfl) ?_)
  intro A env s1 hs he H R
  have I := S.I
  refine x_setitem ?_
  walk_at "g"
  refine r_newTuple ‹_› (Nat.le_of_ble_eq_true rfl) ?_
  intro t p2 s2 l2 ht H
  have T := T.mono l2
  have I := I.mono l2
  walk_at "g"
  refine r_dset ‹_› (.tail (u _)) ik (Nat.le_trans hz (Nat.le_of_ble_eq_true rfl)) ?_
  intro s3 H
  walk_at "g"
  exact h t p2 _ l2 ht (St.drop ‹_›)
theorem Sf.add {k m : Nat} {v : Value} {f : List (Int × Value) → List Cell} {Q : Value → Shared → Prop} (S : Sf prog w p mu sh TB TR kvs) (T : Tp (KK w) mg mb p) (H : St σ p mu s) (R : Rm A (k + 4))
    (u : ∀ x, CUpd TB (DcP (intKind prog w) kvs) (DcP (intKind prog w) x) mu (f x)) (hz : kvs.length ≤ 1000)
    (hin : ∀ i : Nat, 1 ≤ i → i ≤ m → (valueAt kvs (i : Int)).isSome = true) (hout : valueAt kvs ((m : Int) + 1) = none)
    (h : ∀ x t tk p' s', Le p p' → p'.get? t = some (tupObj [.int 0 tk, v]) → RefI p' (.ref x) ((m : Int) + 1) 0 → St σ p' (f (stored kvs ((m : Int) + 1) (.ref t))) s' → Q (.ref x) s') :
    wpAny (model prog w) A (call (.ref 346) [.ref sh, v]) Q E s := by
  refine call_of (enter0 (fs := [("self", some (.ref sh)), ("value", some (v)), ("number", none)]) (binds := [("self", .ref sh), ("value", v)]) T H R d346 (by kernel_rfl) (by kernel_rfl) (by kernel_rfl) (by kernel_rfl) ?_)
  intro A env s1 hs he H R
  have G_Reference := gnl hs (by kernel_rfl) (gl_gReference T)
  have I := S.I
  refine x_assign ?_
  walk_at "g"
  refine x_while (σ := σ) (I := fun j p' fs' mu' => ∃ i t1, i + j = m + 1 ∧ 1 ≤ i ∧ p' = p ∧ mu' = mu ∧ fs' = ([("self", some (.ref sh)), ("value", some v), ("number", some (.int (i : Nat) t1))] : List (Str × Option Value))) m ‹_› ⟨1, _, by omega, by omega, rfl, rfl, rfl⟩ ?_
  rintro j p3 fs3 mu3 s3 l3 ⟨i, t1, hj, h1, rfl, rfl, rfl⟩ H
  walk_at "g"
  refine r_din ‹_› (rd_m ‹_› (.tail _ S.tb)) S.lo ik ?_
  intro s4 H
  rcases Nat.lt_or_ge m i with hlt | hge
  · have e : i = m + 1 := by omega
    subst e
    have e : ((m + 1 : Nat) : Int) = (m : Int) + 1 := by omega
    rw [e, hout]
    walk_at "g"
    refine x_setitem ?_
    walk_at "g"
    refine r_newTuple ‹_› (Nat.le_of_ble_eq_true rfl) ?_
    intro t p4 s5 l4 ht H
    have T := T.mono l4
    have I := I.mono l4
    walk_at "g"
    refine r_dset ‹_› (.tail (u _)) ik (Nat.le_trans hz (Nat.le_of_ble_eq_true rfl)) ?_
    intro s6 H
    walk_at "g"
    refine mk_ref T ‹_› R ?_
    intro x p7 s7 l7 hx H
    exact h x t _ p7 _ (l4.trans l7) (l7 _ _ ht) ⟨x, _, _, rfl, hx⟩ H.drop
  · rw [hin i h1 hge]
    walk_at "g"
    exact ⟨rfl, m - i, p3, _, _, by omega, Le.rfl, ⟨i + 1, _, by omega, by omega, rfl, rfl, rfl⟩, ‹_›⟩
end
inductive RwD where
  | grp (n : Int)
  | lab (o : Array UInt8)
inductive Hd where
  | empty
  | str (o : Array UInt8)
  | other
noncomputable abbrev Rws := List (Int × RwD)
noncomputable def shR (d : Int) (r : Rws) : Rws := r.map fun x => (d + x.1, x.2)
inductive RowAt (p : Heap) : Value → Int × RwD → Prop
  | grp {a d n t1 t2 t3} : p.get? a = some (tupObj [.str "group" t1, .int d t2, .int n t3]) → RowAt p (.ref a) (d, .grp n)
  | lab {a d o t1 t2 t3} : p.get? a = some (tupObj [.str "label" t1, .int d t2, .bytes o t3]) → RowAt p (.ref a) (d, .lab o)
theorem RowAt.mono {p p' : Heap} {v r} (h : RowAt p v r) (l : Le p p') : RowAt p' v r := by
  cases h with
  | grp e => exact .grp (l _ _ e)
  | lab e => exact .lab (l _ _ e)
inductive RowsAt (p : Heap) : List Value → Rws → Prop
  | nil : RowsAt p [] []
  | cons {v r vs rs} : RowAt p v r → RowsAt p vs rs → RowsAt p (v :: vs) (r :: rs)
theorem RowsAt.mono {p p' : Heap} {vs rs} (h : RowsAt p vs rs) (l : Le p p') : RowsAt p' vs rs := by
  induction h with
  | nil => exact .nil
  | cons a _ ih => exact .cons (a.mono l) ih
theorem RowsAt.append {p : Heap} {vs rs us qs} (h : RowsAt p vs rs) (g : RowsAt p us qs) : RowsAt p (vs ++ us) (rs ++ qs) := by
  induction h with
  | nil => exact g
  | cons a _ ih => exact .cons a ih
theorem RowsAt.length {p : Heap} {vs rs} (h : RowsAt p vs rs) : vs.length = rs.length := by
  induction h with
  | nil => rfl
  | cons _ _ ih => simp [ih]
theorem shR_app (d : Int) (a b : Rws) : shR d (a ++ b) = shR d a ++ shR d b := List.map_append ..
theorem shR_len (d : Int) (a : Rws) : (shR d a).length = a.length := List.length_map ..
theorem shR_sh (d e : Int) (a : Rws) : shR d (shR e a) = shR (d + e) a := by
  unfold shR; rw [List.map_map]; apply List.map_congr_left; intro x _; show (d + (e + x.1), x.2) = _; rw [Int.add_assoc]

inductive LAt (p : Heap) (kvs : List (Int × Value)) : Value → Addr → Prop
  | dir {l} : LAt p kvs (.ref l) l
  | ref {v n a t l} : RefI p v n 0 → valueAt kvs n = some (.ref a) → p.get? a = some (tupObj [.int 0 t, .ref l]) → LAt p kvs v l
inductive Jk (p : Heap) : Value → Value → Prop
  | int {n t} : Jk p (.int n t) (.int n t)
  | non : Jk p .none .none
  | miss {v} : RefI p v 90 0 → Jk p v .none
inductive Tr (prog : Program) (w : World) (p : Heap) (kvs : List (Int × Value)) : Nat → List Value → Rws → Hd → Prop
  | nil {k} : Tr prog w p kvs k [] [] .empty
  | grp {k v n vs r h} : RefI p v n 0 → IsG prog w p kvs v true → Tr prog w p kvs k vs r h → Tr prog w p kvs k (v :: vs) ((0, .grp n) :: r) .other
  | junk {k v x vs r h} : Jk p v x → Tr prog w p kvs k vs r h → Tr prog w p kvs k (v :: vs) r .other
  | str {k v o t vs r h} : StI p v (.bytes o t) → Tr prog w p kvs k vs r h → Tr prog w p kvs k (v :: vs) r (.str o)
  | lab {k v l u o t us rI hI vs r h} : LAt p kvs v l → Pt p l (LsP (u :: us)) → us.length ≤ 1000 → StI p u (.bytes o t) → Tr prog w p kvs k us rI hI → Tr prog w p kvs (k + 1) vs r h →
      Tr prog w p kvs (k + 1) (v :: vs) (((0, .lab o) :: shR 1 rI) ++ r) .other
  | arr {k v l us rI hI vs r h} : LAt p kvs v l → Pt p l (LsP us) → us.length ≤ 1000 → Tr prog w p kvs k us rI hI → (∀ o, hI ≠ .str o) → Tr prog w p kvs (k + 1) vs r h →
      Tr prog w p kvs (k + 1) (v :: vs) (shR 1 rI ++ r) .other
section
variable {prog : Program} {w : World} {A : Around} {E : Value → Shared → Prop} {σ s : Shared} {p : Heap} {mu mu' : List Cell} {mg mb : Str → Option Value} {K : Frag}
variable {sh TB TR : Addr} {kvs : List (Int × Value)}
theorem LAt.mono {p' : Heap} {v l} (h : LAt p kvs v l) (q : Le p p') : LAt p' kvs v l := by
  cases h with
  | dir => exact .dir
  | ref a b c => exact .ref (a.mono q) b (q _ _ c)
theorem StI.mono {p' : Heap} {v o : Value} (h : StI p v o) (q : Le p p') : StI p' v o := let ⟨a, b, c, d⟩ := h; ⟨a, b, c, d.mono q⟩
theorem Jk.mono {p' : Heap} {v x : Value} (h : Jk p v x) (q : Le p p') : Jk p' v x := by
  cases h with
  | int => exact .int
  | non => exact .non
  | miss a => exact .miss (a.mono q)
theorem Tr.mono {p' : Heap} {k vs r h} (t : Tr prog w p kvs k vs r h) (q : Le p p') : Tr prog w p' kvs k vs r h := by
  induction t with
  | nil => exact .nil
  | grp a b _ ih => exact .grp (a.mono q) (b.mono q) ih
  | junk a _ ih => exact .junk (a.mono q) ih
  | str a _ ih => exact .str (a.mono q) ih
  | lab a b z c _ _ ih1 ih2 => exact .lab (a.mono q) (b.mono q) z (c.mono q) ih1 ih2
  | arr a b z _ c _ ih1 ih2 => exact .arr (a.mono q) (b.mono q) z ih1 c ih2
theorem LAt.isG {v : Value} {l : Addr} {vs : List Value} (h : LAt p kvs v l) (L : Pt p l (LsP vs)) : IsG prog w p kvs v false := by
  cases h with
  | dir => exact .nonref (VT.notRef (VT.ls L) ki_list_r266)
  | ref a b c => exact .arr a b c (VT.ls L)
theorem LAt.fet {v : Value} {l : Addr} {vs : List Value} (h : LAt p kvs v l) (L : Pt p l (LsP vs)) : Fet (KK w) p kvs v (.ref l) := by
  cases h with
  | dir => exact .here (VT.notRef (VT.ls L) ki_list_r266)
  | ref a b c => exact .hop a b c (VT.notRef (VT.ls L) ki_list_r266)
theorem StI.vt {v o : Value} (h : StI p v o) : VT (KK w) p v (.ref 217) := let ⟨a, b, e, i⟩ := h; e ▸ VT.inst i ck_217
theorem Jk.isG {v x : Value} (h : Jk p v x) (h90 : valueAt kvs 90 = none) : IsG prog w p kvs v false := by
  cases h with
  | int => exact .nonref (VT.notRef VT.int ki_int_r266)
  | non => exact .nonref (VT.notRef VT.none ki_none_r266)
  | miss a => exact .miss a h90
theorem Jk.fet {v x : Value} (h : Jk p v x) (h90 : valueAt kvs 90 = none) : Fet (KK w) p kvs v x := by
  cases h with
  | int => exact .here (VT.notRef VT.int ki_int_r266)
  | non => exact .here (VT.notRef VT.none ki_none_r266)
  | miss a => exact .miss a h90
theorem Jk.vt {v x : Value} (h : Jk p v x) : ∃ t, VT (KK w) p x t ∧ kitOne (KK w) t (.type "list") = some false ∧ kitOne (KK w) t (.ref 217) = some false := by
  cases h with
  | int => exact ⟨_, VT.int, ki_int_list, ki_int_r217⟩
  | non => exact ⟨_, VT.none, ki_none_list, ki_none_r217⟩
  | miss a => exact ⟨_, VT.none, ki_none_list, ki_none_r217⟩
theorem IsG.fetG {v : Value} (h : IsG prog w p kvs v true) : ∃ gd, Fet (KK w) p kvs v (.ref gd) ∧ VT (KK w) p (.ref gd) (.type "dict") := by
  cases h with
  | grp a b c d =>
    obtain ⟨kv, nm, hd, _⟩ := d
    exact ⟨_, .hop a b c (VT.notRef hd.vt ki_dict_r266), hd.vt⟩
theorem Tr.head {k v vs r h} (t : Tr prog w p kvs k (v :: vs) r h) (hn : ∀ o, h ≠ .str o) (h90 : valueAt kvs 90 = none) : ∃ x ty, Fet (KK w) p kvs v x ∧ VT (KK w) p x ty ∧ kitOne (KK w) ty (.ref 217) = some false := by
  cases t with
  | grp a b c => obtain ⟨gd, x, y⟩ := b.fetG; exact ⟨_, _, x, y, ki_dict_r217⟩
  | junk a b => obtain ⟨t, x, _, y⟩ := a.vt (w := w); exact ⟨_, _, a.fet h90, x, y⟩
  | str a b => exact absurd rfl (hn _)
  | lab a b z c d e => exact ⟨_, _, a.fet b, VT.ls b, ki_list_r217⟩
  | arr a b z c d e => exact ⟨_, _, a.fet b, VT.ls b, ki_list_r217⟩

theorem Tr.cons_el {k : Nat} {v : Value} {vs : List Value} {r : Rws} {h : Hd} {G : Prop} (t : Tr prog w p kvs k (v :: vs) r h)
    (grp : ∀ n r' h', r = (0, .grp n) :: r' → RefI p v n 0 → IsG prog w p kvs v true → Tr prog w p kvs k vs r' h' → G)
    (junk : ∀ x h', Jk p v x → Tr prog w p kvs k vs r h' → G)
    (str : ∀ o t h', StI p v (.bytes o t) → Tr prog w p kvs k vs r h' → G)
    (lab : ∀ k' l u o t us rI hI r' h', k = k' + 1 → r = ((0, .lab o) :: shR 1 rI) ++ r' → LAt p kvs v l → Pt p l (LsP (u :: us)) → us.length ≤ 1000 → StI p u (.bytes o t) → Tr prog w p kvs k' us rI hI → Tr prog w p kvs k vs r' h' → G)
    (arr : ∀ k' l us rI hI r' h', k = k' + 1 → r = shR 1 rI ++ r' → LAt p kvs v l → Pt p l (LsP us) → us.length ≤ 1000 → Tr prog w p kvs k' us rI hI → (∀ o, hI ≠ .str o) → Tr prog w p kvs k vs r' h' → G) : G := by
  cases t with
  | grp a b c => exact grp _ _ _ rfl a b c
  | junk a b => exact junk _ _ a b
  | str a b => exact str _ _ _ a b
  | lab a b c d e f => exact lab _ _ _ _ _ _ _ _ _ _ rfl rfl a b c d e f
  | arr a b c d e f => exact arr _ _ _ _ _ _ _ rfl rfl a b c d e f
noncomputable def OrdC (prog : Program) (w : World) (k : Nat) : Prop :=
  ∀ {A : Around} {E : Value → Shared → Prop} {σ s : Shared} {p : Heap} {mu : List Cell} {mg mb : Str → Option Value} {sh TB TR : Addr} {kvs : List (Int × Value)} {l : Addr} {vs : List Value} {r : Rws} {h : Hd} {d : Int} {td : Tok} {Q : Value → Shared → Prop},
    Sf prog w p mu sh TB TR kvs → Tp (KK w) mg mb p → St σ p mu s → Rm A (7 * k + 8) → Pt p l (LsP vs) → Tr prog w p kvs k vs r h → valueAt kvs 90 = none → 0 ≤ d → d + k ≤ 20 → r.length ≤ 1000 →
    (∀ D us p' s', Le p p' → RowsAt p' us (shR d r) → St σ p' ((D, LsP us) :: mu) s' → Q (.ref D) s') →
    wpAny (model prog w) A (call (.ref 484) [.ref sh, .ref l, .int d td]) Q E s
end
namespace order_body_E
noncomputable section
def eS (prog : Program) (w : World) (A : Around) (σ s : Shared) (p : Heap) (mu : List Cell) (mg mb : Str → Option Value) (sh TB TR : Addr) (kvs : List (Int × Value)) (env : Env) (l : Addr) (vs : List Value) (r : Rws) (hd : Hd) (td : Tok) (Q : Value → Shared → Prop) : Prop := ∀ {k : Nat} {d : Int} (IH : ∀ j, k = j + 1 → OrdC prog w j) (S : Sf prog w p mu sh TB TR kvs) (T : Tp (KK w) mg mb p) (hs : env.scope = (fdOf (KK w) 484).scope) (he : EnvOk env) (H : St σ p ((env.locals, FrameP env [("shelf", some (.ref sh)), ("items", some (.ref l)), ("depth", some (.int d td)), ("rows", none), ("item", none), ("inner", none)]) :: mu) s) (R : Rm A (7 * k + 7)) (L : Pt p l (LsP vs)) (t : Tr prog w p kvs k vs r hd) (h90 : valueAt kvs 90 = none) (hd0 : 0 ≤ d) (hd1 : d + k ≤ 20) (hz : r.length ≤ 1000) (h : ∀ D us p' s', Le p p' → RowsAt p' us (shR d r) → St σ p' ((D, LsP us) :: mu) s' → Q (.ref D) s'), wpAny (model prog w) A (execs (bodyOf (stm 35)) env) (fun fl s' => Q (retv fl) s') NE s
abbrev eT := (Program) × (World) × (Around) × (Shared) × (Shared) × (Heap) × (List Cell) × (Str → Option Value) × (Str → Option Value) × (Addr) × (Addr) × (Addr) × (List (Int × Value)) × (Env) × (Addr) × (List Value) × (Rws) × (Hd) × (Tok) × (Value → Shared → Prop)
def eg1 (x : eT) := x.2.2.2.2.2.2.2.2
def eg2 (x : eT) := (eg1 x).2.2.2.2.2.2.2.2
def eP (x : eT) : Prop := eS x.1 x.2.1 x.2.2.1 x.2.2.2.1 x.2.2.2.2.1 x.2.2.2.2.2.1 x.2.2.2.2.2.2.1 x.2.2.2.2.2.2.2.1 (eg1 x).1 (eg1 x).2.1 (eg1 x).2.2.1 (eg1 x).2.2.2.1 (eg1 x).2.2.2.2.1 (eg1 x).2.2.2.2.2.1 (eg1 x).2.2.2.2.2.2.1 (eg1 x).2.2.2.2.2.2.2.1 (eg2 x).1 (eg2 x).2.1 (eg2 x).2.2.1 (eg2 x).2.2.2
noncomputable def ec : eT := @Classical.epsilon eT ⟨(default, dW, dA, dS, dS, default, default, default, default, default, default, default, default, default, default, default, default, Hd.empty, default, default)⟩ fun x => ¬ eP x
@[irreducible] def prog := ec.1
@[irreducible] def w := ec.2.1
@[irreducible] def A := ec.2.2.1
@[irreducible] def σ := ec.2.2.2.1
@[irreducible] def s := ec.2.2.2.2.1
@[irreducible] def p := ec.2.2.2.2.2.1
@[irreducible] def mu := ec.2.2.2.2.2.2.1
@[irreducible] def mg := ec.2.2.2.2.2.2.2.1
@[irreducible] def mb := (eg1 ec).1
@[irreducible] def sh := (eg1 ec).2.1
@[irreducible] def TB := (eg1 ec).2.2.1
@[irreducible] def TR := (eg1 ec).2.2.2.1
@[irreducible] def kvs := (eg1 ec).2.2.2.2.1
@[irreducible] def env := (eg1 ec).2.2.2.2.2.1
@[irreducible] def l := (eg1 ec).2.2.2.2.2.2.1
@[irreducible] def vs := (eg1 ec).2.2.2.2.2.2.2.1
@[irreducible] def r := (eg2 ec).1
@[irreducible] def hd := (eg2 ec).2.1
@[irreducible] def td := (eg2 ec).2.2.1
@[irreducible] def Q := (eg2 ec).2.2.2
end
set_option maxHeartbeats 4000000 in
theorem main : eS prog w A σ s p mu mg mb sh TB TR kvs env l vs r hd td Q := by
  intro k d IH S T hs he H R L t h90 hd0 hd1 hz h
  have G_MOST_NESTED := gnl hs (by kernel_rfl) (gl_gMOST_NESTED T)
  have G_is_group := gnl hs (by kernel_rfl) (gl_gis_group T)
  have G_isinstance := gnl hs (by kernel_rfl) (gl_gisinstance T)
  have G_list := gnl hs (by kernel_rfl) (gl_glist T)
  have G_String := gnl hs (by kernel_rfl) (gl_gString T)
  have G_order_rows := gnl hs (by kernel_rfl) (gl_gorder_rows T)
  have I := S.I
  refine x_if ?_
  walk_at "g"
  rw [show decide ((20 : Int) < d) = false from decide_eq_false (by omega)]
  walk_at "g"
  refine r_newList ‹_› (Nat.zero_le _) ?_
  intro D s2 H
  have H := H.swap
  walk_at "g"
  refine x_for ?_
  walk_at "g"
  refine for_go (I := fun i p' fs' mu' => ∀ C : List (Str × Option Value) → List Cell → Prop, (∀ us o1 o2 done rr hh, Le p p' → RowsAt p' us (shR d done) → Tr prog w p' kvs k (vs.drop i) rr hh → r = done ++ rr →
      C [("shelf", some (.ref sh)), ("items", some (.ref l)), ("depth", some (.int d td)), ("rows", some (.ref D)), ("item", o1), ("inner", o2)] ((D, LsP us) :: mu)) → C fs' mu') R.h (itb_ls L) ‹_› (fun _ K => K [] _ _ [] r hd Le.rfl RowsAt.nil t rfl) ?_ ?_
  · intro i p3 fs3 mu3 c v s4 hi l3 J hv
    apply J
    clear J fs3 mu3
    intro us o1 o2 done rr hh _ hus ht hr H
    have T := T.mono l3
    have S := S.mono l3
    have I := S.I
    have ez : us.length + rr.length ≤ 1000 := by
      have e1 := hus.length
      rw [shR_len] at e1
      have e2 : r.length = done.length + rr.length := by rw [hr]; simp
      omega
    have ed : vs.drop i = v :: vs.drop (i + 1) := by
      have e1 : vs[i] = v := by have := List.getElem?_eq_getElem hi; rw [hv] at this; exact (Option.some.inj this).symm
      rw [← e1]; exact List.drop_eq_getElem_cons hi
    rw [ed] at ht
    walk_at "g"
    refine ht.cons_el ?_ ?_ ?_ ?_ ?_
    · intro n r' _ hrr a b c'
      rw [hrr] at ez hr
      refine ex12 b.fetG ?_
      intro gd f1 f2
      refine S.c.c.c.fetch T ‹_› R f1 ?_
      intro s5 H
      walk_at "g"
      refine S.c.c.c.is_group T ‹_› R b ?_
      intro s6 H
      walk_at "g"
      refine m_append (rd_m ‹_› (by walk_at "mem")) ?_
      revert H
      apply RefI.el a
      intro x t1 t2 hx H
      walk_at "g"
      refine r_newTuple ‹_› (Nat.le_of_ble_eq_true rfl) ?_
      intro tp p4 s7 l4 htp H
      walk_at "g"
      refine r_append ‹_› (by walk_at "upd") (Nat.le_trans (by omega) (Nat.le_of_ble_eq_true rfl : 1000 ≤ sizeLine)) ?_
      intro s8 H
      walk_at "g"
      refine turn_of l4 (fun _ K => K _ _ _ (done ++ [(0, .grp n)]) r' _ (l3.trans l4) ?_ (c'.mono l4) ?_) ‹_›
      · rw [shR_app]
        refine (hus.mono l4).append (.cons ?_ .nil)
        have : (d + 0 : Int) = d := Int.add_zero d
        show RowAt p4 _ (d + 0, _)
        rw [this]
        exact .grp htp
      · rw [hr, List.append_assoc]; rfl
    · intro x _ a b
      refine ex13 (a.vt (w := w)) ?_
      intro ty x1 x2 x3
      refine S.c.c.c.fetch T ‹_› R (a.fet h90) ?_
      intro s5 H
      walk_at "g"
      refine S.c.c.c.is_group T ‹_› R (a.isG h90) ?_
      intro s6 H
      walk_at "g"
      refine r_isi T ‹_› x1 x2 ?_
      intro s7 H
      walk_at "g"
      refine r_isi T ‹_› x1 x2 ?_
      intro s8 H
      walk_at "g"
      exact turn_of Le.rfl (fun _ K => K _ _ _ done rr _ l3 hus b hr) ‹_›
    · intro _ _ _ a b
      have x1 := a.vt (w := w)
      refine S.c.c.c.fetch T ‹_› R (.here (VT.notRef x1 ki_r217_r266)) ?_
      intro s5 H
      walk_at "g"
      refine S.c.c.c.is_group T ‹_› R (.nonref (VT.notRef x1 ki_r217_r266)) ?_
      intro s6 H
      walk_at "g"
      refine r_isi T ‹_› x1 ki_r217_list ?_
      intro s7 H
      walk_at "g"
      refine r_isi T ‹_› x1 ki_r217_list ?_
      intro s8 H
      walk_at "g"
      exact turn_of Le.rfl (fun _ K => K _ _ _ done rr _ l3 hus b hr) ‹_›
    · intro k' la u o to ws rI hI r' _ hk hrr a b z c' d' e
      rw [hrr] at ez hr
      refine S.c.c.c.fetch T ‹_› R (a.fet b) ?_
      intro s5 H
      walk_at "g"
      refine S.c.c.c.is_group T ‹_› R (a.isG b) ?_
      intro s6 H
      walk_at "g"
      refine r_isi T ‹_› (VT.ls b) ki_list_list ?_
      intro s7 H
      walk_at "g"
      refine r_newList ‹_› (Nat.zero_le _) ?_
      intro nl s8 H
      have H := H.swap
      refine r_lne_len (rd_p ‹_› b) (rd_m H (by walk_at "mem")) (by simp) R.cl ?_
      have H := H.drop2
      walk_at "g"
      refine sub_list (rd_p ‹_› b) (by decide) (by simp) rfl ?_
      walk_at "g"
      refine S.c.c.c.fetch T ‹_› R (.here (VT.notRef (c'.vt) ki_r217_r266)) ?_
      intro s9 H
      walk_at "g"
      refine r_isi T ‹_› c'.vt ki_r217_r217 ?_
      intro s10 H
      walk_at "g"
      refine m_append (rd_m ‹_› (by walk_at "mem")) ?_
      walk_at "g"
      refine sub_list (rd_p ‹_› b) (by decide) (by simp) rfl ?_
      walk_at "g"
      refine S.c.c.c.fetch T ‹_› R (.here (VT.notRef (c'.vt) ki_r217_r266)) ?_
      intro s11 H
      revert H
      apply StI.el c'
      intro ua ub hu H
      walk_at "g"
      refine r_newTuple ‹_› (Nat.le_of_ble_eq_true rfl) ?_
      intro tp p4 s12 l4 htp H
      have hst : (done ++ ((0, .lab o) :: shR 1 rI)).length ≤ 1000 := by
        rw [hr] at hz; simp at hz ⊢; omega
      walk_at "g"
      refine r_append ‹_› (by walk_at "upd") (Nat.le_trans (by omega) (Nat.le_of_ble_eq_true rfl : 1000 ≤ sizeLine)) ?_
      intro s13 H
      have T := T.mono l4
      have S := S.mono l4
      walk_at "g"
      refine m_extend (rd_m ‹_› (by walk_at "mem")) ?_
      walk_at "g"
      refine from_of 1 (rd_p ‹_› (b.mono l4)) (by simp) (Nat.le_trans (by simp; omega) (Nat.le_of_ble_eq_true rfl : 1001 ≤ sizeLine)) ‹_› ?_
      intro D2 s14 H
      refine St.fz H ?_
      intro p5 l5 hD2 H
      have T := T.mono l5
      have S := S.mono l5
      walk_at "g"
      refine IH k' hk S.c.c.c T ‹_› (R.less (by omega)) hD2 ((d'.mono l4).mono l5) h90 (by omega) (by omega) (by simp at hst; rw [shR_len] at hst; omega) ?_
      intro D3 us3 p6 s15 l6 hus3 H
      walk_at "g"
      refine r_extend ‹_› (rd_m ‹_› (by walk_at "mem")) (by walk_at "upd") ?_ ?_
      · have e3 := hus3.length
        rw [shR_len] at e3
        have e1 := hus.length
        rw [shR_len] at e1
        refine Nat.le_trans ?_ (Nat.le_of_ble_eq_true rfl : 1001 ≤ sizeLine)
        rw [List.length_append, e1, e3]
        simp at hst
        rw [shR_len] at hst
        simp
        omega
      intro s16 H
      have H := H.drop
      have l46 := l4.trans (l5.trans l6)
      walk_at "g"
      refine turn_of l46 (fun _ K => K _ _ _ (done ++ ((0, .lab o) :: shR 1 rI)) r' _ (l3.trans l46) ?_ (e.mono l46) ?_) ‹_›
      · rw [shR_app]
        have e1 : shR d ((0, .lab o) :: shR 1 rI) = (d, .lab o) :: shR (d + 1) rI := by
          show (d + 0, _) :: shR d (shR 1 rI) = _
          rw [shR_sh, Int.add_zero]
        rw [e1]
        have z := ((hus.mono l46).append (.cons (.lab (l6 _ _ (l5 _ _ htp))) .nil)).append hus3
        simpa using z
      · rw [hr, List.append_assoc]
    · intro k' la ws rI hI r' _ hk hrr a b z c' d' e
      rw [hrr] at ez hr
      have hst : done.length + (rI.length + r'.length) ≤ 1000 := by
        rw [hr] at hz; simp at hz; rw [shR_len] at hz; omega
      have ez' : us.length + (rI.length + r'.length) ≤ 1000 := by
        have e1 := hus.length
        rw [shR_len] at e1
        omega
      refine S.c.c.c.fetch T ‹_› R (a.fet b) ?_
      intro s5 H
      walk_at "g"
      refine S.c.c.c.is_group T ‹_› R (a.isG b) ?_
      intro s6 H
      walk_at "g"
      refine r_isi T ‹_› (VT.ls b) ki_list_list ?_
      intro s7 H
      walk_at "g"
      refine r_newList ‹_› (Nat.zero_le _) ?_
      intro nl s8 H
      have H := H.swap
      cases ws with
      | nil =>
        refine r_lne_same (rd_p ‹_› b) (rd_m H (by walk_at "mem")) rfl (fun j v u e => by cases e) R.cl ?_
        have H := H.drop2
        have T := T
        walk_at "g"
        refine r_isi T ‹_› (VT.ls b) ki_list_list ?_
        intro s12 H
        walk_at "g"
        refine m_extend (rd_m ‹_› (by walk_at "mem")) ?_
        walk_at "g"
        refine IH k' hk S.c.c.c T ‹_› (R.less (by omega)) b c' h90 (by omega) (by omega) (by omega) ?_
        intro D3 us3 p6 s15 l6 hus3 H
        have e3 := hus3.length
        rw [shR_len] at e3
        walk_at "g"
        refine r_extend ‹_› (rd_m ‹_› (by walk_at "mem")) (by walk_at "upd") (Nat.le_trans (by omega) (Nat.le_of_ble_eq_true rfl : 1000 ≤ sizeLine)) ?_
        intro s16 H
        have H := H.drop
        walk_at "g"
        refine turn_of l6 (fun _ K => K _ _ _ (done ++ shR 1 rI) r' _ (l3.trans l6) ?_ (e.mono l6) ?_) ‹_›
        · rw [shR_app, shR_sh]
          exact (hus.mono l6).append hus3
        · rw [hr, List.append_assoc]
      | cons u ws' =>
        refine r_lne_len (rd_p ‹_› b) (rd_m H (by walk_at "mem")) (by simp) R.cl ?_
        have H := H.drop2
        walk_at "g"
        refine sub_list (rd_p ‹_› b) (by decide) (by simp) rfl ?_
        walk_at "g"
        obtain ⟨x, ty, x1, x2, x3⟩ := c'.head d' h90
        refine S.c.c.c.fetch T ‹_› R x1 ?_
        intro s9 H
        walk_at "g"
        refine r_isi T ‹_› x2 x3 ?_
        intro s10 H
        have T := T
        walk_at "g"
        refine r_isi T ‹_› (VT.ls b) ki_list_list ?_
        intro s12 H
        walk_at "g"
        refine m_extend (rd_m ‹_› (by walk_at "mem")) ?_
        walk_at "g"
        refine IH k' hk S.c.c.c T ‹_› (R.less (by omega)) b c' h90 (by omega) (by omega) (by omega) ?_
        intro D3 us3 p6 s15 l6 hus3 H
        have e3 := hus3.length
        rw [shR_len] at e3
        walk_at "g"
        refine r_extend ‹_› (rd_m ‹_› (by walk_at "mem")) (by walk_at "upd") (Nat.le_trans (by omega) (Nat.le_of_ble_eq_true rfl : 1000 ≤ sizeLine)) ?_
        intro s16 H
        have H := H.drop
        walk_at "g"
        refine turn_of l6 (fun _ K => K _ _ _ (done ++ shR 1 rI) r' _ (l3.trans l6) ?_ (e.mono l6) ?_) ‹_›
        · rw [shR_app, shR_sh]
          exact (hus.mono l6).append hus3
        · rw [hr, List.append_assoc]
  · intro p3 fs3 mu3 s4 l3 J
    apply J
    clear J
    intro us o1 o2 done rr hh _ hus ht hr H
    rw [List.drop_length] at ht
    cases ht
    rw [List.append_nil] at hr
    subst hr
    walk_at "g"
    exact h D us p3 _ l3 hus (St.drop ‹_›)
theorem all (x : eT) : eP x := eps (show eP ec by with_unfolding_all exact main) x
end order_body_E
theorem order_body {prog : Program} {w : World} {A : Around} {σ s : Shared} {p : Heap} {mu : List Cell} {mg mb : Str → Option Value} {sh TB TR : Addr} {kvs : List (Int × Value)} {env : Env} {l : Addr} {vs : List Value} {r : Rws} {hd : Hd} {td : Tok} {Q : Value → Shared → Prop} : order_body_E.eS prog w A σ s p mu mg mb sh TB TR kvs env l vs r hd td Q :=
  order_body_E.all (prog, w, A, σ, s, p, mu, mg, mb, sh, TB, TR, kvs, env, l, vs, r, hd, td, Q)
section
end
theorem ordC (prog : Program) (w : World) : ∀ k, OrdC prog w k := by
  intro k
  induction k with
  | zero =>
    intro A E σ s p mu mg mb sh TB TR kvs l vs r hd d td Q S T H R L t h90 h0 h1 hz h
    refine call_of (enter0d (D := 477) (pos := [.ref sh, .ref l, .int d td]) (items := [.int 0 811]) (fs := [("shelf", some (.ref sh)), ("items", some (.ref l)), ("depth", some (.int d td)), ("rows", none), ("item", none), ("inner", none)]) (binds := [("shelf", .ref sh), ("items", .ref l), ("depth", .int d td)]) T H R d484 (by kernel_rfl) (by kernel_rfl) (by kernel_rfl) (by kernel_rfl) (by kernel_rfl) (by kernel_rfl) ?_)
    intro A env s1 hs he H R
    exact order_body (fun j e => by omega) S T hs he ‹_› R L t h90 h0 h1 hz h
  | succ k ih =>
    intro A E σ s p mu mg mb sh TB TR kvs l vs r hd d td Q S T H R L t h90 h0 h1 hz h
    refine call_of (enter0d (D := 477) (pos := [.ref sh, .ref l, .int d td]) (items := [.int 0 811]) (fs := [("shelf", some (.ref sh)), ("items", some (.ref l)), ("depth", some (.int d td)), ("rows", none), ("item", none), ("inner", none)]) (binds := [("shelf", .ref sh), ("items", .ref l), ("depth", .int d td)]) T H R d484 (by kernel_rfl) (by kernel_rfl) (by kernel_rfl) (by kernel_rfl) (by kernel_rfl) (by kernel_rfl) ?_)
    intro A env s1 hs he H R
    exact order_body (fun j e => by cases e; exact ih) S T hs he ‹_› R L t h90 h0 h1 hz h
section
variable {prog : Program} {w : World} {A : Around} {E : Value → Shared → Prop} {σ s : Shared} {p : Heap} {mu mu' : List Cell} {mg mb : Str → Option Value} {K : Frag}
variable {sh TB TR : Addr} {kvs : List (Int × Value)}
theorem Sf.order_rows {k : Nat} {l : Addr} {vs : List Value} {r : Rws} {hd : Hd} {Q : Value → Shared → Prop}
    (S : Sf prog w p mu sh TB TR kvs) (T : Tp (KK w) mg mb p) (H : St σ p mu s) (R : Rm A (7 * k + 8)) (L : Pt p l (LsP vs)) (t : Tr prog w p kvs k vs r hd) (h90 : valueAt kvs 90 = none) (h1 : k ≤ 20) (hz : r.length ≤ 1000)
    (h : ∀ D us p' s', Le p p' → RowsAt p' us r → St σ p' ((D, LsP us) :: mu) s' → Q (.ref D) s') :
    wpAny (model prog w) A (call (.ref 484) [.ref sh, .ref l]) Q E s := by
  refine call_of (enter0d (D := 477) (pos := [.ref sh, .ref l]) (items := [.int 0 811]) (fs := [("shelf", some (.ref sh)), ("items", some (.ref l)), ("depth", some (.int 0 811)), ("rows", none), ("item", none), ("inner", none)]) (binds := [("shelf", .ref sh), ("items", .ref l), ("depth", .int 0 811)]) T H R d484 (by kernel_rfl) (by kernel_rfl) (by kernel_rfl) (by kernel_rfl) (by kernel_rfl) (by kernel_rfl) ?_)
  intro A env s1 hs he H R
  refine order_body (fun j e => ordC prog w j) S T hs he ‹_› R L t h90 (Int.le_refl 0) (by omega) hz (fun D us p' s' l' hr H => h D us p' s' l' ?_ H)
  have : shR 0 r = r := by unfold shR; rw [List.map_congr_left (g := id) (fun x _ => by show (0 + x.1, x.2) = x; rw [Int.zero_add])]; exact List.map_id r
  rwa [this] at hr

theorem Sf.put_layer_head {k : Nat} {f : List (Int × Value) → List Cell} {tk rk : List (Str × Value)} {rd hd ra : Addr} {v : Value} {n : Int} {Q : Value → Shared → Prop} (S : Sf prog w p mu sh TB TR kvs) (T : Tp (KK w) mg mb p) (H : St σ p mu s) (R : Rm A (k + 6))
    (u : ∀ x, CUpd TB (DcP (intKind prog w) kvs) (DcP (intKind prog w) x) mu (f x)) (hz : kvs.length ≤ 1000)
    (D1 : RD prog w p mu TR tk) (hr : valueAt tk "Root" = some v) (hri : RefI p v n 0) (hn : valueAt kvs n = some (.ref ra)) (hra : ∃ t, p.get? ra = some (tupObj [.int 0 t, .ref rd])) (D2 : RD prog w p [] rd rk) (hne : (rk.length == ([] : List (Str × Value)).length) = false)
    (hl : rk.length ≤ 500)
    (h : ∀ t tk rd' p' s', Le p p' → p'.get? t = some (tupObj [.int 0 tk, .ref rd']) → RD prog w p' [] rd' (stored rk "OCProperties" (.ref hd)) → St σ p' (f (stored kvs n (.ref t))) s' → Q .none s') :
    wpAny (model prog w) A (call (.ref 491) [.ref sh, .ref hd]) Q E s := by
  refine call_of (enter0 (fs := [("shelf", some (.ref sh)), ("head", some (.ref hd)), ("root", none), ("place", none)]) (binds := [("shelf", .ref sh), ("head", .ref hd)]) T H R d491 (by kernel_rfl) (by kernel_rfl) (by kernel_rfl) (by kernel_rfl) ?_)
  intro A env s1 hs he H R
  have G_DraftFault := gnl hs (by kernel_rfl) (gl_gDraftFault T)
  have G_dict := gnl hs (by kernel_rfl) (gl_gdict T)
  have G_isinstance := gnl hs (by kernel_rfl) (gl_gisinstance T)
  have G_Reference := gnl hs (by kernel_rfl) (gl_gReference T)
  have I := S.I
  obtain ⟨tz, hra⟩ := hra
  have F : Fet (KK w) p kvs ((valueAt tk "Root").getD .none) (.ref rd) := by rw [hr]; exact .hop hri hn hra (VT.notRef D2.vt ki_dict_r266)
  refine x_if ?_
  walk_at "g"
  refine S.c.root T ‹_› R D1.c F D2.vt ?_
  intro s2 H
  walk_at "g"
  refine e_dict0 (knd := strKind prog w) T ‹_› ?_
  intro d0 s3 lo0 H
  refine r_deq (rd_p H D2.pp) (rd_m H (.head _)) D2.lo lo0 R.cl hne ?_
  have H := H.drop
  walk_at "g"
  refine S.c.root T ‹_› R D1.c F D2.vt ?_
  intro s4 H
  walk_at "g"
  refine r_dcopy T ‹_› (rd_p ‹_› D2.pp) D2.lo (Nat.le_trans hl (Nat.le_of_ble_eq_true rfl)) ?_
  intro nd s5 lo1 H
  have H := H.swap
  walk_at "g"
  refine r_dset ‹_› (.tail .head) sk (Nat.le_trans hl (Nat.le_of_ble_eq_true rfl)) ?_
  intro s6 H
  refine St.fz2 H ?_
  intro p7 l7 hnd H
  have T := T.mono l7
  have S := S.mono l7
  have I := S.I
  walk_at "g"
  refine sub_dict ‹_› ((D1.mono l7).pt.c.at ‹_›) sk hr ?_
  intro s8 H
  walk_at "g"
  obtain ⟨x, t1, t2, rfl, hx⟩ := hri.mono l7
  refine r_isi T ‹_› (VT.inst hx ck_266) ki_r266_r266 ?_
  intro s9 H
  walk_at "g"
  refine S.c.put T ‹_› R (fun x => .tail (u x)) hz ?_
  intro t p8 s10 l8 ht H
  walk_at "g"
  exact h t _ nd p8 _ (l7.trans l8) ht ⟨.inr (hnd.mono l8), lo1⟩ H.drop
end
noncomputable def KLe (a b : List (Int × Value)) : Prop := ∀ n v, valueAt a n = some v → valueAt b n = some v
theorem KLe.rfl {a} : KLe a a := fun _ _ h => h
theorem KLe.trans {a b c} (h : KLe a b) (g : KLe b c) : KLe a c := fun n v e => g n v (h n v e)
theorem KLe.new {a : List (Int × Value)} {k : Int} {v : Value} (h : valueAt a k = none) : KLe a (stored a k v) := fun n x e => by
  rw [valueAt_stored]
  by_cases hn : n = k
  · subst hn; rw [h] at e; cases e
  · rw [if_neg hn]; exact e
section
variable {prog : Program} {w : World} {A : Around} {E : Value → Shared → Prop} {σ s : Shared} {p : Heap} {mu mu' : List Cell} {mg mb : Str → Option Value} {K : Frag}
variable {sh TB TR : Addr} {kvs kv0 kv1 : List (Int × Value)}
theorem IsG.ext {v : Value} (h : IsG prog w p kvs v true) (l : KLe kvs kv1) : IsG prog w p kv1 v true := by
  cases h with
  | grp a b c d => exact .grp a (l _ _ b) c d
theorem GRefs.ext {vs : List Value} {ns : List Int} (h : GRefs prog w p kvs vs ns) (l : KLe kvs kv1) : GRefs prog w p kv1 vs ns := by
  induction h with
  | nil => exact .nil
  | cons a b _ ih => exact .cons a (b.ext l) ih
theorem GRefs.snoc {vs : List Value} {ns : List Int} {v : Value} {n : Int} (h : GRefs prog w p kvs vs ns) (a : RefI p v n 0) (b : IsG prog w p kvs v true) : GRefs prog w p kvs (vs ++ [v]) (ns ++ [n]) := by
  induction h with
  | nil => exact .cons a b .nil
  | cons a b _ ih => exact .cons a b ih
theorem RefsAt.ext {fk : List (Str × Value)} {x : Str} {ns : List Int} (h : RefsAt prog w p kvs fk x ns) (l : KLe kvs kv1) : RefsAt prog w p kv1 fk x ns :=
  let ⟨a, vs, h1, h2, h3, h4⟩ := h; ⟨a, vs, h1, h2, h3.ext l, h4⟩
theorem CfD.ext {fd ord : Addr} {fk : List (Str × Value)} {ons offs lks rbs : List Int} {base : Str} (h : CfD prog w p kvs fd fk ord ons offs lks rbs base) (l : KLe kvs kv1) : CfD prog w p kv1 fd fk ord ons offs lks rbs base :=
  ⟨h.rd, h.ordv, h.ordl, h.on.ext l, h.off.ext l, h.lk.ext l, let ⟨a, b, vs, h1, h2, h3, h4, h5⟩ := h.rb; ⟨a, b, vs, h1, h2, h3, h4.ext l, h5⟩, h.base, h.intent⟩
theorem LAt.ext {v : Value} {l : Addr} (h : LAt p kvs v l) (q : KLe kvs kv1) : LAt p kv1 v l := by
  cases h with
  | dir => exact .dir
  | ref a b c => exact .ref a (q _ _ b) c
theorem Tr.ext {k vs r h} (t : Tr prog w p kvs k vs r h) (q : KLe kvs kv1) : Tr prog w p kv1 k vs r h := by
  induction t with
  | nil => exact .nil
  | grp a b _ ih => exact .grp a (b.ext q) ih
  | junk a _ ih => exact .junk a ih
  | str a _ ih => exact .str a ih
  | lab a b z c _ _ ih1 ih2 => exact .lab (a.ext q) b z c ih1 ih2
  | arr a b z _ c _ ih1 ih2 => exact .arr (a.ext q) b z ih1 c ih2
theorem Tr.snoc {k vs r h} {v : Value} {n : Int} (t : Tr prog w p kvs k vs r h) (a : RefI p v n 0) (b : IsG prog w p kvs v true) : ∃ h', Tr prog w p kvs k (vs ++ [v]) (r ++ [(0, .grp n)]) h' := by
  induction t with
  | nil => exact ⟨_, .grp a b .nil⟩
  | grp x y _ ih => obtain ⟨h', ih⟩ := ih; exact ⟨_, .grp x y ih⟩
  | junk x _ ih => obtain ⟨h', ih⟩ := ih; exact ⟨_, .junk x ih⟩
  | str x _ ih => obtain ⟨h', ih⟩ := ih; exact ⟨_, .str x ih⟩
  | lab x y z c d _ _ ih2 => obtain ⟨h', ih2⟩ := ih2; rw [List.append_assoc]; exact ⟨_, .lab x y z c d ih2⟩
  | arr x y z c d _ _ ih2 => obtain ⟨h', ih2⟩ := ih2; rw [List.append_assoc]; exact ⟨_, .arr x y z c d ih2⟩
theorem stored_length_ge {KT : Type} [DecidableEq KT] (kvs : List (KT × Value)) (k : KT) (v : Value) : kvs.length ≤ (stored kvs k v).length := by
  unfold stored; split <;> simp
theorem stored_length_old {KT : Type} [DecidableEq KT] {kvs : List (KT × Value)} {k : KT} {v : Value} (h : (valueAt kvs k).isSome = true) : (stored kvs k v).length = kvs.length := by
  unfold stored
  rw [valueAt_any] at h
  rw [if_pos h, List.length_map]
theorem ne0_len {α : Type} {l : List α} (h : 1 ≤ l.length) : (l.length == ([] : List α).length) = false := by
  cases l with
  | nil => cases h
  | cons => rfl
noncomputable def LabAt (prog : Program) (w : World) (p : Heap) (kvs : List (Int × Value)) (n : Int) (o : Array UInt8) : Prop :=
  ∃ a u gd kv nm st t, valueAt kvs n = some (.ref a) ∧ p.get? a = some (tupObj [.int 0 u, .ref gd]) ∧ RD prog w p [] gd kv ∧ valueAt kv "Type" = some nm ∧ NmI p nm "OCG" ∧ valueAt kv "Name" = some st ∧ StI p st (.bytes o t)
theorem LabAt.mono {p' : Heap} {n o} (h : LabAt prog w p kvs n o) (l : Le p p') : LabAt prog w p' kvs n o :=
  let ⟨a, u, gd, kv, nm, st, t, h1, h2, h3, h4, h5, h6, h7⟩ := h; ⟨a, u, gd, kv, nm, st, t, h1, l _ _ h2, h3.mono l, h4, h5.mono l, h6, h7.mono l⟩
theorem LabAt.ext {n o} (h : LabAt prog w p kvs n o) (l : KLe kvs kv1) : LabAt prog w p kv1 n o :=
  let ⟨a, u, gd, kv, nm, st, t, h1, h2, h3, h4, h5, h6, h7⟩ := h; ⟨a, u, gd, kv, nm, st, t, l _ _ h1, h2, h3, h4, h5, h6, h7⟩
theorem LabAt.isG {n o} {v : Value} (h : LabAt prog w p kvs n o) (r : RefI p v n 0) : IsG prog w p kvs v true :=
  let ⟨a, u, gd, kv, nm, st, t, h1, h2, h3, h4, h5, h6, h7⟩ := h; .grp r h1 h2 ⟨kv, nm, h3, h4, h5⟩

noncomputable def rowsG (r : Rws) : List Int := r.filterMap fun x => match x.2 with | .grp n => some n | _ => none
theorem rowsG_app (a b : Rws) : rowsG (a ++ b) = rowsG a ++ rowsG b := List.filterMap_append ..
structure DS (prog : Program) (w : World) (p : Heap) (mu : List Cell) (sh TB TR : Addr) (kvs kv0 : List (Int × Value)) (m : Nat) (rn : Int) (tk rk hk fk : List (Str × Value)) (rd hd fd ord : Addr)
    (lst ons offs lks rbs : List Int) (base : Str) (rows : Rws) : Prop where
  s : Sf prog w p mu sh TB TR kvs
  ne : TR ≠ TB
  k0 : KLe kv0 kvs
  kz : kvs.length ≤ m
  mz : m ≤ 80
  kin : ∀ i : Nat, 1 ≤ i → i ≤ m → (valueAt kvs (i : Int)).isSome = true
  kout : ∀ i : Int, (m : Int) < i → valueAt kvs i = none
  k0r : valueAt kv0 rn = none
  tr : RD prog w p mu TR tk
  rv : ∃ v ra t, valueAt tk "Root" = some v ∧ RefI p v rn 0 ∧ valueAt kvs rn = some (.ref ra) ∧ p.get? ra = some (tupObj [.int 0 t, .ref rd])
  rdk : RD prog w p [] rd rk
  rne : (rk.length == ([] : List (Str × Value)).length) = false
  rl : rk.length ≤ 2 * m + 10
  ocp : Fet (KK w) p kvs ((valueAt rk "OCProperties").getD .none) (.ref hd)
  hdk : RD prog w p [] hd hk
  hl : hk.length ≤ 2 * m + 10
  dv : valueAt hk "D" = some (.ref fd)
  gl : ∃ l vs, valueAt hk "OCGs" = some (.ref l) ∧ Pt p l (LsP vs) ∧ GRefs prog w p kv0 vs lst
  cf : CfD prog w p kv0 fd fk ord ons offs lks rbs base
  fl : fk.length ≤ 2 * m + 10
  bs : base = "ON" ∨ base = "OFF"
  oz : ons.length ≤ m + 10
  lz : lst.length ≤ m + 10
  rz : rows.length ≤ m + 500
  nb : ∀ n : Int, n ∈ lst ∨ n ∈ ons ∨ n ∈ offs ∨ n ∈ lks ∨ n ∈ rbs → 0 ≤ n ∧ n ≤ m
  gb : ∀ n ∈ rowsG rows, 0 ≤ n ∧ n ≤ (m : Int)
  zz : offs.length ≤ 100 ∧ lks.length ≤ 100 ∧ rbs.length ≤ 100
  od : ∃ vs kt hh, Pt p ord (LsP vs) ∧ vs.length ≤ m + 10 ∧ Tr prog w p kv0 kt vs rows hh ∧ kt ≤ 3
theorem CUpd.mem' {a P P' l l'} (u : CUpd a P P' l l') : (a, P') ∈ l' := by
  induction u with
  | head => exact .head _
  | tail _ ih => exact .tail _ ih
theorem CUpd.other {a b : Addr} {P P' R : Obj → Prop} (u : CUpd a P P' mu mu') (h : (b, R) ∈ mu) (hn : b ≠ a) : (b, R) ∈ mu' := by
  induction u with
  | head =>
    cases h with
    | head => exact absurd rfl hn
    | tail _ h => exact .tail _ h
  | tail _ ih =>
    cases h with
    | head => exact .head _
    | tail _ h => exact .tail _ (ih h)
theorem RD.upd {a d : Addr} {P P' : Obj → Prop} {kv : List (Str × Value)} (x : RD prog w p mu d kv) (u : CUpd a P P' mu mu') (hn : d ≠ a) : RD prog w p mu' d kv := ⟨x.pt.imp (fun h => u.other h hn) id, x.lo⟩
theorem Sf.upd {P : Obj → Prop} {kvs' : List (Int × Value)} (x : Sf prog w p mu sh TB TR kvs) (u : CUpd TB P (DcP (intKind prog w) kvs') mu mu') : Sf prog w p mu' sh TB TR kvs' := ⟨x.I, u.mem', x.lo⟩
variable {m : Nat} {rn : Int} {tk rk hk fk : List (Str × Value)} {rd hd fd ord : Addr} {lst ons offs lks rbs : List Int} {base : Str} {rows : Rws}
theorem DS.doc (D : DS prog w p mu sh TB TR kvs kv0 m rn tk rk hk fk rd hd fd ord lst ons offs lks rbs base rows) : Doc prog w p mu kvs TR tk rd rk hd hk := by
  obtain ⟨v, ra, t, h1, h2, h3, h4⟩ := D.rv
  refine ⟨D.tr, ?_, D.rdk, D.ocp, D.hdk⟩
  rw [h1]
  exact .hop h2 h3 h4 (VT.notRef D.rdk.vt ki_dict_r266)
noncomputable def putB : List Stmt := (bodyOf (stm 37)).drop 7
end
namespace put_tail_E
noncomputable section
def eS (prog : Program) (w : World) (A : Around) (σ s : Shared) (p : Heap) (mg mb : Str → Option Value) (sh TB TR : Addr) (kvs kv0 : List (Int × Value)) (m : Nat) (rn : Int) (tk hk fk : List (Str × Value)) (rd hd fd ord : Addr) (lst ons offs lks rbs : List Int) (base : Str) (rows : Rws) (k : Nat) (f : List (Int × Value) → List Cell) (env : Env) (p' : Heap) (v1 v3 : Option Value) (nh nf pl tg no : Addr) (fk2 : List (Str × Value)) (ons2 : List Int) (vs2 : List Value) (hh2 : Hd) (kt : Nat) (o : Array UInt8) (Q : Value → Shared → Prop) : Prop := ∀ {rk : List (Str × Value)} (D : DS prog w p (f kvs) sh TB TR kvs kv0 m rn tk rk hk fk rd hd fd ord lst ons offs lks rbs base rows) (l : Le p p') (hs : env.scope = (fdOf (KK w) 498).scope) (he : EnvOk env) (T : Tp (KK w) mg mb p') (S : Sf prog w p' (f (stored kvs ((m : Int) + 1) (.ref tg))) sh TB TR (stored kvs ((m : Int) + 1) (.ref tg))) (H : St σ p' ((env.locals, FrameP env [("shelf", some (.ref sh)), ("label", v1), ("head", some (.ref nh)), ("found", v3), ("first", some (.ref nf)), ("place", some (.ref pl))]) :: (nh, DcP (strKind prog w) hk) :: f (stored kvs ((m : Int) + 1) (.ref tg))) s) (R : Rm A (k + 9)) (hm : m < 80) (u : ∀ y x, CUpd TB (DcP (intKind prog w) y) (DcP (intKind prog w) x) (f y) (f x)) (lo1 : (nh == sysModules) = false) (hkv0 : valueAt kv0 ((m : Int) + 1) = none) (lab : LabAt prog w p' (stored kv0 ((m : Int) + 1) (.ref tg)) ((m : Int) + 1) o) (hpl : RefI p' (.ref pl) ((m : Int) + 1) 0) (CF : CfD prog w p' (stored kv0 ((m : Int) + 1) (.ref tg)) nf fk2 no ons2 offs lks rbs base) (hfk : fk2.length ≤ 2 * (m + 1) + 10) (hoz : ons2.length ≤ m + 1 + 10) (hons : ∀ n ∈ ons2, n ∈ ons ∨ n = (m : Int) + 1) (hno : Pt p' no (LsP vs2)) (hvz : vs2.length ≤ m + 1 + 10) (htr : Tr prog w p' (stored kv0 ((m : Int) + 1) (.ref tg)) kt vs2 (rows ++ [(0, .grp ((m : Int) + 1))]) hh2) (hkt : kt ≤ 3) (h : ∀ v p' s' kvs' kv0' rk' hk' fk' rd' hd' fd' ord', Le p p' → RefI p' v ((m : Int) + 1) 0 → KLe kv0 kv0' → LabAt prog w p' kv0' ((m : Int) + 1) o →
      DS prog w p' (f kvs') sh TB TR kvs' kv0' (m + 1) rn tk rk' hk' fk' rd' hd' fd' ord' (lst ++ [(m : Int) + 1]) ons2 offs lks rbs base (rows ++ [(0, .grp ((m : Int) + 1))]) →
      St σ p' (f kvs') s' → Q v s'), wpAny (model prog w) A (execs putB env) (fun fl s' => Q (retv fl) s') NE s
abbrev eT := (Program) × (World) × (Around) × (Shared) × (Shared) × (Heap) × (Str → Option Value) × (Str → Option Value) × (Addr) × (Addr) × (Addr) × (List (Int × Value)) × (List (Int × Value)) × (Nat) × (Int) × (List (Str × Value)) × (List (Str × Value)) × (List (Str × Value)) × (Addr) × (Addr) × (Addr) × (Addr) × (List Int) × (List Int) × (List Int) × (List Int) × (List Int) × (Str) × (Rws) × (Nat) × (List (Int × Value) → List Cell) × (Env) × (Heap) × (Option Value) × (Option Value) × (Addr) × (Addr) × (Addr) × (Addr) × (Addr) × (List (Str × Value)) × (List Int) × (List Value) × (Hd) × (Nat) × (Array UInt8) × (Value → Shared → Prop)
def eg1 (x : eT) := x.2.2.2.2.2.2.2.2
def eg2 (x : eT) := (eg1 x).2.2.2.2.2.2.2.2
def eg3 (x : eT) := (eg2 x).2.2.2.2.2.2.2.2
def eg4 (x : eT) := (eg3 x).2.2.2.2.2.2.2.2
def eg5 (x : eT) := (eg4 x).2.2.2.2.2.2.2.2
def eP (x : eT) : Prop := eS x.1 x.2.1 x.2.2.1 x.2.2.2.1 x.2.2.2.2.1 x.2.2.2.2.2.1 x.2.2.2.2.2.2.1 x.2.2.2.2.2.2.2.1 (eg1 x).1 (eg1 x).2.1 (eg1 x).2.2.1 (eg1 x).2.2.2.1 (eg1 x).2.2.2.2.1 (eg1 x).2.2.2.2.2.1 (eg1 x).2.2.2.2.2.2.1 (eg1 x).2.2.2.2.2.2.2.1 (eg2 x).1 (eg2 x).2.1 (eg2 x).2.2.1 (eg2 x).2.2.2.1 (eg2 x).2.2.2.2.1 (eg2 x).2.2.2.2.2.1 (eg2 x).2.2.2.2.2.2.1 (eg2 x).2.2.2.2.2.2.2.1 (eg3 x).1 (eg3 x).2.1 (eg3 x).2.2.1 (eg3 x).2.2.2.1 (eg3 x).2.2.2.2.1 (eg3 x).2.2.2.2.2.1 (eg3 x).2.2.2.2.2.2.1 (eg3 x).2.2.2.2.2.2.2.1 (eg4 x).1 (eg4 x).2.1 (eg4 x).2.2.1 (eg4 x).2.2.2.1 (eg4 x).2.2.2.2.1 (eg4 x).2.2.2.2.2.1 (eg4 x).2.2.2.2.2.2.1 (eg4 x).2.2.2.2.2.2.2.1 (eg5 x).1 (eg5 x).2.1 (eg5 x).2.2.1 (eg5 x).2.2.2.1 (eg5 x).2.2.2.2.1 (eg5 x).2.2.2.2.2.1 (eg5 x).2.2.2.2.2.2
noncomputable def ec : eT := @Classical.epsilon eT ⟨(default, dW, dA, dS, dS, default, default, default, default, default, default, default, default, default, default, default, default, default, default, default, default, default, default, default, default, default, default, default, default, default, default, default, default, default, default, default, default, default, default, default, default, default, default, Hd.empty, default, default, default)⟩ fun x => ¬ eP x
@[irreducible] def prog := ec.1
@[irreducible] def w := ec.2.1
@[irreducible] def A := ec.2.2.1
@[irreducible] def σ := ec.2.2.2.1
@[irreducible] def s := ec.2.2.2.2.1
@[irreducible] def p := ec.2.2.2.2.2.1
@[irreducible] def mg := ec.2.2.2.2.2.2.1
@[irreducible] def mb := ec.2.2.2.2.2.2.2.1
@[irreducible] def sh := (eg1 ec).1
@[irreducible] def TB := (eg1 ec).2.1
@[irreducible] def TR := (eg1 ec).2.2.1
@[irreducible] def kvs := (eg1 ec).2.2.2.1
@[irreducible] def kv0 := (eg1 ec).2.2.2.2.1
@[irreducible] def m := (eg1 ec).2.2.2.2.2.1
@[irreducible] def rn := (eg1 ec).2.2.2.2.2.2.1
@[irreducible] def tk := (eg1 ec).2.2.2.2.2.2.2.1
@[irreducible] def hk := (eg2 ec).1
@[irreducible] def fk := (eg2 ec).2.1
@[irreducible] def rd := (eg2 ec).2.2.1
@[irreducible] def hd := (eg2 ec).2.2.2.1
@[irreducible] def fd := (eg2 ec).2.2.2.2.1
@[irreducible] def ord := (eg2 ec).2.2.2.2.2.1
@[irreducible] def lst := (eg2 ec).2.2.2.2.2.2.1
@[irreducible] def ons := (eg2 ec).2.2.2.2.2.2.2.1
@[irreducible] def offs := (eg3 ec).1
@[irreducible] def lks := (eg3 ec).2.1
@[irreducible] def rbs := (eg3 ec).2.2.1
@[irreducible] def base := (eg3 ec).2.2.2.1
@[irreducible] def rows := (eg3 ec).2.2.2.2.1
@[irreducible] def k := (eg3 ec).2.2.2.2.2.1
@[irreducible] def f := (eg3 ec).2.2.2.2.2.2.1
@[irreducible] def env := (eg3 ec).2.2.2.2.2.2.2.1
@[irreducible] def p' := (eg4 ec).1
@[irreducible] def v1 := (eg4 ec).2.1
@[irreducible] def v3 := (eg4 ec).2.2.1
@[irreducible] def nh := (eg4 ec).2.2.2.1
@[irreducible] def nf := (eg4 ec).2.2.2.2.1
@[irreducible] def pl := (eg4 ec).2.2.2.2.2.1
@[irreducible] def tg := (eg4 ec).2.2.2.2.2.2.1
@[irreducible] def no := (eg4 ec).2.2.2.2.2.2.2.1
@[irreducible] def fk2 := (eg5 ec).1
@[irreducible] def ons2 := (eg5 ec).2.1
@[irreducible] def vs2 := (eg5 ec).2.2.1
@[irreducible] def hh2 := (eg5 ec).2.2.2.1
@[irreducible] def kt := (eg5 ec).2.2.2.2.1
@[irreducible] def o := (eg5 ec).2.2.2.2.2.1
@[irreducible] def Q := (eg5 ec).2.2.2.2.2.2
end
set_option maxHeartbeats 4000000 in
theorem main : eS prog w A σ s p mg mb sh TB TR kvs kv0 m rn tk hk fk rd hd fd ord lst ons offs lks rbs base rows k f env p' v1 v3 nh nf pl tg no fk2 ons2 vs2 hh2 kt o Q := by
  intro rk D l hs he T S H R hm u lo1 hkv0 lab hpl CF hfk hoz hons hno hvz htr hkt h
  have G_items_at := gnl hs (by kernel_rfl) (gl_gitems_at T)
  have G_put_layer_head := gnl hs (by kernel_rfl) (gl_gput_layer_head T)
  have I := S.I
  have k1 : KLe kvs (stored kvs ((m : Int) + 1) (.ref tg)) := KLe.new (D.kout _ (by omega))
  have hk0' : KLe kv0 (stored kv0 ((m : Int) + 1) (.ref tg)) := KLe.new hkv0
  have hg : IsG prog w p' (stored kv0 ((m : Int) + 1) (.ref tg)) (.ref pl) true := lab.isG hpl
  refine ex23 D.gl ?_
  intro gll gvs gl1 gl2 gl3
  have gl2 := gl2.mono l
  have gl3 := gl3.mono l
  have hrn : rn ≠ (m : Int) + 1 := by
    intro e
    obtain ⟨v, ra, t, h1, h2, h3, h4⟩ := D.rv
    have := D.kout rn (by omega)
    rw [h3] at this; cases this
  refine x_setitem ?_ ?sw
  case sw => exact rfl
  walk_at "g"
  refine S.c.c.items_at T ‹_› R ⟨.inl (by walk_at "mem"), lo1⟩ (by rw [gl1]; exact .here (VT.notRef (VT.ls gl2) ki_list_r266)) (VT.ls gl2) ?_
  intro s20 H
  walk_at "g"
  refine r_newList ‹_› (Nat.le_of_ble_eq_true rfl) ?_
  intro pl2 s21 H
  have egl := gl3.length
  have zgl := D.lz
  refine r_ladd H (rd_p H gl2) (rd_m H (.head _)) (Nat.le_trans (by simp; omega) (Nat.le_of_ble_eq_true rfl : 1000 ≤ sizeLine)) ?_
  intro ng s22 H
  refine St.fz (H.drop2) ?_
  intro p22 l22 hng H
  have T := T.mono l22
  have S := S.mono l22
  have I := S.I
  walk_at "g"
  refine r_dset ‹_› (.tail .head) sk (Nat.le_trans D.hl (Nat.le_trans (by omega) (Nat.le_of_ble_eq_true rfl : 1000 ≤ sizeLine))) ?_
  intro s23 H
  walk_at "g"
  have e23 := stored_length_le hk "OCGs" (.ref ng)
  refine r_dset ‹_› (.tail .head) sk (Nat.le_trans e23 (Nat.le_trans (Nat.succ_le_succ D.hl) (Nat.le_trans (by omega) (Nat.le_of_ble_eq_true rfl : 1000 ≤ sizeLine)))) ?_
  intro s24 H
  have e24 := stored_length_le (stored hk "OCGs" (.ref ng)) "D" (.ref nf)
  refine St.fz2 H ?_
  intro p24 l24 hnh H
  have T := T.mono l24
  have S := S.mono l24
  have I := S.I
  have l024 := l.trans (l22.trans l24)
  refine ex34 D.rv ?_
  intro rv rra rt rv1 rv2 rv3 rv4
  walk_at "g"
  refine S.c.put_layer_head T ‹_› R (fun x => .tail (u _ x)) (Nat.le_trans (stored_length_le _ _ _) (Nat.le_trans (Nat.succ_le_succ D.kz) (by omega))) (((D.tr.mono l024).upd (u kvs _) D.ne).c) rv1 (rv2.mono l024) (k1 _ _ rv3) ⟨_, l024 _ _ rv4⟩ (D.rdk.mono l024) D.rne (Nat.le_trans D.rl (by omega)) ?_
  intro tr2 tk2 rd2 p25 s25 l25 htr2 hrd2 H
  have T := T.mono l25
  have l025 := l024.trans l25
  have l25X := l22.trans (l24.trans l25)
  walk_at "g"
  refine h (.ref pl) p25 _ _ (stored kv0 ((m : Int) + 1) (.ref tg)) (stored rk "OCProperties" (.ref nh)) (stored (stored hk "OCGs" (.ref ng)) "D" (.ref nf)) fk2 rd2 nh nf no l025 (hpl.mono l25X) hk0' (lab.mono l25X) ?_ H.drop
  have hx : ∀ i : Int, valueAt (stored (stored kvs ((m : Int) + 1) (.ref tg)) rn (.ref tr2)) i = if i = rn then some (.ref tr2) else if i = (m : Int) + 1 then some (.ref tg) else valueAt kvs i := fun i => by rw [valueAt_stored, valueAt_stored]
  refine { s := (S.mono l25).upd (u _ _), ne := D.ne, k0 := ?_, kz := ?_, mz := hm, kin := ?_, kout := ?_, k0r := ?_, tr := ?_, rv := ?_, rdk := hrd2, rne := ?_, rl := ?_, ocp := ?_, hdk := ⟨.inr (hnh.mono l25), lo1⟩, hl := ?_, dv := ?_, gl := ?_, cf := CF.mono l25X, fl := ?_, bs := D.bs, oz := ?_, lz := ?_, rz := ?_, nb := ?_, gb := ?_, zz := D.zz, od := ?_ }
  · intro i v e
    rw [hx]
    by_cases e1 : i = rn
    · rw [valueAt_stored, e1, if_neg hrn, D.k0r] at e; cases e
    · rw [if_neg e1]
      rw [valueAt_stored] at e
      by_cases e2 : i = (m : Int) + 1
      · rw [if_pos e2] at e ⊢; exact e
      · rw [if_neg e2] at e ⊢; exact D.k0 _ _ e
  · exact Nat.le_trans (Nat.le_of_eq (stored_length_old (by rw [k1 _ _ rv3]; rfl))) (Nat.le_trans (stored_length_le _ _ _) (Nat.succ_le_succ D.kz))
  · intro i h1 h2
    rw [hx]
    by_cases e1 : (i : Int) = rn
    · rw [if_pos e1]; rfl
    · rw [if_neg e1]
      by_cases e2 : (i : Int) = (m : Int) + 1
      · rw [if_pos e2]; rfl
      · rw [if_neg e2]; exact D.kin i h1 (by omega)
  · intro i h1
    have e1 : i ≠ rn := by
      intro e
      rw [← e, D.kout i (by omega)] at rv3; cases rv3
    rw [hx, if_neg e1, if_neg (by omega)]
    exact D.kout i (by omega)
  · rw [valueAt_stored, if_neg hrn]; exact D.k0r
  · exact (D.tr.mono l025).upd ((u kvs (stored kvs ((m : Int) + 1) (.ref tg)))) D.ne |>.upd (u _ _) D.ne
  · exact ⟨rv, tr2, tk2, rv1, rv2.mono l025, by rw [hx, if_pos rfl], htr2⟩
  · have := stored_length_ge rk "OCProperties" (.ref nh)
    have e := D.rne
    cases rk with
    | nil => cases e
    | cons a b => exact ne0_len (Nat.le_trans (by simp) this)
  · have := stored_length_le rk "OCProperties" (.ref nh); have := D.rl; omega
  · rw [valueAt_stored, if_pos rfl]; exact .here (VT.notRef (VT.dc (hnh.mono l25)) ki_dict_r266)
  · have := D.hl; omega
  · rw [valueAt_stored, if_pos rfl]
  · refine ⟨ng, _, ?_, hng.mono (l24.trans l25), ?_⟩
    · rw [valueAt_stored, if_neg (by decide), valueAt_stored, if_pos rfl]
    · exact (((gl3.ext hk0').snoc hpl hg).mono l25X)
  · exact hfk
  · exact hoz
  · simp; have := D.lz; omega
  · simp; have := D.rz; omega
  · intro n hn
    have hD := D.nb n
    have : n = (m : Int) + 1 ∨ (0 ≤ n ∧ n ≤ m) := by
      rcases hn with hn | hn | hn
      · rcases List.mem_append.mp hn with hn | hn
        · exact .inr (hD (.inl hn))
        · exact .inl (List.mem_singleton.mp hn)
      · rcases hons n hn with hn | hn
        · exact .inr (hD (.inr (.inl hn)))
        · exact .inl hn
      · exact .inr (hD (.inr (.inr hn)))
    omega
  · intro n hn
    rw [rowsG_app] at hn
    rcases List.mem_append.mp hn with hn | hn
    · have := D.gb n hn; omega
    · have e : n = (m : Int) + 1 := List.mem_singleton.mp hn
      omega
  · exact ⟨vs2, kt, hh2, hno.mono l25X, hvz, htr.mono l25X, hkt⟩
theorem all (x : eT) : eP x := eps (show eP ec by with_unfolding_all exact main) x
end put_tail_E
theorem put_tail {prog : Program} {w : World} {A : Around} {σ s : Shared} {p : Heap} {mg mb : Str → Option Value} {sh TB TR : Addr} {kvs kv0 : List (Int × Value)} {m : Nat} {rn : Int} {tk hk fk : List (Str × Value)} {rd hd fd ord : Addr} {lst ons offs lks rbs : List Int} {base : Str} {rows : Rws} {k : Nat} {f : List (Int × Value) → List Cell} {env : Env} {p' : Heap} {v1 v3 : Option Value} {nh nf pl tg no : Addr} {fk2 : List (Str × Value)} {ons2 : List Int} {vs2 : List Value} {hh2 : Hd} {kt : Nat} {o : Array UInt8} {Q : Value → Shared → Prop} : put_tail_E.eS prog w A σ s p mg mb sh TB TR kvs kv0 m rn tk hk fk rd hd fd ord lst ons offs lks rbs base rows k f env p' v1 v3 nh nf pl tg no fk2 ons2 vs2 hh2 kt o Q :=
  put_tail_E.all (prog, w, A, σ, s, p, mg, mb, sh, TB, TR, kvs, kv0, m, rn, tk, hk, fk, rd, hd, fd, ord, lst, ons, offs, lks, rbs, base, rows, k, f, env, p', v1, v3, nh, nf, pl, tg, no, fk2, ons2, vs2, hh2, kt, o, Q)
section
variable {prog : Program} {w : World} {A : Around} {E : Value → Shared → Prop} {σ s : Shared} {p : Heap} {mu mu' : List Cell} {mg mb : Str → Option Value} {K : Frag}
variable {sh TB TR : Addr} {kvs kv0 kv1 : List (Int × Value)}
variable {m : Nat} {rn : Int} {tk rk hk fk : List (Str × Value)} {rd hd fd ord : Addr} {lst ons offs lks rbs : List Int} {base : Str} {rows : Rws}
end
namespace put_group_E
noncomputable section
def eS (prog : Program) (w : World) (A : Around) (E : Value → Shared → Prop) (σ s : Shared) (p : Heap) (mg mb : Str → Option Value) (sh TB TR : Addr) (kvs kv0 : List (Int × Value)) (m : Nat) (rn : Int) (tk rk hk fk : List (Str × Value)) (rd hd fd ord : Addr) (lst ons offs lks rbs : List Int) (base : Str) (rows : Rws) (k : Nat) (f : List (Int × Value) → List Cell) (o : Array UInt8) (to : Tok) (Q : Value → Shared → Prop) : Prop := ∀ (D : DS prog w p (f kvs) sh TB TR kvs kv0 m rn tk rk hk fk rd hd fd ord lst ons offs lks rbs base rows) (T : Tp (KK w) mg mb p) (H : St σ p (f kvs) s) (R : Rm A (k + 10)) (hm : m < 80) (u : ∀ y x, CUpd TB (DcP (intKind prog w) y) (DcP (intKind prog w) x) (f y) (f x)) (h : ∀ v p' s' kvs' kv0' rk' hk' fk' rd' hd' fd' ord', Le p p' → RefI p' v ((m : Int) + 1) 0 → KLe kv0 kv0' → LabAt prog w p' kv0' ((m : Int) + 1) o →
      DS prog w p' (f kvs') sh TB TR kvs' kv0' (m + 1) rn tk rk' hk' fk' rd' hd' fd' ord' (lst ++ [(m : Int) + 1]) (if base = "ON" then ons else ons ++ [(m : Int) + 1]) offs lks rbs base (rows ++ [(0, .grp ((m : Int) + 1))]) →
      St σ p' (f kvs') s' → Q v s'), wpAny (model prog w) A (call (.ref 498) [.ref sh, .bytes o to]) Q E s
abbrev eT := (Program) × (World) × (Around) × (Value → Shared → Prop) × (Shared) × (Shared) × (Heap) × (Str → Option Value) × (Str → Option Value) × (Addr) × (Addr) × (Addr) × (List (Int × Value)) × (List (Int × Value)) × (Nat) × (Int) × (List (Str × Value)) × (List (Str × Value)) × (List (Str × Value)) × (List (Str × Value)) × (Addr) × (Addr) × (Addr) × (Addr) × (List Int) × (List Int) × (List Int) × (List Int) × (List Int) × (Str) × (Rws) × (Nat) × (List (Int × Value) → List Cell) × (Array UInt8) × (Tok) × (Value → Shared → Prop)
def eg1 (x : eT) := x.2.2.2.2.2.2.2.2
def eg2 (x : eT) := (eg1 x).2.2.2.2.2.2.2.2
def eg3 (x : eT) := (eg2 x).2.2.2.2.2.2.2.2
def eg4 (x : eT) := (eg3 x).2.2.2.2.2.2.2.2
def eP (x : eT) : Prop := eS x.1 x.2.1 x.2.2.1 x.2.2.2.1 x.2.2.2.2.1 x.2.2.2.2.2.1 x.2.2.2.2.2.2.1 x.2.2.2.2.2.2.2.1 (eg1 x).1 (eg1 x).2.1 (eg1 x).2.2.1 (eg1 x).2.2.2.1 (eg1 x).2.2.2.2.1 (eg1 x).2.2.2.2.2.1 (eg1 x).2.2.2.2.2.2.1 (eg1 x).2.2.2.2.2.2.2.1 (eg2 x).1 (eg2 x).2.1 (eg2 x).2.2.1 (eg2 x).2.2.2.1 (eg2 x).2.2.2.2.1 (eg2 x).2.2.2.2.2.1 (eg2 x).2.2.2.2.2.2.1 (eg2 x).2.2.2.2.2.2.2.1 (eg3 x).1 (eg3 x).2.1 (eg3 x).2.2.1 (eg3 x).2.2.2.1 (eg3 x).2.2.2.2.1 (eg3 x).2.2.2.2.2.1 (eg3 x).2.2.2.2.2.2.1 (eg3 x).2.2.2.2.2.2.2.1 (eg4 x).1 (eg4 x).2.1 (eg4 x).2.2.1 (eg4 x).2.2.2
noncomputable def ec : eT := @Classical.epsilon eT ⟨(default, dW, dA, default, dS, dS, default, default, default, default, default, default, default, default, default, default, default, default, default, default, default, default, default, default, default, default, default, default, default, default, default, default, default, default, default, default)⟩ fun x => ¬ eP x
@[irreducible] def prog := ec.1
@[irreducible] def w := ec.2.1
@[irreducible] def A := ec.2.2.1
@[irreducible] def E := ec.2.2.2.1
@[irreducible] def σ := ec.2.2.2.2.1
@[irreducible] def s := ec.2.2.2.2.2.1
@[irreducible] def p := ec.2.2.2.2.2.2.1
@[irreducible] def mg := ec.2.2.2.2.2.2.2.1
@[irreducible] def mb := (eg1 ec).1
@[irreducible] def sh := (eg1 ec).2.1
@[irreducible] def TB := (eg1 ec).2.2.1
@[irreducible] def TR := (eg1 ec).2.2.2.1
@[irreducible] def kvs := (eg1 ec).2.2.2.2.1
@[irreducible] def kv0 := (eg1 ec).2.2.2.2.2.1
@[irreducible] def m := (eg1 ec).2.2.2.2.2.2.1
@[irreducible] def rn := (eg1 ec).2.2.2.2.2.2.2.1
@[irreducible] def tk := (eg2 ec).1
@[irreducible] def rk := (eg2 ec).2.1
@[irreducible] def hk := (eg2 ec).2.2.1
@[irreducible] def fk := (eg2 ec).2.2.2.1
@[irreducible] def rd := (eg2 ec).2.2.2.2.1
@[irreducible] def hd := (eg2 ec).2.2.2.2.2.1
@[irreducible] def fd := (eg2 ec).2.2.2.2.2.2.1
@[irreducible] def ord := (eg2 ec).2.2.2.2.2.2.2.1
@[irreducible] def lst := (eg3 ec).1
@[irreducible] def ons := (eg3 ec).2.1
@[irreducible] def offs := (eg3 ec).2.2.1
@[irreducible] def lks := (eg3 ec).2.2.2.1
@[irreducible] def rbs := (eg3 ec).2.2.2.2.1
@[irreducible] def base := (eg3 ec).2.2.2.2.2.1
@[irreducible] def rows := (eg3 ec).2.2.2.2.2.2.1
@[irreducible] def k := (eg3 ec).2.2.2.2.2.2.2.1
@[irreducible] def f := (eg4 ec).1
@[irreducible] def o := (eg4 ec).2.1
@[irreducible] def to := (eg4 ec).2.2.1
@[irreducible] def Q := (eg4 ec).2.2.2
end
set_option maxHeartbeats 4000000 in
theorem main : eS prog w A E σ s p mg mb sh TB TR kvs kv0 m rn tk rk hk fk rd hd fd ord lst ons offs lks rbs base rows k f o to Q := by
  intro  D T H R hm u h
  refine ex34 D.od ?_
  intro ovs kt hh od1 od2 od3 od4
  refine call_of (enter0 (fs := [("shelf", some (.ref sh)), ("label", some (.bytes o to)), ("head", none), ("found", none), ("first", none), ("place", none)]) (binds := [("shelf", .ref sh), ("label", .bytes o to)]) T H R d498 (by kernel_rfl) (by kernel_rfl) (by kernel_rfl) (by kernel_rfl) ?_)
  intro A env s1 hs he H R
  have G_dict := gnl hs (by kernel_rfl) (gl_gdict T)
  have G_isinstance := gnl hs (by kernel_rfl) (gl_gisinstance T)
  have G_DraftFault := gnl hs (by kernel_rfl) (gl_gDraftFault T)
  have G_Name := gnl hs (by kernel_rfl) (gl_gName T)
  have G_String := gnl hs (by kernel_rfl) (gl_gString T)
  have G_items_at := gnl hs (by kernel_rfl) (gl_gitems_at T)
  have G_word_at := gnl hs (by kernel_rfl) (gl_gword_at T)
  have G_layer_head := gnl hs (by kernel_rfl) (gl_glayer_head T)
  have G_put_layer_head := gnl hs (by kernel_rfl) (gl_gput_layer_head T)
  have S := D.s
  have I := S.I
  refine x_assign ?_
  walk_at "g"
  refine S.c.layer_head T ‹_› R D.doc.c ?_
  intro s2 H
  walk_at "g"
  refine r_dcopy T ‹_› (rd_p ‹_› D.hdk.pp) D.hdk.lo (Nat.le_trans D.hl (Nat.le_trans (by omega) (Nat.le_of_ble_eq_true rfl : 1000 ≤ sizeLine))) ?_
  intro nh s3 lo1 H
  have H := H.swap
  walk_at "g"
  have hvD : (valueAt hk "D").getD .none = .ref fd := by rw [D.dv]; rfl
  refine S.c.c.get T ‹_› R ⟨.inl (by walk_at "mem"), lo1⟩ (r := .ref fd) (by rw [hvD]; exact .here (VT.notRef D.cf.rd.vt ki_dict_r266)) ?_
  intro s4 H
  walk_at "g"
  refine r_isi T ‹_› D.cf.rd.vt ki_dict_dict ?_
  intro s5 H
  walk_at "g"
  refine r_dcopy T ‹_› (rd_p ‹_› D.cf.rd.pp) D.cf.rd.lo (Nat.le_trans D.fl (Nat.le_trans (by omega) (Nat.le_of_ble_eq_true rfl : 1000 ≤ sizeLine))) ?_
  intro nf s6 lo2 H
  have H := H.swap
  walk_at "g"
  refine S.c.c.c.root T ‹_› R D.tr.c.c.c D.doc.root D.rdk.vt ?_
  intro s7 H
  walk_at "g"
  refine e_dict0 (knd := strKind prog w) T ‹_› ?_
  intro d0 s8 lo0 H
  refine r_deq (rd_p H D.rdk.pp) (rd_m H (.head _)) D.rdk.lo lo0 R.cl D.rne ?_
  have H := H.drop
  walk_at "g"
  refine e_dict (knd := strKind prog w) T ‹_› rfl rfl (by simp) (by decide) ?_
  intro gd s9 lo3 H
  refine p_cons ?_
  walk_at "g"
  refine mk_name T ‹_› R ?_
  intro nm p10 s10 l10 hnm H
  have T := T.mono l10
  refine p_cons ?_
  walk_at "g"
  refine mk_str T ‹_› R ?_
  intro st p11 s11 l11 hst H
  have T := T.mono l11
  refine p_nil ?_
  have hnm := hnm.mono l11
  have l011 := l10.trans l11
  refine dict_of [("Type", .ref nm), ("Name", .ref st)] ?_ (by decide : (["Type", "Name"] : List Str).Nodup) ‹_› ?_
  · exact ⟨sk, rfl, sk, rfl, trivial⟩
  intro s12 H
  have D := D
  refine St.fz2 H ?_
  intro p12 l12 hgd H
  have T := T.mono l12
  have l012 := l011.trans l12
  have S := S.mono l012
  have I := S.I
  walk_at "g"
  have hm1 : ((m : Int) + 1) = ((m + 1 : Nat) : Int) := by omega
  refine S.c.c.c.add T ‹_› R (fun x => .tail (.tail (.tail (u kvs x)))) (Nat.le_trans D.kz (by omega)) D.kin (D.kout _ (by omega)) ?_
  intro pl tg tk0 p13 s13 l13 htg hpl H
  have T := T.mono l13
  have l013 := l012.trans l13
  have S := (S.mono l13).upd (u kvs (stored kvs ((m : Int) + 1) (.ref tg)))
  have I := S.I
  have k1 : KLe kvs (stored kvs ((m : Int) + 1) (.ref tg)) := KLe.new (D.kout _ (by omega))
  have hkv0 : valueAt kv0 ((m : Int) + 1) = none := by
    cases e : valueAt kv0 ((m : Int) + 1) with
    | none => rfl
    | some v => have := D.k0 _ _ e; rw [D.kout _ (by omega)] at this; cases this
  have C := D.cf.mono l013
  have od1 := od1.mono l013
  walk_at "g"
  refine S.c.c.c.items_at T ‹_› R ⟨.inl (by walk_at "mem"), lo2⟩ (by rw [C.ordv]; exact .here (VT.notRef (VT.ls od1) ki_list_r266)) (VT.ls od1) ?_
  intro s14 H
  walk_at "g"
  refine r_newList ‹_› (Nat.le_of_ble_eq_true rfl) ?_
  intro pl1 s15 H
  refine r_ladd H (rd_p H od1) (rd_m H (.head _)) (Nat.le_trans (by simp; omega) (Nat.le_of_ble_eq_true rfl : 1000 ≤ sizeLine)) ?_
  intro no s16 H
  refine St.fz (H.drop2) ?_
  intro p16 l16 hno H
  have T := T.mono l16
  have S := S.mono l16
  have I := S.I
  have l016 := l013.trans l16
  walk_at "g"
  refine r_dset ‹_› (.tail .head) sk (Nat.le_trans D.fl (Nat.le_trans (by omega) (Nat.le_of_ble_eq_true rfl : 1000 ≤ sizeLine))) ?_
  intro s17 H
  walk_at "g"
  have C := D.cf.mono l016
  have hbase : (valueAt (stored fk "Order" (.ref no)) "BaseState" = none ∧ base = "ON") ∨ ∃ nm, valueAt (stored fk "Order" (.ref no)) "BaseState" = some nm ∧ NmI p16 nm base := by
    rw [valueAt_stored, if_neg (by decide)]; exact C.base
  refine S.c.c.c.word_in T ‹_› R ⟨.inl (by walk_at "mem"), lo2⟩ hbase ?_
  intro tb s18 H
  have OD := od3
  have hk0' : KLe kv0 (stored kv0 ((m : Int) + 1) (.ref tg)) := KLe.new hkv0
  have lab16 : LabAt prog w p16 (stored kv0 ((m : Int) + 1) (.ref tg)) ((m : Int) + 1) o := by
    refine LabAt.mono ?_ l16
    refine ⟨tg, tk0, gd, [("Type", .ref nm), ("Name", .ref st)], .ref nm, .ref st, to, by rw [valueAt_stored, if_pos rfl], htg, ?_, rfl, ?_, rfl, ?_⟩
    · exact ⟨.inr (hgd.mono l13), lo3⟩
    · exact ⟨nm, _, rfl, hnm.mono (l12.trans l13)⟩
    · exact ⟨st, _, rfl, hst.mono (l12.trans l13)⟩
  have hpl := hpl.mono l16
  refine ex11 (((OD.mono l016).ext hk0').snoc hpl (lab16.isG hpl)) ?_
  intro hh2 htr
  rcases D.bs with hb | hb
  · walk_at "g"
    rw [show (base != "ON") = false from by rw [hb]; decide]
    refine ite_f ?_
    refine x_nil ?_
    obtain ⟨p19, l19, hnf, H⟩ := (St.freeze2 ‹_›)
    have CF : CfD prog w p19 kv0 nf (stored fk "Order" (.ref no)) no ons offs lks rbs base := by
      have C := C.mono l19
      refine ⟨⟨.inr hnf, lo2⟩, by rw [valueAt_stored, if_pos rfl], VT.ls (hno.mono l19), ?_, ?_, ?_, ?_, ?_, ?_⟩
      · obtain ⟨a, b, c, d⟩ := C.on; exact ⟨a, b, by rw [valueAt_stored, if_neg (by decide)]; exact c, d⟩
      · obtain ⟨a, b, c, d⟩ := C.off; exact ⟨a, b, by rw [valueAt_stored, if_neg (by decide)]; exact c, d⟩
      · obtain ⟨a, b, c, d⟩ := C.lk; exact ⟨a, b, by rw [valueAt_stored, if_neg (by decide)]; exact c, d⟩
      · obtain ⟨a, b, c, d, e⟩ := C.rb; exact ⟨a, b, c, by rw [valueAt_stored, if_neg (by decide)]; exact d, e⟩
      · rw [valueAt_stored, if_neg (by decide)]; exact C.base
      · rw [valueAt_stored, if_neg (by decide)]; exact C.intent
    exact put_tail D (l016.trans l19) hs he (T.mono l19) (S.mono l19) H R hm u lo1 hkv0 (lab16.mono l19) (hpl.mono l19) (CF.ext hk0')
      (Nat.le_trans (stored_length_le fk "Order" (.ref no)) (by have := D.fl; omega)) (by have := D.oz; omega) (fun n hn => .inl hn) (hno.mono l19) (by simp; omega) (htr.mono l19) od4
      (fun v p' s' kvs' kv0' rk' hk' fk' rd' hd' fd' ord' a b c d e => h v p' s' kvs' kv0' rk' hk' fk' rd' hd' fd' ord' a b c d (by rw [if_pos hb]; exact e))
  · walk_at "g"
    rw [show (base != "ON") = true from by rw [hb]; decide]
    refine ite_t ?_
    walk_at "g"
    refine ex24 C.on ?_
    intro onl onv on1 on2 on3 on4
    refine S.c.c.c.items_at T ‹_› R ⟨.inl (by walk_at "mem"), lo2⟩ (by rw [valueAt_stored, if_neg (by decide), on1]; exact .here (VT.notRef (VT.ls on2) ki_list_r266)) (VT.ls on2) ?_
    intro s40 H
    walk_at "g"
    refine r_newList ‹_› (Nat.le_of_ble_eq_true rfl) ?_
    intro pl3 s41 H
    have eon := on3.length
    have zon := D.oz
    refine r_ladd H (rd_p H on2) (rd_m H (.head _)) (Nat.le_trans (by simp; omega) (Nat.le_of_ble_eq_true rfl : 1000 ≤ sizeLine)) ?_
    intro non s42 H
    refine St.fz (H.drop2) ?_
    intro p18 l18 hnon H
    have T := T.mono l18
    have S := S.mono l18
    have I := S.I
    walk_at "g"
    have ef := stored_length_le fk "Order" (.ref no)
    refine r_dset ‹_› (.tail .head) sk (Nat.le_trans ef (Nat.le_trans (Nat.succ_le_succ D.fl) (Nat.le_trans (by omega) (Nat.le_of_ble_eq_true rfl : 1000 ≤ sizeLine)))) ?_
    intro s43 H
    refine x_nil ?_
    obtain ⟨p19, l19, hnf, H⟩ := (St.freeze2 ‹_›)
    have l1819 := l18.trans l19
    have lab19 := lab16.mono l1819
    have hpl := hpl.mono l1819
    have CF : CfD prog w p19 (stored kv0 ((m : Int) + 1) (.ref tg)) nf (stored (stored fk "Order" (.ref no)) "ON" (.ref non)) no (ons ++ [(m : Int) + 1]) offs lks rbs base := by
      have C := (C.mono l1819).ext hk0'
      refine ⟨⟨.inr hnf, lo2⟩, by rw [valueAt_stored, if_neg (by decide), valueAt_stored, if_pos rfl], VT.ls (hno.mono l1819), ?_, ?_, ?_, ?_, ?_, ?_⟩
      · refine ⟨non, _, by rw [valueAt_stored, if_pos rfl], hnon.mono l19, ((on3.mono l1819).ext hk0').snoc hpl (lab19.isG hpl), ?_⟩
        simp; omega
      · obtain ⟨a, b, c, d⟩ := C.off; exact ⟨a, b, by rw [valueAt_stored, if_neg (by decide), valueAt_stored, if_neg (by decide)]; exact c, d⟩
      · obtain ⟨a, b, c, d⟩ := C.lk; exact ⟨a, b, by rw [valueAt_stored, if_neg (by decide), valueAt_stored, if_neg (by decide)]; exact c, d⟩
      · obtain ⟨a, b, c, d, e⟩ := C.rb; exact ⟨a, b, c, by rw [valueAt_stored, if_neg (by decide), valueAt_stored, if_neg (by decide)]; exact d, e⟩
      · rw [valueAt_stored, if_neg (by decide), valueAt_stored, if_neg (by decide)]; exact C.base
      · rw [valueAt_stored, if_neg (by decide), valueAt_stored, if_neg (by decide)]; exact C.intent
    have hnon : base ≠ "ON" := by rw [hb]; decide
    exact put_tail D (l016.trans l1819) hs he (T.mono l19) (S.mono l19) H R hm u lo1 hkv0 lab19 hpl CF
      (by have e1 := stored_length_le (stored fk "Order" (.ref no)) "ON" (.ref non); have e2 := stored_length_le fk "Order" (.ref no); have := D.fl; omega) (by simp; have := D.oz; omega)
      (fun n hn => (List.mem_append.mp hn).imp id List.mem_singleton.mp) (hno.mono l1819) (by simp; omega) (htr.mono l1819) od4
      (fun v p' s' kvs' kv0' rk' hk' fk' rd' hd' fd' ord' a b c d e => h v p' s' kvs' kv0' rk' hk' fk' rd' hd' fd' ord' a b c d (by rw [if_neg hnon]; exact e))
theorem all (x : eT) : eP x := eps (show eP ec by with_unfolding_all exact main) x
end put_group_E
theorem put_group {prog : Program} {w : World} {A : Around} {E : Value → Shared → Prop} {σ s : Shared} {p : Heap} {mg mb : Str → Option Value} {sh TB TR : Addr} {kvs kv0 : List (Int × Value)} {m : Nat} {rn : Int} {tk rk hk fk : List (Str × Value)} {rd hd fd ord : Addr} {lst ons offs lks rbs : List Int} {base : Str} {rows : Rws} {k : Nat} {f : List (Int × Value) → List Cell} {o : Array UInt8} {to : Tok} {Q : Value → Shared → Prop} : put_group_E.eS prog w A E σ s p mg mb sh TB TR kvs kv0 m rn tk rk hk fk rd hd fd ord lst ons offs lks rbs base rows k f o to Q :=
  put_group_E.all (prog, w, A, E, σ, s, p, mg, mb, sh, TB, TR, kvs, kv0, m, rn, tk, rk, hk, fk, rd, hd, fd, ord, lst, ons, offs, lks, rbs, base, rows, k, f, o, to, Q)
section
end
noncomputable def istr (n : Int) : Str := Str.ofString (toString n)
section
variable {prog : Program} {w : World} {A : Around} {E : Value → Shared → Prop} {σ s : Shared} {p : Heap} {mu mu' : List Cell} {env : Env} {fs fs' : List (Str × Option Value)} {K : Frag} {mg mb : Str → Option Value} {rest : List Stmt}
theorem r_sadd {x y : Str} {t u : Tok} {Q : Value → Shared → Prop} (H : St σ p mu s) (hz : x.length + y.length ≤ 5000) (h : ∀ t' s', St σ p mu s' → Q (.str (x ++ y) t') s') : wpAny (model prog w) A (binaryOp .Add (.str x t) (.str y u)) Q E s :=
  PyProof.Rows.add_str (fun t' tk => h _ _ (H.toks _)) (Nat.le_trans hz (Nat.le_of_ble_eq_true rfl))
theorem r_str_int {a : Int} {t : Tok} {Q : Value → Shared → Prop} (H : St σ p mu s) (h0 : 0 ≤ a) (h1 : a < 1000) (h : ∀ t' s', St σ p mu s' → Q (.str (istr a) t') s') : wpAny (model prog w) A (call (.type "str") [.int a t]) Q E s :=
  str_of_int_fit (N := 1000) (by split <;> omega) (by decide) fun _ => h _ _ (H.toks _)
theorem istr_len {a : Int} (h0 : 0 ≤ a) (h1 : a < 1000) : (istr a).length ≤ 1002 := by
  have := len_str_of_int a
  unfold istr
  omega
theorem x_try {body : List Stmt} {h₀ : ExceptHandler} {hs : List ExceptHandler} {pos : Pos} {Q : Flow → Shared → Prop}
    (h : wpAny (model prog w) A (execs body env) (fun f s₁ => match f with | .next => wpAny (model prog w) A (execs rest env) Q E s₁ | f => Q f s₁) NE s) :
    wpAny (model prog w) A (execs (.Try body (h₀ :: hs) [] [] pos :: rest) env) Q E s := by
  refine wpAny_execs_cons (wpAny_Try_except (wpAny_mono h (fun f s₁ h₁ => ?_) fun _ _ q => q.elim))
  cases f with
  | next => exact wpAny_execs_nil h₁
  | cont => exact h₁
  | brk => exact h₁
  | ret v => exact h₁
end
theorem strs_snoc {us : List Value} {ys : List Str} (h : StrsAre us ys) (y : Str) (t : Tok) : StrsAre (us ++ [.str y t]) (ys ++ [y]) := by
  induction h with
  | nil => exact .cons y t .nil
  | cons m u _ ih => exact .cons m u ih
theorem strs_len {us : List Value} {ys : List Str} (h : StrsAre us ys) : us.length = ys.length := by
  induction h with
  | nil => rfl
  | cons m u _ ih => simp [ih]
theorem strs_app {us vs : List Value} {ys zs : List Str} (h : StrsAre us ys) (g : StrsAre vs zs) : StrsAre (us ++ vs) (ys ++ zs) := by
  induction h with
  | nil => exact g
  | cons m u _ ih => exact .cons m u ih
noncomputable def ftl (word : Str) (n : Int) : Str := ((word ++ (" tells " : Str)) ++ istr n) ++ (", which is not listed" : Str)
noncomputable def fto (n : Int) : Str := (("Order tells " : Str) ++ istr n) ++ (", which is not listed" : Str)
noncomputable def ftr (n : Int) : Str := ("more than one group is on in the row " : Str) ++ istr n
noncomputable def notIn (known : List Int) (n : Int) : Bool := !(known.any (· == n))
noncomputable def faultsOf (known ons offs lks cr : List Int) (rows : Rws) : List Str :=
  ((((ons.filter (notIn known)).map (ftl "ON") ++ (offs.filter (notIn known)).map (ftl "OFF")) ++ (lks.filter (notIn known)).map (ftl "Locked")) ++ cr.map ftr) ++ ((rowsG rows).filter (notIn known)).map fto
theorem mem_ddp {n : Int} {l : List Int} (h : n ∈ ddp l) : n ∈ l := by
  have key : ∀ (l acc : List Int), n ∈ l.foldl ddp1 acc → n ∈ acc ∨ n ∈ l := by
    intro l
    induction l with
    | nil => intro acc h; exact .inl h
    | cons x r ih =>
      intro acc h
      rw [List.foldl_cons] at h
      rcases ih _ h with h | h
      · unfold ddp1 at h
        split at h
        · exact .inl h
        · rcases List.mem_append.mp h with h | h
          · exact .inl h
          · exact .inr (by rw [List.mem_singleton.mp h]; exact .head _)
      · exact .inr (.tail _ h)
  exact (key l [] h).resolve_left (by intro h; cases h)
theorem boolVals_stored {sv : List (Int × Value)} (h : BoolVals sv) (n : Int) (b : Bool) : BoolVals (stored sv n (.bool b)) := fun k v e => by
  rw [valueAt_stored] at e
  split at e
  · exact ⟨b, (Option.some.inj e).symm⟩
  · exact h k v e
theorem boolVals_setAll (b : Bool) : ∀ (ns : List Int) (sv : List (Int × Value)), BoolVals sv → BoolVals (setAll b sv ns)
  | [], sv, h => h
  | n :: r, sv, h => boolVals_setAll b r _ (boolVals_stored h n b)
theorem boolVals_setIn (b : Bool) : ∀ (ns : List Int) (sv : List (Int × Value)), BoolVals sv → BoolVals (setIn b sv ns)
  | [], sv, h => h
  | n :: r, sv, h => boolVals_setIn b r _ (by unfold setIn1; split; exact boolVals_stored h n b; exact h)
theorem boolVals_start (b : Bool) (ns ons offs : List Int) : BoolVals (startS b ns ons offs) := boolVals_setIn _ _ _ (boolVals_setIn _ _ _ (boolVals_setAll _ _ _ fun n v e => by cases e))
theorem rowsG_len (r : Rws) : (rowsG r).length ≤ r.length := List.length_filterMap_le _ _
theorem RowsAt.at {p : Heap} {vs : List Value} {rs : Rws} (h : RowsAt p vs rs) : ∀ {i : Nat} {v : Value}, vs[i]? = some v → ∃ r, rs[i]? = some r ∧ RowAt p v r := by
  induction h with
  | nil => intro i v e; cases e
  | cons a _ ih =>
    intro i v e
    cases i with
    | zero => cases e; exact ⟨_, rfl, a⟩
    | succ i => exact ih e
theorem filt_take {ns : List Int} {f : Int → Bool} {g : Int → Str} {i : Nat} {n : Int} (h : ns[i]? = some n) : ((ns.take (i + 1)).filter f).map g = ((ns.take i).filter f).map g ++ (if f n then [g n] else []) := by
  rw [take_snoc h, List.filter_append, List.map_append]
  by_cases e : f n <;> simp [e]
section
variable {prog : Program} {w : World} {A : Around} {E : Value → Shared → Prop} {σ s : Shared} {p : Heap} {mu mu' : List Cell} {mg mb : Str → Option Value} {K : Frag}
variable {sh TB TR : Addr} {kvs kv0 kv1 : List (Int × Value)}
variable {m : Nat} {rn : Int} {tk rk hk fk : List (Str × Value)} {rd hd fd ord : Addr} {lst ons offs lks rbs : List Int} {base : Str} {rows : Rws}
noncomputable def lf3 (known : List Int) (on off lk : List Int) (i : Nat) : List Str := if i = 0 then [] else if i = 1 then (on.filter (notIn known)).map (ftl "ON") else if i = 2 then (on.filter (notIn known)).map (ftl "ON") ++ (off.filter (notIn known)).map (ftl "OFF") else ((on.filter (notIn known)).map (ftl "ON") ++ (off.filter (notIn known)).map (ftl "OFF")) ++ (lk.filter (notIn known)).map (ftl "Locked")

end
namespace layer_faults_E
noncomputable section
def eS (prog : Program) (w : World) (A : Around) (E : Value → Shared → Prop) (σ s : Shared) (p : Heap) (mu : List Cell) (mg mb : Str → Option Value) (sh TB TR : Addr) (kvs kv0 : List (Int × Value)) (m : Nat) (rn : Int) (tk rk hk fk : List (Str × Value)) (rd hd fd ord : Addr) (lst ons offs lks rbs : List Int) (base : Str) (rows : Rws) (k : Nat) (Q : Value → Shared → Prop) : Prop := ∀ (D : DS prog w p mu sh TB TR kvs kv0 m rn tk rk hk fk rd hd fd ord lst ons offs lks rbs base rows) (T : Tp (KK w) mg mb p) (H : St σ p mu s) (R : Rm A (k + 40)) (h : ∀ a us p' s', Le p p' → StrsAre us (faultsOf (ddp lst) (ddp ons) (ddp offs) (ddp lks) (crowded (startS (base != "OFF") (ddp lst) (ddp ons) (ddp offs)) (ddp rbs)) rows) → St σ p' ((a, LsP us) :: mu) s' → Q (.ref a) s'), wpAny (model prog w) A (call (.ref 503) [.ref sh]) Q E s
abbrev eT := (Program) × (World) × (Around) × (Value → Shared → Prop) × (Shared) × (Shared) × (Heap) × (List Cell) × (Str → Option Value) × (Str → Option Value) × (Addr) × (Addr) × (Addr) × (List (Int × Value)) × (List (Int × Value)) × (Nat) × (Int) × (List (Str × Value)) × (List (Str × Value)) × (List (Str × Value)) × (List (Str × Value)) × (Addr) × (Addr) × (Addr) × (Addr) × (List Int) × (List Int) × (List Int) × (List Int) × (List Int) × (Str) × (Rws) × (Nat) × (Value → Shared → Prop)
def eg1 (x : eT) := x.2.2.2.2.2.2.2.2
def eg2 (x : eT) := (eg1 x).2.2.2.2.2.2.2.2
def eg3 (x : eT) := (eg2 x).2.2.2.2.2.2.2.2
def eg4 (x : eT) := (eg3 x).2.2.2.2.2.2.2.2
def eP (x : eT) : Prop := eS x.1 x.2.1 x.2.2.1 x.2.2.2.1 x.2.2.2.2.1 x.2.2.2.2.2.1 x.2.2.2.2.2.2.1 x.2.2.2.2.2.2.2.1 (eg1 x).1 (eg1 x).2.1 (eg1 x).2.2.1 (eg1 x).2.2.2.1 (eg1 x).2.2.2.2.1 (eg1 x).2.2.2.2.2.1 (eg1 x).2.2.2.2.2.2.1 (eg1 x).2.2.2.2.2.2.2.1 (eg2 x).1 (eg2 x).2.1 (eg2 x).2.2.1 (eg2 x).2.2.2.1 (eg2 x).2.2.2.2.1 (eg2 x).2.2.2.2.2.1 (eg2 x).2.2.2.2.2.2.1 (eg2 x).2.2.2.2.2.2.2.1 (eg3 x).1 (eg3 x).2.1 (eg3 x).2.2.1 (eg3 x).2.2.2.1 (eg3 x).2.2.2.2.1 (eg3 x).2.2.2.2.2.1 (eg3 x).2.2.2.2.2.2.1 (eg3 x).2.2.2.2.2.2.2.1 (eg4 x).1 (eg4 x).2
noncomputable def ec : eT := @Classical.epsilon eT ⟨(default, dW, dA, default, dS, dS, default, default, default, default, default, default, default, default, default, default, default, default, default, default, default, default, default, default, default, default, default, default, default, default, default, default, default, default)⟩ fun x => ¬ eP x
@[irreducible] def prog := ec.1
@[irreducible] def w := ec.2.1
@[irreducible] def A := ec.2.2.1
@[irreducible] def E := ec.2.2.2.1
@[irreducible] def σ := ec.2.2.2.2.1
@[irreducible] def s := ec.2.2.2.2.2.1
@[irreducible] def p := ec.2.2.2.2.2.2.1
@[irreducible] def mu := ec.2.2.2.2.2.2.2.1
@[irreducible] def mg := (eg1 ec).1
@[irreducible] def mb := (eg1 ec).2.1
@[irreducible] def sh := (eg1 ec).2.2.1
@[irreducible] def TB := (eg1 ec).2.2.2.1
@[irreducible] def TR := (eg1 ec).2.2.2.2.1
@[irreducible] def kvs := (eg1 ec).2.2.2.2.2.1
@[irreducible] def kv0 := (eg1 ec).2.2.2.2.2.2.1
@[irreducible] def m := (eg1 ec).2.2.2.2.2.2.2.1
@[irreducible] def rn := (eg2 ec).1
@[irreducible] def tk := (eg2 ec).2.1
@[irreducible] def rk := (eg2 ec).2.2.1
@[irreducible] def hk := (eg2 ec).2.2.2.1
@[irreducible] def fk := (eg2 ec).2.2.2.2.1
@[irreducible] def rd := (eg2 ec).2.2.2.2.2.1
@[irreducible] def hd := (eg2 ec).2.2.2.2.2.2.1
@[irreducible] def fd := (eg2 ec).2.2.2.2.2.2.2.1
@[irreducible] def ord := (eg3 ec).1
@[irreducible] def lst := (eg3 ec).2.1
@[irreducible] def ons := (eg3 ec).2.2.1
@[irreducible] def offs := (eg3 ec).2.2.2.1
@[irreducible] def lks := (eg3 ec).2.2.2.2.1
@[irreducible] def rbs := (eg3 ec).2.2.2.2.2.1
@[irreducible] def base := (eg3 ec).2.2.2.2.2.2.1
@[irreducible] def rows := (eg3 ec).2.2.2.2.2.2.2.1
@[irreducible] def k := (eg4 ec).1
@[irreducible] def Q := (eg4 ec).2
end
set_option maxHeartbeats 4000000 in
theorem main : eS prog w A E σ s p mu mg mb sh TB TR kvs kv0 m rn tk rk hk fk rd hd fd ord lst ons offs lks rbs base rows k Q := by
  intro  D T H R h
  obtain ⟨gl, gvs, gl1, gl2, gl3⟩ := D.gl
  obtain ⟨ovs, kt, hh, od1, od2, od3, od4⟩ := D.od
  refine call_of (enter1 (fs := [("shelf", some (.ref sh)), ("config", none), ("faults", none), ("word", none), ("numbers", none), ("number", none), ("spot", none), ("listed", none), ("fault", none)]) (binds := [("shelf", .ref sh)]) (x := "known") (o := none) T H R d503 (by kernel_rfl) (by kernel_rfl) (by kernel_rfl) (by kernel_rfl) (by decide) (by decide) ?_)
  intro A env s1 cc hs he hcn hck hcl H R
  have G_configuration := gnl hs (by kernel_rfl) (gl_gconfiguration T)
  have G_group_numbers := gnl hs (by kernel_rfl) (gl_ggroup_numbers T)
  have G_str := gnl hs (by kernel_rfl) (gl_gstr T)
  have G_crowded_rows := gnl hs (by kernel_rfl) (gl_gcrowded_rows T)
  have G_starting_states := gnl hs (by kernel_rfl) (gl_gstarting_states T)
  have G_order_rows := gnl hs (by kernel_rfl) (gl_gorder_rows T)
  have G_TreeFault := gnl hs (by kernel_rfl) (gl_gTreeFault T)
  have S := D.s
  have I := S.I
  refine x_assign ?_
  walk_at "g"
  refine S.c.c.group_numbers T ‹_› R D.doc.c.c gl1 gl2 (gl3.ext D.k0) (Nat.le_trans D.lz (by have := D.mz; omega)) ?_
  intro kn knu s2 hkn H
  refine St.fz H ?_
  intro p2 l2 hkl H
  have T := T.mono l2
  have S := S.mono l2
  have I := S.I
  walk_at "g"
  refine st_cell he.kind hck hcl ‹_› (.tail .head) ?_
  intro s3 H
  walk_at "g"
  refine S.c.c.configuration T ‹_› R (D.doc.mono l2).c.c D.dv ((D.cf.mono l2).ext D.k0) ?_
  intro cf p4 s4 l4 hcf H
  have T := T.mono l4
  have S := S.mono l4
  have I := S.I
  have hcfi := hcf
  refine hcf.el ?_
  intro bt rad wd ona onu ofa ofu rra rru lka lku C on1 on2 of1 of2 hrad rr1 rr2 lk1 lk2
  walk_at "g"
  refine r_newList ‹_› (Nat.zero_le _) ?_
  intro fa s5 H
  have H := H.swap
  walk_at "g"
  refine x_for ?_
  walk_at "g"
  refine r_newTuple ‹_› (Nat.le_of_ble_eq_true rfl) ?_
  intro t1 p6 s6 l6 ht1 H
  have T := T.mono l6
  have C := C.mono l6
  walk_at "g"
  refine r_newTuple ‹_› (Nat.le_of_ble_eq_true rfl) ?_
  intro t2 p7 s7 l7 ht2 H
  have T := T.mono l7
  have C := C.mono l7
  walk_at "g"
  refine r_newTuple ‹_› (Nat.le_of_ble_eq_true rfl) ?_
  intro t3 p8 s8 l8 ht3 H
  have T := T.mono l8
  have C := C.mono l8
  walk_at "g"
  refine r_newTuple ‹_› (Nat.le_of_ble_eq_true rfl) ?_
  intro t4 p9 s9 l9 ht4 H
  have T := T.mono l9
  have C := C.mono l9
  have l49 := l6.trans (l7.trans (l8.trans l9))
  have ht1 := l9 _ _ (l8 _ _ (l7 _ _ ht1))
  have ht2 := l9 _ _ (l8 _ _ ht2)
  have ht3 := l9 _ _ ht3
  have on1 := on1.mono l49
  have of1 := of1.mono l49
  have lk1 := lk1.mono l49
  have hkl := hkl.mono (l4.trans l49)
  have zon : (ddp ons).length ≤ 200 := Nat.le_trans (ddp_length _) (Nat.le_trans D.oz (by have := D.mz; omega))
  have zof : (ddp offs).length ≤ 200 := Nat.le_trans (ddp_length _) (Nat.le_trans D.zz.1 (by omega))
  have zlk : (ddp lks).length ≤ 200 := Nat.le_trans (ddp_length _) (Nat.le_trans D.zz.2.1 (by omega))
  refine for_goT (I := fun i p' fs' mu' => ∀ C : Heap → List (Str × Option Value) → List Cell → Prop, (∀ fu o1 o2 o3, StrsAre fu (lf3 (ddp lst) (ddp ons) (ddp offs) (ddp lks) i) → C p9 [("shelf", some (.ref sh)), ("config", some (.ref cf)), ("faults", some (.ref fa)), ("word", o1), ("numbers", o2), ("number", o3), ("spot", none), ("listed", none), ("fault", none)] ((fa, LsP fu) :: (cc, CellP (some (.ref kn))) :: mu)) → C p' fs' mu') R.h ht4 ‹_› (fun _ K => K [] _ _ _ StrsAre.nil) ?_ ?_
  · intro i p10 fs10 mu10 c v s10 hi l10 J hv
    apply J
    intro fu o1 o2 o3 hfu H
    clear J l10 p10 fs10 mu10
    have key : ∀ C : Value → Prop, (∀ ti wd2 wt la lu ls, p9.get? ti = some (tupObj [.str wd2 wt, .ref la]) → Pt p9 la (LsP lu) → IntsAre lu ls →
        lf3 (ddp lst) (ddp ons) (ddp offs) (ddp lks) (i + 1) = lf3 (ddp lst) (ddp ons) (ddp offs) (ddp lks) i ++ (ls.filter (notIn (ddp lst))).map (ftl wd2) → (lf3 (ddp lst) (ddp ons) (ddp offs) (ddp lks) i).length ≤ 400 → ls.length ≤ 200 → wd2.length ≤ 10 → (∀ n ∈ ls, 0 ≤ n ∧ n < 1000) → C (.ref ti)) → C v := by
      clear H
      intro C K
      have hlen : ∀ (l : List Int) (f : Int → Bool) (g : Int → Str), ((l.filter f).map g).length ≤ l.length := fun l f g => by rw [List.length_map]; exact List.length_filter_le _ _
      have hmz := D.mz
      rcases (show i = 0 ∨ i = 1 ∨ i = 2 from by have : i < 3 := hi; omega) with rfl | rfl | rfl
      · cases hv
        refine K t1 "ON" _ ona onu (ddp ons) ht1 on1 on2 rfl (Nat.zero_le _) zon (by decide) fun n hn => ?_
        have := D.nb n (.inr (.inl (mem_ddp hn))); omega
      · cases hv
        refine K t2 "OFF" _ ofa ofu (ddp offs) ht2 of1 of2 rfl (Nat.le_trans (hlen _ _ _) (by omega)) zof (by decide) fun n hn => ?_
        have := D.nb n (.inr (.inr (.inl (mem_ddp hn)))); omega
      · cases hv
        refine K t3 "Locked" _ lka lku (ddp lks) ht3 lk1 lk2 rfl ?_ zlk (by decide) fun n hn => ?_
        · show (_ ++ _ : List Str).length ≤ 400
          rw [List.length_append]
          have h1 := hlen (ddp ons) (notIn (ddp lst)) (ftl "ON")
          have h2 := hlen (ddp offs) (notIn (ddp lst)) (ftl "OFF")
          omega
        · have := D.nb n (.inr (.inr (.inr (.inl (mem_ddp hn))))); omega
    revert H
    apply key
    intro ti wd2 wt la lu ls hti hla hls hnext hz1 hz2 hw hlb H
    clear key hv
    generalize lf3 (ddp lst) (ddp ons) (ddp offs) (ddp lks) i = F1 at *
    refine as_pair R.h ‹_› hti ?_
    intro s11 H
    walk_at "g"
    refine x_for ?_
    walk_at "g"
    refine for_go (I := fun j p' fs' mu' => ∀ C : Heap → List (Str × Option Value) → List Cell → Prop, (∀ fu o3, StrsAre fu (F1 ++ ((ls.take j).filter (notIn (ddp lst))).map (ftl wd2)) → C p9 [("shelf", some (.ref sh)), ("config", some (.ref cf)), ("faults", some (.ref fa)), ("word", some (.str wd2 wt)), ("numbers", some (.ref la)), ("number", o3), ("spot", none), ("listed", none), ("fault", none)] (c :: (fa, LsP fu) :: (cc, CellP (some (.ref kn))) :: mu)) → C p' fs' mu') R.h (itb_ls hla) ‹_› (fun _ K => K _ _ (by simpa using hfu)) ?_ ?_
    · intro j p11 fs11 mu11 c2 v s12 hj l11 J hv
      apply J
      clear J
      intro fu o3 hfu
      apply ints_el hls hv
      intro n tn hn
      intro H
      have hnm : n ∈ ls := List.mem_of_getElem? hn
      obtain ⟨hn0, hn1⟩ := hlb n hnm
      have hft := filt_take (f := notIn (ddp lst)) (g := ftl wd2) hn
      have zfu : fu.length ≤ 1000 := by
        rw [strs_len hfu, List.length_append, List.length_map]
        have e1 := List.length_filter_le (notIn (ddp lst)) (ls.take j)
        have e2 : (ls.take j).length ≤ ls.length := List.length_take_le' _ _
        omega
      walk_at "g"
      refine r_notin (rd_p ‹_› hkl) hkn ?_
      cases hb : (ddp lst).any (· == n) with
      | true =>
        have hni : notIn (ddp lst) n = false := by rw [notIn, hb]; rfl
        rw [hni] at hft
        walk_at "g"
        exact turn_of Le.rfl (fun _ K => K fu _ (by rw [hft]; simpa using hfu)) ‹_›
      | false =>
        have hni : notIn (ddp lst) n = true := by rw [notIn, hb]; rfl
        rw [hni] at hft
        walk_at "g"
        refine m_append (rd_m ‹_› (by walk_at "mem")) ?_
        walk_at "g"
        refine r_sadd ‹_› (by have e : ((" tells " : Str)).length = 7 := by decide
                              omega) ?_
        intro t13 s13 H
        walk_at "g"
        refine r_str_int ‹_› hn0 hn1 ?_
        intro t14 s14 H
        have el := istr_len hn0 hn1
        refine r_sadd H (by rw [PySem.Str.length_append]; have e : ((" tells " : Str)).length = 7 := by decide
                            omega) ?_
        intro t15 s15 H
        walk_at "g"
        refine r_sadd ‹_› (by rw [PySem.Str.length_append, PySem.Str.length_append]; have e : ((" tells " : Str)).length = 7 := by decide
                              have e2 : ((", which is not listed" : Str)).length = 21 := by decide
                              omega) ?_
        intro t16 s16 H
        walk_at "g"
        refine r_append ‹_› (by walk_at "upd") (Nat.le_trans zfu (Nat.le_of_ble_eq_true rfl)) ?_
        intro s17 H
        walk_at "g"
        refine turn_of Le.rfl (fun _ K => K _ _ ?_) ‹_›
        rw [hft, ← List.append_assoc]
        exact strs_snoc hfu _ _
    · intro p11 fs11 mu11 s12 l11 J
      apply J
      intro fu o3 hfu H
      have et : ls.take lu.length = ls := by rw [hls.length]; exact List.take_length
      rw [et, ← hnext] at hfu
      walk_at "g"
      exact turn_of Le.rfl (fun _ K => K fu _ _ _ hfu) ‹_›
  · intro p10 fs10 mu10 s10 l10 J
    apply J
    intro fu o1 o2 o3 hfu H
    clear J l10 p10 fs10 mu10
    walk_at "g"
    refine x_for ?_
    walk_at "g"
    have l410 := l49
    have S := S.mono l49
    have l04 := l2.trans l4
    refine starting T ‹_› R hkl hkn (hcfi.mono l49) D.bs (Nat.le_trans (ddp_length _) (Nat.le_trans D.lz (by have := D.mz; omega))) (Nat.le_trans D.oz (by have := D.mz; omega)) (Nat.le_trans D.zz.1 (by omega)) ?_
    intro sd s11 los H
    refine St.fz H ?_
    intro p11 l11 hsd H
    have T := T.mono l11
    have S := S.mono l11
    have C := C.mono l11
    have l411 := l49.trans l11
    walk_at "g"
    refine c_crowded T ‹_› R hsd los (boolVals_start _ _ _ _) C rfl (hrad.mono l411) (rr1.mono l411) rr2 (Nat.le_trans (ddp_length _) (Nat.le_trans D.zz.2.2 (by omega))) ?_
    intro ca cu s12 hcu H
    refine St.fz H ?_
    intro p12 l12 hca H
    have T := T.mono l12
    have S := S.mono l12
    have C := C.mono l12
    have l412 := l411.trans l12
    generalize hcr : crowded (startS (base != "OFF") (ddp lst) (ddp ons) (ddp offs)) (ddp rbs) = cr at *
    have hcr0 : cr.length ≤ 1 ∧ ∀ n ∈ cr, n = 0 := by
      rw [← hcr]; unfold crowded
      split
      · exact ⟨Nat.le_refl _, fun n h => List.mem_singleton.mp h⟩
      · exact ⟨Nat.zero_le _, fun n h => nomatch h⟩
    obtain ⟨F3, hF3⟩ : ∃ F3, F3 = (((ddp ons).filter (notIn (ddp lst))).map (ftl "ON") ++ ((ddp offs).filter (notIn (ddp lst))).map (ftl "OFF")) ++ ((ddp lks).filter (notIn (ddp lst))).map (ftl "Locked") := ⟨_, rfl⟩
    have hfu : StrsAre fu F3 := by rw [hF3]; exact hfu
    have zF3 : F3.length ≤ 600 := by
      have hlen : ∀ (l : List Int) (f : Int → Bool) (g : Int → Str), ((l.filter f).map g).length ≤ l.length := fun l f g => by rw [List.length_map]; exact List.length_filter_le _ _
      rw [hF3, List.length_append, List.length_append]
      have h1 := hlen (ddp ons) (notIn (ddp lst)) (ftl "ON")
      have h2 := hlen (ddp offs) (notIn (ddp lst)) (ftl "OFF")
      have h3 := hlen (ddp lks) (notIn (ddp lst)) (ftl "Locked")
      omega
    refine for_go (I := fun i p' fs' mu' => ∀ C : Heap → List (Str × Option Value) → List Cell → Prop, (∀ fu o4, StrsAre fu (F3 ++ (cr.take i).map ftr) → C p12 [("shelf", some (.ref sh)), ("config", some (.ref cf)), ("faults", some (.ref fa)), ("word", o1), ("numbers", o2), ("number", o3), ("spot", o4), ("listed", none), ("fault", none)] ((fa, LsP fu) :: (cc, CellP (some (.ref kn))) :: mu)) → C p' fs' mu') R.h (itb_ls hca) ‹_› (fun _ K => K fu _ (by simpa using hfu)) ?_ ?_
    · intro i p13 fs13 mu13 c v s13 hi l13 J hv
      apply J
      clear J
      intro fu o4 hfu
      apply ints_el hcu hv
      intro n tn hn
      intro H
      have hn0 := hcr0.2 n (List.mem_of_getElem? hn)
      subst hn0
      have zfu : fu.length ≤ 1000 := by
        rw [strs_len hfu, List.length_append, List.length_map]
        have e2 : (cr.take i).length ≤ cr.length := List.length_take_le' _ _
        have := hcr0.1
        omega
      walk_at "g"
      refine m_append (rd_m ‹_› (by walk_at "mem")) ?_
      walk_at "g"
      refine r_str_int ‹_› (by decide) (by decide) ?_
      intro t14 s14 H
      refine r_sadd H (by have e : (("more than one group is on in the row " : Str)).length = 37 := by decide
                          have := istr_len (a := 0) (by decide) (by decide)
                          omega) ?_
      intro t15 s15 H
      walk_at "g"
      refine r_append ‹_› (by walk_at "upd") (Nat.le_trans zfu (Nat.le_of_ble_eq_true rfl)) ?_
      intro s17 H
      walk_at "g"
      refine turn_of Le.rfl (fun _ K => K _ _ ?_) ‹_›
      rw [take_snoc hn, List.map_append, ← List.append_assoc]
      exact strs_snoc hfu _ _
    · intro p13 fs13 mu13 s13 l13 J
      apply J
      intro fu o4 hfu H
      clear J l13 p13 fs13 mu13
      have et : cr.take cu.length = cr := by rw [hcu.length]; exact List.take_length
      rw [et] at hfu
      have zfu : fu.length ≤ 1000 := by
        rw [strs_len hfu, List.length_append, List.length_map]
        have := hcr0.1
        omega
      have l0 := l04.trans l412
      walk_at "g"
      refine x_try ?_
      have h90 : valueAt kvs 90 = none := D.kout 90 (by have := D.mz; omega)
      refine x_comp (σ := σ) he (ko hs (by kernel_rfl)) rfl (by walk_at "caps") (by kernel_rfl) rfl (fun _ => rfl) (fun _ _ => rfl) R.h ?_
      have I := S.I
      walk_at "g"
      refine S.c.c.c.order_rows T ‹_› (R.less (by omega)) (od1.mono l0) ((od3.mono l0).ext D.k0) h90 (by omega) (Nat.le_trans D.rz (by have := D.mz; omega)) ?_
      intro ol ou p14 s14 l14 hou H
      refine St.fz H ?_
      intro p15 l15 hol H
      have T := T.mono (l14.trans l15)
      have S := S.mono (l14.trans l15)
      have hou := hou.mono l15
      have erz := D.rz
      have emz := D.mz
      refine xcomp_of (J := fun i vs p' cf' fs' mu' => ∀ C : Heap → List (Str × Option Value) → List (Str × Option Value) → List Cell → Prop, (∀ o5, IntsAre vs (rowsG (rows.take i)) → C p15 [(".0", none), ("row", o5)] _ _) → C p' cf' fs' mu') (itb_ls hol) H (fun _ K => K none IntsAre.nil) ?_ ?_
      · intro env' CE i vs p' cf' fs' mu' c acc v s16 hi l16 J hv
        apply J
        clear J l16 p' cf' fs' mu'
        intro o5 hvs H
        obtain ⟨r, hr, hra⟩ := hou.at hv
        have zvs : vs.length ≤ 1000 := by
          rw [hvs.length]
          have e1 := rowsG_len (rows.take i)
          have e2 : (rows.take i).length ≤ rows.length := List.length_take_le' _ _
          omega
        refine ⟨Nat.le_trans zvs (Nat.le_of_ble_eq_true rfl), ?_⟩
        have he := CE.ok
        have et : rowsG (rows.take (i + 1)) = rowsG (rows.take i) ++ rowsG [r] := by rw [take_snoc hr, rowsG_app]
        cases hra with
        | @grp a d n t1 t2 t3 e =>
          walk_at "g"
          refine t_one ?_
          walk_at "g"
          refine sub_tup ‹_› e (by decide) (by decide) rfl rfl ?_
          walk_at "g"
          rw [show (("group" : Str) == "group") = true from by decide]
          walk_at "g"
          refine sub_tup ‹_› e (by decide) (by decide) rfl rfl ?_
          exact ctx_of Le.rfl (fun _ K => K _ (by rw [et]; exact ints_snoc hvs n _)) ‹_›
        | @lab a d o t1 t2 t3 e =>
          walk_at "g"
          refine t_one ?_
          walk_at "g"
          refine sub_tup ‹_› e (by decide) (by decide) rfl rfl ?_
          walk_at "g"
          rw [show (("label" : Str) == "group") = false from by decide]
          walk_at "g"
          exact ctx_of Le.rfl (fun _ K => K _ (by rw [et]; show IntsAre vs (rowsG (rows.take i) ++ []); rw [List.append_nil]; exact hvs)) ‹_›
      · intro vs p' cf' fs' mu' acc l16 J
        apply J
        clear J l16 p' cf' fs' mu'
        intro o5 hvs
        have et : rows.take ou.length = rows := by rw [hou.length]; exact List.take_length
        rw [et] at hvs
        refine ⟨_, by walk_at "put", ?_⟩
        intro s16 H
        refine St.fz2 H ?_
        intro p17 l17 hlist H
        have T := T.mono l17
        have hkl := hkl.mono (l11.trans (l12.trans (l14.trans (l15.trans l17))))
        have zG : (rowsG rows).length ≤ 600 := Nat.le_trans (rowsG_len rows) (by omega)
        walk_at "g"
        refine m_extend (rd_m ‹_› (by walk_at "mem")) ?_
        walk_at "g"
        refine e_comp (σ := σ) he (by walk_at "caps") (by kernel_rfl) rfl (fun _ => rfl) (fun _ _ => rfl) R.h ?_
        walk_at "g"
        refine comp_of (J := fun i us p' cf' mu' => ∀ C : Heap → List (Str × Option Value) → List Cell → Prop, (∀ o6, StrsAre us ((((rowsG rows).take i).filter (notIn (ddp lst))).map fto) → C p17 [(".0", none), ("number", o6)] _) → C p' cf' mu') (itb_ls hlist) ‹_› (fun _ K => K none StrsAre.nil) ?_ ?_
        · intro env' CE i us p' cf' mu' c acc2 v s18 hi l18 J hv
          apply J
          clear J l18 p' cf' mu'
          apply ints_el hvs hv
          intro n tn hn
          intro o6 hus H
          have hnb := D.gb n (List.mem_of_getElem? hn)
          have hft := filt_take (f := notIn (ddp lst)) (g := fto) hn
          have zus : us.length ≤ 1000 := by
            rw [strs_len hus, List.length_map]
            have e1 := List.length_filter_le (notIn (ddp lst)) ((rowsG rows).take i)
            have e2 : ((rowsG rows).take i).length ≤ (rowsG rows).length := List.length_take_le' _ _
            omega
          refine ⟨Nat.le_trans zus (Nat.le_of_ble_eq_true rfl), ?_⟩
          have hcn' := CE.cn "known" cc rfl rfl (by decide) (by decide)
          have G_str' : GN env' mg mb "str" (.type "str") := ⟨CE.kn _ .globalImplicit (by decide) rfl, gl_gstr T, by decide⟩
          have gl : env'.globals = env.globals := CE.ok.g.trans he.g.symm
          have he := CE.ok
          walk_at "g"
          refine t_one ?_
          walk_at "g"
          refine r_notin (rd_p ‹_› hkl) hkn ?_
          cases hb : (ddp lst).any (· == n) with
          | true =>
            have hni : notIn (ddp lst) n = false := by rw [notIn, hb]; rfl
            rw [hni] at hft
            walk_at "g"
            exact ct_of Le.rfl (fun _ K => K _ (by rw [hft]; simpa using hus)) ‹_›
          | false =>
            have hni : notIn (ddp lst) n = true := by rw [notIn, hb]; rfl
            rw [hni] at hft
            walk_at "g"
            refine r_str_int ‹_› hnb.1 (by omega) ?_
            intro t20 s20 H
            have el := istr_len hnb.1 (by omega : n < 1000)
            refine r_sadd H (by have e : (("Order tells " : Str)).length = 12 := by decide
                                omega) ?_
            intro t21 s21 H
            walk_at "g"
            refine r_sadd ‹_› (by rw [PySem.Str.length_append]; have e : (("Order tells " : Str)).length = 12 := by decide
                                  have e2 : ((", which is not listed" : Str)).length = 21 := by decide
                                  omega) ?_
            intro t22 s22 H
            exact ct_of Le.rfl (fun _ K => K _ (by rw [hft]; exact strs_snoc hus _ _)) H
        · intro us p' cf' mu' acc2 s18 l18 J
          apply J
          clear J l18 p' cf' mu'
          intro o6 hus H
          have et : (rowsG rows).take vs.length = rowsG rows := by rw [hvs.length]; exact List.take_length
          rw [et] at hus
          have H := H.swap
          walk_at "g"
          refine r_extend ‹_› (rd_m ‹_› (by walk_at "mem")) (by walk_at "upd") (Nat.le_trans (m := 3000) ?_ (Nat.le_of_ble_eq_true rfl)) ?_
          · rw [strs_len hus, List.length_map]
            have e1 := List.length_filter_le (notIn (ddp lst)) (rowsG rows)
            omega
          intro s19 H
          have H := H.drop2
          walk_at "g"
          refine h fa _ _ _ (l0.trans ((l14.trans l15).trans l17)) ?_ (St.drop2 (St.drop ‹_›))
          have := strs_app hfu hus
          rw [hF3] at this
          exact this
theorem all (x : eT) : eP x := eps (show eP ec by with_unfolding_all exact main) x
end layer_faults_E
theorem layer_faults {prog : Program} {w : World} {A : Around} {E : Value → Shared → Prop} {σ s : Shared} {p : Heap} {mu : List Cell} {mg mb : Str → Option Value} {sh TB TR : Addr} {kvs kv0 : List (Int × Value)} {m : Nat} {rn : Int} {tk rk hk fk : List (Str × Value)} {rd hd fd ord : Addr} {lst ons offs lks rbs : List Int} {base : Str} {rows : Rws} {k : Nat} {Q : Value → Shared → Prop} : layer_faults_E.eS prog w A E σ s p mu mg mb sh TB TR kvs kv0 m rn tk rk hk fk rd hd fd ord lst ons offs lks rbs base rows k Q :=
  layer_faults_E.all (prog, w, A, E, σ, s, p, mu, mg, mb, sh, TB, TR, kvs, kv0, m, rn, tk, rk, hk, fk, rd, hd, fd, ord, lst, ons, offs, lks, rbs, base, rows, k, Q)
section
end
theorem St.absorb {σ : Shared} {p : Heap} {mu : List Cell} {s : Shared} (H : St σ p mu s) {a : Addr} {o : Obj} (e : s.heap.get? a = some o) (hf : o.isFreed = false) (hn : ∀ q ∈ mu, q.1 ≠ a) : ∃ p', Le p p' ∧ p'.get? a = some o ∧ St σ p' mu s := by
  refine ⟨addAt p a o, fun b x q => ?_, by rw [addAt_get _ _ _ hf, if_pos rfl], fun b x q => ?_, fun q m => ?_, H.nd, H.gens, H.drawn, H.os⟩
  · rw [addAt_get _ _ _ hf]
    by_cases z : b = a
    · rw [if_pos z]; have := H.keep _ _ q; rw [z, e] at this; exact this
    · rw [if_neg z]; exact q
  · rw [addAt_get _ _ _ hf] at q
    by_cases z : b = a
    · rw [if_pos z] at q; cases q; rw [z]; exact e
    · rw [if_neg z] at q; exact H.keep _ _ q
  · have hm := H.own q m
    refine ⟨hm.1, ?_⟩
    rw [addAt_get _ _ _ hf, if_neg (hn q m)]
    exact hm.2
section
variable {prog : Program} {w : World} {A : Around} {E : Value → Shared → Prop} {σ s : Shared} {p : Heap} {mu mu' : List Cell} {env : Env} {fs fs' : List (Str × Option Value)} {K : Frag} {mg mb : Str → Option Value} {rest : List Stmt}
noncomputable def BM (mg : Str → Option Value) (p : Heap) : Prop := ∃ bm ob, mg "__builtins__" = some (.ref bm) ∧ bm ≠ builtinsNs ∧ p.get? bm = some ob ∧ ob.cls = .type "module" ∧ ob.dict = some builtinsNs ∧ ob.data = .plain
theorem BM.mono {p' : Heap} (x : BM mg p) (l : Le p p') : BM mg p' := let ⟨a, b, c, d, e, r⟩ := x; ⟨a, b, c, d, l _ _ e, r⟩
theorem x_nestdef {name : Str} {params : Arguments} {body : List Stmt} {scope : Scope} {pos : Pos} {c P : Addr} {clos : List (Str × Addr)} {Q : Flow → Shared → Prop}
    (T : Tp K mg mb p) (B : BM mg p) (he : EnvOk env) (H : St σ p mu s) (u : CUpd P (· = tabObj #[]) (fun o => ∃ ps, o = tabObj ps) mu mu') (C : CodeHd p c P) (hcode : env.code = .ref c) (hcl : closureFor scope env = pure clos)
    (hd0 : params.defaults = []) (hk0 : params.kw_defaults = []) (ha : annTrees params none env = [])
    (h : ∀ f c' ctv doc p' s', Le p p' → p'.get? f = some (fnMade name (qualnameIn env name name) params body scope clos doc ((mg "__name__").getD .none) c' ctv) → p'.CodeRec (.ref c') (qualnameIn env name name) → St σ p' mu' s' →
      wpAny (model prog w) A (storeName env name (.ref f)) (fun _ s'' => wpAny (model prog w) A (execs rest env) Q E s'') E s') :
    wpAny (model prog w) A (execs (.FunctionDef name params body [] none [] scope none name pos :: rest) env) Q E s := by
  refine x_next (nestDef_K hd0 hk0 ha ?_)
  obtain ⟨oP, hP, rfl⟩ := (H.own _ u.mem).1
  have hPn := (H.own _ u.mem).2
  have hgs := T.g.keeps H.keep
  obtain ⟨bm, ob, b1, b2, b3, b4, b5, b6⟩ := B
  have hgP : mainGlobals ≠ P := fun q => by
    obtain ⟨o, es, ep, e, hd, _⟩ := hgs
    rw [q, hP] at e; cases e; cases hd
  have b3' := H.keep _ _ b3
  have hbP : bm ≠ P := fun q => by
    rw [q, hP] at b3'; cases b3'; cases b4
  have hbG : bm ≠ mainGlobals := fun q => by
    obtain ⟨o, es, ep, e, hd, _⟩ := T.g
    rw [q, e] at b3; cases b3; rw [hd] at b6; cases b6
  refine makeFunction_K (mg := mg) hcl he.g hgs hcode (C.keeps H.keep) hP trivial rfl hgP ⟨bm, ob, b1, b2, hbG, hbP, b3', b4, b5, b6⟩ fun c' ctv doc h' tk hx hge hlt hrec htb => ?_
  have H1 : St σ p mu' { s with heap := h', toks := tk } := St.setX (s' := { s with heap := h', toks := tk }) H u hx ⟨_, htb, _, rfl⟩
  obtain ⟨c₂, oc, vs, t, e2, hoc, hd, hv⟩ := hrec
  cases e2
  have hlow : ∀ q ∈ mu', q.1 < s.heap.objs.size := fun q hq => by
    have : q.1 ∈ mu.map (·.1) := by rw [← u.keys]; exact List.mem_map_of_mem hq
    obtain ⟨q', hq', e⟩ := List.mem_map.mp this
    obtain ⟨⟨o, e3, _⟩, _⟩ := H.own q' hq'
    rw [← e]; exact Heap.lt_size e3
  obtain ⟨p1, l1, hc1, H2⟩ := H1.absorb (a := c') (o := oc) hoc (by obtain ⟨_, _, d, _⟩ := oc; cases hd; rfl) (fun q hq => Nat.ne_of_lt (Nat.lt_of_lt_of_le (hlow q hq) hge))
  obtain ⟨p2, l2, hf2, H3⟩ := H2.allocP (fnMade name (qualnameIn env name name) params body scope clos doc ((mg "__name__").getD .none) c' ctv)
  exact wpAny_mono (h _ c' ctv doc p2 _ (l1.trans l2) hf2 ⟨c', oc, vs, t, rfl, l2 _ _ hc1, hd, hv⟩ H3) (fun _ _ q => ⟨rfl, q⟩) fun _ _ q => q
end
section
variable {prog : Program} {w : World} {A : Around} {E : Value → Shared → Prop} {σ s : Shared} {p : Heap} {mu mu' : List Cell} {K : Frag} {mg mb : Str → Option Value}
theorem enterF {fd : FuncData} {oc : Value} {od : Option Addr} {osl : Array (Option Value)} {f : Addr} {body : List Stmt} {args : Args} {binds : List (Str × Value)} {fs : List (Str × Option Value)} {k : Nat} {Q : Value → Shared → Prop}
    (T : Tp K mg mb p) (H : St σ p mu s) (R : Rm A (k + 1)) (ho : p.get? f = some ⟨oc, od, .func fd, osl⟩) (hcd : p.CodeRec fd.code fd.qualname) (hbody : fd.body = .stmts body) (g1 : fd.globals = mainGlobals) (g2 : fd.builtins = builtinsNs)
    (hsc : scopeOk fd.scope = true) (nc : ∀ x ∈ fd.scope.names, x.2 ≠ .cell) (hbind : bindArgs fd args = pure binds) (hl : ∀ x ∈ binds, fd.scope.names.lookup x.1 = some .local)
    (hm : ∀ x v, (x, some v) ∈ fs → binds.reverse.lookup x = some v) (hn : (fs.map (·.1)).Nodup) (hk : ∀ q ∈ fs, fd.scope.names.lookup q.1 = some .local)
    (h : ∀ A env s', env.scope = fd.scope → EnvOk env → env.cells = fd.closure → St σ p ((env.locals, FrameP env fs) :: mu) s' → Rm A k →
      wpAny (model prog w) A (execs body env) (fun fl s' => Q (retv fl) s') NE s') :
    codeAny (model prog w) A (.call (.ref f) args) (RQ Q) s := by
  obtain ⟨nd, lk, kf, kc, kg⟩ := scopeOk_is hsc
  refine codeAny_call_function (fd := fd) (body := body) (by have := R.d; omega) (H.keep _ _ ho) rfl kc kg hbody (hcd.keeps H.keep) ?_
  refine BindsTo.of_eq hbind _ _ _ _ ?_
  refine wpAny_newFunctionEnv nc hl (fun h' hns hsb => ?_) kf
  generalize henv : newEnv fd.scope s.heap.objs.size fd.globals fd.closure (fd.qualname ++ ".<locals>.") (some f) fd.code none fd.builtins = env
  have eL : env.locals = s.heap.objs.size := by rw [← henv]; rfl
  have eS : env.scope = fd.scope := by rw [← henv]; rfl
  have eC : env.cells = fd.closure := by rw [← henv]; rfl
  have eG : env.globals = fd.globals := by rw [← henv]; rfl
  have eB : env.builtins = fd.builtins := by rw [← henv]; rfl
  have H' : St σ p ((env.locals, FrameP env fs) :: mu) { s with heap := h', toks := s.toks + binds.length } := by
    have H5 := H.alloc { cls := .type "frame", data := .dict #[] } (fun _ => True) trivial
    rw [eL]
    refine St.toks (St.set (s := { s with heap := s.heap.push { cls := .type "frame", data := .dict #[] } }) (s' := { s with heap := h' }) H5 .head hsb ?_) _
    exact FrameP.of hns (fun x v hx => hm x v hx) ⟨hn, fun q hq => by show env.scope.names.lookup _ = _; rw [eS]; exact hk q hq, by rw [eS]; exact kf⟩
  refine ⟨(T.lim.keeps H'.keep), ?_⟩
  refine codeAny_func (wpAny_mono (h _ env _ eS ⟨by rw [eS]; exact kf, eG.trans g1, eB.trans g2⟩ eC H' R.deeper) (fun fl s' q => ?_) fun _ _ q => q.elim)
  cases fl <;> exact ⟨_, rfl, q⟩
theorem enterC {f : Addr} {body : List Stmt} {args : Args} {binds : List (Str × Value)} {fs cs : List (Str × Option Value)} {k : Nat} {Q : Value → Shared → Prop}
    (T : Tp K mg mb p) (H : St σ p mu s) (R : Rm A (k + 1)) (D : DefOk K f body) (hbind : bindArgs (fdOf K f) args = pure binds) (hb : bindOk (fdOf K f).scope binds = true)
    (hfs : mkFs (fdOf K f).scope binds = fs) (hcs : mkCs (fdOf K f).scope binds = cs)
    (h : ∀ env s' cl, env.code = (fdOf K f).code ∧ env.frame = some env.locals → env.scope = (fdOf K f).scope → EnvOk env → CellsOn env cs cl → St σ p ((env.locals, FrameP env fs) :: (cl ++ mu)) s' → Rm (A.deeper env) k →
      wpAny (model prog w) (A.deeper env) (execs body env) (fun fl s' => Q (retv fl) s') NE s') :
    codeAny (model prog w) A (.call (.ref f) args) (RQ Q) s := enterB T H R D (BindsTo.of_eq hbind) hb hfs hcs h
end
section
variable {prog : Program} {w : World} {A : Around} {E : Value → Shared → Prop} {σ s : Shared} {p : Heap} {mu mu' : List Cell} {mg mb : Str → Option Value} {K : Frag}
variable {sh TB TR : Addr} {kvs kv0 kv1 : List (Int × Value)}
theorem rd_l {l : Addr} {vs : List Value} (H : St σ p mu s) (x : p.IsList l vs.toArray) : s.heap.IsList l vs.toArray := let ⟨o, e, r⟩ := x; ⟨o, H.keep _ _ e, r⟩
noncomputable def PlP (B : Nat) (o : Obj) : Prop := ∃ k : Nat, ∃ t n, k ≤ B ∧ o.cls = .type "list" ∧ o.data = .seq #[.int k t] n
noncomputable def tkStm : Stmt := ((bodyOf (stm 40))[3]?).getD (.Pass default)

theorem PlP.of {o : Obj} {t : Tok} (h : LsP [.int 0 t] o) : PlP 0 o := by
  obtain ⟨n, e⟩ := h
  exact ⟨0, t, n, Nat.le_refl _, by rw [e], by rw [e]; rfl⟩
noncomputable def fdParams : Stmt → Option Arguments
  | .FunctionDef _ a _ _ _ _ _ _ _ _ => some a
  | _ => none
noncomputable def fdScope : Stmt → Option Scope
  | .FunctionDef _ _ _ _ _ _ sc _ _ _ => some sc
  | _ => none
noncomputable def TkI (p : Heap) (f pl : Addr) : Prop := ∃ c' ctv doc pm qual c1 c2 ca cv cn a sc, fdParams tkStm = some a ∧ fdScope tkStm = some sc ∧
  p.get? f = some (fnMade "take" qual a (bodyOf tkStm) sc [("place", c2), ("cells", c1)] doc pm c' ctv) ∧ p.CodeRec (.ref c') qual ∧
  Pt p c1 (CellP (some (.ref ca))) ∧ Pt p c2 (CellP (some (.ref pl))) ∧ Pt p ca (LsP cv) ∧ IntsAre cv cn ∧ 1 ≤ cn.length ∧ cn.length ≤ 63
theorem TkI.mono {p' : Heap} {f pl : Addr} (x : TkI p f pl) (l : Le p p') : TkI p' f pl := by
  obtain ⟨c', ctv, doc, pm, qual, c1, c2, ca, cv, cn, a, sc, e1, e2, e3, ⟨c, oc, vs, t, q1, q2, q3, q4⟩, e5, e6, e7, e8⟩ := x
  exact ⟨c', ctv, doc, pm, qual, c1, c2, ca, cv, cn, a, sc, e1, e2, l _ _ e3, ⟨c, oc, vs, t, q1, l _ _ q2, q3, q4⟩, e5.mono l, e6.mono l, e7.mono l, e8⟩
theorem c_taker {k : Nat} {sc : Addr} {vals : List Value} {ns : List Int} {Q : Value → Shared → Prop} (T : Tp (KK w) mg mb p) (B : BM mg p) (H : St σ p mu s) (R : Rm A (k + 2)) (C : CodeHd p 509 505)
    (hsl : p.IsList sc vals.toArray) (hI : IntsAre vals ns) (hz : vals.length ≤ 63) (u : CUpd 505 (· = tabObj #[]) (fun o => ∃ ps, o = tabObj ps) mu mu')
    (h : ∀ f pl p' s', Le p p' → TkI p' f pl → St σ p' ((pl, PlP 0) :: mu') s' → Q (.ref f) s') :
    wpAny (model prog w) A (call (.ref 510) [.ref sc]) Q E s := by
  refine call_of (enterC (fs := [("script", some (.ref sc)), ("take", none)]) (cs := [("cells", none), ("place", none)]) (binds := [("script", .ref sc)]) T H R d510 (by kernel_rfl) (by kernel_rfl) (by kernel_rfl) (by kernel_rfl) ?_)
  intro env s1 cl hcf hs he hcl H R
  cases hcl with
  | @cons _ _ c1 _ _ hckC hclC hcl =>
  cases hcl with
  | @cons _ _ c2 _ _ hckP hclP hcl =>
  cases hcl
  have hcnC : CN env "cells" c1 := ⟨he.kind, .inr hckC, hclC, by decide, by decide⟩
  have hcnP : CN env "place" c2 := ⟨he.kind, .inr hckP, hclP, by decide, by decide⟩
  simp only [List.cons_append, List.nil_append] at H
  refine x_assign ?_
  walk_at "g"
  refine upto_of 63 (rd_l ‹_› hsl) (Nat.le_trans hz (Nat.le_of_ble_eq_true rfl)) ‹_› ?_
  intro ca s2 H
  rw [List.take_of_length_le hz] at H
  refine St.fz H ?_
  intro p2 l2 hca H
  have T := T.mono l2
  walk_at "g"
  refine st_cell he.kind hckC hclC ‹_› (.tail .head) ?_
  intro s3 H
  refine x_if ?_
  walk_at "g"
  refine r_newList ‹_› (Nat.zero_le _) ?_
  intro e0 s4 H
  have H4 := H.swap
  clear H
  cases vals with
  | nil =>
    refine r_leq_same (rd_p ‹_› hca) (rd_m H4 (by walk_at "mem")) rfl (fun j v u e => by cases e) R.cl ?_
    have H := H4.drop2
    walk_at "g"
    refine r_newList ‹_› (Nat.le_of_ble_eq_true rfl) ?_
    intro ca1 s5 H
    refine St.fz H ?_
    intro p5 l5 hca1 H
    have T := T.mono l5
    walk_at "g"
    refine st_cell he.kind hckC hclC ‹_› (.tail .head) ?_
    intro s6 H
    walk_at "g"
    walk_at "g"
    refine r_newList ‹_› (Nat.le_of_ble_eq_true rfl) ?_
    intro pl s20 H
    have H := H.swap
    have H := H.perm (List.Perm.cons _ (List.Perm.trans (List.Perm.swap _ _ _) (List.Perm.cons _ (List.Perm.swap _ _ _))))
    walk_at "g"
    refine st_cell he.kind hckP hclP ‹_› (.tail (.tail .head)) ?_
    intro s21 H
    have H := H.perm (List.Perm.trans (List.Perm.swap _ _ _) (List.Perm.cons _ (List.Perm.swap _ _ _)))
    refine St.fz H ?_
    intro p22 l22 hc1 H
    refine St.fz H ?_
    intro p23 l23 hc2 H
    have T := T.mono (l22.trans l23)
    have l0 := (l2.trans l5).trans (l22.trans l23)
    refine x_nestdef T (B.mono l0) he H (.tail (.tail u)) (C.keeps l0) (hcf.1.trans (by kernel_rfl)) (Caps.closure (by walk_at "caps")) rfl rfl rfl ?_
    intro f c' ctv doc p24 s24 l24 hf hcr H
    walk_at "g"
    refine h f pl p24 _ (l0.trans l24) ?_ ((St.drop ‹_›).weak .head fun o ho => PlP.of ho)
    exact ⟨c', ctv, doc, _, _, c1, c2, ca1, _, [1], _, _, rfl, rfl, hf, hcr, hc1.mono (l23.trans l24), hc2.mono l24, (hca1).mono (l22.trans (l23.trans l24)), .cons 1 _ .nil, by decide, by decide⟩
  | cons v0 vr =>
    refine r_leq_len (rd_p ‹_› hca) (rd_m H4 (by walk_at "mem")) (by simp) R.cl ?_
    have H := H4.drop2
    walk_at "g"
    walk_at "g"
    refine r_newList ‹_› (Nat.le_of_ble_eq_true rfl) ?_
    intro pl s20 H
    have H := H.swap
    have H := H.perm (List.Perm.cons _ (List.Perm.trans (List.Perm.swap _ _ _) (List.Perm.cons _ (List.Perm.swap _ _ _))))
    walk_at "g"
    refine st_cell he.kind hckP hclP ‹_› (.tail (.tail .head)) ?_
    intro s21 H
    have H := H.perm (List.Perm.trans (List.Perm.swap _ _ _) (List.Perm.cons _ (List.Perm.swap _ _ _)))
    refine St.fz H ?_
    intro p22 l22 hc1 H
    refine St.fz H ?_
    intro p23 l23 hc2 H
    have T := T.mono (l22.trans l23)
    have l0 := l2.trans (l22.trans l23)
    refine x_nestdef T (B.mono l0) he H (.tail (.tail u)) (C.keeps l0) (hcf.1.trans (by kernel_rfl)) (Caps.closure (by walk_at "caps")) rfl rfl rfl ?_
    intro f c' ctv doc p24 s24 l24 hf hcr H
    walk_at "g"
    refine h f pl p24 _ (l0.trans l24) ?_ ((St.drop ‹_›).weak .head fun o ho => PlP.of ho)
    exact ⟨c', ctv, doc, _, _, c1, c2, ca, _, ns, _, _, rfl, rfl, hf, hcr, hc1.mono (l23.trans l24), hc2.mono l24, (hca).mono (l22.trans (l23.trans l24)), hI, by rw [← hI.length]; simp, by rw [← hI.length]; exact hz⟩
end
noncomputable def tkSc : Scope := ((fdScope tkStm).getD { kind := .function, names := [], isGenerator := false, isCoroutine := false })
noncomputable def tkAr : Arguments := (fdParams tkStm).getD default
section
variable {prog : Program} {w : World} {A : Around} {E : Value → Shared → Prop} {σ s : Shared} {p : Heap} {mu mu' : List Cell} {mg mb : Str → Option Value} {K : Frag} {env : Env} {fs : List (Str × Option Value)}
theorem r_cellp {x : Str} {c : Addr} {v : Value} {pos : Pos} {Q : Value → Shared → Prop} (C : CN env x c) (H : St σ p mu s) (m : Pt p c (CellP (some v))) (h : Q v s) : wpAny (model prog w) A (eval (.Name x pos) env) Q E s := by
  obtain ⟨k, k1, k2, k3, k4⟩ := C
  refine wpAny_Name ?_ k3
  rcases k1 with k1 | k1
  · exact wpAny_loadName_free k k1 k2 (rd_p H m) h k4
  · exact wpAny_loadName_cell k k1 k2 (rd_p H m) h
theorem r_mul {a b : Int} {t u : Tok} {Q : Value → Shared → Prop} (H : St σ p mu s) (hm : IntMulOk a b) (h : ∀ t' s', St σ p mu s' → Q (.int (a * b) t') s') : wpAny (model prog w) A (binaryOp .Mult (.int a t) (.int b u)) Q E s := PyProof.Rows.mul_int (h _ _ (H.toks _)) hm
theorem r_fdiv {a b : Int} {t u : Tok} {Q : Value → Shared → Prop} (H : St σ p mu s) (hb : b ≠ 0) (hp : b.natAbs.log2 < 9000) (h : ∀ t' s', St σ p mu s' → Q (.int (a.fdiv b) t') s') : wpAny (model prog w) A (binaryOp .FloorDiv (.int a t) (.int b u)) Q E s := PyProof.Rows.floordiv_int hb (h _ _ (H.toks _)) (.inl (PyProof.noPylong_of_log2 hp))
theorem r_mod {a b : Int} {t u : Tok} {Q : Value → Shared → Prop} (H : St σ p mu s) (hb : b ≠ 0) (h : ∀ t' s', St σ p mu s' → Q (.int (a.fmod b) t') s') : wpAny (model prog w) A (binaryOp .Mod (.int a t) (.int b u)) Q E s := PyProof.Rows.mod_int hb (h _ _ (H.toks _))
theorem r_pow {a n : Int} {t u : Tok} {Q : Value → Shared → Prop} (H : St σ p mu s) (hn : 0 ≤ n) (hn2 : n ≤ 1000000) (ha : a.natAbs < 2 ^ 64) (h : ∀ t' s', St σ p mu s' → Q (.int (a ^ n.toNat) t') s') : wpAny (model prog w) A (binaryOp .Pow (.int a t) (.int n u)) Q E s := PyProof.Rows.pow_int_small hn hn2 ha (h _ _ (H.toks _))

theorem pow_ne (n : Nat) : (720720 : Int) ^ n ≠ 0 := Int.pow_ne_zero (by decide)
theorem pow_log {n : Nat} (h : n ≤ 448) : ((720720 : Int) ^ n).natAbs.log2 < 9000 := by
  rw [Int.natAbs_pow]
  show (720720 ^ n : Nat).log2 < 9000
  have h0 : (720720 ^ n : Nat) ≠ 0 := Nat.pos_iff_ne_zero.mp (Nat.pow_pos (by decide))
  rw [Nat.log2_lt h0]
  calc (720720 ^ n : Nat) ≤ (2 ^ 20) ^ n := Nat.pow_le_pow_left (by decide) n
    _ = 2 ^ (20 * n) := by rw [← Nat.pow_mul]
    _ < 2 ^ 9000 := Nat.pow_lt_pow_right (by decide) (by omega)
theorem bits_le {a : Int} (h0 : 0 ≤ a) (h1 : a < 1000) : Builtin.Int.intBits a ≤ 64 := by
  unfold Builtin.Int.intBits
  split
  · omega
  · rename_i hne
    have hne' : a ≠ 0 := fun e => hne (by rw [e]; rfl)
    have : a.natAbs.log2 < 63 := by
      rw [Nat.log2_lt (by omega)]
      exact Nat.lt_of_lt_of_le (show a.natAbs < 1000 by omega) (by decide)
    omega
theorem r_pset {pl : Addr} {B k : Nat} {t u : Tok} {Q : Unit → Shared → Prop} (H : St σ p mu s) (c : CUpd pl (PlP B) (PlP (B + 1)) mu mu') (hk : k ≤ B) (h : ∀ s', St σ p mu' s' → Q () s') : wpAny (model prog w) A (setItem (.ref pl) (.int 0 u) (.int ((k : Int) + 1) t)) Q E s := by
  obtain ⟨o, eo, kk, kt, kn, hkB, ko1, ko2⟩ := (H.own _ c.mem).1
  refine wpAny_setItem_list (items := #[.int (kk : Int) kt]) ⟨o, eo, ko1, kn, ko2⟩ (by decide) (by decide) (by show (0 : Int) < 1; decide) fun h' hl hs => ?_
  obtain ⟨o', e', n1, n2, n3⟩ := hl
  refine h _ (H.set c hs ⟨o', e', k + 1, t, n2, by omega, n1, ?_⟩)
  rw [n3]; rfl
theorem c_take {k B : Nat} {f pl : Addr} {lim : Int} {tl : Tok} {Q : Value → Shared → Prop} (T : Tp (KK w) mg mb p) (H : St σ p mu s) (R : Rm A (k + 2)) (I : TkI p f pl) (u : CUpd pl (PlP B) (PlP (B + 1)) mu mu') (hB : B < 449) (hl : 0 < lim)
    (h : ∀ v t s', 0 ≤ v → v < lim → St σ p mu' s' → Q (.int v t) s') :
    wpAny (model prog w) A (call (.ref f) [.int lim tl]) Q E s := by
  obtain ⟨c', ctv, doc, pm, qual, c1, c2, ca, cv, cn, a, sc, e1, e2, hf, hcr, hc1, hc2, hca, hcn, hc0, hc63⟩ := I
  obtain rfl : sc = tkSc := Option.some.inj (e2.symm.trans (by kernel_rfl))
  obtain rfl : a = tkAr := Option.some.inj (e1.symm.trans (by kernel_rfl))
  have nc : ∀ x ∈ tkSc.names, x.2 ≠ .cell := by
    have h : (tkSc.names.all fun x => x.2 != .cell) = true := by kernel_rfl
    intro x hx; simpa using List.all_eq_true.mp h x hx
  have lk1 : tkSc.names.lookup ("limit" : Str) = some .local := by kernel_rfl
  have lk2 : tkSc.names.lookup ("k" : Str) = some .local := by kernel_rfl
  have lk3 : tkSc.names.lookup ("level" : Str) = some .local := by kernel_rfl
  refine call_of (enterF (fs := [("limit", some (.int lim tl)), ("k", none), ("level", none)]) (binds := [("limit", .int lim tl)]) T H R hf hcr rfl rfl rfl (by kernel_rfl) nc (by kernel_rfl) ?_ ?_ (by show (["limit", "k", "level"] : List Str).Nodup; decide) ?_ ?_)
  · intro x hx
    rw [List.mem_singleton.mp hx]; exact lk1
  · intro x v hx
    cases hx with
    | head => rfl
    | tail _ hx =>
      cases hx with
      | tail _ hx =>
        cases hx with
        | tail _ hx => cases hx
  · intro q hq
    cases hq with
    | head => exact lk1
    | tail _ hq =>
      cases hq with
      | head => exact lk2
      | tail _ hq =>
        cases hq with
        | head => exact lk3
        | tail _ hq => cases hq
  intro A env s1 hs he hcells H R
  have G_len : GN env mg mb "len" (.builtin "len") := gnl hs (by kernel_rfl) (gl_glen T)
  have hcnC : CN env "cells" c1 := ⟨he.kind, .inl (ko hs (by kernel_rfl)), by rw [hcells]; rfl, by decide, by decide⟩
  have hcnP : CN env "place" c2 := ⟨he.kind, .inl (ko hs (by kernel_rfl)), by rw [hcells]; rfl, by decide, by decide⟩
  refine x_assign ?_
  walk_at "g"
  refine r_cellp hcnP ‹_› hc2 ?_
  walk_at "g"
  have HH : St σ p ((env.locals, FrameP env [("limit", some (.int lim tl)), ("k", none), ("level", none)]) :: mu) _ := ‹_›
  obtain ⟨o, eo, kk, kt, kn, hkB, ko1, ko2⟩ := (HH.own _ (.tail _ u.mem)).1
  refine item_listL (l := [.int (kk : Int) kt]) ⟨o, eo, ko1, kn, ko2⟩ (by decide) (by decide) rfl ?_
  walk_at "g"
  refine r_cellp hcnP ‹_› hc2 ?_
  walk_at "g"
  have HH : St σ p ((env.locals, FrameP env [("limit", some (.int lim tl)), ("k", some (.int (kk : Int) kt)), ("level", none)]) :: mu) _ := ‹_›
  have HH2 := HH
  refine r_pset ‹_› (.tail u) hkB ?_
  intro s20 H
  walk_at "g"
  refine r_cellp hcnC ‹_› hc1 ?_
  walk_at "g"
  refine r_len ‹_› (rd_p ‹_› hca) (by rw [hcn.length]; exact Nat.le_trans hc63 (Nat.le_of_ble_eq_true rfl)) ?_
  intro t21 s21 H
  have hlen : (cv.length : Int) = cn.length := by rw [hcn.length]
  have hb0 : (cv.length : Int) ≠ 0 := by omega
  have hb1 : (cv.length : Int).natAbs.log2 < 9000 := Nat.lt_of_le_of_lt (Nat.log2_le_self _) (by omega)
  refine r_fdiv ‹_› hb0 hb1 ?_
  intro t22 s22 H
  have hl0 : 0 ≤ (kk : Int).fdiv cv.length := Int.fdiv_nonneg (by omega) (by omega)
  have hl1 : (kk : Int).fdiv cv.length ≤ kk := by
    rw [Int.fdiv_eq_ediv_of_nonneg _ (by omega)]
    exact Int.ediv_le_self _ (by omega)
  generalize (kk : Int).fdiv cv.length = lev at *
  walk_at "g"
  refine r_cellp hcnC ‹_› hc1 ?_
  walk_at "g"
  refine r_cellp hcnC ‹_› hc1 ?_
  walk_at "g"
  refine r_len ‹_› (rd_p ‹_› hca) (by rw [hcn.length]; exact Nat.le_trans hc63 (Nat.le_of_ble_eq_true rfl)) ?_
  intro t23 s23 H
  refine r_mod ‹_› hb0 ?_
  intro t24 s24 H
  have hm0 : 0 ≤ (kk : Int).fmod cv.length := Int.fmod_nonneg (by omega) (by omega)
  have hm1 : (kk : Int).fmod cv.length < cv.length := Int.fmod_lt_of_pos _ (by omega)
  generalize (kk : Int).fmod cv.length = ix at *
  obtain ⟨cx, hcx⟩ : ∃ cx, cv[ix.toNat]? = some cx := ⟨_, List.getElem?_eq_getElem (by omega)⟩
  obtain ⟨cnx, tcx, rfl, hcnx⟩ := ints_at hcn hcx
  refine item_listL (LsP.is (rd_p ‹_› hca)) hm0 (by omega) hcx ?_
  walk_at "g"
  refine r_pow ‹_› hl0 (by omega) (by decide) ?_
  intro t25 s25 H
  have hn : lev.toNat ≤ 448 := by omega
  refine r_fdiv ‹_› (pow_ne _) (pow_log hn) ?_
  intro t26 s26 H
  generalize cnx.fdiv (720720 ^ lev.toNat) = A1
  walk_at "g"
  refine r_mul ‹_› (IntMulOk.of_left (by decide)) ?_
  intro t27 s27 H
  walk_at "g"
  refine r_mul ‹_› (IntMulOk.of_left (bits_le hl0 (by omega))) ?_
  intro t28 s28 H
  walk_at "g"
  refine r_mod ‹_› (by omega) ?_
  intro t29 s29 H
  exact h _ _ _ (Int.fmod_nonneg_of_pos _ hl) (Int.fmod_lt_of_pos _ hl) (St.drop ‹_›)
end
noncomputable def hdOf : List Value → Hd → Hd → Hd
  | [], _, h => h
  | _ :: _, h, _ => h
section
variable {prog : Program} {w : World} {A : Around} {E : Value → Shared → Prop} {σ s : Shared} {p : Heap} {mu mu' : List Cell} {mg mb : Str → Option Value} {K : Frag}
variable {sh TB TR : Addr} {kvs kv0 kv1 : List (Int × Value)}
theorem Tr.append {k vs r h us r' h'} (t : Tr prog w p kvs k vs r h) (t' : Tr prog w p kvs k us r' h') : Tr prog w p kvs k (vs ++ us) (r ++ r') (hdOf vs h h') := by
  induction t with
  | nil => exact t'
  | grp a b _ ih => exact .grp a b (ih t')
  | junk a _ ih => exact .junk a (ih t')
  | str a _ ih => exact .str a (ih t')
  | lab a b z c d _ _ ih2 => rw [List.append_assoc]; exact .lab a b z c d (ih2 t')
  | arr a b z c d _ _ ih2 => rw [List.append_assoc]; exact .arr a b z c d (ih2 t')
noncomputable def HdX (h : Hd) : Prop := ∀ o, h = .str o → o = #[120]
theorem HdX.of {vs : List Value} {h h' : Hd} (a : HdX h) (b : HdX h') : HdX (hdOf vs h h') := by
  cases vs with
  | nil => exact b
  | cons => exact a
structure KT (kvs : List (Int × Value)) (m : Nat) : Prop where
  z : kvs.length ≤ m
  inn : ∀ i : Nat, 1 ≤ i → i ≤ m → (valueAt kvs (i : Int)).isSome = true
  out : ∀ i : Int, (m : Int) < i → valueAt kvs i = none
theorem KT.add {m : Nat} {v : Value} (h : KT kvs m) : KT (stored kvs ((m : Int) + 1) v) (m + 1) := by
  refine ⟨Nat.le_trans (stored_length_le _ _ _) (Nat.succ_le_succ h.z), fun i h1 h2 => ?_, fun i h1 => ?_⟩
  · rw [valueAt_stored]
    by_cases e : (i : Int) = (m : Int) + 1
    · rw [if_pos e]; rfl
    · rw [if_neg e]; exact h.inn i h1 (by omega)
  · rw [valueAt_stored, if_neg (by omega)]; exact h.out i (by omega)
noncomputable def takes : Nat → Nat
  | 0 => 7
  | d + 1 => 1 + 3 * (3 + takes d)
noncomputable def adds : Nat → Nat
  | 0 => 0
  | d + 1 => 3 * (1 + adds d)
noncomputable def rowz : Nat → Nat
  | 0 => 3
  | d + 1 => 3 * (1 + rowz d)
noncomputable def ItC (prog : Program) (w : World) (d : Nat) : Prop :=
  ∀ {A : Around} {E : Value → Shared → Prop} {σ s : Shared} {p : Heap} {mu : List Cell} {mg mb : Str → Option Value} {sh TB TR f pl : Addr} {kvs : List (Int × Value)} {m B many : Nat} {tm td : Tok} {k : Nat} {Q : Value → Shared → Prop},
    Tp (KK w) mg mb p → St σ p ((pl, PlP B) :: (TB, DcP (intKind prog w) kvs) :: mu) s → Rm A (k + 2 * d + 10) → ShelfI p sh TB TR → (TB == sysModules) = false → TkI p f pl → KT kvs m → many ≤ 4 → m + adds d ≤ 80 → B + takes d ≤ 449 →
    (∀ n : Int, 1 ≤ n → n ≤ many → ∃ o, LabAt prog w p kvs n o) →
    (∀ t it rw vs rvs rows hd p' kvs' m' s', Le p p' → p'.get? t = some (tupObj [.ref it, .ref rw]) → Pt p' it (LsP vs) → Pt p' rw (LsP rvs) → Tr prog w p' kvs' d vs rows hd → HdX hd → RowsAt p' rvs rows → KT kvs' m' → KLe kvs kvs' → m' ≤ m + adds d →
      vs.length ≤ 3 → rows.length ≤ rowz d → (∀ n ∈ rowsG rows, 1 ≤ n ∧ n ≤ (many : Int)) → St σ p' ((pl, PlP (B + takes d)) :: (TB, DcP (intKind prog w) kvs') :: mu) s' → Q (.ref t) s') →
    wpAny (model prog w) A (call (.ref 515) [.ref f, .ref sh, .int (many : Int) tm, .int (d : Int) td]) Q E s
theorem TkI.fn {f pl : Addr} (x : TkI p f pl) (H : St σ p mu s) : FnAt f s.heap := by
  obtain ⟨c', ctv, doc, pm, qual, c1, c2, ca, cv, cn, a, sc, e1, e2, e3, _⟩ := x
  exact ⟨_, _, _, _, H.keep _ _ e3⟩
theorem c_FT {env : Env} {pos : Pos} {f pl : Addr} {first : List Value} {e : Expr} {es : List Expr} {Q : Value → Shared → Prop} (x : TkI p f pl) (H : St σ p mu s)
    (h : wpAny (model prog w) A (spliced (backTo pos (starEach (e :: es) env))) (fun vs s₁ => FnAt f s₁.heap ∧ wpAny (model prog w) A (call (.ref f) (first ++ vs)) Q E s₁) E s)
    (he : starEach (e :: es) env = (false, eval e env) :: starEach es env) (hplain : (backTo pos (starEach es env)).any (·.1) = false) :
    wpAny (model prog w) A (callWith pos (.ref f) first (backTo pos (starEach (e :: es) env)) []) Q E s := callWith_F (x.fn H) h he hplain
theorem kinF {P : Prop} {f pl : Addr} (x : TkI p f pl) (H : St σ p mu s) (h : P) : FnAt f s.heap ∧ P := ⟨x.fn H, h⟩
end
local macro_rules | `(tactic| walk_at "go5") => `(tactic| first
  | walk_at "go4"
  | ((with_reducible refine' c_FT ?x ?H ?_ ?b ?c); (case x => with_reducible assumption); (case H => with_reducible assumption); (case b => exact rfl); (case c => exact rfl))
  | ((with_reducible refine' kinF ?x ?H ?_); (case x => with_reducible assumption); (case H => with_reducible assumption)))
local macro_rules | `(tactic| walk_at "g") => `(tactic| repeat walk_at "go5")
noncomputable def pert : Nat → Nat
  | 0 => 2
  | d + 1 => 3 + takes d
noncomputable def addp : Nat → Nat
  | 0 => 0
  | d + 1 => 1 + adds d
noncomputable def rowp : Nat → Nat
  | 0 => 1
  | d + 1 => 1 + rowz d
theorem pert_pos (d : Nat) : 2 ≤ pert d := by
  cases d with
  | zero => exact Nat.le_refl _
  | succ d => show 2 ≤ 3 + takes d; omega
theorem rowp_pos (d : Nat) : 1 ≤ rowp d := by cases d <;> simp [rowp]
theorem perm42 {α : Type} {a b c d e f : α} {r : List α} : (a :: b :: c :: d :: e :: f :: r).Perm (e :: f :: a :: b :: c :: d :: r) := (List.perm_append_comm (l₁ := [a, b, c, d]) (l₂ := [e, f])).append_right r
theorem takes_eq (d : Nat) : takes d = 1 + 3 * pert d := by cases d <;> rfl
theorem adds_eq (d : Nat) : adds d = 3 * addp d := by cases d <;> rfl
theorem rowz_eq (d : Nat) : rowz d = 3 * rowp d := by cases d <;> rfl
theorem takes_pos (d : Nat) : 1 ≤ takes d := by rw [takes_eq]; omega
theorem rowz_takes : ∀ d, rowz d ≤ takes d
  | 0 => by decide
  | d + 1 => by have := rowz_takes d; show 3 * (1 + rowz d) ≤ 1 + 3 * (3 + takes d); omega
theorem PlP.le {B B' : Nat} {o : Obj} (h : PlP B o) (l : B ≤ B') : PlP B' o := let ⟨k, t, n, a, b⟩ := h; ⟨k, t, n, Nat.le_trans a l, b⟩
theorem St.sel {σ : Shared} {p : Heap} {mu : List Cell} {s : Shared} {a b c d : Cell} (H : St σ p (a :: b :: c :: d :: mu) s) : St σ p (a :: c :: b :: mu) s := by
  have h : ([a, b, c] ++ [d]).Perm [d, a, c, b] := List.Perm.trans List.perm_append_comm (.cons _ (.cons _ (.swap _ _ _)))
  exact (H.perm (h.append_right mu)).drop
noncomputable def forB : Stmt → List Stmt
  | .For _ _ b _ _ => b
  | _ => []
noncomputable def elseB : Stmt → List Stmt
  | .If _ _ o _ => o
  | _ => []
noncomputable def thenB : Stmt → List Stmt
  | .If _ b _ _ => b
  | _ => []
noncomputable def itElif : List Stmt := elseB ((forB ((bodyOf (stm 41))[2]?.getD (.Pass default)))[1]?.getD (.Pass default))
noncomputable def itSucc : List Stmt := thenB (itElif[0]?.getD (.Pass default))
noncomputable def itLab : Stmt := itSucc[1]?.getD (.Pass default)
noncomputable def itTail : List Stmt := itSucc.drop 2
section
variable {prog : Program} {w : World} {A : Around} {E : Value → Shared → Prop} {σ s : Shared} {p : Heap} {mu mu' : List Cell} {mg mb : Str → Option Value} {K : Frag} {env : Env}
variable {sh TB TR f pl it rw' ia bw : Addr} {kvs : List (Int × Value)}
theorem r_bytes1 {l : Addr} {vs : List Value} {ns : List Int} {Q : Value → Shared → Prop} (H : St σ p mu s) (x : Pt s.heap l (LsP vs)) (hi : IntsAre vs ns) (hr : ∀ n ∈ ns, 0 ≤ n ∧ n < 256) (hz : vs.length ≤ sizeLine) (hh : A.handled = none)
    (h : ∀ t s', St σ p mu s' → Q (.bytes (byteArr ns) t) s') : wpAny (model prog w) A (call (.type "bytes") [.ref l]) Q E s :=
  call_bytes_ints (LsP.is x) hi hr hz hh fun h' t k hk => h t _ ((H.grow (s' := { s with heap := h' }) hk).toks k)
theorem Tr.head2 {k v vs r h} (t : Tr prog w p kvs k (v :: vs) r h) : (∃ o t, h = .str o ∧ StI p v (.bytes o t) ∧ ∃ h', Tr prog w p kvs k vs r h') ∨ ((∀ o, h ≠ .str o) ∧ ∃ ty, VT (KK w) p v ty ∧ kitOne (KK w) ty (.ref 217) = some false) := by
  have rv : ∀ {n}, RefI p v n 0 → VT (KK w) p v (.ref 266) := fun ⟨a, t, u, e, i⟩ => e ▸ VT.inst i ck_266
  have lv : ∀ {l us}, LAt p kvs v l → Pt p l (LsP us) → ∃ ty, VT (KK w) p v ty ∧ kitOne (KK w) ty (.ref 217) = some false := fun a b => by
    cases a with
    | dir => exact ⟨_, VT.ls b, ki_list_r217⟩
    | ref a _ _ => exact ⟨_, rv a, ki_r266_r217⟩
  cases t with
  | grp a b c => exact .inr ⟨fun o e => (nomatch e), _, rv a, ki_r266_r217⟩
  | junk a b =>
    refine .inr ⟨fun o e => (nomatch e), ?_⟩
    cases a with
    | int => exact ⟨_, VT.int, ki_int_r217⟩
    | non => exact ⟨_, VT.none, ki_none_r217⟩
    | miss a => exact ⟨_, rv a, ki_r266_r217⟩
  | str a b => exact .inl ⟨_, _, rfl, a, _, b⟩
  | lab a b z c d e => exact .inr ⟨fun o e => (nomatch e), lv a b⟩
  | arr a b z c d e => exact .inr ⟨fun o e => (nomatch e), lv a b⟩

end
namespace it_tail_E
noncomputable section
def eS (prog : Program) (w : World) (A : Around) (σ s : Shared) (p : Heap) (mu : List Cell) (mg mb : Str → Option Value) (env : Env) (sh TB TR f pl it rw' ia bw : Addr) (kvs : List (Int × Value)) (k m b : Nat) (c : Cell) (vs rvs bvs : List Value) (rows rl rowsj : Rws) (om od o1 o2 o3 o6 : Option Value) (Q : Flow → Shared → Prop) : Prop := ∀ (j : Nat) (T : Tp (KK w) mg mb p) (hs : env.scope = (fdOf (KK w) 515).scope) (he : EnvOk env) (R : Rm A (k + 9)) (H : St σ p ((env.locals, FrameP env [("take", some (.ref f)), ("shelf", some (.ref sh)), ("many", om), ("depth", od), ("items", some (.ref it)), ("rows", some (.ref rw')), ("turn", o1), ("way", o2), ("number", o3), ("inner", some (.ref ia)), ("below", some (.ref bw)), ("label", o6)]) ::
      c :: (rw', LsP rvs) :: (it, LsP vs) :: (pl, PlP b) :: (TB, DcP (intKind prog w) kvs) :: mu) s) (I : ShelfI p sh TB TR) (lo : (TB == sysModules) = false) (TK : TkI p f pl) (kt : KT kvs m) (hm : m + 1 ≤ 80) (hb : b + 1 ≤ 449) (hTr : ∀ v p2 kvs2, Le p p2 → KLe kvs kvs2 → LAt p2 kvs2 v ia → Tr prog w p2 kvs2 (j + 1) [v] (rl ++ shR 1 rowsj) .other) (hbw : Pt p bw (LsP bvs)) (rab : RowsAt p bvs rowsj) (ra : RowsAt p rvs (rows ++ rl)) (hvs : vs.length ≤ 2) (hz : rows.length + rl.length + rowsj.length ≤ 2000) (h : ∀ v rvs2 kvs2 m2 rw2 p' s', Le p p' → Tr prog w p' kvs2 (j + 1) [v] (rl ++ shR 1 rowsj) .other → RowsAt p' rvs2 (rows ++ (rl ++ shR 1 rowsj)) → KT kvs2 m2 → KLe kvs kvs2 → m2 ≤ m + 1 →
      St σ p' ((env.locals, FrameP env [("take", some (.ref f)), ("shelf", some (.ref sh)), ("many", om), ("depth", od), ("items", some (.ref it)), ("rows", some (.ref rw2)), ("turn", o1), ("way", o2), ("number", o3), ("inner", some (.ref ia)), ("below", some (.ref bw)), ("label", o6)]) ::
        c :: (rw2, LsP rvs2) :: (it, LsP (vs ++ [v])) :: (pl, PlP (b + 1)) :: (TB, DcP (intKind prog w) kvs2) :: mu) s' → Q .next s'), wpAny (model prog w) A (execs itTail env) Q NE s
abbrev eT := (Program) × (World) × (Around) × (Shared) × (Shared) × (Heap) × (List Cell) × (Str → Option Value) × (Str → Option Value) × (Env) × (Addr) × (Addr) × (Addr) × (Addr) × (Addr) × (Addr) × (Addr) × (Addr) × (Addr) × (List (Int × Value)) × (Nat) × (Nat) × (Nat) × (Cell) × (List Value) × (List Value) × (List Value) × (Rws) × (Rws) × (Rws) × (Option Value) × (Option Value) × (Option Value) × (Option Value) × (Option Value) × (Option Value) × (Flow → Shared → Prop)
def eg1 (x : eT) := x.2.2.2.2.2.2.2.2
def eg2 (x : eT) := (eg1 x).2.2.2.2.2.2.2.2
def eg3 (x : eT) := (eg2 x).2.2.2.2.2.2.2.2
def eg4 (x : eT) := (eg3 x).2.2.2.2.2.2.2.2
def eP (x : eT) : Prop := eS x.1 x.2.1 x.2.2.1 x.2.2.2.1 x.2.2.2.2.1 x.2.2.2.2.2.1 x.2.2.2.2.2.2.1 x.2.2.2.2.2.2.2.1 (eg1 x).1 (eg1 x).2.1 (eg1 x).2.2.1 (eg1 x).2.2.2.1 (eg1 x).2.2.2.2.1 (eg1 x).2.2.2.2.2.1 (eg1 x).2.2.2.2.2.2.1 (eg1 x).2.2.2.2.2.2.2.1 (eg2 x).1 (eg2 x).2.1 (eg2 x).2.2.1 (eg2 x).2.2.2.1 (eg2 x).2.2.2.2.1 (eg2 x).2.2.2.2.2.1 (eg2 x).2.2.2.2.2.2.1 (eg2 x).2.2.2.2.2.2.2.1 (eg3 x).1 (eg3 x).2.1 (eg3 x).2.2.1 (eg3 x).2.2.2.1 (eg3 x).2.2.2.2.1 (eg3 x).2.2.2.2.2.1 (eg3 x).2.2.2.2.2.2.1 (eg3 x).2.2.2.2.2.2.2.1 (eg4 x).1 (eg4 x).2.1 (eg4 x).2.2.1 (eg4 x).2.2.2.1 (eg4 x).2.2.2.2
noncomputable def ec : eT := @Classical.epsilon eT ⟨(default, dW, dA, dS, dS, default, default, default, default, default, default, default, default, default, default, default, default, default, default, default, default, default, default, default, default, default, default, default, default, default, default, default, default, default, default, default, default)⟩ fun x => ¬ eP x
@[irreducible] def prog := ec.1
@[irreducible] def w := ec.2.1
@[irreducible] def A := ec.2.2.1
@[irreducible] def σ := ec.2.2.2.1
@[irreducible] def s := ec.2.2.2.2.1
@[irreducible] def p := ec.2.2.2.2.2.1
@[irreducible] def mu := ec.2.2.2.2.2.2.1
@[irreducible] def mg := ec.2.2.2.2.2.2.2.1
@[irreducible] def mb := (eg1 ec).1
@[irreducible] def env := (eg1 ec).2.1
@[irreducible] def sh := (eg1 ec).2.2.1
@[irreducible] def TB := (eg1 ec).2.2.2.1
@[irreducible] def TR := (eg1 ec).2.2.2.2.1
@[irreducible] def f := (eg1 ec).2.2.2.2.2.1
@[irreducible] def pl := (eg1 ec).2.2.2.2.2.2.1
@[irreducible] def it := (eg1 ec).2.2.2.2.2.2.2.1
@[irreducible] def rw' := (eg2 ec).1
@[irreducible] def ia := (eg2 ec).2.1
@[irreducible] def bw := (eg2 ec).2.2.1
@[irreducible] def kvs := (eg2 ec).2.2.2.1
@[irreducible] def k := (eg2 ec).2.2.2.2.1
@[irreducible] def m := (eg2 ec).2.2.2.2.2.1
@[irreducible] def b := (eg2 ec).2.2.2.2.2.2.1
@[irreducible] def c := (eg2 ec).2.2.2.2.2.2.2.1
@[irreducible] def vs := (eg3 ec).1
@[irreducible] def rvs := (eg3 ec).2.1
@[irreducible] def bvs := (eg3 ec).2.2.1
@[irreducible] def rows := (eg3 ec).2.2.2.1
@[irreducible] def rl := (eg3 ec).2.2.2.2.1
@[irreducible] def rowsj := (eg3 ec).2.2.2.2.2.1
@[irreducible] def om := (eg3 ec).2.2.2.2.2.2.1
@[irreducible] def od := (eg3 ec).2.2.2.2.2.2.2.1
@[irreducible] def o1 := (eg4 ec).1
@[irreducible] def o2 := (eg4 ec).2.1
@[irreducible] def o3 := (eg4 ec).2.2.1
@[irreducible] def o6 := (eg4 ec).2.2.2.1
@[irreducible] def Q := (eg4 ec).2.2.2.2
end
set_option maxHeartbeats 4000000 in
theorem main : eS prog w A σ s p mu mg mb env sh TB TR f pl it rw' ia bw kvs k m b c vs rvs bvs rows rl rowsj om od o1 o2 o3 o6 Q := by
  intro  j T hs he R H I lo TK kt hm hb hTr hbw rab ra hvs hz h
  refine x_expr he ?_
  walk_at "g"
  refine m_append (rd_m ‹_› (by walk_at "mem")) ?_
  walk_at "g"
  refine c_take T ‹_› R TK (.tail (.tail (.tail (.tail .head)))) (by omega) (by decide) ?_
  intro v3 t3 s3 h30 h33 H
  walk_at "g"
  have rest : ∀ v p2 kvs2 m2 s', Le p p2 → LAt p2 kvs2 v ia → KT kvs2 m2 → KLe kvs kvs2 → m2 ≤ m + 1 →
      St σ p2 ((env.locals, FrameP env [("take", some (.ref f)), ("shelf", some (.ref sh)), ("many", om), ("depth", od), ("items", some (.ref it)), ("rows", some (.ref rw')), ("turn", o1), ("way", o2), ("number", o3), ("inner", some (.ref ia)), ("below", some (.ref bw)), ("label", o6)]) ::
        c :: (rw', LsP rvs) :: (it, LsP (vs ++ [v])) :: (pl, PlP (b + 1)) :: (TB, DcP (intKind prog w) kvs2) :: mu) s' → wpAny (model prog w) A (execs (itTail.drop 1) env) Q NE s' := by
    intro v p2 kvs2 m2 s' l2 hla kt2 kle2 hm2 H
    have T := T.mono l2
    refine x_assign ?_
    walk_at "g"
    refine e_comp (σ := σ) he (by walk_at "caps") (by kernel_rfl) rfl (fun _ => rfl) (fun _ _ => rfl) R.h ?_
    walk_at "g"
    refine comp_of (N := bvs.length) (p := p2) (J := fun i us p' fs' mu' => ∀ C : List (Str × Option Value) → List Cell → Prop, (∀ o1, RowsAt p' us (shR 1 (rowsj.take i)) → C [(".0", none), ("row", o1)] _) → C fs' mu') (itb_ls (hbw.mono l2)) ‹_› (fun _ K => K none RowsAt.nil) ?_ ?_
    · intro env' CE i us p4 fs' mu' c2 acc v4 s4 hi l4 J hv
      apply J
      clear J
      intro o9 hus
      intro H
      have he := CE.ok
      obtain ⟨⟨dr, xr⟩, hr1, hr2⟩ := rab.at hv
      have ez : us.length ≤ sizeLine := by
        rw [hus.length, shR_len]
        exact Nat.le_trans (List.length_take_le' _ _) (Nat.le_trans (by omega) (Nat.le_of_ble_eq_true rfl : 2000 ≤ sizeLine))
      refine ⟨ez, ?_⟩
      have hr2 := hr2.mono (l2.trans l4)
      walk_at "g"
      refine t_nil ?_
      walk_at "g"
      have e1 : shR 1 (rowsj.take (i + 1)) = shR 1 (rowsj.take i) ++ [(1 + dr, xr)] := by rw [take_snoc hr1, shR_app]; rfl
      cases hr2 with
      | grp e =>
        refine sub_tup ‹_› e (by decide) (by decide) rfl rfl ?_
        walk_at "g"
        refine sub_tup ‹_› e (by decide) (by decide) rfl rfl ?_
        walk_at "g"
        refine sub_tup ‹_› e (by decide) (by decide) rfl rfl ?_
        walk_at "g"
        refine r_newTuple ‹_› (Nat.le_of_ble_eq_true rfl) ?_
        intro tq p5 s5 l5 htq H
        rw [Int.add_comm dr 1] at htq
        exact ct_of l5 (fun _ K => K _ (by rw [e1]; exact (hus.mono l5).append (.cons (.grp htq) .nil))) H
      | lab e =>
        refine sub_tup ‹_› e (by decide) (by decide) rfl rfl ?_
        walk_at "g"
        refine sub_tup ‹_› e (by decide) (by decide) rfl rfl ?_
        walk_at "g"
        refine sub_tup ‹_› e (by decide) (by decide) rfl rfl ?_
        walk_at "g"
        refine r_newTuple ‹_› (Nat.le_of_ble_eq_true rfl) ?_
        intro tq p5 s5 l5 htq H
        rw [Int.add_comm dr 1] at htq
        exact ct_of l5 (fun _ K => K _ (by rw [e1]; exact (hus.mono l5).append (.cons (.lab htq) .nil))) H
    · intro us p4 fs' mu' acc s4 l4 J
      apply J
      clear J
      intro o9 hus
      intro H
      rw [rab.length, List.take_length] at hus
      have z1 := ra.length
      have z2 := hus.length
      rw [shR_len] at z2
      rw [List.length_append] at z1
      refine r_ladd H (rd_m H (by walk_at "mem")) (rd_m H (.head _)) (Nat.le_trans (by omega) (Nat.le_of_ble_eq_true rfl : 2000 ≤ sizeLine)) ?_
      intro rw2 s5 H
      have H := H.drop2.swap
      walk_at "g"
      have l24 := l2.trans l4
      refine h v _ kvs2 m2 rw2 p4 _ l24 (hTr v p4 kvs2 l24 kle2 (hla.mono l4)) (by rw [← List.append_assoc]; exact (ra.mono l24).append hus) kt2 kle2 hm2 (St.sel ‹_›)
  by_cases hv0 : v3 = 0
  · rw [show (v3 == 0) = true from by simp [hv0]]
    walk_at "g"
    refine' Sf.add ?S T ‹_› R (fun x => .tail (.tail (.tail (.tail (.tail .head))))) (Nat.le_trans kt.z (by omega)) kt.inn (kt.out _ (by omega)) ?_
    case S => exact ⟨I, by walk_at "mem", lo⟩
    intro x t tk p4 s4 l4 ht hx H
    have T := T.mono l4
    walk_at "g"
    refine r_append ‹_› (by walk_at "upd") (Nat.le_trans hvs (Nat.le_of_ble_eq_true rfl)) ?_
    intro s5 H
    exact rest _ p4 _ _ s5 l4 (.ref hx (by rw [valueAt_stored, if_pos rfl]) ht) kt.add (KLe.new (kt.out _ (by omega))) (Nat.le_refl _) H
  · rw [show (v3 == 0) = false from by simp [hv0]]
    walk_at "g"
    refine r_append ‹_› (by walk_at "upd") (Nat.le_trans hvs (Nat.le_of_ble_eq_true rfl)) ?_
    intro s5 H
    exact rest _ p _ _ s5 Le.rfl .dir kt KLe.rfl (Nat.le_succ _) H
theorem all (x : eT) : eP x := eps (show eP ec by with_unfolding_all exact main) x
end it_tail_E
theorem it_tail {prog : Program} {w : World} {A : Around} {σ s : Shared} {p : Heap} {mu : List Cell} {mg mb : Str → Option Value} {env : Env} {sh TB TR f pl it rw' ia bw : Addr} {kvs : List (Int × Value)} {k m b : Nat} {c : Cell} {vs rvs bvs : List Value} {rows rl rowsj : Rws} {om od o1 o2 o3 o6 : Option Value} {Q : Flow → Shared → Prop} : it_tail_E.eS prog w A σ s p mu mg mb env sh TB TR f pl it rw' ia bw kvs k m b c vs rvs bvs rows rl rowsj om od o1 o2 o3 o6 Q :=
  it_tail_E.all (prog, w, A, σ, s, p, mu, mg, mb, env, sh, TB, TR, f, pl, it, rw', ia, bw, kvs, k, m, b, c, vs, rvs, bvs, rows, rl, rowsj, om, od, o1, o2, o3, o6, Q)
section
end
section
variable {prog : Program} {w : World} {A : Around} {E : Value → Shared → Prop} {σ s : Shared} {p : Heap} {mu mu' : List Cell} {mg mb : Str → Option Value} {K : Frag} {env : Env}
variable {sh TB TR f pl it rw' ij bw : Addr} {kvs : List (Int × Value)}
end
namespace it_lab_E
noncomputable section
def eS (prog : Program) (w : World) (A : Around) (σ s : Shared) (p : Heap) (mu : List Cell) (mg mb : Str → Option Value) (env : Env) (sh TB f pl it rw' ij bw : Addr) (kvs : List (Int × Value)) (k b : Nat) (c : Cell) (vs rvs : List Value) (rows : Rws) (om od o1 o3 o6 : Option Value) (wy : Int) (tw : Tok) (Q : Flow → Shared → Prop) : Prop := ∀ {vsj : List Value} {rowsj : Rws} {hdj : Hd} (j : Nat) (T : Tp (KK w) mg mb p) (hs : env.scope = (fdOf (KK w) 515).scope) (he : EnvOk env) (R : Rm A (k + 9)) (H : St σ p ((env.locals, FrameP env [("take", some (.ref f)), ("shelf", some (.ref sh)), ("many", om), ("depth", od), ("items", some (.ref it)), ("rows", some (.ref rw')), ("turn", o1), ("way", some (.int wy tw)), ("number", o3), ("inner", some (.ref ij)), ("below", some (.ref bw)), ("label", o6)]) ::
      c :: (rw', LsP rvs) :: (it, LsP vs) :: (pl, PlP b) :: (TB, DcP (intKind prog w) kvs) :: mu) s) (TK : TkI p f pl) (hb : b + 1 ≤ 449) (hij : Pt p ij (LsP vsj)) (trj : Tr prog w p kvs j vsj rowsj hdj) (hx : HdX hdj) (hvj : vsj.length ≤ 3) (ra : RowsAt p rvs rows) (hz : rows.length ≤ 1000) (h : ∀ ia rvs2 rl o6 p' s', Le p p' → RowsAt p' rvs2 (rows ++ rl) → rl.length ≤ 1 → (∀ n, n ∈ rowsG (rl ++ shR 1 rowsj) → n ∈ rowsG rowsj) → (∀ v p2 kvs2, Le p' p2 → KLe kvs kvs2 → LAt p2 kvs2 v ia → Tr prog w p2 kvs2 (j + 1) [v] (rl ++ shR 1 rowsj) .other) →
      St σ p' ((env.locals, FrameP env [("take", some (.ref f)), ("shelf", some (.ref sh)), ("many", om), ("depth", od), ("items", some (.ref it)), ("rows", some (.ref rw')), ("turn", o1), ("way", some (.int wy tw)), ("number", o3), ("inner", some (.ref ia)), ("below", some (.ref bw)), ("label", o6)]) ::
        c :: (rw', LsP rvs2) :: (it, LsP vs) :: (pl, PlP (b + 1)) :: (TB, DcP (intKind prog w) kvs) :: mu) s' → Q .next s'), wpAny (model prog w) A (exec itLab env) Q NE s
abbrev eT := (Program) × (World) × (Around) × (Shared) × (Shared) × (Heap) × (List Cell) × (Str → Option Value) × (Str → Option Value) × (Env) × (Addr) × (Addr) × (Addr) × (Addr) × (Addr) × (Addr) × (Addr) × (Addr) × (List (Int × Value)) × (Nat) × (Nat) × (Cell) × (List Value) × (List Value) × (Rws) × (Option Value) × (Option Value) × (Option Value) × (Option Value) × (Option Value) × (Int) × (Tok) × (Flow → Shared → Prop)
def eg1 (x : eT) := x.2.2.2.2.2.2.2.2
def eg2 (x : eT) := (eg1 x).2.2.2.2.2.2.2.2
def eg3 (x : eT) := (eg2 x).2.2.2.2.2.2.2.2
def eg4 (x : eT) := (eg3 x).2.2.2.2.2.2.2.2
def eP (x : eT) : Prop := eS x.1 x.2.1 x.2.2.1 x.2.2.2.1 x.2.2.2.2.1 x.2.2.2.2.2.1 x.2.2.2.2.2.2.1 x.2.2.2.2.2.2.2.1 (eg1 x).1 (eg1 x).2.1 (eg1 x).2.2.1 (eg1 x).2.2.2.1 (eg1 x).2.2.2.2.1 (eg1 x).2.2.2.2.2.1 (eg1 x).2.2.2.2.2.2.1 (eg1 x).2.2.2.2.2.2.2.1 (eg2 x).1 (eg2 x).2.1 (eg2 x).2.2.1 (eg2 x).2.2.2.1 (eg2 x).2.2.2.2.1 (eg2 x).2.2.2.2.2.1 (eg2 x).2.2.2.2.2.2.1 (eg2 x).2.2.2.2.2.2.2.1 (eg3 x).1 (eg3 x).2.1 (eg3 x).2.2.1 (eg3 x).2.2.2.1 (eg3 x).2.2.2.2.1 (eg3 x).2.2.2.2.2.1 (eg3 x).2.2.2.2.2.2.1 (eg3 x).2.2.2.2.2.2.2.1 (eg4 x)
noncomputable def ec : eT := @Classical.epsilon eT ⟨(default, dW, dA, dS, dS, default, default, default, default, default, default, default, default, default, default, default, default, default, default, default, default, default, default, default, default, default, default, default, default, default, default, default, default)⟩ fun x => ¬ eP x
@[irreducible] def prog := ec.1
@[irreducible] def w := ec.2.1
@[irreducible] def A := ec.2.2.1
@[irreducible] def σ := ec.2.2.2.1
@[irreducible] def s := ec.2.2.2.2.1
@[irreducible] def p := ec.2.2.2.2.2.1
@[irreducible] def mu := ec.2.2.2.2.2.2.1
@[irreducible] def mg := ec.2.2.2.2.2.2.2.1
@[irreducible] def mb := (eg1 ec).1
@[irreducible] def env := (eg1 ec).2.1
@[irreducible] def sh := (eg1 ec).2.2.1
@[irreducible] def TB := (eg1 ec).2.2.2.1
@[irreducible] def f := (eg1 ec).2.2.2.2.1
@[irreducible] def pl := (eg1 ec).2.2.2.2.2.1
@[irreducible] def it := (eg1 ec).2.2.2.2.2.2.1
@[irreducible] def rw' := (eg1 ec).2.2.2.2.2.2.2.1
@[irreducible] def ij := (eg2 ec).1
@[irreducible] def bw := (eg2 ec).2.1
@[irreducible] def kvs := (eg2 ec).2.2.1
@[irreducible] def k := (eg2 ec).2.2.2.1
@[irreducible] def b := (eg2 ec).2.2.2.2.1
@[irreducible] def c := (eg2 ec).2.2.2.2.2.1
@[irreducible] def vs := (eg2 ec).2.2.2.2.2.2.1
@[irreducible] def rvs := (eg2 ec).2.2.2.2.2.2.2.1
@[irreducible] def rows := (eg3 ec).1
@[irreducible] def om := (eg3 ec).2.1
@[irreducible] def od := (eg3 ec).2.2.1
@[irreducible] def o1 := (eg3 ec).2.2.2.1
@[irreducible] def o3 := (eg3 ec).2.2.2.2.1
@[irreducible] def o6 := (eg3 ec).2.2.2.2.2.1
@[irreducible] def wy := (eg3 ec).2.2.2.2.2.2.1
@[irreducible] def tw := (eg3 ec).2.2.2.2.2.2.2.1
@[irreducible] def Q := (eg4 ec)
end
set_option maxHeartbeats 4000000 in
theorem main : eS prog w A σ s p mu mg mb env sh TB f pl it rw' ij bw kvs k b c vs rvs rows om od o1 o3 o6 wy tw Q := by
  intro vsj rowsj hdj j T hs he R H TK hb hij trj hx hvj ra hz h
  have G_String := gnl hs (by kernel_rfl) (gl_gString T)
  have G_bytes := gnl hs (by kernel_rfl) (gl_gbytes T)
  have G_isinstance := gnl hs (by kernel_rfl) (gl_gisinstance T)
  have zra := ra.length
  have hg1 : ∀ n, n ∈ rowsG (shR 1 rowsj) → n ∈ rowsG rowsj := fun n hn => by
    unfold rowsG shR at hn
    rw [List.filterMap_map] at hn
    exact hn
  refine wpAny_If ?_
  walk_at "g"
  by_cases hw4 : wy = 4
  · rw [show (wy == 4) = true from by simp [hw4]]
    walk_at "g"
    refine c_take T ‹_› R TK (.tail (.tail (.tail (.tail .head)))) (by omega) (by decide) ?_
    intro lv t22 s22 hl0 hl3 H
    walk_at "g"
    refine r_newList ‹_› (Nat.le_of_ble_eq_true rfl) ?_
    intro bl s23 H
    walk_at "g"
    refine r_bytes1 H (rd_m H (.head _)) (.cons _ _ .nil) (fun n hn => by rw [List.mem_singleton.mp hn]; omega) (Nat.le_of_ble_eq_true rfl) R.h ?_
    intro t24 s24 H
    generalize byteArr [65 + lv] = o at *
    have H := H.drop
    walk_at "g"
    refine mk_str T ‹_› R ?_
    intro sx p25 s25 l25 hsx H
    have T := T.mono l25
    walk_at "g"
    refine r_newList ‹_› (Nat.le_of_ble_eq_true rfl) ?_
    intro l1 s26 H
    have H := H.swap
    walk_at "g"
    refine r_ladd ‹_› (rd_m ‹_› (by walk_at "mem")) (rd_p ‹_› (hij.mono l25)) (Nat.le_trans (by simp; omega) (Nat.le_of_ble_eq_true rfl : 4 ≤ sizeLine)) ?_
    intro ia s27 H
    refine St.fz H ?_
    intro p27 l27 hia H
    have H := H.drop2
    have T := T.mono l27
    walk_at "g"
    refine m_append (rd_m ‹_› (by walk_at "mem")) ?_
    walk_at "g"
    refine r_newTuple ‹_› (Nat.le_of_ble_eq_true rfl) ?_
    intro tp2 p28 s28 l28 htp2 H
    have T := T.mono l28
    walk_at "g"
    refine r_append ‹_› (by walk_at "upd") (Nat.le_trans (by omega) (Nat.le_of_ble_eq_true rfl : 1000 ≤ sizeLine)) ?_
    intro s29 H
    walk_at "g"
    have l028 := l25.trans (l27.trans l28)
    refine h ia _ [(0, .lab o)] _ p28 _ l028 ((ra.mono l028).append (.cons (.lab htp2) .nil)) (Nat.le_refl _) hg1 (fun v p2 kvs2 l2 k2 hv => ?_) ‹_›
    have := Tr.lab (k := j) hv (hia.mono (l28.trans l2)) (show vsj.length ≤ 1000 by omega) (o := o) (t := t24) ⟨sx, _, rfl, hsx.mono ((l27.trans l28).trans l2)⟩ ((trj.mono (l028.trans l2)).ext k2) .nil
    rw [List.append_nil] at this
    exact this
  · rw [show (wy == 4) = false from by simp [hw4]]
    walk_at "g"
    refine r_newList ‹_› (Nat.zero_le _) ?_
    intro nl s22 H
    have H := H.swap
    cases vsj with
    | nil =>
      refine r_lne_same (rd_p ‹_› hij) (rd_m H (by walk_at "mem")) rfl (fun j v u e => by cases e) R.cl ?_
      have H := (St.drop2 H).weak (P' := PlP (b + 1)) (.tail (.tail (.tail (.tail .head)))) (fun o ho => PlP.le ho (Nat.le_succ _))
      walk_at "g"
      refine h ij rvs [] _ p _ Le.rfl (by rw [List.append_nil]; exact ra) (Nat.zero_le _) hg1 (fun v p2 kvs2 l2 k2 hv => ?_) ‹_›
      have := Tr.arr (k := j) hv (hij.mono l2) (by simp) ((trj.mono l2).ext k2) (fun o e => by cases trj; cases e) .nil
      rw [List.append_nil] at this
      exact this
    | cons u us =>
      refine r_lne_len (rd_p ‹_› hij) (rd_m H (by walk_at "mem")) (by simp) R.cl ?_
      have H := H.drop2
      walk_at "g"
      refine sub_list (rd_p ‹_› hij) (by decide) (by simp) rfl ?_
      walk_at "g"
      have hus : us.length ≤ 1000 := by simp at hvj; omega
      rcases trj.head2 with ⟨o, t, rfl, hst, hI, tru⟩ | ⟨hno, ty, hv, hk⟩
      · obtain rfl : o = #[120] := hx o rfl
        refine r_isi T ‹_› hst.vt ki_r217_r217 ?_
        intro s23 H
        walk_at "g"
        refine m_append (rd_m ‹_› (by walk_at "mem")) ?_
        walk_at "g"
        refine r_newTuple ‹_› (Nat.le_of_ble_eq_true rfl) ?_
        intro tp2 p28 s28 l28 htp2 H
        have T := T.mono l28
        walk_at "g"
        refine r_append ‹_› (by walk_at "upd") (Nat.le_trans (by omega) (Nat.le_of_ble_eq_true rfl : 1000 ≤ sizeLine)) ?_
        intro s29 H
        have H := (‹St σ p28 (_ :: _ :: _ :: _ :: (pl, PlP _) :: _) _›).weak (P' := PlP (b + 1)) (.tail (.tail (.tail (.tail .head)))) (fun o ho => PlP.le ho (Nat.le_succ _))
        walk_at "g"
        refine h ij _ [(0, .lab #[120])] _ p28 _ l28 ((ra.mono l28).append (.cons (.lab htp2) .nil)) (Nat.le_refl _) hg1 (fun v p2 kvs2 l2 k2 hv => ?_) ‹_›
        have := Tr.lab (k := j) hv (hij.mono (l28.trans l2)) hus (hst.mono (l28.trans l2)) ((tru.mono (l28.trans l2)).ext k2) .nil
        rw [List.append_nil] at this
        exact this
      · refine r_isi T ‹_› hv hk ?_
        intro s23 H
        have H := (‹St σ p (_ :: _ :: _ :: _ :: (pl, PlP _) :: _) _›).weak (P' := PlP (b + 1)) (.tail (.tail (.tail (.tail .head)))) (fun o ho => PlP.le ho (Nat.le_succ _))
        walk_at "g"
        refine h ij rvs [] _ p _ Le.rfl (by rw [List.append_nil]; exact ra) (Nat.zero_le _) hg1 (fun v p2 kvs2 l2 k2 hv => ?_) ‹_›
        have := Tr.arr (k := j) hv (hij.mono l2) (by simp at hvj ⊢; omega) ((trj.mono l2).ext k2) hno .nil
        rw [List.append_nil] at this
        exact this
theorem all (x : eT) : eP x := eps (show eP ec by with_unfolding_all exact main) x
end it_lab_E
theorem it_lab {prog : Program} {w : World} {A : Around} {σ s : Shared} {p : Heap} {mu : List Cell} {mg mb : Str → Option Value} {env : Env} {sh TB f pl it rw' ij bw : Addr} {kvs : List (Int × Value)} {k b : Nat} {c : Cell} {vs rvs : List Value} {rows : Rws} {om od o1 o3 o6 : Option Value} {wy : Int} {tw : Tok} {Q : Flow → Shared → Prop} : it_lab_E.eS prog w A σ s p mu mg mb env sh TB f pl it rw' ij bw kvs k b c vs rvs rows om od o1 o3 o6 wy tw Q :=
  it_lab_E.all (prog, w, A, σ, s, p, mu, mg, mb, env, sh, TB, f, pl, it, rw', ij, bw, kvs, k, b, c, vs, rvs, rows, om, od, o1, o3, o6, wy, tw, Q)
section
variable {prog : Program} {w : World} {A : Around} {E : Value → Shared → Prop} {σ s : Shared} {p : Heap} {mu mu' : List Cell} {mg mb : Str → Option Value} {K : Frag} {env : Env}
variable {sh TB TR f pl it rw' ij bw : Addr} {kvs : List (Int × Value)}
set_option maxHeartbeats 4000000 in
theorem it_succ (j : Nat) (IH : ItC prog w j) {k m b many : Nat} {c : Cell} {vs rvs : List Value} {rows : Rws} {tm td tw : Tok} {o1 o3 o4 o5 o6 : Option Value} {wy : Int} {Q : Flow → Shared → Prop}
    (T : Tp (KK w) mg mb p) (hs : env.scope = (fdOf (KK w) 515).scope) (he : EnvOk env) (R : Rm A (k + 2 * j + 11))
    (H : St σ p ((env.locals, FrameP env [("take", some (.ref f)), ("shelf", some (.ref sh)), ("many", some (.int (many : Int) tm)), ("depth", some (.int ((j + 1 : Nat) : Int) td)), ("items", some (.ref it)), ("rows", some (.ref rw')), ("turn", o1), ("way", some (.int wy tw)), ("number", o3), ("inner", o4), ("below", o5), ("label", o6)]) ::
      c :: (rw', LsP rvs) :: (it, LsP vs) :: (pl, PlP b) :: (TB, DcP (intKind prog w) kvs) :: mu) s)
    (I : ShelfI p sh TB TR) (lo : (TB == sysModules) = false) (TK : TkI p f pl) (kt : KT kvs m) (hmany : many ≤ 4) (hmz : m + addp (j + 1) ≤ 80) (hB : b + 2 + takes j ≤ 449)
    (hlab : ∀ n : Int, 1 ≤ n → n ≤ many → ∃ o, LabAt prog w p kvs n o) (ra : RowsAt p rvs rows) (hvs : vs.length ≤ 2) (hz : rows.length ≤ 900)
    (h : ∀ v rnew rvs2 kvs2 m2 rw2 o1 o2 o3 o4 o5 o6 p' s', Le p p' → Tr prog w p' kvs2 (j + 1) [v] rnew .other → RowsAt p' rvs2 (rows ++ rnew) → KT kvs2 m2 → KLe kvs kvs2 → m2 ≤ m + addp (j + 1) → rnew.length ≤ rowp (j + 1) → (∀ n ∈ rowsG rnew, 1 ≤ n ∧ n ≤ (many : Int)) →
      St σ p' ((env.locals, FrameP env [("take", some (.ref f)), ("shelf", some (.ref sh)), ("many", some (.int (many : Int) tm)), ("depth", some (.int ((j + 1 : Nat) : Int) td)), ("items", some (.ref it)), ("rows", some (.ref rw2)), ("turn", o1), ("way", o2), ("number", o3), ("inner", o4), ("below", o5), ("label", o6)]) ::
        c :: (rw2, LsP rvs2) :: (it, LsP (vs ++ [v])) :: (pl, PlP (b + 2 + takes j)) :: (TB, DcP (intKind prog w) kvs2) :: mu) s' → Q .next s') :
    wpAny (model prog w) A (execs itSucc env) Q NE s := by
  have G__law_items := gnl hs (by kernel_rfl) (gl_glaw_items T)
  have q1 := rowz_takes j
  have q2 : addp (j + 1) = 1 + adds j := rfl
  have q3 : rowp (j + 1) = 1 + rowz j := rfl
  refine x_tuple ?_
  walk_at "g"
  rw [show (((j + 1 : Nat) : Int) - 1) = (j : Int) from by omega]
  have H20 := (‹St σ p (_ :: _ :: _ :: _ :: (pl, PlP _) :: _) _›).perm perm42
  refine IH (B := b) T H20 (show Rm A (k + 2 * j + 10) from R.less (by omega)) I lo TK kt hmany (by omega) (by omega) hlab ?_
  intro tp itj rwj vsj rvsj rowsj hdj p20 kvs2 m2 s20 l20 htp hitj hrwj trj hxj raj ktj klej hm2 hvsj hrowj hgj H
  have H := H.perm perm42.symm
  have T := T.mono l20
  have I := I.mono l20
  have TK := TK.mono l20
  have ra := ra.mono l20
  refine as_pair R.h ‹_› htp ?_
  intro s21 H
  refine st_loc ‹_› (by walk_at "put") ?_
  intro s22 H
  refine st_loc ‹_› (by walk_at "put") ?_
  intro s23 H
  refine wpAny_execs_cons ?_
  refine it_lab j T hs he R H TK (by omega) hitj trj hxj hvsj ra (by omega) ?_
  intro ia rvs2 rl o6 p24 s24 l24 ra2 hrl hgl hTr H
  have T := T.mono l24
  refine it_tail j T hs he R H (I.mono l24) lo (TK.mono l24) ktj (by omega) (by omega) hTr (hrwj.mono l24) (raj.mono l24) ra2 hvs (by omega) ?_
  intro v rvs3 kvs3 m3 rw3 p25 s25 l25 tr ra3 kt3 kle3 hm3 H
  rw [show b + takes j + 1 + 1 = b + 2 + takes j from by omega] at H
  exact h v _ rvs3 kvs3 m3 rw3 _ _ _ _ _ _ p25 s25 (l20.trans (l24.trans l25)) tr ra3 kt3 (klej.trans kle3) (by omega) (by rw [List.length_append, shR_len]; omega) (fun n hn => hgj n (hgl n hn)) H
end
noncomputable def lef : Nat → Nat
  | 0 => 1
  | d + 1 => 2 + takes d
theorem pert_lef (d : Nat) : pert d = 1 + lef d := by cases d <;> simp [pert, lef] <;> omega
section
variable {prog : Program} {w : World} {A : Around} {E : Value → Shared → Prop} {σ s : Shared} {p : Heap} {mu mu' : List Cell} {mg mb : Str → Option Value} {K : Frag} {env : Env}
variable {sh TB TR f pl it rw' ij bw : Addr} {kvs : List (Int × Value)}
noncomputable def itJunk : List Stmt := elseB (itElif[0]?.getD (.Pass default))
set_option maxHeartbeats 4000000 in
theorem it_junk (d : Nat) {k b : Nat} {c : Cell} {vs rvs : List Value} {om od o1 o2 o3 o4 o5 o6 : Option Value} {Q : Flow → Shared → Prop}
    (T : Tp (KK w) mg mb p) (hs : env.scope = (fdOf (KK w) 515).scope) (he : EnvOk env) (R : Rm A (k + 9))
    (H : St σ p ((env.locals, FrameP env [("take", some (.ref f)), ("shelf", some (.ref sh)), ("many", om), ("depth", od), ("items", some (.ref it)), ("rows", some (.ref rw')), ("turn", o1), ("way", o2), ("number", o3), ("inner", o4), ("below", o5), ("label", o6)]) ::
      c :: (rw', LsP rvs) :: (it, LsP vs) :: (pl, PlP b) :: (TB, DcP (intKind prog w) kvs) :: mu) s)
    (TK : TkI p f pl) (hB : b + 1 ≤ 449) (hvs : vs.length ≤ 2)
    (h : ∀ v hdx p' s', Le p p' → Tr prog w p' kvs d [v] [] hdx → HdX hdx →
      St σ p' ((env.locals, FrameP env [("take", some (.ref f)), ("shelf", some (.ref sh)), ("many", om), ("depth", od), ("items", some (.ref it)), ("rows", some (.ref rw')), ("turn", o1), ("way", o2), ("number", o3), ("inner", o4), ("below", o5), ("label", o6)]) ::
        c :: (rw', LsP rvs) :: (it, LsP (vs ++ [v])) :: (pl, PlP (b + 1)) :: (TB, DcP (intKind prog w) kvs) :: mu) s' → Q .next s') :
    wpAny (model prog w) A (execs itJunk env) Q NE s := by
  have G_Reference := gnl hs (by kernel_rfl) (gl_gReference T)
  have G_String := gnl hs (by kernel_rfl) (gl_gString T)
  refine x_expr he ?_
  walk_at "g"
  refine m_append (rd_m ‹_› (by walk_at "mem")) ?_
  walk_at "g"
  refine mk_ref T ‹_› R ?_
  intro rx p20 s20 l20 hrx H
  have T := T.mono l20
  walk_at "g"
  refine mk_str T ‹_› R ?_
  intro sx p21 s21 l21 hsx H
  have T := T.mono l21
  walk_at "g"
  refine r_newTuple ‹_› (Nat.le_of_ble_eq_true rfl) ?_
  intro tp p22 s22 l22 htp H
  have T := T.mono l22
  have l622 := l20.trans (l21.trans l22)
  have TK := TK.mono l622
  walk_at "g"
  refine c_take T ‹_› R TK (.tail (.tail (.tail (.tail .head)))) (by omega) (by decide) ?_
  intro jv tj s23 hj0 hj4 H
  have key : ∀ t7 : Tok, ∃ xv hdx, ([.int 7 t7, .none, .ref rx, .ref sx] : List Value)[jv.toNat]? = some xv ∧ HdX hdx ∧ Tr prog w p22 kvs d [xv] [] hdx := by
    intro t7
    rcases (show jv = 0 ∨ jv = 1 ∨ jv = 2 ∨ jv = 3 by omega) with rfl | rfl | rfl | rfl
    · exact ⟨_, .other, rfl, fun o e => (nomatch e), .junk .int .nil⟩
    · exact ⟨_, .other, rfl, fun o e => (nomatch e), .junk .non .nil⟩
    · exact ⟨_, .other, rfl, fun o e => (nomatch e), .junk (.miss ⟨rx, _, _, rfl, (hrx.mono l21).mono l22⟩) .nil⟩
    · exact ⟨_, .str #[120], rfl, fun o e => by cases e; rfl, .str ⟨sx, _, rfl, hsx.mono l22⟩ .nil⟩
  obtain ⟨xv, hdx, hx1, hx2, hx3⟩ := key _
  refine sub_tup (x := xv) ‹_› htp (by omega) (by omega) (by rcases (show jv = 0 ∨ jv = 1 ∨ jv = 2 ∨ jv = 3 by omega) with rfl | rfl | rfl | rfl <;> rfl) hx1 ?_
  walk_at "g"
  refine r_append ‹_› (by walk_at "upd") (Nat.le_trans hvs (Nat.le_of_ble_eq_true rfl : 2 ≤ sizeLine)) ?_
  intro s24 H
  walk_at "g"
  exact h xv hdx p22 _ l622 hx3 hx2 ‹_›

set_option maxHeartbeats 4000000 in
theorem it_elif (d : Nat) (IH : ∀ j, d = j + 1 → ItC prog w j) {k m b many : Nat} {c : Cell} {vs rvs : List Value} {rows : Rws} {tm td tw : Tok} {o1 o3 o4 o5 o6 : Option Value} {wy : Int} {Q : Flow → Shared → Prop}
    (T : Tp (KK w) mg mb p) (hs : env.scope = (fdOf (KK w) 515).scope) (he : EnvOk env) (R : Rm A (k + 2 * d + 9))
    (H : St σ p ((env.locals, FrameP env [("take", some (.ref f)), ("shelf", some (.ref sh)), ("many", some (.int (many : Int) tm)), ("depth", some (.int (d : Int) td)), ("items", some (.ref it)), ("rows", some (.ref rw')), ("turn", o1), ("way", some (.int wy tw)), ("number", o3), ("inner", o4), ("below", o5), ("label", o6)]) ::
      c :: (rw', LsP rvs) :: (it, LsP vs) :: (pl, PlP b) :: (TB, DcP (intKind prog w) kvs) :: mu) s)
    (I : ShelfI p sh TB TR) (lo : (TB == sysModules) = false) (TK : TkI p f pl) (kt : KT kvs m) (hmany : many ≤ 4) (hmz : m + addp d ≤ 80) (hB : b + lef d ≤ 449)
    (hlab : ∀ n : Int, 1 ≤ n → n ≤ many → ∃ o, LabAt prog w p kvs n o) (ra : RowsAt p rvs rows) (hvs : vs.length ≤ 2) (hz : rows.length ≤ 900)
    (h : ∀ v rnew hdx rvs2 kvs2 m2 rw2 o1 o2 o3 o4 o5 o6 p' s', Le p p' → Tr prog w p' kvs2 d [v] rnew hdx → HdX hdx → RowsAt p' rvs2 (rows ++ rnew) → KT kvs2 m2 → KLe kvs kvs2 → m2 ≤ m + addp d → rnew.length ≤ rowp d → (∀ n ∈ rowsG rnew, 1 ≤ n ∧ n ≤ (many : Int)) →
      St σ p' ((env.locals, FrameP env [("take", some (.ref f)), ("shelf", some (.ref sh)), ("many", some (.int (many : Int) tm)), ("depth", some (.int (d : Int) td)), ("items", some (.ref it)), ("rows", some (.ref rw2)), ("turn", o1), ("way", o2), ("number", o3), ("inner", o4), ("below", o5), ("label", o6)]) ::
        c :: (rw2, LsP rvs2) :: (it, LsP (vs ++ [v])) :: (pl, PlP (b + lef d)) :: (TB, DcP (intKind prog w) kvs2) :: mu) s' → Q .next s') :
    wpAny (model prog w) A (execs itElif env) Q NE s := by
  have q0 : 1 ≤ lef d := by cases d <;> simp [lef]; omega
  have junk : ∀ s, St σ p ((env.locals, FrameP env [("take", some (.ref f)), ("shelf", some (.ref sh)), ("many", some (.int (many : Int) tm)), ("depth", some (.int (d : Int) td)), ("items", some (.ref it)), ("rows", some (.ref rw')), ("turn", o1), ("way", some (.int wy tw)), ("number", o3), ("inner", o4), ("below", o5), ("label", o6)]) ::
      c :: (rw', LsP rvs) :: (it, LsP vs) :: (pl, PlP b) :: (TB, DcP (intKind prog w) kvs) :: mu) s → wpAny (model prog w) A (execs itJunk env) (fun f s' => match f with | .next => wpAny (model prog w) A (execs [] env) Q NE s' | f => Q f s') NE s := by
    intro s H
    refine it_junk d T hs he R H TK (by omega) hvs ?_
    intro v hdx p' s' l' tr hx H
    refine x_nil ?_
    exact h v [] hdx rvs kvs m rw' _ _ _ _ _ _ p' s' l' tr hx (by rw [List.append_nil]; exact ra.mono l') kt KLe.rfl (Nat.le_add_right _ _) (Nat.zero_le _) (fun n hn => nomatch hn)
      (H.weak (.tail (.tail (.tail (.tail .head)))) (fun o ho => PlP.le ho (by omega)))
  refine x_if ?_
  walk_at "g"
  by_cases hw5 : wy < 5
  · rw [decide_eq_true hw5]
    walk_at "g"
    cases d with
    | zero =>
      rw [show decide ((0 : Int) < ((0 : Nat) : Int)) = false from rfl]
      refine ite_f ?_
      refine ite_f ?_
      exact junk _ ‹_›
    | succ j =>
      rw [show decide ((0 : Int) < ((j + 1 : Nat) : Int)) = true from decide_eq_true (by omega)]
      refine ite_t ?_
      refine and_nil ?_
      refine ite_t ?_
      refine it_succ j (IH j rfl) (k := k) T hs he R ‹_› I lo TK kt hmany hmz ?_ hlab ra hvs hz ?_
      · have : lef (j + 1) = 2 + takes j := rfl
        omega
      intro v rnew rvs2 kvs2 m2 rw2 o1 o2 o3 o4 o5 o6 p' s' l' tr ra2 kt2 kle hm2 hr hg H
      refine x_nil ?_
      rw [show b + 2 + takes j = b + lef (j + 1) from by show _ = b + (2 + takes j); omega] at H
      exact h v rnew .other rvs2 kvs2 m2 rw2 _ _ _ _ _ _ p' s' l' tr (fun o e => nomatch e) ra2 kt2 kle hm2 hr hg H
  · rw [decide_eq_false hw5]
    refine ite_f ?_
    refine ite_f ?_
    exact junk _ ‹_›

noncomputable def itI (prog : Program) (w : World) (p : Heap) (mu : List Cell) (sh TB f pl it : Addr) (kvs : List (Int × Value)) (m B many : Nat) (tm td : Tok) (d : Nat) (i : Nat) (p' : Heap) (fs' : List (Str × Option Value)) (mu' : List Cell) : Prop :=
  ∀ C : List (Str × Option Value) → List Cell → Prop, (∀ vs rvs rows hd kvs' m' rw' o1 o2 o3 o4 o5 o6, Le p p' →
      Tr prog w p' kvs' d vs rows hd → HdX hd → RowsAt p' rvs rows → KT kvs' m' → KLe kvs kvs' → m' ≤ m + i * addp d → vs.length ≤ i → rows.length ≤ i * rowp d → (∀ n ∈ rowsG rows, 1 ≤ n ∧ n ≤ (many : Int)) →
      C [("take", some (.ref f)), ("shelf", some (.ref sh)), ("many", some (.int (many : Int) tm)), ("depth", some (.int (d : Int) td)), ("items", some (.ref it)), ("rows", some (.ref rw')), ("turn", o1), ("way", o2), ("number", o3), ("inner", o4), ("below", o5), ("label", o6)]
        ((rw', LsP rvs) :: (it, LsP vs) :: (pl, PlP (B + 1 + i * pert d)) :: (TB, DcP (intKind prog w) kvs') :: mu)) → C fs' mu'
end
namespace it_run_E
noncomputable section
def eS (prog : Program) (w : World) (d : Nat) (A : Around) (E : Value → Shared → Prop) (σ s : Shared) (p : Heap) (mu : List Cell) (mg mb : Str → Option Value) (sh TB TR f pl : Addr) (kvs : List (Int × Value)) (m B many : Nat) (tm td : Tok) (k : Nat) (Q : Value → Shared → Prop) : Prop := ∀ (IH : ∀ j, d = j + 1 → ItC prog w j) (T : Tp (KK w) mg mb p) (H : St σ p ((pl, PlP B) :: (TB, DcP (intKind prog w) kvs) :: mu) s) (R : Rm A (k + 2 * d + 10)) (I : ShelfI p sh TB TR) (lo : (TB == sysModules) = false) (TK : TkI p f pl) (KT0 : KT kvs m) (hmany : many ≤ 4) (hmz : m + adds d ≤ 80) (hB : B + takes d ≤ 449) (hlab : ∀ n : Int, 1 ≤ n → n ≤ many → ∃ o, LabAt prog w p kvs n o) (h : ∀ t it rw vs rvs rows hd p' kvs' m' s', Le p p' → p'.get? t = some (tupObj [.ref it, .ref rw]) → Pt p' it (LsP vs) → Pt p' rw (LsP rvs) → Tr prog w p' kvs' d vs rows hd → HdX hd → RowsAt p' rvs rows → KT kvs' m' → KLe kvs kvs' → m' ≤ m + adds d →
      vs.length ≤ 3 → rows.length ≤ rowz d → (∀ n ∈ rowsG rows, 1 ≤ n ∧ n ≤ (many : Int)) → St σ p' ((pl, PlP (B + takes d)) :: (TB, DcP (intKind prog w) kvs') :: mu) s' → Q (.ref t) s'), wpAny (model prog w) A (call (.ref 515) [.ref f, .ref sh, .int (many : Int) tm, .int (d : Int) td]) Q E s
abbrev eT := (Program) × (World) × (Nat) × (Around) × (Value → Shared → Prop) × (Shared) × (Shared) × (Heap) × (List Cell) × (Str → Option Value) × (Str → Option Value) × (Addr) × (Addr) × (Addr) × (Addr) × (Addr) × (List (Int × Value)) × (Nat) × (Nat) × (Nat) × (Tok) × (Tok) × (Nat) × (Value → Shared → Prop)
def eg1 (x : eT) := x.2.2.2.2.2.2.2.2
def eg2 (x : eT) := (eg1 x).2.2.2.2.2.2.2.2
def eP (x : eT) : Prop := eS x.1 x.2.1 x.2.2.1 x.2.2.2.1 x.2.2.2.2.1 x.2.2.2.2.2.1 x.2.2.2.2.2.2.1 x.2.2.2.2.2.2.2.1 (eg1 x).1 (eg1 x).2.1 (eg1 x).2.2.1 (eg1 x).2.2.2.1 (eg1 x).2.2.2.2.1 (eg1 x).2.2.2.2.2.1 (eg1 x).2.2.2.2.2.2.1 (eg1 x).2.2.2.2.2.2.2.1 (eg2 x).1 (eg2 x).2.1 (eg2 x).2.2.1 (eg2 x).2.2.2.1 (eg2 x).2.2.2.2.1 (eg2 x).2.2.2.2.2.1 (eg2 x).2.2.2.2.2.2.1 (eg2 x).2.2.2.2.2.2.2
noncomputable def ec : eT := @Classical.epsilon eT ⟨(default, dW, default, dA, default, dS, dS, default, default, default, default, default, default, default, default, default, default, default, default, default, default, default, default, default)⟩ fun x => ¬ eP x
@[irreducible] def prog := ec.1
@[irreducible] def w := ec.2.1
@[irreducible] def d := ec.2.2.1
@[irreducible] def A := ec.2.2.2.1
@[irreducible] def E := ec.2.2.2.2.1
@[irreducible] def σ := ec.2.2.2.2.2.1
@[irreducible] def s := ec.2.2.2.2.2.2.1
@[irreducible] def p := ec.2.2.2.2.2.2.2.1
@[irreducible] def mu := (eg1 ec).1
@[irreducible] def mg := (eg1 ec).2.1
@[irreducible] def mb := (eg1 ec).2.2.1
@[irreducible] def sh := (eg1 ec).2.2.2.1
@[irreducible] def TB := (eg1 ec).2.2.2.2.1
@[irreducible] def TR := (eg1 ec).2.2.2.2.2.1
@[irreducible] def f := (eg1 ec).2.2.2.2.2.2.1
@[irreducible] def pl := (eg1 ec).2.2.2.2.2.2.2.1
@[irreducible] def kvs := (eg2 ec).1
@[irreducible] def m := (eg2 ec).2.1
@[irreducible] def B := (eg2 ec).2.2.1
@[irreducible] def many := (eg2 ec).2.2.2.1
@[irreducible] def tm := (eg2 ec).2.2.2.2.1
@[irreducible] def td := (eg2 ec).2.2.2.2.2.1
@[irreducible] def k := (eg2 ec).2.2.2.2.2.2.1
@[irreducible] def Q := (eg2 ec).2.2.2.2.2.2.2
end
set_option maxHeartbeats 4000000 in
theorem main : eS prog w d A E σ s p mu mg mb sh TB TR f pl kvs m B many tm td k Q := by
  intro  IH T H R I lo TK KT0 hmany hmz hB hlab h
  refine call_of (enter0 (fs := [("take", some (.ref f)), ("shelf", some (.ref sh)), ("many", some (.int (many : Int) tm)), ("depth", some (.int (d : Int) td)), ("items", none), ("rows", none), ("turn", none), ("way", none), ("number", none), ("inner", none), ("below", none), ("label", none)]) (binds := [("take", .ref f), ("shelf", .ref sh), ("many", .int (many : Int) tm), ("depth", .int (d : Int) td)]) T H R d515 (by kernel_rfl) (by kernel_rfl) (by kernel_rfl) (by kernel_rfl) ?_)
  intro A env s1 hs he H R
  have G_range := gnl hs (by kernel_rfl) (gl_grange T)
  have G_Reference := gnl hs (by kernel_rfl) (gl_gReference T)
  have hrt := rowz_takes d
  refine x_assign ?_
  walk_at "g"
  refine r_newList ‹_› (Nat.zero_le _) ?_
  intro it s2 H
  have H := H.swap
  walk_at "g"
  refine r_newList ‹_› (Nat.zero_le _) ?_
  intro rw s3 H
  have H := H.swap
  walk_at "g"
  refine x_for ?_
  walk_at "g"
  refine c_take T ‹_› R TK (.tail (.tail (.tail .head))) (by have := takes_pos d; omega) (by decide) ?_
  intro n4 t4 s4 hn0 hn4 H
  walk_at "g"
  refine r_range1 ‹_› ?_
  intro rg p5 s5 l5 hrg H
  have T := T.mono l5
  refine for_go (I := itI prog w p mu sh TB f pl it kvs m B many tm td d) R.h (itb_range hrg (by decide) (by omega)) ‹_› (fun _ K => by
      have z := K [] [] [] .empty kvs m rw none none none none none none l5 Tr.nil (fun o e => nomatch e) RowsAt.nil KT0 KLe.rfl (by omega) (Nat.zero_le _) (Nat.zero_le _) (fun n hn => nomatch hn)
      rw [Nat.zero_mul, Nat.add_zero] at z
      exact z) ?_ ?_
  · intro i p6 fs6 mu6 c v s6 hi l6 J hv
    apply J
    clear J fs6 mu6
    intro vs rvs rows hd kvs' m' rw' o1 o2 o3 o4 o5 o6 l06 tr hx ra kt kle hm' hvs hrz hgb
    refine ex11 hv ?_
    clear hv
    intro tv hv
    rw [hv]
    clear hv v
    intro H
    have hi3 : i ≤ 2 := by omega
    have e1 : i * pert d + pert d ≤ 3 * pert d := by have := Nat.mul_le_mul_right (pert d) (show i + 1 ≤ 3 by omega); rw [Nat.succ_mul] at this; exact this
    have e2 : i * addp d + addp d ≤ 3 * addp d := by have := Nat.mul_le_mul_right (addp d) (show i + 1 ≤ 3 by omega); rw [Nat.succ_mul] at this; exact this
    have e3 : i * rowp d + rowp d ≤ 3 * rowp d := by have := Nat.mul_le_mul_right (rowp d) (show i + 1 ≤ 3 by omega); rw [Nat.succ_mul] at this; exact this
    have q1 := takes_eq d
    have q2 := adds_eq d
    have q3 := rowz_eq d
    have q4 : 2 ≤ pert d := pert_pos d
    have q5 := pert_lef d
    have hrows : rows.length ≤ 900 := by omega
    have T := T.mono l6
    have TK := TK.mono l06
    have I := I.mono l06
    have next : ∀ v rnew hdx rvs2 kvs2 m2 rw2 o1 o2 o3 o4 o5 o6 p' s' b, b ≤ B + 1 + (i + 1) * pert d → Le p6 p' → Tr prog w p' kvs2 d [v] rnew hdx → HdX hdx → RowsAt p' rvs2 (rows ++ rnew) → KT kvs2 m2 → KLe kvs' kvs2 → m2 ≤ m' + addp d → rnew.length ≤ rowp d → (∀ n ∈ rowsG rnew, 1 ≤ n ∧ n ≤ (many : Int)) →
        St σ p' ((env.locals, FrameP env [("take", some (.ref f)), ("shelf", some (.ref sh)), ("many", some (.int (many : Int) tm)), ("depth", some (.int (d : Int) td)), ("items", some (.ref it)), ("rows", some (.ref rw2)), ("turn", o1), ("way", o2), ("number", o3), ("inner", o4), ("below", o5), ("label", o6)]) ::
          c :: (rw2, LsP rvs2) :: (it, LsP (vs ++ [v])) :: (pl, PlP b) :: (TB, DcP (intKind prog w) kvs2) :: mu) s' →
        ∀ Q : Flow → Shared → Prop, TurnQ σ env (itI prog w p mu sh TB f pl it kvs m B many tm td d) i p6 c Q .next s' := by
      intro v rnew hdx rvs2 kvs2 m2 rw2 o1 o2 o3 o4 o5 o6 p' s' b hb l' tr2 hx2 ra2 kt2 kle2 hm2 hr2 hg2 H Q
      refine turn_of l' (fun _ K => K _ _ _ _ kvs2 m2 rw2 _ _ _ _ _ _ (l06.trans l') (((tr.mono l').ext kle2).append tr2) (hx.of hx2) ra2 kt2 (kle.trans kle2) ?_ ?_ ?_ ?_) (H.weak (.tail (.tail (.tail (.tail .head)))) (fun o ho => PlP.le ho hb))
      · rw [Nat.succ_mul]; omega
      · simp; omega
      · rw [Nat.succ_mul, List.length_append]; omega
      · intro n hn
        rw [rowsG_app] at hn
        rcases List.mem_append.mp hn with hn | hn
        · exact hgb n hn
        · exact hg2 n hn
    generalize hb : B + 1 + i * pert d = b at *
    have hlab' : ∀ n : Int, 1 ≤ n → n ≤ many → ∃ o, LabAt prog w p6 kvs' n o := fun n h1 h2 => let ⟨o, ho⟩ := hlab n h1 h2; ⟨o, (ho.mono l06).ext kle⟩
    walk_at "g"
    refine c_take T ‹_› R TK (.tail (.tail (.tail (.tail .head)))) (by omega) (by decide) ?_
    intro wy tw s7 hw0 hw6 H
    walk_at "g"
    by_cases hw2 : wy < 2
    · rw [decide_eq_true hw2]
      walk_at "g"
      by_cases hm0 : (0 : Int) < (many : Int)
      · rw [decide_eq_true hm0]
        walk_at "g"
        refine c_take T ‹_› R TK (.tail (.tail (.tail (.tail .head)))) (by omega) hm0 ?_
        intro nv tn s9 hn0 hn1 H
        walk_at "g"
        refine m_append (rd_m ‹_› (by walk_at "mem")) ?_
        walk_at "g"
        refine mk_ref T ‹_› R ?_
        intro rx p10 s10 l10 hrx H
        have T := T.mono l10
        walk_at "g"
        refine r_append ‹_› (by walk_at "upd") (Nat.le_trans hvs (Nat.le_trans (by omega) (Nat.le_of_ble_eq_true rfl : 3 ≤ sizeLine))) ?_
        intro s11 H
        walk_at "g"
        refine m_append (rd_m ‹_› (by walk_at "mem")) ?_
        walk_at "g"
        refine r_newTuple ‹_› (Nat.le_of_ble_eq_true rfl) ?_
        intro tp p12 s12 l12 htp H
        have elen := ra.length
        walk_at "g"
        refine r_append ‹_› (by walk_at "upd") (Nat.le_trans (show rvs.length ≤ 900 by omega) (Nat.le_of_ble_eq_true rfl)) ?_
        intro s13 H
        walk_at "g"
        refine ex11 (hlab' (1 + nv) (by omega) (by omega)) ?_
        intro lo' hlo'
        have l1012 := l10.trans l12
        have hRI : RefI p12 (.ref rx) (1 + nv) 0 := ⟨rx, _, _, rfl, hrx.mono l12⟩
        refine next (.ref rx) [(0, .grp (1 + nv))] .other _ kvs' m' rw' _ _ _ _ _ _ p12 _ (b + 1 + 1) (by rw [Nat.succ_mul]; omega) l1012 (.grp hRI ((hlo'.mono l1012).isG hRI) .nil) (fun o e => nomatch e) ((ra.mono l1012).append (.cons (.grp htp) .nil)) kt KLe.rfl (by omega) (by have := rowp_pos d; simpa using this) ?_ ‹_› _
        intro n hn
        have : n = 1 + nv := List.mem_singleton.mp hn
        omega
      · rw [decide_eq_false hm0]
        refine ite_f ?_
        refine ite_f ?_
        refine it_elif d IH (k := k) T hs he R ‹_› I lo TK kt hmany (by omega) (by omega) hlab' ra (by omega) hrows ?_
        intro v rnew hdx rvs2 kvs2 m2 rw2 o1 o2 o3 o4 o5 o6 p' s' l' tr2 hx2 ra2 kt2 kle2 hm2 hr2 hg2 H
        refine x_nil ?_
        exact next v rnew hdx rvs2 kvs2 m2 rw2 _ _ _ _ _ _ p' s' _ (by rw [Nat.succ_mul]; omega) l' tr2 hx2 ra2 kt2 kle2 hm2 hr2 hg2 H _
    · rw [decide_eq_false hw2]
      refine ite_f ?_
      refine ite_f ?_
      refine it_elif d IH (k := k) T hs he R ‹_› I lo TK kt hmany (by omega) (by omega) hlab' ra (by omega) hrows ?_
      intro v rnew hdx rvs2 kvs2 m2 rw2 o1 o2 o3 o4 o5 o6 p' s' l' tr2 hx2 ra2 kt2 kle2 hm2 hr2 hg2 H
      refine x_nil ?_
      exact next v rnew hdx rvs2 kvs2 m2 rw2 _ _ _ _ _ _ p' s' _ (by rw [Nat.succ_mul]; omega) l' tr2 hx2 ra2 kt2 kle2 hm2 hr2 hg2 H _
  · intro p6 fs6 mu6 s6 l6 J
    apply J
    clear J fs6 mu6
    intro vs rvs rows hd kvs' m' rw' o1 o2 o3 o4 o5 o6 l06 tr hx ra kt kle hm' hvs hrz hgb H
    have hN : (n4 - 0).toNat ≤ 3 := by omega
    generalize (n4 - 0).toNat = N at *
    have e1 : N * pert d ≤ 3 * pert d := Nat.mul_le_mul_right _ hN
    have e2 : N * addp d ≤ 3 * addp d := Nat.mul_le_mul_right _ hN
    have e3 : N * rowp d ≤ 3 * rowp d := Nat.mul_le_mul_right _ hN
    have q1 := takes_eq d
    have q2 := adds_eq d
    have q3 := rowz_eq d
    walk_at "g"
    refine r_newTuple ‹_› (Nat.le_of_ble_eq_true rfl) ?_
    intro t p7 s7 l7 ht H
    refine St.fz2 H ?_
    intro p8 l8 hrw H
    refine St.fz2 H ?_
    intro p9 l9 hit H
    have l69 := l7.trans (l8.trans l9)
    exact h t it rw' vs rvs rows hd p9 kvs' m' _ (l06.trans l69) (l9 _ _ (l8 _ _ ht)) hit (hrw.mono l9) (tr.mono l69) hx (ra.mono l69) kt kle (by omega) (by omega) (by omega) hgb (H.drop.weak .head fun o ho => PlP.le ho (by omega))
theorem all (x : eT) : eP x := eps (show eP ec by with_unfolding_all exact main) x
end it_run_E
theorem it_run {prog : Program} {w : World} {d : Nat} {A : Around} {E : Value → Shared → Prop} {σ s : Shared} {p : Heap} {mu : List Cell} {mg mb : Str → Option Value} {sh TB TR f pl : Addr} {kvs : List (Int × Value)} {m B many : Nat} {tm td : Tok} {k : Nat} {Q : Value → Shared → Prop} : it_run_E.eS prog w d A E σ s p mu mg mb sh TB TR f pl kvs m B many tm td k Q :=
  it_run_E.all (prog, w, d, A, E, σ, s, p, mu, mg, mb, sh, TB, TR, f, pl, kvs, m, B, many, tm, td, k, Q)
section
variable {prog : Program} {w : World} {A : Around} {E : Value → Shared → Prop} {σ s : Shared} {p : Heap} {mu mu' : List Cell} {mg mb : Str → Option Value} {K : Frag} {env : Env}
variable {sh TB TR f pl it rw' ij bw : Addr} {kvs : List (Int × Value)}
theorem it_step (d : Nat) (IH : ∀ j, d = j + 1 → ItC prog w j) : ItC prog w d := fun T H R I lo TK KT0 hmany hmz hB hlab h => it_run IH T H R I lo TK KT0 hmany hmz hB hlab h
theorem itC (prog : Program) (w : World) : ∀ d, ItC prog w d := by
  intro d
  induction d with
  | zero => exact it_step 0 fun j e => by omega
  | succ d ih => exact it_step (d + 1) fun j e => by cases e; exact ih
end
section
variable {w : World}
theorem x71_set : findIn (KK w) (.ref 71) "__setattr__" = some (some (.builtin "object.__setattr__")) := by kernel_rfl
theorem x71_init : findIn (KK w) (.ref 71) "__init__" = some (some (.ref 36)) := by kernel_rfl
theorem x36_type : typeIn (KK w) (.ref 36) = some (.type "function") := by kernel_rfl
theorem x71_what : takerIn (KK w) 71 "what" = some none := by kernel_rfl
theorem x71_at : takerIn (KK w) 71 "at" = some none := by kernel_rfl
theorem x71_dict : hasDictIn (KK w) 71 = true := by kernel_rfl
theorem x71_mro : (clsIn (KK w) 71).map (·.mro) = some [.ref 71, .ref 46, .type "Exception", .type "BaseException", .type "object"] := by kernel_rfl
theorem x71_obj : mroIn (KK w) 71 (.type "object") = some true := by kernel_rfl
theorem refuse_exc (self : Value) : refuseLoop self "__setattr__" [.ref 71, .ref 46, .type "Exception", .type "BaseException", .type "object"] = pure () := by
  rw [refuseLoop_ref, refuseLoop_ref]; exact PySem.F.store_Exception.passes self
theorem x71_lookup : ∃ nm q N bs sn sub ab col dd k0 k1 k2 k3 k5, (KK w).lookup 71 = some (excClassObj nm q 71 N bs [.ref 46, .type "Exception", .type "BaseException", .type "object"] true sn sub ab col dd k0 k1 k2 k3 k5 "Exception.__new__") := by
  refine ⟨"DraftFault", "DraftFault", 70, [.ref 46], [], [], false, none, none, some (.ref 62), none, some (.str "DraftFault" 252), some (.str "DraftFault" 260), some (.bool true), ?_⟩
  kernel_rfl
end
noncomputable abbrev bmX : List Value := [.ref 46, .type "Exception", .type "BaseException", .type "object"]
noncomputable abbrev exObj (dd : Option Addr) (t : Addr) : Obj := { cls := .ref 71, dict := dd, data := .fields #[.ref t, .none, .none, .none, .bool false, .none] }
section
variable {M : Model} {prog : Program} {w : World} {A : Around} {E : Value → Shared → Prop} {h : Heap} {g : Array GenState} {d : Drawn} {t : Nat} {os : OsState} {R : Result → Shared → Prop}
variable {nm q : Str} {N : Addr} {bs : List Value} {sn : List Str} {sub : List Value} {ab : Bool} {col : Option Bool} {dd : Option Addr} {k0 k1 k2 k3 k5 : Option Value}
theorem xc_new {rest : List Value} {Q : Unit → Shared → Prop} (hC : h.get? 71 = some (excClassObj nm q 71 N bs bmX true sn sub ab col dd k0 k1 k2 k3 k5 "Exception.__new__"))
    (hq : Q () ⟨h, g, d, t, os⟩) : wpAny M A (checkBuiltinCall "Exception.__new__" ⟨.ref 71 :: rest, []⟩) Q E ⟨h, g, d, t, os⟩ := by
  have F := PySem.F.excBase_Exception
  have hB : (Value.ref 71 :: bmX).contains (.type "Exception") = true := by decide
  have hstar := F.noStar
  simp only [checkBuiltinCall, F.newKind, F.newSplit, F.newRow]
  repeat (first | refine wpAny_loadPart_at hC ?_ | (refine wpAny_isSubtype_exc hC ?_; rw [hB]) | refine wpAny_staticBase_exc hC ?_ | refine wpAny_madeBy_exc hC ?_ | simp only [bne_self_eq_false, Bool.false_eq_true, if_false] | wp_step)
  exact hq
theorem x_new {rest : List Value} (hC : h.get? 71 = some (excClassObj nm q 71 N bs bmX true sn sub ab col dd k0 k1 k2 k3 k5 "Exception.__new__"))
    (hq : R (.ok (.ret (.ref (h.objs.size + 1)))) ⟨(h.push { cls := .type "tuple", data := .seq rest.toArray }).push (exObj none h.objs.size), g, d, t, os⟩) (hz : rest.length ≤ sizeLine) :
    codeAny (model prog w) A (.builtin "Exception.__new__" ⟨.ref 71 :: rest, []⟩) R ⟨h, g, d, t, os⟩ := by
  have F := PySem.F.excBase_Exception
  have hends := F.ends
  have hB : (Value.ref 71 :: bmX).contains (.type "Exception") = true := by decide
  have hA : (Value.ref 71 :: bmX).contains (.type "AttributeError") = false := by decide
  have hN : (Value.ref 71 :: bmX).contains (.type "NameError") = false := by decide
  refine codeAny_builtinAt F.entry ?_
  unfold Builtin.«BaseException.__new__»
  refine PySem.wpAt_bind ?_
  show PySem.wpAt _ _ _ (stack >>= _) _ _ _
  refine PySem.wpAt_bind (PySem.wpAt_stack fun p below => PySem.wpAt_of_wpAny ?_)
  wp_walk
  refine PySem.wpAt_of_wpAny ?_
  rw [F.owner]
  repeat (first | with_reducible refine wpAny_madeHere_exc F.canon hC ?_ | with_reducible refine wpAny_loadPart_at hC ?_ | (with_reducible refine wpAny_isSubtype_exc hC ?_; first | rw [hB] | rw [hA] | rw [hN]) | wp_step)
  show R _ _
  rw [Heap.size_push]
  exact hq
theorem x_tcall {K : Frag} {rest : List Value} {fI : Addr} {Q : Fin → Shared → Prop} (X : K.In h)
    (hC : h.get? 71 = some (excClassObj nm q 71 N bs bmX true sn sub ab col dd k0 k1 k2 k3 k5 "Exception.__new__")) (hi : findIn K (.ref 71) "__init__" = some (some (.ref fI))) (hf : typeIn K (.ref fI) = some (.type "function"))
    (hq : wpAny (model prog w) A (call (.ref fI) (.ref (h.objs.size + 1) :: rest)) (fun r s' => r = .none ∧ Q (.done (.ret (.ref (h.objs.size + 1)))) s') E
      ⟨(h.push { cls := .type "tuple", data := .seq rest.toArray }).push (exObj none h.objs.size), g, d, t, os⟩) (hz : rest.length ≤ sizeLine) :
    wpAny (model prog w) A (Builtin.«type.__call__» ⟨.ref 71 :: rest, []⟩) Q E ⟨h, g, d, t, os⟩ := by
  have F := PySem.F.excBase_Exception
  repeat (first | with_reducible refine wpAny_loadPart_at hC ?_ | with_reducible refine wpAny_madeBy_exc hC ?_ | wp_step)
  refine codeAny_call_builtin_code (Code.quiet_builtin _ F.quiet) (xc_new hC ?_)
  refine x_new hC ?_ hz
  show wpAny _ _ _ _ _ _
  have hk : ∀ b o, h.get? b = some o → ((h.push { cls := .type "tuple", data := .seq rest.toArray }).push (exObj none h.objs.size)).get? b = some o := fun b o e => Heap.get?_push_of_some _ (Heap.get?_push_of_some _ e)
  have hC₁ := hk _ _ hC
  have X₁ : K.In ((h.push { cls := .type "tuple", data := .seq rest.toArray }).push (exObj none h.objs.size)) := fun a o e => hk _ _ (X a o e)
  have hget : ((h.push { cls := .type "tuple", data := .seq rest.toArray }).push (exObj none h.objs.size)).get? (h.objs.size + 1) = some (exObj none h.objs.size) := by heap_get
  have hcC : (Value.ref 71 :: bmX).contains (.ref 71) = true := by simp
  unfold isInstance
  repeat (first | with_reducible refine wpAny_loadPart_at hget ?_ | (with_reducible refine wpAny_isSubtype_exc hC₁ ?_; rw [hcC]) | wp_step)
  show wpAny _ _ (typeLookup (.ref 71) _) _ _ _
  refine (looks_findIn X₁ hi) _ _ _ _ (fun _ _ e => e) ?_
  refine wpAny_holding (wpAny_bind ?_)
  refine (bind_fn X₁ _ hf) _ _ _ _ (fun _ _ e => e) ?_
  refine wpAny_bind (wpAny_mono hq (fun r s' hr => ?_) fun _ _ x => x)
  obtain ⟨rfl, hQ⟩ := hr
  wp_walk
  exact hQ
theorem x_call {K : Frag} {rest : List Value} {fI : Addr} {Q : Value → Shared → Prop} (X : K.In h)
    (hC : h.get? 71 = some (excClassObj nm q 71 N bs bmX true sn sub ab col dd k0 k1 k2 k3 k5 "Exception.__new__")) (hi : findIn K (.ref 71) "__init__" = some (some (.ref fI))) (hf : typeIn K (.ref fI) = some (.type "function"))
    (hq : wpAny (model prog w) (A.under (.builtin "type.__call__" ⟨.ref 71 :: rest, []⟩)) (call (.ref fI) (.ref (h.objs.size + 1) :: rest)) (fun r s' => r = .none ∧ Q (.ref (h.objs.size + 1)) s') E
      ⟨(h.push { cls := .type "tuple", data := .seq rest.toArray }).push (exObj none h.objs.size), g, d, t, os⟩) (hz : rest.length ≤ sizeLine) :
    wpAny (model prog w) A (call (.ref 71) rest) Q E ⟨h, g, d, t, os⟩ := by
  have f1 := tc_lookup
  have f2 := tc_bind (.ref 71)
  have hT : (⟨h, g, d, t, os⟩ : Shared).TypeIs (.ref 71) "type" := ⟨_, hC, rfl⟩
  refine wpAny_call (codeAny_of_tree ?_)
  show wpAny _ _ (callAny (.ref 71) _) _ _ _
  repeat (any_goals (first | assumption | with_reducible refine wpAny_loadPart_at hC ?_ | wp_step))
  refine ⟨rfl, ?_⟩
  refine codeAny_call_builtin_at (Code.quiet_builtin _ (by decide +kernel)) entry_typeCall (wpAny_check_type_call_sub hC (x_tcall X hC hi hf ?_ hz))
  exact hq
theorem x_raise {env : Env} {s : Shared} {x : Sem Value} {Q : Flow → Shared → Prop} (hh : A.handled = none)
    (hx : wpAny (model prog w) A x (fun v s₁ => ∃ e t de, v = .ref e ∧ s₁.heap.get? 71 = some (excClassObj nm q 71 N bs bmX true sn sub ab col dd k0 k1 k2 k3 k5 "Exception.__new__") ∧ s₁.heap.get? e = some (exObj de t) ∧ E (.ref e) s₁) E s) :
    wpAny (model prog w) A (raiseStmt env (some x) none) Q E s := by
  have hB : (Value.ref 71 :: bmX).contains (.type "BaseException") = true := by decide
  unfold raiseStmt
  refine wpAny_bind (wpAny_mono hx (fun v s₁ h₁ => ?_) fun _ _ x => x)
  obtain ⟨e, t, de, rfl, hC, he, hE⟩ := h₁
  obtain ⟨hp, g, d, tk, os⟩ := s₁
  repeat (first | with_reducible refine wpAny_loadPart_at he ?_ | with_reducible refine wpAny_loadPart_at hC ?_ | (with_reducible refine wpAny_isSubtype_exc hC ?_; rw [hB]) | wp_step)
  exact wpAny_raiseNew_none hh hE
theorem x_caught {env : Env} {s : Shared} {e : Addr} {x : Str} {np : Pos} {b₀ : Stmt} {suite : List Stmt} {pos : Pos} {rest : List ExceptHandler} {Q : Flow → Shared → Prop}
    (hx : wpAny (model prog w) (A.mark (some (.ref e))) (eval (.Name x np) env) (fun c s₁ => c = .ref 71 ∧ s₁.heap.get? 71 = some (excClassObj nm q 71 N bs bmX true sn sub ab col dd k0 k1 k2 k3 k5 "Exception.__new__") ∧ (∃ oe, s₁.heap.get? e = some oe ∧ oe.cls = .ref 71) ∧
      wpAny (model prog w) (A.mark (some (.ref e))) (setFlight (.ref e) none) (fun _ s₂ => wpAny (model prog w) (A.mark (some (.ref e))) (execs (b₀ :: suite) env) Q NE s₂) NE s₁) NE s) :
    wpAny (model prog w) A (handleBy (.ref e) env (.ExceptHandler (some (.Name x np)) none (b₀ :: suite) pos :: rest)) Q E s := by
  refine wpAny_handleBy_cons (codeAny_handlers_test (wpAny_mono hx (fun c s₁ h₁ => ?_) fun _ _ y => y.elim)) (by intro q; cases q)
  obtain ⟨rfl, hC, ⟨oe, he, hcls⟩, hk⟩ := h₁
  obtain ⟨hh, g, d, tk, os⟩ := s₁
  refine wpAny_excMatches_sub_self hC he hcls (by decide) (codeAny_handlers_suite (wpAny_mono hk (fun _ s₂ h₂ => wpAny_mono h₂ (fun f s₃ h₃ => h₃) fun _ _ y => y.elim) fun _ _ y => y.elim))
end
noncomputable def ExN (o : Obj) : Prop := ∃ t, o = exObj none t
noncomputable def ExD (de : Addr) (o : Obj) : Prop := ∃ t, o = exObj (some de) t
section
variable {prog : Program} {w : World} {A : Around} {E : Value → Shared → Prop} {σ s : Shared} {p : Heap} {mu mu' : List Cell} {mg mb : Str → Option Value} {K : Frag} {env : Env} {fs : List (Str × Option Value)}
theorem x_tinit : findCls (KK w) (.type "Exception") (.type "type") "__init__" = some (.val (.builtin "Exception.__init__")) := by kernel_rfl
theorem m_tinit {pl : Sem Bool} {Q : Value × List Value → Shared → Prop} (T : Tp (KK w) mg mb p) (H : St σ p mu s) (h : ∀ s', St σ p mu s' → Q (.builtin "Exception.__init__", []) s') :
    wpAny (model prog w) A (getMethod (.type "Exception") "__init__" pl) Q E s := by
  have X := T.K.keeps H.keep
  have hstub : opaqueClassAbove (.type "Exception") = pure none := by
    unfold opaqueClassAbove; dsimp only
    rw [show Manifest.isStub "Exception" = false from by kernel_rfl]; rfl
  have L0 : Looks (model prog w) s.heap (typeOf (.type "Exception")) (.type "type") := Looks.of_pure (by kernel_rfl)
  have hg : findIn (KK w) (.type "type") "__getattribute__" = some (some (.builtin "type.__getattribute__")) := type_tga
  unfold getMethod specialOf
  refine wpAny_bind (wpAny_bind (L0.here ((looks_findIn X hg).here ?_)))
  dsimp only
  rw [if_pos canon_tga]
  refine wpAny_bind (wpAny_mono (Q := fun v => Q (v, [])) (E := E) ?_ (fun _ _ z => wpAny_pure z) fun _ _ z => z)
  have LO : Looks (model prog w) s.heap (opaqueClassAbove (.type "Exception")) none := Looks.of_pure hstub
  refine cls_open X LO L0 hg (looks_hook X (r := none) (by rfl)) (by show subIn (KK w) _ _ = _; rfl) x_tinit
    (wpAny_pure (by show wpAny _ _ (handedOut _) _ _ _; rw [handedOut_of (by rfl)]; exact wpAny_pure (h _ (H.toks _))))
theorem x71_at' (T : Tp (KK w) mg mb p) (H : St σ p mu s) : ∃ nm q N bs sn sub ab col dd k0 k1 k2 k3 k5, s.heap.get? 71 = some (excClassObj nm q 71 N bs bmX true sn sub ab col dd k0 k1 k2 k3 k5 "Exception.__new__") := by
  obtain ⟨nm, q, N, bs, sn, sub, ab, col, dd, k0, k1, k2, k3, k5, e⟩ := x71_lookup (w := w)
  exact ⟨nm, q, N, bs, sn, sub, ab, col, dd, k0, k1, k2, k3, k5, T.K.keeps H.keep _ _ e⟩
theorem xc_init {M : Model} {h : Heap} {g : Array GenState} {d : Drawn} {t : Nat} {os : OsState} {nm q : Str} {N : Addr} {bs : List Value} {sn : List Str} {sub : List Value} {ab : Bool} {col : Option Bool} {dd : Option Addr} {k0 k1 k2 k3 k5 : Option Value}
    {e : Addr} {oe : Obj} {rest : List Value} {Q : Unit → Shared → Prop} (hC : h.get? 71 = some (excClassObj nm q 71 N bs bmX true sn sub ab col dd k0 k1 k2 k3 k5 "Exception.__new__")) (he : h.get? e = some oe) (hcls : oe.cls = .ref 71) (hq : Q () ⟨h, g, d, t, os⟩) :
    wpAny M A (checkBuiltinCall "Exception.__init__" ⟨.ref e :: rest, []⟩) Q E ⟨h, g, d, t, os⟩ := by
  have F := PySem.F.excBase_Exception
  have hB : (Value.ref 71 :: bmX).contains (.type "Exception") = true := by decide
  have hshort := F.noStar
  simp only [checkBuiltinCall, F.initKind, F.initSplit, F.initRow]
  repeat (first | (with_reducible refine wpAny_loadPart_at he ?_; rw [hcls]) | with_reducible refine wpAny_loadPart_at hC ?_ | (with_reducible refine wpAny_isSubtype_exc hC ?_; rw [hB]) | wp_step)
  refine wpAny_onRaise ?_
  rw [show ∀ (a b : String) (n : Nat), Bind.check ⟨.positional, "*", "Exception", .self, [⟨"args", .varPos, false⟩]⟩ a b n (List.map (fun x => x.fst) ({ pos := Value.ref e :: rest } : Args).kw) = pure () from
    fun a b n => check_star_args _ _ _ _ _ _]
  exact wpAny_pure hq
theorem r_xinit {e : Addr} {v : Value} {Q : Value → Shared → Prop} (T : Tp (KK w) mg mb p) (H : St σ p mu s) (u : CUpd e ExN ExN mu mu') (h : ∀ s', St σ p mu' s' → Q .none s') :
    wpAny (model prog w) A (call (.builtin "Exception.__init__") [.ref e, v]) Q E s := by
  obtain ⟨nm, q, N, bs, sn, sub, ab, col, dd, k0, k1, k2, k3, k5, hC⟩ := x71_at' T H
  obtain ⟨_, he, t, rfl⟩ := (H.own _ u.mem).1
  have F := PySem.F.excBase_Exception
  obtain ⟨hp, g, d, tk, os⟩ := s
  refine wpAny_call (codeAny_call_builtin F.init.plain F.initEntry (xc_init hC he rfl ?_))
  unfold Builtin.«BaseException.__init__»
  dsimp only
  rw [if_neg (by simp)]
  unfold newTuple Builtin.BaseException.bexcPut
  have he₁ := Heap.get?_push_of_some (h := hp) { cls := .type "tuple", data := .seq ([v] : List Value).toArray } he
  refine wpAny_bind (wpAny_newObj_type (wpAny_bind (wpAny_bind (wpAny_field he₁ rfl rfl (wpAny_bind (wpAny_setField he₁ rfl (show (0 : Nat) < 6 by decide) ?_))))) (by show (1 : Nat) ≤ sizeLine; exact Nat.le_of_ble_eq_true rfl))
  refine wpAny_letGo (wpAny_pure (h _ ?_))
  refine (H.push { cls := .type "tuple", data := .seq ([v] : List Value).toArray }).set u (Heap.SameBut.update ..) ?_
  exact ⟨_, Heap.get?_update_self _ he₁ rfl, _, rfl⟩

theorem r_nsput {d : Addr} {fl : List (Str × Value)} {name : Str} {tk : Tok} {v : Value} {Q : PySem.Fin → Shared → Prop} (H : St σ p mu s) (u : CUpd d (FlP fl) (FlP (fl ++ [(name, v)])) mu mu') (hn : fl.lookup name = none) (hz : fl.length ≤ 900)
    (h : ∀ s', St σ p mu' s' → Q (.done (.ret .none)) s') : wpAny (model prog w) A (Builtin.ObjectAttr.storeInDict d (.str name tk) name v) Q E s := by
  obtain ⟨o, D, es, n, rfl, hk, hf, hl⟩ := (H.own _ u.mem).1
  have W := FlP.put (n := n) (hsh := PyData.keyHash w.params name) (t := s.toks) (v := v) hk hf hl hn
  obtain ⟨es', n', e', hk', hf', hl'⟩ := W
  unfold Builtin.ObjectAttr.storeInDict Builtin.ObjectAttr.newKeyGuard
  refine wpAny_bind (wpAny_pure (wpAny_bind ?_))
  unfold nsSet
  refine wpAny_bind (wpAny_bind (wpAny_askSetting (wpAny_pure (wpAny_bind (wpAny_mkText (wpAny_bind (wpAny_loadPart D ?_)))))))
  have c : (!es.toArray.any (·.key.isStr name) && es.toArray.any (·.refKey)) = false := by
    have hr : es.toArray.any (·.refKey) = false := by
      rw [← Array.any_toList, List.any_eq_false]
      intro q hq
      obtain ⟨x, t, h⟩ := hk q (by simpa using hq)
      simp [DictEntry.refKey, h]
    rw [hr, Bool.and_false]
  show wpAny _ _ (if aRefKeyMayBeTheName name es.toArray = true then _ else _) _ _ _
  rw [aRefKeyMayBeTheName_at, c]
  have D' : (s.heap.update d (Obj.putName name (PyData.keyHash w.params name) (.str name s.toks) v)).get? d = some (dictOf es' n') := by
    rw [Heap.get?_update_self _ D (by rw [e']; rfl), e']
  refine wpAny_updatePart D ?_
  refine wpAny_bind (wpAny_lookBehind D' (pastItsLine_dict (by rw [List.size_toArray, sizeLine_eq, hl']; simp; omega)) ?_)
  refine wpAny_pure (h _ ?_)
  exact (H.toks _).set (s := { s with toks := s.toks + 1 }) (s' := { s with heap := s.heap.update d (Obj.putName name (PyData.keyHash w.params name) (.str name s.toks) v), toks := s.toks + 1 }) u (Heap.SameBut.update ..) ⟨_, D', es', n', rfl, hk', hf', hl'⟩
theorem r_xopen {e : Addr} {oe : Obj} {name : Str} {v : Value} {Q : Unit → Shared → Prop} (T : Tp (KK w) mg mb p) (H : St σ p mu s) (he : s.heap.get? e = some oe) (hc : oe.cls = .ref 71) (ht : takerIn (KK w) 71 name = some none)
    (h : ∀ A' tk b, wpAny (model prog w) A' (Builtin.ObjectAttr.storeInOwnDict (.ref e) (.ref 71) (.str name tk) name v b) (fun fin s' => fin = .done (.ret .none) ∧ Q () s') NE { s with toks := s.toks + 1 }) :
    wpAny (model prog w) A (setAttr (.ref e) name v) Q E s := by
  have X := T.K.keeps H.keep
  have LT : Looks (model prog w) s.heap (typeOf (.ref e)) (.ref 71) := by
    obtain ⟨oc, od, odt, osl⟩ := oe
    cases hc
    exact (Looks.ld he).andThen .now
  have SF := PySem.F.store_object
  refine wpAny_bind (wpAny_mkText (wpAny_bind (wpAny_bind (wpAny_bind (LT _ _ _ _ (fun _ _ e => e) (looks_findIn X x71_set _ _ _ _ (fun _ _ e => e) (wpAny_holding ?_)))))))
  rw [SF.slot.bind]
  refine wpAny_bind (wpAny_pure (wpAny_bind (wpAny_call ?_)))
  have sub : Looks (model prog w) s.heap (isInstance (.ref e) (.type "object")) true := LT.andThen (looks_mroIn X x71_obj)
  refine codeAny_call_builtin SF.slot.plain SF.entry (@check_slot (model prog w) _ _ { s with toks := s.toks + 1 } "object.__setattr__" "object" "__setattr__" (.ref e) [.str name s.toks, v] [] _ SF.kind SF.split sub (SF.args (.ref e) (.str name s.toks) v) ?_)
  obtain ⟨attr, ha, hr⟩ := Option.bind_eq_some_iff.mp ht
  obtain ⟨cd, hcd, hmro⟩ := Option.map_eq_some_iff.mp (x71_mro (w := w))
  have hm : Looks (model prog w) s.heap (mroOf (.ref 71)) cd.mro := (looks_clsIn X hcd).andThen .now
  have L3 : Looks (model prog w) s.heap (Builtin.ObjectAttr.storeTaker? attr) none := by
    cases attr with
    | none => exact .now
    | some a =>
      obtain ⟨b, hb, hb2⟩ := Option.map_eq_some_iff.mp hr
      refine (looks_takesIn X hb).andThen ?_
      cases b
      · exact .now
      · cases hb2
  show wpAny _ _ (Builtin.«object.__setattr__» ⟨[.ref e, .str name s.toks, v], []⟩) _ _ _
  rw [osa_eq, refuse_eq]
  refine wpAny_bind (wpAny_bind (LT _ _ _ _ (fun _ _ e => e) (wpAny_bind (hm _ _ _ _ (fun _ _ e => e) ?_))))
  rw [hmro, refuse_exc]
  refine wpAny_pure (wpAny_bind (LT _ _ _ _ (fun _ _ e => e) (wpAny_bind ((looks_findIn X ha) _ _ _ _ (fun _ _ e => e) (wpAny_bind (L3 _ _ _ _ (fun _ _ e => e) ?_))))))
  refine wpAny_mono (h _ _ _) (fun fin s' q => ?_) fun _ _ q => q.elim
  obtain ⟨rfl, q⟩ := q
  exact wpAny_pure (wpAny_pure q)
theorem r_xset0 {e : Addr} {name : Str} {v : Value} {Q : Unit → Shared → Prop} (T : Tp (KK w) mg mb p) (H : St σ p ((e, ExN) :: mu) s) (ht : takerIn (KK w) 71 name = some none)
    (h : ∀ de s', St σ p ((de, FlP [(name, v)]) :: (e, ExD de) :: mu) s' → Q () s') : wpAny (model prog w) A (setAttr (.ref e) name v) Q E s := by
  obtain ⟨_, he, t, rfl⟩ := (H.own _ (.head _)).1
  have X := T.K.keeps H.keep
  refine r_xopen T H he rfl ht fun A' tk b => ?_
  obtain ⟨cd, hcd, hd'⟩ := any_some (x71_dict (w := w))
  refine wpAny_bind (wpAny_pure (wpAny_bind (wpAny_bind (wpAny_loadPart he (wpAny_bind ((looks_clsIn X hcd) _ _ _ _ (fun _ _ e => e) ?_))))))
  rw [hd']
  have H1 := (H.toks (s.toks + 1)).alloc { cls := .type "dict", data := .dict #[] } (FlP []) ⟨[], 0, rfl, fun _ he => (nomatch he), fun _ => rfl, rfl⟩
  have he₁ : (s.heap.push { cls := .type "dict", data := .dict #[] }).get? e = some (exObj none t) := Heap.get?_push_of_some _ he
  show wpAny _ _ (alloc { cls := .type "dict", data := .dict #[] } >>= fun d => update e (fun o => { cls := o.cls, dict := some d, data := o.data, slots := o.slots }) >>= fun _ => pure (some d)) _ _ _
  refine wpAny_bind (wpAny_alloc (wpAny_bind (wpAny_update he₁ (wpAny_pure ?_))))
  show wpAny _ _ (Builtin.ObjectAttr.storeInDict _ _ _ _) _ _ _
  refine r_nsput (St.set (s := { s with heap := s.heap.push { cls := .type "dict", data := .dict #[] }, toks := s.toks + 1 })
    (s' := { s with heap := (s.heap.push { cls := .type "dict", data := .dict #[] }).update e (fun o => { cls := o.cls, dict := some s.heap.objs.size, data := o.data, slots := o.slots }), toks := s.toks + 1 })
    H1 (.tail .head) (P' := ExD s.heap.objs.size) (Heap.SameBut.update ..) ⟨_, Heap.get?_update_self _ he₁ rfl, t, rfl⟩) .head rfl (Nat.zero_le _) fun s' H' => ⟨rfl, h _ _ H'⟩
theorem r_xset1 {e de : Addr} {fl : List (Str × Value)} {name : Str} {v : Value} {Q : Unit → Shared → Prop} (T : Tp (KK w) mg mb p) (H : St σ p ((de, FlP fl) :: (e, ExD de) :: mu) s) (ht : takerIn (KK w) 71 name = some none) (hn : fl.lookup name = none) (hz : fl.length ≤ 900)
    (h : ∀ s', St σ p ((de, FlP (fl ++ [(name, v)])) :: (e, ExD de) :: mu) s' → Q () s') : wpAny (model prog w) A (setAttr (.ref e) name v) Q E s := by
  obtain ⟨_, he, t, rfl⟩ := (H.own _ (.tail _ (.head _))).1
  have X := T.K.keeps H.keep
  refine r_xopen T H he rfl ht fun A' tk b => ?_
  obtain ⟨cd, hcd, hd'⟩ := any_some (x71_dict (w := w))
  refine wpAny_bind (wpAny_pure (wpAny_bind (wpAny_bind (wpAny_loadPart he (wpAny_bind ((looks_clsIn X hcd) _ _ _ _ (fun _ _ e => e) ?_))))))
  rw [hd']
  show wpAny _ _ (pure (some de)) _ _ _
  refine wpAny_pure ?_
  show wpAny _ _ (Builtin.ObjectAttr.storeInDict _ _ _ _) _ _ _
  exact r_nsput (H.toks _) .head hn hz fun s' H' => ⟨rfl, h _ H'⟩
noncomputable def ExP (o : Obj) : Prop := ∃ t de, o = exObj (some de) t
theorem enterX {f : Addr} {body : List Stmt} {args : Args} {binds : List (Str × Value)} {fs : List (Str × Option Value)} {k : Nat} {R : Result → Shared → Prop}
    (T : Tp K mg mb p) (H : St σ p mu s) (Rm' : Rm A (k + 1)) (D : DefOk K f body) (hbind : BindsTo s (fdOf K f) args binds) (hb : bindOk (fdOf K f).scope binds = true)
    (hfs : mkFs (fdOf K f).scope binds = fs) (hcs : mkCs (fdOf K f).scope binds = [])
    (h : ∀ env s', env.code = (fdOf K f).code ∧ env.frame = some env.locals → env.scope = (fdOf K f).scope → EnvOk env → St σ p ((env.locals, FrameP env fs) :: mu) s' → Rm (A.deeper env) k →
      wpAny (model prog w) (A.deeper env) (execs body env) (fun fl s' => R (.ok (.ret (retv fl))) s')
        (fun e s' => wpAny (model prog w) (A.deeper env) (leaving env e) (fun _ s'' => R (.error e) s'') (fun e' s'' => R (.error e') s'') s') s') :
    codeAny (model prog w) A (.call (.ref f) args) R s := by
  obtain ⟨hf, hcd, hbody, g1, g2, g3, hsc⟩ := D
  obtain ⟨oc, od, osl, ho⟩ := fdOf_is hf
  obtain ⟨nd, lk, kf, kc, kg⟩ := scopeOk_is hsc
  generalize fdOf K f = fd at *
  have X := T.K.keeps H.keep
  refine codeAny_call_function (fd := fd) (body := body) (by have := Rm'.d; omega) (X _ _ ho) rfl kc kg hbody (codeRec_of X hcd) ?_
  refine hbind _ _ _ _ ?_
  rw [g3]
  have hkind : ∀ x ∈ binds, fd.scope.names.lookup x.1 = some .local ∨ (fd.scope.names.lookup x.1 = some .cell ∧ ((cellsFrom (s.heap.objs.size + 1) fd.scope.names []).lookup x.1).isSome = true) := by
    intro x hx
    have := List.all_eq_true.mp hb x hx
    split at this
    · rename_i e; exact .inl e
    · rename_i e; exact .inr ⟨e, cellsFrom_some _ _ _ _ (.inl (mem_of_lookup e))⟩
    · cases this
  refine wpAny_newFunctionEnv_cells kf hkind fun env he s' x => ?_
  have hes : env.scope = fd.scope := by subst he; rfl
  have hcf : env.code = fd.code ∧ env.frame = some env.locals := by subst he; exact ⟨rfl, rfl⟩
  have heg : env.globals = fd.globals := by subst he; rfl
  have heb : env.builtins = fd.builtins := by subst he; rfl
  have hko : env.kindOf = fun n => fd.scope.names.lookup n := by funext n; show env.scope.names.lookup n = _; rw [hes]
  clear he
  refine ⟨(T.lim.keeps H.keep).keeps x.toInCall.keep, ?_⟩
  obtain ⟨h', tk, rfl⟩ := x.toInCall.same
  have off : p.get? env.locals = none := by
    cases e : p.get? env.locals with
    | none => rfl
    | some o => exact absurd (Heap.lt_size (H.keep _ _ e)) (Nat.not_lt.mpr x.toInCall.fresh)
  have F : Pt h' env.locals (FrameP env fs) := by
    refine FrameP.of x.toInCall.ns (fun y v hy => ?_) ⟨?_, fun q hq => ?_, by rw [hes]; exact kf⟩
    · rw [← hfs] at hy
      obtain ⟨q, hq, e⟩ := List.mem_filterMap.mp hy
      rw [hko]
      split at e
      · have e' := Option.some.inj e
        obtain ⟨e1, e2⟩ := Prod.mk.inj e'
        rw [← e1]; exact e2
      · cases e
    · rw [← hfs]
      have sub : ((mkFs fd.scope binds).map (·.1)).Sublist (fd.scope.names.map (·.1)) := by
        unfold mkFs
        exact filt_sub (bindL (fun n => fd.scope.names.lookup n) binds fun _ => none) fd.scope.names
      exact sub.nodup nd
    · rw [← hfs] at hq
      obtain ⟨q', hq', e⟩ := List.mem_filterMap.mp hq
      split at e
      · rename_i z
        cases e
        rw [hko]
        show List.lookup q'.1 fd.scope.names = _
        have := lk q' hq'
        rw [this]
        congr 1
        simpa using z
      · cases e
  have H' : St σ p ((env.locals, FrameP env fs) :: mu) { s with heap := h', toks := tk } := by
    refine ⟨H.keep.trans x.toInCall.keep, fun q hq => ?_, ?_, H.gens, H.drawn, H.os⟩
    · rcases List.mem_cons.mp hq with rfl | hq
      · exact ⟨F, off⟩
      · exact ⟨(H.own q hq).1.mono x.toInCall.keep, (H.own q hq).2⟩
    · refine List.nodup_cons.mpr ⟨fun m => ?_, H.nd⟩
      obtain ⟨q, hq, e⟩ := List.mem_map.mp m
      obtain ⟨o, eo, _⟩ := (H.own q hq).1
      have := Nat.lt_of_lt_of_le (Heap.lt_size eo) x.toInCall.fresh
      rw [e] at this
      exact absurd this (Nat.lt_irrefl _)
  exact codeAny_func (wpAny_mono (h env _ hcf hes ⟨by rw [hes]; exact kf, heg.trans g1, heb.trans g2⟩ H' Rm'.deeper) (fun fl s' q => by cases fl <;> exact q) fun _ _ q => q)
end
noncomputable def Bl (q : Cell) : Prop := ∀ o, q.2 o → (∀ vs, o.data ≠ .fields vs) ∧ ∀ sl, q.2 { o with slots := sl }
theorem bl_frame {L : Addr} {env : Env} {fs : List (Str × Option Value)} : Bl (L, FrameP env fs) := fun o h => by
  obtain ⟨⟨m, ⟨es, ep, a, b, c⟩, k⟩, r⟩ := h
  exact ⟨fun vs e => (by rw [a] at e; cases e), fun sl => ⟨⟨m, ⟨es, ep, a, b, c⟩, k⟩, r⟩⟩
noncomputable def Hold (p B : Heap) (mu : List Cell) : Prop := Le p B ∧ ∀ q ∈ mu, Bl q ∨ Pt B q.1 q.2
section
variable {prog : Program} {w : World} {A : Around} {E : Value → Shared → Prop} {σ s : Shared} {p : Heap} {mu mu' : List Cell} {mg mb : Str → Option Value} {K : Frag} {env : Env} {fs : List (Str × Option Value)}
variable {sh TB TR : Addr} {kvs : List (Int × Value)}
theorem St.upto {h' B : Heap} (H : St σ p mu s) (k : B.StaysIn h') (u : s.heap.UpToSlots h') (hb : Hold p B mu) : St σ p mu { s with heap := h' } := by
  refine ⟨fun b o e => k _ _ (hb.1 _ _ e), fun q hq => ?_, H.nd, H.gens, H.drawn, H.os⟩
  refine ⟨?_, (H.own q hq).2⟩
  rcases hb.2 q hq with hq' | ⟨o, e, r⟩
  · obtain ⟨⟨o, e, r⟩, z⟩ := H.own q hq
    obtain ⟨n1, n2⟩ := hq' o r
    obtain ⟨sl, e2⟩ := u _ _ e n1
    exact ⟨_, e2, n2 sl⟩
  · exact ⟨o, k _ _ e, r⟩
theorem fr_cons {outer : List Env} (hk : env.scope.kind = .function) (hf : env.frame = some env.locals) (m : (env.locals, FrameP env fs) ∈ mu) (H : St σ p mu s) (r : s.heap.FunFrames p outer) : s.heap.FunFrames p (env :: outer) := by
  obtain ⟨⟨o, e, P⟩, z⟩ := H.own _ m
  exact ⟨by rw [hk]; decide, ⟨env.locals, o, hf, z, e, (bl_frame (L := env.locals) o P).1⟩, r⟩
theorem perm3 {α : Type} {a b c : α} {r : List α} : (a :: b :: c :: r).Perm (c :: a :: b :: r) := (List.perm_append_comm (l₁ := [a, b]) (l₂ := [c])).append_right r
theorem St.sublist (H : St σ p mu s) (l : mu'.Sublist mu) : St σ p mu' s := ⟨H.keep, fun q hq => H.own q (l.subset hq), (l.map _).nodup H.nd, H.gens, H.drawn, H.os⟩
theorem St.apart {q : Cell} (H : St σ p (q :: mu) s) : ∀ r ∈ mu, r.1 ≠ q.1 := fun r hr e => (List.nodup_cons.mp H.nd).1 (by have := List.mem_map_of_mem (f := (·.1)) hr; rw [e] at this; exact this)
theorem mk_exc {k : Nat} {x : Str} {t : Tok} {Q : Value → Shared → Prop} (T : Tp (KK w) mg mb p) (H : St σ p mu s) (R : Rm A (k + 2))
    (h : ∀ e de fl s', St σ p ((de, FlP fl) :: (e, ExD de) :: mu) s' → Q (.ref e) s') : wpAny (model prog w) A (call (.ref 71) [.str x t]) Q E s := by
  have X := T.K.keeps H.keep
  obtain ⟨nm, q, N, bs, sn, sub, ab, col, dd, k0, k1, k2, k3, k5, hC⟩ := x71_at' T H
  obtain ⟨hp, g, d, tk, os⟩ := s
  refine x_call X hC x71_init x36_type ?_ (show (1 : Nat) ≤ sizeLine from Nat.le_of_ble_eq_true rfl)
  have H1 := (H.push { cls := .type "tuple", data := .seq ([.str x t] : List Value).toArray }).alloc (exObj none hp.objs.size) ExN ⟨_, rfl⟩
  have hsz : (hp.push { cls := .type "tuple", data := .seq ([.str x t] : List Value).toArray }).objs.size = hp.objs.size + 1 := Heap.size_push ..
  rw [hsz] at H1
  have R := R.under (C := 71) (vs := [.str x t])
  have H := H1
  generalize hp.objs.size + 1 = e at *
  refine call_of (enter0d (D := 29) (pos := [.ref e, .str x t]) (items := [.int (-1) 209]) (fs := [("self", some (.ref e)), ("what", some (.str x t)), ("at", some (.int (-1) 209))]) (binds := [("self", .ref e), ("what", .str x t), ("at", .int (-1) 209)]) T H R d36 (by kernel_rfl) (by kernel_rfl) (by kernel_rfl) (by kernel_rfl) (by kernel_rfl) (by kernel_rfl) ?_)
  intro A env s1 hs he H R
  have G_Exception := gnl hs (by kernel_rfl) (gl_gException T)
  refine x_expr he ?_
  walk_at "g"
  refine m_tinit T ‹_› ?_
  intro s2 H
  walk_at "g"
  refine r_xinit T ‹_› (.tail .head) ?_
  intro s3 H
  walk_at "g"
  refine r_xset0 T (St.swap ‹_›) x71_what ?_
  intro de s4 H
  have H := H.perm perm3
  walk_at "g"
  refine r_xset1 T ((‹St σ p ((env.locals, _) :: _) _›).perm perm3.symm) x71_at rfl (Nat.le_of_ble_eq_true rfl) ?_
  intro s5 H
  walk_at "g"
  exact ⟨rfl, h _ _ _ _ ((H.perm perm3).drop)⟩
theorem call_x {f : Addr} {body : List Stmt} {vs : List Value} {binds : List (Str × Value)} {fs : List (Str × Option Value)} {k : Nat} {Q : Value → Shared → Prop}
    (T : Tp K mg mb p) (H : St σ p mu s) (Rm' : Rm A (k + 1)) (D : DefOk K f body) (hbind : bindArgs (fdOf K f) ⟨vs, []⟩ = pure binds) (hb : bindOk (fdOf K f).scope binds = true)
    (hfs : mkFs (fdOf K f).scope binds = fs) (hcs : mkCs (fdOf K f).scope binds = [])
    (h : ∀ A' env s', A' = A.deeper env → env.frame = some env.locals → env.scope = (fdOf K f).scope → EnvOk env → St σ p ((env.locals, FrameP env fs) :: mu) s' → Rm A' k →
      wpAny (model prog w) A' (execs body env) (fun fl s' => Q (retv fl) s') (fun e s' => wpAny (model prog w) A' (leaving env e) (fun _ s'' => E e s'') (fun e' s'' => E e' s'') s') s') :
    wpAny (model prog w) A (call (.ref f) vs) Q E s := by
  refine wpAny_call (codeAny_mono (enterX (R := fun r s' => match r with | .ok (.ret v) => Q v s' | .ok _ => False | .error e => E e s') T H Rm' D (BindsTo.of_eq hbind) hb hfs hcs fun env s' hcf hs he H R => ?_) fun r s' q => ?_)
  · exact h _ env s' rfl hcf.2 hs he H R
  · rcases r with e | (v | _ | _ | _) <;> exact q
theorem x_raiseS {c : Expr} {pos : Pos} {rest : List Stmt} {Q : Flow → Shared → Prop} {nm q : Str} {N : Addr} {bs : List Value} {sn : List Str} {sub : List Value} {ab : Bool} {col : Option Bool} {dd : Option Addr} {k0 k1 k2 k3 k5 : Option Value} (hh : A.handled = none)
    (h : wpAny (model prog w) A (eval c env) (fun v s₁ => ∃ e t de, v = .ref e ∧ s₁.heap.get? 71 = some (excClassObj nm q 71 N bs bmX true sn sub ab col dd k0 k1 k2 k3 k5 "Exception.__new__") ∧ s₁.heap.get? e = some (exObj de t) ∧ E (.ref e) s₁) E s) :
    wpAny (model prog w) A (execs (.Raise (some c) none pos :: rest) env) Q E s := by
  refine wpAny_execs_cons ?_
  rw [arm_exec_Raise]
  refine wpAny_bind (wpAny_standAt ?_)
  show wpAny _ _ (raiseStmt env (some (do let v ← eval c env; standAt pos; pure v)) none) _ _ _
  exact x_raise hh (wpAny_bind (wpAny_mono h (fun v s₃ h₃ => wpAny_bind (wpAny_standAt (wpAny_pure h₃))) fun _ _ x => x))
theorem leave_x {outer : List Env} {rest : List Cell} {e de : Addr} {t : Addr} {fl : List (Str × Value)} (H : St σ p ((de, FlP fl) :: (e, ExD de) :: (env.locals, FrameP env fs) :: rest) s) (hms : mu.Sublist rest) (hkind : env.scope.kind = .function) (hf : env.frame = some env.locals)
    (hfr : A.frames = some (env :: outer)) (hfu : ∀ s', St σ p mu s' → s'.heap.FunFrames p outer) (hbl : ∀ q ∈ mu, q.1 ∈ outer.filterMap (·.frame) → Bl q) (hge : s.heap.get? e = some (exObj (some de) t))
    (h : ∀ e a0 B s', Hold p B mu → Heap.FlyingW B outer e (.ref 71) a0 s'.heap → St σ p mu s' → E (.ref e) s') :
    wpAny (model prog w) A (leaving env (.ref e)) (fun _ s' => E (.ref e) s') (fun e' s' => E e' s') s := by
  have H2 := H.drop
  have hmu : St σ p mu s := H2.drop.drop.sublist hms
  have hne : ∀ q ∈ mu, q.1 ≠ e := fun q hq => H2.apart q (.tail _ (hms.subset hq))
  have F9 : s.heap.FunFrames p (env :: outer) := fr_cons hkind hf (.tail _ (.tail _ (.head _))) H (hfu s hmu)
  have hnf : e ∉ (env :: outer).filterMap (·.frame) := fun m => by
    obtain ⟨_, o, ho, hd⟩ := F9.mem m
    rw [hge] at ho
    cases ho
    exact hd _ rfl
  generalize hB : hideAll s.heap (e :: (env :: outer).filterMap (·.frame)) = B
  have F9B : s.heap.FunFrames B (env :: outer) := by
    rw [← hB]
    exact funFrames_hide F9 fun env' he' a ha => .tail _ (List.mem_filterMap.mpr ⟨env', he', ha⟩)
  have hkb : B.StaysIn s.heap := fun b o q => by rw [← hB] at q; exact of_hideAll _ q
  have hen : B.get? e = none := by rw [← hB]; exact hideAll_none _ (.head _)
  have hold : Hold p B mu := by
    refine ⟨fun b o q => ?_, fun q hq => ?_⟩
    · rw [← hB]
      refine hideAll_get _ (H.keep _ _ q) fun m => ?_
      rcases List.mem_cons.mp m with rfl | m
      · rw [(H.own _ (.tail _ (.head _))).2] at q; cases q
      · rw [(F9.mem m).1] at q; cases q
    · by_cases hq1 : q.1 ∈ (env :: outer).filterMap (·.frame)
      · left
        rw [List.filterMap_cons, hf] at hq1
        rcases List.mem_cons.mp hq1 with e1 | hq1
        · exact absurd e1 (H2.drop.apart q (hms.subset hq))
        · exact hbl q hq hq1
      · right
        obtain ⟨⟨o, eo, r⟩, z⟩ := hmu.own q hq
        refine ⟨o, ?_, r⟩
        rw [← hB]
        refine hideAll_get _ eo fun m => ?_
        rcases List.mem_cons.mp m with e1 | m
        · exact hne q hq e1
        · exact hq1 m
  refine wpAny_leaving_firstW (base := B) hfr F9B hf hge hkb hen rfl rfl rfl fun h' L => ?_
  obtain ⟨k1, ⟨_, _, k2⟩, k3, k4⟩ := L
  exact h e _ B _ hold ⟨k1, hen, k2, k3⟩ (hmu.upto k1 k4 hold)
set_option maxHeartbeats 4000000 in
theorem put_refused {k : Nat} {outer : List Env} {tk : List (Str × Value)} {o : Array UInt8} {to : Tok} {Q : Value → Shared → Prop}
    (S : Sf prog w p mu sh TB TR kvs) (T : Tp (KK w) mg mb p) (H : St σ p mu s) (R : Rm A (k + 10)) (D : RD prog w p mu TR tk) (F : valueAt tk "Root" = none)
    (hfr : A.frames = some outer) (hfu : ∀ s', St σ p mu s' → s'.heap.FunFrames p outer) (hbl : ∀ q ∈ mu, q.1 ∈ outer.filterMap (·.frame) → Bl q)
    (h : ∀ e a0 B s', Hold p B mu → Heap.FlyingW B outer e (.ref 71) a0 s'.heap → St σ p mu s' → E (.ref e) s') :
    wpAny (model prog w) A (call (.ref 498) [.ref sh, .bytes o to]) Q E s := by
  refine call_x (binds := [("shelf", .ref sh), ("label", .bytes o to)]) (fs := [("shelf", some (.ref sh)), ("label", some (.bytes o to)), ("head", none), ("found", none), ("first", none), ("place", none)]) T H R d498 (by kernel_rfl) (by kernel_rfl) (by kernel_rfl) (by kernel_rfl) ?_
  intro A env s1 hA hf hs he H R
  have hfr' : A.frames = some (env :: outer) := by rw [hA]; exact Around.frames_deeper hfr
  have G_dict := gnl hs (by kernel_rfl) (gl_gdict T)
  have G_isinstance := gnl hs (by kernel_rfl) (gl_gisinstance T)
  have G_DraftFault := gnl hs (by kernel_rfl) (gl_gDraftFault T)
  have G_layer_head := gnl hs (by kernel_rfl) (gl_glayer_head T)
  have I := S.I
  refine x_assign ?_
  walk_at "g"
  refine S.c.layer_head0 T ‹_› R D.c F ?_
  intro d2 s2 lo2 H
  have H := H.swap
  walk_at "g"
  refine r_dcopy T ‹_› (rd_m ‹_› (by walk_at "mem")) lo2 (Nat.zero_le _) ?_
  intro nh s3 lo3 H
  have H := H.swap
  walk_at "g"
  have S3 := (S.c (q := (d2, DcP (strKind prog w) []))).c (q := (nh, DcP (strKind prog w) []))
  refine Sf.get (hd := nh) (hk := []) S3.c T ‹_› R ⟨.inl (by walk_at "mem"), lo3⟩ (r := .none) (.here (VT.notRef VT.none ki_none_r266)) ?_
  intro s4 H
  walk_at "g"
  refine r_isi T ‹_› VT.none ki_none_dict ?_
  intro s5 H
  walk_at "g"
  refine e_dict0 (knd := strKind prog w) T ‹_› ?_
  intro d5 s6 lo5 H
  have H := H.swap
  walk_at "g"
  have D3 := (((D.c (q := (d2, DcP (strKind prog w) []))).c (q := (nh, DcP (strKind prog w) []))).c (q := (d5, DcP (strKind prog w) [])))
  refine Sf.root0 (S3.c (q := (d5, DcP (strKind prog w) []))).c T ‹_› R D3.c F ?_
  intro d6 s7 lo6 H
  have H := H.swap
  walk_at "g"
  refine e_dict0 (knd := strKind prog w) T ‹_› ?_
  intro d7 s8 lo7 H
  refine r_deq0 (rd_m H (by walk_at "mem")) (rd_m H (by walk_at "mem")) lo6 lo7 R.cl ?_
  have H := H.swap
  walk_at "g"
  obtain ⟨nm, q, N, bs, sn, sub, ab, col, dd, k0, k1, k2, k3, k5, hC⟩ := x71_lookup (w := w)
  refine x_raiseS (nm := nm) (q := q) (N := N) (bs := bs) (sn := sn) (sub := sub) (ab := ab) (col := col) (dd := dd) (k0 := k0) (k1 := k1) (k2 := k2) (k3 := k3) (k5 := k5) R.h ?_
  walk_at "g"
  refine mk_exc T ‹_› R ?_
  intro e de fl s9 H
  obtain ⟨_, hge, t, rfl⟩ := (H.own _ (.tail _ (.head _))).1
  refine ⟨e, t, _, rfl, T.K.keeps H.keep _ _ hC, hge, ?_⟩
  refine leave_x H ?sub he.kind hf hfr' hfu hbl hge h
  case sub => repeat (first | exact List.Sublist.refl _ | refine List.Sublist.cons _ ?_)
theorem c_refused {k : Nat} {outer : List Env} {tk : List (Str × Value)} {Q : Value → Shared → Prop}
    (S : Sf prog w p mu sh TB TR kvs) (T : Tp (KK w) mg mb p) (H : St σ p mu s) (R : Rm A (k + 11)) (D : RD prog w p mu TR tk) (F : valueAt tk "Root" = none)
    (hfr : A.frames = some outer) (hfu : ∀ s', St σ p mu s' → s'.heap.FunFrames p outer) (hbl : ∀ q ∈ mu, q.1 ∈ outer.filterMap (·.frame) → Bl q)
    (h : ∀ s', St σ p mu s' → Q (.bool true) s') :
    wpAny (model prog w) A (call (.ref 522) [.ref sh]) Q E s := by
  refine call_x (binds := [("shelf", .ref sh)]) (fs := [("shelf", some (.ref sh))]) T H R d522 (by kernel_rfl) (by kernel_rfl) (by kernel_rfl) (by kernel_rfl) ?_
  intro A env s1 hA hf hs he H R
  have hfr' : A.frames = some (env :: outer) := by rw [hA]; exact Around.frames_deeper hfr
  have G_put_group := gnl hs (by kernel_rfl) (gl_gput_group T)
  have G_DraftFault := gnl hs (by kernel_rfl) (gl_gDraftFault T)
  refine wpAny_execs_cons (wpAny_Try_except ?_)
  refine x_expr he ?_
  walk_at "g"
  have hfr1 : ∀ s', St σ p ((env.locals, FrameP env [("shelf", some (.ref sh))]) :: mu) s' → s'.heap.FunFrames p (env :: outer) := fun s' H => fr_cons he.kind hf (.head _) H (hfu s' H.drop)
  have hbl1 : ∀ q ∈ (env.locals, FrameP env [("shelf", some (.ref sh))]) :: mu, q.1 ∈ (env :: outer).filterMap (·.frame) → Bl q := fun q hq hm => by
    rcases List.mem_cons.mp hq with rfl | hq
    · exact bl_frame
    · rw [List.filterMap_cons, hf] at hm
      rcases List.mem_cons.mp hm with e1 | hm
      · exact absurd e1 (H.apart q hq)
      · exact hbl q hq hm
  refine put_refused S.c T ‹_› R D.c F hfr' hfr1 hbl1 ?_
  intro e a0 B s2 hold hfl H
  obtain ⟨nm, q, N, bs, sn, sub, ab, col, dd, k0, k1, k2, k3, k5, hC⟩ := x71_lookup (w := w)
  refine wpAny_looks_onW hfr' hf hfl fun h4 hheld hsm => ?_
  refine wpAny_landsW hheld fun h5 hfl5 hsm5 => ?_
  have H5 := H.upto hfl5.1 (hsm.trans hsm5) hold
  refine x_caught (nm := nm) (q := q) (N := N) (bs := bs) (sn := sn) (sub := sub) (ab := ab) (col := col) (dd := dd) (k0 := k0) (k1 := k1) (k2 := k2) (k3 := k3) (k5 := k5) ?_
  refine r_glob G_DraftFault he T H5 ?_
  refine ⟨rfl, T.K.keeps H5.keep _ _ hC, hfl5.there, ?_⟩
  refine lands_againW hfl5 fun h6 hfl6 hsm6 => ?_
  have H6 := H5.upto (s := { s2 with heap := h5 }) hfl6.1 hsm6 hold
  refine x_ret (r_bool ?_)
  exact h _ H6.drop
end
noncomputable def lawSc : Scope := match stm 43 with
  | .FunctionDef _ _ _ _ _ _ sc _ _ _ => sc
  | _ => { kind := .function, names := [], isGenerator := false, isCoroutine := false }
noncomputable def lawB (n : Nat) : List Stmt := (bodyOf (stm 43)).drop n
noncomputable abbrev lfs (script number is_off items rows turn lists first head faults word label place config : Option Value) : List (Str × Option Value) :=
  [("script", script), ("number", number), ("is_off", is_off), ("items", items), ("rows", rows), ("turn", turn), ("lists", lists), ("first", first), ("head", head), ("faults", faults), ("word", word), ("label", label), ("place", place), ("config", config)]
structure CX (env : Env) (x : Str) (c : Addr) : Prop where
  k : env.kindOf x = some .cell
  l : env.cells.lookup x = some c
structure LE (env : Env) (ct cm cs cl cst cn : Addr) : Prop where
  hs : env.scope = lawSc
  he : EnvOk env
  xt : CX env "take" ct
  xm : CX env "many" cm
  xs : CX env "shelf" cs
  xl : CX env "listed" cl
  xst : CX env "states" cst
  xn : CX env "numbers" cn
theorem CX.cn {env : Env} {x : Str} {c : Addr} (h : CX env x c) (he : EnvOk env) (h1 : (x == ("__debug__" : Str)) = false := by decide) (h2 : (x == ("__classdict__" : Str)) = false := by decide) : CN env x c := ⟨he.kind, .inr h.k, h.l, h1, h2⟩
structure LC (prog : Program) (w : World) (mg mb : Str → Option Value) (p : Heap) (ct cm cs f pl sh TB TR : Addr) (many : Nat) (tm : Tok) : Prop where
  T : Tp (KK w) mg mb p
  I : ShelfI p sh TB TR
  TK : TkI p f pl
  hct : Pt p ct (CellP (some (.ref f)))
  hcm : Pt p cm (CellP (some (.int (many : Int) tm)))
  hcs : Pt p cs (CellP (some (.ref sh)))
  lo : (TB == sysModules) = false
  loR : (TR == sysModules) = false
  ne : TR ≠ TB
  m4 : many ≤ 4
theorem LC.mono {prog : Program} {w : World} {mg mb : Str → Option Value} {p p' : Heap} {ct cm cs f pl sh TB TR : Addr} {many : Nat} {tm : Tok} (x : LC prog w mg mb p ct cm cs f pl sh TB TR many tm) (l : Le p p') : LC prog w mg mb p' ct cm cs f pl sh TB TR many tm :=
  ⟨x.T.mono l, x.I.mono l, x.TK.mono l, x.hct.mono l, x.hcm.mono l, x.hcs.mono l, x.lo, x.loR, x.ne, x.m4⟩
theorem LC.el {prog : Program} {w : World} {mg mb : Str → Option Value} {p : Heap} {ct cm cs f pl sh TB TR : Addr} {many : Nat} {tm : Tok} {G : Prop} (x : LC prog w mg mb p ct cm cs f pl sh TB TR many tm) (k : Tp (KK w) mg mb p → ShelfI p sh TB TR → TkI p f pl → Pt p ct (CellP (some (.ref f))) → Pt p cm (CellP (some (.int (many : Int) tm))) → Pt p cs (CellP (some (.ref sh))) → (TB == sysModules) = false → (TR == sysModules) = false → TR ≠ TB → many ≤ 4 → G) : G := k x.T x.I x.TK x.hct x.hcm x.hcs x.lo x.loR x.ne x.m4
theorem LC.el6 {prog : Program} {w : World} {mg mb : Str → Option Value} {p : Heap} {ct cm cs f pl sh TB TR : Addr} {many : Nat} {tm : Tok} {G : Prop} (x : LC prog w mg mb p ct cm cs f pl sh TB TR many tm) (k : Tp (KK w) mg mb p → ShelfI p sh TB TR → TkI p f pl → Pt p ct (CellP (some (.ref f))) → Pt p cm (CellP (some (.int (many : Int) tm))) → Pt p cs (CellP (some (.ref sh))) → G) : G := k x.T x.I x.TK x.hct x.hcm x.hcs
noncomputable def Tab9 (o : Obj) : Prop := ∃ ps, o = tabObj ps
local macro_rules | `(tactic| walk_at "go6") => `(tactic| first
  | walk_at "go5"
  | ((with_reducible refine' r_cellp ?C ?H ?m ?_); (case C => with_reducible assumption); (case H => with_reducible assumption); (case m => with_reducible assumption)))
local macro_rules | `(tactic| walk_at "g") => `(tactic| repeat walk_at "go6")
section
variable {prog : Program} {w : World} {A : Around} {σ s : Shared} {p : Heap} {mu mu' : List Cell} {mg mb : Str → Option Value} {env : Env}
variable {ct cm cs cl cst cn f pl sh TB TR : Addr}
set_option maxHeartbeats 4000000 in
theorem law1 {k : Nat} {sc : Addr} {vals : List Value} {ns : List Int} {Q : Flow → Shared → Prop} (T : Tp (KK w) mg mb p) (B : BM mg p) (C : CodeHd p 509 505) (L : LE env ct cm cs cl cst cn) (R : Rm A (k + 60))
    (H : St σ p ((env.locals, FrameP env (lfs (some (.ref sc)) none none none none none none none none none none none none none)) :: (ct, CellP none) :: (cm, CellP none) :: (cs, CellP none) :: (cl, CellP none) :: (cst, CellP none) :: (cn, CellP none) :: [(505, (· = tabObj #[]))]) s)
    (hsl : p.IsList sc vals.toArray) (hI : IntsAre vals ns) (hz : vals.length ≤ 63)
    (h : ∀ f pl sh TB TR many tm p' s', Le p p' → LC prog w mg mb p' ct cm cs f pl sh TB TR many tm →
      St σ p' ((env.locals, FrameP env (lfs (some (.ref sc)) none none none none none none none none none none none none none)) :: (TB, DcP (intKind prog w) []) :: (TR, DcP (strKind prog w) []) :: (pl, PlP 1) :: (cl, CellP none) :: (cst, CellP none) :: (cn, CellP none) :: [(505, Tab9)]) s' →
      wpAny (model prog w) A (execs (lawB 3) env) Q NE s') :
    wpAny (model prog w) A (execs (lawB 0) env) Q NE s := by
  have he := L.he
  have hs := L.hs
  have G__law_taker := gnl hs (by kernel_rfl) (gl_glaw_taker T)
  have G_Shelf := gnl hs (by kernel_rfl) (gl_gShelf T)
  have xt := L.xt.cn he
  refine x_assign ?_
  walk_at "g"
  refine c_taker T B ‹_› R C hsl hI hz (.tail (.tail (.tail (.tail (.tail (.tail (.tail .head))))))) ?_
  intro f pl p2 s2 l2 TK H
  have T := T.mono l2
  walk_at "g"
  refine st_cell he.kind L.xt.k L.xt.l ‹_› (.tail (.tail .head)) ?_
  intro s3 H
  have H := H.perm (perm3 (a := (pl, PlP 0)) (b := (env.locals, _)))
  refine St.fz H ?_
  intro p3 l3 hct H
  have T := T.mono l3
  have TK := TK.mono l3
  have H := H.swap
  walk_at "g"
  refine c_take T ‹_› R TK (.tail .head) (by omega) (by decide) ?_
  intro mv tm s4 hm0 hm5 H
  obtain ⟨many, rfl⟩ : ∃ n : Nat, mv = n := ⟨mv.toNat, by omega⟩
  walk_at "g"
  refine st_cell he.kind L.xm.k L.xm.l ‹_› (.tail (.tail .head)) ?_
  intro s5 H
  have H := H.perm (perm3 (a := (env.locals, _)))
  refine St.fz H ?_
  intro p5 l5 hcm H
  have T := T.mono l5
  have TK := TK.mono l5
  have hct := hct.mono l5
  walk_at "g"
  refine mk_shelf T ‹_› R ?_
  intro sh p6 s6 TB TR l6 I lo loR H
  have T := T.mono l6
  have hne : TR ≠ TB := (St.apart H) _ (.head _)
  have H := H.perm (perm3 (a := (TB, _)))
  walk_at "g"
  refine st_cell he.kind L.xs.k L.xs.l ‹_› (.tail (.tail (.tail (.tail .head)))) ?_
  intro s7 H
  have H := H.perm (((List.perm_append_comm (l₁ := [_, _, _, _]) (l₂ := [_])).append_right _))
  refine St.fz H ?_
  intro p7 l7 hcs H
  refine h f pl sh TB TR many tm p7 _ (l2.trans (l3.trans (l5.trans (l6.trans l7)))) ⟨T.mono l7, I.mono l7, TK.mono (l6.trans l7), hct.mono (l6.trans l7), hcm.mono (l6.trans l7), hcs, lo, loR, hne, by omega⟩ H
end
noncomputable def labO (n : Int) : Array UInt8 := byteArr [96 + n]
section
variable {prog : Program} {w : World} {A : Around} {E : Value → Shared → Prop} {σ s : Shared} {p : Heap} {mu mu' : List Cell} {mg mb : Str → Option Value} {env : Env}
variable {ct cm cs cl cst cn f pl sh TB TR : Addr} {many : Nat} {tm : Tok}
theorem x_assignC {x : Str} {pos' pos cpos : Pos} {elt target iter : Expr} {ifs : List Expr} {sc : Scope} {rest : List Stmt} {Q : Flow → Shared → Prop} (hx : env.kindOf x = some .cell)
    (h : wpAny (model prog w) A (eval (.ListComp elt [⟨target, iter, ifs, 0⟩] sc cpos) env) (fun v s₁ => wpAny (model prog w) A (storeName env x v) (fun _ s₂ => wpAny (model prog w) A (execs rest env) Q E s₂) E s₁) E s) :
    wpAny (model prog w) A (execs (.Assign [.Name x pos'] (.ListComp elt [⟨target, iter, ifs, 0⟩] sc cpos) pos :: rest) env) Q E s := by
  refine x_assign h ?_
  show (pure (env.blockKind == .function && env.kindOf x == some .local && pos'.line == cpos.line && !(sc.names.any fun (n, k) => n == x && (k == .local || k == .cell))) : Sem Bool) = pure false
  rw [hx, show ((some NameKind.cell : Option NameKind) == some NameKind.local) = false from by decide]
  simp
end
namespace law2_E
noncomputable section
def eS (prog : Program) (w : World) (A : Around) (σ s : Shared) (p : Heap) (mg mb : Str → Option Value) (env : Env) (ct cm cs cl cst cn f pl sh TB TR : Addr) (many : Nat) (tm : Tok) (k : Nat) (v0 : Option Value) (rest : List Cell) (Q : Flow → Shared → Prop) : Prop := ∀ (L : LE env ct cm cs cl cst cn) (Z : LC prog w mg mb p ct cm cs f pl sh TB TR many tm) (R : Rm A (k + 60)) (H : St σ p ((env.locals, FrameP env (lfs v0 none none none none none none none none none none none none none)) :: (TB, DcP (intKind prog w) []) :: rest) s) (h : ∀ kvs o1 p' s', Le p p' → KT kvs many → (∀ n : Int, 1 ≤ n → n ≤ many → LabAt prog w p' kvs n (labO n)) →
      St σ p' ((env.locals, FrameP env (lfs v0 o1 none none none none none none none none none none none none)) :: (TB, DcP (intKind prog w) kvs) :: rest) s' →
      wpAny (model prog w) A (execs (lawB 4) env) Q NE s'), wpAny (model prog w) A (execs (lawB 3) env) Q NE s
abbrev eT := (Program) × (World) × (Around) × (Shared) × (Shared) × (Heap) × (Str → Option Value) × (Str → Option Value) × (Env) × (Addr) × (Addr) × (Addr) × (Addr) × (Addr) × (Addr) × (Addr) × (Addr) × (Addr) × (Addr) × (Addr) × (Nat) × (Tok) × (Nat) × (Option Value) × (List Cell) × (Flow → Shared → Prop)
def eg1 (x : eT) := x.2.2.2.2.2.2.2.2
def eg2 (x : eT) := (eg1 x).2.2.2.2.2.2.2.2
def eg3 (x : eT) := (eg2 x).2.2.2.2.2.2.2.2
def eP (x : eT) : Prop := eS x.1 x.2.1 x.2.2.1 x.2.2.2.1 x.2.2.2.2.1 x.2.2.2.2.2.1 x.2.2.2.2.2.2.1 x.2.2.2.2.2.2.2.1 (eg1 x).1 (eg1 x).2.1 (eg1 x).2.2.1 (eg1 x).2.2.2.1 (eg1 x).2.2.2.2.1 (eg1 x).2.2.2.2.2.1 (eg1 x).2.2.2.2.2.2.1 (eg1 x).2.2.2.2.2.2.2.1 (eg2 x).1 (eg2 x).2.1 (eg2 x).2.2.1 (eg2 x).2.2.2.1 (eg2 x).2.2.2.2.1 (eg2 x).2.2.2.2.2.1 (eg2 x).2.2.2.2.2.2.1 (eg2 x).2.2.2.2.2.2.2.1 (eg3 x).1 (eg3 x).2
noncomputable def ec : eT := @Classical.epsilon eT ⟨(default, dW, dA, dS, dS, default, default, default, default, default, default, default, default, default, default, default, default, default, default, default, default, default, default, default, default, default)⟩ fun x => ¬ eP x
@[irreducible] def prog := ec.1
@[irreducible] def w := ec.2.1
@[irreducible] def A := ec.2.2.1
@[irreducible] def σ := ec.2.2.2.1
@[irreducible] def s := ec.2.2.2.2.1
@[irreducible] def p := ec.2.2.2.2.2.1
@[irreducible] def mg := ec.2.2.2.2.2.2.1
@[irreducible] def mb := ec.2.2.2.2.2.2.2.1
@[irreducible] def env := (eg1 ec).1
@[irreducible] def ct := (eg1 ec).2.1
@[irreducible] def cm := (eg1 ec).2.2.1
@[irreducible] def cs := (eg1 ec).2.2.2.1
@[irreducible] def cl := (eg1 ec).2.2.2.2.1
@[irreducible] def cst := (eg1 ec).2.2.2.2.2.1
@[irreducible] def cn := (eg1 ec).2.2.2.2.2.2.1
@[irreducible] def f := (eg1 ec).2.2.2.2.2.2.2.1
@[irreducible] def pl := (eg2 ec).1
@[irreducible] def sh := (eg2 ec).2.1
@[irreducible] def TB := (eg2 ec).2.2.1
@[irreducible] def TR := (eg2 ec).2.2.2.1
@[irreducible] def many := (eg2 ec).2.2.2.2.1
@[irreducible] def tm := (eg2 ec).2.2.2.2.2.1
@[irreducible] def k := (eg2 ec).2.2.2.2.2.2.1
@[irreducible] def v0 := (eg2 ec).2.2.2.2.2.2.2.1
@[irreducible] def rest := (eg3 ec).1
@[irreducible] def Q := (eg3 ec).2
end
set_option maxHeartbeats 4000000 in
theorem main : eS prog w A σ s p mg mb env ct cm cs cl cst cn f pl sh TB TR many tm k v0 rest Q := by
  intro  L Z R H h
  have he := L.he
  have hs := L.hs
  refine LC.el Z ?_
  intro T I TK hct hcm hcs lo loR ne m4
  have G_range := gnl hs (by kernel_rfl) (gl_grange T)
  have G_Name := gnl hs (by kernel_rfl) (gl_gName T)
  have G_String := gnl hs (by kernel_rfl) (gl_gString T)
  have G_bytes := gnl hs (by kernel_rfl) (gl_gbytes T)
  have xm := L.xm.cn he
  have xs := L.xs.cn he
  refine x_for ?_
  walk_at "g"
  refine r_range2 ‹_› ?_
  intro rg p2 s2 l2 hrg H
  have hN : (((many : Int) + 1) - 1).toNat = many := by omega
  refine for_go (I := fun i p' fs' mu' => ∀ C : List (Str × Option Value) → List Cell → Prop, (∀ o1 kvs, Le p p' → KT kvs i → (∀ n : Int, 1 ≤ n → n ≤ i → LabAt prog w p' kvs n (labO n)) → C (lfs v0 o1 none none none none none none none none none none none none) ((TB, DcP (intKind prog w) kvs) :: rest)) → C fs' mu') R.h (itb_range hrg (by omega) (by omega)) ‹_›
    (fun _ K => K none [] l2 ⟨Nat.le_refl _, fun i h1 h2 => by omega, fun i h1 => rfl⟩ (fun n h1 h2 => by omega)) ?_ ?_
  · intro i p3 fs3 mu3 c v s3 hi l3 J hv
    apply J
    clear J
    intro o1 kvs l03 kt lab
    apply ex_el hv
    clear hv
    intro tv
    intro H
    rw [hN] at hi
    have Z := Z.mono l03
    refine LC.el6 Z ?_
    intro T I TK hct hcm hcs
    walk_at "g"
    refine e_dict (knd := strKind prog w) T ‹_› rfl rfl (by simp) (by decide) ?_
    intro gd s9 lo3 H
    refine p_cons ?_
    walk_at "g"
    refine mk_name T ‹_› R ?_
    intro nm p10 s10 l10 hnm H
    have T := T.mono l10
    refine p_cons ?_
    walk_at "g"
    refine r_newList ‹_› (Nat.le_of_ble_eq_true rfl) ?_
    intro bl s23 H
    walk_at "g"
    refine r_bytes1 H (rd_m H (.head _)) (.cons _ _ .nil) (fun n hn => by rw [List.mem_singleton.mp hn]; omega) (Nat.le_of_ble_eq_true rfl) R.h ?_
    intro t24 s24 H
    have H := H.drop
    walk_at "g"
    refine mk_str T ‹_› R ?_
    intro st p11 s11 l11 hst H
    have T := T.mono l11
    refine p_nil ?_
    have hnm := hnm.mono l11
    have l011 := l10.trans l11
    refine dict_of [("Type", .ref nm), ("Name", .ref st)] ?_ (by decide : (["Type", "Name"] : List Str).Nodup) ‹_› ?_
    · exact ⟨sk, rfl, sk, rfl, trivial⟩
    intro s12 H
    refine St.fz2 H ?_
    intro p12 l12 hgd H
    have T := T.mono l12
    have l012 := l011.trans l12
    walk_at "g"
    refine' Sf.put (n := 1 + (i : Int)) ?S T ‹_› R (fun x => .tail (.tail .head)) (Nat.le_trans kt.z (by omega)) ?_
    case S => exact ⟨I.mono l012, by walk_at "mem", lo⟩
    intro t p13 s13 l13 ht H
    walk_at "g"
    have l313 := l012.trans l13
    have e1 : (1 + (i : Int)) = (i : Int) + 1 := Int.add_comm _ _
    rw [e1] at H
    refine turn_of l313 (fun _ K => K _ _ (l03.trans l313) kt.add (fun n h1 h2 => ?_)) ‹_›
    by_cases hn : n = (i : Int) + 1
    · subst hn
      refine ⟨t, _, gd, [("Type", .ref nm), ("Name", .ref st)], .ref nm, .ref st, t24, by rw [valueAt_stored, if_pos rfl], ht, ⟨.inr (hgd.mono l13), lo3⟩, rfl, ⟨nm, _, rfl, hnm.mono (l12.trans l13)⟩, rfl, ⟨st, .bool false, rfl, ?_⟩⟩
      rw [e1] at hst
      exact hst.mono (l12.trans l13)
    · exact ((lab n h1 (by omega)).mono l313).ext (KLe.new (kt.out _ (by omega)))
  · intro p3 fs3 mu3 s3 l3 J
    apply J
    clear J
    intro o1 kvs l03 kt lab
    intro H
    rw [hN] at kt lab
    exact h kvs o1 p3 s3 l03 kt lab H
theorem all (x : eT) : eP x := eps (show eP ec by with_unfolding_all exact main) x
end law2_E
theorem law2 {prog : Program} {w : World} {A : Around} {σ s : Shared} {p : Heap} {mg mb : Str → Option Value} {env : Env} {ct cm cs cl cst cn f pl sh TB TR : Addr} {many : Nat} {tm : Tok} {k : Nat} {v0 : Option Value} {rest : List Cell} {Q : Flow → Shared → Prop} : law2_E.eS prog w A σ s p mg mb env ct cm cs cl cst cn f pl sh TB TR many tm k v0 rest Q :=
  law2_E.all (prog, w, A, σ, s, p, mg, mb, env, ct, cm, cs, cl, cst, cn, f, pl, sh, TB, TR, many, tm, k, v0, rest, Q)
section
variable {prog : Program} {w : World} {A : Around} {E : Value → Shared → Prop} {σ s : Shared} {p : Heap} {mu mu' : List Cell} {mg mb : Str → Option Value} {env : Env}
variable {ct cm cs cl cst cn f pl sh TB TR : Addr} {many : Nat} {tm : Tok}
end
namespace law4_E
noncomputable section
def eS (prog : Program) (w : World) (A : Around) (σ s : Shared) (p : Heap) (mg mb : Str → Option Value) (env : Env) (ct cm cs cl cst cn f pl sh TB TR : Addr) (many : Nat) (tm : Tok) (k : Nat) (kvs : List (Int × Value)) (v0 v1 : Option Value) (rest : List Cell) (Q : Flow → Shared → Prop) : Prop := ∀ (L : LE env ct cm cs cl cst cn) (Z : LC prog w mg mb p ct cm cs f pl sh TB TR many tm) (R : Rm A (k + 60)) (kt : KT kvs many) (lab : ∀ n : Int, 1 ≤ n → n ≤ many → LabAt prog w p kvs n (labO n)) (H : St σ p ((env.locals, FrameP env (lfs v0 v1 none none none none none none none none none none none none)) :: (TB, DcP (intKind prog w) kvs) :: (TR, DcP (strKind prog w) []) :: (pl, PlP 1) :: (cl, CellP none) :: rest) s) (h : ∀ lst la us b it rw vs rvs rows hd kvs' m p' s', Le p p' → lst.Nodup → lst.length ≤ 4 → (∀ n ∈ lst, 1 ≤ n ∧ n ≤ (many : Int)) → Pt p' la (LsP us) → IntsAre us lst →
      Pt p' it (LsP vs) → Pt p' rw (LsP rvs) → Tr prog w p' kvs' 3 vs rows hd → RowsAt p' rvs rows → KT kvs' m → KLe kvs kvs' → m ≤ 43 → vs.length ≤ 3 → rows.length ≤ 200 → (∀ n ∈ rowsG rows, 1 ≤ n ∧ n ≤ (many : Int)) →
      St σ p' ((env.locals, FrameP env (lfs v0 v1 (some (.bool b)) (some (.ref it)) (some (.ref rw)) none none none none none none none none none)) :: (TB, DcP (intKind prog w) kvs') :: (TR, DcP (strKind prog w) []) :: (pl, PlP 330) :: (cl, CellP (some (.ref la))) :: rest) s' →
      wpAny (model prog w) A (execs (lawB 7) env) Q NE s'), wpAny (model prog w) A (execs (lawB 4) env) Q NE s
abbrev eT := (Program) × (World) × (Around) × (Shared) × (Shared) × (Heap) × (Str → Option Value) × (Str → Option Value) × (Env) × (Addr) × (Addr) × (Addr) × (Addr) × (Addr) × (Addr) × (Addr) × (Addr) × (Addr) × (Addr) × (Addr) × (Nat) × (Tok) × (Nat) × (List (Int × Value)) × (Option Value) × (Option Value) × (List Cell) × (Flow → Shared → Prop)
def eg1 (x : eT) := x.2.2.2.2.2.2.2.2
def eg2 (x : eT) := (eg1 x).2.2.2.2.2.2.2.2
def eg3 (x : eT) := (eg2 x).2.2.2.2.2.2.2.2
def eP (x : eT) : Prop := eS x.1 x.2.1 x.2.2.1 x.2.2.2.1 x.2.2.2.2.1 x.2.2.2.2.2.1 x.2.2.2.2.2.2.1 x.2.2.2.2.2.2.2.1 (eg1 x).1 (eg1 x).2.1 (eg1 x).2.2.1 (eg1 x).2.2.2.1 (eg1 x).2.2.2.2.1 (eg1 x).2.2.2.2.2.1 (eg1 x).2.2.2.2.2.2.1 (eg1 x).2.2.2.2.2.2.2.1 (eg2 x).1 (eg2 x).2.1 (eg2 x).2.2.1 (eg2 x).2.2.2.1 (eg2 x).2.2.2.2.1 (eg2 x).2.2.2.2.2.1 (eg2 x).2.2.2.2.2.2.1 (eg2 x).2.2.2.2.2.2.2.1 (eg3 x).1 (eg3 x).2.1 (eg3 x).2.2.1 (eg3 x).2.2.2
noncomputable def ec : eT := @Classical.epsilon eT ⟨(default, dW, dA, dS, dS, default, default, default, default, default, default, default, default, default, default, default, default, default, default, default, default, default, default, default, default, default, default, default)⟩ fun x => ¬ eP x
@[irreducible] def prog := ec.1
@[irreducible] def w := ec.2.1
@[irreducible] def A := ec.2.2.1
@[irreducible] def σ := ec.2.2.2.1
@[irreducible] def s := ec.2.2.2.2.1
@[irreducible] def p := ec.2.2.2.2.2.1
@[irreducible] def mg := ec.2.2.2.2.2.2.1
@[irreducible] def mb := ec.2.2.2.2.2.2.2.1
@[irreducible] def env := (eg1 ec).1
@[irreducible] def ct := (eg1 ec).2.1
@[irreducible] def cm := (eg1 ec).2.2.1
@[irreducible] def cs := (eg1 ec).2.2.2.1
@[irreducible] def cl := (eg1 ec).2.2.2.2.1
@[irreducible] def cst := (eg1 ec).2.2.2.2.2.1
@[irreducible] def cn := (eg1 ec).2.2.2.2.2.2.1
@[irreducible] def f := (eg1 ec).2.2.2.2.2.2.2.1
@[irreducible] def pl := (eg2 ec).1
@[irreducible] def sh := (eg2 ec).2.1
@[irreducible] def TB := (eg2 ec).2.2.1
@[irreducible] def TR := (eg2 ec).2.2.2.1
@[irreducible] def many := (eg2 ec).2.2.2.2.1
@[irreducible] def tm := (eg2 ec).2.2.2.2.2.1
@[irreducible] def k := (eg2 ec).2.2.2.2.2.2.1
@[irreducible] def kvs := (eg2 ec).2.2.2.2.2.2.2.1
@[irreducible] def v0 := (eg3 ec).1
@[irreducible] def v1 := (eg3 ec).2.1
@[irreducible] def rest := (eg3 ec).2.2.1
@[irreducible] def Q := (eg3 ec).2.2.2
end
set_option maxHeartbeats 4000000 in
theorem main : eS prog w A σ s p mg mb env ct cm cs cl cst cn f pl sh TB TR many tm k kvs v0 v1 rest Q := by
  intro  L Z R kt lab H h
  have he := L.he
  have hs := L.hs
  refine LC.el Z ?_
  intro T I TK hct hcm hcs lo loR ne m4
  have G_range := gnl hs (by kernel_rfl) (gl_grange T)
  have G__law_items := gnl hs (by kernel_rfl) (gl_glaw_items T)
  have xm := L.xm.cn he
  have xt := L.xt.cn he
  have xs := L.xs.cn he
  have xtl := L.xt.l
  refine x_assignC L.xl.k ?_
  refine e_comp (σ := σ) he (by walk_at "caps") (by kernel_rfl) rfl (fun _ => rfl) (fun _ _ => rfl) R.h ?_
  walk_at "g"
  refine r_range2 ‹_› ?_
  intro rg p2 s2 l2 hrg H
  have hN : (((many : Int) + 1) - 1).toNat = many := by omega
  refine comp_of (N := (((many : Int) + 1) - 1).toNat) (p := p2) (J := fun i vs p' fs' mu' => ∀ C : List (Str × Option Value) → List Cell → Prop, (∀ ns o1, IntsAre vs ns → ns.length ≤ i → ns.Pairwise (· < ·) → (∀ n ∈ ns, 1 ≤ n ∧ n ≤ (i : Int)) → C [(".0", none), ("number", o1)] ((env.locals, FrameP env (lfs v0 v1 none none none none none none none none none none none none)) :: (TB, DcP (intKind prog w) kvs) :: (TR, DcP (strKind prog w) []) :: (pl, PlP (1 + i)) :: (cl, CellP none) :: rest)) → C fs' mu') (itb_range hrg (by omega) (by omega)) ‹_› (fun _ K => K [] none .nil (Nat.zero_le _) .nil (fun n hn => nomatch hn)) ?_ ?_
  · intro env' CE i vs p3 fs' mu' c acc v s3 hi l3 J hv
    apply J
    clear J
    intro ns o1 hvs hl hp hb
    apply ex_el hv
    clear hv
    intro tv
    intro H
    rw [hN] at hi
    have he := CE.ok
    have xt' := CE.cn "take" ct rfl rfl (by decide) (by decide)
    have Z := (Z.mono l2).mono l3
    refine LC.el6 Z ?_
    intro T I TK hct hcm hcs
    have zv : vs.length ≤ 4 := by rw [hvs.length]; omega
    refine ⟨Nat.le_trans zv (Nat.le_of_ble_eq_true rfl), ?_⟩
    walk_at "g"
    refine t_one ?_
    walk_at "g"
    refine c_take T ‹_› R TK (.tail (.tail (.tail (.tail (.tail (.tail .head)))))) (by omega) (by decide) ?_
    intro v3 t3 s4 h30 h33 H
    walk_at "g"
    by_cases hv : 0 < v3
    · rw [decide_eq_true hv]
      walk_at "g"
      refine ct_of Le.rfl (fun _ K => K (ns ++ [1 + (i : Int)]) _ (ints_snoc hvs _ _) (by simp; omega) ?_ ?_) ‹_›
      · rw [List.pairwise_append]
        refine ⟨hp, List.pairwise_singleton _ _, fun a ha b hb' => ?_⟩
        rw [List.mem_singleton.mp hb']
        have := (hb a ha).2
        omega
      · intro n hn
        rcases List.mem_append.mp hn with hn | hn
        · have := hb n hn; omega
        · rw [List.mem_singleton.mp hn]; omega
    · rw [decide_eq_false hv]
      walk_at "g"
      refine ct_of Le.rfl (fun _ K => K ns _ hvs (by omega) hp (fun n hn => ?_)) ‹_›
      have := hb n hn; omega
  · intro vs p3 fs' mu' acc s3 l3 J
    apply J
    clear J
    intro ns o1 hvs hl hp hb
    intro H
    rw [hN] at hb hl
    refine St.fz H ?_
    intro p4 l4 hacc H
    have l04 := l2.trans (l3.trans l4)
    have Z := Z.mono l04
    refine LC.el6 Z ?_
    intro T I TK hct hcm hcs
    refine st_cell he.kind L.xl.k L.xl.l ‹_› (.tail (.tail (.tail (.tail .head)))) ?_
    intro s5 H
    walk_at "g"
    refine c_take T ‹_› R TK (.tail (.tail (.tail .head))) (by omega) (by decide) ?_
    intro v3 t3 s6 h30 h33 H
    walk_at "g"
    have H20 := (‹St σ p4 (_ :: _ :: _ :: (pl, PlP _) :: _) _›).perm (mu' := (pl, PlP _) :: (TB, DcP (intKind prog w) kvs) :: _) ((List.perm_append_comm (l₁ := [_, _, _]) (l₂ := [_]).append_right _).trans (.cons _ (.swap _ _ _)))
    refine itC prog w 3 (k := k + 20) T H20 (show Rm A (k + 20 + 2 * 3 + 10) from R.less (by omega)) I lo TK kt m4 (show many + 39 ≤ 80 by omega) (show _ + 319 ≤ 449 by omega) (fun n h1 h2 => ⟨_, (lab n h1 h2).mono l04⟩) ?_
    intro t it rw vs2 rvs rows hd p8 kvs' m' s8 l8 ht hit hrw tr hx ra kt' kle hm hvs2 hrows hg H
    have H := H.perm (mu' := _ :: (TB, DcP (intKind prog w) kvs') :: _ :: (pl, PlP _) :: _) ((List.Perm.cons _ (.swap _ _ _)).trans ((List.perm_append_comm (l₁ := [_]) (l₂ := [_, _, _])).append_right _))
    refine as_pair R.h ‹_› ht ?_
    intro s9 H
    walk_at "g"
    exact h ns acc vs (v3 == 1) it rw vs2 rvs rows hd kvs' m' p8 _ (l04.trans l8) (hp.imp (fun h => by omega)) (by omega) hb (hacc.mono l8) hvs hit hrw tr ra kt' kle (Nat.le_trans hm (show many + 39 ≤ 43 by omega)) hvs2 (Nat.le_trans hrows (by decide)) hg
      ((‹St σ p8 (_ :: _ :: _ :: (pl, PlP _) :: _) _›).weak (.tail (.tail (.tail .head))) (fun o ho => PlP.le ho (show _ + 319 ≤ 330 by omega)))
theorem all (x : eT) : eP x := eps (show eP ec by with_unfolding_all exact main) x
end law4_E
theorem law4 {prog : Program} {w : World} {A : Around} {σ s : Shared} {p : Heap} {mg mb : Str → Option Value} {env : Env} {ct cm cs cl cst cn f pl sh TB TR : Addr} {many : Nat} {tm : Tok} {k : Nat} {kvs : List (Int × Value)} {v0 v1 : Option Value} {rest : List Cell} {Q : Flow → Shared → Prop} : law4_E.eS prog w A σ s p mg mb env ct cm cs cl cst cn f pl sh TB TR many tm k kvs v0 v1 rest Q :=
  law4_E.all (prog, w, A, σ, s, p, mg, mb, env, ct, cm, cs, cl, cst, cn, f, pl, sh, TB, TR, many, tm, k, kvs, v0, v1, rest, Q)
section
end
theorem ddp_acc_app : ∀ (l acc : List Int), (∀ n ∈ l, n ∉ acc) → l.Nodup → l.foldl ddp1 acc = acc ++ l
  | [], acc, _, _ => by simp
  | x :: r, acc, h, hn => by
    rw [List.foldl_cons]
    have hx : acc.any (· == x) = false := by
      rw [List.any_eq_false]
      intro a ha e
      exact h x (.head _) (by rw [← show a = x from by simpa using e]; exact ha)
    rw [show ddp1 acc x = acc ++ [x] from by unfold ddp1; rw [hx, if_neg Bool.false_ne_true], ddp_acc_app r _ (fun n hn' hm => ?_) (List.nodup_cons.mp hn).2, List.append_assoc]
    · rfl
    · rcases List.mem_append.mp hm with hm | hm
      · exact h n (.tail _ hn') hm
      · rw [List.mem_singleton] at hm
        subst hm
        exact (List.nodup_cons.mp hn).1 hn'
theorem ddp_id {l : List Int} (h : l.Nodup) : ddp l = l := by
  have := ddp_acc_app l [] (fun _ _ h => nomatch h) h
  simpa [ddp] using this
theorem ddp1_any (acc : List Int) (x k : Int) : (ddp1 acc x).any (· == k) = (acc.any (· == k) || x == k) := by
  unfold ddp1
  split
  · rename_i h
    by_cases e : x = k
    · subst e; rw [h]; simp
    · have : (x == k) = false := by simpa using e
      rw [this, Bool.or_false]
  · rw [List.any_append]; simp
theorem ddp_any_acc : ∀ (l acc : List Int) (k : Int), (l.foldl ddp1 acc).any (· == k) = (acc.any (· == k) || l.any (· == k))
  | [], acc, k => by simp
  | x :: r, acc, k => by rw [List.foldl_cons, ddp_any_acc r, ddp1_any, List.any_cons, Bool.or_assoc]
theorem ddp_any (l : List Int) (k : Int) : (ddp l).any (· == k) = l.any (· == k) := by
  have := ddp_any_acc l [] k
  simpa [ddp] using this
noncomputable def boolD (l : List Int) (g : Int → Bool) : List (Int × Value) := l.map fun n => (n, .bool (g n))
theorem boolD_at (l : List Int) (g : Int → Bool) (n : Int) : valueAt (boolD l g) n = if l.any (· == n) then some (.bool (g n)) else none := by
  induction l with
  | nil => rfl
  | cons x r ih =>
    show valueAt ((x, .bool (g x)) :: boolD r g) n = _
    rw [valueAt_cons, List.any_cons, ih]
    by_cases e : x = n
    · subst e; simp
    · have : (x == n) = false := by simpa using e
      simp [e, this]
theorem boolD_snoc {l : List Int} {g : Int → Bool} {n : Int} {b : Bool} (h : n ∉ l) (hb : g n = b) : stored (boolD l g) n (.bool b) = boolD (l ++ [n]) g := by
  have hv : valueAt (boolD l g) n = none := by
    rw [boolD_at]
    have : l.any (· == n) = false := by
      rw [List.any_eq_false]
      intro a ha e
      exact h (by rw [← show a = n from by simpa using e]; exact ha)
    rw [this]; rfl
  rw [stored_new hv, ← hb]
  unfold boolD
  rw [List.map_append]; rfl
theorem boolD_set {l : List Int} {g : Int → Bool} {n : Int} {b : Bool} (h : n ∈ l) : stored (boolD l g) n (.bool b) = boolD l (fun k => if k = n then b else g k) := by
  have hv : ((boolD l g).any fun kv => kv.1 = n) = true := by
    rw [← valueAt_any, boolD_at]
    have : l.any (· == n) = true := List.any_eq_true.mpr ⟨n, h, by simp⟩
    rw [this]; rfl
  unfold stored
  rw [if_pos hv]
  unfold boolD
  rw [List.map_map]
  apply List.map_congr_left
  intro k _
  show (if k = n then (k, Value.bool b) else (k, .bool (g k))) = _
  by_cases e : k = n <;> simp [e]
theorem boolD_congr {l : List Int} {g g' : Int → Bool} (h : ∀ n ∈ l, g n = g' n) : boolD l g = boolD l g' := List.map_congr_left fun n hn => by rw [h n hn]
theorem boolD_setIn1 {l : List Int} {g : Int → Bool} {n : Int} {b : Bool} : setIn1 b (boolD l g) n = boolD l (fun k => if k = n then b else g k) := by
  unfold setIn1
  by_cases h : n ∈ l
  · have : (valueAt (boolD l g) n).isSome = true := by
      rw [boolD_at, List.any_eq_true.mpr ⟨n, h, by simp⟩]; rfl
    rw [if_pos this, boolD_set h]
  · have : l.any (· == n) = false := by
      rw [List.any_eq_false]
      intro a ha e
      exact h (by rw [← show a = n from by simpa using e]; exact ha)
    rw [boolD_at, this]
    exact boolD_congr fun k hk => by rw [if_neg (fun e => h (by rw [← e]; exact hk))]
theorem boolD_setIn (b : Bool) (l : List Int) : ∀ (ns : List Int) (g : Int → Bool), setIn b (boolD l g) ns = boolD l (fun k => if ns.any (· == k) then b else g k)
  | [], g => by unfold setIn; rw [List.foldl_nil]; exact boolD_congr fun k _ => by simp
  | n :: r, g => by
    have e : setIn b (boolD l g) (n :: r) = setIn b (setIn1 b (boolD l g) n) r := rfl
    rw [e, boolD_setIn1, boolD_setIn b l r]
    refine boolD_congr fun k _ => ?_
    rw [List.any_cons]
    by_cases e1 : r.any (· == k) = true
    · rw [e1, Bool.or_true]; rfl
    · rw [Bool.not_eq_true] at e1
      rw [e1, Bool.or_false]
      by_cases e2 : k = n
      · subst e2; simp
      · have : (n == k) = false := by simpa using fun e => e2 e.symm
        simp [e2, this]
theorem boolD_setAll (b : Bool) : ∀ (ns l : List Int), (l ++ ns).Nodup → setAll b (boolD l (fun _ => b)) ns = boolD (l ++ ns) (fun _ => b)
  | [], l, _ => by rw [List.append_nil]; rfl
  | n :: r, l, h => by
    have e : setAll b (boolD l (fun _ => b)) (n :: r) = setAll b (stored (boolD l (fun _ => b)) n (.bool b)) r := rfl
    have hn : n ∉ l := fun hm => by
      have := (List.nodup_append.mp h).2.2 n hm n (.head _)
      exact this rfl
    rw [e, boolD_snoc hn rfl, boolD_setAll b r (l ++ [n]) (by rw [List.append_assoc]; exact h), List.append_assoc]
    rfl
theorem startS_eq {b : Bool} {ns ons offs : List Int} (h : ns.Nodup) : startS b ns ons offs = boolD ns (fun k => if offs.any (· == k) then false else if ons.any (· == k) then true else b) := by
  unfold startS
  have := boolD_setAll b ns [] (by simpa using h)
  rw [List.nil_append] at this
  rw [show setAll b [] ns = boolD ns (fun _ => b) from this, boolD_setIn, boolD_setIn]
section
variable {prog : Program} {w : World} {A : Around} {E : Value → Shared → Prop} {σ s : Shared} {p : Heap} {mu mu' : List Cell}
theorem eqat_bytes {b : Array UInt8} {t u : Tok} : SeqAt.EqAt A s (.bytes b t) (.bytes b u) true := fun prog w E Q h => eqBool_bytes (by simpa using h)
theorem eqat_int {n : Int} {t u : Tok} : SeqAt.EqAt A s (.int n t) (.int n u) true := by have := SeqAt.EqAt.int_int (A := A) (s := s) n t n u; simpa using this
theorem eqat_str {n : Str} {t u : Tok} : SeqAt.EqAt A s (.str n t) (.str n u) true := by have := SeqAt.EqAt.str_str (A := A) (s := s) n t n u; simpa using this
theorem eqat_tup {a b : Addr} {vs us : List Value} (H : St σ p mu s) (ha : p.get? a = some (tupObj vs)) (hb : p.get? b = some (tupObj us)) (hl : vs.length = us.length) (hu : A.units < cLine)
    (h : ∀ (j : Nat) v u, vs[j]? = some v → us[j]? = some u → SeqAt.EqAt A.in1 s v u true) : SeqAt.EqAt A s (.ref a) (.ref b) true := by
  by_cases e : a = b
  · rw [e]; exact SeqAt.EqAt.same _
  · refine SeqAt.EqAt.of_refs e ?_
    have := SeqAt.RcAt.tuples (A := A) (s := s) (items := vs.toArray) (items2 := us.toArray) (e := fun _ => true) ⟨_, H.keep _ _ ha, rfl, 0, rfl⟩ ⟨_, H.keep _ _ hb, rfl, 0, rfl⟩ hu (fun j h1 h2 => by
      have h1' : j < vs.length := by simpa using h1
      have h2' : j < us.length := by simpa using h2
      have := h j vs[j] us[j] (by simp [h1']) (by simp [h2'])
      simpa using this)
    have e1 : ∀ n, ((List.range n).all fun _ => true) = true := fun n => List.all_eq_true.mpr fun _ _ => rfl
    simpa [hl, e1] using this
theorem eqat_row {k : Nat} {v u : Value} {r : Int × RwD} (H : St σ p mu s) (R : Rm A (k + 1)) (x : RowAt p v r) (y : RowAt p u r) : SeqAt.EqAt A s v u true := by
  cases x with
  | grp e1 =>
    cases y with
    | grp e2 =>
      refine eqat_tup H e1 e2 rfl R.cl fun j v u hv hu => ?_
      match j with
      | 0 => cases hv; cases hu; exact eqat_str
      | 1 => cases hv; cases hu; exact eqat_int
      | 2 => cases hv; cases hu; exact eqat_int
      | j + 3 => cases hv
  | lab e1 =>
    cases y with
    | lab e2 =>
      refine eqat_tup H e1 e2 rfl R.cl fun j v u hv hu => ?_
      match j with
      | 0 => cases hv; cases hu; exact eqat_str
      | 1 => cases hv; cases hu; exact eqat_int
      | 2 => cases hv; cases hu; exact eqat_bytes
      | j + 3 => cases hv
theorem r_rows_ne {k : Nat} {a b : Addr} {vs us : List Value} {r : Rws} {Q : Value → Shared → Prop} (H : St σ p mu s) (R : Rm A (k + 2)) (x : Pt s.heap a (LsP vs)) (y : Pt s.heap b (LsP us)) (hx : RowsAt p vs r) (hy : RowsAt p us r) (h : Q (.bool false) s) :
    wpAny (model prog w) A (compareOp .NotEq (.ref a) (.ref b)) Q E s := by
  refine r_lne_same x y (hx.length.trans hy.length.symm) (fun j v u hv hu => ?_) R.cl h
  obtain ⟨r1, e1, x1⟩ := hx.at hv
  obtain ⟨r2, e2, x2⟩ := hy.at hu
  rw [e1] at e2
  cases e2
  exact eqat_row H R.in1 x1 x2
theorem strs_at {us : List Value} {ys : List Str} (h : StrsAre us ys) : ∀ {i : Nat} {v : Value}, us[i]? = some v → ∃ y t, v = .str y t ∧ ys[i]? = some y := by
  induction h with
  | nil => intro i v e; cases e
  | cons m u _ ih =>
    intro i v e
    cases i with
    | zero => cases e; exact ⟨m, u, rfl, rfl⟩
    | succ i => exact ih e
theorem r_strs_ne {a b : Addr} {vs us : List Value} {ys : List Str} {Q : Value → Shared → Prop} (x : Pt s.heap a (LsP vs)) (y : Pt s.heap b (LsP us)) (hx : StrsAre vs ys) (hy : StrsAre us ys) (hu : A.units < cLine) (h : Q (.bool false) s) :
    wpAny (model prog w) A (compareOp .NotEq (.ref a) (.ref b)) Q E s := by
  refine r_lne_same x y ((strs_len hx).trans (strs_len hy).symm) (fun j v u hv hu => ?_) hu h
  obtain ⟨y1, t1, rfl, e1⟩ := strs_at hx hv
  obtain ⟨y2, t2, rfl, e2⟩ := strs_at hy hu
  rw [e1] at e2
  cases e2
  exact eqat_str
theorem r_ints_ne {a b : Addr} {vs us : List Value} {ys : List Int} {Q : Value → Shared → Prop} (x : Pt s.heap a (LsP vs)) (y : Pt s.heap b (LsP us)) (hx : IntsAre vs ys) (hy : IntsAre us ys) (hu : A.units < cLine) (h : Q (.bool false) s) :
    wpAny (model prog w) A (compareOp .NotEq (.ref a) (.ref b)) Q E s := by
  refine r_lne_same x y (hx.length.trans hy.length.symm) (fun j v u hv hu => ?_) hu h
  obtain ⟨y1, t1, rfl, e1⟩ := ints_at hx hv
  obtain ⟨y2, t2, rfl, e2⟩ := ints_at hy hu
  rw [e1] at e2
  cases e2
  exact eqat_int
theorem r_boolD_ne {a b : Addr} {l : List Int} {g g' : Int → Bool} {Q : Value → Shared → Prop} (x : Pt s.heap a (DcP (intKind prog w) (boolD l g))) (y : Pt s.heap b (DcP (intKind prog w) (boolD l g'))) (la : (a == sysModules) = false) (lb : (b == sysModules) = false)
    (hg : ∀ n ∈ l, g n = g' n) (hu : A.units < cLine) (h : Q (.bool false) s) : wpAny (model prog w) A (compareOp .NotEq (.ref a) (.ref b)) Q E s := by
  rw [← boolD_congr hg] at y
  have hits : ∀ r, (∀ n ∈ r, n ∈ l) → KeqHits A.in1 s (boolD l g) (boolD r g) true := by
    intro r
    induction r with
    | nil => intro _; exact .nil
    | cons n r ih =>
      intro hr
      have := KeqHits.hit (A := A.in1) (s := s) (kb := boolD l g) (k := n) (v := .bool (g n)) (y := .bool (g n)) (e := true) (b := true) (r := boolD r g) (by
        rw [boolD_at, List.any_eq_true.mpr ⟨n, hr n (.head _), by simp⟩]; rfl) (SeqAt.EqAt.same _) (ih fun m hm => hr m (.tail _ hm))
      exact this
  refine keq_ne la lb (DcP.is x) (DcP.is y) hu (r := true) (fun _ => hits l fun n h => h) ?_
  have : (!((boolD l g).length == (boolD l g).length && true)) = false := by simp
  rw [this]; exact h
end
noncomputable def LsA (p : Heap) (many : Nat) (v : Value) (ns : List Int) : Prop := ∃ a us, v = .ref a ∧ Pt p a (LsP us) ∧ IntsAre us ns ∧ ns.length ≤ 2 ∧ ∀ n ∈ ns, 1 ≤ n ∧ n ≤ (many : Int)
theorem len4_el {us : List Value} {C : List Value → Prop} (h : us.length = 4) (k : ∀ a b c d, C [a, b, c, d]) : C us := by
  match us, h with
  | [a, b, c, d], _ => exact k a b c d
theorem LsA.mono {p p' : Heap} {many : Nat} {v : Value} {ns : List Int} (h : LsA p many v ns) (l : Le p p') : LsA p' many v ns := let ⟨a, us, e, h1, h2⟩ := h; ⟨a, us, e, h1.mono l, h2⟩
section
variable {prog : Program} {w : World} {A : Around} {E : Value → Shared → Prop} {σ s : Shared} {p : Heap} {mu mu' : List Cell} {mg mb : Str → Option Value} {env : Env}
variable {ct cm cs cl cst cn f pl sh TB TR : Addr} {many : Nat} {tm : Tok}
end
namespace law7_E
noncomputable section
def eS (prog : Program) (w : World) (A : Around) (σ s : Shared) (p : Heap) (mg mb : Str → Option Value) (env : Env) (ct cm cs cl cst cn f pl sh TB TR : Addr) (many : Nat) (tm : Tok) (k m : Nat) (kvs : List (Int × Value)) (v0 v1 v2 v5 : Option Value) (it rw : Addr) (vs rvs : List Value) (rows : Rws) (hd : Hd) (rest : List Cell) (Q : Flow → Shared → Prop) : Prop := ∀ (L : LE env ct cm cs cl cst cn) (Z : LC prog w mg mb p ct cm cs f pl sh TB TR many tm) (R : Rm A (k + 60)) (kt : KT kvs m) (hm : m ≤ 43) (hit : Pt p it (LsP vs)) (hrw : Pt p rw (LsP rvs)) (tr : Tr prog w p kvs 3 vs rows hd) (ra : RowsAt p rvs rows) (hrz : rows.length ≤ 200) (H : St σ p ((env.locals, FrameP env (lfs v0 v1 v2 (some (.ref it)) (some (.ref rw)) v5 none none none none none none none none)) :: (TB, DcP (intKind prog w) kvs) :: (TR, DcP (strKind prog w) []) :: (pl, PlP 330) :: rest) s) (h : ∀ ll a0 a1 a2 a3 n0 n1 n2 n3 p' s', Le p p' → Pt p' ll (LsP [a0, a1, a2, a3]) → LsA p' many a0 n0 → LsA p' many a1 n1 → LsA p' many a2 n2 → LsA p' many a3 n3 →
      St σ p' ((env.locals, FrameP env (lfs v0 v1 v2 (some (.ref it)) (some (.ref rw)) v5 (some (.ref ll)) none none none none none none none)) :: (TB, DcP (intKind prog w) kvs) :: (TR, DcP (strKind prog w) []) :: (pl, PlP 342) :: rest) s' →
      wpAny (model prog w) A (execs (lawB 9) env) Q NE s'), wpAny (model prog w) A (execs (lawB 7) env) Q NE s
abbrev eT := (Program) × (World) × (Around) × (Shared) × (Shared) × (Heap) × (Str → Option Value) × (Str → Option Value) × (Env) × (Addr) × (Addr) × (Addr) × (Addr) × (Addr) × (Addr) × (Addr) × (Addr) × (Addr) × (Addr) × (Addr) × (Nat) × (Tok) × (Nat) × (Nat) × (List (Int × Value)) × (Option Value) × (Option Value) × (Option Value) × (Option Value) × (Addr) × (Addr) × (List Value) × (List Value) × (Rws) × (Hd) × (List Cell) × (Flow → Shared → Prop)
def eg1 (x : eT) := x.2.2.2.2.2.2.2.2
def eg2 (x : eT) := (eg1 x).2.2.2.2.2.2.2.2
def eg3 (x : eT) := (eg2 x).2.2.2.2.2.2.2.2
def eg4 (x : eT) := (eg3 x).2.2.2.2.2.2.2.2
def eP (x : eT) : Prop := eS x.1 x.2.1 x.2.2.1 x.2.2.2.1 x.2.2.2.2.1 x.2.2.2.2.2.1 x.2.2.2.2.2.2.1 x.2.2.2.2.2.2.2.1 (eg1 x).1 (eg1 x).2.1 (eg1 x).2.2.1 (eg1 x).2.2.2.1 (eg1 x).2.2.2.2.1 (eg1 x).2.2.2.2.2.1 (eg1 x).2.2.2.2.2.2.1 (eg1 x).2.2.2.2.2.2.2.1 (eg2 x).1 (eg2 x).2.1 (eg2 x).2.2.1 (eg2 x).2.2.2.1 (eg2 x).2.2.2.2.1 (eg2 x).2.2.2.2.2.1 (eg2 x).2.2.2.2.2.2.1 (eg2 x).2.2.2.2.2.2.2.1 (eg3 x).1 (eg3 x).2.1 (eg3 x).2.2.1 (eg3 x).2.2.2.1 (eg3 x).2.2.2.2.1 (eg3 x).2.2.2.2.2.1 (eg3 x).2.2.2.2.2.2.1 (eg3 x).2.2.2.2.2.2.2.1 (eg4 x).1 (eg4 x).2.1 (eg4 x).2.2.1 (eg4 x).2.2.2.1 (eg4 x).2.2.2.2
noncomputable def ec : eT := @Classical.epsilon eT ⟨(default, dW, dA, dS, dS, default, default, default, default, default, default, default, default, default, default, default, default, default, default, default, default, default, default, default, default, default, default, default, default, default, default, default, default, default, Hd.empty, default, default)⟩ fun x => ¬ eP x
@[irreducible] def prog := ec.1
@[irreducible] def w := ec.2.1
@[irreducible] def A := ec.2.2.1
@[irreducible] def σ := ec.2.2.2.1
@[irreducible] def s := ec.2.2.2.2.1
@[irreducible] def p := ec.2.2.2.2.2.1
@[irreducible] def mg := ec.2.2.2.2.2.2.1
@[irreducible] def mb := ec.2.2.2.2.2.2.2.1
@[irreducible] def env := (eg1 ec).1
@[irreducible] def ct := (eg1 ec).2.1
@[irreducible] def cm := (eg1 ec).2.2.1
@[irreducible] def cs := (eg1 ec).2.2.2.1
@[irreducible] def cl := (eg1 ec).2.2.2.2.1
@[irreducible] def cst := (eg1 ec).2.2.2.2.2.1
@[irreducible] def cn := (eg1 ec).2.2.2.2.2.2.1
@[irreducible] def f := (eg1 ec).2.2.2.2.2.2.2.1
@[irreducible] def pl := (eg2 ec).1
@[irreducible] def sh := (eg2 ec).2.1
@[irreducible] def TB := (eg2 ec).2.2.1
@[irreducible] def TR := (eg2 ec).2.2.2.1
@[irreducible] def many := (eg2 ec).2.2.2.2.1
@[irreducible] def tm := (eg2 ec).2.2.2.2.2.1
@[irreducible] def k := (eg2 ec).2.2.2.2.2.2.1
@[irreducible] def m := (eg2 ec).2.2.2.2.2.2.2.1
@[irreducible] def kvs := (eg3 ec).1
@[irreducible] def v0 := (eg3 ec).2.1
@[irreducible] def v1 := (eg3 ec).2.2.1
@[irreducible] def v2 := (eg3 ec).2.2.2.1
@[irreducible] def v5 := (eg3 ec).2.2.2.2.1
@[irreducible] def it := (eg3 ec).2.2.2.2.2.1
@[irreducible] def rw := (eg3 ec).2.2.2.2.2.2.1
@[irreducible] def vs := (eg3 ec).2.2.2.2.2.2.2.1
@[irreducible] def rvs := (eg4 ec).1
@[irreducible] def rows := (eg4 ec).2.1
@[irreducible] def hd := (eg4 ec).2.2.1
@[irreducible] def rest := (eg4 ec).2.2.2.1
@[irreducible] def Q := (eg4 ec).2.2.2.2
end
set_option maxHeartbeats 4000000 in
theorem main : eS prog w A σ s p mg mb env ct cm cs cl cst cn f pl sh TB TR many tm k m kvs v0 v1 v2 v5 it rw vs rvs rows hd rest Q := by
  intro  L Z R kt hm hit hrw tr ra hrz H h
  have he := L.he
  have hs := L.hs
  refine LC.el Z ?_
  intro T I TK hct hcm hcs lo loR ne m4
  have G_range := gnl hs (by kernel_rfl) (gl_grange T)
  have G_order_rows := gnl hs (by kernel_rfl) (gl_gorder_rows T)
  have xm := L.xm.cn he
  have xt := L.xt.cn he
  have xs := L.xs.cn he
  have xtl := L.xt.l
  have xml := L.xm.l
  refine x_comp (σ := σ) he (ko hs (by kernel_rfl)) rfl (by walk_at "caps") (by kernel_rfl) rfl (fun _ => rfl) (fun _ _ => rfl) R.h ?_
  walk_at "g"
  refine r_range1 ‹_› ?_
  intro rg p2 s2 l2 hrg H
  refine xcomp_of (N := ((4 : Int) - 0).toNat) (p := p2) (J := fun i us p' cf fs' mu' => ∀ C : List (Str × Option Value) → List (Str × Option Value) → List Cell → Prop, (∀ o1, us.length = i → (∀ v ∈ us, ∃ ns, LsA p' many v ns) → C [(".0", none), ("side", o1)] (lfs v0 v1 v2 (some (.ref it)) (some (.ref rw)) v5 none none none none none none none none) ((TB, DcP (intKind prog w) kvs) :: (TR, DcP (strKind prog w) []) :: (pl, PlP (330 + 3 * i)) :: rest)) → C cf fs' mu') (itb_range hrg (by decide) (by decide)) ‹_› (fun _ K => K none rfl (fun v hv => nomatch hv)) ?_ ?_
  · intro env' CE i us p3 cf' fs' mu' c acc v s3 hi l3 J hv
    apply J
    clear J
    intro o1 hul hus
    apply ex_el hv
    clear hv
    intro tv
    intro H
    have hi4 : i < 4 := hi
    have he := CE.ok
    have xt' := CE.cn "take" ct rfl rfl (by decide) (by decide)
    have xm' := CE.cn "many" cm rfl rfl (by decide) (by decide)
    have Z := (Z.mono l2).mono l3
    refine LC.el6 Z ?_
    intro T I TK hct hcm hcs
    have G_range : GN env' mg mb "range" (.type "range") := ⟨CE.kn _ .globalImplicit (by decide) rfl, gl_grange T, by decide⟩
    refine ⟨Nat.le_trans (show us.length ≤ 4 by omega) (Nat.le_of_ble_eq_true rfl), ?_⟩
    walk_at "g"
    refine t_nil ?_
    walk_at "g"
    by_cases hm0 : (0 : Int) < (many : Int)
    · rw [decide_eq_true hm0]
      have xtl' := xt'.2.2.1
      have xml' := xm'.2.2.1
      refine ite_t ?_
      refine e_comp (σ := σ) he (by walk_at "caps") (by kernel_rfl) rfl (fun _ => rfl) (fun _ _ => rfl) R.h ?_
      walk_at "g"
      refine c_take T ‹_› R TK (.tail (.tail (.tail (.tail (.tail (.tail .head)))))) (by omega) (by decide) ?_
      intro v3 t3 s4 h30 h33 H
      walk_at "g"
      refine r_range1 ‹_› ?_
      intro rg2 p4 s5 l4 hrg2 H
      refine comp_of (N := (v3 - 0).toNat) (p := p4) (J := (fun (F1 F2 : List (Str × Option Value)) (j : Nat) (ws : List Value) (p' : Heap) (gs' : List (Str × Option Value)) (mu' : List Cell) => ∀ C : List (Str × Option Value) → List Cell → Prop, (∀ ns o2, IntsAre ws ns → ns.length = j → (∀ n ∈ ns, 1 ≤ n ∧ n ≤ (many : Int)) → C [(".0", none), ("turn", o2)] ((env'.locals, FrameP env' F1) :: c :: (acc, LsP us) :: (env.locals, FrameP env F2) :: (TB, DcP (intKind prog w) kvs) :: (TR, DcP (strKind prog w) []) :: (pl, PlP (330 + 3 * i + 1 + j)) :: rest)) → C gs' mu') _ _) (itb_range hrg2 (by decide) (by omega)) ‹_› (fun _ K => K [] none .nil rfl (fun n hn => nomatch hn)) ?_ ?_
      · intro env2 CE2 j ws p5 gs' mu' c2 acc2 v s6 hj l5 J hv
        apply J
        clear J
        intro ns o2 hws hl hb
        apply ex_el hv
        clear hv
        intro tv2
        intro H
        have he := CE2.ok
        have xt2 := CE2.cn "take" ct rfl rfl (by decide) (by decide)
        have xm2 := CE2.cn "many" cm rfl rfl (by decide) (by decide)
        have Z := (Z.mono l4).mono l5
        refine LC.el6 Z ?_
        intro T I TK hct hcm hcs
        refine ⟨Nat.le_trans (show ws.length ≤ 2 by rw [hws.length]; omega) (Nat.le_of_ble_eq_true rfl), ?_⟩
        walk_at "g"
        refine t_nil ?_
        walk_at "g"
        refine c_take T ‹_› R TK (.tail (.tail (.tail (.tail (.tail (.tail (.tail (.tail (.tail .head))))))))) (by omega) hm0 ?_
        intro v4 t4 s7 h40 h44 H
        walk_at "g"
        refine ct_of Le.rfl (fun _ K => K (ns ++ [1 + v4]) _ (ints_snoc hws _ _) (by simp; omega) (fun n hn => ?_)) ‹_›
        rcases List.mem_append.mp hn with hn | hn
        · exact hb n hn
        · rw [List.mem_singleton.mp hn]; omega
      · intro ws p5 gs' mu' acc2 s6 l5 J
        apply J
        clear J
        intro ns o2 hws hl hb
        intro H
        refine St.fz H ?_
        intro p6 l6 hacc2 H
        have l36 := l4.trans (l5.trans l6)
        refine ctx_of l36 (fun _ K => K _ (by simp; omega) (fun v hv => ?_)) (H.weak (.tail (.tail (.tail (.tail (.tail (.tail .head)))))) (fun o ho => PlP.le ho (by omega)))
        rcases List.mem_append.mp hv with hv | hv
        · obtain ⟨ns, h⟩ := hus v hv
          exact ⟨ns, h.mono l36⟩
        · exact ⟨ns, acc2, ws, List.mem_singleton.mp hv, hacc2, hws, by omega, hb⟩
    · rw [decide_eq_false hm0]
      walk_at "g"
      refine r_newList ‹_› (Nat.zero_le _) ?_
      intro acc2 s4 H
      refine St.fz H ?_
      intro p6 l6 hacc2 H
      refine ctx_of l6 (fun _ K => K _ (by simp; omega) (fun v hv => ?_)) (H.weak (.tail (.tail (.tail (.tail (.tail (.tail .head)))))) (fun o ho => PlP.le ho (by omega)))
      rcases List.mem_append.mp hv with hv | hv
      · obtain ⟨ns, h⟩ := hus v hv
        exact ⟨ns, h.mono l6⟩
      · exact ⟨[], acc2, [], List.mem_singleton.mp hv, hacc2, .nil, Nat.zero_le _, fun n hn => nomatch hn⟩
  · intro us p3 cf' fs' mu' acc l3 J
    apply J
    clear J
    intro o1 hul hus
    refine ⟨_, by walk_at "put", ?_⟩
    intro s3 H
    have hul4 : us.length = 4 := hul
    refine St.fz2 H ?_
    intro p4 l4 hacc H4
    clear H
    have H := H4
    clear H4
    have l04 := l2.trans (l3.trans l4)
    revert hul hus hacc
    apply len4_el hul4
    clear hul4
    intro a0 a1 a2 a3 hul hus hacc
    refine ex11 (hus a0 (.head _)) ?_
    intro n0 h0
    refine ex11 (hus a1 (.tail _ (.head _))) ?_
    intro n1 h1
    refine ex11 (hus a2 (.tail _ (.tail _ (.head _)))) ?_
    intro n2 h2
    refine ex11 (hus a3 (.tail _ (.tail _ (.tail _ (.head _))))) ?_
    intro n3 h3
    have Z := Z.mono l04
    refine LC.el6 Z ?_
    intro T I TK hct hcm hcs
    refine x_if ?_
    walk_at "g"
    refine' Sf.order_rows (k := 3) ?S T ‹_› (R.less (by omega)) (hit.mono l04) (tr.mono l04) (kt.out _ (by omega)) (by decide) (by omega) ?_
    case S => exact ⟨I, by walk_at "mem", lo⟩
    intro D us2 p5 s5 l5 hus2 H
    refine St.fz H ?_
    intro p6 l6 hD H
    have l46 := l5.trans l6
    walk_at "g"
    refine r_rows_ne ‹_› R (rd_p ‹_› hD) (rd_p ‹_› (hrw.mono (l04.trans l46))) (hus2.mono l6) (ra.mono (l04.trans l46)) ?_
    refine r_tb (ite_f (x_nil ?_))
    exact h acc a0 a1 a2 a3 n0 n1 n2 n3 p6 _ (l04.trans l46) (hacc.mono l46) (h0.mono (l4.trans l46)) (h1.mono (l4.trans l46)) (h2.mono (l4.trans l46)) (h3.mono (l4.trans l46)) ‹_›
theorem all (x : eT) : eP x := eps (show eP ec by with_unfolding_all exact main) x
end law7_E
theorem law7 {prog : Program} {w : World} {A : Around} {σ s : Shared} {p : Heap} {mg mb : Str → Option Value} {env : Env} {ct cm cs cl cst cn f pl sh TB TR : Addr} {many : Nat} {tm : Tok} {k m : Nat} {kvs : List (Int × Value)} {v0 v1 v2 v5 : Option Value} {it rw : Addr} {vs rvs : List Value} {rows : Rws} {hd : Hd} {rest : List Cell} {Q : Flow → Shared → Prop} : law7_E.eS prog w A σ s p mg mb env ct cm cs cl cst cn f pl sh TB TR many tm k m kvs v0 v1 v2 v5 it rw vs rvs rows hd rest Q :=
  law7_E.all (prog, w, A, σ, s, p, mg, mb, env, ct, cm, cs, cl, cst, cn, f, pl, sh, TB, TR, many, tm, k, m, kvs, v0, v1, v2, v5, it, rw, vs, rvs, rows, hd, rest, Q)
section
end
inductive RefsL (p : Heap) : List Value → List Int → Prop
  | nil : RefsL p [] []
  | snoc {vs ns v n} : RefsL p vs ns → RefI p v n 0 → RefsL p (vs ++ [v]) (ns ++ [n])
theorem RefsL.mono {p p' : Heap} {vs ns} (h : RefsL p vs ns) (l : Le p p') : RefsL p' vs ns := by
  induction h with
  | nil => exact .nil
  | snoc _ a ih => exact .snoc ih (a.mono l)
theorem RefsL.len {p : Heap} {vs ns} (h : RefsL p vs ns) : vs.length = ns.length := by
  induction h with
  | nil => rfl
  | snoc _ _ ih => simp [ih]
theorem RefsL.grefs {prog : Program} {w : World} {p : Heap} {kvs : List (Int × Value)} {vs ns} (h : RefsL p vs ns) (lab : ∀ n ∈ ns, ∃ o, LabAt prog w p kvs n o) : GRefs prog w p kvs vs ns := by
  induction h with
  | nil => exact .nil
  | @snoc vs ns v n _ a ih =>
    obtain ⟨o, ho⟩ := lab n (List.mem_append_right _ (.head _))
    exact (ih fun m hm => lab m (List.mem_append_left _ hm)).snoc a (ho.isG a)
noncomputable def refSc : Scope := { kind := .function, names := [(".0", .local), ("number", .local), ("Reference", .globalImplicit)], isGenerator := false, isCoroutine := false }
section
variable {prog : Program} {w : World} {A : Around} {E : Value → Shared → Prop} {σ s : Shared} {p : Heap} {mu mu' : List Cell} {mg mb : Str → Option Value} {env : Env}
variable {ct cm cs cl cst cn f pl sh TB TR : Addr} {many : Nat} {tm : Tok}
noncomputable def RefsQ (w : World) (mg mb : Str → Option Value) (σ : Shared) (Q : Value → Shared → Prop) (x : Value) (s₁ : Shared) : Prop :=
  ∃ l us ns p₁ mu₁, x = .ref l ∧ Pt p₁ l (LsP us) ∧ IntsAre us ns ∧ Tp (KK w) mg mb p₁ ∧ St σ p₁ mu₁ s₁ ∧ ns.length ≤ 100 ∧ ∀ acc vs p' s', Le p₁ p' → RefsL p' vs ns → St σ p' ((acc, LsP vs) :: mu₁) s' → Q (.ref acc) s'
theorem refs_of {x : Value} {l : Addr} {us : List Value} {ns : List Int} {Q : Value → Shared → Prop} (e : x = .ref l) (hl : Pt p l (LsP us)) (hi : IntsAre us ns) (T : Tp (KK w) mg mb p) (H : St σ p mu s) (hz : ns.length ≤ 100)
    (k : ∀ acc vs p' s', Le p p' → RefsL p' vs ns → St σ p' ((acc, LsP vs) :: mu) s' → Q (.ref acc) s') : RefsQ w mg mb σ Q x s := ⟨l, us, ns, p, mu, e, hl, hi, T, H, hz, k⟩
theorem e_refs {k : Nat} {iter : Expr} {p1 p2 p3 p4 p5 cpos : Pos} {kk : Nat} {Q : Value → Shared → Prop} (he : EnvOk env) (R : Rm A (k + 3)) (hsx : ∀ x, foldedSetIterable iter env x = pure x)
    (h : wpAny (model prog w) A (eval iter env) (RefsQ w mg mb σ Q) E s) :
    wpAny (model prog w) A (eval (.ListComp (.Call (.Name "Reference" p1) [.Name "number" p2, .Constant (.int 0) kk p3] [] p4) [⟨.Name "number" p5, iter, [], 0⟩] refSc cpos) env) Q E s := by
  refine e_comp (σ := σ) he (by walk_at "caps") (by kernel_rfl) rfl hsx (fun _ _ => rfl) R.h (wpAny_mono h (fun x s₁ h₁ => ?_) fun _ _ q => q)
  obtain ⟨l, us, ns, p₁, mu₁, rfl, hl, hi, T, H, hz, k⟩ := h₁
  refine comp_of (N := us.length) (p := p₁) (J := fun i vs p' fs' mu' => ∀ C : List (Str × Option Value) → List Cell → Prop, (∀ o1, RefsL p' vs (ns.take i) → C [(".0", none), ("number", o1)] mu₁) → C fs' mu') (itb_ls hl) H (fun _ K => K none .nil) ?_ ?_
  · intro env' CE i vs p' fs' mu' c acc v s3 hi' l3 J hv
    apply J
    clear J
    intro o1 hvs
    intro H
    apply ints_el hi hv
    intro n tn hn
    have he := CE.ok
    have T := T.mono l3
    have G_Reference : GN env' mg mb "Reference" (.ref 266) := ⟨CE.kn _ .globalImplicit (by decide) rfl, gl_gReference T, by decide⟩
    refine ⟨Nat.le_trans (show vs.length ≤ 100 by rw [hvs.len]; exact Nat.le_trans (List.length_take_le' _ _) hz) (Nat.le_of_ble_eq_true rfl), ?_⟩
    walk_at "g"
    refine t_nil ?_
    walk_at "g"
    refine mk_ref T ‹_› R ?_
    intro rx p4 s4 l4 hrx H
    exact ct_of l4 (fun _ K => K _ (by rw [take_snoc hn]; exact (hvs.mono l4).snoc ⟨rx, _, _, rfl, hrx⟩)) H
  · intro vs p' fs' mu' acc s3 l3 J
    apply J
    clear J
    intro o1 hvs
    intro H
    have et : ns.take us.length = ns := by rw [hi.length]; exact List.take_length
    rw [et] at hvs
    exact k acc vs p' s3 l3 hvs H
end
namespace law9_E
noncomputable section
def eS (prog : Program) (w : World) (A : Around) (σ s : Shared) (p : Heap) (mg mb : Str → Option Value) (env : Env) (ct cm cs cl cst cn f pl sh TB TR : Addr) (many : Nat) (tm : Tok) (k m : Nat) (kvs : List (Int × Value)) (v0 v1 v5 : Option Value) (it ll la : Addr) (vw : Option Value) (a0 a1 a2 a3 : Value) (n0 n1 n2 n3 lst : List Int) (us : List Value) (rest : List Cell) (Q : Flow → Shared → Prop) : Prop := ∀ {b : Bool} (L : LE env ct cm cs cl cst cn) (Z : LC prog w mg mb p ct cm cs f pl sh TB TR many tm) (R : Rm A (k + 60)) (hf : env.frame = some env.locals) (hfr : A.frames = some [env]) (hll : Pt p ll (LsP [a0, a1, a2, a3])) (h0 : LsA p many a0 n0) (h1 : LsA p many a1 n1) (h2 : LsA p many a2 n2) (h3 : LsA p many a3 n3) (hit : VT (KK w) p (.ref it) (.type "list")) (lab : ∀ n : Int, 1 ≤ n → n ≤ many → LabAt prog w p kvs n (labO n)) (hla : Pt p la (LsP us)) (hus : IntsAre us lst) (hlst : ∀ n ∈ lst, 1 ≤ n ∧ n ≤ (many : Int)) (hlz : lst.length ≤ 4) (H : St σ p ((env.locals, FrameP env (lfs v0 v1 (some (.bool b)) (some (.ref it)) vw v5 (some (.ref ll)) none none none none none none none)) :: (TB, DcP (intKind prog w) kvs) :: (TR, DcP (strKind prog w) []) :: (pl, PlP 342) :: (cl, CellP (some (.ref la))) :: rest) s) (h : ∀ fd fk hd gl gvs p' s', Le p p' → CfD prog w p' kvs fd fk it n0 n1 n2 n3 (if b then "OFF" else "ON") → fk.length ≤ 6 → RD prog w p' [] hd [("OCGs", .ref gl), ("D", .ref fd)] → Pt p' gl (LsP gvs) → GRefs prog w p' kvs gvs lst →
      St σ p' ((env.locals, FrameP env (lfs v0 v1 (some (.bool b)) (some (.ref it)) vw v5 (some (.ref ll)) (some (.ref fd)) (some (.ref hd)) none none none none none)) :: (TB, DcP (intKind prog w) kvs) :: (TR, DcP (strKind prog w) []) :: (pl, PlP 342) :: (cl, CellP (some (.ref la))) :: rest) s' →
      wpAny (model prog w) A (execs (lawB 15) env) Q NE s'), wpAny (model prog w) A (execs (lawB 9) env) Q NE s
abbrev eT := (Program) × (World) × (Around) × (Shared) × (Shared) × (Heap) × (Str → Option Value) × (Str → Option Value) × (Env) × (Addr) × (Addr) × (Addr) × (Addr) × (Addr) × (Addr) × (Addr) × (Addr) × (Addr) × (Addr) × (Addr) × (Nat) × (Tok) × (Nat) × (Nat) × (List (Int × Value)) × (Option Value) × (Option Value) × (Option Value) × (Addr) × (Addr) × (Addr) × (Option Value) × (Value) × (Value) × (Value) × (Value) × (List Int) × (List Int) × (List Int) × (List Int) × (List Int) × (List Value) × (List Cell) × (Flow → Shared → Prop)
def eg1 (x : eT) := x.2.2.2.2.2.2.2.2
def eg2 (x : eT) := (eg1 x).2.2.2.2.2.2.2.2
def eg3 (x : eT) := (eg2 x).2.2.2.2.2.2.2.2
def eg4 (x : eT) := (eg3 x).2.2.2.2.2.2.2.2
def eg5 (x : eT) := (eg4 x).2.2.2.2.2.2.2.2
def eP (x : eT) : Prop := eS x.1 x.2.1 x.2.2.1 x.2.2.2.1 x.2.2.2.2.1 x.2.2.2.2.2.1 x.2.2.2.2.2.2.1 x.2.2.2.2.2.2.2.1 (eg1 x).1 (eg1 x).2.1 (eg1 x).2.2.1 (eg1 x).2.2.2.1 (eg1 x).2.2.2.2.1 (eg1 x).2.2.2.2.2.1 (eg1 x).2.2.2.2.2.2.1 (eg1 x).2.2.2.2.2.2.2.1 (eg2 x).1 (eg2 x).2.1 (eg2 x).2.2.1 (eg2 x).2.2.2.1 (eg2 x).2.2.2.2.1 (eg2 x).2.2.2.2.2.1 (eg2 x).2.2.2.2.2.2.1 (eg2 x).2.2.2.2.2.2.2.1 (eg3 x).1 (eg3 x).2.1 (eg3 x).2.2.1 (eg3 x).2.2.2.1 (eg3 x).2.2.2.2.1 (eg3 x).2.2.2.2.2.1 (eg3 x).2.2.2.2.2.2.1 (eg3 x).2.2.2.2.2.2.2.1 (eg4 x).1 (eg4 x).2.1 (eg4 x).2.2.1 (eg4 x).2.2.2.1 (eg4 x).2.2.2.2.1 (eg4 x).2.2.2.2.2.1 (eg4 x).2.2.2.2.2.2.1 (eg4 x).2.2.2.2.2.2.2.1 (eg5 x).1 (eg5 x).2.1 (eg5 x).2.2.1 (eg5 x).2.2.2
noncomputable def ec : eT := @Classical.epsilon eT ⟨(default, dW, dA, dS, dS, default, default, default, default, default, default, default, default, default, default, default, default, default, default, default, default, default, default, default, default, default, default, default, default, default, default, default, default, default, default, default, default, default, default, default, default, default, default, default)⟩ fun x => ¬ eP x
@[irreducible] def prog := ec.1
@[irreducible] def w := ec.2.1
@[irreducible] def A := ec.2.2.1
@[irreducible] def σ := ec.2.2.2.1
@[irreducible] def s := ec.2.2.2.2.1
@[irreducible] def p := ec.2.2.2.2.2.1
@[irreducible] def mg := ec.2.2.2.2.2.2.1
@[irreducible] def mb := ec.2.2.2.2.2.2.2.1
@[irreducible] def env := (eg1 ec).1
@[irreducible] def ct := (eg1 ec).2.1
@[irreducible] def cm := (eg1 ec).2.2.1
@[irreducible] def cs := (eg1 ec).2.2.2.1
@[irreducible] def cl := (eg1 ec).2.2.2.2.1
@[irreducible] def cst := (eg1 ec).2.2.2.2.2.1
@[irreducible] def cn := (eg1 ec).2.2.2.2.2.2.1
@[irreducible] def f := (eg1 ec).2.2.2.2.2.2.2.1
@[irreducible] def pl := (eg2 ec).1
@[irreducible] def sh := (eg2 ec).2.1
@[irreducible] def TB := (eg2 ec).2.2.1
@[irreducible] def TR := (eg2 ec).2.2.2.1
@[irreducible] def many := (eg2 ec).2.2.2.2.1
@[irreducible] def tm := (eg2 ec).2.2.2.2.2.1
@[irreducible] def k := (eg2 ec).2.2.2.2.2.2.1
@[irreducible] def m := (eg2 ec).2.2.2.2.2.2.2.1
@[irreducible] def kvs := (eg3 ec).1
@[irreducible] def v0 := (eg3 ec).2.1
@[irreducible] def v1 := (eg3 ec).2.2.1
@[irreducible] def v5 := (eg3 ec).2.2.2.1
@[irreducible] def it := (eg3 ec).2.2.2.2.1
@[irreducible] def ll := (eg3 ec).2.2.2.2.2.1
@[irreducible] def la := (eg3 ec).2.2.2.2.2.2.1
@[irreducible] def vw := (eg3 ec).2.2.2.2.2.2.2.1
@[irreducible] def a0 := (eg4 ec).1
@[irreducible] def a1 := (eg4 ec).2.1
@[irreducible] def a2 := (eg4 ec).2.2.1
@[irreducible] def a3 := (eg4 ec).2.2.2.1
@[irreducible] def n0 := (eg4 ec).2.2.2.2.1
@[irreducible] def n1 := (eg4 ec).2.2.2.2.2.1
@[irreducible] def n2 := (eg4 ec).2.2.2.2.2.2.1
@[irreducible] def n3 := (eg4 ec).2.2.2.2.2.2.2.1
@[irreducible] def lst := (eg5 ec).1
@[irreducible] def us := (eg5 ec).2.1
@[irreducible] def rest := (eg5 ec).2.2.1
@[irreducible] def Q := (eg5 ec).2.2.2
end
set_option maxHeartbeats 4000000 in
theorem main : eS prog w A σ s p mg mb env ct cm cs cl cst cn f pl sh TB TR many tm k m kvs v0 v1 v5 it ll la vw a0 a1 a2 a3 n0 n1 n2 n3 lst us rest Q := by
  intro b L Z R hf hfr hll h0 h1 h2 h3 hit lab hla hus hlst hlz H h
  have he := L.he
  have hs := L.hs
  refine LC.el Z ?_
  intro T I TK hct hcm hcs lo loR ne m4
  have G_Name := gnl hs (by kernel_rfl) (gl_gName T)
  have G__law_is_refused := gnl hs (by kernel_rfl) (gl_glaw_is_refused T)
  have xs := L.xs.cn he
  have xl := L.xl.cn he
  have labs : ∀ {ns : List Int}, (∀ n ∈ ns, 1 ≤ n ∧ n ≤ (many : Int)) → ∀ n ∈ ns, ∃ o, LabAt prog w p kvs n o := fun hb n hn => ⟨_, lab n (hb n hn).1 (hb n hn).2⟩
  refine ex25 h0 ?_
  intro x0 u0 e0 q01 q02 q03 q04
  refine ex25 h1 ?_
  intro x1 u1 e1 q11 q12 q13 q14
  refine ex25 h2 ?_
  intro x2 u2 e2 q21 q22 q23 q24
  refine ex25 h3 ?_
  intro x3 u3 e3 q31 q32 q33 q34
  refine x_assign ?_
  refine e_dict (knd := strKind prog w) T ‹_› rfl rfl (by simp) (by decide) ?_
  intro fd s2 lof H
  refine p_cons ?_
  walk_at "g"
  refine p_cons ?_
  walk_at "g"
  refine e_refs (mg := mg) (mb := mb) (σ := σ) he R (fun _ => rfl) ?_
  walk_at "g"
  refine sub_list (rd_p ‹_› hll) (by decide) (by simp) rfl ?_
  refine refs_of e0 q01 q02 T ‹_› (Nat.le_trans q03 (by decide)) ?_
  intro l0 w0 p3 s3 l3 hw0 H
  refine St.fz H ?_
  intro p4 l4 hl0 H
  have l04 := l3.trans l4
  have T := T.mono l04
  refine p_cons ?_
  walk_at "g"
  refine e_refs (mg := mg) (mb := mb) (σ := σ) he R (fun _ => rfl) ?_
  walk_at "g"
  refine sub_list (rd_p ‹_› (hll.mono l04)) (by decide) (by simp) rfl ?_
  refine refs_of e1 (q11.mono l04) q12 T ‹_› (Nat.le_trans q13 (by decide)) ?_
  intro l1 w1 p5 s5 l5 hw1 H
  refine St.fz H ?_
  intro p6 l6 hl1 H
  have l46 := l5.trans l6
  have l06 := l04.trans l46
  have T := T.mono l46
  refine p_nil ?_
  refine dict_of [("Order", .ref it), ("ON", .ref l0), ("OFF", .ref l1)] ?_ (by decide : (["Order", "ON", "OFF"] : List Str).Nodup) ‹_› ?_
  · exact ⟨sk, rfl, sk, rfl, sk, rfl, trivial⟩
  intro s7 H
  walk_at "g"
  refine e_refs (mg := mg) (mb := mb) (σ := σ) he R (fun _ => rfl) ?_
  walk_at "g"
  refine sub_list (rd_p ‹_› (hll.mono l06)) (by decide) (by simp) rfl ?_
  refine refs_of e2 (q21.mono l06) q22 T ‹_› (Nat.le_trans q23 (by decide)) ?_
  intro l2' w2 p8 s8 l8 hw2 H
  refine St.fz H ?_
  intro p9 l9 hl2 H
  have l69 := l8.trans l9
  have l09 := l06.trans l69
  have T := T.mono l69
  walk_at "g"
  refine r_dset ‹_› (.tail .head) sk (Nat.le_of_ble_eq_true rfl) ?_
  intro s10 H
  walk_at "g"
  refine e_refs (mg := mg) (mb := mb) (σ := σ) he R (fun _ => rfl) ?_
  walk_at "g"
  refine sub_list (rd_p ‹_› (hll.mono l09)) (by decide) (by simp) rfl ?_
  refine refs_of e3 (q31.mono l09) q32 T ‹_› (Nat.le_trans q33 (by decide)) ?_
  intro l3' w3 p11 s11 l11 hw3 H
  refine St.fz H ?_
  intro p12 l12 hl3 H
  have l912 := l11.trans l12
  have l012 := l09.trans l912
  have T := T.mono l912
  walk_at "g"
  refine r_newList ‹_› (Nat.le_of_ble_eq_true rfl) ?_
  intro lr s13 H
  refine St.fz H ?_
  intro p13 l13 hlr H
  have T := T.mono l13
  walk_at "g"
  refine r_dset ‹_› (.tail .head) sk (Nat.le_trans (stored_length_le _ _ _) (Nat.le_of_ble_eq_true rfl)) ?_
  intro s14 H
  have l013 := l012.trans l13
  have hfk : ∀ x : Str, valueAt (stored (stored ([("Order", .ref it), ("ON", .ref l0), ("OFF", .ref l1)] : List (Str × Value)) "Locked" (.ref l2')) "RBGroups" (.ref lr)) x =
      if x = "RBGroups" then some (.ref lr) else if x = "Locked" then some (.ref l2') else valueAt ([("Order", .ref it), ("ON", .ref l0), ("OFF", .ref l1)] : List (Str × Value)) x := fun x => by rw [valueAt_stored, valueAt_stored]
  have hfz : (stored (stored ([("Order", .ref it), ("ON", .ref l0), ("OFF", .ref l1)] : List (Str × Value)) "Locked" (.ref l2')) "RBGroups" (.ref lr)).length ≤ 5 := Nat.le_trans (stored_length_le _ _ _) (Nat.succ_le_succ (stored_length_le _ _ _))
  generalize stored (stored ([("Order", .ref it), ("ON", .ref l0), ("OFF", .ref l1)] : List (Str × Value)) "Locked" (.ref l2')) "RBGroups" (.ref lr) = fk0 at *
  have conf : ∀ (p' : Heap) (fk : List (Str × Value)) (base : Str), Le p13 p' → RD prog w p' [] fd fk → (∀ x : Str, x ≠ "BaseState" → valueAt fk x = valueAt fk0 x) → ((valueAt fk "BaseState" = none ∧ base = "ON") ∨ ∃ nm, valueAt fk "BaseState" = some nm ∧ NmI p' nm base) → CfD prog w p' kvs fd fk it n0 n1 n2 n3 base := by
    intro p' fk base l' rd hv hb
    have lb := l013.trans l'
    have lab' : ∀ {ns : List Int}, (∀ n ∈ ns, 1 ≤ n ∧ n ≤ (many : Int)) → ∀ n ∈ ns, ∃ o, LabAt prog w p' kvs n o := fun hb n hn => let ⟨o, ho⟩ := labs hb n hn; ⟨o, ho.mono lb⟩
    refine ⟨rd, by rw [hv _ (by decide), hfk]; rfl, hit.mono lb, ⟨l0, w0, by rw [hv _ (by decide), hfk]; rfl, hl0.mono (l46.trans (l69.trans (l912.trans (l13.trans l')))), (hw0.mono (l4.trans (l46.trans (l69.trans (l912.trans (l13.trans l')))))).grefs (lab' q04), Nat.le_trans q03 (by decide)⟩,
      ⟨l1, w1, by rw [hv _ (by decide), hfk]; rfl, hl1.mono (l69.trans (l912.trans (l13.trans l'))), (hw1.mono (l6.trans (l69.trans (l912.trans (l13.trans l'))))).grefs (lab' q14), Nat.le_trans q13 (by decide)⟩,
      ⟨l2', w2, by rw [hv _ (by decide), hfk]; rfl, hl2.mono (l912.trans (l13.trans l')), (hw2.mono (l9.trans (l912.trans (l13.trans l')))).grefs (lab' q24), Nat.le_trans q23 (by decide)⟩,
      ⟨lr, l3', w3, by rw [hv _ (by decide), hfk]; rfl, hlr.mono l', hl3.mono (l13.trans l'), (hw3.mono (l12.trans (l13.trans l'))).grefs (lab' q34), Nat.le_trans q33 (by decide)⟩, hb, by rw [hv _ (by decide), hfk]; rfl⟩
  refine x_if ?_
  have fin : ∀ (fk : List (Str × Value)) p' s', Le p13 p' → Tp (KK w) mg mb p' → fk.length ≤ 6 → (∀ x : Str, x ≠ "BaseState" → valueAt fk x = valueAt fk0 x) → ((valueAt fk "BaseState" = none ∧ b = false) ∨ ∃ nm, valueAt fk "BaseState" = some nm ∧ NmI p' nm "OFF" ∧ b = true) →
      St σ p' ((env.locals, FrameP env (lfs v0 v1 (some (.bool b)) (some (.ref it)) vw v5 (some (.ref ll)) (some (.ref fd)) none none none none none none)) :: (fd, DcP (strKind prog w) fk) :: (TB, DcP (intKind prog w) kvs) :: (TR, DcP (strKind prog w) []) :: (pl, PlP 342) :: (cl, CellP (some (.ref la))) :: rest) s' →
      wpAny (model prog w) A (execs (lawB 13) env) Q NE s' := by
    intro fk p' s' l' T hz hv hb H
    refine St.fz2 H ?_
    intro p2 l2 hfd H
    have T := T.mono l2
    have lb := l013.trans (l'.trans l2)
    have hla := hla.mono lb
    have hcs := hcs.mono lb
    have I := I.mono lb
    have rd : RD prog w p2 [] fd fk := ⟨.inr hfd, lof⟩
    have cf : CfD prog w p2 kvs fd fk it n0 n1 n2 n3 (if b then "OFF" else "ON") := conf p2 fk _ (l'.trans l2) rd hv (by
      rcases hb with ⟨h1, rfl⟩ | ⟨nm, h1, h2, rfl⟩
      · exact .inl ⟨h1, rfl⟩
      · exact .inr ⟨nm, h1, h2.mono l2⟩)
    refine x_assign ?_
    refine e_dict (knd := strKind prog w) T ‹_› rfl rfl (by simp) (by decide) ?_
    intro hd s2 loh H
    refine p_cons ?_
    walk_at "g"
    refine e_refs (mg := mg) (mb := mb) (σ := σ) he R (fun _ => rfl) ?_
    refine r_cell xl ‹_› (by walk_at "mem") ?_
    refine refs_of rfl hla hus T ‹_› (Nat.le_trans hlz (by decide)) ?_
    intro gl gvs p3 s3 l3 hgv H
    refine St.fz H ?_
    intro p4 l4 hgl H
    have l24 := l3.trans l4
    have T := T.mono l24
    refine p_cons ?_
    walk_at "g"
    refine p_nil ?_
    refine dict_of [("OCGs", .ref gl), ("D", .ref fd)] ?_ (by decide : (["OCGs", "D"] : List Str).Nodup) ‹_› ?_
    · exact ⟨sk, rfl, sk, rfl, trivial⟩
    intro s5 H
    refine St.fz2 H ?_
    intro p5 l5 hhd H
    have T := T.mono l5
    have l25 := l24.trans l5
    have hcs := hcs.mono l25
    refine st_loc ‹_› (by walk_at "put") ?_
    intro s6 H
    refine x_if ?_
    walk_at "g"
    have hbl : ∀ q ∈ (env.locals, FrameP env (lfs v0 v1 (some (.bool b)) (some (.ref it)) vw v5 (some (.ref ll)) (some (.ref fd)) (some (.ref hd)) none none none none none)) :: (TB, DcP (intKind prog w) kvs) :: (TR, DcP (strKind prog w) []) :: (pl, PlP 342) :: (cl, CellP (some (.ref la))) :: rest,
        q.1 ∈ ([env].filterMap (·.frame)) → Bl q := fun q hq hm => by
      rcases List.mem_cons.mp hq with rfl | hq
      · exact bl_frame
      · rw [List.filterMap_cons, hf] at hm
        rcases List.mem_cons.mp hm with e1 | hm
        · exact absurd e1 (H.apart q hq)
        · cases hm
    refine' c_refused (TR := TR) (tk := []) (outer := [env]) ?S T ‹_› R ?D rfl hfr (fun s' H' => fr_cons he.kind hf (.head _) H' trivial) hbl ?_
    case S => exact ⟨I.mono l25, by walk_at "mem", lo⟩
    case D => exact ⟨.inl (by walk_at "mem"), loR⟩
    intro s7 H
    refine r_tb (ite_nt (x_nil ?_))
    refine h fd fk hd gl gvs p5 s7 (lb.trans l25) (cf.mono l25) hz ⟨.inr hhd, loh⟩ (hgl.mono l5) ((hgv.mono (l4.trans l5)).grefs fun n hn => let ⟨o, ho⟩ := labs hlst n hn; ⟨o, ho.mono (lb.trans l25)⟩) H
  walk_at "g"
  cases b with
  | true =>
    walk_at "g"
    refine mk_name T ‹_› R ?_
    intro nm p15 s15 l15 hnm H
    have T := T.mono l15
    walk_at "g"
    refine r_dset ‹_› (.tail .head) sk (Nat.le_trans hfz (Nat.le_of_ble_eq_true rfl)) ?_
    intro s16 H
    refine x_nil ?_
    exact fin _ p15 s16 l15 T (Nat.le_trans (stored_length_le _ _ _) (Nat.succ_le_succ hfz)) (fun x hx => by rw [valueAt_stored, if_neg hx]) (.inr ⟨.ref nm, by rw [valueAt_stored, if_pos rfl], ⟨nm, _, rfl, hnm⟩, rfl⟩) H
  | false =>
    refine ite_f (x_nil ?_)
    exact fin fk0 p13 _ Le.rfl T (Nat.le_trans hfz (by decide)) (fun x hx => rfl) (.inl ⟨by rw [hfk]; rfl, rfl⟩) ‹_›
theorem all (x : eT) : eP x := eps (show eP ec by with_unfolding_all exact main) x
end law9_E
theorem law9 {prog : Program} {w : World} {A : Around} {σ s : Shared} {p : Heap} {mg mb : Str → Option Value} {env : Env} {ct cm cs cl cst cn f pl sh TB TR : Addr} {many : Nat} {tm : Tok} {k m : Nat} {kvs : List (Int × Value)} {v0 v1 v5 : Option Value} {it ll la : Addr} {vw : Option Value} {a0 a1 a2 a3 : Value} {n0 n1 n2 n3 lst : List Int} {us : List Value} {rest : List Cell} {Q : Flow → Shared → Prop} : law9_E.eS prog w A σ s p mg mb env ct cm cs cl cst cn f pl sh TB TR many tm k m kvs v0 v1 v5 it ll la vw a0 a1 a2 a3 n0 n1 n2 n3 lst us rest Q :=
  law9_E.all (prog, w, A, σ, s, p, mg, mb, env, ct, cm, cs, cl, cst, cn, f, pl, sh, TB, TR, many, tm, k, m, kvs, v0, v1, v5, it, ll, la, vw, a0, a1, a2, a3, n0, n1, n2, n3, lst, us, rest, Q)
section
end
section
variable {prog : Program} {w : World} {A : Around} {E : Value → Shared → Prop} {σ s : Shared} {p : Heap} {mu mu' : List Cell} {mg mb : Str → Option Value} {env : Env}
variable {ct cm cs cl cst cn f pl sh TB TR : Addr} {many : Nat} {tm : Tok}
end
namespace law15_E
noncomputable section
def eS (prog : Program) (w : World) (A : Around) (σ s : Shared) (p : Heap) (mg mb : Str → Option Value) (env : Env) (ct cm cs cl cst cn f pl sh TB TR : Addr) (many : Nat) (tm : Tok) (k m : Nat) (kvs : List (Int × Value)) (v0 v1 v2 v5 v6 v7 vr : Option Value) (b : Bool) (it fd hd gl : Addr) (fk : List (Str × Value)) (gvs vs : List Value) (rows : Rws) (hh : Hd) (n0 n1 n2 n3 lst : List Int) (vl : Option Value) (rest : List Cell) (Q : Flow → Shared → Prop) : Prop := ∀ (L : LE env ct cm cs cl cst cn) (Z : LC prog w mg mb p ct cm cs f pl sh TB TR many tm) (R : Rm A (k + 60)) (kt : KT kvs m) (hm : m ≤ 43) (hmm : many ≤ m) (hit : Pt p it (LsP vs)) (hvs : vs.length ≤ 3) (tr : Tr prog w p kvs 3 vs rows hh) (hrz : rows.length ≤ 200) (hg : ∀ n ∈ rowsG rows, 1 ≤ n ∧ n ≤ (many : Int)) (cf : CfD prog w p kvs fd fk it n0 n1 n2 n3 (if b then "OFF" else "ON")) (hfk : fk.length ≤ 6) (rdh : RD prog w p [] hd [("OCGs", .ref gl), ("D", .ref fd)]) (hgl : Pt p gl (LsP gvs)) (hgr : GRefs prog w p kvs gvs lst) (hlst : ∀ n ∈ lst, 1 ≤ n ∧ n ≤ (many : Int)) (hlz : lst.length ≤ 4) (z0 : n0.length ≤ 2 ∧ ∀ n ∈ n0, 1 ≤ n ∧ n ≤ (many : Int)) (z1 : n1.length ≤ 2 ∧ ∀ n ∈ n1, 1 ≤ n ∧ n ≤ (many : Int)) (z2 : n2.length ≤ 2 ∧ ∀ n ∈ n2, 1 ≤ n ∧ n ≤ (many : Int)) (z3 : n3.length ≤ 2 ∧ ∀ n ∈ n3, 1 ≤ n ∧ n ≤ (many : Int)) (H : St σ p ((env.locals, FrameP env (lfs v0 v1 v2 v5 vr v6 vl v7 (some (.ref hd)) none none none none none)) :: (TB, DcP (intKind prog w) kvs) :: (TR, DcP (strKind prog w) []) :: (pl, PlP 342) :: rest) s) (h : ∀ kvs2 m2 tk rk rd p' s', Le p p' → many ≤ m2 → m2 ≤ 45 → 
      DS prog w p' ((env.locals, FrameP env (lfs v0 v1 v2 v5 vr v6 vl v7 (some (.ref hd)) none none none none none)) :: (TB, DcP (intKind prog w) kvs2) :: (TR, DcP (strKind prog w) tk) :: (pl, PlP 343) :: rest) sh TB TR kvs2 kvs m2 (m2 : Int) tk rk [("OCGs", .ref gl), ("D", .ref fd)] fk rd hd fd it lst n0 n1 n2 n3 (if b then "OFF" else "ON") rows →
      St σ p' ((env.locals, FrameP env (lfs v0 v1 v2 v5 vr v6 vl v7 (some (.ref hd)) none none none none none)) :: (TB, DcP (intKind prog w) kvs2) :: (TR, DcP (strKind prog w) tk) :: (pl, PlP 343) :: rest) s' →
      wpAny (model prog w) A (execs (lawB 16) env) Q NE s'), wpAny (model prog w) A (execs (lawB 15) env) Q NE s
abbrev eT := (Program) × (World) × (Around) × (Shared) × (Shared) × (Heap) × (Str → Option Value) × (Str → Option Value) × (Env) × (Addr) × (Addr) × (Addr) × (Addr) × (Addr) × (Addr) × (Addr) × (Addr) × (Addr) × (Addr) × (Addr) × (Nat) × (Tok) × (Nat) × (Nat) × (List (Int × Value)) × (Option Value) × (Option Value) × (Option Value) × (Option Value) × (Option Value) × (Option Value) × (Option Value) × (Bool) × (Addr) × (Addr) × (Addr) × (Addr) × (List (Str × Value)) × (List Value) × (List Value) × (Rws) × (Hd) × (List Int) × (List Int) × (List Int) × (List Int) × (List Int) × (Option Value) × (List Cell) × (Flow → Shared → Prop)
def eg1 (x : eT) := x.2.2.2.2.2.2.2.2
def eg2 (x : eT) := (eg1 x).2.2.2.2.2.2.2.2
def eg3 (x : eT) := (eg2 x).2.2.2.2.2.2.2.2
def eg4 (x : eT) := (eg3 x).2.2.2.2.2.2.2.2
def eg5 (x : eT) := (eg4 x).2.2.2.2.2.2.2.2
def eg6 (x : eT) := (eg5 x).2.2.2.2.2.2.2.2
def eP (x : eT) : Prop := eS x.1 x.2.1 x.2.2.1 x.2.2.2.1 x.2.2.2.2.1 x.2.2.2.2.2.1 x.2.2.2.2.2.2.1 x.2.2.2.2.2.2.2.1 (eg1 x).1 (eg1 x).2.1 (eg1 x).2.2.1 (eg1 x).2.2.2.1 (eg1 x).2.2.2.2.1 (eg1 x).2.2.2.2.2.1 (eg1 x).2.2.2.2.2.2.1 (eg1 x).2.2.2.2.2.2.2.1 (eg2 x).1 (eg2 x).2.1 (eg2 x).2.2.1 (eg2 x).2.2.2.1 (eg2 x).2.2.2.2.1 (eg2 x).2.2.2.2.2.1 (eg2 x).2.2.2.2.2.2.1 (eg2 x).2.2.2.2.2.2.2.1 (eg3 x).1 (eg3 x).2.1 (eg3 x).2.2.1 (eg3 x).2.2.2.1 (eg3 x).2.2.2.2.1 (eg3 x).2.2.2.2.2.1 (eg3 x).2.2.2.2.2.2.1 (eg3 x).2.2.2.2.2.2.2.1 (eg4 x).1 (eg4 x).2.1 (eg4 x).2.2.1 (eg4 x).2.2.2.1 (eg4 x).2.2.2.2.1 (eg4 x).2.2.2.2.2.1 (eg4 x).2.2.2.2.2.2.1 (eg4 x).2.2.2.2.2.2.2.1 (eg5 x).1 (eg5 x).2.1 (eg5 x).2.2.1 (eg5 x).2.2.2.1 (eg5 x).2.2.2.2.1 (eg5 x).2.2.2.2.2.1 (eg5 x).2.2.2.2.2.2.1 (eg5 x).2.2.2.2.2.2.2.1 (eg6 x).1 (eg6 x).2
noncomputable def ec : eT := @Classical.epsilon eT ⟨(default, dW, dA, dS, dS, default, default, default, default, default, default, default, default, default, default, default, default, default, default, default, default, default, default, default, default, default, default, default, default, default, default, default, default, default, default, default, default, default, default, default, default, Hd.empty, default, default, default, default, default, default, default, default)⟩ fun x => ¬ eP x
@[irreducible] def prog := ec.1
@[irreducible] def w := ec.2.1
@[irreducible] def A := ec.2.2.1
@[irreducible] def σ := ec.2.2.2.1
@[irreducible] def s := ec.2.2.2.2.1
@[irreducible] def p := ec.2.2.2.2.2.1
@[irreducible] def mg := ec.2.2.2.2.2.2.1
@[irreducible] def mb := ec.2.2.2.2.2.2.2.1
@[irreducible] def env := (eg1 ec).1
@[irreducible] def ct := (eg1 ec).2.1
@[irreducible] def cm := (eg1 ec).2.2.1
@[irreducible] def cs := (eg1 ec).2.2.2.1
@[irreducible] def cl := (eg1 ec).2.2.2.2.1
@[irreducible] def cst := (eg1 ec).2.2.2.2.2.1
@[irreducible] def cn := (eg1 ec).2.2.2.2.2.2.1
@[irreducible] def f := (eg1 ec).2.2.2.2.2.2.2.1
@[irreducible] def pl := (eg2 ec).1
@[irreducible] def sh := (eg2 ec).2.1
@[irreducible] def TB := (eg2 ec).2.2.1
@[irreducible] def TR := (eg2 ec).2.2.2.1
@[irreducible] def many := (eg2 ec).2.2.2.2.1
@[irreducible] def tm := (eg2 ec).2.2.2.2.2.1
@[irreducible] def k := (eg2 ec).2.2.2.2.2.2.1
@[irreducible] def m := (eg2 ec).2.2.2.2.2.2.2.1
@[irreducible] def kvs := (eg3 ec).1
@[irreducible] def v0 := (eg3 ec).2.1
@[irreducible] def v1 := (eg3 ec).2.2.1
@[irreducible] def v2 := (eg3 ec).2.2.2.1
@[irreducible] def v5 := (eg3 ec).2.2.2.2.1
@[irreducible] def v6 := (eg3 ec).2.2.2.2.2.1
@[irreducible] def v7 := (eg3 ec).2.2.2.2.2.2.1
@[irreducible] def vr := (eg3 ec).2.2.2.2.2.2.2.1
@[irreducible] def b := (eg4 ec).1
@[irreducible] def it := (eg4 ec).2.1
@[irreducible] def fd := (eg4 ec).2.2.1
@[irreducible] def hd := (eg4 ec).2.2.2.1
@[irreducible] def gl := (eg4 ec).2.2.2.2.1
@[irreducible] def fk := (eg4 ec).2.2.2.2.2.1
@[irreducible] def gvs := (eg4 ec).2.2.2.2.2.2.1
@[irreducible] def vs := (eg4 ec).2.2.2.2.2.2.2.1
@[irreducible] def rows := (eg5 ec).1
@[irreducible] def hh := (eg5 ec).2.1
@[irreducible] def n0 := (eg5 ec).2.2.1
@[irreducible] def n1 := (eg5 ec).2.2.2.1
@[irreducible] def n2 := (eg5 ec).2.2.2.2.1
@[irreducible] def n3 := (eg5 ec).2.2.2.2.2.1
@[irreducible] def lst := (eg5 ec).2.2.2.2.2.2.1
@[irreducible] def vl := (eg5 ec).2.2.2.2.2.2.2.1
@[irreducible] def rest := (eg6 ec).1
@[irreducible] def Q := (eg6 ec).2
end
set_option maxHeartbeats 4000000 in
theorem main : eS prog w A σ s p mg mb env ct cm cs cl cst cn f pl sh TB TR many tm k m kvs v0 v1 v2 v5 v6 v7 vr b it fd hd gl fk gvs vs rows hh n0 n1 n2 n3 lst vl rest Q := by
  intro  L Z R kt hm hmm hit hvs tr hrz hg cf hfk rdh hgl hgr hlst hlz z0 z1 z2 z3 H h
  have he := L.he
  have hs := L.hs
  refine LC.el Z ?_
  intro T I TK hct hcm hcs lo loR ne m4
  have G_Name := gnl hs (by kernel_rfl) (gl_gName T)
  have xs := L.xs.cn he
  have xt := L.xt.cn he
  refine x_setitem ?_
  walk_at "g"
  refine e_dict (knd := strKind prog w) T ‹_› rfl rfl (by simp) (by decide) ?_
  intro rd s2 lor H
  refine p_cons ?_
  walk_at "g"
  refine mk_name T ‹_› R ?_
  intro nm p3 s3 l3 hnm H
  have T := T.mono l3
  have Z := Z.mono l3
  refine p_cons ?_
  refine LC.el6 Z ?_
  intro T I TK hct hcm hcs
  walk_at "g"
  refine c_take T ‹_› R TK (.tail (.tail (.tail (.tail .head)))) (by omega) (by decide) ?_
  intro v3 t3 s4 h30 h33 H
  walk_at "g"
  have key : ∀ v kv1 m1 p4 s4, Le p3 p4 → KT kv1 m1 → m ≤ m1 → m1 ≤ m + 1 → KLe kvs kv1 → valueAt kvs ((m1 : Int) + 1) = none → (∀ p5 kv2, Le p4 p5 → KLe kv1 kv2 → Fet (KK w) p5 kv2 v (.ref hd)) →
      St σ p4 ((env.locals, FrameP env (lfs v0 v1 v2 v5 vr v6 vl v7 (some (.ref hd)) none none none none none)) :: (rd, DcP (strKind prog w) [("Type", .ref nm), ("OCProperties", v)]) :: (TB, DcP (intKind prog w) kv1) :: (TR, DcP (strKind prog w) []) :: (pl, PlP 343) :: rest) s4 →
      wpAny (model prog w) A (call (.ref 346) [.ref sh, .ref rd]) (fun v1 s₁ => wpAny (model prog w) A (eval (.Attribute (.Name "shelf" ⟨367, 4, 367, 9⟩) "trailer" ⟨367, 4, 367, 17⟩) env) (fun ov s₂ => wpAny (model prog w) A (eval (.Constant (.str "Root") 0 ⟨367, 18, 367, 24⟩) env) (fun iv s₃ =>
        wpAny (model prog w) A (setItem ov iv v1) (fun _ s₄ => wpAny (model prog w) A (execs (lawB 16) env) Q NE s₄) NE s₃) NE s₂) NE s₁) NE s4 := by
    intro v kv1 m1 p4 s4 l4 kt1 hm1 hm2 kle1 hnone hfet H
    refine St.fz2 H ?_
    intro p5 l5 hrd H
    have Z := (Z.mono l4).mono l5
    refine LC.el6 Z ?_
    intro T I TK hct hcm hcs
    refine' Sf.add (m := m1) ?S T ‹_› R (fun x => .tail .head) (Nat.le_trans kt1.z (by omega)) kt1.inn (kt1.out _ (by omega)) ?_
    case S => exact ⟨I, by walk_at "mem", lo⟩
    intro x t tk p6 s6 l6 ht hx H
    have Z := Z.mono l6
    refine LC.el6 Z ?_
    intro T I TK hct hcm hcs
    walk_at "g"
    refine r_dset ‹_› (.tail (.tail .head)) sk (Nat.zero_le _) ?_
    intro s7 H
    have l06 := l3.trans (l4.trans (l5.trans l6))
    have kt2 : KT (stored kv1 ((m1 : Int) + 1) (.ref t)) (m1 + 1) := kt1.add
    have kn : KLe kv1 (stored kv1 ((m1 : Int) + 1) (.ref t)) := KLe.new (kt1.out _ (by omega))
    have e1 : ((m1 + 1 : Nat) : Int) = (m1 : Int) + 1 := by omega
    refine h (stored kv1 ((m1 : Int) + 1) (.ref t)) (m1 + 1) _ [("Type", .ref nm), ("OCProperties", v)] rd p6 _ l06 (by omega) (by omega) ?_ H
    refine { s := ⟨I, by walk_at "mem", lo⟩, ne := ne, k0 := kle1.trans kn, kz := kt2.z, mz := by omega, kin := kt2.inn, kout := kt2.out, k0r := by rw [e1]; exact hnone, tr := ⟨.inl (by walk_at "mem"), loR⟩, rv := ?_, rdk := ⟨.inr (hrd.mono l6), lor⟩, rne := rfl, rl := ?_, ocp := ?_, hdk := rdh.mono l06, hl := ?_, dv := rfl, gl := ⟨gl, gvs, rfl, hgl.mono l06, hgr.mono l06⟩, cf := cf.mono l06, fl := ?_, bs := ?_, oz := ?_, lz := ?_, rz := ?_, nb := ?_, gb := ?_, zz := ?_, od := ⟨vs, 3, hh, hit.mono l06, ?_, tr.mono l06, Nat.le_refl _⟩ }
    · exact ⟨.ref x, t, tk, by rw [valueAt_stored, if_pos rfl], by rw [e1]; exact hx, by rw [e1, valueAt_stored, if_pos rfl], ht⟩
    · show 2 ≤ _; omega
    · exact hfet p6 _ (l5.trans l6) kn
    · show 2 ≤ _; omega
    · omega
    · cases b
      · exact .inl rfl
      · exact .inr rfl
    · omega
    · omega
    · omega
    · intro n hn
      have : 1 ≤ n ∧ n ≤ (many : Int) := by
        rcases hn with hn | hn | hn | hn | hn
        · exact hlst n hn
        · exact z0.2 n hn
        · exact z1.2 n hn
        · exact z2.2 n hn
        · exact z3.2 n hn
      omega
    · intro n hn
      have := hg n hn
      omega
    · omega
    · omega
  by_cases hv0 : v3 = 0
  · rw [show (v3 == 0) = true from by simp [hv0]]
    walk_at "g"
    refine' Sf.add (m := m) ?S T ‹_› R (fun x => .tail (.tail .head)) (Nat.le_trans kt.z (by omega)) kt.inn (kt.out _ (by omega)) ?_
    case S => exact ⟨I, by walk_at "mem", lo⟩
    intro x t tk p4 s5 l4 ht hx H
    have hnm := hnm.mono l4
    refine p_nil ?_
    refine dict_of [("Type", .ref nm), ("OCProperties", .ref x)] ⟨sk, rfl, sk, rfl, trivial⟩ (by decide : (["Type", "OCProperties"] : List Str).Nodup) H ?_
    intro s6 H
    have T := T.mono l4
    refine a_nil ?_
    refine kin T ‹_› ?_
    refine key (.ref x) (stored kvs ((m : Int) + 1) (.ref t)) (m + 1) p4 s6 l4 kt.add (by omega) (by omega) (KLe.new (kt.out _ (by omega))) (kt.out _ (by omega)) ?_ H
    intro p5 kv2 l5 k5
    exact .hop (hx.mono l5) (k5 _ _ (by rw [valueAt_stored, if_pos rfl])) (l5 _ _ ht) ⟨_, (rdh.mono (l3.trans (l4.trans l5))).vt, ki_dict_r266⟩
  · rw [show (v3 == 0) = false from by simp [hv0]]
    walk_at "g"
    refine p_nil ?_
    refine dict_of [("Type", .ref nm), ("OCProperties", .ref hd)] ⟨sk, rfl, sk, rfl, trivial⟩ (by decide : (["Type", "OCProperties"] : List Str).Nodup) ‹_› ?_
    intro s6 H
    refine a_nil ?_
    refine kin T ‹_› ?_
    refine key (.ref hd) kvs m p3 s6 Le.rfl kt (by omega) (by omega) KLe.rfl (kt.out _ (by omega)) ?_ H
    intro p5 kv2 l5 k5
    exact .here (VT.notRef ((rdh.mono (l3.trans l5)).vt) ki_dict_r266)
theorem all (x : eT) : eP x := eps (show eP ec by with_unfolding_all exact main) x
end law15_E
theorem law15 {prog : Program} {w : World} {A : Around} {σ s : Shared} {p : Heap} {mg mb : Str → Option Value} {env : Env} {ct cm cs cl cst cn f pl sh TB TR : Addr} {many : Nat} {tm : Tok} {k m : Nat} {kvs : List (Int × Value)} {v0 v1 v2 v5 v6 v7 vr : Option Value} {b : Bool} {it fd hd gl : Addr} {fk : List (Str × Value)} {gvs vs : List Value} {rows : Rws} {hh : Hd} {n0 n1 n2 n3 lst : List Int} {vl : Option Value} {rest : List Cell} {Q : Flow → Shared → Prop} : law15_E.eS prog w A σ s p mg mb env ct cm cs cl cst cn f pl sh TB TR many tm k m kvs v0 v1 v2 v5 v6 v7 vr b it fd hd gl fk gvs vs rows hh n0 n1 n2 n3 lst vl rest Q :=
  law15_E.all (prog, w, A, σ, s, p, mg, mb, env, ct, cm, cs, cl, cst, cn, f, pl, sh, TB, TR, many, tm, k, m, kvs, v0, v1, v2, v5, v6, v7, vr, b, it, fd, hd, gl, fk, gvs, vs, rows, hh, n0, n1, n2, n3, lst, vl, rest, Q)
section
end
section
variable {prog : Program} {w : World} {A : Around} {E : Value → Shared → Prop} {σ s : Shared} {p : Heap} {mu mu' : List Cell} {mg mb : Str → Option Value} {env : Env}
variable {ct cm cs cl cst cn f pl sh TB TR : Addr} {many : Nat} {tm : Tok}
variable {kvs kv0 : List (Int × Value)} {m : Nat} {rn : Int} {tk rk hk fk : List (Str × Value)} {rd hd fd ord : Addr} {lst ons offs lks rbs : List Int} {base : Str} {rows : Rws}
theorem DS.mv (D : DS prog w p mu sh TB TR kvs kv0 m rn tk rk hk fk rd hd fd ord lst ons offs lks rbs base rows) (h1 : (TB, DcP (intKind prog w) kvs) ∈ mu') (h2 : (TR, DcP (strKind prog w) tk) ∈ mu') :
    DS prog w p mu' sh TB TR kvs kv0 m rn tk rk hk fk rd hd fd ord lst ons offs lks rbs base rows := { D with s := ⟨D.s.I, h1, D.s.lo⟩, tr := ⟨.inl h2, D.tr.lo⟩ }
theorem DS.mono {p' : Heap} (D : DS prog w p mu sh TB TR kvs kv0 m rn tk rk hk fk rd hd fd ord lst ons offs lks rbs base rows) (l : Le p p') : DS prog w p' mu sh TB TR kvs kv0 m rn tk rk hk fk rd hd fd ord lst ons offs lks rbs base rows :=
  { D with
    s := D.s.mono l
    tr := D.tr.mono l
    rv := let ⟨v, ra, t, h1, h2, h3, h4⟩ := D.rv; ⟨v, ra, t, h1, h2.mono l, h3, l _ _ h4⟩
    rdk := D.rdk.mono l
    ocp := D.ocp.mono l
    hdk := D.hdk.mono l
    gl := let ⟨a, vs, h1, h2, h3⟩ := D.gl; ⟨a, vs, h1, h2.mono l, h3.mono l⟩
    cf := D.cf.mono l
    od := let ⟨vs, kt, hh, h1, h2, h3, h4⟩ := D.od; ⟨vs, kt, hh, h1.mono l, h2, h3.mono l, h4⟩ }
noncomputable def stv (b : Bool) (n0 n1 : List Int) (n : Int) : Bool := !(n1.any (· == n)) && (!b || n0.any (· == n))
set_option maxHeartbeats 4000000 in
theorem law16 {k : Nat} {v0 v1 v3 v4 v5 v7 v8 : Option Value} {b : Bool} {ll la x0 x1 : Addr} {a2 a3 : Value} {n0 n1 : List Int} {us u0 u1 : List Value} {cB cR cP cN : Cell} {rest : List Cell} {Q : Flow → Shared → Prop} (L : LE env ct cm cs cl cst cn)
    (T : Tp (KK w) mg mb p) (R : Rm A (k + 60)) (hll : Pt p ll (LsP [.ref x0, .ref x1, a2, a3])) (q01 : Pt p x0 (LsP u0)) (q02 : IntsAre u0 n0) (q11 : Pt p x1 (LsP u1)) (q12 : IntsAre u1 n1)
    (hla : Pt p la (LsP us)) (hus : IntsAre us lst) (hnd : lst.Nodup) (hlz : lst.length ≤ 4)
    (H : St σ p ((env.locals, FrameP env (lfs v0 v1 (some (.bool b)) v3 v4 v5 (some (.ref ll)) v7 v8 none none none none none)) :: cB :: cR :: cP :: (cl, CellP (some (.ref la))) :: (cst, CellP none) :: rest) s)
    (h : ∀ sd o1 s', (sd == sysModules) = false →
      St σ p ((env.locals, FrameP env (lfs v0 o1 (some (.bool b)) v3 v4 v5 (some (.ref ll)) v7 v8 none none none none none)) :: (sd, DcP (intKind prog w) (boolD lst (stv b n0 n1))) :: cB :: cR :: cP :: (cl, CellP (some (.ref la))) :: (cst, CellP (some (.ref sd))) :: rest) s' →
      wpAny (model prog w) A (execs (lawB 18) env) Q NE s') :
    wpAny (model prog w) A (execs (lawB 16) env) Q NE s := by
  have he := L.he
  have hs := L.hs
  have xl := L.xl.cn he
  have xst := L.xst.cn he
  refine x_assign ?_
  refine e_dict0 (knd := intKind prog w) T ‹_› ?_
  intro sd s2 los H
  have H := H.swap
  refine st_cell he.kind L.xst.k L.xst.l ‹_› (.tail (.tail (.tail (.tail (.tail (.tail .head)))))) ?_
  intro s3 H
  refine x_for ?_
  refine r_cell xl ‹_› (by walk_at "mem") ?_
  refine for_go (I := fun i p' fs' mu' => ∀ C : Heap → List (Str × Option Value) → List Cell → Prop, (∀ o1, C p (lfs v0 o1 (some (.bool b)) v3 v4 v5 (some (.ref ll)) v7 v8 none none none none none) ((sd, DcP (intKind prog w) (boolD (lst.take i) (stv b n0 n1))) :: cB :: cR :: cP :: (cl, CellP (some (.ref la))) :: (cst, CellP (some (.ref sd))) :: rest)) → C p' fs' mu') R.h (itb_ls hla) ‹_› (fun _ K => K v1) ?_ ?_
  · intro i p3 fs3 mu3 c v s4 hi l3 J hv
    apply J
    clear J
    intro o1
    intro H
    apply ints_el hus hv
    intro n tn hn
    have hnt : n ∉ lst.take i := fun hm => by
      have hi' : i < lst.length := by rw [← hus.length]; exact hi
      have e1 : lst[i] = n := by
        have := List.getElem?_eq_getElem hi'
        rw [hn] at this
        exact (Option.some.inj this).symm
      have hd := hnd
      rw [← List.take_append_drop i lst] at hd
      have := (List.nodup_append.mp hd).2.2 n hm n (by rw [List.drop_eq_getElem_cons hi', e1]; exact .head _)
      exact this rfl
    have hz : (boolD (lst.take i) (stv b n0 n1)).length ≤ sizeLine := by
      refine Nat.le_trans ?_ (Nat.le_of_ble_eq_true rfl : 4 ≤ sizeLine)
      unfold boolD
      rw [List.length_map]
      exact Nat.le_trans (List.length_take_le' _ _) hlz
    have hstep : ∀ bb, stv b n0 n1 n = bb → stored (boolD (lst.take i) (stv b n0 n1)) n (.bool bb) = boolD (lst.take (i + 1)) (stv b n0 n1) := fun bb hb => by rw [take_snoc hn]; exact boolD_snoc hnt hb
    have fin : ∀ (Qx : Flow → Shared → Prop) bb s5, stv b n0 n1 n = bb → St σ p ((env.locals, FrameP env (lfs v0 (some (.int n tn)) (some (.bool b)) v3 v4 v5 (some (.ref ll)) v7 v8 none none none none none)) :: c :: (sd, DcP (intKind prog w) (boolD (lst.take i) (stv b n0 n1))) :: cB :: cR :: cP :: (cl, CellP (some (.ref la))) :: (cst, CellP (some (.ref sd))) :: rest) s5 →
        wpAny (model prog w) A (setItem (.ref sd) (.int n tn) (.bool bb)) (fun _ s₄ => wpAny (model prog w) A (execs [] env) (TurnQ σ env (fun i p' fs' mu' => ∀ C : Heap → List (Str × Option Value) → List Cell → Prop, (∀ o1, C p (lfs v0 o1 (some (.bool b)) v3 v4 v5 (some (.ref ll)) v7 v8 none none none none none) ((sd, DcP (intKind prog w) (boolD (lst.take i) (stv b n0 n1))) :: cB :: cR :: cP :: (cl, CellP (some (.ref la))) :: (cst, CellP (some (.ref sd))) :: rest)) → C p' fs' mu') i p c Qx) NE s₄) NE s5 := by
      intro Qx bb s5 hb H
      refine r_dset (kvs := boolD (lst.take i) (stv b n0 n1)) ‹_› (.tail (.tail .head)) ik hz ?_
      intro s6 H
      rw [hstep bb hb] at H
      refine x_nil ?_
      exact turn_of Le.rfl (fun _ K => K _) H
    walk_at "g"
    refine sub_list (rd_p ‹_› hll) (by decide) (by simp) rfl ?_
    refine r_notin (rd_p ‹_› q11) q12 ?_
    cases hb : n1.any (· == n) with
    | true =>
      walk_at "g"
      refine fin _ _ _ ?_ ‹_›
      simp [stv, hb]
    | false =>
      walk_at "g"
      refine e_not ?_
      walk_at "g"
      refine not_of ?_
      cases b with
      | false =>
        walk_at "g"
        refine fin _ _ _ ?_ ‹_›
        simp [stv, hb]
      | true =>
        walk_at "g"
        refine sub_list (rd_p ‹_› hll) (by decide) (by simp) rfl ?_
        refine r_in (rd_p ‹_› q01) q02 ?_
        walk_at "g"
        refine fin _ _ _ ?_ ‹_›
        simp [stv, hb]
  · intro p3 fs3 mu3 s4 l3 J
    apply J
    clear J
    intro o1
    intro H
    have et : lst.take us.length = lst := by rw [hus.length]; exact List.take_length
    rw [et] at H
    exact h sd o1 s4 los H
end
theorem ints_take {us : List Value} {ns : List Int} (h : IntsAre us ns) : ∀ i, IntsAre (us.take i) (ns.take i) := by
  induction h with
  | nil => intro i; simp; exact .nil
  | cons n t _ ih =>
    intro i
    cases i with
    | zero => exact .nil
    | succ i => exact .cons n t (ih i)
section
variable {prog : Program} {w : World} {A : Around} {E : Value → Shared → Prop} {σ s : Shared} {p : Heap} {mu mu' : List Cell} {mg mb : Str → Option Value} {env : Env}
variable {ct cm cs cl cst cn f pl sh TB TR : Addr} {many : Nat} {tm : Tok} {lst : List Int}
end
namespace law18_E
noncomputable section
def eS (prog : Program) (w : World) (A : Around) (σ s : Shared) (p : Heap) (mg mb : Str → Option Value) (env : Env) (ct cm cs cl cst cn : Addr) (lst : List Int) (k : Nat) (v0 v1 v2 v3 v4 v5 v7 v8 on : Option Value) (ll la x0 x1 x2 : Addr) (a3 : Value) (n0 n1 n2 : List Int) (us u0 u1 u2 : List Value) (cD cB cR cP cS : Cell) (rest : List Cell) (Q : Flow → Shared → Prop) : Prop := ∀ (L : LE env ct cm cs cl cst cn) (T : Tp (KK w) mg mb p) (R : Rm A (k + 60)) (hll : Pt p ll (LsP [.ref x0, .ref x1, .ref x2, a3])) (q01 : Pt p x0 (LsP u0)) (q02 : IntsAre u0 n0) (q11 : Pt p x1 (LsP u1)) (q12 : IntsAre u1 n1) (q21 : Pt p x2 (LsP u2)) (q22 : IntsAre u2 n2) (z0 : n0.length ≤ 2 ∧ ∀ n ∈ n0, 1 ≤ n ∧ n ≤ 4) (z1 : n1.length ≤ 2 ∧ ∀ n ∈ n1, 1 ≤ n ∧ n ≤ 4) (z2 : n2.length ≤ 2 ∧ ∀ n ∈ n2, 1 ≤ n ∧ n ≤ 4) (hla : Pt p la (LsP us)) (hus : IntsAre us lst) (H : St σ p ((env.locals, FrameP env (lfs v0 v1 v2 v3 v4 v5 (some (.ref ll)) v7 v8 none none none none none)) :: cD :: cB :: cR :: cP :: (cl, CellP (some (.ref la))) :: cS :: (cn, CellP on) :: rest) s) (h : ∀ fa fu o1 ow on p' s', Le p p' → StrsAre fu (lf3 lst (ddp n0) (ddp n1) (ddp n2) 3) →
      St σ p' ((env.locals, FrameP env (lfs v0 o1 v2 v3 v4 v5 (some (.ref ll)) v7 v8 (some (.ref fa)) ow none none none)) :: (fa, LsP fu) :: cD :: cB :: cR :: cP :: (cl, CellP (some (.ref la))) :: cS :: (cn, CellP on) :: rest) s' →
      wpAny (model prog w) A (execs (lawB 20) env) Q NE s'), wpAny (model prog w) A (execs (lawB 18) env) Q NE s
abbrev eT := (Program) × (World) × (Around) × (Shared) × (Shared) × (Heap) × (Str → Option Value) × (Str → Option Value) × (Env) × (Addr) × (Addr) × (Addr) × (Addr) × (Addr) × (Addr) × (List Int) × (Nat) × (Option Value) × (Option Value) × (Option Value) × (Option Value) × (Option Value) × (Option Value) × (Option Value) × (Option Value) × (Option Value) × (Addr) × (Addr) × (Addr) × (Addr) × (Addr) × (Value) × (List Int) × (List Int) × (List Int) × (List Value) × (List Value) × (List Value) × (List Value) × (Cell) × (Cell) × (Cell) × (Cell) × (Cell) × (List Cell) × (Flow → Shared → Prop)
def eg1 (x : eT) := x.2.2.2.2.2.2.2.2
def eg2 (x : eT) := (eg1 x).2.2.2.2.2.2.2.2
def eg3 (x : eT) := (eg2 x).2.2.2.2.2.2.2.2
def eg4 (x : eT) := (eg3 x).2.2.2.2.2.2.2.2
def eg5 (x : eT) := (eg4 x).2.2.2.2.2.2.2.2
def eP (x : eT) : Prop := eS x.1 x.2.1 x.2.2.1 x.2.2.2.1 x.2.2.2.2.1 x.2.2.2.2.2.1 x.2.2.2.2.2.2.1 x.2.2.2.2.2.2.2.1 (eg1 x).1 (eg1 x).2.1 (eg1 x).2.2.1 (eg1 x).2.2.2.1 (eg1 x).2.2.2.2.1 (eg1 x).2.2.2.2.2.1 (eg1 x).2.2.2.2.2.2.1 (eg1 x).2.2.2.2.2.2.2.1 (eg2 x).1 (eg2 x).2.1 (eg2 x).2.2.1 (eg2 x).2.2.2.1 (eg2 x).2.2.2.2.1 (eg2 x).2.2.2.2.2.1 (eg2 x).2.2.2.2.2.2.1 (eg2 x).2.2.2.2.2.2.2.1 (eg3 x).1 (eg3 x).2.1 (eg3 x).2.2.1 (eg3 x).2.2.2.1 (eg3 x).2.2.2.2.1 (eg3 x).2.2.2.2.2.1 (eg3 x).2.2.2.2.2.2.1 (eg3 x).2.2.2.2.2.2.2.1 (eg4 x).1 (eg4 x).2.1 (eg4 x).2.2.1 (eg4 x).2.2.2.1 (eg4 x).2.2.2.2.1 (eg4 x).2.2.2.2.2.1 (eg4 x).2.2.2.2.2.2.1 (eg4 x).2.2.2.2.2.2.2.1 (eg5 x).1 (eg5 x).2.1 (eg5 x).2.2.1 (eg5 x).2.2.2.1 (eg5 x).2.2.2.2.1 (eg5 x).2.2.2.2.2
noncomputable def ec : eT := @Classical.epsilon eT ⟨(default, dW, dA, dS, dS, default, default, default, default, default, default, default, default, default, default, default, default, default, default, default, default, default, default, default, default, default, default, default, default, default, default, default, default, default, default, default, default, default, default, default, default, default, default, default, default, default)⟩ fun x => ¬ eP x
@[irreducible] def prog := ec.1
@[irreducible] def w := ec.2.1
@[irreducible] def A := ec.2.2.1
@[irreducible] def σ := ec.2.2.2.1
@[irreducible] def s := ec.2.2.2.2.1
@[irreducible] def p := ec.2.2.2.2.2.1
@[irreducible] def mg := ec.2.2.2.2.2.2.1
@[irreducible] def mb := ec.2.2.2.2.2.2.2.1
@[irreducible] def env := (eg1 ec).1
@[irreducible] def ct := (eg1 ec).2.1
@[irreducible] def cm := (eg1 ec).2.2.1
@[irreducible] def cs := (eg1 ec).2.2.2.1
@[irreducible] def cl := (eg1 ec).2.2.2.2.1
@[irreducible] def cst := (eg1 ec).2.2.2.2.2.1
@[irreducible] def cn := (eg1 ec).2.2.2.2.2.2.1
@[irreducible] def lst := (eg1 ec).2.2.2.2.2.2.2.1
@[irreducible] def k := (eg2 ec).1
@[irreducible] def v0 := (eg2 ec).2.1
@[irreducible] def v1 := (eg2 ec).2.2.1
@[irreducible] def v2 := (eg2 ec).2.2.2.1
@[irreducible] def v3 := (eg2 ec).2.2.2.2.1
@[irreducible] def v4 := (eg2 ec).2.2.2.2.2.1
@[irreducible] def v5 := (eg2 ec).2.2.2.2.2.2.1
@[irreducible] def v7 := (eg2 ec).2.2.2.2.2.2.2.1
@[irreducible] def v8 := (eg3 ec).1
@[irreducible] def on := (eg3 ec).2.1
@[irreducible] def ll := (eg3 ec).2.2.1
@[irreducible] def la := (eg3 ec).2.2.2.1
@[irreducible] def x0 := (eg3 ec).2.2.2.2.1
@[irreducible] def x1 := (eg3 ec).2.2.2.2.2.1
@[irreducible] def x2 := (eg3 ec).2.2.2.2.2.2.1
@[irreducible] def a3 := (eg3 ec).2.2.2.2.2.2.2.1
@[irreducible] def n0 := (eg4 ec).1
@[irreducible] def n1 := (eg4 ec).2.1
@[irreducible] def n2 := (eg4 ec).2.2.1
@[irreducible] def us := (eg4 ec).2.2.2.1
@[irreducible] def u0 := (eg4 ec).2.2.2.2.1
@[irreducible] def u1 := (eg4 ec).2.2.2.2.2.1
@[irreducible] def u2 := (eg4 ec).2.2.2.2.2.2.1
@[irreducible] def cD := (eg4 ec).2.2.2.2.2.2.2.1
@[irreducible] def cB := (eg5 ec).1
@[irreducible] def cR := (eg5 ec).2.1
@[irreducible] def cP := (eg5 ec).2.2.1
@[irreducible] def cS := (eg5 ec).2.2.2.1
@[irreducible] def rest := (eg5 ec).2.2.2.2.1
@[irreducible] def Q := (eg5 ec).2.2.2.2.2
end
set_option maxHeartbeats 8000000 in
theorem main : eS prog w A σ s p mg mb env ct cm cs cl cst cn lst k v0 v1 v2 v3 v4 v5 v7 v8 on ll la x0 x1 x2 a3 n0 n1 n2 us u0 u1 u2 cD cB cR cP cS rest Q := by
  intro  L T R hll q01 q02 q11 q12 q21 q22 z0 z1 z2 hla hus H h
  have he := L.he
  have hs := L.hs
  have xl := L.xl.cn he
  have xn := L.xn.cn he
  have xnl := L.xn.l
  have G_range := gnl hs (by kernel_rfl) (gl_grange T)
  have G_len := gnl hs (by kernel_rfl) (gl_glen T)
  have G_str := gnl hs (by kernel_rfl) (gl_gstr T)
  refine x_assign ?_
  walk_at "g"
  refine r_newList ‹_› (Nat.zero_le _) ?_
  intro fa s5 H
  have H := H.swap
  walk_at "g"
  refine x_for ?_
  walk_at "g"
  refine sub_list (rd_p ‹_› hll) (by decide) (by simp) rfl ?_
  walk_at "g"
  refine r_newTuple ‹_› (Nat.le_of_ble_eq_true rfl) ?_
  intro t1 p6 s6 l6 ht1 H
  have T := T.mono l6
  have hll := hll.mono l6
  walk_at "g"
  refine sub_list (rd_p ‹_› hll) (by decide) (by simp) rfl ?_
  walk_at "g"
  refine r_newTuple ‹_› (Nat.le_of_ble_eq_true rfl) ?_
  intro t2 p7 s7 l7 ht2 H
  have T := T.mono l7
  have hll := hll.mono l7
  walk_at "g"
  refine sub_list (rd_p ‹_› hll) (by decide) (by simp) rfl ?_
  walk_at "g"
  refine r_newTuple ‹_› (Nat.le_of_ble_eq_true rfl) ?_
  intro t3 p8 s8 l8 ht3 H
  have T := T.mono l8
  walk_at "g"
  refine r_newTuple ‹_› (Nat.le_of_ble_eq_true rfl) ?_
  intro t4 p9 s9 l9 ht4 H
  have T := T.mono l9
  have l09 := l6.trans (l7.trans (l8.trans l9))
  have ht1 := l9 _ _ (l8 _ _ (l7 _ _ ht1))
  have ht2 := l9 _ _ (l8 _ _ ht2)
  have ht3 := l9 _ _ ht3
  have q01 := q01.mono l09
  have q11 := q11.mono l09
  have q21 := q21.mono l09
  have hla := hla.mono l09
  have zd : ∀ {l : List Int}, l.length ≤ 2 → (ddp l).length ≤ 2 := fun h => Nat.le_trans (ddp_length _) h
  refine for_goT (I := fun i p' fs' mu' => ∀ C : List (Str × Option Value) → List Cell → Prop, (∀ fu o1 ow on, StrsAre fu (lf3 lst (ddp n0) (ddp n1) (ddp n2) i) → C (lfs v0 o1 v2 v3 v4 v5 (some (.ref ll)) v7 v8 (some (.ref fa)) ow none none none) ((fa, LsP fu) :: cD :: cB :: cR :: cP :: (cl, CellP (some (.ref la))) :: cS :: (cn, CellP on) :: rest)) → C fs' mu') R.h ht4 ‹_› (fun _ K => K [] _ _ _ StrsAre.nil) ?_ ?_
  · intro i p10 fs10 mu10 c v s10 hi l10 J hv
    apply J
    clear J
    intro fu o1 ow on' hfu
    intro H
    have T := T.mono l10
    have hla := hla.mono l10
    have key : ∀ C : Value → Prop, (∀ ti wd2 wt li lu ls, p10.get? ti = some (tupObj [.str wd2 wt, .ref li]) → Pt p10 li (LsP lu) → IntsAre lu ls →
        lf3 lst (ddp n0) (ddp n1) (ddp n2) (i + 1) = lf3 lst (ddp n0) (ddp n1) (ddp n2) i ++ ((ddp ls).filter (notIn lst)).map (ftl wd2) → (lf3 lst (ddp n0) (ddp n1) (ddp n2) i).length ≤ 400 → ls.length ≤ 2 → wd2.length ≤ 10 → (∀ n ∈ ls, 1 ≤ n ∧ n ≤ 4) → C (.ref ti)) → C v := by
      clear H
      intro C K
      have hlen : ∀ (l : List Int) (f : Int → Bool) (g : Int → Str), ((l.filter f).map g).length ≤ l.length := fun l f g => by rw [List.length_map]; exact List.length_filter_le _ _
      rcases (show i = 0 ∨ i = 1 ∨ i = 2 from by have : i < 3 := hi; omega) with rfl | rfl | rfl
      · cases hv
        exact K t1 "ON" _ x0 u0 n0 (l10 _ _ ht1) (q01.mono l10) q02 rfl (Nat.zero_le _) z0.1 (by decide) z0.2
      · cases hv
        exact K t2 "OFF" _ x1 u1 n1 (l10 _ _ ht2) (q11.mono l10) q12 rfl (Nat.le_trans (hlen _ _ _) (Nat.le_trans (zd z0.1) (by decide))) z1.1 (by decide) z1.2
      · cases hv
        refine K t3 "Locked" _ x2 u2 n2 (l10 _ _ ht3) (q21.mono l10) q22 rfl ?_ z2.1 (by decide) z2.2
        show (_ ++ _ : List Str).length ≤ 400
        rw [List.length_append]
        have h1 := hlen (ddp n0) (notIn lst) (ftl "ON")
        have h2 := hlen (ddp n1) (notIn lst) (ftl "OFF")
        have h3 := zd z0.1
        have h4 := zd z1.1
        omega
    revert H
    apply key
    intro ti wd2 wt li lu ls hti hli hls hnext hz1 hz2 hw hlb H
    clear key hv
    generalize lf3 lst (ddp n0) (ddp n1) (ddp n2) i = F1 at *
    refine as_pair R.h ‹_› hti ?_
    intro s11 H
    refine st_loc ‹_› (by walk_at "put") ?_
    intro s12 H
    refine st_cell he.kind L.xn.k L.xn.l ‹_› (by walk_at "upd") ?_
    intro s13 H
    refine x_for ?_
    refine e_comp (σ := σ) he (by walk_at "caps") (by kernel_rfl) rfl (fun _ => rfl) (fun _ _ => rfl) R.h ?_
    walk_at "g"
    refine r_len ‹_› (rd_p ‹_› hli) (by rw [hls.length]; exact Nat.le_trans hz2 (Nat.le_of_ble_eq_true rfl)) ?_
    intro t14 s14 H
    walk_at "g"
    refine r_range1 ‹_› ?_
    intro rg p15 s15 l15 hrg H
    have hul : lu.length = ls.length := hls.length
    have hN : ((lu.length : Int) - 0).toNat = ls.length := by omega
    refine comp_of (N := ((lu.length : Int) - 0).toNat) (p := p15) (J := fun j ws p' gs' mu' => ∀ C : List (Str × Option Value) → List Cell → Prop, (∀ o2, IntsAre ws (ddp (ls.take j)) → C [(".0", none), ("spot", o2)] ((env.locals, FrameP env (lfs v0 o1 v2 v3 v4 v5 (some (.ref ll)) v7 v8 (some (.ref fa)) (some (.str wd2 wt)) none none none)) :: c :: (fa, LsP fu) :: cD :: cB :: cR :: cP :: (cl, CellP (some (.ref la))) :: cS :: (cn, CellP (some (.ref li))) :: rest)) → C gs' mu') (itb_range hrg (by decide) (by omega)) ‹_› (fun _ K => K none .nil) ?_ ?_
    · intro env' CE j ws p16 gs' mu' c2 acc v s16 hj l16 J hv
      apply J
      clear J
      intro o2 hws
      apply ex_el hv
      clear hv
      intro tv
      intro H
      rw [hN] at hj
      have he' := he
      have he := CE.ok
      have xn' := CE.cn "numbers" cn rfl rfl (by decide) (by decide)
      have hli := (hli.mono l15).mono l16
      have T := (T.mono l15).mono l16
      have zw : ws.length ≤ 2 := by
        rw [hws.length]
        exact Nat.le_trans (ddp_length _) (Nat.le_trans (List.length_take_le' _ _) hz2)
      refine ⟨Nat.le_trans zw (Nat.le_of_ble_eq_true rfl), ?_⟩
      obtain ⟨x, hx⟩ : ∃ x, lu[j]? = some x := ⟨_, List.getElem?_eq_getElem (by omega)⟩
      obtain ⟨n, tn, rfl, hn⟩ := ints_at hls hx
      rw [show (0 + (j : Int)) = (j : Int) from Int.zero_add _]
      walk_at "g"
      refine t_one ?_
      walk_at "g"
      refine sub_list (rd_p ‹_› hli) (by omega) (by omega) hx ?_
      walk_at "g"
      refine upto_of j (LsP.is (rd_p ‹_› hli)) (Nat.le_trans (show lu.length ≤ 2 by omega) (Nat.le_of_ble_eq_true rfl)) ‹_› ?_
      intro D s17 H
      refine r_notin (rd_m H (.head _)) (ints_take hls j) ?_
      have H := H.drop
      have hdd := ddp_take hn
      have hda := ddp_any (ls.take j) n
      cases hb : (ls.take j).any (· == n) with
      | true =>
        rw [hb] at hda
        walk_at "g"
        exact ct_of Le.rfl (fun _ K => K _ (by rw [hdd, ddp1, if_pos hda]; exact hws)) ‹_›
      | false =>
        rw [hb] at hda
        walk_at "g"
        refine sub_list (rd_p ‹_› hli) (by omega) (by omega) hx ?_
        exact ct_of Le.rfl (fun _ K => K _ (by rw [hdd, ddp1, if_neg (by rw [hda]; exact Bool.false_ne_true)]; exact ints_snoc hws _ _)) ‹_›
    · intro ws p16 gs' mu' acc s16 l16 J
      apply J
      clear J
      intro o2 hws
      intro H
      have et : ls.take ((lu.length : Int) - 0).toNat = ls := by rw [hN]; exact List.take_length
      rw [et] at hws
      refine St.fz H ?_
      intro p17 l17 hacc H
      have l10' := l15.trans (l16.trans l17)
      have hla := hla.mono l10'
      have T := T.mono l10'
      have zdl : (ddp ls).length ≤ 2 := zd hz2
      refine for_go (I := fun j p' fs' mu' => ∀ C : Heap → List (Str × Option Value) → List Cell → Prop, (∀ fu o3, StrsAre fu (F1 ++ (((ddp ls).take j).filter (notIn lst)).map (ftl wd2)) → C p17 (lfs v0 o3 v2 v3 v4 v5 (some (.ref ll)) v7 v8 (some (.ref fa)) (some (.str wd2 wt)) none none none) (c :: (fa, LsP fu) :: cD :: cB :: cR :: cP :: (cl, CellP (some (.ref la))) :: cS :: (cn, CellP (some (.ref li))) :: rest)) → C p' fs' mu') R.h (itb_ls hacc) ‹_› (fun _ K => K _ _ (by simpa using hfu)) ?_ ?_
      · intro j p18 fs18 mu18 c2 v s18 hj l18 J hv
        apply J
        clear J
        intro fu o3 hfu
        intro H
        apply ints_el hws hv
        intro n tn hn
        have hnm : n ∈ ls := mem_ddp (List.mem_of_getElem? hn)
        obtain ⟨hn0, hn1⟩ := hlb n hnm
        have hft := filt_take (f := notIn lst) (g := ftl wd2) hn
        have zfu : fu.length ≤ 1000 := by
          rw [strs_len hfu, List.length_append, List.length_map]
          have e1 := List.length_filter_le (notIn lst) ((ddp ls).take j)
          have e2 : ((ddp ls).take j).length ≤ (ddp ls).length := List.length_take_le' _ _
          omega
        walk_at "g"
        refine r_notin (rd_p ‹_› hla) hus ?_
        cases hb : lst.any (· == n) with
        | true =>
          have hni : notIn lst n = false := by rw [notIn, hb]; rfl
          rw [hni] at hft
          walk_at "g"
          exact turn_of Le.rfl (fun _ K => K fu _ (by rw [hft]; simpa using hfu)) ‹_›
        | false =>
          have hni : notIn lst n = true := by rw [notIn, hb]; rfl
          rw [hni] at hft
          walk_at "g"
          refine m_append (rd_m ‹_› (by walk_at "mem")) ?_
          walk_at "g"
          refine r_sadd ‹_› (by have e : ((" tells " : Str)).length = 7 := by decide
                                omega) ?_
          intro t19 s19 H
          walk_at "g"
          refine r_str_int ‹_› (by omega) (by omega) ?_
          intro t20 s20 H
          have el := istr_len (a := n) (by omega) (by omega)
          refine r_sadd H (by rw [PySem.Str.length_append]; have e : ((" tells " : Str)).length = 7 := by decide
                              omega) ?_
          intro t21 s21 H
          walk_at "g"
          refine r_sadd ‹_› (by rw [PySem.Str.length_append, PySem.Str.length_append]; have e : ((" tells " : Str)).length = 7 := by decide
                                have e2 : ((", which is not listed" : Str)).length = 21 := by decide
                                omega) ?_
          intro t22 s22 H
          walk_at "g"
          refine r_append ‹_› (by walk_at "upd") (Nat.le_trans zfu (Nat.le_of_ble_eq_true rfl)) ?_
          intro s23 H
          walk_at "g"
          refine turn_of Le.rfl (fun _ K => K _ _ ?_) ‹_›
          rw [hft, ← List.append_assoc]
          exact strs_snoc hfu _ _
      · intro p18 fs18 mu18 s18 l18 J
        apply J
        clear J
        intro fu o3 hfu
        intro H
        have et : (ddp ls).take ws.length = ddp ls := by rw [hws.length]; exact List.take_length
        rw [et, ← hnext] at hfu
        refine x_nil ?_
        exact turn_of l10' (fun _ K => K fu _ _ _ hfu) H
  · intro p10 fs10 mu10 s10 l10 J
    apply J
    clear J
    intro fu o1 ow on' hfu
    intro H
    exact h fa fu o1 ow on' p10 s10 (l09.trans l10) hfu H
theorem all (x : eT) : eP x := eps (show eP ec by with_unfolding_all exact main) x
end law18_E
theorem law18 {prog : Program} {w : World} {A : Around} {σ s : Shared} {p : Heap} {mg mb : Str → Option Value} {env : Env} {ct cm cs cl cst cn : Addr} {lst : List Int} {k : Nat} {v0 v1 v2 v3 v4 v5 v7 v8 on : Option Value} {ll la x0 x1 x2 : Addr} {a3 : Value} {n0 n1 n2 : List Int} {us u0 u1 u2 : List Value} {cD cB cR cP cS : Cell} {rest : List Cell} {Q : Flow → Shared → Prop} : law18_E.eS prog w A σ s p mg mb env ct cm cs cl cst cn lst k v0 v1 v2 v3 v4 v5 v7 v8 on ll la x0 x1 x2 a3 n0 n1 n2 us u0 u1 u2 cD cB cR cP cS rest Q :=
  law18_E.all (prog, w, A, σ, s, p, mg, mb, env, ct, cm, cs, cl, cst, cn, lst, k, v0, v1, v2, v3, v4, v5, v7, v8, on, ll, la, x0, x1, x2, a3, n0, n1, n2, us, u0, u1, u2, cD, cB, cR, cP, cS, rest, Q)
section
end
noncomputable def ledOf (w : World) : Bool := !(w.params.followText "set-order")
noncomputable abbrev setObj (es : Array (Int × Value)) (ep : Nat) (t : SetTable) : Obj := { cls := .type "set", dict := none, data := .set es ep t }
noncomputable def SetP (es : Array (Int × Value)) (t : SetTable) (o : Obj) : Prop := ∃ ep, o = setObj es ep t
section
variable {prog : Program} {w : World} {A : Around} {E : Value → Shared → Prop} {σ s : Shared} {p : Heap} {mu mu' : List Cell} {mg mb : Str → Option Value} {env : Env}
theorem code_set_newL (a : Value) {Q₁ : Value → Shared → Prop} (h : Q₁ (.ref s.heap.objs.size) { s with heap := s.heap.push (setObj #[] 0 (.fresh 0 0 (ledOf w))) }) :
    codeAny (model prog w) A (.call (.builtin "set.__new__") ⟨[.type "set", a], []⟩) (wants Q₁ E) s := by
  refine codeAny_of_tree ?_
  show wpAny _ A.in1 (do checkBuiltinCall "set.__new__" ⟨[.type "set", a], []⟩; again (.builtin "set.__new__" ⟨[.type "set", a], []⟩)) _ _ s
  refine wpAny_bind (wpAny_of_eq (PySem.F.newCall_set_1 a) (wpAny_pure ⟨plainId_quiet PySem.F.plain_set_new _, codeAny_builtin PySem.F.entry_set_new ?_⟩))
  rw [Around.under_plainId PySem.F.plain_set_new _]
  unfold Builtin.«set.__new__» Builtin.Frozenset.newClass
  have hsub := sub_set_self
  obtain ⟨hp, g, d, tk, os⟩ := s
  dsimp only
  wp_walk
  refine wpAny_askSetting (wpAny_pure ?_)
  dsimp only
  simp only [newObj]
  refine wpAny_bind (wpAny_alloc (wpAny_pure ?_))
  exact wpAny_pure h
theorem set_addN {a : Addr} {es es1 : Array (Int × Value)} {t t1 : SetTable} {n : Int} {tok : Tok} {Q : Bool → Shared → Prop} (H : St σ p mu s) (u : CUpd a (SetP es t) (SetP es1 t1) mu mu')
    (hel : ElemsOf (intKind prog w) es.toList) (hb : es.size < scanBound) (hf : t.fits es.size = true) (hno : es.toList.findIdx? (fun e => (intKind prog w).is n e.2) = none)
    (hlay : layNew t es ((intKind prog w).hash n) (.int n tok) = (es1, t1, false, false)) (hpl : t1.plain = true) (hnf : t1.tooFull = false) (hz : es1.size ≤ sizeLine)
    (h : ∀ s', St σ p mu' s' → Q true s') : wpAny (model prog w) A (setAdd a (.int n tok)) Q E s := by
  obtain ⟨_, ho, ep, rfl⟩ := (H.own _ u.mem).1
  have hkey : (intKind prog w).is n (.int n tok) = true := intKind_is _ _ _ _
  unfold setAdd
  refine wpAny_holding ?_
  refine wpAny_bind ((intKind prog w).pyHash (k := n) hkey ?_)
  unfold setAddHashed setAddHashedIn
  refine wpAny_holding (wpAny_bind (wpAny_setState_of (s := { s with toks := s.toks + 1 }) ho rfl hf ?_))
  dsimp only
  rw [byScan_of rfl hb hel]
  simp only [↓reduceIte]
  unfold setAddByScan
  refine wpAny_bind ?_
  refine wpAny_bind (wpAny_rule ?_)
  refine wpAny_bind (wpAny_setScan_of (s := { s with toks := s.toks + 1 }) hkey ho rfl hf hel ?_)
  rw [hno]
  dsimp only
  rw [hlay]
  dsimp only
  refine wpAny_bind (wpAny_pure ?_)
  rw [hpl]
  simp only [↓reduceIte]
  refine wpAny_bind ?_
  rw [hashByValue_scannable 8 rfl]
  refine wpAny_pure ?_
  refine wpAny_bind (wpAny_storeSet_of (s := { s with toks := s.toks + 1 }) ho rfl ?_ hz)
  rw [show (if plainKind (Value.int n tok) = true then t1 else { t1 with plain := false }) = t1 from rfl, hnf]
  simp only [Bool.not_false, Bool.and_false, Bool.false_eq_true, ↓reduceIte]
  refine wpAny_pure (wpAny_pure (h _ ?_))
  refine (H.toks _).set (s := { s with toks := s.toks + 1 }) u (Heap.SameBut.update ..) ?_
  refine ⟨_, Heap.get?_update_self _ ho rfl, ep + 1, rfl⟩
theorem set_addO {a : Addr} {es : Array (Int × Value)} {t : SetTable} {n : Int} {j : Nat} {tok : Tok} {Q : Bool → Shared → Prop} (H : St σ p mu s) (m : (a, SetP es t) ∈ mu)
    (hel : ElemsOf (intKind prog w) es.toList) (hb : es.size < scanBound) (hf : t.fits es.size = true) (hyes : es.toList.findIdx? (fun e => (intKind prog w).is n e.2) = some j)
    (h : ∀ s', St σ p mu s' → Q false s') : wpAny (model prog w) A (setAdd a (.int n tok)) Q E s := by
  obtain ⟨_, ho, ep, rfl⟩ := (H.own _ m).1
  have hkey : (intKind prog w).is n (.int n tok) = true := intKind_is _ _ _ _
  unfold setAdd
  refine wpAny_holding ?_
  refine wpAny_bind ((intKind prog w).pyHash (k := n) hkey ?_)
  unfold setAddHashed setAddHashedIn
  refine wpAny_holding (wpAny_bind (wpAny_setState_of (s := { s with toks := s.toks + 1 }) ho rfl hf ?_))
  dsimp only
  rw [byScan_of rfl hb hel]
  simp only [↓reduceIte]
  unfold setAddByScan
  refine wpAny_bind ?_
  refine wpAny_bind (wpAny_rule ?_)
  refine wpAny_bind (wpAny_setScan_of (s := { s with toks := s.toks + 1 }) hkey ho rfl hf hel ?_)
  rw [hyes]
  dsimp only
  exact wpAny_pure (wpAny_pure (h _ (H.toks _)))
end
theorem slot_setit_next : Slot "set_iterator" "__next__" "set_iterator.__next__" :=
  .of (owner := "set_iterator") (n := "__next__") (by rw [typeLookup_type, builtinLookup_eq_fast]; kernel_rfl) (by decide +kernel) (by decide +kernel) (by decide +kernel)
    (by first | exact .inl (by decide +kernel) | exact .inr (by decide +kernel)) (by rw [isSubtype_type]; kernel_rfl)
theorem entry_setit_next : entryFor table "set_iterator.__next__" = some Builtin.«set_iterator.__next__» := entryFor_of_tree (by kernel_rfl)
theorem args_setit_next (a : Value) : argsOk "set_iterator.__next__" ⟨[a], []⟩ := by unfold argsOk; kernel_rfl
theorem entry_set_iter : entryFor table "set.__iter__" = some Builtin.«frozenset.__iter__» := entryFor_alias (id' := "frozenset.__iter__") (by kernel_rfl) rfl (by decide +kernel) (by kernel_rfl)
theorem slot_setit_iter : Slot "set_iterator" "__iter__" "set_iterator.__iter__" :=
  .of (owner := "set_iterator") (n := "__iter__") (by rw [typeLookup_type, builtinLookup_eq_fast]; kernel_rfl) (by decide +kernel) (by decide +kernel) (by decide +kernel)
    (by first | exact .inl (by decide +kernel) | exact .inr (by decide +kernel)) (by rw [isSubtype_type]; kernel_rfl)
theorem args_setit_iter (a : Value) : argsOk "set_iterator.__iter__" ⟨[a], []⟩ := by unfold argsOk; kernel_rfl
theorem entry_setit_iter : entryFor table "set_iterator.__iter__" = some Builtin.«dict_keyiterator.__iter__» := entryFor_alias (id' := "dict_keyiterator.__iter__") (by kernel_rfl) (by first | rfl | decide +kernel | (unfold String.splitOn; simp +decide [String.splitOnAux])) (by decide +kernel) (by kernel_rfl)
noncomputable def SitP (sa n ep slot i : Nat) (o : Obj) : Prop := o = { cls := .type "set_iterator", data := .fields #[rawInt slot, rawInt i, .ref sa, rawInt n, rawInt ep] }
section
variable {prog : Program} {w : World} {A : Around} {E : Value → Shared → Prop} {σ s : Shared} {p : Heap} {mu mu' : List Cell}
variable {sa ep : Nat} {es : Array (Int × Value)} {t : SetTable}
theorem r_set_iter {Q : Value → Shared → Prop} (H : St σ p mu s) (hs : p.get? sa = some (setObj es ep t)) (hf : t.fits es.size = true) (hpl : t.plain = true) (h : ∀ it s', St σ p ((it, SitP sa es.size ep 0 0) :: mu) s' → Q (.ref it) s') :
    wpAny (model prog w) A (pyIter (.ref sa)) Q E s := by
  have hs' := H.keep _ _ hs
  have hT : s.TypeIs (.ref sa) "set" := ⟨_, hs', rfl⟩
  refine wpAny_pyIter_slot hT PySem.F.slot_set_iter (wpAny_call_entry PySem.F.slot_set_iter hT entry_set_iter ?_ (PySem.F.args_set_iter_1 _))
  show wpAny _ _ (Builtin.Frozenset.sizeOf sa >>= _) _ _ s
  unfold Builtin.Frozenset.sizeOf
  refine wpAny_bind (wpAny_bind (wpAny_setEntries_of hs' rfl hf (wpAny_pure ?_)))
  refine wpAny_bind ?_
  unfold setDrawn
  refine wpAny_bind (wpAny_setState_of hs' rfl hf ?_)
  dsimp only
  unfold setsByText
  refine wpAny_bind (wpAny_bind (wpAny_askSetting (wpAny_pure ?_)))
  refine wpAny_pure ?_
  have e : (!(w.params.followText "set-order") && (!t.plain && decide (es.size > 1))) = false := by rw [hpl]; simp
  show wpAny _ _ (if (!(w.params.followText "set-order") && (!t.plain && decide (es.size > 1))) = true then _ else _) _ _ _
  rw [e, if_neg Bool.false_ne_true]
  refine wpAny_bind (wpAny_pure ?_)
  refine wpAny_bind (wpAny_setEpoch_of hs' rfl hf ?_)
  exact wpAny_bind (wpAny_newObj_type (wpAny_pure ⟨_, rfl, "set_iterator", _, ⟨_, Heap.get?_push_size _ rfl, rfl⟩, slot_setit_next.lookup, h _ _ (H.alloc _ _ rfl)⟩))
noncomputable def slotOf (b : Bool) (t : SetTable) (i : Nat) : Nat := if b then 0 else match i with | 0 => 0 | i + 1 => t.place.getD i 0 + 1
noncomputable def orderOf (w : World) (sa ep : Nat) (es : Array (Int × Value)) : List Value := (if w.params.followText "set-order" then pickOrder (w.params.setOrder sa ep) es else es).toList.map (·.2)
end
section
variable {prog : Program} {w : World} {A : Around} {E : Value → Shared → Prop} {σ s : Shared} {p : Heap} {mu mu' : List Cell}
variable {sa ep : Nat} {es : Array (Int × Value)} {t : SetTable}
theorem r_setNext {i : Nat} {Q : Option (Value × Nat) → Shared → Prop} (hs : s.heap.get? sa = some (setObj es ep t)) (hf : t.fits es.size = true) (hpl : t.plain = true) (hled : t.led = ledOf w) (hbel : ∀ i, i ≤ es.size → SetTable.below t.place (slotOf false t i) = i) (hi : i ≤ es.size)
    (h : Q (((orderOf w sa ep es)[i]?).map fun x => (x, slotOf (w.params.followText "set-order") t (i + 1))) s) : wpAny (model prog w) A (setNext sa (slotOf (w.params.followText "set-order") t i) i ep) Q E s := by
  unfold setNext
  refine wpAny_bind (wpAny_setState_of hs rfl hf ?_)
  dsimp only
  unfold setsByText
  refine wpAny_bind (wpAny_bind (wpAny_askSetting (wpAny_pure ?_)))
  unfold orderOf at h
  unfold ledOf at hled
  show wpAny _ _ (if (w.params.followText "set-order") = true then _ else _) _ _ _
  cases hb : w.params.followText "set-order" with
  | true =>
    rw [hb] at h
    rw [if_pos rfl]
    rw [show (ep != ep) = false from by simp]
    simp only [Bool.false_eq_true, if_false]
    unfold setWalk
    refine wpAny_bind (wpAny_bind (wpAny_setState_of hs rfl hf ?_))
    dsimp only
    unfold setsByText
    refine wpAny_bind (wpAny_bind (wpAny_askSetting (wpAny_pure ?_)))
    show wpAny _ _ (if (w.params.followText "set-order") = true then _ else _) _ _ _
    rw [hb, if_pos rfl]
    refine wpAny_bind (wpAny_askSetting (wpAny_pure ?_))
    refine wpAny_pure ?_
    rw [if_pos rfl, List.getElem?_map, Array.getElem?_toList, Option.map_map] at h
    exact h
  | false =>
    rw [hb] at h hled
    rw [if_neg Bool.false_ne_true]
    show wpAny _ _ (if (!t.plain && decide (es.size > 1)) = true then _ else _) _ _ _
    rw [hpl]
    simp only [Bool.not_true, Bool.false_and, Bool.false_eq_true, if_false]
    refine wpAny_bind ?_
    show wpAny _ _ (if (!t.led && !es.isEmpty) = true then _ else _) _ _ _
    rw [hled]
    simp only [Bool.not_false, Bool.not_true, Bool.false_and, Bool.false_eq_true, if_false]
    refine wpAny_pure ?_
    refine wpAny_pure ?_
    rw [hbel i hi]
    rw [if_neg Bool.false_ne_true, List.getElem?_map, Array.getElem?_toList, Option.map_map] at h
    have hsz : t.place.size = es.size := by
      simp only [SetTable.fits, Bool.and_eq_true, beq_iff_eq] at hf
      exact hf.1
    rcases Nat.lt_or_ge i es.size with hlt | hge
    · have e1 : es[i]? = some es[i] := Array.getElem?_eq_getElem hlt
      have hlt2 : i < t.place.size := by omega
      have e2 : t.place[i]? = some t.place[i] := Array.getElem?_eq_getElem hlt2
      have e3 : slotOf false t (i + 1) = t.place[i] + 1 := by
        show t.place.getD i 0 + 1 = _
        simp [Array.getD, hlt2]
      rw [e1] at h ⊢
      rw [e2]
      rw [Option.map_some] at h
      show Q (some (es[i].2, t.place[i] + 1)) s
      rw [← e3]
      exact h
    · have e1 : es[i]? = none := Array.getElem?_eq_none hge
      rw [e1] at h ⊢
      exact h
theorem order_len (hpk : (pickOrder (w.params.setOrder sa ep) es).size = es.size) : (orderOf w sa ep es).length = es.size := by
  unfold orderOf
  split <;> simp [hpk]
structure SetW (w : World) (p : Heap) (sa ep : Nat) (es : Array (Int × Value)) (t : SetTable) : Prop where
  at_ : p.get? sa = some (setObj es ep t)
  fit : t.fits es.size = true
  pl : t.plain = true
  led : t.led = ledOf w
  bel : ∀ i, i ≤ es.size → SetTable.below t.place (slotOf false t i) = i
  pk : (pickOrder (w.params.setOrder sa ep) es).size = es.size
theorem itb_set (X : SetW w p sa ep es t) : Itb prog w σ p (.ref sa) es.size (fun i v => (orderOf w sa ep es)[i]? = some v) := by
  intro A E Q s p' mu le H h
  refine r_set_iter H (le _ _ X.at_) X.fit X.pl fun it s' H' => ?_
  refine h it (fun i => SitP sa es.size ep (slotOf (w.params.followText "set-order") t i) i) s' ⟨?_, ?_, ?_⟩ (by
    have : slotOf (w.params.followText "set-order") t 0 = 0 := by unfold slotOf; split <;> rfl
    rw [this]; exact H')
  · intro A E Q s p' mu mu' i hh le hi H u h
    obtain ⟨_, ho, rfl⟩ := (H.own _ u.mem).1
    have hs := H.keep _ _ (le _ _ X.at_)
    obtain ⟨v, hv⟩ : ∃ v, (orderOf w sa ep es)[i]? = some v := ⟨_, List.getElem?_eq_getElem (by rw [order_len X.pk]; exact hi)⟩
    unfold pyNext
    have hT : s.TypeIs (.ref it) "set_iterator" := ⟨_, ho, rfl⟩
    refine wpAny_bind (wpAny_attempt (wpAny_callSpecial?_slot (name := Str.ofString "__next__") hT slot_setit_next
      (wpAny_call_entry slot_setit_next hT entry_setit_next ?_ (args_setit_next _))))
    show wpAny _ _ (fieldsOf (.ref it) >>= _) _ _ s
    refine wpAny_bind (wpAny_fieldsOf ho rfl ?_)
    show wpAny _ _ (setEntries sa >>= _) _ _ s
    refine wpAny_bind (wpAny_setEntries_of hs rfl X.fit ?_)
    dsimp only [rawInt]
    rw [show ((es.size : Int) != (es.size : Int)) = false from by simp]
    simp only [Bool.false_eq_true, if_false, Int.toNat_natCast]
    refine wpAny_bind (r_setNext hs X.fit X.pl X.led X.bel (Nat.le_of_lt hi) ?_)
    rw [hv]
    rw [Option.map_some]
    dsimp only
    refine wpAny_bind (wpAny_setField ho rfl (show (0 : Nat) < 5 by decide) ?_)
    have ho2 := Heap.get?_update_self (Obj.mapFields (·.setIfInBounds 0 (Value.int (slotOf (w.params.followText "set-order") t (i + 1) : Nat) 0))) ho rfl
    refine wpAny_bind (wpAny_setField ho2 rfl (show (1 : Nat) < 5 by decide) (wpAny_pure ⟨v, rfl, wpAny_pure (h v _ hv ?_)⟩))
    exact H.set u ((Heap.SameBut.update ..).trans (Heap.SameBut.update ..)) ⟨_, Heap.get?_update_self _ ho2 rfl, rfl⟩
  · intro A E Q s p' mu mu' hh le H m u h
    obtain ⟨_, ho, rfl⟩ := (H.own _ m).1
    have hs := H.keep _ _ (le _ _ X.at_)
    have hv : (orderOf w sa ep es)[es.size]? = none := List.getElem?_eq_none (Nat.le_of_eq (order_len X.pk))
    unfold pyNext
    have hT : s.TypeIs (.ref it) "set_iterator" := ⟨_, ho, rfl⟩
    refine wpAny_bind (wpAny_attempt (wpAny_callSpecial?_slot (name := Str.ofString "__next__") hT slot_setit_next
      (wpAny_call_entry slot_setit_next hT entry_setit_next ?_ (args_setit_next _))))
    show wpAny _ _ (fieldsOf (.ref it) >>= _) _ _ s
    refine wpAny_bind (wpAny_fieldsOf ho rfl ?_)
    show wpAny _ _ (setEntries sa >>= _) _ _ s
    refine wpAny_bind (wpAny_setEntries_of hs rfl X.fit ?_)
    dsimp only [rawInt]
    rw [show ((es.size : Int) != (es.size : Int)) = false from by simp]
    simp only [Bool.false_eq_true, if_false, Int.toNat_natCast]
    refine wpAny_bind (r_setNext hs X.fit X.pl X.led X.bel (Nat.le_refl _) ?_)
    rw [hv, Option.map_none]
    dsimp only
    refine wpAny_bind (wpAny_setField ho rfl (show (2 : Nat) < 5 by decide) ?_)
    refine wpAny_bind ?_
    simp only [newExc, newTuple]
    refine wpAny_bind (wpAny_newObj_type ?_ (by size_fits))
    refine wpAny_bind (m := firstArgMember _ _) (wpAny_of_eq (a := Value.none) (by first | rfl | (simp only [firstArgMember]; rfl)) ?_)
    refine wpAny_newObj_type ?_ (by size_fits)
    simp only [raiseNew]
    refine wpAny_bind (wpAny_handled ?_)
    first | rw [show A.in1.handled = none from hh] | rw [hh]
    refine wpAny_bind (wpAny_pure (wpAny_throw ?_))
    refine wpAny_bind (wpAny_isInstance (T := "StopIteration") (b := true) ⟨_, Heap.get?_push_size _ rfl, rfl⟩ isSubtype_stop ?_)
    exact wpAny_pure (h _ (H.del u (((Heap.SameBut.update ..).extBut.push _).push _)))
  · intro A E Q s p' mu H m h
    obtain ⟨_, ho, rfl⟩ := (H.own _ m).1
    have hT : s.TypeIs (.ref it) "set_iterator" := ⟨_, ho, rfl⟩
    refine wpAny_pyIter_slot hT slot_setit_iter (wpAny_call_entry slot_setit_iter hT entry_setit_iter ?_ (args_setit_iter _))
    show wpAny _ _ (ret (.ref it)) _ _ s
    exact wpAny_pure ⟨_, rfl, "set_iterator", _, hT, slot_setit_next.lookup, h⟩
end
noncomputable abbrev setT0 (led : Bool) : SetTable := .fresh 0 0 led
noncomputable abbrev setT1 (n : Int) (led : Bool) : SetTable := { mask := 7, place := #[n.toNat], dummies := #[], finger := 0, led := led, moves := 0, plain := true }
noncomputable abbrev setT2 (n m : Int) (led : Bool) : SetTable := { mask := 7, place := #[n.toNat, m.toNat], dummies := #[], finger := 0, led := led, moves := 0, plain := true }
noncomputable abbrev setE (n : Int) (t : Tok) : Int × Value := (n, .int n t)
theorem small4 {n : Int} (h : 1 ≤ n ∧ n ≤ 4) : n = 1 ∨ n = 2 ∨ n = 3 ∨ n = 4 := by omega
theorem lay1 (n : Int) (t : Tok) (led : Bool) (h : 1 ≤ n ∧ n ≤ 4) : layNew (setT0 led) #[] (hashInt n) (.int n t) = (#[setE n t], setT1 n led, false, false) := by
  rcases small4 h with rfl | rfl | rfl | rfl <;> cases led <;> rfl
theorem lay2 (n m : Int) (t u : Tok) (led : Bool) (h : 1 ≤ n ∧ n ≤ 4) (h' : 1 ≤ m ∧ m ≤ 4) (hlt : n < m) : layNew (setT1 n led) #[setE n t] (hashInt m) (.int m u) = (#[setE n t, setE m u], setT2 n m led, false, false) := by
  rcases small4 h with rfl | rfl | rfl | rfl <;> rcases small4 h' with rfl | rfl | rfl | rfl <;> first | omega | (cases led <;> rfl)
theorem lay3 (n m : Int) (t u : Tok) (led : Bool) (h : 1 ≤ n ∧ n ≤ 4) (h' : 1 ≤ m ∧ m ≤ 4) (hlt : m < n) : layNew (setT1 n led) #[setE n t] (hashInt m) (.int m u) = (#[setE m u, setE n t], setT2 m n led, false, false) := by
  rcases small4 h with rfl | rfl | rfl | rfl <;> rcases small4 h' with rfl | rfl | rfl | rfl <;> first | omega | (cases led <;> rfl)
theorem pick0 (f : Nat → Nat) : pickOrder f (#[] : Array (Int × Value)) = #[] := rfl
theorem pick1 (f : Nat → Nat) (x : Int × Value) : pickOrder f #[x] = #[x] := by
  show pickOrder.go f 1 0 [x] #[] = _
  unfold pickOrder.go
  rw [show f 0 % [x].length = 0 from Nat.mod_one _]
  rfl
theorem pick2 (f : Nat → Nat) (x y : Int × Value) : pickOrder f #[x, y] = #[x, y] ∨ pickOrder f #[x, y] = #[y, x] := by
  show pickOrder.go f 2 0 [x, y] #[] = _ ∨ pickOrder.go f 2 0 [x, y] #[] = _
  unfold pickOrder.go
  have : f 0 % [x, y].length < 2 := Nat.mod_lt _ (Nat.zero_lt_succ _)
  rcases (by omega : f 0 % [x, y].length = 0 ∨ f 0 % [x, y].length = 1) with e | e
  · left
    rw [e]
    show pickOrder.go f 1 1 [y] #[x] = _
    unfold pickOrder.go
    rw [show f 1 % [y].length = 0 from Nat.mod_one _]
    rfl
  · right
    rw [e]
    show pickOrder.go f 1 1 [x] #[y] = _
    unfold pickOrder.go
    rw [show f 1 % [x].length = 0 from Nat.mod_one _]
    rfl
structure SetQ (w : World) (es : Array (Int × Value)) (t : SetTable) (ns : List Int) : Prop where
  fit : t.fits es.size = true
  pl : t.plain = true
  led : t.led = ledOf w
  bel : ∀ i, i ≤ es.size → SetTable.below t.place (slotOf false t i) = i
  ord : ∀ sa ep, (pickOrder (w.params.setOrder sa ep) es).size = es.size ∧ ∃ os : List Int, os.Perm ns ∧ IntsAre (orderOf w sa ep es) os ∧ os.length = es.size
section
variable {prog : Program} {w : World} {A : Around} {E : Value → Shared → Prop} {σ s : Shared} {p : Heap} {mu mu' : List Cell}
theorem setq0 : SetQ w #[] (setT0 (ledOf w)) [] := by
  refine ⟨rfl, rfl, rfl, fun i hi => ?_, fun sa ep => ⟨by rw [pick0], [], List.Perm.refl _, ?_, rfl⟩⟩
  · obtain rfl : i = 0 := Nat.le_zero.mp hi
    rfl
  · unfold orderOf
    rw [pick0]
    split <;> exact .nil
theorem setq1 {n : Int} {t : Tok} (h : 1 ≤ n ∧ n ≤ 4) : SetQ w #[setE n t] (setT1 n (ledOf w)) [n] := by
  refine ⟨rfl, rfl, rfl, fun i hi => ?_, fun sa ep => ⟨by rw [pick1], [n], List.Perm.refl _, ?_, rfl⟩⟩
  · have hi' : i ≤ 1 := hi
    rcases small4 h with rfl | rfl | rfl | rfl <;> rcases (by omega : i = 0 ∨ i = 1) with rfl | rfl <;> kernel_rfl
  · unfold orderOf
    rw [pick1]
    split <;> exact .cons _ _ .nil
theorem setq2 {n m : Int} {t u : Tok} (h : 1 ≤ n ∧ n ≤ 4) (h' : 1 ≤ m ∧ m ≤ 4) (hlt : n < m) : SetQ w #[setE n t, setE m u] (setT2 n m (ledOf w)) [n, m] := by
  refine ⟨rfl, rfl, rfl, fun i hi => ?_, fun sa ep => ?_⟩
  · have hi' : i ≤ 2 := hi
    rcases small4 h with rfl | rfl | rfl | rfl <;> rcases small4 h' with rfl | rfl | rfl | rfl <;> first | omega | (rcases (by omega : i = 0 ∨ i = 1 ∨ i = 2) with rfl | rfl | rfl <;> kernel_rfl)
  · unfold orderOf
    rcases pick2 (w.params.setOrder sa ep) (setE n t) (setE m u) with e | e
    · rw [e]
      refine ⟨rfl, [n, m], List.Perm.refl _, ?_, rfl⟩
      split <;> exact .cons _ _ (.cons _ _ .nil)
    · rw [e]
      refine ⟨rfl, ?_⟩
      split
      · exact ⟨[m, n], List.Perm.swap _ _ _, .cons _ _ (.cons _ _ .nil), rfl⟩
      · exact ⟨[n, m], List.Perm.refl _, .cons _ _ (.cons _ _ .nil), rfl⟩
theorem SetQ.perm {es : Array (Int × Value)} {t : SetTable} {ns ns' : List Int} (x : SetQ w es t ns) (h : ns.Perm ns') : SetQ w es t ns' :=
  ⟨x.fit, x.pl, x.led, x.bel, fun sa ep => let ⟨a, os, b, c⟩ := x.ord sa ep; ⟨a, os, b.trans h, c⟩⟩
theorem upd_turn {S it : Addr} {P : Nat → Obj → Prop} {N : Nat} {val : Nat → Value → Prop} {i : Nat} {n : Int} {p' : Heap} {mu2 : Tok → List Cell} {R : Result → Shared → Prop}
    (Y : Yl prog w σ p it P N val) (hh : A.handled = none) (l : Le p p') (hi : i < N) (H : St σ p' mu s) (u : CUpd it (P i) (P (i + 1)) mu mu') (hv : ∀ v, val i v → ∃ t, v = .int n t)
    (hadd : ∀ {A : Around} {E : Value → Shared → Prop} {Q : Shared → Prop} (t : Tok) (s' : Shared), St σ p' mu' s' → (∀ s'', St σ p' (mu2 t) s'' → Q s'') → wpAny (model prog w) A (setAdd S (.int n t)) (fun _ => Q) E s')
    (hR : ∀ t s', St σ p' (mu2 t) s' → codeAny (model prog w) A (.builtin "set.update.loop" ⟨[.ref S, .ref it], []⟩) R s') :
    codeAny (model prog w) A (.builtin "set.update.loop" ⟨[.ref S, .ref it], []⟩) R s := by
  refine codeAny_builtin F.entry_set_update_loop ?_
  rw [Around.under_plainId F.plain_set_update_loop _]
  show wpAny _ A.in1 (pyNext (.ref it) >>= _) _ _ s
  refine wpAny_bind (Y.item i (by simp [hh]) l hi H u fun v s' hv' H' => ?_)
  obtain ⟨t, rfl⟩ := hv v hv'
  show wpAny _ A.in1 (holding [Value.int n t] (setAdd S (.int n t)) >>= _) _ _ s'
  refine wpAny_bind (wpAny_holding ?_)
  refine wpAny_mono (hadd (E := _) (Q := fun s'' => St σ p' (mu2 t) s'') t s' H' fun s'' H'' => H'') (fun _ s'' H'' => ?_) fun _ _ e => e
  exact wpAny_pure ⟨plainId_quiet F.plain_set_update_loop _, hR t s'' H''⟩
theorem upd_end {S it : Addr} {P : Nat → Obj → Prop} {N : Nat} {val : Nat → Value → Prop} {p' : Heap} {R : Result → Shared → Prop}
    (Y : Yl prog w σ p it P N val) (hh : A.handled = none) (l : Le p p') (H : St σ p' mu s) (m : (it, P N) ∈ mu) (u : CDel it mu mu')
    (hR : ∀ s', St σ p' mu' s' → R (.ok (.ret .none)) s') :
    codeAny (model prog w) A (.builtin "set.update.loop" ⟨[.ref S, .ref it], []⟩) R s := by
  refine codeAny_builtin F.entry_set_update_loop ?_
  rw [Around.under_plainId F.plain_set_update_loop _]
  show wpAny _ A.in1 (pyNext (.ref it) >>= _) _ _ s
  refine wpAny_bind (Y.stop (by simp [hh]) l H m u fun s' H' => ?_)
  show wpAny _ A.in1 (ret Value.none) _ _ s'
  exact wpAny_pure (hR s' H')
theorem Yl.weak {it : Addr} {P : Nat → Obj → Prop} {N : Nat} {val val' : Nat → Value → Prop} (Y : Yl prog w σ p it P N val) (hv : ∀ i v, val i v → val' i v) : Yl prog w σ p it P N val' :=
  ⟨fun i hh le hi H u h => Y.item i hh le hi H u fun v s' x => h v s' (hv _ _ x), fun hh le H m u h => Y.stop hh le H m u h, fun H m h => Y.again H m h⟩
theorem elems1 {n : Int} {t : Tok} (h : 1 ≤ n ∧ n ≤ 4) : ElemsOf (intKind prog w) (#[setE n t] : Array (Int × Value)).toList := by
  intro e he
  obtain rfl : e = setE n t := List.mem_singleton.mp he
  exact ⟨⟨n, intKind_is _ _ _ _, by rcases small4 h with rfl | rfl | rfl | rfl <;> rfl⟩, rfl⟩
theorem find1_no {n m : Int} {t : Tok} (h : n ≠ m) : (#[setE n t] : Array (Int × Value)).toList.findIdx? (fun e => (intKind prog w).is m e.2) = none := by
  show List.findIdx? (fun e => (intKind prog w).is m e.2) [setE n t] = none
  have : (intKind prog w).is m (.int n t) = false := by
    cases hb : (intKind prog w).is m (.int n t) with
    | false => rfl
    | true =>
      have hb' : Value.isInt m (.int n t) = true := hb
      obtain ⟨u, e⟩ := Value.isInt_shape hb'
      cases e
      exact absurd rfl h
  simp [List.findIdx?, List.findIdx?.go, this]
theorem find1_yes {n : Int} {t : Tok} : (#[setE n t] : Array (Int × Value)).toList.findIdx? (fun e => (intKind prog w).is n e.2) = some 0 := by
  show List.findIdx? (fun e => (intKind prog w).is n e.2) [setE n t] = some 0
  simp [List.findIdx?, List.findIdx?.go, intKind_is]
theorem set_fill {S it : Addr} {P : Nat → Obj → Prop} {vs : List Value} {ns : List Int} {R : Result → Shared → Prop} (hi : IntsAre vs ns) (hz : ns.length ≤ 2) (hr : ∀ n ∈ ns, 1 ≤ n ∧ n ≤ 4)
    (Y : Yl prog w σ p it P vs.length (fun i v => vs[i]? = some v)) (hh : A.handled = none) (H : St σ p ((it, P 0) :: (S, SetP #[] (setT0 (ledOf w))) :: mu) s)
    (hR : ∀ es t s', SetQ w es t (ddp ns) → St σ p ((S, SetP es t) :: mu) s' → R (.ok (.ret .none)) s') :
    codeAny (model prog w) A (.builtin "set.update.loop" ⟨[.ref S, .ref it], []⟩) R s := by
  cases hi with
  | nil => exact upd_end Y hh Le.rfl H (.head _) .head fun s' H' => hR _ _ s' setq0 H'
  | @cons n t0 vs ns hi =>
    have hn := hr n (.head _)
    refine upd_turn (n := n) (mu2 := fun t => (it, P 1) :: (S, SetP #[setE n t] (setT1 n (ledOf w))) :: mu) Y hh Le.rfl (Nat.zero_lt_succ _) H .head (fun v e => ⟨t0, by cases e; rfl⟩) (fun t s' H' h => ?_) fun t s' H' => ?_
    · exact set_addN H' (.tail .head) (fun e he => nomatch he) (by show 0 < scanBound; unfold scanBound; decide) rfl rfl (lay1 n t (ledOf w) hn) rfl rfl (by show 1 ≤ sizeLine; unfold sizeLine; decide) fun s'' H'' => h s'' H''
    · cases hi with
      | nil => exact upd_end Y hh Le.rfl H' (.head _) .head fun s'' H'' => hR _ _ s'' (setq1 hn) H''
      | @cons m t1 vs ns hi =>
        cases hi with
        | cons k t2 hi => exact absurd hz (by simp)
        | nil =>
          have hm := hr m (.tail _ (.head _))
          have hv : ∀ v, [Value.int n t0, Value.int m t1][1]? = some v → ∃ t, v = .int m t := fun v e => ⟨t1, by cases e; rfl⟩
          rcases Int.lt_trichotomy n m with hlt | heq | hlt
          · refine upd_turn (n := m) (mu2 := fun u => (it, P 2) :: (S, SetP #[setE n t, setE m u] (setT2 n m (ledOf w))) :: mu) Y hh Le.rfl (show 1 < 2 by decide) H' .head hv (fun u s2 H2 h => ?_) fun u s2 H2 => ?_
            · exact set_addN H2 (.tail .head) (elems1 hn) (by show 1 < scanBound; unfold scanBound; decide) rfl (find1_no (by omega)) (lay2 n m t u (ledOf w) hn hm hlt) rfl rfl (by show 2 ≤ sizeLine; unfold sizeLine; decide) fun s'' H'' => h s'' H''
            · exact upd_end Y hh Le.rfl H2 (.head _) .head fun s'' H'' => hR _ _ s'' ((setq2 hn hm hlt).perm (by
                have : (n == m) = false := by simp; omega
                rw [show ddp [n, m] = [n, m] from by simp [ddp, ddp1, this]])) H''
          · subst heq
            refine upd_turn (n := n) (mu2 := fun u => (it, P 2) :: (S, SetP #[setE n t] (setT1 n (ledOf w))) :: mu) Y hh Le.rfl (show 1 < 2 by decide) H' .head hv (fun u s2 H2 h => ?_) fun u s2 H2 => ?_
            · exact set_addO H2 (.tail _ (.head _)) (elems1 hn) (by show 1 < scanBound; unfold scanBound; decide) rfl find1_yes fun s'' H'' => h s'' H''
            · exact upd_end Y hh Le.rfl H2 (.head _) .head fun s'' H'' => hR _ _ s'' ((setq1 hn).perm (by rw [show ddp [n, n] = [n] from by simp [ddp, ddp1]])) H''
          · refine upd_turn (n := m) (mu2 := fun u => (it, P 2) :: (S, SetP #[setE m u, setE n t] (setT2 m n (ledOf w))) :: mu) Y hh Le.rfl (show 1 < 2 by decide) H' .head hv (fun u s2 H2 h => ?_) fun u s2 H2 => ?_
            · exact set_addN H2 (.tail .head) (elems1 hn) (by show 1 < scanBound; unfold scanBound; decide) rfl (find1_no (by omega)) (lay3 n m t u (ledOf w) hn hm hlt) rfl rfl (by show 2 ≤ sizeLine; unfold sizeLine; decide) fun s'' H'' => h s'' H''
            · exact upd_end Y hh Le.rfl H2 (.head _) .head fun s'' H'' => hR _ _ s'' ((setq2 hm hn hlt).perm (by
                have : (n == m) = false := by simp; omega
                rw [show ddp [n, m] = [n, m] from by simp [ddp, ddp1, this]]
                exact List.Perm.swap _ _ _)) H''
set_option maxHeartbeats 3200000 in
theorem r_setL {l : Addr} {vs : List Value} {ns : List Int} {Q : Value → Shared → Prop} (H : St σ p mu s) (x : Pt p l (LsP vs)) (hi : IntsAre vs ns) (hz : ns.length ≤ 2) (hr : ∀ n ∈ ns, 1 ≤ n ∧ n ≤ 4) (hh : A.handled = none)
    (h : ∀ (sa : Addr) (os : List Int) (p' : Heap) (s' : Shared), Le p p' → os.Perm (ddp ns) → Itb prog w σ p' (.ref sa) os.length (fun i v => ∃ t n, os[i]? = some n ∧ v = .int n t) → St σ p' mu s' → Q (.ref sa) s') :
    wpAny (model prog w) A (call (.type "set") [.ref l]) Q E s := by
  obtain ⟨c, tl, hmro⟩ := F.called_set.mro
  have hmade := F.called_set.made
  have hsub := F.called_set.sub
  have fin : ∀ sa es t s', SetQ w es t (ddp ns) → St σ p ((sa, SetP es t) :: mu) s' → Q (.ref sa) s' := by
    intro sa es t s' hq H'
    obtain ⟨p', le, ⟨o, ho, ep, rfl⟩, H''⟩ := H'.freeze
    obtain ⟨hpk, os, hperm, hints, hlen⟩ := hq.ord sa ep
    refine h sa os p' s' le hperm ?_ H''
    have X : SetW w p' sa ep es t := ⟨ho, hq.fit, hq.pl, hq.led, hq.bel, hpk⟩
    rw [hlen]
    have I : Itb prog w σ p' (.ref sa) es.size (fun i v => (orderOf w sa ep es)[i]? = some v) := itb_set X
    intro A2 E2 Q2 s2 p2 mu2 le2 H2 h2
    refine I le2 H2 fun it P s3 Y H3 => h2 it P s3 (Y.weak fun i v e => ?_) H3
    obtain ⟨n, t, rfl, hn⟩ := IntsAre.at hints i v e
    exact ⟨t, n, hn, rfl⟩
  refine wpAny_call (codeAny_of_tree ?_)
  show wpAny _ _ (callAny (.type "set") _) _ _ _
  refine wpAny_pure ⟨Code.quiet_builtin _ (by decide +kernel), codeAny_builtin F.entry_type_call ?_⟩
  rw [Around.under_plain (weight_type_call_type "set" [.ref l] []) rfl]
  have h1 := F.called_set.notType
  have h2 := F.called_set.canCreate
  have hct := F.typeCall_set_1 (.ref l)
  repeat (any_goals (first | assumption | wp_step))
  refine codeAny_mono (code_set_newL (.ref l) (E := E) (Q₁ := fun obj s₁ => obj = .ref s.heap.objs.size ∧ s₁ = { s with heap := s.heap.push (setObj #[] 0 (setT0 (ledOf w))) }) ⟨rfl, rfl⟩) fun r s₁ hr => ?_
  cases r with
  | error e => exact hr
  | ok fl =>
    cases fl with
    | ret obj =>
      obtain ⟨rfl, rfl⟩ := hr
      have hS : (s.heap.push (setObj #[] 0 (setT0 (ledOf w)))).get? s.heap.objs.size = some (setObj #[] 0 (setT0 (ledOf w))) := Heap.get?_push_size _ rfl
      have H1 : St σ p ((s.heap.objs.size, SetP #[] (setT0 (ledOf w))) :: mu) { s with heap := s.heap.push (setObj #[] 0 (setT0 (ledOf w))) } := H.alloc _ _ ⟨0, rfl⟩
      have hT : Shared.TypeIs { s with heap := s.heap.push (setObj #[] 0 (setT0 (ledOf w))) } (.ref s.heap.objs.size) "set" := ⟨_, hS, rfl⟩
      have hli := F.called_set.init.lookup
      have hbi := F.called_set.init.bind (.ref s.heap.objs.size)
      repeat (any_goals (first | assumption | wp_step))
      refine codeAny_mono (codeAny_call_builtin (R := wants (fun r s₂ => r = .none ∧ ∃ es t, SetQ w es t (ddp ns) ∧ St σ p ((s.heap.objs.size, SetP es t) :: mu) s₂) E) F.called_set.init.plain F.entry_set_init (check_set_init_1 hT ?_)) fun r₂ s₂ hr₂ => ?_
      · obtain ⟨ol, hol, nl, rfl⟩ := id x
        have hol' : (s.heap.push (setObj #[] 0 (setT0 (ledOf w)))).get? l = some _ := H1.keep _ _ hol
        have hsls := F.sub_list_set
        have hslf := F.sub_list_frozenset
        have hne : (Value.type "list" == Value.type "dict") = false := by decide
        unfold Builtin.«set.__init__» noKeywords Builtin.Frozenset.updateFrom
        generalize hPI : pyIter = PI
        wp_walk
        subst hPI
        refine itb_ls (prog := prog) (w := w) (σ := σ) x Le.rfl H1 fun it P s2 Y H2 => ?_
        refine wpAny_bind (wpAny_runValue ?_)
        have hh3 : A.in1.in1.in1.handled = none := by simp [hh]
        refine set_fill hi hz hr Y hh3 H2 fun es t s' hq H' => ?_
        show wpAny _ _ _ _ _ _
        refine wpAny_pure ?_
        show wpAny _ _ (ret Value.none) _ _ _
        exact wpAny_pure ⟨rfl, es, t, hq, H'⟩
      · cases r₂ with
        | error e => exact hr₂
        | ok fl₂ =>
          cases fl₂ with
          | ret r =>
            obtain ⟨rfl, es, t, hq, H'⟩ := hr₂
            repeat (any_goals (first | assumption | wp_step))
            exact fin _ _ _ _ hq H'
          | _ => exact hr₂.elim
    | _ => exact hr.elim
end
theorem or_cons {M : Model} {A : Around} {E : Value → Shared → Prop} {s : Shared} {env : Env} {x : Expr} {r : List Expr} {Q : Bool → Shared → Prop} (h : wpAny M A (isTrue x env (eval x env)) (fun b s₁ => if b then Q true s₁ else wpAny M A (allTrue .Or r env) Q E s₁) E s) :
    wpAny M A (allTrue .Or (x :: r) env) Q E s := wpAny_allTrue_Or_cons h
theorem or_nil {M : Model} {A : Around} {E : Value → Shared → Prop} {s : Shared} {env : Env} {Q : Bool → Shared → Prop} (h : Q false s) : wpAny M A (allTrue .Or [] env) Q E s := wpAny_allTrue_Or_nil h
theorem ftr0 : ftr 0 = ("more than one group is on in the row 0" : Str) := by decide +kernel
theorem rowsG_take {rows : Rws} {i : Nat} {x : Int × RwD} (h : rows[i]? = some x) : rowsG (rows.take (i + 1)) = rowsG (rows.take i) ++ (match x.2 with | .grp n => [n] | _ => []) := by
  rw [take_snoc h, rowsG_app]
  congr 1
  obtain ⟨d, y⟩ := x
  cases y <;> rfl
section
variable {prog : Program} {w : World} {A : Around} {E : Value → Shared → Prop} {σ s : Shared} {p : Heap} {mu mu' : List Cell} {mg mb : Str → Option Value} {env : Env}
variable {ct cm cs cl cst cn f pl sh TB TR : Addr} {many : Nat} {tm : Tok} {lst : List Int}
end
namespace law20_E
noncomputable section
def eS (prog : Program) (w : World) (A : Around) (σ s : Shared) (p : Heap) (mg mb : Str → Option Value) (env : Env) (ct cm cs cl cst cn : Addr) (lst : List Int) (k : Nat) (v0 v1 v2 v3 v4 v5 v7 v8 ow : Option Value) (ll la x3 fa sd : Addr) (a0 a1 a2 : Value) (n3 : List Int) (g : Int → Bool) (u3 fu : List Value) (F : List Str) (cB cR cP cL : Cell) (rest : List Cell) (Q : Flow → Shared → Prop) : Prop := ∀ (L : LE env ct cm cs cl cst cn) (T : Tp (KK w) mg mb p) (R : Rm A (k + 60)) (hll : Pt p ll (LsP [a0, a1, a2, .ref x3])) (q31 : Pt p x3 (LsP u3)) (q32 : IntsAre u3 n3) (z3 : n3.length ≤ 2 ∧ ∀ n ∈ n3, 1 ≤ n ∧ n ≤ 4) (los : (sd == sysModules) = false) (hfu : StrsAre fu F) (hF : F.length ≤ 1000) (H : St σ p ((env.locals, FrameP env (lfs v0 v1 v2 v3 v4 v5 (some (.ref ll)) v7 v8 (some (.ref fa)) ow none none none)) :: (fa, LsP fu) :: (sd, DcP (intKind prog w) (boolD lst g)) :: cB :: cR :: cP :: cL :: (cst, CellP (some (.ref sd))) :: rest) s) (h : ∀ fu p' s', Le p p' → StrsAre fu (F ++ (crowded (boolD lst g) (ddp n3)).map ftr) →
      St σ p' ((env.locals, FrameP env (lfs v0 v1 v2 v3 v4 v5 (some (.ref ll)) v7 v8 (some (.ref fa)) ow none none none)) :: (fa, LsP fu) :: (sd, DcP (intKind prog w) (boolD lst g)) :: cB :: cR :: cP :: cL :: (cst, CellP (some (.ref sd))) :: rest) s' →
      wpAny (model prog w) A (execs (lawB 21) env) Q NE s'), wpAny (model prog w) A (execs (lawB 20) env) Q NE s
abbrev eT := (Program) × (World) × (Around) × (Shared) × (Shared) × (Heap) × (Str → Option Value) × (Str → Option Value) × (Env) × (Addr) × (Addr) × (Addr) × (Addr) × (Addr) × (Addr) × (List Int) × (Nat) × (Option Value) × (Option Value) × (Option Value) × (Option Value) × (Option Value) × (Option Value) × (Option Value) × (Option Value) × (Option Value) × (Addr) × (Addr) × (Addr) × (Addr) × (Addr) × (Value) × (Value) × (Value) × (List Int) × (Int → Bool) × (List Value) × (List Value) × (List Str) × (Cell) × (Cell) × (Cell) × (Cell) × (List Cell) × (Flow → Shared → Prop)
def eg1 (x : eT) := x.2.2.2.2.2.2.2.2
def eg2 (x : eT) := (eg1 x).2.2.2.2.2.2.2.2
def eg3 (x : eT) := (eg2 x).2.2.2.2.2.2.2.2
def eg4 (x : eT) := (eg3 x).2.2.2.2.2.2.2.2
def eg5 (x : eT) := (eg4 x).2.2.2.2.2.2.2.2
def eP (x : eT) : Prop := eS x.1 x.2.1 x.2.2.1 x.2.2.2.1 x.2.2.2.2.1 x.2.2.2.2.2.1 x.2.2.2.2.2.2.1 x.2.2.2.2.2.2.2.1 (eg1 x).1 (eg1 x).2.1 (eg1 x).2.2.1 (eg1 x).2.2.2.1 (eg1 x).2.2.2.2.1 (eg1 x).2.2.2.2.2.1 (eg1 x).2.2.2.2.2.2.1 (eg1 x).2.2.2.2.2.2.2.1 (eg2 x).1 (eg2 x).2.1 (eg2 x).2.2.1 (eg2 x).2.2.2.1 (eg2 x).2.2.2.2.1 (eg2 x).2.2.2.2.2.1 (eg2 x).2.2.2.2.2.2.1 (eg2 x).2.2.2.2.2.2.2.1 (eg3 x).1 (eg3 x).2.1 (eg3 x).2.2.1 (eg3 x).2.2.2.1 (eg3 x).2.2.2.2.1 (eg3 x).2.2.2.2.2.1 (eg3 x).2.2.2.2.2.2.1 (eg3 x).2.2.2.2.2.2.2.1 (eg4 x).1 (eg4 x).2.1 (eg4 x).2.2.1 (eg4 x).2.2.2.1 (eg4 x).2.2.2.2.1 (eg4 x).2.2.2.2.2.1 (eg4 x).2.2.2.2.2.2.1 (eg4 x).2.2.2.2.2.2.2.1 (eg5 x).1 (eg5 x).2.1 (eg5 x).2.2.1 (eg5 x).2.2.2.1 (eg5 x).2.2.2.2
noncomputable def ec : eT := @Classical.epsilon eT ⟨(default, dW, dA, dS, dS, default, default, default, default, default, default, default, default, default, default, default, default, default, default, default, default, default, default, default, default, default, default, default, default, default, default, default, default, default, default, default, default, default, default, default, default, default, default, default, default)⟩ fun x => ¬ eP x
@[irreducible] def prog := ec.1
@[irreducible] def w := ec.2.1
@[irreducible] def A := ec.2.2.1
@[irreducible] def σ := ec.2.2.2.1
@[irreducible] def s := ec.2.2.2.2.1
@[irreducible] def p := ec.2.2.2.2.2.1
@[irreducible] def mg := ec.2.2.2.2.2.2.1
@[irreducible] def mb := ec.2.2.2.2.2.2.2.1
@[irreducible] def env := (eg1 ec).1
@[irreducible] def ct := (eg1 ec).2.1
@[irreducible] def cm := (eg1 ec).2.2.1
@[irreducible] def cs := (eg1 ec).2.2.2.1
@[irreducible] def cl := (eg1 ec).2.2.2.2.1
@[irreducible] def cst := (eg1 ec).2.2.2.2.2.1
@[irreducible] def cn := (eg1 ec).2.2.2.2.2.2.1
@[irreducible] def lst := (eg1 ec).2.2.2.2.2.2.2.1
@[irreducible] def k := (eg2 ec).1
@[irreducible] def v0 := (eg2 ec).2.1
@[irreducible] def v1 := (eg2 ec).2.2.1
@[irreducible] def v2 := (eg2 ec).2.2.2.1
@[irreducible] def v3 := (eg2 ec).2.2.2.2.1
@[irreducible] def v4 := (eg2 ec).2.2.2.2.2.1
@[irreducible] def v5 := (eg2 ec).2.2.2.2.2.2.1
@[irreducible] def v7 := (eg2 ec).2.2.2.2.2.2.2.1
@[irreducible] def v8 := (eg3 ec).1
@[irreducible] def ow := (eg3 ec).2.1
@[irreducible] def ll := (eg3 ec).2.2.1
@[irreducible] def la := (eg3 ec).2.2.2.1
@[irreducible] def x3 := (eg3 ec).2.2.2.2.1
@[irreducible] def fa := (eg3 ec).2.2.2.2.2.1
@[irreducible] def sd := (eg3 ec).2.2.2.2.2.2.1
@[irreducible] def a0 := (eg3 ec).2.2.2.2.2.2.2.1
@[irreducible] def a1 := (eg4 ec).1
@[irreducible] def a2 := (eg4 ec).2.1
@[irreducible] def n3 := (eg4 ec).2.2.1
@[irreducible] def g := (eg4 ec).2.2.2.1
@[irreducible] def u3 := (eg4 ec).2.2.2.2.1
@[irreducible] def fu := (eg4 ec).2.2.2.2.2.1
@[irreducible] def F := (eg4 ec).2.2.2.2.2.2.1
@[irreducible] def cB := (eg4 ec).2.2.2.2.2.2.2.1
@[irreducible] def cR := (eg5 ec).1
@[irreducible] def cP := (eg5 ec).2.1
@[irreducible] def cL := (eg5 ec).2.2.1
@[irreducible] def rest := (eg5 ec).2.2.2.1
@[irreducible] def Q := (eg5 ec).2.2.2.2
end
set_option maxHeartbeats 8000000 in
theorem main : eS prog w A σ s p mg mb env ct cm cs cl cst cn lst k v0 v1 v2 v3 v4 v5 v7 v8 ow ll la x3 fa sd a0 a1 a2 n3 g u3 fu F cB cR cP cL rest Q := by
  intro  L T R hll q31 q32 z3 los hfu hF H h
  have he := L.he
  have hs := L.hs
  have xst := L.xst.cn he
  have xstl := L.xst.l
  have G_len := gnl hs (by kernel_rfl) (gl_glen T)
  have G_set := gnl hs (by kernel_rfl) (gl_gset T)
  refine x_if ?_
  walk_at "g"
  refine e_comp (σ := σ) he (by walk_at "caps") (by kernel_rfl) rfl (fun _ => rfl) (fun _ _ => rfl) R.h ?_
  walk_at "g"
  refine sub_list (rd_p ‹_› hll) (by decide) (by simp) rfl ?_
  walk_at "g"
  refine r_setL ‹_› q31 q32 z3.1 z3.2 R.h ?_
  intro sa os p2 s2 l2 hperm hitb H
  have T := T.mono l2
  have hol : os.length ≤ 2 := by rw [hperm.length_eq]; exact Nat.le_trans (ddp_length _) z3.1
  have hbv : BoolVals (boolD lst g) := fun n v e => by
    rw [boolD_at] at e
    split at e
    · exact ⟨_, (Option.some.inj e).symm⟩
    · cases e
  refine comp_of (N := os.length) (p := p2) (J := fun j ws p' gs' mu' => ∀ C : List (Str × Option Value) → List Cell → Prop, (∀ o2, IntsAre ws ((os.take j).filter (stB (boolD lst g))) → C [(".0", none), ("number", o2)] ((env.locals, FrameP env (lfs v0 v1 v2 v3 v4 v5 (some (.ref ll)) v7 v8 (some (.ref fa)) ow none none none)) :: (fa, LsP fu) :: (sd, DcP (intKind prog w) (boolD lst g)) :: cB :: cR :: cP :: cL :: (cst, CellP (some (.ref sd))) :: rest)) → C gs' mu') hitb ‹_› (fun _ K => K none .nil) ?_ ?_
  · intro env' CE j ws p3 gs' mu' c2 acc v s3 hj l3 J hv
    apply J
    clear J
    intro o2 hws
    obtain ⟨tn, n, hn, rfl⟩ := hv
    intro H
    have he := CE.ok
    have xst' := CE.cn "states" cst rfl rfl (by decide) (by decide)
    have zw : ws.length ≤ 2 := by
      rw [hws.length]
      exact Nat.le_trans (List.length_filter_le _ _) (Nat.le_trans (List.length_take_le' _ _) hol)
    refine ⟨Nat.le_trans zw (Nat.le_of_ble_eq_true rfl), ?_⟩
    walk_at "g"
    refine t_one ?_
    walk_at "g"
    refine m_dget (knd := intKind prog w) (kvs := boolD lst g) (rd_m ‹_› (.tail _ (.tail _ (.tail _ (.tail _ (.tail _ (.head _))))))) ?_
    walk_at "g"
    refine r_dget2 (knd := intKind prog w) (kvs := boolD lst g) ‹_› (rd_m ‹_› (.tail _ (.tail _ (.tail _ (.tail _ (.tail _ (.head _))))))) los (k := n) ik ?_
    intro s4 H
    rw [hbv.get n]
    have hstep : (os.take (j + 1)).filter (stB (boolD lst g)) = (os.take j).filter (stB (boolD lst g)) ++ (if stB (boolD lst g) n then [n] else []) := by
      rw [take_snoc hn, List.filter_append]
      congr 1
      by_cases e : stB (boolD lst g) n <;> simp [e]
    cases hb : stB (boolD lst g) n with
    | true =>
      rw [hb] at hstep
      walk_at "g"
      exact ct_of Le.rfl (fun _ K => K _ (by rw [hstep]; exact ints_snoc hws _ _)) ‹_›
    | false =>
      rw [hb] at hstep
      walk_at "g"
      exact ct_of Le.rfl (fun _ K => K _ (by rw [hstep]; simpa using hws)) ‹_›
  · intro ws p3 gs' mu' acc s3 l3 J
    apply J
    clear J
    intro o2 hws
    intro H
    rw [List.take_length] at hws
    have hwl : ws.length = ((ddp n3).filter (stB (boolD lst g))).length := by rw [hws.length]; exact (hperm.filter _).length_eq
    have zw : ws.length ≤ 2 := by
      rw [hws.length]
      exact Nat.le_trans (List.length_filter_le _ _) hol
    walk_at "g"
    refine r_len ‹_› (rd_m H (.head _)) (Nat.le_trans zw (Nat.le_of_ble_eq_true rfl)) ?_
    intro t4 s4 H
    have H := H.drop
    walk_at "g"
    by_cases hc : (1 : Int) < (ws.length : Int)
    · rw [decide_eq_true hc]
      walk_at "g"
      refine m_append (rd_m ‹_› (by walk_at "mem")) ?_
      walk_at "g"
      refine r_append ‹_› (by walk_at "upd") (Nat.le_trans (show fu.length ≤ 1000 by rw [strs_len hfu]; exact hF) (Nat.le_of_ble_eq_true rfl)) ?_
      intro s6 H
      refine x_nil ?_
      refine h _ p3 s6 (l2.trans l3) ?_ H
      rw [crowded, if_pos (by omega)]
      show StrsAre _ (F ++ [ftr 0])
      rw [ftr0]
      exact strs_snoc hfu _ _
    · rw [decide_eq_false hc]
      refine ite_f ?_
      refine x_nil ?_
      refine h fu p3 _ (l2.trans l3) ?_ ‹_›
      rw [crowded, if_neg (by omega), List.map_nil, List.append_nil]
      exact hfu
theorem all (x : eT) : eP x := eps (show eP ec by with_unfolding_all exact main) x
end law20_E
theorem law20 {prog : Program} {w : World} {A : Around} {σ s : Shared} {p : Heap} {mg mb : Str → Option Value} {env : Env} {ct cm cs cl cst cn : Addr} {lst : List Int} {k : Nat} {v0 v1 v2 v3 v4 v5 v7 v8 ow : Option Value} {ll la x3 fa sd : Addr} {a0 a1 a2 : Value} {n3 : List Int} {g : Int → Bool} {u3 fu : List Value} {F : List Str} {cB cR cP cL : Cell} {rest : List Cell} {Q : Flow → Shared → Prop} : law20_E.eS prog w A σ s p mg mb env ct cm cs cl cst cn lst k v0 v1 v2 v3 v4 v5 v7 v8 ow ll la x3 fa sd a0 a1 a2 n3 g u3 fu F cB cR cP cL rest Q :=
  law20_E.all (prog, w, A, σ, s, p, mg, mb, env, ct, cm, cs, cl, cst, cn, lst, k, v0, v1, v2, v3, v4, v5, v7, v8, ow, ll, la, x3, fa, sd, a0, a1, a2, n3, g, u3, fu, F, cB, cR, cP, cL, rest, Q)
section
end
theorem St.drop3 {σ : Shared} {p : Heap} {mu : List Cell} {s : Shared} {a b c : Cell} (H : St σ p (a :: b :: c :: mu) s) : St σ p (a :: b :: mu) s := (H.perm perm3).drop
theorem start_stv {b : Bool} {n0 n1 lst : List Int} {base : Str} (hb : base = if b then "OFF" else "ON") (hnd : lst.Nodup) : startS (base != "OFF") lst (ddp n0) (ddp n1) = boolD lst (stv b n0 n1) := by
  rw [startS_eq hnd]
  refine boolD_congr fun n _ => ?_
  rw [ddp_any, ddp_any, hb]
  unfold stv
  cases b with
  | true =>
    rw [show (Str.ofString (if true = true then "OFF" else "ON") != Str.ofString "OFF") = false from by decide]
    cases n1.any (· == n) <;> cases n0.any (· == n) <;> rfl
  | false =>
    rw [show (Str.ofString (if false = true then "OFF" else "ON") != Str.ofString "OFF") = true from by decide]
    cases n1.any (· == n) <;> cases n0.any (· == n) <;> rfl
section
variable {prog : Program} {w : World} {A : Around} {E : Value → Shared → Prop} {σ s : Shared} {p : Heap} {mu mu' : List Cell} {mg mb : Str → Option Value} {env : Env}
variable {ct cm cs cl cst cn f pl sh TB TR : Addr} {many : Nat} {tm : Tok} {lst : List Int}
end
namespace law21_E
noncomputable section
def eS (prog : Program) (w : World) (A : Around) (σ s : Shared) (p : Heap) (mg mb : Str → Option Value) (env : Env) (ct cm cs cl cst cn : Addr) (lst : List Int) (k : Nat) (v0 v1 v2 v3 v5 v6 v7 v8 ow : Option Value) (la fa rw : Addr) (us fu rvs : List Value) (rows : Rws) (F : List Str) (cD cB cR cP : Cell) (rest : List Cell) (Q : Flow → Shared → Prop) : Prop := ∀ (L : LE env ct cm cs cl cst cn) (T : Tp (KK w) mg mb p) (R : Rm A (k + 60)) (hla : Pt p la (LsP us)) (hus : IntsAre us lst) (hrw : Pt p rw (LsP rvs)) (ra : RowsAt p rvs rows) (hrz : rows.length ≤ 200) (hg : ∀ n ∈ rowsG rows, 1 ≤ n ∧ n ≤ 4) (hfu : StrsAre fu F) (hF : F.length ≤ 1000) (H : St σ p ((env.locals, FrameP env (lfs v0 v1 v2 v3 (some (.ref rw)) v5 v6 v7 v8 (some (.ref fa)) ow none none none)) :: (fa, LsP fu) :: cD :: cB :: cR :: cP :: (cl, CellP (some (.ref la))) :: rest) s) (h : ∀ fa fu p' s', Le p p' → StrsAre fu (F ++ ((rowsG rows).filter (notIn lst)).map fto) →
      St σ p' ((env.locals, FrameP env (lfs v0 v1 v2 v3 (some (.ref rw)) v5 v6 v7 v8 (some (.ref fa)) ow none none none)) :: (fa, LsP fu) :: cD :: cB :: cR :: cP :: (cl, CellP (some (.ref la))) :: rest) s' →
      wpAny (model prog w) A (execs (lawB 22) env) Q NE s'), wpAny (model prog w) A (execs (lawB 21) env) Q NE s
abbrev eT := (Program) × (World) × (Around) × (Shared) × (Shared) × (Heap) × (Str → Option Value) × (Str → Option Value) × (Env) × (Addr) × (Addr) × (Addr) × (Addr) × (Addr) × (Addr) × (List Int) × (Nat) × (Option Value) × (Option Value) × (Option Value) × (Option Value) × (Option Value) × (Option Value) × (Option Value) × (Option Value) × (Option Value) × (Addr) × (Addr) × (Addr) × (List Value) × (List Value) × (List Value) × (Rws) × (List Str) × (Cell) × (Cell) × (Cell) × (Cell) × (List Cell) × (Flow → Shared → Prop)
def eg1 (x : eT) := x.2.2.2.2.2.2.2.2
def eg2 (x : eT) := (eg1 x).2.2.2.2.2.2.2.2
def eg3 (x : eT) := (eg2 x).2.2.2.2.2.2.2.2
def eg4 (x : eT) := (eg3 x).2.2.2.2.2.2.2.2
def eP (x : eT) : Prop := eS x.1 x.2.1 x.2.2.1 x.2.2.2.1 x.2.2.2.2.1 x.2.2.2.2.2.1 x.2.2.2.2.2.2.1 x.2.2.2.2.2.2.2.1 (eg1 x).1 (eg1 x).2.1 (eg1 x).2.2.1 (eg1 x).2.2.2.1 (eg1 x).2.2.2.2.1 (eg1 x).2.2.2.2.2.1 (eg1 x).2.2.2.2.2.2.1 (eg1 x).2.2.2.2.2.2.2.1 (eg2 x).1 (eg2 x).2.1 (eg2 x).2.2.1 (eg2 x).2.2.2.1 (eg2 x).2.2.2.2.1 (eg2 x).2.2.2.2.2.1 (eg2 x).2.2.2.2.2.2.1 (eg2 x).2.2.2.2.2.2.2.1 (eg3 x).1 (eg3 x).2.1 (eg3 x).2.2.1 (eg3 x).2.2.2.1 (eg3 x).2.2.2.2.1 (eg3 x).2.2.2.2.2.1 (eg3 x).2.2.2.2.2.2.1 (eg3 x).2.2.2.2.2.2.2.1 (eg4 x).1 (eg4 x).2.1 (eg4 x).2.2.1 (eg4 x).2.2.2.1 (eg4 x).2.2.2.2.1 (eg4 x).2.2.2.2.2.1 (eg4 x).2.2.2.2.2.2.1 (eg4 x).2.2.2.2.2.2.2
noncomputable def ec : eT := @Classical.epsilon eT ⟨(default, dW, dA, dS, dS, default, default, default, default, default, default, default, default, default, default, default, default, default, default, default, default, default, default, default, default, default, default, default, default, default, default, default, default, default, default, default, default, default, default, default)⟩ fun x => ¬ eP x
@[irreducible] def prog := ec.1
@[irreducible] def w := ec.2.1
@[irreducible] def A := ec.2.2.1
@[irreducible] def σ := ec.2.2.2.1
@[irreducible] def s := ec.2.2.2.2.1
@[irreducible] def p := ec.2.2.2.2.2.1
@[irreducible] def mg := ec.2.2.2.2.2.2.1
@[irreducible] def mb := ec.2.2.2.2.2.2.2.1
@[irreducible] def env := (eg1 ec).1
@[irreducible] def ct := (eg1 ec).2.1
@[irreducible] def cm := (eg1 ec).2.2.1
@[irreducible] def cs := (eg1 ec).2.2.2.1
@[irreducible] def cl := (eg1 ec).2.2.2.2.1
@[irreducible] def cst := (eg1 ec).2.2.2.2.2.1
@[irreducible] def cn := (eg1 ec).2.2.2.2.2.2.1
@[irreducible] def lst := (eg1 ec).2.2.2.2.2.2.2.1
@[irreducible] def k := (eg2 ec).1
@[irreducible] def v0 := (eg2 ec).2.1
@[irreducible] def v1 := (eg2 ec).2.2.1
@[irreducible] def v2 := (eg2 ec).2.2.2.1
@[irreducible] def v3 := (eg2 ec).2.2.2.2.1
@[irreducible] def v5 := (eg2 ec).2.2.2.2.2.1
@[irreducible] def v6 := (eg2 ec).2.2.2.2.2.2.1
@[irreducible] def v7 := (eg2 ec).2.2.2.2.2.2.2.1
@[irreducible] def v8 := (eg3 ec).1
@[irreducible] def ow := (eg3 ec).2.1
@[irreducible] def la := (eg3 ec).2.2.1
@[irreducible] def fa := (eg3 ec).2.2.2.1
@[irreducible] def rw := (eg3 ec).2.2.2.2.1
@[irreducible] def us := (eg3 ec).2.2.2.2.2.1
@[irreducible] def fu := (eg3 ec).2.2.2.2.2.2.1
@[irreducible] def rvs := (eg3 ec).2.2.2.2.2.2.2.1
@[irreducible] def rows := (eg4 ec).1
@[irreducible] def F := (eg4 ec).2.1
@[irreducible] def cD := (eg4 ec).2.2.1
@[irreducible] def cB := (eg4 ec).2.2.2.1
@[irreducible] def cR := (eg4 ec).2.2.2.2.1
@[irreducible] def cP := (eg4 ec).2.2.2.2.2.1
@[irreducible] def rest := (eg4 ec).2.2.2.2.2.2.1
@[irreducible] def Q := (eg4 ec).2.2.2.2.2.2.2
end
set_option maxHeartbeats 8000000 in
theorem main : eS prog w A σ s p mg mb env ct cm cs cl cst cn lst k v0 v1 v2 v3 v5 v6 v7 v8 ow la fa rw us fu rvs rows F cD cB cR cP rest Q := by
  intro  L T R hla hus hrw ra hrz hg hfu hF H h
  have he := L.he
  have hs := L.hs
  have xll := L.xl.l
  refine x_assign ?_
  walk_at "g"
  refine e_comp (σ := σ) he (by walk_at "caps") (by kernel_rfl) rfl (fun _ => rfl) (fun _ _ => rfl) R.h ?_
  walk_at "g"
  refine comp_of (N := rvs.length) (p := p) (J := fun j ws p' gs' mu' => ∀ C : Heap → List (Str × Option Value) → List Cell → Prop, (∀ o2, StrsAre ws (((rowsG (rows.take j)).filter (notIn lst)).map fto) → C p [(".0", none), ("row", o2)] ((env.locals, FrameP env (lfs v0 v1 v2 v3 (some (.ref rw)) v5 v6 v7 v8 (some (.ref fa)) ow none none none)) :: (fa, LsP fu) :: cD :: cB :: cR :: cP :: (cl, CellP (some (.ref la))) :: rest)) → C p' gs' mu') (itb_ls hrw) ‹_› (fun _ K => K none .nil) ?_ ?_
  · intro env' CE j ws p3 gs' mu' c2 acc v s3 hj l3 J hv
    apply J
    clear J
    intro o2 hws
    intro H
    have he := CE.ok
    have xl' := CE.cn "listed" cl rfl rfl (by decide) (by decide)
    have G_str : GN env' mg mb "str" (.type "str") := ⟨CE.kn _ .globalImplicit (by decide) rfl, gl_gstr T, by decide⟩
    obtain ⟨⟨dr, xr⟩, hr1, hr2⟩ := ra.at hv
    have hstep := rowsG_take hr1
    have zw : ws.length ≤ 200 := by
      rw [strs_len hws, List.length_map]
      exact Nat.le_trans (List.length_filter_le _ _) (Nat.le_trans (rowsG_len _) (Nat.le_trans (List.length_take_le' _ _) hrz))
    refine ⟨Nat.le_trans zw (Nat.le_of_ble_eq_true rfl), ?_⟩
    walk_at "g"
    refine t_one ?_
    walk_at "g"
    cases hr2 with
    | @grp a _ n t1 t2 t3 e =>
      refine sub_tup ‹_› e (by decide) (by decide) rfl rfl ?_
      walk_at "g"
      rw [show (("group" : Str) == "group") = true from by decide]
      walk_at "g"
      refine sub_tup ‹_› e (by decide) (by decide) rfl rfl ?_
      walk_at "g"
      refine r_notin (rd_p ‹_› hla) hus ?_
      have hnm : n ∈ rowsG rows := by
        have : rows[j]? = some (dr, .grp n) := hr1
        exact List.mem_filterMap.mpr ⟨_, List.mem_of_getElem? this, rfl⟩
      obtain ⟨hn0, hn1⟩ := hg n hnm
      cases hb : lst.any (· == n) with
      | true =>
        have hni : notIn lst n = false := by rw [notIn, hb]; rfl
        walk_at "g"
        refine ct_of Le.rfl (fun _ K => K _ ?_) ‹_›
        rw [hstep, List.filter_append, List.map_append]
        simpa [hni] using hws
      | false =>
        have hni : notIn lst n = true := by rw [notIn, hb]; rfl
        walk_at "g"
        refine sub_tup ‹_› e (by decide) (by decide) rfl rfl ?_
        walk_at "g"
        refine r_str_int ‹_› (by omega) (by omega) ?_
        intro t20 s20 H
        have el := istr_len (a := n) (by omega) (by omega)
        refine r_sadd H (by have e : (("Order tells " : Str)).length = 12 := by decide
                            omega) ?_
        intro t21 s21 H
        walk_at "g"
        refine r_sadd ‹_› (by rw [PySem.Str.length_append]; have e : (("Order tells " : Str)).length = 12 := by decide
                              have e2 : ((", which is not listed" : Str)).length = 21 := by decide
                              omega) ?_
        intro t22 s22 H
        refine ct_of Le.rfl (fun _ K => K _ ?_) H
        rw [hstep, List.filter_append, List.map_append]
        have := strs_snoc hws (fto n) t22
        simpa [hni, fto] using this
    | @lab a _ o t1 t2 t3 e =>
      refine sub_tup ‹_› e (by decide) (by decide) rfl rfl ?_
      walk_at "g"
      rw [show (("label" : Str) == "group") = false from by decide]
      walk_at "g"
      refine ct_of Le.rfl (fun _ K => K _ ?_) ‹_›
      rw [hstep]
      simpa using hws
  · intro ws p3 gs' mu' acc s3 l3 J
    apply J
    clear J
    intro o2 hws
    intro H
    rw [ra.length, List.take_length] at hws
    have zw : ws.length ≤ 200 := by
      rw [strs_len hws, List.length_map]
      exact Nat.le_trans (List.length_filter_le _ _) (Nat.le_trans (rowsG_len _) hrz)
    refine r_ladd H (rd_m H (.tail _ (.tail _ (.head _)))) (rd_m H (.head _)) (Nat.le_trans (show _ ≤ 1200 by rw [strs_len hfu]; omega) (Nat.le_of_ble_eq_true rfl)) ?_
    intro nf s4 H
    have H := H.drop2.swap
    refine st_loc ‹_› (by walk_at "put") ?_
    intro s5 H
    exact h nf _ p s5 Le.rfl (strs_app hfu hws) (St.drop3 H)
theorem all (x : eT) : eP x := eps (show eP ec by with_unfolding_all exact main) x
end law21_E
theorem law21 {prog : Program} {w : World} {A : Around} {σ s : Shared} {p : Heap} {mg mb : Str → Option Value} {env : Env} {ct cm cs cl cst cn : Addr} {lst : List Int} {k : Nat} {v0 v1 v2 v3 v5 v6 v7 v8 ow : Option Value} {la fa rw : Addr} {us fu rvs : List Value} {rows : Rws} {F : List Str} {cD cB cR cP : Cell} {rest : List Cell} {Q : Flow → Shared → Prop} : law21_E.eS prog w A σ s p mg mb env ct cm cs cl cst cn lst k v0 v1 v2 v3 v5 v6 v7 v8 ow la fa rw us fu rvs rows F cD cB cR cP rest Q :=
  law21_E.all (prog, w, A, σ, s, p, mg, mb, env, ct, cm, cs, cl, cst, cn, lst, k, v0, v1, v2, v3, v5, v6, v7, v8, ow, la, fa, rw, us, fu, rvs, rows, F, cD, cB, cR, cP, rest, Q)
section
variable {prog : Program} {w : World} {A : Around} {E : Value → Shared → Prop} {σ s : Shared} {p : Heap} {mu mu' : List Cell} {mg mb : Str → Option Value} {env : Env}
variable {ct cm cs cl cst cn f pl sh TB TR : Addr} {many : Nat} {tm : Tok} {lst : List Int}
variable {kvs kv0 : List (Int × Value)} {m : Nat} {rn : Int} {tk rk hk fk : List (Str × Value)} {rd hd fd ord : Addr} {n0 n1 n2 n3 : List Int} {base : Str} {rows : Rws}
end
namespace law22_E
noncomputable section
def eS (prog : Program) (w : World) (A : Around) (σ s : Shared) (p : Heap) (mg mb : Str → Option Value) (env : Env) (ct cm cs cl cst cn f pl sh TB TR : Addr) (many : Nat) (tm : Tok) (lst : List Int) (kvs kv0 : List (Int × Value)) (m : Nat) (rn : Int) (tk rk hk fk : List (Str × Value)) (rd hd fd ord : Addr) (n0 n1 n2 n3 : List Int) (base : Str) (rows : Rws) (k : Nat) (v0 v1 v2 v3 v4 v5 v6 v7 v8 ow : Option Value) (fa sd : Addr) (b : Bool) (fu : List Value) (cP cL : Cell) (rest : List Cell) (Q : Flow → Shared → Prop) : Prop := ∀ (L : LE env ct cm cs cl cst cn) (Z : LC prog w mg mb p ct cm cs f pl sh TB TR many tm) (R : Rm A (k + 60)) (hb : base = if b then "OFF" else "ON") (hnd : lst.Nodup) (los : (sd == sysModules) = false) (D : DS prog w p [(TB, DcP (intKind prog w) kvs), (TR, DcP (strKind prog w) tk)] sh TB TR kvs kv0 m rn tk rk hk fk rd hd fd ord lst n0 n1 n2 n3 base rows) (hfu : StrsAre fu (faultsOf lst (ddp n0) (ddp n1) (ddp n2) (crowded (boolD lst (stv b n0 n1)) (ddp n3)) rows)) (H : St σ p ((env.locals, FrameP env (lfs v0 v1 v2 v3 v4 v5 v6 v7 v8 (some (.ref fa)) ow none none none)) :: (fa, LsP fu) :: (sd, DcP (intKind prog w) (boolD lst (stv b n0 n1))) :: (TB, DcP (intKind prog w) kvs) :: (TR, DcP (strKind prog w) tk) :: cP :: cL :: (cst, CellP (some (.ref sd))) :: rest) s) (h : ∀ p' s', Le p p' →
      St σ p' ((env.locals, FrameP env (lfs v0 v1 v2 v3 v4 v5 v6 v7 v8 (some (.ref fa)) ow none none none)) :: (sd, DcP (intKind prog w) (boolD lst (stv b n0 n1))) :: (TB, DcP (intKind prog w) kvs) :: (TR, DcP (strKind prog w) tk) :: cP :: cL :: (cst, CellP (some (.ref sd))) :: rest) s' →
      wpAny (model prog w) A (execs (lawB 23) env) Q NE s'), wpAny (model prog w) A (execs (lawB 22) env) Q NE s
abbrev eT := (Program) × (World) × (Around) × (Shared) × (Shared) × (Heap) × (Str → Option Value) × (Str → Option Value) × (Env) × (Addr) × (Addr) × (Addr) × (Addr) × (Addr) × (Addr) × (Addr) × (Addr) × (Addr) × (Addr) × (Addr) × (Nat) × (Tok) × (List Int) × (List (Int × Value)) × (List (Int × Value)) × (Nat) × (Int) × (List (Str × Value)) × (List (Str × Value)) × (List (Str × Value)) × (List (Str × Value)) × (Addr) × (Addr) × (Addr) × (Addr) × (List Int) × (List Int) × (List Int) × (List Int) × (Str) × (Rws) × (Nat) × (Option Value) × (Option Value) × (Option Value) × (Option Value) × (Option Value) × (Option Value) × (Option Value) × (Option Value) × (Option Value) × (Option Value) × (Addr) × (Addr) × (Bool) × (List Value) × (Cell) × (Cell) × (List Cell) × (Flow → Shared → Prop)
def eg1 (x : eT) := x.2.2.2.2.2.2.2.2
def eg2 (x : eT) := (eg1 x).2.2.2.2.2.2.2.2
def eg3 (x : eT) := (eg2 x).2.2.2.2.2.2.2.2
def eg4 (x : eT) := (eg3 x).2.2.2.2.2.2.2.2
def eg5 (x : eT) := (eg4 x).2.2.2.2.2.2.2.2
def eg6 (x : eT) := (eg5 x).2.2.2.2.2.2.2.2
def eg7 (x : eT) := (eg6 x).2.2.2.2.2.2.2.2
def eP (x : eT) : Prop := eS x.1 x.2.1 x.2.2.1 x.2.2.2.1 x.2.2.2.2.1 x.2.2.2.2.2.1 x.2.2.2.2.2.2.1 x.2.2.2.2.2.2.2.1 (eg1 x).1 (eg1 x).2.1 (eg1 x).2.2.1 (eg1 x).2.2.2.1 (eg1 x).2.2.2.2.1 (eg1 x).2.2.2.2.2.1 (eg1 x).2.2.2.2.2.2.1 (eg1 x).2.2.2.2.2.2.2.1 (eg2 x).1 (eg2 x).2.1 (eg2 x).2.2.1 (eg2 x).2.2.2.1 (eg2 x).2.2.2.2.1 (eg2 x).2.2.2.2.2.1 (eg2 x).2.2.2.2.2.2.1 (eg2 x).2.2.2.2.2.2.2.1 (eg3 x).1 (eg3 x).2.1 (eg3 x).2.2.1 (eg3 x).2.2.2.1 (eg3 x).2.2.2.2.1 (eg3 x).2.2.2.2.2.1 (eg3 x).2.2.2.2.2.2.1 (eg3 x).2.2.2.2.2.2.2.1 (eg4 x).1 (eg4 x).2.1 (eg4 x).2.2.1 (eg4 x).2.2.2.1 (eg4 x).2.2.2.2.1 (eg4 x).2.2.2.2.2.1 (eg4 x).2.2.2.2.2.2.1 (eg4 x).2.2.2.2.2.2.2.1 (eg5 x).1 (eg5 x).2.1 (eg5 x).2.2.1 (eg5 x).2.2.2.1 (eg5 x).2.2.2.2.1 (eg5 x).2.2.2.2.2.1 (eg5 x).2.2.2.2.2.2.1 (eg5 x).2.2.2.2.2.2.2.1 (eg6 x).1 (eg6 x).2.1 (eg6 x).2.2.1 (eg6 x).2.2.2.1 (eg6 x).2.2.2.2.1 (eg6 x).2.2.2.2.2.1 (eg6 x).2.2.2.2.2.2.1 (eg6 x).2.2.2.2.2.2.2.1 (eg7 x).1 (eg7 x).2.1 (eg7 x).2.2.1 (eg7 x).2.2.2
noncomputable def ec : eT := @Classical.epsilon eT ⟨(default, dW, dA, dS, dS, default, default, default, default, default, default, default, default, default, default, default, default, default, default, default, default, default, default, default, default, default, default, default, default, default, default, default, default, default, default, default, default, default, default, default, default, default, default, default, default, default, default, default, default, default, default, default, default, default, default, default, default, default, default, default)⟩ fun x => ¬ eP x
@[irreducible] def prog := ec.1
@[irreducible] def w := ec.2.1
@[irreducible] def A := ec.2.2.1
@[irreducible] def σ := ec.2.2.2.1
@[irreducible] def s := ec.2.2.2.2.1
@[irreducible] def p := ec.2.2.2.2.2.1
@[irreducible] def mg := ec.2.2.2.2.2.2.1
@[irreducible] def mb := ec.2.2.2.2.2.2.2.1
@[irreducible] def env := (eg1 ec).1
@[irreducible] def ct := (eg1 ec).2.1
@[irreducible] def cm := (eg1 ec).2.2.1
@[irreducible] def cs := (eg1 ec).2.2.2.1
@[irreducible] def cl := (eg1 ec).2.2.2.2.1
@[irreducible] def cst := (eg1 ec).2.2.2.2.2.1
@[irreducible] def cn := (eg1 ec).2.2.2.2.2.2.1
@[irreducible] def f := (eg1 ec).2.2.2.2.2.2.2.1
@[irreducible] def pl := (eg2 ec).1
@[irreducible] def sh := (eg2 ec).2.1
@[irreducible] def TB := (eg2 ec).2.2.1
@[irreducible] def TR := (eg2 ec).2.2.2.1
@[irreducible] def many := (eg2 ec).2.2.2.2.1
@[irreducible] def tm := (eg2 ec).2.2.2.2.2.1
@[irreducible] def lst := (eg2 ec).2.2.2.2.2.2.1
@[irreducible] def kvs := (eg2 ec).2.2.2.2.2.2.2.1
@[irreducible] def kv0 := (eg3 ec).1
@[irreducible] def m := (eg3 ec).2.1
@[irreducible] def rn := (eg3 ec).2.2.1
@[irreducible] def tk := (eg3 ec).2.2.2.1
@[irreducible] def rk := (eg3 ec).2.2.2.2.1
@[irreducible] def hk := (eg3 ec).2.2.2.2.2.1
@[irreducible] def fk := (eg3 ec).2.2.2.2.2.2.1
@[irreducible] def rd := (eg3 ec).2.2.2.2.2.2.2.1
@[irreducible] def hd := (eg4 ec).1
@[irreducible] def fd := (eg4 ec).2.1
@[irreducible] def ord := (eg4 ec).2.2.1
@[irreducible] def n0 := (eg4 ec).2.2.2.1
@[irreducible] def n1 := (eg4 ec).2.2.2.2.1
@[irreducible] def n2 := (eg4 ec).2.2.2.2.2.1
@[irreducible] def n3 := (eg4 ec).2.2.2.2.2.2.1
@[irreducible] def base := (eg4 ec).2.2.2.2.2.2.2.1
@[irreducible] def rows := (eg5 ec).1
@[irreducible] def k := (eg5 ec).2.1
@[irreducible] def v0 := (eg5 ec).2.2.1
@[irreducible] def v1 := (eg5 ec).2.2.2.1
@[irreducible] def v2 := (eg5 ec).2.2.2.2.1
@[irreducible] def v3 := (eg5 ec).2.2.2.2.2.1
@[irreducible] def v4 := (eg5 ec).2.2.2.2.2.2.1
@[irreducible] def v5 := (eg5 ec).2.2.2.2.2.2.2.1
@[irreducible] def v6 := (eg6 ec).1
@[irreducible] def v7 := (eg6 ec).2.1
@[irreducible] def v8 := (eg6 ec).2.2.1
@[irreducible] def ow := (eg6 ec).2.2.2.1
@[irreducible] def fa := (eg6 ec).2.2.2.2.1
@[irreducible] def sd := (eg6 ec).2.2.2.2.2.1
@[irreducible] def b := (eg6 ec).2.2.2.2.2.2.1
@[irreducible] def fu := (eg6 ec).2.2.2.2.2.2.2.1
@[irreducible] def cP := (eg7 ec).1
@[irreducible] def cL := (eg7 ec).2.1
@[irreducible] def rest := (eg7 ec).2.2.1
@[irreducible] def Q := (eg7 ec).2.2.2
end
set_option maxHeartbeats 8000000 in
theorem main : eS prog w A σ s p mg mb env ct cm cs cl cst cn f pl sh TB TR many tm lst kvs kv0 m rn tk rk hk fk rd hd fd ord n0 n1 n2 n3 base rows k v0 v1 v2 v3 v4 v5 v6 v7 v8 ow fa sd b fu cP cL rest Q := by
  intro  L Z R hb hnd los D hfu H h
  have he := L.he
  have hs := L.hs
  refine LC.el Z ?_
  intro T I TK hct hcm hcs lo loR ne m4
  have G_layer_faults := gnl hs (by kernel_rfl) (gl_glayer_faults T)
  have G_starting_states := gnl hs (by kernel_rfl) (gl_gstarting_states T)
  have G_group_numbers := gnl hs (by kernel_rfl) (gl_ggroup_numbers T)
  have G_configuration := gnl hs (by kernel_rfl) (gl_gconfiguration T)
  have xs := L.xs.cn he
  have xst := L.xst.cn he
  have hst := start_stv (n0 := n0) (n1 := n1) hb hnd
  have hdl : ddp lst = lst := ddp_id hnd
  refine x_if ?_
  walk_at "g"
  refine or_cons ?_
  walk_at "g"
  refine' layer_faults (k := k + 20) ?D T ‹_› R ?_
  case D => exact D.mv (by walk_at "mem") (by walk_at "mem")
  intro a au p2 s2 l2 hau H
  rw [hdl, hst] at hau
  have H := H.swap
  walk_at "g"
  refine r_strs_ne (rd_m ‹_› (by walk_at "mem")) (rd_m ‹_› (.tail _ (.tail _ (.head _)))) hau hfu R.cl ?_
  have H4 := (St.drop3 ‹St σ p2 _ _›)
  have H := H4.drop2
  clear H4
  have Z := Z.mono l2
  have D := D.mono l2
  refine LC.el6 Z ?_
  intro T I TK hct hcm hcs
  refine r_tb ?_
  refine ite_f ?_
  refine or_cons ?_
  walk_at "g"
  obtain ⟨gl, gvs, gl1, gl2, gl3⟩ := D.gl
  have D1 := D.mv (mu' := (env.locals, FrameP env (lfs v0 v1 v2 v3 v4 v5 v6 v7 v8 (some (.ref fa)) ow none none none)) :: (sd, DcP (intKind prog w) (boolD lst (stv b n0 n1))) :: (TB, DcP (intKind prog w) kvs) :: (TR, DcP (strKind prog w) tk) :: cP :: cL :: (cst, CellP (some (.ref sd))) :: rest) (by walk_at "mem") (by walk_at "mem")
  refine D1.s.group_numbers T ‹_› R D1.doc gl1 gl2 (gl3.ext D.k0) (Nat.le_trans D.lz (by have := D.mz; omega)) ?_
  intro kn knu s3 hkn H
  refine St.fz H ?_
  intro p3 l3 hkl H
  have Z := Z.mono l3
  have D1 := D1.mono l3
  refine LC.el6 Z ?_
  intro T I TK hct hcm hcs
  rw [hdl] at hkn
  walk_at "g"
  refine D1.s.configuration T ‹_› R D1.doc D1.dv (D1.cf.ext D1.k0) ?_
  intro cf p4 s4 l4 hcf H
  have Z := Z.mono l4
  refine LC.el6 Z ?_
  intro T I TK hct hcm hcs
  walk_at "g"
  refine starting T ‹_› R (hkl.mono l4) hkn hcf D1.bs (Nat.le_trans D1.lz (by have := D1.mz; omega)) (Nat.le_trans D1.oz (by have := D1.mz; omega)) (Nat.le_trans D1.zz.1 (by omega)) ?_
  intro sd2 s5 los2 H
  rw [hst] at H
  have H := H.swap
  walk_at "g"
  refine r_boolD_ne (rd_m ‹_› (.tail _ (.head _))) (rd_m ‹_› (.tail _ (.tail _ (.head _)))) los2 los (fun _ _ => rfl) R.cl ?_
  have H := St.drop2 ‹St σ p4 _ _›
  refine r_tb (ite_f ?_)
  refine or_nil ?_
  refine ite_f (x_nil ?_)
  exact h p4 _ (l2.trans (l3.trans l4)) H
theorem all (x : eT) : eP x := eps (show eP ec by with_unfolding_all exact main) x
end law22_E
theorem law22 {prog : Program} {w : World} {A : Around} {σ s : Shared} {p : Heap} {mg mb : Str → Option Value} {env : Env} {ct cm cs cl cst cn f pl sh TB TR : Addr} {many : Nat} {tm : Tok} {lst : List Int} {kvs kv0 : List (Int × Value)} {m : Nat} {rn : Int} {tk rk hk fk : List (Str × Value)} {rd hd fd ord : Addr} {n0 n1 n2 n3 : List Int} {base : Str} {rows : Rws} {k : Nat} {v0 v1 v2 v3 v4 v5 v6 v7 v8 ow : Option Value} {fa sd : Addr} {b : Bool} {fu : List Value} {cP cL : Cell} {rest : List Cell} {Q : Flow → Shared → Prop} : law22_E.eS prog w A σ s p mg mb env ct cm cs cl cst cn f pl sh TB TR many tm lst kvs kv0 m rn tk rk hk fk rd hd fd ord n0 n1 n2 n3 base rows k v0 v1 v2 v3 v4 v5 v6 v7 v8 ow fa sd b fu cP cL rest Q :=
  law22_E.all (prog, w, A, σ, s, p, mg, mb, env, ct, cm, cs, cl, cst, cn, f, pl, sh, TB, TR, many, tm, lst, kvs, kv0, m, rn, tk, rk, hk, fk, rd, hd, fd, ord, n0, n1, n2, n3, base, rows, k, v0, v1, v2, v3, v4, v5, v6, v7, v8, ow, fa, sd, b, fu, cP, cL, rest, Q)
section
end
noncomputable def sfun (b : Bool) (ons offs : List Int) (n : Int) : Bool := if offs.any (· == n) then false else if ons.any (· == n) then true else b
theorem start_sfun {b : Bool} {ons offs lst : List Int} (hnd : lst.Nodup) : startS b lst (ddp ons) (ddp offs) = boolD lst (sfun b ons offs) := by
  rw [startS_eq hnd]
  exact boolD_congr fun n _ => by unfold sfun; rw [ddp_any, ddp_any]
theorem any_ne {l : List Int} {k : Int} (h : ∀ n ∈ l, n ≠ k) : l.any (· == k) = false := by
  rw [List.any_eq_false]
  intro a ha e
  exact h a ha (by simpa using e)
theorem states_new {base : Str} {lst ons offs : List Int} {k : Int} (hb : base = "ON" ∨ base = "OFF") (h1 : ∀ n ∈ lst, n ≠ k) (h2 : ∀ n ∈ offs, n ≠ k) :
    stored (boolD lst (sfun (base != "OFF") ons offs)) k (.bool true) = boolD (lst ++ [k]) (sfun (base != "OFF") (if base = "ON" then ons else ons ++ [k]) offs) := by
  have e1 : ∀ n ∈ lst, sfun (base != "OFF") ons offs n = sfun (base != "OFF") (if base = "ON" then ons else ons ++ [k]) offs n := fun n hn => by
    unfold sfun
    have : (if base = "ON" then ons else ons ++ [k]).any (· == n) = ons.any (· == n) := by
      split
      · rfl
      · rw [List.any_append]
        have : (k == n) = false := by simpa using fun e => h1 n hn (by rw [e])
        simp [this]
    rw [this]
  rw [boolD_congr e1]
  refine boolD_snoc (fun hm => h1 k hm rfl) ?_
  unfold sfun
  rw [any_ne h2]
  rcases hb with rfl | rfl
  · rw [if_pos rfl, show (Str.ofString "ON" != Str.ofString "OFF") = true from by decide]
    simp
  · rw [if_neg (by decide : ¬ (Str.ofString "OFF" = Str.ofString "ON"))]
    simp
section
variable {prog : Program} {w : World} {A : Around} {E : Value → Shared → Prop} {σ s : Shared} {p : Heap} {mu mu' : List Cell} {mg mb : Str → Option Value} {env : Env}
variable {ct cm cs cl cst cn f pl sh TB TR : Addr} {many : Nat} {tm : Tok} {lst : List Int}
theorem r_ne_bytes {b c : Array UInt8} {t u : Tok} {Q : Value → Shared → Prop} (h : Q (.bool (b.toList != c.toList)) s) : wpAny (model prog w) A (compareOp .NotEq (.bytes b t) (.bytes c u)) Q E s := ne_bytes h
structure TI (prog : Program) (w : World) (p : Heap) (sh TB TR la sd rw : Addr) (many : Nat) (kvs kv0 : List (Int × Value)) (m : Nat) (rn : Int) (tk : List (Str × Value)) (lst ons offs lks rbs : List Int) (base : Str) (rows : Rws) (us rvs : List Value) : Prop where
  D : ∃ rk hk fk rd hd fd ord, DS prog w p [(TB, DcP (intKind prog w) kvs), (TR, DcP (strKind prog w) tk)] sh TB TR kvs kv0 m rn tk rk hk fk rd hd fd ord lst ons offs lks rbs base rows
  la : Pt p la (LsP us)
  us : IntsAre us lst
  nd : lst.Nodup
  rw : Pt p rw (LsP rvs)
  ra : RowsAt p rvs rows
  rz : rows.length ≤ 300
  lab : ∀ n : Int, 1 ≤ n → n ≤ many → LabAt prog w p kv0 n (labO n)
  mm : many ≤ m
theorem TI.mono {p' : Heap} {sh TB TR la sd rw : Addr} {many : Nat} {kvs kv0 : List (Int × Value)} {m : Nat} {rn : Int} {tk : List (Str × Value)} {lst ons offs lks rbs : List Int} {base : Str} {rows : Rws} {us rvs : List Value} (X : TI prog w p sh TB TR la sd rw many kvs kv0 m rn tk lst ons offs lks rbs base rows us rvs) (l : Le p p') :
    TI prog w p' sh TB TR la sd rw many kvs kv0 m rn tk lst ons offs lks rbs base rows us rvs :=
  ⟨let ⟨a, b, c, d, e, f, g, D⟩ := X.D; ⟨a, b, c, d, e, f, g, D.mono l⟩, X.la.mono l, X.us, X.nd, X.rw.mono l, X.ra.mono l, X.rz, fun n h1 h2 => (X.lab n h1 h2).mono l, X.mm⟩
end
namespace law23_E
noncomputable section
def eS (prog : Program) (w : World) (A : Around) (σ s : Shared) (p : Heap) (mg mb : Str → Option Value) (env : Env) (ct cm cs cl cst cn f pl sh TB TR : Addr) (many : Nat) (tm : Tok) (lst : List Int) (k m : Nat) (kvs kv0 : List (Int × Value)) (rn : Int) (tk : List (Str × Value)) (ons offs lks rbs : List Int) (base : Str) (rows : Rws) (v0 v1 v2 v3 v5 v6 v7 v8 v9 v10 v11 v12 v13 : Option Value) (la sd rw : Addr) (us rvs : List Value) (rest : List Cell) (Q : Flow → Shared → Prop) : Prop := ∀ (L : LE env ct cm cs cl cst cn) (Z : LC prog w mg mb p ct cm cs f pl sh TB TR many tm) (R : Rm A (k + 60)) (los : (sd == sysModules) = false) (hm : m ≤ 45) (hrows : rows.length ≤ 200) (X : TI prog w p sh TB TR la sd rw many kvs kv0 m rn tk lst ons offs lks rbs base rows us rvs) (H : St σ p ((env.locals, FrameP env (lfs v0 v1 v2 v3 (some (.ref rw)) v5 v6 v7 v8 v9 v10 v11 v12 v13)) :: (sd, DcP (intKind prog w) (boolD lst (sfun (base != "OFF") ons offs))) :: (TB, DcP (intKind prog w) kvs) :: (TR, DcP (strKind prog w) tk) :: (pl, PlP 343) :: (cl, CellP (some (.ref la))) :: (cst, CellP (some (.ref sd))) :: rest) s) (h : ∀ m kvs kv0 lst ons rows la rw us rvs v4 v5 v11 v12 v13 p' s', Le p p' → TI prog w p' sh TB TR la sd rw many kvs kv0 m rn tk lst ons offs lks rbs base rows us rvs →
      St σ p' ((env.locals, FrameP env (lfs v0 v1 v2 v3 v4 v5 v6 v7 v8 v9 v10 v11 v12 v13)) :: (sd, DcP (intKind prog w) (boolD lst (sfun (base != "OFF") ons offs))) :: (TB, DcP (intKind prog w) kvs) :: (TR, DcP (strKind prog w) tk) :: (pl, PlP 344) :: (cl, CellP (some (.ref la))) :: (cst, CellP (some (.ref sd))) :: rest) s' →
      wpAny (model prog w) A (execs (lawB 24) env) Q NE s'), wpAny (model prog w) A (execs (lawB 23) env) Q NE s
abbrev eT := (Program) × (World) × (Around) × (Shared) × (Shared) × (Heap) × (Str → Option Value) × (Str → Option Value) × (Env) × (Addr) × (Addr) × (Addr) × (Addr) × (Addr) × (Addr) × (Addr) × (Addr) × (Addr) × (Addr) × (Addr) × (Nat) × (Tok) × (List Int) × (Nat) × (Nat) × (List (Int × Value)) × (List (Int × Value)) × (Int) × (List (Str × Value)) × (List Int) × (List Int) × (List Int) × (List Int) × (Str) × (Rws) × (Option Value) × (Option Value) × (Option Value) × (Option Value) × (Option Value) × (Option Value) × (Option Value) × (Option Value) × (Option Value) × (Option Value) × (Option Value) × (Option Value) × (Option Value) × (Addr) × (Addr) × (Addr) × (List Value) × (List Value) × (List Cell) × (Flow → Shared → Prop)
def eg1 (x : eT) := x.2.2.2.2.2.2.2.2
def eg2 (x : eT) := (eg1 x).2.2.2.2.2.2.2.2
def eg3 (x : eT) := (eg2 x).2.2.2.2.2.2.2.2
def eg4 (x : eT) := (eg3 x).2.2.2.2.2.2.2.2
def eg5 (x : eT) := (eg4 x).2.2.2.2.2.2.2.2
def eg6 (x : eT) := (eg5 x).2.2.2.2.2.2.2.2
def eP (x : eT) : Prop := eS x.1 x.2.1 x.2.2.1 x.2.2.2.1 x.2.2.2.2.1 x.2.2.2.2.2.1 x.2.2.2.2.2.2.1 x.2.2.2.2.2.2.2.1 (eg1 x).1 (eg1 x).2.1 (eg1 x).2.2.1 (eg1 x).2.2.2.1 (eg1 x).2.2.2.2.1 (eg1 x).2.2.2.2.2.1 (eg1 x).2.2.2.2.2.2.1 (eg1 x).2.2.2.2.2.2.2.1 (eg2 x).1 (eg2 x).2.1 (eg2 x).2.2.1 (eg2 x).2.2.2.1 (eg2 x).2.2.2.2.1 (eg2 x).2.2.2.2.2.1 (eg2 x).2.2.2.2.2.2.1 (eg2 x).2.2.2.2.2.2.2.1 (eg3 x).1 (eg3 x).2.1 (eg3 x).2.2.1 (eg3 x).2.2.2.1 (eg3 x).2.2.2.2.1 (eg3 x).2.2.2.2.2.1 (eg3 x).2.2.2.2.2.2.1 (eg3 x).2.2.2.2.2.2.2.1 (eg4 x).1 (eg4 x).2.1 (eg4 x).2.2.1 (eg4 x).2.2.2.1 (eg4 x).2.2.2.2.1 (eg4 x).2.2.2.2.2.1 (eg4 x).2.2.2.2.2.2.1 (eg4 x).2.2.2.2.2.2.2.1 (eg5 x).1 (eg5 x).2.1 (eg5 x).2.2.1 (eg5 x).2.2.2.1 (eg5 x).2.2.2.2.1 (eg5 x).2.2.2.2.2.1 (eg5 x).2.2.2.2.2.2.1 (eg5 x).2.2.2.2.2.2.2.1 (eg6 x).1 (eg6 x).2.1 (eg6 x).2.2.1 (eg6 x).2.2.2.1 (eg6 x).2.2.2.2.1 (eg6 x).2.2.2.2.2.1 (eg6 x).2.2.2.2.2.2
noncomputable def ec : eT := @Classical.epsilon eT ⟨(default, dW, dA, dS, dS, default, default, default, default, default, default, default, default, default, default, default, default, default, default, default, default, default, default, default, default, default, default, default, default, default, default, default, default, default, default, default, default, default, default, default, default, default, default, default, default, default, default, default, default, default, default, default, default, default, default)⟩ fun x => ¬ eP x
@[irreducible] def prog := ec.1
@[irreducible] def w := ec.2.1
@[irreducible] def A := ec.2.2.1
@[irreducible] def σ := ec.2.2.2.1
@[irreducible] def s := ec.2.2.2.2.1
@[irreducible] def p := ec.2.2.2.2.2.1
@[irreducible] def mg := ec.2.2.2.2.2.2.1
@[irreducible] def mb := ec.2.2.2.2.2.2.2.1
@[irreducible] def env := (eg1 ec).1
@[irreducible] def ct := (eg1 ec).2.1
@[irreducible] def cm := (eg1 ec).2.2.1
@[irreducible] def cs := (eg1 ec).2.2.2.1
@[irreducible] def cl := (eg1 ec).2.2.2.2.1
@[irreducible] def cst := (eg1 ec).2.2.2.2.2.1
@[irreducible] def cn := (eg1 ec).2.2.2.2.2.2.1
@[irreducible] def f := (eg1 ec).2.2.2.2.2.2.2.1
@[irreducible] def pl := (eg2 ec).1
@[irreducible] def sh := (eg2 ec).2.1
@[irreducible] def TB := (eg2 ec).2.2.1
@[irreducible] def TR := (eg2 ec).2.2.2.1
@[irreducible] def many := (eg2 ec).2.2.2.2.1
@[irreducible] def tm := (eg2 ec).2.2.2.2.2.1
@[irreducible] def lst := (eg2 ec).2.2.2.2.2.2.1
@[irreducible] def k := (eg2 ec).2.2.2.2.2.2.2.1
@[irreducible] def m := (eg3 ec).1
@[irreducible] def kvs := (eg3 ec).2.1
@[irreducible] def kv0 := (eg3 ec).2.2.1
@[irreducible] def rn := (eg3 ec).2.2.2.1
@[irreducible] def tk := (eg3 ec).2.2.2.2.1
@[irreducible] def ons := (eg3 ec).2.2.2.2.2.1
@[irreducible] def offs := (eg3 ec).2.2.2.2.2.2.1
@[irreducible] def lks := (eg3 ec).2.2.2.2.2.2.2.1
@[irreducible] def rbs := (eg4 ec).1
@[irreducible] def base := (eg4 ec).2.1
@[irreducible] def rows := (eg4 ec).2.2.1
@[irreducible] def v0 := (eg4 ec).2.2.2.1
@[irreducible] def v1 := (eg4 ec).2.2.2.2.1
@[irreducible] def v2 := (eg4 ec).2.2.2.2.2.1
@[irreducible] def v3 := (eg4 ec).2.2.2.2.2.2.1
@[irreducible] def v5 := (eg4 ec).2.2.2.2.2.2.2.1
@[irreducible] def v6 := (eg5 ec).1
@[irreducible] def v7 := (eg5 ec).2.1
@[irreducible] def v8 := (eg5 ec).2.2.1
@[irreducible] def v9 := (eg5 ec).2.2.2.1
@[irreducible] def v10 := (eg5 ec).2.2.2.2.1
@[irreducible] def v11 := (eg5 ec).2.2.2.2.2.1
@[irreducible] def v12 := (eg5 ec).2.2.2.2.2.2.1
@[irreducible] def v13 := (eg5 ec).2.2.2.2.2.2.2.1
@[irreducible] def la := (eg6 ec).1
@[irreducible] def sd := (eg6 ec).2.1
@[irreducible] def rw := (eg6 ec).2.2.1
@[irreducible] def us := (eg6 ec).2.2.2.1
@[irreducible] def rvs := (eg6 ec).2.2.2.2.1
@[irreducible] def rest := (eg6 ec).2.2.2.2.2.1
@[irreducible] def Q := (eg6 ec).2.2.2.2.2.2
end
set_option maxHeartbeats 8000000 in
theorem main : eS prog w A σ s p mg mb env ct cm cs cl cst cn f pl sh TB TR many tm lst k m kvs kv0 rn tk ons offs lks rbs base rows v0 v1 v2 v3 v5 v6 v7 v8 v9 v10 v11 v12 v13 la sd rw us rvs rest Q := by
  intro  L Z R los hm hrows X H h
  have he := L.he
  have hs := L.hs
  refine LC.el Z ?_
  intro T I TK hct hcm hcs lo loR ne m4
  have G_range := gnl hs (by kernel_rfl) (gl_grange T)
  have G_bytes := gnl hs (by kernel_rfl) (gl_gbytes T)
  have G_put_group := gnl hs (by kernel_rfl) (gl_gput_group T)
  have G_configuration := gnl hs (by kernel_rfl) (gl_gconfiguration T)
  have G_group_numbers := gnl hs (by kernel_rfl) (gl_ggroup_numbers T)
  have G_group_label := gnl hs (by kernel_rfl) (gl_ggroup_label T)
  have G_order_rows := gnl hs (by kernel_rfl) (gl_gorder_rows T)
  have G_starting_states := gnl hs (by kernel_rfl) (gl_gstarting_states T)
  have xs := L.xs.cn he
  have xt := L.xt.cn he
  have xst := L.xst.cn he
  have xl := L.xl.cn he
  refine x_for ?_
  walk_at "g"
  refine c_take T ‹_› R TK (.tail (.tail (.tail (.tail .head)))) (by omega) (by decide) ?_
  intro v3' t3 s4 h30 h33 H
  walk_at "g"
  refine r_range1 ‹_› ?_
  intro rg p2 s5 l2 hrg H
  refine for_go (I := fun i p' fs' mu' => ∀ C : List (Str × Option Value) → List Cell → Prop, (∀ m kvs kv0 lst ons rows la rw us rvs v5 v11 v12 v13, Le p p' → m ≤ 45 + i → TI prog w p' sh TB TR la sd rw many kvs kv0 m rn tk lst ons offs lks rbs base rows us rvs → rows.length ≤ 290 + i → C (lfs v0 v1 v2 v3 (some (.ref rw)) v5 v6 v7 v8 v9 v10 v11 v12 v13) ((sd, DcP (intKind prog w) (boolD lst (sfun (base != "OFF") ons offs))) :: (TB, DcP (intKind prog w) kvs) :: (TR, DcP (strKind prog w) tk) :: (pl, PlP 344) :: (cl, CellP (some (.ref la))) :: (cst, CellP (some (.ref sd))) :: rest)) → C fs' mu') R.h (itb_range hrg (by decide) (by omega)) ‹_› ?_ ?_ ?_
  · exact (fun _ K => K m kvs kv0 lst ons rows la rw us rvs _ _ _ _ l2 hm (X.mono l2) (by omega))
  · intro i p3 fs3 mu3 c v s6 hi l3 J hv
    apply J
    clear J
    intro m kvs kv0 lst ons rows la rw us rvs v5 v11 v12 v13 l03 hm X hrz
    apply ex_el hv
    clear hv
    intro tv
    intro H
    have hi3 : i < 3 := by omega
    have Z := Z.mono l03
    refine LC.el6 Z ?_
    intro T I TK hct hcm hcs
    obtain ⟨rk, hk, fk, rd, hd, fd, ord, D⟩ := X.D
    walk_at "g"
    refine r_newList ‹_› (Nat.le_of_ble_eq_true rfl) ?_
    intro bl s7 H
    walk_at "g"
    refine r_bytes1 H (rd_m H (.head _)) (.cons _ _ .nil) (fun n hn => by rw [List.mem_singleton.mp hn]; omega) (Nat.le_of_ble_eq_true rfl) R.h ?_
    intro tb s8 H
    generalize byteArr [70 + (0 + (i : Int))] = o at *
    have H := H.drop
    walk_at "g"
    refine put_group (k := k + 50) (f := fun kvs => (env.locals, FrameP env _) :: c :: (sd, DcP (intKind prog w) (boolD lst (sfun (base != "OFF") ons offs))) :: (TB, DcP (intKind prog w) kvs) :: (TR, DcP (strKind prog w) tk) :: (pl, PlP 344) :: (cl, CellP (some (.ref la))) :: (cst, CellP (some (.ref sd))) :: rest)
      (D.mv (.tail _ (.tail _ (.tail _ (.head _)))) (.tail _ (.tail _ (.tail _ (.tail _ (.head _)))))) T ‹_› R (by omega) (fun y x => .tail (.tail (.tail .head))) ?_
    intro v p9 s9 kvs1 kv1 rk1 hk1 fk1 rd1 hd1 fd1 ord1 l9 hv k01 lab1 D1 H
    obtain ⟨pa, tp, tg, rfl, hpa⟩ := hv
    have Z := Z.mono l9
    refine LC.el6 Z ?_
    intro T I TK hct hcm hcs
    have hla := X.la.mono l9
    have hrw := X.rw.mono l9
    have ra := X.ra.mono l9
    have hnb : ∀ n ∈ lst, n ≠ (m : Int) + 1 := fun n hn => by have := D.nb n (.inl hn); omega
    have hnd1 : (lst ++ [(m : Int) + 1]).Nodup := by
      rw [List.nodup_append]
      exact ⟨X.nd, by simp, fun a ha b hb e => hnb a ha (by rw [e, List.mem_singleton.mp hb])⟩
    walk_at "g"
    refine r_newList ‹_› (Nat.le_of_ble_eq_true rfl) ?_
    intro e1 s10 H
    have zl : us.length ≤ 200 := by rw [X.us.length]; have := D.lz; have := D.mz; omega
    refine r_ladd H (rd_p H hla) (rd_m H (.head _)) (Nat.le_trans (show us.length + 1 ≤ 201 by omega) (Nat.le_of_ble_eq_true rfl)) ?_
    intro la1 s11 H
    refine St.fz (H.drop2) ?_
    intro p11 l11 hla1 H
    have Z := Z.mono l11
    refine LC.el6 Z ?_
    intro T I TK hct hcm hcs
    have D1 := D1.mono l11
    have hpa := hpa.mono l11
    have lab1 := lab1.mono l11
    have hrw := hrw.mono l11
    have ra := ra.mono l11
    refine st_cell he.kind L.xl.k L.xl.l ‹_› (.tail (.tail (.tail (.tail (.tail (.tail .head)))))) ?_
    intro s12 H
    walk_at "g"
    refine r_newTuple ‹_› (Nat.le_of_ble_eq_true rfl) ?_
    intro t5 p13 s13 l13 ht5 H
    have Z := Z.mono l13
    refine LC.el6 Z ?_
    intro T I TK hct hcm hcs
    walk_at "g"
    refine r_newList ‹_› (Nat.le_of_ble_eq_true rfl) ?_
    intro e2 s14 H
    have zr : rvs.length ≤ 293 := by rw [X.ra.length]; omega
    refine r_ladd H (rd_p H (hrw.mono l13)) (rd_m H (.head _)) (Nat.le_trans (show rvs.length + 1 ≤ 300 by omega) (Nat.le_of_ble_eq_true rfl)) ?_
    intro rw1 s15 H
    refine St.fz (H.drop2) ?_
    intro p15 l15 hrw1 H
    have Z := Z.mono l15
    refine LC.el6 Z ?_
    intro T I TK hct hcm hcs
    have l1115 := l13.trans l15
    have D1 := D1.mono l1115
    have hpa := hpa.mono l1115
    have lab1 := lab1.mono l1115
    have hla1 := hla1.mono l1115
    have ra1 : RowsAt p15 (rvs ++ [.ref t5]) (rows ++ [(0, .grp ((m : Int) + 1))]) := (ra.mono l1115).append (.cons (.grp (l15 _ _ ht5)) .nil)
    have us1 : IntsAre (us ++ [.int ((m : Int) + 1) tp]) (lst ++ [(m : Int) + 1]) := ints_snoc X.us _ _
    walk_at "g"
    have zs : (boolD lst (sfun (base != "OFF") ons offs)).length ≤ sizeLine := by
      refine Nat.le_trans ?_ (Nat.le_of_ble_eq_true rfl : 200 ≤ sizeLine)
      unfold boolD
      rw [List.length_map, ← X.us.length]
      exact zl
    refine r_dset (kvs := boolD lst (sfun (base != "OFF") ons offs)) ‹_› (.tail (.tail .head)) ik zs ?_
    intro s16 H
    rw [states_new D.bs hnb (fun n hn => by have := D.nb n (.inr (.inr (.inl hn))); omega)] at H
    have D0 := D1.mv (mu' := [(TB, DcP (intKind prog w) kvs1), (TR, DcP (strKind prog w) tk)]) (.head _) (.tail _ (.head _))
    clear D1
    walk_at "g"
    refine' Sf.configuration ?S T ‹_› R ?Dc D0.dv (D0.cf.ext D0.k0) ?_
    case S => exact (D0.mv (by walk_at "mem") (by walk_at "mem")).s
    case Dc => exact (D0.mv (by walk_at "mem") (by walk_at "mem")).doc
    intro cf p17 s17 l17 hcf H
    have Z := Z.mono l17
    refine LC.el6 Z ?_
    intro T I TK hct hcm hcs
    have D0 := D0.mono l17
    have hpa := hpa.mono l17
    have hla1 := hla1.mono l17
    have lab1 := lab1.mono l17
    obtain ⟨gl, gvs, gl1, gl2, gl3⟩ := D0.gl
    walk_at "g"
    refine or_cons ?_
    walk_at "g"
    refine' Sf.group_numbers ?S T ‹_› R ?Dc gl1 gl2 (gl3.ext D0.k0) (Nat.le_trans D0.lz (by have := D0.mz; omega)) ?_
    case S => exact (D0.mv (by walk_at "mem") (by walk_at "mem")).s
    case Dc => exact (D0.mv (by walk_at "mem") (by walk_at "mem")).doc
    intro kn knu s18 hkn H
    rw [ddp_id hnd1] at hkn
    have H := H.swap
    walk_at "g"
    refine r_ints_ne (rd_m ‹_› (.tail _ (.head _))) (rd_p ‹_› hla1) hkn us1 R.cl ?_
    have H4 := (St.drop2 ‹St σ p17 _ _›)
    clear H
    have H := H4
    clear H4
    refine r_tb (ite_f ?_)
    refine or_cons ?_
    walk_at "g"
    obtain ⟨qa, qu, gd, kv, gnm, gst, gt, q1, q2, q3, q4, q5, q6, q7⟩ := id lab1
    refine' Sf.group_label ?S T ‹_› R (D0.k0 _ _ q1) q2 q3 q6 q7 rfl ?_
    case S => exact (D0.mv (by walk_at "mem") (by walk_at "mem")).s
    intro s19 H
    walk_at "g"
    refine r_ne_bytes ?_
    rw [bne_self_eq_false]
    refine r_tb (ite_f ?_)
    refine or_cons ?_
    obtain ⟨bt, onv, ofv, rad, rr, lk, wd, C, -⟩ := hcf.ex
    walk_at "g"
    obtain ⟨ovs, kt, hh, od1, od2, od3, od4⟩ := D0.od
    refine' Sf.order_rows (k := kt) ?S T ‹_› (R.less (by omega)) od1 (od3.ext D0.k0) (D0.kout 90 (by omega)) (by omega) (by rw [List.length_append]; simp; omega) ?_
    case S => exact (D0.mv (by walk_at "mem") (by walk_at "mem")).s
    intro D5 us5 p20 s20 l20 hus5 H
    have Z := Z.mono l20
    refine LC.el6 Z ?_
    intro T I TK hct hcm hcs
    have H := H.swap
    walk_at "g"
    have l1520 := l17.trans l20
    refine r_rows_ne ‹_› R (rd_m ‹_› (.tail _ (.head _))) (rd_p ‹_› (hrw1.mono l1520)) hus5 (ra1.mono l1520) ?_
    have H4 := (St.drop2 ‹St σ p20 _ _›)
    clear H
    have H := H4
    clear H4
    refine r_tb (ite_f ?_)
    refine or_nil ?_
    refine ite_f (x_nil ?_)
    have hla2 := hla1.mono l20
    walk_at "g"
    refine starting T ‹_› R hla2 us1 (hcf.mono l20) D0.bs (Nat.le_trans D0.lz (by have := D0.mz; omega)) (Nat.le_trans D0.oz (by have := D0.mz; omega)) (Nat.le_trans D0.zz.1 (by omega)) ?_
    intro sd2 s21 los2 H
    rw [start_sfun hnd1] at H
    have H := H.swap
    walk_at "g"
    refine r_boolD_ne (rd_m ‹_› (.tail _ (.head _))) (rd_m ‹_› (.tail _ (.tail _ (.tail _ (.head _))))) los2 los (fun _ _ => rfl) R.cl ?_
    have H4 := (St.drop2 ‹St σ p20 _ _›)
    clear H
    have H := H4
    clear H4
    refine r_tb (ite_f (x_nil (x_nil ?_)))
    have l320 := l9.trans (l11.trans (l1115.trans l1520))
    refine turn_of l320 (fun _ K => K (m + 1) kvs1 kv1 _ _ _ la1 rw1 _ _ _ _ _ _ (l03.trans l320) (by omega) ⟨⟨rk1, hk1, fk1, rd1, hd1, fd1, ord1, D0.mono l20⟩, hla2, us1, hnd1, hrw1.mono l1520, ra1.mono l1520, by rw [List.length_append]; simp; omega, fun n h1 h2 => ((X.lab n h1 h2).mono l320).ext k01, by have := X.mm; omega⟩ (by rw [List.length_append]; simp; omega)) H
  · intro p3 fs3 mu3 s6 l3 J
    apply J
    clear J
    intro m kvs kv0 lst ons rows la rw us rvs v5 v11 v12 v13 l03 hm X hrz
    intro H
    exact h m kvs kv0 lst ons rows la rw us rvs _ v5 v11 v12 v13 p3 s6 l03 X H
theorem all (x : eT) : eP x := eps (show eP ec by with_unfolding_all exact main) x
end law23_E
theorem law23 {prog : Program} {w : World} {A : Around} {σ s : Shared} {p : Heap} {mg mb : Str → Option Value} {env : Env} {ct cm cs cl cst cn f pl sh TB TR : Addr} {many : Nat} {tm : Tok} {lst : List Int} {k m : Nat} {kvs kv0 : List (Int × Value)} {rn : Int} {tk : List (Str × Value)} {ons offs lks rbs : List Int} {base : Str} {rows : Rws} {v0 v1 v2 v3 v5 v6 v7 v8 v9 v10 v11 v12 v13 : Option Value} {la sd rw : Addr} {us rvs : List Value} {rest : List Cell} {Q : Flow → Shared → Prop} : law23_E.eS prog w A σ s p mg mb env ct cm cs cl cst cn f pl sh TB TR many tm lst k m kvs kv0 rn tk ons offs lks rbs base rows v0 v1 v2 v3 v5 v6 v7 v8 v9 v10 v11 v12 v13 la sd rw us rvs rest Q :=
  law23_E.all (prog, w, A, σ, s, p, mg, mb, env, ct, cm, cs, cl, cst, cn, f, pl, sh, TB, TR, many, tm, lst, k, m, kvs, kv0, rn, tk, ons, offs, lks, rbs, base, rows, v0, v1, v2, v3, v5, v6, v7, v8, v9, v10, v11, v12, v13, la, sd, rw, us, rvs, rest, Q)
section
end
noncomputable def BysL (vs : List Value) : Prop := ∀ (i : Nat) v, vs[i]? = some v → ∃ t, v = .bytes (labO (1 + (i : Int))) t
theorem BysL.nil : BysL [] := fun i v h => by cases h
theorem BysL.snoc {vs : List Value} (h : BysL vs) (t : Tok) : BysL (vs ++ [.bytes (labO (1 + (vs.length : Int))) t]) := fun i v e => by
  rcases Nat.lt_or_ge i vs.length with hlt | hge
  · rw [List.getElem?_append_left hlt] at e
    exact h i v e
  · rw [List.getElem?_append_right hge] at e
    cases hi : i - vs.length with
    | zero =>
      rw [hi] at e
      cases e
      have : i = vs.length := by omega
      exact ⟨t, by rw [this]⟩
    | succ j => rw [hi] at e; cases e
section
variable {prog : Program} {w : World} {A : Around} {E : Value → Shared → Prop} {σ s : Shared} {p : Heap} {mu mu' : List Cell} {mg mb : Str → Option Value} {env : Env}
variable {ct cm cs cl cst cn f pl sh TB TR : Addr} {many : Nat} {tm : Tok} {lst : List Int}
end
namespace law24_E
noncomputable section
def eS (prog : Program) (w : World) (A : Around) (σ s : Shared) (p : Heap) (mg mb : Str → Option Value) (env : Env) (ct cm cs cl cst cn f pl sh TB TR : Addr) (many : Nat) (tm : Tok) (lst : List Int) (k m : Nat) (kvs kv0 : List (Int × Value)) (rn : Int) (tk : List (Str × Value)) (ons offs lks rbs : List Int) (base : Str) (rows : Rws) (la sd rw : Addr) (us rvs : List Value) (fs : List (Str × Option Value)) (cS cP : Cell) (rest : List Cell) (Q : Flow → Shared → Prop) : Prop := ∀ (L : LE env ct cm cs cl cst cn) (Z : LC prog w mg mb p ct cm cs f pl sh TB TR many tm) (R : Rm A (k + 60)) (X : TI prog w p sh TB TR la sd rw many kvs kv0 m rn tk lst ons offs lks rbs base rows us rvs) (H : St σ p ((env.locals, FrameP env fs) :: cS :: (TB, DcP (intKind prog w) kvs) :: (TR, DcP (strKind prog w) tk) :: cP :: rest) s) (h : ∀ p' s', Le p p' → St σ p' ((env.locals, FrameP env fs) :: cS :: (TB, DcP (intKind prog w) kvs) :: (TR, DcP (strKind prog w) tk) :: cP :: rest) s' → Q (.ret (.bool true)) s'), wpAny (model prog w) A (execs (lawB 24) env) Q NE s
abbrev eT := (Program) × (World) × (Around) × (Shared) × (Shared) × (Heap) × (Str → Option Value) × (Str → Option Value) × (Env) × (Addr) × (Addr) × (Addr) × (Addr) × (Addr) × (Addr) × (Addr) × (Addr) × (Addr) × (Addr) × (Addr) × (Nat) × (Tok) × (List Int) × (Nat) × (Nat) × (List (Int × Value)) × (List (Int × Value)) × (Int) × (List (Str × Value)) × (List Int) × (List Int) × (List Int) × (List Int) × (Str) × (Rws) × (Addr) × (Addr) × (Addr) × (List Value) × (List Value) × (List (Str × Option Value)) × (Cell) × (Cell) × (List Cell) × (Flow → Shared → Prop)
def eg1 (x : eT) := x.2.2.2.2.2.2.2.2
def eg2 (x : eT) := (eg1 x).2.2.2.2.2.2.2.2
def eg3 (x : eT) := (eg2 x).2.2.2.2.2.2.2.2
def eg4 (x : eT) := (eg3 x).2.2.2.2.2.2.2.2
def eg5 (x : eT) := (eg4 x).2.2.2.2.2.2.2.2
def eP (x : eT) : Prop := eS x.1 x.2.1 x.2.2.1 x.2.2.2.1 x.2.2.2.2.1 x.2.2.2.2.2.1 x.2.2.2.2.2.2.1 x.2.2.2.2.2.2.2.1 (eg1 x).1 (eg1 x).2.1 (eg1 x).2.2.1 (eg1 x).2.2.2.1 (eg1 x).2.2.2.2.1 (eg1 x).2.2.2.2.2.1 (eg1 x).2.2.2.2.2.2.1 (eg1 x).2.2.2.2.2.2.2.1 (eg2 x).1 (eg2 x).2.1 (eg2 x).2.2.1 (eg2 x).2.2.2.1 (eg2 x).2.2.2.2.1 (eg2 x).2.2.2.2.2.1 (eg2 x).2.2.2.2.2.2.1 (eg2 x).2.2.2.2.2.2.2.1 (eg3 x).1 (eg3 x).2.1 (eg3 x).2.2.1 (eg3 x).2.2.2.1 (eg3 x).2.2.2.2.1 (eg3 x).2.2.2.2.2.1 (eg3 x).2.2.2.2.2.2.1 (eg3 x).2.2.2.2.2.2.2.1 (eg4 x).1 (eg4 x).2.1 (eg4 x).2.2.1 (eg4 x).2.2.2.1 (eg4 x).2.2.2.2.1 (eg4 x).2.2.2.2.2.1 (eg4 x).2.2.2.2.2.2.1 (eg4 x).2.2.2.2.2.2.2.1 (eg5 x).1 (eg5 x).2.1 (eg5 x).2.2.1 (eg5 x).2.2.2.1 (eg5 x).2.2.2.2
noncomputable def ec : eT := @Classical.epsilon eT ⟨(default, dW, dA, dS, dS, default, default, default, default, default, default, default, default, default, default, default, default, default, default, default, default, default, default, default, default, default, default, default, default, default, default, default, default, default, default, default, default, default, default, default, default, default, default, default, default)⟩ fun x => ¬ eP x
@[irreducible] def prog := ec.1
@[irreducible] def w := ec.2.1
@[irreducible] def A := ec.2.2.1
@[irreducible] def σ := ec.2.2.2.1
@[irreducible] def s := ec.2.2.2.2.1
@[irreducible] def p := ec.2.2.2.2.2.1
@[irreducible] def mg := ec.2.2.2.2.2.2.1
@[irreducible] def mb := ec.2.2.2.2.2.2.2.1
@[irreducible] def env := (eg1 ec).1
@[irreducible] def ct := (eg1 ec).2.1
@[irreducible] def cm := (eg1 ec).2.2.1
@[irreducible] def cs := (eg1 ec).2.2.2.1
@[irreducible] def cl := (eg1 ec).2.2.2.2.1
@[irreducible] def cst := (eg1 ec).2.2.2.2.2.1
@[irreducible] def cn := (eg1 ec).2.2.2.2.2.2.1
@[irreducible] def f := (eg1 ec).2.2.2.2.2.2.2.1
@[irreducible] def pl := (eg2 ec).1
@[irreducible] def sh := (eg2 ec).2.1
@[irreducible] def TB := (eg2 ec).2.2.1
@[irreducible] def TR := (eg2 ec).2.2.2.1
@[irreducible] def many := (eg2 ec).2.2.2.2.1
@[irreducible] def tm := (eg2 ec).2.2.2.2.2.1
@[irreducible] def lst := (eg2 ec).2.2.2.2.2.2.1
@[irreducible] def k := (eg2 ec).2.2.2.2.2.2.2.1
@[irreducible] def m := (eg3 ec).1
@[irreducible] def kvs := (eg3 ec).2.1
@[irreducible] def kv0 := (eg3 ec).2.2.1
@[irreducible] def rn := (eg3 ec).2.2.2.1
@[irreducible] def tk := (eg3 ec).2.2.2.2.1
@[irreducible] def ons := (eg3 ec).2.2.2.2.2.1
@[irreducible] def offs := (eg3 ec).2.2.2.2.2.2.1
@[irreducible] def lks := (eg3 ec).2.2.2.2.2.2.2.1
@[irreducible] def rbs := (eg4 ec).1
@[irreducible] def base := (eg4 ec).2.1
@[irreducible] def rows := (eg4 ec).2.2.1
@[irreducible] def la := (eg4 ec).2.2.2.1
@[irreducible] def sd := (eg4 ec).2.2.2.2.1
@[irreducible] def rw := (eg4 ec).2.2.2.2.2.1
@[irreducible] def us := (eg4 ec).2.2.2.2.2.2.1
@[irreducible] def rvs := (eg4 ec).2.2.2.2.2.2.2.1
@[irreducible] def fs := (eg5 ec).1
@[irreducible] def cS := (eg5 ec).2.1
@[irreducible] def cP := (eg5 ec).2.2.1
@[irreducible] def rest := (eg5 ec).2.2.2.1
@[irreducible] def Q := (eg5 ec).2.2.2.2
end
set_option maxHeartbeats 8000000 in
theorem main : eS prog w A σ s p mg mb env ct cm cs cl cst cn f pl sh TB TR many tm lst k m kvs kv0 rn tk ons offs lks rbs base rows la sd rw us rvs fs cS cP rest Q := by
  intro  L Z R X H h
  have he := L.he
  have hs := L.hs
  refine LC.el Z ?_
  intro T I TK hct hcm hcs lo loR ne m4
  have G_range := gnl hs (by kernel_rfl) (gl_grange T)
  have xm := L.xm.cn he
  have xs := L.xs.cn he
  have xsl := L.xs.l
  obtain ⟨rk, hk, fk, rd, hd, fd, ord, D⟩ := X.D
  have hN : (((many : Int) + 1) - 1).toNat = many := by omega
  refine x_ret ?_
  walk_at "g"
  refine e_comp (σ := σ) he (by walk_at "caps") (by kernel_rfl) rfl (fun _ => rfl) (fun _ _ => rfl) R.h ?_
  walk_at "g"
  refine r_range2 ‹_› ?_
  intro rg p2 s2 l2 hrg H
  refine comp_of (N := (((many : Int) + 1) - 1).toNat) (p := p2) (J := fun i ws p' fs' mu' => ∀ C : List (Str × Option Value) → List Cell → Prop, (∀ o1, ws.length = i → BysL ws → C [(".0", none), ("number", o1)] ((env.locals, FrameP env fs) :: cS :: (TB, DcP (intKind prog w) kvs) :: (TR, DcP (strKind prog w) tk) :: cP :: rest)) → C fs' mu') (itb_range hrg (by omega) (by omega)) ‹_› (fun _ K => K none rfl .nil) ?_ ?_
  · intro env' CE i ws p3 fs' mu' c acc v s3 hi l3 J hv
    apply J
    clear J
    intro o1 hl hb
    apply ex_el hv
    clear hv
    intro tv
    intro H
    rw [hN] at hi
    have he := CE.ok
    have xs' := CE.cn "shelf" cs rfl rfl (by decide) (by decide)
    have Z := (Z.mono l2).mono l3
    refine LC.el6 Z ?_
    intro T I TK hct hcm hcs
    have G_group_label : GN env' mg mb "group_label" (.ref 426) := ⟨CE.kn _ .globalImplicit (by decide) rfl, gl_ggroup_label T, by decide⟩
    refine ⟨Nat.le_trans (show ws.length ≤ 4 by omega) (Nat.le_of_ble_eq_true rfl), ?_⟩
    walk_at "g"
    refine t_nil ?_
    walk_at "g"
    obtain ⟨qa, qu, gd, kv, gnm, gst, gt, q1, q2, q3, q4, q5, q6, q7⟩ := ((X.lab (1 + (i : Int)) (by omega) (by omega)).mono l2).mono l3
    refine' Sf.group_label ?S T ‹_› R (D.k0 _ _ q1) q2 q3 q6 q7 rfl ?_
    case S => exact (((D.mono l2).mono l3).mv (by walk_at "mem") (by walk_at "mem")).s
    intro s4 H
    refine ct_of Le.rfl (fun _ K => K _ (by simp; omega) ?_) H
    rw [← hl]
    exact hb.snoc _
  · intro ws p3 fs' mu' acc s3 l3 J
    apply J
    clear J
    intro o1 hl hb
    intro H
    rw [hN] at hl
    refine St.fz H ?_
    intro p4 l4 hacc H
    have l04 := l2.trans (l3.trans l4)
    have Z := Z.mono l04
    refine LC.el6 Z ?_
    intro T I TK hct hcm hcs
    refine e_comp (σ := σ) he (by walk_at "caps") (by kernel_rfl) rfl (fun _ => rfl) (fun _ _ => rfl) R.h ?_
    walk_at "g"
    refine r_range2 ‹_› ?_
    intro rg2 p5 s5 l5 hrg2 H
    refine comp_of (N := (((many : Int) + 1) - 1).toNat) (p := p5) (J := fun i ws p' fs' mu' => ∀ C : List (Str × Option Value) → List Cell → Prop, (∀ o1, ws.length = i → BysL ws → C [(".0", none), ("number", o1)] ((env.locals, FrameP env fs) :: cS :: (TB, DcP (intKind prog w) kvs) :: (TR, DcP (strKind prog w) tk) :: cP :: rest)) → C fs' mu') (itb_range hrg2 (by omega) (by omega)) ‹_› (fun _ K => K none rfl .nil) ?_ ?_
    · intro env' CE i ws p6 fs' mu' c acc v s6 hi l6 J hv
      apply J
      clear J
      intro o1 hl hb
      apply ex_el hv
      clear hv
      intro tv
      intro H
      rw [hN] at hi
      have he := CE.ok
      have T := (T.mono l5).mono l6
      have G_bytes : GN env' mg mb "bytes" (.type "bytes") := ⟨CE.kn _ .globalImplicit (by decide) rfl, gl_gbytes T, by decide⟩
      refine ⟨Nat.le_trans (show ws.length ≤ 4 by omega) (Nat.le_of_ble_eq_true rfl), ?_⟩
      walk_at "g"
      refine t_nil ?_
      walk_at "g"
      refine r_newList ‹_› (Nat.le_of_ble_eq_true rfl) ?_
      intro bl s7 H
      walk_at "g"
      refine r_bytes1 H (rd_m H (.head _)) (.cons _ _ .nil) (fun n hn => by rw [List.mem_singleton.mp hn]; omega) (Nat.le_of_ble_eq_true rfl) R.h ?_
      intro tb s8 H
      refine ct_of Le.rfl (fun _ K => K _ (by simp; omega) ?_) H.drop
      rw [← hl]
      exact hb.snoc _
    · intro ws2 p6 fs' mu' acc2 s6 l6 J
      apply J
      clear J
      intro o1 hl2 hb2
      intro H
      rw [hN] at hl2
      refine r_leq_same (rd_p H (hacc.mono (l5.trans l6))) (rd_m H (.head _)) (by omega) (fun j v u hv hu => ?_) R.cl ?_
      · obtain ⟨t, rfl⟩ := hb j v hv
        obtain ⟨t', rfl⟩ := hb2 j u hu
        exact eqat_bytes
      exact h p6 s6 (l04.trans (l5.trans l6)) H.drop
theorem all (x : eT) : eP x := eps (show eP ec by with_unfolding_all exact main) x
end law24_E
theorem law24 {prog : Program} {w : World} {A : Around} {σ s : Shared} {p : Heap} {mg mb : Str → Option Value} {env : Env} {ct cm cs cl cst cn f pl sh TB TR : Addr} {many : Nat} {tm : Tok} {lst : List Int} {k m : Nat} {kvs kv0 : List (Int × Value)} {rn : Int} {tk : List (Str × Value)} {ons offs lks rbs : List Int} {base : Str} {rows : Rws} {la sd rw : Addr} {us rvs : List Value} {fs : List (Str × Option Value)} {cS cP : Cell} {rest : List Cell} {Q : Flow → Shared → Prop} : law24_E.eS prog w A σ s p mg mb env ct cm cs cl cst cn f pl sh TB TR many tm lst k m kvs kv0 rn tk ons offs lks rbs base rows la sd rw us rvs fs cS cP rest Q :=
  law24_E.all (prog, w, A, σ, s, p, mg, mb, env, ct, cm, cs, cl, cst, cn, f, pl, sh, TB, TR, many, tm, lst, k, m, kvs, kv0, rn, tk, ons, offs, lks, rbs, base, rows, la, sd, rw, us, rvs, fs, cS, cP, rest, Q)
section
end
section
variable {prog : Program} {w : World} {A : Around} {E : Value → Shared → Prop} {σ s : Shared} {p : Heap} {mu mu' : List Cell} {mg mb : Str → Option Value} {env : Env}
variable {ct cm cs cl cst cn : Addr}
set_option maxHeartbeats 4000000 in
theorem law_all {k : Nat} {sc : Addr} {vals : List Value} {ns : List Int} {Q : Flow → Shared → Prop} (T : Tp (KK w) mg mb p) (B : BM mg p) (C : CodeHd p 509 505) (L : LE env ct cm cs cl cst cn) (R : Rm A (k + 60)) (hf : env.frame = some env.locals) (hfr : A.frames = some [env])
    (H : St σ p ((env.locals, FrameP env (lfs (some (.ref sc)) none none none none none none none none none none none none none)) :: (ct, CellP none) :: (cm, CellP none) :: (cs, CellP none) :: (cl, CellP none) :: (cst, CellP none) :: (cn, CellP none) :: [(505, (· = tabObj #[]))]) s)
    (hsl : p.IsList sc vals.toArray) (hI : IntsAre vals ns) (hz : vals.length ≤ 63)
    (h : ∀ p' mu' s', Le p p' → (505, Tab9) ∈ mu' → St σ p' mu' s' → Q (.ret (.bool true)) s') :
    wpAny (model prog w) A (execs (lawB 0) env) Q NE s := by
  refine law1 T B C L R H hsl hI hz ?_
  intro f pl sh TB TR many tm p1 s1 l1 Z H
  refine law2 L Z R H ?_
  intro kvs o1 p2 s2 l2 kt lab H
  have Z := Z.mono l2
  refine law4 L Z R kt lab H ?_
  intro lst la us b it rw vs rvs rows hd0 kvs' m p3 s3 l3 hnd hlz hlst hla hus hit hrw tr ra kt' kle hm hvs hrz hg H
  have Z := Z.mono l3
  have lab : ∀ n : Int, 1 ≤ n → n ≤ many → LabAt prog w p3 kvs' n (labO n) := fun n h1 h2 => ((lab n h1 h2).mono l3).ext kle
  have m4 := Z.m4
  have hmm : many ≤ m := by
    rcases Nat.lt_or_ge m many with hlt | hge
    · exfalso
      have h1 := kt.inn many (by omega) (Nat.le_refl _)
      obtain ⟨v, hv⟩ := Option.isSome_iff_exists.mp h1
      have h2 := kle _ _ hv
      rw [kt'.out _ (by omega)] at h2
      cases h2
    · exact hge
  refine law7 L Z R kt' hm hit hrw tr ra hrz H ?_
  intro ll a0 a1 a2 a3 n0 n1 n2 n3 p4 s4 l4 hll h0 h1 h2 h3 H
  have Z := Z.mono l4
  refine law9 (m := 0) L Z R hf hfr hll h0 h1 h2 h3 (VT.ls (hit.mono l4)) (fun n h1 h2 => (lab n h1 h2).mono l4) (hla.mono l4) hus hlst hlz H ?_
  intro fd fk hd gl gvs p5 s5 l5 cf hfk rdh hgl hgr H
  have Z := Z.mono l5
  have l45 := l4.trans l5
  obtain ⟨x0, u0, rfl, q01, q02, q03, q04⟩ := h0
  obtain ⟨x1, u1, rfl, q11, q12, q13, q14⟩ := h1
  obtain ⟨x2, u2, rfl, q21, q22, q23, q24⟩ := h2
  obtain ⟨x3, u3, rfl, q31, q32, q33, q34⟩ := h3
  refine law15 L Z R kt' hm hmm (hit.mono l45) hvs (tr.mono l45) hrz hg cf hfk rdh hgl hgr hlst hlz ⟨q03, q04⟩ ⟨q13, q14⟩ ⟨q23, q24⟩ ⟨q33, q34⟩ H ?_
  intro kvs2 m2 tk rk rd p6 s6 l6 hm2a hm2b D H
  have Z := Z.mono l6
  have l36 := l45.trans l6
  have l46 := l5.trans l6
  have D := D.mv (mu' := [(TB, DcP (intKind prog w) kvs2), (TR, DcP (strKind prog w) tk)]) (.head _) (.tail _ (.head _))
  have b4 : ∀ {l : List Int}, (∀ n ∈ l, 1 ≤ n ∧ n ≤ (many : Int)) → ∀ n ∈ l, 1 ≤ n ∧ n ≤ (4 : Int) := fun h n hn => by have := h n hn; omega
  refine law16 (cN := (0, fun _ => True)) L Z.T R (hll.mono l46) (q01.mono l46) q02 (q11.mono l46) q12 (hla.mono l36) hus hnd hlz H ?_
  intro sd o2 s7 los H
  refine law18 L Z.T R (hll.mono l46) (q01.mono l46) q02 (q11.mono l46) q12 (q21.mono l46) q22 ⟨q03, b4 q04⟩ ⟨q13, b4 q14⟩ ⟨q23, b4 q24⟩ (hla.mono l36) hus H ?_
  intro fa fu o3 ow on p8 s8 l8 hfu H
  have Z := Z.mono l8
  have zl : ∀ (l : List Int) (g : Int → Str), l.length ≤ 2 → (((ddp l).filter (notIn lst)).map g).length ≤ 2 := fun l g hl => by
    rw [List.length_map]
    exact Nat.le_trans (List.length_filter_le _ _) (Nat.le_trans (ddp_length _) hl)
  have hF3 : (lf3 lst (ddp n0) (ddp n1) (ddp n2) 3).length ≤ 6 := by
    show (((_ ++ _) ++ _ : List Str)).length ≤ 6
    rw [List.length_append, List.length_append]
    have h1 := zl n0 (ftl "ON") q03
    have h2 := zl n1 (ftl "OFF") q13
    have h3 := zl n2 (ftl "Locked") q23
    omega
  refine law20 (la := 0) L Z.T R (hll.mono (l46.trans l8)) (q31.mono (l46.trans l8)) q32 ⟨q33, b4 q34⟩ los hfu (Nat.le_trans hF3 (by decide)) H ?_
  intro fu2 p9 s9 l9 hfu2 H
  have Z := Z.mono l9
  have l69 := l8.trans l9
  have l39 := l36.trans l69
  have hcr : (crowded (boolD lst (stv b n0 n1)) (ddp n3)).length ≤ 1 := by
    unfold crowded
    split <;> simp
  refine law21 L Z.T R (hla.mono l39) hus (hrw.mono l39) (ra.mono l39) hrz (b4 hg) hfu2 (by rw [List.length_append, List.length_map]; omega) H ?_
  intro fa3 fu3 p10 s10 l10 hfu3 H
  have Z := Z.mono l10
  have D := D.mono (l69.trans l10)
  have hbase : (if b = true then Str.ofString "OFF" else Str.ofString "ON") = Str.ofString (if b = true then "OFF" else "ON") := by cases b <;> rfl
  rw [hbase] at D
  refine law22 (b := b) L Z R rfl hnd los D hfu3 H ?_
  intro p11 s11 l11 H
  have Z := Z.mono l11
  have l311 := l39.trans (l10.trans l11)
  have hsv : boolD lst (stv b n0 n1) = boolD lst (sfun (Str.ofString (if b = true then "OFF" else "ON") != "OFF") n0 n1) := by
    rw [← start_stv (n0 := n0) (n1 := n1) (lst := lst) (b := b) rfl hnd, start_sfun hnd]
  rw [hsv] at H
  refine law23 L Z R los hm2b hrz ⟨⟨rk, _, fk, rd, hd, fd, it, D.mono l11⟩, hla.mono l311, hus, hnd, hrw.mono l311, ra.mono l311, by omega, fun n h1 h2 => (lab n h1 h2).mono l311, hm2a⟩ H ?_
  intro m kvs kv0 lst ons rows la rw us rvs v4 v5 v11 v12 v13 p12 s12 l12 X H
  have Z := Z.mono l12
  refine law24 L Z R X H ?_
  intro p13 s13 l13 H
  exact h p13 _ s13 (l1.trans (l2.trans (l311.trans (l12.trans l13) |> fun l => l3.trans l))) (by walk_at "mem") H
end
theorem cells_law (n : Nat) : cellsFrom n lawSc.names [] = ([("numbers", n + 5), ("states", n + 4), ("listed", n + 3), ("shelf", n + 2), ("many", n + 1), ("take", n)] : List (Str × Addr)) := by kernel_rfl
section
variable {prog : Program} {w : World} {A : Around} {E : Value → Shared → Prop} {s : Shared} {p : Heap} {mg mb : Str → Option Value} {env : Env}
theorem law_top {k L : Nat} {sc : Addr} {vals : List Value} {ns : List Int} {m : Str → Option Value} {Q : Flow → Shared → Prop} (X : (KK w).In p) (Tg : p.Ns mainGlobals mg) (Tb : p.Ns builtinsNs mb) (Tl : p.NoLimit) (Ti : ∀ x : Str, x ≠ "__name__" → mb x = bootBuiltins x)
    (B : BM mg p) (C : CodeHd p 509 505) (hs : env.scope = lawSc) (hg : env.globals = mainGlobals) (hb : env.builtins = builtinsNs) (hL : env.locals = L) (hf : env.frame = some L) (hc : env.cells = cellsFrom (L + 1) lawSc.names [])
    (hfr : A.frames = some [env]) (R : Rm A (k + 60)) (keep : Le p s.heap) (above : p.objs.size ≤ L) (hm : s.heap.Ns L m) (hscr : m "script" = some (.ref sc))
    (cells : ∀ i, i < 6 → ∃ o, s.heap.get? (L + 1 + i) = some o ∧ o.data = .cell none) (tab : s.heap.get? 505 = some (tabObj #[])) (htp : p.get? 505 = none) (hlt : 505 < L)
    (hsl : p.IsList sc vals.toArray) (hI : IntsAre vals ns) (hz : vals.length ≤ 63)
    (h : ∀ p' s', Le p p' → Le p' s'.heap → (∃ ps, s'.heap.get? 505 = some (tabObj ps)) → s'.gens = s.gens → s'.os = s.os → Q (.ret (.bool true)) s') :
    wpAny (model prog w) A (execs (bodyOf (stm 43)) env) Q NE s := by
  have T : Tp (KK w) mg mb p := ⟨X, Tg, Tb, Tl, Ti⟩
  rw [cells_law] at hc
  have he : EnvOk env := ⟨by rw [hs]; kernel_rfl, hg, hb⟩
  have LEx : LE env (L + 1) (L + 2) (L + 3) (L + 4) (L + 5) (L + 6) :=
    ⟨hs, he, ⟨ko hs (by kernel_rfl), by rw [hc]; rfl⟩, ⟨ko hs (by kernel_rfl), by rw [hc]; rfl⟩, ⟨ko hs (by kernel_rfl), by rw [hc]; rfl⟩, ⟨ko hs (by kernel_rfl), by rw [hc]; rfl⟩, ⟨ko hs (by kernel_rfl), by rw [hc]; rfl⟩, ⟨ko hs (by kernel_rfl), by rw [hc]; rfl⟩⟩
  have off : ∀ a, L ≤ a → p.get? a = none := fun a ha => by
    cases e : p.get? a with
    | none => rfl
    | some o => exact absurd (Heap.lt_size e) (Nat.not_lt.mpr (Nat.le_trans above ha))
  have F : Pt s.heap env.locals (FrameP env (lfs (some (.ref sc)) none none none none none none none none none none none none none)) := by
    rw [hL]
    refine FrameP.of hm (fun x v hx => ?_) ⟨by show (["script", "number", "is_off", "items", "rows", "turn", "lists", "first", "head", "faults", "word", "label", "place", "config"] : List Str).Nodup; decide, fun q hq => ?_, he.kind⟩
    · have key : (x, some v) = (("script" : Str), some (Value.ref sc)) ∨ (x, some v) ∈ ([("number", none), ("is_off", none), ("items", none), ("rows", none), ("turn", none), ("lists", none), ("first", none), ("head", none), ("faults", none), ("word", none), ("label", none), ("place", none), ("config", none)] : List (Str × Option Value)) := List.mem_cons.mp hx
      rcases key with e | hx
      · cases e; exact hscr
      · exfalso
        have : ∀ q ∈ ([("number", none), ("is_off", none), ("items", none), ("rows", none), ("turn", none), ("lists", none), ("first", none), ("head", none), ("faults", none), ("word", none), ("label", none), ("place", none), ("config", none)] : List (Str × Option Value)), q.2 = none := by
          intro q hq
          simp only [List.mem_cons, List.not_mem_nil, or_false] at hq
          rcases hq with rfl | rfl | rfl | rfl | rfl | rfl | rfl | rfl | rfl | rfl | rfl | rfl | rfl <;> rfl
        have := this _ hx
        cases this
    · refine ko hs ?_
      have key : ∀ x ∈ (["script", "number", "is_off", "items", "rows", "turn", "lists", "first", "head", "faults", "word", "label", "place", "config"] : List Str), lawSc.names.lookup x = some .local := by
        have : ((["script", "number", "is_off", "items", "rows", "turn", "lists", "first", "head", "faults", "word", "label", "place", "config"] : List Str).all fun x => lawSc.names.lookup x == some .local) = true := by kernel_rfl
        intro x hx
        simpa using List.all_eq_true.mp this x hx
      exact key q.1 (List.mem_map_of_mem (f := (·.1)) hq)
  have cell : ∀ i, i < 6 → Pt s.heap (L + 1 + i) (CellP none) := fun i hi => let ⟨o, e, d⟩ := cells i hi; ⟨o, e, d⟩
  have H : St s p ((env.locals, FrameP env (lfs (some (.ref sc)) none none none none none none none none none none none none none)) :: (L + 1, CellP none) :: (L + 2, CellP none) :: (L + 3, CellP none) :: (L + 4, CellP none) :: (L + 5, CellP none) :: (L + 6, CellP none) :: [(505, (· = tabObj #[]))]) s := by
    refine ⟨keep, fun q hq => ?_, ?_, rfl, rfl, rfl⟩
    · simp only [List.mem_cons, List.not_mem_nil, or_false] at hq
      rcases hq with rfl | rfl | rfl | rfl | rfl | rfl | rfl | rfl
      · exact ⟨F, off _ (by rw [hL]; exact Nat.le_refl _)⟩
      · exact ⟨cell 0 (by decide), off _ (Nat.le_add_right _ _)⟩
      · exact ⟨cell 1 (by decide), off _ (Nat.le_add_right _ _)⟩
      · exact ⟨cell 2 (by decide), off _ (Nat.le_add_right _ _)⟩
      · exact ⟨cell 3 (by decide), off _ (Nat.le_add_right _ _)⟩
      · exact ⟨cell 4 (by decide), off _ (Nat.le_add_right _ _)⟩
      · exact ⟨cell 5 (by decide), off _ (Nat.le_add_right _ _)⟩
      · exact ⟨⟨_, tab, rfl⟩, htp⟩
    · rw [hL]
      simp only [List.map_cons, List.map_nil, List.nodup_cons, List.mem_cons, List.not_mem_nil, or_false, not_false_eq_true, List.nodup_nil, and_true]
      have key : ∀ n : Nat, 505 < n → ¬(n = n + 1 ∨ n = n + 2 ∨ n = n + 3 ∨ n = n + 4 ∨ n = n + 5 ∨ n = n + 6 ∨ n = 505) ∧
          ¬(n + 1 = n + 2 ∨ n + 1 = n + 3 ∨ n + 1 = n + 4 ∨ n + 1 = n + 5 ∨ n + 1 = n + 6 ∨ n + 1 = 505) ∧
          ¬(n + 2 = n + 3 ∨ n + 2 = n + 4 ∨ n + 2 = n + 5 ∨ n + 2 = n + 6 ∨ n + 2 = 505) ∧
          ¬(n + 3 = n + 4 ∨ n + 3 = n + 5 ∨ n + 3 = n + 6 ∨ n + 3 = 505) ∧
          ¬(n + 4 = n + 5 ∨ n + 4 = n + 6 ∨ n + 4 = 505) ∧ ¬(n + 5 = n + 6 ∨ n + 5 = 505) ∧ ¬n + 6 = 505 := by
        intro n hn
        omega
      exact key L hlt
  refine law_all T B C LEx R (by rw [hf, hL]) hfr H hsl hI hz ?_
  intro p' mu' s' l hmem H'
  obtain ⟨⟨o, e, ps, rfl⟩, _⟩ := H'.own _ hmem
  exact h p' s' l H'.keep ⟨ps, e⟩ H'.gens H'.os
end
set_option maxHeartbeats 0 in
theorem fin : PySem.Challenge.rw_pb0484_01.Holds := by
  w_on
  refine holds_law said fun _ => ?_
  refine holds_open (q := VW) (loose := LO) (Xt := xT) (XP := XL VW []) (Yf := (kmHook K39 aK aK_of [505]).obs) (Ya := (kmHook K39 aK aK_of [505]).val) (YP := (kmHook K39 aK aK_of [505]).says) (N := 8014) left (Hook.of (kmHook K39 aK aK_of [505])) (Hook.keeps (kmHook K39 aK aK_of [505])) (fun s e => xl_of s (Bool.and_eq_true_iff.mp e).1) XL.keeps (by rfl) (by rfl) (by rfl) (fun s e => recFacts_of (Bool.and_eq_true_iff.mp e).2) (by rfl) (by first | assumption | decide +kernel) (by decide +kernel) ⟨rfl, rfl, rfl, rfl, rfl, by decide +kernel⟩ ?hw ?hc
  case hw => w_witness2
  k_go0
  rename_i w s₀ s₁ mg mb G Y fa o pm cd doc ho hcd hg X V T B TE TW ns hs hlay0 hL1 hr1 hl2 w10 w9 sc vals w6 hL ra w1 r0 hI hr c1 c2 hD h₁ tk w5 w4 w3 w2 w1' w0 left4 left3 left2 left1 left0 right X0 X' T' K' F' N' l0
  have m6 := N' _ (.head _)
  have m5 := N' _ (.tail _ (.head _))
  have m4 := N' _ (.tail _ (.tail _ (.head _)))
  have m3 := N' _ (.tail _ (.tail _ (.tail _ (.head _))))
  have m2 := N' _ (.tail _ (.tail _ (.tail _ (.tail _ (.head _)))))
  have m1 := N' _ (.tail _ (.tail _ (.tail _ (.tail _ (.tail _ (.head _))))))
  have m0 := N' _ (.tail _ (.tail _ (.tail _ (.tail _ (.tail _ (.tail _ (.head _)))))))
  refine wpAny_mono (law_top (k := 0) (sc := sc) (vals := vals) (Q := fun fl s' => fl = .ret (.bool true) ∧ Le (ghostOf s₁.heap [(509, 505)]) s'.heap ∧ (∃ ps, s'.heap.get? 505 = some (tabObj ps)) ∧ s'.gens = #[] ∧ s'.os = s₁.os)
    X' T'.g T'.b T'.nolimit T'.builtins T'.bmain codeHd rfl rfl rfl rfl rfl rfl rfl ?R F'.keep F'.above F'.ns ?hscr ?cells m0.1 m0.2.2 l0 lifted hI ?hz ?h) ?mono ?err
  case R => exact Rm.deeper (A := callerA) (k := 60) ⟨by decide, by decide, rfl⟩
  case hscr => kernel_rfl
  case cells =>
    intro i hi
    match i, hi with
    | 0, _ => exact ⟨_, m1.1, right.trans (by kernel_rfl)⟩
    | 1, _ => exact ⟨_, m2.1, left0.trans (by kernel_rfl)⟩
    | 2, _ => exact ⟨_, m3.1, left1.trans (by kernel_rfl)⟩
    | 3, _ => exact ⟨_, m4.1, left2.trans (by kernel_rfl)⟩
    | 4, _ => exact ⟨_, m5.1, left3.trans (by kernel_rfl)⟩
    | 5, _ => exact ⟨_, m6.1, left4.trans (by kernel_rfl)⟩
  case hz => rw [hI.length]; omega
  case h => exact fun p' s' l hk ht hg' ho => ⟨rfl, l.trans hk, ht, hg'.trans hg, ho⟩
  case err => exact fun _ _ q => q.elim
  case mono =>
    rintro fl s' ⟨rfl, hk, ⟨ps, hps⟩, hg', ho'⟩
    clear hD left4 left3 left2 left1 left0 right X0 N' m6 m5 m4 m3 m2 m1 m0 F' hcd
    exact ⟨⟨.inl ⟨.bool true, .bool true, [], rfl, fun _ => rfl, .bool true, by kernel_rfl, unshared_nil⟩, hk, ho', hg'⟩, ⟨⟨ps, hps⟩, trivial⟩⟩
end Mine
theorem PySem.Challenge.cw_pb0484_01_holds : PySem.Challenge.rw_pb0484_01.Holds :=
  Mine.fin
